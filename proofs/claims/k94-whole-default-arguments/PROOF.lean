import PyProof.Rows.All
import Wide.All
import OpenK.AllK
import Wide.FinOn
import HandS.ForMost
import HandS.Defaults
import PyProof.DictUpdate
import HandS.Walk
import HandS.DictComp
import HandS.More
import HandS.TupSets
import KE.KMinKey
import KE.KWithOwn
import HandS.Property
import HandS.Small
import PyProof.ReprRoads
import PyProof.ReprLen
import HandS.HeadHook1
import HandS.HeadHook2
import HandS.HeadHook3
import HandS.HeadHook4
import HandS.IsInst
import HandS.Lambda
import KE.SortData
import HandS.Conv
import HandS.Codes
import HandS.EndTab
import KE.KSuper
import HandS.Exc
import HandS.SortKw
import HandS.Head0
import HandS.Head1
import HandS.Head2
import KE.KStateDown
import Lean
import KE.KExcIs
import HandS.ExcInit
import HandS.ExcOwn
import HandS.ExcValue
import HandS.ClsMeth
import PyProof.ExcBaseAll.ValueError
import PyProof.ExcBaseAll.RuntimeError
import PyProof.ExcBaseAll.LookupError
import PyProof.ExcBaseAll.IndexError
import HandS.TryOnly
import HandS.Star
import HandS.DictEq
import HandS.ListEq
import HandS.ExcField
import HandS.Strs
import HandS.Set
import HandS.SetFor
import HandS.MakeKwOnly
import HandS.CallLocal
import HandS.Style
import HandS.Flow
import KE.LtSeq
import KE.LtData
import KE.SortCalls
import HandS.Iter
import KE.GoesEnum
import HandS.TupMul
import KE.SortLaws
import KE.DataMinKey
import HandS.Text
import HandS.Sort
import HandS.Finally
import KE.KDictWalk
import KE.KDictCopyH
import HandS.Comp
import HandS.Deep
import HandS.Call
import HandS.GenBody
import HandS.GenYield
import HandS.GenList
import HandS.RepeatKit
import HandS.Zip
import KE.GoesMore
import PySem.Challenge.RW_weakcuts_k94_whole_default_arguments
set_option Elab.async false
set_option linter.all false
set_option maxRecDepth 100000
set_option maxHeartbeats 4000000
/-! places of the defs in the row -/
namespace Wk
open PySem PySem.Spec PyProof.Rows L2
def topS (i : Nat) : Stmt := PySem.Challenge.pw_weakcuts_k94_whole_default_arguments.main.body.getD i (.Pass ⟨0, 0, 0, 0⟩)
abbrev s_InvalidFloor_init : Stmt := inClass (topS 5) 0
abbrev s_TooWeak_init : Stmt := inClass (topS 6) 0
abbrev s_UnknownVertex_init : Stmt := inClass (topS 7) 0
abbrev s_SameVertex_init : Stmt := inClass (topS 8) 0
abbrev s_is_between : Stmt := topS 12
abbrev s_is_name : Stmt := topS 13
abbrev s_is_tuple_of : Stmt := topS 14
abbrev s_check_pair : Stmt := topS 16
abbrev s_is_arc : Stmt := topS 17
abbrev s_flow_total : Stmt := topS 18
abbrev s_Search_init : Stmt := inClass (topS 19) 0
abbrev s_Search_levels : Stmt := inClass (topS 19) 1
abbrev s_Search_move : Stmt := inClass (topS 19) 2
abbrev s_Search_advance : Stmt := inClass (topS 19) 3
abbrev s_Search_run : Stmt := inClass (topS 19) 4
abbrev s_Search_arcs : Stmt := inClass (topS 19) 5
abbrev s_greatest_amounts : Stmt := topS 20
abbrev s_Flow_init : Stmt := inClass (topS 22) 0
abbrev s_Flow_greatest : Stmt := inClass (topS 22) 3
abbrev s_Flow_total : Stmt := inClass (topS 22) 6
abbrev s_side_of : Stmt := topS 24
abbrev s_last_two : Stmt := topS 25
abbrev s_merge_rows : Stmt := topS 26
abbrev s_least_cut : Stmt := topS 27
abbrev s_strength_of : Stmt := topS 28
abbrev s_pair_strength : Stmt := topS 29
abbrev s_Graph_init : Stmt := inClass (topS 31) 2
abbrev s_Graph_eq : Stmt := inClass (topS 31) 3
abbrev s_Graph_check_vertex : Stmt := inClass (topS 31) 9
abbrev s_can_join : Stmt := topS 32
abbrev s_sorted_rows : Stmt := topS 33
abbrev s_reached : Stmt := topS 34
abbrev s_check_connected : Stmt := topS 35
abbrev s_Network_init : Stmt := inClass (topS 42) 0
abbrev s_Network_ring : Stmt := inClass (topS 42) 1
abbrev s_Network_complete : Stmt := inClass (topS 42) 2
abbrev s_Network_strength : Stmt := inClass (topS 42) 7
abbrev s_Network_check_strength : Stmt := inClass (topS 42) 11
abbrev s_Network_accept : Stmt := inClass (topS 42) 12
abbrev s_Network_set_root : Stmt := inClass (topS 42) 13
abbrev s_graph_of : Stmt := topS 43
abbrev s_GuardedNetwork_init : Stmt := inClass (topS 45) 0
abbrev s_GuardedNetwork_floor : Stmt := inClass (topS 45) 1
abbrev s_GuardedNetwork_set_floor : Stmt := inClass (topS 45) 2
abbrev s_L_pen : Stmt := topS 49
abbrev s_L_draw : Stmt := topS 50
abbrev s_L_pick : Stmt := topS 51
abbrev s_L_shuffled : Stmt := topS 52
abbrev s_L_names : Stmt := topS 53
abbrev s_L_weights : Stmt := topS 54
abbrev s_L_network : Stmt := topS 55
abbrev s_L_edges : Stmt := topS 56
abbrev s_L_made : Stmt := topS 57
abbrev s_law : Stmt := topS 58
/-- a def without defaults, as the row has it -/
abbrev FnP (K : PySem.W.Frag) (x qual : Str) (st : Stmt) (f : Addr) (fd : FuncData) : Prop := FunD K x qual (defArgs st) (defBody st) (defScope st) [] [] f fd
end Wk
namespace WkD
open PySem PySem.Spec PyProof.Rows L2
/-! ### things that are known from now on -/
def tFz : List (Addr × HO) → (Hp → Prop) → Hp → Prop
  | [], P, H => P H
  | (d, u) :: r, P, H => H d = some u ∧ Mut (some u) ∧ ∀ od, tFz r P (upd H d (.frz od u))
section
variable {X : Cx} {pins : List (Addr × Obj)} {σ : L2.St} {s : Shared}
theorem inv_fz : ∀ {l : List (Addr × HO)} {H : Hp} {P : Hp → Prop}, Inv X pins σ H s → tFz l P H → ∃ H', Inv X pins σ H' s ∧ P H'
  | [], H, P, I, h => ⟨H, I, h⟩
  | (d, u) :: r, H, P, I, h => by
    obtain ⟨h1, h2, h3⟩ := h
    obtain ⟨od, I2⟩ := I.lock h1 h2
    exact inv_fz I2 (h3 od)
theorem tFz_intro : ∀ {l : List (Addr × HO)} {H : Hp} {P : Hp → Prop}, (∀ p ∈ l, H p.1 = some p.2 ∧ Mut (some p.2)) → (l.map (·.1)).Nodup → (∀ H', (∀ p ∈ l, ∃ od, H' p.1 = some (.frz od p.2)) → (∀ b, b ∉ l.map (·.1) → H' b = H b) → P H') → tFz l P H
  | [], H, P, _, _, k => k H (fun p hp => absurd hp (by simp)) fun b _ => rfl
  | (d, u) :: r, H, P, h, nd, k => by
    obtain ⟨h1, h2⟩ := h (d, u) List.mem_cons_self
    rw [List.map_cons, List.nodup_cons] at nd
    refine ⟨h1, h2, fun od => tFz_intro (fun p hp => ?_) nd.2 fun H' q1 q2 => k H' (fun p hp => ?_) fun b hb => ?_⟩
    · have hne : p.1 ≠ d := fun e => nd.1 (List.mem_map.mpr ⟨p, hp, e⟩)
      obtain ⟨g1, g2⟩ := h p (List.mem_cons_of_mem _ hp)
      exact ⟨by rw [upd_ne hne]; exact g1, g2⟩
    · rcases List.mem_cons.mp hp with rfl | hp
      · exact ⟨od, by rw [q2 _ nd.1]; exact upd_same⟩
      · exact q1 p hp
    · rw [List.map_cons, List.mem_cons, not_or] at hb
      rw [q2 b hb.2, upd_ne hb.1]
/-- behind a statement -/
theorem ps_fz {st : Stmt} {t : TS} (h : PS X st t) : PS X st (fun D σ H => t ⟨fun σ' H' => ∃ l, tFz l (D.nx σ') H', fun v H' => ∃ l, tFz l (D.rt v) H', fun σ' H' => ∃ l, tFz l (D.bk σ') H', fun σ' H' => ∃ l, tFz l (D.ct σ') H'⟩ σ H) := by
  refine ⟨fun pins s σ H D I q => thn (h.run pins s σ H _ I q) fun f s' hf => ?_⟩
  cases f with
  | next =>
    obtain ⟨σ', H', J, l, z⟩ := hf
    obtain ⟨H2, J2, z2⟩ := inv_fz J z
    exact ⟨σ', H2, J2, z2⟩
  | brk =>
    obtain ⟨σ', H', J, l, z⟩ := hf
    obtain ⟨H2, J2, z2⟩ := inv_fz J z
    exact ⟨σ', H2, J2, z2⟩
  | cont =>
    obtain ⟨σ', H', J, l, z⟩ := hf
    obtain ⟨H2, J2, z2⟩ := inv_fz J z
    exact ⟨σ', H2, J2, z2⟩
  | ret u =>
    obtain ⟨v, σ', H', J, r, l, z⟩ := hf
    obtain ⟨H2, J2, z2⟩ := inv_fz J z
    exact ⟨v, σ', H2, J2, r, z2⟩
/-- ahead of a statement -/
theorem ps_fz0 {st : Stmt} {t : TS} (h : PS X st t) : PS X st (fun D σ H => ∃ l, tFz l (t D σ) H) := by
  refine ⟨fun pins s σ H D I q => ?_⟩
  obtain ⟨l, z⟩ := q
  obtain ⟨H2, J2, z2⟩ := inv_fz I z
  exact h.run pins s σ H2 D J2 z2
end
/-! ### comprehensions over what is walked -/
section
variable {J : It} {n : Nat} {G : Hp → Prop} {Y : Nat → Hp → V → Hp → Prop}
theorem dc_it (w : Walk J n G Y) {g : TG} {tt : TT} {tk tv : TE} {vs : List Nat} {σ : L2.St} {H1 : Hp} {D : Addr} {Qd : Hp → Prop} (Pv : Nat → Hp → Prop) (h0 : Pv 0 (upd H1 D (.dK []))) (hG : ∀ i H, i ≤ n → Pv i H → G H)
    (hs : ∀ i x H H', i < n → Pv i H → Y i H x H' → g x (wipe σ vs) H' fun σ2 H2 => wipe σ2 vs = wipe σ vs ∧ tt σ2 H2 fun b H3 =>
      if b = true then tk σ2 H3 fun y H4 => tv σ2 H4 fun z H5 => ∃ kvs k, y = kV k ∧ H5 D = some (.dK kvs) ∧ kvs.length < sizeLine ∧ Pv (i + 1) (upd H5 D (.dK (putK kvs k z))) else Pv (i + 1) H3) (hd : ∀ H, Pv n H → Qd H) :
    ∃ W : Nat → Nat → Hp → Prop, (∃ m, W 0 m (upd H1 D (.dK []))) ∧ ∀ i m H, W i m H →
      (J.stop i H ∧ Qd H) ∨ (J.go i H ∧ ∃ Nx : Hp → Prop, (∀ H', Nx H' → ∃ m', m' < m ∧ W (i + 1) m' H') ∧ ∀ x H', J.yld i H x H' → g x (wipe σ vs) H' fun σ2 H2 => wipe σ2 vs = wipe σ vs ∧ tt σ2 H2 fun b H3 =>
        if b = true then tk σ2 H3 fun y H4 => tv σ2 H4 fun z H5 => ∃ kvs k, y = kV k ∧ H5 D = some (.dK kvs) ∧ kvs.length < sizeLine ∧ Nx (upd H5 D (.dK (putK kvs k z))) else Nx H3) := by
  refine ⟨fun i m H => m = n - i ∧ i ≤ n ∧ Pv i H, ⟨n, by omega, by omega, h0⟩, fun i m H z => ?_⟩
  obtain ⟨em, hi, p⟩ := z
  have q := hG i H hi p
  by_cases hlt : i < n
  · exact .inr ⟨w.goes i H hlt q, Pv (i + 1), fun H' p' => ⟨n - (i + 1), by omega, rfl, hlt, p'⟩, fun x H' y => hs i x H H' hlt p (w.yields i H x H' hlt q y)⟩
  · have e : i = n := by omega
    subst e
    exact .inl ⟨w.stops H q, hd H p⟩
/-- the inner loop of a comprehension with two clauses; or the outer one -/
theorem in_it (w : Walk J n G Y) {B : (Hp → Prop) → V → Hp → Prop} {H0 : Hp} {Qd : Hp → Prop} (Pv : Nat → Hp → Prop) (h0 : Pv 0 H0) (hG : ∀ i H, i ≤ n → Pv i H → G H) (hs : ∀ i x H H', i < n → Pv i H → Y i H x H' → B (Pv (i + 1)) x H') (hd : ∀ H, Pv n H → Qd H) :
    ∃ W : Nat → Nat → Hp → Prop, (∃ m, W 0 m H0) ∧ ∀ i m H, W i m H → (J.stop i H ∧ Qd H) ∨ (J.go i H ∧ ∃ Nx : Hp → Prop, (∀ H', Nx H' → ∃ m', m' < m ∧ W (i + 1) m' H') ∧ ∀ x H', J.yld i H x H' → B Nx x H') := by
  refine ⟨fun i m H => m = n - i ∧ i ≤ n ∧ Pv i H, ⟨n, by omega, by omega, h0⟩, fun i m H z => ?_⟩
  obtain ⟨em, hi, p⟩ := z
  have q := hG i H hi p
  by_cases hlt : i < n
  · exact .inr ⟨w.goes i H hlt q, Pv (i + 1), fun H' p' => ⟨n - (i + 1), by omega, rfl, hlt, p'⟩, fun x H' y => hs i x H H' hlt p (w.yields i H x H' hlt q y)⟩
  · have e : i = n := by omega
    subst e
    exact .inl ⟨w.stops H q, hd H p⟩
end
/-! ### a dict beside {} -/
section
variable {X : Cx}
def rNeE : R2 := fun x y H Q => ∃ a b ks, x = .ref a ∧ y = .ref b ∧ Rd H a (.dK ks) ∧ H b = some (.dK []) ∧ Q (.bl (!ks.isEmpty)) H
theorem op_neE (hu : X.A.units < cLine) : OpR X (compareOp .NotEq) rNeE := by
  intro pins s σ H x y v u Q I rx ry h
  obtain ⟨a, b, ks, rfl, rfl, ea, eb, q⟩ := h
  obtain rfl : v = Value.ref a := rx
  obtain rfl : u = Value.ref b := ry
  obtain ⟨_, ya, va, ra, da⟩ := dk_rd I.hok ea
  obtain ⟨_, yb, vb, rb, db⟩ := dk_of I.hok eb
  cases rb
  refine PySem.W.keq_ne (knd := mixKind X.prog X.w) (r := true) ya yb da db hu (fun z => ?_) ?_
  · have e : va = [] := List.length_eq_zero_iff.mp z
    subst e
    exact .nil
  · refine ⟨.bl (!ks.isEmpty), H, I, ?_, q⟩
    cases ra with
    | nil => rfl
    | cons _ _ => rfl
end
end WkD
namespace WkD
open PySem PySem.Spec PyProof.Rows L2
/-! ### the order of texts -/
def ltS (a b : Str) : Prop := a.cps.toList < b.cps.toList
instance (a b : Str) : Decidable (ltS a b) := inferInstanceAs (Decidable (a.cps.toList < b.cps.toList))
theorem ltS_irrefl (a : Str) : ¬ ltS a a := List.lt_irrefl _
theorem ltS_trans {a b c : Str} (h : ltS a b) (k : ltS b c) : ltS a c := List.lt_trans h k
theorem str_ext {a b : Str} (h : a.cps.toList = b.cps.toList) : a = b := by
  obtain ⟨a⟩ := a
  obtain ⟨b⟩ := b
  have e : a = b := Array.toList_inj.mp h
  rw [e]
theorem ltS_tri (a b : Str) : ltS a b ∨ a = b ∨ ltS b a := by
  by_cases h : ltS a b
  · exact .inl h
  · by_cases k : ltS b a
    · exact .inr (.inr k)
    · exact .inr (.inl (str_ext (List.le_antisymm (List.not_lt.mp k) (List.not_lt.mp h))))
theorem ltS_asymm {a b : Str} (h : ltS a b) : ¬ ltS b a := fun k => ltS_irrefl a (ltS_trans h k)
theorem ltS_of_not {a b : Str} (h : ¬ ltS b a) (n : a ≠ b) : ltS a b := by
  rcases ltS_tri a b with z | z | z
  · exact z
  · exact absurd z n
  · exact absurd z h
theorem rising_ok : ∀ {ys : List Str} {x : Str}, risingS x ys = true → (x :: ys).Pairwise fun a b => ¬ ltS b a
  | [], x, _ => by simp
  | y :: r, x, h => by
    have h : (!ltCps y.cps.toList x.cps.toList && risingS y r) = true := h
    rw [Bool.and_eq_true, Bool.not_eq_true', ltCps_eq, decide_eq_false_iff_not] at h
    have ih := rising_ok h.2
    refine List.pairwise_cons.mpr ⟨fun z hz => ?_, ih⟩
    rcases List.mem_cons.mp hz with rfl | hz
    · exact h.1
    · have k := (List.pairwise_cons.mp ih).1 z hz
      intro q
      rcases ltS_tri y z with e | e | e
      · exact h.1 (ltS_trans e q)
      · exact h.1 (e ▸ q)
      · exact k e
theorem sorted_ok {ys : List Str} (h : sortedS ys = true) : ys.Pairwise fun a b => ¬ ltS b a := by
  cases ys with
  | nil => exact List.Pairwise.nil
  | cons x r => exact rising_ok h
/-- texts in their order, each once -/
def Asc (ys : List Str) : Prop := ys.Pairwise ltS
theorem asc_of {ys : List Str} (h : sortedS ys = true) (nd : ys.Nodup) : Asc ys :=
  (List.Pairwise.and (sorted_ok h) nd).imp fun ⟨a, b⟩ => ltS_of_not a b
theorem asc_nodup {ys : List Str} (h : Asc ys) : ys.Nodup := List.Pairwise.imp (fun {a b} (q : ltS a b) (e : a = b) => ltS_irrefl a (by rw [← e] at q; exact q)) h
/-! ### min, max of texts -/
theorem cmp_ltS {prog : Program} {w : World} {A : Around} {P : Nat → Value → Prop} (val : Nat → Str) (hval : ∀ i v, P i v → ∃ t, v = .str (val i) t) : CmpOf prog w A .Lt P (fun i j => decide (ltS (val i) (val j))) := fun i j vi vj s Q E hi hj h => by
  obtain ⟨t, rfl⟩ := hval i vi hi
  obtain ⟨u, rfl⟩ := hval j vj hj
  exact richCompare_gives (op := .Lt) (typeIs_str s _ t) (typeIs_str s _ u) PySem.F.slot_str_lt PySem.F.entry_str_lt (PySem.F.args_str_lt_2 _ _) (gives_str_lt _ _ t u) (fun x => nomatch x) h
theorem cmp_gtS {prog : Program} {w : World} {A : Around} {P : Nat → Value → Prop} (val : Nat → Str) (hval : ∀ i v, P i v → ∃ t, v = .str (val i) t) : CmpOf prog w A .Gt P (fun i j => decide (ltS (val j) (val i))) := fun i j vi vj s Q E hi hj h => by
  obtain ⟨t, rfl⟩ := hval i vi hi
  obtain ⟨u, rfl⟩ := hval j vj hj
  exact richCompare_gives (op := .Gt) (typeIs_str s _ t) (typeIs_str s _ u) PySem.F.slot_str_gt PySem.F.entry_str_gt (PySem.F.args_str_gt_2 _ _) (gives_str_gt _ _ t u) (fun x => nomatch x) h
theorem best_ltS (val : Nat → Str) : ∀ k, argBest (fun i j => decide (ltS (val i) (val j))) k ≤ k ∧ ∀ j, j ≤ k → ¬ ltS (val j) (val (argBest (fun i j => decide (ltS (val i) (val j))) k))
  | 0 => ⟨Nat.le_refl _, fun j hj => by
      have e : j = 0 := by omega
      subst e
      exact ltS_irrefl _⟩
  | k + 1 => by
    obtain ⟨h1, h2⟩ := best_ltS val k
    show (if decide (ltS (val (k + 1)) (val (argBest _ k))) = true then k + 1 else argBest _ k) ≤ k + 1 ∧ ∀ j, j ≤ k + 1 → ¬ ltS (val j) (val (if decide (ltS (val (k + 1)) (val (argBest _ k))) = true then k + 1 else argBest _ k))
    by_cases hb : ltS (val (k + 1)) (val (argBest (fun i j => decide (ltS (val i) (val j))) k))
    · rw [if_pos (decide_eq_true hb)]
      refine ⟨Nat.le_refl _, fun j hj q => ?_⟩
      by_cases e : j = k + 1
      · subst e
        exact ltS_irrefl _ q
      · exact h2 j (by omega) (ltS_trans q hb)
    · rw [if_neg (by simpa using hb)]
      refine ⟨by omega, fun j hj q => ?_⟩
      by_cases e : j = k + 1
      · subst e
        exact hb q
      · exact h2 j (by omega) q
section
variable {X : Cx}
theorem key_str {ks : List Str} {vs : List (Key × Value)} (hk : vs.map (·.1) = ks.map Sum.inr) {P : Program} {w : World} (i : Nat) (v : Value) (h : ∃ k x, vs[i]? = some (k, x) ∧ (mixKind P w).is k v = true) : ∃ t, v = Value.str (ks.getD i Str.empty) t := by
  obtain ⟨k, x, h1, h2⟩ := h
  have e1 : (vs.map (·.1))[i]? = some k := by rw [List.getElem?_map, h1] <;> rfl
  rw [hk, List.getElem?_map] at e1
  obtain ⟨y, hy, e2⟩ := Option.map_eq_some_iff.mp e1
  subst e2
  have h2 : keyIs (Sum.inr y) v = true := h2
  rcases keyIs_shape h2 with ⟨_, _, e, _⟩ | ⟨z, t, e, ev⟩
  · cases e
  · cases e
    exact ⟨t, by rw [ev, List.getD_eq_getElem?_getD, hy]; rfl⟩
def rMinSD : List V → Hp → VK → Prop := fun vs H Q => ∃ (a : Addr) (kvs : List (Key × V)) (ks : List Str), vs = [V.ref a] ∧ Rd H a (.dK kvs) ∧ kvs.map (·.1) = ks.map Sum.inr ∧ ks ≠ [] ∧ ∀ m, m ∈ ks → (∀ j ∈ ks, ¬ ltS j m) → Q (.str m) H
theorem cr_minSD (hc : X.calm = true) : CallR X (.builtin "min") rMinSD := by
  intro pins s σ H vs us Q I r h
  obtain ⟨a, kvs, ks, rfl, ha, hv, hne, q⟩ := h
  rw [Vals.ref1 r]
  obtain ⟨_, hsys, vs, rel, dof⟩ := dk_rd I.hok ha
  obtain ⟨ep, dat⟩ := dof.dictAt
  obtain ⟨ob, es, ho, _⟩ := id dat
  have hlt : a < s.heap.objs.size := Heap.lt_size ho
  have hkeys : vs.map (·.1) = ks.map Sum.inr := (KV.keys rel).symm.trans hv
  have hlv : vs.length = ks.length := by simpa using congrArg List.length hkeys
  have hpos := List.length_pos_iff.mpr hne
  refine call_min_walk (wpAny_pyIter_dict (knd := mixKind X.prog X.w) hsys dat ?_)
  refine ⟨_, _, _, _, _, _, _, rfl, Walks.dictKeys (knd := mixKind X.prog X.w) (A := X.A.in1) (I.ok.hd hc) s.heap.objs.size a (Nat.ne_of_lt hlt) vs ep,
    ⟨⟨_, Heap.get?_push_size _ rfl, rfl, rfl⟩, dat.keep fun b u e => Heap.get?_push_of_some _ e⟩, fun b hb => ?_, by omega, cmp_ltS (fun i => ks.getD i Str.empty) (key_str hkeys), fun v h' tk hP hk => ?_⟩
  · show b < (s.heap.push _).objs.size
    rw [Heap.size_push]
    rcases List.mem_cons.mp hb with e | hb
    · rw [e]
      exact Nat.lt_succ_self _
    · rw [List.mem_singleton.mp hb]
      exact Nat.lt_succ_of_lt hlt
  · obtain ⟨t, rfl⟩ := key_str hkeys _ v hP
    obtain ⟨b1, b2⟩ := best_ltS (fun i => ks.getD i Str.empty) (vs.length - 1)
    have at_ : ∀ i, i < ks.length → ks.getD i Str.empty ∈ ks := fun i hi => by
      rw [List.getD_eq_getElem?_getD, List.getElem?_eq_getElem hi]
      exact List.getElem_mem hi
    refine ⟨.str _, H, I.kept (t' := tk) fun b u e => hk b u (fun hmem => ?_) (Heap.get?_push_of_some _ e), ⟨t, rfl⟩, q _ (at_ _ (by omega)) fun j hj => ?_⟩
    · have e1 : b = s.heap.objs.size := List.mem_singleton.mp hmem
      have e2 := Heap.lt_size e
      rw [e1] at e2
      exact absurd e2 (Nat.lt_irrefl _)
    · obtain ⟨i, hi, e⟩ := List.mem_iff_getElem.mp hj
      have e2 : ks.getD i Str.empty = j := by rw [List.getD_eq_getElem?_getD, List.getElem?_eq_getElem hi, ← e] <;> rfl
      rw [← e2]
      exact b2 i (by omega)
def rMinSL (K : PySem.W.Frag) : List V → Hp → VK → Prop := fun vs H Q => ∃ (a : Addr) (ks : List Str), vs = [V.ref a] ∧ SqL K H a (ks.map V.str) ∧ ks ≠ [] ∧ ∀ m, m ∈ ks → (∀ j ∈ ks, ¬ ltS j m) → Q (.str m) H
theorem cr_minSL (hc : X.calm = true) : CallR X (.builtin "min") (rMinSL X.K) := by
  intro pins s σ H vs us Q I r h
  obtain ⟨a, ks, rfl, hs, hne, q⟩ := h
  obtain ⟨its, rv, hl, _⟩ := I.list hs
  rw [Vals.ref1 r]
  have hl := hl.isList
  obtain ⟨o, ho, _⟩ := id hl
  have hlt : a < s.heap.objs.size := Heap.lt_size ho
  have hlv : its.length = ks.length := by
    have := rv.length
    rw [List.length_map] at this
    exact this.symm
  have hpos := List.length_pos_iff.mpr hne
  have hval : ∀ (i : Nat) (v : Value), its.toArray[i]? = some v → ∃ t, v = Value.str (ks.getD i Str.empty) t := fun i v e => by
    have e : its[i]? = some v := by simpa using e
    have hi := (List.getElem?_eq_some_iff.mp e).1
    obtain ⟨u, hu, ru⟩ := rv.get (i := i) (x := .str ks[i]) (by rw [List.getElem?_map, List.getElem?_eq_getElem (by omega)]; rfl)
    rw [e] at hu
    cases hu
    obtain ⟨t, rfl⟩ := ru
    exact ⟨t, by rw [List.getD_eq_getElem?_getD, List.getElem?_eq_getElem (by omega)]; rfl⟩
  refine call_min_walk (wpAny_pyIter_list hl ?_)
  refine ⟨_, _, _, _, _, _, _, rfl, Walks.list (A := X.A.in1) (I.ok.hd hc) s.heap.objs.size a (Nat.ne_of_lt hlt) its.toArray,
    ⟨⟨_, Heap.get?_push_size _ rfl, rfl, rfl⟩, hl.push _⟩, fun b hb => ?_, by rw [List.size_toArray]; omega, cmp_ltS (fun i => ks.getD i Str.empty) hval, fun v h' tk hP hk => ?_⟩
  · show b < (s.heap.push _).objs.size
    rw [Heap.size_push]
    rcases List.mem_cons.mp hb with e | hb
    · rw [e]
      exact Nat.lt_succ_self _
    · rw [List.mem_singleton.mp hb]
      exact Nat.lt_succ_of_lt hlt
  · obtain ⟨t, rfl⟩ := hval _ v hP
    rw [List.size_toArray]
    obtain ⟨b1, b2⟩ := best_ltS (fun i => ks.getD i Str.empty) (its.length - 1)
    have at_ : ∀ i, i < ks.length → ks.getD i Str.empty ∈ ks := fun i hi => by
      rw [List.getD_eq_getElem?_getD, List.getElem?_eq_getElem hi]
      exact List.getElem_mem hi
    refine ⟨.str _, H, I.kept (t' := tk) fun b u e => hk b u (fun hmem => ?_) (Heap.get?_push_of_some _ e), ⟨t, rfl⟩, q _ (at_ _ (by omega)) fun j hj => ?_⟩
    · have e1 : b = s.heap.objs.size := List.mem_singleton.mp hmem
      have e2 := Heap.lt_size e
      rw [e1] at e2
      exact absurd e2 (Nat.lt_irrefl _)
    · obtain ⟨i, hi, e⟩ := List.mem_iff_getElem.mp hj
      have e2 : ks.getD i Str.empty = j := by rw [List.getD_eq_getElem?_getD, List.getElem?_eq_getElem hi, ← e] <;> rfl
      rw [← e2]
      exact b2 i (by omega)
end
end WkD
namespace WkD
open PySem PySem.Spec PyProof.Rows L2
/-! ### len(x) by an own __len__ -/
section
variable {X : Cx} {CX : CXT} {k : Nat} {f C : Addr} {fd : FuncData} {ps : List Str} {sp : Sp} {E : XK}
end
/-! ### min(x, y), max(x, y) of texts -/
section
variable {X : Cx}
theorem two_at {x y : Str} {t u : Tok} (i : Nat) (v : Value) (e : (#[Value.str x t, Value.str y u] : Array Value)[i]? = some v) : ∃ t', v = Value.str (if i = 0 then x else y) t' := by
  match i with
  | 0 =>
    cases e
    exact ⟨t, rfl⟩
  | 1 =>
    cases e
    exact ⟨u, rfl⟩
  | i + 2 =>
    simp at e
theorem call_min2S (hc : X.calm = true) : CallR X (.builtin "min") (fun xs H Q => ∃ x y, xs = [.str x, .str y] ∧ Q (.str (if ltS y x then y else x)) H) := by
  intro pins s σ H xs us Q I r h
  obtain ⟨x, y, rfl, q⟩ := h
  obtain ⟨u, w', rfl, ⟨t, rfl⟩, ⟨t', rfl⟩⟩ := vals2 r
  have hT : (s.heap.push { cls := .type "tuple", data := .seq #[.str x t, .str y t'] }).IsTuple s.heap.objs.size #[.str x t, .str y t'] := ⟨_, Heap.get?_push_size _ rfl, rfl, 0, rfl⟩
  refine call_min_two (wpAny_pyIter_tuple hT ?_)
  have hsz : (s.heap.push { cls := .type "tuple", data := .seq #[.str x t, .str y t'] }).objs.size = s.heap.objs.size + 1 := Heap.size_push ..
  refine ⟨_, [_, s.heap.objs.size], [_], _, _, _, _, rfl, Walks.tuple (A := X.A.in1) (I.ok.hd hc) _ s.heap.objs.size (by rw [hsz]; exact Nat.ne_of_lt (Nat.lt_succ_self _)) #[.str x t, .str y t'],
    ⟨⟨_, Heap.get?_push_size _ rfl, rfl, rfl⟩, hT.push _⟩, fun c hcm => ?_, (by show 0 < 2; decide), cmp_ltS (fun i => if i = 0 then x else y) two_at, fun v h' tk hP hk => ?_⟩
  · show c < ((s.heap.push _).push _).objs.size
    rw [Heap.size_push, hsz]
    rcases List.mem_cons.mp hcm with e | hcm
    · rw [e, hsz]
      exact Nat.lt_succ_self _
    · rw [List.mem_singleton.mp hcm]
      exact Nat.lt_succ_of_lt (Nat.lt_succ_self _)
  · have old : ∀ c o, s.heap.get? c = some o → h'.get? c = some o := fun c o e => hk c o (fun hm => by
      have e1 := Heap.lt_size e
      rw [List.mem_singleton.mp hm, hsz] at e1
      exact absurd (Nat.lt_of_succ_lt e1) (Nat.lt_irrefl _)) (Heap.get?_push_of_some _ (Heap.get?_push_of_some _ e))
    obtain ⟨t2, rfl⟩ := two_at _ v hP
    refine ⟨.str _, H, I.kept old, ⟨t2, rfl⟩, ?_⟩
    have e : (if argBest (fun i j => decide (ltS (if i = 0 then x else y) (if j = 0 then x else y))) ((#[Value.str x t, Value.str y t'] : Array Value).size - 1) = 0 then x else y) = if ltS y x then y else x := by
      show (if argBest (fun i j => decide (ltS (if i = 0 then x else y) (if j = 0 then x else y))) 1 = 0 then x else y) = _
      unfold argBest argBest
      by_cases hb : ltS y x
      · simp [hb]
      · simp [hb]
    rw [e]
    exact q
theorem call_max2S (hc : X.calm = true) : CallR X (.builtin "max") (fun xs H Q => ∃ x y, xs = [.str x, .str y] ∧ Q (.str (if ltS x y then y else x)) H) := by
  intro pins s σ H xs us Q I r h
  obtain ⟨x, y, rfl, q⟩ := h
  obtain ⟨u, w', rfl, ⟨t, rfl⟩, ⟨t', rfl⟩⟩ := vals2 r
  have hT : (s.heap.push { cls := .type "tuple", data := .seq #[.str x t, .str y t'] }).IsTuple s.heap.objs.size #[.str x t, .str y t'] := ⟨_, Heap.get?_push_size _ rfl, rfl, 0, rfl⟩
  refine call_max_two (wpAny_pyIter_tuple hT ?_)
  have hsz : (s.heap.push { cls := .type "tuple", data := .seq #[.str x t, .str y t'] }).objs.size = s.heap.objs.size + 1 := Heap.size_push ..
  refine ⟨_, [_, s.heap.objs.size], [_], _, _, _, _, rfl, Walks.tuple (A := X.A.in1) (I.ok.hd hc) _ s.heap.objs.size (by rw [hsz]; exact Nat.ne_of_lt (Nat.lt_succ_self _)) #[.str x t, .str y t'],
    ⟨⟨_, Heap.get?_push_size _ rfl, rfl, rfl⟩, hT.push _⟩, fun c hcm => ?_, (by show 0 < 2; decide), cmp_gtS (fun i => if i = 0 then x else y) two_at, fun v h' tk hP hk => ?_⟩
  · show c < ((s.heap.push _).push _).objs.size
    rw [Heap.size_push, hsz]
    rcases List.mem_cons.mp hcm with e | hcm
    · rw [e, hsz]
      exact Nat.lt_succ_self _
    · rw [List.mem_singleton.mp hcm]
      exact Nat.lt_succ_of_lt (Nat.lt_succ_self _)
  · have old : ∀ c o, s.heap.get? c = some o → h'.get? c = some o := fun c o e => hk c o (fun hm => by
      have e1 := Heap.lt_size e
      rw [List.mem_singleton.mp hm, hsz] at e1
      exact absurd (Nat.lt_of_succ_lt e1) (Nat.lt_irrefl _)) (Heap.get?_push_of_some _ (Heap.get?_push_of_some _ e))
    obtain ⟨t2, rfl⟩ := two_at _ v hP
    refine ⟨.str _, H, I.kept old, ⟨t2, rfl⟩, ?_⟩
    have e : (if argBest (fun i j => decide (ltS (if j = 0 then x else y) (if i = 0 then x else y))) ((#[Value.str x t, Value.str y t'] : Array Value).size - 1) = 0 then x else y) = if ltS x y then y else x := by
      show (if argBest (fun i j => decide (ltS (if j = 0 then x else y) (if i = 0 then x else y))) 1 = 0 then x else y) = _
      unfold argBest argBest
      by_cases hb : ltS x y
      · simp [hb]
      · simp [hb]
    rw [e]
    exact q
end
/-! ### {**d} -/
section
variable {prog : Program} {w : World} {A : Around} {E : Value → Shared → Prop} {s : Shared}
theorem dictPut_new {K : Type} [DecidableEq K] {knd : KeyKind prog w K} {d : Addr} {kvs : List (K × Value)} {k : K} {key v : Value} {Q : Unit → Shared → Prop} (hkey : knd.is k key = true) (hm : s.heap.DictOf knd d kvs) (hnew : k ∉ kvs.map (·.1))
    (hQ : ∀ h', h'.DictOf knd d (kvs ++ [(k, v)]) → Heap.SameBut d s.heap h' → Q () { s with heap := h' }) (hsz : kvs.length ≤ sizeLine) :
    wpAny (model prog w) A (dictPut d (knd.hash k) key v) Q E s := by
  obtain ⟨o, es, ep, ho, hc, hd, hk, hp, hn⟩ := hm
  have hes : es.size ≤ sizeLine := by
    have e1 := hp.length
    have e2 : es.toList.length = es.size := by simp
    omega
  unfold dictPut
  refine wpAny_bind (wpAny_dictFind_of hkey ho hd hk ?_)
  have hidx : (es.findIdx? fun e => knd.is k e.key) = kvs.findIdx? fun kv => decide (kv.1 = k) := by
    rw [← hp.findIdx k]
    obtain ⟨l⟩ := es
    simp
  cases hi : es.findIdx? fun e => knd.is k e.key with
  | some i =>
    rw [hidx] at hi
    have z := any_of_findIdx_some hi
    rw [List.any_eq_true] at z
    obtain ⟨kv, h1, h2⟩ := z
    exact absurd (List.mem_map.mpr ⟨kv, h1, of_decide_eq_true h2⟩) hnew
  | none =>
    refine wpAny_updateDictKeys (hz := hes) ho hd (hQ _ ⟨_, _, ep + 1, Heap.get?_update_self _ ho (Obj.isFreed_of_dict (Obj.data_mapDictKeys hd _)), hc.mapDictKeys _, Obj.data_mapDictKeys hd _, hk.push hkey _, ?_, ?_⟩ (Heap.SameBut.update ..))
    · have z := hp.append hkey (knd.hash k) v
      obtain ⟨l⟩ := es
      simpa using z
    · rw [List.map_append, List.nodup_append]
      refine ⟨hn, by simp, fun a ha b hb e => ?_⟩
      have hb : b = k := by simpa using hb
      rw [e, hb] at ha
      exact hnew ha
end
end WkD
namespace WkD
open PySem PySem.Spec PyProof.Rows L2
section
variable {prog : Program} {w : World} {A : Around} {E : Value → Shared → Prop} {s : Shared}
theorem key_noref {k : Key} {v : Value} (h : (mixKind prog w).is k v = true) : ∀ a, v ≠ .ref a := by
  have h : keyIs k v = true := h
  rcases keyIs_shape h with ⟨_, _, _, e⟩ | ⟨_, _, _, e⟩
  · intro a z
    rw [e] at z
    cases z
  · intro a z
    rw [e] at z
    cases z
theorem merge_new {d a : Addr} {more : List (Key × Value)} {Q : Unit → Shared → Prop} (hda : d ≠ a) (haS : (a == sysModules) = false) (hd : s.heap.DictOf (mixKind prog w) d []) (ha : s.heap.DictOf (mixKind prog w) a more)
    (hQ : ∀ h', h'.DictOf (mixKind prog w) d more → Heap.SameBut d s.heap h' → Q () { s with heap := h' }) (hsz : more.length ≤ sizeLine) : wpAny (model prog w) A (mergeMapping d (.ref a) false) Q E s := by
  obtain ⟨od, esd, epd, hod, hcd, hdd, hkd, hpd, hnd⟩ := id hd
  obtain ⟨oo, eso, epo, hoo, hco, hdo, hko, hpo, hno⟩ := id ha
  have hT := ha.typeIs
  have hlen : more.length = eso.size := by
    rw [← hpo.length]
    simp
  have h0 : esd = #[] := by
    have z := hpd.length
    obtain ⟨l⟩ := esd
    have z : l.length = 0 := by simpa using z
    rw [List.length_eq_zero_iff.mp z]
  unfold mergeMapping
  refine wpAny_bind (wpAny_isInstance (T := "dict") (U := "dict") (b := true) hT (by rw [isSubtype_type]; kernel_rfl) ?_)
  try dsimp only
  rw [if_pos rfl]
  refine wpAny_bind (wpAny_specialOf hT PySem.F.slot_dict_iter.lookup ?_)
  rw [show (some (Value.builtin "dict.__iter__") == some (Value.builtin "dict.__iter__")) = true by decide]
  refine wpAny_bind (wpAny_pure ?_)
  try dsimp only
  rw [if_neg (by rw [haS]; decide)]
  refine wpAny_bind (wpAny_dictEntries hod hdd ?_)
  rw [if_pos (by rw [h0]; rfl)]
  refine wpAny_bind (wpAny_dictEntries hoo hdo ?_)
  refine wpAny_bind ?_
  have first : ∀ {f : DictEntry → PUnit → Sem (ForInStep PUnit)} {Q : PUnit → Shared → Prop}, (∀ e : DictEntry, (∀ a, e.key ≠ .ref a) → f e PUnit.unit = pure (ForInStep.yield PUnit.unit)) → Q PUnit.unit s → wpAny (model prog w) A (forIn eso PUnit.unit f) Q E s := by
    intro f Q hf hq
    rw [← Array.forIn_toList]
    refine wpAny_forIn_list f (fun rest _ s' => s' = s ∧ ∀ e ∈ rest, ∀ a, e.key ≠ .ref a) Q (fun e rest b s' z => ?_) (fun b s' z => by rw [z.1]; exact hq) _ _ ⟨rfl, fun e he a => ?_⟩
    · obtain ⟨rfl, z⟩ := z
      rw [hf e (z e List.mem_cons_self)]
      exact wpAny_pure ⟨rfl, fun e he => z e (List.mem_cons_of_mem _ he)⟩
    · obtain ⟨k, hk, _⟩ := hko e (by simpa using he)
      exact key_noref hk a
  refine first (fun e he => ?_) ?_
  · cases q : e.key with
    | ref a => exact absurd q (he a)
    | _ => rfl
  refine wpAny_bind (wpAny_dictEntries hoo hdo ?_)
  refine wpAny_bind (wpAny_dictEpoch hoo hdo ?_)
  refine wpAny_bind ?_
  refine wpAny_forIn_list _ (fun rest _ s' => ∃ h' i, s' = { s with heap := h' } ∧ rest = List.range' i (eso.size - i) ∧ i ≤ eso.size ∧ h'.DictOf (mixKind prog w) d (more.take i) ∧ h'.get? a = some oo ∧ Heap.SameBut d s.heap h') _ ?_ ?_ _ _
    ⟨s.heap, 0, rfl, by rw [List.range_eq_range']; rfl, Nat.zero_le _, by simpa using hd, hoo, Heap.SameBut.refl _ _⟩
  · rintro x rest b s' ⟨h', i, rfl, hr, hi, hd', hoo', hs'⟩
    have hlt : i < eso.size := by
      rcases Nat.lt_or_ge i eso.size with h | h
      · exact h
      · rw [Nat.sub_eq_zero_of_le h] at hr
        simp at hr
    obtain ⟨ex, hrest⟩ : x = i ∧ rest = List.range' (i + 1) (eso.size - (i + 1)) := by
      have e : eso.size - i = (eso.size - (i + 1)) + 1 := by omega
      rw [e, List.range'_succ] at hr
      injection hr with h1 h2
      exact ⟨h1, h2⟩
    subst ex
    refine wpAny_bind (wpAny_dictEntries hoo' hdo ?_)
    rw [Array.getElem?_eq_getElem hlt]
    obtain ⟨kv, hkv⟩ : ∃ kv, more[x]? = some kv := ⟨more[x]'(by omega), List.getElem?_eq_getElem _⟩
    obtain ⟨k, v⟩ := kv
    obtain ⟨hkey, hval⟩ := hpo.get? (e := eso[x]) (by simp [hlt]) hkv
    obtain ⟨k', hkey', hhash⟩ := hko eso[x] (Array.getElem_mem hlt)
    obtain rfl : k' = k := (mixKind prog w).inj _ _ _ hkey' hkey
    dsimp only
    rw [hhash, hval]
    have hxl : x < more.length := by omega
    have tk : more.take (x + 1) = more.take x ++ [(k', v)] := by
      rw [List.take_add_one, hkv]
      rfl
    refine wpAny_bind (wpAny_holding ?_)
    rw [if_neg (by decide)]
    refine dictPut_new hkey hd' (fun hm => ?_) (fun h2 hd2 hs2 => ?_) (by rw [List.length_take]; omega)
    · have nd : ((more.take (x + 1)).map (·.1)).Nodup := (List.Sublist.map _ (List.take_sublist _ _)).nodup hno
      rw [tk, List.map_append, List.nodup_append] at nd
      exact nd.2.2 _ hm _ (List.mem_singleton.mpr rfl) rfl
    · have hoo2 : h2.get? a = some oo := (hs2.2 a (Ne.symm hda)).trans hoo'
      refine wpAny_bind (wpAny_dictEpoch hoo2 hdo ?_)
      rw [if_neg (by simp)]
      exact wpAny_pure ⟨h2, x + 1, rfl, hrest, hlt, by rw [tk]; exact hd2, hoo2, hs'.trans hs2⟩
  · rintro b s' ⟨h', i, rfl, hr, hi, hd', hoo', hs'⟩
    have hin : i = eso.size := by
      rcases Nat.lt_or_ge i eso.size with h | h
      · have e : eso.size - i = (eso.size - (i + 1)) + 1 := by omega
        rw [e, List.range'_succ] at hr
        exact nomatch hr
      · exact Nat.le_antisymm hi h
    refine wpAny_pure (hQ h' ?_ hs')
    rw [hin, ← hlen, List.take_length] at hd'
    exact hd'
end
section
variable {X : Cx} {pos : Pos} {e : Expr} {te : TE}
/-- {**d}: a copy -/
def tDStar (te : TE) : TE := fun σ H Q => ∀ p, H p = none → te σ (upd H p (.dK [])) fun x H2 => ∃ a kvs, x = .ref a ∧ H2 p = some (.dK []) ∧ a ≠ p ∧ Rd H2 a (.dK kvs) ∧ Q (.ref p) (upd H2 p (.dK kvs))
theorem pe_dstar (he : PE X e te) : PE X (.Dict [none] [e] pos) (tDStar te) := by
  refine ⟨fun pins s σ H Q I q => ?_⟩
  have hn := I.hok.fresh (Nat.le_refl s.heap.objs.size)
  have I1 := I.laid (a := s.heap.objs.size) (o := .dK []) (h' := s.heap.push { cls := .type "dict", data := .dict #[] }) (t' := s.toks) (fun _ _ q => Heap.get?_push_of_some _ q) (Nat.le_refl _) (dk_empty s.heap I.big)
  show wpAny _ _ (do standAt pos; dictDisplay [(none, do let x ← eval e X.env; standAt pos; pure x)]) _ _ _
  refine wpAny_bind (wpAny_standAt ?_)
  unfold dictDisplay
  simp only [List.forIn_cons, List.forIn_nil, pure_bind, bind_assoc]
  rw [if_pos (show ([] : List (Sem Value × Sem Value)).isEmpty = true from rfl)]
  refine wpAny_bind (wpAny_pure ?_)
  refine wpAny_bind ?_
  dsimp only
  refine wpAny_bind (wpAny_alloc ?_)
  refine wpAny_bind (wpAny_holding (wpAny_bind (thn (he.run pins _ σ _ _ I1 (q _ hn)) fun v s2 ⟨x, H2, I2, rx, a, kvs, ex, hp, hap, hR, q2⟩ => wpAny_bind (wpAny_standAt (wpAny_pure ?_)))))
  subst ex
  obtain rfl : v = Value.ref a := rx
  obtain ⟨z, ya, va, ra, da⟩ := dk_rd I2.hok hR
  obtain ⟨_, hd, vs0, r0, dd⟩ := dk_of I2.hok hp
  cases r0
  refine wpAny_bind (wpAny_onRaise (wpAny_tryCatch (wpAny_onRaise (wpAny_holding (merge_new (Ne.symm hap) ya dd da (fun h' dd' hs => ?_) (by rw [← ra.length]; exact z))))))
  refine wpAny_pure ?_
  dsimp only
  refine wpAny_bind (wpAny_pure ?_)
  dsimp only
  rw [if_pos (show ([] : List (Sem Value × Sem Value)).isEmpty = true from rfl)]
  refine wpAny_bind (wpAny_pure (wpAny_pure ⟨.ref s.heap.objs.size, _, ?_, rfl, q2⟩))
  have hex : ∃ q, h'.get? s.heap.objs.size = some q := let ⟨q, _, _, hq, _⟩ := dd'; ⟨q, hq⟩
  exact d_write I2 (by rw [hp]; exact True.intro) hs hex (dk_new z hd ra dd')
end
end WkD
namespace WkN
open PySem PySem.Spec PyProof.Rows L2 WkD
theorem takeS {α : Type} {l : List α} {i : Nat} {x : α} (h : l[i]? = some x) : l.take (i + 1) = l.take i ++ [x] := by
  rw [List.take_add_one, h]
  rfl
theorem bF {b : Bool} (h : ¬ b = true) : b = false := by
  cases b
  · rfl
  · exact absurd rfl h
/-! ### dicts by their keys and a function -/
def dct (ks : List Str) (g : Str → V) : List (Key × V) := ks.map fun v => (Sum.inr v, g v)
theorem dct_len {ks : List Str} {g : Str → V} : (dct ks g).length = ks.length := List.length_map ..
theorem dct_keys {ks : List Str} {g : Str → V} : (dct ks g).map (·.1) = ks.map Sum.inr := by
  unfold dct
  rw [List.map_map]
  rfl
theorem dct_congr {ks : List Str} {g g' : Str → V} (h : ∀ v ∈ ks, g v = g' v) : dct ks g = dct ks g' := List.map_congr_left fun v hv => by rw [h v hv]
theorem dct_val {g : Str → V} {v : Str} : ∀ {ks : List Str}, valV (dct ks g) (Sum.inr v) = if v ∈ ks then some (g v) else none
  | [] => by
    rw [if_neg (by simp)]
    rfl
  | k :: ks => by
    show valV ((Sum.inr k, g k) :: dct ks g) (Sum.inr v) = _
    by_cases h : k = v
    · subst h
      rw [valV_pos rfl, if_pos (by simp)]
    · rw [valV_neg (fun z => h (Sum.inr.inj z)), dct_val]
      by_cases hm : v ∈ ks
      · rw [if_pos hm, if_pos (List.mem_cons_of_mem _ hm)]
      · rw [if_neg hm, if_neg (fun z => (List.mem_cons.mp z).elim (fun e => h e.symm) hm)]
theorem dct_in {ks : List Str} {g : Str → V} {v : Str} (h : v ∈ ks) : valV (dct ks g) (Sum.inr v) = some (g v) := by rw [dct_val, if_pos h]
theorem dct_out {ks : List Str} {g : Str → V} {v : Str} (h : v ∉ ks) : valV (dct ks g) (Sum.inr v) = none := by rw [dct_val, if_neg h]
theorem dct_any {ks : List Str} {g : Str → V} {v : Str} : ((dct ks g).any fun kv => decide (kv.1 = Sum.inr v)) = decide (v ∈ ks) := by
  rw [valV_any, dct_val]
  by_cases h : v ∈ ks
  · rw [if_pos h, decide_eq_true h]
    rfl
  · rw [if_neg h, decide_eq_false h]
    rfl
theorem dct_put_in {ks : List Str} {g : Str → V} {v : Str} {x : V} (h : v ∈ ks) : putK (dct ks g) (Sum.inr v) x = dct ks (fun y => if y = v then x else g y) := by
  unfold putK
  rw [dct_any, decide_eq_true h, if_pos rfl]
  unfold dct
  rw [List.map_map]
  refine List.map_congr_left fun y _ => ?_
  show (if (Sum.inr y : Key) = Sum.inr v then ((Sum.inr y : Key), x) else (Sum.inr y, g y)) = (Sum.inr y, if y = v then x else g y)
  by_cases e : y = v
  · rw [if_pos (by rw [e]), if_pos e]
  · rw [if_neg (fun z => e (Sum.inr.inj z)), if_neg e]
theorem dct_put_new {ks : List Str} {g : Str → V} {v : Str} {x : V} (h : v ∉ ks) : putK (dct ks g) (Sum.inr v) x = dct (ks ++ [v]) (fun y => if y = v then x else g y) := by
  rw [putK_new x (dct_out h)]
  unfold dct
  rw [List.map_append]
  congr 1
  · refine List.map_congr_left fun y hy => ?_
    have e : y ≠ v := fun e => h (by rw [← e]; exact hy)
    show (Sum.inr y, g y) = (Sum.inr y, if y = v then x else g y)
    rw [if_neg e]
  · show [(Sum.inr v, x)] = [(Sum.inr v, if v = v then x else g v)]
    rw [if_pos rfl]
theorem dct_drop {ks : List Str} {g : Str → V} {v : Str} : dropK (dct ks g) (Sum.inr v) = dct (ks.filter (fun y => decide (y ≠ v))) g := by
  unfold dropK dct
  rw [List.filter_map]
  congr 1
  refine List.filter_congr fun y _ => ?_
  show decide ((Sum.inr y : Key) ≠ Sum.inr v) = decide (y ≠ v)
  by_cases e : y = v
  · subst e
    simp
  · have z : (Sum.inr y : Key) ≠ Sum.inr v := fun z => e (Sum.inr.inj z)
    rw [decide_eq_true (show y ≠ v from e), decide_eq_true z]
theorem dct_at {ks : List Str} {g : Str → V} {i : Nat} : (dct ks g)[i]? = ks[i]?.map fun v => (Sum.inr v, g v) := by
  unfold dct
  rw [List.getElem?_map]
theorem get_d {H : Hp} {a : Addr} {ks : List Str} {g : Str → V} {v : Str} (h : Rd H a (.dK (dct ks g))) (hv : v ∈ ks) : DGet H a (.str v) (some (g v)) := .inl ⟨_, Sum.inr v, h, rfl, (dct_in hv).symm⟩
theorem get_n {H : Hp} {a : Addr} {ks : List Str} {g : Str → V} {v : Str} (h : Rd H a (.dK (dct ks g))) (hv : v ∉ ks) : DGet H a (.str v) none := .inl ⟨_, Sum.inr v, h, rfl, (dct_out hv).symm⟩
theorem get_x {H : Hp} {a : Addr} {ks : List Str} {g : Str → V} {v : Str} (h : Rd H a (.dK (dct ks g))) : DGet H a (.str v) (if v ∈ ks then some (g v) else none) := .inl ⟨_, Sum.inr v, h, rfl, dct_val.symm⟩
theorem put_d {H : Hp} {a : Addr} {ks : List Str} {g : Str → V} {v : Str} {x : V} (h : H a = some (.dK (dct ks g))) (hv : v ∈ ks) (hl : ks.length < sizeLine) : DPut H a (.str v) x (upd H a (.dK (dct ks fun y => if y = v then x else g y))) := by
  have z := DPut.k (k := Sum.inr v) (v := x) h (by rw [dct_len]; exact hl)
  rw [dct_put_in hv] at z
  exact z
theorem put_n {H : Hp} {a : Addr} {ks : List Str} {g : Str → V} {v : Str} {x : V} (h : H a = some (.dK (dct ks g))) (hv : v ∉ ks) (hl : ks.length < sizeLine) : DPut H a (.str v) x (upd H a (.dK (dct (ks ++ [v]) fun y => if y = v then x else g y))) := by
  have z := DPut.k (k := Sum.inr v) (v := x) h (by rw [dct_len]; exact hl)
  rw [dct_put_new hv] at z
  exact z
/-! ### rows of neighbours -/
abbrev Nb := Str → List Str
abbrev Wt := Str → Str → Int
/-- rows that may be read -/
structure RowsR (H : Hp) (a : Addr) (Vs : List Str) (ad : Str → Addr) (nb : Nb) (wt : Wt) : Prop where
  top : Rd H a (.dK (dct Vs fun u => .ref (ad u)))
  row : ∀ u ∈ Vs, Rd H (ad u) (.dK (dct (nb u) fun v => .int (wt u v)))
/-- rows of our own -/
structure RowsM (H : Hp) (a : Addr) (Vs : List Str) (ad : Str → Addr) (nb : Nb) (wt : Wt) : Prop where
  top : H a = some (.dK (dct Vs fun u => .ref (ad u)))
  row : ∀ u ∈ Vs, H (ad u) = some (.dK (dct (nb u) fun v => .int (wt u v)))
  inj : ∀ u ∈ Vs, ∀ v ∈ Vs, ad u = ad v → u = v
  nd : Vs.Nodup
/-- rows that are known -/
structure RowsZ (H : Hp) (a : Addr) (Vs : List Str) (ad : Str → Addr) (nb : Nb) (wt : Wt) : Prop where
  top : ∃ o, H a = some (.frz o (.dK (dct Vs fun u => .ref (ad u))))
  row : ∀ u ∈ Vs, ∃ o, H (ad u) = some (.frz o (.dK (dct (nb u) fun v => .int (wt u v))))
theorem RowsM.r {H : Hp} {a : Addr} {Vs : List Str} {ad : Str → Addr} {nb : Nb} {wt : Wt} (R : RowsM H a Vs ad nb wt) : RowsR H a Vs ad nb wt := ⟨.inl R.top, fun u hu => .inl (R.row u hu)⟩
theorem RowsZ.r {H : Hp} {a : Addr} {Vs : List Str} {ad : Str → Addr} {nb : Nb} {wt : Wt} (R : RowsZ H a Vs ad nb wt) : RowsR H a Vs ad nb wt := ⟨.inr R.top, fun u hu => .inr (R.row u hu)⟩
/-- all but the tables stay -/
abbrev Ext (H H' : Hp) : Prop := ∀ b o, H b = some o → (∀ ps, o ≠ .tbl ps) → H' b = some o
theorem Ext.refl (H : Hp) : Ext H H := fun _ _ h _ => h
theorem Ext.trans {H H1 H2 : Hp} (a : Ext H H1) (b : Ext H1 H2) : Ext H H2 := fun c o h n => b c o (a c o h n) n
theorem Ext.of {H H' : Hp} (e : Same H H') : Ext H H' := fun b o h _ => e b o h
theorem Ext.rd {H H' : Hp} {a : Addr} {u : HO} (e : Ext H H') (h : Rd H a u) (n : ∀ ps, u ≠ .tbl ps) : Rd H' a u := by
  rcases h with h | ⟨o, h⟩
  · exact .inl (e _ _ h n)
  · exact .inr ⟨o, e _ _ h fun ps z => by cases z⟩
theorem Ext.up {H H' : Hp} {p : Addr} {o : HO} (e : Ext H H') (h : H p = none) : Ext H (upd H' p o) := fun b u hb n => by
  rw [upd_ne (ne_of_none hb h)]
  exact e b u hb n
theorem RowsR.ext {H H' : Hp} {a : Addr} {Vs : List Str} {ad : Str → Addr} {nb : Nb} {wt : Wt} (R : RowsR H a Vs ad nb wt) (e : Ext H H') : RowsR H' a Vs ad nb wt := ⟨e.rd R.top (fun ps z => by cases z), fun u hu => e.rd (R.row u hu) (fun ps z => by cases z)⟩
theorem RowsM.ext {H H' : Hp} {a : Addr} {Vs : List Str} {ad : Str → Addr} {nb : Nb} {wt : Wt} (R : RowsM H a Vs ad nb wt) (e : Ext H H') : RowsM H' a Vs ad nb wt := ⟨e _ _ R.top (fun ps z => by cases z), fun u hu => e _ _ (R.row u hu) (fun ps z => by cases z), R.inj, R.nd⟩
theorem RowsZ.ext {H H' : Hp} {a : Addr} {Vs : List Str} {ad : Str → Addr} {nb : Nb} {wt : Wt} (R : RowsZ H a Vs ad nb wt) (e : Ext H H') : RowsZ H' a Vs ad nb wt := by
  refine ⟨?_, fun u hu => ?_⟩
  · obtain ⟨o, h⟩ := R.top
    exact ⟨o, e _ _ h fun ps z => by cases z⟩
  · obtain ⟨o, h⟩ := R.row u hu
    exact ⟨o, e _ _ h fun ps z => by cases z⟩
theorem RowsM.ne {H : Hp} {a : Addr} {Vs : List Str} {ad : Str → Addr} {nb : Nb} {wt : Wt} (R : RowsM H a Vs ad nb wt) {u : Str} (hu : u ∈ Vs) : ad u ≠ a := by
  refine ne_of (R.row u hu) R.top fun z => ?_
  have z : dct (nb u) (fun v => V.int (wt u v)) = dct Vs fun u => .ref (ad u) := by
    injection z
  have h1 := @dct_in Vs (fun u => V.ref (ad u)) u hu
  rw [← z, dct_val] at h1
  split at h1
  · cases h1
  · cases h1
/-- the row of u is written -/
theorem RowsM.put {H : Hp} {a : Addr} {Vs : List Str} {ad : Str → Addr} {nb : Nb} {wt : Wt} (R : RowsM H a Vs ad nb wt) {u : Str} (hu : u ∈ Vs) (ks : List Str) (f : Str → Int) :
    RowsM (upd H (ad u) (.dK (dct ks fun v => .int (f v)))) a Vs ad (fun x => if x = u then ks else nb x) (fun x y => if x = u then f y else wt x y) := by
  refine ⟨by rw [upd_ne (Ne.symm (R.ne hu))]; exact R.top, fun x hx => ?_, R.inj, R.nd⟩
  by_cases e : x = u
  · subst e
    rw [upd_same, if_pos rfl]
    rw [dct_congr (g := fun v => V.int (f v)) (g' := fun v => V.int (if x = x then f v else wt x v)) fun v _ => by rw [if_pos rfl]]
  · rw [upd_ne (fun z => e (R.inj x hx u hu z)), R.row x hx, if_neg e]
    rw [dct_congr (g := fun v => V.int (wt x v)) (g' := fun v => V.int (if x = u then f v else wt x v)) fun v _ => by rw [if_neg e]]
/-- .. told otherwise -/
theorem RowsM.as {H : Hp} {a : Addr} {Vs : List Str} {ad : Str → Addr} {nb nb' : Nb} {wt wt' : Wt} (R : RowsM H a Vs ad nb wt) (h1 : ∀ u ∈ Vs, nb u = nb' u) (h2 : ∀ u ∈ Vs, ∀ v ∈ nb u, wt u v = wt' u v) : RowsM H a Vs ad nb' wt' := by
  refine ⟨R.top, fun u hu => ?_, R.inj, R.nd⟩
  rw [R.row u hu, ← h1 u hu]
  rw [dct_congr (g := fun v => V.int (wt u v)) (g' := fun v => V.int (wt' u v)) fun v hv => by rw [h2 u hu v hv]]
theorem opIn {X : Cx} (K : PySem.W.Frag) (h : X.K = K) : OpR X (compareOp .In) (rIn K false) := by
  subst h
  exact op_in_seq
theorem inV_str {x : Str} {xs : List Str} : inV (.str x) (xs.map V.str) = decide (x ∈ xs) := by
  rw [Bool.eq_iff_iff, decide_eq_true_iff]
  unfold inV
  rw [List.any_eq_true]
  constructor
  · rintro ⟨y, hy, e⟩
    obtain ⟨z, hz, rfl⟩ := List.mem_map.mp hy
    have e : (x == z) = true ∨ (z == x) = true := by
      first | exact Or.inl e | exact Or.inr e
    rcases e with e | e
    · rw [eq_of_beq e]
      exact hz
    · rw [← eq_of_beq e]
      exact hz
  · intro h
    exact ⟨.str x, List.mem_map.mpr ⟨x, h, rfl⟩, by show (x == x) = true; exact beq_self_eq_true x⟩
theorem flat_str {xs : List Str} : (xs.map V.str).all flatV = true := by
  rw [List.all_eq_true]
  intro y hy
  obtain ⟨z, _, rfl⟩ := List.mem_map.mp hy
  rfl
theorem pgT {X : Cx} {es : List Expr} {k : Nat} {t : TGs} {pos : Pos} (K : PySem.W.Frag) (n : Nat) (hK : X.K = K) (hc : X.calm = true) (h : PGs X es t) (hn : (assignEach es X.env).length = n) (hst : (assignEach es X.env).findIdx? (·.1) = none := by rfl) : PG X (.Tuple es k pos) (gTup K n t) := by
  subst hK
  subst hn
  exact pg_tup hc h rfl hst
end WkN
namespace WkP
open PySem WkN
/-! ### orders by connection -/
def conn (nb : Nb) (wt : Wt) (S : List Str) (u : Str) : Int := (S.map fun s => if u ∈ nb s then wt s u else 0).sum
theorem conn_snoc (nb : Nb) (wt : Wt) (S : List Str) (s u : Str) : conn nb wt (S ++ [s]) u = conn nb wt S u + (if u ∈ nb s then wt s u else 0) := by
  unfold conn
  rw [List.map_append, List.sum_append]
  simp
structure Pre (nb : Nb) (wt : Wt) (Vs done : List Str) : Prop where
  nd : done.Nodup
  sub : ∀ x ∈ done, x ∈ Vs
  best : ∀ (i : Nat) (x : Str), done[i]? = some x → ∀ u ∈ Vs, u ∉ done.take i → conn nb wt (done.take i) u ≤ conn nb wt (done.take i) x
theorem Pre.nil (nb : Nb) (wt : Wt) (Vs : List Str) : Pre nb wt Vs [] := ⟨List.nodup_nil, fun x h => absurd h (by simp), fun i x h => absurd h (by simp)⟩
theorem Pre.snoc {nb : Nb} {wt : Wt} {Vs done : List Str} {x : Str} (p : Pre nb wt Vs done) (hx : x ∈ Vs) (hn : x ∉ done) (hb : ∀ u ∈ Vs, u ∉ done → conn nb wt done u ≤ conn nb wt done x) : Pre nb wt Vs (done ++ [x]) := by
  refine ⟨?_, fun y hy => ?_, fun i y hy u hu hm => ?_⟩
  · rw [List.nodup_append]
    refine ⟨p.nd, by simp, fun a ha b hb e => ?_⟩
    have hb : b = x := by simpa using hb
    rw [e, hb] at ha
    exact hn ha
  · rcases List.mem_append.mp hy with h | h
    · exact p.sub y h
    · rw [List.mem_singleton.mp h]
      exact hx
  · rcases Nat.lt_trichotomy i done.length with h | h | h
    · have e : (done ++ [x]).take i = done.take i := List.take_append_of_le_length (by omega)
      rw [List.getElem?_append_left h] at hy
      rw [e] at hm ⊢
      exact p.best i y hy u hu hm
    · subst h
      have e : (done ++ [x]).take done.length = done := by simp
      have ey : x = y := by simpa using hy
      rw [e] at hm ⊢
      rw [← ey]
      exact hb u hu hm
    · rw [List.getElem?_eq_none (by simp; omega)] at hy
      cases hy
/-- the last two vertices of such an order, and what the last one is joined by -/
def LastTwo (nb : Nb) (wt : Wt) (Vs : List Str) (x l : Str) (n : Int) : Prop := ∃ pre, Pre nb wt Vs (pre ++ [x, l]) ∧ (∀ u ∈ Vs, u ∈ pre ++ [x, l]) ∧ n = conn nb wt (pre ++ [x]) l
theorem LastTwo.mem {nb : Nb} {wt : Wt} {Vs : List Str} {x l : Str} {n : Int} (h : LastTwo nb wt Vs x l n) : x ∈ Vs ∧ l ∈ Vs ∧ x ≠ l := by
  obtain ⟨pre, p, _, _⟩ := h
  refine ⟨p.sub x (by simp), p.sub l (by simp), fun e => ?_⟩
  have nd := p.nd
  rw [e, List.nodup_append] at nd
  simp at nd
/-- how the last two stand while the order is made -/
def Tail (nb : Nb) (wt : Wt) (done : List Str) (ah la : L2.V) (wg : L2.V) : Prop :=
  (done = [] ∧ la = .non) ∨ (∃ x, done = [x] ∧ la = .str x) ∨ ∃ pre x l, done = pre ++ [x, l] ∧ ah = .str x ∧ la = .str l ∧ wg = .int (conn nb wt (pre ++ [x]) l)
theorem Tail.snoc {nb : Nb} {wt : Wt} {done : List Str} {ah la wg : L2.V} (t : Tail nb wt done ah la wg) (y : Str) : Tail nb wt (done ++ [y]) la (.str y) (.int (conn nb wt done y)) := by
  rcases t with ⟨rfl, _⟩ | ⟨x, rfl, rfl⟩ | ⟨pre, x, l, rfl, _, rfl, _⟩
  · exact .inr (.inl ⟨y, rfl, rfl⟩)
  · exact .inr (.inr ⟨[], x, y, rfl, rfl, rfl, rfl⟩)
  · exact .inr (.inr ⟨pre ++ [x], l, y, by simp, rfl, rfl, by simp⟩)
end WkP
namespace WkP
open PySem WkN
/-! ### two vertices become one -/
def vl0 (nb : Nb) (wt : Wt) (u v : Str) : Int := if v ∈ nb u then wt u v else 0
structure Sym (Vs : List Str) (nb : Nb) (wt : Wt) : Prop where
  nd : ∀ u ∈ Vs, (nb u).Nodup
  mem : ∀ u ∈ Vs, ∀ v ∈ nb u, v ∈ Vs ∧ v ≠ u ∧ u ∈ nb v ∧ wt v u = wt u v
structure Mp (nb : Nb) (wt : Wt) (kept gone : Str) (Ws S : List Str) (nbi : Nb) (wti : Wt) : Prop where
  nd : ∀ u ∈ Ws, (nbi u).Nodup
  mem : ∀ u ∈ Ws, ∀ y, y ∈ nbi u ↔ (y = gone ∧ gone ∈ nb u ∧ u ∉ S) ∨ (y ≠ gone ∧ (y ∈ nb u ∨ (u = kept ∧ y ∈ S ∧ y ≠ kept) ∨ (y = kept ∧ u ∈ S ∧ u ≠ kept)))
  val : ∀ u ∈ Ws, ∀ y, y ≠ gone → y ∈ nbi u → wti u y = vl0 nb wt u y + (if u = kept ∧ y ∈ S then wt gone y else 0) + (if y = kept ∧ u ∈ S ∧ u ≠ kept then wt gone u else 0)
theorem Mp.start {nb : Nb} {wt : Wt} {kept gone : Str} {Vs Ws : List Str} (s : Sym Vs nb wt) (h : ∀ u ∈ Ws, u ∈ Vs) : Mp nb wt kept gone Ws [] nb wt := by
  refine ⟨fun u hu => s.nd u (h u hu), fun u hu y => ?_, fun u hu y hy hm => ?_⟩
  · by_cases e : y = gone
    · subst e
      simp
    · simp [e]
  · unfold vl0
    simp [hm]
def up (nb : Nb) (u : Str) (ks : List Str) : Nb := fun y => if y = u then ks else nb y
def upw (wt : Wt) (u : Str) (f : Str → Int) : Wt := fun x y => if x = u then f y else wt x y
def add (ks : List Str) (v : Str) : List Str := if v ∈ ks then ks else ks ++ [v]
theorem add_mem {ks : List Str} {v y : Str} : y ∈ add ks v ↔ y ∈ ks ∨ y = v := by
  unfold add
  split <;> grind
theorem add_nd {ks : List Str} {v : Str} (h : ks.Nodup) : (add ks v).Nodup := by
  unfold add
  split
  · exact h
  · rename_i hn
    rw [List.nodup_append]
    exact ⟨h, by simp, fun a ha b hb e => by
      have hb : b = v := by simpa using hb
      rw [e, hb] at ha
      exact hn ha⟩
section
variable {nb : Nb} {wt : Wt} {kept gone : Str} {Vs Ws S : List Str} {nbi : Nb} {wti : Wt}
/-- a turn at the kept one -/
theorem Mp.atKept (m : Mp nb wt kept gone Ws S nbi wti) (s : Sym Vs nb wt) (hW : ∀ u ∈ Ws, u ∈ Vs) (hk : kept ∈ Ws) (hne : kept ≠ gone) : Mp nb wt kept gone Ws (S ++ [kept]) (up nbi kept ((nbi kept).filter fun y => decide (y ≠ gone))) wti := by
  refine ⟨fun u hu => ?_, fun u hu y => ?_, fun u hu y hy hm => ?_⟩
  · unfold up
    split
    · exact (m.nd kept hk).filter _
    · exact m.nd u hu
  · have h1 := m.mem u hu y
    have h2 := m.mem kept hk y
    unfold up
    by_cases e : u = kept
    · subst e
      rw [if_pos rfl, List.mem_filter]
      grind
    · rw [if_neg e, h1]
      grind
  · have hm' : y ∈ nbi u := by
      unfold up at hm
      split at hm
      · rename_i e
        rw [e]
        exact (List.mem_filter.mp hm).1
      · exact hm
    have h1 := m.mem u hu y
    have h5 := s.mem kept (hW _ hk) kept
    rw [m.val u hu y hy hm']
    grind
/-- a turn at another one -/
theorem Mp.atOther (m : Mp nb wt kept gone Ws S nbi wti) (s : Sym Vs nb wt) (hW : ∀ u ∈ Ws, u ∈ Vs) (hk : kept ∈ Ws) (hne : kept ≠ gone) {v : Str} (hv : v ∈ Ws) (hvS : v ∉ S) (hvk : v ≠ kept) (hvg : v ≠ gone) (hg : gone ∈ nb v) {n : Int} (hn : n = (if v ∈ nbi kept then wti kept v else 0) + wt gone v) :
    Mp nb wt kept gone Ws (S ++ [v]) (up (up (up nbi v ((nbi v).filter fun y => decide (y ≠ gone))) kept (add (nbi kept) v)) v (add ((nbi v).filter fun y => decide (y ≠ gone)) kept))
      (upw (upw wti kept fun y => if y = v then n else wti kept y) v fun y => if y = kept then n else wti v y) := by
  have hkm := m.mem kept hk v
  have hn2 : n = vl0 nb wt kept v + wt gone v := by
    rw [hn]
    unfold vl0
    by_cases h : v ∈ nbi kept
    · have h3 := m.val kept hk v hvg h
      unfold vl0 at h3
      grind
    · have : v ∉ nb kept := by grind
      grind
  have sy : vl0 nb wt v kept = vl0 nb wt kept v := by
    unfold vl0
    have a1 := s.mem kept (hW _ hk) v
    have a2 := s.mem v (hW _ hv) kept
    grind
  refine ⟨fun u hu => ?_, fun u hu y => ?_, fun u hu y hy hm => ?_⟩
  · unfold up
    split
    · exact add_nd ((m.nd v hv).filter _)
    · split
      · exact add_nd (m.nd kept hk)
      · exact m.nd u hu
  · have h1 := m.mem u hu y
    have h2 := m.mem kept hk y
    have h3 := m.mem v hv y
    unfold up
    by_cases e1 : u = v
    · subst e1
      rw [if_pos rfl, add_mem, List.mem_filter]
      grind
    · rw [if_neg e1]
      by_cases e2 : u = kept
      · subst e2
        rw [if_pos rfl, add_mem]
        grind
      · rw [if_neg e2, if_neg e1, h1]
        grind
  · unfold up at hm
    unfold upw
    by_cases e1 : u = v
    · subst e1
      rw [if_pos rfl, add_mem, List.mem_filter] at hm
      rw [if_pos rfl]
      dsimp only
      have h3 := m.mem u hu y
      by_cases e3 : y = kept
      · subst e3
        rw [if_pos rfl, hn2, sy]
        grind
      · rw [if_neg e3]
        have hm2 : y ∈ nbi u := by grind
        rw [m.val u hu y hy hm2]
        grind
    · rw [if_neg e1] at hm
      rw [if_neg e1]
      by_cases e2 : u = kept
      · subst e2
        rw [if_pos rfl, add_mem] at hm
        rw [if_pos rfl]
        dsimp only
        by_cases e3 : y = v
        · subst e3
          rw [if_pos rfl, hn2]
          grind
        · rw [if_neg e3]
          have hm2 : y ∈ nbi u := by grind
          rw [m.val u hu y hy hm2]
          grind
      · rw [if_neg e2, if_neg e1] at hm
        rw [if_neg e2, m.val u hu y hy hm]
        grind
end
/-- the graph in which gone is merged into kept -/
structure Merged (nb : Nb) (wt : Wt) (kept gone : Str) (Ws : List Str) (nb' : Nb) (wt' : Wt) : Prop where
  mem : ∀ u ∈ Ws, ∀ y, y ∈ nb' u ↔ y ≠ gone ∧ y ≠ u ∧ (y ∈ nb u ∨ (u = kept ∧ y ∈ nb gone) ∨ (y = kept ∧ gone ∈ nb u))
  val : ∀ u ∈ Ws, ∀ y, y ∈ nb' u → wt' u y = vl0 nb wt u y + (if u = kept then vl0 nb wt gone y else 0) + (if y = kept then vl0 nb wt gone u else 0)
  sym : Sym Ws nb' wt'
theorem Mp.done {nb : Nb} {wt : Wt} {kept gone : Str} {Vs : List Str} {nbi : Nb} {wti : Wt} (s : Sym Vs nb wt) (hk : kept ∈ Vs) (hg : gone ∈ Vs) (hne : kept ≠ gone) (m : Mp nb wt kept gone (Vs.filter fun y => decide (y ≠ gone)) (nb gone) nbi wti) :
    Merged nb wt kept gone (Vs.filter fun y => decide (y ≠ gone)) nbi wti := by
  have mw : ∀ u, u ∈ (Vs.filter fun y => decide (y ≠ gone)) ↔ u ∈ Vs ∧ u ≠ gone := fun u => by
    rw [List.mem_filter, decide_eq_true_iff]
  have mem : ∀ u ∈ (Vs.filter fun y => decide (y ≠ gone)), ∀ y, y ∈ nbi u ↔ y ≠ gone ∧ y ≠ u ∧ (y ∈ nb u ∨ (u = kept ∧ y ∈ nb gone) ∨ (y = kept ∧ gone ∈ nb u)) := fun u hu y => by
    have h1 := m.mem u hu y
    have hu' := (mw u).mp hu
    have a1 := s.mem u hu'.1
    have a2 := s.mem gone hg
    grind
  have vl : ∀ u ∈ (Vs.filter fun y => decide (y ≠ gone)), ∀ y, y ∈ nbi u → wti u y = vl0 nb wt u y + (if u = kept then vl0 nb wt gone y else 0) + (if y = kept then vl0 nb wt gone u else 0) := fun u hu y hy => by
    have h0 := (mem u hu y).mp hy
    rw [m.val u hu y h0.1 hy]
    unfold vl0
    have a2 := s.mem gone hg
    grind
  refine ⟨mem, vl, ⟨m.nd, fun u hu v hv => ?_⟩⟩
  have hu' := (mw u).mp hu
  have h0 := (mem u hu v).mp hv
  have a1 := s.mem u hu'.1
  have a2 := s.mem gone hg
  have hvV : v ∈ Vs := by grind
  have hvW : v ∈ (Vs.filter fun y => decide (y ≠ gone)) := (mw v).mpr ⟨hvV, h0.1⟩
  have a3 := s.mem v hvV
  have hb : u ∈ nbi v := by
    rw [mem v hvW u]
    grind
  refine ⟨hvW, h0.2.1, hb, ?_⟩
  rw [vl v hvW u hb, vl u hu v hv]
  unfold vl0
  grind
open L2 in
theorem putI {H : Hp} {a : Addr} {ks : List Str} {f : Str → Int} {v : Str} {n : Int} (h : H a = some (.dK (dct ks fun y => .int (f y)))) (hl : ks.length < sizeLine) : DPut H a (.str v) (.int n) (upd H a (.dK (dct (add ks v) fun y => .int (if y = v then n else f y)))) := by
  have e : ∀ l : List Str, dct l (fun y => if y = v then V.int n else V.int (f y)) = dct l fun y => V.int (if y = v then n else f y) := fun l => dct_congr fun y _ => by split <;> rfl
  unfold add
  by_cases hv : v ∈ ks
  · rw [if_pos hv, ← e]
    exact put_d h hv hl
  · rw [if_neg hv, ← e]
    exact put_n h hv hl
end WkP
namespace WkP
open PySem WkN
/-! ### the least cut, as the program finds it -/
def grow (grp : Str → List Str) (x l : Str) : Str → List Str := fun u => if u = x then grp x ++ grp l else grp u
def better (best : Option (Int × List Str)) (n : Int) (g : List Str) : Option (Int × List Str) := match best with
  | none => some (n, g)
  | some (m, h) => if n < m then some (n, g) else some (m, h)
inductive Phases (Vs : List Str) (nb : Nb) (wt : Wt) : List Str → Nb → Wt → (Str → List Str) → Option (Int × List Str) → Prop
  | start : Phases Vs nb wt Vs nb wt (fun u => [u]) none
  | step {Ws : List Str} {nb' nb'' : Nb} {wt' wt'' : Wt} {grp : Str → List Str} {best : Option (Int × List Str)} {x l : Str} {n : Int} :
      Phases Vs nb wt Ws nb' wt' grp best → LastTwo nb' wt' Ws x l n → Merged nb' wt' x l (Ws.filter fun y => decide (y ≠ l)) nb'' wt'' →
      Phases Vs nb wt (Ws.filter fun y => decide (y ≠ l)) nb'' wt'' (grow grp x l) (better best n (grp l))
/-- what is known of the groups -/
structure Grps (Vs Ws : List Str) (grp : Str → List Str) : Prop where
  sub : ∀ u ∈ Ws, u ∈ Vs
  mem : ∀ u ∈ Ws, ∀ y ∈ grp u, y ∈ Vs
  nd : ∀ u ∈ Ws, (grp u).Nodup
  dis : ∀ u ∈ Ws, ∀ v ∈ Ws, ∀ y, y ∈ grp u → y ∈ grp v → u = v
theorem Phases.grps {Vs : List Str} {nb : Nb} {wt : Wt} {Ws : List Str} {nb' : Nb} {wt' : Wt} {grp : Str → List Str} {best : Option (Int × List Str)} (p : Phases Vs nb wt Ws nb' wt' grp best) : Grps Vs Ws grp := by
  induction p with
  | start => exact ⟨fun u h => h, fun u h y hy => by rw [List.mem_singleton.mp hy]; exact h, fun u _ => by simp, fun u _ v _ y h1 h2 => by rw [← List.mem_singleton.mp h1, ← List.mem_singleton.mp h2]⟩
  | @step Ws nb' nb'' wt' wt'' grp best x l n p lt mg ih =>
    obtain ⟨hx, hl, hne⟩ := lt.mem
    obtain ⟨i1, i2, i3, i4⟩ := ih
    have mw : ∀ u, u ∈ (Ws.filter fun y => decide (y ≠ l)) ↔ u ∈ Ws ∧ u ≠ l := fun u => by rw [List.mem_filter, decide_eq_true_iff]
    refine ⟨fun u hu => i1 u ((mw u).mp hu).1, fun u hu y hy => ?_, fun u hu => ?_, fun u hu v hv y h1 h2 => ?_⟩
    · unfold grow at hy
      split at hy
      · rcases List.mem_append.mp hy with h | h
        · exact i2 x hx y h
        · exact i2 l hl y h
      · exact i2 u ((mw u).mp hu).1 y hy
    · unfold grow
      split
      · rw [List.nodup_append]
        exact ⟨i3 x hx, i3 l hl, fun a ha b hb e => hne (i4 x hx l hl a ha (e ▸ hb))⟩
      · exact i3 u ((mw u).mp hu).1
    · have hu' := (mw u).mp hu
      have hv' := (mw v).mp hv
      unfold grow at h1 h2
      have a := i4 u hu'.1 v hv'.1 y
      have b := i4 x hx v hv'.1 y
      have c := i4 l hl v hv'.1 y
      have d := i4 u hu'.1 x hx y
      have e := i4 u hu'.1 l hl y
      grind
theorem Grps.len {Vs Ws : List Str} {grp : Str → List Str} (g : Grps Vs Ws grp) {u : Str} (hu : u ∈ Ws) : (grp u).length ≤ Vs.length :=
  (g.nd u hu).length_le_of_subset fun y hy => g.mem u hu y hy
def LeastCut (Vs : List Str) (nb : Nb) (wt : Wt) (n : Int) (m : List Str) : Prop := ∃ Ws nb' wt' grp, Phases Vs nb wt Ws nb' wt' grp (some (n, m)) ∧ Ws.length ≤ 1
def sideL (top : Str) (Vs m : List Str) : List Str := Vs.filter fun v => !decide (L2.V.bl (decide (v ∈ m)) = L2.V.bl (decide (top ∈ m)))
theorem Phases.none {Vs : List Str} {nb : Nb} {wt : Wt} {Ws : List Str} {nb' : Nb} {wt' : Wt} {grp : Str → List Str} {best : Option (Int × List Str)} (p : Phases Vs nb wt Ws nb' wt' grp best) (h : best = Option.none) : Ws = Vs := by
  cases p with
  | start => rfl
  | @step Ws nb' nb'' wt' wt'' grp best x l n p lt mg =>
    unfold better at h
    split at h
    · cases h
    · split at h <;> cases h
end WkP
namespace WkN
open PySem PySem.Spec PyProof.Rows L2 WkD
theorem piL {X : Cx} {tg e : Expr} {te : TE} (K : PySem.W.Frag) (h : X.K = K) (he : PE X e te) : PI X tg e (iList K te) := by
  subst h
  exact pi_list he
end WkN
namespace WkN
open PySem PySem.Spec PyProof.Rows L2 WkD
theorem piOr {X : Cx} {tg e : Expr} {t u : TI} (h1 : PI X tg e t) (h2 : PI X tg e u) : PI X tg e (fun σ H R => t σ H R ∨ u σ H R) := by
  refine ⟨fun pins s σ H R I h => ?_⟩
  rcases h with h | h
  · exact h1.run pins s σ H R I h
  · exact h2.run pins s σ H R I h
theorem opCatT {X : Cx} (K : PySem.W.Frag) (h : X.K = K) : OpR X (binaryOp .Add) (rCatT K) := by
  subst h
  exact op_catT
end WkN
namespace WkP
open PySem WkN
/-! ### rows made of a list of edges -/
abbrev Ed := Str × Str × Int
def Adj (es : List Ed) (u v : Str) (n : Int) : Prop := (u, v, n) ∈ es ∨ (v, u, n) ∈ es
structure RowsOf (Vs : List Str) (es : List Ed) (nb : Nb) (wt : Wt) : Prop where
  nd : ∀ u ∈ Vs, (nb u).Nodup
  mem : ∀ u ∈ Vs, ∀ v, v ∈ nb u ↔ ∃ n, Adj es u v n
  val : ∀ u ∈ Vs, ∀ v n, Adj es u v n → wt u v = n
theorem RowsOf.nil (Vs : List Str) (wt : Wt) : RowsOf Vs [] (fun _ => []) wt := by
  refine ⟨fun u _ => by simp, fun u _ v => ?_, fun u _ v n h => ?_⟩
  · simp [Adj]
  · simp [Adj] at h
theorem RowsOf.snoc {Vs : List Str} {es : List Ed} {nb : Nb} {wt : Wt} {a b : Str} {n : Int} (r : RowsOf Vs es nb wt) (ha : a ∈ Vs) (hb : b ∈ Vs) (hne : a ≠ b) (hn : b ∉ nb a) :
    RowsOf Vs (es ++ [(a, b, n)]) (up (up nb a (add (nb a) b)) b (add (nb b) a)) (upw (upw wt a fun y => if y = b then n else wt a y) b fun y => if y = a then n else wt b y) := by
  have adj : ∀ u v m, Adj (es ++ [(a, b, n)]) u v m ↔ Adj es u v m ∨ (u = a ∧ v = b ∧ m = n) ∨ (u = b ∧ v = a ∧ m = n) := fun u v m => by
    unfold Adj
    grind
  have ma := r.mem a ha
  have mb := r.mem b hb
  have sy : ∀ u v m, Adj es u v m → Adj es v u m := fun u v m h => h.symm
  have hn2 : a ∉ nb b := fun h => by
    obtain ⟨m, hm⟩ := (mb a).mp h
    exact hn ((ma b).mpr ⟨m, sy _ _ _ hm⟩)
  refine ⟨fun u hu => ?_, fun u hu v => ?_, fun u hu v m h => ?_⟩
  · unfold up
    split
    · exact add_nd (r.nd b hb)
    · split
      · exact add_nd (r.nd a ha)
      · exact r.nd u hu
  · have h1 := r.mem u hu v
    have h2 := ma v
    have h3 := mb v
    unfold up
    by_cases e1 : u = b
    · subst e1
      rw [if_pos rfl, add_mem, h3]
      constructor
      · rintro (⟨m, h⟩ | h)
        · exact ⟨m, (adj _ _ _).mpr (.inl h)⟩
        · exact ⟨n, (adj _ _ _).mpr (.inr (.inr ⟨rfl, h, rfl⟩))⟩
      · rintro ⟨m, h⟩
        rcases (adj _ _ _).mp h with h | h | h
        · exact .inl ⟨m, h⟩
        · exact absurd h.1.symm hne
        · exact .inr h.2.1
    · rw [if_neg e1]
      by_cases e2 : u = a
      · subst e2
        rw [if_pos rfl, add_mem, h2]
        constructor
        · rintro (⟨m, h⟩ | h)
          · exact ⟨m, (adj _ _ _).mpr (.inl h)⟩
          · exact ⟨n, (adj _ _ _).mpr (.inr (.inl ⟨rfl, h, rfl⟩))⟩
        · rintro ⟨m, h⟩
          rcases (adj _ _ _).mp h with h | h | h
          · exact .inl ⟨m, h⟩
          · exact .inr h.2.1
          · exact absurd h.1 hne
      · rw [if_neg e2, h1]
        constructor
        · rintro ⟨m, h⟩
          exact ⟨m, (adj _ _ _).mpr (.inl h)⟩
        · rintro ⟨m, h⟩
          rcases (adj _ _ _).mp h with h | h | h
          · exact ⟨m, h⟩
          · exact absurd h.1 e2
          · exact absurd h.1 e1
  · have va := r.val u hu v m
    have hb' := (mb v).mpr
    have ha' := (ma v).mpr
    unfold upw
    rcases (adj _ _ _).mp h with h | h | h
    · grind
    · grind
    · grind
end WkP
namespace WkG
open PySem PySem.Spec PyProof.Rows L2
/-! ### data at any depth, dicts among it -/
def keyD : Key → PyData
  | .inl i => .int i
  | .inr x => .str x
mutual
inductive Dx (K : PySem.W.Frag) (H : Hp) : V → PyData → Prop
  | non : Dx K H .non .none
  | bl (b : Bool) : Dx K H (.bl b) (.bool b)
  | int (i : Int) : Dx K H (.int i) (.int i)
  | str (x : Str) : Dx K H (.str x) (.str x)
  | lst {a : Addr} {xs : List V} {ds : List PyData} : SqL K H a xs → DxAll K H xs ds → Dx K H (.ref a) (.list ds)
  | tup {a : Addr} {xs : List V} {ds : List PyData} : SqT K H a xs → DxAll K H xs ds → Dx K H (.ref a) (.tuple ds)
  | dK {a : Addr} {kvs : List (Key × V)} {ks vs : List PyData} {es : List (PyData × PyData)} : Rd H a (.dK kvs) → DxAll K H (kvs.map (·.2)) vs → ks = kvs.map (fun p => keyD p.1) → es.map (·.1) = ks → es.map (·.2) = vs → Dx K H (.ref a) (.dict es)
  | dT {a : Addr} {kvs : List (List Key × V)} {vs : List PyData} {es : List (PyData × PyData)} : H a = some (.dT kvs) → DxAll K H (kvs.map (·.2)) vs → es.map (·.1) = kvs.map (fun p => PyData.tuple (p.1.map keyD)) → es.map (·.2) = vs → Dx K H (.ref a) (.dict es)
inductive DxAll (K : PySem.W.Frag) (H : Hp) : List V → List PyData → Prop
  | nil : DxAll K H [] []
  | cons {v : V} {vs : List V} {d : PyData} {ds : List PyData} : Dx K H v d → DxAll K H vs ds → DxAll K H (v :: vs) (d :: ds)
end
theorem keyD_reads {h : Heap} {k : Key} {v : Value} (e : keyIs k v = true) : Reads h v (keyD k) [] := by
  rcases keyIs_shape e with ⟨i, t, rfl, rfl⟩ | ⟨x, t, rfl, rfl⟩
  · exact .int i t
  · exact .str x t
theorem pairs_reads {P : Program} {w : World} {h : Heap} : ∀ {es : List DictEntry} {vs : List (Key × Value)}, Pairs (mixKind P w) es vs → ReadsAll h (es.map (·.key)) (vs.map fun p => keyD p.1) [] ∧ es.map (·.val) = vs.map (·.2)
  | [], [], _ => ⟨.nil, rfl⟩
  | e :: es, kv :: vs, h => by
    cases h with
    | cons h1 h2 h3 =>
      obtain ⟨r1, r2⟩ := pairs_reads h3
      refine ⟨.cons (as := []) (bs := []) (keyD_reads h1) r1, ?_⟩
      rw [List.map_cons, List.map_cons, r2, h2]
theorem kv_keys {kvs : List (Key × V)} {vs : List (Key × Value)} (h : KV kvs vs) : kvs.map (fun p => keyD p.1) = vs.map (fun p => keyD p.1) ∧ Vals (kvs.map (·.2)) (vs.map (·.2)) := by
  induction h with
  | nil => exact ⟨rfl, .nil⟩
  | cons r t ih =>
    refine ⟨?_, .cons r.2 ih.2⟩
    rw [List.map_cons, List.map_cons, ih.1, r.1]
/-- sys.modules stands in the written part -/
def Sm (K : PySem.W.Frag) : Prop := ∃ o, K.lookup sysModules = some o ∧ o.cls = .type "dict"
section
variable {X : Cx} {pins : List (Addr × Obj)} {σ : L2.St} {H : Hp} {s : Shared}
theorem sm_none (I : Inv X pins σ H s) (S : Sm X.K) : H sysModules = none := by
  obtain ⟨o, e, _⟩ := S
  exact (I.bs _ _ (I.ok.mod.kin _ _ e)).2
theorem sm_list (I : Inv X pins σ H s) (S : Sm X.K) {a : Addr} {xs : List V} (h : SqL X.K H a xs) : sysModules ≠ a := by
  intro z
  subst z
  rcases h with (h | ⟨o, h⟩) | ⟨o, its, n, hk, hc, _⟩
  · rw [sm_none I S] at h
    cases h
  · rw [sm_none I S] at h
    cases h
  · obtain ⟨o', e, c⟩ := S
    rw [e] at hk
    cases hk
    rw [c] at hc
    exact absurd (Value.type.inj hc) (by decide)
theorem tk_reads {h : Heap} : ∀ (ks : List Key) (its : List Value), Vals (ks.map kV) its → ReadsAll h its (ks.map keyD) []
  | [], _, r => by
    cases r
    exact .nil
  | k :: ks, _, r => by
    cases r with
    | cons r1 r2 =>
      refine .cons (as := []) (bs := []) ?_ (tk_reads ks _ r2)
      cases k with
      | inl i =>
        obtain ⟨t, rfl⟩ := r1
        exact .int i t
      | inr x =>
        obtain ⟨t, rfl⟩ := r1
        exact .str x t
theorem dt_reads (I : Inv X pins σ H s) : ∀ {kvs : List (List Key × V)} {xs : List (List Key × Addr × Value)}, Paired (fun (p : List Key × V) (q : List Key × Addr × Value) => p.1 = q.1 ∧ H q.2.1 = some (.tup (p.1.map kV)) ∧ RelV p.2 q.2.2) kvs xs →
    ReadsAll s.heap (xs.map fun q => Value.ref q.2.1) (kvs.map fun p => PyData.tuple (p.1.map keyD)) [] ∧ Vals (kvs.map (·.2)) (xs.map (·.2.2))
  | _, _, .nil => ⟨.nil, .nil⟩
  | _, _, .cons h r => by
    obtain ⟨r1, r2⟩ := dt_reads I r
    obtain ⟨_, ht, rv⟩ := h
    obtain ⟨its, rvs, ⟨o, ho, hc, n, hd⟩, _⟩ := I.tuple (.inl (.inl ht))
    exact ⟨.cons (as := []) (bs := []) (.tuple ho hc hd (tk_reads _ _ rvs)) r1, .cons rv r2⟩
mutual
theorem Dx.reads (I : Inv X pins σ H s) (S : Sm X.K) : ∀ (d : PyData) (v : V) (u : Value), Dx X.K H v d → RelV v u → ∃ as, Reads s.heap u d as ∧ sysModules ∉ as
  | .none, _, _, h, r => by
    cases h
    cases r
    exact ⟨_, Reads.none, by simp⟩
  | .bool b, _, _, h, r => by
    cases h
    cases r
    exact ⟨_, Reads.bool b, by simp⟩
  | .int i, _, _, h, r => by
    cases h
    obtain ⟨t, rfl⟩ := r
    exact ⟨_, Reads.int i t, by simp⟩
  | .str x, _, _, h, r => by
    cases h
    obtain ⟨t, rfl⟩ := r
    exact ⟨_, Reads.str x t, by simp⟩
  | .list ds, _, _, h, r => by
    cases h with
    | lst hs ha =>
      cases r
      obtain ⟨its, rv, ⟨o, n, ho, hc, _, hd⟩, _⟩ := I.list hs
      obtain ⟨as, hr, hn⟩ := Dx.readsAll I S ds _ its ha rv
      refine ⟨_, Reads.list ho hc hd hr, fun z => ?_⟩
      rcases List.mem_cons.mp z with z | z
      · exact sm_list I S hs z
      · exact hn z
  | .tuple ds, _, _, h, r => by
    cases h with
    | tup hs ha =>
      cases r
      obtain ⟨its, rv, ⟨o, ho, hc, n, hd⟩, _⟩ := I.tuple hs
      obtain ⟨as, hr, hn⟩ := Dx.readsAll I S ds _ its ha rv
      exact ⟨_, Reads.tuple ho hc hd hr, hn⟩
  | .dict es, _, _, h, r => by
    cases h with
    | dK hs ha e1 e2 e3 =>
      cases r
      obtain ⟨z, y, vs, rel, o, ens, ep, ho, hx, hd, _, hp, _⟩ := hs.ok I.hok
      obtain ⟨k1, k2⟩ := kv_keys rel
      obtain ⟨p1, p2⟩ := pairs_reads (h := s.heap) hp
      have hz : es.map (·.2) = es.map (·.2) := rfl
      obtain ⟨bs, hr, hn⟩ := Dx.readsKv I S es _ _ (e3 ▸ ha) k2
      rw [← p2] at hr
      rw [← k1, ← e1, ← e2] at p1
      refine ⟨_, Reads.dict ho hx.1 hd p1 hr, fun q => ?_⟩
      rcases List.mem_cons.mp q with q | q
      · rw [← q] at y
        exact absurd y (by decide)
      · exact hn (by simpa using q)
    | dT hs ha e2 e3 =>
      cases r
      obtain ⟨z, y, xs, rel, o, ens, ep, ho, hx, hd, hes, _⟩ := I.hok _ _ hs
      obtain ⟨p1, k2⟩ := dt_reads I rel
      obtain ⟨bs, hr, hn⟩ := Dx.readsKv I S es _ _ (e3 ▸ ha) k2
      have q1 : ens.toList.map (·.key) = xs.map fun q => Value.ref q.2.1 := by rw [hes, List.map_map]; rfl
      have q2 : ens.toList.map (·.val) = xs.map (·.2.2) := by rw [hes, List.map_map]; rfl
      rw [← q1, ← e2] at p1
      rw [← q2] at hr
      refine ⟨_, Reads.dict ho hx.1 hd p1 hr, fun q => ?_⟩
      rcases List.mem_cons.mp q with q | q
      · rw [← q] at y
        exact absurd y (by decide)
      · exact hn (by simpa using q)
theorem Dx.readsAll (I : Inv X pins σ H s) (S : Sm X.K) : ∀ (ds : List PyData) (vs : List V) (us : List Value), DxAll X.K H vs ds → Vals vs us → ∃ as, ReadsAll s.heap us ds as ∧ sysModules ∉ as
  | [], _, _, h, r => by
    cases h
    cases r
    exact ⟨_, ReadsAll.nil, by simp⟩
  | d :: ds, _, _, h, r => by
    cases h with
    | cons h1 h2 =>
      cases r with
      | cons r1 r2 =>
        obtain ⟨as, q1, n1⟩ := Dx.reads I S d _ _ h1 r1
        obtain ⟨bs, q2, n2⟩ := Dx.readsAll I S ds _ _ h2 r2
        exact ⟨_, ReadsAll.cons q1 q2, fun z => (List.mem_append.mp z).elim n1 n2⟩
theorem Dx.readsKv (I : Inv X pins σ H s) (S : Sm X.K) : ∀ (es : List (PyData × PyData)) (vs : List V) (us : List Value), DxAll X.K H vs (es.map (·.2)) → Vals vs us → ∃ as, ReadsAll s.heap us (es.map (·.2)) as ∧ sysModules ∉ as
  | [], _, _, h, r => by
    cases h
    cases r
    exact ⟨_, ReadsAll.nil, by simp⟩
  | (k, d) :: es, _, _, h, r => by
    cases h with
    | cons h1 h2 =>
      cases r with
      | cons r1 r2 =>
        obtain ⟨as, q1, n1⟩ := Dx.reads I S d _ _ h1 r1
        obtain ⟨bs, q2, n2⟩ := Dx.readsKv I S es _ _ h2 r2
        exact ⟨_, ReadsAll.cons q1 q2, fun z => (List.mem_append.mp z).elim n1 n2⟩
end
end
theorem seqT_same {K : PySem.W.Frag} {H H' : Hp} {a : Addr} {xs : List V} (e : Same H H') (h : SqT K H a xs) : SqT K H' a xs := by
  rcases h with (h | ⟨o, h⟩) | h
  · exact .inl (.inl (e _ _ h))
  · exact .inl (.inr ⟨o, e _ _ h⟩)
  · exact .inr h
theorem rd_same {H H' : Hp} {a : Addr} {u : HO} (e : Same H H') (h : Rd H a u) : Rd H' a u := by
  rcases h with h | ⟨o, h⟩
  · exact .inl (e _ _ h)
  · exact .inr ⟨o, e _ _ h⟩
mutual
theorem Dx.same {K : PySem.W.Frag} {H H' : Hp} (e : Same H H') : ∀ {d : PyData} {v : V}, Dx K H v d → Dx K H' v d
  | _, _, .non => .non
  | _, _, .bl b => .bl b
  | _, _, .int i => .int i
  | _, _, .str x => .str x
  | _, _, .lst h1 h2 => .lst (e.seq h1) (DxAll.same e h2)
  | _, _, .tup h1 h2 => .tup (seqT_same e h1) (DxAll.same e h2)
  | _, _, .dK h1 h2 e1 e2 e3 => .dK (rd_same e h1) (DxAll.same e h2) e1 e2 e3
  | _, _, .dT h1 h2 e2 e3 => .dT (e _ _ h1) (DxAll.same e h2) e2 e3
theorem DxAll.same {K : PySem.W.Frag} {H H' : Hp} (e : Same H H') : ∀ {ds : List PyData} {vs : List V}, DxAll K H vs ds → DxAll K H' vs ds
  | _, _, .nil => .nil
  | _, _, .cons h1 h2 => .cons (Dx.same e h1) (DxAll.same e h2)
end
theorem DxAll.rep {K : PySem.W.Frag} {H : Hp} {v : V} {d : PyData} (h : Dx K H v d) : ∀ n : Nat, DxAll K H (List.replicate n v) (List.replicate n d)
  | 0 => .nil
  | n + 1 => .cons h (DxAll.rep h n)
/-- data that may be written: its numbers are short, it is not too large -/
structure Fits (d : PyData) (w : Nat) : Prop where
  show_ : d.showable = true
  dep : d.depth ≤ 10
  lv : d.leavesShort 100 = true
  wt : d.weight ≤ w
theorem Fits.len {d : PyData} {w : Nat} (h : Fits d w) (hw : w ≤ 150000) : d.shown.length ≤ sizeLine := by
  have e := PyData.shown_le 100 (by decide) d h.lv
  have e2 := h.wt
  rw [sizeLine_eq]
  have e3 : (100 + 2) * d.weight ≤ (100 + 2) * 150000 := Nat.mul_le_mul_left _ (by omega)
  omega
theorem rep_facts {d : PyData} (hs : d.showable = true) (hl : d.leavesShort 100 = true) : ∀ n : Nat, PyData.showableAll (List.replicate n d) = true ∧ PyData.leavesShortAll 100 (List.replicate n d) = true ∧ PyData.depthAll (List.replicate n d) ≤ d.depth ∧ PyData.weightAll (List.replicate n d) = n * (d.weight + 1)
  | 0 => ⟨rfl, rfl, Nat.zero_le _, by simp [PyData.weightAll]⟩
  | n + 1 => by
    obtain ⟨h1, h2, h3, h4⟩ := rep_facts hs hl n
    refine ⟨?_, ?_, ?_, ?_⟩
    · show (d.showable && PyData.showableAll (List.replicate n d)) = true
      rw [hs, h1]
      rfl
    · show (d.leavesShort 100 && PyData.leavesShortAll 100 (List.replicate n d)) = true
      rw [hl, h2]
      rfl
    · show max d.depth (PyData.depthAll (List.replicate n d)) ≤ d.depth
      omega
    · show d.weight + 1 + PyData.weightAll (List.replicate n d) = (n + 1) * (d.weight + 1)
      rw [h4, Nat.add_mul]
      omega
theorem Fits.rep {d : PyData} {w : Nat} (h : Fits d w) (hd : d.depth ≤ 9) (n : Nat) : Fits (.list (List.replicate n d)) (n * (w + 1)) := by
  obtain ⟨h1, h2, h3, h4⟩ := rep_facts h.show_ h.lv n
  refine ⟨h1, ?_, h2, ?_⟩
  · show PyData.depthAll (List.replicate n d) + 1 ≤ 10
    omega
  · show PyData.weightAll (List.replicate n d) ≤ _
    rw [h4]
    exact Nat.mul_le_mul_left _ (Nat.succ_le_succ h.wt)
/-! ### repr(x) where nothing is being written -/
section
variable {X : Cx}
end
/-! ### a list beside [] -/
section
variable {X : Cx}
def rNilE (K : PySem.W.Frag) : R2 := fun x y H Q => ∃ a b xs, x = .ref a ∧ y = .ref b ∧ SqL K H a xs ∧ SqL K H b [] ∧ Q (.bl xs.isEmpty) H
def rNilN (K : PySem.W.Frag) : R2 := fun x y H Q => ∃ a b xs, x = .ref a ∧ y = .ref b ∧ SqL K H a xs ∧ SqL K H b [] ∧ Q (.bl (!xs.isEmpty)) H
theorem op_eqNil (hu : X.A.units + 64 < cLine) : OpR X (compareOp .Eq) (rNilE X.K) := by
  intro pins s σ H x y v u Q I rx ry h
  obtain ⟨a, b, xs, rfl, rfl, ha, hb, q⟩ := h
  obtain rfl : v = Value.ref a := rx
  obtain rfl : u = Value.ref b := ry
  obtain ⟨is, r1, ⟨o1, n1, g1, c1, _, d1⟩, _⟩ := I.list ha
  obtain ⟨js, r2, ⟨o2, n2, g2, c2, _, d2⟩, _⟩ := I.list hb
  cases r2
  cases r1 with
  | nil => exact SeqAt.eq_listAt (e := fun _ => true) ⟨o1, g1, c1, n1, d1⟩ ⟨o2, g2, c2, n2, d2⟩ rfl (by omega) (fun j h1 _ => absurd h1 (by simp)) ⟨.bl true, H, I, rfl, q⟩
  | cons r t => exact SeqAt.eq_list_lengthsAt ⟨o1, g1, c1, n1, d1⟩ ⟨o2, g2, c2, n2, d2⟩ (by simp) (by omega) ⟨.bl false, H, I, rfl, q⟩
theorem op_neNil (hu : X.A.units + 64 < cLine) : OpR X (compareOp .NotEq) (rNilN X.K) := by
  intro pins s σ H x y v u Q I rx ry h
  obtain ⟨a, b, xs, rfl, rfl, ha, hb, q⟩ := h
  obtain rfl : v = Value.ref a := rx
  obtain rfl : u = Value.ref b := ry
  obtain ⟨is, r1, ⟨o1, n1, g1, c1, _, d1⟩, _⟩ := I.list ha
  obtain ⟨js, r2, ⟨o2, n2, g2, c2, _, d2⟩, _⟩ := I.list hb
  cases r2
  cases r1 with
  | nil => exact SeqAt.RcNeAt.lists (e := fun _ => true) ⟨o1, g1, c1, n1, d1⟩ ⟨o2, g2, c2, n2, d2⟩ rfl (by omega) (fun j h1 _ => absurd h1 (by simp)) X.prog X.w _ _ ⟨.bl false, H, I, rfl, q⟩
  | cons r t => exact SeqAt.RcNeAt.lists_lengths ⟨o1, g1, c1, n1, d1⟩ ⟨o2, g2, c2, n2, d2⟩ (by simp) (by omega) X.prog X.w _ _ ⟨.bl true, H, I, rfl, q⟩
end
/-! ### defs that are called where nothing is being written -/
structure FnG (P : Program) (w : World) (K : PySem.W.Frag) (mg : Str → Option Value) (base : Heap) (CX : CXT) (k : Nat) (f : Addr) (fd : FuncData) (ps : List Str) (sp : Sp) : Prop where
  len : ∀ vs H Q E, sp vs H Q E → vs.length = ps.length
  run : ∀ (A : Around) (outer : List Env) (s : Shared) (H : Hp) (args : Args) (us : List Value) (vs : List V) (Q : VK) (E : XK), A.guards = some [] → Room k A → Env0 P w K mg base A outer s H → BindsTo s fd args (ps.zip us) → Vals vs us → sp vs H Q E →
    codeAny (model P w) A (.call (.ref f) args) (CR CX outer P w H s Q E) s
section
variable {P : Program} {w : World} {K : PySem.W.Frag} {mg : Str → Option Value} {base : Heap} {CX : CXT} {k : Nat} {f : Addr} {fd : FuncData} {ps : List Str} {sp : Sp}
theorem FnG.of (F : FnOk P w K mg base CX k f fd ps sp) : FnG P w K mg base CX k f fd ps sp := ⟨F.len, fun A outer s H args us vs Q E _ hr he hb hv hs => F.run A outer s H args us vs Q E hr he hb hv hs⟩
theorem FnG.mono {j : Nat} (F : FnG P w K mg base CX j f fd ps sp) (h : j ≤ k) : FnG P w K mg base CX k f fd ps sp := ⟨F.len, fun A outer s H args us vs Q E hg hr => F.run A outer s H args us vs Q E hg (hr.mono h)⟩
theorem deep_guards {A : Around} {env : Env} (h : A.guards = some []) : (A.deeper env).guards = some [] := h
/-- the rule of a def, by its body -/
theorem okG {x qual : Str} {params : Arguments} {body : List Stmt} {scope : Scope} {dvs : List V} {kws : List (Str × V)} {N : List Str} (F : FunD K x qual params body scope dvs kws f fd) (S : FnScope N ps scope) (len : ∀ vs H Q E, sp vs H Q E → vs.length = ps.length)
    (hbody : ∀ (cdv : Value) (A : Around) (outer : List Env) (s : Shared) (H : Hp) (vs : List V) (Q : VK) (E : XK), (A.deeper (envOfC qual scope s.heap.objs.size f cdv)).guards = some [] → Room k (A.deeper (envOfC qual scope s.heap.objs.size f cdv)) → sp vs H Q E →
      ∃ t, PSs (cxOf CX P w K mg base N qual scope f cdv A outer s H E) body t ∧ t { nx := fun _ H' => Q .non H', rt := Q } (start N vs) H) : FnG P w K mg base CX (k + 1) f fd ps sp := by
  obtain ⟨oc, od, dV, kV, doc, pm, an, cdv, ct, osl, rfl, lk, hcd, _, _⟩ := F.ex
  refine ⟨len, fun A outer s H args us vs Q E hg hr e0 hb rel hsp => ?_⟩
  have kx : K.In s.heap := e0.mod.kin.keeps fun b o e => (e0.bs b o e).1
  have nl : s.heap.NoLimit := e0.mod.nolimit.keeps fun b o e => (e0.bs b o e).1
  have kinds : ∀ y ∈ ps.zip us, scope.names.lookup y.1 = some .local ∨ (scope.names.lookup y.1 = some .cell ∧ ((cellsFrom (s.heap.objs.size + 1) scope.names []).lookup y.1).isSome = true) := fun y hy => by
    rcases S.par y.1 (List.of_mem_zip (a := y.1) (b := y.2) hy).1 with q | q
    · exact .inl q
    · exact .inr ⟨q, PySem.W.cellsFrom_some _ _ _ (.inl q)⟩
  refine codeAny_call_function hr.depth (kx _ _ lk) rfl S.co S.gen rfl (PySem.W.codeRec_of kx hcd) (hb _ _ _ _ ?_)
  refine wpAny_newFunctionEnv_cells S.kind kinds fun env he s1 inc => ?_
  subst he
  refine ⟨nl.keeps inc.toInCall.keep, codeAny_func ?_⟩
  obtain ⟨t, ht, hq⟩ := hbody cdv A outer s H vs Q E (deep_guards hg) (hr.deeper _) hsp
  have J : Inv (cxOf CX P w K mg base N qual scope f cdv A outer s H E) [] (start N vs) H s1 := inv_start S hr.hd e0 (len _ _ _ _ hsp) rel inc
  refine wpAny_mono (ht.run [] s1 (start N vs) H _ J hq) (fun fl s' hs => ?_) fun e s' hs => hs
  cases fl with
  | ret u =>
    obtain ⟨v, σ', H', J2, rv, q⟩ := hs
    exact ⟨v, H', J2.os, J2.bare, J2.base, J2.hok, rv, q⟩
  | next =>
    obtain ⟨σ', H', J2, q⟩ := hs
    exact ⟨V.non, H', J2.os, J2.bare, J2.base, J2.hok, rfl, q⟩
  | brk =>
    obtain ⟨_, _, _, q⟩ := hs
    exact False.elim q
  | cont =>
    obtain ⟨_, _, _, q⟩ := hs
    exact False.elim q
end
section
variable {X : Cx} {CX : CXT} {k : Nat} {f : Addr} {fd : FuncData} {ps : List Str} {sp : Sp} {dvs : List V} {ds : List Value} {E : XK} {x : Str} {p pos : Pos} {e : Expr} {es : List Expr} {t : TA}
end
/-! ### the end -/
section
variable {P : Program} {w : World} {K : PySem.W.Frag} {mg mb : Str → Option Value} {CX : CXT} {k : Nat} {fa a : Addr} {fd : FuncData} {x : Str} {sp : Sp} {s₁ : Shared} {vs : List Value} {ns : List Int}
end
/-! ### the head's facts -/
def smB (K : PySem.W.Frag) : Bool := match K.lookup sysModules with
  | some ⟨.type c, _, _, _⟩ => c == "dict"
  | _ => false
theorem smB_ok {K : PySem.W.Frag} (h : smB K = true) : Sm K := by
  unfold smB at h
  split at h
  · rename_i c d dt sl e
    exact ⟨_, e, by rw [eq_of_beq h]⟩
  · cases h
end WkG
namespace WkN
open PySem PySem.Spec PyProof.Rows L2 WkD
section
variable {K : PySem.W.Frag}
/-- a list (true) or a tuple -/
def SqX (b : Bool) (K : PySem.W.Frag) (H : Hp) (a : Addr) (xs : List V) : Prop := match b with
  | true => SqL K H a xs
  | false => SqT K H a xs
theorem SqX.same {b : Bool} {H H' : Hp} {a : Addr} {xs : List V} (h : SqX b K H a xs) (e : Same H H') : SqX b K H' a xs := by
  cases b with
  | true => exact e.seq h
  | false => exact WkG.seqT_same e h
theorem orSeq {b : Bool} {H : Hp} {σ : L2.St} {a : Addr} {i : Nat} {xs : List V} {R : It → Hp → Prop} (h : SqX b K H a xs) (hv : σ[i]? = some (some (.ref a))) (k : ∀ J, Walk J xs.length (fun H => SqX b K H a xs) (YAt xs) → R J H) :
    iList K (tVar i) σ H R ∨ iTup K (tVar i) σ H R := by
  cases b with
  | true => exact .inl ⟨_, hv, a, rfl, ⟨_, h⟩, k _ walk_list⟩
  | false => exact .inr ⟨_, hv, a, rfl, ⟨_, h⟩, k _ walk_tup⟩
theorem tyT {H : Hp} {a : Addr} {xs : List V} (h : SqT K H a xs) : TyX K H (.ref a) (.type "tuple") := by
  rcases h with (h | ⟨o, h⟩) | ⟨o, its, n, hk, hc, _⟩
  · exact .base (.tup h)
  · exact .fTuple h
  · exact .kTuple hk hc
theorem take_nin {α : Type} {l : List α} (nd : l.Nodup) {i : Nat} (hi : i < l.length) : l[i] ∉ l.take i := fun z => by
  obtain ⟨j, hj, e⟩ := List.mem_iff_getElem.mp z
  rw [List.length_take] at hj
  rw [List.getElem_take] at e
  have := (List.getElem_inj nd).mp e
  omega
theorem decI {u v : Int} : decide (V.int u = V.int v) = decide (u = v) := by
  by_cases h : u = v
  · rw [decide_eq_true h, decide_eq_true (by rw [h])]
  · rw [decide_eq_false h, decide_eq_false (fun z => h (V.int.inj z))]
theorem np_of {H H' : Hp} {p : Addr} (e : Same H H') (h : H' p = none) : H p = none := by
  cases z : H p with
  | none => rfl
  | some o =>
    rw [e _ _ z] at h
    cases h
/-- what is no sequence may be written -/
def NoSq : HO → Prop
  | .lst _ => False
  | .tup _ => False
  | .frz _ _ => False
  | _ => True
theorem tup_upd {H : Hp} {a r : Addr} {xs : List V} {o o' : HO} (h : SqT K H r xs) (ha : H a = some o) (no : NoSq o) : SqT K (upd H a o') r xs := by
  rcases h with (h | ⟨u, h⟩) | h
  · refine .inl (.inl ?_)
    rw [upd_ne (ne_of h ha (by intro z; rw [← z] at no; exact no))]
    exact h
  · refine .inl (.inr ⟨u, ?_⟩)
    rw [upd_ne (ne_of h ha (by intro z; rw [← z] at no; exact no))]
    exact h
  · exact .inr h
/-- no table, no code object -/
def NoTab : HO → Prop
  | .tbl _ => False
  | .ext _ => False
  | _ => True
theorem tabs_but {T : List (Addr × Str)} {H H' : Hp} {x : Addr} {o : HO} (t : LamX.Tabs T H) (hx : H x = some o) (no : NoTab o) (e : ∀ b o, H b = some o → b ≠ x → H' b = some o) : LamX.Tabs T H' := fun p hp => by
  obtain ⟨ps, h1, h2, h3⟩ := t p hp
  refine ⟨ps, e _ _ h1 (ne_of h1 hx (by intro z; rw [← z] at no; exact no)), h2, fun pos cv hc => ?_⟩
  obtain ⟨c, e1, e2⟩ := h3 pos cv hc
  exact ⟨c, e1, e _ _ e2 (ne_of e2 hx (by intro z; rw [← z] at no; exact no))⟩
theorem tabs_upd {T : List (Addr × Str)} {H : Hp} {x : Addr} {o o' : HO} (t : LamX.Tabs T H) (hx : H x = some o) (no : NoTab o) : LamX.Tabs T (upd H x o') := tabs_but t hx no fun b o hb hne => by
  rw [upd_ne hne]
  exact hb
end
end WkN
namespace WkD
open PySem PySem.Spec PyProof.Rows L2 PySem.W
/-! ### tuple(d) -/
section
variable {X : Cx}
end
/-! ### sorted, by what is read -/
theorem each_vals {β : Type} {R : V → β → Prop} : ∀ {us : List Value} {bs : List β}, EachIs (fun v b => ∃ x, RelV x v ∧ R x b) us bs → ∃ ys, Vals ys us ∧ EachIs R ys bs
  | _, _, .nil => ⟨[], .nil, .nil⟩
  | _, _, .cons ⟨x, h1, h2⟩ t => by
    obtain ⟨ys, r1, r2⟩ := each_vals t
    exact ⟨x :: ys, .cons h1 r1, .cons h2 r2⟩
section
variable {X : Cx}
end
/-! ### pairs of texts -/
abbrev Pr := Str × Str
def encP (e : Pr) : PyData := .tuple [.str e.1, .str e.2]
def ltP (a b : Pr) : Prop := ltS a.1 b.1 ∨ (a.1 = b.1 ∧ ltS a.2 b.2)
instance (a b : Pr) : Decidable (ltP a b) := inferInstanceAs (Decidable (_ ∨ _))
theorem ltP_irrefl (a : Pr) : ¬ ltP a a := fun h => h.elim (ltS_irrefl _) fun h => ltS_irrefl _ h.2
theorem ltP_trans {a b c : Pr} (h : ltP a b) (k : ltP b c) : ltP a c := by
  rcases h with h | ⟨h, h'⟩
  · rcases k with k | ⟨k, k'⟩
    · exact .inl (ltS_trans h k)
    · exact .inl (k ▸ h)
  · rcases k with k | ⟨k, k'⟩
    · exact .inl (h ▸ k)
    · exact .inr ⟨h.trans k, ltS_trans h' k'⟩
theorem ltP_tri (a b : Pr) : ltP a b ∨ a = b ∨ ltP b a := by
  rcases ltS_tri a.1 b.1 with h | h | h
  · exact .inl (.inl h)
  · rcases ltS_tri a.2 b.2 with k | k | k
    · exact .inl (.inr ⟨h, k⟩)
    · exact .inr (.inl (Prod.ext h k))
    · exact .inr (.inr (.inr ⟨h.symm, k⟩))
  · exact .inr (.inr (.inl h))
theorem dataLt_str (x y : Str) : dataLt (.str x) (.str y) = decide (ltS x y) := by
  have e := congrFun (congrFun (dataLe_str (fun b : Str => b)) y) x
  rw [dataLe_eq] at e
  have e : (!dataLt (.str x) (.str y)) = decide (y.cps.toList ≤ x.cps.toList) := e
  by_cases h : ltS x y
  · rw [decide_eq_true h]
    have n : ¬ y.cps.toList ≤ x.cps.toList := fun z => z h
    rw [decide_eq_false n] at e
    simpa using e
  · rw [decide_eq_false h]
    have n : y.cps.toList ≤ x.cps.toList := h
    rw [decide_eq_true n] at e
    simpa using e
theorem eqv_str (x y : Str) : PyData.eqv (.str x) (.str y) = decide (x = y) := by
  by_cases h : x = y
  · subst h
    rw [decide_eq_true rfl]
    show (x == x) = true
    exact beq_self_eq_true x
  · rw [decide_eq_false h]
    show (x == y) = false
    exact beq_eq_false_iff_ne.mpr h
theorem dataLe_ss : dataLe false encP = fun p q => !decide (ltP q p) := by
  funext p q
  rw [dataLe_eq]
  show (!dataLt (encP q) (encP p)) = _
  unfold encP
  rw [dataLt_pair (by rfl) (by rfl), dataLt_str, dataLt_str, eqv_str, eqv_str]
  congr 1
  by_cases h : q.1 = p.1
  · by_cases k : q.2 = p.2
    · have n : ¬ ltP q p := by
        rw [show q = p from Prod.ext h k]
        exact ltP_irrefl p
      simp [h, k, n]
    · have e : ltP q p ↔ ltS q.2 p.2 := ⟨fun z => z.elim (fun z => absurd (h ▸ z) (ltS_irrefl _)) (·.2), fun z => .inr ⟨h, z⟩⟩
      simp [h, k, e]
  · have e : ltP q p ↔ ltS q.1 p.1 := ⟨fun z => z.elim id (fun z => absurd z.1 h), .inl⟩
    simp [h, e]
def AscP (l : List Pr) : Prop := l.Pairwise ltP
theorem sort_asc {l : List Pr} (nd : l.Nodup) : AscP (l.mergeSort (dataLe false encP)) ∧ (l.mergeSort (dataLe false encP)).Perm l := by
  have pm := List.mergeSort_perm l (dataLe false encP)
  refine ⟨?_, pm⟩
  have so := List.pairwise_mergeSort (le := dataLe false encP) (fun a b c h k => by
    rw [dataLe_ss] at h k ⊢
    have h := of_decide_eq_false (by simpa using h)
    have k := of_decide_eq_false (by simpa using k)
    have n : ¬ ltP c a := fun z => by
      rcases ltP_tri b a with y | y | y
      · exact h y
      · exact k (y ▸ z)
      · exact k (ltP_trans z y)
    simpa using n) (fun a b => by
    rw [dataLe_ss]
    by_cases h : ltP b a
    · have n : ¬ ltP a b := fun z => ltP_irrefl _ (ltP_trans z h)
      simp [n]
    · simp [h]) l
  have nd' : (l.mergeSort (dataLe false encP)).Nodup := pm.nodup_iff.mpr nd
  refine List.Pairwise.imp₂ (R := fun a b => dataLe false encP a b = true) (S := (· ≠ ·)) (fun a b h k => ?_) so nd'
  rw [dataLe_ss] at h
  have h : ¬ ltP b a := of_decide_eq_false (by simpa using h)
  rcases ltP_tri a b with y | y | y
  · exact y
  · exact absurd y k
  · exact absurd y h
/-- two ascending lists with the same members -/
theorem asc_uniq {α : Type} {R : α → α → Prop} (irr : ∀ a, ¬ R a a) (tr : ∀ a b c, R a b → R b c → R a c) : ∀ {l m : List α}, l.Pairwise R → m.Pairwise R → (∀ x, x ∈ l ↔ x ∈ m) → l = m
  | [], [], _, _, _ => rfl
  | [], b :: m, _, _, h => absurd ((h b).mpr List.mem_cons_self) (by simp)
  | a :: l, [], _, _, h => absurd ((h a).mp List.mem_cons_self) (by simp)
  | a :: l, b :: m, h1, h2, h => by
    rw [List.pairwise_cons] at h1 h2
    have e : a = b := by
      rcases List.mem_cons.mp ((h a).mp List.mem_cons_self) with e | e
      · exact e
      · rcases List.mem_cons.mp ((h b).mpr List.mem_cons_self) with e' | e'
        · exact e'.symm
        · exact absurd (tr _ _ _ (h1.1 b e') (h2.1 a e)) (irr a)
    subst e
    congr 1
    refine asc_uniq irr tr h1.2 h2.2 fun x => ⟨fun hx => ?_, fun hx => ?_⟩
    · rcases List.mem_cons.mp ((h x).mp (List.mem_cons_of_mem _ hx)) with e | e
      · subst e
        exact absurd (h1.1 x hx) (irr x)
      · exact e
    · rcases List.mem_cons.mp ((h x).mpr (List.mem_cons_of_mem _ hx)) with e | e
      · subst e
        exact absurd (h2.1 x hx) (irr x)
      · exact e
/-! ### sorted(d), the keys pairs of texts -/
def rSortT : List V → Hp → VK → Prop := fun vs H Q => ∃ (d : Addr) (kvs : List (List Key × V)) (ks : List Pr), vs = [.ref d] ∧ Rd H d (.dT kvs) ∧ kvs.map (·.1) = ks.map (fun e => [Sum.inr e.1, Sum.inr e.2]) ∧
  ∀ bs p, EachIs (fun a e => H a = some (.tup [.str e.1, .str e.2])) bs (ks.mergeSort (dataLe false encP)) → H p = none → Q (.ref p) (upd H p (.lst (bs.map V.ref)))
section
variable {X : Cx}
theorem keys_each {H : Hp} : ∀ {kvs : List (List Key × V)} {bs : List Addr} {ks : List Pr}, IsKeys H kvs bs → kvs.map (·.1) = ks.map (fun e => [Sum.inr e.1, Sum.inr e.2]) → EachIs (fun a e => H a = some (.tup [.str e.1, .str e.2])) bs ks
  | [], [], [], _, _ => .nil
  | kv :: kvs, b :: bs, k :: ks, h, e => by
    cases h with
    | cons h1 h2 =>
      rw [List.map_cons, List.map_cons, List.cons.injEq] at e
      refine .cons ?_ (keys_each h2 e.2)
      rw [e.1] at h1
      exact h1
  | kv :: kvs, b :: bs, [], _, e => by simp at e
  | [], _ :: _, _, h, _ => by cases h
  | _ :: _, [], _, h, _ => by cases h
  | [], [], _ :: _, _, e => by simp at e
theorem cr_sortedTT (hc : X.calm = true) (hu : X.A.units + 64 < cLine) : CallR X (.builtin "sorted") rSortT := by
  intro pins s σ H vs us Q I r h
  obtain ⟨d, kvs, ks, rfl, hd, hks, q⟩ := h
  obtain rfl := Vals.ref1 r
  obtain ⟨z, hs, ks', pr, o, es, ep, ho, hx, hdt, he, hn⟩ := (show ObjOk X.prog X.w H s.heap d (.dT kvs) from hd.ok I.hok)
  have l1 : es.size = ks'.length := size_of_entries he
  have l2 : kvs.length = ks'.length := Paired.length pr
  have l3 : kvs.length = ks.length := by
    have e := congrArg List.length hks
    simpa using e
  refine Calls.call_function_entry PyProof.Rows.kind_sorted PyProof.Rows.plain_sorted PyProof.Rows.entry_sorted (PyProof.Rows.args_sorted1 _) ?_
  unfold Builtin.«sorted»
  refine wpAny_bind (m := checkCount "sorted" 1 1 _) (wpAny_pure ?_)
  refine wpAny_bind (PySem.W.kdu_collect (A := X.A.in1) (kdl_raw hs hx hdt) (I.ok.hd hc) ho (by omega) fun h' tk acc hk it => ?_)
  have ea : acc.toList = (ks'.map fun x => x.2.1).map Value.ref := by
    have hl : acc.toList.length = ks'.length := by rw [Array.length_toList, it.1]; exact l1
    apply List.ext_getElem?
    intro j
    rw [List.map_map, List.getElem?_map]
    cases hj : acc.toList[j]? with
    | none =>
      have h1 := List.getElem?_eq_none_iff.mp hj
      rw [List.getElem?_eq_none (by omega)]
      all_goals rfl
    | some v =>
      obtain ⟨en, hen, hv⟩ := it.2 j v (by rw [← Array.getElem?_toList]; exact hj)
      have qe := entry_at he j
      rw [hen] at qe
      cases hb : ks'[j]? with
      | none =>
        rw [hb] at qe
        exact nomatch (show some en = none from qe)
      | some b =>
        rw [hb] at qe
        have e2 : en = entryOfKey (tupleKind (mixKind X.prog X.w)) b := Option.some.inj qe
        rw [hv, e2]
        all_goals rfl
  obtain ⟨bs, ebs⟩ : ∃ bs, bs = ks'.map fun x => x.2.1 := ⟨_, rfl⟩
  rw [← ebs] at ea
  have ek : EachIs (fun a e => H a = some (.tup [.str e.1, .str e.2])) bs ks := by
    rw [ebs]
    exact keys_each (isKeys_of pr) hks
  have lb : bs.length = ks.length := ek.length
  have I1 : Inv X pins σ H { s with heap := h', toks := tk } := I.kept hk
  have e1 : EachIs (fun (v : Value) (e : Pr) => ∃ x, RelV x v ∧ ∃ a, x = V.ref a ∧ H a = some (.tup [.str e.1, .str e.2])) acc.toList ks := by
    rw [ea]
    clear ea ebs lb hks q l3
    induction ek with
    | nil => exact .nil
    | cons h t ih => exact .cons ⟨.ref _, rfl, _, rfl, h⟩ ih
  have hoL : (h'.push (seqObj "list" acc.toList.toArray 0)).get? h'.objs.size = some (seqObj "list" acc.toList.toArray 0) := Heap.get?_push_size _ rfl
  have lacc : acc.toList.length ≤ sizeLine := by rw [ea, List.length_map]; omega
  have e2 : EachIs (fun v b => ∃ as, Reads (h'.push (seqObj "list" acc.toList.toArray 0)) v (encP b) as ∧ h'.objs.size ∉ as) acc.toList ks := e1.mono fun v b ⟨x, h1, a, h2, h3⟩ => by
    subst h2
    cases h1
    obtain ⟨its, rv, ⟨o2, g2, c2, n2, d2⟩, _⟩ := I1.tuple (a := a) (xs := [.str b.1, .str b.2]) (.inl (.inl h3))
    obtain ⟨u1, u2, rfl, r1, r2⟩ := rv.two
    obtain ⟨t1, rfl⟩ := r1
    obtain ⟨t2, rfl⟩ := r2
    exact ⟨_, Reads.tuple (Heap.get?_push_of_some _ g2) c2 d2 (.cons (.str _ _) (.cons (.str _ _) .nil)), by simp⟩
  refine wpAny_bind (wpAny_newList ?_ lacc)
  show wpAny _ _ _ _ _ { s with heap := h'.push (seqObj "list" acc.toList.toArray 0), toks := tk }
  refine wpAny_bind (wpAny_holding (list_sort_data (s := { s with heap := h'.push (seqObj "list" acc.toList.toArray 0), toks := tk }) (enc := encP) (R := fun (v : Value) (e : Pr) => ∃ x, RelV x v ∧ ∃ a, x = V.ref a ∧ H a = some (.tup [.str e.1, .str e.2])) hoL e1 e2 (AllAlike.of fun b b' => rfl) (Sortable.tuples fun b => ⟨_, _, rfl⟩) (by omega) (fun b hb => ?_) fun out hl eo => ?_))
  · show X.A.in1.units + 1 + 1 < cLine
    have : X.A.in1.units ≤ X.A.units + 1 := by
      first | exact Nat.le_refl _ | exact Nat.le_succ _
    omega
  obtain ⟨ys, g1, g2⟩ := each_vals eo
  obtain ⟨e', he'⟩ := PyProof.Rows.sortedHeap_at (vs := acc.toList) (out := out.toArray) hoL
  obtain ⟨cs, rfl, g3⟩ : ∃ cs : List Addr, ys = cs.map V.ref ∧ EachIs (fun a e => H a = some (.tup [.str e.1, .str e.2])) cs (ks.mergeSort (dataLe false encP)) := by
    clear g1 eo
    generalize ks.mergeSort (dataLe false encP) = ms at g2 ⊢
    induction g2 with
    | nil => exact ⟨[], rfl, .nil⟩
    | cons h t ih =>
      obtain ⟨a, rfl, h⟩ := h
      obtain ⟨cs, rfl, g⟩ := ih
      exact ⟨a :: cs, rfl, .cons h g⟩
  have hlen : (cs.map V.ref).length ≤ sizeLine := by
    rw [g1.length]
    omega
  refine wpAny_pure ⟨_, rfl, .ref h'.objs.size, upd H h'.objs.size (.lst (cs.map V.ref)), I1.laid (t' := tk) (fun b u e => ?_) (Nat.le_refl _)
    (show ObjOk X.prog X.w _ _ _ (.lst (cs.map V.ref)) from ⟨hlen, out, e', g1, he'⟩), rfl, q cs _ g3 (I1.hok.fresh (Nat.le_refl _))⟩
  have hb : b < h'.objs.size := Heap.lt_size e
  rw [PyProof.Rows.sortedHeap_old (Nat.ne_of_lt hb) (by rw [size_push']; exact Nat.lt_succ_of_lt hb)]
  exact Heap.get?_push_of_some _ e
end
end WkD
namespace WkN
open PySem PySem.Spec PyProof.Rows L2 WkD
/-! ### cuts of lists and texts -/
def cutL {α : Type} (xs : List α) (lo hi : Option Int) : List α := (xs.drop (HT.sIx xs.length 0 lo)).take (HT.sIx xs.length xs.length hi - HT.sIx xs.length 0 lo)
theorem cutV_map {α : Type} (f : α → V) (xs : List α) (lo hi : Option Int) : cutV (xs.map f) lo hi = (cutL xs lo hi).map f := by
  unfold cutV cutL
  rw [List.length_map, ← List.map_drop, ← List.map_take]
theorem cutL_lo {α : Type} (xs : List α) {a : Int} (h : 0 ≤ a) : cutL xs (some a) none = xs.drop a.toNat := by
  unfold cutL
  have e : HT.sIx xs.length 0 (some a) = min a.toNat xs.length := by
    show (if a < 0 then _ else min a.toNat xs.length) = _
    rw [if_neg (by omega)]
  rw [e, HT.sIx_none, List.take_of_length_le (by rw [List.length_drop]; omega)]
  by_cases g : a.toNat ≤ xs.length
  · rw [Nat.min_eq_left g]
  · rw [Nat.min_eq_right (by omega), List.drop_of_length_le (Nat.le_refl _), List.drop_of_length_le (by omega)]
theorem cutL_hi {α : Type} (xs : List α) {a : Int} (h : 0 ≤ a) : cutL xs none (some a) = xs.take a.toNat := by
  unfold cutL
  have e : HT.sIx xs.length xs.length (some a) = min a.toNat xs.length := by
    show (if a < 0 then _ else min a.toNat xs.length) = _
    rw [if_neg (by omega)]
  rw [e, HT.sIx_none, List.drop_zero, Nat.sub_zero]
  by_cases g : a.toNat ≤ xs.length
  · rw [Nat.min_eq_left g]
  · rw [Nat.min_eq_right (by omega), List.take_of_length_le (Nat.le_refl _), List.take_of_length_le (by omega)]
theorem len_cps (z : Str) : z.cps.toList.length = z.length := by
  show z.cps.toList.length = z.cps.size
  simp
theorem cutS_cps (z : Str) (lo hi : Option Int) : (cutS z lo hi).cps.toList = cutL z.cps.toList lo hi := by
  unfold cutS cutL
  rw [len_cps]
theorem cutS_lo (z : Str) {a : Int} (h : 0 ≤ a) : (cutS z (some a) none).cps.toList = z.cps.toList.drop a.toNat := by rw [cutS_cps, cutL_lo _ h]
theorem cutS_hi (z : Str) {a : Int} (h : 0 ≤ a) : (cutS z none (some a)).cps.toList = z.cps.toList.take a.toNat := by rw [cutS_cps, cutL_hi _ h]
theorem str_ext {x y : Str} (h : x.cps.toList = y.cps.toList) : x = y := by
  obtain ⟨⟨a⟩⟩ := x
  obtain ⟨⟨b⟩⟩ := y
  congr 2
theorem app_cps (x y : Str) : (x ++ y).cps.toList = x.cps.toList ++ y.cps.toList := by
  show (x.cps ++ y.cps).toList = _
  simp
theorem joinL_nil : ∀ cs : List Nat, TL.joinL [] (cs.map fun c => [c]) = cs
  | [] => rfl
  | [c] => rfl
  | c :: d :: r => by
    show [c] ++ ([] ++ TL.joinL [] ((d :: r).map fun c => [c])) = c :: d :: r
    rw [joinL_nil (d :: r)]
    rfl
theorem join_signs (cs : List Nat) : (Txt.join ("" : Str) (cs.map fun c => (⟨#[c]⟩ : Str))).cps.toList = cs := by
  have e := SX.join_S [] (cs.map fun c => [c])
  rw [joinL_nil, List.map_map] at e
  have e2 : (cs.map fun c => (⟨#[c]⟩ : Str)) = cs.map (SX.S ∘ fun c => [c]) := rfl
  rw [e2]
  have e3 : Txt.join ("" : Str) (cs.map (SX.S ∘ fun c => [c])) = SX.S cs := e
  rw [e3]
end WkN
namespace WkN
open PySem
def letS : Str := "abcdefghijklmnopqrstuvwxyz"
def nameB (z : Str) : Bool := decide ((0 : Int) < z.length) && (decide ((z.length : Int) < 9) && (z.cps.toList.map fun c => decide (c ∈ letS.cps.toList)).all id)
end WkN
namespace WkE
open PySem PySem.Spec PyProof.Rows L2 WkD WkN
/-! ### edges by pairs -/
abbrev EdD := List (Pr × Int)
def kP (e : Pr) : List Key := [.inr e.1, .inr e.2]
theorem kP_inj {a b : Pr} (h : kP a = kP b) : a = b := by
  unfold kP at h
  simp only [List.cons.injEq, Sum.inr.injEq, and_true] at h
  exact Prod.ext h.1 h.2
def dtE (es : EdD) : List (List Key × V) := es.map fun e => (kP e.1, .int e.2)
def putE (es : EdD) (p : Pr) (n : Int) : EdD := if es.any (fun e => decide (e.1 = p)) then es.map (fun e => if e.1 = p then (e.1, n) else e) else es ++ [(p, n)]
theorem dtE_len {es : EdD} : (dtE es).length = es.length := List.length_map ..
theorem dtE_keys {es : EdD} : (dtE es).map (·.1) = (es.map (·.1)).map fun e => [Sum.inr e.1, Sum.inr e.2] := by
  unfold dtE kP
  rw [List.map_map, List.map_map]
  rfl
theorem dtE_any {es : EdD} {p : Pr} : ((dtE es).any fun kv => decide (kv.1 = kP p)) = es.any fun e => decide (e.1 = p) := by
  unfold dtE
  rw [List.any_map]
  congr 1
  funext e
  show decide (kP e.1 = kP p) = decide (e.1 = p)
  by_cases h : e.1 = p
  · rw [decide_eq_true h, decide_eq_true (by rw [h])]
  · rw [decide_eq_false h, decide_eq_false fun z => h (kP_inj z)]
theorem dtE_put {es : EdD} {p : Pr} {n : Int} : putK (dtE es) (kP p) (.int n) = dtE (putE es p n) := by
  unfold putK putE
  rw [dtE_any]
  split
  · unfold dtE
    rw [List.map_map, List.map_map]
    refine List.map_congr_left fun e _ => ?_
    show (if kP e.1 = kP p then (kP e.1, V.int n) else (kP e.1, .int e.2)) = (kP (if e.1 = p then (e.1, n) else e).1, .int (if e.1 = p then (e.1, n) else e).2)
    by_cases h : e.1 = p
    · rw [if_pos (by rw [h]), if_pos h]
    · rw [if_neg fun z => h (kP_inj z), if_neg h]
  · unfold dtE
    rw [List.map_append]
    rfl
theorem dtE_val {es : EdD} {p : Pr} {n : Int} (nd : (es.map (·.1)).Nodup) (h : (p, n) ∈ es) : valV (dtE es) (kP p) = some (.int n) := by
  induction es with
  | nil => exact absurd h (by simp)
  | cons e r ih =>
    rw [List.map_cons, List.nodup_cons] at nd
    show valV ((kP e.1, V.int e.2) :: dtE r) (kP p) = _
    rcases List.mem_cons.mp h with rfl | h
    · rw [valV_pos rfl]
    · have ne : e.1 ≠ p := fun z => nd.1 (List.mem_map.mpr ⟨_, h, z.symm⟩)
      rw [valV_neg fun z => ne (kP_inj z)]
      exact ih nd.2 h
theorem dtE_none {es : EdD} {p : Pr} (h : p ∉ es.map (·.1)) : valV (dtE es) (kP p) = none := by
  induction es with
  | nil => rfl
  | cons e r ih =>
    rw [List.map_cons, List.mem_cons, not_or] at h
    show valV ((kP e.1, V.int e.2) :: dtE r) (kP p) = _
    rw [valV_neg fun z => h.1 (kP_inj z).symm]
    exact ih h.2
theorem putE_keys {es : EdD} {p : Pr} {n : Int} : (putE es p n).map (·.1) = if p ∈ es.map (·.1) then es.map (·.1) else es.map (·.1) ++ [p] := by
  unfold putE
  by_cases h : p ∈ es.map (·.1)
  · obtain ⟨e, he, hp⟩ := List.mem_map.mp h
    rw [if_pos (List.any_eq_true.mpr ⟨e, he, decide_eq_true hp⟩), if_pos h, List.map_map]
    refine List.map_congr_left fun e _ => ?_
    show (if e.1 = p then (e.1, n) else e).1 = e.1
    split <;> rfl
  · have q : ¬ (es.any fun e => decide (e.1 = p)) = true := fun z => by
      obtain ⟨e, he, hp⟩ := List.any_eq_true.mp z
      exact h (List.mem_map.mpr ⟨e, he, of_decide_eq_true hp⟩)
    rw [if_neg q, if_neg h, List.map_append]
    rfl
theorem putE_len {es : EdD} {p : Pr} {n : Int} : (putE es p n).length ≤ es.length + 1 := by
  unfold putE
  split
  · rw [List.length_map]
    omega
  · rw [List.length_append]
    exact Nat.le_refl _
theorem putE_mem {es : EdD} {p : Pr} {n : Int} {e : Pr × Int} (h : e ∈ putE es p n) : e ∈ es ∨ e = (p, n) := by
  unfold putE at h
  split at h
  · obtain ⟨d, hd, rfl⟩ := List.mem_map.mp h
    split
    · rename_i q
      exact .inr (by rw [q])
    · exact .inl hd
  · rcases List.mem_append.mp h with h | h
    · exact .inl h
    · exact .inr (List.mem_singleton.mp h)
/-- edges between some vertices -/
structure EdOk (ns : List Str) (es : EdD) : Prop where
  nd : (es.map (·.1)).Nodup
  mem : ∀ e ∈ es, e.1.1 ∈ ns ∧ e.1.2 ∈ ns ∧ ltS e.1.1 e.1.2 ∧ 1 ≤ e.2 ∧ e.2 ≤ 1000000000
theorem EdOk.nil (ns : List Str) : EdOk ns [] := ⟨by simp, fun e h => absurd h (by simp)⟩
theorem EdOk.put {ns : List Str} {es : EdD} {p : Pr} {n : Int} (h : EdOk ns es) (h1 : p.1 ∈ ns) (h2 : p.2 ∈ ns) (h3 : ltS p.1 p.2) (n1 : 1 ≤ n) (n2 : n ≤ 1000000000) : EdOk ns (putE es p n) := by
  refine ⟨?_, fun e he => ?_⟩
  · rw [putE_keys]
    split
    · exact h.nd
    · rename_i q
      rw [List.nodup_append]
      exact ⟨h.nd, by simp, fun a ha b hb e => by
        have hb : b = p := by simpa using hb
        rw [e, hb] at ha
        exact q ha⟩
  · rcases putE_mem he with h' | rfl
    · exact h.mem e h'
    · exact ⟨h1, h2, h3, n1, n2⟩
def mp (a b : Str) : Pr := (if ltS b a then b else a, if ltS a b then b else a)
theorem mp_cases {a b : Str} (h : a ≠ b) : (ltS a b ∧ mp a b = (a, b)) ∨ (ltS b a ∧ mp a b = (b, a)) := by
  unfold mp
  rcases ltS_tri a b with k | k | k
  · exact .inl ⟨k, by rw [if_neg (ltS_asymm k), if_pos k]⟩
  · exact absurd k h
  · exact .inr ⟨k, by rw [if_pos k, if_neg (ltS_asymm k)]⟩
theorem mp_lt {a b : Str} (h : a ≠ b) : ltS (mp a b).1 (mp a b).2 := by
  rcases mp_cases h with ⟨k, e⟩ | ⟨k, e⟩ <;> rw [e] <;> exact k
theorem mp_mem {ns : List Str} {a b : Str} (h : a ≠ b) (ha : a ∈ ns) (hb : b ∈ ns) : (mp a b).1 ∈ ns ∧ (mp a b).2 ∈ ns := by
  rcases mp_cases h with ⟨k, e⟩ | ⟨k, e⟩ <;> rw [e]
  · exact ⟨ha, hb⟩
  · exact ⟨hb, ha⟩
/-- reached by edges -/
inductive ERch (es : EdD) (s : Str) : Str → Prop
  | here : ERch es s s
  | go {u v : Str} : ERch es s u → ((u, v) ∈ es.map (·.1) ∨ (v, u) ∈ es.map (·.1)) → ERch es s v
theorem ERch.mono {es es' : EdD} {s u : Str} (h : ERch es s u) (k : ∀ p ∈ es.map (·.1), p ∈ es'.map (·.1)) : ERch es' s u := by
  induction h with
  | here => exact .here
  | go _ e ih => exact .go ih (e.imp (k _) (k _))
theorem ERch.trans {es : EdD} {s u v : Str} (h : ERch es s u) (k : ERch es u v) : ERch es s v := by
  induction k with
  | here => exact h
  | go _ e ih => exact .go ih e
theorem ERch.symm {es : EdD} {s u : Str} (h : ERch es s u) : ERch es u s := by
  induction h with
  | here => exact .here
  | go _ e ih => exact (ERch.go .here e.symm).trans ih
theorem putE_sub {es : EdD} {p : Pr} {n : Int} : ∀ q ∈ es.map (·.1), q ∈ (putE es p n).map (·.1) := fun q hq => by
  rw [putE_keys]
  split
  · exact hq
  · exact List.mem_append_left _ hq
theorem putE_has {es : EdD} {p : Pr} {n : Int} : p ∈ (putE es p n).map (·.1) := by
  rw [putE_keys]
  split
  · assumption
  · simp
theorem ERch.mp {es : EdD} {a b : Str} {n : Int} (h : a ≠ b) : ERch (putE es (mp a b) n) b a := by
  have z := putE_has (es := es) (p := WkE.mp a b) (n := n)
  refine .go .here ?_
  rcases mp_cases h with ⟨k, e⟩ | ⟨k, e⟩
  · rw [e] at z ⊢
    exact .inr z
  · rw [e] at z ⊢
    exact .inl z
theorem each_get {α β : Type} {R : α → β → Prop} : ∀ {as : List α} {bs : List β}, PySem.W.EachIs R as bs → ∀ (i : Nat) (h1 : i < as.length) (h2 : i < bs.length), R as[i] bs[i]
  | _, _, .nil, i, h1, _ => absurd h1 (by simp)
  | _, _, .cons h t, 0, _, _ => h
  | _, _, .cons h t, i + 1, h1, h2 => each_get t i (by simpa using h1) (by simpa using h2)
/-- the weight of a pair -/
def wOf (es : EdD) (p : Pr) : Int := ((es.find? fun e => decide (e.1 = p)).map (·.2)).getD 0
theorem wOf_eq {es : EdD} {p : Pr} {n : Int} (nd : (es.map (·.1)).Nodup) (h : (p, n) ∈ es) : wOf es p = n := by
  induction es with
  | nil => exact absurd h (by simp)
  | cons e r ih =>
    rw [List.map_cons, List.nodup_cons] at nd
    unfold wOf
    rcases List.mem_cons.mp h with rfl | h
    · simp
    · have ne : e.1 ≠ p := fun z => nd.1 (List.mem_map.mpr ⟨_, h, z.symm⟩)
      rw [List.find?_cons_of_neg (by simpa using ne)]
      exact ih nd.2 h
theorem wOf_mem {es : EdD} {p : Pr} (nd : (es.map (·.1)).Nodup) (h : p ∈ es.map (·.1)) : (p, wOf es p) ∈ es := by
  obtain ⟨⟨q, n⟩, he, rfl⟩ := List.mem_map.mp h
  have e := wOf_eq nd he
  show (q, wOf es q) ∈ es
  rw [e]
  exact he
/-- the edges in ascending order -/
def edS (es : EdD) : List (Str × Str × Int) := ((es.map (·.1)).mergeSort (PySem.W.dataLe false encP)).map fun p => (p.1, p.2, wOf es p)
theorem edS_mem {es : EdD} (nd : (es.map (·.1)).Nodup) {u v : Str} {n : Int} : (u, v, n) ∈ edS es ↔ ((u, v), n) ∈ es := by
  unfold edS
  have pm := List.mergeSort_perm (es.map (·.1)) (PySem.W.dataLe false encP)
  constructor
  · intro h
    obtain ⟨p, hp, e⟩ := List.mem_map.mp h
    have hp := pm.mem_iff.mp hp
    have z := wOf_mem nd hp
    simp only [Prod.mk.injEq] at e
    obtain ⟨e1, e2, e3⟩ := e
    have ep : p = (u, v) := Prod.ext e1 e2
    rw [← ep, ← e3]
    exact z
  · intro h
    refine List.mem_map.mpr ⟨(u, v), pm.mem_iff.mpr (List.mem_map.mpr ⟨_, h, rfl⟩), ?_⟩
    rw [wOf_eq nd h]
theorem edS_asc {es : EdD} (nd : (es.map (·.1)).Nodup) : (edS es).Pairwise fun a b => ltP (a.1, a.2.1) (b.1, b.2.1) := by
  unfold edS
  rw [List.pairwise_map]
  exact (sort_asc nd).1
/-- a drawn network -/
structure NetOk (vs : List Str) (es : EdD) (rt : Str) : Prop where
  asc : Asc vs
  nm : ∀ z ∈ vs, nameB z = true
  ed : EdOk vs es
  rt : rt ∈ vs
  con : ∀ s ∈ vs, ∀ u ∈ vs, ERch es s u
open WkP
section
variable {K : PySem.W.Frag}
/-- the edges, tuple by tuple -/
def EdsAt (K : PySem.W.Frag) (H : Hp) (rs : List Addr) (es : List Ed) : Prop := rs.length = es.length ∧ ∀ (i : Nat) (r : Addr) (e : Ed), rs[i]? = some r → es[i]? = some e → SqT K H r [.str e.1, .str e.2.1, .int e.2.2]
theorem EdsAt.same {H H' : Hp} {rs : List Addr} {es : List Ed} (h : EdsAt K H rs es) (e : Same H H') : EdsAt K H' rs es := ⟨h.1, fun i r d h1 h2 => WkG.seqT_same e (h.2 i r d h1 h2)⟩
theorem EdsAt.snoc {H H' : Hp} {rs : List Addr} {es : List Ed} {p : Addr} {e : Ed} (h : EdsAt K H rs es) (s : Same H H') (hp : H' p = some (.tup [.str e.1, .str e.2.1, .int e.2.2])) : EdsAt K H' (rs ++ [p]) (es ++ [e]) := by
  refine ⟨by rw [List.length_append, List.length_append, h.1]; rfl, fun i r d h1 h2 => ?_⟩
  rcases Nat.lt_trichotomy i rs.length with hi | hi | hi
  · rw [List.getElem?_append_left hi] at h1
    rw [List.getElem?_append_left (by rw [← h.1]; exact hi)] at h2
    exact WkG.seqT_same s (h.2 i r d h1 h2)
  · subst hi
    rw [List.getElem?_append_right (Nat.le_refl _), Nat.sub_self] at h1
    rw [h.1, List.getElem?_append_right (Nat.le_refl _), Nat.sub_self] at h2
    cases h1
    cases h2
    exact .inl (.inl hp)
  · rw [List.getElem?_eq_none (by rw [List.length_append, List.length_singleton]; omega)] at h1
    cases h1
end
end WkE
namespace WkC
open PySem PySem.Spec PyProof.Rows L2 WkD WkN
/-! ### what a class gives -/
section
variable (P : Program) (w : World) (K : PySem.W.Frag) (mg : Str → Option Value) (base : Heap)
/-- a property -/
def PropC (CX : CXT) (C : Addr) (f : Str) (k : Nat) (sp : Sp) : Prop := ∃ p g fd ps, PropOf K C f p g ∧ FnOk P w K mg base CX k g fd ps sp ∧ Binds K fd ps []
/-- a method -/
def MethC (CX : CXT) (C : Addr) (m : Str) (k : Nat) (sp : Sp) : Prop := ∃ f fd ps, Meth K C m f ∧ FnOk P w K mg base CX k f fd ps sp ∧ Binds K fd ps []
/-- its making -/
def MakeC (CX : CXT) (C : Addr) (x : Str) (k : Nat) (sp : Sp) : Prop := ∃ f fd ps, Mk K C f ∧ FnOk P w K mg base CX k f fd ps sp ∧ mg x = some (.ref C) ∧ Binds K fd ps []
/-- its len -/
def LenC (C : Addr) (k : Nat) (sp : Sp) : Prop := ∃ f fd ps, PySem.W.findIn K (.ref C) "__len__" = some (some (.ref f)) ∧ PySem.W.isFn K (.ref f) = true ∧ FnOk P w K mg base CX0 k f fd ps sp ∧ Binds K fd ps []
end
section
variable {X : Cx} {CX : CXT} {C : Addr} {f x m : Str} {k : Nat} {sp : Sp} {E : XK} {e : Expr} {es : List Expr} {ta : TE} {t : TA} {p pos apos : Pos}
theorem pe_pr (h : PropC X.prog X.w X.K X.mg X.base CX C f k sp) (c : Cls X.K C) (hr : Room (k + 1) X.A) (hx : Passes CX X.nox E) (he : PE X e ta) (hab : attributeBase e f X.env (eval e X.env) = eval e X.env := by rfl) : PE X (.Attribute e f pos) (tProp C sp [] E ta) := by
  obtain ⟨p, g, fd, ps, h1, h2, h3⟩ := h
  exact pe_prop he c h1 h2 hr h3 .nil hx hab
theorem pe_mk (h : MakeC X.prog X.w X.K X.mg X.base CX C x k sp) (hr : Room (k + 1) X.A) (hx : Passes CX X E) (ha : PA X (e :: es) t) (hg : Gl X x := by rfl) (hdb : (x == ("__debug__" : Str)) = false := by decide)
    (hst : starEach (e :: es) X.env = (false, eval e X.env) :: starEach es X.env := by rfl) (hpl : (backTo pos (starEach es X.env)).any (·.1) = false := by rfl) : PE X (.Call (.Name x p) (e :: es) [] pos) (tMake C sp [] E t) := by
  obtain ⟨f, fd, ps, h1, h2, h3, h4⟩ := h
  exact pe_make h1 h2 hr hg h3 h4 .nil hx ha hdb hst hpl
theorem pe_mt {o : Expr} {pl : Sem Bool} (h : MethC X.prog X.w X.K X.mg X.base CX C m k sp) (c : Cls X.K C) (hr : Room k X.A) (hx : Passes CX X E) (ho : PE X o ta) (ha : PA X (e :: es) t)
    (hst : starEach (e :: es) X.env = (false, eval e X.env) :: starEach es X.env := by rfl) (hpl : (backTo pos (starEach es X.env)).any (·.1) = false := by rfl)
    (ht : eval (.Call (.Attribute o m apos) (e :: es) [] pos) X.env = (do let ov ← eval o X.env; standAt apos.atName; let (f, first) ← holding [ov] (getMethod ov m pl); callWith pos f first (backTo pos (starEach (e :: es) X.env)) (backToKw pos (keywordEach [] X.env))) := by rfl) :
    PE X (.Call (.Attribute o m apos) (e :: es) [] pos) (tMeth C m sp [] E ta t) := by
  obtain ⟨f, fd, ps, h1, h2, h3⟩ := h
  exact pe_meth ho c h1 h2 hr h3 .nil hx ha hst hpl ht
end
end WkC
/-! ### data that is written -/
namespace WkG
open PySem PySem.Spec PyProof.Rows L2 WkN
/-- fits, with a depth -/
def FitsD (d : PyData) (w D : Nat) : Prop := Fits d w ∧ d.depth ≤ D
theorem Fits.mono {d : PyData} {w v : Nat} (h : Fits d w) (k : w ≤ v) : Fits d v := ⟨h.show_, h.dep, h.lv, Nat.le_trans h.wt k⟩
theorem FitsD.mono {d : PyData} {w v D E : Nat} (h : FitsD d w D) (k : w ≤ v) (l : D ≤ E) : FitsD d v E := ⟨h.1.mono k, Nat.le_trans h.2 l⟩
theorem FitsD.ok {d : PyData} {w D : Nat} (f : FitsD d w D) (hw : w ≤ 150000) : d.showable = true ∧ d.depth ≤ 60 ∧ d.shown.length ≤ sizeLine := ⟨f.1.show_, Nat.le_trans f.1.dep (by decide), f.1.len hw⟩
end WkG
namespace WkH
open PySem PySem.Spec PyProof.Rows L2 LamX
theorem law_GT {P : Program} {w : World} {K : PySem.W.Frag} {mg mb : Str → Option Value} {CX : CXT} {k : Nat} {fa a : Addr} {tt : List (Addr × Addr)} {fd : FuncData} {x : Str} {sp : Sp} {s₁ : Shared} {vsc : List Value} {nsc : List Int}
    (KX : K.In s₁.heap) (hnm : s₁.heap.Ns mainGlobals mg) (hy : s₁.heap.Ns builtinsNs mb) (hbu : ∀ x : Str, x ≠ "__name__" → mb x = bootBuiltins x) (hli : s₁.heap.NoLimit) (hge : s₁.gens = #[])
    (hTb : ∀ pt ∈ tt, s₁.heap.get? pt.2 = some { cls := .none, data := .fields #[] }) (nTb : ∀ pt ∈ tt, K.lookup pt.2 = none) (Cd : ∀ pt ∈ tt, PySem.W.CodeHd s₁.heap pt.1 pt.2)
    (hbmm : ∃ (bmo : Addr) (obb : Obj), mg "__builtins__" = some (.ref bmo) ∧ bmo ≠ builtinsNs ∧ s₁.heap.get? bmo = some obb ∧ obb.cls = .type "module" ∧ obb.dict = some builtinsNs ∧ obb.data = .plain)
    (hsc : s₁.heap.get? a = some { cls := .type "list", data := .seq vsc.toArray }) (hin : IntsAre vsc nsc) (hln : nsc.length ≤ sizeLine) (hro : Room k callerA)
    (F : ∀ base : Heap, K.In base → base.Ns mainGlobals mg → (∀ pt ∈ tt, TabB base mg pt.1 pt.2) → WkG.FnG P w K mg base CX k fa fd [x] sp) (hbnd : ∀ (s : Shared) (uu : Value), BindsTo s fd ⟨[uu], []⟩ [(x, uu)])
    (hspc : ∀ H : Hp, (∀ pt ∈ tt, H pt.2 = some (.tbl #[])) → SqL K H a (nsc.map V.int) → sp [.ref a] H (fun v _ => v = .bl true) fun _ _ _ => False)
    (hcx : ∀ H e t1, CX [] H s₁ (fun _ _ _ => False) e t1 → False) :
    codeAny (model P w) callerA (.call (.ref fa) ⟨[.ref a], []⟩) (fun r t1 => r = .ok (.ret (.bool true)) ∧ OldK s₁.heap t1.heap ∧ t1.os = s₁.os ∧ AllBare t1.gens) s₁ := by
  have rva := vals_ints hin
  have lv := hin.length
  have isTb : ∀ y : Addr, y ∈ tt.map (·.2) → s₁.heap.get? y = some { cls := .none, data := .fields #[] } := fun y hy => by
    obtain ⟨pt, hpt, e⟩ := List.mem_map.mp hy
    rw [← e]
    exact hTb pt hpt
  have noTb : a ∉ tt.map (·.2) := fun z => by
    have q := isTb a z
    rw [hsc] at q
    have zz : Data.seq vsc.toArray _ = Data.fields #[] := congrArg Obj.data (Option.some.inj q)
    cases zz
  have memTb : ∀ pt ∈ tt, pt.2 ∈ tt.map (·.2) := fun pt hpt => List.mem_map.mpr ⟨pt, hpt, rfl⟩
  have core0 : ∀ H : Hp, (∀ pt ∈ tt, H pt.2 = some (.tbl #[])) → (∀ y, H y = none ∨ y ∈ tt.map (·.2) ∨ ∃ ob0 xss, H y = some (.frz ob0 (.lst xss))) → SqL K H a (nsc.map V.int) → HOk P w H s₁.heap → (∀ y, H y ≠ none → y = a ∨ y ∈ tt.map (·.2)) → (H a ≠ none → K.lookup a = none) →
      codeAny (model P w) callerA (.call (.ref fa) ⟨[.ref a], []⟩) (fun r t1 => r = .ok (.ret (.bool true)) ∧ OldK s₁.heap t1.heap ∧ t1.os = s₁.os ∧ AllBare t1.gens) s₁ := by
    intro H eT onl sq okh dom outK
    have bo : ∀ {y : Addr} {ob0 : Obj}, s₁.heap.get? y = some ob0 → H y = none → (hidT s₁.heap H).get? y = some ob0 := fun e n => hidT_get e n
    have nod : ∀ {y : Addr} {ob0 : Obj}, s₁.heap.get? y = some ob0 → (∀ vsc n, ob0.data ≠ .seq vsc n) → ob0.data ≠ .fields #[] → H y = none := fun {y ob0} e h1 h2 => by
      cases q : H y with
      | none => rfl
      | some uu =>
        rcases dom y (by rw [q]; simp) with e1' | e1'
        · rw [e1', hsc] at e
          cases e
          exact (h1 _ _ rfl).elim
        · rw [isTb y e1'] at e
          cases e
          exact (h2 rfl).elim
    have noa : ∀ {y : Addr} {ob0 : Obj} {ens : Array DictEntry} {ept : Nat}, s₁.heap.get? y = some ob0 → ob0.data = .dict ens ept → H y = none := fun {y ob0 ens ept} e d => by
      refine nod e (fun vsc n z => ?_) fun z => ?_
      · rw [d] at z
        cases z
      · rw [d] at z
        cases z
    have nk : ∀ {y : Addr} {m : Str → Option Value}, s₁.heap.Ns y m → (hidT s₁.heap H).Ns y m := fun {y m} ⟨ob0, ens, ept, e, d, r⟩ => ⟨ob0, ens, ept, bo e (noa e d), d, r⟩
    have kb : K.In (hidT s₁.heap H) := fun y ob0 e => bo (KX y ob0 e) (by
      cases q : H y with
      | none => rfl
      | some uu =>
        rcases dom y (by rw [q]; simp) with e1' | e1'
        · rw [e1'] at e q
          rw [outK (by rw [q]; simp)] at e
          cases e
        · obtain ⟨pt, hpt, ept⟩ := List.mem_map.mp e1'
          rw [← ept, nTb pt hpt] at e
          cases e)
    have md : L2.Mod K mg (hidT s₁.heap H) := ⟨kb, nk hnm, ⟨mb, nk hy, hbu⟩, let ⟨mc, h1, h2⟩ := hli; ⟨mc, nk h1, h2⟩⟩
    have TB : ∀ pt ∈ tt, TabB (hidT s₁.heap H) mg pt.1 pt.2 := fun pt hpt => by
      have hTt := hTb pt hpt
      refine ⟨?_, ?_, fun z => ?_⟩
      · obtain ⟨ob0, us, file, tf, flags, tg, inF, text, tt, e1, r1, r2, r3, r4, r5, r6, r7, r8, hne⟩ := Cd pt hpt
        refine ⟨ob0, us, file, tf, flags, tg, inF, text, tt, bo e1 (nod e1 (fun vsc n z => ?_) fun z => ?_), r1, r2, r3, r4, r5, r6, r7, r8, hne⟩
        · rw [r2] at z
          cases z
        · rw [r2] at z
          cases z
          simp at r3
      · obtain ⟨bmo, obb, b1, b2, b3, b4, b5, b6⟩ := hbmm
        have ngl : bmo ≠ mainGlobals := fun q => by
          obtain ⟨ob0, ens, ept, e, hd, _⟩ := hnm
          rw [q, e] at b3
          cases b3
          rw [hd] at b6
          cases b6
        have nPt : bmo ≠ pt.2 := fun q => by
          rw [q, hTt] at b3
          cases b3
          cases b6
        refine ⟨bmo, obb, b1, b2, ngl, nPt, bo b3 (nod b3 (fun vsc n z => ?_) fun z => ?_), b4, b5, b6⟩
        · rw [b6] at z
          cases z
        · rw [b6] at z
          cases z
      · obtain ⟨ob0, ens, ept, e, hd, _⟩ := hnm
        rw [z, hTt] at e
        cases e
        cases hd
    have ev0 : Env0 P w K mg (hidT s₁.heap H) callerA [] s₁ H := ⟨rfl, md, fun y ob0 e => of_hidT e, Nat.le_of_eq (hidT_size _ _), trivial, fun y hy => absurd (show y ∈ ([] : List Addr) from hy) (by simp), okh, .of_eq hge⟩
    refine codeAny_mono ((F _ kb (nk hnm) TB).run callerA [] s₁ H ⟨[.ref a], []⟩ [.ref a] [.ref a] _ _ rfl hro ev0 (hbnd s₁ (.ref a)) (.cons rfl .nil) (hspc H eT sq)) fun r t1 h => ?_
    cases r with
    | error e => exact (hcx H e t1 h).elim
    | ok fl =>
      cases fl with
      | next => exact False.elim h
      | brk => exact False.elim h
      | cont => exact False.elim h
      | ret uu =>
        obtain ⟨v, G, oss, bar, unt, okh1, rr, q⟩ := h
        have qq : v = .bl true := q
        subst qq
        obtain rfl : uu = Value.bool true := rr
        have kee : ∀ y ob0, y ∉ tt.map (·.2) → s₁.heap.get? y = some ob0 → t1.heap.get? y = some ob0 := fun y ob0 nby e => by
          cases q : H y with
          | none => exact unt.keep y ob0 e q (by intro z; exact absurd (show y ∈ ([] : List Addr) from z) (by simp)) (by simp)
          | some uu =>
            rcases onl y with z | z | ⟨obb, xss, z⟩
            · rw [q] at z; cases z
            · exact absurd z nby
            · have zz2 := unt.frzs y obb _ z
              obtain ⟨e1, _⟩ := okh y _ z
              obtain ⟨e2, _⟩ := okh1 y _ zz2
              rw [e] at e1; cases e1
              exact e2
        have grw : ∀ pt ∈ tt, ∃ mor : Array Value, t1.heap.get? pt.2 = some { cls := .none, data := .fields mor } := fun pt hpt => by
          obtain ⟨mor, z⟩ := unt.tbls pt.2 #[] (eT pt hpt)
          exact ⟨_, okh1 pt.2 _ z⟩
        refine ⟨rfl, ⟨fun y ob0 e => ?_, fun y ob0 e => ?_⟩, oss, bar⟩
        · by_cases hy : y ∈ tt.map (·.2)
          · obtain ⟨pt, hpt, ept⟩ := List.mem_map.mp hy
            obtain ⟨mor, hm⟩ := grw pt hpt
            rw [← ept] at e ⊢
            rw [hTb pt hpt] at e
            cases e
            exact .inr (.inl ⟨((Cd pt hpt).tab (hTb pt hpt)).isCodeTable, rfl, #[], mor, rfl, by rw [Array.empty_append]; exact hm⟩)
          · exact .inl (kee y ob0 hy e)
        · by_cases hy : y ∈ tt.map (·.2)
          · obtain ⟨pt, hpt, ept⟩ := List.mem_map.mp hy
            obtain ⟨mor, hm⟩ := grw pt hpt
            rw [← ept]
            exact ⟨_, hm⟩
          · exact ⟨ob0, kee y ob0 hy e⟩
  cases hk : K.lookup a with
  | some ob0 =>
    have e := KX a ob0 hk
    rw [hsc] at e
    cases e
    refine core0 (fun y => if y ∈ tt.map (·.2) then some (.tbl #[]) else none) (fun pt hpt => if_pos (memTb pt hpt)) (fun y => ?_) (.inr ⟨_, vsc.toArray, _, hk, rfl, rfl, rfl, by rw [List.size_toArray, lv]; exact hln, by simpa using rva⟩) (fun y uu z => ?_) (fun y z => ?_) fun z => absurd (show (if a ∈ tt.map (·.2) then some (HO.tbl #[]) else none) = none from if_neg noTb) z
    · by_cases hy : y ∈ tt.map (·.2)
      · exact .inr (.inl hy)
      · exact .inl (if_neg hy)
    · by_cases hy : y ∈ tt.map (·.2)
      · have zz := (if_pos hy).symm.trans z
        cases zz
        exact isTb y hy
      · have zz := (if_neg hy).symm.trans z
        cases zz
    · by_cases hy : y ∈ tt.map (·.2)
      · exact .inr hy
      · exact absurd (if_neg hy) z
  | none =>
    refine core0 (fun y => if y = a then some (.frz { cls := .type "list", data := .seq vsc.toArray } (.lst (nsc.map V.int))) else if y ∈ tt.map (·.2) then some (.tbl #[]) else none) (fun pt hpt => (if_neg (show ¬ pt.2 = a from fun z => noTb (by rw [← z]; exact memTb pt hpt))).trans (if_pos (memTb pt hpt))) (fun y => ?_)
      (.inl (.inr ⟨{ cls := .type "list", data := .seq vsc.toArray }, if_pos rfl⟩)) (fun y uu z => ?_) (fun y z => ?_) fun _ => hk
    · by_cases hy : y = a
      · exact .inr (.inr ⟨_, _, if_pos hy⟩)
      · by_cases hy2 : y ∈ tt.map (·.2)
        · exact .inr (.inl hy2)
        · exact .inl ((if_neg hy).trans (if_neg hy2))
    · by_cases hy : y = a
      · have zz := (if_pos hy).symm.trans z
        cases zz
        rw [hy]
        exact ⟨hsc, by rw [List.length_map]; exact hln, vsc, _, rva, hsc⟩
      · have z1 := (if_neg hy).symm.trans z
        by_cases hy2 : y ∈ tt.map (·.2)
        · have zz := (if_pos hy2).symm.trans z1
          cases zz
          exact isTb y hy2
        · have zz := (if_neg hy2).symm.trans z1
          cases zz
    · by_cases hy : y = a
      · exact .inl hy
      · by_cases hy2 : y ∈ tt.map (·.2)
        · exact .inr hy2
        · exact absurd ((if_neg hy).trans (if_neg hy2)) z
/-- the promise of a law at its head, tables told -/
def LawT (l : PySem.W.OpenLaw) (w : World) (K : PySem.W.Frag) (CX : CXT) (k n : Nat) (x : Str) (mg : Str → Option Value) (fa : Addr) (h : Heap) : Prop :=
  ∃ (fd : FuncData) (tt : List (Addr × Addr)) (sp : Sp), (∀ p ∈ tt, h.get? p.2 = some { cls := .none, data := .fields #[] }) ∧ (∀ p ∈ tt, K.lookup p.2 = none) ∧ (∀ p ∈ tt, PySem.W.CodeHd h p.1 p.2) ∧ (∀ (s : Shared) (v : Value), BindsTo s fd ⟨[v], []⟩ [(x, v)]) ∧
    (∀ (H : Hp) (a : Addr) (ms : List Int), ms.length ≤ n → (∀ p ∈ tt, H p.2 = some (.tbl #[])) → SqL K H a (ms.map V.int) → sp [.ref a] H (fun v _ => v = .bl true) fun _ _ _ => False) ∧
    ∀ base : Heap, K.In base → base.Ns mainGlobals mg → (∀ p ∈ tt, TabB base mg p.1 p.2) → WkG.FnG l.prog w K mg base CX k fa fd [x] sp
theorem walk_GT {l : PySem.W.OpenLaw} {n k : Nat} {q : Program} {loose : List Str} {XP : (Str → Option Value) → Heap → Prop} {YP : World → Heap → Prop} {d : DefRec} {CX : World → CXT} {x : Str}
    (hn : l.most = some n) (hn2 : n ≤ sizeLine) (hdf : d.params.defaults = []) (hr : Room k callerA)
    (F : ∀ (w : World) (mg : Str → Option Value) (fa : Addr) (h : Heap), YP w h → h.Ns mainGlobals mg → mg d.name = some (.ref fa) → ∃ K : PySem.W.Frag, K.In h ∧ LawT l w K (CX w) k n x mg fa h)
    (hCX : ∀ (w : World) (H : Hp) (s : Shared) (e : Value) (s' : Shared), CX w [] H s (fun _ _ _ => False) e s' → False) :
    PySem.W.WalkO q loose XP YP l.row.toRowW d [] (fun f vs => PySem.call f vs) := by
  refine Att.attach_call hn hdf fun w s₀ s₁ mg mb fa o pm cd doc a vs ns G Y ho hd hcd hmg hobj hints hlen hg => ?_
  obtain ⟨K, KX, fd, tt, sp, hT, nT, C, hb, hsp, hF⟩ := F w mg fa _ Y G.T.g hmg
  exact law_GT KX G.T.g G.T.b G.T.builtins G.T.nolimit hg hT nT C G.T.bmain hobj hints (Nat.le_trans hlen hn2) hr hF hb (fun H eT sq => hsp H a ns hlen eT sq) fun H e s' => hCX w H s₁ e s'
/-! ### the head's facts, tables left out -/
structure SaysH (fa : List He.Fa) (fn : List He.DefD) (tf : List He.Defn) (ex : PySem.W.Frag → Bool) (h : Heap) (K : PySem.W.Frag) : Prop where
  d : He.SaysD fa fn K
  ex : ex K = true
  hd : ∀ p ∈ tf, PySem.W.codeHdIn K (He.cT K p).1 (He.cT K p).2 = true
  out : ∀ p ∈ tf, K.lookup (He.cT K p).2 = none
  emp : ∀ p ∈ tf, h.get? (He.cT K p).2 = some { cls := .none, data := .fields #[] }
end WkH
namespace WkS
open PySem PySem.Spec PyProof.Rows L2
/-! ### a method whose first statement says super().m(..) -/
structure SupScope (N ps : List Str) (sc : Scope) : Prop where
  kind : sc.kind = .function
  co : sc.isCoroutine = false
  gen : sc.isGenerator = false
  nd : N.Nodup
  pre : N.take ps.length = ps
  par : ∀ x ∈ ps, sc.names.lookup x = some .local
  nocell : ∀ y ∈ sc.names, y.2 ≠ .cell
  free : ∀ y ∈ sc.names, y.2 = .free → y.1 = "__class__"
  cls : sc.names.lookup ("__class__" : Str) = some .free
  sup : sc.names.lookup ("super" : Str) = some .globalImplicit
abbrev supEnv (qual : Str) (scope : Scope) (L f : Addr) (cd : Value) (cc : Addr) : Env := PySem.W.ksEnv qual scope L f cd cc
def supCx (CX : CXT) (P : Program) (w : World) (K : PySem.W.Frag) (mg : Str → Option Value) (base : Heap) (N : List Str) (qual : Str) (scope : Scope) (f : Addr) (cd : Value) (cc : Addr) (A : Around) (outer : List Env) (s : Shared) (H : Hp) (E : XK) : Cx where
  prog := P
  w := w
  K := K
  mg := mg
  base := base
  A := A.deeper (supEnv qual scope s.heap.objs.size f cd cc)
  N := N
  s_0 := s
  H_0 := H
  env := supEnv qual scope s.heap.objs.size f cd cc
  outer := outer
  stack := supEnv qual scope s.heap.objs.size f cd cc :: outer
  ex := []
  calm := true
  fn := fun _ => false
  pn := []
  xe := fun e s' => wpAny (model P w) (A.deeper (supEnv qual scope s.heap.objs.size f cd cc)) (leaving (supEnv qual scope s.heap.objs.size f cd cc) e) (fun _ s'' => CX outer H s E e s'') (fun e' s'' => CX outer H s E e' s'') s'
theorem lookup_nd {y : Str} {u : Value} : ∀ {l : List (Str × Value)}, (l.map (·.1)).Nodup → (y, u) ∈ l → l.lookup y = some u
  | [], _, h => by cases h
  | (z, v) :: r, nd, h => by
    rw [List.map_cons, List.nodup_cons] at nd
    rcases List.mem_cons.mp h with e | h
    · cases e
      simp [List.lookup]
    · have hne : y ≠ z := fun e => nd.1 (List.mem_map.mpr ⟨(y, u), h, e⟩)
      have e1 : (y == z) = false := beq_eq_false_iff_ne.mpr hne
      rw [List.lookup_cons, e1]
      exact lookup_nd nd.2 h
theorem rev_zip {ps : List Str} {us : List Value} {y : Str} {u : Value} {i : Nat} (nd : ps.Nodup) (hl : ps.length = us.length) (hp : ps[i]? = some y) (hu : us[i]? = some u) : (ps.zip us).reverse.lookup y = some u := by
  have e : (ps.zip us)[i]? = some (y, u) := List.getElem?_zip_eq_some.mpr ⟨hp, hu⟩
  refine lookup_nd ?_ (List.mem_reverse.mpr (List.mem_of_getElem? e))
  rw [List.map_reverse]
  refine List.pairwise_reverse.mpr ?_
  rw [List.map_fst_zip (by omega)]
  exact nd.imp fun h => Ne.symm h
section
variable {CX : CXT} {P : Program} {w : World} {K : PySem.W.Frag} {mg : Str → Option Value} {base : Heap} {N ps : List Str} {qual : Str} {scope : Scope} {f cc : Addr} {cd : Value} {A : Around} {outer : List Env} {s : Shared} {H : Hp} {E : XK} {us : List Value} {vs : List V}
theorem sup_start {h₁ : Heap} {tk : Nat} {oc : Obj} {cv : Option Value} (S : SupScope N ps scope) (hd : A.handled = none) (e0 : Env0 P w K mg base A outer s H) (hl : vs.length = ps.length) (r : Vals vs us) (hcell : K.lookup cc = some oc) (hcv : oc.data = .cell cv)
    (hns : h₁.Ns s.heap.objs.size fun y => (ps.zip us).reverse.lookup y) (kp : ∀ b o, s.heap.get? b = some o → h₁.get? b = some o) :
    Inv (supCx CX P w K mg base N qual scope f cd cc A outer s H E) [] (L2.start N vs) H { s with heap := h₁, toks := tk } := by
  have hlu : ps.length = us.length := by rw [← hl]; exact r.length
  have ndP : ps.Nodup := by rw [← S.pre]; exact S.nd.sublist (List.take_sublist _ _)
  have hpl : ps.length ≤ N.length := by
    have := congrArg List.length S.pre
    rw [List.length_take] at this
    omega
  have one : ∀ {y c}, ([(("__class__" : Str), cc)] : List (Str × Addr)).lookup y = some c → y = "__class__" ∧ c = cc := fun {y c} e => by
    rw [List.lookup_cons] at e
    split at e
    · rename_i h
      exact ⟨eq_of_beq h, (Option.some.inj e).symm⟩
    · simp at e
  have hb := e0.mod.kin _ _ hcell
  obtain ⟨hb1, hb2⟩ := e0.bs _ _ hb
  have noE : ∀ b : Addr, b ∉ (supCx CX P w K mg base N qual scope f cd cc A outer s H E).ex := fun b z => absurd (show b ∈ ([] : List Addr) from z) (by simp)
  refine ⟨⟨e0.mod, S.kind, rfl, rfl, Nat.le_refl _, fun y z c a b => (one a).1.trans (one b).1.symm, fun y hy => ?_, fun y c z _ => ?_, fun _ => hd, Around.frames_deeper e0.frames, .inr ⟨rfl, rfl⟩, fun b z => absurd z (noE b), e0.bs, e0.bsz, fun b _ _ => noE b,
      fun b z => absurd z (noE b), e0.funs, e0.frf⟩,
    rfl, e0.bare, Un.kept kp, ⟨_, hns, fun i y v h1 h2 h3 => ?_⟩, fun y c e => ?_, e0.hok.fresh (Nat.le_refl _), fun y c e => ?_, fun q hq => absurd (show q ∈ ([] : List (Addr × Obj)) ++ [] from hq) (by simp), e0.hok.kept kp, ?_⟩
  · have hy : scope.names.lookup y = some .cell ∨ scope.names.lookup y = some .free := hy
    rcases hy with hy | hy
    · exact absurd rfl (S.nocell _ (PySem.mem_of_lookup hy))
    · have e : y = "__class__" := S.free _ (PySem.mem_of_lookup hy) rfl
      subst e
      exact ⟨cc, by show ([(("__class__" : Str), cc)] : List (Str × Addr)).lookup ("__class__" : Str) = some cc; rfl⟩
  · have z : false = true := z
    cases z
  · have hi : i < vs.length := by
      unfold L2.start at h2
      by_cases hi : i < vs.length
      · exact hi
      · rw [List.getElem?_append_right (by simpa using hi), List.getElem?_replicate] at h2
        split at h2 <;> cases h2
    have ha : vs[i]? = some v := by
      unfold L2.start at h2
      rw [List.getElem?_append_left (by simpa using hi), List.getElem?_map] at h2
      cases e : vs[i]? with
      | none => rw [e] at h2; cases h2
      | some a => rw [e] at h2; cases h2; rfl
    obtain ⟨u, hu, rv⟩ := r.get ha
    have h1 : N[i]? = some y := h1
    have hp : ps[i]? = some y := by
      rw [← S.pre, List.getElem?_take_of_lt (by omega)]
      exact h1
    exact ⟨u, rv, .inl ⟨S.par y (List.mem_of_getElem? hp), rev_zip ndP hlu hp hu⟩⟩
  · obtain ⟨_, rfl⟩ := one e
    exact ⟨cv, oc, kp _ _ hb1, hcv⟩
  · obtain ⟨_, rfl⟩ := one e
    exact hb2
  · show (L2.start N vs).length = N.length
    unfold L2.start
    simp
    omega
/-- what the written part tells of such a method -/
structure SupT (P : Program) (K : PySem.W.Frag) (mg : Str → Option Value) (ps : List Str) (D f cc cda : Addr) (qual : Str) (params : Arguments) (scope : Scope) (fd : FuncData) : Prop where
  co : ∃ (name : Str) (body : List Stmt) (dV kV doc pm : Value) (an : Option Addr) (ct oc : Value) (od : Option Addr) (osl : Array (Option Value)), fd = PySem.W.ksFn name qual params body scope dV kV doc pm an (.ref cda) ct cc ∧ K.lookup f = some ⟨oc, od, .func fd, osl⟩
  code : PySem.W.codeIn K (.ref cda) qual = true
  file : ∃ (ccl : Value) (cdd : Option Addr) (vs : Array Value) (ccs : Array (Option Value)) (file : Str) (tf : Tok), K.lookup cda = some ⟨ccl, cdd, .fields vs, ccs⟩ ∧ vs[2]? = some (.str file tf) ∧ ((P.main.file : Str) == file) = true
  cell : ∃ (cl : Value) (cld : Option Addr) (csl : Array (Option Value)), K.lookup cc = some ⟨cl, cld, .cell (some (.ref D)), csl⟩
  cls : ∃ cdD, PySem.W.clsIn K D = some cdD
  nosup : mg "super" = none
  top : (P.main.scope.names.lookup ("super" : Str)).isSome = false
  par : ∃ ar : Arg, (params.posonlyargs ++ params.args).head? = some ar ∧ ps[0]? = some ar.arg
  noany : PySem.W.nsIn K cStatics "thirdparty.any" = some none
theorem clsIn_at {h : Heap} {D : Addr} {cd : ClassData} (X : K.In h) (hD : PySem.W.clsIn K D = some cd) : ∃ oD, h.get? D = some oD ∧ oD.data = .cls cd := by
  unfold PySem.W.clsIn at hD
  split at hD
  · rename_i c d cd' sl ho
    cases hD
    exact ⟨_, X _ _ ho, rfl⟩
  · cases hD
theorem sup_ok {k : Nat} {fd fd2 : FuncData} {D f2 cda : Addr} {params : Arguments} {ps2 : List Str} {sp sp2 : Sp} {m : Str} {e : Expr} {es : List Expr} {rest : List Stmt} {p0 p1 apos pos pos' : Pos} (T : SupT P K mg ps D f cc cda qual params scope fd)
    (hbd : fd.body = .stmts (.Expr (.Call (.Attribute (.Call (.Name "super" p0) [] [] p1) m apos) (e :: es) [] pos) pos' :: rest)) (S : SupScope N ps scope) (F2 : FnOk P w K mg base CX k f2 fd2 ps2 sp2) (hb2 : Binds K fd2 ps2 []) (hf2 : PySem.W.fnIn K f2 = true)
    (hf2' : PySem.W.isFn K (.ref f2) = true)
    (hmn : (m == ("__class__" : Str)) = false) (len : ∀ vs H Q E, sp vs H Q E → vs.length = ps.length)
    (hx : ∀ A outer s H E, Passes CX (supCx CX P w K mg base N qual scope f (.ref cda) cc A outer s H E) E)
    (hst : ∀ env : Env, starEach (e :: es) env = (false, eval e env) :: starEach es env) (hpl : ∀ env : Env, (backTo pos (starEach es env)).any (·.1) = false)
    (hev : ∀ env : Env, env.scope = scope → ∃ pl : Sem Bool, eval (.Call (.Attribute (.Call (.Name "super" p0) [] [] p1) m apos) (e :: es) [] pos) env = (do
      let ov ← attributeBase (.Call (.Name "super" p0) [] [] p1) m env (eval (.Call (.Name "super" p0) [] [] p1) env)
      standAt apos.atName
      let (f, first) ← holding [ov] (getMethod ov m pl)
      callWith pos f first (backTo pos (starEach (e :: es) env)) []))
    (hsw : ∀ env : Env, env.scope = scope → interactive env = false ∧ swapsWith (.Call (.Attribute (.Call (.Name "super" p0) [] [] p1) m apos) (e :: es) [] pos) none pos'.line env = pure false)
    (hbody : ∀ (A : Around) (outer : List Env) (s : Shared) (H : Hp) (vs : List V) (Q : VK) (E : XK), Room k (A.deeper (supEnv qual scope s.heap.objs.size f (.ref cda) cc)) → sp vs H Q E →
      ∃ (ta : TA) (t : TS) (x C dx : Addr) (fs : List (Str × V)), vs[0]? = some (.ref x) ∧ H x = some (.ins C dx fs) ∧ PySem.W.mroIn K C (.ref D) = some true ∧ PySem.W.ks_superIn K C D m = some (some (.ref f2)) ∧
        PA (supCx CX P w K mg base N qual scope f (.ref cda) cc A outer s H E) (e :: es) ta ∧ PSs (supCx CX P w K mg base N qual scope f (.ref cda) cc A outer s H E) rest t ∧
        ta (L2.start N vs) H fun ws H1 => sp2 (.ref x :: ws) H1 (fun _ H2 => t { nx := fun _ H' => Q .non H', rt := Q } (L2.start N vs) H2) E) :
    FnOk P w K mg base CX (k + 1) f fd ps sp := by
  refine ⟨len, fun A outer s H args us vs Q E hr e0 hb rel hsp => ?_⟩
  obtain ⟨name, body, dV, kV, doc, pm, an, ct, oc, od, osl, efd, lk⟩ := T.co
  obtain ⟨ccl, cdd, vs', ccs, file, tf, lkc, hvs, hfile⟩ := T.file
  obtain ⟨cl, cld, csl, hcell⟩ := T.cell
  obtain ⟨cdD, hD⟩ := T.cls
  obtain ⟨ar, hp, hp0⟩ := T.par
  have KX : K.In s.heap := e0.mod.kin.keeps fun b o e => (e0.bs b o e).1
  have lim : s.heap.NoLimit := e0.mod.nolimit.keeps fun b o e => (e0.bs b o e).1
  subst efd
  have hbd : body = .Expr (.Call (.Attribute (.Call (.Name "super" p0) [] [] p1) m apos) (e :: es) [] pos) pos' :: rest := FuncBody.stmts.inj hbd
  have hloc : ∀ y ∈ ps.zip us, scope.names.lookup y.1 = some .local := fun ⟨n, v⟩ hy => S.par n (List.of_mem_zip hy).1
  refine ks_codeAny_call_defAt (fd := PySem.W.ksFn name qual params body scope dV kV doc pm an (.ref cda) ct cc) (body := body) (binds := ps.zip us) hr.depth (KX _ _ lk) rfl lim (PySem.W.codeRec_of KX T.code) rfl hb S.nocell hloc (fun h₁ hns kp => ?_) S.co S.gen S.kind
  have I := sup_start (CX := CX) (E := E) (f := f) (qual := qual) (cd := .ref cda) (tk := s.toks + (ps.zip us).length) S hr.hd e0 (len _ _ _ _ hsp) rel hcell rfl hns kp
  have hr1 := hr.deeper (supEnv qual scope s.heap.objs.size f (.ref cda) cc)
  obtain ⟨ta, t, x, C, dx, fs, hx0, hxi, hsub, hsm, hA, hS, ht⟩ := hbody A outer s H vs Q E hr1 hsp
  have fin : ∀ {σ' : L2.St} {H' : Hp} {v : V} {u : Value} {s' : Shared}, Inv (supCx CX P w K mg base N qual scope f (.ref cda) cc A outer s H E) [] σ' H' s' → RelV v u → Q v H' → CE outer P w H s Q u s' :=
    fun {σ' H' v u s'} J rv q => ⟨v, H', J.os, J.bare, J.base, J.hok, rv, q⟩
  rw [hbd]
  obtain ⟨sw1, sw2⟩ := hsw (supEnv qual scope s.heap.objs.size f (.ref cda) cc) rfl
  obtain ⟨pl, hevl⟩ := hev (supEnv qual scope s.heap.objs.size f (.ref cda) cc) rfl
  refine ks_wpAt_execs_cons (ks_wpAt_Expr_any (ks_wpAt_MethodCall (pl := pl) ?_ hevl) sw1 sw2)
  refine ks_wpAt_super_base (f := f) (cc := cda) S.sup S.cls hmn rfl (I.kIn _ _ lk) rfl hp rfl (I.kIn _ _ lkc) rfl hvs hfile T.top ?_
  obtain ⟨mb, hmb, hbb⟩ := I.mod.blt
  refine PySem.W.ks_loadName_global S.kind S.sup (Calls.loadGlobal_builtin (mg := mg) (mb := mb) (I.mod.glob.keeps I.bk) T.nosup (hmb.keeps I.bk) ((hbb _ (by decide)).trans (show bootBuiltins "super" = some (.type "super") by decide +kernel)) ⟨rfl, ?_⟩)
  refine wpAny_loadName_free S.kind S.cls (c := cc) (by rfl) ⟨_, I.kIn _ _ hcell, rfl⟩ ?_
  have hself : (ps.zip us).reverse.lookup ar.arg = some (.ref x) := by
    obtain ⟨u, hu, rv⟩ := rel.get hx0
    obtain rfl : u = Value.ref x := rv
    exact rev_zip (by rw [← S.pre]; exact S.nd.sublist (List.take_sublist _ _)) (by rw [← len _ _ _ _ hsp]; exact rel.length) hp0 hu
  refine wpAny_loadName_local S.kind (S.par _ (List.mem_of_getElem? hp0)) hns hself ?_
  obtain ⟨oD, hD1, hD2⟩ := clsIn_at I.kIn hD
  obtain ⟨mA, OM, _, _, _, _⟩ := ins_get I.hok hxi
  obtain ⟨od', IA, _⟩ := OM.look
  refine ks_wpAny_isType_cls hD1 hD2 ⟨rfl, ?_⟩
  refine ks_wpAny_call_super hD1 hD2 IA.at_ IA.cls (fun c e => ?_) (PySem.W.looks_mroIn I.kIn hsub) (fun h2 e2 k2 => ?_)
  · have z := IA.no
    unfold PySem.W.notCls at z
    rw [e] at z
    exact Bool.noConfusion z
  have I2 := I.kept (t' := s.toks + (ps.zip us).length) k2
  cases hc : PySem.W.clsIn K C with
  | none =>
    unfold PySem.W.ks_superIn at hsm
    rw [hc] at hsm
    cases hsm
  | some cd =>
    unfold PySem.W.ks_superIn at hsm
    rw [hc] at hsm
    obtain ⟨of, hof, hofc⟩ : ∃ of, h2.get? f2 = some of ∧ of.cls = .type "function" := by
      have z : (K.lookup f2).map (·.cls) = some (.type "function") := eq_of_beq hf2'
      cases q : K.lookup f2 with
      | none => rw [q] at z; cases z
      | some of => rw [q] at z; exact ⟨of, I2.kIn _ _ q, Option.some.inj z⟩
    have IA2 : h2.get? x = some (PySem.W.instObj C dx) := k2 _ _ IA.at_
    have hxC : x ≠ C := by
      rintro rfl
      obtain ⟨oC, q1, q2⟩ := clsIn_at I2.kIn hc
      rw [show h2.get? x = _ from IA2] at q1
      cases q1
      cases q2
    refine ks_wpAny_getMethod_super (X := I2.kIn) e2 (PySem.W.looks_opaque I2.kIn T.noany) (l₀ := cd.mro) (fun A Q E s k q => wpAny_bind ((PySem.W.looks_clsIn I2.kIn hc) A _ E s k (wpAny_pure q))) rfl hsm hof hofc hxC hmn ?_
    have I3 := I2.kept (t' := s.toks + (ps.zip us).length + 1) (h' := h2.push { cls := .type "method", data := .fields #[.ref f2, .ref x] }) fun b u e => Heap.get?_push_of_some _ e
    have gq : (h2.push { cls := .type "method", data := .fields #[.ref f2, .ref x] }).get? h2.objs.size = some (PySem.W.methodObj (.ref f2) (.ref x)) := Heap.get?_push_size _ rfl
    have I4 : Inv (supCx CX P w K mg base N qual scope f (.ref cda) cc A outer s H E) [(h2.objs.size, PySem.W.methodObj (.ref f2) (.ref x))] (L2.start N vs) H _ := I3.pins_of fun p hp => by
      have e : p = (h2.objs.size, PySem.W.methodObj (.ref f2) (.ref x)) := by simpa using hp
      subst e
      exact ⟨gq, I2.hok.fresh (Nat.le_refl _), Nat.ne_of_gt I2.lt, I2.nofs (Nat.le_refl _), fun v z => by cases z⟩
    refine PySem.W.callWith_M (h₀ := base) (L := s.heap.objs.size) (news := [(h2.objs.size, PySem.W.methodObj (.ref f2) (.ref x))]) (g := f2) (self := .ref x) e0.mod.kin (fun p hp => ?_) List.mem_cons_self hf2 (thn (hA.run pos _ _ _ _ _ I4 ht) fun ws s5 ⟨vs5, H5, I5, r5, q5⟩ => ⟨⟨(I5.pin _ (List.mem_append_right _ List.mem_cons_self)).1, I5.kIn⟩, ?_⟩) (hst _) (hpl _)
    · have e : p = (h2.objs.size, PySem.W.methodObj (.ref f2) (.ref x)) := by simpa using hp
      subst e
      exact ⟨gq, Nat.ne_of_gt I2.lt, Heap.get?_none_of_le (Nat.le_trans e0.bsz I2.sz)⟩
    have hl : (Value.ref x :: ws).length = ps2.length := by
      rw [← F2.len _ _ _ _ q5]
      simp [r5.length]
    have rc := F2.run _ _ s5 H5 ⟨.ref x :: ws, []⟩ (.ref x :: ws) (.ref x :: vs5) _ E hr1 I5.env0 (by simpa using hb2 s5 (.ref x :: ws) I5.kIn (by simpa using hl)) (.cons rfl r5) q5
    refine wpAny_call (ks_codeAny_call_bound (I5.pin _ (List.mem_append_right _ List.mem_cons_self)).1 (codeAny_mono rc fun r s' hq => ?_))
    cases r with
    | error er => exact hx A outer s H E [(h2.objs.size, PySem.W.methodObj (.ref f2) (.ref x))] (L2.start N vs) H5 s5 er s' I5 hq
    | ok fl =>
      cases fl with
      | next => exact False.elim hq
      | brk => exact False.elim hq
      | cont => exact False.elim hq
      | ret u =>
        obtain ⟨v6, H6, I6, _, q6⟩ := I5.after hq
        have I7 : Inv (supCx CX P w K mg base N qual scope f (.ref cda) cc A outer s H E) [] (L2.start N vs) H6 s' := I6.pins_of fun p hp => absurd hp (by simp)
        refine wpAt_of_wpAny (wpAny_mono (hS.run [] s' _ H6 _ I7 q6) (fun fl s8 hs => ?_) fun _ _ z => z)
        cases fl with
        | ret u8 =>
          obtain ⟨v, σ', H', J, rv, q⟩ := hs
          exact fin J rv q
        | next =>
          obtain ⟨σ', H', J, q⟩ := hs
          exact fin (v := V.non) (u := Value.none) J rfl q
        | brk =>
          obtain ⟨_, _, _, q⟩ := hs
          exact False.elim q
        | cont =>
          obtain ⟨_, _, _, q⟩ := hs
          exact False.elim q
end
end WkS
namespace WkL
open PySem PySem.Spec PyProof.Rows L2 LamX
/-! ### max(e, key=lambda u: body) -/
/-- the lambda's names: its one parameter, captured ones, globals -/
structure Lam1 (sc scope : Scope) (u : Str) : Prop where
  kind : scope.kind = .function
  co : scope.isCoroutine = false
  gen : scope.isGenerator = false
  nocell : ∀ y ∈ scope.names, y.2 ≠ .cell
  one : ∀ y ∈ scope.names, y.2 = .local → y.1 = u
  par : scope.names.lookup u = some .local
  free : ∀ y ∈ scope.names, y.2 = .free → sc.names.lookup y.1 = some .cell ∨ sc.names.lookup y.1 = some .free
section
variable {X : Cx} {pins : List (Addr × Obj)} {σ : L2.St} {H : Hp} {s : Shared}
theorem Lam1.has {scope : Scope} {u : Str} (L : Lam1 X.env.scope scope u) (ok : X.Ok) : ∀ y ∈ scope.names, y.2 = .free → ∃ c, X.env.cells.lookup y.1 = some c := fun y hy e =>
  (L.free y hy e).elim (fun k => ok.has _ (.inl k)) (fun k => ok.has _ (.inr k))
theorem lam1_start {A : Around} {outer : List Env} {E : XK} {scope : Scope} {f c' : Addr} {h₁ : Heap} {tk i : Nat} {u : Str} {v : V} {uv : Value} (I : Inv X pins σ H s) (L : Lam1 X.env.scope scope u) (hi : X.N[i]? = some u) (hN : X.N.Nodup) (rv : RelV v uv)
    (e0 : Env0 X.prog X.w X.K X.mg X.base A outer s H) (hd : A.handled = none) (hns : h₁.Ns s.heap.objs.size fun y => ([(u, uv)] : List (Str × Value)).reverse.lookup y) (kp : ∀ b o, s.heap.get? b = some o → h₁.get? b = some o) :
    Inv (lamCx X A outer s H E scope f c') [] (σ.set i (some v)) H { s with heap := h₁, toks := tk } := by
  have back : ∀ {y c}, (cloFrom X.env.cells scope.names []).lookup y = some c → X.env.cells.lookup y = some c := by
    intro y c e
    rcases cloFrom_mem (PySem.mem_of_lookup e) with z | ⟨h1, h2⟩
    · cases z
    · obtain ⟨c1, hc⟩ := L.has I.ok _ h1 rfl
      have hc : X.env.cells.lookup y = some c1 := hc
      have e2 : c = c1 := by rw [h2, hc] <;> rfl
      exact e2 ▸ hc
  have forth : ∀ {y}, scope.names.lookup y = some .free → ∃ c, (cloFrom X.env.cells scope.names []).lookup y = some c := by
    intro y hl
    exact mem_lookup (cloFrom_has (cells := X.env.cells) (acc := []) (PySem.mem_of_lookup hl))
  have keepC : ∀ {c : Addr} {w' : Option Value}, s.heap.IsCell c w' → h₁.IsCell c w' := fun ⟨o, ho, q⟩ => ⟨o, kp _ _ ho, q⟩
  have noE : ∀ b : Addr, b ∉ (lamCx X A outer s H E scope f c').ex := fun b z => absurd (show b ∈ ([] : List Addr) from z) (by simp)
  refine ⟨⟨e0.mod, L.kind, rfl, rfl, Nat.le_refl _, fun y z c a b => I.ok.inj y z c (back a) (back b), fun y hy => ?_, fun y c z _ => ?_, fun _ => hd, Around.frames_deeper e0.frames, .inr ⟨rfl, rfl⟩, fun b z => absurd z (noE b), e0.bs, e0.bsz, fun b _ _ => noE b,
      fun b z => absurd z (noE b), e0.funs, e0.frf⟩,
    rfl, e0.bare, Un.kept kp, ⟨_, hns, fun j y x e1 e2 e3 => ?_⟩, fun y c e => ?_, e0.hok.fresh (Nat.le_refl _), fun y c e => I.freeC y c (back e), fun q hq => absurd (show q ∈ ([] : List (Addr × Obj)) ++ [] from hq) (by simp), e0.hok.kept kp, ?_⟩
  · have hy : scope.names.lookup y = some .cell ∨ scope.names.lookup y = some .free := hy
    rcases hy with hy | hy
    · exact absurd rfl (L.nocell _ (PySem.mem_of_lookup hy))
    · exact forth hy
  · have z : false = true := z
    cases z
  · have e1 : X.N[j]? = some y := e1
    have e3 : Vis scope y := e3
    rcases e3 with k | k | k
    · have ey : y = u := L.one _ (PySem.mem_of_lookup k) rfl
      subst ey
      have ej : j = i := nodup_ix hN e1 hi
      subst ej
      have hlt : j < σ.length := by
        rw [I.len]
        exact (List.getElem?_eq_some_iff.mp hi).1
      rw [List.getElem?_set_self hlt] at e2
      cases e2
      refine ⟨uv, rv, .inl ⟨k, ?_⟩⟩
      show ([(y, uv)] : List (Str × Value)).reverse.lookup y = some uv
      simp [List.lookup]
    · exact absurd rfl (L.nocell _ (PySem.mem_of_lookup k))
    · have hne : i ≠ j := fun z => by
        subst z
        rw [hi] at e1
        cases e1
        rw [L.par] at k
        cases k
      rw [List.getElem?_set_ne hne] at e2
      obtain ⟨m, hn, hl⟩ := I.loc
      have hvis : Vis X.env.scope y := (L.free _ (PySem.mem_of_lookup k) rfl).elim (fun k => .inr (.inl k)) (fun k => .inr (.inr k))
      obtain ⟨w', r, q⟩ := hl j y x e1 e2 hvis
      obtain ⟨c2, h2⟩ := forth k
      refine ⟨w', r, .inr ⟨.inr k, c2, h2, ?_⟩⟩
      rcases q with ⟨k', _⟩ | ⟨_, c3, e', z⟩
      · have k' : X.env.scope.names.lookup y = some .local := k'
        rcases L.free _ (PySem.mem_of_lookup k) rfl with k2 | k2 <;> rw [show X.env.scope.names.lookup y = _ from k2] at k' <;> cases k'
      · rw [back h2] at e'
        cases e'
        exact keepC z
  · obtain ⟨w', z⟩ := I.cell y c (back e)
    exact ⟨w', keepC z⟩
  · show (σ.set i (some v)).length = X.N.length
    rw [List.length_set]
    exact I.len
theorem cx_false {P : Program} {w : World} {outer : List Env} {u : Value} {s s' : Shared} {H : Hp} (h : L2.CX P w outer H s (fun _ _ _ => False) u s') : False := by
  obtain ⟨_, _, _, _, _, _, _, _, _, _, _, _, z⟩ := h
  exact z
/-- the lambda is called from within a built-in -/
theorem lam1_call {scope : Scope} {params : Arguments} {body : Expr} {f c' : Addr} {pm ctv uv : Value} {u : Str} {v : V} {i k : Nat} {tb : TE} {Q : VK} (I : Inv X pins σ H s) (L : Lam1 X.env.scope scope u) (hi : X.N[i]? = some u) (hN : X.N.Nodup) (rv : RelV v uv)
    (hf : s.heap.get? f = some (PySem.W.kla_obj "<lambda>" (X.env.qual ++ "<lambda>") params body scope (cloFrom X.env.cells scope.names []) pm c' ctv)) (hc : H c' = some (CodeO c' (X.env.qual ++ "<lambda>"))) (hr : Room (k + 2) X.A)
    (hbind : bindArgs (PySem.W.kla_fn "<lambda>" (X.env.qual ++ "<lambda>") params body scope (cloFrom X.env.cells scope.names []) pm (.ref c') ctv) ⟨[uv], []⟩ = pure [(u, uv)])
    (hbody : ∀ (A : Around) (outer : List Env) (s : Shared) (H : Hp), Room k (A.deeper (lamEnv X scope s.heap.objs.size f c')) → PE (lamCx X A outer s H (fun _ _ _ => False) scope f c') body tb)
    (ht : tb (σ.set i (some v)) H Q) {E : Value → Shared → Prop} : wpAny (model X.prog X.w) X.A.in1 (call (.ref f) [uv]) (EP X pins σ Q) E s := by
  obtain ⟨⟨oc, vs, t, hoc, hdc, hvc⟩, _, _⟩ := I.hok c' _ hc
  have e0 : Env0 X.prog X.w X.K X.mg X.base X.A.in1 X.stack s H := I.env0.in1
  have rc : codeAny (model X.prog X.w) X.A.in1 (.call (.ref f) ⟨[uv], []⟩) (CR (L2.CX X.prog X.w) X.stack X.prog X.w H s Q (fun _ _ _ => False)) s := by
    refine PySem.W.kla_callFunE hr.in1.depth hf rfl L.co L.gen rfl ⟨c', oc, vs, t, rfl, hoc, hdc, hvc⟩ ?_
    rw [hbind]
    refine wpAny_pure (wpAny_newFunctionEnv L.nocell (fun y hy => ?_) (fun h₁ hns hsb => ⟨I.nolimit.fresh _ hsb, ?_⟩) L.kind)
    · have e : y = (u, uv) := by simpa using hy
      rw [e]
      exact L.par
    · have kp : ∀ b o, s.heap.get? b = some o → h₁.get? b = some o := fun b o e => hsb.extBut b o (Nat.ne_of_lt (Heap.lt_size e)) (Heap.get?_push_of_some _ e)
      have J := lam1_start (E := fun _ _ _ => False) (f := f) (c' := c') (tk := s.toks + ([(u, uv)] : List (Str × Value)).length) I L hi hN rv e0 hr.in1.hd hns kp
      refine PySem.W.kla_codeExpr (wpAny_mono ((hbody _ _ s H (hr.in1.deeper _)).run [] _ _ H Q J ht) (fun z s' hq => ?_) fun e s' hq => hq)
      obtain ⟨w', H', J', rz, q⟩ := hq
      exact ⟨w', H', J'.os, J'.bare, J'.base, J'.hok, rz, q⟩
  refine wpAny_call (codeAny_mono rc fun r s' hq => ?_)
  cases r with
  | error e => exact (cx_false hq).elim
  | ok fl =>
    cases fl with
    | ret z => exact I.after hq
    | next => exact False.elim hq
    | brk => exact False.elim hq
    | cont => exact False.elim hq
end
section
variable {X : Cx} {pins : List (Addr × Obj)} {σ : L2.St} {H : Hp} {s : Shared}
/-- a pinned record of ours is written -/
theorem repin {a : Addr} {o o' : Obj} {h' : Heap} {t' : Nat} (I : Inv X ((a, o) :: pins) σ H s) (k : ∀ b u, b ≠ a → s.heap.get? b = some u → h'.get? b = some u) (ha : h'.get? a = some o') (h0 : X.s_0.heap.objs.size ≤ a) (hne : ∀ p ∈ X.pn ++ pins, p.1 ≠ a) (hd : ∀ v, o'.data ≠ .cell v) :
    Inv X ((a, o') :: pins) σ H { s with heap := h', toks := t' } := by
  obtain ⟨g1, g2, g3, g4, g5⟩ := I.pin (a, o) (List.mem_append_right _ List.mem_cons_self)
  have J : Inv X pins σ H s := I.pins_of fun p hp => I.pin p (List.mem_append_right _ (List.mem_cons_of_mem _ hp))
  have J2 := J.turned (t' := t') k g2 g3 (.inr h0) (fun x c e z => by
    obtain ⟨v, ob, ho, hc⟩ := J.cell x c e
    rw [z, g1] at ho
    cases ho
    exact g5 v hc) hne
  refine J2.pins_of fun p hp => ?_
  rcases List.mem_cons.mp hp with rfl | hp
  · exact ⟨ha, g2, g3, g4, hd⟩
  · exact J2.pin p (List.mem_append_right _ hp)
theorem swap_pins {p q : Addr × Obj} (I : Inv X (p :: q :: pins) σ H s) : Inv X (q :: p :: pins) σ H s := I.pins_of fun r hr => I.pin r (List.mem_append_right _ (by
  rcases List.mem_cons.mp hr with rfl | hr
  · simp
  · rcases List.mem_cons.mp hr with rfl | hr
    · simp
    · simp [hr]))
theorem drop_pin {p : Addr × Obj} (I : Inv X (p :: pins) σ H s) : Inv X pins σ H s := I.pins_of fun r hr => I.pin r (List.mem_append_right _ (List.mem_cons_of_mem _ hr))
/-- the first greatest of some numbers -/
def FirstMax (ks : List Int) (i : Nat) : Prop := ∃ n, ks[i]? = some n ∧ ∀ (j : Nat) (m : Int), ks[j]? = some m → m ≤ n ∧ (j < i → m < n)
theorem max_loop {xs : List V} {ks : List Int} {l q S J : Addr} {oq : Obj} {R : Result → Shared → Prop} (hh : X.A.handled = none) (hl : H l = some (.lst xs)) (hk : ks.length = xs.length)
    (hJ0 : X.s_0.heap.objs.size ≤ J) (hS0 : X.s_0.heap.objs.size ≤ S) (hSJ : S ≠ J) (hpJ : ∀ p ∈ X.pn ++ ((q, oq) :: pins), p.1 ≠ J) (hpS : ∀ p ∈ X.pn ++ ((q, oq) :: pins), p.1 ≠ S)
    (turn : ∀ (pins' : List (Addr × Obj)) (s : Shared) (i : Nat) (v : V) (u : Value) (n : Int), (q, oq) ∈ pins' → Inv X pins' σ H s → xs[i]? = some v → RelV v u → ks[i]? = some n →
      wpAny (model X.prog X.w) X.A.in1 (call (.ref q) [u]) (EP X pins' σ fun x H' => x = .int n ∧ H' = H) (fun _ _ => False) s)
    (hR : ∀ (s : Shared) (i : Nat) (v : V) (u : Value), Inv X pins σ H s → xs[i]? = some v → RelV v u → FirstMax ks i → R (.ok (.ret u)) s) :
    ∀ (r j i : Nat) (s : Shared) (v : V) (vb : Value) (n : Int) (tb : Tok) (c : Nat) (oJ : Obj), xs.length - (j + 1) = r → j + 1 ≤ xs.length → Inv X ((S, seqObj "list" #[vb, .int n tb] c) :: (J, oJ) :: (q, oq) :: pins) σ H s →
      oJ.cls = .type "list_iterator" → (∀ h : Heap, h.get? J = some oJ → h.IsListIter J l (j + 1)) → xs[i]? = some v → RelV v vb → ks[i]? = some n → i ≤ j → (∀ (j' : Nat) (m : Int), j' ≤ j → ks[j']? = some m → m ≤ n ∧ (j' < i → m < n)) →
      codeAny (model X.prog X.w) X.A (.builtin "max.loop" ⟨[.ref J, .ref q, .ref S], []⟩) R s := by
  have nm : (toString "max" ++ toString ".loop" : String) = "max.loop" := by decide
  have mem2 : ∀ {o : Obj} (p : Addr × Obj), p ∈ X.pn ++ ((J, o) :: (q, oq) :: pins) → p.1 ≠ S := fun p hp => by
    rcases List.mem_append.mp hp with z | z
    · exact hpS p (List.mem_append_left _ z)
    · rcases List.mem_cons.mp z with rfl | z
      · exact Ne.symm hSJ
      · exact hpS p (List.mem_append_right _ z)
  have mem1 : ∀ {o : Obj} (p : Addr × Obj), p ∈ X.pn ++ ((S, o) :: (q, oq) :: pins) → p.1 ≠ J := fun p hp => by
    rcases List.mem_append.mp hp with z | z
    · exact hpJ p (List.mem_append_left _ z)
    · rcases List.mem_cons.mp z with rfl | z
      · exact hSJ
      · exact hpJ p (List.mem_append_right _ z)
  intro r
  induction r with
  | zero =>
    intro j i s v vb n tb c oJ hr hj I hcl hit hv rv hn hij hbest
    have hin : j + 1 = xs.length := by omega
    obtain ⟨s1, _⟩ := I.pin (S, seqObj "list" #[vb, .int n tb] c) (by simp)
    obtain ⟨j1, j2, _⟩ := I.pin (J, oJ) (by simp)
    obtain ⟨_, its, nn, rs, hob⟩ := I.hok l _ hl
    have hlJ : l ≠ J := ne_of_none hl j2
    have W := Walks.list (prog := X.prog) (w := X.w) (A := X.A.in1) hh J l hlJ its.toArray
    have hsz : its.toArray.size = xs.length := by rw [List.size_toArray]; exact rs.length.symm
    refine codeAny_builtin PySem.F.entry_max_loop ?_
    rw [Around.under_plainId PySem.F.plain_max_loop _]
    show wpAny _ X.A.in1 (seqItems? (.ref S) >>= _) _ _ _
    refine wpAny_bind (wpAny_seqItems s1 rfl ?_)
    show wpAny _ X.A.in1 (tryCatch (pyNext (.ref J)) _ >>= _) _ _ _
    refine wpAny_bind (wpAny_tryCatch (W.done _ _ _ ⟨by rw [hsz, ← hin]; exact hit _ j1, ⟨_, hob, rfl, _, rfl⟩⟩ fun h' tk' hk' => ?_))
    have I1 : Inv X ((q, oq) :: (S, seqObj "list" #[vb, .int n tb] c) :: pins) σ H { s with heap := h', toks := tk' } := by
      have I0 := swap_pins I
      have I0 : Inv X ((S, seqObj "list" #[vb, .int n tb] c) :: (q, oq) :: pins) σ H s := drop_pin I0
      have z := I0.turned (t' := tk') (h' := h') (it := J) (fun b o hb e => hk' b o (by simpa using hb) e) j2 (I.pin (J, oJ) (by simp)).2.2.1 (.inr hJ0) (fun x c e z => by
        obtain ⟨w', ob, ho, hc⟩ := I.cell x c e
        rw [z, j1] at ho
        cases ho
        exact (I.pin (J, oJ) (by simp)).2.2.2.2 w' hc) mem1
      exact swap_pins z
    have hS' := (I1.pin (S, seqObj "list" #[vb, .int n tb] c) (by simp)).1
    show wpAny _ X.A.in1 (updateSeq S (fun _ => #[]) >>= _) _ _ _
    refine wpAny_bind ?_
    refine wpAny_updateSeq hS' rfl (wpAny_bind (wpAny_letGo (wpAny_pure ?_)))
    have s2 := Heap.SameBut.update h' S (Obj.mapSeq fun _ => (#[] : Array Value))
    have I2 := repin (t' := tk') (o' := seqObj "list" #[] (if ((#[] : Array Value)).size == (#[vb, .int n tb] : Array Value).size then c else c + 1)) (swap_pins I1) (fun b u hb e => s2.extBut b u hb e) (get?_update_seq hS' fun _ => #[]) hS0 (fun p hp => hpS p hp) (fun v z => by cases z)
    refine hR _ i v vb (drop_pin (drop_pin I2)) hv rv ⟨n, hn, fun j' m hm => ?_⟩
    have hjl := (List.getElem?_eq_some_iff.mp hm).1
    exact hbest j' m (by omega) hm
  | succ r ih =>
    intro j i s v vb n tb c oJ hr hj I hcl hit hv rv hn hij hbest
    have hlt : j + 1 < xs.length := by omega
    obtain ⟨s1, _⟩ := I.pin (S, seqObj "list" #[vb, .int n tb] c) (by simp)
    obtain ⟨j1, j2, _⟩ := I.pin (J, oJ) (by simp)
    obtain ⟨_, its, nn, rs, hob⟩ := I.hok l _ hl
    have hlJ : l ≠ J := ne_of_none hl j2
    have W := Walks.list (prog := X.prog) (w := X.w) (A := X.A.in1) hh J l hlJ its.toArray
    have hsz : its.toArray.size = xs.length := by rw [List.size_toArray]; exact rs.length.symm
    refine codeAny_builtin PySem.F.entry_max_loop ?_
    rw [Around.under_plainId PySem.F.plain_max_loop _]
    show wpAny _ X.A.in1 (seqItems? (.ref S) >>= _) _ _ _
    refine wpAny_bind (wpAny_seqItems s1 rfl ?_)
    show wpAny _ X.A.in1 (tryCatch (pyNext (.ref J)) _ >>= _) _ _ _
    refine wpAny_bind (wpAny_tryCatch (W.item (j + 1) _ _ _ (by rw [hsz]; exact hlt) ⟨hit _ j1, ⟨_, hob, rfl, _, rfl⟩⟩ fun u h' tk' hP hst hk' => ?_))
    have hu : its[j + 1]? = some u := by simpa using hP
    obtain ⟨oJ', hoJ, hoc, hod⟩ := id hst.1
    have I1 := repin (t' := tk') (o' := oJ') (swap_pins I) (fun b o hb e => hk' b o (by simpa using hb) e) hoJ hJ0 mem1 (fun v z => by rw [hod] at z; cases z)
    obtain ⟨x, hx⟩ : ∃ x, xs[j + 1]? = some x := ⟨_, List.getElem?_eq_getElem hlt⟩
    obtain ⟨u', hu', rx⟩ := rs.get hx
    rw [hu] at hu'
    cases hu'
    obtain ⟨m, hm⟩ : ∃ m, ks[j + 1]? = some m := ⟨_, List.getElem?_eq_getElem (by omega)⟩
    show wpAny _ X.A.in1 (tryCatch (holding [u] (call (.ref q) [u])) _ >>= _) _ _ _
    refine wpAny_bind (wpAny_tryCatch (wpAny_holding (wpAny_mono (turn _ _ (j + 1) x u m (by simp) I1 hx rx hm) (fun y s' he => ?_) fun _ _ hF => hF.elim)))
    obtain ⟨w', H', I2, ry, e1, e2⟩ := he
    subst e1
    subst e2
    obtain ⟨t2, rfl⟩ := ry
    have I2 := swap_pins I2
    obtain ⟨s3, _⟩ := I2.pin (S, seqObj "list" #[vb, .int n tb] c) (by simp)
    show wpAny _ X.A.in1 (tryCatch (holding [u, .int m t2] (richCompare .Gt (.int m t2) (.int n tb) >>= _)) _ >>= _) _ _ _
    refine wpAny_bind (wpAny_tryCatch (wpAny_holding (wpAny_bind (CmpOf.ints_gt (prog := X.prog) (w := X.w) (A := X.A.in1) (P := fun i v => ∃ t, v = .int (if i = 0 then m else n) t) (fun i => if i = 0 then m else n) (fun i v h => h) 0 1 _ _ _ _ _ ⟨t2, rfl⟩ ⟨tb, rfl⟩ ?_))))
    refine wpAny_bind (wpAny_holding (wpAny_truthy_bool ?_))
    refine wpAny_bind (wpAny_letGo (wpAny_pure ?_))
    by_cases hb : n < m
    · have hb1 : decide ((if (0 : Nat) = 0 then m else n) > (if (1 : Nat) = 0 then m else n)) = true := by simpa using hb
      rw [if_pos hb1]
      refine wpAny_bind ?_
      refine wpAny_updateSeq s3 rfl (wpAny_bind (wpAny_letGo ?_))
      rw [nm]
      have s4 := Heap.SameBut.update s'.heap S (Obj.mapSeq fun _ => #[u, .int m t2])
      have I3 := repin (t' := s'.toks) I2 (fun b u hb e => s4.extBut b u hb e) (get?_update_seq s3 fun _ => #[u, .int m t2]) hS0 mem2 (fun v z => by cases z)
      refine wpAny_pure ⟨plainId_quiet PySem.F.plain_max_loop _, ih (j + 1) (j + 1) _ x u m t2 _ oJ' (by omega) hlt I3 hoc (fun h e => ⟨oJ', e, hoc, hod⟩) hx rx hm (Nat.le_refl _) fun j' m' hj' hm' => ?_⟩
      by_cases e : j' = j + 1
      · subst e
        rw [hm] at hm'
        cases hm'
        exact ⟨Int.le_refl _, fun z => absurd z (Nat.lt_irrefl _)⟩
      · obtain ⟨z1, z2⟩ := hbest j' m' (by omega) hm'
        exact ⟨by omega, fun _ => by omega⟩
    · have hb1 : decide ((if (0 : Nat) = 0 then m else n) > (if (1 : Nat) = 0 then m else n)) = false := by simpa using hb
      rw [if_neg (fun z => Bool.noConfusion (hb1.symm.trans z))]
      refine wpAny_bind (wpAny_letGo ?_)
      rw [nm]
      refine wpAny_pure ⟨plainId_quiet PySem.F.plain_max_loop _, ih (j + 1) i _ v vb n tb _ oJ' (by omega) hlt I2 hoc (fun h e => ⟨oJ', e, hoc, hod⟩) hv rv hn (by omega) fun j' m' hj' hm' => ?_⟩
      by_cases e : j' = j + 1
      · subst e
        rw [hm] at hm'
        cases hm'
        exact ⟨by omega, fun z => by omega⟩
      · exact hbest j' m' (by omega) hm'
end
section
variable {X : Cx} {pins : List (Addr × Obj)} {σ : L2.St} {H : Hp} {s : Shared}
theorem call_maxKey {xs : List V} {ks : List Int} {l q : Addr} {oq : Obj} {Q : VK} {E : Value → Shared → Prop} (I : Inv X ((q, oq) :: pins) σ H s) (hh : X.A.handled = none) (hl : H l = some (.lst xs)) (hne : xs ≠ []) (hk : ks.length = xs.length)
    (turn : ∀ (pins' : List (Addr × Obj)) (s : Shared) (i : Nat) (v : V) (u : Value) (n : Int), (q, oq) ∈ pins' → Inv X pins' σ H s → xs[i]? = some v → RelV v u → ks[i]? = some n →
      wpAny (model X.prog X.w) X.A.in1 (call (.ref q) [u]) (EP X pins' σ fun x H' => x = .int n ∧ H' = H) (fun _ _ => False) s)
    (hQ : ∀ (i : Nat) (v : V), xs[i]? = some v → FirstMax ks i → Q v H) : wpAny (model X.prog X.w) X.A (call (.builtin "max") [.ref l] [(Str.ofString "key", .ref q)]) (EP X pins σ Q) E s := by
  have nm : (toString "max" ++ toString ".loop" : String) = "max.loop" := by decide
  have pos := List.length_pos_iff.mpr hne
  obtain ⟨_, its, nn, rs, hob⟩ := I.hok l _ hl
  refine PyProof.Rows.kmk_tree PySem.F.kind_max PySem.F.plain_max PySem.F.entry_max (PyProof.Rows.kmk_max_key _ _) ?_
  show wpAny _ X.A.in1 (Builtin.Builtins.bindParams "max" ["key", "default"] 0 ⟨[], [(Str.ofString "key", .ref q)]⟩ >>= _) _ _ s
  refine wpAny_bind (wpAny_of_eq (show Builtin.Builtins.bindParams "max" ["key", "default"] 0 ⟨[], [(Str.ofString "key", .ref q)]⟩ = pure [some (.ref q), none] from rfl) ?_)
  refine wpAny_bind (wpAny_pure ?_)
  refine wpAny_bind (wpAny_pyIter_list ⟨_, hob, rfl, _, rfl⟩ ?_)
  refine wpAny_bind (wpAny_newList ?_ (Nat.zero_le _))
  rw [nm]
  obtain ⟨J, eJ⟩ : ∃ J, J = s.heap.objs.size := ⟨_, rfl⟩
  obtain ⟨h1, eh1⟩ : ∃ h1, h1 = s.heap.push { cls := .type "list_iterator", data := .fields #[.ref l, .int 0 0] } := ⟨_, rfl⟩
  have hS : h1.objs.size = J + 1 := by rw [eh1, eJ]; exact size_push' ..
  rw [← eh1, ← eJ]
  obtain ⟨h2, eh2⟩ : ∃ h2, h2 = h1.push { cls := .type "list", data := .seq ([] : List Value).toArray } := ⟨_, rfl⟩
  rw [← eh2, hS]
  have kp : ∀ b o, s.heap.get? b = some o → h2.get? b = some o := fun b o e => by
    rw [eh2, eh1]
    exact Heap.get?_push_of_some _ (Heap.get?_push_of_some _ e)
  have gJ : h2.get? J = some { cls := .type "list_iterator", data := .fields #[.ref l, .int 0 0] } := by
    rw [eh2, eh1, eJ]
    exact Heap.get?_push_of_some _ (Heap.get?_push_size _ rfl)
  have gS : h2.get? (J + 1) = some (seqObj "list" #[] 0) := by
    rw [eh2, ← hS]
    exact Heap.get?_push_size _ rfl
  have I1 : Inv X ((q, oq) :: pins) σ H { s with heap := h2 } := I.kept (t' := s.toks) kp
  have sz : X.s_0.heap.objs.size ≤ J := eJ ▸ I.sz
  have pl : ∀ p ∈ X.pn ++ ((q, oq) :: pins), p.1 < J := fun p hp => eJ ▸ Heap.lt_size (I.pin p hp).1
  have pJ : ∀ p ∈ X.pn ++ ((q, oq) :: pins), p.1 ≠ J := fun p hp => Nat.ne_of_lt (pl p hp)
  have pS : ∀ p ∈ X.pn ++ ((q, oq) :: pins), p.1 ≠ J + 1 := fun p hp => Nat.ne_of_lt (Nat.lt_succ_of_lt (pl p hp))
  have nJ : H J = none := I.hok.fresh (by rw [eJ]; exact Nat.le_refl _)
  have nS : H (J + 1) = none := I.hok.fresh (by rw [eJ]; exact Nat.le_succ _)
  have Lt : X.env.locals < J := eJ ▸ I.lt
  have I2 : Inv X ((J + 1, seqObj "list" #[] 0) :: (J, { cls := .type "list_iterator", data := .fields #[.ref l, .int 0 0] }) :: (q, oq) :: pins) σ H { s with heap := h2 } := I1.pins_of fun p hp => by
    rcases List.mem_cons.mp hp with rfl | hp
    · exact ⟨gS, nS, Nat.ne_of_gt (Nat.lt_succ_of_lt Lt), I.nofs (by rw [eJ]; exact Nat.le_succ _), fun v z => by cases z⟩
    · rcases List.mem_cons.mp hp with rfl | hp
      · exact ⟨gJ, nJ, Nat.ne_of_gt Lt, I.nofs (by rw [eJ]; exact Nat.le_refl _), fun v z => by cases z⟩
      · exact I1.pin p (List.mem_append_right _ hp)
  refine wpAny_pure ⟨plainId_quiet PySem.F.plain_max_loop _, ?_⟩
  have hlJ : l ≠ J := ne_of_none hl nJ
  have W := Walks.list (prog := X.prog) (w := X.w) (A := X.A.in1) hh J l hlJ its.toArray
  have hsz : its.toArray.size = xs.length := by rw [List.size_toArray]; exact rs.length.symm
  refine codeAny_builtin PySem.F.entry_max_loop ?_
  rw [Around.under_plainId PySem.F.plain_max_loop _]
  show wpAny _ X.A.in1 (seqItems? (.ref (J + 1)) >>= _) _ _ _
  refine wpAny_bind (wpAny_seqItems gS rfl ?_)
  show wpAny _ X.A.in1 (tryCatch (pyNext (.ref J)) _ >>= _) _ _ _
  refine wpAny_bind (wpAny_tryCatch (W.item 0 _ _ _ (by rw [hsz]; exact pos) ⟨⟨_, gJ, rfl, rfl⟩, ⟨_, kp _ _ hob, rfl, _, rfl⟩⟩ fun u h' tk' hP hst hk' => ?_))
  have hu : its[0]? = some u := by simpa using hP
  obtain ⟨oJ', hoJ, hoc, hod⟩ := id hst.1
  have m1 : ∀ {o : Obj} (p : Addr × Obj), p ∈ X.pn ++ ((J + 1, o) :: (q, oq) :: pins) → p.1 ≠ J := fun p hp => by
    rcases List.mem_append.mp hp with z | z
    · exact pJ p (List.mem_append_left _ z)
    · rcases List.mem_cons.mp z with rfl | z
      · exact Nat.succ_ne_self J
      · exact pJ p (List.mem_append_right _ z)
  have m2 : ∀ {o : Obj} (p : Addr × Obj), p ∈ X.pn ++ ((J, o) :: (q, oq) :: pins) → p.1 ≠ J + 1 := fun p hp => by
    rcases List.mem_append.mp hp with z | z
    · exact pS p (List.mem_append_left _ z)
    · rcases List.mem_cons.mp z with rfl | z
      · exact Ne.symm (Nat.succ_ne_self J)
      · exact pS p (List.mem_append_right _ z)
  have I3 := repin (t' := tk') (o' := oJ') (swap_pins I2) (fun b o hb e => hk' b o (by simpa using hb) e) hoJ sz m1 (fun v z => by rw [hod] at z; cases z)
  obtain ⟨x, hx⟩ : ∃ x, xs[0]? = some x := ⟨_, List.getElem?_eq_getElem pos⟩
  obtain ⟨u', hu', rx⟩ := rs.get hx
  rw [hu] at hu'
  cases hu'
  obtain ⟨m, hm⟩ : ∃ m, ks[0]? = some m := ⟨_, List.getElem?_eq_getElem (by omega)⟩
  show wpAny _ X.A.in1 (tryCatch (holding [u] (call (.ref q) [u])) _ >>= _) _ _ _
  refine wpAny_bind (wpAny_tryCatch (wpAny_holding (wpAny_mono (turn _ _ 0 x u m (by simp) I3 hx rx hm) (fun y s' he => ?_) fun _ _ hF => hF.elim)))
  obtain ⟨w', H', I4, ry, e1, e2⟩ := he
  subst e1
  subst e2
  obtain ⟨t2, rfl⟩ := ry
  have I4 := swap_pins I4
  obtain ⟨s3, _⟩ := I4.pin (J + 1, seqObj "list" #[] 0) (by simp)
  show wpAny _ X.A.in1 (updateSeq (J + 1) (fun _ => #[u, .int m t2]) >>= _) _ _ _
  refine wpAny_bind ?_
  refine wpAny_updateSeq s3 rfl ?_
  rw [nm]
  have s4 := Heap.SameBut.update s'.heap (J + 1) (Obj.mapSeq fun _ => #[u, .int m t2])
  have I5 := repin (t' := s'.toks) I4 (fun b u hb e => s4.extBut b u hb e) (get?_update_seq s3 fun _ => #[u, .int m t2]) (Nat.le_succ_of_le sz) m2 (fun v z => by cases z)
  refine wpAny_pure ⟨plainId_quiet PySem.F.plain_max_loop _, max_loop (pins := pins) (q := q) (oq := oq) hh hl hk sz (Nat.le_succ_of_le sz) (Nat.succ_ne_self J) pJ pS turn (fun s i v u I hv rv hf => ⟨v, H', I, rv, hQ i v hv hf⟩) _ 0 0 _ x u m t2 _ oJ' rfl pos I5 hoc (fun h e => ⟨oJ', e, hoc, hod⟩) hx rx hm (Nat.le_refl _) fun j' m' hj' hm' => ?_⟩
  have e : j' = 0 := by omega
  subst e
  rw [hm] at hm'
  cases hm'
  exact ⟨Int.le_refl _, fun z => absurd z (Nat.lt_irrefl _)⟩
/-- max(e, key=lambda u: body): the first item with the greatest key -/
def pMaxL (T : List (Addr × Str)) (tb : TE) (i : Nat) (σ : L2.St) (Q : VK) (x : V) (H1 : Hp) : Prop := ∃ (l : Addr) (xs : List V) (ks : List Int), x = .ref l ∧ H1 l = some (.lst xs) ∧ xs ≠ [] ∧ ks.length = xs.length ∧ Tabs T H1 ∧
  ∀ H2, ExtN H1 H2 → Tabs T H2 → (∀ (j : Nat) (v : V) (n : Int), xs[j]? = some v → ks[j]? = some n → tb (σ.set i (some v)) H2 fun y H3 => y = .int n ∧ H3 = H2) ∧ ∀ (j : Nat) (v : V), xs[j]? = some v → FirstMax ks j → Q v H2
def tMaxL (T : List (Addr × Str)) (te tb : TE) (i : Nat) : TE := fun σ H Q => te σ H (pMaxL T tb i σ Q)
theorem pe_maxLam {T : List (Addr × Str)} {c P : Addr} {e : Expr} {te tb : TE} {params : Arguments} {body : Expr} {scope : Scope} {p lpos kpos pos : Pos} {u : Str} {i k : Nat} (hcalm : X.calm = true) (hg : Gl X "max") (hm : X.mg "max" = none) (ha : PA X [e] (tCons te tNil))
    (TB : TabB X.base X.mg c P) (hcode : X.env.code = .ref c) (hmT : (P, X.env.qual ++ "<lambda>") ∈ T) (hu : ∀ p ∈ T, p.1 = P → p.2 = X.env.qual ++ "<lambda>") (hr : Room (k + 2) X.A) (L : Lam1 X.env.scope scope u) (hi : X.N[i]? = some u) (hN : X.N.Nodup)
    (hdef : defaultsOf params X.env = ([], []))
    (hbind : ∀ (q : Str) (cl : List (Str × Addr)) (pm cv ctv v : Value), bindArgs (PySem.W.kla_fn "<lambda>" q params body scope cl pm cv ctv) ⟨[v], []⟩ = pure [(u, v)])
    (hbody : ∀ (A : Around) (outer : List Env) (s : Shared) (H : Hp) (f c' : Addr), Room k (A.deeper (lamEnv X scope s.heap.objs.size f c')) → PE (lamCx X A outer s H (fun _ _ _ => False) scope f c') body tb)
    (hs : backTo pos (starEach [e] X.env) = (false, eval e X.env) :: backTo pos (starEach [] X.env) := by rfl) (hpl : (backTo pos (starEach [e] X.env)).any (·.1) = false := by rfl) :
    PE X (.Call (.Name "max" p) [e] [⟨some "key", .Lambda params body scope lpos, kpos⟩] pos) (tMaxL T te tb i) := by
  refine ⟨fun pins s σ H Q I h => ?_⟩
  refine wpAny_Call_Name_kw (ld_blt (u := .builtin "max") I hg hm (by decide +kernel) ?_ (by decide) (by decide))
  refine PyProof.Rows.callWith_kw (thn (ha.run pos pins s σ H (fun vs H1 => pMaxL T tb i σ Q (vs.headD .non) H1 ∧ vs.length = 1) I ?_) fun us s1 ⟨vs, H1, I1, r1, q1, q2⟩ => ?_) hs hpl (by rfl) (by rfl)
  · show te σ H fun x H1 => pMaxL T tb i σ Q x H1 ∧ 1 = 1
    have z : (fun x H1 => pMaxL T tb i σ Q x H1 ∧ 1 = 1) = pMaxL T tb i σ Q := by
      funext x H1
      simp
    rw [z]
    exact h
  · cases r1 with
    | nil => cases q2
    | cons r r' =>
      cases r' with
      | cons _ _ => cases q2
      | nil =>
        obtain ⟨l, xs, ks, ex, hl, hne, hk, hT, q⟩ := q1
        have ex : _ = V.ref l := ex
        subst ex
        obtain rfl := (show _ = Value.ref l from r)
        show wpAny _ _ (evalAll [do let v ← eval (.Lambda params body scope lpos) X.env; standAt pos; pure v]) _ _ _
        refine wpAny_evalAll_cons (wpAny_bind (lam_make2 I1 TB hcode hmT hu hT hdef (L.has I1.ok) fun f c' pm ctv H2 s2 I2 eN T2 hf hfn hfr hco => wpAny_bind (wpAny_standAt (wpAny_pure (wpAny_evalAll_nil ?_)))))
        obtain ⟨q1, q2⟩ := q H2 eN T2
        have hl2 : H2 l = some (.lst xs) := eN _ _ hl (fun ps z => by cases z)
        have I3 : Inv X ((f, PySem.W.kla_obj "<lambda>" (X.env.qual ++ "<lambda>") params body scope (cloFrom X.env.cells scope.names []) pm c' ctv) :: pins) σ H2 s2 := I2.pins_of fun p hp => by
          rcases List.mem_cons.mp hp with rfl | hp
          · refine ⟨hf, hfn, fun z => ?_, fun z => ?_, fun v z => by cases z⟩
            · obtain ⟨m, ⟨o, es, ep, ho, hd, _⟩, _⟩ := I2.loc
              have z : f = X.env.locals := z
              rw [← z, hf] at ho
              cases ho
              cases hd
            · rcases I2.ok.stk with e' | ⟨e', _⟩
              · exact hfr (by rw [e']; exact z)
              · refine hfr ?_
                rw [e']
                unfold frs
                rw [List.filterMap_cons]
                split
                · exact z
                · exact List.mem_cons_of_mem _ z
          · exact I2.pin p (List.mem_append_right _ hp)
        refine call_maxKey I3 (I2.ok.hd hcalm) hl2 hne hk (fun pins' s i' v u' n hq J hv rv hn => ?_) q2
        have hc2 := hco
        exact thn (lam1_call (Q := fun y H3 => y = .int n ∧ H3 = H2) J L hi hN rv (J.pin _ (List.mem_append_right _ hq)).1 hc2 hr (hbind _ _ _ _ _ _) (fun A outer s H => hbody A outer s H f c') (q1 i' v n hv hn)) fun a s hq => hq
end
/-! ### a def whose code object is known -/
def CodeIs (K : PySem.W.Frag) (f c : Addr) : Prop := ∀ (oc : Value) (od : Option Addr) (fd : FuncData) (osl : Array (Option Value)), K.lookup f = some ⟨oc, od, .func fd, osl⟩ → fd.code = .ref c
section
variable {P : Program} {w : World} {K : PySem.W.Frag} {mg : Str → Option Value} {base : Heap} {CX : CXT} {k : Nat} {f c : Addr} {fd : FuncData} {ps N : List Str} {sp : Sp} {x qual : Str} {params : Arguments} {body : List Stmt} {scope : Scope} {dvs : List V} {kws : List (Str × V)}
theorem okC (F : FunD K x qual params body scope dvs kws f fd) (S : FnScope N ps scope) (hc : CodeIs K f c) (len : ∀ vs H Q E, sp vs H Q E → vs.length = ps.length)
    (hbody : ∀ (A : Around) (outer : List Env) (s : Shared) (H : Hp) (vs : List V) (Q : VK) (E : XK), Room k (A.deeper (envOfC qual scope s.heap.objs.size f (.ref c))) → sp vs H Q E →
      ∃ t, PSs (cxOf CX P w K mg base N qual scope f (.ref c) A outer s H E) body t ∧ t { nx := fun _ H' => Q .non H', rt := Q } (L2.start N vs) H) : FnOk P w K mg base CX (k + 1) f fd ps sp := by
  obtain ⟨oc, od, dV, kV, doc, pm, an, cdv, ct, osl, rfl, lk, hcd, _, _⟩ := F.ex
  have e : cdv = .ref c := hc _ _ _ _ lk
  subst e
  refine ⟨len, fun A outer s H args us vs Q E hr e0 hb rel hsp => ?_⟩
  exact run_ofS lk hcd S hr e0 hb rel (len _ _ _ _ hsp) fun hr' => hbody A outer s H vs Q E hr' hsp
end
end WkL
namespace WkJ
open PySem PySem.Spec PyProof.Rows L2 LamX
/-! ### defs by where they lie -/
abbrev FnA : Type := Option (Str × Str × Arguments × FuncBody × Scope × Addr × List Str × Addr)
def fnA (K : PySem.W.Frag) (a : Addr) : FnA := match K.lookup a with
  | some ⟨_, _, .func fd, _⟩ => some (fd.name, fd.qualname, fd.params, fd.body, fd.scope, fd.globals, fd.closure.map (·.1), fd.builtins)
  | _ => none
structure DefA where
  at_ : PySem.W.Frag → Addr
  name : Str
  qual : Str
  params : Arguments
  body : List Stmt
  scope : Scope
  clo : List Str := []
  dfl : List He.Dv := []
  kwd : List (Str × He.Dv) := []
def DefA.val (d : DefA) : FnA := some (d.name, d.qual, d.params, .stmts d.body, d.scope, mainGlobals, d.clo, builtinsNs)
def DefA.dvs (K : PySem.W.Frag) (d : DefA) : List V := d.dfl.map (He.Dv.v K)
def DefA.kws (K : PySem.W.Frag) (d : DefA) : List (Str × V) := d.kwd.map fun q => (q.1, q.2.v K)
def DefA.ok (K : PySem.W.Frag) (d : DefA) : Bool := PySem.W.keepIn K (.ref (d.at_ K)) && (match K.lookup (d.at_ K) with
  | some ⟨_, _, .func fd, _⟩ => PySem.W.codeIn K fd.code d.qual && (He.dflB K fd.defaults (d.dvs K) && He.kwdB K fd.kwdefaults (d.kws K))
  | _ => false)
/-- such a def, its closure told -/
structure FunC (K : PySem.W.Frag) (d : DefA) (fd : FuncData) : Prop where
  ex : ∃ (oc : Value) (od : Option Addr) (dV kV doc pm : Value) (an : Option Addr) (cdv ct : Value) (osl : Array (Option Value)) (cl : List (Str × Addr)),
    fd = ⟨d.name, d.qual, d.params, .stmts d.body, d.scope, mainGlobals, cl, dV, kV, doc, pm, an, cdv, ct, builtinsNs⟩ ∧ cl.map (·.1) = d.clo ∧ K.lookup (d.at_ K) = some ⟨oc, od, .func fd, osl⟩ ∧ PySem.W.codeIn K cdv d.qual = true ∧ DflV K dV (d.dvs K) ∧ KwdV K kV (d.kws K)
  kp : PySem.W.keepIn K (.ref (d.at_ K)) = true
theorem DefA.funC {K : PySem.W.Frag} {d : DefA} (e : fnA K (d.at_ K) = d.val) (c : d.ok K = true) : ∃ fd, FunC K d fd := by
  obtain ⟨kp, c2⟩ := He.ba c
  unfold fnA at e
  cases q : K.lookup (d.at_ K) with
  | none =>
    rw [q] at c2
    cases c2
  | some o =>
    obtain ⟨oc, od, dt, osl⟩ := o
    rw [q] at c2 e
    cases dt with
    | func fd =>
      obtain ⟨n1, n2, n3, n4, n5, n6, n7, n8, n9, n10, n11, n12, n13, n14, n15⟩ := fd
      have e2 : (some (n1, n2, n3, n4, n5, n6, n7.map (·.1), n15) : FnA) = some (d.name, d.qual, d.params, .stmts d.body, d.scope, mainGlobals, d.clo, builtinsNs) := e
      simp only [Option.some.injEq, Prod.mk.injEq] at e2
      obtain ⟨h1, h2, h3, h4, h5, h6, h7, h8⟩ := e2
      subst h1 h2 h3 h4 h5 h6 h8
      have c3 : (PySem.W.codeIn K n13 d.qual && (He.dflB K n8 (d.dvs K) && He.kwdB K n9 (d.kws K))) = true := c2
      obtain ⟨k1, k2⟩ := He.ba c3
      obtain ⟨k3, k4⟩ := He.ba k2
      exact ⟨_, ⟨oc, od, n8, n9, n10, n11, n12, n13, n14, osl, n7, rfl, h7, q, k1, He.dflB_ok k3, He.kwdB_ok k4⟩, kp⟩
    | _ => cases c2
theorem FunC.funD {K : PySem.W.Frag} {d : DefA} {fd : FuncData} (h : FunC K d fd) (hc : d.clo = []) : FunD K d.name d.qual d.params d.body d.scope (d.dvs K) (d.kws K) (d.at_ K) fd := by
  obtain ⟨oc, od, dV, kV, doc, pm, an, cdv, ct, osl, cl, rfl, e, lk, cd, h1, h2⟩ := h.ex
  rw [hc] at e
  have e := List.map_eq_nil_iff.mp e
  subst e
  exact ⟨⟨oc, od, dV, kV, doc, pm, an, cdv, ct, osl, rfl, lk, cd, h1, h2⟩, h.kp⟩
/-! ### the hook -/
structure Says (fa : List He.Fa) (da : List DefA) (tf : List He.Defn) (ex : PySem.W.Frag → Bool) (h : Heap) (K : PySem.W.Frag) : Prop where
  fact : ∀ f ∈ fa, f.ok K = true
  defs : ∀ d ∈ da, ∃ fd, FunC K d fd
  ex : ex K = true
  hd : ∀ p ∈ tf, PySem.W.codeHdIn K (He.cT K p).1 (He.cT K p).2 = true
  out : ∀ p ∈ tf, K.lookup (He.cT K p).2 = none
  emp : ∀ p ∈ tf, h.get? (He.cT K p).2 = some { cls := .none, data := .fields #[] }
abbrev Al : Type := Bool × List FnA
/-! ### facts of classes -/
def conB (K : PySem.W.Frag) (C : Addr) (f : Str) (i : Int) : Bool := match PySem.W.findIn K (.ref C) f with
  | some (some (.int j t)) => decide (j = i) && He.eqO (PySem.W.specialIn K (.int j t) "__get__") (some none)
  | _ => false
theorem conB_ok {K : PySem.W.Frag} {C : Addr} {f : Str} {i : Int} (h : conB K C f i = true) (hc : PySem.W.copiedNames.contains f = false := by decide +kernel) : ∃ u, Con K C f (.int i) u := by
  unfold conB at h
  split at h
  · rename_i j t e
    obtain ⟨h1, h2⟩ := He.ba h
    have ej := of_decide_eq_true h1
    subst ej
    exact ⟨_, e, ⟨t, rfl⟩, He.eqO_ok h2, hc⟩
  · cases h
/-- a property's own object, its getter -/
def prA (K : PySem.W.Frag) (C : Addr) (f : Str) : Addr := He.ma K C f
def geA (K : PySem.W.Frag) (C : Addr) (f : Str) : Addr := match PySem.W.recIn K (prA K C f) "property" with
  | some (.ref g :: _) => g
  | _ => 0
def propB (K : PySem.W.Frag) (C : Addr) (f : Str) : Bool := He.eqO (PySem.W.findIn K (.ref C) f) (some (some (.ref (prA K C f)))) && (He.eqO (PySem.W.specialIn K (.ref (prA K C f)) "__get__") (some (some (.builtin "property.__get__"))) && (decide (PySem.W.takesIn K (.ref (prA K C f)) = some true) &&
  (match PySem.W.recIn K (prA K C f) "property" with
  | some (.ref _ :: _) => true
  | _ => false)))
theorem propB_ok {K : PySem.W.Frag} {C : Addr} {f : Str} (h : propB K C f = true) : PropOf K C f (prA K C f) (geA K C f) := by
  obtain ⟨h1, h⟩ := He.ba h
  obtain ⟨h2, h⟩ := He.ba h
  obtain ⟨h3, h4⟩ := He.ba h
  refine ⟨He.eqO_ok h1, He.eqO_ok h2, of_decide_eq_true h3, ?_⟩
  unfold geA
  split at h4
  · rename_i g r e
    rw [e]
    exact ⟨r, rfl⟩
  · cases h4
/-- a method that says super() -/
def supB (P : Program) (K : PySem.W.Frag) (D : Addr) (f : Addr) : Bool := match K.lookup f with
  | some ⟨_, _, .func fd, _⟩ => (match fd.closure with
    | [(_, cc)] => (match K.lookup cc with
      | some ⟨_, _, .cell (some (.ref E)), _⟩ => decide (E = D)
      | _ => false)
    | _ => false) && (match fd.code with
    | .ref cda => (match K.lookup cda with
      | some ⟨_, _, .fields vs, _⟩ => (match (vs[2]? : Option Value) with
        | some (.str file _) => (P.main.file : Str) == file
        | _ => false)
      | _ => false)
    | _ => false)
  | _ => false
theorem supT_of {P : Program} {K : PySem.W.Frag} {mg : Str → Option Value} {ps : List Str} {D : Addr} {d : DefA} {fd : FuncData} (h : FunC K d fd) (hc : d.clo = [("__class__" : Str)]) (hb : supB P K D (d.at_ K) = true) (hD : (PySem.W.clsIn K D).isSome = true) (ns : mg "super" = none) (tp : (P.main.scope.names.lookup ("super" : Str)).isSome = false)
    (hp : ∃ ar : Arg, (d.params.posonlyargs ++ d.params.args).head? = some ar ∧ ps[0]? = some ar.arg) (na : PySem.W.nsIn K cStatics "thirdparty.any" = some none) :
    fd.body = .stmts d.body ∧ ∃ cc cda, WkS.SupT P K mg ps D (d.at_ K) cc cda d.qual d.params d.scope fd := by
  obtain ⟨oc, od, dV, kV, doc, pm, an, cdv, ct, osl, cl, rfl, e, lk, cd, h1, h2⟩ := h.ex
  refine ⟨rfl, ?_⟩
  unfold supB at hb
  rw [lk] at hb
  obtain ⟨b1, b2⟩ := He.ba hb
  rw [hc] at e
  match cl, e with
  | [(n, cc)], e =>
    have en : n = "__class__" := by simpa using e
    subst en
    have b1 : (match K.lookup cc with
      | some ⟨_, _, .cell (some (.ref E)), _⟩ => decide (E = D)
      | _ => false) = true := b1
    split at b1
    · rename_i c1 c2 E c3 ec
      have eE := of_decide_eq_true b1
      subst eE
      cases cdv with
      | ref cda =>
        have b2 : (match K.lookup cda with
          | some ⟨_, _, .fields vs, _⟩ => (match (vs[2]? : Option Value) with
            | some (.str file _) => (P.main.file : Str) == file
            | _ => false)
          | _ => false) = true := b2
        split at b2
        · rename_i f1 f2 vs f3 ef
          split at b2
          · rename_i file tf ev
            obtain ⟨cdD, hD⟩ := Option.isSome_iff_exists.mp hD
            exact ⟨cc, cda, ⟨_, _, dV, kV, doc, pm, an, ct, oc, od, osl, rfl, lk⟩, cd, ⟨f1, f2, vs, f3, file, tf, ef, ev, b2⟩, ⟨c1, c2, c3, ec⟩, ⟨cdD, hD⟩, ns, tp, hp, na⟩
          · cases b2
        · cases b2
      | _ => cases b2
    · cases b1
theorem FunC.binds {K : PySem.W.Frag} {d : DefA} {fd : FuncData} {ps : List Str} (F : FunC K d fd) (hd : d.dfl = []) (h : ∀ (kV doc pm : Value) (an : Option Addr) (cdv ct : Value) (cl : List (Str × Addr)) (us : List Value), us.length = ps.length → bindArgs ⟨d.name, d.qual, d.params, .stmts d.body, d.scope, mainGlobals, cl, .none, kV, doc, pm, an, cdv, ct, builtinsNs⟩ ⟨us, []⟩ = pure (ps.zip us)) : Binds K fd ps [] := by
  obtain ⟨oc, od, dV, kV, doc, pm, an, cdv, ct, osl, cl, rfl, e, lk, cd, h1, h2⟩ := F.ex
  unfold DefA.dvs at h1
  rw [hd] at h1
  rcases h1 with ⟨_, rfl⟩ | ⟨z, _⟩
  · exact .all (h kV doc pm an cdv ct cl)
  · exact absurd rfl z
/-- a def's code object -/
theorem codeIs_of {K : PySem.W.Frag} {p : He.Defn} : (∀ (oc : Value) (od : Option Addr) (fd : FuncData) (osl : Array (Option Value)), K.lookup (He.fAd K p) = some ⟨oc, od, .func fd, osl⟩ → PySem.W.codeIn K fd.code fd.qualname = true) → WkL.CodeIs K (He.fAd K p) (He.cT K p).1 := fun h oc od fd osl lk => by
  obtain ⟨c, ec⟩ := He.codeIn_ref (h oc od fd osl lk)
  rw [ec]
  congr 1
  exact (He.codeOf_eq lk ec).symm
end WkJ
namespace WkX
open PySem PySem.W PySem.Calls PyProof.Rows PySem.HandSPX Builtin
/-- what is asked of the list of classes behind an own exception class -/
structure Tail (B : String) (bm : List Value) : Prop where
  b : bm.contains (.type B) = true
  a : bm.contains (.type "AttributeError") = false
  n : bm.contains (.type "NameError") = false
section
variable {prog : Program} {w : World} {A : Around} {E : Value → Shared → Prop} {R : Result → Shared → Prop} {hp : Heap} {gn : Array GenState} {dr : Drawn} {tk : Nat} {os : OsState}
variable {nm qn : Str} {C N : Addr} {bs bm bmB : List Value} {hdc : Bool} {sn : List Str} {sub : List Value} {ab : Bool} {col : Option Bool} {dd : Option Addr} {k0 k1 k2 k3 k5 : Option Value} {B newId initId : String}
theorem check_new {M : Model} (F : ExcBaseFacts B newId initId bmB) (T : Tail B bm) {us : List Value} {kw : List (Str × Value)} {Q : Unit → Shared → Prop} (hC : hp.get? C = some (excClassObj nm qn C N bs bm hdc sn sub ab col dd k0 k1 k2 k3 k5 newId))
    (hq : Q () ⟨hp, gn, dr, tk, os⟩) : wpAny M A (checkBuiltinCall newId ⟨.ref C :: us, kw⟩) Q E ⟨hp, gn, dr, tk, os⟩ := by
  have c1 : (Value.ref C :: bm).contains (.type B) = true := by rw [List.contains_cons, T.b, Bool.or_true]
  have c2 := F.noStar
  simp only [checkBuiltinCall, F.newKind, F.newSplit, F.newRow]
  repeat (first | refine wpAny_loadPart_at hC ?_ | (refine wpAny_isSubtype_exc hC ?_; rw [c1]) | refine wpAny_staticBase_exc hC ?_ | refine wpAny_madeBy_exc hC ?_ | simp only [bne_self_eq_false, Bool.false_eq_true, if_false] | wp_step)
  exact hq
theorem new_ {us : List Value} {kw : List (Str × Value)} (F : ExcBaseFacts B newId initId bmB) (T : Tail B bm) (hC : hp.get? C = some (excClassObj nm qn C N bs bm hdc sn sub ab col dd k0 k1 k2 k3 k5 newId))
    (hq : R (.ok (.ret (.ref (hp.objs.size + 1)))) ⟨(hp.push (kdv_tup us)).push (excO C hp.objs.size), gn, dr, tk, os⟩) (hl : us.length ≤ sizeLine) :
    codeAny (model prog w) A (.builtin newId ⟨.ref C :: us, kw⟩) R ⟨hp, gn, dr, tk, os⟩ := by
  have c0 := F.ends
  have c1 : (Value.ref C :: bm).contains (.type B) = true := by rw [List.contains_cons, T.b, Bool.or_true]
  have c2 : (Value.ref C :: bm).contains (.type "AttributeError") = false := by rw [List.contains_cons, T.a]; rfl
  have c3 : (Value.ref C :: bm).contains (.type "NameError") = false := by rw [List.contains_cons, T.n]; rfl
  refine codeAny_builtinAt F.entry ?_
  unfold Builtin.«BaseException.__new__»
  refine PySem.wpAt_bind ?_
  show PySem.wpAt _ _ _ (stack >>= _) _ _ _
  refine PySem.wpAt_bind (PySem.wpAt_stack fun p below => PySem.wpAt_of_wpAny ?_)
  wp_walk
  refine PySem.wpAt_of_wpAny ?_
  rw [F.owner]
  repeat (first | with_reducible refine wpAny_madeHere_exc F.canon hC ?_ | with_reducible refine wpAny_loadPart_at hC ?_ | (with_reducible refine wpAny_isSubtype_exc hC ?_; first | rw [c1] | rw [c2] | rw [c3]) | wp_step)
  show R _ _
  rw [Heap.size_push]
  exact hq
theorem tcall {us : List Value} {kw : List (Str × Value)} {fI : Addr} {Q : Fin → Shared → Prop} (F : ExcBaseFacts B newId initId bmB) (T : Tail B bm) (hC : hp.get? C = some (excClassObj nm qn C N bs bm hdc sn sub ab col dd k0 k1 k2 k3 k5 newId))
    (hi : Looks (model prog w) hp (typeLookup (.ref C) "__init__") (some (.ref fI))) (hb : ∀ x, Looks (model prog w) hp (bindSpecial (.ref fI) x) (.ref fI, [x])) (hl : us.length ≤ sizeLine)
    (hq : codeAny (model prog w) A (.call (.ref fI) ⟨.ref (hp.objs.size + 1) :: us, kw⟩)
      (fun r s' => match r with | .ok (.ret v) => v = .none ∧ Q (.done (.ret (.ref (hp.objs.size + 1)))) s' | .ok _ => False | .error e => E e s') ⟨(hp.push (kdv_tup us)).push (excO C hp.objs.size), gn, dr, tk, os⟩) :
    wpAny (model prog w) A (Builtin.«type.__call__» ⟨.ref C :: us, kw⟩) Q E ⟨hp, gn, dr, tk, os⟩ := by
  repeat (first | with_reducible refine wpAny_loadPart_at hC ?_ | with_reducible refine wpAny_madeBy_exc hC ?_ | wp_step)
  refine codeAny_call_builtin_code (Code.quiet_builtin _ F.quiet) (check_new F T hC ?_)
  refine new_ F T hC ?_ hl
  show wpAny _ _ _ _ _ _
  have k : ∀ b o, hp.get? b = some o → ((hp.push (kdv_tup us)).push (excO C hp.objs.size)).get? b = some o := fun b o e => Heap.get?_push_of_some _ (Heap.get?_push_of_some _ e)
  have hC' := k _ _ hC
  have hg : ((hp.push (kdv_tup us)).push (excO C hp.objs.size)).get? (hp.objs.size + 1) = some (excO C hp.objs.size) := by heap_get
  have hcC : (Value.ref C :: bm).contains (.ref C) = true := by simp
  have i1 := hi.keeps k
  have b1 := (hb (.ref (hp.objs.size + 1))).keeps k
  unfold isInstance
  repeat (first | with_reducible refine wpAny_loadPart_at hg ?_ | (with_reducible refine wpAny_isSubtype_exc hC' ?_; rw [hcC]) | wp_step)
  show wpAny _ _ (typeLookup (.ref C) _) _ _ _
  refine i1.at ?_
  refine wpAny_holding (wpAny_bind (b1.at ?_))
  refine wpAny_bind (wpAny_call (codeAny_mono hq fun r s' z => ?_))
  rcases r with e | (v | _ | _ | _) <;> first | exact z | exact z.elim | skip
  obtain ⟨rfl, z⟩ := z
  first
    | exact wpAny_pure (wpAny_pure z)
    | (wp_walk; exact z)
theorem check_tc {M : Model} {us : List Value} {kw : List (Str × Value)} {Q : Unit → Shared → Prop} (hC : hp.get? C = some (excClassObj nm qn C N bs bm hdc sn sub ab col dd k0 k1 k2 k3 k5 newId)) (hq : Q () ⟨hp, gn, dr, tk, os⟩) :
    wpAny M A (checkBuiltinCall "type.__call__" ⟨.ref C :: us, kw⟩) Q E ⟨hp, gn, dr, tk, os⟩ := by
  have c3 := tc_sub
  have hT : (⟨hp, gn, dr, tk, os⟩ : Shared).TypeIs (.ref C) "type" := ⟨_, hC, rfl⟩
  simp only [checkBuiltinCall, tc_kind, tc_split]
  repeat (any_goals (first | assumption | with_reducible refine wpAny_loadPart_at hC ?_ | with_reducible refine wpAny_onRaise ?_ | with_reducible refine wpAny_map ?_ | wp_step))
theorem call_ {us : List Value} {kw : List (Str × Value)} {fI : Addr} (F : ExcBaseFacts B newId initId bmB) (T : Tail B bm) (hC : hp.get? C = some (excClassObj nm qn C N bs bm hdc sn sub ab col dd k0 k1 k2 k3 k5 newId))
    (hi : Looks (model prog w) hp (typeLookup (.ref C) "__init__") (some (.ref fI))) (hb : ∀ x, Looks (model prog w) hp (bindSpecial (.ref fI) x) (.ref fI, [x])) (hl : us.length ≤ sizeLine)
    (hq : codeAny (model prog w) (A.under (.builtin "type.__call__" ⟨.ref C :: us, kw⟩)) (.call (.ref fI) ⟨.ref (hp.objs.size + 1) :: us, kw⟩) (InitBack (hp.objs.size + 1) R) ⟨(hp.push (kdv_tup us)).push (excO C hp.objs.size), gn, dr, tk, os⟩) :
    codeAny (model prog w) A (.call (.ref C) ⟨us, kw⟩) R ⟨hp, gn, dr, tk, os⟩ := by
  have c1 := tc_lookup
  have c2 := tc_bind (.ref C)
  have hTy : (⟨hp, gn, dr, tk, os⟩ : Shared).TypeIs (.ref C) "type" := ⟨_, hC, rfl⟩
  refine codeAny_of_tree ?_
  show wpAny _ _ (callAny (.ref C) _) _ _ _
  repeat (any_goals (first | assumption | with_reducible refine wpAny_loadPart_at hC ?_ | wp_step))
  refine ⟨rfl, ?_⟩
  refine codeAny_call_builtin_at (Code.quiet_builtin _ (by decide +kernel)) entry_typeCall (check_tc hC (tcall F T hC hi hb hl ?_))
  refine codeAny_mono hq fun r s' z => ?_
  rcases r with e | (v | _ | _ | _) <;> exact z
end
/-! ### self.f = v on a fresh exception -/
section
variable {prog : Program} {w : World} {A : Around} {R : Result → Shared → Prop} {hp : Heap} {gn : Array GenState} {dr : Drawn} {tk : Nat} {os : OsState}
theorem osa_ {K : Frag} {f : Str} {tf : Tok} {v : Value} {x C : Addr} {fv : Array Value} {cd : ClassData} (KX : K.In hp) (hx : hp.get? x = some { cls := .ref C, data := .fields fv }) (hcd : clsIn K C = some cd)
    (hp1 : refuseLoop (.ref x) "__setattr__" cd.mro = pure ()) (hp2 : cd.mro.contains (.type "object") = true) (hp3 : cd.mro.isEmpty = false) (hh : cd.hasDict = true) (ha : findIn K (.ref C) f = some none)
    (hq : ∀ h' tk' dx, (∀ b o, b ≠ x → hp.get? b = some o → h'.get? b = some o) → hp.objs.size ≤ dx → dx ≠ x → h'.get? x = some { cls := .ref C, dict := some dx, data := .fields fv } →
      h'.Ns1 dx (fun y => if y = f then some v else none) → R (.ok (.ret .none)) ⟨h', gn, dr, tk', os⟩) :
    codeAny (model prog w) A (.call (.builtin "object.__setattr__") ⟨[.ref x, .str f tf, v], []⟩) R ⟨hp, gn, dr, tk, os⟩ := by
  have J : InstAt hp x { cls := .ref C, data := .fields fv } C none := ⟨hx, rfl, rfl, trivial⟩
  have SO := F.store_object
  have xs : x ≠ hp.objs.size := Nat.ne_of_lt (Heap.lt_size hx)
  have sb : Looks (model prog w) hp (isInstance (.ref x) (.type "object")) true := J.type.andThen (looks_mroIn KX (by unfold mroIn; rw [hcd, Option.bind_some, if_neg (by rw [hp3]; decide), hp2]))
  refine codeAny_call_builtin SO.slot.plain SO.entry (@check_slot (model prog w) _ _ ⟨hp, gn, dr, tk, os⟩ "object.__setattr__" "object" "__setattr__" (.ref x) [.str f tf, v] [] _ SO.kind SO.split sb (SO.args (.ref x) (.str f tf) v) ?_)
  have l1 : Looks (model prog w) hp (mroOf (.ref C)) cd.mro := (looks_clsIn KX hcd).andThen .now
  have l2 : Looks (model prog w) hp (Builtin.ObjectAttr.storeTaker? none) none := .now
  have l3 : Looks (model prog w) hp (classData C) cd := looks_clsIn KX hcd
  rw [osa_eq, refuse_eq]
  refine wpAny_bind (wpAny_bind (J.type.at (wpAny_bind (l1.at ?_))))
  rw [hp1]
  refine wpAny_pure (wpAny_bind (J.type.at (wpAny_bind ((looks_findIn KX ha).at (wpAny_bind (l2.at ?_))))))
  show wpAny _ _ (Builtin.ObjectAttr.storeInOwnDict (.ref x) (.ref C) (.str f tf) f v false) _ _ _
  obtain ⟨nm, bs, mro, ns, qn, hd, sn, sb, ab, col, del⟩ := cd
  dsimp only at hh
  subst hh
  unfold Builtin.ObjectAttr.storeInOwnDict Builtin.ObjectAttr.ownDictForStores
  repeat (first | with_reducible refine store_in_new ?_ ?_ | with_reducible refine wpAny_loadPart_at hx ?_ | with_reducible refine l3.at ?_ | wp_step)
  · exact ⟨_, #[], _, (Heap.get?_update_ne _ _ _ _ xs.symm).trans (Heap.get?_push_at rfl rfl), rfl, fun e he => absurd he (by simp), fun _ => rfl⟩
  · intro h' tk' n' sm
    have hx1 : (hp.push { cls := .type "dict", data := .dict #[] }).get? x = some { cls := .ref C, data := .fields fv } := Heap.get?_push_of_some _ hx
    refine hq h' tk' hp.objs.size (fun b o hb ho => ?_) (Nat.le_refl _) xs.symm ?_ n'
    · exact (sm.2 b (Nat.ne_of_lt (Heap.lt_size ho))).trans ((Heap.get?_update_ne _ _ _ _ hb).trans (Heap.get?_push_of_some _ ho))
    · exact (sm.2 x xs).trans (Heap.get?_update_self _ hx1 rfl)
end
/-! ### an own error class of one field: class x(B): def __init__(self, f): self.f = f -/
def iA (f : Str) (p1 p2 : Pos) : Arguments := { posonlyargs := [], args := [{ arg := "self", annotation := none, pos := p1 }, { arg := f, annotation := none, pos := p2 }], vararg := none, kwonlyargs := [], kw_defaults := [], kwarg := none, defaults := [] }
def iB (f : Str) (q1 q2 q3 q4 : Pos) : List Stmt := [.Assign [.Attribute (.Name "self" q1) f q2] (.Name f q3) q4]
def iS (f : Str) : Scope := { kind := .function, names := [(PySem.Str.ofString "self", .local), (f, .local)], isGenerator := false, isCoroutine := false, more := [] }
/-- what is asked of a field's name; shown for each by computation -/
structure FieldOk (f : Str) : Prop where
  b1 : ∀ (qual : Str) (p1 p2 q1 q2 q3 q4 : Pos) (kV doc pm : Value) (an : Option Addr) (cdv ct e v : Value), bindArgs (fnOf "__init__" qual (iA f p1 p2) (iB f q1 q2 q3 q4) (iS f) .none kV doc pm an cdv ct) ⟨[e, v], []⟩ = pure [(("self" : Str), e), (f, v)]
  b2 : ∀ (qual : Str) (p1 p2 q1 q2 q3 q4 : Pos) (kV doc pm : Value) (an : Option Addr) (cdv ct e v : Value), bindArgs (fnOf "__init__" qual (iA f p1 p2) (iB f q1 q2 q3 q4) (iS f) .none kV doc pm an cdv ct) ⟨[e], [(f, v)]⟩ = pure [(("self" : Str), e), (f, v)]
  l1 : (iS f).names.lookup f = some .local
  l2 : ∀ (e v : Value) (k : Str → Option NameKind), k "self" = some .local → k f = some .local → bindL k [(("self" : Str), e), (f, v)] (fun _ => none) f = some v
  l3 : ∀ (e v : Value) (k : Str → Option NameKind), k "self" = some .local → k f = some .local → bindL k [(("self" : Str), e), (f, v)] (fun _ => none) "self" = some e
  dbg : (f == ("__debug__" : Str)) = false
theorem field_of {f : Str} (h : f ≠ "self")
    (b1 : ∀ (qual : Str) (p1 p2 q1 q2 q3 q4 : Pos) (kV doc pm : Value) (an : Option Addr) (cdv ct e v : Value), bindArgs (fnOf "__init__" qual (iA f p1 p2) (iB f q1 q2 q3 q4) (iS f) .none kV doc pm an cdv ct) ⟨[e, v], []⟩ = pure [(("self" : Str), e), (f, v)])
    (b2 : ∀ (qual : Str) (p1 p2 q1 q2 q3 q4 : Pos) (kV doc pm : Value) (an : Option Addr) (cdv ct e v : Value), bindArgs (fnOf "__init__" qual (iA f p1 p2) (iB f q1 q2 q3 q4) (iS f) .none kV doc pm an cdv ct) ⟨[e], [(f, v)]⟩ = pure [(("self" : Str), e), (f, v)])
    (l1 : (iS f).names.lookup f = some .local) (d : (f == ("__debug__" : Str)) = false) : FieldOk f := by
  refine ⟨b1, b2, l1, fun e v k h1 h2 => ?_, fun e v k h1 h2 => ?_, d⟩
  · unfold bindL bindL bindL
    rw [if_pos h1, if_pos h2]
    exact if_pos rfl
  · unfold bindL bindL bindL
    rw [if_pos h1, if_pos h2]
    show (if ("self" : Str) = f then some v else if ("self" : Str) = "self" then some e else none) = some e
    rw [if_neg (Ne.symm h), if_pos rfl]
theorem f_value : FieldOk "value" := field_of (by decide +kernel) (fun _ _ _ _ _ _ _ _ _ _ _ _ _ _ _ => rfl) (fun _ _ _ _ _ _ _ _ _ _ _ _ _ _ _ => rfl) rfl rfl
theorem f_found : FieldOk "found" := field_of (by decide +kernel) (fun _ _ _ _ _ _ _ _ _ _ _ _ _ _ _ => rfl) (fun _ _ _ _ _ _ _ _ _ _ _ _ _ _ _ => rfl) rfl rfl
structure ExcT (K : Frag) (mg : Str → Option Value) (x f : Str) (C fI : Addr) : Prop where
  gC : mg x = some (.ref C)
  cls : ∃ (B newId initId : String) (bm bmB : List Value), (∃ nm q N bs sn sub ab col dd k0 k1 k2 k3 k5, K.lookup C = some (excClassObj nm q C N bs bm true sn sub ab col dd k0 k1 k2 k3 k5 newId)) ∧
    ExcBaseFacts B newId initId bmB ∧ Tail B bm ∧ (∀ self, refuseLoop self "__setattr__" bm = pure ()) ∧ bm.contains (.type "object") = true
  sa : findIn K (.ref C) "__setattr__" = some (some (.builtin "object.__setattr__"))
  ga : findIn K (.ref C) "__getattribute__" = some (some (.builtin "BaseException.__getattribute__"))
  gg : findIn K (.ref C) "__getattr__" = some none
  noN : findIn K (.ref C) f = some none
  iC : findIn K (.ref C) "__init__" = some (some (.ref fI))
  tC : typeIn K (.ref fI) = some (.type "function")
  kC : keepIn K (.ref C) = true
  exC : subIn K (.ref C) (.type "BaseException") = some true
  tyC : typeIn K (.ref C) = some (.type "type")
  hdC : hasDictIn K C = true
  icl : (clsIn K C).isSome = true
  iha : findIn K (.ref C) "__class__" = some (some (.builtin "object.__class__"))
  ihn : specialIn K (.builtin "object.__class__") "__get__" = some (some (.builtin "getset_descriptor.__get__"))
  itk : takesIn K (.builtin "object.__class__") = some true
  ihm : mroIn K C (.type "object") = some true
  fok : FieldOk f
  fn : ∃ (qual : Str) (oc : Value) (od : Option Addr) (kV doc pm : Value) (an : Option Addr) (cdv ct : Value) (osl : Array (Option Value)) (p1 p2 q1 q2 q3 q4 : Pos),
    K.lookup fI = some ⟨oc, od, .func (fnOf "__init__" qual (iA f p1 p2) (iB f q1 q2 q3 q4) (iS f) .none kV doc pm an cdv ct), osl⟩ ∧ codeIn K cdv qual = true
/-- an exception that was made: its dict holds f -/
structure Made (f : Str) (h h' : Heap) (e C d : Addr) (v : Value) : Prop where
  keep : ∀ b o, h.get? b = some o → h'.get? b = some o
  new : h.objs.size ≤ e
  obj : ∃ t1 : Addr, h'.get? e = some { cls := .ref C, dict := some d, data := .fields #[.ref t1, .none, .none, .none, .bool false, .none] }
  dbig : h.objs.size ≤ d
  dne : d ≠ e
  ns : h'.Ns1 d (fun y => if y = f then some v else none)
section
variable {prog : Program} {w : World} {A : Around} {E : Value → Shared → Prop} {R : Result → Shared → Prop} {s : Shared} {K : Frag} {mg : Str → Option Value} {x f : Str} {C fI : Addr}
theorem ld_ {M : Model} {name : Str} {scope : Scope} {L a : Addr} {cd : Value} {m : Str → Option Value} {y : Str} {pos : Pos} {v : Value} {Q : Value → Shared → Prop} (hn : s.heap.Ns L m) (hv : m y = some v) (h : Q v s)
    (hk : scope.kind = .function) (hl : (envOfC name scope L a cd).kindOf y = some .local) (hd : (y == ("__debug__" : Str)) = false) :
    wpAny M A (eval (.Name y pos) (envOfC name scope L a cd)) Q E s := wpAny_Name (wpAny_loadName_local hk hl hn hv h) hd
/-- __init__ on a fresh exception, by either kind of call -/
theorem init_ (T : ExcT K mg x f C fI) {e t0 : Addr} {v : Value} {args : Args} (ha : args = ⟨[.ref e, v], []⟩ ∨ args = ⟨[.ref e], [(f, v)]⟩) (KX : K.In s.heap) (hlim : s.heap.NoLimit) (hx : s.heap.get? e = some (excO C t0)) (hroom : A.depth < recursionLimit)
    (hq : ∀ h' tk dx, (∀ b o, b ≠ e → s.heap.get? b = some o → h'.get? b = some o) → s.heap.objs.size ≤ dx → dx ≠ e → h'.get? e = some { cls := .ref C, dict := some dx, data := .fields #[.ref t0, .none, .none, .none, .bool false, .none] } →
      h'.Ns1 dx (fun y => if y = f then some v else none) → R (.ok (.ret .none)) { s with heap := h', toks := tk }) :
    codeAny (model prog w) A (.call (.ref fI) args) R s := by
  obtain ⟨qual, oc, od, kV, doc, pm, an, cdv, ct, osl, p1, p2, q1, q2, q3, q4, ho, hcd⟩ := T.fn
  obtain ⟨B, newId, initId, bm, bmB, ⟨nm, q, N, bs, sn, sub, ab, col, dd, k0, k1, k2, k3, k5, hC⟩, _, _, hps, hob⟩ := T.cls
  have hcl : clsIn K C = some { name := nm, bases := bs, mro := .ref C :: bm, ns := N, qualname := q, hasDict := true, slotNames := sn, subclasses := sub, abstract := ab, collection := col, hasDel := false } := by unfold clsIn; rw [hC] <;> rfl
  have hbd : BindsTo s (fnOf "__init__" qual (iA f p1 p2) (iB f q1 q2 q3 q4) (iS f) .none kV doc pm an cdv ct) args [("self", .ref e), (f, v)] := by
    rcases ha with rfl | rfl
    · exact BindsTo.of_eq (T.fok.b1 ..)
    · exact BindsTo.of_eq (T.fok.b2 ..)
  refine Att.call_fn (binds := [("self", .ref e), (f, v)]) KX hlim ho hcd hroom hbd ?_ (fun s₁ IC => ?_) rfl rfl rfl
  · show ((((iS f).names.lookup ("self" : Str)) == some NameKind.local || ((iS f).names.lookup ("self" : Str)) == some NameKind.cell) && ((((iS f).names.lookup f) == some NameKind.local || ((iS f).names.lookup f) == some NameKind.cell) && true)) = true
    rw [T.fok.l1]
    rfl
  obtain ⟨h₁, tk₁, rfl⟩ := IC.toInCall.same
  have k : ∀ b o, s.heap.get? b = some o → h₁.get? b = some o := IC.toInCall.keep
  have hn := IC.toInCall.ns
  have X₁ : K.In h₁ := KX.keeps k
  have hx₁ := k _ _ hx
  have kf : (envOfC qual (iS f) s.heap.objs.size fI cdv).kindOf f = some .local := T.fok.l1
  have ks : (envOfC qual (iS f) s.heap.objs.size fI cdv).kindOf "self" = some .local := rfl
  show wpAny _ _ (execs _ _) _ _ _
  refine wpAny_execs_cons (plainObj_wpAny_Assign_Attribute ?_)
  refine ld_ (v := v) hn (T.fok.l2 _ _ _ ks kf) (ld_ (v := .ref e) hn (T.fok.l3 _ _ _ ks kf) ?_ rfl ks (by decide)) rfl kf T.fok.dbg
  refine set_plain X₁ (ox := excO C t0) (od := none) ⟨hx₁, rfl, rfl, trivial⟩ T.sa ?_
  refine osa_ X₁ hx₁ hcl (by rw [refuseLoop_ref]; exact hps _) (by rw [List.contains_cons, hob, Bool.or_true]) rfl rfl T.noN (fun h₃ tk₃ dx k₃ dn dne hx₃ hn₃ => ?_)
  show wpAny _ _ (execs _ _) _ _ _
  have z : s.heap.objs.size < h₁.objs.size := hn.lt
  exact wpAny_execs_nil (hq h₃ tk₃ dx (fun b o hb e => k₃ b o hb (k b o e)) (Nat.le_of_lt (Nat.lt_of_lt_of_le z dn)) dne hx₃ hn₃)
/-- C(v), C(f=v): a new exception -/
theorem made_ (T : ExcT K mg x f C fI) {v : Value} {args : Args} (ha : args = ⟨[v], []⟩ ∨ args = ⟨[], [(f, v)]⟩) (KX : K.In s.heap) (hlim : s.heap.NoLimit) (hroom : A.depth + 1 < recursionLimit)
    (hq : ∀ h' tk e d, Made f s.heap h' e C d v → R (.ok (.ret (.ref e))) { s with heap := h', toks := tk }) : codeAny (model prog w) A (.call (.ref C) args) R s := by
  obtain ⟨B, newId, initId, bm, bmB, ⟨nm, q, N, bs, sn, sub, ab, col, dd, k0, k1, k2, k3, k5, hC⟩, hF, hT, _, _⟩ := T.cls
  obtain ⟨us, kw⟩ := args
  obtain ⟨hp, gn, dr, tk, os⟩ := s
  have hl : us.length ≤ sizeLine := by
    rw [sizeLine_eq]
    rcases ha with e | e
    · cases e
      exact (by decide : 1 ≤ 16777216)
    · cases e
      exact Nat.zero_le _
  have k : ∀ b o, hp.get? b = some o → ((hp.push (kdv_tup us)).push (excO C hp.objs.size)).get? b = some o := fun b o e => Heap.get?_push_of_some _ (Heap.get?_push_of_some _ e)
  have hg : ((hp.push (kdv_tup us)).push (excO C hp.objs.size)).get? (hp.objs.size + 1) = some (excO C hp.objs.size) := by heap_get
  refine call_ hF hT (KX _ _ hC) (looks_findIn KX T.iC) (fun self => bind_fn KX self T.tC) hl ?_
  refine init_ (s := ⟨(hp.push (kdv_tup us)).push (excO C hp.objs.size), gn, dr, tk, os⟩) (v := v) T ?_ (KX.keeps k) (hlim.keeps k) hg ?_ fun h' tk' dx k' dn dne hx hns => ?_
  · rcases ha with e | e
    · cases e
      exact .inl rfl
    · cases e
      exact .inr rfl
  · show A.depth + 1 < recursionLimit
    exact hroom
  · have old : ∀ b o, hp.get? b = some o → h'.get? b = some o := fun b o e => k' b o (Nat.ne_of_lt (Nat.lt_succ_of_lt (Heap.lt_size e))) (k b o e)
    have z : hp.objs.size + 1 + 1 ≤ dx := by
      first
        | (simpa only [Heap.size_push] using dn)
        | exact dn
    exact ⟨rfl, hq h' tk' (hp.objs.size + 1) dx ⟨old, Nat.le_succ _, ⟨_, hx⟩, Nat.le_trans (Nat.le_trans (Nat.le_succ _) (Nat.le_succ _)) z, dne, hns⟩⟩
end
end WkX
namespace WkX
open PySem PySem.Spec PyProof.Rows L2
theorem relO_one {f : Str} {v : V} {u : Value} (r : RelV v u) (g : Str) : RelO (List.lookup g [(f, v)]) (if g = f then some u else none) := relO_put (fs := []) (mA := fun _ => none) r (fun _ => True.intro) g
section
variable {X : Cx} {x f : Str} {C fI : Addr}
/-- the state behind a new exception that is held -/
theorem held_ {pins : List (Addr × Obj)} {σ : L2.St} {H1 : Hp} {hp h' : Heap} {gn : Array GenState} {dr : Drawn} {tk tk' : Nat} {os : OsState} {e d : Addr} {v : V} {u : Value} (I1 : Inv X pins σ H1 ⟨hp, gn, dr, tk, os⟩) (rv : RelV v u) (M : Made f hp h' e C d u) :
    Inv X pins σ (upd (upd H1 d (exd d [(f, v)])) e (exo e C (some d))) ⟨h', gn, dr, tk', os⟩ := by
  obtain ⟨t1, hoe⟩ := M.obj
  have hns := M.ns
  obtain ⟨G, g1, g2⟩ := restrict h' fun b => decide (b ≠ e)
  have gk : ∀ b, b ≠ e → G.get? b = h'.get? b := fun b hb => g1 b (decide_eq_true hb)
  have ge : G.get? e = none := g2 e (by simp)
  have old : ∀ b o, hp.get? b = some o → G.get? b = some o := fun b o q => (gk b (Nat.ne_of_lt (Nat.lt_of_lt_of_le (Heap.lt_size q) M.new))).trans (M.keep b o q)
  have ob : ObjOk X.prog X.w (upd H1 d (exd d [(f, v)])) G d (exd d [(f, v)]) := exd_ok (hns.at (fun o q => (gk d M.dne).trans q)) fun g => relO_one rv g
  have J : Inv X pins σ (upd H1 d (exd d [(f, v)])) ⟨G, gn, dr, tk', os⟩ := I1.laid (t' := tk') old M.dbig ob
  have ne : upd H1 d (exd d [(f, v)]) e = none := by
    rw [upd_ne (Ne.symm M.dne)]
    exact I1.hok.fresh M.new
  exact J.laidN (t' := tk') (h' := h') (fun b o q => by
    by_cases hb : b = e
    · have q' : G.get? b = some o := q
      rw [hb, ge] at q'
      cases q'
    · exact (gk b hb).symm.trans q) ge ne (exo_ok hoe)
/-- x(e), x(f=e) as a value -/
def tMkE (C : Addr) (f : Str) (ta : TA) : TE := fun σ H Q => ta σ H fun vs H1 => ∃ v, vs = [v] ∧ ∀ a d, H1 a = none → H1 d = none → d ≠ a → Q (.ref a) (upd (upd H1 d (exd d [(f, v)])) a (exo a C (some d)))
theorem pe_mkK {kws : List Keyword} {tk : TA} {p pos : Pos} {k : Nat} (T : ExcT X.K X.mg x f C fI) (hr : Room k X.A) (hkw : PK X kws tk) (hall : (backToKw pos (keywordEach kws X.env)).all (·.1.isSome) = true := by rfl) (hks : (backToKw pos (keywordEach kws X.env)).filterMap (·.1) = [f] := by rfl)
    (hg : Gl X x := by rfl) (hdb : (x == ("__debug__" : Str)) = false := by decide) (hpl : ((backTo pos (starEach [] X.env)).any (·.1) || (backToKw pos (keywordEach kws X.env)).any (·.1.isNone)) = false := by rfl) :
    PE X (.Call (.Name x p) [] kws pos) (tMkE C f tk) := by
  refine ⟨fun pins s σ H Q I h => ?_⟩
  refine wpAny_Call_Name_kw (ld_glob I hg T.gC ?_ hdb)
  refine PySem.W.callWith_KW0 (h₀ := X.base) I.ok.mod.kin T.kC hall (thn (hkw.run pos pins s σ H _ I h) fun us s1 hh => ?_) hpl
  obtain ⟨vs, H1, I1, r1, v, ev, q1⟩ := hh
  subst ev
  refine ⟨I1.kIn, ?_⟩
  rw [hks]
  cases r1 with
  | cons rv rn =>
    rename_i v' us'
    cases rn
    show wpAny _ _ (call (.ref C) [] [(f, v')]) _ _ _
    have hlim := I1.nolimit
    obtain ⟨hp, gn, dr, tk, os⟩ := s1
    refine wpAny_call (made_ (v := v') T (.inr rfl) I1.kIn hlim (by have := hr.dp; omega) fun h' tk' e d M => ?_)
    exact ⟨.ref e, _, held_ I1 rv M, rfl, q1 e d (I1.hok.fresh M.new) (I1.hok.fresh M.dbig) M.dne⟩
end
end WkX
namespace WkX
open PySem PySem.W PySem.Calls PyProof.Rows
/-! ### facts of an error class, read off the head -/
def clsB (K : Frag) (C : Addr) (bm : List Value) (newId : String) : Bool := match K.lookup C with
  | some ⟨.type t, _, .cls cd, sl⟩ => t == "type" && (decide (cd.mro = .ref C :: bm) && (cd.hasDict && (!cd.hasDel && match sl.toList with
    | [_, _, _, _, some (.builtin n), _] => n == newId
    | _ => false)))
  | _ => false
theorem clsB_ok {K : Frag} {C : Addr} {bm : List Value} {newId : String} (h : clsB K C bm newId = true) : ∃ nm q N bs sn sub ab col dd k0 k1 k2 k3 k5, K.lookup C = some (excClassObj nm q C N bs bm true sn sub ab col dd k0 k1 k2 k3 k5 newId) := by
  unfold clsB at h
  split at h
  · rename_i t dd cd sl e
    obtain ⟨h1, h⟩ := He.ba h
    obtain ⟨h2, h⟩ := He.ba h
    obtain ⟨h3, h⟩ := He.ba h
    obtain ⟨h4, h5⟩ := He.ba h
    clear h
    split at h5
    · rename_i k0 k1 k2 k3 n k5 hs
      obtain ⟨nm, bs, mro, ns, qn, hd, sn, sub, ab, col, del⟩ := cd
      have e1 := eq_of_beq h1
      have e2 : mro = .ref C :: bm := of_decide_eq_true h2
      have e3 : hd = true := h3
      have e4 : del = false := by
        have z : (!del) = true := h4
        cases del
        · rfl
        · cases z
      have e5 := eq_of_beq h5
      have e6 : sl = #[k0, k1, k2, k3, some (.builtin n), k5] := by
        obtain ⟨l⟩ := sl
        simp only at hs
        rw [hs]
      subst e1 e2 e3 e4 e5 e6
      exact ⟨_, _, _, _, _, _, _, _, _, _, _, _, _, _, e⟩
    · cases h5
  · cases h
def excB (K : Frag) (x f : Str) (bm : List Value) (newId : String) : Bool :=
  clsB K (He.ga K x) bm newId && (He.eqO (findIn K (.ref (He.ga K x)) "__setattr__") (some (some (.builtin "object.__setattr__"))) && (He.eqO (findIn K (.ref (He.ga K x)) "__getattribute__") (some (some (.builtin "BaseException.__getattribute__"))) &&
  (He.eqO (findIn K (.ref (He.ga K x)) "__getattr__") (some none) && (He.eqO (findIn K (.ref (He.ga K x)) f) (some none) && (He.eqO (findIn K (.ref (He.ga K x)) "__init__") (some (some (.ref (He.ma K (He.ga K x) "__init__")))) &&
  (decide (typeIn K (.ref (He.ma K (He.ga K x) "__init__")) = some (.type "function")) && (keepIn K (.ref (He.ga K x)) && (decide (subIn K (.ref (He.ga K x)) (.type "BaseException") = some true) && (decide (typeIn K (.ref (He.ga K x)) = some (.type "type")) &&
  (hasDictIn K (He.ga K x) && ((clsIn K (He.ga K x)).isSome && (He.eqO (findIn K (.ref (He.ga K x)) "__class__") (some (some (.builtin "object.__class__"))) && (He.eqO (specialIn K (.builtin "object.__class__") "__get__") (some (some (.builtin "getset_descriptor.__get__"))) &&
  (decide (takesIn K (.builtin "object.__class__") = some true) && decide (mroIn K (He.ga K x) (.type "object") = some true)))))))))))))))
theorem excT_mk {K : Frag} {mg : Str → Option Value} {x f : Str} {bm bmB : List Value} {B newId initId : String} (g : mg x = some (.ref (He.ga K x))) (h : excB K x f bm newId = true) (hF : ExcBaseFacts B newId initId bmB) (hT : Tail B bm)
    (hp : ∀ self, refuseLoop self "__setattr__" bm = pure ()) (ho : bm.contains (.type "object") = true) (fok : FieldOk f)
    (fn : ∃ (qual : Str) (oc : Value) (od : Option Addr) (kV doc pm : Value) (an : Option Addr) (cdv ct : Value) (osl : Array (Option Value)) (p1 p2 q1 q2 q3 q4 : Pos),
      K.lookup (He.ma K (He.ga K x) "__init__") = some ⟨oc, od, .func (fnOf "__init__" qual (iA f p1 p2) (iB f q1 q2 q3 q4) (iS f) .none kV doc pm an cdv ct), osl⟩ ∧ codeIn K cdv qual = true) :
    ExcT K mg x f (He.ga K x) (He.ma K (He.ga K x) "__init__") := by
  obtain ⟨a1, h⟩ := He.ba h
  obtain ⟨a2, h⟩ := He.ba h
  obtain ⟨a3, h⟩ := He.ba h
  obtain ⟨a4, h⟩ := He.ba h
  obtain ⟨a5, h⟩ := He.ba h
  obtain ⟨a6, h⟩ := He.ba h
  obtain ⟨a7, h⟩ := He.ba h
  obtain ⟨a8, h⟩ := He.ba h
  obtain ⟨a9, h⟩ := He.ba h
  obtain ⟨a10, h⟩ := He.ba h
  obtain ⟨a11, h⟩ := He.ba h
  obtain ⟨a12, h⟩ := He.ba h
  obtain ⟨a13, h⟩ := He.ba h
  obtain ⟨a14, h⟩ := He.ba h
  obtain ⟨a15, a16⟩ := He.ba h
  exact ⟨g, ⟨B, newId, initId, bm, bmB, clsB_ok a1, hF, hT, hp, ho⟩, He.eqO_ok a2, He.eqO_ok a3, He.eqO_ok a4, He.eqO_ok a5, He.eqO_ok a6, of_decide_eq_true a7, a8, of_decide_eq_true a9, of_decide_eq_true a10, a11, a12, He.eqO_ok a13, He.eqO_ok a14, of_decide_eq_true a15, of_decide_eq_true a16, fok, fn⟩
/-! ### the built-in classes that errors stand over -/
def bV : List Value := [.type "ValueError", .type "Exception", .type "BaseException", .type "object"]
def bR : List Value := [.type "RuntimeError", .type "Exception", .type "BaseException", .type "object"]
def bL : List Value := [.type "LookupError", .type "Exception", .type "BaseException", .type "object"]
def bK : List Value := [.type "KeyError", .type "LookupError", .type "Exception", .type "BaseException", .type "object"]
theorem tV : Tail "ValueError" bV := ⟨by decide +kernel, by decide +kernel, by decide +kernel⟩
theorem tR : Tail "RuntimeError" bR := ⟨by decide +kernel, by decide +kernel, by decide +kernel⟩
theorem tL : Tail "LookupError" bL := ⟨by decide +kernel, by decide +kernel, by decide +kernel⟩
theorem tK : Tail "LookupError" bK := ⟨by decide +kernel, by decide +kernel, by decide +kernel⟩
theorem pV (self : Value) : refuseLoop self "__setattr__" bV = pure () := by kernel_rfl
theorem pR (self : Value) : refuseLoop self "__setattr__" bR = pure () := by kernel_rfl
theorem pK (self : Value) : refuseLoop self "__setattr__" bK = pure () := by kernel_rfl
theorem oV : bV.contains (.type "object") = true := by decide +kernel
theorem oR : bR.contains (.type "object") = true := by decide +kernel
theorem oK : bK.contains (.type "object") = true := by decide +kernel
/-! ### a class's constant that is an int -/
def crB (K : Frag) (C : Addr) : Bool := readsIn K C (.type "type") && He.eqO (specialIn K (.ref C) "__getattribute__") (some (some (.builtin "type.__getattribute__")))
theorem crB_ok {K : Frag} {C : Addr} (h : crB K C = true) : ClX.CRead K C (.type "type") := by
  obtain ⟨h1, h2⟩ := He.ba h
  exact ⟨h1, He.eqO_ok h2⟩
end WkX
namespace WkJ
open PySem PySem.Spec PyProof.Rows L2 LamX
/-- the method m of C is D's -/
def methB (K : PySem.W.Frag) (C D : Addr) (m : Str) : Bool := He.eqO (PySem.W.findIn K (.ref C) m) (some (some (.ref (He.ma K D m)))) && (PySem.W.isFn K (.ref (He.ma K D m)) && PySem.W.keepIn K (.ref (He.ma K D m)))
theorem methB_ok {K : PySem.W.Frag} {C D : Addr} {m : Str} (h : methB K C D m = true) : Meth K C m (He.ma K D m) := by
  obtain ⟨h1, h⟩ := He.ba h
  obtain ⟨h2, h3⟩ := He.ba h
  exact ⟨He.eqO_ok h1, h2, h3⟩
theorem initA_of {K : PySem.W.Frag} {x f qual : Str} {d : DefA} {fd : FuncData} {p1 p2 q1 q2 q3 q4 : Pos} (F : FunC K d fd) (e : d = ⟨fun K => He.ma K (He.ga K x) "__init__", "__init__", qual, WkX.iA f p1 p2, WkX.iB f q1 q2 q3 q4, WkX.iS f, [], [], []⟩) :
    ∃ (qual : Str) (oc : Value) (od : Option Addr) (kV doc pm : Value) (an : Option Addr) (cdv ct : Value) (osl : Array (Option Value)) (p1 p2 q1 q2 q3 q4 : Pos),
      K.lookup (He.ma K (He.ga K x) "__init__") = some ⟨oc, od, .func (PySem.W.fnOf "__init__" qual (WkX.iA f p1 p2) (WkX.iB f q1 q2 q3 q4) (WkX.iS f) .none kV doc pm an cdv ct), osl⟩ ∧ PySem.W.codeIn K cdv qual = true := by
  subst e
  have F := F.funD rfl
  obtain ⟨oc, od, dV, kV, doc, pm, an, cdv, ct, osl, rfl, lk, hcd, hD, _⟩ := F.ex
  rcases hD with ⟨_, rfl⟩ | ⟨z, _⟩
  · exact ⟨_, oc, od, kV, doc, pm, an, cdv, ct, osl, _, _, _, _, _, _, lk, hcd⟩
  · exact absurd rfl z
/-- instances of C are ones of D, by the classes -/
def eqClsB (K : PySem.W.Frag) (C D : Addr) : Bool := He.eqO (PySem.W.findIn K (.ref C) "__class__") (some (some (.builtin "object.__class__"))) && (He.eqO (PySem.W.specialIn K (.builtin "object.__class__") "__get__") (some (some (.builtin "getset_descriptor.__get__"))) && (decide (PySem.W.takesIn K (.builtin "object.__class__") = some true) && (decide (PySem.W.mroIn K C (.type "object") = some true) && decide (PySem.W.kitOne K (.ref C) (.ref D) = some true))))
theorem eqClsB_ok {K : PySem.W.Frag} {C D : Addr} (h : eqClsB K C D = true) : PySem.W.findIn K (.ref C) "__class__" = some (some (.builtin "object.__class__")) ∧ PySem.W.specialIn K (.builtin "object.__class__") "__get__" = some (some (.builtin "getset_descriptor.__get__")) ∧ PySem.W.takesIn K (.builtin "object.__class__") = some true ∧ PySem.W.mroIn K C (.type "object") = some true ∧ PySem.W.kitOne K (.ref C) (.ref D) = some true := by
  obtain ⟨h1, h⟩ := He.ba h
  obtain ⟨h2, h⟩ := He.ba h
  obtain ⟨h3, h⟩ := He.ba h
  obtain ⟨h4, h5⟩ := He.ba h
  exact ⟨He.eqO_ok h1, He.eqO_ok h2, of_decide_eq_true h3, of_decide_eq_true h4, of_decide_eq_true h5⟩
end WkJ
/-! WkJ3: the head's hook, its addresses gathered with a bit mask (the kernel's memory is the bound: eraseDups of every round took 4.5 GB) -/
namespace WkJ
open PySem PySem.Spec PyProof.Rows L2 LamX
/-- breadth first, n rounds; m the mask of the seen -/
def goB (g : Addr → Option Obj) : Nat → Nat → List Addr → List Addr → Nat → List Addr
  | 0, _, _, _, _ => []
  | f + 1, n, [], next, m => match n with
    | 0 => []
    | n + 1 => match next with
      | [] => []
      | a :: r => goB g f n (a :: r) [] m
  | f + 1, n, a :: r, next, m => HandSHeadRun.frNat a fun a => match Nat.beq (Nat.land (Nat.shiftRight m a) 1) 1 with
    | true => goB g f n r next m
    | false => HandSHeadRun.frNat (Nat.lor m (Nat.shiftLeft 1 a)) fun m => match g a with
      | some o => a :: goB g f n r (He.refsD o ++ next) m
      | none => goB g f n r next m
abbrev frB (n : Nat) (g : Addr → Option Obj) : PySem.W.Frag := He.frT g (goB g 20000 n [mainGlobals, sysModules, cStatics] [] 0)
def obsB (n : Nat) (fa : List He.Fa) (da : List DefA) (tf : List He.Defn) (ex : PySem.W.Frag → Bool) (g : Addr → Option Obj) : Al := ((fa.all fun f => f.ok (frB n g)) && ((da.all fun d => d.ok (frB n g)) && (ex (frB n g) && He.tabsB g tf (frB n g))), da.map fun d => fnA (frB n g) (d.at_ (frB n g)))
theorem saysB_of {n : Nat} {fa : List He.Fa} {da : List DefA} {tf : List He.Defn} {ex : PySem.W.Frag → Bool} {h : Heap} (e : obsB n fa da tf ex h.get? = (true, da.map DefA.val)) : Says fa da tf ex h (frB n h.get?) := by
  have e1 : ((fa.all fun f => f.ok (frB n h.get?)) && ((da.all fun d => d.ok (frB n h.get?)) && (ex (frB n h.get?) && He.tabsB h.get? tf (frB n h.get?)))) = true := congrArg (fun z : Al => z.1) e
  have e2 : (da.map fun d => fnA (frB n h.get?) (d.at_ (frB n h.get?))) = da.map DefA.val := congrArg (fun z : Al => z.2) e
  obtain ⟨h0, e1⟩ := He.ba e1
  obtain ⟨h1, e1⟩ := He.ba e1
  obtain ⟨h2, h3⟩ := He.ba e1
  have one : ∀ p ∈ tf, PySem.W.codeHdIn (frB n h.get?) (He.cT (frB n h.get?) p).1 (He.cT (frB n h.get?) p).2 = true ∧ ∃ o, h.get? (He.cT (frB n h.get?) p).2 = some o ∧ He.emptyTab o = true := fun p hp => by
    obtain ⟨h3, h4⟩ := He.ba (List.all_eq_true.mp h3 p hp)
    refine ⟨h3, ?_⟩
    cases q : h.get? (He.cT (frB n h.get?) p).2 with
    | none =>
      rw [q] at h4
      cases h4
    | some o =>
      rw [q] at h4
      exact ⟨o, rfl, h4⟩
  refine ⟨fun f hf => List.all_eq_true.mp h0 f hf, fun d hd => ?_, h2, fun p hp => (one p hp).1, fun p hp => ?_, fun p hp => ?_⟩
  · obtain ⟨i, hi, ed⟩ := List.mem_iff_getElem.mp hd
    have z : (da.map fun d => fnA (frB n h.get?) (d.at_ (frB n h.get?)))[i]? = (da.map DefA.val)[i]? := by rw [e2]
    rw [List.getElem?_map, List.getElem?_map, List.getElem?_eq_getElem hi, ed] at z
    exact DefA.funC (Option.some.inj z) (List.all_eq_true.mp h1 d hd)
  · obtain ⟨_, o, q, z⟩ := one p hp
    exact He.frT_none q z
  · obtain ⟨_, o, q, z⟩ := one p hp
    rw [q, He.emptyTab_eq z]
def hookB (n : Nat) (fa : List He.Fa) (da : List DefA) (tf : List He.Defn) (ex : PySem.W.Frag → Bool) : PySem.W.Hook where
  α := Al
  obs := fun s => obsB n fa da tf ex s.heap.get?
  val := fun _ => (true, da.map DefA.val)
  says := fun _ h => ∃ K : PySem.W.Frag, K.In h ∧ Says fa da tf ex h K
  of := fun _ _ e => ⟨_, He.frT_in, saysB_of e⟩
  keeps := fun _ _ _ ⟨K, hK, c⟩ k => ⟨K, PySem.W.Frag.In.keeps hK k, ⟨c.fact, c.defs, c.ex, c.hd, c.out, fun p hp => k _ _ (c.emp p hp)⟩⟩
theorem obsB_eq {n : Nat} {fa : List He.Fa} {da : List DefA} {tf : List He.Defn} {ex : PySem.W.Frag → Bool} {g : Addr → Option Obj} {s : Shared} (h : ∀ a, g a = s.heap.get? a) : obsB n fa da tf ex g = (hookB n fa da tf ex).obs s := by
  have e : g = s.heap.get? := funext h
  subst e
  rfl
end WkJ
namespace WkK
open PySem PySem.Spec PyProof.Rows L2
/-! ### o.f as a target -/
def gAt (K : PySem.W.Frag) (te : TE) (f : Str) : TG := fun v σ H Q => te σ H fun x H1 => ∃ a C dx fs, x = .ref a ∧ H1 a = some (.ins C dx fs) ∧ Cls K C ∧ NoAttr K C f ∧ fs.length < 1000 ∧ Q σ (upd H1 a (.ins C dx (putF f v fs)))
theorem pg_at {X : Cx} {o : Expr} {f : Str} {pos : Pos} {to : TE} (ho : PE X o to) : PG X (.Attribute o f pos) (gAt X.K to f) := by
  refine ⟨fun pins s σ H v u Q I r h => ?_⟩
  show wpAny _ _ (do let ov ← holding [u] (eval o X.env); standAt pos.atName; holding [u, ov] (setAttr ov f u); release [u, ov] []) _ _ _
  refine wpAny_bind (wpAny_holding (thn (ho.run pins s σ H _ I h) fun ov s1 ⟨x, H1, I1, r1, a, C, dx, fs, ex, ea, c, n, l, q⟩ => ?_))
  subst ex
  obtain rfl : ov = Value.ref a := r1
  refine wpAny_bind (wpAny_standAt (wpAny_bind (wpAny_holding ?_)))
  exact setattr_ok I1 ea c n l r fun s2 I2 => wpAny_release ⟨σ, _, I2, q⟩
/-! ### raise x(e) -/
section
variable {X : Cx} {x f : Str} {C fI : Addr}
def tMkX (C : Addr) (f : Str) (ta : TA) : L2.St → Hp → XK → Prop := fun σ H Q => ta σ H fun vs H1 => ∃ v, vs = [v] ∧ ∀ d, H1 d = none → Q (.ref C) (some d) (upd H1 d (.xd [(f, v)]))
theorem pmk_E {a : Expr} {ta : TA} {p pos : Pos} {k : Nat} (T : WkX.ExcT X.K X.mg x f C fI) (hr : Room k X.A) (ha : PA X [a] ta) (hg : Gl X x := by rfl) (hdb : (x == ("__debug__" : Str)) = false := by decide)
    (he : starEach (a :: []) X.env = (false, eval a X.env) :: starEach [] X.env := by rfl) (hpl : (backTo pos (starEach [] X.env)).any (·.1) = false := by rfl) :
    PMk X (.Call (.Name x p) [a] [] pos) (tMkX C f ta) := by
  intro pins s σ H Q I h
  refine wpAny_Call_Name_kw (ld_glob I hg T.gC ?_ hdb)
  refine PySem.W.callWith_K (h₀ := X.base) I.ok.mod.kin T.kC (thn (ha.run pos pins s σ H _ I h) fun us s1 hh => ?_) he hpl
  obtain ⟨vs, H1, I1, r1, v, ev, q1⟩ := hh
  subst ev
  refine ⟨I1.kIn, ?_⟩
  cases r1 with
  | cons rv rn =>
    rename_i v' us'
    cases rn
    show wpAny _ _ (call (.ref C) [v']) _ _ _
    have hlim := I1.nolimit
    obtain ⟨hp, g, dr, tk, os⟩ := s1
    refine wpAny_call (WkX.made_ (v := v') T (.inl rfl) I1.kIn hlim (by have := hr.dp; omega) fun h' tk' e d M => ?_)
    show MkP X pins σ Q (.ref e) ⟨h', g, dr, tk', os⟩
    obtain ⟨t1, hoe⟩ := M.obj
    have hns := M.ns
    obtain ⟨G, g1, g2⟩ := restrict h' fun b => decide (b ≠ e)
    have gk : ∀ b, b ≠ e → G.get? b = h'.get? b := fun b hb => g1 b (decide_eq_true hb)
    have ge : G.get? e = none := g2 e (by simp)
    have old : ∀ b o, hp.get? b = some o → G.get? b = some o := fun b o q => (gk b (Nat.ne_of_lt (Nat.lt_of_lt_of_le (Heap.lt_size q) M.new))).trans (M.keep b o q)
    have ob : ObjOk X.prog X.w (upd H1 d (.xd [(f, v)])) G d (.xd [(f, v)]) := ⟨_, hns.at (fun o q => (gk d M.dne).trans q), fun g => WkX.relO_one rv g⟩
    have J : Inv X pins σ (upd H1 d (.xd [(f, v)])) ⟨G, g, dr, tk', os⟩ := I1.laid (t' := tk') old M.dbig ob
    refine ⟨e, _, _, ⟨G, g, dr, tk', os⟩, _, .ref C, some d, rfl, J, fun b o q => ?_, ge, hoe, ⟨rfl, rfl⟩, rfl, rfl, ?_, rfl, I1.bare, raises_own T.exC T.tyC, q1 d (I1.hok.fresh M.dbig)⟩
    · by_cases hb : b = e
      · have q' : G.get? b = some o := q
        rw [hb, ge] at q'
        cases q'
      · exact (gk b hb).symm.trans q
    · rw [upd_ne (Ne.symm M.dne)]
      exact I1.hok.fresh M.new
def tRaiseE (C : Addr) (f : Str) (W : WX) (ta : TA) : TS := fun _ σ H => tMkX C f ta σ H fun cls d H' => W cls d σ H'
theorem ps_raiseE {a : Expr} {ta : TA} {W : WX} {p pos pos2 : Pos} {k : Nat} (hc : X.calm = true) (T : WkX.ExcT X.K X.mg x f C fI) (hr : Room k X.A) (tk : Takes X W) (ha : PA X [a] ta) (hg : Gl X x := by rfl) (hdb : (x == ("__debug__" : Str)) = false := by decide)
    (he : starEach (a :: []) X.env = (false, eval a X.env) :: starEach [] X.env := by rfl) (hpl : (backTo pos (starEach [] X.env)).any (·.1) = false := by rfl) :
    PS X (.Raise (some (.Call (.Name x p) [a] [] pos)) none pos2) (tRaiseE C f W ta) := ps_raise hc tk (pmk_E T hr ha hg hdb he hpl)
end
/-! ### del a[i], b[j] -/
/-- nothing is let out -/
theorem passF {X : Cx} : Passes (CX X.prog X.w) X (fun _ _ _ => False) := fun _ _ _ _ _ _ _ c => by
  obtain ⟨a, B, H', cls, d, _, _, _, _, _, _, _, z⟩ := c
  exact z.elim
/-! ### an exception that is kept -/
section
variable {X : Cx} {pins : List (Addr × Obj)} {σ : L2.St} {H : Hp} {s : Shared}
end
section
variable {X : Cx} {x n : Str} {c : Value} {i : Nat} {body suite : List Stmt} {b₀ : Stmt} {np pos pos' : Pos} {tb : WX → TS} {ts : Addr → Value → Option Addr → TS} {Wout : WX}
end
end WkK
/-! a text beside a dict -/
namespace PySem.SeqAt
open AutoSeq1 (wpAny_loadPart')
open MeetsSeq
section
variable {A : Around} {s : Shared}
end
end PySem.SeqAt
namespace WkK
open PySem PySem.Spec PyProof.Rows L2 WkG
/-! ### x not in a list of texts, x any data -/
/-! ### a kept error -/
section
variable {X : Cx} {x f : Str} {C fI : Addr}
end
/-! ### x == y by an own __eq__ -/
def EqC (P : Program) (w : World) (K : PySem.W.Frag) (mg : Str → Option Value) (base : Heap) (C : Addr) (k : Nat) (sp : Sp) : Prop := ∃ f fd ps, PySem.W.findIn K (.ref C) "__eq__" = some (some (.ref f)) ∧ PySem.W.isFn K (.ref f) = true ∧ FnOk P w K mg base CX0 k f fd ps sp ∧ Binds K fd ps []
end WkK
namespace WkK
open PySem PySem.Spec PyProof.Rows L2 WkD WkN
/-! ### rows beside rows -/
def rowB (ks ls : List Str) (f g : Str → Int) : Bool := ks.length == ls.length && ks.all fun u => decide (u ∈ ls) && (f u == g u)
def rowsB (Vs Ws : List Str) (nb nb' : Nb) (wt wt' : Wt) : Bool := Vs.length == Ws.length && Vs.all fun u => decide (u ∈ Ws) && rowB (nb u) (nb' u) (wt u) (wt' u)
def keyF (h : Str → Bool) : Key → Bool
  | .inr u => h u
  | .inl _ => false
theorem hits_gen {P : Program} {w : World} {A : Around} {s : Shared} {e : Key → Bool} {ls : List (Key × V)} {vb : List (Key × Value)} (rb : KV ls vb) {ks : List (Key × V)} {va : List (Key × Value)}
    (ra : KV ks va) : (∀ p ∈ ks, ∀ u, valV ls p.1 = some u → ∀ v y, RelV p.2 v → RelV u y → SeqAt.EqP P w A s v y (e p.1)) → PySem.W.KeqHitsP P w A s vb va (ks.all fun p => (valV ls p.1).isSome && e p.1) := by
  unfold KV at ra
  induction ra with
  | nil => intro _; exact .nil
  | @cons p q ps qs h t k =>
    intro hp
    obtain ⟨h1, h2⟩ := h
    obtain ⟨key, v⟩ := q
    have h1' : p.1 = key := h1
    have hr : RelO (valV ls p.1) (valueAt vb p.1) := rb.val p.1
    have ih := k fun p' hm => hp p' (List.mem_cons_of_mem _ hm)
    rw [List.all_cons]
    cases hv : valV ls p.1 with
    | none =>
      rw [hv] at hr
      have hn : valueAt vb p.1 = none := by
        cases z : valueAt vb p.1 with
        | none => rfl
        | some y =>
          rw [z] at hr
          exact hr.elim
      rw [h1'] at hn
      exact .miss hn
    | some u =>
      rw [hv] at hr
      obtain ⟨y, hy, ry⟩ := RelO.some_of hr
      have q := hp p List.mem_cons_self u hv v y h2 ry
      rw [h1'] at hy
      show PySem.W.KeqHitsP P w A s vb ((key, v) :: qs) ((true && e p.1) && _)
      rw [Bool.true_and]
      exact .hit hy q ih
theorem dct_all {ks ls : List Str} {f g : Str → V} {e : Key → Bool} : ((dct ks f).all fun p => (valV (dct ls g) p.1).isSome && e p.1) = ks.all fun u => decide (u ∈ ls) && e (Sum.inr u) := by
  unfold dct
  rw [List.all_map]
  refine List.all_congr rfl fun u => ?_
  show ((valV (dct ls g) (Sum.inr u)).isSome && _) = _
  rw [dct_val]
  by_cases h : u ∈ ls
  · simp [h]
  · simp [h]
theorem dct_inj {ks ls : List Str} {f g : Str → V} (h : dct ks f = dct ls g) : ks = ls ∧ ∀ u ∈ ks, f u = g u := by
  have e : ks = ls := by
    have := congrArg (fun l => l.map (·.1)) h
    simp only [dct_keys] at this
    have z : ∀ {l m : List Str}, l.map (Sum.inr : Str → Int ⊕ Str) = m.map Sum.inr → l = m := by
      intro l
      induction l with
      | nil => intro m h; cases m <;> first | rfl | cases h
      | cons x l ih =>
        intro m h
        cases m with
        | nil => cases h
        | cons y m =>
          rw [List.map_cons, List.map_cons, List.cons.injEq] at h
          rw [Sum.inr.inj h.1, ih h.2]
    exact z this
  subst e
  refine ⟨rfl, fun u hu => ?_⟩
  unfold dct at h
  have := List.map_inj_left.mp h u hu
  exact (Prod.mk.inj this).2
section
variable {X : Cx} {pins : List (Addr × Obj)} {σ : L2.St} {H : Hp} {s : Shared}
theorem row_run (I : Inv X pins σ H s) {A : Around} (hu : A.units < cLine) {a b : Addr} {ks ls : List Str} {f g : Str → Int} (ha : Rd H a (.dK (dct ks fun v => .int (f v)))) (hb : Rd H b (.dK (dct ls fun v => .int (g v)))) : SeqAt.EqP X.prog X.w A s (.ref a) (.ref b) (rowB ks ls f g) := by
  by_cases e : a = b
  · subst e
    have z : dct ks (fun v => V.int (f v)) = dct ls fun v => V.int (g v) := by
      rcases ha with ha | ⟨o, ha⟩ <;> rcases hb with hb | ⟨o', hb⟩ <;> rw [ha] at hb
      · exact HO.dK.inj (Option.some.inj hb)
      · exact nomatch hb
      · exact nomatch hb
      · exact HO.dK.inj (HO.frz.inj (Option.some.inj hb)).2
    obtain ⟨rfl, z2⟩ := dct_inj z
    have : rowB ks ks f g = true := by
      unfold rowB
      simp only [beq_self_eq_true, Bool.true_and, List.all_eq_true]
      intro u hu
      have := V.int.inj (z2 u hu)
      simp [hu, this]
    rw [this]
    exact (SeqAt.EqAt.same _).eqP
  · refine SeqAt.eqP_refs e fun E Q q => ?_
    obtain ⟨_, ya, va, ra, da⟩ := dk_rd I.hok ha
    obtain ⟨_, yb, vb, rb, db⟩ := dk_rd I.hok hb
    refine PySem.W.rcP_dicts (knd := mixKind X.prog X.w) ya yb da db hu (fun _ => hits_gen (e := keyF fun u => f u == g u) rb ra ?_) E Q ?_
    · intro p hp u hv v y rv ry
      obtain ⟨z, hz, rfl⟩ := List.mem_map.mp hp
      have hv : valV (dct ls fun v => .int (g v)) (Sum.inr z) = some u := hv
      rw [dct_val] at hv
      by_cases hm : z ∈ ls
      · rw [if_pos hm] at hv
        cases hv
        obtain ⟨t1, rfl⟩ := rv
        obtain ⟨t2, rfl⟩ := ry
        exact (SeqAt.EqAt.int_int _ t1 _ t2).eqP
      · rw [if_neg hm] at hv
        cases hv
    · rw [dct_all (e := keyF fun u => f u == g u), ← ra.length, ← rb.length, dct_len, dct_len]
      exact q
def rEqRows : R2 := fun x y H Q => ∃ (a b : Addr) (Vs Ws : List Str) (ad bd : Str → Addr) (nb nb' : Nb) (wt wt' : Wt), x = .ref a ∧ y = .ref b ∧ RowsR H a Vs ad nb wt ∧ RowsR H b Ws bd nb' wt' ∧ Q (.bl (rowsB Vs Ws nb nb' wt wt')) H
theorem op_eqRows (hu : X.A.units + 1 < cLine) : OpR X (compareOp .Eq) rEqRows := by
  intro pins s σ H x y v u Q I rx ry h
  obtain ⟨a, b, Vs, Ws, ad, bd, nb, nb', wt, wt', rfl, rfl, ha, hb, q⟩ := h
  cases rx
  cases ry
  obtain ⟨_, ya, va, ra, da⟩ := dk_rd I.hok ha.top
  obtain ⟨_, yb, vb, rb, db⟩ := dk_rd I.hok hb.top
  show wpAny (model X.prog X.w) X.A (richCompare .Eq (.ref a) (.ref b)) (EP X pins σ Q) X.xe s
  refine PySem.W.rcP_dicts (knd := mixKind X.prog X.w) ya yb da db (by omega) (fun _ => hits_gen (e := keyF fun u => rowB (nb u) (nb' u) (wt u) (wt' u)) rb ra ?_) _ _ ?_
  · intro p hp u hv v y rv ry
    obtain ⟨z, hz, rfl⟩ := List.mem_map.mp hp
    have hv : valV (dct Ws fun u => .ref (bd u)) (Sum.inr z) = some u := hv
    rw [dct_val] at hv
    by_cases hm : z ∈ Ws
    · rw [if_pos hm] at hv
      cases hv
      cases rv
      cases ry
      exact row_run I (A := X.A.in1) hu (ha.row z hz) (hb.row z hm)
    · rw [if_neg hm] at hv
      cases hv
  · refine ⟨.bl _, H, I, rfl, ?_⟩
    rw [dct_all (e := keyF fun u => rowB (nb u) (nb' u) (wt u) (wt' u)), ← ra.length, ← rb.length, dct_len, dct_len]
    exact q
end
/-! ### o.m(e, ..), what it may let out told by the slots -/
section
variable {X : Cx} {CX : CXT} {k : Nat} {C : Addr} {sp : Sp} {E : L2.St → XK} {m : Str} {pos apos : Pos} {e o : Expr} {es : List Expr} {ta : TE} {t : TA}
end
/-! ### a def that writes -/
section
variable {X : Cx} {CX : CXT} {k : Nat} {ps : List Str} {sp : Sp} {E : XK} {x : Str} {p pos : Pos} {e : Expr} {es : List Expr} {t : TA}
end
end WkK
/-! sets of texts, any number: set(t), sorted(set) -/
namespace WkZ
open PySem PySem.Spec PyProof.Rows L2 WkD
def txt (e : Int × Value) : Str := match e.2 with | .str z _ => z | _ => Str.empty
def GoodX (w : World) (e : Int × Value) : Prop := ∃ z tk, e.2 = Value.str z tk ∧ e.1 = hashStr w z
structure SetX (w : World) (h : Heap) (a : Addr) (ys : List Str) : Prop where
  ex : ∃ o es ep t, h.get? a = some o ∧ o.ExactSet ∧ o.data = .set es ep t ∧ (∀ e ∈ es.toList, GoodX w e) ∧ (es.toList.map txt).Perm ys ∧ t.fits es.size = true ∧ Ris t.place.toList ∧ (w.params.followText "set-order" = true ∨ t.led = true)
  nd : ys.Nodup
  few : ys.length < 1000
section
variable {P : Program} {w : World} {h h' : Heap} {a : Addr} {ys : List Str}
theorem SetX.keep (R : SetX w h a ys) (k : ∀ o, h.get? a = some o → h'.get? a = some o) : SetX w h' a ys := by
  obtain ⟨⟨o, es, ep, t, ho, r⟩, nd, few⟩ := R
  exact ⟨⟨o, es, ep, t, k _ ho, r⟩, nd, few⟩
end
section
variable {P : Program} {w : World} {A : Around} {E : Value → Shared → Prop} {s : Shared} {a : Addr} {ys : List Str}
end
end WkZ
namespace WkZ
open PySem PySem.Spec PyProof.Rows L2 WkD PySem.W
section
variable {P : Program} {w : World} {A : Around} {R : Result → Shared → Prop} {I : Addr} {fp wr : List Addr} {G : Array GenState → Array GenState → Prop} {n : Nat} {Pv : Nat → Value → Prop} {St : Nat → Shared → Prop}
end
section
variable {P : Program} {w : World} {A : Around} {E : Value → Shared → Prop} {s : Shared}
end
section
variable {X : Cx}
end
end WkZ
/-! defs with *v: their spec, calls of them (also inside try) -/
namespace WkK
open PySem PySem.Spec PyProof.Rows L2
section
variable {P : Program} {w : World} {K : PySem.W.Frag} {mg : Str → Option Value} {base : Heap} {x qual : Str} {params : Arguments} {body : List Stmt} {scope : Scope} {f : Addr} {fd : FuncData}
end
section
variable {X : Cx} {CX : CXT} {k : Nat} {f C : Addr} {sp : Sp} {E : L2.St → XK} {x m : Str} {p pos apos : Pos} {e o : Expr} {es : List Expr} {ta : TE} {t : TA}
end
end WkK
/-! WkCm: classmethods with *names and keyword-only parameters, called with and without the keyword; cls(..) through a local name -/
namespace WkCm
open PySem PySem.Spec PyProof.Rows L2
/-- called with positional values and keywords ks: the promise sees both -/
def FnRK (P : Program) (w : World) (K : PySem.W.Frag) (mg : Str → Option Value) (base : Heap) (CX : CXT) (k : Nat) (f : Addr) (ks : List Str) (sp : List V → Sp) : Prop :=
  ∀ (A : Around) (outer : List Env) (s : Shared) (H : Hp) (us ws : List Value) (vs zs : List V) (Q : VK) (E : XK), Room k A → Env0 P w K mg base A outer s H → Vals vs us → Vals zs ws → zs.length = ks.length → sp zs vs H Q E →
    codeAny (model P w) A (.call (.ref f) ⟨us, ks.zip ws⟩) (CR CX outer P w H s Q E) s
section
variable {CX : CXT} {P : Program} {w : World} {K : PySem.W.Frag} {mg : Str → Option Value} {base : Heap} {k : Nat} {f : Addr}
/-- a def without a star parameter -/
theorem fnrk_of {fd : FuncData} {ps ks : List Str} {sp : Sp} {n : Nat} {g : List Value → List Value → List Value} {gV : List V → List V → List V} (F : FnOk P w K mg base CX k f fd ps sp) (hb : KBn K fd ps n ks g gV) :
    FnRK P w K mg base CX k f ks (fun zs vs H Q E => vs.length = n ∧ sp (gV vs zs) H Q E) := by
  intro A outer s H us ws vs zs Q E hr e0 r rz l2 h
  have KX : K.In s.heap := e0.mod.kin.keeps fun b o e => (e0.bs b o e).1
  exact F.run A outer s H ⟨us, ks.zip ws⟩ (g us ws) (gV vs zs) Q E hr e0 (hb.to s us ws KX (r.length.symm.trans h.1) (rz.length.symm.trans l2)) (hb.rel r rz) h.2
end
section
variable {CX : CXT} {P : Program} {w : World} {K : PySem.W.Frag} {mg : Str → Option Value} {base : Heap} {k : Nat} {f : Addr} {name qual : Str} {params : Arguments} {body : List Stmt} {scope : Scope} {dV kV doc pm cdv ct oc : Value} {an od : Option Addr}
  {osl : Array (Option Value)} {N ps : List Str} {pv : Str} {sp : Sp}
/-- a def whose binding comes down to a new tuple of what is left over -/
theorem run_starB {A : Around} {outer : List Env} {s : Shared} {H : Hp} {args : Args} {Q : VK} {E : XK} {u1 rest : List Value} {ws vr : List V} (lk : K.lookup f = some ⟨oc, od, .func (PySem.W.fnOf name qual params body scope dV kV doc pm an cdv ct), osl⟩) (hcd : PySem.W.codeIn K cdv qual = true) (S : FnScope N (ps ++ [pv]) scope) (hCX : StX.CXUp CX)
    (hr : Room (k + 1) A) (e0 : Env0 P w K mg base A outer s H) (r1 : Vals ws u1) (r2 : Vals vr rest) (hl : ws.length = ps.length) (hz : vr.length ≤ sizeLine)
    (hb : ∀ (A' : Around) (Ex : Value → Shared → Prop) (Q' : List (Str × Value) → Shared → Prop), wpAny (model P w) A' (newTuple rest >>= fun t => pure (ps.zip u1 ++ [(pv, t)])) Q' Ex s → wpAny (model P w) A' (bindArgs (PySem.W.fnOf name qual params body scope dV kV doc pm an cdv ct) args) Q' Ex s)
    (hq : ∀ p, H p = Option.none → sp (ws ++ [V.ref p]) (upd H p (.tup vr)) Q E)
    (hbody : ∀ (A : Around) (outer : List Env) (s : Shared) (H : Hp) (vs : List V) (Q : VK) (E : XK), Room k (A.deeper (envOfC qual scope s.heap.objs.size f cdv)) → sp vs H Q E →
      ∃ t, PSs (cxOf CX P w K mg base N qual scope f cdv A outer s H E) body t ∧ t { nx := fun _ H' => Q .non H', rt := Q } (start N vs) H) :
    codeAny (model P w) A (.call (.ref f) args) (CR CX outer P w H s Q E) s := by
  have hn : H s.heap.objs.size = Option.none := e0.hok.fresh (Nat.le_refl _)
  have hl1 : u1.length = ps.length := by rw [← r1.length]; exact hl
  have hl2 : rest.length ≤ sizeLine := by rw [← r2.length]; exact hz
  refine StX.run_bnd lk hcd S hr e0 (G := fun xs H2 => ∃ p, H p = Option.none ∧ xs = ws ++ [V.ref p] ∧ H2 = upd H p (.tup vr)) (fun A' Ex Q' h => ?_) fun s2 H2 xs ⟨p, hp, ex, eH⟩ hr' => ?_
  · refine hb A' Ex Q' (wpAny_bind (wpAny_newTuple (wpAny_pure ?_) hl2))
    have new : ObjOk P w (upd H s.heap.objs.size (.tup vr)) (s.heap.push ({ cls := .type "tuple", data := .seq rest.toArray } : Obj)) s.heap.objs.size (.tup vr) := ⟨hz, rest, r2, ⟨_, Heap.get?_push_size _ rfl, rfl, _, rfl⟩⟩
    have un := StX.un_laid (fs := frs outer) (s := s) (o := ({ cls := .type "tuple", data := .seq rest.toArray } : Obj)) (u := .tup vr) hn
    have z := h _ _ (ws ++ [V.ref s.heap.objs.size]) (u1 ++ [Value.ref s.heap.objs.size]) (StX.env0_laid e0 new) un rfl (fun e s' => hCX outer s H _ _ E e s' un (fun b o q => Heap.get?_push_of_some _ q) rfl) (r1.append (.cons rfl .nil))
      (by rw [List.length_append, List.length_append, hl] <;> rfl) ⟨_, hn, rfl, rfl⟩
    rw [List.zip_append hl1.symm] at z
    exact z
  · subst ex eH
    exact hbody A outer s2 _ _ Q E hr' (hq p hp)
end
/-- what a def `f(a, *v, k = d)` promises; vs: a and all of v, zs: k's value -/
def spSK (n : Nat) (sp : Sp) : List V → Sp := fun zs vs H Q E => ∃ ws rest, vs = ws ++ rest ∧ ws.length = n ∧ rest.length ≤ sizeLine ∧ ∀ p, H p = Option.none → sp (ws ++ zs ++ [V.ref p]) (upd H p (.tup rest)) Q E
section
variable {P : Program} {w : World} {K : PySem.W.Frag} {mg : Str → Option Value} {base : Heap} {x qual : Str} {params : Arguments} {body : List Stmt} {scope : Scope} {f : Addr} {fd : FuncData}
variable {CX : CXT} {N : List Str} {p1 pv kw : Str} {dv : V} {k : Nat} {sp : Sp}
/-- called without the keyword -/
theorem star_kw0 (F : FunD K x qual params body scope [] [(kw, dv)] f fd) (S : FnScope N ([p1, kw] ++ [pv]) scope) (hCX : StX.CXUp CX)
    (hb : ∀ (D : Addr) (doc pm : Value) (an : Option Addr) (cdv ct : Value) (u z : Value) (rest : List Value), ∃ (β γ : Type) (k1 : Option Value → Sem β) (k2 : β → Sem γ) (k3 : γ → Sem (List (Str × Value))) (a : β),
      bindArgs (PySem.W.fnOf x qual params body scope .none (.ref D) doc pm an cdv ct) ⟨u :: rest, []⟩ = ((nsGet D kw >>= k1) >>= k2) >>= k3 ∧ k1 (some z) = pure a ∧ (k2 a >>= k3) = (newTuple rest >>= fun t => pure ([p1, kw].zip [u, z] ++ [(pv, t)])))
    (hbody : ∀ (cdv : Value) (A : Around) (outer : List Env) (s : Shared) (H : Hp) (vs : List V) (Q : VK) (E : XK), Room k (A.deeper (envOfC qual scope s.heap.objs.size f cdv)) → sp vs H Q E →
      ∃ t, PSs (cxOf CX P w K mg base N qual scope f cdv A outer s H E) body t ∧ t { nx := fun _ H' => Q .non H', rt := Q } (start N vs) H) : FnR P w K mg base CX (k + 1) f (spSK 1 sp [dv]) := by
  obtain ⟨oc, od, dV, kV, doc, pm, an, cdv, ct, osl, rfl, lk, hcd, hD, hK⟩ := F.ex
  rcases hD with ⟨_, rfl⟩ | ⟨e, _⟩
  case inr => exact absurd rfl e
  rcases hK with e | ⟨D, rfl, hq⟩
  · exact absurd e (by simp)
  intro A outer s H us vs Q E hr e0 r hsp
  obtain ⟨ws, rest, ev, hl, hz, hq2⟩ := hsp
  subst ev
  obtain ⟨u1, u2, eu, r1, r2⟩ := StX.vals_split r
  subst eu
  obtain ⟨z, hz1, rz⟩ := hq (kw, dv) List.mem_cons_self
  have l1 : u1.length = 1 := by rw [← r1.length]; exact hl
  obtain ⟨u, rfl⟩ := List.length_eq_one_iff.mp l1
  have KX : K.In s.heap := e0.mod.kin.keeps fun b o e => (e0.bs b o e).1
  refine run_starB (u1 := [u, z]) (ws := ws ++ [dv]) lk hcd S hCX hr e0 (r1.append (.cons rz .nil)) r2 (by rw [List.length_append, hl]; rfl) hz (fun A' Ex Q' h => ?_) hq2 (hbody cdv)
  obtain ⟨β, γ, k1, k2, k3, a, e1, e2, e3⟩ := hb D doc pm an cdv ct u z u2
  show wpAny _ _ (bindArgs _ ⟨u :: u2, []⟩) _ _ _
  rw [e1, bind_assoc]
  have l1 : PySem.W.Looks (model P w) s.heap (nsGet D kw >>= k1) a := (PySem.W.looks_nsIn KX hz1).andThen (PySem.W.Looks.of_pure e2)
  refine wpAny_bind (l1.here ?_)
  show wpAny _ _ (k2 a >>= k3) _ _ _
  rw [e3]
  exact h
/-- called with it -/
theorem star_kw1 (F : FunD K x qual params body scope [] [(kw, dv)] f fd) (S : FnScope N ([p1, kw] ++ [pv]) scope) (hCX : StX.CXUp CX)
    (hb : ∀ (kV doc pm : Value) (an : Option Addr) (cdv ct : Value) (u z : Value) (rest : List Value), bindArgs (PySem.W.fnOf x qual params body scope .none kV doc pm an cdv ct) ⟨u :: rest, [(kw, z)]⟩ = (newTuple rest >>= fun t => pure ([p1, kw].zip [u, z] ++ [(pv, t)])))
    (hbody : ∀ (cdv : Value) (A : Around) (outer : List Env) (s : Shared) (H : Hp) (vs : List V) (Q : VK) (E : XK), Room k (A.deeper (envOfC qual scope s.heap.objs.size f cdv)) → sp vs H Q E →
      ∃ t, PSs (cxOf CX P w K mg base N qual scope f cdv A outer s H E) body t ∧ t { nx := fun _ H' => Q .non H', rt := Q } (start N vs) H) : FnRK P w K mg base CX (k + 1) f [kw] (spSK 1 sp) := by
  obtain ⟨oc, od, dV, kV, doc, pm, an, cdv, ct, osl, rfl, lk, hcd, hD, _⟩ := F.ex
  rcases hD with ⟨_, rfl⟩ | ⟨e, _⟩
  case inr => exact absurd rfl e
  intro A outer s H us zz vs zs Q E hr e0 r rz lz hsp
  obtain ⟨ws, rest, ev, hl, hz, hq2⟩ := hsp
  subst ev
  obtain ⟨u1, u2, eu, r1, r2⟩ := StX.vals_split r
  subst eu
  have l1 : u1.length = 1 := by rw [← r1.length]; exact hl
  obtain ⟨u, rfl⟩ := List.length_eq_one_iff.mp l1
  have l2 : zz.length = 1 := by rw [← rz.length]; exact lz
  obtain ⟨z, rfl⟩ := List.length_eq_one_iff.mp l2
  refine run_starB (u1 := [u, z]) (ws := ws ++ zs) lk hcd S hCX hr e0 (r1.append rz) r2 (by rw [List.length_append, hl, lz]; rfl) hz (fun A' Ex Q' h => ?_) hq2 (hbody cdv)
  show wpAny _ _ (bindArgs _ ⟨u :: u2, [(kw, z)]⟩) _ _ _
  rw [hb kV doc pm an cdv ct u z u2]
  exact h
end
/-! ### calls -/
section
variable {X : Cx} {pins : List (Addr × Obj)} {σ : L2.St} {H : Hp} {s : Shared} {C g : Addr}
theorem run_cmK {CX : CXT} {k : Nat} {q : Addr} {ks : List Str} {sp : List V → Sp} {E : XK} {Q : VK} {us ws : List Value} {vs zs : List V} (F : FnRK X.prog X.w X.K X.mg X.base CX k g ks sp) (hr : Room k X.A) (hx : Passes CX X E) (I : Inv X ((q, PySem.W.methodObj (.ref g) (.ref C)) :: pins) σ H s)
    (r : Vals vs us) (rz : Vals zs ws) (lz : zs.length = ks.length) (h : sp zs (.ref C :: vs) H Q E) : wpAny (model X.prog X.w) X.A (call (.ref q) us (ks.zip ws)) (EP X pins σ Q) X.xe s := by
  have z : wpAny (model X.prog X.w) X.A (call (.ref q) us (ks.zip ws)) (EP X ((q, PySem.W.methodObj (.ref g) (.ref C)) :: pins) σ Q) X.xe s := by
    refine wpAny_call (PySem.W.method_call (ClX.pin_at I) (codeAny_mono (F X.A X.stack s H (.ref C :: us) ws (.ref C :: vs) zs Q E hr I.env0 (.cons rfl r) rz lz h) fun r s' hq => ?_))
    cases r with
    | error e => exact hx _ σ H s e s' I hq
    | ok fl =>
      cases fl with
      | ret u => exact I.after hq
      | next => exact False.elim hq
      | brk => exact False.elim hq
      | cont => exact False.elim hq
  exact thn z fun _ _ y => ClX.unpinE y
end
/-- e.m(.., k = v), e the class at C, m a classmethod -/
def tCMethK (C : Addr) (sp : List V → Sp) (E : XK) (ta : TE) (t tk : TA) (m : Nat) : TE := fun σ H Q => ta σ H fun x H1 => x = .ref C ∧ t σ H1 fun vs H2 => tk σ H2 fun zs H3 => zs.length = m ∧ sp zs (.ref C :: vs) H3 Q E
section
variable {X : Cx} {CX : CXT} {k : Nat} {C p g : Addr} {mc : Value} {E : XK} {o e : Expr} {es : List Expr} {kws : List Keyword} {m : Str} {pos apos : Pos} {ta : TE} {t tk : TA} {pl : Sem Bool} {ks : List Str} {sp : List V → Sp}
theorem pe_cmethK (he : PE X o ta) (r : ClX.CRead X.K C mc) (c : ClX.CMet X.K C mc m p g) (F : FnRK X.prog X.w X.K X.mg X.base CX k g ks sp) (hr : Room k X.A) (hx : Passes CX X E) (ha : PA X (e :: es) t) (hkw : PK X kws tk)
    (hall : (backToKw pos (keywordEach kws X.env)).all (·.1.isSome) = true := by rfl) (hks : (backToKw pos (keywordEach kws X.env)).filterMap (·.1) = ks := by rfl)
    (hst : starEach (e :: es) X.env = (false, eval e X.env) :: starEach es X.env := by rfl) (hpl : ((backTo pos (starEach (e :: es) X.env)).any (·.1) || (backToKw pos (keywordEach kws X.env)).any (·.1.isNone)) = false := by rfl)
    (ht : eval (.Call (.Attribute o m apos) (e :: es) kws pos) X.env = (do
      let ov ← eval o X.env
      standAt apos.atName
      let (f, first) ← holding [ov] (getMethod ov m pl)
      callWith pos f first (backTo pos (starEach (e :: es) X.env)) (backToKw pos (keywordEach kws X.env))) := by rfl) :
    PE X (.Call (.Attribute o m apos) (e :: es) kws pos) (tCMethK C sp E ta t tk ks.length) := by
  refine ⟨fun pins s σ H Q I h => ?_⟩
  refine PySem.W.methodCall_KW (pl := pl) (thn (he.run pins s σ H _ I h) fun u s1 ⟨x, H1, I1, rx, ex, q⟩ => ?_) ht
  subst ex
  obtain rfl : u = Value.ref C := rx
  refine ClX.getmethcm_ok I1 r c fun s2 I2 => ?_
  refine PySem.W.callWith_of (P := PySem.W.MethP X.K s1.heap.objs.size g (.ref C)) hpl (PySem.W.keeps_M c.fi) (evalArgs_kw2 hall (thn (ha.run pos _ s2 σ H1 _ I2 q) fun us s3 ⟨vs, H2, I3, rv, q2⟩ => ?_) hst)
  refine thn (hkw.run pos _ s3 σ H2 _ I3 q2) fun ws s4 ⟨zs, H3, I4, rz, lz, q3⟩ => ⟨⟨ClX.pin_at I4, I4.kIn⟩, ?_⟩
  rw [hks]
  exact run_cmK F hr hx I4 rv rz lz q3
end
/-! ### cls(..), cls a local name that holds the class at C -/
def tMakeL (i : Nat) (C : Addr) (sp : Sp) (dvs : List V) (E : XK) (t : TA) : TE := fun σ H Q => σ[i]? = some (some (.ref C)) ∧ tMake C sp dvs E t σ H Q
section
variable {X : Cx} {CX : CXT} {k i : Nat} {f C : Addr} {fd : FuncData} {ps : List Str} {sp : Sp} {dvs : List V} {ds : List Value} {E : XK} {x : Str} {p pos : Pos} {e : Expr} {es : List Expr} {t : TA}
theorem pe_makeL (M : Mk X.K C f) (F : FnOk X.prog X.w X.K X.mg X.base CX k f fd ps sp) (hr : Room (k + 1) X.A) (hN : X.N[i]? = some x) (hv : Vis X.env.scope x) (hb : Binds X.K fd ps ds) (hd : Vals dvs ds) (hx : Passes CX X E) (ha : PA X (e :: es) t)
    (hdb : (x == ("__debug__" : Str)) = false := by decide) (hcd : (x == ("__classdict__" : Str)) = false := by decide)
    (he : starEach (e :: es) X.env = (false, eval e X.env) :: starEach es X.env := by rfl) (hpl : (backTo pos (starEach es X.env)).any (·.1) = false := by rfl) : PE X (.Call (.Name x p) (e :: es) [] pos) (tMakeL i C sp dvs E t) := by
  refine ⟨fun pins s σ H Q I h => ?_⟩
  obtain ⟨hs, ht⟩ := h
  refine wpAny_Call_Name_kw (thn ((pe_var (pos := p) hN hv hdb hcd).run pins s σ H (fun v H1 => v = .ref C ∧ H1 = H) I ⟨.ref C, hs, rfl, rfl⟩) fun u s1 ⟨v, H1, I1, r1, q1⟩ => ?_)
  obtain ⟨rfl, rfl⟩ := q1
  cases r1
  refine PySem.W.callWith_K (h₀ := X.base) I.ok.mod.kin M.kp (thn (ha.run pos pins s1 σ _ _ I1 ht) fun us s2 ⟨vs, H2, I2, r, q⟩ => ⟨I2.kIn, ?_⟩) he hpl
  exact run_make M F hr hb hd hx I2 r q
end
/-- the class at C, called with defaults dvs -/
def MakeV (P : Program) (w : World) (K : PySem.W.Frag) (mg : Str → Option Value) (base : Heap) (CX : CXT) (C : Addr) (k : Nat) (sp : Sp) (dvs : List V) : Prop := ∃ f fd ps ds, Mk K C f ∧ FnOk P w K mg base CX k f fd ps sp ∧ Binds K fd ps ds ∧ Vals dvs ds
theorem pe_mkL {X : Cx} {CX : CXT} {k i : Nat} {C : Addr} {sp : Sp} {dvs : List V} {E : XK} {x : Str} {p pos : Pos} {e : Expr} {es : List Expr} {t : TA} (M : MakeV X.prog X.w X.K X.mg X.base CX C k sp dvs) (hr : Room (k + 1) X.A) (hN : X.N[i]? = some x) (hv : Vis X.env.scope x) (hx : Passes CX X E) (ha : PA X (e :: es) t)
    (hdb : (x == ("__debug__" : Str)) = false := by decide) (hcd : (x == ("__classdict__" : Str)) = false := by decide)
    (he : starEach (e :: es) X.env = (false, eval e X.env) :: starEach es X.env := by rfl) (hpl : (backTo pos (starEach es X.env)).any (·.1) = false := by rfl) : PE X (.Call (.Name x p) (e :: es) [] pos) (tMakeL i C sp dvs E t) := by
  obtain ⟨f, fd, ps, ds, h1, h2, h3, h4⟩ := M
  exact pe_makeL h1 h2 hr hN hv h3 h4 hx ha hdb hcd he hpl
/-! ### the head's facts -/
/-- the def of a classmethod -/
def cmfA (K : PySem.W.Frag) (C : Addr) (m : Str) : Addr := match PySem.W.recIn K (He.ma K C m) "classmethod" with
  | some (.ref f :: _) => f
  | _ => 0
def cmB (K : PySem.W.Frag) (C : Addr) (m : Str) : Bool := (match PySem.W.findCls K (.ref C) (.type "type") m with
    | some (.get (.builtin g) (.ref p) .none (.ref D)) => decide (g = "classmethod.__get__") && (decide (p = He.ma K C m) && decide (D = C))
    | _ => false) && ((match PySem.W.recIn K (He.ma K C m) "classmethod" with
    | some (.ref _ :: _) => true
    | _ => false) && PySem.W.fnIn K (cmfA K C m))
theorem cmB_ok {K : PySem.W.Frag} {C : Addr} {m : Str} (h : cmB K C m = true) : ClX.CMet K C (.type "type") m (He.ma K C m) (cmfA K C m) := by
  unfold cmB at h
  obtain ⟨h1, h⟩ := He.ba h
  obtain ⟨h2, h3⟩ := He.ba h
  refine ⟨?_, ?_, h3⟩
  · clear h2
    split at h1
    · rename_i g p D e
      obtain ⟨k1, k⟩ := He.ba h1
      obtain ⟨k2, k3⟩ := He.ba k
      rw [e, of_decide_eq_true k1, of_decide_eq_true k2, of_decide_eq_true k3]
    · cases h1
  · unfold cmfA
    split at h2
    · rename_i f r e
      exact ⟨r, by rw [e]⟩
    · cases h2
end WkCm
namespace Wk
open PySem PySem.Spec PyProof.Rows L2
/-! ### heaps -/
/-- all that was tracked, but p, is as it was -/
def But (p : Addr) (H H' : Hp) : Prop := ∀ b o, H b = some o → b ≠ p → H' b = some o
theorem But.refl (p : Addr) (H : Hp) : But p H H := fun _ _ e _ => e
theorem But.trans {p : Addr} {H H1 H2 : Hp} (a : But p H H1) (b : But p H1 H2) : But p H H2 := fun c o e h => b c o (a c o e h) h
theorem But.of_same {p : Addr} {H H1 : Hp} (a : Same H H1) : But p H H1 := fun c o e _ => a c o e
theorem same_upd {H : Hp} {a : Addr} {o : HO} (h : H a = none) : Same H (upd H a o) := fun b u e => by
  rw [upd_ne (ne_of_none e h)]
  exact e
theorem But.upd {p : Addr} {H H1 : Hp} {o : HO} (a : But p H H1) : But p H (L2.upd H1 p o) := fun c u e h => by
  rw [upd_ne h]
  exact a c u e h
theorem But.put {p q : Addr} {H H1 : Hp} {o : HO} (a : But p H H1) (h : H q = none) : But p H (L2.upd H1 q o) := fun c u e hc => by
  rw [upd_ne (ne_of_none e h)]
  exact a c u e hc
/-- a new object: what is known of the heap behind it -/
theorem new_eq {H G : Hp} {p : Addr} {o : HO} (n : H p = none) (h : upd H p o = G) : Same H G ∧ G p = some o := by
  subst h
  exact ⟨same_upd n, upd_same⟩
/-- a comprehension's turn without a test -/
theorem tYes_if {σ : L2.St} {H : Hp} {A B : Hp → Prop} (h : A H) : tYes σ H fun b H3 => if b = true then A H3 else B H3 := by
  show if true = true then A H else B H
  exact iteT h
/-! ### the pen -/
def penL (cs : Addr) (t r : Int) : List (Key × V) := [(Sum.inr "cells", .ref cs), (Sum.inr "turn", .int t), (Sum.inr "rest", .int r)]
def penO (cs : Addr) (t r : Int) : HO := .dK (penL cs t r)
/-- a pen at p, its cells at cs; it was turned at most N times -/
structure Pen (H : Hp) (p cs : Addr) (N : Nat) : Prop where
  pen : ∃ t r : Int, H p = some (penO cs t r) ∧ 0 ≤ t ∧ t ≤ (N : Int) ∧ 0 ≤ r
  cells : ∃ ns : List Int, H cs = some (.lst (ns.map V.int)) ∧ ns.length ≤ 63
theorem Pen.ne {H : Hp} {p cs : Addr} {N : Nat} (P : Pen H p cs N) : cs ≠ p := by
  obtain ⟨⟨t, r, h1, _⟩, ns, h2, _⟩ := P
  exact ne_of h2 h1 (by intro z; cases z)
theorem Pen.mono {H : Hp} {p cs : Addr} {N M : Nat} (P : Pen H p cs N) (h : N ≤ M) : Pen H p cs M := by
  obtain ⟨⟨t, r, h1, h2, h3, h4⟩, hc⟩ := P
  exact ⟨⟨t, r, h1, h2, by omega, h4⟩, hc⟩
theorem Pen.same {H H' : Hp} {p cs : Addr} {N : Nat} (P : Pen H p cs N) (s : Same H H') : Pen H' p cs N := by
  obtain ⟨⟨t, r, h1, h2⟩, ns, h3, h4⟩ := P
  exact ⟨⟨t, r, s _ _ h1, h2⟩, ns, s _ _ h3, h4⟩
/-- an object that is no part of the pen is changed or laid -/
theorem Pen.put {H : Hp} {p cs q : Addr} {N : Nat} {o : HO} (P : Pen H p cs N) (h1 : q ≠ p) (h2 : q ≠ cs) : Pen (upd H q o) p cs N := by
  obtain ⟨⟨t, r, a1, a2⟩, ns, a3, a4⟩ := P
  exact ⟨⟨t, r, by rw [upd_ne (Ne.symm h1)]; exact a1, a2⟩, ns, by rw [upd_ne (Ne.symm h2)]; exact a3, a4⟩
theorem Pen.new {H : Hp} {p cs q : Addr} {N : Nat} {o : HO} (P : Pen H p cs N) (h : H q = none) : Pen (upd H q o) p cs N := P.same (same_upd h)
/-- what was free ahead is no part of the pen -/
theorem Pen.free {H : Hp} {p cs q : Addr} {N : Nat} (P : Pen H p cs N) (h : H q = none) : q ≠ p ∧ q ≠ cs := by
  obtain ⟨⟨t, r, a1, a2⟩, ns, a3, a4⟩ := P
  exact ⟨Ne.symm (ne_of_none a1 h), Ne.symm (ne_of_none a3 h)⟩
theorem pen_turn (cs : Addr) (t r u : Int) : putK (penL cs t r) (Sum.inr "turn" : Key) (.int u) = penL cs u r := by
  unfold penL putK
  rfl
theorem pen_rest (cs : Addr) (t r u : Int) : putK (penL cs t r) (Sum.inr "rest" : Key) (.int u) = penL cs t u := by
  unfold penL putK
  rfl
theorem pen_g1 (cs : Addr) (t r : Int) : valV (penL cs t r) (Sum.inr "cells" : Key) = some (.ref cs) := by rfl
theorem pen_g2 (cs : Addr) (t r : Int) : valV (penL cs t r) (Sum.inr "turn" : Key) = some (.int t) := by rfl
theorem pen_g3 (cs : Addr) (t r : Int) : valV (penL cs t r) (Sum.inr "rest" : Key) = some (.int r) := by rfl
/-- pen['turn'] .. -/
theorem get_cells {H : Hp} {p cs : Addr} {t r : Int} (h : H p = some (penO cs t r)) : DGet H p (.str "cells") (some (.ref cs)) := by
  have e := DGet.k (k := Sum.inr "cells") h
  rw [pen_g1] at e
  exact e
theorem get_turn {H : Hp} {p cs : Addr} {t r : Int} (h : H p = some (penO cs t r)) : DGet H p (.str "turn") (some (.int t)) := by
  have e := DGet.k (k := Sum.inr "turn") h
  rw [pen_g2] at e
  exact e
theorem get_rest {H : Hp} {p cs : Addr} {t r : Int} (h : H p = some (penO cs t r)) : DGet H p (.str "rest") (some (.int r)) := by
  have e := DGet.k (k := Sum.inr "rest") h
  rw [pen_g3] at e
  exact e
theorem put_turn {H : Hp} {p cs : Addr} {t r u : Int} (h : H p = some (penO cs t r)) : DPut H p (.str "turn") (.int u) (upd H p (penO cs u r)) := by
  have e := DPut.k (k := Sum.inr "turn") (v := .int u) h (by show 3 < sizeLine; decide)
  rw [pen_turn] at e
  exact e
theorem put_rest {H : Hp} {p cs : Addr} {t r u : Int} (h : H p = some (penO cs t r)) : DPut H p (.str "rest") (.int u) (upd H p (penO cs t u)) := by
  have e := DPut.k (k := Sum.inr "rest") (v := .int u) h (by show 3 < sizeLine; decide)
  rw [pen_rest] at e
  exact e

/-! ### names of built-ins that the module leaves as they are -/
structure Bi (mg : Str → Option Value) : Prop where
  n_abs : mg "abs" = none
  n_all : mg "all" = none
  n_any : mg "any" = none
  n_bool : mg "bool" = none
  n_dict : mg "dict" = none
  n_enumerate : mg "enumerate" = none
  n_int : mg "int" = none
  n_isinstance : mg "isinstance" = none
  n_len : mg "len" = none
  n_list : mg "list" = none
  n_max : mg "max" = none
  n_min : mg "min" = none
  n_range : mg "range" = none
  n_repr : mg "repr" = none
  n_set : mg "set" = none
  n_sorted : mg "sorted" = none
  n_str : mg "str" = none
  n_sum : mg "sum" = none
  n_tuple : mg "tuple" = none
  n_zip : mg "zip" = none
  n_reversed : mg "reversed" = none
  n_super : mg "super" = none
  n_ValueError : mg "ValueError" = none
  n_LookupError : mg "LookupError" = none
  n_KeyError : mg "KeyError" = none
  n_IndexError : mg "IndexError" = none
  n_ArithmeticError : mg "ArithmeticError" = none
  n_OverflowError : mg "OverflowError" = none
  n_ZeroDivisionError : mg "ZeroDivisionError" = none
  n_RuntimeError : mg "RuntimeError" = none
  n_TypeError : mg "TypeError" = none
theorem cut_map {α : Type} (f : α → V) (ns : List α) (lo hi : Option Int) : ∃ ms : List α, cutV (ns.map f) lo hi = ms.map f ∧ ms.length ≤ ns.length := by
  refine ⟨(ns.drop (HT.sIx (ns.map f).length 0 lo)).take (HT.sIx (ns.map f).length (ns.map f).length hi - HT.sIx (ns.map f).length 0 lo), ?_, ?_⟩
  · unfold cutV
    rw [List.map_take, List.map_drop]
  · rw [List.length_take, List.length_drop]
    omega
/-! ### a def of the text, and how it is called -/
def Def (K : PySem.W.Frag) (mg : Str → Option Value) (x : Str) (st : Stmt) : Prop := ∃ f fd, FnP K x x st f fd ∧ mg x = some (.ref f)
/-- what a caller takes of a def -/
def Callee (P : Program) (w : World) (K : PySem.W.Frag) (mg : Str → Option Value) (base : Heap) (CX : CXT) (k : Nat) (x : Str) (ps : List Str) (sp : Sp) : Prop :=
  ∃ f fd, FnOk P w K mg base CX k f fd ps sp ∧ mg x = some (.ref f) ∧ PySem.W.keepIn K (.ref f) = true ∧ Binds K fd ps []
section
variable {X : Cx} {CX : CXT} {k : Nat} {ps : List Str} {sp : Sp} {E : XK} {x : Str} {p pos : Pos} {e : Expr} {es : List Expr} {t : TA}
theorem pe_c (C : Callee X.prog X.w X.K X.mg X.base CX k x ps sp) (hr : Room k X.A) (hx : Passes CX X E) (ha : PA X (e :: es) t) (hg : Gl X x := by rfl) (hdb : (x == ("__debug__" : Str)) = false := by decide)
    (he : starEach (e :: es) X.env = (false, eval e X.env) :: starEach es X.env := by rfl) (hpl : (backTo pos (starEach es X.env)).any (·.1) = false := by rfl) : PE X (.Call (.Name x p) (e :: es) [] pos) (tCall sp [] E t) := by
  obtain ⟨f, fd, F, g, kp, b⟩ := C
  exact pe_call F hr hg g kp b .nil hx ha hdb he hpl
end
section
variable {P : Program} {w : World} {K : PySem.W.Frag} {mg : Str → Option Value} {base : Heap}
theorem fm {x m : Int} (h : 1 ≤ m) : 0 ≤ x.fmod m ∧ x.fmod m < m := by
  rw [Int.fmod_eq_emod_of_nonneg x (by omega)]
  exact ⟨Int.emod_nonneg x (by omega), Int.emod_lt_of_pos x (by omega)⟩
theorem fq {x m : Int} (h : 1 ≤ m) (hx : 0 ≤ x) : 0 ≤ x.fdiv m := by
  rw [Int.fdiv_eq_ediv_of_nonneg x (by omega)]
  exact Int.ediv_nonneg hx (by omega)
theorem at_ints {ns : List Int} {i : Int} (h0 : 0 ≤ i) (h1 : i < (ns.length : Int)) : ∃ c, atI (ns.map V.int) i = some (.int c) := by
  have hj : i.toNat < ns.length := by omega
  refine ⟨ns[i.toNat], at_of (j := i.toNat) (by omega) ?_⟩
  rw [List.getElem?_map, List.getElem?_eq_getElem hj]
  rfl
theorem at_primes {i : Int} (h : 0 ≤ i ∧ i < 5) : ∃ p : Int, atI [.int 2147483647, .int 2147483629, .int 2147483587, .int 2147483579, .int 2147483563] i = some (V.int p) ∧ 2147483563 ≤ p ∧ p ≤ 2147483647 := by
  have e : i = 0 ∨ i = 1 ∨ i = 2 ∨ i = 3 ∨ i = 4 := by omega
  rcases e with rfl | rfl | rfl | rfl | rfl
  · exact ⟨_, rfl, by decide, by decide⟩
  · exact ⟨_, rfl, by decide, by decide⟩
  · exact ⟨_, rfl, by decide, by decide⟩
  · exact ⟨_, rfl, by decide, by decide⟩
  · exact ⟨_, rfl, by decide, by decide⟩
/-! ### _law_pen -/
def spPen (K : PySem.W.Frag) : Sp := fun vs H Q _ => ∃ (a : Addr) (ns : List Int), vs = [.ref a] ∧ SqL K H a (ns.map V.int) ∧ ns.length ≤ 63 ∧ ∀ p cs H', H p = none → H cs = none → Same H H' → Pen H' p cs 0 → Q (.ref p) H'
theorem sc_pen : FnScope ["_law_script"] ["_law_script"] (defScope s_L_pen) := ⟨rfl, rfl, rfl, by decide +kernel, rfl, by decide +kernel, by decide +kernel⟩
theorem c_pen (D : Def K mg "_law_pen" s_L_pen) (B : Bi mg) : Callee P w K mg base CX0 1 "_law_pen" ["_law_script"] (spPen K) := by
  obtain ⟨f, fd, F, g⟩ := D
  refine ⟨f, fd, F.ok sc_pen (fun vs H Q E h => ?_) (fun cdv A outer s H vs Q E hr h => ⟨_, PSs.nox (pss_one (ps_ret (pe_disp (pps_cons pe_str (pe_callTy call_list_of (by rfl) B.n_list (by decide +kernel) (pa_cons (pe_slice sl_list (pv 0) po_none (po_some pe_int)) pa_nil)) (pps_cons pe_str pe_int (pps_cons pe_str pe_int pps_nil))) (by rfl) (by rfl) (fun z => by cases z) (by decide)))), ?_⟩), g, F.kp, F.bindsN (fun _ _ _ _ _ _ us hl => match us, hl with | [_], _ => rfl)⟩
  · obtain ⟨a, ns, rfl, _⟩ := h
    rfl
  · obtain ⟨a, ns, rfl, hS, hl, k⟩ := h
    intro p np
    have s1 : Same H (upd H p (.dK [])) := same_upd np
    refine ⟨_, rfl, _, rfl, a, _, rfl, s1.seq hS, fun q nq => ?_⟩
    refine ⟨q, _, rfl, .inl (SqL.of upd_same), fun cs ncs => ?_⟩
    obtain ⟨ms, em, hm⟩ := cut_map V.int ns none (some 63)
    have nqp : q ≠ p := fun z => by
      rw [z, upd_same] at nq
      cases nq
    have ncp : cs ≠ p := fun z => by
      rw [z, upd_ne (Ne.symm nqp), upd_same] at ncs
      cases ncs
    have ncq : cs ≠ q := fun z => by
      rw [z, upd_same] at ncs
      cases ncs
    refine ⟨?_, [(Sum.inr "cells", .ref cs), (Sum.inr "turn", .int 0), (Sum.inr "rest", .int 0)], rfl, (by show 3 ≤ 15; decide), ?_⟩
    · rw [upd_ne (Ne.symm ncp), upd_ne (Ne.symm nqp), upd_same]
    · have n1 : H cs = none := by
        rw [upd_ne ncq, upd_ne ncp] at ncs
        exact ncs
      have n2 : H q = none := by
        rw [upd_ne nqp] at nq
        exact nq
      refine k p cs _ np n1 (fun b o e => ?_) ⟨⟨0, 0, upd_same, by omega, by omega, by omega⟩, ms, ?_, by omega⟩
      · rw [upd_ne (ne_of_none e np), upd_ne (ne_of_none e n1), upd_ne (ne_of_none e n2), upd_ne (ne_of_none e np)]
        exact e
      · rw [upd_ne ncp, upd_same, em]
/-! ### _law_draw -/
def spDraw : Sp := fun vs H Q _ => ∃ (p cs : Addr) (m : Int) (N : Nat), vs = [.ref p, .int m] ∧ 1 ≤ m ∧ m < 1073741824 ∧ Pen H p cs N ∧ N < 2 ^ 60 ∧
  ∀ i H', 0 ≤ i → i < m → But p H H' → Pen H' p cs (N + 1) → Q (.int i) H'
theorem sc_draw : FnScope ["_law_pen_here", "_law_many", "_law_digit", "_law_turn", "_law_cell", "_law_primes", "_law_prime", "_law_drawn"] ["_law_pen_here", "_law_many"] (defScope s_L_draw) := ⟨rfl, rfl, rfl, by decide +kernel, rfl, by decide +kernel, by decide +kernel⟩
theorem c_draw (D : Def K mg "_law_draw" s_L_draw) (B : Bi mg) : Callee P w K mg base CX0 1 "_law_draw" ["_law_pen_here", "_law_many"] spDraw := by
  obtain ⟨f, fd, F, g⟩ := D
  refine ⟨f, fd, F.ok sc_draw (fun vs H Q E h => ?_) (fun cdv A outer s H vs Q E hr h => ?_), g, F.kp, F.bindsN (fun _ _ _ _ _ _ us hl => match us, hl with | [_, _], _ => rfl)⟩
  · obtain ⟨p, cs, m, N, rfl, _⟩ := h
    rfl
  · have hu := hu_of hr
    have nd := sc_draw.nd
    refine ⟨_, PSs.nox (pss_cons (ps_if (pt_cmpR op_gt (pe_dget hu (pv 0) pe_str (fun _ _ => rfl)) pe_int (nomark _))
      (pss_cons (ps_set (i := 2) nd rfl (Or.inl rfl) (pe_op op_modN (pe_dget hu (pv 0) pe_str (fun _ _ => rfl)) (pv 1)))
      (pss_cons (ps_dput hu (pv 0) pe_str (pe_op op_fdivN (pe_dget hu (pv 0) pe_str (fun _ _ => rfl)) (pv 1)) rfl)
      (pss_one (ps_ret (pv 2))))) pss_nil)
      (pss_cons (ps_set (i := 3) nd rfl (Or.inl rfl) (pe_dget hu (pv 0) pe_str (fun _ _ => rfl)))
      (pss_cons (ps_dput hu (pv 0) pe_str (pe_op op_add (pv 3) pe_int) rfl)
      (pss_cons (ps_set (i := 4) nd rfl (Or.inl rfl) (pe_op op_add (pe_op op_mul pe_int (pv 3)) pe_int))
      (C8.pss_cut (ps_if (pt_cmpR (WkG.op_neNil hr.units) (pe_dget hu (pv 0) pe_str (fun _ _ => rfl)) (pe_lst pa_nil) (nomark _))
      (pss_one (ps_set (i := 4) nd rfl (Or.inl rfl) (pe_ix ix_list (pe_dget hu (pv 0) pe_str (fun _ _ => rfl)) (pe_op op_modN (pv 3) (pe_callB call_len_seq (by rfl) B.n_len (by decide +kernel) (pa_cons (pe_dget hu (pv 0) pe_str (fun _ _ => rfl)) pa_nil))) (fun _ _ => rfl)))) pss_nil)
      (C8.pss_cut (ps_if (PW.pt (pw_and (pt_cmpR op_lt (pv 3) (pe_callB call_len_seq (by rfl) B.n_len (by decide +kernel) (pa_cons (pe_dget hu (pv 0) pe_str (fun _ _ => rfl)) pa_nil)) (nomark _)) (pw_and1 (pt_cmpR op_ge (pe_callB call_abs (by rfl) B.n_abs (by decide +kernel) (pa_cons (pv 4) pa_nil)) (pe_op op_pow pe_int pe_int) (nomark _)))))
      (pss_cons (ps_dput hu (pv 0) pe_str (pe_op op_fdivN (pe_op op_sub (pe_callB call_abs (by rfl) B.n_abs (by decide +kernel) (pa_cons (pv 4) pa_nil)) (pe_op op_pow pe_int pe_int)) (pv 1)) rfl)
      (pss_one (ps_ret (pe_op op_modN (pe_op op_sub (pe_callB call_abs (by rfl) B.n_abs (by decide +kernel) (pa_cons (pv 4) pa_nil)) (pe_op op_pow pe_int pe_int)) (pv 1))))) pss_nil)
      (pss_cons (ps_set (i := 5) nd rfl (Or.inl rfl) (pe_lst (pa_cons pe_int (pa_cons pe_int (pa_cons pe_int (pa_cons pe_int (pa_cons pe_int pa_nil)))))))
      (pss_cons (ps_set (i := 6) nd rfl (Or.inl rfl) (pe_ix ix_list (pv 5) (pe_op op_modN (pv 3) pe_int) (fun _ _ => rfl)))
      (pss_cons (ps_set (i := 7) nd rfl (Or.inl rfl) (pe_op op_modN (pe_op op_add (pe_op op_add (pe_op op_mul (pe_op op_modN (pv 4) (pv 6)) pe_int) (pe_op op_mul (pe_op op_mul pe_int (pv 3)) (pv 3))) pe_int) (pv 6)))
      (pss_cons (ps_set (i := 7) nd rfl (Or.inl rfl) (pe_op op_modN (pe_op op_mul (pv 7) (pe_op op_add (pv 7) pe_int)) (pe_ix ix_list (pv 5) (pe_op op_modN (pe_op op_add (pv 3) pe_int) pe_int) (fun _ _ => rfl))))
      (pss_one (ps_ret (pe_op op_modN (pe_op op_fdivN (pe_op op_modN (pe_op op_mul (pv 7) (pv 7)) pe_int) pe_int) (pv 1)))))))))))))), ?_⟩
    obtain ⟨p, cs, m, N, rfl, m1, m2, hP, hN, k⟩ := h
    obtain ⟨⟨t, r, hp, t0, tN, r0⟩, ns, hc, hl⟩ := id hP
    refine ⟨_, rfl, p, _, rfl, get_rest hp, _, _, rfl, rfl, _, rfl, ?_⟩
    refine ite2 (fun h0 => ?_) (fun h0 => ?_)
    · refine ⟨_, rfl, p, _, rfl, get_rest hp, _, rfl, _, _, rfl, rfl, ?_, ?_⟩
      · omega
      refine ⟨_, rfl, p, _, rfl, get_rest hp, _, rfl, _, _, rfl, rfl, ⟨by omega, by omega⟩, _, rfl, p, _, rfl, put_rest hp, _, rfl, ?_⟩
      obtain ⟨f1, f2⟩ := fm (x := r) m1
      refine k _ _ f1 f2 ((But.refl p H).upd) ⟨⟨t, _, upd_same, t0, by omega, fq m1 r0⟩, ns, ?_, hl⟩
      rw [upd_ne hP.ne]
      exact hc
    · refine ⟨_, rfl, p, _, rfl, get_turn hp, _, rfl, _, _, rfl, rfl, _, rfl, p, _, rfl, put_turn hp, ?_⟩
      have hp1 : upd H p (penO cs (t + 1) r) p = some (penO cs (t + 1) r) := upd_same
      have hc1 : upd H p (penO cs (t + 1) r) cs = some (.lst (ns.map V.int)) := by
        rw [upd_ne hP.ne]
        exact hc
      have b1 : But p H (upd H p (penO cs (t + 1) r)) := (But.refl p H).upd
      generalize upd H p (penO cs (t + 1) r) = H1 at hp1 hc1 b1
      refine ⟨_, rfl, _, _, rfl, rfl, .inl ⟨by omega, by omega⟩, _, _, rfl, rfl, ?_⟩
      refine ⟨fun σ H2 => ∃ c : Int, σ = [some (.ref p), some (.int m), none, some (.int t), some (.int c), none, none, none] ∧ But p H H2 ∧ H2 p = some (penO cs (t + 1) r) ∧ H2 cs = some (.lst (ns.map V.int)), ?_, ?_⟩
      · refine ⟨_, rfl, p, _, rfl, get_cells hp1, (by decide), fun l nl => ?_⟩
        have hp2 : upd H1 l (.lst []) p = some (penO cs (t + 1) r) := (same_upd nl) _ _ hp1
        have hc2 : upd H1 l (.lst []) cs = some (.lst (ns.map V.int)) := (same_upd nl) _ _ hc1
        have b2 : But p H (upd H1 l (.lst [])) := b1.trans (But.of_same (same_upd nl))
        have hl2 : upd H1 l (.lst []) l = some (.lst []) := upd_same
        generalize upd H1 l (.lst []) = H2 at hp2 hc2 b2 hl2
        refine ⟨cs, l, _, rfl, rfl, SqL.of hc2, SqL.of hl2, _, rfl, ?_⟩
        refine ite2 (fun he => ?_) (fun he => ?_)
        · have nl0 : ns ≠ [] := fun z => by
            subst z
            cases he
          have n0 : 1 ≤ (ns.length : Int) := by
            have := List.length_pos_iff.mpr nl0
            omega
          obtain ⟨f1, f2⟩ := fm (x := t) n0
          obtain ⟨c, hcc⟩ := at_ints f1 f2
          refine ⟨_, rfl, p, _, rfl, get_cells hp2, _, rfl, _, rfl, p, _, rfl, get_cells hp2, cs, _, rfl, .inl (SqL.of hc2), _, _, rfl, rfl, ?_, cs, _, _, .int c, rfl, rfl, SqL.of hc2, ?_, ?_⟩
          · rw [List.length_map]
            omega
          · rw [List.length_map]
            exact hcc
          · exact ⟨c, rfl, b2, hp2, hc2⟩
        · exact ⟨_, rfl, b2, hp2, hc2⟩
      · rintro σ H2 ⟨c, rfl, b2, hp2, hc2⟩
        refine ⟨fun σ H3 => σ = [some (.ref p), some (.int m), none, some (.int t), some (.int c), none, none, none] ∧ H3 = H2, ?_, ?_⟩
        · refine ⟨_, rfl, _, rfl, p, _, rfl, get_cells hp2, cs, _, rfl, .inl (SqL.of hc2), _, _, rfl, rfl, _, rfl, ?_⟩
          refine ite2 (fun _ => ?_) (fun _ => iteF ⟨rfl, rfl⟩)
          refine ⟨_, rfl, _, rfl, _, _, rfl, rfl, ?_, _, _, rfl, rfl, _, rfl, ?_⟩
          · exact ⟨by decide, by decide, by decide⟩
          refine ite2 (fun hb => ?_) (fun _ => ⟨rfl, rfl⟩)
          have hb' : (10 : Int) ^ 18 ≤ (if c < 0 then -c else c) := of_decide_eq_true hb
          refine ⟨_, rfl, _, rfl, _, _, rfl, rfl, ⟨by decide, by decide, by decide⟩, _, _, rfl, rfl, _, rfl, _, _, rfl, rfl, ⟨by omega, by omega⟩, _, rfl, p, _, rfl, put_rest hp2, ?_⟩
          refine ⟨_, rfl, _, rfl, _, _, rfl, rfl, ⟨by decide, by decide, by decide⟩, _, _, rfl, rfl, _, rfl, _, _, rfl, rfl, by omega, ?_⟩
          obtain ⟨f1, f2⟩ := fm (x := (if c < 0 then -c else c) - 10 ^ 18) m1
          refine k _ _ f1 f2 b2.upd ⟨⟨t + 1, _, upd_same, by omega, by omega, fq m1 (by show (0 : Int) ≤ (if c < 0 then -c else c) - 10 ^ 18; omega)⟩, ns, ?_, hl⟩
          rw [upd_ne hP.ne]
          exact hc2
        · rintro σ H3 ⟨rfl, rfl⟩
          refine ⟨by decide, fun l nl => ?_⟩
          have hp3 : upd H3 l (.lst [.int 2147483647, .int 2147483629, .int 2147483587, .int 2147483579, .int 2147483563]) p = some (penO cs (t + 1) r) := (same_upd nl) _ _ hp2
          have hc3 : upd H3 l (.lst [.int 2147483647, .int 2147483629, .int 2147483587, .int 2147483579, .int 2147483563]) cs = some (.lst (ns.map V.int)) := (same_upd nl) _ _ hc2
          have b3 : But p H (upd H3 l (.lst [.int 2147483647, .int 2147483629, .int 2147483587, .int 2147483579, .int 2147483563])) := b2.trans (But.of_same (same_upd nl))
          have hl3 : upd H3 l (.lst [.int 2147483647, .int 2147483629, .int 2147483587, .int 2147483579, .int 2147483563]) l = some (.lst [.int 2147483647, .int 2147483629, .int 2147483587, .int 2147483579, .int 2147483563]) := upd_same
          obtain ⟨p1, a1, g1, g2⟩ := at_primes (fm (x := t) (m := 5) (by decide))
          obtain ⟨p2, a2, g3, g4⟩ := at_primes (fm (x := t + 3) (m := 5) (by decide))
          refine ⟨_, rfl, _, rfl, _, _, rfl, rfl, (by show (5 : Int) ≠ 0; decide), l, _, _, .int p1, rfl, rfl, SqL.of hl3, a1, ?_⟩
          obtain ⟨e1, e2⟩ := fm (x := c) (m := p1) (by omega)
          have n60 : (N : Int) < 2 ^ 60 := by omega
          refine ⟨_, rfl, _, rfl, _, _, rfl, rfl, by omega, _, _, rfl, rfl, .inl ⟨by omega, by omega⟩, _, rfl, _, _, rfl, rfl, .inl ⟨by decide, by decide⟩, _, rfl, _, _, rfl, rfl, .inr ⟨by omega, by omega⟩, _, _, rfl, rfl, _, _, rfl, rfl, _, rfl, _, _, rfl, rfl, by omega, ?_⟩
          obtain ⟨e3, e4⟩ := fm (x := c.fmod p1 * 69621 + 40692 * t * t + 17) (m := p1) (by omega)
          refine ⟨_, rfl, _, rfl, _, _, rfl, rfl, _, _, rfl, rfl, .inl ⟨by omega, by omega⟩, _, rfl, _, rfl, _, _, rfl, rfl, _, _, rfl, rfl, (by show (5 : Int) ≠ 0; decide), l, _, _, .int p2, rfl, rfl, SqL.of hl3, a2, _, _, rfl, rfl, by omega, ?_⟩
          obtain ⟨e5, e6⟩ := fm (x := (c.fmod p1 * 69621 + 40692 * t * t + 17).fmod p1 * ((c.fmod p1 * 69621 + 40692 * t * t + 17).fmod p1 + 48271)) (m := p2) (by omega)
          refine ⟨_, rfl, _, rfl, _, _, rfl, rfl, .inl ⟨by omega, by omega⟩, _, _, rfl, rfl, (by show (2147483549 : Int) ≠ 0; decide), _, _, rfl, rfl, ⟨by decide, by decide⟩, _, rfl, _, _, rfl, rfl, by omega, ?_⟩
          obtain ⟨e7, e8⟩ := fm (x := _) m1
          exact k _ _ e7 e8 b3 ⟨⟨t + 1, r, hp3, by omega, by omega, r0⟩, ns, hc3, hl⟩
/-! ### _law_pick -/
theorem seq_but {K : PySem.W.Frag} {H H' : Hp} {p l cs : Addr} {N : Nat} {xs : List V} (h : SqL K H l xs) (P : Pen H p cs N) (b : But p H H') : SqL K H' l xs := by
  obtain ⟨⟨t, r, hp, _⟩, _⟩ := P
  rcases h with (h | ⟨o, h⟩) | h
  · exact .inl (.inl (b _ _ h (ne_of h hp (by intro z; cases z))))
  · exact .inl (.inr ⟨o, b _ _ h (ne_of h hp (by intro z; cases z))⟩)
  · exact .inr h
theorem tup_but {K : PySem.W.Frag} {H H' : Hp} {p l cs : Addr} {N : Nat} {xs : List V} (h : SqT K H l xs) (P : Pen H p cs N) (b : But p H H') : SqT K H' l xs := by
  obtain ⟨⟨t, r, hp, _⟩, _⟩ := P
  rcases h with (h | ⟨o, h⟩) | h
  · exact .inl (.inl (b _ _ h (ne_of h hp (by intro z; cases z))))
  · exact .inl (.inr ⟨o, b _ _ h (ne_of h hp (by intro z; cases z))⟩)
  · exact .inr h
theorem at_list {xs : List V} {i : Int} (h0 : 0 ≤ i) (h1 : i < (xs.length : Int)) : ∃ v, v ∈ xs ∧ atI xs i = some v := by
  have hj : i.toNat < xs.length := by omega
  exact ⟨xs[i.toNat], List.getElem_mem hj, at_of (j := i.toNat) (by omega) (List.getElem?_eq_getElem hj)⟩
theorem at_nat {α : Type} {xs : List α} {i : Int} (h0 : 0 ≤ i) (hj : i.toNat < xs.length) : atI xs i = some xs[i.toNat] := by
  have e : i = ((i.toNat : Nat) : Int) := by omega
  have q := atI_nat (xs := xs) (List.getElem?_eq_getElem hj)
  rw [← e] at q
  exact q
/-- of a list: one of its items; of a text: one of its signs -/
def spPick (K : PySem.W.Frag) : Sp := fun vs H Q _ => ∃ (p cs : Addr) (N : Nat), Pen H p cs N ∧ N < 2 ^ 60 ∧
  ((∃ (l : Addr) (xs : List V), vs = [.ref p, .ref l] ∧ (SqL K H l xs ∨ SqT K H l xs) ∧ xs ≠ [] ∧ xs.length < 1073741824 ∧ ∀ x H', x ∈ xs → But p H H' → Pen H' p cs (N + 1) → Q x H') ∨
   ∃ z : Str, vs = [.ref p, .str z] ∧ 0 < z.length ∧ z.length < 1000000 ∧ ∀ c H', c ∈ z.cps.toList → But p H H' → Pen H' p cs (N + 1) → Q (.str ⟨#[c]⟩) H')
theorem sc_pick : FnScope ["_law_pen_here", "_law_some"] ["_law_pen_here", "_law_some"] (defScope s_L_pick) := ⟨rfl, rfl, rfl, by decide +kernel, rfl, by decide +kernel, by decide +kernel⟩
theorem c_pick (D : Def K mg "_law_pick" s_L_pick) (B : Bi mg) (CD : Callee P w K mg base CX0 1 "_law_draw" ["_law_pen_here", "_law_many"] spDraw) : Callee P w K mg base CX0 2 "_law_pick" ["_law_pen_here", "_law_some"] (spPick K) := by
  obtain ⟨f, fd, F, g⟩ := D
  refine ⟨f, fd, F.ok sc_pick (fun vs H Q E h => ?_) (fun cdv A outer s H vs Q E hr h => ?_), g, F.kp, F.bindsN (fun _ _ _ _ _ _ us hl => match us, hl with | [_, _], _ => rfl)⟩
  · obtain ⟨p, cs, N, _, _, ⟨l, xs, rfl, _⟩ | ⟨z, rfl, _⟩⟩ := h
    · rfl
    · rfl
  · have hu := hu_of hr
    have nd := sc_pick.nd
    have hr1 : Room 1 _ := hr
    refine ⟨_, PSs.nox (pss_one (ps_ret (pe_ix ix_seq (pv 1) (pe_c CD hr1 pass0 (pa_cons (pv 0) (pa_cons (pe_callB call_len (by rfl) B.n_len boot_len (pa_cons (pv 1) pa_nil)) pa_nil))) (fun _ _ => rfl)))), ?_⟩
    obtain ⟨p, cs, N, hP, hN, ⟨l, xs, rfl, hS, hne, hlen, k⟩ | ⟨z, rfl, z0, z1, k⟩⟩ := h
    · have pos := List.length_pos_iff.mpr hne
      refine ⟨_, rfl, _, rfl, _, rfl, _, xs.length, rfl, ?_, p, cs, _, N, rfl, by omega, by omega, hP, hN, fun i H' i0 i1 b P' => ?_⟩
      · rcases hS with h | h
        · exact .inl ⟨_, h, rfl⟩
        · exact .inr ⟨_, h, rfl⟩
      obtain ⟨v, hv, ha⟩ := at_list i0 i1
      rcases hS with h | h
      · exact .inl ⟨l, _, _, v, rfl, rfl, seq_but h hP b, ha, k v H' hv b P'⟩
      · exact .inr (.inl ⟨l, _, _, v, rfl, rfl, tup_but h hP b, ha, k v H' hv b P'⟩)
    · have lz : z.length ≤ sizeLine := Nat.le_trans (Nat.le_of_lt z1) (by decide)
      have ec : z.cps.toList.length = z.length := by
        show z.cps.toList.length = z.cps.size
        simp
      refine ⟨_, rfl, _, rfl, _, rfl, _, z.length, rfl, ⟨lz, rfl⟩, p, cs, _, N, rfl, by omega, by omega, hP, hN, fun i H' i0 i1 b P' => ?_⟩
      have hj : i.toNat < z.cps.toList.length := by omega
      exact .inr (.inr ⟨z, i, z.cps.toList[i.toNat], rfl, rfl, lz, at_nat i0 hj, k _ H' (List.getElem_mem hj) b P'⟩)
end
end Wk
namespace Wk
open PySem PySem.Spec PyProof.Rows L2 WkD WkN
section
variable {P : Program} {w : World} {K : PySem.W.Frag} {mg : Str → Option Value} {base : Heap}
/-! ### is_between -/
/-- ints -/
def spBetween (K : PySem.W.Frag) : Sp := fun vs H Q _ => ∃ (x : V) (lo hi : Int), vs = [x, .int lo, .int hi] ∧ ((∃ i : Int, x = .int i ∧ Q (.bl (decide (lo ≤ i) && decide (i ≤ hi))) H) ∨ (∃ b : Bool, x = .bl b ∧ Q (.bl false) H) ∨ ∃ t, TyX K H x t ∧ PySem.W.kitOne K t (.type "int") = some false ∧ Q (.bl false) H)
theorem sc_is_between : FnScope ["value", "low", "high"] ["value", "low", "high"] (defScope s_is_between) := ⟨rfl, rfl, rfl, by decide +kernel, rfl, by decide +kernel, by decide +kernel⟩
theorem c_is_between (D : Def K mg "is_between" s_is_between) (B : Bi mg) : Callee P w K mg base CX0 1 "is_between" ["value", "low", "high"] (spBetween K) := by
  obtain ⟨f, fd, F, g⟩ := D
  refine ⟨f, fd, F.ok sc_is_between (fun vs H Q E h => ?_) (fun cdv A outer s H vs Q E hr h => ⟨_, PSs.nox (pss_one (ps_ret (pe_and (pe_callB call_isi (by rfl) B.n_isinstance (by decide +kernel) (pa_cons (pv 0) (pa_cons (pe_bltn (v := .ty "int") (by rfl) B.n_int (by decide +kernel) rfl) pa_nil))) (pe_and (pe_not (pe_callB call_isi (by rfl) B.n_isinstance (by decide +kernel) (pa_cons (pv 0) (pa_cons (pe_bltn (v := .ty "bool") (by rfl) B.n_bool (by decide +kernel) rfl) pa_nil)))) (pe_one (pe_chain op_le op_le (pv 1) (pv 0) (pv 2))))))), ?_⟩), g, F.kp, F.bindsN (fun _ _ _ _ _ _ us hl => match us, hl with | [_, _, _], _ => rfl)⟩
  · obtain ⟨x, lo, hi, rfl, _⟩ := h
    rfl
  · obtain ⟨x, lo, hi, rfl, h⟩ := h
    rcases h with ⟨i, rfl, q⟩ | ⟨b, rfl, q⟩ | ⟨t, ty, hk, q⟩
    · refine ⟨_, rfl, _, _, _, _, true, rfl, .ty _, .base (.int i), kit_ty (by decide +kernel), true, rfl, ?_⟩
      refine ⟨_, rfl, _, _, _, _, false, rfl, .ty _, .base (.int i), kit_ty (by decide +kernel), false, rfl, true, rfl, ?_⟩
      refine ⟨_, rfl, _, rfl, _, _, rfl, rfl, _, rfl, ?_⟩
      refine ite2 (fun h1 => ?_) (fun h1 => ?_)
      · refine ⟨_, rfl, _, _, rfl, rfl, ?_⟩
        rw [h1, Bool.true_and] at q
        exact q
      · rw [bF h1, Bool.false_and] at q
        exact q
    · refine ⟨_, rfl, _, _, _, _, true, rfl, .ty _, .base (.bl b), kit_ty (by decide +kernel), true, rfl, ?_⟩
      exact ⟨_, rfl, _, _, _, _, true, rfl, .ty _, .base (.bl b), kit_ty (by decide +kernel), true, rfl, false, rfl, q⟩
    · exact ⟨_, rfl, _, _, _, _, false, rfl, .ty _, ty, hk, false, rfl, q⟩
/-! ### is_name -/
def spName (K : PySem.W.Frag) : Sp := fun vs H Q _ => (∃ z, vs = [.str z] ∧ z.length ≤ sizeLine ∧ ∀ H', Same H H' → Q (.bl (nameB z)) H') ∨ ∃ x t, vs = [x] ∧ TyX K H x t ∧ PySem.W.kitOne K t (.type "str") = some false ∧ Q (.bl false) H
theorem sc_is_name : FnScope ["value", "letter"] ["value"] (defScope s_is_name) := ⟨rfl, rfl, rfl, by decide +kernel, rfl, by decide +kernel, by decide +kernel⟩
theorem c_is_name {tL : Tok} (D : Def K mg "is_name" s_is_name) (B : Bi mg) (gL : mg "LETTERS" = some (.str letS tL)) : Callee P w K mg base CX0 1 "is_name" ["value"] (spName K) := by
  obtain ⟨f, fd, F, g⟩ := D
  refine ⟨f, fd, F.ok sc_is_name (fun vs H Q E h => ?_) (fun cdv A outer s H vs Q E hr h => ?_), g, F.kp, F.bindsN (fun _ _ _ _ _ _ us hl => match us, hl with | [_], _ => rfl)⟩
  · rcases h with ⟨z, rfl, _⟩ | ⟨x, t, rfl, _⟩
    · rfl
    · rfl
  · have nd := sc_is_name.nd
    refine ⟨_, PSs.nox (pss_one (ps_ret (pe_and (pe_callB call_isi (by rfl) B.n_isinstance (by decide +kernel) (pa_cons (pv 0) (pa_cons (pe_bltn (v := .ty "str") (by rfl) B.n_str (by decide +kernel) rfl) pa_nil))) (pe_and (pe_chain op_lt op_lt pe_int (pe_callB call_len (by rfl) B.n_len boot_len (pa_cons (pv 0) pa_nil)) pe_int) (pe_one (pe_callB (cr_all rfl) (by rfl) B.n_all (by decide +kernel) (pa_cons (pe_lc (own := [("letter", 1)]) (by rfl) nd (pi_str (pv 0)) (blkOk_by (by kernel_rfl)) (fun _ _ _ _ _ => (pg_name (i := 1) nd rfl (Or.inl rfl))) (fun _ _ _ _ _ => pts_nil) (fun _ _ _ _ _ => (pe_cmpR op_in_sign (pv 1) (pe_glob (v := .str letS) (by rfl) gL ⟨_, rfl⟩) (by rfl)))) pa_nil))))))), ?_⟩
    rcases h with ⟨z, rfl, hz, k⟩ | ⟨x, t, rfl, ty, hk, q⟩
    · refine ⟨_, rfl, _, _, _, _, true, rfl, .ty _, .base (.str z), kit_ty (by decide +kernel), true, rfl, ?_⟩
      refine ⟨_, rfl, _, z.length, rfl, ⟨hz, rfl⟩, _, _, rfl, rfl, _, rfl, ?_⟩
      unfold nameB at k
      refine ite2 (fun h1 => ?_) (fun h1 => ?_)
      · refine ⟨_, _, rfl, rfl, ?_⟩
        refine ⟨_, rfl, ?_⟩
        rw [h1, Bool.true_and] at k
        refine ite2 (fun h2 => ?_) (fun h2 => ?_)
        · rw [h2, Bool.true_and] at k
          refine ⟨_, rfl, z, rfl, fun D nD => ?_⟩
          refine lc_it (walk_str (z := z)) (fun j H3 => H3 = upd H D (.lst ((z.cps.toList.take j).map fun c => V.bl (decide (c ∈ letS.cps.toList))))) rfl ?_ ?_ ?_
          · intros
            trivial
          · rintro j x H3 H3' hj rfl ⟨rfl, c, hc, rfl⟩
            refine ⟨rfl, tYes_if ?_⟩
            refine ⟨_, rfl, c, letS, rfl, rfl, _, upd_same, ?_, ?_⟩
            · rw [List.length_map, List.length_take]
              exact Nat.lt_of_le_of_lt (Nat.min_le_left _ _) (Nat.lt_of_lt_of_le hj hz)
            · rw [upd_upd, takeS (x := c) (by rw [Array.getElem?_toList]; exact hc), List.map_append]
              rfl
          · rintro H3 rfl
            refine ⟨D, _, rfl, SqL.of (by rw [upd_same, List.take_of_length_le (by simp), List.map_map]; rfl), k _ (same_upd nD)⟩
        · rw [bF h2, Bool.false_and] at k
          exact k H fun _ _ e => e
      · rw [bF h1, Bool.false_and] at k
        exact ⟨_, rfl, iteF (k H fun _ _ e => e)⟩
    · exact ⟨_, rfl, _, _, _, _, false, rfl, .ty _, ty, hk, false, rfl, q⟩
end
end Wk
namespace Wk
open PySem PySem.Spec PyProof.Rows L2 WkD WkN LamX WkP WkE WkC
def d_is_between : WkJ.DefA := ⟨fun K => He.ga K "is_between", "is_between", "is_between", defArgs s_is_between, defBody s_is_between, defScope s_is_between, [], [], []⟩
def d_is_name : WkJ.DefA := ⟨fun K => He.ga K "is_name", "is_name", "is_name", defArgs s_is_name, defBody s_is_name, defScope s_is_name, [], [], []⟩
def d_is_tuple_of : WkJ.DefA := ⟨fun K => He.ga K "is_tuple_of", "is_tuple_of", "is_tuple_of", defArgs s_is_tuple_of, defBody s_is_tuple_of, defScope s_is_tuple_of, [], [], []⟩
def d_side_of : WkJ.DefA := ⟨fun K => He.ga K "side_of", "side_of", "side_of", defArgs s_side_of, defBody s_side_of, defScope s_side_of, [], [], []⟩
def d_last_two : WkJ.DefA := ⟨fun K => He.ga K "last_two", "last_two", "last_two", defArgs s_last_two, defBody s_last_two, defScope s_last_two, [], [], []⟩
def d_merge_rows : WkJ.DefA := ⟨fun K => He.ga K "merge_rows", "merge_rows", "merge_rows", defArgs s_merge_rows, defBody s_merge_rows, defScope s_merge_rows, [], [], []⟩
def d_least_cut : WkJ.DefA := ⟨fun K => He.ga K "least_cut", "least_cut", "least_cut", defArgs s_least_cut, defBody s_least_cut, defScope s_least_cut, [], [], []⟩
def d_strength_of : WkJ.DefA := ⟨fun K => He.ga K "strength_of", "strength_of", "strength_of", defArgs s_strength_of, defBody s_strength_of, defScope s_strength_of, [], [], []⟩
def d_can_join : WkJ.DefA := ⟨fun K => He.ga K "can_join", "can_join", "can_join", defArgs s_can_join, defBody s_can_join, defScope s_can_join, [], [], []⟩
def d_sorted_rows : WkJ.DefA := ⟨fun K => He.ga K "sorted_rows", "sorted_rows", "sorted_rows", defArgs s_sorted_rows, defBody s_sorted_rows, defScope s_sorted_rows, [], [], []⟩
def d_reached : WkJ.DefA := ⟨fun K => He.ga K "reached", "reached", "reached", defArgs s_reached, defBody s_reached, defScope s_reached, [], [], []⟩
def d_check_connected : WkJ.DefA := ⟨fun K => He.ga K "check_connected", "check_connected", "check_connected", defArgs s_check_connected, defBody s_check_connected, defScope s_check_connected, [], [], []⟩
def d_graph_of : WkJ.DefA := ⟨fun K => He.ga K "graph_of", "graph_of", "graph_of", defArgs s_graph_of, defBody s_graph_of, defScope s_graph_of, [], [], []⟩
def d_pen : WkJ.DefA := ⟨fun K => He.ga K "_law_pen", "_law_pen", "_law_pen", defArgs s_L_pen, defBody s_L_pen, defScope s_L_pen, [], [], []⟩
def d_draw : WkJ.DefA := ⟨fun K => He.ga K "_law_draw", "_law_draw", "_law_draw", defArgs s_L_draw, defBody s_L_draw, defScope s_L_draw, [], [], []⟩
def d_pick : WkJ.DefA := ⟨fun K => He.ga K "_law_pick", "_law_pick", "_law_pick", defArgs s_L_pick, defBody s_L_pick, defScope s_L_pick, [], [], []⟩
def d_lnames : WkJ.DefA := ⟨fun K => He.ga K "_law_names", "_law_names", "_law_names", defArgs s_L_names, defBody s_L_names, defScope s_L_names, [], [], []⟩
def d_weights : WkJ.DefA := ⟨fun K => He.ga K "_law_weights", "_law_weights", "_law_weights", defArgs s_L_weights, defBody s_L_weights, defScope s_L_weights, [], [], []⟩
def d_network : WkJ.DefA := ⟨fun K => He.ga K "_law_network", "_law_network", "_law_network", defArgs s_L_network, defBody s_L_network, defScope s_L_network, [], [], []⟩
def d_ledges : WkJ.DefA := ⟨fun K => He.ga K "_law_edges", "_law_edges", "_law_edges", defArgs s_L_edges, defBody s_L_edges, defScope s_L_edges, [], [], []⟩
def d_made : WkJ.DefA := ⟨fun K => He.ga K "_law_made", "_law_made", "_law_made", defArgs s_L_made, defBody s_L_made, defScope s_L_made, [], [], []⟩
def d_check_pair : WkJ.DefA := ⟨fun K => He.ga K "check_pair", "check_pair", "check_pair", defArgs s_check_pair, defBody s_check_pair, defScope s_check_pair, [], [], []⟩
def d_pair_strength : WkJ.DefA := ⟨fun K => He.ga K "pair_strength", "pair_strength", "pair_strength", defArgs s_pair_strength, defBody s_pair_strength, defScope s_pair_strength, [], [], []⟩
def d_is_arc : WkJ.DefA := ⟨fun K => He.ga K "is_arc", "is_arc", "is_arc", defArgs s_is_arc, defBody s_is_arc, defScope s_is_arc, [], [], []⟩
def d_flow_total : WkJ.DefA := ⟨fun K => He.ga K "flow_total", "flow_total", "flow_total", defArgs s_flow_total, defBody s_flow_total, defScope s_flow_total, [], [], []⟩
def d_greatest : WkJ.DefA := ⟨fun K => He.ga K "greatest_amounts", "greatest_amounts", "greatest_amounts", defArgs s_greatest_amounts, defBody s_greatest_amounts, defScope s_greatest_amounts, [], [.non], []⟩
def d_shuffled : WkJ.DefA := ⟨fun K => He.ga K "_law_shuffled", "_law_shuffled", "_law_shuffled", defArgs s_L_shuffled, defBody s_L_shuffled, defScope s_L_shuffled, [], [], []⟩
def d_law94 : WkJ.DefA := ⟨fun K => He.ga K "law", "law", "law", defArgs s_law, defBody s_law, defScope s_law, [], [], []⟩
def d_graph_init : WkJ.DefA := ⟨fun K => He.ma K (He.ga K "Graph") "__init__", "__init__", "Graph.__init__", defArgs s_Graph_init, defBody s_Graph_init, defScope s_Graph_init, [], [], []⟩
def d_net_init : WkJ.DefA := ⟨fun K => He.ma K (He.ga K "Network") "__init__", "__init__", "Network.__init__", defArgs s_Network_init, defBody s_Network_init, defScope s_Network_init, ["__class__"], [], []⟩
def d_ck : WkJ.DefA := ⟨fun K => He.ma K (He.ga K "Network") "check_strength", "check_strength", "Network.check_strength", defArgs s_Network_check_strength, defBody s_Network_check_strength, defScope s_Network_check_strength, [], [], []⟩
def d_accept : WkJ.DefA := ⟨fun K => He.ma K (He.ga K "Network") "accept", "accept", "Network.accept", defArgs s_Network_accept, defBody s_Network_accept, defScope s_Network_accept, [], [], []⟩
def d_check_vertex : WkJ.DefA := ⟨fun K => He.ma K (He.ga K "Graph") "check_vertex", "check_vertex", "Graph.check_vertex", defArgs s_Graph_check_vertex, defBody s_Graph_check_vertex, defScope s_Graph_check_vertex, [], [], []⟩
def d_set_root : WkJ.DefA := ⟨fun K => He.ma K (He.ga K "Network") "set_root", "set_root", "Network.set_root", defArgs s_Network_set_root, defBody s_Network_set_root, defScope s_Network_set_root, [], [], []⟩
def d_unk_init : WkJ.DefA := ⟨fun K => He.ma K (He.ga K "UnknownVertex") "__init__", "__init__", "UnknownVertex.__init__", defArgs s_UnknownVertex_init, defBody s_UnknownVertex_init, defScope s_UnknownVertex_init, [], [], []⟩
def d_sea_init : WkJ.DefA := ⟨fun K => He.ma K (He.ga K "Search") "__init__", "__init__", "Search.__init__", defArgs s_Search_init, defBody s_Search_init, defScope s_Search_init, [], [], []⟩
def d_sea_levels : WkJ.DefA := ⟨fun K => He.ma K (He.ga K "Search") "levels", "levels", "Search.levels", defArgs s_Search_levels, defBody s_Search_levels, defScope s_Search_levels, [], [], []⟩
def d_sea_move : WkJ.DefA := ⟨fun K => He.ma K (He.ga K "Search") "move", "move", "Search.move", defArgs s_Search_move, defBody s_Search_move, defScope s_Search_move, [], [], []⟩
def d_sea_advance : WkJ.DefA := ⟨fun K => He.ma K (He.ga K "Search") "advance", "advance", "Search.advance", defArgs s_Search_advance, defBody s_Search_advance, defScope s_Search_advance, [], [], []⟩
def d_sea_run : WkJ.DefA := ⟨fun K => He.ma K (He.ga K "Search") "run", "run", "Search.run", defArgs s_Search_run, defBody s_Search_run, defScope s_Search_run, [], [.non], []⟩
def d_sea_arcs : WkJ.DefA := ⟨fun K => He.ma K (He.ga K "Search") "arcs", "arcs", "Search.arcs", defArgs s_Search_arcs, defBody s_Search_arcs, defScope s_Search_arcs, [], [], []⟩
def d_pstrength : WkJ.DefA := ⟨fun K => WkJ.geA K (He.ga K "Network") "strength", "strength", "Network.strength", defArgs s_Network_strength, defBody s_Network_strength, defScope s_Network_strength, [], [], []⟩
def d_geq : WkJ.DefA := ⟨fun K => He.ma K (He.ga K "Graph") "__eq__", "__eq__", "Graph.__eq__", defArgs s_Graph_eq, defBody s_Graph_eq, defScope s_Graph_eq, [], [], []⟩
def d_floor : WkJ.DefA := ⟨fun K => WkJ.geA K (He.ga K "GuardedNetwork") "floor", "floor", "GuardedNetwork.floor", defArgs s_GuardedNetwork_floor, defBody s_GuardedNetwork_floor, defScope s_GuardedNetwork_floor, [], [], []⟩
def d_set_floor : WkJ.DefA := ⟨fun K => He.ma K (He.ga K "GuardedNetwork") "set_floor", "set_floor", "GuardedNetwork.set_floor", defArgs s_GuardedNetwork_set_floor, defBody s_GuardedNetwork_set_floor, defScope s_GuardedNetwork_set_floor, [], [], []⟩
def d_gn_init : WkJ.DefA := ⟨fun K => He.ma K (He.ga K "GuardedNetwork") "__init__", "__init__", "GuardedNetwork.__init__", defArgs s_GuardedNetwork_init, defBody s_GuardedNetwork_init, defScope s_GuardedNetwork_init, ["__class__"], [.int 1], []⟩
def d_n_ring : WkJ.DefA := ⟨fun K => WkCm.cmfA K (He.ga K "Network") "ring", "ring", "Network.ring", defArgs s_Network_ring, defBody s_Network_ring, defScope s_Network_ring, [], [], [("weight", .int 1)]⟩
def d_n_complete : WkJ.DefA := ⟨fun K => WkCm.cmfA K (He.ga K "Network") "complete", "complete", "Network.complete", defArgs s_Network_complete, defBody s_Network_complete, defScope s_Network_complete, [], [], [("weight", .int 1)]⟩
def d_fl_init : WkJ.DefA := ⟨fun K => He.ma K (He.ga K "Flow") "__init__", "__init__", "Flow.__init__", defArgs s_Flow_init, defBody s_Flow_init, defScope s_Flow_init, [], [], []⟩
def d_fl_total : WkJ.DefA := ⟨fun K => WkJ.geA K (He.ga K "Flow") "total", "total", "Flow.total", defArgs s_Flow_total, defBody s_Flow_total, defScope s_Flow_total, [], [], []⟩
def d_fl_greatest : WkJ.DefA := ⟨fun K => WkCm.cmfA K (He.ga K "Flow") "greatest", "greatest", "Flow.greatest", defArgs s_Flow_greatest, defBody s_Flow_greatest, defScope s_Flow_greatest, [], [], [("limit", .non)]⟩
def d_init_invalidfloor : WkJ.DefA := ⟨fun K => He.ma K (He.ga K "InvalidFloor") "__init__", "__init__", "InvalidFloor.__init__", defArgs s_InvalidFloor_init, defBody s_InvalidFloor_init, defScope s_InvalidFloor_init, [], [], []⟩
def d_init_tooweak : WkJ.DefA := ⟨fun K => He.ma K (He.ga K "TooWeak") "__init__", "__init__", "TooWeak.__init__", defArgs s_TooWeak_init, defBody s_TooWeak_init, defScope s_TooWeak_init, [], [], []⟩
def d_init_samevertex : WkJ.DefA := ⟨fun K => He.ma K (He.ga K "SameVertex") "__init__", "__init__", "SameVertex.__init__", defArgs s_SameVertex_init, defBody s_SameVertex_init, defScope s_SameVertex_init, [], [], []⟩
def da : List WkJ.DefA := [d_is_between, d_is_name, d_is_tuple_of, d_side_of, d_last_two, d_merge_rows, d_least_cut, d_strength_of, d_can_join, d_sorted_rows, d_reached, d_check_connected, d_graph_of, d_pen, d_draw, d_pick, d_lnames, d_weights, d_network, d_ledges, d_made, d_check_pair, d_pair_strength, d_is_arc, d_flow_total, d_greatest, d_shuffled, d_law94, d_graph_init, d_net_init, d_ck, d_accept, d_check_vertex, d_set_root, d_unk_init, d_sea_init, d_sea_levels, d_sea_move, d_sea_advance, d_sea_run, d_sea_arcs, d_pstrength, d_geq, d_floor, d_set_floor, d_gn_init, d_n_ring, d_n_complete, d_fl_init, d_fl_total, d_fl_greatest, d_init_invalidfloor, d_init_tooweak, d_init_samevertex]
def fa1 : List He.Fa := [.glo "is_between", .glo "is_name", .glo "is_tuple_of", .glo "side_of", .glo "last_two", .glo "merge_rows", .glo "least_cut", .glo "strength_of", .glo "can_join", .glo "sorted_rows", .glo "reached", .glo "check_connected", .glo "graph_of", .glo "_law_pen", .glo "_law_draw", .glo "_law_pick", .glo "_law_names", .glo "_law_weights", .glo "_law_network", .glo "_law_edges", .glo "_law_made", .glo "check_pair", .glo "pair_strength", .glo "is_arc", .glo "flow_total", .glo "greatest_amounts", .glo "_law_shuffled", .glo "law", .glo "Network", .glo "Graph", .glo "UnknownVertex", .glo "InvalidFloor", .glo "TooWeak", .glo "SameVertex", .glo "GuardedNetwork", .glo "GuardedLoggedNetwork", .glo "Flow", .glo "Search"]
def fa2 : List He.Fa := [.free "abs", .free "all", .free "any", .free "bool", .free "dict", .free "enumerate", .free "int", .free "isinstance", .free "len", .free "list", .free "max", .free "min", .free "range", .free "repr", .free "set", .free "sorted", .free "str", .free "sum", .free "tuple", .free "zip", .free "reversed", .free "super", .free "ValueError", .free "LookupError", .free "KeyError", .free "IndexError", .free "ArithmeticError", .free "OverflowError", .free "ZeroDivisionError", .free "RuntimeError", .free "TypeError"]
def fa3 : List He.Fa := [.str "LETTERS" letS, .cls "Network", .mkr "Network", .cls "Graph", .mkr "Graph", .noat "Network" "around", .noat "Network" "top", .noat "Network" "found", .noat "Network" "made", .noat "Network" "entries", .noat "Network" "running", .noat "Network" "since", .noat "Graph" "around", .noat "Graph" "top", .cls "Search", .mkr "Search", .noat "Search" "around", .noat "Search" "left", .noat "Search" "source", .noat "Search" "target", .cls "GuardedNetwork", .cls "GuardedLoggedNetwork", .cls "Flow", .mkr "GuardedNetwork", .mkr "Flow", .noat "GuardedNetwork" "around", .noat "GuardedNetwork" "top", .noat "GuardedNetwork" "found", .noat "GuardedNetwork" "made", .noat "GuardedNetwork" "entries", .noat "GuardedNetwork" "running", .noat "GuardedNetwork" "since", .noat "GuardedNetwork" "least", .noat "GuardedLoggedNetwork" "around", .noat "GuardedLoggedNetwork" "top", .noat "GuardedLoggedNetwork" "found", .noat "GuardedLoggedNetwork" "made", .noat "GuardedLoggedNetwork" "entries", .noat "GuardedLoggedNetwork" "running", .noat "GuardedLoggedNetwork" "since", .noat "GuardedLoggedNetwork" "least", .noat "Flow" "pair", .noat "Flow" "whole", .noat "Flow" "sent"]
def fa : List He.Fa := fa1 ++ (fa2 ++ fa3)
def ex (K : PySem.W.Frag) : Bool := WkG.smB K && (WkJ.conB K (He.ga K "Network") "MAX_VERTICES" 40 && (WkJ.conB K (He.ga K "Network") "MAX_WEIGHT" 1000000000 && (decide (PySem.W.mroIn K (He.ga K "Network") (.ref (He.ga K "Network")) = some true) && (He.eqO (PySem.W.ks_superIn K (He.ga K "Network") (He.ga K "Network") "__init__") (some (some (.ref (He.ma K (He.ga K "Graph") "__init__")))) && (PySem.W.fnIn K (He.ma K (He.ga K "Graph") "__init__") && (PySem.W.isFn K (.ref (He.ma K (He.ga K "Graph") "__init__")) && (WkJ.supB (PySem.Challenge.rw_weakcuts_k94_whole_default_arguments).prog K (He.ga K "Network") (He.ma K (He.ga K "Network") "__init__") && ((PySem.W.clsIn K (He.ga K "Network")).isSome && (He.eqO (PySem.W.nsIn K cStatics "thirdparty.any") (some none) && (WkJ.conB K (He.ga K "Graph") "MAX_VERTICES" 40 && (WkJ.conB K (He.ga K "Graph") "MAX_WEIGHT" 1000000000 && (WkJ.methB K (He.ga K "Network") (He.ga K "Network") "check_strength" && (WkJ.methB K (He.ga K "Network") (He.ga K "Network") "accept" && (WkJ.methB K (He.ga K "Network") (He.ga K "Graph") "check_vertex" && (WkJ.methB K (He.ga K "Network") (He.ga K "Network") "set_root" && (WkX.excB K "UnknownVertex" "value" WkX.bK "LookupError.__new__" && (WkJ.methB K (He.ga K "Search") (He.ga K "Search") "levels" && (WkJ.methB K (He.ga K "Search") (He.ga K "Search") "move" && (WkJ.methB K (He.ga K "Search") (He.ga K "Search") "advance" && (WkJ.methB K (He.ga K "Search") (He.ga K "Search") "run" && (WkJ.methB K (He.ga K "Search") (He.ga K "Search") "arcs" && (WkJ.propB K (He.ga K "Network") "strength" && (WkX.crB K (He.ga K "Network") && (WkX.crB K (He.ga K "GuardedLoggedNetwork") && (WkX.crB K (He.ga K "Flow") && (WkCm.cmB K (He.ga K "Network") "ring" && (WkCm.cmB K (He.ga K "Network") "complete" && (WkCm.cmB K (He.ga K "GuardedLoggedNetwork") "ring" && (decide (WkCm.cmfA K (He.ga K "GuardedLoggedNetwork") "ring" = WkCm.cmfA K (He.ga K "Network") "ring") && (WkCm.cmB K (He.ga K "Flow") "greatest" && (WkJ.propB K (He.ga K "Flow") "total" && (He.eqO (PySem.W.findIn K (.ref (He.ga K "Network")) "__eq__") (some (some (.ref (He.ma K (He.ga K "Graph") "__eq__")))) && (PySem.W.isFn K (.ref (He.ma K (He.ga K "Graph") "__eq__")) && (He.eqO (PySem.W.findIn K (.ref (He.ga K "Network")) "__ne__") (some (some (.builtin "object.__ne__"))) && (WkJ.eqClsB K (He.ga K "Network") (He.ga K "Graph") && (PySem.W.notFirst K (He.ga K "Network") (.ref (He.ga K "Network")) && (WkJ.conB K (He.ga K "GuardedNetwork") "MAX_VERTICES" 40 && (WkJ.conB K (He.ga K "GuardedNetwork") "MAX_WEIGHT" 1000000000 && (decide (PySem.W.mroIn K (He.ga K "GuardedNetwork") (.ref (He.ga K "Network")) = some true) && (He.eqO (PySem.W.ks_superIn K (He.ga K "GuardedNetwork") (He.ga K "Network") "__init__") (some (some (.ref (He.ma K (He.ga K "Graph") "__init__")))) && (decide (PySem.W.mroIn K (He.ga K "GuardedNetwork") (.ref (He.ga K "GuardedNetwork")) = some true) && (He.eqO (PySem.W.ks_superIn K (He.ga K "GuardedNetwork") (He.ga K "GuardedNetwork") "__init__") (some (some (.ref (He.ma K (He.ga K "Network") "__init__")))) && (WkJ.methB K (He.ga K "GuardedNetwork") (He.ga K "GuardedNetwork") "set_floor" && (WkJ.propB K (He.ga K "GuardedNetwork") "floor" && (WkJ.conB K (He.ga K "GuardedLoggedNetwork") "MAX_VERTICES" 40 && (WkJ.conB K (He.ga K "GuardedLoggedNetwork") "MAX_WEIGHT" 1000000000 && (decide (PySem.W.mroIn K (He.ga K "GuardedLoggedNetwork") (.ref (He.ga K "Network")) = some true) && (He.eqO (PySem.W.ks_superIn K (He.ga K "GuardedLoggedNetwork") (He.ga K "Network") "__init__") (some (some (.ref (He.ma K (He.ga K "Graph") "__init__")))) && (decide (PySem.W.mroIn K (He.ga K "GuardedLoggedNetwork") (.ref (He.ga K "GuardedNetwork")) = some true) && (He.eqO (PySem.W.ks_superIn K (He.ga K "GuardedLoggedNetwork") (He.ga K "GuardedNetwork") "__init__") (some (some (.ref (He.ma K (He.ga K "Network") "__init__")))) && (WkJ.methB K (He.ga K "GuardedLoggedNetwork") (He.ga K "GuardedNetwork") "set_floor" && (WkJ.propB K (He.ga K "GuardedLoggedNetwork") "floor" && (decide (WkJ.geA K (He.ga K "GuardedLoggedNetwork") "floor" = WkJ.geA K (He.ga K "GuardedNetwork") "floor") && (WkJ.supB (PySem.Challenge.rw_weakcuts_k94_whole_default_arguments).prog K (He.ga K "GuardedNetwork") (He.ma K (He.ga K "GuardedNetwork") "__init__") && ((PySem.W.clsIn K (He.ga K "GuardedNetwork")).isSome && (PySem.W.fnIn K (He.ma K (He.ga K "Network") "__init__") && (PySem.W.isFn K (.ref (He.ma K (He.ga K "Network") "__init__")) && (PySem.W.makesIn K (He.ga K "GuardedLoggedNetwork") && (He.eqO (PySem.W.findIn K (.ref (He.ga K "GuardedLoggedNetwork")) "__init__") (some (some (.ref (He.ma K (He.ga K "GuardedNetwork") "__init__")))) && (PySem.W.isFn K (.ref (He.ma K (He.ga K "GuardedNetwork") "__init__")) && (PySem.W.keepIn K (.ref (He.ga K "GuardedLoggedNetwork")) && (WkX.excB K "InvalidFloor" "value" WkX.bV "ValueError.__new__" && (WkX.excB K "TooWeak" "found" WkX.bR "RuntimeError.__new__" && (WkX.excB K "SameVertex" "value" WkX.bV "ValueError.__new__" && (true)))))))))))))))))))))))))))))))))))))))))))))))))))))))))))))))))
def tf : List He.Defn := [("last_two", none)]
abbrev R : PySem.W.OpenRow := PySem.W.OpenLaw.row PySem.Challenge.rw_weakcuts_k94_whole_default_arguments
abbrev hk : PySem.W.Hook := WkJ.hookB 7 fa da tf ex
def ob (s : PySem.W.SharedT) : WkJ.Al := WkJ.obsB 7 fa da tf ex (HandSHeadRun.getT s)
theorem ob_eq (s : PySem.W.SharedT) : ob s = hk.obs s.abs := WkJ.obsB_eq (HandSHeadRun.getT_eq s)
def loose1 : List PySem.Str := ["_wall", "__name__", "InvalidVertex", "InvalidEdge", "Disconnected", "InvalidFloor", "TooWeak", "UnknownVertex", "SameVertex", "InvalidFlow", "LETTERS", "is_between", "is_name", "is_tuple_of", "check_pair", "is_arc", "flow_total", "Search", "greatest_amounts", "path_in", "Flow", "side_of", "last_two", "merge_rows", "least_cut"]
def loose2 : List PySem.Str := ["strength_of", "pair_strength", "Graph", "can_join", "sorted_rows", "reached", "check_connected", "MAX_WEIGHT", "merged_names", "check_weights", "rows_after_merge", "Network", "graph_of", "GuardedNetwork", "LoggedNetwork", "GuardedLoggedNetwork", "_law_pen", "_law_draw", "_law_pick", "_law_shuffled", "_law_names", "_law_weights", "_law_network", "_law_edges", "_law_made"]
abbrev loose : List PySem.Str := loose1 ++ loose2
theorem run (w : World) : HandSHeadRun.RunEq R (PySem.W.view R.prog [58]) hk ob 20000 loose w := by
  intro os
  kernel_rfl
end Wk
namespace Wk
open PySem PySem.Spec PyProof.Rows L2 WkD WkN
section
variable {P : Program} {w : World} {K : PySem.W.Frag} {mg : Str → Option Value} {base : Heap}
/-! ### is_tuple_of -/
def spTupleOf (K : PySem.W.Frag) : Sp := fun vs H Q _ => ∃ (x : V) (n : Int), vs = [x, .int n] ∧ ((∃ a xs, x = .ref a ∧ SqT K H a xs ∧ xs.length ≤ sizeLine ∧ TyX K H x (.type "tuple") ∧ Q (.bl (decide ((xs.length : Int) = n))) H) ∨ ∃ t, TyX K H x t ∧ PySem.W.kitOne K t (.type "tuple") = some false ∧ Q (.bl false) H)
theorem sc_is_tuple_of : FnScope ["value", "size"] ["value", "size"] (defScope s_is_tuple_of) := ⟨rfl, rfl, rfl, by decide +kernel, rfl, by decide +kernel, by decide +kernel⟩
theorem c_is_tuple_of (D : Def K mg "is_tuple_of" s_is_tuple_of) (B : Bi mg) : Callee P w K mg base CX0 1 "is_tuple_of" ["value", "size"] (spTupleOf K) := by
  obtain ⟨f, fd, F, g⟩ := D
  refine ⟨f, fd, F.ok sc_is_tuple_of (fun vs H Q E h => ?_) (fun cdv A outer s H vs Q E hr h => ⟨_, PSs.nox (pss_one (ps_ret (pe_and (pe_callB call_isi (by rfl) B.n_isinstance (by decide +kernel) (pa_cons (pv 0) (pa_cons (pe_bltn (v := .ty "tuple") (by rfl) B.n_tuple (by decide +kernel) rfl) pa_nil))) (pe_one (pe_cmpR op_eq (pe_callB call_len_seq (by rfl) B.n_len (by decide +kernel) (pa_cons (pv 0) pa_nil)) (pv 1) (nomark _)))))), ?_⟩), g, F.kp, F.bindsN (fun _ _ _ _ _ _ us hl => match us, hl with | [_, _], _ => rfl)⟩
  · obtain ⟨x, n, rfl, _⟩ := h
    rfl
  · obtain ⟨x, n, rfl, h⟩ := h
    rcases h with ⟨a, xs, rfl, hT, hl, ty, q⟩ | ⟨t, ty, hk, q⟩
    · refine ⟨_, rfl, _, _, _, _, true, rfl, .ty _, ty, kit_ty (by decide +kernel), true, rfl, ?_⟩
      refine ⟨_, rfl, a, xs, rfl, .inr hT, _, rfl, rfl, ?_⟩
      have e : decide (V.int (xs.length : Int) = V.int n) = decide ((xs.length : Int) = n) := by
        by_cases h : (xs.length : Int) = n
        · rw [decide_eq_true h, decide_eq_true (by rw [h])]
        · rw [decide_eq_false h, decide_eq_false (fun z => h (V.int.inj z))]
      rw [e]
      exact q
    · exact ⟨_, rfl, _, _, _, _, false, rfl, .ty _, ty, hk, false, rfl, q⟩
/-! ### can_join -/
def joinB (ks : List Str) (u v : Str) : Bool := nameB u && (nameB v && (!decide (u = v) && (decide (u ∈ ks) && decide (v ∈ ks))))
def spJoin : Sp := fun vs H Q _ => ∃ (a : Addr) (ks : List Str) (g : Str → V) (u v : Str), vs = [.ref a, .str u, .str v] ∧ Rd H a (.dK (dct ks g)) ∧ u.length ≤ sizeLine ∧ v.length ≤ sizeLine ∧ ∀ H', Same H H' → Q (.bl (joinB ks u v)) H'
theorem rdS {H H' : Hp} {a : Addr} {o : HO} (e : Same H H') (h : Rd H a o) : Rd H' a o := by
  rcases h with h | ⟨u, h⟩
  · exact .inl (e _ _ h)
  · exact .inr ⟨u, e _ _ h⟩
theorem sc_can_join : FnScope ["around", "u", "v"] ["around", "u", "v"] (defScope s_can_join) := ⟨rfl, rfl, rfl, by decide +kernel, rfl, by decide +kernel, by decide +kernel⟩
theorem c_can_join (D : Def K mg "can_join" s_can_join) (CN : Callee P w K mg base CX0 1 "is_name" ["value"] (spName K)) : Callee P w K mg base CX0 2 "can_join" ["around", "u", "v"] spJoin := by
  obtain ⟨f, fd, F, g⟩ := D
  refine ⟨f, fd, F.ok sc_can_join (fun vs H Q E h => ?_) (fun cdv A outer s H vs Q E hr h => ?_), g, F.kp, F.bindsN (fun _ _ _ _ _ _ us hl => match us, hl with | [_, _, _], _ => rfl)⟩
  · obtain ⟨a, ks, g, u, v, rfl, _⟩ := h
    rfl
  · have hr1 : Room 1 _ := hr
    have hu := hu_of hr
    refine ⟨_, PSs.nox (pss_one (ps_ret (pe_and (pe_c CN hr1 pass0 (pa_cons (pv 1) pa_nil)) (pe_and (pe_c CN hr1 pass0 (pa_cons (pv 2) pa_nil)) (pe_and (pe_cmpR op_ne (pv 1) (pv 2) (nomark _)) (pe_and (pe_cmp (pc_din hu (pv 1) (pv 0))) (pe_one (pe_cmp (pc_din hu (pv 2) (pv 0)))))))))), ?_⟩
    obtain ⟨a, ks, g, u, v, rfl, hR, hlu, hlv, k⟩ := h
    unfold joinB at k
    refine ⟨_, rfl, .inl ⟨u, rfl, hlu, fun H1 s1 => ?_⟩⟩
    refine ⟨_, rfl, ite2 (fun h1 => ?_) (fun h1 => ?_)⟩
    · rw [h1, Bool.true_and] at k
      refine ⟨_, rfl, .inl ⟨v, rfl, hlv, fun H2 s2 => ?_⟩⟩
      refine ⟨_, rfl, ite2 (fun h2 => ?_) (fun h2 => ?_)⟩
      · rw [h2, Bool.true_and] at k
        have e : decide (V.str u = V.str v) = decide (u = v) := by
          by_cases h : u = v
          · rw [decide_eq_true h, decide_eq_true (by rw [h])]
          · rw [decide_eq_false h, decide_eq_false (fun z => h (V.str.inj z))]
        have s12 := s1.trans s2
        refine ⟨_, rfl, _, rfl, rfl, _, rfl, ?_⟩
        rw [e]
        refine ite2 (fun h3 => ?_) (fun h3 => ?_)
        · rw [h3, Bool.true_and] at k
          refine ⟨_, rfl, _, rfl, a, _, rfl, get_x (rdS s12 hR), _, rfl, ?_⟩
          have eo : ∀ x : Str, (if x ∈ ks then some (g x) else none).isSome = decide (x ∈ ks) := fun x => by
            by_cases h : x ∈ ks
            · rw [if_pos h, decide_eq_true h]
              rfl
            · rw [if_neg h, decide_eq_false h]
              rfl
          rw [eo]
          refine ite2 (fun h4 => ?_) (fun h4 => ?_)
          · rw [h4, Bool.true_and] at k
            refine ⟨_, rfl, _, rfl, a, _, rfl, get_x (rdS s12 hR), ?_⟩
            rw [eo]
            exact k _ s12
          · rw [bF h4, Bool.false_and] at k
            exact k _ s12
        · rw [bF h3, Bool.false_and] at k
          exact k _ s12
      · rw [bF h2, Bool.false_and] at k
        exact k _ (s1.trans s2)
    · rw [bF h1, Bool.false_and] at k
      exact k _ s1
end
end Wk
namespace Wk
open PySem PySem.Spec PyProof.Rows L2 WkD WkN LamX WkP
section
variable {P : Program} {w : World} {K : PySem.W.Frag} {mg : Str → Option Value} {base : Heap}
/-- all but l and the tables stay -/
def Ebut (l : Addr) (H H' : Hp) : Prop := ∀ b o, H b = some o → b ≠ l → (∀ ps, o ≠ .tbl ps) → H' b = some o
theorem Ebut.ext {l : Addr} {H H' : Hp} (e : Ebut l H H') (h : H l = none) : Ext H H' := fun b o hb n => e b o hb (ne_of_none hb h) n
theorem Ebut.trans {l : Addr} {H H1 H2 : Hp} (a : Ebut l H H1) (b : Ebut l H1 H2) : Ebut l H H2 := fun c o h n t => b c o (a c o h n t) n t
theorem Ebut.of {l : Addr} {H H' : Hp} (e : Ext H H') : Ebut l H H' := fun b o h _ n => e b o h n
theorem Ebut.upd {l : Addr} {H H1 : Hp} {o : HO} (a : Ebut l H H1) : Ebut l H (L2.upd H1 l o) := fun c u e h n => by
  rw [upd_ne h]
  exact a c u e h n
theorem Ebut.put {l p : Addr} {H H1 : Hp} {o : HO} (a : Ebut l H H1) (h : H p = none) : Ebut l H (L2.upd H1 p o) := fun c u e hc n => by
  rw [upd_ne (ne_of_none e h)]
  exact a c u e hc n
theorem tabs_put {T : List (Addr × Str)} {H : Hp} {p : Addr} {o : HO} (t : Tabs T H) (h : H p = none) : Tabs T (upd H p o) := t.ext (same_upd h)
theorem tabs_mut {T : List (Addr × Str)} {H : Hp} {p : Addr} {o u : HO} (t : Tabs T H) (h : H p = some u) (n : ∀ ps, u ≠ .tbl ps) (hx : ∀ c q, u ≠ CodeO c q) : Tabs T (upd H p o) := fun x hx' => by
  obtain ⟨ps, h1, h2, h3⟩ := t x hx'
  refine ⟨ps, by rw [upd_ne (fun z => n ps (Option.some.inj (h.symm.trans (by rw [← z]; exact h1))))]; exact h1, h2, fun pos cv hc => ?_⟩
  obtain ⟨c, e1, e2⟩ := h3 pos cv hc
  exact ⟨c, e1, by rw [upd_ne (fun z => hx c _ (Option.some.inj (h.symm.trans (by rw [← z]; exact e2))))]; exact e2⟩
theorem dk_tbl {kvs : List (Key × V)} : ∀ ps, HO.dK kvs ≠ .tbl ps := fun ps z => by cases z
theorem dk_code {kvs : List (Key × V)} : ∀ c q, HO.dK kvs ≠ CodeO c q := fun c q z => by
  unfold CodeO at z
  cases z
theorem fz_tbl {o : Obj} {u : HO} : ∀ ps, HO.frz o u ≠ .tbl ps := fun ps z => by cases z
theorem fz_code {o : Obj} {u : HO} : ∀ c q, HO.frz o u ≠ CodeO c q := fun c q z => by
  unfold CodeO at z
  cases z
def spLast (T : List (Addr × Str)) : Sp := fun vs H Q _ => ∃ (a : Addr) (Vs : List Str) (ad : Str → Addr) (nb : Nb) (wt : Wt), vs = [.ref a] ∧ RowsM H a Vs ad nb wt ∧ (∀ u ∈ Vs, (nb u).Nodup) ∧ 2 ≤ Vs.length ∧ Vs.length < 1000 ∧ Tabs T H ∧
  ∀ p x l n H', Ext H H' → Tabs T H' → H' p = some (.tup [.str x, .str l, .int n]) → LastTwo nb wt Vs x l n → Q (.ref p) H'
def leftO (nb : Nb) (wt : Wt) (Vs done : List Str) : HO := .dK (dct (Vs.filter fun u => decide (u ∉ done)) fun u => .int (conn nb wt done u))
theorem sc_last_two : FnScope ["rows", "left", "weight", "u", "ahead", "last", "v", "more"] ["rows"] (defScope s_last_two) := ⟨rfl, rfl, rfl, by decide +kernel, rfl, by decide +kernel, by decide +kernel⟩
theorem c_last_two {c PT : Addr} {tbT : List (Addr × Str)} (D : Def K mg "last_two" s_last_two) (B : Bi mg) (TB : TabB base mg c PT) (hmT : (PT, ("last_two.<locals>.<lambda>" : Str)) ∈ tbT) (huT : ∀ p ∈ tbT, p.1 = PT → p.2 = ("last_two.<locals>.<lambda>" : Str)) (hC : ∀ f, mg "last_two" = some (.ref f) → WkL.CodeIs K f c) :
    Callee P w K mg base CX0 3 "last_two" ["rows"] (spLast tbT) := by
  obtain ⟨f, fd, F, g⟩ := D
  refine ⟨f, fd, WkL.okC F sc_last_two (hC f g) (fun vs H Q E h => ?_) (fun A outer s H vs Q E hr h => ?_), g, F.kp, F.bindsN (fun _ _ _ _ _ _ us hl => match us, hl with | [_], _ => rfl)⟩
  · obtain ⟨a, Vs, ad, nb, wt, rfl, _⟩ := h
    rfl
  · have hu := hu_of hr
    have nd := sc_last_two.nd
    have hr2 : Room 2 _ := hr
    refine ⟨_, PSs.nox (pss_cons (ps_asg (pe_tup (pa_cons (pe_lock (pe_dc (own := [("u", 3)]) (by rfl) nd (pi_keys (pv 0)) (blkOk_by (by kernel_rfl)) (fun _ _ _ _ _ => (pg_name (i := 3) nd rfl (Or.inl rfl))) (fun _ _ _ _ _ => pts_nil) (fun _ _ _ _ _ => (pv 3)) (fun _ _ _ _ _ => pe_int))) (pa_cons pe_int pa_nil))) (WkN.pgT K 2 rfl rfl (pgs_cons (pg_name (i := 1) nd rfl (Or.inr rfl)) (pgs_cons (pg_name (i := 2) nd rfl (Or.inl rfl)) pgs_nil)) rfl))
      (pss_cons (ps_asg2 pe_non (pg_name (i := 4) nd rfl (Or.inl rfl)) (pg_name (i := 5) nd rfl (Or.inl rfl)))
      (pss_cons (ps_while PassesOwn.never (pt_cmpR (WkD.op_neE hr.units0) (pv 1) pe_dnewK (nomark _))
      (pss_cons (ps_par (i := 4) (j := 5) (by rfl) nd rfl rfl (by decide) rfl rfl (pa_cons (pv 5) (pa_cons (WkL.pe_maxLam (u := "u") (i := 3) (k := 0) (T := tbT) (by rfl) (by rfl) B.n_max (pa_cons (pe_callTy (call_listD rfl) (by rfl) B.n_list (by decide +kernel) (pa_cons (pv 1) pa_nil)) pa_nil) TB rfl hmT huT hr2 ⟨rfl, rfl, rfl, by decide +kernel, by decide +kernel, by decide +kernel, by show ∀ y : Str × NameKind, y ∈ _ → _ → (defScope s_last_two).names.lookup y.1 = _ ∨ (defScope s_last_two).names.lookup y.1 = _; decide +kernel⟩ rfl nd rfl (fun _ _ _ _ _ _ => rfl) (fun _ _ _ _ _ _ hr9 => pe_dget (hu_of hr9) (pv 1) (pv 3) (fun _ _ => rfl))) pa_nil)) (by rfl))
      (pss_cons (ps_set (i := 2) nd rfl (Or.inl rfl) (pe_dpop1 (pv 1) (pv 5) ⟨rfl, rfl, rfl, rfl⟩))
      (pss_one (ps_lock (ps_for PassesOwn.never rfl (pi_items (pe_dget hu (pv 0) (pv 5) (fun _ _ => rfl))) (WkN.pgT K 2 rfl rfl (pgs_cons (pg_name (i := 6) nd rfl (Or.inl rfl)) (pgs_cons (pg_name (i := 7) nd rfl (Or.inl rfl)) pgs_nil)) rfl)
      (pss_one (ps_if (pt_cmp (pc_din hu (pv 6) (pv 1)))
      (pss_one (ps_daug hu (pv 1) (pv 6) (pv 7) in_add (fun _ _ _ => rfl))) pss_nil))))))))
      (pss_one (ps_ret (pe_tup (pa_cons (pv 4) (pa_cons (pv 5) (pa_cons (pv 2) pa_nil))))))))), ?_⟩
    obtain ⟨a, Vs, ad, nb, wt, rfl, R, hnb, h2, hsz, hT, k⟩ := h
    refine ⟨a, _, R.top, trivial, fun od => ?_⟩
    have e0 : upd H a (.frz od (.dK (dct Vs fun u => .ref (ad u)))) a = some (.frz od (.dK (dct Vs fun u => .ref (ad u)))) := upd_same
    refine ⟨_, rfl, a, od, rfl, .inl ⟨_, e0, fun l nl => ?_⟩⟩
    have nla : l ≠ a := fun z => by
      rw [z, upd_same] at nl
      cases nl
    have nlH : H l = none := by
      rw [upd_ne nla] at nl
      exact nl
    refine dc_it (walk_keys (kvs := dct Vs fun u => .ref (ad u))) (fun i H2 => H2 = upd (upd H a (.frz od (.dK (dct Vs fun u => .ref (ad u))))) l (.dK (dct (Vs.take i) fun _ => .int 0))) rfl ?_ ?_ ?_
    · rintro i H2 hi rfl
      rw [upd_ne (Ne.symm nla), upd_same]
    · rintro i x H2 H2' hi rfl ⟨rfl, k0, v0, hk, rfl⟩
      rw [dct_at] at hk
      rw [dct_len] at hi
      rw [List.getElem?_eq_getElem hi] at hk
      cases hk
      refine ⟨rfl, tYes_if ?_⟩
      refine ⟨_, rfl, _, Sum.inr Vs[i], rfl, upd_same, ?_, ?_⟩
      · rw [dct_len, List.length_take]
        exact Nat.lt_of_le_of_lt (Nat.min_le_right _ _) (Nat.lt_trans hsz (by decide))
      · have hn : Vs[i] ∉ Vs.take i := fun z => by
          obtain ⟨j, hj, e⟩ := List.mem_iff_getElem.mp z
          rw [List.length_take] at hj
          rw [List.getElem_take] at e
          have := (List.getElem_inj R.nd).mp e
          omega
        rw [upd_upd, takeS (List.getElem?_eq_getElem hi), dct_put_new hn]
        congr 2
        exact dct_congr fun v _ => by split <;> rfl
    · rintro H2 rfl
      rw [dct_len, List.take_length]
      refine ⟨by rw [upd_ne (Ne.symm nla), upd_same], ?_⟩
      generalize gg : upd (upd (upd H a (.frz od (.dK (dct Vs fun u => .ref (ad u))))) l (.dK (dct Vs fun _ => .int 0))) a (.dK (dct Vs fun u => .ref (ad u))) = H3
      have E3 : Ebut l H H3 := fun b o hb hne _ => by
        rw [← gg]
        by_cases e : b = a
        · subst e
          rw [upd_same, ← hb, R.top]
        · rw [upd_ne e, upd_ne hne, upd_ne e]
          exact hb
      have L3 : H3 l = some (.dK (dct Vs fun _ => .int 0)) := by
        rw [← gg, upd_ne nla, upd_same]
      have T3 : Tabs tbT H3 := by
        rw [← gg]
        exact tabs_mut (tabs_put (tabs_mut hT R.top dk_tbl dk_code) nl) (by rw [upd_ne (Ne.symm nla), upd_same]) fz_tbl fz_code
      clear gg e0
      refine ⟨by show 2 ≤ sizeLine; decide, fun p np => ?_⟩
      have pl : p ≠ l := fun z => by
        rw [z, L3] at np
        cases np
      have E4 : Ebut l H (upd H3 p (.tup [.ref l, .int 0])) := E3.trans (Ebut.of (Ext.of (same_upd np)))
      have L4 : upd H3 p (.tup [.ref l, .int 0]) l = some (.dK (dct Vs fun _ => .int 0)) := (same_upd np) _ _ L3
      have T4 := tabs_put (o := .tup [.ref l, .int 0]) T3 np
      have P4 : upd H3 p (.tup [.ref l, .int 0]) p = some (.tup [.ref l, .int 0]) := upd_same
      generalize upd H3 p (.tup [.ref l, .int 0]) = H4 at E4 L4 T4 P4
      refine ⟨p, _, rfl, .inl (.inl P4), rfl, ?_⟩
      have fl : ∀ done : List Str, (Vs.filter fun u => decide (u ∉ done)).length ≤ Vs.length := fun done => List.length_filter_le _ _
      refine ⟨_, _, rfl, _, _, rfl, rfl, ?_⟩
      refine ⟨fun m σ H2 => ∃ (done : List Str) (wg ah la : V) (x3 x6 x7 : Option V), σ = [some (.ref a), some (.ref l), some wg, x3, some ah, some la, x6, x7] ∧ Ebut l H H2 ∧ Tabs tbT H2 ∧ H2 l = some (leftO nb wt Vs done) ∧ Pre nb wt Vs done ∧ Tail nb wt done ah la wg ∧ m = (Vs.filter fun u => decide (u ∉ done)).length,
        ⟨_, [], .int 0, .non, .non, none, none, none, rfl, E4, T4, ?_, Pre.nil nb wt Vs, .inl ⟨rfl, rfl⟩, rfl⟩, ?_⟩
      · rw [L4]
        unfold leftO
        rw [show (Vs.filter fun u => decide (u ∉ ([] : List Str))) = Vs from List.filter_eq_self.mpr fun u _ => by simp]
        rfl
      rintro m σ H5 ⟨done, wg, ah, la, x3, x6, x7, rfl, E5, T5, L5, hP, hTl, rfl⟩
      refine ⟨_, rfl, fun q nq => ?_⟩
      have E6 : Ebut l H (upd H5 q (.dK [])) := E5.trans (Ebut.of (Ext.of (same_upd nq)))
      have T6 := tabs_put (o := .dK []) T5 nq
      have L6 : upd H5 q (.dK []) l = some (leftO nb wt Vs done) := (same_upd nq) _ _ L5
      have Q6 : upd H5 q (.dK []) q = some (.dK []) := upd_same
      generalize upd H5 q (.dK []) = H6 at E6 T6 L6 Q6
      refine ⟨l, q, _, rfl, rfl, .inl L6, Q6, _, rfl, ?_⟩
      refine ite2 (fun hb => ?_) (fun hb => ?_)
      · -- a turn
        have hne : (Vs.filter fun u => decide (u ∉ done)) ≠ [] := fun z => by
          rw [z] at hb
          cases hb
        refine ⟨fun σ' H' => ∃ (done' : List Str) (wg ah la : V) (x3 x6 x7 : Option V), σ' = [some (.ref a), some (.ref l), some wg, x3, some ah, some la, x6, x7] ∧ Ebut l H H' ∧ Tabs tbT H' ∧ H' l = some (leftO nb wt Vs done') ∧ Pre nb wt Vs done' ∧ Tail nb wt done' ah la wg ∧ (Vs.filter fun u => decide (u ∉ done')).length < (Vs.filter fun u => decide (u ∉ done)).length, ?_, ?_⟩
        · rintro σ' H' ⟨done', wg, ah, la, x3, x6, x7, h1, h2, h3, h4, h5, h6, h7⟩
          exact ⟨_, h7, done', wg, ah, la, x3, x6, x7, h1, h2, h3, h4, h5, h6, rfl⟩
        refine ⟨_, rfl, _, rfl, l, _, rfl, .inl L6, fun p1 np1 => ?_⟩
        have e1 : (dct (Vs.filter fun u => decide (u ∉ done)) fun u => V.int (conn nb wt done u)).map (fun kv => kV kv.1) = (Vs.filter fun u => decide (u ∉ done)).map V.str := by
          unfold dct
          rw [List.map_map]
          rfl
        rw [e1]
        have E7 : Ebut l H (upd H6 p1 (.lst ((Vs.filter fun u => decide (u ∉ done)).map V.str))) := E6.trans (Ebut.of (Ext.of (same_upd np1)))
        have T7 := tabs_put (o := .lst ((Vs.filter fun u => decide (u ∉ done)).map V.str)) T6 np1
        have L7 : upd H6 p1 (.lst ((Vs.filter fun u => decide (u ∉ done)).map V.str)) l = some (leftO nb wt Vs done) := (same_upd np1) _ _ L6
        have P7 : upd H6 p1 (.lst ((Vs.filter fun u => decide (u ∉ done)).map V.str)) p1 = some (.lst ((Vs.filter fun u => decide (u ∉ done)).map V.str)) := upd_same
        generalize upd H6 p1 (.lst ((Vs.filter fun u => decide (u ∉ done)).map V.str)) = H7 at E7 T7 L7 P7
        refine ⟨p1, _, (Vs.filter fun u => decide (u ∉ done)).map (conn nb wt done), rfl, P7, by simpa using hne, by simp, T7, fun H8 e8 T8 => ⟨fun j v n hv hn => ?_, fun j v hv hmax => ?_⟩⟩
        · have L8 := e8 _ _ L7 dk_tbl
          rw [List.getElem?_map] at hv hn
          cases ej : (Vs.filter fun u => decide (u ∉ done))[j]? with
          | none => rw [ej] at hv; cases hv
          | some x =>
            rw [ej] at hv hn
            cases hv
            cases hn
            exact ⟨_, rfl, _, rfl, l, _, rfl, get_d (.inl L8) (List.mem_of_getElem? ej), rfl, rfl⟩
        rw [List.getElem?_map] at hv
        cases ej : (Vs.filter fun u => decide (u ∉ done))[j]? with
        | none => rw [ej] at hv; cases hv
        | some x =>
          rw [ej] at hv
          cases hv
          have E8 : Ebut l H H8 := E7.trans (Ebut.of e8)
          have L8 : H8 l = some (leftO nb wt Vs done) := e8 _ _ L7 dk_tbl
          clear e8 E7 T7 L7 P7 E6 T6 L6 Q6 E5 T5 L5
          have hxl := List.mem_of_getElem? ej
          obtain ⟨hxV, hxd⟩ := List.mem_filter.mp hxl
          have hxd : x ∉ done := of_decide_eq_true hxd
          have hbest : ∀ u ∈ Vs, u ∉ done → conn nb wt done u ≤ conn nb wt done x := by
            intro u hu hd
            obtain ⟨n, hn, hall⟩ := hmax
            rw [List.getElem?_map, ej] at hn
            cases hn
            obtain ⟨i, hi, e⟩ := List.mem_iff_getElem.mp (List.mem_filter.mpr ⟨hu, decide_eq_true hd⟩ : u ∈ Vs.filter fun u => decide (u ∉ done))
            exact (hall i _ (by rw [List.getElem?_map, List.getElem?_eq_getElem hi, e] <;> rfl)).1
          refine ⟨_, _, rfl, ?_⟩
          refine ⟨_, rfl, l, rfl, .inl ⟨_, .inl L8⟩, _, rfl, _, Sum.inr x, _, L8, rfl, dct_in hxl, ?_⟩
          rw [dct_drop]
          have ek : ((Vs.filter fun u => decide (u ∉ done)).filter fun y => decide (y ≠ x)) = Vs.filter fun u => decide (u ∉ done ++ [x]) := by
            rw [List.filter_filter]
            refine List.filter_congr fun u _ => ?_
            by_cases h1 : u = x
            · subst h1
              simp
            · by_cases h2 : u ∈ done
              · simp [h2]
              · simp [h1, h2]
          rw [ek]
          have E9 : Ebut l H (upd H8 l (.dK (dct (Vs.filter fun u => decide (u ∉ done ++ [x])) fun u => .int (conn nb wt done u)))) := E8.upd
          have T9 := tabs_mut (o := .dK (dct (Vs.filter fun u => decide (u ∉ done ++ [x])) fun u => .int (conn nb wt done u))) T8 L8 dk_tbl dk_code
          have L9 : upd H8 l (.dK (dct (Vs.filter fun u => decide (u ∉ done ++ [x])) fun u => .int (conn nb wt done u))) l = some (.dK (dct (Vs.filter fun u => decide (u ∉ done ++ [x])) fun u => .int (conn nb wt done u))) := upd_same
          generalize upd H8 l (.dK (dct (Vs.filter fun u => decide (u ∉ done ++ [x])) fun u => .int (conn nb wt done u))) = H9 at E9 T9 L9
          have nra : ad x ≠ l := ne_of_none (R.row x hxV) nlH
          have nrl : a ≠ l := Ne.symm nla
          have R9 := E9 _ _ (R.row x hxV) nra dk_tbl
          have A9 := E9 _ _ R.top nrl dk_tbl
          refine ⟨ad x, _, R9, trivial, fun od2 => ?_⟩
          have nax := R.ne hxV
          refine ⟨_, rfl, _, rfl, a, _, rfl, get_d (.inl (by rw [upd_ne (Ne.symm nax)]; exact A9)) hxV, ad x, od2, _, rfl, upd_same, ?_⟩
          have fr : ∀ b o, H9 b = some o → b ≠ ad x → upd H9 (ad x) (.frz od2 (.dK (dct (nb x) fun v => .int (wt x v)))) b = some o := fun b o hb hne => by
            rw [upd_ne hne]
            exact hb
          have Z9 : upd H9 (ad x) (.frz od2 (.dK (dct (nb x) fun v => .int (wt x v)))) (ad x) = some (.frz od2 (.dK (dct (nb x) fun v => .int (wt x v)))) := upd_same
          have L9z := fr _ _ L9 (Ne.symm nra)
          have T9z : Tabs tbT (upd H9 (ad x) (.frz od2 (.dK (dct (nb x) fun v => .int (wt x v))))) := tabs_mut T9 R9 dk_tbl dk_code
          generalize upd H9 (ad x) (.frz od2 (.dK (dct (nb x) fun v => .int (wt x v)))) = Hz at fr Z9 L9z T9z
          have sz : (Vs.filter fun u => decide (u ∉ done ++ [x])).length < sizeLine := Nat.lt_of_le_of_lt (fl _) (Nat.lt_trans hsz (by decide))
          refine for_it (walk_items (kvs := dct (nb x) fun v => .int (wt x v))) (fun i σ Hc => ∃ x6 x7 : Option V, σ = [some (.ref a), some (.ref l), some (.int (conn nb wt done x)), x3, some la, some (.str x), x6, x7] ∧ Ebut l Hz Hc ∧ Tabs tbT Hc ∧
            Hc l = some (.dK (dct (Vs.filter fun u => decide (u ∉ done ++ [x])) fun u => .int (conn nb wt done u + if u ∈ (nb x).take i then wt x u else 0)))) ⟨x6, x7, rfl, fun b o hb _ _ => hb, T9z, ?_⟩ ?_ ?_ ?_
          · rw [L9z]
            congr 2
            exact dct_congr fun u _ => by simp
          · rintro i σ Hc hi ⟨x6, x7, rfl, Ec, Tc, Lc⟩
            exact Ec _ _ Z9 nra fz_tbl
          · rintro i y σ Hc Hc' hi ⟨x6, x7, rfl, Ec, Tc, Lc⟩ ⟨T, kx, vx, rfl, nT, rfl, hk, hv⟩
            rw [dct_len] at hi
            dsimp only at hk hv
            rw [dct_at, List.getElem?_eq_getElem hi] at hk hv
            cases hk
            cases hv
            have Ed : Ebut l Hz (upd Hc T (.tup [.str (nb x)[i], .int (wt x (nb x)[i])])) := Ec.trans (Ebut.of (Ext.of (same_upd nT)))
            have Td := tabs_put (o := .tup [.str (nb x)[i], .int (wt x (nb x)[i])]) Tc nT
            have Ld := (same_upd (o := .tup [.str (nb x)[i], .int (wt x (nb x)[i])]) nT) _ _ Lc
            have Pd : upd Hc T (.tup [.str (nb x)[i], .int (wt x (nb x)[i])]) T = some (.tup [.str (nb x)[i], .int (wt x (nb x)[i])]) := upd_same
            show gTup _ _ _ _ _ (upd Hc T (.tup [.str (nb x)[i], .int (wt x (nb x)[i])])) _
            generalize upd Hc T (.tup [.str (nb x)[i], .int (wt x (nb x)[i])]) = Hd at Ed Td Ld Pd
            refine ⟨T, _, rfl, .inl (.inl Pd), rfl, _, _, rfl, _, _, rfl, rfl, ?_⟩
            refine ⟨_, rfl, _, rfl, l, _, rfl, get_x (.inl Ld), _, rfl, ?_⟩
            have nin : (nb x)[i] ∉ (nb x).take i := fun z => by
              obtain ⟨j, hj, e⟩ := List.mem_iff_getElem.mp z
              rw [List.length_take] at hj
              rw [List.getElem_take] at e
              have := (List.getElem_inj (hnb x hxV)).mp e
              omega
            have tk : (nb x).take (i + 1) = (nb x).take i ++ [(nb x)[i]] := takeS (List.getElem?_eq_getElem hi)
            have tm : ∀ u, u ∈ (nb x).take (i + 1) ↔ u ∈ (nb x).take i ∨ u = (nb x)[i] := fun u => by rw [tk, List.mem_append, List.mem_singleton]
            have tq : ∀ u, u ≠ (nb x)[i] → (if u ∈ (nb x).take i then wt x u else 0) = if u ∈ (nb x).take (i + 1) then wt x u else 0 := fun u hu => by
              by_cases h : u ∈ (nb x).take i
              · rw [if_pos h, if_pos ((tm u).mpr (.inl h))]
              · rw [if_neg h, if_neg (fun z => ((tm u).mp z).elim h hu)]
            refine ite2 (fun hin => ?_) (fun hin => ?_)
            · have hin : (nb x)[i] ∈ Vs.filter fun u => decide (u ∉ done ++ [x]) := by
                by_cases h : (nb x)[i] ∈ Vs.filter fun u => decide (u ∉ done ++ [x])
                · exact h
                · rw [if_neg h] at hin
                  cases hin
              refine ⟨_, rfl, _, rfl, l, _, rfl, get_d (.inl Ld) hin, _, rfl, _, _, rfl, rfl, _, put_d Ld hin sz, _, _, rfl, Ed.upd, tabs_mut Td Ld dk_tbl dk_code, ?_⟩
              rw [upd_same]
              congr 2
              refine dct_congr fun u hu => ?_
              by_cases e : u = (nb x)[i]
              · subst e
                rw [if_pos rfl, if_neg nin, if_pos ((tm _).mpr (.inr rfl)), Int.add_zero]
              · rw [if_neg e, tq u e]
            · have hin : (nb x)[i] ∉ Vs.filter fun u => decide (u ∉ done ++ [x]) := fun h => by
                rw [if_pos h] at hin
                exact hin rfl
              refine ⟨_, _, rfl, Ed, Td, ?_⟩
              rw [Ld]
              congr 2
              refine dct_congr fun u hu => ?_
              have e : u ≠ (nb x)[i] := fun e => hin (e ▸ hu)
              rw [tq u e]
          · rintro σ Hc ⟨x6, x7, rfl, Ec, Tc, Lc⟩
            rw [dct_len, List.take_length] at Lc
            have Zc := Ec _ _ Z9 nra fz_tbl
            refine ⟨Zc, done ++ [x], _, _, _, _, _, _, rfl, fun b o hb hne ht => ?_, tabs_mut Tc Zc fz_tbl fz_code, ?_, hP.snoc hxV hxd hbest, hTl.snoc x, ?_⟩
            · by_cases e : b = ad x
              · subst e
                rw [upd_same, ← hb, R.row x hxV]
              · rw [upd_ne e]
                exact Ec _ _ (fr _ _ (E9 _ _ hb hne ht) e) hne ht
            · rw [upd_ne (Ne.symm nra), Lc]
              unfold leftO
              congr 2
              exact dct_congr fun u _ => by rw [conn_snoc]
            · rw [← ek]
              refine List.length_filter_lt_length_iff_exists.mpr ⟨x, hxl, by simp⟩
      · -- the end
        have emp : (Vs.filter fun u => decide (u ∉ done)) = [] := by
          cases h : (Vs.filter fun u => decide (u ∉ done)) with
          | nil => rfl
          | cons y r =>
            rw [h] at hb
            exact absurd rfl hb
        have all : ∀ u ∈ Vs, u ∈ done := fun u hu => by
          by_cases h : u ∈ done
          · exact h
          · have z : u ∈ Vs.filter fun u => decide (u ∉ done) := List.mem_filter.mpr ⟨hu, decide_eq_true h⟩
            rw [emp] at z
            exact absurd z (by simp)
        have big : Vs.length ≤ done.length := (List.subset_def.mpr (fun {u} hu => all u hu) |> fun s => R.nd.length_le_of_subset s)
        rcases hTl with ⟨e, _⟩ | ⟨y, e, _⟩ | ⟨pre, y, z, e, rfl, rfl, rfl⟩
        · rw [e] at big
          simp only [List.length_nil] at big
          omega
        · rw [e] at big
          simp only [List.length_cons, List.length_nil] at big
          omega
        · refine ⟨_, rfl, _, rfl, _, rfl, by show 3 ≤ sizeLine; decide, fun p5 np5 => ?_⟩
          refine k p5 y z _ _ ((E6.trans (Ebut.of (Ext.of (same_upd np5)))).ext nlH) (tabs_put T6 np5) upd_same ⟨pre, by rw [← e]; exact hP, by rw [← e]; exact all, rfl⟩
end
end Wk
namespace Wk
open PySem PySem.Spec PyProof.Rows L2 WkD WkN LamX WkP
section
variable {P : Program} {w : World} {K : PySem.W.Frag} {mg : Str → Option Value} {base : Heap}
def spMerge : Sp := fun vs H Q _ => ∃ (a : Addr) (Vs : List Str) (ad : Str → Addr) (nb : Nb) (wt : Wt) (kept gone : Str), vs = [.ref a, .str kept, .str gone] ∧ RowsM H a Vs ad nb wt ∧ Sym Vs nb wt ∧ kept ∈ Vs ∧ gone ∈ Vs ∧ kept ≠ gone ∧ Vs.length < 1000 ∧
  ∀ nb' wt' H', RowsM H' a (Vs.filter fun y => decide (y ≠ gone)) ad nb' wt' → Merged nb wt kept gone (Vs.filter fun y => decide (y ≠ gone)) nb' wt' → (∀ b o, H b = some o → b ≠ a → (∀ u ∈ Vs, b ≠ ad u) → H' b = some o) → Q .non H'
theorem sc_merge_rows : FnScope ["rows", "kept", "gone", "v", "weight"] ["rows", "kept", "gone"] (defScope s_merge_rows) := ⟨rfl, rfl, rfl, by decide +kernel, rfl, by decide +kernel, by decide +kernel⟩
theorem c_merge_rows (D : Def K mg "merge_rows" s_merge_rows) : Callee P w K mg base CX0 1 "merge_rows" ["rows", "kept", "gone"] spMerge := by
  obtain ⟨f, fd, F, g⟩ := D
  refine ⟨f, fd, F.ok sc_merge_rows (fun vs H Q E h => ?_) (fun cdv A outer s H vs Q E hr h => ?_), g, F.kp, F.bindsN (fun _ _ _ _ _ _ us hl => match us, hl with | [_, _, _], _ => rfl)⟩
  · obtain ⟨a, Vs, ad, nb, wt, kept, gone, rfl, _⟩ := h
    rfl
  · have hu := hu_of hr
    have nd := sc_merge_rows.nd
    refine ⟨_, PSs.nox (pss_one (ps_lock (ps_for PassesOwn.never rfl (pi_items (pe_dpop1 (pv 0) (pv 2) ⟨rfl, rfl, rfl, rfl⟩)) (WkN.pgT K 2 rfl rfl (pgs_cons (pg_name (i := 3) nd rfl (Or.inl rfl)) (pgs_cons (pg_name (i := 4) nd rfl (Or.inl rfl)) pgs_nil)) rfl)
      (pss_cons (ps_ddel (pe_dget hu (pv 0) (pv 3) (fun _ _ => rfl)) (pv 2))
      (pss_one (ps_if (pt_cmpR op_ne (pv 3) (pv 1) (nomark _))
      (pss_one (ps_asg2 (pe_op op_add (pe_dget2 hu (pe_dget hu (pv 0) (pv 1) (fun _ _ => rfl)) (pv 3) pe_int ⟨rfl, rfl, rfl, rfl⟩) (pv 4)) (pg_sub (pe_dget hu (pv 0) (pv 1) (fun _ _ => rfl)) (pv 3) (set_dict hu) (fun _ => rfl)) (pg_sub (pe_dget hu (pv 0) (pv 3) (fun _ _ => rfl)) (pv 1) (set_dict hu) (fun _ => rfl)))) pss_nil)))))), ?_⟩
    obtain ⟨a, Vs, ad, nb, wt, kept, gone, rfl, R, sy, hk, hg, hne, hsz, k⟩ := h
    have nag := R.ne hg
    refine ⟨ad gone, _, R.row gone hg, trivial, fun od => ?_⟩
    have A1 : upd H (ad gone) (.frz od (.dK (dct (nb gone) fun v => .int (wt gone v)))) a = some (.dK (dct Vs fun u => .ref (ad u))) := by
      rw [upd_ne (Ne.symm nag)]
      exact R.top
    refine ⟨_, rfl, a, rfl, .inl ⟨_, .inl A1⟩, _, rfl, _, Sum.inr gone, _, A1, rfl, dct_in hg, ?_⟩
    rw [dct_drop]
    have mw : ∀ u, u ∈ (Vs.filter fun y => decide (y ≠ gone)) ↔ u ∈ Vs ∧ u ≠ gone := fun u => by
      rw [List.mem_filter, decide_eq_true_iff]
    have wl : (Vs.filter fun y => decide (y ≠ gone)).length ≤ Vs.length := List.length_filter_le _ _
    have hk' := (mw kept).mpr ⟨hk, hne⟩
    obtain ⟨Ws, eW⟩ : ∃ Ws, Ws = Vs.filter fun y => decide (y ≠ gone) := ⟨_, rfl⟩
    rw [← eW] at mw wl hk' ⊢
    generalize hh : upd (upd H (ad gone) (.frz od (.dK (dct (nb gone) fun v => .int (wt gone v))))) a (.dK (dct Ws fun u => .ref (ad u))) = H1
    have Z1 : H1 (ad gone) = some (.frz od (.dK (dct (nb gone) fun v => .int (wt gone v)))) := by
      rw [← hh, upd_ne nag, upd_same]
    have R1 : RowsM H1 a Ws ad nb wt := by
      refine ⟨by rw [← hh, upd_same], fun u hu => ?_, fun u hu v hv => R.inj u ((mw u).mp hu).1 v ((mw v).mp hv).1, by rw [eW]; exact R.nd.filter _⟩
      obtain ⟨h1, h2⟩ := (mw u).mp hu
      rw [← hh, upd_ne (R.ne h1), upd_ne (fun z => h2 (R.inj u h1 gone hg z))]
      exact R.row u h1
    have F1 : ∀ b o, H b = some o → b ≠ a → (∀ u ∈ Vs, b ≠ ad u) → H1 b = some o := fun b o hb h1 h2 => by
      rw [← hh, upd_ne h1, upd_ne (h2 gone hg)]
      exact hb
    clear hh A1
    refine ⟨ad gone, od, _, rfl, Z1, ?_⟩
    have nbl : ∀ (nbi : Nb) (wti : Wt) (S : List Str), Mp nb wt kept gone Ws S nbi wti → (∀ y ∈ S, y ∈ Vs) → ∀ u ∈ Ws, (nbi u).length < sizeLine := fun nbi wti S m hS u hu => by
      have sub : (nbi u).Subset Vs := fun y hy => by
        have h1 := (m.mem u hu y).mp hy
        have h2 := sy.mem u ((mw u).mp hu).1 y
        rcases h1 with ⟨rfl, _⟩ | ⟨_, h | ⟨_, h, _⟩ | ⟨rfl, _⟩⟩
        · exact hg
        · exact (h2 h).1
        · exact hS y h
        · exact hk
      exact Nat.lt_of_le_of_lt ((m.nd u hu).length_le_of_subset sub) (Nat.lt_trans hsz (by decide))
    refine for_it (walk_items (kvs := dct (nb gone) fun v => .int (wt gone v))) (fun i σ Hc => ∃ (x3 x4 : Option V) (nbi : Nb) (wti : Wt), σ = [some (.ref a), some (.str kept), some (.str gone), x3, x4] ∧ RowsM Hc a Ws ad nbi wti ∧ Mp nb wt kept gone Ws ((nb gone).take i) nbi wti ∧
      Hc (ad gone) = some (.frz od (.dK (dct (nb gone) fun v => .int (wt gone v)))) ∧ ∀ b o, H b = some o → b ≠ a → (∀ u ∈ Vs, b ≠ ad u) → Hc b = some o) ⟨none, none, nb, wt, rfl, R1, Mp.start sy fun u hu => ((mw u).mp hu).1, Z1, F1⟩ ?_ ?_ ?_
    · rintro i σ Hc hi ⟨x3, x4, nbi, wti, rfl, Rc, Mc, Zc, Fc⟩
      exact Zc
    · rintro i y σ Hc Hc' hi ⟨x3, x4, nbi, wti, rfl, Rc, Mc, Zc, Fc⟩ ⟨T, kx, vx, rfl, nT, rfl, hkx, hvx⟩
      rw [dct_len] at hi
      dsimp only at hkx hvx
      rw [dct_at, List.getElem?_eq_getElem hi] at hkx hvx
      cases hkx
      cases hvx
      obtain ⟨v, ev⟩ : ∃ v, v = (nb gone)[i] := ⟨_, rfl⟩
      have hvg : v ∈ nb gone := by
        rw [ev]
        exact List.getElem_mem hi
      have tk : (nb gone).take (i + 1) = (nb gone).take i ++ [v] := by
        rw [ev]
        exact takeS (List.getElem?_eq_getElem hi)
      have nin : v ∉ (nb gone).take i := fun z => by
        obtain ⟨j, hj, e⟩ := List.mem_iff_getElem.mp z
        rw [List.length_take] at hj
        rw [List.getElem_take, ev] at e
        have := (List.getElem_inj (sy.nd gone hg)).mp e
        omega
      rw [← ev]
      obtain ⟨hvV, hvne, hgv, hwv⟩ := sy.mem gone hg v hvg
      have hvW := (mw v).mpr ⟨hvV, hvne⟩
      have sT : Same Hc (upd Hc T (.tup [.str v, .int (wt gone v)])) := same_upd nT
      have Rd := Rc.ext (Ext.of sT)
      have Zd := sT _ _ Zc
      have Fd : ∀ b o, H b = some o → b ≠ a → (∀ u ∈ Vs, b ≠ ad u) → upd Hc T (.tup [.str v, .int (wt gone v)]) b = some o := fun b o h1 h2 h3 => sT _ _ (Fc b o h1 h2 h3)
      have Pd : upd Hc T (.tup [.str v, .int (wt gone v)]) T = some (.tup [.str v, .int (wt gone v)]) := upd_same
      show gTup _ _ _ _ _ (upd Hc T (.tup [.str v, .int (wt gone v)])) _
      generalize upd Hc T (.tup [.str v, .int (wt gone v)]) = Hd at Rd Zd Fd Pd
      refine ⟨T, _, rfl, .inl (.inl Pd), rfl, _, _, rfl, _, _, rfl, rfl, ?_⟩
      have hgi : gone ∈ nbi v := (Mc.mem v hvW gone).mpr (.inl ⟨rfl, hgv, nin⟩)
      refine ⟨_, rfl, _, rfl, a, _, rfl, get_d (.inl Rd.top) hvW, _, rfl, ad v, _, Sum.inr gone, rfl, Rd.row v hvW, rfl, by rw [dct_in hgi]; rfl, ?_⟩
      rw [dct_drop]
      have Re := Rd.put hvW ((nbi v).filter fun y => decide (y ≠ gone)) (wti v)
      have nvg : ad gone ≠ ad v := fun z => hvne (R.inj gone hg v hvV z).symm
      have Ze : upd Hd (ad v) (.dK (dct ((nbi v).filter fun y => decide (y ≠ gone)) fun y => .int (wti v y))) (ad gone) = some (.frz od (.dK (dct (nb gone) fun v => .int (wt gone v)))) := by
        rw [upd_ne nvg]
        exact Zd
      have Fe : ∀ b o, H b = some o → b ≠ a → (∀ u ∈ Vs, b ≠ ad u) → upd Hd (ad v) (.dK (dct ((nbi v).filter fun y => decide (y ≠ gone)) fun y => .int (wti v y))) b = some o := fun b o h1 h2 h3 => by
        rw [upd_ne (h3 v hvV)]
        exact Fd b o h1 h2 h3
      generalize upd Hd (ad v) (.dK (dct ((nbi v).filter fun y => decide (y ≠ gone)) fun y => .int (wti v y))) = He at Re Ze Fe
      have hS : ∀ y ∈ (nb gone).take i, y ∈ Vs := fun y hy => (sy.mem gone hg y (List.mem_of_mem_take hy)).1
      have Re : RowsM He a Ws ad (up nbi v ((nbi v).filter fun y => decide (y ≠ gone))) wti := Re.as (fun u _ => rfl) fun u _ y _ => by
        show (if u = v then wti v y else wti u y) = wti u y
        split
        · rename_i e
          rw [e]
        · rfl
      have sw : (nb gone).take (i + 1) = (nb gone).take i ++ [v] := tk
      refine ⟨_, rfl, _, rfl, rfl, _, rfl, ?_⟩
      have e0 : decide (V.str v = V.str kept) = decide (v = kept) := by
        by_cases h : v = kept
        · rw [decide_eq_true h, decide_eq_true (by rw [h])]
        · rw [decide_eq_false h, decide_eq_false (fun z => h (V.str.inj z))]
      rw [e0]
      refine ite2 (fun h1 => ?_) (fun h1 => ?_)
      · have hvk : v ≠ kept := fun e => by
          rw [decide_eq_true e] at h1
          cases h1
        have rk : He (ad kept) = some (.dK (dct (nbi kept) fun y => .int (wti kept y))) := by
          have z := Re.row kept hk'
          unfold up at z
          rw [if_neg (Ne.symm hvk)] at z
          exact z
        have sk := nbl nbi wti _ Mc hS kept hk'
        have svv := nbl nbi wti _ Mc hS v hvW
        obtain ⟨n, hn⟩ : ∃ n : Int, n = (if v ∈ nbi kept then wti kept v else 0) + wt gone v := ⟨_, rfl⟩
        refine ⟨_, rfl, _, rfl, a, _, rfl, get_d (.inl Re.top) hk', ad kept, rfl, .inl ⟨_, .inl rk⟩, _, rfl, _, get_x (.inl rk), _, rfl, (if v ∈ nbi kept then wti kept v else 0), _, ?_, rfl, ?_⟩
        · split <;> rfl
        dsimp only
        rw [← hn]
        refine ⟨_, rfl, _, rfl, a, _, rfl, get_d (.inl Re.top) hk', _, rfl, ad kept, _, rfl, putI rk sk, ?_⟩
        have Rf := Re.put hk' (add (nbi kept) v) (fun y => if y = v then n else wti kept y)
        have nkg : ad gone ≠ ad kept := fun z => hne (R.inj gone hg kept hk z).symm
        have Zf : upd He (ad kept) (.dK (dct (add (nbi kept) v) fun y => .int (if y = v then n else wti kept y))) (ad gone) = some (.frz od (.dK (dct (nb gone) fun v => .int (wt gone v)))) := by
          rw [upd_ne nkg]
          exact Ze
        have Ff : ∀ b o, H b = some o → b ≠ a → (∀ u ∈ Vs, b ≠ ad u) → upd He (ad kept) (.dK (dct (add (nbi kept) v) fun y => .int (if y = v then n else wti kept y))) b = some o := fun b o h1 h2 h3 => by
          rw [upd_ne (h3 kept hk)]
          exact Fe b o h1 h2 h3
        generalize upd He (ad kept) (.dK (dct (add (nbi kept) v) fun y => .int (if y = v then n else wti kept y))) = Hf at Rf Zf Ff
        have rv : Hf (ad v) = some (.dK (dct ((nbi v).filter fun y => decide (y ≠ gone)) fun y => .int (wti v y))) := by
          have z := Rf.row v hvW
          unfold up at z
          rw [if_neg hvk, if_pos rfl] at z
          rw [z, dct_congr (g' := fun y => V.int (wti v y)) fun y _ => by rw [if_neg hvk]]
        refine ⟨_, rfl, _, rfl, a, _, rfl, get_d (.inl Rf.top) hvW, _, rfl, ad v, _, rfl, putI rv (Nat.lt_of_le_of_lt (List.length_filter_le _ _) svv), ?_⟩
        have Rg := Rf.put hvW (add ((nbi v).filter fun y => decide (y ≠ gone)) kept) (fun y => if y = kept then n else wti v y)
        refine ⟨_, _, _, _, rfl, Rg.as (nb' := up (up (up nbi v ((nbi v).filter fun y => decide (y ≠ gone))) kept (add (nbi kept) v)) v (add ((nbi v).filter fun y => decide (y ≠ gone)) kept)) (wt' := upw (upw wti kept fun y => if y = v then n else wti kept y) v fun y => if y = kept then n else wti v y) (fun u _ => rfl) (fun u _ y _ => rfl), ?_, ?_, ?_⟩
        · rw [sw]
          exact Mc.atOther sy (fun u hu => ((mw u).mp hu).1) hk' hne hvW nin hvk hvne hgv hn
        · rw [upd_ne nvg]
          exact Zf
        · intro b o h1 h2 h3
          rw [upd_ne (h3 v hvV)]
          exact Ff b o h1 h2 h3
      · have hvk : v = kept := by
          by_cases h : v = kept
          · exact h
          · rw [decide_eq_false h] at h1
            exact absurd rfl h1
        subst hvk
        refine ⟨_, _, _, _, rfl, Re, ?_, Ze, Fe⟩
        rw [sw]
        exact Mc.atKept sy (fun u hu => ((mw u).mp hu).1) hk' hne
    · rintro σ Hc ⟨x3, x4, nbi, wti, rfl, Rc, Mc, Zc, Fc⟩
      rw [dct_len, List.take_length] at Mc
      refine ⟨Zc, ?_⟩
      rw [eW] at Mc Rc
      have ng : ∀ u ∈ (Vs.filter fun y => decide (y ≠ gone)), ad u ≠ ad gone := fun u hu z => by
        have h := List.mem_filter.mp hu
        have h2 : u ≠ gone := of_decide_eq_true h.2
        exact h2 (R.inj u h.1 gone hg z)
      refine k nbi wti _ ⟨by rw [upd_ne (Ne.symm nag)]; exact Rc.top, fun u hu => by rw [upd_ne (ng u hu)]; exact Rc.row u hu, Rc.inj, Rc.nd⟩ (Mp.done sy hk hg hne Mc) fun b o h1 h2 h3 => ?_
      rw [upd_ne (h3 gone hg)]
      exact Fc b o h1 h2 h3
end
end Wk
namespace Wk
open PySem PySem.Spec PyProof.Rows L2 WkD WkN LamX WkP
/-- an object with rows and a root -/
structure GAt (K : PySem.W.Frag) (H : Hp) (g C dx : Addr) (fs : List (Str × V)) (a : Addr) (top : Str) : Prop where
  ins : H g = some (.ins C dx fs)
  cls : Cls K C
  na : NoAttr K C "around"
  nt : NoAttr K C "top"
  la : fs.lookup ("around" : Str) = some (.ref a)
  lt : fs.lookup ("top" : Str) = some (.str top)
theorem GAt.ext {K : PySem.W.Frag} {H H' : Hp} {g C dx : Addr} {fs : List (Str × V)} {a : Addr} {top : Str} (x : GAt K H g C dx fs a top) (e : Ext H H') : GAt K H' g C dx fs a top := ⟨e _ _ x.ins (fun ps z => by cases z), x.cls, x.na, x.nt, x.la, x.lt⟩
section
variable {P : Program} {w : World} {K : PySem.W.Frag} {mg : Str → Option Value} {base : Heap}
def spSide (K : PySem.W.Frag) : Sp := fun vs H Q _ => ∃ (g C dx : Addr) (fs : List (Str × V)) (a m : Addr) (top : Str) (Vs ms : List Str) (ad : Str → Addr) (o : Obj), vs = [.ref g, .ref m] ∧ GAt K H g C dx fs a top ∧ H a = some (.frz o (.dK (dct Vs fun u => .ref (ad u)))) ∧ Vs.length < 1000 ∧ (SqL K H m (ms.map V.str) ∨ SqT K H m (ms.map V.str)) ∧
  ∀ p H', Same H H' → H p = none → H' p = some (.tup ((sideL top Vs ms).map V.str)) → Q (.ref p) H'
theorem sc_side_of : FnScope ["graph", "members", "is_outside", "vertex"] ["graph", "members"] (defScope s_side_of) := ⟨rfl, rfl, rfl, by decide +kernel, rfl, by decide +kernel, by decide +kernel⟩
theorem c_side_of (D : Def K mg "side_of" s_side_of) (B : Bi mg) : Callee P w K mg base CX0 1 "side_of" ["graph", "members"] (spSide K) := by
  obtain ⟨f, fd, F, g⟩ := D
  refine ⟨f, fd, F.ok sc_side_of (fun vs H Q E h => ?_) (fun cdv A outer s H vs Q E hr h => ?_), g, F.kp, F.bindsN (fun _ _ _ _ _ _ us hl => match us, hl with | [_, _], _ => rfl)⟩
  · obtain ⟨g, C, dx, fs, a, m, top, Vs, ms, ad, o, rfl, _⟩ := h
    rfl
  · have nd := sc_side_of.nd
    refine ⟨_, PSs.nox (pss_cons (ps_set (i := 2) nd rfl (Or.inr rfl) (pe_cmpR (WkN.opIn K (by rfl)) (pe_fld (pv 0) rfl) (pv 1) (by rfl)))
      (pss_one (ps_ret (pe_callTy call_tuple_of (by rfl) B.n_tuple (by decide +kernel) (pa_cons (pe_lc (own := [("vertex", 3)]) (by rfl) nd (pi_keys (pe_fld (pv 0) rfl)) (blkOk_by (by kernel_rfl)) (fun _ _ _ _ _ => (pg_name (i := 3) nd rfl (Or.inl rfl))) (fun _ _ _ _ _ => (pts_one (pt_cmpR op_ne (pe_cmpR (WkN.opIn K (by rfl)) (pv 3) (pv 1) (by rfl)) (pv 2) (nomark _)))) (fun _ _ _ _ _ => (pv 3))) pa_nil))))), ?_⟩
    obtain ⟨g, C, dx, fs, a, m, top, Vs, ms, ad, o, rfl, G, hA, hl, hm, k⟩ := h
    refine ⟨_, rfl, g, C, dx, fs, _, rfl, G.ins, G.cls, G.nt, G.lt, _, rfl, m, _, rfl, hm, rfl, flat_str, ?_⟩
    rw [if_neg (by decide), inV_str]
    refine ⟨_, rfl, g, C, dx, fs, _, rfl, G.ins, G.cls, G.na, G.la, a, o, rfl, .inl ⟨_, hA, fun D nD => ?_⟩⟩
    have sD : ∀ l : List V, Same H (upd H D (.lst l)) := fun l => same_upd nD
    refine lc_it (walk_keys (kvs := dct Vs fun u => .ref (ad u))) (fun i H2 => H2 = upd H D (.lst ((sideL top (Vs.take i) ms).map V.str))) rfl ?_ ?_ ?_
    · rintro i H2 hi rfl
      exact sD _ _ _ hA
    · rintro i x H2 H2' hi rfl ⟨rfl, k0, v0, hk, rfl⟩
      rw [dct_len] at hi
      rw [dct_at, List.getElem?_eq_getElem hi] at hk
      cases hk
      have hm' : SqL K (upd H D (.lst ((sideL top (Vs.take i) ms).map V.str))) m (ms.map V.str) ∨ SqT K (upd H D (.lst ((sideL top (Vs.take i) ms).map V.str))) m (ms.map V.str) := hm.imp (fun z => (sD _).seq z) (fun z => WkG.seqT_same (sD _) z)
      refine ⟨rfl, _, rfl, _, rfl, m, _, rfl, hm', rfl, flat_str, ?_⟩
      have e7 : inV (kV (Sum.inr Vs[i])) (ms.map V.str) = decide (Vs[i] ∈ ms) := inV_str
      rw [if_neg (by decide), e7]
      have tk : sideL top (Vs.take (i + 1)) ms = sideL top (Vs.take i) ms ++ (if (!decide (V.bl (decide (Vs[i] ∈ ms)) = V.bl (decide (top ∈ ms)))) = true then [Vs[i]] else []) := by
        unfold sideL
        rw [takeS (List.getElem?_eq_getElem hi), List.filter_append]
        congr 1
        rw [List.filter_cons, List.filter_nil]
      refine ⟨_, rfl, rfl, _, rfl, ?_⟩
      rw [tk]
      refine ite2 (fun h1 => ?_) (fun h1 => ?_)
      · refine ⟨_, rfl, _, upd_same, ?_, ?_⟩
        · rw [List.length_map]
          refine Nat.lt_of_le_of_lt (List.length_filter_le _ _) ?_
          rw [List.length_take]
          exact Nat.lt_of_le_of_lt (Nat.min_le_right _ _) (Nat.lt_trans hl (by decide))
        · rw [upd_upd, if_pos h1, List.map_append]
          rfl
      · rw [if_neg h1, List.append_nil]
    · rintro H2 rfl
      rw [dct_len, List.take_length]
      refine ⟨D, _, rfl, .inl ⟨SqL.of upd_same, fun p np => ?_⟩⟩
      have npH : H p = none := by
        have e : p ≠ D := fun z => by
          rw [z, upd_same] at np
          cases np
        rw [upd_ne e] at np
        exact np
      exact k p _ ((sD _).trans (same_upd np)) npH upd_same
end
end Wk
namespace Wk
open PySem PySem.Spec PyProof.Rows L2 WkD WkN LamX WkP
section
variable {P : Program} {w : World} {K : PySem.W.Frag} {mg : Str → Option Value} {base : Heap}
def spLeast (K : PySem.W.Frag) (T : List (Addr × Str)) : Sp := fun vs H Q _ => ∃ (g C dx : Addr) (fs : List (Str × V)) (a : Addr) (top : Str) (Vs : List Str) (ad : Str → Addr) (nb : Nb) (wt : Wt), vs = [.ref g] ∧ GAt K H g C dx fs a top ∧ RowsZ H a Vs ad nb wt ∧ Vs.Nodup ∧ Sym Vs nb wt ∧ 2 ≤ Vs.length ∧ Vs.length < 1000 ∧ Tabs T H ∧
  ∀ p q n ms H', Ext H H' → Tabs T H' → H' p = some (.tup [.int n, .ref q]) → H' q = some (.tup ((sideL top Vs ms).map V.str)) → LeastCut Vs nb wt n ms → Q (.ref p) H'
/-- rows that were just copied -/
structure Cop (H : Hp) (ra : Addr) (nb : Nb) (wt : Wt) (ks : List Str) (ad : Str → Addr) (H2 : Hp) : Prop where
  rows : RowsM H2 ra ks ad nb wt
  keep : But ra H H2
  new : ∀ u ∈ ks, H (ad u) = none
structure Grp (H : Hp) (ga : Addr) (gad : Str → Addr) (Vs : List Str) (grp : Str → List Str) : Prop where
  top : H ga = some (.dK (dct Vs fun u => .ref (gad u)))
  lst : ∀ u ∈ Vs, H (gad u) = some (.lst ((grp u).map V.str))
def BestH (H : Hp) (gad : Str → Addr) (Vs : List Str) (bv : V) : Option (Int × List Str) → Prop
  | none => bv = .non
  | some (n, ms) => ∃ bp ml, bv = .ref bp ∧ H bp = some (.tup [.int n, .ref ml]) ∧ H ml = some (.lst (ms.map V.str)) ∧ ∀ u ∈ Vs, ml ≠ gad u
theorem BestH.ext {H H' : Hp} {gad : Str → Addr} {Vs : List Str} {bv : V} {best : Option (Int × List Str)} (b : BestH H gad Vs bv best) (e : ∀ c o, H c = some o → (∃ xs, o = .tup xs) ∨ (∃ xs, o = .lst xs ∧ ∀ u ∈ Vs, c ≠ gad u) → H' c = some o) : BestH H' gad Vs bv best := by
  cases best with
  | none => exact b
  | some x =>
    obtain ⟨n, ms⟩ := x
    obtain ⟨bp, ml, h1, h2, h3, h4⟩ := b
    exact ⟨bp, ml, h1, e _ _ h2 (.inl ⟨_, rfl⟩), e _ _ h3 (.inr ⟨_, rfl, h4⟩), h4⟩
theorem sc_least_cut : FnScope ["graph", "rows", "groups", "u", "row", "best", "ahead", "last", "weight"] ["graph"] (defScope s_least_cut) := ⟨rfl, rfl, rfl, by decide +kernel, rfl, by decide +kernel, by decide +kernel⟩
theorem c_least_cut {tbT : List (Addr × Str)} (D : Def K mg "least_cut" s_least_cut) (B : Bi mg) (CL : Callee P w K mg base CX0 3 "last_two" ["rows"] (spLast tbT)) (CM : Callee P w K mg base CX0 1 "merge_rows" ["rows", "kept", "gone"] spMerge) (CS : Callee P w K mg base CX0 1 "side_of" ["graph", "members"] (spSide K)) :
    Callee P w K mg base CX0 4 "least_cut" ["graph"] (spLeast K tbT) := by
  obtain ⟨f, fd, F, g⟩ := D
  refine ⟨f, fd, F.ok sc_least_cut (fun vs H Q E h => ?_) (fun cdv A outer s H vs Q E hr h => ?_), g, F.kp, F.bindsN (fun _ _ _ _ _ _ us hl => match us, hl with | [_], _ => rfl)⟩
  · obtain ⟨g, C, dx, fs, a, top, Vs, ad, nb, wt, rfl, _⟩ := h
    rfl
  · have hu := hu_of hr
    have nd := sc_least_cut.nd
    have hr3 : Room 3 _ := hr
    have hr1 : Room 1 _ := hr.mono (by decide)
    refine ⟨_, PSs.nox (pss_cons (ps_par (i := 1) (j := 2) (by rfl) nd rfl rfl (by decide) rfl rfl (pa_cons (pe_dc (own := [("u", 3), ("row", 4)]) (by rfl) nd (pi_items (pe_fld (pv 0) rfl)) (blkOk_by (by kernel_rfl)) (fun _ _ _ _ _ => (WkN.pgT K 2 rfl rfl (pgs_cons (pg_name (i := 3) nd rfl (Or.inl rfl)) (pgs_cons (pg_name (i := 4) nd rfl (Or.inl rfl)) pgs_nil)) rfl)) (fun _ _ _ _ _ => pts_nil) (fun _ _ _ _ _ => (pv 3)) (fun _ _ _ _ _ => (WkD.pe_dstar (pv 4)))) (pa_cons (pe_dc (own := [("u", 3)]) (by rfl) nd (pi_keys (pe_fld (pv 0) rfl)) (blkOk_by (by kernel_rfl)) (fun _ _ _ _ _ => (pg_name (i := 3) nd rfl (Or.inl rfl))) (fun _ _ _ _ _ => pts_nil) (fun _ _ _ _ _ => (pv 3)) (fun _ _ _ _ _ => (pe_lst (pa_cons (pv 3) pa_nil)))) pa_nil)) (by rfl))
      (pss_cons (ps_set (i := 5) nd rfl (Or.inl rfl) pe_non)
      (pss_cons (ps_while PassesOwn.never (pt_cmpR op_gt (pe_callB call_lenD (by rfl) B.n_len boot_len (pa_cons (pv 1) pa_nil)) pe_int (nomark _))
      (pss_cons (ps_asg (pe_c CL hr3 pass0 (pa_cons (pv 1) pa_nil)) (WkN.pgT K 3 rfl rfl (pgs_cons (pg_name (i := 6) nd rfl (Or.inl rfl)) (pgs_cons (pg_name (i := 7) nd rfl (Or.inl rfl)) (pgs_cons (pg_name (i := 8) nd rfl (Or.inl rfl)) pgs_nil))) rfl))
      (C8.pss_cut (ps_if (PW.pt (pw_or (pt_cmpR op_isN (pv 5) pe_non (nomark _)) (pw_or1 (pt_cmpR op_lt (pv 8) (pe_ix ix_tup (pv 5) pe_int (fun _ _ => rfl)) (nomark _)))))
      (pss_one (ps_set (i := 5) nd rfl (Or.inl rfl) (pe_tup (pa_cons (pv 8) (pa_cons (pe_callTy call_list_of (by rfl) B.n_list (by decide +kernel) (pa_cons (pe_dget hu (pv 2) (pv 7) (fun _ _ => rfl)) pa_nil)) pa_nil))))) pss_nil)
      (pss_cons (ps_expr (pe_c CM hr1 pass0 (pa_cons (pv 1) (pa_cons (pv 6) (pa_cons (pv 7) pa_nil)))))
      (pss_one (ps_expr (pe_bm PySem.F.plainAttrs_list PySem.F.slot_list_extend PySem.F.type_list_extend mt_extend (pe_dget hu (pv 2) (pv 6) (fun _ _ => rfl)) (pa_cons (pe_dget hu (pv 2) (pv 7) (fun _ _ => rfl)) pa_nil))))))))
      (pss_one (ps_ret (pe_tup (pa_cons (pe_ix ix_tup (pv 5) pe_int (fun _ _ => rfl)) (pa_cons (pe_c CS hr1 pass0 (pa_cons (pv 0) (pa_cons (pe_ix ix_tup (pv 5) pe_int (fun _ _ => rfl)) pa_nil))) pa_nil)))))))), ?_⟩
    obtain ⟨g, C, dx, fs, a, top, Vs, ad0, nb, wt, rfl, G, RZ, hVn, sy, h2, hsz, hT, k⟩ := h
    obtain ⟨oa, hA⟩ := RZ.top
    have tkN : ∀ i (h : i < Vs.length), Vs[i] ∉ Vs.take i := fun i h z => by
      obtain ⟨j, hj, e⟩ := List.mem_iff_getElem.mp z
      rw [List.length_take] at hj
      rw [List.getElem_take] at e
      have := (List.getElem_inj hVn).mp e
      omega
    have tkL : ∀ i, (Vs.take i).length < sizeLine := fun i => by
      rw [List.length_take]
      exact Nat.lt_of_le_of_lt (Nat.min_le_right _ _) (Nat.lt_trans hsz (by decide))
    refine ⟨_, rfl, g, C, dx, fs, _, rfl, G.ins, G.cls, G.na, G.la, a, oa, _, rfl, hA, fun ra nra => ?_⟩
    refine dc_it (walk_items (kvs := dct Vs fun u => .ref (ad0 u))) (fun i H2 => ∃ ad, Cop H ra nb wt (Vs.take i) ad H2) ⟨ad0, ⟨upd_same, fun u hu => absurd hu (by simp), fun u hu => absurd hu (by simp), by simp⟩, fun b o hb hne => by rw [upd_ne hne]; exact hb, fun u hu => absurd hu (by simp)⟩ ?_ ?_ ?_
    · rintro i H2 hi ⟨ad, cp⟩
      exact cp.keep _ _ hA (ne_of_none hA nra)
    · rintro i x H2 H2' hi ⟨ad, cp⟩ ⟨T, kx, vx, rfl, nT, rfl, hkx, hvx⟩
      rw [dct_len] at hi
      dsimp only at hkx hvx
      rw [dct_at, List.getElem?_eq_getElem hi] at hkx hvx
      cases hkx
      cases hvx
      obtain ⟨u, eu⟩ : ∃ u, u = Vs[i] := ⟨_, rfl⟩
      have hnu := tkN i hi
      have tk := takeS (List.getElem?_eq_getElem hi)
      have huV : u ∈ Vs := eu ▸ List.getElem_mem hi
      rw [← eu] at hnu tk ⊢
      obtain ⟨ou, hU⟩ := RZ.row u huV
      have sT : Same H2 (upd H2 T (.tup [.str u, .ref (ad0 u)])) := same_upd nT
      have PT' : upd H2 T (.tup [.str u, .ref (ad0 u)]) T = some (.tup [.str u, .ref (ad0 u)]) := upd_same
      show gTup _ _ _ _ _ (upd H2 T (.tup [.str u, .ref (ad0 u)])) _
      generalize upd H2 T (.tup [.str u, .ref (ad0 u)]) = H3 at sT PT'
      refine ⟨T, _, rfl, .inl (.inl PT'), rfl, _, _, rfl, _, _, rfl, rfl, rfl, tYes_if ?_⟩
      refine ⟨_, rfl, fun p np => ⟨_, rfl, ?_⟩⟩
      have hU3 : H3 (ad0 u) = some (.frz ou (.dK (dct (nb u) fun v => .int (wt u v)))) := sT _ _ (cp.keep _ _ hU (ne_of_none hU nra))
      have nup : ad0 u ≠ p := ne_of_none hU3 np
      refine ⟨ad0 u, _, rfl, upd_same, nup, .inr ⟨ou, by rw [upd_ne nup]; exact hU3⟩, ?_⟩
      rw [upd_upd]
      have hra3 : H3 ra = some (.dK (dct (Vs.take i) fun u => .ref (ad u))) := sT _ _ cp.rows.top
      have npr : ra ≠ p := ne_of_none hra3 np
      have npH : H p = none := by
        cases e : H p with
        | none => rfl
        | some o =>
          have z := sT _ _ (cp.keep _ _ e (Ne.symm npr))
          rw [np] at z
          cases z
      refine ⟨_, Sum.inr u, rfl, by rw [upd_ne npr]; exact hra3, by rw [dct_len]; exact tkL i, fun y => if y = u then p else ad y, ?_⟩
      rw [dct_put_new hnu, tk]
      have e1 : dct (Vs.take i ++ [u]) (fun y => if y = u then V.ref p else V.ref (ad y)) = dct (Vs.take i ++ [u]) fun y => V.ref (if y = u then p else ad y) := dct_congr fun y _ => by split <;> rfl
      rw [e1]
      have at_ : ∀ y ∈ Vs.take i, H3 (ad y) = some (.dK (dct (nb y) fun v => .int (wt y v))) := fun y hy => sT _ _ (cp.rows.row y hy)
      have mm : ∀ y, y ∈ Vs.take i ++ [u] → (y = u ∧ (if y = u then p else ad y) = p) ∨ (y ∈ Vs.take i ∧ y ≠ u ∧ (if y = u then p else ad y) = ad y) := fun y hy => by
        by_cases e : y = u
        · exact .inl ⟨e, if_pos e⟩
        · rcases List.mem_append.mp hy with h | h
          · exact .inr ⟨h, e, if_neg e⟩
          · exact absurd (List.mem_singleton.mp h) e
      refine ⟨⟨upd_same, fun y hy => ?_, fun y hy z hz e => ?_, ?_⟩, fun b o hb hne => ?_, fun y hy => ?_⟩
      · rcases mm y hy with ⟨h1, h2⟩ | ⟨h1, h2, h3⟩
        · rw [h2, upd_ne (Ne.symm npr), upd_same, h1]
        · rw [h3, upd_ne (fun q => cp.rows.ne h1 q), upd_ne (ne_of_none (at_ y h1) np)]
          exact at_ y h1
      · rcases mm y hy with ⟨h1, h2⟩ | ⟨h1, h2, h3⟩
        · rcases mm z hz with ⟨g1, g2⟩ | ⟨g1, g2, g3⟩
          · rw [h1, g1]
          · rw [h2, g3] at e
            exact absurd e.symm (ne_of_none (at_ z g1) np)
        · rcases mm z hz with ⟨g1, g2⟩ | ⟨g1, g2, g3⟩
          · rw [h3, g2] at e
            exact absurd e (ne_of_none (at_ y h1) np)
          · rw [h3, g3] at e
            exact cp.rows.inj y h1 z g1 e
      · rw [List.nodup_append]
        refine ⟨cp.rows.nd, by simp, fun a1 h1 b1 h3 e => ?_⟩
        have h3 : b1 = u := by simpa using h3
        rw [e, h3] at h1
        exact hnu h1
      · rw [upd_ne hne, upd_ne (ne_of_none hb npH)]
        exact sT _ _ (cp.keep _ _ hb hne)
      · rcases mm y hy with ⟨h1, h2⟩ | ⟨h1, h2, h3⟩
        · rw [h2]
          exact npH
        · rw [h3]
          exact cp.new y h1
    · rintro H1 ⟨ad, cp⟩
      rw [dct_len, List.take_length] at cp
      have fr1 : ∀ b o, H b = some o → H1 b = some o := fun b o hb => cp.keep b o hb (ne_of_none hb nra)
      have hA1 := fr1 _ _ hA
      have G1 := G.ext (Ext.of fr1)
      have T1 : Tabs tbT H1 := hT.ext fr1
      refine ⟨_, rfl, g, C, dx, fs, _, rfl, G1.ins, G1.cls, G1.na, G1.la, a, oa, rfl, .inl ⟨_, hA1, fun ga nga => ?_⟩⟩
      refine dc_it (walk_keys (kvs := dct Vs fun u => .ref (ad0 u))) (fun i H2 => ∃ gad : Str → Addr, Grp H2 ga gad (Vs.take i) (fun u => [u]) ∧ But ga H1 H2 ∧ (∀ u ∈ Vs.take i, H1 (gad u) = none) ∧ ∀ u ∈ Vs.take i, ∀ v ∈ Vs.take i, gad u = gad v → u = v) ⟨ad0, ⟨upd_same, fun u hu => absurd hu (by simp)⟩, fun b o hb hne => by rw [upd_ne hne]; exact hb, fun u hu => absurd hu (by simp), fun u hu => absurd hu (by simp)⟩ ?_ ?_ ?_
      · rintro i H2 hi ⟨gad, g2, b2, n2, j2⟩
        exact b2 _ _ hA1 (ne_of_none hA1 nga)
      · rintro i x H2 H2' hi ⟨gad, g2, b2, n2, j2⟩ ⟨rfl, k0, v0, hk, rfl⟩
        rw [dct_len] at hi
        rw [dct_at, List.getElem?_eq_getElem hi] at hk
        cases hk
        obtain ⟨u, eu⟩ : ∃ u, u = Vs[i] := ⟨_, rfl⟩
        have hnu := tkN i hi
        have tk := takeS (List.getElem?_eq_getElem hi)
        rw [← eu] at hnu tk ⊢
        refine ⟨rfl, tYes_if ?_⟩
        refine ⟨_, rfl, _, rfl, by show 1 ≤ sizeLine; decide, fun p np => ?_⟩
        have npg : ga ≠ p := ne_of_none g2.top np
        have npH : H1 p = none := by
          cases e : H1 p with
          | none => rfl
          | some o =>
            have z := b2 _ _ e (Ne.symm npg)
            rw [np] at z
            cases z
        refine ⟨_, Sum.inr u, rfl, by rw [upd_ne npg]; exact g2.top, by rw [dct_len]; exact tkL i, fun y => if y = u then p else gad y, ?_⟩
        rw [dct_put_new hnu, tk]
        have e1 : dct (Vs.take i ++ [u]) (fun y => if y = u then V.ref p else V.ref (gad y)) = dct (Vs.take i ++ [u]) fun y => V.ref (if y = u then p else gad y) := dct_congr fun y _ => by split <;> rfl
        rw [e1]
        have mm : ∀ y, y ∈ Vs.take i ++ [u] → (y = u ∧ (if y = u then p else gad y) = p) ∨ (y ∈ Vs.take i ∧ y ≠ u ∧ (if y = u then p else gad y) = gad y) := fun y hy => by
          by_cases e : y = u
          · exact .inl ⟨e, if_pos e⟩
          · rcases List.mem_append.mp hy with h | h
            · exact .inr ⟨h, e, if_neg e⟩
            · exact absurd (List.mem_singleton.mp h) e
        have lne : ∀ y ∈ Vs.take i, gad y ≠ ga := fun y hy => ne_of (g2.lst y hy) g2.top fun z => by cases z
        refine ⟨⟨upd_same, fun y hy => ?_⟩, fun b o hb hne => ?_, fun y hy => ?_, fun y hy z hz e => ?_⟩
        · rcases mm y hy with ⟨h1, h2⟩ | ⟨h1, h2, h3⟩
          · rw [h2, upd_ne (Ne.symm npg), upd_same, h1]
            rfl
          · rw [h3, upd_ne (lne y h1), upd_ne (ne_of_none (g2.lst y h1) np)]
            exact g2.lst y h1
        · rw [upd_ne hne, upd_ne (ne_of_none hb npH)]
          exact b2 b o hb hne
        · show H1 (if y = u then p else gad y) = none
          rcases mm y hy with ⟨h1, h2⟩ | ⟨h1, h2, h3⟩
          · rw [h2]
            exact npH
          · rw [h3]
            exact n2 y h1
        · have e : (if y = u then p else gad y) = (if z = u then p else gad z) := e
          rcases mm y hy with ⟨h1, h2⟩ | ⟨h1, h2, h3⟩
          · rcases mm z hz with ⟨g1, g4⟩ | ⟨g1, g4, g3⟩
            · rw [h1, g1]
            · rw [h2, g3] at e
              exact absurd e.symm (ne_of_none (g2.lst z g1) np)
          · rcases mm z hz with ⟨g1, g4⟩ | ⟨g1, g4, g3⟩
            · rw [h3, g4] at e
              exact absurd e (ne_of_none (g2.lst y h1) np)
            · rw [h3, g3] at e
              exact j2 y h1 z g1 e
      · rintro H2 ⟨gad, g2, b2, n2, j2⟩
        rw [dct_len, List.take_length] at g2 n2 j2
        have nga0 : ga ≠ ra := fun z => by
          rw [z, cp.rows.top] at nga
          cases nga
        have ngd : ∀ u ∈ Vs, ga ≠ ad u := fun u hu z => by
          rw [z, cp.rows.row u hu] at nga
          cases nga
        have ngH : H ga = none := by
          cases e : H ga with
          | none => rfl
          | some o =>
            rw [fr1 _ _ e] at nga
            cases nga
        have R2 : RowsM H2 ra Vs ad nb wt := ⟨b2 _ _ cp.rows.top (Ne.symm nga0), fun u hu => b2 _ _ (cp.rows.row u hu) (Ne.symm (ngd u hu)), cp.rows.inj, cp.rows.nd⟩
        have fr2 : ∀ b o, H b = some o → H2 b = some o := fun b o hb => b2 _ _ (fr1 b o hb) (ne_of_none hb ngH)
        have nlH : ∀ u ∈ Vs, H (gad u) = none := fun u hu => by
          cases e : H (gad u) with
          | none => rfl
          | some o =>
            have z := n2 u hu
            rw [fr1 _ _ e] at z
            cases z
        refine ⟨_, _, rfl, ?_⟩
        refine ⟨fun m σ Hc => ∃ (Ws : List Str) (nb' : Nb) (wt' : Wt) (grp : Str → List Str) (best : Option (Int × List Str)) (bv : V) (x3 x4 x6 x7 x8 : Option V), σ = [some (.ref g), some (.ref ra), some (.ref ga), x3, x4, some bv, x6, x7, x8] ∧ RowsM Hc ra Ws ad nb' wt' ∧ Sym Ws nb' wt' ∧
          Phases Vs nb wt Ws nb' wt' grp best ∧ Grp Hc ga gad Vs grp ∧ BestH Hc gad Vs bv best ∧ Ext H Hc ∧ Tabs tbT Hc ∧ m = Ws.length,
          ⟨_, Vs, nb, wt, fun u => [u], none, .non, none, none, none, none, none, rfl, R2, sy, Phases.start, g2, rfl, Ext.of fr2, hT.ext fr2, rfl⟩, ?_⟩
        rintro m σ H3 ⟨Ws, nb', wt', grp, best, bv, x3, x4, x6, x7, x8, rfl, R3, sy3, ph, g3, bh, e3, T3, rfl⟩
        have gs := ph.grps
        have wl : Ws.length ≤ Vs.length := R3.nd.length_le_of_subset fun u hu => gs.sub u hu
        refine ⟨_, rfl, ra, _, rfl, R3.top, _, _, rfl, rfl, _, rfl, ?_⟩
        rw [dct_len]
        refine ite2 (fun h1 => ?_) (fun h1 => ?_)
        · have h1 : (1 : Int) < (Ws.length : Int) := of_decide_eq_true h1
          refine ⟨fun σ' H' => ∃ (Ws' : List Str) (nb' : Nb) (wt' : Wt) (grp : Str → List Str) (best : Option (Int × List Str)) (bv : V) (x3 x4 x6 x7 x8 : Option V), σ' = [some (.ref g), some (.ref ra), some (.ref ga), x3, x4, some bv, x6, x7, x8] ∧ RowsM H' ra Ws' ad nb' wt' ∧ Sym Ws' nb' wt' ∧
            Phases Vs nb wt Ws' nb' wt' grp best ∧ Grp H' ga gad Vs grp ∧ BestH H' gad Vs bv best ∧ Ext H H' ∧ Tabs tbT H' ∧ Ws'.length < Ws.length, ?_, ?_⟩
          · rintro σ' H' ⟨Ws', nb', wt', grp, best, bv, x3, x4, x6, x7, x8, q1, q2, q3, q4, q5, q6, q7, q8, q9⟩
            exact ⟨_, q9, Ws', nb', wt', grp, best, bv, x3, x4, x6, x7, x8, q1, q2, q3, q4, q5, q6, q7, q8, rfl⟩
          refine ⟨_, rfl, ra, Ws, ad, nb', wt', rfl, R3, sy3.nd, by omega, by omega, T3, fun p x l n H4 e4 T4 hp lt => ?_⟩
          obtain ⟨hxW, hlW, hxl⟩ := lt.mem
          have R4 := R3.ext e4
          have g4 : Grp H4 ga gad Vs grp := ⟨e4 _ _ g3.top dk_tbl, fun u hu => e4 _ _ (g3.lst u hu) (fun ps z => by cases z)⟩
          have bh4 : BestH H4 gad Vs bv best := bh.ext fun c o hc q => e4 _ _ hc fun ps z => by
            rcases q with ⟨_, q⟩ | ⟨_, q, _⟩
            · rw [q] at z
              cases z
            · rw [q] at z
              cases z
          have e04 := e3.trans e4
          refine ⟨p, _, rfl, .inl (.inl hp), rfl, _, _, rfl, _, _, rfl, _, _, rfl, rfl, ?_⟩
          refine ⟨fun σ' H' => ∃ bv' : V, σ' = [some (.ref g), some (.ref ra), some (.ref ga), x3, x4, some bv', some (.str x), some (.str l), some (.int n)] ∧ Same H4 H' ∧ BestH H' gad Vs bv' (better best n (grp l)), ?_, ?_⟩
          · -- the best one
            have take : better best n (grp l) = some (n, grp l) → ∀ q1 : Addr, H4 q1 = none → ∀ q2, upd H4 q1 (.lst ((grp l).map V.str)) q2 = none →
                Same H4 (upd (upd H4 q1 (.lst ((grp l).map V.str))) q2 (.tup [.int n, .ref q1])) ∧ BestH (upd (upd H4 q1 (.lst ((grp l).map V.str))) q2 (.tup [.int n, .ref q1])) gad Vs (.ref q2) (better best n (grp l)) := fun hb q1 nq1 q2 nq2 => by
              refine ⟨(same_upd nq1).trans (same_upd nq2), ?_⟩
              rw [hb]
              exact ⟨q2, q1, rfl, upd_same, (same_upd nq2) _ _ upd_same, fun u hu z => by
                have z2 := g4.lst u hu
                rw [← z, nq1] at z2
                cases z2⟩
            have hga4 := g4.top
            have hl4 := g4.lst l (gs.sub l hlW)
            cases best with
            | none =>
              obtain rfl : bv = .non := bh4
              refine ⟨_, rfl, rfl, _, rfl, iteT ?_⟩
              refine ⟨_, rfl, _, rfl, _, rfl, ga, _, rfl, get_d (.inl hga4) (gs.sub l hlW), gad l, _, rfl, .inl (SqL.of hl4), fun q1 nq1 => ⟨by show 2 ≤ sizeLine; decide, fun q2 nq2 => ?_⟩⟩
              obtain ⟨z1, z2⟩ := take rfl q1 nq1 q2 nq2
              exact ⟨_, rfl, z1, z2⟩
            | some bm =>
              obtain ⟨bn, bms⟩ := bm
              obtain ⟨bp, ml, rfl, hbp, hml, hnl⟩ := id bh4
              refine ⟨_, rfl, rfl, _, rfl, iteF ?_⟩
              refine ⟨_, rfl, _, rfl, bp, _, _, _, rfl, rfl, .inl (.inl hbp), rfl, _, _, rfl, rfl, _, rfl, ?_⟩
              refine ite2 (fun h5 => ?_) (fun h5 => ?_)
              · refine ⟨_, rfl, _, rfl, _, rfl, ga, _, rfl, get_d (.inl hga4) (gs.sub l hlW), gad l, _, rfl, .inl (SqL.of hl4), fun q1 nq1 => ⟨by show 2 ≤ sizeLine; decide, fun q2 nq2 => ?_⟩⟩
                obtain ⟨z1, z2⟩ := take (by unfold better; exact if_pos (of_decide_eq_true h5)) q1 nq1 q2 nq2
                exact ⟨_, rfl, z1, z2⟩
              · refine ⟨_, rfl, fun _ _ e => e, ?_⟩
                have e : better (some (bn, bms)) n (grp l) = some (bn, bms) := by
                  unfold better
                  exact if_neg (fun z => h5 (decide_eq_true z))
                rw [e]
                exact bh4
          · rintro σ5 H5 ⟨bv5, rfl, s5, bh5⟩
            have R5 := R4.ext (Ext.of s5)
            refine ⟨_, rfl, _, rfl, _, rfl, ra, Ws, ad, nb', wt', x, l, rfl, R5, sy3, hxW, hlW, hxl, by omega, fun nb6 wt6 H6 R6 mg fr6 => ?_⟩
            have nr : ∀ u ∈ Ws, ∀ o, (∀ kvs, o ≠ HO.dK kvs) → ∀ b, H5 b = some o → b ≠ ad u := fun u hu o ho b hb z => by
              rw [z, R5.row u hu] at hb
              exact ho _ (Option.some.inj hb).symm
            have keep6 : ∀ b o, H5 b = some o → (∀ kvs, o ≠ HO.dK kvs) → H6 b = some o := fun b o hb ho => fr6 b o hb (fun z => by
              rw [z, R5.top] at hb
              exact ho _ (Option.some.inj hb).symm) fun u hu => nr u hu o ho b hb
            have hga6 : H6 ga = some (.dK (dct Vs fun u => .ref (gad u))) := fr6 _ _ (s5 _ _ g4.top) nga0 fun u hu => ngd u (gs.sub u hu)
            have hl6 : ∀ u ∈ Vs, H6 (gad u) = some (.lst ((grp u).map V.str)) := fun u hu => keep6 _ _ (s5 _ _ (g4.lst u hu)) (fun kvs z => by cases z)
            have hxV := gs.sub x hxW
            have hlV := gs.sub l hlW
            refine ⟨_, rfl, _, rfl, ga, _, rfl, get_d (.inl hga6) hxV, ?_, _, rfl, _, rfl, ga, _, rfl, get_d (.inl hga6) hlV, gad x, gad l, _, _, rfl, rfl, hl6 x hxV, hl6 l hlV, ?_, ?_⟩
            · exact .inl ⟨rfl, _, SqL.of (hl6 x hxV)⟩
            · rw [List.length_map, List.length_map]
              have a1 := gs.len hxW
              have a2 := gs.len hlW
              have a3 : 2000 ≤ sizeLine := by decide
              omega
            · have nlx : ∀ u ∈ Vs, u ≠ x → gad u ≠ gad x := fun u hu hne z => hne (j2 u hu x hxV z)
              have ndk : ∀ b kvs, H6 b = some (.dK kvs) → b ≠ gad x := fun b kvs hb => ne_of hb (hl6 x hxV) fun z => by cases z
              refine ⟨Ws.filter fun y => decide (y ≠ l), nb6, wt6, grow grp x l, better best n (grp l), bv5, _, _, _, _, _, rfl, ⟨by rw [upd_ne (ndk _ _ R6.top)]; exact R6.top, fun u hu => by rw [upd_ne (ndk _ _ (R6.row u hu))]; exact R6.row u hu, R6.inj, R6.nd⟩, mg.sym, ph.step lt mg, ⟨by rw [upd_ne (ndk _ _ hga6)]; exact hga6, fun u hu => ?_⟩, ?_, ?_, ?_, ?_⟩
              · unfold grow
                by_cases e : u = x
                · rw [e, upd_same, if_pos rfl, List.map_append]
                · rw [upd_ne (nlx u hu e), if_neg e]
                  exact hl6 u hu
              · refine (bh5.ext (H' := H6) fun c o hc q => keep6 c o hc fun kvs z => ?_).ext fun c o hc q => ?_
                · rcases q with ⟨_, q⟩ | ⟨_, q, _⟩
                  · rw [q] at z
                    cases z
                  · rw [q] at z
                    cases z
                · rw [upd_ne ?_]
                  · exact hc
                  · rcases q with ⟨_, q⟩ | ⟨_, q, q2⟩
                    · rw [q] at hc
                      exact ne_of hc (hl6 x hxV) fun z => by cases z
                    · exact q2 x hxV
              · intro b o hb ht
                have h5 := s5 _ _ (e04 b o hb ht)
                have n1 : b ≠ ra := ne_of_none hb nra
                rw [upd_ne (ne_of_none hb (nlH x hxV))]
                exact fr6 b o h5 n1 fun u hu => ne_of_none hb (cp.new u (gs.sub u hu))
              · have T6 : Tabs tbT H6 := fun q hq => by
                  obtain ⟨ps, q1, q2, q3⟩ := (T4.ext s5) q hq
                  refine ⟨ps, keep6 _ _ q1 (fun kvs z => by cases z), q2, fun pos cv hc => ?_⟩
                  obtain ⟨c, c1, c2⟩ := q3 pos cv hc
                  exact ⟨c, c1, keep6 _ _ c2 fun kvs z => by
                    unfold CodeO at z
                    cases z⟩
                exact tabs_mut T6 (hl6 x hxV) (fun ps z => by cases z) (fun c q z => by
                  unfold CodeO at z
                  cases z)
              · exact List.length_filter_lt_length_iff_exists.mpr ⟨l, hlW, by simp⟩
        · have h1 : ¬ (1 : Int) < (Ws.length : Int) := fun z => h1 (decide_eq_true z)
          cases best with
          | none =>
            have e := ph.none rfl
            rw [e] at h1
            omega
          | some bm =>
            obtain ⟨bn, bms⟩ := bm
            obtain ⟨bp, ml, rfl, hbp, hml, hnl⟩ := bh
            refine ⟨_, rfl, bp, _, _, _, rfl, rfl, .inl (.inl hbp), rfl, ?_⟩
            have G3 := G.ext e3
            have hA3 := e3 _ _ hA fz_tbl
            refine ⟨_, rfl, _, rfl, bp, _, _, _, rfl, rfl, .inl (.inl hbp), rfl, g, C, dx, fs, a, ml, top, Vs, bms, ad0, oa, rfl, G3, hA3, hsz, .inl (SqL.of hml), fun p H4 s4 np hp => ?_⟩
            refine ⟨by show 2 ≤ sizeLine; decide, fun q nq => ?_⟩
            refine k q p bn bms _ ((e3.trans (Ext.of s4)).trans (Ext.of (same_upd nq))) (tabs_put (T3.ext s4) nq) upd_same ((same_upd nq) _ _ hp) ⟨Ws, nb', wt', grp, ph, by omega⟩
end
end Wk
namespace Wk
open PySem PySem.Spec PyProof.Rows L2 WkD WkN LamX WkP
section
variable {P : Program} {w : World} {K : PySem.W.Frag} {mg : Str → Option Value} {base : Heap}
def spStrength (K : PySem.W.Frag) (T : List (Addr × Str)) : Sp := fun vs H Q _ => ∃ (g C dx : Addr) (fs : List (Str × V)) (a : Addr) (top : Str) (Vs : List Str) (ad : Str → Addr) (nb : Nb) (wt : Wt), vs = [.ref g] ∧ GAt K H g C dx fs a top ∧ RowsZ H a Vs ad nb wt ∧ Vs.Nodup ∧ Sym Vs nb wt ∧ 2 ≤ Vs.length ∧ Vs.length < 1000 ∧ Tabs T H ∧
  ∀ n ms H', Ext H H' → Tabs T H' → LeastCut Vs nb wt n ms → Q (.int n) H'
theorem sc_strength_of : FnScope ["graph"] ["graph"] (defScope s_strength_of) := ⟨rfl, rfl, rfl, by decide +kernel, rfl, by decide +kernel, by decide +kernel⟩
theorem c_strength_of {tbT : List (Addr × Str)} (D : Def K mg "strength_of" s_strength_of) (CC : Callee P w K mg base CX0 4 "least_cut" ["graph"] (spLeast K tbT)) : Callee P w K mg base CX0 5 "strength_of" ["graph"] (spStrength K tbT) := by
  obtain ⟨f, fd, F, g⟩ := D
  refine ⟨f, fd, F.ok sc_strength_of (fun vs H Q E h => ?_) (fun cdv A outer s H vs Q E hr h => ?_), g, F.kp, F.bindsN (fun _ _ _ _ _ _ us hl => match us, hl with | [_], _ => rfl)⟩
  · obtain ⟨g, C, dx, fs, a, top, Vs, ad, nb, wt, rfl, _⟩ := h
    rfl
  · have hr4 : Room 4 _ := hr
    refine ⟨_, PSs.nox (pss_one (ps_ret (pe_ix ix_tup (pe_c CC hr4 pass0 (pa_cons (pv 0) pa_nil)) pe_int (fun _ _ => rfl)))), ?_⟩
    obtain ⟨g, C, dx, fs, a, top, Vs, ad, nb, wt, rfl, G, RZ, hn, sy, h2, hsz, hT, k⟩ := h
    exact ⟨_, rfl, g, C, dx, fs, a, top, Vs, ad, nb, wt, rfl, G, RZ, hn, sy, h2, hsz, hT, fun p q n ms H' e T hp hq lc => ⟨p, _, _, _, rfl, rfl, .inl (.inl hp), rfl, k n ms H' e T lc⟩⟩
/-! ### sorted_rows -/
theorem Cop.snoc {H H2 H3 : Hp} {ra p : Addr} {nb : Nb} {wt : Wt} {ks : List Str} {ad : Str → Addr} {u : Str} (cp : Cop H ra nb wt ks ad H2) (hu : u ∉ ks) (sT : Same H2 H3) (np : H3 p = none) (nk : List Str) :
    Cop H ra (fun y => if y = u then nk else nb y) wt (ks ++ [u]) (fun y => if y = u then p else ad y) (upd (upd H3 p (.dK (dct nk fun v => .int (wt u v)))) ra (.dK (dct (ks ++ [u]) fun y => if y = u then V.ref p else V.ref (ad y)))) := by
  have npr : ra ≠ p := ne_of_none (sT _ _ cp.rows.top) np
  have npH : H p = none := by
    cases e : H p with
    | none => rfl
    | some o =>
      have z := sT _ _ (cp.keep _ _ e (Ne.symm npr))
      rw [np] at z
      cases z
  have e1 : dct (ks ++ [u]) (fun y => if y = u then V.ref p else V.ref (ad y)) = dct (ks ++ [u]) fun y => V.ref (if y = u then p else ad y) := dct_congr fun y _ => by split <;> rfl
  rw [e1]
  have at_ : ∀ y ∈ ks, H3 (ad y) = some (.dK (dct (nb y) fun v => .int (wt y v))) := fun y hy => sT _ _ (cp.rows.row y hy)
  have mm : ∀ y, y ∈ ks ++ [u] → (y = u ∧ (if y = u then p else ad y) = p) ∨ (y ∈ ks ∧ y ≠ u ∧ (if y = u then p else ad y) = ad y) := fun y hy => by
    by_cases e : y = u
    · exact .inl ⟨e, if_pos e⟩
    · rcases List.mem_append.mp hy with h | h
      · exact .inr ⟨h, e, if_neg e⟩
      · exact absurd (List.mem_singleton.mp h) e
  refine ⟨⟨upd_same, fun y hy => ?_, fun y hy z hz e => ?_, ?_⟩, fun b o hb hne => ?_, fun y hy => ?_⟩
  · rcases mm y hy with ⟨h1, h2⟩ | ⟨h1, h2, h3⟩
    · rw [h2, upd_ne (Ne.symm npr), upd_same, h1, if_pos rfl]
    · rw [h3, upd_ne (fun q => cp.rows.ne h1 q), upd_ne (ne_of_none (at_ y h1) np), if_neg h2]
      exact at_ y h1
  · have e : (if y = u then p else ad y) = (if z = u then p else ad z) := e
    rcases mm y hy with ⟨h1, h2⟩ | ⟨h1, h2, h3⟩
    · rcases mm z hz with ⟨g1, g2⟩ | ⟨g1, g2, g3⟩
      · rw [h1, g1]
      · rw [h2, g3] at e
        exact absurd e.symm (ne_of_none (at_ z g1) np)
    · rcases mm z hz with ⟨g1, g2⟩ | ⟨g1, g2, g3⟩
      · rw [h3, g2] at e
        exact absurd e (ne_of_none (at_ y h1) np)
      · rw [h3, g3] at e
        exact cp.rows.inj y h1 z g1 e
  · rw [List.nodup_append]
    refine ⟨cp.rows.nd, by simp, fun a1 h1 b1 h3 e => ?_⟩
    have h3 : b1 = u := by simpa using h3
    rw [e, h3] at h1
    exact hu h1
  · rw [upd_ne hne, upd_ne (ne_of_none hb npH)]
    exact sT _ _ (cp.keep _ _ hb hne)
  · show H (if y = u then p else ad y) = none
    rcases mm y hy with ⟨h1, h2⟩ | ⟨h1, h2, h3⟩
    · rw [h2]
      exact npH
    · rw [h3]
      exact cp.new y h1
/-- the rows in ascending order, known from now on -/
def spSorted : Sp := fun vs H Q _ => ∃ (a : Addr) (Vs : List Str) (ad : Str → Addr) (nb : Nb) (wt : Wt), vs = [.ref a] ∧ RowsR H a Vs ad nb wt ∧ Vs.Nodup ∧ (∀ u ∈ Vs, (nb u).Nodup) ∧ Vs.length < 64 ∧ (∀ u ∈ Vs, (nb u).length < 64) ∧
  ∀ p Ws bd nb' H', Same H H' → H p = none → RowsZ H' p Ws bd nb' wt → Ws.Perm Vs → Asc Ws → (∀ u ∈ Ws, (nb' u).Perm (nb u) ∧ Asc (nb' u)) → Q (.ref p) H'
theorem sc_sorted_rows : FnScope ["around", "v", "u"] ["around"] (defScope s_sorted_rows) := ⟨rfl, rfl, rfl, by decide +kernel, rfl, by decide +kernel, by decide +kernel⟩
theorem c_sorted_rows (D : Def K mg "sorted_rows" s_sorted_rows) (B : Bi mg) : Callee P w K mg base CX0 1 "sorted_rows" ["around"] spSorted := by
  obtain ⟨f, fd, F, g⟩ := D
  refine ⟨f, fd, F.ok sc_sorted_rows (fun vs H Q E h => ?_) (fun cdv A outer s H vs Q E hr h => ?_), g, F.kp, F.bindsN (fun _ _ _ _ _ _ us hl => match us, hl with | [_], _ => rfl)⟩
  · obtain ⟨a, Vs, ad, nb, wt, rfl, _⟩ := h
    rfl
  · have hu := hu_of hr
    have nd := sc_sorted_rows.nd
    refine ⟨_, PSs.nox (pss_one (WkD.ps_fz (ps_ret (pe_dc (own := [("u", 2)]) (by rfl) nd (WkN.piL K (by rfl) (pe_callB (call_sortedD rfl) (by rfl) B.n_sorted (by decide +kernel) (pa_cons (pv 0) pa_nil))) (blkOk_by (by kernel_rfl)) (fun _ _ _ _ _ => (pg_name (i := 2) nd rfl (Or.inr rfl))) (fun _ _ _ _ _ => pts_nil) (fun _ _ _ _ _ => (pv 2)) (fun _ _ _ _ _ => (pe_dc (own := [("v", 1)]) (by rfl) nd (WkN.piL K (by rfl) (pe_callB (call_sortedD rfl) (by rfl) B.n_sorted (by decide +kernel) (pa_cons (pe_dget hu (pv 0) (pv 2) (fun _ _ => rfl)) pa_nil))) (blkOk_by (by kernel_rfl)) (fun _ _ _ _ _ => (pg_name (i := 1) nd rfl (Or.inl rfl))) (fun _ _ _ _ _ => pts_nil) (fun _ _ _ _ _ => (pv 1)) (fun _ _ _ _ _ => (pe_dget hu (pe_dget hu (pv 0) (pv 2) (fun _ _ => rfl)) (pv 1) (fun _ _ => rfl))))))))), ?_⟩
    obtain ⟨a, Vs, ad, nb, wt, rfl, R, hVn, hnn, hl, hnl, k⟩ := h
    refine ⟨_, rfl, a, _, Vs, rfl, R.top, dct_keys, hl, fun ys p1 pm so np1 => ?_⟩
    have s1 : Same H (upd H p1 (.lst (ys.map V.str))) := same_upd np1
    have L1 : upd H p1 (.lst (ys.map V.str)) p1 = some (.lst (ys.map V.str)) := upd_same
    generalize upd H p1 (.lst (ys.map V.str)) = H1 at s1 L1
    have R1 := R.ext (Ext.of s1)
    have yn : ys.Nodup := pm.nodup_iff.mpr hVn
    have yl : ys.length = Vs.length := pm.length_eq
    refine ⟨p1, rfl, ⟨_, SqL.of L1⟩, fun D nD => ?_⟩
    refine dc_it (walk_list (xs := ys.map V.str)) (fun i H2 => ∃ bd nb', Cop H1 D nb' wt (ys.take i) bd H2 ∧ ∀ u ∈ ys.take i, (nb' u).Perm (nb u) ∧ Asc (nb' u)) ⟨ad, nb, ⟨⟨upd_same, fun u hu => absurd hu (by simp), fun u hu => absurd hu (by simp), by simp⟩, fun b o hb hne => by rw [upd_ne hne]; exact hb, fun u hu => absurd hu (by simp)⟩, fun u hu => absurd hu (by simp)⟩ ?_ ?_ ?_
    · rintro i H2 hi ⟨bd, nb', cp, hp⟩
      exact SqL.of (cp.keep _ _ L1 (ne_of_none L1 nD))
    · rintro i x H2 H2' hi ⟨bd, nb', cp, hp⟩ ⟨rfl, hx⟩
      rw [List.length_map] at hi
      rw [List.getElem?_map, List.getElem?_eq_getElem hi] at hx
      cases hx
      obtain ⟨u, eu⟩ : ∃ u, u = ys[i] := ⟨_, rfl⟩
      have tk := takeS (List.getElem?_eq_getElem hi)
      have hnu : ys[i] ∉ ys.take i := fun z => by
        obtain ⟨j, hj, e⟩ := List.mem_iff_getElem.mp z
        rw [List.length_take] at hj
        rw [List.getElem_take] at e
        have := (List.getElem_inj yn).mp e
        omega
      have huV : u ∈ Vs := pm.mem_iff.mp (eu ▸ List.getElem_mem hi)
      rw [← eu] at tk hnu ⊢
      refine ⟨rfl, tYes_if ?_⟩
      have keepR : ∀ b o, Rd H1 b (.dK o) → Rd H2' b (.dK o) := fun b o h => by
        rcases h with h | ⟨q, h⟩
        · exact .inl (cp.keep _ _ h (ne_of_none h nD))
        · exact .inr ⟨q, cp.keep _ _ h (ne_of_none h nD)⟩
      have top2 := keepR _ _ R1.top
      have row2 := keepR _ _ (R1.row u huV)
      refine ⟨_, rfl, _, rfl, _, rfl, a, _, rfl, get_d top2 huV, ad u, _, nb u, rfl, row2, dct_keys, hnl u huV, fun zs p2 pm2 so2 np2 => ?_⟩
      have s3 : Same H2' (upd H2' p2 (.lst (zs.map V.str))) := same_upd np2
      have L3 : upd H2' p2 (.lst (zs.map V.str)) p2 = some (.lst (zs.map V.str)) := upd_same
      generalize upd H2' p2 (.lst (zs.map V.str)) = H3 at s3 L3
      have zn : zs.Nodup := pm2.nodup_iff.mpr (hnn u huV)
      have top3 := rdS s3 top2
      have row3 := rdS s3 row2
      refine ⟨p2, rfl, ⟨_, SqL.of L3⟩, fun D2 nD2 => ?_⟩
      have sD : ∀ o, Same H3 (upd H3 D2 o) := fun o => same_upd nD2
      refine dc_it (walk_list (xs := zs.map V.str)) (fun j H4 => H4 = upd H3 D2 (.dK (dct (zs.take j) fun v => .int (wt u v)))) rfl ?_ ?_ ?_
      · rintro j H4 hj rfl
        exact SqL.of ((sD _) _ _ L3)
      · rintro j x H4 H4' hj rfl ⟨rfl, hx⟩
        rw [List.length_map] at hj
        rw [List.getElem?_map, List.getElem?_eq_getElem hj] at hx
        cases hx
        have hvn : zs[j] ∈ nb u := pm2.mem_iff.mp (List.getElem_mem hj)
        have hnv : zs[j] ∉ zs.take j := fun z => by
          obtain ⟨j', hj', e⟩ := List.mem_iff_getElem.mp z
          rw [List.length_take] at hj'
          rw [List.getElem_take] at e
          have := (List.getElem_inj zn).mp e
          omega
        refine ⟨rfl, tYes_if ?_⟩
        refine ⟨_, rfl, _, rfl, _, rfl, a, _, rfl, get_d (rdS (sD _) top3) huV, _, rfl, ad u, _, rfl, get_d (rdS (sD _) row3) hvn, _, Sum.inr zs[j], rfl, upd_same, ?_, ?_⟩
        · rw [dct_len, List.length_take]
          have := pm2.length_eq
          have := hnl u huV
          have : 64 ≤ sizeLine := by decide
          omega
        · rw [upd_upd, dct_put_new hnv, takeS (List.getElem?_eq_getElem hj)]
          congr 2
          exact dct_congr fun y _ => by
            split
            · rename_i e
              rw [e]
            · rfl
      · rintro H4 rfl
        rw [List.length_map, List.take_length]
        have nDD : D ≠ D2 := ne_of_none (s3 _ _ cp.rows.top) nD2
        refine ⟨_, Sum.inr u, rfl, by rw [upd_ne nDD]; exact s3 _ _ cp.rows.top, ?_, fun y => if y = u then D2 else bd y, fun y => if y = u then zs else nb' y, ?_, fun y hy => ?_⟩
        · rw [dct_len, List.length_take]
          have : 64 ≤ sizeLine := by decide
          omega
        · rw [dct_put_new hnu, tk]
          exact cp.snoc hnu s3 nD2 zs
        · by_cases e : y = u
          · show (if y = u then zs else nb' y).Perm (nb y) ∧ Asc (if y = u then zs else nb' y)
            rw [if_pos e, e]
            exact ⟨pm2, asc_of so2 zn⟩
          · show (if y = u then zs else nb' y).Perm (nb y) ∧ Asc (if y = u then zs else nb' y)
            rw [if_neg e]
            rw [tk] at hy
            rcases List.mem_append.mp hy with h | h
            · exact hp y h
            · exact absurd (List.mem_singleton.mp h) e
    · rintro H2 ⟨bd, nb', cp, hp⟩
      rw [List.length_map, List.take_length] at cp hp
      refine ⟨(D, .dK (dct ys fun u => .ref (bd u))) :: ys.map fun u => (bd u, .dK (dct (nb' u) fun v => .int (wt u v))), tFz_intro (fun p hp' => ?_) ?_ fun H3 z1 z2 => ?_⟩
      · rcases List.mem_cons.mp hp' with rfl | h
        · exact ⟨cp.rows.top, trivial⟩
        · obtain ⟨u, hu', rfl⟩ := List.mem_map.mp h
          exact ⟨cp.rows.row u hu', trivial⟩
      · rw [List.map_cons, List.nodup_cons, List.map_map]
        refine ⟨fun h => ?_, ?_⟩
        · obtain ⟨u, hu', e⟩ := List.mem_map.mp h
          exact cp.rows.ne hu' e
        · refine List.pairwise_map.mpr (List.Pairwise.imp_of_mem (fun {x y} hx hy hne e => hne (cp.rows.inj x hx y hy e)) yn)
      · have fr : Same H H3 := fun b o hb => by
          have h1 := s1 _ _ hb
          have hb2 : b ≠ D := ne_of_none h1 nD
          rw [z2 b fun hm => ?_]
          · exact cp.keep _ _ h1 hb2
          · rw [List.map_cons, List.mem_cons] at hm
            rcases hm with e | hm
            · exact hb2 e
            · rw [List.map_map] at hm
              obtain ⟨u, hu', e⟩ := List.mem_map.mp hm
              have n := cp.new u hu'
              rw [show bd u = b from e, h1] at n
              cases n
        have nDH : H D = none := by
          cases e : H D with
          | none => rfl
          | some o =>
            rw [s1 _ _ e] at nD
            cases nD
        refine k D ys bd nb' H3 fr nDH ⟨z1 _ List.mem_cons_self, fun u hu' => z1 _ (List.mem_cons_of_mem _ (List.mem_map.mpr ⟨u, hu', rfl⟩))⟩ pm (asc_of so yn) hp
end
end Wk
namespace Wk
open PySem PySem.Spec PyProof.Rows L2 WkD WkN LamX WkP
/-- v can be reached -/
inductive Rch (nb : Nb) (s : Str) : Str → Prop
  | here : Rch nb s s
  | go {u v : Str} : Rch nb s u → v ∈ nb u → Rch nb s v
structure Rst (Vs : List Str) (nb : Nb) (s : Str) (fl wl : List Str) : Prop where
  nd : fl.Nodup
  sub : ∀ u ∈ fl, u ∈ Vs
  st : s ∈ fl
  wf : ∀ u ∈ wl, u ∈ fl
  cl : ∀ u ∈ fl, u ∉ wl → ∀ v ∈ nb u, v ∈ fl
  rc : ∀ u ∈ fl, Rch nb s u
section
variable {P : Program} {w : World} {K : PySem.W.Frag} {mg : Str → Option Value} {base : Heap}
def spReach : Sp := fun vs H Q _ => ∃ (a : Addr) (Vs : List Str) (ad : Str → Addr) (nb : Nb) (wt : Wt) (s : Str), vs = [.ref a, .str s] ∧ RowsM H a Vs ad nb wt ∧ s ∈ Vs ∧ (∀ u ∈ Vs, ∀ v ∈ nb u, v ∈ Vs) ∧ Vs.length < 64 ∧
  ∀ p ys H', Same H H' → H' p = some (.tup (ys.map V.str)) → Asc ys → (∀ y, y ∈ ys ↔ Rch nb s y) → (∀ y ∈ ys, y ∈ Vs) → Q (.ref p) H'
theorem sc_reached : FnScope ["around", "start", "found", "waiting", "vertex"] ["around", "start"] (defScope s_reached) := ⟨rfl, rfl, rfl, by decide +kernel, rfl, by decide +kernel, by decide +kernel⟩
theorem c_reached (D : Def K mg "reached" s_reached) (B : Bi mg) : Callee P w K mg base CX0 1 "reached" ["around", "start"] spReach := by
  obtain ⟨f, fd, F, g⟩ := D
  refine ⟨f, fd, F.ok sc_reached (fun vs H Q E h => ?_) (fun cdv A outer s H vs Q E hr h => ?_), g, F.kp, F.bindsN (fun _ _ _ _ _ _ us hl => match us, hl with | [_, _], _ => rfl)⟩
  · obtain ⟨a, Vs, ad, nb, wt, s, rfl, _⟩ := h
    rfl
  · have hu := hu_of hr
    have nd := sc_reached.nd
    refine ⟨_, PSs.nox (pss_cons (ps_par (i := 2) (j := 3) (by rfl) nd rfl rfl (by decide) rfl rfl (pa_cons (pe_disp (pps_cons (pv 1) pe_bl pps_nil) (by rfl) (by rfl) (fun z => by cases z) (by decide)) (pa_cons (pe_lst (pa_cons (pv 1) pa_nil)) pa_nil)) (by rfl))
      (pss_cons (ps_while PassesOwn.never (pt_cmpR (WkG.op_neNil hr.units) (pv 3) (pe_lst pa_nil) (nomark _))
      (pss_one (ps_lock (ps_for PassesOwn.never rfl (pi_keys (pe_dget hu (pv 0) (pe_bm0 PySem.F.plainAttrs_list PySem.F.slot_list_pop PySem.F.type_list_pop mt_pop (pv 3)) (fun _ _ => rfl))) (pg_name (i := 4) nd rfl (Or.inl rfl))
      (pss_one (ps_if (pt_cmp (pc_dnotin hu (pv 4) (pv 2)))
      (pss_cons (ps_dput hu (pv 2) (pv 4) pe_bl rfl)
      (pss_one (ps_expr (pe_bm PySem.F.plainAttrs_list PySem.F.slot_list_append PySem.F.type_list_append mt_append (pv 3) (pa_cons (pv 4) pa_nil))))) pss_nil))))))
      (pss_one (ps_ret (pe_callTy call_tuple_of (by rfl) B.n_tuple (by decide +kernel) (pa_cons (pe_callB (call_sortedD rfl) (by rfl) B.n_sorted (by decide +kernel) (pa_cons (pv 2) pa_nil)) pa_nil)))))), ?_⟩
    obtain ⟨a, Vs, ad, nb, wt, st, rfl, R, hs, hnb, hl, k⟩ := h
    intro fo nfo
    refine ⟨_, rfl, upd_same, [(Sum.inr st, .bl true)], rfl, (by show 1 ≤ 15; decide), ?_⟩
    rw [upd_upd]
    have e0 : mergeK [] [((Sum.inr st : Key), V.bl true)] = dct [st] fun _ => .bl true := rfl
    rw [e0]
    have s1 : Same H (upd H fo (.dK (dct [st] fun _ => .bl true))) := same_upd nfo
    have F1 : upd H fo (.dK (dct [st] fun _ => .bl true)) fo = some (.dK (dct [st] fun _ => .bl true)) := upd_same
    generalize upd H fo (.dK (dct [st] fun _ => .bl true)) = H1 at s1 F1
    refine ⟨_, rfl, by show 1 ≤ sizeLine; decide, fun wa nwa => ⟨_, _, rfl, ?_⟩⟩
    have nwf : fo ≠ wa := ne_of_none F1 nwa
    have s2 : Same H (upd H1 wa (.lst [.str st])) := s1.trans (same_upd nwa)
    have F2 := (same_upd (o := .lst [.str st]) nwa) _ _ F1
    have W2 : upd H1 wa (.lst [.str st]) wa = some (.lst [.str st]) := upd_same
    have nwH : H wa = none := by
      cases e : H wa with
      | none => rfl
      | some o =>
        rw [s1 _ _ e] at nwa
        cases nwa
    generalize upd H1 wa (.lst [.str st]) = H2 at s2 F2 W2
    refine ⟨fun m σ Hc => ∃ (fl wl : List Str) (x4 : Option V), σ = [some (.ref a), some (.str st), some (.ref fo), some (.ref wa), x4] ∧ Same H Hc ∧ Hc fo = some (.dK (dct fl fun _ => .bl true)) ∧ Hc wa = some (.lst (wl.map V.str)) ∧ Rst Vs nb st fl wl ∧ wl.length ≤ fl.length ∧ m = 2 * (Vs.length - fl.length) + wl.length,
      ⟨_, [st], [st], none, rfl, s2, F2, W2, ⟨by simp, fun u hu => by rw [List.mem_singleton.mp hu]; exact hs, by simp, fun u hu => hu, fun u hu hn => absurd hu hn, fun u hu => by rw [List.mem_singleton.mp hu]; exact .here⟩, Nat.le_refl _, rfl⟩, ?_⟩
    rintro m σ H3 ⟨fl, wl, x4, rfl, s3, F3, W3, rs, hle, rfl⟩
    have flV : fl.length ≤ Vs.length := rs.nd.length_le_of_subset fun u hu => rs.sub u hu
    refine ⟨_, rfl, by show 0 ≤ sizeLine; decide, fun q nq => ?_⟩
    have s4 := s3.trans (same_upd (o := .lst []) nq)
    have F4 := (same_upd (o := .lst []) nq) _ _ F3
    have W4 := (same_upd (o := .lst []) nq) _ _ W3
    have Q4 : upd H3 q (.lst []) q = some (.lst []) := upd_same
    generalize upd H3 q (.lst []) = H4 at s4 F4 W4 Q4
    refine ⟨wa, q, _, rfl, rfl, SqL.of W4, SqL.of Q4, _, rfl, ?_⟩
    refine ite2 (fun hb => ?_) (fun hb => ?_)
    · have hne : wl ≠ [] := fun z => by
        rw [z] at hb
        cases hb
      refine ⟨fun σ' H' => ∃ (fl' wl' : List Str) (x4 : Option V), σ' = [some (.ref a), some (.str st), some (.ref fo), some (.ref wa), x4] ∧ Same H H' ∧ H' fo = some (.dK (dct fl' fun _ => .bl true)) ∧ H' wa = some (.lst (wl'.map V.str)) ∧ Rst Vs nb st fl' wl' ∧ wl'.length ≤ fl'.length ∧ 2 * (Vs.length - fl'.length) + wl'.length < 2 * (Vs.length - fl.length) + wl.length, ?_, ?_⟩
      · rintro σ' H' ⟨fl', wl', x4, q1, q2, q3, q4, q5, q6, q7⟩
        exact ⟨_, q7, fl', wl', x4, q1, q2, q3, q4, q5, q6, rfl⟩
      obtain ⟨wp, u, rfl⟩ : ∃ wp u, wl = wp ++ [u] := ⟨wl.dropLast, wl.getLast hne, (List.dropLast_concat_getLast hne).symm⟩
      have huf : u ∈ fl := rs.wf u (by simp)
      have huV := rs.sub u huf
      have R4 := R.ext (Ext.of s4)
      refine ⟨ad u, _, R4.row u huV, trivial, fun od => ?_⟩
      have nuf : fo ≠ ad u := Ne.symm (ne_of_none (R.row u huV) nfo)
      have nuw : wa ≠ ad u := Ne.symm (ne_of_none (R.row u huV) nwH)
      have naw : a ≠ wa := ne_of_none R.top nwH
      have nau := R.ne huV
      have Z5 : upd H4 (ad u) (.frz od (.dK (dct (nb u) fun v => .int (wt u v)))) (ad u) = some (.frz od (.dK (dct (nb u) fun v => .int (wt u v)))) := upd_same
      have k5 : ∀ b o, H4 b = some o → b ≠ ad u → upd H4 (ad u) (.frz od (.dK (dct (nb u) fun v => .int (wt u v)))) b = some o := fun b o hb hne => by
        rw [upd_ne hne]
        exact hb
      generalize upd H4 (ad u) (.frz od (.dK (dct (nb u) fun v => .int (wt u v)))) = H5 at Z5 k5
      have W5 := k5 _ _ W4 nuw
      have F5 := k5 _ _ F4 nuf
      have A5 := k5 _ _ R4.top (Ne.symm nau)
      refine ⟨_, rfl, _, rfl, .inl ⟨rfl, _, SqL.of W5⟩, wa, _, .str u, rfl, rfl, W5, by simp, ?_⟩
      have dl : (List.map V.str (wp ++ [u])).dropLast = wp.map V.str := by simp
      rw [dl]
      have k6 : ∀ b o, H5 b = some o → b ≠ wa → upd H5 wa (.lst (wp.map V.str)) b = some o := fun b o hb hne => by
        rw [upd_ne hne]
        exact hb
      have W6 : upd H5 wa (.lst (wp.map V.str)) wa = some (.lst (wp.map V.str)) := upd_same
      show ∃ a_1 v, _ ∧ DGet (upd H5 wa (.lst (wp.map V.str))) a_1 (.str u) (some v) ∧ _
      generalize upd H5 wa (.lst (wp.map V.str)) = H6 at k6 W6
      have Z6 := k6 _ _ Z5 (Ne.symm nuw)
      have F6 := k6 _ _ F5 nwf
      refine ⟨a, _, rfl, get_d (.inl (k6 _ _ A5 naw)) huV, ad u, od, rfl, .inl ⟨_, Z6, ?_⟩⟩
      refine for_it (walk_keys (kvs := dct (nb u) fun v => .int (wt u v))) (fun i σ Hc => ∃ (new : List Str) (x4 : Option V), σ = [some (.ref a), some (.str st), some (.ref fo), some (.ref wa), x4] ∧ (∀ b o, H4 b = some o → b ≠ ad u → b ≠ wa → b ≠ fo → Hc b = some o) ∧ Hc (ad u) = some (.frz od (.dK (dct (nb u) fun v => .int (wt u v)))) ∧
        Hc fo = some (.dK (dct (fl ++ new) fun _ => .bl true)) ∧ Hc wa = some (.lst ((wp ++ new).map V.str)) ∧ (fl ++ new).Nodup ∧ (∀ v ∈ new, v ∈ Vs ∧ Rch nb st v) ∧ ∀ v ∈ (nb u).take i, v ∈ fl ++ new)
        ⟨[], x4, rfl, fun b o h1 h2 h3 _ => k6 _ _ (k5 _ _ h1 h2) h3, Z6, by rw [List.append_nil]; exact F6, by rw [List.append_nil]; exact W6, by rw [List.append_nil]; exact rs.nd, fun v hv => absurd hv (by simp), fun v hv => absurd hv (by simp)⟩ ?_ ?_ ?_
      · rintro i σ Hc hi ⟨new, x4, rfl, q1, q2, q3, q4, q5, q6, q7⟩
        exact q2
      · rintro i x σ Hc Hc' hi ⟨new, x4, rfl, q1, q2, q3, q4, q5, q6, q7⟩ ⟨rfl, k0, v0, hk, rfl⟩
        rw [dct_len] at hi
        rw [dct_at, List.getElem?_eq_getElem hi] at hk
        cases hk
        obtain ⟨v, ev⟩ : ∃ v, v = (nb u)[i] := ⟨_, rfl⟩
        have hvn : v ∈ nb u := ev ▸ List.getElem_mem hi
        have tk : ∀ y, y ∈ (nb u).take (i + 1) → y ∈ (nb u).take i ∨ y = v := fun y hy => by
          rw [takeS (List.getElem?_eq_getElem hi), List.mem_append, List.mem_singleton, ← ev] at hy
          exact hy
        have nl : (fl ++ new).length ≤ Vs.length := q5.length_le_of_subset fun y hy => (List.mem_append.mp hy).elim (fun h => rs.sub y h) (fun h => (q6 y h).1)
        have big : 64 ≤ sizeLine := by decide
        have wpl : wp.length + 1 ≤ fl.length := by simpa using hle
        have nll : fl.length + new.length ≤ Vs.length := by simpa using nl
        show tIfS _ _ _ _ (List.set _ _ (some (.str (nb u)[i]))) _
        rw [← ev]
        refine ⟨_, rfl, _, rfl, fo, _, rfl, get_x (.inl q3), _, rfl, ?_⟩
        have eo : (if v ∈ fl ++ new then some (V.bl true) else none).isSome = decide (v ∈ fl ++ new) := by
          by_cases h : v ∈ fl ++ new
          · rw [if_pos h, decide_eq_true h]
            rfl
          · rw [if_neg h, decide_eq_false h]
            rfl
        rw [eo]
        refine ite2 (fun h1 => ?_) (fun h1 => ?_)
        · have hn : v ∉ fl ++ new := fun z => by
            rw [decide_eq_true z] at h1
            cases h1
          refine ⟨_, rfl, _, rfl, fo, _, rfl, put_n q3 hn (by rw [List.length_append]; omega), ?_⟩
          have q4' : upd Hc' fo (.dK (dct ((fl ++ new) ++ [v]) fun y => if y = v then V.bl true else V.bl true)) wa = some (.lst ((wp ++ new).map V.str)) := by
            rw [upd_ne (Ne.symm nwf)]
            exact q4
          refine ⟨_, rfl, .inl ⟨rfl, _, SqL.of q4'⟩, _, rfl, wa, _, _, rfl, rfl, q4', by simp; omega, new ++ [v], _, rfl, fun b o b1 b2 b3 b4 => ?_, ?_, ?_, ?_, ?_, ?_, ?_⟩
          · rw [upd_ne b3, upd_ne b4]
            exact q1 b o b1 b2 b3 b4
          · rw [upd_ne (Ne.symm nuw), upd_ne (Ne.symm nuf)]
            exact q2
          · rw [upd_ne nwf, upd_same, List.append_assoc]
            congr 2
            exact dct_congr fun y _ => by split <;> rfl
          · rw [upd_same, ← List.append_assoc, List.map_append (l₁ := wp ++ new)]
            rfl
          · rw [← List.append_assoc, List.nodup_append]
            refine ⟨q5, by simp, fun a1 h2 b1 h3 e => ?_⟩
            have h3 : b1 = v := by simpa using h3
            rw [e, h3] at h2
            exact hn h2
          · intro y hy
            rcases List.mem_append.mp hy with h | h
            · exact q6 y h
            · rw [List.mem_singleton.mp h]
              exact ⟨hnb u huV v hvn, .go (rs.rc u huf) hvn⟩
          · intro y hy
            rw [← List.append_assoc, List.mem_append]
            rcases tk y hy with h | h
            · exact .inl (q7 y h)
            · exact .inr (by rw [h]; simp)
        · have hn : v ∈ fl ++ new := by
            by_cases h : v ∈ fl ++ new
            · exact h
            · rw [decide_eq_false h] at h1
              exact absurd rfl h1
          refine ⟨new, _, rfl, q1, q2, q3, q4, q5, q6, fun y hy => ?_⟩
          rcases tk y hy with h | h
          · exact q7 y h
          · rw [h]
            exact hn
      · rintro σ Hc ⟨new, x4, rfl, q1, q2, q3, q4, q5, q6, q7⟩
        rw [dct_len, List.take_length] at q7
        have wpl : wp.length + 1 ≤ fl.length := by simpa using hle
        have nl : (fl ++ new).length ≤ Vs.length := q5.length_le_of_subset fun y hy => (List.mem_append.mp hy).elim (fun h => rs.sub y h) (fun h => (q6 y h).1)
        have nll : fl.length + new.length ≤ Vs.length := by simpa using nl
        refine ⟨q2, fl ++ new, wp ++ new, _, rfl, fun b o hb => ?_, by rw [upd_ne nuf]; exact q3, by rw [upd_ne nuw]; exact q4, ⟨q5, fun y hy => (List.mem_append.mp hy).elim (fun h => rs.sub y h) (fun h => (q6 y h).1), List.mem_append_left _ rs.st, fun y hy => ?_, fun y hy hn v hv => ?_, fun y hy => (List.mem_append.mp hy).elim (fun h => rs.rc y h) (fun h => (q6 y h).2)⟩, by simp; omega, by simp; omega⟩
        · by_cases e : b = ad u
          · subst e
            rw [upd_same, ← hb, R.row u huV]
          · rw [upd_ne e]
            exact q1 b o (s4 _ _ hb) e (ne_of_none hb nwH) (ne_of_none hb nfo)
        · rcases List.mem_append.mp hy with h | h
          · exact List.mem_append_left _ (rs.wf y (by simp [h]))
          · exact List.mem_append_right _ h
        · rcases List.mem_append.mp hy with h | h
          · by_cases e : y = u
            · subst e
              exact q7 v hv
            · exact List.mem_append_left _ (rs.cl y h (by simp [e]; exact fun z => hn (List.mem_append_left _ z)) v hv)
          · exact absurd (List.mem_append_right _ h) hn
    · have we : wl = [] := by
        cases wl with
        | nil => rfl
        | cons y r => exact absurd rfl hb
      subst we
      refine ⟨_, rfl, fo, _, fl, rfl, .inl F4, dct_keys, by omega, fun ys p1 pm so np1 => ?_⟩
      have L1 : upd H4 p1 (.lst (ys.map V.str)) p1 = some (.lst (ys.map V.str)) := upd_same
      have s5 := s4.trans (same_upd (o := .lst (ys.map V.str)) np1)
      generalize upd H4 p1 (.lst (ys.map V.str)) = H5 at L1 s5
      refine ⟨p1, _, rfl, .inl ⟨SqL.of L1, fun p np => ?_⟩⟩
      refine k p ys _ (s5.trans (same_upd np)) upd_same (asc_of so (pm.nodup_iff.mpr rs.nd)) (fun y => ⟨fun hy => rs.rc y (pm.mem_iff.mp hy), fun hy => pm.mem_iff.mpr ?_⟩) fun y hy => rs.sub y (pm.mem_iff.mp hy)
      induction hy with
      | here => exact rs.st
      | go _ hv ih => exact rs.cl _ ih (by simp) _ hv
end
end Wk
namespace Wk
open PySem PySem.Spec PyProof.Rows L2 WkD WkN LamX WkP
section
variable {P : Program} {w : World} {K : PySem.W.Frag} {mg : Str → Option Value} {base : Heap}
/-- rows that are connected -/
def spConn : Sp := fun vs H Q _ => ∃ (a : Addr) (Vs : List Str) (ad : Str → Addr) (nb : Nb) (wt : Wt), vs = [.ref a] ∧ RowsM H a Vs ad nb wt ∧ 2 ≤ Vs.length ∧ (∀ u ∈ Vs, ∀ v ∈ nb u, v ∈ Vs) ∧ Vs.length < 64 ∧ (∀ s ∈ Vs, ∀ u ∈ Vs, Rch nb s u) ∧ ∀ H', Same H H' → Q .non H'
theorem sc_check_connected : FnScope ["around", "side"] ["around"] (defScope s_check_connected) := ⟨rfl, rfl, rfl, by decide +kernel, rfl, by decide +kernel, by decide +kernel⟩
theorem c_check_connected (D : Def K mg "check_connected" s_check_connected) (B : Bi mg) (CR : Callee P w K mg base CX0 1 "reached" ["around", "start"] spReach) : Callee P w K mg base CX0 2 "check_connected" ["around"] spConn := by
  obtain ⟨f, fd, F, g⟩ := D
  refine ⟨f, fd, F.ok sc_check_connected (fun vs H Q E h => ?_) (fun cdv A outer s H vs Q E hr h => ?_), g, F.kp, F.bindsN (fun _ _ _ _ _ _ us hl => match us, hl with | [_], _ => rfl)⟩
  · obtain ⟨a, Vs, ad, nb, wt, rfl, _⟩ := h
    rfl
  · have hu := hu_of hr
    have nd := sc_check_connected.nd
    have hr2 : Room 1 _ := hr
    refine ⟨_, PSs.nox (pss_cons (ps_set (i := 1) nd rfl (Or.inl rfl) (pe_ifExp (pt_cmpR (WkD.op_neE hr.units0) (pv 0) pe_dnewK (nomark _)) (pe_c CR hr2 pass0 (pa_cons (pv 0) (pa_cons (pe_callB (WkD.cr_minSD rfl) (by rfl) B.n_min (by decide +kernel) (pa_cons (pv 0) pa_nil)) pa_nil))) (pe_tup pa_nil)))
      (pss_one (ps_if (pt_cmpR op_lt (pe_callB call_len_seq (by rfl) B.n_len (by decide +kernel) (pa_cons (pv 1) pa_nil)) (pe_callB (call_max2 rfl) (by rfl) B.n_max (by decide +kernel) (pa_cons pe_int (pa_cons (pe_callB call_lenD (by rfl) B.n_len boot_len (pa_cons (pv 0) pa_nil)) pa_nil))) (nomark _))
      (pss_one ps_never) pss_nil))), ?_⟩
    obtain ⟨a, Vs, ad, nb, wt, rfl, R, h2, hnb, hl, hc, k⟩ := h
    refine ⟨_, rfl, fun q nq => ?_⟩
    have s1 : Same H (upd H q (.dK [])) := same_upd nq
    have Q1 : upd H q (.dK []) q = some (.dK []) := upd_same
    generalize upd H q (.dK []) = H1 at s1 Q1
    have R1 := R.ext (Ext.of s1)
    have ne : Vs ≠ [] := fun z => by
      rw [z] at h2
      simp at h2
    refine ⟨a, q, _, rfl, rfl, .inl R1.top, Q1, _, rfl, ?_⟩
    have e1 : (!(dct Vs fun u => V.ref (ad u)).isEmpty) = true := by
      cases Vs with
      | nil => exact absurd rfl ne
      | cons y r => rfl
    rw [e1]
    refine iteT ?_
    refine ⟨_, rfl, _, rfl, a, _, Vs, rfl, .inl R1.top, dct_keys, ne, fun m hm _ => ?_⟩
    refine ⟨a, Vs, ad, nb, wt, m, rfl, R1, hm, hnb, hl, fun p ys H2 s2 hp ha hy hyV => ?_⟩
    have len : ys.length = Vs.length := by
      refine Nat.le_antisymm ((asc_nodup ha).length_le_of_subset fun y h => hyV y h) (R.nd.length_le_of_subset fun u hu => (hy u).mpr (hc m hm u hu))
    have R2 := R1.ext (Ext.of s2)
    refine ⟨_, rfl, p, _, rfl, .inr (.inl (.inl hp)), _, rfl, a, _, rfl, R2.top, _, _, rfl, _, _, rfl, rfl, _, rfl, ?_⟩
    rw [List.length_map, len, dct_len]
    have e2 : decide ((Vs.length : Int) < if (Vs.length : Int) > 2 then (Vs.length : Int) else 2) = false := by
      refine decide_eq_false ?_
      split <;> omega
    refine ite2 (fun h => ?_) (fun _ => k H2 (s1.trans s2))
    rw [e2] at h
    cases h
end
end Wk
namespace Wk
open PySem PySem.Spec PyProof.Rows L2 WkD WkN LamX WkP WkE
/-- what a graph is made of: names, edges that join them, all connected -/
structure Valid (vs0 : List Str) (es : List Ed) : Prop where
  nm : ∀ u ∈ vs0, nameB u = true
  nd : vs0.Nodup
  two : 2 ≤ vs0.length
  few : vs0.length ≤ 40
  ed : ∀ (i : Nat) (a b : Str) (n : Int), es[i]? = some (a, b, n) → a ∈ vs0 ∧ b ∈ vs0 ∧ a ≠ b ∧ 1 ≤ n ∧ n ≤ 1000000000 ∧ ∀ m, ¬ Adj (es.take i) a b m
  con : ∀ nb wt, RowsOf vs0 es nb wt → ∀ s ∈ vs0, ∀ u ∈ vs0, Rch nb s u
section
variable {P : Program} {w : World} {K : PySem.W.Frag} {mg : Str → Option Value} {base : Heap}
structure GCls (K : PySem.W.Frag) (C : Addr) : Prop where
  cls : Cls K C
  na : NoAttr K C "around"
  nt : NoAttr K C "top"
  mv : ∃ u, Con K C "MAX_VERTICES" (.int 40) u
  mw : ∃ u, Con K C "MAX_WEIGHT" (.int 1000000000) u
def spGraph (K : PySem.W.Frag) : Sp := fun vs H Q _ => ∃ (x C dx va ea : Addr) (b1 b2 : Bool) (vs0 : List Str) (es : List Ed) (rs : List Addr), vs = [.ref x, .ref va, .ref ea] ∧ H x = some (.ins C dx []) ∧ GCls K C ∧ SqX b1 K H va (vs0.map V.str) ∧ SqX b2 K H ea (rs.map V.ref) ∧ EdsAt K H rs es ∧ Valid vs0 es ∧
  ∀ p Ws bd nb wt t H', (∀ b o, H b = some o → b ≠ x → H' b = some o) → H p = none → H' x = some (.ins C dx [("around", .ref p), ("top", .str t)]) → RowsZ H' p Ws bd nb wt → Ws.Perm vs0 → Asc Ws → RowsOf vs0 es nb wt → (∀ u ∈ Ws, Asc (nb u)) → t ∈ vs0 → (∀ j ∈ vs0, ¬ ltS j t) → Q .non H'
theorem name_len {z : Str} (h : nameB z = true) : z.length ≤ sizeLine := by
  unfold nameB at h
  rw [Bool.and_eq_true, Bool.and_eq_true] at h
  have h2 := of_decide_eq_true h.2.1
  have big : 9 ≤ sizeLine := by decide
  omega
theorem sc_graph_init : FnScope ["self", "vertices", "edges", "around", "vertex", "edge"] ["self", "vertices", "edges"] (defScope s_Graph_init) := ⟨rfl, rfl, rfl, by decide +kernel, rfl, by decide +kernel, by decide +kernel⟩
theorem ok_graph_init {f : Addr} {fd : FuncData} (F : FnP K "__init__" "Graph.__init__" s_Graph_init f fd) (B : Bi mg) (CN : Callee P w K mg base CX0 1 "is_name" ["value"] (spName K)) (CT : Callee P w K mg base CX0 1 "is_tuple_of" ["value", "size"] (spTupleOf K)) (CJ : Callee P w K mg base CX0 2 "can_join" ["around", "u", "v"] spJoin)
    (CB : Callee P w K mg base CX0 1 "is_between" ["value", "low", "high"] (spBetween K)) (CC : Callee P w K mg base CX0 2 "check_connected" ["around"] spConn) (CS : Callee P w K mg base CX0 1 "sorted_rows" ["around"] spSorted) : FnOk P w K mg base CX0 3 f fd ["self", "vertices", "edges"] (spGraph K) := by
  refine F.ok sc_graph_init (fun vs H Q E h => ?_) (fun cdv A outer s H vs Q E hr h => ?_)
  · obtain ⟨x, C, dx, va, ea, b1, b2, vs0, es, rs, rfl, _⟩ := h
    rfl
  have hu := hu_of hr
  have nd := sc_graph_init.nd
  have hr2 : Room 2 _ := hr
  have hr1 : Room 1 _ := hr.mono (by decide)
  refine ⟨_, PSs.nox (pss_cons (ps_set (i := 3) nd rfl (Or.inl rfl) pe_dnewK)
      (pss_cons (ps_for PassesOwn.never rfl (WkN.piOr (pi_list (pv 1)) (pi_tup (pv 1))) (pg_name (i := 4) nd rfl (Or.inl rfl))
      (pss_cons (ps_if (PW.pt (pw_or (pt_not (pt_val (pe_c CN hr1 pass0 (pa_cons (pv 4) pa_nil)))) (pw_or (pt_cmp (pc_din hu (pv 4) (pv 3))) (pw_or1 (pt_cmpR op_eq (pe_callB call_lenD (by rfl) B.n_len boot_len (pa_cons (pv 3) pa_nil)) (pe_con (pv 0) rfl) (nomark _))))))
      (pss_one ps_never) pss_nil)
      (pss_one (ps_dput hu (pv 3) (pv 4) pe_dnewK rfl))))
      (pss_cons (ps_for PassesOwn.never rfl (WkN.piOr (pi_list (pv 2)) (pi_tup (pv 2))) (pg_name (i := 5) nd rfl (Or.inl rfl))
      (pss_cons (ps_if (PW.pt (pw_or (pt_not (pt_val (pe_c CT hr1 pass0 (pa_cons (pv 5) (pa_cons pe_int pa_nil))))) (pw_or (pt_not (pt_val (pe_c CJ hr2 pass0 (pa_cons (pv 3) (pa_cons (pe_ix ix_tup (pv 5) pe_int (fun _ _ => rfl)) (pa_cons (pe_ix ix_tup (pv 5) pe_int (fun _ _ => rfl)) pa_nil)))))) (pw_or1 (pt_cmp (pc_din hu (pe_ix ix_tup (pv 5) pe_int (fun _ _ => rfl)) (pe_dget hu (pv 3) (pe_ix ix_tup (pv 5) pe_int (fun _ _ => rfl)) (fun _ _ => rfl))))))))
      (pss_one ps_never) pss_nil)
      (pss_cons (ps_if (pt_not (pt_val (pe_c CB hr1 pass0 (pa_cons (pe_ix ix_tup (pv 5) pe_int (fun _ _ => rfl)) (pa_cons pe_int (pa_cons (pe_con (pv 0) rfl) pa_nil))))))
      (pss_one ps_never) pss_nil)
      (pss_one (ps_asg2 (pe_ix ix_tup (pv 5) pe_int (fun _ _ => rfl)) (pg_sub (pe_dget hu (pv 3) (pe_ix ix_tup (pv 5) pe_int (fun _ _ => rfl)) (fun _ _ => rfl)) (pe_ix ix_tup (pv 5) pe_int (fun _ _ => rfl)) (set_dict hu) (fun _ => rfl)) (pg_sub (pe_dget hu (pv 3) (pe_ix ix_tup (pv 5) pe_int (fun _ _ => rfl)) (fun _ _ => rfl)) (pe_ix ix_tup (pv 5) pe_int (fun _ _ => rfl)) (set_dict hu) (fun _ => rfl)))))))
      (pss_cons (ps_expr (pe_c CC hr2 pass0 (pa_cons (pv 3) pa_nil)))
      (pss_cons (ps_fld (pv 0) (pe_c CS hr1 pass0 (pa_cons (pv 3) pa_nil)) rfl)
      (pss_one (ps_fld (pv 0) (pe_callB (WkD.cr_minSD rfl) (by rfl) B.n_min (by decide +kernel) (pa_cons (pv 3) pa_nil)) rfl))))))), ?_⟩
  obtain ⟨x, C, dx, va, ea, b1, b2, vs0, es, rs, rfl, hx, gc, hva, hea, hes, ok, k⟩ := h
  obtain ⟨mvu, mv⟩ := gc.mv
  obtain ⟨mwu, mw⟩ := gc.mw
  intro ra nra
  have sN := ok.nd
  have big : 1000 < sizeLine := by decide
  have few := ok.few
  refine orSeq (b := b1) (xs := vs0.map V.str) (hva.same (same_upd nra)) rfl fun J wJ => ?_
  refine for_it wJ (fun i σ Hc => ∃ (ad : Str → Addr) (x4 : Option V), σ = [some (.ref x), some (.ref va), some (.ref ea), some (.ref ra), x4, none] ∧ Cop H ra (fun _ => []) (fun _ _ => 0) (vs0.take i) ad Hc)
    ⟨fun _ => 0, none, rfl, ⟨⟨upd_same, fun u hu => absurd hu (by simp), fun u hu => absurd hu (by simp), by simp⟩, fun b o hb hne => by rw [upd_ne hne]; exact hb, fun u hu => absurd hu (by simp)⟩⟩ ?_ ?_ ?_
  · rintro i σ Hc hi ⟨ad, x4, rfl, cp⟩
    exact hva.same fun b o hb => cp.keep b o hb (ne_of_none hb nra)
  · rintro i y σ Hc Hc' hi ⟨ad, x4, rfl, cp⟩ ⟨rfl, hy⟩
    rw [List.length_map] at hi
    rw [List.getElem?_map, List.getElem?_eq_getElem hi] at hy
    cases hy
    have sH : Same H Hc' := fun b o hb => cp.keep b o hb (ne_of_none hb nra)
    have hm : vs0[i] ∈ vs0 := List.getElem_mem hi
    have hnin := take_nin sN hi
    have tk := takeS (List.getElem?_eq_getElem hi)
    obtain ⟨v, ev⟩ : ∃ v, v = vs0[i] := ⟨_, rfl⟩
    rw [← ev] at hm hnin tk ⊢
    have nm := ok.nm v hm
    refine ⟨_, rfl, .inl ⟨v, rfl, name_len nm, fun H1 s1 => ⟨_, rfl, ite2 (fun h => ?_) (fun _ => ?_)⟩⟩⟩
    · rw [nm] at h
      cases h
    have c1 := cp.rows.ext (Ext.of s1)
    refine ⟨_, rfl, _, rfl, ra, _, rfl, get_n (.inl c1.top) hnin, _, rfl, ite2 (fun h => ?_) (fun _ => ?_)⟩
    · cases h
    have lt : (vs0.take i).length = i := by
      rw [List.length_take]
      omega
    refine ⟨_, rfl, ra, _, rfl, c1.top, ?_⟩
    refine ⟨_, rfl, x, C, dx, _, _, _, rfl, s1 _ _ (sH _ _ hx), gc.cls, mv, rfl, rfl, _, rfl, ite2 (fun h => ?_) (fun _ => ?_)⟩
    · rw [decI] at h
      have h := of_decide_eq_true h
      rw [dct_len, lt] at h
      omega
    intro p np
    have s2 : Same Hc' (upd H1 p (.dK [])) := s1.trans (same_upd np)
    refine ⟨_, rfl, _, rfl, ra, _, rfl, put_n (s2 _ _ cp.rows.top) hnin (by rw [lt]; omega), ?_⟩
    have z := cp.snoc hnin s1 np []
    refine ⟨fun y => if y = v then p else ad y, _, rfl, ?_⟩
    rw [tk]
    have e : (fun y : Str => if y = v then ([] : List Str) else []) = fun _ => [] := funext fun y => by split <;> rfl
    rw [e] at z
    exact z
  · rintro σ H1 ⟨ad, x4, rfl, cp⟩
    rw [List.length_map, List.take_length] at cp
    have s1 : Same H H1 := fun b o hb => cp.keep b o hb (ne_of_none hb nra)
    refine orSeq (b := b2) (xs := rs.map V.ref) (hea.same s1) rfl fun J wJ => ?_
    refine for_it wJ (fun i σ Hc => ∃ (nb : Nb) (wt : Wt) (x4 x5 : Option V), σ = [some (.ref x), some (.ref va), some (.ref ea), some (.ref ra), x4, x5] ∧ Cop H ra nb wt vs0 ad Hc ∧ RowsOf vs0 (es.take i) nb wt)
      ⟨_, _, x4, none, rfl, cp, RowsOf.nil _ _⟩ ?_ ?_ ?_
    · rintro i σ Hc hi ⟨nb, wt, x4, x5, rfl, cp, ro⟩
      exact hea.same fun b o hb => cp.keep b o hb (ne_of_none hb nra)
    · rintro i y σ Hc Hc' hi ⟨nb, wt, x4, x5, rfl, cp, ro⟩ ⟨rfl, hy⟩
      rw [List.length_map] at hi
      rw [List.getElem?_map, List.getElem?_eq_getElem hi] at hy
      cases hy
      have hi2 : i < es.length := by
        rw [← hes.1]
        exact hi
      obtain ⟨⟨a, b, n⟩, ee⟩ : ∃ e, e = es[i] := ⟨_, rfl⟩
      have he : es[i]? = some (a, b, n) := by
        rw [List.getElem?_eq_getElem hi2, ee]
      have tk := takeS he
      obtain ⟨ha, hb, hab, n1, n2, hno⟩ := ok.ed i a b n he
      have sH : Same H Hc' := fun b o hb => cp.keep b o hb (ne_of_none hb nra)
      have hT : SqT K H rs[i] [.str a, .str b, .int n] := hes.2 i _ _ (List.getElem?_eq_getElem hi) he
      generalize rs[i] = r at hT ⊢
      have hT0 := WkG.seqT_same sH hT
      refine ⟨_, rfl, _, _, rfl, .inl ⟨r, _, rfl, hT0, by show 3 ≤ sizeLine; decide, tyT hT0, _, rfl, ite2 (fun h => ?_) (fun _ => ?_)⟩⟩
      · cases h
      refine ⟨_, rfl, _, rfl, r, _, _, _, rfl, rfl, hT0, rfl, _, rfl, r, _, _, _, rfl, rfl, hT0, rfl, ra, _, _, a, b, rfl, .inl cp.rows.top, name_len (ok.nm a ha), name_len (ok.nm b hb), fun H1 s1 => ⟨_, rfl, ite2 (fun h => ?_) (fun _ => ?_)⟩⟩
      · unfold joinB at h
        rw [ok.nm a ha, ok.nm b hb, decide_eq_true ha, decide_eq_true hb, decide_eq_false hab] at h
        cases h
      have c1 := cp.rows.ext (Ext.of s1)
      have hT1 := WkG.seqT_same s1 hT0
      have hnb : b ∉ nb a := fun z => by
        obtain ⟨m, hm⟩ := (ro.mem a ha b).mp z
        exact hno m hm
      refine ⟨_, rfl, r, _, _, _, rfl, rfl, hT1, rfl, _, rfl, _, rfl, r, _, _, _, rfl, rfl, hT1, rfl, ra, _, rfl, get_d (.inl c1.top) ha, ad a, _, rfl, get_n (.inl (c1.row a ha)) hnb, _, rfl, ite2 (fun h => ?_) (fun _ => ?_)⟩
      · cases h
      refine ⟨_, rfl, r, _, _, _, rfl, rfl, hT1, rfl, _, rfl, x, C, dx, _, _, _, rfl, s1 _ _ (sH _ _ hx), gc.cls, mw, rfl, _, _, _, rfl, .inl ⟨n, rfl, _, rfl, ite2 (fun h => ?_) (fun _ => ?_)⟩⟩
      · rw [decide_eq_true n1, decide_eq_true n2] at h
        cases h
      have ne_ab : ad b ≠ ad a := fun z => hab (c1.inj b hb a ha z).symm
      have nl : ∀ u ∈ vs0, (nb u).length < sizeLine := fun u hu => by
        have : (nb u).length ≤ vs0.length := (ro.nd u hu).length_le_of_subset fun y hy => by
          obtain ⟨m, hm⟩ := (ro.mem u hu y).mp hy
          have key : ∀ c d, (c, d, m) ∈ es.take i → c ∈ vs0 ∧ d ∈ vs0 := fun c d h => by
            obtain ⟨j, hj, e⟩ := List.mem_iff_getElem.mp h
            rw [List.length_take] at hj
            rw [List.getElem_take] at e
            have q := ok.ed j c d m (by rw [List.getElem?_eq_getElem (by omega), e])
            exact ⟨q.1, q.2.1⟩
          rcases hm with h | h
          · exact (key _ _ h).2
          · exact (key _ _ h).1
        omega
      refine ⟨_, rfl, r, _, _, _, rfl, rfl, hT1, rfl, _, rfl, _, rfl, r, _, _, _, rfl, rfl, hT1, rfl, ra, _, rfl, get_d (.inl c1.top) ha, _, rfl, r, _, _, _, rfl, rfl, hT1, rfl, ad a, _, rfl, putI (c1.row a ha) (nl a ha), ?_⟩
      have R2 := c1.put ha (add (nb a) b) (fun y => if y = b then n else wt a y)
      have hT2 : SqT K (upd H1 (ad a) (.dK (dct (add (nb a) b) fun y => .int (if y = b then n else wt a y)))) r [.str a, .str b, .int n] := by
        refine tup_upd hT1 (c1.row a ha) trivial
      have rb : upd H1 (ad a) (.dK (dct (add (nb a) b) fun y => .int (if y = b then n else wt a y))) (ad b) = some (.dK (dct (nb b) fun y => .int (wt b y))) := by
        rw [upd_ne ne_ab]
        exact c1.row b hb
      have k2 : ∀ c o, H c = some o → upd H1 (ad a) (.dK (dct (add (nb a) b) fun y => .int (if y = b then n else wt a y))) c = some o := fun c o hc => by
        rw [upd_ne (ne_of_none hc (cp.new a ha))]
        exact s1 _ _ (sH _ _ hc)
      generalize upd H1 (ad a) (.dK (dct (add (nb a) b) fun y => .int (if y = b then n else wt a y))) = H2 at R2 hT2 rb k2
      refine ⟨_, rfl, _, rfl, r, _, _, _, rfl, rfl, hT2, rfl, ra, _, rfl, get_d (.inl R2.top) hb, _, rfl, r, _, _, _, rfl, rfl, hT2, rfl, ad b, _, rfl, putI rb (nl b hb), ?_⟩
      have R3 := R2.put hb (add (nb b) a) (fun y => if y = a then n else wt b y)
      refine ⟨_, _, _, _, rfl, ⟨R3.as (nb' := up (up nb a (add (nb a) b)) b (add (nb b) a)) (wt' := upw (upw wt a fun y => if y = b then n else wt a y) b fun y => if y = a then n else wt b y) (fun u _ => rfl) (fun u _ y _ => rfl), fun c o hc hne => ?_, cp.new⟩, ?_⟩
      · rw [upd_ne (ne_of_none hc (cp.new b hb))]
        exact k2 c o hc
      · rw [tk]
        exact ro.snoc ha hb hab hnb
    · rintro σ H2 ⟨nb, wt, x4, x5, rfl, cp, ro⟩
      rw [List.length_map, hes.1, List.take_length] at ro
      have sH : Same H H2 := fun b o hb => cp.keep b o hb (ne_of_none hb nra)
      have mV : ∀ u ∈ vs0, ∀ v ∈ nb u, v ∈ vs0 := fun u hu v hv => by
        obtain ⟨m, hm⟩ := (ro.mem u hu v).mp hv
        have key : ∀ c d, (c, d, m) ∈ es → c ∈ vs0 ∧ d ∈ vs0 := fun c d h => by
          obtain ⟨j, hj, e⟩ := List.mem_iff_getElem.mp h
          have q := ok.ed j c d m (by rw [List.getElem?_eq_getElem hj, e])
          exact ⟨q.1, q.2.1⟩
        rcases hm with h | h
        · exact (key _ _ h).2
        · exact (key _ _ h).1
      refine ⟨_, rfl, ra, vs0, ad, nb, wt, rfl, cp.rows, ok.two, mV, by omega, ok.con nb wt ro, fun H3 s3 => ?_⟩
      have c3 := cp.rows.ext (Ext.of s3)
      refine ⟨_, rfl, ra, vs0, ad, nb, wt, rfl, c3.r, sN, ro.nd, by omega, fun u hu => ?_, fun p Ws bd nb' H4 s4 np4 rz pm as rp => ?_⟩
      · have : (nb u).length ≤ vs0.length := (ro.nd u hu).length_le_of_subset fun y hy => mV u hu y hy
        omega
      have h4 : Same H H4 := (sH.trans s3).trans s4
      refine ⟨_, rfl, x, C, dx, _, rfl, h4 _ _ hx, gc.cls, gc.na, by decide, ?_⟩
      have xr : ra ≠ x := Ne.symm (ne_of_none hx nra)
      have c4 : upd H4 x (.ins C dx (putF "around" (.ref p) [])) ra = some (.dK (dct vs0 fun u => .ref (ad u))) := by
        rw [upd_ne xr]
        exact s4 _ _ c3.top
      refine ⟨_, rfl, ra, _, vs0, rfl, .inl c4, dct_keys, fun z => by rw [z] at few; have := ok.two; rw [z] at this; simp at this, fun t ht hmin => ?_⟩
      refine ⟨_, rfl, x, C, dx, _, rfl, upd_same, gc.cls, gc.nt, by show 1 < 1000; decide, ?_⟩
      refine k p Ws bd nb' wt t _ (fun b o hb hne => ?_) (np_of (sH.trans s3) np4) upd_same ?_ pm as ?_ (fun u hu => (rp u hu).2) ht hmin
      · rw [upd_upd, upd_ne hne]
        exact h4 _ _ hb
      · have ne_x : ∀ c o u, H4 c = some (.frz o u) → c ≠ x := fun c o u hc z => by
          rw [z, h4 _ _ hx] at hc
          cases hc
        obtain ⟨o1, t1⟩ := rz.top
        refine ⟨⟨o1, ?_⟩, fun u hu => ?_⟩
        · rw [upd_upd, upd_ne (ne_x _ _ _ t1)]
          exact t1
        · obtain ⟨o2, t2⟩ := rz.row u hu
          exact ⟨o2, by rw [upd_upd, upd_ne (ne_x _ _ _ t2)]; exact t2⟩
      · have mw : ∀ u ∈ vs0, u ∈ Ws := fun u hu => pm.mem_iff.mpr hu
        exact ⟨fun u hu => (rp u (mw u hu)).1.nodup_iff.mpr (ro.nd u hu), fun u hu v => (rp u (mw u hu)).1.mem_iff.trans (ro.mem u hu v), ro.val⟩
end
end Wk
namespace Wk
open PySem PySem.Spec PyProof.Rows L2 WkD WkN LamX WkP WkE
/-- all but x and the tables stay -/
abbrev ExtB (x : Addr) (H H' : Hp) : Prop := ∀ b o, H b = some o → b ≠ x → (∀ ps, o ≠ .tbl ps) → H' b = some o
theorem ExtB.rz {x : Addr} {H H' : Hp} {a : Addr} {Vs : List Str} {ad : Str → Addr} {nb : Nb} {wt : Wt} {C dx : Addr} {fs : List (Str × V)} (e : ExtB x H H') (R : RowsZ H a Vs ad nb wt) (hx : H x = some (.ins C dx fs)) : RowsZ H' a Vs ad nb wt := by
  have ne_x : ∀ c o u, H c = some (.frz o u) → c ≠ x := fun c o u hc z => by
    rw [z, hx] at hc
    cases hc
  obtain ⟨o1, t1⟩ := R.top
  refine ⟨⟨o1, e _ _ t1 (ne_x _ _ _ t1) fun ps z => by cases z⟩, fun u hu => ?_⟩
  obtain ⟨o2, t2⟩ := R.row u hu
  exact ⟨o2, e _ _ t2 (ne_x _ _ _ t2) fun ps z => by cases z⟩
theorem Valid.sym {vs0 Ws : List Str} {es : List Ed} {nb : Nb} {wt : Wt} (ok : Valid vs0 es) (ro : RowsOf vs0 es nb wt) (pm : Ws.Perm vs0) : Sym Ws nb wt := by
  refine ⟨fun u hu => ro.nd u (pm.mem_iff.mp hu), fun u hu v hv => ?_⟩
  have hu0 := pm.mem_iff.mp hu
  obtain ⟨m, hm⟩ := (ro.mem u hu0 v).mp hv
  have key : ∀ c d, (c, d, m) ∈ es → c ∈ vs0 ∧ d ∈ vs0 ∧ c ≠ d := fun c d h => by
    obtain ⟨j, hj, e⟩ := List.mem_iff_getElem.mp h
    have q := ok.ed j c d m (by rw [List.getElem?_eq_getElem hj, e])
    exact ⟨q.1, q.2.1, q.2.2.1⟩
  have hv0 : v ∈ vs0 ∧ v ≠ u := by
    rcases hm with h | h
    · exact ⟨(key _ _ h).2.1, Ne.symm (key _ _ h).2.2⟩
    · exact ⟨(key _ _ h).1, (key _ _ h).2.2⟩
  refine ⟨pm.mem_iff.mpr hv0.1, hv0.2, (ro.mem v hv0.1 u).mpr ⟨m, hm.symm⟩, ?_⟩
  rw [ro.val u hu0 v m hm, ro.val v hv0.1 u m hm.symm]
section
variable {P : Program} {w : World} {K : PySem.W.Frag} {mg : Str → Option Value} {base : Heap}
structure NCls (K : PySem.W.Frag) (C D fG : Addr) : Prop where
  g : GCls K C
  nf : NoAttr K C "found"
  nm : NoAttr K C "made"
  ne : NoAttr K C "entries"
  nr : NoAttr K C "running"
  ns : NoAttr K C "since"
  mro : PySem.W.mroIn K C (.ref D) = some true
  sup : PySem.W.ks_superIn K C D "__init__" = some (some (.ref fG))
/-- the fields of a network -/
def netF (p : Addr) (t : Str) (n : Int) (m e : Addr) (r s : Int) : List (Str × V) := [("around", .ref p), ("top", .str t), ("found", .int n), ("made", .ref m), ("entries", .ref e), ("running", .int r), ("since", .int s)]
def spNet (K : PySem.W.Frag) (T : List (Addr × Str)) (D fG : Addr) : Sp := fun vs H Q _ => ∃ (x C dx va ea : Addr) (b1 b2 : Bool) (vs0 : List Str) (es : List Ed) (rs : List Addr), vs = [.ref x, .ref va, .ref ea] ∧ H x = some (.ins C dx []) ∧ NCls K C D fG ∧ SqX b1 K H va (vs0.map V.str) ∧ SqX b2 K H ea (rs.map V.ref) ∧ EdsAt K H rs es ∧ Valid vs0 es ∧ Tabs T H ∧
  ∀ p Ws bd nb wt t n ms me en H', ExtB x H H' → Tabs T H' → H' x = some (.ins C dx (netF p t n me en 0 0)) → H' me = some (.tup []) → H' en = some (.lst []) → RowsZ H' p Ws bd nb wt → Ws.Perm vs0 → Asc Ws → RowsOf vs0 es nb wt → (∀ u ∈ Ws, Asc (nb u)) → t ∈ vs0 → (∀ j ∈ vs0, ¬ ltS j t) → LeastCut Ws nb wt n ms → Q .non H'
theorem ss_net_init : WkS.SupScope ["self", "vertices", "edges"] ["self", "vertices", "edges"] (defScope s_Network_init) := ⟨rfl, rfl, rfl, by decide +kernel, rfl, by decide +kernel, by decide +kernel, by decide +kernel, by decide +kernel, by decide +kernel⟩
theorem ok_net_init {f fG cc cda D : Addr} {fd fdG : FuncData} {tbT : List (Addr × Str)} (ST : WkS.SupT P K mg ["self", "vertices", "edges"] D f cc cda "Network.__init__" (defArgs s_Network_init) (defScope s_Network_init) fd) (hbd : fd.body = .stmts (defBody s_Network_init)) (FG : FnOk P w K mg base CX0 3 fG fdG ["self", "vertices", "edges"] (spGraph K)) (hb2 : Binds K fdG ["self", "vertices", "edges"] []) (hf2 : PySem.W.fnIn K fG = true)
    (hf2' : PySem.W.isFn K (.ref fG) = true) (CS : Callee P w K mg base CX0 5 "strength_of" ["graph"] (spStrength K tbT)) : FnOk P w K mg base CX0 6 f fd ["self", "vertices", "edges"] (spNet K tbT D fG) := by
  refine WkS.sup_ok (k := 5) (N := ["self", "vertices", "edges"]) (m := "__init__") (rest := (defBody s_Network_init).drop 1) ST (hbd.trans (by rfl)) ss_net_init (FG.mono (by decide)) hb2 hf2 hf2' (by decide) (fun vs H Q E h => ?_) (fun A outer s H E => pass0) (fun env => rfl) (fun env => rfl) (fun env he => ⟨_, rfl⟩) (fun env he => ?_) (fun A outer s H vs Q E hr h => ?_)
  · obtain ⟨x, C, dx, va, ea, b1, b2, vs0, es, rs, rfl, _⟩ := h
    rfl
  · exact ⟨by unfold interactive; rw [he]; rfl, rfl⟩
  · obtain ⟨x, C, dx, va, ea, b1, b2, vs0, es, rs, rfl, hx, nc, hva, hea, hes, ok, hT, k⟩ := h
    have hu := hu_of hr
    have nd := ss_net_init.nd
    have hr5 : Room 5 _ := hr
    refine ⟨_, _, x, C, dx, _, rfl, hx, nc.mro, nc.sup, pa_cons (pv 1) (pa_cons (pv 2) pa_nil), (pss_cons (ps_fld (pv 0) (pe_c CS hr5 pass0 (pa_cons (pv 0) pa_nil)) rfl)
      (pss_cons (ps_fld (pv 0) (pe_tup pa_nil) rfl)
      (pss_cons (ps_fld (pv 0) (pe_lst pa_nil) rfl)
      (pss_cons (ps_fld (pv 0) pe_int rfl)
      (pss_one (ps_fld (pv 0) pe_int rfl)))))), ?_⟩
    refine ⟨_, rfl, _, rfl, x, C, dx, va, ea, b1, b2, vs0, es, rs, rfl, hx, nc.g, hva, hea, hes, ok, fun p Ws bd nb wt t H2 k2 np hx2 rz pm as ro an ht hmin => ?_⟩
    have T2 : Tabs tbT H2 := tabs_but hT hx trivial k2
    have len : Ws.length = vs0.length := pm.length_eq
    have few := ok.few
    have two := ok.two
    refine ⟨_, rfl, x, C, dx, _, p, t, Ws, bd, nb, wt, rfl, ⟨hx2, nc.g.cls, nc.g.na, nc.g.nt, rfl, rfl⟩, rz, pm.nodup_iff.mpr ok.nd, ok.sym ro pm, by omega, by omega, T2, fun n ms H3 e3 T3 lc => ?_⟩
    have e03 : ExtB x H H3 := fun b o hb hne no => e3 _ _ (k2 b o hb hne) no
    have hx3 := e3 _ _ hx2 (fun ps z => by cases z)
    have rz3 := rz.ext e3
    refine ⟨_, rfl, x, C, dx, _, rfl, hx3, nc.g.cls, nc.nf, by show 2 < 1000; decide, ?_⟩
    have B4 : ExtB x H (upd H3 x (.ins C dx (putF "found" (.int n) [("around", .ref p), ("top", .str t)]))) := fun b o hb hne no => by
      rw [upd_ne hne]
      exact e03 b o hb hne no
    have T4 : Tabs tbT (upd H3 x (.ins C dx (putF "found" (.int n) [("around", .ref p), ("top", .str t)]))) := tabs_upd T3 hx3 trivial
    have rz4 : RowsZ (upd H3 x (.ins C dx (putF "found" (.int n) [("around", .ref p), ("top", .str t)]))) p Ws bd nb wt := ExtB.rz (fun b o hb hne _ => by rw [upd_ne hne]; exact hb) rz3 hx3
    have hx4 : upd H3 x (.ins C dx (putF "found" (.int n) [("around", .ref p), ("top", .str t)])) x = some (.ins C dx [("around", .ref p), ("top", .str t), ("found", .int n)]) := upd_same
    generalize upd H3 x (.ins C dx (putF "found" (.int n) [("around", .ref p), ("top", .str t)])) = H4 at B4 T4 rz4 hx4
    refine ⟨by show 0 ≤ sizeLine; decide, fun me nme => ⟨_, rfl, x, C, dx, _, rfl, (same_upd nme) _ _ hx4, nc.g.cls, nc.nm, by show 3 < 1000; decide, ?_⟩⟩
    have nmx : me ≠ x := Ne.symm (ne_of_none hx4 nme)
    have B5 : ExtB x H (upd (upd H4 me (.tup [])) x (.ins C dx (putF "made" (.ref me) [("around", .ref p), ("top", .str t), ("found", .int n)]))) := fun b o hb hne no => by
      rw [upd_ne hne]
      exact (same_upd nme) _ _ (B4 b o hb hne no)
    have T5 : Tabs tbT (upd (upd H4 me (.tup [])) x (.ins C dx (putF "made" (.ref me) [("around", .ref p), ("top", .str t), ("found", .int n)]))) := tabs_upd (T4.ext (same_upd nme)) ((same_upd nme) _ _ hx4) trivial
    have rz5 : RowsZ (upd (upd H4 me (.tup [])) x (.ins C dx (putF "made" (.ref me) [("around", .ref p), ("top", .str t), ("found", .int n)]))) p Ws bd nb wt := ExtB.rz (fun b o hb hne _ => by rw [upd_ne hne]; exact hb) (rz4.ext (Ext.of (same_upd nme))) ((same_upd nme) _ _ hx4)
    have hx5 : upd (upd H4 me (.tup [])) x (.ins C dx (putF "made" (.ref me) [("around", .ref p), ("top", .str t), ("found", .int n)])) x = some (.ins C dx [("around", .ref p), ("top", .str t), ("found", .int n), ("made", .ref me)]) := upd_same
    have me5 : upd (upd H4 me (.tup [])) x (.ins C dx (putF "made" (.ref me) [("around", .ref p), ("top", .str t), ("found", .int n)])) me = some (.tup []) := by
      rw [upd_ne nmx, upd_same]
    generalize upd (upd H4 me (.tup [])) x (.ins C dx (putF "made" (.ref me) [("around", .ref p), ("top", .str t), ("found", .int n)])) = H5 at B5 T5 rz5 hx5 me5
    refine ⟨by show 0 ≤ sizeLine; decide, fun en nen => ⟨_, rfl, x, C, dx, _, rfl, (same_upd nen) _ _ hx5, nc.g.cls, nc.ne, by show 4 < 1000; decide, ?_⟩⟩
    have nex : en ≠ x := Ne.symm (ne_of_none hx5 nen)
    refine ⟨_, rfl, x, C, dx, _, rfl, upd_same, nc.g.cls, nc.nr, by show 5 < 1000; decide, ?_⟩
    refine ⟨_, rfl, x, C, dx, _, rfl, upd_same, nc.g.cls, nc.ns, by show 6 < 1000; decide, ?_⟩
    rw [upd_upd, upd_upd]
    refine k p Ws bd nb wt t n ms me en _ (fun b o hb hne no => ?_) ?_ upd_same ?_ ?_ (ExtB.rz (fun b o hb hne _ => by rw [upd_ne hne]; exact hb) (rz5.ext (Ext.of (same_upd nen))) ((same_upd nen) _ _ hx5)) pm as ro an ht hmin lc
    · rw [upd_ne hne]
      exact (same_upd nen) _ _ (B5 b o hb hne no)
    · exact tabs_upd (T5.ext (same_upd nen)) ((same_upd nen) _ _ hx5) trivial
    · rw [upd_ne nmx]
      exact (same_upd nen) _ _ me5
    · rw [upd_ne nex, upd_same]
end
end Wk
namespace Wk
open PySem PySem.Spec PyProof.Rows L2 WkD WkN LamX WkP WkE
section
variable {P : Program} {w : World} {K : PySem.W.Frag} {mg : Str → Option Value} {base : Heap}
def spVertices (K : PySem.W.Frag) : Sp := fun vs H Q _ => ∃ (g C dx : Addr) (fs : List (Str × V)) (a : Addr) (top : Str) (Vs : List Str) (ad : Str → Addr) (nb : Nb) (wt : Wt), vs = [.ref g] ∧ GAt K H g C dx fs a top ∧ RowsR H a Vs ad nb wt ∧ ∀ p, H p = none → Q (.ref p) (upd H p (.tup (Vs.map V.str)))
theorem dct_kV {ks : List Str} {g : Str → V} : (dct ks g).map (fun kv => kV kv.1) = ks.map V.str := by
  unfold dct
  rw [List.map_map]
  rfl
def spLen (K : PySem.W.Frag) : Sp := fun vs H Q _ => ∃ (g C dx : Addr) (fs : List (Str × V)) (a : Addr) (top : Str) (Vs : List Str) (ad : Str → Addr) (nb : Nb) (wt : Wt), vs = [.ref g] ∧ GAt K H g C dx fs a top ∧ RowsZ H a Vs ad nb wt ∧ Q (.int Vs.length) H
def spRoot (K : PySem.W.Frag) : Sp := fun vs H Q _ => ∃ (g C dx : Addr) (fs : List (Str × V)) (a : Addr) (top : Str), vs = [.ref g] ∧ GAt K H g C dx fs a top ∧ Q (.str top) H
/-! ### the edges -/
def edR (nb : Nb) (wt : Wt) (u : Str) (l : List Str) : List Ed := (l.filter fun v => decide (ltS u v)).map fun v => (u, v, wt u v)
def edL (Vs : List Str) (nb : Nb) (wt : Wt) : List Ed := Vs.flatMap fun u => edR nb wt u (nb u)
def spEdges (K : PySem.W.Frag) : Sp := fun vs H Q _ => ∃ (g C dx : Addr) (fs : List (Str × V)) (a : Addr) (top : Str) (Vs : List Str) (ad : Str → Addr) (nb : Nb) (wt : Wt), vs = [.ref g] ∧ GAt K H g C dx fs a top ∧ RowsZ H a Vs ad nb wt ∧ Vs.length ≤ 1000 ∧ (∀ u ∈ Vs, (nb u).length ≤ 1000) ∧ ∀ p rs H', Same H H' → H' p = some (.tup (rs.map V.ref)) → EdsAt K H' rs (edL Vs nb wt) → Q (.ref p) H'
end
end Wk
namespace Wk
open PySem PySem.Spec PyProof.Rows L2 WkD WkN
section
variable {P : Program} {w : World} {K : PySem.W.Frag} {mg : Str → Option Value} {base : Heap}
/-! ### names, in plain words -/
theorem name_of {z : Str} (h0 : 0 < z.length) (h9 : z.length < 9) (h : ∀ c ∈ z.cps.toList, c ∈ letS.cps.toList) : nameB z = true := by
  unfold nameB
  rw [decide_eq_true (by omega), decide_eq_true (by omega), Bool.true_and, Bool.true_and, List.all_eq_true]
  intro b hb
  obtain ⟨c, hc, rfl⟩ := List.mem_map.mp hb
  exact decide_eq_true (h c hc)
def letC (n : Int) : Nat := letS.cps.toList.getD (n.fmod 26).toNat 0
theorem let_inj : ∀ i j : Fin 26, letS.cps.toList.getD i.val 0 = letS.cps.toList.getD j.val 0 → i = j := by decide +kernel
theorem letC_mem (n : Int) : letC n ∈ letS.cps.toList := by
  have h := fm (x := n) (m := 26) (by decide)
  have l : letS.cps.toList.length = 26 := by decide +kernel
  unfold letC
  rw [List.getD_eq_getElem?_getD, List.getElem?_eq_getElem (by omega)]
  exact List.getElem_mem _
def strides : List Int := [1, 3, 5, 7, 9, 11, 15, 17, 19, 21, 23, 25]
theorem letC_inj {f s : Int} {i j : Nat} (hs : s ∈ strides) (hi : i < 18) (hj : j < 18) (h : letC (f + s * i) = letC (f + s * j)) : i = j := by
  have h1 := fm (x := f + s * i) (m := 26) (by decide)
  have h2 := fm (x := f + s * j) (m := 26) (by decide)
  have e := let_inj ⟨((f + s * i).fmod 26).toNat, by omega⟩ ⟨((f + s * j).fmod 26).toNat, by omega⟩ h
  have e : ((f + s * i).fmod 26).toNat = ((f + s * j).fmod 26).toNat := congrArg Fin.val e
  have e : (f + s * i).fmod 26 = (f + s * j).fmod 26 := by omega
  rw [Int.fmod_eq_emod_of_nonneg _ (by decide), Int.fmod_eq_emod_of_nonneg _ (by decide)] at e
  unfold strides at hs
  simp only [List.mem_cons, List.not_mem_nil, or_false] at hs
  rcases hs with rfl | rfl | rfl | rfl | rfl | rfl | rfl | rfl | rfl | rfl | rfl | rfl <;> omega
/-- the name of a turn -/
def NameIs (B : List Nat) (a : Nat) (c : Nat) (z : Str) : Prop := ∃ t, z.cps.toList = B.take a ++ [c] ++ (B.drop (a + 1)).take t
theorem NameIs.ok {B : List Nat} {a c : Nat} {z : Str} (h : NameIs B a c z) (ha : a < B.length) (hB : B.length ≤ 8) (hm : ∀ x ∈ B, x ∈ letS.cps.toList) (hc : c ∈ letS.cps.toList) : nameB z = true := by
  obtain ⟨t, e⟩ := h
  have l := len_cps z
  rw [e, List.length_append, List.length_append, List.length_take, List.length_take, List.length_drop, List.length_singleton] at l
  refine name_of (by omega) (by omega) fun x hx => ?_
  rw [e, List.mem_append, List.mem_append] at hx
  rcases hx with (hx | hx) | hx
  · exact hm x (List.mem_of_mem_take hx)
  · rw [List.mem_singleton.mp hx]
    exact hc
  · exact hm x (List.mem_of_mem_drop (List.mem_of_mem_take hx))
theorem NameIs.at {B : List Nat} {a c : Nat} {z : Str} (h : NameIs B a c z) (ha : a < B.length) : z.cps.toList[a]? = some c := by
  obtain ⟨t, e⟩ := h
  rw [e, List.append_assoc, List.getElem?_append_right (by rw [List.length_take]; omega), List.length_take, Nat.min_eq_left (Nat.le_of_lt ha), Nat.sub_self]
  rfl
/-- the names of all turns -/
def NamesOf (B : List Nat) (a : Nat) (f s : Int) (ns : List Str) : Prop := ∀ (j : Nat) (z : Str), ns[j]? = some z → NameIs B a (letC (f + s * j)) z
theorem NamesOf.nodup {B : List Nat} {a : Nat} {f s : Int} {ns : List Str} (h : NamesOf B a f s ns) (ha : a < B.length) (hs : s ∈ strides) (hl : ns.length ≤ 18) : ns.Nodup := by
  rw [List.nodup_iff_pairwise_ne, List.pairwise_iff_getElem]
  intro i j hi hj hij e
  have h1 := (h i _ (List.getElem?_eq_getElem hi)).at ha
  have h2 := (h j _ (List.getElem?_eq_getElem hj)).at ha
  rw [e, h2] at h1
  have := letC_inj hs (by omega) (by omega) (Option.some.inj h1)
  omega
theorem NamesOf.names {B : List Nat} {a : Nat} {f s : Int} {ns : List Str} (h : NamesOf B a f s ns) (ha : a < B.length) (hB : B.length ≤ 8) (hm : ∀ x ∈ B, x ∈ letS.cps.toList) : ∀ z ∈ ns, nameB z = true := fun z hz => by
  obtain ⟨j, hj⟩ := List.getElem?_of_mem hz
  exact (h j z hj).ok ha hB hm (letC_mem _)
/-- one of them is cut short -/
theorem NamesOf.set {B : List Nat} {a : Nat} {f s : Int} {ns : List Str} {y : Str} (h : NamesOf B a f s ns) (ha : a < B.length) (hs : s ∈ strides) (hl : ns.length ≤ 18) (hy : y.cps.toList = B.take a) (i : Nat) : (ns.set i y).Nodup := by
  have nd := h.nodup ha hs hl
  have ny : y ∉ ns := fun hm => by
    obtain ⟨j, hj⟩ := List.getElem?_of_mem hm
    have h1 := (h j y hj).at ha
    rw [hy, List.getElem?_eq_none (by rw [List.length_take]; omega)] at h1
    cases h1
  rw [List.nodup_iff_pairwise_ne, List.pairwise_iff_getElem] at nd ⊢
  intro p q hp hq hpq e
  rw [List.length_set] at hp hq
  rw [List.getElem_set, List.getElem_set] at e
  split at e
  · split at e
    · omega
    · exact ny (e ▸ List.getElem_mem hq)
  · split at e
    · exact ny (e ▸ List.getElem_mem hp)
    · exact nd p q hp hq hpq e
theorem sum_one (cs : List Nat) : ((cs.map fun c => (⟨#[c]⟩ : Str)).map (·.length)).sum = cs.length := by
  induction cs with
  | nil => rfl
  | cons c r ih =>
    rw [List.map_cons, List.map_cons, List.sum_cons, ih, List.length_cons]
    show 1 + r.length = r.length + 1
    omega
def words : List Str := ["vertex", "edge", "root", "weight", "name", "merge", "log", "floor", "all", "some", "none", "lone", "round", "apart", "together", "rollback", "a", "b"]
theorem words_ok : ∀ t : Fin 18, ((((words ++ words).drop t.val).take 18).Nodup ∧ (((words ++ words).drop t.val).take 18).length = 18) ∧ ∀ z ∈ ((words ++ words).drop t.val).take 18, nameB z = true := by decide +kernel
theorem words_cut {t m : Nat} (ht : t < 18) (hm : m ≤ 18) : (((words ++ words).drop t).take m).Nodup ∧ (((words ++ words).drop t).take m).length = m ∧ ∀ z ∈ ((words ++ words).drop t).take m, nameB z = true := by
  obtain ⟨⟨h1, h2⟩, h3⟩ := words_ok ⟨t, ht⟩
  have e : ((words ++ words).drop t).take m = (((words ++ words).drop t).take 18).take m := by rw [List.take_take, Nat.min_eq_left hm]
  rw [e]
  refine ⟨h1.sublist (List.take_sublist _ _), by rw [List.length_take, h2]; omega, fun z hz => h3 z (List.mem_of_mem_take hz)⟩
def spNames : Sp := fun vs H Q _ => ∃ (p cs : Addr) (N : Nat) (m : Int), vs = [.ref p, .int m] ∧ Pen H p cs N ∧ N + 40 < 2 ^ 60 ∧ 1 ≤ m ∧ m ≤ 18 ∧
  ∀ q (ns : List Str) H', But p H H' → H q = none → H' q = some (.lst (ns.map V.str)) → ns.Nodup → (∀ z ∈ ns, nameB z = true) → (ns.length : Int) = m → Pen H' p cs (N + 40) → Q (.ref q) H'
theorem sc_lnames : FnScope ["_law_pen_here", "_law_many", "_law_words", "_law_turn", "_law_letters", "_law_base", "_law_k", "_law_at", "_law_first", "_law_cut", "_law_stride", "_law_found", "_law_tail"] ["_law_pen_here", "_law_many"] (defScope s_L_names) := ⟨rfl, rfl, rfl, by decide +kernel, rfl, by decide +kernel, by decide +kernel⟩
theorem c_lnames (D : Def K mg "_law_names" s_L_names) (B : Bi mg) (CD : Callee P w K mg base CX0 1 "_law_draw" ["_law_pen_here", "_law_many"] spDraw) (CP : Callee P w K mg base CX0 2 "_law_pick" ["_law_pen_here", "_law_some"] (spPick K)) : Callee P w K mg base CX0 3 "_law_names" ["_law_pen_here", "_law_many"] spNames := by
  obtain ⟨f, fd, F, g⟩ := D
  refine ⟨f, fd, F.ok sc_lnames (fun vs H Q E h => ?_) (fun cdv A outer s H vs Q E hr h => ?_), g, F.kp, F.bindsN (fun _ _ _ _ _ _ us hl => match us, hl with | [_, _], _ => rfl)⟩
  · obtain ⟨p, cs, N, m, rfl, _⟩ := h
    rfl
  have hu := hu_of hr
  have nd := sc_lnames.nd
  have hr2 : Room 2 _ := hr
  have hr1 : Room 1 _ := hr.mono (by decide)
  refine ⟨_, PSs.nox (pss_cons (ps_if (pt_cmpR op_eq (pe_c CD hr1 pass0 (pa_cons (pv 0) (pa_cons pe_int pa_nil))) pe_int (nomark _))
      (pss_cons (ps_set (i := 2) nd rfl (Or.inl rfl) (pe_lst (pa_cons pe_str (pa_cons pe_str (pa_cons pe_str (pa_cons pe_str (pa_cons pe_str (pa_cons pe_str (pa_cons pe_str (pa_cons pe_str (pa_cons pe_str (pa_cons pe_str pa_nil))))))))))))
      (pss_cons (ps_set (i := 3) nd rfl (Or.inl rfl) (pe_c CD hr1 pass0 (pa_cons (pv 0) (pa_cons pe_int pa_nil))))
      (pss_one (ps_ret (pe_slice sl_list (pe_slice sl_list (pe_op op_rep (pe_op op_cat (pv 2) (pe_lst (pa_cons pe_str (pa_cons pe_str (pa_cons pe_str (pa_cons pe_str (pa_cons pe_str (pa_cons pe_str (pa_cons pe_str (pa_cons pe_str pa_nil)))))))))) pe_int) (po_some (pv 3)) po_none) po_none (po_some (pv 1))))))) pss_nil)
      (pss_cons (ps_set (i := 4) nd rfl (Or.inr rfl) pe_str)
      (pss_cons (ps_set (i := 5) nd rfl (Or.inl rfl) (pe_join pe_str (pe_lc (own := [("_law_k", 6)]) (by rfl) nd (pi_range1 (by rfl) B.n_range (pa_cons (pe_op op_add pe_int (pe_c CD hr1 pass0 (pa_cons (pv 0) (pa_cons pe_int pa_nil)))) pa_nil)) (blkOk_by (by kernel_rfl)) (fun _ _ _ _ _ => (pg_name (i := 6) nd rfl (Or.inl rfl))) (fun _ _ _ _ _ => pts_nil) (fun _ _ _ _ _ => (pe_c CP hr2 pass0 (pa_cons (pv 0) (pa_cons (pv 4) pa_nil)))))))
      (pss_cons (ps_par3 (i := 7) (j := 8) (l := 9) (by rfl) nd rfl rfl rfl (by decide) (by decide) (by decide) rfl rfl rfl (pa_cons (pe_c CD hr1 pass0 (pa_cons (pv 0) (pa_cons (pe_callB call_len (by rfl) B.n_len boot_len (pa_cons (pv 5) pa_nil)) pa_nil))) (pa_cons (pe_c CD hr1 pass0 (pa_cons (pv 0) (pa_cons pe_int pa_nil))) (pa_cons (pe_c CD hr1 pass0 (pa_cons (pv 0) (pa_cons pe_int pa_nil))) pa_nil))) (by rfl))
      (pss_cons (ps_par (i := 10) (j := 11) (by rfl) nd rfl rfl (by decide) rfl rfl (pa_cons (pe_c CP hr2 pass0 (pa_cons (pv 0) (pa_cons (pe_lst (pa_cons pe_int (pa_cons pe_int (pa_cons pe_int (pa_cons pe_int (pa_cons pe_int (pa_cons pe_int (pa_cons pe_int (pa_cons pe_int (pa_cons pe_int (pa_cons pe_int (pa_cons pe_int (pa_cons pe_int pa_nil))))))))))))) pa_nil))) (pa_cons (pe_lst pa_nil) pa_nil)) (by rfl))
      (pss_cons (ps_for PassesOwn.never rfl (pi_range1 (by rfl) B.n_range (pa_cons (pv 1) pa_nil)) (pg_name (i := 6) nd rfl (Or.inl rfl))
      (pss_cons (ps_set (i := 12) nd rfl (Or.inl rfl) (pe_slice sl_str (pe_slice sl_str (pv 5) (po_some (pe_op op_add (pv 7) pe_int)) po_none) po_none (po_some (pe_ix ix_list (pe_lst (pa_cons pe_int (pa_cons (pe_op op_modN (pv 6) pe_int) pa_nil))) (pv 9) (fun _ _ => rfl)))))
      (pss_one (ps_expr (pe_bm PySem.F.plainAttrs_list PySem.F.slot_list_append PySem.F.type_list_append mt_append (pv 11) (pa_cons (pe_op op_add_str (pe_op op_add_str (pe_slice sl_str (pv 5) po_none (po_some (pv 7))) (pe_ix ix_str (pv 4) (pe_op op_modN (pe_op op_add (pv 8) (pe_op op_mul (pv 10) (pv 6))) pe_int) (fun _ _ => rfl))) (pv 12)) pa_nil))))))
      (pss_cons (ps_if (PW.pt (pw_and (pt_cmpR op_gt (pv 7) pe_int (nomark _)) (pw_and1 (pt_cmpR op_eq (pe_c CD hr1 pass0 (pa_cons (pv 0) (pa_cons pe_int pa_nil))) pe_int (nomark _)))))
      (pss_one (ps_asg (pe_slice sl_str (pv 5) po_none (po_some (pv 7))) (pg_sub (pv 11) (pe_c CD hr1 pass0 (pa_cons (pv 0) (pa_cons (pv 1) pa_nil))) set_list))) pss_nil)
      (pss_one (ps_ret (pv 11)))))))))), ?_⟩
  obtain ⟨p, cs, N, m, rfl, hP, hN, m1, m2, k⟩ := h
  have big : 10000 < sizeLine := by decide
  have sz : ∀ n : Nat, n ≤ 10000 → n ≤ sizeLine := fun n h => by omega
  refine ⟨_, rfl, p, cs, _, _, rfl, by decide, by decide, hP, by omega, fun d1 H1 _ _ b1 P1 => ?_⟩
  have fre : ∀ {H H1 : Hp} {cs : Addr} {M : Nat}, But p H H1 → Pen H1 p cs M → ∀ q, H1 q = none → H q = none := fun {H H1 cs M} b P q hq => by
    cases z : H q with
    | none => rfl
    | some o =>
      by_cases e : q = p
      · obtain ⟨⟨t, r, h1, _⟩, _⟩ := P
        rw [e, h1] at hq
        cases hq
      · rw [b _ _ z e] at hq
        cases hq
  refine ⟨rfl, _, rfl, ite2 (fun _ => ?_) (fun _ => ?_)⟩
  · refine ⟨sz 10 (by decide), fun p1 n1 => ?_⟩
    generalize gg1 : upd _ p1 _ = G1; obtain ⟨s1, L1⟩ := new_eq n1 gg1; clear gg1
    refine ⟨_, rfl, p, cs, _, _, rfl, by decide, by decide, P1.same s1, by omega, fun t H2 t0 t1 b2 P2 => ?_⟩
    have L1' := b2 _ _ L1 (P1.free n1).1
    refine ⟨_, rfl, sz 8 (by decide), fun p2 n2 => ?_⟩
    generalize gg2 : upd _ p2 _ = G2; obtain ⟨s2, L2⟩ := new_eq n2 gg2; clear gg2
    refine ⟨p1, p2, _, _, rfl, rfl, s2 _ _ L1', L2, sz 18 (by decide), fun p3 n3 => ?_⟩
    generalize gg3 : upd _ p3 _ = G3; obtain ⟨s3, L3⟩ := new_eq n3 gg3; clear gg3
    refine ⟨p3, _, _, rfl, rfl, L3, by decide, by decide, sz 36 (by decide), fun p4 n4 => ?_⟩
    generalize gg4 : upd _ p4 _ = G4; obtain ⟨s4, L4⟩ := new_eq n4 gg4; clear gg4
    refine ⟨_, rfl, _, rfl, p4, _, rfl, SqL.of L4, fun p5 n5 => ?_⟩
    generalize gg5 : upd _ p5 _ = G5; obtain ⟨s5, L5⟩ := new_eq n5 gg5; clear gg5
    refine ⟨_, rfl, _, rfl, p5, _, rfl, SqL.of L5, fun p6 n6 => ?_⟩
    generalize gg6 : upd _ p6 _ = G6; obtain ⟨s6, L6⟩ := new_eq n6 gg6; clear gg6
    have sA := (((s2.trans s3).trans s4).trans s5).trans s6
    have eW : cutV (cutV (List.replicate (2 : Int).toNat ([V.str "vertex", .str "edge", .str "root", .str "weight", .str "name", .str "merge", .str "log", .str "floor", .str "all", .str "some"] ++ [.str "none", .str "lone", .str "round", .str "apart", .str "together", .str "rollback", .str "a", .str "b"])).flatten (some t) none) none (some m) = (((words ++ words).drop t.toNat).take m.toNat).map V.str := by
      have e : (List.replicate (2 : Int).toNat ([V.str "vertex", .str "edge", .str "root", .str "weight", .str "name", .str "merge", .str "log", .str "floor", .str "all", .str "some"] ++ [.str "none", .str "lone", .str "round", .str "apart", .str "together", .str "rollback", .str "a", .str "b"])).flatten = (words ++ words).map V.str := rfl
      rw [e, cutV_map, cutL_lo _ t0, cutV_map, cutL_hi _ (by omega)]
    rw [eW] at L6
    obtain ⟨w1, w2, w3⟩ := words_cut (t := t.toNat) (m := m.toNat) (by omega) (by omega)
    have bA : But p H G6 := ((b1.trans (But.of_same s1)).trans b2).trans (But.of_same sA)
    have PA := P2.same sA
    have n6' : H p6 = none := fre ((b1.trans (But.of_same s1)).trans b2) P2 _ (np_of (((s2.trans s3).trans s4).trans s5) n6)
    exact k p6 _ G6 bA n6' L6 w1 w3 (by omega) (PA.mono (by omega))
  · refine ⟨⟨_, rfl⟩, _, rfl, p, cs, _, _, rfl, by decide, by decide, P1, by omega, fun d2 H2 d20 d21 b2 P2 => ?_⟩
    refine ⟨_, _, rfl, rfl, 1 + d2, rfl, by omega, by omega, fun D nD => ?_⟩
    have b02 := b1.trans b2
    have nDH := fre b02 P2 D nD
    have fD := hP.free nDH
    refine lc_it (walk_range (lo := 0) (n := (1 + d2).toNat)) (fun i Hc => ∃ cs' : List Nat, But p H Hc ∧ Hc D = some (.lst ((cs'.map fun c => (⟨#[c]⟩ : Str)).map V.str)) ∧ Pen Hc p cs (N + 2 + i) ∧ cs'.length = i ∧ ∀ c ∈ cs', c ∈ letS.cps.toList)
      ⟨[], b02.put nDH, upd_same, (P2.mono (by omega)).put fD.1 fD.2, rfl, fun c hc => absurd hc (by simp)⟩ ?_ ?_ ?_
    · intros
      trivial
    · rintro i x Hc Hc' hi ⟨cs', c1, c2, c3, c4, c5⟩ ⟨rfl, rfl⟩
      refine ⟨rfl, tYes_if ?_⟩
      refine ⟨_, rfl, _, rfl, p, cs, _, c3, by omega, .inr ⟨letS, rfl, by decide +kernel, by decide +kernel, fun c H3 hc b3 P3 => ?_⟩⟩
      have D3 := b3 _ _ c2 fD.1
      refine ⟨_, D3, by rw [List.length_map, List.length_map]; omega, cs' ++ [c], (c1.trans b3).put nDH, ?_, (P3.put fD.1 fD.2).mono (by omega), by rw [List.length_append, c4]; rfl, fun y hy => ?_⟩
      · rw [upd_same, List.map_append, List.map_append]
        rfl
      · rcases List.mem_append.mp hy with h | h
        · exact c5 y h
        · rw [List.mem_singleton.mp h]
          exact hc
    rintro H3 ⟨Bs, b3, D3, P3, lB, mB⟩
    have lB1 : 1 ≤ Bs.length ∧ Bs.length ≤ 8 := by omega
    refine ⟨_, D, _, rfl, rfl, .inl (SqL.of D3), ?_, ?_⟩
    · rw [sum_one, List.length_map]
      show Bs.length + Bs.length * 0 ≤ 16777216
      omega
    have cB := join_signs Bs
    generalize Txt.join (Str.ofString "") (Bs.map fun c => (⟨#[c]⟩ : Str)) = bs at cB ⊢
    have lenb : bs.length = Bs.length := by rw [← len_cps, cB]
    have lz : bs.length ≤ sizeLine := by omega
    refine ⟨_, rfl, _, rfl, _, bs.length, rfl, ⟨lz, rfl⟩, p, cs, _, _, rfl, by omega, by omega, P3, by omega, fun at_ H4 a0 a1 b4 P4 => ?_⟩
    refine ⟨_, rfl, p, cs, _, _, rfl, by decide, by decide, P4, by omega, fun fi H5 f0 f1 b5 P5 => ?_⟩
    refine ⟨_, rfl, p, cs, _, _, rfl, by decide, by decide, P5, by omega, fun cu H6 c0 c1 b6 P6 => ⟨_, _, _, rfl, ?_⟩⟩
    have b06 := ((b3.trans b4).trans b5).trans b6
    refine ⟨_, rfl, sz 12 (by decide), fun p7 n7 => ?_⟩
    generalize gg7 : upd _ p7 _ = G7; obtain ⟨s7, L7⟩ := new_eq n7 gg7; clear gg7
    refine ⟨p, cs, _, P6.same s7, by omega, .inl ⟨p7, _, rfl, .inl (SqL.of L7), by simp, by show 12 < 1073741824; decide, fun sv H8 hsv b8 P8 => ?_⟩⟩
    obtain ⟨st, hst, rfl⟩ : ∃ st : Int, st ∈ strides ∧ sv = .int st := by
      have e : sv ∈ strides.map V.int := hsv
      obtain ⟨st, h1, h2⟩ := List.mem_map.mp e
      exact ⟨st, h1, h2.symm⟩
    have b08 := (b06.trans (But.of_same s7)).trans b8
    have hsp : -26 < st ∧ st < 26 := by
      have : ∀ x ∈ strides, -26 < x ∧ x < 26 := by decide
      exact this st hst
    refine ⟨sz 0 (by decide), fun q nq => ⟨_, _, rfl, ?_⟩⟩
    have nqH := fre b08 P8 q nq
    have fq := hP.free nqH
    refine ⟨_, rfl, m, rfl, by omega, by omega, ?_⟩
    refine for_it (walk_range (lo := 0) (n := m.toNat)) (fun i σ Hc => ∃ (x6 x12 : Option V) (ns : List Str), σ = [some (.ref p), some (.int m), none, none, some (.str letS), some (.str bs), x6, some (.int at_), some (.int fi), some (.int cu), some (.int st), some (.ref q), x12] ∧ But p H Hc ∧ Hc q = some (.lst (ns.map V.str)) ∧ Pen Hc p cs (N + 20) ∧ ns.length = i ∧ NamesOf Bs at_.toNat fi st ns)
      ⟨_, none, [], rfl, b08.put nqH, upd_same, (P8.put fq.1 fq.2).mono (by omega), rfl, fun j z h => absurd h (by simp)⟩ ?_ ?_ ?_
    · intros
      trivial
    · rintro i x σ Hc Hc' hi ⟨x6, x12, ns, rfl, i1, i2, i3, i4, i5⟩ ⟨rfl, rfl⟩
      refine ⟨_, rfl, _, rfl, _, _, rfl, rfl, _, rfl, bs, rfl, lz, ?_⟩
      refine ⟨_, rfl, _, _, rfl, rfl, (by show (3 : Int) ≠ 0; decide), sz 2 (by decide), fun p9 n9 => ?_⟩
      generalize gg9 : upd _ p9 _ = G9; obtain ⟨s9, L9⟩ := new_eq n9 gg9; clear gg9
      have t9 : ∃ t : Int, 0 ≤ t ∧ atI [V.int 8, .int ((0 + (i : Int)).fmod 3)] cu = some (.int t) := by
        have e : cu = 0 ∨ cu = 1 := by omega
        rcases e with rfl | rfl
        · exact ⟨8, by decide, rfl⟩
        · exact ⟨_, (fm (x := 0 + (i : Int)) (m := 3) (by decide)).1, rfl⟩
      obtain ⟨tt, tt0, ett⟩ := t9
      refine ⟨_, rfl, p9, _, _, _, rfl, rfl, SqL.of L9, ett, _, rfl, _, rfl, Nat.le_trans (cutS_length _ _ _) lz, ?_⟩
      obtain ⟨tl, etl⟩ : ∃ tl, tl = cutS (cutS bs (some (at_ + 1)) none) none (some tt) := ⟨_, rfl⟩
      have ltl : tl.length ≤ 8 := by
        have h1 := cutS_length bs (some (at_ + 1)) none
        have h2 := cutS_length (cutS bs (some (at_ + 1)) none) none (some tt)
        rw [etl]
        omega
      have i29 := s9 _ _ i2
      have i39 := i3.same s9
      refine ⟨_, rfl, .inl ⟨rfl, _, SqL.of i29⟩, ?_⟩
      refine ⟨_, rfl, _, rfl, _, rfl, bs, rfl, lz, ?_⟩
      refine ⟨_, rfl, _, rfl, _, rfl, _, rfl, _, _, rfl, rfl, .inl ⟨by omega, by omega⟩, _, _, rfl, rfl, _, _, rfl, rfl, (by show (26 : Int) ≠ 0; decide), ?_⟩
      have lm := fm (x := fi + st * (0 + (i : Int))) (m := 26) (by decide)
      have ll : letS.cps.toList.length = 26 := by decide +kernel
      refine ⟨letS, _, letC (fi + st * (0 + (i : Int))), rfl, rfl, by decide +kernel, ?_, ?_⟩
      · unfold letC
        rw [List.getD_eq_getElem?_getD, List.getElem?_eq_getElem (by omega)]
        exact at_nat lm.1 (by omega)
      have lhd := cutS_length bs none (some at_)
      refine ⟨_, _, rfl, rfl, ?_, _, rfl, _, _, rfl, rfl, ?_, ?_⟩
      · show (cutS bs none (some at_)).length + 1 ≤ sizeLine
        omega
      · rw [etl] at ltl
        have e1 : (cutS bs none (some at_) ++ (⟨#[letC (fi + st * (0 + (i : Int)))]⟩ : Str)).length = (cutS bs none (some at_)).length + 1 := by
          rw [← len_cps, app_cps, List.length_append, len_cps]
          rfl
        rw [e1]
        omega
      refine ⟨q, _, _, rfl, rfl, i29, by rw [List.length_map]; omega, _, _, ns ++ [cutS bs none (some at_) ++ (⟨#[letC (fi + st * (0 + (i : Int)))]⟩ : Str) ++ tl], rfl, (i1.trans (But.of_same s9)).put nqH, ?_, i39.put fq.1 fq.2, by rw [List.length_append, i4]; rfl, ?_⟩
      · rw [upd_same, List.map_append, etl]
        rfl
      · intro j z hz
        rcases Nat.lt_trichotomy j ns.length with h | h | h
        · rw [List.getElem?_append_left h] at hz
          exact i5 j z hz
        · subst h
          rw [List.getElem?_append_right (Nat.le_refl _), Nat.sub_self] at hz
          cases hz
          refine ⟨tt.toNat, ?_⟩
          rw [app_cps, app_cps, etl, cutS_hi _ tt0, cutS_lo _ (by omega), cutS_hi _ a0, cB, i4, Int.zero_add]
          have e : (at_ + 1).toNat = at_.toNat + 1 := by omega
          rw [e]
        · rw [List.getElem?_eq_none (by rw [List.length_append, List.length_singleton]; omega)] at hz
          cases hz
    · rintro σ H9 ⟨x6, x12, ns, rfl, i1, i2, i3, i4, i5⟩
      have ha : at_.toNat < Bs.length := by omega
      have n1 := i5.nodup ha hst (by omega)
      have n2 := i5.names ha lB1.2 mB
      have n3 : (ns.length : Int) = m := by omega
      refine ⟨_, rfl, _, _, rfl, rfl, _, rfl, ite2 (fun h1 => ?_) (fun h1 => iteF ⟨_, rfl, k q ns H9 i1 nqH i2 n1 n2 n3 (i3.mono (by omega))⟩)⟩
      have hpos : 0 < at_ := of_decide_eq_true h1
      refine ⟨_, rfl, p, cs, _, _, rfl, by decide, by decide, i3, by omega, fun d3 H10 _ _ b10 P10 => ⟨rfl, _, rfl, ite2 (fun h2 => ?_) (fun h2 => ⟨_, rfl, k q ns H10 (i1.trans b10) nqH (b10 _ _ i2 fq.1) n1 n2 n3 (P10.mono (by omega))⟩)⟩⟩
      refine ⟨_, rfl, _, rfl, _, rfl, bs, rfl, lz, _, rfl, _, rfl, _, rfl, p, cs, _, _, rfl, by omega, by omega, P10, by omega, fun ix H11 x0 x1 b11 P11 => ?_⟩
      have i211 := b11 _ _ (b10 _ _ i2 fq.1) fq.1
      refine ⟨q, _, ix, ix.toNat, rfl, rfl, i211, ?_, ?_⟩
      · unfold ixN
        rw [List.length_map, if_pos x0, if_pos (by omega)]
      have hy : (cutS bs none (some at_)).cps.toList = Bs.take at_.toNat := by rw [cutS_hi _ a0, cB]
      refine ⟨_, rfl, k q (ns.set ix.toNat (cutS bs none (some at_))) _ (((i1.trans b10).trans b11).put nqH) nqH ?_ (i5.set ha hst (by omega) hy _) (fun z hz => ?_) (by rw [List.length_set]; exact n3) ((P11.put fq.1 fq.2).mono (by omega))⟩
      · rw [upd_same, List.map_set]
      · rcases List.mem_or_eq_of_mem_set hz with h | h
        · exact n2 z h
        · subst h
          have l := len_cps (cutS bs none (some at_))
          rw [hy, List.length_take] at l
          refine name_of (by omega) (by omega) fun c hc => ?_
          rw [hy] at hc
          exact mB c (List.mem_of_mem_take hc)
end
end Wk
namespace Wk
open PySem PySem.Spec PyProof.Rows L2 WkD WkN
section
variable {P : Program} {w : World} {K : PySem.W.Frag} {mg : Str → Option Value} {base : Heap}
/-! ### _law_weights -/
def WtsOk (ws : List Int) : Prop := ws ≠ [] ∧ (∀ x ∈ ws, 1 ≤ x ∧ x ≤ 1000000000) ∧ ws.length ≤ 5
def spWeights : Sp := fun vs H Q _ => ∃ (p cs : Addr) (N : Nat), vs = [.ref p] ∧ Pen H p cs N ∧ N + 2 < 2 ^ 60 ∧
  ∀ q ws H', But p H H' → H q = none → H' q = some (.lst (ws.map V.int)) → WtsOk ws → Pen H' p cs (N + 2) → Q (.ref q) H'
theorem sc_weights : FnScope ["_law_pen_here", "_law_way", "_law_base"] ["_law_pen_here"] (defScope s_L_weights) := ⟨rfl, rfl, rfl, by decide +kernel, rfl, by decide +kernel, by decide +kernel⟩
theorem c_weights (D : Def K mg "_law_weights" s_L_weights) (CD : Callee P w K mg base CX0 1 "_law_draw" ["_law_pen_here", "_law_many"] spDraw) : Callee P w K mg base CX0 2 "_law_weights" ["_law_pen_here"] spWeights := by
  obtain ⟨f, fd, F, g⟩ := D
  refine ⟨f, fd, F.ok sc_weights (fun vs H Q E h => ?_) (fun cdv A outer s H vs Q E hr h => ?_), g, F.kp, F.bindsN (fun _ _ _ _ _ _ us hl => match us, hl with | [_], _ => rfl)⟩
  · obtain ⟨p, cs, N, rfl, _⟩ := h
    rfl
  have hu := hu_of hr
  have nd := sc_weights.nd
  have hr1 : Room 1 _ := hr
  refine ⟨_, PSs.nox (pss_cons (ps_par (i := 1) (j := 2) (by rfl) nd rfl rfl (by decide) rfl rfl (pa_cons (pe_c CD hr1 pass0 (pa_cons (pv 0) (pa_cons pe_int pa_nil))) (pa_cons (pe_op op_add pe_int (pe_c CD hr1 pass0 (pa_cons (pv 0) (pa_cons pe_int pa_nil)))) pa_nil)) (by rfl))
      (pss_one (ps_ret (pe_ix ix_list (pe_lst (pa_cons (pe_lst (pa_cons (pv 2) pa_nil)) (pa_cons (pe_lst (pa_cons pe_int (pa_cons pe_int pa_nil))) (pa_cons (pe_lst (pa_cons pe_int (pa_cons pe_int pa_nil))) (pa_cons (pe_lst (pa_cons pe_int (pa_cons pe_int (pa_cons pe_int (pa_cons (pv 2) pa_nil))))) (pa_cons (pe_lst (pa_cons pe_int (pa_cons (pv 2) (pa_cons (pe_op op_pow pe_int pe_int) (pa_cons (pe_op op_sub (pe_op op_pow pe_int pe_int) pe_int) (pa_cons pe_int pa_nil)))))) pa_nil)))))) (pv 1) (fun _ _ => rfl))))), ?_⟩
  obtain ⟨p, cs, N, rfl, hP, hN, k⟩ := h
  refine ⟨_, rfl, p, cs, _, _, rfl, by decide, by decide, hP, by omega, fun wy H1 w0 w1 b1 P1 => ?_⟩
  refine ⟨_, rfl, p, cs, _, _, rfl, by decide, by decide, P1, by omega, fun d H2 d0 d1 b2 P2 => ?_⟩
  refine ⟨_, _, rfl, rfl, _, _, rfl, ?_⟩
  have b0 := b1.trans b2
  obtain ⟨c, ec⟩ : ∃ c, c = 1 + d := ⟨_, rfl⟩
  have sz : ∀ n : Nat, n ≤ 5 → n ≤ sizeLine := fun n h => Nat.le_trans h (by decide)
  refine ⟨_, rfl, sz 1 (by decide), fun p1 n1 => ?_⟩
  generalize gg1 : upd _ p1 _ = G1; obtain ⟨s1, L1⟩ := new_eq n1 gg1; clear gg1
  refine ⟨sz 2 (by decide), fun p2 n2 => ?_⟩
  generalize gg2 : upd _ p2 _ = G2; obtain ⟨s2, L2⟩ := new_eq n2 gg2; clear gg2
  refine ⟨sz 2 (by decide), fun p3 n3 => ?_⟩
  generalize gg3 : upd _ p3 _ = G3; obtain ⟨s3, L3⟩ := new_eq n3 gg3; clear gg3
  refine ⟨_, rfl, sz 4 (by decide), fun p4 n4 => ?_⟩
  generalize gg4 : upd _ p4 _ = G4; obtain ⟨s4, L4⟩ := new_eq n4 gg4; clear gg4
  refine ⟨_, rfl, _, _, rfl, rfl, ⟨by decide, by decide, by decide⟩, _, _, rfl, rfl, ⟨by decide, by decide, by decide⟩, _, _, rfl, rfl, sz 5 (by decide), fun p5 n5 => ?_⟩
  generalize gg5 : upd _ p5 _ = G5; obtain ⟨s5, L5⟩ := new_eq n5 gg5; clear gg5
  refine ⟨sz 5 (by decide), fun p6 n6 => ?_⟩
  generalize gg6 : upd _ p6 _ = G6; obtain ⟨s6, L6⟩ := new_eq n6 gg6; clear gg6
  have s56 := s5.trans s6
  have s46 := s4.trans s56
  have s36 := s3.trans s46
  have s26 := s2.trans s36
  have s16 := s1.trans s26
  have P6 := P2.same s16
  have b6 := b0.trans (But.of_same s16)
  have nH : ∀ q, H2 q = none → H q = none := fun q hq => by
    cases z : H q with
    | none => rfl
    | some o =>
      by_cases e : q = p
      · obtain ⟨⟨t, r, h1, _⟩, _⟩ := P2
        rw [e, h1] at hq
        cases hq
      · rw [b0 _ _ z e] at hq
        cases hq
  have e : wy = 0 ∨ wy = 1 ∨ wy = 2 ∨ wy = 3 ∨ wy = 4 := by omega
  have fin : ∀ q ws, H2 q = none → G6 q = some (.lst (ws.map V.int)) → WtsOk ws → Q (.ref q) G6 := fun q ws hq h1 h2 => k q ws G6 b6 (nH q hq) h1 h2 P6
  have r1 := s26 _ _ L1
  have r2 := s36 _ _ L2
  have r3 := s46 _ _ L3
  have r4 := s56 _ _ L4
  have r5 := s6 _ _ L5
  have m2 := np_of s1 n2
  have m3 := np_of (s1.trans s2) n3
  have m4 := np_of ((s1.trans s2).trans s3) n4
  have m5 := np_of (((s1.trans s2).trans s3).trans s4) n5
  rcases e with rfl | rfl | rfl | rfl | rfl
  · exact ⟨_, rfl, p6, _, _, _, rfl, rfl, SqL.of L6, rfl, fin p1 [1 + d] n1 r1 ⟨by simp, by simp; omega, by simp⟩⟩
  · exact ⟨_, rfl, p6, _, _, _, rfl, rfl, SqL.of L6, rfl, fin p2 [1, 2] m2 r2 ⟨by simp, by simp, by simp⟩⟩
  · exact ⟨_, rfl, p6, _, _, _, rfl, rfl, SqL.of L6, rfl, fin p3 [2, 4] m3 r3 ⟨by simp, by simp, by simp⟩⟩
  · exact ⟨_, rfl, p6, _, _, _, rfl, rfl, SqL.of L6, rfl, fin p4 [1, 2, 3, 1 + d] m4 r4 ⟨by simp, by simp; omega, by simp⟩⟩
  · exact ⟨_, rfl, p6, _, _, _, rfl, rfl, SqL.of L6, rfl, fin p5 [1, 1 + d, 10 ^ 9, 10 ^ 9 - 1, 500000000] m5 r5 ⟨by simp, by simp; omega, by simp⟩⟩
end
end Wk
namespace Wk
open PySem PySem.Spec PyProof.Rows L2 WkD WkN WkE
section
variable {P : Program} {w : World} {K : PySem.W.Frag} {mg : Str → Option Value} {base : Heap}
def netL (va ea : Addr) (rt : Str) : List (Key × V) := [(Sum.inr "vertices", .ref va), (Sum.inr "edges", .ref ea), (Sum.inr "root", .str rt)]
/-- a drawn network as it lies -/
structure NetAt (H : Hp) (q va ea : Addr) (vs : List Str) (es : EdD) (rt : Str) : Prop where
  top : H q = some (.dK (netL va ea rt))
  ver : H va = some (.lst (vs.map V.str))
  edg : H ea = some (.dT (dtE es))
  ok : NetOk vs es rt
theorem NetAt.same {H H' : Hp} {q va ea : Addr} {vs : List Str} {es : EdD} {rt : Str} (n : NetAt H q va ea vs es rt) (s : Same H H') : NetAt H' q va ea vs es rt := ⟨s _ _ n.top, s _ _ n.ver, s _ _ n.edg, n.ok⟩
def spNetwork : Sp := fun vs H Q _ => ∃ (p cs : Addr) (N : Nat) (lo hi : Int), vs = [.ref p, .int lo, .int hi] ∧ Pen H p cs N ∧ N + 400 < 2 ^ 60 ∧ 2 ≤ lo ∧ lo ≤ hi ∧ hi ≤ 18 ∧
  ∀ q va ea vs es rt H', But p H H' → H q = none → H va = none → H ea = none → NetAt H' q va ea vs es rt → lo ≤ vs.length → (vs.length : Int) ≤ hi → es.length ≤ 40 → Pen H' p cs (N + 400) → Q (.ref q) H'
theorem put_p {H : Hp} {a b : Addr} {es : EdD} {p : Pr} {n : Int} (h : H a = some (.dT (dtE es))) (hb : H b = some (.tup [.str p.1, .str p.2])) (hl : es.length < sizeLine) : DPut H a (.ref b) (.int n) (upd H a (.dT (dtE (putE es p n)))) := by
  refine .inr ⟨_, kP p, b, h, rfl, hb, by rw [dtE_len]; exact hl, ?_⟩
  rw [dtE_put]
theorem fre {p : Addr} {H H1 : Hp} {cs : Addr} {M : Nat} (b : But p H H1) (P : Pen H1 p cs M) {q : Addr} (hq : H1 q = none) : H q = none := by
  cases z : H q with
  | none => rfl
  | some o =>
    by_cases e : q = p
    · obtain ⟨⟨t, r, h1, _⟩, _⟩ := P
      rw [e, h1] at hq
      cases hq
    · rw [b _ _ z e] at hq
      cases hq
theorem sc_network : FnScope ["_law_pen_here", "_law_least", "_law_most", "_law_names_here", "_law_weights_here", "_law_edges_here", "_law_many", "_law_shape", "_law_k", "_law_ahead", "_law_one", "_law_other", "_law_network_here"] ["_law_pen_here", "_law_least", "_law_most"] (defScope s_L_network) := ⟨rfl, rfl, rfl, by decide +kernel, rfl, by decide +kernel, by decide +kernel⟩
theorem c_network (D : Def K mg "_law_network" s_L_network) (B : Bi mg) (CD : Callee P w K mg base CX0 1 "_law_draw" ["_law_pen_here", "_law_many"] spDraw) (CP : Callee P w K mg base CX0 2 "_law_pick" ["_law_pen_here", "_law_some"] (spPick K)) (CN : Callee P w K mg base CX0 3 "_law_names" ["_law_pen_here", "_law_many"] spNames) (CW : Callee P w K mg base CX0 2 "_law_weights" ["_law_pen_here"] spWeights) : Callee P w K mg base CX0 4 "_law_network" ["_law_pen_here", "_law_least", "_law_most"] spNetwork := by
  obtain ⟨f, fd, F, g⟩ := D
  refine ⟨f, fd, F.ok sc_network (fun vs H Q E h => ?_) (fun cdv A outer s H vs Q E hr h => ?_), g, F.kp, F.bindsN (fun _ _ _ _ _ _ us hl => match us, hl with | [_, _, _], _ => rfl)⟩
  · obtain ⟨p, cs, N, lo, hi, rfl, _⟩ := h
    rfl
  have hu := hu_of hr
  have nd := sc_network.nd
  have hr3 : Room 3 _ := hr
  have hr2 : Room 2 _ := hr.mono (by decide)
  have hr1 : Room 1 _ := hr.mono (by decide)
  refine ⟨_, PSs.nox (pss_cons (ps_set (i := 3) nd rfl (Or.inl rfl) (pe_c CN hr3 pass0 (pa_cons (pv 0) (pa_cons (pe_op op_add (pv 1) (pe_c CD hr1 pass0 (pa_cons (pv 0) (pa_cons (pe_op op_add (pe_op op_sub (pv 2) (pv 1)) pe_int) pa_nil)))) pa_nil))))
      (pss_cons (ps_par3 (i := 4) (j := 5) (l := 6) (by rfl) nd rfl rfl rfl (by decide) (by decide) (by decide) rfl rfl rfl (pa_cons (pe_c CW hr2 pass0 (pa_cons (pv 0) pa_nil)) (pa_cons pe_dnewT (pa_cons (pe_callB call_len_seq (by rfl) B.n_len (by decide +kernel) (pa_cons (pv 3) pa_nil)) pa_nil))) (by rfl))
      (pss_cons (ps_set (i := 7) nd rfl (Or.inl rfl) (pe_c CD hr1 pass0 (pa_cons (pv 0) (pa_cons pe_int pa_nil))))
      (pss_cons (ps_for PassesOwn.never rfl (pi_range2 (by rfl) B.n_range (pa_cons pe_int (pa_cons (pv 6) pa_nil))) (pg_name (i := 8) nd rfl (Or.inl rfl))
      (C8.pss_cut (ps_set (i := 9) nd rfl (Or.inl rfl) (pe_ifExp (pt_cmpR op_lt (pv 7) pe_int (nomark _)) (pe_ix ix_list (pv 3) (pe_op op_sub (pv 8) pe_int) (fun _ _ => rfl)) (pe_ix ix_list (pv 3) (pe_c CD hr1 pass0 (pa_cons (pv 0) (pa_cons (pv 8) pa_nil))) (fun _ _ => rfl))))
      (pss_one (ps_dput hu (pv 5) (pe_tup (pa_cons (pe_callB (WkD.call_min2S rfl) (by rfl) B.n_min (by decide +kernel) (pa_cons (pe_ix ix_list (pv 3) (pv 8) (fun _ _ => rfl)) (pa_cons (pv 9) pa_nil))) (pa_cons (pe_callB (WkD.call_max2S rfl) (by rfl) B.n_max (by decide +kernel) (pa_cons (pe_ix ix_list (pv 3) (pv 8) (fun _ _ => rfl)) (pa_cons (pv 9) pa_nil))) pa_nil))) (pe_c CP hr2 pass0 (pa_cons (pv 0) (pa_cons (pv 4) pa_nil))) rfl))))
      (C8.pss_cut (ps_if (PW.pt (pw_and (pt_cmpR op_gt (pv 7) pe_int (nomark _)) (pw_and1 (pt_cmpR op_gt (pv 6) pe_int (nomark _)))))
      (pss_one (ps_dput hu (pv 5) (pe_tup (pa_cons (pe_callB (WkD.call_min2S rfl) (by rfl) B.n_min (by decide +kernel) (pa_cons (pe_ix ix_list (pv 3) pe_int (fun _ _ => rfl)) (pa_cons (pe_ix ix_list (pv 3) (pe_un un_neg pe_int) (fun _ _ => rfl)) pa_nil))) (pa_cons (pe_callB (WkD.call_max2S rfl) (by rfl) B.n_max (by decide +kernel) (pa_cons (pe_ix ix_list (pv 3) pe_int (fun _ _ => rfl)) (pa_cons (pe_ix ix_list (pv 3) (pe_un un_neg pe_int) (fun _ _ => rfl)) pa_nil))) pa_nil))) (pe_c CP hr2 pass0 (pa_cons (pv 0) (pa_cons (pv 4) pa_nil))) rfl)) pss_nil)
      (pss_cons (ps_for PassesOwn.never rfl (pi_range1 (by rfl) B.n_range (pa_cons (pe_op op_mul (pe_c CD hr1 pass0 (pa_cons (pv 0) (pa_cons (pe_op op_add (pv 6) pe_int) pa_nil))) (pe_callTy call_int1 (by rfl) B.n_int (by decide +kernel) (pa_cons (pe_cmpR op_gt (pv 7) pe_int (nomark _)) pa_nil))) pa_nil)) (pg_name (i := 8) nd rfl (Or.inl rfl))
      (pss_cons (ps_par (i := 10) (j := 11) (by rfl) nd rfl rfl (by decide) rfl rfl (pa_cons (pe_c CP hr2 pass0 (pa_cons (pv 0) (pa_cons (pv 3) pa_nil))) (pa_cons (pe_c CP hr2 pass0 (pa_cons (pv 0) (pa_cons (pv 3) pa_nil))) pa_nil)) (by rfl))
      (pss_one (ps_if (pt_cmpR op_ne (pv 10) (pv 11) (nomark _))
      (pss_one (ps_dput hu (pv 5) (pe_tup (pa_cons (pe_callB (WkD.call_min2S rfl) (by rfl) B.n_min (by decide +kernel) (pa_cons (pv 10) (pa_cons (pv 11) pa_nil))) (pa_cons (pe_callB (WkD.call_max2S rfl) (by rfl) B.n_max (by decide +kernel) (pa_cons (pv 10) (pa_cons (pv 11) pa_nil))) pa_nil))) (pe_c CP hr2 pass0 (pa_cons (pv 0) (pa_cons (pv 4) pa_nil))) rfl)) pss_nil))))
      (pss_cons (ps_set (i := 12) nd rfl (Or.inl rfl) (pe_disp (pps_cons pe_str (pe_callB cr_sortedS (by rfl) B.n_sorted (by decide +kernel) (pa_cons (pv 3) pa_nil)) (pps_cons pe_str (pv 5) (pps_cons pe_str (pe_callB (WkD.cr_minSL rfl) (by rfl) B.n_min (by decide +kernel) (pa_cons (pv 3) pa_nil)) pps_nil))) (by rfl) (by rfl) (fun z => by cases z) (by decide)))
      (C8.pss_cut (ps_if (pt_cmpR op_eq (pe_c CD hr1 pass0 (pa_cons (pv 0) (pa_cons pe_int pa_nil))) pe_int (nomark _))
      (pss_one (ps_dput hu (pv 12) pe_str (pe_c CP hr2 pass0 (pa_cons (pv 0) (pa_cons (pv 3) pa_nil))) rfl)) pss_nil)
      (pss_one (ps_ret (pv 12))))))))))), ?_⟩
  obtain ⟨p, cs, N, lo, hi, rfl, hP, hN, l2, lh, h18, k⟩ := h
  have big : 10000 < sizeLine := by decide
  have sz : ∀ n : Nat, n ≤ 10000 → n ≤ sizeLine := fun n h => by omega
  refine ⟨_, rfl, _, rfl, _, rfl, _, rfl, _, rfl, _, _, rfl, rfl, _, _, rfl, rfl, p, cs, _, _, rfl, by omega, by omega, hP, by omega, fun d1 H1 d10 d11 b1 P1 => ?_⟩
  refine ⟨_, _, rfl, rfl, p, cs, _, _, rfl, P1, by omega, by omega, by omega, fun na ns H2 b2 nn A2 ndn nmn lnn P2 => ?_⟩
  refine ⟨_, rfl, p, cs, _, rfl, P2, by omega, fun wa ws H3 b3 nw W3 wok P3 => ?_⟩
  have fna := P1.free nn
  have A3 := b3 _ _ A2 fna.1
  have fwa := P2.free nw
  intro pe ne
  have fea := P3.free ne
  generalize gge : upd _ pe _ = Ge; obtain ⟨se, Le⟩ := new_eq ne gge; clear gge
  have A4 := se _ _ A3
  have W4 := se _ _ W3
  have P4 := P3.same se
  have b03 := (b1.trans b2).trans b3
  have b04 := b03.trans (But.of_same se)
  have nnH := fre b1 P1 nn
  have nwH := fre (b1.trans b2) P2 nw
  have neH := fre b03 P3 ne
  refine ⟨_, rfl, na, _, rfl, .inl (SqL.of A4), _, _, _, rfl, ?_⟩
  rw [List.length_map]
  refine ⟨_, rfl, p, cs, _, _, rfl, by decide, by decide, P4, by omega, fun sh H5 s0 s1 b5 P5 => ?_⟩
  have A5 := b5 _ _ A4 fna.1
  have W5 := b5 _ _ W4 fwa.1
  have E5 := b5 _ _ Le fea.1
  have b05 := b04.trans b5
  have e0 : 2 ≤ ns.length ∧ ns.length ≤ 18 := by omega
  refine ⟨_, rfl, 1, ns.length, rfl, ⟨by omega, by omega, by omega, by omega⟩, ?_⟩
  have nz : ns[0]? = some (ns[0]'(by omega)) := List.getElem?_eq_getElem (by omega)
  obtain ⟨r0, er0⟩ : ∃ r0, r0 = ns[0]'(by omega) := ⟨_, rfl⟩
  rw [← er0] at nz
  have nae : na ≠ pe := fun z => by
    rw [z, ne] at A3
    cases A3
  have wae : wa ≠ pe := fun z => by
    rw [z, ne] at W3
    cases W3
  /- what stands while the edges are made -/
  refine for_it (walk_range (lo := 1) (n := ((ns.length : Int) - 1).toNat)) (fun i σ Hc => ∃ (x8 x9 : Option V) (es : EdD), σ = [some (.ref p), some (.int lo), some (.int hi), some (.ref na), some (.ref wa), some (.ref pe), some (.int ns.length), some (.int sh), x8, x9, none, none, none] ∧ But p H Hc ∧ Hc na = some (.lst (ns.map V.str)) ∧ Hc wa = some (.lst (ws.map V.int)) ∧ Hc pe = some (.dT (dtE es)) ∧ EdOk ns es ∧ es.length ≤ i ∧ (∀ j z, j ≤ i → ns[j]? = some z → ERch es r0 z) ∧ Pen Hc p cs (N + 60 + 2 * i))
    ⟨none, none, [], rfl, b05, A5, W5, E5, EdOk.nil _, Nat.le_refl _, fun j z hj hz => ?_, P5.mono (by omega)⟩ ?_ ?_ ?_
  · have e : j = 0 := by omega
    subst e
    rw [nz] at hz
    cases hz
    exact .here
  · intros
    trivial
  · rintro i x σ Hc Hc' hii ⟨x8, x9, es, rfl, c1, c2, c3, c4, c5, c6, c7, c8⟩ ⟨rfl, rfl⟩
    have hk : i + 1 < ns.length := by omega
    have hk' : ((1 : Int) + (i : Int)).toNat = i + 1 := by omega
    have atk : atI (ns.map V.str) (1 + (i : Int)) = some (.str ns[i + 1]) := at_of (j := i + 1) (by omega) (by rw [List.getElem?_map, List.getElem?_eq_getElem hk]; rfl)
    refine ⟨fun σ H2 => ∃ (j : Nat) (y : Str), j ≤ i ∧ ns[j]? = some y ∧ σ = [some (.ref p), some (.int lo), some (.int hi), some (.ref na), some (.ref wa), some (.ref pe), some (.int ns.length), some (.int sh), some (.int (1 + (i : Int))), some (.str y), none, none, none] ∧ But p H H2 ∧ H2 na = some (.lst (ns.map V.str)) ∧ H2 wa = some (.lst (ws.map V.int)) ∧ H2 pe = some (.dT (dtE es)) ∧ Pen H2 p cs (N + 60 + 2 * i + 1), ?_, ?_⟩
    · refine ⟨_, rfl, _, _, rfl, rfl, _, rfl, ite2 (fun _ => ?_) (fun _ => ?_)⟩
      · refine ⟨_, rfl, _, rfl, _, _, rfl, rfl, na, _, _, _, rfl, rfl, SqL.of c2, at_of (j := i) (v := .str ns[i]) (by omega) (by rw [List.getElem?_map, List.getElem?_eq_getElem (by omega)]; rfl), ?_⟩
        exact ⟨i, ns[i], Nat.le_refl _, List.getElem?_eq_getElem (by omega), rfl, c1, c2, c3, c4, c8.mono (by omega)⟩
      · refine ⟨_, rfl, _, rfl, _, rfl, p, cs, _, _, rfl, by omega, by omega, c8, by omega, fun d H7 d0 d1 b7 P7 => ?_⟩
        have hd : d.toNat < ns.length := by omega
        refine ⟨na, _, _, _, rfl, rfl, SqL.of (b7 _ _ c2 fna.1), at_of (j := d.toNat) (v := .str ns[d.toNat]) (by omega) (by rw [List.getElem?_map, List.getElem?_eq_getElem hd]; rfl), ?_⟩
        exact ⟨d.toNat, ns[d.toNat], by omega, List.getElem?_eq_getElem hd, rfl, c1.trans b7, b7 _ _ c2 fna.1, b7 _ _ c3 fwa.1, b7 _ _ c4 fea.1, P7⟩
    · rintro σ H7 ⟨j, y, hj, hy, rfl, g1, g2, g3, g4, g5⟩
      refine ⟨_, rfl, _, rfl, p, cs, _, g5, by omega, .inl ⟨wa, _, rfl, .inl (SqL.of g3), by intro z; exact wok.1 (List.map_eq_nil_iff.mp z), by rw [List.length_map]; have := wok.2.2; omega, fun wv H8 hwv b8 P8 => ?_⟩⟩
      obtain ⟨wn, hwn, rfl⟩ := List.mem_map.mp hwv
      have A8 := b8 _ _ g2 fna.1
      have W8 := b8 _ _ g3 fwa.1
      have E8 := b8 _ _ g4 fea.1
      refine ⟨_, rfl, _, rfl, _, rfl, na, _, _, _, rfl, rfl, SqL.of A8, atk, _, rfl, ns[i + 1], y, rfl, ?_⟩
      refine ⟨_, rfl, _, rfl, na, _, _, _, rfl, rfl, SqL.of A8, atk, _, rfl, ns[i + 1], y, rfl, sz 2 (by decide), fun p9 n9 => ?_⟩
      generalize gg9 : upd _ p9 _ = G9; obtain ⟨s9, L9⟩ := new_eq n9 gg9; clear gg9
      have hne : ns[i + 1] ≠ y := fun z => by
        have hj2 : j < ns.length := by omega
        rw [List.getElem?_eq_getElem hj2] at hy
        have hy := Option.some.inj hy
        rw [← hy] at z
        have := (List.getElem_inj ndn).mp z
        omega
      have hyn : y ∈ ns := List.mem_of_getElem? hy
      have hmm := mp_mem hne (List.getElem_mem hk) hyn
      refine ⟨pe, _, rfl, put_p (p := mp ns[i + 1] y) (s9 _ _ E8) L9 (by omega), ?_⟩
      refine ⟨_, _, putE es (mp ns[i + 1] y) wn, rfl, fun c o hc hne => ?_, ?_, ?_, upd_same, c5.put hmm.1 hmm.2 (mp_lt hne) (wok.2.1 wn hwn).1 (wok.2.1 wn hwn).2, ?_, fun j2 z hj2 hz => ?_, ?_⟩
      · rw [upd_ne (ne_of_none hc neH)]
        exact s9 _ _ ((g1.trans b8) c o hc hne)
      · rw [upd_ne nae]
        exact s9 _ _ A8
      · rw [upd_ne wae]
        exact s9 _ _ W8
      · have := putE_len (es := es) (p := mp ns[i + 1] y) (n := wn)
        omega
      · by_cases e : j2 = i + 1
        · subst e
          rw [List.getElem?_eq_getElem hk] at hz
          cases hz
          exact ((c7 j y hj hy).mono putE_sub).trans (ERch.mp hne)
        · exact (c7 j2 z (by omega) hz).mono putE_sub
      · exact ((P8.same s9).put fea.1 fea.2).mono (by omega)
  · rintro σ H7 ⟨x8, x9, es, rfl, c1, c2, c3, c4, c5, c6, c7, c8⟩
    have conn0 : ∀ z ∈ ns, ERch es r0 z := fun z hz => by
      obtain ⟨j, hj⟩ := List.getElem?_of_mem hz
      have := (List.getElem?_eq_some_iff.mp hj).1
      exact c7 j z (by omega) hj
    have hr0 : r0 ∈ ns := List.mem_of_getElem? nz
    /- from here on the edges are some that connect -/
    refine ⟨fun σ H2 => ∃ es : EdD, σ = [some (.ref p), some (.int lo), some (.int hi), some (.ref na), some (.ref wa), some (.ref pe), some (.int ns.length), some (.int sh), x8, x9, none, none, none] ∧ But p H H2 ∧ H2 na = some (.lst (ns.map V.str)) ∧ H2 wa = some (.lst (ws.map V.int)) ∧ H2 pe = some (.dT (dtE es)) ∧ EdOk ns es ∧ es.length ≤ 18 ∧ (∀ z ∈ ns, ERch es r0 z) ∧ Pen H2 p cs (N + 97), ?_, ?_⟩
    · have skip : ∀ σ' H', σ' = [some (.ref p), some (.int lo), some (.int hi), some (.ref na), some (.ref wa), some (.ref pe), some (.int ns.length), some (.int sh), x8, x9, none, none, none] → H' = H7 → ∃ es : EdD, σ' = [some (.ref p), some (.int lo), some (.int hi), some (.ref na), some (.ref wa), some (.ref pe), some (.int ns.length), some (.int sh), x8, x9, none, none, none] ∧ But p H H' ∧ H' na = some (.lst (ns.map V.str)) ∧ H' wa = some (.lst (ws.map V.int)) ∧ H' pe = some (.dT (dtE es)) ∧ EdOk ns es ∧ es.length ≤ 18 ∧ (∀ z ∈ ns, ERch es r0 z) ∧ Pen H' p cs (N + 97) := by
        rintro σ' H' rfl rfl
        exact ⟨es, rfl, c1, c2, c3, c4, c5, by omega, conn0, c8.mono (by omega)⟩
      refine ⟨_, rfl, _, _, rfl, rfl, _, rfl, ite2 (fun _ => ?_) (fun _ => iteF (skip _ _ rfl rfl))⟩
      refine ⟨_, rfl, _, _, rfl, rfl, _, rfl, ite2 (fun h3 => ?_) (fun _ => skip _ _ rfl rfl)⟩
      have h3 : 2 < ns.length := by
        have := of_decide_eq_true h3
        omega
      have at0 : atI (ns.map V.str) 0 = some (.str r0) := at_of (j := 0) rfl (by rw [List.getElem?_map, nz]; rfl)
      have hl : ns.length - 1 < ns.length := by omega
      have atl : atI (ns.map V.str) (-1) = some (.str ns[ns.length - 1]) := by
        unfold atI ixN
        rw [List.length_map, if_neg (by decide), if_pos (by omega)]
        have e : ((-1 : Int) + (ns.length : Int)).toNat = ns.length - 1 := by omega
        rw [e]
        show (ns.map V.str)[ns.length - 1]? = _
        rw [List.getElem?_map, List.getElem?_eq_getElem hl]
        rfl
      refine ⟨_, rfl, _, rfl, p, cs, _, c8, by omega, .inl ⟨wa, _, rfl, .inl (SqL.of c3), by intro z; exact wok.1 (List.map_eq_nil_iff.mp z), by rw [List.length_map]; have := wok.2.2; omega, fun wv H8 hwv b8 P8 => ?_⟩⟩
      obtain ⟨wn, hwn, rfl⟩ := List.mem_map.mp hwv
      have A8 := b8 _ _ c2 fna.1
      have W8 := b8 _ _ c3 fwa.1
      have E8 := b8 _ _ c4 fea.1
      refine ⟨_, rfl, _, rfl, na, _, _, _, rfl, rfl, SqL.of A8, at0, _, rfl, _, rfl, na, _, _, _, rfl, rfl, SqL.of A8, atl, r0, ns[ns.length - 1], rfl, ?_⟩
      refine ⟨_, rfl, na, _, _, _, rfl, rfl, SqL.of A8, at0, _, rfl, _, rfl, na, _, _, _, rfl, rfl, SqL.of A8, atl, r0, ns[ns.length - 1], rfl, sz 2 (by decide), fun p9 n9 => ?_⟩
      generalize gg9 : upd _ p9 _ = G9; obtain ⟨s9, L9⟩ := new_eq n9 gg9; clear gg9
      have hne : r0 ≠ ns[ns.length - 1] := fun z => by
        rw [er0] at z
        have := (List.getElem_inj ndn).mp z
        omega
      have hmm := mp_mem hne hr0 (List.getElem_mem hl)
      refine ⟨pe, _, rfl, put_p (p := mp r0 ns[ns.length - 1]) (s9 _ _ E8) L9 (by omega), ?_⟩
      refine ⟨putE es (mp r0 ns[ns.length - 1]) wn, rfl, fun c o hc hne => ?_, ?_, ?_, upd_same, c5.put hmm.1 hmm.2 (mp_lt hne) (wok.2.1 wn hwn).1 (wok.2.1 wn hwn).2, ?_, fun z hz => (conn0 z hz).mono putE_sub, ?_⟩
      · rw [upd_ne (ne_of_none hc neH)]
        exact s9 _ _ ((c1.trans b8) c o hc hne)
      · rw [upd_ne nae]
        exact s9 _ _ A8
      · rw [upd_ne wae]
        exact s9 _ _ W8
      · have := putE_len (es := es) (p := mp r0 ns[ns.length - 1]) (n := wn)
        omega
      · exact ((P8.same s9).put fea.1 fea.2).mono (by omega)
    clear c1 c2 c3 c4 c5 c6 c7 c8 conn0
    rintro σ H8 ⟨es, rfl, c1, c2, c3, c4, c5, c6, c7, c8⟩
    refine ⟨_, rfl, _, rfl, _, _, rfl, rfl, p, cs, _, _, rfl, by omega, by omega, c8, by omega, fun d H9 d0 d1 b9 P9 => ?_⟩
    refine ⟨_, rfl, _, _, rfl, rfl, .inr ⟨_, rfl, _, _, rfl, rfl, .inl ⟨by omega, by omega⟩, ?_⟩⟩
    obtain ⟨n, hn, n0, n1⟩ : ∃ n : Int, n = d * (if decide (sh > 1) = true then 1 else 0) ∧ 0 ≤ n ∧ n ≤ 18 := by
      refine ⟨_, rfl, ?_, ?_⟩ <;> split <;> omega
    refine ⟨n, by rw [hn], by omega, by omega, ?_⟩
    have A9 := b9 _ _ c2 fna.1
    have W9 := b9 _ _ c3 fwa.1
    have E9 := b9 _ _ c4 fea.1
    refine for_it (walk_range (lo := 0) (n := n.toNat)) (fun i σ Hc => ∃ (x8 x10 x11 : Option V) (es : EdD), σ = [some (.ref p), some (.int lo), some (.int hi), some (.ref na), some (.ref wa), some (.ref pe), some (.int ns.length), some (.int sh), x8, x9, x10, x11, none] ∧ But p H Hc ∧ Hc na = some (.lst (ns.map V.str)) ∧ Hc wa = some (.lst (ws.map V.int)) ∧ Hc pe = some (.dT (dtE es)) ∧ EdOk ns es ∧ es.length ≤ 18 + i ∧ (∀ z ∈ ns, ERch es r0 z) ∧ Pen Hc p cs (N + 98 + 3 * i))
      ⟨x8, none, none, es, rfl, c1.trans b9, A9, W9, E9, c5, c6, c7, P9⟩ ?_ ?_ ?_
    · intros
      trivial
    · rintro i x σ Hc Hc' hii ⟨x8, x10, x11, es, rfl, c1, c2, c3, c4, c5, c6, c7, c8⟩ ⟨rfl, rfl⟩
      have nen : ns.map V.str ≠ [] := fun z => by
        have := List.map_eq_nil_iff.mp z
        rw [this] at e0
        simp at e0
      refine ⟨_, rfl, _, rfl, p, cs, _, c8, by omega, .inl ⟨na, _, rfl, .inl (SqL.of c2), nen, by rw [List.length_map]; omega, fun v1 Ha hv1 ba Pa => ?_⟩⟩
      obtain ⟨one, ho, rfl⟩ := List.mem_map.mp hv1
      refine ⟨_, rfl, _, rfl, p, cs, _, Pa, by omega, .inl ⟨na, _, rfl, .inl (SqL.of (ba _ _ c2 fna.1)), nen, by rw [List.length_map]; omega, fun v2 Hb hv2 bb Pb => ⟨_, _, rfl, ?_⟩⟩⟩
      obtain ⟨oth, hoo, rfl⟩ := List.mem_map.mp hv2
      have bab := ba.trans bb
      have Ab := bab _ _ c2 fna.1
      have Wb := bab _ _ c3 fwa.1
      have Eb := bab _ _ c4 fea.1
      refine ⟨_, rfl, _, rfl, rfl, _, rfl, ite2 (fun h1 => ?_) (fun _ => ⟨_, _, _, es, rfl, c1.trans bab, Ab, Wb, Eb, c5, by omega, c7, Pb.mono (by omega)⟩)⟩
      have hne : one ≠ oth := fun z => by
        rw [z] at h1
        simp at h1
      refine ⟨_, rfl, _, rfl, p, cs, _, Pb, by omega, .inl ⟨wa, _, rfl, .inl (SqL.of Wb), by intro z; exact wok.1 (List.map_eq_nil_iff.mp z), by rw [List.length_map]; have := wok.2.2; omega, fun wv Hd hwv bd Pd => ?_⟩⟩
      obtain ⟨wn, hwn, rfl⟩ := List.mem_map.mp hwv
      have Ad := bd _ _ Ab fna.1
      have Wd := bd _ _ Wb fwa.1
      have Ed := bd _ _ Eb fea.1
      refine ⟨_, rfl, _, rfl, _, rfl, one, oth, rfl, ?_⟩
      refine ⟨_, rfl, _, rfl, one, oth, rfl, sz 2 (by decide), fun p9 n9 => ?_⟩
      generalize gg9 : upd _ p9 _ = G9; obtain ⟨s9, L9⟩ := new_eq n9 gg9; clear gg9
      have hmm := mp_mem hne ho hoo
      refine ⟨pe, _, rfl, put_p (p := mp one oth) (s9 _ _ Ed) L9 (by omega), ?_⟩
      refine ⟨_, _, _, putE es (mp one oth) wn, rfl, fun c o hc hne => ?_, ?_, ?_, upd_same, c5.put hmm.1 hmm.2 (mp_lt hne) (wok.2.1 wn hwn).1 (wok.2.1 wn hwn).2, ?_, fun z hz => (c7 z hz).mono putE_sub, ?_⟩
      · rw [upd_ne (ne_of_none hc neH)]
        exact s9 _ _ (((c1.trans bab).trans bd) c o hc hne)
      · rw [upd_ne nae]
        exact s9 _ _ Ad
      · rw [upd_ne wae]
        exact s9 _ _ Wd
      · have := putE_len (es := es) (p := mp one oth) (n := wn)
        omega
      · exact ((Pd.same s9).put fea.1 fea.2).mono (by omega)
    · rintro σ Hc ⟨x8, x10, x11, es, rfl, c1, c2, c3, c4, c5, c6, c7, c8⟩
      intro pd nd_
      have fpd := c8.free nd_
      have npdH := fre c1 c8 nd_
      have s0 := same_upd (o := .dK []) nd_
      have P0 := c8.same s0
      have A0 := s0 _ _ c2
      have E0 := s0 _ _ c4
      have D0 : upd Hc pd (.dK []) pd = some (.dK []) := upd_same
      have b0 := c1.trans (But.of_same s0)
      generalize upd Hc pd (.dK []) = H10 at s0 P0 A0 E0 D0 b0
      refine ⟨_, rfl, na, ns, rfl, SqL.of A0, by omega, fun ys pv pm so nv => ?_⟩
      generalize ggv : upd _ pv _ = Gv; obtain ⟨sv, Lv⟩ := new_eq nv ggv; clear ggv
      have nvH := fre b0 P0 nv
      have fv := P0.free nv
      refine ⟨_, rfl, _, rfl, na, ns, rfl, SqL.of (sv _ _ A0), fun z => by rw [z] at e0; simp at e0, fun mn hmn _ => ?_⟩
      refine ⟨sv _ _ D0, [(Sum.inr "vertices", .ref pv), (Sum.inr "edges", .ref pe), (Sum.inr "root", .str mn)], rfl, by show 3 ≤ 15; decide, ?_⟩
      have npv : pd ≠ pv := fun z => by
        rw [z, nv] at D0
        cases D0
      have npe : pe ≠ pd := fun z => by
        rw [z, D0] at E0
        cases E0
      have b11 : But p H (upd Gv pd (.dK (netL pv pe mn))) := (b0.trans (But.of_same sv)).put npdH
      have P11 : Pen (upd Gv pd (.dK (netL pv pe mn))) p cs (N + 98 + 3 * n.toNat) := (P0.same sv).put fpd.1 fpd.2
      have A11 : upd Gv pd (.dK (netL pv pe mn)) na = some (.lst (ns.map V.str)) := by
        rw [upd_ne (ne_of (sv _ _ A0) (sv _ _ D0) (by intro z; cases z))]
        exact sv _ _ A0
      have ok : ∀ rt, rt ∈ ns → NetOk ys es rt := fun rt hrt => ⟨asc_of so (pm.nodup_iff.mpr ndn), fun z hz => nmn z (pm.mem_iff.mp hz), ⟨c5.nd, fun e he => by
        obtain ⟨h1, h2, h3⟩ := c5.mem e he
        exact ⟨pm.mem_iff.mpr h1, pm.mem_iff.mpr h2, h3⟩⟩, pm.mem_iff.mpr hrt, fun s hs u hu => (c7 s (pm.mem_iff.mp hs)).symm.trans (c7 u (pm.mem_iff.mp hu))⟩
      have N11 : NetAt (upd Gv pd (.dK (netL pv pe mn))) pd pv pe ys es mn := ⟨upd_same, by rw [upd_ne (Ne.symm npv)]; exact Lv, by rw [upd_ne npe]; exact sv _ _ E0, ok mn hmn⟩
      have len : ys.length = ns.length := pm.length_eq
      refine ⟨fun σ H2 => ∃ rt : Str, σ = [some (.ref p), some (.int lo), some (.int hi), some (.ref na), some (.ref wa), some (.ref pe), some (.int ns.length), some (.int sh), x8, x9, x10, x11, some (.ref pd)] ∧ But p H H2 ∧ NetAt H2 pd pv pe ys es rt ∧ Pen H2 p cs (N + 400), ?_, ?_⟩
      · show tIfS _ _ _ _ _ (upd Gv pd (.dK (netL pv pe mn)))
        generalize upd Gv pd (.dK (netL pv pe mn)) = H11 at b11 P11 A11 N11
        refine ⟨_, rfl, p, cs, _, _, rfl, by decide, by decide, P11, by omega, fun d3 H12 _ _ b12 P12 => ⟨rfl, _, rfl, ?_⟩⟩
        have N12 : NetAt H12 pd pv pe ys es mn := ⟨b12 _ _ N11.top fpd.1, b12 _ _ N11.ver fv.1, b12 _ _ N11.edg fea.1, N11.ok⟩
        refine ite2 (fun _ => ?_) (fun _ => ⟨mn, rfl, b11.trans b12, N12, P12.mono (by omega)⟩)
        refine ⟨_, rfl, _, rfl, p, cs, _, P12, by omega, .inl ⟨na, _, rfl, .inl (SqL.of (b12 _ _ A11 fna.1)), ?_, by rw [List.length_map]; omega, fun v1 H13 hv1 b13 P13 => ?_⟩⟩
        · intro z
          have := List.map_eq_nil_iff.mp z
          rw [this] at e0
          simp at e0
        obtain ⟨rt, hrt, rfl⟩ := List.mem_map.mp hv1
        have N13 : NetAt H13 pd pv pe ys es mn := ⟨b13 _ _ N12.top fpd.1, b13 _ _ N12.ver fv.1, b13 _ _ N12.edg fea.1, N12.ok⟩
        refine ⟨_, rfl, pd, _, rfl, DPut.k (k := Sum.inr "root") N13.top (by show 3 < sizeLine; omega), ?_⟩
        refine ⟨rt, rfl, ((b11.trans b12).trans b13).put npdH, ⟨upd_same, ?_, ?_, ok rt hrt⟩, (P13.put fpd.1 fpd.2).mono (by omega)⟩
        · rw [upd_ne (Ne.symm npv)]
          exact N13.ver
        · rw [upd_ne npe]
          exact N13.edg
      · rintro σ H14 ⟨rt, rfl, b14, N14, P14⟩
        exact ⟨_, rfl, k pd pv pe ys es rt H14 b14 npdH nvH neH N14 (by omega) (by omega) (by omega) P14⟩
end
end Wk
namespace Wk
open PySem PySem.Spec PyProof.Rows L2 WkD WkN WkE
section
variable {P : Program} {w : World} {K : PySem.W.Frag} {mg : Str → Option Value} {base : Heap}
def spLEdges (K : PySem.W.Frag) : Sp := fun vs H Q _ => ∃ (q va ea : Addr) (vs0 : List Str) (es : EdD) (rt : Str), vs = [.ref q] ∧ NetAt H q va ea vs0 es rt ∧ es.length ≤ 1000 ∧ ∀ p rs H', Same H H' → H p = none → H' p = some (.lst (rs.map V.ref)) → EdsAt K H' rs (edS es) → Q (.ref p) H'
theorem get_net {H : Hp} {q va ea : Addr} {vs : List Str} {es : EdD} {rt : Str} (n : NetAt H q va ea vs es rt) : DGet H q (.str "vertices") (some (.ref va)) ∧ DGet H q (.str "edges") (some (.ref ea)) ∧ DGet H q (.str "root") (some (.str rt)) :=
  ⟨DGet.k (k := Sum.inr "vertices") n.top, DGet.k (k := Sum.inr "edges") n.top, DGet.k (k := Sum.inr "root") n.top⟩
theorem sc_ledges : FnScope ["_law_network_here", "_law_pair"] ["_law_network_here"] (defScope s_L_edges) := ⟨rfl, rfl, rfl, by decide +kernel, rfl, by decide +kernel, by decide +kernel⟩
theorem c_ledges (D : Def K mg "_law_edges" s_L_edges) (B : Bi mg) : Callee P w K mg base CX0 1 "_law_edges" ["_law_network_here"] (spLEdges K) := by
  obtain ⟨f, fd, F, g⟩ := D
  refine ⟨f, fd, F.ok sc_ledges (fun vs H Q E h => ?_) (fun cdv A outer s H vs Q E hr h => ?_), g, F.kp, F.bindsN (fun _ _ _ _ _ _ us hl => match us, hl with | [_], _ => rfl)⟩
  · obtain ⟨q, va, ea, vs0, es, rt, rfl, _⟩ := h
    rfl
  have hu := hu_of hr
  have nd := sc_ledges.nd
  refine ⟨_, PSs.nox (pss_one (ps_ret (pe_lc (own := [("_law_pair", 1)]) (by rfl) nd (pi_list (pe_callB (WkD.cr_sortedTT rfl hr.units) (by rfl) B.n_sorted (by decide +kernel) (pa_cons (pe_dget hu (pv 0) pe_str (fun _ _ => rfl)) pa_nil))) (blkOk_by (by kernel_rfl)) (fun _ _ _ _ _ => (pg_name (i := 1) nd rfl (Or.inl rfl))) (fun _ _ _ _ _ => pts_nil) (fun _ _ _ _ _ => (pe_op (WkN.opCatT K (by rfl)) (pv 1) (pe_tup (pa_cons (pe_dget hu (pe_dget hu (pv 0) pe_str (fun _ _ => rfl)) (pv 1) (fun _ _ => rfl)) pa_nil))))))), ?_⟩
  obtain ⟨q, va, ea, vs0, es, rt, rfl, hN, hl, k⟩ := h
  have big : 10000 < sizeLine := by decide
  refine ⟨_, rfl, q, _, rfl, (get_net hN).2.1, ea, _, es.map (·.1), rfl, .inl hN.edg, dtE_keys, fun bs p1 eb n1 => ?_⟩
  obtain ⟨ks, eks⟩ : ∃ ks, ks = (es.map (·.1)).mergeSort (PySem.W.dataLe false encP) := ⟨_, rfl⟩
  rw [← eks] at eb
  have lks : ks.length = es.length := by rw [eks, List.length_mergeSort, List.length_map]
  have lbs : bs.length = ks.length := eb.length
  have s1 : Same H (upd H p1 (.lst (bs.map V.ref))) := same_upd n1
  have L1 : upd H p1 (.lst (bs.map V.ref)) p1 = some (.lst (bs.map V.ref)) := upd_same
  generalize upd H p1 (.lst (bs.map V.ref)) = H1 at s1 L1
  have pm := List.mergeSort_perm (es.map (·.1)) (PySem.W.dataLe false encP)
  rw [← eks] at pm
  refine ⟨p1, rfl, ⟨_, SqL.of L1⟩, fun D nD => ?_⟩
  have nDH := np_of s1 nD
  refine lc_it (walk_list (xs := bs.map V.ref)) (fun i Hc => ∃ rs : List Addr, Same H1 Hc ∧ Hc D = some (.lst (rs.map V.ref)) ∧ EdsAt K Hc rs ((ks.take i).map fun p => (p.1, p.2, wOf es p)) ∧ rs.length = i) ⟨[], same_upd nD, upd_same, ⟨rfl, fun i r e h => absurd h (by simp)⟩, rfl⟩ ?_ ?_ ?_
  · rintro i Hc hi ⟨rs, c1, c2, c3, c4⟩
    exact SqL.of (c1 _ _ L1)
  · rintro i x Hc Hc' hi ⟨rs, c1, c2, c3, c4⟩ ⟨rfl, hx⟩
    rw [List.length_map] at hi
    rw [List.getElem?_map, List.getElem?_eq_getElem hi] at hx
    cases hx
    have hi2 : i < ks.length := by omega
    obtain ⟨pr, epr⟩ : ∃ pr, pr = ks[i] := ⟨_, rfl⟩
    have hb : H bs[i] = some (.tup [.str pr.1, .str pr.2]) := by
      rw [epr]
      exact each_get eb i hi hi2
    have hpk : pr ∈ es.map (·.1) := pm.mem_iff.mp (epr ▸ List.getElem_mem hi2)
    have tk := takeS (List.getElem?_eq_getElem hi2)
    rw [← epr] at tk
    generalize bs[i] = b at hb ⊢
    have hb1 := c1 _ _ (s1 _ _ hb)
    refine ⟨rfl, tYes_if ?_⟩
    have hNc := hN.same (s1.trans c1)
    refine ⟨_, rfl, _, rfl, q, _, rfl, (get_net hNc).2.1, _, rfl, ea, _, rfl, .inr ⟨_, kP pr, b, .inl hNc.edg, rfl, hb1, (dtE_val hN.ok.ed.nd (wOf_mem hN.ok.ed.nd hpk)).symm⟩, by show 1 ≤ sizeLine; omega, fun p2 n2 => ?_⟩
    generalize gg2 : upd _ p2 _ = G2; obtain ⟨s2, L2⟩ := new_eq n2 gg2; clear gg2
    refine ⟨b, p2, _, _, rfl, rfl, .inl (.inl (s2 _ _ hb1)), .inl (.inl L2), by simp, by show 3 ≤ sizeLine; omega, fun z => absurd z (by simp), fun _ p3 n3 => ?_⟩
    generalize gg3 : upd _ p3 _ = G3; obtain ⟨s3, L3⟩ := new_eq n3 gg3; clear gg3
    have s23 := s2.trans s3
    have D3 := s23 _ _ c2
    refine ⟨_, D3, by rw [List.length_map]; omega, rs ++ [p3], ?_, ?_, ?_, by rw [List.length_append, c4]; rfl⟩
    · intro c o hc
      rw [upd_ne (ne_of_none hc nD)]
      exact s23 _ _ (c1 _ _ hc)
    · rw [upd_same, List.map_append]
      rfl
    · rw [tk, List.map_append]
      have E3 := c3.same s23
      have n3D : p3 ≠ D := fun z => by
        rw [z, s2 _ _ c2] at n3
        cases n3
      have E4 : EdsAt K (upd G3 D (.lst (rs.map V.ref ++ [.ref p3]))) rs ((ks.take i).map fun p => (p.1, p.2, wOf es p)) := by
        refine ⟨E3.1, fun i r e h1 h2 => ?_⟩
        rcases E3.2 i r e h1 h2 with (z | ⟨o, z⟩) | z
        · exact .inl (.inl (by rw [upd_ne (ne_of z D3 (by intro q; cases q))]; exact z))
        · exact .inl (.inr ⟨o, by rw [upd_ne (ne_of z D3 (by intro q; cases q))]; exact z⟩)
        · exact .inr z
      exact E4.snoc (e := (pr.1, pr.2, wOf es pr)) (fun _ _ h => h) (by rw [upd_ne n3D]; exact L3)
  · rintro Hc ⟨rs, c1, c2, c3, c4⟩
    refine k D rs Hc (s1.trans c1) nDH c2 ?_
    rw [List.length_map, lbs, List.take_length, eks] at c3
    exact c3
end
end Wk
namespace Wk
open PySem PySem.Spec PyProof.Rows L2 WkD WkN LamX WkP WkE
/-! ### what is built from a drawn network, in plain words -/
abbrev prOf (e : Ed) : Pr := (e.1, e.2.1)
def flipE (e : Ed) : Ed := (e.2.1, e.1, e.2.2)
/-- the same edges, their vertices in either order -/
abbrev Flips (sh es' : List Ed) : Prop := PySem.W.EachIs (fun a b => b = a ∨ b = flipE a) sh es'
theorem Flips.snoc {sh es' : List Ed} (h : Flips sh es') {a b : Ed} (hb : b = a ∨ b = flipE a) : Flips (sh ++ [a]) (es' ++ [b]) := by
  induction h with
  | nil => exact .cons hb .nil
  | cons h t ih => exact .cons h ih
theorem Flips.at {sh es' : List Ed} (h : Flips sh es') {i : Nat} {b : Ed} (hb : es'[i]? = some b) : ∃ a, sh[i]? = some a ∧ (b = a ∨ b = flipE a) := by
  have h1 := (List.getElem?_eq_some_iff.mp hb).1
  have h2 : i < sh.length := by rw [h.length]; exact h1
  refine ⟨sh[i], List.getElem?_eq_getElem h2, ?_⟩
  rw [List.getElem?_eq_getElem h1] at hb
  rw [← Option.some.inj hb]
  exact each_get h i h2 h1
theorem Flips.adj {sh es' : List Ed} (h : Flips sh es') (u v : Str) (n : Int) : Adj es' u v n ↔ Adj sh u v n := by
  induction h with
  | nil => exact Iff.rfl
  | @cons a b as bs h t ih =>
    unfold Adj at ih ⊢
    simp only [List.mem_cons]
    obtain ⟨a1, a2, a3⟩ := a
    unfold flipE at h
    rcases h with rfl | rfl
    · grind
    · simp only [Prod.mk.injEq]
      grind
theorem edS_perm_nodup {es : EdD} {sh : List Ed} (nd : (es.map (·.1)).Nodup) (pm : sh.Perm (edS es)) : (sh.map prOf).Nodup := by
  refine (pm.map prOf).nodup_iff.mpr ?_
  have h := edS_asc nd
  rw [List.nodup_iff_pairwise_ne, List.pairwise_map]
  exact h.imp fun {a b} (q : ltP (prOf a) (prOf b)) (e : prOf a = prOf b) => ltP_irrefl (prOf b) (by
    rw [e] at q
    exact q)
theorem built_valid {vs vs0 : List Str} {es : EdD} {rt : Str} {sh es' : List Ed} (ok : NetOk vs es rt) (two : 2 ≤ vs.length) (few : vs.length ≤ 40) (pv : vs0.Perm vs) (ps : sh.Perm (edS es)) (fl : Flips sh es') : Valid vs0 es' := by
  have nd := ok.ed.nd
  have snd := edS_perm_nodup nd ps
  have ln := pv.length_eq
  have inS : ∀ u v n, (u, v, n) ∈ sh ↔ ((u, v), n) ∈ es := fun u v n => ps.mem_iff.trans (edS_mem nd)
  refine ⟨fun u hu => ok.nm u (pv.mem_iff.mp hu), pv.nodup_iff.mpr (asc_nodup ok.asc), by omega, by omega, fun i a b n h => ?_, fun nb wt ro s hs u hu => ?_⟩
  · obtain ⟨⟨u, v, m⟩, hs, hor⟩ := fl.at h
    have hm : (u, v, m) ∈ sh := List.mem_of_getElem? hs
    obtain ⟨h1, h2, h3, h4, h5⟩ := ok.ed.mem _ ((inS u v m).mp hm)
    have h1 := pv.mem_iff.mpr h1
    have h2 := pv.mem_iff.mpr h2
    have hne : u ≠ v := fun e => ltS_irrefl u (by
      have h3 : ltS u v := h3
      rw [← e] at h3
      exact h3)
    have key : ∀ (j : Nat) (x y : Str) (m' : Int), j < i → es'[j]? = some (x, y, m') → ((x = u ∧ y = v) ∨ (x = v ∧ y = u)) → False := fun j x y m' hj hx hxy => by
      obtain ⟨⟨u', v', m2⟩, hs', hor'⟩ := fl.at hx
      have hm' : (u', v', m2) ∈ sh := List.mem_of_getElem? hs'
      obtain ⟨_, _, g3, _, _⟩ := ok.ed.mem _ ((inS u' v' m2).mp hm')
      have e : u' = u ∧ v' = v := by
        unfold flipE at hor'
        simp only [Prod.mk.injEq] at hor'
        have g3 : ltS u' v' := g3
        have h3 : ltS u v := h3
        rcases hor' with ⟨rfl, rfl, _⟩ | ⟨rfl, rfl, _⟩
        · rcases hxy with ⟨rfl, rfl⟩ | ⟨rfl, rfl⟩
          · exact ⟨rfl, rfl⟩
          · exact absurd g3 (ltS_asymm h3)
        · rcases hxy with ⟨rfl, rfl⟩ | ⟨rfl, rfl⟩
          · exact absurd g3 (ltS_asymm h3)
          · exact ⟨rfl, rfl⟩
      have hi1 := (List.getElem?_eq_some_iff.mp hs).1
      have hj1 := (List.getElem?_eq_some_iff.mp hs').1
      have q1 : (sh.map prOf)[i]'(by rw [List.length_map]; exact hi1) = (u, v) := by
        rw [List.getElem_map, (List.getElem?_eq_some_iff.mp hs).2]
      have q2 : (sh.map prOf)[j]'(by rw [List.length_map]; exact hj1) = (u, v) := by
        rw [List.getElem_map, (List.getElem?_eq_some_iff.mp hs').2]
        show (u', v') = (u, v)
        rw [e.1, e.2]
      have := (List.getElem_inj snd).mp (q1.trans q2.symm)
      omega
    have no : ∀ m', ¬ Adj (es'.take i) u v m' := fun m' ha => by
      have tkk : ∀ x y, (x, y, m') ∈ es'.take i → ∃ j, j < i ∧ es'[j]? = some (x, y, m') := fun x y hxy => by
        obtain ⟨j, hj⟩ := List.getElem?_of_mem hxy
        rw [List.getElem?_take] at hj
        split at hj
        · exact ⟨j, by assumption, hj⟩
        · cases hj
      rcases ha with ha | ha
      · obtain ⟨j, hj, hx⟩ := tkk _ _ ha
        exact key j _ _ _ hj hx (.inl ⟨rfl, rfl⟩)
      · obtain ⟨j, hj, hx⟩ := tkk _ _ ha
        exact key j _ _ _ hj hx (.inr ⟨rfl, rfl⟩)
    unfold flipE at hor
    simp only [Prod.mk.injEq] at hor
    rcases hor with ⟨rfl, rfl, rfl⟩ | ⟨rfl, rfl, rfl⟩
    · exact ⟨h1, h2, hne, h4, h5, no⟩
    · exact ⟨h2, h1, Ne.symm hne, h4, h5, fun m' ha => no m' ha.symm⟩
  · have er := ok.con s (pv.mem_iff.mp hs) u (pv.mem_iff.mp hu)
    have both : ∀ u, ERch es s u → u ∈ vs0 ∧ Rch nb s u := fun u er => by
      induction er with
      | here => exact ⟨hs, .here⟩
      | @go a b _ e ih =>
        obtain ⟨i1, i2⟩ := ih
        have get : ∀ x y, (x, y) ∈ es.map (·.1) → ∃ n, Adj es' x y n ∧ x ∈ vs0 ∧ y ∈ vs0 := fun x y hxy => by
          obtain ⟨⟨p, n⟩, he, e⟩ := List.mem_map.mp hxy
          have e : p = (x, y) := e
          subst e
          obtain ⟨g1, g2, _⟩ := ok.ed.mem _ he
          exact ⟨n, (fl.adj x y n).mpr (.inl ((inS x y n).mpr he)), pv.mem_iff.mpr g1, pv.mem_iff.mpr g2⟩
        rcases e with e | e
        · obtain ⟨n, h1, h2, h3⟩ := get _ _ e
          exact ⟨h3, .go i2 ((ro.mem a h2 b).mpr ⟨n, h1⟩)⟩
        · obtain ⟨n, h1, h2, h3⟩ := get _ _ e
          exact ⟨h2, .go i2 ((ro.mem a h3 b).mpr ⟨n, h1.symm⟩)⟩
    exact (both u er).2
theorem edL_mem {Vs : List Str} {nb : Nb} {wt : Wt} {u v : Str} {n : Int} : (u, v, n) ∈ edL Vs nb wt ↔ u ∈ Vs ∧ v ∈ nb u ∧ ltS u v ∧ n = wt u v := by
  unfold edL edR
  rw [List.mem_flatMap]
  constructor
  · rintro ⟨x, hx, h⟩
    obtain ⟨y, hy, e⟩ := List.mem_map.mp h
    simp only [Prod.mk.injEq] at e
    obtain ⟨rfl, rfl, rfl⟩ := e
    rw [List.mem_filter] at hy
    exact ⟨hx, hy.1, of_decide_eq_true hy.2, rfl⟩
  · rintro ⟨h1, h2, h3, rfl⟩
    exact ⟨u, h1, List.mem_map.mpr ⟨v, List.mem_filter.mpr ⟨h2, decide_eq_true h3⟩, rfl⟩⟩
theorem edL_asc {Vs : List Str} {nb : Nb} {wt : Wt} (h : Asc Vs) (k : ∀ u ∈ Vs, Asc (nb u)) : (edL Vs nb wt).Pairwise fun a b => ltP (prOf a) (prOf b) := by
  unfold edL
  induction Vs with
  | nil => exact List.Pairwise.nil
  | cons u r ih =>
    unfold Asc at h
    rw [List.pairwise_cons] at h
    rw [List.flatMap_cons, List.pairwise_append]
    refine ⟨?_, ih h.2 fun v hv => k v (List.mem_cons_of_mem _ hv), fun a ha b hb => ?_⟩
    · unfold edR
      rw [List.pairwise_map]
      exact ((k u List.mem_cons_self).filter _).imp fun {a b} q => .inr ⟨rfl, q⟩
    · unfold edR at ha
      obtain ⟨x, hx, rfl⟩ := List.mem_map.mp ha
      obtain ⟨y, hy, hb⟩ := List.mem_flatMap.mp hb
      unfold edR at hb
      obtain ⟨z, hz, rfl⟩ := List.mem_map.mp hb
      exact .inl (h.1 y hy)
theorem ed_uniq {l m : List Ed} (hl : l.Pairwise fun a b => ltP (prOf a) (prOf b)) (hm : m.Pairwise fun a b => ltP (prOf a) (prOf b)) (h : ∀ x, x ∈ l ↔ x ∈ m) : l = m :=
  asc_uniq (R := fun a b => ltP (prOf a) (prOf b)) (fun a => ltP_irrefl _) (fun a b c => ltP_trans) hl hm h
/-- the edges of what was built are those of the drawn network -/
theorem built_edges {vs vs0 Ws : List Str} {es : EdD} {rt : Str} {sh es' : List Ed} {nb : Nb} {wt : Wt} (ok : NetOk vs es rt) (pv : vs0.Perm vs) (ps : sh.Perm (edS es)) (fl : Flips sh es') (pw : Ws.Perm vs0) (aw : Asc Ws) (ro : RowsOf vs0 es' nb wt) (an : ∀ u ∈ Ws, Asc (nb u)) : edL Ws nb wt = edS es := by
  have nd := ok.ed.nd
  have inS : ∀ u v n, (u, v, n) ∈ sh ↔ ((u, v), n) ∈ es := fun u v n => ps.mem_iff.trans (edS_mem nd)
  refine ed_uniq (edL_asc aw an) (edS_asc nd) fun ⟨u, v, n⟩ => ?_
  rw [edL_mem, edS_mem nd]
  constructor
  · rintro ⟨h1, h2, h3, rfl⟩
    have h1 := pw.mem_iff.mp h1
    obtain ⟨n, hn⟩ := (ro.mem u h1 v).mp h2
    rw [ro.val u h1 v n hn]
    have hn := (fl.adj u v n).mp hn
    rcases hn with hn | hn
    · exact (inS _ _ _).mp hn
    · obtain ⟨_, _, g3, _⟩ := ok.ed.mem _ ((inS _ _ _).mp hn)
      exact absurd h3 (ltS_asymm g3)
  · intro h
    obtain ⟨g1, g2, g3, _⟩ := ok.ed.mem _ h
    have g1' := pv.mem_iff.mpr g1
    have ad : Adj es' u v n := (fl.adj u v n).mpr (.inl ((inS u v n).mpr h))
    exact ⟨pw.mem_iff.mpr g1', (ro.mem u g1' v).mpr ⟨n, ad⟩, g3, (ro.val u g1' v n ad).symm⟩
theorem built_verts {vs vs0 Ws : List Str} {es : EdD} {rt : Str} (ok : NetOk vs es rt) (pv : vs0.Perm vs) (pw : Ws.Perm vs0) (aw : Asc Ws) : Ws = vs :=
  asc_uniq (R := ltS) ltS_irrefl (fun a b c => ltS_trans) aw ok.asc fun x => (pw.trans pv).mem_iff
end Wk
namespace Wk
open PySem PySem.Spec PyProof.Rows L2 WkD WkN LamX WkP WkE WkC
section
variable {P : Program} {w : World} {K : PySem.W.Frag} {mg : Str → Option Value} {base : Heap}
/-- the class Network -/
structure NetC (P : Program) (w : World) (K : PySem.W.Frag) (mg : Str → Option Value) (base : Heap) (T : List (Addr × Str)) (C fG : Addr) : Prop where
  nc : NCls K C C fG
  make : MakeC P w K mg base CX0 C "Network" 6 (spNet K T C fG)
  pv : PropC P w K mg base CX0 C "vertices" 1 (spVertices K)
  pe : PropC P w K mg base CX0 C "edges" 1 (spEdges K)
  pr : PropC P w K mg base CX0 C "root" 1 (spRoot K)
  pl : LenC P w K mg base C 1 (spLen K)
theorem NetC.cls {T : List (Addr × Str)} {C fG : Addr} (h : NetC P w K mg base T C fG) : Cls K C := h.nc.g.cls
theorem perm_map {α β : Type} {f : α → β} : ∀ {ys xs : List β}, ys.Perm xs → ∀ {m : List α}, xs = m.map f → ∃ m' : List α, ys = m'.map f ∧ m'.Perm m := by
  intro ys xs h
  induction h with
  | nil =>
    intro m e
    have := List.map_eq_nil_iff.mp e.symm
    exact ⟨[], rfl, by rw [this]⟩
  | cons x _ ih =>
    intro m e
    cases m with
    | nil => cases e
    | cons a r =>
      rw [List.map_cons, List.cons.injEq] at e
      obtain ⟨m', h1, h2⟩ := ih e.2
      exact ⟨a :: m', by rw [List.map_cons, h1, e.1], h2.cons a⟩
  | swap x y l =>
    intro m e
    match m, e with
    | a :: b :: r, e =>
      rw [List.map_cons, List.map_cons, List.cons.injEq, List.cons.injEq] at e
      exact ⟨b :: a :: r, by rw [List.map_cons, List.map_cons, e.1, e.2.1, e.2.2], .swap a b r⟩
  | trans _ _ ih1 ih2 =>
    intro m e
    obtain ⟨m1, h1, p1⟩ := ih2 e
    obtain ⟨m2, h2, p2⟩ := ih1 h1
    exact ⟨m2, h2, p2.trans p1⟩
theorem EdsAt.perm {H : Hp} {rs rs' : List Addr} {es : List Ed} (h : EdsAt K H rs es) (p : rs'.Perm rs) : ∃ sh, sh.Perm es ∧ EdsAt K H rs' sh := by
  have e : rs = (rs.zip es).map Prod.fst := by rw [List.map_fst_zip (by rw [h.1]; exact Nat.le_refl _)]
  obtain ⟨zs, h1, h2⟩ := perm_map p e
  refine ⟨zs.map Prod.snd, ?_, by rw [h1, List.length_map, List.length_map], fun i r d g1 g2 => ?_⟩
  · have := h2.map Prod.snd
    rw [List.map_snd_zip (by rw [h.1]; exact Nat.le_refl _)] at this
    exact this
  · rw [h1, List.getElem?_map] at g1
    rw [List.getElem?_map] at g2
    cases hz : zs[i]? with
    | none =>
      rw [hz] at g1
      cases g1
    | some z =>
      rw [hz] at g1 g2
      cases g1
      cases g2
      obtain ⟨j, hj⟩ := List.getElem?_of_mem (h2.mem_iff.mp (List.mem_of_getElem? hz))
      obtain ⟨k1, k2⟩ := List.getElem?_zip_eq_some.mp hj
      exact h.2 j _ _ k1 k2
/-- what is never changed: instances, what is known, tuples -/
def Stay : HO → Prop
  | .ins _ _ _ => True
  | .frz _ _ => True
  | .tup _ => True
  | _ => False
abbrev StayE (H H' : Hp) : Prop := ∀ b o, H b = some o → Stay o → H' b = some o
theorem StayE.trans {H H1 H2 : Hp} (a : StayE H H1) (b : StayE H1 H2) : StayE H H2 := fun c o h s => b c o (a c o h s) s
theorem StayE.of {H H' : Hp} (e : Same H H') : StayE H H' := fun b o h _ => e b o h
theorem StayE.but {H H' : Hp} {p cs : Addr} {N : Nat} (b : But p H H') (P : Pen H p cs N) : StayE H H' := fun c o h s => b c o h (by
  obtain ⟨⟨t, r, h1, _⟩, _⟩ := P
  intro z
  rw [z, h1] at h
  cases h
  exact s)
theorem StayE.upd {H : Hp} {p : Addr} {o o' : HO} (h : H p = some o) (n : ¬ Stay o) : StayE H (upd H p o') := fun c u hc s => by
  rw [upd_ne (ne_of hc h (by intro z; rw [z] at s; exact n s))]
  exact hc
/-- a network that was built -/
structure House (H : Hp) (x C : Addr) (vs : List Str) (es : EdD) (t : Str) : Prop where
  ex : ∃ (dx p : Addr) (fs : List (Str × V)) (ad : Str → Addr) (nb : Nb) (wt : Wt), H x = some (.ins C dx fs) ∧ fs.lookup ("around" : Str) = some (.ref p) ∧ fs.lookup ("top" : Str) = some (.str t) ∧ RowsZ H p vs ad nb wt ∧ (∀ u ∈ vs, (nb u).length ≤ 1000) ∧ edL vs nb wt = edS es
theorem House.stay {H H' : Hp} {x C : Addr} {vs : List Str} {es : EdD} {t : Str} (h : House H x C vs es t) (e : StayE H H') : House H' x C vs es t := by
  obtain ⟨dx, p, fs, ad, nb, wt, h1, h2, h3, h4, h5⟩ := h.ex
  refine ⟨dx, p, fs, ad, nb, wt, e _ _ h1 trivial, h2, h3, ⟨?_, fun u hu => ?_⟩, h5⟩
  · obtain ⟨o, g⟩ := h4.top
    exact ⟨o, e _ _ g trivial⟩
  · obtain ⟨o, g⟩ := h4.row u hu
    exact ⟨o, e _ _ g trivial⟩
def spLawT (K : PySem.W.Frag) (T : List (Addr × Str)) : Sp := fun vs H Q _ => ∃ (a : Addr) (ns : List Int), vs = [.ref a] ∧ SqL K H a (ns.map V.int) ∧ ns.length ≤ 63 ∧ Tabs T H ∧ ∀ H', Q (.bl true) H'
theorem Pen.ext {H H' : Hp} {p cs : Addr} {N : Nat} (P : Pen H p cs N) (s : Ext H H') : Pen H' p cs N := by
  obtain ⟨⟨t, r, h1, h2⟩, ns, h3, h4⟩ := P
  exact ⟨⟨t, r, s _ _ h1 (fun ps z => by cases z), h2⟩, ns, s _ _ h3 (fun ps z => by cases z), h4⟩
theorem NetAt.ext {H H' : Hp} {q va ea : Addr} {vs : List Str} {es : EdD} {rt : Str} (n : NetAt H q va ea vs es rt) (s : Ext H H') : NetAt H' q va ea vs es rt := ⟨s _ _ n.top (fun ps z => by cases z), s _ _ n.ver (fun ps z => by cases z), s _ _ n.edg (fun ps z => by cases z), n.ok⟩
theorem stay_notab {o : HO} (s : Stay o) : ∀ ps, o ≠ .tbl ps := fun ps z => by
  rw [z] at s
  exact s
theorem Ext.stay {H H' : Hp} (e : Ext H H') : StayE H H' := fun b o h s => e b o h (stay_notab s)
theorem tupS {H H' : Hp} {r : Addr} {xs : List V} (e : StayE H H') (h : SqT K H r xs) : SqT K H' r xs := by
  rcases h with (h | ⟨o, h⟩) | h
  · exact .inl (.inl (e _ _ h trivial))
  · exact .inl (.inr ⟨o, e _ _ h trivial⟩)
  · exact .inr h
theorem edsS {H H' : Hp} {rs : List Addr} {es : List Ed} (e : StayE H H') (h : EdsAt K H rs es) : EdsAt K H' rs es := ⟨h.1, fun i r d g1 g2 => tupS e (h.2 i r d g1 g2)⟩
end
end Wk
namespace Wk
open PySem PySem.Spec PyProof.Rows L2 WkD WkN LamX WkP WkE
/-- rows of a graph -/
structure GOk (Vs : List Str) (nb : Nb) (wt : Wt) : Prop where
  nm : ∀ u ∈ Vs, nameB u = true
  nd : Vs.Nodup
  two : 2 ≤ Vs.length
  few : Vs.length ≤ 40
  sym : Sym Vs nb wt
  wts : ∀ u ∈ Vs, ∀ v ∈ nb u, 1 ≤ wt u v ∧ wt u v ≤ 1000000000
  con : ∀ s ∈ Vs, ∀ u ∈ Vs, Rch nb s u
theorem Rch.mono {nb nb' : Nb} {s u : Str} {Vs : List Str} (hs : s ∈ Vs) (cl : ∀ u ∈ Vs, ∀ v ∈ nb u, v ∈ Vs) (k : ∀ u ∈ Vs, ∀ v ∈ nb u, v ∈ nb' u) (h : Rch nb s u) : u ∈ Vs ∧ Rch nb' s u := by
  induction h with
  | here => exact ⟨hs, .here⟩
  | go _ e ih => exact ⟨cl _ ih.1 _ e, .go ih.2 (k _ ih.1 _ e)⟩
theorem edL_adj {Vs : List Str} {nb : Nb} {wt : Wt} (sy : Sym Vs nb wt) {u v : Str} {n : Int} (hu : u ∈ Vs) : Adj (edL Vs nb wt) u v n ↔ v ∈ nb u ∧ n = wt u v := by
  unfold Adj
  rw [edL_mem, edL_mem]
  constructor
  · rintro (⟨_, h2, _, h4⟩ | ⟨h1, h2, _, h4⟩)
    · exact ⟨h2, h4⟩
    · obtain ⟨_, _, g3, g4⟩ := sy.mem v h1 u h2
      exact ⟨g3, by rw [g4, h4]⟩
  · rintro ⟨h1, h2⟩
    obtain ⟨g1, g2, g3, g4⟩ := sy.mem u hu v h1
    rcases ltS_tri u v with h | h | h
    · exact .inl ⟨hu, h1, h, h2⟩
    · exact absurd h.symm g2
    · exact .inr ⟨g1, g3, h, by rw [g4]; exact h2⟩
theorem edL_nodup {Vs : List Str} {nb : Nb} {wt : Wt} (nd : Vs.Nodup) (sy : Sym Vs nb wt) : ((edL Vs nb wt).map prOf).Nodup := by
  unfold edL
  have key : ∀ l : List Str, l.Nodup → (∀ u ∈ l, (nb u).Nodup) → ((l.flatMap fun u => edR nb wt u (nb u)).map prOf).Nodup := fun l => by
    induction l with
    | nil =>
      intro _ _
      exact List.nodup_nil
    | cons u r ih =>
      intro h1 h2
      rw [List.nodup_cons] at h1
      rw [List.flatMap_cons, List.map_append, List.nodup_append]
      refine ⟨?_, ih h1.2 fun v hv => h2 v (List.mem_cons_of_mem _ hv), fun a ha b hb e => ?_⟩
      · unfold edR
        rw [List.map_map, List.nodup_iff_pairwise_ne, List.pairwise_map]
        have := (h2 u List.mem_cons_self).filter fun v => decide (ltS u v)
        exact this.imp fun {a b} q e => q (congrArg Prod.snd e)
      · obtain ⟨x, hx, rfl⟩ := List.mem_map.mp ha
        obtain ⟨y, hy, rfl⟩ := List.mem_map.mp hb
        unfold edR at hx
        obtain ⟨x', _, rfl⟩ := List.mem_map.mp hx
        obtain ⟨z, hz, hy⟩ := List.mem_flatMap.mp hy
        unfold edR at hy
        obtain ⟨y', _, rfl⟩ := List.mem_map.mp hy
        have e : u = z := congrArg Prod.fst e
        exact h1.1 (e ▸ hz)
  exact key Vs nd sy.nd
theorem GOk.valid {Vs : List Str} {nb : Nb} {wt : Wt} (g : GOk Vs nb wt) : Valid Vs (edL Vs nb wt) := by
  have snd := edL_nodup (wt := wt) g.nd g.sym
  refine ⟨g.nm, g.nd, g.two, g.few, fun i a b n h => ?_, fun nb' wt' ro s hs u hu => ?_⟩
  · have hm := List.mem_of_getElem? h
    obtain ⟨h1, h2, h3, rfl⟩ := edL_mem.mp hm
    obtain ⟨g1, g2, _, _⟩ := g.sym.mem a h1 b h2
    obtain ⟨w1, w2⟩ := g.wts a h1 b h2
    refine ⟨h1, g1, Ne.symm g2, w1, w2, fun m ha => ?_⟩
    have tkk : ∀ x y, (x, y, m) ∈ (edL Vs nb wt).take i → ∃ j, j < i ∧ (edL Vs nb wt)[j]? = some (x, y, m) := fun x y hxy => by
      obtain ⟨j, hj⟩ := List.getElem?_of_mem hxy
      rw [List.getElem?_take] at hj
      split at hj
      · exact ⟨j, by assumption, hj⟩
      · cases hj
    rcases ha with ha | ha
    · obtain ⟨j, hj, hx⟩ := tkk _ _ ha
      have hi1 := (List.getElem?_eq_some_iff.mp h).1
      have hj1 := (List.getElem?_eq_some_iff.mp hx).1
      have q1 : ((edL Vs nb wt).map prOf)[i]'(by rw [List.length_map]; exact hi1) = (a, b) := by
        rw [List.getElem_map, (List.getElem?_eq_some_iff.mp h).2]
      have q2 : ((edL Vs nb wt).map prOf)[j]'(by rw [List.length_map]; exact hj1) = (a, b) := by
        rw [List.getElem_map, (List.getElem?_eq_some_iff.mp hx).2]
      have := (List.getElem_inj snd).mp (q1.trans q2.symm)
      omega
    · obtain ⟨j, hj, hx⟩ := tkk _ _ ha
      obtain ⟨_, _, k3, _⟩ := edL_mem.mp (List.mem_of_getElem? hx)
      exact ltS_asymm h3 k3
  · have cl : ∀ u ∈ Vs, ∀ v ∈ nb u, v ∈ Vs := fun u hu v hv => (g.sym.mem u hu v hv).1
    exact (Rch.mono (nb' := nb') hs cl (fun u hu v hv => (ro.mem u hu v).mpr ⟨_, (edL_adj g.sym hu).mpr ⟨hv, rfl⟩⟩) (g.con s hs u hu)).2
/-- rows that say the same -/
structure SameG (Vs : List Str) (nb : Nb) (wt : Wt) (nb' : Nb) (wt' : Wt) : Prop where
  mem : ∀ u ∈ Vs, ∀ v, v ∈ nb' u ↔ v ∈ nb u
  val : ∀ u ∈ Vs, ∀ v ∈ nb u, wt' u v = wt u v
theorem SameG.of_rows {Vs : List Str} {nb nb' : Nb} {wt wt' : Wt} (sy : Sym Vs nb wt) (ro : RowsOf Vs (edL Vs nb wt) nb' wt') : SameG Vs nb wt nb' wt' := by
  refine ⟨fun u hu v => ?_, fun u hu v hv => ?_⟩
  · rw [ro.mem u hu v]
    constructor
    · rintro ⟨n, hn⟩
      exact ((edL_adj sy hu).mp hn).1
    · intro hv
      exact ⟨_, (edL_adj sy hu).mpr ⟨hv, rfl⟩⟩
  · exact ro.val u hu v _ ((edL_adj sy hu).mpr ⟨hv, rfl⟩)
theorem SameG.gok {Vs Ws : List Str} {nb nb' : Nb} {wt wt' : Wt} (h : SameG Vs nb wt nb' wt') (g : GOk Vs nb wt) (pm : Ws.Perm Vs) (nd : ∀ u ∈ Ws, (nb' u).Nodup) : GOk Ws nb' wt' := by
  have ln := pm.length_eq
  have cl : ∀ u ∈ Vs, ∀ v ∈ nb u, v ∈ Vs := fun u hu v hv => (g.sym.mem u hu v hv).1
  refine ⟨fun u hu => g.nm u (pm.mem_iff.mp hu), pm.nodup_iff.mpr g.nd, by rw [ln]; exact g.two, by rw [ln]; exact g.few, ⟨nd, fun u hu v hv => ?_⟩, fun u hu v hv => ?_, fun s hs u hu => ?_⟩
  · have hu := pm.mem_iff.mp hu
    have hv := (h.mem u hu v).mp hv
    obtain ⟨g1, g2, g3, g4⟩ := g.sym.mem u hu v hv
    exact ⟨pm.mem_iff.mpr g1, g2, (h.mem v g1 u).mpr g3, by rw [h.val v g1 u g3, h.val u hu v hv, g4]⟩
  · have hu := pm.mem_iff.mp hu
    have hv := (h.mem u hu v).mp hv
    rw [h.val u hu v hv]
    exact g.wts u hu v hv
  · have hs := pm.mem_iff.mp hs
    have hu := pm.mem_iff.mp hu
    exact (Rch.mono (nb' := nb') hs cl (fun u hu v hv => (h.mem u hu v).mpr hv) (g.con s hs u hu)).2
/-- edges are told by the rows -/
theorem SameG.edges {Vs Ws : List Str} {nb nb' : Nb} {wt wt' : Wt} (h : SameG Vs nb wt nb' wt') (pm : Ws.Perm Vs) (e : Ed) : e ∈ edL Ws nb' wt' ↔ e ∈ edL Vs nb wt := by
  obtain ⟨u, v, n⟩ := e
  rw [edL_mem, edL_mem]
  constructor
  · rintro ⟨h1, h2, h3, rfl⟩
    have h1 := pm.mem_iff.mp h1
    have h2 := (h.mem u h1 v).mp h2
    exact ⟨h1, h2, h3, h.val u h1 v h2⟩
  · rintro ⟨h1, h2, h3, rfl⟩
    exact ⟨pm.mem_iff.mpr h1, (h.mem u h1 v).mpr h2, h3, (h.val u h1 v h2).symm⟩
end Wk
namespace Wk
open PySem PySem.Spec PyProof.Rows L2 WkD WkN LamX WkP WkE WkC
section
variable {P : Program} {w : World} {K : PySem.W.Frag} {mg : Str → Option Value} {base : Heap}
/-! ### graph_of -/
/-- rows that are known, or our own -/
def RowsX (b : Bool) (H : Hp) (a : Addr) (Vs : List Str) (ad : Str → Addr) (nb : Nb) (wt : Wt) : Prop := match b with
  | true => RowsZ H a Vs ad nb wt
  | false => RowsM H a Vs ad nb wt
/-- the rows of our own are known from now on -/
theorem rows_fz {b : Bool} {H : Hp} {a : Addr} {Vs : List Str} {ad : Str → Addr} {nb : Nb} {wt : Wt} {Q : Hp → Prop} (R : RowsX b H a Vs ad nb wt) (k : ∀ H', RowsZ H' a Vs ad nb wt → (∀ c o, H c = some o → (b = false → c ≠ a ∧ ∀ u ∈ Vs, c ≠ ad u) → H' c = some o) → Q H') : ∃ l, tFz l Q H := by
  cases b with
  | true => exact ⟨[], k H R fun c o h _ => h⟩
  | false =>
    have R : RowsM H a Vs ad nb wt := R
    refine ⟨(a, .dK (dct Vs fun u => .ref (ad u))) :: Vs.map fun u => (ad u, .dK (dct (nb u) fun v => .int (wt u v))), tFz_intro (fun p hp => ?_) ?_ fun H' h1 h2 => k H' ⟨?_, fun u hu => ?_⟩ fun c o hc hn => ?_⟩
    · rcases List.mem_cons.mp hp with rfl | hp
      · exact ⟨R.top, trivial⟩
      · obtain ⟨u, hu, rfl⟩ := List.mem_map.mp hp
        exact ⟨R.row u hu, trivial⟩
    · rw [List.map_cons, List.map_map, List.nodup_cons]
      refine ⟨fun z => ?_, ?_⟩
      · obtain ⟨u, hu, e⟩ := List.mem_map.mp z
        exact R.ne hu e
      · have := R.nd
        rw [List.nodup_iff_pairwise_ne] at this ⊢
        rw [List.pairwise_map]
        exact List.Pairwise.imp_of_mem (fun {u v} hu hv hne e => hne (R.inj u hu v hv e)) this
    · exact h1 (a, _) List.mem_cons_self
    · exact h1 (ad u, _) (List.mem_cons_of_mem _ (List.mem_map.mpr ⟨u, hu, rfl⟩))
    · obtain ⟨n1, n2⟩ := hn rfl
      rw [h2 c fun z => ?_]
      · exact hc
      · rw [List.map_cons, List.map_map] at z
        rcases List.mem_cons.mp z with z | z
        · exact n1 z
        · obtain ⟨u, hu, e⟩ := List.mem_map.mp z
          exact n2 u hu e.symm
/-- a new graph at x: these rows in ascending order, the root the least -/
structure GraphAt (H : Hp) (x C : Addr) (Ws : List Str) (nb : Nb) (wt : Wt) : Prop where
  ex : ∃ (dx p : Addr) (t : Str) (ad : Str → Addr), H x = some (.ins C dx [("around", .ref p), ("top", .str t)]) ∧ RowsZ H p Ws ad nb wt
  asc : Asc Ws
  an : ∀ u ∈ Ws, Asc (nb u)
def spGraphOf (C : Addr) : Sp := fun vs H Q _ => ∃ (a : Addr) (b : Bool) (Vs : List Str) (ad : Str → Addr) (nb : Nb) (wt : Wt), vs = [.ref a] ∧ RowsX b H a Vs ad nb wt ∧ GOk Vs nb wt ∧
  ∀ x Ws nb' wt' H', (∀ c o, H c = some o → (b = false → c ≠ a ∧ ∀ u ∈ Vs, c ≠ ad u) → H' c = some o) → H x = none → GraphAt H' x C Ws nb' wt' → Ws.Perm Vs → SameG Vs nb wt nb' wt' → Q (.ref x) H'
theorem sc_graph_of : FnScope ["around", "edges", "u", "row", "v", "weight"] ["around"] (defScope s_graph_of) := ⟨rfl, rfl, rfl, by decide +kernel, rfl, by decide +kernel, by decide +kernel⟩
theorem c_graph_of {CG : Addr} (D : Def K mg "graph_of" s_graph_of) (B : Bi mg) (gc : GCls K CG) (GC : MakeC P w K mg base CX0 CG "Graph" 3 (spGraph K)) : Callee P w K mg base CX0 5 "graph_of" ["around"] (spGraphOf CG) := by
  obtain ⟨f, fd, F, g⟩ := D
  refine ⟨f, fd, F.ok sc_graph_of (fun vs H Q E h => ?_) (fun cdv A outer s H vs Q E hr h => ?_), g, F.kp, F.bindsN (fun _ _ _ _ _ _ us hl => match us, hl with | [_], _ => rfl)⟩
  · obtain ⟨a, b, Vs, ad, nb, wt, rfl, _⟩ := h
    rfl
  have nd := sc_graph_of.nd
  have hr4 : Room 4 _ := hr
  refine ⟨_, PSs.nox (pss_cons (WkD.ps_fz0 (ps_setLc2 (i := 1) (own := [("u", 2), ("row", 3), ("v", 4), ("weight", 5)]) (vs1 := [4, 5]) (by rfl) nd rfl rfl (sw_true rfl rfl rfl (by decide +kernel)) (pi_items (pv 0)) (blkOk_by (by kernel_rfl)) (by decide) (fun _ _ _ _ _ => (WkN.pgT K 2 rfl rfl (pgs_cons (pg_name (i := 2) nd rfl (Or.inl rfl)) (pgs_cons (pg_name (i := 3) nd rfl (Or.inl rfl)) pgs_nil)) rfl)) (fun _ _ _ _ _ => pts_nil) (fun _ _ _ _ _ => (pi_items (pv 3))) (fun _ _ _ _ _ => (WkN.pgT K 2 rfl rfl (pgs_cons (pg_name (i := 4) nd rfl (Or.inl rfl)) (pgs_cons (pg_name (i := 5) nd rfl (Or.inl rfl)) pgs_nil)) rfl)) (fun _ _ _ _ _ => (pts_one (pt_cmpR op_lt_str (pv 2) (pv 4) (nomark _)))) (fun _ _ _ _ _ => (pe_tup (pa_cons (pv 2) (pa_cons (pv 4) (pa_cons (pv 5) pa_nil)))))))
      (pss_one (ps_ret (WkC.pe_mk GC hr4 pass0 (pa_cons (pe_callTy (call_listD rfl) (by rfl) B.n_list (by decide +kernel) (pa_cons (pv 0) pa_nil)) (pa_cons (pv 1) pa_nil)))))), ?_⟩
  obtain ⟨a, b, Vs, ad, nb, wt, rfl, R0, go, k⟩ := h
  refine rows_fz R0 fun H0 R k0 => ?_
  obtain ⟨o, ht⟩ := R.top
  have big : 2000000 < sizeLine := by decide
  have l1 := go.few
  have l2 : ∀ u ∈ Vs, (nb u).length ≤ 1000 := fun u hu => by
    have : (nb u).length ≤ Vs.length := (go.sym.nd u hu).length_le_of_subset fun y hy => (go.sym.mem u hu y hy).1
    omega
  refine ⟨_, rfl, a, o, _, rfl, ht, fun D nD => ?_⟩
  refine in_it (walk_items (kvs := dct Vs fun u => .ref (ad u))) (fun i Hc => ∃ rs : List Addr, Same H0 Hc ∧ Hc D = some (.lst (rs.map V.ref)) ∧ EdsAt K Hc rs (edL (Vs.take i) nb wt) ∧ rs.length ≤ 1000 * i)
    ⟨[], same_upd nD, upd_same, ⟨rfl, fun i r e h => absurd h (by simp)⟩, by simp⟩ ?_ ?_ ?_
  · rintro i Hc hi ⟨rs, q1, q2, q3, q4⟩
    exact q1 _ _ ht
  · rintro i x Hc Hc' hi ⟨rs, q1, q2, q3, q4⟩ ⟨T, kx, vx, rfl, nT, rfl, hkx, hvx⟩
    rw [dct_len] at hi
    dsimp only at hkx hvx
    rw [dct_at, List.getElem?_eq_getElem hi] at hkx hvx
    cases hkx
    cases hvx
    obtain ⟨u, eu⟩ : ∃ u, u = Vs[i] := ⟨_, rfl⟩
    have hu : u ∈ Vs := eu ▸ List.getElem_mem hi
    have tk := takeS (List.getElem?_eq_getElem hi)
    rw [← eu] at tk
    have s1 : Same H0 (upd Hc T (.tup [.str u, .ref (ad u)])) := q1.trans (same_upd nT)
    have D1 := (same_upd (o := .tup [.str u, .ref (ad u)]) nT) _ _ q2
    have E1 := q3.same (same_upd (o := .tup [.str u, .ref (ad u)]) nT)
    have P1 : upd Hc T (.tup [.str u, .ref (ad u)]) T = some (.tup [.str u, .ref (ad u)]) := upd_same
    rw [← eu]
    show gTup _ _ _ _ _ (upd Hc T (.tup [.str u, .ref (ad u)])) _
    generalize upd Hc T (.tup [.str u, .ref (ad u)]) = H1 at s1 D1 E1 P1
    refine ⟨T, _, rfl, .inl (.inl P1), rfl, _, _, rfl, _, _, rfl, rfl, rfl, tYes_if ?_⟩
    obtain ⟨o2, hr2⟩ := R.row u hu
    refine ⟨_, rfl, ad u, o2, _, rfl, s1 _ _ hr2, ?_⟩
    have ln := l2 u hu
    refine in_it (walk_items (kvs := dct (nb u) fun v => .int (wt u v))) (fun j Hc => ∃ rs : List Addr, Same H0 Hc ∧ Hc D = some (.lst (rs.map V.ref)) ∧ EdsAt K Hc rs (edL (Vs.take i) nb wt ++ edR nb wt u ((nb u).take j)) ∧ rs.length ≤ 1000 * i + j)
      ⟨rs, s1, D1, by simpa [edR] using E1, by omega⟩ ?_ ?_ ?_
    · rintro j Hc hj ⟨rs, q1, q2, q3, q4⟩
      exact q1 _ _ hr2
    · rintro j x Hc Hc' hj ⟨rs, q1, q2, q3, q4⟩ ⟨T2, kx, vx, rfl, nT2, rfl, hkx, hvx⟩
      rw [dct_len] at hj
      dsimp only at hkx hvx
      rw [dct_at, List.getElem?_eq_getElem hj] at hkx hvx
      cases hkx
      cases hvx
      obtain ⟨v, ev⟩ : ∃ v, v = (nb u)[j] := ⟨_, rfl⟩
      have tk2 := takeS (List.getElem?_eq_getElem hj)
      rw [← ev] at tk2 ⊢
      have s1 : Same H0 (upd Hc T2 (.tup [.str v, .int (wt u v)])) := q1.trans (same_upd nT2)
      have D1 := (same_upd (o := .tup [.str v, .int (wt u v)]) nT2) _ _ q2
      have E1 := q3.same (same_upd (o := .tup [.str v, .int (wt u v)]) nT2)
      have P1 : upd Hc T2 (.tup [.str v, .int (wt u v)]) T2 = some (.tup [.str v, .int (wt u v)]) := upd_same
      show gTup _ _ _ _ _ (upd Hc T2 (.tup [.str v, .int (wt u v)])) _
      generalize upd Hc T2 (.tup [.str v, .int (wt u v)]) = H1 at s1 D1 E1 P1
      refine ⟨T2, _, rfl, .inl (.inl P1), rfl, _, _, rfl, _, _, rfl, rfl, rfl, ?_⟩
      have ef : edR nb wt u ((nb u).take (j + 1)) = edR nb wt u ((nb u).take j) ++ (if ltS u v then [(u, v, wt u v)] else []) := by
        rw [tk2]
        unfold edR
        rw [List.filter_append, List.map_append]
        congr 1
        by_cases h : ltS u v
        · simp [h]
        · simp [h]
      refine ⟨_, rfl, _, rfl, _, _, rfl, rfl, _, rfl, ite2 (fun hb => ?_) (fun hb => ?_)⟩
      · have hb : ltS u v := of_decide_eq_true hb
        refine ⟨_, rfl, _, rfl, _, rfl, by show 3 ≤ sizeLine; decide, fun p np => ?_⟩
        have D2 := (same_upd (o := .tup [.str u, .str v, .int (wt u v)]) np) _ _ D1
        refine ⟨_, D2, by rw [List.length_map]; omega, rs ++ [p], ?_, ?_, ?_, ?_⟩
        · intro b o hb
          rw [upd_ne (ne_of_none hb nD)]
          exact (same_upd np) _ _ (s1 _ _ hb)
        · rw [upd_same, List.map_append]
          rfl
        · rw [ef, if_pos hb, ← List.append_assoc]
          have npD : p ≠ D := fun z => by
            rw [z, D1] at np
            cases np
          have E2 : EdsAt K (upd (upd H1 p (.tup [.str u, .str v, .int (wt u v)])) D (.lst (rs.map V.ref ++ [.ref p]))) rs (edL (Vs.take i) nb wt ++ edR nb wt u ((nb u).take j)) := by
            refine ⟨E1.1, fun i r e h1 h2 => ?_⟩
            have z := WkG.seqT_same (same_upd (o := .tup [.str u, .str v, .int (wt u v)]) np) (E1.2 i r e h1 h2)
            rcases z with (z | ⟨o, z⟩) | z
            · exact .inl (.inl (by rw [upd_ne (ne_of z D2 (by intro q; cases q))]; exact z))
            · exact .inl (.inr ⟨o, by rw [upd_ne (ne_of z D2 (by intro q; cases q))]; exact z⟩)
            · exact .inr z
          exact E2.snoc (fun _ _ h => h) (by rw [upd_ne npD, upd_same])
        · rw [List.length_append, List.length_singleton]
          omega
      · have hb : ¬ ltS u v := fun z => hb (decide_eq_true z)
        exact ⟨rs, s1, D1, by rw [ef, if_neg hb, List.append_nil]; exact E1, by omega⟩
    · rintro Hc ⟨rs, q1, q2, q3, q4⟩
      rw [dct_len] at q3 q4
      refine ⟨rs, q1, q2, ?_, by rw [Nat.mul_add]; omega⟩
      rw [List.take_length] at q3
      rw [tk]
      unfold edL at q3 ⊢
      rw [List.flatMap_append]
      simpa using q3
  · rintro Hc ⟨rs, q1, q2, q3, q4⟩
    rw [dct_len, List.take_length] at q3
    obtain ⟨oc, htc⟩ : ∃ oc, Hc a = some (.frz oc (.dK (dct Vs fun u => .ref (ad u)))) := ⟨o, q1 _ _ ht⟩
    refine ⟨_, rfl, a, _, rfl, .inr ⟨oc, htc⟩, fun p1 n1 => ?_⟩
    rw [dct_kV]
    generalize gg1 : upd _ p1 _ = G1; obtain ⟨s1, L1⟩ := new_eq n1 gg1; clear gg1
    refine ⟨_, rfl, ?_⟩
    intro x dx nx ndx nex
    have s2 : Same G1 (upd G1 dx (.own x)) := same_upd ndx
    have nx1 : upd G1 dx (.own x) x = none := by rw [upd_ne (Ne.symm nex)]; exact nx
    have s3 := s2.trans (same_upd (o := .ins CG dx []) nx1)
    refine ⟨x, CG, dx, p1, D, true, true, Vs, _, rs, rfl, upd_same, gc, (s3.seq (SqL.of L1) : SqL K _ p1 _), (s3.seq (SqL.of (s1 _ _ q2)) : SqL K _ D _), (q3.same s1).same s3, go.valid, fun p Ws bd nb' wt' t H' kH np hx' rz pm as ro an ht' hmin => ⟨rfl, ?_⟩⟩
    have nxH0 : H0 x = none := np_of (q1.trans s1) nx
    have nxH : H x = none := by
      cases z : H x with
      | none => rfl
      | some ob =>
        by_cases e : b = false ∧ (x = a ∨ ∃ u ∈ Vs, x = ad u)
        · obtain ⟨_, e | ⟨u, hu, e⟩⟩ := e
          · rw [e, ht] at nxH0
            cases nxH0
          · obtain ⟨o2, h2⟩ := R.row u hu
            rw [e, h2] at nxH0
            cases nxH0
        · rw [k0 x ob z fun hb => ⟨fun e1 => e ⟨hb, .inl e1⟩, fun u hu e1 => e ⟨hb, .inr ⟨u, hu, e1⟩⟩⟩] at nxH0
          cases nxH0
    refine k x Ws nb' wt' H' (fun c ob hc hn => ?_) nxH ⟨⟨dx, p, t, bd, hx', rz⟩, as, an⟩ pm (SameG.of_rows go.sym ro)
    refine kH c ob (s3 _ _ (s1 _ _ (q1 _ _ (k0 c ob hc hn)))) (ne_of_none hc nxH)
/-! ### networks -/
/-- what is asked of a class of networks -/
structure FCls (K : PySem.W.Frag) (C : Addr) : Prop where
  cls : Cls K C
  na : NoAttr K C "around"
  nt : NoAttr K C "top"
  nf : NoAttr K C "found"
  nm : NoAttr K C "made"
  ne : NoAttr K C "entries"
  nr : NoAttr K C "running"
  ns : NoAttr K C "since"
theorem NCls.f {C D fG : Addr} (h : NCls K C D fG) : FCls K C := ⟨h.g.cls, h.g.na, h.g.nt, h.nf, h.nm, h.ne, h.nr, h.ns⟩
def RestOk (rest : List (Str × V)) : Prop := rest = [] ∨ ∃ v, rest = [(("least" : Str), v)]
theorem RestOk.no {rest : List (Str × V)} (h : RestOk rest) {m : Str} (hm : (m == ("least" : Str)) = false) : rest.lookup m = none := by
  rcases h with rfl | ⟨v, rfl⟩
  · rfl
  · rw [List.lookup_cons, hm]
    rfl
theorem RestOk.len {rest : List (Str × V)} (h : RestOk rest) : rest.length ≤ 1 := by
  rcases h with rfl | ⟨v, rfl⟩
  · exact Nat.zero_le _
  · exact Nat.le_refl _
/-- a network at x -/
structure NetO (H : Hp) (x C : Addr) (rest : List (Str × V)) (vs : List Str) (nb : Nb) (wt : Wt) (t : Str) (n : Int) (m e : Addr) (r s : Int) : Prop where
  ex : ∃ (dx p : Addr) (ad : Str → Addr), H x = some (.ins C dx (netF p t n m e r s ++ rest)) ∧ RowsZ H p vs ad nb wt
  rst : RestOk rest
  asc : Asc vs
  an : ∀ u ∈ vs, Asc (nb u)
  gok : GOk vs nb wt
  lc : ∃ ms, LeastCut vs nb wt n ms
  rt : t ∈ vs
theorem tabs_rows {T : List (Addr × Str)} {b : Bool} {H H' : Hp} {a : Addr} {Vs : List Str} {ad : Str → Addr} {nb : Nb} {wt : Wt} (R : RowsX b H a Vs ad nb wt) (t : Tabs T H) (k : ∀ c o, H c = some o → (b = false → c ≠ a ∧ ∀ u ∈ Vs, c ≠ ad u) → H' c = some o) : Tabs T H' := fun p hp => by
  obtain ⟨ps, h1, h2, h3⟩ := t p hp
  have no : ∀ c o, H c = some o → (∀ kvs, o ≠ .dK kvs) → H' c = some o := fun c o h n => k c o h fun hb => by
    subst hb
    have R : RowsM H a Vs ad nb wt := R
    exact ⟨ne_of h R.top (n _), fun u hu => ne_of h (R.row u hu) (n _)⟩
  refine ⟨ps, no _ _ h1 (fun kvs z => by cases z), h2, fun pos cv hc => ?_⟩
  obtain ⟨c, e1, e2⟩ := h3 pos cv hc
  exact ⟨c, e1, no _ _ e2 (fun kvs z => by cases z)⟩
/-! ### check_strength -/
def spCk : Sp := fun vs H Q _ => ∃ (x : Addr) (n : Int), vs = [.ref x, .int n] ∧ Q .non H
theorem sc_ck : FnScope ["self", "strength"] ["self", "strength"] (defScope s_Network_check_strength) := ⟨rfl, rfl, rfl, by decide +kernel, rfl, by decide +kernel, by decide +kernel⟩
theorem ok_ck {f : Addr} {fd : FuncData} (F : FnP K "check_strength" "Network.check_strength" s_Network_check_strength f fd) : FnOk P w K mg base CX0 1 f fd ["self", "strength"] spCk := by
  refine F.ok sc_ck (fun vs H Q E h => ?_) (fun cdv A outer s H vs Q E hr h => ⟨_, PSs.nox (pss_one ps_pass), ?_⟩)
  · obtain ⟨x, n, rfl, _⟩ := h
    rfl
  · obtain ⟨x, n, rfl, k⟩ := h
    exact k
/-! ### accept -/
structure AccC (P : Program) (w : World) (K : PySem.W.Frag) (mg : Str → Option Value) (base : Heap) (C : Addr) : Prop where
  f : FCls K C
  ck : MethC P w K mg base CX0 C "check_strength" 1 spCk
theorem AccC.cls {C : Addr} (h : AccC P w K mg base C) : Cls K C := h.f.cls
/-- the network has changed, and rows of our own may be known now; all else stays -/
def AccE (b : Bool) (x a : Addr) (Vs : List Str) (ad : Str → Addr) (H H' : Hp) : Prop := ∀ c o, H c = some o → c ≠ x → (∀ ps, o ≠ .tbl ps) → (b = false → c ≠ a ∧ ∀ u ∈ Vs, c ≠ ad u) → H' c = some o
def spAccept (K : PySem.W.Frag) (T : List (Addr × Str)) (C : Addr) : Sp := fun vs H Q _ => ∃ (x ed a dx p m e : Addr) (rest : List (Str × V)) (t t0 : Str) (n r s : Int) (ms : List V) (b : Bool) (Vs : List Str) (ad : Str → Addr) (nb : Nb) (wt : Wt), vs = [.ref x, .ref ed, .ref a, .str t] ∧
  H x = some (.ins C dx (netF p t0 n m e r s ++ rest)) ∧ RestOk rest ∧ SqT K H m ms ∧ ms.length < 1000000 ∧ RowsX b H a Vs ad nb wt ∧ GOk Vs nb wt ∧ t ∈ Vs ∧ Tabs T H ∧
  ∀ Ws nb' wt' n' m' H', AccE b x a Vs ad H H' → Tabs T H' → NetO H' x C rest Ws nb' wt' t n' m' e r (s + 1) → H' m' = some (.tup (ms ++ [.ref ed])) → Ws.Perm Vs → SameG Vs nb wt nb' wt' → Q .non H'
theorem sc_accept : FnScope ["self", "edit", "around", "top", "graph", "strength"] ["self", "edit", "around", "top"] (defScope s_Network_accept) := ⟨rfl, rfl, rfl, by decide +kernel, rfl, by decide +kernel, by decide +kernel⟩
theorem ok_accept {f : Addr} {fd : FuncData} {CG C : Addr} {tbT : List (Addr × Str)} (F : FnP K "accept" "Network.accept" s_Network_accept f fd) (gc : GCls K CG) (NK : AccC P w K mg base C) (CG : Callee P w K mg base CX0 5 "graph_of" ["around"] (spGraphOf CG))
    (CS : Callee P w K mg base CX0 5 "strength_of" ["graph"] (spStrength K tbT)) : FnOk P w K mg base CX0 6 f fd ["self", "edit", "around", "top"] (spAccept K tbT C) := by
  refine F.ok sc_accept (fun vs H Q E h => ?_) (fun cdv A outer s H vs Q E hr h => ?_)
  · obtain ⟨x, ed, a, dx, p, m, e, rest, t, t0, n, r, s, ms, b, Vs, ad, nb, wt, rfl, _⟩ := h
    rfl
  have nd := sc_accept.nd
  have hr5 : Room 5 _ := hr
  have hr1 : Room 1 _ := hr.mono (by decide)
  refine ⟨_, PSs.nox (pss_cons (ps_set (i := 4) nd rfl (Or.inl rfl) (pe_c CG hr5 pass0 (pa_cons (pv 2) pa_nil)))
      (pss_cons (ps_set (i := 5) nd rfl (Or.inl rfl) (pe_c CS hr5 pass0 (pa_cons (pv 4) pa_nil)))
      (pss_cons (ps_expr (WkC.pe_mt NK.ck NK.cls hr1 pass0 (pv 0) (pa_cons (pv 5) pa_nil)))
      (pss_cons (ps_asg (pe_tup (pa_cons (pe_fld (pv 4) rfl) (pa_cons (pv 3) (pa_cons (pv 5) pa_nil)))) (WkN.pgT K 3 rfl rfl (pgs_cons (WkK.pg_at (pv 0)) (pgs_cons (WkK.pg_at (pv 0)) (pgs_cons (WkK.pg_at (pv 0)) pgs_nil))) rfl))
      (pss_cons (ps_fld (pv 0) (pe_tup (StX.pa_star (pe_fld (pv 0) rfl) (pa_cons (pv 1) pa_nil))) rfl)
      (pss_one (ps_fldaug (pv 0) pe_int in_add))))))), ?_⟩
  obtain ⟨x, ed, a, dx, p, m, e, rest, t, t0, n, r, s, ms, b, Vs, ad, nb, wt, rfl, hx, hre, hm, hml, R0, go, htV, hT, k⟩ := h
  have big : 10000000 < sizeLine := by decide
  have rlen := hre.len
  refine ⟨_, rfl, a, b, Vs, ad, nb, wt, rfl, R0, go, fun g Ws nb' wt' H1 k1 ng ga pm sg => ?_⟩
  obtain ⟨dg, pg, tg, bd, hg, rz⟩ := ga.ex
  have T1 := tabs_rows R0 hT k1
  have noD : ∀ c o, H c = some o → (∀ kvs, o ≠ .dK kvs) → b = false → c ≠ a ∧ ∀ u ∈ Vs, c ≠ ad u := fun c o h n hb => by
    subst hb
    have R : RowsM H a Vs ad nb wt := R0
    exact ⟨ne_of h R.top (n _), fun u hu => ne_of h (R.row u hu) (n _)⟩
  have hx1 := k1 _ _ hx (noD _ _ hx fun kvs z => by cases z)
  have go' := sg.gok go pm fun u hu => asc_nodup (ga.an u hu)
  have few := go'.few
  refine ⟨_, rfl, g, _, dg, _, pg, tg, Ws, bd, nb', wt', rfl, ⟨hg, gc.cls, gc.na, gc.nt, rfl, rfl⟩, rz, go'.nd, go'.sym, go'.two, by omega, T1, fun n' lm H2 e2 T2 lc => ?_⟩
  have hx2 := e2 _ _ hx1 (fun ps z => by cases z)
  have hg2 := e2 _ _ hg (fun ps z => by cases z)
  have rz2 := rz.ext e2
  refine ⟨_, rfl, x, dx, _, rfl, hx2, hre.no (by decide), _, rfl, x, n', rfl, ?_⟩
  refine ⟨_, rfl, g, _, dg, _, _, rfl, hg2, gc.cls, gc.na, rfl, _, rfl, _, rfl, by show 3 ≤ sizeLine; omega, fun p3 n3 => ?_⟩
  generalize gg3 : upd _ p3 _ = G3; obtain ⟨s3, L3⟩ := new_eq n3 gg3; clear gg3
  have hx3 := s3 _ _ hx2
  refine ⟨p3, _, rfl, .inl (.inl L3), rfl, _, _, rfl, _, rfl, x, C, dx, _, rfl, hx3, NK.f.cls, NK.f.na, by simp [netF]; omega, ?_⟩
  refine ⟨_, _, rfl, _, rfl, x, C, dx, _, rfl, upd_same, NK.f.cls, NK.f.nt, by show rest.length + 7 < 1000; omega, ?_⟩
  refine ⟨_, _, rfl, _, rfl, x, C, dx, _, rfl, upd_same, NK.f.cls, NK.f.nf, by show rest.length + 7 < 1000; omega, rfl, ?_⟩
  rw [upd_upd, upd_upd]
  have hx4 : upd G3 x (.ins C dx (putF "found" (.int n') (putF "top" (.str t) (putF "around" (.ref pg) (netF p t0 n m e r s ++ rest))))) x = some (.ins C dx (netF pg t n' m e r s ++ rest)) := upd_same
  have k4 : ∀ c o, G3 c = some o → c ≠ x → upd G3 x (.ins C dx (putF "found" (.int n') (putF "top" (.str t) (putF "around" (.ref pg) (netF p t0 n m e r s ++ rest))))) c = some o := fun c o h hne => by
    rw [upd_ne hne]
    exact h
  have T4 : Tabs tbT (upd G3 x (.ins C dx (putF "found" (.int n') (putF "top" (.str t) (putF "around" (.ref pg) (netF p t0 n m e r s ++ rest)))))) := tabs_upd (T2.ext s3) hx3 trivial
  generalize upd G3 x (.ins C dx (putF "found" (.int n') (putF "top" (.str t) (putF "around" (.ref pg) (netF p t0 n m e r s ++ rest))))) = H4 at hx4 k4 T4 ⊢
  have k04 : AccE b x a Vs ad H H4 := fun c o h hne nt hn => k4 c o (s3 _ _ (e2 _ _ (k1 c o h hn) nt)) hne
  have hm4 : SqT K H4 m ms := by
    rcases hm with (h | ⟨o, h⟩) | h
    · exact .inl (.inl (k04 _ _ h (ne_of h hx (by intro z; cases z)) (fun ps z => by cases z) (noD _ _ h fun kvs z => by cases z)))
    · exact .inl (.inr ⟨o, k04 _ _ h (ne_of h hx (by intro z; cases z)) (fun ps z => by cases z) (noD _ _ h fun kvs z => by cases z)⟩)
    · exact .inr h
  refine ⟨_, rfl, x, C, dx, _, _, rfl, hx4, NK.f.cls, NK.f.nm, rfl, m, ms, rfl, .inl hm4, _, rfl, by rw [List.length_append]; show ms.length + 1 ≤ sizeLine; omega, fun p5 n5 => ?_⟩
  generalize gg5 : upd _ p5 _ = G5; obtain ⟨s5, L5⟩ := new_eq n5 gg5; clear gg5
  have hx5 := s5 _ _ hx4
  have n5x : p5 ≠ x := Ne.symm (ne_of_none hx4 n5)
  refine ⟨_, rfl, x, C, dx, _, rfl, hx5, NK.f.cls, NK.f.nm, by simp [netF]; omega, ?_⟩
  refine ⟨_, rfl, x, C, dx, _, _, rfl, upd_same, NK.f.cls, NK.f.ns, rfl, _, _, rfl, rfl, _, _, upd_same, by show rest.length + 7 < 1000; omega, ?_⟩
  rw [upd_upd]
  refine k Ws nb' wt' n' p5 _ (fun c o h hne nt hn => ?_) (tabs_upd (T4.ext s5) hx5 trivial) ⟨⟨dx, pg, bd, upd_same, ?_⟩, hre, ga.asc, ga.an, go', ⟨_, lc⟩, pm.mem_iff.mpr htV⟩ ?_ pm sg
  · rw [upd_ne hne]
    exact s5 _ _ (k04 c o h hne nt hn)
  · have rz4 : RowsZ G5 pg Ws bd nb' wt' := by
      have z3 := rz2.ext (Ext.of s3)
      exact (ExtB.rz (x := x) (fun c o h hne _ => k4 c o h hne) z3 hx3).ext (Ext.of s5)
    exact ExtB.rz (x := x) (fun c o h hne _ => by rw [upd_ne hne]; exact h) rz4 hx5
  · rw [upd_ne n5x]
    exact L5
end
end Wk
namespace Wk
open PySem PySem.Spec PyProof.Rows L2 WkD WkN LamX WkP WkE WkC
section
variable {P : Program} {w : World} {K : PySem.W.Frag} {mg : Str → Option Value} {base : Heap}
/-! ### check_vertex -/
/-- a value: a text, or what is no text -/
def AnyV (K : PySem.W.Frag) (H : Hp) (x : V) : Prop := (∃ z, x = .str z ∧ z.length ≤ sizeLine) ∨ ((∀ z, x ≠ .str z) ∧ ∃ t, TyX K H x t ∧ PySem.W.kitOne K t (.type "str") = some false)
theorem tyx_same {H H' : Hp} {x : V} {t : Value} (e : Same H H') (h : TyX K H x t) : TyX K H' x t := by
  cases h with
  | base b =>
    cases b with
    | non => exact .base .non
    | bl b => exact .base (.bl b)
    | int i => exact .base (.int i)
    | str z => exact .base (.str z)
    | flt z => exact .base (.flt z)
    | lst h => exact .base (.lst (e _ _ h))
    | frz h => exact .base (.frz (e _ _ h))
    | tup h => exact .base (.tup (e _ _ h))
    | dK h => exact .base (.dK (e _ _ h))
    | dT h => exact .base (.dT (e _ _ h))
    | ins h q1 q2 q3 q4 q5 => exact .base (.ins (e _ _ h) q1 q2 q3 q4 q5)
  | byt b => exact .byt b
  | set h => exact .set (e _ _ h)
  | kList h c => exact .kList h c
  | kTuple h c => exact .kTuple h c
  | kDict h c => exact .kDict h c
  | fTuple h => exact .fTuple (e _ _ h)
  | fDict h => exact .fDict (e _ _ h)
/-- it is one of these names -/
def IsIn (x : V) (Vs : List Str) : Prop := ∃ z ∈ Vs, x = .str z
def spCheck (K : PySem.W.Frag) (CU : Addr) : Sp := fun vs H Q E => ∃ (g C dx : Addr) (fs : List (Str × V)) (a : Addr) (top : Str) (Vs : List Str) (ad : Str → Addr) (nb : Nb) (wt : Wt) (x : V), vs = [.ref g, x] ∧ GAt K H g C dx fs a top ∧ RowsZ H a Vs ad nb wt ∧ (∀ u ∈ Vs, nameB u = true) ∧ AnyV K H x ∧
  (IsIn x Vs → ∀ H', Same H H' → Q .non H') ∧ (¬ IsIn x Vs → ∀ d H', Same H H' → H d = none → H' d = some (.xd [("value", x)]) → E (.ref CU) (some d) H')
theorem sc_check_vertex : FnScope ["self", "value"] ["self", "value"] (defScope s_Graph_check_vertex) := ⟨rfl, rfl, rfl, by decide +kernel, rfl, by decide +kernel, by decide +kernel⟩
theorem ok_check_vertex {f CU fI : Addr} {fd : FuncData} (F : FnP K "check_vertex" "Graph.check_vertex" s_Graph_check_vertex f fd) (TU : WkX.ExcT K mg "UnknownVertex" "value" CU fI) (CN : Callee P w K mg base CX0 1 "is_name" ["value"] (spName K)) : FnOk P w K mg base (CX P w) 2 f fd ["self", "value"] (spCheck K CU) := by
  refine F.ok sc_check_vertex (fun vs H Q E h => ?_) (fun cdv A outer s H vs Q E hr h => ?_)
  · obtain ⟨g, C, dx, fs, a, top, Vs, ad, nb, wt, x, rfl, _⟩ := h
    rfl
  have hu := hu_of hr
  have hr1 : Room 1 _ := hr
  refine ⟨_, (pss_one (ps_if (PW.pt (pw_or (pt_not (pt_val (pe_c CN hr1 pass0 (pa_cons (pv 1) pa_nil)))) (pw_or1 (pt_cmp (pc_dnotin hu (pv 1) (pe_fld (pv 0) rfl))))))
      (pss_one (WkK.ps_raiseE rfl TU hr (takes_of rfl rfl rfl rfl) (pa_cons (pv 1) pa_nil))) pss_nil)), ?_⟩
  obtain ⟨g, C, dx, fs, a, top, Vs, ad, nb, wt, x, rfl, G, R, nm, av, k1, k2⟩ := h
  rcases av with ⟨z, rfl, hz⟩ | ⟨nz, t, ty, kt⟩
  · refine ⟨_, rfl, .inl ⟨z, rfl, hz, fun H1 s1 => ⟨_, rfl, ite2 (fun h => ?_) (fun h => ?_)⟩⟩⟩
    · have hn : z ∉ Vs := fun hm => by
        rw [nm z hm] at h
        cases h
      refine ⟨_, rfl, _, rfl, fun d nd_ => k2 (fun ⟨y, hy, e⟩ => ?_) d _ (s1.trans (same_upd nd_)) (np_of s1 nd_) upd_same⟩
      cases e
      exact hn hy
    · have R1 := R.ext (Ext.of s1)
      have G1 : GAt K H1 g C dx fs a top := G.ext (Ext.of s1)
      refine ⟨_, rfl, _, rfl, g, C, dx, _, _, rfl, G1.ins, G1.cls, G1.na, G1.la, a, _, rfl, get_x R1.r.top, _, rfl, ?_⟩
      by_cases hm : z ∈ Vs
      · rw [if_pos hm]
        refine ite2 (fun h => ?_) (fun _ => k1 ⟨z, hm, rfl⟩ H1 s1)
        cases h
      · rw [if_neg hm]
        refine ite2 (fun _ => ?_) (fun h => absurd rfl h)
        refine ⟨_, rfl, _, rfl, fun d nd_ => k2 (fun ⟨y, hy, e⟩ => ?_) d _ (s1.trans (same_upd nd_)) (np_of s1 nd_) upd_same⟩
        cases e
        exact hm hy
  · refine ⟨_, rfl, .inr ⟨x, t, rfl, ty, kt, ⟨_, rfl, ite2 (fun _ => ?_) (fun h => absurd rfl h)⟩⟩⟩
    refine ⟨_, rfl, _, rfl, fun d nd_ => k2 (fun ⟨y, _, e⟩ => nz y e) d _ (same_upd nd_) nd_ upd_same⟩
/-! ### set_root -/
def spSetRoot (K : PySem.W.Frag) (T : List (Addr × Str)) (C CU : Addr) : Sp := fun vs H Q E => ∃ (x : Addr) (v : V) (rest : List (Str × V)) (t0 : Str) (n : Int) (m e : Addr) (r s : Int) (ms : List V) (Vs : List Str) (nb : Nb) (wt : Wt), vs = [.ref x, v] ∧
  NetO H x C rest Vs nb wt t0 n m e r s ∧ SqT K H m ms ∧ ms.length < 1000000 ∧ Tabs T H ∧ AnyV K H v ∧
  (∀ t, v = .str t → t ∈ Vs → ∀ nb' wt' n' m' ed H', (∀ c o, H c = some o → c ≠ x → (∀ ps, o ≠ .tbl ps) → H' c = some o) → Tabs T H' → NetO H' x C rest Vs nb' wt' t n' m' e r (s + 1) → H' m' = some (.tup (ms ++ [.ref ed])) → H' ed = some (.tup [.str "root", .str t]) → SameG Vs nb wt nb' wt' → Q .non H') ∧
  (¬ IsIn v Vs → ∀ d H', Same H H' → H d = none → H' d = some (.xd [("value", v)]) → E (.ref CU) (some d) H')
theorem sc_set_root : FnScope ["self", "vertex"] ["self", "vertex"] (defScope s_Network_set_root) := ⟨rfl, rfl, rfl, by decide +kernel, rfl, by decide +kernel, by decide +kernel⟩
theorem ok_set_root {f C CU : Addr} {fd : FuncData} {tbT : List (Addr × Str)} (F : FnP K "set_root" "Network.set_root" s_Network_set_root f fd) (NK : AccC P w K mg base C) (CV : MethC P w K mg base (CX P w) C "check_vertex" 2 (spCheck K CU)) (CA : MethC P w K mg base CX0 C "accept" 6 (spAccept K tbT C)) :
    FnOk P w K mg base (CX P w) 7 f fd ["self", "vertex"] (spSetRoot K tbT C CU) := by
  refine F.ok sc_set_root (fun vs H Q E h => ?_) (fun cdv A outer s H vs Q E hr h => ?_)
  · obtain ⟨x, v, rest, t0, n, m, e, r, s, ms, Vs, nb, wt, rfl, _⟩ := h
    rfl
  have hr7 : Room 6 _ := hr
  have hr2 : Room 2 _ := hr.mono (by decide)
  refine ⟨_, (pss_cons (ps_expr (WkC.pe_mt CV NK.cls hr2 (passes_call (takes_of rfl rfl rfl rfl) fun _ _ _ _ h => h) (pv 0) (pa_cons (pv 1) pa_nil)))
      (pss_one (ps_expr (WkC.pe_mt CA NK.cls hr7 pass0 (pv 0) (pa_cons (pe_tup (pa_cons pe_str (pa_cons (pv 1) pa_nil))) (pa_cons (pe_fld (pv 0) rfl) (pa_cons (pv 1) pa_nil))))))), ?_⟩
  obtain ⟨x, v, rest, t0, n, m, e, r, s, ms, Vs, nb, wt, rfl, N, hm, hml, hT, av, k1, k2⟩ := h
  obtain ⟨dx, p, ad, hx, rz⟩ := N.ex
  have GA : GAt K H x C dx (netF p t0 n m e r s ++ rest) p t0 := ⟨hx, NK.f.cls, NK.f.na, NK.f.nt, rfl, rfl⟩
  refine ⟨_, rfl, x, dx, _, rfl, hx, N.rst.no (by decide), _, rfl, x, C, dx, _, p, t0, Vs, ad, nb, wt, v, rfl, GA, rz, N.gok.nm, av, fun hin H1 s1 => ?_, k2⟩
  obtain ⟨t, ht, rfl⟩ := hin
  have hx1 := s1 _ _ hx
  refine ⟨_, rfl, x, dx, _, rfl, hx1, N.rst.no (by decide), _, rfl, by show 2 ≤ sizeLine; decide, fun ed ned => ?_⟩
  generalize gg : upd _ ed _ = G2
  obtain ⟨s2, L2⟩ := new_eq ned gg
  clear gg
  have hx2 := s2 _ _ hx1
  refine ⟨_, rfl, x, C, dx, _, _, rfl, hx2, NK.f.cls, NK.f.na, rfl, _, rfl, ?_⟩
  have s12 := s1.trans s2
  have rz2 : RowsZ G2 p Vs ad nb wt := rz.ext (Ext.of s12)
  refine ⟨x, ed, p, dx, p, m, e, rest, t, t0, n, r, s, ms, true, Vs, ad, nb, wt, rfl, hx2, N.rst, WkG.seqT_same s12 hm, hml, rz2, N.gok, ht, hT.ext s12, fun Ws nb' wt' n' m' H3 a3 T3 N3 hm3 pm sg => ?_⟩
  have eW : Ws = Vs := asc_uniq (R := ltS) ltS_irrefl (fun a b c => ltS_trans) N3.asc N.asc fun y => pm.mem_iff
  subst eW
  refine k1 t rfl ht nb' wt' n' m' ed H3 (fun c o h hne nt => a3 c o (s12 _ _ h) hne nt fun hb => nomatch hb) T3 N3 hm3 (a3 _ _ L2 (ne_of L2 hx2 (by intro z; cases z)) (fun ps z => by cases z) fun hb => nomatch hb) sg
end
end Wk
namespace Wk
open PySem PySem.Spec PyProof.Rows L2 WkD WkN LamX WkP WkE WkC
section
variable {P : Program} {w : World} {K : PySem.W.Frag} {mg : Str → Option Value} {base : Heap}
/-! ### check_connected, all ways -/
theorem Rch.trans {nb : Nb} {s u v : Str} (h : Rch nb s u) (k : Rch nb u v) : Rch nb s v := by
  induction k with
  | here => exact h
  | go _ e ih => exact .go ih e
theorem Rch.symm {Vs : List Str} {nb : Nb} {wt : Wt} (sy : Sym Vs nb wt) {s u : Str} (hs : s ∈ Vs) (h : Rch nb s u) : u ∈ Vs ∧ Rch nb u s := by
  induction h with
  | here => exact ⟨hs, .here⟩
  | go _ e ih =>
    obtain ⟨g1, _, g3, _⟩ := sy.mem _ ih.1 _ e
    exact ⟨g1, (Rch.go .here g3).trans ih.2⟩
end
end Wk
namespace Wk
open PySem PySem.Spec PyProof.Rows L2 WkD WkN LamX WkP WkE
section
variable {P : Program} {w : World} {K : PySem.W.Frag} {mg : Str → Option Value} {base : Heap}
/-- the first part of what a graph is made of, right so far -/
structure Part (vs0 : List Str) (es : List Ed) : Prop where
  nm : ∀ u ∈ vs0, nameB u = true
  nd : vs0.Nodup
  few : vs0.length ≤ 40
  ed : ∀ (i : Nat) (a b : Str) (n : Int), es[i]? = some (a, b, n) → a ∈ vs0 ∧ b ∈ vs0 ∧ a ≠ b ∧ 1 ≤ n ∧ n ≤ 1000000000 ∧ ∀ m, ¬ Adj (es.take i) a b m
theorem Part.sym {vs0 : List Str} {es : List Ed} {nb : Nb} {wt : Wt} (ok : Part vs0 es) (ro : RowsOf vs0 es nb wt) : Sym vs0 nb wt := by
  refine ⟨fun u hu => ro.nd u hu, fun u hu v hv => ?_⟩
  obtain ⟨m, hm⟩ := (ro.mem u hu v).mp hv
  have key : ∀ c d, (c, d, m) ∈ es → c ∈ vs0 ∧ d ∈ vs0 ∧ c ≠ d := fun c d h => by
    obtain ⟨j, hj, e⟩ := List.mem_iff_getElem.mp h
    have q := ok.ed j c d m (by rw [List.getElem?_eq_getElem hj, e])
    exact ⟨q.1, q.2.1, q.2.2.1⟩
  have hv0 : v ∈ vs0 ∧ v ≠ u := by
    rcases hm with h | h
    · exact ⟨(key _ _ h).2.1, Ne.symm (key _ _ h).2.2⟩
    · exact ⟨(key _ _ h).1, (key _ _ h).2.2⟩
  refine ⟨hv0.1, hv0.2, (ro.mem v hv0.1 u).mpr ⟨m, hm.symm⟩, ?_⟩
  rw [ro.val u hu v m hm, ro.val v hv0.1 u m hm.symm]
end
end Wk
namespace Wk
open PySem PySem.Spec PyProof.Rows L2 WkD WkN LamX WkP WkE WkC
section
variable {P : Program} {w : World} {K : PySem.W.Frag} {mg : Str → Option Value} {base : Heap}
theorem Valid.gok {vs0 Ws : List Str} {es : List Ed} {nb : Nb} {wt : Wt} (ok : Valid vs0 es) (ro : RowsOf vs0 es nb wt) (pm : Ws.Perm vs0) : GOk Ws nb wt := by
  have ln := pm.length_eq
  have two := ok.two
  have few := ok.few
  refine ⟨fun u hu => ok.nm u (pm.mem_iff.mp hu), pm.nodup_iff.mpr ok.nd, by omega, by omega, ok.sym ro pm, fun u hu v hv => ?_, fun s hs u hu => ok.con nb wt ro s (pm.mem_iff.mp hs) u (pm.mem_iff.mp hu)⟩
  have hu := pm.mem_iff.mp hu
  obtain ⟨n, hn⟩ := (ro.mem u hu v).mp hv
  rw [ro.val u hu v n hn]
  rcases hn with h | h
  · obtain ⟨i, hi⟩ := List.getElem?_of_mem h
    obtain ⟨_, _, _, h4, h5, _⟩ := ok.ed i _ _ _ hi
    exact ⟨h4, h5⟩
  · obtain ⟨i, hi⟩ := List.getElem?_of_mem h
    obtain ⟨_, _, _, h4, h5, _⟩ := ok.ed i _ _ _ hi
    exact ⟨h4, h5⟩
/-- Network(..) of what was drawn, told in full -/
theorem mk_net {T : List (Addr × Str)} {C fG : Addr} {H : Hp} {va ea : Addr} {b1 b2 : Bool} {vs vs0 : List Str} {es : EdD} {rt : Str} {sh es2 : List Ed} {rs : List Addr} {Q : Hp → Prop} {E : XK} {x dx : Addr} (nx : H x = none) (ndx : H dx = none) (ne : dx ≠ x) (nc : NCls K C C fG) (ok : NetOk vs es rt) (two : 2 ≤ vs.length) (few : vs.length ≤ 40) (pv : vs0.Perm vs) (psh : sh.Perm (edS es)) (fl : Flips sh es2)
    (hva : SqX b1 K H va (vs0.map V.str)) (hea : SqX b2 K H ea (rs.map V.ref)) (he : EdsAt K H rs es2) (hT : Tabs T H)
    (k : ∀ nb wt t n m en H', Ext H H' → Tabs T H' → NetO H' x C [] vs nb wt t n m en 0 0 → H' m = some (.tup []) → H' en = some (.lst []) → edL vs nb wt = edS es → (∀ j ∈ vs, ¬ ltS j t) → Q H') :
    spNet K T C fG (.ref x :: ([V.ref va, .ref ea] ++ [])) (upd (upd H dx (.own x)) x (.ins C dx [])) (fun v H2 => v = .non ∧ Q H2) E := by
  have s1 : Same H (upd H dx (.own x)) := same_upd ndx
  have nx1 : upd H dx (.own x) x = none := by rw [upd_ne (Ne.symm ne)]; exact nx
  have s2 := s1.trans (same_upd (o := .ins C dx []) nx1)
  have val := built_valid ok two few pv psh fl
  refine ⟨x, C, dx, va, ea, b1, b2, vs0, es2, rs, rfl, upd_same, nc, hva.same s2, hea.same s2, he.same s2, val, hT.ext s2, fun p Ws bd nb wt t n ms me en H' eB T' hx' hme hen rz pw aw ro an ht hmin lc => ⟨rfl, ?_⟩⟩
  have e1 := built_verts ok pv pw aw
  subst e1
  have e2 := built_edges ok pv psh fl pw aw ro an
  exact k nb wt t n me en H' (fun b o hb no => eB b o (s2 b o hb) (ne_of_none hb nx) no) T' ⟨⟨dx, p, bd, hx', rz⟩, .inl rfl, aw, an, val.gok ro pw, ⟨ms, lc⟩, pw.mem_iff.mpr ht⟩ hme hen e2 fun j hj => hmin j (pw.mem_iff.mp hj)
theorem Flips.refl : ∀ l : List Ed, Flips l l
  | [] => .nil
  | _ :: l => .cons (.inl rfl) (Flips.refl l)
theorem SameG.edL_eq {vs : List Str} {nb nb' : Nb} {wt wt' : Wt} (h : SameG vs nb wt nb' wt') (as : Asc vs) (an : ∀ u ∈ vs, Asc (nb u)) (an' : ∀ u ∈ vs, Asc (nb' u)) : edL vs nb' wt' = edL vs nb wt :=
  ed_uniq (edL_asc as an') (edL_asc as an) fun e => h.edges (.refl _) e
/-! ### _law_made -/
def spMade (K : PySem.W.Frag) (T : List (Addr × Str)) (C : Addr) : Sp := fun vs H Q _ => ∃ (q va ea : Addr) (vs0 : List Str) (es : EdD) (rt : Str), vs = [.ref q] ∧ NetAt H q va ea vs0 es rt ∧ 2 ≤ vs0.length ∧ vs0.length ≤ 40 ∧ es.length ≤ 1000 ∧ Tabs T H ∧
  ∀ x nb wt n m en ed H', Ext H H' → Tabs T H' → H x = none → NetO H' x C [] vs0 nb wt rt n m en 0 1 → H' m = some (.tup [.ref ed]) → H' ed = some (.tup [.str "root", .str rt]) → H' en = some (.lst []) → edL vs0 nb wt = edS es → Q (.ref x) H'
theorem sc_made : FnScope ["_law_network_here", "_law_house"] ["_law_network_here"] (defScope s_L_made) := ⟨rfl, rfl, rfl, by decide +kernel, rfl, by decide +kernel, by decide +kernel⟩
theorem c_made {C fG CU : Addr} {tbT : List (Addr × Str)} (D : Def K mg "_law_made" s_L_made) (B : Bi mg) (CE : Callee P w K mg base CX0 1 "_law_edges" ["_law_network_here"] (spLEdges K)) (nc : NCls K C C fG) (NM : MakeC P w K mg base CX0 C "Network" 6 (spNet K tbT C fG)) (SR : MethC P w K mg base (CX P w) C "set_root" 7 (spSetRoot K tbT C CU)) :
    Callee P w K mg base CX0 8 "_law_made" ["_law_network_here"] (spMade K tbT C) := by
  obtain ⟨f, fd, F, g⟩ := D
  refine ⟨f, fd, F.ok sc_made (fun vs H Q E h => ?_) (fun cdv A outer s H vs Q E hr h => ?_), g, F.kp, F.bindsN (fun _ _ _ _ _ _ us hl => match us, hl with | [_], _ => rfl)⟩
  · obtain ⟨q, va, ea, vs0, es, rt, rfl, _⟩ := h
    rfl
  have hu := hu_of hr
  have nd := sc_made.nd
  have hr7 : Room 7 _ := hr
  have hr1 : Room 1 _ := hr.mono (by decide)
  have cl := nc.g.cls
  refine ⟨_, PSs.nox (pss_cons (ps_set (i := 1) nd rfl (Or.inl rfl) (WkC.pe_mk NM hr7 pass0 (pa_cons (pe_dget hu (pv 0) pe_str (fun _ _ => rfl)) (pa_cons (pe_c CE hr1 pass0 (pa_cons (pv 0) pa_nil)) pa_nil))))
      (pss_cons (ps_expr (WkC.pe_mt SR cl hr7 WkK.passF (pv 1) (pa_cons (pe_dget hu (pv 0) pe_str (fun _ _ => rfl)) pa_nil)))
      (pss_one (ps_ret (pv 1))))), ?_⟩
  obtain ⟨q, va, ea, vs0, es, rt, rfl, hN, two, few, les, hT, k⟩ := h
  refine ⟨_, rfl, q, _, rfl, (get_net hN).1, _, rfl, q, va, ea, vs0, es, rt, rfl, hN, les, fun p1 rs H1 s1 n1 L1 E1 => ?_⟩
  have N1 := hN.same s1
  intro x dx nx ndx ne
  refine mk_net nx ndx ne nc hN.ok two few (.refl _) (.refl _) (Flips.refl _) (b1 := true) (b2 := true) (SqL.of N1.ver) (SqL.of L1) E1 (hT.ext s1) fun nb wt t n m en H2 e2 T2 N2 hm hen ee hmin => ?_
  have N3 := N1.ext e2
  refine ⟨_, rfl, x, _, _, rfl, N2.ex.choose_spec.choose_spec.choose_spec.1, rfl, _, rfl, q, _, rfl, (get_net N3).2.2, ?_⟩
  have zl : rt.length ≤ sizeLine := name_len (hN.ok.nm rt hN.ok.rt)
  refine ⟨x, .str rt, [], t, n, m, en, 0, 0, [], vs0, nb, wt, rfl, N2, .inl (.inl hm), by decide, T2, .inl ⟨rt, rfl, zl⟩, fun t' et ht nb' wt' n' m' ed H3 k3 T3 N4 hm4 hed sg => ?_, fun hno => absurd ⟨rt, hN.ok.rt, rfl⟩ hno⟩
  cases et
  refine ⟨_, rfl, k x nb' wt' n' m' en ed H3 (fun b o hb no => ?_) T3 (np_of s1 nx) N4 hm4 hed (k3 _ _ hen (ne_of hen N2.ex.choose_spec.choose_spec.choose_spec.1 (by intro z; cases z)) (fun ps z => by cases z)) ?_⟩
  · have b1 := s1 _ _ hb
    exact k3 b o (e2 _ _ b1 no) (ne_of_none b1 nx) no
  · rw [sg.edL_eq N2.asc N2.an N4.an]
    exact ee
end
end Wk
namespace Wk
open PySem PySem.Spec PyProof.Rows L2 WkD WkN LamX WkP WkE WkC
section
variable {P : Program} {w : World} {K : PySem.W.Frag} {mg : Str → Option Value} {base : Heap}
/-! ### floors -/
/-- a value: an int, a bool, or what is none of both -/
def IntV (K : PySem.W.Frag) (H : Hp) (v : V) : Prop := (∃ i : Int, v = .int i) ∨ (∃ b : Bool, v = .bl b) ∨ ((∀ i, v ≠ .int i) ∧ ∃ t, TyX K H v t ∧ PySem.W.kitOne K t (.type "int") = some false)
def FloorV (v : V) : Prop := ∃ i : Int, v = .int i ∧ 1 ≤ i
/-- a guarded class -/
structure GdCls (K : PySem.W.Frag) (C : Addr) : Prop where
  cls : Cls K C
  nf : NoAttr K C "found"
  nl : NoAttr K C "least"
def spSetFloor (K : PySem.W.Frag) (CF CT : Addr) : Sp := fun vs H Q E => ∃ (x C dx : Addr) (fs : List (Str × V)) (v l : V) (n : Int), vs = [.ref x, v] ∧ H x = some (.ins C dx fs) ∧ GdCls K C ∧ fs.lookup ("found" : Str) = some (.int n) ∧ fs.lookup ("least" : Str) = some l ∧ fs.length < 1000 ∧ IntV K H v ∧
  (∀ i : Int, v = .int i → 1 ≤ i → i ≤ n → Q .non (upd H x (.ins C dx (putF "least" (.int i) fs)))) ∧
  (¬ FloorV v → ∀ d H', Same H H' → H d = none → H' d = some (.xd [("value", v)]) → E (.ref CF) (some d) H') ∧
  (∀ i : Int, v = .int i → 1 ≤ i → n < i → ∀ d H', Same H H' → H d = none → H' d = some (.xd [("found", .int n)]) → E (.ref CT) (some d) H')
theorem sc_set_floor : FnScope ["self", "value"] ["self", "value"] (defScope s_GuardedNetwork_set_floor) := ⟨rfl, rfl, rfl, by decide +kernel, rfl, by decide +kernel, by decide +kernel⟩
theorem ok_set_floor {f CF CT fF fT : Addr} {fd : FuncData} (F : FnP K "set_floor" "GuardedNetwork.set_floor" s_GuardedNetwork_set_floor f fd) (B : Bi mg) (TF : WkX.ExcT K mg "InvalidFloor" "value" CF fF) (TW : WkX.ExcT K mg "TooWeak" "found" CT fT) : FnOk P w K mg base (CX P w) 1 f fd ["self", "value"] (spSetFloor K CF CT) := by
  refine F.ok sc_set_floor (fun vs H Q E h => ?_) (fun cdv A outer s H vs Q E hr h => ?_)
  · obtain ⟨x, C, dx, fs, v, l, n, rfl, _⟩ := h
    rfl
  have hu := hu_of hr
  refine ⟨_, (pss_cons (ps_if (PW.pt (pw_or (pt_not (pt_val (pe_callB call_isi (by rfl) B.n_isinstance (by decide +kernel) (pa_cons (pv 1) (pa_cons (pe_bltn (v := .ty "int") (by rfl) B.n_int (by decide +kernel) rfl) pa_nil))))) (pw_or (pt_val (pe_callB call_isi (by rfl) B.n_isinstance (by decide +kernel) (pa_cons (pv 1) (pa_cons (pe_bltn (v := .ty "bool") (by rfl) B.n_bool (by decide +kernel) rfl) pa_nil)))) (pw_or1 (pt_cmpR op_lt (pv 1) pe_int (nomark _))))))
      (pss_one (WkK.ps_raiseE rfl TF hr (takes_of rfl rfl rfl rfl) (pa_cons (pv 1) pa_nil))) pss_nil)
      (pss_cons (ps_if (pt_cmpR op_lt (pe_fld (pv 0) rfl) (pv 1) (nomark _))
      (pss_one (WkK.ps_raiseE rfl TW hr (takes_of rfl rfl rfl rfl) (pa_cons (pe_fld (pv 0) rfl) pa_nil))) pss_nil)
      (pss_one (ps_fld (pv 0) (pv 1) rfl)))), ?_⟩
  obtain ⟨x, C, dx, fs, v, l, n, rfl, hx, gd, hf, hl, hlen, iv, k1, k2, k3⟩ := h
  have bad : ¬ FloorV v → ∀ d, H d = none → E (.ref CF) (some d) (upd H d (.xd [("value", v)])) := fun h d nd_ => k2 h d _ (same_upd nd_) nd_ upd_same
  rcases iv with ⟨i, rfl⟩ | ⟨b, rfl⟩ | ⟨ni, t, ty, kt⟩
  · refine ⟨_, rfl, _, _, _, _, true, rfl, .ty _, .base (.int i), kit_ty (by decide +kernel), true, rfl, ite2 (fun h => nomatch h) (fun _ => ?_)⟩
    refine ⟨_, rfl, _, _, _, _, false, rfl, .ty _, .base (.int i), kit_ty (by decide +kernel), false, rfl, ite2 (fun h => nomatch h) (fun _ => ?_)⟩
    refine ⟨_, rfl, _, _, rfl, rfl, _, rfl, ite2 (fun h => ?_) (fun h => ?_)⟩
    · have h := of_decide_eq_true h
      exact ⟨_, rfl, _, rfl, bad (fun ⟨j, e, hj⟩ => by cases e; omega)⟩
    · have h1 : 1 ≤ i := by
        have h : ¬ i < 1 := fun z => h (decide_eq_true z)
        omega
      refine ⟨_, rfl, x, C, dx, _, _, rfl, hx, gd.cls, gd.nf, hf, _, rfl, _, _, rfl, rfl, _, rfl, ite2 (fun h => ?_) (fun h => ?_)⟩
      · exact ⟨_, rfl, x, C, dx, _, _, rfl, hx, gd.cls, gd.nf, hf, _, rfl, fun d nd_ => k3 i rfl h1 (of_decide_eq_true h) d _ (same_upd nd_) nd_ upd_same⟩
      · refine ⟨_, rfl, _, rfl, x, C, dx, _, rfl, hx, gd.cls, gd.nl, hlen, k1 i rfl h1 ?_⟩
        have h : ¬ n < i := fun z => h (decide_eq_true z)
        omega
  · refine ⟨_, rfl, _, _, _, _, true, rfl, .ty _, .base (.bl b), kit_ty (by decide +kernel), true, rfl, ite2 (fun h => nomatch h) (fun _ => ?_)⟩
    refine ⟨_, rfl, _, _, _, _, true, rfl, .ty _, .base (.bl b), kit_ty (by decide +kernel), true, rfl, ite2 (fun _ => ?_) (fun h => absurd rfl h)⟩
    exact ⟨_, rfl, _, rfl, bad (fun ⟨j, e, hj⟩ => nomatch e)⟩
  · refine ⟨_, rfl, _, _, _, _, false, rfl, .ty _, ty, kt, false, rfl, ite2 (fun _ => ?_) (fun h => absurd rfl h)⟩
    exact ⟨_, rfl, _, rfl, bad (fun ⟨j, e, hj⟩ => ni j e)⟩
/-! ### floor -/
def spFloor (K : PySem.W.Frag) : Sp := fun vs H Q _ => ∃ (x C dx : Addr) (fs : List (Str × V)) (l : V), vs = [.ref x] ∧ H x = some (.ins C dx fs) ∧ GdCls K C ∧ fs.lookup ("least" : Str) = some l ∧ Q l H
theorem sc_floor : FnScope ["self"] ["self"] (defScope s_GuardedNetwork_floor) := ⟨rfl, rfl, rfl, by decide +kernel, rfl, by decide +kernel, by decide +kernel⟩
theorem ok_floor {f : Addr} {fd : FuncData} (F : FnP K "floor" "GuardedNetwork.floor" s_GuardedNetwork_floor f fd) : FnOk P w K mg base CX0 1 f fd ["self"] (spFloor K) := by
  refine F.ok sc_floor (fun vs H Q E h => ?_) (fun cdv A outer s H vs Q E hr h => ?_)
  · obtain ⟨x, C, dx, fs, l, rfl, _⟩ := h
    rfl
  refine ⟨_, PSs.nox (pss_one (ps_ret (pe_fld (pv 0) rfl))), ?_⟩
  obtain ⟨x, C, dx, fs, l, rfl, hx, gd, hl, k⟩ := h
  exact ⟨_, rfl, x, C, dx, _, _, rfl, hx, gd.cls, gd.nl, hl, k⟩
/-! ### Network.__init__ where a part is wrong -/
/-! ### GuardedNetwork.__init__ -/
structure GdN (K : PySem.W.Frag) (C DG fN : Addr) : Prop where
  g : GdCls K C
  mro : PySem.W.mroIn K C (.ref DG) = some true
  sup : PySem.W.ks_superIn K C DG "__init__" = some (some (.ref fN))
theorem GdN.cls {C DG fN : Addr} (h : GdN K C DG fN) : Cls K C := h.g.cls
theorem ss_gn_init : WkS.SupScope ["self", "vertices", "edges", "floor"] ["self", "vertices", "edges", "floor"] (defScope s_GuardedNetwork_init) := ⟨rfl, rfl, rfl, by decide +kernel, rfl, by decide +kernel, by decide +kernel, by decide +kernel, by decide +kernel, by decide +kernel⟩
/-- without exceptions, so with -/
theorem fnok_x {CX : CXT} {k : Nat} {f : Addr} {fd : FuncData} {ps : List Str} {sp : Sp} (h : FnOk P w K mg base CX0 k f fd ps sp) : FnOk P w K mg base CX k f fd ps sp := by
  refine ⟨h.len, fun A outer s H args us vs Q E hr e0 hb r hsp => codeAny_mono (h.run A outer s H args us vs Q E hr e0 hb r hsp) fun r s' hq => ?_⟩
  cases r with
  | error e => exact False.elim hq
  | ok fl =>
    cases fl with
    | ret v => exact hq
    | next => exact False.elim hq
    | brk => exact False.elim hq
    | cont => exact False.elim hq
/-- the fields of a guarded network -/
def gdF (p : Addr) (t : Str) (n : Int) (m e : Addr) (l : Int) : List (Str × V) := netF p t n m e 0 0 ++ [(("least" : Str), V.int l)]
def spGd (K : PySem.W.Frag) (T : List (Addr × Str)) (C D fG DG fN CF CT : Addr) : Sp := fun vs H Q E => ∃ (x dx va ea : Addr) (b1 b2 : Bool) (vs0 : List Str) (es : List Ed) (rs : List Addr) (v : V), vs = [.ref x, .ref va, .ref ea, v] ∧ H x = some (.ins C dx []) ∧ GdN K C DG fN ∧ NCls K C D fG ∧ SqX b1 K H va (vs0.map V.str) ∧ SqX b2 K H ea (rs.map V.ref) ∧ EdsAt K H rs es ∧ Valid vs0 es ∧ Tabs T H ∧ (∀ H', ExtB x H H' → IntV K H' v) ∧
  ∀ p Ws bd nb wt t n ms me en H', ExtB x H H' → Tabs T H' → H' x = some (.ins C dx (gdF p t n me en 1)) → H' me = some (.tup []) → H' en = some (.lst []) → RowsZ H' p Ws bd nb wt → Ws.Perm vs0 → Asc Ws → RowsOf vs0 es nb wt → (∀ u ∈ Ws, Asc (nb u)) → t ∈ vs0 → (∀ j ∈ vs0, ¬ ltS j t) → LeastCut Ws nb wt n ms →
    (∀ i : Int, v = .int i → 1 ≤ i → i ≤ n → Q .non (upd H' x (.ins C dx (gdF p t n me en i)))) ∧
    (¬ FloorV v → ∀ d H2, Same H' H2 → H' d = none → H2 d = some (.xd [("value", v)]) → E (.ref CF) (some d) H2) ∧
    (∀ i : Int, v = .int i → 1 ≤ i → n < i → ∀ d H2, Same H' H2 → H' d = none → H2 d = some (.xd [("found", .int n)]) → E (.ref CT) (some d) H2)
theorem ok_gn_init {f fN fG cc cda D DG CF CT C : Addr} {fd fdN : FuncData} {tbT : List (Addr × Str)} (ST : WkS.SupT P K mg ["self", "vertices", "edges", "floor"] DG f cc cda "GuardedNetwork.__init__" (defArgs s_GuardedNetwork_init) (defScope s_GuardedNetwork_init) fd) (hbd : fd.body = .stmts (defBody s_GuardedNetwork_init)) (FN : FnOk P w K mg base CX0 6 fN fdN ["self", "vertices", "edges"] (spNet K tbT D fG)) (hb2 : Binds K fdN ["self", "vertices", "edges"] []) (hf2 : PySem.W.fnIn K fN = true)
    (hf2' : PySem.W.isFn K (.ref fN) = true) (gd : GdCls K C) (SF : MethC P w K mg base (CX P w) C "set_floor" 1 (spSetFloor K CF CT)) : FnOk P w K mg base (CX P w) 7 f fd ["self", "vertices", "edges", "floor"] (spGd K tbT C D fG DG fN CF CT) := by
  refine WkS.sup_ok (k := 6) (N := ["self", "vertices", "edges", "floor"]) (m := "__init__") (rest := (defBody s_GuardedNetwork_init).drop 1) ST (hbd.trans (by rfl)) ss_gn_init (fnok_x FN) hb2 hf2 hf2' (by decide) (fun vs H Q E h => ?_) (fun A outer s H E => passes_call (takes_of rfl rfl rfl rfl) fun _ _ _ _ h => h) (fun env => rfl) (fun env => rfl) (fun env he => ⟨_, rfl⟩) (fun env he => ?_) (fun A outer s H vs Q E hr h => ?_)
  · obtain ⟨x, dx, va, ea, b1, b2, vs0, es, rs, v, rfl, _⟩ := h
    rfl
  · exact ⟨by unfold interactive; rw [he]; rfl, rfl⟩
  · obtain ⟨x, dx, va, ea, b1, b2, vs0, es, rs, v, rfl, hx, gn, nc, hva, hea, hes, ok, hT, iv, k⟩ := h
    have hu := hu_of hr
    have nd := ss_gn_init.nd
    have hr1 : Room 1 _ := hr.mono (by decide)
    refine ⟨_, _, x, C, dx, _, rfl, hx, gn.mro, gn.sup, pa_cons (pv 1) (pa_cons (pv 2) pa_nil), (pss_cons (ps_fld (pv 0) pe_int rfl)
      (pss_one (ps_expr (WkC.pe_mt SF gd.cls hr1 (passes_call (takes_of rfl rfl rfl rfl) fun _ _ _ _ h => h) (pv 0) (pa_cons (pv 3) pa_nil))))), ?_⟩
    refine ⟨_, rfl, _, rfl, x, C, dx, va, ea, b1, b2, vs0, es, rs, rfl, hx, nc, hva, hea, hes, ok, hT, fun p Ws bd nb wt t n ms me en H2 eB T2 hx2 hm hen rz pm as ro an ht hmin lc => ?_⟩
    refine ⟨_, rfl, x, C, dx, _, rfl, hx2, gd.cls, gd.nl, by show 7 < 1000; decide, ?_⟩
    have B3 : ExtB x H (upd H2 x (.ins C dx (putF "least" (.int 1) (netF p t n me en 0 0)))) := fun b o hb hne no => by
      rw [upd_ne hne]
      exact eB b o hb hne no
    have T3 : Tabs tbT (upd H2 x (.ins C dx (putF "least" (.int 1) (netF p t n me en 0 0)))) := tabs_upd T2 hx2 trivial
    have rz3 : RowsZ (upd H2 x (.ins C dx (putF "least" (.int 1) (netF p t n me en 0 0)))) p Ws bd nb wt := ExtB.rz (fun b o hb hne _ => by rw [upd_ne hne]; exact hb) rz hx2
    have hx3 : upd H2 x (.ins C dx (putF "least" (.int 1) (netF p t n me en 0 0))) x = some (.ins C dx (gdF p t n me en 1)) := upd_same
    have m3 : upd H2 x (.ins C dx (putF "least" (.int 1) (netF p t n me en 0 0))) me = some (.tup []) := by
      rw [upd_ne (ne_of hm hx2 (by intro z; cases z))]
      exact hm
    have e3 : upd H2 x (.ins C dx (putF "least" (.int 1) (netF p t n me en 0 0))) en = some (.lst []) := by
      rw [upd_ne (ne_of hen hx2 (by intro z; cases z))]
      exact hen
    generalize upd H2 x (.ins C dx (putF "least" (.int 1) (netF p t n me en 0 0))) = H3 at B3 T3 rz3 hx3 m3 e3
    obtain ⟨k1, k2, k3⟩ := k p Ws bd nb wt t n ms me en H3 B3 T3 hx3 m3 e3 rz3 pm as ro an ht hmin lc
    refine ⟨_, rfl, x, dx, _, rfl, hx3, rfl, _, rfl, x, C, dx, _, v, _, n, rfl, hx3, gd, rfl, rfl, by show 8 < 1000; decide, iv H3 B3, fun i e1 e2 e3 => ?_, fun hn d H4 s4 nd_ hd => k2 hn d H4 s4 nd_ hd, fun i e1 e2 e3 d H4 s4 nd_ hd => k3 i e1 e2 e3 d H4 s4 nd_ hd⟩
    exact k1 i e1 e2 e3
end
end Wk
namespace WkK
open PySem PySem.Spec PyProof.Rows L2 WkD WkN
theorem ixT {X : Cx} (K : PySem.W.Frag) (h : X.K = K) : IxR X (rIxT K) := by
  subst h
  exact ix_tup
theorem peFld {X : Cx} {e : Expr} {f : Str} {ta : TE} {pos : Pos} (K : PySem.W.Frag) (h : X.K = K) (he : PE X e ta) (hb : attributeBase e f X.env (eval e X.env) = eval e X.env) : PE X (.Attribute e f pos) (tFld K ta f) := by
  subst h
  exact pe_fld he hb
end WkK
/-! ### t + u, t the empty tuple or not -/
namespace HT
open PySem PySem.Spec PyProof.Rows
section
variable {prog : Program} {w : World} {A : Around} {E : Value → Shared → Prop} {s : Shared}
end
end HT
namespace WkK
open PySem PySem.Spec PyProof.Rows L2
end WkK
namespace Wk
open PySem PySem.Spec PyProof.Rows L2 WkD WkN WkE
section
variable {P : Program} {w : World} {K : PySem.W.Frag} {mg : Str → Option Value} {base : Heap}
/-- a network's data, whatever its edges are -/
structure NetA (H : Hp) (q va ea : Addr) (vs : List Str) (es : EdD) (rt : Str) : Prop where
  top : H q = some (.dK (netL va ea rt))
  ver : H va = some (.lst (vs.map V.str))
  edg : H ea = some (.dT (dtE es))
theorem NetAt.a {H : Hp} {q va ea : Addr} {vs : List Str} {es : EdD} {rt : Str} (n : NetAt H q va ea vs es rt) : NetA H q va ea vs es rt := ⟨n.top, n.ver, n.edg⟩
theorem NetA.same {H H' : Hp} {q va ea : Addr} {vs : List Str} {es : EdD} {rt : Str} (n : NetA H q va ea vs es rt) (s : Same H H') : NetA H' q va ea vs es rt := ⟨s _ _ n.top, s _ _ n.ver, s _ _ n.edg⟩
/-- the weight of a set of vertices -/
def crB (S : List Str) (e : Pr × Int) : Bool := decide (e.1.1 ∈ S) != decide (e.1.2 ∈ S)
def cutE (es : EdD) (S : List Str) : Int := ((es.filter (crB S)).map (·.2)).sum
end
end Wk
/-! tuples of any length, the first the empty one: sorted -/
namespace PySem.SeqAt
open MeetsSeq PyProof.Rows PySem.W
section
variable {prog : Program} {w : World} {A : Around} {E : Value → Shared → Prop} {s : Shared}
end
end PySem.SeqAt
namespace PySem.W
open PySem PySem.Calls PyProof.Rows
section
variable {prog : Program} {w : World} {A : Around} {E : Value → Shared → Prop} {s : Shared}
end
end PySem.W
namespace WkD
open PySem PySem.Spec PyProof.Rows L2 PySem.W
/-! ### sorted(xs): tuples of texts, the first the empty one -/
def encL (z : List Str) : PyData := .tuple (z.map PyData.str)
/-- the tuple at r is of these texts -/
def TupAt (K : PySem.W.Frag) (H : Hp) (x : V) (z : List Str) : Prop := ∃ r, x = .ref r ∧ SqT K H r (z.map V.str)
theorem dxs_strs {K : PySem.W.Frag} {H : Hp} : ∀ (ns : List Str), WkG.DxAll K H (ns.map V.str) (ns.map PyData.str)
  | [] => .nil
  | n :: ns => .cons (.str n) (dxs_strs ns)
theorem TupAt.dx {K : PySem.W.Frag} {H : Hp} {x : V} {z : List Str} (h : TupAt K H x z) : WkG.Dx K H x (encL z) := by
  obtain ⟨r, rfl, h⟩ := h
  exact .tup h (dxs_strs z)
section
variable {X : Cx}
end
end WkD
namespace Wk
open PySem PySem.Spec PyProof.Rows L2 WkD WkN WkE PySem.W
/-- all sublists, in the order in which they are made -/
def subsL (l : List Str) : List (List Str) := l.foldl (fun acc x => acc ++ acc.map (· ++ [x])) [[]]
theorem subsL_snoc (l : List Str) (x : Str) : subsL (l ++ [x]) = subsL l ++ (subsL l).map (· ++ [x]) := by
  unfold subsL
  rw [List.foldl_append]
  rfl
theorem snoc_ind {p : List Str → Prop} (h0 : p []) (h1 : ∀ l x, p l → p (l ++ [x])) (l : List Str) : p l := by
  rw [← List.reverse_reverse l]
  induction l.reverse with
  | nil => exact h0
  | cons x r ih =>
    rw [List.reverse_cons]
    exact h1 _ _ ih
theorem subsL_mem (l : List Str) : ∀ S, S ∈ subsL l ↔ S.Sublist l := by
  refine snoc_ind (p := fun l => ∀ S, S ∈ subsL l ↔ S.Sublist l) (fun S => ?_) (fun l x ih S => ?_) l
  · show S ∈ [[]] ↔ _
    rw [List.mem_singleton, List.sublist_nil]
  · rw [subsL_snoc, List.mem_append, List.mem_map, List.sublist_append_iff]
    constructor
    · rintro (h | ⟨T, hT, rfl⟩)
      · exact ⟨S, [], by simp, (ih S).mp h, List.nil_sublist _⟩
      · exact ⟨T, [x], rfl, (ih T).mp hT, List.Sublist.refl _⟩
    · rintro ⟨a, b, rfl, ha, hb⟩
      cases b with
      | nil => exact .inl (by rw [List.append_nil]; exact (ih a).mpr ha)
      | cons y r =>
        have e : y :: r = [x] := by
          cases hb with
          | cons _ h => cases h
          | cons_cons _ h => cases h; rfl
        rw [e]
        exact .inr ⟨a, (ih a).mpr ha, rfl⟩
/-- all sides of a network, in ascending order -/
def sidesL (vs : List Str) (rt : Str) : List (List Str) := ((subsL (vs.filter fun v => decide (v ≠ rt))).mergeSort (PySem.W.dataLe false encL)).drop 1
theorem TupAt.same {K : PySem.W.Frag} {H H' : Hp} {x : V} {z : List Str} (s : Same H H') (h : TupAt K H x z) : TupAt K H' x z := by
  obtain ⟨r, e, h⟩ := h
  exact ⟨r, e, WkG.seqT_same s h⟩
section
variable {P : Program} {w : World} {K : PySem.W.Frag} {mg : Str → Option Value} {base : Heap}
end
end Wk
namespace WkP
open PySem WkN
/-! ### weights of cuts -/
abbrev Sd := Str → Bool
def sm (l : List Str) (f : Str → Int) : Int := (l.map f).sum
theorem sm_nil (f : Str → Int) : sm [] f = 0 := rfl
theorem sm_cons (a : Str) (l : List Str) (f : Str → Int) : sm (a :: l) f = f a + sm l f := by simp [sm]
theorem sm_app (l m : List Str) (f : Str → Int) : sm (l ++ m) f = sm l f + sm m f := by simp [sm]
theorem sm_add (l : List Str) (f g : Str → Int) : sm l (fun x => f x + g x) = sm l f + sm l g := by
  induction l with
  | nil => rfl
  | cons a r ih =>
    rw [sm_cons, sm_cons, sm_cons, ih]
    omega
theorem sm_congr {l : List Str} {f g : Str → Int} (h : ∀ x ∈ l, f x = g x) : sm l f = sm l g := by
  unfold sm
  rw [List.map_congr_left h]
theorem sm_zero {l : List Str} {f : Str → Int} (h : ∀ x ∈ l, f x = 0) : sm l f = 0 := by
  induction l with
  | nil => rfl
  | cons a r ih => rw [sm_cons, h a List.mem_cons_self, ih fun x hx => h x (List.mem_cons_of_mem _ hx)]; rfl
theorem sm_le {l : List Str} {f g : Str → Int} (h : ∀ x ∈ l, f x ≤ g x) : sm l f ≤ sm l g := by
  induction l with
  | nil => exact Int.le_refl _
  | cons a r ih =>
    have h1 := h a List.mem_cons_self
    have h2 := ih fun x hx => h x (List.mem_cons_of_mem _ hx)
    rw [sm_cons, sm_cons]
    omega
theorem sm_nonneg {l : List Str} {f : Str → Int} (h : ∀ x ∈ l, 0 ≤ f x) : 0 ≤ sm l f := by
  have := sm_le (f := fun _ => 0) h
  rwa [sm_zero fun _ _ => rfl] at this
theorem sm_perm {l m : List Str} (p : l.Perm m) (f : Str → Int) : sm l f = sm m f := by
  induction p with
  | nil => rfl
  | cons a _ ih => rw [sm_cons, sm_cons, ih]
  | swap a b l =>
    rw [sm_cons, sm_cons, sm_cons, sm_cons]
    omega
  | trans _ _ h1 h2 => exact h1.trans h2
abbrev Wf := Str → Str → Int
/-- from inside to outside -/
def cutW (l : List Str) (w : Wf) (S : Sd) : Int := sm l fun u => sm l fun v => if S u = true ∧ S v = false then w u v else 0
/-- what v is joined by to the other side, to its own -/
def dif (l : List Str) (w : Wf) (S : Sd) (v : Str) : Int := sm l fun p => if S p = S v then 0 else w p v
def sme (l : List Str) (w : Wf) (S : Sd) (v : Str) : Int := sm l fun p => if S p = S v then w p v else 0
theorem dif_sme (l : List Str) (w : Wf) (S : Sd) (v : Str) : sm l (fun p => w p v) = sme l w S v + dif l w S v := by
  unfold sme dif
  rw [← sm_add]
  refine sm_congr fun p _ => ?_
  split <;> omega
theorem cutW_snoc {l : List Str} {w : Wf} {S : Sd} {v : Str} (sy : ∀ p ∈ l, w v p = w p v) : cutW (l ++ [v]) w S = cutW l w S + dif l w S v := by
  unfold cutW dif
  rw [sm_app, sm_cons, sm_nil]
  have e1 : sm l (fun u => sm (l ++ [v]) fun x => if S u = true ∧ S x = false then w u x else 0) = sm l (fun u => sm l fun x => if S u = true ∧ S x = false then w u x else 0) + sm l fun u => if S u = true ∧ S v = false then w u v else 0 := by
    rw [← sm_add]
    refine sm_congr fun u _ => ?_
    rw [sm_app, sm_cons, sm_nil]
    omega
  rw [e1, sm_app, sm_cons, sm_nil]
  have e2 : (if S v = true ∧ S v = false then w v v else 0) = 0 := if_neg fun h => by rw [h.1] at h; cases h.2
  rw [e2]
  have e3 : sm l (fun p => if S p = S v then 0 else w p v) = sm l (fun u => if S u = true ∧ S v = false then w u v else 0) + sm l fun x => if S v = true ∧ S x = false then w v x else 0 := by
    rw [← sm_add]
    refine sm_congr fun p hp => ?_
    rw [sy p hp]
    cases S p <;> cases S v <;> simp
  rw [e3]
  omega
theorem cutW_perm {l m : List Str} (p : l.Perm m) (w : Wf) (S : Sd) : cutW l w S = cutW m w S := by
  unfold cutW
  rw [sm_perm p]
  exact sm_congr fun u _ => sm_perm p _
theorem cutW_congr {l : List Str} {w w' : Wf} {S S' : Sd} (hw : ∀ u ∈ l, ∀ v ∈ l, u ≠ v → w u v = w' u v) (hS : ∀ u ∈ l, S u = S' u) : cutW l w S = cutW l w' S' := by
  unfold cutW
  refine sm_congr fun u hu => sm_congr fun v hv => ?_
  rw [hS u hu, hS v hv]
  by_cases h : S' u = true ∧ S' v = false
  · rw [if_pos h, if_pos h]
    refine hw u hu v hv fun e => ?_
    rw [e, h.2] at h
    cases h.1
  · rw [if_neg h, if_neg h]
theorem cutW_nonneg {l : List Str} {w : Wf} {S : Sd} (h : ∀ u ∈ l, ∀ v ∈ l, 0 ≤ w u v) : 0 ≤ cutW l w S := sm_nonneg fun u hu => sm_nonneg fun v hv => by
  split
  · exact h u hu v hv
  · exact Int.le_refl _
/-! ### an order by connection ends with a least cut between its last two -/
section
variable {Vs : List Str} {w : Wf} {S : Sd}
/-- P, v an order so far -/
theorem ma_step (nn : ∀ u ∈ Vs, ∀ v ∈ Vs, 0 ≤ w u v) (sy : ∀ u ∈ Vs, ∀ v ∈ Vs, w u v = w v u) {P : List Str} {a v : Str} (sub : ∀ p ∈ P ++ [a], p ∈ Vs) (hv : v ∈ Vs) (best : ∀ u ∈ Vs, u ∉ P ++ [a] → sm (P ++ [a]) (fun p => w p u) ≤ sm (P ++ [a]) (fun p => w p v)) (hn : v ∉ P ++ [a])
    (J : ∀ u ∈ Vs, u ∉ P ++ [a] → S u ≠ S a → sme (P ++ [a]) w S u ≤ cutW (P ++ [a]) w S) :
    ∀ u ∈ Vs, u ∉ (P ++ [a]) ++ [v] → S u ≠ S v → sme ((P ++ [a]) ++ [v]) w S u ≤ cutW ((P ++ [a]) ++ [v]) w S := by
  intro u hu hun hne
  have hun1 : u ∉ P ++ [a] := fun h => hun (List.mem_append_left _ h)
  rw [cutW_snoc fun p hp => sy v hv p (sub p hp)]
  have e1 : sme ((P ++ [a]) ++ [v]) w S u = sme (P ++ [a]) w S u := by
    unfold sme
    rw [sm_app _ [v], sm_cons, sm_nil, if_neg (Ne.symm hne)]
    omega
  rw [e1]
  have dn : 0 ≤ dif (P ++ [a]) w S v := sm_nonneg fun p hp => by
    split
    · exact Int.le_refl _
    · exact nn p (sub p hp) v hv
  by_cases h : S a = S v
  · have := J u hu hun1 (by rw [h]; exact hne)
    omega
  · have h1 := J v hv hn (Ne.symm h)
    have h2 := best u hu hun1
    rw [dif_sme (P ++ [a]) w S u, dif_sme (P ++ [a]) w S v] at h2
    have du : 0 ≤ dif (P ++ [a]) w S u := sm_nonneg fun p hp => by
      split
      · exact Int.le_refl _
      · exact nn p (sub p hp) u hu
    omega
theorem ma_all (nn : ∀ u ∈ Vs, ∀ v ∈ Vs, 0 ≤ w u v) (sy : ∀ u ∈ Vs, ∀ v ∈ Vs, w u v = w v u) {done : List Str} (nd : done.Nodup) (sub : ∀ x ∈ done, x ∈ Vs) (best : ∀ (i : Nat) (x : Str), done[i]? = some x → ∀ u ∈ Vs, u ∉ done.take i → sm (done.take i) (fun p => w p u) ≤ sm (done.take i) (fun p => w p x)) :
    ∀ (k : Nat) (P : List Str) (a : Str), k < done.length → done.take (k + 1) = P ++ [a] → ∀ u ∈ Vs, u ∉ P ++ [a] → S u ≠ S a → sme (P ++ [a]) w S u ≤ cutW (P ++ [a]) w S := by
  intro k
  induction k with
  | zero =>
    intro P a hk e u hu hun hne
    have hP : P = [] := by
      have := congrArg List.length e
      rw [List.length_take, List.length_append, List.length_singleton] at this
      exact List.length_eq_zero_iff.mp (by omega)
    subst hP
    have e1 : sme ([] ++ [a]) w S u = 0 := sm_zero fun p hp => by
      have hp : p = a := by simpa using hp
      rw [hp, if_neg (Ne.symm hne)]
    rw [e1]
    have hP : ∀ p ∈ ([] ++ [a] : List Str), p ∈ Vs := fun p hp => sub p (List.mem_of_mem_take (e ▸ hp))
    exact cutW_nonneg fun x hx y hy => nn x (hP x hx) y (hP y hy)
  | succ k ih =>
    intro P a hk e
    have hk1 : k + 1 < done.length := hk
    have tk : done.take (k + 1 + 1) = done.take (k + 1) ++ [done[k + 1]] := takeS (List.getElem?_eq_getElem hk1)
    rw [tk] at e
    obtain ⟨e1, e2⟩ := List.append_inj' e rfl
    have ea : done[k + 1] = a := by simpa using e2
    obtain ⟨P', a', e3⟩ : ∃ P' a', done.take (k + 1) = P' ++ [a'] := by
      have tk' : done.take (k + 1) = done.take k ++ [done[k]] := takeS (List.getElem?_eq_getElem (by omega))
      exact ⟨_, _, tk'⟩
    have J := ih P' a' (by omega) e3
    have hat : done[k + 1]? = some a := by rw [List.getElem?_eq_getElem hk1, ea]
    have hav : a ∈ Vs := sub a (List.mem_of_getElem? hat)
    have hnin : a ∉ done.take (k + 1) := by
      rw [← ea]
      intro z
      obtain ⟨j, hj, e⟩ := List.mem_iff_getElem.mp z
      rw [List.length_take] at hj
      rw [List.getElem_take] at e
      have := (List.getElem_inj nd).mp e
      omega
    have bt := best (k + 1) a hat
    rw [e3] at bt hnin
    rw [← e1, e3]
    exact ma_step nn sy (fun p hp => sub p (List.mem_of_mem_take (e3 ▸ hp))) hav bt hnin J
/-- the last one's connection is no more than any cut between the last two -/
theorem ma_last (nn : ∀ u ∈ Vs, ∀ v ∈ Vs, 0 ≤ w u v) (sy : ∀ u ∈ Vs, ∀ v ∈ Vs, w u v = w v u) {pre : List Str} {x l : Str} (nd : (pre ++ [x, l]).Nodup) (sub : ∀ y ∈ pre ++ [x, l], y ∈ Vs)
    (best : ∀ (i : Nat) (y : Str), (pre ++ [x, l])[i]? = some y → ∀ u ∈ Vs, u ∉ (pre ++ [x, l]).take i → sm ((pre ++ [x, l]).take i) (fun p => w p u) ≤ sm ((pre ++ [x, l]).take i) (fun p => w p y)) (hS : S x ≠ S l) :
    sm (pre ++ [x]) (fun p => w p l) ≤ cutW (pre ++ [x, l]) w S := by
  have e : (pre ++ [x, l]).take (pre.length + 1) = pre ++ [x] := by
    rw [show pre ++ [x, l] = (pre ++ [x]) ++ [l] by simp, List.take_append_of_le_length (by simp)]
    exact List.take_of_length_le (by simp)
  have hl : l ∉ pre ++ [x] := fun z => by
    rw [show pre ++ [x, l] = (pre ++ [x]) ++ [l] by simp, List.nodup_append] at nd
    exact nd.2.2 l z l (by simp) rfl
  have J := ma_all (S := S) nn sy nd sub best pre.length pre x (by simp) e l (sub l (by simp)) hl (Ne.symm hS)
  have e2 : pre ++ [x, l] = (pre ++ [x]) ++ [l] := by simp
  rw [e2, cutW_snoc fun p hp => sy l (sub l (by simp)) p (sub p (by rw [e2]; exact List.mem_append_left _ hp)), dif_sme _ _ S]
  omega
end
end WkP
namespace WkP
open PySem WkN
theorem conn_sm (nb : Nb) (wt : Wt) (S : List Str) (u : Str) : conn nb wt S u = sm S fun p => vl0 nb wt p u := rfl
/-- two become one -/
theorem cut_merge {R : List Str} {x l : Str} {w w2 : Wf} {S : Sd} (sy : ∀ u ∈ (R ++ [x]) ++ [l], ∀ v ∈ (R ++ [x]) ++ [l], w u v = w v u) (hS : S l = S x) (hR : ∀ u ∈ R, ∀ v ∈ R, u ≠ v → w2 u v = w u v) (hx : ∀ r ∈ R, w2 r x = w r x + w r l) (hx2 : ∀ r ∈ R, w2 x r = w2 r x) :
    cutW ((R ++ [x]) ++ [l]) w S = cutW (R ++ [x]) w2 S := by
  have m1 : ∀ r ∈ R, r ∈ (R ++ [x]) ++ [l] := fun r hr => List.mem_append_left _ (List.mem_append_left _ hr)
  have m2 : x ∈ (R ++ [x]) ++ [l] := by simp
  have m3 : l ∈ (R ++ [x]) ++ [l] := by simp
  rw [cutW_snoc fun p hp => sy l m3 p (List.mem_append_left _ hp), cutW_snoc fun p hp => sy x m2 p (m1 p hp), cutW_snoc fun p hp => hx2 p hp]
  have e1 : dif (R ++ [x]) w S l = dif R w S l := by
    unfold dif
    rw [sm_app, sm_cons, sm_nil, if_pos hS.symm]
    omega
  have e2 : dif R w2 S x = dif R w S x + dif R w S l := by
    unfold dif
    rw [← sm_add]
    refine sm_congr fun p hp => ?_
    rw [hx p hp, hS]
    split <;> omega
  have e3 : cutW R w2 S = cutW R w S := cutW_congr hR fun _ _ => rfl
  rw [e1, e2, e3]
  omega
structure SW (Vs : List Str) (w : Wf) (Ws : List Str) (w' : Wf) (grp : Str → List Str) (best : Option (Int × List Str)) : Prop where
  nd : Ws.Nodup
  part : ∀ y ∈ Vs, ∃ u ∈ Ws, y ∈ grp u
  gne : ∀ u ∈ Ws, grp u ≠ []
  lift : ∀ S S' : Sd, (∀ u ∈ Ws, ∀ y ∈ grp u, S y = S' u) → cutW Vs w S = cutW Ws w' S'
  nn : ∀ u ∈ Ws, ∀ v ∈ Ws, 0 ≤ w' u v
  sy : ∀ u ∈ Ws, ∀ v ∈ Ws, w' u v = w' v u
  low : ∀ S : Sd, (∃ S' : Sd, ∀ u ∈ Ws, ∀ y ∈ grp u, S y = S' u) ∨ ∃ n m, best = some (n, m) ∧ n ≤ cutW Vs w S
  bst : ∀ n m, best = some (n, m) → n = cutW Vs w (fun y => decide (y ∈ m)) ∧ m ≠ [] ∧ (∀ y ∈ m, y ∈ Vs) ∧ ∃ y ∈ Vs, y ∉ m
theorem vl0_sym {Vs : List Str} {nb : Nb} {wt : Wt} (sy : Sym Vs nb wt) : ∀ u ∈ Vs, ∀ v ∈ Vs, vl0 nb wt u v = vl0 nb wt v u := fun u hu v hv => by
  unfold vl0
  have a := sy.mem u hu v
  have b := sy.mem v hv u
  grind
theorem better_le {best : Option (Int × List Str)} {n : Int} {g : List Str} {k : Int} (h : n ≤ k ∨ ∃ a m, best = some (a, m) ∧ a ≤ k) : ∃ a m, better best n g = some (a, m) ∧ a ≤ k := by
  unfold better
  cases best with
  | none =>
    rcases h with h | ⟨a, m, e, _⟩
    · exact ⟨n, g, rfl, h⟩
    · cases e
  | some p =>
    obtain ⟨b, m⟩ := p
    show ∃ a m', (if n < b then some (n, g) else some (b, m)) = some (a, m') ∧ a ≤ k
    split
    · rename_i hlt
      refine ⟨n, g, rfl, ?_⟩
      rcases h with h | ⟨a, m', e, ha⟩
      · exact h
      · cases e
        omega
    · rename_i hge
      refine ⟨b, m, rfl, ?_⟩
      rcases h with h | ⟨a, m', e, ha⟩
      · omega
      · cases e
        exact ha
theorem better_is {best : Option (Int × List Str)} {n : Int} {g : List Str} {a : Int} {m : List Str} (h : better best n g = some (a, m)) : (a = n ∧ m = g) ∨ best = some (a, m) := by
  unfold better at h
  cases best with
  | none =>
    cases h
    exact .inl ⟨rfl, rfl⟩
  | some p =>
    obtain ⟨b, m'⟩ := p
    have h : (if n < b then some (n, g) else some (b, m')) = some (a, m) := h
    split at h
    · cases h
      exact .inl ⟨rfl, rfl⟩
    · exact .inr h
theorem Phases.sw {Vs : List Str} {nb : Nb} {wt : Wt} (hV : Vs.Nodup) (sy0 : Sym Vs nb wt) (nn0 : ∀ u ∈ Vs, ∀ v ∈ Vs, 0 ≤ vl0 nb wt u v) {Ws : List Str} {nb' : Nb} {wt' : Wt} {grp : Str → List Str} {best : Option (Int × List Str)} (p : Phases Vs nb wt Ws nb' wt' grp best) :
    SW Vs (vl0 nb wt) Ws (vl0 nb' wt') grp best := by
  induction p with
  | start => exact ⟨hV, fun y hy => ⟨y, hy, by simp⟩, fun u _ => by simp, fun S S' h => cutW_congr (fun _ _ _ _ _ => rfl) fun u hu => h u hu u (by simp), nn0, vl0_sym sy0, fun S => .inl ⟨S, fun u hu y hy => by rw [List.mem_singleton.mp hy]⟩, fun n m h => nomatch h⟩
  | @step Ws nb' nb'' wt' wt'' grp best x l n p lt mg ih =>
    have gs := p.grps
    obtain ⟨hx, hl, hne⟩ := lt.mem
    obtain ⟨pre, pr, cov, en⟩ := lt
    have mw : ∀ u, u ∈ (Ws.filter fun y => decide (y ≠ l)) ↔ u ∈ Ws ∧ u ≠ l := fun u => by rw [List.mem_filter, decide_eq_true_iff]
    have pmD : (pre ++ [x, l]).Perm Ws := (List.perm_ext_iff_of_nodup pr.nd ih.nd).mpr fun y => ⟨pr.sub y, cov y⟩
    have e2 : pre ++ [x, l] = (pre ++ [x]) ++ [l] := by simp
    have nd2 := pr.nd
    rw [e2, List.nodup_append] at nd2
    have pmF : (pre ++ [x]).Perm (Ws.filter fun y => decide (y ≠ l)) := (List.perm_ext_iff_of_nodup nd2.1 (ih.nd.filter _)).mpr fun y => by
      rw [mw]
      constructor
      · intro h
        exact ⟨pr.sub y (by rw [e2]; exact List.mem_append_left _ h), fun e => nd2.2.2 y h l (by simp) e⟩
      · rintro ⟨h1, h2⟩
        have := cov y h1
        rw [e2, List.mem_append] at this
        rcases this with h | h
        · exact h
        · exact absurd (List.mem_singleton.mp h) h2
    have inW : ∀ y ∈ (pre ++ [x]) ++ [l], y ∈ Ws := fun y hy => pr.sub y (by rw [e2]; exact hy)
    have nd3 := nd2.1
    rw [List.nodup_append] at nd3
    have rx : ∀ r ∈ pre, r ≠ x := fun r hr e => nd3.2.2 r hr x (by simp) e
    have rl : ∀ r ∈ pre, r ≠ l := fun r hr e => nd2.2.2 r (List.mem_append_left _ hr) l (by simp) e
    have w2 : ∀ u v, u ∈ Ws → u ≠ l → v ∈ Ws → v ≠ l → u ≠ v → vl0 nb'' wt'' u v = vl0 nb' wt' u v + (if u = x then vl0 nb' wt' l v else 0) + (if v = x then vl0 nb' wt' l u else 0) := fun u v hu hul hv hvl huv => by
      have huw := (mw u).mpr ⟨hu, hul⟩
      have hm := mg.mem u huw v
      have hvv := mg.val u huw v
      have s1 := ih.sy l hl u hu
      by_cases h : v ∈ nb'' u
      · have := hvv h
        unfold vl0 at this ⊢
        rw [if_pos h]
        exact this
      · have h2 : ¬ (v ∈ nb' u ∨ (u = x ∧ v ∈ nb' l) ∨ (v = x ∧ l ∈ nb' u)) := fun z => h (hm.mpr ⟨hvl, Ne.symm huv, z⟩)
        rw [not_or, not_or] at h2
        have z1 : vl0 nb'' wt'' u v = 0 := if_neg h
        have z2 : vl0 nb' wt' u v = 0 := if_neg h2.1
        have z3 : (if u = x then vl0 nb' wt' l v else 0) = 0 := by
          split
          · rename_i e
            exact if_neg fun z => h2.2.1 ⟨e, z⟩
          · rfl
        have z4 : (if v = x then vl0 nb' wt' l u else 0) = 0 := by
          split
          · rename_i e
            rw [s1]
            exact if_neg fun z => h2.2.2 ⟨e, z⟩
          · rfl
        rw [z1, z2, z3, z4]
        rfl
    have sy2 : ∀ u ∈ (Ws.filter fun y => decide (y ≠ l)), ∀ v ∈ (Ws.filter fun y => decide (y ≠ l)), vl0 nb'' wt'' u v = vl0 nb'' wt'' v u := vl0_sym mg.sym
    have cutM : ∀ S : Sd, S l = S x → cutW Ws (vl0 nb' wt') S = cutW (Ws.filter fun y => decide (y ≠ l)) (vl0 nb'' wt'') S := fun S hS => by
      rw [← cutW_perm pmD, ← cutW_perm pmF, e2]
      have pw : ∀ r ∈ pre, r ∈ Ws := fun r hr => inW r (List.mem_append_left _ (List.mem_append_left _ hr))
      refine cut_merge (fun u hu v hv => ih.sy u (inW u hu) v (inW v hv)) hS (fun u hu v hv huv => ?_) (fun r hr => ?_) (fun r hr => ?_)
      · rw [w2 u v (pw u hu) (rl u hu) (pw v hv) (rl v hv) huv, if_neg (rx u hu), if_neg (rx v hv)]
        omega
      · rw [w2 r x (pw r hr) (rl r hr) hx hne (rx r hr), if_neg (rx r hr), if_pos rfl, ih.sy l hl r (pw r hr)]
        omega
      · exact sy2 x ((mw x).mpr ⟨hx, hne⟩) r ((mw r).mpr ⟨pw r hr, rl r hr⟩)
    have gl : ∀ u, u ∈ (Ws.filter fun y => decide (y ≠ l)) → ∀ y, y ∈ grow grp x l u ↔ y ∈ grp u ∨ (u = x ∧ y ∈ grp l) := fun u hu y => by
      unfold grow
      by_cases e : u = x
      · subst e
        rw [if_pos rfl, List.mem_append]
        simp
      · rw [if_neg e]
        simp [e]
    have ncut : n = cutW Vs (vl0 nb wt) fun y => decide (y ∈ grp l) := by
      rw [ih.lift (fun y => decide (y ∈ grp l)) (fun u => decide (u = l)) fun u hu y hy => ?_]
      · rw [← cutW_perm pmD, e2, cutW_snoc fun q hq => ih.sy l hl q (inW q (List.mem_append_left _ hq)), en, conn_sm]
        have z1 : cutW (pre ++ [x]) (vl0 nb' wt') (fun u => decide (u = l)) = 0 := sm_zero fun u hu => sm_zero fun v hv => if_neg fun h => by
          have h1 : u = l := of_decide_eq_true h.1
          exact nd2.2.2 u hu l (by simp) h1
        rw [z1, Int.zero_add]
        unfold dif
        refine sm_congr fun q hq => ?_
        have hq2 : q ≠ l := fun e => nd2.2.2 q hq l (by simp) e
        exact (if_neg (by simp [hq2])).symm
      · by_cases e : u = l
        · subst e
          rw [decide_eq_true hy, decide_eq_true rfl]
        · rw [decide_eq_false e, decide_eq_false fun z => e (gs.dis u hu l hl y hy z)]
    refine ⟨ih.nd.filter _, fun y hy => ?_, fun u hu => ?_, fun S S' h => ?_, fun u hu v hv => ?_, sy2, fun S => ?_, fun a m h => ?_⟩
    · obtain ⟨u, hu, hyu⟩ := ih.part y hy
      by_cases e : u = l
      · subst e
        exact ⟨x, (mw x).mpr ⟨hx, hne⟩, (gl x ((mw x).mpr ⟨hx, hne⟩) y).mpr (.inr ⟨rfl, hyu⟩)⟩
      · exact ⟨u, (mw u).mpr ⟨hu, e⟩, (gl u ((mw u).mpr ⟨hu, e⟩) y).mpr (.inl hyu)⟩
    · have hu' := (mw u).mp hu
      unfold grow
      split
      · intro z
        exact ih.gne x hx (List.append_eq_nil_iff.mp z).1
      · exact ih.gne u hu'.1
    · have hS2 : ∀ u ∈ Ws, ∀ y ∈ grp u, S y = (fun v => if v = l then S' x else S' v) u := fun u hu y hy => by
        show S y = if u = l then S' x else S' u
        by_cases e : u = l
        · rw [if_pos e]
          rw [e] at hy
          exact h x ((mw x).mpr ⟨hx, hne⟩) y ((gl x ((mw x).mpr ⟨hx, hne⟩) y).mpr (.inr ⟨rfl, hy⟩))
        · rw [if_neg e]
          exact h u ((mw u).mpr ⟨hu, e⟩) y ((gl u ((mw u).mpr ⟨hu, e⟩) y).mpr (.inl hy))
      rw [ih.lift S _ hS2, cutM (fun v => if v = l then S' x else S' v) (by show (if l = l then S' x else S' l) = if x = l then S' x else S' x; rw [if_pos rfl, if_neg hne])]
      exact cutW_congr (fun _ _ _ _ _ => rfl) fun u hu => if_neg ((mw u).mp hu).2
    · by_cases e : u = v
      · subst e
        have := (mg.sym.mem u hu u)
        unfold vl0
        rw [if_neg fun z => (this z).2.1 rfl]
        exact Int.le_refl _
      · obtain ⟨u1, u2⟩ := (mw u).mp hu
        obtain ⟨v1, v2⟩ := (mw v).mp hv
        rw [w2 u v u1 u2 v1 v2 e]
        have a1 := ih.nn u u1 v v1
        have a2 := ih.nn l hl v v1
        have a3 := ih.nn l hl u u1
        split <;> split <;> omega
    · rcases ih.low S with ⟨S', hS'⟩ | ⟨a, m, e, ha⟩
      · by_cases hxl : S' x = S' l
        · refine .inl ⟨S', fun u hu y hy => ?_⟩
          rcases (gl u hu y).mp hy with h | ⟨rfl, h⟩
          · exact hS' u ((mw u).mp hu).1 y h
          · rw [hS' l hl y h, hxl]
        · refine .inr (better_le (.inl ?_))
          rw [ih.lift S S' hS', ← cutW_perm pmD, en, conn_sm]
          exact ma_last ih.nn ih.sy pr.nd (fun y hy => pr.sub y hy) (fun i y hy u hu hun => pr.best i y hy u hu hun) hxl
      · exact .inr (better_le (.inr ⟨a, m, e, ha⟩))
    · rcases better_is h with ⟨rfl, rfl⟩ | h
      · refine ⟨ncut, ih.gne l hl, fun y hy => gs.mem l hl y hy, ?_⟩
        obtain ⟨y, hy⟩ := List.exists_mem_of_ne_nil _ (ih.gne x hx)
        exact ⟨y, gs.mem x hx y hy, fun z => hne (gs.dis x hx l hl y hy z)⟩
      · exact ih.bst a m h
/-- what the program finds is the least weight of a cut -/
theorem LeastCut.least {Vs : List Str} {nb : Nb} {wt : Wt} {n : Int} {m : List Str} (lc : LeastCut Vs nb wt n m) (hV : Vs.Nodup) (sy : Sym Vs nb wt) (nn : ∀ u ∈ Vs, ∀ v ∈ Vs, 0 ≤ vl0 nb wt u v) :
    (n = cutW Vs (vl0 nb wt) (fun y => decide (y ∈ m)) ∧ m ≠ [] ∧ (∀ y ∈ m, y ∈ Vs) ∧ ∃ y ∈ Vs, y ∉ m) ∧ ∀ S : Sd, (∃ y ∈ Vs, S y = true) → (∃ y ∈ Vs, S y = false) → n ≤ cutW Vs (vl0 nb wt) S := by
  obtain ⟨Ws, nb', wt', grp, p, hl⟩ := lc
  have sw := p.sw hV sy nn
  refine ⟨sw.bst n m rfl, fun S ⟨y1, h1, g1⟩ ⟨y2, h2, g2⟩ => ?_⟩
  rcases sw.low S with ⟨S', hS'⟩ | ⟨a, m', e, ha⟩
  · obtain ⟨u1, k1, j1⟩ := sw.part y1 h1
    obtain ⟨u2, k2, j2⟩ := sw.part y2 h2
    have e : u1 = u2 := by
      match Ws, hl, k1, k2 with
      | [c], _, k1, k2 => rw [List.mem_singleton.mp k1, List.mem_singleton.mp k2]
    have q1 := hS' u1 k1 y1 j1
    have q2 := hS' u2 k2 y2 j2
    rw [← e] at q2
    rw [g1] at q1
    rw [g2, ← q1] at q2
    cases q2
  · cases e
    exact ha
end WkP
namespace Wk
open PySem PySem.Spec PyProof.Rows L2 WkD WkN WkP WkE
/-! ### the weight of a cut: by the rows, by the edges -/
theorem sm_filter (l : List Str) (p : Str → Bool) (f : Str → Int) : sm (l.filter p) f = sm l fun u => if p u = true then f u else 0 := by
  induction l with
  | nil => rfl
  | cons a l ih =>
    rw [sm_cons, ← ih]
    by_cases h : p a = true
    · rw [List.filter_cons_of_pos h, sm_cons, if_pos h]
    · rw [List.filter_cons_of_neg h, if_neg h]
      omega
theorem sm_sub {S l : List Str} (nS : S.Nodup) (nl : l.Nodup) (sub : ∀ u ∈ S, u ∈ l) (f : Str → Int) : sm S f = sm l fun u => if u ∈ S then f u else 0 := by
  have pm : (l.filter fun u => decide (u ∈ S)).Perm S := (List.perm_ext_iff_of_nodup (nl.filter _) nS).mpr fun u => by
    rw [List.mem_filter]
    exact ⟨fun h => of_decide_eq_true h.2, fun h => ⟨sub u h, decide_eq_true h⟩⟩
  rw [← sm_perm pm, sm_filter]
  exact sm_congr fun u _ => by simp
theorem sm_swap (l m : List Str) (f : Str → Str → Int) : (sm l fun u => sm m fun v => f u v) = sm m fun v => sm l fun u => f u v := by
  induction l with
  | nil => exact (sm_zero fun _ _ => rfl).symm
  | cons a l ih =>
    rw [sm_cons, ih, ← sm_add]
    exact sm_congr fun v _ => by rw [sm_cons]
theorem sum_flat (l : List Str) (f : Str → List Int) : (l.flatMap f).sum = sm l fun u => (f u).sum := by
  induction l with
  | nil => rfl
  | cons a l ih => rw [List.flatMap_cons, List.sum_append, ih, sm_cons]
/-- a row's sum, over all the vertices -/
theorem row_sum {Vs : List Str} {nb : Nb} {wt : Wt} (nV : Vs.Nodup) (sy : Sym Vs nb wt) {u : Str} (hu : u ∈ Vs) (p : Str → Bool) : (((nb u).filter p).map fun v => wt u v).sum = sm Vs fun v => if p v = true then vl0 nb wt u v else 0 := by
  have e : (((nb u).filter p).map fun v => wt u v).sum = sm ((nb u).filter p) fun v => wt u v := rfl
  rw [e, sm_filter, sm_sub (sy.nd u hu) nV fun v hv => (sy.mem u hu v hv).1]
  refine sm_congr fun v _ => ?_
  unfold vl0
  by_cases h1 : v ∈ nb u <;> by_cases h2 : p v = true <;> simp [h1, h2]
theorem edge_sum {Vs : List Str} {nb : Nb} {wt : Wt} (nV : Vs.Nodup) (sy : Sym Vs nb wt) (c : Str → Str → Bool) : (((edL Vs nb wt).filter fun e => c e.1 e.2.1).map fun e => e.2.2).sum = sm Vs fun u => sm Vs fun v => if ltS u v ∧ c u v = true then vl0 nb wt u v else 0 := by
  have e : (((edL Vs nb wt).filter fun e => c e.1 e.2.1).map fun e => e.2.2) = Vs.flatMap fun u => (((nb u).filter fun v => decide (ltS u v) && c u v).map fun v => wt u v) := by
    unfold edL
    rw [List.filter_flatMap, List.map_flatMap]
    congr 1
    funext u
    unfold edR
    rw [List.filter_map, List.map_map, List.filter_filter]
    congr 1
    refine List.filter_congr fun v _ => ?_
    simp [Bool.and_comm]
  rw [e, sum_flat]
  refine sm_congr fun u hu => ?_
  rw [row_sum nV sy hu]
  refine sm_congr fun v _ => ?_
  simp only [Bool.and_eq_true, decide_eq_true_eq]
theorem cut_edges {Vs : List Str} {nb : Nb} {wt : Wt} (nV : Vs.Nodup) (sy : Sym Vs nb wt) (S : Sd) : (((edL Vs nb wt).filter fun e => S e.1 != S e.2.1).map fun e => e.2.2).sum = cutW Vs (vl0 nb wt) S := by
  rw [edge_sum nV sy fun u v => S u != S v]
  have h1 : cutW Vs (vl0 nb wt) S = (sm Vs fun u => sm Vs fun v => if ltS u v ∧ S u = true ∧ S v = false then vl0 nb wt u v else 0) + (sm Vs fun u => sm Vs fun v => if ltS v u ∧ S u = true ∧ S v = false then vl0 nb wt u v else 0) := by
    unfold cutW
    rw [← sm_add]
    refine sm_congr fun u _ => ?_
    rw [← sm_add]
    refine sm_congr fun v _ => ?_
    by_cases h : S u = true ∧ S v = false
    · rw [if_pos h]
      have ne : u ≠ v := fun z => by
        subst z
        rw [h.1] at h
        exact absurd h.2 (by decide)
      rcases ltS_tri u v with q | q | q
      · rw [if_pos ⟨q, h⟩, if_neg fun z => ltS_irrefl _ (ltS_trans q z.1)]
        omega
      · exact absurd q ne
      · rw [if_neg fun z => ltS_irrefl _ (ltS_trans q z.1), if_pos ⟨q, h⟩]
        omega
    · rw [if_neg h, if_neg fun z => h z.2, if_neg fun z => h z.2]
      rfl
  rw [h1, sm_swap Vs Vs fun u v => if ltS v u ∧ S u = true ∧ S v = false then vl0 nb wt u v else 0, ← sm_add]
  refine sm_congr fun u hu => ?_
  rw [← sm_add]
  refine sm_congr fun v hv => ?_
  rw [vl0_sym sy v hv u hu]
  by_cases h : ltS u v
  · cases h1 : S u <;> cases h2 : S v <;> simp [h]
  · simp [h]
theorem nd_of {l : EdD} (h : (l.map (·.1)).Nodup) : l.Nodup := (List.pairwise_map.mp h).imp fun q e => q (congrArg _ e)
theorem sum_perm {l m : List Int} (p : l.Perm m) : l.sum = m.sum := by
  induction p with
  | nil => rfl
  | cons a _ ih => rw [List.sum_cons, List.sum_cons, ih]
  | swap a b l =>
    simp only [List.sum_cons]
    omega
  | trans _ _ h1 h2 => exact h1.trans h2
/-- by the drawn edges -/
theorem cutE_W {Vs : List Str} {nb : Nb} {wt : Wt} {es : EdD} (asc : Asc Vs) (sy : Sym Vs nb wt) (nd : (es.map (·.1)).Nodup) (ee : edL Vs nb wt = edS es) (S : List Str) : cutE es S = cutW Vs (vl0 nb wt) fun u => decide (u ∈ S) := by
  rw [← cut_edges (asc_nodup asc) sy, ee]
  have pm : ((edS es).map fun e => (((e.1, e.2.1), e.2.2) : Pr × Int)).Perm es := by
    refine (List.perm_ext_iff_of_nodup ?_ (nd_of nd)).mpr fun ⟨⟨u, v⟩, n⟩ => ?_
    · have h := edS_asc nd
      refine nd_of ?_
      rw [List.map_map]
      refine List.pairwise_map.mpr (h.imp ?_)
      intro a b z q
      have q : ((a.1, a.2.1) : Pr) = (b.1, b.2.1) := q
      rw [q] at z
      exact ltP_irrefl _ z
    · rw [← edS_mem nd]
      constructor
      · intro h
        obtain ⟨⟨a, b, c⟩, hm, e⟩ := List.mem_map.mp h
        cases e
        exact hm
      · exact fun h => List.mem_map.mpr ⟨_, h, rfl⟩
  unfold cutE
  rw [← sum_perm ((pm.filter (crB S)).map (·.2)), List.filter_map, List.map_map]
  rfl
end Wk
namespace Wk
open PySem PySem.Spec PyProof.Rows L2 WkD WkN WkP WkE
/-! ### sides, the least weight -/
theorem leC (x : Str) (r : List Str) : PySem.W.dataLe false encL (x :: r) [] = false := rfl
theorem subsL_nodup {l : List Str} (nd : l.Nodup) : (subsL l).Nodup := by
  revert nd
  refine snoc_ind (p := fun l => l.Nodup → (subsL l).Nodup) (fun _ => by simp [subsL]) (fun l x ih nd => ?_) l
  rw [List.nodup_append] at nd
  have hx : x ∉ l := fun h => nd.2.2 x h x (by simp) rfl
  have A := ih nd.1
  rw [subsL_snoc, List.nodup_append]
  refine ⟨A, ?_, fun a ha b hb e => ?_⟩
  · refine List.pairwise_map.mpr (A.imp ?_)
    intro a b h e
    exact h (List.append_inj_left' e rfl)
  · obtain ⟨T, hT, rfl⟩ := List.mem_map.mp hb
    have s := ((subsL_mem l a).mp ha).subset
    rw [e] at s
    exact hx (s (List.mem_append_right _ (by simp)))
theorem sides_mem {vs : List Str} {rt : Str} (nd : vs.Nodup) (S : List Str) : S ∈ sidesL vs rt ↔ S.Sublist (vs.filter fun v => decide (v ≠ rt)) ∧ S ≠ [] := by
  obtain ⟨l, el⟩ : ∃ l, l = vs.filter fun v => decide (v ≠ rt) := ⟨_, rfl⟩
  have nl : l.Nodup := by rw [el]; exact nd.filter _
  unfold sidesL
  rw [← el]
  have tl := PySem.W.sortLe_total (PyProof.Rows.listOrd PyProof.Rows.itemOrd) false fun b => PySem.W.keyToks (encL b)
  have pm := List.mergeSort_perm (subsL l) (PySem.W.dataLe false encL)
  have so : ((subsL l).mergeSort (PySem.W.dataLe false encL)).Pairwise fun a b => PySem.W.dataLe false encL a b = true := List.pairwise_mergeSort (le := PySem.W.dataLe false encL) (fun a b c h k => tl.trans a b c h k) (fun a b => by
    rw [Bool.or_eq_true]
    exact tl.total a b) _
  have nL := pm.nodup_iff.mpr (subsL_nodup nl)
  have h0 : [] ∈ (subsL l).mergeSort (PySem.W.dataLe false encL) := pm.mem_iff.mpr ((subsL_mem l []).mpr (List.nil_sublist _))
  have hm : ∀ S, S ∈ (subsL l).mergeSort (PySem.W.dataLe false encL) ↔ S.Sublist l := fun S => pm.mem_iff.trans (subsL_mem l S)
  generalize (subsL l).mergeSort (PySem.W.dataLe false encL) = L at so nL h0 hm
  cases L with
  | nil => simp at h0
  | cons a L =>
    have ea : a = [] := by
      rcases List.mem_cons.mp h0 with h | h
      · exact h.symm
      · have q := (List.pairwise_cons.mp so).1 [] h
        cases a with
        | nil => rfl
        | cons x r =>
          rw [leC] at q
          cases q
    subst ea
    show S ∈ L ↔ _
    rw [← hm S, List.mem_cons]
    constructor
    · intro h
      exact ⟨.inr h, fun z => (List.nodup_cons.mp nL).1 (z ▸ h)⟩
    · rintro ⟨h | h, ne⟩
      · exact absurd h ne
      · exact h
theorem cutW_not {l : List Str} {w : Wf} (sy : ∀ u ∈ l, ∀ v ∈ l, w u v = w v u) (S : Sd) : cutW l w (fun u => !S u) = cutW l w S := by
  unfold cutW
  rw [sm_swap l l]
  refine sm_congr fun u hu => sm_congr fun v hv => ?_
  rw [sy v hv u hu]
  have e : ((!S v) = true ∧ (!S u) = false) ↔ (S u = true ∧ S v = false) := by
    cases S u <;> cases S v <;> simp
  by_cases h : S u = true ∧ S v = false
  · rw [if_pos h, if_pos (e.mpr h)]
  · rw [if_neg h, if_neg fun z => h (e.mp z)]
/-- the least weight of a side -/
theorem strength_eq {vs : List Str} {nb : Nb} {wt : Wt} {es : EdD} {rt : Str} {n m : Int} (lc : ∃ ms, LeastCut vs nb wt n ms) (go : GOk vs nb wt) (asc : Asc vs) (nd : (es.map (·.1)).Nodup) (ee : edL vs nb wt = edS es) (hrt : rt ∈ vs)
    (h1 : ∃ S ∈ sidesL vs rt, cutE es S = m) (h2 : ∀ S ∈ sidesL vs rt, m ≤ cutE es S) : n = m := by
  obtain ⟨ms, lc⟩ := lc
  have nn : ∀ u ∈ vs, ∀ v ∈ vs, 0 ≤ vl0 nb wt u v := fun u hu v hv => by
    unfold vl0
    split
    · rename_i h
      have := (go.wts u hu v h).1
      omega
    · exact Int.le_refl 0
  obtain ⟨⟨e1, ne, sub, y, hy, hny⟩, low⟩ := lc.least go.nd go.sym nn
  have cE := fun S => cutE_W (S := S) asc go.sym nd ee
  refine Int.le_antisymm ?_ ?_
  · obtain ⟨S, hS, rfl⟩ := h1
    obtain ⟨sl, ns⟩ := (sides_mem go.nd S).mp hS
    rw [cE S]
    refine low _ ?_ ⟨rt, hrt, decide_eq_false fun h => ?_⟩
    · obtain ⟨z, r, e⟩ : ∃ z r, S = z :: r := by
        cases S with
        | nil => exact absurd rfl ns
        | cons z r => exact ⟨z, r, rfl⟩
      have hz : z ∈ S := by rw [e]; exact List.mem_cons_self
      exact ⟨z, (List.mem_filter.mp (sl.subset hz)).1, decide_eq_true hz⟩
    · have := (List.mem_filter.mp (sl.subset h)).2
      simp at this
  · obtain ⟨p, hp⟩ : ∃ p : Str → Bool, p = fun v => decide (v ∈ ms) != decide (rt ∈ ms) := ⟨_, rfl⟩
    have prt : p rt = false := by rw [hp]; simp
    have hS : vs.filter p ∈ sidesL vs rt := by
      refine (sides_mem go.nd _).mpr ⟨?_, fun z => ?_⟩
      · have e : vs.filter p = (vs.filter fun v => decide (v ≠ rt)).filter p := by
          rw [List.filter_filter]
          refine List.filter_congr fun v _ => ?_
          by_cases h : v = rt
          · rw [h, prt]
            rfl
          · simp [h]
        rw [e]
        exact List.filter_sublist
      · have none : ∀ v ∈ vs, p v = false := fun v hv => by
          have := List.filter_eq_nil_iff.mp z v hv
          simpa using this
        by_cases h : rt ∈ ms
        · have := none y hy
          rw [hp] at this
          simp [h, hny] at this
        · cases hms : ms with
          | nil => exact ne hms
          | cons a r =>
            have ha : a ∈ ms := by rw [hms]; exact List.mem_cons_self
            have := none a (sub a ha)
            rw [hp] at this
            simp [h, ha] at this
    have q := h2 _ hS
    rw [cE] at q
    have e : cutW vs (vl0 nb wt) (fun u => decide (u ∈ vs.filter p)) = cutW vs (vl0 nb wt) p := cutW_congr (fun _ _ _ _ _ => rfl) fun u hu => by
      by_cases h : p u = true
      · rw [h]
        exact decide_eq_true (List.mem_filter.mpr ⟨hu, h⟩)
      · rw [Bool.not_eq_true] at h
        rw [h]
        exact decide_eq_false fun z => by
          rw [(List.mem_filter.mp z).2] at h
          cases h
    have e2 : cutW vs (vl0 nb wt) p = n := by
      rw [e1, hp]
      by_cases h : rt ∈ ms
      · rw [← cutW_not (vl0_sym go.sym) fun y => decide (y ∈ ms)]
        congr 1
        funext v
        simp [h]
      · congr 1
        funext v
        simp [h]
    rw [e, e2] at q
    exact q
end Wk
namespace Wk
open PySem PySem.Spec PyProof.Rows L2 WkD WkN LamX WkP WkE WkC
section
variable {P : Program} {w : World} {K : PySem.W.Frag} {mg : Str → Option Value} {base : Heap}
/-! ### what the laws share -/
theorem NetO.keep {H H' : Hp} {x C : Addr} {rest : List (Str × V)} {vs : List Str} {nb : Nb} {wt : Wt} {t : Str} {n : Int} {m e : Addr} {r s : Int} (N : NetO H x C rest vs nb wt t n m e r s) (k : ∀ c o, H c = some o → (c = x ∨ ∃ o1 o2, o = .frz o1 o2) → H' c = some o) : NetO H' x C rest vs nb wt t n m e r s := by
  obtain ⟨dx, p, ad, hx, rz⟩ := N.ex
  obtain ⟨o, ht⟩ := rz.top
  refine ⟨⟨dx, p, ad, k _ _ hx (.inl rfl), ⟨o, k _ _ ht (.inr ⟨_, _, rfl⟩)⟩, fun u hu => ?_⟩, N.rst, N.asc, N.an, N.gok, N.lc, N.rt⟩
  obtain ⟨o2, h2⟩ := rz.row u hu
  exact ⟨o2, k _ _ h2 (.inr ⟨_, _, rfl⟩)⟩
theorem NetO.stay {H H' : Hp} {x C : Addr} {rest : List (Str × V)} {vs : List Str} {nb : Nb} {wt : Wt} {t : Str} {n : Int} {m e : Addr} {r s : Int} (N : NetO H x C rest vs nb wt t n m e r s) (k : StayE H H') : NetO H' x C rest vs nb wt t n m e r s := by
  obtain ⟨dx, p, ad, hx, rz⟩ := id N.ex
  refine N.keep fun c o h e => k c o h ?_
  rcases e with rfl | ⟨o1, o2, rfl⟩
  · rw [hx] at h
    cases h
    exact trivial
  · exact trivial
theorem GOk.nn {vs : List Str} {nb : Nb} {wt : Wt} (g : GOk vs nb wt) : ∀ u ∈ vs, ∀ v ∈ vs, 0 ≤ vl0 nb wt u v := fun u hu v hv => by
  unfold vl0
  split
  · rename_i h
    have := (g.wts u hu v h).1
    omega
  · exact Int.le_refl 0
/-- a pen, a drawn network, and the house that was made of it -/
structure InH (T : List (Addr × Str)) (C p cs q va ea x : Addr) (vs : List Str) (es : EdD) (rt : Str) (N : Nat) (H : Hp) : Prop where
  tb : Tabs T H
  pen : Pen H p cs N
  net : NetAt H q va ea vs es rt
  hx : ∃ nb wt n m en s, NetO H x C [] vs nb wt rt n m en 0 s ∧ edL vs nb wt = edS es
  fq : q ≠ p
  fa : va ≠ p
  fe : ea ≠ p
section
variable {T : List (Addr × Str)} {C p cs q va ea x : Addr} {vs : List Str} {es : EdD} {rt : Str} {N : Nat} {H H' : Hp}
theorem InH.but (h : InH T C p cs q va ea x vs es rt N H) (b : But p H H') {M : Nat} (P : Pen H' p cs M) : InH T C p cs q va ea x vs es rt M H' := by
  obtain ⟨⟨t', r', hp, _⟩, _⟩ := id h.pen
  obtain ⟨nb, wt, n, m, en, s, h1, h4⟩ := h.hx
  exact ⟨tabs_but h.tb hp trivial b, P, ⟨b _ _ h.net.top h.fq, b _ _ h.net.ver h.fa, b _ _ h.net.edg h.fe, h.net.ok⟩, ⟨nb, wt, n, m, en, s, h1.stay (StayE.but b h.pen), h4⟩, h.fq, h.fa, h.fe⟩
theorem InH.same (h : InH T C p cs q va ea x vs es rt N H) (s : Same H H') : InH T C p cs q va ea x vs es rt N H' := h.but (But.of_same s) (h.pen.same s)
theorem InH.mono (h : InH T C p cs q va ea x vs es rt N H) {M : Nat} (k : N ≤ M) : InH T C p cs q va ea x vs es rt M H := ⟨h.tb, h.pen.mono k, h.net, h.hx, h.fq, h.fa, h.fe⟩
end
end
end Wk
/-! == and != of two instances, each of its own class, by an own __eq__ -/
namespace WkK
open PySem PySem.Spec PyProof.Rows L2 WkG
section
variable {prog : Program} {w : World} {A : Around} {E : Value → Shared → Prop} {s : Shared} {K : PySem.W.Frag} {x y C C' : Addr} {ox oy : Obj} {od od' : Option Obj}
theorem ifBound_objNe {M : Model} {args : List Value} {Q : Option Value → Shared → Prop} (X : K.In s.heap) (I : PySem.W.InstAt s.heap x ox C od) (hs : PySem.W.findIn K (.ref C) "__ne__" = some (some (.builtin "object.__ne__")))
    (h : wpAny M A (call (.builtin "object.__ne__") (.ref x :: args)) (fun v => Q (some v)) E s) : wpAny M A (callSpecialIfBound? (.ref x) "__ne__" args) Q E s := by
  simp only [callSpecialIfBound?, bindSpecialIfBound?]
  refine wpAny_holding (wpAny_bind (wpAny_bind (wpAny_bind (I.type.here ((PySem.W.looks_findIn X hs).here ?_)))))
  refine wpAny_bind (wpAny_askSetting (wpAny_ite ?_))
  have fin : wpAny M A (call (.builtin "object.__ne__") ([.ref x] ++ args) >>= fun v => pure (some v)) Q E s := wpAny_bind (wpAny_mono h (fun v s' h' => wpAny_pure h') fun _ _ h' => h')
  split
  · exact wpAny_bind (wpAny_of_eq (F.cmp_object.ne.bind _) (wpAny_pure (by exact fin)))
  · exact wpAny_tryCatch (wpAny_bind (wpAny_of_eq (F.cmp_object.ne.bind _) (wpAny_pure (by exact fin))))
theorem entry_ne {R : Bool → Shared → Prop} {Q : Fin → Shared → Prop} (hu : A.units < cLine)
    (he : ∀ {Q' : Option Value → Shared → Prop}, (∀ b s', R b s' → Q' (some (.bool b)) s') → wpAny (model prog w) A (callSpecialIfBound? (.ref x) "__eq__" [.ref y]) Q' E s)
    (hq : ∀ b s', R b s' → Q (.done (.ret (.bool (!b)))) s') : wpAny (model prog w) A (Builtin.«object.__ne__» ⟨[.ref x, .ref y], []⟩) Q E s := by
  unfold Builtin.«object.__ne__»
  repeat (first | with_reducible refine wpAny_cRoomFor hu ?_ | with_reducible refine he (fun b s' hr => ?_) | with_reducible refine wpAny_truthy_bool ?_ | wp_step)
  exact hq _ _ hr
theorem try_ne {R : Bool → Shared → Prop} {Q : Option Value → Shared → Prop} (hu : A.units + 1 < cLine) (X : K.In s.heap) (I : PySem.W.InstAt s.heap x ox C od) (hs : PySem.W.findIn K (.ref C) "__ne__" = some (some (.builtin "object.__ne__"))) (hm : PySem.W.mroIn K C (.type "object") = some true)
    (he : ∀ {Q' : Option Value → Shared → Prop}, (∀ b s', R b s' → Q' (some (.bool b)) s') → wpAny (model prog w) A.in1 (callSpecialIfBound? (.ref x) "__eq__" [.ref y]) Q' E s)
    (hq : ∀ b s', R b s' → Q (some (.bool (!b))) s') : wpAny (model prog w) A (tryCompare (.ref x) "__ne__" (.ref y)) Q E s := by
  simp only [tryCompare]
  refine wpAny_bind (ifBound_objNe X I hs (wpAny_call (codeAny_call_builtin F.cmp_object.ne.plain F.cmpEntry_ne (PySem.W.check_slot F.cmpKind_ne F.cmpSplit_ne (I.type.andThen (PySem.W.looks_mroIn X hm)) (F.cmpArgs_ne _ _) ?_))))
  exact entry_ne (A := A.in1) hu he fun b s' hr => wpAny_pure (hq b s' hr)
/-- the left one is asked first -/
theorem rc_left {op : CmpOp} {Q : Value → Shared → Prop} (hu : A.units < cLine) (X : K.In s.heap) (I : PySem.W.InstAt s.heap x ox C od) (I' : PySem.W.InstAt s.heap y oy C' od') (hn : PySem.W.notFirst K C (.ref C') = true)
    (one : wpAny (model prog w) A (tryCompare (.ref x) (cmpInfo op).2.1 (.ref y)) (fun r s' => ∃ v, r = some v ∧ Q v s') E s) : wpAny (model prog w) A (richCompare op (.ref x) (.ref y)) Q E s := by
  unfold richCompare
  simp only [oneThing_ref]
  refine wpAny_holding (wpAny_bind (wpAny_cRoomFor hu ?_))
  refine wpAny_bind (I.type.here (wpAny_bind (I'.type.here ?_)))
  split
  · rename_i q
    have e : PySem.W.subIn K (.ref C') (.ref C) = some false := by
      rcases Bool.or_eq_true_iff.mp hn with e | e
      · rw [beq_iff_eq.mp e] at q; simp at q
      · exact beq_iff_eq.mp e
    refine wpAny_bind ((PySem.W.looks_subIn X e).here ?_)
    simp only [Bool.false_eq_true, if_false]
    refine wpAny_bind (wpAny_mono one (fun r s' z => ?_) fun _ _ e => e)
    obtain ⟨v, rfl, hq⟩ := z
    exact wpAny_pure hq
  · refine wpAny_bind (wpAny_pure ?_)
    simp only [Bool.false_eq_true, if_false]
    refine wpAny_bind (wpAny_mono one (fun r s' z => ?_) fun _ _ e => e)
    obtain ⟨v, rfl, hq⟩ := z
    exact wpAny_pure hq
end
section
variable {X : Cx} {C C' : Addr} {n : Nat} {sp : Sp}
/-- the own == is called -/
theorem own_eq {f : Addr} {fd : FuncData} {ps : List Str} (F : FnOk X.prog X.w X.K X.mg X.base CX0 n f fd ps sp) (hb : Binds X.K fd ps []) {A : Around} (hr : Room n A) (hf : A.frames = X.A.frames) {pins : List (Addr × Obj)} {s : Shared} {σ : L2.St} {H : Hp} (I : Inv X pins σ H s) {a b : Addr} {R : Bool → Hp → Prop} {E : Value → Shared → Prop}
    (hsp : sp [.ref a, .ref b] H (fun v H' => ∃ r, v = .bl r ∧ R r H') (fun _ _ _ => False)) :
    wpAny (model X.prog X.w) A (call (.ref f) [.ref a, .ref b]) (fun v s' => ∃ r H', v = .bool r ∧ Inv X pins σ H' s' ∧ R r H') E s := by
  have hl := F.len _ _ _ _ hsp
  have r2 : Vals [V.ref a, V.ref b] [Value.ref a, Value.ref b] := .cons rfl (.cons rfl .nil)
  have e0 : Env0 X.prog X.w X.K X.mg X.base A X.stack s H := by
    have e := I.env0
    exact ⟨by rw [hf]; exact e.frames, e.mod, e.bs, e.bsz, e.funs, e.frf, e.hok, e.bare⟩
  refine wpAny_call (codeAny_mono (F.run A X.stack s H ⟨[.ref a, .ref b], []⟩ [.ref a, .ref b] [.ref a, .ref b] _ _ hr e0 (by
    have := hb s [.ref a, .ref b] I.kIn (by simpa using hl)
    simpa using this) r2 hsp) fun r s' hq => ?_)
  cases r with
  | error e => exact False.elim hq
  | ok fl =>
    cases fl with
    | ret w =>
      obtain ⟨z, H', I', rz, r, ez, ex⟩ := I.after hq
      subst ez
      cases rz
      exact ⟨r, H', rfl, I', ex⟩
    | next => exact False.elim hq
    | brk => exact False.elim hq
    | cont => exact False.elim hq
/-- what a class says of != -/
structure NeC (K : PySem.W.Frag) (C : Addr) : Prop where
  ne : PySem.W.findIn K (.ref C) "__ne__" = some (some (.builtin "object.__ne__"))
  ob : PySem.W.mroIn K C (.type "object") = some true
def rNeJ (C C' : Addr) (sp : Sp) : R2 := fun x y H Q => ∃ a b dx dy fs gs, x = .ref a ∧ y = .ref b ∧ H a = some (.ins C dx fs) ∧ H b = some (.ins C' dy gs) ∧ sp [.ref a, .ref b] H (fun v H' => ∃ r, v = .bl r ∧ Q (.bl (!r)) H') (fun _ _ _ => False)
theorem ne_try {pins : List (Addr × Obj)} {s : Shared} {σ : L2.St} {H : Hp} {Q : VK} {a b dx : Addr} {fs : List (Str × V)} (E : EqC X.prog X.w X.K X.mg X.base C n sp) (N : NeC X.K C) (hr : Room (n + 1) X.A) (I : Inv X pins σ H s) (ha : H a = some (.ins C dx fs))
    (hsp : sp [.ref a, .ref b] H (fun v H' => ∃ r, v = .bl r ∧ Q (.bl (!r)) H') (fun _ _ _ => False)) :
    wpAny (model X.prog X.w) X.A (tryCompare (.ref a) "__ne__" (.ref b)) (fun r s' => ∃ v, r = some v ∧ EP X pins σ Q v s') X.xe s := by
  obtain ⟨f, fd, ps, hs, hf, F, hb⟩ := E
  obtain ⟨mA, J, _⟩ := ins_get I.hok ha
  obtain ⟨od, J, _⟩ := J.look
  refine try_ne (R := fun r s' => ∃ H', Inv X pins σ H' s' ∧ Q (.bl (!r)) H') (by have := hr.units; omega) I.kIn J N.ne N.ob (fun {Q'} hq => ?_) fun b s' hr => ?_
  · refine PySem.W.ifBound_K I.kIn J hs hf (wpAny_mono (own_eq F hb hr.in1 rfl I (R := fun r H' => Q (.bl (!r)) H') hsp) (fun v s' hv => ?_) fun _ _ e => e)
    obtain ⟨r, H', rfl, I', q⟩ := hv
    exact hq r s' ⟨H', I', q⟩
  · obtain ⟨H', I', q⟩ := hr
    exact ⟨_, rfl, .bl (!b), H', I', rfl, q⟩
theorem op_neJ (E : EqC X.prog X.w X.K X.mg X.base C n sp) (N : NeC X.K C) (hr : Room (n + 1) X.A) (hn : PySem.W.notFirst X.K C (.ref C') = true) : OpR X (compareOp .NotEq) (rNeJ C C' sp) := by
  intro pins s σ H x y v u Q I rx ry h
  obtain ⟨a, b, dx, dy, fs, gs, rfl, rfl, ha, hb', hsp⟩ := h
  cases rx
  cases ry
  obtain ⟨mA, J, _⟩ := ins_get I.hok ha
  obtain ⟨mB, J', _⟩ := ins_get I.hok hb'
  obtain ⟨od, J, _⟩ := J.look
  obtain ⟨od', J', _⟩ := J'.look
  show wpAny (model X.prog X.w) X.A (richCompare .NotEq (.ref a) (.ref b)) (EP X pins σ Q) X.xe s
  exact rc_left hr.units0 I.kIn J J' hn (ne_try E N hr I ha hsp)
end
end WkK
namespace Wk
open PySem PySem.Spec PyProof.Rows L2 WkD WkN LamX WkP WkE WkC
section
variable {P : Program} {w : World} {K : PySem.W.Frag} {mg : Str → Option Value} {base : Heap}
/-! ### == of networks -/
structure EqCls (K : PySem.W.Frag) (C CG : Addr) : Prop where
  ha : PySem.W.findIn K (.ref C) "__class__" = some (some (.builtin "object.__class__"))
  hn : PySem.W.specialIn K (.builtin "object.__class__") "__get__" = some (some (.builtin "getset_descriptor.__get__"))
  ht : PySem.W.takesIn K (.builtin "object.__class__") = some true
  hm : PySem.W.mroIn K C (.type "object") = some true
  isi : PySem.W.kitOne K (.ref C) (.ref CG) = some true
def spGEq (K : PySem.W.Frag) (C : Addr) : Sp := fun vs H Q _ => ∃ (g dx h dy : Addr) (fs gs : List (Str × V)) (a b : Addr) (t t' : Str) (Vs Ws : List Str) (ad bd : Str → Addr) (nb nb' : Nb) (wt wt' : Wt), vs = [.ref g, .ref h] ∧ GAt K H g C dx fs a t ∧ GAt K H h C dy gs b t' ∧ RowsZ H a Vs ad nb wt ∧ RowsZ H b Ws bd nb' wt' ∧
  Q (.bl (WkK.rowsB Vs Ws nb nb' wt wt' && decide (t = t'))) H
theorem sc_geq : FnScope ["self", "other"] ["self", "other"] (defScope s_Graph_eq) := ⟨rfl, rfl, rfl, by decide +kernel, rfl, by decide +kernel, by decide +kernel⟩
theorem ok_geq {f C CG : Addr} {fd : FuncData} (F : FnP K "__eq__" "Graph.__eq__" s_Graph_eq f fd) (B : Bi mg) (gG : mg "Graph" = some (.ref CG)) (ec : EqCls K C CG) : FnOk P w K mg base CX0 1 f fd ["self", "other"] (spGEq K C) := by
  refine F.ok sc_geq (fun vs H Q E h => ?_) (fun cdv A outer s H vs Q E hr h => ?_)
  · obtain ⟨g, dx, h, dy, fs, gs, a, b, t, t', Vs, Ws, ad, bd, nb, nb', wt, wt', rfl, _⟩ := h
    rfl
  have hu1 := hu_of hr
  refine ⟨_, PSs.nox (pss_one (ps_ret (pe_and (pe_callB call_isi (by rfl) B.n_isinstance (by decide +kernel) (pa_cons (pv 1) (pa_cons (pe_glob (v := .ref CG) (by rfl) gG rfl) pa_nil))) (pe_and (pe_cmpR (WkK.op_eqRows hu1) (pe_fld (pv 0) rfl) (pe_fld (pv 1) rfl) (nomark _)) (pe_one (pe_cmpR op_eq (pe_fld (pv 0) rfl) (pe_fld (pv 1) rfl) (nomark _))))))), ?_⟩
  obtain ⟨g, dx, h, dy, fs, gs, a, b, t, t', Vs, Ws, ad, bd, nb, nb', wt, wt', rfl, G1, G2, R1, R2, k⟩ := h
  refine ⟨_, rfl, _, _, _, _, true, rfl, .own CG, .base (.ins G2.ins G2.cls ec.ha ec.hn ec.ht ec.hm), ec.isi, ?_⟩
  refine ⟨true, rfl, ?_⟩
  rw [if_pos rfl]
  refine ⟨_, rfl, g, C, dx, _, _, rfl, G1.ins, G1.cls, G1.na, G1.la, _, rfl, h, C, dy, _, _, rfl, G2.ins, G2.cls, G2.na, G2.la, a, b, Vs, Ws, ad, bd, nb, nb', wt, wt', rfl, rfl, R1.r, R2.r, _, rfl, ?_⟩
  refine ite2 (fun h => ?_) (fun h => ?_)
  · refine ⟨_, rfl, g, C, dx, _, _, rfl, G1.ins, G1.cls, G1.nt, G1.lt, _, rfl, _, C, dy, _, _, rfl, G2.ins, G2.cls, G2.nt, G2.lt, rfl, ?_⟩
    rw [h, Bool.true_and] at k
    have e : decide (V.str t = V.str t') = decide (t = t') := by
      rw [Bool.eq_iff_iff]
      simp
    rw [e]
    exact k
  · rw [Bool.eq_false_iff.mpr h, Bool.false_and] at k
    exact k
end
end Wk
/-! enumerate(tuple) -/
namespace PySem
theorem meets_enumerate_newB1 {v : Value} {o : Obj} {H : Heap → Prop} (B : Begins v o H) :
    Meets (Builtin.«enumerate.__new__» ⟨[.type "enumerate", v], []⟩) (fun _ R s => H s.heap ∧
      R (.ok (.ret (.ref (s.heap.push o).objs.size))) { s with heap := (s.heap.push o).push { cls := .type "enumerate", data := .fields #[.none, .bool false, .ref s.heap.objs.size, rawInt 0, .none, .none] } }) :=
  .of_wp fun prog w A R s h => by
    obtain ⟨hp, g, d, tk, os⟩ := s; obtain ⟨h1, h⟩ := h
    have hsub := sub_enumerate
    have q1 : ∀ {A' : Around} {E : Value → Shared → Prop} {Q : Value → Shared → Prop}, Q (.ref hp.objs.size) ⟨hp.push o, g, d, tk, os⟩ → wpAny (model prog w) A' (pyIter v) Q E ⟨hp, g, d, tk, os⟩ :=
      fun q => B.iter prog w _ _ ⟨hp, g, d, tk, os⟩ _ h1 q
    wp_walk using q1
    refine wpAny_stack_any fun st => wpAny_pure ?_
    split
    · rename_i c _ _ _ _ _
      cases (c == Value.type "enumerate")
      · wp_walk using q1
        exact ⟨_, rfl, h⟩
      · wp_walk using q1
        exact ⟨_, rfl, h⟩
    · wp_walk using q1
      exact ⟨_, rfl, h⟩
section
variable {prog : Program} {w : World} {A : Around} {E : Value → Shared → Prop} {s : Shared}
theorem enum_begins1 {v : Value} {o : Obj} {H : Heap → Prop} {Q : Value → Shared → Prop} (B : Begins v o H) (h1 : H s.heap)
    (h : ∀ h', IsEnum h' (s.heap.objs.size + 1) s.heap.objs.size 0 .none → h'.get? s.heap.objs.size = some o → h'.objs.size = s.heap.objs.size + 2 →
      (∀ b o, s.heap.get? b = some o → h'.get? b = some o) → Q (.ref (s.heap.objs.size + 1)) { s with heap := h' }) :
    wpAny (model prog w) A (call (.type "enumerate") [v]) Q E s := by
  refine callType_new F.called_enumerate (by decide) (F.typeCall_enumerate_1 _) (F.newCall_enumerate_1 _) (fun obj => F.args_object_init_2 obj _) F.entry_enumerate_new
    (meets_enumerate_newB1 B) ⟨h1, ?_⟩
  have hz : (s.heap.push o).objs.size = s.heap.objs.size + 1 := Heap.size_push ..
  show _ ∧ _
  rw [hz]
  have he : IsEnum ((s.heap.push o).push { cls := .type "enumerate", data := .fields #[.none, .bool false, .ref s.heap.objs.size, rawInt 0, .none, .none] }) (s.heap.objs.size + 1) s.heap.objs.size 0 .none := by
    have := Heap.get?_push_size (s.heap.push o) (o := { cls := .type "enumerate", data := .fields #[.none, .bool false, .ref s.heap.objs.size, rawInt 0, .none, .none] }) rfl
    rw [hz] at this; exact this
  refine ⟨⟨_, he, rfl⟩, h _ he (Heap.get?_push_of_some _ (Heap.get?_push_size _ B.free)) (by rw [Heap.size_push, hz]) fun b o x => Heap.get?_push_of_some _ (Heap.get?_push_of_some _ x)⟩
theorem enumT_end {e it l : Addr} {i : Nat} {items : Array Value} {old : Value} {Q : Option Value → Shared → Prop} (hh : A.handled = none)
    (he : IsEnum s.heap e it i old) (hit : s.heap.IsTupleIter it l i) (hl : s.heap.IsTuple l items) (hx : items[i]? = none)
    (hQ : ∀ h', Heap.ExtBut it s.heap h' → Q none { s with heap := h' }) : wpAny (model prog w) A (pyNext (.ref e)) Q E s := by
  have hT : s.TypeIs (.ref e) "enumerate" := ⟨_, he, rfl⟩
  unfold pyNext
  refine wpAny_bind (wpAny_attempt (wpAny_callSpecial?_slot (name := Str.ofString "__next__") hT F.slot_enumerate_next
    (wpAny_call_entry F.slot_enumerate_next hT F.entry_enumerate_next ?_ (F.args_enumerate_next_1 _))))
  show wpAny _ _ (field (.ref e) 2 >>= _) _ _ _
  refine wpAny_bind (wpAny_field he rfl (x := .ref it) rfl ?_)
  refine wpAny_bind (wpAny_nextOf_tuple_end hh hit hl hx fun h' x he' hx' => ?_)
  obtain ⟨o, ho, hc⟩ := hx'
  refine wpAny_bind (wpAny_isInstance (T := "StopIteration") (b := true) ⟨o, ho, hc⟩ isSubtype_stop ?_)
  exact wpAny_pure (hQ _ he')
end
end PySem
namespace WkEn
open PySem PySem.Spec PyProof.Rows L2
/-- the tuple at a, each item in a new pair -/
def Iet (K : PySem.W.Frag) (a : Addr) : It :=
  ⟨fun i H => ∃ (xs : List V) (x : V), SqT K H a xs ∧ xs[i]? = some x, fun i H v H' => ∃ T x, v = .ref T ∧ H T = none ∧ H' = upd H T (.tup [.int (i : Nat), x]) ∧ ∀ xs, SqT K H a xs → xs[i]? = some x, fun i H => ∃ xs : List V, SqT K H a xs ∧ xs.length ≤ i⟩
theorem turn_enumT {P : Program} {w : World} {K : PySem.W.Frag} {elts : List Expr} {kk : Nat} {tpos : Pos} (a e it : Addr) (hai : a ≠ it) (hae : a ≠ e) :
    Turn P w K (.Tuple elts kk tpos) (Iet K a) [e, it] e (fun i h => (∃ old, IsEnum h e it ((i : Nat) : Int) old) ∧ h.IsTupleIter it a i ∧ e ≠ it) where
  mem := by simp
  obj := fun i h st b hb => by
    obtain ⟨⟨old, he⟩, ⟨o, ho, hc, hd⟩, _⟩ := st
    have e' : b = e ∨ b = it := by simpa using hb
    rcases e' with z | z
    · rw [z]; exact ⟨_, he, fun v q => nomatch q⟩
    · rw [z]; exact ⟨o, ho, fun v q => by rw [hd] at q; cases q⟩
  keep := fun i h h' st k => let ⟨⟨old, he⟩, hi, hne⟩ := st; ⟨⟨old, k e (by simp) _ he⟩, hi.at fun o q => k it (by simp) o q, hne⟩
  item := by
    intro X hP hw hK hc i pins s σ H E I hf st hg
    subst hP hw hK
    obtain ⟨⟨old, he⟩, hit, hne⟩ := st
    obtain ⟨xs, x, hq, hx⟩ := hg
    obtain ⟨its, rv, p, hz⟩ := I.tuple hq
    obtain ⟨u, hu, ru⟩ := rv.get hx
    have hel : e < s.heap.objs.size := Heap.lt_size he
    have hil : it < s.heap.objs.size := by obtain ⟨_, q, _⟩ := hit; exact Heap.lt_size q
    have hlt : i < its.toArray.size := by
      have := (List.getElem?_eq_some_iff.mp hu).1
      simpa using this
    have ef : e ∉ [it, a] := by
      intro z
      rcases List.mem_cons.mp z with z | z
      · exact hne z
      · exact hae (List.mem_singleton.mp z).symm
    refine wpAny_pyNext_enum_itemD (Draws.tuple (A := X.A.in1) (show X.A.in1.handled = none from I.ok.hd hc) it a hai its.toArray) he ⟨hit, p⟩ hlt hne ef fun x' h' tk hx' ho hst' hT hsz hk => ?_
    have exu : x' = u := by
      have h1 : its.toArray[i]? = some u := by simpa using hu
      have h2 : its.toArray[i]? = some x' := hx'
      rw [h1] at h2
      exact (Option.some.inj h2).symm
    subst exu
    have hit' : h'.IsTupleIter it a (i + 1) := hst'.1
    refine ⟨_, rfl, wpAny_letOwnedTupleGo_enum (s := { s with heap := h', toks := tk + 1 }) ho fun h'' he' sb => ?_⟩
    have hT2 : h''.get? s.heap.objs.size = some { cls := .type "tuple", data := .seq #[.int i tk, x'] } := (sb.2 _ (Nat.ne_of_gt hel)).trans hT
    have new : ObjOk X.prog X.w (upd H s.heap.objs.size (.tup [.int (i : Nat), x])) h'' s.heap.objs.size (.tup [.int (i : Nat), x]) :=
      ⟨by show 2 ≤ sizeLine; decide, [.int i tk, x'], .cons ⟨_, rfl⟩ (.cons ru .nil), ⟨_, hT2, rfl, _, rfl⟩⟩
    have I1 : Inv X pins σ (upd H s.heap.objs.size (.tup [.int (i : Nat), x])) { s with heap := h'', toks := tk + 1 } :=
      I.turnedNew (ch := [e, it]) (fun b ob hb q => (sb.2 b (fun z => hb (by simp [z]))).trans (hk b ob (fun z => hb (by simp [z])) (fun z => hb (by simp [z])) q)) hf (Nat.le_refl _) new
    refine ⟨.ref s.heap.objs.size, _, I1, rfl, ⟨_, x, rfl, I.hok.fresh (Nat.le_refl _), rfl, fun ys hy => by rw [I.tuple_inj hy hq]; exact hx⟩, ⟨⟨x', ?_⟩, hit'.at fun o q => (sb.2 it (Ne.symm hne)).trans q, hne⟩, fun b hb => ?_⟩
    · have e1 : ((i + 1 : Nat) : Int) = (i : Int) + 1 := by omega
      rw [e1]; exact he'
    · have hb' : b < s.heap.objs.size := by
        have e' : b = e ∨ b = it := by simpa using hb
        rcases e' with z | z
        · rw [z]; exact hel
        · rw [z]; exact hil
      rw [upd_ne (Nat.ne_of_lt hb')]
      exact (hf b hb).1
  done := by
    intro X hP hw hK hc i pins s σ H E I hf st hg
    subst hP hw hK
    obtain ⟨⟨old, he⟩, hit, hne⟩ := st
    obtain ⟨xs, hq, hx⟩ := hg
    obtain ⟨its, rv, p, hz⟩ := I.tuple hq
    obtain ⟨f0, f1, f2, f3, f4, f5⟩ := hf it (by simp)
    have hl := rv.length
    exact enumT_end (I.ok.hd hc) he hit p (by simp; omega) fun h' eb => ⟨rfl, I.turned (t' := s.toks) (fun b o hb q => eb b o hb q) f0 f1 f3 f4 f5⟩
  self := fun A i s Q E st h => let ⟨⟨_, he⟩, _⟩ := st; wpAny_pyIter_enum he h
def iEnumT (K : PySem.W.Frag) (ta : TA) : TI := fun σ H R => ta σ H fun vs H1 => ∃ a xs, vs = [.ref a] ∧ SqT K H1 a xs ∧ R (Iet K a) H1
theorem pi_enumT {X : Cx} {e : Expr} {ta : TA} {p pos tpos : Pos} {elts : List Expr} {kk : Nat} (hg : Gl X "enumerate") (hm : X.mg "enumerate" = none) (ha : PA X [e] ta) (hs : starEach [e] X.env = [(false, eval e X.env)] := by rfl) :
    PI X (.Tuple elts kk tpos) (.Call (.Name "enumerate" p) [e] [] pos) (iEnumT X.K ta) := by
  refine ⟨fun pins s σ H R I h => ?_⟩
  refine Call_ (ld_blt I hg hm boot_enumerate (PyProof.Rows.callWith_type1 (thn (ha.run pos pins s σ H _ I h) fun us s1 ⟨vs, H1, I1, r1, q1⟩ => ?_) hs rfl))
  obtain ⟨a, xs, ex, hq, q⟩ := q1
  subst ex
  cases r1 with
  | cons r rr =>
    cases rr
    cases r
    obtain ⟨its, rv, p', hz⟩ := I1.tuple hq
    have hal : a < s1.heap.objs.size := by obtain ⟨o, ho, _⟩ := p'; exact Heap.lt_size ho
    refine enum_begins1 (begins_tuple a its.toArray) p' fun h' he hit hsz hk => wpAny_pyIter_enum he ?_
    have I2 : Inv X pins σ H1 { s1 with heap := h' } := I1.kept (t' := s1.toks) hk
    refine ⟨s1.heap.objs.size + 1, [s1.heap.objs.size + 1, s1.heap.objs.size], _, _, H1, rfl, I2, turn_enumT a (s1.heap.objs.size + 1) s1.heap.objs.size (Nat.ne_of_lt hal) (Nat.ne_of_lt (Nat.lt_succ_of_lt hal)), ⟨⟨.none, he⟩, ⟨_, hit, rfl, rfl⟩, Nat.succ_ne_self _⟩, fun b hb => ?_, q⟩
    have e' : b = s1.heap.objs.size + 1 ∨ b = s1.heap.objs.size := by simpa using hb
    have hle : s1.heap.objs.size ≤ b := by
      rcases e' with z | z
      · rw [z]; exact Nat.le_add_right _ _
      · rw [z]; exact Nat.le_refl _
    exact I1.fpOk hle (I1.hok.fresh hle)
theorem walk_enumT {K : PySem.W.Frag} {a : Addr} {xs : List V} : Walk (Iet K a) xs.length (fun H => SqT K H a xs) (fun i H v H' => ∃ T x, v = .ref T ∧ H T = none ∧ H' = upd H T (.tup [.int (i : Nat), x]) ∧ xs[i]? = some x) :=
  ⟨fun i _ hi q => ⟨xs, xs[i], q, by simp [hi]⟩, fun _ q => ⟨xs, q, Nat.le_refl _⟩, fun _ _ _ _ _ q ⟨T, x, h1, h2, h3, h4⟩ => ⟨T, x, h1, h2, h3, h4 xs q⟩⟩
end WkEn
namespace WkU
open PySem PySem.Spec PyProof.Rows L2
theorem pgL {X : Cx} {es : List Expr} {k : Nat} {t : TGs} {pos : Pos} (K : PySem.W.Frag) (n : Nat) (hK : X.K = K) (hc : X.calm = true) (h : PGs X es t) (hn : (assignEach es X.env).length = n) (hst : (assignEach es X.env).findIdx? (·.1) = none := by rfl) : PG X (.Tuple es k pos) (gLst K n t) := by
  subst hK
  subst hn
  exact pg_lst hc h rfl hst
end WkU
/-! WkTr: t[lo:hi] the whole or not, t[::-1], t * k, t + u for any two tuples; dead code -/
namespace HT
open PySem PySem.Spec PyProof.Rows
section
variable {prog : Program} {w : World} {A : Around} {E : Value → Shared → Prop} {s : Shared}
theorem getItem_tuple_whole {t sl : Addr} {items : Array Value} {vl vu : Value} {lo hi : Option Int} {Q : Value → Shared → Prop} (ht : IsTup s.heap t items) (hs : s.heap.IsSliceOf sl vl vu .none) (pl : IsPart vl lo) (pu : IsPart vu hi)
    (hw : sIx items.size 0 lo = 0 ∧ sIx items.size items.size hi = items.size) (h : Q (.ref t) s) : wpAny (model prog w) A (getItem (.ref t) (.ref sl)) Q E s := by
  obtain ⟨os, hos, hcs, hds⟩ := id hs
  have hTs : s.TypeIs (.ref sl) "slice" := ⟨os, hos, hcs⟩
  unfold getItem
  try with_reducible refine wpAny_holding ?_
  first | refine wpAny_bind (wpAny_pure ?_) | skip
  refine wpAny_bind (wpAny_sequenceKey ht.typeIs (by decide) ?_)
  refine wpAny_bind (wpAny_callSpecial?_slot (name := Str.ofString "__getitem__") ht.typeIs PyProof.Rows.slot_tuple_getitem
    (wpAny_call_entry PyProof.Rows.slot_tuple_getitem ht.typeIs entry_tuple_getitem ?_ (args_tuple_getitem _ _)))
  show wpAny _ _ (Builtin.Tuple.tupleItemsOf (.ref t) >>= _) _ _ s
  refine wpAny_bind (tupleItemsOf_ ht ?_)
  refine wpAny_bind (wpAny_typeOf hTs ?_)
  rw [if_pos (by decide)]
  refine wpAny_bind (sliceApplied_gen hs pl pu ?_)
  show wpAny _ _ (if (((sIx items.size 0 lo : Nat) : Int) == 0 && (1 : Int) == 1 && (sIx items.size items.size hi - sIx items.size 0 lo) == items.size) = true then _ else _) _ _ s
  rw [hw.1, hw.2, if_pos (by simp)]
  unfold Builtin.Tuple.tupleIsExact
  refine wpAny_bind (wpAny_bind (wpAny_typeOf ht.typeIs (wpAny_pure ?_)))
  rw [if_pos (by decide)]
  exact wpAny_bind (wpAny_rule (wpAny_pure ⟨_, rfl, wpAny_pure h⟩))
end
end HT
namespace WkTr
open PySem PySem.Spec PyProof.Rows L2
section
variable {X : Cx}
/-- t[lo:hi]: some tuple of these items -/
def rSlW (K : PySem.W.Frag) : V → Option Int → Option Int → Hp → VK → Prop := fun x lo hi H Q => ∃ a xs, x = .ref a ∧ SqT K H a xs ∧ ∀ p H', Same H H' → SqT K H' p (cutV xs lo hi) → Q (.ref p) H'
theorem slW (K : PySem.W.Frag) (h : X.K = K) : SlR X (rSlW K) := by
  subst h
  intro pins s σ H x v vl vu lo hi sl Q I rx hs pl pu h
  obtain ⟨a, xs, rfl, hx, q⟩ := h
  by_cases hw : HT.sIx xs.length 0 lo = 0 ∧ HT.sIx xs.length xs.length hi = xs.length
  · cases rx
    obtain ⟨its, r, ht, hz⟩ := I.tuple hx
    have hlen : its.toArray.size = xs.length := by rw [List.size_toArray]; exact r.length.symm
    refine ⟨"tuple", _, PyProof.Rows.slot_tuple_getitem.lookup, ht.typeIs, ?_⟩
    refine HT.getItem_tuple_whole ht hs pl pu (by rw [hlen]; exact hw) ⟨.ref a, H, I, rfl, q a H (Same.refl H) ?_⟩
    have e : cutV xs lo hi = xs := by
      unfold cutV
      rw [hw.1, hw.2, List.drop_zero, Nat.sub_zero, List.take_length]
    rw [e]
    exact hx
  · refine sl_tup pins s σ H (.ref a) v vl vu lo hi sl Q I rx hs pl pu ⟨a, xs, rfl, hx, hw, fun p np => q p _ (fun c o hc => by rw [upd_ne (ne_of_none hc np)]; exact hc) (.inl (.inl upd_same))⟩
/-! ### dead code -/
end
end WkTr
namespace WkP
open PySem WkN
/-! ### flows: what is left of the weights -/
theorem sm_swp (l m : List Str) (f : Str → Str → Int) : (sm l fun u => sm m fun v => f u v) = sm m fun v => sm l fun u => f u v := by
  induction l with
  | nil => exact (sm_zero fun _ _ => rfl).symm
  | cons a l ih =>
    rw [sm_cons, ih, ← sm_add]
    exact sm_congr fun v _ => by rw [sm_cons]
theorem sm_neg (l : List Str) (f : Str → Int) : sm l (fun x => - f x) = - sm l f := by
  induction l with
  | nil => rfl
  | cons a l ih =>
    rw [sm_cons, sm_cons, ih]
    omega
theorem sm_at {l : List Str} (nd : l.Nodup) {a : Str} (ha : a ∈ l) (c : Int) : (sm l fun y => if y = a then c else 0) = c := by
  induction l with
  | nil => simp at ha
  | cons b l ih =>
    rw [sm_cons]
    rw [List.nodup_cons] at nd
    rcases List.mem_cons.mp ha with rfl | h
    · rw [if_pos rfl, sm_zero fun y hy => if_neg fun (z : y = a) => nd.1 (by rw [← z]; exact hy)]
      omega
    · rw [if_neg fun (z : b = a) => nd.1 (z ▸ h), ih nd.2 h]
      omega
/-- a flow of n from s to t, by what it leaves -/
structure Resid (Vs : List Str) (w : Wf) (s t : Str) (n : Int) (r : Wf) : Prop where
  nn : ∀ u ∈ Vs, ∀ v ∈ Vs, 0 ≤ r u v
  pr : ∀ u ∈ Vs, ∀ v ∈ Vs, r u v + r v u = w u v + w v u
  co : ∀ u ∈ Vs, u ≠ s → u ≠ t → (sm Vs fun v => w u v - r u v) = 0
  src : (sm Vs fun v => w s v - r s v) = n
theorem Resid.start {Vs : List Str} {w : Wf} {s t : Str} (nn : ∀ u ∈ Vs, ∀ v ∈ Vs, 0 ≤ w u v) : Resid Vs w s t 0 w := ⟨nn, fun _ _ _ _ => rfl, fun _ _ _ _ => sm_zero fun _ _ => by omega, sm_zero fun _ _ => by omega⟩
/-- what crosses a cut -/
theorem Resid.cut {Vs : List Str} {w : Wf} {s t : Str} {n : Int} {r : Wf} (R : Resid Vs w s t n r) (nd : Vs.Nodup) (hs : s ∈ Vs) {S : Sd} (h1 : S s = true) (h2 : S t = false) : cutW Vs w S = n + cutW Vs r S := by
  have e1 : (sm Vs fun u => if S u = true then sm Vs fun v => w u v - r u v else 0) = n := by
    have : (sm Vs fun u => if S u = true then sm Vs fun v => w u v - r u v else 0) = sm Vs fun u => if u = s then n else 0 := sm_congr fun u hu => by
      by_cases e : u = s
      · rw [e, if_pos h1, if_pos rfl, R.src]
      · rw [if_neg e]
        by_cases q : S u = true
        · rw [if_pos q]
          refine R.co u hu e fun z => ?_
          rw [z, h2] at q
          cases q
        · rw [if_neg q]
    rw [this, sm_at nd hs]
  have e2 : (sm Vs fun u => if S u = true then sm Vs fun v => w u v - r u v else 0) = (sm Vs fun u => sm Vs fun v => if S u = true ∧ S v = false then w u v - r u v else 0) + sm Vs fun u => sm Vs fun v => if S u = true ∧ S v = true then w u v - r u v else 0 := by
    rw [← sm_add]
    refine sm_congr fun u _ => ?_
    rw [← sm_add]
    by_cases q : S u = true
    · rw [if_pos q]
      refine sm_congr fun v _ => ?_
      cases S v <;> simp [q]
    · rw [if_neg q]
      exact (sm_zero fun v _ => by simp [q]).symm
  have e3 : (sm Vs fun u => sm Vs fun v => if S u = true ∧ S v = true then w u v - r u v else 0) = 0 := by
    have z : (sm Vs fun u => sm Vs fun v => if S u = true ∧ S v = true then w u v - r u v else 0) = - sm Vs fun u => sm Vs fun v => if S u = true ∧ S v = true then w u v - r u v else 0 := by
      conv => lhs; rw [sm_swp]
      rw [← sm_neg]
      refine sm_congr fun u hu => ?_
      rw [← sm_neg]
      refine sm_congr fun v hv => ?_
      have := R.pr u hu v hv
      by_cases q : S u = true ∧ S v = true
      · rw [if_pos q, if_pos ⟨q.2, q.1⟩]
        omega
      · rw [if_neg q, if_neg fun z => q ⟨z.2, z.1⟩]
        rfl
    omega
  have e4 : cutW Vs w S = (sm Vs fun u => sm Vs fun v => if S u = true ∧ S v = false then w u v - r u v else 0) + cutW Vs r S := by
    unfold cutW
    rw [← sm_add]
    refine sm_congr fun u _ => ?_
    rw [← sm_add]
    refine sm_congr fun v _ => ?_
    split <;> omega
  omega
theorem Resid.le {Vs : List Str} {w : Wf} {s t : Str} {n : Int} {r : Wf} (R : Resid Vs w s t n r) (nd : Vs.Nodup) (hs : s ∈ Vs) {S : Sd} (h1 : S s = true) (h2 : S t = false) : n ≤ cutW Vs w S := by
  have h := R.cut nd hs h1 h2
  have := cutW_nonneg (S := S) R.nn
  omega
/-- one arc is used -/
def push1 (r : Wf) (u v : Str) (a : Int) : Wf := fun x y => if x = u ∧ y = v then r x y - a else if x = v ∧ y = u then r x y + a else r x y
def pushA (r : Wf) (a : Int) : List (Str × Str) → Wf
  | [] => r
  | e :: l => pushA (push1 r e.1 e.2 a) a l
theorem pushA_snoc (a : Int) (e : Str × Str) : ∀ (l : List (Str × Str)) (r : Wf), pushA r a (l ++ [e]) = push1 (pushA r a l) e.1 e.2 a
  | [], _ => rfl
  | f :: l, r => by
    show pushA (push1 r f.1 f.2 a) a (l ++ [e]) = _
    rw [pushA_snoc a e l]
    rfl
/-- what leaves u beyond what comes in -/
def netW (Vs : List Str) (w r : Wf) (u : Str) : Int := sm Vs fun v => w u v - r u v
theorem netW_push {Vs : List Str} {w r : Wf} {u v : Str} {a : Int} (nd : Vs.Nodup) (hu : u ∈ Vs) (hv : v ∈ Vs) (ne : u ≠ v) (x : Str) : netW Vs w (push1 r u v a) x = netW Vs w r x + (if x = u then a else 0) - (if x = v then a else 0) := by
  unfold netW push1
  by_cases h1 : x = u
  · subst h1
    have e : (sm Vs fun y => w x y - (if x = x ∧ y = v then r x y - a else if x = v ∧ y = x then r x y + a else r x y)) = sm Vs (fun y => w x y - r x y) + sm Vs fun y => if y = v then a else 0 := by
      rw [← sm_add]
      refine sm_congr fun y _ => ?_
      by_cases q : y = v
      · simp [q]
        omega
      · simp [q, ne]
    rw [e, sm_at nd hv, if_pos rfl, if_neg ne]
    omega
  · by_cases h2 : x = v
    · subst h2
      have e : (sm Vs fun y => w x y - (if x = u ∧ y = x then r x y - a else if x = x ∧ y = u then r x y + a else r x y)) = sm Vs (fun y => w x y - r x y) + sm Vs fun y => if y = u then - a else 0 := by
        rw [← sm_add]
        refine sm_congr fun y _ => ?_
        by_cases q : y = u
        · simp [q, h1]
          omega
        · simp [q, h1]
      rw [e, sm_at nd hu, if_neg h1, if_pos rfl]
      omega
    · rw [if_neg h1, if_neg h2]
      have e : (sm Vs fun y => w x y - (if x = u ∧ y = v then r x y - a else if x = v ∧ y = u then r x y + a else r x y)) = sm Vs fun y => w x y - r x y := sm_congr fun y _ => by simp [h1, h2]
      rw [e]
      omega
/-- the arcs of a path -/
def arcs (l : List Str) : List (Str × Str) := l.zip l.tail
theorem arcs_cons (a b : Str) (l : List Str) : arcs (a :: b :: l) = (a, b) :: arcs (b :: l) := rfl
theorem netW_path {Vs : List Str} {w : Wf} {a : Int} (nd : Vs.Nodup) : ∀ (l : List Str) (r : Wf) (x y : Str), (∀ z ∈ x :: l, z ∈ Vs) → (x :: l).Nodup → (x :: l).getLast? = some y → ∀ z, netW Vs w (pushA r a (arcs (x :: l))) z = netW Vs w r z + (if z = x then a else 0) - (if z = y then a else 0)
  | [], r, x, y, _, _, hl, z => by
    have : x = y := by simpa using hl
    subst this
    show netW Vs w r z = _
    split <;> omega
  | b :: l, r, x, y, hV, hn, hl, z => by
    rw [arcs_cons]
    show netW Vs w (pushA (push1 r x b a) a (arcs (b :: l))) z = _
    have nx : x ≠ b := fun e => (List.nodup_cons.mp hn).1 (by rw [e]; exact List.mem_cons_self)
    rw [netW_path nd l _ b y (fun z hz => hV z (List.mem_cons_of_mem _ hz)) (List.nodup_cons.mp hn).2 (by rw [List.getLast?_cons_cons] at hl; exact hl), netW_push nd (hV x List.mem_cons_self) (hV b (List.mem_cons_of_mem _ List.mem_cons_self)) nx]
    omega
theorem arcs_mem {l : List Str} {e : Str × Str} (h : e ∈ arcs l) : e.1 ∈ l ∧ e.2 ∈ l := by
  have := List.of_mem_zip h
  exact ⟨this.1, List.mem_of_mem_tail this.2⟩
/-- where an arc of a path lies -/
theorem pushA_pr {Vs : List Str} {a : Int} : ∀ (l : List (Str × Str)) (r : Wf), (∀ e ∈ l, e.1 ≠ e.2) → ∀ u v, pushA r a l u v + pushA r a l v u = r u v + r v u
  | [], _, _, _, _ => rfl
  | e :: l, r, h, u, v => by
    show pushA (push1 r e.1 e.2 a) a l u v + pushA (push1 r e.1 e.2 a) a l v u = _
    rw [pushA_pr (Vs := Vs) l _ fun f hf => h f (List.mem_cons_of_mem _ hf)]
    have ne := h e List.mem_cons_self
    unfold push1
    by_cases h1 : u = e.1 ∧ v = e.2
    · obtain ⟨rfl, rfl⟩ := h1
      have : ¬ (e.2 = e.1 ∧ e.1 = e.2) := fun z => ne z.2
      simp [this, ne, Ne.symm ne]
      omega
    · by_cases h2 : u = e.2 ∧ v = e.1
      · obtain ⟨rfl, rfl⟩ := h2
        simp [ne, Ne.symm ne]
        omega
      · have h3 : ¬ (v = e.1 ∧ u = e.2) := fun z => h2 ⟨z.2, z.1⟩
        have h4 : ¬ (v = e.2 ∧ u = e.1) := fun z => h1 ⟨z.2, z.1⟩
        simp [h1, h2, h3, h4]
theorem pushA_nn {Vs : List Str} {a : Int} (ha : 0 ≤ a) : ∀ (l : List Str) (r : Wf), l.Nodup → (∀ u ∈ Vs, ∀ v ∈ Vs, 0 ≤ r u v) → (∀ e ∈ arcs l, a ≤ r e.1 e.2) → ∀ u ∈ Vs, ∀ v ∈ Vs, 0 ≤ pushA r a (arcs l) u v
  | [], r, _, h, _, u, hu, v, hv => h u hu v hv
  | [x], r, _, h, _, u, hu, v, hv => h u hu v hv
  | x :: y :: l, r, hn, h, k, u, hu, v, hv => by
    rw [arcs_cons]
    show 0 ≤ pushA (push1 r x y a) a (arcs (y :: l)) u v
    have nx := (List.nodup_cons.mp hn).1
    have nxy : x ≠ y := fun e => nx (by rw [e]; exact List.mem_cons_self)
    refine pushA_nn ha (y :: l) (push1 r x y a) (List.nodup_cons.mp hn).2 (fun u hu v hv => ?_) (fun e he => ?_) u hu v hv
    · unfold push1
      by_cases h1 : u = x ∧ v = y
      · rw [if_pos h1]
        have := k (x, y) (by rw [arcs_cons]; exact List.mem_cons_self)
        rw [h1.1, h1.2]
        have : a ≤ r x y := this
        omega
      · rw [if_neg h1]
        have := h u hu v hv
        split <;> omega
    · have m := arcs_mem he
      have : a ≤ r e.1 e.2 := k e (by rw [arcs_cons]; exact List.mem_cons_of_mem _ he)
      unfold push1
      rw [if_neg fun z => nx (by rw [← z.1]; exact m.1), if_neg fun z => nx (by rw [← z.2]; exact m.2)]
      exact this
theorem arcs_ne {l : List Str} (hn : l.Nodup) : ∀ e ∈ arcs l, e.1 ≠ e.2 := by
  induction l with
  | nil => exact fun e he => nomatch he
  | cons x l ih =>
    cases l with
    | nil => exact fun e he => nomatch he
    | cons y l =>
      intro e he
      rw [arcs_cons] at he
      rcases List.mem_cons.mp he with rfl | he
      · exact fun z => (List.nodup_cons.mp hn).1 (by rw [show x = y from z]; exact List.mem_cons_self)
      · exact ih (List.nodup_cons.mp hn).2 e he
/-- more flows along a path -/
theorem Resid.push {Vs : List Str} {w : Wf} {s t : Str} {n : Int} {r : Wf} (R : Resid Vs w s t n r) (nd : Vs.Nodup) (st : s ≠ t) {l : List Str} {a : Int} (ha : 0 ≤ a) (hh : l.head? = some s) (hl : l.getLast? = some t) (hn : l.Nodup) (hV : ∀ z ∈ l, z ∈ Vs) (hr : ∀ e ∈ arcs l, a ≤ r e.1 e.2) :
    Resid Vs w s t (n + a) (pushA r a (arcs l)) := by
  obtain ⟨l, rfl⟩ : ∃ m, l = s :: m := by
    cases l with
    | nil => simp at hh
    | cons x m =>
      have : x = s := by simpa using hh
      exact ⟨m, by rw [this]⟩
  have np := netW_path (w := w) (a := a) nd l r s t hV hn hl
  refine ⟨pushA_nn ha _ r hn R.nn hr, fun u hu v hv => ?_, fun u hu h1 h2 => ?_, ?_⟩
  · rw [pushA_pr (Vs := Vs) _ r (arcs_ne hn), R.pr u hu v hv]
  · have h := np u
    unfold netW at h
    rw [h, R.co u hu h1 h2, if_neg h1, if_neg h2]
    rfl
  · have h := np s
    unfold netW at h
    rw [h, R.src, if_pos rfl, if_neg st]
    omega
/-- nothing comes into the source, nothing leaves the target -/
structure Clean (Vs : List Str) (w r : Wf) (s t : Str) : Prop where
  ns : ∀ v ∈ Vs, w v s ≤ r v s
  nt : ∀ v ∈ Vs, w t v ≤ r t v
theorem Clean.start (Vs : List Str) (w : Wf) (s t : Str) : Clean Vs w w s t := ⟨fun _ _ => Int.le_refl _, fun _ _ => Int.le_refl _⟩
theorem Clean.push {Vs : List Str} {w : Wf} {s t : Str} {a : Int} (ha : 0 ≤ a) : ∀ (l : List (Str × Str)) (r : Wf), Clean Vs w r s t → (∀ e ∈ l, e.1 ≠ t ∧ e.2 ≠ s) → Clean Vs w (pushA r a l) s t
  | [], _, c, _ => c
  | e :: l, r, c, h => by
    obtain ⟨h1, h2⟩ := h e List.mem_cons_self
    refine Clean.push ha l (push1 r e.1 e.2 a) ⟨fun v hv => ?_, fun v hv => ?_⟩ fun f hf => h f (List.mem_cons_of_mem _ hf)
    · have := c.ns v hv
      unfold push1
      rw [if_neg fun z => h2 z.2.symm]
      split <;> omega
    · have := c.nt v hv
      unfold push1
      rw [if_neg fun z => h1 z.1.symm]
      split <;> omega
/-! ### what is reached, by levels -/
structure Lvl (Vs : List Str) (nb : Nb) (lf : Wt) (s : Str) (fl : List Str) (lev : Str → Int) (i : Nat) : Prop where
  nd : fl.Nodup
  sub : ∀ u ∈ fl, u ∈ Vs
  st : s ∈ fl
  l0 : lev s = 0
  nn : ∀ u ∈ fl, 0 ≤ lev u
  cl : ∀ u ∈ fl.take i, ∀ v ∈ nb u, 0 < lf u v → v ∈ fl
  pd : ∀ v ∈ fl, v ≠ s → ∃ u ∈ fl, v ∈ nb u ∧ 0 < lf u v ∧ lev v = lev u + 1
theorem Lvl.cut {Vs : List Str} {nb : Nb} {wt lf : Wt} {s t : Str} {fl : List Str} {lev : Str → Int} {n : Int} (L : Lvl Vs nb lf s fl lev fl.length) (nd : Vs.Nodup) (R : Resid Vs (vl0 nb wt) s t n (vl0 nb lf)) (ht : t ∉ fl) : cutW Vs (vl0 nb wt) (fun u => decide (u ∈ fl)) = n := by
  rw [R.cut nd (L.sub s L.st) (S := fun u => decide (u ∈ fl)) (decide_eq_true L.st) (decide_eq_false ht)]
  have : cutW Vs (vl0 nb lf) (fun u => decide (u ∈ fl)) = 0 := sm_zero fun u hu => sm_zero fun v hv => by
    split
    · rename_i h
      have h1 : u ∈ fl := of_decide_eq_true h.1
      have h2 : v ∉ fl := of_decide_eq_false h.2
      have nn := R.nn u hu v hv
      unfold vl0 at nn ⊢
      by_cases q : v ∈ nb u
      · rw [if_pos q] at nn ⊢
        have : ¬ 0 < lf u v := fun z => h2 (L.cl u (by rw [List.take_length]; exact h1) v q z)
        omega
      · rw [if_neg q]
    · rfl
  omega
end WkP
namespace WkP
open PySem WkN
theorem eachA {α β : Type} {R : α → β → Prop} : ∀ {as as' : List α} {bs bs' : List β}, PySem.W.EachIs R as bs → PySem.W.EachIs R as' bs' → PySem.W.EachIs R (as ++ as') (bs ++ bs')
  | _, _, _, _, .nil, k => k
  | _, _, _, _, .cons h t, k => .cons h (eachA t k)
theorem eachAt {α β : Type} {R : α → β → Prop} : ∀ {as : List α} {bs : List β}, PySem.W.EachIs R as bs → ∀ {i : Nat} {a : α} {b : β}, as[i]? = some a → bs[i]? = some b → R a b
  | _, _, .nil, i, a, b, h, _ => by simp at h
  | _, _, .cons h t, 0, a, b, h1, h2 => by
    simp at h1 h2
    subst h1 h2
    exact h
  | _, _, .cons h t, i + 1, a, b, h1, h2 => eachAt t (i := i) (by simpa using h1) (by simpa using h2)
/-! ### a flow from several sources, by what it leaves -/
def ind (C : Sd) (u : Str) : Int := if C u = true then 1 else 0
theorem sm2_at {l : List Str} (nd : l.Nodup) {u v : Str} (hu : u ∈ l) (hv : v ∈ l) (c : Str → Str → Int) : (sm l fun x => sm l fun y => if x = u ∧ y = v then c x y else 0) = c u v := by
  have e : (sm l fun x => sm l fun y => if x = u ∧ y = v then c x y else 0) = sm l fun x => if x = u then c u v else 0 := sm_congr fun x _ => by
    by_cases h : x = u
    · subst h
      rw [if_pos rfl]
      have : (sm l fun y => if x = x ∧ y = v then c x y else 0) = sm l fun y => if y = v then c x v else 0 := sm_congr fun y _ => by
        by_cases q : y = v
        · subst q
          simp
        · simp [q]
      rw [this, sm_at nd hv]
    · rw [if_neg h]
      exact sm_zero fun y _ => if_neg fun z => h z.1
  rw [e, sm_at nd hu]
theorem cutW_push1 {Vs : List Str} {r : Wf} {u v : Str} {a : Int} (nd : Vs.Nodup) (hu : u ∈ Vs) (hv : v ∈ Vs) (ne : u ≠ v) (C : Sd) : cutW Vs (push1 r u v a) C = cutW Vs r C - a * (ind C u - ind C v) := by
  have e : cutW Vs (push1 r u v a) C = cutW Vs r C + ((sm Vs fun x => sm Vs fun y => if x = u ∧ y = v then (if C x = true ∧ C y = false then -a else 0) else 0) + (sm Vs fun x => sm Vs fun y => if x = v ∧ y = u then (if C x = true ∧ C y = false then a else 0) else 0)) := by
    unfold cutW
    rw [← sm_add, ← sm_add]
    refine sm_congr fun x _ => ?_
    rw [← sm_add, ← sm_add]
    refine sm_congr fun y _ => ?_
    unfold push1
    grind
  rw [e, sm2_at nd hu hv fun x y => if C x = true ∧ C y = false then -a else 0, sm2_at nd hv hu fun x y => if C x = true ∧ C y = false then a else 0]
  unfold ind
  cases C u <;> cases C v <;> simp <;> omega
def gainL (C : Sd) (l : List (Str × Str)) : Int := (l.map fun e => ind C e.1 - ind C e.2).sum
theorem gainL_cons (C : Sd) (e : Str × Str) (l : List (Str × Str)) : gainL C (e :: l) = (ind C e.1 - ind C e.2) + gainL C l := by simp [gainL]
theorem cutW_pushA {Vs : List Str} {a : Int} (nd : Vs.Nodup) (C : Sd) : ∀ (l : List (Str × Str)) (r : Wf), (∀ e ∈ l, e.1 ∈ Vs ∧ e.2 ∈ Vs ∧ e.1 ≠ e.2) → cutW Vs (pushA r a l) C = cutW Vs r C - a * gainL C l
  | [], r, _ => by
    show cutW Vs r C = _
    simp [gainL]
  | e :: l, r, h => by
    show cutW Vs (pushA (push1 r e.1 e.2 a) a l) C = _
    obtain ⟨h1, h2, h3⟩ := h e List.mem_cons_self
    rw [cutW_pushA nd C l _ fun f hf => h f (List.mem_cons_of_mem _ hf), cutW_push1 nd h1 h2 h3, gainL_cons, Int.mul_add]
    omega
/-- the steps of a path, the last one first -/
def Chn (src : List Str) : Str → List (Str × Str) → Prop
  | h, [] => h ∈ src
  | h, e :: l => e.2 = h ∧ Chn src e.1 l
theorem Chn.gain {src : List Str} {C : Sd} (hs : ∀ s ∈ src, C s = true) : ∀ {l : List (Str × Str)} {t : Str}, Chn src t l → gainL C l = 1 - ind C t
  | [], t, h => by
    have : C t = true := hs t h
    simp [gainL, ind, this]
  | e :: l, t, h => by
    obtain ⟨rfl, h⟩ := h
    rw [gainL_cons, Chn.gain hs h]
    omega
theorem pushA_ge {a : Int} (ha : 0 ≤ a) : ∀ (l : List (Str × Str)) (r : Wf), l.Nodup → (∀ e ∈ l, e.1 ≠ e.2) → ∀ u v, r u v - (if (u, v) ∈ l then a else 0) ≤ pushA r a l u v
  | [], r, _, _, u, v => by
    show _ ≤ r u v
    simp
  | e :: l, r, nd, hn, u, v => by
    show _ ≤ pushA (push1 r e.1 e.2 a) a l u v
    obtain ⟨n1, n2⟩ := List.nodup_cons.mp nd
    have ih := pushA_ge ha l (push1 r e.1 e.2 a) n2 (fun f hf => hn f (List.mem_cons_of_mem _ hf)) u v
    have ne := hn e List.mem_cons_self
    refine Int.le_trans ?_ ih
    by_cases q : (u, v) = e
    · subst q
      rw [if_neg n1, if_pos List.mem_cons_self]
      unfold push1
      simp
    · have q' : ¬ (u = e.1 ∧ v = e.2) := fun z => q (by rw [z.1, z.2])
      have em : (u, v) ∈ e :: l ↔ (u, v) ∈ l := by simp [q]
      have p1 : r u v ≤ push1 r e.1 e.2 a u v := by
        unfold push1
        rw [if_neg q']
        split <;> omega
      by_cases m : (u, v) ∈ l
      · rw [if_pos (em.mpr m), if_pos m]
        omega
      · rw [if_neg fun z => m (em.mp z), if_neg m]
        omega
structure ResM (Vs : List Str) (w : Wf) (src : List Str) (t : Str) (n : Int) (r : Wf) : Prop where
  nn : ∀ u ∈ Vs, ∀ v ∈ Vs, 0 ≤ r u v
  cut : ∀ C : Sd, (∀ s ∈ src, C s = true) → C t = false → cutW Vs w C = n + cutW Vs r C
theorem ResM.start {Vs : List Str} {w : Wf} {src : List Str} {t : Str} (nn : ∀ u ∈ Vs, ∀ v ∈ Vs, 0 ≤ w u v) : ResM Vs w src t 0 w := ⟨nn, fun C _ _ => by omega⟩
theorem ResM.push {Vs : List Str} {w : Wf} {src : List Str} {t : Str} {n : Int} {r : Wf} (R : ResM Vs w src t n r) (nd : Vs.Nodup) {l : List (Str × Str)} {a : Int} (hV : ∀ e ∈ l, e.1 ∈ Vs ∧ e.2 ∈ Vs ∧ e.1 ≠ e.2) (ch : Chn src t l) (nl : l.Nodup) (ha : 0 ≤ a) (hr : ∀ e ∈ l, a ≤ r e.1 e.2) :
    ResM Vs w src t (n + a) (pushA r a l) := by
  refine ⟨fun u hu v hv => ?_, fun C h1 h2 => ?_⟩
  · refine Int.le_trans ?_ (pushA_ge ha l r nl (fun e he => (hV e he).2.2) u v)
    by_cases m : (u, v) ∈ l
    · rw [if_pos m]
      have := hr _ m
      dsimp only at this
      omega
    · rw [if_neg m]
      have := R.nn u hu v hv
      omega
  · rw [R.cut C h1 h2, cutW_pushA nd C l r hV, ch.gain h1]
    unfold ind
    rw [if_neg (by rw [h2]; decide)]
    omega
theorem ResM.le {Vs : List Str} {w : Wf} {src : List Str} {t : Str} {n : Int} {r : Wf} (R : ResM Vs w src t n r) {C : Sd} (h1 : ∀ s ∈ src, C s = true) (h2 : C t = false) : n ≤ cutW Vs w C := by
  rw [R.cut C h1 h2]
  have := cutW_nonneg (S := C) R.nn
  omega
theorem sm_all0 {l : List Str} {f : Str → Int} (nn : ∀ x ∈ l, 0 ≤ f x) (h : sm l f = 0) : ∀ x ∈ l, f x = 0 := by
  induction l with
  | nil => exact fun x hx => nomatch hx
  | cons a l ih =>
    rw [sm_cons] at h
    have h1 := nn a List.mem_cons_self
    have h2 : 0 ≤ sm l f := sm_nonneg fun x hx => nn x (List.mem_cons_of_mem _ hx)
    intro x hx
    rcases List.mem_cons.mp hx with rfl | hx
    · omega
    · exact ih (fun x hx => nn x (List.mem_cons_of_mem _ hx)) (by omega) x hx
theorem cutW_0 {Vs : List Str} {r : Wf} {C : Sd} (nn : ∀ u ∈ Vs, ∀ v ∈ Vs, 0 ≤ r u v) : cutW Vs r C = 0 ↔ ∀ u ∈ Vs, ∀ v ∈ Vs, C u = true → C v = false → r u v = 0 := by
  constructor
  · intro h u hu v hv h1 h2
    have a := sm_all0 (f := fun u => sm Vs fun v => if C u = true ∧ C v = false then r u v else 0) (fun x hx => sm_nonneg fun y hy => by have := nn x hx y hy; split <;> omega) h u hu
    have b := sm_all0 (fun y hy => by have := nn u hu y hy; split <;> omega) a v hv
    rw [if_pos ⟨h1, h2⟩] at b
    exact b
  · intro h
    refine sm_zero fun u hu => sm_zero fun v hv => ?_
    split
    · rename_i q
      exact h u hu v hv q.1 q.2
    · rfl
/-! ### sets into which nothing more can flow -/
/-- with v all that can still send to v -/
def BackC (Vs : List Str) (r : Wf) (I : Sd) : Prop := ∀ u ∈ Vs, ∀ v ∈ Vs, I v = true → 0 < r u v → I u = true
structure Idl (Vs : List Str) (r : Wf) (src : List Str) (t : Str) (I : Sd) : Prop where
  t : I t = true
  src : ∀ s ∈ src, I s = false
  back : BackC Vs r I
theorem ResM.tight {Vs : List Str} {w : Wf} {src : List Str} {t : Str} {n : Int} {r : Wf} (R : ResM Vs w src t n r) {I : Sd} (h1 : ∀ s ∈ src, I s = false) (h2 : I t = true) : cutW Vs w (fun u => !I u) = n ↔ Idl Vs r src t I := by
  have h := R.cut (fun u => !I u) (fun s hs => by rw [h1 s hs]; rfl) (by rw [h2]; rfl)
  have z := cutW_0 (C := fun u => !I u) R.nn
  constructor
  · intro e
    have e0 : cutW Vs r (fun u => !I u) = 0 := by omega
    refine ⟨h2, h1, fun u hu v hv i p => ?_⟩
    cases q : I u with
    | true => rfl
    | false =>
      have := z.mp e0 u hu v hv (by rw [q]; rfl) (by rw [i]; rfl)
      omega
  · intro i
    have : cutW Vs r (fun u => !I u) = 0 := z.mpr fun u hu v hv a b => by
      have a : I u = false := by simpa using a
      have b : I v = true := by simpa using b
      have nn := R.nn u hu v hv
      by_cases p : 0 < r u v
      · have := i.back u hu v hv b p
        rw [a] at this
        cases this
      · omega
    omega
/-- all that can be reached from some vertices -/
structure Led (Vs : List Str) (r : Wf) (ss fl : List Str) : Prop where
  nd : fl.Nodup
  sub : ∀ u ∈ fl, u ∈ Vs
  st : ∀ s ∈ ss, s ∈ fl
  cl : ∀ u ∈ fl, ∀ v ∈ Vs, 0 < r u v → v ∈ fl
  mn : ∀ I : Sd, BackC Vs r I → (∀ s ∈ ss, I s = false) → ∀ u ∈ fl, I u = false
/-- all that leads to a vertex -/
structure Ldt (Vs : List Str) (r : Wf) (t : Str) (fl : List Str) : Prop where
  nd : fl.Nodup
  sub : ∀ u ∈ fl, u ∈ Vs
  st : t ∈ fl
  cl : ∀ v ∈ fl, ∀ u ∈ Vs, 0 < r u v → u ∈ fl
  mn : ∀ I : Sd, BackC Vs r I → I t = true → ∀ u ∈ fl, I u = true
/-- the sets between c and c with some of q -/
def Fam (Vs : List Str) (f : List Str × List Str) (I : Sd) : Prop := (∀ v ∈ f.1, I v = true) ∧ ∀ v ∈ Vs, I v = true → v ∈ f.1 ∨ v ∈ f.2
def memB (l : List Str) : Sd := fun v => decide (v ∈ l)
structure FamOk (Vs : List Str) (r : Wf) (src : List Str) (t : Str) (f : List Str × List Str) : Prop where
  nc : f.1.Nodup
  sc : ∀ v ∈ f.1, v ∈ Vs
  nq : f.2.Nodup
  sq : ∀ v ∈ f.2, v ∈ Vs
  dj : ∀ v ∈ f.2, v ∉ f.1
  ns : ∀ s ∈ src, s ∉ f.2
  low : Idl Vs r src t (memB f.1)
  up : BackC Vs r (memB (f.1 ++ f.2))
/-- all sets are in one of the families, and in no two -/
structure Fams (Vs : List Str) (r : Wf) (src : List Str) (t : Str) (F : List (List Str × List Str)) : Prop where
  ok : ∀ f ∈ F, FamOk Vs r src t f
  all : ∀ I, Idl Vs r src t I → ∃ f ∈ F, Fam Vs f I
  dis : F.Pairwise fun f g => ∀ I, Fam Vs f I → Fam Vs g I → False
theorem memB_iff {l : List Str} {v : Str} : memB l v = true ↔ v ∈ l := by simp [memB]
theorem Fams.start {Vs : List Str} {r : Wf} {src : List Str} {t : Str} (nV : Vs.Nodup) {fo fi q : List Str} (lo : Led Vs r src fo) (li : Ldt Vs r t fi) (ht : t ∉ fo) (hq : q.Nodup) (eq : ∀ v, v ∈ q ↔ v ∈ Vs ∧ v ∉ fo ∧ v ∉ fi) : Fams Vs r src t [(fi, q)] := by
  have bo : BackC Vs r fun v => !memB fo v := fun u hu v hv i p => by
    show (!memB fo u) = true
    cases e : memB fo u with
    | false => rfl
    | true =>
      have h := lo.cl u (memB_iff.mp e) v hv p
      have i : (!memB fo v) = true := i
      rw [memB_iff.mpr h] at i
      cases i
  have dj : ∀ v ∈ fi, v ∉ fo := fun v hv hvo => by
    have h := li.mn _ bo (by simp [memB, ht]) v hv
    rw [memB_iff.mpr hvo] at h
    cases h
  have bi : BackC Vs r (memB fi) := fun u hu v hv i p => memB_iff.mpr (li.cl v (memB_iff.mp i) u hu p)
  have un : ∀ v, v ∈ Vs → (v ∈ fi ++ q ↔ v ∉ fo) := fun v hv => by
    rw [List.mem_append, eq]
    constructor
    · rintro (h | h)
      · exact dj v h
      · exact h.2.1
    · intro h
      by_cases k : v ∈ fi
      · exact .inl k
      · exact .inr ⟨hv, h, k⟩
  refine ⟨fun f hf => ?_, fun I h => ⟨_, List.mem_singleton.mpr rfl, fun v hv => li.mn I h.back h.t v hv, fun v hv i => ?_⟩, List.pairwise_singleton ..⟩
  · rw [List.mem_singleton.mp hf]
    refine ⟨li.nd, li.sub, hq, fun v hv => ((eq v).mp hv).1, fun v hv => ((eq v).mp hv).2.2, fun s hs hq => ((eq s).mp hq).2.1 (lo.st s hs), ⟨memB_iff.mpr li.st, fun s hs => ?_, bi⟩, fun u hu v hv i p => ?_⟩
    · cases e : memB fi s with
      | false => rfl
      | true => exact absurd (lo.st s hs) (dj s (memB_iff.mp e))
    · have h1 : v ∉ fo := (un v hv).mp (memB_iff.mp i)
      exact memB_iff.mpr ((un u hu).mpr fun z => h1 (lo.cl u z v hv p))
  · have : v ∉ fo := fun z => by
      have := lo.mn I h.back h.src v z
      rw [i] at this
      cases this
    exact List.mem_append.mp ((un v hv).mpr this)
theorem Fams.perm {Vs : List Str} {r : Wf} {src : List Str} {t : Str} {F G : List (List Str × List Str)} (h : Fams Vs r src t F) (p : F.Perm G) : Fams Vs r src t G :=
  ⟨fun f hf => h.ok f (p.mem_iff.mpr hf), fun I i => let ⟨f, hf, q⟩ := h.all I i; ⟨f, p.mem_iff.mp hf, q⟩, (p.pairwise_iff fun {a b} z I x y => z I y x).mp h.dis⟩
/-- one vertex is decided -/
theorem Fams.split {Vs : List Str} {r : Wf} {src : List Str} {t : Str} {F : List (List Str × List Str)} {c q : List Str} {x : Str} (h : Fams Vs r src t (F ++ [(c, x :: q)])) {fa fb : List Str} (la : Led Vs r [x] fa) (lb : Ldt Vs r x fb) :
    Fams Vs r src t ((F ++ [(c, (x :: q).filter fun v => decide (v ∉ fa))]) ++ [(c ++ (x :: q).filter (fun v => decide (v ∈ fb)), (x :: q).filter fun v => decide (v ∉ fb))]) := by
  have o := h.ok (c, x :: q) (by simp)
  obtain ⟨nc, sc, nq, sq, dj, ns, low, up⟩ := o
  dsimp only at nc sc nq sq dj ns low up
  have hxq : x ∈ x :: q := List.mem_cons_self
  have hxc : x ∉ c := dj x hxq
  have ca : ∀ v ∈ c, v ∉ fa := fun v hv hva => by
    have := la.mn (memB c) low.back (fun s hs => by rw [List.mem_singleton.mp hs]; simp [memB, hxc]) v hva
    rw [memB_iff.mpr hv] at this
    cases this
  have bf : ∀ v ∈ fb, v ∈ c ++ x :: q := fun v hv => memB_iff.mp (lb.mn _ up (memB_iff.mpr (by simp)) v hv)
  have m1 : ∀ v, v ∈ (x :: q).filter (fun v => decide (v ∉ fa)) ↔ v ∈ x :: q ∧ v ∉ fa := fun v => by rw [List.mem_filter, decide_eq_true_iff]
  have m2 : ∀ v, v ∈ (x :: q).filter (fun v => decide (v ∈ fb)) ↔ v ∈ x :: q ∧ v ∈ fb := fun v => by rw [List.mem_filter, decide_eq_true_iff]
  have m3 : ∀ v, v ∈ (x :: q).filter (fun v => decide (v ∉ fb)) ↔ v ∈ x :: q ∧ v ∉ fb := fun v => by rw [List.mem_filter, decide_eq_true_iff]
  have ok1 : FamOk Vs r src t (c, (x :: q).filter fun v => decide (v ∉ fa)) := by
    have nq1 : ((x :: q).filter fun v => decide (v ∉ fa)).Nodup := List.Pairwise.filter _ nq
    refine ⟨nc, sc, nq1, fun v hv => sq v ((m1 v).mp hv).1, fun v hv => dj v ((m1 v).mp hv).1, fun s hs z => ns s hs ((m1 s).mp z).1, low, fun u hu v hv i p => ?_⟩
    have i := memB_iff.mp i
    rw [List.mem_append, m1] at i
    have hvc : v ∈ c ++ x :: q := by
      rcases i with i | i
      · exact List.mem_append_left _ i
      · exact List.mem_append_right _ i.1
    have hva : v ∉ fa := by
      rcases i with i | i
      · exact ca v i
      · exact i.2
    have hu1 := memB_iff.mp (up u hu v hv (memB_iff.mpr hvc) p)
    refine memB_iff.mpr ?_
    rw [List.mem_append, m1]
    rcases List.mem_append.mp hu1 with z | z
    · exact .inl z
    · exact .inr ⟨z, fun y => hva (la.cl u y v hv p)⟩
  have mem2 : ∀ v, v ∈ c ++ (x :: q).filter (fun v => decide (v ∈ fb)) ↔ v ∈ c ∨ (v ∈ x :: q ∧ v ∈ fb) := fun v => by rw [List.mem_append, m2]
  have back2 : BackC Vs r (memB (c ++ (x :: q).filter (fun v => decide (v ∈ fb)))) := fun u hu v hv i p => by
    have i := (mem2 v).mp (memB_iff.mp i)
    refine memB_iff.mpr ((mem2 u).mpr ?_)
    rcases i with i | i
    · exact .inl (memB_iff.mp (low.back u hu v hv (memB_iff.mpr i) p))
    · have hb := lb.cl v i.2 u hu p
      rcases List.mem_append.mp (bf u hb) with z | z
      · exact .inl z
      · exact .inr ⟨z, hb⟩
  have ok2 : FamOk Vs r src t (c ++ (x :: q).filter (fun v => decide (v ∈ fb)), (x :: q).filter fun v => decide (v ∉ fb)) := by
    have nq2 : ((x :: q).filter fun v => decide (v ∈ fb)).Nodup := List.Pairwise.filter _ nq
    have nq3 : ((x :: q).filter fun v => decide (v ∉ fb)).Nodup := List.Pairwise.filter _ nq
    refine ⟨List.nodup_append.mpr ⟨nc, nq2, fun a ha b hb e => dj b ((m2 b).mp hb).1 (e ▸ ha)⟩, fun v hv => ?_, nq3, fun v hv => sq v ((m3 v).mp hv).1, fun v hv hv2 => ?_, fun s hs z => ns s hs ((m3 s).mp z).1, ⟨?_, fun s hs => ?_, back2⟩, fun u hu v hv i p => ?_⟩
    · rcases (mem2 v).mp hv with z | z
      · exact sc v z
      · exact sq v z.1
    · obtain ⟨z1, z2⟩ := (m3 v).mp hv
      rcases (mem2 v).mp hv2 with z | z
      · exact dj v z1 z
      · exact z2 z.2
    · exact memB_iff.mpr ((mem2 t).mpr (.inl (memB_iff.mp low.t)))
    · cases e : memB (c ++ (x :: q).filter (fun v => decide (v ∈ fb))) s with
      | false => rfl
      | true =>
        rcases (mem2 s).mp (memB_iff.mp e) with z | z
        · have := low.src s hs
          rw [memB_iff.mpr z] at this
          cases this
        · exact absurd z.1 (ns s hs)
    · have e : ∀ v, v ∈ (c ++ (x :: q).filter (fun v => decide (v ∈ fb))) ++ (x :: q).filter (fun v => decide (v ∉ fb)) ↔ v ∈ c ++ x :: q := fun v => by
        rw [List.mem_append, mem2, m3, List.mem_append]
        grind
      have i := (e v).mp (memB_iff.mp i)
      exact memB_iff.mpr ((e u).mpr (memB_iff.mp (up u hu v hv (memB_iff.mpr i) p)))
  have keep : ∀ f ∈ F, f ∈ F ++ [(c, x :: q)] := fun f hf => List.mem_append_left _ hf
  have f1 : ∀ I, Fam Vs (c, (x :: q).filter fun v => decide (v ∉ fa)) I → Fam Vs (c, x :: q) I := fun I ⟨a, b⟩ => ⟨a, fun v hv i => (b v hv i).imp_right fun z => ((m1 v).mp z).1⟩
  have f2 : ∀ I, Fam Vs (c ++ (x :: q).filter (fun v => decide (v ∈ fb)), (x :: q).filter fun v => decide (v ∉ fb)) I → Fam Vs (c, x :: q) I := fun I ⟨a, b⟩ => ⟨fun v hv => a v ((mem2 v).mpr (.inl hv)), fun v hv i => by
    rcases b v hv i with z | z
    · exact ((mem2 v).mp z).imp_right fun y => y.1
    · exact .inr ((m3 v).mp z).1⟩
  have hxV : x ∈ Vs := sq x hxq
  have xfa : x ∈ fa := la.st x (List.mem_singleton.mpr rfl)
  refine ⟨fun f hf => ?_, fun I i => ?_, ?_⟩
  · rcases List.mem_append.mp hf with hf | hf
    · rcases List.mem_append.mp hf with hf | hf
      · exact h.ok f (keep f hf)
      · rw [List.mem_singleton.mp hf]
        exact ok1
    · rw [List.mem_singleton.mp hf]
      exact ok2
  · obtain ⟨f, hf, q1, q2⟩ := h.all I i
    rcases List.mem_append.mp hf with hf | hf
    · exact ⟨f, List.mem_append_left _ (List.mem_append_left _ hf), q1, q2⟩
    · have ef := List.mem_singleton.mp hf
      subst ef
      cases ix : I x with
      | false =>
        refine ⟨_, List.mem_append_left _ (List.mem_append_right _ (List.mem_singleton.mpr rfl)), q1, fun v hv iv => ?_⟩
        rcases q2 v hv iv with z | z
        · exact .inl z
        · refine .inr ((m1 v).mpr ⟨z, fun y => ?_⟩)
          have := la.mn I i.back (fun s hs => by rw [List.mem_singleton.mp hs]; exact ix) v y
          rw [iv] at this
          cases this
      | true =>
        refine ⟨_, List.mem_append_right _ (List.mem_singleton.mpr rfl), fun v hv => ?_, fun v hv iv => ?_⟩
        · rcases (mem2 v).mp hv with z | z
          · exact q1 v z
          · exact lb.mn I i.back ix v z.2
        · rcases q2 v hv iv with z | z
          · exact .inl ((mem2 v).mpr (.inl z))
          · by_cases y : v ∈ fb
            · exact .inl ((mem2 v).mpr (.inr ⟨z, y⟩))
            · exact .inr ((m3 v).mpr ⟨z, y⟩)
  · obtain ⟨d1, d2, d3⟩ := List.pairwise_append.mp h.dis
    refine List.pairwise_append.mpr ⟨List.pairwise_append.mpr ⟨d1, List.pairwise_singleton .., fun f hf g hg I a b => ?_⟩, List.pairwise_singleton .., fun f hf g hg I a b => ?_⟩
    · rw [List.mem_singleton.mp hg] at b
      exact d3 f hf _ (List.mem_singleton.mpr rfl) I a (f1 I b)
    · rw [List.mem_singleton.mp hg] at b
      rcases List.mem_append.mp hf with hf | hf
      · exact d3 f hf _ (List.mem_singleton.mpr rfl) I a (f2 I b)
      · rw [List.mem_singleton.mp hf] at a
        have ix : I x = true := b.1 x ((mem2 x).mpr (.inr ⟨hxq, lb.st⟩))
        rcases a.2 x hxV ix with z | z
        · exact hxc z
        · exact ((m1 x).mp z).2 xfa
/-- what is at the end: every set once -/
theorem Fams.done {Vs : List Str} {r : Wf} {src : List Str} {t : Str} {L : List (List Str)} (h : Fams Vs r src t (L.map fun c => (c, []))) : (∀ c ∈ L, c.Nodup ∧ (∀ v ∈ c, v ∈ Vs) ∧ Idl Vs r src t (memB c)) ∧ (∀ I, Idl Vs r src t I → ∃ c ∈ L, ∀ v ∈ Vs, I v = memB c v) ∧ L.Pairwise fun c d => ¬ ∀ v, v ∈ c ↔ v ∈ d := by
  refine ⟨fun c hc => ?_, fun I i => ?_, ?_⟩
  · have o := h.ok (c, []) (List.mem_map.mpr ⟨c, hc, rfl⟩)
    exact ⟨o.nc, o.sc, o.low⟩
  · obtain ⟨f, hf, a, b⟩ := h.all I i
    obtain ⟨c, hc, rfl⟩ := List.mem_map.mp hf
    refine ⟨c, hc, fun v hv => ?_⟩
    cases e : I v with
    | true =>
      rcases b v hv e with z | z
      · exact (memB_iff.mpr z).symm
      · cases z
    | false =>
      cases e2 : memB c v with
      | false => rfl
      | true =>
        have := a v (memB_iff.mp e2)
        rw [e] at this
        cases this
  · refine (List.pairwise_map.mp h.dis).imp fun {c d} z e => ?_
    refine z (memB c) ⟨fun v hv => memB_iff.mpr hv, fun v _ i => .inl (memB_iff.mp i)⟩ ⟨fun v hv => memB_iff.mpr ((e v).mpr hv), fun v _ i => .inl ((e v).mp (memB_iff.mp i))⟩
end WkP
/-! min(list of tuples, key=len) -/
namespace WkMn
open PySem PySem.Spec PyProof.Rows L2 LamX WkL
open PySem.W (EachIs)
/-- the first least of some numbers -/
def FirstMin (ks : List Nat) (i : Nat) : Prop := ∃ n, ks[i]? = some n ∧ ∀ (j m : Nat), ks[j]? = some m → n ≤ m ∧ (j < i → n < m)
section
variable {X : Cx} {pins : List (Addr × Obj)} {σ : L2.St} {H : Hp} {s : Shared}
end
end WkMn
namespace WkP
open PySem WkN WkD
theorem filter_memB {Vs c : List Str} (h : ∀ v ∈ c, v ∈ Vs) : memB (Vs.filter (memB c)) = memB c := funext fun v => by
  unfold memB
  rw [decide_eq_decide, List.mem_filter, decide_eq_true_iff]
  exact ⟨fun z => z.2, fun z => ⟨h v z, z⟩⟩
/-- no more families than sets -/
theorem Fams.few {Vs : List Str} {r : Wf} {src : List Str} {t : Str} {F : List (List Str × List Str)} {N : Nat} (h : Fams Vs r src t F) (hb : ∀ L : List (List Str), L.Nodup → (∀ c ∈ L, c.Sublist Vs ∧ Idl Vs r src t (memB c)) → L.length < N) : F.length < N := by
  have := hb (F.map fun f => Vs.filter (memB f.1)) ?_ ?_
  · rw [List.length_map] at this
    exact this
  · refine List.pairwise_map.mpr ?_
    have d := List.pairwise_iff_getElem.mp h.dis
    refine List.pairwise_iff_getElem.mpr fun i j hi hj hij e => d i j hi hj hij (memB F[i].1) ⟨fun v hv => memB_iff.mpr hv, fun v _ z => .inl (memB_iff.mp z)⟩ ?_
    have ei := h.ok F[i] (List.getElem_mem hi)
    have ej := h.ok F[j] (List.getElem_mem hj)
    have eb : memB F[i].1 = memB F[j].1 := by rw [← filter_memB ei.sc, ← filter_memB ej.sc, e]
    rw [eb]
    exact ⟨fun v hv => memB_iff.mpr hv, fun v _ z => .inl (memB_iff.mp z)⟩
  · intro c hc
    obtain ⟨f, hf, rfl⟩ := List.mem_map.mp hc
    refine ⟨List.filter_sublist, ?_⟩
    rw [filter_memB (h.ok f hf).sc]
    exact (h.ok f hf).low
/-- all of the sets, each once, in order inside -/
structure AllI (Vs : List Str) (r : Wf) (src : List Str) (t : Str) (L : List (List Str)) : Prop where
  nd : L.Nodup
  ok : ∀ c ∈ L, Asc c ∧ (∀ v ∈ c, v ∈ Vs) ∧ Idl Vs r src t (memB c)
  all : ∀ I, Idl Vs r src t I → ∃ c ∈ L, ∀ v ∈ Vs, I v = memB c v
theorem AllI.of {Vs : List Str} {r : Wf} {src : List Str} {t : Str} {L : List (List Str)} (h : Fams Vs r src t (L.map fun c => (c, []))) (ha : ∀ c ∈ L, Asc c) : AllI Vs r src t L := by
  obtain ⟨h1, h2, h3⟩ := h.done
  exact ⟨h3.imp fun {a b} z e => z fun v => by rw [e], fun c hc => ⟨ha c hc, (h1 c hc).2⟩, h2⟩
end WkP
namespace WkP
open PySem WkN WkD
open PySem.W (dataLe keyToks keyToksAll EachIs)
/-! ### sorted lists with the same members -/
theorem le_anti {β : Type} {enc : β → PyData} (inj : ∀ a b, keyToks (enc a) = keyToks (enc b) → a = b) {a b : β} (h1 : dataLe false enc a b = true) (h2 : dataLe false enc b a = true) : a = b := by
  have e : ∀ a b, dataLe false enc a b = !PyProof.Rows.lexLt PyProof.Rows.itemOrd (keyToks (enc b)) (keyToks (enc a)) := fun a b => rfl
  rw [e] at h1 h2
  exact inj a b (PyProof.Rows.lex_total (O := PyProof.Rows.itemOrd) _ _ (by simpa using h2) (by simpa using h1))
theorem sort_pw {β : Type} (enc : β → PyData) (l : List β) : (l.mergeSort (dataLe false enc)).Pairwise fun a b => dataLe false enc a b = true := by
  have tl := PySem.W.sortLe_total (PyProof.Rows.listOrd PyProof.Rows.itemOrd) false fun b => keyToks (enc b)
  exact List.pairwise_mergeSort (le := dataLe false enc) (fun a b c h k => tl.trans a b c h k) (fun a b => by
    have := tl.total a b
    rw [Bool.or_eq_true]
    exact this) l
theorem sort_uniq {β : Type} {enc : β → PyData} (inj : ∀ a b, keyToks (enc a) = keyToks (enc b) → a = b) {l m : List β} (nl : l.Nodup) (nm : m.Nodup) (hl : l.Pairwise fun a b => dataLe false enc a b = true) (hm : m.Pairwise fun a b => dataLe false enc a b = true) (mem : ∀ x, x ∈ l ↔ x ∈ m) : l = m := by
  have tl := PySem.W.sortLe_total (PyProof.Rows.listOrd PyProof.Rows.itemOrd) false fun b => keyToks (enc b)
  refine asc_uniq (R := fun a b => dataLe false enc a b = true ∧ a ≠ b) (fun a h => h.2 rfl) (fun a b c h k => ⟨tl.trans a b c h.1 k.1, fun z => ?_⟩) (List.Pairwise.imp₂ (fun _ _ a b => ⟨a, b⟩) hl nl) (List.Pairwise.imp₂ (fun _ _ a b => ⟨a, b⟩) hm nm) mem
  subst z
  exact h.2 (le_anti inj h.1 k.1)
theorem toks_encL : ∀ {a b : List Str}, keyToks (encL a) = keyToks (encL b) → a = b := by
  have key : ∀ {a b : List Str}, keyToksAll (a.map PyData.str) = keyToksAll (b.map PyData.str) → a = b := by
    intro a
    induction a with
    | nil =>
      intro b h
      cases b with
      | nil => rfl
      | cons y b =>
        rw [List.map_nil, List.map_cons, keyToksAll, keyToksAll] at h
        cases h
    | cons x a ih =>
      intro b h
      cases b with
      | nil =>
        rw [List.map_nil, List.map_cons, keyToksAll, keyToksAll] at h
        cases h
      | cons y b =>
        rw [List.map_cons, List.map_cons, keyToksAll, keyToksAll, keyToks, keyToks] at h
        have h := (List.cons.inj h).2
        have h : (Sum.inr x.cps.toList : Int ⊕ List Nat) :: keyToksAll (a.map PyData.str) = Sum.inr y.cps.toList :: keyToksAll (b.map PyData.str) := h
        obtain ⟨h1, h2⟩ := List.cons.inj h
        have h1 : x.cps.toList = y.cps.toList := by injection h1
        rw [PySem.W.str_of_cps h1, ih h2]
  intro a b h
  unfold encL at h
  rw [keyToks, keyToks] at h
  exact key h
/-! ### the weakest sides, vertex by vertex -/
def IsW (Vs : List Str) (rt : Str) (w : Wf) (n : Int) (S : List Str) : Prop := Asc S ∧ (∀ v ∈ S, v ∈ Vs) ∧ rt ∉ S ∧ S ≠ [] ∧ cutW Vs w (fun u => !memB S u) = n
structure WStep (Vs : List Str) (rt : Str) (w : Wf) (n : Int) (pre : List Str) (FL : List (List Str)) : Prop where
  nd : FL.Nodup
  ok : ∀ c ∈ FL, IsW Vs rt w n c ∧ ∃ v ∈ c, v ∈ pre
  all : ∀ S, IsW Vs rt w n S → (∃ v ∈ S, v ∈ pre) → S ∈ FL
theorem WStep.start {Vs : List Str} {rt : Str} {w : Wf} {n : Int} : WStep Vs rt w n [] [] := ⟨List.nodup_nil, fun c h => (by cases h), fun S _ ⟨v, _, h⟩ => (by cases h)⟩
theorem WStep.skip {Vs : List Str} {rt : Str} {w : Wf} {n : Int} {pre : List Str} {FL : List (List Str)} (h : WStep Vs rt w n pre FL) : WStep Vs rt w n (pre ++ [rt]) FL :=
  ⟨h.nd, fun c hc => let ⟨a, v, b, d⟩ := h.ok c hc; ⟨a, v, b, List.mem_append_left _ d⟩, fun S hS ⟨v, a, b⟩ => h.all S hS ⟨v, a, (List.mem_append.mp b).elim id fun z => by
    rw [List.mem_singleton.mp z] at a
    exact absurd a hS.2.2.1⟩⟩
theorem asc_same {S c : List Str} (h1 : Asc S) (h2 : Asc c) (h : ∀ v, v ∈ S ↔ v ∈ c) : S = c := asc_uniq ltS_irrefl (fun _ _ _ a b => ltS_trans a b) h1 h2 h
theorem WStep.add {Vs : List Str} {rt : Str} {w r : Wf} {n : Int} {pre src : List Str} {v : Str} {FL L : List (List Str)} (h : WStep Vs rt w n pre FL) (hs : ∀ s, s ∈ src ↔ s = rt ∨ s ∈ pre) (hv : v ∈ Vs) (R : ResM Vs w src v n r) (A : AllI Vs r src v L) : WStep Vs rt w n (pre ++ [v]) (FL ++ L) := by
  have isw : ∀ c ∈ L, IsW Vs rt w n c ∧ v ∈ c ∧ ∀ u ∈ pre, u ∉ c := fun c hc => by
    obtain ⟨a, b, d⟩ := A.ok c hc
    have nin : ∀ s ∈ src, s ∉ c := fun s hs z => by
      have := d.src s hs
      rw [memB_iff.mpr z] at this
      cases this
    have hvc : v ∈ c := memB_iff.mp d.t
    exact ⟨⟨a, b, nin rt ((hs rt).mpr (.inl rfl)), (fun z => by rw [z] at hvc; cases hvc), (R.tight d.src d.t).mpr d⟩, hvc, fun u hu => nin u ((hs u).mpr (.inr hu))⟩
  refine ⟨List.nodup_append.mpr ⟨h.nd, A.nd, fun a ha b hb e => ?_⟩, fun c hc => ?_, fun S hS ⟨u, hu, hp⟩ => ?_⟩
  · subst e
    obtain ⟨_, u, h1, h2⟩ := h.ok a ha
    exact (isw a hb).2.2 u h2 h1
  · rcases List.mem_append.mp hc with hc | hc
    · obtain ⟨a, u, h1, h2⟩ := h.ok c hc
      exact ⟨a, u, h1, List.mem_append_left _ h2⟩
    · exact ⟨(isw c hc).1, v, (isw c hc).2.1, by simp⟩
  · by_cases z : ∃ u ∈ S, u ∈ pre
    · exact List.mem_append_left _ (h.all S hS z)
    · have huv : u = v := by
        rcases List.mem_append.mp hp with y | y
        · exact absurd ⟨u, hu, y⟩ z
        · exact List.mem_singleton.mp y
      subst huv
      have h1 : ∀ s ∈ src, memB S s = false := fun s hs' => by
        have : s ∉ S := fun y => by
          rcases (hs s).mp hs' with e | e
          · exact hS.2.2.1 (e ▸ y)
          · exact z ⟨s, y, e⟩
        simp [memB, this]
      have idl := (R.tight h1 (memB_iff.mpr hu)).mp hS.2.2.2.2
      obtain ⟨c, hc, e⟩ := A.all _ idl
      have : S = c := asc_same hS.1 (A.ok c hc).1 fun y => ⟨fun q => memB_iff.mp (by rw [← e y (hS.2.1 y q)]; exact memB_iff.mpr q), fun q => memB_iff.mp (by rw [e y ((A.ok c hc).2.1 y q)]; exact memB_iff.mpr q)⟩
      rw [this]
      exact List.mem_append_right _ hc
/-- all weakest sides, in their order -/
structure WeakL (Vs : List Str) (rt : Str) (w : Wf) (n : Int) (W : List (List Str)) : Prop where
  nd : W.Nodup
  so : W.Pairwise fun a b => dataLe false encL a b = true
  mem : ∀ S, S ∈ W ↔ IsW Vs rt w n S
theorem WStep.done {Vs : List Str} {rt : Str} {w : Wf} {n : Int} {FL : List (List Str)} (h : WStep Vs rt w n Vs FL) : WeakL Vs rt w n (FL.mergeSort (dataLe false encL)) := by
  have pm := List.mergeSort_perm FL (dataLe false encL)
  refine ⟨pm.nodup_iff.mpr h.nd, sort_pw encL FL, fun S => ?_⟩
  rw [pm.mem_iff]
  refine ⟨fun z => (h.ok S z).1, fun z => h.all S z ?_⟩
  obtain ⟨v, hv⟩ := List.exists_mem_of_ne_nil S z.2.2.2.1
  exact ⟨v, hv, z.2.1 v hv⟩
theorem WeakL.uniq {Vs : List Str} {rt : Str} {w : Wf} {n : Int} {W W' : List (List Str)} (h : WeakL Vs rt w n W) (k : WeakL Vs rt w n W') : W = W' := sort_uniq (fun _ _ => toks_encL) h.nd k.nd h.so k.so fun S => (h.mem S).trans (k.mem S).symm
end WkP
namespace WkP
open PySem WkN WkD
open PySem.W (dataLe keyToks keyToksAll EachIs)
/-! ### sides as bits -/
/-- rising places -/
def Ris (Vs S : List Str) : Prop := S.Pairwise fun u v => Vs.idxOf u < Vs.idxOf v
/-! ### families of what crosses -/
/-- each but the first is crossed by an earlier one -/
def Con (X : Nat → Nat → Prop) (f : List Nat) : Prop := f ≠ [] ∧ ∀ k x, 0 < k → f[k]? = some x → ∃ j y, j < k ∧ f[j]? = some y ∧ X y x
structure FamI (X : Nat → Nat → Prop) (n : Nat) (F : List (List Nat)) (fm : List Nat) (d : Nat) (lf : List Nat) : Prop where
  perm : (F.flatten ++ fm ++ lf).Perm (List.range n)
  con : ∀ f ∈ F, Con X f
  conf : fm ≠ [] → Con X fm
  pw : F.Pairwise fun f g => ∀ i ∈ f, ∀ j ∈ g, ¬ X i j
  cF : ∀ f ∈ F, ∀ i ∈ f, ∀ j ∈ fm ++ lf, ¬ X i j
  cl : ∀ i ∈ fm.take d, ∀ j ∈ lf, ¬ X i j
structure Fmls (X : Nat → Nat → Prop) (n : Nat) (F : List (List Nat)) : Prop where
  perm : F.flatten.Perm (List.range n)
  con : ∀ f ∈ F, Con X f
  pw : F.Pairwise fun f g => ∀ i ∈ f, ∀ j ∈ g, ¬ X i j
theorem FamI.start (X : Nat → Nat → Prop) (n : Nat) : FamI X n [] [] 0 (List.range n) := ⟨List.Perm.refl _, fun f h => (by cases h), fun h => absurd rfl h, .nil, fun f h => (by cases h), fun i h => (by cases h)⟩
theorem FamI.turn {X : Nat → Nat → Prop} {n : Nat} {F : List (List Nat)} {fm lf : List Nat} {d o : Nat} {c : Nat → Bool} (h : FamI X n F fm d lf) (ho : fm[d]? = some o) (hc : ∀ j ∈ lf, c j = true ↔ X o j) :
    FamI X n F (fm ++ lf.filter c) (d + 1) (lf.filter fun j => !c j) := by
  have hdl := (List.getElem?_eq_some_iff.mp ho).1
  have m1 : ∀ j, j ∈ lf.filter c ↔ j ∈ lf ∧ c j = true := fun j => List.mem_filter
  have m2 : ∀ j, j ∈ lf.filter (fun j => !c j) ↔ j ∈ lf ∧ c j = false := fun j => by rw [List.mem_filter]; simp
  refine ⟨?_, h.con, fun _ => ⟨?_, fun k x hk e => ?_⟩, h.pw, fun f hf i hi j hj => h.cF f hf i hi j ?_, fun i hi j hj => ?_⟩
  · refine List.Perm.trans ?_ h.perm
    rw [← List.append_assoc, List.append_assoc, List.append_assoc, List.append_assoc]
    refine List.Perm.append_left _ (List.Perm.append_left _ ?_)
    exact List.filter_append_perm c lf
  · intro z
    have := (List.append_eq_nil_iff.mp z).1
    rw [this] at hdl
    cases hdl
  · by_cases hkl : k < fm.length
    · rw [List.getElem?_append_left hkl] at e
      have hne : fm ≠ [] := fun z => by rw [z] at hkl; cases hkl
      obtain ⟨j, y, a, b, q⟩ := (h.conf hne).2 k x hk e
      exact ⟨j, y, a, by rw [List.getElem?_append_left (by omega)]; exact b, q⟩
    · rw [List.getElem?_append_right (by omega)] at e
      have hx := (m1 x).mp (List.mem_of_getElem? e)
      exact ⟨d, o, by omega, by rw [List.getElem?_append_left hdl]; exact ho, (hc x hx.1).mp hx.2⟩
  · rcases List.mem_append.mp hj with z | z
    · rcases List.mem_append.mp z with z | z
      · exact List.mem_append_left _ z
      · exact List.mem_append_right _ ((m1 j).mp z).1
    · exact List.mem_append_right _ ((m2 j).mp z).1
  · obtain ⟨j1, j2⟩ := (m2 j).mp hj
    rw [List.take_append_of_le_length (by omega), List.take_add_one, ho] at hi
    rcases List.mem_append.mp hi with z | z
    · exact h.cl i z j j1
    · have : i = o := by simpa using z
      rw [this]
      intro x
      rw [(hc j j1).mpr x] at j2
      cases j2
theorem FamI.done {X : Nat → Nat → Prop} {n : Nat} {F : List (List Nat)} (h : FamI X n F [] 0 []) : Fmls X n F := ⟨by have := h.perm; simpa using this, h.con, h.pw⟩
theorem FamI.len {X : Nat → Nat → Prop} {n : Nat} {F : List (List Nat)} {fm lf : List Nat} {d : Nat} (h : FamI X n F fm d lf) : F.flatten.length + fm.length + lf.length = n := by
  have := h.perm.length_eq
  rw [List.length_append, List.length_append, List.length_range] at this
  exact this
theorem FamI.lt {X : Nat → Nat → Prop} {n : Nat} {F : List (List Nat)} {fm lf : List Nat} {d : Nat} (h : FamI X n F fm d lf) {i : Nat} (hi : i ∈ fm ∨ i ∈ lf) : i < n := by
  have := h.perm.mem_iff (a := i)
  rw [List.mem_range] at this
  refine this.mp ?_
  rw [List.append_assoc]
  refine List.mem_append_right _ (List.mem_append.mpr hi)
end WkP
/-! WkTk: dicts whose keys are tuples, by a map from what they stand for -/
namespace WkP
open PySem PySem.Spec PyProof.Rows L2 WkN WkD
open PySem.W (EachIs)
section
variable {κ : Type} [DecidableEq κ] {f : κ → List Key} {ks : List κ} {g g' : κ → V} {a : κ} {x : V}
def dctT (f : κ → List Key) (ks : List κ) (g : κ → V) : List (List Key × V) := ks.map fun S => (f S, g S)
variable (hf : ∀ a b, f a = f b → a = b)
include hf
theorem dctT_val : ∀ {ks : List κ}, valV (dctT f ks g) (f a) = if a ∈ ks then some (g a) else none
  | [] => by
    rw [if_neg (by simp)]
    rfl
  | k :: ks => by
    show valV ((f k, g k) :: dctT f ks g) (f a) = _
    by_cases h : k = a
    · subst h
      rw [valV_pos rfl, if_pos (by simp)]
    · rw [valV_neg (fun z => h (hf _ _ z)), dctT_val]
      by_cases hm : a ∈ ks
      · rw [if_pos hm, if_pos (List.mem_cons_of_mem _ hm)]
      · rw [if_neg hm, if_neg (fun z => (List.mem_cons.mp z).elim (fun e => h e.symm) hm)]
theorem getT {H : Hp} {d b : Addr} (h : Rd H d (.dT (dctT f ks g))) (hb : H b = some (.tup ((f a).map kV))) : DGet H d (.ref b) (if a ∈ ks then some (g a) else none) :=
  .inr ⟨_, f a, b, h, rfl, hb, (dctT_val hf).symm⟩
end
/-! ### parents -/
/-- the lone cuts that lie around a lone cut -/
def hdIn : List Str → List Str → Bool
  | [], _ => false
  | u :: _, o => decide (u ∈ o)
def arB (S o : List Str) : Bool := decide (S.length < o.length) && hdIn S o
def arF (Ls : List (List Str)) (S : List Str) : List (List Str) := Ls.filter (arB S)
def ParV (H : Hp) (Ls : List (List Str)) (S : List Str) (x : V) : Prop := (arF Ls S = [] ∧ x = .non) ∨ ∃ i T r, (arF Ls S)[i]? = some T ∧ WkMn.FirstMin ((arF Ls S).map List.length) i ∧ x = .ref r ∧ H r = some (.tup (T.map V.str))
theorem ParV.same {H H' : Hp} {Ls : List (List Str)} {S : List Str} {x : V} (h : ParV H Ls S x) (hs : ∀ b o, H b = some (.tup o) → H' b = some (.tup o)) : ParV H' Ls S x := by
  rcases h with h | ⟨i, T, r, a, b, c, d⟩
  · exact .inl h
  · exact .inr ⟨i, T, r, a, b, c, hs _ _ d⟩
end WkP
/-! Gusfield's tree of the strengths of pairs, in plain words -/
namespace WkP
open PySem WkD
section
variable {l : List Str} {w : Wf} {lam : Str → Str → Int}
theorem cut_two (sy : ∀ u ∈ l, ∀ v ∈ l, w u v = w v u) (S : Sd) : 2 * cutW l w S = sm l fun u => sm l fun v => if S u = S v then 0 else w u v := by
  have e1 : cutW l w S = sm l fun u => sm l fun v => if S v = true ∧ S u = false then w u v else 0 := by
    unfold cutW
    rw [sm_swp l l]
    refine sm_congr fun u hu => sm_congr fun v hv => ?_
    rw [sy v hv u hu]
  have e2 : 2 * cutW l w S = cutW l w S + cutW l w S := by omega
  rw [e2]
  conv => lhs; rhs; rw [e1]
  unfold cutW
  rw [← sm_add]
  refine sm_congr fun u hu => ?_
  rw [← sm_add]
  refine sm_congr fun v hv => ?_
  cases S u <;> cases S v <;> simp
theorem cut_neg (sy : ∀ u ∈ l, ∀ v ∈ l, w u v = w v u) (S : Sd) : cutW l w (fun u => !S u) = cutW l w S := by
  have h1 := cut_two sy S
  have h2 := cut_two sy fun u => !S u
  have e : (sm l fun u => sm l fun v => if (!S u) = (!S v) then 0 else w u v) = sm l fun u => sm l fun v => if S u = S v then 0 else w u v := sm_congr fun u _ => sm_congr fun v _ => by
    cases S u <;> cases S v <;> simp
  omega
/-- what lies outside of the other on both sides -/
theorem posi (sy : ∀ u ∈ l, ∀ v ∈ l, w u v = w v u) (nn : ∀ u ∈ l, ∀ v ∈ l, 0 ≤ w u v) (X Z : Sd) : cutW l w (fun u => X u && !Z u) + cutW l w (fun u => Z u && !X u) ≤ cutW l w X + cutW l w Z := by
  have h1 := cut_two sy X
  have h2 := cut_two sy Z
  have h3 := cut_two sy fun u => X u && !Z u
  have h4 := cut_two sy fun u => Z u && !X u
  have le : (sm l fun u => (sm l fun v => if (X u && !Z u) = (X v && !Z v) then 0 else w u v) + sm l fun v => if (Z u && !X u) = (Z v && !X v) then 0 else w u v) ≤ sm l fun u => (sm l fun v => if X u = X v then 0 else w u v) + sm l fun v => if Z u = Z v then 0 else w u v := by
    refine sm_le fun u hu => ?_
    rw [← sm_add, ← sm_add]
    refine sm_le fun v hv => ?_
    have := nn u hu v hv
    cases X u <;> cases Z u <;> cases X v <;> cases Z v <;> simp <;> omega
  rw [sm_add, sm_add] at le
  omega
/-- the least weight of a cut between two -/
def IsLam (l : List Str) (w : Wf) (u v : Str) (n : Int) : Prop := (∃ S : Sd, S u = true ∧ S v = false ∧ cutW l w S = n) ∧ ∀ S : Sd, S u = true → S v = false → n ≤ cutW l w S
structure LamOk (l : List Str) (w : Wf) (lam : Str → Str → Int) : Prop where
  sy : ∀ u ∈ l, ∀ v ∈ l, w u v = w v u
  nn : ∀ u ∈ l, ∀ v ∈ l, 0 ≤ w u v
  is : ∀ u ∈ l, ∀ v ∈ l, u ≠ v → IsLam l w u v (lam u v)
theorem LamOk.le (h : LamOk l w lam) {u v : Str} (hu : u ∈ l) (hv : v ∈ l) (ne : u ≠ v) {S : Sd} (s : S u ≠ S v) : lam u v ≤ cutW l w S := by
  cases a : S u with
  | true => exact (h.is u hu v hv ne).2 S a (by rw [a] at s; cases b : S v with | true => exact absurd b.symm s | false => rfl)
  | false =>
    rw [← cut_neg h.sy]
    refine (h.is u hu v hv ne).2 _ (by rw [a]; rfl) ?_
    rw [a] at s
    cases b : S v with
    | true => rfl
    | false => exact absurd b.symm s
theorem LamOk.symm (h : LamOk l w lam) {u v : Str} (hu : u ∈ l) (hv : v ∈ l) (ne : u ≠ v) : lam u v = lam v u := by
  obtain ⟨S, a, b, e⟩ := (h.is u hu v hv ne).1
  obtain ⟨S', a', b', e'⟩ := (h.is v hv u hu (Ne.symm ne)).1
  have h1 := h.le hv hu (Ne.symm ne) (S := S) (by rw [a, b]; simp)
  have h2 := h.le hu hv ne (S := S') (by rw [a', b']; simp)
  omega
theorem LamOk.tri (h : LamOk l w lam) {u x v : Str} (hu : u ∈ l) (hx : x ∈ l) (hv : v ∈ l) (ux : u ≠ x) (xv : x ≠ v) (uv : u ≠ v) : lam u x ≤ lam u v ∨ lam x v ≤ lam u v := by
  obtain ⟨S, a, b, e⟩ := (h.is u hu v hv uv).1
  cases c : S x with
  | true => exact .inr (by rw [← e]; exact h.le hx hv xv (by rw [c, b]; simp))
  | false => exact .inl (by rw [← e]; exact h.le hu hx ux (by rw [a, c]; simp))
/-- the groups, each with its member that has its place in the tree -/
structure Gus (l : List Str) (w : Wf) (lam : Str → Str → Int) (P : List Str) (gr : Str → Str) : Prop where
  sub : ∀ p ∈ P, p ∈ l
  rep : ∀ a ∈ l, gr a ∈ P
  own : ∀ p ∈ P, gr p = p
  sep : ∀ x ∈ P, ∀ y ∈ P, x ≠ y → ∃ (Z : Sd) (zx zy : Str), zx ∈ P ∧ zy ∈ P ∧ zx ≠ zy ∧ (∀ a ∈ l, gr a = x → Z a = false) ∧ (∀ b ∈ l, gr b = y → Z b = true) ∧ Z zx = false ∧ Z zy = true ∧ cutW l w Z = lam zx zy ∧ (zy = y ∨ lam x y ≤ lam zy y) ∧ (zx = x ∨ lam x y ≤ lam x zx)
  low : ∀ a ∈ l, ∀ b ∈ l, gr a ≠ gr b → lam a b ≤ lam (gr a) (gr b)
theorem Gus.start {r : Str} (hr : r ∈ l) : Gus l w lam [r] fun _ => r :=
  ⟨fun p hp => List.mem_singleton.mp hp ▸ hr, fun _ _ => List.mem_singleton.mpr rfl, fun p hp => (List.mem_singleton.mp hp).symm, fun x hx y hy ne => absurd ((List.mem_singleton.mp hx).trans (List.mem_singleton.mp hy).symm) ne, fun _ _ _ _ ne => absurd rfl ne⟩
/-- the way from a new place to the others -/
theorem Gus.way (h : LamOk l w lam) {P : List Str} {gr : Str → Str} (G : Gus l w lam P gr) {v : Str} (hv : v ∈ l) (nv : v ∉ P) {X : Sd} (h1 : X v = true) (h2 : X (gr v) = false) (hc : cutW l w X = lam v (gr v)) {q : Str} (hq : q ∈ P) (ne : q ≠ gr v) : lam v q ≤ lam v (gr v) ∧ lam v q ≤ lam (gr v) q ∧ (lam v (gr v) ≤ lam v q ∨ lam (gr v) q ≤ lam v q) := by
  have ht := G.rep v hv
  have tl := G.sub _ ht
  have ql := G.sub q hq
  have vt : v ≠ gr v := fun e => nv (e ▸ ht)
  have vq : v ≠ q := fun e => nv (e ▸ hq)
  have b := G.low v hv q ql (by rw [G.own q hq]; exact Ne.symm ne)
  rw [G.own q hq] at b
  refine ⟨?_, b, h.tri hv tl ql vt (Ne.symm ne) vq⟩
  cases x : X q with
  | false =>
    rw [← hc]
    exact h.le hv ql vq (by rw [h1, x]; simp)
  | true =>
    have := h.le tl ql (Ne.symm ne) (S := X) (by rw [h2, x]; simp)
    omega
theorem Gus.step (h : LamOk l w lam) {P : List Str} {gr : Str → Str} (G : Gus l w lam P gr) {v : Str} (hv : v ∈ l) (nv : v ∉ P) {X : Sd} (h1 : X v = true) (h2 : X (gr v) = false) (hc : cutW l w X = lam v (gr v)) : Gus l w lam (v :: P) fun a => if gr a = gr v ∧ X a = true then v else gr a := by
  obtain ⟨t, et⟩ : ∃ t, t = gr v := ⟨_, rfl⟩
  have way := fun q hq ne => G.way h hv nv h1 h2 hc (q := q) hq ne
  have ht := G.rep v hv
  rw [← et] at ht h2 hc way ⊢
  have tl := G.sub _ ht
  have ot := G.own t ht
  have vt : v ≠ t := fun e => nv (e ▸ ht)
  have nP : ∀ q ∈ P, v ≠ q := fun q hq e => nv (e ▸ hq)
  -- what a member's place is
  have low' : ∀ a ∈ l, ∀ b ∈ l, gr a = t → X a = true → ¬ (gr b = t ∧ X b = true) → lam a b ≤ lam v (gr b) := by
    intro a ha b hb ga xa nb
    by_cases gb : gr b = t
    · have xb : X b = false := by
        cases z : X b with
        | true => exact absurd ⟨gb, z⟩ nb
        | false => rfl
      rw [gb, ← hc]
      exact h.le ha hb (fun e => by rw [e, xb] at xa; cases xa) (by rw [xa, xb]; simp)
    · obtain ⟨y, ey⟩ : ∃ y, y = gr b := ⟨_, rfl⟩
      have hy : y ∈ P := ey ▸ G.rep b hb
      have yl := G.sub y hy
      have yt : y ≠ t := ey ▸ gb
      rw [← ey]
      have ab := G.low a ha b hb (by rw [ga]; exact Ne.symm gb)
      rw [ga, ← ey] at ab
      obtain ⟨w1, w2, w3⟩ := way y hy yt
      rcases w3 with w3 | w3
      · rcases Int.lt_or_le (lam v t) (lam t y) with lt | ge
        · -- the place y lies outside of X
          have xy : X y = false := by
            cases z : X y with
            | false => rfl
            | true =>
              have := h.le tl yl (Ne.symm yt) (S := X) (by rw [h2, z]; simp)
              omega
          cases xb : X b with
          | false =>
            have ne : a ≠ b := fun e => by rw [e, xb] at xa; cases xa
            have := h.le ha hb ne (S := X) (by rw [xa, xb]; simp)
            omega
          | true =>
            obtain ⟨Z, zx, zy, hzx, hzy, zne, Za, Zb, Z1, Z2, Zc, c1, c2⟩ := G.sep t ht y hy (Ne.symm yt)
            have zl := G.sub zy hzy
            have xz : X zy = false := by
              rcases c1 with e | c1
              · rw [e]
                exact xy
              · cases z : X zy with
                | false => rfl
                | true =>
                  by_cases e : zy = y
                  · rw [e, xy] at z
                    cases z
                  · have := h.le zl yl e (S := X) (by rw [z, xy]; simp)
                    omega
            have p := posi h.sy h.nn X Z
            have zv := Za v hv et.symm
            have zt := Za t tl ot
            have q1 := h.le hv tl vt (S := fun u => X u && !Z u) (by show (X v && !Z v) ≠ (X t && !Z t); rw [h1, zv, h2]; simp)
            have q2 := h.le (G.sub zx hzx) zl zne (S := fun u => Z u && !X u) (by show (Z zx && !X zx) ≠ (Z zy && !X zy); rw [Z1, Z2, xz]; simp)
            have za := Za a ha ga
            have zb := Zb b hb ey.symm
            have ne : a ≠ b := fun e => by rw [e, zb] at za; cases za
            have q3 := h.le ha hb ne (S := fun u => X u && !Z u) (by show (X a && !Z a) ≠ (X b && !Z b); rw [xa, za, zb]; simp)
            omega
        · omega
      · omega
  refine ⟨fun p hp => ?_, fun a ha => ?_, fun p hp => ?_, fun x hx y hy ne => ?_, fun a ha b hb ne => ?_⟩
  · rcases List.mem_cons.mp hp with rfl | hp
    · exact hv
    · exact G.sub p hp
  · show (if gr a = t ∧ X a = true then v else gr a) ∈ v :: P
    split
    · exact List.mem_cons_self
    · exact List.mem_cons_of_mem _ (G.rep a ha)
  · show (if gr p = t ∧ X p = true then v else gr p) = p
    rcases List.mem_cons.mp hp with rfl | hp
    · rw [if_pos ⟨et.symm, h1⟩]
    · rw [G.own p hp, if_neg fun z => by rw [z.1, h2] at z; cases z.2]
  · have gv : ∀ a ∈ l, (if gr a = t ∧ X a = true then v else gr a) = v → gr a = t ∧ X a = true := fun a ha e => by
      by_cases c : gr a = t ∧ X a = true
      · exact c
      · rw [if_neg c] at e
        exact absurd e.symm (nP _ (G.rep a ha))
    have gp : ∀ q ∈ P, ∀ a : Str, (if gr a = t ∧ X a = true then v else gr a) = q → gr a = q ∧ ¬ (gr a = t ∧ X a = true) := fun q hq a e => by
      by_cases c : gr a = t ∧ X a = true
      · rw [if_pos c] at e
        exact absurd e (nP q hq)
      · rw [if_neg c] at e
        exact ⟨e, c⟩
    have up : ∀ {q}, q ∈ P → q ∈ v :: P := fun hq => List.mem_cons_of_mem _ hq
    have sym := fun {q : Str} (hq : q ∈ P) => h.symm hv (G.sub q hq) (nP q hq)
    have hx0 := List.mem_cons.mp hx
    have hy0 := List.mem_cons.mp hy
    clear hx hy
    rcases hx0 with rfl | hx
    · rcases hy0 with rfl | hy
      · exact absurd rfl ne
      by_cases e : y = t
      · subst e
        refine ⟨fun u => !X u, x, y, List.mem_cons_self, up hy, ne, fun a ha q => ?_, fun b hb q => ?_, ?_, ?_, by rw [cut_neg h.sy, hc], .inl rfl, .inl rfl⟩
        · show (!X a) = false
          rw [(gv a ha q).2]
          rfl
        · show (!X b) = true
          obtain ⟨q1, q2⟩ := gp y hy b q
          cases z : X b with
          | false => rfl
          | true => exact absurd ⟨q1, z⟩ q2
        · show (!X x) = false
          rw [h1]
          rfl
        · show (!X y) = true
          rw [h2]
          rfl
      · obtain ⟨Z, zx, zy, hzx, hzy, zne, Za, Zb, Z1, Z2, Zc, c1, c2⟩ := G.sep t ht y hy (Ne.symm e)
        obtain ⟨w1, w2, _⟩ := way y hy e
        refine ⟨Z, zx, zy, up hzx, up hzy, zne, fun a ha q => Za a ha (gv a ha q).1, fun b hb q => Zb b hb (gp y hy b q).1, Z1, Z2, Zc, ?_, .inr ?_⟩
        · rcases c1 with c1 | c1
          · exact .inl c1
          · exact .inr (by omega)
        · by_cases ez : zx = t
          · rw [ez]
            exact w1
          · rcases c2 with c2 | c2
            · exact absurd c2 ez
            · obtain ⟨_, _, w3⟩ := way zx hzx ez
              omega
    · rcases hy0 with rfl | hy
      · by_cases e : x = t
        · subst e
          refine ⟨X, x, y, up hx, List.mem_cons_self, ne, fun a ha q => ?_, fun b hb q => (gv b hb q).2, h2, h1, by rw [hc, sym hx], .inl rfl, .inl rfl⟩
          obtain ⟨q1, q2⟩ := gp x hx a q
          cases z : X a with
          | false => rfl
          | true => exact absurd ⟨q1, z⟩ q2
        · obtain ⟨Z, zx, zy, hzx, hzy, zne, Za, Zb, Z1, Z2, Zc, c1, c2⟩ := G.sep x hx t ht e
          obtain ⟨w1, w2, _⟩ := way x hx e
          have s1 := sym hx
          have s2 := h.symm (G.sub x hx) tl e
          refine ⟨Z, zx, zy, up hzx, up hzy, zne, fun a ha q => Za a ha (gp x hx a q).1, fun b hb q => Zb b hb (gv b hb q).1, Z1, Z2, Zc, .inr ?_, ?_⟩
          · have s3 := sym hzy
            by_cases ez : zy = t
            · rw [ez] at s3 ⊢
              omega
            · rcases c1 with c1 | c1
              · exact absurd c1 ez
              · obtain ⟨_, _, w3⟩ := way zy hzy ez
                have s4 := h.symm (G.sub zy hzy) tl ez
                omega
          · rcases c2 with c2 | c2
            · exact .inl c2
            · exact .inr (by omega)
      · obtain ⟨Z, zx, zy, hzx, hzy, zne, Za, Zb, Z1, Z2, Zc, c1, c2⟩ := G.sep x hx y hy ne
        exact ⟨Z, zx, zy, up hzx, up hzy, zne, fun a ha q => Za a ha (gp x hx a q).1, fun b hb q => Zb b hb (gp y hy b q).1, Z1, Z2, Zc, c1, c2⟩
  · have ne : (if gr a = t ∧ X a = true then v else gr a) ≠ if gr b = t ∧ X b = true then v else gr b := ne
    show lam a b ≤ lam (if gr a = t ∧ X a = true then v else gr a) (if gr b = t ∧ X b = true then v else gr b)
    by_cases ca : gr a = t ∧ X a = true
    · rw [if_pos ca] at ne ⊢
      by_cases cb : gr b = t ∧ X b = true
      · rw [if_pos cb] at ne
        exact absurd rfl ne
      · rw [if_neg cb]
        exact low' a ha b hb ca.1 ca.2 cb
    · rw [if_neg ca] at ne ⊢
      by_cases cb : gr b = t ∧ X b = true
      · rw [if_pos cb]
        have nab : a ≠ b := fun e => ca (e ▸ cb)
        have := low' b hb a ha cb.1 cb.2 ca
        rw [h.symm ha hb nab, h.symm (G.sub _ (G.rep a ha)) hv (Ne.symm (nP _ (G.rep a ha)))]
        exact this
      · rw [if_neg cb] at ne ⊢
        exact G.low a ha b hb ne
open Classical in
theorem IsLam.uniq {u v : Str} {n m : Int} (a : IsLam l w u v n) (b : IsLam l w u v m) : n = m := by
  obtain ⟨⟨S, s1, s2, s3⟩, s4⟩ := a
  obtain ⟨⟨T, t1, t2, t3⟩, t4⟩ := b
  have := s4 T t1 t2
  have := t4 S s1 s2
  omega
end
end WkP
/-! WkCo: classes of vertices, by heads and by marks; in plain words -/
namespace WkP
open PySem WkN WkD
/-- two of a tree have one head exactly if they are strongly joined -/
structure HeadsOk (lam : Str → Str → Int) (m : Int) (l : List Str) (hd : Str → Str) : Prop where
  eq : ∀ u ∈ l, ∀ v ∈ l, hd u = hd v ↔ u = v ∨ m < lam u v
  mem : ∀ u ∈ l, hd u ∈ l
theorem HeadsOk.one {lam : Str → Str → Int} {m : Int} {t : Str} {hd : Str → Str} (h : hd t = t) : HeadsOk lam m [t] hd :=
  ⟨fun u hu v hv => by rw [List.mem_singleton.mp hu, List.mem_singleton.mp hv]; exact ⟨fun _ => .inl rfl, fun _ => rfl⟩, fun u hu => by rw [List.mem_singleton.mp hu, h]; exact List.mem_singleton.mpr rfl⟩
theorem HeadsOk.step {lam : Str → Str → Int} {m : Int} {l : List Str} {hd : Str → Str} {v b : Str} (h : HeadsOk lam m l hd) (sy : ∀ q ∈ l, lam v q = lam q v) (hv : v ∉ l) (hb : b ∈ l) (hq : ∀ q ∈ l, q ≠ b → lam v q = min (lam v b) (lam b q)) :
    HeadsOk lam m (l ++ [v]) (fun y => if y = v then (if m < lam v b then hd b else v) else hd y) := by
  have old : ∀ {u : Str}, u ∈ l → (if u = v then (if m < lam v b then hd b else v) else hd u) = hd u := fun {u} hu => if_neg fun e => hv (by rw [← e]; exact hu)
  have key : ∀ w ∈ l, (if m < lam v b then hd b else v) = hd w ↔ m < lam v w := fun w hw => by
    by_cases c : m < lam v b
    · rw [if_pos c, h.eq b hb w hw]
      by_cases e : w = b
      · subst e
        exact ⟨fun _ => c, fun _ => .inl rfl⟩
      · rw [hq w hw e]
        constructor
        · rintro (e2 | e2)
          · exact absurd e2.symm e
          · omega
        · intro e2
          exact .inr (by omega)
    · rw [if_neg c]
      constructor
      · intro e
        exact absurd (e ▸ h.mem w hw) hv
      · intro e2
        by_cases e : w = b
        · subst e
          exact absurd e2 c
        · rw [hq w hw e] at e2
          omega
  refine ⟨fun u hu w hw => ?_, fun u hu => ?_⟩
  · rcases List.mem_append.mp hu with hu1 | hu1
    · rcases List.mem_append.mp hw with hw1 | hw1
      · rw [old hu1, old hw1]
        exact h.eq u hu1 w hw1
      · have e : w = v := List.mem_singleton.mp hw1
        rw [e, old hu1, if_pos rfl]
        have ne : u ≠ v := fun e => hv (by rw [← e]; exact hu1)
        rw [eq_comm, key u hu1, sy u hu1]
        exact ⟨.inr, fun z => z.resolve_left ne⟩
    · have e : u = v := List.mem_singleton.mp hu1
      rcases List.mem_append.mp hw with hw1 | hw1
      · rw [e, old hw1, if_pos rfl]
        have ne : v ≠ w := fun e => hv (by rw [e]; exact hw1)
        rw [key w hw1]
        exact ⟨.inr, fun z => z.resolve_left ne⟩
      · rw [e, List.mem_singleton.mp hw1]
        exact ⟨fun _ => .inl rfl, fun _ => rfl⟩
  · rcases List.mem_append.mp hu with hu | hu
    · rw [old hu]
      exact List.mem_append_left _ (h.mem u hu)
    · rw [List.mem_singleton.mp hu, if_pos rfl]
      split
      · exact List.mem_append_left _ (h.mem b hb)
      · exact List.mem_append_right _ (List.mem_singleton.mpr rfl)
end WkP
/-! WkBk: blocks: vertices with equal marks, in the order of their first vertices -/
namespace WkP
open PySem PySem.Spec PyProof.Rows L2 WkN WkD
open PySem.W (EachIs)
section
variable {κ : Type} [DecidableEq κ] {mk : Str → κ} {l : List Str} {u : Str} {m : κ}
/-- the block of a mark -/
def blk (mk : Str → κ) (l : List Str) (m : κ) : List Str := l.filter fun z => decide (mk z = m)
end
end WkP
/-! WkSk: sorted(d), the keys tuples of texts of any length -/
namespace WkP
open PySem PySem.Spec PyProof.Rows L2 PySem.W WkD
section
variable {X : Cx}
end
end WkP
namespace WkV
open PySem PySem.Spec PyProof.Rows L2 WkD WkN
theorem cutV_one {ys : List V} : cutV ys (some 1) none = ys.tail := by
  unfold cutV
  rw [HT.sIx_none, show (1 : Int) = ((1 : Nat) : Int) from rfl, HT.sIx_nat]
  cases ys with
  | nil => rfl
  | cons y ys =>
    simp
/-- list(o.values()) -/
def tListVals (td : TE) : TE := fun σ H Q => td σ H fun x H1 => ∃ a kvs, x = V.ref a ∧ Rd H1 a (.dK kvs) ∧ ∀ p, H1 p = none → Q (.ref p) (upd H1 p (.lst (kvs.map (·.2))))
section
variable {X : Cx} {o : Expr} {p pos apos mpos : Pos} {td : TE}
theorem vals_at : ∀ {kvs : List (Key × V)} {vs : List (Key × Value)} {us : List Value}, KV kvs vs → us.length = kvs.length → (∀ (i : Nat) (v : Value), us[i]? = some v → ∃ k, vs[i]? = some (k, v)) → Vals (kvs.map (·.2)) us
  | [], _, [], _, _, _ => .nil
  | (k, x) :: kvs, vs, u :: us, r, hl, h => by
    cases r with
    | cons r t =>
      obtain ⟨k1, e⟩ := h 0 u rfl
      have e := Option.some.inj (show some _ = some (k1, u) from e)
      refine .cons ?_ (vals_at t (by simpa using hl) fun i v hv => by simpa using h (i + 1) v (by simpa using hv))
      have r2 := r.2
      rw [e] at r2
      exact r2
  | [], _, _ :: _, _, hl, _ => by simp at hl
  | _ :: _, _, [], _, hl, _ => by simp at hl
theorem pe_listVals (hc : X.calm = true) (hg : Gl X "list") (hm : X.mg "list" = none) (hd : PE X o td) (hbase : attributeBase o "values" X.env (eval o X.env) = eval o X.env := by rfl) (hline : (apos.endLine == mpos.line) = true := by rfl)
    (hse : starEach [Expr.Call (.Attribute o "values" apos) [] [] mpos] X.env = [(false, eval (Expr.Call (.Attribute o "values" apos) [] [] mpos) X.env)] := by rfl) :
    PE X (.Call (.Name "list" p) [.Call (.Attribute o "values" apos) [] [] mpos] [] pos) (tListVals td) := by
  refine ⟨fun pins s σ H Q I h => ?_⟩
  refine wpAny_Call_Name_kw (ld_blt I hg hm (u := .type "list") (by first | rfl | decide +kernel) ?_ (by first | decide +kernel | decide) (by first | decide +kernel | decide))
  rw [hse]
  refine _root_.PySem.callWith_type1 (wpAny_Call_method0_late hbase hline (thn (hd.run pins s σ H _ I h) fun v s1 ⟨x, H1, I1, r1, a, kvs, ex, ha, q⟩ => ?_))
  subst ex
  obtain rfl : v = Value.ref a := r1
  obtain ⟨z, hsys, vs, rel, dof⟩ := dk_rd I1.hok ha
  obtain ⟨ep, dat⟩ := dof.dictAt
  have dat' := dat
  obtain ⟨ob, es, ho, ex, hdat, hko, hpr, hnd⟩ := dat'
  refine ⟨"dict", "dict.values", F.plainAttrs_dict, F.slot_dict_values, F.type_dict_values, ⟨ob, ho, ex.1⟩, fun b e => ?_, Calls.callWith_builtin rfl (PySem.evalArgs_none ?_)⟩
  · cases e
    exact ⟨ob, ho, ex.2.1⟩
  refine call_meetsIn F.slot_dict_values ⟨ob, ho, ex.1⟩ F.entry_dict_values (F.args_dict_values_1 _) (meets_dict_values (mixKind X.prog X.w) a hsys) ⟨⟨vs, dof⟩, ?_⟩
  have k1 : ∀ b u, s1.heap.get? b = some u → (s1.heap.push { cls := .type "dict_values", data := .fields #[.ref a] }).get? b = some u := fun b u e => Heap.get?_push_of_some _ e
  have dat1 : (s1.heap.push { cls := .type "dict_values", data := .fields #[.ref a] }).DictAt (mixKind X.prog X.w) a vs ep := dat.keep k1
  have I2 : Inv X pins σ H1 { s1 with heap := s1.heap.push { cls := .type "dict_values", data := .fields #[.ref a] } } := I1.kept (t' := s1.toks) k1
  have hlv : kvs.length = vs.length := KV.length rel
  refine PySem.W.kdl_call (PySem.W.kdl_values (knd := mixKind X.prog X.w) (r := s1.heap.objs.size) (kvs := vs) (ep := ep)) (I.ok.hd hc) ⟨⟨_, Heap.get?_push_size _ rfl, rfl, rfl⟩, dat1⟩ (by rw [← hlv]; exact z) fun h' tk acc c' hk hD hacc => ?_
  have hv : Vals (kvs.map (·.2)) acc.toList := vals_at rel (by rw [Array.length_toList, hlv]; exact hacc.1) fun i v e => hacc.2 i v (by rw [← Array.getElem?_toList]; exact e)
  refine ⟨.ref (s1.heap.push { cls := .type "dict_values", data := .fields #[.ref a] }).objs.size, _, I2.laid (t' := tk) hk (Nat.le_refl _)
    (show ObjOk X.prog X.w _ _ _ (.lst (kvs.map (·.2))) from ⟨by rw [List.length_map]; exact z, acc.toList, c', hv, by rw [Array.toArray_toList]; exact hD⟩), rfl, q _ (I2.hok.fresh (Nat.le_refl _))⟩
theorem piZip {e e2 : Expr} {ta : TA} {tpos : Pos} {elts : List Expr} {kk : Nat} (K : PySem.W.Frag) (h : X.K = K) (hg : Gl X "zip") (hm : X.mg "zip" = none) (ha : PA X [e, e2] ta)
    (hs : starEach [e, e2] X.env = (false, eval e X.env) :: starEach [e2] X.env := by rfl) (hpl : (backTo pos (starEach [e2] X.env)).any (·.1) = false := by rfl) :
    PI X (.Tuple elts kk tpos) (.Call (.Name "zip" p) [e, e2] [] pos) (iZip K ta) := by
  subst h
  exact pi_zip hg hm ha hs hpl
end
end WkV
namespace WkV
open PySem PySem.Spec PyProof.Rows L2 WkD WkN WkC
section
variable (P : Program) (w : World) (K : PySem.W.Frag) (mg : Str → Option Value) (base : Heap)
/-- a method whose last parameters have defaults -/
def MethD (CX : CXT) (C : Addr) (m : Str) (k : Nat) (sp : Sp) (dvs : List V) : Prop := ∃ f fd ps ds, Meth K C m f ∧ FnOk P w K mg base CX k f fd ps sp ∧ Binds K fd ps ds ∧ Vals dvs ds
end
section
variable {X : Cx} {CX : CXT} {C : Addr} {f x m : Str} {k : Nat} {sp : Sp} {E : XK} {e : Expr} {es : List Expr} {ta : TE} {t : TA} {p pos apos : Pos} {dvs : List V}
theorem pe_mt0 {o : Expr} {pl : Sem Bool} (h : MethC X.prog X.w X.K X.mg X.base CX C m k sp) (c : Cls X.K C) (hr : Room k X.A) (hx : Passes CX X E) (ho : PE X o ta)
    (ht : eval (.Call (.Attribute o m apos) [] [] pos) X.env = (do let ov ← eval o X.env; standAt apos.atName; let (f, first) ← holding [ov] (getMethod ov m pl); callWith pos f first (backTo pos (starEach [] X.env)) (backToKw pos (keywordEach [] X.env))) := by rfl) :
    PE X (.Call (.Attribute o m apos) [] [] pos) (tMeth C m sp [] E ta tNil) := by
  obtain ⟨f, fd, ps, h1, h2, h3⟩ := h
  exact pe_meth0 ho c h1 h2 hr h3 .nil hx ht
theorem pe_mtD0 {o : Expr} {pl : Sem Bool} (h : MethD X.prog X.w X.K X.mg X.base CX C m k sp dvs) (c : Cls X.K C) (hr : Room k X.A) (hx : Passes CX X E) (ho : PE X o ta)
    (ht : eval (.Call (.Attribute o m apos) [] [] pos) X.env = (do let ov ← eval o X.env; standAt apos.atName; let (f, first) ← holding [ov] (getMethod ov m pl); callWith pos f first (backTo pos (starEach [] X.env)) (backToKw pos (keywordEach [] X.env))) := by rfl) :
    PE X (.Call (.Attribute o m apos) [] [] pos) (tMeth C m sp dvs E ta tNil) := by
  obtain ⟨f, fd, ps, ds, h1, h2, h3, h4⟩ := h
  exact pe_meth0 ho c h1 h2 hr h3 h4 hx ht
end
end WkV
namespace WkI
open PySem PySem.Spec PyProof.Rows L2
/-! ### for k, v in d.items(), the keys tuples -/
section
variable {X : Cx} {pins : List (Addr × Obj)} {σ : L2.St} {H : Hp} {s : Shared} {d : Addr} {o : Obj}
theorem frzT2 {kvs : List (List Key × V)} (I : Inv X pins σ H s) (h : H d = some (.frz o (.dT kvs))) :
    (d == sysModules) = false ∧ s.heap.get? d = some o ∧ o.ExactDict ∧ ∃ (es : Array DictEntry) (ep : Nat), o.data = .dict es ep ∧ es.size = kvs.length ∧
      ∀ (i : Nat) (k : List Key) (v : V), kvs[i]? = some (k, v) → ∃ (en : DictEntry) (q : Addr), es[i]? = some en ∧ en.key = .ref q ∧ H q = some (.tup (k.map kV)) ∧ RelV v en.val := by
  obtain ⟨hd, z, hs, xs, pr, o', es, ep, ho, hx, hdt, he, _⟩ := I.hok d _ h
  rw [hd] at ho
  cases ho
  refine ⟨hs, hd, hx, es, ep, hdt, ?_, fun i k v e => ?_⟩
  · have l1 : es.size = xs.length := size_of_entries he
    have l2 : kvs.length = xs.length := Paired.length pr
    omega
  · obtain ⟨b, hb, e1, e2, e3⟩ := paired_get pr e
    have q := entry_at he i
    rw [hb] at q
    exact ⟨_, b.2.1, q, rfl, e2, e3⟩
end
def Itit (d : Addr) (o : Obj) (kvs : List (List Key × V)) : It :=
  ⟨fun i H => H d = some (.frz o (.dT kvs)) ∧ i < kvs.length, fun i H x H' => ∃ (T : Addr) (k : List Key) (v : V) (q : Addr), kvs[i]? = some (k, v) ∧ H q = some (.tup (k.map kV)) ∧ x = .ref T ∧ H T = none ∧ H' = upd H T (.tup [.ref q, v]), fun i H => H d = some (.frz o (.dT kvs)) ∧ kvs.length ≤ i⟩
section
variable {P : Program} {w : World} {K : PySem.W.Frag} {d : Addr} {o : Obj} {es : Array DictEntry} {ep : Nat}
theorem turn_itemsT {kvs : List (List Key × V)} {elts : List Expr} {kk : Nat} {tpos : Pos} (it : Addr) (hod : o.data = .dict es ep) :
    Turn P w K (.Tuple elts kk tpos) (Itit d o kvs) [it] it (fun i h => ∃ ok ov, IsItemIter h it d i kvs.length ep ok ov) where
  mem := by simp
  obj := fun i h st b hb => by
    have e : b = it := by simpa using hb
    subst e
    obtain ⟨ok, ov, e⟩ := st
    exact ⟨_, e, fun v z => nomatch z⟩
  keep := fun i h h' st k => let ⟨ok, ov, e⟩ := st; ⟨ok, ov, k it (by simp) _ e⟩
  item := by
    intro X hP hw hK hc i pins s σ H E I hf st hg
    subst hP hw hK
    obtain ⟨hd, hi⟩ := hg
    obtain ⟨hs, hgd, hx, es', ep', hdt, hsz, ent⟩ := frzT2 I hd
    obtain ⟨rfl, rfl⟩ := dict_ep hod hdt
    obtain ⟨⟨k, v⟩, hkv⟩ : ∃ p, kvs[i]? = some p := ⟨kvs[i], List.getElem?_eq_getElem hi⟩
    obtain ⟨en, q, hen, hkey, hq, ru⟩ := ent i k v hkv
    obtain ⟨ok, ov, he⟩ := st
    rw [← hsz] at he
    have hlt : it < s.heap.objs.size := Heap.lt_size he
    have hie : i < es'.size := by omega
    have een : es'[i] = en := by
      rw [Array.getElem?_eq_getElem hie] at hen
      exact Option.some.inj hen
    refine wpAny_pyNext_items_item_raw he ⟨o, hgd, hx, hdt⟩ hie fun h' ho hT hz hk => ?_
    rw [een, hkey] at ho hT
    refine ⟨_, rfl, wpAny_letOwnedTupleGo_items (s := { s with heap := h' }) ho fun h'' he' sb => ?_⟩
    have hT2 : h''.get? s.heap.objs.size = some { cls := .type "tuple", data := .seq #[.ref q, en.val] } := (sb.2 _ (Nat.ne_of_gt hlt)).trans hT
    have new : ObjOk X.prog X.w (upd H s.heap.objs.size (.tup [.ref q, v])) h'' s.heap.objs.size (.tup [.ref q, v]) :=
      ⟨by show 2 ≤ sizeLine; decide, [.ref q, en.val], .cons rfl (.cons ru .nil), ⟨_, hT2, rfl, _, rfl⟩⟩
    have I1 : Inv X pins σ (upd H s.heap.objs.size (.tup [.ref q, v])) { s with heap := h'' } :=
      I.turnedNew (t' := s.toks) (ch := [it]) (fun b ob hb e => (sb.2 b (by simpa using hb)).trans (hk b ob (by simpa using hb) e)) hf (Nat.le_refl _) new
    refine ⟨.ref s.heap.objs.size, _, I1, rfl, ⟨_, k, v, q, hkv, hq, rfl, I.hok.fresh (Nat.le_refl _), rfl⟩, ⟨.ref q, en.val, ?_⟩, fun b hb => ?_⟩
    · rw [← hsz]; exact he'
    · have e : b = it := by simpa using hb
      rw [e, upd_ne (Nat.ne_of_lt hlt)]
      exact (hf it (by simp)).1
  done := by
    intro X hP hw hK hc i pins s σ H E I hf st hg
    subst hP hw hK
    obtain ⟨hd, hi⟩ := hg
    obtain ⟨f0, f1, f2, f3, f4, f5⟩ := hf it (by simp)
    obtain ⟨hs, hgd, hx, es', ep', hdt, hsz, ent⟩ := frzT2 I hd
    obtain ⟨rfl, rfl⟩ := dict_ep hod hdt
    obtain ⟨ok, ov, he⟩ := st
    rw [← hsz] at he
    exact wpAny_pyNext_items_end_raw (I.ok.hd hc) he ⟨o, hgd, hx, hdt⟩ (by omega) fun h' eb => ⟨rfl, I.turned (t' := s.toks) (fun b ob hb e => eb b ob hb e) f0 f1 f3 f4 f5⟩
  self := fun A i s Q E st h => let ⟨_, _, e⟩ := st; PySem.W.kcp_self e h
end
/-- the dict is locked; either kind of keys -/
def iItemsT (td : TE) : TI := fun σ H R => td σ H fun x H1 => ∃ d o kvs, x = .ref d ∧ H1 d = some (.frz o (.dT kvs)) ∧ R (Itit d o kvs) H1
section
variable {X : Cx} {tg e : Expr} {td : TE} {apos cpos : Pos}
theorem pi_itemsT {elts : List Expr} {kk : Nat} {tpos : Pos} (he : PE X e td) (hbase : attributeBase e "items" X.env (eval e X.env) = eval e X.env := by rfl) (hline : (apos.endLine == cpos.line) = true := by rfl) :
    PI X (.Tuple elts kk tpos) (.Call (.Attribute e "items" apos) [] [] cpos) (iItemsT td) := by
  refine ⟨fun pins s σ H R I h => ?_⟩
  refine wpAny_Call_method (T := "dict") (id := "dict.items") hbase rfl hline F.plainAttrs_dict F.slot_dict_items F.type_dict_items (thn (he.run pins s σ H _ I h) fun u s1 ⟨x, H1, I1, rx, d, o, kvs, ex, hd, q⟩ => ?_)
  subst ex
  obtain rfl : u = Value.ref d := rx
  obtain ⟨hs, hgd, hx, es, ep, hdt, hsz, ent⟩ := frzT2 I1 hd
  have hm : s1.heap.DictRaw d es ep := ⟨o, hgd, hx, hdt⟩
  refine ⟨hm.typeIs, fun b e => by cases e; exact ⟨o, hgd, hx.2.1⟩, ?_⟩
  have I2 : Inv X pins σ H1 { s1 with heap := s1.heap.push { cls := .type "dict_items", data := .fields #[.ref d] } } := I1.kept (t' := s1.toks) fun b ob q => Heap.get?_push_of_some _ q
  have fin : wpAny (model X.prog X.w) X.A (pyIter (.ref s1.heap.objs.size)) (PIE X pins σ (.Tuple elts kk tpos) R) X.xe { s1 with heap := s1.heap.push { cls := .type "dict_items", data := .fields #[.ref d] } } := by
    refine wpAny_pyIter_items_raw (d := d) ⟨_, Heap.get?_push_size _ rfl, rfl, rfl⟩ (hm.at fun o e => Heap.get?_push_of_some _ e) (pi_one (tk := s1.toks) I2 _ (turn_itemsT _ hdt) ⟨.none, .none, ?_⟩ q)
    rw [← hsz]
    exact Heap.get?_push_size _ rfl
  show wpAny _ _ (callWith cpos (.builtin "dict.items") [.ref d] [] []) _ X.xe s1
  exact method_meetsIn F.slot_dict_items F.entry_dict_items rfl (PySem.evalArgs_none ⟨rfl, hm.typeIs, F.args_dict_items_1 _, _, meets_dict_items_raw d hs, ⟨es, ep, hm⟩, fin⟩)
end
theorem walk_itemsT {d : Addr} {o : Obj} {kvs : List (List Key × V)} : Walk (Itit d o kvs) kvs.length (fun H => H d = some (.frz o (.dT kvs))) (fun i H x H' => ∃ (T : Addr) (k : List Key) (v : V) (q : Addr), kvs[i]? = some (k, v) ∧ H q = some (.tup (k.map kV)) ∧ x = .ref T ∧ H T = none ∧ H' = upd H T (.tup [.ref q, v])) :=
  ⟨fun i H hi h => ⟨h, hi⟩, fun H h => ⟨h, Nat.le_refl _⟩, fun i H x H' hi h y => y⟩
/-! ### d.clear(), the keys tuples -/
end WkI
namespace WkI
open PySem PySem.Spec PyProof.Rows L2
section
variable {X : Cx}
end
end WkI
/-! WkDs: {k: v} with one key, a tuple -/
namespace WkDs
open PySem PySem.Spec PyProof.Rows L2
section
variable {X : Cx} {pins : List (Addr × Obj)} {σ : L2.St} {H : Hp} {s : Shared} {a : Addr} {y v : V} {u r : Value} {A : Around} {E : Value → Shared → Prop}
/-- the inner step: dictSet -/
theorem d_dictSetT {kvs : List (List Key × V)} {k : List Key} {b : Addr} {Q : Unit → Shared → Prop} (hu : A.units < cLine) (I : Inv X pins σ H s) (e : H a = some (.dT kvs)) (eb : H b = some (.tup (k.map kV))) (l : kvs.length < sizeLine) (rv : RelV v r) (h : ∀ s', Inv X pins σ (upd H a (.dT (putK kvs k v))) s' → Q () s') :
    wpAny (model X.prog X.w) A (dictSet a (.ref b) r) Q E s := by
  obtain ⟨z, hd, xs, rel, dd⟩ := dt_of I.hok e
  have hz : xs.length ≤ sizeLine := by rw [← Paired.length rel]; exact z
  have hl : (putK kvs k v).length ≤ sizeLine := by have := length_putK kvs k v; omega
  refine wpAny_dictSet_heap (knd := tupleKind (mixKind X.prog X.w)) (hsz := hz) hu (key_of I.hok eb) dd fun h' dd' hs => h _ ?_
  obtain ⟨q, es, ep, hq, h2, h3, h4, _, h5⟩ := dd'
  refine d_write I (by rw [e]; exact True.intro) hs ⟨q, hq⟩ ⟨hl, hd, _, (rel.put k eb rv).keeps fun c ys ec => ?_, q, es, ep, hq, h2, h3, h4, h5⟩
  rw [upd_ne (ne_of ec e (fun z => nomatch z))]
  exact ec
end
section
variable {X : Cx} {kx vx : Expr} {pos : Pos} {tk tv : TE}
end
end WkDs
/-! WkB: int(i), d.values() and dict comprehensions, the keys tuples -/
namespace WkB
open PySem PySem.Spec PyProof.Rows L2 WkI
/-! ### for v in d.values() -/
section
variable {P : Program} {w : World} {K : PySem.W.Frag} {tg : Expr} {d : Addr} {o : Obj} {es : Array DictEntry} {ep : Nat}
end
section
variable {X : Cx} {tg e : Expr} {td : TE} {apos cpos : Pos}
end
/-! ### {(a, b): v for ..} -/
section
variable {X : Cx}
/-- {k: v for target in iter if ..}, the keys tuples: D the new dict -/
def tDcT (wi : TI) (g : TG) (tt : TT) (tk tv : TE) (vs : List Nat) : TE := fun σ H Q => wi σ H fun J H1 => ∀ D, H1 D = none → ∃ W : Nat → Nat → Hp → Prop, (∃ m, W 0 m (upd H1 D (.dT []))) ∧ ∀ i m H, W i m H →
  (J.stop i H ∧ Q (.ref D) H) ∨ (J.go i H ∧ ∃ Nx : Hp → Prop, (∀ H', Nx H' → ∃ m', m' < m ∧ W (i + 1) m' H') ∧ ∀ x H', J.yld i H x H' → g x (wipe σ vs) H' fun σ2 H2 => wipe σ2 vs = wipe σ vs ∧ tt σ2 H2 fun b H3 =>
    if b = true then tk σ2 H3 fun y H4 => tv σ2 H4 fun z H5 => ∃ kvs k b, y = .ref b ∧ H5 D = some (.dT kvs) ∧ H5 b = some (.tup (k.map kV)) ∧ kvs.length < sizeLine ∧ Nx (upd H5 D (.dT (putK kvs k z))) else Nx H3)
theorem dcT_core {pins : List (Addr × Obj)} {s : Shared} {σ : L2.St} {H : Hp} {Q : VK} {kx vx tg iter : Expr} {ifs : List Expr} {scope : Scope} {own : List (Str × Nat)} {pos pos' : Pos} {wi : TI} {g : TG} {tt : TT} {tk tv : TE} {use : Option (Value → Sem Unit)} {Qf : Value → Shared → Prop}
    (hu : X.A.units < cLine) (hc : X.calm = true) (hN : X.N.Nodup) (I : Inv X pins σ H s) (hi : PI X tg iter wi) (ok : BlkOk X.N X.env.scope scope own)
    (hg : ∀ (s : Shared) (H : Hp) (C : Addr) (cl : List (Str × Addr)) (fp : List Addr), PG (X.blk s H scope (compEnvC scope cl C X.env) fp) tg g) (ht : ∀ (s : Shared) (H : Hp) (C : Addr) (cl : List (Str × Addr)) (fp : List Addr), PTs (X.blk s H scope (compEnvC scope cl C X.env) fp) ifs tt)
    (hk : ∀ (s : Shared) (H : Hp) (C : Addr) (cl : List (Str × Addr)) (fp : List Addr), PE (X.blk s H scope (compEnvC scope cl C X.env) fp) kx tk)
    (he : ∀ (s : Shared) (H : Hp) (C : Addr) (cl : List (Str × Addr)) (fp : List Addr), PE (X.blk s H scope (compEnvC scope cl C X.env) fp) vx tv) (hs : ∀ x, foldedSetIterable iter X.env x = pure x)
    (h : tDcT wi g tt tk tv (own.map (·.2)) σ H Q)
    (hRR : ∀ D C s' m H', Inv X pins σ H' s' → Q (.ref D) H' → s'.heap.Ns C m → FpOk X pins H' C → compPost (model X.prog X.w) X.A X.xe use Qf (.ref D) C (.ok .next) s') :
    wpAny (model X.prog X.w) X.A (comprehension (.DictComp kx vx [⟨tg, iter, ifs, 0⟩] scope pos) scope X.env pos' newDict false (eval iter X.env) use) Qf X.xe s := by
  have hfree : ∀ y ∈ scope.names, y.2 = .free → ∃ c, X.env.cells.lookup y.1 = some c := fun y hy e => by
    rcases ok.free y hy e with k | k
    · exact I.ok.has _ (.inl k)
    · exact I.ok.has _ (.inr k)
  refine wpAny_comprehension_free (use := use) rfl hs (closure_ok hfree) ok.kind (fun y hy e => by rw [ok.uniq y hy, e])
    (thn (hi.run pins s σ H _ I h) fun xv s1 hx => thn hx fun itv s2 h2 => ?_)
  obtain ⟨it, fp, tn, J, H2, e, I2, T, st2, f2, q⟩ := h2
  subst e
  refine wpAny_newObj_type (newEnv_comp ?_)
  generalize hD : s2.heap.objs.size = D
  have hDn : H2 D = none := I2.hok.fresh (Nat.le_of_eq hD)
  obtain ⟨W, ⟨m0, w0⟩, turn⟩ := q D hDn
  generalize hs3 : ({ s2 with heap := s2.heap.push { cls := .type "dict", data := .dict #[] } } : Shared) = s3
  have I3 : Inv X pins σ (upd H2 D (.dT [])) s3 := by
    rw [← hs3]
    refine I2.laid (t' := s2.toks) (fun b o e => Heap.get?_push_of_some _ e) (Nat.le_of_eq hD) ?_
    rw [← hD]
    exact dt_empty s2.heap I2.big
  have h3 : s3.heap = s2.heap.push { cls := .type "dict", data := .dict #[] } := by rw [← hs3]
  have sz : ∀ b ∈ fp, b < s2.heap.objs.size := fun b hb => by
    obtain ⟨o, e, _⟩ := T.obj _ _ st2 b hb
    exact Heap.lt_size e
  have f3 : ∀ b ∈ fp, FpOk X pins (upd H2 D (.dT [])) b ∧ b < s3.heap.objs.size := fun b hb => by
    have hlt := sz b hb
    refine ⟨⟨?_, (f2 b hb).2⟩, by rw [h3, Heap.size_push]; exact Nat.lt_succ_of_lt hlt⟩
    rw [upd_ne (by rw [← hD]; exact Nat.ne_of_lt hlt)]
    exact (f2 b hb).1
  have st3 : tn 0 s3.heap := T.keep _ _ _ st2 fun b _ o e => by rw [h3]; exact Heap.get?_push_of_some _ e
  have I4 := block_start I3 ok hN f3
  have pg := hg s3 (upd H2 D (.dT [])) s3.heap.objs.size (cellsFrom (s3.heap.objs.size + 1) scope.names (cloFrom X.env.cells scope.names [])) fp
  have pt := ht s3 (upd H2 D (.dT [])) s3.heap.objs.size (cellsFrom (s3.heap.objs.size + 1) scope.names (cloFrom X.env.cells scope.names [])) fp
  have pk := hk s3 (upd H2 D (.dT [])) s3.heap.objs.size (cellsFrom (s3.heap.objs.size + 1) scope.names (cloFrom X.env.cells scope.names [])) fp
  have pe := he s3 (upd H2 D (.dT [])) s3.heap.objs.size (cellsFrom (s3.heap.objs.size + 1) scope.names (cloFrom X.env.cells scope.names [])) fp
  show codeAny _ _ (.compStart (.DictComp kx vx [⟨tg, iter, ifs, 0⟩] scope pos) 0 (.ref it) (.ref D) (compEnvC scope (cellsFrom (s3.heap.objs.size + 1) scope.names (cloFrom X.env.cells scope.names [])) s3.heap.objs.size X.env)) (compPost (model X.prog X.w) X.A X.xe use Qf (.ref D) s3.heap.objs.size) { s3 with heap := pushCells (s3.heap.push { cls := .type "dict", data := .dict #[] }) scope.names }
  have nfp : ∀ b ∈ fp, (upd H2 D (.dT [])) b = none := fun b hb => (f3 b hb).1.1
  generalize hce : compEnvC scope (cellsFrom (s3.heap.objs.size + 1) scope.names (cloFrom X.env.cells scope.names [])) s3.heap.objs.size X.env = ce at I4 pg pt pk pe ⊢
  have cL : ce.locals = s3.heap.objs.size := by subst hce; rfl
  generalize hH3 : upd H2 D (.dT []) = H3 at I3 I4 pg pt pk pe w0 nfp f3
  generalize hs4 : ({ s3 with heap := pushCells (s3.heap.push { cls := .type "dict", data := .dict #[] }) scope.names } : Shared) = s4 at I4 ⊢
  have st4 : tn 0 s4.heap := T.keep _ _ _ st3 fun b _ o e => by rw [← hs4]; exact pushCells_keeps _ _ _ _ (Heap.get?_push_of_some _ e)
  have stat : ∀ {σ' : L2.St} {H' : Hp} {s' : Shared}, Inv (X.blk s3 H3 scope ce fp) [] σ' H' s' → (∀ b ∈ fp, H' b = none) → ∀ b ∈ fp, FpOk (X.blk s3 H3 scope ce fp) [] H' b := fun {σ' H' s'} I' hn b hb =>
    ⟨hn b hb, (I'.ok.exf b hb).1, I'.ok.exfs b hb, .inl hb, fun x c e => (I'.ok.exf b hb).2 x c e, fun p hp => absurd (show p ∈ ([] : List (Addr × Obj)) ++ [] from hp) (by simp)⟩
  have loop : codeAny (model X.prog X.w) X.A (.compLoop (.DictComp kx vx [⟨tg, iter, ifs, 0⟩] scope pos) 0 (.ref it) (.ref D) ce) (compPost (model X.prog X.w) X.A X.xe use Qf (.ref D) s3.heap.objs.size) s4 := by
    refine compLoop_anyD (fun n s' => ∃ i H', Inv (X.blk s3 H3 scope ce fp) [] (wipe σ (own.map (·.2))) H' s' ∧ tn i s'.heap ∧ (∀ b ∈ fp, H' b = none) ∧ W i n H') ?_ m0 ⟨0, H3, I4, st4, nfp, w0⟩
    rintro n s5 ⟨i, H5, I5, st5, n5, w5⟩
    rcases turn i n H5 w5 with ⟨stop, qq⟩ | ⟨go, Nx, hNx, step⟩
    · have td := T.done (X.blk s3 H3 scope ce fp) rfl rfl rfl hc i [] s5 _ H5 (fun _ _ => False) I5 (stat I5 n5) st5 stop
      refine thnF td fun r s6 ⟨hr, I6⟩ => ?_
      subst hr
      have I7 : Inv X pins σ H5 s6 := I3.call' (ch := fp) I6.os I6.base I6.hok I6.bare fun b hb => ⟨(f3 b hb).1.2.2.2.1, (f3 b hb).1.2.1, (f3 b hb).1.2.2.2.2.1, (f3 b hb).1.2.2.2.2.2⟩
      have nC : H5 s3.heap.objs.size = none := by
        have z : H5 ce.locals = none := I6.free
        rw [cL] at z
        exact z
      obtain ⟨m, hn, _⟩ := I6.loc
      have hn : s6.heap.Ns ce.locals m := hn
      rw [cL] at hn
      exact hRR D s3.heap.objs.size s6 m H5 I7 qq hn (I3.fpOk (Nat.le_refl _) nC)
    · have ti := T.item (X.blk s3 H3 scope ce fp) rfl rfl rfl hc i [] s5 _ H5 (fun _ _ => False) I5 (stat I5 n5) st5 go
      refine thnF ti fun r s6 ⟨u, hr, h6⟩ => ?_
      subst hr
      refine thnF h6 fun _ s7 ⟨x, H7, I7, r7, y7, st7, n7⟩ => ?_
      have I7' := I7.pinned (stat I7 n7) (T.obj _ _ st7)
      refine thnF (pg.run _ s7 _ H7 x u _ I7' r7 (step x H7 y7)) fun _ s8 ⟨σ8, H8, I8, hw8, q8⟩ => ?_
      refine thnF (pt.run _ s8 σ8 H8 _ I8 q8) fun b s9 ⟨H9, I9, q9⟩ => ?_
      have fin : ∀ {s' : Shared} {H' : Hp}, Inv (X.blk s3 H3 scope ce fp) ([] ++ pinsAt fp s7.heap) σ8 H' s' → Nx H' → ∃ m, m < n ∧ ∃ i H', Inv (X.blk s3 H3 scope ce fp) [] (wipe σ (own.map (·.2))) H' s' ∧ tn i s'.heap ∧ (∀ b ∈ fp, H' b = none) ∧ W i m H' := fun {s' H'} I' nx => by
        obtain ⟨m', hm, w'⟩ := hNx H' nx
        have pin' : ∀ b ∈ fp, ∀ o, s7.heap.get? b = some o → s'.heap.get? b = some o ∧ H' b = none := fun b hb o e =>
          let z := I'.pin (b, o) (List.mem_append_right _ (List.mem_append_right _ (mem_pinsAt hb e)))
          ⟨z.1, z.2.1⟩
        have hl : (wipe σ (own.map (·.2))).length = σ8.length := by rw [← hw8, wipe_length]
        refine ⟨m', hm, i + 1, H', (I'.unpinned (pins := [])).weak hl (fun j v e => ?_), T.keep _ _ _ st7 fun b hb o e => (pin' b hb o e).1, fun b hb => ?_, w'⟩
        · rw [← hw8] at e
          exact (wipe_some e).1
        · obtain ⟨o, e, _⟩ := T.obj _ _ st7 b hb
          exact (pin' b hb o e).2
      cases b with
      | false =>
        simp only [Bool.false_eq_true, if_false] at q9 ⊢
        exact fin I9 q9
      | true =>
        simp only [if_true] at q9 ⊢
        refine thnF (pk.run _ s9 σ8 H9 _ I9 q9) fun z s10 ⟨yk, H10, I10, r10, q10⟩ => ?_
        refine thnF (pe.run _ s10 σ8 H10 _ I10 q10) fun z2 s11 ⟨yv, H11, I11, r11, kvs, k, bk, ek, hD11, hb11, hz11, nx⟩ => ?_
        subst ek
        obtain rfl : z = Value.ref bk := r10
        exact WkDs.d_dictSetT (X := X.blk s3 H3 scope ce fp) hu I11 hD11 hb11 hz11 r11 fun s12 I12 => fin I12 nx
  exact codeAny_compStart_dict loop (T.self X.A 0 _ _ _ st4 loop)
/-- as a value -/
theorem pe_dcT {kx vx tg iter : Expr} {ifs : List Expr} {scope : Scope} {own : List (Str × Nat)} {pos : Pos} {wi : TI} {g : TG} {tt : TT} {tk tv : TE} (hu : X.A.units < cLine) (hc : X.calm = true) (hN : X.N.Nodup) (hi : PI X tg iter wi) (ok : BlkOk X.N X.env.scope scope own)
    (hg : ∀ (s : Shared) (H : Hp) (C : Addr) (cl : List (Str × Addr)) (fp : List Addr), PG (X.blk s H scope (compEnvC scope cl C X.env) fp) tg g) (ht : ∀ (s : Shared) (H : Hp) (C : Addr) (cl : List (Str × Addr)) (fp : List Addr), PTs (X.blk s H scope (compEnvC scope cl C X.env) fp) ifs tt)
    (hk : ∀ (s : Shared) (H : Hp) (C : Addr) (cl : List (Str × Addr)) (fp : List Addr), PE (X.blk s H scope (compEnvC scope cl C X.env) fp) kx tk)
    (he : ∀ (s : Shared) (H : Hp) (C : Addr) (cl : List (Str × Addr)) (fp : List Addr), PE (X.blk s H scope (compEnvC scope cl C X.env) fp) vx tv) (hs : ∀ x, foldedSetIterable iter X.env x = pure x := by intro _; rfl) :
    PE X (.DictComp kx vx [⟨tg, iter, ifs, 0⟩] scope pos) (tDcT wi g tt tk tv (own.map (·.2))) := by
  refine ⟨fun pins s σ H Q I h => ?_⟩
  rw [arm_eval_DictComp]
  refine dcT_core hu hc hN I hi ok hg ht hk he hs h fun D C s' m H' I' q hn f => ⟨m, hn, fun h'' sb => ?_⟩
  obtain ⟨f0, f1, f2, f3, f4, f5⟩ := f
  exact ⟨.ref D, H', I'.turned (t' := s'.toks) (fun b o hb e => (sb.2 b hb).trans e) f0 f1 f3 f4 f5, rfl, q⟩
end
section
variable {J : It} {n : Nat} {G : Hp → Prop} {Y : Nat → Hp → V → Hp → Prop}
theorem dcT_it (w : Walk J n G Y) {g : TG} {tt : TT} {tk tv : TE} {vs : List Nat} {σ : L2.St} {H1 : Hp} {D : Addr} {Qd : Hp → Prop} (Pv : Nat → Hp → Prop) (h0 : Pv 0 (upd H1 D (.dT []))) (hG : ∀ i H, i ≤ n → Pv i H → G H)
    (hs : ∀ i x H H', i < n → Pv i H → Y i H x H' → g x (wipe σ vs) H' fun σ2 H2 => wipe σ2 vs = wipe σ vs ∧ tt σ2 H2 fun b H3 =>
      if b = true then tk σ2 H3 fun y H4 => tv σ2 H4 fun z H5 => ∃ kvs k b, y = .ref b ∧ H5 D = some (.dT kvs) ∧ H5 b = some (.tup (k.map kV)) ∧ kvs.length < sizeLine ∧ Pv (i + 1) (upd H5 D (.dT (putK kvs k z))) else Pv (i + 1) H3) (hd : ∀ H, Pv n H → Qd H) :
    ∃ W : Nat → Nat → Hp → Prop, (∃ m, W 0 m (upd H1 D (.dT []))) ∧ ∀ i m H, W i m H →
      (J.stop i H ∧ Qd H) ∨ (J.go i H ∧ ∃ Nx : Hp → Prop, (∀ H', Nx H' → ∃ m', m' < m ∧ W (i + 1) m' H') ∧ ∀ x H', J.yld i H x H' → g x (wipe σ vs) H' fun σ2 H2 => wipe σ2 vs = wipe σ vs ∧ tt σ2 H2 fun b H3 =>
        if b = true then tk σ2 H3 fun y H4 => tv σ2 H4 fun z H5 => ∃ kvs k b, y = .ref b ∧ H5 D = some (.dT kvs) ∧ H5 b = some (.tup (k.map kV)) ∧ kvs.length < sizeLine ∧ Nx (upd H5 D (.dT (putK kvs k z))) else Nx H3) := by
  refine ⟨fun i m H => m = n - i ∧ i ≤ n ∧ Pv i H, ⟨n, by omega, by omega, h0⟩, fun i m H z => ?_⟩
  obtain ⟨em, hi, p⟩ := z
  have q := hG i H hi p
  by_cases hlt : i < n
  · exact .inr ⟨w.goes i H hlt q, Pv (i + 1), fun H' p' => ⟨n - (i + 1), by omega, rfl, hlt, p'⟩, fun x H' y => hs i x H H' hlt p (w.yields i H x H' hlt q y)⟩
  · have e : i = n := by omega
    subst e
    exact .inl ⟨w.stops H q, hd H p⟩
end
end WkB
namespace WkV
open PySem PySem.Spec PyProof.Rows L2
section
variable {X : Cx}
/-- name = {k: v for ..} on one line, the name a local -/
theorem ps_setDc {i : Nat} {y : Str} {py : Pos} {kx vx tg iter : Expr} {ifs : List Expr} {scope : Scope} {own : List (Str × Nat)} {pos spos : Pos} {wi : TI} {g : TG} {tt : TT} {tk tv : TE} (hc : X.calm = true) (hN : X.N.Nodup) (hy : X.N[i]? = some y) (hyl : X.env.scope.names.lookup y = some .local)
    (hsw : swapsWith (.DictComp kx vx [⟨tg, iter, ifs, 0⟩] scope pos) (some (.Name y py)) spos.line X.env = pure true) (hi : PI X tg iter wi) (ok : BlkOk X.N X.env.scope scope own)
    (hg : ∀ (s : Shared) (H : Hp) (C : Addr) (cl : List (Str × Addr)) (fp : List Addr), PG (X.blk s H scope (compEnvC scope cl C X.env) fp) tg g) (ht : ∀ (s : Shared) (H : Hp) (C : Addr) (cl : List (Str × Addr)) (fp : List Addr), PTs (X.blk s H scope (compEnvC scope cl C X.env) fp) ifs tt)
    (hk : ∀ (s : Shared) (H : Hp) (C : Addr) (cl : List (Str × Addr)) (fp : List Addr), PE (X.blk s H scope (compEnvC scope cl C X.env) fp) kx tk)
    (he : ∀ (s : Shared) (H : Hp) (C : Addr) (cl : List (Str × Addr)) (fp : List Addr), PE (X.blk s H scope (compEnvC scope cl C X.env) fp) vx tv) (hs : ∀ x, foldedSetIterable iter X.env x = pure x := by intro _; rfl) :
    PS X (.Assign [.Name y py] (.DictComp kx vx [⟨tg, iter, ifs, 0⟩] scope pos) spos) (tAsg (tDc wi g tt tk tv (own.map (·.2))) (gName i)) := by
  refine ⟨fun pins s σ H D I h => ?_⟩
  rw [exec_Assign_Name_used _ _ _ _ hsw]
  refine wpAny_bind (wpAny_standAt (wpAny_bind ?_))
  show wpAny _ X.A (do let _ ← comprehension (.DictComp kx vx [⟨tg, iter, ifs, 0⟩] scope pos) scope X.env (firstIterPos [⟨tg, iter, ifs, 0⟩] pos) newDict false (eval iter X.env) (some (assign (.Name y py) X.env))) _ _ s
  have h : tDc wi g tt tk tv (own.map (·.2)) σ H (fun x H1 => gName i x σ H1 D.nx) := h
  refine wpAny_bind (thn (dc_core (Qf := fun _ s' => SP X pins D .next s') hc hN I hi ok hg ht hk he hs h fun L C s' m H' I' q hn f => ?_) fun _ s' hq => wpAny_pure (wpAny_pure hq))
  show wpAny _ _ (assign (.Name y py) X.env (.ref L)) _ _ _
  refine wpAny_assign_Name (store_ok2 (v := V.ref L) I' hN hy (.inl hyl) rfl (fun s2 I2 ⟨a, sb, ha⟩ => ?_) (.inr hyl))
  obtain ⟨f0, f1, f2, f3, f4, f5⟩ := f
  have haC : C ≠ a := by
    rcases ha with z | z
    · rw [z]; exact f1
    · exact fun e => f4 y a z e.symm
  refine ⟨m, hn.sameBut sb haC, fun h3 sb3 => ?_⟩
  exact ⟨_, H', I2.turned (t' := s2.toks) (fun b o hb e => (sb3.2 b hb).trans e) f0 f1 f3 f4 f5, q⟩
theorem sw_trueD {kx vx : Expr} {gs : List Comprehension} {scope : Scope} {pos py : Pos} {y : Str} {l : Nat} {env : Env} (hk : env.scope.kind = .function) (hy : env.scope.names.lookup y = some .local) (hl : (py.line == pos.line) = true)
    (ha : (scope.names.any fun (n, k) => n == y && (k == .local || k == .cell)) = false) : swapsWith (.DictComp kx vx gs scope pos) (some (.Name y py)) l env = pure true := by
  have ky : env.kindOf y = some .local := hy
  have hb : env.blockKind = .function := by unfold Env.blockKind; rw [hk]; rfl
  unfold swapsWith
  simp only [hb, ky, ha, Expr.pos, hl]
  rfl
end
end WkV
/-! WkDc2: {k: v for t0 in a for t1 in b}: two clauses, no tests, plain keys -/
namespace WkDc2
open PySem PySem.Spec PyProof.Rows L2
section
variable {prog : Program} {w : World} {A : Around} {R : Result → Shared → Prop} {s : Shared} {kx vx t0 i0 t1 i1 : Expr} {scope : Scope} {pos : Pos} {it : Value} {D : Addr} {env : Env}
end
section
variable {X : Cx}
end
end WkDc2
namespace WkV
open PySem PySem.Spec PyProof.Rows L2
/-! ### a def that writes, whose code object is known -/
section
variable {P : Program} {w : World} {K : PySem.W.Frag} {mg : Str → Option Value} {base : Heap} {CX : CXT} {k : Nat} {f c : Addr} {fd : FuncData} {ps N : List Str} {sp : Sp} {x qual : Str} {params : Arguments} {body : List Stmt} {scope : Scope} {dvs : List V} {kws : List (Str × V)}
end
/-! ### a try whose body raises nothing -/
section
variable {X : Cx} {body : List Stmt} {h₀ : ExceptHandler} {hds : List ExceptHandler} {pos : Pos} {tb : TS}
end
/-! ### a tuple beside () -/
section
variable {X : Cx}
end
end WkV
/-! WkEs: lists of texts beside each other -/
namespace WkEs
open PySem PySem.Spec PyProof.Rows L2
end WkEs
/-! WkEb: tuples of bools compared; lists of tuples of texts searched -/
namespace WkEb
open PySem PySem.Spec PyProof.Rows L2 PySem.W
/-! ### a tuple of texts in a list of such -/
end WkEb
/-! WkNb: blocks that part the vertices, and which of them edges join -/
namespace WkP
open PySem PySem.Spec PyProof.Rows L2 WkN WkD WkE
open PySem.W (EachIs dataLe)
/-- the blocks part the vertices; hm: the block of a vertex -/
structure Parts (Vs : List Str) (Bs : List (List Str)) (hm : Str → List Str) : Prop where
  fnd : Bs.flatten.Nodup
  ne : ∀ B ∈ Bs, B ≠ []
  mem : ∀ B ∈ Bs, ∀ v ∈ B, v ∈ Vs ∧ hm v = B
  all : ∀ v ∈ Vs, hm v ∈ Bs ∧ v ∈ hm v
theorem Parts.nd {Vs : List Str} {Bs : List (List Str)} {hm : Str → List Str} (h : Parts Vs Bs hm) : Bs.Nodup := by
  have f := h.fnd
  have ne := h.ne
  clear h
  induction Bs with
  | nil => exact .nil
  | cons B Bs ih =>
    rw [List.flatten_cons, List.nodup_append] at f
    refine List.nodup_cons.mpr ⟨fun hB => ?_, ih f.2.1 fun C hC => ne C (List.mem_cons_of_mem _ hC)⟩
    obtain ⟨v, hv⟩ := List.exists_mem_of_ne_nil B (ne B List.mem_cons_self)
    exact f.2.2 v hv v (List.mem_flatten.mpr ⟨B, hB, hv⟩) rfl
/-- an edge from one block to the other -/
def JnB (es : List Ed) (hm : Str → List Str) (B C : List Str) : Prop := ∃ e ∈ es, (hm e.1 = B ∧ hm e.2.1 = C) ∨ (hm e.1 = C ∧ hm e.2.1 = B)
theorem flatB_len {Bs : List (List Str)} (h : ∀ B ∈ Bs, B ≠ []) : Bs.length ≤ Bs.flatten.length := by
  induction Bs with
  | nil => exact Nat.le_refl _
  | cons B Bs ih =>
    have := ih fun C hC => h C (List.mem_cons_of_mem _ hC)
    have h2 := List.length_pos_iff.mpr (h B List.mem_cons_self)
    rw [List.flatten_cons, List.length_cons, List.length_append]
    omega
theorem Parts.len {Vs : List Str} {Bs : List (List Str)} {hm : Str → List Str} (h : Parts Vs Bs hm) : Bs.length ≤ Vs.length := by
  have h1 := flatB_len h.ne
  have h2 := h.fnd.length_le_of_subset (l₂ := Vs) fun v hv => by
    obtain ⟨B, hB, hv⟩ := List.mem_flatten.mp hv
    exact (h.mem B hB v hv).1
  omega
theorem JnB.snoc {es : List Ed} {e : Ed} {hm : Str → List Str} {B C : List Str} : JnB (es ++ [e]) hm B C ↔ JnB es hm B C ∨ (hm e.1 = B ∧ hm e.2.1 = C) ∨ (hm e.1 = C ∧ hm e.2.1 = B) := by
  unfold JnB
  constructor
  · rintro ⟨x, hx, h⟩
    rcases List.mem_append.mp hx with z | z
    · exact .inl ⟨x, z, h⟩
    · rw [List.mem_singleton.mp z] at h
      exact .inr h
  · rintro (⟨x, hx, h⟩ | h)
    · exact ⟨x, List.mem_append_left _ hx, h⟩
    · exact ⟨e, List.mem_append_right _ (List.mem_singleton.mpr rfl), h⟩
end WkP
/-! WkRg: the ring of blocks -/
namespace WkP
open PySem PySem.Spec PyProof.Rows L2 WkN WkD WkE
open PySem.W (EachIs dataLe)
/-- what stands in a ring: its first block has the root; then always the first neighbour that is not the one before -/
structure RingR (Bs : List (List Str)) (nbs : List Str → List (List Str)) (top : Str) (R : List (List Str)) : Prop where
  mem : ∀ B ∈ R, B ∈ Bs
  hd : ∃ B, R[0]? = some B ∧ (Bs.filter fun B => decide (top ∈ B))[0]? = some B
  snd : ∀ A B, R[0]? = some A → R[1]? = some B → (nbs A)[0]? = some B
  nxt : ∀ i A B C, R[i]? = some A → R[i + 1]? = some B → R[i + 2]? = some C → ((nbs B).filter fun D => decide (D ≠ A))[0]? = some C
theorem RingR.start {Bs : List (List Str)} {nbs : List Str → List (List Str)} {top : Str} {A B : List Str} (hA : A ∈ Bs) (hB : B ∈ Bs) (h : (Bs.filter fun B => decide (top ∈ B))[0]? = some A) (k : (nbs A)[0]? = some B) : RingR Bs nbs top [A, B] :=
  ⟨fun C hC => by
    rcases List.mem_cons.mp hC with z | z
    · exact z ▸ hA
    · exact List.mem_singleton.mp z ▸ hB, ⟨A, rfl, h⟩, fun X Y e1 e2 => by
    cases e1
    cases e2
    exact k, fun i X Y Z e1 e2 e3 => by simp at e3⟩
theorem RingR.push {Bs : List (List Str)} {nbs : List Str → List (List Str)} {top : Str} {R : List (List Str)} {A B C : List Str} {n : Nat} (h : RingR Bs nbs top R) (hn : R.length = n + 2) (hA : R[n]? = some A) (hB : R[n + 1]? = some B) (hC : C ∈ Bs) (k : ((nbs B).filter fun D => decide (D ≠ A))[0]? = some C) : RingR Bs nbs top (R ++ [C]) := by
  have low : ∀ {i : Nat} {X : List Str}, i < n + 2 → (R ++ [C])[i]? = some X → R[i]? = some X := fun {i X} hi e => by rw [List.getElem?_append_left (by omega)] at e; exact e
  refine ⟨fun X hX => ?_, ?_, fun X Y e1 e2 => h.snd X Y (low (by omega) e1) (low (by omega) e2), fun i X Y Z e1 e2 e3 => ?_⟩
  · rcases List.mem_append.mp hX with z | z
    · exact h.mem X z
    · rw [List.mem_singleton.mp z]
      exact hC
  · obtain ⟨B0, e1, e2⟩ := h.hd
    exact ⟨B0, by rw [List.getElem?_append_left (by omega)]; exact e1, e2⟩
  · have hi : i + 2 < n + 3 := by
      have := (List.getElem?_eq_some_iff.mp e3).1
      rw [List.length_append, hn] at this
      exact this
    by_cases c : i + 2 < n + 2
    · exact h.nxt i X Y Z (low (by omega) e1) (low (by omega) e2) (low c e3)
    · have e : i = n := by omega
      subst e
      have e1 := low (by omega) e1
      have e2 := low (by omega) e2
      rw [hA] at e1
      rw [hB] at e2
      cases e1
      cases e2
      rw [List.getElem?_append_right (by omega), hn] at e3
      simp at e3
      subst e3
      exact k
theorem atI_m1 {α : Type} {xs : List α} {n : Nat} {v : α} (hl : xs.length = n + 1) (h : xs[n]? = some v) : atI xs (-1) = some v := by
  have e : xs = xs.take n ++ [v] := by
    conv => lhs; rw [← List.take_length (l := xs), hl, List.take_succ, h]
    rfl
  rw [e]
  exact atI_last _ _
end WkP
/-! rules that name X.K, with K explicit (for comprehensions) -/
namespace WkKx
open PySem PySem.Spec PyProof.Rows L2
theorem piT {X : Cx} {tg e : Expr} {te : TE} (K : PySem.W.Frag) (h : X.K = K) (he : PE X e te) : PI X tg e (iTup K te) := by
  subst h
  exact pi_tup he
end WkKx
namespace Wk
open PySem PySem.Spec PyProof.Rows L2 WkD WkN LamX WkP WkE WkC
open PySem.W (EachIs)
section
variable {P : Program} {w : World} {K : PySem.W.Frag} {mg : Str → Option Value} {base : Heap}
/-- the edges of a ring, as ring writes them: each name and the one before it -/
def ringE (L : List Str) : List (Str × Str) := (List.range L.length).map fun i => (L.getD i Str.empty, L.getD (if i = 0 then L.length - 1 else i - 1) Str.empty)
def PrsAt (K : PySem.W.Frag) (H : Hp) (z : V) (rs : List Addr) (es : List (Str × Str)) : Prop := EachIs (fun r (e : Str × Str) => SqT K H r [.str e.1, .str e.2, z]) rs es
theorem PrsAt.same {H H' : Hp} {z : V} {rs : List Addr} {es : List (Str × Str)} (h : PrsAt K H z rs es) (s : Same H H') : PrsAt K H' z rs es := EachIs.mono (fun _ _ h => WkG.seqT_same s h) h
theorem eachDropT {K : PySem.W.Frag} {H : Hp} {z : V} : ∀ {rs : List Addr} {es : List (Str × Str)}, PrsAt K H z rs es → PrsAt K H z (rs.drop 1) (es.drop 1)
  | _, _, .nil => .nil
  | _, _, .cons _ t => t
theorem sqT_put {H : Hp} {a r : Addr} {xs ys zs : List V} (h : SqT K H r xs) (ha : H a = some (.lst ys)) : SqT K (upd H a (.lst zs)) r xs := by
  rcases h with (h | ⟨o, h⟩) | h
  · refine .inl (.inl ?_)
    rw [upd_ne (ne_of h ha (by intro z; cases z))]
    exact h
  · refine .inl (.inr ⟨o, ?_⟩)
    rw [upd_ne (ne_of h ha (by intro z; cases z))]
    exact h
  · exact .inr h
def spRingV (K : PySem.W.Frag) (C : Addr) (sp : Sp) (dvs : List V) : Sp := fun vs H Q _ => ∃ (p : Addr) (L : List Str) (z : V), vs = [.ref C, z, .ref p] ∧ H p = some (.tup (L.map V.str)) ∧ 2 ≤ L.length ∧ L.length ≤ 41 ∧
  ∀ ea rs H1 x dx, Same H H1 → H1 ea = some (.lst (rs.map V.ref)) → PrsAt K H1 z rs (if 2 < L.length then ringE L else (ringE L).drop 1) → H1 x = none → H1 dx = none → dx ≠ x →
    sp (.ref x :: ([.ref p, .ref ea] ++ dvs)) (upd (upd H1 dx (.own x)) x (.ins C dx [])) (fun v H2 => v = .non ∧ Q (.ref x) H2) (fun _ _ _ => False)
theorem sc_n_ring : FnScope ["cls", "weight", "names", "edges", "place", "name"] ["cls", "weight", "names"] (defScope s_Network_ring) := ⟨rfl, rfl, rfl, by decide +kernel, rfl, by decide +kernel, by decide +kernel⟩
theorem body_ring {CXM : CXT} {C : Addr} {sp : Sp} {dvs : List V} {f : Addr} {cdv : Value} {A : Around} {outer : List Env} {s : Shared} {H : Hp} {vs : List V} {Q : VK} {E : XK} (B : Bi mg) (M : WkCm.MakeV P w K mg base CXM C 7 sp dvs) (hx : ∀ X : Cx, X.prog = P → X.w = w → Passes CXM X (fun _ _ _ => False))
    (hr : Room 8 (A.deeper (envOfC "Network.ring" (defScope s_Network_ring) s.heap.objs.size f cdv))) (h : spRingV K C sp dvs vs H Q E) :
    ∃ t, PSs (cxOf CX0 P w K mg base ["cls", "weight", "names", "edges", "place", "name"] "Network.ring" (defScope s_Network_ring) f cdv A outer s H E) (defBody s_Network_ring) t ∧ t { nx := fun _ H' => Q .non H', rt := Q } (start ["cls", "weight", "names", "edges", "place", "name"] vs) H := by
  have hu := hu_of hr
  have nd := sc_n_ring.nd
  have hr8 : Room 8 _ := hr
  refine ⟨_, PSs.nox (pss_cons (ps_setLc (i := 3) (own := [("place", 4), ("name", 5)]) (by rfl) nd rfl rfl (sw_true rfl rfl rfl (by decide +kernel)) (WkEn.pi_enumT (by rfl) B.n_enumerate (pa_cons (pv 2) pa_nil)) (blkOk_by (by kernel_rfl)) (fun _ _ _ _ _ => (WkN.pgT K 2 rfl rfl (pgs_cons (pg_name (i := 4) nd rfl (Or.inl rfl)) (pgs_cons (pg_name (i := 5) nd rfl (Or.inl rfl)) pgs_nil)) rfl)) (fun _ _ _ _ _ => pts_nil) (fun _ _ _ _ _ => (pe_tup (pa_cons (pv 5) (pa_cons (pe_ix (WkK.ixT K (by rfl)) (pv 2) (pe_op op_sub (pv 4) pe_int) (fun _ _ => rfl)) (pa_cons (pv 1) pa_nil))))))
      (pss_one (ps_ret (WkCm.pe_mkL (i := 0) M hr8 rfl (Or.inl rfl) (hx _ rfl rfl) (pa_cons (pv 2) (pa_cons (pe_ifExp (pt_cmpR op_gt (pe_callB call_len_seq (by rfl) B.n_len (by decide +kernel) (pa_cons (pv 2) pa_nil)) pe_int (nomark _)) (pv 3) (pe_slice sl_list (pv 3) (po_some pe_int) po_none)) pa_nil)))))), ?_⟩
  obtain ⟨p, L, z, rfl, hp, l2, l41, k⟩ := h
  have big : 1000 < sizeLine := by decide
  have len : (ringE L).length = L.length := by unfold ringE; rw [List.length_map, List.length_range]
  refine ⟨_, rfl, p, _, rfl, .inl (.inl hp), fun D nD => ?_⟩
  refine lc_it (WkEn.walk_enumT (K := K) (a := p) (xs := L.map V.str)) (fun i Hc => ∃ rs : List Addr, Same H Hc ∧ Hc D = some (.lst (rs.map V.ref)) ∧ PrsAt K Hc z rs ((ringE L).take i)) ⟨[], same_upd nD, upd_same, .nil⟩ ?_ ?_ ?_
  · rintro i Hc hi ⟨rs, c1, _⟩
    exact .inl (.inl (c1 _ _ hp))
  · rintro i y Hc Hc' hi ⟨rs, c1, c2, c3⟩ ⟨T, x, rfl, nT, rfl, hx⟩
    rw [List.length_map] at hi
    rw [List.getElem?_map, List.getElem?_eq_getElem hi] at hx
    cases hx
    have sT : Same Hc (upd Hc T (.tup [.int (i : Nat), .str L[i]])) := same_upd nT
    have PT : upd Hc T (.tup [.int (i : Nat), .str L[i]]) T = some (.tup [.int (i : Nat), .str L[i]]) := upd_same
    show gTup _ _ _ _ _ (upd Hc T (.tup [.int (i : Nat), .str L[i]])) _
    generalize upd Hc T (.tup [.int (i : Nat), .str L[i]]) = H6 at sT PT
    refine ⟨T, _, rfl, .inl (.inl PT), rfl, _, _, rfl, _, _, rfl, rfl, rfl, tYes_if ?_⟩
    have at1 : atI (L.map V.str) ((i : Int) - 1) = some (.str (L.getD (if i = 0 then L.length - 1 else i - 1) Str.empty)) := by
      have gd : ∀ j, j < L.length → (L.map V.str)[j]? = some (.str (L.getD j Str.empty)) := fun j hj => by
        rw [List.getElem?_map, List.getD_eq_getElem?_getD, List.getElem?_eq_getElem hj]
        rfl
      by_cases h0 : i = 0
      · rw [if_pos h0, h0]
        exact atI_m1 (n := L.length - 1) (by rw [List.length_map]; omega) (gd _ (by omega))
      · rw [if_neg h0, show (i : Int) - 1 = ((i - 1 : Nat) : Int) by omega]
        exact atI_nat (gd _ (by omega))
    have s6 : Same H H6 := c1.trans sT
    refine ⟨_, rfl, _, rfl, _, rfl, _, _, rfl, rfl, p, _, _, _, rfl, rfl, .inl (.inl (s6 _ _ hp)), at1, _, rfl, by show 3 ≤ sizeLine; omega, fun q nq => ?_⟩
    have d6 := sT _ _ c2
    have lr : rs.length = i := by
      have := EachIs.length c3
      rw [List.length_take, len] at this
      omega
    refine ⟨_, (upd_ne (ne_of_none d6 nq)).trans d6, by rw [List.length_map]; omega, rs ++ [q], fun b o hb => ?_, by rw [List.map_append]; exact upd_same, ?_⟩
    · rw [upd_ne (ne_of_none hb nD), upd_ne (ne_of_none (s6 _ _ hb) nq)]
      exact s6 _ _ hb
    · have e : (ringE L)[i]? = some (L.getD i Str.empty, L.getD (if i = 0 then L.length - 1 else i - 1) Str.empty) := by
        unfold ringE
        rw [List.getElem?_map, List.getElem?_range hi]
        rfl
      rw [List.take_succ, e]
      have g1 : L.getD i Str.empty = L[i] := by rw [List.getD_eq_getElem?_getD, List.getElem?_eq_getElem hi]; rfl
      rw [g1]
      have keep : ∀ {r : Addr} {xs : List V}, SqT K Hc r xs → SqT K (upd (upd H6 q (.tup [.str L[i], .str (L.getD (if i = 0 then L.length - 1 else i - 1) Str.empty), z])) D (.lst (rs.map V.ref ++ [.ref q]))) r xs := fun {r xs} h => by
        have s7 : Same Hc (upd H6 q (.tup [.str L[i], .str (L.getD (if i = 0 then L.length - 1 else i - 1) Str.empty), z])) := sT.trans (same_upd nq)
        exact sqT_put (WkG.seqT_same s7 h) (s7 _ _ c2)
      refine eachA (EachIs.mono (fun r e h => keep h) c3) (.cons (.inl (.inl ?_)) .nil)
      rw [upd_ne (Ne.symm (ne_of_none d6 nq))]
      exact upd_same
  · rintro Hc ⟨rs, c1, c2, c3⟩
    rw [List.length_map, ← len, List.take_length] at c3
    have hpc := c1 _ _ hp
    refine ⟨rfl, _, rfl, _, rfl, p, _, rfl, .inr (.inl (.inl hpc)), ?_⟩
    refine ⟨_, _, rfl, rfl, _, rfl, ite2 (fun h => ?_) (fun h => ?_)⟩
    · have h2 : 2 < L.length := by
        have h : (2 : Int) < L.length := by simpa using h
        omega
      refine ⟨_, rfl, fun x dx nx ndx ne => ?_⟩
      exact k D rs Hc x dx c1 c2 (by rw [if_pos h2]; exact c3) nx ndx ne
    · have h2 : ¬ 2 < L.length := by
        have h : (L.length : Int) ≤ 2 := by simpa using h
        omega
      refine ⟨_, rfl, _, rfl, D, _, rfl, SqL.of c2, fun q nq x dx nx ndx ne => ?_⟩
      have e1 : cutV (rs.map V.ref) (some 1) none = (rs.drop 1).map V.ref := by
        rw [cutV_map, cutL_lo _ (by decide)]
        rfl
      have sq : Same Hc (upd Hc q (.lst (cutV (rs.map V.ref) (some 1) none))) := same_upd nq
      refine k q (rs.drop 1) _ x dx (c1.trans sq) (by rw [e1]; exact upd_same) ?_ nx ndx ne
      rw [if_neg h2]
      exact (eachDropT c3).same sq
/-- all pairs, as complete writes them -/
def complE (L : List Str) : List (Str × Str) := (List.range L.length).flatMap fun i => (L.drop (i + 1)).map fun v => (L.getD i Str.empty, v)
def spComplV (K : PySem.W.Frag) (C : Addr) (sp : Sp) (dvs : List V) : Sp := fun vs H Q _ => ∃ (p : Addr) (L : List Str) (z : V), vs = [.ref C, z, .ref p] ∧ H p = some (.tup (L.map V.str)) ∧ L.length ≤ 41 ∧
  ∀ ea rs H1 x dx, Same H H1 → H1 ea = some (.lst (rs.map V.ref)) → PrsAt K H1 z rs (complE L) → H1 x = none → H1 dx = none → dx ≠ x →
    sp (.ref x :: ([.ref p, .ref ea] ++ dvs)) (upd (upd H1 dx (.own x)) x (.ins C dx [])) (fun v H2 => v = .non ∧ Q (.ref x) H2) (fun _ _ _ => False)
theorem sc_n_complete : FnScope ["cls", "weight", "names", "edges", "place", "u", "v"] ["cls", "weight", "names"] (defScope s_Network_complete) := ⟨rfl, rfl, rfl, by decide +kernel, rfl, by decide +kernel, by decide +kernel⟩
theorem body_compl {CXM : CXT} {C : Addr} {sp : Sp} {dvs : List V} {f : Addr} {cdv : Value} {A : Around} {outer : List Env} {s : Shared} {H : Hp} {vs : List V} {Q : VK} {E : XK} (B : Bi mg) (M : WkCm.MakeV P w K mg base CXM C 7 sp dvs) (hx : ∀ X : Cx, X.prog = P → X.w = w → Passes CXM X (fun _ _ _ => False))
    (hr : Room 8 (A.deeper (envOfC "Network.complete" (defScope s_Network_complete) s.heap.objs.size f cdv))) (h : spComplV K C sp dvs vs H Q E) :
    ∃ t, PSs (cxOf CX0 P w K mg base ["cls", "weight", "names", "edges", "place", "u", "v"] "Network.complete" (defScope s_Network_complete) f cdv A outer s H E) (defBody s_Network_complete) t ∧ t { nx := fun _ H' => Q .non H', rt := Q } (start ["cls", "weight", "names", "edges", "place", "u", "v"] vs) H := by
  have hu := hu_of hr
  have nd := sc_n_complete.nd
  have hr8 : Room 8 _ := hr
  refine ⟨_, PSs.nox (pss_cons (ps_setLc2 (i := 3) (own := [("place", 4), ("u", 5), ("v", 6)]) (vs1 := [6]) (by rfl) nd rfl rfl (sw_true rfl rfl rfl (by decide +kernel)) (WkEn.pi_enumT (by rfl) B.n_enumerate (pa_cons (pv 2) pa_nil)) (blkOk_by (by kernel_rfl)) (by decide) (fun _ _ _ _ _ => (WkN.pgT K 2 rfl rfl (pgs_cons (pg_name (i := 4) nd rfl (Or.inl rfl)) (pgs_cons (pg_name (i := 5) nd rfl (Or.inl rfl)) pgs_nil)) rfl)) (fun _ _ _ _ _ => pts_nil) (fun _ _ _ _ _ => (WkKx.piT K (by rfl) (pe_slice (WkTr.slW K (by rfl)) (pv 2) (po_some (pe_op op_add (pv 4) pe_int)) po_none))) (fun _ _ _ _ _ => (pg_name (i := 6) nd rfl (Or.inl rfl))) (fun _ _ _ _ _ => pts_nil) (fun _ _ _ _ _ => (pe_tup (pa_cons (pv 5) (pa_cons (pv 6) (pa_cons (pv 1) pa_nil))))))
      (pss_one (ps_ret (WkCm.pe_mkL (i := 0) M hr8 rfl (Or.inl rfl) (hx _ rfl rfl) (pa_cons (pv 2) (pa_cons (pv 3) pa_nil)))))), ?_⟩
  obtain ⟨p, L, z, rfl, hp, l41, k⟩ := h
  have big : 10000 < sizeLine := by decide
  refine ⟨_, rfl, p, _, rfl, .inl (.inl hp), fun D nD => ?_⟩
  refine in_it (WkEn.walk_enumT (K := K) (a := p) (xs := L.map V.str)) (fun i Hc => ∃ rs : List Addr, Same H Hc ∧ Hc D = some (.lst (rs.map V.ref)) ∧ PrsAt K Hc z rs ((List.range i).flatMap fun i => (L.drop (i + 1)).map fun v => (L.getD i Str.empty, v)) ∧ rs.length ≤ 41 * i) ⟨[], same_upd nD, upd_same, .nil, Nat.zero_le _⟩ ?_ ?_ ?_
  · rintro i Hc hi ⟨rs, c1, _⟩
    exact .inl (.inl (c1 _ _ hp))
  · rintro i y Hc Hc' hi ⟨rs, c1, c2, c3, c4⟩ ⟨T, x, rfl, nT, rfl, hx⟩
    rw [List.length_map] at hi
    rw [List.getElem?_map, List.getElem?_eq_getElem hi] at hx
    cases hx
    have g1 : L.getD i Str.empty = L[i] := by rw [List.getD_eq_getElem?_getD, List.getElem?_eq_getElem hi]; rfl
    have sT : Same Hc (upd Hc T (.tup [.int (i : Nat), .str L[i]])) := same_upd nT
    have PT : upd Hc T (.tup [.int (i : Nat), .str L[i]]) T = some (.tup [.int (i : Nat), .str L[i]]) := upd_same
    show gTup _ _ _ _ _ (upd Hc T (.tup [.int (i : Nat), .str L[i]])) _
    generalize upd Hc T (.tup [.int (i : Nat), .str L[i]]) = H6 at sT PT
    have s6 : Same H H6 := c1.trans sT
    refine ⟨T, _, rfl, .inl (.inl PT), rfl, _, _, rfl, _, _, rfl, rfl, rfl, tYes_if ?_⟩
    refine ⟨_, rfl, _, rfl, _, _, rfl, rfl, _, rfl, p, _, rfl, .inl (.inl (s6 _ _ hp)), fun q H7 s7 hq => ?_⟩
    have eq : cutV (L.map V.str) (some ((i : Int) + 1)) none = (L.drop (i + 1)).map V.str := by
      rw [cutV_map, cutL_lo _ (by omega)]
      rfl
    rw [eq] at hq
    have s67 : Same H H7 := s6.trans s7
    have d7 := s7 _ _ (sT _ _ c2)
    have p7 := (c3.same sT).same s7
    clear eq
    refine ⟨q, rfl, ⟨_, hq⟩, ?_⟩
    refine in_it (walk_tup (K := K) (a := q) (xs := (L.drop (i + 1)).map V.str)) (fun j Hc => ∃ rs2 : List Addr, Same H Hc ∧ SqT K Hc q ((L.drop (i + 1)).map V.str) ∧ Hc D = some (.lst (rs2.map V.ref)) ∧ PrsAt K Hc z rs2 (((List.range i).flatMap fun i => (L.drop (i + 1)).map fun v => (L.getD i Str.empty, v)) ++ ((L.drop (i + 1)).take j).map fun v => (L.getD i Str.empty, v)) ∧ rs2.length ≤ 41 * i + j)
      ⟨rs, s67, hq, d7, by simpa using p7, by omega⟩ ?_ ?_ ?_
    · rintro j Hd hj ⟨rs2, q1, q2, _⟩
      exact q2
    · rintro j y Hd Hd' hj ⟨rs2, q1, q2, q3, q4, q5⟩ ⟨rfl, hy⟩
      obtain ⟨v, hv, rfl⟩ : ∃ v, (L.drop (i + 1))[j]? = some v ∧ V.str v = y := by
        rw [List.getElem?_map] at hy
        cases e : (L.drop (i + 1))[j]? with
        | none => rw [e] at hy; cases hy
        | some v => rw [e] at hy; exact ⟨v, rfl, Option.some.inj hy⟩
      have jl : j < (L.drop (i + 1)).length := (List.getElem?_eq_some_iff.mp hv).1
      rw [List.length_drop] at jl
      refine ⟨rfl, tYes_if ?_⟩
      refine ⟨_, rfl, _, rfl, _, rfl, by show 3 ≤ sizeLine; omega, fun t nt => ?_⟩
      refine ⟨_, (upd_ne (ne_of_none q3 nt)).trans q3, by rw [List.length_map]; omega, rs2 ++ [t], fun b o hb => ?_, ?_, by rw [List.map_append]; exact upd_same, ?_, by rw [List.length_append, List.length_singleton]; omega⟩
      · rw [upd_ne (ne_of_none hb nD), upd_ne (ne_of_none (q1 _ _ hb) nt)]
        exact q1 _ _ hb
      · exact sqT_put (WkG.seqT_same (same_upd nt) q2) ((same_upd nt) _ _ q3)
      · rw [List.take_succ, hv, g1, List.map_append, ← List.append_assoc]
        rw [g1] at q4
        refine eachA (EachIs.mono (fun r e h => sqT_put (WkG.seqT_same (same_upd nt) h) ((same_upd nt) _ _ q3)) q4) (.cons (.inl (.inl ?_)) .nil)
        rw [upd_ne (Ne.symm (ne_of_none q3 nt))]
        exact upd_same
    · rintro Hd ⟨rs2, q1, q2, q3, q4, q5⟩
      rw [List.length_map, List.take_length] at q4
      rw [List.length_map, List.length_drop] at q5
      refine ⟨rs2, q1, q3, ?_, by omega⟩
      rw [List.range_succ, List.flatMap_append, List.flatMap_singleton]
      exact q4
  · rintro Hc ⟨rs, c1, c2, c3, c4⟩
    rw [List.length_map] at c3
    refine ⟨rfl, _, rfl, _, rfl, fun x dx nx ndx ne => ?_⟩
    exact k D rs Hc x dx c1 c2 c3 nx ndx ne
theorem bind0_ring (D : Addr) (doc pm : Value) (an : Option Addr) (cdv ct : Value) (u z : Value) (rest : List Value) : ∃ (β γ : Type) (k1 : Option Value → Sem β) (k2 : β → Sem γ) (k3 : γ → Sem (List (Str × Value))) (a : β),
      bindArgs (PySem.W.fnOf "ring" "Network.ring" (defArgs s_Network_ring) (defBody s_Network_ring) (defScope s_Network_ring) .none (.ref D) doc pm an cdv ct) ⟨u :: rest, []⟩ = ((nsGet D "weight" >>= k1) >>= k2) >>= k3 ∧ k1 (some z) = pure a ∧ (k2 a >>= k3) = (newTuple rest >>= fun t => pure ([("cls" : Str), ("weight" : Str)].zip [u, z] ++ [(("names" : Str), t)])) := by
  cases rest with
  | nil => exact ⟨_, _, _, _, _, _, rfl, rfl, rfl⟩
  | cons r rs => exact ⟨_, _, _, _, _, _, rfl, rfl, rfl⟩
theorem bind1_ring (kV doc pm : Value) (an : Option Addr) (cdv ct : Value) (u z : Value) (rest : List Value) : bindArgs (PySem.W.fnOf "ring" "Network.ring" (defArgs s_Network_ring) (defBody s_Network_ring) (defScope s_Network_ring) .none kV doc pm an cdv ct) ⟨u :: rest, [("weight", z)]⟩ = (newTuple rest >>= fun t => pure ([("cls" : Str), ("weight" : Str)].zip [u, z] ++ [(("names" : Str), t)])) := by
  cases rest with
  | nil => rfl
  | cons r rs => rfl
theorem ok_ring0 {CXM : CXT} {C : Addr} {sp : Sp} {dvs : List V} {f : Addr} {fd : FuncData} (F : FunD K "ring" "Network.ring" (defArgs s_Network_ring) (defBody s_Network_ring) (defScope s_Network_ring) [] [("weight", .int 1)] f fd) (B : Bi mg) (M : WkCm.MakeV P w K mg base CXM C 7 sp dvs) (hx : ∀ X : Cx, X.prog = P → X.w = w → Passes CXM X (fun _ _ _ => False)) :
    FnR P w K mg base CX0 9 f (WkCm.spSK 1 (spRingV K C sp dvs) [.int 1]) :=
  WkCm.star_kw0 (N := ["cls", "weight", "names", "edges", "place", "name"]) (p1 := "cls") (pv := "names") F sc_n_ring StX.cxUp_none bind0_ring (fun cdv A outer s H vs Q E hr h => body_ring B M hx hr h)
theorem ok_ring1 {CXM : CXT} {C : Addr} {sp : Sp} {dvs : List V} {f : Addr} {fd : FuncData} (F : FunD K "ring" "Network.ring" (defArgs s_Network_ring) (defBody s_Network_ring) (defScope s_Network_ring) [] [("weight", .int 1)] f fd) (B : Bi mg) (M : WkCm.MakeV P w K mg base CXM C 7 sp dvs) (hx : ∀ X : Cx, X.prog = P → X.w = w → Passes CXM X (fun _ _ _ => False)) :
    WkCm.FnRK P w K mg base CX0 9 f ["weight"] (WkCm.spSK 1 (spRingV K C sp dvs)) :=
  WkCm.star_kw1 (N := ["cls", "weight", "names", "edges", "place", "name"]) (p1 := "cls") (pv := "names") F sc_n_ring StX.cxUp_none bind1_ring (fun cdv A outer s H vs Q E hr h => body_ring B M hx hr h)
theorem bind0_compl (D : Addr) (doc pm : Value) (an : Option Addr) (cdv ct : Value) (u z : Value) (rest : List Value) : ∃ (β γ : Type) (k1 : Option Value → Sem β) (k2 : β → Sem γ) (k3 : γ → Sem (List (Str × Value))) (a : β),
      bindArgs (PySem.W.fnOf "complete" "Network.complete" (defArgs s_Network_complete) (defBody s_Network_complete) (defScope s_Network_complete) .none (.ref D) doc pm an cdv ct) ⟨u :: rest, []⟩ = ((nsGet D "weight" >>= k1) >>= k2) >>= k3 ∧ k1 (some z) = pure a ∧ (k2 a >>= k3) = (newTuple rest >>= fun t => pure ([("cls" : Str), ("weight" : Str)].zip [u, z] ++ [(("names" : Str), t)])) := by
  cases rest with
  | nil => exact ⟨_, _, _, _, _, _, rfl, rfl, rfl⟩
  | cons r rs => exact ⟨_, _, _, _, _, _, rfl, rfl, rfl⟩
theorem bind1_compl (kV doc pm : Value) (an : Option Addr) (cdv ct : Value) (u z : Value) (rest : List Value) : bindArgs (PySem.W.fnOf "complete" "Network.complete" (defArgs s_Network_complete) (defBody s_Network_complete) (defScope s_Network_complete) .none kV doc pm an cdv ct) ⟨u :: rest, [("weight", z)]⟩ = (newTuple rest >>= fun t => pure ([("cls" : Str), ("weight" : Str)].zip [u, z] ++ [(("names" : Str), t)])) := by
  cases rest with
  | nil => rfl
  | cons r rs => rfl
theorem ok_compl0 {CXM : CXT} {C : Addr} {sp : Sp} {dvs : List V} {f : Addr} {fd : FuncData} (F : FunD K "complete" "Network.complete" (defArgs s_Network_complete) (defBody s_Network_complete) (defScope s_Network_complete) [] [("weight", .int 1)] f fd) (B : Bi mg) (M : WkCm.MakeV P w K mg base CXM C 7 sp dvs) (hx : ∀ X : Cx, X.prog = P → X.w = w → Passes CXM X (fun _ _ _ => False)) :
    FnR P w K mg base CX0 9 f (WkCm.spSK 1 (spComplV K C sp dvs) [.int 1]) :=
  WkCm.star_kw0 (N := ["cls", "weight", "names", "edges", "place", "u", "v"]) (p1 := "cls") (pv := "names") F sc_n_complete StX.cxUp_none bind0_compl (fun cdv A outer s H vs Q E hr h => body_compl B M hx hr h)
theorem ok_compl1 {CXM : CXT} {C : Addr} {sp : Sp} {dvs : List V} {f : Addr} {fd : FuncData} (F : FunD K "complete" "Network.complete" (defArgs s_Network_complete) (defBody s_Network_complete) (defScope s_Network_complete) [] [("weight", .int 1)] f fd) (B : Bi mg) (M : WkCm.MakeV P w K mg base CXM C 7 sp dvs) (hx : ∀ X : Cx, X.prog = P → X.w = w → Passes CXM X (fun _ _ _ => False)) :
    WkCm.FnRK P w K mg base CX0 9 f ["weight"] (WkCm.spSK 1 (spComplV K C sp dvs)) :=
  WkCm.star_kw1 (N := ["cls", "weight", "names", "edges", "place", "u", "v"]) (p1 := "cls") (pv := "names") F sc_n_complete StX.cxUp_none bind1_compl (fun cdv A outer s H vs Q E hr h => body_compl B M hx hr h)
end
end Wk
namespace Wk
open PySem PySem.Spec PyProof.Rows L2 WkD WkN LamX WkP WkE WkC
/-! ### a search for a flow -/
structure SCls (K : PySem.W.Frag) (C : Addr) : Prop where
  cls : Cls K C
  na : NoAttr K C "around"
  nl : NoAttr K C "left"
  ns : NoAttr K C "source"
  nt : NoAttr K C "target"
def seaF (a l : Addr) (s t : Str) : List (Str × V) := [("around", .ref a), ("left", .ref l), ("source", .str s), ("target", .str t)]
section
variable {P : Program} {w : World} {K : PySem.W.Frag} {mg : Str → Option Value} {base : Heap}
def spSea (K : PySem.W.Frag) : Sp := fun vs H Q _ => ∃ (x S dx g C dg : Addr) (fs : List (Str × V)) (a : Addr) (top s t : Str) (Vs : List Str) (ad : Str → Addr) (nb : Nb) (wt : Wt), vs = [.ref x, .ref g, .str s, .str t] ∧ H x = some (.ins S dx []) ∧ SCls K S ∧ GAt K H g C dg fs a top ∧ RowsZ H a Vs ad nb wt ∧ Vs.Nodup ∧ Vs.length < 1000 ∧ x ≠ g ∧
  ∀ la lad H', But x H H' → H' x = some (.ins S dx (seaF a la s t)) → H la = none → (∀ u ∈ Vs, H (lad u) = none) → RowsM H' la Vs lad nb wt → Q .non H'
theorem sc_sea_init : FnScope ["self", "graph", "source", "target", "u", "row"] ["self", "graph", "source", "target"] (defScope s_Search_init) := ⟨rfl, rfl, rfl, by decide +kernel, rfl, by decide +kernel, by decide +kernel⟩
theorem ok_sea_init {f : Addr} {fd : FuncData} (F : FnP K "__init__" "Search.__init__" s_Search_init f fd) : FnOk P w K mg base CX0 1 f fd ["self", "graph", "source", "target"] (spSea K) := by
  refine F.ok sc_sea_init (fun vs H Q E h => ?_) (fun cdv A outer s H vs Q E hr h => ?_)
  · obtain ⟨x, S, dx, g, C, dg, fs, a, top, s, t, Vs, ad, nb, wt, rfl, _⟩ := h
    rfl
  have nd := sc_sea_init.nd
  refine ⟨_, PSs.nox (pss_cons (ps_fld (pv 0) (pe_fld (pv 1) rfl) rfl)
      (pss_cons (ps_fld (pv 0) (pe_dc (own := [("u", 4), ("row", 5)]) (by rfl) nd (pi_items (pe_fld (pv 1) rfl)) (blkOk_by (by kernel_rfl)) (fun _ _ _ _ _ => (WkN.pgT K 2 rfl rfl (pgs_cons (pg_name (i := 4) nd rfl (Or.inl rfl)) (pgs_cons (pg_name (i := 5) nd rfl (Or.inl rfl)) pgs_nil)) rfl)) (fun _ _ _ _ _ => pts_nil) (fun _ _ _ _ _ => (pv 4)) (fun _ _ _ _ _ => (WkD.pe_dstar (pv 5)))) rfl)
      (pss_cons (ps_fld (pv 0) (pv 2) rfl)
      (pss_one (ps_fld (pv 0) (pv 3) rfl))))), ?_⟩
  obtain ⟨x, S, dx, g, C, dg, fs, a, top, s, t, Vs, ad0, nb, wt, rfl, hx, SC, G, RZ, hVn, hsz, nxg, k⟩ := h
  refine ⟨_, rfl, g, C, dg, fs, _, rfl, G.ins, G.cls, G.na, G.la, ?_⟩
  refine ⟨_, rfl, x, S, dx, _, rfl, hx, SC.cls, SC.na, by show 0 < 1000; decide, ?_⟩
  have b1 : But x H (upd H x (.ins S dx (putF "around" (.ref a) []))) := fun b o hb hne => by rw [upd_ne hne]; exact hb
  have hx1 : upd H x (.ins S dx (putF "around" (.ref a) [])) x = some (.ins S dx [("around", .ref a)]) := upd_same
  generalize upd H x (.ins S dx (putF "around" (.ref a) [])) = H1 at b1 hx1
  have e1 : ExtB x H H1 := fun b o hb hne _ => b1 b o hb hne
  have RZ1 : RowsZ H1 a Vs ad0 nb wt := e1.rz RZ hx
  have G1 : GAt K H1 g C dg fs a top := ⟨b1 _ _ G.ins (Ne.symm nxg), G.cls, G.na, G.nt, G.la, G.lt⟩
  obtain ⟨oa, hA⟩ := RZ1.top
  have tkN : ∀ i (h : i < Vs.length), Vs[i] ∉ Vs.take i := fun i h z => by
    obtain ⟨j, hj, e⟩ := List.mem_iff_getElem.mp z
    rw [List.length_take] at hj
    rw [List.getElem_take] at e
    have := (List.getElem_inj hVn).mp e
    omega
  have tkL : ∀ i, (Vs.take i).length < sizeLine := fun i => by
    rw [List.length_take]
    exact Nat.lt_of_le_of_lt (Nat.min_le_right _ _) (Nat.lt_trans hsz (by decide))
  refine ⟨_, rfl, g, C, dg, fs, _, rfl, G1.ins, G1.cls, G1.na, G1.la, a, oa, _, rfl, hA, fun ra nra => ?_⟩
  refine dc_it (walk_items (kvs := dct Vs fun u => .ref (ad0 u))) (fun i H2 => ∃ ad, Cop H1 ra nb wt (Vs.take i) ad H2) ⟨ad0, ⟨upd_same, fun u hu => absurd hu (by simp), fun u hu => absurd hu (by simp), by simp⟩, fun b o hb hne => by rw [upd_ne hne]; exact hb, fun u hu => absurd hu (by simp)⟩ ?_ ?_ ?_
  · rintro i H2 hi ⟨ad, cp⟩
    exact cp.keep _ _ hA (ne_of_none hA nra)
  · rintro i y H2 H2' hi ⟨ad, cp⟩ ⟨T, kx, vx, rfl, nT, rfl, hkx, hvx⟩
    rw [dct_len] at hi
    dsimp only at hkx hvx
    rw [dct_at, List.getElem?_eq_getElem hi] at hkx hvx
    cases hkx
    cases hvx
    obtain ⟨u, eu⟩ : ∃ u, u = Vs[i] := ⟨_, rfl⟩
    have hnu := tkN i hi
    have tk := takeS (List.getElem?_eq_getElem hi)
    have huV : u ∈ Vs := eu ▸ List.getElem_mem hi
    rw [← eu] at hnu tk ⊢
    obtain ⟨ou, hU⟩ := RZ1.row u huV
    have sT : Same H2 (upd H2 T (.tup [.str u, .ref (ad0 u)])) := same_upd nT
    have PT' : upd H2 T (.tup [.str u, .ref (ad0 u)]) T = some (.tup [.str u, .ref (ad0 u)]) := upd_same
    show gTup _ _ _ _ _ (upd H2 T (.tup [.str u, .ref (ad0 u)])) _
    generalize upd H2 T (.tup [.str u, .ref (ad0 u)]) = H3 at sT PT'
    refine ⟨T, _, rfl, .inl (.inl PT'), rfl, _, _, rfl, _, _, rfl, rfl, rfl, tYes_if ?_⟩
    refine ⟨_, rfl, fun p np => ⟨_, rfl, ?_⟩⟩
    have hU3 : H3 (ad0 u) = some (.frz ou (.dK (dct (nb u) fun v => .int (wt u v)))) := sT _ _ (cp.keep _ _ hU (ne_of_none hU nra))
    have nup : ad0 u ≠ p := ne_of_none hU3 np
    refine ⟨ad0 u, _, rfl, upd_same, nup, .inr ⟨ou, by rw [upd_ne nup]; exact hU3⟩, ?_⟩
    rw [upd_upd]
    have hra3 : H3 ra = some (.dK (dct (Vs.take i) fun u => .ref (ad u))) := sT _ _ cp.rows.top
    have npr : ra ≠ p := ne_of_none hra3 np
    refine ⟨_, Sum.inr u, rfl, by rw [upd_ne npr]; exact hra3, by rw [dct_len]; exact tkL i, fun y => if y = u then p else ad y, ?_⟩
    rw [dct_put_new hnu, tk]
    have z := cp.snoc hnu sT np (nb u)
    have en : (fun y => if y = u then nb u else nb y) = nb := funext fun y => by
      split
      · rename_i e
        rw [e]
      · rfl
    rw [en] at z
    exact z
  · rintro H2 ⟨ad, cp⟩
    rw [dct_len, List.take_length] at cp
    have hx2 := cp.keep _ _ hx1 (ne_of_none hx1 nra)
    have nHr : H ra = none := by
      cases e : H ra with
      | none => rfl
      | some o =>
        by_cases q : ra = x
        · rw [q, hx1] at nra
          cases nra
        · rw [b1 _ _ e q] at nra
          cases nra
    have rx : ra ≠ x := Ne.symm (ne_of_none hx1 nra)
    refine ⟨_, rfl, x, S, dx, _, rfl, hx2, SC.cls, SC.nl, by show 1 < 1000; decide, ?_⟩
    refine ⟨_, rfl, _, rfl, x, S, dx, _, rfl, upd_same, SC.cls, SC.ns, by show 2 < 1000; decide, ?_⟩
    refine ⟨_, rfl, _, rfl, x, S, dx, _, rfl, upd_same, SC.cls, SC.nt, by show 3 < 1000; decide, ?_⟩
    rw [upd_upd, upd_upd]
    have nad : ∀ u ∈ Vs, ad u ≠ x := fun u hu => Ne.symm (ne_of_none hx1 (cp.new u hu))
    refine k ra ad _ (fun b o hb hne => ?_) upd_same nHr (fun u hu => ?_) ⟨by rw [upd_ne rx]; exact cp.rows.top, fun u hu => by rw [upd_ne (nad u hu)]; exact cp.rows.row u hu, cp.rows.inj, cp.rows.nd⟩
    · rw [upd_ne hne]
      exact cp.keep _ _ (b1 _ _ hb hne) (ne_of_none hb nHr)
    · cases e : H (ad u) with
      | none => rfl
      | some o =>
        have z := cp.new u hu
        rw [b1 _ _ e (nad u hu)] at z
        cases z
end
end Wk
namespace Wk
open PySem PySem.Spec PyProof.Rows L2 WkD WkN LamX WkP WkE WkC
theorem arcs_at {l : List Str} {i : Nat} {u v : Str} (h1 : l[i]? = some u) (h2 : l.tail[i]? = some v) : (arcs l)[i]? = some (u, v) := by
  unfold arcs
  rw [List.getElem?_zip_eq_some]
  exact ⟨h1, h2⟩
theorem push1_rows {lg : Wt} {u v : Str} {m : Int} (ne : u ≠ v) (z y : Str) : (if z = v then (if y = u then lg v u + m else lg v y) else (if z = u then (if y = v then lg u v - m else lg u y) else lg z y)) = push1 lg u v m z y := by
  unfold push1
  grind
section
variable {P : Program} {w : World} {K : PySem.W.Frag} {mg : Str → Option Value} {base : Heap}
/-- all but some rows stay -/
abbrev FrR (Vs : List Str) (ad : Str → Addr) (H H' : Hp) : Prop := ∀ b o, H b = some o → (∀ u ∈ Vs, b ≠ ad u) → H' b = some o
def spMove (K : PySem.W.Frag) : Sp := fun vs H Q _ => ∃ (x S dx a la pl : Addr) (s t : Str) (Vs pth : List Str) (ad : Str → Addr) (nb : Nb) (lf : Wt) (most : Int), vs = [.ref x, .ref pl, .int most] ∧ H x = some (.ins S dx (seaF a la s t)) ∧ SCls K S ∧ RowsM H la Vs ad nb lf ∧ (∀ u ∈ Vs, (nb u).length < 1000) ∧ H pl = some (.lst (pth.map V.str)) ∧ pth.Nodup ∧ pth.length < 1000 ∧ 0 < most ∧
  (∀ e ∈ arcs pth, e.1 ∈ Vs ∧ e.2 ∈ Vs ∧ e.2 ∈ nb e.1 ∧ e.1 ∈ nb e.2 ∧ 0 < lf e.1 e.2) ∧
  ∀ m H', 0 < m → m ≤ most → (∀ e ∈ arcs pth, m ≤ lf e.1 e.2) → FrR Vs ad H H' → RowsM H' la Vs ad nb (pushA lf m (arcs pth)) → Q (.int m) H'
theorem sc_sea_move : FnScope ["self", "path", "most", "amount", "u", "v"] ["self", "path", "most"] (defScope s_Search_move) := ⟨rfl, rfl, rfl, by decide +kernel, rfl, by decide +kernel, by decide +kernel⟩
theorem ok_sea_move {f : Addr} {fd : FuncData} (B : Bi mg) (F : FnP K "move" "Search.move" s_Search_move f fd) : FnOk P w K mg base CX0 1 f fd ["self", "path", "most"] (spMove K) := by
  refine F.ok sc_sea_move (fun vs H Q E h => ?_) (fun cdv A outer s H vs Q E hr h => ?_)
  · obtain ⟨x, S, dx, a, la, pl, s, t, Vs, pth, ad, nb, lf, most, rfl, _⟩ := h
    rfl
  have nd := sc_sea_move.nd
  have hu := hu_of hr
  refine ⟨_, PSs.nox (pss_cons (ps_set (i := 3) nd rfl (Or.inl rfl) (pe_callB (cr_min rfl) (by rfl) B.n_min (by decide +kernel) (pa_cons (pe_op op_cat (pe_lst (pa_cons (pv 2) pa_nil)) (pe_lc (own := [("u", 4), ("v", 5)]) (by rfl) nd (WkV.piZip K (by rfl) (by rfl) B.n_zip (pa_cons (pv 1) (pa_cons (pe_slice sl_list (pv 1) (po_some pe_int) po_none) pa_nil))) (blkOk_by (by kernel_rfl)) (fun _ _ _ _ _ => (WkN.pgT K 2 rfl rfl (pgs_cons (pg_name (i := 4) nd rfl (Or.inl rfl)) (pgs_cons (pg_name (i := 5) nd rfl (Or.inl rfl)) pgs_nil)) rfl)) (fun _ _ _ _ _ => pts_nil) (fun _ _ _ _ _ => (pe_dget hu (pe_dget hu (WkK.peFld K (by rfl) (pv 0) rfl) (pv 4) (fun _ _ => rfl)) (pv 5) (fun _ _ => rfl))))) pa_nil)))
      (pss_cons (ps_for PassesOwn.never rfl (WkV.piZip K (by rfl) (by rfl) B.n_zip (pa_cons (pv 1) (pa_cons (pe_slice sl_list (pv 1) (po_some pe_int) po_none) pa_nil))) (WkN.pgT K 2 rfl rfl (pgs_cons (pg_name (i := 4) nd rfl (Or.inl rfl)) (pgs_cons (pg_name (i := 5) nd rfl (Or.inl rfl)) pgs_nil)) rfl)
      (pss_cons (ps_daug hu (pe_dget hu (WkK.peFld K (by rfl) (pv 0) rfl) (pv 4) (fun _ _ => rfl)) (pv 5) (pv 3) in_sub (fun _ _ _ => rfl))
      (pss_one (ps_daug hu (pe_dget hu (WkK.peFld K (by rfl) (pv 0) rfl) (pv 5) (fun _ _ => rfl)) (pv 4) (pv 3) in_add (fun _ _ _ => rfl)))))
      (pss_one (ps_ret (pv 3))))), ?_⟩
  obtain ⟨x, S, dx, a, la, pl, s, t, Vs, pth, ad, nb, lf, most, rfl, hx, SC, R, hnl, hp, pn, pz, hm, ha, k⟩ := h
  have big : 1000 < sizeLine := by decide
  have al : (arcs pth).length ≤ pth.length := by
    unfold arcs
    rw [List.length_zip]
    exact Nat.min_le_left _ _
  refine ⟨_, rfl, by show 1 ≤ sizeLine; decide, fun q nq => ?_⟩
  have s1 : Same H (upd H q (.lst [.int most])) := same_upd nq
  have Q1 : upd H q (.lst [.int most]) q = some (.lst [.int most]) := upd_same
  generalize upd H q (.lst [.int most]) = H1 at s1 Q1
  refine ⟨_, rfl, _, rfl, _, rfl, pl, _, rfl, SqL.of (s1 _ _ hp), fun p2 n2 => ?_⟩
  generalize gg2 : upd _ p2 _ = G2; obtain ⟨s2, L2⟩ := new_eq n2 gg2; clear gg2
  rw [WkV.cutV_one, ← List.map_tail] at L2
  have s12 := s1.trans s2
  have la2 : (min (pth.map V.str).length (pth.tail.map V.str).length) = (arcs pth).length := by
    rw [List.length_map, List.length_map]
    unfold arcs
    rw [List.length_zip]
  refine ⟨pl, p2, _, _, rfl, SqL.of (s12 _ _ hp), SqL.of L2, fun D nD => ?_⟩
  refine lc_it (walk_zip (xs := pth.map V.str) (ys := pth.tail.map V.str) la2.symm) (fun i Hc => Same G2 Hc ∧ Hc D = some (.lst (((arcs pth).take i).map fun e => V.int (lf e.1 e.2)))) ⟨same_upd nD, upd_same⟩ ?_ ?_ ?_
  · rintro i Hc hi ⟨c1, _⟩
    exact ⟨SqL.of (c1 _ _ (s12 _ _ hp)), SqL.of (c1 _ _ L2)⟩
  · rintro i y Hc Hc' hi ⟨c1, c2⟩ ⟨T, y1, y2, rfl, nT, rfl, h1, h2⟩
    dsimp only at h1 h2
    rw [List.getElem?_map] at h1 h2
    obtain ⟨u, hu1, rfl⟩ := Option.map_eq_some_iff.mp h1
    obtain ⟨v, hv1, rfl⟩ := Option.map_eq_some_iff.mp h2
    have he := arcs_at hu1 hv1
    obtain ⟨huV, hvV, hvn, hun, hpos⟩ := ha (u, v) (List.mem_of_getElem? he)
    have sT : Same Hc (upd Hc T (.tup [.str u, .str v])) := same_upd nT
    have PT : upd Hc T (.tup [.str u, .str v]) T = some (.tup [.str u, .str v]) := upd_same
    show gTup _ _ _ _ _ (upd Hc T (.tup [.str u, .str v])) _
    generalize upd Hc T (.tup [.str u, .str v]) = H6 at sT PT
    refine ⟨T, _, rfl, .inl (.inl PT), rfl, _, _, rfl, _, _, rfl, rfl, rfl, tYes_if ?_⟩
    have s6 : Same H H6 := (s12.trans c1).trans sT
    have R6 := R.ext (Ext.of s6)
    refine ⟨_, rfl, x, S, dx, _, _, rfl, s6 _ _ hx, SC.cls, SC.nl, rfl, _, rfl, la, _, rfl, get_d (.inl R6.top) huV, _, rfl, ad u, _, rfl, get_d (.inl (R6.row u huV)) hvn, _, sT _ _ c2, ?_, ?_, ?_⟩
    · rw [List.length_map, List.length_take]
      omega
    · intro b o hb
      have hbD : b ≠ D := ne_of_none hb nD
      rw [upd_ne hbD]
      exact sT _ _ (c1 _ _ hb)
    · rw [upd_same, takeS he, List.map_append]
      rfl
  rintro H3 ⟨c1, c2⟩
  rw [List.take_length] at c2
  obtain ⟨ns, ens⟩ : ∃ ns, ns = (arcs pth).map fun e => lf e.1 e.2 := ⟨_, rfl⟩
  have c2 : H3 D = some (.lst (ns.map V.int)) := by
    rw [c2, ens, List.map_map]
    rfl
  have nsl : ns.length ≤ pth.length := by rw [ens, List.length_map]; exact al
  have Q3 := c1 _ _ (s2 _ _ Q1)
  refine ⟨q, D, _, _, rfl, rfl, Q3, c2, ?_, fun p4 n4 => ?_⟩
  · rw [List.length_map]
    show 1 + _ ≤ _
    omega
  generalize gg4 : upd _ p4 _ = G4; obtain ⟨s4, L4⟩ := new_eq n4 gg4; clear gg4
  have L4 : G4 p4 = some (.lst ((most :: ns).map V.int)) := L4
  refine ⟨p4, _, rfl, SqL.of L4, by simp, fun m hmm hle => ?_⟩
  have m0 : 0 < m := by
    rcases List.mem_cons.mp hmm with rfl | h
    · exact hm
    · rw [ens] at h
      obtain ⟨e, he, rfl⟩ := List.mem_map.mp h
      exact (ha e he).2.2.2.2
  have m1 : m ≤ most := hle most List.mem_cons_self
  have m2 : ∀ e ∈ arcs pth, m ≤ lf e.1 e.2 := fun e he => hle _ (List.mem_cons_of_mem _ (by rw [ens]; exact List.mem_map.mpr ⟨e, he, rfl⟩))
  have s4' : Same H G4 := (s12.trans c1).trans s4
  refine ⟨_, rfl, _, rfl, _, rfl, pl, _, rfl, SqL.of (s4' _ _ hp), fun p5 n5 => ?_⟩
  generalize gg5 : upd _ p5 _ = G5; obtain ⟨s5, L5⟩ := new_eq n5 gg5; clear gg5
  rw [WkV.cutV_one, ← List.map_tail] at L5
  have s5' : Same H G5 := s4'.trans s5
  have n5H : H p5 = none := np_of s4' n5
  refine ⟨pl, p5, _, _, rfl, SqL.of (s5' _ _ hp), SqL.of L5, ?_⟩
  have npl : ∀ u ∈ Vs, pl ≠ ad u := fun u hu => ne_of hp (R.row u hu) (by intro z; cases z)
  have np5 : ∀ u ∈ Vs, p5 ≠ ad u := fun u hu z => ne_of_none (R.row u hu) n5H z.symm
  have nxu : ∀ u ∈ Vs, x ≠ ad u := fun u hu => ne_of hx (R.row u hu) (by intro z; cases z)
  refine for_it (walk_zip (xs := pth.map V.str) (ys := pth.tail.map V.str) la2.symm) (fun i σ Hc => ∃ (x4 x5 : Option V), σ = [some (.ref x), some (.ref pl), some (.int most), some (.int m), x4, x5] ∧ FrR Vs ad G5 Hc ∧ RowsM Hc la Vs ad nb (pushA lf m ((arcs pth).take i)))
    ⟨_, _, rfl, fun b o h _ => h, R.ext (Ext.of s5')⟩ ?_ ?_ ?_
  · rintro i σ Hc hi ⟨x4, x5, rfl, q1, q2⟩
    exact ⟨SqL.of (q1 _ _ (s5' _ _ hp) npl), SqL.of (q1 _ _ L5 np5)⟩
  · rintro i y σ Hc Hc' hi ⟨x4, x5, rfl, q1, q2⟩ ⟨T, y1, y2, rfl, nT, rfl, h1, h2⟩
    dsimp only at h1 h2
    rw [List.getElem?_map] at h1 h2
    obtain ⟨u, hu1, rfl⟩ := Option.map_eq_some_iff.mp h1
    obtain ⟨v, hv1, rfl⟩ := Option.map_eq_some_iff.mp h2
    have he := arcs_at hu1 hv1
    obtain ⟨huV, hvV, hvn, hun, hpos⟩ := ha (u, v) (List.mem_of_getElem? he)
    have nuv : u ≠ v := arcs_ne pn (u, v) (List.mem_of_getElem? he)
    have sT : Same Hc (upd Hc T (.tup [.str u, .str v])) := same_upd nT
    have PT : upd Hc T (.tup [.str u, .str v]) T = some (.tup [.str u, .str v]) := upd_same
    show gTup _ _ _ _ _ (upd Hc T (.tup [.str u, .str v])) _
    generalize upd Hc T (.tup [.str u, .str v]) = H6 at sT PT
    have R6 := q2.ext (Ext.of sT)
    have hx6 := sT _ _ (q1 _ _ (s5' _ _ hx) nxu)
    refine ⟨T, _, rfl, .inl (.inl PT), rfl, _, _, rfl, _, _, rfl, rfl, ?_⟩
    obtain ⟨lg, elg⟩ : ∃ lg, lg = pushA lf m ((arcs pth).take i) := ⟨_, rfl⟩
    rw [← elg] at R6
    have big1 : (nb u).length < sizeLine := by have := hnl u huV; omega
    have big2 : (nb v).length < sizeLine := by have := hnl v hvV; omega
    refine ⟨_, rfl, x, S, dx, _, _, rfl, hx6, SC.cls, SC.nl, rfl, _, rfl, la, _, rfl, get_d (.inl R6.top) huV, _, rfl, ad u, _, rfl, get_d (.inl (R6.row u huV)) hvn, _, rfl, _, _, rfl, rfl, _, put_d (R6.row u huV) hvn big1, ?_⟩
    have e1 : dct (nb u) (fun y => if y = v then V.int (lg u v - m) else V.int (lg u y)) = dct (nb u) fun y => V.int (if y = v then lg u v - m else lg u y) := dct_congr fun y _ => by split <;> rfl
    rw [e1]
    have R7 := (R6.put huV (nb u) fun y => if y = v then lg u v - m else lg u y).as (nb' := nb) (wt' := fun x y => if x = u then (if y = v then lg u v - m else lg u y) else lg x y) (fun z _ => by
      show (if z = u then nb u else nb z) = nb z
      split
      · rename_i e
        rw [e]
      · rfl) (fun z _ y _ => rfl)
    have hx7 : upd H6 (ad u) (.dK (dct (nb u) fun y => V.int (if y = v then lg u v - m else lg u y))) x = some (.ins S dx (seaF a la s t)) := by
      rw [upd_ne (nxu u huV)]
      exact hx6
    have k7 : ∀ b o, H6 b = some o → b ≠ ad u → upd H6 (ad u) (.dK (dct (nb u) fun y => V.int (if y = v then lg u v - m else lg u y))) b = some o := fun b o hb hne => by
      rw [upd_ne hne]
      exact hb
    generalize upd H6 (ad u) (.dK (dct (nb u) fun y => V.int (if y = v then lg u v - m else lg u y))) = H7 at R7 hx7 k7
    refine ⟨_, rfl, x, S, dx, _, _, rfl, hx7, SC.cls, SC.nl, rfl, _, rfl, la, _, rfl, get_d (.inl R7.top) hvV, _, rfl, ad v, _, rfl, get_d (.inl (R7.row v hvV)) hun, _, rfl, _, _, rfl, rfl, _, put_d (R7.row v hvV) hun big2, ?_⟩
    rw [if_neg (Ne.symm nuv)]
    have e2 : dct (nb v) (fun y => if y = u then V.int (lg v u + m) else V.int (if v = u then (if y = v then lg u v - m else lg u y) else lg v y)) = dct (nb v) fun y => V.int (if y = u then lg v u + m else lg v y) := dct_congr fun y _ => by
      rw [if_neg (Ne.symm nuv)]
      split <;> rfl
    rw [e2]
    have R8 := (R7.put hvV (nb v) fun y => if y = u then lg v u + m else lg v y).as (nb' := nb) (wt' := push1 lg u v m) (fun z _ => by
      show (if z = v then nb v else nb z) = nb z
      split
      · rename_i e
        rw [e]
      · rfl) (fun z _ y _ => push1_rows nuv z y)
    refine ⟨_, _, rfl, fun b o hb hne => ?_, ?_⟩
    · rw [upd_ne (hne v hvV)]
      exact k7 _ _ (sT _ _ (q1 b o hb hne)) (hne u huV)
    · rw [takeS he, pushA_snoc, ← elg]
      exact R8
  · rintro σ Hc ⟨x4, x5, rfl, q1, q2⟩
    rw [List.take_length] at q2
    exact ⟨_, rfl, k m Hc m0 m1 m2 (fun b o hb hne => q1 b o (s5' _ _ hb) hne) q2⟩
end
end Wk
namespace Wk
open PySem PySem.Spec PyProof.Rows L2 WkD WkN LamX WkP WkE WkC
section
variable {P : Program} {w : World} {K : PySem.W.Frag} {mg : Str → Option Value} {base : Heap}
def spLev (K : PySem.W.Frag) : Sp := fun vs H Q _ => ∃ (x S dx a la : Addr) (s t : Str) (Vs : List Str) (ad : Str → Addr) (nb : Nb) (lf : Wt), vs = [.ref x] ∧ H x = some (.ins S dx (seaF a la s t)) ∧ SCls K S ∧ RowsM H la Vs ad nb lf ∧ s ∈ Vs ∧ (∀ u ∈ Vs, ∀ v ∈ nb u, v ∈ Vs) ∧ Vs.length < 1000 ∧
  ∀ p o fl lev H', Same H H' → H p = none → H' p = some (.frz o (.dK (dct fl fun v => .int (lev v)))) → Lvl Vs nb lf s fl lev fl.length → Q (.ref p) H'
theorem sc_sea_levels : FnScope ["self", "found", "waiting", "at", "here", "there", "left"] ["self"] (defScope s_Search_levels) := ⟨rfl, rfl, rfl, by decide +kernel, rfl, by decide +kernel, by decide +kernel⟩
theorem ok_sea_levels {f : Addr} {fd : FuncData} (B : Bi mg) (F : FnP K "levels" "Search.levels" s_Search_levels f fd) : FnOk P w K mg base CX0 1 f fd ["self"] (spLev K) := by
  refine F.ok sc_sea_levels (fun vs H Q E h => ?_) (fun cdv A outer s H vs Q E hr h => ?_)
  · obtain ⟨x, S, dx, a, la, s, t, Vs, ad, nb, lf, rfl, _⟩ := h
    rfl
  have nd := sc_sea_levels.nd
  have hu := hu_of hr
  refine ⟨_, PSs.nox (pss_cons (ps_par3 (i := 1) (j := 2) (l := 3) (by rfl) nd rfl rfl rfl (by decide) (by decide) (by decide) rfl rfl rfl (pa_cons (pe_disp (pps_cons (pe_fld (pv 0) rfl) pe_int pps_nil) (by rfl) (by rfl) (fun z => by cases z) (by decide)) (pa_cons (pe_lst (pa_cons (pe_fld (pv 0) rfl) pa_nil)) (pa_cons pe_int pa_nil))) (by rfl))
      (pss_cons (ps_while PassesOwn.never (pt_cmpR op_lt (pv 3) (pe_callB call_len_seq (by rfl) B.n_len (by decide +kernel) (pa_cons (pv 2) pa_nil)) (nomark _))
      (pss_cons (ps_set (i := 4) nd rfl (Or.inl rfl) (pe_ix ix_list (pv 2) (pv 3) (fun _ _ => rfl)))
      (pss_cons (ps_lock (ps_for PassesOwn.never rfl (pi_items (pe_dget hu (pe_fld (pv 0) rfl) (pv 4) (fun _ _ => rfl))) (WkN.pgT K 2 rfl rfl (pgs_cons (pg_name (i := 5) nd rfl (Or.inl rfl)) (pgs_cons (pg_name (i := 6) nd rfl (Or.inl rfl)) pgs_nil)) rfl)
      (pss_one (ps_if (PW.pt (pw_and (pt_cmpR op_gt (pv 6) pe_int (nomark _)) (pw_and1 (pt_cmp (pc_dnotin hu (pv 5) (pv 1))))))
      (pss_cons (ps_dput hu (pv 1) (pv 5) (pe_op op_add (pe_dget hu (pv 1) (pv 4) (fun _ _ => rfl)) pe_int) rfl)
      (pss_one (ps_expr (pe_bm PySem.F.plainAttrs_list PySem.F.slot_list_append PySem.F.type_list_append mt_append (pv 2) (pa_cons (pv 5) pa_nil))))) pss_nil))))
      (pss_one (ps_aug (i := 3) nd rfl (Or.inl rfl) pe_int ip_add)))))
      (pss_one (WkD.ps_fz (ps_ret (pv 1)))))), ?_⟩
  obtain ⟨x, S, dx, a, la, s, t, Vs, ad, nb, lf, rfl, hx, SC, R, hs, hnb, hl, k⟩ := h
  have big : 1000 < sizeLine := by decide
  refine fun fo nfo => ?_
  refine ⟨_, rfl, x, S, dx, _, _, rfl, (same_upd nfo) _ _ hx, SC.cls, SC.ns, rfl, ?_⟩
  refine ⟨upd_same, [(Sum.inr s, .int 0)], rfl, (by show 1 ≤ 15; decide), ?_⟩
  rw [upd_upd]
  have e0 : mergeK [] [((Sum.inr s : Key), V.int 0)] = dct [s] fun _ => .int 0 := rfl
  rw [e0]
  have s1 : Same H (upd H fo (.dK (dct [s] fun _ => .int 0))) := same_upd nfo
  have F1 : upd H fo (.dK (dct [s] fun _ => .int 0)) fo = some (.dK (dct [s] fun _ => .int 0)) := upd_same
  generalize upd H fo (.dK (dct [s] fun _ => .int 0)) = H1 at s1 F1
  refine ⟨_, rfl, x, S, dx, _, _, rfl, s1 _ _ hx, SC.cls, SC.ns, rfl, by show 1 ≤ sizeLine; decide, fun wa nwa => ⟨_, _, _, rfl, ?_⟩⟩
  have nwf : fo ≠ wa := ne_of_none F1 nwa
  have s2 : Same H (upd H1 wa (.lst [.str s])) := s1.trans (same_upd nwa)
  have F2 := (same_upd (o := .lst [.str s]) nwa) _ _ F1
  have W2 : upd H1 wa (.lst [.str s]) wa = some (.lst ([s].map V.str)) := upd_same
  have nwH : H wa = none := np_of s1 nwa
  generalize upd H1 wa (.lst [.str s]) = H2 at s2 F2 W2
  refine ⟨fun m σ Hc => ∃ (fl : List Str) (lev : Str → Int) (i : Nat) (x4 x5 x6 : Option V), σ = [some (.ref x), some (.ref fo), some (.ref wa), some (.int i), x4, x5, x6] ∧ Same H Hc ∧ Hc fo = some (.dK (dct fl fun v => .int (lev v))) ∧ Hc wa = some (.lst (fl.map V.str)) ∧ Lvl Vs nb lf s fl lev i ∧ i ≤ fl.length ∧ m = Vs.length - i,
    ⟨_, [s], fun _ => 0, 0, none, none, none, rfl, s2, F2, W2, ⟨by simp, fun u hu => by rw [List.mem_singleton.mp hu]; exact hs, by simp, rfl, fun _ _ => Int.le_refl _, fun u hu => absurd hu (by simp), fun v hv hne => absurd (List.mem_singleton.mp hv) hne⟩, Nat.zero_le _, rfl⟩, ?_⟩
  rintro m σ H3 ⟨fl, lev, i, x4, x5, x6, rfl, s3, F3, W3, L, hi, rfl⟩
  have flV : fl.length ≤ Vs.length := L.nd.length_le_of_subset fun u hu => L.sub u hu
  refine ⟨_, rfl, _, rfl, wa, _, rfl, .inl (SqL.of W3), _, _, rfl, rfl, _, rfl, ?_⟩
  rw [List.length_map]
  refine ite2 (fun hb => ?_) (fun hb => ?_)
  · have hb : (i : Int) < (fl.length : Int) := of_decide_eq_true hb
    have hb : i < fl.length := by omega
    refine ⟨fun σ' Hc => ∃ (fl : List Str) (lev : Str → Int) (x4 x5 x6 : Option V), σ' = [some (.ref x), some (.ref fo), some (.ref wa), some (.int (i + 1 : Nat)), x4, x5, x6] ∧ Same H Hc ∧ Hc fo = some (.dK (dct fl fun v => .int (lev v))) ∧ Hc wa = some (.lst (fl.map V.str)) ∧ Lvl Vs nb lf s fl lev (i + 1) ∧ i + 1 ≤ fl.length, ?_, ?_⟩
    · rintro σ' H' ⟨fl', lev', y4, y5, y6, q1, q2, q3, q4, q5, q6⟩
      have flV' : fl'.length ≤ Vs.length := q5.nd.length_le_of_subset fun u hu => q5.sub u hu
      exact ⟨Vs.length - (i + 1), by omega, fl', lev', i + 1, y4, y5, y6, q1, q2, q3, q4, q5, q6, rfl⟩
    obtain ⟨u, eu⟩ : ∃ u, u = fl[i] := ⟨_, rfl⟩
    have huf : u ∈ fl := eu ▸ List.getElem_mem hb
    have huV := L.sub u huf
    refine ⟨_, rfl, _, rfl, wa, _, _, .str u, rfl, rfl, SqL.of W3, ?_, ?_⟩
    · refine atI_nat ?_
      rw [List.getElem?_map, List.getElem?_eq_getElem hb, ← eu]
      rfl
    have R3 := R.ext (Ext.of s3)
    have hx3 := s3 _ _ hx
    refine ⟨ad u, _, R3.row u huV, trivial, fun od => ?_⟩
    have nuf : fo ≠ ad u := Ne.symm (ne_of_none (R.row u huV) nfo)
    have nuw : wa ≠ ad u := Ne.symm (ne_of_none (R.row u huV) nwH)
    have nxu : x ≠ ad u := ne_of hx (R.row u huV) (by intro z; cases z)
    have nlu := R.ne huV
    have Z5 : upd H3 (ad u) (.frz od (.dK (dct (nb u) fun v => .int (lf u v)))) (ad u) = some (.frz od (.dK (dct (nb u) fun v => .int (lf u v)))) := upd_same
    have k5 : ∀ b o, H3 b = some o → b ≠ ad u → upd H3 (ad u) (.frz od (.dK (dct (nb u) fun v => .int (lf u v)))) b = some o := fun b o hb hne => by
      rw [upd_ne hne]
      exact hb
    generalize upd H3 (ad u) (.frz od (.dK (dct (nb u) fun v => .int (lf u v)))) = H5 at Z5 k5
    have W5 := k5 _ _ W3 nuw
    have F5 := k5 _ _ F3 nuf
    refine ⟨_, rfl, x, S, dx, _, _, rfl, k5 _ _ hx3 nxu, SC.cls, SC.nl, rfl, _, rfl, la, _, rfl, get_d (.inl (k5 _ _ R3.top (Ne.symm nlu))) huV, ad u, od, _, rfl, Z5, ?_⟩
    refine for_it (walk_items (kvs := dct (nb u) fun v => .int (lf u v))) (fun j σ Hc => ∃ (fl' : List Str) (lev' : Str → Int) (x5 x6 : Option V), σ = [some (.ref x), some (.ref fo), some (.ref wa), some (.int i), some (.str u), x5, x6] ∧ (∀ b o, H3 b = some o → b ≠ ad u → b ≠ wa → b ≠ fo → Hc b = some o) ∧ Hc (ad u) = some (.frz od (.dK (dct (nb u) fun v => .int (lf u v)))) ∧
      Hc fo = some (.dK (dct fl' fun v => .int (lev' v))) ∧ Hc wa = some (.lst (fl'.map V.str)) ∧ Lvl Vs nb lf s fl' lev' i ∧ fl'[i]? = some u ∧ ∀ v ∈ (nb u).take j, 0 < lf u v → v ∈ fl')
      ⟨fl, lev, x5, x6, rfl, fun b o h1 h2 _ _ => k5 _ _ h1 h2, Z5, F5, W5, L, by rw [List.getElem?_eq_getElem hb, ← eu], fun v hv => absurd hv (by simp)⟩ ?_ ?_ ?_
    · rintro j σ Hc hj ⟨fl', lev', x5, x6, rfl, q1, q2, q3, q4, q5, q6, q7⟩
      exact q2
    · rintro j y σ Hc Hc' hj ⟨fl', lev', x5, x6, rfl, q1, q2, q3, q4, q5, q6, q7⟩ ⟨T, kx, vx, rfl, nT, rfl, hkx, hvx⟩
      rw [dct_len] at hj
      dsimp only at hkx hvx
      rw [dct_at, List.getElem?_eq_getElem hj] at hkx hvx
      cases hkx
      cases hvx
      obtain ⟨v, ev⟩ : ∃ v, v = (nb u)[j] := ⟨_, rfl⟩
      have hvn : v ∈ nb u := ev ▸ List.getElem_mem hj
      have tk : ∀ y, y ∈ (nb u).take (j + 1) → y ∈ (nb u).take j ∨ y = v := fun y hy => by
        rw [takeS (List.getElem?_eq_getElem hj), List.mem_append, List.mem_singleton, ← ev] at hy
        exact hy
      have fV : fl'.length ≤ Vs.length := q5.nd.length_le_of_subset fun u hu => q5.sub u hu
      have hi' := (List.getElem?_eq_some_iff.mp q6).1
      have huf' : u ∈ fl' := List.mem_of_getElem? q6
      rw [← ev]
      have sT : Same Hc (upd Hc T (.tup [.str v, .int (lf u v)])) := same_upd nT
      have PT : upd Hc T (.tup [.str v, .int (lf u v)]) T = some (.tup [.str v, .int (lf u v)]) := upd_same
      show gTup _ _ _ _ _ (upd Hc T (.tup [.str v, .int (lf u v)])) _
      generalize upd Hc T (.tup [.str v, .int (lf u v)]) = H6 at sT PT
      refine ⟨T, _, rfl, .inl (.inl PT), rfl, _, _, rfl, _, _, rfl, rfl, ?_⟩
      have F6 := sT _ _ q3
      have W6 := sT _ _ q4
      have done : 0 < lf u v → v ∈ fl' → ∀ y ∈ (nb u).take (j + 1), 0 < lf u y → y ∈ fl' := fun _ h y hy hp => by
        rcases tk y hy with h1 | rfl
        · exact q7 y h1 hp
        · exact h
      refine ⟨_, rfl, _, _, rfl, rfl, _, rfl, ?_⟩
      refine ite2 (fun h1 => ?_) (fun h1 => ?_)
      · have h1 : 0 < lf u v := of_decide_eq_true h1
        refine ⟨_, rfl, _, rfl, fo, _, rfl, get_x (.inl F6), _, rfl, ?_⟩
        have eo : (if v ∈ fl' then some (V.int (lev' v)) else none).isSome = decide (v ∈ fl') := by
          by_cases h : v ∈ fl'
          · rw [if_pos h, decide_eq_true h]
            rfl
          · rw [if_neg h, decide_eq_false h]
            rfl
        rw [eo]
        refine ite2 (fun h2 => ?_) (fun h2 => ?_)
        · have hn : v ∉ fl' := fun z => by
            rw [decide_eq_true z] at h2
            cases h2
          refine ⟨_, rfl, _, rfl, fo, _, rfl, get_d (.inl F6) huf', _, _, rfl, rfl, _, rfl, _, rfl, fo, _, rfl, put_n F6 hn (by omega), ?_⟩
          have eg : dct (fl' ++ [v]) (fun y => if y = v then V.int (lev' u + 1) else V.int (lev' y)) = dct (fl' ++ [v]) fun y => V.int (if y = v then lev' u + 1 else lev' y) := dct_congr fun y _ => by split <;> rfl
          rw [eg]
          have W7 : upd H6 fo (.dK (dct (fl' ++ [v]) fun y => V.int (if y = v then lev' u + 1 else lev' y))) wa = some (.lst (fl'.map V.str)) := by
            rw [upd_ne (Ne.symm nwf)]
            exact W6
          have ney : ∀ y ∈ fl', (if y = v then lev' u + 1 else lev' y) = lev' y := fun y hy => if_neg fun (z : y = v) => hn (by rw [← z]; exact hy)
          have hvV := hnb u huV v hvn
          have ln : fl'.length + 1 ≤ Vs.length := by
            have : (fl' ++ [v]).length ≤ Vs.length := List.Nodup.length_le_of_subset (List.nodup_append.mpr ⟨q5.nd, by simp, fun a ha b hb e => hn (by rw [← List.mem_singleton.mp hb, ← e]; exact ha)⟩) fun y hy => (List.mem_append.mp hy).elim (q5.sub y) fun h => by rw [List.mem_singleton.mp h]; exact hvV
            simpa using this
          refine ⟨_, rfl, .inl ⟨rfl, _, SqL.of W7⟩, _, rfl, wa, _, _, rfl, rfl, W7, by rw [List.length_map]; omega, fl' ++ [v], fun y => if y = v then lev' u + 1 else lev' y, _, _, rfl, fun b o b1 b2 b3 b4 => ?_, ?_, ?_, ?_, ?_, ?_, ?_⟩
          · rw [upd_ne b3, upd_ne b4]
            exact sT _ _ (q1 b o b1 b2 b3 b4)
          · rw [upd_ne (Ne.symm nuw), upd_ne (Ne.symm nuf)]
            exact sT _ _ q2
          · rw [upd_ne nwf, upd_same]
          · rw [upd_same, List.map_append]
            rfl
          · refine ⟨List.nodup_append.mpr ⟨q5.nd, by simp, fun a ha b hb e => hn (by rw [← List.mem_singleton.mp hb, ← e]; exact ha)⟩, fun y hy => (List.mem_append.mp hy).elim (q5.sub y) fun h => by rw [List.mem_singleton.mp h]; exact hvV, List.mem_append_left _ q5.st, ?_, fun y hy => ?_, fun y hy z hz hp => ?_, fun y hy hne => ?_⟩
            · show (if s = v then _ else _) = _
              rw [ney s q5.st, q5.l0]
            · show 0 ≤ (if y = v then lev' u + 1 else lev' y)
              have hu0 := q5.nn u huf'
              rcases List.mem_append.mp hy with h | h
              · rw [ney y h]
                exact q5.nn y h
              · rw [if_pos (List.mem_singleton.mp h)]
                omega
            · rw [List.take_append_of_le_length (by omega)] at hy
              exact List.mem_append_left _ (q5.cl y hy z hz hp)
            · show ∃ u_1 ∈ fl' ++ [v], _ ∧ _ ∧ (if y = v then lev' u + 1 else lev' y) = (if u_1 = v then lev' u + 1 else lev' u_1) + 1
              rcases List.mem_append.mp hy with h | h
              · obtain ⟨z, z1, z2, z3, z4⟩ := q5.pd y h hne
                exact ⟨z, List.mem_append_left _ z1, z2, z3, by rw [ney y h, ney z z1, z4]⟩
              · rw [List.mem_singleton.mp h]
                exact ⟨u, List.mem_append_left _ huf', hvn, h1, by rw [if_pos rfl, ney u huf']⟩
          · rw [List.getElem?_append_left hi']
            exact q6
          · intro y hy hp
            rcases tk y hy with h | rfl
            · exact List.mem_append_left _ (q7 y h hp)
            · simp
        · have hn : v ∈ fl' := by
            by_cases h : v ∈ fl'
            · exact h
            · rw [decide_eq_false h] at h2
              exact absurd rfl h2
          exact ⟨fl', lev', _, _, rfl, fun b o b1 b2 b3 b4 => sT _ _ (q1 b o b1 b2 b3 b4), sT _ _ q2, F6, W6, q5, q6, done h1 hn⟩
      · have h1 : ¬ 0 < lf u v := fun z => h1 (decide_eq_true z)
        refine ⟨fl', lev', _, _, rfl, fun b o b1 b2 b3 b4 => sT _ _ (q1 b o b1 b2 b3 b4), sT _ _ q2, F6, W6, q5, q6, fun y hy hp => ?_⟩
        rcases tk y hy with h | rfl
        · exact q7 y h hp
        · exact absurd hp h1
    · rintro σ Hc ⟨fl', lev', x5, x6, rfl, q1, q2, q3, q4, q5, q6, q7⟩
      rw [dct_len, List.take_length] at q7
      have hi' := (List.getElem?_eq_some_iff.mp q6).1
      refine ⟨q2, ?_⟩
      refine ⟨_, rfl, _, _, rfl, rfl, fl', lev', _, _, _, rfl, fun b o hb => ?_, by rw [upd_ne nuf]; exact q3, by rw [upd_ne nuw]; exact q4, ⟨q5.nd, q5.sub, q5.st, q5.l0, q5.nn, fun y hy z hz hp => ?_, q5.pd⟩, by omega⟩
      · by_cases e : b = ad u
        · subst e
          rw [upd_same, ← hb, R.row u huV]
        · rw [upd_ne e]
          exact q1 b o (s3 _ _ hb) e (ne_of_none hb nwH) (ne_of_none hb nfo)
      · rw [takeS q6] at hy
        rcases List.mem_append.mp hy with h | h
        · exact q5.cl y h z hz hp
        · rw [List.mem_singleton.mp h] at hz hp
          exact q7 z hz hp
  · have hb : ¬ (i : Int) < (fl.length : Int) := fun z => hb (decide_eq_true z)
    have ei : i = fl.length := by omega
    subst ei
    refine ⟨_, rfl, [(fo, .dK (dct fl fun v => .int (lev v)))], tFz_intro (fun p hp' => ?_) (by simp) fun H4 z1 z2 => ?_⟩
    · rw [List.mem_singleton.mp hp']
      exact ⟨F3, trivial⟩
    · obtain ⟨o, ho⟩ := z1 _ List.mem_cons_self
      refine k fo o fl lev H4 (fun b o hb => ?_) nfo ho L
      rw [z2 b fun hm => ?_]
      · exact s3 _ _ hb
      · exact ne_of_none hb nfo (List.mem_singleton.mp hm)
end
end Wk
namespace WkP
open PySem WkN
/-! ### advancing along levels -/
inductive Gd (nb : Nb) (lf : Wt) (fl : List Str) (lev : Str → Int) (t : Str) : Str → Prop
  | here : Gd nb lf fl lev t t
  | step {u v : Str} : u ∈ fl → v ∈ nb u → v ∈ fl → lev v = lev u + 1 → 0 < lf u v → Gd nb lf fl lev t v → Gd nb lf fl lev t u
theorem Lvl.good {Vs : List Str} {nb : Nb} {lf : Wt} {s t : Str} {fl : List Str} {lev : Str → Int} {i : Nat} (L : Lvl Vs nb lf s fl lev i) (ht : t ∈ fl) : Gd nb lf fl lev t s := by
  have key : ∀ (n : Nat) (v : Str), v ∈ fl → (lev v).toNat = n → Gd nb lf fl lev t v → Gd nb lf fl lev t s := by
    intro n
    induction n using Nat.strongRecOn with
    | ind n ih =>
      intro v hv hn g
      by_cases e : v = s
      · rw [← e]
        exact g
      · obtain ⟨u, hu, hvn, hp, hl⟩ := L.pd v hv e
        have h0 := L.nn u hu
        exact ih (lev u).toNat (by omega) u hu rfl (.step hu hvn hv hl hp g)
  exact key _ t ht rfl .here
structure Adv (nb : Nb) (lf : Wt) (fl : List Str) (lev : Str → Int) (s t : Str) (ch : Str → List Str) (pth : List Str) (moved : Int) : Prop where
  chs : ∀ u ∈ fl, ∀ v ∈ ch u, v ∈ nb u ∧ v ∈ fl ∧ lev v = lev u + 1
  pin : ∀ u ∈ pth, u ∈ fl
  hd : pth ≠ [] → pth.head? = some s
  lv : ∀ (i : Nat) u, pth[i]? = some u → lev u = i
  ar : ∀ (i : Nat) u v, pth[i]? = some u → pth[i + 1]? = some v → (ch u).getLast? = some v ∧ 0 < lf u v
  gs : moved = 0 → Gd nb lf fl lev t s
  gd : moved = 0 → ∀ u ∈ fl, Gd nb lf fl lev t u → u ≠ t → ∃ v ∈ ch u, Gd nb lf fl lev t v ∧ 0 < lf u v
  em : pth = [] → 0 < moved
  tn : ∀ (i : Nat) u v, pth[i]? = some u → pth[i + 1]? = some v → u ≠ t
  mv : 0 ≤ moved
def ch0 (nb : Nb) (fl : List Str) (lev : Str → Int) (u : Str) : List Str := (nb u).filter fun v => decide (v ∈ fl ∧ lev v = lev u + 1)
section
variable {Vs : List Str} {nb : Nb} {lf : Wt} {fl : List Str} {lev : Str → Int} {s t : Str} {ch : Str → List Str} {pth : List Str} {moved : Int}
theorem Adv.start {i : Nat} (L : Lvl Vs nb lf s fl lev i) (ht : t ∈ fl) : Adv nb lf fl lev s t (ch0 nb fl lev) [s] 0 := by
  refine ⟨fun u hu v hv => ?_, fun u hu => by rw [List.mem_singleton.mp hu]; exact L.st, fun _ => rfl, fun i u h => ?_, fun i u v h k => ?_, fun _ => L.good ht, fun _ u hu g hne => ?_, (fun z => by simp at z), fun i u v h k => ?_, Int.le_refl _⟩
  · have := List.mem_filter.mp hv
    have h2 := of_decide_eq_true this.2
    exact ⟨this.1, h2.1, h2.2⟩
  · cases i with
    | zero =>
      have : s = u := by simpa using h
      rw [← this, L.l0]
      rfl
    | succ i => simp at h
  · cases i with
    | zero => simp at k
    | succ i => simp at h
  · cases g with
    | here => exact absurd rfl hne
    | step h1 h2 h3 h4 h5 h6 => exact ⟨_, List.mem_filter.mpr ⟨h2, decide_eq_true ⟨h3, h4⟩⟩, h6, h5⟩
  · cases i with
    | zero => simp at k
    | succ i => simp at h
theorem Adv.nd (A : Adv nb lf fl lev s t ch pth moved) : pth.Nodup := by
  refine List.pairwise_iff_getElem.mpr fun i j hi hj hij e => ?_
  have h1 := A.lv i _ (List.getElem?_eq_getElem hi)
  have h2 := A.lv j _ (List.getElem?_eq_getElem hj)
  rw [e, h2] at h1
  omega
theorem Adv.len (A : Adv nb lf fl lev s t ch pth moved) : pth.length ≤ fl.length := A.nd.length_le_of_subset fun u hu => A.pin u hu
theorem arcs_idx {l : List Str} {e : Str × Str} (h : e ∈ arcs l) : ∃ i : Nat, l[i]? = some e.1 ∧ l[i + 1]? = some e.2 := by
  obtain ⟨i, hi, he⟩ := List.mem_iff_getElem.mp h
  have h2 : (arcs l)[i]? = some e := by rw [List.getElem?_eq_getElem hi, he]
  unfold arcs at h2
  rw [List.getElem?_zip_eq_some] at h2
  refine ⟨i, h2.1, ?_⟩
  have := h2.2
  rw [List.getElem?_tail] at this
  exact this
/-- what a move asks of its path -/
theorem Adv.arcs (A : Adv nb lf fl lev s t ch pth moved) {e : Str × Str} (h : e ∈ arcs pth) : e.1 ∈ fl ∧ e.2 ∈ fl ∧ e.2 ∈ nb e.1 ∧ 0 < lf e.1 e.2 := by
  obtain ⟨i, h1, h2⟩ := arcs_idx h
  have h3 := A.ar i _ _ h1 h2
  have hf := A.pin _ (List.mem_of_getElem? h1)
  have h4 := A.chs _ hf e.2 (List.mem_of_getLast? h3.1)
  exact ⟨hf, h4.2.1, h4.1, h3.2⟩
theorem adv_ends (A : Adv nb lf fl lev s t ch pth moved) (l0 : lev s = 0) {e : Str × Str} (h : e ∈ arcs pth) : e.1 ≠ t ∧ e.2 ≠ s := by
  obtain ⟨i, h1, h2⟩ := arcs_idx h
  refine ⟨A.tn i _ _ h1 h2, fun z => ?_⟩
  have h3 := A.lv _ _ h2
  rw [z, l0] at h3
  omega
theorem Adv.move (A : Adv nb lf fl lev s t ch pth moved) (hs : s ∈ fl) (l0 : lev s = 0) {m : Int} (hm : 0 < m) (lf' : Wt) : Adv nb lf' fl lev s t ch [s] (moved + m) := by
  have mv := A.mv
  refine ⟨A.chs, fun u hu => by rw [List.mem_singleton.mp hu]; exact hs, fun _ => rfl, fun i u h => ?_, fun i u v h k => ?_, fun z => by omega, fun z => by omega, (fun z => by simp at z), fun i u v h k => ?_, by omega⟩
  · cases i with
    | zero =>
      have : s = u := by simpa using h
      rw [← this, l0]
      rfl
    | succ i => simp at h
  · cases i with
    | zero => simp at k
    | succ i => simp at h
  · cases i with
    | zero => simp at k
    | succ i => simp at h
def updC (ch : Str → List Str) (z : Str) (l : List Str) : Str → List Str := fun u => if u = z then l else ch u
theorem updC_at (ch : Str → List Str) (z : Str) (l : List Str) : updC ch z l z = l := if_pos rfl
theorem updC_ne {ch : Str → List Str} {z u : Str} {l : List Str} (h : u ≠ z) : updC ch z l u = ch u := if_neg h
theorem at_snoc {p : List Str} {y : Str} {i : Nat} {u : Str} (h : (p ++ [y])[i]? = some u) : (i < p.length ∧ p[i]? = some u) ∨ (i = p.length ∧ u = y) := by
  by_cases hi : i < p.length
  · rw [List.getElem?_append_left hi] at h
    exact .inl ⟨hi, h⟩
  · rw [List.getElem?_append_right (by omega)] at h
    have h1 := (List.getElem?_eq_some_iff.mp h).1
    have h2 : i = p.length := by simp at h1; omega
    subst h2
    refine .inr ⟨rfl, ?_⟩
    simpa using h.symm
/-- the last choice of the last vertex is of no use -/
theorem Adv.drop {p : List Str} {y v : Str} {c : List Str} (A : Adv nb lf fl lev s t ch (p ++ [y]) moved) (hc : ch y = c ++ [v]) (hv : ¬ 0 < lf y v) : Adv nb lf fl lev s t (updC ch y c) (p ++ [y]) moved := by
  have nd := A.nd
  refine ⟨fun u hu z hz => ?_, A.pin, A.hd, A.lv, fun i u z h k => ?_, A.gs, fun hm u hu g hne => ?_, A.em, A.tn, A.mv⟩
  · by_cases e : u = y
    · subst e
      rw [updC_at] at hz
      exact A.chs u hu z (by rw [hc]; exact List.mem_append_left _ hz)
    · rw [updC_ne e] at hz
      exact A.chs u hu z hz
  · have hu : u ≠ y := fun e => by
      subst e
      rcases at_snoc k with ⟨h1, h2⟩ | ⟨h1, _⟩
      · have h3 : (p ++ [u])[p.length]? = some u := by simp
        have h4 := A.lv _ _ h
        have h5 := A.lv _ _ h3
        omega
      · have h3 : (p ++ [u])[p.length]? = some u := by simp
        have h4 := A.lv _ _ h
        have h5 := A.lv _ _ h3
        omega
    rw [updC_ne hu]
    exact A.ar i u z h k
  · obtain ⟨z, h1, h2, h3⟩ := A.gd hm u hu g hne
    by_cases e : u = y
    · subst e
      rw [updC_at]
      rw [hc] at h1
      rcases List.mem_append.mp h1 with h | h
      · exact ⟨z, h, h2, h3⟩
      · rw [List.mem_singleton.mp h] at h3
        exact absurd h3 hv
    · rw [updC_ne e]
      exact ⟨z, h1, h2, h3⟩
/-- a step on -/
theorem Adv.push {p : List Str} {y v : Str} {c : List Str} (A : Adv nb lf fl lev s t ch (p ++ [y]) moved) (hc : ch y = c ++ [v]) (hv : 0 < lf y v) (hyt : y ≠ t) : Adv nb lf fl lev s t ch ((p ++ [y]) ++ [v]) moved := by
  have hy := A.pin y (by simp)
  have hvc := A.chs y hy v (by rw [hc]; simp)
  refine ⟨A.chs, fun u hu => (List.mem_append.mp hu).elim (A.pin u) fun h => by rw [List.mem_singleton.mp h]; exact hvc.2.1, fun _ => ?_, fun i u h => ?_, fun i u z h k => ?_, A.gs, A.gd, (fun z => by simp at z), fun i u z h k => ?_, A.mv⟩
  · rw [List.head?_append, A.hd (by simp)]
    rfl
  · rcases at_snoc h with ⟨h1, h2⟩ | ⟨h1, h2⟩
    · exact A.lv i u h2
    · have h3 : (p ++ [y])[p.length]? = some y := by simp
      rw [h2, hvc.2.2, A.lv _ _ h3, h1]
      simp
  · rcases at_snoc k with ⟨h1, h2⟩ | ⟨h1, h2⟩
    · rw [List.getElem?_append_left (by omega)] at h
      exact A.ar i u z h h2
    · rw [List.getElem?_append_left (by omega)] at h
      rcases at_snoc h with ⟨h3, h4⟩ | ⟨h3, h4⟩
      · simp at h1
        omega
      · rw [h2, h4, hc]
        exact ⟨by simp, hv⟩
  · rcases at_snoc k with ⟨h1, h2⟩ | ⟨h1, h2⟩
    · rw [List.getElem?_append_left (by omega)] at h
      exact A.tn i u z h h2
    · rw [List.getElem?_append_left (by omega)] at h
      rcases at_snoc h with ⟨h3, h4⟩ | ⟨h3, h4⟩
      · simp at h1
        omega
      · rw [h4]
        exact hyt
/-- a way back -/
theorem Adv.dead (A : Adv nb lf fl lev s t ch (pth) moved) {y : Str} (hy : y ∈ fl) (hc : ch y = []) (ht : y ≠ t) : moved = 0 → ¬ Gd nb lf fl lev t y := fun hm g => by
  obtain ⟨z, h1, _⟩ := A.gd hm y hy g ht
  rw [hc] at h1
  exact nomatch h1
theorem Adv.back0 {y : Str} (A : Adv nb lf fl lev s t ch [y] moved) (hc : ch y = []) (ht : y ≠ t) : Adv nb lf fl lev s t ch [] moved := by
  have hy := A.pin y (by simp)
  have ys : y = s := by simpa using A.hd (by simp)
  refine ⟨A.chs, fun u hu => (by simp at hu), fun z => absurd rfl z, fun i u h => by simp at h, fun i u v h => by simp at h, A.gs, A.gd, fun _ => ?_, fun i u v h => by simp at h, A.mv⟩
  have mv := A.mv
  by_cases hm : moved = 0
  · exact absurd (ys ▸ A.gs hm) (A.dead hy hc ht hm)
  · omega
theorem Adv.back {p : List Str} {z y : Str} (A : Adv nb lf fl lev s t ch ((p ++ [z]) ++ [y]) moved) (hc : ch y = []) (ht : y ≠ t) : ∃ c, ch z = c ++ [y] ∧ Adv nb lf fl lev s t (updC ch z c) (p ++ [z]) moved := by
  have hy := A.pin y (by simp)
  have nd := A.nd
  have e1 : ((p ++ [z]) ++ [y])[p.length]? = some z := by simp
  have e2 : ((p ++ [z]) ++ [y])[p.length + 1]? = some y := by simp
  obtain ⟨hl, hp⟩ := A.ar _ _ _ e1 e2
  obtain ⟨c, ec⟩ : ∃ c, ch z = c ++ [y] := ⟨(ch z).dropLast, by
    have : ch z ≠ [] := fun q => by rw [q] at hl; cases hl
    have h := List.dropLast_concat_getLast this
    rw [List.getLast?_eq_some_getLast this] at hl
    rw [Option.some.inj hl] at h
    exact h.symm⟩
  refine ⟨c, ec, fun u hu v hv => ?_, fun u hu => A.pin u (List.mem_append_left _ hu), fun _ => ?_, fun i u h => ?_, fun i u v h k => ?_, A.gs, fun hm u hu g hne => ?_, (fun z => by simp at z), fun i u v h k => ?_, A.mv⟩
  · by_cases e : u = z
    · subst e
      rw [updC_at] at hv
      exact A.chs u hu v (by rw [ec]; exact List.mem_append_left _ hv)
    · rw [updC_ne e] at hv
      exact A.chs u hu v hv
  · have h := A.hd (by simp)
    rw [List.head?_append] at h
    cases q : (p ++ [z]).head? with
    | none => simp at q
    | some a =>
      rw [q] at h
      exact h
  · have hi := (List.getElem?_eq_some_iff.mp h).1
    exact A.lv i u (by rw [List.getElem?_append_left hi]; exact h)
  · have hi := (List.getElem?_eq_some_iff.mp k).1
    have h' : ((p ++ [z]) ++ [y])[i]? = some u := by rw [List.getElem?_append_left (by omega)]; exact h
    have k' : ((p ++ [z]) ++ [y])[i + 1]? = some v := by rw [List.getElem?_append_left hi]; exact k
    have hu : u ≠ z := fun e => by
      subst e
      have h4 := A.lv _ _ h'
      have h5 := A.lv _ _ e1
      simp at hi
      omega
    rw [updC_ne hu]
    exact A.ar i u v h' k'
  · obtain ⟨v, h1, h2, h3⟩ := A.gd hm u hu g hne
    by_cases e : u = z
    · subst e
      rw [updC_at]
      rw [ec] at h1
      rcases List.mem_append.mp h1 with h | h
      · exact ⟨v, h, h2, h3⟩
      · rw [List.mem_singleton.mp h] at h2
        exact absurd h2 (A.dead hy hc ht hm)
    · rw [updC_ne e]
      exact ⟨v, h1, h2, h3⟩
  · have hi := (List.getElem?_eq_some_iff.mp k).1
    have h' : ((p ++ [z]) ++ [y])[i]? = some u := by rw [List.getElem?_append_left (by omega)]; exact h
    have k' : ((p ++ [z]) ++ [y])[i + 1]? = some v := by rw [List.getElem?_append_left hi]; exact k
    exact A.tn i u v h' k'
/-! ### its end comes -/
def tot (ch : Str → List Str) : List Str → Nat
  | [] => 0
  | u :: l => (ch u).length + tot ch l
theorem tot_ne {z : Str} {c : List Str} : ∀ {l : List Str}, z ∉ l → tot (updC ch z c) l = tot ch l
  | [], _ => rfl
  | u :: l, h => by
    unfold tot
    rw [updC_ne (fun e => h (by rw [e]; exact List.mem_cons_self)), tot_ne fun q => h (List.mem_cons_of_mem _ q)]
theorem tot_drop {z v : Str} {c : List Str} (hc : ch z = c ++ [v]) : ∀ {l : List Str}, l.Nodup → z ∈ l → tot (updC ch z c) l + 1 = tot ch l
  | [], _, h => nomatch h
  | u :: l, nd, h => by
    rw [List.nodup_cons] at nd
    unfold tot
    by_cases e : u = z
    · subst e
      rw [updC_at, tot_ne nd.1, hc, List.length_append, List.length_singleton]
      omega
    · have := tot_drop hc nd.2 ((List.mem_cons.mp h).resolve_left fun q => e q.symm)
      rw [updC_ne e]
      omega
def meas (most : Int) (fl : List Str) (ch : Str → List Str) (pth : List Str) (moved : Int) : Nat := ((most - moved).toNat + tot ch fl) * (fl.length + 2) + (if pth = [] then 0 else fl.length + 1 - pth.length)
theorem meas_lt1 {most : Int} {ch' : Str → List Str} {p p' : List Str} {moved' : Int} (h : (most - moved').toNat + tot ch' fl < (most - moved).toNat + tot ch fl) : meas most fl ch' p' moved' < meas most fl ch p moved := by
  unfold meas
  have h1 : ((most - moved').toNat + tot ch' fl + 1) * (fl.length + 2) ≤ ((most - moved).toNat + tot ch fl) * (fl.length + 2) := Nat.mul_le_mul_right _ h
  rw [Nat.add_mul] at h1
  have h2 : (if p' = [] then 0 else fl.length + 1 - p'.length) ≤ fl.length + 1 := by split <;> omega
  have h3 : 0 ≤ (if p = [] then 0 else fl.length + 1 - p.length) := Nat.zero_le _
  omega
end
end WkP
namespace WkP
open PySem WkN
theorem sm_zero_of {l : List Str} {f : Str → Int} (h : ∀ x ∈ l, 0 ≤ f x) (e : sm l f = 0) : ∀ x ∈ l, f x = 0 := by
  induction l with
  | nil => exact fun x hx => nomatch hx
  | cons a l ih =>
    rw [sm_cons] at e
    have h1 := h a List.mem_cons_self
    have h2 := sm_nonneg fun x hx => h x (List.mem_cons_of_mem _ hx)
    intro x hx
    rcases List.mem_cons.mp hx with rfl | hx
    · omega
    · exact ih (fun x hx => h x (List.mem_cons_of_mem _ hx)) (by omega) x hx
/-- all that leaves s is used -/
theorem Resid.full {Vs : List Str} {nb : Nb} {wt lf : Wt} {s t : Str} {n : Int} (R : Resid Vs (vl0 nb wt) s t n (vl0 nb lf)) (cl : ∀ v ∈ nb s, v ∈ Vs) (hs : s ∈ Vs) (st : s ≠ t) (hn : n = sm Vs fun v => vl0 nb wt s v) {fl : List Str} {lev : Str → Int} {i : Nat} (L : Lvl Vs nb lf s fl lev i) : t ∉ fl := by
  have e0 : (sm Vs fun v => vl0 nb lf s v) = 0 := by
    have h := R.src
    have e : (sm Vs fun v => vl0 nb wt s v) = (sm Vs fun v => vl0 nb wt s v - vl0 nb lf s v) + sm Vs fun v => vl0 nb lf s v := by
      rw [← sm_add]
      exact sm_congr fun v _ => by omega
    omega
  have z := sm_zero_of (fun v hv => R.nn s hs v hv) e0
  have key : ∀ (n : Nat) (v : Str), v ∈ fl → (lev v).toNat = n → v = s := by
    intro n
    induction n using Nat.strongRecOn with
    | ind n ih =>
      intro v hv hn
      by_cases e : v = s
      · exact e
      · obtain ⟨u, hu, hvn, hp, hl⟩ := L.pd v hv e
        have h0 := L.nn u hu
        have eu := ih (lev u).toNat (by omega) u hu rfl
        subst eu
        have := z v (cl v hvn)
        unfold vl0 at this
        rw [if_pos hvn] at this
        omega
  exact fun h => st (key _ t h rfl).symm
end WkP
namespace Wk
open PySem PySem.Spec PyProof.Rows L2 WkD WkN LamX WkP WkE WkC
theorem vl0_push {nb : Nb} {lf : Wt} {m : Int} : ∀ (l : List (Str × Str)) , (∀ e ∈ l, e.2 ∈ nb e.1 ∧ e.1 ∈ nb e.2) → ∀ lf : Wt, vl0 nb (pushA lf m l) = pushA (vl0 nb lf) m l
  | [], _, _ => rfl
  | e :: l, h, lf => by
    show vl0 nb (pushA (push1 lf e.1 e.2 m) m l) = pushA (push1 (vl0 nb lf) e.1 e.2 m) m l
    rw [vl0_push (lf := lf) l (fun f hf => h f (List.mem_cons_of_mem _ hf))]
    congr 1
    obtain ⟨h1, h2⟩ := h e List.mem_cons_self
    funext x y
    unfold vl0 push1
    grind
/-- what stands in the loop -/
structure AH (H : Hp) (la ca : Addr) (Vs : List Str) (ad : Str → Addr) (nb : Nb) (fl : List Str) (cad : Str → Addr) (lf : Wt) (ch : Str → List Str) (pl : Addr) (pth : List Str) (Hc : Hp) : Prop where
  fr : FrR Vs ad H Hc
  rows : RowsM Hc la Vs ad nb lf
  top : Hc ca = some (.dK (dct fl fun u => .ref (cad u)))
  lst : ∀ u ∈ fl, Hc (cad u) = some (.lst ((ch u).map V.str))
  pth : Hc pl = some (.lst (pth.map V.str))
  npl : ∀ u ∈ fl, pl ≠ cad u
  pn : H pl = none
  inj : ∀ u ∈ fl, ∀ v ∈ fl, cad u = cad v → u = v
  cn : ∀ u ∈ fl, H (cad u) = none
section
variable {H Hc H' : Hp} {la ca pl : Addr} {Vs : List Str} {ad : Str → Addr} {nb : Nb} {fl : List Str} {cad : Str → Addr} {lf : Wt} {ch : Str → List Str} {pth : List Str}
theorem AH.same (h : AH H la ca Vs ad nb fl cad lf ch pl pth Hc) (e : Same Hc H') : AH H la ca Vs ad nb fl cad lf ch pl pth H' := ⟨fun b o hb hn => e _ _ (h.fr b o hb hn), h.rows.ext (Ext.of e), e _ _ h.top, fun u hu => e _ _ (h.lst u hu), e _ _ h.pth, h.npl, h.pn, h.inj, h.cn⟩
theorem rows_lst {lf : Wt} {L : Addr} {xs ys : List V} (R : RowsM Hc la Vs ad nb lf) (hL : Hc L = some (.lst xs)) : RowsM (upd Hc L (.lst ys)) la Vs ad nb lf := ⟨by rw [upd_ne (ne_of R.top hL (by intro z; cases z))]; exact R.top, fun u hu => by rw [upd_ne (ne_of (R.row u hu) hL (by intro z; cases z))]; exact R.row u hu, R.inj, R.nd⟩
theorem AH.setp (h : AH H la ca Vs ad nb fl cad lf ch pl pth Hc) (pth' : List Str) : AH H la ca Vs ad nb fl cad lf ch pl pth' (upd Hc pl (.lst (pth'.map V.str))) := ⟨fun b o hb hn => by rw [upd_ne (ne_of_none hb h.pn)]; exact h.fr b o hb hn, rows_lst h.rows h.pth, by rw [upd_ne (ne_of h.top h.pth (by intro z; cases z))]; exact h.top, fun u hu => by rw [upd_ne (Ne.symm (h.npl u hu))]; exact h.lst u hu, upd_same, h.npl, h.pn, h.inj, h.cn⟩
theorem AH.setc (h : AH H la ca Vs ad nb fl cad lf ch pl pth Hc) {z : Str} (hz : z ∈ fl) (c : List Str) : AH H la ca Vs ad nb fl cad lf (updC ch z c) pl pth (upd Hc (cad z) (.lst (c.map V.str))) := by
  refine ⟨fun b o hb hn => by rw [upd_ne (ne_of_none hb (h.cn z hz))]; exact h.fr b o hb hn, rows_lst h.rows (h.lst z hz), by rw [upd_ne (ne_of h.top (h.lst z hz) (by intro z; cases z))]; exact h.top, fun u hu => ?_, by rw [upd_ne (h.npl z hz)]; exact h.pth, h.npl, h.pn, h.inj, h.cn⟩
  by_cases e : u = z
  · subst e
    rw [updC_at, upd_same]
  · rw [updC_ne e, upd_ne (fun q => e (h.inj u hu z hz q))]
    exact h.lst u hu
theorem AH.newp (h : AH H la ca Vs ad nb fl cad lf ch pl pth Hc) {q : Addr} {p' : List Str} (e : Same Hc H') (hq : Hc q = none) (hp : H' q = some (.lst (p'.map V.str))) (nH : H q = none) : AH H la ca Vs ad nb fl cad lf ch q p' H' := by
  have z := h.same e
  exact ⟨z.fr, z.rows, z.top, z.lst, hp, fun u hu => Ne.symm (ne_of_none (h.lst u hu) hq), nH, z.inj, z.cn⟩
end
theorem RSc_nd {H : Hp} {a : Addr} {Vs : List Str} {ad : Str → Addr} {nb : Nb} {wt : Wt} (R : RowsM H a Vs ad nb wt) : Vs.Nodup := R.nd
section
variable {P : Program} {w : World} {K : PySem.W.Frag} {mg : Str → Option Value} {base : Heap}
def spAdv (K : PySem.W.Frag) : Sp := fun vs H Q _ => ∃ (x S dx a la lp : Addr) (s t : Str) (Vs fl : List Str) (lev : Str → Int) (ol : Obj) (ad : Str → Addr) (nb : Nb) (lf : Wt) (wf : Wf) (n most : Int), vs = [.ref x, .ref lp, .int most] ∧ H x = some (.ins S dx (seaF a la s t)) ∧ SCls K S ∧ RowsM H la Vs ad nb lf ∧ (∀ u ∈ Vs, (nb u).length < 1000) ∧ (∀ u ∈ Vs, ∀ v ∈ nb u, v ∈ Vs ∧ u ∈ nb v) ∧ Vs.length < 1000 ∧ s ≠ t ∧
  H lp = some (.frz ol (.dK (dct fl fun v => .int (lev v)))) ∧ Lvl Vs nb lf s fl lev fl.length ∧ t ∈ fl ∧ 0 < most ∧ Resid Vs wf s t n (vl0 nb lf) ∧ Clean Vs wf (vl0 nb lf) s t ∧
  ∀ m lf' H', 0 < m → m ≤ most → FrR Vs ad H H' → RowsM H' la Vs ad nb lf' → Resid Vs wf s t (n + m) (vl0 nb lf') → Clean Vs wf (vl0 nb lf') s t → Q (.int m) H'
theorem sc_sea_advance : FnScope ["self", "levels", "most", "choices", "v", "u", "moved", "path", "here"] ["self", "levels", "most"] (defScope s_Search_advance) := ⟨rfl, rfl, rfl, by decide +kernel, rfl, by decide +kernel, by decide +kernel⟩
theorem ok_sea_advance {f S0 : Addr} {fd : FuncData} (B : Bi mg) (SC : SCls K S0) (F : FnP K "advance" "Search.advance" s_Search_advance f fd) (MM : MethC P w K mg base CX0 S0 "move" 1 (spMove K)) : FnOk P w K mg base CX0 2 f fd ["self", "levels", "most"] (fun vs H Q E => spAdv K vs H Q E ∧ ∃ x dx fs, vs.head? = some (.ref x) ∧ H x = some (.ins S0 dx fs)) := by
  refine F.ok sc_sea_advance (fun vs H Q E h => ?_) (fun cdv A outer s H vs Q E hr h => ?_)
  · obtain ⟨⟨x, S, dx, a, la, lp, s, t, Vs, fl, lev, ol, ad, nb, lf, wf, n, most, rfl, _⟩, _⟩ := h
    rfl
  have nd := sc_sea_advance.nd
  have hu := hu_of hr
  have hr1 : Room 1 _ := hr
  refine ⟨_, PSs.nox (pss_cons (WkV.ps_setDc (i := 3) (own := [("u", 5)]) (by rfl) nd rfl rfl (WkV.sw_trueD rfl rfl rfl (by decide +kernel)) (pi_keys (pv 1)) (blkOk_by (by kernel_rfl)) (fun _ _ _ _ _ => (pg_name (i := 5) nd rfl (Or.inr rfl))) (fun _ _ _ _ _ => pts_nil) (fun _ _ _ _ _ => (pv 5)) (fun _ _ _ _ _ => (pe_lock (pe_lc (own := [("v", 4)]) (by rfl) nd (pi_keys (pe_dget hu (WkK.peFld K (by rfl) (pv 0) rfl) (pv 5) (fun _ _ => rfl))) (blkOk_by (by kernel_rfl)) (fun _ _ _ _ _ => (pg_name (i := 4) nd rfl (Or.inl rfl))) (fun _ _ _ _ _ => (pts_one (pt_cmpR op_eq (pe_dget1 hu (pv 1) (pv 4) ⟨rfl, rfl, rfl, rfl⟩) (pe_op op_add (pe_dget hu (pv 1) (pv 5) (fun _ _ => rfl)) pe_int) (nomark _)))) (fun _ _ _ _ _ => (pv 4))))))
      (pss_cons (ps_par (i := 6) (j := 7) (by rfl) nd rfl rfl (by decide) rfl rfl (pa_cons pe_int (pa_cons (pe_lst (pa_cons (pe_fld (pv 0) rfl) pa_nil)) pa_nil)) (by rfl))
      (pss_cons (ps_while PassesOwn.never (PW.pt (pw_and (pt_cmpR op_lt (pv 6) (pv 2) (nomark _)) (pw_and1 (pt_cmpR (WkG.op_neNil hr.units) (pv 7) (pe_lst pa_nil) (nomark _)))))
      (pss_cons (ps_set (i := 8) nd rfl (Or.inl rfl) (pe_ix ix_list (pv 7) (pe_un un_neg pe_int) (fun _ _ => rfl)))
      (pss_one (ps_if (pt_cmpR op_eq (pv 8) (pe_fld (pv 0) rfl) (nomark _))
      (pss_cons (ps_aug (i := 6) nd rfl (Or.inl rfl) (WkC.pe_mt MM SC.cls hr1 pass0 (pv 0) (pa_cons (pv 7) (pa_cons (pe_op op_sub (pv 2) (pv 6)) pa_nil))) ip_add)
      (pss_one (ps_set (i := 7) nd rfl (Or.inl rfl) (pe_lst (pa_cons (pe_fld (pv 0) rfl) pa_nil))))) (pss_one (ps_if (pt_cmpR (WkG.op_eqNil hr.units) (pe_dget hu (pv 3) (pv 8) (fun _ _ => rfl)) (pe_lst pa_nil) (nomark _))
      (pss_cons (ps_expr (pe_bm0 PySem.F.plainAttrs_list PySem.F.slot_list_pop PySem.F.type_list_pop mt_pop (pv 7)))
      (pss_one (ps_if (pt_cmpR (WkG.op_neNil hr.units) (pv 7) (pe_lst pa_nil) (nomark _))
      (pss_one (ps_expr (pe_bm0 PySem.F.plainAttrs_list PySem.F.slot_list_pop PySem.F.type_list_pop mt_pop (pe_dget hu (pv 3) (pe_ix ix_list (pv 7) (pe_un un_neg pe_int) (fun _ _ => rfl)) (fun _ _ => rfl))))) pss_nil))) (pss_one (ps_if (pt_cmpR op_gt (pe_dget hu (pe_dget hu (WkK.peFld K (by rfl) (pv 0) rfl) (pv 8) (fun _ _ => rfl)) (pe_ix ix_list (pe_dget hu (pv 3) (pv 8) (fun _ _ => rfl)) (pe_un un_neg pe_int) (fun _ _ => rfl)) (fun _ _ => rfl)) pe_int (nomark _))
      (pss_one (ps_expr (pe_bm PySem.F.plainAttrs_list PySem.F.slot_list_append PySem.F.type_list_append mt_append (pv 7) (pa_cons (pe_ix ix_list (pe_dget hu (pv 3) (pv 8) (fun _ _ => rfl)) (pe_un un_neg pe_int) (fun _ _ => rfl)) pa_nil)))) (pss_one (ps_expr (pe_bm0 PySem.F.plainAttrs_list PySem.F.slot_list_pop PySem.F.type_list_pop mt_pop (pe_dget hu (pv 3) (pv 8) (fun _ _ => rfl)))))))))))))
      (pss_one (ps_ret (pv 6)))))), ?_⟩
  obtain ⟨⟨x, S, dx, a, la, lp, s, t, Vs, fl, lev, ol, ad, nb, lf, wf, n, most, rfl, hx, SC', R, hnl, syn, hVl, st, hlp, L, ht, hm, RS, CL, k⟩, x', dx', fs', ex, hx'⟩ := h
  cases ex
  have eS : S = S0 := by
    rw [hx] at hx'
    cases hx'
    rfl
  subst eS
  have big : 1000 < sizeLine := by decide
  have flV : fl.length ≤ Vs.length := L.nd.length_le_of_subset fun u hu => L.sub u hu
  -- the choices
  refine ⟨_, rfl, lp, ol, rfl, .inl ⟨_, hlp, fun ca nca => ?_⟩⟩
  refine dc_it (walk_keys (kvs := dct fl fun v => .int (lev v))) (fun i H2 => ∃ cad : Str → Addr, H2 ca = some (.dK (dct (fl.take i) fun u => .ref (cad u))) ∧ But ca H H2 ∧ (∀ u ∈ fl.take i, H (cad u) = none ∧ H2 (cad u) = some (.lst ((ch0 nb fl lev u).map V.str))) ∧ ∀ u ∈ fl.take i, ∀ v ∈ fl.take i, cad u = cad v → u = v)
    ⟨ad, upd_same, fun b o hb hne => by rw [upd_ne hne]; exact hb, fun u hu => absurd hu (by simp), fun u hu => absurd hu (by simp)⟩ ?_ ?_ ?_
  · rintro i H2 hi ⟨cad, q1, q2, q3, q4⟩
    exact q2 _ _ hlp (ne_of_none hlp nca)
  · rintro i y H2 H2' hi ⟨cad, q1, q2, q3, q4⟩ ⟨rfl, k0, v0, hk, rfl⟩
    rw [dct_len] at hi
    rw [dct_at, List.getElem?_eq_getElem hi] at hk
    cases hk
    obtain ⟨u, eu⟩ : ∃ u, u = fl[i] := ⟨_, rfl⟩
    have huf : u ∈ fl := eu ▸ List.getElem_mem hi
    have huV := L.sub u huf
    have hnu : u ∉ fl.take i := by rw [eu]; exact take_nin L.nd hi
    have tk := takeS (List.getElem?_eq_getElem hi)
    rw [← eu] at tk ⊢
    refine ⟨rfl, tYes_if ?_⟩
    have nH : ∀ b o, H b = some o → b ≠ ca := fun b o hb => ne_of_none hb nca
    have row2 := q2 _ _ (R.row u huV) (nH _ _ (R.row u huV))
    refine ⟨_, rfl, ad u, _, row2, trivial, fun od => ?_⟩
    have Z3 : upd H2' (ad u) (.frz od (.dK (dct (nb u) fun v => .int (lf u v)))) (ad u) = some (.frz od (.dK (dct (nb u) fun v => .int (lf u v)))) := upd_same
    have k3 : ∀ b o, H2' b = some o → b ≠ ad u → upd H2' (ad u) (.frz od (.dK (dct (nb u) fun v => .int (lf u v)))) b = some o := fun b o hb hne => by
      rw [upd_ne hne]
      exact hb
    have u3 : ∀ b, b ≠ ad u → upd H2' (ad u) (.frz od (.dK (dct (nb u) fun v => .int (lf u v)))) b = H2' b := fun b hne => upd_ne hne
    generalize upd H2' (ad u) (.frz od (.dK (dct (nb u) fun v => .int (lf u v)))) = H3 at Z3 k3 u3
    have nla := R.ne huV
    have nlp : lp ≠ ad u := ne_of hlp (R.row u huV) (by intro z; cases z)
    have nxu : x ≠ ad u := ne_of hx (R.row u huV) (by intro z; cases z)
    have top3 := k3 _ _ (q2 _ _ R.top (nH _ _ R.top)) (Ne.symm nla)
    have lp3 := k3 _ _ (q2 _ _ hlp (nH _ _ hlp)) nlp
    have hx3 := k3 _ _ (q2 _ _ hx (nH _ _ hx)) nxu
    refine ⟨_, rfl, x, S, dx, _, _, rfl, hx3, SC.cls, SC.nl, rfl, _, rfl, la, _, rfl, get_d (.inl top3) huV, ad u, od, rfl, .inl ⟨_, Z3, fun D nD => ?_⟩⟩
    refine lc_it (walk_keys (kvs := dct (nb u) fun v => .int (lf u v))) (fun j H4 => H4 = upd H3 D (.lst ((((nb u).take j).filter fun v => decide (v ∈ fl ∧ lev v = lev u + 1)).map V.str))) rfl ?_ ?_ ?_
    · rintro j H4 hj rfl
      rw [upd_ne (ne_of_none Z3 nD)]
      exact Z3
    · rintro j y H4 H4' hj rfl ⟨rfl, k0, v0, hk, rfl⟩
      rw [dct_len] at hj
      rw [dct_at, List.getElem?_eq_getElem hj] at hk
      cases hk
      obtain ⟨v, ev⟩ : ∃ v, v = (nb u)[j] := ⟨_, rfl⟩
      have tk2 := takeS (List.getElem?_eq_getElem hj)
      rw [← ev] at tk2 ⊢
      have lp4 : ∀ o, upd H3 D o lp = some (.frz ol (.dK (dct fl fun v => .int (lev v)))) := fun o => by
        rw [upd_ne (ne_of_none lp3 nD)]
        exact lp3
      refine ⟨rfl, _, rfl, lp, rfl, ?_, _, rfl, _, get_x (.inr ⟨_, lp4 _⟩), _, rfl, _, rfl, lp, _, rfl, get_d (.inr ⟨_, lp4 _⟩) huf, _, _, rfl, rfl, ?_⟩
      · exact .inl ⟨_, .inr ⟨_, lp4 _⟩⟩
      have eb : ((if v ∈ fl then some (V.int (lev v)) else none).getD .non = V.int (lev u + 1)) ↔ (v ∈ fl ∧ lev v = lev u + 1) := by
        by_cases h : v ∈ fl
        · rw [if_pos h]
          constructor
          · intro e
            exact ⟨h, V.int.inj e⟩
          · intro e
            rw [e.2]
            rfl
        · rw [if_neg h]
          constructor
          · intro e
            cases e
          · intro e
            exact absurd e.1 h
      refine ⟨?_, _, rfl, ?_⟩
      · by_cases h : v ∈ fl
        · rw [if_pos h]
          rfl
        · rw [if_neg h]
          rfl
      have ft : ((nb u).take (j + 1)).filter (fun v => decide (v ∈ fl ∧ lev v = lev u + 1)) = ((nb u).take j).filter (fun v => decide (v ∈ fl ∧ lev v = lev u + 1)) ++ (if v ∈ fl ∧ lev v = lev u + 1 then [v] else []) := by
        rw [tk2, List.filter_append]
        congr 1
        by_cases h : v ∈ fl ∧ lev v = lev u + 1
        · rw [if_pos h]
          simp [h]
        · rw [if_neg h]
          simp [h]
      rw [ft]
      refine ite2 (fun hb => ?_) (fun hb => ?_)
      · have hb := eb.mp (of_decide_eq_true hb)
        rw [if_pos hb]
        refine ⟨_, rfl, _, upd_same, ?_, ?_⟩
        · rw [List.length_map]
          have h1 := List.length_filter_le (fun v => decide (v ∈ fl ∧ lev v = lev u + 1)) ((nb u).take j)
          have h2 := List.length_take_le j (nb u)
          have h3 := hnl u huV
          have h4 := List.length_take_le' j (nb u)
          omega
        · rw [upd_upd, List.map_append]
          rfl
      · have hb : ¬ (v ∈ fl ∧ lev v = lev u + 1) := fun z => hb (decide_eq_true (eb.mpr z))
        rw [if_neg hb, List.append_nil]
    · rintro H4 rfl
      rw [dct_len, List.take_length]
      have nca_u : ca ≠ ad u := Ne.symm (ne_of_none (R.row u huV) nca)
      have nDu : D ≠ ad u := fun z => by
        rw [z, Z3] at nD
        cases nD
      have n2D : H2' D = none := by
        rw [← u3 D nDu]
        exact nD
      have nDc : ca ≠ D := fun z => by
        rw [← z, q1] at n2D
        cases n2D
      have nHD : H D = none := by
        cases e : H D with
        | none => rfl
        | some o =>
          rw [q2 _ _ e (Ne.symm nDc)] at n2D
          cases n2D
      obtain ⟨Lst, eLst⟩ : ∃ Lst, Lst = ch0 nb fl lev u := ⟨_, rfl⟩
      have eL2 : (List.filter (fun v => decide (v ∈ fl ∧ lev v = lev u + 1)) (nb u)) = Lst := by rw [eLst]; rfl
      rw [eL2]
      refine ⟨by rw [upd_ne (Ne.symm nDu)]; exact Z3, ?_⟩
      have s5 : Same H2' (upd (upd H3 D (.lst (Lst.map V.str))) (ad u) (.dK (dct (nb u) fun v => .int (lf u v)))) := fun b o hb => by
        by_cases e : b = ad u
        · rw [e, upd_same, ← hb, e]
          exact row2.symm
        · rw [upd_ne e, upd_ne (ne_of_none hb n2D)]
          exact k3 _ _ hb e
      have D5 : upd (upd H3 D (.lst (Lst.map V.str))) (ad u) (.dK (dct (nb u) fun v => .int (lf u v))) D = some (.lst (Lst.map V.str)) := by
        rw [upd_ne nDu, upd_same]
      generalize upd (upd H3 D (.lst (Lst.map V.str))) (ad u) (.dK (dct (nb u) fun v => .int (lf u v))) = H5 at s5 D5
      have tl : (fl.take i).length ≤ fl.length := List.length_take_le' _ _
      refine ⟨_, Sum.inr u, rfl, s5 _ _ q1, by rw [dct_len]; omega, fun y => if y = u then D else cad y, ?_⟩
      rw [dct_put_new hnu, tk]
      have e1 : dct (fl.take i ++ [u]) (fun y => if y = u then V.ref D else V.ref (cad y)) = dct (fl.take i ++ [u]) fun y => V.ref (if y = u then D else cad y) := dct_congr fun y _ => by split <;> rfl
      rw [e1]
      have mm : ∀ y, y ∈ fl.take i ++ [u] → (y = u ∧ (if y = u then D else cad y) = D) ∨ (y ∈ fl.take i ∧ y ≠ u ∧ (if y = u then D else cad y) = cad y) := fun y hy => by
        by_cases e : y = u
        · exact .inl ⟨e, if_pos e⟩
        · rcases List.mem_append.mp hy with h | h
          · exact .inr ⟨h, e, if_neg e⟩
          · exact absurd (List.mem_singleton.mp h) e
      refine ⟨upd_same, fun b o hb hne => by rw [upd_ne hne]; exact s5 _ _ (q2 _ _ hb hne), fun y hy => ?_, fun y hy z hz e => ?_⟩
      · show H (if y = u then D else cad y) = none ∧ upd H5 ca _ (if y = u then D else cad y) = _
        rcases mm y hy with ⟨h1, h2⟩ | ⟨h1, h2, h3⟩
        · rw [h2, upd_ne (Ne.symm nDc), D5, eLst, h1]
          exact ⟨nHD, rfl⟩
        · obtain ⟨g1, g2⟩ := q3 y h1
          rw [h3, upd_ne (fun z => by rw [z, q1] at g2; cases g2)]
          exact ⟨g1, s5 _ _ g2⟩
      · have e : (if y = u then D else cad y) = (if z = u then D else cad z) := e
        rcases mm y hy with ⟨h1, h2⟩ | ⟨h1, h2, h3⟩
        · rcases mm z hz with ⟨g1, g2⟩ | ⟨g1, g2, g3⟩
          · rw [h1, g1]
          · rw [h2, g3] at e
            have := (q3 z g1).2
            rw [← e, n2D] at this
            cases this
        · rcases mm z hz with ⟨g1, g2⟩ | ⟨g1, g2, g3⟩
          · rw [h3, g2] at e
            have := (q3 y h1).2
            rw [e, n2D] at this
            cases this
          · rw [h3, g3] at e
            exact q4 y h1 z g1 e
  rintro H2 ⟨cad, q1, q2, q3, q4⟩
  rw [dct_len, List.take_length] at q1 q3 q4
  have s2 : Same H H2 := fun b o hb => q2 _ _ hb (ne_of_none hb nca)
  refine ⟨_, rfl, x, S, dx, _, _, rfl, s2 _ _ hx, SC.cls, SC.ns, rfl, by show 1 ≤ sizeLine; decide, fun pl npl => ⟨_, _, rfl, ?_⟩⟩
  have s3 : Same H2 (upd H2 pl (.lst [.str s])) := same_upd npl
  have P3 : upd H2 pl (.lst [.str s]) pl = some (.lst ([s].map V.str)) := upd_same
  generalize upd H2 pl (.lst [.str s]) = H3 at s3 P3
  have npH : H pl = none := np_of s2 npl
  have A0 : AH H la ca Vs ad nb fl cad lf (ch0 nb fl lev) pl [s] H3 := ⟨fun b o hb _ => s3 _ _ (s2 _ _ hb), (R.ext (Ext.of s2)).ext (Ext.of s3), s3 _ _ q1, fun u hu => s3 _ _ (q3 u hu).2, P3, fun u hu => Ne.symm (ne_of_none (q3 u hu).2 npl), npH, q4, fun u hu => (q3 u hu).1⟩
  refine ⟨fun m σ Hc => ∃ (lfc : Wt) (ch : Str → List Str) (pth : List Str) (moved : Int) (pl : Addr) (x8 : Option V), σ = [some (.ref x), some (.ref lp), some (.int most), some (.ref ca), none, none, some (.int moved), some (.ref pl), x8] ∧ AH H la ca Vs ad nb fl cad lfc ch pl pth Hc ∧ Adv nb lfc fl lev s t ch pth moved ∧ Resid Vs wf s t (n + moved) (vl0 nb lfc) ∧ Clean Vs wf (vl0 nb lfc) s t ∧ moved ≤ most ∧ m = meas most fl ch pth moved,
    ⟨_, lf, ch0 nb fl lev, [s], 0, pl, none, rfl, A0, Adv.start L ht, by rw [Int.add_zero]; exact RS, CL, by omega, rfl⟩, ?_⟩
  clear A0 P3 s3 npl npH pl s2 q1 q2 q3 q4 H2 H3
  rintro m σ Hc ⟨lfc, ch, pth, moved, pl, x8, rfl, A, AV, RSc, CLc, mle, rfl⟩
  refine ⟨_, rfl, _, rfl, _, _, rfl, rfl, _, rfl, ?_⟩
  have mv := AV.mv
  refine ite2 (fun hb => ?_) (fun hb => ?_)
  · have hb : moved < most := of_decide_eq_true hb
    refine ⟨_, rfl, by show 0 ≤ sizeLine; decide, fun p4 n4 => ?_⟩
    generalize gg4 : upd _ p4 _ = G4; obtain ⟨s4, L4⟩ := new_eq n4 gg4; clear gg4
    have A4 := A.same s4
    refine ⟨pl, p4, _, rfl, rfl, SqL.of A4.pth, SqL.of L4, _, rfl, ?_⟩
    refine ite2 (fun hb2 => ?_) (fun hb2 => ?_)
    · have pne : pth ≠ [] := fun z => by
        rw [z] at hb2
        cases hb2
      refine ⟨fun σ' Hc => ∃ (lfc' : Wt) (ch' : Str → List Str) (pth' : List Str) (moved' : Int) (pl' : Addr) (x8 : Option V), σ' = [some (.ref x), some (.ref lp), some (.int most), some (.ref ca), none, none, some (.int moved'), some (.ref pl'), x8] ∧ AH H la ca Vs ad nb fl cad lfc' ch' pl' pth' Hc ∧ Adv nb lfc' fl lev s t ch' pth' moved' ∧ Resid Vs wf s t (n + moved') (vl0 nb lfc') ∧ Clean Vs wf (vl0 nb lfc') s t ∧ moved' ≤ most ∧ meas most fl ch' pth' moved' < meas most fl ch pth moved, ?_, ?_⟩
      · rintro σ' H' ⟨lfc', ch', pth', moved', pl', y8, g1, g2, g3, g4, g5, g6, g7⟩
        exact ⟨_, g7, lfc', ch', pth', moved', pl', y8, g1, g2, g3, g4, g5, g6, rfl⟩
      obtain ⟨p, y, rfl⟩ : ∃ p y, pth = p ++ [y] := ⟨pth.dropLast, pth.getLast pne, (List.dropLast_concat_getLast pne).symm⟩
      have hyf : y ∈ fl := AV.pin y (by simp)
      have hyV := L.sub y hyf
      have hx4 := A4.fr _ _ hx fun u hu => ne_of hx (R.row u hu) (by intro z; cases z)
      have atl : atI ((p ++ [y]).map V.str) (-1) = some (.str y) := by
        rw [List.map_append]
        exact atI_last _ _
      refine ⟨_, rfl, _, rfl, pl, _, _, .str y, rfl, rfl, SqL.of A4.pth, atl, ?_⟩
      refine ⟨_, rfl, _, rfl, x, S, dx, _, _, rfl, hx4, SC.cls, SC.nt, rfl, rfl, _, rfl, ?_⟩
      refine ite2 (fun hb3 => ?_) (fun hb3 => ?_)
      · -- at the target
        have ey : y = t := by simpa using of_decide_eq_true hb3
        subst ey
        refine ⟨_, rfl, _, rfl, x, dx, _, rfl, hx4, rfl, _, rfl, _, rfl, _, rfl, _, _, rfl, rfl, ?_⟩
        have hcaU : ∀ u ∈ Vs, ca ≠ ad u := fun u hu => Ne.symm (ne_of_none (R.row u hu) nca)
        refine ⟨x, S, dx, a, la, pl, s, y, Vs, p ++ [y], ad, nb, lfc, most - moved, rfl, hx4, SC, A4.rows, hnl, A4.pth, AV.nd, by have := AV.len; omega, by omega, fun e he => ?_, fun m H5 m0 m1 m2 fr5 R5 => ?_⟩
        · obtain ⟨e1, e2, e3, e4⟩ := AV.arcs he
          exact ⟨L.sub _ e1, L.sub _ e2, e3, (syn _ (L.sub _ e1) _ e3).2, e4⟩
        refine ⟨_, _, rfl, rfl, ?_⟩
        have plR : ∀ u ∈ Vs, pl ≠ ad u := fun u hu => ne_of A4.pth (A4.rows.row u hu) (by intro z; cases z)
        have A5 : AH H la ca Vs ad nb fl cad (pushA lfc m (arcs (p ++ [y]))) ch pl (p ++ [y]) H5 := ⟨fun b o hb hn => fr5 _ _ (A4.fr b o hb hn) hn, R5, fr5 _ _ A4.top hcaU, fun u hu => fr5 _ _ (A4.lst u hu) fun v hv => ne_of (A4.lst u hu) (A4.rows.row v hv) (by intro z; cases z), fr5 _ _ A4.pth plR, A4.npl, A4.pn, A4.inj, A4.cn⟩
        have hx5 := A5.fr _ _ hx fun u hu => ne_of hx (R.row u hu) (by intro z; cases z)
        refine ⟨_, rfl, x, S, dx, _, _, rfl, hx5, SC.cls, SC.ns, rfl, by show 1 ≤ sizeLine; decide, fun p6 n6 => ?_⟩
        generalize gg6 : upd _ p6 _ = G6; obtain ⟨s6, L6⟩ := new_eq n6 gg6; clear gg6
        have L6 : G6 p6 = some (.lst ([s].map V.str)) := L6
        have n6H : H p6 = none := by
          cases q : H p6 with
          | none => rfl
          | some o =>
            by_cases hu : ∃ u ∈ Vs, p6 = ad u
            · obtain ⟨u, hu, e⟩ := hu
              rw [e, R5.row u hu] at n6
              cases n6
            · rw [A5.fr _ _ q fun u hu' e => hu ⟨u, hu', e⟩] at n6
              cases n6
        have pu := RSc.push (RSc_nd R) st (l := p ++ [y]) (a := m) (by omega) (AV.hd (by simp)) (by simp) AV.nd (fun z hz => L.sub _ (AV.pin z hz)) fun e he => by
          have h1 := (AV.arcs he).2.2.1
          have h2 := m2 e he
          unfold vl0
          rw [if_pos h1]
          exact h2
        have cu := Clean.push (a := m) (by omega) (arcs (p ++ [y])) (vl0 nb lfc) CLc fun e he => adv_ends AV L.l0 he
        rw [← vl0_push (lf := lfc) (arcs (p ++ [y])) fun e he => ⟨(AV.arcs he).2.2.1, (syn _ (L.sub _ (AV.arcs he).1) _ (AV.arcs he).2.2.1).2⟩] at pu cu
        refine ⟨_, ch, [s], moved + m, p6, _, rfl, A5.newp s6 n6 L6 n6H, AV.move L.st L.l0 m0 _, by rw [← Int.add_assoc]; exact pu, cu, by omega, meas_lt1 (by omega)⟩
      · have hyt : y ≠ t := fun z => hb3 (by rw [z]; exact decide_eq_true rfl)
        refine ⟨_, rfl, _, rfl, ca, _, rfl, get_d (.inl A4.top) hyf, by show 0 ≤ sizeLine; decide, fun p5 n5 => ?_⟩
        generalize gg5 : upd _ p5 _ = G5; obtain ⟨s5, L5⟩ := new_eq n5 gg5; clear gg5
        have A5 := A4.same s5
        refine ⟨cad y, p5, _, rfl, rfl, SqL.of (A5.lst y hyf), SqL.of L5, _, rfl, ?_⟩
        refine ite2 (fun hb4 => ?_) (fun hb4 => ?_)
        · -- no choice left
          have ce : ch y = [] := by
            cases q : ch y with
            | nil => rfl
            | cons v r =>
              rw [q] at hb4
              cases hb4
          refine ⟨_, rfl, .inl ⟨rfl, _, SqL.of A5.pth⟩, pl, _, .str y, rfl, rfl, A5.pth, by simp, ?_⟩
          have dl : (List.map V.str (p ++ [y])).dropLast = p.map V.str := by simp
          rw [dl]
          have A6 := A5.setp p
          generalize upd G5 pl (.lst (p.map V.str)) = H6 at A6 ⊢
          refine ⟨_, rfl, by show 0 ≤ sizeLine; decide, fun p7 n7 => ?_⟩
          generalize gg7 : upd _ p7 _ = G7; obtain ⟨s7, L7⟩ := new_eq n7 gg7; clear gg7
          have A7 := A6.same s7
          refine ⟨pl, p7, _, rfl, rfl, SqL.of A7.pth, SqL.of L7, _, rfl, ?_⟩
          refine ite2 (fun hb5 => ?_) (fun hb5 => ?_)
          · have pne2 : p ≠ [] := fun z => by
              rw [z] at hb5
              cases hb5
            obtain ⟨p', z, rfl⟩ : ∃ p' z, p = p' ++ [z] := ⟨p.dropLast, p.getLast pne2, (List.dropLast_concat_getLast pne2).symm⟩
            have hzf : z ∈ fl := AV.pin z (by simp)
            obtain ⟨c, ec, AV2⟩ := AV.back ce hyt
            have atz : atI ((p' ++ [z]).map V.str) (-1) = some (.str z) := by
              rw [List.map_append]
              exact atI_last _ _
            have lz := A7.lst z hzf
            rw [ec] at lz
            refine ⟨_, rfl, _, rfl, _, rfl, pl, _, _, .str z, rfl, rfl, SqL.of A7.pth, atz, ca, _, rfl, get_d (.inl A7.top) hzf, .inl ⟨rfl, _, SqL.of lz⟩, cad z, _, .str y, rfl, rfl, lz, by simp, ?_⟩
            have dl2 : (List.map V.str (c ++ [y])).dropLast = c.map V.str := by simp
            rw [dl2]
            have td := tot_drop ec L.nd hzf
            exact ⟨lfc, _, _, moved, pl, _, rfl, A7.setc hzf c, AV2, RSc, CLc, mle, meas_lt1 (by omega)⟩
          · have pe : p = [] := by
              cases p with
              | nil => rfl
              | cons y r => exact absurd rfl hb5
            subst pe
            refine ⟨lfc, ch, [], moved, pl, _, rfl, A7, AV.back0 ce hyt, RSc, CLc, mle, ?_⟩
            unfold meas
            have h1 : 0 < fl.length := List.length_pos_iff.mpr fun z => by rw [z] at hyf; exact nomatch hyf
            simp
            omega
        · have cne : ch y ≠ [] := fun z => by
            rw [z] at hb4
            exact absurd rfl hb4
          obtain ⟨c, v, ec⟩ : ∃ c v, ch y = c ++ [v] := ⟨(ch y).dropLast, (ch y).getLast cne, (List.dropLast_concat_getLast cne).symm⟩
          obtain ⟨hvn, hvf, _⟩ := AV.chs y hyf v (by rw [ec]; simp)
          have ly := A5.lst y hyf
          rw [ec] at ly
          have aty : atI ((c ++ [v]).map V.str) (-1) = some (.str v) := by
            rw [List.map_append]
            exact atI_last _ _
          have hx5 := A5.fr _ _ hx fun u hu => ne_of hx (R.row u hu) (by intro z; cases z)
          refine ⟨_, rfl, x, S, dx, _, _, rfl, hx5, SC.cls, SC.nl, rfl, _, rfl, la, _, rfl, get_d (.inl A5.rows.top) hyV, _, rfl, _, rfl, ca, _, rfl, get_d (.inl A5.top) hyf, _, rfl, cad y, _, _, .str v, rfl, rfl, SqL.of ly, aty, ad y, _, rfl, get_d (.inl (A5.rows.row y hyV)) hvn, _, _, rfl, rfl, _, rfl, ?_⟩
          refine ite2 (fun hb5 => ?_) (fun hb5 => ?_)
          · have hb5 : 0 < lfc y v := of_decide_eq_true hb5
            have AV2 := AV.push ec hb5 hyt
            have ln := AV2.len
            refine ⟨_, rfl, .inl ⟨rfl, _, SqL.of A5.pth⟩, _, rfl, _, rfl, ca, _, rfl, get_d (.inl A5.top) hyf, _, rfl, cad y, _, _, .str v, rfl, rfl, SqL.of ly, aty, pl, _, _, rfl, rfl, A5.pth, by rw [List.length_map]; have := AV.len; omega, ?_⟩
            have A6 := A5.setp ((p ++ [y]) ++ [v])
            rw [List.map_append (l₁ := p ++ [y])] at A6
            refine ⟨lfc, ch, _, moved, pl, _, rfl, A6, AV2, RSc, CLc, mle, ?_⟩
            unfold meas
            rw [if_neg (by simp), if_neg (by simp)]
            rw [List.length_append, List.length_append, List.length_singleton, List.length_singleton] at ln
            rw [List.length_append, List.length_append, List.length_singleton, List.length_singleton]
            omega
          · have hb5 : ¬ 0 < lfc y v := fun z => hb5 (decide_eq_true z)
            refine ⟨_, rfl, _, rfl, ca, _, rfl, get_d (.inl A5.top) hyf, .inl ⟨rfl, _, SqL.of ly⟩, cad y, _, .str v, rfl, rfl, ly, by simp, ?_⟩
            have dl2 : (List.map V.str (c ++ [v])).dropLast = c.map V.str := by simp
            rw [dl2]
            have td := tot_drop ec L.nd hyf
            exact ⟨lfc, _, _, moved, pl, _, rfl, A5.setc hyf c, AV.drop ec hb5, RSc, CLc, mle, meas_lt1 (by omega)⟩
    · have pe : pth = [] := by
        cases pth with
        | nil => rfl
        | cons y r => exact absurd rfl hb2
      exact ⟨_, rfl, k moved lfc _ (AV.em pe) mle A4.fr A4.rows RSc CLc⟩
  · have hb : ¬ moved < most := fun z => hb (decide_eq_true z)
    exact ⟨_, rfl, k moved lfc Hc (by omega) mle A.fr A.rows RSc CLc⟩
end
end Wk
namespace Wk
open PySem PySem.Spec PyProof.Rows L2 WkD WkN LamX WkP WkE WkC
section
variable {P : Program} {w : World} {K : PySem.W.Frag} {mg : Str → Option Value} {base : Heap}
def spRun (K : PySem.W.Frag) (S : Addr) : Sp := fun vs H Q _ => ∃ (x dx a la : Addr) (s t : Str) (Vs : List Str) (ad0 ad : Str → Addr) (nb : Nb) (wt : Wt) (lv : V), vs = [.ref x, lv] ∧ H x = some (.ins S dx (seaF a la s t)) ∧ RowsZ H a Vs ad0 nb wt ∧ RowsM H la Vs ad nb wt ∧ Sym Vs nb wt ∧ (∀ u ∈ Vs, ∀ v ∈ nb u, 0 ≤ wt u v) ∧ (∀ u ∈ Vs, (nb u).length < 1000) ∧ Vs.length < 1000 ∧ s ∈ Vs ∧ s ≠ t ∧ (lv = .non ∨ ∃ L, lv = .int L ∧ 0 ≤ L) ∧
  ∀ n lf' fl lev H', FrR Vs ad H H' → RowsM H' la Vs ad nb lf' → Resid Vs (vl0 nb wt) s t n (vl0 nb lf') → Clean Vs (vl0 nb wt) (vl0 nb lf') s t → Lvl Vs nb lf' s fl lev fl.length → (∀ L, lv = .int L → n ≤ L) → ((∃ L, lv = .int L ∧ n = L) ∨ t ∉ fl) → Q (.int n) H'
theorem sc_sea_run : FnScope ["self", "limit", "most", "moved", "levels"] ["self", "limit"] (defScope s_Search_run) := ⟨rfl, rfl, rfl, by decide +kernel, rfl, by decide +kernel, by decide +kernel⟩
theorem ok_sea_run {f S : Addr} {fd : FuncData} {dvs : List V} (B : Bi mg) (SC : SCls K S) (F : FunD K "run" "Search.run" (defArgs s_Search_run) (defBody s_Search_run) (defScope s_Search_run) dvs [] f fd) (ML : MethC P w K mg base CX0 S "levels" 1 (spLev K))
    (MA : MethC P w K mg base CX0 S "advance" 2 (fun vs H Q E => spAdv K vs H Q E ∧ ∃ x dx fs, vs.head? = some (.ref x) ∧ H x = some (.ins S dx fs))) : FnOk P w K mg base CX0 3 f fd ["self", "limit"] (spRun K S) := by
  refine F.ok sc_sea_run (fun vs H Q E h => ?_) (fun cdv A outer s H vs Q E hr h => ?_)
  · obtain ⟨x, dx, a, la, s, t, Vs, ad0, ad, nb, wt, lv, rfl, _⟩ := h
    rfl
  have nd := sc_sea_run.nd
  have hu := hu_of hr
  have hr2 : Room 2 _ := hr
  have hr1 : Room 1 _ := hr.mono (by decide)
  refine ⟨_, PSs.nox (pss_cons (ps_par (i := 2) (j := 3) (by rfl) nd rfl rfl (by decide) rfl rfl (pa_cons (pe_callB (cr_sum rfl) (by rfl) B.n_sum (by decide +kernel) (pa_cons (WkV.pe_listVals rfl (by rfl) B.n_list (pe_dget hu (pe_fld (pv 0) rfl) (pe_fld (pv 0) rfl) (fun _ _ => rfl))) pa_nil)) (pa_cons pe_int pa_nil)) (by rfl))
      (C8.pss_cut (ps_if (PW.pt (pw_and (pt_cmpR op_notN (pv 1) pe_non (nomark _)) (pw_and1 (pt_cmpR op_lt (pv 1) (pv 2) (nomark _)))))
      (pss_one (ps_set (i := 2) nd rfl (Or.inl rfl) (pv 1))) pss_nil)
      (pss_cons (ps_set (i := 4) nd rfl (Or.inl rfl) (WkV.pe_mt0 ML SC.cls hr1 pass0 (pv 0)))
      (pss_cons (ps_while PassesOwn.never (PW.pt (pw_and (pt_cmpR op_lt (pv 3) (pv 2) (nomark _)) (pw_and1 (pt_cmp (pc_din hu (pe_fld (pv 0) rfl) (pv 4))))))
      (pss_cons (ps_aug (i := 3) nd rfl (Or.inl rfl) (WkC.pe_mt MA SC.cls hr2 pass0 (pv 0) (pa_cons (pv 4) (pa_cons (pe_op op_sub (pv 2) (pv 3)) pa_nil))) ip_add)
      (pss_one (ps_set (i := 4) nd rfl (Or.inl rfl) (WkV.pe_mt0 ML SC.cls hr1 pass0 (pv 0))))))
      (pss_one (ps_ret (pv 3))))))), ?_⟩
  obtain ⟨x, dx, a, la, s, t, Vs, ad0, ad, nb, wt, lv, rfl, hx, RZ, R, sy, wnn, hnl, hVl, hs, st, hlv, k⟩ := h
  have big : 1000 < sizeLine := by decide
  obtain ⟨M, eM⟩ : ∃ M, M = ((nb s).map fun v => wt s v).sum := ⟨_, rfl⟩
  refine ⟨_, rfl, x, S, dx, _, _, rfl, hx, SC.cls, SC.na, rfl, _, rfl, x, S, dx, _, _, rfl, hx, SC.cls, SC.ns, rfl, a, _, rfl, get_d RZ.r.top hs, ad0 s, _, rfl, RZ.r.row s hs, fun p1 n1 => ?_⟩
  generalize gg1 : upd _ p1 _ = G1; obtain ⟨s1, L1⟩ := new_eq n1 gg1; clear gg1
  have L1 : G1 p1 = some (.lst (((nb s).map fun v => wt s v).map V.int)) := by
    rw [L1]
    unfold dct
    rw [List.map_map, List.map_map]
    rfl
  refine ⟨p1, _, rfl, SqL.of L1, _, _, rfl, ?_⟩
  rw [← eM]
  have Mnn : 0 ≤ M := by
    rw [eM]
    have : ((nb s).map fun v => wt s v).sum = sm (nb s) fun v => wt s v := rfl
    rw [this]
    exact sm_nonneg fun v hv => wnn s hs v hv
  have s1H : Same H G1 := s1
  refine ⟨fun σ' H' => ∃ M', σ' = [some (.ref x), some lv, some (.int M'), some (.int 0), none] ∧ H' = G1 ∧ 0 ≤ M' ∧ M' ≤ M ∧ (∀ L, lv = .int L → M' ≤ L) ∧ ((∃ L, lv = .int L ∧ M' = L) ∨ M' = M), ?_, ?_⟩
  · rcases hlv with rfl | ⟨Lm, rfl, hL⟩
    · refine ⟨_, rfl, rfl, _, rfl, ?_⟩
      refine ite2 (fun hb => ?_) (fun hb => ?_)
      · cases hb
      · exact ⟨M, rfl, rfl, Mnn, Int.le_refl _, fun L z => (by cases z), .inr rfl⟩
    · refine ⟨_, rfl, rfl, _, rfl, ?_⟩
      refine ite2 (fun hb => ?_) (fun hb => ?_)
      · refine ⟨_, rfl, _, rfl, _, _, rfl, rfl, _, rfl, ?_⟩
        refine ite2 (fun hb => ?_) (fun hb => ?_)
        · have hb : Lm < M := of_decide_eq_true hb
          exact ⟨_, rfl, Lm, rfl, rfl, hL, by omega, fun L z => (by cases z; exact Int.le_refl _), .inl ⟨_, rfl, rfl⟩⟩
        · have hb : ¬ Lm < M := fun z => hb (decide_eq_true z)
          exact ⟨M, rfl, rfl, Mnn, Int.le_refl _, fun L z => (by cases z; omega), .inr rfl⟩
      · exact absurd rfl hb
  rintro σ' H' ⟨M', rfl, rfl, m0, m1, m2, m3⟩
  have eMs : M = sm Vs fun v => vl0 nb wt s v := by
    have h := row_sum R.nd sy hs fun _ => true
    rw [List.filter_eq_self.mpr fun _ _ => rfl] at h
    simp only [if_true] at h
    rw [eM]
    exact h
  have syn : ∀ u ∈ Vs, ∀ v ∈ nb u, v ∈ Vs ∧ u ∈ nb v := fun u hu v hv => ⟨(sy.mem u hu v hv).1, (sy.mem u hu v hv).2.2.1⟩
  have R1 := R.ext (Ext.of s1)
  have hxU : ∀ u ∈ Vs, x ≠ ad u := fun u hu => ne_of hx (R.row u hu) (by intro z; cases z)
  have vnn : ∀ u ∈ Vs, ∀ v ∈ Vs, 0 ≤ vl0 nb wt u v := fun u hu v hv => by
    unfold vl0
    split
    · exact wnn u hu v ‹_›
    · exact Int.le_refl _
  refine ⟨_, rfl, x, dx, _, rfl, s1 _ _ hx, rfl, x, S, dx, a, la, s, t, Vs, ad, nb, wt, rfl, s1 _ _ hx, SC, R1, hs, fun u hu v hv => (syn u hu v hv).1, hVl, fun lp ol fl lev H2 s2 nlp hlp Lv => ?_⟩
  refine ⟨fun m σ Hc => ∃ (lf : Wt) (moved : Int) (lp : Addr) (ol : Obj) (fl : List Str) (lev : Str → Int), σ = [some (.ref x), some lv, some (.int M'), some (.int moved), some (.ref lp)] ∧ FrR Vs ad H Hc ∧ RowsM Hc la Vs ad nb lf ∧ Resid Vs (vl0 nb wt) s t moved (vl0 nb lf) ∧ Clean Vs (vl0 nb wt) (vl0 nb lf) s t ∧ Hc lp = some (.frz ol (.dK (dct fl fun v => .int (lev v)))) ∧ Lvl Vs nb lf s fl lev fl.length ∧ moved ≤ M' ∧ m = (M' - moved).toNat,
    ⟨_, wt, 0, lp, ol, fl, lev, rfl, fun b o hb _ => s2 _ _ (s1 _ _ hb), R1.ext (Ext.of s2), Resid.start vnn, Clean.start _ _ _ _, hlp, Lv, m0, rfl⟩, ?_⟩
  clear Lv hlp nlp s2 lev fl ol lp H2
  rintro m σ Hc ⟨lf, moved, lp, ol, fl, lev, rfl, fr, Rc, RS, CL, hlp, Lv, mle, rfl⟩
  have hxc := fr _ _ hx hxU
  have fin : (moved < M' → t ∉ fl) → Q (.int moved) Hc := fun hq => by
    refine k moved lf fl lev Hc fr Rc RS CL Lv (fun L e => by have := m2 L e; omega) ?_
    by_cases h1 : moved < M'
    · exact .inr (hq h1)
    · have e1 : moved = M' := by omega
      rcases m3 with ⟨L, e, q⟩ | q
      · exact .inl ⟨L, e, by omega⟩
      · exact .inr (RS.full (fun v hv => (syn s hs v hv).1) hs st (by rw [← eMs]; omega) Lv)
  refine ⟨_, rfl, _, rfl, _, _, rfl, rfl, _, rfl, ?_⟩
  refine ite2 (fun hb => ?_) (fun hb => ?_)
  · have hb : moved < M' := of_decide_eq_true hb
    refine ⟨_, rfl, x, S, dx, _, _, rfl, hxc, SC.cls, SC.nt, rfl, _, rfl, lp, _, rfl, get_x (.inr ⟨_, hlp⟩), _, rfl, ?_⟩
    have eo : (if t ∈ fl then some (V.int (lev t)) else none).isSome = decide (t ∈ fl) := by
      by_cases h : t ∈ fl
      · rw [if_pos h, decide_eq_true h]
        rfl
      · rw [if_neg h, decide_eq_false h]
        rfl
    rw [eo]
    refine ite2 (fun hb2 => ?_) (fun hb2 => ?_)
    · have ht : t ∈ fl := of_decide_eq_true hb2
      refine ⟨fun σ' Hc => ∃ (lf : Wt) (moved' : Int) (lp : Addr) (ol : Obj) (fl : List Str) (lev : Str → Int), σ' = [some (.ref x), some lv, some (.int M'), some (.int moved'), some (.ref lp)] ∧ FrR Vs ad H Hc ∧ RowsM Hc la Vs ad nb lf ∧ Resid Vs (vl0 nb wt) s t moved' (vl0 nb lf) ∧ Clean Vs (vl0 nb wt) (vl0 nb lf) s t ∧ Hc lp = some (.frz ol (.dK (dct fl fun v => .int (lev v)))) ∧ Lvl Vs nb lf s fl lev fl.length ∧ moved' ≤ M' ∧ moved < moved', ?_, ?_⟩
      · rintro σ' H' ⟨g1, g2, g3, g4, g5, g6, g7, g8, g9, g10, g11, g12, g13, g14, g15⟩
        exact ⟨(M' - g2).toNat, by omega, g1, g2, g3, g4, g5, g6, g7, g8, g9, g10, g11, g12, g13, g14, rfl⟩
      refine ⟨_, rfl, _, rfl, x, dx, _, rfl, hxc, rfl, _, rfl, _, rfl, _, rfl, _, _, rfl, rfl, ?_⟩
      refine ⟨⟨x, S, dx, a, la, lp, s, t, Vs, fl, lev, ol, ad, nb, lf, vl0 nb wt, moved, M' - moved, rfl, hxc, SC, Rc, hnl, syn, hVl, st, hlp, Lv, ht, by omega, RS, CL, fun m lf' H3 p0 p1 fr3 R3 RS3 CL3 => ?_⟩, x, dx, _, rfl, hxc⟩
      refine ⟨_, _, rfl, rfl, ?_⟩
      have fr3' : FrR Vs ad H H3 := fun b o hb hn => fr3 _ _ (fr _ _ hb hn) hn
      have hx3 := fr3' _ _ hx hxU
      refine ⟨_, rfl, x, dx, _, rfl, hx3, rfl, x, S, dx, a, la, s, t, Vs, ad, nb, lf', rfl, hx3, SC, R3, hs, fun u hu v hv => (syn u hu v hv).1, hVl, fun lp2 ol2 fl2 lev2 H4 s4 nlp2 hlp2 Lv2 => ?_⟩
      exact ⟨lf', moved + m, lp2, ol2, fl2, lev2, rfl, fun b o hb hn => s4 _ _ (fr3' b o hb hn), R3.ext (Ext.of s4), RS3, CL3, hlp2, Lv2, by omega, by omega⟩
    · have ht : t ∉ fl := fun z => hb2 (decide_eq_true z)
      exact ⟨_, rfl, fin fun _ => ht⟩
  · have hb : ¬ moved < M' := fun z => hb (decide_eq_true z)
    exact ⟨_, rfl, fin fun z => absurd z hb⟩
end
end Wk
namespace Wk
open PySem PySem.Spec PyProof.Rows L2 WkD WkN LamX WkP WkE WkC
/-- the amounts that a search has moved -/
def flowR (wt lf : Wt) (u : Str) (l : List Str) : EdD := (l.filter fun v => decide (lf u v < wt u v)).map fun v => ((u, v), wt u v - lf u v)
def flowL (nb : Nb) (wt lf : Wt) (l : List Str) : EdD := l.flatMap fun u => flowR wt lf u (nb u)
theorem flowR_mem {wt lf : Wt} {u : Str} {l : List Str} {e : Pr × Int} : e ∈ flowR wt lf u l ↔ ∃ v ∈ l, lf u v < wt u v ∧ e = ((u, v), wt u v - lf u v) := by
  unfold flowR
  rw [List.mem_map]
  constructor
  · rintro ⟨v, hv, rfl⟩
    have := List.mem_filter.mp hv
    exact ⟨v, this.1, of_decide_eq_true this.2, rfl⟩
  · rintro ⟨v, hv, h, rfl⟩
    exact ⟨v, List.mem_filter.mpr ⟨hv, decide_eq_true h⟩, rfl⟩
theorem flowL_mem {nb : Nb} {wt lf : Wt} {l : List Str} {e : Pr × Int} : e ∈ flowL nb wt lf l ↔ ∃ u ∈ l, ∃ v ∈ nb u, lf u v < wt u v ∧ e = ((u, v), wt u v - lf u v) := by
  unfold flowL
  rw [List.mem_flatMap]
  constructor
  · rintro ⟨u, hu, h⟩
    exact ⟨u, hu, flowR_mem.mp h⟩
  · rintro ⟨u, hu, h⟩
    exact ⟨u, hu, flowR_mem.mpr h⟩
theorem flowR_len (wt lf : Wt) (u : Str) (l : List Str) : (flowR wt lf u l).length ≤ l.length := by
  unfold flowR
  rw [List.length_map]
  exact List.length_filter_le _ _
theorem putE_new {es : EdD} {p : Pr} {n : Int} (h : p ∉ es.map (·.1)) : putE es p n = es ++ [(p, n)] := by
  unfold putE
  rw [if_neg]
  intro q
  obtain ⟨e, he, h2⟩ := List.any_eq_true.mp q
  exact h (List.mem_map.mpr ⟨e, he, of_decide_eq_true h2⟩)
section
variable {P : Program} {w : World} {K : PySem.W.Frag} {mg : Str → Option Value} {base : Heap}
def spArcs (K : PySem.W.Frag) : Sp := fun vs H Q _ => ∃ (x S dx a la : Addr) (s t : Str) (Vs : List Str) (ad0 ad : Str → Addr) (nb : Nb) (wt lf : Wt), vs = [.ref x] ∧ H x = some (.ins S dx (seaF a la s t)) ∧ SCls K S ∧ RowsZ H a Vs ad0 nb wt ∧ RowsM H la Vs ad nb lf ∧ (∀ u ∈ Vs, (nb u).Nodup ∧ (nb u).length < 1000) ∧ Vs.length < 1000 ∧
  ∀ p H', Same H H' → H p = none → H' p = some (.dT (dtE (flowL nb wt lf Vs))) → Q (.ref p) H'
theorem sc_sea_arcs : FnScope ["self", "found", "u", "row", "v", "weight"] ["self"] (defScope s_Search_arcs) := ⟨rfl, rfl, rfl, by decide +kernel, rfl, by decide +kernel, by decide +kernel⟩
theorem ok_sea_arcs {f : Addr} {fd : FuncData} (F : FnP K "arcs" "Search.arcs" s_Search_arcs f fd) : FnOk P w K mg base CX0 1 f fd ["self"] (spArcs K) := by
  refine F.ok sc_sea_arcs (fun vs H Q E h => ?_) (fun cdv A outer s H vs Q E hr h => ?_)
  · obtain ⟨x, S, dx, a, la, s, t, Vs, ad0, ad, nb, wt, lf, rfl, _⟩ := h
    rfl
  have nd := sc_sea_arcs.nd
  have hu := hu_of hr
  refine ⟨_, PSs.nox (pss_cons (ps_set (i := 1) nd rfl (Or.inl rfl) pe_dnewT)
      (pss_cons (ps_for PassesOwn.never rfl (pi_items (pe_fld (pv 0) rfl)) (WkN.pgT K 2 rfl rfl (pgs_cons (pg_name (i := 2) nd rfl (Or.inl rfl)) (pgs_cons (pg_name (i := 3) nd rfl (Or.inl rfl)) pgs_nil)) rfl)
      (pss_one (ps_for PassesOwn.never rfl (pi_items (pv 3)) (WkN.pgT K 2 rfl rfl (pgs_cons (pg_name (i := 4) nd rfl (Or.inl rfl)) (pgs_cons (pg_name (i := 5) nd rfl (Or.inl rfl)) pgs_nil)) rfl)
      (pss_one (ps_if (pt_cmpR op_lt (pe_dget hu (pe_dget hu (pe_fld (pv 0) rfl) (pv 2) (fun _ _ => rfl)) (pv 4) (fun _ _ => rfl)) (pv 5) (nomark _))
      (pss_one (ps_dput hu (pv 1) (pe_tup (pa_cons (pv 2) (pa_cons (pv 4) pa_nil))) (pe_op op_sub (pv 5) (pe_dget hu (pe_dget hu (pe_fld (pv 0) rfl) (pv 2) (fun _ _ => rfl)) (pv 4) (fun _ _ => rfl))) rfl)) pss_nil)))))
      (pss_one (ps_ret (pv 1))))), ?_⟩
  obtain ⟨x, S, dx, a, la, s, t, Vs, ad0, ad, nb, wt, lf, rfl, hx, SC, RZ, R, hnb, hl, k⟩ := h
  have big : 2000000 < sizeLine := by decide
  obtain ⟨oa, hA⟩ := RZ.top
  refine fun fo nfo => ?_
  generalize gg0 : upd H fo _ = G0
  obtain ⟨s0, L0⟩ := new_eq nfo gg0
  clear gg0
  have L0 : G0 fo = some (.dT (dtE (flowL nb wt lf (Vs.take 0)))) := L0
  refine ⟨_, rfl, x, S, dx, _, _, rfl, s0 _ _ hx, SC.cls, SC.na, rfl, a, oa, _, rfl, s0 _ _ hA, ?_⟩
  have keep : ∀ {Hc : Hp}, But fo G0 Hc → Same H Hc := fun b c o hc => b _ _ (s0 _ _ hc) (ne_of_none hc nfo)
  have len : ∀ i, (flowL nb wt lf (Vs.take i)).length ≤ 1000 * i := fun i => by
    unfold flowL
    rw [List.length_flatMap]
    have : ∀ l : List Str, (∀ u ∈ l, u ∈ Vs) → (l.map fun u => (flowR wt lf u (nb u)).length).sum ≤ 1000 * l.length := fun l => by
      induction l with
      | nil => intro _; exact Nat.le_refl _
      | cons u l ih =>
        intro h
        rw [List.map_cons, List.sum_cons, List.length_cons]
        have h1 := ih fun v hv => h v (List.mem_cons_of_mem _ hv)
        have h2 := flowR_len wt lf u (nb u)
        have h3 := (hnb u (h u List.mem_cons_self)).2
        omega
    refine Nat.le_trans (this _ fun u hu => List.mem_of_mem_take hu) ?_
    have := List.length_take_le i Vs
    omega
  refine for_it (walk_items (kvs := dct Vs fun u => .ref (ad0 u))) (fun i σ Hc => ∃ (x2 x3 x4 x5 : Option V), σ = [some (.ref x), some (.ref fo), x2, x3, x4, x5] ∧ But fo G0 Hc ∧ Hc fo = some (.dT (dtE (flowL nb wt lf (Vs.take i)))))
    ⟨_, _, _, _, rfl, But.refl _ _, L0⟩ ?_ ?_ ?_
  · rintro i σ Hc hi ⟨x2, x3, x4, x5, rfl, b, _⟩
    exact keep b _ _ hA
  · rintro i y σ Hc Hc' hi ⟨x2, x3, x4, x5, rfl, b, c2⟩ ⟨T, kx, vx, rfl, nT, rfl, hkx, hvx⟩
    rw [dct_len] at hi
    dsimp only at hkx hvx
    rw [dct_at, List.getElem?_eq_getElem hi] at hkx hvx
    cases hkx
    cases hvx
    obtain ⟨u, eu⟩ : ∃ u, u = Vs[i] := ⟨_, rfl⟩
    have huV : u ∈ Vs := eu ▸ List.getElem_mem hi
    have hnu : u ∉ Vs.take i := by rw [eu]; exact take_nin R.nd hi
    have tk := takeS (List.getElem?_eq_getElem hi)
    rw [← eu] at tk ⊢
    obtain ⟨ou, hU⟩ := RZ.row u huV
    show gTup _ _ _ _ _ (upd Hc T (.tup [.str u, .ref (ad0 u)])) _
    generalize gg : upd Hc T (.tup [.str u, .ref (ad0 u)]) = H3
    obtain ⟨sT, PT⟩ := new_eq nT gg
    clear gg
    refine ⟨T, _, rfl, .inl (.inl PT), rfl, _, _, rfl, _, _, rfl, rfl, ?_⟩
    have b3 : But fo G0 H3 := b.trans (But.of_same sT)
    refine ⟨_, rfl, ad0 u, ou, _, rfl, keep b3 _ _ hU, ?_⟩
    refine for_it (walk_items (kvs := dct (nb u) fun v => .int (wt u v))) (fun j σ Hc => ∃ (x4 x5 : Option V), σ = [some (.ref x), some (.ref fo), some (.str u), some (.ref (ad0 u)), x4, x5] ∧ But fo G0 Hc ∧ Hc fo = some (.dT (dtE (flowL nb wt lf (Vs.take i) ++ flowR wt lf u ((nb u).take j)))))
      ⟨_, _, rfl, b3, by rw [sT _ _ c2]; simp [flowR]⟩ ?_ ?_ ?_
    · rintro j σ Hc hj ⟨x4, x5, rfl, b, _⟩
      exact keep b _ _ hU
    · clear b3 sT PT nT c2 b
      rintro j y σ Hc Hc' hj ⟨x4, x5, rfl, b, c2⟩ ⟨T, kx, vx, rfl, nT, rfl, hkx, hvx⟩
      rw [dct_len] at hj
      dsimp only at hkx hvx
      rw [dct_at, List.getElem?_eq_getElem hj] at hkx hvx
      cases hkx
      cases hvx
      obtain ⟨v, ev⟩ : ∃ v, v = (nb u)[j] := ⟨_, rfl⟩
      have hvn : v ∈ nb u := ev ▸ List.getElem_mem hj
      have hnv : v ∉ (nb u).take j := by rw [ev]; exact take_nin (hnb u huV).1 hj
      have tk2 := takeS (List.getElem?_eq_getElem hj)
      rw [← ev] at tk2 ⊢
      show gTup _ _ _ _ _ (upd Hc T (.tup [.str v, .int (wt u v)])) _
      generalize gg : upd Hc T (.tup [.str v, .int (wt u v)]) = H4
      obtain ⟨sT, PT⟩ := new_eq nT gg
      clear gg
      have b4 : But fo G0 H4 := b.trans (But.of_same sT)
      have s4 := keep b4
      have R4 := R.ext (Ext.of s4)
      refine ⟨T, _, rfl, .inl (.inl PT), rfl, _, _, rfl, _, _, rfl, rfl, ?_⟩
      refine ⟨_, rfl, x, S, dx, _, _, rfl, s4 _ _ hx, SC.cls, SC.nl, rfl, _, rfl, la, _, rfl, get_d (.inl R4.top) huV, _, rfl, ad u, _, rfl, get_d (.inl (R4.row u huV)) hvn, _, rfl, _, _, rfl, rfl, _, rfl, ?_⟩
      have eF : flowR wt lf u ((nb u).take (j + 1)) = flowR wt lf u ((nb u).take j) ++ (if lf u v < wt u v then [((u, v), wt u v - lf u v)] else []) := by
        rw [tk2]
        unfold flowR
        rw [List.filter_append, List.map_append]
        congr 1
        by_cases h : lf u v < wt u v
        · simp [h]
        · simp [h]
      refine ite2 (fun hb => ?_) (fun hb => ?_)
      · have hb : lf u v < wt u v := of_decide_eq_true hb
        refine ⟨_, rfl, _, rfl, x, S, dx, _, _, rfl, s4 _ _ hx, SC.cls, SC.nl, rfl, _, rfl, la, _, rfl, get_d (.inl R4.top) huV, _, rfl, ad u, _, rfl, get_d (.inl (R4.row u huV)) hvn, _, _, rfl, rfl, _, rfl, _, rfl, _, rfl, by show 2 ≤ sizeLine; omega, fun kt nkt => ?_⟩
        generalize gg : upd H4 kt _ = G5
        obtain ⟨s5, L5⟩ := new_eq nkt gg
        clear gg
        have c5 := s5 _ _ (sT _ _ c2)
        obtain ⟨esN, eesN⟩ : ∃ esN, esN = flowL nb wt lf (Vs.take i) ++ flowR wt lf u ((nb u).take j) := ⟨_, rfl⟩
        rw [← eesN] at c5
        have lesN : esN.length < sizeLine := by
          rw [eesN, List.length_append]
          have h1 := len i
          have h2 := flowR_len wt lf u ((nb u).take j)
          have h3 := List.length_take_le' j (nb u)
          have h4 := (hnb u huV).2
          omega
        have nin : ((u, v) : Pr) ∉ esN.map (·.1) := fun h => by
          obtain ⟨e, he, ee⟩ := List.mem_map.mp h
          rw [eesN] at he
          rcases List.mem_append.mp he with he | he
          · obtain ⟨u', hu', v', _, _, rfl⟩ := flowL_mem.mp he
            cases ee
            exact hnu hu'
          · obtain ⟨v', hv', _, rfl⟩ := flowR_mem.mp he
            cases ee
            exact hnv hv'
        refine ⟨fo, _, rfl, put_p (p := (u, v)) c5 L5 lesN, ?_⟩
        rw [putE_new nin]
        refine ⟨_, _, rfl, fun c o hc hne => ?_, ?_⟩
        · rw [upd_ne hne]
          exact s5 _ _ (b4 c o hc hne)
        · rw [upd_same, eF, if_pos hb, eesN, List.append_assoc]
      · have hb : ¬ lf u v < wt u v := fun z => hb (decide_eq_true z)
        exact ⟨_, _, rfl, b4, by rw [eF, if_neg hb, List.append_nil]; exact sT _ _ c2⟩
    · rintro σ Hc ⟨x4, x5, rfl, b, c2⟩
      rw [dct_len, List.take_length] at c2
      refine ⟨_, _, _, _, rfl, b, ?_⟩
      rw [c2, tk]
      unfold flowL
      rw [List.flatMap_append]
      simp
  · rintro σ Hc ⟨x2, x3, x4, x5, rfl, b, c2⟩
    rw [dct_len, List.take_length] at c2
    exact ⟨_, rfl, k fo Hc (keep b) nfo c2⟩
end
end Wk
namespace Wk
open PySem PySem.Spec PyProof.Rows L2 WkD WkN WkP WkE
/-! ### the flow that a search tells -/
def gE (es : EdD) (z : Str) : Int := (es.map fun e => (if e.1.2 = z then e.2 else 0) - (if e.1.1 = z then e.2 else 0)).sum
theorem gE_snoc (es : EdD) (e : Pr × Int) (z : Str) : gE (es ++ [e]) z = gE es z + ((if e.1.2 = z then e.2 else 0) - (if e.1.1 = z then e.2 else 0)) := by
  unfold gE
  rw [List.map_append, List.sum_append, List.map_cons, List.map_nil, List.sum_cons, List.sum_nil]
  omega
structure GoodF (Vs : List Str) (nb : Nb) (wt : Wt) (s t : Str) (n : Int) (es : EdD) : Prop where
  nd : (es.map (·.1)).Nodup
  ar : ∀ e ∈ es, e.1.1 ∈ Vs ∧ e.1.2 ∈ nb e.1.1 ∧ 1 ≤ e.2 ∧ e.2 ≤ wt e.1.1 e.1.2 ∧ e.1.1 ≠ t ∧ e.1.2 ≠ s ∧ (e.1.2, e.1.1) ∉ es.map (·.1)
  co : ∀ z ∈ Vs, z ≠ s → z ≠ t → gE es z = 0
  tt : gE es t = n
  ss : gE es s = -n
  pos : 0 < n
def fpos (w r : Wf) (u v : Str) : Int := if r u v < w u v then w u v - r u v else 0
theorem sm_pick {l : List Str} (nd : l.Nodup) {a : Str} (ha : a ∈ l) (g : Str → Int) : (sm l fun y => if y = a then g y else 0) = g a := by
  have : (sm l fun y => if y = a then g y else 0) = sm l fun y => if y = a then g a else 0 := sm_congr fun y _ => by
    by_cases e : y = a
    · rw [if_pos e, if_pos e, e]
    · rw [if_neg e, if_neg e]
  rw [this, sm_at nd ha]
theorem flow_sum {Vs : List Str} {nb : Nb} {wt lf : Wt} (nV : Vs.Nodup) (sy : Sym Vs nb wt) (c : Str → Str → Int) : ((flowL nb wt lf Vs).map fun e => c e.1.1 e.1.2 * e.2).sum = sm Vs fun u => sm Vs fun v => c u v * fpos (vl0 nb wt) (vl0 nb lf) u v := by
  unfold flowL
  rw [List.map_flatMap, sum_flat]
  refine sm_congr fun u hu => ?_
  unfold flowR
  rw [List.map_map]
  have e : ((((nb u).filter fun v => decide (lf u v < wt u v)).map ((fun e : Pr × Int => c e.1.1 e.1.2 * e.2) ∘ fun v => ((u, v), wt u v - lf u v)))).sum = sm ((nb u).filter fun v => decide (lf u v < wt u v)) fun v => c u v * (wt u v - lf u v) := rfl
  rw [e, sm_filter, sm_sub (sy.nd u hu) nV fun v hv => (sy.mem u hu v hv).1]
  refine sm_congr fun v _ => ?_
  unfold fpos vl0
  by_cases h1 : v ∈ nb u
  · rw [if_pos h1, if_pos h1, if_pos h1]
    by_cases h2 : lf u v < wt u v
    · rw [if_pos (decide_eq_true h2), if_pos h2]
    · rw [if_neg (by rw [decide_eq_false h2]; decide), if_neg h2, Int.mul_zero]
  · rw [if_neg h1, if_neg h1, if_neg h1, if_neg (by omega), Int.mul_zero]
theorem gE_flow {Vs : List Str} {nb : Nb} {wt lf : Wt} {s t : Str} {n : Int} (nV : Vs.Nodup) (sy : Sym Vs nb wt) (R : Resid Vs (vl0 nb wt) s t n (vl0 nb lf)) {z : Str} (hz : z ∈ Vs) : gE (flowL nb wt lf Vs) z = - netW Vs (vl0 nb wt) (vl0 nb lf) z := by
  have e1 : gE (flowL nb wt lf Vs) z = ((flowL nb wt lf Vs).map fun e => ((if e.1.2 = z then 1 else 0) - (if e.1.1 = z then 1 else 0)) * e.2).sum := by
    unfold gE
    congr 1
    refine List.map_congr_left fun e _ => ?_
    by_cases h1 : e.1.2 = z <;> by_cases h2 : e.1.1 = z <;> simp [h1, h2]
  rw [e1, flow_sum nV sy fun u v => (if v = z then 1 else 0) - (if u = z then 1 else 0)]
  have e2 : (sm Vs fun u => sm Vs fun v => ((if v = z then 1 else 0) - (if u = z then 1 else 0)) * fpos (vl0 nb wt) (vl0 nb lf) u v) = (sm Vs fun u => fpos (vl0 nb wt) (vl0 nb lf) u z) + - sm Vs fun v => fpos (vl0 nb wt) (vl0 nb lf) z v := by
    have a1 : (sm Vs fun u => sm Vs fun v => if v = z then fpos (vl0 nb wt) (vl0 nb lf) u v else 0) = sm Vs fun u => fpos (vl0 nb wt) (vl0 nb lf) u z := sm_congr fun u _ => sm_pick nV hz fun v => fpos (vl0 nb wt) (vl0 nb lf) u v
    have a2 : (sm Vs fun u => if u = z then sm Vs fun v => fpos (vl0 nb wt) (vl0 nb lf) u v else 0) = sm Vs fun v => fpos (vl0 nb wt) (vl0 nb lf) z v := sm_pick nV hz fun u => sm Vs fun v => fpos (vl0 nb wt) (vl0 nb lf) u v
    rw [← a1, ← a2, ← sm_neg, ← sm_add]
    refine sm_congr fun u _ => ?_
    by_cases h : u = z
    · simp only [if_pos h]
      rw [← sm_neg, ← sm_add]
      refine sm_congr fun v _ => ?_
      by_cases h2 : v = z
      · rw [if_pos h2, if_pos h2]
        omega
      · rw [if_neg h2, if_neg h2]
        omega
    · simp only [if_neg h]
      have : (sm Vs fun v => ((if v = z then 1 else 0) - 0) * fpos (vl0 nb wt) (vl0 nb lf) u v) = sm Vs fun v => if v = z then fpos (vl0 nb wt) (vl0 nb lf) u v else 0 := sm_congr fun v _ => by
        by_cases h2 : v = z
        · rw [if_pos h2, if_pos h2]
          omega
        · rw [if_neg h2, if_neg h2]
          omega
      rw [this]
      omega
  rw [e2]
  unfold netW
  rw [← sm_neg, ← sm_neg, ← sm_add]
  refine sm_congr fun v hv => ?_
  have := R.pr z hz v hv
  have sw := vl0_sym sy z hz v hv
  unfold fpos
  split <;> split <;> omega
theorem net_target {Vs : List Str} {w r : Wf} {s t : Str} {n : Int} (nV : Vs.Nodup) (R : Resid Vs w s t n r) (hs : s ∈ Vs) (ht : t ∈ Vs) (st : s ≠ t) : netW Vs w r t = - n := by
  have z : (sm Vs fun u => netW Vs w r u) = 0 := by
    have e : (sm Vs fun u => netW Vs w r u) = - sm Vs fun u => netW Vs w r u := by
      unfold netW
      conv => lhs; rw [sm_swp]
      rw [← sm_neg]
      refine sm_congr fun u hu => ?_
      rw [← sm_neg]
      refine sm_congr fun v hv => ?_
      have := R.pr u hu v hv
      omega
    omega
  have e : (sm Vs fun u => netW Vs w r u) = (sm Vs fun u => if u = s then n else 0) + sm Vs fun u => if u = t then netW Vs w r t else 0 := by
    rw [← sm_add]
    refine sm_congr fun u hu => ?_
    by_cases h1 : u = s
    · rw [if_pos h1, if_neg (by rw [h1]; exact st), h1]
      have := R.src
      unfold netW
      omega
    · by_cases h2 : u = t
      · rw [if_neg h1, if_pos h2, h2]
        omega
      · rw [if_neg h1, if_neg h2]
        exact R.co u hu h1 h2
  rw [e, sm_at nV hs, sm_at nV ht] at z
  omega
/-- a greatest flow carries something -/
theorem flow_pos {Vs : List Str} {nb : Nb} {wt : Wt} {s t : Str} {n : Int} (nV : Vs.Nodup) (sy : Sym Vs nb wt) (wpos : ∀ u ∈ Vs, ∀ v ∈ nb u, 1 ≤ wt u v) (hs : s ∈ Vs) (con : Rch nb s t) {S : Sd} (h1 : S s = true) (h2 : S t = false) (e : cutW Vs (vl0 nb wt) S = n) : 0 < n := by
  have nn : ∀ u ∈ Vs, ∀ v ∈ Vs, 0 ≤ vl0 nb wt u v := fun u hu v _ => by
    unfold vl0
    split
    · have := wpos u hu v ‹_›
      omega
    · exact Int.le_refl _
  have c0 := cutW_nonneg (S := S) nn
  rcases Int.lt_or_le 0 n with h | h
  · exact h
  · exfalso
    have z : cutW Vs (vl0 nb wt) S = 0 := by omega
    have zz := sm_zero_of (fun u hu => sm_nonneg fun v hv => by
      split
      · exact nn u hu v hv
      · exact Int.le_refl _) z
    have all : ∀ x, Rch nb s x → x ∈ Vs ∧ S x = true := fun x hx => by
      induction hx with
      | here => exact ⟨hs, h1⟩
      | @go u v _ hv ih =>
        obtain ⟨hu, hS⟩ := ih
        have hvV := (sy.mem u hu v hv).1
        refine ⟨hvV, ?_⟩
        cases q : S v with
        | true => rfl
        | false =>
          have := sm_zero_of (fun v hv => by
            split
            · exact nn u hu v hv
            · exact Int.le_refl _) (zz u hu) v hvV
          rw [if_pos ⟨hS, q⟩] at this
          unfold vl0 at this
          rw [if_pos hv] at this
          have := wpos u hu v hv
          omega
    have := (all t con).2
    rw [h2] at this
    cases this
theorem flowL_nodup {nb : Nb} {wt lf : Wt} : ∀ {l : List Str}, l.Nodup → (∀ u ∈ l, (nb u).Nodup) → ((flowL nb wt lf l).map (·.1)).Nodup
  | [], _, _ => List.nodup_nil
  | u :: l, nd, h => by
    rw [List.nodup_cons] at nd
    have e : flowL nb wt lf (u :: l) = flowR wt lf u (nb u) ++ flowL nb wt lf l := rfl
    rw [e, List.map_append, List.nodup_append]
    refine ⟨?_, flowL_nodup nd.2 fun v hv => h v (List.mem_cons_of_mem _ hv), fun a ha b hb q => ?_⟩
    · unfold flowR
      rw [List.map_map]
      refine List.pairwise_map.mpr (((h u List.mem_cons_self).filter _).imp fun {x y} ne q => ?_)
      exact ne (Prod.ext_iff.mp q).2
    · obtain ⟨x, hx, rfl⟩ := List.mem_map.mp ha
      obtain ⟨y, hy, rfl⟩ := List.mem_map.mp hb
      obtain ⟨v, _, _, rfl⟩ := flowR_mem.mp hx
      obtain ⟨u', hu', v', _, _, rfl⟩ := flowL_mem.mp hy
      have : u = u' := (Prod.ext_iff.mp q).1
      exact nd.1 (by rw [this]; exact hu')
theorem flow_good {Vs : List Str} {nb : Nb} {wt lf : Wt} {s t : Str} {n : Int} (nV : Vs.Nodup) (sy : Sym Vs nb wt) (R : Resid Vs (vl0 nb wt) s t n (vl0 nb lf)) (C : Clean Vs (vl0 nb wt) (vl0 nb lf) s t) (hs : s ∈ Vs) (ht : t ∈ Vs) (st : s ≠ t) (pos : 0 < n) : GoodF Vs nb wt s t n (flowL nb wt lf Vs) := by
  have key : ∀ u v, ((u, v) : Pr) ∈ (flowL nb wt lf Vs).map (·.1) → u ∈ Vs ∧ v ∈ nb u ∧ lf u v < wt u v := fun u v h => by
    obtain ⟨e, he, q⟩ := List.mem_map.mp h
    obtain ⟨u', hu', v', hv', hl, rfl⟩ := flowL_mem.mp he
    have q : ((u', v') : Pr) = (u, v) := q
    obtain ⟨rfl, rfl⟩ := Prod.mk.inj q
    exact ⟨hu', hv', hl⟩
  have vl : ∀ {f : Wt} {u v : Str}, v ∈ nb u → vl0 nb f u v = f u v := fun h => if_pos h
  refine ⟨flowL_nodup nV sy.nd, fun e he => ?_, fun z hz h1 h2 => ?_, ?_, ?_, pos⟩
  · obtain ⟨u, hu, v, hv, hl, rfl⟩ := flowL_mem.mp he
    obtain ⟨hvV, hne, huv, hw⟩ := sy.mem u hu v hv
    have nn := R.nn u hu v hvV
    rw [vl hv] at nn
    have pr := R.pr u hu v hvV
    rw [vl hv, vl huv, vl hv, vl huv] at pr
    refine ⟨hu, hv, by show 1 ≤ wt u v - lf u v; omega, by show wt u v - lf u v ≤ wt u v; omega, fun z => ?_, fun z => ?_, fun h => ?_⟩
    · have z : u = t := z
      subst z
      have := C.nt v hvV
      rw [vl hv, vl hv] at this
      omega
    · have z : v = s := z
      subst z
      have := C.ns u hu
      rw [vl hv, vl hv] at this
      omega
    · have := (key v u h).2.2
      omega
  · rw [gE_flow nV sy R hz]
    have := R.co z hz h1 h2
    unfold netW
    omega
  · rw [gE_flow nV sy R ht, net_target nV R hs ht st]
    omega
  · rw [gE_flow nV sy R hs]
    have := R.src
    unfold netW
    omega
end Wk
namespace Wk
open PySem PySem.Spec PyProof.Rows L2 WkD WkN LamX WkP WkE WkC
section
variable {P : Program} {w : World} {K : PySem.W.Frag} {mg : Str → Option Value} {base : Heap}
/-! ### is_arc -/
def spArc (K : PySem.W.Frag) : Sp := fun vs H Q _ => ∃ (g C dx kt : Addr) (fs : List (Str × V)) (a : Addr) (top u v : Str) (Vs : List Str) (ad : Str → Addr) (nb : Nb) (wt : Wt), vs = [.ref g, .ref kt] ∧ GAt K H g C dx fs a top ∧ RowsZ H a Vs ad nb wt ∧ H kt = some (.tup [.str u, .str v]) ∧ nameB u = true ∧ nameB v = true ∧ u ∈ Vs ∧ v ∈ nb u ∧
  ∀ H', Same H H' → Q (.bl true) H'
theorem sc_is_arc : FnScope ["graph", "value"] ["graph", "value"] (defScope s_is_arc) := ⟨rfl, rfl, rfl, by decide +kernel, rfl, by decide +kernel, by decide +kernel⟩
theorem c_is_arc (D : Def K mg "is_arc" s_is_arc) (CT : Callee P w K mg base CX0 1 "is_tuple_of" ["value", "size"] (spTupleOf K)) (CN : Callee P w K mg base CX0 1 "is_name" ["value"] (spName K)) : Callee P w K mg base CX0 2 "is_arc" ["graph", "value"] (spArc K) := by
  obtain ⟨f, fd, F, g⟩ := D
  refine ⟨f, fd, F.ok sc_is_arc (fun vs H Q E h => ?_) (fun cdv A outer s H vs Q E hr h => ?_), g, F.kp, F.bindsN (fun _ _ _ _ _ _ us hl => match us, hl with | [_, _], _ => rfl)⟩
  · obtain ⟨g, C, dx, kt, fs, a, top, u, v, Vs, ad, nb, wt, rfl, _⟩ := h
    rfl
  have hu := hu_of hr
  have hr1 : Room 1 _ := hr
  refine ⟨_, PSs.nox (pss_cons (ps_if (PW.pt (pw_or (pt_not (pt_val (pe_c CT hr1 pass0 (pa_cons (pv 1) (pa_cons pe_int pa_nil))))) (pw_or (pt_not (pt_val (pe_c CN hr1 pass0 (pa_cons (pe_ix ix_tup (pv 1) pe_int (fun _ _ => rfl)) pa_nil)))) (pw_or1 (pt_not (pt_val (pe_c CN hr1 pass0 (pa_cons (pe_ix ix_tup (pv 1) pe_int (fun _ _ => rfl)) pa_nil))))))))
      (pss_one (ps_ret pe_bl)) pss_nil)
      (pss_one (ps_ret (pe_and (pe_cmp (pc_din hu (pe_ix ix_tup (pv 1) pe_int (fun _ _ => rfl)) (pe_fld (pv 0) rfl))) (pe_one (pe_cmp (pc_din hu (pe_ix ix_tup (pv 1) pe_int (fun _ _ => rfl)) (pe_dget hu (pe_fld (pv 0) rfl) (pe_ix ix_tup (pv 1) pe_int (fun _ _ => rfl)) (fun _ _ => rfl))))))))), ?_⟩
  obtain ⟨g, C, dx, kt, fs, a, top, u, v, Vs, ad, nb, wt, rfl, G, R, hkt, nu, nv, hu', hv', k⟩ := h
  have hT : SqT K H kt [.str u, .str v] := .inl (.inl hkt)
  refine ⟨_, rfl, _, _, rfl, .inl ⟨kt, _, rfl, hT, by show 2 ≤ sizeLine; decide, tyT hT, _, rfl, ite2 (fun h => ?_) (fun _ => ?_)⟩⟩
  · cases h
  refine ⟨_, rfl, kt, _, _, .str u, rfl, rfl, hT, atI_nat (j := 0) (xs := [V.str u, .str v]) rfl, .inl ⟨u, rfl, name_len nu, fun H1 s1 => ⟨_, rfl, ite2 (fun h => ?_) (fun _ => ?_)⟩⟩⟩
  · rw [nu] at h
    cases h
  have hT1 := WkG.seqT_same s1 hT
  refine ⟨_, rfl, kt, _, _, .str v, rfl, rfl, hT1, atI_nat (j := 1) (xs := [V.str u, .str v]) rfl, .inl ⟨v, rfl, name_len nv, fun H2 s2 => ⟨_, rfl, ite2 (fun h => ?_) (fun _ => ?_)⟩⟩⟩
  · rw [nv] at h
    cases h
  have s12 := s1.trans s2
  have hT2 := WkG.seqT_same s12 hT
  have G2 : GAt K H2 g C dx fs a top := G.ext (Ext.of s12)
  have R2 := R.ext (Ext.of s12)
  refine ⟨_, rfl, kt, _, _, .str u, rfl, rfl, hT2, atI_nat (j := 0) (xs := [V.str u, .str v]) rfl, _, rfl, g, C, dx, _, _, rfl, G2.ins, G2.cls, G2.na, G2.la, a, _, rfl, get_d R2.r.top hu', _, rfl, ?_⟩
  show if true = true then _ else _
  rw [if_pos rfl]
  refine ⟨_, rfl, kt, _, _, .str v, rfl, rfl, hT2, atI_nat (j := 1) (xs := [V.str u, .str v]) rfl, _, rfl, g, C, dx, _, _, rfl, G2.ins, G2.cls, G2.na, G2.la, _, rfl, kt, _, _, .str u, rfl, rfl, hT2, atI_nat (j := 0) (xs := [V.str u, .str v]) rfl, a, _, rfl, get_d R2.r.top hu', ad u, _, rfl, get_d (R2.r.row u hu') hv', k H2 s12⟩
/-! ### flow_total of a flow -/
def spFlowT (K : PySem.W.Frag) : Sp := fun vs H Q _ => ∃ (g C dx am : Addr) (fs : List (Str × V)) (a : Addr) (top s t : Str) (n : Int) (es : EdD) (Vs : List Str) (ad : Str → Addr) (nb : Nb) (wt : Wt), vs = [.ref g, .str s, .str t, .ref am] ∧ GAt K H g C dx fs a top ∧ RowsZ H a Vs ad nb wt ∧ (∀ u ∈ Vs, nameB u = true) ∧ Sym Vs nb wt ∧ Vs.Nodup ∧ Vs.length < 1000 ∧ s ∈ Vs ∧ t ∈ Vs ∧ s ≠ t ∧ H am = some (.dT (dtE es)) ∧ GoodF Vs nb wt s t n es ∧
  ∀ H', Same H H' → Q (.int n) H'
theorem sc_flow_total : FnScope ["graph", "source", "target", "value", "gains", "vertex", "key", "amount", "total", "gain"] ["graph", "source", "target", "value"] (defScope s_flow_total) := ⟨rfl, rfl, rfl, by decide +kernel, rfl, by decide +kernel, by decide +kernel⟩
theorem c_flow_total (D : Def K mg "flow_total" s_flow_total) (B : Bi mg) (CA : Callee P w K mg base CX0 2 "is_arc" ["graph", "value"] (spArc K)) (CB : Callee P w K mg base CX0 1 "is_between" ["value", "low", "high"] (spBetween K)) : Callee P w K mg base CX0 3 "flow_total" ["graph", "source", "target", "value"] (spFlowT K) := by
  obtain ⟨f, fd, F, g⟩ := D
  refine ⟨f, fd, F.ok sc_flow_total (fun vs H Q E h => ?_) (fun cdv A outer s H vs Q E hr h => ?_), g, F.kp, F.bindsN (fun _ _ _ _ _ _ us hl => match us, hl with | [_, _, _, _], _ => rfl)⟩
  · obtain ⟨g, C, dx, am, fs, a, top, s, t, n, es, Vs, ad, nb, wt, rfl, _⟩ := h
    rfl
  have hu := hu_of hr
  have nd := sc_flow_total.nd
  have hr2 : Room 2 _ := hr
  have hr1 : Room 1 _ := hr.mono (by decide)
  refine ⟨_, PSs.nox (pss_cons (ps_if (pt_not (pt_val (pe_callB call_isi (by rfl) B.n_isinstance (by decide +kernel) (pa_cons (pv 3) (pa_cons (pe_bltn (v := .ty "dict") (by rfl) B.n_dict (by decide +kernel) rfl) pa_nil)))))
      (pss_one (ps_ret pe_non)) pss_nil)
      (pss_cons (WkV.ps_setDc (i := 4) (own := [("vertex", 5)]) (by rfl) nd rfl rfl (WkV.sw_trueD rfl rfl rfl (by decide +kernel)) (pi_keys (pe_fld (pv 0) rfl)) (blkOk_by (by kernel_rfl)) (fun _ _ _ _ _ => (pg_name (i := 5) nd rfl (Or.inl rfl))) (fun _ _ _ _ _ => pts_nil) (fun _ _ _ _ _ => (pv 5)) (fun _ _ _ _ _ => pe_int))
      (pss_cons (ps_lock (ps_for PassesOwn.never rfl (WkI.pi_itemsT (pv 3)) (WkN.pgT K 2 rfl rfl (pgs_cons (pg_name (i := 6) nd rfl (Or.inl rfl)) (pgs_cons (pg_name (i := 7) nd rfl (Or.inl rfl)) pgs_nil)) rfl)
      (pss_cons (ps_if (PW.pt (pw_or (pt_not (pt_val (pe_c CA hr2 pass0 (pa_cons (pv 0) (pa_cons (pv 6) pa_nil))))) (pw_or1 (pt_not (pt_val (pe_c CB hr1 pass0 (pa_cons (pv 7) (pa_cons pe_int (pa_cons (pe_dget hu (pe_dget hu (pe_fld (pv 0) rfl) (pe_ix ix_tup (pv 6) pe_int (fun _ _ => rfl)) (fun _ _ => rfl)) (pe_ix ix_tup (pv 6) pe_int (fun _ _ => rfl)) (fun _ _ => rfl)) pa_nil)))))))))
      (pss_one (ps_ret pe_non)) pss_nil)
      (pss_cons (ps_if (PW.pt (pw_or (pt_cmpR op_eq (pe_ix ix_tup (pv 6) pe_int (fun _ _ => rfl)) (pv 2) (nomark _)) (pw_or (pt_cmpR op_eq (pe_ix ix_tup (pv 6) pe_int (fun _ _ => rfl)) (pv 1) (nomark _)) (pw_or1 (pt_cmp (pc_din hu (pe_tup (pa_cons (pe_ix ix_tup (pv 6) pe_int (fun _ _ => rfl)) (pa_cons (pe_ix ix_tup (pv 6) pe_int (fun _ _ => rfl)) pa_nil))) (pv 3)))))))
      (pss_one (ps_ret pe_non)) pss_nil)
      (pss_cons (ps_daug hu (pv 4) (pe_ix ix_tup (pv 6) pe_int (fun _ _ => rfl)) (pv 7) in_sub (fun _ _ _ => rfl))
      (pss_one (ps_daug hu (pv 4) (pe_ix ix_tup (pv 6) pe_int (fun _ _ => rfl)) (pv 7) in_add (fun _ _ _ => rfl))))))))
      (pss_cons (ps_set (i := 8) nd rfl (Or.inl rfl) (pe_dget hu (pv 4) (pv 2) (fun _ _ => rfl)))
      (pss_cons (ps_dput hu (pv 4) (pv 2) pe_int rfl)
      (pss_cons (ps_daug hu (pv 4) (pv 1) (pv 8) in_add (fun _ _ _ => rfl))
      (pss_cons (ps_if (PW.pt (pw_or (pt_cmpR op_eq (pv 8) pe_int (nomark _)) (pw_or1 (pt_val (pe_callB (cr_any rfl) (by rfl) B.n_any (by decide +kernel) (pa_cons (pe_lock (pe_lc (own := [("gain", 9)]) (by rfl) nd (pi_values (pv 4)) (blkOk_by (by kernel_rfl)) (fun _ _ _ _ _ => (pg_name (i := 9) nd rfl (Or.inl rfl))) (fun _ _ _ _ _ => pts_nil) (fun _ _ _ _ _ => (pe_cmpR op_ne (pv 9) pe_int (nomark _))))) pa_nil))))))
      (pss_one (ps_ret pe_non)) pss_nil)
      (pss_one (ps_ret (pv 8)))))))))), ?_⟩
  obtain ⟨g, C, dx, am, fs, a, top, s, t, n, es, Vs, ad, nb, wt, rfl, G, R, hnm, sy, hVn, hVl, hs, ht, st, ham, GF, k⟩ := h
  have big : 1000 < sizeLine := by decide
  refine ⟨_, rfl, _, _, _, _, true, rfl, .ty _, .base (.dT ham), kit_ty (by decide +kernel), true, rfl, ?_⟩
  refine ite2 (fun h => nomatch h) (fun _ => ?_)
  obtain ⟨oa, hA⟩ := R.top
  refine ⟨_, rfl, g, C, dx, fs, _, rfl, G.ins, G.cls, G.na, G.la, a, oa, rfl, .inl ⟨_, hA, fun ga nga => ?_⟩⟩
  refine dc_it (walk_keys (kvs := dct Vs fun u => .ref (ad u))) (fun i H2 => H2 = upd H ga (.dK (dct (Vs.take i) fun z => .int (gE [] z)))) rfl ?_ ?_ ?_
  · rintro i H2 hi rfl
    rw [upd_ne (ne_of_none hA nga)]
    exact hA
  · rintro i y H2 H2' hi rfl ⟨rfl, k0, v0, hk, rfl⟩
    rw [dct_len] at hi
    rw [dct_at, List.getElem?_eq_getElem hi] at hk
    cases hk
    refine ⟨rfl, tYes_if ?_⟩
    have hnu : Vs[i] ∉ Vs.take i := take_nin hVn hi
    refine ⟨_, rfl, _, Sum.inr Vs[i], rfl, upd_same, ?_, ?_⟩
    · rw [dct_len]
      have := List.length_take_le' i Vs
      omega
    · rw [upd_upd, dct_put_new hnu, takeS (List.getElem?_eq_getElem hi)]
      congr 2
      exact dct_congr fun y _ => by split <;> rfl
  rintro H2 rfl
  rw [dct_len, List.take_length]
  generalize gg : upd H ga (.dK (dct Vs fun z => .int (gE [] z))) = H2
  obtain ⟨s2, L2⟩ := new_eq nga gg
  clear gg
  have am2 := s2 _ _ ham
  refine ⟨am, _, am2, trivial, fun od => ?_⟩
  have nga_am : ga ≠ am := Ne.symm (ne_of_none ham nga)
  generalize gg : upd H2 am (.frz od (.dT (dtE es))) = H3
  have Z3 : H3 am = some (.frz od (.dT (dtE es))) := by rw [← gg]; exact upd_same
  have k3 : ∀ b o, H2 b = some o → b ≠ am → H3 b = some o := fun b o hb hne => by
    rw [← gg, upd_ne hne]
    exact hb
  clear gg
  have neam : ∀ {b o}, H b = some o → (∀ kvs, o ≠ .dT kvs) → b ≠ am := fun {b o} hb hn => ne_of hb ham (hn _)
  have ge : ∀ Hc : Hp, (∀ b o, H3 b = some o → b ≠ ga → Hc b = some o) → ∀ b o, H b = some o → (∀ kvs, o ≠ .dT kvs) → Hc b = some o := fun Hc q b o hb hn => q _ _ (k3 _ _ (s2 _ _ hb) (neam hb hn)) (ne_of_none hb nga)
  have GG : ∀ Hc : Hp, (∀ b o, H3 b = some o → b ≠ ga → Hc b = some o) → GAt K Hc g C dx fs a top ∧ RowsZ Hc a Vs ad nb wt := fun Hc q => by
    refine ⟨⟨ge Hc q _ _ G.ins (fun _ z => by cases z), G.cls, G.na, G.nt, G.la, G.lt⟩, ?_, fun u hu => ?_⟩
    · exact ⟨oa, ge Hc q _ _ hA (fun _ z => by cases z)⟩
    · obtain ⟨o, ho⟩ := R.row u hu
      exact ⟨o, ge Hc q _ _ ho (fun _ z => by cases z)⟩
  refine ⟨_, rfl, am, od, _, rfl, Z3, ?_⟩
  refine for_it (WkI.walk_itemsT (kvs := dtE es)) (fun i σ Hc => ∃ (x6 x7 : Option V), σ = [some (.ref g), some (.str s), some (.str t), some (.ref am), some (.ref ga), none, x6, x7, none, none] ∧ (∀ b o, H3 b = some o → b ≠ ga → Hc b = some o) ∧ Hc ga = some (.dK (dct Vs fun z => .int (gE (es.take i) z))))
    ⟨_, _, rfl, fun b o h _ => h, k3 _ _ L2 nga_am⟩ ?_ ?_ ?_
  · rintro i σ Hc hi ⟨x6, x7, rfl, q, _⟩
    exact q _ _ Z3 (Ne.symm nga_am)
  · rintro i y σ Hc Hc' hi ⟨x6, x7, rfl, q, c2⟩ ⟨T, kk, vv, kt, hk, hkt, rfl, nT, rfl⟩
    rw [dtE_len] at hi
    have hk2 : (kk, vv) = (kP es[i].1, V.int es[i].2) := by
      unfold dtE at hk
      rw [List.getElem?_map, List.getElem?_eq_getElem hi] at hk
      exact (Option.some.inj hk).symm
    cases hk2
    obtain ⟨⟨⟨u, v⟩, m⟩, ee⟩ : ∃ e, e = es[i] := ⟨_, rfl⟩
    have he : ((u, v), m) ∈ es := ee ▸ List.getElem_mem hi
    have tk := takeS (List.getElem?_eq_getElem hi)
    rw [← ee] at hkt tk ⊢
    have hkt : Hc kt = some (.tup [.str u, .str v]) := hkt
    obtain ⟨huV, hvn, m1, m2, h1, h2, h3⟩ := GF.ar _ he
    have huV : u ∈ Vs := huV
    have hvn : v ∈ nb u := hvn
    obtain ⟨hvV, hvu, _, _⟩ := sy.mem u huV v hvn
    show gTup _ _ _ _ _ (upd Hc T (.tup [.ref kt, .int m])) _
    generalize gg : upd Hc T (.tup [.ref kt, .int m]) = H4
    obtain ⟨sT, PT⟩ := new_eq nT gg
    clear gg
    have q4 : ∀ b o, H3 b = some o → b ≠ ga → H4 b = some o := fun b o hb hne => sT _ _ (q b o hb hne)
    obtain ⟨G4, R4⟩ := GG H4 q4
    have kt4 := sT _ _ hkt
    refine ⟨T, _, rfl, .inl (.inl PT), rfl, _, _, rfl, _, _, rfl, rfl, ?_⟩
    refine ⟨_, rfl, _, rfl, g, C, dx, kt, fs, a, top, u, v, Vs, ad, nb, wt, rfl, G4, R4, kt4, hnm u huV, hnm v hvV, huV, hvn, fun H5 s5 => ⟨_, rfl, ite2 (fun h => nomatch h) (fun _ => ?_)⟩⟩
    have q5 : ∀ b o, H3 b = some o → b ≠ ga → H5 b = some o := fun b o hb hne => s5 _ _ (q4 b o hb hne)
    obtain ⟨G5, R5⟩ := GG H5 q5
    have kt5 := s5 _ _ kt4
    have at0 : ∀ {H}, H kt = some (.tup [.str u, .str v]) → SqT K H kt [.str u, .str v] := fun h => .inl (.inl h)
    have a0 : atI [V.str u, .str v] ((0 : Nat) : Int) = some (.str u) := atI_nat (j := 0) rfl
    have a1 : atI [V.str u, .str v] ((1 : Nat) : Int) = some (.str v) := atI_nat (j := 1) rfl
    refine ⟨_, rfl, _, rfl, g, C, dx, _, _, rfl, G5.ins, G5.cls, G5.na, G5.la, _, rfl, kt, _, _, .str u, rfl, rfl, at0 kt5, a0, a, _, rfl, get_d R5.r.top huV, _, rfl, kt, _, _, .str v, rfl, rfl, at0 kt5, a1, ad u, _, rfl, get_d (R5.r.row u huV) hvn, .int m, 1, wt u v, rfl, .inl ⟨m, rfl, ⟨_, rfl, ite2 (fun h => ?_) (fun _ => ?_)⟩⟩⟩
    · have m1 : 1 ≤ m := m1
      have m2 : m ≤ wt u v := m2
      rw [decide_eq_true m1, decide_eq_true m2] at h
      cases h
    refine ⟨_, rfl, kt, _, _, .str u, rfl, rfl, at0 kt5, a0, _, rfl, rfl, _, rfl, ite2 (fun h => ?_) (fun _ => ?_)⟩
    · exact absurd (V.str.inj (of_decide_eq_true h)) h1
    refine ⟨_, rfl, kt, _, _, .str v, rfl, rfl, at0 kt5, a1, _, rfl, rfl, _, rfl, ite2 (fun h => ?_) (fun _ => ?_)⟩
    · exact absurd (V.str.inj (of_decide_eq_true h)) h2
    refine ⟨_, rfl, kt, _, _, .str v, rfl, rfl, at0 kt5, a1, _, rfl, kt, _, _, .str u, rfl, rfl, at0 kt5, a0, by show 2 ≤ sizeLine; omega, fun p6 n6 => ?_⟩
    generalize gg6 : upd _ p6 _ = G6; obtain ⟨s6, L6⟩ := new_eq n6 gg6; clear gg6
    have q6 : ∀ b o, H3 b = some o → b ≠ ga → G6 b = some o := fun b o hb hne => s6 _ _ (q5 b o hb hne)
    have kt6 := s6 _ _ kt5
    have ga6 := s6 _ _ (s5 _ _ (sT _ _ c2))
    have am6 := q6 _ _ Z3 (Ne.symm nga_am)
    refine ⟨_, rfl, am, _, rfl, .inr ⟨_, kP (v, u), p6, .inr ⟨_, am6⟩, rfl, L6, rfl⟩, ?_⟩
    rw [dtE_none h3]
    refine ⟨_, rfl, ite2 (fun h => nomatch h) (fun _ => ?_)⟩
    refine ⟨_, rfl, _, rfl, kt, _, _, .str u, rfl, rfl, at0 kt6, a0, ga, _, rfl, get_d (.inl ga6) huV, _, rfl, _, _, rfl, rfl, _, put_d ga6 huV (by omega), ?_⟩
    obtain ⟨gf, egf⟩ : ∃ gf : Str → Int, gf = gE (es.take i) := ⟨_, rfl⟩
    rw [← egf] at ga6 ⊢
    have e1 : dct Vs (fun y => if y = u then V.int (gf u - m) else V.int (gf y)) = dct Vs fun y => V.int (if y = u then gf u - m else gf y) := dct_congr fun y _ => by split <;> rfl
    rw [e1]
    have kne : kt ≠ ga := ne_of kt6 ga6 (by intro z; cases z)
    have ga7 : upd G6 ga (.dK (dct Vs fun y => V.int (if y = u then gf u - m else gf y))) ga = some (.dK (dct Vs fun y => V.int (if y = u then gf u - m else gf y))) := upd_same
    have kt7 : upd G6 ga (.dK (dct Vs fun y => V.int (if y = u then gf u - m else gf y))) kt = some (.tup [.str u, .str v]) := by
      rw [upd_ne kne]
      exact kt6
    refine ⟨_, rfl, _, rfl, kt, _, _, .str v, rfl, rfl, at0 kt7, a1, ga, _, rfl, get_d (.inl ga7) hvV, _, rfl, _, _, rfl, rfl, _, put_d ga7 hvV (by omega), ?_⟩
    refine ⟨_, _, rfl, fun b o hb hne => by rw [upd_ne hne, upd_ne hne]; exact q6 b o hb hne, ?_⟩
    rw [upd_same]
    congr 2
    refine dct_congr fun y _ => ?_
    have ey : gE (es.take (i + 1)) y = gf y + ((if v = y then m else 0) - (if u = y then m else 0)) := by rw [tk, gE_snoc, egf]
    by_cases y1 : y = v
    · subst y1
      rw [if_pos rfl, if_neg hvu]
      show V.int (gf y + m) = V.int (gE (es.take (i + 1)) y)
      rw [ey, if_pos rfl, if_neg (Ne.symm hvu)]
      congr 1
      omega
    · rw [if_neg y1]
      show V.int (if y = u then gf u - m else gf y) = V.int (gE (es.take (i + 1)) y)
      rw [ey, if_neg (Ne.symm y1)]
      by_cases y2 : y = u
      · subst y2
        rw [if_pos rfl, if_pos rfl]
        congr 1
        omega
      · rw [if_neg y2, if_neg (Ne.symm y2)]
        congr 1
        omega
  · rintro σ Hc ⟨x6, x7, rfl, q, c2⟩
    rw [dtE_len, List.take_length] at c2
    refine ⟨q _ _ Z3 (Ne.symm nga_am), ?_⟩
    have sH : ∀ b o, H b = some o → upd Hc am (.dT (dtE es)) b = some o := fun b o hb => by
      by_cases e : b = am
      · rw [e, upd_same, ← hb, e, ham]
      · rw [upd_ne e]
        exact q _ _ (k3 _ _ (s2 _ _ hb) e) (ne_of_none hb nga)
    have ga1 : upd Hc am (.dT (dtE es)) ga = some (.dK (dct Vs fun z => .int (gE es z))) := by
      rw [upd_ne nga_am]
      exact c2
    generalize upd Hc am (.dT (dtE es)) = H8 at sH ga1 ⊢
    have s8 : Same H H8 := sH
    refine ⟨_, rfl, _, rfl, ga, _, rfl, get_d (.inl ga1) ht, ?_⟩
    refine ⟨_, rfl, _, rfl, ga, _, rfl, put_d (x := .int 0) ga1 ht (by omega), ?_⟩
    have e1 : dct Vs (fun y => if y = t then V.int 0 else V.int (gE es y)) = dct Vs fun y => V.int (if y = t then 0 else gE es y) := dct_congr fun y _ => by split <;> rfl
    rw [e1]
    have ga2 : upd H8 ga (.dK (dct Vs fun y => V.int (if y = t then 0 else gE es y))) ga = some (.dK (dct Vs fun y => V.int (if y = t then 0 else gE es y))) := upd_same
    refine ⟨_, rfl, _, rfl, ga, _, rfl, get_d (.inl ga2) hs, _, rfl, _, _, rfl, rfl, _, put_d ga2 hs (by omega), ?_⟩
    rw [upd_upd]
    have eZ : dct Vs (fun y => if y = s then V.int ((if s = t then 0 else gE es s) + gE es t) else V.int (if y = t then 0 else gE es y)) = dct Vs fun _ => V.int 0 := dct_congr fun y hy => by
      by_cases y1 : y = s
      · rw [if_pos y1, if_neg st, GF.ss, GF.tt]
        congr 1
        omega
      · rw [if_neg y1]
        by_cases y2 : y = t
        · rw [if_pos y2]
        · rw [if_neg y2, GF.co y hy y1 y2]
    rw [eZ]
    have s9 : Same H (upd H8 ga (.dK (dct Vs fun _ => V.int 0))) := fun b o hb => by
      rw [upd_ne (ne_of_none hb nga)]
      exact s8 _ _ hb
    have ga3 : upd H8 ga (.dK (dct Vs fun _ => V.int 0)) ga = some (.dK (dct Vs fun _ => V.int 0)) := upd_same
    generalize upd H8 ga (.dK (dct Vs fun _ => V.int 0)) = H9 at s9 ga3 ⊢
    rw [GF.tt]
    have pos := GF.pos
    refine ⟨_, rfl, rfl, _, rfl, ite2 (fun h => ?_) (fun _ => ?_)⟩
    · have := V.int.inj (of_decide_eq_true h)
      omega
    refine ⟨ga, _, ga3, trivial, fun og => ?_⟩
    generalize gg : upd H9 ga (.frz og (.dK (dct Vs fun _ => V.int 0))) = H10
    have Z10 : H10 ga = some (.frz og (.dK (dct Vs fun _ => V.int 0))) := by rw [← gg]; exact upd_same
    have k10 : ∀ b o, H b = some o → H10 b = some o := fun b o hb => by
      rw [← gg, upd_ne (ne_of_none hb nga)]
      exact s9 _ _ hb
    clear gg
    refine ⟨_, rfl, ga, og, _, rfl, Z10, fun D nD => ?_⟩
    refine lc_it (walk_values (kvs := dct Vs fun _ => V.int 0)) (fun i Hc => Same H10 Hc ∧ Hc D = some (.lst ((List.replicate i false).map V.bl))) ⟨same_upd nD, upd_same⟩ ?_ ?_ ?_
    · rintro i Hc hi ⟨c1, _⟩
      exact c1 _ _ Z10
    · rintro i y Hc Hc' hi ⟨c1, c2⟩ ⟨rfl, k0, hk⟩
      rw [dct_len] at hi
      rw [dct_at, List.getElem?_eq_getElem hi] at hk
      have ey : y = V.int 0 := (Prod.mk.inj (Option.some.inj hk)).2.symm
      subst ey
      refine ⟨rfl, tYes_if ?_⟩
      refine ⟨_, rfl, rfl, _, c2, by rw [List.length_map, List.length_replicate]; omega, fun c o hc => ?_, ?_⟩
      · rw [upd_ne (ne_of_none hc nD)]
        exact c1 _ _ hc
      · rw [upd_same, List.replicate_succ', List.map_append]
        rfl
    · rintro Hc ⟨c1, c2⟩
      refine ⟨c1 _ _ Z10, ?_⟩
      have nDg : D ≠ ga := fun z => by
        rw [z, Z10] at nD
        cases nD
      have s11 : Same H (upd Hc ga (.dK (dct Vs fun _ => V.int 0))) := fun b o hb => by
        rw [upd_ne (ne_of_none hb nga)]
        exact c1 _ _ (k10 _ _ hb)
      have d11 : upd Hc ga (.dK (dct Vs fun _ => V.int 0)) D = some (.lst ((List.replicate (dct Vs fun _ => V.int 0).length false).map V.bl)) := by
        rw [upd_ne nDg]
        exact c2
      generalize upd Hc ga (.dK (dct Vs fun _ => V.int 0)) = H11 at s11 d11 ⊢
      refine ⟨D, _, rfl, SqL.of d11, ?_⟩
      have ef : (List.replicate (dct Vs fun _ => V.int 0).length false).any id = false := by
        rw [List.any_eq_false]
        intro x hx
        rw [(List.mem_replicate.mp hx).2]
        decide
      rw [ef]
      refine ⟨_, rfl, ite2 (fun h => nomatch h) (fun _ => ?_)⟩
      exact ⟨_, rfl, k H11 s11⟩
end
end Wk
namespace Wk
open PySem PySem.Spec PyProof.Rows L2 WkD WkN LamX WkP WkE WkC
/-- the strength of a pair -/
def PairStr (Vs : List Str) (w : Wf) (u v : Str) (n : Int) : Prop := (∃ S : Sd, S u = true ∧ S v = false ∧ cutW Vs w S = n) ∧ ∀ S : Sd, S u = true → S v = false → n ≤ cutW Vs w S
section
variable {P : Program} {w : World} {K : PySem.W.Frag} {mg : Str → Option Value} {base : Heap}
theorem anyv_same {H H' : Hp} {x : V} (h : AnyV K H x) (s : Same H H') : AnyV K H' x := by
  rcases h with h | ⟨h1, t, h2, h3⟩
  · exact .inl h
  · exact .inr ⟨h1, t, tyx_same s h2, h3⟩
/-- a network, its class with check_vertex -/
structure PArg (K : PySem.W.Frag) (H : Hp) (g C dx : Addr) (fs : List (Str × V)) (a : Addr) (top : Str) (Vs : List Str) (ad : Str → Addr) (nb : Nb) (wt : Wt) : Prop where
  g : GAt K H g C dx fs a top
  lk : fs.lookup ("check_vertex" : Str) = none
  r : RowsZ H a Vs ad nb wt
  nm : ∀ u ∈ Vs, nameB u = true
theorem PArg.same {H H' : Hp} {g C dx : Addr} {fs : List (Str × V)} {a : Addr} {top : Str} {Vs : List Str} {ad : Str → Addr} {nb : Nb} {wt : Wt} (h : PArg K H g C dx fs a top Vs ad nb wt) (s : Same H H') : PArg K H' g C dx fs a top Vs ad nb wt := ⟨h.g.ext (Ext.of s), h.lk, h.r.ext (Ext.of s), h.nm⟩
def spPair (K : PySem.W.Frag) (C CU CS : Addr) : Sp := fun vs H Q E => ∃ (g dx : Addr) (fs : List (Str × V)) (a : Addr) (top : Str) (Vs : List Str) (ad : Str → Addr) (nb : Nb) (wt : Wt) (x y : V), vs = [.ref g, x, y] ∧ PArg K H g C dx fs a top Vs ad nb wt ∧ AnyV K H x ∧ AnyV K H y ∧
  (¬ IsIn x Vs → ∀ d H', Same H H' → H d = none → H' d = some (.xd [("value", x)]) → E (.ref CU) (some d) H') ∧
  (IsIn x Vs → ¬ IsIn y Vs → ∀ d H', Same H H' → H d = none → H' d = some (.xd [("value", y)]) → E (.ref CU) (some d) H') ∧
  (IsIn x Vs → x = y → ∀ d H', Same H H' → H d = none → H' d = some (.xd [("value", y)]) → E (.ref CS) (some d) H') ∧
  (∀ u v, x = .str u → y = .str v → u ∈ Vs → v ∈ Vs → u ≠ v → ∀ H', Same H H' → Q .non H')
theorem sc_check_pair : FnScope ["graph", "u", "v"] ["graph", "u", "v"] (defScope s_check_pair) := ⟨rfl, rfl, rfl, by decide +kernel, rfl, by decide +kernel, by decide +kernel⟩
theorem c_check_pair {C CU CS fI : Addr} (D : Def K mg "check_pair" s_check_pair) (TS : WkX.ExcT K mg "SameVertex" "value" CS fI) (NK : FCls K C) (CV : MethC P w K mg base (CX P w) C "check_vertex" 2 (spCheck K CU)) : Callee P w K mg base (CX P w) 3 "check_pair" ["graph", "u", "v"] (spPair K C CU CS) := by
  obtain ⟨f, fd, F, g⟩ := D
  refine ⟨f, fd, F.ok sc_check_pair (fun vs H Q E h => ?_) (fun cdv A outer s H vs Q E hr h => ?_), g, F.kp, F.bindsN (fun _ _ _ _ _ _ us hl => match us, hl with | [_, _, _], _ => rfl)⟩
  · obtain ⟨g, dx, fs, a, top, Vs, ad, nb, wt, x, y, rfl, _⟩ := h
    rfl
  have hr2 : Room 2 _ := hr
  refine ⟨_, (pss_cons (ps_expr (WkC.pe_mt CV NK.cls hr2 (passes_call (takes_of rfl rfl rfl rfl) fun _ _ _ _ h => h) (pv 0) (pa_cons (pv 1) pa_nil)))
      (pss_cons (ps_expr (WkC.pe_mt CV NK.cls hr2 (passes_call (takes_of rfl rfl rfl rfl) fun _ _ _ _ h => h) (pv 0) (pa_cons (pv 2) pa_nil)))
      (pss_one (ps_if (pt_cmpR op_eq (pv 1) (pv 2) (nomark _))
      (pss_one (WkK.ps_raiseE rfl TS hr (takes_of rfl rfl rfl rfl) (pa_cons (pv 2) pa_nil))) pss_nil)))), ?_⟩
  obtain ⟨g, dx, fs, a, top, Vs, ad, nb, wt, x, y, rfl, A, ax, ay, k1, k2, k3, k4⟩ := h
  refine ⟨_, rfl, g, dx, fs, rfl, A.g.ins, A.lk, _, rfl, g, C, dx, fs, a, top, Vs, ad, nb, wt, x, rfl, A.g, A.r, A.nm, ax, fun hx H1 s1 => ?_, k1⟩
  have A1 := A.same s1
  refine ⟨_, rfl, g, dx, fs, rfl, A1.g.ins, A.lk, _, rfl, g, C, dx, fs, a, top, Vs, ad, nb, wt, y, rfl, A1.g, A1.r, A.nm, anyv_same ay s1, fun hy H2 s2 => ?_, fun hy d H2 s2 nd_ hd => k2 hx hy d H2 (s1.trans s2) (np_of s1 nd_) hd⟩
  obtain ⟨u, hu, rfl⟩ := id hx
  obtain ⟨v, hv, rfl⟩ := id hy
  have s12 := s1.trans s2
  refine ⟨_, rfl, _, rfl, rfl, _, rfl, ?_⟩
  refine ite2 (fun hb => ?_) (fun hb => ?_)
  · have e : V.str u = V.str v := of_decide_eq_true hb
    refine ⟨_, rfl, _, rfl, fun d nd_ => k3 hx e d _ (s12.trans (same_upd nd_)) (np_of s12 nd_) upd_same⟩
  · have e : ¬ V.str u = V.str v := fun z => hb (decide_eq_true z)
    exact k4 u v rfl rfl hu hv (fun z => e (by rw [z])) H2 s12
def spPairS (K : PySem.W.Frag) (C CU CS : Addr) : Sp := fun vs H Q E => ∃ (g dx : Addr) (fs : List (Str × V)) (a : Addr) (top : Str) (Vs : List Str) (ad : Str → Addr) (nb : Nb) (wt : Wt) (x y : V), vs = [.ref g, x, y] ∧ PArg K H g C dx fs a top Vs ad nb wt ∧ AnyV K H x ∧ AnyV K H y ∧ Sym Vs nb wt ∧ (∀ u ∈ Vs, ∀ v ∈ nb u, 0 ≤ wt u v) ∧ (∀ u ∈ Vs, (nb u).length < 1000) ∧ Vs.length < 1000 ∧ Vs.Nodup ∧
  (¬ IsIn x Vs → ∀ d H', Same H H' → H d = none → H' d = some (.xd [("value", x)]) → E (.ref CU) (some d) H') ∧
  (IsIn x Vs → ¬ IsIn y Vs → ∀ d H', Same H H' → H d = none → H' d = some (.xd [("value", y)]) → E (.ref CU) (some d) H') ∧
  (IsIn x Vs → x = y → ∀ d H', Same H H' → H d = none → H' d = some (.xd [("value", y)]) → E (.ref CS) (some d) H') ∧
  (∀ u v, x = .str u → y = .str v → u ∈ Vs → v ∈ Vs → u ≠ v → ∀ n H', Same H H' → PairStr Vs (vl0 nb wt) u v n → Q (.int n) H')
theorem resid_pair {Vs : List Str} {nb : Nb} {wt lf : Wt} {s t : Str} {n : Int} {fl : List Str} {lev : Str → Int} (R : Resid Vs (vl0 nb wt) s t n (vl0 nb lf)) (nd : Vs.Nodup) (L : Lvl Vs nb lf s fl lev fl.length) (ht : t ∉ fl) : PairStr Vs (vl0 nb wt) s t n :=
  ⟨⟨fun u => decide (u ∈ fl), decide_eq_true L.st, decide_eq_false ht, L.cut nd R ht⟩, fun S h1 h2 => R.le nd (L.sub _ L.st) h1 h2⟩
theorem sc_pair_strength : FnScope ["network", "u", "v"] ["network", "u", "v"] (defScope s_pair_strength) := ⟨rfl, rfl, rfl, by decide +kernel, rfl, by decide +kernel, by decide +kernel⟩
theorem c_pair_strength {C CU CS S : Addr} (D : Def K mg "pair_strength" s_pair_strength) (CP : Callee P w K mg base (CX P w) 3 "check_pair" ["graph", "u", "v"] (spPair K C CU CS)) (SC : SCls K S) (SM : MakeC P w K mg base CX0 S "Search" 1 (spSea K)) (MR : WkV.MethD P w K mg base CX0 S "run" 3 (spRun K S) [.non]) :
    Callee P w K mg base (CX P w) 4 "pair_strength" ["network", "u", "v"] (spPairS K C CU CS) := by
  obtain ⟨f, fd, F, g⟩ := D
  refine ⟨f, fd, F.ok sc_pair_strength (fun vs H Q E h => ?_) (fun cdv A outer s H vs Q E hr h => ?_), g, F.kp, F.bindsN (fun _ _ _ _ _ _ us hl => match us, hl with | [_, _, _], _ => rfl)⟩
  · obtain ⟨g, dx, fs, a, top, Vs, ad, nb, wt, x, y, rfl, _⟩ := h
    rfl
  have hr3 : Room 3 _ := hr
  have hr2 : Room 2 _ := hr.mono (by decide)
  refine ⟨_, (pss_cons (ps_expr (pe_c CP hr3 (passes_call (takes_of rfl rfl rfl rfl) fun _ _ _ _ h => h) (pa_cons (pv 0) (pa_cons (pv 1) (pa_cons (pv 2) pa_nil)))))
      (pss_one (ps_ret (WkV.pe_mtD0 MR SC.cls hr3 pass0 (WkC.pe_mk SM hr2 pass0 (pa_cons (pv 0) (pa_cons (pv 1) (pa_cons (pv 2) pa_nil)))))))), ?_⟩
  obtain ⟨g, dx, fs, a, top, Vs, ad, nb, wt, x, y, rfl, A, ax, ay, sy, wnn, hnl, hVl, hVn, k1, k2, k3, k4⟩ := h
  refine ⟨_, rfl, _, rfl, _, rfl, g, dx, fs, a, top, Vs, ad, nb, wt, x, y, rfl, A, ax, ay, k1, k2, k3, fun u v eu ev hu hv ne H1 s1 => ?_⟩
  subst eu ev
  have A1 := A.same s1
  refine ⟨_, rfl, _, rfl, _, rfl, fun q dq nq ndq neq => ?_⟩
  have s2 : Same H1 (upd H1 dq (.own q)) := same_upd ndq
  have s3 : Same (upd H1 dq (.own q)) (upd (upd H1 dq (.own q)) q (.ins S dq [])) := same_upd (by rw [upd_ne (Ne.symm neq)]; exact nq)
  have hq3 : upd (upd H1 dq (.own q)) q (.ins S dq []) q = some (.ins S dq []) := upd_same
  generalize upd (upd H1 dq (.own q)) q (.ins S dq []) = H3 at s3 hq3
  have s13 := s2.trans s3
  have A3 := A1.same s13
  have qg : q ≠ g := Ne.symm (ne_of_none A1.g.ins nq)
  refine ⟨q, S, dq, g, C, dx, fs, a, top, u, v, Vs, ad, nb, wt, rfl, hq3, SC, A3.g, A3.r, hVn, hVl, qg, fun la lad H4 b4 hq4 nla nlad R4 => ?_⟩
  refine ⟨rfl, q, dq, _, rfl, hq4, rfl, ?_⟩
  have s03 : Same H H3 := s1.trans s13
  have nqH3 : ∀ b o, H b = some o → b ≠ q := fun b o hb => ne_of_none (s1 _ _ hb) nq
  have s04 : Same H H4 := fun b o hb => b4 _ _ (s03 _ _ hb) (nqH3 b o hb)
  refine ⟨q, dq, a, la, u, v, Vs, ad, lad, nb, wt, .non, rfl, hq4, A.r.ext (Ext.of s04), R4, sy, wnn, hnl, hVl, hu, ne, .inl rfl, fun n lf fl lev H5 fr5 R5 RS5 _ L5 _ h5 => ?_⟩
  have ht : v ∉ fl := by
    rcases h5 with ⟨L, z, _⟩ | h5
    · cases z
    · exact h5
  refine k4 u v rfl rfl hu hv ne n H5 (fun b o hb => fr5 _ _ (s04 _ _ hb) fun z hz => ?_) (resid_pair RS5 hVn L5 ht)
  have h3 := nlad z hz
  exact ne_of_none (s03 _ _ hb) h3
end
end Wk
/-! WkGf: `for … in …:` in a generator def's body. -/
namespace PySem
open Sem (wp)
section
variable {prog : Program} {w : World} {A : Around} {R : GenEnd} {Y : Protocol} {n : Nat} {s₀ : Shared} {c : Code} {fs : List Frame} {s : Shared} {env : Env}
  {K : Flow → Sem Fin} {H : Value → Sem Fin} {gd : Bool → Bool} {lv : List Value → List Value}
end
end PySem

namespace L2
open PySem PySem.Spec PyProof.Rows GenW
section
variable {X : Cx}
end
end L2
/-! WkZg: a generator that is made and never begun; list(zip(range(0), g)). -/
namespace PySem
open Sem (wp)
section
variable {prog : Program} {w : World} {A : Around} {E : Value → Shared → Prop} {s : Shared}
end
end PySem
namespace L2
open PySem PySem.Spec PyProof.Rows GenW
section
variable {X : Cx} {k : Nat} {f C : Addr} {fd : FuncData} {ps : List Str} {sp : SpG} {dvs : List V} {ds : List Value} {x m : Str} {p pos pos' apos : Pos} {o : Expr} {ta : TE}
end
end L2
/-! WkGs: `if` in a generator def's body; generator defs with *v; list(g) inside try. -/
namespace L2
open PySem PySem.Spec PyProof.Rows GenW
section
variable {X : Cx}
/-! ### if -/
end
/-! ### a generator def with *v -/
/-- a generator def, by the values of its call -/
structure GFnR (P : Program) (w : World) (K : PySem.W.Frag) (mg : Str → Option Value) (base : Heap) (k : Nat) (f : Addr) (sp : SpG) : Prop where
  run : ∀ (A : Around) (outer : List Env) (s : Shared) (H : Hp) (us : List Value) (vs : List V) (Q : List V → Hp → Prop) (E : XK), Room k A → Env0 P w K mg base A outer s H → Vals vs us → sp vs H Q E →
    codeAny (model P w) A (.call (.ref f) ⟨us, []⟩) (fun r s' => match r with
      | .ok (.ret u) => ∃ H2 sc, (∀ b o, H b = some o → H2 b = some o) ∧ Un (frs outer) [] H H2 s.heap sc.heap ∧ HOk P w H2 sc.heap ∧ AllBare sc.gens ∧ sc.os = s.os ∧ s.heap.objs.size ≤ sc.heap.objs.size ∧ (∀ b o, s.heap.get? b = some o → sc.heap.get? b = some o) ∧ GMade P w k outer H2 sc [] Q E u s'
      | _ => False) s
/-! ### calls of it -/
section
variable {X : Cx} {k : Nat} {f : Addr} {sp : SpG} {x : Str} {p pos pos' : Pos} {e : Expr} {es : List Expr} {t : TA}
/-! ### list(g), what it may let out told by the slots -/
end
end L2
namespace WkV
open PySem PySem.Spec PyProof.Rows L2
section
variable {X : Cx}
end
end WkV
/-! WkGm: o.m() of a generator method with *names; statements that are not reached -/
namespace WkGm
open PySem PySem.Spec PyProof.Rows L2
/-- a statement that is never reached -/
def tNever : TS := fun _ _ _ => False
theorem ps_never {X : Cx} {st : Stmt} : PS X st tNever := ⟨fun _ _ _ _ _ _ h => h.elim⟩
section
variable {X : Cx} {k : Nat} {f C : Addr} {sp : SpG} {m : Str} {apos pos' : Pos} {o : Expr} {ta : TE}
end
end WkGm
namespace Wk
open PySem PySem.Spec PyProof.Rows L2 WkD WkN LamX WkP WkE WkC
section
variable {P : Program} {w : World} {K : PySem.W.Frag} {mg : Str → Option Value} {base : Heap}
/-! ### greatest_amounts with any limit -/
def spGreatA (K : PySem.W.Frag) : Sp := fun vs H Q _ => ∃ (g C dx : Addr) (fs : List (Str × V)) (a : Addr) (top s t : Str) (Vs : List Str) (ad : Str → Addr) (nb : Nb) (wt : Wt) (lv : V), vs = [.ref g, .str s, .str t, lv] ∧ GAt K H g C dx fs a top ∧ RowsZ H a Vs ad nb wt ∧ Sym Vs nb wt ∧ (∀ u ∈ Vs, ∀ v ∈ nb u, 0 ≤ wt u v) ∧ (∀ u ∈ Vs, (nb u).length < 1000) ∧ Vs.length < 1000 ∧ Vs.Nodup ∧ s ∈ Vs ∧ s ≠ t ∧ (lv = .non ∨ ∃ L, lv = .int L ∧ 0 ≤ L) ∧
  ∀ am n lf H', Same H H' → H am = none → H' am = some (.dT (dtE (flowL nb wt lf Vs))) → Resid Vs (vl0 nb wt) s t n (vl0 nb lf) → Clean Vs (vl0 nb wt) (vl0 nb lf) s t → (∀ L, lv = .int L → n ≤ L) → ((∃ L, lv = .int L ∧ n = L) ∨ PairStr Vs (vl0 nb wt) s t n) → Q (.ref am) H'
theorem sc_greatest : FnScope ["graph", "source", "target", "limit", "search"] ["graph", "source", "target", "limit"] (defScope s_greatest_amounts) := ⟨rfl, rfl, rfl, by decide +kernel, rfl, by decide +kernel, by decide +kernel⟩
theorem c_greatestA {S : Addr} {f : Addr} {fd : FuncData} {dvs : List V} (F : FunD K "greatest_amounts" "greatest_amounts" (defArgs s_greatest_amounts) (defBody s_greatest_amounts) (defScope s_greatest_amounts) dvs [] f fd) (SC : SCls K S) (SM : MakeC P w K mg base CX0 S "Search" 1 (spSea K)) (MR : MethC P w K mg base CX0 S "run" 3 (spRun K S)) (MAr : MethC P w K mg base CX0 S "arcs" 1 (spArcs K)) :
    FnOk P w K mg base CX0 4 f fd ["graph", "source", "target", "limit"] (spGreatA K) := by
  refine F.ok sc_greatest (fun vs H Q E h => ?_) (fun cdv A outer s H vs Q E hr h => ?_)
  · obtain ⟨g, C, dx, fs, a, top, s, t, Vs, ad, nb, wt, L, rfl, _⟩ := h
    rfl
  have hr3 : Room 3 _ := hr
  have hr2 : Room 2 _ := hr.mono (by decide)
  have hr1 : Room 1 _ := hr.mono (by decide)
  have nd := sc_greatest.nd
  refine ⟨_, PSs.nox (pss_cons (ps_set (i := 4) nd rfl (Or.inl rfl) (WkC.pe_mk SM hr2 pass0 (pa_cons (pv 0) (pa_cons (pv 1) (pa_cons (pv 2) pa_nil)))))
      (pss_cons (ps_expr (WkC.pe_mt MR SC.cls hr3 pass0 (pv 4) (pa_cons (pv 3) pa_nil)))
      (pss_one (ps_ret (WkV.pe_mt0 MAr SC.cls hr1 pass0 (pv 4)))))), ?_⟩
  obtain ⟨g, C, dx, fs, a, top, u, v, Vs, ad, nb, wt, lv, rfl, G, RZ, sy, wnn, hnl, hVl, hVn, hu, ne, hlv, k⟩ := h
  refine ⟨_, rfl, _, rfl, _, rfl, fun q dq nq ndq neq => ?_⟩
  have s2 : Same H (upd H dq (.own q)) := same_upd ndq
  have s3 : Same (upd H dq (.own q)) (upd (upd H dq (.own q)) q (.ins S dq [])) := same_upd (by rw [upd_ne (Ne.symm neq)]; exact nq)
  have hq3 : upd (upd H dq (.own q)) q (.ins S dq []) q = some (.ins S dq []) := upd_same
  generalize upd (upd H dq (.own q)) q (.ins S dq []) = H3 at s3 hq3
  have s13 := s2.trans s3
  have qg : q ≠ g := Ne.symm (ne_of_none G.ins nq)
  refine ⟨q, S, dq, g, C, dx, fs, a, top, u, v, Vs, ad, nb, wt, rfl, hq3, SC, G.ext (Ext.of s13), RZ.ext (Ext.of s13), hVn, hVl, qg, fun la lad H4 b4 hq4 nla nlad R4 => ?_⟩
  have s04 : Same H H4 := fun b o hb => b4 _ _ (s13 _ _ hb) (ne_of_none hb nq)
  refine ⟨rfl, _, rfl, q, dq, _, rfl, hq4, rfl, _, rfl, ?_⟩
  refine ⟨q, dq, a, la, u, v, Vs, ad, lad, nb, wt, lv, rfl, hq4, RZ.ext (Ext.of s04), R4, sy, wnn, hnl, hVl, hu, ne, hlv, fun n lf fl lev H5 fr5 R5 RS5 CL5 L5 le5 h5 => ?_⟩
  have s05 : Same H H5 := fun b o hb => fr5 _ _ (s04 _ _ hb) fun z hz => ne_of_none (s13 _ _ hb) (nlad z hz)
  have hq5 : H5 q = some (.ins S dq (seaF a la u v)) := fr5 _ _ hq4 fun z hz => ne_of hq4 (R4.row z hz) (by intro z; cases z)
  refine ⟨_, rfl, q, dq, _, rfl, hq5, rfl, ?_⟩
  refine ⟨q, S, dq, a, la, u, v, Vs, ad, lad, nb, wt, lf, rfl, hq5, SC, RZ.ext (Ext.of s05), R5, fun z hz => ⟨sy.nd z hz, hnl z hz⟩, hVl, fun am H8 s8 nam ham => ?_⟩
  exact k am n lf H8 (s05.trans s8) (np_of s05 nam) ham RS5 CL5 le5 (h5.imp id fun ht => resid_pair RS5 hVn L5 ht)
theorem putK_le {κ : Type} [DecidableEq κ] (c : List (κ × V)) (k : κ) (x : V) : (putK c k x).length ≤ c.length + 1 := by
  unfold putK
  split
  · rw [List.length_map]
    omega
  · rw [List.length_append]
    simp
theorem flowL_le {nb : Nb} {wt lf : Wt} {k : Nat} : ∀ {Vs : List Str}, (∀ u ∈ Vs, (nb u).length ≤ k) → (flowL nb wt lf Vs).length ≤ Vs.length * k
  | [], _ => by simp [flowL]
  | u :: Vs, h => by
    have ih := flowL_le (lf := lf) (wt := wt) (Vs := Vs) fun v hv => h v (List.mem_cons_of_mem _ hv)
    have h1 : (flowR wt lf u (nb u)).length ≤ k := by
      unfold flowR
      rw [List.length_map]
      exact Nat.le_trans (List.length_filter_le _ _) (h u List.mem_cons_self)
    unfold flowL at ih ⊢
    rw [List.flatMap_cons, List.length_append, List.length_cons, Nat.succ_mul]
    omega
theorem upd_fact' {H H' : Hp} {x : Addr} {o : HO} (gg : upd H x o = H') : H' x = some o ∧ ∀ b u, H b = some u → b ≠ x → H' b = some u := by
  subst gg
  exact ⟨upd_same, fun b u hb hn => by rw [upd_ne hn]; exact hb⟩
/-! ### flows as objects -/
structure FlCls (K : PySem.W.Frag) (C : Addr) : Prop where
  cls : Cls K C
  np : NoAttr K C "pair"
  nw : NoAttr K C "whole"
  ns : NoAttr K C "sent"
def flowF (pa : Addr) (n : Int) (se : Addr) : List (Str × V) := [("pair", .ref pa), ("whole", .int n), ("sent", .ref se)]
/-- Flow(network, u, v, a good flow) -/
def spFlowI (K : PySem.W.Frag) (FC C CU CS : Addr) : Sp := fun vs H Q _ => ∃ (x fx g dx am : Addr) (fs : List (Str × V)) (a : Addr) (top s t : Str) (n : Int) (es : EdD) (Vs : List Str) (ad : Str → Addr) (nb : Nb) (wt : Wt), vs = [.ref x, .ref g, .str s, .str t, .ref am] ∧ H x = some (.ins FC fx []) ∧ x ≠ g ∧ PArg K H g C dx fs a top Vs ad nb wt ∧ Sym Vs nb wt ∧ Vs.Nodup ∧ Vs.length < 1000 ∧ s ∈ Vs ∧ t ∈ Vs ∧ s ≠ t ∧ H am = some (.dT (dtE es)) ∧ es.length ≤ 2000 ∧ GoodF Vs nb wt s t n es ∧
  ∀ pa se H', (∀ b o, H b = some o → b ≠ x → H' b = some o) → H' x = some (.ins FC fx (flowF pa n se)) → Q .non H'
theorem sc_fl_init : FnScope ["self", "network", "source", "target", "amounts", "total", "key"] ["self", "network", "source", "target", "amounts"] (defScope s_Flow_init) := ⟨rfl, rfl, rfl, by decide +kernel, rfl, by decide +kernel, by decide +kernel⟩
theorem ok_fl_init {FC C CU CS : Addr} {f : Addr} {fd : FuncData} (B : Bi mg) (F : FnP K "__init__" "Flow.__init__" s_Flow_init f fd) (SC : FlCls K FC) (CP : Callee P w K mg base (CX P w) 3 "check_pair" ["graph", "u", "v"] (spPair K C CU CS)) (CF : Callee P w K mg base CX0 3 "flow_total" ["graph", "source", "target", "value"] (spFlowT K)) :
    FnOk P w K mg base (CX P w) 4 f fd ["self", "network", "source", "target", "amounts"] (spFlowI K FC C CU CS) := by
  refine F.ok sc_fl_init (fun vs H Q E h => ?_) (fun cdv A outer s H vs Q E hr h => ?_)
  · obtain ⟨x, fx, g, dx, am, fs, a, top, s, t, n, es, Vs, ad, nb, wt, rfl, _⟩ := h
    rfl
  have nd := sc_fl_init.nd
  have hu := hu_of hr
  have hr3 : Room 3 _ := hr
  refine ⟨_, (pss_cons (ps_expr (pe_c CP hr3 (passes_call (takes_of rfl rfl rfl rfl) fun _ _ _ _ h => h) (pa_cons (pv 1) (pa_cons (pv 2) (pa_cons (pv 3) pa_nil)))))
      (pss_cons (ps_set (i := 5) nd rfl (Or.inl rfl) (pe_c CF hr3 pass0 (pa_cons (pv 1) (pa_cons (pv 2) (pa_cons (pv 3) (pa_cons (pv 4) pa_nil))))))
      (pss_cons (ps_if (pt_cmpR op_isN (pv 5) pe_non (nomark _))
      (pss_one WkGm.ps_never) pss_nil)
      (pss_cons (ps_fld (pv 0) (pe_tup (pa_cons (pv 2) (pa_cons (pv 3) pa_nil))) rfl)
      (pss_cons (ps_fld (pv 0) (pv 5) rfl)
      (pss_one (ps_fld (pv 0) (WkB.pe_dcT (own := [("key", 6)]) (Nat.lt_of_succ_lt hu) (by rfl) nd (pi_list (pe_callB (WkD.cr_sortedTT rfl hr.units) (by rfl) B.n_sorted (by decide +kernel) (pa_cons (pv 4) pa_nil))) (blkOk_by (by kernel_rfl)) (fun _ _ _ _ _ => (pg_name (i := 6) nd rfl (Or.inl rfl))) (fun _ _ _ _ _ => pts_nil) (fun _ _ _ _ _ => (pv 6)) (fun _ _ _ _ _ => (pe_dget hu (pv 4) (pv 6) (fun _ _ => rfl)))) rfl))))))), ?_⟩
  obtain ⟨x, fx, g, dx, am, fs, a, top, u, v, n, es, Vs, ad, nb, wt, rfl, hx, nxg, PA, sy, nV, lV, hu', hv', ne, ham, les, gf, k⟩ := h
  have big : 20000 < sizeLine := by decide
  have anyS : ∀ z, z ∈ Vs → AnyV K H (.str z) := fun z hz => .inl ⟨z, rfl, name_len (PA.nm z hz)⟩
  refine ⟨_, rfl, _, rfl, _, rfl, g, dx, fs, a, top, Vs, ad, nb, wt, .str u, .str v, rfl, PA, anyS u hu', anyS v hv', fun h => absurd ⟨u, hu', rfl⟩ h, fun _ h => absurd ⟨v, hv', rfl⟩ h, fun _ e => absurd (by injection e) ne, fun u2 v2 eu ev _ _ _ H1 s1 => ?_⟩
  cases eu
  cases ev
  have PA1 := PA.same s1
  refine ⟨_, rfl, _, rfl, _, rfl, _, rfl, g, C, dx, am, fs, a, top, u, v, n, es, Vs, ad, nb, wt, rfl, PA1.g, PA1.r, PA.nm, sy, nV, lV, hu', hv', ne, s1 _ _ ham, gf, fun H2 s2 => ?_⟩
  have s12 := s1.trans s2
  refine ⟨_, rfl, rfl, _, rfl, ?_⟩
  refine ite2 (fun h => absurd h (by simp)) (fun _ => ?_)
  refine ⟨_, rfl, _, rfl, by show 2 ≤ sizeLine; omega, fun pa npa => ?_⟩
  have s3 : Same H2 (upd H2 pa (.tup [.str u, .str v])) := same_upd npa
  have s13 := s12.trans s3
  generalize upd H2 pa (.tup [.str u, .str v]) = H3 at s3 s13
  refine ⟨_, rfl, x, FC, fx, _, rfl, s13 _ _ hx, SC.cls, SC.np, by show 0 < 1000; decide, ?_⟩
  generalize gg : upd H3 x _ = H4
  obtain ⟨hx4, k4⟩ := upd_fact' gg
  clear gg
  refine ⟨_, rfl, _, rfl, x, FC, fx, _, rfl, hx4, SC.cls, SC.nw, by show 1 < 1000; decide, ?_⟩
  generalize gg : upd H4 x _ = H5
  obtain ⟨hx5, k5⟩ := upd_fact' gg
  clear gg
  have e05 : ∀ b o, H b = some o → b ≠ x → H5 b = some o := fun b o hb hne => k5 _ _ (k4 _ _ (s13 _ _ hb) hne) hne
  have ham5 : H5 am = some (.dT (dtE es)) := e05 _ _ ham (ne_of ham hx (by intro z; cases z))
  refine ⟨_, rfl, am, _, es.map (·.1), rfl, .inl ham5, dtE_keys, fun bs p1 eb n1 => ?_⟩
  obtain ⟨ks, eks⟩ : ∃ ks, ks = (es.map (·.1)).mergeSort (PySem.W.dataLe false encP) := ⟨_, rfl⟩
  rw [← eks] at eb
  have lks : ks.length = es.length := by rw [eks, List.length_mergeSort, List.length_map]
  have lbs : bs.length = ks.length := eb.length
  have s6 : Same H5 (upd H5 p1 (.lst (bs.map V.ref))) := same_upd n1
  have L1 : upd H5 p1 (.lst (bs.map V.ref)) p1 = some (.lst (bs.map V.ref)) := upd_same
  generalize upd H5 p1 (.lst (bs.map V.ref)) = H6 at s6 L1
  have pm := List.mergeSort_perm (es.map (·.1)) (PySem.W.dataLe false encP)
  rw [← eks] at pm
  refine ⟨p1, rfl, ⟨_, SqL.of L1⟩, fun D nD => ?_⟩
  refine WkB.dcT_it (walk_list (xs := bs.map V.ref)) (fun i Hc => Same H6 Hc ∧ ∃ kvs, Hc D = some (.dT kvs) ∧ kvs.length ≤ i) ⟨same_upd nD, [], upd_same, Nat.le_refl _⟩ ?_ ?_ ?_
  · rintro i Hc hi ⟨c1, _⟩
    exact SqL.of (c1 _ _ L1)
  · rintro i y Hc Hc' hi ⟨c1, kvs, c2, c3⟩ ⟨rfl, hy⟩
    rw [List.length_map] at hi
    rw [List.getElem?_map, List.getElem?_eq_getElem hi] at hy
    cases hy
    have hi2 : i < ks.length := by omega
    obtain ⟨pr, epr⟩ : ∃ pr, pr = ks[i] := ⟨_, rfl⟩
    have hb : H5 bs[i] = some (.tup [.str pr.1, .str pr.2]) := by
      rw [epr]
      exact each_get eb i hi hi2
    have hpk : pr ∈ es.map (·.1) := pm.mem_iff.mp (epr ▸ List.getElem_mem hi2)
    generalize bs[i] = b at hb ⊢
    have s5c := s6.trans c1
    have hb1 := s5c _ _ hb
    refine ⟨rfl, tYes_if ⟨_, rfl, _, rfl, _, rfl, am, _, rfl, .inr ⟨_, kP pr, b, .inl (s5c _ _ ham5), rfl, hb1, (dtE_val gf.nd (wOf_mem gf.nd hpk)).symm⟩, kvs, kP pr, b, rfl, c2, hb1, by omega, fun c o hc => ?_, _, upd_same, ?_⟩⟩
    · rw [upd_ne (ne_of_none hc nD)]
      exact c1 _ _ hc
    · exact Nat.le_trans (putK_le _ _ _) (by omega)
  · rintro Hc ⟨c1, kvs, c2, c3⟩
    have s5c := s6.trans c1
    refine ⟨_, rfl, x, FC, fx, _, rfl, s5c _ _ hx5, SC.cls, SC.ns, by show 2 < 1000; decide, ?_⟩
    refine k pa D _ (fun b o hb hne => ?_) upd_same
    rw [upd_ne hne]
    exact s5c _ _ (e05 _ _ hb hne)
def spFlTot (K : PySem.W.Frag) (FC : Addr) : Sp := fun vs H Q _ => ∃ (x fx pa se : Addr) (n : Int), vs = [.ref x] ∧ H x = some (.ins FC fx (flowF pa n se)) ∧ Q (.int n) H
theorem sc_fl_total : FnScope ["self"] ["self"] (defScope s_Flow_total) := ⟨rfl, rfl, rfl, by decide +kernel, rfl, by decide +kernel, by decide +kernel⟩
theorem ok_fl_total {FC : Addr} {f : Addr} {fd : FuncData} (F : FnP K "total" "Flow.total" s_Flow_total f fd) (SC : FlCls K FC) : FnOk P w K mg base CX0 1 f fd ["self"] (spFlTot K FC) := by
  refine F.ok sc_fl_total (fun vs H Q E h => ?_) (fun cdv A outer s H vs Q E hr h => ?_)
  · obtain ⟨x, fx, pa, se, n, rfl, _⟩ := h
    rfl
  refine ⟨_, PSs.nox (pss_one (ps_ret (pe_fld (pv 0) rfl))), ?_⟩
  obtain ⟨x, fx, pa, se, n, rfl, hx, k⟩ := h
  exact ⟨_, rfl, x, FC, fx, _, _, rfl, hx, SC.cls, SC.nw, rfl, k⟩
/-- Flow.greatest(network, u, v, limit) -/
def spFlG (K : PySem.W.Frag) (FC C : Addr) : Sp := fun vs H Q _ => ∃ (g dx : Addr) (fs : List (Str × V)) (a : Addr) (top s t : Str) (Vs : List Str) (ad : Str → Addr) (nb : Nb) (wt : Wt) (lv : V), vs = [.ref FC, .ref g, .str s, .str t, lv] ∧ PArg K H g C dx fs a top Vs ad nb wt ∧ GOk Vs nb wt ∧ s ∈ Vs ∧ t ∈ Vs ∧ s ≠ t ∧ (lv = .non ∨ ∃ L, lv = .int L ∧ 1 ≤ L) ∧
  ∀ x fx pa se n H', Same H H' → H' x = some (.ins FC fx (flowF pa n se)) → (∀ L, lv = .int L → n ≤ L) → (∀ S : Sd, S s = true → S t = false → n ≤ cutW Vs (vl0 nb wt) S) → ((∃ L, lv = .int L ∧ n = L) ∨ PairStr Vs (vl0 nb wt) s t n) → Q (.ref x) H'
theorem sc_fl_greatest : FnScope ["cls", "network", "source", "target", "limit"] ["cls", "network", "source", "target", "limit"] (defScope s_Flow_greatest) := ⟨rfl, rfl, rfl, by decide +kernel, rfl, by decide +kernel, by decide +kernel⟩
theorem ok_fl_greatest {FC C CU CS : Addr} {kws : List (Str × V)} {f : Addr} {fd : FuncData} (F : FunD K "greatest" "Flow.greatest" (defArgs s_Flow_greatest) (defBody s_Flow_greatest) (defScope s_Flow_greatest) [] kws f fd) (CP : Callee P w K mg base (CX P w) 3 "check_pair" ["graph", "u", "v"] (spPair K C CU CS)) (CG : Callee P w K mg base CX0 4 "greatest_amounts" ["graph", "source", "target", "limit"] (spGreatA K)) (M : WkCm.MakeV P w K mg base (CX P w) FC 4 (spFlowI K FC C CU CS) []) :
    FnOk P w K mg base (CX P w) 6 f fd ["cls", "network", "source", "target", "limit"] (spFlG K FC C) := by
  refine F.ok sc_fl_greatest (fun vs H Q E h => ?_) (fun cdv A outer s H vs Q E hr h => ?_)
  · obtain ⟨g, dx, fs, a, top, s, t, Vs, ad, nb, wt, lv, rfl, _⟩ := h
    rfl
  have nd := sc_fl_greatest.nd
  have hu := hu_of hr
  have hr5 : Room 5 _ := hr
  have hr4 : Room 4 _ := hr.mono (by decide)
  have hr3 : Room 3 _ := hr.mono (by decide)
  refine ⟨_, (pss_cons (ps_expr (pe_c CP hr3 (passes_call (takes_of rfl rfl rfl rfl) fun _ _ _ _ h => h) (pa_cons (pv 1) (pa_cons (pv 2) (pa_cons (pv 3) pa_nil)))))
      (pss_one (ps_ret (WkCm.pe_mkL (i := 0) M hr5 rfl (Or.inl rfl) (passes_call (takes_of rfl rfl rfl rfl) fun _ _ _ _ h => h) (pa_cons (pv 1) (pa_cons (pv 2) (pa_cons (pv 3) (pa_cons (pe_c CG hr4 pass0 (pa_cons (pv 1) (pa_cons (pv 2) (pa_cons (pv 3) (pa_cons (pv 4) pa_nil))))) pa_nil)))))))), ?_⟩
  obtain ⟨g, dx, fs, a, top, u, v, Vs, ad, nb, wt, lv, rfl, PA, go, hu', hv', ne, hlv, k⟩ := h
  have anyS : ∀ z, z ∈ Vs → AnyV K H (.str z) := fun z hz => .inl ⟨z, rfl, name_len (PA.nm z hz)⟩
  have few := go.few
  have nbl : ∀ y ∈ Vs, (nb y).length ≤ Vs.length := fun y hy => (go.sym.nd y hy).length_le_of_subset fun z hz => (go.sym.mem y hy z hz).1
  refine ⟨_, rfl, _, rfl, _, rfl, g, dx, fs, a, top, Vs, ad, nb, wt, .str u, .str v, rfl, PA, anyS u hu', anyS v hv', fun h => absurd ⟨u, hu', rfl⟩ h, fun _ h => absurd ⟨v, hv', rfl⟩ h, fun _ e => absurd (by injection e) ne, fun u2 v2 eu ev _ _ _ H1 s1 => ?_⟩
  cases eu
  cases ev
  have PA1 := PA.same s1
  refine ⟨rfl, _, rfl, _, rfl, _, rfl, _, rfl, _, rfl, _, rfl, _, rfl, g, C, dx, fs, a, top, u, v, Vs, ad, nb, wt, lv, rfl, PA1.g, PA1.r, go.sym, fun y hy z hz => by have := (go.wts y hy z hz).1; omega, fun y hy => by have := nbl y hy; omega, by omega, go.nd, hu', ne, hlv.imp id fun ⟨L, e, h⟩ => ⟨L, e, by omega⟩, fun am n lf H2 s2 nam ham RS CL le h5 => ?_⟩
  have n0 : 0 < n := by
    rcases h5 with ⟨L, e, rfl⟩ | ⟨⟨S, h1, h2, e⟩, _⟩
    · rcases hlv with z | ⟨L', e', h⟩
      · rw [e] at z; cases z
      · rw [e] at e'; cases e'; omega
    · exact flow_pos go.nd go.sym (fun a ha b hb => (go.wts a ha b hb).1) hu' (go.con u hu' v hv') h1 h2 e
  have gf := flow_good go.nd go.sym RS CL hu' hv' ne n0
  have PA2 := PA1.same s2
  intro x fx nx nfx nxf
  have s3 : Same H2 (upd (upd H2 fx (.own x)) x (.ins FC fx [])) := fun b o hb => by
    rw [upd_ne (ne_of_none hb nx), upd_ne (ne_of_none hb nfx)]
    exact hb
  have hx3 : upd (upd H2 fx (.own x)) x (.ins FC fx []) x = some (.ins FC fx []) := upd_same
  generalize upd (upd H2 fx (.own x)) x (.ins FC fx []) = H3 at s3 hx3
  have nxg : x ≠ g := Ne.symm (ne_of_none PA2.g.ins nx)
  have lfl : (flowL nb wt lf Vs).length ≤ 2000 := by
    have h1 := flowL_le (wt := wt) (lf := lf) (k := 40) (Vs := Vs) (nb := nb) fun y hy => by have := nbl y hy; omega
    have h2 : Vs.length * 40 ≤ 40 * 40 := Nat.mul_le_mul_right _ few
    omega
  refine ⟨x, fx, g, dx, am, fs, a, top, u, v, n, _, Vs, ad, nb, wt, rfl, hx3, nxg, PA2.same s3, go.sym, go.nd, by omega, hu', hv', ne, s3 _ _ ham, lfl, gf, fun pa se H4 k4 hx4 => ⟨rfl, ?_⟩⟩
  exact k x fx pa se n H4 (fun b o hb => k4 _ _ (s3 _ _ (s2 _ _ (s1 _ _ hb))) (ne_of_none (s2 _ _ (s1 _ _ hb)) nx)) hx4 le (fun S h1 h2 => RS.le go.nd hu' h1 h2) h5
theorem greatest_b0 {f : Addr} {fd : FuncData} (F : FunD K "greatest" "Flow.greatest" (defArgs s_Flow_greatest) (defBody s_Flow_greatest) (defScope s_Flow_greatest) [] [("limit", .non)] f fd) : ∃ ds, Vals [V.non] ds ∧ Binds K fd ["cls", "network", "source", "target", "limit"] ds :=
  F.binds0 4 (by simp) rfl fun D doc pm an cdv ct us ks h1 h2 => match us, ks, h1, h2 with
    | [_, _, _, _], [_], _, _ => ⟨_, _, _, _, _, _, rfl, rfl, rfl⟩
theorem greatest_b1 {f : Addr} {fd : FuncData} (F : FunD K "greatest" "Flow.greatest" (defArgs s_Flow_greatest) (defBody s_Flow_greatest) (defScope s_Flow_greatest) [] [("limit", .non)] f fd) : KBn K fd ["cls", "network", "source", "target", "limit"] 4 ["limit"] (fun us ws => us ++ ws) (fun vs zs => vs ++ zs) := by
  obtain ⟨mv, h⟩ := F.kbinds0 (ps := ["cls", "network", "source", "target", "limit"]) 4 ["limit"] [] (fun us _ ws => us ++ ws) (by simp) (fun q hq => by cases hq) (fun r1 _ r3 => r1.append r3) fun D doc pm an cdv ct us mv ws h1 h2 h3 => match us, mv, ws, h1, h2, h3 with
    | [_, _, _, _], [], [_], _, _, _ => rfl
  exact h
end
end Wk
namespace Wk
open PySem PySem.Spec PyProof.Rows L2 WkD WkN LamX WkP WkE WkC
section
variable {P : Program} {w : World} {K : PySem.W.Frag} {mg : Str → Option Value} {base : Heap}
/-! ### the property strength -/
def spFound (C : Addr) : Sp := fun vs H Q _ => ∃ (x m e : Addr) (rest : List (Str × V)) (vs0 : List Str) (nb : Nb) (wt : Wt) (t : Str) (n r s : Int), vs = [.ref x] ∧ NetO H x C rest vs0 nb wt t n m e r s ∧ Q (.int n) H
theorem sc_pstrength : FnScope ["self"] ["self"] (defScope s_Network_strength) := ⟨rfl, rfl, rfl, by decide +kernel, rfl, by decide +kernel, by decide +kernel⟩
theorem ok_pstrength {f C : Addr} {fd : FuncData} (F : FnP K "strength" "Network.strength" s_Network_strength f fd) (fc : FCls K C) : FnOk P w K mg base CX0 1 f fd ["self"] (spFound C) := by
  refine F.ok sc_pstrength (fun vs H Q E h => ?_) (fun cdv A outer s H vs Q E hr h => ?_)
  · obtain ⟨x, m, e, rest, vs0, nb, wt, t, n, r, s, rfl, _⟩ := h
    rfl
  refine ⟨_, PSs.nox (pss_one (ps_ret (pe_fld (pv 0) rfl))), ?_⟩
  obtain ⟨x, m, e, rest, vs0, nb, wt, t, n, r, s, rfl, N, k⟩ := h
  obtain ⟨dx, p, ad, hx, rz⟩ := N.ex
  exact ⟨_, rfl, x, C, dx, _, _, rfl, hx, fc.cls, fc.nf, rfl, k⟩
end
end Wk
namespace Wk
open PySem PySem.Spec PyProof.Rows L2 WkD WkN LamX WkP WkE WkC
open PySem.W (EachIs)
theorem least_facts {Vs : List Str} {nb : Nb} {wt : Wt} {n : Int} {ms : List Str} (lc : LeastCut Vs nb wt n ms) (go : GOk Vs nb wt) : 0 < n ∧ ∀ S : Sd, (∃ y ∈ Vs, S y = true) → (∃ y ∈ Vs, S y = false) → n ≤ cutW Vs (vl0 nb wt) S := by
  have nn : ∀ u ∈ Vs, ∀ v ∈ Vs, 0 ≤ vl0 nb wt u v := fun u hu v hv => by
    unfold vl0
    split
    · rename_i h
      have := (go.wts u hu v h).1
      omega
    · exact Int.le_refl 0
  obtain ⟨⟨e1, ne, sub, y, hy, hny⟩, low⟩ := lc.least go.nd go.sym nn
  refine ⟨?_, low⟩
  cases hms : ms with
  | nil => exact absurd hms ne
  | cons z r =>
    have hz : z ∈ ms := by rw [hms]; exact List.mem_cons_self
    exact flow_pos go.nd go.sym (fun a ha b hb => (go.wts a ha b hb).1) (sub z hz) (go.con z (sub z hz) y hy) (S := fun y => decide (y ∈ ms)) (decide_eq_true hz) (decide_eq_false hny) e1.symm
/-- the same edges, the same rows -/
theorem rowsB_eq {vs : List Str} {nb nb' : Nb} {wt wt' : Wt} (sy : Sym vs nb wt) (sy' : Sym vs nb' wt') (an : ∀ u ∈ vs, Asc (nb u)) (an' : ∀ u ∈ vs, Asc (nb' u)) (e : edL vs nb wt = edL vs nb' wt') : WkK.rowsB vs vs nb nb' wt wt' = true := by
  have one : ∀ u ∈ vs, nb u = nb' u ∧ ∀ v ∈ nb u, wt u v = wt' u v := fun u hu => by
    have m : ∀ v n, (v ∈ nb u ∧ n = wt u v) ↔ (v ∈ nb' u ∧ n = wt' u v) := fun v n => by
      rw [← edL_adj sy hu, ← edL_adj sy' hu, e]
    refine ⟨asc_uniq (R := ltS) ltS_irrefl (fun a b c => ltS_trans) (an u hu) (an' u hu) fun v => ⟨fun h => ((m v _).mp ⟨h, rfl⟩).1, fun h => ((m v _).mpr ⟨h, rfl⟩).1⟩, fun v hv => ((m v _).mp ⟨hv, rfl⟩).2⟩
  unfold WkK.rowsB
  rw [Bool.and_eq_true]
  refine ⟨by simp, List.all_eq_true.mpr fun u hu => ?_⟩
  obtain ⟨h1, h2⟩ := one u hu
  rw [Bool.and_eq_true]
  refine ⟨decide_eq_true hu, ?_⟩
  unfold WkK.rowB
  rw [Bool.and_eq_true]
  refine ⟨by rw [h1]; simp, List.all_eq_true.mpr fun v hv => ?_⟩
  rw [Bool.and_eq_true]
  exact ⟨decide_eq_true (h1 ▸ hv), by rw [h2 v hv]; simp⟩
/-- a triangle, every weight 1 -/
def triE (a b c : Str) : EdD := [((a, b), 1), ((a, c), 1), ((b, c), 1)]
theorem tri_nd {a b c : Str} (h1 : ltS a b) (h2 : ltS b c) : ((triE a b c).map (·.1)).Nodup := by
  have n1 : a ≠ b := fun e => ltS_irrefl b (e ▸ h1)
  have n2 : b ≠ c := fun e => ltS_irrefl c (e ▸ h2)
  unfold triE
  simp [n1, n2, n1.symm, n2.symm]
theorem tri_ok {a b c : Str} (h1 : ltS a b) (h2 : ltS b c) (nm : ∀ z ∈ [a, b, c], nameB z = true) : NetOk [a, b, c] (triE a b c) a := by
  have h3 := ltS_trans h1 h2
  refine ⟨?_, nm, ⟨tri_nd h1 h2, ?_⟩, by simp, ?_⟩
  · unfold Asc
    simp [h1, h2, h3]
  · intro e he
    unfold triE at he
    simp only [List.mem_cons, List.not_mem_nil, or_false] at he
    rcases he with rfl | rfl | rfl
    · exact ⟨by simp, by simp, h1, by simp, by simp⟩
    · exact ⟨by simp, by simp, h3, by simp, by simp⟩
    · exact ⟨by simp, by simp, h2, by simp, by simp⟩
  · intro s hs u hu
    by_cases e : s = u
    · rw [e]
      exact .here
    · refine .go .here ?_
      unfold triE
      simp only [List.mem_cons, List.not_mem_nil, or_false] at hs hu
      rcases hs with rfl | rfl | rfl <;> rcases hu with rfl | rfl | rfl <;> simp_all
theorem tri_perm {a b c : Str} (h1 : ltS a b) (h2 : ltS b c) {sh : List Ed} (nd : sh.Nodup) (h : ∀ e, e ∈ sh ↔ e ∈ [((a, b, (1 : Int)) : Ed), (a, c, 1), (b, c, 1)]) : sh.Perm (edS (triE a b c)) := by
  have nk := tri_nd h1 h2
  have nE : (edS (triE a b c)).Nodup := by
    refine (edS_asc nk).imp fun {x y} hxy e => ?_
    rw [e] at hxy
    exact ltP_irrefl _ hxy
  refine (List.perm_ext_iff_of_nodup nd nE).mpr fun ⟨u, v, n⟩ => ?_
  rw [h, edS_mem nk]
  unfold triE
  simp [Prod.ext_iff, and_assoc]
theorem tri_str {a b c : Str} {nb : Nb} {wt : Wt} {n : Int} (h1 : ltS a b) (h2 : ltS b c) (nm : ∀ z ∈ [a, b, c], nameB z = true) (go : GOk [a, b, c] nb wt) (lc : ∃ ms, LeastCut [a, b, c] nb wt n ms) (ee : edL [a, b, c] nb wt = edS (triE a b c)) : n = 2 := by
  have n1 : a ≠ b := fun e => ltS_irrefl b (e ▸ h1)
  have n2 : b ≠ c := fun e => ltS_irrefl c (e ▸ h2)
  have n3 : a ≠ c := fun e => by
    have h3 := ltS_trans h1 h2
    rw [e] at h3
    exact ltS_irrefl c h3
  have ok := tri_ok h1 h2 nm
  have cut : ∀ S ∈ sidesL [a, b, c] a, cutE (triE a b c) S = 2 := fun S hS => by
    obtain ⟨sb, ne⟩ := (sides_mem (asc_nodup ok.asc) S).mp hS
    have hf : ([a, b, c].filter fun v => decide (v ≠ a)) = [b, c] := by simp [n1.symm, n3.symm]
    rw [hf] at sb
    have ha : a ∉ S := fun z => by
      have := sb.subset z
      simp at this
      rcases this with e | e
      · exact n1 e
      · exact n3 e
    have hbc : b ∈ S ∨ c ∈ S := by
      obtain ⟨u, hu⟩ := List.exists_mem_of_ne_nil S ne
      have := sb.subset hu
      simp at this
      rcases this with rfl | rfl
      · exact .inl hu
      · exact .inr hu
    unfold cutE triE
    by_cases hb : b ∈ S <;> by_cases hc : c ∈ S
    · simp [crB, ha, hb, hc]
    · simp [crB, ha, hb, hc]
    · simp [crB, ha, hb, hc]
    · exact absurd hbc (by simp [hb, hc])
  have some : ∃ S, S ∈ sidesL [a, b, c] a := ⟨[b], (sides_mem (asc_nodup ok.asc) _).mpr ⟨by
    have hf : ([a, b, c].filter fun v => decide (v ≠ a)) = [b, c] := by simp [n1.symm, n3.symm]
    rw [hf]
    simp, by simp⟩⟩
  obtain ⟨S, hS⟩ := some
  exact strength_eq lc go ok.asc ok.ed.nd ee ok.rt ⟨S, hS, cut S hS⟩ fun T hT => by rw [cut T hT]; exact Int.le_refl _
section
variable {P : Program} {w : World} {K : PySem.W.Frag} {mg : Str → Option Value} {base : Heap}
/-- Network(..), with all that is known of it -/
theorem mk_netN {T : List (Addr × Str)} {C fG : Addr} {H : Hp} {va ea : Addr} {b1 b2 : Bool} {vs vs0 : List Str} {es : EdD} {rt : Str} {sh es2 : List Ed} {rs : List Addr} {Q : Hp → Prop} {E : XK} {x dx : Addr} (nx : H x = none) (ndx : H dx = none) (ne : dx ≠ x) (nc : NCls K C C fG) (ok : NetOk vs es rt) (two : 2 ≤ vs.length) (few : vs.length ≤ 40) (pv : vs0.Perm vs) (psh : sh.Perm (edS es)) (fl : Flips sh es2)
    (hva : SqX b1 K H va (vs0.map V.str)) (hea : SqX b2 K H ea (rs.map V.ref)) (he : EdsAt K H rs es2) (hT : Tabs T H)
    (k : ∀ t nb wt n m en H', Ext H H' → Tabs T H' → NetO H' x C [] vs nb wt t n m en 0 0 → edL vs nb wt = edS es → (∀ j ∈ vs, ¬ ltS j t) → Q H') :
    spNet K T C fG (.ref x :: ([V.ref va, .ref ea] ++ [])) (upd (upd H dx (.own x)) x (.ins C dx [])) (fun v H2 => v = .non ∧ Q H2) E := by
  have s1 : Same H (upd H dx (.own x)) := same_upd ndx
  have nx1 : upd H dx (.own x) x = none := by rw [upd_ne (Ne.symm ne)]; exact nx
  have s2 := s1.trans (same_upd (o := .ins C dx []) nx1)
  refine ⟨x, C, dx, va, ea, b1, b2, vs0, es2, rs, rfl, upd_same, nc, hva.same s2, hea.same s2, he.same s2, built_valid ok two few pv psh fl, hT.ext s2, fun p Ws bd nb wt t n ms me en H' eB T' hx' _ _ rz pw aw ro an ht hmin lc => ⟨rfl, ?_⟩⟩
  have e1 := built_verts ok pv pw aw
  subst e1
  have e2 := built_edges ok pv psh fl pw aw ro an
  have val := built_valid ok two few pv psh fl
  have go := val.gok ro pw
  refine k t nb wt n me en H' (fun b o hb no => eB b o (s2 b o hb) (ne_of_none hb nx) no) T' ⟨⟨dx, p, bd, by rw [List.append_nil]; exact hx', rz⟩, .inl rfl, aw, an, go, ⟨ms, lc⟩, pv.mem_iff.mp ht⟩ e2 fun j hj => hmin j (pv.mem_iff.mpr hj)
/-- Guarded..(.., 1) -/
theorem mk_gd1 {T : List (Addr × Str)} {C D fG DG fN CF CT : Addr} {H : Hp} {va ea : Addr} {b1 b2 : Bool} {vs0 : List Str} {es2 : List Ed} {rs : List Addr} {Q : Hp → Prop} {x dx : Addr} (nx : H x = none) (ndx : H dx = none) (ne : dx ≠ x) (gn : GdN K C DG fN) (nc : NCls K C D fG) (val : Valid vs0 es2)
    (hva : SqX b1 K H va (vs0.map V.str)) (hea : SqX b2 K H ea (rs.map V.ref)) (he : EdsAt K H rs es2) (hT : Tabs T H)
    (k : ∀ fs H2, Ext H H2 → Tabs T H2 → H2 x = some (.ins C dx fs) → fs.lookup ("least" : Str) = some (.int 1) → Q H2) :
    spGd K T C D fG DG fN CF CT [.ref x, .ref va, .ref ea, .int 1] (upd (upd H dx (.own x)) x (.ins C dx [])) (fun u H2 => u = .non ∧ Q H2) (fun _ _ _ => False) := by
  have s1 : Same H (upd H dx (.own x)) := same_upd ndx
  have nx1 : upd H dx (.own x) x = none := by rw [upd_ne (Ne.symm ne)]; exact nx
  have s2 := s1.trans (same_upd (o := .ins C dx []) nx1)
  refine ⟨x, dx, va, ea, b1, b2, vs0, es2, rs, _, rfl, upd_same, gn, nc, hva.same s2, hea.same s2, he.same s2, val, hT.ext s2, fun H' eB => .inl ⟨1, rfl⟩, fun p Ws bd nb wt t n ms me en H' eB T' hx' hme hen rz pw aw ro an ht hmin lc => ?_⟩
  have go := val.gok ro pw
  have n0 := (least_facts lc go).1
  have toE : ∀ {H' : Hp}, ExtB x (upd (upd H dx (.own x)) x (.ins C dx [])) H' → Ext H H' := fun {H'} eB b o hb no => eB b o (s2 b o hb) (ne_of_none hb nx) no
  refine ⟨fun i e1 e3 e4 => ⟨rfl, ?_⟩, fun hn d H2 s4 nd_ hd => hn ⟨1, rfl, by decide⟩, fun i e1 e3 e4 d H2 s4 nd_ hd => ?_⟩
  · cases e1
    refine k _ _ (fun b o hb no => ?_) (tabs_upd T' hx' trivial) upd_same rfl
    rw [upd_ne (ne_of_none hb nx)]
    exact toE eB b o hb no
  · cases e1
    omega
theorem NetO.extE {H H' : Hp} {x C : Addr} {rest : List (Str × V)} {vs : List Str} {nb : Nb} {wt : Wt} {t : Str} {n : Int} {m e : Addr} {r s : Int} (N : NetO H x C rest vs nb wt t n m e r s) (k : Ext H H') : NetO H' x C rest vs nb wt t n m e r s := by
  obtain ⟨dx, p, ad, hx, rz⟩ := N.ex
  exact ⟨⟨dx, p, ad, k _ _ hx (fun ps z => by cases z), rz.ext k⟩, N.rst, N.asc, N.an, N.gok, N.lc, N.rt⟩
theorem pair_uniq {Vs : List Str} {w : Wf} {u v : Str} {n m : Int} (h : PairStr Vs w u v n) (k : PairStr Vs w u v m) : n = m := by
  obtain ⟨⟨S, s1, s2, s3⟩, h2⟩ := h
  obtain ⟨⟨T, t1, t2, t3⟩, k2⟩ := k
  have a1 := h2 T t1 t2
  have a2 := k2 S s1 s2
  omega
theorem NetO.parg {H : Hp} {x C : Addr} {vs : List Str} {nb : Nb} {wt : Wt} {t : Str} {n : Int} {m e : Addr} {r s : Int} (N : NetO H x C [] vs nb wt t n m e r s) (NK : FCls K C) (nm : ∀ u ∈ vs, nameB u = true) : ∃ dx fs p ad, PArg K H x C dx fs p t vs ad nb wt := by
  obtain ⟨dx, p, ad, hx, rz⟩ := N.ex
  exact ⟨dx, _, p, ad, ⟨hx, NK.cls, NK.na, NK.nt, rfl, rfl⟩, rfl, rz, nm⟩
theorem NetO.stayE {H H' : Hp} {x C : Addr} {rest : List (Str × V)} {vs : List Str} {nb : Nb} {wt : Wt} {t : Str} {n : Int} {m e : Addr} {r s : Int} (N : NetO H x C rest vs nb wt t n m e r s) (k : StayE H H') : NetO H' x C rest vs nb wt t n m e r s := by
  obtain ⟨dx, p, ad, hx, rz⟩ := N.ex
  obtain ⟨o, ht⟩ := rz.top
  refine ⟨⟨dx, p, ad, k _ _ hx trivial, ⟨o, k _ _ ht trivial⟩, fun u hu => ?_⟩, N.rst, N.asc, N.an, N.gok, N.lc, N.rt⟩
  obtain ⟨o2, h2⟩ := rz.row u hu
  exact ⟨o2, k _ _ h2 trivial⟩
theorem same_net {H : Hp} {C y z : Addr} {vs : List Str} {nb nb' : Nb} {wt wt' : Wt} {t t' : Str} {n n' : Int} {m e m' e' : Addr} {r s r' s' : Int} {es : EdD} {Q : VK} (NK : FCls K C) (N : NetO H y C [] vs nb wt t n m e r s) (N' : NetO H z C [] vs nb' wt' t' n' m' e' r' s') (ee : edL vs nb wt = edS es) (ee' : edL vs nb' wt' = edS es) (et : t = t') (k : Q (.bl false) H) : WkK.rNeJ C C (spGEq K C) (.ref y) (.ref z) H Q := by
  obtain ⟨dx, p, ad, hx, rz⟩ := N.ex
  obtain ⟨dy, q, bd, hy, rq⟩ := N'.ex
  refine ⟨y, z, dx, dy, _, _, rfl, rfl, hx, hy, y, dx, z, dy, _, _, p, q, t, t', vs, vs, ad, bd, nb, nb', wt, wt', rfl, ⟨hx, NK.cls, NK.na, NK.nt, rfl, rfl⟩, ⟨hy, NK.cls, NK.na, NK.nt, rfl, rfl⟩, rz, rq, _, rfl, ?_⟩
  rw [rowsB_eq N.gok.sym N'.gok.sym N.an N'.an (ee.trans ee'.symm), et, decide_eq_true rfl]
  exact k
theorem prs_eds {H : Hp} {n : Int} {rs : List Addr} {es : List (Str × Str)} (h : PrsAt K H (.int n) rs es) : EdsAt K H rs (es.map fun e => (e.1, e.2, n)) := by
  refine ⟨by rw [List.length_map]; exact EachIs.length h, fun i r e h1 h2 => ?_⟩
  rw [List.getElem?_map] at h2
  cases e2 : es[i]? with
  | none => rw [e2] at h2; cases h2
  | some q =>
    rw [e2] at h2
    cases (Option.some.inj h2)
    exact eachAt h h1 e2
section
variable {a b c : Str} {tbT : List (Addr × Str)} {CN fG : Addr} {H : Hp} {Q : VK} {E : XK}
def netK (tbT : List (Addr × Str)) (CN : Addr) (a b c : Str) (H : Hp) (Q : VK) : Prop := ∀ x t nb wt n m en H', Ext H H' → Tabs tbT H' → NetO H' x CN [] [a, b, c] nb wt t n m en 0 0 → edL [a, b, c] nb wt = edS (triE a b c) → t = a → H x = none → Q (.ref x) H'
theorem tri_net {H1 : Hp} {p ea x dx : Addr} {rs : List Addr} {es2 sh : List Ed} (nc : NCls K CN CN fG) (h1 : ltS a b) (h2 : ltS b c) (nm : ∀ z ∈ [a, b, c], nameB z = true) (hT : Tabs tbT H) (s1 : Same H H1) (hp : H1 p = some (.tup [.str a, .str b, .str c])) (hea : H1 ea = some (.lst (rs.map V.ref))) (he : EdsAt K H1 rs es2) (psh : sh.Perm (edS (triE a b c))) (fl : Flips sh es2)
    (nx : H1 x = none) (ndx : H1 dx = none) (ne : dx ≠ x) (k : netK tbT CN a b c H Q) : spNet K tbT CN fG (.ref x :: ([V.ref p, .ref ea] ++ [])) (upd (upd H1 dx (.own x)) x (.ins CN dx [])) (fun v H2 => v = .non ∧ Q (.ref x) H2) (fun _ _ _ => False) := by
  have ok := tri_ok h1 h2 nm
  refine mk_netN (Q := fun H2 => Q (.ref x) H2) (b1 := false) (b2 := true) nx ndx ne nc ok (by simp) (by simp) (.refl _) psh fl (.inl (.inl hp)) (SqL.of hea) he (hT.ext s1) fun t nb wt n m en H' e1 T' N ee hmin => ?_
  refine k x t nb wt n m en H' (fun b o hb no => e1 _ _ (s1 _ _ hb) no) T' N ee ?_ (np_of s1 nx)
  have ht := N.rt
  simp only [List.mem_cons, List.not_mem_nil, or_false] at ht
  rcases ht with e | e | e
  · exact e
  · exact absurd h1 (e ▸ hmin a (by simp))
  · exact absurd (ltS_trans h1 h2) (e ▸ hmin a (by simp))
theorem sk3 {sp : Sp} {C : Addr} {zs : List V} (h : ∀ p, H p = none → sp ([.ref C] ++ zs ++ [.ref p]) (upd H p (.tup [.str a, .str b, .str c])) Q E) : WkCm.spSK 1 sp zs [.ref C, .str a, .str b, .str c] H Q E :=
  ⟨[.ref C], [.str a, .str b, .str c], rfl, rfl, by show 3 ≤ sizeLine; decide, h⟩
theorem ring_perm (h1 : ltS a b) (h2 : ltS b c) : [((a, c, (1 : Int)) : Ed), (a, b, 1), (b, c, 1)].Perm (edS (triE a b c)) := by
  have n1 : a ≠ b := fun e => ltS_irrefl b (e ▸ h1)
  have n2 : b ≠ c := fun e => ltS_irrefl c (e ▸ h2)
  refine tri_perm h1 h2 ?_ fun e => ?_
  · simp [n1, n2, n1.symm, n2.symm]
  · simp only [List.mem_cons, List.not_mem_nil, or_false]
    grind
theorem ring_flips : Flips [((a, c, (1 : Int)) : Ed), (a, b, 1), (b, c, 1)] ((ringE [a, b, c]).map fun e => (e.1, e.2, 1)) := .cons (.inl rfl) (.cons (.inr rfl) (.cons (.inr rfl) .nil))
theorem compl_perm (h1 : ltS a b) (h2 : ltS b c) : [((a, b, (1 : Int)) : Ed), (a, c, 1), (b, c, 1)].Perm (edS (triE a b c)) := by
  have n1 : a ≠ b := fun e => ltS_irrefl b (e ▸ h1)
  have n2 : b ≠ c := fun e => ltS_irrefl c (e ▸ h2)
  refine tri_perm h1 h2 ?_ fun e => Iff.rfl
  simp [n1, n2, n1.symm, n2.symm]
theorem compl_flips : Flips [((a, b, (1 : Int)) : Ed), (a, c, 1), (b, c, 1)] ((complE [a, b, c]).map fun e => (e.1, e.2, 1)) := .cons (.inl rfl) (.cons (.inl rfl) (.cons (.inl rfl) .nil))
theorem ring_made (nc : NCls K CN CN fG) (h1 : ltS a b) (h2 : ltS b c) (nm : ∀ z ∈ [a, b, c], nameB z = true) (hT : Tabs tbT H) (k : netK tbT CN a b c H Q) : WkCm.spSK 1 (spRingV K CN (spNet K tbT CN fG) []) [.int 1] [.ref CN, .str a, .str b, .str c] H Q E :=
  sk3 fun p np => ⟨p, [a, b, c], .int 1, rfl, upd_same, by show 2 ≤ 3; decide, by show 3 ≤ 41; decide, fun ea rs H1 x dx s1 hea hpr nx ndx ne => by
    have s0 := (same_upd np).trans s1
    exact tri_net nc h1 h2 nm hT s0 (s1 _ _ upd_same) hea (prs_eds (by rwa [if_pos (by show 2 < 3; decide)] at hpr)) (ring_perm h1 h2) ring_flips nx ndx ne k⟩
theorem ring_gd {C D DG fN CF CT : Addr} (gn : GdN K C DG fN) (nc : NCls K C D fG) (h1 : ltS a b) (h2 : ltS b c) (nm : ∀ z ∈ [a, b, c], nameB z = true) (hT : Tabs tbT H) (k : ∀ x dx fs H2, Ext H H2 → Tabs tbT H2 → H x = none → H2 x = some (.ins C dx fs) → fs.lookup ("least" : Str) = some (.int 1) → Q (.ref x) H2) :
    WkCm.spSK 1 (spRingV K C (spGd K tbT C D fG DG fN CF CT) [.int 1]) [.int 1] [.ref C, .str a, .str b, .str c] H Q E :=
  sk3 fun p np => ⟨p, [a, b, c], .int 1, rfl, upd_same, by show 2 ≤ 3; decide, by show 3 ≤ 41; decide, fun ea rs H1 x dx s1 hea hpr nx ndx ne => by
    have s0 := (same_upd np).trans s1
    have val := built_valid (tri_ok h1 h2 nm) (by simp) (by simp) (.refl _) (ring_perm h1 h2) ring_flips
    exact mk_gd1 (Q := fun H2 => Q (.ref x) H2) (b1 := false) (b2 := true) nx ndx ne gn nc val (.inl (.inl (s1 _ _ upd_same))) (SqL.of hea) (prs_eds (by rwa [if_pos (by show 2 < 3; decide)] at hpr)) (hT.ext s0) fun fs H2 e T2 hx hl => k x dx fs H2 (fun b o hb no => e _ _ (s0 _ _ hb) no) T2 (np_of s0 nx) hx hl⟩
theorem compl_made (nc : NCls K CN CN fG) (h1 : ltS a b) (h2 : ltS b c) (nm : ∀ z ∈ [a, b, c], nameB z = true) (hT : Tabs tbT H) (k : netK tbT CN a b c H Q) : WkCm.spSK 1 (spComplV K CN (spNet K tbT CN fG) []) [.int 1] [.ref CN, .str a, .str b, .str c] H Q E :=
  sk3 fun p np => ⟨p, [a, b, c], .int 1, rfl, upd_same, by show 3 ≤ 41; decide, fun ea rs H1 x dx s1 hea hpr nx ndx ne => by
    have s0 := (same_upd np).trans s1
    exact tri_net nc h1 h2 nm hT s0 (s1 _ _ upd_same) hea (prs_eds hpr) (compl_perm h1 h2) compl_flips nx ndx ne k⟩
end
end
end Wk
namespace Wk
open PySem PySem.Spec PyProof.Rows L2 WkD WkN
section
variable {P : Program} {w : World} {K : PySem.W.Frag} {mg : Str → Option Value} {base : Heap}
/-! ### _law_shuffled -/
def spShuf (K : PySem.W.Frag) : Sp := fun vs H Q _ => ∃ (p cs l : Addr) (N : Nat) (b : Bool) (xs : List V), vs = [.ref p, .ref l] ∧ Pen H p cs N ∧ N + xs.length < 2 ^ 60 ∧ SqX b K H l xs ∧ xs.length < 1000000 ∧
  ∀ q ys H', But p H H' → H q = none → H' q = some (.lst ys) → ys.Perm xs → Pen H' p cs (N + xs.length) → Q (.ref q) H'
theorem eraseIdx_perm {α : Type} : ∀ {l : List α} {k : Nat} {y : α}, l[k]? = some y → (y :: l.eraseIdx k).Perm l
  | [], _, _, h => by simp at h
  | a :: l, 0, y, h => by
    cases h
    exact .refl _
  | a :: l, k + 1, y, h => by
    have ih := eraseIdx_perm (l := l) (k := k) (y := y) (by simpa using h)
    exact (List.Perm.swap a y _).trans (ih.cons a)
theorem seqIx {i : Int} {n : Nat} (h0 : 0 ≤ i) (h1 : i < (n : Int)) : seqIndex? i n = some i.toNat := by
  unfold seqIndex?
  have e : (if i < 0 then i + (n : Int) else i) = i := if_neg (by omega)
  simp only [e]
  rw [decide_eq_true h0, decide_eq_true h1]
  rfl
theorem sc_shuffled : FnScope ["_law_pen_here", "_law_some", "_law_left", "_law_found"] ["_law_pen_here", "_law_some"] (defScope s_L_shuffled) := ⟨rfl, rfl, rfl, by decide +kernel, rfl, by decide +kernel, by decide +kernel⟩
theorem c_shuffled (D : Def K mg "_law_shuffled" s_L_shuffled) (B : Bi mg) (CD : Callee P w K mg base CX0 1 "_law_draw" ["_law_pen_here", "_law_many"] spDraw) : Callee P w K mg base CX0 2 "_law_shuffled" ["_law_pen_here", "_law_some"] (spShuf K) := by
  obtain ⟨f, fd, F, g⟩ := D
  refine ⟨f, fd, F.ok sc_shuffled (fun vs H Q E h => ?_) (fun cdv A outer s H vs Q E hr h => ?_), g, F.kp, F.bindsN (fun _ _ _ _ _ _ us hl => match us, hl with | [_, _], _ => rfl)⟩
  · obtain ⟨p, cs, l, N, b, xs, rfl, _⟩ := h
    rfl
  have hu := hu_of hr
  have nd := sc_shuffled.nd
  have hr1 : Room 1 _ := hr
  refine ⟨_, PSs.nox (pss_cons (ps_par (i := 2) (j := 3) (by rfl) nd rfl rfl (by decide) rfl rfl (pa_cons (pe_callTy call_list_of (by rfl) B.n_list (by decide +kernel) (pa_cons (pv 1) pa_nil)) (pa_cons (pe_lst pa_nil) pa_nil)) (by rfl))
      (pss_cons (ps_while PassesOwn.never (pt_cmpR (WkG.op_neNil hr.units) (pv 2) (pe_lst pa_nil) (nomark _))
      (pss_one (ps_expr (pe_bm PySem.F.plainAttrs_list PySem.F.slot_list_append PySem.F.type_list_append mt_append (pv 3) (pa_cons (pe_bm PySem.F.plainAttrs_list PySem.F.slot_list_pop PySem.F.type_list_pop mt_popAt (pv 2) (pa_cons (pe_c CD hr1 pass0 (pa_cons (pv 0) (pa_cons (pe_callB call_len_seq (by rfl) B.n_len (by decide +kernel) (pa_cons (pv 2) pa_nil)) pa_nil))) pa_nil)) pa_nil)))))
      (pss_one (ps_ret (pv 3))))), ?_⟩
  obtain ⟨p, cs, l, N, b, xs, rfl, hP, hN, hS, hl, k⟩ := h
  have big : 1000000 < sizeLine := by decide
  refine ⟨_, rfl, l, xs, rfl, by cases b; exact .inr hS; exact .inl hS, fun q1 n1 => ⟨by show 0 ≤ sizeLine; decide, fun q2 n2 => ⟨_, _, rfl, ?_⟩⟩⟩
  have n12 : q1 ≠ q2 := fun z => by
    rw [← z, upd_same] at n2
    cases n2
  have n2H : H q2 = none := by
    rw [upd_ne (Ne.symm n12)] at n2
    exact n2
  have f1 := hP.free n1
  have f2 := hP.free n2H
  have P1 : Pen (upd (upd H q1 (.lst xs)) q2 (.lst [])) p cs N := (hP.put f1.1 f1.2).put f2.1 f2.2
  refine ⟨fun m σ Hc => ∃ (ls fs : List V), σ = [some (.ref p), some (.ref l), some (.ref q1), some (.ref q2)] ∧ But p H Hc ∧ Hc q1 = some (.lst ls) ∧ Hc q2 = some (.lst fs) ∧ (fs ++ ls).Perm xs ∧ Pen Hc p cs (N + fs.length) ∧ m = ls.length,
    ⟨_, xs, [], rfl, fun c o hc hne => by rw [upd_ne (ne_of_none hc n2H), upd_ne (ne_of_none hc n1)]; exact hc, by rw [upd_ne n12, upd_same], upd_same, .refl _, P1, rfl⟩, ?_⟩
  rintro m σ Hc ⟨ls, fs, rfl, bH, L1, L2, pm, Pc, rfl⟩
  have ple : fs.length + ls.length = xs.length := by
    have := pm.length_eq
    rw [List.length_append] at this
    exact this
  refine ⟨_, rfl, by show 0 ≤ sizeLine; decide, fun q nq => ?_⟩
  have s2 := same_upd (o := .lst []) nq
  have L1' := s2 _ _ L1
  have L2' := s2 _ _ L2
  have Q2 : upd Hc q (.lst []) q = some (.lst []) := upd_same
  have bH2 := bH.trans (But.of_same s2)
  have P2 := Pc.same s2
  generalize upd Hc q (.lst []) = H2 at L1' L2' Q2 bH2 P2
  refine ⟨q1, q, _, rfl, rfl, SqL.of L1', SqL.of Q2, _, rfl, ite2 (fun hb => ?_) (fun hb => ?_)⟩
  · have hne : ls ≠ [] := fun z => by
      rw [z] at hb
      cases hb
    have pos := List.length_pos_iff.mpr hne
    refine ⟨fun σ' H' => ∃ (ls' fs' : List V), σ' = [some (.ref p), some (.ref l), some (.ref q1), some (.ref q2)] ∧ But p H H' ∧ H' q1 = some (.lst ls') ∧ H' q2 = some (.lst fs') ∧ (fs' ++ ls').Perm xs ∧ Pen H' p cs (N + fs'.length) ∧ ls'.length < ls.length, ?_, ?_⟩
    · rintro σ' H' ⟨ls', fs', e1, e2, e3, e4, e5, e6, e7⟩
      exact ⟨_, e7, ls', fs', e1, e2, e3, e4, e5, e6, rfl⟩
    refine ⟨_, rfl, .inl ⟨rfl, _, SqL.of L2'⟩, ?_⟩
    refine ⟨_, rfl, .inl ⟨rfl, _, SqL.of L1'⟩, ?_⟩
    refine ⟨_, rfl, _, rfl, q1, _, rfl, .inl (SqL.of L1'), p, cs, _, _, rfl, by omega, by omega, P2, by omega, fun i H3 i0 i1 b3 P3 => ?_⟩
    have L13 := b3 _ _ L1' f1.1
    have L23 := b3 _ _ L2' f2.1
    have hi : i.toNat < ls.length := by omega
    refine ⟨q1, ls, i, i.toNat, ls[i.toNat], rfl, rfl, L13, by omega, by omega, ?_, List.getElem?_eq_getElem hi, ?_⟩
    · exact seqIx i0 (by omega)
    have L24 : upd H3 q1 (.lst (ls.eraseIdx i.toNat)) q2 = some (.lst fs) := by
      rw [upd_ne (Ne.symm n12)]
      exact L23
    refine ⟨q2, fs, _, rfl, rfl, L24, by omega, ls.eraseIdx i.toNat, fs ++ [ls[i.toNat]], rfl, fun c o hc hne => ?_, ?_, upd_same, ?_, ?_, ?_⟩
    · rw [upd_ne (ne_of_none hc n2H), upd_ne (ne_of_none hc n1)]
      exact (bH2.trans b3) c o hc hne
    · rw [upd_ne n12, upd_same]
    · rw [List.append_assoc]
      exact ((eraseIdx_perm (List.getElem?_eq_getElem hi)).append_left fs).trans pm
    · rw [List.length_append, List.length_singleton, ← Nat.add_assoc]
      exact (P3.put f1.1 f1.2).put f2.1 f2.2
    · rw [List.length_eraseIdx_of_lt hi]
      omega
  · have we : ls = [] := by
      cases ls with
      | nil => rfl
      | cons y r => exact absurd rfl hb
    subst we
    rw [List.append_nil] at pm
    refine ⟨_, rfl, k q2 fs H2 bH2 n2H L2' pm ?_⟩
    rw [← pm.length_eq]
    exact P2
end
end Wk
namespace Wk
open PySem PySem.Spec PyProof.Rows L2 WkD WkN LamX WkP WkE WkC
open PySem.W (EachIs)
def MakeD (P : Program) (w : World) (K : PySem.W.Frag) (mg : Str → Option Value) (base : Heap) (CX : CXT) (C : Addr) (x : Str) (k : Nat) (sp : Sp) (dvs : List V) : Prop := ∃ f fd ps ds, Mk K C f ∧ FnOk P w K mg base CX k f fd ps sp ∧ mg x = some (.ref C) ∧ Binds K fd ps ds ∧ Vals dvs ds
theorem pe_mkD {X : Cx} {CX : CXT} {C : Addr} {x : Str} {k : Nat} {sp : Sp} {E : XK} {e : Expr} {es : List Expr} {t : TA} {p pos : Pos} {dvs : List V} (h : MakeD X.prog X.w X.K X.mg X.base CX C x k sp dvs) (hr : Room (k + 1) X.A) (hx : Passes CX X E) (ha : PA X (e :: es) t) (hg : Gl X x := by rfl) (hdb : (x == ("__debug__" : Str)) = false := by decide)
    (hst : starEach (e :: es) X.env = (false, eval e X.env) :: starEach es X.env := by rfl) (hpl : (backTo pos (starEach es X.env)).any (·.1) = false := by rfl) : PE X (.Call (.Name x p) (e :: es) [] pos) (tMake C sp dvs E t) := by
  obtain ⟨f, fd, ps, ds, h1, h2, h3, h4, h5⟩ := h
  exact pe_make h1 h2 hr hg h3 h4 h5 hx ha hdb hst hpl
/-- the class, called with n positional values and one keyword -/
def MakeKw (P : Program) (w : World) (K : PySem.W.Frag) (mg : Str → Option Value) (base : Heap) (CX : CXT) (C : Addr) (x : Str) (k n : Nat) (ks : List Str) (sp : Sp) : Prop := ∃ f fd ps, Mk K C f ∧ FnOk P w K mg base CX k f fd ps sp ∧ mg x = some (.ref C) ∧ KBn K fd ps (n + 1) ks (fun us ws => us ++ ws) (fun vs zs => vs ++ zs)
theorem pe_mkK {X : Cx} {CX : CXT} {C : Addr} {x : Str} {k n : Nat} {ks : List Str} {sp : Sp} {E : XK} {e : Expr} {es : List Expr} {kws : List Keyword} {t tk : TA} {p pos : Pos} (h : MakeKw X.prog X.w X.K X.mg X.base CX C x k n ks sp) (hr : Room (k + 1) X.A) (hx : Passes CX X E) (ha : PA X (e :: es) t) (hkw : PK X kws tk) (hg : Gl X x := by rfl)
    (hall : (backToKw pos (keywordEach kws X.env)).all (·.1.isSome) = true := by rfl) (hks : (backToKw pos (keywordEach kws X.env)).filterMap (·.1) = ks := by rfl) (hdb : (x == ("__debug__" : Str)) = false := by decide)
    (he : starEach (e :: es) X.env = (false, eval e X.env) :: starEach es X.env := by rfl) (hpl : ((backTo pos (starEach (e :: es) X.env)).any (·.1) || (backToKw pos (keywordEach kws X.env)).any (·.1.isNone)) = false := by rfl) :
    PE X (.Call (.Name x p) (e :: es) kws pos) (tMakeK C n ks.length sp (fun vs zs => vs ++ zs) E t tk) := by
  obtain ⟨f, fd, ps, h1, h2, h3, h4⟩ := h
  exact pe_makeK h1 h2 hr hg h3 h4 hx ha hkw hall hks hdb he hpl
section
variable {P : Program} {w : World} {K : PySem.W.Frag} {mg : Str → Option Value} {base : Heap}
theorem sc_law94 : FnScope ["_law_script", "_law_pen_here", "_law_bout", "_law_network_here", "_law_house", "_law_names_here", "_law_a", "_law_b", "_law_c", "_law_rows", "_law_u", "_law_v", "_law_told"] ["_law_script"] (defScope s_law) := ⟨rfl, rfl, rfl, by decide +kernel, rfl, by decide +kernel, by decide +kernel⟩
theorem ok_law {f : Addr} {fd : FuncData} (F : FnP K "law" "law" s_law f fd) (B : Bi mg) (S : WkG.Sm K) {tbT : List (Addr × Str)} {CN C1 C2 FC fG fN CF CT CU CS pr gr pc gc pr2 pf gf : Addr} (NK : FCls K CN) (nc : NCls K CN CN fG) (gN : mg "Network" = some (.ref CN)) (gG2 : mg "GuardedLoggedNetwork" = some (.ref C2)) (gF : mg "Flow" = some (.ref FC))
    (CRN : ClX.CRead K CN (.type "type")) (CMr : ClX.CMet K CN (.type "type") "ring" pr gr) (CMc : ClX.CMet K CN (.type "type") "complete" pc gc) (CR2 : ClX.CRead K C2 (.type "type")) (CM2 : ClX.CMet K C2 (.type "type") "ring" pr2 gr) (CRF : ClX.CRead K FC (.type "type")) (CMF : ClX.CMet K FC (.type "type") "greatest" pf gf)
    (FR0 : FnR P w K mg base CX0 9 gr (WkCm.spSK 1 (spRingV K CN (spNet K tbT CN fG) []) [.int 1])) (FR1 : WkCm.FnRK P w K mg base CX0 9 gr ["weight"] (WkCm.spSK 1 (spRingV K CN (spNet K tbT CN fG) []))) (FC0 : FnR P w K mg base CX0 9 gc (WkCm.spSK 1 (spComplV K CN (spNet K tbT CN fG) []) [.int 1])) (FC1 : WkCm.FnRK P w K mg base CX0 9 gc ["weight"] (WkCm.spSK 1 (spComplV K CN (spNet K tbT CN fG) [])))
    (FR2 : FnR P w K mg base CX0 9 gr (WkCm.spSK 1 (spRingV K C2 (spGd K tbT C2 CN fG C1 fN CF CT) [.int 1]) [.int 1]))
    (EQN : WkK.EqC P w K mg base CN 1 (spGEq K CN)) (NEN : WkK.NeC K CN) (n00 : PySem.W.notFirst K CN (.ref CN) = true) (PSn : PropC P w K mg base CX0 CN "strength" 1 (spFound CN))
    (cl1 : Cls K C1) (cl2 : Cls K C2) (gn1 : GdN K C1 C1 fN) (gn2 : GdN K C2 C1 fN) (nc1 : NCls K C1 CN fG) (nc2 : NCls K C2 CN fG) (PF1 : PropC P w K mg base CX0 C1 "floor" 1 (spFloor K)) (PF2 : PropC P w K mg base CX0 C2 "floor" 1 (spFloor K))
    (MD1 : MakeD P w K mg base (CX P w) C1 "GuardedNetwork" 7 (spGd K tbT C1 CN fG C1 fN CF CT) [.int 1]) (MK1 : MakeKw P w K mg base (CX P w) C1 "GuardedNetwork" 7 2 ["floor"] (spGd K tbT C1 CN fG C1 fN CF CT)) (MD2 : MakeD P w K mg base (CX P w) C2 "GuardedLoggedNetwork" 7 (spGd K tbT C2 CN fG C1 fN CF CT) [.int 1])
    (FLC : FlCls K FC) (FG0 : FnR P w K mg base (CX P w) 6 gf (fun vs H Q E => spFlG K FC CN (vs ++ [.non]) H Q E)) (FG1 : WkCm.FnRK P w K mg base (CX P w) 6 gf ["limit"] (fun zs vs H Q E => vs.length = 4 ∧ spFlG K FC CN (vs ++ zs) H Q E)) (PFt : PropC P w K mg base CX0 FC "total" 1 (spFlTot K FC))
    (C_ps : Callee P w K mg base (CX P w) 4 "pair_strength" ["network", "u", "v"] (spPairS K CN CU CS)) (C_pen : Callee P w K mg base CX0 1 "_law_pen" ["_law_script"] (spPen K)) (C_network : Callee P w K mg base CX0 4 "_law_network" ["_law_pen_here", "_law_least", "_law_most"] spNetwork) (C_made : Callee P w K mg base CX0 8 "_law_made" ["_law_network_here"] (spMade K tbT CN)) (C_edges : Callee P w K mg base CX0 1 "_law_edges" ["_law_network_here"] (spLEdges K)) (C_shuf : Callee P w K mg base CX0 2 "_law_shuffled" ["_law_pen_here", "_law_some"] (spShuf K)) : WkG.FnG P w K mg base CX0 10 f fd ["_law_script"] (spLawT K tbT) := by
  refine WkG.okG F sc_law94 (fun vs H Q E h => ?_) (fun cdv A outer s H vs Q E hG hr h => ?_)
  · obtain ⟨a, ns, rfl, _⟩ := h
    rfl
  · have hu := hu_of hr
    have nd := sc_law94.nd
    have hr9 : Room 9 _ := hr
    have hr8 : Room 8 _ := hr.mono (by decide)
    have hr6 : Room 6 _ := hr.mono (by decide)
    have hr4 : Room 4 _ := hr.mono (by decide)
    have hr2 : Room 2 _ := hr.mono (by decide)
    have hr1 : Room 1 _ := hr.mono (by decide)
    refine ⟨_, PSs.nox (pss_cons (ps_set (i := 1) nd rfl (Or.inl rfl) (pe_c C_pen hr1 pass0 (pa_cons (pv 0) pa_nil)))
      (pss_cons (ps_for PassesOwn.never rfl (pi_range1 (by rfl) B.n_range (pa_cons (pe_op op_add pe_int (pe_callB (call_min2 rfl) (by rfl) B.n_min (by decide +kernel) (pa_cons pe_int (pa_cons (pe_callB call_len_seq (by rfl) B.n_len (by decide +kernel) (pa_cons (pv 0) pa_nil)) pa_nil)))) pa_nil)) (pg_name (i := 2) nd rfl (Or.inl rfl))
      (pss_cons (ps_set (i := 3) nd rfl (Or.inl rfl) (pe_c C_network hr4 pass0 (pa_cons (pv 1) (pa_cons pe_int (pa_cons pe_int pa_nil)))))
      (pss_cons (ps_par (i := 4) (j := 5) (by rfl) nd rfl rfl (by decide) rfl rfl (pa_cons (pe_c C_made hr8 pass0 (pa_cons (pv 3) pa_nil)) (pa_cons (pe_dget hu (pv 3) pe_str (fun _ _ => rfl)) pa_nil)) (by rfl))
      (pss_cons (ps_asg (pe_slice sl_list (pv 5) po_none (po_some pe_int)) (WkU.pgL K 3 rfl rfl (pgs_cons (pg_name (i := 6) nd rfl (Or.inl rfl)) (pgs_cons (pg_name (i := 7) nd rfl (Or.inl rfl)) (pgs_cons (pg_name (i := 8) nd rfl (Or.inl rfl)) pgs_nil))) rfl))
      (pss_cons (ps_if (PW.pt (pw_or (pt_cmpR (WkK.op_neJ EQN NEN hr2 n00) (ClX.pe_cmeth (pe_glob (v := .ref _) (by rfl) gN rfl) CRN CMr FR0 hr9 pass0 (pa_cons (pv 6) (pa_cons (pv 7) (pa_cons (pv 8) pa_nil)))) (WkCm.pe_cmethK (pe_glob (v := .ref _) (by rfl) gN rfl) CRN CMr FR1 hr9 pass0 (pa_cons (pv 6) (pa_cons (pv 7) (pa_cons (pv 8) pa_nil))) (pk_cons pe_int pk_nil)) (nomark _)) (pw_or1 (pt_cmpR op_ne (WkC.pe_pr PSn NK.cls hr2 pass0 (ClX.pe_cmeth (pe_glob (v := .ref _) (by rfl) gN rfl) CRN CMr FR0 hr9 pass0 (pa_cons (pv 6) (pa_cons (pv 7) (pa_cons (pv 8) pa_nil))))) pe_int (nomark _)))))
      (pss_one (ps_ret pe_bl)) pss_nil)
      (pss_cons (ps_if (pt_cmpR (WkK.op_neJ EQN NEN hr2 n00) (ClX.pe_cmeth (pe_glob (v := .ref _) (by rfl) gN rfl) CRN CMc FC0 hr9 pass0 (pa_cons (pv 6) (pa_cons (pv 7) (pa_cons (pv 8) pa_nil)))) (WkCm.pe_cmethK (pe_glob (v := .ref _) (by rfl) gN rfl) CRN CMc FC1 hr9 pass0 (pa_cons (pv 6) (pa_cons (pv 7) (pa_cons (pv 8) pa_nil))) (pk_cons pe_int pk_nil)) (nomark _))
      (pss_one (ps_ret pe_bl)) pss_nil)
      (pss_cons (ps_set (i := 9) nd rfl (Or.inl rfl) (pe_c C_edges hr1 pass0 (pa_cons (pv 3) pa_nil)))
      (pss_cons (ps_if (PW.pt (pw_or (pt_cmpR op_ne (WkC.pe_pr PF1 cl1 hr2 pass0 (pe_mkD MD1 hr8 WkK.passF (pa_cons (pv 5) (pa_cons (pv 9) pa_nil)))) pe_int (nomark _)) (pw_or1 (pt_cmpR op_ne (WkC.pe_pr PF1 cl1 hr2 pass0 (pe_mkK MK1 hr8 WkK.passF (pa_cons (pv 5) (pa_cons (pv 9) pa_nil)) (pk_cons pe_int pk_nil))) pe_int (nomark _)))))
      (pss_one (ps_ret pe_bl)) pss_nil)
      (pss_cons (ps_if (PW.pt (pw_or (pt_cmpR op_ne (WkC.pe_pr PF2 cl2 hr2 pass0 (pe_mkD MD2 hr8 WkK.passF (pa_cons (pv 5) (pa_cons (pv 9) pa_nil)))) pe_int (nomark _)) (pw_or1 (pt_cmpR op_ne (WkC.pe_pr PF2 cl2 hr2 pass0 (ClX.pe_cmeth (pe_glob (v := .ref _) (by rfl) gG2 rfl) CR2 CM2 FR2 hr9 pass0 (pa_cons (pv 6) (pa_cons (pv 7) (pa_cons (pv 8) pa_nil))))) pe_int (nomark _)))))
      (pss_one (ps_ret pe_bl)) pss_nil)
      (pss_cons (ps_asg (pe_slice sl_list (pe_c C_shuf hr2 pass0 (pa_cons (pv 1) (pa_cons (pv 5) pa_nil))) po_none (po_some pe_int)) (WkU.pgL K 2 rfl rfl (pgs_cons (pg_name (i := 10) nd rfl (Or.inl rfl)) (pgs_cons (pg_name (i := 11) nd rfl (Or.inl rfl)) pgs_nil)) rfl))
      (pss_cons (ps_set (i := 12) nd rfl (Or.inl rfl) (ClX.pe_cmeth (pe_glob (v := .ref _) (by rfl) gF rfl) CRF CMF FG0 hr6 WkK.passF (pa_cons (pv 4) (pa_cons (pv 10) (pa_cons (pv 11) pa_nil)))))
      (pss_cons (ps_if (PW.pt (pw_or (pt_cmpR op_ne (WkC.pe_pr PFt FLC.cls hr2 pass0 (pv 12)) (pe_c C_ps hr4 WkK.passF (pa_cons (pv 4) (pa_cons (pv 10) (pa_cons (pv 11) pa_nil)))) (nomark _)) (pw_or1 (pt_cmpR op_ne (WkC.pe_pr PFt FLC.cls hr2 pass0 (WkCm.pe_cmethK (pe_glob (v := .ref _) (by rfl) gF rfl) CRF CMF FG1 hr6 WkK.passF (pa_cons (pv 4) (pa_cons (pv 10) (pa_cons (pv 11) pa_nil))) (pk_cons pe_non pk_nil))) (WkC.pe_pr PFt FLC.cls hr2 pass0 (pv 12)) (nomark _)))))
      (pss_one (ps_ret pe_bl)) pss_nil)
      (pss_cons (ps_if (pt_cmpR op_ne (WkC.pe_pr PFt FLC.cls hr2 pass0 (WkCm.pe_cmethK (pe_glob (v := .ref _) (by rfl) gF rfl) CRF CMF FG1 hr6 WkK.passF (pa_cons (pv 4) (pa_cons (pv 10) (pa_cons (pv 11) pa_nil))) (pk_cons (pe_op op_add (WkC.pe_pr PFt FLC.cls hr2 pass0 (pv 12)) pe_int) pk_nil))) (WkC.pe_pr PFt FLC.cls hr2 pass0 (pv 12)) (nomark _))
      (pss_one (ps_ret pe_bl)) pss_nil)
      (pss_one (ps_if (pt_cmpR op_ne (WkC.pe_pr PFt FLC.cls hr2 pass0 (WkCm.pe_cmethK (pe_glob (v := .ref _) (by rfl) gF rfl) CRF CMF FG1 hr6 WkK.passF (pa_cons (pv 4) (pa_cons (pv 10) (pa_cons (pv 11) pa_nil))) (pk_cons pe_int pk_nil))) pe_int (nomark _))
      (pss_one (ps_ret pe_bl)) pss_nil)))))))))))))))
      (pss_one (ps_ret pe_bl)))), ?_⟩
    obtain ⟨a, ns, rfl, hS, hl, hT, k⟩ := h
    have big : 10000 < sizeLine := by decide
    have sz : ∀ n : Nat, n ≤ 10000 → n ≤ sizeLine := fun n h => by omega
    refine ⟨_, rfl, a, ns, rfl, hS, hl, fun p cs H1 np ncs s1 P1 => ?_⟩
    refine ⟨_, rfl, a, _, rfl, .inl (s1.seq hS), _, _, rfl, _, _, rfl, rfl, ?_⟩
    rw [List.length_map]
    obtain ⟨nb, enb, nb0, nb1⟩ : ∃ n : Int, n = 3 + (if (ns.length : Int) < 5 then (ns.length : Int) else 5) ∧ 0 ≤ n ∧ n ≤ 8 := ⟨_, rfl, by split <;> omega, by split <;> omega⟩
    refine ⟨nb, by rw [enb], by omega, by omega, ?_⟩
    refine for_it (walk_range (lo := 0) (n := nb.toNat)) (fun i σ Hc => ∃ (x2 x3 x4 x5 x6 x7 x8 x9 x10 x11 x12 : Option V), σ = [some (.ref a), some (.ref p), x2, x3, x4, x5, x6, x7, x8, x9, x10, x11, x12] ∧ Pen Hc p cs (1300 * i) ∧ Tabs tbT Hc)
      ⟨_, _, _, _, _, _, _, _, _, _, _, rfl, P1, hT.ext s1⟩ ?_ ?_ ?_
    · intros
      trivial
    · rintro i x σ H0 H0' hi ⟨x2, x3, x4, x5, x6, x7, x8, x9, x10, x11, x12, rfl, P0, T0⟩ ⟨rfl, rfl⟩
      have hi13 : i < 8 := by omega
      have tabB : ∀ {H H' : Hp} {N : Nat}, Tabs tbT H → Pen H p cs N → But p H H' → Tabs tbT H' := fun {H H' N} t P b => by
        obtain ⟨⟨t', r', h1, _⟩, _⟩ := P
        exact tabs_but t h1 trivial b
      refine ⟨_, rfl, p, cs, _, 3, 7, rfl, P0, by omega, by decide, by decide, by decide, fun q va ea vs es rt H2 b2 nq nva nea N2 lo2 hi2 le2 P2 => ?_⟩
      have T2 := tabB T0 P0 b2
      have okN := N2.ok
      have asc := okN.asc
      refine ⟨_, rfl, q, va, ea, vs, es, rt, rfl, N2, by omega, by omega, by omega, T2, fun x nb1 wt1 n1 m1 en1 ed1 H3 e3 T3 nx N3 hm1 hed1 hen1 ee1 => ?_⟩
      have N23 := N2.ext e3
      have P3 := P2.ext e3
      refine ⟨_, rfl, q, _, rfl, (get_net N23).1, _, _, rfl, ?_⟩
      obtain ⟨a0, b0, c0, vr, rfl⟩ : ∃ a0 b0 c0 vr, vs = a0 :: b0 :: c0 :: vr := by
        rcases vs with _ | ⟨a0, _ | ⟨b0, _ | ⟨c0, vr⟩⟩⟩
        · simp at lo2
        · simp at lo2
        · simp at lo2
        · exact ⟨a0, b0, c0, vr, rfl⟩
      have ab : ltS a0 b0 := (List.pairwise_cons.mp asc).1 b0 (by simp)
      have bc : ltS b0 c0 := (List.pairwise_cons.mp (List.pairwise_cons.mp asc).2).1 c0 (by simp)
      have nm3 : ∀ z ∈ [a0, b0, c0], nameB z = true := fun z hz => okN.nm z (by
        simp only [List.mem_cons, List.not_mem_nil, or_false] at hz
        rcases hz with rfl | rfl | rfl <;> simp)
      refine ⟨_, rfl, _, rfl, va, _, rfl, SqL.of N23.ver, fun d1 nd1 => ?_⟩
      have ec : cutV ((a0 :: b0 :: c0 :: vr).map V.str) none (some 3) = [.str a0, .str b0, .str c0] := by
        rw [cutV_map, cutL_hi _ (by decide)]
        rfl
      rw [ec]
      have L1 : upd H3 d1 (.lst [.str a0, .str b0, .str c0]) d1 = some (.lst [.str a0, .str b0, .str c0]) := upd_same
      have u1 : Same H3 (upd H3 d1 (.lst [.str a0, .str b0, .str c0])) := same_upd nd1
      generalize upd H3 d1 (.lst [.str a0, .str b0, .str c0]) = H4 at L1 u1
      refine ⟨d1, _, rfl, SqL.of L1, rfl, _, _, rfl, _, _, rfl, _, _, rfl, rfl, ?_⟩
      have T4 := T3.ext u1
      have e34 : Ext H3 H4 := Ext.of u1
      refine ⟨rfl, _, rfl, _, rfl, _, rfl, ring_made nc ab bc nm3 T4 fun y1 t1 nb2 wt2 n2 m2 en2 H5 e45 T5 N5 ee5 et1 ny1 => ?_⟩
      refine ⟨rfl, _, rfl, _, rfl, _, rfl, rfl, ring_made nc ab bc nm3 T5 fun y2 t2 nb3 wt3 n3 m3 en3 H6 e56 T6 N6 ee6 et2 ny2 => ?_⟩
      refine same_net NK (N5.extE e56) N6 ee5 ee6 (et1.trans et2.symm) ⟨_, rfl, ite2 (fun h => absurd h (by simp)) (fun _ => ?_)⟩
      refine ⟨rfl, _, rfl, _, rfl, _, rfl, ring_made nc ab bc nm3 T6 fun y3 t3 nb4 wt4 n4 m4 en4 H7 e67 T7 N7 ee7 et3 ny3 => ?_⟩
      obtain ⟨dy3, py3, ay3, hy3, rz3⟩ := N7.ex
      refine ⟨y3, dy3, _, rfl, hy3, y3, m4, en4, [], _, nb4, wt4, t3, n4, 0, 0, rfl, N7, rfl, _, rfl, ?_⟩
      have e42 : n4 = 2 := tri_str ab bc nm3 N7.gok N7.lc ee7
      refine ite2 (fun h => absurd h (by rw [e42]; simp)) (fun _ => ?_)
      refine ⟨rfl, _, rfl, _, rfl, _, rfl, compl_made nc ab bc nm3 T7 fun y4 t4 nb5 wt5 n5 m5 en5 H8 e78 T8 N8 ee8 et4 ny4 => ?_⟩
      refine ⟨rfl, _, rfl, _, rfl, _, rfl, rfl, compl_made nc ab bc nm3 T8 fun y5 t5 nb6 wt6 n6 m6 en6 H9 e89 T9 N9 ee9 et5 ny5 => ?_⟩
      refine same_net NK (N8.extE e89) N9 ee8 ee9 (et4.trans et5.symm) ⟨_, rfl, ite2 (fun h => absurd h (by simp)) (fun _ => ?_)⟩
      have e39 : Ext H3 H9 := e34.trans (e45.trans (e56.trans (e67.trans (e78.trans e89))))
      have N29 := N23.ext e39
      refine ⟨_, rfl, q, va, ea, _, es, rt, rfl, N29, by omega, fun p1 rs1 H10 s10 np1 Lp E10 => ?_⟩
      have T10 := T9.ext s10
      have e310 : Ext H3 H10 := e39.trans (Ext.of s10)
      have N210 := N23.ext e310
      have val := built_valid okN (by omega) (by omega) (.refl _) (.refl _) (Flips.refl _)
      refine ⟨_, rfl, _, rfl, fun x5 dx5 nx5 ndx5 ne5 => ?_⟩
      refine mk_gd1 (b1 := true) (b2 := true) nx5 ndx5 ne5 gn1 nc1 val (SqL.of N210.ver) (SqL.of Lp) E10 T10 fun fs5 H11 e1011 T11 hx5 hl5 => ?_
      refine ⟨x5, dx5, fs5, rfl, hx5, x5, C1, dx5, fs5, _, rfl, hx5, gn1.g, hl5, rfl, _, rfl, ?_⟩
      refine ite2 (fun h => absurd h (by simp)) (fun _ => ?_)
      have Lp11 := e1011 _ _ Lp (fun ps z => by cases z)
      have N211 := N210.ext e1011
      have E11 : EdsAt K H11 rs1 (edS es) := edsS (Ext.stay e1011) E10
      refine ⟨_, rfl, _, rfl, rfl, rfl, fun x6 dx6 nx6 ndx6 ne6 => ?_⟩
      refine mk_gd1 (b1 := true) (b2 := true) nx6 ndx6 ne6 gn1 nc1 val (SqL.of N211.ver) (SqL.of Lp11) E11 T11 fun fs6 H12 e1112 T12 hx6 hl6 => ?_
      refine ⟨x6, dx6, fs6, rfl, hx6, x6, C1, dx6, fs6, _, rfl, hx6, gn1.g, hl6, rfl, _, rfl, ?_⟩
      refine ite2 (fun h => absurd h (by simp)) (fun _ => ?_)
      have Lp12 := e1112 _ _ Lp11 (fun ps z => by cases z)
      have N212 := N211.ext e1112
      have E12 : EdsAt K H12 rs1 (edS es) := edsS (Ext.stay e1112) E11
      refine ⟨_, rfl, _, rfl, fun x7 dx7 nx7 ndx7 ne7 => ?_⟩
      refine mk_gd1 (b1 := true) (b2 := true) nx7 ndx7 ne7 gn2 nc2 val (SqL.of N212.ver) (SqL.of Lp12) E12 T12 fun fs7 H13 e1213 T13 hx7 hl7 => ?_
      refine ⟨x7, dx7, fs7, rfl, hx7, x7, C2, dx7, fs7, _, rfl, hx7, gn2.g, hl7, rfl, _, rfl, ?_⟩
      refine ite2 (fun h => absurd h (by simp)) (fun _ => ?_)
      refine ⟨rfl, _, rfl, _, rfl, _, rfl, ring_gd gn2 nc2 ab bc nm3 T13 fun x8 dx8 fs8 H14 e1314 T14 nx8 hx8 hl8 => ?_⟩
      refine ⟨x8, dx8, fs8, rfl, hx8, x8, C2, dx8, fs8, _, rfl, hx8, gn2.g, hl8, rfl, _, rfl, ?_⟩
      refine ite2 (fun h => absurd h (by simp)) (fun _ => ?_)
      have e314 : Ext H3 H14 := e310.trans (e1011.trans (e1112.trans (e1213.trans e1314)))
      have N214 := N23.ext e314
      have P14 := P3.ext e314
      have N314 := N3.extE e314
      refine ⟨_, rfl, _, rfl, p, cs, va, _, true, _, rfl, P14, by rw [List.length_map]; omega, SqL.of N214.ver, by rw [List.length_map]; omega, fun sq ys H15 b15 nsq Lsq pm P15 => ?_⟩
      obtain ⟨m', rfl, pm'⟩ := perm_map pm rfl
      have lm := pm'.length_eq
      have ndm : m'.Nodup := pm'.nodup_iff.mpr (asc_nodup asc)
      obtain ⟨u0, v0, mr, rfl⟩ : ∃ u0 v0 mr, m' = u0 :: v0 :: mr := by
        rcases m' with _ | ⟨u0, _ | ⟨v0, mr⟩⟩
        · simp at lm
        · simp at lm
        · exact ⟨u0, v0, mr, rfl⟩
      have uin : u0 ∈ a0 :: b0 :: c0 :: vr := pm'.mem_iff.mp (by simp)
      have vin : v0 ∈ a0 :: b0 :: c0 :: vr := pm'.mem_iff.mp (by simp)
      have une : u0 ≠ v0 := fun e => (List.nodup_cons.mp ndm).1 (by rw [e]; simp)
      have N315 := N314.stayE (StayE.but b15 P14)
      have T15 := tabB T14 P14 b15
      refine ⟨_, rfl, sq, _, rfl, SqL.of Lsq, fun d2 nd2 => ?_⟩
      have ec2 : cutV ((u0 :: v0 :: mr).map V.str) none (some 2) = [.str u0, .str v0] := by
        rw [cutV_map, cutL_hi _ (by decide)]
        rfl
      rw [ec2]
      have L2 : upd H15 d2 (.lst [.str u0, .str v0]) d2 = some (.lst [.str u0, .str v0]) := upd_same
      have u2 : Same H15 (upd H15 d2 (.lst [.str u0, .str v0])) := same_upd nd2
      generalize upd H15 d2 (.lst [.str u0, .str v0]) = H16 at L2 u2
      refine ⟨d2, _, rfl, SqL.of L2, rfl, _, _, rfl, _, _, rfl, rfl, ?_⟩
      have N316 := N315.extE (Ext.of u2)
      have go := N3.gok
      obtain ⟨dxh, fsh, ph, adh, PA⟩ := N316.parg NK okN.nm
      refine ⟨rfl, _, rfl, _, rfl, _, rfl, x, dxh, fsh, ph, rt, u0, v0, _, adh, nb1, wt1, .non, rfl, PA, go, uin, vin, une, .inl rfl, fun f1 ff1 pa1 se1 k1 H17 s17 hf1 _ _ r1 => ?_⟩
      have PS1 : PairStr (a0 :: b0 :: c0 :: vr) (vl0 nb1 wt1) u0 v0 k1 := r1.elim (fun ⟨L, e, _⟩ => by cases e) id
      have PA17 := PA.same s17
      refine ⟨_, rfl, f1, ff1, _, rfl, hf1, f1, ff1, pa1, se1, k1, rfl, hf1, ?_⟩
      have anyS : ∀ z, z ∈ a0 :: b0 :: c0 :: vr → AnyV K H17 (.str z) := fun z hz => .inl ⟨z, rfl, name_len (okN.nm z hz)⟩
      have nbl : ∀ y ∈ a0 :: b0 :: c0 :: vr, (nb1 y).length ≤ (a0 :: b0 :: c0 :: vr).length := fun y hy => (go.sym.nd y hy).length_le_of_subset fun z hz => (go.sym.mem y hy z hz).1
      refine ⟨_, rfl, _, rfl, _, rfl, x, dxh, fsh, ph, rt, _, adh, nb1, wt1, .str u0, .str v0, rfl, PA17, anyS u0 uin, anyS v0 vin, go.sym, fun y hy z hz => by have := (go.wts y hy z hz).1; omega, fun y hy => by have := nbl y hy; omega, by omega, go.nd, fun h => absurd ⟨u0, uin, rfl⟩ h, fun _ h => absurd ⟨v0, vin, rfl⟩ h, fun _ e => absurd (by injection e) une, fun u2' v2' eu ev _ _ _ k2 H18 s18 PS2 => ?_⟩
      cases eu
      cases ev
      have k12 := pair_uniq PS1 PS2
      subst k12
      refine ⟨rfl, _, rfl, ite2 (fun h => absurd h (by simp)) (fun _ => ?_)⟩
      have PA18 := PA17.same s18
      have k1pos : 0 < k1 := by
        obtain ⟨⟨S, h1, h2, e⟩, _⟩ := PS1
        exact flow_pos go.nd go.sym (fun a ha b hb => (go.wts a ha b hb).1) uin (go.con u0 uin v0 vin) h1 h2 e
      have hf18 := s18 _ _ hf1
      refine ⟨rfl, _, rfl, _, rfl, _, rfl, rfl, rfl, x, dxh, fsh, ph, rt, u0, v0, _, adh, nb1, wt1, .non, rfl, PA18, go, uin, vin, une, .inl rfl, fun f2 ff2 pa2 se2 k2 H19 s19 hf2 _ _ r2 => ?_⟩
      have k22 : k2 = k1 := pair_uniq (r2.elim (fun ⟨L, e, _⟩ => by cases e) id) PS1
      subst k22
      have hf19 := s19 _ _ hf18
      refine ⟨f2, ff2, _, rfl, hf2, f2, ff2, pa2, se2, k2, rfl, hf2, _, rfl, f1, ff1, _, rfl, hf19, f1, ff1, pa1, se1, k2, rfl, hf19, rfl, _, rfl, ite2 (fun h => absurd h (by simp)) (fun _ => ?_)⟩
      have PA19 := PA18.same s19
      refine ⟨rfl, _, rfl, _, rfl, _, rfl, _, rfl, f1, ff1, _, rfl, hf19, f1, ff1, pa1, se1, k2, rfl, hf19, _, _, rfl, rfl, rfl, rfl, x, dxh, fsh, ph, rt, u0, v0, _, adh, nb1, wt1, .int (k2 + 1), rfl, PA19, go, uin, vin, une, .inr ⟨_, rfl, by omega⟩, fun f3 ff3 pa3 se3 k3 H20 s20 hf3 _ c3 r3 => ?_⟩
      have k33 : k3 = k2 := by
        rcases r3 with ⟨L, e, rfl⟩ | r3
        · cases e
          obtain ⟨⟨S, h1, h2, e⟩, _⟩ := PS1
          have := c3 S h1 h2
          omega
        · exact pair_uniq r3 PS1
      subst k33
      have hf20 := s20 _ _ hf19
      refine ⟨f3, ff3, _, rfl, hf3, f3, ff3, pa3, se3, k3, rfl, hf3, _, rfl, f1, ff1, _, rfl, hf20, f1, ff1, pa1, se1, k3, rfl, hf20, rfl, _, rfl, ite2 (fun h => absurd h (by simp)) (fun _ => ?_)⟩
      have PA20 := PA19.same s20
      refine ⟨rfl, _, rfl, _, rfl, _, rfl, rfl, rfl, x, dxh, fsh, ph, rt, u0, v0, _, adh, nb1, wt1, .int 1, rfl, PA20, go, uin, vin, une, .inr ⟨_, rfl, by decide⟩, fun f4 ff4 pa4 se4 k4 H21 s21 hf4 l4 _ r4 => ?_⟩
      have k44 : k4 = 1 := by
        rcases r4 with ⟨L, e, rfl⟩ | r4
        · cases e
          rfl
        · have := pair_uniq r4 PS1
          have := l4 1 rfl
          omega
      subst k44
      refine ⟨f4, ff4, _, rfl, hf4, f4, ff4, pa4, se4, _, rfl, hf4, rfl, _, rfl, ite2 (fun h => absurd h (by simp)) (fun _ => ?_)⟩
      have fin : Same H15 H21 := (((u2.trans s17).trans (s18.trans s19)).trans s20).trans s21
      exact ⟨_, _, _, _, _, _, _, _, _, _, _, rfl, (P15.ext (Ext.of fin)).mono (by rw [List.length_map] at *; omega), T15.ext fin⟩
    · rintro σ Hc ⟨x2, x3, x4, x5, x6, x7, x8, x9, x10, x11, x12, rfl, Pn, Tn⟩
      exact k Hc
end
end Wk
/-! defaults of a def that has cells of its class -/
namespace WkJ
open PySem PySem.Spec PyProof.Rows L2
theorem FunC.binds1 {K : PySem.W.Frag} {d : DefA} {fd : FuncData} {ps : List Str} (F : FunC K d fd) (n j : Nat) (hd : d.dvs K ≠ []) (hn : n + ((d.dvs K).length - j) = ps.length)
    (h : ∀ (T : Addr) (kV doc pm : Value) (an : Option Addr) (cdv ct : Value) (cl : List (Str × Addr)) (us its : List Value), us.length = n → its.length = (d.dvs K).length →
      ∃ k, bindArgs ⟨d.name, d.qual, d.params, .stmts d.body, d.scope, mainGlobals, cl, .ref T, kV, doc, pm, an, cdv, ct, builtinsNs⟩ ⟨us, []⟩ = seqItems? (.ref T) >>= k ∧ k (some its.toArray) = pure (ps.zip (us ++ its.drop j))) : ∃ ds, Vals ((d.dvs K).drop j) ds ∧ Binds K fd ps ds := by
  obtain ⟨oc, od, dV, kV, doc, pm, an, cdv, ct, osl, cl, rfl, _, lk, hcd, hD, hK⟩ := F.ex
  rcases hD with ⟨e, _⟩ | ⟨_, T, o, its, m, rfl, lT, oT, rT⟩
  · exact absurd e hd
  · refine ⟨its.drop j, rT.drop j, fun s us X hlen => ?_⟩
    have l1 : its.length = (d.dvs K).length := rT.length.symm
    have l2 : us.length = n := by
      rw [List.length_append, List.length_drop, l1] at hlen
      omega
    obtain ⟨k, e1, e2⟩ := h T kV doc pm an cdv ct cl us its l2 l1
    refine BindsTo.of_looks fun M => ?_
    rw [e1]
    exact looks_items X lT oT (.of_pure e2)
/-- the same, the last ones given by keyword -/
theorem FunC.kbinds1 {K : PySem.W.Frag} {d : DefA} {fd : FuncData} {ps : List Str} (F : FunC K d fd) (n : Nat) (ks : List Str) (hd : d.dvs K ≠ [])
    (h : ∀ (T : Addr) (kV doc pm : Value) (an : Option Addr) (cdv ct : Value) (cl : List (Str × Addr)) (us its ws : List Value), us.length = n → its.length = (d.dvs K).length → ws.length = ks.length →
      ∃ k, bindArgs ⟨d.name, d.qual, d.params, .stmts d.body, d.scope, mainGlobals, cl, .ref T, kV, doc, pm, an, cdv, ct, builtinsNs⟩ ⟨us, ks.zip ws⟩ = seqItems? (.ref T) >>= k ∧ k (some its.toArray) = pure (ps.zip (us ++ ws))) : KBn K fd ps n ks (fun us ws => us ++ ws) (fun vs zs => vs ++ zs) := by
  obtain ⟨oc, od, dV, kV, doc, pm, an, cdv, ct, osl, cl, rfl, _, lk, hcd, hD, hK⟩ := F.ex
  rcases hD with ⟨e, _⟩ | ⟨_, T, o, its, m, rfl, lT, oT, rT⟩
  · exact absurd e hd
  · refine ⟨fun s us ws X l1 l2 => ?_, fun r1 r2 => r1.append r2⟩
    obtain ⟨k, e1, e2⟩ := h T kV doc pm an cdv ct cl us its ws l1 rT.length.symm l2
    refine BindsTo.of_looks fun M => ?_
    rw [e1]
    exact looks_items X lT oT (.of_pure e2)
end WkJ
namespace Wk
open PySem PySem.Spec PyProof.Rows L2 WkD WkN LamX WkP WkE WkC
section
variable {K : PySem.W.Frag} {h : Heap} {mg : Str → Option Value}
theorem def_of {x : Str} {d : WkJ.DefA} (X : K.In h) (G : h.Ns mainGlobals mg) (c : WkJ.Says fa da tf ex h K) (hd : d ∈ da) (hc : d.clo = []) (hg : He.Fa.glo x ∈ fa) (st : Stmt) (e : d = ⟨fun K => He.ga K x, x, x, defArgs st, defBody st, defScope st, [], [], []⟩) : Def K mg x st := by
  obtain ⟨fd, F⟩ := c.defs d hd
  have F := F.funD hc
  subst e
  exact ⟨_, fd, F, He.glo_ok X G (c.fact _ hg)⟩
theorem bi_of (X : K.In h) (G : h.Ns mainGlobals mg) (c : WkJ.Says fa da tf ex h K) : Bi mg :=
  ⟨He.free_ok X G (c.fact (.free "abs") (by simp [fa, fa2])), He.free_ok X G (c.fact (.free "all") (by simp [fa, fa2])), He.free_ok X G (c.fact (.free "any") (by simp [fa, fa2])), He.free_ok X G (c.fact (.free "bool") (by simp [fa, fa2])), He.free_ok X G (c.fact (.free "dict") (by simp [fa, fa2])), He.free_ok X G (c.fact (.free "enumerate") (by simp [fa, fa2])), He.free_ok X G (c.fact (.free "int") (by simp [fa, fa2])), He.free_ok X G (c.fact (.free "isinstance") (by simp [fa, fa2])), He.free_ok X G (c.fact (.free "len") (by simp [fa, fa2])), He.free_ok X G (c.fact (.free "list") (by simp [fa, fa2])), He.free_ok X G (c.fact (.free "max") (by simp [fa, fa2])), He.free_ok X G (c.fact (.free "min") (by simp [fa, fa2])), He.free_ok X G (c.fact (.free "range") (by simp [fa, fa2])), He.free_ok X G (c.fact (.free "repr") (by simp [fa, fa2])), He.free_ok X G (c.fact (.free "set") (by simp [fa, fa2])), He.free_ok X G (c.fact (.free "sorted") (by simp [fa, fa2])), He.free_ok X G (c.fact (.free "str") (by simp [fa, fa2])), He.free_ok X G (c.fact (.free "sum") (by simp [fa, fa2])), He.free_ok X G (c.fact (.free "tuple") (by simp [fa, fa2])), He.free_ok X G (c.fact (.free "zip") (by simp [fa, fa2])), He.free_ok X G (c.fact (.free "reversed") (by simp [fa, fa2])), He.free_ok X G (c.fact (.free "super") (by simp [fa, fa2])), He.free_ok X G (c.fact (.free "ValueError") (by simp [fa, fa2])), He.free_ok X G (c.fact (.free "LookupError") (by simp [fa, fa2])), He.free_ok X G (c.fact (.free "KeyError") (by simp [fa, fa2])), He.free_ok X G (c.fact (.free "IndexError") (by simp [fa, fa2])), He.free_ok X G (c.fact (.free "ArithmeticError") (by simp [fa, fa2])), He.free_ok X G (c.fact (.free "OverflowError") (by simp [fa, fa2])), He.free_ok X G (c.fact (.free "ZeroDivisionError") (by simp [fa, fa2])), He.free_ok X G (c.fact (.free "RuntimeError") (by simp [fa, fa2])), He.free_ok X G (c.fact (.free "TypeError") (by simp [fa, fa2]))⟩
theorem facts {w : World} {f : Addr} (X : K.In h) (G : h.Ns mainGlobals mg) (hfa : mg ("law" : Str) = some (.ref f)) (c : WkJ.Says fa da tf ex h K) : WkH.LawT PySem.Challenge.rw_weakcuts_k94_whole_default_arguments w K CX0 10 63 "_law_script" mg f h := by
  have hx := c.ex
  obtain ⟨x_sm, hx⟩ := He.ba hx
  obtain ⟨x_cv, hx⟩ := He.ba hx
  obtain ⟨x_cw, hx⟩ := He.ba hx
  obtain ⟨x_mro, hx⟩ := He.ba hx
  obtain ⟨x_sup, hx⟩ := He.ba hx
  obtain ⟨x_fni, hx⟩ := He.ba hx
  obtain ⟨x_ifi, hx⟩ := He.ba hx
  obtain ⟨x_spb, hx⟩ := He.ba hx
  obtain ⟨x_icl, hx⟩ := He.ba hx
  obtain ⟨x_thi, hx⟩ := He.ba hx
  obtain ⟨x_gv, hx⟩ := He.ba hx
  obtain ⟨x_gw, hx⟩ := He.ba hx
  obtain ⟨x_mck, hx⟩ := He.ba hx
  obtain ⟨x_mac, hx⟩ := He.ba hx
  obtain ⟨x_mcv, hx⟩ := He.ba hx
  obtain ⟨x_msr, hx⟩ := He.ba hx
  obtain ⟨x_unk, hx⟩ := He.ba hx
  obtain ⟨x_ms_levels, hx⟩ := He.ba hx
  obtain ⟨x_ms_move, hx⟩ := He.ba hx
  obtain ⟨x_ms_advance, hx⟩ := He.ba hx
  obtain ⟨x_ms_run, hx⟩ := He.ba hx
  obtain ⟨x_ms_arcs, hx⟩ := He.ba hx
  obtain ⟨x_pp_strength, hx⟩ := He.ba hx
  obtain ⟨x_crn, hx⟩ := He.ba hx
  obtain ⟨x_cr2, hx⟩ := He.ba hx
  obtain ⟨x_crf, hx⟩ := He.ba hx
  obtain ⟨x_cmr, hx⟩ := He.ba hx
  obtain ⟨x_cmc, hx⟩ := He.ba hx
  obtain ⟨x_cm2, hx⟩ := He.ba hx
  obtain ⟨x_rg, hx⟩ := He.ba hx
  obtain ⟨x_cmf, hx⟩ := He.ba hx
  obtain ⟨x_flt, hx⟩ := He.ba hx
  obtain ⟨x_eqn, hx⟩ := He.ba hx
  obtain ⟨x_eqf, hx⟩ := He.ba hx
  obtain ⟨x_nen, hx⟩ := He.ba hx
  obtain ⟨x_ec0, hx⟩ := He.ba hx
  obtain ⟨x_n00, hx⟩ := He.ba hx
  obtain ⟨x_cv1, hx⟩ := He.ba hx
  obtain ⟨x_cw1, hx⟩ := He.ba hx
  obtain ⟨x_mr1, hx⟩ := He.ba hx
  obtain ⟨x_su1, hx⟩ := He.ba hx
  obtain ⟨x_gm1, hx⟩ := He.ba hx
  obtain ⟨x_gs1, hx⟩ := He.ba hx
  obtain ⟨x_sf1, hx⟩ := He.ba hx
  obtain ⟨x_fl1, hx⟩ := He.ba hx
  obtain ⟨x_cv2, hx⟩ := He.ba hx
  obtain ⟨x_cw2, hx⟩ := He.ba hx
  obtain ⟨x_mr2, hx⟩ := He.ba hx
  obtain ⟨x_su2, hx⟩ := He.ba hx
  obtain ⟨x_gm2, hx⟩ := He.ba hx
  obtain ⟨x_gs2, hx⟩ := He.ba hx
  obtain ⟨x_sf2, hx⟩ := He.ba hx
  obtain ⟨x_fl2, hx⟩ := He.ba hx
  obtain ⟨x_fl21, hx⟩ := He.ba hx
  obtain ⟨x_spg, hx⟩ := He.ba hx
  obtain ⟨x_icg, hx⟩ := He.ba hx
  obtain ⟨x_fnn, hx⟩ := He.ba hx
  obtain ⟨x_ifn, hx⟩ := He.ba hx
  obtain ⟨x_mk2, hx⟩ := He.ba hx
  obtain ⟨x_mi2, hx⟩ := He.ba hx
  obtain ⟨x_mf2, hx⟩ := He.ba hx
  obtain ⟨x_mp2, hx⟩ := He.ba hx
  obtain ⟨x_x_InvalidFloor, hx⟩ := He.ba hx
  obtain ⟨x_x_TooWeak, hx⟩ := He.ba hx
  obtain ⟨x_x_SameVertex, hx⟩ := He.ba hx
  have B := bi_of X G c
  obtain ⟨tL, gL⟩ := He.str_ok X G (c.fact (.str "LETTERS" letS) (by simp [fa, fa3]))
  have gN := He.glo_ok X G (c.fact (.glo "Network") (by simp [fa, fa1]))
  have gG := He.glo_ok X G (c.fact (.glo "Graph") (by simp [fa, fa1]))
  have cls := He.cls_ok (c.fact (.cls "Network") (by simp [fa, fa3]))
  have nat : ∀ f, He.Fa.noat "Network" f ∈ fa → NoAttr K (He.ga K "Network") f := fun f hf => He.noat_ok (c.fact _ hf)
  have natG : ∀ f, He.Fa.noat "Graph" f ∈ fa → NoAttr K (He.ga K "Graph") f := fun f hf => He.noat_ok (c.fact _ hf)
  have gc : GCls K (He.ga K "Network") := ⟨cls, nat _ (by simp [fa, fa3]), nat _ (by simp [fa, fa3]), WkJ.conB_ok x_cv, WkJ.conB_ok x_cw⟩
  have gcG : GCls K (He.ga K "Graph") := ⟨He.cls_ok (c.fact (.cls "Graph") (by simp [fa, fa3])), natG _ (by simp [fa, fa3]), natG _ (by simp [fa, fa3]), WkJ.conB_ok x_gv, WkJ.conB_ok x_gw⟩
  have nc : NCls K (He.ga K "Network") (He.ga K "Network") (He.ma K (He.ga K "Graph") "__init__") := ⟨gc, nat _ (by simp [fa, fa3]), nat _ (by simp [fa, fa3]), nat _ (by simp [fa, fa3]), nat _ (by simp [fa, fa3]), nat _ (by simp [fa, fa3]), of_decide_eq_true x_mro, He.eqO_ok x_sup⟩
  obtain ⟨fd, F⟩ := c.defs d_law94 (by simp [da])
  have F := F.funD rfl
  have e := hfa.symm.trans (He.glo_ok X G (c.fact (.glo "law") (by simp [fa, fa1])))
  cases e
  have b := FunD.bindsA (ps := ["_law_script"]) F fun _ _ _ _ _ _ us hl => match us, hl with | [_], _ => rfl
  obtain ⟨tb, etb⟩ : ∃ tb, tb = [((He.cT K (("last_two", none) : He.Defn)).2, ("last_two.<locals>.<lambda>" : Str))] := ⟨_, rfl⟩
  refine ⟨fd, [He.cT K ("last_two", none)], spLawT K tb, fun p hp => ?_, fun p hp => ?_, fun p hp => ?_, fun s v => b s [v] rfl, fun H a ms hl eT sq => ⟨a, ms, rfl, sq, hl, ?_, fun _ => rfl⟩, fun base kb nb TB => ?_⟩
  · rw [List.mem_singleton.mp hp]
    exact c.emp _ (by simp [tf])
  · rw [List.mem_singleton.mp hp]
    exact c.out _ (by simp [tf])
  · rw [List.mem_singleton.mp hp]
    exact PySem.W.codeHd_of_K X (c.hd _ (by simp [tf]))
  · intro p hp
    rw [etb] at hp
    rw [List.mem_singleton.mp hp]
    exact TabS.nil (eT _ (by simp))
  have C_draw := c_draw (P := (PySem.Challenge.rw_weakcuts_k94_whole_default_arguments).prog) (w := w) (base := base) (def_of X G c (d := d_draw) (by simp [da]) rfl (by simp [fa, fa1]) _ rfl) B
  have C_pick := c_pick (def_of X G c (d := d_pick) (by simp [da]) rfl (by simp [fa, fa1]) _ rfl) B C_draw
  have C_name := c_is_name (P := (PySem.Challenge.rw_weakcuts_k94_whole_default_arguments).prog) (w := w) (base := base) (def_of X G c (d := d_is_name) (by simp [da]) rfl (by simp [fa, fa1]) _ rfl) B gL
  have C_tup := c_is_tuple_of (P := (PySem.Challenge.rw_weakcuts_k94_whole_default_arguments).prog) (w := w) (base := base) (def_of X G c (d := d_is_tuple_of) (by simp [da]) rfl (by simp [fa, fa1]) _ rfl) B
  have C_bet := c_is_between (P := (PySem.Challenge.rw_weakcuts_k94_whole_default_arguments).prog) (w := w) (base := base) (def_of X G c (d := d_is_between) (by simp [da]) rfl (by simp [fa, fa1]) _ rfl) B
  have C_join := c_can_join (def_of X G c (d := d_can_join) (by simp [da]) rfl (by simp [fa, fa1]) _ rfl) C_name
  have C_last : Callee (PySem.Challenge.rw_weakcuts_k94_whole_default_arguments).prog w K mg base CX0 3 "last_two" ["rows"] (spLast tb) := c_last_two (def_of X G c (d := d_last_two) (by simp [da]) rfl (by simp [fa, fa1]) _ rfl) B (TB _ List.mem_cons_self) (by rw [etb]; simp) (fun p hp hq => by
      rw [etb] at hp
      rw [List.mem_singleton.mp hp]) fun f hf => by
    have e := hf.symm.trans (He.glo_ok X G (c.fact (.glo "last_two") (by simp [fa, fa1])))
    cases e
    refine WkJ.codeIs_of (p := ("last_two", none)) fun oc od fd osl lk => ?_
    obtain ⟨fd', F'⟩ := c.defs d_last_two (by simp [da])
    obtain ⟨oc', od', dV, kV, doc, pm, an, cdv, ct, osl', cl, e1, _, lk', cd, _⟩ := F'.ex
    have lk2 : K.lookup (He.fAd K ("last_two", none)) = some ⟨oc', od', .func fd', osl'⟩ := lk'
    rw [lk2] at lk
    cases lk
    rw [e1]
    exact cd
  have C_merge := c_merge_rows (P := (PySem.Challenge.rw_weakcuts_k94_whole_default_arguments).prog) (w := w) (base := base) (def_of X G c (d := d_merge_rows) (by simp [da]) rfl (by simp [fa, fa1]) _ rfl)
  have C_side := c_side_of (P := (PySem.Challenge.rw_weakcuts_k94_whole_default_arguments).prog) (w := w) (base := base) (def_of X G c (d := d_side_of) (by simp [da]) rfl (by simp [fa, fa1]) _ rfl) B
  have C_least := c_least_cut (def_of X G c (d := d_least_cut) (by simp [da]) rfl (by simp [fa, fa1]) _ rfl) B C_last C_merge C_side
  have C_str := c_strength_of (def_of X G c (d := d_strength_of) (by simp [da]) rfl (by simp [fa, fa1]) _ rfl) C_least
  have C_sort := c_sorted_rows (P := (PySem.Challenge.rw_weakcuts_k94_whole_default_arguments).prog) (w := w) (base := base) (def_of X G c (d := d_sorted_rows) (by simp [da]) rfl (by simp [fa, fa1]) _ rfl) B
  have C_rea := c_reached (P := (PySem.Challenge.rw_weakcuts_k94_whole_default_arguments).prog) (w := w) (base := base) (def_of X G c (d := d_reached) (by simp [da]) rfl (by simp [fa, fa1]) _ rfl) B
  have C_con := c_check_connected (def_of X G c (d := d_check_connected) (by simp [da]) rfl (by simp [fa, fa1]) _ rfl) B C_rea
  obtain ⟨fdG, FG⟩ := c.defs d_graph_init (by simp [da])
  have FG := FG.funD rfl
  have OG := ok_graph_init FG B C_name C_tup C_join C_bet C_con C_sort
  obtain ⟨fdN, FN⟩ := c.defs d_net_init (by simp [da])
  obtain ⟨hbd, cc, cda, ST⟩ := WkJ.supT_of (P := (PySem.Challenge.rw_weakcuts_k94_whole_default_arguments).prog) (mg := mg) (ps := ["self", "vertices", "edges"]) (D := He.ga K "Network") FN rfl x_spb x_icl B.n_super (by decide +kernel) ⟨_, rfl, rfl⟩ (He.eqO_ok x_thi)
  have ON := ok_net_init (tbT := tb) ST hbd OG (FunD.bindsN FG (fun _ _ _ _ _ _ us hl => match us, hl with | [_, _, _], _ => rfl)) x_fni x_ifi C_str
  obtain ⟨fdc, Fc⟩ := c.defs d_ck (by simp [da])
  obtain ⟨fda, Fa⟩ := c.defs d_accept (by simp [da])
  obtain ⟨fdk, Fk⟩ := c.defs d_check_vertex (by simp [da])
  obtain ⟨fds, Fs⟩ := c.defs d_set_root (by simp [da])
  obtain ⟨fdu, Fu⟩ := c.defs d_unk_init (by simp [da])
  have Fc := Fc.funD rfl
  have Fa := Fa.funD rfl
  have Fk := Fk.funD rfl
  have Fs := Fs.funD rfl
  have TU : WkX.ExcT K mg "UnknownVertex" "value" (He.ga K "UnknownVertex") (He.ma K (He.ga K "UnknownVertex") "__init__") := WkX.excT_mk (He.glo_ok X G (c.fact (.glo "UnknownVertex") (by simp [fa, fa1]))) x_unk PySem.F.excBase_LookupError WkX.tK WkX.pK WkX.oK WkX.f_value (WkJ.initA_of Fu rfl)
  have GM : MakeC (PySem.Challenge.rw_weakcuts_k94_whole_default_arguments).prog w K mg base CX0 (He.ga K "Graph") "Graph" 3 (spGraph K) := ⟨_, _, _, He.mkr_ok (c.fact (.mkr "Graph") (by simp [fa, fa3])), OG, gG, FunD.bindsN FG (fun _ _ _ _ _ _ us hl => match us, hl with | [_, _, _], _ => rfl)⟩
  have C_gof := c_graph_of (def_of X G c (d := d_graph_of) (by simp [da]) rfl (by simp [fa, fa1]) _ rfl) B gcG GM
  have AK : AccC (PySem.Challenge.rw_weakcuts_k94_whole_default_arguments).prog w K mg base (He.ga K "Network") := ⟨nc.f, ⟨_, _, _, WkJ.methB_ok x_mck, ok_ck Fc, FunD.bindsN Fc (fun _ _ _ _ _ _ us hl => match us, hl with | [_, _], _ => rfl)⟩⟩
  have MA : MethC (PySem.Challenge.rw_weakcuts_k94_whole_default_arguments).prog w K mg base CX0 (He.ga K "Network") "accept" 6 (spAccept K tb (He.ga K "Network")) := ⟨_, _, _, WkJ.methB_ok x_mac, ok_accept Fa gcG AK C_gof C_str, FunD.bindsN Fa (fun _ _ _ _ _ _ us hl => match us, hl with | [_, _, _, _], _ => rfl)⟩
  have MV : MethC (PySem.Challenge.rw_weakcuts_k94_whole_default_arguments).prog w K mg base (CX (PySem.Challenge.rw_weakcuts_k94_whole_default_arguments).prog w) (He.ga K "Network") "check_vertex" 2 (spCheck K (He.ga K "UnknownVertex")) := ⟨_, _, _, WkJ.methB_ok x_mcv, ok_check_vertex Fk TU C_name, FunD.bindsN Fk (fun _ _ _ _ _ _ us hl => match us, hl with | [_, _], _ => rfl)⟩
  have MS : MethC (PySem.Challenge.rw_weakcuts_k94_whole_default_arguments).prog w K mg base (CX (PySem.Challenge.rw_weakcuts_k94_whole_default_arguments).prog w) (He.ga K "Network") "set_root" 7 (spSetRoot K tb (He.ga K "Network") (He.ga K "UnknownVertex")) := ⟨_, _, _, WkJ.methB_ok x_msr, ok_set_root Fs AK MV MA, FunD.bindsN Fs (fun _ _ _ _ _ _ us hl => match us, hl with | [_, _], _ => rfl)⟩
  have MN : MakeC (PySem.Challenge.rw_weakcuts_k94_whole_default_arguments).prog w K mg base CX0 (He.ga K "Network") "Network" 6 (spNet K tb (He.ga K "Network") (He.ma K (He.ga K "Graph") "__init__")) := ⟨_, _, _, He.mkr_ok (c.fact (.mkr "Network") (by simp [fa, fa3])), ON, gN, FN.binds rfl (fun _ _ _ _ _ _ _ us hl => match us, hl with | [_, _, _], _ => rfl)⟩
  have C_names := c_lnames (def_of X G c (d := d_lnames) (by simp [da]) rfl (by simp [fa, fa1]) _ rfl) B C_draw C_pick
  have C_wts := c_weights (def_of X G c (d := d_weights) (by simp [da]) rfl (by simp [fa, fa1]) _ rfl) C_draw
  have C_le := c_ledges (P := (PySem.Challenge.rw_weakcuts_k94_whole_default_arguments).prog) (w := w) (base := base) (def_of X G c (d := d_ledges) (by simp [da]) rfl (by simp [fa, fa1]) _ rfl) B
  have C_net := c_network (def_of X G c (d := d_network) (by simp [da]) rfl (by simp [fa, fa1]) _ rfl) B C_draw C_pick C_names C_wts
  have C_made := c_made (def_of X G c (d := d_made) (by simp [da]) rfl (by simp [fa, fa1]) _ rfl) B C_le nc MN MS
  obtain ⟨fd_TF, F_TF⟩ := c.defs d_init_invalidfloor (by simp [da])
  have TF : WkX.ExcT K mg "InvalidFloor" "value" (He.ga K "InvalidFloor") (He.ma K (He.ga K "InvalidFloor") "__init__") := WkX.excT_mk (He.glo_ok X G (c.fact (.glo "InvalidFloor") (by simp [fa, fa1]))) x_x_InvalidFloor PySem.F.excBase_ValueError WkX.tV WkX.pV WkX.oV WkX.f_value (WkJ.initA_of F_TF rfl)
  obtain ⟨fd_TW, F_TW⟩ := c.defs d_init_tooweak (by simp [da])
  have TW : WkX.ExcT K mg "TooWeak" "found" (He.ga K "TooWeak") (He.ma K (He.ga K "TooWeak") "__init__") := WkX.excT_mk (He.glo_ok X G (c.fact (.glo "TooWeak") (by simp [fa, fa1]))) x_x_TooWeak PySem.F.excBase_RuntimeError WkX.tR WkX.pR WkX.oR WkX.f_found (WkJ.initA_of F_TW rfl)
  obtain ⟨fd_TS, F_TS⟩ := c.defs d_init_samevertex (by simp [da])
  have TS : WkX.ExcT K mg "SameVertex" "value" (He.ga K "SameVertex") (He.ma K (He.ga K "SameVertex") "__init__") := WkX.excT_mk (He.glo_ok X G (c.fact (.glo "SameVertex") (by simp [fa, fa1]))) x_x_SameVertex PySem.F.excBase_ValueError WkX.tV WkX.pV WkX.oV WkX.f_value (WkJ.initA_of F_TS rfl)
  have cl1 := He.cls_ok (c.fact (.cls "GuardedNetwork") (by simp [fa, fa3]))
  have na1 : ∀ f, He.Fa.noat "GuardedNetwork" f ∈ fa → NoAttr K (He.ga K "GuardedNetwork") f := fun f hf => He.noat_ok (c.fact _ hf)
  have gd1 : GdCls K (He.ga K "GuardedNetwork") := ⟨cl1, na1 _ (by simp [fa, fa3]), na1 _ (by simp [fa, fa3])⟩
  have nc1 : NCls K (He.ga K "GuardedNetwork") (He.ga K "Network") (He.ma K (He.ga K "Graph") "__init__") := ⟨⟨cl1, na1 _ (by simp [fa, fa3]), na1 _ (by simp [fa, fa3]), WkJ.conB_ok x_cv1, WkJ.conB_ok x_cw1⟩, na1 _ (by simp [fa, fa3]), na1 _ (by simp [fa, fa3]), na1 _ (by simp [fa, fa3]), na1 _ (by simp [fa, fa3]), na1 _ (by simp [fa, fa3]), of_decide_eq_true x_mr1, He.eqO_ok x_su1⟩
  have gn1 : GdN K (He.ga K "GuardedNetwork") (He.ga K "GuardedNetwork") (He.ma K (He.ga K "Network") "__init__") := ⟨gd1, of_decide_eq_true x_gm1, He.eqO_ok x_gs1⟩
  have cl2 := He.cls_ok (c.fact (.cls "GuardedLoggedNetwork") (by simp [fa, fa3]))
  have na2 : ∀ f, He.Fa.noat "GuardedLoggedNetwork" f ∈ fa → NoAttr K (He.ga K "GuardedLoggedNetwork") f := fun f hf => He.noat_ok (c.fact _ hf)
  have gd2 : GdCls K (He.ga K "GuardedLoggedNetwork") := ⟨cl2, na2 _ (by simp [fa, fa3]), na2 _ (by simp [fa, fa3])⟩
  have nc2 : NCls K (He.ga K "GuardedLoggedNetwork") (He.ga K "Network") (He.ma K (He.ga K "Graph") "__init__") := ⟨⟨cl2, na2 _ (by simp [fa, fa3]), na2 _ (by simp [fa, fa3]), WkJ.conB_ok x_cv2, WkJ.conB_ok x_cw2⟩, na2 _ (by simp [fa, fa3]), na2 _ (by simp [fa, fa3]), na2 _ (by simp [fa, fa3]), na2 _ (by simp [fa, fa3]), na2 _ (by simp [fa, fa3]), of_decide_eq_true x_mr2, He.eqO_ok x_su2⟩
  have gn2 : GdN K (He.ga K "GuardedLoggedNetwork") (He.ga K "GuardedNetwork") (He.ma K (He.ga K "Network") "__init__") := ⟨gd2, of_decide_eq_true x_gm2, He.eqO_ok x_gs2⟩
  obtain ⟨fdFo, Fo⟩ := c.defs d_set_floor (by simp [da])
  have Fo := Fo.funD rfl
  obtain ⟨fdFf, Ff⟩ := c.defs d_floor (by simp [da])
  have Ff := Ff.funD rfl
  obtain ⟨fdFq, Fq⟩ := c.defs d_geq (by simp [da])
  have Fq := Fq.funD rfl
  obtain ⟨fdFri, Fri⟩ := c.defs d_n_ring (by simp [da])
  have Fri := Fri.funD rfl
  obtain ⟨fdFco, Fco⟩ := c.defs d_n_complete (by simp [da])
  have Fco := Fco.funD rfl
  obtain ⟨fdFfi, Ffi⟩ := c.defs d_fl_init (by simp [da])
  have Ffi := Ffi.funD rfl
  obtain ⟨fdFft, Fft⟩ := c.defs d_fl_total (by simp [da])
  have Fft := Fft.funD rfl
  obtain ⟨fdFgr, Fgr⟩ := c.defs d_fl_greatest (by simp [da])
  have Fgr := Fgr.funD rfl
  obtain ⟨fdI, FI⟩ := c.defs d_gn_init (by simp [da])
  have bN : Binds K fdN ["self", "vertices", "edges"] [] := FN.binds rfl (fun _ _ _ _ _ _ _ us hl => match us, hl with | [_, _, _], _ => rfl)
  obtain ⟨hbI, ccI, cdaI, SI⟩ := WkJ.supT_of (P := (PySem.Challenge.rw_weakcuts_k94_whole_default_arguments).prog) (mg := mg) (ps := ["self", "vertices", "edges", "floor"]) (D := He.ga K "GuardedNetwork") FI rfl x_spg x_icg B.n_super (by decide +kernel) ⟨_, rfl, rfl⟩ (He.eqO_ok x_thi)
  have OSF := ok_set_floor (P := (PySem.Challenge.rw_weakcuts_k94_whole_default_arguments).prog) (w := w) (base := base) Fo B TF TW
  have SF1 : MethC (PySem.Challenge.rw_weakcuts_k94_whole_default_arguments).prog w K mg base (CX (PySem.Challenge.rw_weakcuts_k94_whole_default_arguments).prog w) (He.ga K "GuardedNetwork") "set_floor" 1 (spSetFloor K (He.ga K "InvalidFloor") (He.ga K "TooWeak")) := ⟨_, _, _, WkJ.methB_ok x_sf1, OSF, FunD.bindsN Fo (fun _ _ _ _ _ _ us hl => match us, hl with | [_, _], _ => rfl)⟩
  have SF2 : MethC (PySem.Challenge.rw_weakcuts_k94_whole_default_arguments).prog w K mg base (CX (PySem.Challenge.rw_weakcuts_k94_whole_default_arguments).prog w) (He.ga K "GuardedLoggedNetwork") "set_floor" 1 (spSetFloor K (He.ga K "InvalidFloor") (He.ga K "TooWeak")) := ⟨_, _, _, WkJ.methB_ok x_sf2, OSF, FunD.bindsN Fo (fun _ _ _ _ _ _ us hl => match us, hl with | [_, _], _ => rfl)⟩
  have OG1 := ok_gn_init (tbT := tb) SI hbI ON bN x_fnn x_ifn gd1 SF1
  have OG2 := ok_gn_init (tbT := tb) SI hbI ON bN x_fnn x_ifn gd2 SF2
  obtain ⟨ds2, vd2, bd2⟩ := WkJ.FunC.binds1 (ps := ["self", "vertices", "edges", "floor"]) FI 3 0 (fun z => nomatch z) rfl fun T kV doc pm an cdv ct cl us its h1 h2 => match us, its, h1, h2 with
    | [_, _, _], [_], _, _ => ⟨_, rfl, rfl⟩
  have kb1 := WkJ.FunC.kbinds1 (ps := ["self", "vertices", "edges", "floor"]) FI 3 ["floor"] (fun z => nomatch z) fun T kV doc pm an cdv ct cl us its ws h1 h2 h3 => match us, its, ws, h1, h2, h3 with
    | [_, _, _], [_], [_], _, _, _ => ⟨_, rfl, rfl⟩
  have mk1 := He.mkr_ok (c.fact (.mkr "GuardedNetwork") (by simp [fa, fa3]))
  have mk2 : Mk K (He.ga K "GuardedLoggedNetwork") (He.ma K (He.ga K "GuardedNetwork") "__init__") := ⟨x_mk2, He.eqO_ok x_mi2, x_mf2, x_mp2⟩
  have gG1 := He.glo_ok X G (c.fact (.glo "GuardedNetwork") (by simp [fa, fa1]))
  have gG2 := He.glo_ok X G (c.fact (.glo "GuardedLoggedNetwork") (by simp [fa, fa1]))
  have gFl := He.glo_ok X G (c.fact (.glo "Flow") (by simp [fa, fa1]))
  have MD1 : MakeD (PySem.Challenge.rw_weakcuts_k94_whole_default_arguments).prog w K mg base (CX (PySem.Challenge.rw_weakcuts_k94_whole_default_arguments).prog w) (He.ga K "GuardedNetwork") "GuardedNetwork" 7 (spGd K tb (He.ga K "GuardedNetwork") (He.ga K "Network") (He.ma K (He.ga K "Graph") "__init__") (He.ga K "GuardedNetwork") (He.ma K (He.ga K "Network") "__init__") (He.ga K "InvalidFloor") (He.ga K "TooWeak")) [.int 1] := ⟨_, _, _, _, mk1, OG1, gG1, bd2, vd2⟩
  have MK1 : MakeKw (PySem.Challenge.rw_weakcuts_k94_whole_default_arguments).prog w K mg base (CX (PySem.Challenge.rw_weakcuts_k94_whole_default_arguments).prog w) (He.ga K "GuardedNetwork") "GuardedNetwork" 7 2 ["floor"] (spGd K tb (He.ga K "GuardedNetwork") (He.ga K "Network") (He.ma K (He.ga K "Graph") "__init__") (He.ga K "GuardedNetwork") (He.ma K (He.ga K "Network") "__init__") (He.ga K "InvalidFloor") (He.ga K "TooWeak")) := ⟨_, _, _, mk1, OG1, gG1, kb1⟩
  have MD2 : MakeD (PySem.Challenge.rw_weakcuts_k94_whole_default_arguments).prog w K mg base (CX (PySem.Challenge.rw_weakcuts_k94_whole_default_arguments).prog w) (He.ga K "GuardedLoggedNetwork") "GuardedLoggedNetwork" 7 (spGd K tb (He.ga K "GuardedLoggedNetwork") (He.ga K "Network") (He.ma K (He.ga K "Graph") "__init__") (He.ga K "GuardedNetwork") (He.ma K (He.ga K "Network") "__init__") (He.ga K "InvalidFloor") (He.ga K "TooWeak")) [.int 1] := ⟨_, _, _, _, mk2, OG2, gG2, bd2, vd2⟩
  have MV2 : WkCm.MakeV (PySem.Challenge.rw_weakcuts_k94_whole_default_arguments).prog w K mg base (CX (PySem.Challenge.rw_weakcuts_k94_whole_default_arguments).prog w) (He.ga K "GuardedLoggedNetwork") 7 (spGd K tb (He.ga K "GuardedLoggedNetwork") (He.ga K "Network") (He.ma K (He.ga K "Graph") "__init__") (He.ga K "GuardedNetwork") (He.ma K (He.ga K "Network") "__init__") (He.ga K "InvalidFloor") (He.ga K "TooWeak")) [.int 1] := ⟨_, _, _, _, mk2, OG2, bd2, vd2⟩
  have MVN : WkCm.MakeV (PySem.Challenge.rw_weakcuts_k94_whole_default_arguments).prog w K mg base CX0 (He.ga K "Network") 7 (spNet K tb (He.ga K "Network") (He.ma K (He.ga K "Graph") "__init__")) [] := ⟨_, _, _, [], He.mkr_ok (c.fact (.mkr "Network") (by simp [fa, fa3])), ON.mono (by decide), bN, .nil⟩
  have OF := ok_floor (mg := mg) (P := (PySem.Challenge.rw_weakcuts_k94_whole_default_arguments).prog) (w := w) (base := base) Ff
  have PF1 : PropC (PySem.Challenge.rw_weakcuts_k94_whole_default_arguments).prog w K mg base CX0 (He.ga K "GuardedNetwork") "floor" 1 (spFloor K) := ⟨_, _, _, _, WkJ.propB_ok x_fl1, OF, FunD.bindsN Ff (fun _ _ _ _ _ _ us hl => match us, hl with | [_], _ => rfl)⟩
  have PF2 : PropC (PySem.Challenge.rw_weakcuts_k94_whole_default_arguments).prog w K mg base CX0 (He.ga K "GuardedLoggedNetwork") "floor" 1 (spFloor K) := by
    have q := WkJ.propB_ok x_fl2
    rw [of_decide_eq_true x_fl21] at q
    exact ⟨_, _, _, _, q, OF, FunD.bindsN Ff (fun _ _ _ _ _ _ us hl => match us, hl with | [_], _ => rfl)⟩
  obtain ⟨a0, b0, c0, d0, i0⟩ := WkJ.eqClsB_ok x_ec0
  have EQN : WkK.EqC (PySem.Challenge.rw_weakcuts_k94_whole_default_arguments).prog w K mg base (He.ga K "Network") 1 (spGEq K (He.ga K "Network")) := ⟨_, _, _, He.eqO_ok x_eqn, x_eqf, ok_geq (P := (PySem.Challenge.rw_weakcuts_k94_whole_default_arguments).prog) (w := w) (base := base) Fq B gG ⟨a0, b0, c0, d0, i0⟩, FunD.bindsN Fq (fun _ _ _ _ _ _ us hl => match us, hl with | [_, _], _ => rfl)⟩
  have natF : ∀ f, He.Fa.noat "Flow" f ∈ fa → NoAttr K (He.ga K "Flow") f := fun f hf => He.noat_ok (c.fact _ hf)
  have FLC : FlCls K (He.ga K "Flow") := ⟨He.cls_ok (c.fact (.cls "Flow") (by simp [fa, fa3])), natF _ (by simp [fa, fa3]), natF _ (by simp [fa, fa3]), natF _ (by simp [fa, fa3])⟩
  have CM2 := WkCm.cmB_ok x_cm2
  rw [of_decide_eq_true x_rg] at CM2
  have gS := He.glo_ok X G (c.fact (.glo "Search") (by simp [fa, fa1]))
  have natS : ∀ f, He.Fa.noat "Search" f ∈ fa → NoAttr K (He.ga K "Search") f := fun f hf => He.noat_ok (c.fact _ hf)
  have SC : SCls K (He.ga K "Search") := ⟨He.cls_ok (c.fact (.cls "Search") (by simp [fa, fa3])), natS _ (by simp [fa, fa3]), natS _ (by simp [fa, fa3]), natS _ (by simp [fa, fa3]), natS _ (by simp [fa, fa3])⟩
  obtain ⟨fds1, Fs1⟩ := c.defs d_sea_init (by simp [da])
  obtain ⟨fds2, Fs2⟩ := c.defs d_sea_levels (by simp [da])
  obtain ⟨fds3, Fs3⟩ := c.defs d_sea_move (by simp [da])
  obtain ⟨fds4, Fs4⟩ := c.defs d_sea_advance (by simp [da])
  obtain ⟨fds5, Fs5⟩ := c.defs d_sea_run (by simp [da])
  have Fs1 := Fs1.funD rfl
  have Fs2 := Fs2.funD rfl
  have Fs3 := Fs3.funD rfl
  have Fs4 := Fs4.funD rfl
  have Fs5 := Fs5.funD rfl
  have SM : MakeC (PySem.Challenge.rw_weakcuts_k94_whole_default_arguments).prog w K mg base CX0 (He.ga K "Search") "Search" 1 (spSea K) := ⟨_, _, _, He.mkr_ok (c.fact (.mkr "Search") (by simp [fa, fa3])), ok_sea_init Fs1, gS, FunD.bindsN Fs1 (fun _ _ _ _ _ _ us hl => match us, hl with | [_, _, _, _], _ => rfl)⟩
  have ML : MethC (PySem.Challenge.rw_weakcuts_k94_whole_default_arguments).prog w K mg base CX0 (He.ga K "Search") "levels" 1 (spLev K) := ⟨_, _, _, WkJ.methB_ok x_ms_levels, ok_sea_levels B Fs2, FunD.bindsN Fs2 (fun _ _ _ _ _ _ us hl => match us, hl with | [_], _ => rfl)⟩
  have MM : MethC (PySem.Challenge.rw_weakcuts_k94_whole_default_arguments).prog w K mg base CX0 (He.ga K "Search") "move" 1 (spMove K) := ⟨_, _, _, WkJ.methB_ok x_ms_move, ok_sea_move B Fs3, FunD.bindsN Fs3 (fun _ _ _ _ _ _ us hl => match us, hl with | [_, _, _], _ => rfl)⟩
  have MAd : MethC (PySem.Challenge.rw_weakcuts_k94_whole_default_arguments).prog w K mg base CX0 (He.ga K "Search") "advance" 2 (fun vs H Q E => spAdv K vs H Q E ∧ ∃ x dx fs, vs.head? = some (.ref x) ∧ H x = some (.ins (He.ga K "Search") dx fs)) := ⟨_, _, _, WkJ.methB_ok x_ms_advance, ok_sea_advance B SC Fs4 MM, FunD.bindsN Fs4 (fun _ _ _ _ _ _ us hl => match us, hl with | [_, _, _], _ => rfl)⟩
  obtain ⟨dsr2, vdr2, bdr2⟩ := FunD.binds1 (ps := ["self", "limit"]) Fs5 2 1 (fun z => nomatch z) rfl fun T kV doc pm an cdv ct us its h1 h2 => match us, its, h1, h2 with
    | [_, _], [_], _, _ => ⟨_, rfl, rfl⟩
  cases vdr2
  have MR2 : MethC (PySem.Challenge.rw_weakcuts_k94_whole_default_arguments).prog w K mg base CX0 (He.ga K "Search") "run" 3 (spRun K (He.ga K "Search")) := ⟨_, _, _, WkJ.methB_ok x_ms_run, ok_sea_run B SC Fs5 ML MAd, bdr2⟩
  obtain ⟨dsr, vdr, bdr⟩ := FunD.binds1 (ps := ["self", "limit"]) Fs5 1 0 (fun z => nomatch z) rfl fun T kV doc pm an cdv ct us its h1 h2 => match us, its, h1, h2 with
    | [_], [_], _, _ => ⟨_, rfl, rfl⟩
  have MRn : WkV.MethD (PySem.Challenge.rw_weakcuts_k94_whole_default_arguments).prog w K mg base CX0 (He.ga K "Search") "run" 3 (spRun K (He.ga K "Search")) [.non] := ⟨_, _, _, _, WkJ.methB_ok x_ms_run, ok_sea_run B SC Fs5 ML MAd, bdr, vdr⟩
  obtain ⟨fds6, Fs6⟩ := c.defs d_sea_arcs (by simp [da])
  have Fs6 := Fs6.funD rfl
  have MAr : MethC (PySem.Challenge.rw_weakcuts_k94_whole_default_arguments).prog w K mg base CX0 (He.ga K "Search") "arcs" 1 (spArcs K) := ⟨_, _, _, WkJ.methB_ok x_ms_arcs, ok_sea_arcs Fs6, FunD.bindsN Fs6 (fun _ _ _ _ _ _ us hl => match us, hl with | [_], _ => rfl)⟩
  obtain ⟨fdg, Fg⟩ := c.defs d_greatest (by simp [da])
  have Fg := Fg.funD rfl
  obtain ⟨dsg, vdg, bdg⟩ := FunD.binds1 (ps := ["graph", "source", "target", "limit"]) Fg 4 1 (fun z => nomatch z) rfl fun T kV doc pm an cdv ct us its h1 h2 => match us, its, h1, h2 with
    | [_, _, _, _], [_], _, _ => ⟨_, rfl, rfl⟩
  cases vdg
  have C_gr : Callee (PySem.Challenge.rw_weakcuts_k94_whole_default_arguments).prog w K mg base CX0 4 "greatest_amounts" ["graph", "source", "target", "limit"] (spGreatA K) := ⟨_, _, c_greatestA Fg SC SM MR2 MAr, He.glo_ok X G (c.fact (.glo "greatest_amounts") (by simp [fa, fa1])), Fg.kp, bdg⟩
  obtain ⟨fdp, Fp⟩ := c.defs d_pstrength (by simp [da])
  have Fp := Fp.funD rfl
  have PF : PropC (PySem.Challenge.rw_weakcuts_k94_whole_default_arguments).prog w K mg base CX0 (He.ga K "Network") "strength" 1 (spFound (He.ga K "Network")) := ⟨_, _, _, _, WkJ.propB_ok x_pp_strength, ok_pstrength Fp nc.f, FunD.bindsN Fp (fun _ _ _ _ _ _ us hl => match us, hl with | [_], _ => rfl)⟩
  have C_cp := c_check_pair (def_of X G c (d := d_check_pair) (by simp [da]) rfl (by simp [fa, fa1]) _ rfl) TS nc.f MV
  have C_ps := c_pair_strength (def_of X G c (d := d_pair_strength) (by simp [da]) rfl (by simp [fa, fa1]) _ rfl) C_cp SC SM MRn
  have C_ar := c_is_arc (def_of X G c (d := d_is_arc) (by simp [da]) rfl (by simp [fa, fa1]) _ rfl) C_tup C_name
  have C_ft := c_flow_total (def_of X G c (d := d_flow_total) (by simp [da]) rfl (by simp [fa, fa1]) _ rfl) B C_ar C_bet
  have C_shuf := c_shuffled (def_of X G c (d := d_shuffled) (by simp [da]) rfl (by simp [fa, fa1]) _ rfl) B C_draw
  have MFl : WkCm.MakeV (PySem.Challenge.rw_weakcuts_k94_whole_default_arguments).prog w K mg base (CX (PySem.Challenge.rw_weakcuts_k94_whole_default_arguments).prog w) (He.ga K "Flow") 4 (spFlowI K (He.ga K "Flow") (He.ga K "Network") (He.ga K "UnknownVertex") (He.ga K "SameVertex")) [] := ⟨_, _, _, [], He.mkr_ok (c.fact (.mkr "Flow") (by simp [fa, fa3])), ok_fl_init B Ffi FLC C_cp C_ft, FunD.bindsN Ffi (fun _ _ _ _ _ _ us hl => match us, hl with | [_, _, _, _, _], _ => rfl), .nil⟩
  have OFG := ok_fl_greatest Fgr C_cp C_gr MFl
  obtain ⟨dsf, vdf, bdf⟩ := greatest_b0 Fgr
  have PFt : PropC (PySem.Challenge.rw_weakcuts_k94_whole_default_arguments).prog w K mg base CX0 (He.ga K "Flow") "total" 1 (spFlTot K (He.ga K "Flow")) := ⟨_, _, _, _, WkJ.propB_ok x_flt, ok_fl_total Fft FLC, FunD.bindsN Fft (fun _ _ _ _ _ _ us hl => match us, hl with | [_], _ => rfl)⟩
  exact ok_law F B (WkG.smB_ok x_sm) nc.f nc gN gG2 gFl (WkX.crB_ok x_crn) (WkCm.cmB_ok x_cmr) (WkCm.cmB_ok x_cmc) (WkX.crB_ok x_cr2) CM2 (WkX.crB_ok x_crf) (WkCm.cmB_ok x_cmf) (ok_ring0 Fri B MVN fun _ _ _ => pass0) (ok_ring1 Fri B MVN fun _ _ _ => pass0) (ok_compl0 Fco B MVN fun _ _ _ => pass0) (ok_compl1 Fco B MVN fun _ _ _ => pass0) (ok_ring0 Fri B MV2 fun X e1 e2 => by have h := @WkK.passF X; rw [e1, e2] at h; exact h) EQN ⟨He.eqO_ok x_nen, d0⟩ x_n00 PF cl1 cl2 gn1 gn2 nc1 nc2 PF1 PF2 MD1 MK1 MD2 FLC (OFG.raw bdf vdf) (WkCm.fnrk_of OFG (greatest_b1 Fgr)) PFt C_ps (c_pen (def_of X G c (d := d_pen) (by simp [da]) rfl (by simp [fa, fa1]) _ rfl) B) C_net C_made C_le C_shuf
end
end Wk
open PySem PySem.W PySem.Calls PyProof.Rows
set_option maxHeartbeats 0 in
theorem PySem.Challenge.cw_weakcuts_k94_whole_default_arguments_holds : PySem.Challenge.rw_weakcuts_k94_whole_default_arguments.Holds := by
  w_on; o_law
  refine HandSHeadRun.head_any (r := OpenLaw.row PySem.Challenge.rw_weakcuts_k94_whole_default_arguments) (q := view (OpenLaw.row PySem.Challenge.rw_weakcuts_k94_whole_default_arguments).prog [58]) (H := Wk.hk) (ob := Wk.ob) (M := 20000) (loose := Wk.loose) (d := HandSHeadRun.topDef (OpenLaw.row PySem.Challenge.rw_weakcuts_k94_whole_default_arguments).prog 58) (kwd := []) Wk.ob_eq
    (by kernel_rfl) (fun s => by kernel_rfl) Wk.run (by kernel_rfl) (by kernel_rfl) (by kernel_rfl) (by rfl) (by first | assumption | decide +kernel) (by decide +kernel) ⟨rfl, rfl, rfl, rfl, rfl, by decide +kernel⟩ ?hw ?hc
  case hw => w_witness2
  case hc =>
    refine WkH.walk_GT (l := PySem.Challenge.rw_weakcuts_k94_whole_default_arguments) (n := 63) (k := 10) (x := "_law_script") (CX := fun _ => L2.CX0) rfl (by decide) (by kernel_rfl) ⟨rfl, by decide, by decide⟩ ?F (fun _ _ _ _ _ z => z)
    intro w mg fa h Y G hmg0
    obtain ⟨K, KX, c⟩ := Y
    have hmg : mg ("law" : PySem.Str) = some (.ref fa) := by
      have e : (HandSHeadRun.topDef (OpenLaw.row PySem.Challenge.rw_weakcuts_k94_whole_default_arguments).prog 58).name = ("law" : PySem.Str) := by kernel_rfl
      rw [← e]
      exact hmg0
    exact ⟨K, KX, Wk.facts (w := w) KX G hmg c⟩
