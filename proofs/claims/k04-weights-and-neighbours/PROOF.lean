import PyProof.Rows.All
import Wide.All
import OpenK.AllK
import Wide.FinOn
import HandS.ForMost
import HandS.Defaults
import PyProof.DictUpdate
import HandS.Walk
import HandS.DictComp
import HandS.More
import HandS.TupSets
import KE.KMinKey
import KE.KWithOwn
import HandS.Property
import HandS.Small
import PyProof.ReprRoads
import PyProof.ReprLen
import HandS.HeadHook1
import HandS.HeadHook2
import HandS.HeadHook3
import HandS.HeadHook4
import HandS.IsInst
import HandS.Lambda
import KE.SortData
import HandS.Conv
import HandS.Codes
import HandS.EndTab
import KE.KSuper
import HandS.Exc
import HandS.SortKw
import HandS.Head0
import HandS.Head1
import HandS.Head2
import KE.KStateDown
import Lean
import KE.KExcIs
import HandS.ExcInit
import HandS.ExcOwn
import HandS.ExcValue
import HandS.ClsMeth
import PyProof.ExcBaseAll.ValueError
import PyProof.ExcBaseAll.RuntimeError
import PyProof.ExcBaseAll.LookupError
import PyProof.ExcBaseAll.IndexError
import HandS.Style
import HandS.Flow
import HandS.TryOnly
import HandS.Star
import HandS.DictEq
import HandS.ListEq
import HandS.ExcField
import HandS.GenBody
import HandS.GenYield
import HandS.ListItems
import HandS.GenList
import KE.KTryMore
import HandS.HotCalls
import HandS.Sort
import HandS.RepeatKit
import HandS.Zip
import KE.GoesMore
import PySem.Challenge.RW_weakcuts_k04_weights_and_neighbours
set_option Elab.async false
set_option linter.all false
set_option maxRecDepth 100000
set_option maxHeartbeats 4000000
/-! places of the defs in the row -/
namespace Wk
open PySem PySem.Spec PyProof.Rows L2
def topS (i : Nat) : Stmt := PySem.Challenge.pw_weakcuts_k04_weights_and_neighbours.main.body.getD i (.Pass ⟨0, 0, 0, 0⟩)
abbrev s__wall : Stmt := topS 0
abbrev s_InvalidVertex_init : Stmt := inClass (topS 2) 0
abbrev s_InvalidEdge_init : Stmt := inClass (topS 3) 0
abbrev s_Disconnected_init : Stmt := inClass (topS 4) 0
abbrev s_UnknownVertex_init : Stmt := inClass (topS 5) 0
abbrev s_UnknownEdge_init : Stmt := inClass (topS 6) 0
abbrev s_OutOfRange_init : Stmt := inClass (topS 7) 0
abbrev s_is_between : Stmt := topS 10
abbrev s_is_name : Stmt := topS 11
abbrev s_is_tuple_of : Stmt := topS 12
abbrev s_side_of : Stmt := topS 14
abbrev s_last_two : Stmt := topS 15
abbrev s_merge_rows : Stmt := topS 16
abbrev s_least_cut : Stmt := topS 17
abbrev s_strength_of : Stmt := topS 18
abbrev s_Graph_init : Stmt := inClass (topS 20) 2
abbrev s_Graph_eq : Stmt := inClass (topS 20) 3
abbrev s_Graph_len : Stmt := inClass (topS 20) 4
abbrev s_Graph_vertices : Stmt := inClass (topS 20) 5
abbrev s_Graph_edges : Stmt := inClass (topS 20) 6
abbrev s_Graph_weight : Stmt := inClass (topS 20) 7
abbrev s_Graph_neighbours : Stmt := inClass (topS 20) 8
abbrev s_Graph_check_vertex : Stmt := inClass (topS 20) 9
abbrev s_can_join : Stmt := topS 21
abbrev s_sorted_rows : Stmt := topS 22
abbrev s_reached : Stmt := topS 23
abbrev s_check_connected : Stmt := topS 24
abbrev s_merged_names : Stmt := topS 27
abbrev s_check_weights : Stmt := topS 28
abbrev s_rows_after_merge : Stmt := topS 29
abbrev s_Network_init : Stmt := inClass (topS 31) 0
abbrev s_Network_ring : Stmt := inClass (topS 31) 1
abbrev s_Network_complete : Stmt := inClass (topS 31) 2
abbrev s_Network_star : Stmt := inClass (topS 31) 3
abbrev s_Network_parse : Stmt := inClass (topS 31) 4
abbrev s_Network_text : Stmt := inClass (topS 31) 5
abbrev s_Network_root : Stmt := inClass (topS 31) 6
abbrev s_Network_strength : Stmt := inClass (topS 31) 7
abbrev s_Network_depth : Stmt := inClass (topS 31) 8
abbrev s_Network_weakest_count : Stmt := inClass (topS 31) 9
abbrev s_Network_cores : Stmt := inClass (topS 31) 10
abbrev s_Network_check_strength : Stmt := inClass (topS 31) 11
abbrev s_Network_accept : Stmt := inClass (topS 31) 12
abbrev s_Network_set_root : Stmt := inClass (topS 31) 13
abbrev s_Network_set_weight : Stmt := inClass (topS 31) 14
abbrev s_Network_add_vertex : Stmt := inClass (topS 31) 15
abbrev s_Network_remove_vertex : Stmt := inClass (topS 31) 16
abbrev s_Network_merge : Stmt := inClass (topS 31) 17
abbrev s_Network_history : Stmt := inClass (topS 31) 18
abbrev s_Network_attempt : Stmt := inClass (topS 31) 19
abbrev s_Network_explore : Stmt := inClass (topS 31) 20
abbrev s_graph_of : Stmt := topS 32
abbrev s_L_pen : Stmt := topS 34
abbrev s_L_draw : Stmt := topS 35
abbrev s_L_pick : Stmt := topS 36
abbrev s_L_names : Stmt := topS 37
abbrev s_L_weights : Stmt := topS 38
abbrev s_L_network : Stmt := topS 39
abbrev s_L_edges : Stmt := topS 40
abbrev s_L_made : Stmt := topS 41
abbrev s_L_unknown : Stmt := topS 42
abbrev s_law : Stmt := topS 43
/-- a def without defaults, as the row has it -/
abbrev FnP (K : PySem.W.Frag) (x qual : Str) (st : Stmt) (f : Addr) (fd : FuncData) : Prop := FunD K x qual (defArgs st) (defBody st) (defScope st) [] [] f fd
end Wk
namespace WkD
open PySem PySem.Spec PyProof.Rows L2
/-! ### things that are known from now on -/
def tFz : List (Addr × HO) → (Hp → Prop) → Hp → Prop
  | [], P, H => P H
  | (d, u) :: r, P, H => H d = some u ∧ Mut (some u) ∧ ∀ od, tFz r P (upd H d (.frz od u))
section
variable {X : Cx} {pins : List (Addr × Obj)} {σ : L2.St} {s : Shared}
theorem inv_fz : ∀ {l : List (Addr × HO)} {H : Hp} {P : Hp → Prop}, Inv X pins σ H s → tFz l P H → ∃ H', Inv X pins σ H' s ∧ P H'
  | [], H, P, I, h => ⟨H, I, h⟩
  | (d, u) :: r, H, P, I, h => by
    obtain ⟨h1, h2, h3⟩ := h
    obtain ⟨od, I2⟩ := I.lock h1 h2
    exact inv_fz I2 (h3 od)
theorem tFz_intro : ∀ {l : List (Addr × HO)} {H : Hp} {P : Hp → Prop}, (∀ p ∈ l, H p.1 = some p.2 ∧ Mut (some p.2)) → (l.map (·.1)).Nodup → (∀ H', (∀ p ∈ l, ∃ od, H' p.1 = some (.frz od p.2)) → (∀ b, b ∉ l.map (·.1) → H' b = H b) → P H') → tFz l P H
  | [], H, P, _, _, k => k H (fun p hp => absurd hp (by simp)) fun b _ => rfl
  | (d, u) :: r, H, P, h, nd, k => by
    obtain ⟨h1, h2⟩ := h (d, u) List.mem_cons_self
    rw [List.map_cons, List.nodup_cons] at nd
    refine ⟨h1, h2, fun od => tFz_intro (fun p hp => ?_) nd.2 fun H' q1 q2 => k H' (fun p hp => ?_) fun b hb => ?_⟩
    · have hne : p.1 ≠ d := fun e => nd.1 (List.mem_map.mpr ⟨p, hp, e⟩)
      obtain ⟨g1, g2⟩ := h p (List.mem_cons_of_mem _ hp)
      exact ⟨by rw [upd_ne hne]; exact g1, g2⟩
    · rcases List.mem_cons.mp hp with rfl | hp
      · exact ⟨od, by rw [q2 _ nd.1]; exact upd_same⟩
      · exact q1 p hp
    · rw [List.map_cons, List.mem_cons, not_or] at hb
      rw [q2 b hb.2, upd_ne hb.1]
/-- behind a statement -/
theorem ps_fz {st : Stmt} {t : TS} (h : PS X st t) : PS X st (fun D σ H => t ⟨fun σ' H' => ∃ l, tFz l (D.nx σ') H', fun v H' => ∃ l, tFz l (D.rt v) H', fun σ' H' => ∃ l, tFz l (D.bk σ') H', fun σ' H' => ∃ l, tFz l (D.ct σ') H'⟩ σ H) := by
  refine ⟨fun pins s σ H D I q => thn (h.run pins s σ H _ I q) fun f s' hf => ?_⟩
  cases f with
  | next =>
    obtain ⟨σ', H', J, l, z⟩ := hf
    obtain ⟨H2, J2, z2⟩ := inv_fz J z
    exact ⟨σ', H2, J2, z2⟩
  | brk =>
    obtain ⟨σ', H', J, l, z⟩ := hf
    obtain ⟨H2, J2, z2⟩ := inv_fz J z
    exact ⟨σ', H2, J2, z2⟩
  | cont =>
    obtain ⟨σ', H', J, l, z⟩ := hf
    obtain ⟨H2, J2, z2⟩ := inv_fz J z
    exact ⟨σ', H2, J2, z2⟩
  | ret u =>
    obtain ⟨v, σ', H', J, r, l, z⟩ := hf
    obtain ⟨H2, J2, z2⟩ := inv_fz J z
    exact ⟨v, σ', H2, J2, r, z2⟩
/-- ahead of a statement -/
theorem ps_fz0 {st : Stmt} {t : TS} (h : PS X st t) : PS X st (fun D σ H => ∃ l, tFz l (t D σ) H) := by
  refine ⟨fun pins s σ H D I q => ?_⟩
  obtain ⟨l, z⟩ := q
  obtain ⟨H2, J2, z2⟩ := inv_fz I z
  exact h.run pins s σ H2 D J2 z2
end
/-! ### comprehensions over what is walked -/
section
variable {J : It} {n : Nat} {G : Hp → Prop} {Y : Nat → Hp → V → Hp → Prop}
theorem dc_it (w : Walk J n G Y) {g : TG} {tt : TT} {tk tv : TE} {vs : List Nat} {σ : L2.St} {H1 : Hp} {D : Addr} {Qd : Hp → Prop} (Pv : Nat → Hp → Prop) (h0 : Pv 0 (upd H1 D (.dK []))) (hG : ∀ i H, i ≤ n → Pv i H → G H)
    (hs : ∀ i x H H', i < n → Pv i H → Y i H x H' → g x (wipe σ vs) H' fun σ2 H2 => wipe σ2 vs = wipe σ vs ∧ tt σ2 H2 fun b H3 =>
      if b = true then tk σ2 H3 fun y H4 => tv σ2 H4 fun z H5 => ∃ kvs k, y = kV k ∧ H5 D = some (.dK kvs) ∧ kvs.length < sizeLine ∧ Pv (i + 1) (upd H5 D (.dK (putK kvs k z))) else Pv (i + 1) H3) (hd : ∀ H, Pv n H → Qd H) :
    ∃ W : Nat → Nat → Hp → Prop, (∃ m, W 0 m (upd H1 D (.dK []))) ∧ ∀ i m H, W i m H →
      (J.stop i H ∧ Qd H) ∨ (J.go i H ∧ ∃ Nx : Hp → Prop, (∀ H', Nx H' → ∃ m', m' < m ∧ W (i + 1) m' H') ∧ ∀ x H', J.yld i H x H' → g x (wipe σ vs) H' fun σ2 H2 => wipe σ2 vs = wipe σ vs ∧ tt σ2 H2 fun b H3 =>
        if b = true then tk σ2 H3 fun y H4 => tv σ2 H4 fun z H5 => ∃ kvs k, y = kV k ∧ H5 D = some (.dK kvs) ∧ kvs.length < sizeLine ∧ Nx (upd H5 D (.dK (putK kvs k z))) else Nx H3) := by
  refine ⟨fun i m H => m = n - i ∧ i ≤ n ∧ Pv i H, ⟨n, by omega, by omega, h0⟩, fun i m H z => ?_⟩
  obtain ⟨em, hi, p⟩ := z
  have q := hG i H hi p
  by_cases hlt : i < n
  · exact .inr ⟨w.goes i H hlt q, Pv (i + 1), fun H' p' => ⟨n - (i + 1), by omega, rfl, hlt, p'⟩, fun x H' y => hs i x H H' hlt p (w.yields i H x H' hlt q y)⟩
  · have e : i = n := by omega
    subst e
    exact .inl ⟨w.stops H q, hd H p⟩
/-- the inner loop of a comprehension with two clauses; or the outer one -/
theorem in_it (w : Walk J n G Y) {B : (Hp → Prop) → V → Hp → Prop} {H0 : Hp} {Qd : Hp → Prop} (Pv : Nat → Hp → Prop) (h0 : Pv 0 H0) (hG : ∀ i H, i ≤ n → Pv i H → G H) (hs : ∀ i x H H', i < n → Pv i H → Y i H x H' → B (Pv (i + 1)) x H') (hd : ∀ H, Pv n H → Qd H) :
    ∃ W : Nat → Nat → Hp → Prop, (∃ m, W 0 m H0) ∧ ∀ i m H, W i m H → (J.stop i H ∧ Qd H) ∨ (J.go i H ∧ ∃ Nx : Hp → Prop, (∀ H', Nx H' → ∃ m', m' < m ∧ W (i + 1) m' H') ∧ ∀ x H', J.yld i H x H' → B Nx x H') := by
  refine ⟨fun i m H => m = n - i ∧ i ≤ n ∧ Pv i H, ⟨n, by omega, by omega, h0⟩, fun i m H z => ?_⟩
  obtain ⟨em, hi, p⟩ := z
  have q := hG i H hi p
  by_cases hlt : i < n
  · exact .inr ⟨w.goes i H hlt q, Pv (i + 1), fun H' p' => ⟨n - (i + 1), by omega, rfl, hlt, p'⟩, fun x H' y => hs i x H H' hlt p (w.yields i H x H' hlt q y)⟩
  · have e : i = n := by omega
    subst e
    exact .inl ⟨w.stops H q, hd H p⟩
end
/-! ### a dict beside {} -/
section
variable {X : Cx}
def rNeE : R2 := fun x y H Q => ∃ a b ks, x = .ref a ∧ y = .ref b ∧ Rd H a (.dK ks) ∧ H b = some (.dK []) ∧ Q (.bl (!ks.isEmpty)) H
def rEqE : R2 := fun x y H Q => ∃ a b ks, x = .ref a ∧ y = .ref b ∧ Rd H a (.dK ks) ∧ H b = some (.dK []) ∧ Q (.bl ks.isEmpty) H
theorem op_neE (hu : X.A.units < cLine) : OpR X (compareOp .NotEq) rNeE := by
  intro pins s σ H x y v u Q I rx ry h
  obtain ⟨a, b, ks, rfl, rfl, ea, eb, q⟩ := h
  obtain rfl : v = Value.ref a := rx
  obtain rfl : u = Value.ref b := ry
  obtain ⟨_, ya, va, ra, da⟩ := dk_rd I.hok ea
  obtain ⟨_, yb, vb, rb, db⟩ := dk_of I.hok eb
  cases rb
  refine PySem.W.keq_ne (knd := mixKind X.prog X.w) (r := true) ya yb da db hu (fun z => ?_) ?_
  · have e : va = [] := List.length_eq_zero_iff.mp z
    subst e
    exact .nil
  · refine ⟨.bl (!ks.isEmpty), H, I, ?_, q⟩
    cases ra with
    | nil => rfl
    | cons _ _ => rfl
theorem op_eqE (hu : X.A.units < cLine) : OpR X (compareOp .Eq) rEqE := by
  intro pins s σ H x y v u Q I rx ry h
  obtain ⟨a, b, ks, rfl, rfl, ea, eb, q⟩ := h
  obtain rfl : v = Value.ref a := rx
  obtain rfl : u = Value.ref b := ry
  obtain ⟨_, ya, va, ra, da⟩ := dk_rd I.hok ea
  obtain ⟨_, yb, vb, rb, db⟩ := dk_of I.hok eb
  cases rb
  refine PySem.W.keq_eq (knd := mixKind X.prog X.w) (r := true) ya yb da db hu (fun z => ?_) ?_
  · have e : va = [] := List.length_eq_zero_iff.mp z
    subst e
    exact .nil
  · refine ⟨.bl ks.isEmpty, H, I, ?_, q⟩
    cases ra with
    | nil => rfl
    | cons _ _ => rfl
end
end WkD
namespace WkD
open PySem PySem.Spec PyProof.Rows L2
/-! ### the order of texts -/
def ltS (a b : Str) : Prop := a.cps.toList < b.cps.toList
instance (a b : Str) : Decidable (ltS a b) := inferInstanceAs (Decidable (a.cps.toList < b.cps.toList))
theorem ltS_irrefl (a : Str) : ¬ ltS a a := List.lt_irrefl _
theorem ltS_trans {a b c : Str} (h : ltS a b) (k : ltS b c) : ltS a c := List.lt_trans h k
theorem str_ext {a b : Str} (h : a.cps.toList = b.cps.toList) : a = b := by
  obtain ⟨a⟩ := a
  obtain ⟨b⟩ := b
  have e : a = b := Array.toList_inj.mp h
  rw [e]
theorem ltS_tri (a b : Str) : ltS a b ∨ a = b ∨ ltS b a := by
  by_cases h : ltS a b
  · exact .inl h
  · by_cases k : ltS b a
    · exact .inr (.inr k)
    · exact .inr (.inl (str_ext (List.le_antisymm (List.not_lt.mp k) (List.not_lt.mp h))))
theorem ltS_asymm {a b : Str} (h : ltS a b) : ¬ ltS b a := fun k => ltS_irrefl a (ltS_trans h k)
theorem ltS_of_not {a b : Str} (h : ¬ ltS b a) (n : a ≠ b) : ltS a b := by
  rcases ltS_tri a b with z | z | z
  · exact z
  · exact absurd z n
  · exact absurd z h
theorem rising_ok : ∀ {ys : List Str} {x : Str}, risingS x ys = true → (x :: ys).Pairwise fun a b => ¬ ltS b a
  | [], x, _ => by simp
  | y :: r, x, h => by
    have h : (!ltCps y.cps.toList x.cps.toList && risingS y r) = true := h
    rw [Bool.and_eq_true, Bool.not_eq_true', ltCps_eq, decide_eq_false_iff_not] at h
    have ih := rising_ok h.2
    refine List.pairwise_cons.mpr ⟨fun z hz => ?_, ih⟩
    rcases List.mem_cons.mp hz with rfl | hz
    · exact h.1
    · have k := (List.pairwise_cons.mp ih).1 z hz
      intro q
      rcases ltS_tri y z with e | e | e
      · exact h.1 (ltS_trans e q)
      · exact h.1 (e ▸ q)
      · exact k e
theorem sorted_ok {ys : List Str} (h : sortedS ys = true) : ys.Pairwise fun a b => ¬ ltS b a := by
  cases ys with
  | nil => exact List.Pairwise.nil
  | cons x r => exact rising_ok h
/-- texts in their order, each once -/
def Asc (ys : List Str) : Prop := ys.Pairwise ltS
theorem asc_of {ys : List Str} (h : sortedS ys = true) (nd : ys.Nodup) : Asc ys :=
  (List.Pairwise.and (sorted_ok h) nd).imp fun ⟨a, b⟩ => ltS_of_not a b
theorem asc_nodup {ys : List Str} (h : Asc ys) : ys.Nodup := List.Pairwise.imp (fun {a b} (q : ltS a b) (e : a = b) => ltS_irrefl a (by rw [← e] at q; exact q)) h
theorem asc_unique : ∀ {xs ys : List Str}, Asc xs → Asc ys → xs.Perm ys → xs = ys
  | [], ys, _, _, p => (List.nil_perm.mp p).symm
  | x :: xs, [], _, _, p => absurd p.length_eq (by simp)
  | x :: xs, y :: ys, hx, hy, p => by
    have e : x = y := by
      have h1 : x ∈ y :: ys := p.mem_iff.mp List.mem_cons_self
      have h2 : y ∈ x :: xs := p.mem_iff.mpr List.mem_cons_self
      rcases List.mem_cons.mp h1 with z | z
      · exact z
      · rcases List.mem_cons.mp h2 with q | q
        · exact q.symm
        · exact absurd ((List.pairwise_cons.mp hx).1 y q) (ltS_asymm ((List.pairwise_cons.mp hy).1 x z))
    subst e
    rw [asc_unique (List.pairwise_cons.mp hx).2 (List.pairwise_cons.mp hy).2 ((List.perm_cons x).mp p)]
/-! ### min, max of texts -/
theorem cmp_ltS {prog : Program} {w : World} {A : Around} {P : Nat → Value → Prop} (val : Nat → Str) (hval : ∀ i v, P i v → ∃ t, v = .str (val i) t) : CmpOf prog w A .Lt P (fun i j => decide (ltS (val i) (val j))) := fun i j vi vj s Q E hi hj h => by
  obtain ⟨t, rfl⟩ := hval i vi hi
  obtain ⟨u, rfl⟩ := hval j vj hj
  exact richCompare_gives (op := .Lt) (typeIs_str s _ t) (typeIs_str s _ u) PySem.F.slot_str_lt PySem.F.entry_str_lt (PySem.F.args_str_lt_2 _ _) (gives_str_lt _ _ t u) (fun x => nomatch x) h
theorem cmp_gtS {prog : Program} {w : World} {A : Around} {P : Nat → Value → Prop} (val : Nat → Str) (hval : ∀ i v, P i v → ∃ t, v = .str (val i) t) : CmpOf prog w A .Gt P (fun i j => decide (ltS (val j) (val i))) := fun i j vi vj s Q E hi hj h => by
  obtain ⟨t, rfl⟩ := hval i vi hi
  obtain ⟨u, rfl⟩ := hval j vj hj
  exact richCompare_gives (op := .Gt) (typeIs_str s _ t) (typeIs_str s _ u) PySem.F.slot_str_gt PySem.F.entry_str_gt (PySem.F.args_str_gt_2 _ _) (gives_str_gt _ _ t u) (fun x => nomatch x) h
theorem best_ltS (val : Nat → Str) : ∀ k, argBest (fun i j => decide (ltS (val i) (val j))) k ≤ k ∧ ∀ j, j ≤ k → ¬ ltS (val j) (val (argBest (fun i j => decide (ltS (val i) (val j))) k))
  | 0 => ⟨Nat.le_refl _, fun j hj => by
      have e : j = 0 := by omega
      subst e
      exact ltS_irrefl _⟩
  | k + 1 => by
    obtain ⟨h1, h2⟩ := best_ltS val k
    show (if decide (ltS (val (k + 1)) (val (argBest _ k))) = true then k + 1 else argBest _ k) ≤ k + 1 ∧ ∀ j, j ≤ k + 1 → ¬ ltS (val j) (val (if decide (ltS (val (k + 1)) (val (argBest _ k))) = true then k + 1 else argBest _ k))
    by_cases hb : ltS (val (k + 1)) (val (argBest (fun i j => decide (ltS (val i) (val j))) k))
    · rw [if_pos (decide_eq_true hb)]
      refine ⟨Nat.le_refl _, fun j hj q => ?_⟩
      by_cases e : j = k + 1
      · subst e
        exact ltS_irrefl _ q
      · exact h2 j (by omega) (ltS_trans q hb)
    · rw [if_neg (by simpa using hb)]
      refine ⟨by omega, fun j hj q => ?_⟩
      by_cases e : j = k + 1
      · subst e
        exact hb q
      · exact h2 j (by omega) q
section
variable {X : Cx}
theorem key_str {ks : List Str} {vs : List (Key × Value)} (hk : vs.map (·.1) = ks.map Sum.inr) {P : Program} {w : World} (i : Nat) (v : Value) (h : ∃ k x, vs[i]? = some (k, x) ∧ (mixKind P w).is k v = true) : ∃ t, v = Value.str (ks.getD i Str.empty) t := by
  obtain ⟨k, x, h1, h2⟩ := h
  have e1 : (vs.map (·.1))[i]? = some k := by rw [List.getElem?_map, h1] <;> rfl
  rw [hk, List.getElem?_map] at e1
  obtain ⟨y, hy, e2⟩ := Option.map_eq_some_iff.mp e1
  subst e2
  have h2 : keyIs (Sum.inr y) v = true := h2
  rcases keyIs_shape h2 with ⟨_, _, e, _⟩ | ⟨z, t, e, ev⟩
  · cases e
  · cases e
    exact ⟨t, by rw [ev, List.getD_eq_getElem?_getD, hy]; rfl⟩
def rMinSD : List V → Hp → VK → Prop := fun vs H Q => ∃ (a : Addr) (kvs : List (Key × V)) (ks : List Str), vs = [V.ref a] ∧ Rd H a (.dK kvs) ∧ kvs.map (·.1) = ks.map Sum.inr ∧ ks ≠ [] ∧ ∀ m, m ∈ ks → (∀ j ∈ ks, ¬ ltS j m) → Q (.str m) H
theorem cr_minSD (hc : X.calm = true) : CallR X (.builtin "min") rMinSD := by
  intro pins s σ H vs us Q I r h
  obtain ⟨a, kvs, ks, rfl, ha, hv, hne, q⟩ := h
  rw [Vals.ref1 r]
  obtain ⟨_, hsys, vs, rel, dof⟩ := dk_rd I.hok ha
  obtain ⟨ep, dat⟩ := dof.dictAt
  obtain ⟨ob, es, ho, _⟩ := id dat
  have hlt : a < s.heap.objs.size := Heap.lt_size ho
  have hkeys : vs.map (·.1) = ks.map Sum.inr := (KV.keys rel).symm.trans hv
  have hlv : vs.length = ks.length := by simpa using congrArg List.length hkeys
  have hpos := List.length_pos_iff.mpr hne
  refine call_min_walk (wpAny_pyIter_dict (knd := mixKind X.prog X.w) hsys dat ?_)
  refine ⟨_, _, _, _, _, _, _, rfl, Walks.dictKeys (knd := mixKind X.prog X.w) (A := X.A.in1) (I.ok.hd hc) s.heap.objs.size a (Nat.ne_of_lt hlt) vs ep,
    ⟨⟨_, Heap.get?_push_size _ rfl, rfl, rfl⟩, dat.keep fun b u e => Heap.get?_push_of_some _ e⟩, fun b hb => ?_, by omega, cmp_ltS (fun i => ks.getD i Str.empty) (key_str hkeys), fun v h' tk hP hk => ?_⟩
  · show b < (s.heap.push _).objs.size
    rw [Heap.size_push]
    rcases List.mem_cons.mp hb with e | hb
    · rw [e]
      exact Nat.lt_succ_self _
    · rw [List.mem_singleton.mp hb]
      exact Nat.lt_succ_of_lt hlt
  · obtain ⟨t, rfl⟩ := key_str hkeys _ v hP
    obtain ⟨b1, b2⟩ := best_ltS (fun i => ks.getD i Str.empty) (vs.length - 1)
    have at_ : ∀ i, i < ks.length → ks.getD i Str.empty ∈ ks := fun i hi => by
      rw [List.getD_eq_getElem?_getD, List.getElem?_eq_getElem hi]
      exact List.getElem_mem hi
    refine ⟨.str _, H, I.kept (t' := tk) fun b u e => hk b u (fun hmem => ?_) (Heap.get?_push_of_some _ e), ⟨t, rfl⟩, q _ (at_ _ (by omega)) fun j hj => ?_⟩
    · have e1 : b = s.heap.objs.size := List.mem_singleton.mp hmem
      have e2 := Heap.lt_size e
      rw [e1] at e2
      exact absurd e2 (Nat.lt_irrefl _)
    · obtain ⟨i, hi, e⟩ := List.mem_iff_getElem.mp hj
      have e2 : ks.getD i Str.empty = j := by rw [List.getD_eq_getElem?_getD, List.getElem?_eq_getElem hi, ← e] <;> rfl
      rw [← e2]
      exact b2 i (by omega)
def rMinSL (K : PySem.W.Frag) : List V → Hp → VK → Prop := fun vs H Q => ∃ (a : Addr) (ks : List Str), vs = [V.ref a] ∧ SqL K H a (ks.map V.str) ∧ ks ≠ [] ∧ ∀ m, m ∈ ks → (∀ j ∈ ks, ¬ ltS j m) → Q (.str m) H
theorem cr_minSL (hc : X.calm = true) : CallR X (.builtin "min") (rMinSL X.K) := by
  intro pins s σ H vs us Q I r h
  obtain ⟨a, ks, rfl, hs, hne, q⟩ := h
  obtain ⟨its, rv, hl, _⟩ := I.list hs
  rw [Vals.ref1 r]
  have hl := hl.isList
  obtain ⟨o, ho, _⟩ := id hl
  have hlt : a < s.heap.objs.size := Heap.lt_size ho
  have hlv : its.length = ks.length := by
    have := rv.length
    rw [List.length_map] at this
    exact this.symm
  have hpos := List.length_pos_iff.mpr hne
  have hval : ∀ (i : Nat) (v : Value), its.toArray[i]? = some v → ∃ t, v = Value.str (ks.getD i Str.empty) t := fun i v e => by
    have e : its[i]? = some v := by simpa using e
    have hi := (List.getElem?_eq_some_iff.mp e).1
    obtain ⟨u, hu, ru⟩ := rv.get (i := i) (x := .str ks[i]) (by rw [List.getElem?_map, List.getElem?_eq_getElem (by omega)]; rfl)
    rw [e] at hu
    cases hu
    obtain ⟨t, rfl⟩ := ru
    exact ⟨t, by rw [List.getD_eq_getElem?_getD, List.getElem?_eq_getElem (by omega)]; rfl⟩
  refine call_min_walk (wpAny_pyIter_list hl ?_)
  refine ⟨_, _, _, _, _, _, _, rfl, Walks.list (A := X.A.in1) (I.ok.hd hc) s.heap.objs.size a (Nat.ne_of_lt hlt) its.toArray,
    ⟨⟨_, Heap.get?_push_size _ rfl, rfl, rfl⟩, hl.push _⟩, fun b hb => ?_, by rw [List.size_toArray]; omega, cmp_ltS (fun i => ks.getD i Str.empty) hval, fun v h' tk hP hk => ?_⟩
  · show b < (s.heap.push _).objs.size
    rw [Heap.size_push]
    rcases List.mem_cons.mp hb with e | hb
    · rw [e]
      exact Nat.lt_succ_self _
    · rw [List.mem_singleton.mp hb]
      exact Nat.lt_succ_of_lt hlt
  · obtain ⟨t, rfl⟩ := hval _ v hP
    rw [List.size_toArray]
    obtain ⟨b1, b2⟩ := best_ltS (fun i => ks.getD i Str.empty) (its.length - 1)
    have at_ : ∀ i, i < ks.length → ks.getD i Str.empty ∈ ks := fun i hi => by
      rw [List.getD_eq_getElem?_getD, List.getElem?_eq_getElem hi]
      exact List.getElem_mem hi
    refine ⟨.str _, H, I.kept (t' := tk) fun b u e => hk b u (fun hmem => ?_) (Heap.get?_push_of_some _ e), ⟨t, rfl⟩, q _ (at_ _ (by omega)) fun j hj => ?_⟩
    · have e1 : b = s.heap.objs.size := List.mem_singleton.mp hmem
      have e2 := Heap.lt_size e
      rw [e1] at e2
      exact absurd e2 (Nat.lt_irrefl _)
    · obtain ⟨i, hi, e⟩ := List.mem_iff_getElem.mp hj
      have e2 : ks.getD i Str.empty = j := by rw [List.getD_eq_getElem?_getD, List.getElem?_eq_getElem hi, ← e] <;> rfl
      rw [← e2]
      exact b2 i (by omega)
end
end WkD
namespace WkD
open PySem PySem.Spec PyProof.Rows L2
/-! ### len(x) by an own __len__ -/
section
variable {X : Cx} {CX : CXT} {k : Nat} {f C : Addr} {fd : FuncData} {ps : List Str} {sp : Sp} {E : XK}
def rLenO (C : Addr) (sp : Sp) (E : XK) : List V → Hp → VK → Prop := fun xs H Q => ∃ (a dx : Addr) (fs : List (Str × V)), xs = [.ref a] ∧ H a = some (.ins C dx fs) ∧ sp [.ref a] H (fun v H' => ∃ n : Nat, v = .int n ∧ (n : Int) < 2 ^ 63 ∧ Q (.int n) H') E
theorem call_lenO (hl : PySem.W.findIn X.K (.ref C) "__len__" = some (some (.ref f))) (hf : PySem.W.isFn X.K (.ref f) = true) (F : FnOk X.prog X.w X.K X.mg X.base CX k f fd ps sp) (hb : Binds X.K fd ps []) (hr : Room (k + 1) X.A) (hx : ∀ (H : Hp) (s : Shared) (e : Value) (s' : Shared), CX X.stack H s E e s' → False) :
    CallR X (.builtin "len") (rLenO C sp E) := by
  intro pins s σ H xs us Q I r h
  obtain ⟨a, dx, fs, rfl, ha, q⟩ := h
  rw [Vals.ref1 r]
  obtain ⟨mA, OM, _⟩ := ins_get I.hok ha
  obtain ⟨od, IA, _⟩ := OM.look
  have ty : PySem.W.Looks (model X.prog X.w) s.heap (typeOf (.ref a)) (.ref C) := IA.type
  have sp' : PySem.W.Looks (model X.prog X.w) s.heap (specialOf (.ref a) "__len__") (some (.ref f)) := ty.andThen (PySem.W.looks_findIn I.kIn hl)
  have bd : PySem.W.Looks (model X.prog X.w) s.heap (bindSpecial (.ref f) (.ref a)) (.ref f, [.ref a]) := PySem.W.bind_fn I.kIn _ (beq_iff_eq.mp hf)
  refine Calls.call_function_entry kind_len plain_len entry_len (args_len1 _) ?_
  unfold Builtin.«len»
  refine wpAny_bind (m := oneArg "len" _) (wpAny_pure ?_)
  refine wpAny_bind (m := callSpecial? (.ref a) (PySem.Str.ofString "__len__")) ?_
  unfold callSpecial?
  refine wpAny_bind (sp'.here ?_)
  refine wpAny_holding (wpAny_bind (bd.here (wpAny_bind ?_)))
  have hl1 : ([Value.ref a] : List Value).length = ps.length := by
    have := F.len _ _ _ _ q
    simpa using this
  refine wpAny_call (codeAny_mono (F.run X.A.in1 X.stack s H ⟨[.ref a], []⟩ [.ref a] [.ref a] _ E hr.in1 I.env0.in1 (by simpa using hb s [.ref a] I.kIn (by simpa using hl1)) (.cons rfl .nil) q) fun r s' hq => ?_)
  cases r with
  | error e => exact (hx _ _ _ _ hq).elim
  | ok fl =>
    cases fl with
    | next => exact False.elim hq
    | brk => exact False.elim hq
    | cont => exact False.elim hq
    | ret u =>
      obtain ⟨v, H', I2, rv, n, rfl, h63, q2⟩ := I.after hq
      obtain ⟨t, rfl⟩ := rv
      refine wpAny_pure ?_
      refine wpAny_bind (wpAny_holding (wpAny_pure ?_))
      refine wpAny_bind (wpAny_letGo ?_)
      show wpAny _ _ (if ((n : Nat) : Int) < 0 then _ else _) _ _ _
      rw [if_neg (by omega)]
      show wpAny _ _ (if ((n : Nat) : Int) ≥ 2 ^ 63 then _ else _) _ _ _
      rw [if_neg (by omega)]
      exact wpAny_bind (wpAny_mkInt (wpAny_pure ⟨_, rfl, .int n, H', I2.tok _, ⟨_, rfl⟩, q2⟩))
end
/-! ### min(x, y), max(x, y) of texts -/
section
variable {X : Cx}
theorem two_at {x y : Str} {t u : Tok} (i : Nat) (v : Value) (e : (#[Value.str x t, Value.str y u] : Array Value)[i]? = some v) : ∃ t', v = Value.str (if i = 0 then x else y) t' := by
  match i with
  | 0 =>
    cases e
    exact ⟨t, rfl⟩
  | 1 =>
    cases e
    exact ⟨u, rfl⟩
  | i + 2 =>
    simp at e
theorem call_min2S (hc : X.calm = true) : CallR X (.builtin "min") (fun xs H Q => ∃ x y, xs = [.str x, .str y] ∧ Q (.str (if ltS y x then y else x)) H) := by
  intro pins s σ H xs us Q I r h
  obtain ⟨x, y, rfl, q⟩ := h
  obtain ⟨u, w', rfl, ⟨t, rfl⟩, ⟨t', rfl⟩⟩ := vals2 r
  have hT : (s.heap.push { cls := .type "tuple", data := .seq #[.str x t, .str y t'] }).IsTuple s.heap.objs.size #[.str x t, .str y t'] := ⟨_, Heap.get?_push_size _ rfl, rfl, 0, rfl⟩
  refine call_min_two (wpAny_pyIter_tuple hT ?_)
  have hsz : (s.heap.push { cls := .type "tuple", data := .seq #[.str x t, .str y t'] }).objs.size = s.heap.objs.size + 1 := Heap.size_push ..
  refine ⟨_, [_, s.heap.objs.size], [_], _, _, _, _, rfl, Walks.tuple (A := X.A.in1) (I.ok.hd hc) _ s.heap.objs.size (by rw [hsz]; exact Nat.ne_of_lt (Nat.lt_succ_self _)) #[.str x t, .str y t'],
    ⟨⟨_, Heap.get?_push_size _ rfl, rfl, rfl⟩, hT.push _⟩, fun c hcm => ?_, (by show 0 < 2; decide), cmp_ltS (fun i => if i = 0 then x else y) two_at, fun v h' tk hP hk => ?_⟩
  · show c < ((s.heap.push _).push _).objs.size
    rw [Heap.size_push, hsz]
    rcases List.mem_cons.mp hcm with e | hcm
    · rw [e, hsz]
      exact Nat.lt_succ_self _
    · rw [List.mem_singleton.mp hcm]
      exact Nat.lt_succ_of_lt (Nat.lt_succ_self _)
  · have old : ∀ c o, s.heap.get? c = some o → h'.get? c = some o := fun c o e => hk c o (fun hm => by
      have e1 := Heap.lt_size e
      rw [List.mem_singleton.mp hm, hsz] at e1
      exact absurd (Nat.lt_of_succ_lt e1) (Nat.lt_irrefl _)) (Heap.get?_push_of_some _ (Heap.get?_push_of_some _ e))
    obtain ⟨t2, rfl⟩ := two_at _ v hP
    refine ⟨.str _, H, I.kept old, ⟨t2, rfl⟩, ?_⟩
    have e : (if argBest (fun i j => decide (ltS (if i = 0 then x else y) (if j = 0 then x else y))) ((#[Value.str x t, Value.str y t'] : Array Value).size - 1) = 0 then x else y) = if ltS y x then y else x := by
      show (if argBest (fun i j => decide (ltS (if i = 0 then x else y) (if j = 0 then x else y))) 1 = 0 then x else y) = _
      unfold argBest argBest
      by_cases hb : ltS y x
      · simp [hb]
      · simp [hb]
    rw [e]
    exact q
theorem call_max2S (hc : X.calm = true) : CallR X (.builtin "max") (fun xs H Q => ∃ x y, xs = [.str x, .str y] ∧ Q (.str (if ltS x y then y else x)) H) := by
  intro pins s σ H xs us Q I r h
  obtain ⟨x, y, rfl, q⟩ := h
  obtain ⟨u, w', rfl, ⟨t, rfl⟩, ⟨t', rfl⟩⟩ := vals2 r
  have hT : (s.heap.push { cls := .type "tuple", data := .seq #[.str x t, .str y t'] }).IsTuple s.heap.objs.size #[.str x t, .str y t'] := ⟨_, Heap.get?_push_size _ rfl, rfl, 0, rfl⟩
  refine call_max_two (wpAny_pyIter_tuple hT ?_)
  have hsz : (s.heap.push { cls := .type "tuple", data := .seq #[.str x t, .str y t'] }).objs.size = s.heap.objs.size + 1 := Heap.size_push ..
  refine ⟨_, [_, s.heap.objs.size], [_], _, _, _, _, rfl, Walks.tuple (A := X.A.in1) (I.ok.hd hc) _ s.heap.objs.size (by rw [hsz]; exact Nat.ne_of_lt (Nat.lt_succ_self _)) #[.str x t, .str y t'],
    ⟨⟨_, Heap.get?_push_size _ rfl, rfl, rfl⟩, hT.push _⟩, fun c hcm => ?_, (by show 0 < 2; decide), cmp_gtS (fun i => if i = 0 then x else y) two_at, fun v h' tk hP hk => ?_⟩
  · show c < ((s.heap.push _).push _).objs.size
    rw [Heap.size_push, hsz]
    rcases List.mem_cons.mp hcm with e | hcm
    · rw [e, hsz]
      exact Nat.lt_succ_self _
    · rw [List.mem_singleton.mp hcm]
      exact Nat.lt_succ_of_lt (Nat.lt_succ_self _)
  · have old : ∀ c o, s.heap.get? c = some o → h'.get? c = some o := fun c o e => hk c o (fun hm => by
      have e1 := Heap.lt_size e
      rw [List.mem_singleton.mp hm, hsz] at e1
      exact absurd (Nat.lt_of_succ_lt e1) (Nat.lt_irrefl _)) (Heap.get?_push_of_some _ (Heap.get?_push_of_some _ e))
    obtain ⟨t2, rfl⟩ := two_at _ v hP
    refine ⟨.str _, H, I.kept old, ⟨t2, rfl⟩, ?_⟩
    have e : (if argBest (fun i j => decide (ltS (if j = 0 then x else y) (if i = 0 then x else y))) ((#[Value.str x t, Value.str y t'] : Array Value).size - 1) = 0 then x else y) = if ltS x y then y else x := by
      show (if argBest (fun i j => decide (ltS (if j = 0 then x else y) (if i = 0 then x else y))) 1 = 0 then x else y) = _
      unfold argBest argBest
      by_cases hb : ltS x y
      · simp [hb]
      · simp [hb]
    rw [e]
    exact q
end
/-! ### {**d} -/
section
variable {prog : Program} {w : World} {A : Around} {E : Value → Shared → Prop} {s : Shared}
theorem dictPut_new {K : Type} [DecidableEq K] {knd : KeyKind prog w K} {d : Addr} {kvs : List (K × Value)} {k : K} {key v : Value} {Q : Unit → Shared → Prop} (hkey : knd.is k key = true) (hm : s.heap.DictOf knd d kvs) (hnew : k ∉ kvs.map (·.1))
    (hQ : ∀ h', h'.DictOf knd d (kvs ++ [(k, v)]) → Heap.SameBut d s.heap h' → Q () { s with heap := h' }) (hsz : kvs.length ≤ sizeLine) :
    wpAny (model prog w) A (dictPut d (knd.hash k) key v) Q E s := by
  obtain ⟨o, es, ep, ho, hc, hd, hk, hp, hn⟩ := hm
  have hes : es.size ≤ sizeLine := by
    have e1 := hp.length
    have e2 : es.toList.length = es.size := by simp
    omega
  unfold dictPut
  refine wpAny_bind (wpAny_dictFind_of hkey ho hd hk ?_)
  have hidx : (es.findIdx? fun e => knd.is k e.key) = kvs.findIdx? fun kv => decide (kv.1 = k) := by
    rw [← hp.findIdx k]
    obtain ⟨l⟩ := es
    simp
  cases hi : es.findIdx? fun e => knd.is k e.key with
  | some i =>
    rw [hidx] at hi
    have z := any_of_findIdx_some hi
    rw [List.any_eq_true] at z
    obtain ⟨kv, h1, h2⟩ := z
    exact absurd (List.mem_map.mpr ⟨kv, h1, of_decide_eq_true h2⟩) hnew
  | none =>
    refine wpAny_updateDictKeys (hz := hes) ho hd (hQ _ ⟨_, _, ep + 1, Heap.get?_update_self _ ho (Obj.isFreed_of_dict (Obj.data_mapDictKeys hd _)), hc.mapDictKeys _, Obj.data_mapDictKeys hd _, hk.push hkey _, ?_, ?_⟩ (Heap.SameBut.update ..))
    · have z := hp.append hkey (knd.hash k) v
      obtain ⟨l⟩ := es
      simpa using z
    · rw [List.map_append, List.nodup_append]
      refine ⟨hn, by simp, fun a ha b hb e => ?_⟩
      have hb : b = k := by simpa using hb
      rw [e, hb] at ha
      exact hnew ha
end
end WkD
namespace WkD
open PySem PySem.Spec PyProof.Rows L2
section
variable {prog : Program} {w : World} {A : Around} {E : Value → Shared → Prop} {s : Shared}
theorem key_noref {k : Key} {v : Value} (h : (mixKind prog w).is k v = true) : ∀ a, v ≠ .ref a := by
  have h : keyIs k v = true := h
  rcases keyIs_shape h with ⟨_, _, _, e⟩ | ⟨_, _, _, e⟩
  · intro a z
    rw [e] at z
    cases z
  · intro a z
    rw [e] at z
    cases z
theorem merge_new {d a : Addr} {more : List (Key × Value)} {Q : Unit → Shared → Prop} (hda : d ≠ a) (haS : (a == sysModules) = false) (hd : s.heap.DictOf (mixKind prog w) d []) (ha : s.heap.DictOf (mixKind prog w) a more)
    (hQ : ∀ h', h'.DictOf (mixKind prog w) d more → Heap.SameBut d s.heap h' → Q () { s with heap := h' }) (hsz : more.length ≤ sizeLine) : wpAny (model prog w) A (mergeMapping d (.ref a) false) Q E s := by
  obtain ⟨od, esd, epd, hod, hcd, hdd, hkd, hpd, hnd⟩ := id hd
  obtain ⟨oo, eso, epo, hoo, hco, hdo, hko, hpo, hno⟩ := id ha
  have hT := ha.typeIs
  have hlen : more.length = eso.size := by
    rw [← hpo.length]
    simp
  have h0 : esd = #[] := by
    have z := hpd.length
    obtain ⟨l⟩ := esd
    have z : l.length = 0 := by simpa using z
    rw [List.length_eq_zero_iff.mp z]
  unfold mergeMapping
  refine wpAny_bind (wpAny_isInstance (T := "dict") (U := "dict") (b := true) hT (by rw [isSubtype_type]; kernel_rfl) ?_)
  try dsimp only
  rw [if_pos rfl]
  refine wpAny_bind (wpAny_specialOf hT PySem.F.slot_dict_iter.lookup ?_)
  rw [show (some (Value.builtin "dict.__iter__") == some (Value.builtin "dict.__iter__")) = true by decide]
  refine wpAny_bind (wpAny_pure ?_)
  try dsimp only
  rw [if_neg (by rw [haS]; decide)]
  refine wpAny_bind (wpAny_dictEntries hod hdd ?_)
  rw [if_pos (by rw [h0]; rfl)]
  refine wpAny_bind (wpAny_dictEntries hoo hdo ?_)
  refine wpAny_bind ?_
  have first : ∀ {f : DictEntry → PUnit → Sem (ForInStep PUnit)} {Q : PUnit → Shared → Prop}, (∀ e : DictEntry, (∀ a, e.key ≠ .ref a) → f e PUnit.unit = pure (ForInStep.yield PUnit.unit)) → Q PUnit.unit s → wpAny (model prog w) A (forIn eso PUnit.unit f) Q E s := by
    intro f Q hf hq
    rw [← Array.forIn_toList]
    refine wpAny_forIn_list f (fun rest _ s' => s' = s ∧ ∀ e ∈ rest, ∀ a, e.key ≠ .ref a) Q (fun e rest b s' z => ?_) (fun b s' z => by rw [z.1]; exact hq) _ _ ⟨rfl, fun e he a => ?_⟩
    · obtain ⟨rfl, z⟩ := z
      rw [hf e (z e List.mem_cons_self)]
      exact wpAny_pure ⟨rfl, fun e he => z e (List.mem_cons_of_mem _ he)⟩
    · obtain ⟨k, hk, _⟩ := hko e (by simpa using he)
      exact key_noref hk a
  refine first (fun e he => ?_) ?_
  · cases q : e.key with
    | ref a => exact absurd q (he a)
    | _ => rfl
  refine wpAny_bind (wpAny_dictEntries hoo hdo ?_)
  refine wpAny_bind (wpAny_dictEpoch hoo hdo ?_)
  refine wpAny_bind ?_
  refine wpAny_forIn_list _ (fun rest _ s' => ∃ h' i, s' = { s with heap := h' } ∧ rest = List.range' i (eso.size - i) ∧ i ≤ eso.size ∧ h'.DictOf (mixKind prog w) d (more.take i) ∧ h'.get? a = some oo ∧ Heap.SameBut d s.heap h') _ ?_ ?_ _ _
    ⟨s.heap, 0, rfl, by rw [List.range_eq_range']; rfl, Nat.zero_le _, by simpa using hd, hoo, Heap.SameBut.refl _ _⟩
  · rintro x rest b s' ⟨h', i, rfl, hr, hi, hd', hoo', hs'⟩
    have hlt : i < eso.size := by
      rcases Nat.lt_or_ge i eso.size with h | h
      · exact h
      · rw [Nat.sub_eq_zero_of_le h] at hr
        simp at hr
    obtain ⟨ex, hrest⟩ : x = i ∧ rest = List.range' (i + 1) (eso.size - (i + 1)) := by
      have e : eso.size - i = (eso.size - (i + 1)) + 1 := by omega
      rw [e, List.range'_succ] at hr
      injection hr with h1 h2
      exact ⟨h1, h2⟩
    subst ex
    refine wpAny_bind (wpAny_dictEntries hoo' hdo ?_)
    rw [Array.getElem?_eq_getElem hlt]
    obtain ⟨kv, hkv⟩ : ∃ kv, more[x]? = some kv := ⟨more[x]'(by omega), List.getElem?_eq_getElem _⟩
    obtain ⟨k, v⟩ := kv
    obtain ⟨hkey, hval⟩ := hpo.get? (e := eso[x]) (by simp [hlt]) hkv
    obtain ⟨k', hkey', hhash⟩ := hko eso[x] (Array.getElem_mem hlt)
    obtain rfl : k' = k := (mixKind prog w).inj _ _ _ hkey' hkey
    dsimp only
    rw [hhash, hval]
    have hxl : x < more.length := by omega
    have tk : more.take (x + 1) = more.take x ++ [(k', v)] := by
      rw [List.take_add_one, hkv]
      rfl
    refine wpAny_bind (wpAny_holding ?_)
    rw [if_neg (by decide)]
    refine dictPut_new hkey hd' (fun hm => ?_) (fun h2 hd2 hs2 => ?_) (by rw [List.length_take]; omega)
    · have nd : ((more.take (x + 1)).map (·.1)).Nodup := (List.Sublist.map _ (List.take_sublist _ _)).nodup hno
      rw [tk, List.map_append, List.nodup_append] at nd
      exact nd.2.2 _ hm _ (List.mem_singleton.mpr rfl) rfl
    · have hoo2 : h2.get? a = some oo := (hs2.2 a (Ne.symm hda)).trans hoo'
      refine wpAny_bind (wpAny_dictEpoch hoo2 hdo ?_)
      rw [if_neg (by simp)]
      exact wpAny_pure ⟨h2, x + 1, rfl, hrest, hlt, by rw [tk]; exact hd2, hoo2, hs'.trans hs2⟩
  · rintro b s' ⟨h', i, rfl, hr, hi, hd', hoo', hs'⟩
    have hin : i = eso.size := by
      rcases Nat.lt_or_ge i eso.size with h | h
      · have e : eso.size - i = (eso.size - (i + 1)) + 1 := by omega
        rw [e, List.range'_succ] at hr
        exact nomatch hr
      · exact Nat.le_antisymm hi h
    refine wpAny_pure (hQ h' ?_ hs')
    rw [hin, ← hlen, List.take_length] at hd'
    exact hd'
end
section
variable {X : Cx} {pos : Pos} {e : Expr} {te : TE}
/-- {**d}: a copy -/
def tDStar (te : TE) : TE := fun σ H Q => ∀ p, H p = none → te σ (upd H p (.dK [])) fun x H2 => ∃ a kvs, x = .ref a ∧ H2 p = some (.dK []) ∧ a ≠ p ∧ Rd H2 a (.dK kvs) ∧ Q (.ref p) (upd H2 p (.dK kvs))
theorem pe_dstar (he : PE X e te) : PE X (.Dict [none] [e] pos) (tDStar te) := by
  refine ⟨fun pins s σ H Q I q => ?_⟩
  have hn := I.hok.fresh (Nat.le_refl s.heap.objs.size)
  have I1 := I.laid (a := s.heap.objs.size) (o := .dK []) (h' := s.heap.push { cls := .type "dict", data := .dict #[] }) (t' := s.toks) (fun _ _ q => Heap.get?_push_of_some _ q) (Nat.le_refl _) (dk_empty s.heap I.big)
  show wpAny _ _ (do standAt pos; dictDisplay [(none, do let x ← eval e X.env; standAt pos; pure x)]) _ _ _
  refine wpAny_bind (wpAny_standAt ?_)
  unfold dictDisplay
  simp only [List.forIn_cons, List.forIn_nil, pure_bind, bind_assoc]
  rw [if_pos (show ([] : List (Sem Value × Sem Value)).isEmpty = true from rfl)]
  refine wpAny_bind (wpAny_pure ?_)
  refine wpAny_bind ?_
  dsimp only
  refine wpAny_bind (wpAny_alloc ?_)
  refine wpAny_bind (wpAny_holding (wpAny_bind (thn (he.run pins _ σ _ _ I1 (q _ hn)) fun v s2 ⟨x, H2, I2, rx, a, kvs, ex, hp, hap, hR, q2⟩ => wpAny_bind (wpAny_standAt (wpAny_pure ?_)))))
  subst ex
  obtain rfl : v = Value.ref a := rx
  obtain ⟨z, ya, va, ra, da⟩ := dk_rd I2.hok hR
  obtain ⟨_, hd, vs0, r0, dd⟩ := dk_of I2.hok hp
  cases r0
  refine wpAny_bind (wpAny_onRaise (wpAny_tryCatch (wpAny_onRaise (wpAny_holding (merge_new (Ne.symm hap) ya dd da (fun h' dd' hs => ?_) (by rw [← ra.length]; exact z))))))
  refine wpAny_pure ?_
  dsimp only
  refine wpAny_bind (wpAny_pure ?_)
  dsimp only
  rw [if_pos (show ([] : List (Sem Value × Sem Value)).isEmpty = true from rfl)]
  refine wpAny_bind (wpAny_pure (wpAny_pure ⟨.ref s.heap.objs.size, _, ?_, rfl, q2⟩))
  have hex : ∃ q, h'.get? s.heap.objs.size = some q := let ⟨q, _, _, hq, _⟩ := dd'; ⟨q, hq⟩
  exact d_write I2 (by rw [hp]; exact True.intro) hs hex (dk_new z hd ra dd')
end
end WkD
namespace WkN
open PySem PySem.Spec PyProof.Rows L2 WkD
theorem takeS {α : Type} {l : List α} {i : Nat} {x : α} (h : l[i]? = some x) : l.take (i + 1) = l.take i ++ [x] := by
  rw [List.take_add_one, h]
  rfl
theorem bF {b : Bool} (h : ¬ b = true) : b = false := by
  cases b
  · rfl
  · exact absurd rfl h
/-! ### dicts by their keys and a function -/
def dct (ks : List Str) (g : Str → V) : List (Key × V) := ks.map fun v => (Sum.inr v, g v)
theorem dct_len {ks : List Str} {g : Str → V} : (dct ks g).length = ks.length := List.length_map ..
theorem dct_keys {ks : List Str} {g : Str → V} : (dct ks g).map (·.1) = ks.map Sum.inr := by
  unfold dct
  rw [List.map_map]
  rfl
theorem dct_congr {ks : List Str} {g g' : Str → V} (h : ∀ v ∈ ks, g v = g' v) : dct ks g = dct ks g' := List.map_congr_left fun v hv => by rw [h v hv]
theorem dct_val {g : Str → V} {v : Str} : ∀ {ks : List Str}, valV (dct ks g) (Sum.inr v) = if v ∈ ks then some (g v) else none
  | [] => by
    rw [if_neg (by simp)]
    rfl
  | k :: ks => by
    show valV ((Sum.inr k, g k) :: dct ks g) (Sum.inr v) = _
    by_cases h : k = v
    · subst h
      rw [valV_pos rfl, if_pos (by simp)]
    · rw [valV_neg (fun z => h (Sum.inr.inj z)), dct_val]
      by_cases hm : v ∈ ks
      · rw [if_pos hm, if_pos (List.mem_cons_of_mem _ hm)]
      · rw [if_neg hm, if_neg (fun z => (List.mem_cons.mp z).elim (fun e => h e.symm) hm)]
theorem dct_in {ks : List Str} {g : Str → V} {v : Str} (h : v ∈ ks) : valV (dct ks g) (Sum.inr v) = some (g v) := by rw [dct_val, if_pos h]
theorem dct_out {ks : List Str} {g : Str → V} {v : Str} (h : v ∉ ks) : valV (dct ks g) (Sum.inr v) = none := by rw [dct_val, if_neg h]
theorem dct_any {ks : List Str} {g : Str → V} {v : Str} : ((dct ks g).any fun kv => decide (kv.1 = Sum.inr v)) = decide (v ∈ ks) := by
  rw [valV_any, dct_val]
  by_cases h : v ∈ ks
  · rw [if_pos h, decide_eq_true h]
    rfl
  · rw [if_neg h, decide_eq_false h]
    rfl
theorem dct_put_in {ks : List Str} {g : Str → V} {v : Str} {x : V} (h : v ∈ ks) : putK (dct ks g) (Sum.inr v) x = dct ks (fun y => if y = v then x else g y) := by
  unfold putK
  rw [dct_any, decide_eq_true h, if_pos rfl]
  unfold dct
  rw [List.map_map]
  refine List.map_congr_left fun y _ => ?_
  show (if (Sum.inr y : Key) = Sum.inr v then ((Sum.inr y : Key), x) else (Sum.inr y, g y)) = (Sum.inr y, if y = v then x else g y)
  by_cases e : y = v
  · rw [if_pos (by rw [e]), if_pos e]
  · rw [if_neg (fun z => e (Sum.inr.inj z)), if_neg e]
theorem dct_put_new {ks : List Str} {g : Str → V} {v : Str} {x : V} (h : v ∉ ks) : putK (dct ks g) (Sum.inr v) x = dct (ks ++ [v]) (fun y => if y = v then x else g y) := by
  rw [putK_new x (dct_out h)]
  unfold dct
  rw [List.map_append]
  congr 1
  · refine List.map_congr_left fun y hy => ?_
    have e : y ≠ v := fun e => h (by rw [← e]; exact hy)
    show (Sum.inr y, g y) = (Sum.inr y, if y = v then x else g y)
    rw [if_neg e]
  · show [(Sum.inr v, x)] = [(Sum.inr v, if v = v then x else g v)]
    rw [if_pos rfl]
theorem dct_drop {ks : List Str} {g : Str → V} {v : Str} : dropK (dct ks g) (Sum.inr v) = dct (ks.filter (fun y => decide (y ≠ v))) g := by
  unfold dropK dct
  rw [List.filter_map]
  congr 1
  refine List.filter_congr fun y _ => ?_
  show decide ((Sum.inr y : Key) ≠ Sum.inr v) = decide (y ≠ v)
  by_cases e : y = v
  · subst e
    simp
  · have z : (Sum.inr y : Key) ≠ Sum.inr v := fun z => e (Sum.inr.inj z)
    rw [decide_eq_true (show y ≠ v from e), decide_eq_true z]
theorem dct_at {ks : List Str} {g : Str → V} {i : Nat} : (dct ks g)[i]? = ks[i]?.map fun v => (Sum.inr v, g v) := by
  unfold dct
  rw [List.getElem?_map]
theorem dct_nil {g : Str → V} : dct [] g = [] := rfl
theorem get_d {H : Hp} {a : Addr} {ks : List Str} {g : Str → V} {v : Str} (h : Rd H a (.dK (dct ks g))) (hv : v ∈ ks) : DGet H a (.str v) (some (g v)) := .inl ⟨_, Sum.inr v, h, rfl, (dct_in hv).symm⟩
theorem get_n {H : Hp} {a : Addr} {ks : List Str} {g : Str → V} {v : Str} (h : Rd H a (.dK (dct ks g))) (hv : v ∉ ks) : DGet H a (.str v) none := .inl ⟨_, Sum.inr v, h, rfl, (dct_out hv).symm⟩
theorem get_x {H : Hp} {a : Addr} {ks : List Str} {g : Str → V} {v : Str} (h : Rd H a (.dK (dct ks g))) : DGet H a (.str v) (if v ∈ ks then some (g v) else none) := .inl ⟨_, Sum.inr v, h, rfl, dct_val.symm⟩
theorem put_d {H : Hp} {a : Addr} {ks : List Str} {g : Str → V} {v : Str} {x : V} (h : H a = some (.dK (dct ks g))) (hv : v ∈ ks) (hl : ks.length < sizeLine) : DPut H a (.str v) x (upd H a (.dK (dct ks fun y => if y = v then x else g y))) := by
  have z := DPut.k (k := Sum.inr v) (v := x) h (by rw [dct_len]; exact hl)
  rw [dct_put_in hv] at z
  exact z
theorem put_n {H : Hp} {a : Addr} {ks : List Str} {g : Str → V} {v : Str} {x : V} (h : H a = some (.dK (dct ks g))) (hv : v ∉ ks) (hl : ks.length < sizeLine) : DPut H a (.str v) x (upd H a (.dK (dct (ks ++ [v]) fun y => if y = v then x else g y))) := by
  have z := DPut.k (k := Sum.inr v) (v := x) h (by rw [dct_len]; exact hl)
  rw [dct_put_new hv] at z
  exact z
/-! ### rows of neighbours -/
abbrev Nb := Str → List Str
abbrev Wt := Str → Str → Int
/-- rows that may be read -/
structure RowsR (H : Hp) (a : Addr) (Vs : List Str) (ad : Str → Addr) (nb : Nb) (wt : Wt) : Prop where
  top : Rd H a (.dK (dct Vs fun u => .ref (ad u)))
  row : ∀ u ∈ Vs, Rd H (ad u) (.dK (dct (nb u) fun v => .int (wt u v)))
/-- rows of our own -/
structure RowsM (H : Hp) (a : Addr) (Vs : List Str) (ad : Str → Addr) (nb : Nb) (wt : Wt) : Prop where
  top : H a = some (.dK (dct Vs fun u => .ref (ad u)))
  row : ∀ u ∈ Vs, H (ad u) = some (.dK (dct (nb u) fun v => .int (wt u v)))
  inj : ∀ u ∈ Vs, ∀ v ∈ Vs, ad u = ad v → u = v
  nd : Vs.Nodup
/-- rows that are known -/
structure RowsZ (H : Hp) (a : Addr) (Vs : List Str) (ad : Str → Addr) (nb : Nb) (wt : Wt) : Prop where
  top : ∃ o, H a = some (.frz o (.dK (dct Vs fun u => .ref (ad u))))
  row : ∀ u ∈ Vs, ∃ o, H (ad u) = some (.frz o (.dK (dct (nb u) fun v => .int (wt u v))))
theorem RowsM.r {H : Hp} {a : Addr} {Vs : List Str} {ad : Str → Addr} {nb : Nb} {wt : Wt} (R : RowsM H a Vs ad nb wt) : RowsR H a Vs ad nb wt := ⟨.inl R.top, fun u hu => .inl (R.row u hu)⟩
theorem RowsZ.r {H : Hp} {a : Addr} {Vs : List Str} {ad : Str → Addr} {nb : Nb} {wt : Wt} (R : RowsZ H a Vs ad nb wt) : RowsR H a Vs ad nb wt := ⟨.inr R.top, fun u hu => .inr (R.row u hu)⟩
/-- all but the tables stay -/
abbrev Ext (H H' : Hp) : Prop := ∀ b o, H b = some o → (∀ ps, o ≠ .tbl ps) → H' b = some o
theorem Ext.refl (H : Hp) : Ext H H := fun _ _ h _ => h
theorem Ext.trans {H H1 H2 : Hp} (a : Ext H H1) (b : Ext H1 H2) : Ext H H2 := fun c o h n => b c o (a c o h n) n
theorem Ext.of {H H' : Hp} (e : Same H H') : Ext H H' := fun b o h _ => e b o h
theorem Ext.rd {H H' : Hp} {a : Addr} {u : HO} (e : Ext H H') (h : Rd H a u) (n : ∀ ps, u ≠ .tbl ps) : Rd H' a u := by
  rcases h with h | ⟨o, h⟩
  · exact .inl (e _ _ h n)
  · exact .inr ⟨o, e _ _ h fun ps z => by cases z⟩
theorem Ext.up {H H' : Hp} {p : Addr} {o : HO} (e : Ext H H') (h : H p = none) : Ext H (upd H' p o) := fun b u hb n => by
  rw [upd_ne (ne_of_none hb h)]
  exact e b u hb n
theorem RowsR.ext {H H' : Hp} {a : Addr} {Vs : List Str} {ad : Str → Addr} {nb : Nb} {wt : Wt} (R : RowsR H a Vs ad nb wt) (e : Ext H H') : RowsR H' a Vs ad nb wt := ⟨e.rd R.top (fun ps z => by cases z), fun u hu => e.rd (R.row u hu) (fun ps z => by cases z)⟩
theorem RowsM.ext {H H' : Hp} {a : Addr} {Vs : List Str} {ad : Str → Addr} {nb : Nb} {wt : Wt} (R : RowsM H a Vs ad nb wt) (e : Ext H H') : RowsM H' a Vs ad nb wt := ⟨e _ _ R.top (fun ps z => by cases z), fun u hu => e _ _ (R.row u hu) (fun ps z => by cases z), R.inj, R.nd⟩
theorem RowsZ.ext {H H' : Hp} {a : Addr} {Vs : List Str} {ad : Str → Addr} {nb : Nb} {wt : Wt} (R : RowsZ H a Vs ad nb wt) (e : Ext H H') : RowsZ H' a Vs ad nb wt := by
  refine ⟨?_, fun u hu => ?_⟩
  · obtain ⟨o, h⟩ := R.top
    exact ⟨o, e _ _ h fun ps z => by cases z⟩
  · obtain ⟨o, h⟩ := R.row u hu
    exact ⟨o, e _ _ h fun ps z => by cases z⟩
theorem RowsM.ne {H : Hp} {a : Addr} {Vs : List Str} {ad : Str → Addr} {nb : Nb} {wt : Wt} (R : RowsM H a Vs ad nb wt) {u : Str} (hu : u ∈ Vs) : ad u ≠ a := by
  refine ne_of (R.row u hu) R.top fun z => ?_
  have z : dct (nb u) (fun v => V.int (wt u v)) = dct Vs fun u => .ref (ad u) := by
    injection z
  have h1 := @dct_in Vs (fun u => V.ref (ad u)) u hu
  rw [← z, dct_val] at h1
  split at h1
  · cases h1
  · cases h1
/-- the row of u is written -/
theorem RowsM.put {H : Hp} {a : Addr} {Vs : List Str} {ad : Str → Addr} {nb : Nb} {wt : Wt} (R : RowsM H a Vs ad nb wt) {u : Str} (hu : u ∈ Vs) (ks : List Str) (f : Str → Int) :
    RowsM (upd H (ad u) (.dK (dct ks fun v => .int (f v)))) a Vs ad (fun x => if x = u then ks else nb x) (fun x y => if x = u then f y else wt x y) := by
  refine ⟨by rw [upd_ne (Ne.symm (R.ne hu))]; exact R.top, fun x hx => ?_, R.inj, R.nd⟩
  by_cases e : x = u
  · subst e
    rw [upd_same, if_pos rfl]
    rw [dct_congr (g := fun v => V.int (f v)) (g' := fun v => V.int (if x = x then f v else wt x v)) fun v _ => by rw [if_pos rfl]]
  · rw [upd_ne (fun z => e (R.inj x hx u hu z)), R.row x hx, if_neg e]
    rw [dct_congr (g := fun v => V.int (wt x v)) (g' := fun v => V.int (if x = u then f v else wt x v)) fun v _ => by rw [if_neg e]]
/-- .. told otherwise -/
theorem RowsM.as {H : Hp} {a : Addr} {Vs : List Str} {ad : Str → Addr} {nb nb' : Nb} {wt wt' : Wt} (R : RowsM H a Vs ad nb wt) (h1 : ∀ u ∈ Vs, nb u = nb' u) (h2 : ∀ u ∈ Vs, ∀ v ∈ nb u, wt u v = wt' u v) : RowsM H a Vs ad nb' wt' := by
  refine ⟨R.top, fun u hu => ?_, R.inj, R.nd⟩
  rw [R.row u hu, ← h1 u hu]
  rw [dct_congr (g := fun v => V.int (wt u v)) (g' := fun v => V.int (wt' u v)) fun v hv => by rw [h2 u hu v hv]]
theorem opIn {X : Cx} (K : PySem.W.Frag) (h : X.K = K) : OpR X (compareOp .In) (rIn K false) := by
  subst h
  exact op_in_seq
theorem opNotIn {X : Cx} (K : PySem.W.Frag) (h : X.K = K) : OpR X (compareOp .NotIn) (rIn K true) := by
  subst h
  exact op_notIn_seq
theorem inV_str {x : Str} {xs : List Str} : inV (.str x) (xs.map V.str) = decide (x ∈ xs) := by
  rw [Bool.eq_iff_iff, decide_eq_true_iff]
  unfold inV
  rw [List.any_eq_true]
  constructor
  · rintro ⟨y, hy, e⟩
    obtain ⟨z, hz, rfl⟩ := List.mem_map.mp hy
    have e : (x == z) = true ∨ (z == x) = true := by
      first | exact Or.inl e | exact Or.inr e
    rcases e with e | e
    · rw [eq_of_beq e]
      exact hz
    · rw [← eq_of_beq e]
      exact hz
  · intro h
    exact ⟨.str x, List.mem_map.mpr ⟨x, h, rfl⟩, by show (x == x) = true; exact beq_self_eq_true x⟩
theorem flat_str {xs : List Str} : (xs.map V.str).all flatV = true := by
  rw [List.all_eq_true]
  intro y hy
  obtain ⟨z, _, rfl⟩ := List.mem_map.mp hy
  rfl
theorem pgT {X : Cx} {es : List Expr} {k : Nat} {t : TGs} {pos : Pos} (K : PySem.W.Frag) (n : Nat) (hK : X.K = K) (hc : X.calm = true) (h : PGs X es t) (hn : (assignEach es X.env).length = n) (hst : (assignEach es X.env).findIdx? (·.1) = none := by rfl) : PG X (.Tuple es k pos) (gTup K n t) := by
  subst hK
  subst hn
  exact pg_tup hc h rfl hst
end WkN
namespace WkP
open PySem WkN
/-! ### orders by connection -/
def conn (nb : Nb) (wt : Wt) (S : List Str) (u : Str) : Int := (S.map fun s => if u ∈ nb s then wt s u else 0).sum
theorem conn_nil (nb : Nb) (wt : Wt) (u : Str) : conn nb wt [] u = 0 := rfl
theorem conn_snoc (nb : Nb) (wt : Wt) (S : List Str) (s u : Str) : conn nb wt (S ++ [s]) u = conn nb wt S u + (if u ∈ nb s then wt s u else 0) := by
  unfold conn
  rw [List.map_append, List.sum_append]
  simp
structure Pre (nb : Nb) (wt : Wt) (Vs done : List Str) : Prop where
  nd : done.Nodup
  sub : ∀ x ∈ done, x ∈ Vs
  best : ∀ (i : Nat) (x : Str), done[i]? = some x → ∀ u ∈ Vs, u ∉ done.take i → conn nb wt (done.take i) u ≤ conn nb wt (done.take i) x
theorem Pre.nil (nb : Nb) (wt : Wt) (Vs : List Str) : Pre nb wt Vs [] := ⟨List.nodup_nil, fun x h => absurd h (by simp), fun i x h => absurd h (by simp)⟩
theorem Pre.snoc {nb : Nb} {wt : Wt} {Vs done : List Str} {x : Str} (p : Pre nb wt Vs done) (hx : x ∈ Vs) (hn : x ∉ done) (hb : ∀ u ∈ Vs, u ∉ done → conn nb wt done u ≤ conn nb wt done x) : Pre nb wt Vs (done ++ [x]) := by
  refine ⟨?_, fun y hy => ?_, fun i y hy u hu hm => ?_⟩
  · rw [List.nodup_append]
    refine ⟨p.nd, by simp, fun a ha b hb e => ?_⟩
    have hb : b = x := by simpa using hb
    rw [e, hb] at ha
    exact hn ha
  · rcases List.mem_append.mp hy with h | h
    · exact p.sub y h
    · rw [List.mem_singleton.mp h]
      exact hx
  · rcases Nat.lt_trichotomy i done.length with h | h | h
    · have e : (done ++ [x]).take i = done.take i := List.take_append_of_le_length (by omega)
      rw [List.getElem?_append_left h] at hy
      rw [e] at hm ⊢
      exact p.best i y hy u hu hm
    · subst h
      have e : (done ++ [x]).take done.length = done := by simp
      have ey : x = y := by simpa using hy
      rw [e] at hm ⊢
      rw [← ey]
      exact hb u hu hm
    · rw [List.getElem?_eq_none (by simp; omega)] at hy
      cases hy
/-- the last two vertices of such an order, and what the last one is joined by -/
def LastTwo (nb : Nb) (wt : Wt) (Vs : List Str) (x l : Str) (n : Int) : Prop := ∃ pre, Pre nb wt Vs (pre ++ [x, l]) ∧ (∀ u ∈ Vs, u ∈ pre ++ [x, l]) ∧ n = conn nb wt (pre ++ [x]) l
theorem LastTwo.mem {nb : Nb} {wt : Wt} {Vs : List Str} {x l : Str} {n : Int} (h : LastTwo nb wt Vs x l n) : x ∈ Vs ∧ l ∈ Vs ∧ x ≠ l := by
  obtain ⟨pre, p, _, _⟩ := h
  refine ⟨p.sub x (by simp), p.sub l (by simp), fun e => ?_⟩
  have nd := p.nd
  rw [e, List.nodup_append] at nd
  simp at nd
/-- how the last two stand while the order is made -/
def Tail (nb : Nb) (wt : Wt) (done : List Str) (ah la : L2.V) (wg : L2.V) : Prop :=
  (done = [] ∧ la = .non) ∨ (∃ x, done = [x] ∧ la = .str x) ∨ ∃ pre x l, done = pre ++ [x, l] ∧ ah = .str x ∧ la = .str l ∧ wg = .int (conn nb wt (pre ++ [x]) l)
theorem Tail.snoc {nb : Nb} {wt : Wt} {done : List Str} {ah la wg : L2.V} (t : Tail nb wt done ah la wg) (y : Str) : Tail nb wt (done ++ [y]) la (.str y) (.int (conn nb wt done y)) := by
  rcases t with ⟨rfl, _⟩ | ⟨x, rfl, rfl⟩ | ⟨pre, x, l, rfl, _, rfl, _⟩
  · exact .inr (.inl ⟨y, rfl, rfl⟩)
  · exact .inr (.inr ⟨[], x, y, rfl, rfl, rfl, rfl⟩)
  · exact .inr (.inr ⟨pre ++ [x], l, y, by simp, rfl, rfl, by simp⟩)
end WkP
namespace WkP
open PySem WkN
/-! ### two vertices become one -/
def vl0 (nb : Nb) (wt : Wt) (u v : Str) : Int := if v ∈ nb u then wt u v else 0
structure Sym (Vs : List Str) (nb : Nb) (wt : Wt) : Prop where
  nd : ∀ u ∈ Vs, (nb u).Nodup
  mem : ∀ u ∈ Vs, ∀ v ∈ nb u, v ∈ Vs ∧ v ≠ u ∧ u ∈ nb v ∧ wt v u = wt u v
structure Mp (nb : Nb) (wt : Wt) (kept gone : Str) (Ws S : List Str) (nbi : Nb) (wti : Wt) : Prop where
  nd : ∀ u ∈ Ws, (nbi u).Nodup
  mem : ∀ u ∈ Ws, ∀ y, y ∈ nbi u ↔ (y = gone ∧ gone ∈ nb u ∧ u ∉ S) ∨ (y ≠ gone ∧ (y ∈ nb u ∨ (u = kept ∧ y ∈ S ∧ y ≠ kept) ∨ (y = kept ∧ u ∈ S ∧ u ≠ kept)))
  val : ∀ u ∈ Ws, ∀ y, y ≠ gone → y ∈ nbi u → wti u y = vl0 nb wt u y + (if u = kept ∧ y ∈ S then wt gone y else 0) + (if y = kept ∧ u ∈ S ∧ u ≠ kept then wt gone u else 0)
theorem Mp.start {nb : Nb} {wt : Wt} {kept gone : Str} {Vs Ws : List Str} (s : Sym Vs nb wt) (h : ∀ u ∈ Ws, u ∈ Vs) : Mp nb wt kept gone Ws [] nb wt := by
  refine ⟨fun u hu => s.nd u (h u hu), fun u hu y => ?_, fun u hu y hy hm => ?_⟩
  · by_cases e : y = gone
    · subst e
      simp
    · simp [e]
  · unfold vl0
    simp [hm]
def up (nb : Nb) (u : Str) (ks : List Str) : Nb := fun y => if y = u then ks else nb y
def upw (wt : Wt) (u : Str) (f : Str → Int) : Wt := fun x y => if x = u then f y else wt x y
def add (ks : List Str) (v : Str) : List Str := if v ∈ ks then ks else ks ++ [v]
theorem add_mem {ks : List Str} {v y : Str} : y ∈ add ks v ↔ y ∈ ks ∨ y = v := by
  unfold add
  split <;> grind
theorem add_nd {ks : List Str} {v : Str} (h : ks.Nodup) : (add ks v).Nodup := by
  unfold add
  split
  · exact h
  · rename_i hn
    rw [List.nodup_append]
    exact ⟨h, by simp, fun a ha b hb e => by
      have hb : b = v := by simpa using hb
      rw [e, hb] at ha
      exact hn ha⟩
section
variable {nb : Nb} {wt : Wt} {kept gone : Str} {Vs Ws S : List Str} {nbi : Nb} {wti : Wt}
/-- a turn at the kept one -/
theorem Mp.atKept (m : Mp nb wt kept gone Ws S nbi wti) (s : Sym Vs nb wt) (hW : ∀ u ∈ Ws, u ∈ Vs) (hk : kept ∈ Ws) (hne : kept ≠ gone) : Mp nb wt kept gone Ws (S ++ [kept]) (up nbi kept ((nbi kept).filter fun y => decide (y ≠ gone))) wti := by
  refine ⟨fun u hu => ?_, fun u hu y => ?_, fun u hu y hy hm => ?_⟩
  · unfold up
    split
    · exact (m.nd kept hk).filter _
    · exact m.nd u hu
  · have h1 := m.mem u hu y
    have h2 := m.mem kept hk y
    unfold up
    by_cases e : u = kept
    · subst e
      rw [if_pos rfl, List.mem_filter]
      grind
    · rw [if_neg e, h1]
      grind
  · have hm' : y ∈ nbi u := by
      unfold up at hm
      split at hm
      · rename_i e
        rw [e]
        exact (List.mem_filter.mp hm).1
      · exact hm
    have h1 := m.mem u hu y
    have h5 := s.mem kept (hW _ hk) kept
    rw [m.val u hu y hy hm']
    grind
/-- a turn at another one -/
theorem Mp.atOther (m : Mp nb wt kept gone Ws S nbi wti) (s : Sym Vs nb wt) (hW : ∀ u ∈ Ws, u ∈ Vs) (hk : kept ∈ Ws) (hne : kept ≠ gone) {v : Str} (hv : v ∈ Ws) (hvS : v ∉ S) (hvk : v ≠ kept) (hvg : v ≠ gone) (hg : gone ∈ nb v) {n : Int} (hn : n = (if v ∈ nbi kept then wti kept v else 0) + wt gone v) :
    Mp nb wt kept gone Ws (S ++ [v]) (up (up (up nbi v ((nbi v).filter fun y => decide (y ≠ gone))) kept (add (nbi kept) v)) v (add ((nbi v).filter fun y => decide (y ≠ gone)) kept))
      (upw (upw wti kept fun y => if y = v then n else wti kept y) v fun y => if y = kept then n else wti v y) := by
  have hkm := m.mem kept hk v
  have hn2 : n = vl0 nb wt kept v + wt gone v := by
    rw [hn]
    unfold vl0
    by_cases h : v ∈ nbi kept
    · have h3 := m.val kept hk v hvg h
      unfold vl0 at h3
      grind
    · have : v ∉ nb kept := by grind
      grind
  have sy : vl0 nb wt v kept = vl0 nb wt kept v := by
    unfold vl0
    have a1 := s.mem kept (hW _ hk) v
    have a2 := s.mem v (hW _ hv) kept
    grind
  refine ⟨fun u hu => ?_, fun u hu y => ?_, fun u hu y hy hm => ?_⟩
  · unfold up
    split
    · exact add_nd ((m.nd v hv).filter _)
    · split
      · exact add_nd (m.nd kept hk)
      · exact m.nd u hu
  · have h1 := m.mem u hu y
    have h2 := m.mem kept hk y
    have h3 := m.mem v hv y
    unfold up
    by_cases e1 : u = v
    · subst e1
      rw [if_pos rfl, add_mem, List.mem_filter]
      grind
    · rw [if_neg e1]
      by_cases e2 : u = kept
      · subst e2
        rw [if_pos rfl, add_mem]
        grind
      · rw [if_neg e2, if_neg e1, h1]
        grind
  · unfold up at hm
    unfold upw
    by_cases e1 : u = v
    · subst e1
      rw [if_pos rfl, add_mem, List.mem_filter] at hm
      rw [if_pos rfl]
      dsimp only
      have h3 := m.mem u hu y
      by_cases e3 : y = kept
      · subst e3
        rw [if_pos rfl, hn2, sy]
        grind
      · rw [if_neg e3]
        have hm2 : y ∈ nbi u := by grind
        rw [m.val u hu y hy hm2]
        grind
    · rw [if_neg e1] at hm
      rw [if_neg e1]
      by_cases e2 : u = kept
      · subst e2
        rw [if_pos rfl, add_mem] at hm
        rw [if_pos rfl]
        dsimp only
        by_cases e3 : y = v
        · subst e3
          rw [if_pos rfl, hn2]
          grind
        · rw [if_neg e3]
          have hm2 : y ∈ nbi u := by grind
          rw [m.val u hu y hy hm2]
          grind
      · rw [if_neg e2, if_neg e1] at hm
        rw [if_neg e2, m.val u hu y hy hm]
        grind
end
/-- the graph in which gone is merged into kept -/
structure Merged (nb : Nb) (wt : Wt) (kept gone : Str) (Ws : List Str) (nb' : Nb) (wt' : Wt) : Prop where
  mem : ∀ u ∈ Ws, ∀ y, y ∈ nb' u ↔ y ≠ gone ∧ y ≠ u ∧ (y ∈ nb u ∨ (u = kept ∧ y ∈ nb gone) ∨ (y = kept ∧ gone ∈ nb u))
  val : ∀ u ∈ Ws, ∀ y, y ∈ nb' u → wt' u y = vl0 nb wt u y + (if u = kept then vl0 nb wt gone y else 0) + (if y = kept then vl0 nb wt gone u else 0)
  sym : Sym Ws nb' wt'
theorem Mp.done {nb : Nb} {wt : Wt} {kept gone : Str} {Vs : List Str} {nbi : Nb} {wti : Wt} (s : Sym Vs nb wt) (hk : kept ∈ Vs) (hg : gone ∈ Vs) (hne : kept ≠ gone) (m : Mp nb wt kept gone (Vs.filter fun y => decide (y ≠ gone)) (nb gone) nbi wti) :
    Merged nb wt kept gone (Vs.filter fun y => decide (y ≠ gone)) nbi wti := by
  have mw : ∀ u, u ∈ (Vs.filter fun y => decide (y ≠ gone)) ↔ u ∈ Vs ∧ u ≠ gone := fun u => by
    rw [List.mem_filter, decide_eq_true_iff]
  have mem : ∀ u ∈ (Vs.filter fun y => decide (y ≠ gone)), ∀ y, y ∈ nbi u ↔ y ≠ gone ∧ y ≠ u ∧ (y ∈ nb u ∨ (u = kept ∧ y ∈ nb gone) ∨ (y = kept ∧ gone ∈ nb u)) := fun u hu y => by
    have h1 := m.mem u hu y
    have hu' := (mw u).mp hu
    have a1 := s.mem u hu'.1
    have a2 := s.mem gone hg
    grind
  have vl : ∀ u ∈ (Vs.filter fun y => decide (y ≠ gone)), ∀ y, y ∈ nbi u → wti u y = vl0 nb wt u y + (if u = kept then vl0 nb wt gone y else 0) + (if y = kept then vl0 nb wt gone u else 0) := fun u hu y hy => by
    have h0 := (mem u hu y).mp hy
    rw [m.val u hu y h0.1 hy]
    unfold vl0
    have a2 := s.mem gone hg
    grind
  refine ⟨mem, vl, ⟨m.nd, fun u hu v hv => ?_⟩⟩
  have hu' := (mw u).mp hu
  have h0 := (mem u hu v).mp hv
  have a1 := s.mem u hu'.1
  have a2 := s.mem gone hg
  have hvV : v ∈ Vs := by grind
  have hvW : v ∈ (Vs.filter fun y => decide (y ≠ gone)) := (mw v).mpr ⟨hvV, h0.1⟩
  have a3 := s.mem v hvV
  have hb : u ∈ nbi v := by
    rw [mem v hvW u]
    grind
  refine ⟨hvW, h0.2.1, hb, ?_⟩
  rw [vl v hvW u hb, vl u hu v hv]
  unfold vl0
  grind
open L2 in
theorem putI {H : Hp} {a : Addr} {ks : List Str} {f : Str → Int} {v : Str} {n : Int} (h : H a = some (.dK (dct ks fun y => .int (f y)))) (hl : ks.length < sizeLine) : DPut H a (.str v) (.int n) (upd H a (.dK (dct (add ks v) fun y => .int (if y = v then n else f y)))) := by
  have e : ∀ l : List Str, dct l (fun y => if y = v then V.int n else V.int (f y)) = dct l fun y => V.int (if y = v then n else f y) := fun l => dct_congr fun y _ => by split <;> rfl
  unfold add
  by_cases hv : v ∈ ks
  · rw [if_pos hv, ← e]
    exact put_d h hv hl
  · rw [if_neg hv, ← e]
    exact put_n h hv hl
end WkP
namespace WkP
open PySem WkN
/-! ### the least cut, as the program finds it -/
def grow (grp : Str → List Str) (x l : Str) : Str → List Str := fun u => if u = x then grp x ++ grp l else grp u
def better (best : Option (Int × List Str)) (n : Int) (g : List Str) : Option (Int × List Str) := match best with
  | none => some (n, g)
  | some (m, h) => if n < m then some (n, g) else some (m, h)
inductive Phases (Vs : List Str) (nb : Nb) (wt : Wt) : List Str → Nb → Wt → (Str → List Str) → Option (Int × List Str) → Prop
  | start : Phases Vs nb wt Vs nb wt (fun u => [u]) none
  | step {Ws : List Str} {nb' nb'' : Nb} {wt' wt'' : Wt} {grp : Str → List Str} {best : Option (Int × List Str)} {x l : Str} {n : Int} :
      Phases Vs nb wt Ws nb' wt' grp best → LastTwo nb' wt' Ws x l n → Merged nb' wt' x l (Ws.filter fun y => decide (y ≠ l)) nb'' wt'' →
      Phases Vs nb wt (Ws.filter fun y => decide (y ≠ l)) nb'' wt'' (grow grp x l) (better best n (grp l))
/-- what is known of the groups -/
structure Grps (Vs Ws : List Str) (grp : Str → List Str) : Prop where
  sub : ∀ u ∈ Ws, u ∈ Vs
  mem : ∀ u ∈ Ws, ∀ y ∈ grp u, y ∈ Vs
  nd : ∀ u ∈ Ws, (grp u).Nodup
  dis : ∀ u ∈ Ws, ∀ v ∈ Ws, ∀ y, y ∈ grp u → y ∈ grp v → u = v
theorem Phases.grps {Vs : List Str} {nb : Nb} {wt : Wt} {Ws : List Str} {nb' : Nb} {wt' : Wt} {grp : Str → List Str} {best : Option (Int × List Str)} (p : Phases Vs nb wt Ws nb' wt' grp best) : Grps Vs Ws grp := by
  induction p with
  | start => exact ⟨fun u h => h, fun u h y hy => by rw [List.mem_singleton.mp hy]; exact h, fun u _ => by simp, fun u _ v _ y h1 h2 => by rw [← List.mem_singleton.mp h1, ← List.mem_singleton.mp h2]⟩
  | @step Ws nb' nb'' wt' wt'' grp best x l n p lt mg ih =>
    obtain ⟨hx, hl, hne⟩ := lt.mem
    obtain ⟨i1, i2, i3, i4⟩ := ih
    have mw : ∀ u, u ∈ (Ws.filter fun y => decide (y ≠ l)) ↔ u ∈ Ws ∧ u ≠ l := fun u => by rw [List.mem_filter, decide_eq_true_iff]
    refine ⟨fun u hu => i1 u ((mw u).mp hu).1, fun u hu y hy => ?_, fun u hu => ?_, fun u hu v hv y h1 h2 => ?_⟩
    · unfold grow at hy
      split at hy
      · rcases List.mem_append.mp hy with h | h
        · exact i2 x hx y h
        · exact i2 l hl y h
      · exact i2 u ((mw u).mp hu).1 y hy
    · unfold grow
      split
      · rw [List.nodup_append]
        exact ⟨i3 x hx, i3 l hl, fun a ha b hb e => hne (i4 x hx l hl a ha (e ▸ hb))⟩
      · exact i3 u ((mw u).mp hu).1
    · have hu' := (mw u).mp hu
      have hv' := (mw v).mp hv
      unfold grow at h1 h2
      have a := i4 u hu'.1 v hv'.1 y
      have b := i4 x hx v hv'.1 y
      have c := i4 l hl v hv'.1 y
      have d := i4 u hu'.1 x hx y
      have e := i4 u hu'.1 l hl y
      grind
theorem Grps.len {Vs Ws : List Str} {grp : Str → List Str} (g : Grps Vs Ws grp) {u : Str} (hu : u ∈ Ws) : (grp u).length ≤ Vs.length :=
  (g.nd u hu).length_le_of_subset fun y hy => g.mem u hu y hy
def LeastCut (Vs : List Str) (nb : Nb) (wt : Wt) (n : Int) (m : List Str) : Prop := ∃ Ws nb' wt' grp, Phases Vs nb wt Ws nb' wt' grp (some (n, m)) ∧ Ws.length ≤ 1
def sideL (top : Str) (Vs m : List Str) : List Str := Vs.filter fun v => !decide (L2.V.bl (decide (v ∈ m)) = L2.V.bl (decide (top ∈ m)))
theorem Phases.none {Vs : List Str} {nb : Nb} {wt : Wt} {Ws : List Str} {nb' : Nb} {wt' : Wt} {grp : Str → List Str} {best : Option (Int × List Str)} (p : Phases Vs nb wt Ws nb' wt' grp best) (h : best = Option.none) : Ws = Vs := by
  cases p with
  | start => rfl
  | @step Ws nb' nb'' wt' wt'' grp best x l n p lt mg =>
    unfold better at h
    split at h
    · cases h
    · split at h <;> cases h
end WkP
namespace WkN
open PySem PySem.Spec PyProof.Rows L2 WkD
theorem piL {X : Cx} {tg e : Expr} {te : TE} (K : PySem.W.Frag) (h : X.K = K) (he : PE X e te) : PI X tg e (iList K te) := by
  subst h
  exact pi_list he
end WkN
namespace WkN
open PySem PySem.Spec PyProof.Rows L2 WkD
theorem piOr {X : Cx} {tg e : Expr} {t u : TI} (h1 : PI X tg e t) (h2 : PI X tg e u) : PI X tg e (fun σ H R => t σ H R ∨ u σ H R) := by
  refine ⟨fun pins s σ H R I h => ?_⟩
  rcases h with h | h
  · exact h1.run pins s σ H R I h
  · exact h2.run pins s σ H R I h
theorem opCatT {X : Cx} (K : PySem.W.Frag) (h : X.K = K) : OpR X (binaryOp .Add) (rCatT K) := by
  subst h
  exact op_catT
end WkN
namespace WkP
open PySem WkN
/-! ### rows made of a list of edges -/
abbrev Ed := Str × Str × Int
def Adj (es : List Ed) (u v : Str) (n : Int) : Prop := (u, v, n) ∈ es ∨ (v, u, n) ∈ es
structure RowsOf (Vs : List Str) (es : List Ed) (nb : Nb) (wt : Wt) : Prop where
  nd : ∀ u ∈ Vs, (nb u).Nodup
  mem : ∀ u ∈ Vs, ∀ v, v ∈ nb u ↔ ∃ n, Adj es u v n
  val : ∀ u ∈ Vs, ∀ v n, Adj es u v n → wt u v = n
theorem RowsOf.nil (Vs : List Str) (wt : Wt) : RowsOf Vs [] (fun _ => []) wt := by
  refine ⟨fun u _ => by simp, fun u _ v => ?_, fun u _ v n h => ?_⟩
  · simp [Adj]
  · simp [Adj] at h
theorem RowsOf.snoc {Vs : List Str} {es : List Ed} {nb : Nb} {wt : Wt} {a b : Str} {n : Int} (r : RowsOf Vs es nb wt) (ha : a ∈ Vs) (hb : b ∈ Vs) (hne : a ≠ b) (hn : b ∉ nb a) :
    RowsOf Vs (es ++ [(a, b, n)]) (up (up nb a (add (nb a) b)) b (add (nb b) a)) (upw (upw wt a fun y => if y = b then n else wt a y) b fun y => if y = a then n else wt b y) := by
  have adj : ∀ u v m, Adj (es ++ [(a, b, n)]) u v m ↔ Adj es u v m ∨ (u = a ∧ v = b ∧ m = n) ∨ (u = b ∧ v = a ∧ m = n) := fun u v m => by
    unfold Adj
    grind
  have ma := r.mem a ha
  have mb := r.mem b hb
  have sy : ∀ u v m, Adj es u v m → Adj es v u m := fun u v m h => h.symm
  have hn2 : a ∉ nb b := fun h => by
    obtain ⟨m, hm⟩ := (mb a).mp h
    exact hn ((ma b).mpr ⟨m, sy _ _ _ hm⟩)
  refine ⟨fun u hu => ?_, fun u hu v => ?_, fun u hu v m h => ?_⟩
  · unfold up
    split
    · exact add_nd (r.nd b hb)
    · split
      · exact add_nd (r.nd a ha)
      · exact r.nd u hu
  · have h1 := r.mem u hu v
    have h2 := ma v
    have h3 := mb v
    unfold up
    by_cases e1 : u = b
    · subst e1
      rw [if_pos rfl, add_mem, h3]
      constructor
      · rintro (⟨m, h⟩ | h)
        · exact ⟨m, (adj _ _ _).mpr (.inl h)⟩
        · exact ⟨n, (adj _ _ _).mpr (.inr (.inr ⟨rfl, h, rfl⟩))⟩
      · rintro ⟨m, h⟩
        rcases (adj _ _ _).mp h with h | h | h
        · exact .inl ⟨m, h⟩
        · exact absurd h.1.symm hne
        · exact .inr h.2.1
    · rw [if_neg e1]
      by_cases e2 : u = a
      · subst e2
        rw [if_pos rfl, add_mem, h2]
        constructor
        · rintro (⟨m, h⟩ | h)
          · exact ⟨m, (adj _ _ _).mpr (.inl h)⟩
          · exact ⟨n, (adj _ _ _).mpr (.inr (.inl ⟨rfl, h, rfl⟩))⟩
        · rintro ⟨m, h⟩
          rcases (adj _ _ _).mp h with h | h | h
          · exact .inl ⟨m, h⟩
          · exact .inr h.2.1
          · exact absurd h.1 hne
      · rw [if_neg e2, h1]
        constructor
        · rintro ⟨m, h⟩
          exact ⟨m, (adj _ _ _).mpr (.inl h)⟩
        · rintro ⟨m, h⟩
          rcases (adj _ _ _).mp h with h | h | h
          · exact ⟨m, h⟩
          · exact absurd h.1 e2
          · exact absurd h.1 e1
  · have va := r.val u hu v m
    have hb' := (mb v).mpr
    have ha' := (ma v).mpr
    unfold upw
    rcases (adj _ _ _).mp h with h | h | h
    · grind
    · grind
    · grind
end WkP
namespace WkG
open PySem PySem.Spec PyProof.Rows L2
/-! ### data at any depth, dicts among it -/
def keyD : Key → PyData
  | .inl i => .int i
  | .inr x => .str x
mutual
inductive Dx (K : PySem.W.Frag) (H : Hp) : V → PyData → Prop
  | non : Dx K H .non .none
  | bl (b : Bool) : Dx K H (.bl b) (.bool b)
  | int (i : Int) : Dx K H (.int i) (.int i)
  | str (x : Str) : Dx K H (.str x) (.str x)
  | lst {a : Addr} {xs : List V} {ds : List PyData} : SqL K H a xs → DxAll K H xs ds → Dx K H (.ref a) (.list ds)
  | tup {a : Addr} {xs : List V} {ds : List PyData} : SqT K H a xs → DxAll K H xs ds → Dx K H (.ref a) (.tuple ds)
  | dK {a : Addr} {kvs : List (Key × V)} {ks vs : List PyData} {es : List (PyData × PyData)} : Rd H a (.dK kvs) → DxAll K H (kvs.map (·.2)) vs → ks = kvs.map (fun p => keyD p.1) → es.map (·.1) = ks → es.map (·.2) = vs → Dx K H (.ref a) (.dict es)
  | dT {a : Addr} {kvs : List (List Key × V)} {vs : List PyData} {es : List (PyData × PyData)} : H a = some (.dT kvs) → DxAll K H (kvs.map (·.2)) vs → es.map (·.1) = kvs.map (fun p => PyData.tuple (p.1.map keyD)) → es.map (·.2) = vs → Dx K H (.ref a) (.dict es)
inductive DxAll (K : PySem.W.Frag) (H : Hp) : List V → List PyData → Prop
  | nil : DxAll K H [] []
  | cons {v : V} {vs : List V} {d : PyData} {ds : List PyData} : Dx K H v d → DxAll K H vs ds → DxAll K H (v :: vs) (d :: ds)
end
theorem keyD_reads {h : Heap} {k : Key} {v : Value} (e : keyIs k v = true) : Reads h v (keyD k) [] := by
  rcases keyIs_shape e with ⟨i, t, rfl, rfl⟩ | ⟨x, t, rfl, rfl⟩
  · exact .int i t
  · exact .str x t
theorem pairs_reads {P : Program} {w : World} {h : Heap} : ∀ {es : List DictEntry} {vs : List (Key × Value)}, Pairs (mixKind P w) es vs → ReadsAll h (es.map (·.key)) (vs.map fun p => keyD p.1) [] ∧ es.map (·.val) = vs.map (·.2)
  | [], [], _ => ⟨.nil, rfl⟩
  | e :: es, kv :: vs, h => by
    cases h with
    | cons h1 h2 h3 =>
      obtain ⟨r1, r2⟩ := pairs_reads h3
      refine ⟨.cons (as := []) (bs := []) (keyD_reads h1) r1, ?_⟩
      rw [List.map_cons, List.map_cons, r2, h2]
theorem kv_keys {kvs : List (Key × V)} {vs : List (Key × Value)} (h : KV kvs vs) : kvs.map (fun p => keyD p.1) = vs.map (fun p => keyD p.1) ∧ Vals (kvs.map (·.2)) (vs.map (·.2)) := by
  induction h with
  | nil => exact ⟨rfl, .nil⟩
  | cons r t ih =>
    refine ⟨?_, .cons r.2 ih.2⟩
    rw [List.map_cons, List.map_cons, ih.1, r.1]
/-- sys.modules stands in the written part -/
def Sm (K : PySem.W.Frag) : Prop := ∃ o, K.lookup sysModules = some o ∧ o.cls = .type "dict"
section
variable {X : Cx} {pins : List (Addr × Obj)} {σ : L2.St} {H : Hp} {s : Shared}
theorem sm_none (I : Inv X pins σ H s) (S : Sm X.K) : H sysModules = none := by
  obtain ⟨o, e, _⟩ := S
  exact (I.bs _ _ (I.ok.mod.kin _ _ e)).2
theorem sm_list (I : Inv X pins σ H s) (S : Sm X.K) {a : Addr} {xs : List V} (h : SqL X.K H a xs) : sysModules ≠ a := by
  intro z
  subst z
  rcases h with (h | ⟨o, h⟩) | ⟨o, its, n, hk, hc, _⟩
  · rw [sm_none I S] at h
    cases h
  · rw [sm_none I S] at h
    cases h
  · obtain ⟨o', e, c⟩ := S
    rw [e] at hk
    cases hk
    rw [c] at hc
    exact absurd (Value.type.inj hc) (by decide)
theorem tk_reads {h : Heap} : ∀ (ks : List Key) (its : List Value), Vals (ks.map kV) its → ReadsAll h its (ks.map keyD) []
  | [], _, r => by
    cases r
    exact .nil
  | k :: ks, _, r => by
    cases r with
    | cons r1 r2 =>
      refine .cons (as := []) (bs := []) ?_ (tk_reads ks _ r2)
      cases k with
      | inl i =>
        obtain ⟨t, rfl⟩ := r1
        exact .int i t
      | inr x =>
        obtain ⟨t, rfl⟩ := r1
        exact .str x t
theorem dt_reads (I : Inv X pins σ H s) : ∀ {kvs : List (List Key × V)} {xs : List (List Key × Addr × Value)}, Paired (fun (p : List Key × V) (q : List Key × Addr × Value) => p.1 = q.1 ∧ H q.2.1 = some (.tup (p.1.map kV)) ∧ RelV p.2 q.2.2) kvs xs →
    ReadsAll s.heap (xs.map fun q => Value.ref q.2.1) (kvs.map fun p => PyData.tuple (p.1.map keyD)) [] ∧ Vals (kvs.map (·.2)) (xs.map (·.2.2))
  | _, _, .nil => ⟨.nil, .nil⟩
  | _, _, .cons h r => by
    obtain ⟨r1, r2⟩ := dt_reads I r
    obtain ⟨_, ht, rv⟩ := h
    obtain ⟨its, rvs, ⟨o, ho, hc, n, hd⟩, _⟩ := I.tuple (.inl (.inl ht))
    exact ⟨.cons (as := []) (bs := []) (.tuple ho hc hd (tk_reads _ _ rvs)) r1, .cons rv r2⟩
mutual
theorem Dx.reads (I : Inv X pins σ H s) (S : Sm X.K) : ∀ (d : PyData) (v : V) (u : Value), Dx X.K H v d → RelV v u → ∃ as, Reads s.heap u d as ∧ sysModules ∉ as
  | .none, _, _, h, r => by
    cases h
    cases r
    exact ⟨_, Reads.none, by simp⟩
  | .bool b, _, _, h, r => by
    cases h
    cases r
    exact ⟨_, Reads.bool b, by simp⟩
  | .int i, _, _, h, r => by
    cases h
    obtain ⟨t, rfl⟩ := r
    exact ⟨_, Reads.int i t, by simp⟩
  | .str x, _, _, h, r => by
    cases h
    obtain ⟨t, rfl⟩ := r
    exact ⟨_, Reads.str x t, by simp⟩
  | .list ds, _, _, h, r => by
    cases h with
    | lst hs ha =>
      cases r
      obtain ⟨its, rv, ⟨o, n, ho, hc, _, hd⟩, _⟩ := I.list hs
      obtain ⟨as, hr, hn⟩ := Dx.readsAll I S ds _ its ha rv
      refine ⟨_, Reads.list ho hc hd hr, fun z => ?_⟩
      rcases List.mem_cons.mp z with z | z
      · exact sm_list I S hs z
      · exact hn z
  | .tuple ds, _, _, h, r => by
    cases h with
    | tup hs ha =>
      cases r
      obtain ⟨its, rv, ⟨o, ho, hc, n, hd⟩, _⟩ := I.tuple hs
      obtain ⟨as, hr, hn⟩ := Dx.readsAll I S ds _ its ha rv
      exact ⟨_, Reads.tuple ho hc hd hr, hn⟩
  | .dict es, _, _, h, r => by
    cases h with
    | dK hs ha e1 e2 e3 =>
      cases r
      obtain ⟨z, y, vs, rel, o, ens, ep, ho, hx, hd, _, hp, _⟩ := hs.ok I.hok
      obtain ⟨k1, k2⟩ := kv_keys rel
      obtain ⟨p1, p2⟩ := pairs_reads (h := s.heap) hp
      have hz : es.map (·.2) = es.map (·.2) := rfl
      obtain ⟨bs, hr, hn⟩ := Dx.readsKv I S es _ _ (e3 ▸ ha) k2
      rw [← p2] at hr
      rw [← k1, ← e1, ← e2] at p1
      refine ⟨_, Reads.dict ho hx.1 hd p1 hr, fun q => ?_⟩
      rcases List.mem_cons.mp q with q | q
      · rw [← q] at y
        exact absurd y (by decide)
      · exact hn (by simpa using q)
    | dT hs ha e2 e3 =>
      cases r
      obtain ⟨z, y, xs, rel, o, ens, ep, ho, hx, hd, hes, _⟩ := I.hok _ _ hs
      obtain ⟨p1, k2⟩ := dt_reads I rel
      obtain ⟨bs, hr, hn⟩ := Dx.readsKv I S es _ _ (e3 ▸ ha) k2
      have q1 : ens.toList.map (·.key) = xs.map fun q => Value.ref q.2.1 := by rw [hes, List.map_map]; rfl
      have q2 : ens.toList.map (·.val) = xs.map (·.2.2) := by rw [hes, List.map_map]; rfl
      rw [← q1, ← e2] at p1
      rw [← q2] at hr
      refine ⟨_, Reads.dict ho hx.1 hd p1 hr, fun q => ?_⟩
      rcases List.mem_cons.mp q with q | q
      · rw [← q] at y
        exact absurd y (by decide)
      · exact hn (by simpa using q)
theorem Dx.readsAll (I : Inv X pins σ H s) (S : Sm X.K) : ∀ (ds : List PyData) (vs : List V) (us : List Value), DxAll X.K H vs ds → Vals vs us → ∃ as, ReadsAll s.heap us ds as ∧ sysModules ∉ as
  | [], _, _, h, r => by
    cases h
    cases r
    exact ⟨_, ReadsAll.nil, by simp⟩
  | d :: ds, _, _, h, r => by
    cases h with
    | cons h1 h2 =>
      cases r with
      | cons r1 r2 =>
        obtain ⟨as, q1, n1⟩ := Dx.reads I S d _ _ h1 r1
        obtain ⟨bs, q2, n2⟩ := Dx.readsAll I S ds _ _ h2 r2
        exact ⟨_, ReadsAll.cons q1 q2, fun z => (List.mem_append.mp z).elim n1 n2⟩
theorem Dx.readsKv (I : Inv X pins σ H s) (S : Sm X.K) : ∀ (es : List (PyData × PyData)) (vs : List V) (us : List Value), DxAll X.K H vs (es.map (·.2)) → Vals vs us → ∃ as, ReadsAll s.heap us (es.map (·.2)) as ∧ sysModules ∉ as
  | [], _, _, h, r => by
    cases h
    cases r
    exact ⟨_, ReadsAll.nil, by simp⟩
  | (k, d) :: es, _, _, h, r => by
    cases h with
    | cons h1 h2 =>
      cases r with
      | cons r1 r2 =>
        obtain ⟨as, q1, n1⟩ := Dx.reads I S d _ _ h1 r1
        obtain ⟨bs, q2, n2⟩ := Dx.readsKv I S es _ _ h2 r2
        exact ⟨_, ReadsAll.cons q1 q2, fun z => (List.mem_append.mp z).elim n1 n2⟩
end
end
theorem seqT_same {K : PySem.W.Frag} {H H' : Hp} {a : Addr} {xs : List V} (e : Same H H') (h : SqT K H a xs) : SqT K H' a xs := by
  rcases h with (h | ⟨o, h⟩) | h
  · exact .inl (.inl (e _ _ h))
  · exact .inl (.inr ⟨o, e _ _ h⟩)
  · exact .inr h
theorem rd_same {H H' : Hp} {a : Addr} {u : HO} (e : Same H H') (h : Rd H a u) : Rd H' a u := by
  rcases h with h | ⟨o, h⟩
  · exact .inl (e _ _ h)
  · exact .inr ⟨o, e _ _ h⟩
mutual
theorem Dx.same {K : PySem.W.Frag} {H H' : Hp} (e : Same H H') : ∀ {d : PyData} {v : V}, Dx K H v d → Dx K H' v d
  | _, _, .non => .non
  | _, _, .bl b => .bl b
  | _, _, .int i => .int i
  | _, _, .str x => .str x
  | _, _, .lst h1 h2 => .lst (e.seq h1) (DxAll.same e h2)
  | _, _, .tup h1 h2 => .tup (seqT_same e h1) (DxAll.same e h2)
  | _, _, .dK h1 h2 e1 e2 e3 => .dK (rd_same e h1) (DxAll.same e h2) e1 e2 e3
  | _, _, .dT h1 h2 e2 e3 => .dT (e _ _ h1) (DxAll.same e h2) e2 e3
theorem DxAll.same {K : PySem.W.Frag} {H H' : Hp} (e : Same H H') : ∀ {ds : List PyData} {vs : List V}, DxAll K H vs ds → DxAll K H' vs ds
  | _, _, .nil => .nil
  | _, _, .cons h1 h2 => .cons (Dx.same e h1) (DxAll.same e h2)
end
theorem DxAll.rep {K : PySem.W.Frag} {H : Hp} {v : V} {d : PyData} (h : Dx K H v d) : ∀ n : Nat, DxAll K H (List.replicate n v) (List.replicate n d)
  | 0 => .nil
  | n + 1 => .cons h (DxAll.rep h n)
/-- data that may be written: its numbers are short, it is not too large -/
structure Fits (d : PyData) (w : Nat) : Prop where
  show_ : d.showable = true
  dep : d.depth ≤ 10
  lv : d.leavesShort 100 = true
  wt : d.weight ≤ w
theorem Fits.len {d : PyData} {w : Nat} (h : Fits d w) (hw : w ≤ 150000) : d.shown.length ≤ sizeLine := by
  have e := PyData.shown_le 100 (by decide) d h.lv
  have e2 := h.wt
  rw [sizeLine_eq]
  have e3 : (100 + 2) * d.weight ≤ (100 + 2) * 150000 := Nat.mul_le_mul_left _ (by omega)
  omega
theorem rep_facts {d : PyData} (hs : d.showable = true) (hl : d.leavesShort 100 = true) : ∀ n : Nat, PyData.showableAll (List.replicate n d) = true ∧ PyData.leavesShortAll 100 (List.replicate n d) = true ∧ PyData.depthAll (List.replicate n d) ≤ d.depth ∧ PyData.weightAll (List.replicate n d) = n * (d.weight + 1)
  | 0 => ⟨rfl, rfl, Nat.zero_le _, by simp [PyData.weightAll]⟩
  | n + 1 => by
    obtain ⟨h1, h2, h3, h4⟩ := rep_facts hs hl n
    refine ⟨?_, ?_, ?_, ?_⟩
    · show (d.showable && PyData.showableAll (List.replicate n d)) = true
      rw [hs, h1]
      rfl
    · show (d.leavesShort 100 && PyData.leavesShortAll 100 (List.replicate n d)) = true
      rw [hl, h2]
      rfl
    · show max d.depth (PyData.depthAll (List.replicate n d)) ≤ d.depth
      omega
    · show d.weight + 1 + PyData.weightAll (List.replicate n d) = (n + 1) * (d.weight + 1)
      rw [h4, Nat.add_mul]
      omega
theorem Fits.rep {d : PyData} {w : Nat} (h : Fits d w) (hd : d.depth ≤ 9) (n : Nat) : Fits (.list (List.replicate n d)) (n * (w + 1)) := by
  obtain ⟨h1, h2, h3, h4⟩ := rep_facts h.show_ h.lv n
  refine ⟨h1, ?_, h2, ?_⟩
  · show PyData.depthAll (List.replicate n d) + 1 ≤ 10
    omega
  · show PyData.weightAll (List.replicate n d) ≤ _
    rw [h4]
    exact Nat.mul_le_mul_left _ (Nat.succ_le_succ h.wt)
theorem fits_int {i : Int} (h : i.natAbs < 10 ^ 40) : Fits (.int i) 200 := by
  have l2 : i.natAbs.log2 < 200 := by
    by_cases e : i.natAbs = 0
    · rw [e]
      decide
    · exact (Nat.log2_lt e).mpr (Nat.lt_trans h (by decide))
  refine ⟨?_, Nat.zero_le _, ?_, ?_⟩
  · show decide (i.natAbs.log2 < 1920) = true
    exact decide_eq_true (by omega)
  · show decide ((PyData.shown (.int i)).length ≤ 100) = true
    refine decide_eq_true ?_
    have e := int_text_length_le10 (k := 40) (by decide) h
    show (Str.ofString (toString i)).length ≤ 100
    rw [PySem.ofString_length]
    omega
  · show (if i == 0 then 0 else i.natAbs.log2 + 1) ≤ 200
    split <;> omega
/-! ### repr(x) where nothing is being written -/
def rRepr (K : PySem.W.Frag) : List V → Hp → VK → Prop := fun xs H Q => ∃ (x : V) (d : PyData), xs = [x] ∧ Dx K H x d ∧ d.showable = true ∧ d.depth ≤ 60 ∧ d.shown.length ≤ sizeLine ∧ Q (.str d.shown) H
section
variable {X : Cx}
theorem call_repr (hG : X.A.guards = some []) (S : Sm X.K) (hu : X.A.units + 64 < cLine) : CallR X (.builtin "repr") (rRepr X.K) := by
  intro pins s σ H xs us Q I r h
  obtain ⟨x, d, rfl, hd, hs, hp, hz, q⟩ := h
  obtain ⟨u, rfl, ru⟩ := vals1 r
  obtain ⟨as, rd, hn⟩ := Dx.reads I S d x u hd ru
  have big : ∀ a, u = .ref a → wpAny (model X.prog X.w) X.A (call (.builtin "repr") [u]) (EP X pins σ Q) X.xe s := fun a e => by
    subst e
    exact repr_of_reads' rd hs (fun _ => hn) hG (by omega) (fun _ _ e => e) (fun h' v tk hk => ⟨.str _, H, I.kept hk, ⟨_, rfl⟩, q⟩) hz
  cases rd with
  | none => exact PySem.P.repr_of_none ⟨.str _, H, I.tok _, ⟨_, rfl⟩, q⟩
  | bool b => exact PySem.P.repr_of_bool ⟨.str _, H, I.tok _, ⟨_, rfl⟩, q⟩
  | int i t => exact PySem.P.repr_of_int (of_decide_eq_true hs) ⟨.str _, H, I.tok _, ⟨_, rfl⟩, q⟩
  | str y t => exact PySem.P.repr_of_str ⟨.str _, H, I.tok _, ⟨_, rfl⟩, q⟩ hz
  | list _ _ _ _ => exact big _ rfl
  | tuple _ _ _ _ => exact big _ rfl
  | dict _ _ _ _ _ => exact big _ rfl
end
/-! ### a list beside [] -/
section
variable {X : Cx}
def rNilE (K : PySem.W.Frag) : R2 := fun x y H Q => ∃ a b xs, x = .ref a ∧ y = .ref b ∧ SqL K H a xs ∧ SqL K H b [] ∧ Q (.bl xs.isEmpty) H
def rNilN (K : PySem.W.Frag) : R2 := fun x y H Q => ∃ a b xs, x = .ref a ∧ y = .ref b ∧ SqL K H a xs ∧ SqL K H b [] ∧ Q (.bl (!xs.isEmpty)) H
theorem op_eqNil (hu : X.A.units + 64 < cLine) : OpR X (compareOp .Eq) (rNilE X.K) := by
  intro pins s σ H x y v u Q I rx ry h
  obtain ⟨a, b, xs, rfl, rfl, ha, hb, q⟩ := h
  obtain rfl : v = Value.ref a := rx
  obtain rfl : u = Value.ref b := ry
  obtain ⟨is, r1, ⟨o1, n1, g1, c1, _, d1⟩, _⟩ := I.list ha
  obtain ⟨js, r2, ⟨o2, n2, g2, c2, _, d2⟩, _⟩ := I.list hb
  cases r2
  cases r1 with
  | nil => exact SeqAt.eq_listAt (e := fun _ => true) ⟨o1, g1, c1, n1, d1⟩ ⟨o2, g2, c2, n2, d2⟩ rfl (by omega) (fun j h1 _ => absurd h1 (by simp)) ⟨.bl true, H, I, rfl, q⟩
  | cons r t => exact SeqAt.eq_list_lengthsAt ⟨o1, g1, c1, n1, d1⟩ ⟨o2, g2, c2, n2, d2⟩ (by simp) (by omega) ⟨.bl false, H, I, rfl, q⟩
theorem op_neNil (hu : X.A.units + 64 < cLine) : OpR X (compareOp .NotEq) (rNilN X.K) := by
  intro pins s σ H x y v u Q I rx ry h
  obtain ⟨a, b, xs, rfl, rfl, ha, hb, q⟩ := h
  obtain rfl : v = Value.ref a := rx
  obtain rfl : u = Value.ref b := ry
  obtain ⟨is, r1, ⟨o1, n1, g1, c1, _, d1⟩, _⟩ := I.list ha
  obtain ⟨js, r2, ⟨o2, n2, g2, c2, _, d2⟩, _⟩ := I.list hb
  cases r2
  cases r1 with
  | nil => exact SeqAt.RcNeAt.lists (e := fun _ => true) ⟨o1, g1, c1, n1, d1⟩ ⟨o2, g2, c2, n2, d2⟩ rfl (by omega) (fun j h1 _ => absurd h1 (by simp)) X.prog X.w _ _ ⟨.bl false, H, I, rfl, q⟩
  | cons r t => exact SeqAt.RcNeAt.lists_lengths ⟨o1, g1, c1, n1, d1⟩ ⟨o2, g2, c2, n2, d2⟩ (by simp) (by omega) X.prog X.w _ _ ⟨.bl true, H, I, rfl, q⟩
end
/-! ### defs that are called where nothing is being written -/
structure FnG (P : Program) (w : World) (K : PySem.W.Frag) (mg : Str → Option Value) (base : Heap) (CX : CXT) (k : Nat) (f : Addr) (fd : FuncData) (ps : List Str) (sp : Sp) : Prop where
  len : ∀ vs H Q E, sp vs H Q E → vs.length = ps.length
  run : ∀ (A : Around) (outer : List Env) (s : Shared) (H : Hp) (args : Args) (us : List Value) (vs : List V) (Q : VK) (E : XK), A.guards = some [] → Room k A → Env0 P w K mg base A outer s H → BindsTo s fd args (ps.zip us) → Vals vs us → sp vs H Q E →
    codeAny (model P w) A (.call (.ref f) args) (CR CX outer P w H s Q E) s
section
variable {P : Program} {w : World} {K : PySem.W.Frag} {mg : Str → Option Value} {base : Heap} {CX : CXT} {k : Nat} {f : Addr} {fd : FuncData} {ps : List Str} {sp : Sp}
theorem FnG.of (F : FnOk P w K mg base CX k f fd ps sp) : FnG P w K mg base CX k f fd ps sp := ⟨F.len, fun A outer s H args us vs Q E _ hr he hb hv hs => F.run A outer s H args us vs Q E hr he hb hv hs⟩
theorem FnG.mono {j : Nat} (F : FnG P w K mg base CX j f fd ps sp) (h : j ≤ k) : FnG P w K mg base CX k f fd ps sp := ⟨F.len, fun A outer s H args us vs Q E hg hr => F.run A outer s H args us vs Q E hg (hr.mono h)⟩
theorem deep_guards {A : Around} {env : Env} (h : A.guards = some []) : (A.deeper env).guards = some [] := h
/-- the rule of a def, by its body -/
theorem okG {x qual : Str} {params : Arguments} {body : List Stmt} {scope : Scope} {dvs : List V} {kws : List (Str × V)} {N : List Str} (F : FunD K x qual params body scope dvs kws f fd) (S : FnScope N ps scope) (len : ∀ vs H Q E, sp vs H Q E → vs.length = ps.length)
    (hbody : ∀ (cdv : Value) (A : Around) (outer : List Env) (s : Shared) (H : Hp) (vs : List V) (Q : VK) (E : XK), (A.deeper (envOfC qual scope s.heap.objs.size f cdv)).guards = some [] → Room k (A.deeper (envOfC qual scope s.heap.objs.size f cdv)) → sp vs H Q E →
      ∃ t, PSs (cxOf CX P w K mg base N qual scope f cdv A outer s H E) body t ∧ t { nx := fun _ H' => Q .non H', rt := Q } (start N vs) H) : FnG P w K mg base CX (k + 1) f fd ps sp := by
  obtain ⟨oc, od, dV, kV, doc, pm, an, cdv, ct, osl, rfl, lk, hcd, _, _⟩ := F.ex
  refine ⟨len, fun A outer s H args us vs Q E hg hr e0 hb rel hsp => ?_⟩
  have kx : K.In s.heap := e0.mod.kin.keeps fun b o e => (e0.bs b o e).1
  have nl : s.heap.NoLimit := e0.mod.nolimit.keeps fun b o e => (e0.bs b o e).1
  have kinds : ∀ y ∈ ps.zip us, scope.names.lookup y.1 = some .local ∨ (scope.names.lookup y.1 = some .cell ∧ ((cellsFrom (s.heap.objs.size + 1) scope.names []).lookup y.1).isSome = true) := fun y hy => by
    rcases S.par y.1 (List.of_mem_zip (a := y.1) (b := y.2) hy).1 with q | q
    · exact .inl q
    · exact .inr ⟨q, PySem.W.cellsFrom_some _ _ _ (.inl q)⟩
  refine codeAny_call_function hr.depth (kx _ _ lk) rfl S.co S.gen rfl (PySem.W.codeRec_of kx hcd) (hb _ _ _ _ ?_)
  refine wpAny_newFunctionEnv_cells S.kind kinds fun env he s1 inc => ?_
  subst he
  refine ⟨nl.keeps inc.toInCall.keep, codeAny_func ?_⟩
  obtain ⟨t, ht, hq⟩ := hbody cdv A outer s H vs Q E (deep_guards hg) (hr.deeper _) hsp
  have J : Inv (cxOf CX P w K mg base N qual scope f cdv A outer s H E) [] (start N vs) H s1 := inv_start S hr.hd e0 (len _ _ _ _ hsp) rel inc
  refine wpAny_mono (ht.run [] s1 (start N vs) H _ J hq) (fun fl s' hs => ?_) fun e s' hs => hs
  cases fl with
  | ret u =>
    obtain ⟨v, σ', H', J2, rv, q⟩ := hs
    exact ⟨v, H', J2.os, J2.bare, J2.base, J2.hok, rv, q⟩
  | next =>
    obtain ⟨σ', H', J2, q⟩ := hs
    exact ⟨V.non, H', J2.os, J2.bare, J2.base, J2.hok, rfl, q⟩
  | brk =>
    obtain ⟨_, _, _, q⟩ := hs
    exact False.elim q
  | cont =>
    obtain ⟨_, _, _, q⟩ := hs
    exact False.elim q
end
section
variable {X : Cx} {CX : CXT} {k : Nat} {f : Addr} {fd : FuncData} {ps : List Str} {sp : Sp} {dvs : List V} {ds : List Value} {E : XK} {x : Str} {p pos : Pos} {e : Expr} {es : List Expr} {t : TA}
/-- f(e, ..) -/
theorem pe_callG (F : FnG X.prog X.w X.K X.mg X.base CX k f fd ps sp) (hG : X.A.guards = some []) (hr : Room k X.A) (hg : Gl X x) (hm : X.mg x = some (.ref f)) (hk : PySem.W.keepIn X.K (.ref f) = true) (hb : Binds X.K fd ps ds) (hd : Vals dvs ds) (hx : Passes CX X E)
    (ha : PA X (e :: es) t) (hdb : (x == ("__debug__" : Str)) = false := by decide) (he : starEach (e :: es) X.env = (false, eval e X.env) :: starEach es X.env := by rfl) (hpl : (backTo pos (starEach es X.env)).any (·.1) = false := by rfl) :
    PE X (.Call (.Name x p) (e :: es) [] pos) (tCall sp dvs E t) := by
  refine ⟨fun pins s σ H Q I h => ?_⟩
  refine wpAny_Call_Name_kw (ld_glob I hg hm ?_ hdb)
  refine PySem.W.callWith_K (h₀ := X.base) I.ok.mod.kin hk (thn (ha.run pos pins s σ H _ I h) fun us s1 ⟨vs, H1, I1, r, q⟩ => ⟨I1.kIn, ?_⟩) he hpl
  have r2 : Vals (vs ++ dvs) (us ++ ds) := r.append hd
  have hl : (us ++ ds).length = ps.length := by rw [← r2.length]; exact F.len _ _ _ _ q
  refine wpAny_call (codeAny_mono (F.run X.A X.stack s1 H1 ⟨us, []⟩ (us ++ ds) (vs ++ dvs) Q E hG hr I1.env0 (hb s1 us I1.kIn hl) r2 q) fun r' s' hq => ?_)
  cases r' with
  | error er => exact hx pins σ H1 s1 er s' I1 hq
  | ok fl =>
    cases fl with
    | ret u => exact I1.after hq
    | next => exact False.elim hq
    | brk => exact False.elim hq
    | cont => exact False.elim hq
end
/-! ### the end -/
section
variable {P : Program} {w : World} {K : PySem.W.Frag} {mg mb : Str → Option Value} {CX : CXT} {k : Nat} {fa a : Addr} {fd : FuncData} {x : Str} {sp : Sp} {s₁ : Shared} {vs : List Value} {ns : List Int}
theorem law_G (KX : K.In s₁.heap) (hns : s₁.heap.Ns mainGlobals mg) (hb : s₁.heap.Ns builtinsNs mb) (hbb : ∀ x : Str, x ≠ "__name__" → mb x = bootBuiltins x) (hlim : s₁.heap.NoLimit) (hgen : s₁.gens = #[])
    (ha : s₁.heap.get? a = some { cls := .type "list", data := .seq vs.toArray }) (hi : IntsAre vs ns) (hl : ns.length ≤ sizeLine) (hr : Room k callerA)
    (F : ∀ base : Heap, K.In base → base.Ns mainGlobals mg → FnG P w K mg base CX k fa fd [x] sp) (hbind : ∀ (s : Shared) (u : Value), BindsTo s fd ⟨[u], []⟩ [(x, u)])
    (hsp : ∀ H : Hp, Only H → SqL K H a (ns.map V.int) → sp [.ref a] H (fun v _ => v = .bl true) fun _ _ _ => False)
    (hCX : ∀ H e s', CX [] H s₁ (fun _ _ _ => False) e s' → False) :
    codeAny (model P w) callerA (.call (.ref fa) ⟨[.ref a], []⟩) (fun r s' => r = .ok (.ret (.bool true)) ∧ OldK s₁.heap s'.heap ∧ s'.os = s₁.os ∧ AllBare s'.gens) s₁ := by
  have rv := vals_ints hi
  have lv := hi.length
  have go : ∀ H : Hp, Only H → SqL K H a (ns.map V.int) → HOk P w H s₁.heap → (∀ b, H b ≠ none → b = a) → (H a ≠ none → K.lookup a = none) →
      codeAny (model P w) callerA (.call (.ref fa) ⟨[.ref a], []⟩) (fun r s' => r = .ok (.ret (.bool true)) ∧ OldK s₁.heap s'.heap ∧ s'.os = s₁.os ∧ AllBare s'.gens) s₁ := by
    intro H hO hS ok one hK
    have dic : ∀ {b : Addr} {o : Obj} {es : Array DictEntry} {ep : Nat}, s₁.heap.get? b = some o → o.data = .dict es ep → H b = none := fun {b o es ep} e d => by
      cases q : H b with
      | none => rfl
      | some u =>
        have e' : b = a := one b (by rw [q]; simp)
        subst e'
        rw [ha] at e
        cases e
        exact nomatch (show Data.seq vs.toArray _ = Data.dict es ep from d)
    have nk : ∀ {b : Addr} {m : Str → Option Value}, s₁.heap.Ns b m → (hidT s₁.heap H).Ns b m := fun {b m} ⟨o, es, ep, e, d, r⟩ => ⟨o, es, ep, hidT_get e (dic e d), d, r⟩
    have kb : K.In (hidT s₁.heap H) := fun b o e => hidT_get (KX b o e) (by
      cases q : H b with
      | none => rfl
      | some u =>
        have e' : b = a := one b (by rw [q]; simp)
        subst e'
        rw [hK (by rw [q]; simp)] at e
        cases e)
    have md : Mod K mg (hidT s₁.heap H) := ⟨kb, nk hns, ⟨mb, nk hb, hbb⟩, let ⟨mc, h1, h2⟩ := hlim; ⟨mc, nk h1, h2⟩⟩
    have e0 : Env0 P w K mg (hidT s₁.heap H) callerA [] s₁ H := ⟨rfl, md, fun b o e => of_hidT e, Nat.le_of_eq (hidT_size _ _), trivial, fun b z => absurd (show b ∈ ([] : List Addr) from z) (by simp), ok, .of_eq hgen⟩
    refine codeAny_mono ((F _ kb (nk hns)).run callerA [] s₁ H ⟨[.ref a], []⟩ [.ref a] [.ref a] _ _ rfl hr e0 (hbind s₁ (.ref a)) (.cons rfl .nil) (hsp H hO hS)) fun r s' h => ?_
    cases r with
    | error e => exact (hCX H e s' h).elim
    | ok fl =>
      cases fl with
      | next => exact False.elim h
      | brk => exact False.elim h
      | cont => exact False.elim h
      | ret u =>
        obtain ⟨v, H', os, bare, un, ok', r', q⟩ := h
        have q' : v = .bl true := q
        subst q'
        obtain rfl : u = Value.bool true := r'
        refine ⟨rfl, OldK.of_keep fun b o e => ?_, os, bare⟩
        cases q : H b with
        | none => exact un.keep b o e q (fun z => absurd (show b ∈ ([] : List Addr) from z) (by simp)) (by simp)
        | some u =>
          rcases hO b with z | ⟨ob, xs, z⟩
          · rw [q] at z
            cases z
          · have z2 := un.frzs b ob _ z
            obtain ⟨e1, _⟩ := ok b _ z
            obtain ⟨e2, _⟩ := ok' b _ z2
            rw [e] at e1
            cases e1
            exact e2
  cases hk : K.lookup a with
  | some o =>
    have e := KX a o hk
    rw [ha] at e
    cases e
    refine go (fun _ => none) (fun _ => .inl rfl) (.inr ⟨_, vs.toArray, _, hk, rfl, rfl, rfl, by rw [List.size_toArray, lv]; exact hl, by simpa using rv⟩) (fun b u z => nomatch (show (none : Option HO) = some u from z)) (fun b z => absurd rfl z) fun z => absurd rfl z
  | none =>
    refine go (fun b => if b = a then some (.frz { cls := .type "list", data := .seq vs.toArray } (.lst (ns.map V.int))) else none) (fun b => ?_) (.inl (.inr ⟨{ cls := .type "list", data := .seq vs.toArray }, if_pos rfl⟩)) (fun b u z => ?_) (fun b z => ?_) fun _ => hk
    · by_cases hb : b = a
      · exact .inr ⟨_, _, if_pos hb⟩
      · exact .inl (if_neg hb)
    · by_cases hb : b = a
      · have z' := (if_pos hb).symm.trans z
        cases z'
        subst hb
        exact ⟨ha, by rw [List.length_map]; exact hl, vs, _, rv, ha⟩
      · have z' := (if_neg hb).symm.trans z
        cases z'
    · by_cases hb : b = a
      · exact hb
      · exact absurd (if_neg hb) z
end
theorem walk_G {l : PySem.W.OpenLaw} {n k : Nat} {q : Program} {loose : List Str} {XP : (Str → Option Value) → Heap → Prop} {YP : World → Heap → Prop} {d : DefRec} {CX : World → CXT} {x : Str}
    (hn : l.most = some n) (hn2 : n ≤ sizeLine) (hdf : d.params.defaults = []) (hr : Room k callerA)
    (F : ∀ (w : World) (mg : Str → Option Value) (fa : Addr) (h : Heap), YP w h → h.Ns mainGlobals mg → mg d.name = some (.ref fa) →
      ∃ (K : PySem.W.Frag) (fd : FuncData) (sp : Sp), K.In h ∧ (∀ (s : Shared) (u : Value), BindsTo s fd ⟨[u], []⟩ [(x, u)]) ∧
        (∀ (H : Hp) (a : Addr) (ns : List Int), ns.length ≤ n → Only H → SqL K H a (ns.map V.int) → sp [.ref a] H (fun v _ => v = .bl true) fun _ _ _ => False) ∧
        ∀ base : Heap, K.In base → base.Ns mainGlobals mg → FnG l.prog w K mg base (CX w) k fa fd [x] sp)
    (hCX : ∀ (w : World) (H : Hp) (s : Shared) (e : Value) (s' : Shared), CX w [] H s (fun _ _ _ => False) e s' → False) :
    PySem.W.WalkO q loose XP YP l.row.toRowW d [] (fun f vs => PySem.call f vs) := by
  refine Att.attach_call hn hdf fun w s₀ s₁ mg mb fa o pm cd doc a vs ns G Y ho hd hcd hmg hobj hints hlen hg => ?_
  obtain ⟨K, fd, sp, KX, hb, hsp, hF⟩ := F w mg fa _ Y G.T.g hmg
  exact law_G KX G.T.g G.T.b G.T.builtins G.T.nolimit hg hobj hints (Nat.le_trans hlen hn2) hr hF hb (fun H hO hS => hsp H a ns hlen hO hS) fun H e s' => hCX w H s₁ e s'
/-! ### the head's facts -/
def asW (g : Addr → Option Obj) (n : Nat) : List Addr := sysModules :: cStatics :: He.asD g n
abbrev AlW : Type := He.AlD × Bool
def obsW (n : Nat) (fa : List He.Fa) (fn : List He.DefD) (ex : PySem.W.Frag → Bool) (g : Addr → Option Obj) : AlW := (He.obsD fa fn (He.frG g (asW g n)), ex (He.frG g (asW g n)))
def hookW (n : Nat) (fa : List He.Fa) (fn : List He.DefD) (ex : PySem.W.Frag → Bool) : PySem.W.Hook where
  α := AlW
  obs := fun s => obsW n fa fn ex s.heap.get?
  val := fun _ => (He.valD fn, true)
  says := fun _ h => ∃ K : PySem.W.Frag, K.In h ∧ He.SaysD fa fn K ∧ ex K = true
  of := fun _ _ e => ⟨_, He.frG_in, congrArg (fun z : AlW => z.1) e, congrArg (fun z : AlW => z.2) e⟩
  keeps := fun _ _ _ ⟨K, hK, c, d⟩ k => ⟨K, PySem.W.Frag.In.keeps hK k, c, d⟩
theorem obsW_eq {n : Nat} {fa : List He.Fa} {fn : List He.DefD} {ex : PySem.W.Frag → Bool} {g : Addr → Option Obj} {s : Shared} (h : ∀ a, g a = s.heap.get? a) : obsW n fa fn ex g = (hookW n fa fn ex).obs s := by
  have e : g = s.heap.get? := funext h
  subst e
  rfl
def smB (K : PySem.W.Frag) : Bool := match K.lookup sysModules with
  | some ⟨.type c, _, _, _⟩ => c == "dict"
  | _ => false
theorem smB_ok {K : PySem.W.Frag} (h : smB K = true) : Sm K := by
  unfold smB at h
  split at h
  · rename_i c d dt sl e
    exact ⟨_, e, by rw [eq_of_beq h]⟩
  · cases h
end WkG
namespace WkN
open PySem PySem.Spec PyProof.Rows L2 WkD
section
variable {K : PySem.W.Frag}
/-- a list (true) or a tuple -/
def SqX (b : Bool) (K : PySem.W.Frag) (H : Hp) (a : Addr) (xs : List V) : Prop := match b with
  | true => SqL K H a xs
  | false => SqT K H a xs
theorem SqX.same {b : Bool} {H H' : Hp} {a : Addr} {xs : List V} (h : SqX b K H a xs) (e : Same H H') : SqX b K H' a xs := by
  cases b with
  | true => exact e.seq h
  | false => exact WkG.seqT_same e h
theorem orSeq {b : Bool} {H : Hp} {σ : L2.St} {a : Addr} {i : Nat} {xs : List V} {R : It → Hp → Prop} (h : SqX b K H a xs) (hv : σ[i]? = some (some (.ref a))) (k : ∀ J, Walk J xs.length (fun H => SqX b K H a xs) (YAt xs) → R J H) :
    iList K (tVar i) σ H R ∨ iTup K (tVar i) σ H R := by
  cases b with
  | true => exact .inl ⟨_, hv, a, rfl, ⟨_, h⟩, k _ walk_list⟩
  | false => exact .inr ⟨_, hv, a, rfl, ⟨_, h⟩, k _ walk_tup⟩
theorem tyT {H : Hp} {a : Addr} {xs : List V} (h : SqT K H a xs) : TyX K H (.ref a) (.type "tuple") := by
  rcases h with (h | ⟨o, h⟩) | ⟨o, its, n, hk, hc, _⟩
  · exact .base (.tup h)
  · exact .fTuple h
  · exact .kTuple hk hc
theorem take_nin {α : Type} {l : List α} (nd : l.Nodup) {i : Nat} (hi : i < l.length) : l[i] ∉ l.take i := fun z => by
  obtain ⟨j, hj, e⟩ := List.mem_iff_getElem.mp z
  rw [List.length_take] at hj
  rw [List.getElem_take] at e
  have := (List.getElem_inj nd).mp e
  omega
theorem decV {u v : Str} : decide (V.str u = V.str v) = decide (u = v) := by
  by_cases h : u = v
  · rw [decide_eq_true h, decide_eq_true (by rw [h])]
  · rw [decide_eq_false h, decide_eq_false (fun z => h (V.str.inj z))]
theorem decI {u v : Int} : decide (V.int u = V.int v) = decide (u = v) := by
  by_cases h : u = v
  · rw [decide_eq_true h, decide_eq_true (by rw [h])]
  · rw [decide_eq_false h, decide_eq_false (fun z => h (V.int.inj z))]
theorem np_of {H H' : Hp} {p : Addr} (e : Same H H') (h : H' p = none) : H p = none := by
  cases z : H p with
  | none => rfl
  | some o =>
    rw [e _ _ z] at h
    cases h
/-- what is no sequence may be written -/
def NoSq : HO → Prop
  | .lst _ => False
  | .tup _ => False
  | .frz _ _ => False
  | _ => True
theorem tup_upd {H : Hp} {a r : Addr} {xs : List V} {o o' : HO} (h : SqT K H r xs) (ha : H a = some o) (no : NoSq o) : SqT K (upd H a o') r xs := by
  rcases h with (h | ⟨u, h⟩) | h
  · refine .inl (.inl ?_)
    rw [upd_ne (ne_of h ha (by intro z; rw [← z] at no; exact no))]
    exact h
  · refine .inl (.inr ⟨u, ?_⟩)
    rw [upd_ne (ne_of h ha (by intro z; rw [← z] at no; exact no))]
    exact h
  · exact .inr h
theorem lst_upd {H : Hp} {a r : Addr} {xs : List V} {o o' : HO} (h : SqL K H r xs) (ha : H a = some o) (no : NoSq o) : SqL K (upd H a o') r xs := by
  rcases h with (h | ⟨u, h⟩) | h
  · refine .inl (.inl ?_)
    rw [upd_ne (ne_of h ha (by intro z; rw [← z] at no; exact no))]
    exact h
  · refine .inl (.inr ⟨u, ?_⟩)
    rw [upd_ne (ne_of h ha (by intro z; rw [← z] at no; exact no))]
    exact h
  · exact .inr h
/-- no table, no code object -/
def NoTab : HO → Prop
  | .tbl _ => False
  | .ext _ => False
  | _ => True
theorem tabs_but {T : List (Addr × Str)} {H H' : Hp} {x : Addr} {o : HO} (t : LamX.Tabs T H) (hx : H x = some o) (no : NoTab o) (e : ∀ b o, H b = some o → b ≠ x → H' b = some o) : LamX.Tabs T H' := fun p hp => by
  obtain ⟨ps, h1, h2, h3⟩ := t p hp
  refine ⟨ps, e _ _ h1 (ne_of h1 hx (by intro z; rw [← z] at no; exact no)), h2, fun pos cv hc => ?_⟩
  obtain ⟨c, e1, e2⟩ := h3 pos cv hc
  exact ⟨c, e1, e _ _ e2 (ne_of e2 hx (by intro z; rw [← z] at no; exact no))⟩
theorem tabs_upd {T : List (Addr × Str)} {H : Hp} {x : Addr} {o o' : HO} (t : LamX.Tabs T H) (hx : H x = some o) (no : NoTab o) : LamX.Tabs T (upd H x o') := tabs_but t hx no fun b o hb hne => by
  rw [upd_ne hne]
  exact hb
end
end WkN
namespace WkD
open PySem PySem.Spec PyProof.Rows L2 PySem.W
/-! ### tuple(d) -/
section
variable {X : Cx}
theorem call_tupleD (hcalm : X.calm = true) : CallR X (.type "tuple") (fun xs H Q => ∃ (a : Addr) (kvs : List (Key × V)), xs = [.ref a] ∧ Rd H a (.dK kvs) ∧ ∀ p, H p = none → Q (.ref p) (upd H p (.tup (kvs.map fun kv => kV kv.1)))) := by
  intro pins s σ H xs us Q I r q
  obtain ⟨a, kvs, ex, hd, q⟩ := q
  subst ex
  obtain ⟨u, eu, rx⟩ := vals1 r
  subst eu
  cases rx
  obtain ⟨z, lo, vs, rel, dd⟩ := dk_rd I.hok hd
  obtain ⟨ep, hat⟩ := dd.dictAt
  have ek : (kvs.map fun kv => kV kv.1) = vs.map fun p => kV p.1 := by
    have e := congrArg (List.map kV) rel.keys
    rw [List.map_map, List.map_map] at e
    exact e
  refine callType_codes (Q₁ := fun obj s₁ => s₁.TypeIs obj "tuple" ∧ EP X pins σ Q obj s₁) F.called_tuple (F.typeCall_tuple_1 _) F.entry_object_init
    (codeAny_call_builtin F.called_tuple.plain F.entry_tuple_new (wpAny_of_eq (F.newCall_tuple_1 _) ?_)) fun obj s₁ h₁ => ⟨h₁.1, F.args_object_init_2 obj _, object_init_meets F.called_tuple.init.lookup F.called_tuple.made (by decide) X.prog X.w _ _ s₁ ⟨h₁.1, rfl, h₁.2⟩⟩
  have hsub := sub_tuple_self
  have hinit := init_tuple_lookup
  have hmh := madeHere_tuple
  have hT : Shared.TypeIs s (.ref a) "dict" := hat.dictOf.typeIs
  have hcol : ∀ (R : List Value → Shared → Prop) (A : Around) (E : Value → Shared → Prop), A.handled = none → (∀ (h' : Heap) (tk : Nat) (acc : Array Value), (∀ b o, s.heap.get? b = some o → h'.get? b = some o) → ItemsOf (fun i v => ∃ k x, vs[i]? = some (k, x) ∧ (mixKind X.prog X.w).is k v = true) acc vs.length → R acc.toList { s with heap := h', toks := tk }) → wpAny (model X.prog X.w) A (collect (.ref a)) R E s := fun R A E hh h =>
    PySem.W.kdu_collect (A := A) (PySem.W.kdl_dict (knd := mixKind X.prog X.w) (kvs := vs) (ep := ep) lo) hh hat (by rw [← rel.length]; exact z) h
  obtain ⟨o, ho, hx, hdt⟩ := id hat
  have hh := I.ok.hd hcalm
  obtain ⟨hp, g, d, tk0, os⟩ := s
  wp_walk using AutoSeq1.wpAny_loadPart' ho, wpAny_typeOf hT, hcol _ X.A.in1.in1 _ hh
  intro h' tk acc hk hacc
  have hv : Vals (vs.map fun p => kV p.1) acc.toList := keys_at (by rw [Array.length_toList]; exact hacc.1) fun j v e => hacc.2 j v (by rw [← Array.getElem?_toList]; exact e)
  have hlen : (kvs.map fun kv => kV kv.1).length ≤ sizeLine := by rw [List.length_map]; exact z
  have hl2 : acc.toList.length ≤ sizeLine := by rw [← hv.length, ← ek]; exact hlen
  show wpAny _ _ (Builtin.Tuple.tupleExact acc.toList.toArray >>= fun v => ret v) _ _ _
  unfold Builtin.Tuple.tupleExact
  refine wpAny_bind (wpAny_newObj_type ?_ (by show acc.toList.toArray.size ≤ sizeLine; rw [List.size_toArray]; exact hl2))
  have I1 := I.kept (t' := tk) hk
  refine wpAny_pure ⟨⟨_, Heap.get?_push_size _ rfl, rfl⟩, .ref h'.objs.size, upd H h'.objs.size (.tup (kvs.map fun kv => kV kv.1)), I1.laid (t' := tk) (fun b o e => Heap.get?_push_of_some _ e) (Nat.le_refl _)
    (show ObjOk X.prog X.w _ _ _ (.tup (kvs.map fun kv => kV kv.1)) from ⟨hlen, acc.toList, by rw [ek]; exact hv, IsTup.new _ _⟩), rfl, q _ (I1.hok.fresh (Nat.le_refl _))⟩
end
theorem call_lenR {X : Cx} : CallR X (.builtin "len") (fun xs H Q => ∃ a kvs, xs = [V.ref a] ∧ Rd H a (.dK kvs) ∧ Q (.int kvs.length) H) := by
  intro pins s σ H xs us Q I r h
  obtain ⟨a, kvs, rfl, ha, q⟩ := h
  obtain ⟨u, rfl, ru⟩ := vals1 r
  cases ru
  exact d_len I ha fun t s' I' => ⟨.int kvs.length, H, I', ⟨t, rfl⟩, q⟩
/-! ### sorted, by what is read -/
theorem each_vals {β : Type} {R : V → β → Prop} : ∀ {us : List Value} {bs : List β}, EachIs (fun v b => ∃ x, RelV x v ∧ R x b) us bs → ∃ ys, Vals ys us ∧ EachIs R ys bs
  | _, _, .nil => ⟨[], .nil, .nil⟩
  | _, _, .cons ⟨x, h1, h2⟩ t => by
    obtain ⟨ys, r1, r2⟩ := each_vals t
    exact ⟨x :: ys, .cons h1 r1, .cons h2 r2⟩
theorem vals_each {β : Type} {R : V → β → Prop} : ∀ {xs : List V} {us : List Value} {bs : List β}, Vals xs us → EachIs R xs bs → EachIs (fun v b => ∃ x, RelV x v ∧ R x b) us bs
  | _, _, _, .nil, .nil => .nil
  | _, _, _, .cons r1 r2, .cons h1 h2 => .cons ⟨_, r1, h1⟩ (vals_each r2 h2)
/-- a list of data, of any length -/
def rSortG (K : PySem.W.Frag) : List V → Hp → VK → Prop := fun vs H Q => ∃ (β : Type) (a : Addr) (xs : List V) (bs : List β) (enc : β → PyData) (R : V → β → Prop), vs = [.ref a] ∧ SqL K H a xs ∧ EachIs R xs bs ∧ (∀ x b, R x b → WkG.Dx K H x (enc b)) ∧ AllAlike (bs.map enc) ∧ Sortable (bs.map enc) ∧ (∀ b ∈ bs, (enc b).depth ≤ 40) ∧
  ∀ ys p, EachIs R ys (bs.mergeSort (dataLe false enc)) → H p = none → Q (.ref p) (upd H p (.lst ys))
section
variable {X : Cx}
theorem cr_sortedG (S : WkG.Sm X.K) (hu : X.A.units + 64 < cLine) : CallR X (.builtin "sorted") (rSortG X.K) := by
  intro pins s σ H vs us Q I r h
  obtain ⟨β, a, xs, bs, enc, R, rfl, hs, he, hd, hal, hso, hdp, q⟩ := h
  obtain rfl := Vals.ref1 r
  obtain ⟨its, rv, pl, hz⟩ := I.list hs
  have e1 := vals_each rv he
  have lb : bs.length = its.length := by rw [← e1.length]
  have lx : xs.length = its.length := rv.length
  have e2 : EachIs (fun v b => ∃ as, Reads s.heap v (enc b) as) its bs := e1.mono fun v b ⟨x, h1, h2⟩ => by
    obtain ⟨as, h3, _⟩ := WkG.Dx.reads I S _ _ _ (hd x b h2) h1
    exact ⟨as, h3⟩
  refine sorted_data (enc := enc) (R := fun v b => ∃ x, RelV x v ∧ R x b) pl.isList e1 e2 hal hso (by omega) (fun b hb => by have := hdp b hb; omega) fun out ho eo => ?_
  · obtain ⟨ys, r1, r2⟩ := each_vals eo
    obtain ⟨c, hc⟩ := sortedAll_at s.heap its out.toArray
    refine ⟨.ref (s.heap.objs.size + 1), upd H (s.heap.objs.size + 1) (.lst ys), I.laid (t' := s.toks) (fun b o e => sortedAll_old e) (Nat.le_succ _)
      (show ObjOk X.prog X.w _ _ _ (.lst ys) from ⟨by rw [r1.length]; omega, out, c, r1, hc⟩), rfl, q ys _ r2 (I.hok.fresh (Nat.le_succ _))⟩
end
/-! ### pairs of texts -/
abbrev Pr := Str × Str
def encP (e : Pr) : PyData := .tuple [.str e.1, .str e.2]
def ltP (a b : Pr) : Prop := ltS a.1 b.1 ∨ (a.1 = b.1 ∧ ltS a.2 b.2)
instance (a b : Pr) : Decidable (ltP a b) := inferInstanceAs (Decidable (_ ∨ _))
theorem ltP_irrefl (a : Pr) : ¬ ltP a a := fun h => h.elim (ltS_irrefl _) fun h => ltS_irrefl _ h.2
theorem ltP_trans {a b c : Pr} (h : ltP a b) (k : ltP b c) : ltP a c := by
  rcases h with h | ⟨h, h'⟩
  · rcases k with k | ⟨k, k'⟩
    · exact .inl (ltS_trans h k)
    · exact .inl (k ▸ h)
  · rcases k with k | ⟨k, k'⟩
    · exact .inl (h ▸ k)
    · exact .inr ⟨h.trans k, ltS_trans h' k'⟩
theorem ltP_tri (a b : Pr) : ltP a b ∨ a = b ∨ ltP b a := by
  rcases ltS_tri a.1 b.1 with h | h | h
  · exact .inl (.inl h)
  · rcases ltS_tri a.2 b.2 with k | k | k
    · exact .inl (.inr ⟨h, k⟩)
    · exact .inr (.inl (Prod.ext h k))
    · exact .inr (.inr (.inr ⟨h.symm, k⟩))
  · exact .inr (.inr (.inl h))
theorem dataLt_str (x y : Str) : dataLt (.str x) (.str y) = decide (ltS x y) := by
  have e := congrFun (congrFun (dataLe_str (fun b : Str => b)) y) x
  rw [dataLe_eq] at e
  have e : (!dataLt (.str x) (.str y)) = decide (y.cps.toList ≤ x.cps.toList) := e
  by_cases h : ltS x y
  · rw [decide_eq_true h]
    have n : ¬ y.cps.toList ≤ x.cps.toList := fun z => z h
    rw [decide_eq_false n] at e
    simpa using e
  · rw [decide_eq_false h]
    have n : y.cps.toList ≤ x.cps.toList := h
    rw [decide_eq_true n] at e
    simpa using e
theorem eqv_str (x y : Str) : PyData.eqv (.str x) (.str y) = decide (x = y) := by
  by_cases h : x = y
  · subst h
    rw [decide_eq_true rfl]
    show (x == x) = true
    exact beq_self_eq_true x
  · rw [decide_eq_false h]
    show (x == y) = false
    exact beq_eq_false_iff_ne.mpr h
theorem dataLe_ss : dataLe false encP = fun p q => !decide (ltP q p) := by
  funext p q
  rw [dataLe_eq]
  show (!dataLt (encP q) (encP p)) = _
  unfold encP
  rw [dataLt_pair (by rfl) (by rfl), dataLt_str, dataLt_str, eqv_str, eqv_str]
  congr 1
  by_cases h : q.1 = p.1
  · by_cases k : q.2 = p.2
    · have n : ¬ ltP q p := by
        rw [show q = p from Prod.ext h k]
        exact ltP_irrefl p
      simp [h, k, n]
    · have e : ltP q p ↔ ltS q.2 p.2 := ⟨fun z => z.elim (fun z => absurd (h ▸ z) (ltS_irrefl _)) (·.2), fun z => .inr ⟨h, z⟩⟩
      simp [h, k, e]
  · have e : ltP q p ↔ ltS q.1 p.1 := ⟨fun z => z.elim id (fun z => absurd z.1 h), .inl⟩
    simp [h, e]
def AscP (l : List Pr) : Prop := l.Pairwise ltP
theorem sort_asc {l : List Pr} (nd : l.Nodup) : AscP (l.mergeSort (dataLe false encP)) ∧ (l.mergeSort (dataLe false encP)).Perm l := by
  have pm := List.mergeSort_perm l (dataLe false encP)
  refine ⟨?_, pm⟩
  have so := List.pairwise_mergeSort (le := dataLe false encP) (fun a b c h k => by
    rw [dataLe_ss] at h k ⊢
    have h := of_decide_eq_false (by simpa using h)
    have k := of_decide_eq_false (by simpa using k)
    have n : ¬ ltP c a := fun z => by
      rcases ltP_tri b a with y | y | y
      · exact h y
      · exact k (y ▸ z)
      · exact k (ltP_trans z y)
    simpa using n) (fun a b => by
    rw [dataLe_ss]
    by_cases h : ltP b a
    · have n : ¬ ltP a b := fun z => ltP_irrefl _ (ltP_trans z h)
      simp [n]
    · simp [h]) l
  have nd' : (l.mergeSort (dataLe false encP)).Nodup := pm.nodup_iff.mpr nd
  refine List.Pairwise.imp₂ (R := fun a b => dataLe false encP a b = true) (S := (· ≠ ·)) (fun a b h k => ?_) so nd'
  rw [dataLe_ss] at h
  have h : ¬ ltP b a := of_decide_eq_false (by simpa using h)
  rcases ltP_tri a b with y | y | y
  · exact y
  · exact absurd y k
  · exact absurd y h
/-- two ascending lists with the same members -/
theorem asc_uniq {α : Type} {R : α → α → Prop} (irr : ∀ a, ¬ R a a) (tr : ∀ a b c, R a b → R b c → R a c) : ∀ {l m : List α}, l.Pairwise R → m.Pairwise R → (∀ x, x ∈ l ↔ x ∈ m) → l = m
  | [], [], _, _, _ => rfl
  | [], b :: m, _, _, h => absurd ((h b).mpr List.mem_cons_self) (by simp)
  | a :: l, [], _, _, h => absurd ((h a).mp List.mem_cons_self) (by simp)
  | a :: l, b :: m, h1, h2, h => by
    rw [List.pairwise_cons] at h1 h2
    have e : a = b := by
      rcases List.mem_cons.mp ((h a).mp List.mem_cons_self) with e | e
      · exact e
      · rcases List.mem_cons.mp ((h b).mpr List.mem_cons_self) with e' | e'
        · exact e'.symm
        · exact absurd (tr _ _ _ (h1.1 b e') (h2.1 a e)) (irr a)
    subst e
    congr 1
    refine asc_uniq irr tr h1.2 h2.2 fun x => ⟨fun hx => ?_, fun hx => ?_⟩
    · rcases List.mem_cons.mp ((h x).mp (List.mem_cons_of_mem _ hx)) with e | e
      · subst e
        exact absurd (h1.1 x hx) (irr x)
      · exact e
    · rcases List.mem_cons.mp ((h x).mpr (List.mem_cons_of_mem _ hx)) with e | e
      · subst e
        exact absurd (h2.1 x hx) (irr x)
      · exact e
/-! ### sorted(d), the keys pairs of texts -/
def rSortT : List V → Hp → VK → Prop := fun vs H Q => ∃ (d : Addr) (kvs : List (List Key × V)) (ks : List Pr), vs = [.ref d] ∧ Rd H d (.dT kvs) ∧ kvs.map (·.1) = ks.map (fun e => [Sum.inr e.1, Sum.inr e.2]) ∧
  ∀ bs p, EachIs (fun a e => H a = some (.tup [.str e.1, .str e.2])) bs (ks.mergeSort (dataLe false encP)) → H p = none → Q (.ref p) (upd H p (.lst (bs.map V.ref)))
section
variable {X : Cx}
theorem keys_each {H : Hp} : ∀ {kvs : List (List Key × V)} {bs : List Addr} {ks : List Pr}, IsKeys H kvs bs → kvs.map (·.1) = ks.map (fun e => [Sum.inr e.1, Sum.inr e.2]) → EachIs (fun a e => H a = some (.tup [.str e.1, .str e.2])) bs ks
  | [], [], [], _, _ => .nil
  | kv :: kvs, b :: bs, k :: ks, h, e => by
    cases h with
    | cons h1 h2 =>
      rw [List.map_cons, List.map_cons, List.cons.injEq] at e
      refine .cons ?_ (keys_each h2 e.2)
      rw [e.1] at h1
      exact h1
  | kv :: kvs, b :: bs, [], _, e => by simp at e
  | [], _ :: _, _, h, _ => by cases h
  | _ :: _, [], _, h, _ => by cases h
  | [], [], _ :: _, _, e => by simp at e
theorem cr_sortedTT (hc : X.calm = true) (hu : X.A.units + 64 < cLine) : CallR X (.builtin "sorted") rSortT := by
  intro pins s σ H vs us Q I r h
  obtain ⟨d, kvs, ks, rfl, hd, hks, q⟩ := h
  obtain rfl := Vals.ref1 r
  obtain ⟨z, hs, ks', pr, o, es, ep, ho, hx, hdt, he, hn⟩ := (show ObjOk X.prog X.w H s.heap d (.dT kvs) from hd.ok I.hok)
  have l1 : es.size = ks'.length := size_of_entries he
  have l2 : kvs.length = ks'.length := Paired.length pr
  have l3 : kvs.length = ks.length := by
    have e := congrArg List.length hks
    simpa using e
  refine Calls.call_function_entry PyProof.Rows.kind_sorted PyProof.Rows.plain_sorted PyProof.Rows.entry_sorted (PyProof.Rows.args_sorted1 _) ?_
  unfold Builtin.«sorted»
  refine wpAny_bind (m := checkCount "sorted" 1 1 _) (wpAny_pure ?_)
  refine wpAny_bind (PySem.W.kdu_collect (A := X.A.in1) (kdl_raw hs hx hdt) (I.ok.hd hc) ho (by omega) fun h' tk acc hk it => ?_)
  have ea : acc.toList = (ks'.map fun x => x.2.1).map Value.ref := by
    have hl : acc.toList.length = ks'.length := by rw [Array.length_toList, it.1]; exact l1
    apply List.ext_getElem?
    intro j
    rw [List.map_map, List.getElem?_map]
    cases hj : acc.toList[j]? with
    | none =>
      have h1 := List.getElem?_eq_none_iff.mp hj
      rw [List.getElem?_eq_none (by omega)]
      all_goals rfl
    | some v =>
      obtain ⟨en, hen, hv⟩ := it.2 j v (by rw [← Array.getElem?_toList]; exact hj)
      have qe := entry_at he j
      rw [hen] at qe
      cases hb : ks'[j]? with
      | none =>
        rw [hb] at qe
        exact nomatch (show some en = none from qe)
      | some b =>
        rw [hb] at qe
        have e2 : en = entryOfKey (tupleKind (mixKind X.prog X.w)) b := Option.some.inj qe
        rw [hv, e2]
        all_goals rfl
  obtain ⟨bs, ebs⟩ : ∃ bs, bs = ks'.map fun x => x.2.1 := ⟨_, rfl⟩
  rw [← ebs] at ea
  have ek : EachIs (fun a e => H a = some (.tup [.str e.1, .str e.2])) bs ks := by
    rw [ebs]
    exact keys_each (isKeys_of pr) hks
  have lb : bs.length = ks.length := ek.length
  have I1 : Inv X pins σ H { s with heap := h', toks := tk } := I.kept hk
  have e1 : EachIs (fun (v : Value) (e : Pr) => ∃ x, RelV x v ∧ ∃ a, x = V.ref a ∧ H a = some (.tup [.str e.1, .str e.2])) acc.toList ks := by
    rw [ea]
    clear ea ebs lb hks q l3
    induction ek with
    | nil => exact .nil
    | cons h t ih => exact .cons ⟨.ref _, rfl, _, rfl, h⟩ ih
  have hoL : (h'.push (seqObj "list" acc.toList.toArray 0)).get? h'.objs.size = some (seqObj "list" acc.toList.toArray 0) := Heap.get?_push_size _ rfl
  have lacc : acc.toList.length ≤ sizeLine := by rw [ea, List.length_map]; omega
  have e2 : EachIs (fun v b => ∃ as, Reads (h'.push (seqObj "list" acc.toList.toArray 0)) v (encP b) as ∧ h'.objs.size ∉ as) acc.toList ks := e1.mono fun v b ⟨x, h1, a, h2, h3⟩ => by
    subst h2
    cases h1
    obtain ⟨its, rv, ⟨o2, g2, c2, n2, d2⟩, _⟩ := I1.tuple (a := a) (xs := [.str b.1, .str b.2]) (.inl (.inl h3))
    obtain ⟨u1, u2, rfl, r1, r2⟩ := rv.two
    obtain ⟨t1, rfl⟩ := r1
    obtain ⟨t2, rfl⟩ := r2
    exact ⟨_, Reads.tuple (Heap.get?_push_of_some _ g2) c2 d2 (.cons (.str _ _) (.cons (.str _ _) .nil)), by simp⟩
  refine wpAny_bind (wpAny_newList ?_ lacc)
  show wpAny _ _ _ _ _ { s with heap := h'.push (seqObj "list" acc.toList.toArray 0), toks := tk }
  refine wpAny_bind (wpAny_holding (list_sort_data (s := { s with heap := h'.push (seqObj "list" acc.toList.toArray 0), toks := tk }) (enc := encP) (R := fun (v : Value) (e : Pr) => ∃ x, RelV x v ∧ ∃ a, x = V.ref a ∧ H a = some (.tup [.str e.1, .str e.2])) hoL e1 e2 (AllAlike.of fun b b' => rfl) (Sortable.tuples fun b => ⟨_, _, rfl⟩) (by omega) (fun b hb => ?_) fun out hl eo => ?_))
  · show X.A.in1.units + 1 + 1 < cLine
    have : X.A.in1.units ≤ X.A.units + 1 := by
      first | exact Nat.le_refl _ | exact Nat.le_succ _
    omega
  obtain ⟨ys, g1, g2⟩ := each_vals eo
  obtain ⟨e', he'⟩ := PyProof.Rows.sortedHeap_at (vs := acc.toList) (out := out.toArray) hoL
  obtain ⟨cs, rfl, g3⟩ : ∃ cs : List Addr, ys = cs.map V.ref ∧ EachIs (fun a e => H a = some (.tup [.str e.1, .str e.2])) cs (ks.mergeSort (dataLe false encP)) := by
    clear g1 eo
    generalize ks.mergeSort (dataLe false encP) = ms at g2 ⊢
    induction g2 with
    | nil => exact ⟨[], rfl, .nil⟩
    | cons h t ih =>
      obtain ⟨a, rfl, h⟩ := h
      obtain ⟨cs, rfl, g⟩ := ih
      exact ⟨a :: cs, rfl, .cons h g⟩
  have hlen : (cs.map V.ref).length ≤ sizeLine := by
    rw [g1.length]
    omega
  refine wpAny_pure ⟨_, rfl, .ref h'.objs.size, upd H h'.objs.size (.lst (cs.map V.ref)), I1.laid (t' := tk) (fun b u e => ?_) (Nat.le_refl _)
    (show ObjOk X.prog X.w _ _ _ (.lst (cs.map V.ref)) from ⟨hlen, out, e', g1, he'⟩), rfl, q cs _ g3 (I1.hok.fresh (Nat.le_refl _))⟩
  have hb : b < h'.objs.size := Heap.lt_size e
  rw [PyProof.Rows.sortedHeap_old (Nat.ne_of_lt hb) (by rw [size_push']; exact Nat.lt_succ_of_lt hb)]
  exact Heap.get?_push_of_some _ e
end
end WkD
namespace WkN
open PySem PySem.Spec PyProof.Rows L2 WkD
/-! ### cuts of lists and texts -/
def cutL {α : Type} (xs : List α) (lo hi : Option Int) : List α := (xs.drop (HT.sIx xs.length 0 lo)).take (HT.sIx xs.length xs.length hi - HT.sIx xs.length 0 lo)
theorem cutV_map {α : Type} (f : α → V) (xs : List α) (lo hi : Option Int) : cutV (xs.map f) lo hi = (cutL xs lo hi).map f := by
  unfold cutV cutL
  rw [List.length_map, ← List.map_drop, ← List.map_take]
theorem cutL_lo {α : Type} (xs : List α) {a : Int} (h : 0 ≤ a) : cutL xs (some a) none = xs.drop a.toNat := by
  unfold cutL
  have e : HT.sIx xs.length 0 (some a) = min a.toNat xs.length := by
    show (if a < 0 then _ else min a.toNat xs.length) = _
    rw [if_neg (by omega)]
  rw [e, HT.sIx_none, List.take_of_length_le (by rw [List.length_drop]; omega)]
  by_cases g : a.toNat ≤ xs.length
  · rw [Nat.min_eq_left g]
  · rw [Nat.min_eq_right (by omega), List.drop_of_length_le (Nat.le_refl _), List.drop_of_length_le (by omega)]
theorem cutL_hi {α : Type} (xs : List α) {a : Int} (h : 0 ≤ a) : cutL xs none (some a) = xs.take a.toNat := by
  unfold cutL
  have e : HT.sIx xs.length xs.length (some a) = min a.toNat xs.length := by
    show (if a < 0 then _ else min a.toNat xs.length) = _
    rw [if_neg (by omega)]
  rw [e, HT.sIx_none, List.drop_zero, Nat.sub_zero]
  by_cases g : a.toNat ≤ xs.length
  · rw [Nat.min_eq_left g]
  · rw [Nat.min_eq_right (by omega), List.take_of_length_le (Nat.le_refl _), List.take_of_length_le (by omega)]
theorem len_cps (z : Str) : z.cps.toList.length = z.length := by
  show z.cps.toList.length = z.cps.size
  simp
theorem cutS_cps (z : Str) (lo hi : Option Int) : (cutS z lo hi).cps.toList = cutL z.cps.toList lo hi := by
  unfold cutS cutL
  rw [len_cps]
theorem cutS_lo (z : Str) {a : Int} (h : 0 ≤ a) : (cutS z (some a) none).cps.toList = z.cps.toList.drop a.toNat := by rw [cutS_cps, cutL_lo _ h]
theorem cutS_hi (z : Str) {a : Int} (h : 0 ≤ a) : (cutS z none (some a)).cps.toList = z.cps.toList.take a.toNat := by rw [cutS_cps, cutL_hi _ h]
theorem str_ext {x y : Str} (h : x.cps.toList = y.cps.toList) : x = y := by
  obtain ⟨⟨a⟩⟩ := x
  obtain ⟨⟨b⟩⟩ := y
  congr 2
theorem app_cps (x y : Str) : (x ++ y).cps.toList = x.cps.toList ++ y.cps.toList := by
  show (x.cps ++ y.cps).toList = _
  simp
theorem joinL_nil : ∀ cs : List Nat, TL.joinL [] (cs.map fun c => [c]) = cs
  | [] => rfl
  | [c] => rfl
  | c :: d :: r => by
    show [c] ++ ([] ++ TL.joinL [] ((d :: r).map fun c => [c])) = c :: d :: r
    rw [joinL_nil (d :: r)]
    rfl
theorem join_signs (cs : List Nat) : (Txt.join ("" : Str) (cs.map fun c => (⟨#[c]⟩ : Str))).cps.toList = cs := by
  have e := SX.join_S [] (cs.map fun c => [c])
  rw [joinL_nil, List.map_map] at e
  have e2 : (cs.map fun c => (⟨#[c]⟩ : Str)) = cs.map (SX.S ∘ fun c => [c]) := rfl
  rw [e2]
  have e3 : Txt.join ("" : Str) (cs.map (SX.S ∘ fun c => [c])) = SX.S cs := e
  rw [e3]
end WkN
namespace WkN
open PySem
def letS : Str := "abcdefghijklmnopqrstuvwxyz"
def nameB (z : Str) : Bool := decide ((0 : Int) < z.length) && (decide ((z.length : Int) < 9) && (z.cps.toList.map fun c => decide (c ∈ letS.cps.toList)).all id)
end WkN
namespace WkE
open PySem PySem.Spec PyProof.Rows L2 WkD WkN
/-! ### edges by pairs -/
abbrev EdD := List (Pr × Int)
def kP (e : Pr) : List Key := [.inr e.1, .inr e.2]
theorem kP_inj {a b : Pr} (h : kP a = kP b) : a = b := by
  unfold kP at h
  simp only [List.cons.injEq, Sum.inr.injEq, and_true] at h
  exact Prod.ext h.1 h.2
def dtE (es : EdD) : List (List Key × V) := es.map fun e => (kP e.1, .int e.2)
def putE (es : EdD) (p : Pr) (n : Int) : EdD := if es.any (fun e => decide (e.1 = p)) then es.map (fun e => if e.1 = p then (e.1, n) else e) else es ++ [(p, n)]
theorem dtE_len {es : EdD} : (dtE es).length = es.length := List.length_map ..
theorem dtE_keys {es : EdD} : (dtE es).map (·.1) = (es.map (·.1)).map fun e => [Sum.inr e.1, Sum.inr e.2] := by
  unfold dtE kP
  rw [List.map_map, List.map_map]
  rfl
theorem dtE_any {es : EdD} {p : Pr} : ((dtE es).any fun kv => decide (kv.1 = kP p)) = es.any fun e => decide (e.1 = p) := by
  unfold dtE
  rw [List.any_map]
  congr 1
  funext e
  show decide (kP e.1 = kP p) = decide (e.1 = p)
  by_cases h : e.1 = p
  · rw [decide_eq_true h, decide_eq_true (by rw [h])]
  · rw [decide_eq_false h, decide_eq_false fun z => h (kP_inj z)]
theorem dtE_put {es : EdD} {p : Pr} {n : Int} : putK (dtE es) (kP p) (.int n) = dtE (putE es p n) := by
  unfold putK putE
  rw [dtE_any]
  split
  · unfold dtE
    rw [List.map_map, List.map_map]
    refine List.map_congr_left fun e _ => ?_
    show (if kP e.1 = kP p then (kP e.1, V.int n) else (kP e.1, .int e.2)) = (kP (if e.1 = p then (e.1, n) else e).1, .int (if e.1 = p then (e.1, n) else e).2)
    by_cases h : e.1 = p
    · rw [if_pos (by rw [h]), if_pos h]
    · rw [if_neg fun z => h (kP_inj z), if_neg h]
  · unfold dtE
    rw [List.map_append]
    rfl
theorem dtE_val {es : EdD} {p : Pr} {n : Int} (nd : (es.map (·.1)).Nodup) (h : (p, n) ∈ es) : valV (dtE es) (kP p) = some (.int n) := by
  induction es with
  | nil => exact absurd h (by simp)
  | cons e r ih =>
    rw [List.map_cons, List.nodup_cons] at nd
    show valV ((kP e.1, V.int e.2) :: dtE r) (kP p) = _
    rcases List.mem_cons.mp h with rfl | h
    · rw [valV_pos rfl]
    · have ne : e.1 ≠ p := fun z => nd.1 (List.mem_map.mpr ⟨_, h, z.symm⟩)
      rw [valV_neg fun z => ne (kP_inj z)]
      exact ih nd.2 h
theorem dtE_none {es : EdD} {p : Pr} (h : p ∉ es.map (·.1)) : valV (dtE es) (kP p) = none := by
  induction es with
  | nil => rfl
  | cons e r ih =>
    rw [List.map_cons, List.mem_cons, not_or] at h
    show valV ((kP e.1, V.int e.2) :: dtE r) (kP p) = _
    rw [valV_neg fun z => h.1 (kP_inj z).symm]
    exact ih h.2
theorem putE_keys {es : EdD} {p : Pr} {n : Int} : (putE es p n).map (·.1) = if p ∈ es.map (·.1) then es.map (·.1) else es.map (·.1) ++ [p] := by
  unfold putE
  by_cases h : p ∈ es.map (·.1)
  · obtain ⟨e, he, hp⟩ := List.mem_map.mp h
    rw [if_pos (List.any_eq_true.mpr ⟨e, he, decide_eq_true hp⟩), if_pos h, List.map_map]
    refine List.map_congr_left fun e _ => ?_
    show (if e.1 = p then (e.1, n) else e).1 = e.1
    split <;> rfl
  · have q : ¬ (es.any fun e => decide (e.1 = p)) = true := fun z => by
      obtain ⟨e, he, hp⟩ := List.any_eq_true.mp z
      exact h (List.mem_map.mpr ⟨e, he, of_decide_eq_true hp⟩)
    rw [if_neg q, if_neg h, List.map_append]
    rfl
theorem putE_len {es : EdD} {p : Pr} {n : Int} : (putE es p n).length ≤ es.length + 1 := by
  unfold putE
  split
  · rw [List.length_map]
    omega
  · rw [List.length_append]
    exact Nat.le_refl _
theorem putE_mem {es : EdD} {p : Pr} {n : Int} {e : Pr × Int} (h : e ∈ putE es p n) : e ∈ es ∨ e = (p, n) := by
  unfold putE at h
  split at h
  · obtain ⟨d, hd, rfl⟩ := List.mem_map.mp h
    split
    · rename_i q
      exact .inr (by rw [q])
    · exact .inl hd
  · rcases List.mem_append.mp h with h | h
    · exact .inl h
    · exact .inr (List.mem_singleton.mp h)
/-- edges between some vertices -/
structure EdOk (ns : List Str) (es : EdD) : Prop where
  nd : (es.map (·.1)).Nodup
  mem : ∀ e ∈ es, e.1.1 ∈ ns ∧ e.1.2 ∈ ns ∧ ltS e.1.1 e.1.2 ∧ 1 ≤ e.2 ∧ e.2 ≤ 1000000000
theorem EdOk.nil (ns : List Str) : EdOk ns [] := ⟨by simp, fun e h => absurd h (by simp)⟩
theorem EdOk.put {ns : List Str} {es : EdD} {p : Pr} {n : Int} (h : EdOk ns es) (h1 : p.1 ∈ ns) (h2 : p.2 ∈ ns) (h3 : ltS p.1 p.2) (n1 : 1 ≤ n) (n2 : n ≤ 1000000000) : EdOk ns (putE es p n) := by
  refine ⟨?_, fun e he => ?_⟩
  · rw [putE_keys]
    split
    · exact h.nd
    · rename_i q
      rw [List.nodup_append]
      exact ⟨h.nd, by simp, fun a ha b hb e => by
        have hb : b = p := by simpa using hb
        rw [e, hb] at ha
        exact q ha⟩
  · rcases putE_mem he with h' | rfl
    · exact h.mem e h'
    · exact ⟨h1, h2, h3, n1, n2⟩
def mp (a b : Str) : Pr := (if ltS b a then b else a, if ltS a b then b else a)
theorem mp_cases {a b : Str} (h : a ≠ b) : (ltS a b ∧ mp a b = (a, b)) ∨ (ltS b a ∧ mp a b = (b, a)) := by
  unfold mp
  rcases ltS_tri a b with k | k | k
  · exact .inl ⟨k, by rw [if_neg (ltS_asymm k), if_pos k]⟩
  · exact absurd k h
  · exact .inr ⟨k, by rw [if_pos k, if_neg (ltS_asymm k)]⟩
theorem mp_lt {a b : Str} (h : a ≠ b) : ltS (mp a b).1 (mp a b).2 := by
  rcases mp_cases h with ⟨k, e⟩ | ⟨k, e⟩ <;> rw [e] <;> exact k
theorem mp_mem {ns : List Str} {a b : Str} (h : a ≠ b) (ha : a ∈ ns) (hb : b ∈ ns) : (mp a b).1 ∈ ns ∧ (mp a b).2 ∈ ns := by
  rcases mp_cases h with ⟨k, e⟩ | ⟨k, e⟩ <;> rw [e]
  · exact ⟨ha, hb⟩
  · exact ⟨hb, ha⟩
/-- reached by edges -/
inductive ERch (es : EdD) (s : Str) : Str → Prop
  | here : ERch es s s
  | go {u v : Str} : ERch es s u → ((u, v) ∈ es.map (·.1) ∨ (v, u) ∈ es.map (·.1)) → ERch es s v
theorem ERch.mono {es es' : EdD} {s u : Str} (h : ERch es s u) (k : ∀ p ∈ es.map (·.1), p ∈ es'.map (·.1)) : ERch es' s u := by
  induction h with
  | here => exact .here
  | go _ e ih => exact .go ih (e.imp (k _) (k _))
theorem ERch.trans {es : EdD} {s u v : Str} (h : ERch es s u) (k : ERch es u v) : ERch es s v := by
  induction k with
  | here => exact h
  | go _ e ih => exact .go ih e
theorem ERch.symm {es : EdD} {s u : Str} (h : ERch es s u) : ERch es u s := by
  induction h with
  | here => exact .here
  | go _ e ih => exact (ERch.go .here e.symm).trans ih
theorem putE_sub {es : EdD} {p : Pr} {n : Int} : ∀ q ∈ es.map (·.1), q ∈ (putE es p n).map (·.1) := fun q hq => by
  rw [putE_keys]
  split
  · exact hq
  · exact List.mem_append_left _ hq
theorem putE_has {es : EdD} {p : Pr} {n : Int} : p ∈ (putE es p n).map (·.1) := by
  rw [putE_keys]
  split
  · assumption
  · simp
theorem ERch.mp {es : EdD} {a b : Str} {n : Int} (h : a ≠ b) : ERch (putE es (mp a b) n) b a := by
  have z := putE_has (es := es) (p := WkE.mp a b) (n := n)
  refine .go .here ?_
  rcases mp_cases h with ⟨k, e⟩ | ⟨k, e⟩
  · rw [e] at z ⊢
    exact .inr z
  · rw [e] at z ⊢
    exact .inl z
theorem each_get {α β : Type} {R : α → β → Prop} : ∀ {as : List α} {bs : List β}, PySem.W.EachIs R as bs → ∀ (i : Nat) (h1 : i < as.length) (h2 : i < bs.length), R as[i] bs[i]
  | _, _, .nil, i, h1, _ => absurd h1 (by simp)
  | _, _, .cons h t, 0, _, _ => h
  | _, _, .cons h t, i + 1, h1, h2 => each_get t i (by simpa using h1) (by simpa using h2)
/-- the weight of a pair -/
def wOf (es : EdD) (p : Pr) : Int := ((es.find? fun e => decide (e.1 = p)).map (·.2)).getD 0
theorem wOf_eq {es : EdD} {p : Pr} {n : Int} (nd : (es.map (·.1)).Nodup) (h : (p, n) ∈ es) : wOf es p = n := by
  induction es with
  | nil => exact absurd h (by simp)
  | cons e r ih =>
    rw [List.map_cons, List.nodup_cons] at nd
    unfold wOf
    rcases List.mem_cons.mp h with rfl | h
    · simp
    · have ne : e.1 ≠ p := fun z => nd.1 (List.mem_map.mpr ⟨_, h, z.symm⟩)
      rw [List.find?_cons_of_neg (by simpa using ne)]
      exact ih nd.2 h
theorem wOf_mem {es : EdD} {p : Pr} (nd : (es.map (·.1)).Nodup) (h : p ∈ es.map (·.1)) : (p, wOf es p) ∈ es := by
  obtain ⟨⟨q, n⟩, he, rfl⟩ := List.mem_map.mp h
  have e := wOf_eq nd he
  show (q, wOf es q) ∈ es
  rw [e]
  exact he
/-- the edges in ascending order -/
def edS (es : EdD) : List (Str × Str × Int) := ((es.map (·.1)).mergeSort (PySem.W.dataLe false encP)).map fun p => (p.1, p.2, wOf es p)
theorem edS_len {es : EdD} : (edS es).length = es.length := by
  unfold edS
  rw [List.length_map, List.length_mergeSort, List.length_map]
theorem edS_mem {es : EdD} (nd : (es.map (·.1)).Nodup) {u v : Str} {n : Int} : (u, v, n) ∈ edS es ↔ ((u, v), n) ∈ es := by
  unfold edS
  have pm := List.mergeSort_perm (es.map (·.1)) (PySem.W.dataLe false encP)
  constructor
  · intro h
    obtain ⟨p, hp, e⟩ := List.mem_map.mp h
    have hp := pm.mem_iff.mp hp
    have z := wOf_mem nd hp
    simp only [Prod.mk.injEq] at e
    obtain ⟨e1, e2, e3⟩ := e
    have ep : p = (u, v) := Prod.ext e1 e2
    rw [← ep, ← e3]
    exact z
  · intro h
    refine List.mem_map.mpr ⟨(u, v), pm.mem_iff.mpr (List.mem_map.mpr ⟨_, h, rfl⟩), ?_⟩
    rw [wOf_eq nd h]
theorem edS_asc {es : EdD} (nd : (es.map (·.1)).Nodup) : (edS es).Pairwise fun a b => ltP (a.1, a.2.1) (b.1, b.2.1) := by
  unfold edS
  rw [List.pairwise_map]
  exact (sort_asc nd).1
/-- a drawn network -/
structure NetOk (vs : List Str) (es : EdD) (rt : Str) : Prop where
  asc : Asc vs
  nm : ∀ z ∈ vs, nameB z = true
  ed : EdOk vs es
  rt : rt ∈ vs
  con : ∀ s ∈ vs, ∀ u ∈ vs, ERch es s u
open WkP
section
variable {K : PySem.W.Frag}
/-- the edges, tuple by tuple -/
def EdsAt (K : PySem.W.Frag) (H : Hp) (rs : List Addr) (es : List Ed) : Prop := rs.length = es.length ∧ ∀ (i : Nat) (r : Addr) (e : Ed), rs[i]? = some r → es[i]? = some e → SqT K H r [.str e.1, .str e.2.1, .int e.2.2]
theorem EdsAt.same {H H' : Hp} {rs : List Addr} {es : List Ed} (h : EdsAt K H rs es) (e : Same H H') : EdsAt K H' rs es := ⟨h.1, fun i r d h1 h2 => WkG.seqT_same e (h.2 i r d h1 h2)⟩
theorem EdsAt.snoc {H H' : Hp} {rs : List Addr} {es : List Ed} {p : Addr} {e : Ed} (h : EdsAt K H rs es) (s : Same H H') (hp : H' p = some (.tup [.str e.1, .str e.2.1, .int e.2.2])) : EdsAt K H' (rs ++ [p]) (es ++ [e]) := by
  refine ⟨by rw [List.length_append, List.length_append, h.1]; rfl, fun i r d h1 h2 => ?_⟩
  rcases Nat.lt_trichotomy i rs.length with hi | hi | hi
  · rw [List.getElem?_append_left hi] at h1
    rw [List.getElem?_append_left (by rw [← h.1]; exact hi)] at h2
    exact WkG.seqT_same s (h.2 i r d h1 h2)
  · subst hi
    rw [List.getElem?_append_right (Nat.le_refl _), Nat.sub_self] at h1
    rw [h.1, List.getElem?_append_right (Nat.le_refl _), Nat.sub_self] at h2
    cases h1
    cases h2
    exact .inl (.inl hp)
  · rw [List.getElem?_eq_none (by rw [List.length_append, List.length_singleton]; omega)] at h1
    cases h1
end
end WkE
namespace WkC
open PySem PySem.Spec PyProof.Rows L2 WkD WkN
/-! ### what a class gives -/
section
variable (P : Program) (w : World) (K : PySem.W.Frag) (mg : Str → Option Value) (base : Heap)
/-- a property -/
def PropC (CX : CXT) (C : Addr) (f : Str) (k : Nat) (sp : Sp) : Prop := ∃ p g fd ps, PropOf K C f p g ∧ FnOk P w K mg base CX k g fd ps sp ∧ Binds K fd ps []
/-- a method -/
def MethC (CX : CXT) (C : Addr) (m : Str) (k : Nat) (sp : Sp) : Prop := ∃ f fd ps, Meth K C m f ∧ FnOk P w K mg base CX k f fd ps sp ∧ Binds K fd ps []
/-- its making -/
def MakeC (CX : CXT) (C : Addr) (x : Str) (k : Nat) (sp : Sp) : Prop := ∃ f fd ps, Mk K C f ∧ FnOk P w K mg base CX k f fd ps sp ∧ mg x = some (.ref C) ∧ Binds K fd ps []
/-- its len -/
def LenC (C : Addr) (k : Nat) (sp : Sp) : Prop := ∃ f fd ps, PySem.W.findIn K (.ref C) "__len__" = some (some (.ref f)) ∧ PySem.W.isFn K (.ref f) = true ∧ FnOk P w K mg base CX0 k f fd ps sp ∧ Binds K fd ps []
end
section
variable {X : Cx} {CX : CXT} {C : Addr} {f x m : Str} {k : Nat} {sp : Sp} {E : XK} {e : Expr} {es : List Expr} {ta : TE} {t : TA} {p pos apos : Pos}
theorem pe_pr (h : PropC X.prog X.w X.K X.mg X.base CX C f k sp) (c : Cls X.K C) (hr : Room (k + 1) X.A) (hx : Passes CX X.nox E) (he : PE X e ta) (hab : attributeBase e f X.env (eval e X.env) = eval e X.env := by rfl) : PE X (.Attribute e f pos) (tProp C sp [] E ta) := by
  obtain ⟨p, g, fd, ps, h1, h2, h3⟩ := h
  exact pe_prop he c h1 h2 hr h3 .nil hx hab
theorem pe_mk (h : MakeC X.prog X.w X.K X.mg X.base CX C x k sp) (hr : Room (k + 1) X.A) (hx : Passes CX X E) (ha : PA X (e :: es) t) (hg : Gl X x := by rfl) (hdb : (x == ("__debug__" : Str)) = false := by decide)
    (hst : starEach (e :: es) X.env = (false, eval e X.env) :: starEach es X.env := by rfl) (hpl : (backTo pos (starEach es X.env)).any (·.1) = false := by rfl) : PE X (.Call (.Name x p) (e :: es) [] pos) (tMake C sp [] E t) := by
  obtain ⟨f, fd, ps, h1, h2, h3, h4⟩ := h
  exact pe_make h1 h2 hr hg h3 h4 .nil hx ha hdb hst hpl
theorem pe_mt {o : Expr} {pl : Sem Bool} (h : MethC X.prog X.w X.K X.mg X.base CX C m k sp) (c : Cls X.K C) (hr : Room k X.A) (hx : Passes CX X E) (ho : PE X o ta) (ha : PA X (e :: es) t)
    (hst : starEach (e :: es) X.env = (false, eval e X.env) :: starEach es X.env := by rfl) (hpl : (backTo pos (starEach es X.env)).any (·.1) = false := by rfl)
    (ht : eval (.Call (.Attribute o m apos) (e :: es) [] pos) X.env = (do let ov ← eval o X.env; standAt apos.atName; let (f, first) ← holding [ov] (getMethod ov m pl); callWith pos f first (backTo pos (starEach (e :: es) X.env)) (backToKw pos (keywordEach [] X.env))) := by rfl) :
    PE X (.Call (.Attribute o m apos) (e :: es) [] pos) (tMeth C m sp [] E ta t) := by
  obtain ⟨f, fd, ps, h1, h2, h3⟩ := h
  exact pe_meth ho c h1 h2 hr h3 .nil hx ha hst hpl ht
theorem call_lenC (h : LenC X.prog X.w X.K X.mg X.base C k sp) (hr : Room (k + 1) X.A) : CallR X (.builtin "len") (rLenO C sp fun _ _ _ => False) := by
  obtain ⟨f, fd, ps, h1, h2, h3, h4⟩ := h
  exact call_lenO h1 h2 h3 h4 hr fun _ _ _ _ z => z
end
end WkC
/-! ### data that is written -/
namespace WkG
open PySem PySem.Spec PyProof.Rows L2 WkN
theorem fits_name {z : Str} (h : nameB z = true) : Fits (.str z) 8 := by
  unfold nameB at h
  rw [Bool.and_eq_true, Bool.and_eq_true] at h
  have h2 := of_decide_eq_true h.2.1
  refine ⟨rfl, Nat.zero_le _, ?_, ?_⟩
  · show (z.cps.toList.all fun c => decide (c < 16 ^ 8)) = true
    rw [List.all_eq_true]
    intro c hc
    have h3 := List.all_eq_true.mp h.2.2 (decide (c ∈ letS.cps.toList)) (List.mem_map.mpr ⟨c, hc, rfl⟩)
    have h3 : c ∈ letS.cps.toList := of_decide_eq_true h3
    have : ∀ c ∈ letS.cps.toList, c < 16 ^ 8 := by decide +kernel
    exact decide_eq_true (this c h3)
  · show z.cps.size ≤ 8
    have : z.length = z.cps.size := rfl
    omega
theorem fits_all {w D : Nat} : ∀ {ds : List PyData}, (∀ d ∈ ds, Fits d w ∧ d.depth ≤ D) → PyData.showableAll ds = true ∧ PyData.leavesShortAll 100 ds = true ∧ PyData.depthAll ds ≤ D ∧ PyData.weightAll ds ≤ ds.length * (w + 1)
  | [], _ => ⟨rfl, rfl, Nat.zero_le _, Nat.zero_le _⟩
  | d :: ds, h => by
    obtain ⟨f, hd⟩ := h d List.mem_cons_self
    obtain ⟨h1, h2, h3, h4⟩ := fits_all fun e he => h e (List.mem_cons_of_mem _ he)
    refine ⟨?_, ?_, ?_, ?_⟩
    · show (d.showable && PyData.showableAll ds) = true
      rw [f.show_, h1]
      rfl
    · show (d.leavesShort 100 && PyData.leavesShortAll 100 ds) = true
      rw [f.lv, h2]
      rfl
    · show max d.depth (PyData.depthAll ds) ≤ D
      omega
    · show d.weight + 1 + PyData.weightAll ds ≤ (ds.length + 1) * (w + 1)
      have := f.wt
      rw [Nat.add_mul]
      omega
/-- fits, with a depth -/
def FitsD (d : PyData) (w D : Nat) : Prop := Fits d w ∧ d.depth ≤ D
theorem fits_list {w D : Nat} {ds : List PyData} (h : ∀ d ∈ ds, FitsD d w D) (hD : D ≤ 9) : FitsD (.list ds) (ds.length * (w + 1)) (D + 1) := by
  obtain ⟨h1, h2, h3, h4⟩ := fits_all h
  refine ⟨⟨h1, ?_, h2, h4⟩, ?_⟩
  · show PyData.depthAll ds + 1 ≤ 10
    omega
  · show PyData.depthAll ds + 1 ≤ D + 1
    omega
theorem fits_tuple {w D : Nat} {ds : List PyData} (h : ∀ d ∈ ds, FitsD d w D) (hD : D ≤ 9) : FitsD (.tuple ds) (ds.length * (w + 1)) (D + 1) := by
  obtain ⟨h1, h2, h3, h4⟩ := fits_all h
  refine ⟨⟨h1, ?_, h2, h4⟩, ?_⟩
  · show PyData.depthAll ds + 1 ≤ 10
    omega
  · show PyData.depthAll ds + 1 ≤ D + 1
    omega
theorem Fits.mono {d : PyData} {w v : Nat} (h : Fits d w) (k : w ≤ v) : Fits d v := ⟨h.show_, h.dep, h.lv, Nat.le_trans h.wt k⟩
theorem dx_strs {K : PySem.W.Frag} {H : Hp} : ∀ (ns : List Str), DxAll K H (ns.map V.str) (ns.map PyData.str)
  | [] => .nil
  | n :: ns => .cons (.str n) (dx_strs ns)
/-- an edge as data -/
def edP (e : Str × Str × Int) : PyData := .tuple [.str e.1, .str e.2.1, .int e.2.2]
theorem dx_eds {K : PySem.W.Frag} {H : Hp} : ∀ {rs : List Addr} {es : List (Str × Str × Int)}, WkE.EdsAt K H rs es → DxAll K H (rs.map V.ref) (es.map edP)
  | [], [], _ => .nil
  | r :: rs, e :: es, h => .cons (.tup (h.2 0 r e rfl rfl) (.cons (.str _) (.cons (.str _) (.cons (.int _) .nil)))) (dx_eds ⟨by simpa using h.1, fun i r e h1 h2 => h.2 (i + 1) r e h1 h2⟩)
  | [], _ :: _, h => by have := h.1; simp at this
  | _ :: _, [], h => by have := h.1; simp at this
theorem FitsD.mono {d : PyData} {w v D E : Nat} (h : FitsD d w D) (k : w ≤ v) (l : D ≤ E) : FitsD d v E := ⟨h.1.mono k, Nat.le_trans h.2 l⟩
theorem fits_nameD {z : Str} (h : nameB z = true) : FitsD (.str z) 8 0 := ⟨fits_name h, Nat.zero_le _⟩
theorem fits_intD {i : Int} (h : i.natAbs < 10 ^ 40) : FitsD (.int i) 200 0 := ⟨fits_int h, Nat.zero_le _⟩
theorem fits_names {ns : List Str} (h : ∀ z ∈ ns, nameB z = true) : (∀ d ∈ ns.map PyData.str, FitsD d 8 0) := fun d hd => by
  obtain ⟨z, hz, rfl⟩ := List.mem_map.mp hd
  exact fits_nameD (h z hz)
theorem fits_ed {e : Str × Str × Int} (h1 : nameB e.1 = true) (h2 : nameB e.2.1 = true) (h3 : 1 ≤ e.2.2 ∧ e.2.2 ≤ 1000000000) : FitsD (edP e) 700 1 := by
  have f := fits_tuple (w := 200) (D := 0) (ds := [.str e.1, .str e.2.1, .int e.2.2]) (fun d hd => by
    rcases List.mem_cons.mp hd with rfl | hd
    · exact (fits_nameD h1).mono (by decide) (Nat.le_refl _)
    rcases List.mem_cons.mp hd with rfl | hd
    · exact (fits_nameD h2).mono (by decide) (Nat.le_refl _)
    · rw [List.mem_singleton.mp hd]
      exact fits_intD (by omega)) (by decide)
  exact FitsD.mono f (by show 3 * 201 ≤ 700; decide) (Nat.le_refl _)
theorem fits_eds {es : List (Str × Str × Int)} (h : ∀ e ∈ es, nameB e.1 = true ∧ nameB e.2.1 = true ∧ 1 ≤ e.2.2 ∧ e.2.2 ≤ 1000000000) : ∀ d ∈ es.map edP, FitsD d 700 1 := fun d hd => by
  obtain ⟨e, he, rfl⟩ := List.mem_map.mp hd
  obtain ⟨h1, h2, h3⟩ := h e he
  exact fits_ed h1 h2 h3
theorem fits_two {a b : PyData} {w D : Nat} (ha : FitsD a w D) (hb : FitsD b w D) (hD : D ≤ 9) : FitsD (.tuple [a, b]) (2 * (w + 1)) (D + 1) := fits_tuple (fun d hd => by
  rcases List.mem_cons.mp hd with rfl | hd
  · exact ha
  · rw [List.mem_singleton.mp hd]
    exact hb) hD
theorem FitsD.ok {d : PyData} {w D : Nat} (f : FitsD d w D) (hw : w ≤ 150000) : d.showable = true ∧ d.depth ≤ 60 ∧ d.shown.length ≤ sizeLine := ⟨f.1.show_, Nat.le_trans f.1.dep (by decide), f.1.len hw⟩
end WkG
namespace WkH
open PySem PySem.Spec PyProof.Rows L2 LamX
theorem law_GT {P : Program} {w : World} {K : PySem.W.Frag} {mg mb : Str → Option Value} {CX : CXT} {k : Nat} {fa a : Addr} {tt : List (Addr × Addr)} {fd : FuncData} {x : Str} {sp : Sp} {s₁ : Shared} {vsc : List Value} {nsc : List Int}
    (KX : K.In s₁.heap) (hnm : s₁.heap.Ns mainGlobals mg) (hy : s₁.heap.Ns builtinsNs mb) (hbu : ∀ x : Str, x ≠ "__name__" → mb x = bootBuiltins x) (hli : s₁.heap.NoLimit) (hge : s₁.gens = #[])
    (hTb : ∀ pt ∈ tt, s₁.heap.get? pt.2 = some { cls := .none, data := .fields #[] }) (nTb : ∀ pt ∈ tt, K.lookup pt.2 = none) (Cd : ∀ pt ∈ tt, PySem.W.CodeHd s₁.heap pt.1 pt.2)
    (hbmm : ∃ (bmo : Addr) (obb : Obj), mg "__builtins__" = some (.ref bmo) ∧ bmo ≠ builtinsNs ∧ s₁.heap.get? bmo = some obb ∧ obb.cls = .type "module" ∧ obb.dict = some builtinsNs ∧ obb.data = .plain)
    (hsc : s₁.heap.get? a = some { cls := .type "list", data := .seq vsc.toArray }) (hin : IntsAre vsc nsc) (hln : nsc.length ≤ sizeLine) (hro : Room k callerA)
    (F : ∀ base : Heap, K.In base → base.Ns mainGlobals mg → (∀ pt ∈ tt, TabB base mg pt.1 pt.2) → WkG.FnG P w K mg base CX k fa fd [x] sp) (hbnd : ∀ (s : Shared) (uu : Value), BindsTo s fd ⟨[uu], []⟩ [(x, uu)])
    (hspc : ∀ H : Hp, (∀ pt ∈ tt, H pt.2 = some (.tbl #[])) → SqL K H a (nsc.map V.int) → sp [.ref a] H (fun v _ => v = .bl true) fun _ _ _ => False)
    (hcx : ∀ H e t1, CX [] H s₁ (fun _ _ _ => False) e t1 → False) :
    codeAny (model P w) callerA (.call (.ref fa) ⟨[.ref a], []⟩) (fun r t1 => r = .ok (.ret (.bool true)) ∧ OldK s₁.heap t1.heap ∧ t1.os = s₁.os ∧ AllBare t1.gens) s₁ := by
  have rva := vals_ints hin
  have lv := hin.length
  have isTb : ∀ y : Addr, y ∈ tt.map (·.2) → s₁.heap.get? y = some { cls := .none, data := .fields #[] } := fun y hy => by
    obtain ⟨pt, hpt, e⟩ := List.mem_map.mp hy
    rw [← e]
    exact hTb pt hpt
  have noTb : a ∉ tt.map (·.2) := fun z => by
    have q := isTb a z
    rw [hsc] at q
    have zz : Data.seq vsc.toArray _ = Data.fields #[] := congrArg Obj.data (Option.some.inj q)
    cases zz
  have memTb : ∀ pt ∈ tt, pt.2 ∈ tt.map (·.2) := fun pt hpt => List.mem_map.mpr ⟨pt, hpt, rfl⟩
  have core0 : ∀ H : Hp, (∀ pt ∈ tt, H pt.2 = some (.tbl #[])) → (∀ y, H y = none ∨ y ∈ tt.map (·.2) ∨ ∃ ob0 xss, H y = some (.frz ob0 (.lst xss))) → SqL K H a (nsc.map V.int) → HOk P w H s₁.heap → (∀ y, H y ≠ none → y = a ∨ y ∈ tt.map (·.2)) → (H a ≠ none → K.lookup a = none) →
      codeAny (model P w) callerA (.call (.ref fa) ⟨[.ref a], []⟩) (fun r t1 => r = .ok (.ret (.bool true)) ∧ OldK s₁.heap t1.heap ∧ t1.os = s₁.os ∧ AllBare t1.gens) s₁ := by
    intro H eT onl sq okh dom outK
    have bo : ∀ {y : Addr} {ob0 : Obj}, s₁.heap.get? y = some ob0 → H y = none → (hidT s₁.heap H).get? y = some ob0 := fun e n => hidT_get e n
    have nod : ∀ {y : Addr} {ob0 : Obj}, s₁.heap.get? y = some ob0 → (∀ vsc n, ob0.data ≠ .seq vsc n) → ob0.data ≠ .fields #[] → H y = none := fun {y ob0} e h1 h2 => by
      cases q : H y with
      | none => rfl
      | some uu =>
        rcases dom y (by rw [q]; simp) with e1' | e1'
        · rw [e1', hsc] at e
          cases e
          exact (h1 _ _ rfl).elim
        · rw [isTb y e1'] at e
          cases e
          exact (h2 rfl).elim
    have noa : ∀ {y : Addr} {ob0 : Obj} {ens : Array DictEntry} {ept : Nat}, s₁.heap.get? y = some ob0 → ob0.data = .dict ens ept → H y = none := fun {y ob0 ens ept} e d => by
      refine nod e (fun vsc n z => ?_) fun z => ?_
      · rw [d] at z
        cases z
      · rw [d] at z
        cases z
    have nk : ∀ {y : Addr} {m : Str → Option Value}, s₁.heap.Ns y m → (hidT s₁.heap H).Ns y m := fun {y m} ⟨ob0, ens, ept, e, d, r⟩ => ⟨ob0, ens, ept, bo e (noa e d), d, r⟩
    have kb : K.In (hidT s₁.heap H) := fun y ob0 e => bo (KX y ob0 e) (by
      cases q : H y with
      | none => rfl
      | some uu =>
        rcases dom y (by rw [q]; simp) with e1' | e1'
        · rw [e1'] at e q
          rw [outK (by rw [q]; simp)] at e
          cases e
        · obtain ⟨pt, hpt, ept⟩ := List.mem_map.mp e1'
          rw [← ept, nTb pt hpt] at e
          cases e)
    have md : L2.Mod K mg (hidT s₁.heap H) := ⟨kb, nk hnm, ⟨mb, nk hy, hbu⟩, let ⟨mc, h1, h2⟩ := hli; ⟨mc, nk h1, h2⟩⟩
    have TB : ∀ pt ∈ tt, TabB (hidT s₁.heap H) mg pt.1 pt.2 := fun pt hpt => by
      have hTt := hTb pt hpt
      refine ⟨?_, ?_, fun z => ?_⟩
      · obtain ⟨ob0, us, file, tf, flags, tg, inF, text, tt, e1, r1, r2, r3, r4, r5, r6, r7, r8, hne⟩ := Cd pt hpt
        refine ⟨ob0, us, file, tf, flags, tg, inF, text, tt, bo e1 (nod e1 (fun vsc n z => ?_) fun z => ?_), r1, r2, r3, r4, r5, r6, r7, r8, hne⟩
        · rw [r2] at z
          cases z
        · rw [r2] at z
          cases z
          simp at r3
      · obtain ⟨bmo, obb, b1, b2, b3, b4, b5, b6⟩ := hbmm
        have ngl : bmo ≠ mainGlobals := fun q => by
          obtain ⟨ob0, ens, ept, e, hd, _⟩ := hnm
          rw [q, e] at b3
          cases b3
          rw [hd] at b6
          cases b6
        have nPt : bmo ≠ pt.2 := fun q => by
          rw [q, hTt] at b3
          cases b3
          cases b6
        refine ⟨bmo, obb, b1, b2, ngl, nPt, bo b3 (nod b3 (fun vsc n z => ?_) fun z => ?_), b4, b5, b6⟩
        · rw [b6] at z
          cases z
        · rw [b6] at z
          cases z
      · obtain ⟨ob0, ens, ept, e, hd, _⟩ := hnm
        rw [z, hTt] at e
        cases e
        cases hd
    have ev0 : Env0 P w K mg (hidT s₁.heap H) callerA [] s₁ H := ⟨rfl, md, fun y ob0 e => of_hidT e, Nat.le_of_eq (hidT_size _ _), trivial, fun y hy => absurd (show y ∈ ([] : List Addr) from hy) (by simp), okh, .of_eq hge⟩
    refine codeAny_mono ((F _ kb (nk hnm) TB).run callerA [] s₁ H ⟨[.ref a], []⟩ [.ref a] [.ref a] _ _ rfl hro ev0 (hbnd s₁ (.ref a)) (.cons rfl .nil) (hspc H eT sq)) fun r t1 h => ?_
    cases r with
    | error e => exact (hcx H e t1 h).elim
    | ok fl =>
      cases fl with
      | next => exact False.elim h
      | brk => exact False.elim h
      | cont => exact False.elim h
      | ret uu =>
        obtain ⟨v, G, oss, bar, unt, okh1, rr, q⟩ := h
        have qq : v = .bl true := q
        subst qq
        obtain rfl : uu = Value.bool true := rr
        have kee : ∀ y ob0, y ∉ tt.map (·.2) → s₁.heap.get? y = some ob0 → t1.heap.get? y = some ob0 := fun y ob0 nby e => by
          cases q : H y with
          | none => exact unt.keep y ob0 e q (by intro z; exact absurd (show y ∈ ([] : List Addr) from z) (by simp)) (by simp)
          | some uu =>
            rcases onl y with z | z | ⟨obb, xss, z⟩
            · rw [q] at z; cases z
            · exact absurd z nby
            · have zz2 := unt.frzs y obb _ z
              obtain ⟨e1, _⟩ := okh y _ z
              obtain ⟨e2, _⟩ := okh1 y _ zz2
              rw [e] at e1; cases e1
              exact e2
        have grw : ∀ pt ∈ tt, ∃ mor : Array Value, t1.heap.get? pt.2 = some { cls := .none, data := .fields mor } := fun pt hpt => by
          obtain ⟨mor, z⟩ := unt.tbls pt.2 #[] (eT pt hpt)
          exact ⟨_, okh1 pt.2 _ z⟩
        refine ⟨rfl, ⟨fun y ob0 e => ?_, fun y ob0 e => ?_⟩, oss, bar⟩
        · by_cases hy : y ∈ tt.map (·.2)
          · obtain ⟨pt, hpt, ept⟩ := List.mem_map.mp hy
            obtain ⟨mor, hm⟩ := grw pt hpt
            rw [← ept] at e ⊢
            rw [hTb pt hpt] at e
            cases e
            exact .inr (.inl ⟨((Cd pt hpt).tab (hTb pt hpt)).isCodeTable, rfl, #[], mor, rfl, by rw [Array.empty_append]; exact hm⟩)
          · exact .inl (kee y ob0 hy e)
        · by_cases hy : y ∈ tt.map (·.2)
          · obtain ⟨pt, hpt, ept⟩ := List.mem_map.mp hy
            obtain ⟨mor, hm⟩ := grw pt hpt
            rw [← ept]
            exact ⟨_, hm⟩
          · exact ⟨ob0, kee y ob0 hy e⟩
  cases hk : K.lookup a with
  | some ob0 =>
    have e := KX a ob0 hk
    rw [hsc] at e
    cases e
    refine core0 (fun y => if y ∈ tt.map (·.2) then some (.tbl #[]) else none) (fun pt hpt => if_pos (memTb pt hpt)) (fun y => ?_) (.inr ⟨_, vsc.toArray, _, hk, rfl, rfl, rfl, by rw [List.size_toArray, lv]; exact hln, by simpa using rva⟩) (fun y uu z => ?_) (fun y z => ?_) fun z => absurd (show (if a ∈ tt.map (·.2) then some (HO.tbl #[]) else none) = none from if_neg noTb) z
    · by_cases hy : y ∈ tt.map (·.2)
      · exact .inr (.inl hy)
      · exact .inl (if_neg hy)
    · by_cases hy : y ∈ tt.map (·.2)
      · have zz := (if_pos hy).symm.trans z
        cases zz
        exact isTb y hy
      · have zz := (if_neg hy).symm.trans z
        cases zz
    · by_cases hy : y ∈ tt.map (·.2)
      · exact .inr hy
      · exact absurd (if_neg hy) z
  | none =>
    refine core0 (fun y => if y = a then some (.frz { cls := .type "list", data := .seq vsc.toArray } (.lst (nsc.map V.int))) else if y ∈ tt.map (·.2) then some (.tbl #[]) else none) (fun pt hpt => (if_neg (show ¬ pt.2 = a from fun z => noTb (by rw [← z]; exact memTb pt hpt))).trans (if_pos (memTb pt hpt))) (fun y => ?_)
      (.inl (.inr ⟨{ cls := .type "list", data := .seq vsc.toArray }, if_pos rfl⟩)) (fun y uu z => ?_) (fun y z => ?_) fun _ => hk
    · by_cases hy : y = a
      · exact .inr (.inr ⟨_, _, if_pos hy⟩)
      · by_cases hy2 : y ∈ tt.map (·.2)
        · exact .inr (.inl hy2)
        · exact .inl ((if_neg hy).trans (if_neg hy2))
    · by_cases hy : y = a
      · have zz := (if_pos hy).symm.trans z
        cases zz
        rw [hy]
        exact ⟨hsc, by rw [List.length_map]; exact hln, vsc, _, rva, hsc⟩
      · have z1 := (if_neg hy).symm.trans z
        by_cases hy2 : y ∈ tt.map (·.2)
        · have zz := (if_pos hy2).symm.trans z1
          cases zz
          exact isTb y hy2
        · have zz := (if_neg hy2).symm.trans z1
          cases zz
    · by_cases hy : y = a
      · exact .inl hy
      · by_cases hy2 : y ∈ tt.map (·.2)
        · exact .inr hy2
        · exact absurd ((if_neg hy).trans (if_neg hy2)) z
/-- the promise of a law at its head, tables told -/
def LawT (l : PySem.W.OpenLaw) (w : World) (K : PySem.W.Frag) (CX : CXT) (k n : Nat) (x : Str) (mg : Str → Option Value) (fa : Addr) (h : Heap) : Prop :=
  ∃ (fd : FuncData) (tt : List (Addr × Addr)) (sp : Sp), (∀ p ∈ tt, h.get? p.2 = some { cls := .none, data := .fields #[] }) ∧ (∀ p ∈ tt, K.lookup p.2 = none) ∧ (∀ p ∈ tt, PySem.W.CodeHd h p.1 p.2) ∧ (∀ (s : Shared) (v : Value), BindsTo s fd ⟨[v], []⟩ [(x, v)]) ∧
    (∀ (H : Hp) (a : Addr) (ms : List Int), ms.length ≤ n → (∀ p ∈ tt, H p.2 = some (.tbl #[])) → SqL K H a (ms.map V.int) → sp [.ref a] H (fun v _ => v = .bl true) fun _ _ _ => False) ∧
    ∀ base : Heap, K.In base → base.Ns mainGlobals mg → (∀ p ∈ tt, TabB base mg p.1 p.2) → WkG.FnG l.prog w K mg base CX k fa fd [x] sp
theorem walk_GT {l : PySem.W.OpenLaw} {n k : Nat} {q : Program} {loose : List Str} {XP : (Str → Option Value) → Heap → Prop} {YP : World → Heap → Prop} {d : DefRec} {CX : World → CXT} {x : Str}
    (hn : l.most = some n) (hn2 : n ≤ sizeLine) (hdf : d.params.defaults = []) (hr : Room k callerA)
    (F : ∀ (w : World) (mg : Str → Option Value) (fa : Addr) (h : Heap), YP w h → h.Ns mainGlobals mg → mg d.name = some (.ref fa) → ∃ K : PySem.W.Frag, K.In h ∧ LawT l w K (CX w) k n x mg fa h)
    (hCX : ∀ (w : World) (H : Hp) (s : Shared) (e : Value) (s' : Shared), CX w [] H s (fun _ _ _ => False) e s' → False) :
    PySem.W.WalkO q loose XP YP l.row.toRowW d [] (fun f vs => PySem.call f vs) := by
  refine Att.attach_call hn hdf fun w s₀ s₁ mg mb fa o pm cd doc a vs ns G Y ho hd hcd hmg hobj hints hlen hg => ?_
  obtain ⟨K, KX, fd, tt, sp, hT, nT, C, hb, hsp, hF⟩ := F w mg fa _ Y G.T.g hmg
  exact law_GT KX G.T.g G.T.b G.T.builtins G.T.nolimit hg hT nT C G.T.bmain hobj hints (Nat.le_trans hlen hn2) hr hF hb (fun H eT sq => hsp H a ns hlen eT sq) fun H e s' => hCX w H s₁ e s'
/-! ### the head's facts, tables left out -/
structure SaysH (fa : List He.Fa) (fn : List He.DefD) (tf : List He.Defn) (ex : PySem.W.Frag → Bool) (h : Heap) (K : PySem.W.Frag) : Prop where
  d : He.SaysD fa fn K
  ex : ex K = true
  hd : ∀ p ∈ tf, PySem.W.codeHdIn K (He.cT K p).1 (He.cT K p).2 = true
  out : ∀ p ∈ tf, K.lookup (He.cT K p).2 = none
  emp : ∀ p ∈ tf, h.get? (He.cT K p).2 = some { cls := .none, data := .fields #[] }
abbrev AlH : Type := He.AlD × Bool
abbrev frH (n : Nat) (g : Addr → Option Obj) : PySem.W.Frag := He.frT g (WkG.asW g n)
def obsH (n : Nat) (fa : List He.Fa) (fn : List He.DefD) (tf : List He.Defn) (ex : PySem.W.Frag → Bool) (g : Addr → Option Obj) : AlH := (He.obsD fa fn (frH n g), ex (frH n g) && He.tabsB g tf (frH n g))
theorem saysH_of {n : Nat} {fa : List He.Fa} {fn : List He.DefD} {tf : List He.Defn} {ex : PySem.W.Frag → Bool} {h : Heap} (e : obsH n fa fn tf ex h.get? = (He.valD fn, true)) : SaysH fa fn tf ex h (frH n h.get?) := by
  have e1 : He.obsD fa fn (frH n h.get?) = He.valD fn := congrArg (fun z : AlH => z.1) e
  have e2 : (ex (frH n h.get?) && He.tabsB h.get? tf (frH n h.get?)) = true := congrArg (fun z : AlH => z.2) e
  obtain ⟨h1, h2⟩ := He.ba e2
  have one : ∀ p ∈ tf, PySem.W.codeHdIn (frH n h.get?) (He.cT (frH n h.get?) p).1 (He.cT (frH n h.get?) p).2 = true ∧ ∃ o, h.get? (He.cT (frH n h.get?) p).2 = some o ∧ He.emptyTab o = true := fun p hp => by
    obtain ⟨h3, h4⟩ := He.ba (List.all_eq_true.mp h2 p hp)
    refine ⟨h3, ?_⟩
    cases q : h.get? (He.cT (frH n h.get?) p).2 with
    | none =>
      rw [q] at h4
      cases h4
    | some o =>
      rw [q] at h4
      exact ⟨o, rfl, h4⟩
  refine ⟨e1, h1, fun p hp => (one p hp).1, fun p hp => ?_, fun p hp => ?_⟩
  · obtain ⟨_, o, q, z⟩ := one p hp
    exact He.frT_none q z
  · obtain ⟨_, o, q, z⟩ := one p hp
    rw [q, He.emptyTab_eq z]
def hookH (n : Nat) (fa : List He.Fa) (fn : List He.DefD) (tf : List He.Defn) (ex : PySem.W.Frag → Bool) : PySem.W.Hook where
  α := AlH
  obs := fun s => obsH n fa fn tf ex s.heap.get?
  val := fun _ => (He.valD fn, true)
  says := fun _ h => ∃ K : PySem.W.Frag, K.In h ∧ SaysH fa fn tf ex h K
  of := fun _ _ e => ⟨_, He.frT_in, saysH_of e⟩
  keeps := fun _ _ _ ⟨K, hK, c⟩ k => ⟨K, PySem.W.Frag.In.keeps hK k, ⟨c.d, c.ex, c.hd, c.out, fun p hp => k _ _ (c.emp p hp)⟩⟩
theorem obsH_eq {n : Nat} {fa : List He.Fa} {fn : List He.DefD} {tf : List He.Defn} {ex : PySem.W.Frag → Bool} {g : Addr → Option Obj} {s : Shared} (h : ∀ a, g a = s.heap.get? a) : obsH n fa fn tf ex g = (hookH n fa fn tf ex).obs s := by
  have e : g = s.heap.get? := funext h
  subst e
  rfl
end WkH
namespace WkS
open PySem PySem.Spec PyProof.Rows L2
/-! ### a method whose first statement says super().m(..) -/
structure SupScope (N ps : List Str) (sc : Scope) : Prop where
  kind : sc.kind = .function
  co : sc.isCoroutine = false
  gen : sc.isGenerator = false
  nd : N.Nodup
  pre : N.take ps.length = ps
  par : ∀ x ∈ ps, sc.names.lookup x = some .local
  nocell : ∀ y ∈ sc.names, y.2 ≠ .cell
  free : ∀ y ∈ sc.names, y.2 = .free → y.1 = "__class__"
  cls : sc.names.lookup ("__class__" : Str) = some .free
  sup : sc.names.lookup ("super" : Str) = some .globalImplicit
abbrev supEnv (qual : Str) (scope : Scope) (L f : Addr) (cd : Value) (cc : Addr) : Env := PySem.W.ksEnv qual scope L f cd cc
def supCx (CX : CXT) (P : Program) (w : World) (K : PySem.W.Frag) (mg : Str → Option Value) (base : Heap) (N : List Str) (qual : Str) (scope : Scope) (f : Addr) (cd : Value) (cc : Addr) (A : Around) (outer : List Env) (s : Shared) (H : Hp) (E : XK) : Cx where
  prog := P
  w := w
  K := K
  mg := mg
  base := base
  A := A.deeper (supEnv qual scope s.heap.objs.size f cd cc)
  N := N
  s_0 := s
  H_0 := H
  env := supEnv qual scope s.heap.objs.size f cd cc
  outer := outer
  stack := supEnv qual scope s.heap.objs.size f cd cc :: outer
  ex := []
  calm := true
  fn := fun _ => false
  pn := []
  xe := fun e s' => wpAny (model P w) (A.deeper (supEnv qual scope s.heap.objs.size f cd cc)) (leaving (supEnv qual scope s.heap.objs.size f cd cc) e) (fun _ s'' => CX outer H s E e s'') (fun e' s'' => CX outer H s E e' s'') s'
theorem lookup_nd {y : Str} {u : Value} : ∀ {l : List (Str × Value)}, (l.map (·.1)).Nodup → (y, u) ∈ l → l.lookup y = some u
  | [], _, h => by cases h
  | (z, v) :: r, nd, h => by
    rw [List.map_cons, List.nodup_cons] at nd
    rcases List.mem_cons.mp h with e | h
    · cases e
      simp [List.lookup]
    · have hne : y ≠ z := fun e => nd.1 (List.mem_map.mpr ⟨(y, u), h, e⟩)
      have e1 : (y == z) = false := beq_eq_false_iff_ne.mpr hne
      rw [List.lookup_cons, e1]
      exact lookup_nd nd.2 h
theorem rev_zip {ps : List Str} {us : List Value} {y : Str} {u : Value} {i : Nat} (nd : ps.Nodup) (hl : ps.length = us.length) (hp : ps[i]? = some y) (hu : us[i]? = some u) : (ps.zip us).reverse.lookup y = some u := by
  have e : (ps.zip us)[i]? = some (y, u) := List.getElem?_zip_eq_some.mpr ⟨hp, hu⟩
  refine lookup_nd ?_ (List.mem_reverse.mpr (List.mem_of_getElem? e))
  rw [List.map_reverse]
  refine List.pairwise_reverse.mpr ?_
  rw [List.map_fst_zip (by omega)]
  exact nd.imp fun h => Ne.symm h
section
variable {CX : CXT} {P : Program} {w : World} {K : PySem.W.Frag} {mg : Str → Option Value} {base : Heap} {N ps : List Str} {qual : Str} {scope : Scope} {f cc : Addr} {cd : Value} {A : Around} {outer : List Env} {s : Shared} {H : Hp} {E : XK} {us : List Value} {vs : List V}
theorem sup_start {h₁ : Heap} {tk : Nat} {oc : Obj} {cv : Option Value} (S : SupScope N ps scope) (hd : A.handled = none) (e0 : Env0 P w K mg base A outer s H) (hl : vs.length = ps.length) (r : Vals vs us) (hcell : K.lookup cc = some oc) (hcv : oc.data = .cell cv)
    (hns : h₁.Ns s.heap.objs.size fun y => (ps.zip us).reverse.lookup y) (kp : ∀ b o, s.heap.get? b = some o → h₁.get? b = some o) :
    Inv (supCx CX P w K mg base N qual scope f cd cc A outer s H E) [] (L2.start N vs) H { s with heap := h₁, toks := tk } := by
  have hlu : ps.length = us.length := by rw [← hl]; exact r.length
  have ndP : ps.Nodup := by rw [← S.pre]; exact S.nd.sublist (List.take_sublist _ _)
  have hpl : ps.length ≤ N.length := by
    have := congrArg List.length S.pre
    rw [List.length_take] at this
    omega
  have one : ∀ {y c}, ([(("__class__" : Str), cc)] : List (Str × Addr)).lookup y = some c → y = "__class__" ∧ c = cc := fun {y c} e => by
    rw [List.lookup_cons] at e
    split at e
    · rename_i h
      exact ⟨eq_of_beq h, (Option.some.inj e).symm⟩
    · simp at e
  have hb := e0.mod.kin _ _ hcell
  obtain ⟨hb1, hb2⟩ := e0.bs _ _ hb
  have noE : ∀ b : Addr, b ∉ (supCx CX P w K mg base N qual scope f cd cc A outer s H E).ex := fun b z => absurd (show b ∈ ([] : List Addr) from z) (by simp)
  refine ⟨⟨e0.mod, S.kind, rfl, rfl, Nat.le_refl _, fun y z c a b => (one a).1.trans (one b).1.symm, fun y hy => ?_, fun y c z _ => ?_, fun _ => hd, Around.frames_deeper e0.frames, .inr ⟨rfl, rfl⟩, fun b z => absurd z (noE b), e0.bs, e0.bsz, fun b _ _ => noE b,
      fun b z => absurd z (noE b), e0.funs, e0.frf⟩,
    rfl, e0.bare, Un.kept kp, ⟨_, hns, fun i y v h1 h2 h3 => ?_⟩, fun y c e => ?_, e0.hok.fresh (Nat.le_refl _), fun y c e => ?_, fun q hq => absurd (show q ∈ ([] : List (Addr × Obj)) ++ [] from hq) (by simp), e0.hok.kept kp, ?_⟩
  · have hy : scope.names.lookup y = some .cell ∨ scope.names.lookup y = some .free := hy
    rcases hy with hy | hy
    · exact absurd rfl (S.nocell _ (PySem.mem_of_lookup hy))
    · have e : y = "__class__" := S.free _ (PySem.mem_of_lookup hy) rfl
      subst e
      exact ⟨cc, by show ([(("__class__" : Str), cc)] : List (Str × Addr)).lookup ("__class__" : Str) = some cc; rfl⟩
  · have z : false = true := z
    cases z
  · have hi : i < vs.length := by
      unfold L2.start at h2
      by_cases hi : i < vs.length
      · exact hi
      · rw [List.getElem?_append_right (by simpa using hi), List.getElem?_replicate] at h2
        split at h2 <;> cases h2
    have ha : vs[i]? = some v := by
      unfold L2.start at h2
      rw [List.getElem?_append_left (by simpa using hi), List.getElem?_map] at h2
      cases e : vs[i]? with
      | none => rw [e] at h2; cases h2
      | some a => rw [e] at h2; cases h2; rfl
    obtain ⟨u, hu, rv⟩ := r.get ha
    have h1 : N[i]? = some y := h1
    have hp : ps[i]? = some y := by
      rw [← S.pre, List.getElem?_take_of_lt (by omega)]
      exact h1
    exact ⟨u, rv, .inl ⟨S.par y (List.mem_of_getElem? hp), rev_zip ndP hlu hp hu⟩⟩
  · obtain ⟨_, rfl⟩ := one e
    exact ⟨cv, oc, kp _ _ hb1, hcv⟩
  · obtain ⟨_, rfl⟩ := one e
    exact hb2
  · show (L2.start N vs).length = N.length
    unfold L2.start
    simp
    omega
/-- what the written part tells of such a method -/
structure SupT (P : Program) (K : PySem.W.Frag) (mg : Str → Option Value) (ps : List Str) (D f cc cda : Addr) (qual : Str) (params : Arguments) (scope : Scope) (fd : FuncData) : Prop where
  co : ∃ (name : Str) (body : List Stmt) (dV kV doc pm : Value) (an : Option Addr) (ct oc : Value) (od : Option Addr) (osl : Array (Option Value)), fd = PySem.W.ksFn name qual params body scope dV kV doc pm an (.ref cda) ct cc ∧ K.lookup f = some ⟨oc, od, .func fd, osl⟩
  code : PySem.W.codeIn K (.ref cda) qual = true
  file : ∃ (ccl : Value) (cdd : Option Addr) (vs : Array Value) (ccs : Array (Option Value)) (file : Str) (tf : Tok), K.lookup cda = some ⟨ccl, cdd, .fields vs, ccs⟩ ∧ vs[2]? = some (.str file tf) ∧ ((P.main.file : Str) == file) = true
  cell : ∃ (cl : Value) (cld : Option Addr) (csl : Array (Option Value)), K.lookup cc = some ⟨cl, cld, .cell (some (.ref D)), csl⟩
  cls : ∃ cdD, PySem.W.clsIn K D = some cdD
  nosup : mg "super" = none
  top : (P.main.scope.names.lookup ("super" : Str)).isSome = false
  par : ∃ ar : Arg, (params.posonlyargs ++ params.args).head? = some ar ∧ ps[0]? = some ar.arg
  noany : PySem.W.nsIn K cStatics "thirdparty.any" = some none
theorem clsIn_at {h : Heap} {D : Addr} {cd : ClassData} (X : K.In h) (hD : PySem.W.clsIn K D = some cd) : ∃ oD, h.get? D = some oD ∧ oD.data = .cls cd := by
  unfold PySem.W.clsIn at hD
  split at hD
  · rename_i c d cd' sl ho
    cases hD
    exact ⟨_, X _ _ ho, rfl⟩
  · cases hD
theorem sup_ok {k : Nat} {fd fd2 : FuncData} {D f2 cda : Addr} {params : Arguments} {ps2 : List Str} {sp sp2 : Sp} {m : Str} {e : Expr} {es : List Expr} {rest : List Stmt} {p0 p1 apos pos pos' : Pos} (T : SupT P K mg ps D f cc cda qual params scope fd)
    (hbd : fd.body = .stmts (.Expr (.Call (.Attribute (.Call (.Name "super" p0) [] [] p1) m apos) (e :: es) [] pos) pos' :: rest)) (S : SupScope N ps scope) (F2 : FnOk P w K mg base CX k f2 fd2 ps2 sp2) (hb2 : Binds K fd2 ps2 []) (hf2 : PySem.W.fnIn K f2 = true)
    (hf2' : PySem.W.isFn K (.ref f2) = true)
    (hmn : (m == ("__class__" : Str)) = false) (len : ∀ vs H Q E, sp vs H Q E → vs.length = ps.length)
    (hx : ∀ A outer s H E, Passes CX (supCx CX P w K mg base N qual scope f (.ref cda) cc A outer s H E) E)
    (hst : ∀ env : Env, starEach (e :: es) env = (false, eval e env) :: starEach es env) (hpl : ∀ env : Env, (backTo pos (starEach es env)).any (·.1) = false)
    (hev : ∀ env : Env, env.scope = scope → ∃ pl : Sem Bool, eval (.Call (.Attribute (.Call (.Name "super" p0) [] [] p1) m apos) (e :: es) [] pos) env = (do
      let ov ← attributeBase (.Call (.Name "super" p0) [] [] p1) m env (eval (.Call (.Name "super" p0) [] [] p1) env)
      standAt apos.atName
      let (f, first) ← holding [ov] (getMethod ov m pl)
      callWith pos f first (backTo pos (starEach (e :: es) env)) []))
    (hsw : ∀ env : Env, env.scope = scope → interactive env = false ∧ swapsWith (.Call (.Attribute (.Call (.Name "super" p0) [] [] p1) m apos) (e :: es) [] pos) none pos'.line env = pure false)
    (hbody : ∀ (A : Around) (outer : List Env) (s : Shared) (H : Hp) (vs : List V) (Q : VK) (E : XK), Room k (A.deeper (supEnv qual scope s.heap.objs.size f (.ref cda) cc)) → sp vs H Q E →
      ∃ (ta : TA) (t : TS) (x C dx : Addr) (fs : List (Str × V)), vs[0]? = some (.ref x) ∧ H x = some (.ins C dx fs) ∧ PySem.W.mroIn K C (.ref D) = some true ∧ PySem.W.ks_superIn K C D m = some (some (.ref f2)) ∧
        PA (supCx CX P w K mg base N qual scope f (.ref cda) cc A outer s H E) (e :: es) ta ∧ PSs (supCx CX P w K mg base N qual scope f (.ref cda) cc A outer s H E) rest t ∧
        ta (L2.start N vs) H fun ws H1 => sp2 (.ref x :: ws) H1 (fun _ H2 => t { nx := fun _ H' => Q .non H', rt := Q } (L2.start N vs) H2) E) :
    FnOk P w K mg base CX (k + 1) f fd ps sp := by
  refine ⟨len, fun A outer s H args us vs Q E hr e0 hb rel hsp => ?_⟩
  obtain ⟨name, body, dV, kV, doc, pm, an, ct, oc, od, osl, efd, lk⟩ := T.co
  obtain ⟨ccl, cdd, vs', ccs, file, tf, lkc, hvs, hfile⟩ := T.file
  obtain ⟨cl, cld, csl, hcell⟩ := T.cell
  obtain ⟨cdD, hD⟩ := T.cls
  obtain ⟨ar, hp, hp0⟩ := T.par
  have KX : K.In s.heap := e0.mod.kin.keeps fun b o e => (e0.bs b o e).1
  have lim : s.heap.NoLimit := e0.mod.nolimit.keeps fun b o e => (e0.bs b o e).1
  subst efd
  have hbd : body = .Expr (.Call (.Attribute (.Call (.Name "super" p0) [] [] p1) m apos) (e :: es) [] pos) pos' :: rest := FuncBody.stmts.inj hbd
  have hloc : ∀ y ∈ ps.zip us, scope.names.lookup y.1 = some .local := fun ⟨n, v⟩ hy => S.par n (List.of_mem_zip hy).1
  refine ks_codeAny_call_defAt (fd := PySem.W.ksFn name qual params body scope dV kV doc pm an (.ref cda) ct cc) (body := body) (binds := ps.zip us) hr.depth (KX _ _ lk) rfl lim (PySem.W.codeRec_of KX T.code) rfl hb S.nocell hloc (fun h₁ hns kp => ?_) S.co S.gen S.kind
  have I := sup_start (CX := CX) (E := E) (f := f) (qual := qual) (cd := .ref cda) (tk := s.toks + (ps.zip us).length) S hr.hd e0 (len _ _ _ _ hsp) rel hcell rfl hns kp
  have hr1 := hr.deeper (supEnv qual scope s.heap.objs.size f (.ref cda) cc)
  obtain ⟨ta, t, x, C, dx, fs, hx0, hxi, hsub, hsm, hA, hS, ht⟩ := hbody A outer s H vs Q E hr1 hsp
  have fin : ∀ {σ' : L2.St} {H' : Hp} {v : V} {u : Value} {s' : Shared}, Inv (supCx CX P w K mg base N qual scope f (.ref cda) cc A outer s H E) [] σ' H' s' → RelV v u → Q v H' → CE outer P w H s Q u s' :=
    fun {σ' H' v u s'} J rv q => ⟨v, H', J.os, J.bare, J.base, J.hok, rv, q⟩
  rw [hbd]
  obtain ⟨sw1, sw2⟩ := hsw (supEnv qual scope s.heap.objs.size f (.ref cda) cc) rfl
  obtain ⟨pl, hevl⟩ := hev (supEnv qual scope s.heap.objs.size f (.ref cda) cc) rfl
  refine ks_wpAt_execs_cons (ks_wpAt_Expr_any (ks_wpAt_MethodCall (pl := pl) ?_ hevl) sw1 sw2)
  refine ks_wpAt_super_base (f := f) (cc := cda) S.sup S.cls hmn rfl (I.kIn _ _ lk) rfl hp rfl (I.kIn _ _ lkc) rfl hvs hfile T.top ?_
  obtain ⟨mb, hmb, hbb⟩ := I.mod.blt
  refine PySem.W.ks_loadName_global S.kind S.sup (Calls.loadGlobal_builtin (mg := mg) (mb := mb) (I.mod.glob.keeps I.bk) T.nosup (hmb.keeps I.bk) ((hbb _ (by decide)).trans (show bootBuiltins "super" = some (.type "super") by decide +kernel)) ⟨rfl, ?_⟩)
  refine wpAny_loadName_free S.kind S.cls (c := cc) (by rfl) ⟨_, I.kIn _ _ hcell, rfl⟩ ?_
  have hself : (ps.zip us).reverse.lookup ar.arg = some (.ref x) := by
    obtain ⟨u, hu, rv⟩ := rel.get hx0
    obtain rfl : u = Value.ref x := rv
    exact rev_zip (by rw [← S.pre]; exact S.nd.sublist (List.take_sublist _ _)) (by rw [← len _ _ _ _ hsp]; exact rel.length) hp0 hu
  refine wpAny_loadName_local S.kind (S.par _ (List.mem_of_getElem? hp0)) hns hself ?_
  obtain ⟨oD, hD1, hD2⟩ := clsIn_at I.kIn hD
  obtain ⟨mA, OM, _, _, _, _⟩ := ins_get I.hok hxi
  obtain ⟨od', IA, _⟩ := OM.look
  refine ks_wpAny_isType_cls hD1 hD2 ⟨rfl, ?_⟩
  refine ks_wpAny_call_super hD1 hD2 IA.at_ IA.cls (fun c e => ?_) (PySem.W.looks_mroIn I.kIn hsub) (fun h2 e2 k2 => ?_)
  · have z := IA.no
    unfold PySem.W.notCls at z
    rw [e] at z
    exact Bool.noConfusion z
  have I2 := I.kept (t' := s.toks + (ps.zip us).length) k2
  cases hc : PySem.W.clsIn K C with
  | none =>
    unfold PySem.W.ks_superIn at hsm
    rw [hc] at hsm
    cases hsm
  | some cd =>
    unfold PySem.W.ks_superIn at hsm
    rw [hc] at hsm
    obtain ⟨of, hof, hofc⟩ : ∃ of, h2.get? f2 = some of ∧ of.cls = .type "function" := by
      have z : (K.lookup f2).map (·.cls) = some (.type "function") := eq_of_beq hf2'
      cases q : K.lookup f2 with
      | none => rw [q] at z; cases z
      | some of => rw [q] at z; exact ⟨of, I2.kIn _ _ q, Option.some.inj z⟩
    have IA2 : h2.get? x = some (PySem.W.instObj C dx) := k2 _ _ IA.at_
    have hxC : x ≠ C := by
      rintro rfl
      obtain ⟨oC, q1, q2⟩ := clsIn_at I2.kIn hc
      rw [show h2.get? x = _ from IA2] at q1
      cases q1
      cases q2
    refine ks_wpAny_getMethod_super (X := I2.kIn) e2 (PySem.W.looks_opaque I2.kIn T.noany) (l₀ := cd.mro) (fun A Q E s k q => wpAny_bind ((PySem.W.looks_clsIn I2.kIn hc) A _ E s k (wpAny_pure q))) rfl hsm hof hofc hxC hmn ?_
    have I3 := I2.kept (t' := s.toks + (ps.zip us).length + 1) (h' := h2.push { cls := .type "method", data := .fields #[.ref f2, .ref x] }) fun b u e => Heap.get?_push_of_some _ e
    have gq : (h2.push { cls := .type "method", data := .fields #[.ref f2, .ref x] }).get? h2.objs.size = some (PySem.W.methodObj (.ref f2) (.ref x)) := Heap.get?_push_size _ rfl
    have I4 : Inv (supCx CX P w K mg base N qual scope f (.ref cda) cc A outer s H E) [(h2.objs.size, PySem.W.methodObj (.ref f2) (.ref x))] (L2.start N vs) H _ := I3.pins_of fun p hp => by
      have e : p = (h2.objs.size, PySem.W.methodObj (.ref f2) (.ref x)) := by simpa using hp
      subst e
      exact ⟨gq, I2.hok.fresh (Nat.le_refl _), Nat.ne_of_gt I2.lt, I2.nofs (Nat.le_refl _), fun v z => by cases z⟩
    refine PySem.W.callWith_M (h₀ := base) (L := s.heap.objs.size) (news := [(h2.objs.size, PySem.W.methodObj (.ref f2) (.ref x))]) (g := f2) (self := .ref x) e0.mod.kin (fun p hp => ?_) List.mem_cons_self hf2 (thn (hA.run pos _ _ _ _ _ I4 ht) fun ws s5 ⟨vs5, H5, I5, r5, q5⟩ => ⟨⟨(I5.pin _ (List.mem_append_right _ List.mem_cons_self)).1, I5.kIn⟩, ?_⟩) (hst _) (hpl _)
    · have e : p = (h2.objs.size, PySem.W.methodObj (.ref f2) (.ref x)) := by simpa using hp
      subst e
      exact ⟨gq, Nat.ne_of_gt I2.lt, Heap.get?_none_of_le (Nat.le_trans e0.bsz I2.sz)⟩
    have hl : (Value.ref x :: ws).length = ps2.length := by
      rw [← F2.len _ _ _ _ q5]
      simp [r5.length]
    have rc := F2.run _ _ s5 H5 ⟨.ref x :: ws, []⟩ (.ref x :: ws) (.ref x :: vs5) _ E hr1 I5.env0 (by simpa using hb2 s5 (.ref x :: ws) I5.kIn (by simpa using hl)) (.cons rfl r5) q5
    refine wpAny_call (ks_codeAny_call_bound (I5.pin _ (List.mem_append_right _ List.mem_cons_self)).1 (codeAny_mono rc fun r s' hq => ?_))
    cases r with
    | error er => exact hx A outer s H E [(h2.objs.size, PySem.W.methodObj (.ref f2) (.ref x))] (L2.start N vs) H5 s5 er s' I5 hq
    | ok fl =>
      cases fl with
      | next => exact False.elim hq
      | brk => exact False.elim hq
      | cont => exact False.elim hq
      | ret u =>
        obtain ⟨v6, H6, I6, _, q6⟩ := I5.after hq
        have I7 : Inv (supCx CX P w K mg base N qual scope f (.ref cda) cc A outer s H E) [] (L2.start N vs) H6 s' := I6.pins_of fun p hp => absurd hp (by simp)
        refine wpAt_of_wpAny (wpAny_mono (hS.run [] s' _ H6 _ I7 q6) (fun fl s8 hs => ?_) fun _ _ z => z)
        cases fl with
        | ret u8 =>
          obtain ⟨v, σ', H', J, rv, q⟩ := hs
          exact fin J rv q
        | next =>
          obtain ⟨σ', H', J, q⟩ := hs
          exact fin (v := V.non) (u := Value.none) J rfl q
        | brk =>
          obtain ⟨_, _, _, q⟩ := hs
          exact False.elim q
        | cont =>
          obtain ⟨_, _, _, q⟩ := hs
          exact False.elim q
end
end WkS
namespace WkL
open PySem PySem.Spec PyProof.Rows L2 LamX
/-! ### max(e, key=lambda u: body) -/
/-- the lambda's names: its one parameter, captured ones, globals -/
structure Lam1 (sc scope : Scope) (u : Str) : Prop where
  kind : scope.kind = .function
  co : scope.isCoroutine = false
  gen : scope.isGenerator = false
  nocell : ∀ y ∈ scope.names, y.2 ≠ .cell
  one : ∀ y ∈ scope.names, y.2 = .local → y.1 = u
  par : scope.names.lookup u = some .local
  free : ∀ y ∈ scope.names, y.2 = .free → sc.names.lookup y.1 = some .cell ∨ sc.names.lookup y.1 = some .free
section
variable {X : Cx} {pins : List (Addr × Obj)} {σ : L2.St} {H : Hp} {s : Shared}
theorem Lam1.has {scope : Scope} {u : Str} (L : Lam1 X.env.scope scope u) (ok : X.Ok) : ∀ y ∈ scope.names, y.2 = .free → ∃ c, X.env.cells.lookup y.1 = some c := fun y hy e =>
  (L.free y hy e).elim (fun k => ok.has _ (.inl k)) (fun k => ok.has _ (.inr k))
theorem lam1_start {A : Around} {outer : List Env} {E : XK} {scope : Scope} {f c' : Addr} {h₁ : Heap} {tk i : Nat} {u : Str} {v : V} {uv : Value} (I : Inv X pins σ H s) (L : Lam1 X.env.scope scope u) (hi : X.N[i]? = some u) (hN : X.N.Nodup) (rv : RelV v uv)
    (e0 : Env0 X.prog X.w X.K X.mg X.base A outer s H) (hd : A.handled = none) (hns : h₁.Ns s.heap.objs.size fun y => ([(u, uv)] : List (Str × Value)).reverse.lookup y) (kp : ∀ b o, s.heap.get? b = some o → h₁.get? b = some o) :
    Inv (lamCx X A outer s H E scope f c') [] (σ.set i (some v)) H { s with heap := h₁, toks := tk } := by
  have back : ∀ {y c}, (cloFrom X.env.cells scope.names []).lookup y = some c → X.env.cells.lookup y = some c := by
    intro y c e
    rcases cloFrom_mem (PySem.mem_of_lookup e) with z | ⟨h1, h2⟩
    · cases z
    · obtain ⟨c1, hc⟩ := L.has I.ok _ h1 rfl
      have hc : X.env.cells.lookup y = some c1 := hc
      have e2 : c = c1 := by rw [h2, hc] <;> rfl
      exact e2 ▸ hc
  have forth : ∀ {y}, scope.names.lookup y = some .free → ∃ c, (cloFrom X.env.cells scope.names []).lookup y = some c := by
    intro y hl
    exact mem_lookup (cloFrom_has (cells := X.env.cells) (acc := []) (PySem.mem_of_lookup hl))
  have keepC : ∀ {c : Addr} {w' : Option Value}, s.heap.IsCell c w' → h₁.IsCell c w' := fun ⟨o, ho, q⟩ => ⟨o, kp _ _ ho, q⟩
  have noE : ∀ b : Addr, b ∉ (lamCx X A outer s H E scope f c').ex := fun b z => absurd (show b ∈ ([] : List Addr) from z) (by simp)
  refine ⟨⟨e0.mod, L.kind, rfl, rfl, Nat.le_refl _, fun y z c a b => I.ok.inj y z c (back a) (back b), fun y hy => ?_, fun y c z _ => ?_, fun _ => hd, Around.frames_deeper e0.frames, .inr ⟨rfl, rfl⟩, fun b z => absurd z (noE b), e0.bs, e0.bsz, fun b _ _ => noE b,
      fun b z => absurd z (noE b), e0.funs, e0.frf⟩,
    rfl, e0.bare, Un.kept kp, ⟨_, hns, fun j y x e1 e2 e3 => ?_⟩, fun y c e => ?_, e0.hok.fresh (Nat.le_refl _), fun y c e => I.freeC y c (back e), fun q hq => absurd (show q ∈ ([] : List (Addr × Obj)) ++ [] from hq) (by simp), e0.hok.kept kp, ?_⟩
  · have hy : scope.names.lookup y = some .cell ∨ scope.names.lookup y = some .free := hy
    rcases hy with hy | hy
    · exact absurd rfl (L.nocell _ (PySem.mem_of_lookup hy))
    · exact forth hy
  · have z : false = true := z
    cases z
  · have e1 : X.N[j]? = some y := e1
    have e3 : Vis scope y := e3
    rcases e3 with k | k | k
    · have ey : y = u := L.one _ (PySem.mem_of_lookup k) rfl
      subst ey
      have ej : j = i := nodup_ix hN e1 hi
      subst ej
      have hlt : j < σ.length := by
        rw [I.len]
        exact (List.getElem?_eq_some_iff.mp hi).1
      rw [List.getElem?_set_self hlt] at e2
      cases e2
      refine ⟨uv, rv, .inl ⟨k, ?_⟩⟩
      show ([(y, uv)] : List (Str × Value)).reverse.lookup y = some uv
      simp [List.lookup]
    · exact absurd rfl (L.nocell _ (PySem.mem_of_lookup k))
    · have hne : i ≠ j := fun z => by
        subst z
        rw [hi] at e1
        cases e1
        rw [L.par] at k
        cases k
      rw [List.getElem?_set_ne hne] at e2
      obtain ⟨m, hn, hl⟩ := I.loc
      have hvis : Vis X.env.scope y := (L.free _ (PySem.mem_of_lookup k) rfl).elim (fun k => .inr (.inl k)) (fun k => .inr (.inr k))
      obtain ⟨w', r, q⟩ := hl j y x e1 e2 hvis
      obtain ⟨c2, h2⟩ := forth k
      refine ⟨w', r, .inr ⟨.inr k, c2, h2, ?_⟩⟩
      rcases q with ⟨k', _⟩ | ⟨_, c3, e', z⟩
      · have k' : X.env.scope.names.lookup y = some .local := k'
        rcases L.free _ (PySem.mem_of_lookup k) rfl with k2 | k2 <;> rw [show X.env.scope.names.lookup y = _ from k2] at k' <;> cases k'
      · rw [back h2] at e'
        cases e'
        exact keepC z
  · obtain ⟨w', z⟩ := I.cell y c (back e)
    exact ⟨w', keepC z⟩
  · show (σ.set i (some v)).length = X.N.length
    rw [List.length_set]
    exact I.len
theorem cx_false {P : Program} {w : World} {outer : List Env} {u : Value} {s s' : Shared} {H : Hp} (h : L2.CX P w outer H s (fun _ _ _ => False) u s') : False := by
  obtain ⟨_, _, _, _, _, _, _, _, _, _, _, _, z⟩ := h
  exact z
/-- the lambda is called from within a built-in -/
theorem lam1_call {scope : Scope} {params : Arguments} {body : Expr} {f c' : Addr} {pm ctv uv : Value} {u : Str} {v : V} {i k : Nat} {tb : TE} {Q : VK} (I : Inv X pins σ H s) (L : Lam1 X.env.scope scope u) (hi : X.N[i]? = some u) (hN : X.N.Nodup) (rv : RelV v uv)
    (hf : s.heap.get? f = some (PySem.W.kla_obj "<lambda>" (X.env.qual ++ "<lambda>") params body scope (cloFrom X.env.cells scope.names []) pm c' ctv)) (hc : H c' = some (CodeO c' (X.env.qual ++ "<lambda>"))) (hr : Room (k + 2) X.A)
    (hbind : bindArgs (PySem.W.kla_fn "<lambda>" (X.env.qual ++ "<lambda>") params body scope (cloFrom X.env.cells scope.names []) pm (.ref c') ctv) ⟨[uv], []⟩ = pure [(u, uv)])
    (hbody : ∀ (A : Around) (outer : List Env) (s : Shared) (H : Hp), Room k (A.deeper (lamEnv X scope s.heap.objs.size f c')) → PE (lamCx X A outer s H (fun _ _ _ => False) scope f c') body tb)
    (ht : tb (σ.set i (some v)) H Q) {E : Value → Shared → Prop} : wpAny (model X.prog X.w) X.A.in1 (call (.ref f) [uv]) (EP X pins σ Q) E s := by
  obtain ⟨⟨oc, vs, t, hoc, hdc, hvc⟩, _, _⟩ := I.hok c' _ hc
  have e0 : Env0 X.prog X.w X.K X.mg X.base X.A.in1 X.stack s H := I.env0.in1
  have rc : codeAny (model X.prog X.w) X.A.in1 (.call (.ref f) ⟨[uv], []⟩) (CR (L2.CX X.prog X.w) X.stack X.prog X.w H s Q (fun _ _ _ => False)) s := by
    refine PySem.W.kla_callFunE hr.in1.depth hf rfl L.co L.gen rfl ⟨c', oc, vs, t, rfl, hoc, hdc, hvc⟩ ?_
    rw [hbind]
    refine wpAny_pure (wpAny_newFunctionEnv L.nocell (fun y hy => ?_) (fun h₁ hns hsb => ⟨I.nolimit.fresh _ hsb, ?_⟩) L.kind)
    · have e : y = (u, uv) := by simpa using hy
      rw [e]
      exact L.par
    · have kp : ∀ b o, s.heap.get? b = some o → h₁.get? b = some o := fun b o e => hsb.extBut b o (Nat.ne_of_lt (Heap.lt_size e)) (Heap.get?_push_of_some _ e)
      have J := lam1_start (E := fun _ _ _ => False) (f := f) (c' := c') (tk := s.toks + ([(u, uv)] : List (Str × Value)).length) I L hi hN rv e0 hr.in1.hd hns kp
      refine PySem.W.kla_codeExpr (wpAny_mono ((hbody _ _ s H (hr.in1.deeper _)).run [] _ _ H Q J ht) (fun z s' hq => ?_) fun e s' hq => hq)
      obtain ⟨w', H', J', rz, q⟩ := hq
      exact ⟨w', H', J'.os, J'.bare, J'.base, J'.hok, rz, q⟩
  refine wpAny_call (codeAny_mono rc fun r s' hq => ?_)
  cases r with
  | error e => exact (cx_false hq).elim
  | ok fl =>
    cases fl with
    | ret z => exact I.after hq
    | next => exact False.elim hq
    | brk => exact False.elim hq
    | cont => exact False.elim hq
end
section
variable {X : Cx} {pins : List (Addr × Obj)} {σ : L2.St} {H : Hp} {s : Shared}
/-- a pinned record of ours is written -/
theorem repin {a : Addr} {o o' : Obj} {h' : Heap} {t' : Nat} (I : Inv X ((a, o) :: pins) σ H s) (k : ∀ b u, b ≠ a → s.heap.get? b = some u → h'.get? b = some u) (ha : h'.get? a = some o') (h0 : X.s_0.heap.objs.size ≤ a) (hne : ∀ p ∈ X.pn ++ pins, p.1 ≠ a) (hd : ∀ v, o'.data ≠ .cell v) :
    Inv X ((a, o') :: pins) σ H { s with heap := h', toks := t' } := by
  obtain ⟨g1, g2, g3, g4, g5⟩ := I.pin (a, o) (List.mem_append_right _ List.mem_cons_self)
  have J : Inv X pins σ H s := I.pins_of fun p hp => I.pin p (List.mem_append_right _ (List.mem_cons_of_mem _ hp))
  have J2 := J.turned (t' := t') k g2 g3 (.inr h0) (fun x c e z => by
    obtain ⟨v, ob, ho, hc⟩ := J.cell x c e
    rw [z, g1] at ho
    cases ho
    exact g5 v hc) hne
  refine J2.pins_of fun p hp => ?_
  rcases List.mem_cons.mp hp with rfl | hp
  · exact ⟨ha, g2, g3, g4, hd⟩
  · exact J2.pin p (List.mem_append_right _ hp)
theorem swap_pins {p q : Addr × Obj} (I : Inv X (p :: q :: pins) σ H s) : Inv X (q :: p :: pins) σ H s := I.pins_of fun r hr => I.pin r (List.mem_append_right _ (by
  rcases List.mem_cons.mp hr with rfl | hr
  · simp
  · rcases List.mem_cons.mp hr with rfl | hr
    · simp
    · simp [hr]))
theorem drop_pin {p : Addr × Obj} (I : Inv X (p :: pins) σ H s) : Inv X pins σ H s := I.pins_of fun r hr => I.pin r (List.mem_append_right _ (List.mem_cons_of_mem _ hr))
/-- the first greatest of some numbers -/
def FirstMax (ks : List Int) (i : Nat) : Prop := ∃ n, ks[i]? = some n ∧ ∀ (j : Nat) (m : Int), ks[j]? = some m → m ≤ n ∧ (j < i → m < n)
theorem max_loop {xs : List V} {ks : List Int} {l q S J : Addr} {oq : Obj} {R : Result → Shared → Prop} (hh : X.A.handled = none) (hl : H l = some (.lst xs)) (hk : ks.length = xs.length)
    (hJ0 : X.s_0.heap.objs.size ≤ J) (hS0 : X.s_0.heap.objs.size ≤ S) (hSJ : S ≠ J) (hpJ : ∀ p ∈ X.pn ++ ((q, oq) :: pins), p.1 ≠ J) (hpS : ∀ p ∈ X.pn ++ ((q, oq) :: pins), p.1 ≠ S)
    (turn : ∀ (pins' : List (Addr × Obj)) (s : Shared) (i : Nat) (v : V) (u : Value) (n : Int), (q, oq) ∈ pins' → Inv X pins' σ H s → xs[i]? = some v → RelV v u → ks[i]? = some n →
      wpAny (model X.prog X.w) X.A.in1 (call (.ref q) [u]) (EP X pins' σ fun x H' => x = .int n ∧ H' = H) (fun _ _ => False) s)
    (hR : ∀ (s : Shared) (i : Nat) (v : V) (u : Value), Inv X pins σ H s → xs[i]? = some v → RelV v u → FirstMax ks i → R (.ok (.ret u)) s) :
    ∀ (r j i : Nat) (s : Shared) (v : V) (vb : Value) (n : Int) (tb : Tok) (c : Nat) (oJ : Obj), xs.length - (j + 1) = r → j + 1 ≤ xs.length → Inv X ((S, seqObj "list" #[vb, .int n tb] c) :: (J, oJ) :: (q, oq) :: pins) σ H s →
      oJ.cls = .type "list_iterator" → (∀ h : Heap, h.get? J = some oJ → h.IsListIter J l (j + 1)) → xs[i]? = some v → RelV v vb → ks[i]? = some n → i ≤ j → (∀ (j' : Nat) (m : Int), j' ≤ j → ks[j']? = some m → m ≤ n ∧ (j' < i → m < n)) →
      codeAny (model X.prog X.w) X.A (.builtin "max.loop" ⟨[.ref J, .ref q, .ref S], []⟩) R s := by
  have nm : (toString "max" ++ toString ".loop" : String) = "max.loop" := by decide
  have mem2 : ∀ {o : Obj} (p : Addr × Obj), p ∈ X.pn ++ ((J, o) :: (q, oq) :: pins) → p.1 ≠ S := fun p hp => by
    rcases List.mem_append.mp hp with z | z
    · exact hpS p (List.mem_append_left _ z)
    · rcases List.mem_cons.mp z with rfl | z
      · exact Ne.symm hSJ
      · exact hpS p (List.mem_append_right _ z)
  have mem1 : ∀ {o : Obj} (p : Addr × Obj), p ∈ X.pn ++ ((S, o) :: (q, oq) :: pins) → p.1 ≠ J := fun p hp => by
    rcases List.mem_append.mp hp with z | z
    · exact hpJ p (List.mem_append_left _ z)
    · rcases List.mem_cons.mp z with rfl | z
      · exact hSJ
      · exact hpJ p (List.mem_append_right _ z)
  intro r
  induction r with
  | zero =>
    intro j i s v vb n tb c oJ hr hj I hcl hit hv rv hn hij hbest
    have hin : j + 1 = xs.length := by omega
    obtain ⟨s1, _⟩ := I.pin (S, seqObj "list" #[vb, .int n tb] c) (by simp)
    obtain ⟨j1, j2, _⟩ := I.pin (J, oJ) (by simp)
    obtain ⟨_, its, nn, rs, hob⟩ := I.hok l _ hl
    have hlJ : l ≠ J := ne_of_none hl j2
    have W := Walks.list (prog := X.prog) (w := X.w) (A := X.A.in1) hh J l hlJ its.toArray
    have hsz : its.toArray.size = xs.length := by rw [List.size_toArray]; exact rs.length.symm
    refine codeAny_builtin PySem.F.entry_max_loop ?_
    rw [Around.under_plainId PySem.F.plain_max_loop _]
    show wpAny _ X.A.in1 (seqItems? (.ref S) >>= _) _ _ _
    refine wpAny_bind (wpAny_seqItems s1 rfl ?_)
    show wpAny _ X.A.in1 (tryCatch (pyNext (.ref J)) _ >>= _) _ _ _
    refine wpAny_bind (wpAny_tryCatch (W.done _ _ _ ⟨by rw [hsz, ← hin]; exact hit _ j1, ⟨_, hob, rfl, _, rfl⟩⟩ fun h' tk' hk' => ?_))
    have I1 : Inv X ((q, oq) :: (S, seqObj "list" #[vb, .int n tb] c) :: pins) σ H { s with heap := h', toks := tk' } := by
      have I0 := swap_pins I
      have I0 : Inv X ((S, seqObj "list" #[vb, .int n tb] c) :: (q, oq) :: pins) σ H s := drop_pin I0
      have z := I0.turned (t' := tk') (h' := h') (it := J) (fun b o hb e => hk' b o (by simpa using hb) e) j2 (I.pin (J, oJ) (by simp)).2.2.1 (.inr hJ0) (fun x c e z => by
        obtain ⟨w', ob, ho, hc⟩ := I.cell x c e
        rw [z, j1] at ho
        cases ho
        exact (I.pin (J, oJ) (by simp)).2.2.2.2 w' hc) mem1
      exact swap_pins z
    have hS' := (I1.pin (S, seqObj "list" #[vb, .int n tb] c) (by simp)).1
    show wpAny _ X.A.in1 (updateSeq S (fun _ => #[]) >>= _) _ _ _
    refine wpAny_bind ?_
    refine wpAny_updateSeq hS' rfl (wpAny_bind (wpAny_letGo (wpAny_pure ?_)))
    have s2 := Heap.SameBut.update h' S (Obj.mapSeq fun _ => (#[] : Array Value))
    have I2 := repin (t' := tk') (o' := seqObj "list" #[] (if ((#[] : Array Value)).size == (#[vb, .int n tb] : Array Value).size then c else c + 1)) (swap_pins I1) (fun b u hb e => s2.extBut b u hb e) (get?_update_seq hS' fun _ => #[]) hS0 (fun p hp => hpS p hp) (fun v z => by cases z)
    refine hR _ i v vb (drop_pin (drop_pin I2)) hv rv ⟨n, hn, fun j' m hm => ?_⟩
    have hjl := (List.getElem?_eq_some_iff.mp hm).1
    exact hbest j' m (by omega) hm
  | succ r ih =>
    intro j i s v vb n tb c oJ hr hj I hcl hit hv rv hn hij hbest
    have hlt : j + 1 < xs.length := by omega
    obtain ⟨s1, _⟩ := I.pin (S, seqObj "list" #[vb, .int n tb] c) (by simp)
    obtain ⟨j1, j2, _⟩ := I.pin (J, oJ) (by simp)
    obtain ⟨_, its, nn, rs, hob⟩ := I.hok l _ hl
    have hlJ : l ≠ J := ne_of_none hl j2
    have W := Walks.list (prog := X.prog) (w := X.w) (A := X.A.in1) hh J l hlJ its.toArray
    have hsz : its.toArray.size = xs.length := by rw [List.size_toArray]; exact rs.length.symm
    refine codeAny_builtin PySem.F.entry_max_loop ?_
    rw [Around.under_plainId PySem.F.plain_max_loop _]
    show wpAny _ X.A.in1 (seqItems? (.ref S) >>= _) _ _ _
    refine wpAny_bind (wpAny_seqItems s1 rfl ?_)
    show wpAny _ X.A.in1 (tryCatch (pyNext (.ref J)) _ >>= _) _ _ _
    refine wpAny_bind (wpAny_tryCatch (W.item (j + 1) _ _ _ (by rw [hsz]; exact hlt) ⟨hit _ j1, ⟨_, hob, rfl, _, rfl⟩⟩ fun u h' tk' hP hst hk' => ?_))
    have hu : its[j + 1]? = some u := by simpa using hP
    obtain ⟨oJ', hoJ, hoc, hod⟩ := id hst.1
    have I1 := repin (t' := tk') (o' := oJ') (swap_pins I) (fun b o hb e => hk' b o (by simpa using hb) e) hoJ hJ0 mem1 (fun v z => by rw [hod] at z; cases z)
    obtain ⟨x, hx⟩ : ∃ x, xs[j + 1]? = some x := ⟨_, List.getElem?_eq_getElem hlt⟩
    obtain ⟨u', hu', rx⟩ := rs.get hx
    rw [hu] at hu'
    cases hu'
    obtain ⟨m, hm⟩ : ∃ m, ks[j + 1]? = some m := ⟨_, List.getElem?_eq_getElem (by omega)⟩
    show wpAny _ X.A.in1 (tryCatch (holding [u] (call (.ref q) [u])) _ >>= _) _ _ _
    refine wpAny_bind (wpAny_tryCatch (wpAny_holding (wpAny_mono (turn _ _ (j + 1) x u m (by simp) I1 hx rx hm) (fun y s' he => ?_) fun _ _ hF => hF.elim)))
    obtain ⟨w', H', I2, ry, e1, e2⟩ := he
    subst e1
    subst e2
    obtain ⟨t2, rfl⟩ := ry
    have I2 := swap_pins I2
    obtain ⟨s3, _⟩ := I2.pin (S, seqObj "list" #[vb, .int n tb] c) (by simp)
    show wpAny _ X.A.in1 (tryCatch (holding [u, .int m t2] (richCompare .Gt (.int m t2) (.int n tb) >>= _)) _ >>= _) _ _ _
    refine wpAny_bind (wpAny_tryCatch (wpAny_holding (wpAny_bind (CmpOf.ints_gt (prog := X.prog) (w := X.w) (A := X.A.in1) (P := fun i v => ∃ t, v = .int (if i = 0 then m else n) t) (fun i => if i = 0 then m else n) (fun i v h => h) 0 1 _ _ _ _ _ ⟨t2, rfl⟩ ⟨tb, rfl⟩ ?_))))
    refine wpAny_bind (wpAny_holding (wpAny_truthy_bool ?_))
    refine wpAny_bind (wpAny_letGo (wpAny_pure ?_))
    by_cases hb : n < m
    · have hb1 : decide ((if (0 : Nat) = 0 then m else n) > (if (1 : Nat) = 0 then m else n)) = true := by simpa using hb
      rw [if_pos hb1]
      refine wpAny_bind ?_
      refine wpAny_updateSeq s3 rfl (wpAny_bind (wpAny_letGo ?_))
      rw [nm]
      have s4 := Heap.SameBut.update s'.heap S (Obj.mapSeq fun _ => #[u, .int m t2])
      have I3 := repin (t' := s'.toks) I2 (fun b u hb e => s4.extBut b u hb e) (get?_update_seq s3 fun _ => #[u, .int m t2]) hS0 mem2 (fun v z => by cases z)
      refine wpAny_pure ⟨plainId_quiet PySem.F.plain_max_loop _, ih (j + 1) (j + 1) _ x u m t2 _ oJ' (by omega) hlt I3 hoc (fun h e => ⟨oJ', e, hoc, hod⟩) hx rx hm (Nat.le_refl _) fun j' m' hj' hm' => ?_⟩
      by_cases e : j' = j + 1
      · subst e
        rw [hm] at hm'
        cases hm'
        exact ⟨Int.le_refl _, fun z => absurd z (Nat.lt_irrefl _)⟩
      · obtain ⟨z1, z2⟩ := hbest j' m' (by omega) hm'
        exact ⟨by omega, fun _ => by omega⟩
    · have hb1 : decide ((if (0 : Nat) = 0 then m else n) > (if (1 : Nat) = 0 then m else n)) = false := by simpa using hb
      rw [if_neg (fun z => Bool.noConfusion (hb1.symm.trans z))]
      refine wpAny_bind (wpAny_letGo ?_)
      rw [nm]
      refine wpAny_pure ⟨plainId_quiet PySem.F.plain_max_loop _, ih (j + 1) i _ v vb n tb _ oJ' (by omega) hlt I2 hoc (fun h e => ⟨oJ', e, hoc, hod⟩) hv rv hn (by omega) fun j' m' hj' hm' => ?_⟩
      by_cases e : j' = j + 1
      · subst e
        rw [hm] at hm'
        cases hm'
        exact ⟨by omega, fun z => by omega⟩
      · exact hbest j' m' (by omega) hm'
end
section
variable {X : Cx} {pins : List (Addr × Obj)} {σ : L2.St} {H : Hp} {s : Shared}
theorem call_maxKey {xs : List V} {ks : List Int} {l q : Addr} {oq : Obj} {Q : VK} {E : Value → Shared → Prop} (I : Inv X ((q, oq) :: pins) σ H s) (hh : X.A.handled = none) (hl : H l = some (.lst xs)) (hne : xs ≠ []) (hk : ks.length = xs.length)
    (turn : ∀ (pins' : List (Addr × Obj)) (s : Shared) (i : Nat) (v : V) (u : Value) (n : Int), (q, oq) ∈ pins' → Inv X pins' σ H s → xs[i]? = some v → RelV v u → ks[i]? = some n →
      wpAny (model X.prog X.w) X.A.in1 (call (.ref q) [u]) (EP X pins' σ fun x H' => x = .int n ∧ H' = H) (fun _ _ => False) s)
    (hQ : ∀ (i : Nat) (v : V), xs[i]? = some v → FirstMax ks i → Q v H) : wpAny (model X.prog X.w) X.A (call (.builtin "max") [.ref l] [(Str.ofString "key", .ref q)]) (EP X pins σ Q) E s := by
  have nm : (toString "max" ++ toString ".loop" : String) = "max.loop" := by decide
  have pos := List.length_pos_iff.mpr hne
  obtain ⟨_, its, nn, rs, hob⟩ := I.hok l _ hl
  refine PyProof.Rows.kmk_tree PySem.F.kind_max PySem.F.plain_max PySem.F.entry_max (PyProof.Rows.kmk_max_key _ _) ?_
  show wpAny _ X.A.in1 (Builtin.Builtins.bindParams "max" ["key", "default"] 0 ⟨[], [(Str.ofString "key", .ref q)]⟩ >>= _) _ _ s
  refine wpAny_bind (wpAny_of_eq (show Builtin.Builtins.bindParams "max" ["key", "default"] 0 ⟨[], [(Str.ofString "key", .ref q)]⟩ = pure [some (.ref q), none] from rfl) ?_)
  refine wpAny_bind (wpAny_pure ?_)
  refine wpAny_bind (wpAny_pyIter_list ⟨_, hob, rfl, _, rfl⟩ ?_)
  refine wpAny_bind (wpAny_newList ?_ (Nat.zero_le _))
  rw [nm]
  obtain ⟨J, eJ⟩ : ∃ J, J = s.heap.objs.size := ⟨_, rfl⟩
  obtain ⟨h1, eh1⟩ : ∃ h1, h1 = s.heap.push { cls := .type "list_iterator", data := .fields #[.ref l, .int 0 0] } := ⟨_, rfl⟩
  have hS : h1.objs.size = J + 1 := by rw [eh1, eJ]; exact size_push' ..
  rw [← eh1, ← eJ]
  obtain ⟨h2, eh2⟩ : ∃ h2, h2 = h1.push { cls := .type "list", data := .seq ([] : List Value).toArray } := ⟨_, rfl⟩
  rw [← eh2, hS]
  have kp : ∀ b o, s.heap.get? b = some o → h2.get? b = some o := fun b o e => by
    rw [eh2, eh1]
    exact Heap.get?_push_of_some _ (Heap.get?_push_of_some _ e)
  have gJ : h2.get? J = some { cls := .type "list_iterator", data := .fields #[.ref l, .int 0 0] } := by
    rw [eh2, eh1, eJ]
    exact Heap.get?_push_of_some _ (Heap.get?_push_size _ rfl)
  have gS : h2.get? (J + 1) = some (seqObj "list" #[] 0) := by
    rw [eh2, ← hS]
    exact Heap.get?_push_size _ rfl
  have I1 : Inv X ((q, oq) :: pins) σ H { s with heap := h2 } := I.kept (t' := s.toks) kp
  have sz : X.s_0.heap.objs.size ≤ J := eJ ▸ I.sz
  have pl : ∀ p ∈ X.pn ++ ((q, oq) :: pins), p.1 < J := fun p hp => eJ ▸ Heap.lt_size (I.pin p hp).1
  have pJ : ∀ p ∈ X.pn ++ ((q, oq) :: pins), p.1 ≠ J := fun p hp => Nat.ne_of_lt (pl p hp)
  have pS : ∀ p ∈ X.pn ++ ((q, oq) :: pins), p.1 ≠ J + 1 := fun p hp => Nat.ne_of_lt (Nat.lt_succ_of_lt (pl p hp))
  have nJ : H J = none := I.hok.fresh (by rw [eJ]; exact Nat.le_refl _)
  have nS : H (J + 1) = none := I.hok.fresh (by rw [eJ]; exact Nat.le_succ _)
  have Lt : X.env.locals < J := eJ ▸ I.lt
  have I2 : Inv X ((J + 1, seqObj "list" #[] 0) :: (J, { cls := .type "list_iterator", data := .fields #[.ref l, .int 0 0] }) :: (q, oq) :: pins) σ H { s with heap := h2 } := I1.pins_of fun p hp => by
    rcases List.mem_cons.mp hp with rfl | hp
    · exact ⟨gS, nS, Nat.ne_of_gt (Nat.lt_succ_of_lt Lt), I.nofs (by rw [eJ]; exact Nat.le_succ _), fun v z => by cases z⟩
    · rcases List.mem_cons.mp hp with rfl | hp
      · exact ⟨gJ, nJ, Nat.ne_of_gt Lt, I.nofs (by rw [eJ]; exact Nat.le_refl _), fun v z => by cases z⟩
      · exact I1.pin p (List.mem_append_right _ hp)
  refine wpAny_pure ⟨plainId_quiet PySem.F.plain_max_loop _, ?_⟩
  have hlJ : l ≠ J := ne_of_none hl nJ
  have W := Walks.list (prog := X.prog) (w := X.w) (A := X.A.in1) hh J l hlJ its.toArray
  have hsz : its.toArray.size = xs.length := by rw [List.size_toArray]; exact rs.length.symm
  refine codeAny_builtin PySem.F.entry_max_loop ?_
  rw [Around.under_plainId PySem.F.plain_max_loop _]
  show wpAny _ X.A.in1 (seqItems? (.ref (J + 1)) >>= _) _ _ _
  refine wpAny_bind (wpAny_seqItems gS rfl ?_)
  show wpAny _ X.A.in1 (tryCatch (pyNext (.ref J)) _ >>= _) _ _ _
  refine wpAny_bind (wpAny_tryCatch (W.item 0 _ _ _ (by rw [hsz]; exact pos) ⟨⟨_, gJ, rfl, rfl⟩, ⟨_, kp _ _ hob, rfl, _, rfl⟩⟩ fun u h' tk' hP hst hk' => ?_))
  have hu : its[0]? = some u := by simpa using hP
  obtain ⟨oJ', hoJ, hoc, hod⟩ := id hst.1
  have m1 : ∀ {o : Obj} (p : Addr × Obj), p ∈ X.pn ++ ((J + 1, o) :: (q, oq) :: pins) → p.1 ≠ J := fun p hp => by
    rcases List.mem_append.mp hp with z | z
    · exact pJ p (List.mem_append_left _ z)
    · rcases List.mem_cons.mp z with rfl | z
      · exact Nat.succ_ne_self J
      · exact pJ p (List.mem_append_right _ z)
  have m2 : ∀ {o : Obj} (p : Addr × Obj), p ∈ X.pn ++ ((J, o) :: (q, oq) :: pins) → p.1 ≠ J + 1 := fun p hp => by
    rcases List.mem_append.mp hp with z | z
    · exact pS p (List.mem_append_left _ z)
    · rcases List.mem_cons.mp z with rfl | z
      · exact Ne.symm (Nat.succ_ne_self J)
      · exact pS p (List.mem_append_right _ z)
  have I3 := repin (t' := tk') (o' := oJ') (swap_pins I2) (fun b o hb e => hk' b o (by simpa using hb) e) hoJ sz m1 (fun v z => by rw [hod] at z; cases z)
  obtain ⟨x, hx⟩ : ∃ x, xs[0]? = some x := ⟨_, List.getElem?_eq_getElem pos⟩
  obtain ⟨u', hu', rx⟩ := rs.get hx
  rw [hu] at hu'
  cases hu'
  obtain ⟨m, hm⟩ : ∃ m, ks[0]? = some m := ⟨_, List.getElem?_eq_getElem (by omega)⟩
  show wpAny _ X.A.in1 (tryCatch (holding [u] (call (.ref q) [u])) _ >>= _) _ _ _
  refine wpAny_bind (wpAny_tryCatch (wpAny_holding (wpAny_mono (turn _ _ 0 x u m (by simp) I3 hx rx hm) (fun y s' he => ?_) fun _ _ hF => hF.elim)))
  obtain ⟨w', H', I4, ry, e1, e2⟩ := he
  subst e1
  subst e2
  obtain ⟨t2, rfl⟩ := ry
  have I4 := swap_pins I4
  obtain ⟨s3, _⟩ := I4.pin (J + 1, seqObj "list" #[] 0) (by simp)
  show wpAny _ X.A.in1 (updateSeq (J + 1) (fun _ => #[u, .int m t2]) >>= _) _ _ _
  refine wpAny_bind ?_
  refine wpAny_updateSeq s3 rfl ?_
  rw [nm]
  have s4 := Heap.SameBut.update s'.heap (J + 1) (Obj.mapSeq fun _ => #[u, .int m t2])
  have I5 := repin (t' := s'.toks) I4 (fun b u hb e => s4.extBut b u hb e) (get?_update_seq s3 fun _ => #[u, .int m t2]) (Nat.le_succ_of_le sz) m2 (fun v z => by cases z)
  refine wpAny_pure ⟨plainId_quiet PySem.F.plain_max_loop _, max_loop (pins := pins) (q := q) (oq := oq) hh hl hk sz (Nat.le_succ_of_le sz) (Nat.succ_ne_self J) pJ pS turn (fun s i v u I hv rv hf => ⟨v, H', I, rv, hQ i v hv hf⟩) _ 0 0 _ x u m t2 _ oJ' rfl pos I5 hoc (fun h e => ⟨oJ', e, hoc, hod⟩) hx rx hm (Nat.le_refl _) fun j' m' hj' hm' => ?_⟩
  have e : j' = 0 := by omega
  subst e
  rw [hm] at hm'
  cases hm'
  exact ⟨Int.le_refl _, fun z => absurd z (Nat.lt_irrefl _)⟩
/-- max(e, key=lambda u: body): the first item with the greatest key -/
def pMaxL (T : List (Addr × Str)) (tb : TE) (i : Nat) (σ : L2.St) (Q : VK) (x : V) (H1 : Hp) : Prop := ∃ (l : Addr) (xs : List V) (ks : List Int), x = .ref l ∧ H1 l = some (.lst xs) ∧ xs ≠ [] ∧ ks.length = xs.length ∧ Tabs T H1 ∧
  ∀ H2, ExtN H1 H2 → Tabs T H2 → (∀ (j : Nat) (v : V) (n : Int), xs[j]? = some v → ks[j]? = some n → tb (σ.set i (some v)) H2 fun y H3 => y = .int n ∧ H3 = H2) ∧ ∀ (j : Nat) (v : V), xs[j]? = some v → FirstMax ks j → Q v H2
def tMaxL (T : List (Addr × Str)) (te tb : TE) (i : Nat) : TE := fun σ H Q => te σ H (pMaxL T tb i σ Q)
theorem pe_maxLam {T : List (Addr × Str)} {c P : Addr} {e : Expr} {te tb : TE} {params : Arguments} {body : Expr} {scope : Scope} {p lpos kpos pos : Pos} {u : Str} {i k : Nat} (hcalm : X.calm = true) (hg : Gl X "max") (hm : X.mg "max" = none) (ha : PA X [e] (tCons te tNil))
    (TB : TabB X.base X.mg c P) (hcode : X.env.code = .ref c) (hmT : (P, X.env.qual ++ "<lambda>") ∈ T) (hu : ∀ p ∈ T, p.1 = P → p.2 = X.env.qual ++ "<lambda>") (hr : Room (k + 2) X.A) (L : Lam1 X.env.scope scope u) (hi : X.N[i]? = some u) (hN : X.N.Nodup)
    (hdef : defaultsOf params X.env = ([], []))
    (hbind : ∀ (q : Str) (cl : List (Str × Addr)) (pm cv ctv v : Value), bindArgs (PySem.W.kla_fn "<lambda>" q params body scope cl pm cv ctv) ⟨[v], []⟩ = pure [(u, v)])
    (hbody : ∀ (A : Around) (outer : List Env) (s : Shared) (H : Hp) (f c' : Addr), Room k (A.deeper (lamEnv X scope s.heap.objs.size f c')) → PE (lamCx X A outer s H (fun _ _ _ => False) scope f c') body tb)
    (hs : backTo pos (starEach [e] X.env) = (false, eval e X.env) :: backTo pos (starEach [] X.env) := by rfl) (hpl : (backTo pos (starEach [e] X.env)).any (·.1) = false := by rfl) :
    PE X (.Call (.Name "max" p) [e] [⟨some "key", .Lambda params body scope lpos, kpos⟩] pos) (tMaxL T te tb i) := by
  refine ⟨fun pins s σ H Q I h => ?_⟩
  refine wpAny_Call_Name_kw (ld_blt (u := .builtin "max") I hg hm (by decide +kernel) ?_ (by decide) (by decide))
  refine PyProof.Rows.callWith_kw (thn (ha.run pos pins s σ H (fun vs H1 => pMaxL T tb i σ Q (vs.headD .non) H1 ∧ vs.length = 1) I ?_) fun us s1 ⟨vs, H1, I1, r1, q1, q2⟩ => ?_) hs hpl (by rfl) (by rfl)
  · show te σ H fun x H1 => pMaxL T tb i σ Q x H1 ∧ 1 = 1
    have z : (fun x H1 => pMaxL T tb i σ Q x H1 ∧ 1 = 1) = pMaxL T tb i σ Q := by
      funext x H1
      simp
    rw [z]
    exact h
  · cases r1 with
    | nil => cases q2
    | cons r r' =>
      cases r' with
      | cons _ _ => cases q2
      | nil =>
        obtain ⟨l, xs, ks, ex, hl, hne, hk, hT, q⟩ := q1
        have ex : _ = V.ref l := ex
        subst ex
        obtain rfl := (show _ = Value.ref l from r)
        show wpAny _ _ (evalAll [do let v ← eval (.Lambda params body scope lpos) X.env; standAt pos; pure v]) _ _ _
        refine wpAny_evalAll_cons (wpAny_bind (lam_make2 I1 TB hcode hmT hu hT hdef (L.has I1.ok) fun f c' pm ctv H2 s2 I2 eN T2 hf hfn hfr hco => wpAny_bind (wpAny_standAt (wpAny_pure (wpAny_evalAll_nil ?_)))))
        obtain ⟨q1, q2⟩ := q H2 eN T2
        have hl2 : H2 l = some (.lst xs) := eN _ _ hl (fun ps z => by cases z)
        have I3 : Inv X ((f, PySem.W.kla_obj "<lambda>" (X.env.qual ++ "<lambda>") params body scope (cloFrom X.env.cells scope.names []) pm c' ctv) :: pins) σ H2 s2 := I2.pins_of fun p hp => by
          rcases List.mem_cons.mp hp with rfl | hp
          · refine ⟨hf, hfn, fun z => ?_, fun z => ?_, fun v z => by cases z⟩
            · obtain ⟨m, ⟨o, es, ep, ho, hd, _⟩, _⟩ := I2.loc
              have z : f = X.env.locals := z
              rw [← z, hf] at ho
              cases ho
              cases hd
            · rcases I2.ok.stk with e' | ⟨e', _⟩
              · exact hfr (by rw [e']; exact z)
              · refine hfr ?_
                rw [e']
                unfold frs
                rw [List.filterMap_cons]
                split
                · exact z
                · exact List.mem_cons_of_mem _ z
          · exact I2.pin p (List.mem_append_right _ hp)
        refine call_maxKey I3 (I2.ok.hd hcalm) hl2 hne hk (fun pins' s i' v u' n hq J hv rv hn => ?_) q2
        have hc2 := hco
        exact thn (lam1_call (Q := fun y H3 => y = .int n ∧ H3 = H2) J L hi hN rv (J.pin _ (List.mem_append_right _ hq)).1 hc2 hr (hbind _ _ _ _ _ _) (fun A outer s H => hbody A outer s H f c') (q1 i' v n hv hn)) fun a s hq => hq
end
/-! ### a def whose code object is known -/
def CodeIs (K : PySem.W.Frag) (f c : Addr) : Prop := ∀ (oc : Value) (od : Option Addr) (fd : FuncData) (osl : Array (Option Value)), K.lookup f = some ⟨oc, od, .func fd, osl⟩ → fd.code = .ref c
section
variable {P : Program} {w : World} {K : PySem.W.Frag} {mg : Str → Option Value} {base : Heap} {CX : CXT} {k : Nat} {f c : Addr} {fd : FuncData} {ps N : List Str} {sp : Sp} {x qual : Str} {params : Arguments} {body : List Stmt} {scope : Scope} {dvs : List V} {kws : List (Str × V)}
theorem okC (F : FunD K x qual params body scope dvs kws f fd) (S : FnScope N ps scope) (hc : CodeIs K f c) (len : ∀ vs H Q E, sp vs H Q E → vs.length = ps.length)
    (hbody : ∀ (A : Around) (outer : List Env) (s : Shared) (H : Hp) (vs : List V) (Q : VK) (E : XK), Room k (A.deeper (envOfC qual scope s.heap.objs.size f (.ref c))) → sp vs H Q E →
      ∃ t, PSs (cxOf CX P w K mg base N qual scope f (.ref c) A outer s H E) body t ∧ t { nx := fun _ H' => Q .non H', rt := Q } (L2.start N vs) H) : FnOk P w K mg base CX (k + 1) f fd ps sp := by
  obtain ⟨oc, od, dV, kV, doc, pm, an, cdv, ct, osl, rfl, lk, hcd, _, _⟩ := F.ex
  have e : cdv = .ref c := hc _ _ _ _ lk
  subst e
  refine ⟨len, fun A outer s H args us vs Q E hr e0 hb rel hsp => ?_⟩
  exact run_ofS lk hcd S hr e0 hb rel (len _ _ _ _ hsp) fun hr' => hbody A outer s H vs Q E hr' hsp
end
end WkL
namespace WkJ
open PySem PySem.Spec PyProof.Rows L2 LamX
/-! ### defs by where they lie -/
abbrev FnA : Type := Option (Str × Str × Arguments × FuncBody × Scope × Addr × List Str × Addr)
def fnA (K : PySem.W.Frag) (a : Addr) : FnA := match K.lookup a with
  | some ⟨_, _, .func fd, _⟩ => some (fd.name, fd.qualname, fd.params, fd.body, fd.scope, fd.globals, fd.closure.map (·.1), fd.builtins)
  | _ => none
structure DefA where
  at_ : PySem.W.Frag → Addr
  name : Str
  qual : Str
  params : Arguments
  body : List Stmt
  scope : Scope
  clo : List Str := []
  dfl : List He.Dv := []
  kwd : List (Str × He.Dv) := []
def DefA.val (d : DefA) : FnA := some (d.name, d.qual, d.params, .stmts d.body, d.scope, mainGlobals, d.clo, builtinsNs)
def DefA.dvs (K : PySem.W.Frag) (d : DefA) : List V := d.dfl.map (He.Dv.v K)
def DefA.kws (K : PySem.W.Frag) (d : DefA) : List (Str × V) := d.kwd.map fun q => (q.1, q.2.v K)
def DefA.ok (K : PySem.W.Frag) (d : DefA) : Bool := PySem.W.keepIn K (.ref (d.at_ K)) && (match K.lookup (d.at_ K) with
  | some ⟨_, _, .func fd, _⟩ => PySem.W.codeIn K fd.code d.qual && (He.dflB K fd.defaults (d.dvs K) && He.kwdB K fd.kwdefaults (d.kws K))
  | _ => false)
/-- such a def, its closure told -/
structure FunC (K : PySem.W.Frag) (d : DefA) (fd : FuncData) : Prop where
  ex : ∃ (oc : Value) (od : Option Addr) (dV kV doc pm : Value) (an : Option Addr) (cdv ct : Value) (osl : Array (Option Value)) (cl : List (Str × Addr)),
    fd = ⟨d.name, d.qual, d.params, .stmts d.body, d.scope, mainGlobals, cl, dV, kV, doc, pm, an, cdv, ct, builtinsNs⟩ ∧ cl.map (·.1) = d.clo ∧ K.lookup (d.at_ K) = some ⟨oc, od, .func fd, osl⟩ ∧ PySem.W.codeIn K cdv d.qual = true ∧ DflV K dV (d.dvs K) ∧ KwdV K kV (d.kws K)
  kp : PySem.W.keepIn K (.ref (d.at_ K)) = true
theorem DefA.funC {K : PySem.W.Frag} {d : DefA} (e : fnA K (d.at_ K) = d.val) (c : d.ok K = true) : ∃ fd, FunC K d fd := by
  obtain ⟨kp, c2⟩ := He.ba c
  unfold fnA at e
  cases q : K.lookup (d.at_ K) with
  | none =>
    rw [q] at c2
    cases c2
  | some o =>
    obtain ⟨oc, od, dt, osl⟩ := o
    rw [q] at c2 e
    cases dt with
    | func fd =>
      obtain ⟨n1, n2, n3, n4, n5, n6, n7, n8, n9, n10, n11, n12, n13, n14, n15⟩ := fd
      have e2 : (some (n1, n2, n3, n4, n5, n6, n7.map (·.1), n15) : FnA) = some (d.name, d.qual, d.params, .stmts d.body, d.scope, mainGlobals, d.clo, builtinsNs) := e
      simp only [Option.some.injEq, Prod.mk.injEq] at e2
      obtain ⟨h1, h2, h3, h4, h5, h6, h7, h8⟩ := e2
      subst h1 h2 h3 h4 h5 h6 h8
      have c3 : (PySem.W.codeIn K n13 d.qual && (He.dflB K n8 (d.dvs K) && He.kwdB K n9 (d.kws K))) = true := c2
      obtain ⟨k1, k2⟩ := He.ba c3
      obtain ⟨k3, k4⟩ := He.ba k2
      exact ⟨_, ⟨oc, od, n8, n9, n10, n11, n12, n13, n14, osl, n7, rfl, h7, q, k1, He.dflB_ok k3, He.kwdB_ok k4⟩, kp⟩
    | _ => cases c2
theorem FunC.funD {K : PySem.W.Frag} {d : DefA} {fd : FuncData} (h : FunC K d fd) (hc : d.clo = []) : FunD K d.name d.qual d.params d.body d.scope (d.dvs K) (d.kws K) (d.at_ K) fd := by
  obtain ⟨oc, od, dV, kV, doc, pm, an, cdv, ct, osl, cl, rfl, e, lk, cd, h1, h2⟩ := h.ex
  rw [hc] at e
  have e := List.map_eq_nil_iff.mp e
  subst e
  exact ⟨⟨oc, od, dV, kV, doc, pm, an, cdv, ct, osl, rfl, lk, cd, h1, h2⟩, h.kp⟩
/-! ### the hook -/
structure Says (fa : List He.Fa) (da : List DefA) (tf : List He.Defn) (ex : PySem.W.Frag → Bool) (h : Heap) (K : PySem.W.Frag) : Prop where
  fact : ∀ f ∈ fa, f.ok K = true
  defs : ∀ d ∈ da, ∃ fd, FunC K d fd
  ex : ex K = true
  hd : ∀ p ∈ tf, PySem.W.codeHdIn K (He.cT K p).1 (He.cT K p).2 = true
  out : ∀ p ∈ tf, K.lookup (He.cT K p).2 = none
  emp : ∀ p ∈ tf, h.get? (He.cT K p).2 = some { cls := .none, data := .fields #[] }
abbrev Al : Type := Bool × List FnA
abbrev frJ (n : Nat) (g : Addr → Option Obj) : PySem.W.Frag := He.frT g (WkG.asW g n)
def obsJ (n : Nat) (fa : List He.Fa) (da : List DefA) (tf : List He.Defn) (ex : PySem.W.Frag → Bool) (g : Addr → Option Obj) : Al := ((fa.all fun f => f.ok (frJ n g)) && ((da.all fun d => d.ok (frJ n g)) && (ex (frJ n g) && He.tabsB g tf (frJ n g))), da.map fun d => fnA (frJ n g) (d.at_ (frJ n g)))
theorem says_of {n : Nat} {fa : List He.Fa} {da : List DefA} {tf : List He.Defn} {ex : PySem.W.Frag → Bool} {h : Heap} (e : obsJ n fa da tf ex h.get? = (true, da.map DefA.val)) : Says fa da tf ex h (frJ n h.get?) := by
  have e1 : ((fa.all fun f => f.ok (frJ n h.get?)) && ((da.all fun d => d.ok (frJ n h.get?)) && (ex (frJ n h.get?) && He.tabsB h.get? tf (frJ n h.get?)))) = true := congrArg (fun z : Al => z.1) e
  have e2 : (da.map fun d => fnA (frJ n h.get?) (d.at_ (frJ n h.get?))) = da.map DefA.val := congrArg (fun z : Al => z.2) e
  obtain ⟨h0, e1⟩ := He.ba e1
  obtain ⟨h1, e1⟩ := He.ba e1
  obtain ⟨h2, h3⟩ := He.ba e1
  have one : ∀ p ∈ tf, PySem.W.codeHdIn (frJ n h.get?) (He.cT (frJ n h.get?) p).1 (He.cT (frJ n h.get?) p).2 = true ∧ ∃ o, h.get? (He.cT (frJ n h.get?) p).2 = some o ∧ He.emptyTab o = true := fun p hp => by
    obtain ⟨h3, h4⟩ := He.ba (List.all_eq_true.mp h3 p hp)
    refine ⟨h3, ?_⟩
    cases q : h.get? (He.cT (frJ n h.get?) p).2 with
    | none =>
      rw [q] at h4
      cases h4
    | some o =>
      rw [q] at h4
      exact ⟨o, rfl, h4⟩
  refine ⟨fun f hf => List.all_eq_true.mp h0 f hf, fun d hd => ?_, h2, fun p hp => (one p hp).1, fun p hp => ?_, fun p hp => ?_⟩
  · obtain ⟨i, hi, ed⟩ := List.mem_iff_getElem.mp hd
    have z : (da.map fun d => fnA (frJ n h.get?) (d.at_ (frJ n h.get?)))[i]? = (da.map DefA.val)[i]? := by rw [e2]
    rw [List.getElem?_map, List.getElem?_map, List.getElem?_eq_getElem hi, ed] at z
    exact DefA.funC (Option.some.inj z) (List.all_eq_true.mp h1 d hd)
  · obtain ⟨_, o, q, z⟩ := one p hp
    exact He.frT_none q z
  · obtain ⟨_, o, q, z⟩ := one p hp
    rw [q, He.emptyTab_eq z]
def hookJ (n : Nat) (fa : List He.Fa) (da : List DefA) (tf : List He.Defn) (ex : PySem.W.Frag → Bool) : PySem.W.Hook where
  α := Al
  obs := fun s => obsJ n fa da tf ex s.heap.get?
  val := fun _ => (true, da.map DefA.val)
  says := fun _ h => ∃ K : PySem.W.Frag, K.In h ∧ Says fa da tf ex h K
  of := fun _ _ e => ⟨_, He.frT_in, says_of e⟩
  keeps := fun _ _ _ ⟨K, hK, c⟩ k => ⟨K, PySem.W.Frag.In.keeps hK k, ⟨c.fact, c.defs, c.ex, c.hd, c.out, fun p hp => k _ _ (c.emp p hp)⟩⟩
theorem obsJ_eq {n : Nat} {fa : List He.Fa} {da : List DefA} {tf : List He.Defn} {ex : PySem.W.Frag → Bool} {g : Addr → Option Obj} {s : Shared} (h : ∀ a, g a = s.heap.get? a) : obsJ n fa da tf ex g = (hookJ n fa da tf ex).obs s := by
  have e : g = s.heap.get? := funext h
  subst e
  rfl
/-! ### facts of classes -/
def conB (K : PySem.W.Frag) (C : Addr) (f : Str) (i : Int) : Bool := match PySem.W.findIn K (.ref C) f with
  | some (some (.int j t)) => decide (j = i) && He.eqO (PySem.W.specialIn K (.int j t) "__get__") (some none)
  | _ => false
theorem conB_ok {K : PySem.W.Frag} {C : Addr} {f : Str} {i : Int} (h : conB K C f i = true) (hc : PySem.W.copiedNames.contains f = false := by decide +kernel) : ∃ u, Con K C f (.int i) u := by
  unfold conB at h
  split at h
  · rename_i j t e
    obtain ⟨h1, h2⟩ := He.ba h
    have ej := of_decide_eq_true h1
    subst ej
    exact ⟨_, e, ⟨t, rfl⟩, He.eqO_ok h2, hc⟩
  · cases h
/-- a property's own object, its getter -/
def prA (K : PySem.W.Frag) (C : Addr) (f : Str) : Addr := He.ma K C f
def geA (K : PySem.W.Frag) (C : Addr) (f : Str) : Addr := match PySem.W.recIn K (prA K C f) "property" with
  | some (.ref g :: _) => g
  | _ => 0
def propB (K : PySem.W.Frag) (C : Addr) (f : Str) : Bool := He.eqO (PySem.W.findIn K (.ref C) f) (some (some (.ref (prA K C f)))) && (He.eqO (PySem.W.specialIn K (.ref (prA K C f)) "__get__") (some (some (.builtin "property.__get__"))) && (decide (PySem.W.takesIn K (.ref (prA K C f)) = some true) &&
  (match PySem.W.recIn K (prA K C f) "property" with
  | some (.ref _ :: _) => true
  | _ => false)))
theorem propB_ok {K : PySem.W.Frag} {C : Addr} {f : Str} (h : propB K C f = true) : PropOf K C f (prA K C f) (geA K C f) := by
  obtain ⟨h1, h⟩ := He.ba h
  obtain ⟨h2, h⟩ := He.ba h
  obtain ⟨h3, h4⟩ := He.ba h
  refine ⟨He.eqO_ok h1, He.eqO_ok h2, of_decide_eq_true h3, ?_⟩
  unfold geA
  split at h4
  · rename_i g r e
    rw [e]
    exact ⟨r, rfl⟩
  · cases h4
/-- a method that says super() -/
def supB (P : Program) (K : PySem.W.Frag) (D : Addr) (f : Addr) : Bool := match K.lookup f with
  | some ⟨_, _, .func fd, _⟩ => (match fd.closure with
    | [(_, cc)] => (match K.lookup cc with
      | some ⟨_, _, .cell (some (.ref E)), _⟩ => decide (E = D)
      | _ => false)
    | _ => false) && (match fd.code with
    | .ref cda => (match K.lookup cda with
      | some ⟨_, _, .fields vs, _⟩ => (match (vs[2]? : Option Value) with
        | some (.str file _) => (P.main.file : Str) == file
        | _ => false)
      | _ => false)
    | _ => false)
  | _ => false
theorem supT_of {P : Program} {K : PySem.W.Frag} {mg : Str → Option Value} {ps : List Str} {D : Addr} {d : DefA} {fd : FuncData} (h : FunC K d fd) (hc : d.clo = [("__class__" : Str)]) (hb : supB P K D (d.at_ K) = true) (hD : (PySem.W.clsIn K D).isSome = true) (ns : mg "super" = none) (tp : (P.main.scope.names.lookup ("super" : Str)).isSome = false)
    (hp : ∃ ar : Arg, (d.params.posonlyargs ++ d.params.args).head? = some ar ∧ ps[0]? = some ar.arg) (na : PySem.W.nsIn K cStatics "thirdparty.any" = some none) :
    fd.body = .stmts d.body ∧ ∃ cc cda, WkS.SupT P K mg ps D (d.at_ K) cc cda d.qual d.params d.scope fd := by
  obtain ⟨oc, od, dV, kV, doc, pm, an, cdv, ct, osl, cl, rfl, e, lk, cd, h1, h2⟩ := h.ex
  refine ⟨rfl, ?_⟩
  unfold supB at hb
  rw [lk] at hb
  obtain ⟨b1, b2⟩ := He.ba hb
  rw [hc] at e
  match cl, e with
  | [(n, cc)], e =>
    have en : n = "__class__" := by simpa using e
    subst en
    have b1 : (match K.lookup cc with
      | some ⟨_, _, .cell (some (.ref E)), _⟩ => decide (E = D)
      | _ => false) = true := b1
    split at b1
    · rename_i c1 c2 E c3 ec
      have eE := of_decide_eq_true b1
      subst eE
      cases cdv with
      | ref cda =>
        have b2 : (match K.lookup cda with
          | some ⟨_, _, .fields vs, _⟩ => (match (vs[2]? : Option Value) with
            | some (.str file _) => (P.main.file : Str) == file
            | _ => false)
          | _ => false) = true := b2
        split at b2
        · rename_i f1 f2 vs f3 ef
          split at b2
          · rename_i file tf ev
            obtain ⟨cdD, hD⟩ := Option.isSome_iff_exists.mp hD
            exact ⟨cc, cda, ⟨_, _, dV, kV, doc, pm, an, ct, oc, od, osl, rfl, lk⟩, cd, ⟨f1, f2, vs, f3, file, tf, ef, ev, b2⟩, ⟨c1, c2, c3, ec⟩, ⟨cdD, hD⟩, ns, tp, hp, na⟩
          · cases b2
        · cases b2
      | _ => cases b2
    · cases b1
theorem FunC.binds {K : PySem.W.Frag} {d : DefA} {fd : FuncData} {ps : List Str} (F : FunC K d fd) (hd : d.dfl = []) (h : ∀ (kV doc pm : Value) (an : Option Addr) (cdv ct : Value) (cl : List (Str × Addr)) (us : List Value), us.length = ps.length → bindArgs ⟨d.name, d.qual, d.params, .stmts d.body, d.scope, mainGlobals, cl, .none, kV, doc, pm, an, cdv, ct, builtinsNs⟩ ⟨us, []⟩ = pure (ps.zip us)) : Binds K fd ps [] := by
  obtain ⟨oc, od, dV, kV, doc, pm, an, cdv, ct, osl, cl, rfl, e, lk, cd, h1, h2⟩ := F.ex
  unfold DefA.dvs at h1
  rw [hd] at h1
  rcases h1 with ⟨_, rfl⟩ | ⟨z, _⟩
  · exact .all (h kV doc pm an cdv ct cl)
  · exact absurd rfl z
/-- a def's code object -/
theorem codeIs_of {K : PySem.W.Frag} {p : He.Defn} : (∀ (oc : Value) (od : Option Addr) (fd : FuncData) (osl : Array (Option Value)), K.lookup (He.fAd K p) = some ⟨oc, od, .func fd, osl⟩ → PySem.W.codeIn K fd.code fd.qualname = true) → WkL.CodeIs K (He.fAd K p) (He.cT K p).1 := fun h oc od fd osl lk => by
  obtain ⟨c, ec⟩ := He.codeIn_ref (h oc od fd osl lk)
  rw [ec]
  congr 1
  exact (He.codeOf_eq lk ec).symm
end WkJ
namespace WkX
open PySem PySem.W PySem.Calls PyProof.Rows PySem.HandSPX Builtin
/-- what is asked of the list of classes behind an own exception class -/
structure Tail (B : String) (bm : List Value) : Prop where
  b : bm.contains (.type B) = true
  a : bm.contains (.type "AttributeError") = false
  n : bm.contains (.type "NameError") = false
section
variable {prog : Program} {w : World} {A : Around} {E : Value → Shared → Prop} {R : Result → Shared → Prop} {hp : Heap} {gn : Array GenState} {dr : Drawn} {tk : Nat} {os : OsState}
variable {nm qn : Str} {C N : Addr} {bs bm bmB : List Value} {hdc : Bool} {sn : List Str} {sub : List Value} {ab : Bool} {col : Option Bool} {dd : Option Addr} {k0 k1 k2 k3 k5 : Option Value} {B newId initId : String}
theorem check_new {M : Model} (F : ExcBaseFacts B newId initId bmB) (T : Tail B bm) {us : List Value} {kw : List (Str × Value)} {Q : Unit → Shared → Prop} (hC : hp.get? C = some (excClassObj nm qn C N bs bm hdc sn sub ab col dd k0 k1 k2 k3 k5 newId))
    (hq : Q () ⟨hp, gn, dr, tk, os⟩) : wpAny M A (checkBuiltinCall newId ⟨.ref C :: us, kw⟩) Q E ⟨hp, gn, dr, tk, os⟩ := by
  have c1 : (Value.ref C :: bm).contains (.type B) = true := by rw [List.contains_cons, T.b, Bool.or_true]
  have c2 := F.noStar
  simp only [checkBuiltinCall, F.newKind, F.newSplit, F.newRow]
  repeat (first | refine wpAny_loadPart_at hC ?_ | (refine wpAny_isSubtype_exc hC ?_; rw [c1]) | refine wpAny_staticBase_exc hC ?_ | refine wpAny_madeBy_exc hC ?_ | simp only [bne_self_eq_false, Bool.false_eq_true, if_false] | wp_step)
  exact hq
theorem new_ {us : List Value} {kw : List (Str × Value)} (F : ExcBaseFacts B newId initId bmB) (T : Tail B bm) (hC : hp.get? C = some (excClassObj nm qn C N bs bm hdc sn sub ab col dd k0 k1 k2 k3 k5 newId))
    (hq : R (.ok (.ret (.ref (hp.objs.size + 1)))) ⟨(hp.push (kdv_tup us)).push (excO C hp.objs.size), gn, dr, tk, os⟩) (hl : us.length ≤ sizeLine) :
    codeAny (model prog w) A (.builtin newId ⟨.ref C :: us, kw⟩) R ⟨hp, gn, dr, tk, os⟩ := by
  have c0 := F.ends
  have c1 : (Value.ref C :: bm).contains (.type B) = true := by rw [List.contains_cons, T.b, Bool.or_true]
  have c2 : (Value.ref C :: bm).contains (.type "AttributeError") = false := by rw [List.contains_cons, T.a]; rfl
  have c3 : (Value.ref C :: bm).contains (.type "NameError") = false := by rw [List.contains_cons, T.n]; rfl
  refine codeAny_builtinAt F.entry ?_
  unfold Builtin.«BaseException.__new__»
  refine PySem.wpAt_bind ?_
  show PySem.wpAt _ _ _ (stack >>= _) _ _ _
  refine PySem.wpAt_bind (PySem.wpAt_stack fun p below => PySem.wpAt_of_wpAny ?_)
  wp_walk
  refine PySem.wpAt_of_wpAny ?_
  rw [F.owner]
  repeat (first | with_reducible refine wpAny_madeHere_exc F.canon hC ?_ | with_reducible refine wpAny_loadPart_at hC ?_ | (with_reducible refine wpAny_isSubtype_exc hC ?_; first | rw [c1] | rw [c2] | rw [c3]) | wp_step)
  show R _ _
  rw [Heap.size_push]
  exact hq
theorem tcall {us : List Value} {kw : List (Str × Value)} {fI : Addr} {Q : Fin → Shared → Prop} (F : ExcBaseFacts B newId initId bmB) (T : Tail B bm) (hC : hp.get? C = some (excClassObj nm qn C N bs bm hdc sn sub ab col dd k0 k1 k2 k3 k5 newId))
    (hi : Looks (model prog w) hp (typeLookup (.ref C) "__init__") (some (.ref fI))) (hb : ∀ x, Looks (model prog w) hp (bindSpecial (.ref fI) x) (.ref fI, [x])) (hl : us.length ≤ sizeLine)
    (hq : codeAny (model prog w) A (.call (.ref fI) ⟨.ref (hp.objs.size + 1) :: us, kw⟩)
      (fun r s' => match r with | .ok (.ret v) => v = .none ∧ Q (.done (.ret (.ref (hp.objs.size + 1)))) s' | .ok _ => False | .error e => E e s') ⟨(hp.push (kdv_tup us)).push (excO C hp.objs.size), gn, dr, tk, os⟩) :
    wpAny (model prog w) A (Builtin.«type.__call__» ⟨.ref C :: us, kw⟩) Q E ⟨hp, gn, dr, tk, os⟩ := by
  repeat (first | with_reducible refine wpAny_loadPart_at hC ?_ | with_reducible refine wpAny_madeBy_exc hC ?_ | wp_step)
  refine codeAny_call_builtin_code (Code.quiet_builtin _ F.quiet) (check_new F T hC ?_)
  refine new_ F T hC ?_ hl
  show wpAny _ _ _ _ _ _
  have k : ∀ b o, hp.get? b = some o → ((hp.push (kdv_tup us)).push (excO C hp.objs.size)).get? b = some o := fun b o e => Heap.get?_push_of_some _ (Heap.get?_push_of_some _ e)
  have hC' := k _ _ hC
  have hg : ((hp.push (kdv_tup us)).push (excO C hp.objs.size)).get? (hp.objs.size + 1) = some (excO C hp.objs.size) := by heap_get
  have hcC : (Value.ref C :: bm).contains (.ref C) = true := by simp
  have i1 := hi.keeps k
  have b1 := (hb (.ref (hp.objs.size + 1))).keeps k
  unfold isInstance
  repeat (first | with_reducible refine wpAny_loadPart_at hg ?_ | (with_reducible refine wpAny_isSubtype_exc hC' ?_; rw [hcC]) | wp_step)
  show wpAny _ _ (typeLookup (.ref C) _) _ _ _
  refine i1.at ?_
  refine wpAny_holding (wpAny_bind (b1.at ?_))
  refine wpAny_bind (wpAny_call (codeAny_mono hq fun r s' z => ?_))
  rcases r with e | (v | _ | _ | _) <;> first | exact z | exact z.elim | skip
  obtain ⟨rfl, z⟩ := z
  first
    | exact wpAny_pure (wpAny_pure z)
    | (wp_walk; exact z)
theorem check_tc {M : Model} {us : List Value} {kw : List (Str × Value)} {Q : Unit → Shared → Prop} (hC : hp.get? C = some (excClassObj nm qn C N bs bm hdc sn sub ab col dd k0 k1 k2 k3 k5 newId)) (hq : Q () ⟨hp, gn, dr, tk, os⟩) :
    wpAny M A (checkBuiltinCall "type.__call__" ⟨.ref C :: us, kw⟩) Q E ⟨hp, gn, dr, tk, os⟩ := by
  have c3 := tc_sub
  have hT : (⟨hp, gn, dr, tk, os⟩ : Shared).TypeIs (.ref C) "type" := ⟨_, hC, rfl⟩
  simp only [checkBuiltinCall, tc_kind, tc_split]
  repeat (any_goals (first | assumption | with_reducible refine wpAny_loadPart_at hC ?_ | with_reducible refine wpAny_onRaise ?_ | with_reducible refine wpAny_map ?_ | wp_step))
theorem call_ {us : List Value} {kw : List (Str × Value)} {fI : Addr} (F : ExcBaseFacts B newId initId bmB) (T : Tail B bm) (hC : hp.get? C = some (excClassObj nm qn C N bs bm hdc sn sub ab col dd k0 k1 k2 k3 k5 newId))
    (hi : Looks (model prog w) hp (typeLookup (.ref C) "__init__") (some (.ref fI))) (hb : ∀ x, Looks (model prog w) hp (bindSpecial (.ref fI) x) (.ref fI, [x])) (hl : us.length ≤ sizeLine)
    (hq : codeAny (model prog w) (A.under (.builtin "type.__call__" ⟨.ref C :: us, kw⟩)) (.call (.ref fI) ⟨.ref (hp.objs.size + 1) :: us, kw⟩) (InitBack (hp.objs.size + 1) R) ⟨(hp.push (kdv_tup us)).push (excO C hp.objs.size), gn, dr, tk, os⟩) :
    codeAny (model prog w) A (.call (.ref C) ⟨us, kw⟩) R ⟨hp, gn, dr, tk, os⟩ := by
  have c1 := tc_lookup
  have c2 := tc_bind (.ref C)
  have hTy : (⟨hp, gn, dr, tk, os⟩ : Shared).TypeIs (.ref C) "type" := ⟨_, hC, rfl⟩
  refine codeAny_of_tree ?_
  show wpAny _ _ (callAny (.ref C) _) _ _ _
  repeat (any_goals (first | assumption | with_reducible refine wpAny_loadPart_at hC ?_ | wp_step))
  refine ⟨rfl, ?_⟩
  refine codeAny_call_builtin_at (Code.quiet_builtin _ (by decide +kernel)) entry_typeCall (check_tc hC (tcall F T hC hi hb hl ?_))
  refine codeAny_mono hq fun r s' z => ?_
  rcases r with e | (v | _ | _ | _) <;> exact z
end
/-! ### self.f = v on a fresh exception -/
section
variable {prog : Program} {w : World} {A : Around} {R : Result → Shared → Prop} {hp : Heap} {gn : Array GenState} {dr : Drawn} {tk : Nat} {os : OsState}
theorem osa_ {K : Frag} {f : Str} {tf : Tok} {v : Value} {x C : Addr} {fv : Array Value} {cd : ClassData} (KX : K.In hp) (hx : hp.get? x = some { cls := .ref C, data := .fields fv }) (hcd : clsIn K C = some cd)
    (hp1 : refuseLoop (.ref x) "__setattr__" cd.mro = pure ()) (hp2 : cd.mro.contains (.type "object") = true) (hp3 : cd.mro.isEmpty = false) (hh : cd.hasDict = true) (ha : findIn K (.ref C) f = some none)
    (hq : ∀ h' tk' dx, (∀ b o, b ≠ x → hp.get? b = some o → h'.get? b = some o) → hp.objs.size ≤ dx → dx ≠ x → h'.get? x = some { cls := .ref C, dict := some dx, data := .fields fv } →
      h'.Ns1 dx (fun y => if y = f then some v else none) → R (.ok (.ret .none)) ⟨h', gn, dr, tk', os⟩) :
    codeAny (model prog w) A (.call (.builtin "object.__setattr__") ⟨[.ref x, .str f tf, v], []⟩) R ⟨hp, gn, dr, tk, os⟩ := by
  have J : InstAt hp x { cls := .ref C, data := .fields fv } C none := ⟨hx, rfl, rfl, trivial⟩
  have SO := F.store_object
  have xs : x ≠ hp.objs.size := Nat.ne_of_lt (Heap.lt_size hx)
  have sb : Looks (model prog w) hp (isInstance (.ref x) (.type "object")) true := J.type.andThen (looks_mroIn KX (by unfold mroIn; rw [hcd, Option.bind_some, if_neg (by rw [hp3]; decide), hp2]))
  refine codeAny_call_builtin SO.slot.plain SO.entry (@check_slot (model prog w) _ _ ⟨hp, gn, dr, tk, os⟩ "object.__setattr__" "object" "__setattr__" (.ref x) [.str f tf, v] [] _ SO.kind SO.split sb (SO.args (.ref x) (.str f tf) v) ?_)
  have l1 : Looks (model prog w) hp (mroOf (.ref C)) cd.mro := (looks_clsIn KX hcd).andThen .now
  have l2 : Looks (model prog w) hp (Builtin.ObjectAttr.storeTaker? none) none := .now
  have l3 : Looks (model prog w) hp (classData C) cd := looks_clsIn KX hcd
  rw [osa_eq, refuse_eq]
  refine wpAny_bind (wpAny_bind (J.type.at (wpAny_bind (l1.at ?_))))
  rw [hp1]
  refine wpAny_pure (wpAny_bind (J.type.at (wpAny_bind ((looks_findIn KX ha).at (wpAny_bind (l2.at ?_))))))
  show wpAny _ _ (Builtin.ObjectAttr.storeInOwnDict (.ref x) (.ref C) (.str f tf) f v false) _ _ _
  obtain ⟨nm, bs, mro, ns, qn, hd, sn, sb, ab, col, del⟩ := cd
  dsimp only at hh
  subst hh
  unfold Builtin.ObjectAttr.storeInOwnDict Builtin.ObjectAttr.ownDictForStores
  repeat (first | with_reducible refine store_in_new ?_ ?_ | with_reducible refine wpAny_loadPart_at hx ?_ | with_reducible refine l3.at ?_ | wp_step)
  · exact ⟨_, #[], _, (Heap.get?_update_ne _ _ _ _ xs.symm).trans (Heap.get?_push_at rfl rfl), rfl, fun e he => absurd he (by simp), fun _ => rfl⟩
  · intro h' tk' n' sm
    have hx1 : (hp.push { cls := .type "dict", data := .dict #[] }).get? x = some { cls := .ref C, data := .fields fv } := Heap.get?_push_of_some _ hx
    refine hq h' tk' hp.objs.size (fun b o hb ho => ?_) (Nat.le_refl _) xs.symm ?_ n'
    · exact (sm.2 b (Nat.ne_of_lt (Heap.lt_size ho))).trans ((Heap.get?_update_ne _ _ _ _ hb).trans (Heap.get?_push_of_some _ ho))
    · exact (sm.2 x xs).trans (Heap.get?_update_self _ hx1 rfl)
end
/-! ### an own error class of one field: class x(B): def __init__(self, f): self.f = f -/
def iA (f : Str) (p1 p2 : Pos) : Arguments := { posonlyargs := [], args := [{ arg := "self", annotation := none, pos := p1 }, { arg := f, annotation := none, pos := p2 }], vararg := none, kwonlyargs := [], kw_defaults := [], kwarg := none, defaults := [] }
def iB (f : Str) (q1 q2 q3 q4 : Pos) : List Stmt := [.Assign [.Attribute (.Name "self" q1) f q2] (.Name f q3) q4]
def iS (f : Str) : Scope := { kind := .function, names := [(PySem.Str.ofString "self", .local), (f, .local)], isGenerator := false, isCoroutine := false, more := [] }
/-- what is asked of a field's name; shown for each by computation -/
structure FieldOk (f : Str) : Prop where
  b1 : ∀ (qual : Str) (p1 p2 q1 q2 q3 q4 : Pos) (kV doc pm : Value) (an : Option Addr) (cdv ct e v : Value), bindArgs (fnOf "__init__" qual (iA f p1 p2) (iB f q1 q2 q3 q4) (iS f) .none kV doc pm an cdv ct) ⟨[e, v], []⟩ = pure [(("self" : Str), e), (f, v)]
  b2 : ∀ (qual : Str) (p1 p2 q1 q2 q3 q4 : Pos) (kV doc pm : Value) (an : Option Addr) (cdv ct e v : Value), bindArgs (fnOf "__init__" qual (iA f p1 p2) (iB f q1 q2 q3 q4) (iS f) .none kV doc pm an cdv ct) ⟨[e], [(f, v)]⟩ = pure [(("self" : Str), e), (f, v)]
  l1 : (iS f).names.lookup f = some .local
  l2 : ∀ (e v : Value) (k : Str → Option NameKind), k "self" = some .local → k f = some .local → bindL k [(("self" : Str), e), (f, v)] (fun _ => none) f = some v
  l3 : ∀ (e v : Value) (k : Str → Option NameKind), k "self" = some .local → k f = some .local → bindL k [(("self" : Str), e), (f, v)] (fun _ => none) "self" = some e
  dbg : (f == ("__debug__" : Str)) = false
theorem field_of {f : Str} (h : f ≠ "self")
    (b1 : ∀ (qual : Str) (p1 p2 q1 q2 q3 q4 : Pos) (kV doc pm : Value) (an : Option Addr) (cdv ct e v : Value), bindArgs (fnOf "__init__" qual (iA f p1 p2) (iB f q1 q2 q3 q4) (iS f) .none kV doc pm an cdv ct) ⟨[e, v], []⟩ = pure [(("self" : Str), e), (f, v)])
    (b2 : ∀ (qual : Str) (p1 p2 q1 q2 q3 q4 : Pos) (kV doc pm : Value) (an : Option Addr) (cdv ct e v : Value), bindArgs (fnOf "__init__" qual (iA f p1 p2) (iB f q1 q2 q3 q4) (iS f) .none kV doc pm an cdv ct) ⟨[e], [(f, v)]⟩ = pure [(("self" : Str), e), (f, v)])
    (l1 : (iS f).names.lookup f = some .local) (d : (f == ("__debug__" : Str)) = false) : FieldOk f := by
  refine ⟨b1, b2, l1, fun e v k h1 h2 => ?_, fun e v k h1 h2 => ?_, d⟩
  · unfold bindL bindL bindL
    rw [if_pos h1, if_pos h2]
    exact if_pos rfl
  · unfold bindL bindL bindL
    rw [if_pos h1, if_pos h2]
    show (if ("self" : Str) = f then some v else if ("self" : Str) = "self" then some e else none) = some e
    rw [if_neg (Ne.symm h), if_pos rfl]
theorem f_value : FieldOk "value" := field_of (by decide +kernel) (fun _ _ _ _ _ _ _ _ _ _ _ _ _ _ _ => rfl) (fun _ _ _ _ _ _ _ _ _ _ _ _ _ _ _ => rfl) rfl rfl
theorem f_side : FieldOk "side" := field_of (by decide +kernel) (fun _ _ _ _ _ _ _ _ _ _ _ _ _ _ _ => rfl) (fun _ _ _ _ _ _ _ _ _ _ _ _ _ _ _ => rfl) rfl rfl
theorem f_line : FieldOk "line" := field_of (by decide +kernel) (fun _ _ _ _ _ _ _ _ _ _ _ _ _ _ _ => rfl) (fun _ _ _ _ _ _ _ _ _ _ _ _ _ _ _ => rfl) rfl rfl
theorem f_index : FieldOk "index" := field_of (by decide +kernel) (fun _ _ _ _ _ _ _ _ _ _ _ _ _ _ _ => rfl) (fun _ _ _ _ _ _ _ _ _ _ _ _ _ _ _ => rfl) rfl rfl
theorem f_found : FieldOk "found" := field_of (by decide +kernel) (fun _ _ _ _ _ _ _ _ _ _ _ _ _ _ _ => rfl) (fun _ _ _ _ _ _ _ _ _ _ _ _ _ _ _ => rfl) rfl rfl
structure ExcT (K : Frag) (mg : Str → Option Value) (x f : Str) (C fI : Addr) : Prop where
  gC : mg x = some (.ref C)
  cls : ∃ (B newId initId : String) (bm bmB : List Value), (∃ nm q N bs sn sub ab col dd k0 k1 k2 k3 k5, K.lookup C = some (excClassObj nm q C N bs bm true sn sub ab col dd k0 k1 k2 k3 k5 newId)) ∧
    ExcBaseFacts B newId initId bmB ∧ Tail B bm ∧ (∀ self, refuseLoop self "__setattr__" bm = pure ()) ∧ bm.contains (.type "object") = true
  sa : findIn K (.ref C) "__setattr__" = some (some (.builtin "object.__setattr__"))
  ga : findIn K (.ref C) "__getattribute__" = some (some (.builtin "BaseException.__getattribute__"))
  gg : findIn K (.ref C) "__getattr__" = some none
  noN : findIn K (.ref C) f = some none
  iC : findIn K (.ref C) "__init__" = some (some (.ref fI))
  tC : typeIn K (.ref fI) = some (.type "function")
  kC : keepIn K (.ref C) = true
  exC : subIn K (.ref C) (.type "BaseException") = some true
  tyC : typeIn K (.ref C) = some (.type "type")
  hdC : hasDictIn K C = true
  icl : (clsIn K C).isSome = true
  iha : findIn K (.ref C) "__class__" = some (some (.builtin "object.__class__"))
  ihn : specialIn K (.builtin "object.__class__") "__get__" = some (some (.builtin "getset_descriptor.__get__"))
  itk : takesIn K (.builtin "object.__class__") = some true
  ihm : mroIn K C (.type "object") = some true
  fok : FieldOk f
  fn : ∃ (qual : Str) (oc : Value) (od : Option Addr) (kV doc pm : Value) (an : Option Addr) (cdv ct : Value) (osl : Array (Option Value)) (p1 p2 q1 q2 q3 q4 : Pos),
    K.lookup fI = some ⟨oc, od, .func (fnOf "__init__" qual (iA f p1 p2) (iB f q1 q2 q3 q4) (iS f) .none kV doc pm an cdv ct), osl⟩ ∧ codeIn K cdv qual = true
/-- an exception that was made: its dict holds f -/
structure Made (f : Str) (h h' : Heap) (e C d : Addr) (v : Value) : Prop where
  keep : ∀ b o, h.get? b = some o → h'.get? b = some o
  new : h.objs.size ≤ e
  obj : ∃ t1 : Addr, h'.get? e = some { cls := .ref C, dict := some d, data := .fields #[.ref t1, .none, .none, .none, .bool false, .none] }
  dbig : h.objs.size ≤ d
  dne : d ≠ e
  ns : h'.Ns1 d (fun y => if y = f then some v else none)
section
variable {prog : Program} {w : World} {A : Around} {E : Value → Shared → Prop} {R : Result → Shared → Prop} {s : Shared} {K : Frag} {mg : Str → Option Value} {x f : Str} {C fI : Addr}
theorem ld_ {M : Model} {name : Str} {scope : Scope} {L a : Addr} {cd : Value} {m : Str → Option Value} {y : Str} {pos : Pos} {v : Value} {Q : Value → Shared → Prop} (hn : s.heap.Ns L m) (hv : m y = some v) (h : Q v s)
    (hk : scope.kind = .function) (hl : (envOfC name scope L a cd).kindOf y = some .local) (hd : (y == ("__debug__" : Str)) = false) :
    wpAny M A (eval (.Name y pos) (envOfC name scope L a cd)) Q E s := wpAny_Name (wpAny_loadName_local hk hl hn hv h) hd
/-- __init__ on a fresh exception, by either kind of call -/
theorem init_ (T : ExcT K mg x f C fI) {e t0 : Addr} {v : Value} {args : Args} (ha : args = ⟨[.ref e, v], []⟩ ∨ args = ⟨[.ref e], [(f, v)]⟩) (KX : K.In s.heap) (hlim : s.heap.NoLimit) (hx : s.heap.get? e = some (excO C t0)) (hroom : A.depth < recursionLimit)
    (hq : ∀ h' tk dx, (∀ b o, b ≠ e → s.heap.get? b = some o → h'.get? b = some o) → s.heap.objs.size ≤ dx → dx ≠ e → h'.get? e = some { cls := .ref C, dict := some dx, data := .fields #[.ref t0, .none, .none, .none, .bool false, .none] } →
      h'.Ns1 dx (fun y => if y = f then some v else none) → R (.ok (.ret .none)) { s with heap := h', toks := tk }) :
    codeAny (model prog w) A (.call (.ref fI) args) R s := by
  obtain ⟨qual, oc, od, kV, doc, pm, an, cdv, ct, osl, p1, p2, q1, q2, q3, q4, ho, hcd⟩ := T.fn
  obtain ⟨B, newId, initId, bm, bmB, ⟨nm, q, N, bs, sn, sub, ab, col, dd, k0, k1, k2, k3, k5, hC⟩, _, _, hps, hob⟩ := T.cls
  have hcl : clsIn K C = some { name := nm, bases := bs, mro := .ref C :: bm, ns := N, qualname := q, hasDict := true, slotNames := sn, subclasses := sub, abstract := ab, collection := col, hasDel := false } := by unfold clsIn; rw [hC] <;> rfl
  have hbd : BindsTo s (fnOf "__init__" qual (iA f p1 p2) (iB f q1 q2 q3 q4) (iS f) .none kV doc pm an cdv ct) args [("self", .ref e), (f, v)] := by
    rcases ha with rfl | rfl
    · exact BindsTo.of_eq (T.fok.b1 ..)
    · exact BindsTo.of_eq (T.fok.b2 ..)
  refine Att.call_fn (binds := [("self", .ref e), (f, v)]) KX hlim ho hcd hroom hbd ?_ (fun s₁ IC => ?_) rfl rfl rfl
  · show ((((iS f).names.lookup ("self" : Str)) == some NameKind.local || ((iS f).names.lookup ("self" : Str)) == some NameKind.cell) && ((((iS f).names.lookup f) == some NameKind.local || ((iS f).names.lookup f) == some NameKind.cell) && true)) = true
    rw [T.fok.l1]
    rfl
  obtain ⟨h₁, tk₁, rfl⟩ := IC.toInCall.same
  have k : ∀ b o, s.heap.get? b = some o → h₁.get? b = some o := IC.toInCall.keep
  have hn := IC.toInCall.ns
  have X₁ : K.In h₁ := KX.keeps k
  have hx₁ := k _ _ hx
  have kf : (envOfC qual (iS f) s.heap.objs.size fI cdv).kindOf f = some .local := T.fok.l1
  have ks : (envOfC qual (iS f) s.heap.objs.size fI cdv).kindOf "self" = some .local := rfl
  show wpAny _ _ (execs _ _) _ _ _
  refine wpAny_execs_cons (plainObj_wpAny_Assign_Attribute ?_)
  refine ld_ (v := v) hn (T.fok.l2 _ _ _ ks kf) (ld_ (v := .ref e) hn (T.fok.l3 _ _ _ ks kf) ?_ rfl ks (by decide)) rfl kf T.fok.dbg
  refine set_plain X₁ (ox := excO C t0) (od := none) ⟨hx₁, rfl, rfl, trivial⟩ T.sa ?_
  refine osa_ X₁ hx₁ hcl (by rw [refuseLoop_ref]; exact hps _) (by rw [List.contains_cons, hob, Bool.or_true]) rfl rfl T.noN (fun h₃ tk₃ dx k₃ dn dne hx₃ hn₃ => ?_)
  show wpAny _ _ (execs _ _) _ _ _
  have z : s.heap.objs.size < h₁.objs.size := hn.lt
  exact wpAny_execs_nil (hq h₃ tk₃ dx (fun b o hb e => k₃ b o hb (k b o e)) (Nat.le_of_lt (Nat.lt_of_lt_of_le z dn)) dne hx₃ hn₃)
/-- C(v), C(f=v): a new exception -/
theorem made_ (T : ExcT K mg x f C fI) {v : Value} {args : Args} (ha : args = ⟨[v], []⟩ ∨ args = ⟨[], [(f, v)]⟩) (KX : K.In s.heap) (hlim : s.heap.NoLimit) (hroom : A.depth + 1 < recursionLimit)
    (hq : ∀ h' tk e d, Made f s.heap h' e C d v → R (.ok (.ret (.ref e))) { s with heap := h', toks := tk }) : codeAny (model prog w) A (.call (.ref C) args) R s := by
  obtain ⟨B, newId, initId, bm, bmB, ⟨nm, q, N, bs, sn, sub, ab, col, dd, k0, k1, k2, k3, k5, hC⟩, hF, hT, _, _⟩ := T.cls
  obtain ⟨us, kw⟩ := args
  obtain ⟨hp, gn, dr, tk, os⟩ := s
  have hl : us.length ≤ sizeLine := by
    rw [sizeLine_eq]
    rcases ha with e | e
    · cases e
      exact (by decide : 1 ≤ 16777216)
    · cases e
      exact Nat.zero_le _
  have k : ∀ b o, hp.get? b = some o → ((hp.push (kdv_tup us)).push (excO C hp.objs.size)).get? b = some o := fun b o e => Heap.get?_push_of_some _ (Heap.get?_push_of_some _ e)
  have hg : ((hp.push (kdv_tup us)).push (excO C hp.objs.size)).get? (hp.objs.size + 1) = some (excO C hp.objs.size) := by heap_get
  refine call_ hF hT (KX _ _ hC) (looks_findIn KX T.iC) (fun self => bind_fn KX self T.tC) hl ?_
  refine init_ (s := ⟨(hp.push (kdv_tup us)).push (excO C hp.objs.size), gn, dr, tk, os⟩) (v := v) T ?_ (KX.keeps k) (hlim.keeps k) hg ?_ fun h' tk' dx k' dn dne hx hns => ?_
  · rcases ha with e | e
    · cases e
      exact .inl rfl
    · cases e
      exact .inr rfl
  · show A.depth + 1 < recursionLimit
    exact hroom
  · have old : ∀ b o, hp.get? b = some o → h'.get? b = some o := fun b o e => k' b o (Nat.ne_of_lt (Nat.lt_succ_of_lt (Heap.lt_size e))) (k b o e)
    have z : hp.objs.size + 1 + 1 ≤ dx := by
      first
        | (simpa only [Heap.size_push] using dn)
        | exact dn
    exact ⟨rfl, hq h' tk' (hp.objs.size + 1) dx ⟨old, Nat.le_succ _, ⟨_, hx⟩, Nat.le_trans (Nat.le_trans (Nat.le_succ _) (Nat.le_succ _)) z, dne, hns⟩⟩
end
end WkX
namespace WkX
open PySem PySem.Spec PyProof.Rows L2
theorem relO_one {f : Str} {v : V} {u : Value} (r : RelV v u) (g : Str) : RelO (List.lookup g [(f, v)]) (if g = f then some u else none) := relO_put (fs := []) (mA := fun _ => none) r (fun _ => True.intro) g
section
variable {X : Cx} {x f : Str} {C fI : Addr}
/-- the state behind a new exception that is held -/
theorem held_ {pins : List (Addr × Obj)} {σ : L2.St} {H1 : Hp} {hp h' : Heap} {gn : Array GenState} {dr : Drawn} {tk tk' : Nat} {os : OsState} {e d : Addr} {v : V} {u : Value} (I1 : Inv X pins σ H1 ⟨hp, gn, dr, tk, os⟩) (rv : RelV v u) (M : Made f hp h' e C d u) :
    Inv X pins σ (upd (upd H1 d (exd d [(f, v)])) e (exo e C (some d))) ⟨h', gn, dr, tk', os⟩ := by
  obtain ⟨t1, hoe⟩ := M.obj
  have hns := M.ns
  obtain ⟨G, g1, g2⟩ := restrict h' fun b => decide (b ≠ e)
  have gk : ∀ b, b ≠ e → G.get? b = h'.get? b := fun b hb => g1 b (decide_eq_true hb)
  have ge : G.get? e = none := g2 e (by simp)
  have old : ∀ b o, hp.get? b = some o → G.get? b = some o := fun b o q => (gk b (Nat.ne_of_lt (Nat.lt_of_lt_of_le (Heap.lt_size q) M.new))).trans (M.keep b o q)
  have ob : ObjOk X.prog X.w (upd H1 d (exd d [(f, v)])) G d (exd d [(f, v)]) := exd_ok (hns.at (fun o q => (gk d M.dne).trans q)) fun g => relO_one rv g
  have J : Inv X pins σ (upd H1 d (exd d [(f, v)])) ⟨G, gn, dr, tk', os⟩ := I1.laid (t' := tk') old M.dbig ob
  have ne : upd H1 d (exd d [(f, v)]) e = none := by
    rw [upd_ne (Ne.symm M.dne)]
    exact I1.hok.fresh M.new
  exact J.laidN (t' := tk') (h' := h') (fun b o q => by
    by_cases hb : b = e
    · have q' : G.get? b = some o := q
      rw [hb, ge] at q'
      cases q'
    · exact (gk b hb).symm.trans q) ge ne (exo_ok hoe)
/-- x(e), x(f=e) as a value -/
def tMkE (C : Addr) (f : Str) (ta : TA) : TE := fun σ H Q => ta σ H fun vs H1 => ∃ v, vs = [v] ∧ ∀ a d, H1 a = none → H1 d = none → d ≠ a → Q (.ref a) (upd (upd H1 d (exd d [(f, v)])) a (exo a C (some d)))
theorem pe_mkE {a : Expr} {ta : TA} {p pos : Pos} {k : Nat} (T : ExcT X.K X.mg x f C fI) (hr : Room k X.A) (ha : PA X [a] ta) (hg : Gl X x := by rfl) (hdb : (x == ("__debug__" : Str)) = false := by decide)
    (he : starEach (a :: []) X.env = (false, eval a X.env) :: starEach [] X.env := by rfl) (hpl : (backTo pos (starEach [] X.env)).any (·.1) = false := by rfl) :
    PE X (.Call (.Name x p) [a] [] pos) (tMkE C f ta) := by
  refine ⟨fun pins s σ H Q I h => ?_⟩
  refine wpAny_Call_Name_kw (ld_glob I hg T.gC ?_ hdb)
  refine PySem.W.callWith_K (h₀ := X.base) I.ok.mod.kin T.kC (thn (ha.run pos pins s σ H _ I h) fun us s1 hh => ?_) he hpl
  obtain ⟨vs, H1, I1, r1, v, ev, q1⟩ := hh
  subst ev
  refine ⟨I1.kIn, ?_⟩
  cases r1 with
  | cons rv rn =>
    rename_i v' us'
    cases rn
    show wpAny _ _ (call (.ref C) [v']) _ _ _
    have hlim := I1.nolimit
    obtain ⟨hp, gn, dr, tk, os⟩ := s1
    refine wpAny_call (made_ (v := v') T (.inl rfl) I1.kIn hlim (by have := hr.dp; omega) fun h' tk' e d M => ?_)
    exact ⟨.ref e, _, held_ I1 rv M, rfl, q1 e d (I1.hok.fresh M.new) (I1.hok.fresh M.dbig) M.dne⟩
theorem pe_mkK {kws : List Keyword} {tk : TA} {p pos : Pos} {k : Nat} (T : ExcT X.K X.mg x f C fI) (hr : Room k X.A) (hkw : PK X kws tk) (hall : (backToKw pos (keywordEach kws X.env)).all (·.1.isSome) = true := by rfl) (hks : (backToKw pos (keywordEach kws X.env)).filterMap (·.1) = [f] := by rfl)
    (hg : Gl X x := by rfl) (hdb : (x == ("__debug__" : Str)) = false := by decide) (hpl : ((backTo pos (starEach [] X.env)).any (·.1) || (backToKw pos (keywordEach kws X.env)).any (·.1.isNone)) = false := by rfl) :
    PE X (.Call (.Name x p) [] kws pos) (tMkE C f tk) := by
  refine ⟨fun pins s σ H Q I h => ?_⟩
  refine wpAny_Call_Name_kw (ld_glob I hg T.gC ?_ hdb)
  refine PySem.W.callWith_KW0 (h₀ := X.base) I.ok.mod.kin T.kC hall (thn (hkw.run pos pins s σ H _ I h) fun us s1 hh => ?_) hpl
  obtain ⟨vs, H1, I1, r1, v, ev, q1⟩ := hh
  subst ev
  refine ⟨I1.kIn, ?_⟩
  rw [hks]
  cases r1 with
  | cons rv rn =>
    rename_i v' us'
    cases rn
    show wpAny _ _ (call (.ref C) [] [(f, v')]) _ _ _
    have hlim := I1.nolimit
    obtain ⟨hp, gn, dr, tk, os⟩ := s1
    refine wpAny_call (made_ (v := v') T (.inr rfl) I1.kIn hlim (by have := hr.dp; omega) fun h' tk' e d M => ?_)
    exact ⟨.ref e, _, held_ I1 rv M, rfl, q1 e d (I1.hok.fresh M.new) (I1.hok.fresh M.dbig) M.dne⟩
/-- e.f of a held exception -/
def tExF (C : Addr) (f : Str) (te : TE) : TE := fun σ H Q => te σ H fun y H1 => ∃ (a d : Addr) (fs : List (Str × V)) (v : V), y = .ref a ∧ H1 a = some (exo a C (some d)) ∧ H1 d = some (exd d fs) ∧ fs.lookup f = some v ∧ Q v H1
theorem pe_exF {e : Expr} {te : TE} {pos : Pos} (T : ExcT X.K X.mg x f C fI) (he : PE X e te) (hb : attributeBase e f X.env (eval e X.env) = eval e X.env := by rfl) : PE X (.Attribute e f pos) (tExF C f te) := by
  refine ⟨fun pins s σ H Q I h => ?_⟩
  refine attr_of hb (thn (he.run pins s σ H _ I h) fun u s1 hh => ?_)
  obtain ⟨y, H1, I1, ry, a, d, fs, v, ey, ea, ed, hl, q⟩ := hh
  subst ey
  obtain rfl : u = Value.ref a := ry
  obtain ⟨t1, ha⟩ := exo_at I1.hok ea
  obtain ⟨mA, hns, hr⟩ := exd_at I1.hok ed
  obtain ⟨od, ho, hlk⟩ := lookIn_ns hns
  obtain ⟨u, hu, ru⟩ := RelO.some_of (v := v) (o := mA f) (by rw [← hl]; exact hr f)
  have J : PySem.W.InstAt s1.heap a _ C (some od) := ⟨ha, rfl, rfl, ho⟩
  exact HandSPX.exc_get I1.kIn J T.ga T.gg T.exC (PySem.W.findObj_own T.hdC T.noN rfl (by rw [hlk, hu])) (handed_of ru) ⟨v, H1, I1.tok _, ru, q⟩
/-- isinstance(e, c) of a held exception -/
def rIsE (K : PySem.W.Frag) (mg : Str → Option Value) : List V → Hp → VK → Prop := fun xs H Q => ∃ (a d C fI : Addr) (x f : Str) (fs : List (Str × V)) (c : V) (u : Value) (b : Bool), xs = [.ref a, c] ∧ ExcT K mg x f C fI ∧ H a = some (exo a C (some d)) ∧ H d = some (exd d fs) ∧ ClsV c u ∧ PySem.W.kitOne K (.ref C) u = some b ∧ Q (.bl b) H
theorem call_isE : CallR X (.builtin "isinstance") (rIsE X.K X.mg) := by
  intro pins s σ H xs us Q I r h
  obtain ⟨a, d, C, fI, x, f, fs, c, u, b, rfl, T, ea, ed, k, e, q⟩ := h
  obtain ⟨u1, u2, rfl, r1, r2⟩ := vals2 r
  have e2 := k.eq r2
  subst e2
  obtain rfl : u1 = Value.ref a := r1
  obtain ⟨t1, ha⟩ := exo_at I.hok ea
  obtain ⟨mA, hns, hr⟩ := exd_at I.hok ed
  obtain ⟨od, ho, hlk⟩ := lookIn_ns hns
  have J : PySem.W.InstAt s.heap a _ C (some od) := ⟨ha, rfl, rfl, ho⟩
  exact PySem.W.kia_one (PySem.W.kitx_exc T.icl T.ga T.gg T.exC T.iha T.ihn T.itk T.ihm) I.kIn J e (fun z => nomatch z) fun tk => ⟨.bl b, H, I.tok tk, rfl, q⟩
end
end WkX
namespace WkX
open PySem PySem.W PySem.Calls PyProof.Rows
/-! ### facts of an error class, read off the head -/
def clsB (K : Frag) (C : Addr) (bm : List Value) (newId : String) : Bool := match K.lookup C with
  | some ⟨.type t, _, .cls cd, sl⟩ => t == "type" && (decide (cd.mro = .ref C :: bm) && (cd.hasDict && (!cd.hasDel && match sl.toList with
    | [_, _, _, _, some (.builtin n), _] => n == newId
    | _ => false)))
  | _ => false
theorem clsB_ok {K : Frag} {C : Addr} {bm : List Value} {newId : String} (h : clsB K C bm newId = true) : ∃ nm q N bs sn sub ab col dd k0 k1 k2 k3 k5, K.lookup C = some (excClassObj nm q C N bs bm true sn sub ab col dd k0 k1 k2 k3 k5 newId) := by
  unfold clsB at h
  split at h
  · rename_i t dd cd sl e
    obtain ⟨h1, h⟩ := He.ba h
    obtain ⟨h2, h⟩ := He.ba h
    obtain ⟨h3, h⟩ := He.ba h
    obtain ⟨h4, h5⟩ := He.ba h
    clear h
    split at h5
    · rename_i k0 k1 k2 k3 n k5 hs
      obtain ⟨nm, bs, mro, ns, qn, hd, sn, sub, ab, col, del⟩ := cd
      have e1 := eq_of_beq h1
      have e2 : mro = .ref C :: bm := of_decide_eq_true h2
      have e3 : hd = true := h3
      have e4 : del = false := by
        have z : (!del) = true := h4
        cases del
        · rfl
        · cases z
      have e5 := eq_of_beq h5
      have e6 : sl = #[k0, k1, k2, k3, some (.builtin n), k5] := by
        obtain ⟨l⟩ := sl
        simp only at hs
        rw [hs]
      subst e1 e2 e3 e4 e5 e6
      exact ⟨_, _, _, _, _, _, _, _, _, _, _, _, _, _, e⟩
    · cases h5
  · cases h
def excB (K : Frag) (x f : Str) (bm : List Value) (newId : String) : Bool :=
  clsB K (He.ga K x) bm newId && (He.eqO (findIn K (.ref (He.ga K x)) "__setattr__") (some (some (.builtin "object.__setattr__"))) && (He.eqO (findIn K (.ref (He.ga K x)) "__getattribute__") (some (some (.builtin "BaseException.__getattribute__"))) &&
  (He.eqO (findIn K (.ref (He.ga K x)) "__getattr__") (some none) && (He.eqO (findIn K (.ref (He.ga K x)) f) (some none) && (He.eqO (findIn K (.ref (He.ga K x)) "__init__") (some (some (.ref (He.ma K (He.ga K x) "__init__")))) &&
  (decide (typeIn K (.ref (He.ma K (He.ga K x) "__init__")) = some (.type "function")) && (keepIn K (.ref (He.ga K x)) && (decide (subIn K (.ref (He.ga K x)) (.type "BaseException") = some true) && (decide (typeIn K (.ref (He.ga K x)) = some (.type "type")) &&
  (hasDictIn K (He.ga K x) && ((clsIn K (He.ga K x)).isSome && (He.eqO (findIn K (.ref (He.ga K x)) "__class__") (some (some (.builtin "object.__class__"))) && (He.eqO (specialIn K (.builtin "object.__class__") "__get__") (some (some (.builtin "getset_descriptor.__get__"))) &&
  (decide (takesIn K (.builtin "object.__class__") = some true) && decide (mroIn K (He.ga K x) (.type "object") = some true)))))))))))))))
theorem excT_mk {K : Frag} {mg : Str → Option Value} {x f : Str} {bm bmB : List Value} {B newId initId : String} (g : mg x = some (.ref (He.ga K x))) (h : excB K x f bm newId = true) (hF : ExcBaseFacts B newId initId bmB) (hT : Tail B bm)
    (hp : ∀ self, refuseLoop self "__setattr__" bm = pure ()) (ho : bm.contains (.type "object") = true) (fok : FieldOk f)
    (fn : ∃ (qual : Str) (oc : Value) (od : Option Addr) (kV doc pm : Value) (an : Option Addr) (cdv ct : Value) (osl : Array (Option Value)) (p1 p2 q1 q2 q3 q4 : Pos),
      K.lookup (He.ma K (He.ga K x) "__init__") = some ⟨oc, od, .func (fnOf "__init__" qual (iA f p1 p2) (iB f q1 q2 q3 q4) (iS f) .none kV doc pm an cdv ct), osl⟩ ∧ codeIn K cdv qual = true) :
    ExcT K mg x f (He.ga K x) (He.ma K (He.ga K x) "__init__") := by
  obtain ⟨a1, h⟩ := He.ba h
  obtain ⟨a2, h⟩ := He.ba h
  obtain ⟨a3, h⟩ := He.ba h
  obtain ⟨a4, h⟩ := He.ba h
  obtain ⟨a5, h⟩ := He.ba h
  obtain ⟨a6, h⟩ := He.ba h
  obtain ⟨a7, h⟩ := He.ba h
  obtain ⟨a8, h⟩ := He.ba h
  obtain ⟨a9, h⟩ := He.ba h
  obtain ⟨a10, h⟩ := He.ba h
  obtain ⟨a11, h⟩ := He.ba h
  obtain ⟨a12, h⟩ := He.ba h
  obtain ⟨a13, h⟩ := He.ba h
  obtain ⟨a14, h⟩ := He.ba h
  obtain ⟨a15, a16⟩ := He.ba h
  exact ⟨g, ⟨B, newId, initId, bm, bmB, clsB_ok a1, hF, hT, hp, ho⟩, He.eqO_ok a2, He.eqO_ok a3, He.eqO_ok a4, He.eqO_ok a5, He.eqO_ok a6, of_decide_eq_true a7, a8, of_decide_eq_true a9, of_decide_eq_true a10, a11, a12, He.eqO_ok a13, He.eqO_ok a14, of_decide_eq_true a15, of_decide_eq_true a16, fok, fn⟩
/-! ### the built-in classes that errors stand over -/
def bV : List Value := [.type "ValueError", .type "Exception", .type "BaseException", .type "object"]
def bR : List Value := [.type "RuntimeError", .type "Exception", .type "BaseException", .type "object"]
def bL : List Value := [.type "LookupError", .type "Exception", .type "BaseException", .type "object"]
def bI : List Value := [.type "IndexError", .type "LookupError", .type "Exception", .type "BaseException", .type "object"]
def bK : List Value := [.type "KeyError", .type "LookupError", .type "Exception", .type "BaseException", .type "object"]
theorem tV : Tail "ValueError" bV := ⟨by decide +kernel, by decide +kernel, by decide +kernel⟩
theorem tR : Tail "RuntimeError" bR := ⟨by decide +kernel, by decide +kernel, by decide +kernel⟩
theorem tL : Tail "LookupError" bL := ⟨by decide +kernel, by decide +kernel, by decide +kernel⟩
theorem tI : Tail "IndexError" bI := ⟨by decide +kernel, by decide +kernel, by decide +kernel⟩
theorem tK : Tail "LookupError" bK := ⟨by decide +kernel, by decide +kernel, by decide +kernel⟩
theorem pV (self : Value) : refuseLoop self "__setattr__" bV = pure () := by kernel_rfl
theorem pR (self : Value) : refuseLoop self "__setattr__" bR = pure () := by kernel_rfl
theorem pL (self : Value) : refuseLoop self "__setattr__" bL = pure () := by kernel_rfl
theorem pI (self : Value) : refuseLoop self "__setattr__" bI = pure () := by kernel_rfl
theorem pK (self : Value) : refuseLoop self "__setattr__" bK = pure () := by kernel_rfl
theorem oV : bV.contains (.type "object") = true := by decide +kernel
theorem oR : bR.contains (.type "object") = true := by decide +kernel
theorem oL : bL.contains (.type "object") = true := by decide +kernel
theorem oI : bI.contains (.type "object") = true := by decide +kernel
theorem oK : bK.contains (.type "object") = true := by decide +kernel
/-! ### a class's constant that is an int -/
def cvB (K : Frag) (C : Addr) (f : Str) (i : Int) : Bool := match findCls K (.ref C) (.type "type") f with
  | some (.val (.int j _)) => decide (j = i)
  | _ => false
theorem cvB_ok {K : Frag} {C : Addr} {f : Str} {i : Int} (h : cvB K C f i = true) : ∃ u, ClX.CVal K C (.type "type") f (.int i) u := by
  unfold cvB at h
  split at h
  · rename_i j t e
    have ej : j = i := of_decide_eq_true h
    subst ej
    exact ⟨_, e, t, rfl⟩
  · cases h
def crB (K : Frag) (C : Addr) : Bool := readsIn K C (.type "type") && He.eqO (specialIn K (.ref C) "__getattribute__") (some (some (.builtin "type.__getattribute__")))
theorem crB_ok {K : Frag} {C : Addr} (h : crB K C = true) : ClX.CRead K C (.type "type") := by
  obtain ⟨h1, h2⟩ := He.ba h
  exact ⟨h1, He.eqO_ok h2⟩
end WkX
namespace WkJ
open PySem PySem.Spec PyProof.Rows L2 LamX
/-- the method m of C is D's -/
def methB (K : PySem.W.Frag) (C D : Addr) (m : Str) : Bool := He.eqO (PySem.W.findIn K (.ref C) m) (some (some (.ref (He.ma K D m)))) && (PySem.W.isFn K (.ref (He.ma K D m)) && PySem.W.keepIn K (.ref (He.ma K D m)))
theorem methB_ok {K : PySem.W.Frag} {C D : Addr} {m : Str} (h : methB K C D m = true) : Meth K C m (He.ma K D m) := by
  obtain ⟨h1, h⟩ := He.ba h
  obtain ⟨h2, h3⟩ := He.ba h
  exact ⟨He.eqO_ok h1, h2, h3⟩
theorem initA_of {K : PySem.W.Frag} {x f qual : Str} {d : DefA} {fd : FuncData} {p1 p2 q1 q2 q3 q4 : Pos} (F : FunC K d fd) (e : d = ⟨fun K => He.ma K (He.ga K x) "__init__", "__init__", qual, WkX.iA f p1 p2, WkX.iB f q1 q2 q3 q4, WkX.iS f, [], [], []⟩) :
    ∃ (qual : Str) (oc : Value) (od : Option Addr) (kV doc pm : Value) (an : Option Addr) (cdv ct : Value) (osl : Array (Option Value)) (p1 p2 q1 q2 q3 q4 : Pos),
      K.lookup (He.ma K (He.ga K x) "__init__") = some ⟨oc, od, .func (PySem.W.fnOf "__init__" qual (WkX.iA f p1 p2) (WkX.iB f q1 q2 q3 q4) (WkX.iS f) .none kV doc pm an cdv ct), osl⟩ ∧ PySem.W.codeIn K cdv qual = true := by
  subst e
  have F := F.funD rfl
  obtain ⟨oc, od, dV, kV, doc, pm, an, cdv, ct, osl, rfl, lk, hcd, hD, _⟩ := F.ex
  rcases hD with ⟨_, rfl⟩ | ⟨z, _⟩
  · exact ⟨_, oc, od, kV, doc, pm, an, cdv, ct, osl, _, _, _, _, _, _, lk, hcd⟩
  · exact absurd rfl z
/-- instances of C are ones of D, by the classes -/
def eqClsB (K : PySem.W.Frag) (C D : Addr) : Bool := He.eqO (PySem.W.findIn K (.ref C) "__class__") (some (some (.builtin "object.__class__"))) && (He.eqO (PySem.W.specialIn K (.builtin "object.__class__") "__get__") (some (some (.builtin "getset_descriptor.__get__"))) && (decide (PySem.W.takesIn K (.builtin "object.__class__") = some true) && (decide (PySem.W.mroIn K C (.type "object") = some true) && decide (PySem.W.kitOne K (.ref C) (.ref D) = some true))))
theorem eqClsB_ok {K : PySem.W.Frag} {C D : Addr} (h : eqClsB K C D = true) : PySem.W.findIn K (.ref C) "__class__" = some (some (.builtin "object.__class__")) ∧ PySem.W.specialIn K (.builtin "object.__class__") "__get__" = some (some (.builtin "getset_descriptor.__get__")) ∧ PySem.W.takesIn K (.builtin "object.__class__") = some true ∧ PySem.W.mroIn K C (.type "object") = some true ∧ PySem.W.kitOne K (.ref C) (.ref D) = some true := by
  obtain ⟨h1, h⟩ := He.ba h
  obtain ⟨h2, h⟩ := He.ba h
  obtain ⟨h3, h⟩ := He.ba h
  obtain ⟨h4, h5⟩ := He.ba h
  exact ⟨He.eqO_ok h1, He.eqO_ok h2, of_decide_eq_true h3, of_decide_eq_true h4, of_decide_eq_true h5⟩
end WkJ
/-! WkJ3: the head's hook, its addresses gathered with a bit mask (the kernel's memory is the bound: eraseDups of every round took 4.5 GB) -/
namespace WkJ
open PySem PySem.Spec PyProof.Rows L2 LamX
/-- breadth first, n rounds; m the mask of the seen -/
def goB (g : Addr → Option Obj) : Nat → Nat → List Addr → List Addr → Nat → List Addr
  | 0, _, _, _, _ => []
  | f + 1, n, [], next, m => match n with
    | 0 => []
    | n + 1 => match next with
      | [] => []
      | a :: r => goB g f n (a :: r) [] m
  | f + 1, n, a :: r, next, m => HandSHeadRun.frNat a fun a => match Nat.beq (Nat.land (Nat.shiftRight m a) 1) 1 with
    | true => goB g f n r next m
    | false => HandSHeadRun.frNat (Nat.lor m (Nat.shiftLeft 1 a)) fun m => match g a with
      | some o => a :: goB g f n r (He.refsD o ++ next) m
      | none => goB g f n r next m
abbrev frB (n : Nat) (g : Addr → Option Obj) : PySem.W.Frag := He.frT g (goB g 20000 n [mainGlobals, sysModules, cStatics] [] 0)
def obsB (n : Nat) (fa : List He.Fa) (da : List DefA) (tf : List He.Defn) (ex : PySem.W.Frag → Bool) (g : Addr → Option Obj) : Al := ((fa.all fun f => f.ok (frB n g)) && ((da.all fun d => d.ok (frB n g)) && (ex (frB n g) && He.tabsB g tf (frB n g))), da.map fun d => fnA (frB n g) (d.at_ (frB n g)))
theorem saysB_of {n : Nat} {fa : List He.Fa} {da : List DefA} {tf : List He.Defn} {ex : PySem.W.Frag → Bool} {h : Heap} (e : obsB n fa da tf ex h.get? = (true, da.map DefA.val)) : Says fa da tf ex h (frB n h.get?) := by
  have e1 : ((fa.all fun f => f.ok (frB n h.get?)) && ((da.all fun d => d.ok (frB n h.get?)) && (ex (frB n h.get?) && He.tabsB h.get? tf (frB n h.get?)))) = true := congrArg (fun z : Al => z.1) e
  have e2 : (da.map fun d => fnA (frB n h.get?) (d.at_ (frB n h.get?))) = da.map DefA.val := congrArg (fun z : Al => z.2) e
  obtain ⟨h0, e1⟩ := He.ba e1
  obtain ⟨h1, e1⟩ := He.ba e1
  obtain ⟨h2, h3⟩ := He.ba e1
  have one : ∀ p ∈ tf, PySem.W.codeHdIn (frB n h.get?) (He.cT (frB n h.get?) p).1 (He.cT (frB n h.get?) p).2 = true ∧ ∃ o, h.get? (He.cT (frB n h.get?) p).2 = some o ∧ He.emptyTab o = true := fun p hp => by
    obtain ⟨h3, h4⟩ := He.ba (List.all_eq_true.mp h3 p hp)
    refine ⟨h3, ?_⟩
    cases q : h.get? (He.cT (frB n h.get?) p).2 with
    | none =>
      rw [q] at h4
      cases h4
    | some o =>
      rw [q] at h4
      exact ⟨o, rfl, h4⟩
  refine ⟨fun f hf => List.all_eq_true.mp h0 f hf, fun d hd => ?_, h2, fun p hp => (one p hp).1, fun p hp => ?_, fun p hp => ?_⟩
  · obtain ⟨i, hi, ed⟩ := List.mem_iff_getElem.mp hd
    have z : (da.map fun d => fnA (frB n h.get?) (d.at_ (frB n h.get?)))[i]? = (da.map DefA.val)[i]? := by rw [e2]
    rw [List.getElem?_map, List.getElem?_map, List.getElem?_eq_getElem hi, ed] at z
    exact DefA.funC (Option.some.inj z) (List.all_eq_true.mp h1 d hd)
  · obtain ⟨_, o, q, z⟩ := one p hp
    exact He.frT_none q z
  · obtain ⟨_, o, q, z⟩ := one p hp
    rw [q, He.emptyTab_eq z]
def hookB (n : Nat) (fa : List He.Fa) (da : List DefA) (tf : List He.Defn) (ex : PySem.W.Frag → Bool) : PySem.W.Hook where
  α := Al
  obs := fun s => obsB n fa da tf ex s.heap.get?
  val := fun _ => (true, da.map DefA.val)
  says := fun _ h => ∃ K : PySem.W.Frag, K.In h ∧ Says fa da tf ex h K
  of := fun _ _ e => ⟨_, He.frT_in, saysB_of e⟩
  keeps := fun _ _ _ ⟨K, hK, c⟩ k => ⟨K, PySem.W.Frag.In.keeps hK k, ⟨c.fact, c.defs, c.ex, c.hd, c.out, fun p hp => k _ _ (c.emp p hp)⟩⟩
theorem obsB_eq {n : Nat} {fa : List He.Fa} {da : List DefA} {tf : List He.Defn} {ex : PySem.W.Frag → Bool} {g : Addr → Option Obj} {s : Shared} (h : ∀ a, g a = s.heap.get? a) : obsB n fa da tf ex g = (hookB n fa da tf ex).obs s := by
  have e : g = s.heap.get? := funext h
  subst e
  rfl
end WkJ
namespace Wk
open PySem PySem.Spec PyProof.Rows L2
/-! ### heaps -/
/-- all that was tracked, but p, is as it was -/
def But (p : Addr) (H H' : Hp) : Prop := ∀ b o, H b = some o → b ≠ p → H' b = some o
theorem But.refl (p : Addr) (H : Hp) : But p H H := fun _ _ e _ => e
theorem But.trans {p : Addr} {H H1 H2 : Hp} (a : But p H H1) (b : But p H1 H2) : But p H H2 := fun c o e h => b c o (a c o e h) h
theorem But.of_same {p : Addr} {H H1 : Hp} (a : Same H H1) : But p H H1 := fun c o e _ => a c o e
theorem same_upd {H : Hp} {a : Addr} {o : HO} (h : H a = none) : Same H (upd H a o) := fun b u e => by
  rw [upd_ne (ne_of_none e h)]
  exact e
theorem But.upd {p : Addr} {H H1 : Hp} {o : HO} (a : But p H H1) : But p H (L2.upd H1 p o) := fun c u e h => by
  rw [upd_ne h]
  exact a c u e h
theorem But.put {p q : Addr} {H H1 : Hp} {o : HO} (a : But p H H1) (h : H q = none) : But p H (L2.upd H1 q o) := fun c u e hc => by
  rw [upd_ne (ne_of_none e h)]
  exact a c u e hc
/-- a new object: what is known of the heap behind it -/
theorem new_eq {H G : Hp} {p : Addr} {o : HO} (n : H p = none) (h : upd H p o = G) : Same H G ∧ G p = some o := by
  subst h
  exact ⟨same_upd n, upd_same⟩
/-- a comprehension's turn without a test -/
theorem tYes_if {σ : L2.St} {H : Hp} {A B : Hp → Prop} (h : A H) : tYes σ H fun b H3 => if b = true then A H3 else B H3 := by
  show if true = true then A H else B H
  exact iteT h
/-! ### the pen -/
def penL (cs : Addr) (t r : Int) : List (Key × V) := [(Sum.inr "cells", .ref cs), (Sum.inr "turn", .int t), (Sum.inr "rest", .int r)]
def penO (cs : Addr) (t r : Int) : HO := .dK (penL cs t r)
/-- a pen at p, its cells at cs; it was turned at most N times -/
structure Pen (H : Hp) (p cs : Addr) (N : Nat) : Prop where
  pen : ∃ t r : Int, H p = some (penO cs t r) ∧ 0 ≤ t ∧ t ≤ (N : Int) ∧ 0 ≤ r
  cells : ∃ ns : List Int, H cs = some (.lst (ns.map V.int)) ∧ ns.length ≤ 63
theorem Pen.ne {H : Hp} {p cs : Addr} {N : Nat} (P : Pen H p cs N) : cs ≠ p := by
  obtain ⟨⟨t, r, h1, _⟩, ns, h2, _⟩ := P
  exact ne_of h2 h1 (by intro z; cases z)
theorem Pen.mono {H : Hp} {p cs : Addr} {N M : Nat} (P : Pen H p cs N) (h : N ≤ M) : Pen H p cs M := by
  obtain ⟨⟨t, r, h1, h2, h3, h4⟩, hc⟩ := P
  exact ⟨⟨t, r, h1, h2, by omega, h4⟩, hc⟩
theorem Pen.same {H H' : Hp} {p cs : Addr} {N : Nat} (P : Pen H p cs N) (s : Same H H') : Pen H' p cs N := by
  obtain ⟨⟨t, r, h1, h2⟩, ns, h3, h4⟩ := P
  exact ⟨⟨t, r, s _ _ h1, h2⟩, ns, s _ _ h3, h4⟩
/-- an object that is no part of the pen is changed or laid -/
theorem Pen.put {H : Hp} {p cs q : Addr} {N : Nat} {o : HO} (P : Pen H p cs N) (h1 : q ≠ p) (h2 : q ≠ cs) : Pen (upd H q o) p cs N := by
  obtain ⟨⟨t, r, a1, a2⟩, ns, a3, a4⟩ := P
  exact ⟨⟨t, r, by rw [upd_ne (Ne.symm h1)]; exact a1, a2⟩, ns, by rw [upd_ne (Ne.symm h2)]; exact a3, a4⟩
theorem Pen.new {H : Hp} {p cs q : Addr} {N : Nat} {o : HO} (P : Pen H p cs N) (h : H q = none) : Pen (upd H q o) p cs N := P.same (same_upd h)
/-- what was free ahead is no part of the pen -/
theorem Pen.free {H : Hp} {p cs q : Addr} {N : Nat} (P : Pen H p cs N) (h : H q = none) : q ≠ p ∧ q ≠ cs := by
  obtain ⟨⟨t, r, a1, a2⟩, ns, a3, a4⟩ := P
  exact ⟨Ne.symm (ne_of_none a1 h), Ne.symm (ne_of_none a3 h)⟩
theorem pen_turn (cs : Addr) (t r u : Int) : putK (penL cs t r) (Sum.inr "turn" : Key) (.int u) = penL cs u r := by
  unfold penL putK
  rfl
theorem pen_rest (cs : Addr) (t r u : Int) : putK (penL cs t r) (Sum.inr "rest" : Key) (.int u) = penL cs t u := by
  unfold penL putK
  rfl
theorem pen_g1 (cs : Addr) (t r : Int) : valV (penL cs t r) (Sum.inr "cells" : Key) = some (.ref cs) := by rfl
theorem pen_g2 (cs : Addr) (t r : Int) : valV (penL cs t r) (Sum.inr "turn" : Key) = some (.int t) := by rfl
theorem pen_g3 (cs : Addr) (t r : Int) : valV (penL cs t r) (Sum.inr "rest" : Key) = some (.int r) := by rfl
/-- pen['turn'] .. -/
theorem get_cells {H : Hp} {p cs : Addr} {t r : Int} (h : H p = some (penO cs t r)) : DGet H p (.str "cells") (some (.ref cs)) := by
  have e := DGet.k (k := Sum.inr "cells") h
  rw [pen_g1] at e
  exact e
theorem get_turn {H : Hp} {p cs : Addr} {t r : Int} (h : H p = some (penO cs t r)) : DGet H p (.str "turn") (some (.int t)) := by
  have e := DGet.k (k := Sum.inr "turn") h
  rw [pen_g2] at e
  exact e
theorem get_rest {H : Hp} {p cs : Addr} {t r : Int} (h : H p = some (penO cs t r)) : DGet H p (.str "rest") (some (.int r)) := by
  have e := DGet.k (k := Sum.inr "rest") h
  rw [pen_g3] at e
  exact e
theorem put_turn {H : Hp} {p cs : Addr} {t r u : Int} (h : H p = some (penO cs t r)) : DPut H p (.str "turn") (.int u) (upd H p (penO cs u r)) := by
  have e := DPut.k (k := Sum.inr "turn") (v := .int u) h (by show 3 < sizeLine; decide)
  rw [pen_turn] at e
  exact e
theorem put_rest {H : Hp} {p cs : Addr} {t r u : Int} (h : H p = some (penO cs t r)) : DPut H p (.str "rest") (.int u) (upd H p (penO cs t u)) := by
  have e := DPut.k (k := Sum.inr "rest") (v := .int u) h (by show 3 < sizeLine; decide)
  rw [pen_rest] at e
  exact e

/-! ### names of built-ins that the module leaves as they are -/
structure Bi (mg : Str → Option Value) : Prop where
  n_abs : mg "abs" = none
  n_all : mg "all" = none
  n_any : mg "any" = none
  n_bool : mg "bool" = none
  n_dict : mg "dict" = none
  n_enumerate : mg "enumerate" = none
  n_int : mg "int" = none
  n_isinstance : mg "isinstance" = none
  n_len : mg "len" = none
  n_list : mg "list" = none
  n_max : mg "max" = none
  n_min : mg "min" = none
  n_range : mg "range" = none
  n_repr : mg "repr" = none
  n_set : mg "set" = none
  n_sorted : mg "sorted" = none
  n_str : mg "str" = none
  n_sum : mg "sum" = none
  n_tuple : mg "tuple" = none
  n_zip : mg "zip" = none
  n_reversed : mg "reversed" = none
  n_super : mg "super" = none
  n_ValueError : mg "ValueError" = none
  n_LookupError : mg "LookupError" = none
  n_KeyError : mg "KeyError" = none
  n_IndexError : mg "IndexError" = none
  n_ArithmeticError : mg "ArithmeticError" = none
  n_OverflowError : mg "OverflowError" = none
  n_ZeroDivisionError : mg "ZeroDivisionError" = none
  n_RuntimeError : mg "RuntimeError" = none
  n_TypeError : mg "TypeError" = none
theorem cut_map {α : Type} (f : α → V) (ns : List α) (lo hi : Option Int) : ∃ ms : List α, cutV (ns.map f) lo hi = ms.map f ∧ ms.length ≤ ns.length := by
  refine ⟨(ns.drop (HT.sIx (ns.map f).length 0 lo)).take (HT.sIx (ns.map f).length (ns.map f).length hi - HT.sIx (ns.map f).length 0 lo), ?_, ?_⟩
  · unfold cutV
    rw [List.map_take, List.map_drop]
  · rw [List.length_take, List.length_drop]
    omega
/-! ### a def of the text, and how it is called -/
def Def (K : PySem.W.Frag) (mg : Str → Option Value) (x : Str) (st : Stmt) : Prop := ∃ f fd, FnP K x x st f fd ∧ mg x = some (.ref f)
/-- what a caller takes of a def -/
def Callee (P : Program) (w : World) (K : PySem.W.Frag) (mg : Str → Option Value) (base : Heap) (CX : CXT) (k : Nat) (x : Str) (ps : List Str) (sp : Sp) : Prop :=
  ∃ f fd, FnOk P w K mg base CX k f fd ps sp ∧ mg x = some (.ref f) ∧ PySem.W.keepIn K (.ref f) = true ∧ Binds K fd ps []
section
variable {X : Cx} {CX : CXT} {k : Nat} {ps : List Str} {sp : Sp} {E : XK} {x : Str} {p pos : Pos} {e : Expr} {es : List Expr} {t : TA}
theorem pe_c (C : Callee X.prog X.w X.K X.mg X.base CX k x ps sp) (hr : Room k X.A) (hx : Passes CX X E) (ha : PA X (e :: es) t) (hg : Gl X x := by rfl) (hdb : (x == ("__debug__" : Str)) = false := by decide)
    (he : starEach (e :: es) X.env = (false, eval e X.env) :: starEach es X.env := by rfl) (hpl : (backTo pos (starEach es X.env)).any (·.1) = false := by rfl) : PE X (.Call (.Name x p) (e :: es) [] pos) (tCall sp [] E t) := by
  obtain ⟨f, fd, F, g, kp, b⟩ := C
  exact pe_call F hr hg g kp b .nil hx ha hdb he hpl
theorem pe_c0 (C : Callee X.prog X.w X.K X.mg X.base CX k x ps sp) (hr : Room k X.A) (hx : Passes CX X E) (hg : Gl X x := by rfl) (hdb : (x == ("__debug__" : Str)) = false := by decide) : PE X (.Call (.Name x p) [] [] pos) (tCall sp [] E tNil) := by
  obtain ⟨f, fd, F, g, kp, b⟩ := C
  exact pe_call0 F hr hg g kp b .nil hx hdb
end
section
variable {P : Program} {w : World} {K : PySem.W.Frag} {mg : Str → Option Value} {base : Heap}
theorem fm {x m : Int} (h : 1 ≤ m) : 0 ≤ x.fmod m ∧ x.fmod m < m := by
  rw [Int.fmod_eq_emod_of_nonneg x (by omega)]
  exact ⟨Int.emod_nonneg x (by omega), Int.emod_lt_of_pos x (by omega)⟩
theorem fq {x m : Int} (h : 1 ≤ m) (hx : 0 ≤ x) : 0 ≤ x.fdiv m := by
  rw [Int.fdiv_eq_ediv_of_nonneg x (by omega)]
  exact Int.ediv_nonneg hx (by omega)
theorem at_ints {ns : List Int} {i : Int} (h0 : 0 ≤ i) (h1 : i < (ns.length : Int)) : ∃ c, atI (ns.map V.int) i = some (.int c) := by
  have hj : i.toNat < ns.length := by omega
  refine ⟨ns[i.toNat], at_of (j := i.toNat) (by omega) ?_⟩
  rw [List.getElem?_map, List.getElem?_eq_getElem hj]
  rfl
theorem at_primes {i : Int} (h : 0 ≤ i ∧ i < 5) : ∃ p : Int, atI [.int 2147483647, .int 2147483629, .int 2147483587, .int 2147483579, .int 2147483563] i = some (V.int p) ∧ 2147483563 ≤ p ∧ p ≤ 2147483647 := by
  have e : i = 0 ∨ i = 1 ∨ i = 2 ∨ i = 3 ∨ i = 4 := by omega
  rcases e with rfl | rfl | rfl | rfl | rfl
  · exact ⟨_, rfl, by decide, by decide⟩
  · exact ⟨_, rfl, by decide, by decide⟩
  · exact ⟨_, rfl, by decide, by decide⟩
  · exact ⟨_, rfl, by decide, by decide⟩
  · exact ⟨_, rfl, by decide, by decide⟩
theorem absI (c : Int) : 0 ≤ (if c < 0 then -c else c) := by
  split <;> omega
/-! ### _law_pen -/
def spPen (K : PySem.W.Frag) : Sp := fun vs H Q _ => ∃ (a : Addr) (ns : List Int), vs = [.ref a] ∧ SqL K H a (ns.map V.int) ∧ ns.length ≤ 63 ∧ ∀ p cs H', H p = none → H cs = none → Same H H' → Pen H' p cs 0 → Q (.ref p) H'
theorem sc_pen : FnScope ["_law_script"] ["_law_script"] (defScope s_L_pen) := ⟨rfl, rfl, rfl, by decide +kernel, rfl, by decide +kernel, by decide +kernel⟩
theorem c_pen (D : Def K mg "_law_pen" s_L_pen) (B : Bi mg) : Callee P w K mg base CX0 1 "_law_pen" ["_law_script"] (spPen K) := by
  obtain ⟨f, fd, F, g⟩ := D
  refine ⟨f, fd, F.ok sc_pen (fun vs H Q E h => ?_) (fun cdv A outer s H vs Q E hr h => ⟨_, PSs.nox (pss_one (ps_ret (pe_disp (pps_cons pe_str (pe_callTy call_list_of (by rfl) B.n_list (by decide +kernel) (pa_cons (pe_slice sl_list (pv 0) po_none (po_some pe_int)) pa_nil)) (pps_cons pe_str pe_int (pps_cons pe_str pe_int pps_nil))) (by rfl) (by rfl) (fun z => by cases z) (by decide)))), ?_⟩), g, F.kp, F.bindsN (fun _ _ _ _ _ _ us hl => match us, hl with | [_], _ => rfl)⟩
  · obtain ⟨a, ns, rfl, _⟩ := h
    rfl
  · obtain ⟨a, ns, rfl, hS, hl, k⟩ := h
    intro p np
    have s1 : Same H (upd H p (.dK [])) := same_upd np
    refine ⟨_, rfl, _, rfl, a, _, rfl, s1.seq hS, fun q nq => ?_⟩
    refine ⟨q, _, rfl, .inl (SqL.of upd_same), fun cs ncs => ?_⟩
    obtain ⟨ms, em, hm⟩ := cut_map V.int ns none (some 63)
    have nqp : q ≠ p := fun z => by
      rw [z, upd_same] at nq
      cases nq
    have ncp : cs ≠ p := fun z => by
      rw [z, upd_ne (Ne.symm nqp), upd_same] at ncs
      cases ncs
    have ncq : cs ≠ q := fun z => by
      rw [z, upd_same] at ncs
      cases ncs
    refine ⟨?_, [(Sum.inr "cells", .ref cs), (Sum.inr "turn", .int 0), (Sum.inr "rest", .int 0)], rfl, (by show 3 ≤ 15; decide), ?_⟩
    · rw [upd_ne (Ne.symm ncp), upd_ne (Ne.symm nqp), upd_same]
    · have n1 : H cs = none := by
        rw [upd_ne ncq, upd_ne ncp] at ncs
        exact ncs
      have n2 : H q = none := by
        rw [upd_ne nqp] at nq
        exact nq
      refine k p cs _ np n1 (fun b o e => ?_) ⟨⟨0, 0, upd_same, by omega, by omega, by omega⟩, ms, ?_, by omega⟩
      · rw [upd_ne (ne_of_none e np), upd_ne (ne_of_none e n1), upd_ne (ne_of_none e n2), upd_ne (ne_of_none e np)]
        exact e
      · rw [upd_ne ncp, upd_same, em]
/-! ### _law_draw -/
def spDraw : Sp := fun vs H Q _ => ∃ (p cs : Addr) (m : Int) (N : Nat), vs = [.ref p, .int m] ∧ 1 ≤ m ∧ m < 1073741824 ∧ Pen H p cs N ∧ N < 2 ^ 60 ∧
  ∀ i H', 0 ≤ i → i < m → But p H H' → Pen H' p cs (N + 1) → Q (.int i) H'
theorem sc_draw : FnScope ["_law_pen_here", "_law_many", "_law_digit", "_law_turn", "_law_cell", "_law_primes", "_law_prime", "_law_drawn"] ["_law_pen_here", "_law_many"] (defScope s_L_draw) := ⟨rfl, rfl, rfl, by decide +kernel, rfl, by decide +kernel, by decide +kernel⟩
theorem c_draw (D : Def K mg "_law_draw" s_L_draw) (B : Bi mg) : Callee P w K mg base CX0 1 "_law_draw" ["_law_pen_here", "_law_many"] spDraw := by
  obtain ⟨f, fd, F, g⟩ := D
  refine ⟨f, fd, F.ok sc_draw (fun vs H Q E h => ?_) (fun cdv A outer s H vs Q E hr h => ?_), g, F.kp, F.bindsN (fun _ _ _ _ _ _ us hl => match us, hl with | [_, _], _ => rfl)⟩
  · obtain ⟨p, cs, m, N, rfl, _⟩ := h
    rfl
  · have hu := hu_of hr
    have nd := sc_draw.nd
    refine ⟨_, PSs.nox (pss_cons (ps_if (pt_cmpR op_gt (pe_dget hu (pv 0) pe_str (fun _ _ => rfl)) pe_int (nomark _))
      (pss_cons (ps_set (i := 2) nd rfl (Or.inl rfl) (pe_op op_modN (pe_dget hu (pv 0) pe_str (fun _ _ => rfl)) (pv 1)))
      (pss_cons (ps_dput hu (pv 0) pe_str (pe_op op_fdivN (pe_dget hu (pv 0) pe_str (fun _ _ => rfl)) (pv 1)) rfl)
      (pss_one (ps_ret (pv 2))))) pss_nil)
      (pss_cons (ps_set (i := 3) nd rfl (Or.inl rfl) (pe_dget hu (pv 0) pe_str (fun _ _ => rfl)))
      (pss_cons (ps_dput hu (pv 0) pe_str (pe_op op_add (pv 3) pe_int) rfl)
      (pss_cons (ps_set (i := 4) nd rfl (Or.inl rfl) (pe_op op_add (pe_op op_mul pe_int (pv 3)) pe_int))
      (C8.pss_cut (ps_if (pt_cmpR (WkG.op_neNil hr.units) (pe_dget hu (pv 0) pe_str (fun _ _ => rfl)) (pe_lst pa_nil) (nomark _))
      (pss_one (ps_set (i := 4) nd rfl (Or.inl rfl) (pe_ix ix_list (pe_dget hu (pv 0) pe_str (fun _ _ => rfl)) (pe_op op_modN (pv 3) (pe_callB call_len_seq (by rfl) B.n_len (by decide +kernel) (pa_cons (pe_dget hu (pv 0) pe_str (fun _ _ => rfl)) pa_nil))) (fun _ _ => rfl)))) pss_nil)
      (C8.pss_cut (ps_if (PW.pt (pw_and (pt_cmpR op_lt (pv 3) (pe_callB call_len_seq (by rfl) B.n_len (by decide +kernel) (pa_cons (pe_dget hu (pv 0) pe_str (fun _ _ => rfl)) pa_nil)) (nomark _)) (pw_and1 (pt_cmpR op_ge (pe_callB call_abs (by rfl) B.n_abs (by decide +kernel) (pa_cons (pv 4) pa_nil)) (pe_op op_pow pe_int pe_int) (nomark _)))))
      (pss_cons (ps_dput hu (pv 0) pe_str (pe_op op_fdivN (pe_op op_sub (pe_callB call_abs (by rfl) B.n_abs (by decide +kernel) (pa_cons (pv 4) pa_nil)) (pe_op op_pow pe_int pe_int)) (pv 1)) rfl)
      (pss_one (ps_ret (pe_op op_modN (pe_op op_sub (pe_callB call_abs (by rfl) B.n_abs (by decide +kernel) (pa_cons (pv 4) pa_nil)) (pe_op op_pow pe_int pe_int)) (pv 1))))) pss_nil)
      (pss_cons (ps_set (i := 5) nd rfl (Or.inl rfl) (pe_lst (pa_cons pe_int (pa_cons pe_int (pa_cons pe_int (pa_cons pe_int (pa_cons pe_int pa_nil)))))))
      (pss_cons (ps_set (i := 6) nd rfl (Or.inl rfl) (pe_ix ix_list (pv 5) (pe_op op_modN (pv 3) pe_int) (fun _ _ => rfl)))
      (pss_cons (ps_set (i := 7) nd rfl (Or.inl rfl) (pe_op op_modN (pe_op op_add (pe_op op_add (pe_op op_mul (pe_op op_modN (pv 4) (pv 6)) pe_int) (pe_op op_mul (pe_op op_mul pe_int (pv 3)) (pv 3))) pe_int) (pv 6)))
      (pss_cons (ps_set (i := 7) nd rfl (Or.inl rfl) (pe_op op_modN (pe_op op_mul (pv 7) (pe_op op_add (pv 7) pe_int)) (pe_ix ix_list (pv 5) (pe_op op_modN (pe_op op_add (pv 3) pe_int) pe_int) (fun _ _ => rfl))))
      (pss_one (ps_ret (pe_op op_modN (pe_op op_fdivN (pe_op op_modN (pe_op op_mul (pv 7) (pv 7)) pe_int) pe_int) (pv 1)))))))))))))), ?_⟩
    obtain ⟨p, cs, m, N, rfl, m1, m2, hP, hN, k⟩ := h
    obtain ⟨⟨t, r, hp, t0, tN, r0⟩, ns, hc, hl⟩ := id hP
    refine ⟨_, rfl, p, _, rfl, get_rest hp, _, _, rfl, rfl, _, rfl, ?_⟩
    refine ite2 (fun h0 => ?_) (fun h0 => ?_)
    · refine ⟨_, rfl, p, _, rfl, get_rest hp, _, rfl, _, _, rfl, rfl, ?_, ?_⟩
      · omega
      refine ⟨_, rfl, p, _, rfl, get_rest hp, _, rfl, _, _, rfl, rfl, ⟨by omega, by omega⟩, _, rfl, p, _, rfl, put_rest hp, _, rfl, ?_⟩
      obtain ⟨f1, f2⟩ := fm (x := r) m1
      refine k _ _ f1 f2 ((But.refl p H).upd) ⟨⟨t, _, upd_same, t0, by omega, fq m1 r0⟩, ns, ?_, hl⟩
      rw [upd_ne hP.ne]
      exact hc
    · refine ⟨_, rfl, p, _, rfl, get_turn hp, _, rfl, _, _, rfl, rfl, _, rfl, p, _, rfl, put_turn hp, ?_⟩
      have hp1 : upd H p (penO cs (t + 1) r) p = some (penO cs (t + 1) r) := upd_same
      have hc1 : upd H p (penO cs (t + 1) r) cs = some (.lst (ns.map V.int)) := by
        rw [upd_ne hP.ne]
        exact hc
      have b1 : But p H (upd H p (penO cs (t + 1) r)) := (But.refl p H).upd
      generalize upd H p (penO cs (t + 1) r) = H1 at hp1 hc1 b1
      refine ⟨_, rfl, _, _, rfl, rfl, .inl ⟨by omega, by omega⟩, _, _, rfl, rfl, ?_⟩
      refine ⟨fun σ H2 => ∃ c : Int, σ = [some (.ref p), some (.int m), none, some (.int t), some (.int c), none, none, none] ∧ But p H H2 ∧ H2 p = some (penO cs (t + 1) r) ∧ H2 cs = some (.lst (ns.map V.int)), ?_, ?_⟩
      · refine ⟨_, rfl, p, _, rfl, get_cells hp1, (by decide), fun l nl => ?_⟩
        have hp2 : upd H1 l (.lst []) p = some (penO cs (t + 1) r) := (same_upd nl) _ _ hp1
        have hc2 : upd H1 l (.lst []) cs = some (.lst (ns.map V.int)) := (same_upd nl) _ _ hc1
        have b2 : But p H (upd H1 l (.lst [])) := b1.trans (But.of_same (same_upd nl))
        have hl2 : upd H1 l (.lst []) l = some (.lst []) := upd_same
        generalize upd H1 l (.lst []) = H2 at hp2 hc2 b2 hl2
        refine ⟨cs, l, _, rfl, rfl, SqL.of hc2, SqL.of hl2, _, rfl, ?_⟩
        refine ite2 (fun he => ?_) (fun he => ?_)
        · have nl0 : ns ≠ [] := fun z => by
            subst z
            cases he
          have n0 : 1 ≤ (ns.length : Int) := by
            have := List.length_pos_iff.mpr nl0
            omega
          obtain ⟨f1, f2⟩ := fm (x := t) n0
          obtain ⟨c, hcc⟩ := at_ints f1 f2
          refine ⟨_, rfl, p, _, rfl, get_cells hp2, _, rfl, _, rfl, p, _, rfl, get_cells hp2, cs, _, rfl, .inl (SqL.of hc2), _, _, rfl, rfl, ?_, cs, _, _, .int c, rfl, rfl, SqL.of hc2, ?_, ?_⟩
          · rw [List.length_map]
            omega
          · rw [List.length_map]
            exact hcc
          · exact ⟨c, rfl, b2, hp2, hc2⟩
        · exact ⟨_, rfl, b2, hp2, hc2⟩
      · rintro σ H2 ⟨c, rfl, b2, hp2, hc2⟩
        refine ⟨fun σ H3 => σ = [some (.ref p), some (.int m), none, some (.int t), some (.int c), none, none, none] ∧ H3 = H2, ?_, ?_⟩
        · refine ⟨_, rfl, _, rfl, p, _, rfl, get_cells hp2, cs, _, rfl, .inl (SqL.of hc2), _, _, rfl, rfl, _, rfl, ?_⟩
          refine ite2 (fun _ => ?_) (fun _ => iteF ⟨rfl, rfl⟩)
          refine ⟨_, rfl, _, rfl, _, _, rfl, rfl, ?_, _, _, rfl, rfl, _, rfl, ?_⟩
          · exact ⟨by decide, by decide, by decide⟩
          refine ite2 (fun hb => ?_) (fun _ => ⟨rfl, rfl⟩)
          have hb' : (10 : Int) ^ 18 ≤ (if c < 0 then -c else c) := of_decide_eq_true hb
          refine ⟨_, rfl, _, rfl, _, _, rfl, rfl, ⟨by decide, by decide, by decide⟩, _, _, rfl, rfl, _, rfl, _, _, rfl, rfl, ⟨by omega, by omega⟩, _, rfl, p, _, rfl, put_rest hp2, ?_⟩
          refine ⟨_, rfl, _, rfl, _, _, rfl, rfl, ⟨by decide, by decide, by decide⟩, _, _, rfl, rfl, _, rfl, _, _, rfl, rfl, by omega, ?_⟩
          obtain ⟨f1, f2⟩ := fm (x := (if c < 0 then -c else c) - 10 ^ 18) m1
          refine k _ _ f1 f2 b2.upd ⟨⟨t + 1, _, upd_same, by omega, by omega, fq m1 (by show (0 : Int) ≤ (if c < 0 then -c else c) - 10 ^ 18; omega)⟩, ns, ?_, hl⟩
          rw [upd_ne hP.ne]
          exact hc2
        · rintro σ H3 ⟨rfl, rfl⟩
          refine ⟨by decide, fun l nl => ?_⟩
          have hp3 : upd H3 l (.lst [.int 2147483647, .int 2147483629, .int 2147483587, .int 2147483579, .int 2147483563]) p = some (penO cs (t + 1) r) := (same_upd nl) _ _ hp2
          have hc3 : upd H3 l (.lst [.int 2147483647, .int 2147483629, .int 2147483587, .int 2147483579, .int 2147483563]) cs = some (.lst (ns.map V.int)) := (same_upd nl) _ _ hc2
          have b3 : But p H (upd H3 l (.lst [.int 2147483647, .int 2147483629, .int 2147483587, .int 2147483579, .int 2147483563])) := b2.trans (But.of_same (same_upd nl))
          have hl3 : upd H3 l (.lst [.int 2147483647, .int 2147483629, .int 2147483587, .int 2147483579, .int 2147483563]) l = some (.lst [.int 2147483647, .int 2147483629, .int 2147483587, .int 2147483579, .int 2147483563]) := upd_same
          obtain ⟨p1, a1, g1, g2⟩ := at_primes (fm (x := t) (m := 5) (by decide))
          obtain ⟨p2, a2, g3, g4⟩ := at_primes (fm (x := t + 3) (m := 5) (by decide))
          refine ⟨_, rfl, _, rfl, _, _, rfl, rfl, (by show (5 : Int) ≠ 0; decide), l, _, _, .int p1, rfl, rfl, SqL.of hl3, a1, ?_⟩
          obtain ⟨e1, e2⟩ := fm (x := c) (m := p1) (by omega)
          have n60 : (N : Int) < 2 ^ 60 := by omega
          refine ⟨_, rfl, _, rfl, _, _, rfl, rfl, by omega, _, _, rfl, rfl, .inl ⟨by omega, by omega⟩, _, rfl, _, _, rfl, rfl, .inl ⟨by decide, by decide⟩, _, rfl, _, _, rfl, rfl, .inr ⟨by omega, by omega⟩, _, _, rfl, rfl, _, _, rfl, rfl, _, rfl, _, _, rfl, rfl, by omega, ?_⟩
          obtain ⟨e3, e4⟩ := fm (x := c.fmod p1 * 69621 + 40692 * t * t + 17) (m := p1) (by omega)
          refine ⟨_, rfl, _, rfl, _, _, rfl, rfl, _, _, rfl, rfl, .inl ⟨by omega, by omega⟩, _, rfl, _, rfl, _, _, rfl, rfl, _, _, rfl, rfl, (by show (5 : Int) ≠ 0; decide), l, _, _, .int p2, rfl, rfl, SqL.of hl3, a2, _, _, rfl, rfl, by omega, ?_⟩
          obtain ⟨e5, e6⟩ := fm (x := (c.fmod p1 * 69621 + 40692 * t * t + 17).fmod p1 * ((c.fmod p1 * 69621 + 40692 * t * t + 17).fmod p1 + 48271)) (m := p2) (by omega)
          refine ⟨_, rfl, _, rfl, _, _, rfl, rfl, .inl ⟨by omega, by omega⟩, _, _, rfl, rfl, (by show (2147483549 : Int) ≠ 0; decide), _, _, rfl, rfl, ⟨by decide, by decide⟩, _, rfl, _, _, rfl, rfl, by omega, ?_⟩
          obtain ⟨e7, e8⟩ := fm (x := _) m1
          exact k _ _ e7 e8 b3 ⟨⟨t + 1, r, hp3, by omega, by omega, r0⟩, ns, hc3, hl⟩
/-! ### _law_pick -/
theorem seq_but {K : PySem.W.Frag} {H H' : Hp} {p l cs : Addr} {N : Nat} {xs : List V} (h : SqL K H l xs) (P : Pen H p cs N) (b : But p H H') : SqL K H' l xs := by
  obtain ⟨⟨t, r, hp, _⟩, _⟩ := P
  rcases h with (h | ⟨o, h⟩) | h
  · exact .inl (.inl (b _ _ h (ne_of h hp (by intro z; cases z))))
  · exact .inl (.inr ⟨o, b _ _ h (ne_of h hp (by intro z; cases z))⟩)
  · exact .inr h
theorem tup_but {K : PySem.W.Frag} {H H' : Hp} {p l cs : Addr} {N : Nat} {xs : List V} (h : SqT K H l xs) (P : Pen H p cs N) (b : But p H H') : SqT K H' l xs := by
  obtain ⟨⟨t, r, hp, _⟩, _⟩ := P
  rcases h with (h | ⟨o, h⟩) | h
  · exact .inl (.inl (b _ _ h (ne_of h hp (by intro z; cases z))))
  · exact .inl (.inr ⟨o, b _ _ h (ne_of h hp (by intro z; cases z))⟩)
  · exact .inr h
theorem at_list {xs : List V} {i : Int} (h0 : 0 ≤ i) (h1 : i < (xs.length : Int)) : ∃ v, v ∈ xs ∧ atI xs i = some v := by
  have hj : i.toNat < xs.length := by omega
  exact ⟨xs[i.toNat], List.getElem_mem hj, at_of (j := i.toNat) (by omega) (List.getElem?_eq_getElem hj)⟩
theorem at_nat {α : Type} {xs : List α} {i : Int} (h0 : 0 ≤ i) (hj : i.toNat < xs.length) : atI xs i = some xs[i.toNat] := by
  have e : i = ((i.toNat : Nat) : Int) := by omega
  have q := atI_nat (xs := xs) (List.getElem?_eq_getElem hj)
  rw [← e] at q
  exact q
/-- of a list: one of its items; of a text: one of its signs -/
def spPick (K : PySem.W.Frag) : Sp := fun vs H Q _ => ∃ (p cs : Addr) (N : Nat), Pen H p cs N ∧ N < 2 ^ 60 ∧
  ((∃ (l : Addr) (xs : List V), vs = [.ref p, .ref l] ∧ (SqL K H l xs ∨ SqT K H l xs) ∧ xs ≠ [] ∧ xs.length < 1073741824 ∧ ∀ x H', x ∈ xs → But p H H' → Pen H' p cs (N + 1) → Q x H') ∨
   ∃ z : Str, vs = [.ref p, .str z] ∧ 0 < z.length ∧ z.length < 1000000 ∧ ∀ c H', c ∈ z.cps.toList → But p H H' → Pen H' p cs (N + 1) → Q (.str ⟨#[c]⟩) H')
theorem sc_pick : FnScope ["_law_pen_here", "_law_some"] ["_law_pen_here", "_law_some"] (defScope s_L_pick) := ⟨rfl, rfl, rfl, by decide +kernel, rfl, by decide +kernel, by decide +kernel⟩
theorem c_pick (D : Def K mg "_law_pick" s_L_pick) (B : Bi mg) (CD : Callee P w K mg base CX0 1 "_law_draw" ["_law_pen_here", "_law_many"] spDraw) : Callee P w K mg base CX0 2 "_law_pick" ["_law_pen_here", "_law_some"] (spPick K) := by
  obtain ⟨f, fd, F, g⟩ := D
  refine ⟨f, fd, F.ok sc_pick (fun vs H Q E h => ?_) (fun cdv A outer s H vs Q E hr h => ?_), g, F.kp, F.bindsN (fun _ _ _ _ _ _ us hl => match us, hl with | [_, _], _ => rfl)⟩
  · obtain ⟨p, cs, N, _, _, ⟨l, xs, rfl, _⟩ | ⟨z, rfl, _⟩⟩ := h
    · rfl
    · rfl
  · have hu := hu_of hr
    have nd := sc_pick.nd
    have hr1 : Room 1 _ := hr
    refine ⟨_, PSs.nox (pss_one (ps_ret (pe_ix ix_seq (pv 1) (pe_c CD hr1 pass0 (pa_cons (pv 0) (pa_cons (pe_callB call_len (by rfl) B.n_len boot_len (pa_cons (pv 1) pa_nil)) pa_nil))) (fun _ _ => rfl)))), ?_⟩
    obtain ⟨p, cs, N, hP, hN, ⟨l, xs, rfl, hS, hne, hlen, k⟩ | ⟨z, rfl, z0, z1, k⟩⟩ := h
    · have pos := List.length_pos_iff.mpr hne
      refine ⟨_, rfl, _, rfl, _, rfl, _, xs.length, rfl, ?_, p, cs, _, N, rfl, by omega, by omega, hP, hN, fun i H' i0 i1 b P' => ?_⟩
      · rcases hS with h | h
        · exact .inl ⟨_, h, rfl⟩
        · exact .inr ⟨_, h, rfl⟩
      obtain ⟨v, hv, ha⟩ := at_list i0 i1
      rcases hS with h | h
      · exact .inl ⟨l, _, _, v, rfl, rfl, seq_but h hP b, ha, k v H' hv b P'⟩
      · exact .inr (.inl ⟨l, _, _, v, rfl, rfl, tup_but h hP b, ha, k v H' hv b P'⟩)
    · have lz : z.length ≤ sizeLine := Nat.le_trans (Nat.le_of_lt z1) (by decide)
      have ec : z.cps.toList.length = z.length := by
        show z.cps.toList.length = z.cps.size
        simp
      refine ⟨_, rfl, _, rfl, _, rfl, _, z.length, rfl, ⟨lz, rfl⟩, p, cs, _, N, rfl, by omega, by omega, hP, hN, fun i H' i0 i1 b P' => ?_⟩
      have hj : i.toNat < z.cps.toList.length := by omega
      exact .inr (.inr ⟨z, i, z.cps.toList[i.toNat], rfl, rfl, lz, at_nat i0 hj, k _ H' (List.getElem_mem hj) b P'⟩)
end
end Wk
namespace Wk
open PySem PySem.Spec PyProof.Rows L2 WkD WkN
section
variable {P : Program} {w : World} {K : PySem.W.Frag} {mg : Str → Option Value} {base : Heap}
/-! ### is_between -/
/-- ints -/
def spBetween (K : PySem.W.Frag) : Sp := fun vs H Q _ => ∃ (x : V) (lo hi : Int), vs = [x, .int lo, .int hi] ∧ ((∃ i : Int, x = .int i ∧ Q (.bl (decide (lo ≤ i) && decide (i ≤ hi))) H) ∨ (∃ b : Bool, x = .bl b ∧ Q (.bl false) H) ∨ ∃ t, TyX K H x t ∧ PySem.W.kitOne K t (.type "int") = some false ∧ Q (.bl false) H)
theorem sc_is_between : FnScope ["value", "low", "high"] ["value", "low", "high"] (defScope s_is_between) := ⟨rfl, rfl, rfl, by decide +kernel, rfl, by decide +kernel, by decide +kernel⟩
theorem c_is_between (D : Def K mg "is_between" s_is_between) (B : Bi mg) : Callee P w K mg base CX0 1 "is_between" ["value", "low", "high"] (spBetween K) := by
  obtain ⟨f, fd, F, g⟩ := D
  refine ⟨f, fd, F.ok sc_is_between (fun vs H Q E h => ?_) (fun cdv A outer s H vs Q E hr h => ⟨_, PSs.nox (pss_one (ps_ret (pe_and (pe_callB call_isi (by rfl) B.n_isinstance (by decide +kernel) (pa_cons (pv 0) (pa_cons (pe_bltn (v := .ty "int") (by rfl) B.n_int (by decide +kernel) rfl) pa_nil))) (pe_and (pe_not (pe_callB call_isi (by rfl) B.n_isinstance (by decide +kernel) (pa_cons (pv 0) (pa_cons (pe_bltn (v := .ty "bool") (by rfl) B.n_bool (by decide +kernel) rfl) pa_nil)))) (pe_one (pe_chain op_le op_le (pv 1) (pv 0) (pv 2))))))), ?_⟩), g, F.kp, F.bindsN (fun _ _ _ _ _ _ us hl => match us, hl with | [_, _, _], _ => rfl)⟩
  · obtain ⟨x, lo, hi, rfl, _⟩ := h
    rfl
  · obtain ⟨x, lo, hi, rfl, h⟩ := h
    rcases h with ⟨i, rfl, q⟩ | ⟨b, rfl, q⟩ | ⟨t, ty, hk, q⟩
    · refine ⟨_, rfl, _, _, _, _, true, rfl, .ty _, .base (.int i), kit_ty (by decide +kernel), true, rfl, ?_⟩
      refine ⟨_, rfl, _, _, _, _, false, rfl, .ty _, .base (.int i), kit_ty (by decide +kernel), false, rfl, true, rfl, ?_⟩
      refine ⟨_, rfl, _, rfl, _, _, rfl, rfl, _, rfl, ?_⟩
      refine ite2 (fun h1 => ?_) (fun h1 => ?_)
      · refine ⟨_, rfl, _, _, rfl, rfl, ?_⟩
        rw [h1, Bool.true_and] at q
        exact q
      · rw [bF h1, Bool.false_and] at q
        exact q
    · refine ⟨_, rfl, _, _, _, _, true, rfl, .ty _, .base (.bl b), kit_ty (by decide +kernel), true, rfl, ?_⟩
      exact ⟨_, rfl, _, _, _, _, true, rfl, .ty _, .base (.bl b), kit_ty (by decide +kernel), true, rfl, false, rfl, q⟩
    · exact ⟨_, rfl, _, _, _, _, false, rfl, .ty _, ty, hk, false, rfl, q⟩
/-! ### is_name -/
def spName (K : PySem.W.Frag) : Sp := fun vs H Q _ => (∃ z, vs = [.str z] ∧ z.length ≤ sizeLine ∧ ∀ H', Same H H' → Q (.bl (nameB z)) H') ∨ ∃ x t, vs = [x] ∧ TyX K H x t ∧ PySem.W.kitOne K t (.type "str") = some false ∧ Q (.bl false) H
theorem sc_is_name : FnScope ["value", "letter"] ["value"] (defScope s_is_name) := ⟨rfl, rfl, rfl, by decide +kernel, rfl, by decide +kernel, by decide +kernel⟩
theorem c_is_name {tL : Tok} (D : Def K mg "is_name" s_is_name) (B : Bi mg) (gL : mg "LETTERS" = some (.str letS tL)) : Callee P w K mg base CX0 1 "is_name" ["value"] (spName K) := by
  obtain ⟨f, fd, F, g⟩ := D
  refine ⟨f, fd, F.ok sc_is_name (fun vs H Q E h => ?_) (fun cdv A outer s H vs Q E hr h => ?_), g, F.kp, F.bindsN (fun _ _ _ _ _ _ us hl => match us, hl with | [_], _ => rfl)⟩
  · rcases h with ⟨z, rfl, _⟩ | ⟨x, t, rfl, _⟩
    · rfl
    · rfl
  · have nd := sc_is_name.nd
    refine ⟨_, PSs.nox (pss_one (ps_ret (pe_and (pe_callB call_isi (by rfl) B.n_isinstance (by decide +kernel) (pa_cons (pv 0) (pa_cons (pe_bltn (v := .ty "str") (by rfl) B.n_str (by decide +kernel) rfl) pa_nil))) (pe_and (pe_chain op_lt op_lt pe_int (pe_callB call_len (by rfl) B.n_len boot_len (pa_cons (pv 0) pa_nil)) pe_int) (pe_one (pe_callB (cr_all rfl) (by rfl) B.n_all (by decide +kernel) (pa_cons (pe_lc (own := [("letter", 1)]) (by rfl) nd (pi_str (pv 0)) (blkOk_by (by kernel_rfl)) (fun _ _ _ _ _ => (pg_name (i := 1) nd rfl (Or.inl rfl))) (fun _ _ _ _ _ => pts_nil) (fun _ _ _ _ _ => (pe_cmpR op_in_sign (pv 1) (pe_glob (v := .str letS) (by rfl) gL ⟨_, rfl⟩) (by rfl)))) pa_nil))))))), ?_⟩
    rcases h with ⟨z, rfl, hz, k⟩ | ⟨x, t, rfl, ty, hk, q⟩
    · refine ⟨_, rfl, _, _, _, _, true, rfl, .ty _, .base (.str z), kit_ty (by decide +kernel), true, rfl, ?_⟩
      refine ⟨_, rfl, _, z.length, rfl, ⟨hz, rfl⟩, _, _, rfl, rfl, _, rfl, ?_⟩
      unfold nameB at k
      refine ite2 (fun h1 => ?_) (fun h1 => ?_)
      · refine ⟨_, _, rfl, rfl, ?_⟩
        refine ⟨_, rfl, ?_⟩
        rw [h1, Bool.true_and] at k
        refine ite2 (fun h2 => ?_) (fun h2 => ?_)
        · rw [h2, Bool.true_and] at k
          refine ⟨_, rfl, z, rfl, fun D nD => ?_⟩
          refine lc_it (walk_str (z := z)) (fun j H3 => H3 = upd H D (.lst ((z.cps.toList.take j).map fun c => V.bl (decide (c ∈ letS.cps.toList))))) rfl ?_ ?_ ?_
          · intros
            trivial
          · rintro j x H3 H3' hj rfl ⟨rfl, c, hc, rfl⟩
            refine ⟨rfl, tYes_if ?_⟩
            refine ⟨_, rfl, c, letS, rfl, rfl, _, upd_same, ?_, ?_⟩
            · rw [List.length_map, List.length_take]
              exact Nat.lt_of_le_of_lt (Nat.min_le_left _ _) (Nat.lt_of_lt_of_le hj hz)
            · rw [upd_upd, takeS (x := c) (by rw [Array.getElem?_toList]; exact hc), List.map_append]
              rfl
          · rintro H3 rfl
            refine ⟨D, _, rfl, SqL.of (by rw [upd_same, List.take_of_length_le (by simp), List.map_map]; rfl), k _ (same_upd nD)⟩
        · rw [bF h2, Bool.false_and] at k
          exact k H fun _ _ e => e
      · rw [bF h1, Bool.false_and] at k
        exact ⟨_, rfl, iteF (k H fun _ _ e => e)⟩
    · exact ⟨_, rfl, _, _, _, _, false, rfl, .ty _, ty, hk, false, rfl, q⟩
end
end Wk
namespace Wk
open PySem PySem.Spec PyProof.Rows L2 WkD WkN LamX WkP WkE WkC
def d_is_between : WkJ.DefA := ⟨fun K => He.ga K "is_between", "is_between", "is_between", defArgs s_is_between, defBody s_is_between, defScope s_is_between, [], [], []⟩
def d_is_name : WkJ.DefA := ⟨fun K => He.ga K "is_name", "is_name", "is_name", defArgs s_is_name, defBody s_is_name, defScope s_is_name, [], [], []⟩
def d_is_tuple_of : WkJ.DefA := ⟨fun K => He.ga K "is_tuple_of", "is_tuple_of", "is_tuple_of", defArgs s_is_tuple_of, defBody s_is_tuple_of, defScope s_is_tuple_of, [], [], []⟩
def d_side_of : WkJ.DefA := ⟨fun K => He.ga K "side_of", "side_of", "side_of", defArgs s_side_of, defBody s_side_of, defScope s_side_of, [], [], []⟩
def d_last_two : WkJ.DefA := ⟨fun K => He.ga K "last_two", "last_two", "last_two", defArgs s_last_two, defBody s_last_two, defScope s_last_two, [], [], []⟩
def d_merge_rows : WkJ.DefA := ⟨fun K => He.ga K "merge_rows", "merge_rows", "merge_rows", defArgs s_merge_rows, defBody s_merge_rows, defScope s_merge_rows, [], [], []⟩
def d_least_cut : WkJ.DefA := ⟨fun K => He.ga K "least_cut", "least_cut", "least_cut", defArgs s_least_cut, defBody s_least_cut, defScope s_least_cut, [], [], []⟩
def d_strength_of : WkJ.DefA := ⟨fun K => He.ga K "strength_of", "strength_of", "strength_of", defArgs s_strength_of, defBody s_strength_of, defScope s_strength_of, [], [], []⟩
def d_can_join : WkJ.DefA := ⟨fun K => He.ga K "can_join", "can_join", "can_join", defArgs s_can_join, defBody s_can_join, defScope s_can_join, [], [], []⟩
def d_sorted_rows : WkJ.DefA := ⟨fun K => He.ga K "sorted_rows", "sorted_rows", "sorted_rows", defArgs s_sorted_rows, defBody s_sorted_rows, defScope s_sorted_rows, [], [], []⟩
def d_reached : WkJ.DefA := ⟨fun K => He.ga K "reached", "reached", "reached", defArgs s_reached, defBody s_reached, defScope s_reached, [], [], []⟩
def d_check_connected : WkJ.DefA := ⟨fun K => He.ga K "check_connected", "check_connected", "check_connected", defArgs s_check_connected, defBody s_check_connected, defScope s_check_connected, [], [], []⟩
def d_graph_of : WkJ.DefA := ⟨fun K => He.ga K "graph_of", "graph_of", "graph_of", defArgs s_graph_of, defBody s_graph_of, defScope s_graph_of, [], [], []⟩
def d_pen : WkJ.DefA := ⟨fun K => He.ga K "_law_pen", "_law_pen", "_law_pen", defArgs s_L_pen, defBody s_L_pen, defScope s_L_pen, [], [], []⟩
def d_draw : WkJ.DefA := ⟨fun K => He.ga K "_law_draw", "_law_draw", "_law_draw", defArgs s_L_draw, defBody s_L_draw, defScope s_L_draw, [], [], []⟩
def d_pick : WkJ.DefA := ⟨fun K => He.ga K "_law_pick", "_law_pick", "_law_pick", defArgs s_L_pick, defBody s_L_pick, defScope s_L_pick, [], [], []⟩
def d_lnames : WkJ.DefA := ⟨fun K => He.ga K "_law_names", "_law_names", "_law_names", defArgs s_L_names, defBody s_L_names, defScope s_L_names, [], [], []⟩
def d_weights : WkJ.DefA := ⟨fun K => He.ga K "_law_weights", "_law_weights", "_law_weights", defArgs s_L_weights, defBody s_L_weights, defScope s_L_weights, [], [], []⟩
def d_network : WkJ.DefA := ⟨fun K => He.ga K "_law_network", "_law_network", "_law_network", defArgs s_L_network, defBody s_L_network, defScope s_L_network, [], [], []⟩
def d_ledges : WkJ.DefA := ⟨fun K => He.ga K "_law_edges", "_law_edges", "_law_edges", defArgs s_L_edges, defBody s_L_edges, defScope s_L_edges, [], [], []⟩
def d_made : WkJ.DefA := ⟨fun K => He.ga K "_law_made", "_law_made", "_law_made", defArgs s_L_made, defBody s_L_made, defScope s_L_made, [], [], []⟩
def d_lunk : WkJ.DefA := ⟨fun K => He.ga K "_law_unknown", "_law_unknown", "_law_unknown", defArgs s_L_unknown, defBody s_L_unknown, defScope s_L_unknown, [], [], []⟩
def d_law04 : WkJ.DefA := ⟨fun K => He.ga K "law", "law", "law", defArgs s_law, defBody s_law, defScope s_law, [], [], []⟩
def d_graph_init : WkJ.DefA := ⟨fun K => He.ma K (He.ga K "Graph") "__init__", "__init__", "Graph.__init__", defArgs s_Graph_init, defBody s_Graph_init, defScope s_Graph_init, [], [], []⟩
def d_net_init : WkJ.DefA := ⟨fun K => He.ma K (He.ga K "Network") "__init__", "__init__", "Network.__init__", defArgs s_Network_init, defBody s_Network_init, defScope s_Network_init, ["__class__"], [], []⟩
def d_ck : WkJ.DefA := ⟨fun K => He.ma K (He.ga K "Network") "check_strength", "check_strength", "Network.check_strength", defArgs s_Network_check_strength, defBody s_Network_check_strength, defScope s_Network_check_strength, [], [], []⟩
def d_accept : WkJ.DefA := ⟨fun K => He.ma K (He.ga K "Network") "accept", "accept", "Network.accept", defArgs s_Network_accept, defBody s_Network_accept, defScope s_Network_accept, [], [], []⟩
def d_check_vertex : WkJ.DefA := ⟨fun K => He.ma K (He.ga K "Graph") "check_vertex", "check_vertex", "Graph.check_vertex", defArgs s_Graph_check_vertex, defBody s_Graph_check_vertex, defScope s_Graph_check_vertex, [], [], []⟩
def d_set_root : WkJ.DefA := ⟨fun K => He.ma K (He.ga K "Network") "set_root", "set_root", "Network.set_root", defArgs s_Network_set_root, defBody s_Network_set_root, defScope s_Network_set_root, [], [], []⟩
def d_unk_init : WkJ.DefA := ⟨fun K => He.ma K (He.ga K "UnknownVertex") "__init__", "__init__", "UnknownVertex.__init__", defArgs s_UnknownVertex_init, defBody s_UnknownVertex_init, defScope s_UnknownVertex_init, [], [], []⟩
def d_g_weight : WkJ.DefA := ⟨fun K => He.ma K (He.ga K "Graph") "weight", "weight", "Graph.weight", defArgs s_Graph_weight, defBody s_Graph_weight, defScope s_Graph_weight, [], [], []⟩
def d_neighbours : WkJ.DefA := ⟨fun K => He.ma K (He.ga K "Graph") "neighbours", "neighbours", "Graph.neighbours", defArgs s_Graph_neighbours, defBody s_Graph_neighbours, defScope s_Graph_neighbours, [], [], []⟩
def da : List WkJ.DefA := [d_is_between, d_is_name, d_is_tuple_of, d_side_of, d_last_two, d_merge_rows, d_least_cut, d_strength_of, d_can_join, d_sorted_rows, d_reached, d_check_connected, d_graph_of, d_pen, d_draw, d_pick, d_lnames, d_weights, d_network, d_ledges, d_made, d_lunk, d_law04, d_graph_init, d_net_init, d_ck, d_accept, d_check_vertex, d_set_root, d_unk_init, d_g_weight, d_neighbours]
def fa1 : List He.Fa := [.glo "is_between", .glo "is_name", .glo "is_tuple_of", .glo "side_of", .glo "last_two", .glo "merge_rows", .glo "least_cut", .glo "strength_of", .glo "can_join", .glo "sorted_rows", .glo "reached", .glo "check_connected", .glo "graph_of", .glo "_law_pen", .glo "_law_draw", .glo "_law_pick", .glo "_law_names", .glo "_law_weights", .glo "_law_network", .glo "_law_edges", .glo "_law_made", .glo "_law_unknown", .glo "law", .glo "Network", .glo "Graph", .glo "UnknownVertex", .glo "UnknownEdge", .glo "OutOfRange"]
def fa2 : List He.Fa := [.free "abs", .free "all", .free "any", .free "bool", .free "dict", .free "enumerate", .free "int", .free "isinstance", .free "len", .free "list", .free "max", .free "min", .free "range", .free "repr", .free "set", .free "sorted", .free "str", .free "sum", .free "tuple", .free "zip", .free "reversed", .free "super", .free "ValueError", .free "LookupError", .free "KeyError", .free "IndexError", .free "ArithmeticError", .free "OverflowError", .free "ZeroDivisionError", .free "RuntimeError", .free "TypeError"]
def fa3 : List He.Fa := [.str "LETTERS" letS, .cls "Network", .mkr "Network", .cls "Graph", .mkr "Graph", .noat "Network" "around", .noat "Network" "top", .noat "Network" "found", .noat "Network" "made", .noat "Network" "entries", .noat "Network" "running", .noat "Network" "since", .noat "Graph" "around", .noat "Graph" "top"]
def fa : List He.Fa := fa1 ++ (fa2 ++ fa3)
def ex (K : PySem.W.Frag) : Bool := WkG.smB K && (WkJ.conB K (He.ga K "Network") "MAX_VERTICES" 40 && (WkJ.conB K (He.ga K "Network") "MAX_WEIGHT" 1000000000 && (decide (PySem.W.mroIn K (He.ga K "Network") (.ref (He.ga K "Network")) = some true) && (He.eqO (PySem.W.ks_superIn K (He.ga K "Network") (He.ga K "Network") "__init__") (some (some (.ref (He.ma K (He.ga K "Graph") "__init__")))) && (PySem.W.fnIn K (He.ma K (He.ga K "Graph") "__init__") && (PySem.W.isFn K (.ref (He.ma K (He.ga K "Graph") "__init__")) && (WkJ.supB (PySem.Challenge.rw_weakcuts_k04_weights_and_neighbours).prog K (He.ga K "Network") (He.ma K (He.ga K "Network") "__init__") && ((PySem.W.clsIn K (He.ga K "Network")).isSome && (He.eqO (PySem.W.nsIn K cStatics "thirdparty.any") (some none) && (WkJ.conB K (He.ga K "Graph") "MAX_VERTICES" 40 && (WkJ.conB K (He.ga K "Graph") "MAX_WEIGHT" 1000000000 && (WkJ.methB K (He.ga K "Network") (He.ga K "Network") "check_strength" && (WkJ.methB K (He.ga K "Network") (He.ga K "Network") "accept" && (WkJ.methB K (He.ga K "Network") (He.ga K "Graph") "check_vertex" && (WkJ.methB K (He.ga K "Network") (He.ga K "Network") "set_root" && (WkX.excB K "UnknownVertex" "value" WkX.bK "LookupError.__new__" && (decide ((He.cT K ("last_two", none)).2 ≠ (He.cT K ("law", none)).2) && (WkJ.methB K (He.ga K "Network") (He.ga K "Graph") "weight" && (WkJ.methB K (He.ga K "Network") (He.ga K "Graph") "neighbours" && (decide (PySem.W.kitOne K (.ref (He.ga K "UnknownVertex")) (.type "KeyError") = some true) && (decide (PySem.W.kitAny K (.ref (He.ga K "UnknownVertex")) [.ref (He.ga K "UnknownEdge"), .ref (He.ga K "OutOfRange")] = some false) && (decide (PySem.W.exmOne K (.ref (He.ga K "UnknownVertex")) (.ref (He.ga K "UnknownVertex")) = some true) && (decide (PySem.W.subIn K (.ref (He.ga K "UnknownVertex")) (.type "StopIteration") = some false) && (true))))))))))))))))))))))))
def tf : List He.Defn := [("last_two", none), ("law", none)]
abbrev R : PySem.W.OpenRow := PySem.W.OpenLaw.row PySem.Challenge.rw_weakcuts_k04_weights_and_neighbours
abbrev hk : PySem.W.Hook := WkJ.hookB 7 fa da tf ex
def ob (s : PySem.W.SharedT) : WkJ.Al := WkJ.obsB 7 fa da tf ex (HandSHeadRun.getT s)
theorem ob_eq (s : PySem.W.SharedT) : ob s = hk.obs s.abs := WkJ.obsB_eq (HandSHeadRun.getT_eq s)
def loose1 : List PySem.Str := ["_wall", "__name__", "InvalidVertex", "InvalidEdge", "Disconnected", "UnknownVertex", "UnknownEdge", "OutOfRange", "LETTERS", "is_between", "is_name", "is_tuple_of", "side_of", "last_two", "merge_rows", "least_cut", "strength_of", "Graph"]
def loose2 : List PySem.Str := ["can_join", "sorted_rows", "reached", "check_connected", "MAX_WEIGHT", "merged_names", "check_weights", "rows_after_merge", "Network", "graph_of", "_law_pen", "_law_draw", "_law_pick", "_law_names", "_law_weights", "_law_network", "_law_edges", "_law_made", "_law_unknown"]
abbrev loose : List PySem.Str := loose1 ++ loose2
theorem run (w : World) : HandSHeadRun.RunEq R (PySem.W.view R.prog [43]) hk ob 20000 loose w := by
  intro os
  kernel_rfl
end Wk
namespace Wk
open PySem PySem.Spec PyProof.Rows L2 WkD WkN
section
variable {P : Program} {w : World} {K : PySem.W.Frag} {mg : Str → Option Value} {base : Heap}
/-! ### is_tuple_of -/
def spTupleOf (K : PySem.W.Frag) : Sp := fun vs H Q _ => ∃ (x : V) (n : Int), vs = [x, .int n] ∧ ((∃ a xs, x = .ref a ∧ SqT K H a xs ∧ xs.length ≤ sizeLine ∧ TyX K H x (.type "tuple") ∧ Q (.bl (decide ((xs.length : Int) = n))) H) ∨ ∃ t, TyX K H x t ∧ PySem.W.kitOne K t (.type "tuple") = some false ∧ Q (.bl false) H)
theorem sc_is_tuple_of : FnScope ["value", "size"] ["value", "size"] (defScope s_is_tuple_of) := ⟨rfl, rfl, rfl, by decide +kernel, rfl, by decide +kernel, by decide +kernel⟩
theorem c_is_tuple_of (D : Def K mg "is_tuple_of" s_is_tuple_of) (B : Bi mg) : Callee P w K mg base CX0 1 "is_tuple_of" ["value", "size"] (spTupleOf K) := by
  obtain ⟨f, fd, F, g⟩ := D
  refine ⟨f, fd, F.ok sc_is_tuple_of (fun vs H Q E h => ?_) (fun cdv A outer s H vs Q E hr h => ⟨_, PSs.nox (pss_one (ps_ret (pe_and (pe_callB call_isi (by rfl) B.n_isinstance (by decide +kernel) (pa_cons (pv 0) (pa_cons (pe_bltn (v := .ty "tuple") (by rfl) B.n_tuple (by decide +kernel) rfl) pa_nil))) (pe_one (pe_cmpR op_eq (pe_callB call_len_seq (by rfl) B.n_len (by decide +kernel) (pa_cons (pv 0) pa_nil)) (pv 1) (nomark _)))))), ?_⟩), g, F.kp, F.bindsN (fun _ _ _ _ _ _ us hl => match us, hl with | [_, _], _ => rfl)⟩
  · obtain ⟨x, n, rfl, _⟩ := h
    rfl
  · obtain ⟨x, n, rfl, h⟩ := h
    rcases h with ⟨a, xs, rfl, hT, hl, ty, q⟩ | ⟨t, ty, hk, q⟩
    · refine ⟨_, rfl, _, _, _, _, true, rfl, .ty _, ty, kit_ty (by decide +kernel), true, rfl, ?_⟩
      refine ⟨_, rfl, a, xs, rfl, .inr hT, _, rfl, rfl, ?_⟩
      have e : decide (V.int (xs.length : Int) = V.int n) = decide ((xs.length : Int) = n) := by
        by_cases h : (xs.length : Int) = n
        · rw [decide_eq_true h, decide_eq_true (by rw [h])]
        · rw [decide_eq_false h, decide_eq_false (fun z => h (V.int.inj z))]
      rw [e]
      exact q
    · exact ⟨_, rfl, _, _, _, _, false, rfl, .ty _, ty, hk, false, rfl, q⟩
/-! ### can_join -/
def joinB (ks : List Str) (u v : Str) : Bool := nameB u && (nameB v && (!decide (u = v) && (decide (u ∈ ks) && decide (v ∈ ks))))
def spJoin : Sp := fun vs H Q _ => ∃ (a : Addr) (ks : List Str) (g : Str → V) (u v : Str), vs = [.ref a, .str u, .str v] ∧ Rd H a (.dK (dct ks g)) ∧ u.length ≤ sizeLine ∧ v.length ≤ sizeLine ∧ ∀ H', Same H H' → Q (.bl (joinB ks u v)) H'
theorem rdS {H H' : Hp} {a : Addr} {o : HO} (e : Same H H') (h : Rd H a o) : Rd H' a o := by
  rcases h with h | ⟨u, h⟩
  · exact .inl (e _ _ h)
  · exact .inr ⟨u, e _ _ h⟩
theorem sc_can_join : FnScope ["around", "u", "v"] ["around", "u", "v"] (defScope s_can_join) := ⟨rfl, rfl, rfl, by decide +kernel, rfl, by decide +kernel, by decide +kernel⟩
theorem c_can_join (D : Def K mg "can_join" s_can_join) (CN : Callee P w K mg base CX0 1 "is_name" ["value"] (spName K)) : Callee P w K mg base CX0 2 "can_join" ["around", "u", "v"] spJoin := by
  obtain ⟨f, fd, F, g⟩ := D
  refine ⟨f, fd, F.ok sc_can_join (fun vs H Q E h => ?_) (fun cdv A outer s H vs Q E hr h => ?_), g, F.kp, F.bindsN (fun _ _ _ _ _ _ us hl => match us, hl with | [_, _, _], _ => rfl)⟩
  · obtain ⟨a, ks, g, u, v, rfl, _⟩ := h
    rfl
  · have hr1 : Room 1 _ := hr
    have hu := hu_of hr
    refine ⟨_, PSs.nox (pss_one (ps_ret (pe_and (pe_c CN hr1 pass0 (pa_cons (pv 1) pa_nil)) (pe_and (pe_c CN hr1 pass0 (pa_cons (pv 2) pa_nil)) (pe_and (pe_cmpR op_ne (pv 1) (pv 2) (nomark _)) (pe_and (pe_cmp (pc_din hu (pv 1) (pv 0))) (pe_one (pe_cmp (pc_din hu (pv 2) (pv 0)))))))))), ?_⟩
    obtain ⟨a, ks, g, u, v, rfl, hR, hlu, hlv, k⟩ := h
    unfold joinB at k
    refine ⟨_, rfl, .inl ⟨u, rfl, hlu, fun H1 s1 => ?_⟩⟩
    refine ⟨_, rfl, ite2 (fun h1 => ?_) (fun h1 => ?_)⟩
    · rw [h1, Bool.true_and] at k
      refine ⟨_, rfl, .inl ⟨v, rfl, hlv, fun H2 s2 => ?_⟩⟩
      refine ⟨_, rfl, ite2 (fun h2 => ?_) (fun h2 => ?_)⟩
      · rw [h2, Bool.true_and] at k
        have e : decide (V.str u = V.str v) = decide (u = v) := by
          by_cases h : u = v
          · rw [decide_eq_true h, decide_eq_true (by rw [h])]
          · rw [decide_eq_false h, decide_eq_false (fun z => h (V.str.inj z))]
        have s12 := s1.trans s2
        refine ⟨_, rfl, _, rfl, rfl, _, rfl, ?_⟩
        rw [e]
        refine ite2 (fun h3 => ?_) (fun h3 => ?_)
        · rw [h3, Bool.true_and] at k
          refine ⟨_, rfl, _, rfl, a, _, rfl, get_x (rdS s12 hR), _, rfl, ?_⟩
          have eo : ∀ x : Str, (if x ∈ ks then some (g x) else none).isSome = decide (x ∈ ks) := fun x => by
            by_cases h : x ∈ ks
            · rw [if_pos h, decide_eq_true h]
              rfl
            · rw [if_neg h, decide_eq_false h]
              rfl
          rw [eo]
          refine ite2 (fun h4 => ?_) (fun h4 => ?_)
          · rw [h4, Bool.true_and] at k
            refine ⟨_, rfl, _, rfl, a, _, rfl, get_x (rdS s12 hR), ?_⟩
            rw [eo]
            exact k _ s12
          · rw [bF h4, Bool.false_and] at k
            exact k _ s12
        · rw [bF h3, Bool.false_and] at k
          exact k _ s12
      · rw [bF h2, Bool.false_and] at k
        exact k _ (s1.trans s2)
    · rw [bF h1, Bool.false_and] at k
      exact k _ s1
end
end Wk
namespace Wk
open PySem PySem.Spec PyProof.Rows L2 WkD WkN LamX WkP
section
variable {P : Program} {w : World} {K : PySem.W.Frag} {mg : Str → Option Value} {base : Heap}
/-- all but l and the tables stay -/
def Ebut (l : Addr) (H H' : Hp) : Prop := ∀ b o, H b = some o → b ≠ l → (∀ ps, o ≠ .tbl ps) → H' b = some o
theorem Ebut.ext {l : Addr} {H H' : Hp} (e : Ebut l H H') (h : H l = none) : Ext H H' := fun b o hb n => e b o hb (ne_of_none hb h) n
theorem Ebut.trans {l : Addr} {H H1 H2 : Hp} (a : Ebut l H H1) (b : Ebut l H1 H2) : Ebut l H H2 := fun c o h n t => b c o (a c o h n t) n t
theorem Ebut.of {l : Addr} {H H' : Hp} (e : Ext H H') : Ebut l H H' := fun b o h _ n => e b o h n
theorem Ebut.upd {l : Addr} {H H1 : Hp} {o : HO} (a : Ebut l H H1) : Ebut l H (L2.upd H1 l o) := fun c u e h n => by
  rw [upd_ne h]
  exact a c u e h n
theorem Ebut.put {l p : Addr} {H H1 : Hp} {o : HO} (a : Ebut l H H1) (h : H p = none) : Ebut l H (L2.upd H1 p o) := fun c u e hc n => by
  rw [upd_ne (ne_of_none e h)]
  exact a c u e hc n
theorem tabs_put {T : List (Addr × Str)} {H : Hp} {p : Addr} {o : HO} (t : Tabs T H) (h : H p = none) : Tabs T (upd H p o) := t.ext (same_upd h)
theorem tabs_mut {T : List (Addr × Str)} {H : Hp} {p : Addr} {o u : HO} (t : Tabs T H) (h : H p = some u) (n : ∀ ps, u ≠ .tbl ps) (hx : ∀ c q, u ≠ CodeO c q) : Tabs T (upd H p o) := fun x hx' => by
  obtain ⟨ps, h1, h2, h3⟩ := t x hx'
  refine ⟨ps, by rw [upd_ne (fun z => n ps (Option.some.inj (h.symm.trans (by rw [← z]; exact h1))))]; exact h1, h2, fun pos cv hc => ?_⟩
  obtain ⟨c, e1, e2⟩ := h3 pos cv hc
  exact ⟨c, e1, by rw [upd_ne (fun z => hx c _ (Option.some.inj (h.symm.trans (by rw [← z]; exact e2))))]; exact e2⟩
theorem dk_tbl {kvs : List (Key × V)} : ∀ ps, HO.dK kvs ≠ .tbl ps := fun ps z => by cases z
theorem dk_code {kvs : List (Key × V)} : ∀ c q, HO.dK kvs ≠ CodeO c q := fun c q z => by
  unfold CodeO at z
  cases z
theorem fz_tbl {o : Obj} {u : HO} : ∀ ps, HO.frz o u ≠ .tbl ps := fun ps z => by cases z
theorem fz_code {o : Obj} {u : HO} : ∀ c q, HO.frz o u ≠ CodeO c q := fun c q z => by
  unfold CodeO at z
  cases z
def spLast (T : List (Addr × Str)) : Sp := fun vs H Q _ => ∃ (a : Addr) (Vs : List Str) (ad : Str → Addr) (nb : Nb) (wt : Wt), vs = [.ref a] ∧ RowsM H a Vs ad nb wt ∧ (∀ u ∈ Vs, (nb u).Nodup) ∧ 2 ≤ Vs.length ∧ Vs.length < 1000 ∧ Tabs T H ∧
  ∀ p x l n H', Ext H H' → Tabs T H' → H' p = some (.tup [.str x, .str l, .int n]) → LastTwo nb wt Vs x l n → Q (.ref p) H'
def leftO (nb : Nb) (wt : Wt) (Vs done : List Str) : HO := .dK (dct (Vs.filter fun u => decide (u ∉ done)) fun u => .int (conn nb wt done u))
theorem sc_last_two : FnScope ["rows", "left", "weight", "u", "ahead", "last", "v", "more"] ["rows"] (defScope s_last_two) := ⟨rfl, rfl, rfl, by decide +kernel, rfl, by decide +kernel, by decide +kernel⟩
theorem c_last_two {c PT : Addr} {tbT : List (Addr × Str)} (D : Def K mg "last_two" s_last_two) (B : Bi mg) (TB : TabB base mg c PT) (hmT : (PT, ("last_two.<locals>.<lambda>" : Str)) ∈ tbT) (huT : ∀ p ∈ tbT, p.1 = PT → p.2 = ("last_two.<locals>.<lambda>" : Str)) (hC : ∀ f, mg "last_two" = some (.ref f) → WkL.CodeIs K f c) :
    Callee P w K mg base CX0 3 "last_two" ["rows"] (spLast tbT) := by
  obtain ⟨f, fd, F, g⟩ := D
  refine ⟨f, fd, WkL.okC F sc_last_two (hC f g) (fun vs H Q E h => ?_) (fun A outer s H vs Q E hr h => ?_), g, F.kp, F.bindsN (fun _ _ _ _ _ _ us hl => match us, hl with | [_], _ => rfl)⟩
  · obtain ⟨a, Vs, ad, nb, wt, rfl, _⟩ := h
    rfl
  · have hu := hu_of hr
    have nd := sc_last_two.nd
    have hr2 : Room 2 _ := hr
    refine ⟨_, PSs.nox (pss_cons (ps_asg (pe_tup (pa_cons (pe_lock (pe_dc (own := [("u", 3)]) (by rfl) nd (pi_keys (pv 0)) (blkOk_by (by kernel_rfl)) (fun _ _ _ _ _ => (pg_name (i := 3) nd rfl (Or.inl rfl))) (fun _ _ _ _ _ => pts_nil) (fun _ _ _ _ _ => (pv 3)) (fun _ _ _ _ _ => pe_int))) (pa_cons pe_int pa_nil))) (WkN.pgT K 2 rfl rfl (pgs_cons (pg_name (i := 1) nd rfl (Or.inr rfl)) (pgs_cons (pg_name (i := 2) nd rfl (Or.inl rfl)) pgs_nil)) rfl))
      (pss_cons (ps_asg2 pe_non (pg_name (i := 4) nd rfl (Or.inl rfl)) (pg_name (i := 5) nd rfl (Or.inl rfl)))
      (pss_cons (ps_while PassesOwn.never (pt_cmpR (WkD.op_neE hr.units0) (pv 1) pe_dnewK (nomark _))
      (pss_cons (ps_par (i := 4) (j := 5) (by rfl) nd rfl rfl (by decide) rfl rfl (pa_cons (pv 5) (pa_cons (WkL.pe_maxLam (u := "u") (i := 3) (k := 0) (T := tbT) (by rfl) (by rfl) B.n_max (pa_cons (pe_callTy (call_listD rfl) (by rfl) B.n_list (by decide +kernel) (pa_cons (pv 1) pa_nil)) pa_nil) TB rfl hmT huT hr2 ⟨rfl, rfl, rfl, by decide +kernel, by decide +kernel, by decide +kernel, by show ∀ y : Str × NameKind, y ∈ _ → _ → (defScope s_last_two).names.lookup y.1 = _ ∨ (defScope s_last_two).names.lookup y.1 = _; decide +kernel⟩ rfl nd rfl (fun _ _ _ _ _ _ => rfl) (fun _ _ _ _ _ _ hr9 => pe_dget (hu_of hr9) (pv 1) (pv 3) (fun _ _ => rfl))) pa_nil)) (by rfl))
      (pss_cons (ps_set (i := 2) nd rfl (Or.inl rfl) (pe_dpop1 (pv 1) (pv 5) ⟨rfl, rfl, rfl, rfl⟩))
      (pss_one (ps_lock (ps_for PassesOwn.never rfl (pi_items (pe_dget hu (pv 0) (pv 5) (fun _ _ => rfl))) (WkN.pgT K 2 rfl rfl (pgs_cons (pg_name (i := 6) nd rfl (Or.inl rfl)) (pgs_cons (pg_name (i := 7) nd rfl (Or.inl rfl)) pgs_nil)) rfl)
      (pss_one (ps_if (pt_cmp (pc_din hu (pv 6) (pv 1)))
      (pss_one (ps_daug hu (pv 1) (pv 6) (pv 7) in_add (fun _ _ _ => rfl))) pss_nil))))))))
      (pss_one (ps_ret (pe_tup (pa_cons (pv 4) (pa_cons (pv 5) (pa_cons (pv 2) pa_nil))))))))), ?_⟩
    obtain ⟨a, Vs, ad, nb, wt, rfl, R, hnb, h2, hsz, hT, k⟩ := h
    refine ⟨a, _, R.top, trivial, fun od => ?_⟩
    have e0 : upd H a (.frz od (.dK (dct Vs fun u => .ref (ad u)))) a = some (.frz od (.dK (dct Vs fun u => .ref (ad u)))) := upd_same
    refine ⟨_, rfl, a, od, rfl, .inl ⟨_, e0, fun l nl => ?_⟩⟩
    have nla : l ≠ a := fun z => by
      rw [z, upd_same] at nl
      cases nl
    have nlH : H l = none := by
      rw [upd_ne nla] at nl
      exact nl
    refine dc_it (walk_keys (kvs := dct Vs fun u => .ref (ad u))) (fun i H2 => H2 = upd (upd H a (.frz od (.dK (dct Vs fun u => .ref (ad u))))) l (.dK (dct (Vs.take i) fun _ => .int 0))) rfl ?_ ?_ ?_
    · rintro i H2 hi rfl
      rw [upd_ne (Ne.symm nla), upd_same]
    · rintro i x H2 H2' hi rfl ⟨rfl, k0, v0, hk, rfl⟩
      rw [dct_at] at hk
      rw [dct_len] at hi
      rw [List.getElem?_eq_getElem hi] at hk
      cases hk
      refine ⟨rfl, tYes_if ?_⟩
      refine ⟨_, rfl, _, Sum.inr Vs[i], rfl, upd_same, ?_, ?_⟩
      · rw [dct_len, List.length_take]
        exact Nat.lt_of_le_of_lt (Nat.min_le_right _ _) (Nat.lt_trans hsz (by decide))
      · have hn : Vs[i] ∉ Vs.take i := fun z => by
          obtain ⟨j, hj, e⟩ := List.mem_iff_getElem.mp z
          rw [List.length_take] at hj
          rw [List.getElem_take] at e
          have := (List.getElem_inj R.nd).mp e
          omega
        rw [upd_upd, takeS (List.getElem?_eq_getElem hi), dct_put_new hn]
        congr 2
        exact dct_congr fun v _ => by split <;> rfl
    · rintro H2 rfl
      rw [dct_len, List.take_length]
      refine ⟨by rw [upd_ne (Ne.symm nla), upd_same], ?_⟩
      generalize gg : upd (upd (upd H a (.frz od (.dK (dct Vs fun u => .ref (ad u))))) l (.dK (dct Vs fun _ => .int 0))) a (.dK (dct Vs fun u => .ref (ad u))) = H3
      have E3 : Ebut l H H3 := fun b o hb hne _ => by
        rw [← gg]
        by_cases e : b = a
        · subst e
          rw [upd_same, ← hb, R.top]
        · rw [upd_ne e, upd_ne hne, upd_ne e]
          exact hb
      have L3 : H3 l = some (.dK (dct Vs fun _ => .int 0)) := by
        rw [← gg, upd_ne nla, upd_same]
      have T3 : Tabs tbT H3 := by
        rw [← gg]
        exact tabs_mut (tabs_put (tabs_mut hT R.top dk_tbl dk_code) nl) (by rw [upd_ne (Ne.symm nla), upd_same]) fz_tbl fz_code
      clear gg e0
      refine ⟨by show 2 ≤ sizeLine; decide, fun p np => ?_⟩
      have pl : p ≠ l := fun z => by
        rw [z, L3] at np
        cases np
      have E4 : Ebut l H (upd H3 p (.tup [.ref l, .int 0])) := E3.trans (Ebut.of (Ext.of (same_upd np)))
      have L4 : upd H3 p (.tup [.ref l, .int 0]) l = some (.dK (dct Vs fun _ => .int 0)) := (same_upd np) _ _ L3
      have T4 := tabs_put (o := .tup [.ref l, .int 0]) T3 np
      have P4 : upd H3 p (.tup [.ref l, .int 0]) p = some (.tup [.ref l, .int 0]) := upd_same
      generalize upd H3 p (.tup [.ref l, .int 0]) = H4 at E4 L4 T4 P4
      refine ⟨p, _, rfl, .inl (.inl P4), rfl, ?_⟩
      have fl : ∀ done : List Str, (Vs.filter fun u => decide (u ∉ done)).length ≤ Vs.length := fun done => List.length_filter_le _ _
      refine ⟨_, _, rfl, _, _, rfl, rfl, ?_⟩
      refine ⟨fun m σ H2 => ∃ (done : List Str) (wg ah la : V) (x3 x6 x7 : Option V), σ = [some (.ref a), some (.ref l), some wg, x3, some ah, some la, x6, x7] ∧ Ebut l H H2 ∧ Tabs tbT H2 ∧ H2 l = some (leftO nb wt Vs done) ∧ Pre nb wt Vs done ∧ Tail nb wt done ah la wg ∧ m = (Vs.filter fun u => decide (u ∉ done)).length,
        ⟨_, [], .int 0, .non, .non, none, none, none, rfl, E4, T4, ?_, Pre.nil nb wt Vs, .inl ⟨rfl, rfl⟩, rfl⟩, ?_⟩
      · rw [L4]
        unfold leftO
        rw [show (Vs.filter fun u => decide (u ∉ ([] : List Str))) = Vs from List.filter_eq_self.mpr fun u _ => by simp]
        rfl
      rintro m σ H5 ⟨done, wg, ah, la, x3, x6, x7, rfl, E5, T5, L5, hP, hTl, rfl⟩
      refine ⟨_, rfl, fun q nq => ?_⟩
      have E6 : Ebut l H (upd H5 q (.dK [])) := E5.trans (Ebut.of (Ext.of (same_upd nq)))
      have T6 := tabs_put (o := .dK []) T5 nq
      have L6 : upd H5 q (.dK []) l = some (leftO nb wt Vs done) := (same_upd nq) _ _ L5
      have Q6 : upd H5 q (.dK []) q = some (.dK []) := upd_same
      generalize upd H5 q (.dK []) = H6 at E6 T6 L6 Q6
      refine ⟨l, q, _, rfl, rfl, .inl L6, Q6, _, rfl, ?_⟩
      refine ite2 (fun hb => ?_) (fun hb => ?_)
      · -- a turn
        have hne : (Vs.filter fun u => decide (u ∉ done)) ≠ [] := fun z => by
          rw [z] at hb
          cases hb
        refine ⟨fun σ' H' => ∃ (done' : List Str) (wg ah la : V) (x3 x6 x7 : Option V), σ' = [some (.ref a), some (.ref l), some wg, x3, some ah, some la, x6, x7] ∧ Ebut l H H' ∧ Tabs tbT H' ∧ H' l = some (leftO nb wt Vs done') ∧ Pre nb wt Vs done' ∧ Tail nb wt done' ah la wg ∧ (Vs.filter fun u => decide (u ∉ done')).length < (Vs.filter fun u => decide (u ∉ done)).length, ?_, ?_⟩
        · rintro σ' H' ⟨done', wg, ah, la, x3, x6, x7, h1, h2, h3, h4, h5, h6, h7⟩
          exact ⟨_, h7, done', wg, ah, la, x3, x6, x7, h1, h2, h3, h4, h5, h6, rfl⟩
        refine ⟨_, rfl, _, rfl, l, _, rfl, .inl L6, fun p1 np1 => ?_⟩
        have e1 : (dct (Vs.filter fun u => decide (u ∉ done)) fun u => V.int (conn nb wt done u)).map (fun kv => kV kv.1) = (Vs.filter fun u => decide (u ∉ done)).map V.str := by
          unfold dct
          rw [List.map_map]
          rfl
        rw [e1]
        have E7 : Ebut l H (upd H6 p1 (.lst ((Vs.filter fun u => decide (u ∉ done)).map V.str))) := E6.trans (Ebut.of (Ext.of (same_upd np1)))
        have T7 := tabs_put (o := .lst ((Vs.filter fun u => decide (u ∉ done)).map V.str)) T6 np1
        have L7 : upd H6 p1 (.lst ((Vs.filter fun u => decide (u ∉ done)).map V.str)) l = some (leftO nb wt Vs done) := (same_upd np1) _ _ L6
        have P7 : upd H6 p1 (.lst ((Vs.filter fun u => decide (u ∉ done)).map V.str)) p1 = some (.lst ((Vs.filter fun u => decide (u ∉ done)).map V.str)) := upd_same
        generalize upd H6 p1 (.lst ((Vs.filter fun u => decide (u ∉ done)).map V.str)) = H7 at E7 T7 L7 P7
        refine ⟨p1, _, (Vs.filter fun u => decide (u ∉ done)).map (conn nb wt done), rfl, P7, by simpa using hne, by simp, T7, fun H8 e8 T8 => ⟨fun j v n hv hn => ?_, fun j v hv hmax => ?_⟩⟩
        · have L8 := e8 _ _ L7 dk_tbl
          rw [List.getElem?_map] at hv hn
          cases ej : (Vs.filter fun u => decide (u ∉ done))[j]? with
          | none => rw [ej] at hv; cases hv
          | some x =>
            rw [ej] at hv hn
            cases hv
            cases hn
            exact ⟨_, rfl, _, rfl, l, _, rfl, get_d (.inl L8) (List.mem_of_getElem? ej), rfl, rfl⟩
        rw [List.getElem?_map] at hv
        cases ej : (Vs.filter fun u => decide (u ∉ done))[j]? with
        | none => rw [ej] at hv; cases hv
        | some x =>
          rw [ej] at hv
          cases hv
          have E8 : Ebut l H H8 := E7.trans (Ebut.of e8)
          have L8 : H8 l = some (leftO nb wt Vs done) := e8 _ _ L7 dk_tbl
          clear e8 E7 T7 L7 P7 E6 T6 L6 Q6 E5 T5 L5
          have hxl := List.mem_of_getElem? ej
          obtain ⟨hxV, hxd⟩ := List.mem_filter.mp hxl
          have hxd : x ∉ done := of_decide_eq_true hxd
          have hbest : ∀ u ∈ Vs, u ∉ done → conn nb wt done u ≤ conn nb wt done x := by
            intro u hu hd
            obtain ⟨n, hn, hall⟩ := hmax
            rw [List.getElem?_map, ej] at hn
            cases hn
            obtain ⟨i, hi, e⟩ := List.mem_iff_getElem.mp (List.mem_filter.mpr ⟨hu, decide_eq_true hd⟩ : u ∈ Vs.filter fun u => decide (u ∉ done))
            exact (hall i _ (by rw [List.getElem?_map, List.getElem?_eq_getElem hi, e] <;> rfl)).1
          refine ⟨_, _, rfl, ?_⟩
          refine ⟨_, rfl, l, rfl, .inl ⟨_, .inl L8⟩, _, rfl, _, Sum.inr x, _, L8, rfl, dct_in hxl, ?_⟩
          rw [dct_drop]
          have ek : ((Vs.filter fun u => decide (u ∉ done)).filter fun y => decide (y ≠ x)) = Vs.filter fun u => decide (u ∉ done ++ [x]) := by
            rw [List.filter_filter]
            refine List.filter_congr fun u _ => ?_
            by_cases h1 : u = x
            · subst h1
              simp
            · by_cases h2 : u ∈ done
              · simp [h2]
              · simp [h1, h2]
          rw [ek]
          have E9 : Ebut l H (upd H8 l (.dK (dct (Vs.filter fun u => decide (u ∉ done ++ [x])) fun u => .int (conn nb wt done u)))) := E8.upd
          have T9 := tabs_mut (o := .dK (dct (Vs.filter fun u => decide (u ∉ done ++ [x])) fun u => .int (conn nb wt done u))) T8 L8 dk_tbl dk_code
          have L9 : upd H8 l (.dK (dct (Vs.filter fun u => decide (u ∉ done ++ [x])) fun u => .int (conn nb wt done u))) l = some (.dK (dct (Vs.filter fun u => decide (u ∉ done ++ [x])) fun u => .int (conn nb wt done u))) := upd_same
          generalize upd H8 l (.dK (dct (Vs.filter fun u => decide (u ∉ done ++ [x])) fun u => .int (conn nb wt done u))) = H9 at E9 T9 L9
          have nra : ad x ≠ l := ne_of_none (R.row x hxV) nlH
          have nrl : a ≠ l := Ne.symm nla
          have R9 := E9 _ _ (R.row x hxV) nra dk_tbl
          have A9 := E9 _ _ R.top nrl dk_tbl
          refine ⟨ad x, _, R9, trivial, fun od2 => ?_⟩
          have nax := R.ne hxV
          refine ⟨_, rfl, _, rfl, a, _, rfl, get_d (.inl (by rw [upd_ne (Ne.symm nax)]; exact A9)) hxV, ad x, od2, _, rfl, upd_same, ?_⟩
          have fr : ∀ b o, H9 b = some o → b ≠ ad x → upd H9 (ad x) (.frz od2 (.dK (dct (nb x) fun v => .int (wt x v)))) b = some o := fun b o hb hne => by
            rw [upd_ne hne]
            exact hb
          have Z9 : upd H9 (ad x) (.frz od2 (.dK (dct (nb x) fun v => .int (wt x v)))) (ad x) = some (.frz od2 (.dK (dct (nb x) fun v => .int (wt x v)))) := upd_same
          have L9z := fr _ _ L9 (Ne.symm nra)
          have T9z : Tabs tbT (upd H9 (ad x) (.frz od2 (.dK (dct (nb x) fun v => .int (wt x v))))) := tabs_mut T9 R9 dk_tbl dk_code
          generalize upd H9 (ad x) (.frz od2 (.dK (dct (nb x) fun v => .int (wt x v)))) = Hz at fr Z9 L9z T9z
          have sz : (Vs.filter fun u => decide (u ∉ done ++ [x])).length < sizeLine := Nat.lt_of_le_of_lt (fl _) (Nat.lt_trans hsz (by decide))
          refine for_it (walk_items (kvs := dct (nb x) fun v => .int (wt x v))) (fun i σ Hc => ∃ x6 x7 : Option V, σ = [some (.ref a), some (.ref l), some (.int (conn nb wt done x)), x3, some la, some (.str x), x6, x7] ∧ Ebut l Hz Hc ∧ Tabs tbT Hc ∧
            Hc l = some (.dK (dct (Vs.filter fun u => decide (u ∉ done ++ [x])) fun u => .int (conn nb wt done u + if u ∈ (nb x).take i then wt x u else 0)))) ⟨x6, x7, rfl, fun b o hb _ _ => hb, T9z, ?_⟩ ?_ ?_ ?_
          · rw [L9z]
            congr 2
            exact dct_congr fun u _ => by simp
          · rintro i σ Hc hi ⟨x6, x7, rfl, Ec, Tc, Lc⟩
            exact Ec _ _ Z9 nra fz_tbl
          · rintro i y σ Hc Hc' hi ⟨x6, x7, rfl, Ec, Tc, Lc⟩ ⟨T, kx, vx, rfl, nT, rfl, hk, hv⟩
            rw [dct_len] at hi
            dsimp only at hk hv
            rw [dct_at, List.getElem?_eq_getElem hi] at hk hv
            cases hk
            cases hv
            have Ed : Ebut l Hz (upd Hc T (.tup [.str (nb x)[i], .int (wt x (nb x)[i])])) := Ec.trans (Ebut.of (Ext.of (same_upd nT)))
            have Td := tabs_put (o := .tup [.str (nb x)[i], .int (wt x (nb x)[i])]) Tc nT
            have Ld := (same_upd (o := .tup [.str (nb x)[i], .int (wt x (nb x)[i])]) nT) _ _ Lc
            have Pd : upd Hc T (.tup [.str (nb x)[i], .int (wt x (nb x)[i])]) T = some (.tup [.str (nb x)[i], .int (wt x (nb x)[i])]) := upd_same
            show gTup _ _ _ _ _ (upd Hc T (.tup [.str (nb x)[i], .int (wt x (nb x)[i])])) _
            generalize upd Hc T (.tup [.str (nb x)[i], .int (wt x (nb x)[i])]) = Hd at Ed Td Ld Pd
            refine ⟨T, _, rfl, .inl (.inl Pd), rfl, _, _, rfl, _, _, rfl, rfl, ?_⟩
            refine ⟨_, rfl, _, rfl, l, _, rfl, get_x (.inl Ld), _, rfl, ?_⟩
            have nin : (nb x)[i] ∉ (nb x).take i := fun z => by
              obtain ⟨j, hj, e⟩ := List.mem_iff_getElem.mp z
              rw [List.length_take] at hj
              rw [List.getElem_take] at e
              have := (List.getElem_inj (hnb x hxV)).mp e
              omega
            have tk : (nb x).take (i + 1) = (nb x).take i ++ [(nb x)[i]] := takeS (List.getElem?_eq_getElem hi)
            have tm : ∀ u, u ∈ (nb x).take (i + 1) ↔ u ∈ (nb x).take i ∨ u = (nb x)[i] := fun u => by rw [tk, List.mem_append, List.mem_singleton]
            have tq : ∀ u, u ≠ (nb x)[i] → (if u ∈ (nb x).take i then wt x u else 0) = if u ∈ (nb x).take (i + 1) then wt x u else 0 := fun u hu => by
              by_cases h : u ∈ (nb x).take i
              · rw [if_pos h, if_pos ((tm u).mpr (.inl h))]
              · rw [if_neg h, if_neg (fun z => ((tm u).mp z).elim h hu)]
            refine ite2 (fun hin => ?_) (fun hin => ?_)
            · have hin : (nb x)[i] ∈ Vs.filter fun u => decide (u ∉ done ++ [x]) := by
                by_cases h : (nb x)[i] ∈ Vs.filter fun u => decide (u ∉ done ++ [x])
                · exact h
                · rw [if_neg h] at hin
                  cases hin
              refine ⟨_, rfl, _, rfl, l, _, rfl, get_d (.inl Ld) hin, _, rfl, _, _, rfl, rfl, _, put_d Ld hin sz, _, _, rfl, Ed.upd, tabs_mut Td Ld dk_tbl dk_code, ?_⟩
              rw [upd_same]
              congr 2
              refine dct_congr fun u hu => ?_
              by_cases e : u = (nb x)[i]
              · subst e
                rw [if_pos rfl, if_neg nin, if_pos ((tm _).mpr (.inr rfl)), Int.add_zero]
              · rw [if_neg e, tq u e]
            · have hin : (nb x)[i] ∉ Vs.filter fun u => decide (u ∉ done ++ [x]) := fun h => by
                rw [if_pos h] at hin
                exact hin rfl
              refine ⟨_, _, rfl, Ed, Td, ?_⟩
              rw [Ld]
              congr 2
              refine dct_congr fun u hu => ?_
              have e : u ≠ (nb x)[i] := fun e => hin (e ▸ hu)
              rw [tq u e]
          · rintro σ Hc ⟨x6, x7, rfl, Ec, Tc, Lc⟩
            rw [dct_len, List.take_length] at Lc
            have Zc := Ec _ _ Z9 nra fz_tbl
            refine ⟨Zc, done ++ [x], _, _, _, _, _, _, rfl, fun b o hb hne ht => ?_, tabs_mut Tc Zc fz_tbl fz_code, ?_, hP.snoc hxV hxd hbest, hTl.snoc x, ?_⟩
            · by_cases e : b = ad x
              · subst e
                rw [upd_same, ← hb, R.row x hxV]
              · rw [upd_ne e]
                exact Ec _ _ (fr _ _ (E9 _ _ hb hne ht) e) hne ht
            · rw [upd_ne (Ne.symm nra), Lc]
              unfold leftO
              congr 2
              exact dct_congr fun u _ => by rw [conn_snoc]
            · rw [← ek]
              refine List.length_filter_lt_length_iff_exists.mpr ⟨x, hxl, by simp⟩
      · -- the end
        have emp : (Vs.filter fun u => decide (u ∉ done)) = [] := by
          cases h : (Vs.filter fun u => decide (u ∉ done)) with
          | nil => rfl
          | cons y r =>
            rw [h] at hb
            exact absurd rfl hb
        have all : ∀ u ∈ Vs, u ∈ done := fun u hu => by
          by_cases h : u ∈ done
          · exact h
          · have z : u ∈ Vs.filter fun u => decide (u ∉ done) := List.mem_filter.mpr ⟨hu, decide_eq_true h⟩
            rw [emp] at z
            exact absurd z (by simp)
        have big : Vs.length ≤ done.length := (List.subset_def.mpr (fun {u} hu => all u hu) |> fun s => R.nd.length_le_of_subset s)
        rcases hTl with ⟨e, _⟩ | ⟨y, e, _⟩ | ⟨pre, y, z, e, rfl, rfl, rfl⟩
        · rw [e] at big
          simp only [List.length_nil] at big
          omega
        · rw [e] at big
          simp only [List.length_cons, List.length_nil] at big
          omega
        · refine ⟨_, rfl, _, rfl, _, rfl, by show 3 ≤ sizeLine; decide, fun p5 np5 => ?_⟩
          refine k p5 y z _ _ ((E6.trans (Ebut.of (Ext.of (same_upd np5)))).ext nlH) (tabs_put T6 np5) upd_same ⟨pre, by rw [← e]; exact hP, by rw [← e]; exact all, rfl⟩
end
end Wk
namespace Wk
open PySem PySem.Spec PyProof.Rows L2 WkD WkN LamX WkP
section
variable {P : Program} {w : World} {K : PySem.W.Frag} {mg : Str → Option Value} {base : Heap}
def spMerge : Sp := fun vs H Q _ => ∃ (a : Addr) (Vs : List Str) (ad : Str → Addr) (nb : Nb) (wt : Wt) (kept gone : Str), vs = [.ref a, .str kept, .str gone] ∧ RowsM H a Vs ad nb wt ∧ Sym Vs nb wt ∧ kept ∈ Vs ∧ gone ∈ Vs ∧ kept ≠ gone ∧ Vs.length < 1000 ∧
  ∀ nb' wt' H', RowsM H' a (Vs.filter fun y => decide (y ≠ gone)) ad nb' wt' → Merged nb wt kept gone (Vs.filter fun y => decide (y ≠ gone)) nb' wt' → (∀ b o, H b = some o → b ≠ a → (∀ u ∈ Vs, b ≠ ad u) → H' b = some o) → Q .non H'
theorem sc_merge_rows : FnScope ["rows", "kept", "gone", "v", "weight"] ["rows", "kept", "gone"] (defScope s_merge_rows) := ⟨rfl, rfl, rfl, by decide +kernel, rfl, by decide +kernel, by decide +kernel⟩
theorem c_merge_rows (D : Def K mg "merge_rows" s_merge_rows) : Callee P w K mg base CX0 1 "merge_rows" ["rows", "kept", "gone"] spMerge := by
  obtain ⟨f, fd, F, g⟩ := D
  refine ⟨f, fd, F.ok sc_merge_rows (fun vs H Q E h => ?_) (fun cdv A outer s H vs Q E hr h => ?_), g, F.kp, F.bindsN (fun _ _ _ _ _ _ us hl => match us, hl with | [_, _, _], _ => rfl)⟩
  · obtain ⟨a, Vs, ad, nb, wt, kept, gone, rfl, _⟩ := h
    rfl
  · have hu := hu_of hr
    have nd := sc_merge_rows.nd
    refine ⟨_, PSs.nox (pss_one (ps_lock (ps_for PassesOwn.never rfl (pi_items (pe_dpop1 (pv 0) (pv 2) ⟨rfl, rfl, rfl, rfl⟩)) (WkN.pgT K 2 rfl rfl (pgs_cons (pg_name (i := 3) nd rfl (Or.inl rfl)) (pgs_cons (pg_name (i := 4) nd rfl (Or.inl rfl)) pgs_nil)) rfl)
      (pss_cons (ps_ddel (pe_dget hu (pv 0) (pv 3) (fun _ _ => rfl)) (pv 2))
      (pss_one (ps_if (pt_cmpR op_ne (pv 3) (pv 1) (nomark _))
      (pss_one (ps_asg2 (pe_op op_add (pe_dget2 hu (pe_dget hu (pv 0) (pv 1) (fun _ _ => rfl)) (pv 3) pe_int ⟨rfl, rfl, rfl, rfl⟩) (pv 4)) (pg_sub (pe_dget hu (pv 0) (pv 1) (fun _ _ => rfl)) (pv 3) (set_dict hu) (fun _ => rfl)) (pg_sub (pe_dget hu (pv 0) (pv 3) (fun _ _ => rfl)) (pv 1) (set_dict hu) (fun _ => rfl)))) pss_nil)))))), ?_⟩
    obtain ⟨a, Vs, ad, nb, wt, kept, gone, rfl, R, sy, hk, hg, hne, hsz, k⟩ := h
    have nag := R.ne hg
    refine ⟨ad gone, _, R.row gone hg, trivial, fun od => ?_⟩
    have A1 : upd H (ad gone) (.frz od (.dK (dct (nb gone) fun v => .int (wt gone v)))) a = some (.dK (dct Vs fun u => .ref (ad u))) := by
      rw [upd_ne (Ne.symm nag)]
      exact R.top
    refine ⟨_, rfl, a, rfl, .inl ⟨_, .inl A1⟩, _, rfl, _, Sum.inr gone, _, A1, rfl, dct_in hg, ?_⟩
    rw [dct_drop]
    have mw : ∀ u, u ∈ (Vs.filter fun y => decide (y ≠ gone)) ↔ u ∈ Vs ∧ u ≠ gone := fun u => by
      rw [List.mem_filter, decide_eq_true_iff]
    have wl : (Vs.filter fun y => decide (y ≠ gone)).length ≤ Vs.length := List.length_filter_le _ _
    have hk' := (mw kept).mpr ⟨hk, hne⟩
    obtain ⟨Ws, eW⟩ : ∃ Ws, Ws = Vs.filter fun y => decide (y ≠ gone) := ⟨_, rfl⟩
    rw [← eW] at mw wl hk' ⊢
    generalize hh : upd (upd H (ad gone) (.frz od (.dK (dct (nb gone) fun v => .int (wt gone v))))) a (.dK (dct Ws fun u => .ref (ad u))) = H1
    have Z1 : H1 (ad gone) = some (.frz od (.dK (dct (nb gone) fun v => .int (wt gone v)))) := by
      rw [← hh, upd_ne nag, upd_same]
    have R1 : RowsM H1 a Ws ad nb wt := by
      refine ⟨by rw [← hh, upd_same], fun u hu => ?_, fun u hu v hv => R.inj u ((mw u).mp hu).1 v ((mw v).mp hv).1, by rw [eW]; exact R.nd.filter _⟩
      obtain ⟨h1, h2⟩ := (mw u).mp hu
      rw [← hh, upd_ne (R.ne h1), upd_ne (fun z => h2 (R.inj u h1 gone hg z))]
      exact R.row u h1
    have F1 : ∀ b o, H b = some o → b ≠ a → (∀ u ∈ Vs, b ≠ ad u) → H1 b = some o := fun b o hb h1 h2 => by
      rw [← hh, upd_ne h1, upd_ne (h2 gone hg)]
      exact hb
    clear hh A1
    refine ⟨ad gone, od, _, rfl, Z1, ?_⟩
    have nbl : ∀ (nbi : Nb) (wti : Wt) (S : List Str), Mp nb wt kept gone Ws S nbi wti → (∀ y ∈ S, y ∈ Vs) → ∀ u ∈ Ws, (nbi u).length < sizeLine := fun nbi wti S m hS u hu => by
      have sub : (nbi u).Subset Vs := fun y hy => by
        have h1 := (m.mem u hu y).mp hy
        have h2 := sy.mem u ((mw u).mp hu).1 y
        rcases h1 with ⟨rfl, _⟩ | ⟨_, h | ⟨_, h, _⟩ | ⟨rfl, _⟩⟩
        · exact hg
        · exact (h2 h).1
        · exact hS y h
        · exact hk
      exact Nat.lt_of_le_of_lt ((m.nd u hu).length_le_of_subset sub) (Nat.lt_trans hsz (by decide))
    refine for_it (walk_items (kvs := dct (nb gone) fun v => .int (wt gone v))) (fun i σ Hc => ∃ (x3 x4 : Option V) (nbi : Nb) (wti : Wt), σ = [some (.ref a), some (.str kept), some (.str gone), x3, x4] ∧ RowsM Hc a Ws ad nbi wti ∧ Mp nb wt kept gone Ws ((nb gone).take i) nbi wti ∧
      Hc (ad gone) = some (.frz od (.dK (dct (nb gone) fun v => .int (wt gone v)))) ∧ ∀ b o, H b = some o → b ≠ a → (∀ u ∈ Vs, b ≠ ad u) → Hc b = some o) ⟨none, none, nb, wt, rfl, R1, Mp.start sy fun u hu => ((mw u).mp hu).1, Z1, F1⟩ ?_ ?_ ?_
    · rintro i σ Hc hi ⟨x3, x4, nbi, wti, rfl, Rc, Mc, Zc, Fc⟩
      exact Zc
    · rintro i y σ Hc Hc' hi ⟨x3, x4, nbi, wti, rfl, Rc, Mc, Zc, Fc⟩ ⟨T, kx, vx, rfl, nT, rfl, hkx, hvx⟩
      rw [dct_len] at hi
      dsimp only at hkx hvx
      rw [dct_at, List.getElem?_eq_getElem hi] at hkx hvx
      cases hkx
      cases hvx
      obtain ⟨v, ev⟩ : ∃ v, v = (nb gone)[i] := ⟨_, rfl⟩
      have hvg : v ∈ nb gone := by
        rw [ev]
        exact List.getElem_mem hi
      have tk : (nb gone).take (i + 1) = (nb gone).take i ++ [v] := by
        rw [ev]
        exact takeS (List.getElem?_eq_getElem hi)
      have nin : v ∉ (nb gone).take i := fun z => by
        obtain ⟨j, hj, e⟩ := List.mem_iff_getElem.mp z
        rw [List.length_take] at hj
        rw [List.getElem_take, ev] at e
        have := (List.getElem_inj (sy.nd gone hg)).mp e
        omega
      rw [← ev]
      obtain ⟨hvV, hvne, hgv, hwv⟩ := sy.mem gone hg v hvg
      have hvW := (mw v).mpr ⟨hvV, hvne⟩
      have sT : Same Hc (upd Hc T (.tup [.str v, .int (wt gone v)])) := same_upd nT
      have Rd := Rc.ext (Ext.of sT)
      have Zd := sT _ _ Zc
      have Fd : ∀ b o, H b = some o → b ≠ a → (∀ u ∈ Vs, b ≠ ad u) → upd Hc T (.tup [.str v, .int (wt gone v)]) b = some o := fun b o h1 h2 h3 => sT _ _ (Fc b o h1 h2 h3)
      have Pd : upd Hc T (.tup [.str v, .int (wt gone v)]) T = some (.tup [.str v, .int (wt gone v)]) := upd_same
      show gTup _ _ _ _ _ (upd Hc T (.tup [.str v, .int (wt gone v)])) _
      generalize upd Hc T (.tup [.str v, .int (wt gone v)]) = Hd at Rd Zd Fd Pd
      refine ⟨T, _, rfl, .inl (.inl Pd), rfl, _, _, rfl, _, _, rfl, rfl, ?_⟩
      have hgi : gone ∈ nbi v := (Mc.mem v hvW gone).mpr (.inl ⟨rfl, hgv, nin⟩)
      refine ⟨_, rfl, _, rfl, a, _, rfl, get_d (.inl Rd.top) hvW, _, rfl, ad v, _, Sum.inr gone, rfl, Rd.row v hvW, rfl, by rw [dct_in hgi]; rfl, ?_⟩
      rw [dct_drop]
      have Re := Rd.put hvW ((nbi v).filter fun y => decide (y ≠ gone)) (wti v)
      have nvg : ad gone ≠ ad v := fun z => hvne (R.inj gone hg v hvV z).symm
      have Ze : upd Hd (ad v) (.dK (dct ((nbi v).filter fun y => decide (y ≠ gone)) fun y => .int (wti v y))) (ad gone) = some (.frz od (.dK (dct (nb gone) fun v => .int (wt gone v)))) := by
        rw [upd_ne nvg]
        exact Zd
      have Fe : ∀ b o, H b = some o → b ≠ a → (∀ u ∈ Vs, b ≠ ad u) → upd Hd (ad v) (.dK (dct ((nbi v).filter fun y => decide (y ≠ gone)) fun y => .int (wti v y))) b = some o := fun b o h1 h2 h3 => by
        rw [upd_ne (h3 v hvV)]
        exact Fd b o h1 h2 h3
      generalize upd Hd (ad v) (.dK (dct ((nbi v).filter fun y => decide (y ≠ gone)) fun y => .int (wti v y))) = He at Re Ze Fe
      have hS : ∀ y ∈ (nb gone).take i, y ∈ Vs := fun y hy => (sy.mem gone hg y (List.mem_of_mem_take hy)).1
      have Re : RowsM He a Ws ad (up nbi v ((nbi v).filter fun y => decide (y ≠ gone))) wti := Re.as (fun u _ => rfl) fun u _ y _ => by
        show (if u = v then wti v y else wti u y) = wti u y
        split
        · rename_i e
          rw [e]
        · rfl
      have sw : (nb gone).take (i + 1) = (nb gone).take i ++ [v] := tk
      refine ⟨_, rfl, _, rfl, rfl, _, rfl, ?_⟩
      have e0 : decide (V.str v = V.str kept) = decide (v = kept) := by
        by_cases h : v = kept
        · rw [decide_eq_true h, decide_eq_true (by rw [h])]
        · rw [decide_eq_false h, decide_eq_false (fun z => h (V.str.inj z))]
      rw [e0]
      refine ite2 (fun h1 => ?_) (fun h1 => ?_)
      · have hvk : v ≠ kept := fun e => by
          rw [decide_eq_true e] at h1
          cases h1
        have rk : He (ad kept) = some (.dK (dct (nbi kept) fun y => .int (wti kept y))) := by
          have z := Re.row kept hk'
          unfold up at z
          rw [if_neg (Ne.symm hvk)] at z
          exact z
        have sk := nbl nbi wti _ Mc hS kept hk'
        have svv := nbl nbi wti _ Mc hS v hvW
        obtain ⟨n, hn⟩ : ∃ n : Int, n = (if v ∈ nbi kept then wti kept v else 0) + wt gone v := ⟨_, rfl⟩
        refine ⟨_, rfl, _, rfl, a, _, rfl, get_d (.inl Re.top) hk', ad kept, rfl, .inl ⟨_, .inl rk⟩, _, rfl, _, get_x (.inl rk), _, rfl, (if v ∈ nbi kept then wti kept v else 0), _, ?_, rfl, ?_⟩
        · split <;> rfl
        dsimp only
        rw [← hn]
        refine ⟨_, rfl, _, rfl, a, _, rfl, get_d (.inl Re.top) hk', _, rfl, ad kept, _, rfl, putI rk sk, ?_⟩
        have Rf := Re.put hk' (add (nbi kept) v) (fun y => if y = v then n else wti kept y)
        have nkg : ad gone ≠ ad kept := fun z => hne (R.inj gone hg kept hk z).symm
        have Zf : upd He (ad kept) (.dK (dct (add (nbi kept) v) fun y => .int (if y = v then n else wti kept y))) (ad gone) = some (.frz od (.dK (dct (nb gone) fun v => .int (wt gone v)))) := by
          rw [upd_ne nkg]
          exact Ze
        have Ff : ∀ b o, H b = some o → b ≠ a → (∀ u ∈ Vs, b ≠ ad u) → upd He (ad kept) (.dK (dct (add (nbi kept) v) fun y => .int (if y = v then n else wti kept y))) b = some o := fun b o h1 h2 h3 => by
          rw [upd_ne (h3 kept hk)]
          exact Fe b o h1 h2 h3
        generalize upd He (ad kept) (.dK (dct (add (nbi kept) v) fun y => .int (if y = v then n else wti kept y))) = Hf at Rf Zf Ff
        have rv : Hf (ad v) = some (.dK (dct ((nbi v).filter fun y => decide (y ≠ gone)) fun y => .int (wti v y))) := by
          have z := Rf.row v hvW
          unfold up at z
          rw [if_neg hvk, if_pos rfl] at z
          rw [z, dct_congr (g' := fun y => V.int (wti v y)) fun y _ => by rw [if_neg hvk]]
        refine ⟨_, rfl, _, rfl, a, _, rfl, get_d (.inl Rf.top) hvW, _, rfl, ad v, _, rfl, putI rv (Nat.lt_of_le_of_lt (List.length_filter_le _ _) svv), ?_⟩
        have Rg := Rf.put hvW (add ((nbi v).filter fun y => decide (y ≠ gone)) kept) (fun y => if y = kept then n else wti v y)
        refine ⟨_, _, _, _, rfl, Rg.as (nb' := up (up (up nbi v ((nbi v).filter fun y => decide (y ≠ gone))) kept (add (nbi kept) v)) v (add ((nbi v).filter fun y => decide (y ≠ gone)) kept)) (wt' := upw (upw wti kept fun y => if y = v then n else wti kept y) v fun y => if y = kept then n else wti v y) (fun u _ => rfl) (fun u _ y _ => rfl), ?_, ?_, ?_⟩
        · rw [sw]
          exact Mc.atOther sy (fun u hu => ((mw u).mp hu).1) hk' hne hvW nin hvk hvne hgv hn
        · rw [upd_ne nvg]
          exact Zf
        · intro b o h1 h2 h3
          rw [upd_ne (h3 v hvV)]
          exact Ff b o h1 h2 h3
      · have hvk : v = kept := by
          by_cases h : v = kept
          · exact h
          · rw [decide_eq_false h] at h1
            exact absurd rfl h1
        subst hvk
        refine ⟨_, _, _, _, rfl, Re, ?_, Ze, Fe⟩
        rw [sw]
        exact Mc.atKept sy (fun u hu => ((mw u).mp hu).1) hk' hne
    · rintro σ Hc ⟨x3, x4, nbi, wti, rfl, Rc, Mc, Zc, Fc⟩
      rw [dct_len, List.take_length] at Mc
      refine ⟨Zc, ?_⟩
      rw [eW] at Mc Rc
      have ng : ∀ u ∈ (Vs.filter fun y => decide (y ≠ gone)), ad u ≠ ad gone := fun u hu z => by
        have h := List.mem_filter.mp hu
        have h2 : u ≠ gone := of_decide_eq_true h.2
        exact h2 (R.inj u h.1 gone hg z)
      refine k nbi wti _ ⟨by rw [upd_ne (Ne.symm nag)]; exact Rc.top, fun u hu => by rw [upd_ne (ng u hu)]; exact Rc.row u hu, Rc.inj, Rc.nd⟩ (Mp.done sy hk hg hne Mc) fun b o h1 h2 h3 => ?_
      rw [upd_ne (h3 gone hg)]
      exact Fc b o h1 h2 h3
end
end Wk
namespace Wk
open PySem PySem.Spec PyProof.Rows L2 WkD WkN LamX WkP
/-- an object with rows and a root -/
structure GAt (K : PySem.W.Frag) (H : Hp) (g C dx : Addr) (fs : List (Str × V)) (a : Addr) (top : Str) : Prop where
  ins : H g = some (.ins C dx fs)
  cls : Cls K C
  na : NoAttr K C "around"
  nt : NoAttr K C "top"
  la : fs.lookup ("around" : Str) = some (.ref a)
  lt : fs.lookup ("top" : Str) = some (.str top)
theorem GAt.ext {K : PySem.W.Frag} {H H' : Hp} {g C dx : Addr} {fs : List (Str × V)} {a : Addr} {top : Str} (x : GAt K H g C dx fs a top) (e : Ext H H') : GAt K H' g C dx fs a top := ⟨e _ _ x.ins (fun ps z => by cases z), x.cls, x.na, x.nt, x.la, x.lt⟩
section
variable {P : Program} {w : World} {K : PySem.W.Frag} {mg : Str → Option Value} {base : Heap}
def spSide (K : PySem.W.Frag) : Sp := fun vs H Q _ => ∃ (g C dx : Addr) (fs : List (Str × V)) (a m : Addr) (top : Str) (Vs ms : List Str) (ad : Str → Addr) (o : Obj), vs = [.ref g, .ref m] ∧ GAt K H g C dx fs a top ∧ H a = some (.frz o (.dK (dct Vs fun u => .ref (ad u)))) ∧ Vs.length < 1000 ∧ (SqL K H m (ms.map V.str) ∨ SqT K H m (ms.map V.str)) ∧
  ∀ p H', Same H H' → H p = none → H' p = some (.tup ((sideL top Vs ms).map V.str)) → Q (.ref p) H'
theorem sc_side_of : FnScope ["graph", "members", "is_outside", "vertex"] ["graph", "members"] (defScope s_side_of) := ⟨rfl, rfl, rfl, by decide +kernel, rfl, by decide +kernel, by decide +kernel⟩
theorem c_side_of (D : Def K mg "side_of" s_side_of) (B : Bi mg) : Callee P w K mg base CX0 1 "side_of" ["graph", "members"] (spSide K) := by
  obtain ⟨f, fd, F, g⟩ := D
  refine ⟨f, fd, F.ok sc_side_of (fun vs H Q E h => ?_) (fun cdv A outer s H vs Q E hr h => ?_), g, F.kp, F.bindsN (fun _ _ _ _ _ _ us hl => match us, hl with | [_, _], _ => rfl)⟩
  · obtain ⟨g, C, dx, fs, a, m, top, Vs, ms, ad, o, rfl, _⟩ := h
    rfl
  · have nd := sc_side_of.nd
    refine ⟨_, PSs.nox (pss_cons (ps_set (i := 2) nd rfl (Or.inr rfl) (pe_cmpR (WkN.opIn K (by rfl)) (pe_fld (pv 0) rfl) (pv 1) (by rfl)))
      (pss_one (ps_ret (pe_callTy call_tuple_of (by rfl) B.n_tuple (by decide +kernel) (pa_cons (pe_lc (own := [("vertex", 3)]) (by rfl) nd (pi_keys (pe_fld (pv 0) rfl)) (blkOk_by (by kernel_rfl)) (fun _ _ _ _ _ => (pg_name (i := 3) nd rfl (Or.inl rfl))) (fun _ _ _ _ _ => (pts_one (pt_cmpR op_ne (pe_cmpR (WkN.opIn K (by rfl)) (pv 3) (pv 1) (by rfl)) (pv 2) (nomark _)))) (fun _ _ _ _ _ => (pv 3))) pa_nil))))), ?_⟩
    obtain ⟨g, C, dx, fs, a, m, top, Vs, ms, ad, o, rfl, G, hA, hl, hm, k⟩ := h
    refine ⟨_, rfl, g, C, dx, fs, _, rfl, G.ins, G.cls, G.nt, G.lt, _, rfl, m, _, rfl, hm, rfl, flat_str, ?_⟩
    rw [if_neg (by decide), inV_str]
    refine ⟨_, rfl, g, C, dx, fs, _, rfl, G.ins, G.cls, G.na, G.la, a, o, rfl, .inl ⟨_, hA, fun D nD => ?_⟩⟩
    have sD : ∀ l : List V, Same H (upd H D (.lst l)) := fun l => same_upd nD
    refine lc_it (walk_keys (kvs := dct Vs fun u => .ref (ad u))) (fun i H2 => H2 = upd H D (.lst ((sideL top (Vs.take i) ms).map V.str))) rfl ?_ ?_ ?_
    · rintro i H2 hi rfl
      exact sD _ _ _ hA
    · rintro i x H2 H2' hi rfl ⟨rfl, k0, v0, hk, rfl⟩
      rw [dct_len] at hi
      rw [dct_at, List.getElem?_eq_getElem hi] at hk
      cases hk
      have hm' : SqL K (upd H D (.lst ((sideL top (Vs.take i) ms).map V.str))) m (ms.map V.str) ∨ SqT K (upd H D (.lst ((sideL top (Vs.take i) ms).map V.str))) m (ms.map V.str) := hm.imp (fun z => (sD _).seq z) (fun z => WkG.seqT_same (sD _) z)
      refine ⟨rfl, _, rfl, _, rfl, m, _, rfl, hm', rfl, flat_str, ?_⟩
      have e7 : inV (kV (Sum.inr Vs[i])) (ms.map V.str) = decide (Vs[i] ∈ ms) := inV_str
      rw [if_neg (by decide), e7]
      have tk : sideL top (Vs.take (i + 1)) ms = sideL top (Vs.take i) ms ++ (if (!decide (V.bl (decide (Vs[i] ∈ ms)) = V.bl (decide (top ∈ ms)))) = true then [Vs[i]] else []) := by
        unfold sideL
        rw [takeS (List.getElem?_eq_getElem hi), List.filter_append]
        congr 1
        rw [List.filter_cons, List.filter_nil]
      refine ⟨_, rfl, rfl, _, rfl, ?_⟩
      rw [tk]
      refine ite2 (fun h1 => ?_) (fun h1 => ?_)
      · refine ⟨_, rfl, _, upd_same, ?_, ?_⟩
        · rw [List.length_map]
          refine Nat.lt_of_le_of_lt (List.length_filter_le _ _) ?_
          rw [List.length_take]
          exact Nat.lt_of_le_of_lt (Nat.min_le_right _ _) (Nat.lt_trans hl (by decide))
        · rw [upd_upd, if_pos h1, List.map_append]
          rfl
      · rw [if_neg h1, List.append_nil]
    · rintro H2 rfl
      rw [dct_len, List.take_length]
      refine ⟨D, _, rfl, .inl ⟨SqL.of upd_same, fun p np => ?_⟩⟩
      have npH : H p = none := by
        have e : p ≠ D := fun z => by
          rw [z, upd_same] at np
          cases np
        rw [upd_ne e] at np
        exact np
      exact k p _ ((sD _).trans (same_upd np)) npH upd_same
end
end Wk
namespace Wk
open PySem PySem.Spec PyProof.Rows L2 WkD WkN LamX WkP
section
variable {P : Program} {w : World} {K : PySem.W.Frag} {mg : Str → Option Value} {base : Heap}
def spLeast (K : PySem.W.Frag) (T : List (Addr × Str)) : Sp := fun vs H Q _ => ∃ (g C dx : Addr) (fs : List (Str × V)) (a : Addr) (top : Str) (Vs : List Str) (ad : Str → Addr) (nb : Nb) (wt : Wt), vs = [.ref g] ∧ GAt K H g C dx fs a top ∧ RowsZ H a Vs ad nb wt ∧ Vs.Nodup ∧ Sym Vs nb wt ∧ 2 ≤ Vs.length ∧ Vs.length < 1000 ∧ Tabs T H ∧
  ∀ p q n ms H', Ext H H' → Tabs T H' → H' p = some (.tup [.int n, .ref q]) → H' q = some (.tup ((sideL top Vs ms).map V.str)) → LeastCut Vs nb wt n ms → Q (.ref p) H'
/-- rows that were just copied -/
structure Cop (H : Hp) (ra : Addr) (nb : Nb) (wt : Wt) (ks : List Str) (ad : Str → Addr) (H2 : Hp) : Prop where
  rows : RowsM H2 ra ks ad nb wt
  keep : But ra H H2
  new : ∀ u ∈ ks, H (ad u) = none
structure Grp (H : Hp) (ga : Addr) (gad : Str → Addr) (Vs : List Str) (grp : Str → List Str) : Prop where
  top : H ga = some (.dK (dct Vs fun u => .ref (gad u)))
  lst : ∀ u ∈ Vs, H (gad u) = some (.lst ((grp u).map V.str))
def BestH (H : Hp) (gad : Str → Addr) (Vs : List Str) (bv : V) : Option (Int × List Str) → Prop
  | none => bv = .non
  | some (n, ms) => ∃ bp ml, bv = .ref bp ∧ H bp = some (.tup [.int n, .ref ml]) ∧ H ml = some (.lst (ms.map V.str)) ∧ ∀ u ∈ Vs, ml ≠ gad u
theorem BestH.ext {H H' : Hp} {gad : Str → Addr} {Vs : List Str} {bv : V} {best : Option (Int × List Str)} (b : BestH H gad Vs bv best) (e : ∀ c o, H c = some o → (∃ xs, o = .tup xs) ∨ (∃ xs, o = .lst xs ∧ ∀ u ∈ Vs, c ≠ gad u) → H' c = some o) : BestH H' gad Vs bv best := by
  cases best with
  | none => exact b
  | some x =>
    obtain ⟨n, ms⟩ := x
    obtain ⟨bp, ml, h1, h2, h3, h4⟩ := b
    exact ⟨bp, ml, h1, e _ _ h2 (.inl ⟨_, rfl⟩), e _ _ h3 (.inr ⟨_, rfl, h4⟩), h4⟩
theorem sc_least_cut : FnScope ["graph", "rows", "groups", "u", "row", "best", "ahead", "last", "weight"] ["graph"] (defScope s_least_cut) := ⟨rfl, rfl, rfl, by decide +kernel, rfl, by decide +kernel, by decide +kernel⟩
theorem c_least_cut {tbT : List (Addr × Str)} (D : Def K mg "least_cut" s_least_cut) (B : Bi mg) (CL : Callee P w K mg base CX0 3 "last_two" ["rows"] (spLast tbT)) (CM : Callee P w K mg base CX0 1 "merge_rows" ["rows", "kept", "gone"] spMerge) (CS : Callee P w K mg base CX0 1 "side_of" ["graph", "members"] (spSide K)) :
    Callee P w K mg base CX0 4 "least_cut" ["graph"] (spLeast K tbT) := by
  obtain ⟨f, fd, F, g⟩ := D
  refine ⟨f, fd, F.ok sc_least_cut (fun vs H Q E h => ?_) (fun cdv A outer s H vs Q E hr h => ?_), g, F.kp, F.bindsN (fun _ _ _ _ _ _ us hl => match us, hl with | [_], _ => rfl)⟩
  · obtain ⟨g, C, dx, fs, a, top, Vs, ad, nb, wt, rfl, _⟩ := h
    rfl
  · have hu := hu_of hr
    have nd := sc_least_cut.nd
    have hr3 : Room 3 _ := hr
    have hr1 : Room 1 _ := hr.mono (by decide)
    refine ⟨_, PSs.nox (pss_cons (ps_par (i := 1) (j := 2) (by rfl) nd rfl rfl (by decide) rfl rfl (pa_cons (pe_dc (own := [("u", 3), ("row", 4)]) (by rfl) nd (pi_items (pe_fld (pv 0) rfl)) (blkOk_by (by kernel_rfl)) (fun _ _ _ _ _ => (WkN.pgT K 2 rfl rfl (pgs_cons (pg_name (i := 3) nd rfl (Or.inl rfl)) (pgs_cons (pg_name (i := 4) nd rfl (Or.inl rfl)) pgs_nil)) rfl)) (fun _ _ _ _ _ => pts_nil) (fun _ _ _ _ _ => (pv 3)) (fun _ _ _ _ _ => (WkD.pe_dstar (pv 4)))) (pa_cons (pe_dc (own := [("u", 3)]) (by rfl) nd (pi_keys (pe_fld (pv 0) rfl)) (blkOk_by (by kernel_rfl)) (fun _ _ _ _ _ => (pg_name (i := 3) nd rfl (Or.inl rfl))) (fun _ _ _ _ _ => pts_nil) (fun _ _ _ _ _ => (pv 3)) (fun _ _ _ _ _ => (pe_lst (pa_cons (pv 3) pa_nil)))) pa_nil)) (by rfl))
      (pss_cons (ps_set (i := 5) nd rfl (Or.inl rfl) pe_non)
      (pss_cons (ps_while PassesOwn.never (pt_cmpR op_gt (pe_callB call_lenD (by rfl) B.n_len boot_len (pa_cons (pv 1) pa_nil)) pe_int (nomark _))
      (pss_cons (ps_asg (pe_c CL hr3 pass0 (pa_cons (pv 1) pa_nil)) (WkN.pgT K 3 rfl rfl (pgs_cons (pg_name (i := 6) nd rfl (Or.inl rfl)) (pgs_cons (pg_name (i := 7) nd rfl (Or.inl rfl)) (pgs_cons (pg_name (i := 8) nd rfl (Or.inl rfl)) pgs_nil))) rfl))
      (C8.pss_cut (ps_if (PW.pt (pw_or (pt_cmpR op_isN (pv 5) pe_non (nomark _)) (pw_or1 (pt_cmpR op_lt (pv 8) (pe_ix ix_tup (pv 5) pe_int (fun _ _ => rfl)) (nomark _)))))
      (pss_one (ps_set (i := 5) nd rfl (Or.inl rfl) (pe_tup (pa_cons (pv 8) (pa_cons (pe_callTy call_list_of (by rfl) B.n_list (by decide +kernel) (pa_cons (pe_dget hu (pv 2) (pv 7) (fun _ _ => rfl)) pa_nil)) pa_nil))))) pss_nil)
      (pss_cons (ps_expr (pe_c CM hr1 pass0 (pa_cons (pv 1) (pa_cons (pv 6) (pa_cons (pv 7) pa_nil)))))
      (pss_one (ps_expr (pe_bm PySem.F.plainAttrs_list PySem.F.slot_list_extend PySem.F.type_list_extend mt_extend (pe_dget hu (pv 2) (pv 6) (fun _ _ => rfl)) (pa_cons (pe_dget hu (pv 2) (pv 7) (fun _ _ => rfl)) pa_nil))))))))
      (pss_one (ps_ret (pe_tup (pa_cons (pe_ix ix_tup (pv 5) pe_int (fun _ _ => rfl)) (pa_cons (pe_c CS hr1 pass0 (pa_cons (pv 0) (pa_cons (pe_ix ix_tup (pv 5) pe_int (fun _ _ => rfl)) pa_nil))) pa_nil)))))))), ?_⟩
    obtain ⟨g, C, dx, fs, a, top, Vs, ad0, nb, wt, rfl, G, RZ, hVn, sy, h2, hsz, hT, k⟩ := h
    obtain ⟨oa, hA⟩ := RZ.top
    have tkN : ∀ i (h : i < Vs.length), Vs[i] ∉ Vs.take i := fun i h z => by
      obtain ⟨j, hj, e⟩ := List.mem_iff_getElem.mp z
      rw [List.length_take] at hj
      rw [List.getElem_take] at e
      have := (List.getElem_inj hVn).mp e
      omega
    have tkL : ∀ i, (Vs.take i).length < sizeLine := fun i => by
      rw [List.length_take]
      exact Nat.lt_of_le_of_lt (Nat.min_le_right _ _) (Nat.lt_trans hsz (by decide))
    refine ⟨_, rfl, g, C, dx, fs, _, rfl, G.ins, G.cls, G.na, G.la, a, oa, _, rfl, hA, fun ra nra => ?_⟩
    refine dc_it (walk_items (kvs := dct Vs fun u => .ref (ad0 u))) (fun i H2 => ∃ ad, Cop H ra nb wt (Vs.take i) ad H2) ⟨ad0, ⟨upd_same, fun u hu => absurd hu (by simp), fun u hu => absurd hu (by simp), by simp⟩, fun b o hb hne => by rw [upd_ne hne]; exact hb, fun u hu => absurd hu (by simp)⟩ ?_ ?_ ?_
    · rintro i H2 hi ⟨ad, cp⟩
      exact cp.keep _ _ hA (ne_of_none hA nra)
    · rintro i x H2 H2' hi ⟨ad, cp⟩ ⟨T, kx, vx, rfl, nT, rfl, hkx, hvx⟩
      rw [dct_len] at hi
      dsimp only at hkx hvx
      rw [dct_at, List.getElem?_eq_getElem hi] at hkx hvx
      cases hkx
      cases hvx
      obtain ⟨u, eu⟩ : ∃ u, u = Vs[i] := ⟨_, rfl⟩
      have hnu := tkN i hi
      have tk := takeS (List.getElem?_eq_getElem hi)
      have huV : u ∈ Vs := eu ▸ List.getElem_mem hi
      rw [← eu] at hnu tk ⊢
      obtain ⟨ou, hU⟩ := RZ.row u huV
      have sT : Same H2 (upd H2 T (.tup [.str u, .ref (ad0 u)])) := same_upd nT
      have PT' : upd H2 T (.tup [.str u, .ref (ad0 u)]) T = some (.tup [.str u, .ref (ad0 u)]) := upd_same
      show gTup _ _ _ _ _ (upd H2 T (.tup [.str u, .ref (ad0 u)])) _
      generalize upd H2 T (.tup [.str u, .ref (ad0 u)]) = H3 at sT PT'
      refine ⟨T, _, rfl, .inl (.inl PT'), rfl, _, _, rfl, _, _, rfl, rfl, rfl, tYes_if ?_⟩
      refine ⟨_, rfl, fun p np => ⟨_, rfl, ?_⟩⟩
      have hU3 : H3 (ad0 u) = some (.frz ou (.dK (dct (nb u) fun v => .int (wt u v)))) := sT _ _ (cp.keep _ _ hU (ne_of_none hU nra))
      have nup : ad0 u ≠ p := ne_of_none hU3 np
      refine ⟨ad0 u, _, rfl, upd_same, nup, .inr ⟨ou, by rw [upd_ne nup]; exact hU3⟩, ?_⟩
      rw [upd_upd]
      have hra3 : H3 ra = some (.dK (dct (Vs.take i) fun u => .ref (ad u))) := sT _ _ cp.rows.top
      have npr : ra ≠ p := ne_of_none hra3 np
      have npH : H p = none := by
        cases e : H p with
        | none => rfl
        | some o =>
          have z := sT _ _ (cp.keep _ _ e (Ne.symm npr))
          rw [np] at z
          cases z
      refine ⟨_, Sum.inr u, rfl, by rw [upd_ne npr]; exact hra3, by rw [dct_len]; exact tkL i, fun y => if y = u then p else ad y, ?_⟩
      rw [dct_put_new hnu, tk]
      have e1 : dct (Vs.take i ++ [u]) (fun y => if y = u then V.ref p else V.ref (ad y)) = dct (Vs.take i ++ [u]) fun y => V.ref (if y = u then p else ad y) := dct_congr fun y _ => by split <;> rfl
      rw [e1]
      have at_ : ∀ y ∈ Vs.take i, H3 (ad y) = some (.dK (dct (nb y) fun v => .int (wt y v))) := fun y hy => sT _ _ (cp.rows.row y hy)
      have mm : ∀ y, y ∈ Vs.take i ++ [u] → (y = u ∧ (if y = u then p else ad y) = p) ∨ (y ∈ Vs.take i ∧ y ≠ u ∧ (if y = u then p else ad y) = ad y) := fun y hy => by
        by_cases e : y = u
        · exact .inl ⟨e, if_pos e⟩
        · rcases List.mem_append.mp hy with h | h
          · exact .inr ⟨h, e, if_neg e⟩
          · exact absurd (List.mem_singleton.mp h) e
      refine ⟨⟨upd_same, fun y hy => ?_, fun y hy z hz e => ?_, ?_⟩, fun b o hb hne => ?_, fun y hy => ?_⟩
      · rcases mm y hy with ⟨h1, h2⟩ | ⟨h1, h2, h3⟩
        · rw [h2, upd_ne (Ne.symm npr), upd_same, h1]
        · rw [h3, upd_ne (fun q => cp.rows.ne h1 q), upd_ne (ne_of_none (at_ y h1) np)]
          exact at_ y h1
      · rcases mm y hy with ⟨h1, h2⟩ | ⟨h1, h2, h3⟩
        · rcases mm z hz with ⟨g1, g2⟩ | ⟨g1, g2, g3⟩
          · rw [h1, g1]
          · rw [h2, g3] at e
            exact absurd e.symm (ne_of_none (at_ z g1) np)
        · rcases mm z hz with ⟨g1, g2⟩ | ⟨g1, g2, g3⟩
          · rw [h3, g2] at e
            exact absurd e (ne_of_none (at_ y h1) np)
          · rw [h3, g3] at e
            exact cp.rows.inj y h1 z g1 e
      · rw [List.nodup_append]
        refine ⟨cp.rows.nd, by simp, fun a1 h1 b1 h3 e => ?_⟩
        have h3 : b1 = u := by simpa using h3
        rw [e, h3] at h1
        exact hnu h1
      · rw [upd_ne hne, upd_ne (ne_of_none hb npH)]
        exact sT _ _ (cp.keep _ _ hb hne)
      · rcases mm y hy with ⟨h1, h2⟩ | ⟨h1, h2, h3⟩
        · rw [h2]
          exact npH
        · rw [h3]
          exact cp.new y h1
    · rintro H1 ⟨ad, cp⟩
      rw [dct_len, List.take_length] at cp
      have fr1 : ∀ b o, H b = some o → H1 b = some o := fun b o hb => cp.keep b o hb (ne_of_none hb nra)
      have hA1 := fr1 _ _ hA
      have G1 := G.ext (Ext.of fr1)
      have T1 : Tabs tbT H1 := hT.ext fr1
      refine ⟨_, rfl, g, C, dx, fs, _, rfl, G1.ins, G1.cls, G1.na, G1.la, a, oa, rfl, .inl ⟨_, hA1, fun ga nga => ?_⟩⟩
      refine dc_it (walk_keys (kvs := dct Vs fun u => .ref (ad0 u))) (fun i H2 => ∃ gad : Str → Addr, Grp H2 ga gad (Vs.take i) (fun u => [u]) ∧ But ga H1 H2 ∧ (∀ u ∈ Vs.take i, H1 (gad u) = none) ∧ ∀ u ∈ Vs.take i, ∀ v ∈ Vs.take i, gad u = gad v → u = v) ⟨ad0, ⟨upd_same, fun u hu => absurd hu (by simp)⟩, fun b o hb hne => by rw [upd_ne hne]; exact hb, fun u hu => absurd hu (by simp), fun u hu => absurd hu (by simp)⟩ ?_ ?_ ?_
      · rintro i H2 hi ⟨gad, g2, b2, n2, j2⟩
        exact b2 _ _ hA1 (ne_of_none hA1 nga)
      · rintro i x H2 H2' hi ⟨gad, g2, b2, n2, j2⟩ ⟨rfl, k0, v0, hk, rfl⟩
        rw [dct_len] at hi
        rw [dct_at, List.getElem?_eq_getElem hi] at hk
        cases hk
        obtain ⟨u, eu⟩ : ∃ u, u = Vs[i] := ⟨_, rfl⟩
        have hnu := tkN i hi
        have tk := takeS (List.getElem?_eq_getElem hi)
        rw [← eu] at hnu tk ⊢
        refine ⟨rfl, tYes_if ?_⟩
        refine ⟨_, rfl, _, rfl, by show 1 ≤ sizeLine; decide, fun p np => ?_⟩
        have npg : ga ≠ p := ne_of_none g2.top np
        have npH : H1 p = none := by
          cases e : H1 p with
          | none => rfl
          | some o =>
            have z := b2 _ _ e (Ne.symm npg)
            rw [np] at z
            cases z
        refine ⟨_, Sum.inr u, rfl, by rw [upd_ne npg]; exact g2.top, by rw [dct_len]; exact tkL i, fun y => if y = u then p else gad y, ?_⟩
        rw [dct_put_new hnu, tk]
        have e1 : dct (Vs.take i ++ [u]) (fun y => if y = u then V.ref p else V.ref (gad y)) = dct (Vs.take i ++ [u]) fun y => V.ref (if y = u then p else gad y) := dct_congr fun y _ => by split <;> rfl
        rw [e1]
        have mm : ∀ y, y ∈ Vs.take i ++ [u] → (y = u ∧ (if y = u then p else gad y) = p) ∨ (y ∈ Vs.take i ∧ y ≠ u ∧ (if y = u then p else gad y) = gad y) := fun y hy => by
          by_cases e : y = u
          · exact .inl ⟨e, if_pos e⟩
          · rcases List.mem_append.mp hy with h | h
            · exact .inr ⟨h, e, if_neg e⟩
            · exact absurd (List.mem_singleton.mp h) e
        have lne : ∀ y ∈ Vs.take i, gad y ≠ ga := fun y hy => ne_of (g2.lst y hy) g2.top fun z => by cases z
        refine ⟨⟨upd_same, fun y hy => ?_⟩, fun b o hb hne => ?_, fun y hy => ?_, fun y hy z hz e => ?_⟩
        · rcases mm y hy with ⟨h1, h2⟩ | ⟨h1, h2, h3⟩
          · rw [h2, upd_ne (Ne.symm npg), upd_same, h1]
            rfl
          · rw [h3, upd_ne (lne y h1), upd_ne (ne_of_none (g2.lst y h1) np)]
            exact g2.lst y h1
        · rw [upd_ne hne, upd_ne (ne_of_none hb npH)]
          exact b2 b o hb hne
        · show H1 (if y = u then p else gad y) = none
          rcases mm y hy with ⟨h1, h2⟩ | ⟨h1, h2, h3⟩
          · rw [h2]
            exact npH
          · rw [h3]
            exact n2 y h1
        · have e : (if y = u then p else gad y) = (if z = u then p else gad z) := e
          rcases mm y hy with ⟨h1, h2⟩ | ⟨h1, h2, h3⟩
          · rcases mm z hz with ⟨g1, g4⟩ | ⟨g1, g4, g3⟩
            · rw [h1, g1]
            · rw [h2, g3] at e
              exact absurd e.symm (ne_of_none (g2.lst z g1) np)
          · rcases mm z hz with ⟨g1, g4⟩ | ⟨g1, g4, g3⟩
            · rw [h3, g4] at e
              exact absurd e (ne_of_none (g2.lst y h1) np)
            · rw [h3, g3] at e
              exact j2 y h1 z g1 e
      · rintro H2 ⟨gad, g2, b2, n2, j2⟩
        rw [dct_len, List.take_length] at g2 n2 j2
        have nga0 : ga ≠ ra := fun z => by
          rw [z, cp.rows.top] at nga
          cases nga
        have ngd : ∀ u ∈ Vs, ga ≠ ad u := fun u hu z => by
          rw [z, cp.rows.row u hu] at nga
          cases nga
        have ngH : H ga = none := by
          cases e : H ga with
          | none => rfl
          | some o =>
            rw [fr1 _ _ e] at nga
            cases nga
        have R2 : RowsM H2 ra Vs ad nb wt := ⟨b2 _ _ cp.rows.top (Ne.symm nga0), fun u hu => b2 _ _ (cp.rows.row u hu) (Ne.symm (ngd u hu)), cp.rows.inj, cp.rows.nd⟩
        have fr2 : ∀ b o, H b = some o → H2 b = some o := fun b o hb => b2 _ _ (fr1 b o hb) (ne_of_none hb ngH)
        have nlH : ∀ u ∈ Vs, H (gad u) = none := fun u hu => by
          cases e : H (gad u) with
          | none => rfl
          | some o =>
            have z := n2 u hu
            rw [fr1 _ _ e] at z
            cases z
        refine ⟨_, _, rfl, ?_⟩
        refine ⟨fun m σ Hc => ∃ (Ws : List Str) (nb' : Nb) (wt' : Wt) (grp : Str → List Str) (best : Option (Int × List Str)) (bv : V) (x3 x4 x6 x7 x8 : Option V), σ = [some (.ref g), some (.ref ra), some (.ref ga), x3, x4, some bv, x6, x7, x8] ∧ RowsM Hc ra Ws ad nb' wt' ∧ Sym Ws nb' wt' ∧
          Phases Vs nb wt Ws nb' wt' grp best ∧ Grp Hc ga gad Vs grp ∧ BestH Hc gad Vs bv best ∧ Ext H Hc ∧ Tabs tbT Hc ∧ m = Ws.length,
          ⟨_, Vs, nb, wt, fun u => [u], none, .non, none, none, none, none, none, rfl, R2, sy, Phases.start, g2, rfl, Ext.of fr2, hT.ext fr2, rfl⟩, ?_⟩
        rintro m σ H3 ⟨Ws, nb', wt', grp, best, bv, x3, x4, x6, x7, x8, rfl, R3, sy3, ph, g3, bh, e3, T3, rfl⟩
        have gs := ph.grps
        have wl : Ws.length ≤ Vs.length := R3.nd.length_le_of_subset fun u hu => gs.sub u hu
        refine ⟨_, rfl, ra, _, rfl, R3.top, _, _, rfl, rfl, _, rfl, ?_⟩
        rw [dct_len]
        refine ite2 (fun h1 => ?_) (fun h1 => ?_)
        · have h1 : (1 : Int) < (Ws.length : Int) := of_decide_eq_true h1
          refine ⟨fun σ' H' => ∃ (Ws' : List Str) (nb' : Nb) (wt' : Wt) (grp : Str → List Str) (best : Option (Int × List Str)) (bv : V) (x3 x4 x6 x7 x8 : Option V), σ' = [some (.ref g), some (.ref ra), some (.ref ga), x3, x4, some bv, x6, x7, x8] ∧ RowsM H' ra Ws' ad nb' wt' ∧ Sym Ws' nb' wt' ∧
            Phases Vs nb wt Ws' nb' wt' grp best ∧ Grp H' ga gad Vs grp ∧ BestH H' gad Vs bv best ∧ Ext H H' ∧ Tabs tbT H' ∧ Ws'.length < Ws.length, ?_, ?_⟩
          · rintro σ' H' ⟨Ws', nb', wt', grp, best, bv, x3, x4, x6, x7, x8, q1, q2, q3, q4, q5, q6, q7, q8, q9⟩
            exact ⟨_, q9, Ws', nb', wt', grp, best, bv, x3, x4, x6, x7, x8, q1, q2, q3, q4, q5, q6, q7, q8, rfl⟩
          refine ⟨_, rfl, ra, Ws, ad, nb', wt', rfl, R3, sy3.nd, by omega, by omega, T3, fun p x l n H4 e4 T4 hp lt => ?_⟩
          obtain ⟨hxW, hlW, hxl⟩ := lt.mem
          have R4 := R3.ext e4
          have g4 : Grp H4 ga gad Vs grp := ⟨e4 _ _ g3.top dk_tbl, fun u hu => e4 _ _ (g3.lst u hu) (fun ps z => by cases z)⟩
          have bh4 : BestH H4 gad Vs bv best := bh.ext fun c o hc q => e4 _ _ hc fun ps z => by
            rcases q with ⟨_, q⟩ | ⟨_, q, _⟩
            · rw [q] at z
              cases z
            · rw [q] at z
              cases z
          have e04 := e3.trans e4
          refine ⟨p, _, rfl, .inl (.inl hp), rfl, _, _, rfl, _, _, rfl, _, _, rfl, rfl, ?_⟩
          refine ⟨fun σ' H' => ∃ bv' : V, σ' = [some (.ref g), some (.ref ra), some (.ref ga), x3, x4, some bv', some (.str x), some (.str l), some (.int n)] ∧ Same H4 H' ∧ BestH H' gad Vs bv' (better best n (grp l)), ?_, ?_⟩
          · -- the best one
            have take : better best n (grp l) = some (n, grp l) → ∀ q1 : Addr, H4 q1 = none → ∀ q2, upd H4 q1 (.lst ((grp l).map V.str)) q2 = none →
                Same H4 (upd (upd H4 q1 (.lst ((grp l).map V.str))) q2 (.tup [.int n, .ref q1])) ∧ BestH (upd (upd H4 q1 (.lst ((grp l).map V.str))) q2 (.tup [.int n, .ref q1])) gad Vs (.ref q2) (better best n (grp l)) := fun hb q1 nq1 q2 nq2 => by
              refine ⟨(same_upd nq1).trans (same_upd nq2), ?_⟩
              rw [hb]
              exact ⟨q2, q1, rfl, upd_same, (same_upd nq2) _ _ upd_same, fun u hu z => by
                have z2 := g4.lst u hu
                rw [← z, nq1] at z2
                cases z2⟩
            have hga4 := g4.top
            have hl4 := g4.lst l (gs.sub l hlW)
            cases best with
            | none =>
              obtain rfl : bv = .non := bh4
              refine ⟨_, rfl, rfl, _, rfl, iteT ?_⟩
              refine ⟨_, rfl, _, rfl, _, rfl, ga, _, rfl, get_d (.inl hga4) (gs.sub l hlW), gad l, _, rfl, .inl (SqL.of hl4), fun q1 nq1 => ⟨by show 2 ≤ sizeLine; decide, fun q2 nq2 => ?_⟩⟩
              obtain ⟨z1, z2⟩ := take rfl q1 nq1 q2 nq2
              exact ⟨_, rfl, z1, z2⟩
            | some bm =>
              obtain ⟨bn, bms⟩ := bm
              obtain ⟨bp, ml, rfl, hbp, hml, hnl⟩ := id bh4
              refine ⟨_, rfl, rfl, _, rfl, iteF ?_⟩
              refine ⟨_, rfl, _, rfl, bp, _, _, _, rfl, rfl, .inl (.inl hbp), rfl, _, _, rfl, rfl, _, rfl, ?_⟩
              refine ite2 (fun h5 => ?_) (fun h5 => ?_)
              · refine ⟨_, rfl, _, rfl, _, rfl, ga, _, rfl, get_d (.inl hga4) (gs.sub l hlW), gad l, _, rfl, .inl (SqL.of hl4), fun q1 nq1 => ⟨by show 2 ≤ sizeLine; decide, fun q2 nq2 => ?_⟩⟩
                obtain ⟨z1, z2⟩ := take (by unfold better; exact if_pos (of_decide_eq_true h5)) q1 nq1 q2 nq2
                exact ⟨_, rfl, z1, z2⟩
              · refine ⟨_, rfl, fun _ _ e => e, ?_⟩
                have e : better (some (bn, bms)) n (grp l) = some (bn, bms) := by
                  unfold better
                  exact if_neg (fun z => h5 (decide_eq_true z))
                rw [e]
                exact bh4
          · rintro σ5 H5 ⟨bv5, rfl, s5, bh5⟩
            have R5 := R4.ext (Ext.of s5)
            refine ⟨_, rfl, _, rfl, _, rfl, ra, Ws, ad, nb', wt', x, l, rfl, R5, sy3, hxW, hlW, hxl, by omega, fun nb6 wt6 H6 R6 mg fr6 => ?_⟩
            have nr : ∀ u ∈ Ws, ∀ o, (∀ kvs, o ≠ HO.dK kvs) → ∀ b, H5 b = some o → b ≠ ad u := fun u hu o ho b hb z => by
              rw [z, R5.row u hu] at hb
              exact ho _ (Option.some.inj hb).symm
            have keep6 : ∀ b o, H5 b = some o → (∀ kvs, o ≠ HO.dK kvs) → H6 b = some o := fun b o hb ho => fr6 b o hb (fun z => by
              rw [z, R5.top] at hb
              exact ho _ (Option.some.inj hb).symm) fun u hu => nr u hu o ho b hb
            have hga6 : H6 ga = some (.dK (dct Vs fun u => .ref (gad u))) := fr6 _ _ (s5 _ _ g4.top) nga0 fun u hu => ngd u (gs.sub u hu)
            have hl6 : ∀ u ∈ Vs, H6 (gad u) = some (.lst ((grp u).map V.str)) := fun u hu => keep6 _ _ (s5 _ _ (g4.lst u hu)) (fun kvs z => by cases z)
            have hxV := gs.sub x hxW
            have hlV := gs.sub l hlW
            refine ⟨_, rfl, _, rfl, ga, _, rfl, get_d (.inl hga6) hxV, ?_, _, rfl, _, rfl, ga, _, rfl, get_d (.inl hga6) hlV, gad x, gad l, _, _, rfl, rfl, hl6 x hxV, hl6 l hlV, ?_, ?_⟩
            · exact .inl ⟨rfl, _, SqL.of (hl6 x hxV)⟩
            · rw [List.length_map, List.length_map]
              have a1 := gs.len hxW
              have a2 := gs.len hlW
              have a3 : 2000 ≤ sizeLine := by decide
              omega
            · have nlx : ∀ u ∈ Vs, u ≠ x → gad u ≠ gad x := fun u hu hne z => hne (j2 u hu x hxV z)
              have ndk : ∀ b kvs, H6 b = some (.dK kvs) → b ≠ gad x := fun b kvs hb => ne_of hb (hl6 x hxV) fun z => by cases z
              refine ⟨Ws.filter fun y => decide (y ≠ l), nb6, wt6, grow grp x l, better best n (grp l), bv5, _, _, _, _, _, rfl, ⟨by rw [upd_ne (ndk _ _ R6.top)]; exact R6.top, fun u hu => by rw [upd_ne (ndk _ _ (R6.row u hu))]; exact R6.row u hu, R6.inj, R6.nd⟩, mg.sym, ph.step lt mg, ⟨by rw [upd_ne (ndk _ _ hga6)]; exact hga6, fun u hu => ?_⟩, ?_, ?_, ?_, ?_⟩
              · unfold grow
                by_cases e : u = x
                · rw [e, upd_same, if_pos rfl, List.map_append]
                · rw [upd_ne (nlx u hu e), if_neg e]
                  exact hl6 u hu
              · refine (bh5.ext (H' := H6) fun c o hc q => keep6 c o hc fun kvs z => ?_).ext fun c o hc q => ?_
                · rcases q with ⟨_, q⟩ | ⟨_, q, _⟩
                  · rw [q] at z
                    cases z
                  · rw [q] at z
                    cases z
                · rw [upd_ne ?_]
                  · exact hc
                  · rcases q with ⟨_, q⟩ | ⟨_, q, q2⟩
                    · rw [q] at hc
                      exact ne_of hc (hl6 x hxV) fun z => by cases z
                    · exact q2 x hxV
              · intro b o hb ht
                have h5 := s5 _ _ (e04 b o hb ht)
                have n1 : b ≠ ra := ne_of_none hb nra
                rw [upd_ne (ne_of_none hb (nlH x hxV))]
                exact fr6 b o h5 n1 fun u hu => ne_of_none hb (cp.new u (gs.sub u hu))
              · have T6 : Tabs tbT H6 := fun q hq => by
                  obtain ⟨ps, q1, q2, q3⟩ := (T4.ext s5) q hq
                  refine ⟨ps, keep6 _ _ q1 (fun kvs z => by cases z), q2, fun pos cv hc => ?_⟩
                  obtain ⟨c, c1, c2⟩ := q3 pos cv hc
                  exact ⟨c, c1, keep6 _ _ c2 fun kvs z => by
                    unfold CodeO at z
                    cases z⟩
                exact tabs_mut T6 (hl6 x hxV) (fun ps z => by cases z) (fun c q z => by
                  unfold CodeO at z
                  cases z)
              · exact List.length_filter_lt_length_iff_exists.mpr ⟨l, hlW, by simp⟩
        · have h1 : ¬ (1 : Int) < (Ws.length : Int) := fun z => h1 (decide_eq_true z)
          cases best with
          | none =>
            have e := ph.none rfl
            rw [e] at h1
            omega
          | some bm =>
            obtain ⟨bn, bms⟩ := bm
            obtain ⟨bp, ml, rfl, hbp, hml, hnl⟩ := bh
            refine ⟨_, rfl, bp, _, _, _, rfl, rfl, .inl (.inl hbp), rfl, ?_⟩
            have G3 := G.ext e3
            have hA3 := e3 _ _ hA fz_tbl
            refine ⟨_, rfl, _, rfl, bp, _, _, _, rfl, rfl, .inl (.inl hbp), rfl, g, C, dx, fs, a, ml, top, Vs, bms, ad0, oa, rfl, G3, hA3, hsz, .inl (SqL.of hml), fun p H4 s4 np hp => ?_⟩
            refine ⟨by show 2 ≤ sizeLine; decide, fun q nq => ?_⟩
            refine k q p bn bms _ ((e3.trans (Ext.of s4)).trans (Ext.of (same_upd nq))) (tabs_put (T3.ext s4) nq) upd_same ((same_upd nq) _ _ hp) ⟨Ws, nb', wt', grp, ph, by omega⟩
end
end Wk
namespace Wk
open PySem PySem.Spec PyProof.Rows L2 WkD WkN LamX WkP
section
variable {P : Program} {w : World} {K : PySem.W.Frag} {mg : Str → Option Value} {base : Heap}
def spStrength (K : PySem.W.Frag) (T : List (Addr × Str)) : Sp := fun vs H Q _ => ∃ (g C dx : Addr) (fs : List (Str × V)) (a : Addr) (top : Str) (Vs : List Str) (ad : Str → Addr) (nb : Nb) (wt : Wt), vs = [.ref g] ∧ GAt K H g C dx fs a top ∧ RowsZ H a Vs ad nb wt ∧ Vs.Nodup ∧ Sym Vs nb wt ∧ 2 ≤ Vs.length ∧ Vs.length < 1000 ∧ Tabs T H ∧
  ∀ n ms H', Ext H H' → Tabs T H' → LeastCut Vs nb wt n ms → Q (.int n) H'
theorem sc_strength_of : FnScope ["graph"] ["graph"] (defScope s_strength_of) := ⟨rfl, rfl, rfl, by decide +kernel, rfl, by decide +kernel, by decide +kernel⟩
theorem c_strength_of {tbT : List (Addr × Str)} (D : Def K mg "strength_of" s_strength_of) (CC : Callee P w K mg base CX0 4 "least_cut" ["graph"] (spLeast K tbT)) : Callee P w K mg base CX0 5 "strength_of" ["graph"] (spStrength K tbT) := by
  obtain ⟨f, fd, F, g⟩ := D
  refine ⟨f, fd, F.ok sc_strength_of (fun vs H Q E h => ?_) (fun cdv A outer s H vs Q E hr h => ?_), g, F.kp, F.bindsN (fun _ _ _ _ _ _ us hl => match us, hl with | [_], _ => rfl)⟩
  · obtain ⟨g, C, dx, fs, a, top, Vs, ad, nb, wt, rfl, _⟩ := h
    rfl
  · have hr4 : Room 4 _ := hr
    refine ⟨_, PSs.nox (pss_one (ps_ret (pe_ix ix_tup (pe_c CC hr4 pass0 (pa_cons (pv 0) pa_nil)) pe_int (fun _ _ => rfl)))), ?_⟩
    obtain ⟨g, C, dx, fs, a, top, Vs, ad, nb, wt, rfl, G, RZ, hn, sy, h2, hsz, hT, k⟩ := h
    exact ⟨_, rfl, g, C, dx, fs, a, top, Vs, ad, nb, wt, rfl, G, RZ, hn, sy, h2, hsz, hT, fun p q n ms H' e T hp hq lc => ⟨p, _, _, _, rfl, rfl, .inl (.inl hp), rfl, k n ms H' e T lc⟩⟩
/-! ### sorted_rows -/
theorem Cop.snoc {H H2 H3 : Hp} {ra p : Addr} {nb : Nb} {wt : Wt} {ks : List Str} {ad : Str → Addr} {u : Str} (cp : Cop H ra nb wt ks ad H2) (hu : u ∉ ks) (sT : Same H2 H3) (np : H3 p = none) (nk : List Str) :
    Cop H ra (fun y => if y = u then nk else nb y) wt (ks ++ [u]) (fun y => if y = u then p else ad y) (upd (upd H3 p (.dK (dct nk fun v => .int (wt u v)))) ra (.dK (dct (ks ++ [u]) fun y => if y = u then V.ref p else V.ref (ad y)))) := by
  have npr : ra ≠ p := ne_of_none (sT _ _ cp.rows.top) np
  have npH : H p = none := by
    cases e : H p with
    | none => rfl
    | some o =>
      have z := sT _ _ (cp.keep _ _ e (Ne.symm npr))
      rw [np] at z
      cases z
  have e1 : dct (ks ++ [u]) (fun y => if y = u then V.ref p else V.ref (ad y)) = dct (ks ++ [u]) fun y => V.ref (if y = u then p else ad y) := dct_congr fun y _ => by split <;> rfl
  rw [e1]
  have at_ : ∀ y ∈ ks, H3 (ad y) = some (.dK (dct (nb y) fun v => .int (wt y v))) := fun y hy => sT _ _ (cp.rows.row y hy)
  have mm : ∀ y, y ∈ ks ++ [u] → (y = u ∧ (if y = u then p else ad y) = p) ∨ (y ∈ ks ∧ y ≠ u ∧ (if y = u then p else ad y) = ad y) := fun y hy => by
    by_cases e : y = u
    · exact .inl ⟨e, if_pos e⟩
    · rcases List.mem_append.mp hy with h | h
      · exact .inr ⟨h, e, if_neg e⟩
      · exact absurd (List.mem_singleton.mp h) e
  refine ⟨⟨upd_same, fun y hy => ?_, fun y hy z hz e => ?_, ?_⟩, fun b o hb hne => ?_, fun y hy => ?_⟩
  · rcases mm y hy with ⟨h1, h2⟩ | ⟨h1, h2, h3⟩
    · rw [h2, upd_ne (Ne.symm npr), upd_same, h1, if_pos rfl]
    · rw [h3, upd_ne (fun q => cp.rows.ne h1 q), upd_ne (ne_of_none (at_ y h1) np), if_neg h2]
      exact at_ y h1
  · have e : (if y = u then p else ad y) = (if z = u then p else ad z) := e
    rcases mm y hy with ⟨h1, h2⟩ | ⟨h1, h2, h3⟩
    · rcases mm z hz with ⟨g1, g2⟩ | ⟨g1, g2, g3⟩
      · rw [h1, g1]
      · rw [h2, g3] at e
        exact absurd e.symm (ne_of_none (at_ z g1) np)
    · rcases mm z hz with ⟨g1, g2⟩ | ⟨g1, g2, g3⟩
      · rw [h3, g2] at e
        exact absurd e (ne_of_none (at_ y h1) np)
      · rw [h3, g3] at e
        exact cp.rows.inj y h1 z g1 e
  · rw [List.nodup_append]
    refine ⟨cp.rows.nd, by simp, fun a1 h1 b1 h3 e => ?_⟩
    have h3 : b1 = u := by simpa using h3
    rw [e, h3] at h1
    exact hu h1
  · rw [upd_ne hne, upd_ne (ne_of_none hb npH)]
    exact sT _ _ (cp.keep _ _ hb hne)
  · show H (if y = u then p else ad y) = none
    rcases mm y hy with ⟨h1, h2⟩ | ⟨h1, h2, h3⟩
    · rw [h2]
      exact npH
    · rw [h3]
      exact cp.new y h1
/-- the rows in ascending order, known from now on -/
def spSorted : Sp := fun vs H Q _ => ∃ (a : Addr) (Vs : List Str) (ad : Str → Addr) (nb : Nb) (wt : Wt), vs = [.ref a] ∧ RowsR H a Vs ad nb wt ∧ Vs.Nodup ∧ (∀ u ∈ Vs, (nb u).Nodup) ∧ Vs.length < 64 ∧ (∀ u ∈ Vs, (nb u).length < 64) ∧
  ∀ p Ws bd nb' H', Same H H' → H p = none → RowsZ H' p Ws bd nb' wt → Ws.Perm Vs → Asc Ws → (∀ u ∈ Ws, (nb' u).Perm (nb u) ∧ Asc (nb' u)) → Q (.ref p) H'
theorem sc_sorted_rows : FnScope ["around", "v", "u"] ["around"] (defScope s_sorted_rows) := ⟨rfl, rfl, rfl, by decide +kernel, rfl, by decide +kernel, by decide +kernel⟩
theorem c_sorted_rows (D : Def K mg "sorted_rows" s_sorted_rows) (B : Bi mg) : Callee P w K mg base CX0 1 "sorted_rows" ["around"] spSorted := by
  obtain ⟨f, fd, F, g⟩ := D
  refine ⟨f, fd, F.ok sc_sorted_rows (fun vs H Q E h => ?_) (fun cdv A outer s H vs Q E hr h => ?_), g, F.kp, F.bindsN (fun _ _ _ _ _ _ us hl => match us, hl with | [_], _ => rfl)⟩
  · obtain ⟨a, Vs, ad, nb, wt, rfl, _⟩ := h
    rfl
  · have hu := hu_of hr
    have nd := sc_sorted_rows.nd
    refine ⟨_, PSs.nox (pss_one (WkD.ps_fz (ps_ret (pe_dc (own := [("u", 2)]) (by rfl) nd (WkN.piL K (by rfl) (pe_callB (call_sortedD rfl) (by rfl) B.n_sorted (by decide +kernel) (pa_cons (pv 0) pa_nil))) (blkOk_by (by kernel_rfl)) (fun _ _ _ _ _ => (pg_name (i := 2) nd rfl (Or.inr rfl))) (fun _ _ _ _ _ => pts_nil) (fun _ _ _ _ _ => (pv 2)) (fun _ _ _ _ _ => (pe_dc (own := [("v", 1)]) (by rfl) nd (WkN.piL K (by rfl) (pe_callB (call_sortedD rfl) (by rfl) B.n_sorted (by decide +kernel) (pa_cons (pe_dget hu (pv 0) (pv 2) (fun _ _ => rfl)) pa_nil))) (blkOk_by (by kernel_rfl)) (fun _ _ _ _ _ => (pg_name (i := 1) nd rfl (Or.inl rfl))) (fun _ _ _ _ _ => pts_nil) (fun _ _ _ _ _ => (pv 1)) (fun _ _ _ _ _ => (pe_dget hu (pe_dget hu (pv 0) (pv 2) (fun _ _ => rfl)) (pv 1) (fun _ _ => rfl))))))))), ?_⟩
    obtain ⟨a, Vs, ad, nb, wt, rfl, R, hVn, hnn, hl, hnl, k⟩ := h
    refine ⟨_, rfl, a, _, Vs, rfl, R.top, dct_keys, hl, fun ys p1 pm so np1 => ?_⟩
    have s1 : Same H (upd H p1 (.lst (ys.map V.str))) := same_upd np1
    have L1 : upd H p1 (.lst (ys.map V.str)) p1 = some (.lst (ys.map V.str)) := upd_same
    generalize upd H p1 (.lst (ys.map V.str)) = H1 at s1 L1
    have R1 := R.ext (Ext.of s1)
    have yn : ys.Nodup := pm.nodup_iff.mpr hVn
    have yl : ys.length = Vs.length := pm.length_eq
    refine ⟨p1, rfl, ⟨_, SqL.of L1⟩, fun D nD => ?_⟩
    refine dc_it (walk_list (xs := ys.map V.str)) (fun i H2 => ∃ bd nb', Cop H1 D nb' wt (ys.take i) bd H2 ∧ ∀ u ∈ ys.take i, (nb' u).Perm (nb u) ∧ Asc (nb' u)) ⟨ad, nb, ⟨⟨upd_same, fun u hu => absurd hu (by simp), fun u hu => absurd hu (by simp), by simp⟩, fun b o hb hne => by rw [upd_ne hne]; exact hb, fun u hu => absurd hu (by simp)⟩, fun u hu => absurd hu (by simp)⟩ ?_ ?_ ?_
    · rintro i H2 hi ⟨bd, nb', cp, hp⟩
      exact SqL.of (cp.keep _ _ L1 (ne_of_none L1 nD))
    · rintro i x H2 H2' hi ⟨bd, nb', cp, hp⟩ ⟨rfl, hx⟩
      rw [List.length_map] at hi
      rw [List.getElem?_map, List.getElem?_eq_getElem hi] at hx
      cases hx
      obtain ⟨u, eu⟩ : ∃ u, u = ys[i] := ⟨_, rfl⟩
      have tk := takeS (List.getElem?_eq_getElem hi)
      have hnu : ys[i] ∉ ys.take i := fun z => by
        obtain ⟨j, hj, e⟩ := List.mem_iff_getElem.mp z
        rw [List.length_take] at hj
        rw [List.getElem_take] at e
        have := (List.getElem_inj yn).mp e
        omega
      have huV : u ∈ Vs := pm.mem_iff.mp (eu ▸ List.getElem_mem hi)
      rw [← eu] at tk hnu ⊢
      refine ⟨rfl, tYes_if ?_⟩
      have keepR : ∀ b o, Rd H1 b (.dK o) → Rd H2' b (.dK o) := fun b o h => by
        rcases h with h | ⟨q, h⟩
        · exact .inl (cp.keep _ _ h (ne_of_none h nD))
        · exact .inr ⟨q, cp.keep _ _ h (ne_of_none h nD)⟩
      have top2 := keepR _ _ R1.top
      have row2 := keepR _ _ (R1.row u huV)
      refine ⟨_, rfl, _, rfl, _, rfl, a, _, rfl, get_d top2 huV, ad u, _, nb u, rfl, row2, dct_keys, hnl u huV, fun zs p2 pm2 so2 np2 => ?_⟩
      have s3 : Same H2' (upd H2' p2 (.lst (zs.map V.str))) := same_upd np2
      have L3 : upd H2' p2 (.lst (zs.map V.str)) p2 = some (.lst (zs.map V.str)) := upd_same
      generalize upd H2' p2 (.lst (zs.map V.str)) = H3 at s3 L3
      have zn : zs.Nodup := pm2.nodup_iff.mpr (hnn u huV)
      have top3 := rdS s3 top2
      have row3 := rdS s3 row2
      refine ⟨p2, rfl, ⟨_, SqL.of L3⟩, fun D2 nD2 => ?_⟩
      have sD : ∀ o, Same H3 (upd H3 D2 o) := fun o => same_upd nD2
      refine dc_it (walk_list (xs := zs.map V.str)) (fun j H4 => H4 = upd H3 D2 (.dK (dct (zs.take j) fun v => .int (wt u v)))) rfl ?_ ?_ ?_
      · rintro j H4 hj rfl
        exact SqL.of ((sD _) _ _ L3)
      · rintro j x H4 H4' hj rfl ⟨rfl, hx⟩
        rw [List.length_map] at hj
        rw [List.getElem?_map, List.getElem?_eq_getElem hj] at hx
        cases hx
        have hvn : zs[j] ∈ nb u := pm2.mem_iff.mp (List.getElem_mem hj)
        have hnv : zs[j] ∉ zs.take j := fun z => by
          obtain ⟨j', hj', e⟩ := List.mem_iff_getElem.mp z
          rw [List.length_take] at hj'
          rw [List.getElem_take] at e
          have := (List.getElem_inj zn).mp e
          omega
        refine ⟨rfl, tYes_if ?_⟩
        refine ⟨_, rfl, _, rfl, _, rfl, a, _, rfl, get_d (rdS (sD _) top3) huV, _, rfl, ad u, _, rfl, get_d (rdS (sD _) row3) hvn, _, Sum.inr zs[j], rfl, upd_same, ?_, ?_⟩
        · rw [dct_len, List.length_take]
          have := pm2.length_eq
          have := hnl u huV
          have : 64 ≤ sizeLine := by decide
          omega
        · rw [upd_upd, dct_put_new hnv, takeS (List.getElem?_eq_getElem hj)]
          congr 2
          exact dct_congr fun y _ => by
            split
            · rename_i e
              rw [e]
            · rfl
      · rintro H4 rfl
        rw [List.length_map, List.take_length]
        have nDD : D ≠ D2 := ne_of_none (s3 _ _ cp.rows.top) nD2
        refine ⟨_, Sum.inr u, rfl, by rw [upd_ne nDD]; exact s3 _ _ cp.rows.top, ?_, fun y => if y = u then D2 else bd y, fun y => if y = u then zs else nb' y, ?_, fun y hy => ?_⟩
        · rw [dct_len, List.length_take]
          have : 64 ≤ sizeLine := by decide
          omega
        · rw [dct_put_new hnu, tk]
          exact cp.snoc hnu s3 nD2 zs
        · by_cases e : y = u
          · show (if y = u then zs else nb' y).Perm (nb y) ∧ Asc (if y = u then zs else nb' y)
            rw [if_pos e, e]
            exact ⟨pm2, asc_of so2 zn⟩
          · show (if y = u then zs else nb' y).Perm (nb y) ∧ Asc (if y = u then zs else nb' y)
            rw [if_neg e]
            rw [tk] at hy
            rcases List.mem_append.mp hy with h | h
            · exact hp y h
            · exact absurd (List.mem_singleton.mp h) e
    · rintro H2 ⟨bd, nb', cp, hp⟩
      rw [List.length_map, List.take_length] at cp hp
      refine ⟨(D, .dK (dct ys fun u => .ref (bd u))) :: ys.map fun u => (bd u, .dK (dct (nb' u) fun v => .int (wt u v))), tFz_intro (fun p hp' => ?_) ?_ fun H3 z1 z2 => ?_⟩
      · rcases List.mem_cons.mp hp' with rfl | h
        · exact ⟨cp.rows.top, trivial⟩
        · obtain ⟨u, hu', rfl⟩ := List.mem_map.mp h
          exact ⟨cp.rows.row u hu', trivial⟩
      · rw [List.map_cons, List.nodup_cons, List.map_map]
        refine ⟨fun h => ?_, ?_⟩
        · obtain ⟨u, hu', e⟩ := List.mem_map.mp h
          exact cp.rows.ne hu' e
        · refine List.pairwise_map.mpr (List.Pairwise.imp_of_mem (fun {x y} hx hy hne e => hne (cp.rows.inj x hx y hy e)) yn)
      · have fr : Same H H3 := fun b o hb => by
          have h1 := s1 _ _ hb
          have hb2 : b ≠ D := ne_of_none h1 nD
          rw [z2 b fun hm => ?_]
          · exact cp.keep _ _ h1 hb2
          · rw [List.map_cons, List.mem_cons] at hm
            rcases hm with e | hm
            · exact hb2 e
            · rw [List.map_map] at hm
              obtain ⟨u, hu', e⟩ := List.mem_map.mp hm
              have n := cp.new u hu'
              rw [show bd u = b from e, h1] at n
              cases n
        have nDH : H D = none := by
          cases e : H D with
          | none => rfl
          | some o =>
            rw [s1 _ _ e] at nD
            cases nD
        refine k D ys bd nb' H3 fr nDH ⟨z1 _ List.mem_cons_self, fun u hu' => z1 _ (List.mem_cons_of_mem _ (List.mem_map.mpr ⟨u, hu', rfl⟩))⟩ pm (asc_of so yn) hp
end
end Wk
namespace Wk
open PySem PySem.Spec PyProof.Rows L2 WkD WkN LamX WkP
/-- v can be reached -/
inductive Rch (nb : Nb) (s : Str) : Str → Prop
  | here : Rch nb s s
  | go {u v : Str} : Rch nb s u → v ∈ nb u → Rch nb s v
structure Rst (Vs : List Str) (nb : Nb) (s : Str) (fl wl : List Str) : Prop where
  nd : fl.Nodup
  sub : ∀ u ∈ fl, u ∈ Vs
  st : s ∈ fl
  wf : ∀ u ∈ wl, u ∈ fl
  cl : ∀ u ∈ fl, u ∉ wl → ∀ v ∈ nb u, v ∈ fl
  rc : ∀ u ∈ fl, Rch nb s u
section
variable {P : Program} {w : World} {K : PySem.W.Frag} {mg : Str → Option Value} {base : Heap}
def spReach : Sp := fun vs H Q _ => ∃ (a : Addr) (Vs : List Str) (ad : Str → Addr) (nb : Nb) (wt : Wt) (s : Str), vs = [.ref a, .str s] ∧ RowsM H a Vs ad nb wt ∧ s ∈ Vs ∧ (∀ u ∈ Vs, ∀ v ∈ nb u, v ∈ Vs) ∧ Vs.length < 64 ∧
  ∀ p ys H', Same H H' → H' p = some (.tup (ys.map V.str)) → Asc ys → (∀ y, y ∈ ys ↔ Rch nb s y) → (∀ y ∈ ys, y ∈ Vs) → Q (.ref p) H'
theorem sc_reached : FnScope ["around", "start", "found", "waiting", "vertex"] ["around", "start"] (defScope s_reached) := ⟨rfl, rfl, rfl, by decide +kernel, rfl, by decide +kernel, by decide +kernel⟩
theorem c_reached (D : Def K mg "reached" s_reached) (B : Bi mg) : Callee P w K mg base CX0 1 "reached" ["around", "start"] spReach := by
  obtain ⟨f, fd, F, g⟩ := D
  refine ⟨f, fd, F.ok sc_reached (fun vs H Q E h => ?_) (fun cdv A outer s H vs Q E hr h => ?_), g, F.kp, F.bindsN (fun _ _ _ _ _ _ us hl => match us, hl with | [_, _], _ => rfl)⟩
  · obtain ⟨a, Vs, ad, nb, wt, s, rfl, _⟩ := h
    rfl
  · have hu := hu_of hr
    have nd := sc_reached.nd
    refine ⟨_, PSs.nox (pss_cons (ps_par (i := 2) (j := 3) (by rfl) nd rfl rfl (by decide) rfl rfl (pa_cons (pe_disp (pps_cons (pv 1) pe_bl pps_nil) (by rfl) (by rfl) (fun z => by cases z) (by decide)) (pa_cons (pe_lst (pa_cons (pv 1) pa_nil)) pa_nil)) (by rfl))
      (pss_cons (ps_while PassesOwn.never (pt_cmpR (WkG.op_neNil hr.units) (pv 3) (pe_lst pa_nil) (nomark _))
      (pss_one (ps_lock (ps_for PassesOwn.never rfl (pi_keys (pe_dget hu (pv 0) (pe_bm0 PySem.F.plainAttrs_list PySem.F.slot_list_pop PySem.F.type_list_pop mt_pop (pv 3)) (fun _ _ => rfl))) (pg_name (i := 4) nd rfl (Or.inl rfl))
      (pss_one (ps_if (pt_cmp (pc_dnotin hu (pv 4) (pv 2)))
      (pss_cons (ps_dput hu (pv 2) (pv 4) pe_bl rfl)
      (pss_one (ps_expr (pe_bm PySem.F.plainAttrs_list PySem.F.slot_list_append PySem.F.type_list_append mt_append (pv 3) (pa_cons (pv 4) pa_nil))))) pss_nil))))))
      (pss_one (ps_ret (pe_callTy call_tuple_of (by rfl) B.n_tuple (by decide +kernel) (pa_cons (pe_callB (call_sortedD rfl) (by rfl) B.n_sorted (by decide +kernel) (pa_cons (pv 2) pa_nil)) pa_nil)))))), ?_⟩
    obtain ⟨a, Vs, ad, nb, wt, st, rfl, R, hs, hnb, hl, k⟩ := h
    intro fo nfo
    refine ⟨_, rfl, upd_same, [(Sum.inr st, .bl true)], rfl, (by show 1 ≤ 15; decide), ?_⟩
    rw [upd_upd]
    have e0 : mergeK [] [((Sum.inr st : Key), V.bl true)] = dct [st] fun _ => .bl true := rfl
    rw [e0]
    have s1 : Same H (upd H fo (.dK (dct [st] fun _ => .bl true))) := same_upd nfo
    have F1 : upd H fo (.dK (dct [st] fun _ => .bl true)) fo = some (.dK (dct [st] fun _ => .bl true)) := upd_same
    generalize upd H fo (.dK (dct [st] fun _ => .bl true)) = H1 at s1 F1
    refine ⟨_, rfl, by show 1 ≤ sizeLine; decide, fun wa nwa => ⟨_, _, rfl, ?_⟩⟩
    have nwf : fo ≠ wa := ne_of_none F1 nwa
    have s2 : Same H (upd H1 wa (.lst [.str st])) := s1.trans (same_upd nwa)
    have F2 := (same_upd (o := .lst [.str st]) nwa) _ _ F1
    have W2 : upd H1 wa (.lst [.str st]) wa = some (.lst [.str st]) := upd_same
    have nwH : H wa = none := by
      cases e : H wa with
      | none => rfl
      | some o =>
        rw [s1 _ _ e] at nwa
        cases nwa
    generalize upd H1 wa (.lst [.str st]) = H2 at s2 F2 W2
    refine ⟨fun m σ Hc => ∃ (fl wl : List Str) (x4 : Option V), σ = [some (.ref a), some (.str st), some (.ref fo), some (.ref wa), x4] ∧ Same H Hc ∧ Hc fo = some (.dK (dct fl fun _ => .bl true)) ∧ Hc wa = some (.lst (wl.map V.str)) ∧ Rst Vs nb st fl wl ∧ wl.length ≤ fl.length ∧ m = 2 * (Vs.length - fl.length) + wl.length,
      ⟨_, [st], [st], none, rfl, s2, F2, W2, ⟨by simp, fun u hu => by rw [List.mem_singleton.mp hu]; exact hs, by simp, fun u hu => hu, fun u hu hn => absurd hu hn, fun u hu => by rw [List.mem_singleton.mp hu]; exact .here⟩, Nat.le_refl _, rfl⟩, ?_⟩
    rintro m σ H3 ⟨fl, wl, x4, rfl, s3, F3, W3, rs, hle, rfl⟩
    have flV : fl.length ≤ Vs.length := rs.nd.length_le_of_subset fun u hu => rs.sub u hu
    refine ⟨_, rfl, by show 0 ≤ sizeLine; decide, fun q nq => ?_⟩
    have s4 := s3.trans (same_upd (o := .lst []) nq)
    have F4 := (same_upd (o := .lst []) nq) _ _ F3
    have W4 := (same_upd (o := .lst []) nq) _ _ W3
    have Q4 : upd H3 q (.lst []) q = some (.lst []) := upd_same
    generalize upd H3 q (.lst []) = H4 at s4 F4 W4 Q4
    refine ⟨wa, q, _, rfl, rfl, SqL.of W4, SqL.of Q4, _, rfl, ?_⟩
    refine ite2 (fun hb => ?_) (fun hb => ?_)
    · have hne : wl ≠ [] := fun z => by
        rw [z] at hb
        cases hb
      refine ⟨fun σ' H' => ∃ (fl' wl' : List Str) (x4 : Option V), σ' = [some (.ref a), some (.str st), some (.ref fo), some (.ref wa), x4] ∧ Same H H' ∧ H' fo = some (.dK (dct fl' fun _ => .bl true)) ∧ H' wa = some (.lst (wl'.map V.str)) ∧ Rst Vs nb st fl' wl' ∧ wl'.length ≤ fl'.length ∧ 2 * (Vs.length - fl'.length) + wl'.length < 2 * (Vs.length - fl.length) + wl.length, ?_, ?_⟩
      · rintro σ' H' ⟨fl', wl', x4, q1, q2, q3, q4, q5, q6, q7⟩
        exact ⟨_, q7, fl', wl', x4, q1, q2, q3, q4, q5, q6, rfl⟩
      obtain ⟨wp, u, rfl⟩ : ∃ wp u, wl = wp ++ [u] := ⟨wl.dropLast, wl.getLast hne, (List.dropLast_concat_getLast hne).symm⟩
      have huf : u ∈ fl := rs.wf u (by simp)
      have huV := rs.sub u huf
      have R4 := R.ext (Ext.of s4)
      refine ⟨ad u, _, R4.row u huV, trivial, fun od => ?_⟩
      have nuf : fo ≠ ad u := Ne.symm (ne_of_none (R.row u huV) nfo)
      have nuw : wa ≠ ad u := Ne.symm (ne_of_none (R.row u huV) nwH)
      have naw : a ≠ wa := ne_of_none R.top nwH
      have nau := R.ne huV
      have Z5 : upd H4 (ad u) (.frz od (.dK (dct (nb u) fun v => .int (wt u v)))) (ad u) = some (.frz od (.dK (dct (nb u) fun v => .int (wt u v)))) := upd_same
      have k5 : ∀ b o, H4 b = some o → b ≠ ad u → upd H4 (ad u) (.frz od (.dK (dct (nb u) fun v => .int (wt u v)))) b = some o := fun b o hb hne => by
        rw [upd_ne hne]
        exact hb
      generalize upd H4 (ad u) (.frz od (.dK (dct (nb u) fun v => .int (wt u v)))) = H5 at Z5 k5
      have W5 := k5 _ _ W4 nuw
      have F5 := k5 _ _ F4 nuf
      have A5 := k5 _ _ R4.top (Ne.symm nau)
      refine ⟨_, rfl, _, rfl, .inl ⟨rfl, _, SqL.of W5⟩, wa, _, .str u, rfl, rfl, W5, by simp, ?_⟩
      have dl : (List.map V.str (wp ++ [u])).dropLast = wp.map V.str := by simp
      rw [dl]
      have k6 : ∀ b o, H5 b = some o → b ≠ wa → upd H5 wa (.lst (wp.map V.str)) b = some o := fun b o hb hne => by
        rw [upd_ne hne]
        exact hb
      have W6 : upd H5 wa (.lst (wp.map V.str)) wa = some (.lst (wp.map V.str)) := upd_same
      show ∃ a_1 v, _ ∧ DGet (upd H5 wa (.lst (wp.map V.str))) a_1 (.str u) (some v) ∧ _
      generalize upd H5 wa (.lst (wp.map V.str)) = H6 at k6 W6
      have Z6 := k6 _ _ Z5 (Ne.symm nuw)
      have F6 := k6 _ _ F5 nwf
      refine ⟨a, _, rfl, get_d (.inl (k6 _ _ A5 naw)) huV, ad u, od, rfl, .inl ⟨_, Z6, ?_⟩⟩
      refine for_it (walk_keys (kvs := dct (nb u) fun v => .int (wt u v))) (fun i σ Hc => ∃ (new : List Str) (x4 : Option V), σ = [some (.ref a), some (.str st), some (.ref fo), some (.ref wa), x4] ∧ (∀ b o, H4 b = some o → b ≠ ad u → b ≠ wa → b ≠ fo → Hc b = some o) ∧ Hc (ad u) = some (.frz od (.dK (dct (nb u) fun v => .int (wt u v)))) ∧
        Hc fo = some (.dK (dct (fl ++ new) fun _ => .bl true)) ∧ Hc wa = some (.lst ((wp ++ new).map V.str)) ∧ (fl ++ new).Nodup ∧ (∀ v ∈ new, v ∈ Vs ∧ Rch nb st v) ∧ ∀ v ∈ (nb u).take i, v ∈ fl ++ new)
        ⟨[], x4, rfl, fun b o h1 h2 h3 _ => k6 _ _ (k5 _ _ h1 h2) h3, Z6, by rw [List.append_nil]; exact F6, by rw [List.append_nil]; exact W6, by rw [List.append_nil]; exact rs.nd, fun v hv => absurd hv (by simp), fun v hv => absurd hv (by simp)⟩ ?_ ?_ ?_
      · rintro i σ Hc hi ⟨new, x4, rfl, q1, q2, q3, q4, q5, q6, q7⟩
        exact q2
      · rintro i x σ Hc Hc' hi ⟨new, x4, rfl, q1, q2, q3, q4, q5, q6, q7⟩ ⟨rfl, k0, v0, hk, rfl⟩
        rw [dct_len] at hi
        rw [dct_at, List.getElem?_eq_getElem hi] at hk
        cases hk
        obtain ⟨v, ev⟩ : ∃ v, v = (nb u)[i] := ⟨_, rfl⟩
        have hvn : v ∈ nb u := ev ▸ List.getElem_mem hi
        have tk : ∀ y, y ∈ (nb u).take (i + 1) → y ∈ (nb u).take i ∨ y = v := fun y hy => by
          rw [takeS (List.getElem?_eq_getElem hi), List.mem_append, List.mem_singleton, ← ev] at hy
          exact hy
        have nl : (fl ++ new).length ≤ Vs.length := q5.length_le_of_subset fun y hy => (List.mem_append.mp hy).elim (fun h => rs.sub y h) (fun h => (q6 y h).1)
        have big : 64 ≤ sizeLine := by decide
        have wpl : wp.length + 1 ≤ fl.length := by simpa using hle
        have nll : fl.length + new.length ≤ Vs.length := by simpa using nl
        show tIfS _ _ _ _ (List.set _ _ (some (.str (nb u)[i]))) _
        rw [← ev]
        refine ⟨_, rfl, _, rfl, fo, _, rfl, get_x (.inl q3), _, rfl, ?_⟩
        have eo : (if v ∈ fl ++ new then some (V.bl true) else none).isSome = decide (v ∈ fl ++ new) := by
          by_cases h : v ∈ fl ++ new
          · rw [if_pos h, decide_eq_true h]
            rfl
          · rw [if_neg h, decide_eq_false h]
            rfl
        rw [eo]
        refine ite2 (fun h1 => ?_) (fun h1 => ?_)
        · have hn : v ∉ fl ++ new := fun z => by
            rw [decide_eq_true z] at h1
            cases h1
          refine ⟨_, rfl, _, rfl, fo, _, rfl, put_n q3 hn (by rw [List.length_append]; omega), ?_⟩
          have q4' : upd Hc' fo (.dK (dct ((fl ++ new) ++ [v]) fun y => if y = v then V.bl true else V.bl true)) wa = some (.lst ((wp ++ new).map V.str)) := by
            rw [upd_ne (Ne.symm nwf)]
            exact q4
          refine ⟨_, rfl, .inl ⟨rfl, _, SqL.of q4'⟩, _, rfl, wa, _, _, rfl, rfl, q4', by simp; omega, new ++ [v], _, rfl, fun b o b1 b2 b3 b4 => ?_, ?_, ?_, ?_, ?_, ?_, ?_⟩
          · rw [upd_ne b3, upd_ne b4]
            exact q1 b o b1 b2 b3 b4
          · rw [upd_ne (Ne.symm nuw), upd_ne (Ne.symm nuf)]
            exact q2
          · rw [upd_ne nwf, upd_same, List.append_assoc]
            congr 2
            exact dct_congr fun y _ => by split <;> rfl
          · rw [upd_same, ← List.append_assoc, List.map_append (l₁ := wp ++ new)]
            rfl
          · rw [← List.append_assoc, List.nodup_append]
            refine ⟨q5, by simp, fun a1 h2 b1 h3 e => ?_⟩
            have h3 : b1 = v := by simpa using h3
            rw [e, h3] at h2
            exact hn h2
          · intro y hy
            rcases List.mem_append.mp hy with h | h
            · exact q6 y h
            · rw [List.mem_singleton.mp h]
              exact ⟨hnb u huV v hvn, .go (rs.rc u huf) hvn⟩
          · intro y hy
            rw [← List.append_assoc, List.mem_append]
            rcases tk y hy with h | h
            · exact .inl (q7 y h)
            · exact .inr (by rw [h]; simp)
        · have hn : v ∈ fl ++ new := by
            by_cases h : v ∈ fl ++ new
            · exact h
            · rw [decide_eq_false h] at h1
              exact absurd rfl h1
          refine ⟨new, _, rfl, q1, q2, q3, q4, q5, q6, fun y hy => ?_⟩
          rcases tk y hy with h | h
          · exact q7 y h
          · rw [h]
            exact hn
      · rintro σ Hc ⟨new, x4, rfl, q1, q2, q3, q4, q5, q6, q7⟩
        rw [dct_len, List.take_length] at q7
        have wpl : wp.length + 1 ≤ fl.length := by simpa using hle
        have nl : (fl ++ new).length ≤ Vs.length := q5.length_le_of_subset fun y hy => (List.mem_append.mp hy).elim (fun h => rs.sub y h) (fun h => (q6 y h).1)
        have nll : fl.length + new.length ≤ Vs.length := by simpa using nl
        refine ⟨q2, fl ++ new, wp ++ new, _, rfl, fun b o hb => ?_, by rw [upd_ne nuf]; exact q3, by rw [upd_ne nuw]; exact q4, ⟨q5, fun y hy => (List.mem_append.mp hy).elim (fun h => rs.sub y h) (fun h => (q6 y h).1), List.mem_append_left _ rs.st, fun y hy => ?_, fun y hy hn v hv => ?_, fun y hy => (List.mem_append.mp hy).elim (fun h => rs.rc y h) (fun h => (q6 y h).2)⟩, by simp; omega, by simp; omega⟩
        · by_cases e : b = ad u
          · subst e
            rw [upd_same, ← hb, R.row u huV]
          · rw [upd_ne e]
            exact q1 b o (s4 _ _ hb) e (ne_of_none hb nwH) (ne_of_none hb nfo)
        · rcases List.mem_append.mp hy with h | h
          · exact List.mem_append_left _ (rs.wf y (by simp [h]))
          · exact List.mem_append_right _ h
        · rcases List.mem_append.mp hy with h | h
          · by_cases e : y = u
            · subst e
              exact q7 v hv
            · exact List.mem_append_left _ (rs.cl y h (by simp [e]; exact fun z => hn (List.mem_append_left _ z)) v hv)
          · exact absurd (List.mem_append_right _ h) hn
    · have we : wl = [] := by
        cases wl with
        | nil => rfl
        | cons y r => exact absurd rfl hb
      subst we
      refine ⟨_, rfl, fo, _, fl, rfl, .inl F4, dct_keys, by omega, fun ys p1 pm so np1 => ?_⟩
      have L1 : upd H4 p1 (.lst (ys.map V.str)) p1 = some (.lst (ys.map V.str)) := upd_same
      have s5 := s4.trans (same_upd (o := .lst (ys.map V.str)) np1)
      generalize upd H4 p1 (.lst (ys.map V.str)) = H5 at L1 s5
      refine ⟨p1, _, rfl, .inl ⟨SqL.of L1, fun p np => ?_⟩⟩
      refine k p ys _ (s5.trans (same_upd np)) upd_same (asc_of so (pm.nodup_iff.mpr rs.nd)) (fun y => ⟨fun hy => rs.rc y (pm.mem_iff.mp hy), fun hy => pm.mem_iff.mpr ?_⟩) fun y hy => rs.sub y (pm.mem_iff.mp hy)
      induction hy with
      | here => exact rs.st
      | go _ hv ih => exact rs.cl _ ih (by simp) _ hv
end
end Wk
namespace Wk
open PySem PySem.Spec PyProof.Rows L2 WkD WkN LamX WkP
section
variable {P : Program} {w : World} {K : PySem.W.Frag} {mg : Str → Option Value} {base : Heap}
/-- rows that are connected -/
def spConn : Sp := fun vs H Q _ => ∃ (a : Addr) (Vs : List Str) (ad : Str → Addr) (nb : Nb) (wt : Wt), vs = [.ref a] ∧ RowsM H a Vs ad nb wt ∧ 2 ≤ Vs.length ∧ (∀ u ∈ Vs, ∀ v ∈ nb u, v ∈ Vs) ∧ Vs.length < 64 ∧ (∀ s ∈ Vs, ∀ u ∈ Vs, Rch nb s u) ∧ ∀ H', Same H H' → Q .non H'
theorem sc_check_connected : FnScope ["around", "side"] ["around"] (defScope s_check_connected) := ⟨rfl, rfl, rfl, by decide +kernel, rfl, by decide +kernel, by decide +kernel⟩
theorem c_check_connected (D : Def K mg "check_connected" s_check_connected) (B : Bi mg) (CR : Callee P w K mg base CX0 1 "reached" ["around", "start"] spReach) : Callee P w K mg base CX0 2 "check_connected" ["around"] spConn := by
  obtain ⟨f, fd, F, g⟩ := D
  refine ⟨f, fd, F.ok sc_check_connected (fun vs H Q E h => ?_) (fun cdv A outer s H vs Q E hr h => ?_), g, F.kp, F.bindsN (fun _ _ _ _ _ _ us hl => match us, hl with | [_], _ => rfl)⟩
  · obtain ⟨a, Vs, ad, nb, wt, rfl, _⟩ := h
    rfl
  · have hu := hu_of hr
    have nd := sc_check_connected.nd
    have hr2 : Room 1 _ := hr
    refine ⟨_, PSs.nox (pss_cons (ps_set (i := 1) nd rfl (Or.inl rfl) (pe_ifExp (pt_cmpR (WkD.op_neE hr.units0) (pv 0) pe_dnewK (nomark _)) (pe_c CR hr2 pass0 (pa_cons (pv 0) (pa_cons (pe_callB (WkD.cr_minSD rfl) (by rfl) B.n_min (by decide +kernel) (pa_cons (pv 0) pa_nil)) pa_nil))) (pe_tup pa_nil)))
      (pss_one (ps_if (pt_cmpR op_lt (pe_callB call_len_seq (by rfl) B.n_len (by decide +kernel) (pa_cons (pv 1) pa_nil)) (pe_callB (call_max2 rfl) (by rfl) B.n_max (by decide +kernel) (pa_cons pe_int (pa_cons (pe_callB call_lenD (by rfl) B.n_len boot_len (pa_cons (pv 0) pa_nil)) pa_nil))) (nomark _))
      (pss_one ps_never) pss_nil))), ?_⟩
    obtain ⟨a, Vs, ad, nb, wt, rfl, R, h2, hnb, hl, hc, k⟩ := h
    refine ⟨_, rfl, fun q nq => ?_⟩
    have s1 : Same H (upd H q (.dK [])) := same_upd nq
    have Q1 : upd H q (.dK []) q = some (.dK []) := upd_same
    generalize upd H q (.dK []) = H1 at s1 Q1
    have R1 := R.ext (Ext.of s1)
    have ne : Vs ≠ [] := fun z => by
      rw [z] at h2
      simp at h2
    refine ⟨a, q, _, rfl, rfl, .inl R1.top, Q1, _, rfl, ?_⟩
    have e1 : (!(dct Vs fun u => V.ref (ad u)).isEmpty) = true := by
      cases Vs with
      | nil => exact absurd rfl ne
      | cons y r => rfl
    rw [e1]
    refine iteT ?_
    refine ⟨_, rfl, _, rfl, a, _, Vs, rfl, .inl R1.top, dct_keys, ne, fun m hm _ => ?_⟩
    refine ⟨a, Vs, ad, nb, wt, m, rfl, R1, hm, hnb, hl, fun p ys H2 s2 hp ha hy hyV => ?_⟩
    have len : ys.length = Vs.length := by
      refine Nat.le_antisymm ((asc_nodup ha).length_le_of_subset fun y h => hyV y h) (R.nd.length_le_of_subset fun u hu => (hy u).mpr (hc m hm u hu))
    have R2 := R1.ext (Ext.of s2)
    refine ⟨_, rfl, p, _, rfl, .inr (.inl (.inl hp)), _, rfl, a, _, rfl, R2.top, _, _, rfl, _, _, rfl, rfl, _, rfl, ?_⟩
    rw [List.length_map, len, dct_len]
    have e2 : decide ((Vs.length : Int) < if (Vs.length : Int) > 2 then (Vs.length : Int) else 2) = false := by
      refine decide_eq_false ?_
      split <;> omega
    refine ite2 (fun h => ?_) (fun _ => k H2 (s1.trans s2))
    rw [e2] at h
    cases h
end
end Wk
namespace Wk
open PySem PySem.Spec PyProof.Rows L2 WkD WkN LamX WkP WkE
/-- what a graph is made of: names, edges that join them, all connected -/
structure Valid (vs0 : List Str) (es : List Ed) : Prop where
  nm : ∀ u ∈ vs0, nameB u = true
  nd : vs0.Nodup
  two : 2 ≤ vs0.length
  few : vs0.length ≤ 40
  ed : ∀ (i : Nat) (a b : Str) (n : Int), es[i]? = some (a, b, n) → a ∈ vs0 ∧ b ∈ vs0 ∧ a ≠ b ∧ 1 ≤ n ∧ n ≤ 1000000000 ∧ ∀ m, ¬ Adj (es.take i) a b m
  con : ∀ nb wt, RowsOf vs0 es nb wt → ∀ s ∈ vs0, ∀ u ∈ vs0, Rch nb s u
section
variable {P : Program} {w : World} {K : PySem.W.Frag} {mg : Str → Option Value} {base : Heap}
structure GCls (K : PySem.W.Frag) (C : Addr) : Prop where
  cls : Cls K C
  na : NoAttr K C "around"
  nt : NoAttr K C "top"
  mv : ∃ u, Con K C "MAX_VERTICES" (.int 40) u
  mw : ∃ u, Con K C "MAX_WEIGHT" (.int 1000000000) u
def spGraph (K : PySem.W.Frag) : Sp := fun vs H Q _ => ∃ (x C dx va ea : Addr) (b1 b2 : Bool) (vs0 : List Str) (es : List Ed) (rs : List Addr), vs = [.ref x, .ref va, .ref ea] ∧ H x = some (.ins C dx []) ∧ GCls K C ∧ SqX b1 K H va (vs0.map V.str) ∧ SqX b2 K H ea (rs.map V.ref) ∧ EdsAt K H rs es ∧ Valid vs0 es ∧
  ∀ p Ws bd nb wt t H', (∀ b o, H b = some o → b ≠ x → H' b = some o) → H p = none → H' x = some (.ins C dx [("around", .ref p), ("top", .str t)]) → RowsZ H' p Ws bd nb wt → Ws.Perm vs0 → Asc Ws → RowsOf vs0 es nb wt → (∀ u ∈ Ws, Asc (nb u)) → t ∈ vs0 → (∀ j ∈ vs0, ¬ ltS j t) → Q .non H'
theorem name_len {z : Str} (h : nameB z = true) : z.length ≤ sizeLine := by
  unfold nameB at h
  rw [Bool.and_eq_true, Bool.and_eq_true] at h
  have h2 := of_decide_eq_true h.2.1
  have big : 9 ≤ sizeLine := by decide
  omega
theorem sc_graph_init : FnScope ["self", "vertices", "edges", "around", "vertex", "edge"] ["self", "vertices", "edges"] (defScope s_Graph_init) := ⟨rfl, rfl, rfl, by decide +kernel, rfl, by decide +kernel, by decide +kernel⟩
theorem ok_graph_init {f : Addr} {fd : FuncData} (F : FnP K "__init__" "Graph.__init__" s_Graph_init f fd) (B : Bi mg) (CN : Callee P w K mg base CX0 1 "is_name" ["value"] (spName K)) (CT : Callee P w K mg base CX0 1 "is_tuple_of" ["value", "size"] (spTupleOf K)) (CJ : Callee P w K mg base CX0 2 "can_join" ["around", "u", "v"] spJoin)
    (CB : Callee P w K mg base CX0 1 "is_between" ["value", "low", "high"] (spBetween K)) (CC : Callee P w K mg base CX0 2 "check_connected" ["around"] spConn) (CS : Callee P w K mg base CX0 1 "sorted_rows" ["around"] spSorted) : FnOk P w K mg base CX0 3 f fd ["self", "vertices", "edges"] (spGraph K) := by
  refine F.ok sc_graph_init (fun vs H Q E h => ?_) (fun cdv A outer s H vs Q E hr h => ?_)
  · obtain ⟨x, C, dx, va, ea, b1, b2, vs0, es, rs, rfl, _⟩ := h
    rfl
  have hu := hu_of hr
  have nd := sc_graph_init.nd
  have hr2 : Room 2 _ := hr
  have hr1 : Room 1 _ := hr.mono (by decide)
  refine ⟨_, PSs.nox (pss_cons (ps_set (i := 3) nd rfl (Or.inl rfl) pe_dnewK)
      (pss_cons (ps_for PassesOwn.never rfl (WkN.piOr (pi_list (pv 1)) (pi_tup (pv 1))) (pg_name (i := 4) nd rfl (Or.inl rfl))
      (pss_cons (ps_if (PW.pt (pw_or (pt_not (pt_val (pe_c CN hr1 pass0 (pa_cons (pv 4) pa_nil)))) (pw_or (pt_cmp (pc_din hu (pv 4) (pv 3))) (pw_or1 (pt_cmpR op_eq (pe_callB call_lenD (by rfl) B.n_len boot_len (pa_cons (pv 3) pa_nil)) (pe_con (pv 0) rfl) (nomark _))))))
      (pss_one ps_never) pss_nil)
      (pss_one (ps_dput hu (pv 3) (pv 4) pe_dnewK rfl))))
      (pss_cons (ps_for PassesOwn.never rfl (WkN.piOr (pi_list (pv 2)) (pi_tup (pv 2))) (pg_name (i := 5) nd rfl (Or.inl rfl))
      (pss_cons (ps_if (PW.pt (pw_or (pt_not (pt_val (pe_c CT hr1 pass0 (pa_cons (pv 5) (pa_cons pe_int pa_nil))))) (pw_or (pt_not (pt_val (pe_c CJ hr2 pass0 (pa_cons (pv 3) (pa_cons (pe_ix ix_tup (pv 5) pe_int (fun _ _ => rfl)) (pa_cons (pe_ix ix_tup (pv 5) pe_int (fun _ _ => rfl)) pa_nil)))))) (pw_or1 (pt_cmp (pc_din hu (pe_ix ix_tup (pv 5) pe_int (fun _ _ => rfl)) (pe_dget hu (pv 3) (pe_ix ix_tup (pv 5) pe_int (fun _ _ => rfl)) (fun _ _ => rfl))))))))
      (pss_one ps_never) pss_nil)
      (pss_cons (ps_if (pt_not (pt_val (pe_c CB hr1 pass0 (pa_cons (pe_ix ix_tup (pv 5) pe_int (fun _ _ => rfl)) (pa_cons pe_int (pa_cons (pe_con (pv 0) rfl) pa_nil))))))
      (pss_one ps_never) pss_nil)
      (pss_one (ps_asg2 (pe_ix ix_tup (pv 5) pe_int (fun _ _ => rfl)) (pg_sub (pe_dget hu (pv 3) (pe_ix ix_tup (pv 5) pe_int (fun _ _ => rfl)) (fun _ _ => rfl)) (pe_ix ix_tup (pv 5) pe_int (fun _ _ => rfl)) (set_dict hu) (fun _ => rfl)) (pg_sub (pe_dget hu (pv 3) (pe_ix ix_tup (pv 5) pe_int (fun _ _ => rfl)) (fun _ _ => rfl)) (pe_ix ix_tup (pv 5) pe_int (fun _ _ => rfl)) (set_dict hu) (fun _ => rfl)))))))
      (pss_cons (ps_expr (pe_c CC hr2 pass0 (pa_cons (pv 3) pa_nil)))
      (pss_cons (ps_fld (pv 0) (pe_c CS hr1 pass0 (pa_cons (pv 3) pa_nil)) rfl)
      (pss_one (ps_fld (pv 0) (pe_callB (WkD.cr_minSD rfl) (by rfl) B.n_min (by decide +kernel) (pa_cons (pv 3) pa_nil)) rfl))))))), ?_⟩
  obtain ⟨x, C, dx, va, ea, b1, b2, vs0, es, rs, rfl, hx, gc, hva, hea, hes, ok, k⟩ := h
  obtain ⟨mvu, mv⟩ := gc.mv
  obtain ⟨mwu, mw⟩ := gc.mw
  intro ra nra
  have sN := ok.nd
  have big : 1000 < sizeLine := by decide
  have few := ok.few
  refine orSeq (b := b1) (xs := vs0.map V.str) (hva.same (same_upd nra)) rfl fun J wJ => ?_
  refine for_it wJ (fun i σ Hc => ∃ (ad : Str → Addr) (x4 : Option V), σ = [some (.ref x), some (.ref va), some (.ref ea), some (.ref ra), x4, none] ∧ Cop H ra (fun _ => []) (fun _ _ => 0) (vs0.take i) ad Hc)
    ⟨fun _ => 0, none, rfl, ⟨⟨upd_same, fun u hu => absurd hu (by simp), fun u hu => absurd hu (by simp), by simp⟩, fun b o hb hne => by rw [upd_ne hne]; exact hb, fun u hu => absurd hu (by simp)⟩⟩ ?_ ?_ ?_
  · rintro i σ Hc hi ⟨ad, x4, rfl, cp⟩
    exact hva.same fun b o hb => cp.keep b o hb (ne_of_none hb nra)
  · rintro i y σ Hc Hc' hi ⟨ad, x4, rfl, cp⟩ ⟨rfl, hy⟩
    rw [List.length_map] at hi
    rw [List.getElem?_map, List.getElem?_eq_getElem hi] at hy
    cases hy
    have sH : Same H Hc' := fun b o hb => cp.keep b o hb (ne_of_none hb nra)
    have hm : vs0[i] ∈ vs0 := List.getElem_mem hi
    have hnin := take_nin sN hi
    have tk := takeS (List.getElem?_eq_getElem hi)
    obtain ⟨v, ev⟩ : ∃ v, v = vs0[i] := ⟨_, rfl⟩
    rw [← ev] at hm hnin tk ⊢
    have nm := ok.nm v hm
    refine ⟨_, rfl, .inl ⟨v, rfl, name_len nm, fun H1 s1 => ⟨_, rfl, ite2 (fun h => ?_) (fun _ => ?_)⟩⟩⟩
    · rw [nm] at h
      cases h
    have c1 := cp.rows.ext (Ext.of s1)
    refine ⟨_, rfl, _, rfl, ra, _, rfl, get_n (.inl c1.top) hnin, _, rfl, ite2 (fun h => ?_) (fun _ => ?_)⟩
    · cases h
    have lt : (vs0.take i).length = i := by
      rw [List.length_take]
      omega
    refine ⟨_, rfl, ra, _, rfl, c1.top, ?_⟩
    refine ⟨_, rfl, x, C, dx, _, _, _, rfl, s1 _ _ (sH _ _ hx), gc.cls, mv, rfl, rfl, _, rfl, ite2 (fun h => ?_) (fun _ => ?_)⟩
    · rw [decI] at h
      have h := of_decide_eq_true h
      rw [dct_len, lt] at h
      omega
    intro p np
    have s2 : Same Hc' (upd H1 p (.dK [])) := s1.trans (same_upd np)
    refine ⟨_, rfl, _, rfl, ra, _, rfl, put_n (s2 _ _ cp.rows.top) hnin (by rw [lt]; omega), ?_⟩
    have z := cp.snoc hnin s1 np []
    refine ⟨fun y => if y = v then p else ad y, _, rfl, ?_⟩
    rw [tk]
    have e : (fun y : Str => if y = v then ([] : List Str) else []) = fun _ => [] := funext fun y => by split <;> rfl
    rw [e] at z
    exact z
  · rintro σ H1 ⟨ad, x4, rfl, cp⟩
    rw [List.length_map, List.take_length] at cp
    have s1 : Same H H1 := fun b o hb => cp.keep b o hb (ne_of_none hb nra)
    refine orSeq (b := b2) (xs := rs.map V.ref) (hea.same s1) rfl fun J wJ => ?_
    refine for_it wJ (fun i σ Hc => ∃ (nb : Nb) (wt : Wt) (x4 x5 : Option V), σ = [some (.ref x), some (.ref va), some (.ref ea), some (.ref ra), x4, x5] ∧ Cop H ra nb wt vs0 ad Hc ∧ RowsOf vs0 (es.take i) nb wt)
      ⟨_, _, x4, none, rfl, cp, RowsOf.nil _ _⟩ ?_ ?_ ?_
    · rintro i σ Hc hi ⟨nb, wt, x4, x5, rfl, cp, ro⟩
      exact hea.same fun b o hb => cp.keep b o hb (ne_of_none hb nra)
    · rintro i y σ Hc Hc' hi ⟨nb, wt, x4, x5, rfl, cp, ro⟩ ⟨rfl, hy⟩
      rw [List.length_map] at hi
      rw [List.getElem?_map, List.getElem?_eq_getElem hi] at hy
      cases hy
      have hi2 : i < es.length := by
        rw [← hes.1]
        exact hi
      obtain ⟨⟨a, b, n⟩, ee⟩ : ∃ e, e = es[i] := ⟨_, rfl⟩
      have he : es[i]? = some (a, b, n) := by
        rw [List.getElem?_eq_getElem hi2, ee]
      have tk := takeS he
      obtain ⟨ha, hb, hab, n1, n2, hno⟩ := ok.ed i a b n he
      have sH : Same H Hc' := fun b o hb => cp.keep b o hb (ne_of_none hb nra)
      have hT : SqT K H rs[i] [.str a, .str b, .int n] := hes.2 i _ _ (List.getElem?_eq_getElem hi) he
      generalize rs[i] = r at hT ⊢
      have hT0 := WkG.seqT_same sH hT
      refine ⟨_, rfl, _, _, rfl, .inl ⟨r, _, rfl, hT0, by show 3 ≤ sizeLine; decide, tyT hT0, _, rfl, ite2 (fun h => ?_) (fun _ => ?_)⟩⟩
      · cases h
      refine ⟨_, rfl, _, rfl, r, _, _, _, rfl, rfl, hT0, rfl, _, rfl, r, _, _, _, rfl, rfl, hT0, rfl, ra, _, _, a, b, rfl, .inl cp.rows.top, name_len (ok.nm a ha), name_len (ok.nm b hb), fun H1 s1 => ⟨_, rfl, ite2 (fun h => ?_) (fun _ => ?_)⟩⟩
      · unfold joinB at h
        rw [ok.nm a ha, ok.nm b hb, decide_eq_true ha, decide_eq_true hb, decide_eq_false hab] at h
        cases h
      have c1 := cp.rows.ext (Ext.of s1)
      have hT1 := WkG.seqT_same s1 hT0
      have hnb : b ∉ nb a := fun z => by
        obtain ⟨m, hm⟩ := (ro.mem a ha b).mp z
        exact hno m hm
      refine ⟨_, rfl, r, _, _, _, rfl, rfl, hT1, rfl, _, rfl, _, rfl, r, _, _, _, rfl, rfl, hT1, rfl, ra, _, rfl, get_d (.inl c1.top) ha, ad a, _, rfl, get_n (.inl (c1.row a ha)) hnb, _, rfl, ite2 (fun h => ?_) (fun _ => ?_)⟩
      · cases h
      refine ⟨_, rfl, r, _, _, _, rfl, rfl, hT1, rfl, _, rfl, x, C, dx, _, _, _, rfl, s1 _ _ (sH _ _ hx), gc.cls, mw, rfl, _, _, _, rfl, .inl ⟨n, rfl, _, rfl, ite2 (fun h => ?_) (fun _ => ?_)⟩⟩
      · rw [decide_eq_true n1, decide_eq_true n2] at h
        cases h
      have ne_ab : ad b ≠ ad a := fun z => hab (c1.inj b hb a ha z).symm
      have nl : ∀ u ∈ vs0, (nb u).length < sizeLine := fun u hu => by
        have : (nb u).length ≤ vs0.length := (ro.nd u hu).length_le_of_subset fun y hy => by
          obtain ⟨m, hm⟩ := (ro.mem u hu y).mp hy
          have key : ∀ c d, (c, d, m) ∈ es.take i → c ∈ vs0 ∧ d ∈ vs0 := fun c d h => by
            obtain ⟨j, hj, e⟩ := List.mem_iff_getElem.mp h
            rw [List.length_take] at hj
            rw [List.getElem_take] at e
            have q := ok.ed j c d m (by rw [List.getElem?_eq_getElem (by omega), e])
            exact ⟨q.1, q.2.1⟩
          rcases hm with h | h
          · exact (key _ _ h).2
          · exact (key _ _ h).1
        omega
      refine ⟨_, rfl, r, _, _, _, rfl, rfl, hT1, rfl, _, rfl, _, rfl, r, _, _, _, rfl, rfl, hT1, rfl, ra, _, rfl, get_d (.inl c1.top) ha, _, rfl, r, _, _, _, rfl, rfl, hT1, rfl, ad a, _, rfl, putI (c1.row a ha) (nl a ha), ?_⟩
      have R2 := c1.put ha (add (nb a) b) (fun y => if y = b then n else wt a y)
      have hT2 : SqT K (upd H1 (ad a) (.dK (dct (add (nb a) b) fun y => .int (if y = b then n else wt a y)))) r [.str a, .str b, .int n] := by
        refine tup_upd hT1 (c1.row a ha) trivial
      have rb : upd H1 (ad a) (.dK (dct (add (nb a) b) fun y => .int (if y = b then n else wt a y))) (ad b) = some (.dK (dct (nb b) fun y => .int (wt b y))) := by
        rw [upd_ne ne_ab]
        exact c1.row b hb
      have k2 : ∀ c o, H c = some o → upd H1 (ad a) (.dK (dct (add (nb a) b) fun y => .int (if y = b then n else wt a y))) c = some o := fun c o hc => by
        rw [upd_ne (ne_of_none hc (cp.new a ha))]
        exact s1 _ _ (sH _ _ hc)
      generalize upd H1 (ad a) (.dK (dct (add (nb a) b) fun y => .int (if y = b then n else wt a y))) = H2 at R2 hT2 rb k2
      refine ⟨_, rfl, _, rfl, r, _, _, _, rfl, rfl, hT2, rfl, ra, _, rfl, get_d (.inl R2.top) hb, _, rfl, r, _, _, _, rfl, rfl, hT2, rfl, ad b, _, rfl, putI rb (nl b hb), ?_⟩
      have R3 := R2.put hb (add (nb b) a) (fun y => if y = a then n else wt b y)
      refine ⟨_, _, _, _, rfl, ⟨R3.as (nb' := up (up nb a (add (nb a) b)) b (add (nb b) a)) (wt' := upw (upw wt a fun y => if y = b then n else wt a y) b fun y => if y = a then n else wt b y) (fun u _ => rfl) (fun u _ y _ => rfl), fun c o hc hne => ?_, cp.new⟩, ?_⟩
      · rw [upd_ne (ne_of_none hc (cp.new b hb))]
        exact k2 c o hc
      · rw [tk]
        exact ro.snoc ha hb hab hnb
    · rintro σ H2 ⟨nb, wt, x4, x5, rfl, cp, ro⟩
      rw [List.length_map, hes.1, List.take_length] at ro
      have sH : Same H H2 := fun b o hb => cp.keep b o hb (ne_of_none hb nra)
      have mV : ∀ u ∈ vs0, ∀ v ∈ nb u, v ∈ vs0 := fun u hu v hv => by
        obtain ⟨m, hm⟩ := (ro.mem u hu v).mp hv
        have key : ∀ c d, (c, d, m) ∈ es → c ∈ vs0 ∧ d ∈ vs0 := fun c d h => by
          obtain ⟨j, hj, e⟩ := List.mem_iff_getElem.mp h
          have q := ok.ed j c d m (by rw [List.getElem?_eq_getElem hj, e])
          exact ⟨q.1, q.2.1⟩
        rcases hm with h | h
        · exact (key _ _ h).2
        · exact (key _ _ h).1
      refine ⟨_, rfl, ra, vs0, ad, nb, wt, rfl, cp.rows, ok.two, mV, by omega, ok.con nb wt ro, fun H3 s3 => ?_⟩
      have c3 := cp.rows.ext (Ext.of s3)
      refine ⟨_, rfl, ra, vs0, ad, nb, wt, rfl, c3.r, sN, ro.nd, by omega, fun u hu => ?_, fun p Ws bd nb' H4 s4 np4 rz pm as rp => ?_⟩
      · have : (nb u).length ≤ vs0.length := (ro.nd u hu).length_le_of_subset fun y hy => mV u hu y hy
        omega
      have h4 : Same H H4 := (sH.trans s3).trans s4
      refine ⟨_, rfl, x, C, dx, _, rfl, h4 _ _ hx, gc.cls, gc.na, by decide, ?_⟩
      have xr : ra ≠ x := Ne.symm (ne_of_none hx nra)
      have c4 : upd H4 x (.ins C dx (putF "around" (.ref p) [])) ra = some (.dK (dct vs0 fun u => .ref (ad u))) := by
        rw [upd_ne xr]
        exact s4 _ _ c3.top
      refine ⟨_, rfl, ra, _, vs0, rfl, .inl c4, dct_keys, fun z => by rw [z] at few; have := ok.two; rw [z] at this; simp at this, fun t ht hmin => ?_⟩
      refine ⟨_, rfl, x, C, dx, _, rfl, upd_same, gc.cls, gc.nt, by show 1 < 1000; decide, ?_⟩
      refine k p Ws bd nb' wt t _ (fun b o hb hne => ?_) (np_of (sH.trans s3) np4) upd_same ?_ pm as ?_ (fun u hu => (rp u hu).2) ht hmin
      · rw [upd_upd, upd_ne hne]
        exact h4 _ _ hb
      · have ne_x : ∀ c o u, H4 c = some (.frz o u) → c ≠ x := fun c o u hc z => by
          rw [z, h4 _ _ hx] at hc
          cases hc
        obtain ⟨o1, t1⟩ := rz.top
        refine ⟨⟨o1, ?_⟩, fun u hu => ?_⟩
        · rw [upd_upd, upd_ne (ne_x _ _ _ t1)]
          exact t1
        · obtain ⟨o2, t2⟩ := rz.row u hu
          exact ⟨o2, by rw [upd_upd, upd_ne (ne_x _ _ _ t2)]; exact t2⟩
      · have mw : ∀ u ∈ vs0, u ∈ Ws := fun u hu => pm.mem_iff.mpr hu
        exact ⟨fun u hu => (rp u (mw u hu)).1.nodup_iff.mpr (ro.nd u hu), fun u hu v => (rp u (mw u hu)).1.mem_iff.trans (ro.mem u hu v), ro.val⟩
end
end Wk
namespace Wk
open PySem PySem.Spec PyProof.Rows L2 WkD WkN LamX WkP WkE
/-- all but x and the tables stay -/
abbrev ExtB (x : Addr) (H H' : Hp) : Prop := ∀ b o, H b = some o → b ≠ x → (∀ ps, o ≠ .tbl ps) → H' b = some o
theorem ExtB.rz {x : Addr} {H H' : Hp} {a : Addr} {Vs : List Str} {ad : Str → Addr} {nb : Nb} {wt : Wt} {C dx : Addr} {fs : List (Str × V)} (e : ExtB x H H') (R : RowsZ H a Vs ad nb wt) (hx : H x = some (.ins C dx fs)) : RowsZ H' a Vs ad nb wt := by
  have ne_x : ∀ c o u, H c = some (.frz o u) → c ≠ x := fun c o u hc z => by
    rw [z, hx] at hc
    cases hc
  obtain ⟨o1, t1⟩ := R.top
  refine ⟨⟨o1, e _ _ t1 (ne_x _ _ _ t1) fun ps z => by cases z⟩, fun u hu => ?_⟩
  obtain ⟨o2, t2⟩ := R.row u hu
  exact ⟨o2, e _ _ t2 (ne_x _ _ _ t2) fun ps z => by cases z⟩
theorem Valid.sym {vs0 Ws : List Str} {es : List Ed} {nb : Nb} {wt : Wt} (ok : Valid vs0 es) (ro : RowsOf vs0 es nb wt) (pm : Ws.Perm vs0) : Sym Ws nb wt := by
  refine ⟨fun u hu => ro.nd u (pm.mem_iff.mp hu), fun u hu v hv => ?_⟩
  have hu0 := pm.mem_iff.mp hu
  obtain ⟨m, hm⟩ := (ro.mem u hu0 v).mp hv
  have key : ∀ c d, (c, d, m) ∈ es → c ∈ vs0 ∧ d ∈ vs0 ∧ c ≠ d := fun c d h => by
    obtain ⟨j, hj, e⟩ := List.mem_iff_getElem.mp h
    have q := ok.ed j c d m (by rw [List.getElem?_eq_getElem hj, e])
    exact ⟨q.1, q.2.1, q.2.2.1⟩
  have hv0 : v ∈ vs0 ∧ v ≠ u := by
    rcases hm with h | h
    · exact ⟨(key _ _ h).2.1, Ne.symm (key _ _ h).2.2⟩
    · exact ⟨(key _ _ h).1, (key _ _ h).2.2⟩
  refine ⟨pm.mem_iff.mpr hv0.1, hv0.2, (ro.mem v hv0.1 u).mpr ⟨m, hm.symm⟩, ?_⟩
  rw [ro.val u hu0 v m hm, ro.val v hv0.1 u m hm.symm]
section
variable {P : Program} {w : World} {K : PySem.W.Frag} {mg : Str → Option Value} {base : Heap}
structure NCls (K : PySem.W.Frag) (C D fG : Addr) : Prop where
  g : GCls K C
  nf : NoAttr K C "found"
  nm : NoAttr K C "made"
  ne : NoAttr K C "entries"
  nr : NoAttr K C "running"
  ns : NoAttr K C "since"
  mro : PySem.W.mroIn K C (.ref D) = some true
  sup : PySem.W.ks_superIn K C D "__init__" = some (some (.ref fG))
/-- the fields of a network -/
def netF (p : Addr) (t : Str) (n : Int) (m e : Addr) (r s : Int) : List (Str × V) := [("around", .ref p), ("top", .str t), ("found", .int n), ("made", .ref m), ("entries", .ref e), ("running", .int r), ("since", .int s)]
def spNet (K : PySem.W.Frag) (T : List (Addr × Str)) (D fG : Addr) : Sp := fun vs H Q _ => ∃ (x C dx va ea : Addr) (b1 b2 : Bool) (vs0 : List Str) (es : List Ed) (rs : List Addr), vs = [.ref x, .ref va, .ref ea] ∧ H x = some (.ins C dx []) ∧ NCls K C D fG ∧ SqX b1 K H va (vs0.map V.str) ∧ SqX b2 K H ea (rs.map V.ref) ∧ EdsAt K H rs es ∧ Valid vs0 es ∧ Tabs T H ∧
  ∀ p Ws bd nb wt t n ms me en H', ExtB x H H' → Tabs T H' → H' x = some (.ins C dx (netF p t n me en 0 0)) → H' me = some (.tup []) → H' en = some (.lst []) → RowsZ H' p Ws bd nb wt → Ws.Perm vs0 → Asc Ws → RowsOf vs0 es nb wt → (∀ u ∈ Ws, Asc (nb u)) → t ∈ vs0 → (∀ j ∈ vs0, ¬ ltS j t) → LeastCut Ws nb wt n ms → Q .non H'
theorem ss_net_init : WkS.SupScope ["self", "vertices", "edges"] ["self", "vertices", "edges"] (defScope s_Network_init) := ⟨rfl, rfl, rfl, by decide +kernel, rfl, by decide +kernel, by decide +kernel, by decide +kernel, by decide +kernel, by decide +kernel⟩
theorem ok_net_init {f fG cc cda D : Addr} {fd fdG : FuncData} {tbT : List (Addr × Str)} (ST : WkS.SupT P K mg ["self", "vertices", "edges"] D f cc cda "Network.__init__" (defArgs s_Network_init) (defScope s_Network_init) fd) (hbd : fd.body = .stmts (defBody s_Network_init)) (FG : FnOk P w K mg base CX0 3 fG fdG ["self", "vertices", "edges"] (spGraph K)) (hb2 : Binds K fdG ["self", "vertices", "edges"] []) (hf2 : PySem.W.fnIn K fG = true)
    (hf2' : PySem.W.isFn K (.ref fG) = true) (CS : Callee P w K mg base CX0 5 "strength_of" ["graph"] (spStrength K tbT)) : FnOk P w K mg base CX0 6 f fd ["self", "vertices", "edges"] (spNet K tbT D fG) := by
  refine WkS.sup_ok (k := 5) (N := ["self", "vertices", "edges"]) (m := "__init__") (rest := (defBody s_Network_init).drop 1) ST (hbd.trans (by rfl)) ss_net_init (FG.mono (by decide)) hb2 hf2 hf2' (by decide) (fun vs H Q E h => ?_) (fun A outer s H E => pass0) (fun env => rfl) (fun env => rfl) (fun env he => ⟨_, rfl⟩) (fun env he => ?_) (fun A outer s H vs Q E hr h => ?_)
  · obtain ⟨x, C, dx, va, ea, b1, b2, vs0, es, rs, rfl, _⟩ := h
    rfl
  · exact ⟨by unfold interactive; rw [he]; rfl, rfl⟩
  · obtain ⟨x, C, dx, va, ea, b1, b2, vs0, es, rs, rfl, hx, nc, hva, hea, hes, ok, hT, k⟩ := h
    have hu := hu_of hr
    have nd := ss_net_init.nd
    have hr5 : Room 5 _ := hr
    refine ⟨_, _, x, C, dx, _, rfl, hx, nc.mro, nc.sup, pa_cons (pv 1) (pa_cons (pv 2) pa_nil), (pss_cons (ps_fld (pv 0) (pe_c CS hr5 pass0 (pa_cons (pv 0) pa_nil)) rfl)
      (pss_cons (ps_fld (pv 0) (pe_tup pa_nil) rfl)
      (pss_cons (ps_fld (pv 0) (pe_lst pa_nil) rfl)
      (pss_cons (ps_fld (pv 0) pe_int rfl)
      (pss_one (ps_fld (pv 0) pe_int rfl)))))), ?_⟩
    refine ⟨_, rfl, _, rfl, x, C, dx, va, ea, b1, b2, vs0, es, rs, rfl, hx, nc.g, hva, hea, hes, ok, fun p Ws bd nb wt t H2 k2 np hx2 rz pm as ro an ht hmin => ?_⟩
    have T2 : Tabs tbT H2 := tabs_but hT hx trivial k2
    have len : Ws.length = vs0.length := pm.length_eq
    have few := ok.few
    have two := ok.two
    refine ⟨_, rfl, x, C, dx, _, p, t, Ws, bd, nb, wt, rfl, ⟨hx2, nc.g.cls, nc.g.na, nc.g.nt, rfl, rfl⟩, rz, pm.nodup_iff.mpr ok.nd, ok.sym ro pm, by omega, by omega, T2, fun n ms H3 e3 T3 lc => ?_⟩
    have e03 : ExtB x H H3 := fun b o hb hne no => e3 _ _ (k2 b o hb hne) no
    have hx3 := e3 _ _ hx2 (fun ps z => by cases z)
    have rz3 := rz.ext e3
    refine ⟨_, rfl, x, C, dx, _, rfl, hx3, nc.g.cls, nc.nf, by show 2 < 1000; decide, ?_⟩
    have B4 : ExtB x H (upd H3 x (.ins C dx (putF "found" (.int n) [("around", .ref p), ("top", .str t)]))) := fun b o hb hne no => by
      rw [upd_ne hne]
      exact e03 b o hb hne no
    have T4 : Tabs tbT (upd H3 x (.ins C dx (putF "found" (.int n) [("around", .ref p), ("top", .str t)]))) := tabs_upd T3 hx3 trivial
    have rz4 : RowsZ (upd H3 x (.ins C dx (putF "found" (.int n) [("around", .ref p), ("top", .str t)]))) p Ws bd nb wt := ExtB.rz (fun b o hb hne _ => by rw [upd_ne hne]; exact hb) rz3 hx3
    have hx4 : upd H3 x (.ins C dx (putF "found" (.int n) [("around", .ref p), ("top", .str t)])) x = some (.ins C dx [("around", .ref p), ("top", .str t), ("found", .int n)]) := upd_same
    generalize upd H3 x (.ins C dx (putF "found" (.int n) [("around", .ref p), ("top", .str t)])) = H4 at B4 T4 rz4 hx4
    refine ⟨by show 0 ≤ sizeLine; decide, fun me nme => ⟨_, rfl, x, C, dx, _, rfl, (same_upd nme) _ _ hx4, nc.g.cls, nc.nm, by show 3 < 1000; decide, ?_⟩⟩
    have nmx : me ≠ x := Ne.symm (ne_of_none hx4 nme)
    have B5 : ExtB x H (upd (upd H4 me (.tup [])) x (.ins C dx (putF "made" (.ref me) [("around", .ref p), ("top", .str t), ("found", .int n)]))) := fun b o hb hne no => by
      rw [upd_ne hne]
      exact (same_upd nme) _ _ (B4 b o hb hne no)
    have T5 : Tabs tbT (upd (upd H4 me (.tup [])) x (.ins C dx (putF "made" (.ref me) [("around", .ref p), ("top", .str t), ("found", .int n)]))) := tabs_upd (T4.ext (same_upd nme)) ((same_upd nme) _ _ hx4) trivial
    have rz5 : RowsZ (upd (upd H4 me (.tup [])) x (.ins C dx (putF "made" (.ref me) [("around", .ref p), ("top", .str t), ("found", .int n)]))) p Ws bd nb wt := ExtB.rz (fun b o hb hne _ => by rw [upd_ne hne]; exact hb) (rz4.ext (Ext.of (same_upd nme))) ((same_upd nme) _ _ hx4)
    have hx5 : upd (upd H4 me (.tup [])) x (.ins C dx (putF "made" (.ref me) [("around", .ref p), ("top", .str t), ("found", .int n)])) x = some (.ins C dx [("around", .ref p), ("top", .str t), ("found", .int n), ("made", .ref me)]) := upd_same
    have me5 : upd (upd H4 me (.tup [])) x (.ins C dx (putF "made" (.ref me) [("around", .ref p), ("top", .str t), ("found", .int n)])) me = some (.tup []) := by
      rw [upd_ne nmx, upd_same]
    generalize upd (upd H4 me (.tup [])) x (.ins C dx (putF "made" (.ref me) [("around", .ref p), ("top", .str t), ("found", .int n)])) = H5 at B5 T5 rz5 hx5 me5
    refine ⟨by show 0 ≤ sizeLine; decide, fun en nen => ⟨_, rfl, x, C, dx, _, rfl, (same_upd nen) _ _ hx5, nc.g.cls, nc.ne, by show 4 < 1000; decide, ?_⟩⟩
    have nex : en ≠ x := Ne.symm (ne_of_none hx5 nen)
    refine ⟨_, rfl, x, C, dx, _, rfl, upd_same, nc.g.cls, nc.nr, by show 5 < 1000; decide, ?_⟩
    refine ⟨_, rfl, x, C, dx, _, rfl, upd_same, nc.g.cls, nc.ns, by show 6 < 1000; decide, ?_⟩
    rw [upd_upd, upd_upd]
    refine k p Ws bd nb wt t n ms me en _ (fun b o hb hne no => ?_) ?_ upd_same ?_ ?_ (ExtB.rz (fun b o hb hne _ => by rw [upd_ne hne]; exact hb) (rz5.ext (Ext.of (same_upd nen))) ((same_upd nen) _ _ hx5)) pm as ro an ht hmin lc
    · rw [upd_ne hne]
      exact (same_upd nen) _ _ (B5 b o hb hne no)
    · exact tabs_upd (T5.ext (same_upd nen)) ((same_upd nen) _ _ hx5) trivial
    · rw [upd_ne nmx]
      exact (same_upd nen) _ _ me5
    · rw [upd_ne nex, upd_same]
end
end Wk
namespace Wk
open PySem PySem.Spec PyProof.Rows L2 WkD WkN LamX WkP WkE
section
variable {P : Program} {w : World} {K : PySem.W.Frag} {mg : Str → Option Value} {base : Heap}
def spVertices (K : PySem.W.Frag) : Sp := fun vs H Q _ => ∃ (g C dx : Addr) (fs : List (Str × V)) (a : Addr) (top : Str) (Vs : List Str) (ad : Str → Addr) (nb : Nb) (wt : Wt), vs = [.ref g] ∧ GAt K H g C dx fs a top ∧ RowsR H a Vs ad nb wt ∧ ∀ p, H p = none → Q (.ref p) (upd H p (.tup (Vs.map V.str)))
theorem dct_kV {ks : List Str} {g : Str → V} : (dct ks g).map (fun kv => kV kv.1) = ks.map V.str := by
  unfold dct
  rw [List.map_map]
  rfl
theorem sc_vertices : FnScope ["self"] ["self"] (defScope s_Graph_vertices) := ⟨rfl, rfl, rfl, by decide +kernel, rfl, by decide +kernel, by decide +kernel⟩
theorem ok_vertices {f : Addr} {fd : FuncData} (F : FnP K "vertices" "Graph.vertices" s_Graph_vertices f fd) (B : Bi mg) : FnOk P w K mg base CX0 1 f fd ["self"] (spVertices K) := by
  refine F.ok sc_vertices (fun vs H Q E h => ?_) (fun cdv A outer s H vs Q E hr h => ?_)
  · obtain ⟨g, C, dx, fs, a, top, Vs, ad, nb, wt, rfl, _⟩ := h
    rfl
  refine ⟨_, PSs.nox (pss_one (ps_ret (pe_callTy (WkD.call_tupleD rfl) (by rfl) B.n_tuple (by decide +kernel) (pa_cons (pe_fld (pv 0) rfl) pa_nil)))), ?_⟩
  obtain ⟨g, C, dx, fs, a, top, Vs, ad, nb, wt, rfl, G, R, k⟩ := h
  refine ⟨_, rfl, g, C, dx, _, _, rfl, G.ins, G.cls, G.na, G.la, a, _, rfl, R.top, fun p np => ?_⟩
  rw [dct_kV]
  exact k p np
def spLen (K : PySem.W.Frag) : Sp := fun vs H Q _ => ∃ (g C dx : Addr) (fs : List (Str × V)) (a : Addr) (top : Str) (Vs : List Str) (ad : Str → Addr) (nb : Nb) (wt : Wt), vs = [.ref g] ∧ GAt K H g C dx fs a top ∧ RowsZ H a Vs ad nb wt ∧ Q (.int Vs.length) H
theorem sc_glen : FnScope ["self"] ["self"] (defScope s_Graph_len) := ⟨rfl, rfl, rfl, by decide +kernel, rfl, by decide +kernel, by decide +kernel⟩
theorem ok_glen {f : Addr} {fd : FuncData} (F : FnP K "__len__" "Graph.__len__" s_Graph_len f fd) (B : Bi mg) : FnOk P w K mg base CX0 1 f fd ["self"] (spLen K) := by
  refine F.ok sc_glen (fun vs H Q E h => ?_) (fun cdv A outer s H vs Q E hr h => ?_)
  · obtain ⟨g, C, dx, fs, a, top, Vs, ad, nb, wt, rfl, _⟩ := h
    rfl
  refine ⟨_, PSs.nox (pss_one (ps_ret (pe_callB WkD.call_lenR (by rfl) B.n_len boot_len (pa_cons (pe_fld (pv 0) rfl) pa_nil)))), ?_⟩
  obtain ⟨g, C, dx, fs, a, top, Vs, ad, nb, wt, rfl, G, R, k⟩ := h
  obtain ⟨o, ht⟩ := R.top
  refine ⟨_, rfl, g, C, dx, _, _, rfl, G.ins, G.cls, G.na, G.la, a, _, rfl, .inr ⟨o, ht⟩, ?_⟩
  rw [dct_len]
  exact k
def spRoot (K : PySem.W.Frag) : Sp := fun vs H Q _ => ∃ (g C dx : Addr) (fs : List (Str × V)) (a : Addr) (top : Str), vs = [.ref g] ∧ GAt K H g C dx fs a top ∧ Q (.str top) H
theorem sc_root : FnScope ["self"] ["self"] (defScope s_Network_root) := ⟨rfl, rfl, rfl, by decide +kernel, rfl, by decide +kernel, by decide +kernel⟩
theorem ok_root {f : Addr} {fd : FuncData} (F : FnP K "root" "Network.root" s_Network_root f fd) : FnOk P w K mg base CX0 1 f fd ["self"] (spRoot K) := by
  refine F.ok sc_root (fun vs H Q E h => ?_) (fun cdv A outer s H vs Q E hr h => ?_)
  · obtain ⟨g, C, dx, fs, a, top, rfl, _⟩ := h
    rfl
  refine ⟨_, PSs.nox (pss_one (ps_ret (pe_fld (pv 0) rfl))), ?_⟩
  obtain ⟨g, C, dx, fs, a, top, rfl, G, k⟩ := h
  exact ⟨_, rfl, g, C, dx, _, _, rfl, G.ins, G.cls, G.nt, G.lt, k⟩
/-! ### the edges -/
def edR (nb : Nb) (wt : Wt) (u : Str) (l : List Str) : List Ed := (l.filter fun v => decide (ltS u v)).map fun v => (u, v, wt u v)
def edL (Vs : List Str) (nb : Nb) (wt : Wt) : List Ed := Vs.flatMap fun u => edR nb wt u (nb u)
def spEdges (K : PySem.W.Frag) : Sp := fun vs H Q _ => ∃ (g C dx : Addr) (fs : List (Str × V)) (a : Addr) (top : Str) (Vs : List Str) (ad : Str → Addr) (nb : Nb) (wt : Wt), vs = [.ref g] ∧ GAt K H g C dx fs a top ∧ RowsZ H a Vs ad nb wt ∧ Vs.length ≤ 1000 ∧ (∀ u ∈ Vs, (nb u).length ≤ 1000) ∧ ∀ p rs H', Same H H' → H' p = some (.tup (rs.map V.ref)) → EdsAt K H' rs (edL Vs nb wt) → Q (.ref p) H'
theorem sc_edges : FnScope ["self", "u", "row", "v", "weight"] ["self"] (defScope s_Graph_edges) := ⟨rfl, rfl, rfl, by decide +kernel, rfl, by decide +kernel, by decide +kernel⟩
theorem ok_edges {f : Addr} {fd : FuncData} (F : FnP K "edges" "Graph.edges" s_Graph_edges f fd) (B : Bi mg) : FnOk P w K mg base CX0 1 f fd ["self"] (spEdges K) := by
  refine F.ok sc_edges (fun vs H Q E h => ?_) (fun cdv A outer s H vs Q E hr h => ?_)
  · obtain ⟨g, C, dx, fs, a, top, Vs, ad, nb, wt, rfl, _⟩ := h
    rfl
  have nd := sc_edges.nd
  refine ⟨_, PSs.nox (pss_one (ps_ret (pe_callTy call_tuple_of (by rfl) B.n_tuple (by decide +kernel) (pa_cons (pe_lc2 (own := [("u", 1), ("row", 2), ("v", 3), ("weight", 4)]) (vs1 := [3, 4]) (by rfl) nd (pi_items (pe_fld (pv 0) rfl)) (blkOk_by (by kernel_rfl)) (by decide) (fun _ _ _ _ _ => (WkN.pgT K 2 rfl rfl (pgs_cons (pg_name (i := 1) nd rfl (Or.inl rfl)) (pgs_cons (pg_name (i := 2) nd rfl (Or.inl rfl)) pgs_nil)) rfl)) (fun _ _ _ _ _ => pts_nil) (fun _ _ _ _ _ => (pi_items (pv 2))) (fun _ _ _ _ _ => (WkN.pgT K 2 rfl rfl (pgs_cons (pg_name (i := 3) nd rfl (Or.inl rfl)) (pgs_cons (pg_name (i := 4) nd rfl (Or.inl rfl)) pgs_nil)) rfl)) (fun _ _ _ _ _ => (pts_one (pt_cmpR op_lt_str (pv 1) (pv 3) (nomark _)))) (fun _ _ _ _ _ => (pe_tup (pa_cons (pv 1) (pa_cons (pv 3) (pa_cons (pv 4) pa_nil)))))) pa_nil)))), ?_⟩
  obtain ⟨g, C, dx, fs, a, top, Vs, ad, nb, wt, rfl, G, R, l1, l2, k⟩ := h
  obtain ⟨o, ht⟩ := R.top
  have big : 2000000 < sizeLine := by decide
  refine ⟨_, rfl, g, C, dx, _, _, rfl, G.ins, G.cls, G.na, G.la, a, o, _, rfl, ht, fun D nD => ?_⟩
  refine in_it (walk_items (kvs := dct Vs fun u => .ref (ad u))) (fun i Hc => ∃ rs : List Addr, Same H Hc ∧ Hc D = some (.lst (rs.map V.ref)) ∧ EdsAt K Hc rs (edL (Vs.take i) nb wt) ∧ rs.length ≤ 1000 * i)
    ⟨[], same_upd nD, upd_same, ⟨rfl, fun i r e h => absurd h (by simp)⟩, by simp⟩ ?_ ?_ ?_
  · rintro i Hc hi ⟨rs, q1, q2, q3, q4⟩
    exact q1 _ _ ht
  · rintro i x Hc Hc' hi ⟨rs, q1, q2, q3, q4⟩ ⟨T, kx, vx, rfl, nT, rfl, hkx, hvx⟩
    rw [dct_len] at hi
    dsimp only at hkx hvx
    rw [dct_at, List.getElem?_eq_getElem hi] at hkx hvx
    cases hkx
    cases hvx
    obtain ⟨u, eu⟩ : ∃ u, u = Vs[i] := ⟨_, rfl⟩
    have hu : u ∈ Vs := eu ▸ List.getElem_mem hi
    have tk := takeS (List.getElem?_eq_getElem hi)
    rw [← eu] at tk
    have s1 : Same H (upd Hc T (.tup [.str u, .ref (ad u)])) := q1.trans (same_upd nT)
    have D1 := (same_upd (o := .tup [.str u, .ref (ad u)]) nT) _ _ q2
    have E1 := q3.same (same_upd (o := .tup [.str u, .ref (ad u)]) nT)
    have P1 : upd Hc T (.tup [.str u, .ref (ad u)]) T = some (.tup [.str u, .ref (ad u)]) := upd_same
    rw [← eu]
    show gTup _ _ _ _ _ (upd Hc T (.tup [.str u, .ref (ad u)])) _
    generalize upd Hc T (.tup [.str u, .ref (ad u)]) = H1 at s1 D1 E1 P1
    refine ⟨T, _, rfl, .inl (.inl P1), rfl, _, _, rfl, _, _, rfl, rfl, rfl, tYes_if ?_⟩
    obtain ⟨o2, hr2⟩ := R.row u hu
    refine ⟨_, rfl, ad u, o2, _, rfl, s1 _ _ hr2, ?_⟩
    have ln := l2 u hu
    refine in_it (walk_items (kvs := dct (nb u) fun v => .int (wt u v))) (fun j Hc => ∃ rs : List Addr, Same H Hc ∧ Hc D = some (.lst (rs.map V.ref)) ∧ EdsAt K Hc rs (edL (Vs.take i) nb wt ++ edR nb wt u ((nb u).take j)) ∧ rs.length ≤ 1000 * i + j)
      ⟨rs, s1, D1, by simpa [edR] using E1, by omega⟩ ?_ ?_ ?_
    · rintro j Hc hj ⟨rs, q1, q2, q3, q4⟩
      exact q1 _ _ hr2
    · rintro j x Hc Hc' hj ⟨rs, q1, q2, q3, q4⟩ ⟨T2, kx, vx, rfl, nT2, rfl, hkx, hvx⟩
      rw [dct_len] at hj
      dsimp only at hkx hvx
      rw [dct_at, List.getElem?_eq_getElem hj] at hkx hvx
      cases hkx
      cases hvx
      obtain ⟨v, ev⟩ : ∃ v, v = (nb u)[j] := ⟨_, rfl⟩
      have tk2 := takeS (List.getElem?_eq_getElem hj)
      rw [← ev] at tk2 ⊢
      have s1 : Same H (upd Hc T2 (.tup [.str v, .int (wt u v)])) := q1.trans (same_upd nT2)
      have D1 := (same_upd (o := .tup [.str v, .int (wt u v)]) nT2) _ _ q2
      have E1 := q3.same (same_upd (o := .tup [.str v, .int (wt u v)]) nT2)
      have P1 : upd Hc T2 (.tup [.str v, .int (wt u v)]) T2 = some (.tup [.str v, .int (wt u v)]) := upd_same
      show gTup _ _ _ _ _ (upd Hc T2 (.tup [.str v, .int (wt u v)])) _
      generalize upd Hc T2 (.tup [.str v, .int (wt u v)]) = H1 at s1 D1 E1 P1
      refine ⟨T2, _, rfl, .inl (.inl P1), rfl, _, _, rfl, _, _, rfl, rfl, rfl, ?_⟩
      have ef : edR nb wt u ((nb u).take (j + 1)) = edR nb wt u ((nb u).take j) ++ (if ltS u v then [(u, v, wt u v)] else []) := by
        rw [tk2]
        unfold edR
        rw [List.filter_append, List.map_append]
        congr 1
        by_cases h : ltS u v
        · simp [h]
        · simp [h]
      refine ⟨_, rfl, _, rfl, _, _, rfl, rfl, _, rfl, ite2 (fun hb => ?_) (fun hb => ?_)⟩
      · have hb : ltS u v := of_decide_eq_true hb
        refine ⟨_, rfl, _, rfl, _, rfl, by show 3 ≤ sizeLine; decide, fun p np => ?_⟩
        have D2 := (same_upd (o := .tup [.str u, .str v, .int (wt u v)]) np) _ _ D1
        refine ⟨_, D2, by rw [List.length_map]; omega, rs ++ [p], ?_, ?_, ?_, ?_⟩
        · intro b o hb
          rw [upd_ne (ne_of_none hb nD)]
          exact (same_upd np) _ _ (s1 _ _ hb)
        · rw [upd_same, List.map_append]
          rfl
        · rw [ef, if_pos hb, ← List.append_assoc]
          have npD : p ≠ D := fun z => by
            rw [z, D1] at np
            cases np
          have E2 : EdsAt K (upd (upd H1 p (.tup [.str u, .str v, .int (wt u v)])) D (.lst (rs.map V.ref ++ [.ref p]))) rs (edL (Vs.take i) nb wt ++ edR nb wt u ((nb u).take j)) := by
            refine ⟨E1.1, fun i r e h1 h2 => ?_⟩
            have z := WkG.seqT_same (same_upd (o := .tup [.str u, .str v, .int (wt u v)]) np) (E1.2 i r e h1 h2)
            rcases z with (z | ⟨o, z⟩) | z
            · exact .inl (.inl (by rw [upd_ne (ne_of z D2 (by intro q; cases q))]; exact z))
            · exact .inl (.inr ⟨o, by rw [upd_ne (ne_of z D2 (by intro q; cases q))]; exact z⟩)
            · exact .inr z
          exact E2.snoc (fun _ _ h => h) (by rw [upd_ne npD, upd_same])
        · rw [List.length_append, List.length_singleton]
          omega
      · have hb : ¬ ltS u v := fun z => hb (decide_eq_true z)
        exact ⟨rs, s1, D1, by rw [ef, if_neg hb, List.append_nil]; exact E1, by omega⟩
    · rintro Hc ⟨rs, q1, q2, q3, q4⟩
      rw [dct_len] at q3 q4
      refine ⟨rs, q1, q2, ?_, by rw [Nat.mul_add]; omega⟩
      rw [List.take_length] at q3
      rw [tk]
      unfold edL at q3 ⊢
      rw [List.flatMap_append]
      simpa using q3
  · rintro Hc ⟨rs, q1, q2, q3, q4⟩
    rw [dct_len, List.take_length] at q3
    refine ⟨D, _, rfl, .inl ⟨SqL.of q2, fun p np => ?_⟩⟩
    exact k p rs _ (q1.trans (same_upd np)) upd_same (q3.same (same_upd np))
end
end Wk
namespace Wk
open PySem PySem.Spec PyProof.Rows L2 WkD WkN
section
variable {P : Program} {w : World} {K : PySem.W.Frag} {mg : Str → Option Value} {base : Heap}
/-! ### names, in plain words -/
theorem name_of {z : Str} (h0 : 0 < z.length) (h9 : z.length < 9) (h : ∀ c ∈ z.cps.toList, c ∈ letS.cps.toList) : nameB z = true := by
  unfold nameB
  rw [decide_eq_true (by omega), decide_eq_true (by omega), Bool.true_and, Bool.true_and, List.all_eq_true]
  intro b hb
  obtain ⟨c, hc, rfl⟩ := List.mem_map.mp hb
  exact decide_eq_true (h c hc)
def letC (n : Int) : Nat := letS.cps.toList.getD (n.fmod 26).toNat 0
theorem let_inj : ∀ i j : Fin 26, letS.cps.toList.getD i.val 0 = letS.cps.toList.getD j.val 0 → i = j := by decide +kernel
theorem letC_mem (n : Int) : letC n ∈ letS.cps.toList := by
  have h := fm (x := n) (m := 26) (by decide)
  have l : letS.cps.toList.length = 26 := by decide +kernel
  unfold letC
  rw [List.getD_eq_getElem?_getD, List.getElem?_eq_getElem (by omega)]
  exact List.getElem_mem _
def strides : List Int := [1, 3, 5, 7, 9, 11, 15, 17, 19, 21, 23, 25]
theorem letC_inj {f s : Int} {i j : Nat} (hs : s ∈ strides) (hi : i < 18) (hj : j < 18) (h : letC (f + s * i) = letC (f + s * j)) : i = j := by
  have h1 := fm (x := f + s * i) (m := 26) (by decide)
  have h2 := fm (x := f + s * j) (m := 26) (by decide)
  have e := let_inj ⟨((f + s * i).fmod 26).toNat, by omega⟩ ⟨((f + s * j).fmod 26).toNat, by omega⟩ h
  have e : ((f + s * i).fmod 26).toNat = ((f + s * j).fmod 26).toNat := congrArg Fin.val e
  have e : (f + s * i).fmod 26 = (f + s * j).fmod 26 := by omega
  rw [Int.fmod_eq_emod_of_nonneg _ (by decide), Int.fmod_eq_emod_of_nonneg _ (by decide)] at e
  unfold strides at hs
  simp only [List.mem_cons, List.not_mem_nil, or_false] at hs
  rcases hs with rfl | rfl | rfl | rfl | rfl | rfl | rfl | rfl | rfl | rfl | rfl | rfl <;> omega
/-- the name of a turn -/
def NameIs (B : List Nat) (a : Nat) (c : Nat) (z : Str) : Prop := ∃ t, z.cps.toList = B.take a ++ [c] ++ (B.drop (a + 1)).take t
theorem NameIs.ok {B : List Nat} {a c : Nat} {z : Str} (h : NameIs B a c z) (ha : a < B.length) (hB : B.length ≤ 8) (hm : ∀ x ∈ B, x ∈ letS.cps.toList) (hc : c ∈ letS.cps.toList) : nameB z = true := by
  obtain ⟨t, e⟩ := h
  have l := len_cps z
  rw [e, List.length_append, List.length_append, List.length_take, List.length_take, List.length_drop, List.length_singleton] at l
  refine name_of (by omega) (by omega) fun x hx => ?_
  rw [e, List.mem_append, List.mem_append] at hx
  rcases hx with (hx | hx) | hx
  · exact hm x (List.mem_of_mem_take hx)
  · rw [List.mem_singleton.mp hx]
    exact hc
  · exact hm x (List.mem_of_mem_drop (List.mem_of_mem_take hx))
theorem NameIs.at {B : List Nat} {a c : Nat} {z : Str} (h : NameIs B a c z) (ha : a < B.length) : z.cps.toList[a]? = some c := by
  obtain ⟨t, e⟩ := h
  rw [e, List.append_assoc, List.getElem?_append_right (by rw [List.length_take]; omega), List.length_take, Nat.min_eq_left (Nat.le_of_lt ha), Nat.sub_self]
  rfl
/-- the names of all turns -/
def NamesOf (B : List Nat) (a : Nat) (f s : Int) (ns : List Str) : Prop := ∀ (j : Nat) (z : Str), ns[j]? = some z → NameIs B a (letC (f + s * j)) z
theorem NamesOf.nodup {B : List Nat} {a : Nat} {f s : Int} {ns : List Str} (h : NamesOf B a f s ns) (ha : a < B.length) (hs : s ∈ strides) (hl : ns.length ≤ 18) : ns.Nodup := by
  rw [List.nodup_iff_pairwise_ne, List.pairwise_iff_getElem]
  intro i j hi hj hij e
  have h1 := (h i _ (List.getElem?_eq_getElem hi)).at ha
  have h2 := (h j _ (List.getElem?_eq_getElem hj)).at ha
  rw [e, h2] at h1
  have := letC_inj hs (by omega) (by omega) (Option.some.inj h1)
  omega
theorem NamesOf.names {B : List Nat} {a : Nat} {f s : Int} {ns : List Str} (h : NamesOf B a f s ns) (ha : a < B.length) (hB : B.length ≤ 8) (hm : ∀ x ∈ B, x ∈ letS.cps.toList) : ∀ z ∈ ns, nameB z = true := fun z hz => by
  obtain ⟨j, hj⟩ := List.getElem?_of_mem hz
  exact (h j z hj).ok ha hB hm (letC_mem _)
/-- one of them is cut short -/
theorem NamesOf.set {B : List Nat} {a : Nat} {f s : Int} {ns : List Str} {y : Str} (h : NamesOf B a f s ns) (ha : a < B.length) (hs : s ∈ strides) (hl : ns.length ≤ 18) (hy : y.cps.toList = B.take a) (i : Nat) : (ns.set i y).Nodup := by
  have nd := h.nodup ha hs hl
  have ny : y ∉ ns := fun hm => by
    obtain ⟨j, hj⟩ := List.getElem?_of_mem hm
    have h1 := (h j y hj).at ha
    rw [hy, List.getElem?_eq_none (by rw [List.length_take]; omega)] at h1
    cases h1
  rw [List.nodup_iff_pairwise_ne, List.pairwise_iff_getElem] at nd ⊢
  intro p q hp hq hpq e
  rw [List.length_set] at hp hq
  rw [List.getElem_set, List.getElem_set] at e
  split at e
  · split at e
    · omega
    · exact ny (e ▸ List.getElem_mem hq)
  · split at e
    · exact ny (e ▸ List.getElem_mem hp)
    · exact nd p q hp hq hpq e
theorem sum_one (cs : List Nat) : ((cs.map fun c => (⟨#[c]⟩ : Str)).map (·.length)).sum = cs.length := by
  induction cs with
  | nil => rfl
  | cons c r ih =>
    rw [List.map_cons, List.map_cons, List.sum_cons, ih, List.length_cons]
    show 1 + r.length = r.length + 1
    omega
def words : List Str := ["vertex", "edge", "root", "weight", "name", "merge", "log", "floor", "all", "some", "none", "lone", "round", "apart", "together", "rollback", "a", "b"]
theorem words_ok : ∀ t : Fin 18, ((((words ++ words).drop t.val).take 18).Nodup ∧ (((words ++ words).drop t.val).take 18).length = 18) ∧ ∀ z ∈ ((words ++ words).drop t.val).take 18, nameB z = true := by decide +kernel
theorem words_cut {t m : Nat} (ht : t < 18) (hm : m ≤ 18) : (((words ++ words).drop t).take m).Nodup ∧ (((words ++ words).drop t).take m).length = m ∧ ∀ z ∈ ((words ++ words).drop t).take m, nameB z = true := by
  obtain ⟨⟨h1, h2⟩, h3⟩ := words_ok ⟨t, ht⟩
  have e : ((words ++ words).drop t).take m = (((words ++ words).drop t).take 18).take m := by rw [List.take_take, Nat.min_eq_left hm]
  rw [e]
  refine ⟨h1.sublist (List.take_sublist _ _), by rw [List.length_take, h2]; omega, fun z hz => h3 z (List.mem_of_mem_take hz)⟩
def spNames : Sp := fun vs H Q _ => ∃ (p cs : Addr) (N : Nat) (m : Int), vs = [.ref p, .int m] ∧ Pen H p cs N ∧ N + 40 < 2 ^ 60 ∧ 1 ≤ m ∧ m ≤ 18 ∧
  ∀ q (ns : List Str) H', But p H H' → H q = none → H' q = some (.lst (ns.map V.str)) → ns.Nodup → (∀ z ∈ ns, nameB z = true) → (ns.length : Int) = m → Pen H' p cs (N + 40) → Q (.ref q) H'
theorem sc_lnames : FnScope ["_law_pen_here", "_law_many", "_law_words", "_law_turn", "_law_letters", "_law_base", "_law_k", "_law_at", "_law_first", "_law_cut", "_law_stride", "_law_found", "_law_tail"] ["_law_pen_here", "_law_many"] (defScope s_L_names) := ⟨rfl, rfl, rfl, by decide +kernel, rfl, by decide +kernel, by decide +kernel⟩
theorem c_lnames (D : Def K mg "_law_names" s_L_names) (B : Bi mg) (CD : Callee P w K mg base CX0 1 "_law_draw" ["_law_pen_here", "_law_many"] spDraw) (CP : Callee P w K mg base CX0 2 "_law_pick" ["_law_pen_here", "_law_some"] (spPick K)) : Callee P w K mg base CX0 3 "_law_names" ["_law_pen_here", "_law_many"] spNames := by
  obtain ⟨f, fd, F, g⟩ := D
  refine ⟨f, fd, F.ok sc_lnames (fun vs H Q E h => ?_) (fun cdv A outer s H vs Q E hr h => ?_), g, F.kp, F.bindsN (fun _ _ _ _ _ _ us hl => match us, hl with | [_, _], _ => rfl)⟩
  · obtain ⟨p, cs, N, m, rfl, _⟩ := h
    rfl
  have hu := hu_of hr
  have nd := sc_lnames.nd
  have hr2 : Room 2 _ := hr
  have hr1 : Room 1 _ := hr.mono (by decide)
  refine ⟨_, PSs.nox (pss_cons (ps_if (pt_cmpR op_eq (pe_c CD hr1 pass0 (pa_cons (pv 0) (pa_cons pe_int pa_nil))) pe_int (nomark _))
      (pss_cons (ps_set (i := 2) nd rfl (Or.inl rfl) (pe_lst (pa_cons pe_str (pa_cons pe_str (pa_cons pe_str (pa_cons pe_str (pa_cons pe_str (pa_cons pe_str (pa_cons pe_str (pa_cons pe_str (pa_cons pe_str (pa_cons pe_str pa_nil))))))))))))
      (pss_cons (ps_set (i := 3) nd rfl (Or.inl rfl) (pe_c CD hr1 pass0 (pa_cons (pv 0) (pa_cons pe_int pa_nil))))
      (pss_one (ps_ret (pe_slice sl_list (pe_slice sl_list (pe_op op_rep (pe_op op_cat (pv 2) (pe_lst (pa_cons pe_str (pa_cons pe_str (pa_cons pe_str (pa_cons pe_str (pa_cons pe_str (pa_cons pe_str (pa_cons pe_str (pa_cons pe_str pa_nil)))))))))) pe_int) (po_some (pv 3)) po_none) po_none (po_some (pv 1))))))) pss_nil)
      (pss_cons (ps_set (i := 4) nd rfl (Or.inr rfl) pe_str)
      (pss_cons (ps_set (i := 5) nd rfl (Or.inl rfl) (pe_join pe_str (pe_lc (own := [("_law_k", 6)]) (by rfl) nd (pi_range1 (by rfl) B.n_range (pa_cons (pe_op op_add pe_int (pe_c CD hr1 pass0 (pa_cons (pv 0) (pa_cons pe_int pa_nil)))) pa_nil)) (blkOk_by (by kernel_rfl)) (fun _ _ _ _ _ => (pg_name (i := 6) nd rfl (Or.inl rfl))) (fun _ _ _ _ _ => pts_nil) (fun _ _ _ _ _ => (pe_c CP hr2 pass0 (pa_cons (pv 0) (pa_cons (pv 4) pa_nil)))))))
      (pss_cons (ps_par3 (i := 7) (j := 8) (l := 9) (by rfl) nd rfl rfl rfl (by decide) (by decide) (by decide) rfl rfl rfl (pa_cons (pe_c CD hr1 pass0 (pa_cons (pv 0) (pa_cons (pe_callB call_len (by rfl) B.n_len boot_len (pa_cons (pv 5) pa_nil)) pa_nil))) (pa_cons (pe_c CD hr1 pass0 (pa_cons (pv 0) (pa_cons pe_int pa_nil))) (pa_cons (pe_c CD hr1 pass0 (pa_cons (pv 0) (pa_cons pe_int pa_nil))) pa_nil))) (by rfl))
      (pss_cons (ps_par (i := 10) (j := 11) (by rfl) nd rfl rfl (by decide) rfl rfl (pa_cons (pe_c CP hr2 pass0 (pa_cons (pv 0) (pa_cons (pe_lst (pa_cons pe_int (pa_cons pe_int (pa_cons pe_int (pa_cons pe_int (pa_cons pe_int (pa_cons pe_int (pa_cons pe_int (pa_cons pe_int (pa_cons pe_int (pa_cons pe_int (pa_cons pe_int (pa_cons pe_int pa_nil))))))))))))) pa_nil))) (pa_cons (pe_lst pa_nil) pa_nil)) (by rfl))
      (pss_cons (ps_for PassesOwn.never rfl (pi_range1 (by rfl) B.n_range (pa_cons (pv 1) pa_nil)) (pg_name (i := 6) nd rfl (Or.inl rfl))
      (pss_cons (ps_set (i := 12) nd rfl (Or.inl rfl) (pe_slice sl_str (pe_slice sl_str (pv 5) (po_some (pe_op op_add (pv 7) pe_int)) po_none) po_none (po_some (pe_ix ix_list (pe_lst (pa_cons pe_int (pa_cons (pe_op op_modN (pv 6) pe_int) pa_nil))) (pv 9) (fun _ _ => rfl)))))
      (pss_one (ps_expr (pe_bm PySem.F.plainAttrs_list PySem.F.slot_list_append PySem.F.type_list_append mt_append (pv 11) (pa_cons (pe_op op_add_str (pe_op op_add_str (pe_slice sl_str (pv 5) po_none (po_some (pv 7))) (pe_ix ix_str (pv 4) (pe_op op_modN (pe_op op_add (pv 8) (pe_op op_mul (pv 10) (pv 6))) pe_int) (fun _ _ => rfl))) (pv 12)) pa_nil))))))
      (pss_cons (ps_if (PW.pt (pw_and (pt_cmpR op_gt (pv 7) pe_int (nomark _)) (pw_and1 (pt_cmpR op_eq (pe_c CD hr1 pass0 (pa_cons (pv 0) (pa_cons pe_int pa_nil))) pe_int (nomark _)))))
      (pss_one (ps_asg (pe_slice sl_str (pv 5) po_none (po_some (pv 7))) (pg_sub (pv 11) (pe_c CD hr1 pass0 (pa_cons (pv 0) (pa_cons (pv 1) pa_nil))) set_list))) pss_nil)
      (pss_one (ps_ret (pv 11)))))))))), ?_⟩
  obtain ⟨p, cs, N, m, rfl, hP, hN, m1, m2, k⟩ := h
  have big : 10000 < sizeLine := by decide
  have sz : ∀ n : Nat, n ≤ 10000 → n ≤ sizeLine := fun n h => by omega
  refine ⟨_, rfl, p, cs, _, _, rfl, by decide, by decide, hP, by omega, fun d1 H1 _ _ b1 P1 => ?_⟩
  have fre : ∀ {H H1 : Hp} {cs : Addr} {M : Nat}, But p H H1 → Pen H1 p cs M → ∀ q, H1 q = none → H q = none := fun {H H1 cs M} b P q hq => by
    cases z : H q with
    | none => rfl
    | some o =>
      by_cases e : q = p
      · obtain ⟨⟨t, r, h1, _⟩, _⟩ := P
        rw [e, h1] at hq
        cases hq
      · rw [b _ _ z e] at hq
        cases hq
  refine ⟨rfl, _, rfl, ite2 (fun _ => ?_) (fun _ => ?_)⟩
  · refine ⟨sz 10 (by decide), fun p1 n1 => ?_⟩
    generalize gg1 : upd _ p1 _ = G1; obtain ⟨s1, L1⟩ := new_eq n1 gg1; clear gg1
    refine ⟨_, rfl, p, cs, _, _, rfl, by decide, by decide, P1.same s1, by omega, fun t H2 t0 t1 b2 P2 => ?_⟩
    have L1' := b2 _ _ L1 (P1.free n1).1
    refine ⟨_, rfl, sz 8 (by decide), fun p2 n2 => ?_⟩
    generalize gg2 : upd _ p2 _ = G2; obtain ⟨s2, L2⟩ := new_eq n2 gg2; clear gg2
    refine ⟨p1, p2, _, _, rfl, rfl, s2 _ _ L1', L2, sz 18 (by decide), fun p3 n3 => ?_⟩
    generalize gg3 : upd _ p3 _ = G3; obtain ⟨s3, L3⟩ := new_eq n3 gg3; clear gg3
    refine ⟨p3, _, _, rfl, rfl, L3, by decide, by decide, sz 36 (by decide), fun p4 n4 => ?_⟩
    generalize gg4 : upd _ p4 _ = G4; obtain ⟨s4, L4⟩ := new_eq n4 gg4; clear gg4
    refine ⟨_, rfl, _, rfl, p4, _, rfl, SqL.of L4, fun p5 n5 => ?_⟩
    generalize gg5 : upd _ p5 _ = G5; obtain ⟨s5, L5⟩ := new_eq n5 gg5; clear gg5
    refine ⟨_, rfl, _, rfl, p5, _, rfl, SqL.of L5, fun p6 n6 => ?_⟩
    generalize gg6 : upd _ p6 _ = G6; obtain ⟨s6, L6⟩ := new_eq n6 gg6; clear gg6
    have sA := (((s2.trans s3).trans s4).trans s5).trans s6
    have eW : cutV (cutV (List.replicate (2 : Int).toNat ([V.str "vertex", .str "edge", .str "root", .str "weight", .str "name", .str "merge", .str "log", .str "floor", .str "all", .str "some"] ++ [.str "none", .str "lone", .str "round", .str "apart", .str "together", .str "rollback", .str "a", .str "b"])).flatten (some t) none) none (some m) = (((words ++ words).drop t.toNat).take m.toNat).map V.str := by
      have e : (List.replicate (2 : Int).toNat ([V.str "vertex", .str "edge", .str "root", .str "weight", .str "name", .str "merge", .str "log", .str "floor", .str "all", .str "some"] ++ [.str "none", .str "lone", .str "round", .str "apart", .str "together", .str "rollback", .str "a", .str "b"])).flatten = (words ++ words).map V.str := rfl
      rw [e, cutV_map, cutL_lo _ t0, cutV_map, cutL_hi _ (by omega)]
    rw [eW] at L6
    obtain ⟨w1, w2, w3⟩ := words_cut (t := t.toNat) (m := m.toNat) (by omega) (by omega)
    have bA : But p H G6 := ((b1.trans (But.of_same s1)).trans b2).trans (But.of_same sA)
    have PA := P2.same sA
    have n6' : H p6 = none := fre ((b1.trans (But.of_same s1)).trans b2) P2 _ (np_of (((s2.trans s3).trans s4).trans s5) n6)
    exact k p6 _ G6 bA n6' L6 w1 w3 (by omega) (PA.mono (by omega))
  · refine ⟨⟨_, rfl⟩, _, rfl, p, cs, _, _, rfl, by decide, by decide, P1, by omega, fun d2 H2 d20 d21 b2 P2 => ?_⟩
    refine ⟨_, _, rfl, rfl, 1 + d2, rfl, by omega, by omega, fun D nD => ?_⟩
    have b02 := b1.trans b2
    have nDH := fre b02 P2 D nD
    have fD := hP.free nDH
    refine lc_it (walk_range (lo := 0) (n := (1 + d2).toNat)) (fun i Hc => ∃ cs' : List Nat, But p H Hc ∧ Hc D = some (.lst ((cs'.map fun c => (⟨#[c]⟩ : Str)).map V.str)) ∧ Pen Hc p cs (N + 2 + i) ∧ cs'.length = i ∧ ∀ c ∈ cs', c ∈ letS.cps.toList)
      ⟨[], b02.put nDH, upd_same, (P2.mono (by omega)).put fD.1 fD.2, rfl, fun c hc => absurd hc (by simp)⟩ ?_ ?_ ?_
    · intros
      trivial
    · rintro i x Hc Hc' hi ⟨cs', c1, c2, c3, c4, c5⟩ ⟨rfl, rfl⟩
      refine ⟨rfl, tYes_if ?_⟩
      refine ⟨_, rfl, _, rfl, p, cs, _, c3, by omega, .inr ⟨letS, rfl, by decide +kernel, by decide +kernel, fun c H3 hc b3 P3 => ?_⟩⟩
      have D3 := b3 _ _ c2 fD.1
      refine ⟨_, D3, by rw [List.length_map, List.length_map]; omega, cs' ++ [c], (c1.trans b3).put nDH, ?_, (P3.put fD.1 fD.2).mono (by omega), by rw [List.length_append, c4]; rfl, fun y hy => ?_⟩
      · rw [upd_same, List.map_append, List.map_append]
        rfl
      · rcases List.mem_append.mp hy with h | h
        · exact c5 y h
        · rw [List.mem_singleton.mp h]
          exact hc
    rintro H3 ⟨Bs, b3, D3, P3, lB, mB⟩
    have lB1 : 1 ≤ Bs.length ∧ Bs.length ≤ 8 := by omega
    refine ⟨_, D, _, rfl, rfl, .inl (SqL.of D3), ?_, ?_⟩
    · rw [sum_one, List.length_map]
      show Bs.length + Bs.length * 0 ≤ 16777216
      omega
    have cB := join_signs Bs
    generalize Txt.join (Str.ofString "") (Bs.map fun c => (⟨#[c]⟩ : Str)) = bs at cB ⊢
    have lenb : bs.length = Bs.length := by rw [← len_cps, cB]
    have lz : bs.length ≤ sizeLine := by omega
    refine ⟨_, rfl, _, rfl, _, bs.length, rfl, ⟨lz, rfl⟩, p, cs, _, _, rfl, by omega, by omega, P3, by omega, fun at_ H4 a0 a1 b4 P4 => ?_⟩
    refine ⟨_, rfl, p, cs, _, _, rfl, by decide, by decide, P4, by omega, fun fi H5 f0 f1 b5 P5 => ?_⟩
    refine ⟨_, rfl, p, cs, _, _, rfl, by decide, by decide, P5, by omega, fun cu H6 c0 c1 b6 P6 => ⟨_, _, _, rfl, ?_⟩⟩
    have b06 := ((b3.trans b4).trans b5).trans b6
    refine ⟨_, rfl, sz 12 (by decide), fun p7 n7 => ?_⟩
    generalize gg7 : upd _ p7 _ = G7; obtain ⟨s7, L7⟩ := new_eq n7 gg7; clear gg7
    refine ⟨p, cs, _, P6.same s7, by omega, .inl ⟨p7, _, rfl, .inl (SqL.of L7), by simp, by show 12 < 1073741824; decide, fun sv H8 hsv b8 P8 => ?_⟩⟩
    obtain ⟨st, hst, rfl⟩ : ∃ st : Int, st ∈ strides ∧ sv = .int st := by
      have e : sv ∈ strides.map V.int := hsv
      obtain ⟨st, h1, h2⟩ := List.mem_map.mp e
      exact ⟨st, h1, h2.symm⟩
    have b08 := (b06.trans (But.of_same s7)).trans b8
    have hsp : -26 < st ∧ st < 26 := by
      have : ∀ x ∈ strides, -26 < x ∧ x < 26 := by decide
      exact this st hst
    refine ⟨sz 0 (by decide), fun q nq => ⟨_, _, rfl, ?_⟩⟩
    have nqH := fre b08 P8 q nq
    have fq := hP.free nqH
    refine ⟨_, rfl, m, rfl, by omega, by omega, ?_⟩
    refine for_it (walk_range (lo := 0) (n := m.toNat)) (fun i σ Hc => ∃ (x6 x12 : Option V) (ns : List Str), σ = [some (.ref p), some (.int m), none, none, some (.str letS), some (.str bs), x6, some (.int at_), some (.int fi), some (.int cu), some (.int st), some (.ref q), x12] ∧ But p H Hc ∧ Hc q = some (.lst (ns.map V.str)) ∧ Pen Hc p cs (N + 20) ∧ ns.length = i ∧ NamesOf Bs at_.toNat fi st ns)
      ⟨_, none, [], rfl, b08.put nqH, upd_same, (P8.put fq.1 fq.2).mono (by omega), rfl, fun j z h => absurd h (by simp)⟩ ?_ ?_ ?_
    · intros
      trivial
    · rintro i x σ Hc Hc' hi ⟨x6, x12, ns, rfl, i1, i2, i3, i4, i5⟩ ⟨rfl, rfl⟩
      refine ⟨_, rfl, _, rfl, _, _, rfl, rfl, _, rfl, bs, rfl, lz, ?_⟩
      refine ⟨_, rfl, _, _, rfl, rfl, (by show (3 : Int) ≠ 0; decide), sz 2 (by decide), fun p9 n9 => ?_⟩
      generalize gg9 : upd _ p9 _ = G9; obtain ⟨s9, L9⟩ := new_eq n9 gg9; clear gg9
      have t9 : ∃ t : Int, 0 ≤ t ∧ atI [V.int 8, .int ((0 + (i : Int)).fmod 3)] cu = some (.int t) := by
        have e : cu = 0 ∨ cu = 1 := by omega
        rcases e with rfl | rfl
        · exact ⟨8, by decide, rfl⟩
        · exact ⟨_, (fm (x := 0 + (i : Int)) (m := 3) (by decide)).1, rfl⟩
      obtain ⟨tt, tt0, ett⟩ := t9
      refine ⟨_, rfl, p9, _, _, _, rfl, rfl, SqL.of L9, ett, _, rfl, _, rfl, Nat.le_trans (cutS_length _ _ _) lz, ?_⟩
      obtain ⟨tl, etl⟩ : ∃ tl, tl = cutS (cutS bs (some (at_ + 1)) none) none (some tt) := ⟨_, rfl⟩
      have ltl : tl.length ≤ 8 := by
        have h1 := cutS_length bs (some (at_ + 1)) none
        have h2 := cutS_length (cutS bs (some (at_ + 1)) none) none (some tt)
        rw [etl]
        omega
      have i29 := s9 _ _ i2
      have i39 := i3.same s9
      refine ⟨_, rfl, .inl ⟨rfl, _, SqL.of i29⟩, ?_⟩
      refine ⟨_, rfl, _, rfl, _, rfl, bs, rfl, lz, ?_⟩
      refine ⟨_, rfl, _, rfl, _, rfl, _, rfl, _, _, rfl, rfl, .inl ⟨by omega, by omega⟩, _, _, rfl, rfl, _, _, rfl, rfl, (by show (26 : Int) ≠ 0; decide), ?_⟩
      have lm := fm (x := fi + st * (0 + (i : Int))) (m := 26) (by decide)
      have ll : letS.cps.toList.length = 26 := by decide +kernel
      refine ⟨letS, _, letC (fi + st * (0 + (i : Int))), rfl, rfl, by decide +kernel, ?_, ?_⟩
      · unfold letC
        rw [List.getD_eq_getElem?_getD, List.getElem?_eq_getElem (by omega)]
        exact at_nat lm.1 (by omega)
      have lhd := cutS_length bs none (some at_)
      refine ⟨_, _, rfl, rfl, ?_, _, rfl, _, _, rfl, rfl, ?_, ?_⟩
      · show (cutS bs none (some at_)).length + 1 ≤ sizeLine
        omega
      · rw [etl] at ltl
        have e1 : (cutS bs none (some at_) ++ (⟨#[letC (fi + st * (0 + (i : Int)))]⟩ : Str)).length = (cutS bs none (some at_)).length + 1 := by
          rw [← len_cps, app_cps, List.length_append, len_cps]
          rfl
        rw [e1]
        omega
      refine ⟨q, _, _, rfl, rfl, i29, by rw [List.length_map]; omega, _, _, ns ++ [cutS bs none (some at_) ++ (⟨#[letC (fi + st * (0 + (i : Int)))]⟩ : Str) ++ tl], rfl, (i1.trans (But.of_same s9)).put nqH, ?_, i39.put fq.1 fq.2, by rw [List.length_append, i4]; rfl, ?_⟩
      · rw [upd_same, List.map_append, etl]
        rfl
      · intro j z hz
        rcases Nat.lt_trichotomy j ns.length with h | h | h
        · rw [List.getElem?_append_left h] at hz
          exact i5 j z hz
        · subst h
          rw [List.getElem?_append_right (Nat.le_refl _), Nat.sub_self] at hz
          cases hz
          refine ⟨tt.toNat, ?_⟩
          rw [app_cps, app_cps, etl, cutS_hi _ tt0, cutS_lo _ (by omega), cutS_hi _ a0, cB, i4, Int.zero_add]
          have e : (at_ + 1).toNat = at_.toNat + 1 := by omega
          rw [e]
        · rw [List.getElem?_eq_none (by rw [List.length_append, List.length_singleton]; omega)] at hz
          cases hz
    · rintro σ H9 ⟨x6, x12, ns, rfl, i1, i2, i3, i4, i5⟩
      have ha : at_.toNat < Bs.length := by omega
      have n1 := i5.nodup ha hst (by omega)
      have n2 := i5.names ha lB1.2 mB
      have n3 : (ns.length : Int) = m := by omega
      refine ⟨_, rfl, _, _, rfl, rfl, _, rfl, ite2 (fun h1 => ?_) (fun h1 => iteF ⟨_, rfl, k q ns H9 i1 nqH i2 n1 n2 n3 (i3.mono (by omega))⟩)⟩
      have hpos : 0 < at_ := of_decide_eq_true h1
      refine ⟨_, rfl, p, cs, _, _, rfl, by decide, by decide, i3, by omega, fun d3 H10 _ _ b10 P10 => ⟨rfl, _, rfl, ite2 (fun h2 => ?_) (fun h2 => ⟨_, rfl, k q ns H10 (i1.trans b10) nqH (b10 _ _ i2 fq.1) n1 n2 n3 (P10.mono (by omega))⟩)⟩⟩
      refine ⟨_, rfl, _, rfl, _, rfl, bs, rfl, lz, _, rfl, _, rfl, _, rfl, p, cs, _, _, rfl, by omega, by omega, P10, by omega, fun ix H11 x0 x1 b11 P11 => ?_⟩
      have i211 := b11 _ _ (b10 _ _ i2 fq.1) fq.1
      refine ⟨q, _, ix, ix.toNat, rfl, rfl, i211, ?_, ?_⟩
      · unfold ixN
        rw [List.length_map, if_pos x0, if_pos (by omega)]
      have hy : (cutS bs none (some at_)).cps.toList = Bs.take at_.toNat := by rw [cutS_hi _ a0, cB]
      refine ⟨_, rfl, k q (ns.set ix.toNat (cutS bs none (some at_))) _ (((i1.trans b10).trans b11).put nqH) nqH ?_ (i5.set ha hst (by omega) hy _) (fun z hz => ?_) (by rw [List.length_set]; exact n3) ((P11.put fq.1 fq.2).mono (by omega))⟩
      · rw [upd_same, List.map_set]
      · rcases List.mem_or_eq_of_mem_set hz with h | h
        · exact n2 z h
        · subst h
          have l := len_cps (cutS bs none (some at_))
          rw [hy, List.length_take] at l
          refine name_of (by omega) (by omega) fun c hc => ?_
          rw [hy] at hc
          exact mB c (List.mem_of_mem_take hc)
end
end Wk
namespace Wk
open PySem PySem.Spec PyProof.Rows L2 WkD WkN
section
variable {P : Program} {w : World} {K : PySem.W.Frag} {mg : Str → Option Value} {base : Heap}
/-! ### _law_weights -/
def WtsOk (ws : List Int) : Prop := ws ≠ [] ∧ (∀ x ∈ ws, 1 ≤ x ∧ x ≤ 1000000000) ∧ ws.length ≤ 5
def spWeights : Sp := fun vs H Q _ => ∃ (p cs : Addr) (N : Nat), vs = [.ref p] ∧ Pen H p cs N ∧ N + 2 < 2 ^ 60 ∧
  ∀ q ws H', But p H H' → H q = none → H' q = some (.lst (ws.map V.int)) → WtsOk ws → Pen H' p cs (N + 2) → Q (.ref q) H'
theorem sc_weights : FnScope ["_law_pen_here", "_law_way", "_law_base"] ["_law_pen_here"] (defScope s_L_weights) := ⟨rfl, rfl, rfl, by decide +kernel, rfl, by decide +kernel, by decide +kernel⟩
theorem c_weights (D : Def K mg "_law_weights" s_L_weights) (CD : Callee P w K mg base CX0 1 "_law_draw" ["_law_pen_here", "_law_many"] spDraw) : Callee P w K mg base CX0 2 "_law_weights" ["_law_pen_here"] spWeights := by
  obtain ⟨f, fd, F, g⟩ := D
  refine ⟨f, fd, F.ok sc_weights (fun vs H Q E h => ?_) (fun cdv A outer s H vs Q E hr h => ?_), g, F.kp, F.bindsN (fun _ _ _ _ _ _ us hl => match us, hl with | [_], _ => rfl)⟩
  · obtain ⟨p, cs, N, rfl, _⟩ := h
    rfl
  have hu := hu_of hr
  have nd := sc_weights.nd
  have hr1 : Room 1 _ := hr
  refine ⟨_, PSs.nox (pss_cons (ps_par (i := 1) (j := 2) (by rfl) nd rfl rfl (by decide) rfl rfl (pa_cons (pe_c CD hr1 pass0 (pa_cons (pv 0) (pa_cons pe_int pa_nil))) (pa_cons (pe_op op_add pe_int (pe_c CD hr1 pass0 (pa_cons (pv 0) (pa_cons pe_int pa_nil)))) pa_nil)) (by rfl))
      (pss_one (ps_ret (pe_ix ix_list (pe_lst (pa_cons (pe_lst (pa_cons (pv 2) pa_nil)) (pa_cons (pe_lst (pa_cons pe_int (pa_cons pe_int pa_nil))) (pa_cons (pe_lst (pa_cons pe_int (pa_cons pe_int pa_nil))) (pa_cons (pe_lst (pa_cons pe_int (pa_cons pe_int (pa_cons pe_int (pa_cons (pv 2) pa_nil))))) (pa_cons (pe_lst (pa_cons pe_int (pa_cons (pv 2) (pa_cons (pe_op op_pow pe_int pe_int) (pa_cons (pe_op op_sub (pe_op op_pow pe_int pe_int) pe_int) (pa_cons pe_int pa_nil)))))) pa_nil)))))) (pv 1) (fun _ _ => rfl))))), ?_⟩
  obtain ⟨p, cs, N, rfl, hP, hN, k⟩ := h
  refine ⟨_, rfl, p, cs, _, _, rfl, by decide, by decide, hP, by omega, fun wy H1 w0 w1 b1 P1 => ?_⟩
  refine ⟨_, rfl, p, cs, _, _, rfl, by decide, by decide, P1, by omega, fun d H2 d0 d1 b2 P2 => ?_⟩
  refine ⟨_, _, rfl, rfl, _, _, rfl, ?_⟩
  have b0 := b1.trans b2
  obtain ⟨c, ec⟩ : ∃ c, c = 1 + d := ⟨_, rfl⟩
  have sz : ∀ n : Nat, n ≤ 5 → n ≤ sizeLine := fun n h => Nat.le_trans h (by decide)
  refine ⟨_, rfl, sz 1 (by decide), fun p1 n1 => ?_⟩
  generalize gg1 : upd _ p1 _ = G1; obtain ⟨s1, L1⟩ := new_eq n1 gg1; clear gg1
  refine ⟨sz 2 (by decide), fun p2 n2 => ?_⟩
  generalize gg2 : upd _ p2 _ = G2; obtain ⟨s2, L2⟩ := new_eq n2 gg2; clear gg2
  refine ⟨sz 2 (by decide), fun p3 n3 => ?_⟩
  generalize gg3 : upd _ p3 _ = G3; obtain ⟨s3, L3⟩ := new_eq n3 gg3; clear gg3
  refine ⟨_, rfl, sz 4 (by decide), fun p4 n4 => ?_⟩
  generalize gg4 : upd _ p4 _ = G4; obtain ⟨s4, L4⟩ := new_eq n4 gg4; clear gg4
  refine ⟨_, rfl, _, _, rfl, rfl, ⟨by decide, by decide, by decide⟩, _, _, rfl, rfl, ⟨by decide, by decide, by decide⟩, _, _, rfl, rfl, sz 5 (by decide), fun p5 n5 => ?_⟩
  generalize gg5 : upd _ p5 _ = G5; obtain ⟨s5, L5⟩ := new_eq n5 gg5; clear gg5
  refine ⟨sz 5 (by decide), fun p6 n6 => ?_⟩
  generalize gg6 : upd _ p6 _ = G6; obtain ⟨s6, L6⟩ := new_eq n6 gg6; clear gg6
  have s56 := s5.trans s6
  have s46 := s4.trans s56
  have s36 := s3.trans s46
  have s26 := s2.trans s36
  have s16 := s1.trans s26
  have P6 := P2.same s16
  have b6 := b0.trans (But.of_same s16)
  have nH : ∀ q, H2 q = none → H q = none := fun q hq => by
    cases z : H q with
    | none => rfl
    | some o =>
      by_cases e : q = p
      · obtain ⟨⟨t, r, h1, _⟩, _⟩ := P2
        rw [e, h1] at hq
        cases hq
      · rw [b0 _ _ z e] at hq
        cases hq
  have e : wy = 0 ∨ wy = 1 ∨ wy = 2 ∨ wy = 3 ∨ wy = 4 := by omega
  have fin : ∀ q ws, H2 q = none → G6 q = some (.lst (ws.map V.int)) → WtsOk ws → Q (.ref q) G6 := fun q ws hq h1 h2 => k q ws G6 b6 (nH q hq) h1 h2 P6
  have r1 := s26 _ _ L1
  have r2 := s36 _ _ L2
  have r3 := s46 _ _ L3
  have r4 := s56 _ _ L4
  have r5 := s6 _ _ L5
  have m2 := np_of s1 n2
  have m3 := np_of (s1.trans s2) n3
  have m4 := np_of ((s1.trans s2).trans s3) n4
  have m5 := np_of (((s1.trans s2).trans s3).trans s4) n5
  rcases e with rfl | rfl | rfl | rfl | rfl
  · exact ⟨_, rfl, p6, _, _, _, rfl, rfl, SqL.of L6, rfl, fin p1 [1 + d] n1 r1 ⟨by simp, by simp; omega, by simp⟩⟩
  · exact ⟨_, rfl, p6, _, _, _, rfl, rfl, SqL.of L6, rfl, fin p2 [1, 2] m2 r2 ⟨by simp, by simp, by simp⟩⟩
  · exact ⟨_, rfl, p6, _, _, _, rfl, rfl, SqL.of L6, rfl, fin p3 [2, 4] m3 r3 ⟨by simp, by simp, by simp⟩⟩
  · exact ⟨_, rfl, p6, _, _, _, rfl, rfl, SqL.of L6, rfl, fin p4 [1, 2, 3, 1 + d] m4 r4 ⟨by simp, by simp; omega, by simp⟩⟩
  · exact ⟨_, rfl, p6, _, _, _, rfl, rfl, SqL.of L6, rfl, fin p5 [1, 1 + d, 10 ^ 9, 10 ^ 9 - 1, 500000000] m5 r5 ⟨by simp, by simp; omega, by simp⟩⟩
end
end Wk
namespace Wk
open PySem PySem.Spec PyProof.Rows L2 WkD WkN WkE
section
variable {P : Program} {w : World} {K : PySem.W.Frag} {mg : Str → Option Value} {base : Heap}
def netL (va ea : Addr) (rt : Str) : List (Key × V) := [(Sum.inr "vertices", .ref va), (Sum.inr "edges", .ref ea), (Sum.inr "root", .str rt)]
/-- a drawn network as it lies -/
structure NetAt (H : Hp) (q va ea : Addr) (vs : List Str) (es : EdD) (rt : Str) : Prop where
  top : H q = some (.dK (netL va ea rt))
  ver : H va = some (.lst (vs.map V.str))
  edg : H ea = some (.dT (dtE es))
  ok : NetOk vs es rt
theorem NetAt.same {H H' : Hp} {q va ea : Addr} {vs : List Str} {es : EdD} {rt : Str} (n : NetAt H q va ea vs es rt) (s : Same H H') : NetAt H' q va ea vs es rt := ⟨s _ _ n.top, s _ _ n.ver, s _ _ n.edg, n.ok⟩
def spNetwork : Sp := fun vs H Q _ => ∃ (p cs : Addr) (N : Nat) (lo hi : Int), vs = [.ref p, .int lo, .int hi] ∧ Pen H p cs N ∧ N + 400 < 2 ^ 60 ∧ 2 ≤ lo ∧ lo ≤ hi ∧ hi ≤ 18 ∧
  ∀ q va ea vs es rt H', But p H H' → H q = none → H va = none → H ea = none → NetAt H' q va ea vs es rt → lo ≤ vs.length → (vs.length : Int) ≤ hi → es.length ≤ 40 → Pen H' p cs (N + 400) → Q (.ref q) H'
theorem put_p {H : Hp} {a b : Addr} {es : EdD} {p : Pr} {n : Int} (h : H a = some (.dT (dtE es))) (hb : H b = some (.tup [.str p.1, .str p.2])) (hl : es.length < sizeLine) : DPut H a (.ref b) (.int n) (upd H a (.dT (dtE (putE es p n)))) := by
  refine .inr ⟨_, kP p, b, h, rfl, hb, by rw [dtE_len]; exact hl, ?_⟩
  rw [dtE_put]
theorem fre {p : Addr} {H H1 : Hp} {cs : Addr} {M : Nat} (b : But p H H1) (P : Pen H1 p cs M) {q : Addr} (hq : H1 q = none) : H q = none := by
  cases z : H q with
  | none => rfl
  | some o =>
    by_cases e : q = p
    · obtain ⟨⟨t, r, h1, _⟩, _⟩ := P
      rw [e, h1] at hq
      cases hq
    · rw [b _ _ z e] at hq
      cases hq
theorem sc_network : FnScope ["_law_pen_here", "_law_least", "_law_most", "_law_names_here", "_law_weights_here", "_law_edges_here", "_law_many", "_law_shape", "_law_k", "_law_ahead", "_law_one", "_law_other", "_law_network_here"] ["_law_pen_here", "_law_least", "_law_most"] (defScope s_L_network) := ⟨rfl, rfl, rfl, by decide +kernel, rfl, by decide +kernel, by decide +kernel⟩
theorem c_network (D : Def K mg "_law_network" s_L_network) (B : Bi mg) (CD : Callee P w K mg base CX0 1 "_law_draw" ["_law_pen_here", "_law_many"] spDraw) (CP : Callee P w K mg base CX0 2 "_law_pick" ["_law_pen_here", "_law_some"] (spPick K)) (CN : Callee P w K mg base CX0 3 "_law_names" ["_law_pen_here", "_law_many"] spNames) (CW : Callee P w K mg base CX0 2 "_law_weights" ["_law_pen_here"] spWeights) : Callee P w K mg base CX0 4 "_law_network" ["_law_pen_here", "_law_least", "_law_most"] spNetwork := by
  obtain ⟨f, fd, F, g⟩ := D
  refine ⟨f, fd, F.ok sc_network (fun vs H Q E h => ?_) (fun cdv A outer s H vs Q E hr h => ?_), g, F.kp, F.bindsN (fun _ _ _ _ _ _ us hl => match us, hl with | [_, _, _], _ => rfl)⟩
  · obtain ⟨p, cs, N, lo, hi, rfl, _⟩ := h
    rfl
  have hu := hu_of hr
  have nd := sc_network.nd
  have hr3 : Room 3 _ := hr
  have hr2 : Room 2 _ := hr.mono (by decide)
  have hr1 : Room 1 _ := hr.mono (by decide)
  refine ⟨_, PSs.nox (pss_cons (ps_set (i := 3) nd rfl (Or.inl rfl) (pe_c CN hr3 pass0 (pa_cons (pv 0) (pa_cons (pe_op op_add (pv 1) (pe_c CD hr1 pass0 (pa_cons (pv 0) (pa_cons (pe_op op_add (pe_op op_sub (pv 2) (pv 1)) pe_int) pa_nil)))) pa_nil))))
      (pss_cons (ps_par3 (i := 4) (j := 5) (l := 6) (by rfl) nd rfl rfl rfl (by decide) (by decide) (by decide) rfl rfl rfl (pa_cons (pe_c CW hr2 pass0 (pa_cons (pv 0) pa_nil)) (pa_cons pe_dnewT (pa_cons (pe_callB call_len_seq (by rfl) B.n_len (by decide +kernel) (pa_cons (pv 3) pa_nil)) pa_nil))) (by rfl))
      (pss_cons (ps_set (i := 7) nd rfl (Or.inl rfl) (pe_c CD hr1 pass0 (pa_cons (pv 0) (pa_cons pe_int pa_nil))))
      (pss_cons (ps_for PassesOwn.never rfl (pi_range2 (by rfl) B.n_range (pa_cons pe_int (pa_cons (pv 6) pa_nil))) (pg_name (i := 8) nd rfl (Or.inl rfl))
      (C8.pss_cut (ps_set (i := 9) nd rfl (Or.inl rfl) (pe_ifExp (pt_cmpR op_lt (pv 7) pe_int (nomark _)) (pe_ix ix_list (pv 3) (pe_op op_sub (pv 8) pe_int) (fun _ _ => rfl)) (pe_ix ix_list (pv 3) (pe_c CD hr1 pass0 (pa_cons (pv 0) (pa_cons (pv 8) pa_nil))) (fun _ _ => rfl))))
      (pss_one (ps_dput hu (pv 5) (pe_tup (pa_cons (pe_callB (WkD.call_min2S rfl) (by rfl) B.n_min (by decide +kernel) (pa_cons (pe_ix ix_list (pv 3) (pv 8) (fun _ _ => rfl)) (pa_cons (pv 9) pa_nil))) (pa_cons (pe_callB (WkD.call_max2S rfl) (by rfl) B.n_max (by decide +kernel) (pa_cons (pe_ix ix_list (pv 3) (pv 8) (fun _ _ => rfl)) (pa_cons (pv 9) pa_nil))) pa_nil))) (pe_c CP hr2 pass0 (pa_cons (pv 0) (pa_cons (pv 4) pa_nil))) rfl))))
      (C8.pss_cut (ps_if (PW.pt (pw_and (pt_cmpR op_gt (pv 7) pe_int (nomark _)) (pw_and1 (pt_cmpR op_gt (pv 6) pe_int (nomark _)))))
      (pss_one (ps_dput hu (pv 5) (pe_tup (pa_cons (pe_callB (WkD.call_min2S rfl) (by rfl) B.n_min (by decide +kernel) (pa_cons (pe_ix ix_list (pv 3) pe_int (fun _ _ => rfl)) (pa_cons (pe_ix ix_list (pv 3) (pe_un un_neg pe_int) (fun _ _ => rfl)) pa_nil))) (pa_cons (pe_callB (WkD.call_max2S rfl) (by rfl) B.n_max (by decide +kernel) (pa_cons (pe_ix ix_list (pv 3) pe_int (fun _ _ => rfl)) (pa_cons (pe_ix ix_list (pv 3) (pe_un un_neg pe_int) (fun _ _ => rfl)) pa_nil))) pa_nil))) (pe_c CP hr2 pass0 (pa_cons (pv 0) (pa_cons (pv 4) pa_nil))) rfl)) pss_nil)
      (pss_cons (ps_for PassesOwn.never rfl (pi_range1 (by rfl) B.n_range (pa_cons (pe_op op_mul (pe_c CD hr1 pass0 (pa_cons (pv 0) (pa_cons (pe_op op_add (pv 6) pe_int) pa_nil))) (pe_callTy call_int1 (by rfl) B.n_int (by decide +kernel) (pa_cons (pe_cmpR op_gt (pv 7) pe_int (nomark _)) pa_nil))) pa_nil)) (pg_name (i := 8) nd rfl (Or.inl rfl))
      (pss_cons (ps_par (i := 10) (j := 11) (by rfl) nd rfl rfl (by decide) rfl rfl (pa_cons (pe_c CP hr2 pass0 (pa_cons (pv 0) (pa_cons (pv 3) pa_nil))) (pa_cons (pe_c CP hr2 pass0 (pa_cons (pv 0) (pa_cons (pv 3) pa_nil))) pa_nil)) (by rfl))
      (pss_one (ps_if (pt_cmpR op_ne (pv 10) (pv 11) (nomark _))
      (pss_one (ps_dput hu (pv 5) (pe_tup (pa_cons (pe_callB (WkD.call_min2S rfl) (by rfl) B.n_min (by decide +kernel) (pa_cons (pv 10) (pa_cons (pv 11) pa_nil))) (pa_cons (pe_callB (WkD.call_max2S rfl) (by rfl) B.n_max (by decide +kernel) (pa_cons (pv 10) (pa_cons (pv 11) pa_nil))) pa_nil))) (pe_c CP hr2 pass0 (pa_cons (pv 0) (pa_cons (pv 4) pa_nil))) rfl)) pss_nil))))
      (pss_cons (ps_set (i := 12) nd rfl (Or.inl rfl) (pe_disp (pps_cons pe_str (pe_callB cr_sortedS (by rfl) B.n_sorted (by decide +kernel) (pa_cons (pv 3) pa_nil)) (pps_cons pe_str (pv 5) (pps_cons pe_str (pe_callB (WkD.cr_minSL rfl) (by rfl) B.n_min (by decide +kernel) (pa_cons (pv 3) pa_nil)) pps_nil))) (by rfl) (by rfl) (fun z => by cases z) (by decide)))
      (C8.pss_cut (ps_if (pt_cmpR op_eq (pe_c CD hr1 pass0 (pa_cons (pv 0) (pa_cons pe_int pa_nil))) pe_int (nomark _))
      (pss_one (ps_dput hu (pv 12) pe_str (pe_c CP hr2 pass0 (pa_cons (pv 0) (pa_cons (pv 3) pa_nil))) rfl)) pss_nil)
      (pss_one (ps_ret (pv 12))))))))))), ?_⟩
  obtain ⟨p, cs, N, lo, hi, rfl, hP, hN, l2, lh, h18, k⟩ := h
  have big : 10000 < sizeLine := by decide
  have sz : ∀ n : Nat, n ≤ 10000 → n ≤ sizeLine := fun n h => by omega
  refine ⟨_, rfl, _, rfl, _, rfl, _, rfl, _, rfl, _, _, rfl, rfl, _, _, rfl, rfl, p, cs, _, _, rfl, by omega, by omega, hP, by omega, fun d1 H1 d10 d11 b1 P1 => ?_⟩
  refine ⟨_, _, rfl, rfl, p, cs, _, _, rfl, P1, by omega, by omega, by omega, fun na ns H2 b2 nn A2 ndn nmn lnn P2 => ?_⟩
  refine ⟨_, rfl, p, cs, _, rfl, P2, by omega, fun wa ws H3 b3 nw W3 wok P3 => ?_⟩
  have fna := P1.free nn
  have A3 := b3 _ _ A2 fna.1
  have fwa := P2.free nw
  intro pe ne
  have fea := P3.free ne
  generalize gge : upd _ pe _ = Ge; obtain ⟨se, Le⟩ := new_eq ne gge; clear gge
  have A4 := se _ _ A3
  have W4 := se _ _ W3
  have P4 := P3.same se
  have b03 := (b1.trans b2).trans b3
  have b04 := b03.trans (But.of_same se)
  have nnH := fre b1 P1 nn
  have nwH := fre (b1.trans b2) P2 nw
  have neH := fre b03 P3 ne
  refine ⟨_, rfl, na, _, rfl, .inl (SqL.of A4), _, _, _, rfl, ?_⟩
  rw [List.length_map]
  refine ⟨_, rfl, p, cs, _, _, rfl, by decide, by decide, P4, by omega, fun sh H5 s0 s1 b5 P5 => ?_⟩
  have A5 := b5 _ _ A4 fna.1
  have W5 := b5 _ _ W4 fwa.1
  have E5 := b5 _ _ Le fea.1
  have b05 := b04.trans b5
  have e0 : 2 ≤ ns.length ∧ ns.length ≤ 18 := by omega
  refine ⟨_, rfl, 1, ns.length, rfl, ⟨by omega, by omega, by omega, by omega⟩, ?_⟩
  have nz : ns[0]? = some (ns[0]'(by omega)) := List.getElem?_eq_getElem (by omega)
  obtain ⟨r0, er0⟩ : ∃ r0, r0 = ns[0]'(by omega) := ⟨_, rfl⟩
  rw [← er0] at nz
  have nae : na ≠ pe := fun z => by
    rw [z, ne] at A3
    cases A3
  have wae : wa ≠ pe := fun z => by
    rw [z, ne] at W3
    cases W3
  /- what stands while the edges are made -/
  refine for_it (walk_range (lo := 1) (n := ((ns.length : Int) - 1).toNat)) (fun i σ Hc => ∃ (x8 x9 : Option V) (es : EdD), σ = [some (.ref p), some (.int lo), some (.int hi), some (.ref na), some (.ref wa), some (.ref pe), some (.int ns.length), some (.int sh), x8, x9, none, none, none] ∧ But p H Hc ∧ Hc na = some (.lst (ns.map V.str)) ∧ Hc wa = some (.lst (ws.map V.int)) ∧ Hc pe = some (.dT (dtE es)) ∧ EdOk ns es ∧ es.length ≤ i ∧ (∀ j z, j ≤ i → ns[j]? = some z → ERch es r0 z) ∧ Pen Hc p cs (N + 60 + 2 * i))
    ⟨none, none, [], rfl, b05, A5, W5, E5, EdOk.nil _, Nat.le_refl _, fun j z hj hz => ?_, P5.mono (by omega)⟩ ?_ ?_ ?_
  · have e : j = 0 := by omega
    subst e
    rw [nz] at hz
    cases hz
    exact .here
  · intros
    trivial
  · rintro i x σ Hc Hc' hii ⟨x8, x9, es, rfl, c1, c2, c3, c4, c5, c6, c7, c8⟩ ⟨rfl, rfl⟩
    have hk : i + 1 < ns.length := by omega
    have hk' : ((1 : Int) + (i : Int)).toNat = i + 1 := by omega
    have atk : atI (ns.map V.str) (1 + (i : Int)) = some (.str ns[i + 1]) := at_of (j := i + 1) (by omega) (by rw [List.getElem?_map, List.getElem?_eq_getElem hk]; rfl)
    refine ⟨fun σ H2 => ∃ (j : Nat) (y : Str), j ≤ i ∧ ns[j]? = some y ∧ σ = [some (.ref p), some (.int lo), some (.int hi), some (.ref na), some (.ref wa), some (.ref pe), some (.int ns.length), some (.int sh), some (.int (1 + (i : Int))), some (.str y), none, none, none] ∧ But p H H2 ∧ H2 na = some (.lst (ns.map V.str)) ∧ H2 wa = some (.lst (ws.map V.int)) ∧ H2 pe = some (.dT (dtE es)) ∧ Pen H2 p cs (N + 60 + 2 * i + 1), ?_, ?_⟩
    · refine ⟨_, rfl, _, _, rfl, rfl, _, rfl, ite2 (fun _ => ?_) (fun _ => ?_)⟩
      · refine ⟨_, rfl, _, rfl, _, _, rfl, rfl, na, _, _, _, rfl, rfl, SqL.of c2, at_of (j := i) (v := .str ns[i]) (by omega) (by rw [List.getElem?_map, List.getElem?_eq_getElem (by omega)]; rfl), ?_⟩
        exact ⟨i, ns[i], Nat.le_refl _, List.getElem?_eq_getElem (by omega), rfl, c1, c2, c3, c4, c8.mono (by omega)⟩
      · refine ⟨_, rfl, _, rfl, _, rfl, p, cs, _, _, rfl, by omega, by omega, c8, by omega, fun d H7 d0 d1 b7 P7 => ?_⟩
        have hd : d.toNat < ns.length := by omega
        refine ⟨na, _, _, _, rfl, rfl, SqL.of (b7 _ _ c2 fna.1), at_of (j := d.toNat) (v := .str ns[d.toNat]) (by omega) (by rw [List.getElem?_map, List.getElem?_eq_getElem hd]; rfl), ?_⟩
        exact ⟨d.toNat, ns[d.toNat], by omega, List.getElem?_eq_getElem hd, rfl, c1.trans b7, b7 _ _ c2 fna.1, b7 _ _ c3 fwa.1, b7 _ _ c4 fea.1, P7⟩
    · rintro σ H7 ⟨j, y, hj, hy, rfl, g1, g2, g3, g4, g5⟩
      refine ⟨_, rfl, _, rfl, p, cs, _, g5, by omega, .inl ⟨wa, _, rfl, .inl (SqL.of g3), by intro z; exact wok.1 (List.map_eq_nil_iff.mp z), by rw [List.length_map]; have := wok.2.2; omega, fun wv H8 hwv b8 P8 => ?_⟩⟩
      obtain ⟨wn, hwn, rfl⟩ := List.mem_map.mp hwv
      have A8 := b8 _ _ g2 fna.1
      have W8 := b8 _ _ g3 fwa.1
      have E8 := b8 _ _ g4 fea.1
      refine ⟨_, rfl, _, rfl, _, rfl, na, _, _, _, rfl, rfl, SqL.of A8, atk, _, rfl, ns[i + 1], y, rfl, ?_⟩
      refine ⟨_, rfl, _, rfl, na, _, _, _, rfl, rfl, SqL.of A8, atk, _, rfl, ns[i + 1], y, rfl, sz 2 (by decide), fun p9 n9 => ?_⟩
      generalize gg9 : upd _ p9 _ = G9; obtain ⟨s9, L9⟩ := new_eq n9 gg9; clear gg9
      have hne : ns[i + 1] ≠ y := fun z => by
        have hj2 : j < ns.length := by omega
        rw [List.getElem?_eq_getElem hj2] at hy
        have hy := Option.some.inj hy
        rw [← hy] at z
        have := (List.getElem_inj ndn).mp z
        omega
      have hyn : y ∈ ns := List.mem_of_getElem? hy
      have hmm := mp_mem hne (List.getElem_mem hk) hyn
      refine ⟨pe, _, rfl, put_p (p := mp ns[i + 1] y) (s9 _ _ E8) L9 (by omega), ?_⟩
      refine ⟨_, _, putE es (mp ns[i + 1] y) wn, rfl, fun c o hc hne => ?_, ?_, ?_, upd_same, c5.put hmm.1 hmm.2 (mp_lt hne) (wok.2.1 wn hwn).1 (wok.2.1 wn hwn).2, ?_, fun j2 z hj2 hz => ?_, ?_⟩
      · rw [upd_ne (ne_of_none hc neH)]
        exact s9 _ _ ((g1.trans b8) c o hc hne)
      · rw [upd_ne nae]
        exact s9 _ _ A8
      · rw [upd_ne wae]
        exact s9 _ _ W8
      · have := putE_len (es := es) (p := mp ns[i + 1] y) (n := wn)
        omega
      · by_cases e : j2 = i + 1
        · subst e
          rw [List.getElem?_eq_getElem hk] at hz
          cases hz
          exact ((c7 j y hj hy).mono putE_sub).trans (ERch.mp hne)
        · exact (c7 j2 z (by omega) hz).mono putE_sub
      · exact ((P8.same s9).put fea.1 fea.2).mono (by omega)
  · rintro σ H7 ⟨x8, x9, es, rfl, c1, c2, c3, c4, c5, c6, c7, c8⟩
    have conn0 : ∀ z ∈ ns, ERch es r0 z := fun z hz => by
      obtain ⟨j, hj⟩ := List.getElem?_of_mem hz
      have := (List.getElem?_eq_some_iff.mp hj).1
      exact c7 j z (by omega) hj
    have hr0 : r0 ∈ ns := List.mem_of_getElem? nz
    /- from here on the edges are some that connect -/
    refine ⟨fun σ H2 => ∃ es : EdD, σ = [some (.ref p), some (.int lo), some (.int hi), some (.ref na), some (.ref wa), some (.ref pe), some (.int ns.length), some (.int sh), x8, x9, none, none, none] ∧ But p H H2 ∧ H2 na = some (.lst (ns.map V.str)) ∧ H2 wa = some (.lst (ws.map V.int)) ∧ H2 pe = some (.dT (dtE es)) ∧ EdOk ns es ∧ es.length ≤ 18 ∧ (∀ z ∈ ns, ERch es r0 z) ∧ Pen H2 p cs (N + 97), ?_, ?_⟩
    · have skip : ∀ σ' H', σ' = [some (.ref p), some (.int lo), some (.int hi), some (.ref na), some (.ref wa), some (.ref pe), some (.int ns.length), some (.int sh), x8, x9, none, none, none] → H' = H7 → ∃ es : EdD, σ' = [some (.ref p), some (.int lo), some (.int hi), some (.ref na), some (.ref wa), some (.ref pe), some (.int ns.length), some (.int sh), x8, x9, none, none, none] ∧ But p H H' ∧ H' na = some (.lst (ns.map V.str)) ∧ H' wa = some (.lst (ws.map V.int)) ∧ H' pe = some (.dT (dtE es)) ∧ EdOk ns es ∧ es.length ≤ 18 ∧ (∀ z ∈ ns, ERch es r0 z) ∧ Pen H' p cs (N + 97) := by
        rintro σ' H' rfl rfl
        exact ⟨es, rfl, c1, c2, c3, c4, c5, by omega, conn0, c8.mono (by omega)⟩
      refine ⟨_, rfl, _, _, rfl, rfl, _, rfl, ite2 (fun _ => ?_) (fun _ => iteF (skip _ _ rfl rfl))⟩
      refine ⟨_, rfl, _, _, rfl, rfl, _, rfl, ite2 (fun h3 => ?_) (fun _ => skip _ _ rfl rfl)⟩
      have h3 : 2 < ns.length := by
        have := of_decide_eq_true h3
        omega
      have at0 : atI (ns.map V.str) 0 = some (.str r0) := at_of (j := 0) rfl (by rw [List.getElem?_map, nz]; rfl)
      have hl : ns.length - 1 < ns.length := by omega
      have atl : atI (ns.map V.str) (-1) = some (.str ns[ns.length - 1]) := by
        unfold atI ixN
        rw [List.length_map, if_neg (by decide), if_pos (by omega)]
        have e : ((-1 : Int) + (ns.length : Int)).toNat = ns.length - 1 := by omega
        rw [e]
        show (ns.map V.str)[ns.length - 1]? = _
        rw [List.getElem?_map, List.getElem?_eq_getElem hl]
        rfl
      refine ⟨_, rfl, _, rfl, p, cs, _, c8, by omega, .inl ⟨wa, _, rfl, .inl (SqL.of c3), by intro z; exact wok.1 (List.map_eq_nil_iff.mp z), by rw [List.length_map]; have := wok.2.2; omega, fun wv H8 hwv b8 P8 => ?_⟩⟩
      obtain ⟨wn, hwn, rfl⟩ := List.mem_map.mp hwv
      have A8 := b8 _ _ c2 fna.1
      have W8 := b8 _ _ c3 fwa.1
      have E8 := b8 _ _ c4 fea.1
      refine ⟨_, rfl, _, rfl, na, _, _, _, rfl, rfl, SqL.of A8, at0, _, rfl, _, rfl, na, _, _, _, rfl, rfl, SqL.of A8, atl, r0, ns[ns.length - 1], rfl, ?_⟩
      refine ⟨_, rfl, na, _, _, _, rfl, rfl, SqL.of A8, at0, _, rfl, _, rfl, na, _, _, _, rfl, rfl, SqL.of A8, atl, r0, ns[ns.length - 1], rfl, sz 2 (by decide), fun p9 n9 => ?_⟩
      generalize gg9 : upd _ p9 _ = G9; obtain ⟨s9, L9⟩ := new_eq n9 gg9; clear gg9
      have hne : r0 ≠ ns[ns.length - 1] := fun z => by
        rw [er0] at z
        have := (List.getElem_inj ndn).mp z
        omega
      have hmm := mp_mem hne hr0 (List.getElem_mem hl)
      refine ⟨pe, _, rfl, put_p (p := mp r0 ns[ns.length - 1]) (s9 _ _ E8) L9 (by omega), ?_⟩
      refine ⟨putE es (mp r0 ns[ns.length - 1]) wn, rfl, fun c o hc hne => ?_, ?_, ?_, upd_same, c5.put hmm.1 hmm.2 (mp_lt hne) (wok.2.1 wn hwn).1 (wok.2.1 wn hwn).2, ?_, fun z hz => (conn0 z hz).mono putE_sub, ?_⟩
      · rw [upd_ne (ne_of_none hc neH)]
        exact s9 _ _ ((c1.trans b8) c o hc hne)
      · rw [upd_ne nae]
        exact s9 _ _ A8
      · rw [upd_ne wae]
        exact s9 _ _ W8
      · have := putE_len (es := es) (p := mp r0 ns[ns.length - 1]) (n := wn)
        omega
      · exact ((P8.same s9).put fea.1 fea.2).mono (by omega)
    clear c1 c2 c3 c4 c5 c6 c7 c8 conn0
    rintro σ H8 ⟨es, rfl, c1, c2, c3, c4, c5, c6, c7, c8⟩
    refine ⟨_, rfl, _, rfl, _, _, rfl, rfl, p, cs, _, _, rfl, by omega, by omega, c8, by omega, fun d H9 d0 d1 b9 P9 => ?_⟩
    refine ⟨_, rfl, _, _, rfl, rfl, .inr ⟨_, rfl, _, _, rfl, rfl, .inl ⟨by omega, by omega⟩, ?_⟩⟩
    obtain ⟨n, hn, n0, n1⟩ : ∃ n : Int, n = d * (if decide (sh > 1) = true then 1 else 0) ∧ 0 ≤ n ∧ n ≤ 18 := by
      refine ⟨_, rfl, ?_, ?_⟩ <;> split <;> omega
    refine ⟨n, by rw [hn], by omega, by omega, ?_⟩
    have A9 := b9 _ _ c2 fna.1
    have W9 := b9 _ _ c3 fwa.1
    have E9 := b9 _ _ c4 fea.1
    refine for_it (walk_range (lo := 0) (n := n.toNat)) (fun i σ Hc => ∃ (x8 x10 x11 : Option V) (es : EdD), σ = [some (.ref p), some (.int lo), some (.int hi), some (.ref na), some (.ref wa), some (.ref pe), some (.int ns.length), some (.int sh), x8, x9, x10, x11, none] ∧ But p H Hc ∧ Hc na = some (.lst (ns.map V.str)) ∧ Hc wa = some (.lst (ws.map V.int)) ∧ Hc pe = some (.dT (dtE es)) ∧ EdOk ns es ∧ es.length ≤ 18 + i ∧ (∀ z ∈ ns, ERch es r0 z) ∧ Pen Hc p cs (N + 98 + 3 * i))
      ⟨x8, none, none, es, rfl, c1.trans b9, A9, W9, E9, c5, c6, c7, P9⟩ ?_ ?_ ?_
    · intros
      trivial
    · rintro i x σ Hc Hc' hii ⟨x8, x10, x11, es, rfl, c1, c2, c3, c4, c5, c6, c7, c8⟩ ⟨rfl, rfl⟩
      have nen : ns.map V.str ≠ [] := fun z => by
        have := List.map_eq_nil_iff.mp z
        rw [this] at e0
        simp at e0
      refine ⟨_, rfl, _, rfl, p, cs, _, c8, by omega, .inl ⟨na, _, rfl, .inl (SqL.of c2), nen, by rw [List.length_map]; omega, fun v1 Ha hv1 ba Pa => ?_⟩⟩
      obtain ⟨one, ho, rfl⟩ := List.mem_map.mp hv1
      refine ⟨_, rfl, _, rfl, p, cs, _, Pa, by omega, .inl ⟨na, _, rfl, .inl (SqL.of (ba _ _ c2 fna.1)), nen, by rw [List.length_map]; omega, fun v2 Hb hv2 bb Pb => ⟨_, _, rfl, ?_⟩⟩⟩
      obtain ⟨oth, hoo, rfl⟩ := List.mem_map.mp hv2
      have bab := ba.trans bb
      have Ab := bab _ _ c2 fna.1
      have Wb := bab _ _ c3 fwa.1
      have Eb := bab _ _ c4 fea.1
      refine ⟨_, rfl, _, rfl, rfl, _, rfl, ite2 (fun h1 => ?_) (fun _ => ⟨_, _, _, es, rfl, c1.trans bab, Ab, Wb, Eb, c5, by omega, c7, Pb.mono (by omega)⟩)⟩
      have hne : one ≠ oth := fun z => by
        rw [z] at h1
        simp at h1
      refine ⟨_, rfl, _, rfl, p, cs, _, Pb, by omega, .inl ⟨wa, _, rfl, .inl (SqL.of Wb), by intro z; exact wok.1 (List.map_eq_nil_iff.mp z), by rw [List.length_map]; have := wok.2.2; omega, fun wv Hd hwv bd Pd => ?_⟩⟩
      obtain ⟨wn, hwn, rfl⟩ := List.mem_map.mp hwv
      have Ad := bd _ _ Ab fna.1
      have Wd := bd _ _ Wb fwa.1
      have Ed := bd _ _ Eb fea.1
      refine ⟨_, rfl, _, rfl, _, rfl, one, oth, rfl, ?_⟩
      refine ⟨_, rfl, _, rfl, one, oth, rfl, sz 2 (by decide), fun p9 n9 => ?_⟩
      generalize gg9 : upd _ p9 _ = G9; obtain ⟨s9, L9⟩ := new_eq n9 gg9; clear gg9
      have hmm := mp_mem hne ho hoo
      refine ⟨pe, _, rfl, put_p (p := mp one oth) (s9 _ _ Ed) L9 (by omega), ?_⟩
      refine ⟨_, _, _, putE es (mp one oth) wn, rfl, fun c o hc hne => ?_, ?_, ?_, upd_same, c5.put hmm.1 hmm.2 (mp_lt hne) (wok.2.1 wn hwn).1 (wok.2.1 wn hwn).2, ?_, fun z hz => (c7 z hz).mono putE_sub, ?_⟩
      · rw [upd_ne (ne_of_none hc neH)]
        exact s9 _ _ (((c1.trans bab).trans bd) c o hc hne)
      · rw [upd_ne nae]
        exact s9 _ _ Ad
      · rw [upd_ne wae]
        exact s9 _ _ Wd
      · have := putE_len (es := es) (p := mp one oth) (n := wn)
        omega
      · exact ((Pd.same s9).put fea.1 fea.2).mono (by omega)
    · rintro σ Hc ⟨x8, x10, x11, es, rfl, c1, c2, c3, c4, c5, c6, c7, c8⟩
      intro pd nd_
      have fpd := c8.free nd_
      have npdH := fre c1 c8 nd_
      have s0 := same_upd (o := .dK []) nd_
      have P0 := c8.same s0
      have A0 := s0 _ _ c2
      have E0 := s0 _ _ c4
      have D0 : upd Hc pd (.dK []) pd = some (.dK []) := upd_same
      have b0 := c1.trans (But.of_same s0)
      generalize upd Hc pd (.dK []) = H10 at s0 P0 A0 E0 D0 b0
      refine ⟨_, rfl, na, ns, rfl, SqL.of A0, by omega, fun ys pv pm so nv => ?_⟩
      generalize ggv : upd _ pv _ = Gv; obtain ⟨sv, Lv⟩ := new_eq nv ggv; clear ggv
      have nvH := fre b0 P0 nv
      have fv := P0.free nv
      refine ⟨_, rfl, _, rfl, na, ns, rfl, SqL.of (sv _ _ A0), fun z => by rw [z] at e0; simp at e0, fun mn hmn _ => ?_⟩
      refine ⟨sv _ _ D0, [(Sum.inr "vertices", .ref pv), (Sum.inr "edges", .ref pe), (Sum.inr "root", .str mn)], rfl, by show 3 ≤ 15; decide, ?_⟩
      have npv : pd ≠ pv := fun z => by
        rw [z, nv] at D0
        cases D0
      have npe : pe ≠ pd := fun z => by
        rw [z, D0] at E0
        cases E0
      have b11 : But p H (upd Gv pd (.dK (netL pv pe mn))) := (b0.trans (But.of_same sv)).put npdH
      have P11 : Pen (upd Gv pd (.dK (netL pv pe mn))) p cs (N + 98 + 3 * n.toNat) := (P0.same sv).put fpd.1 fpd.2
      have A11 : upd Gv pd (.dK (netL pv pe mn)) na = some (.lst (ns.map V.str)) := by
        rw [upd_ne (ne_of (sv _ _ A0) (sv _ _ D0) (by intro z; cases z))]
        exact sv _ _ A0
      have ok : ∀ rt, rt ∈ ns → NetOk ys es rt := fun rt hrt => ⟨asc_of so (pm.nodup_iff.mpr ndn), fun z hz => nmn z (pm.mem_iff.mp hz), ⟨c5.nd, fun e he => by
        obtain ⟨h1, h2, h3⟩ := c5.mem e he
        exact ⟨pm.mem_iff.mpr h1, pm.mem_iff.mpr h2, h3⟩⟩, pm.mem_iff.mpr hrt, fun s hs u hu => (c7 s (pm.mem_iff.mp hs)).symm.trans (c7 u (pm.mem_iff.mp hu))⟩
      have N11 : NetAt (upd Gv pd (.dK (netL pv pe mn))) pd pv pe ys es mn := ⟨upd_same, by rw [upd_ne (Ne.symm npv)]; exact Lv, by rw [upd_ne npe]; exact sv _ _ E0, ok mn hmn⟩
      have len : ys.length = ns.length := pm.length_eq
      refine ⟨fun σ H2 => ∃ rt : Str, σ = [some (.ref p), some (.int lo), some (.int hi), some (.ref na), some (.ref wa), some (.ref pe), some (.int ns.length), some (.int sh), x8, x9, x10, x11, some (.ref pd)] ∧ But p H H2 ∧ NetAt H2 pd pv pe ys es rt ∧ Pen H2 p cs (N + 400), ?_, ?_⟩
      · show tIfS _ _ _ _ _ (upd Gv pd (.dK (netL pv pe mn)))
        generalize upd Gv pd (.dK (netL pv pe mn)) = H11 at b11 P11 A11 N11
        refine ⟨_, rfl, p, cs, _, _, rfl, by decide, by decide, P11, by omega, fun d3 H12 _ _ b12 P12 => ⟨rfl, _, rfl, ?_⟩⟩
        have N12 : NetAt H12 pd pv pe ys es mn := ⟨b12 _ _ N11.top fpd.1, b12 _ _ N11.ver fv.1, b12 _ _ N11.edg fea.1, N11.ok⟩
        refine ite2 (fun _ => ?_) (fun _ => ⟨mn, rfl, b11.trans b12, N12, P12.mono (by omega)⟩)
        refine ⟨_, rfl, _, rfl, p, cs, _, P12, by omega, .inl ⟨na, _, rfl, .inl (SqL.of (b12 _ _ A11 fna.1)), ?_, by rw [List.length_map]; omega, fun v1 H13 hv1 b13 P13 => ?_⟩⟩
        · intro z
          have := List.map_eq_nil_iff.mp z
          rw [this] at e0
          simp at e0
        obtain ⟨rt, hrt, rfl⟩ := List.mem_map.mp hv1
        have N13 : NetAt H13 pd pv pe ys es mn := ⟨b13 _ _ N12.top fpd.1, b13 _ _ N12.ver fv.1, b13 _ _ N12.edg fea.1, N12.ok⟩
        refine ⟨_, rfl, pd, _, rfl, DPut.k (k := Sum.inr "root") N13.top (by show 3 < sizeLine; omega), ?_⟩
        refine ⟨rt, rfl, ((b11.trans b12).trans b13).put npdH, ⟨upd_same, ?_, ?_, ok rt hrt⟩, (P13.put fpd.1 fpd.2).mono (by omega)⟩
        · rw [upd_ne (Ne.symm npv)]
          exact N13.ver
        · rw [upd_ne npe]
          exact N13.edg
      · rintro σ H14 ⟨rt, rfl, b14, N14, P14⟩
        exact ⟨_, rfl, k pd pv pe ys es rt H14 b14 npdH nvH neH N14 (by omega) (by omega) (by omega) P14⟩
end
end Wk
namespace Wk
open PySem PySem.Spec PyProof.Rows L2 WkD WkN WkE
section
variable {P : Program} {w : World} {K : PySem.W.Frag} {mg : Str → Option Value} {base : Heap}
def spLEdges (K : PySem.W.Frag) : Sp := fun vs H Q _ => ∃ (q va ea : Addr) (vs0 : List Str) (es : EdD) (rt : Str), vs = [.ref q] ∧ NetAt H q va ea vs0 es rt ∧ es.length ≤ 1000 ∧ ∀ p rs H', Same H H' → H p = none → H' p = some (.lst (rs.map V.ref)) → EdsAt K H' rs (edS es) → Q (.ref p) H'
theorem get_net {H : Hp} {q va ea : Addr} {vs : List Str} {es : EdD} {rt : Str} (n : NetAt H q va ea vs es rt) : DGet H q (.str "vertices") (some (.ref va)) ∧ DGet H q (.str "edges") (some (.ref ea)) ∧ DGet H q (.str "root") (some (.str rt)) :=
  ⟨DGet.k (k := Sum.inr "vertices") n.top, DGet.k (k := Sum.inr "edges") n.top, DGet.k (k := Sum.inr "root") n.top⟩
theorem sc_ledges : FnScope ["_law_network_here", "_law_pair"] ["_law_network_here"] (defScope s_L_edges) := ⟨rfl, rfl, rfl, by decide +kernel, rfl, by decide +kernel, by decide +kernel⟩
theorem c_ledges (D : Def K mg "_law_edges" s_L_edges) (B : Bi mg) : Callee P w K mg base CX0 1 "_law_edges" ["_law_network_here"] (spLEdges K) := by
  obtain ⟨f, fd, F, g⟩ := D
  refine ⟨f, fd, F.ok sc_ledges (fun vs H Q E h => ?_) (fun cdv A outer s H vs Q E hr h => ?_), g, F.kp, F.bindsN (fun _ _ _ _ _ _ us hl => match us, hl with | [_], _ => rfl)⟩
  · obtain ⟨q, va, ea, vs0, es, rt, rfl, _⟩ := h
    rfl
  have hu := hu_of hr
  have nd := sc_ledges.nd
  refine ⟨_, PSs.nox (pss_one (ps_ret (pe_lc (own := [("_law_pair", 1)]) (by rfl) nd (pi_list (pe_callB (WkD.cr_sortedTT rfl hr.units) (by rfl) B.n_sorted (by decide +kernel) (pa_cons (pe_dget hu (pv 0) pe_str (fun _ _ => rfl)) pa_nil))) (blkOk_by (by kernel_rfl)) (fun _ _ _ _ _ => (pg_name (i := 1) nd rfl (Or.inl rfl))) (fun _ _ _ _ _ => pts_nil) (fun _ _ _ _ _ => (pe_op (WkN.opCatT K (by rfl)) (pv 1) (pe_tup (pa_cons (pe_dget hu (pe_dget hu (pv 0) pe_str (fun _ _ => rfl)) (pv 1) (fun _ _ => rfl)) pa_nil))))))), ?_⟩
  obtain ⟨q, va, ea, vs0, es, rt, rfl, hN, hl, k⟩ := h
  have big : 10000 < sizeLine := by decide
  refine ⟨_, rfl, q, _, rfl, (get_net hN).2.1, ea, _, es.map (·.1), rfl, .inl hN.edg, dtE_keys, fun bs p1 eb n1 => ?_⟩
  obtain ⟨ks, eks⟩ : ∃ ks, ks = (es.map (·.1)).mergeSort (PySem.W.dataLe false encP) := ⟨_, rfl⟩
  rw [← eks] at eb
  have lks : ks.length = es.length := by rw [eks, List.length_mergeSort, List.length_map]
  have lbs : bs.length = ks.length := eb.length
  have s1 : Same H (upd H p1 (.lst (bs.map V.ref))) := same_upd n1
  have L1 : upd H p1 (.lst (bs.map V.ref)) p1 = some (.lst (bs.map V.ref)) := upd_same
  generalize upd H p1 (.lst (bs.map V.ref)) = H1 at s1 L1
  have pm := List.mergeSort_perm (es.map (·.1)) (PySem.W.dataLe false encP)
  rw [← eks] at pm
  refine ⟨p1, rfl, ⟨_, SqL.of L1⟩, fun D nD => ?_⟩
  have nDH := np_of s1 nD
  refine lc_it (walk_list (xs := bs.map V.ref)) (fun i Hc => ∃ rs : List Addr, Same H1 Hc ∧ Hc D = some (.lst (rs.map V.ref)) ∧ EdsAt K Hc rs ((ks.take i).map fun p => (p.1, p.2, wOf es p)) ∧ rs.length = i) ⟨[], same_upd nD, upd_same, ⟨rfl, fun i r e h => absurd h (by simp)⟩, rfl⟩ ?_ ?_ ?_
  · rintro i Hc hi ⟨rs, c1, c2, c3, c4⟩
    exact SqL.of (c1 _ _ L1)
  · rintro i x Hc Hc' hi ⟨rs, c1, c2, c3, c4⟩ ⟨rfl, hx⟩
    rw [List.length_map] at hi
    rw [List.getElem?_map, List.getElem?_eq_getElem hi] at hx
    cases hx
    have hi2 : i < ks.length := by omega
    obtain ⟨pr, epr⟩ : ∃ pr, pr = ks[i] := ⟨_, rfl⟩
    have hb : H bs[i] = some (.tup [.str pr.1, .str pr.2]) := by
      rw [epr]
      exact each_get eb i hi hi2
    have hpk : pr ∈ es.map (·.1) := pm.mem_iff.mp (epr ▸ List.getElem_mem hi2)
    have tk := takeS (List.getElem?_eq_getElem hi2)
    rw [← epr] at tk
    generalize bs[i] = b at hb ⊢
    have hb1 := c1 _ _ (s1 _ _ hb)
    refine ⟨rfl, tYes_if ?_⟩
    have hNc := hN.same (s1.trans c1)
    refine ⟨_, rfl, _, rfl, q, _, rfl, (get_net hNc).2.1, _, rfl, ea, _, rfl, .inr ⟨_, kP pr, b, .inl hNc.edg, rfl, hb1, (dtE_val hN.ok.ed.nd (wOf_mem hN.ok.ed.nd hpk)).symm⟩, by show 1 ≤ sizeLine; omega, fun p2 n2 => ?_⟩
    generalize gg2 : upd _ p2 _ = G2; obtain ⟨s2, L2⟩ := new_eq n2 gg2; clear gg2
    refine ⟨b, p2, _, _, rfl, rfl, .inl (.inl (s2 _ _ hb1)), .inl (.inl L2), by simp, by show 3 ≤ sizeLine; omega, fun z => absurd z (by simp), fun _ p3 n3 => ?_⟩
    generalize gg3 : upd _ p3 _ = G3; obtain ⟨s3, L3⟩ := new_eq n3 gg3; clear gg3
    have s23 := s2.trans s3
    have D3 := s23 _ _ c2
    refine ⟨_, D3, by rw [List.length_map]; omega, rs ++ [p3], ?_, ?_, ?_, by rw [List.length_append, c4]; rfl⟩
    · intro c o hc
      rw [upd_ne (ne_of_none hc nD)]
      exact s23 _ _ (c1 _ _ hc)
    · rw [upd_same, List.map_append]
      rfl
    · rw [tk, List.map_append]
      have E3 := c3.same s23
      have n3D : p3 ≠ D := fun z => by
        rw [z, s2 _ _ c2] at n3
        cases n3
      have E4 : EdsAt K (upd G3 D (.lst (rs.map V.ref ++ [.ref p3]))) rs ((ks.take i).map fun p => (p.1, p.2, wOf es p)) := by
        refine ⟨E3.1, fun i r e h1 h2 => ?_⟩
        rcases E3.2 i r e h1 h2 with (z | ⟨o, z⟩) | z
        · exact .inl (.inl (by rw [upd_ne (ne_of z D3 (by intro q; cases q))]; exact z))
        · exact .inl (.inr ⟨o, by rw [upd_ne (ne_of z D3 (by intro q; cases q))]; exact z⟩)
        · exact .inr z
      exact E4.snoc (e := (pr.1, pr.2, wOf es pr)) (fun _ _ h => h) (by rw [upd_ne n3D]; exact L3)
  · rintro Hc ⟨rs, c1, c2, c3, c4⟩
    refine k D rs Hc (s1.trans c1) nDH c2 ?_
    rw [List.length_map, lbs, List.take_length, eks] at c3
    exact c3
end
end Wk
namespace Wk
open PySem PySem.Spec PyProof.Rows L2 WkD WkN LamX WkP WkE
/-! ### what is built from a drawn network, in plain words -/
abbrev prOf (e : Ed) : Pr := (e.1, e.2.1)
def flipE (e : Ed) : Ed := (e.2.1, e.1, e.2.2)
/-- the same edges, their vertices in either order -/
abbrev Flips (sh es' : List Ed) : Prop := PySem.W.EachIs (fun a b => b = a ∨ b = flipE a) sh es'
theorem Flips.snoc {sh es' : List Ed} (h : Flips sh es') {a b : Ed} (hb : b = a ∨ b = flipE a) : Flips (sh ++ [a]) (es' ++ [b]) := by
  induction h with
  | nil => exact .cons hb .nil
  | cons h t ih => exact .cons h ih
theorem Flips.at {sh es' : List Ed} (h : Flips sh es') {i : Nat} {b : Ed} (hb : es'[i]? = some b) : ∃ a, sh[i]? = some a ∧ (b = a ∨ b = flipE a) := by
  have h1 := (List.getElem?_eq_some_iff.mp hb).1
  have h2 : i < sh.length := by rw [h.length]; exact h1
  refine ⟨sh[i], List.getElem?_eq_getElem h2, ?_⟩
  rw [List.getElem?_eq_getElem h1] at hb
  rw [← Option.some.inj hb]
  exact each_get h i h2 h1
theorem Flips.adj {sh es' : List Ed} (h : Flips sh es') (u v : Str) (n : Int) : Adj es' u v n ↔ Adj sh u v n := by
  induction h with
  | nil => exact Iff.rfl
  | @cons a b as bs h t ih =>
    unfold Adj at ih ⊢
    simp only [List.mem_cons]
    obtain ⟨a1, a2, a3⟩ := a
    unfold flipE at h
    rcases h with rfl | rfl
    · grind
    · simp only [Prod.mk.injEq]
      grind
theorem edS_perm_nodup {es : EdD} {sh : List Ed} (nd : (es.map (·.1)).Nodup) (pm : sh.Perm (edS es)) : (sh.map prOf).Nodup := by
  refine (pm.map prOf).nodup_iff.mpr ?_
  have h := edS_asc nd
  rw [List.nodup_iff_pairwise_ne, List.pairwise_map]
  exact h.imp fun {a b} (q : ltP (prOf a) (prOf b)) (e : prOf a = prOf b) => ltP_irrefl (prOf b) (by
    rw [e] at q
    exact q)
theorem built_valid {vs vs0 : List Str} {es : EdD} {rt : Str} {sh es' : List Ed} (ok : NetOk vs es rt) (two : 2 ≤ vs.length) (few : vs.length ≤ 40) (pv : vs0.Perm vs) (ps : sh.Perm (edS es)) (fl : Flips sh es') : Valid vs0 es' := by
  have nd := ok.ed.nd
  have snd := edS_perm_nodup nd ps
  have ln := pv.length_eq
  have inS : ∀ u v n, (u, v, n) ∈ sh ↔ ((u, v), n) ∈ es := fun u v n => ps.mem_iff.trans (edS_mem nd)
  refine ⟨fun u hu => ok.nm u (pv.mem_iff.mp hu), pv.nodup_iff.mpr (asc_nodup ok.asc), by omega, by omega, fun i a b n h => ?_, fun nb wt ro s hs u hu => ?_⟩
  · obtain ⟨⟨u, v, m⟩, hs, hor⟩ := fl.at h
    have hm : (u, v, m) ∈ sh := List.mem_of_getElem? hs
    obtain ⟨h1, h2, h3, h4, h5⟩ := ok.ed.mem _ ((inS u v m).mp hm)
    have h1 := pv.mem_iff.mpr h1
    have h2 := pv.mem_iff.mpr h2
    have hne : u ≠ v := fun e => ltS_irrefl u (by
      have h3 : ltS u v := h3
      rw [← e] at h3
      exact h3)
    have key : ∀ (j : Nat) (x y : Str) (m' : Int), j < i → es'[j]? = some (x, y, m') → ((x = u ∧ y = v) ∨ (x = v ∧ y = u)) → False := fun j x y m' hj hx hxy => by
      obtain ⟨⟨u', v', m2⟩, hs', hor'⟩ := fl.at hx
      have hm' : (u', v', m2) ∈ sh := List.mem_of_getElem? hs'
      obtain ⟨_, _, g3, _, _⟩ := ok.ed.mem _ ((inS u' v' m2).mp hm')
      have e : u' = u ∧ v' = v := by
        unfold flipE at hor'
        simp only [Prod.mk.injEq] at hor'
        have g3 : ltS u' v' := g3
        have h3 : ltS u v := h3
        rcases hor' with ⟨rfl, rfl, _⟩ | ⟨rfl, rfl, _⟩
        · rcases hxy with ⟨rfl, rfl⟩ | ⟨rfl, rfl⟩
          · exact ⟨rfl, rfl⟩
          · exact absurd g3 (ltS_asymm h3)
        · rcases hxy with ⟨rfl, rfl⟩ | ⟨rfl, rfl⟩
          · exact absurd g3 (ltS_asymm h3)
          · exact ⟨rfl, rfl⟩
      have hi1 := (List.getElem?_eq_some_iff.mp hs).1
      have hj1 := (List.getElem?_eq_some_iff.mp hs').1
      have q1 : (sh.map prOf)[i]'(by rw [List.length_map]; exact hi1) = (u, v) := by
        rw [List.getElem_map, (List.getElem?_eq_some_iff.mp hs).2]
      have q2 : (sh.map prOf)[j]'(by rw [List.length_map]; exact hj1) = (u, v) := by
        rw [List.getElem_map, (List.getElem?_eq_some_iff.mp hs').2]
        show (u', v') = (u, v)
        rw [e.1, e.2]
      have := (List.getElem_inj snd).mp (q1.trans q2.symm)
      omega
    have no : ∀ m', ¬ Adj (es'.take i) u v m' := fun m' ha => by
      have tkk : ∀ x y, (x, y, m') ∈ es'.take i → ∃ j, j < i ∧ es'[j]? = some (x, y, m') := fun x y hxy => by
        obtain ⟨j, hj⟩ := List.getElem?_of_mem hxy
        rw [List.getElem?_take] at hj
        split at hj
        · exact ⟨j, by assumption, hj⟩
        · cases hj
      rcases ha with ha | ha
      · obtain ⟨j, hj, hx⟩ := tkk _ _ ha
        exact key j _ _ _ hj hx (.inl ⟨rfl, rfl⟩)
      · obtain ⟨j, hj, hx⟩ := tkk _ _ ha
        exact key j _ _ _ hj hx (.inr ⟨rfl, rfl⟩)
    unfold flipE at hor
    simp only [Prod.mk.injEq] at hor
    rcases hor with ⟨rfl, rfl, rfl⟩ | ⟨rfl, rfl, rfl⟩
    · exact ⟨h1, h2, hne, h4, h5, no⟩
    · exact ⟨h2, h1, Ne.symm hne, h4, h5, fun m' ha => no m' ha.symm⟩
  · have er := ok.con s (pv.mem_iff.mp hs) u (pv.mem_iff.mp hu)
    have both : ∀ u, ERch es s u → u ∈ vs0 ∧ Rch nb s u := fun u er => by
      induction er with
      | here => exact ⟨hs, .here⟩
      | @go a b _ e ih =>
        obtain ⟨i1, i2⟩ := ih
        have get : ∀ x y, (x, y) ∈ es.map (·.1) → ∃ n, Adj es' x y n ∧ x ∈ vs0 ∧ y ∈ vs0 := fun x y hxy => by
          obtain ⟨⟨p, n⟩, he, e⟩ := List.mem_map.mp hxy
          have e : p = (x, y) := e
          subst e
          obtain ⟨g1, g2, _⟩ := ok.ed.mem _ he
          exact ⟨n, (fl.adj x y n).mpr (.inl ((inS x y n).mpr he)), pv.mem_iff.mpr g1, pv.mem_iff.mpr g2⟩
        rcases e with e | e
        · obtain ⟨n, h1, h2, h3⟩ := get _ _ e
          exact ⟨h3, .go i2 ((ro.mem a h2 b).mpr ⟨n, h1⟩)⟩
        · obtain ⟨n, h1, h2, h3⟩ := get _ _ e
          exact ⟨h2, .go i2 ((ro.mem a h3 b).mpr ⟨n, h1.symm⟩)⟩
    exact (both u er).2
theorem edL_mem {Vs : List Str} {nb : Nb} {wt : Wt} {u v : Str} {n : Int} : (u, v, n) ∈ edL Vs nb wt ↔ u ∈ Vs ∧ v ∈ nb u ∧ ltS u v ∧ n = wt u v := by
  unfold edL edR
  rw [List.mem_flatMap]
  constructor
  · rintro ⟨x, hx, h⟩
    obtain ⟨y, hy, e⟩ := List.mem_map.mp h
    simp only [Prod.mk.injEq] at e
    obtain ⟨rfl, rfl, rfl⟩ := e
    rw [List.mem_filter] at hy
    exact ⟨hx, hy.1, of_decide_eq_true hy.2, rfl⟩
  · rintro ⟨h1, h2, h3, rfl⟩
    exact ⟨u, h1, List.mem_map.mpr ⟨v, List.mem_filter.mpr ⟨h2, decide_eq_true h3⟩, rfl⟩⟩
theorem edL_asc {Vs : List Str} {nb : Nb} {wt : Wt} (h : Asc Vs) (k : ∀ u ∈ Vs, Asc (nb u)) : (edL Vs nb wt).Pairwise fun a b => ltP (prOf a) (prOf b) := by
  unfold edL
  induction Vs with
  | nil => exact List.Pairwise.nil
  | cons u r ih =>
    unfold Asc at h
    rw [List.pairwise_cons] at h
    rw [List.flatMap_cons, List.pairwise_append]
    refine ⟨?_, ih h.2 fun v hv => k v (List.mem_cons_of_mem _ hv), fun a ha b hb => ?_⟩
    · unfold edR
      rw [List.pairwise_map]
      exact ((k u List.mem_cons_self).filter _).imp fun {a b} q => .inr ⟨rfl, q⟩
    · unfold edR at ha
      obtain ⟨x, hx, rfl⟩ := List.mem_map.mp ha
      obtain ⟨y, hy, hb⟩ := List.mem_flatMap.mp hb
      unfold edR at hb
      obtain ⟨z, hz, rfl⟩ := List.mem_map.mp hb
      exact .inl (h.1 y hy)
theorem ed_uniq {l m : List Ed} (hl : l.Pairwise fun a b => ltP (prOf a) (prOf b)) (hm : m.Pairwise fun a b => ltP (prOf a) (prOf b)) (h : ∀ x, x ∈ l ↔ x ∈ m) : l = m :=
  asc_uniq (R := fun a b => ltP (prOf a) (prOf b)) (fun a => ltP_irrefl _) (fun a b c => ltP_trans) hl hm h
/-- the edges of what was built are those of the drawn network -/
theorem built_edges {vs vs0 Ws : List Str} {es : EdD} {rt : Str} {sh es' : List Ed} {nb : Nb} {wt : Wt} (ok : NetOk vs es rt) (pv : vs0.Perm vs) (ps : sh.Perm (edS es)) (fl : Flips sh es') (pw : Ws.Perm vs0) (aw : Asc Ws) (ro : RowsOf vs0 es' nb wt) (an : ∀ u ∈ Ws, Asc (nb u)) : edL Ws nb wt = edS es := by
  have nd := ok.ed.nd
  have inS : ∀ u v n, (u, v, n) ∈ sh ↔ ((u, v), n) ∈ es := fun u v n => ps.mem_iff.trans (edS_mem nd)
  refine ed_uniq (edL_asc aw an) (edS_asc nd) fun ⟨u, v, n⟩ => ?_
  rw [edL_mem, edS_mem nd]
  constructor
  · rintro ⟨h1, h2, h3, rfl⟩
    have h1 := pw.mem_iff.mp h1
    obtain ⟨n, hn⟩ := (ro.mem u h1 v).mp h2
    rw [ro.val u h1 v n hn]
    have hn := (fl.adj u v n).mp hn
    rcases hn with hn | hn
    · exact (inS _ _ _).mp hn
    · obtain ⟨_, _, g3, _⟩ := ok.ed.mem _ ((inS _ _ _).mp hn)
      exact absurd h3 (ltS_asymm g3)
  · intro h
    obtain ⟨g1, g2, g3, _⟩ := ok.ed.mem _ h
    have g1' := pv.mem_iff.mpr g1
    have ad : Adj es' u v n := (fl.adj u v n).mpr (.inl ((inS u v n).mpr h))
    exact ⟨pw.mem_iff.mpr g1', (ro.mem u g1' v).mpr ⟨n, ad⟩, g3, (ro.val u g1' v n ad).symm⟩
theorem built_verts {vs vs0 Ws : List Str} {es : EdD} {rt : Str} (ok : NetOk vs es rt) (pv : vs0.Perm vs) (pw : Ws.Perm vs0) (aw : Asc Ws) : Ws = vs :=
  asc_uniq (R := ltS) ltS_irrefl (fun a b c => ltS_trans) aw ok.asc fun x => (pw.trans pv).mem_iff
theorem least_uniq {l : List Str} {a b : Str} (ha : a ∈ l) (h1 : ∀ j ∈ l, ¬ ltS j a) (hb : b ∈ l) (h2 : ∀ j ∈ l, ¬ ltS j b) : a = b := by
  rcases ltS_tri a b with h | h | h
  · exact absurd h (h2 a ha)
  · exact h
  · exact absurd h (h1 b hb)
end Wk
namespace Wk
open PySem PySem.Spec PyProof.Rows L2 WkD WkN LamX WkP WkE WkC
section
variable {P : Program} {w : World} {K : PySem.W.Frag} {mg : Str → Option Value} {base : Heap}
/-- the class Network -/
structure NetC (P : Program) (w : World) (K : PySem.W.Frag) (mg : Str → Option Value) (base : Heap) (T : List (Addr × Str)) (C fG : Addr) : Prop where
  nc : NCls K C C fG
  make : MakeC P w K mg base CX0 C "Network" 6 (spNet K T C fG)
  pv : PropC P w K mg base CX0 C "vertices" 1 (spVertices K)
  pe : PropC P w K mg base CX0 C "edges" 1 (spEdges K)
  pr : PropC P w K mg base CX0 C "root" 1 (spRoot K)
  pl : LenC P w K mg base C 1 (spLen K)
theorem NetC.cls {T : List (Addr × Str)} {C fG : Addr} (h : NetC P w K mg base T C fG) : Cls K C := h.nc.g.cls
theorem perm_map {α β : Type} {f : α → β} : ∀ {ys xs : List β}, ys.Perm xs → ∀ {m : List α}, xs = m.map f → ∃ m' : List α, ys = m'.map f ∧ m'.Perm m := by
  intro ys xs h
  induction h with
  | nil =>
    intro m e
    have := List.map_eq_nil_iff.mp e.symm
    exact ⟨[], rfl, by rw [this]⟩
  | cons x _ ih =>
    intro m e
    cases m with
    | nil => cases e
    | cons a r =>
      rw [List.map_cons, List.cons.injEq] at e
      obtain ⟨m', h1, h2⟩ := ih e.2
      exact ⟨a :: m', by rw [List.map_cons, h1, e.1], h2.cons a⟩
  | swap x y l =>
    intro m e
    match m, e with
    | a :: b :: r, e =>
      rw [List.map_cons, List.map_cons, List.cons.injEq, List.cons.injEq] at e
      exact ⟨b :: a :: r, by rw [List.map_cons, List.map_cons, e.1, e.2.1, e.2.2], .swap a b r⟩
  | trans _ _ ih1 ih2 =>
    intro m e
    obtain ⟨m1, h1, p1⟩ := ih2 e
    obtain ⟨m2, h2, p2⟩ := ih1 h1
    exact ⟨m2, h2, p2.trans p1⟩
theorem EdsAt.perm {H : Hp} {rs rs' : List Addr} {es : List Ed} (h : EdsAt K H rs es) (p : rs'.Perm rs) : ∃ sh, sh.Perm es ∧ EdsAt K H rs' sh := by
  have e : rs = (rs.zip es).map Prod.fst := by rw [List.map_fst_zip (by rw [h.1]; exact Nat.le_refl _)]
  obtain ⟨zs, h1, h2⟩ := perm_map p e
  refine ⟨zs.map Prod.snd, ?_, by rw [h1, List.length_map, List.length_map], fun i r d g1 g2 => ?_⟩
  · have := h2.map Prod.snd
    rw [List.map_snd_zip (by rw [h.1]; exact Nat.le_refl _)] at this
    exact this
  · rw [h1, List.getElem?_map] at g1
    rw [List.getElem?_map] at g2
    cases hz : zs[i]? with
    | none =>
      rw [hz] at g1
      cases g1
    | some z =>
      rw [hz] at g1 g2
      cases g1
      cases g2
      obtain ⟨j, hj⟩ := List.getElem?_of_mem (h2.mem_iff.mp (List.mem_of_getElem? hz))
      obtain ⟨k1, k2⟩ := List.getElem?_zip_eq_some.mp hj
      exact h.2 j _ _ k1 k2
/-- what is never changed: instances, what is known, tuples -/
def Stay : HO → Prop
  | .ins _ _ _ => True
  | .frz _ _ => True
  | .tup _ => True
  | _ => False
abbrev StayE (H H' : Hp) : Prop := ∀ b o, H b = some o → Stay o → H' b = some o
theorem StayE.trans {H H1 H2 : Hp} (a : StayE H H1) (b : StayE H1 H2) : StayE H H2 := fun c o h s => b c o (a c o h s) s
theorem StayE.of {H H' : Hp} (e : Same H H') : StayE H H' := fun b o h _ => e b o h
theorem StayE.but {H H' : Hp} {p cs : Addr} {N : Nat} (b : But p H H') (P : Pen H p cs N) : StayE H H' := fun c o h s => b c o h (by
  obtain ⟨⟨t, r, h1, _⟩, _⟩ := P
  intro z
  rw [z, h1] at h
  cases h
  exact s)
theorem StayE.upd {H : Hp} {p : Addr} {o o' : HO} (h : H p = some o) (n : ¬ Stay o) : StayE H (upd H p o') := fun c u hc s => by
  rw [upd_ne (ne_of hc h (by intro z; rw [z] at s; exact n s))]
  exact hc
/-- a network that was built -/
structure House (H : Hp) (x C : Addr) (vs : List Str) (es : EdD) (t : Str) : Prop where
  ex : ∃ (dx p : Addr) (fs : List (Str × V)) (ad : Str → Addr) (nb : Nb) (wt : Wt), H x = some (.ins C dx fs) ∧ fs.lookup ("around" : Str) = some (.ref p) ∧ fs.lookup ("top" : Str) = some (.str t) ∧ RowsZ H p vs ad nb wt ∧ (∀ u ∈ vs, (nb u).length ≤ 1000) ∧ edL vs nb wt = edS es
theorem House.stay {H H' : Hp} {x C : Addr} {vs : List Str} {es : EdD} {t : Str} (h : House H x C vs es t) (e : StayE H H') : House H' x C vs es t := by
  obtain ⟨dx, p, fs, ad, nb, wt, h1, h2, h3, h4, h5⟩ := h.ex
  refine ⟨dx, p, fs, ad, nb, wt, e _ _ h1 trivial, h2, h3, ⟨?_, fun u hu => ?_⟩, h5⟩
  · obtain ⟨o, g⟩ := h4.top
    exact ⟨o, e _ _ g trivial⟩
  · obtain ⟨o, g⟩ := h4.row u hu
    exact ⟨o, e _ _ g trivial⟩
def spLawT (K : PySem.W.Frag) (T : List (Addr × Str)) : Sp := fun vs H Q _ => ∃ (a : Addr) (ns : List Int), vs = [.ref a] ∧ SqL K H a (ns.map V.int) ∧ ns.length ≤ 63 ∧ Tabs T H ∧ ∀ H', Q (.bl true) H'
theorem Pen.ext {H H' : Hp} {p cs : Addr} {N : Nat} (P : Pen H p cs N) (s : Ext H H') : Pen H' p cs N := by
  obtain ⟨⟨t, r, h1, h2⟩, ns, h3, h4⟩ := P
  exact ⟨⟨t, r, s _ _ h1 (fun ps z => by cases z), h2⟩, ns, s _ _ h3 (fun ps z => by cases z), h4⟩
theorem NetAt.ext {H H' : Hp} {q va ea : Addr} {vs : List Str} {es : EdD} {rt : Str} (n : NetAt H q va ea vs es rt) (s : Ext H H') : NetAt H' q va ea vs es rt := ⟨s _ _ n.top (fun ps z => by cases z), s _ _ n.ver (fun ps z => by cases z), s _ _ n.edg (fun ps z => by cases z), n.ok⟩
theorem stay_notab {o : HO} (s : Stay o) : ∀ ps, o ≠ .tbl ps := fun ps z => by
  rw [z] at s
  exact s
theorem Ext.stay {H H' : Hp} (e : Ext H H') : StayE H H' := fun b o h s => e b o h (stay_notab s)
theorem tupS {H H' : Hp} {r : Addr} {xs : List V} (e : StayE H H') (h : SqT K H r xs) : SqT K H' r xs := by
  rcases h with (h | ⟨o, h⟩) | h
  · exact .inl (.inl (e _ _ h trivial))
  · exact .inl (.inr ⟨o, e _ _ h trivial⟩)
  · exact .inr h
theorem edsS {H H' : Hp} {rs : List Addr} {es : List Ed} (e : StayE H H') (h : EdsAt K H rs es) : EdsAt K H' rs es := ⟨h.1, fun i r d g1 g2 => tupS e (h.2 i r d g1 g2)⟩
theorem valF {vs0 : List Str} {es2 : List Ed} (val : Valid vs0 es2) (e : Ed) (he : e ∈ es2) : nameB e.1 = true ∧ nameB e.2.1 = true ∧ 1 ≤ e.2.2 ∧ e.2.2 ≤ 1000000000 := by
  obtain ⟨i, hi⟩ := List.getElem?_of_mem he
  obtain ⟨h1, h2, _, h4, h5, _⟩ := val.ed i _ _ _ hi
  exact ⟨val.nm _ h1, val.nm _ h2, h4, h5⟩
/-- Network(..) of what was drawn -/
theorem mk_house {T : List (Addr × Str)} {C fG : Addr} {H : Hp} {va ea : Addr} {b1 b2 : Bool} {vs vs0 : List Str} {es : EdD} {rt : Str} {sh es2 : List Ed} {rs : List Addr} {Q : Hp → Prop} {E : XK} {x dx : Addr} (nx : H x = none) (ndx : H dx = none) (ne : dx ≠ x) (nc : NCls K C C fG) (ok : NetOk vs es rt) (two : 2 ≤ vs.length) (few : vs.length ≤ 40) (pv : vs0.Perm vs) (psh : sh.Perm (edS es)) (fl : Flips sh es2)
    (hva : SqX b1 K H va (vs0.map V.str)) (hea : SqX b2 K H ea (rs.map V.ref)) (he : EdsAt K H rs es2) (hT : Tabs T H)
    (k : ∀ t H', Ext H H' → Tabs T H' → House H' x C vs es t → t ∈ vs → (∀ j ∈ vs, ¬ ltS j t) → Q H') :
    spNet K T C fG (.ref x :: ([V.ref va, .ref ea] ++ [])) (upd (upd H dx (.own x)) x (.ins C dx [])) (fun v H2 => v = .non ∧ Q H2) E := by
  have s1 : Same H (upd H dx (.own x)) := same_upd ndx
  have nx1 : upd H dx (.own x) x = none := by rw [upd_ne (Ne.symm ne)]; exact nx
  have s2 := s1.trans (same_upd (o := .ins C dx []) nx1)
  refine ⟨x, C, dx, va, ea, b1, b2, vs0, es2, rs, rfl, upd_same, nc, hva.same s2, hea.same s2, he.same s2, built_valid ok two few pv psh fl, hT.ext s2, fun p Ws bd nb wt t n ms me en H' eB T' hx' _ _ rz pw aw ro an ht hmin _ => ⟨rfl, ?_⟩⟩
  have e1 := built_verts ok pv pw aw
  subst e1
  have e2 := built_edges ok pv psh fl pw aw ro an
  have val := built_valid ok two few pv psh fl
  have sy := val.sym ro pw
  refine k t H' (fun b o hb no => eB b o (s2 b o hb) (ne_of_none hb nx) no) T' ⟨dx, p, _, bd, nb, wt, hx', rfl, rfl, rz, fun u hu => ?_, e2⟩ (pv.mem_iff.mp ht) fun j hj => hmin j (pv.mem_iff.mpr hj)
  have : (nb u).length ≤ Ws.length := (sy.nd u hu).length_le_of_subset fun y hy => (sy.mem u hu y hy).1
  omega
theorem House.gat {C fG : Addr} {H : Hp} {x : Addr} {vs : List Str} {es : EdD} {t : Str} (h : House H x C vs es t) (nc : NCls K C C fG) : ∃ (dx p : Addr) (fs : List (Str × V)) (ad : Str → Addr) (nb : Nb) (wt : Wt), GAt K H x C dx fs p t ∧ RowsZ H p vs ad nb wt ∧ (∀ u ∈ vs, (nb u).length ≤ 1000) ∧ edL vs nb wt = edS es := by
  obtain ⟨dx, p, fs, ad, nb, wt, h1, h2, h3, h4, h5⟩ := h.ex
  exact ⟨dx, p, fs, ad, nb, wt, ⟨h1, nc.g.cls, nc.g.na, nc.g.nt, h2, h3⟩, h4, h5⟩
end
end Wk
namespace Wk
open PySem PySem.Spec PyProof.Rows L2 WkD WkN LamX WkP WkE
/-- rows of a graph -/
structure GOk (Vs : List Str) (nb : Nb) (wt : Wt) : Prop where
  nm : ∀ u ∈ Vs, nameB u = true
  nd : Vs.Nodup
  two : 2 ≤ Vs.length
  few : Vs.length ≤ 40
  sym : Sym Vs nb wt
  wts : ∀ u ∈ Vs, ∀ v ∈ nb u, 1 ≤ wt u v ∧ wt u v ≤ 1000000000
  con : ∀ s ∈ Vs, ∀ u ∈ Vs, Rch nb s u
theorem Rch.mono {nb nb' : Nb} {s u : Str} {Vs : List Str} (hs : s ∈ Vs) (cl : ∀ u ∈ Vs, ∀ v ∈ nb u, v ∈ Vs) (k : ∀ u ∈ Vs, ∀ v ∈ nb u, v ∈ nb' u) (h : Rch nb s u) : u ∈ Vs ∧ Rch nb' s u := by
  induction h with
  | here => exact ⟨hs, .here⟩
  | go _ e ih => exact ⟨cl _ ih.1 _ e, .go ih.2 (k _ ih.1 _ e)⟩
theorem edL_adj {Vs : List Str} {nb : Nb} {wt : Wt} (sy : Sym Vs nb wt) {u v : Str} {n : Int} (hu : u ∈ Vs) : Adj (edL Vs nb wt) u v n ↔ v ∈ nb u ∧ n = wt u v := by
  unfold Adj
  rw [edL_mem, edL_mem]
  constructor
  · rintro (⟨_, h2, _, h4⟩ | ⟨h1, h2, _, h4⟩)
    · exact ⟨h2, h4⟩
    · obtain ⟨_, _, g3, g4⟩ := sy.mem v h1 u h2
      exact ⟨g3, by rw [g4, h4]⟩
  · rintro ⟨h1, h2⟩
    obtain ⟨g1, g2, g3, g4⟩ := sy.mem u hu v h1
    rcases ltS_tri u v with h | h | h
    · exact .inl ⟨hu, h1, h, h2⟩
    · exact absurd h.symm g2
    · exact .inr ⟨g1, g3, h, by rw [g4]; exact h2⟩
theorem edL_nodup {Vs : List Str} {nb : Nb} {wt : Wt} (nd : Vs.Nodup) (sy : Sym Vs nb wt) : ((edL Vs nb wt).map prOf).Nodup := by
  unfold edL
  have key : ∀ l : List Str, l.Nodup → (∀ u ∈ l, (nb u).Nodup) → ((l.flatMap fun u => edR nb wt u (nb u)).map prOf).Nodup := fun l => by
    induction l with
    | nil =>
      intro _ _
      exact List.nodup_nil
    | cons u r ih =>
      intro h1 h2
      rw [List.nodup_cons] at h1
      rw [List.flatMap_cons, List.map_append, List.nodup_append]
      refine ⟨?_, ih h1.2 fun v hv => h2 v (List.mem_cons_of_mem _ hv), fun a ha b hb e => ?_⟩
      · unfold edR
        rw [List.map_map, List.nodup_iff_pairwise_ne, List.pairwise_map]
        have := (h2 u List.mem_cons_self).filter fun v => decide (ltS u v)
        exact this.imp fun {a b} q e => q (congrArg Prod.snd e)
      · obtain ⟨x, hx, rfl⟩ := List.mem_map.mp ha
        obtain ⟨y, hy, rfl⟩ := List.mem_map.mp hb
        unfold edR at hx
        obtain ⟨x', _, rfl⟩ := List.mem_map.mp hx
        obtain ⟨z, hz, hy⟩ := List.mem_flatMap.mp hy
        unfold edR at hy
        obtain ⟨y', _, rfl⟩ := List.mem_map.mp hy
        have e : u = z := congrArg Prod.fst e
        exact h1.1 (e ▸ hz)
  exact key Vs nd sy.nd
theorem GOk.valid {Vs : List Str} {nb : Nb} {wt : Wt} (g : GOk Vs nb wt) : Valid Vs (edL Vs nb wt) := by
  have snd := edL_nodup (wt := wt) g.nd g.sym
  refine ⟨g.nm, g.nd, g.two, g.few, fun i a b n h => ?_, fun nb' wt' ro s hs u hu => ?_⟩
  · have hm := List.mem_of_getElem? h
    obtain ⟨h1, h2, h3, rfl⟩ := edL_mem.mp hm
    obtain ⟨g1, g2, _, _⟩ := g.sym.mem a h1 b h2
    obtain ⟨w1, w2⟩ := g.wts a h1 b h2
    refine ⟨h1, g1, Ne.symm g2, w1, w2, fun m ha => ?_⟩
    have tkk : ∀ x y, (x, y, m) ∈ (edL Vs nb wt).take i → ∃ j, j < i ∧ (edL Vs nb wt)[j]? = some (x, y, m) := fun x y hxy => by
      obtain ⟨j, hj⟩ := List.getElem?_of_mem hxy
      rw [List.getElem?_take] at hj
      split at hj
      · exact ⟨j, by assumption, hj⟩
      · cases hj
    rcases ha with ha | ha
    · obtain ⟨j, hj, hx⟩ := tkk _ _ ha
      have hi1 := (List.getElem?_eq_some_iff.mp h).1
      have hj1 := (List.getElem?_eq_some_iff.mp hx).1
      have q1 : ((edL Vs nb wt).map prOf)[i]'(by rw [List.length_map]; exact hi1) = (a, b) := by
        rw [List.getElem_map, (List.getElem?_eq_some_iff.mp h).2]
      have q2 : ((edL Vs nb wt).map prOf)[j]'(by rw [List.length_map]; exact hj1) = (a, b) := by
        rw [List.getElem_map, (List.getElem?_eq_some_iff.mp hx).2]
      have := (List.getElem_inj snd).mp (q1.trans q2.symm)
      omega
    · obtain ⟨j, hj, hx⟩ := tkk _ _ ha
      obtain ⟨_, _, k3, _⟩ := edL_mem.mp (List.mem_of_getElem? hx)
      exact ltS_asymm h3 k3
  · have cl : ∀ u ∈ Vs, ∀ v ∈ nb u, v ∈ Vs := fun u hu v hv => (g.sym.mem u hu v hv).1
    exact (Rch.mono (nb' := nb') hs cl (fun u hu v hv => (ro.mem u hu v).mpr ⟨_, (edL_adj g.sym hu).mpr ⟨hv, rfl⟩⟩) (g.con s hs u hu)).2
/-- rows that say the same -/
structure SameG (Vs : List Str) (nb : Nb) (wt : Wt) (nb' : Nb) (wt' : Wt) : Prop where
  mem : ∀ u ∈ Vs, ∀ v, v ∈ nb' u ↔ v ∈ nb u
  val : ∀ u ∈ Vs, ∀ v ∈ nb u, wt' u v = wt u v
theorem SameG.of_rows {Vs : List Str} {nb nb' : Nb} {wt wt' : Wt} (sy : Sym Vs nb wt) (ro : RowsOf Vs (edL Vs nb wt) nb' wt') : SameG Vs nb wt nb' wt' := by
  refine ⟨fun u hu v => ?_, fun u hu v hv => ?_⟩
  · rw [ro.mem u hu v]
    constructor
    · rintro ⟨n, hn⟩
      exact ((edL_adj sy hu).mp hn).1
    · intro hv
      exact ⟨_, (edL_adj sy hu).mpr ⟨hv, rfl⟩⟩
  · exact ro.val u hu v _ ((edL_adj sy hu).mpr ⟨hv, rfl⟩)
theorem SameG.gok {Vs Ws : List Str} {nb nb' : Nb} {wt wt' : Wt} (h : SameG Vs nb wt nb' wt') (g : GOk Vs nb wt) (pm : Ws.Perm Vs) (nd : ∀ u ∈ Ws, (nb' u).Nodup) : GOk Ws nb' wt' := by
  have ln := pm.length_eq
  have cl : ∀ u ∈ Vs, ∀ v ∈ nb u, v ∈ Vs := fun u hu v hv => (g.sym.mem u hu v hv).1
  refine ⟨fun u hu => g.nm u (pm.mem_iff.mp hu), pm.nodup_iff.mpr g.nd, by rw [ln]; exact g.two, by rw [ln]; exact g.few, ⟨nd, fun u hu v hv => ?_⟩, fun u hu v hv => ?_, fun s hs u hu => ?_⟩
  · have hu := pm.mem_iff.mp hu
    have hv := (h.mem u hu v).mp hv
    obtain ⟨g1, g2, g3, g4⟩ := g.sym.mem u hu v hv
    exact ⟨pm.mem_iff.mpr g1, g2, (h.mem v g1 u).mpr g3, by rw [h.val v g1 u g3, h.val u hu v hv, g4]⟩
  · have hu := pm.mem_iff.mp hu
    have hv := (h.mem u hu v).mp hv
    rw [h.val u hu v hv]
    exact g.wts u hu v hv
  · have hs := pm.mem_iff.mp hs
    have hu := pm.mem_iff.mp hu
    exact (Rch.mono (nb' := nb') hs cl (fun u hu v hv => (h.mem u hu v).mpr hv) (g.con s hs u hu)).2
/-- edges are told by the rows -/
theorem SameG.edges {Vs Ws : List Str} {nb nb' : Nb} {wt wt' : Wt} (h : SameG Vs nb wt nb' wt') (pm : Ws.Perm Vs) (e : Ed) : e ∈ edL Ws nb' wt' ↔ e ∈ edL Vs nb wt := by
  obtain ⟨u, v, n⟩ := e
  rw [edL_mem, edL_mem]
  constructor
  · rintro ⟨h1, h2, h3, rfl⟩
    have h1 := pm.mem_iff.mp h1
    have h2 := (h.mem u h1 v).mp h2
    exact ⟨h1, h2, h3, h.val u h1 v h2⟩
  · rintro ⟨h1, h2, h3, rfl⟩
    exact ⟨pm.mem_iff.mpr h1, (h.mem u h1 v).mpr h2, h3, (h.val u h1 v h2).symm⟩
end Wk
namespace WkK
open PySem PySem.Spec PyProof.Rows L2
/-! ### o.f as a target -/
def gAt (K : PySem.W.Frag) (te : TE) (f : Str) : TG := fun v σ H Q => te σ H fun x H1 => ∃ a C dx fs, x = .ref a ∧ H1 a = some (.ins C dx fs) ∧ Cls K C ∧ NoAttr K C f ∧ fs.length < 1000 ∧ Q σ (upd H1 a (.ins C dx (putF f v fs)))
theorem pg_at {X : Cx} {o : Expr} {f : Str} {pos : Pos} {to : TE} (ho : PE X o to) : PG X (.Attribute o f pos) (gAt X.K to f) := by
  refine ⟨fun pins s σ H v u Q I r h => ?_⟩
  show wpAny _ _ (do let ov ← holding [u] (eval o X.env); standAt pos.atName; holding [u, ov] (setAttr ov f u); release [u, ov] []) _ _ _
  refine wpAny_bind (wpAny_holding (thn (ho.run pins s σ H _ I h) fun ov s1 ⟨x, H1, I1, r1, a, C, dx, fs, ex, ea, c, n, l, q⟩ => ?_))
  subst ex
  obtain rfl : ov = Value.ref a := r1
  refine wpAny_bind (wpAny_standAt (wpAny_bind (wpAny_holding ?_)))
  exact setattr_ok I1 ea c n l r fun s2 I2 => wpAny_release ⟨σ, _, I2, q⟩
/-! ### raise x(e) -/
section
variable {X : Cx} {x f : Str} {C fI : Addr}
def tMkX (C : Addr) (f : Str) (ta : TA) : L2.St → Hp → XK → Prop := fun σ H Q => ta σ H fun vs H1 => ∃ v, vs = [v] ∧ ∀ d, H1 d = none → Q (.ref C) (some d) (upd H1 d (.xd [(f, v)]))
theorem pmk_E {a : Expr} {ta : TA} {p pos : Pos} {k : Nat} (T : WkX.ExcT X.K X.mg x f C fI) (hr : Room k X.A) (ha : PA X [a] ta) (hg : Gl X x := by rfl) (hdb : (x == ("__debug__" : Str)) = false := by decide)
    (he : starEach (a :: []) X.env = (false, eval a X.env) :: starEach [] X.env := by rfl) (hpl : (backTo pos (starEach [] X.env)).any (·.1) = false := by rfl) :
    PMk X (.Call (.Name x p) [a] [] pos) (tMkX C f ta) := by
  intro pins s σ H Q I h
  refine wpAny_Call_Name_kw (ld_glob I hg T.gC ?_ hdb)
  refine PySem.W.callWith_K (h₀ := X.base) I.ok.mod.kin T.kC (thn (ha.run pos pins s σ H _ I h) fun us s1 hh => ?_) he hpl
  obtain ⟨vs, H1, I1, r1, v, ev, q1⟩ := hh
  subst ev
  refine ⟨I1.kIn, ?_⟩
  cases r1 with
  | cons rv rn =>
    rename_i v' us'
    cases rn
    show wpAny _ _ (call (.ref C) [v']) _ _ _
    have hlim := I1.nolimit
    obtain ⟨hp, g, dr, tk, os⟩ := s1
    refine wpAny_call (WkX.made_ (v := v') T (.inl rfl) I1.kIn hlim (by have := hr.dp; omega) fun h' tk' e d M => ?_)
    show MkP X pins σ Q (.ref e) ⟨h', g, dr, tk', os⟩
    obtain ⟨t1, hoe⟩ := M.obj
    have hns := M.ns
    obtain ⟨G, g1, g2⟩ := restrict h' fun b => decide (b ≠ e)
    have gk : ∀ b, b ≠ e → G.get? b = h'.get? b := fun b hb => g1 b (decide_eq_true hb)
    have ge : G.get? e = none := g2 e (by simp)
    have old : ∀ b o, hp.get? b = some o → G.get? b = some o := fun b o q => (gk b (Nat.ne_of_lt (Nat.lt_of_lt_of_le (Heap.lt_size q) M.new))).trans (M.keep b o q)
    have ob : ObjOk X.prog X.w (upd H1 d (.xd [(f, v)])) G d (.xd [(f, v)]) := ⟨_, hns.at (fun o q => (gk d M.dne).trans q), fun g => WkX.relO_one rv g⟩
    have J : Inv X pins σ (upd H1 d (.xd [(f, v)])) ⟨G, g, dr, tk', os⟩ := I1.laid (t' := tk') old M.dbig ob
    refine ⟨e, _, _, ⟨G, g, dr, tk', os⟩, _, .ref C, some d, rfl, J, fun b o q => ?_, ge, hoe, ⟨rfl, rfl⟩, rfl, rfl, ?_, rfl, I1.bare, raises_own T.exC T.tyC, q1 d (I1.hok.fresh M.dbig)⟩
    · by_cases hb : b = e
      · have q' : G.get? b = some o := q
        rw [hb, ge] at q'
        cases q'
      · exact (gk b hb).symm.trans q
    · rw [upd_ne (Ne.symm M.dne)]
      exact I1.hok.fresh M.new
def tRaiseE (C : Addr) (f : Str) (W : WX) (ta : TA) : TS := fun _ σ H => tMkX C f ta σ H fun cls d H' => W cls d σ H'
theorem ps_raiseE {a : Expr} {ta : TA} {W : WX} {p pos pos2 : Pos} {k : Nat} (hc : X.calm = true) (T : WkX.ExcT X.K X.mg x f C fI) (hr : Room k X.A) (tk : Takes X W) (ha : PA X [a] ta) (hg : Gl X x := by rfl) (hdb : (x == ("__debug__" : Str)) = false := by decide)
    (he : starEach (a :: []) X.env = (false, eval a X.env) :: starEach [] X.env := by rfl) (hpl : (backTo pos (starEach [] X.env)).any (·.1) = false := by rfl) :
    PS X (.Raise (some (.Call (.Name x p) [a] [] pos)) none pos2) (tRaiseE C f W ta) := ps_raise hc tk (pmk_E T hr ha hg hdb he hpl)
end
/-! ### del a[i], b[j] -/
def sDDel2 (td ty td2 ty2 : TE) : TS := fun D σ H => td σ H fun x H1 => ty σ H1 fun y H2 => ∃ a kvs k, x = .ref a ∧ H2 a = some (.dK kvs) ∧ y = kV k ∧ (valV kvs k).isSome = true ∧
  td2 σ (upd H2 a (.dK (dropK kvs k))) fun x H1 => ty2 σ H1 fun y H2 => ∃ a kvs k, x = .ref a ∧ H2 a = some (.dK kvs) ∧ y = kV k ∧ (valV kvs k).isSome = true ∧ D.nx σ (upd H2 a (.dK (dropK kvs k)))
theorem ps_ddel2 {X : Cx} {o i o2 i2 : Expr} {pos tpos tpos2 : Pos} {td ty td2 ty2 : TE} (ho : PE X o td) (hi : PE X i ty) (ho2 : PE X o2 td2) (hi2 : PE X i2 ty2) : PS X (.Delete [.Subscript o i tpos, .Subscript o2 i2 tpos2] pos) (sDDel2 td ty td2 ty2) := by
  refine ⟨fun pins s σ H D I h => ?_⟩
  refine wpAny_Delete (wpAny_deleteEach_cons (wpAny_delete_Subscript (thn (ho.run pins s σ H _ I h) fun u s1 ⟨x, H1, I1, rx, q1⟩ => thn (hi.run pins s1 σ H1 _ I1 q1) fun iv s2 ⟨y, H2, I2, ry, a, kvs, k, ex, e, ey, l, q2⟩ => ?_)))
  subst ex ey
  obtain rfl : u = Value.ref a := rx
  refine d_delItem I2 e ry l fun s3 I3 => ?_
  refine wpAny_deleteEach_cons (wpAny_delete_Subscript (thn (ho2.run pins s3 σ _ _ I3 q2) fun u s4 ⟨x, H4, I4, rx, q4⟩ => thn (hi2.run pins s4 σ H4 _ I4 q4) fun iv s5 ⟨y, H5, I5, ry, a, kvs, k, ex, e, ey, l, q5⟩ => ?_))
  subst ex ey
  obtain rfl : u = Value.ref a := rx
  exact d_delItem I5 e ry l fun s6 I6 => wpAny_deleteEach_nil ⟨σ, _, I6, q5⟩
/-- nothing is let out -/
theorem passF {X : Cx} : Passes (CX X.prog X.w) X (fun _ _ _ => False) := fun _ _ _ _ _ _ _ c => by
  obtain ⟨a, B, H', cls, d, _, _, _, _, _, _, _, z⟩ := c
  exact z.elim
/-! ### an exception that is kept -/
def exq (a : Addr) (cls : Value) (d : Option Addr) : HO := .ext fun h => ∃ (oe : Obj) (vs : Array Value), h.get? a = some oe ∧ Zc cls d oe ∧ oe.data = .fields vs
theorem exq_ok {P : Program} {w : World} {H : Hp} {h : Heap} {a : Addr} {cls : Value} {d : Option Addr} {oe : Obj} {vs : Array Value} (e : h.get? a = some oe) (z : Zc cls d oe) (hd : oe.data = .fields vs) : ObjOk P w H h a (exq a cls d) :=
  ⟨⟨oe, vs, e, z, hd⟩, ⟨_, e⟩, fun h1 h2 q k => by
    obtain ⟨o, v, q1, q2, q3⟩ := q
    exact ⟨o, v, k _ q1, q2, q3⟩⟩
theorem exq_at {P : Program} {w : World} {H : Hp} {h : Heap} {a : Addr} {cls : Value} {d : Option Addr} (hok : HOk P w H h) (he : H a = some (exq a cls d)) : ∃ (oe : Obj) (vs : Array Value), h.get? a = some oe ∧ Zc cls d oe ∧ oe.data = .fields vs :=
  have x : ObjOk P w H h a (.ext fun h => ∃ (oe : Obj) (vs : Array Value), h.get? a = some oe ∧ Zc cls d oe ∧ oe.data = .fields vs) := hok a _ he
  x.1
section
variable {X : Cx} {pins : List (Addr × Obj)} {σ : L2.St} {H : Hp} {s : Shared}
/-- an object that was made since the entry is told from now on -/
theorem adopt {a : Addr} {o : HO} (I : Inv X pins σ H s) (n0 : X.s_0.heap.get? a = none) (ha : H a = none) (nl : a ≠ X.env.locals) (nc : ∀ x c, X.env.cells.lookup x = some c → c ≠ a) (np : ∀ p ∈ X.pn ++ pins, p.1 ≠ a) (ok : ObjOk X.prog X.w (upd H a o) s.heap a o) : Inv X pins σ (upd H a o) s := by
  refine ⟨I.ok, I.os, I.bare, ⟨I.base.keep, I.base.slot, fun b u e n hx => ?_, I.base.there, fun b xs e => ?_, fun b u v e => ?_, fun b ps e => ?_⟩, I.loc, I.cell, ?_, fun x c e => ?_, fun p hp => ?_, fun b u e => ?_, I.len⟩
  · rw [upd_ne (fun z => by rw [z, n0] at e; cases e)]
    exact I.base.free b u e n hx
  · have q := I.base.tups b xs e
    rw [upd_ne (ne_of_none q ha)]
    exact q
  · have q := I.base.frzs b u v e
    rw [upd_ne (ne_of_none q ha)]
    exact q
  · obtain ⟨m, q⟩ := I.base.tbls b ps e
    exact ⟨m, by rw [upd_ne (ne_of_none q ha)]; exact q⟩
  · rw [upd_ne (Ne.symm nl)]
    exact I.free
  · rw [upd_ne (nc x c e)]
    exact I.freeC x c e
  · obtain ⟨e, n, ne, nf, d⟩ := I.pin p hp
    exact ⟨e, by rw [upd_ne (np p hp)]; exact n, ne, nf, d⟩
  · by_cases hb : b = a
    · subst hb
      rw [upd_same] at e
      cases e
      exact ok
    · rw [upd_ne hb] at e
      exact (I.hok b u e).stay (fun c v _ q => q) (fun c q => by rw [upd_ne (ne_of_none q ha)]; exact q) fun c xs q => by rw [upd_ne (ne_of_none q ha)]; exact q
end
def wKeep (K : PySem.W.Frag) (c : Value) (i : Nat) (ts : Addr → Value → Option Addr → TS) (Wout : WX) (D : Ends) : WX := fun cls d σ H =>
  ∃ b, PySem.W.exmOne K cls c = some b ∧ (b = true → ∀ a, H a = none → ts a cls d { nx := fun σ' H' => H' a = none → D.nx (σ'.set i none) (upd H' a (exq a cls d)), rt := D.rt, bk := fun σ' H' => D.bk (σ'.set i none) H', ct := fun σ' H' => D.ct (σ'.set i none) H' } (σ.set i (some (.ref a))) H) ∧
    (b = false → Wout cls d σ H)
section
variable {X : Cx} {x n : Str} {c : Value} {i : Nat} {body suite : List Stmt} {b₀ : Stmt} {np pos pos' : Pos} {tb : WX → TS} {ts : Addr → Value → Option Addr → TS} {Wout : WX}
theorem ps_try_keep (hs : X.stack = X.env :: X.outer) (hf : X.env.frame = some X.env.locals) (hex : X.ex = []) (hN : X.N.Nodup) (hi : X.N[i]? = some n) (hln : X.env.kindOf n = some .local) (hc : Names X x c) (tk : Takes X Wout)
    (hb : ∀ (W : WX) (pn : List (Addr × Obj)) (xe : Value → Shared → Prop), Takes (X.tr pn xe) W → PassesOwn (model X.prog X.w) X.A X.env xe → PSs (X.tr pn xe) body (tb W))
    (hsu : ∀ (a : Addr) (oe : Obj) (cls : Value) (d : Option Addr) (pn : List (Addr × Obj)), Zc cls d oe → (∃ vs, oe.data = .fields vs) → PSs (X.suite a ((a, oe) :: pn)) (b₀ :: suite) (ts a cls d)) :
    PS X (.Try body [.ExceptHandler (some (.Name x np)) (some n) (b₀ :: suite) pos'] [] [] pos) (fun D σ H => tb (wKeep X.K c i ts Wout D) D σ H) := by
  refine ⟨fun pins s σ H D I h => ?_⟩
  have okc := I.ok
  have hfr0 : X.A.frames = some (X.env :: X.outer) := by rw [okc.frames, hs]
  have hlo : Loc X.env.scope n := .inl hln
  refine wpAny_Try_except ?_
  refine wpAny_mono ((hb (wKeep X.K c i ts Wout D) (X.pn ++ pins) (fun e s₁ => wpAny (model X.prog X.w) X.A (noteFrame e X.env) (fun _ s₂ => wpAny (model X.prog X.w) X.A (setFlight e none) (fun _ s₃ =>
    wpAny (model X.prog X.w) X.A (handleBy e X.env [.ExceptHandler (some (.Name x np)) (some n) (b₀ :: suite) pos']) (SP X pins D) X.xe s₃) X.xe s₂) X.xe s₁) (fun u s' xq => ?_) PassesOwn.looking).run [] s σ H D (I.toTry _) h) (fun f s1 hpp => ?_) (fun e s1 he => he)
  · -- the catch
    obtain ⟨a, B, sI, pins', σ', H', cls, d, rfl, J', nb, up, sky, na, os, ag, b, hb1, hyes, hno⟩ := xq
    have J0 : Inv X pins σ' H' sI := J'.ofTry okc
    have skyl : Sky B (X.env :: X.outer) a (Zc cls d) X.env.locals s'.heap := by rw [← hs]; exact sky
    show wpAny (model X.prog X.w) X.A (noteFrame (.ref a) X.env) _ _ _
    refine Sky.land Zc.steady hfr0 hf skyl fun hl fll upl => ?_
    have Jl : Inv X pins σ' H' { s' with heap := hl } := J0.landed nb fll.1 (up.trans upl) os ag
    obtain ⟨ol, vl, hel, hzl, hdl⟩ := fll.there
    have nofr : ∀ {h : Heap} {o : Obj} {vs : Array Value}, h.FunFrames B (X.env :: X.outer) → h.get? a = some o → o.data = .fields vs → a ∉ frs (X.env :: X.outer) := fun {h o vs} ff e dd hm => by
      obtain ⟨_, o', e', hnf⟩ := ff.mem hm
      rw [e] at e'; cases e'
      exact hnf _ dd
    have nfa := nofr fll.2.2.1 hel hdl
    have nLo : a ≠ X.env.locals := fun z => nfa (List.mem_filterMap.mpr ⟨X.env, List.mem_cons_self, by rw [hf, z]⟩)
    have nFs : a ∉ X.fs := fun hm => by
      obtain ⟨e, he, q⟩ := List.mem_filterMap.mp hm
      exact nfa (List.mem_filterMap.mpr ⟨e, List.mem_cons_of_mem _ he, q⟩)
    have Sl := Jl.suite hel hdl na nLo nFs
    refine wpAny_handleBy_cons (codeAny_handlers_test ?_) (by intro q; cases q)
    have Lty : PySem.W.Looks (model X.prog X.w) hl (typeOf (.ref a)) cls := fun A Q E s k q => wpAny_typeOf_ref (k _ _ hel) (by rw [hzl.1]; exact q)
    have Lex := PySem.W.exm_one (M := model X.prog X.w) (Jl.kIn) Lty hb1
    have tst : ∀ {Q : Value → Shared → Prop} {E : Value → Shared → Prop}, Q c { s' with heap := hl } → wpAny (model X.prog X.w) (X.A.mark (some (.ref a))) (eval (.Name x np) X.env) Q E { s' with heap := hl } := fun {Q E} q => by
      obtain ⟨hg, hdbg, hm | ⟨hm, hv, hnn⟩⟩ := hc
      · exact ld_glob (X := X.suite a ((a, ol) :: (X.pn ++ pins))) Sl hg hm q hdbg
      · exact ld_blt (X := X.suite a ((a, ol) :: (X.pn ++ pins))) Sl hg hm hv q hnn hdbg
    refine tst (Lex.here ?_)
    cases b with
    | true =>
      refine codeAny_handlers_suite_as ?_
      refine HandSPX.lands_againZ fll fun hm flm upm => ?_
      have Jm : Inv X pins σ' H' { s' with heap := hm } := J0.landed nb flm.1 ((up.trans upl).trans upm) os ag
      obtain ⟨om, vm, hem, hzm, hdm⟩ := flm.there
      have Sm_ := Jm.suite hem hdm na nLo nFs
      refine store_ok (X := X.suite a ((a, om) :: (X.pn ++ pins))) (v := .ref a) Sm_ hN hi hlo rfl (fun sv Sv => ?_) (.inr hln)
      refine wpAny_mono ((hsu a om cls d (X.pn ++ pins) hzm ⟨_, hdm⟩).run [] sv _ H' _ Sv (hyes rfl a na)) (fun f sw hpp => ?_) (fun _ _ z => False.elim z)
      have fin_ : ∀ {σw : L2.St} {Hw : Hp} {Q : Shared → Prop}, Inv (X.suite a ((a, om) :: (X.pn ++ pins))) [] σw Hw sw → (∀ sz, Inv X pins (σw.set i none) Hw sz → Q sz) →
          wpAny (model X.prog X.w) X.A (do bindName X.env n .none; unbindBehindTheSuite X.env n pos') (fun _ sz => Q sz) X.xe sw := fun {σw Hw Q} Sw hq => gone_ok (Sw.unsuite okc) hN hi hln hq
      cases f with
      | next =>
        obtain ⟨σw, Hw, Sw, qw⟩ := hpp
        have nI : sI.heap.get? a = none := by
          cases e : sI.heap.get? a with
          | none => rfl
          | some o =>
            have z := nb a o e (by rw [hs]; exact nfa)
            rw [fll.2.1] at z
            cases z
        have n0 : X.s_0.heap.get? a = none := by
          cases e : X.s_0.heap.get? a with
          | none => rfl
          | some o =>
            obtain ⟨o', z⟩ := J0.base.there a o e (by rw [hex]; exact fun z => nomatch z)
            rw [nI] at z
            cases z
        have npi : ∀ p ∈ X.pn ++ pins, p.1 ≠ a := fun p hp z => by
          have q := (J0.pin p hp).1
          rw [z, nI] at q
          cases q
        have Kw : Inv X ((a, om) :: pins) σw Hw sw := ⟨okc, Sw.os, Sw.bare, Sw.base, Sw.loc, Sw.cell, Sw.free, Sw.freeC, fun p hp => Sw.pin p (List.mem_append_left _ (by
          rcases List.mem_append.mp hp with h | h
          · exact List.mem_cons_of_mem _ (List.mem_append_left _ h)
          · rcases List.mem_cons.mp h with h | h
            · rw [h]
              exact List.mem_cons_self
            · exact List.mem_cons_of_mem _ (List.mem_append_right _ h))), Sw.hok, Sw.len⟩
        refine gone_ok Kw hN hi hln fun sz Jz => ?_
        obtain ⟨z1, z2, z3, z4, z5⟩ := Jz.pin (a, om) (List.mem_append_right _ List.mem_cons_self)
        have Jy : Inv X pins (σw.set i none) Hw sz := Jz.pins_of fun p hp => Jz.pin p (List.mem_append_right _ (List.mem_cons_of_mem _ hp))
        refine ⟨_, _, adopt Jy n0 z2 z3 (fun y cc ey ez => ?_) npi (exq_ok z1 hzm hdm), qw z2⟩
        obtain ⟨v, oc, ho, hd⟩ := Jy.cell y cc ey
        rw [ez, z1] at ho
        cases ho
        exact z5 v hd
      | brk =>
        obtain ⟨σw, Hw, Sw, qw⟩ := hpp
        exact fin_ Sw fun sz Jz => ⟨_, _, Jz, qw⟩
      | cont =>
        obtain ⟨σw, Hw, Sw, qw⟩ := hpp
        exact fin_ Sw fun sz Jz => ⟨_, _, Jz, qw⟩
      | ret u =>
        obtain ⟨vw, σw, Hw, Sw, rw_, qw⟩ := hpp
        exact fin_ Sw fun sz Jz => ⟨_, _, _, Jz, rw_, qw⟩
    | false =>
      show wpAny _ X.A (handleBy (.ref a) X.env []) _ _ _
      refine wpAny_handleBy_nil ?_
      obtain ⟨k1, k2, k3, oe, vs, T, oT, ts', he, hz, hd, h1, hr⟩ := id fll
      unfold PySem.passOn
      refine wpAny_bind (wpAny_field he hd h1 ?_)
      rw [if_neg (show ¬ ((Value.ref T == Value.none) = true) from by simp)]
      have fini : wpAny (model X.prog X.w) X.A (setFlight (.ref a) X.env.frame) (fun _ s4 => wpAny (model X.prog X.w) X.A (throw (.ref a) : Sem Flow) (SP X pins D) X.xe s4) X.xe { s' with heap := hl } := by
        rw [hf]
        refine HandSPX.setFlight_upZ fll fun hm hh4 upm => wpAny_throw (tk _ _ ?_)
        exact ⟨a, B, sI, pins, σ', H', cls, d, rfl, J0, nb, (up.trans upl).trans upm, .inr (.inr (by rw [hs]; exact hh4)), na, os, ag, hno rfl⟩
      first
        | exact wpAny_bind (wpAny_pure (wpAny_bind fini))
        | exact wpAny_bind fini
  · cases f with
    | next =>
      obtain ⟨σ', H', J', q⟩ := hpp
      exact wpAny_execs_nil ⟨σ', H', J'.ofTry okc, q⟩
    | brk =>
      obtain ⟨σ', H', J', q⟩ := hpp
      exact ⟨σ', H', J'.ofTry okc, q⟩
    | cont =>
      obtain ⟨σ', H', J', q⟩ := hpp
      exact ⟨σ', H', J'.ofTry okc, q⟩
    | ret u =>
      obtain ⟨v, σ', H', J', r, q⟩ := hpp
      exact ⟨v, σ', H', J'.ofTry okc, r, q⟩
end
end WkK
namespace Wk
open PySem PySem.Spec PyProof.Rows L2 WkD WkN LamX WkP WkE WkC
section
variable {P : Program} {w : World} {K : PySem.W.Frag} {mg : Str → Option Value} {base : Heap}
/-! ### graph_of -/
/-- rows that are known, or our own -/
def RowsX (b : Bool) (H : Hp) (a : Addr) (Vs : List Str) (ad : Str → Addr) (nb : Nb) (wt : Wt) : Prop := match b with
  | true => RowsZ H a Vs ad nb wt
  | false => RowsM H a Vs ad nb wt
/-- the rows of our own are known from now on -/
theorem rows_fz {b : Bool} {H : Hp} {a : Addr} {Vs : List Str} {ad : Str → Addr} {nb : Nb} {wt : Wt} {Q : Hp → Prop} (R : RowsX b H a Vs ad nb wt) (k : ∀ H', RowsZ H' a Vs ad nb wt → (∀ c o, H c = some o → (b = false → c ≠ a ∧ ∀ u ∈ Vs, c ≠ ad u) → H' c = some o) → Q H') : ∃ l, tFz l Q H := by
  cases b with
  | true => exact ⟨[], k H R fun c o h _ => h⟩
  | false =>
    have R : RowsM H a Vs ad nb wt := R
    refine ⟨(a, .dK (dct Vs fun u => .ref (ad u))) :: Vs.map fun u => (ad u, .dK (dct (nb u) fun v => .int (wt u v))), tFz_intro (fun p hp => ?_) ?_ fun H' h1 h2 => k H' ⟨?_, fun u hu => ?_⟩ fun c o hc hn => ?_⟩
    · rcases List.mem_cons.mp hp with rfl | hp
      · exact ⟨R.top, trivial⟩
      · obtain ⟨u, hu, rfl⟩ := List.mem_map.mp hp
        exact ⟨R.row u hu, trivial⟩
    · rw [List.map_cons, List.map_map, List.nodup_cons]
      refine ⟨fun z => ?_, ?_⟩
      · obtain ⟨u, hu, e⟩ := List.mem_map.mp z
        exact R.ne hu e
      · have := R.nd
        rw [List.nodup_iff_pairwise_ne] at this ⊢
        rw [List.pairwise_map]
        exact List.Pairwise.imp_of_mem (fun {u v} hu hv hne e => hne (R.inj u hu v hv e)) this
    · exact h1 (a, _) List.mem_cons_self
    · exact h1 (ad u, _) (List.mem_cons_of_mem _ (List.mem_map.mpr ⟨u, hu, rfl⟩))
    · obtain ⟨n1, n2⟩ := hn rfl
      rw [h2 c fun z => ?_]
      · exact hc
      · rw [List.map_cons, List.map_map] at z
        rcases List.mem_cons.mp z with z | z
        · exact n1 z
        · obtain ⟨u, hu, e⟩ := List.mem_map.mp z
          exact n2 u hu e.symm
/-- a new graph at x: these rows in ascending order, the root the least -/
structure GraphAt (H : Hp) (x C : Addr) (Ws : List Str) (nb : Nb) (wt : Wt) : Prop where
  ex : ∃ (dx p : Addr) (t : Str) (ad : Str → Addr), H x = some (.ins C dx [("around", .ref p), ("top", .str t)]) ∧ RowsZ H p Ws ad nb wt
  asc : Asc Ws
  an : ∀ u ∈ Ws, Asc (nb u)
def spGraphOf (C : Addr) : Sp := fun vs H Q _ => ∃ (a : Addr) (b : Bool) (Vs : List Str) (ad : Str → Addr) (nb : Nb) (wt : Wt), vs = [.ref a] ∧ RowsX b H a Vs ad nb wt ∧ GOk Vs nb wt ∧
  ∀ x Ws nb' wt' H', (∀ c o, H c = some o → (b = false → c ≠ a ∧ ∀ u ∈ Vs, c ≠ ad u) → H' c = some o) → H x = none → GraphAt H' x C Ws nb' wt' → Ws.Perm Vs → SameG Vs nb wt nb' wt' → Q (.ref x) H'
theorem sc_graph_of : FnScope ["around", "edges", "u", "row", "v", "weight"] ["around"] (defScope s_graph_of) := ⟨rfl, rfl, rfl, by decide +kernel, rfl, by decide +kernel, by decide +kernel⟩
theorem c_graph_of {CG : Addr} (D : Def K mg "graph_of" s_graph_of) (B : Bi mg) (gc : GCls K CG) (GC : MakeC P w K mg base CX0 CG "Graph" 3 (spGraph K)) : Callee P w K mg base CX0 5 "graph_of" ["around"] (spGraphOf CG) := by
  obtain ⟨f, fd, F, g⟩ := D
  refine ⟨f, fd, F.ok sc_graph_of (fun vs H Q E h => ?_) (fun cdv A outer s H vs Q E hr h => ?_), g, F.kp, F.bindsN (fun _ _ _ _ _ _ us hl => match us, hl with | [_], _ => rfl)⟩
  · obtain ⟨a, b, Vs, ad, nb, wt, rfl, _⟩ := h
    rfl
  have nd := sc_graph_of.nd
  have hr4 : Room 4 _ := hr
  refine ⟨_, PSs.nox (pss_cons (WkD.ps_fz0 (ps_setLc2 (i := 1) (own := [("u", 2), ("row", 3), ("v", 4), ("weight", 5)]) (vs1 := [4, 5]) (by rfl) nd rfl rfl (sw_true rfl rfl rfl (by decide +kernel)) (pi_items (pv 0)) (blkOk_by (by kernel_rfl)) (by decide) (fun _ _ _ _ _ => (WkN.pgT K 2 rfl rfl (pgs_cons (pg_name (i := 2) nd rfl (Or.inl rfl)) (pgs_cons (pg_name (i := 3) nd rfl (Or.inl rfl)) pgs_nil)) rfl)) (fun _ _ _ _ _ => pts_nil) (fun _ _ _ _ _ => (pi_items (pv 3))) (fun _ _ _ _ _ => (WkN.pgT K 2 rfl rfl (pgs_cons (pg_name (i := 4) nd rfl (Or.inl rfl)) (pgs_cons (pg_name (i := 5) nd rfl (Or.inl rfl)) pgs_nil)) rfl)) (fun _ _ _ _ _ => (pts_one (pt_cmpR op_lt_str (pv 2) (pv 4) (nomark _)))) (fun _ _ _ _ _ => (pe_tup (pa_cons (pv 2) (pa_cons (pv 4) (pa_cons (pv 5) pa_nil)))))))
      (pss_one (ps_ret (WkC.pe_mk GC hr4 pass0 (pa_cons (pe_callTy (call_listD rfl) (by rfl) B.n_list (by decide +kernel) (pa_cons (pv 0) pa_nil)) (pa_cons (pv 1) pa_nil)))))), ?_⟩
  obtain ⟨a, b, Vs, ad, nb, wt, rfl, R0, go, k⟩ := h
  refine rows_fz R0 fun H0 R k0 => ?_
  obtain ⟨o, ht⟩ := R.top
  have big : 2000000 < sizeLine := by decide
  have l1 := go.few
  have l2 : ∀ u ∈ Vs, (nb u).length ≤ 1000 := fun u hu => by
    have : (nb u).length ≤ Vs.length := (go.sym.nd u hu).length_le_of_subset fun y hy => (go.sym.mem u hu y hy).1
    omega
  refine ⟨_, rfl, a, o, _, rfl, ht, fun D nD => ?_⟩
  refine in_it (walk_items (kvs := dct Vs fun u => .ref (ad u))) (fun i Hc => ∃ rs : List Addr, Same H0 Hc ∧ Hc D = some (.lst (rs.map V.ref)) ∧ EdsAt K Hc rs (edL (Vs.take i) nb wt) ∧ rs.length ≤ 1000 * i)
    ⟨[], same_upd nD, upd_same, ⟨rfl, fun i r e h => absurd h (by simp)⟩, by simp⟩ ?_ ?_ ?_
  · rintro i Hc hi ⟨rs, q1, q2, q3, q4⟩
    exact q1 _ _ ht
  · rintro i x Hc Hc' hi ⟨rs, q1, q2, q3, q4⟩ ⟨T, kx, vx, rfl, nT, rfl, hkx, hvx⟩
    rw [dct_len] at hi
    dsimp only at hkx hvx
    rw [dct_at, List.getElem?_eq_getElem hi] at hkx hvx
    cases hkx
    cases hvx
    obtain ⟨u, eu⟩ : ∃ u, u = Vs[i] := ⟨_, rfl⟩
    have hu : u ∈ Vs := eu ▸ List.getElem_mem hi
    have tk := takeS (List.getElem?_eq_getElem hi)
    rw [← eu] at tk
    have s1 : Same H0 (upd Hc T (.tup [.str u, .ref (ad u)])) := q1.trans (same_upd nT)
    have D1 := (same_upd (o := .tup [.str u, .ref (ad u)]) nT) _ _ q2
    have E1 := q3.same (same_upd (o := .tup [.str u, .ref (ad u)]) nT)
    have P1 : upd Hc T (.tup [.str u, .ref (ad u)]) T = some (.tup [.str u, .ref (ad u)]) := upd_same
    rw [← eu]
    show gTup _ _ _ _ _ (upd Hc T (.tup [.str u, .ref (ad u)])) _
    generalize upd Hc T (.tup [.str u, .ref (ad u)]) = H1 at s1 D1 E1 P1
    refine ⟨T, _, rfl, .inl (.inl P1), rfl, _, _, rfl, _, _, rfl, rfl, rfl, tYes_if ?_⟩
    obtain ⟨o2, hr2⟩ := R.row u hu
    refine ⟨_, rfl, ad u, o2, _, rfl, s1 _ _ hr2, ?_⟩
    have ln := l2 u hu
    refine in_it (walk_items (kvs := dct (nb u) fun v => .int (wt u v))) (fun j Hc => ∃ rs : List Addr, Same H0 Hc ∧ Hc D = some (.lst (rs.map V.ref)) ∧ EdsAt K Hc rs (edL (Vs.take i) nb wt ++ edR nb wt u ((nb u).take j)) ∧ rs.length ≤ 1000 * i + j)
      ⟨rs, s1, D1, by simpa [edR] using E1, by omega⟩ ?_ ?_ ?_
    · rintro j Hc hj ⟨rs, q1, q2, q3, q4⟩
      exact q1 _ _ hr2
    · rintro j x Hc Hc' hj ⟨rs, q1, q2, q3, q4⟩ ⟨T2, kx, vx, rfl, nT2, rfl, hkx, hvx⟩
      rw [dct_len] at hj
      dsimp only at hkx hvx
      rw [dct_at, List.getElem?_eq_getElem hj] at hkx hvx
      cases hkx
      cases hvx
      obtain ⟨v, ev⟩ : ∃ v, v = (nb u)[j] := ⟨_, rfl⟩
      have tk2 := takeS (List.getElem?_eq_getElem hj)
      rw [← ev] at tk2 ⊢
      have s1 : Same H0 (upd Hc T2 (.tup [.str v, .int (wt u v)])) := q1.trans (same_upd nT2)
      have D1 := (same_upd (o := .tup [.str v, .int (wt u v)]) nT2) _ _ q2
      have E1 := q3.same (same_upd (o := .tup [.str v, .int (wt u v)]) nT2)
      have P1 : upd Hc T2 (.tup [.str v, .int (wt u v)]) T2 = some (.tup [.str v, .int (wt u v)]) := upd_same
      show gTup _ _ _ _ _ (upd Hc T2 (.tup [.str v, .int (wt u v)])) _
      generalize upd Hc T2 (.tup [.str v, .int (wt u v)]) = H1 at s1 D1 E1 P1
      refine ⟨T2, _, rfl, .inl (.inl P1), rfl, _, _, rfl, _, _, rfl, rfl, rfl, ?_⟩
      have ef : edR nb wt u ((nb u).take (j + 1)) = edR nb wt u ((nb u).take j) ++ (if ltS u v then [(u, v, wt u v)] else []) := by
        rw [tk2]
        unfold edR
        rw [List.filter_append, List.map_append]
        congr 1
        by_cases h : ltS u v
        · simp [h]
        · simp [h]
      refine ⟨_, rfl, _, rfl, _, _, rfl, rfl, _, rfl, ite2 (fun hb => ?_) (fun hb => ?_)⟩
      · have hb : ltS u v := of_decide_eq_true hb
        refine ⟨_, rfl, _, rfl, _, rfl, by show 3 ≤ sizeLine; decide, fun p np => ?_⟩
        have D2 := (same_upd (o := .tup [.str u, .str v, .int (wt u v)]) np) _ _ D1
        refine ⟨_, D2, by rw [List.length_map]; omega, rs ++ [p], ?_, ?_, ?_, ?_⟩
        · intro b o hb
          rw [upd_ne (ne_of_none hb nD)]
          exact (same_upd np) _ _ (s1 _ _ hb)
        · rw [upd_same, List.map_append]
          rfl
        · rw [ef, if_pos hb, ← List.append_assoc]
          have npD : p ≠ D := fun z => by
            rw [z, D1] at np
            cases np
          have E2 : EdsAt K (upd (upd H1 p (.tup [.str u, .str v, .int (wt u v)])) D (.lst (rs.map V.ref ++ [.ref p]))) rs (edL (Vs.take i) nb wt ++ edR nb wt u ((nb u).take j)) := by
            refine ⟨E1.1, fun i r e h1 h2 => ?_⟩
            have z := WkG.seqT_same (same_upd (o := .tup [.str u, .str v, .int (wt u v)]) np) (E1.2 i r e h1 h2)
            rcases z with (z | ⟨o, z⟩) | z
            · exact .inl (.inl (by rw [upd_ne (ne_of z D2 (by intro q; cases q))]; exact z))
            · exact .inl (.inr ⟨o, by rw [upd_ne (ne_of z D2 (by intro q; cases q))]; exact z⟩)
            · exact .inr z
          exact E2.snoc (fun _ _ h => h) (by rw [upd_ne npD, upd_same])
        · rw [List.length_append, List.length_singleton]
          omega
      · have hb : ¬ ltS u v := fun z => hb (decide_eq_true z)
        exact ⟨rs, s1, D1, by rw [ef, if_neg hb, List.append_nil]; exact E1, by omega⟩
    · rintro Hc ⟨rs, q1, q2, q3, q4⟩
      rw [dct_len] at q3 q4
      refine ⟨rs, q1, q2, ?_, by rw [Nat.mul_add]; omega⟩
      rw [List.take_length] at q3
      rw [tk]
      unfold edL at q3 ⊢
      rw [List.flatMap_append]
      simpa using q3
  · rintro Hc ⟨rs, q1, q2, q3, q4⟩
    rw [dct_len, List.take_length] at q3
    obtain ⟨oc, htc⟩ : ∃ oc, Hc a = some (.frz oc (.dK (dct Vs fun u => .ref (ad u)))) := ⟨o, q1 _ _ ht⟩
    refine ⟨_, rfl, a, _, rfl, .inr ⟨oc, htc⟩, fun p1 n1 => ?_⟩
    rw [dct_kV]
    generalize gg1 : upd _ p1 _ = G1; obtain ⟨s1, L1⟩ := new_eq n1 gg1; clear gg1
    refine ⟨_, rfl, ?_⟩
    intro x dx nx ndx nex
    have s2 : Same G1 (upd G1 dx (.own x)) := same_upd ndx
    have nx1 : upd G1 dx (.own x) x = none := by rw [upd_ne (Ne.symm nex)]; exact nx
    have s3 := s2.trans (same_upd (o := .ins CG dx []) nx1)
    refine ⟨x, CG, dx, p1, D, true, true, Vs, _, rs, rfl, upd_same, gc, (s3.seq (SqL.of L1) : SqL K _ p1 _), (s3.seq (SqL.of (s1 _ _ q2)) : SqL K _ D _), (q3.same s1).same s3, go.valid, fun p Ws bd nb' wt' t H' kH np hx' rz pm as ro an ht' hmin => ⟨rfl, ?_⟩⟩
    have nxH0 : H0 x = none := np_of (q1.trans s1) nx
    have nxH : H x = none := by
      cases z : H x with
      | none => rfl
      | some ob =>
        by_cases e : b = false ∧ (x = a ∨ ∃ u ∈ Vs, x = ad u)
        · obtain ⟨_, e | ⟨u, hu, e⟩⟩ := e
          · rw [e, ht] at nxH0
            cases nxH0
          · obtain ⟨o2, h2⟩ := R.row u hu
            rw [e, h2] at nxH0
            cases nxH0
        · rw [k0 x ob z fun hb => ⟨fun e1 => e ⟨hb, .inl e1⟩, fun u hu e1 => e ⟨hb, .inr ⟨u, hu, e1⟩⟩⟩] at nxH0
          cases nxH0
    refine k x Ws nb' wt' H' (fun c ob hc hn => ?_) nxH ⟨⟨dx, p, t, bd, hx', rz⟩, as, an⟩ pm (SameG.of_rows go.sym ro)
    refine kH c ob (s3 _ _ (s1 _ _ (q1 _ _ (k0 c ob hc hn)))) (ne_of_none hc nxH)
/-! ### networks -/
/-- what is asked of a class of networks -/
structure FCls (K : PySem.W.Frag) (C : Addr) : Prop where
  cls : Cls K C
  na : NoAttr K C "around"
  nt : NoAttr K C "top"
  nf : NoAttr K C "found"
  nm : NoAttr K C "made"
  ne : NoAttr K C "entries"
  nr : NoAttr K C "running"
  ns : NoAttr K C "since"
theorem NCls.f {C D fG : Addr} (h : NCls K C D fG) : FCls K C := ⟨h.g.cls, h.g.na, h.g.nt, h.nf, h.nm, h.ne, h.nr, h.ns⟩
def RestOk (rest : List (Str × V)) : Prop := rest = [] ∨ ∃ v, rest = [(("least" : Str), v)]
theorem RestOk.no {rest : List (Str × V)} (h : RestOk rest) {m : Str} (hm : (m == ("least" : Str)) = false) : rest.lookup m = none := by
  rcases h with rfl | ⟨v, rfl⟩
  · rfl
  · rw [List.lookup_cons, hm]
    rfl
theorem RestOk.len {rest : List (Str × V)} (h : RestOk rest) : rest.length ≤ 1 := by
  rcases h with rfl | ⟨v, rfl⟩
  · exact Nat.zero_le _
  · exact Nat.le_refl _
/-- a network at x -/
structure NetO (H : Hp) (x C : Addr) (rest : List (Str × V)) (vs : List Str) (nb : Nb) (wt : Wt) (t : Str) (n : Int) (m e : Addr) (r s : Int) : Prop where
  ex : ∃ (dx p : Addr) (ad : Str → Addr), H x = some (.ins C dx (netF p t n m e r s ++ rest)) ∧ RowsZ H p vs ad nb wt
  rst : RestOk rest
  asc : Asc vs
  an : ∀ u ∈ vs, Asc (nb u)
  gok : GOk vs nb wt
  lc : ∃ ms, LeastCut vs nb wt n ms
  rt : t ∈ vs
theorem tabs_rows {T : List (Addr × Str)} {b : Bool} {H H' : Hp} {a : Addr} {Vs : List Str} {ad : Str → Addr} {nb : Nb} {wt : Wt} (R : RowsX b H a Vs ad nb wt) (t : Tabs T H) (k : ∀ c o, H c = some o → (b = false → c ≠ a ∧ ∀ u ∈ Vs, c ≠ ad u) → H' c = some o) : Tabs T H' := fun p hp => by
  obtain ⟨ps, h1, h2, h3⟩ := t p hp
  have no : ∀ c o, H c = some o → (∀ kvs, o ≠ .dK kvs) → H' c = some o := fun c o h n => k c o h fun hb => by
    subst hb
    have R : RowsM H a Vs ad nb wt := R
    exact ⟨ne_of h R.top (n _), fun u hu => ne_of h (R.row u hu) (n _)⟩
  refine ⟨ps, no _ _ h1 (fun kvs z => by cases z), h2, fun pos cv hc => ?_⟩
  obtain ⟨c, e1, e2⟩ := h3 pos cv hc
  exact ⟨c, e1, no _ _ e2 (fun kvs z => by cases z)⟩
/-! ### check_strength -/
def spCk : Sp := fun vs H Q _ => ∃ (x : Addr) (n : Int), vs = [.ref x, .int n] ∧ Q .non H
theorem sc_ck : FnScope ["self", "strength"] ["self", "strength"] (defScope s_Network_check_strength) := ⟨rfl, rfl, rfl, by decide +kernel, rfl, by decide +kernel, by decide +kernel⟩
theorem ok_ck {f : Addr} {fd : FuncData} (F : FnP K "check_strength" "Network.check_strength" s_Network_check_strength f fd) : FnOk P w K mg base CX0 1 f fd ["self", "strength"] spCk := by
  refine F.ok sc_ck (fun vs H Q E h => ?_) (fun cdv A outer s H vs Q E hr h => ⟨_, PSs.nox (pss_one ps_pass), ?_⟩)
  · obtain ⟨x, n, rfl, _⟩ := h
    rfl
  · obtain ⟨x, n, rfl, k⟩ := h
    exact k
/-! ### accept -/
structure AccC (P : Program) (w : World) (K : PySem.W.Frag) (mg : Str → Option Value) (base : Heap) (C : Addr) : Prop where
  f : FCls K C
  ck : MethC P w K mg base CX0 C "check_strength" 1 spCk
theorem AccC.cls {C : Addr} (h : AccC P w K mg base C) : Cls K C := h.f.cls
/-- the network has changed, and rows of our own may be known now; all else stays -/
def AccE (b : Bool) (x a : Addr) (Vs : List Str) (ad : Str → Addr) (H H' : Hp) : Prop := ∀ c o, H c = some o → c ≠ x → (∀ ps, o ≠ .tbl ps) → (b = false → c ≠ a ∧ ∀ u ∈ Vs, c ≠ ad u) → H' c = some o
def spAccept (K : PySem.W.Frag) (T : List (Addr × Str)) (C : Addr) : Sp := fun vs H Q _ => ∃ (x ed a dx p m e : Addr) (rest : List (Str × V)) (t t0 : Str) (n r s : Int) (ms : List V) (b : Bool) (Vs : List Str) (ad : Str → Addr) (nb : Nb) (wt : Wt), vs = [.ref x, .ref ed, .ref a, .str t] ∧
  H x = some (.ins C dx (netF p t0 n m e r s ++ rest)) ∧ RestOk rest ∧ SqT K H m ms ∧ ms.length < 1000000 ∧ RowsX b H a Vs ad nb wt ∧ GOk Vs nb wt ∧ t ∈ Vs ∧ Tabs T H ∧
  ∀ Ws nb' wt' n' m' H', AccE b x a Vs ad H H' → Tabs T H' → NetO H' x C rest Ws nb' wt' t n' m' e r (s + 1) → H' m' = some (.tup (ms ++ [.ref ed])) → Ws.Perm Vs → SameG Vs nb wt nb' wt' → Q .non H'
theorem sc_accept : FnScope ["self", "edit", "around", "top", "graph", "strength"] ["self", "edit", "around", "top"] (defScope s_Network_accept) := ⟨rfl, rfl, rfl, by decide +kernel, rfl, by decide +kernel, by decide +kernel⟩
theorem ok_accept {f : Addr} {fd : FuncData} {CG C : Addr} {tbT : List (Addr × Str)} (F : FnP K "accept" "Network.accept" s_Network_accept f fd) (gc : GCls K CG) (NK : AccC P w K mg base C) (CG : Callee P w K mg base CX0 5 "graph_of" ["around"] (spGraphOf CG))
    (CS : Callee P w K mg base CX0 5 "strength_of" ["graph"] (spStrength K tbT)) : FnOk P w K mg base CX0 6 f fd ["self", "edit", "around", "top"] (spAccept K tbT C) := by
  refine F.ok sc_accept (fun vs H Q E h => ?_) (fun cdv A outer s H vs Q E hr h => ?_)
  · obtain ⟨x, ed, a, dx, p, m, e, rest, t, t0, n, r, s, ms, b, Vs, ad, nb, wt, rfl, _⟩ := h
    rfl
  have nd := sc_accept.nd
  have hr5 : Room 5 _ := hr
  have hr1 : Room 1 _ := hr.mono (by decide)
  refine ⟨_, PSs.nox (pss_cons (ps_set (i := 4) nd rfl (Or.inl rfl) (pe_c CG hr5 pass0 (pa_cons (pv 2) pa_nil)))
      (pss_cons (ps_set (i := 5) nd rfl (Or.inl rfl) (pe_c CS hr5 pass0 (pa_cons (pv 4) pa_nil)))
      (pss_cons (ps_expr (WkC.pe_mt NK.ck NK.cls hr1 pass0 (pv 0) (pa_cons (pv 5) pa_nil)))
      (pss_cons (ps_asg (pe_tup (pa_cons (pe_fld (pv 4) rfl) (pa_cons (pv 3) (pa_cons (pv 5) pa_nil)))) (WkN.pgT K 3 rfl rfl (pgs_cons (WkK.pg_at (pv 0)) (pgs_cons (WkK.pg_at (pv 0)) (pgs_cons (WkK.pg_at (pv 0)) pgs_nil))) rfl))
      (pss_cons (ps_fld (pv 0) (pe_tup (StX.pa_star (pe_fld (pv 0) rfl) (pa_cons (pv 1) pa_nil))) rfl)
      (pss_one (ps_fldaug (pv 0) pe_int in_add))))))), ?_⟩
  obtain ⟨x, ed, a, dx, p, m, e, rest, t, t0, n, r, s, ms, b, Vs, ad, nb, wt, rfl, hx, hre, hm, hml, R0, go, htV, hT, k⟩ := h
  have big : 10000000 < sizeLine := by decide
  have rlen := hre.len
  refine ⟨_, rfl, a, b, Vs, ad, nb, wt, rfl, R0, go, fun g Ws nb' wt' H1 k1 ng ga pm sg => ?_⟩
  obtain ⟨dg, pg, tg, bd, hg, rz⟩ := ga.ex
  have T1 := tabs_rows R0 hT k1
  have noD : ∀ c o, H c = some o → (∀ kvs, o ≠ .dK kvs) → b = false → c ≠ a ∧ ∀ u ∈ Vs, c ≠ ad u := fun c o h n hb => by
    subst hb
    have R : RowsM H a Vs ad nb wt := R0
    exact ⟨ne_of h R.top (n _), fun u hu => ne_of h (R.row u hu) (n _)⟩
  have hx1 := k1 _ _ hx (noD _ _ hx fun kvs z => by cases z)
  have go' := sg.gok go pm fun u hu => asc_nodup (ga.an u hu)
  have few := go'.few
  refine ⟨_, rfl, g, _, dg, _, pg, tg, Ws, bd, nb', wt', rfl, ⟨hg, gc.cls, gc.na, gc.nt, rfl, rfl⟩, rz, go'.nd, go'.sym, go'.two, by omega, T1, fun n' lm H2 e2 T2 lc => ?_⟩
  have hx2 := e2 _ _ hx1 (fun ps z => by cases z)
  have hg2 := e2 _ _ hg (fun ps z => by cases z)
  have rz2 := rz.ext e2
  refine ⟨_, rfl, x, dx, _, rfl, hx2, hre.no (by decide), _, rfl, x, n', rfl, ?_⟩
  refine ⟨_, rfl, g, _, dg, _, _, rfl, hg2, gc.cls, gc.na, rfl, _, rfl, _, rfl, by show 3 ≤ sizeLine; omega, fun p3 n3 => ?_⟩
  generalize gg3 : upd _ p3 _ = G3; obtain ⟨s3, L3⟩ := new_eq n3 gg3; clear gg3
  have hx3 := s3 _ _ hx2
  refine ⟨p3, _, rfl, .inl (.inl L3), rfl, _, _, rfl, _, rfl, x, C, dx, _, rfl, hx3, NK.f.cls, NK.f.na, by simp [netF]; omega, ?_⟩
  refine ⟨_, _, rfl, _, rfl, x, C, dx, _, rfl, upd_same, NK.f.cls, NK.f.nt, by show rest.length + 7 < 1000; omega, ?_⟩
  refine ⟨_, _, rfl, _, rfl, x, C, dx, _, rfl, upd_same, NK.f.cls, NK.f.nf, by show rest.length + 7 < 1000; omega, rfl, ?_⟩
  rw [upd_upd, upd_upd]
  have hx4 : upd G3 x (.ins C dx (putF "found" (.int n') (putF "top" (.str t) (putF "around" (.ref pg) (netF p t0 n m e r s ++ rest))))) x = some (.ins C dx (netF pg t n' m e r s ++ rest)) := upd_same
  have k4 : ∀ c o, G3 c = some o → c ≠ x → upd G3 x (.ins C dx (putF "found" (.int n') (putF "top" (.str t) (putF "around" (.ref pg) (netF p t0 n m e r s ++ rest))))) c = some o := fun c o h hne => by
    rw [upd_ne hne]
    exact h
  have T4 : Tabs tbT (upd G3 x (.ins C dx (putF "found" (.int n') (putF "top" (.str t) (putF "around" (.ref pg) (netF p t0 n m e r s ++ rest)))))) := tabs_upd (T2.ext s3) hx3 trivial
  generalize upd G3 x (.ins C dx (putF "found" (.int n') (putF "top" (.str t) (putF "around" (.ref pg) (netF p t0 n m e r s ++ rest))))) = H4 at hx4 k4 T4 ⊢
  have k04 : AccE b x a Vs ad H H4 := fun c o h hne nt hn => k4 c o (s3 _ _ (e2 _ _ (k1 c o h hn) nt)) hne
  have hm4 : SqT K H4 m ms := by
    rcases hm with (h | ⟨o, h⟩) | h
    · exact .inl (.inl (k04 _ _ h (ne_of h hx (by intro z; cases z)) (fun ps z => by cases z) (noD _ _ h fun kvs z => by cases z)))
    · exact .inl (.inr ⟨o, k04 _ _ h (ne_of h hx (by intro z; cases z)) (fun ps z => by cases z) (noD _ _ h fun kvs z => by cases z)⟩)
    · exact .inr h
  refine ⟨_, rfl, x, C, dx, _, _, rfl, hx4, NK.f.cls, NK.f.nm, rfl, m, ms, rfl, .inl hm4, _, rfl, by rw [List.length_append]; show ms.length + 1 ≤ sizeLine; omega, fun p5 n5 => ?_⟩
  generalize gg5 : upd _ p5 _ = G5; obtain ⟨s5, L5⟩ := new_eq n5 gg5; clear gg5
  have hx5 := s5 _ _ hx4
  have n5x : p5 ≠ x := Ne.symm (ne_of_none hx4 n5)
  refine ⟨_, rfl, x, C, dx, _, rfl, hx5, NK.f.cls, NK.f.nm, by simp [netF]; omega, ?_⟩
  refine ⟨_, rfl, x, C, dx, _, _, rfl, upd_same, NK.f.cls, NK.f.ns, rfl, _, _, rfl, rfl, _, _, upd_same, by show rest.length + 7 < 1000; omega, ?_⟩
  rw [upd_upd]
  refine k Ws nb' wt' n' p5 _ (fun c o h hne nt hn => ?_) (tabs_upd (T4.ext s5) hx5 trivial) ⟨⟨dx, pg, bd, upd_same, ?_⟩, hre, ga.asc, ga.an, go', ⟨_, lc⟩, pm.mem_iff.mpr htV⟩ ?_ pm sg
  · rw [upd_ne hne]
    exact s5 _ _ (k04 c o h hne nt hn)
  · have rz4 : RowsZ G5 pg Ws bd nb' wt' := by
      have z3 := rz2.ext (Ext.of s3)
      exact (ExtB.rz (x := x) (fun c o h hne _ => k4 c o h hne) z3 hx3).ext (Ext.of s5)
    exact ExtB.rz (x := x) (fun c o h hne _ => by rw [upd_ne hne]; exact h) rz4 hx5
  · rw [upd_ne n5x]
    exact L5
end
end Wk
namespace Wk
open PySem PySem.Spec PyProof.Rows L2 WkD WkN LamX WkP WkE WkC
section
variable {P : Program} {w : World} {K : PySem.W.Frag} {mg : Str → Option Value} {base : Heap}
/-! ### check_vertex -/
/-- a value: a text, or what is no text -/
def AnyV (K : PySem.W.Frag) (H : Hp) (x : V) : Prop := (∃ z, x = .str z ∧ z.length ≤ sizeLine) ∨ ((∀ z, x ≠ .str z) ∧ ∃ t, TyX K H x t ∧ PySem.W.kitOne K t (.type "str") = some false)
theorem tyx_same {H H' : Hp} {x : V} {t : Value} (e : Same H H') (h : TyX K H x t) : TyX K H' x t := by
  cases h with
  | base b =>
    cases b with
    | non => exact .base .non
    | bl b => exact .base (.bl b)
    | int i => exact .base (.int i)
    | str z => exact .base (.str z)
    | flt z => exact .base (.flt z)
    | lst h => exact .base (.lst (e _ _ h))
    | frz h => exact .base (.frz (e _ _ h))
    | tup h => exact .base (.tup (e _ _ h))
    | dK h => exact .base (.dK (e _ _ h))
    | dT h => exact .base (.dT (e _ _ h))
    | ins h q1 q2 q3 q4 q5 => exact .base (.ins (e _ _ h) q1 q2 q3 q4 q5)
  | byt b => exact .byt b
  | set h => exact .set (e _ _ h)
  | kList h c => exact .kList h c
  | kTuple h c => exact .kTuple h c
  | kDict h c => exact .kDict h c
  | fTuple h => exact .fTuple (e _ _ h)
  | fDict h => exact .fDict (e _ _ h)
/-- it is one of these names -/
def IsIn (x : V) (Vs : List Str) : Prop := ∃ z ∈ Vs, x = .str z
def spCheck (K : PySem.W.Frag) (CU : Addr) : Sp := fun vs H Q E => ∃ (g C dx : Addr) (fs : List (Str × V)) (a : Addr) (top : Str) (Vs : List Str) (ad : Str → Addr) (nb : Nb) (wt : Wt) (x : V), vs = [.ref g, x] ∧ GAt K H g C dx fs a top ∧ RowsZ H a Vs ad nb wt ∧ (∀ u ∈ Vs, nameB u = true) ∧ AnyV K H x ∧
  (IsIn x Vs → ∀ H', Same H H' → Q .non H') ∧ (¬ IsIn x Vs → ∀ d H', Same H H' → H d = none → H' d = some (.xd [("value", x)]) → E (.ref CU) (some d) H')
theorem sc_check_vertex : FnScope ["self", "value"] ["self", "value"] (defScope s_Graph_check_vertex) := ⟨rfl, rfl, rfl, by decide +kernel, rfl, by decide +kernel, by decide +kernel⟩
theorem ok_check_vertex {f CU fI : Addr} {fd : FuncData} (F : FnP K "check_vertex" "Graph.check_vertex" s_Graph_check_vertex f fd) (TU : WkX.ExcT K mg "UnknownVertex" "value" CU fI) (CN : Callee P w K mg base CX0 1 "is_name" ["value"] (spName K)) : FnOk P w K mg base (CX P w) 2 f fd ["self", "value"] (spCheck K CU) := by
  refine F.ok sc_check_vertex (fun vs H Q E h => ?_) (fun cdv A outer s H vs Q E hr h => ?_)
  · obtain ⟨g, C, dx, fs, a, top, Vs, ad, nb, wt, x, rfl, _⟩ := h
    rfl
  have hu := hu_of hr
  have hr1 : Room 1 _ := hr
  refine ⟨_, (pss_one (ps_if (PW.pt (pw_or (pt_not (pt_val (pe_c CN hr1 pass0 (pa_cons (pv 1) pa_nil)))) (pw_or1 (pt_cmp (pc_dnotin hu (pv 1) (pe_fld (pv 0) rfl))))))
      (pss_one (WkK.ps_raiseE rfl TU hr (takes_of rfl rfl rfl rfl) (pa_cons (pv 1) pa_nil))) pss_nil)), ?_⟩
  obtain ⟨g, C, dx, fs, a, top, Vs, ad, nb, wt, x, rfl, G, R, nm, av, k1, k2⟩ := h
  rcases av with ⟨z, rfl, hz⟩ | ⟨nz, t, ty, kt⟩
  · refine ⟨_, rfl, .inl ⟨z, rfl, hz, fun H1 s1 => ⟨_, rfl, ite2 (fun h => ?_) (fun h => ?_)⟩⟩⟩
    · have hn : z ∉ Vs := fun hm => by
        rw [nm z hm] at h
        cases h
      refine ⟨_, rfl, _, rfl, fun d nd_ => k2 (fun ⟨y, hy, e⟩ => ?_) d _ (s1.trans (same_upd nd_)) (np_of s1 nd_) upd_same⟩
      cases e
      exact hn hy
    · have R1 := R.ext (Ext.of s1)
      have G1 : GAt K H1 g C dx fs a top := G.ext (Ext.of s1)
      refine ⟨_, rfl, _, rfl, g, C, dx, _, _, rfl, G1.ins, G1.cls, G1.na, G1.la, a, _, rfl, get_x R1.r.top, _, rfl, ?_⟩
      by_cases hm : z ∈ Vs
      · rw [if_pos hm]
        refine ite2 (fun h => ?_) (fun _ => k1 ⟨z, hm, rfl⟩ H1 s1)
        cases h
      · rw [if_neg hm]
        refine ite2 (fun _ => ?_) (fun h => absurd rfl h)
        refine ⟨_, rfl, _, rfl, fun d nd_ => k2 (fun ⟨y, hy, e⟩ => ?_) d _ (s1.trans (same_upd nd_)) (np_of s1 nd_) upd_same⟩
        cases e
        exact hm hy
  · refine ⟨_, rfl, .inr ⟨x, t, rfl, ty, kt, ⟨_, rfl, ite2 (fun _ => ?_) (fun h => absurd rfl h)⟩⟩⟩
    refine ⟨_, rfl, _, rfl, fun d nd_ => k2 (fun ⟨y, _, e⟩ => nz y e) d _ (same_upd nd_) nd_ upd_same⟩
/-! ### set_root -/
def spSetRoot (K : PySem.W.Frag) (T : List (Addr × Str)) (C CU : Addr) : Sp := fun vs H Q E => ∃ (x : Addr) (v : V) (rest : List (Str × V)) (t0 : Str) (n : Int) (m e : Addr) (r s : Int) (ms : List V) (Vs : List Str) (nb : Nb) (wt : Wt), vs = [.ref x, v] ∧
  NetO H x C rest Vs nb wt t0 n m e r s ∧ SqT K H m ms ∧ ms.length < 1000000 ∧ Tabs T H ∧ AnyV K H v ∧
  (∀ t, v = .str t → t ∈ Vs → ∀ nb' wt' n' m' ed H', (∀ c o, H c = some o → c ≠ x → (∀ ps, o ≠ .tbl ps) → H' c = some o) → Tabs T H' → NetO H' x C rest Vs nb' wt' t n' m' e r (s + 1) → H' m' = some (.tup (ms ++ [.ref ed])) → H' ed = some (.tup [.str "root", .str t]) → SameG Vs nb wt nb' wt' → Q .non H') ∧
  (¬ IsIn v Vs → ∀ d H', Same H H' → H d = none → H' d = some (.xd [("value", v)]) → E (.ref CU) (some d) H')
theorem sc_set_root : FnScope ["self", "vertex"] ["self", "vertex"] (defScope s_Network_set_root) := ⟨rfl, rfl, rfl, by decide +kernel, rfl, by decide +kernel, by decide +kernel⟩
theorem ok_set_root {f C CU : Addr} {fd : FuncData} {tbT : List (Addr × Str)} (F : FnP K "set_root" "Network.set_root" s_Network_set_root f fd) (NK : AccC P w K mg base C) (CV : MethC P w K mg base (CX P w) C "check_vertex" 2 (spCheck K CU)) (CA : MethC P w K mg base CX0 C "accept" 6 (spAccept K tbT C)) :
    FnOk P w K mg base (CX P w) 7 f fd ["self", "vertex"] (spSetRoot K tbT C CU) := by
  refine F.ok sc_set_root (fun vs H Q E h => ?_) (fun cdv A outer s H vs Q E hr h => ?_)
  · obtain ⟨x, v, rest, t0, n, m, e, r, s, ms, Vs, nb, wt, rfl, _⟩ := h
    rfl
  have hr7 : Room 6 _ := hr
  have hr2 : Room 2 _ := hr.mono (by decide)
  refine ⟨_, (pss_cons (ps_expr (WkC.pe_mt CV NK.cls hr2 (passes_call (takes_of rfl rfl rfl rfl) fun _ _ _ _ h => h) (pv 0) (pa_cons (pv 1) pa_nil)))
      (pss_one (ps_expr (WkC.pe_mt CA NK.cls hr7 pass0 (pv 0) (pa_cons (pe_tup (pa_cons pe_str (pa_cons (pv 1) pa_nil))) (pa_cons (pe_fld (pv 0) rfl) (pa_cons (pv 1) pa_nil))))))), ?_⟩
  obtain ⟨x, v, rest, t0, n, m, e, r, s, ms, Vs, nb, wt, rfl, N, hm, hml, hT, av, k1, k2⟩ := h
  obtain ⟨dx, p, ad, hx, rz⟩ := N.ex
  have GA : GAt K H x C dx (netF p t0 n m e r s ++ rest) p t0 := ⟨hx, NK.f.cls, NK.f.na, NK.f.nt, rfl, rfl⟩
  refine ⟨_, rfl, x, dx, _, rfl, hx, N.rst.no (by decide), _, rfl, x, C, dx, _, p, t0, Vs, ad, nb, wt, v, rfl, GA, rz, N.gok.nm, av, fun hin H1 s1 => ?_, k2⟩
  obtain ⟨t, ht, rfl⟩ := hin
  have hx1 := s1 _ _ hx
  refine ⟨_, rfl, x, dx, _, rfl, hx1, N.rst.no (by decide), _, rfl, by show 2 ≤ sizeLine; decide, fun ed ned => ?_⟩
  generalize gg : upd _ ed _ = G2
  obtain ⟨s2, L2⟩ := new_eq ned gg
  clear gg
  have hx2 := s2 _ _ hx1
  refine ⟨_, rfl, x, C, dx, _, _, rfl, hx2, NK.f.cls, NK.f.na, rfl, _, rfl, ?_⟩
  have s12 := s1.trans s2
  have rz2 : RowsZ G2 p Vs ad nb wt := rz.ext (Ext.of s12)
  refine ⟨x, ed, p, dx, p, m, e, rest, t, t0, n, r, s, ms, true, Vs, ad, nb, wt, rfl, hx2, N.rst, WkG.seqT_same s12 hm, hml, rz2, N.gok, ht, hT.ext s12, fun Ws nb' wt' n' m' H3 a3 T3 N3 hm3 pm sg => ?_⟩
  have eW : Ws = Vs := asc_uniq (R := ltS) ltS_irrefl (fun a b c => ltS_trans) N3.asc N.asc fun y => pm.mem_iff
  subst eW
  refine k1 t rfl ht nb' wt' n' m' ed H3 (fun c o h hne nt => a3 c o (s12 _ _ h) hne nt fun hb => nomatch hb) T3 N3 hm3 (a3 _ _ L2 (ne_of L2 hx2 (by intro z; cases z)) (fun ps z => by cases z) fun hb => nomatch hb) sg
end
end Wk
namespace Wk
open PySem PySem.Spec PyProof.Rows L2 WkD WkN LamX WkP WkE WkC
section
variable {P : Program} {w : World} {K : PySem.W.Frag} {mg : Str → Option Value} {base : Heap}
theorem Valid.gok {vs0 Ws : List Str} {es : List Ed} {nb : Nb} {wt : Wt} (ok : Valid vs0 es) (ro : RowsOf vs0 es nb wt) (pm : Ws.Perm vs0) : GOk Ws nb wt := by
  have ln := pm.length_eq
  have two := ok.two
  have few := ok.few
  refine ⟨fun u hu => ok.nm u (pm.mem_iff.mp hu), pm.nodup_iff.mpr ok.nd, by omega, by omega, ok.sym ro pm, fun u hu v hv => ?_, fun s hs u hu => ok.con nb wt ro s (pm.mem_iff.mp hs) u (pm.mem_iff.mp hu)⟩
  have hu := pm.mem_iff.mp hu
  obtain ⟨n, hn⟩ := (ro.mem u hu v).mp hv
  rw [ro.val u hu v n hn]
  rcases hn with h | h
  · obtain ⟨i, hi⟩ := List.getElem?_of_mem h
    obtain ⟨_, _, _, h4, h5, _⟩ := ok.ed i _ _ _ hi
    exact ⟨h4, h5⟩
  · obtain ⟨i, hi⟩ := List.getElem?_of_mem h
    obtain ⟨_, _, _, h4, h5, _⟩ := ok.ed i _ _ _ hi
    exact ⟨h4, h5⟩
/-- Network(..) of what was drawn, told in full -/
theorem mk_net {T : List (Addr × Str)} {C fG : Addr} {H : Hp} {va ea : Addr} {b1 b2 : Bool} {vs vs0 : List Str} {es : EdD} {rt : Str} {sh es2 : List Ed} {rs : List Addr} {Q : Hp → Prop} {E : XK} {x dx : Addr} (nx : H x = none) (ndx : H dx = none) (ne : dx ≠ x) (nc : NCls K C C fG) (ok : NetOk vs es rt) (two : 2 ≤ vs.length) (few : vs.length ≤ 40) (pv : vs0.Perm vs) (psh : sh.Perm (edS es)) (fl : Flips sh es2)
    (hva : SqX b1 K H va (vs0.map V.str)) (hea : SqX b2 K H ea (rs.map V.ref)) (he : EdsAt K H rs es2) (hT : Tabs T H)
    (k : ∀ nb wt t n m en H', Ext H H' → Tabs T H' → NetO H' x C [] vs nb wt t n m en 0 0 → H' m = some (.tup []) → H' en = some (.lst []) → edL vs nb wt = edS es → (∀ j ∈ vs, ¬ ltS j t) → Q H') :
    spNet K T C fG (.ref x :: ([V.ref va, .ref ea] ++ [])) (upd (upd H dx (.own x)) x (.ins C dx [])) (fun v H2 => v = .non ∧ Q H2) E := by
  have s1 : Same H (upd H dx (.own x)) := same_upd ndx
  have nx1 : upd H dx (.own x) x = none := by rw [upd_ne (Ne.symm ne)]; exact nx
  have s2 := s1.trans (same_upd (o := .ins C dx []) nx1)
  have val := built_valid ok two few pv psh fl
  refine ⟨x, C, dx, va, ea, b1, b2, vs0, es2, rs, rfl, upd_same, nc, hva.same s2, hea.same s2, he.same s2, val, hT.ext s2, fun p Ws bd nb wt t n ms me en H' eB T' hx' hme hen rz pw aw ro an ht hmin lc => ⟨rfl, ?_⟩⟩
  have e1 := built_verts ok pv pw aw
  subst e1
  have e2 := built_edges ok pv psh fl pw aw ro an
  exact k nb wt t n me en H' (fun b o hb no => eB b o (s2 b o hb) (ne_of_none hb nx) no) T' ⟨⟨dx, p, bd, hx', rz⟩, .inl rfl, aw, an, val.gok ro pw, ⟨ms, lc⟩, pw.mem_iff.mpr ht⟩ hme hen e2 fun j hj => hmin j (pw.mem_iff.mp hj)
theorem Flips.refl : ∀ l : List Ed, Flips l l
  | [] => .nil
  | _ :: l => .cons (.inl rfl) (Flips.refl l)
theorem SameG.edL_eq {vs : List Str} {nb nb' : Nb} {wt wt' : Wt} (h : SameG vs nb wt nb' wt') (as : Asc vs) (an : ∀ u ∈ vs, Asc (nb u)) (an' : ∀ u ∈ vs, Asc (nb' u)) : edL vs nb' wt' = edL vs nb wt :=
  ed_uniq (edL_asc as an') (edL_asc as an) fun e => h.edges (.refl _) e
/-! ### _law_made -/
def spMade (K : PySem.W.Frag) (T : List (Addr × Str)) (C : Addr) : Sp := fun vs H Q _ => ∃ (q va ea : Addr) (vs0 : List Str) (es : EdD) (rt : Str), vs = [.ref q] ∧ NetAt H q va ea vs0 es rt ∧ 2 ≤ vs0.length ∧ vs0.length ≤ 40 ∧ es.length ≤ 1000 ∧ Tabs T H ∧
  ∀ x nb wt n m en ed H', Ext H H' → Tabs T H' → H x = none → NetO H' x C [] vs0 nb wt rt n m en 0 1 → H' m = some (.tup [.ref ed]) → H' ed = some (.tup [.str "root", .str rt]) → H' en = some (.lst []) → edL vs0 nb wt = edS es → Q (.ref x) H'
theorem sc_made : FnScope ["_law_network_here", "_law_house"] ["_law_network_here"] (defScope s_L_made) := ⟨rfl, rfl, rfl, by decide +kernel, rfl, by decide +kernel, by decide +kernel⟩
theorem c_made {C fG CU : Addr} {tbT : List (Addr × Str)} (D : Def K mg "_law_made" s_L_made) (B : Bi mg) (CE : Callee P w K mg base CX0 1 "_law_edges" ["_law_network_here"] (spLEdges K)) (nc : NCls K C C fG) (NM : MakeC P w K mg base CX0 C "Network" 6 (spNet K tbT C fG)) (SR : MethC P w K mg base (CX P w) C "set_root" 7 (spSetRoot K tbT C CU)) :
    Callee P w K mg base CX0 8 "_law_made" ["_law_network_here"] (spMade K tbT C) := by
  obtain ⟨f, fd, F, g⟩ := D
  refine ⟨f, fd, F.ok sc_made (fun vs H Q E h => ?_) (fun cdv A outer s H vs Q E hr h => ?_), g, F.kp, F.bindsN (fun _ _ _ _ _ _ us hl => match us, hl with | [_], _ => rfl)⟩
  · obtain ⟨q, va, ea, vs0, es, rt, rfl, _⟩ := h
    rfl
  have hu := hu_of hr
  have nd := sc_made.nd
  have hr7 : Room 7 _ := hr
  have hr1 : Room 1 _ := hr.mono (by decide)
  have cl := nc.g.cls
  refine ⟨_, PSs.nox (pss_cons (ps_set (i := 1) nd rfl (Or.inl rfl) (WkC.pe_mk NM hr7 pass0 (pa_cons (pe_dget hu (pv 0) pe_str (fun _ _ => rfl)) (pa_cons (pe_c CE hr1 pass0 (pa_cons (pv 0) pa_nil)) pa_nil))))
      (pss_cons (ps_expr (WkC.pe_mt SR cl hr7 WkK.passF (pv 1) (pa_cons (pe_dget hu (pv 0) pe_str (fun _ _ => rfl)) pa_nil)))
      (pss_one (ps_ret (pv 1))))), ?_⟩
  obtain ⟨q, va, ea, vs0, es, rt, rfl, hN, two, few, les, hT, k⟩ := h
  refine ⟨_, rfl, q, _, rfl, (get_net hN).1, _, rfl, q, va, ea, vs0, es, rt, rfl, hN, les, fun p1 rs H1 s1 n1 L1 E1 => ?_⟩
  have N1 := hN.same s1
  intro x dx nx ndx ne
  refine mk_net nx ndx ne nc hN.ok two few (.refl _) (.refl _) (Flips.refl _) (b1 := true) (b2 := true) (SqL.of N1.ver) (SqL.of L1) E1 (hT.ext s1) fun nb wt t n m en H2 e2 T2 N2 hm hen ee hmin => ?_
  have N3 := N1.ext e2
  refine ⟨_, rfl, x, _, _, rfl, N2.ex.choose_spec.choose_spec.choose_spec.1, rfl, _, rfl, q, _, rfl, (get_net N3).2.2, ?_⟩
  have zl : rt.length ≤ sizeLine := name_len (hN.ok.nm rt hN.ok.rt)
  refine ⟨x, .str rt, [], t, n, m, en, 0, 0, [], vs0, nb, wt, rfl, N2, .inl (.inl hm), by decide, T2, .inl ⟨rt, rfl, zl⟩, fun t' et ht nb' wt' n' m' ed H3 k3 T3 N4 hm4 hed sg => ?_, fun hno => absurd ⟨rt, hN.ok.rt, rfl⟩ hno⟩
  cases et
  refine ⟨_, rfl, k x nb' wt' n' m' en ed H3 (fun b o hb no => ?_) T3 (np_of s1 nx) N4 hm4 hed (k3 _ _ hen (ne_of hen N2.ex.choose_spec.choose_spec.choose_spec.1 (by intro z; cases z)) (fun ps z => by cases z)) ?_⟩
  · have b1 := s1 _ _ hb
    exact k3 b o (e2 _ _ b1 no) (ne_of_none b1 nx) no
  · rw [sg.edL_eq N2.asc N2.an N4.an]
    exact ee
end
end Wk
/-! a text beside a dict -/
namespace PySem.SeqAt
open AutoSeq1 (wpAny_loadPart')
open MeetsSeq
theorem dict_eq_declines_str (l : Addr) (es : Array DictEntry) (n : Nat) (dd : Option Addr) (sl : Array (Option Value)) (b : Str) (u : Tok) :
    Meets (Builtin.«dict.__eq__» ⟨[.ref l, .str b u], []⟩) (fun _ R s => s.heap.get? l = some { cls := .type "dict", dict := dd, data := .dict es n, slots := sl } ∧ R (.ok (.ret .notImplemented)) s) :=
  .of_wp fun prog w A R s h => by obtain ⟨hp, g, d, tk, os⟩ := s; obtain ⟨hl, h⟩ := h; have f1 := F.sub_str_dict; wp_walk using wpAny_loadPart' hl; exact ⟨_, rfl, h⟩
theorem str_eq_declines_dict_str (b : Str) (u : Tok) (l : Addr) (es : Array DictEntry) (n : Nat) (dd : Option Addr) (sl : Array (Option Value)) :
    Meets (Builtin.«str.__eq__» ⟨[.str b u, .ref l], []⟩) (fun _ R s => s.heap.get? l = some { cls := .type "dict", dict := dd, data := .dict es n, slots := sl } ∧ R (.ok (.ret .notImplemented)) s) :=
  .of_wp fun prog w A R s h => by obtain ⟨hp, g, d, tk, os⟩ := s; obtain ⟨hl, h⟩ := h; wp_walk using wpAny_loadPart' hl, wpAny_load hl; exact ⟨_, rfl, h⟩
section
variable {A : Around} {s : Shared}
theorem RcAt.str_dict {l : Addr} {o : Obj} {es : Array DictEntry} {n : Nat} (b : Str) (u : Tok) (ho : s.heap.get? l = some o) (hc : o.cls = .type "dict") (hd : o.data = .dict es n) (hu : A.units < cLine) : RcAt A s (.str b u) (.ref l) false := fun prog w E Q h => by
  obtain ⟨cls, dd, data, sl⟩ := o
  simp only at hc hd
  subst hc hd
  exact rc_eq_decline_or (k := false) (typeIs_str s b u) ⟨_, ho, rfl⟩ (by decide) F.sub_dict_str F.slot_str_eq F.slot_dict_eq_refl
    (fun _ hq => call_meets F.slot_str_eq (typeIs_str s b u) F.entry_str_eq (F.args_str_eq_2 _ _) (str_eq_declines_dict_str b u l es n dd sl) ⟨ho, hq⟩)
    (fun _ hq => call_meets F.slot_dict_eq_refl ⟨_, ho, rfl⟩ F.entry_dict_eq (F.args_dict_eq_2 _ _) (dict_eq_declines_str l es n dd sl b u) ⟨ho, hq⟩)
    (fun _ hq => wpAny_of_eq (rfl : isSame (.str b u) (.ref l) = pure false) hq) (.inr hu) h
theorem EqAt.str_dict {l : Addr} {o : Obj} {es : Array DictEntry} {n : Nat} (b : Str) (u : Tok) (ho : s.heap.get? l = some o) (hc : o.cls = .type "dict") (hd : o.data = .dict es n) (hu : A.units < cLine) : EqAt A s (.str b u) (.ref l) false := fun prog w E Q h => by
  unfold eqBool
  refine wpAny_holding ?_
  refine wpAny_ite_split (fun hab => absurd (eq_of_beq hab) nofun) (fun _ => ?_)
  exact wpAny_bind (RcAt.str_dict b u ho hc hd hu prog w E _ (wpAny_truthy_bool h))
end
end PySem.SeqAt
namespace WkK
open PySem PySem.Spec PyProof.Rows L2 WkG
/-! ### x not in a list of texts, x any data -/
def strD : PyData → Option Str
  | .str z => some z
  | _ => none
def inD (d : PyData) (ns : List Str) : Bool := match strD d with
  | some z => decide (z ∈ ns)
  | none => false
def rNotInS (K : PySem.W.Frag) : R2 := fun x y H Q => ∃ (p : Addr) (ns : List Str) (d : PyData), y = .ref p ∧ SqL K H p (ns.map V.str) ∧ Dx K H x d ∧ Q (.bl (!inD d ns)) H
theorem str_items : ∀ {ns : List Str} {us : List Value}, Vals (ns.map V.str) us → ∀ u ∈ us, ∃ z t, u = .str z t ∧ z ∈ ns
  | [], _, .nil, u, h => nomatch h
  | n :: ns, _, .cons r t, u, h => by
    rcases List.mem_cons.mp h with rfl | h
    · obtain ⟨t', rfl⟩ := r
      exact ⟨n, t', rfl, List.mem_cons_self⟩
    · obtain ⟨z, t', e, hz⟩ := str_items t u h
      exact ⟨z, t', e, List.mem_cons_of_mem _ hz⟩
def isS (z : Str) : Value → Bool
  | .str y _ => y == z
  | _ => false
theorem any_isS {z : Str} : ∀ {ns : List Str} {us : List Value}, Vals (ns.map V.str) us → us.any (isS z) = decide (z ∈ ns)
  | [], _, .nil => by simp
  | n :: ns, _, .cons r t => by
    obtain ⟨t', rfl⟩ := r
    rw [List.any_cons, any_isS t]
    show (n == z || _) = _
    by_cases h : n = z
    · subst h; simp
    · have h' : z ≠ n := fun e => h e.symm
      simp [h, h', beq_eq_false_iff_ne]
theorem opNotInS {X : Cx} (K : PySem.W.Frag) (hK : X.K = K) (S : Sm K) (hu : X.A.units + 1 < cLine) : OpR X (compareOp .NotIn) (rNotInS K) := by
  subst hK
  intro pins s σ H x y v u Q I rx ry h
  obtain ⟨p, ns, d, rfl, hs, hd, q⟩ := h
  cases ry
  obtain ⟨its, r, pl, hz⟩ := I.list hs
  obtain ⟨as, rd, _⟩ := Dx.reads I S d x v hd rx
  have hin : X.A.in1.units < cLine := hu
  have fin : ∀ (e : Value → Bool) (b : Bool), (∀ y ∈ its, SeqAt.EqAt X.A.in1 s y v (e y)) → its.any e = b → Q (.bl (!b)) H → wpAny (model X.prog X.w) X.A (compareOp .NotIn v (.ref p)) (EP X pins σ Q) X.xe s := fun e b h1 h2 q' => by
    refine SeqAt.notIn_listAt e pl.isList (fun w hw => h1 w (by simpa using hw)) ⟨.bl _, H, I, rfl, ?_⟩
    rw [show its.toArray.any e = its.any e by simp, h2]
    exact q'
  have none_ : its.any (fun _ => false) = false := by simp
  cases rd with
  | none =>
    refine fin _ _ (fun y hy => ?_) none_ q
    obtain ⟨z, t, rfl, _⟩ := str_items r y hy
    exact SeqAt.EqAt.str_none z t
  | bool b =>
    refine fin _ _ (fun y hy => ?_) none_ q
    obtain ⟨z, t, rfl, _⟩ := str_items r y hy
    exact SeqAt.EqAt.str_bool z t b
  | int i t1 =>
    refine fin _ _ (fun y hy => ?_) none_ q
    obtain ⟨z, t, rfl, _⟩ := str_items r y hy
    exact SeqAt.EqAt.str_int z t i t1
  | str x t1 =>
    refine fin (isS x) _ (fun y hy => ?_) (any_isS r) q
    obtain ⟨z, t, rfl, _⟩ := str_items r y hy
    exact SeqAt.EqAt.str_str z t x t1
  | list k1 k2 k3 k4 =>
    refine fin _ _ (fun y hy => ?_) none_ q
    obtain ⟨z, t, rfl, _⟩ := str_items r y hy
    exact SeqAt.EqAt.str_list z t ⟨_, k1, k2, _, k3⟩ hin
  | tuple k1 k2 k3 k4 =>
    refine fin _ _ (fun y hy => ?_) none_ q
    obtain ⟨z, t, rfl, _⟩ := str_items r y hy
    exact SeqAt.EqAt.str_tuple z t ⟨_, k1, k2, _, k3⟩ hin
  | dict k1 k2 k3 k4 k5 =>
    refine fin _ _ (fun y hy => ?_) none_ q
    obtain ⟨z, t, rfl, _⟩ := str_items r y hy
    exact SeqAt.EqAt.str_dict z t k1 k2 k3 hin
/-! ### a kept error -/
section
variable {X : Cx} {x f : Str} {C fI : Addr}
def tXq (C : Addr) (f : Str) (te : TE) : TE := fun σ H Q => te σ H fun y H1 => ∃ (a d : Addr) (fs : List (Str × V)) (v : V), y = .ref a ∧ H1 a = some (exq a (.ref C) (some d)) ∧ H1 d = some (.xd fs) ∧ fs.lookup f = some v ∧ Q v H1
theorem pe_exq {e : Expr} {te : TE} {pos : Pos} (T : WkX.ExcT X.K X.mg x f C fI) (he : PE X e te) (hb : attributeBase e f X.env (eval e X.env) = eval e X.env := by rfl) : PE X (.Attribute e f pos) (tXq C f te) := by
  refine ⟨fun pins s σ H Q I h => ?_⟩
  refine attr_of hb (thn (he.run pins s σ H _ I h) fun u s1 hh => ?_)
  obtain ⟨y, H1, I1, ry, a, d, fs, v, ey, ea, ed, hl, q⟩ := hh
  subst ey
  obtain rfl : u = Value.ref a := ry
  obtain ⟨oe, vs, ha, hz, hd⟩ := exq_at I1.hok ea
  have hx : ObjOk X.prog X.w H1 s1.heap d (.xd fs) := I1.hok d _ ed
  obtain ⟨mA, hns, hr⟩ := hx
  obtain ⟨od, ho, hlk⟩ := lookIn_ns hns
  obtain ⟨u, hu, ru⟩ := RelO.some_of (v := v) (o := mA f) (by rw [← hl]; exact hr f)
  have J : PySem.W.InstAt s1.heap a oe C (some od) := ⟨ha, hz.1, by unfold PySem.W.notCls; rw [hd] <;> rfl, by rw [hz.2]; exact ho⟩
  exact HandSPX.exc_get I1.kIn J T.ga T.gg T.exC (PySem.W.findObj_own T.hdC T.noN rfl (by rw [hlk, hu])) (handed_of ru) ⟨v, H1, I1.tok _, ru, q⟩
def rIsQ (K : PySem.W.Frag) (mg : Str → Option Value) : List V → Hp → VK → Prop := fun xs H Q => ∃ (a d C fI : Addr) (x f : Str) (fs : List (Str × V)) (c : V) (u : Value) (b : Bool), xs = [.ref a, c] ∧ WkX.ExcT K mg x f C fI ∧ H a = some (exq a (.ref C) (some d)) ∧ H d = some (.xd fs) ∧ ClsV c u ∧ PySem.W.kitOne K (.ref C) u = some b ∧ Q (.bl b) H
theorem call_isQ : CallR X (.builtin "isinstance") (rIsQ X.K X.mg) := by
  intro pins s σ H xs us Q I r h
  obtain ⟨a, d, C, fI, x, f, fs, c, u, b, rfl, T, ea, ed, k, e, q⟩ := h
  obtain ⟨u1, u2, rfl, r1, r2⟩ := vals2 r
  have e2 := k.eq r2
  subst e2
  obtain rfl : u1 = Value.ref a := r1
  obtain ⟨oe, vs, ha, hz, hd⟩ := exq_at I.hok ea
  have hx : ObjOk X.prog X.w H s.heap d (.xd fs) := I.hok d _ ed
  obtain ⟨mA, hns, hr⟩ := hx
  obtain ⟨od, ho, hlk⟩ := lookIn_ns hns
  have J : PySem.W.InstAt s.heap a oe C (some od) := ⟨ha, hz.1, by unfold PySem.W.notCls; rw [hd] <;> rfl, by rw [hz.2]; exact ho⟩
  exact PySem.W.kia_one (PySem.W.kitx_exc T.icl T.ga T.gg T.exC T.iha T.ihn T.itk T.ihm) I.kIn J e (fun z => nomatch z) fun tk => ⟨.bl b, H, I.tok tk, rfl, q⟩
end
/-! ### x == y by an own __eq__ -/
def EqC (P : Program) (w : World) (K : PySem.W.Frag) (mg : Str → Option Value) (base : Heap) (C : Addr) (k : Nat) (sp : Sp) : Prop := ∃ f fd ps, PySem.W.findIn K (.ref C) "__eq__" = some (some (.ref f)) ∧ PySem.W.isFn K (.ref f) = true ∧ FnOk P w K mg base CX0 k f fd ps sp ∧ Binds K fd ps []
def rEqI (C : Addr) (sp : Sp) : R2 := fun x y H Q => ∃ a b dx dy fs gs, x = .ref a ∧ y = .ref b ∧ H a = some (.ins C dx fs) ∧ H b = some (.ins C dy gs) ∧ sp [.ref a, .ref b] H (fun v H' => ∃ r, v = .bl r ∧ Q (.bl r) H') (fun _ _ _ => False)
theorem op_eqI {X : Cx} {C : Addr} {n : Nat} {sp : Sp} (E : EqC X.prog X.w X.K X.mg X.base C n sp) (hr : Room n X.A) : OpR X (compareOp .Eq) (rEqI C sp) := by
  intro pins s σ H x y v u Q I rx ry h
  obtain ⟨f, fd, ps, hs, hf, F, hb⟩ := E
  obtain ⟨a, b, dx, dy, fs, gs, rfl, rfl, ha, hb', hsp⟩ := h
  cases rx
  cases ry
  obtain ⟨mA, J, _⟩ := ins_get I.hok ha
  obtain ⟨mB, J', _⟩ := ins_get I.hok hb'
  obtain ⟨od, J, _⟩ := J.look
  obtain ⟨od', J', _⟩ := J'.look
  obtain ⟨m, hF⟩ := I.fr
  show wpAny (model X.prog X.w) X.A (richCompare .Eq (.ref a) (.ref b)) (EP X pins σ Q) X.xe s
  refine PySem.W.cmp_K (op := .Eq) (tb := .ref C) hr.units0 hF I.ok.mod.kin J J'.type (by simp [PySem.W.notFirst]) hs hf ?_
  have hl := F.len _ _ _ _ hsp
  have r2 : Vals [V.ref a, V.ref b] [Value.ref a, Value.ref b] := .cons rfl (.cons rfl .nil)
  refine wpAny_call (codeAny_mono (F.run X.A X.stack s H ⟨[.ref a, .ref b], []⟩ [.ref a, .ref b] [.ref a, .ref b] _ _ hr I.env0 (by
    have := hb s [.ref a, .ref b] I.kIn (by simpa using hl)
    simpa using this) r2 hsp) fun r s' hq => ?_)
  cases r with
  | error e => exact False.elim hq
  | ok fl =>
    cases fl with
    | ret w =>
      obtain ⟨z, H', I', rz, r, ez, ex⟩ := I.after hq
      subst ez
      cases rz
      exact ⟨.bl r, H', I', rfl, ex⟩
    | next => exact False.elim hq
    | brk => exact False.elim hq
    | cont => exact False.elim hq
end WkK
namespace WkK
open PySem PySem.Spec PyProof.Rows L2 WkD WkN
/-! ### rows beside rows -/
def rowB (ks ls : List Str) (f g : Str → Int) : Bool := ks.length == ls.length && ks.all fun u => decide (u ∈ ls) && (f u == g u)
def rowsB (Vs Ws : List Str) (nb nb' : Nb) (wt wt' : Wt) : Bool := Vs.length == Ws.length && Vs.all fun u => decide (u ∈ Ws) && rowB (nb u) (nb' u) (wt u) (wt' u)
def keyF (h : Str → Bool) : Key → Bool
  | .inr u => h u
  | .inl _ => false
theorem hits_gen {P : Program} {w : World} {A : Around} {s : Shared} {e : Key → Bool} {ls : List (Key × V)} {vb : List (Key × Value)} (rb : KV ls vb) {ks : List (Key × V)} {va : List (Key × Value)}
    (ra : KV ks va) : (∀ p ∈ ks, ∀ u, valV ls p.1 = some u → ∀ v y, RelV p.2 v → RelV u y → SeqAt.EqP P w A s v y (e p.1)) → PySem.W.KeqHitsP P w A s vb va (ks.all fun p => (valV ls p.1).isSome && e p.1) := by
  unfold KV at ra
  induction ra with
  | nil => intro _; exact .nil
  | @cons p q ps qs h t k =>
    intro hp
    obtain ⟨h1, h2⟩ := h
    obtain ⟨key, v⟩ := q
    have h1' : p.1 = key := h1
    have hr : RelO (valV ls p.1) (valueAt vb p.1) := rb.val p.1
    have ih := k fun p' hm => hp p' (List.mem_cons_of_mem _ hm)
    rw [List.all_cons]
    cases hv : valV ls p.1 with
    | none =>
      rw [hv] at hr
      have hn : valueAt vb p.1 = none := by
        cases z : valueAt vb p.1 with
        | none => rfl
        | some y =>
          rw [z] at hr
          exact hr.elim
      rw [h1'] at hn
      exact .miss hn
    | some u =>
      rw [hv] at hr
      obtain ⟨y, hy, ry⟩ := RelO.some_of hr
      have q := hp p List.mem_cons_self u hv v y h2 ry
      rw [h1'] at hy
      show PySem.W.KeqHitsP P w A s vb ((key, v) :: qs) ((true && e p.1) && _)
      rw [Bool.true_and]
      exact .hit hy q ih
theorem dct_all {ks ls : List Str} {f g : Str → V} {e : Key → Bool} : ((dct ks f).all fun p => (valV (dct ls g) p.1).isSome && e p.1) = ks.all fun u => decide (u ∈ ls) && e (Sum.inr u) := by
  unfold dct
  rw [List.all_map]
  refine List.all_congr rfl fun u => ?_
  show ((valV (dct ls g) (Sum.inr u)).isSome && _) = _
  rw [dct_val]
  by_cases h : u ∈ ls
  · simp [h]
  · simp [h]
theorem rowB_refl {ks : List Str} {f : Str → Int} : rowB ks ks f f = true := by
  unfold rowB
  simp
theorem dct_inj {ks ls : List Str} {f g : Str → V} (h : dct ks f = dct ls g) : ks = ls ∧ ∀ u ∈ ks, f u = g u := by
  have e : ks = ls := by
    have := congrArg (fun l => l.map (·.1)) h
    simp only [dct_keys] at this
    have z : ∀ {l m : List Str}, l.map (Sum.inr : Str → Int ⊕ Str) = m.map Sum.inr → l = m := by
      intro l
      induction l with
      | nil => intro m h; cases m <;> first | rfl | cases h
      | cons x l ih =>
        intro m h
        cases m with
        | nil => cases h
        | cons y m =>
          rw [List.map_cons, List.map_cons, List.cons.injEq] at h
          rw [Sum.inr.inj h.1, ih h.2]
    exact z this
  subst e
  refine ⟨rfl, fun u hu => ?_⟩
  unfold dct at h
  have := List.map_inj_left.mp h u hu
  exact (Prod.mk.inj this).2
section
variable {X : Cx} {pins : List (Addr × Obj)} {σ : L2.St} {H : Hp} {s : Shared}
theorem row_run (I : Inv X pins σ H s) {A : Around} (hu : A.units < cLine) {a b : Addr} {ks ls : List Str} {f g : Str → Int} (ha : Rd H a (.dK (dct ks fun v => .int (f v)))) (hb : Rd H b (.dK (dct ls fun v => .int (g v)))) : SeqAt.EqP X.prog X.w A s (.ref a) (.ref b) (rowB ks ls f g) := by
  by_cases e : a = b
  · subst e
    have z : dct ks (fun v => V.int (f v)) = dct ls fun v => V.int (g v) := by
      rcases ha with ha | ⟨o, ha⟩ <;> rcases hb with hb | ⟨o', hb⟩ <;> rw [ha] at hb
      · exact HO.dK.inj (Option.some.inj hb)
      · exact nomatch hb
      · exact nomatch hb
      · exact HO.dK.inj (HO.frz.inj (Option.some.inj hb)).2
    obtain ⟨rfl, z2⟩ := dct_inj z
    have : rowB ks ks f g = true := by
      unfold rowB
      simp only [beq_self_eq_true, Bool.true_and, List.all_eq_true]
      intro u hu
      have := V.int.inj (z2 u hu)
      simp [hu, this]
    rw [this]
    exact (SeqAt.EqAt.same _).eqP
  · refine SeqAt.eqP_refs e fun E Q q => ?_
    obtain ⟨_, ya, va, ra, da⟩ := dk_rd I.hok ha
    obtain ⟨_, yb, vb, rb, db⟩ := dk_rd I.hok hb
    refine PySem.W.rcP_dicts (knd := mixKind X.prog X.w) ya yb da db hu (fun _ => hits_gen (e := keyF fun u => f u == g u) rb ra ?_) E Q ?_
    · intro p hp u hv v y rv ry
      obtain ⟨z, hz, rfl⟩ := List.mem_map.mp hp
      have hv : valV (dct ls fun v => .int (g v)) (Sum.inr z) = some u := hv
      rw [dct_val] at hv
      by_cases hm : z ∈ ls
      · rw [if_pos hm] at hv
        cases hv
        obtain ⟨t1, rfl⟩ := rv
        obtain ⟨t2, rfl⟩ := ry
        exact (SeqAt.EqAt.int_int _ t1 _ t2).eqP
      · rw [if_neg hm] at hv
        cases hv
    · rw [dct_all (e := keyF fun u => f u == g u), ← ra.length, ← rb.length, dct_len, dct_len]
      exact q
def rEqRows : R2 := fun x y H Q => ∃ (a b : Addr) (Vs Ws : List Str) (ad bd : Str → Addr) (nb nb' : Nb) (wt wt' : Wt), x = .ref a ∧ y = .ref b ∧ RowsR H a Vs ad nb wt ∧ RowsR H b Ws bd nb' wt' ∧ Q (.bl (rowsB Vs Ws nb nb' wt wt')) H
theorem op_eqRows (hu : X.A.units + 1 < cLine) : OpR X (compareOp .Eq) rEqRows := by
  intro pins s σ H x y v u Q I rx ry h
  obtain ⟨a, b, Vs, Ws, ad, bd, nb, nb', wt, wt', rfl, rfl, ha, hb, q⟩ := h
  cases rx
  cases ry
  obtain ⟨_, ya, va, ra, da⟩ := dk_rd I.hok ha.top
  obtain ⟨_, yb, vb, rb, db⟩ := dk_rd I.hok hb.top
  show wpAny (model X.prog X.w) X.A (richCompare .Eq (.ref a) (.ref b)) (EP X pins σ Q) X.xe s
  refine PySem.W.rcP_dicts (knd := mixKind X.prog X.w) ya yb da db (by omega) (fun _ => hits_gen (e := keyF fun u => rowB (nb u) (nb' u) (wt u) (wt' u)) rb ra ?_) _ _ ?_
  · intro p hp u hv v y rv ry
    obtain ⟨z, hz, rfl⟩ := List.mem_map.mp hp
    have hv : valV (dct Ws fun u => .ref (bd u)) (Sum.inr z) = some u := hv
    rw [dct_val] at hv
    by_cases hm : z ∈ Ws
    · rw [if_pos hm] at hv
      cases hv
      cases rv
      cases ry
      exact row_run I (A := X.A.in1) hu (ha.row z hz) (hb.row z hm)
    · rw [if_neg hm] at hv
      cases hv
  · refine ⟨.bl _, H, I, rfl, ?_⟩
    rw [dct_all (e := keyF fun u => rowB (nb u) (nb' u) (wt u) (wt' u)), ← ra.length, ← rb.length, dct_len, dct_len]
    exact q
end
/-! ### o.m(e, ..), what it may let out told by the slots -/
section
variable {X : Cx} {CX : CXT} {k : Nat} {C : Addr} {sp : Sp} {E : L2.St → XK} {m : Str} {pos apos : Pos} {e o : Expr} {es : List Expr} {ta : TE} {t : TA}
def tMtS (C : Addr) (m : Str) (sp : Sp) (E : L2.St → XK) (ta : TE) (t : TA) : TE := fun σ H Q => ta σ H fun x H1 => ∃ a dx fs, x = .ref a ∧ H1 a = some (.ins C dx fs) ∧ fs.lookup m = none ∧ t σ H1 fun vs H2 => sp (x :: vs) H2 Q (E σ)
theorem pe_mtS {pl : Sem Bool} (h : WkC.MethC X.prog X.w X.K X.mg X.base CX C m k sp) (c : Cls X.K C) (hr : Room k X.A) (hx : ∀ σ, PassesAt CX X σ (E σ)) (he : PE X o ta) (ha : PA X (e :: es) t)
    (hst : starEach (e :: es) X.env = (false, eval e X.env) :: starEach es X.env := by rfl) (hpl : (backTo pos (starEach es X.env)).any (·.1) = false := by rfl)
    (ht : eval (.Call (.Attribute o m apos) (e :: es) [] pos) X.env = (do let ov ← eval o X.env; standAt apos.atName; let (f, first) ← holding [ov] (getMethod ov m pl); callWith pos f first (backTo pos (starEach (e :: es) X.env)) (backToKw pos (keywordEach [] X.env))) := by rfl) :
    PE X (.Call (.Attribute o m apos) (e :: es) [] pos) (tMtS C m sp E ta t) := by
  obtain ⟨f, fd, ps, hm, F, hb⟩ := h
  refine ⟨fun pins s σ H Q I h => ?_⟩
  refine PySem.W.methodCall_KW (pl := pl) (thn (he.run pins s σ H _ I h) fun u s1 ⟨x, H1, I1, rx, a, dx, fs, ex, ea, l, q⟩ => ?_) ht
  subst ex
  obtain rfl : u = Value.ref a := rx
  refine getmeth_ok I1 ea c hm l ?_
  refine PySem.W.callWith_K (first := [.ref a]) (h₀ := X.base) I.ok.mod.kin hm.kp (thn (ha.run pos pins s1 σ H1 _ I1 q) fun us s2 ⟨vs, H2, I2, r, q2⟩ => ⟨I2.kIn, ?_⟩) hst hpl
  exact run_fnS (E := E) (us := .ref a :: us) (vs := .ref a :: vs) F hr hb (hx σ) I2 (.cons rfl r) q2
end
/-! ### a def that writes -/
def CalleeG (P : Program) (w : World) (K : PySem.W.Frag) (mg : Str → Option Value) (base : Heap) (CX : CXT) (k : Nat) (x : Str) (ps : List Str) (sp : Sp) : Prop :=
  ∃ f fd, WkG.FnG P w K mg base CX k f fd ps sp ∧ mg x = some (.ref f) ∧ PySem.W.keepIn K (.ref f) = true ∧ Binds K fd ps []
section
variable {X : Cx} {CX : CXT} {k : Nat} {ps : List Str} {sp : Sp} {E : XK} {x : Str} {p pos : Pos} {e : Expr} {es : List Expr} {t : TA}
theorem pe_cG (C : CalleeG X.prog X.w X.K X.mg X.base CX k x ps sp) (hG : X.A.guards = some []) (hr : Room k X.A) (hx : Passes CX X E) (ha : PA X (e :: es) t) (hg : Gl X x := by rfl) (hdb : (x == ("__debug__" : Str)) = false := by decide)
    (he : starEach (e :: es) X.env = (false, eval e X.env) :: starEach es X.env := by rfl) (hpl : (backTo pos (starEach es X.env)).any (·.1) = false := by rfl) : PE X (.Call (.Name x p) (e :: es) [] pos) (tCall sp [] E t) := by
  obtain ⟨f, fd, F, g, kp, b⟩ := C
  exact WkG.pe_callG F hG hr hg g kp b .nil hx ha hdb he hpl
end
end WkK
namespace Wk
open PySem PySem.Spec PyProof.Rows L2 WkD WkN LamX WkP WkE WkC
section
variable {P : Program} {w : World} {K : PySem.W.Frag} {mg : Str → Option Value} {base : Heap}
/-! ### what the laws share -/
theorem NetO.keep {H H' : Hp} {x C : Addr} {rest : List (Str × V)} {vs : List Str} {nb : Nb} {wt : Wt} {t : Str} {n : Int} {m e : Addr} {r s : Int} (N : NetO H x C rest vs nb wt t n m e r s) (k : ∀ c o, H c = some o → (c = x ∨ ∃ o1 o2, o = .frz o1 o2) → H' c = some o) : NetO H' x C rest vs nb wt t n m e r s := by
  obtain ⟨dx, p, ad, hx, rz⟩ := N.ex
  obtain ⟨o, ht⟩ := rz.top
  refine ⟨⟨dx, p, ad, k _ _ hx (.inl rfl), ⟨o, k _ _ ht (.inr ⟨_, _, rfl⟩)⟩, fun u hu => ?_⟩, N.rst, N.asc, N.an, N.gok, N.lc, N.rt⟩
  obtain ⟨o2, h2⟩ := rz.row u hu
  exact ⟨o2, k _ _ h2 (.inr ⟨_, _, rfl⟩)⟩
theorem NetO.stay {H H' : Hp} {x C : Addr} {rest : List (Str × V)} {vs : List Str} {nb : Nb} {wt : Wt} {t : Str} {n : Int} {m e : Addr} {r s : Int} (N : NetO H x C rest vs nb wt t n m e r s) (k : StayE H H') : NetO H' x C rest vs nb wt t n m e r s := by
  obtain ⟨dx, p, ad, hx, rz⟩ := id N.ex
  refine N.keep fun c o h e => k c o h ?_
  rcases e with rfl | ⟨o1, o2, rfl⟩
  · rw [hx] at h
    cases h
    exact trivial
  · exact trivial
theorem GOk.rows_few {vs : List Str} {nb : Nb} {wt : Wt} (g : GOk vs nb wt) (few : vs.length ≤ 1000) : ∀ u ∈ vs, (nb u).length ≤ 1000 := fun u hu => by
  have : (nb u).length ≤ vs.length := (g.sym.nd u hu).length_le_of_subset fun v hv => (g.sym.mem u hu v hv).1
  omega
theorem GOk.nn {vs : List Str} {nb : Nb} {wt : Wt} (g : GOk vs nb wt) : ∀ u ∈ vs, ∀ v ∈ vs, 0 ≤ vl0 nb wt u v := fun u hu v hv => by
  unfold vl0
  split
  · rename_i h
    have := (g.wts u hu v h).1
    omega
  · exact Int.le_refl 0
/-- a pen, a drawn network, and the house that was made of it -/
structure InH (T : List (Addr × Str)) (C p cs q va ea x : Addr) (vs : List Str) (es : EdD) (rt : Str) (N : Nat) (H : Hp) : Prop where
  tb : Tabs T H
  pen : Pen H p cs N
  net : NetAt H q va ea vs es rt
  hx : ∃ nb wt n m en s, NetO H x C [] vs nb wt rt n m en 0 s ∧ edL vs nb wt = edS es
  fq : q ≠ p
  fa : va ≠ p
  fe : ea ≠ p
section
variable {T : List (Addr × Str)} {C p cs q va ea x : Addr} {vs : List Str} {es : EdD} {rt : Str} {N : Nat} {H H' : Hp}
theorem InH.but (h : InH T C p cs q va ea x vs es rt N H) (b : But p H H') {M : Nat} (P : Pen H' p cs M) : InH T C p cs q va ea x vs es rt M H' := by
  obtain ⟨⟨t', r', hp, _⟩, _⟩ := id h.pen
  obtain ⟨nb, wt, n, m, en, s, h1, h4⟩ := h.hx
  exact ⟨tabs_but h.tb hp trivial b, P, ⟨b _ _ h.net.top h.fq, b _ _ h.net.ver h.fa, b _ _ h.net.edg h.fe, h.net.ok⟩, ⟨nb, wt, n, m, en, s, h1.stay (StayE.but b h.pen), h4⟩, h.fq, h.fa, h.fe⟩
theorem InH.same (h : InH T C p cs q va ea x vs es rt N H) (s : Same H H') : InH T C p cs q va ea x vs es rt N H' := h.but (But.of_same s) (h.pen.same s)
theorem InH.mono (h : InH T C p cs q va ea x vs es rt N H) {M : Nat} (k : N ≤ M) : InH T C p cs q va ea x vs es rt M H := ⟨h.tb, h.pen.mono k, h.net, h.hx, h.fq, h.fa, h.fe⟩
end
theorem nstr {K : PySem.W.Frag} {t : String} (h : t = "NoneType" ∨ t = "bool" ∨ t = "int" ∨ t = "tuple" ∨ t = "list" ∨ t = "dict") : PySem.W.kitOne K (.type t) (.type "str") = some false := by
  rcases h with rfl | rfl | rfl | rfl | rfl | rfl <;> rfl
/-- an odd value -/
def OddV (K : PySem.W.Frag) (H : Hp) (v : V) : Prop := ∃ d, WkG.Dx K H v d ∧ WkG.FitsD d 1000 3 ∧ AnyV K H v
theorem AnyV.same' {H H' : Hp} {x : V} (h : AnyV K H x) (s : Same H H') : AnyV K H' x := by
  rcases h with h | ⟨h1, t, h2, h3⟩
  · exact .inl h
  · exact .inr ⟨h1, t, tyx_same s h2, h3⟩
theorem in_is {H : Hp} {v : V} {d : PyData} {vs : List Str} (hd : WkG.Dx K H v d) : WkK.inD d vs = true ↔ IsIn v vs := by
  cases hd with
  | non => exact ⟨(fun h => by cases h), (fun ⟨y, _, e⟩ => by cases e)⟩
  | bl _ => exact ⟨(fun h => by cases h), (fun ⟨y, _, e⟩ => by cases e)⟩
  | int _ => exact ⟨(fun h => by cases h), (fun ⟨y, _, e⟩ => by cases e)⟩
  | str y => exact ⟨fun h => ⟨y, of_decide_eq_true h, rfl⟩, fun ⟨y', h, e⟩ => by cases e; exact decide_eq_true h⟩
  | lst _ _ => exact ⟨(fun h => by cases h), (fun ⟨y, _, e⟩ => by cases e)⟩
  | tup _ _ => exact ⟨(fun h => by cases h), (fun ⟨y, _, e⟩ => by cases e)⟩
  | dK _ _ _ _ _ => exact ⟨(fun h => by cases h), (fun ⟨y, _, e⟩ => by cases e)⟩
  | dT _ _ _ _ => exact ⟨(fun h => by cases h), (fun ⟨y, _, e⟩ => by cases e)⟩
theorem cutV_hi {ys : List V} {k : Int} (h : 0 ≤ k) : cutV ys none (some k) = ys.take k.toNat := by
  obtain ⟨n, rfl⟩ : ∃ n : Nat, k = (n : Int) := ⟨k.toNat, by omega⟩
  unfold cutV
  rw [HT.sIx_none, HT.sIx_nat]
  simp only [Nat.sub_zero, List.drop_zero, Int.toNat_natCast]
  rcases Nat.le_total n ys.length with q | q
  · rw [Nat.min_eq_left q]
  · rw [Nat.min_eq_right q, List.take_of_length_le (Nat.le_refl _), List.take_of_length_le q]
theorem cutV_lo {ys : List V} {k : Int} (h : 0 ≤ k) : cutV ys (some k) none = ys.drop k.toNat := by
  obtain ⟨n, rfl⟩ : ∃ n : Nat, k = (n : Int) := ⟨k.toNat, by omega⟩
  unfold cutV
  rw [HT.sIx_none, HT.sIx_nat]
  simp only [Int.toNat_natCast]
  rcases Nat.le_total n ys.length with q | q
  · rw [Nat.min_eq_left q]
    exact List.take_of_length_le (by rw [List.length_drop]; omega)
  · rw [Nat.min_eq_right q, List.drop_of_length_le (Nat.le_refl _), List.drop_of_length_le q]
    exact List.take_nil
end
end Wk
/-! WkGf: `for … in …:` in a generator def's body. -/
namespace PySem
open Sem (wp)
section
variable {prog : Program} {w : World} {A : Around} {R : GenEnd} {Y : Protocol} {n : Nat} {s₀ : Shared} {c : Code} {fs : List Frame} {s : Shared} {env : Env}
  {K : Flow → Sem Fin} {H : Value → Sem Fin} {gd : Bool → Bool} {lv : List Value → List Value}
/-- what a loop's call does with an exception that comes back -/
def backIn (env : Env) (x : Value) : Sem Unit := do
  if (← field x 1) == Value.none then unsupported "frame.own-activation:exception-without-traceback"
  setFlight x env.frame
theorem seg_For {target iter : Expr} {body orelse : List Stmt} {pos : Pos} (hs : ∀ x, foldedSetIterable iter env x = pure x)
    (h : wpAny (model prog w) (A.over c fs) (eval iter env) (fun v s1 => wpAny (model prog w) (A.over c fs) (pyIter v) (fun it s2 =>
      ∀ p, Seg (model prog w) A R Y n s₀ (.forLoop target it body orelse env) ((model prog w).den (.forLoop target it body orelse env))
      (.ret (fun r => ((match r with | .ok f => (.pure f : Sem Flow) | .error e => .raise e).onRaise (backIn env)).wrap K H gd lv) none (gd false) (lv []) c p [] :: fs) s2)
        (fun x s' => Seg (model prog w) A R Y n s₀ c (H x) fs s') s1) (fun x s' => Seg (model prog w) A R Y n s₀ c (H x) fs s') s) :
    Seg (model prog w) A R Y n s₀ c ((exec (.For target iter body orelse pos) env).wrap K H gd lv) fs s := by
  rw [exec_For]
  refine seg_at ?_
  show Seg _ A R Y n s₀ c ((eval iter env >>= fun v => foldedSetIterable iter env v >>= fun x => standAt iter.pos >>= fun _ => holding [x] (pyIter x) >>= fun it => runOwn (.forLoop target it body orelse env) env).wrap K H gd lv) fs s
  rw [Sem.bind_eq_wrap', Sem.wrap_wrap]
  refine seg_wrap (wpAny_mono h (fun v s1 h1 => ?_) fun x s' hx => hx)
  rw [hs v]
  show Seg _ A R Y n s₀ c ((standAt iter.pos >>= fun _ => holding [v] (pyIter v) >>= fun it => runOwn (.forLoop target it body orelse env) env).wrap K H gd lv) fs s1
  refine seg_at ?_
  show Seg _ A R Y n s₀ c ((holding [v] (pyIter v) >>= fun it => runOwn (.forLoop target it body orelse env) env).wrap K H gd lv) fs s1
  rw [Sem.bind_eq_wrap', Sem.wrap_wrap]
  refine seg_wrap (wpAny_holding (wpAny_mono h1 (fun it s2 h2 => ?_) fun x s' hx => hx))
  exact seg_call h2

theorem seg_forLoop {target : Expr} {it : Value} {body : List Stmt}
    (h : wpAny (model prog w) (A.over (.forLoop target it body [] env) fs) (pyNext it) (fun r s1 => match r with
        | none => Seg (model prog w) A R Y n s₀ (.block [] env) (leafOf (.ok .next)) fs s1
        | some v => wpAny (model prog w) (A.over (.forLoop target it body [] env) fs) (letOwnedTupleGo target it v) (fun _ s2 =>
            wpAny (model prog w) (A.over (.forLoop target it body [] env) fs) (assign target env v) (fun _ s3 =>
              Seg (model prog w) A R Y n s₀ (.forLoop target it body [] env) ((execs body env).wrap (fun f => match f with
                | .next | .cont => .pure (.again (.forLoop target it body [] env))
                | .brk => .pure (.done .next)
                | .ret v => .pure (.done (.ret v))) (fun e => (do noteFrame e env; theTreesLotGoes e : Sem Unit).wrap (fun _ => .raise e) .raise id id) id id) fs s3)
            (fun x s' => Seg (model prog w) A R Y n s₀ (.forLoop target it body [] env) ((do noteFrame x env; theTreesLotGoes x : Sem Unit).wrap (fun _ => .raise x) .raise id id) fs s') s2)
          (fun x s' => Seg (model prog w) A R Y n s₀ (.forLoop target it body [] env) ((do noteFrame x env; theTreesLotGoes x : Sem Unit).wrap (fun _ => .raise x) .raise id id) fs s') s1)
      (fun x s' => Seg (model prog w) A R Y n s₀ (.forLoop target it body [] env) ((do noteFrame x env; theTreesLotGoes x : Sem Unit).wrap (fun _ => .raise x) .raise id id) fs s') s) :
    Seg (model prog w) A R Y n s₀ (.forLoop target it body [] env) ((model prog w).den (.forLoop target it body [] env)) fs s := by
  have eX : ∀ x s', Seg (model prog w) A R Y n s₀ (.forLoop target it body [] env) ((do noteFrame x env; theTreesLotGoes x : Sem Unit).wrap (fun _ => .raise x) .raise id id) fs s' →
      Seg (model prog w) A R Y n s₀ (.forLoop target it body [] env) ((do noteFrame x env; theTreesLotGoes x : Sem Unit).bind fun _ => (.raise x : Sem Fin)) fs s' := fun x s' h => by
    rw [Sem.bind_eq_wrap]; exact h
  show Seg _ A R Y n s₀ _ ((forTurn target it body [] env).onRaise (fun x => do noteFrame x env; theTreesLotGoes x)) fs s
  simp only [forTurn]
  rw [Sem.onRaise_eq_wrap]
  rw [Sem.bind_eq_wrap', Sem.wrap_wrap]
  refine seg_wrap (wpAny_standAt ?_)
  rw [Sem.bind_eq_wrap', Sem.wrap_wrap]
  refine seg_wrap (wpAny_onRaise (wpAny_mono h (fun r s1 h1 => ?_) fun x s' hx => wpAny_standAt (eX x s' hx)))
  cases r with
  | none =>
    refine seg_again rfl ?_
    exact h1
  | some v =>
    show Seg _ A R Y n s₀ _ (Sem.wrap _ _ _ _ (letOwnedTupleGo target it v >>= fun _ => assign target env v >>= fun _ => execs body env >>= _)) fs s1
    rw [Sem.bind_eq_wrap', Sem.wrap_wrap]
    refine seg_wrap (wpAny_mono h1 (fun _ s2 h2 => ?_) fun x s' hx => eX x s' hx)
    rw [Sem.bind_eq_wrap', Sem.wrap_wrap]
    refine seg_wrap (wpAny_mono h2 (fun _ s3 h3 => ?_) fun x s' hx => eX x s' hx)
    rw [Sem.bind_eq_wrap', Sem.wrap_wrap]
    rw [Sem.wrap_congr (execs body env) _ _ (K' := fun f => match f with
            | .next | .cont => .pure (.again (.forLoop target it body [] env))
            | .brk => .pure (.done .next)
            | .ret v => .pure (.done (.ret v))) (H' := (fun e => (do noteFrame e env; theTreesLotGoes e : Sem Unit).wrap (fun _ => .raise e) .raise id id))
        (fun f => by cases f <;> rfl)
        (fun e => by first | exact Sem.bind_eq_wrap _ _ | (show (do noteFrame e env; theTreesLotGoes e : Sem Unit).bind (fun _ => .raise e) = _; rw [Sem.bind_eq_wrap]))]
    exact h3
end
end PySem

namespace L2
open PySem PySem.Spec PyProof.Rows GenW
section
variable {X : Cx}
/-- W: the invariant by the turn, a measure and what is out; N: what the body is to reach -/
def tGFor (wi : TI) (g : TG) (tb : TGn) : TGn := fun D ys σ H => wi σ H fun J H1 => ∃ W : Nat → Nat → List V → St → Hp → Prop, (∃ m, W 0 m ys σ H1) ∧ ∀ i m ys σ H, W i m ys σ H →
  (J.stop i H ∧ D.nx ys σ H) ∨ (J.go i H ∧ ∃ N : List V → St → Hp → Prop, (∀ ys' σ' H', N ys' σ' H' → ∃ m', m' < m ∧ W (i + 1) m' ys' σ' H') ∧ ∀ x H', J.yld i H x H' → g x σ H' fun σ2 H2 => tb { D with nx := N, ct := N, bk := D.nx } ys σ2 H2)
theorem GI.unpin {S : Addr} {ip pl : List (Addr × Obj)} {ys : List V} {σ : St} {H : Hp} {s : Shared} (h : GI X S (ip ++ pl) ys σ H s) : GI X S ip ys σ H s := by
  obtain ⟨acc, c, r, I⟩ := h
  exact ⟨acc, c, r, Inv.unpinned (pl := pl) (pins := (S, lstObj acc c) :: ip) (by simpa using I)⟩
theorem gs_for {tg iter : Expr} {body : List Stmt} {wi : TI} {g : TG} {tb : TGn} {pos : Pos} (hp : PassesOwn (model X.prog X.w) X.A X.env X.xe) (hc : X.calm = true) (hi : PI X tg iter wi) (hg : PG X tg g) (hb : GSs X body tb)
    (hs : ∀ x, foldedSetIterable iter X.env x = pure x := by intro _; rfl) : GS X (.For tg iter body [] pos) (tGFor wi g tb) := by
  refine ⟨fun A S ip R n ys s₀ c fs K J gd lv s σ H D gg hn k hI ht => ?_⟩
  obtain ⟨acc0, cc0, r0, I0⟩ := hI
  refine seg_For hs ?_
  rw [gg.over]
  have xk : ∀ x s', X.xe x s' → Seg (model X.prog X.w) A R (GY X S) n s₀ c (J x) fs s' := fun x s' hx => k.exc n s₀ x s' hx
  refine wpAny_mono (hi.run _ s σ H _ I0 ht) (fun v s1 h1 => wpAny_mono h1 (fun itv s2 h2 => ?_) xk) xk
  intro p
  obtain ⟨it, fp, tn, JJ, H2, e, I2, T, st2, f2, W, ⟨m0, w0⟩, turn⟩ := h2
  subst e
  -- what stays true of the iterator's objects through the loop
  have fpS : ∀ b ∈ fp, b ≠ S := fun b hb e => by
    obtain ⟨_, _, _, _, _, h⟩ := f2 b hb
    exact h (S, lstObj acc0 cc0) (List.mem_append_right _ List.mem_cons_self) e.symm
  have stat : ∀ {H' : Hp} {acc : Array Value} {cc : Nat}, (∀ b ∈ fp, H' b = none) → ∀ b ∈ fp, FpOk X ((S, lstObj acc cc) :: ip) H' b := fun {H' acc cc} hn b hb => by
    obtain ⟨q0, q1, q2, q3, q4, q5⟩ := f2 b hb
    refine ⟨hn b hb, q1, q2, q3, q4, fun p hp => ?_⟩
    rcases List.mem_append.mp hp with hp | hp
    · exact q5 p (List.mem_append_left _ hp)
    · rcases List.mem_cons.mp hp with hp | hp
      · rw [hp]; exact Ne.symm (fpS b hb)
      · exact q5 p (List.mem_append_right _ (List.mem_cons_of_mem _ hp))
  have gl := fun (kk : Result → Sem PySem.Fin) => gc_loop (k := kk) (c' := .forLoop tg (.ref it) body [] X.env) (l := lv []) (kp := []) (p := p) gg rfl rfl
  have loop : ∀ (m i n : Nat) (ys : List V) (s₀ s : Shared) (σ : St) (H : Hp), n + ys.length = sizeLine → W i m ys σ H → GI X S ip ys σ H s → tn i s.heap → (∀ b ∈ fp, H b = none) →
      Seg (model X.prog X.w) A R (GY X S) n s₀ (.forLoop tg (.ref it) body [] X.env) ((model X.prog X.w).den (.forLoop tg (.ref it) body [] X.env))
        (.ret (fun r => ((match r with | .ok f => (.pure f : Sem Flow) | .error e => .raise e).onRaise (cameBack X.env)).wrap K J gd lv) none (gd false) (lv []) c p [] :: fs) s := by
    intro m
    induction m using Nat.strongRecOn with
    | ind m ih =>
      intro i n ys s₀ s σ H hn w hI st fr
      have ee : ∀ (n : Nat) (s₀ : Shared) (x : Value) (s' : Shared), X.xe x s' → Seg (model X.prog X.w) A R (GY X S) n s₀ (.forLoop tg (.ref it) body [] X.env)
          ((do noteFrame x X.env; theTreesLotGoes x : Sem Unit).wrap (fun _ => .raise x) .raise id id)
          (.ret (fun r => ((match r with | .ok f => (.pure f : Sem Flow) | .error e => .raise e).onRaise (cameBack X.env)).wrap K J gd lv) none (gd false) (lv []) c p [] :: fs) s' := fun n s₀ x s' hx => by
        refine seg_wrap ?_
        rw [(gl _).over]
        refine wpAny_bind (wpAny_mono (hp x s' hx) (fun _ s'' hcb => wpAny_theTreesLotGoes ?_) fun y s'' hcb => ?_)
        · exact seg_leaf (.error x) (seg_cameBack gg k hcb)
        · exact seg_leaf (.error y) (seg_cameBack gg k hcb)
      refine seg_forLoop ?_
      rw [(gl _).over]
      obtain ⟨acc, cc, r, I⟩ := hI
      rcases turn i m ys σ H w with ⟨stop, qn⟩ | ⟨go, N, hN, step⟩
      · refine wpAny_mono (T.done X rfl rfl rfl hc i _ s σ H X.xe I (stat fr) st stop) (fun r' s4 h4 => ?_) fun x s' hx => ee n s₀ x s' hx
        obtain ⟨hr, I4⟩ := h4
        subst hr
        exact seg_leaf (.ok .next) (k.ok n ys s₀ s4 .next hn ⟨σ, H, ⟨acc, cc, r, I4⟩, qn⟩)
      · refine wpAny_mono (T.item X rfl rfl rfl hc i _ s σ H X.xe I (stat fr) st go) (fun r' s4 h4 => ?_) fun x s' hx => ee n s₀ x s' hx
        obtain ⟨u, hr, h4⟩ := h4
        subst hr
        refine wpAny_mono h4 (fun _ s5 h5 => ?_) fun x s' hx => ee n s₀ x s' hx
        obtain ⟨x, H5, I5, r5, y5, st5, fr5⟩ := h5
        have I5' := I5.pinned (stat fr5) (T.obj _ _ st5)
        refine wpAny_mono (hg.run _ s5 σ H5 x u _ I5' r5 (step x H5 y5)) (fun _ s6 h6 => ?_) fun x s' hx => ee n s₀ x s' hx
        obtain ⟨σ6, H6, I6, q6⟩ := h6
        have gl' : ∀ kk, GC X S (ip ++ pinsAt fp s5.heap) A (.forLoop tg (.ref it) body [] X.env) (.ret kk none (gd false) (lv []) c p [] :: fs) id := fun kk => by
          obtain ⟨a1, a2, a3, a4, a5, a6, a7⟩ := gl kk
          refine ⟨a1, fun p hp => ?_, a3, a4, a5, a6, a7⟩
          rcases List.mem_append.mp hp with hp | hp
          · exact a2 p hp
          · exact fpS _ (of_pinsAt hp).1
        have again : ∀ {n' : Nat} {ys' : List V} {s₀' s7 : Shared} {σ7 : St} {H7 : Hp}, n' + ys'.length = sizeLine → GI X S (ip ++ pinsAt fp s5.heap) ys' σ7 H7 s7 → N ys' σ7 H7 →
            Seg (model X.prog X.w) A R (GY X S) n' s₀' (.forLoop tg (.ref it) body [] X.env) (.pure (.again (.forLoop tg (.ref it) body [] X.env)))
              (.ret (fun r => ((match r with | .ok f => (.pure f : Sem Flow) | .error e => .raise e).onRaise (cameBack X.env)).wrap K J gd lv) none (gd false) (lv []) c p [] :: fs) s7 := fun {n' ys' s₀' s7 σ7 H7} hn' I7 n7 => by
          obtain ⟨m', hm, w7⟩ := hN ys' σ7 H7 n7
          have I7u := GI.unpin I7
          obtain ⟨acc7, c7, r7, I7⟩ := I7
          have pp : ∀ b o, b ∈ fp → s5.heap.get? b = some o → _ := fun b o hb e => I7.pin (b, o) (List.mem_append_right _ (List.mem_cons_of_mem _ (List.mem_append_right _ (mem_pinsAt hb e))))
          refine seg_again rfl (ih m' hm (i + 1) n' ys' s₀' s7 σ7 H7 hn' w7 I7u (T.keep _ _ _ st5 fun b hb o e => (pp b o hb e).1) fun b hb => ?_)
          obtain ⟨o, e, d⟩ := T.obj _ _ st5 b hb
          exact (pp b o hb e).2.1
        refine hb.run A S (ip ++ pinsAt fp s5.heap) R n ys s₀ _ _ _ _ id id s6 σ6 H6 { D with nx := N, ct := N, bk := D.nx } (gl' _) hn ⟨fun n' ys' s₀' s7 f hn' hs => ?_, fun n' s₀' x s3 hx => ee n' s₀' x s3 hx⟩ ⟨acc, cc, r, I6⟩ q6
        cases f with
        | next => obtain ⟨σ7, H7, I7, n7⟩ := hs; exact again hn' I7 n7
        | cont => obtain ⟨σ7, H7, I7, n7⟩ := hs; exact again hn' I7 n7
        | brk => obtain ⟨σ7, H7, I7, q7⟩ := hs; exact seg_leaf (.ok .next) (k.ok n' ys' s₀' s7 .next hn' ⟨σ7, H7, I7.unpin, q7⟩)
        | ret v => obtain ⟨x7, σ7, H7, I7, r7, q7⟩ := hs; exact seg_leaf (.ok (.ret v)) (k.ok n' ys' s₀' s7 (.ret v) hn' ⟨x7, σ7, H7, I7.unpin, r7, q7⟩)
  exact loop m0 0 n ys s₀ s2 σ H2 hn w0 ⟨acc0, cc0, r0, I2⟩ st2 fun b hb => (f2 b hb).1
end
end L2
/-! WkGl: list(d.items()) of a dict that is read; a generator's loop over a list. -/
namespace LiI
open PySem PySem.Spec PyProof.Rows L2
def rItemsR : V → Hp → VK → Prop := fun x H Q => ∃ (d : Addr) (kvs : List (Key × V)), x = .ref d ∧ Rd H d (.dK kvs) ∧
  ∀ (H' : Hp) (p : Addr) (ts : List Addr), (∀ b o, H b = some o → H' b = some o) → H p = none → (∀ t ∈ ts, H t = none) → p ∉ ts → H' p = some (.lst (ts.map V.ref)) → Paired (fun (t : Addr) (q : Key × V) => H' t = some (.tup [kV q.1, q.2])) ts kvs → Q (.ref p) H'
def tListItemsR (te : TE) : TE := fun σ H Q => te σ H fun x H1 => rItemsR x H1 Q
section
variable {X : Cx} {e : Expr} {te : TE} {p apos cpos pos : Pos}
/-- list(e.items()) -/
theorem pe_listItemsR (hc : X.calm = true) (he : PE X e te) (hg : Gl X "list") (hm : X.mg "list" = none) (hv : bootBuiltins "list" = some (.type "list")) (hbase : attributeBase e "items" X.env (eval e X.env) = eval e X.env := by rfl) (hline : (apos.endLine == cpos.line) = true := by rfl)
    (hs : starEach [.Call (.Attribute e "items" apos) [] [] cpos] X.env = (false, eval (.Call (.Attribute e "items" apos) [] [] cpos) X.env) :: starEach [] X.env := by rfl) :
    PE X (.Call (.Name "list" p) [.Call (.Attribute e "items" apos) [] [] cpos] [] pos) (tListItemsR te) := by
  refine ⟨fun pins s σ H Q I hq => ?_⟩
  refine wpAny_Call_Name_kw (ld_blt I hg hm hv ?_)
  refine PyProof.Rows.callWith_type1 ?_ hs rfl
  rw [hs]
  show wpAny _ _ (spliced ((false, eval (.Call (.Attribute e "items" apos) [] [] cpos) X.env) :: backTo pos (starEach [] X.env))) _ _ s
  refine Calls.spliced_cons ?_
  refine wpAny_Call_method (T := "dict") (id := "dict.items") hbase rfl hline F.plainAttrs_dict F.slot_dict_items F.type_dict_items (thn (he.run pins s σ H _ I hq) fun u s1 ⟨x, H1, I1, rx, d, kvs, ex, hd, q⟩ => ?_)
  subst ex
  obtain rfl : u = Value.ref d := rx
  obtain ⟨hz, hs0, vs, kv, hdo⟩ := dk_rd I1.hok hd
  obtain ⟨ep, hat⟩ := hdo.dictAt
  have lk : kvs.length = vs.length := KV.length kv
  have I2 : Inv X pins σ H1 { s1 with heap := s1.heap.push { cls := .type "dict_items", data := .fields #[.ref d] } } := I1.kept (t' := s1.toks) fun b ob q => Heap.get?_push_of_some _ q
  refine ⟨hdo.typeIs, hdo.mapOf.noDict, ?_⟩
  show wpAny _ _ (callWith cpos (.builtin "dict.items") [.ref d] [] []) _ X.xe s1
  refine method_meetsIn F.slot_dict_items F.entry_dict_items rfl (PySem.evalArgs_none ⟨rfl, hdo.typeIs, F.args_dict_items_1 _, _, meets_dict_items (mixKind X.prog X.w) d hs0, ⟨vs, hdo⟩, ?_⟩)
  refine Calls.spliced_nil ?_
  refine PySem.W.kdx_call (knd := mixKind X.prog X.w) (kvs := vs) (ep := ep) (I1.ok.hd hc) ⟨_, Heap.get?_push_size _ rfl, rfl, rfl⟩ (hat.push _) (by omega) fun h' tk acc c as hk hS hl hG hacc => ?_
  obtain ⟨H', k1, k2, k3, k4, k5, k6, J⟩ := items_laid (tk := tk) I2 hz kv hk hS hl hG hacc
  exact ⟨.ref _, H', J, rfl, q H' _ as k1 k2 k3 k4 k5 k6⟩
end
end LiI
namespace L2
open PySem PySem.Spec PyProof.Rows
/-- a generator's loop over a list that the body leaves as it is -/
theorem gfor_list {K : PySem.W.Frag} {a : Addr} {xs : List V} {g : TG} {tb : TGn} {D : GEnds} {ys : List V} {σ : St} {H : Hp} (Pv : Nat → List V → St → Hp → Prop) (h0 : Pv 0 ys σ H) (hl : ∀ i ys σ H, i ≤ xs.length → Pv i ys σ H → SqL K H a xs)
    (hs : ∀ i x ys σ H, xs[i]? = some x → Pv i ys σ H → g x σ H fun σ2 H2 => tb { D with nx := Pv (i + 1), ct := Pv (i + 1), bk := D.nx } ys σ2 H2) (hd : ∀ ys σ H, Pv xs.length ys σ H → D.nx ys σ H) :
    ∃ W : Nat → Nat → List V → St → Hp → Prop, (∃ m, W 0 m ys σ H) ∧ ∀ i m ys σ H, W i m ys σ H →
      ((Itl K a).stop i H ∧ D.nx ys σ H) ∨ ((Itl K a).go i H ∧ ∃ N : List V → St → Hp → Prop, (∀ ys' σ' H', N ys' σ' H' → ∃ m', m' < m ∧ W (i + 1) m' ys' σ' H') ∧ ∀ x H', (Itl K a).yld i H x H' → g x σ H' fun σ2 H2 => tb { D with nx := N, ct := N, bk := D.nx } ys σ2 H2) := by
  refine ⟨fun i m ys σ H => m = xs.length - i ∧ i ≤ xs.length ∧ Pv i ys σ H, ⟨xs.length, by simp, Nat.zero_le _, h0⟩, ?_⟩
  rintro i m ys σ H ⟨rfl, hi, p⟩
  have q := hl i ys σ H hi p
  by_cases hlt : i < xs.length
  · refine .inr ⟨⟨xs, xs[i], q, by simp [hlt]⟩, Pv (i + 1), fun ys' σ' H' p' => ⟨xs.length - (i + 1), by omega, rfl, hlt, p'⟩, fun x H' y => ?_⟩
    obtain ⟨e, y⟩ := y
    subst e
    exact hs i x ys σ _ (y xs q) p
  · have e : i = xs.length := by omega
    subst e
    exact .inl ⟨⟨xs, q, Nat.le_refl _⟩, hd ys σ H p⟩
end L2
namespace Wk
open PySem PySem.Spec PyProof.Rows L2 WkD WkN LamX WkP WkE WkC
theorem passes_callG {X : Cx} {E : XK} {W : WX} (tk : Takes X W) (hW : ∀ cls d σ H, E cls d H → W cls d σ H) : Passes (CX X.prog X.w) X E := passes_call tk hW
section
variable {P : Program} {w : World} {K : PySem.W.Frag} {mg : Str → Option Value} {base : Heap}
/-- a network, its class with check_vertex -/
structure NArg (K : PySem.W.Frag) (H : Hp) (g C dx : Addr) (fs : List (Str × V)) (a : Addr) (top : Str) (Vs : List Str) (ad : Str → Addr) (nb : Nb) (wt : Wt) : Prop where
  g : GAt K H g C dx fs a top
  lk : fs.lookup ("check_vertex" : Str) = none
  r : RowsZ H a Vs ad nb wt
  nm : ∀ u ∈ Vs, nameB u = true
  few : ∀ u ∈ Vs, (nb u).length ≤ 1000
theorem NArg.ext {H H' : Hp} {g C dx : Addr} {fs : List (Str × V)} {a : Addr} {top : Str} {Vs : List Str} {ad : Str → Addr} {nb : Nb} {wt : Wt} (h : NArg K H g C dx fs a top Vs ad nb wt) (s : Ext H H') : NArg K H' g C dx fs a top Vs ad nb wt := ⟨h.g.ext s, h.lk, h.r.ext s, h.nm, h.few⟩
theorem NArg.same {H H' : Hp} {g C dx : Addr} {fs : List (Str × V)} {a : Addr} {top : Str} {Vs : List Str} {ad : Str → Addr} {nb : Nb} {wt : Wt} (h : NArg K H g C dx fs a top Vs ad nb wt) (s : Same H H') : NArg K H' g C dx fs a top Vs ad nb wt := h.ext (Ext.of s)
theorem anyv_s {H H' : Hp} {x : V} (h : AnyV K H x) (s : Same H H') : AnyV K H' x := by
  rcases h with h | ⟨h1, t, h2, h3⟩
  · exact .inl h
  · exact .inr ⟨h1, t, tyx_same s h2, h3⟩
/-! ### weight -/
def spGW (K : PySem.W.Frag) (C CU : Addr) : Sp := fun vs H Q E => ∃ (g dx : Addr) (fs : List (Str × V)) (a : Addr) (top : Str) (Vs : List Str) (ad : Str → Addr) (nb : Nb) (wt : Wt) (x y : V), vs = [.ref g, x, y] ∧ NArg K H g C dx fs a top Vs ad nb wt ∧ AnyV K H x ∧ AnyV K H y ∧
  (¬ IsIn x Vs → ∀ d H', Same H H' → H d = none → H' d = some (.xd [("value", x)]) → E (.ref CU) (some d) H') ∧
  (IsIn x Vs → ¬ IsIn y Vs → ∀ d H', Same H H' → H d = none → H' d = some (.xd [("value", y)]) → E (.ref CU) (some d) H') ∧
  (∀ u v, x = .str u → y = .str v → u ∈ Vs → v ∈ Vs → ∀ H', Same H H' → Q (.int (if v ∈ nb u then wt u v else 0)) H')
theorem sc_g_weight : FnScope ["self", "u", "v", "vertex"] ["self", "u", "v"] (defScope s_Graph_weight) := ⟨rfl, rfl, rfl, by decide +kernel, rfl, by decide +kernel, by decide +kernel⟩
theorem ok_g_weight {f C CU : Addr} {fd : FuncData} (F : FnP K "weight" "Graph.weight" s_Graph_weight f fd) (NK : FCls K C) (CV : MethC P w K mg base (CX P w) C "check_vertex" 2 (spCheck K CU)) : FnOk P w K mg base (CX P w) 3 f fd ["self", "u", "v"] (spGW K C CU) := by
  refine F.ok sc_g_weight (fun vs H Q E h => ?_) (fun cdv A outer s H vs Q E hr h => ?_)
  · obtain ⟨g, dx, fs, a, top, Vs, ad, nb, wt, x, y, rfl, _⟩ := h
    rfl
  have hu := hu_of hr
  have nd := sc_g_weight.nd
  have hr2 : Room 2 _ := hr
  refine ⟨_, (pss_cons (ps_for (passes_of rfl) rfl (pi_tup (pe_tup (pa_cons (pv 1) (pa_cons (pv 2) pa_nil)))) (pg_name (i := 3) nd rfl (Or.inl rfl))
      (pss_one (ps_expr (WkC.pe_mt CV NK.cls hr2 (passes_call (takes_of rfl rfl rfl rfl) fun _ _ _ _ h => h) (pv 0) (pa_cons (pv 3) pa_nil)))))
      (pss_one (ps_ret (pe_dget2 hu (pe_dget hu (pe_fld (pv 0) rfl) (pv 1) (fun _ _ => rfl)) (pv 2) pe_int ⟨rfl, rfl, rfl, rfl⟩)))), ?_⟩
  obtain ⟨g, dx, fs, a, top, Vs, ad, nb, wt, x, y, rfl, A, ax, ay, kU, kV', k⟩ := h
  have big : 1000 < sizeLine := by decide
  refine ⟨_, rfl, _, rfl, by show 2 ≤ sizeLine; omega, fun p1 n1 => ?_⟩
  generalize gg1 : upd _ p1 _ = G1; obtain ⟨s1, L1⟩ := new_eq n1 gg1; clear gg1
  refine ⟨p1, rfl, ⟨_, .inl (.inl L1)⟩, ?_⟩
  refine for_it (walk_tup (xs := [x, y])) (fun i σ Hc => ∃ x4 : Option V, σ = [some (.ref g), some x, some y, x4] ∧ Same H Hc ∧ Hc p1 = some (.tup [x, y]) ∧ (1 ≤ i → IsIn x Vs) ∧ (2 ≤ i → IsIn y Vs)) ⟨none, rfl, s1, L1, fun h => by omega, fun h => by omega⟩ ?_ ?_ ?_
  · rintro i σ Hc hi ⟨x4, rfl, c1, c2, c3, c4⟩
    exact .inl (.inl c2)
  · rintro i z σ Hc Hc' hi ⟨x4, rfl, c1, c2, c3, c4⟩ ⟨rfl, hy⟩
    have Ac := A.same c1
    have hi2 : i = 0 ∨ i = 1 := by
      simp at hi
      omega
    rcases hi2 with rfl | rfl
    · have ey : z = x := by simpa using hy.symm
      subst ey
      refine ⟨_, rfl, g, dx, fs, rfl, Ac.g.ins, A.lk, _, rfl, g, C, dx, fs, a, top, Vs, ad, nb, wt, z, rfl, Ac.g, Ac.r, A.nm, anyv_s ax c1, fun hin H2 s2 => ?_, fun hno d H2 s2 nd_ hd => kU hno d H2 (c1.trans s2) (np_of c1 nd_) hd⟩
      exact ⟨_, rfl, c1.trans s2, s2 _ _ c2, fun _ => hin, fun h => by omega⟩
    · have ey : z = y := by simpa using hy.symm
      subst ey
      refine ⟨_, rfl, g, dx, fs, rfl, Ac.g.ins, A.lk, _, rfl, g, C, dx, fs, a, top, Vs, ad, nb, wt, z, rfl, Ac.g, Ac.r, A.nm, anyv_s ay c1, fun hin H2 s2 => ?_, fun hno d H2 s2 nd_ hd => kV' (c3 (by omega)) hno d H2 (c1.trans s2) (np_of c1 nd_) hd⟩
      exact ⟨_, rfl, c1.trans s2, s2 _ _ c2, fun _ => c3 (by omega), fun _ => hin⟩
  · rintro σ H2 ⟨x4, rfl, s2, _, c3, c4⟩
    obtain ⟨u, hu_, rfl⟩ := c3 (by show 1 ≤ 2; decide)
    obtain ⟨v, hv_, rfl⟩ := c4 (by show 2 ≤ 2; decide)
    have A2 := A.same s2
    have R2 := A2.r
    refine ⟨_, rfl, g, C, dx, _, _, rfl, A2.g.ins, A2.g.cls, A2.g.na, A2.g.la, _, rfl, a, _, rfl, get_d R2.r.top hu_, _, rfl, .inl ⟨_, R2.r.row u hu_⟩, _, rfl, _, get_x (R2.r.row u hu_), ?_⟩
    · have e : (if v ∈ nb u then some (V.int (wt u v)) else none).getD (.int 0) = .int (if v ∈ nb u then wt u v else 0) := by
        split <;> rfl
      rw [e]
      exact k u v rfl rfl hu_ hv_ H2 s2
/-! ### neighbours -/
theorem paired_len {α β : Type} {F : α → β → Prop} : ∀ {xs : List α} {ys : List β}, Paired F xs ys → xs.length = ys.length
  | _, _, .nil => rfl
  | _, _, .cons _ t => by rw [List.length_cons, List.length_cons, paired_len t]
theorem paired_snoc {α β : Type} {F : α → β → Prop} {x : α} {y : β} (h : F x y) : ∀ {xs : List α} {ys : List β}, Paired F xs ys → Paired F (xs ++ [x]) (ys ++ [y])
  | _, _, .nil => .cons h .nil
  | _, _, .cons r t => .cons r (paired_snoc h t)
theorem paired_imp {α β : Type} {F G : α → β → Prop} (h : ∀ x y, F x y → G x y) : ∀ {xs : List α} {ys : List β}, Paired F xs ys → Paired G xs ys
  | _, _, .nil => .nil
  | _, _, .cons r t => .cons (h _ _ r) (paired_imp h t)
theorem paired_get2 {α β : Type} {F : α → β → Prop} : ∀ {xs : List α} {ys : List β} {i : Nat} {x : α}, Paired F xs ys → xs[i]? = some x → ∃ y, ys[i]? = some y ∧ F x y
  | _, _, i, x, .nil, h => by simp at h
  | _, _, 0, x, .cons r t, h => by
    rw [List.getElem?_cons_zero] at h
    cases h
    exact ⟨_, rfl, r⟩
  | _, _, i + 1, x, .cons r t, h => by
    rw [List.getElem?_cons_succ] at h
    obtain ⟨y, e, f⟩ := paired_get2 t h
    exact ⟨y, by rw [List.getElem?_cons_succ]; exact e, f⟩
/-- the tuples of the neighbours -/
def NbsAt (H : Hp) (rs : List Addr) (nb : List Str) (wt : Str → Int) : Prop := Paired (fun (r : Addr) (v : Str) => H r = some (.tup [.str v, .int (wt v)])) rs nb
theorem nbs_of {H : Hp} {wt : Str → Int} : ∀ {ts : List Addr} {ks : List Str}, Paired (fun (t : Addr) (q : Key × V) => H t = some (.tup [kV q.1, q.2])) ts (dct ks fun v => .int (wt v)) → NbsAt H ts ks wt
  | [], [], _ => .nil
  | _ :: _, [], h => by cases h
  | [], _ :: _, h => by cases h
  | _ :: _, _ :: _, h => by
    cases h with
    | cons r t => exact .cons r (nbs_of t)
theorem NbsAt.stay {H H' : Hp} {rs : List Addr} {nb : List Str} {wt : Str → Int} (h : NbsAt H rs nb wt) (s : Same H H') : NbsAt H' rs nb wt := paired_imp (fun _ _ e => s _ _ e) h
def spNb (K : PySem.W.Frag) (C CU : Addr) : SpG := fun vs H cont E => ∃ (g dx : Addr) (fs : List (Str × V)) (a : Addr) (top : Str) (Vs : List Str) (ad : Str → Addr) (nb : Nb) (wt : Wt) (x : V), vs = [.ref g, x] ∧ NArg K H g C dx fs a top Vs ad nb wt ∧ AnyV K H x ∧
  (¬ IsIn x Vs → ∀ d H', Same H H' → H d = none → H' d = some (.xd [("value", x)]) → E (.ref CU) (some d) H') ∧
  (∀ u, x = .str u → u ∈ Vs → ∀ rs H', Same H H' → NbsAt H' rs (nb u) (wt u) → cont (rs.map V.ref) H')
theorem gsc_neighbours : GScope ["self", "u", "v", "weight"] ["self", "u"] (defScope s_Graph_neighbours) := ⟨rfl, rfl, rfl, by decide +kernel, rfl, by decide +kernel, by decide +kernel⟩
theorem ok_neighbours {f C CU : Addr} {fd : FuncData} (F : FnP K "neighbours" "Graph.neighbours" s_Graph_neighbours f fd) (B : Bi mg) (NK : FCls K C) (CV : MethC P w K mg base (CX P w) C "check_vertex" 2 (spCheck K CU)) : GFn P w K mg base 4 f fd ["self", "u"] (spNb K C CU) := by
  obtain ⟨oc, od, dV, kV, doc, pm, an, cdv, ct, osl, rfl, lk, cd, _, _⟩ := F.ex
  refine gfn_of (N := ["self", "u", "v", "weight"]) lk cd gsc_neighbours (fun vs H Q E h => ?_) (fun A outer s H vs Q E pn hr h => ?_)
  · obtain ⟨g, dx, fs, a, top, Vs, ad, nb, wt, x, rfl, _⟩ := h
    rfl
  have nd := gsc_neighbours.nd
  have hu := hu_of hr
  have hr2 : Room 2 _ := hr.mono (by decide)
  obtain ⟨g, dx, fs, a, top, Vs, ad, nb, wt, x, rfl, A, ax, kU, k⟩ := h
  refine ⟨_, gss_cons (gs_ps (ps_expr (WkC.pe_mt CV NK.cls hr2 (passes_callG takes_gcx fun _ _ _ _ h => h) (pv 0) (pa_cons (pv 1) pa_nil))))
    (gss_cons (gs_for owns_gcx rfl (pi_list (LiI.pe_listItemsR rfl (pe_dget hu (pe_fld (pv 0) rfl) (pv 1) (fun _ _ => rfl)) (by rfl) B.n_list (by decide +kernel))) (WkN.pgT K 2 rfl rfl (pgs_cons (pg_name (i := 2) nd rfl (Or.inl rfl)) (pgs_cons (pg_name (i := 3) nd rfl (Or.inl rfl)) pgs_nil)) rfl)
      (gss_cons (gs_yield (pe_tup (pa_cons (pv 2) (pa_cons (pv 3) pa_nil)))) gss_nil)) gss_nil), ?_⟩
  have big : 1000 < sizeLine := by decide
  refine ⟨_, rfl, g, dx, fs, rfl, A.g.ins, A.lk, _, rfl, g, C, dx, fs, a, top, Vs, ad, nb, wt, x, rfl, A.g, A.r, A.nm, ax, fun hx H1 s1 => ?_, kU⟩
  obtain ⟨u, hu_, rfl⟩ := hx
  have A1 := A.same s1
  refine ⟨_, rfl, g, C, dx, _, _, rfl, A1.g.ins, A1.g.cls, A1.g.na, A1.g.la, _, rfl, a, _, rfl, get_d A1.r.r.top hu_, ?_⟩
  refine ⟨_, _, rfl, A1.r.r.row u hu_, fun H2 p ts s2 np nts pts hp hts => ?_⟩
  refine ⟨p, rfl, ⟨_, SqL.of hp⟩, ?_⟩
  have ht : NbsAt H2 ts (nb u) (wt u) := nbs_of hts
  have hlen : ts.length = (nb u).length := paired_len ht
  have few := A.few u hu_
  have s2 : Same H1 H2 := s2
  refine gfor_list (xs := ts.map V.ref) (fun i ys σ Hc => ∃ (x2 x3 : Option V) (rs : List Addr), σ = [some (.ref g), some (.str u), x2, x3] ∧ ys = rs.map V.ref ∧ Same H2 Hc ∧ NbsAt Hc rs ((nb u).take i) (wt u)) ⟨_, _, [], rfl, rfl, fun _ _ h => h, .nil⟩ ?_ ?_ ?_
  · rintro i ys σ Hc hi ⟨x2, x3, rs, rfl, rfl, s3, h3⟩
    exact SqL.of (s3 _ _ hp)
  · rintro i z ys σ Hc hz ⟨x2, x3, rs, rfl, rfl, s3, h3⟩
    rw [List.getElem?_map] at hz
    cases et : ts[i]? with
    | none => rw [et] at hz; cases hz
    | some t =>
      rw [et] at hz
      cases hz
      obtain ⟨v, ev, hv⟩ := paired_get2 ht et
      have hrl : rs.length = ((nb u).take i).length := paired_len h3
      refine ⟨t, _, rfl, .inl (.inl (s3 _ _ hv)), rfl, _, _, rfl, _, _, rfl, rfl, ?_⟩
      refine ⟨?_, _, rfl, _, rfl, by show 2 ≤ sizeLine; omega, fun p4 n4 => ?_⟩
      · rw [List.length_map, hrl, List.length_take]
        omega
      generalize gg4 : upd _ p4 _ = G4; obtain ⟨s4, L4⟩ := new_eq n4 gg4; clear gg4
      refine ⟨_, _, rs ++ [p4], rfl, by rw [List.map_append]; rfl, s3.trans s4, ?_⟩
      have e : (nb u).take (i + 1) = (nb u).take i ++ [v] := by rw [List.take_succ, ev]; rfl
      rw [e]
      exact paired_snoc (F := fun (r : Addr) (v : Str) => G4 r = some (.tup [.str v, .int (wt u v)])) L4 (h3.stay s4)
  · rintro ys σ Hc ⟨x2, x3, rs, rfl, rfl, s3, h3⟩
    rw [List.length_map, hlen, List.take_length] at h3
    exact k u rfl hu_ rs Hc ((s1.trans s2).trans s3) h3
end
end Wk
namespace Wk
open PySem PySem.Spec PyProof.Rows L2 WkD WkN LamX WkP WkE WkC
section
variable {P : Program} {w : World} {K : PySem.W.Frag} {mg : Str → Option Value} {base : Heap}
theorem InH.ext {T : List (Addr × Str)} {C p cs q va ea x : Addr} {vs : List Str} {es : EdD} {rt : Str} {N : Nat} {H H' : Hp} (h : InH T C p cs q va ea x vs es rt N H) (e : Ext H H') (t : Tabs T H') : InH T C p cs q va ea x vs es rt N H' := by
  obtain ⟨nb, wt, n, m, en, s, h1, h4⟩ := h.hx
  refine ⟨t, h.pen.ext e, h.net.ext e, ⟨nb, wt, n, m, en, s, h1.keep fun c o hc hk => e c o hc fun ps z => ?_, h4⟩, h.fq, h.fa, h.fe⟩
  rcases hk with rfl | ⟨o1, o2, rfl⟩
  · obtain ⟨dx, p, ad, hx, rz⟩ := h1.ex
    rw [hc, z] at hx
    cases hx
  · cases z
def odd04 (p1 p2 p3 p4 : Addr) : List V := [.str "zz", .str "", .str "A", .non, .bl true, .int 0, .ref p1, .ref p2, .ref p3, .ref p4]
structure Odd4 (p1 p2 p3 p4 : Addr) (z : Str) (H : Hp) : Prop where
  h1 : H p1 = some (.tup [])
  h2 : H p2 = some (.lst [])
  h3 : H p3 = some (.dK [])
  h4 : H p4 = some (.tup [.str z])
theorem Odd4.ok {H : Hp} {p1 p2 p3 p4 : Addr} {z : Str} (h : Odd4 p1 p2 p3 p4 z H) (hz : nameB z = true) : ∀ v ∈ odd04 p1 p2 p3 p4, OddV K H v := by
  obtain ⟨h1, h2, h3, h4⟩ := h
  intro v hv
  have fz := WkG.fits_tuple (w := 8) (D := 0) (ds := [.str z]) (fun d hd => by rw [List.mem_singleton.mp hd]; exact WkG.fits_nameD hz) (by decide)
  have ty : ∀ {x : V} {t : String}, (∀ y, x ≠ .str y) → TyX K H x (.type t) → (t = "NoneType" ∨ t = "bool" ∨ t = "int" ∨ t = "tuple" ∨ t = "list" ∨ t = "dict") → AnyV K H x := fun n q e => .inr ⟨n, _, q, nstr e⟩
  have st : ∀ y : Str, y.length ≤ 20 → AnyV K H (.str y) := fun y hy => .inl ⟨y, rfl, Nat.le_trans hy (by decide)⟩
  simp only [odd04, List.mem_cons, List.not_mem_nil, or_false] at hv
  rcases hv with rfl | rfl | rfl | rfl | rfl | rfl | rfl | rfl | rfl | rfl
  · exact ⟨_, .str _, ⟨⟨by decide +kernel, by decide +kernel, by decide +kernel, by decide +kernel⟩, by decide +kernel⟩, st _ (by decide +kernel)⟩
  · exact ⟨_, .str _, ⟨⟨by decide +kernel, by decide +kernel, by decide +kernel, by decide +kernel⟩, by decide +kernel⟩, st _ (by decide +kernel)⟩
  · exact ⟨_, .str _, ⟨⟨by decide +kernel, by decide +kernel, by decide +kernel, by decide +kernel⟩, by decide +kernel⟩, st _ (by decide +kernel)⟩
  · exact ⟨_, .non, ⟨⟨by decide +kernel, by decide +kernel, by decide +kernel, by decide +kernel⟩, by decide +kernel⟩, ty (fun _ e => by cases e) (.base .non) (by simp)⟩
  · exact ⟨_, .bl _, ⟨⟨by decide +kernel, by decide +kernel, by decide +kernel, by decide +kernel⟩, by decide +kernel⟩, ty (fun _ e => by cases e) (.base (.bl _)) (by simp)⟩
  · exact ⟨_, .int _, ⟨⟨by decide +kernel, by decide +kernel, by decide +kernel, by decide +kernel⟩, by decide +kernel⟩, ty (fun _ e => by cases e) (.base (.int _)) (by simp)⟩
  · exact ⟨_, .tup (.inl (.inl h1)) .nil, ⟨⟨by decide +kernel, by decide +kernel, by decide +kernel, by decide +kernel⟩, by decide +kernel⟩, ty (fun _ e => by cases e) (.base (.tup h1)) (by simp)⟩
  · exact ⟨_, .lst (.inl (.inl h2)) .nil, ⟨⟨by decide +kernel, by decide +kernel, by decide +kernel, by decide +kernel⟩, by decide +kernel⟩, ty (fun _ e => by cases e) (.base (.lst h2)) (by simp)⟩
  · exact ⟨_, .dK (es := []) (.inl h3) .nil rfl rfl rfl, ⟨⟨by decide +kernel, by decide +kernel, by decide +kernel, by decide +kernel⟩, by decide +kernel⟩, ty (fun _ e => by cases e) (.base (.dK h3)) (by simp)⟩
  · exact ⟨_, .tup (.inl (.inl h4)) (.cons (.str _) .nil), fz.mono (by show 1 * 9 ≤ 1000; decide) (by decide), ty (fun _ e => by cases e) (.base (.tup h4)) (by simp)⟩
theorem Odd4.ext {p1 p2 p3 p4 : Addr} {z : Str} {H H' : Hp} (h : Odd4 p1 p2 p3 p4 z H) (e : Ext H H') : Odd4 p1 p2 p3 p4 z H' := ⟨e _ _ h.h1 (fun ps z => by cases z), e _ _ h.h2 (fun ps z => by cases z), e _ _ h.h3 (fun ps z => by cases z), e _ _ h.h4 (fun ps z => by cases z)⟩
theorem Odd4.same {p1 p2 p3 p4 : Addr} {z : Str} {H H' : Hp} (h : Odd4 p1 p2 p3 p4 z H) (e : Same H H') : Odd4 p1 p2 p3 p4 z H' := h.ext (Ext.of e)
/-- what is told of an error -/
theorem tell_one {d : PyData} (h : WkG.FitsD d 1000 3) : WkG.FitsD (.tuple [d]) 150000 10 := by
  have ft := WkG.fits_tuple (w := 1000) (D := 3) (ds := [d]) (fun e he => by rw [List.mem_singleton.mp he]; exact h) (by decide)
  exact ft.mono (by show 1 * 1001 ≤ 150000; decide) (by decide)
/-- what a house gives to weight and neighbours -/
theorem InH.narg {T : List (Addr × Str)} {C p cs q va ea x : Addr} {vs : List Str} {es : EdD} {rt : Str} {N : Nat} {H : Hp} (NK : FCls K C) (h : InH T C p cs q va ea x vs es rt N H) (few : vs.length ≤ 20) : ∃ dx fs a ad nb wt, NArg K H x C dx fs a rt vs ad nb wt ∧ fs.lookup ("weight" : Str) = none ∧ fs.lookup ("neighbours" : Str) = none ∧ GOk vs nb wt ∧ (∀ u ∈ vs, Asc (nb u)) ∧ edL vs nb wt = edS es := by
  obtain ⟨nb, wt, n, m, en, s, hN, hE⟩ := h.hx
  obtain ⟨dx, pa, ad, hx, rz⟩ := hN.ex
  exact ⟨dx, _, pa, ad, nb, wt, ⟨⟨hx, NK.cls, NK.na, NK.nt, rfl, rfl⟩, rfl, rz, h.net.ok.nm, fun u hu => by
    have h1 := (hN.gok.sym.nd u hu).length_le_of_subset fun v hv => (hN.gok.sym.mem u hu v hv).1
    omega⟩, rfl, rfl, hN.gok, hN.an, hE⟩
/-! ### the weight of an edge, or 0 -/
def wJ (es : EdD) (u v : Str) : Int := match valV (dtE es) (kP (mp u v)) with
  | some (.int n) => n
  | _ => 0
theorem wJ_in {es : EdD} {u v : Str} {n : Int} (nd : (es.map (·.1)).Nodup) (h : (mp u v, n) ∈ es) : wJ es u v = n := by
  unfold wJ
  rw [dtE_val nd h]
theorem wJ_out {es : EdD} {u v : Str} (h : mp u v ∉ es.map (·.1)) : wJ es u v = 0 := by
  unfold wJ
  rw [dtE_none h]
theorem wJ_get {es : EdD} {u v : Str} (nd : (es.map (·.1)).Nodup) : (valV (dtE es) (kP (mp u v))).getD (.int 0) = .int (wJ es u v) := by
  by_cases h : mp u v ∈ es.map (·.1)
  · obtain ⟨e, he1, he2⟩ := List.mem_map.mp h
    have hm : (mp u v, e.2) ∈ es := by rw [← he2]; exact he1
    rw [dtE_val nd hm, wJ_in nd hm]
    rfl
  · rw [dtE_none h, wJ_out h]
    rfl
theorem joint_memJ {Vs : List Str} {nb : Nb} {wt : Wt} {es : EdD} (sy : Sym Vs nb wt) (ed : EdOk Vs es) (ee : edL Vs nb wt = edS es) {u v : Str} (hu : u ∈ Vs) (hv : v ∈ nb u) : (mp u v, wt u v) ∈ es := by
  have key : ∀ {a b : Str}, ((a, b), wt u v) ∈ es → mp a b = (a, b) := fun {a b} h => by
    have lt : ltS a b := (ed.mem _ h).2.2.1
    unfold mp
    rw [if_neg (ltS_asymm lt), if_pos lt]
  have sw : mp u v = mp v u := by
    rcases mp_cases (a := u) (b := v) (Ne.symm (sy.mem u hu v hv).2.1) with ⟨l, e⟩ | ⟨l, e⟩
    · rw [e]
      unfold mp
      rw [if_pos l, if_neg (ltS_asymm l)]
    · rw [e]
      unfold mp
      rw [if_neg (ltS_asymm l), if_pos l]
  rcases (edL_adj sy hu).mpr ⟨hv, rfl⟩ with h | h
  · rw [ee, edS_mem ed.nd] at h
    rw [key h]
    exact h
  · rw [ee, edS_mem ed.nd] at h
    rw [sw, key h]
    exact h
theorem wJ_eq {vs : List Str} {nb : Nb} {wt : Wt} {es : EdD} (go : GOk vs nb wt) (ed : EdOk vs es) (ee : edL vs nb wt = edS es) {u v : Str} (hu : u ∈ vs) : wJ es u v = if v ∈ nb u then wt u v else 0 := by
  by_cases h : v ∈ nb u
  · rw [if_pos h]
    exact wJ_in ed.nd (joint_memJ go.sym ed ee hu h)
  · rw [if_neg h]
    refine wJ_out fun hm => h ?_
    obtain ⟨e, he1, he2⟩ := List.mem_map.mp hm
    obtain ⟨⟨a, b⟩, n⟩ := e
    have he2 : (a, b) = mp u v := he2
    have lt : ltS a b := (ed.mem _ he1).2.2.1
    have hE : (a, b, n) ∈ edL vs nb wt := by
      rw [ee, edS_mem ed.nd]
      exact he1
    obtain ⟨ha, hb, _, _⟩ := edL_mem.mp hE
    have hs := go.sym.mem a ha b hb
    have ne : u ≠ v := fun z => by
      rw [z] at he2
      unfold mp at he2
      rw [if_neg (ltS_irrefl v)] at he2
      cases he2
      exact ltS_irrefl _ lt
    rcases mp_cases ne with ⟨l, e⟩ | ⟨l, e⟩
    · rw [e] at he2
      cases he2
      exact hb
    · rw [e] at he2
      cases he2
      exact hs.2.2.1
theorem wJ_pos {vs : List Str} {nb : Nb} {wt : Wt} {es : EdD} (go : GOk vs nb wt) (ed : EdOk vs es) (ee : edL vs nb wt = edS es) {u v : Str} (hu : u ∈ vs) : (0 < wJ es u v ↔ v ∈ nb u) ∧ 0 ≤ wJ es u v ∧ wJ es u v ≤ 1000000000 := by
  rw [wJ_eq go ed ee hu]
  by_cases h : v ∈ nb u
  · rw [if_pos h]
    have := go.wts u hu v h
    exact ⟨⟨fun _ => h, fun _ => by omega⟩, by omega, by omega⟩
  · rw [if_neg h]
    exact ⟨⟨fun h2 => absurd h2 (by decide), fun h2 => absurd h2 h⟩, by decide, by decide⟩
/-- the neighbours in the order of the names -/
theorem nb_filter {vs : List Str} {nb : Nb} {wt : Wt} (go : GOk vs nb wt) (av : Asc vs) (an : ∀ u ∈ vs, Asc (nb u)) {u : Str} (hu : u ∈ vs) : nb u = vs.filter fun v => decide (v ∈ nb u) := by
  have a2 : Asc (vs.filter fun v => decide (v ∈ nb u)) := List.Pairwise.filter _ av
  refine asc_unique (an u hu) a2 ((List.perm_ext_iff_of_nodup (asc_nodup (an u hu)) (asc_nodup a2)).mpr fun y => ?_)
  rw [List.mem_filter, decide_eq_true_eq]
  exact ⟨fun h => ⟨(go.sym.mem u hu y h).1, h⟩, fun h => h.2⟩
/-- what the tuples of the neighbours tell -/
def nbD (nb : List Str) (wt : Str → Int) : List PyData := nb.map fun v => .tuple [.str v, .int (wt v)]
theorem nbs_dx {H : Hp} {wt : Str → Int} : ∀ {rs : List Addr} {nb : List Str}, NbsAt H rs nb wt → WkG.DxAll K H (rs.map V.ref) (nbD nb wt)
  | _, _, .nil => .nil
  | _, _, .cons r t => .cons (.tup (.inl (.inl r)) (.cons (.str _) (.cons (.int _) .nil))) (nbs_dx t)
theorem fits_nbs {nb : List Str} {wt : Str → Int} (hn : ∀ v ∈ nb, nameB v = true) (hw : ∀ v ∈ nb, 1 ≤ wt v ∧ wt v ≤ 1000000000) (hl : nb.length ≤ 20) : WkG.FitsD (.list (nbD nb wt)) 150000 10 := by
  have ft := WkG.fits_list (w := 402) (D := 1) (ds := nbD nb wt) (fun d hd => by
    obtain ⟨v, hv, rfl⟩ := List.mem_map.mp hd
    have := hw v hv
    exact WkG.fits_two (w := 200) (D := 0) ((WkG.fits_nameD (hn v hv)).mono (by decide) (by decide)) (WkG.fits_intD (by omega)) (by decide)) (by decide)
  refine ft.mono ?_ (by decide)
  rw [show (nbD nb wt).length = nb.length from List.length_map _]
  omega
theorem NbsAt.put {H : Hp} {rs : List Addr} {nb : List Str} {wt : Str → Int} {l : Addr} {xs : List V} {o : HO} (h : NbsAt H rs nb wt) (hl : H l = some (.lst xs)) : NbsAt (upd H l o) rs nb wt :=
  paired_imp (fun r v e => by rw [upd_ne (ne_of e hl (by intro z; cases z))]; exact e) h
end
end Wk
namespace WkV
open PySem PySem.Spec PyProof.Rows L2
/-! ### a def that writes, whose code object is known -/
section
variable {P : Program} {w : World} {K : PySem.W.Frag} {mg : Str → Option Value} {base : Heap} {CX : CXT} {k : Nat} {f c : Addr} {fd : FuncData} {ps N : List Str} {sp : Sp} {x qual : Str} {params : Arguments} {body : List Stmt} {scope : Scope} {dvs : List V} {kws : List (Str × V)}
theorem okGC (F : FunD K x qual params body scope dvs kws f fd) (S : FnScope N ps scope) (hc : WkL.CodeIs K f c) (len : ∀ vs H Q E, sp vs H Q E → vs.length = ps.length)
    (hbody : ∀ (A : Around) (outer : List Env) (s : Shared) (H : Hp) (vs : List V) (Q : VK) (E : XK), (A.deeper (envOfC qual scope s.heap.objs.size f (.ref c))).guards = some [] → Room k (A.deeper (envOfC qual scope s.heap.objs.size f (.ref c))) → sp vs H Q E →
      ∃ t, PSs (cxOf CX P w K mg base N qual scope f (.ref c) A outer s H E) body t ∧ t { nx := fun _ H' => Q .non H', rt := Q } (L2.start N vs) H) : WkG.FnG P w K mg base CX (k + 1) f fd ps sp := by
  obtain ⟨oc, od, dV, kV, doc, pm, an, cdv, ct, osl, rfl, lk, hcd, _, _⟩ := F.ex
  have e : cdv = .ref c := hc _ _ _ _ lk
  subst e
  refine ⟨len, fun A outer s H args us vs Q E hg hr e0 hb rel hsp => ?_⟩
  exact LamX.run_ofS lk hcd S hr e0 hb rel (len _ _ _ _ hsp) fun hr' => hbody A outer s H vs Q E (WkG.deep_guards hg) hr' hsp
end
/-! ### a try whose body raises nothing -/
section
variable {X : Cx} {body : List Stmt} {h₀ : ExceptHandler} {hds : List ExceptHandler} {pos : Pos} {tb : TS}
theorem ps_try_calm (hb : ∀ (pn : List (Addr × Obj)) (xe : Value → Shared → Prop), PSs (X.tr pn xe) body tb) : PS X (.Try body (h₀ :: hds) [] [] pos) tb := by
  refine ⟨fun pins s σ H D I h => ?_⟩
  have okc := I.ok
  refine wpAny_Try_except ?_
  refine wpAny_mono ((hb (X.pn ++ pins) _).run [] s σ H D (I.toTry _) h) (fun f s1 hpp => ?_) (fun e s1 he => he)
  cases f with
  | next =>
    obtain ⟨σ', H', J', q⟩ := hpp
    exact wpAny_execs_nil ⟨σ', H', J'.ofTry okc, q⟩
  | brk =>
    obtain ⟨σ', H', J', q⟩ := hpp
    exact ⟨σ', H', J'.ofTry okc, q⟩
  | cont =>
    obtain ⟨σ', H', J', q⟩ := hpp
    exact ⟨σ', H', J'.ofTry okc, q⟩
  | ret u =>
    obtain ⟨v, σ', H', J', r, q⟩ := hpp
    exact ⟨v, σ', H', J'.ofTry okc, r, q⟩
end
/-! ### a tuple beside () -/
section
variable {X : Cx}
def rNilT (K : PySem.W.Frag) : R2 := fun x y H Q => ∃ a b xs, x = .ref a ∧ y = .ref b ∧ SqT K H a xs ∧ SqT K H b [] ∧ Q (.bl xs.isEmpty) H
theorem op_eqNilT (hu : X.A.units + 64 < cLine) : OpR X (compareOp .Eq) (rNilT X.K) := by
  intro pins s σ H x y v u Q I rx ry h
  obtain ⟨a, b, xs, rfl, rfl, ha, hb, q⟩ := h
  obtain rfl : v = Value.ref a := rx
  obtain rfl : u = Value.ref b := ry
  obtain ⟨is, r1, ⟨o1, g1, c1, n1, d1⟩, _⟩ := I.tuple ha
  obtain ⟨js, r2, ⟨o2, g2, c2, n2, d2⟩, _⟩ := I.tuple hb
  cases r2
  refine SeqAt.eq_tupleAt (e := fun _ => true) ⟨o1, g1, c1, n1, d1⟩ ⟨o2, g2, c2, n2, d2⟩ (by omega) (fun j h1 h2 => absurd h2 (by simp)) ⟨.bl xs.isEmpty, H, I, ?_, q⟩
  cases r1 with
  | nil => rfl
  | cons r t => simp [L2.RelV]
end
end WkV
/-! except (A, B, ..) as e; defs called in the suite with the caught exception -/
namespace WkW
open PySem PySem.Spec PyProof.Rows L2 PySem.W
/-! ### a tuple of classes -/
section
variable {M : Model} {A : Around} {E : Value → Shared → Prop} {s : Shared}
theorem forIn_same {α β : Type} {f : α → β → Sem (ForInStep β)} {r : β} : ∀ (l : List α) {Q : β → Shared → Prop}, (∀ c ∈ l, ∀ Q' : ForInStep β → Shared → Prop, Q' (.yield r) s → wpAny M A (f c r) Q' E s) → Q r s → wpAny M A (forIn l r f) Q E s
  | [], Q, _, q => by
    rw [List.forIn_nil]
    exact wpAny_pure q
  | c :: l, Q, h, q => by
    rw [List.forIn_cons]
    exact wpAny_bind (h c List.mem_cons_self _ (forIn_same l (fun d hd => h d (List.mem_cons_of_mem _ hd)) q))
theorem forIn_any {α β : Type} {f : α → β → Sem (ForInStep β)} {r d : β} {g : α → Bool} : ∀ (l : List α) {Q : β → Shared → Prop}, (∀ c ∈ l, ∀ Q' : ForInStep β → Shared → Prop, Q' (if g c = true then .done d else .yield r) s → wpAny M A (f c r) Q' E s) → Q (if l.any g = true then d else r) s → wpAny M A (forIn l r f) Q E s
  | [], Q, _, q => by
    rw [List.forIn_nil]
    exact wpAny_pure q
  | c :: l, Q, h, q => by
    rw [List.forIn_cons]
    refine wpAny_bind (h c List.mem_cons_self _ ?_)
    rw [List.any_cons] at q
    by_cases e : g c = true
    · rw [if_pos e]
      rw [e, Bool.true_or, if_pos rfl] at q
      exact wpAny_pure q
    · rw [if_neg e]
      rw [Bool.not_eq_true] at e
      rw [e, Bool.false_or] at q
      exact forIn_any l (fun d hd => h d (List.mem_cons_of_mem _ hd)) q
end
section
variable {M : Model} {K : Frag}
theorem exmAny_all {cls : Value} : ∀ {cs : List Value} {b : Bool}, exmAny K cls cs = some b → ∃ g : Value → Bool, (∀ c ∈ cs, exmOne K cls c = some (g c)) ∧ b = cs.any g
  | [], b, h => ⟨fun _ => false, fun c hc => absurd hc (by simp), (Option.some.inj h).symm⟩
  | c :: cs, b, h => by
    obtain ⟨b1, d1, x1, y1, z1⟩ := exmAny_cons h
    refine ⟨fun x => (exmOne K cls x).getD false, fun x hx => ?_, ?_⟩
    · have : exmOne K cls x = some ((exmOne K cls x).getD false) := by
        rcases List.mem_cons.mp hx with rfl | hx
        · rw [x1]; rfl
        · obtain ⟨g, hg, _⟩ := exmAny_all y1
          rw [hg x hx]; rfl
      exact this
    · obtain ⟨g, hg, e⟩ := exmAny_all y1
      have e2 : cs.any g = cs.any fun x => (exmOne K cls x).getD false := by
        rw [Bool.eq_iff_iff, List.any_eq_true, List.any_eq_true]
        constructor
        · rintro ⟨x, hx, q⟩
          exact ⟨x, hx, by rw [hg x hx]; exact q⟩
        · rintro ⟨x, hx, q⟩
          rw [hg x hx] at q
          exact ⟨x, hx, q⟩
      rw [z1, List.any_cons, x1, e, e2]
      rfl
theorem exm_tupN {cs : List Value} {cls : Value} {tp e : Addr} {b : Bool} {h : Heap} (X : K.In h) (LT : Looks M h (typeOf (.ref e)) cls) (hp : h.get? tp = some { cls := .type "tuple", data := .seq cs.toArray }) (hx : exmAny K cls cs = some b) :
    Looks M h (excMatches (.ref e) (.ref tp)) b := by
  intro A Q E s k₀ q
  obtain ⟨hh, g, d, tk, os⟩ := s
  have k : ∀ b o, h.get? b = some o → hh.get? b = some o := k₀
  have LT0 : Looks M h (isInstance (.ref tp) (.type "tuple")) true := ((Looks.ld hp).andThen .now).andThen (Looks.of_pure isSubtype_tuple_tuple)
  have LT := LT.keeps k
  have LT0 := LT0.keeps k
  have hp' := k _ _ hp
  obtain ⟨gb, hgb, eb⟩ := exmAny_all hx
  have one : ∀ c ∈ cs, Looks M hh (isExcClass c) true ∧ Looks M hh (isSubtype cls c) (gb c) := fun c hc => by
    obtain ⟨e1, S1⟩ := exm_cls (M := M) X (hgb c hc)
    exact ⟨e1.keeps k, S1.keeps k⟩
  unfold excMatches
  refine wpAny_bind (LT0.at ?_)
  dsimp only
  rw [if_pos rfl]
  first
    | refine wpAny_bind (wpAny_seqItems hp' rfl ?_)
    | refine wpAny_bind (wpAny_bind (wpAny_seqItems hp' rfl (wpAny_pure ?_)))
  dsimp only [Option.getD_some, Option.getD]
  refine wpAny_bind (wpAny_pure ?_)
  refine wpAny_bind (forIn_same cs (fun c hc Q' q' => ?_) ?_)
  · refine wpAny_bind ((one c hc).1.at ?_)
    simp only [Bool.not_true, Bool.false_eq_true, if_false]
    exact wpAny_pure q'
  · refine wpAny_bind (LT.at ?_)
    refine wpAny_bind (forIn_any (g := gb) (d := (some true, PUnit.unit)) cs (fun c hc Q' q' => ?_) ?_)
    · refine wpAny_bind ((one c hc).2.at ?_)
      cases hb : gb c with
      | true =>
        rw [hb] at q'
        simp only [if_true] at q' ⊢
        exact wpAny_pure q'
      | false =>
        rw [hb] at q'
        simp only [Bool.false_eq_true, if_false] at q' ⊢
        exact wpAny_pure q'
    · cases hb : cs.any gb with
      | true =>
        rw [eb, hb] at q
        simp only [if_true]
        exact wpAny_pure q
      | false =>
        rw [eb, hb] at q
        simp only [Bool.false_eq_true, if_false]
        exact wpAny_pure q
end
end WkW
namespace WkW
open PySem PySem.Spec PyProof.Rows L2
/-- names of classes, one after the other -/
inductive NamesAll (X : Cx) : List Expr → List Value → Prop
  | nil : NamesAll X [] []
  | cons {x : Str} {c : Value} {np : Pos} {es : List Expr} {cs : List Value} (h : Names X x c) (r : NamesAll X es cs) : NamesAll X (.Name x np :: es) (c :: cs)
theorem NamesAll.length {X : Cx} {es : List Expr} {cs : List Value} (h : NamesAll X es cs) : cs.length = es.length := by
  induction h with
  | nil => rfl
  | cons _ _ ih => rw [List.length_cons, List.length_cons, ih]
section
variable {X : Cx} {a : Addr} {pn : List (Addr × Obj)}
theorem names_run {es : List Expr} {cs : List Value} (h : NamesAll X es cs) {σ : L2.St} {H : Hp} {s : Shared} {pos : Pos} {E' : Value → Shared → Prop} (I : Inv (X.suite a pn) [] σ H s) : ∀ {Q : List Value → Shared → Prop}, Q cs s → wpAny (model X.prog X.w) (X.A.mark (some (.ref a))) (spliced (backTo pos (starEach es X.env))) Q E' s := by
  induction h with
  | nil => exact fun q => wpAny_items_nil q
  | cons hc r ih =>
    intro Q q
    refine wpAny_items_cons ?_
    obtain ⟨hg, hdbg, hm | ⟨hm, hv, hnn⟩⟩ := hc
    · exact ld_glob (X := X.suite a pn) I hg hm (ih q) hdbg
    · exact ld_blt (X := X.suite a pn) I hg hm hv (ih q) hnn hdbg
end
def wTup (K : PySem.W.Frag) (cs : List Value) (i : Nat) (ts : Addr → Value → Option Addr → TS) (Wout : WX) (D : Ends) : WX := fun cls d σ H =>
  ∃ b, PySem.W.exmAny K cls cs = some b ∧ (b = true → ∀ a, H a = none → ts a cls d { nx := fun σ' H' => D.nx (σ'.set i none) H', rt := D.rt, bk := fun σ' H' => D.bk (σ'.set i none) H', ct := fun σ' H' => D.ct (σ'.set i none) H' } (σ.set i (some (.ref a))) H) ∧
    (b = false → Wout cls d σ H)
section
variable {X : Cx} {n : Str} {cs : List Value} {i kk : Nat} {body suite : List Stmt} {b₀ : Stmt} {es : List Expr} {np pos pos' : Pos} {tb : WX → TS} {ts : Addr → Value → Option Addr → TS} {Wout : WX}
theorem ps_try_tup (hs : X.stack = X.env :: X.outer) (hf : X.env.frame = some X.env.locals) (hN : X.N.Nodup) (hi : X.N[i]? = some n) (hln : X.env.kindOf n = some .local) (hc : NamesAll X es cs) (few : cs.length ≤ sizeLine) (tk : Takes X Wout)
    (hb : ∀ (W : WX) (pn : List (Addr × Obj)) (xe : Value → Shared → Prop), Takes (X.tr pn xe) W → PassesOwn (model X.prog X.w) X.A X.env xe → PSs (X.tr pn xe) body (tb W))
    (hsu : ∀ (a : Addr) (oe : Obj) (cls : Value) (d : Option Addr) (pn : List (Addr × Obj)), Zc cls d oe → (∃ vs, oe.data = .fields vs) → PSs (X.suite a ((a, oe) :: pn)) (b₀ :: suite) (ts a cls d)) :
    PS X (.Try body [.ExceptHandler (some (.Tuple es kk np)) (some n) (b₀ :: suite) pos'] [] [] pos) (fun D σ H => tb (wTup X.K cs i ts Wout D) D σ H) := by
  refine ⟨fun pins s σ H D I h => ?_⟩
  have okc := I.ok
  have hfr0 : X.A.frames = some (X.env :: X.outer) := by rw [okc.frames, hs]
  have hlo : Loc X.env.scope n := .inl hln
  refine wpAny_Try_except ?_
  refine wpAny_mono ((hb (wTup X.K cs i ts Wout D) (X.pn ++ pins) (fun e s₁ => wpAny (model X.prog X.w) X.A (noteFrame e X.env) (fun _ s₂ => wpAny (model X.prog X.w) X.A (setFlight e none) (fun _ s₃ =>
    wpAny (model X.prog X.w) X.A (handleBy e X.env [.ExceptHandler (some (.Tuple es kk np)) (some n) (b₀ :: suite) pos']) (SP X pins D) X.xe s₃) X.xe s₂) X.xe s₁) (fun u s' xq => ?_) PassesOwn.looking).run [] s σ H D (I.toTry _) h) (fun f s1 hpp => ?_) (fun e s1 he => he)
  · obtain ⟨a, B, sI, pins', σ', H', cls, d, rfl, J', nb, up, sky, na, os, ag, b, hb1, hyes, hno⟩ := xq
    have J0 : Inv X pins σ' H' sI := J'.ofTry okc
    have skyl : Sky B (X.env :: X.outer) a (Zc cls d) X.env.locals s'.heap := by rw [← hs]; exact sky
    show wpAny (model X.prog X.w) X.A (noteFrame (.ref a) X.env) _ _ _
    refine Sky.land Zc.steady hfr0 hf skyl fun hl0 fll0 upl0 => ?_
    have Jl0 : Inv X pins σ' H' { s' with heap := hl0 } := J0.landed nb fll0.1 (up.trans upl0) os ag
    obtain ⟨ol0, vl0, hel0, hzl0, hdl0⟩ := fll0.there
    have nofr : ∀ {h : Heap} {o : Obj} {vs : Array Value}, h.FunFrames B (X.env :: X.outer) → h.get? a = some o → o.data = .fields vs → a ∉ frs (X.env :: X.outer) := fun {h o vs} ff e dd hm => by
      obtain ⟨_, o', e', hnf⟩ := ff.mem hm
      rw [e] at e'; cases e'
      exact hnf _ dd
    have nfa := nofr fll0.2.2.1 hel0 hdl0
    have nLo : a ≠ X.env.locals := fun z => nfa (List.mem_filterMap.mpr ⟨X.env, List.mem_cons_self, by rw [hf, z]⟩)
    have nFs : a ∉ X.fs := fun hm => by
      obtain ⟨e, he, q⟩ := List.mem_filterMap.mp hm
      exact nfa (List.mem_filterMap.mpr ⟨e, List.mem_cons_of_mem _ he, q⟩)
    have Sl0 := Jl0.suite hel0 hdl0 na nLo nFs
    refine wpAny_handleBy_cons (codeAny_handlers_test ?_) (by intro q; cases q)
    refine wpAny_Tuple (names_run (pos := np) hc Sl0 ⟨few, ?_⟩)
    have kp : ∀ q o, hl0.get? q = some o → (hl0.push { cls := .type "tuple", data := .seq cs.toArray }).get? q = some o := fun _ _ z => Heap.get?_push_of_some _ z
    have htp : (hl0.push { cls := .type "tuple", data := .seq cs.toArray }).get? hl0.objs.size = some { cls := .type "tuple", data := .seq cs.toArray } := Heap.get?_push_size hl0 rfl
    show wpAny (model X.prog X.w) (X.A.mark (some (.ref a))) (excMatches (.ref a) (.ref hl0.objs.size)) _ _ { s' with heap := hl0.push { cls := .type "tuple", data := .seq cs.toArray } }
    generalize hl0.push { cls := .type "tuple", data := .seq cs.toArray } = hl at kp htp
    have fll : HandSPX.FlyingZ B (X.env :: X.outer) a (Zc cls d) hl := by
      obtain ⟨f1, f2, f3, oe, ws, T, oT, ts, he, hc', hd, h1, hn, hne, hT, hdT, h3⟩ := fll0
      exact ⟨fun b o q => kp b o (f1 b o q), f2, f3.of_keeps fun b o q _ => ⟨o, kp b o q, rfl⟩, oe, ws, T, oT, ts, kp _ _ he, hc', hd, h1, hn, hne, kp _ _ hT, hdT, h3⟩
    have upl : s'.heap.UpToSlots hl := upl0.trans (Heap.UpToSlots.of_keeps kp)
    have Jl : Inv X pins σ' H' { s' with heap := hl } := J0.landed nb fll.1 (up.trans upl) os ag
    obtain ⟨ol, vl, hel, hzl, hdl⟩ := fll.there
    have Lty : PySem.W.Looks (model X.prog X.w) hl (typeOf (.ref a)) cls := fun A Q E s k q => wpAny_typeOf_ref (k _ _ hel) (by rw [hzl.1]; exact q)
    have Lex := exm_tupN (M := model X.prog X.w) (Jl.kIn) Lty htp hb1
    refine Lex.here ?_
    cases b with
    | true =>
      refine codeAny_handlers_suite_as ?_
      refine HandSPX.lands_againZ fll fun hm flm upm => ?_
      have Jm : Inv X pins σ' H' { s' with heap := hm } := J0.landed nb flm.1 ((up.trans upl).trans upm) os ag
      obtain ⟨om, vm, hem, hzm, hdm⟩ := flm.there
      have Sm_ := Jm.suite hem hdm na nLo nFs
      refine store_ok (X := X.suite a ((a, om) :: (X.pn ++ pins))) (v := .ref a) Sm_ hN hi hlo rfl (fun sv Sv => ?_) (.inr hln)
      refine wpAny_mono ((hsu a om cls d (X.pn ++ pins) hzm ⟨_, hdm⟩).run [] sv _ H' _ Sv (hyes rfl a na)) (fun f sw hpp => ?_) (fun _ _ z => False.elim z)
      have fin_ : ∀ {σw : L2.St} {Hw : Hp} {Q : Shared → Prop}, Inv (X.suite a ((a, om) :: (X.pn ++ pins))) [] σw Hw sw → (∀ sz, Inv X pins (σw.set i none) Hw sz → Q sz) →
          wpAny (model X.prog X.w) X.A (do bindName X.env n .none; unbindBehindTheSuite X.env n pos') (fun _ sz => Q sz) X.xe sw := fun {σw Hw Q} Sw hq => gone_ok (Sw.unsuite okc) hN hi hln hq
      cases f with
      | next =>
        obtain ⟨σw, Hw, Sw, qw⟩ := hpp
        exact fin_ Sw fun sz Jz => ⟨_, _, Jz, qw⟩
      | brk =>
        obtain ⟨σw, Hw, Sw, qw⟩ := hpp
        exact fin_ Sw fun sz Jz => ⟨_, _, Jz, qw⟩
      | cont =>
        obtain ⟨σw, Hw, Sw, qw⟩ := hpp
        exact fin_ Sw fun sz Jz => ⟨_, _, Jz, qw⟩
      | ret u =>
        obtain ⟨vw, σw, Hw, Sw, rw_, qw⟩ := hpp
        exact fin_ Sw fun sz Jz => ⟨_, _, _, Jz, rw_, qw⟩
    | false =>
      show wpAny _ X.A (handleBy (.ref a) X.env []) _ _ _
      refine wpAny_handleBy_nil ?_
      obtain ⟨k1, k2, k3, oe, vs, T, oT, ts', he, hz, hd, h1, hr⟩ := id fll
      unfold PySem.passOn
      refine wpAny_bind (wpAny_field he hd h1 ?_)
      rw [if_neg (show ¬ ((Value.ref T == Value.none) = true) from by simp)]
      have fini : wpAny (model X.prog X.w) X.A (setFlight (.ref a) X.env.frame) (fun _ s4 => wpAny (model X.prog X.w) X.A (throw (.ref a) : Sem Flow) (SP X pins D) X.xe s4) X.xe { s' with heap := hl } := by
        rw [hf]
        refine HandSPX.setFlight_upZ fll fun hm hh4 upm => wpAny_throw (tk _ _ ?_)
        exact ⟨a, B, sI, pins, σ', H', cls, d, rfl, J0, nb, (up.trans upl).trans upm, .inr (.inr (by rw [hs]; exact hh4)), na, os, ag, hno rfl⟩
      first
        | exact wpAny_bind (wpAny_pure (wpAny_bind fini))
        | exact wpAny_bind fini
  · cases f with
    | next =>
      obtain ⟨σ', H', J', q⟩ := hpp
      exact wpAny_execs_nil ⟨σ', H', J'.ofTry okc, q⟩
    | brk =>
      obtain ⟨σ', H', J', q⟩ := hpp
      exact ⟨σ', H', J'.ofTry okc, q⟩
    | cont =>
      obtain ⟨σ', H', J', q⟩ := hpp
      exact ⟨σ', H', J'.ofTry okc, q⟩
    | ret u =>
      obtain ⟨v, σ', H', J', r, q⟩ := hpp
      exact ⟨v, σ', H', J'.ofTry okc, r, q⟩
end
/-! ### a def called in the suite, with the caught exception -/
abbrev SpP := Addr → Value → Option Addr → Sp
structure FnQ (P : Program) (w : World) (K : PySem.W.Frag) (mg : Str → Option Value) (base : Heap) (k : Nat) (f : Addr) (fd : FuncData) (ps : List Str) (sp : SpP) : Prop where
  len : ∀ a cls d vs H Q E, sp a cls d vs H Q E → vs.length = ps.length
  run : ∀ (A : Around) (outer : List Env) (s : Shared) (H : Hp) (args : Args) (us : List Value) (vs : List V) (Q : VK) (E : XK) (p : Addr × Obj) (cls : Value) (d : Option Addr), Zc cls d p.2 → (∃ xs, p.2.data = .fields xs) → L2H.RoomH k A → L2H.PinOk outer H s p → Env0 P w K mg base A outer s H → BindsTo s fd args (ps.zip us) → Vals vs us → sp p.1 cls d vs H Q E →
    codeAny (model P w) A (.call (.ref f) args) (CR C8.CX0 outer P w H s Q E) s
section
variable {P : Program} {w : World} {K : PySem.W.Frag} {mg : Str → Option Value} {base : Heap} {k : Nat} {f : Addr} {fd : FuncData} {ps N : List Str} {sp : SpP} {x qual : Str} {params : Arguments} {body : List Stmt} {scope : Scope} {dvs : List V} {kws : List (Str × V)}
theorem okQ (F : FunD K x qual params body scope dvs kws f fd) (S : FnScope N ps scope) (len : ∀ a cls d vs H Q E, sp a cls d vs H Q E → vs.length = ps.length)
    (hbody : ∀ (cdv : Value) (A : Around) (outer : List Env) (s : Shared) (H : Hp) (vs : List V) (Q : VK) (E : XK) (p : Addr × Obj) (cls : Value) (d : Option Addr), Zc cls d p.2 → (∃ xs, p.2.data = .fields xs) → L2H.RoomH k (A.deeper (envOfC qual scope s.heap.objs.size f cdv)) → sp p.1 cls d vs H Q E →
      ∃ t, PSs (L2H.cxH C8.CX0 P w K mg base N qual scope f cdv A outer s H E p) body t ∧ t { nx := fun _ H' => Q .non H', rt := Q } (L2.start N vs) H) : FnQ P w K mg base (k + 1) f fd ps sp := by
  obtain ⟨oc, od, dV, kV, doc, pm, an, cdv, ct, osl, rfl, lk, hcd, _, _⟩ := F.ex
  refine ⟨len, fun A outer s H args us vs Q E p cls d hz hfl hr hpin e0 hb r hsp => ?_⟩
  have hl := len _ _ _ _ _ _ _ hsp
  have KX : K.In s.heap := e0.mod.kin.keeps fun b o e => (e0.bs b o e).1
  have lim : s.heap.NoLimit := e0.mod.nolimit.keeps fun b o e => (e0.bs b o e).1
  have hkind : ∀ y ∈ ps.zip us, scope.names.lookup y.1 = some .local ∨ (scope.names.lookup y.1 = some .cell ∧ ((cellsFrom (s.heap.objs.size + 1) scope.names []).lookup y.1).isSome = true) := fun ⟨n, v⟩ hy => by
    rcases S.par n (List.of_mem_zip hy).1 with q | q
    · exact .inl q
    · exact .inr ⟨q, PySem.W.cellsFrom_some _ _ _ (.inl q)⟩
  refine codeAny_call_function hr.depth (KX _ _ lk) rfl S.co S.gen rfl (PySem.W.codeRec_of KX hcd) (hb _ _ _ _ ?_)
  refine wpAny_newFunctionEnv_cells S.kind hkind fun env he s1 y => ?_
  subst he
  refine ⟨lim.keeps y.toInCall.keep, codeAny_func ?_⟩
  obtain ⟨t, ht, hq⟩ := hbody cdv A outer s H vs Q E p cls d hz hfl (hr.deeper _) hsp
  have I : Inv (L2H.cxH C8.CX0 P w K mg base N qual scope f cdv A outer s H E p) [] (L2.start N vs) H s1 := L2H.inv_startH S hpin e0 hl r y
  refine wpAny_mono (ht.run [] s1 (L2.start N vs) H _ I hq) (fun fl s' hs => ?_) fun e s' hs => hs
  cases fl with
  | ret u =>
    obtain ⟨v, σ', H', J, rv, q⟩ := hs
    exact ⟨v, H', J.os, J.bare, J.base, J.hok, rv, q⟩
  | next =>
    obtain ⟨σ', H', J, q⟩ := hs
    exact ⟨.non, H', J.os, J.bare, J.base, J.hok, rfl, q⟩
  | brk =>
    obtain ⟨_, _, _, q⟩ := hs
    exact False.elim q
  | cont =>
    obtain ⟨_, _, _, q⟩ := hs
    exact False.elim q
end
def CalleeQ (P : Program) (w : World) (K : PySem.W.Frag) (mg : Str → Option Value) (base : Heap) (k : Nat) (x : Str) (ps : List Str) (sp : SpP) : Prop := ∃ f fd, FnQ P w K mg base k f fd ps sp ∧ mg x = some (.ref f) ∧ PySem.W.keepIn K (.ref f) = true ∧ Binds K fd ps []
section
variable {X : Cx} {k : Nat} {ps : List Str} {sp : SpP} {x : Str} {q pos : Pos} {e : Expr} {es : List Expr} {t : TA} {p : Addr × Obj} {cls : Value} {d : Option Addr}
def tCallQ (sp : SpP) (a : Addr) (cls : Value) (d : Option Addr) (t : TA) : TE := fun σ H Q => t σ H fun vs H1 => sp a cls d vs H1 Q (fun _ _ _ => False)
theorem pe_callQ (C : CalleeQ X.prog X.w X.K X.mg X.base k x ps sp) (hr : L2H.RoomH k X.A) (hp : p ∈ X.pn) (hz : Zc cls d p.2) (hfl : ∃ xs, p.2.data = .fields xs) (ha : PA X (e :: es) t) (hg : Gl X x := by rfl) (hdb : (x == ("__debug__" : Str)) = false := by decide) (he : starEach (e :: es) X.env = (false, eval e X.env) :: starEach es X.env := by rfl) (hpl : (backTo pos (starEach es X.env)).any (·.1) = false := by rfl) :
    PE X (.Call (.Name x q) (e :: es) [] pos) (tCallQ sp p.1 cls d t) := by
  obtain ⟨f, fd, F, hm, hk, hb⟩ := C
  refine ⟨fun pins s σ H Q I h => ?_⟩
  refine wpAny_Call_Name_kw (ld_glob I hg hm ?_ hdb)
  refine PySem.W.callWith_K (h₀ := X.base) I.ok.mod.kin hk (thn (ha.run pos pins s σ H _ I h) fun us s1 ⟨vs, H1, I1, r, q⟩ => ⟨I1.kIn, ?_⟩) he hpl
  have hl : us.length = ps.length := by rw [← r.length]; exact F.len _ _ _ _ _ _ _ q
  have b := hb s1 us I1.kIn (by rw [List.append_nil]; exact hl)
  rw [List.append_nil] at b
  have P1 := I1.pin p (List.mem_append_left _ hp)
  have hpin : L2H.PinOk X.stack H1 s1 p := ⟨P1.1, P1.2.1, fun hm => (List.mem_cons.mp (I1.stkSub p.1 hm)).elim P1.2.2.1 P1.2.2.2.1, P1.2.2.2.2⟩
  refine wpAny_call (codeAny_mono (F.run X.A X.stack s1 H1 ⟨us, []⟩ us vs Q _ p cls d hz hfl hr hpin I1.env0 b r q) fun r s' hq => ?_)
  cases r with
  | error e => exact (show False from hq).elim
  | ok fl =>
    cases fl with
    | ret u => exact I1.after hq
    | next => exact False.elim hq
    | brk => exact False.elim hq
    | cont => exact False.elim hq
/-! ### the caught exception, asked -/
theorem pin_at {pins : List (Addr × Obj)} {σ : L2.St} {H : Hp} {s : Shared} {C dd : Addr} {fs : List (Str × V)} (I : Inv X pins σ H s) (hp : p ∈ X.pn) (hz : Zc cls d p.2) (hfl : ∃ xs, p.2.data = .fields xs) (ec : cls = .ref C) (ed' : d = some dd) (ed : H dd = some (.xd fs)) : ∃ (od : Obj) (mA : Str → Option Value), PySem.W.InstAt s.heap p.1 p.2 C (some od) ∧ (∀ n, PySem.W.lookIn n od = some (mA n)) ∧ ∀ n, RelO (fs.lookup n) (mA n) := by
  obtain ⟨ha, _⟩ := I.pin p (List.mem_append_left _ hp)
  obtain ⟨vs, hd⟩ := hfl
  subst ec ed'
  have hx : ObjOk X.prog X.w H s.heap dd (.xd fs) := I.hok dd _ ed
  obtain ⟨mA, hns, hr⟩ := hx
  obtain ⟨od, ho, hl⟩ := lookIn_ns hns
  exact ⟨od, mA, ⟨ha, hz.1, by unfold PySem.W.notCls; rw [hd] <;> rfl, by rw [hz.2]; exact ho⟩, hl, hr⟩
def rIsP (K : PySem.W.Frag) (mg : Str → Option Value) (a : Addr) (cls : Value) (d : Option Addr) : List V → Hp → VK → Prop := fun xs H Q => ∃ (dd C fI : Addr) (x f : Str) (fs : List (Str × V)) (c : V) (u : Value) (b : Bool), xs = [.ref a, c] ∧ WkX.ExcT K mg x f C fI ∧ cls = .ref C ∧ d = some dd ∧ H dd = some (.xd fs) ∧ ClsV c u ∧ PySem.W.kitOne K (.ref C) u = some b ∧ Q (.bl b) H
theorem call_isP (hp : p ∈ X.pn) (hz : Zc cls d p.2) (hfl : ∃ xs, p.2.data = .fields xs) : CallR X (.builtin "isinstance") (rIsP X.K X.mg p.1 cls d) := by
  intro pins s σ H xs us Q I r h
  obtain ⟨dd, C, fI, x, f, fs, c, u, b, rfl, T, ec, ed', ed, k, e, q⟩ := h
  obtain ⟨u1, u2, rfl, r1, r2⟩ := vals2 r
  have e2 := k.eq r2
  subst e2
  obtain rfl : u1 = Value.ref p.1 := r1
  obtain ⟨od, mA, J, _, _⟩ := pin_at I hp hz hfl ec ed' ed
  exact PySem.W.kia_one (PySem.W.kitx_exc T.icl T.ga T.gg T.exC T.iha T.ihn T.itk T.ihm) I.kIn J e (fun z => nomatch z) fun tk => ⟨.bl b, H, I.tok tk, rfl, q⟩
/-- .. of several classes -/
def rIsPT (K : PySem.W.Frag) (mg : Str → Option Value) (a : Addr) (cls : Value) (d : Option Addr) : List V → Hp → VK → Prop := fun xs H Q => ∃ (dd C fI : Addr) (x f : Str) (fs : List (Str × V)) (t : Addr) (cs : List Addr) (b : Bool), xs = [.ref a, .ref t] ∧ WkX.ExcT K mg x f C fI ∧ cls = .ref C ∧ d = some dd ∧ H dd = some (.xd fs) ∧ H t = some (.tup (cs.map V.ref)) ∧ PySem.W.kitAny K (.ref C) (cs.map Value.ref) = some b ∧ Q (.bl b) H
theorem refs_vals : ∀ {cs : List Addr} {us : List Value}, Vals (cs.map V.ref) us → us = cs.map Value.ref
  | [], _, .nil => rfl
  | c :: cs, _, .cons r t => by
    rw [refs_vals t, List.map_cons]
    congr 1
theorem call_isPT (hp : p ∈ X.pn) (hz : Zc cls d p.2) (hfl : ∃ xs, p.2.data = .fields xs) : CallR X (.builtin "isinstance") (rIsPT X.K X.mg p.1 cls d) := by
  intro pins s σ H xs us Q I r h
  obtain ⟨dd, C, fI, x, f, fs, t, cs, b, rfl, T, ec, ed', ed, ht, e, q⟩ := h
  obtain ⟨u1, u2, rfl, r1, r2⟩ := vals2 r
  obtain rfl : u1 = Value.ref p.1 := r1
  obtain rfl : u2 = Value.ref t := r2
  obtain ⟨od, mA, J, _, _⟩ := pin_at I hp hz hfl ec ed' ed
  obtain ⟨its, rv, ⟨⟨cls, dd, data, sl⟩, ho, hc, n, hd⟩, _⟩ := I.tuple (.inl (.inl ht))
  simp only at hc hd
  subst hc hd
  have ei := refs_vals rv
  subst ei
  exact PySem.W.kia_tup (PySem.W.kitx_exc T.icl T.ga T.gg T.exC T.iha T.ihn T.itk T.ihm) I.kIn J ho e (fun z => nomatch z) fun tk => ⟨.bl b, H, I.tok tk, rfl, q⟩
def tExP (K : PySem.W.Frag) (mg : Str → Option Value) (a : Addr) (cls : Value) (d : Option Addr) (f : Str) (te : TE) : TE := fun σ H Q => te σ H fun y H1 => y = .ref a ∧ ∃ (x : Str) (C fI dd : Addr) (fs : List (Str × V)) (v : V), WkX.ExcT K mg x f C fI ∧ cls = .ref C ∧ d = some dd ∧ H1 dd = some (.xd fs) ∧ fs.lookup f = some v ∧ Q v H1
theorem pe_exP {f : Str} {te : TE} (hp : p ∈ X.pn) (hz : Zc cls d p.2) (hfl : ∃ xs, p.2.data = .fields xs) (he : PE X e te) (hb : attributeBase e f X.env (eval e X.env) = eval e X.env := by rfl) : PE X (.Attribute e f pos) (tExP X.K X.mg p.1 cls d f te) := by
  refine ⟨fun pins s σ H Q I h => ?_⟩
  refine attr_of hb (thn (he.run pins s σ H _ I h) fun u s1 hh => ?_)
  obtain ⟨y, H1, I1, ry, ey, x, C, fI, dd, fs, v, T, ec, ed', ed, hl, q⟩ := hh
  subst ey
  obtain rfl : u = Value.ref p.1 := ry
  obtain ⟨od, mA, J, hlk, hr⟩ := pin_at I1 hp hz hfl ec ed' ed
  obtain ⟨u, hu, ru⟩ := RelO.some_of (v := v) (o := mA f) (by rw [← hl]; exact hr f)
  exact HandSPX.exc_get I1.kIn J T.ga T.gg T.exC (PySem.W.findObj_own T.hdC T.noN rfl (by rw [hlk, hu])) (handed_of ru) ⟨v, H1, I1.tok _, ru, q⟩
/-- what is taken at slots of the right number is taken -/
theorem takes_len {X : Cx} {W : WX} (tk : Takes X W) : Takes X (fun cls d σ H => σ.length = X.N.length → W cls d σ H) := fun u s' x => by
  refine tk u s' ?_
  obtain ⟨a, B, sI, pins', σ', H', cls, d, e, J', nb, up, sky, na, os, ag, w⟩ := x
  exact ⟨a, B, sI, pins', σ', H', cls, d, e, J', nb, up, sky, na, os, ag, w J'.len⟩
end
end WkW
namespace WkW
open PySem PySem.Spec PyProof.Rows L2
/-! ### several except clauses, each with the same name -/
def wManyA (K : PySem.W.Frag) (i : Nat) (Wout : WX) (D : Ends) : List (Value × (Addr → Value → Option Addr → TS)) → WX
  | [] => Wout
  | (c, ts) :: r => fun cls d σ H => ∃ b, PySem.W.exmOne K cls c = some b ∧ (b = true → ∀ a, H a = none → ts a cls d { nx := fun σ' H' => D.nx (σ'.set i none) H', rt := D.rt, bk := fun σ' H' => D.bk (σ'.set i none) H', ct := fun σ' H' => D.ct (σ'.set i none) H' } (σ.set i (some (.ref a))) H) ∧ (b = false → wManyA K i Wout D r cls d σ H)
inductive HdsAs (X : Cx) (n : Str) : List ExceptHandler → List (Value × (Addr → Value → Option Addr → TS)) → Prop
  | nil : HdsAs X n [] []
  | cons {x : Str} {c : Value} {ts : Addr → Value → Option Addr → TS} {b₀ : Stmt} {suite : List Stmt} {np pos' : Pos} {hds : List ExceptHandler} {l : List (Value × (Addr → Value → Option Addr → TS))} (hc : Names X x c)
      (hsu : ∀ (a : Addr) (oe : Obj) (cls : Value) (d : Option Addr) (pn : List (Addr × Obj)), Zc cls d oe → (∃ vs, oe.data = .fields vs) → PSs (X.suite a ((a, oe) :: pn)) (b₀ :: suite) (ts a cls d)) (r : HdsAs X n hds l) :
      HdsAs X n (.ExceptHandler (some (.Name x np)) (some n) (b₀ :: suite) pos' :: hds) ((c, ts) :: l)
section
variable {X : Cx} {n : Str} {i : Nat} {body : List Stmt} {h₀ : ExceptHandler} {hds : List ExceptHandler} {l : List (Value × (Addr → Value → Option Addr → TS))} {pos : Pos} {tb : WX → TS} {Wout : WX}
theorem ps_try_manyA (hs : X.stack = X.env :: X.outer) (hf : X.env.frame = some X.env.locals) (hN : X.N.Nodup) (hi : X.N[i]? = some n) (hln : X.env.kindOf n = some .local) (tk : Takes X Wout)
    (hb : ∀ (W : WX) (pn : List (Addr × Obj)) (xe : Value → Shared → Prop), Takes (X.tr pn xe) W → PassesOwn (model X.prog X.w) X.A X.env xe → PSs (X.tr pn xe) body (tb W))
    (hh : HdsAs X n (h₀ :: hds) l) : PS X (.Try body (h₀ :: hds) [] [] pos) (fun D σ H => tb (wManyA X.K i Wout D l) D σ H) := by
  refine ⟨fun pins s σ H D I h => ?_⟩
  have okc := I.ok
  have hfr0 : X.A.frames = some (X.env :: X.outer) := by rw [okc.frames, hs]
  have hlo : Loc X.env.scope n := .inl hln
  refine wpAny_Try_except ?_
  refine wpAny_mono ((hb (wManyA X.K i Wout D l) (X.pn ++ pins) (fun e s₁ => wpAny (model X.prog X.w) X.A (noteFrame e X.env) (fun _ s₂ => wpAny (model X.prog X.w) X.A (setFlight e none) (fun _ s₃ =>
    wpAny (model X.prog X.w) X.A (handleBy e X.env (h₀ :: hds)) (SP X pins D) X.xe s₃) X.xe s₂) X.xe s₁) (fun u s' xx => ?_) PassesOwn.looking).run [] s σ H D (I.toTry _) h) (fun f s1 hpp => ?_) (fun e s1 he => he)
  · obtain ⟨a, B, sI, pins', σ', H', cls, d, rfl, J', nb, up, sky, na, os, ag, w⟩ := xx
    have J0 : Inv X pins σ' H' sI := J'.ofTry okc
    have sky' : Sky B (X.env :: X.outer) a (Zc cls d) X.env.locals s'.heap := by rw [← hs]; exact sky
    show wpAny (model X.prog X.w) X.A (noteFrame (.ref a) X.env) _ _ _
    refine Sky.land Zc.steady hfr0 hf sky' fun h3 fl3 up3 => ?_
    have J3 : Inv X pins σ' H' { s' with heap := h3 } := J0.landed nb fl3.1 (up.trans up3) os ag
    obtain ⟨oe3, vs3, he3, hz3, hd3⟩ := fl3.there
    have notFr : ∀ {h : Heap} {o : Obj} {vs : Array Value}, h.FunFrames B (X.env :: X.outer) → h.get? a = some o → o.data = .fields vs → a ∉ frs (X.env :: X.outer) := fun {h o vs} ff e dd hm => by
      obtain ⟨_, o', e', hnf⟩ := ff.mem hm
      rw [e] at e'; cases e'
      exact hnf _ dd
    have nfr := notFr fl3.2.2.1 he3 hd3
    have nL : a ≠ X.env.locals := fun z => nfr (List.mem_filterMap.mpr ⟨X.env, List.mem_cons_self, by rw [hf, z]⟩)
    have nF : a ∉ X.fs := fun hm => by
      obtain ⟨e, he, q⟩ := List.mem_filterMap.mp hm
      exact nfr (List.mem_filterMap.mpr ⟨e, List.mem_cons_of_mem _ he, q⟩)
    have S3 := J3.suite he3 hd3 na nL nF
    have go : ∀ {hds' : List ExceptHandler} {l' : List (Value × (Addr → Value → Option Addr → TS))}, HdsAs X n hds' l' → wManyA X.K i Wout D l' cls d σ' H' →
        wpAny (model X.prog X.w) X.A (handleBy (.ref a) X.env hds') (SP X pins D) X.xe { s' with heap := h3 } := by
      intro hds' l' hk
      induction hk with
      | nil =>
        intro w
        refine wpAny_handleBy_nil ?_
        obtain ⟨k1, k2, k3, oe, vs, T, oT, ts', he, hz, hd, h1, hr⟩ := id fl3
        unfold PySem.passOn
        refine wpAny_bind (wpAny_field he hd h1 ?_)
        rw [if_neg (show ¬ ((Value.ref T == Value.none) = true) from by simp)]
        have fini : wpAny (model X.prog X.w) X.A (setFlight (.ref a) X.env.frame) (fun _ s4 => wpAny (model X.prog X.w) X.A (throw (.ref a) : Sem Flow) (SP X pins D) X.xe s4) X.xe { s' with heap := h3 } := by
          rw [hf]
          refine HandSPX.setFlight_upZ fl3 fun h4 hh4 up4 => wpAny_throw (tk _ _ ?_)
          exact ⟨a, B, sI, pins, σ', H', cls, d, rfl, J0, nb, (up.trans up3).trans up4, .inr (.inr (by rw [hs]; exact hh4)), na, os, ag, w⟩
        first
          | exact wpAny_bind (wpAny_pure (wpAny_bind fini))
          | exact wpAny_bind fini
      | @cons x c ts b₀ suite np pos' hds2 l2 hc hsu r ih =>
        intro w
        obtain ⟨b, hb1, hyes, hno⟩ := w
        refine wpAny_handleBy_cons (codeAny_handlers_test ?_) (by intro q; cases q)
        have LT : PySem.W.Looks (model X.prog X.w) h3 (typeOf (.ref a)) cls := fun A Q E s k q => wpAny_typeOf_ref (k _ _ he3) (by rw [hz3.1]; exact q)
        have LM := PySem.W.exm_one (M := model X.prog X.w) (J3.kIn) LT hb1
        have test : ∀ {Q : Value → Shared → Prop} {E : Value → Shared → Prop}, Q c { s' with heap := h3 } → wpAny (model X.prog X.w) (X.A.mark (some (.ref a))) (eval (.Name x np) X.env) Q E { s' with heap := h3 } := fun {Q E} q => by
          obtain ⟨hg, hdbg, hm | ⟨hm, hv, hnn⟩⟩ := hc
          · exact ld_glob (X := X.suite a ((a, oe3) :: (X.pn ++ pins))) S3 hg hm q hdbg
          · exact ld_blt (X := X.suite a ((a, oe3) :: (X.pn ++ pins))) S3 hg hm hv q hnn hdbg
        refine test (LM.here ?_)
        cases b with
        | true =>
          refine codeAny_handlers_suite_as ?_
          refine HandSPX.lands_againZ fl3 fun hm flm upm => ?_
          have Jm : Inv X pins σ' H' { s' with heap := hm } := J0.landed nb flm.1 ((up.trans up3).trans upm) os ag
          obtain ⟨om, vm, hem, hzm, hdm⟩ := flm.there
          have Sm_ := Jm.suite hem hdm na nL nF
          refine store_ok (X := X.suite a ((a, om) :: (X.pn ++ pins))) (v := .ref a) Sm_ hN hi hlo rfl (fun sv Sv => ?_) (.inr hln)
          refine wpAny_mono ((hsu a om cls d (X.pn ++ pins) hzm ⟨_, hdm⟩).run [] sv _ H' _ Sv (hyes rfl a na)) (fun f sw hpp => ?_) (fun _ _ z => False.elim z)
          have fin_ : ∀ {σw : L2.St} {Hw : Hp} {Q : Shared → Prop}, Inv (X.suite a ((a, om) :: (X.pn ++ pins))) [] σw Hw sw → (∀ sz, Inv X pins (σw.set i none) Hw sz → Q sz) →
              wpAny (model X.prog X.w) X.A (do bindName X.env n .none; unbindBehindTheSuite X.env n pos') (fun _ sz => Q sz) X.xe sw := fun {σw Hw Q} Sw hq => gone_ok (Sw.unsuite okc) hN hi hln hq
          cases f with
          | next =>
            obtain ⟨σw, Hw, Sw, qw⟩ := hpp
            exact fin_ Sw fun sz Jz => ⟨_, _, Jz, qw⟩
          | brk =>
            obtain ⟨σw, Hw, Sw, qw⟩ := hpp
            exact fin_ Sw fun sz Jz => ⟨_, _, Jz, qw⟩
          | cont =>
            obtain ⟨σw, Hw, Sw, qw⟩ := hpp
            exact fin_ Sw fun sz Jz => ⟨_, _, Jz, qw⟩
          | ret u =>
            obtain ⟨vw, σw, Hw, Sw, rw_, qw⟩ := hpp
            exact fin_ Sw fun sz Jz => ⟨_, _, _, Jz, rw_, qw⟩
        | false =>
          show wpAny _ X.A (handleBy (.ref a) X.env hds2) _ _ _
          exact ih (hno rfl)
    exact go hh w
  · cases f with
    | next =>
      obtain ⟨σ', H', J', q⟩ := hpp
      exact wpAny_execs_nil ⟨σ', H', J'.ofTry okc, q⟩
    | brk =>
      obtain ⟨σ', H', J', q⟩ := hpp
      exact ⟨σ', H', J'.ofTry okc, q⟩
    | cont =>
      obtain ⟨σ', H', J', q⟩ := hpp
      exact ⟨σ', H', J'.ofTry okc, q⟩
    | ret u =>
      obtain ⟨v, σ', H', J', r, q⟩ := hpp
      exact ⟨v, σ', H', J'.ofTry okc, r, q⟩
end
end WkW
namespace WkK
open PySem PySem.Spec PyProof.Rows L2 WkD WkN
theorem ixT {X : Cx} (K : PySem.W.Frag) (h : X.K = K) : IxR X (rIxT K) := by
  subst h
  exact ix_tup
theorem peFld {X : Cx} {e : Expr} {f : Str} {ta : TE} {pos : Pos} (K : PySem.W.Frag) (h : X.K = K) (he : PE X e ta) (hb : attributeBase e f X.env (eval e X.env) = eval e X.env) : PE X (.Attribute e f pos) (tFld K ta f) := by
  subst h
  exact pe_fld he hb
theorem ixL {X : Cx} (K : PySem.W.Frag) (h : X.K = K) : IxR X (rIxL K) := by
  subst h
  exact ix_list
end WkK
/-! ### t + u, t the empty tuple or not -/
namespace HT
open PySem PySem.Spec PyProof.Rows
section
variable {prog : Program} {w : World} {A : Around} {E : Value → Shared → Prop} {s : Shared}
theorem tuple_addW0 (t b : Addr) (items items2 : Array Value) (n n2 : Nat) (dd dd2 : Option Addr) (sl sl2 : Array (Option Value)) (hv : items.isEmpty = true) :
    Meets (Builtin.«tuple.__add__» ⟨[.ref t, .ref b], []⟩) (fun _ R s => s.heap.get? t = some { cls := .type "tuple", dict := dd, data := .seq items n, slots := sl } ∧ s.heap.get? b = some { cls := .type "tuple", dict := dd2, data := .seq items2 n2, slots := sl2 } ∧ R (.ok (.ret (.ref b))) s) :=
  .of_wp fun prog w A R s h => by
    obtain ⟨hp, g, d, tk, os⟩ := s
    obtain ⟨ht, hb, h⟩ := h
    have f2 := AutoSeq1.sub_tuple_tuple
    wp_walk using AutoSeq1.wpAny_loadPart' ht, AutoSeq1.wpAny_loadPart' hb
    simp only [hv, if_true]
    wp_walk using AutoSeq1.wpAny_loadPart' ht, AutoSeq1.wpAny_loadPart' hb
    exact ⟨_, rfl, h⟩
end
end HT
namespace WkK
open PySem PySem.Spec PyProof.Rows L2
def rCatT0 (K : PySem.W.Frag) : R2 := fun x y H Q => ∃ a b xs ys, x = .ref a ∧ y = .ref b ∧ SqT K H a xs ∧ SqT K H b ys ∧ ys ≠ [] ∧ xs.length + ys.length ≤ sizeLine ∧
  (xs = [] → Q (.ref b) H) ∧ (xs ≠ [] → ∀ p, H p = none → Q (.ref p) (upd H p (.tup (xs ++ ys))))
theorem opCatT0 {X : Cx} (K : PySem.W.Frag) (h : X.K = K) : OpR X (binaryOp .Add) (rCatT0 K) := by
  subst h
  intro pins s σ H x y v u Q I rx ry h
  obtain ⟨a, b, xs, ys, rfl, rfl, ha, hb, hy, hz, q1, q2⟩ := h
  by_cases hx : xs = []
  · cases rx
    cases ry
    obtain ⟨its, r1, p1, _⟩ := I.tuple ha
    obtain ⟨its2, r2, p2, _⟩ := I.tuple hb
    have e0 : its = [] := r1.nil_iff.mpr hx
    obtain ⟨⟨cls, dd, data, sl⟩, ho, hc, n, hd⟩ := id p1
    obtain ⟨⟨cls2, dd2, data2, sl2⟩, ho2, hc2, n2, hd2⟩ := id p2
    simp only at hc hd hc2 hd2
    subst hc hd hc2 hd2
    exact concat_meets ⟨_, ho, rfl⟩ ⟨_, ho2, rfl⟩ noFill_tuple_add seq_tuple_add PySem.F.slot_tuple_add PySem.F.entry_tuple_add (PySem.F.args_tuple_add_2 _ _)
      (HT.tuple_addW0 a b its.toArray its2.toArray n n2 dd dd2 sl sl2 (by simp [e0])) ⟨ho, ho2, ⟨.ref b, H, I, rfl, q1 hx⟩⟩
  · exact op_catT pins s σ H _ _ v u Q I rx ry ⟨a, b, xs, ys, rfl, rfl, ha, hb, hx, hz, fun z => absurd z hy, fun _ => q2 hx⟩
end WkK
namespace L2N
open PySem PySem.Spec PyProof.Rows L2 HotX L2H
/-! ### raise x(e) -/
section
variable {X : Cx} {x f : Str} {C fI : Addr}
theorem pmk_E {a : Expr} {ta : TA} {p pos : Pos} {k : Nat} (T : WkX.ExcT X.K X.mg x f C fI) (hr : Room k X.A) (ha : PA X [a] ta) (hg : Gl X x := by rfl) (hdb : (x == ("__debug__" : Str)) = false := by decide)
    (he : starEach (a :: []) X.env = (false, eval a X.env) :: starEach [] X.env := by rfl) (hpl : (backTo pos (starEach [] X.env)).any (·.1) = false := by rfl) :
    PMk X (.Call (.Name x p) [a] [] pos) (WkK.tMkX C f ta) := by
  intro pins s σ H Q I h
  refine wpAny_Call_Name_kw (ld_glob I hg T.gC ?_ hdb)
  refine PySem.W.callWith_K (h₀ := X.base) I.ok.mod.kin T.kC (thn (ha.run pos pins s σ H _ I h) fun us s1 hh => ?_) he hpl
  obtain ⟨vs, H1, I1, r1, v, ev, q1⟩ := hh
  subst ev
  refine ⟨I1.kIn, ?_⟩
  cases r1 with
  | cons rv rn =>
    rename_i v' us'
    cases rn
    show wpAny _ _ (call (.ref C) [v']) _ _ _
    have hlim := I1.nolimit
    obtain ⟨hp, g, dr, tk, os⟩ := s1
    refine wpAny_call (WkX.made_ (v := v') T (.inl rfl) I1.kIn hlim (by have := hr.dp; omega) fun h' tk' e d M => ?_)
    show MkP X pins σ Q (.ref e) ⟨h', g, dr, tk', os⟩
    obtain ⟨t1, hoe⟩ := M.obj
    have hns := M.ns
    obtain ⟨G, g1, g2⟩ := restrict h' fun b => decide (b ≠ e)
    have gk : ∀ b, b ≠ e → G.get? b = h'.get? b := fun b hb => g1 b (decide_eq_true hb)
    have ge : G.get? e = none := g2 e (by simp)
    have old : ∀ b o, hp.get? b = some o → G.get? b = some o := fun b o q => (gk b (Nat.ne_of_lt (Nat.lt_of_lt_of_le (Heap.lt_size q) M.new))).trans (M.keep b o q)
    have ob : ObjOk X.prog X.w (upd H1 d (.xd [(f, v)])) G d (.xd [(f, v)]) := ⟨_, hns.at (fun o q => (gk d M.dne).trans q), fun g => WkX.relO_one rv g⟩
    have J : Inv X pins σ (upd H1 d (.xd [(f, v)])) ⟨G, g, dr, tk', os⟩ := I1.laid (t' := tk') old M.dbig ob
    refine ⟨e, _, _, ⟨G, g, dr, tk', os⟩, _, .ref C, some d, rfl, J, fun b o q => ?_, ge, hoe, ⟨rfl, rfl, fun vs e => by cases e; rfl⟩, rfl, rfl, ?_, rfl, I1.bare, raises_own T.exC T.tyC, q1 d (I1.hok.fresh M.dbig)⟩
    · by_cases hb : b = e
      · have q' : G.get? b = some o := q
        rw [hb, ge] at q'
        cases q'
      · exact (gk b hb).symm.trans q
    · rw [upd_ne (Ne.symm M.dne)]
      exact I1.hok.fresh M.new
theorem ps_raiseE {a : Expr} {ta : TA} {W : WX} {p pos pos2 : Pos} {k : Nat} (hc : X.calm = true) (T : WkX.ExcT X.K X.mg x f C fI) (hr : Room k X.A) (tk : Takes X W) (ha : PA X [a] ta) (hg : Gl X x := by rfl) (hdb : (x == ("__debug__" : Str)) = false := by decide)
    (he : starEach (a :: []) X.env = (false, eval a X.env) :: starEach [] X.env := by rfl) (hpl : (backTo pos (starEach [] X.env)).any (·.1) = false := by rfl) :
    PS X (.Raise (some (.Call (.Name x p) [a] [] pos)) none pos2) (WkK.tRaiseE C f W ta) := ps_raise hc tk (pmk_E T hr ha hg hdb he hpl)
end
/-! ### x(e, ..) of a class, what it may let out told by the slots -/
section
variable {X : Cx} {CX : CXT} {k : Nat} {C : Addr} {sp : Sp} {E : L2.St → XK} {x : Str} {p pos : Pos} {e : Expr} {es : List Expr} {t : TA}
def tMakeS (C : Addr) (sp : Sp) (dvs : List V) (E : L2.St → XK) (t : TA) : TE := fun σ H Q => tMake C sp dvs (E σ) t σ H Q
theorem run_makeS {pins : List (Addr × Obj)} {σ : L2.St} {H : Hp} {s : Shared} {Q : VK} {uu : List Value} {vv dw : List V} {dd : List Value} {f : Addr} {fd : FuncData} {ps : List Str} {E : XK} (M : Mk X.K C f) (F : FnOk X.prog X.w X.K X.mg X.base CX k f fd ps sp) (hr : Room (k + 1) X.A) (hb : Binds X.K fd ps dd) (hd : Vals dw dd)
    (hx : PassesAt CX X σ E) (I : Inv X pins σ H s) (r : Vals vv uu)
    (h : ∀ x dx, H x = none → H dx = none → dx ≠ x → sp (.ref x :: (vv ++ dw)) (upd (upd H dx (.own x)) x (.ins C dx [])) (fun v H2 => v = .non ∧ Q (.ref x) H2) E) :
    wpAny (model X.prog X.w) X.A (call (.ref C) uu) (EP X pins σ Q) X.xe s := by
  have qs := h (s.heap.objs.size + 1) s.heap.objs.size (I.hok.fresh (Nat.le_succ _)) (I.hok.fresh (Nat.le_refl _)) (Nat.ne_of_lt (Nat.lt_succ_self _))
  have Jm := Inv.made (C := C) I
  have vm : Vals (V.ref (s.heap.objs.size + 1) :: (vv ++ dw)) (Value.ref (s.heap.objs.size + 1) :: (uu ++ dd)) := .cons rfl (r.append hd)
  have ln : (Value.ref (s.heap.objs.size + 1) :: uu ++ dd).length = ps.length := by
    have e := vm.length
    rw [F.len _ _ _ _ qs] at e
    exact e.symm
  refine wpAny_call (make_map (f := f) I.kIn M.makes M.init (beq_iff_eq.mp M.fn) (codeAny_mono (F.run _ X.stack _ _ ⟨Value.ref (s.heap.objs.size + 1) :: uu, []⟩ (Value.ref (s.heap.objs.size + 1) :: (uu ++ dd)) _ _ E (hr.make C uu [])
    (Jm.env0.make C uu []) (hb _ (Value.ref (s.heap.objs.size + 1) :: uu) Jm.kIn ln) vm qs) fun r s' qz => ?_))
  cases r with
  | error e => exact hx pins _ _ e s' Jm qz
  | ok fz =>
    cases fz with
    | ret u =>
      obtain ⟨v, H', Ix, rx, ev, qx⟩ := Jm.after qz
      subst ev
      exact ⟨rx, ⟨V.ref (s.heap.objs.size + 1), H', Ix, rfl, qx⟩⟩
    | next => exact False.elim qz
    | brk => exact False.elim qz
    | cont => exact False.elim qz
theorem pe_mkS (h : WkC.MakeC X.prog X.w X.K X.mg X.base CX C x k sp) (hr : Room (k + 1) X.A) (hx : ∀ σ, PassesAt CX X σ (E σ)) (ha : PA X (e :: es) t) (hg : Gl X x := by rfl) (hdb : (x == ("__debug__" : Str)) = false := by decide)
    (hst : starEach (e :: es) X.env = (false, eval e X.env) :: starEach es X.env := by rfl) (hpl : (backTo pos (starEach es X.env)).any (·.1) = false := by rfl) : PE X (.Call (.Name x p) (e :: es) [] pos) (tMakeS C sp [] E t) := by
  obtain ⟨f, fd, ps, h1, h2, h3, h4⟩ := h
  refine ⟨fun pp s σ H Q I h => ?_⟩
  refine wpAny_Call_Name_kw (ld_glob I hg h3 ?_ hdb)
  refine PySem.W.callWith_K (h₀ := X.base) I.ok.mod.kin h1.kp (thn (ha.run pos pp s σ H _ I h) fun uu sa ⟨vv, H1, Ia, r, q⟩ => ⟨Ia.kIn, ?_⟩) hst hpl
  exact run_makeS h1 h2 hr h4 .nil (hx σ) Ia r q
end
/-! ### a, b, c = x, y, z where an exception is handled -/
section
variable {prog : Program} {w : World} {A : Around} {E : Value → Shared → Prop} {s : Shared}
theorem tup_end_hot {jt tp x1 : Addr} {i : Nat} {items : Array Value} {Q : Option Value → Shared → Prop} (hot : HotAt A x1 s.heap) (nx : jt ≠ x1)
    (itH : IsTupIter s.heap jt tp i) (tpH : IsTup s.heap tp items) (noX : items[i]? = none)
    (goQ : ∀ h', Heap.ExtBut jt s.heap h' → Q none { s with heap := h' }) : wpAny (model prog w) A (pyNext (.ref jt)) Q E s := by
  obtain ⟨hnd, oa, va, ga, da, ca⟩ := hot
  obtain ⟨ob, gb, cb, db⟩ := id itH
  obtain ⟨oc, gc, _, nc, dc⟩ := tpH
  unfold pyNext
  refine wpAny_bind (wpAny_attempt (wpAny_callSpecial?_slot (name := Str.ofString "__next__") itH.typeIs slot_tupleiter_next
    (wpAny_call_entry slot_tupleiter_next itH.typeIs entry_tupleiter_next ?_ (args_tupleiter_next _))))
  show wpAny _ _ (field (.ref jt) 0 >>= _) _ _ s
  refine wpAny_bind (wpAny_field gb db (x := .ref tp) rfl ?_)
  show wpAny _ _ (if (Value.ref tp == Value.none) = true then _ else _) _ _ s
  rw [if_neg (show ¬ ((Value.ref tp == Value.none) = true) from Bool.false_ne_true)]
  show wpAny _ _ (field (.ref jt) 1 >>= _) _ _ s
  refine wpAny_bind (wpAny_field gb db (x := .int i 0) rfl ?_)
  show wpAny _ _ (seqItems? (.ref tp) >>= _) _ _ s
  refine wpAny_bind (wpAny_seqItems gc dc ?_)
  simp only [Int.toNat_natCast, noX]
  refine wpAny_bind (wpAny_rule (wpAny_bind (wpAny_setField gb db (by simp) ?_)))
  have k1 : (s.heap.update jt (Obj.mapFields (·.setIfInBounds 0 .none))).get? x1 = some oa := by
    rw [Heap.get?_update_other _ _ nx]
    exact ga
  show wpAny _ _ (newExc (.type "StopIteration") [] >>= _) _ _ _
  refine wpAny_bind ?_
  simp only [newExc, newTuple]
  refine wpAny_bind (wpAny_newObj_type ?_ (by size_fits))
  refine wpAny_bind (m := firstArgMember _ _) (wpAny_of_eq (a := Value.none) (by first | rfl | (simp only [firstArgMember]; rfl)) ?_)
  refine wpAny_newObj_type ?_ (by size_fits)
  refine raiseNew_hot ⟨hnd, oa, va, Heap.get?_push_of_some _ (Heap.get?_push_of_some _ k1), da, ca⟩ (Nat.ne_of_lt (Heap.lt_size (Heap.get?_push_of_some _ k1))) (Heap.get?_push_size _ rfl) rfl (by first | (simp; done) | (simp; omega) | (simp only [Array.size_append]; simp; omega)) ?_
  refine wpAny_bind (wpAny_isInstance (T := "StopIteration") (b := true) ⟨_, Heap.get?_update_self _ (Heap.get?_push_size _ rfl) rfl, rfl⟩ isSubtype_stop ?_)
  refine wpAny_pure (goQ _ fun b ob hb e => ?_)
  have e1 : (s.heap.update jt (Obj.mapFields (·.setIfInBounds 0 .none))).get? b = some ob := by
    rw [Heap.get?_update_other _ _ (Ne.symm hb)]
    exact e
  rw [Heap.get?_update_other _ _ (Nat.ne_of_gt (Heap.lt_size (Heap.get?_push_of_some _ e1)))]
  exact Heap.get?_push_of_some _ (Heap.get?_push_of_some _ e1)
theorem unpack_hot {tp x1 : Addr} {its : Array Value} {Q : List Value → Shared → Prop} (hot : HotAt A x1 s.heap) (tpH : IsTup s.heap tp its)
    (goQ : ∀ h', Heap.ExtBut s.heap.objs.size s.heap h' → Q its.toList { s with heap := h' }) : wpAny (model prog w) A (unpackItems (.ref tp) its.size none) Q E s := by
  have ltp : tp ≠ s.heap.objs.size := by obtain ⟨o, ho, _⟩ := tpH; exact Nat.ne_of_lt (Heap.lt_size ho)
  have hl1 : s.heap.objs.size ≠ x1 := by obtain ⟨_, o, _, ho, _⟩ := hot; exact Nat.ne_of_gt (Heap.lt_size ho)
  unfold unpackItems
  refine wpAny_bind ?_
  · unfold notIterableAtAll
    refine wpAny_bind (wpAny_specialOf tpH.typeIs slot_tuple_iter.lookup ?_)
    refine wpAny_pure ?_
    simp only [Bool.false_eq_true, if_false]
    refine wpAny_bind (wpAny_holding (iter_tuple tpH ?_))
    refine wpAny_bind (wpAny_holding (draw_tuple ltp its.size 0 _ _ ⟨_, Heap.get?_push_size _ rfl, rfl, rfl⟩ (tpH.push _) (by omega) fun hm itm sm => ?_))
    have allI : List.take its.size (List.drop 0 its.toList) = its.toList := by
      rw [List.drop_zero]; exact List.take_of_length_le (by simp)
    rw [allI]
    rw [if_neg (by simp)]
    have tt : IsTup hm tp its := (tpH.push _).extBut sm.extBut ltp
    have hot1 : HotAt A x1 hm := by
      obtain ⟨hh, o1, vs1, k1, d1, c1⟩ := hot
      exact ⟨hh, o1, vs1, sm.extBut x1 o1 (Ne.symm hl1) (Heap.get?_push_of_some _ k1), d1, c1⟩
    refine wpAny_bind (wpAny_holding (tup_end_hot hot1 hl1 itm tt (by simp) fun hn en => ?_))
    simp only [Option.isSome_none, Bool.false_eq_true, if_false]
    refine wpAny_pure (goQ hn fun b o hb e => en b o hb (sm.extBut b o hb (Heap.get?_push_of_some _ e)))
end
theorem ps_par3H {X : Cx} {i j l : Nat} {x y z : Str} {a b c : Expr} {ta : TA} {pa pb pc pd pos : Pos} {kd kd2 pd2} (hc : HotC X) (hN : X.N.Nodup) (hi : X.N[i]? = some x) (hj : X.N[j]? = some y) (hl : X.N[l]? = some z) (hij : i ≠ j) (hil : i ≠ l) (hjl : j ≠ l)
    (hxo : X.env.scope.names.lookup x = some .local) (hyo : X.env.scope.names.lookup y = some .local) (hzo : X.env.scope.names.lookup z = some .local) (ha : PA X [a, b, c] ta)
    (hwo : swappedStores [.Tuple [.Name x pa, .Name y pb, .Name z pc] kd pd] (.Tuple [a, b, c] kd2 pd2) X.env = pure (some [x, y, z]))
    (hso : swapsWithSole [.Tuple [.Name x pa, .Name y pb, .Name z pc] kd pd] (.Tuple [a, b, c] kd2 pd2) pos.line X.env = pure false := by rfl) :
    PS X (.Assign [.Tuple [.Name x pa, .Name y pb, .Name z pc] kd pd] (.Tuple [a, b, c] kd2 pd2) pos) (tPar3 i j l ta) := by
  refine ⟨fun pp s σ H D I h => ?_⟩
  rw [exec_Assign_arm]
  refine wpAny_bind (wpAny_standAt ?_)
  rw [hso]
  refine wpAny_bind (wpAny_pure ?_)
  rw [if_neg (by decide)]
  refine wpAny_bind (Tuple_ (thn (ha.run _ pp s σ H _ I h) fun uu sa ⟨vv, Ha, Ia, rz, qa⟩ => ?_))
  obtain ⟨y1, y2, y3, e1, qa⟩ := qa
  subst e1
  obtain ⟨w1, w2, w3, rfl, ra, rb, rc⟩ : ∃ w1 w2 w3, uu = [w1, w2, w3] ∧ RelV y1 w1 ∧ RelV y2 w2 ∧ RelV y3 w3 := by
    cases rz with
    | cons pq qq =>
      cases qq with
      | cons pr qr =>
        cases qr with
        | cons ps qs =>
          cases qs
          exact ⟨_, _, _, rfl, pq, pr, ps⟩
  refine wpAny_newObj_type ?_ (by show 3 ≤ sizeLine; decide)
  have Ib : Inv X pp σ Ha { sa with heap := sa.heap.push { cls := .type "tuple", data := .seq [w1, w2, w3].toArray } } := Ia.kept (t' := sa.toks) fun b o e => Heap.get?_push_of_some _ e
  rw [hwo]
  refine wpAny_bind (wpAny_pure ?_)
  show wpAny (model X.prog X.w) X.A (do rule "assign.swapped-stores"; let items ← unpackItems (.ref sa.heap.objs.size) 3 none; assignInOrder [fun v => bindName X.env z v, fun v => bindName X.env y v, fun v => bindName X.env x v] items.reverse; pure Flow.next) _ _ _
  refine wpAny_bind (wpAny_rule (wpAny_bind (unpack_hot (its := #[w1, w2, w3]) (hc.at Ib).choose_spec (IsTup.new sa.heap _) fun hb' xb' => ?_)))
  have Ic := Ib.kept (h' := hb') (t' := sa.toks) fun b o e => xb' b o (Nat.ne_of_lt (Heap.lt_size e)) e
  show wpAny _ _ (assignInOrder [fun v => bindName X.env z v, fun v => bindName X.env y v, fun v => bindName X.env x v] [w3, w2, w1] >>= fun _ => pure Flow.next) _ _ _
  refine wpAny_bind (assignInOrder_cons (wpAny_bindName (store_ok Ic hN hl (.inl hzo) rc (fun sb Id => ?_) (.inr hzo))))
  refine assignInOrder_cons (wpAny_bindName (store_ok Id hN hj (.inl hyo) rb (fun sc Ie => ?_) (.inr hyo)))
  refine assignInOrder_cons (wpAny_bindName (store_ok Ie hN hi (.inl hxo) ra (fun sd If => assignInOrder_nil (wpAny_pure ?_)) (.inr hxo)))
  rw [List.set_comm _ _ (Ne.symm hjl), List.set_comm _ _ (Ne.symm hil), List.set_comm _ _ (Ne.symm hij)] at If
  exact ⟨_, Ha, If, qa⟩

/-! ### several except clauses, each with the same name; the exception is told of from then on -/
def wManyK (K : PySem.W.Frag) (i : Nat) (Wout : WX) (D : Ends) : List (Value × (Addr → Value → Option Addr → TS)) → WX
  | [] => Wout
  | (c, ts) :: r => fun cls d σ H => ∃ b, PySem.W.exmOne K cls c = some b ∧ (b = true → ∀ a, H a = none → ts a cls d { nx := fun σ' H' => H' a = none → D.nx (σ'.set i none) (upd H' a (WkK.exq a cls d)), rt := D.rt, bk := fun σ' H' => D.bk (σ'.set i none) H', ct := fun σ' H' => D.ct (σ'.set i none) H' } (σ.set i (some (.ref a))) H) ∧ (b = false → wManyK K i Wout D r cls d σ H)
inductive HdsAs (X : Cx) (n : Str) : List ExceptHandler → List (Value × (Addr → Value → Option Addr → TS)) → Prop
  | nil : HdsAs X n [] []
  | cons {x : Str} {c : Value} {ts : Addr → Value → Option Addr → TS} {b₀ : Stmt} {suite : List Stmt} {np pos' : Pos} {hds : List ExceptHandler} {l : List (Value × (Addr → Value → Option Addr → TS))} (hc : Names X x c)
      (hsu : ∀ (a : Addr) (oe : Obj) (cls : Value) (d : Option Addr) (pn : List (Addr × Obj)), Zn cls d oe → (∃ vs, oe.data = .fields vs) → PSs (X.suite a ((a, oe) :: pn)) (b₀ :: suite) (ts a cls d)) (r : HdsAs X n hds l) :
      HdsAs X n (.ExceptHandler (some (.Name x np)) (some n) (b₀ :: suite) pos' :: hds) ((c, ts) :: l)
section
variable {X : Cx} {n : Str} {i : Nat} {body : List Stmt} {h₀ : ExceptHandler} {hds : List ExceptHandler} {l : List (Value × (Addr → Value → Option Addr → TS))} {pos : Pos} {tb : WX → TS} {Wout : WX}
theorem ps_try_manyK (hs : X.stack = X.env :: X.outer) (hf : X.env.frame = some X.env.locals) (hex : X.ex = []) (hN : X.N.Nodup) (hi : X.N[i]? = some n) (hln : X.env.kindOf n = some .local) (tk : Takes X Wout)
    (hb : ∀ (W : WX) (pn : List (Addr × Obj)) (xe : Value → Shared → Prop), Takes (X.tr pn xe) W → PassesOwn (model X.prog X.w) X.A X.env xe → PSs (X.tr pn xe) body (tb W))
    (hh : HdsAs X n (h₀ :: hds) l) : PS X (.Try body (h₀ :: hds) [] [] pos) (fun D σ H => tb (wManyK X.K i Wout D l) D σ H) := by
  refine ⟨fun pins s σ H D I h => ?_⟩
  have okc := I.ok
  have hfr0 : X.A.frames = some (X.env :: X.outer) := by rw [okc.frames, hs]
  have hlo : Loc X.env.scope n := .inl hln
  refine wpAny_Try_except ?_
  refine wpAny_mono ((hb (wManyK X.K i Wout D l) (X.pn ++ pins) (fun e s₁ => wpAny (model X.prog X.w) X.A (noteFrame e X.env) (fun _ s₂ => wpAny (model X.prog X.w) X.A (setFlight e none) (fun _ s₃ =>
    wpAny (model X.prog X.w) X.A (handleBy e X.env (h₀ :: hds)) (SP X pins D) X.xe s₃) X.xe s₂) X.xe s₁) (fun u s' xx => ?_) PassesOwn.looking).run [] s σ H D (I.toTry _) h) (fun f s1 hpp => ?_) (fun e s1 he => he)
  · obtain ⟨a, B, sI, pins', σ', H', cls, d, rfl, J', nb, up, sky, na, os, ag, w⟩ := xx
    have J0 : Inv X pins σ' H' sI := J'.ofTry okc
    have skyq : Sky B (X.env :: X.outer) a (Zn cls d) X.env.locals s'.heap := by rw [← hs]; exact sky
    show wpAny (model X.prog X.w) X.A (noteFrame (.ref a) X.env) _ _ _
    refine Sky.land Zn.steady hfr0 hf skyq fun hq flq upq => ?_
    have Jq : Inv X pins σ' H' { s' with heap := hq } := J0.landed nb flq.1 (up.trans upq) os ag
    obtain ⟨oq, vq, gq, zq, dq⟩ := flq.there
    have frN : ∀ {h : Heap} {o : Obj} {vs : Array Value}, h.FunFrames B (X.env :: X.outer) → h.get? a = some o → o.data = .fields vs → a ∉ frs (X.env :: X.outer) := fun {h o vs} ff e dd hm => by
      obtain ⟨_, o', e', hnf⟩ := ff.mem hm
      rw [e] at e'; cases e'
      exact hnf _ dd
    have frA := frN flq.2.2.1 gq dq
    have frL : a ≠ X.env.locals := fun z => frA (List.mem_filterMap.mpr ⟨X.env, List.mem_cons_self, by rw [hf, z]⟩)
    have frF : a ∉ X.fs := fun hm => by
      obtain ⟨e, he, q⟩ := List.mem_filterMap.mp hm
      exact frA (List.mem_filterMap.mpr ⟨e, List.mem_cons_of_mem _ he, q⟩)
    have Sq := Jq.suite gq dq na frL frF
    have go : ∀ {hds' : List ExceptHandler} {l' : List (Value × (Addr → Value → Option Addr → TS))}, HdsAs X n hds' l' → wManyK X.K i Wout D l' cls d σ' H' →
        wpAny (model X.prog X.w) X.A (handleBy (.ref a) X.env hds') (SP X pins D) X.xe { s' with heap := hq } := by
      intro hds' l' hk
      induction hk with
      | nil =>
        intro w
        refine wpAny_handleBy_nil ?_
        obtain ⟨ka, kb, kc, oe, vs, T, oU, tsT, he, hz, hd, h1, hr⟩ := id flq
        unfold PySem.passOn
        refine wpAny_bind (wpAny_field he hd h1 ?_)
        rw [if_neg (show ¬ ((Value.ref T == Value.none) = true) from by simp)]
        have fini : wpAny (model X.prog X.w) X.A (setFlight (.ref a) X.env.frame) (fun _ s4 => wpAny (model X.prog X.w) X.A (throw (.ref a) : Sem Flow) (SP X pins D) X.xe s4) X.xe { s' with heap := hq } := by
          rw [hf]
          refine HandSPX.setFlight_upZ flq fun h4 hh4 up4 => wpAny_throw (tk _ _ ?_)
          exact ⟨a, B, sI, pins, σ', H', cls, d, rfl, J0, nb, (up.trans upq).trans up4, .inr (.inr (by rw [hs]; exact hh4)), na, os, ag, w⟩
        first
          | exact wpAny_bind (wpAny_pure (wpAny_bind fini))
          | exact wpAny_bind fini
      | @cons x c ts b₀ suite np pos' hdr lr hc hsu r ih =>
        intro w
        obtain ⟨b, hb1, hyes, hno⟩ := w
        refine wpAny_handleBy_cons (codeAny_handlers_test ?_) (by intro q; cases q)
        have lkT : PySem.W.Looks (model X.prog X.w) hq (typeOf (.ref a)) cls := fun A Q E s k q => wpAny_typeOf_ref (k _ _ gq) (by rw [zq.1]; exact q)
        have lkM := PySem.W.exm_one (M := model X.prog X.w) (Jq.kIn) lkT hb1
        have tst : ∀ {Q : Value → Shared → Prop} {E : Value → Shared → Prop}, Q c { s' with heap := hq } → wpAny (model X.prog X.w) (X.A.mark (some (.ref a))) (eval (.Name x np) X.env) Q E { s' with heap := hq } := fun {Q E} q => by
          obtain ⟨hg, hdg, hm | ⟨hm, hv, hnm⟩⟩ := hc
          · exact ld_glob (X := X.suite a ((a, oq) :: (X.pn ++ pins))) Sq hg hm q hdg
          · exact ld_blt (X := X.suite a ((a, oq) :: (X.pn ++ pins))) Sq hg hm hv q hnm hdg
        refine tst (lkM.here ?_)
        cases b with
        | true =>
          refine codeAny_handlers_suite_as ?_
          refine HandSPX.lands_againZ flq fun hm flm upm => ?_
          have Jm : Inv X pins σ' H' { s' with heap := hm } := J0.landed nb flm.1 ((up.trans upq).trans upm) os ag
          obtain ⟨om, vm, hem, hzm, hdm⟩ := flm.there
          have Sm_ := Jm.suite hem hdm na frL frF
          refine store_ok (X := X.suite a ((a, om) :: (X.pn ++ pins))) (v := .ref a) Sm_ hN hi hlo rfl (fun sv Sv => ?_) (.inr hln)
          refine wpAny_mono ((hsu a om cls d (X.pn ++ pins) hzm ⟨_, hdm⟩).run [] sv _ H' _ Sv (hyes rfl a na)) (fun f sw hpp => ?_) (fun _ _ z => False.elim z)
          have fin_ : ∀ {σw : L2.St} {Hw : Hp} {Q : Shared → Prop}, Inv (X.suite a ((a, om) :: (X.pn ++ pins))) [] σw Hw sw → (∀ sz, Inv X pins (σw.set i none) Hw sz → Q sz) →
              wpAny (model X.prog X.w) X.A (do bindName X.env n .none; unbindBehindTheSuite X.env n pos') (fun _ sz => Q sz) X.xe sw := fun {σw Hw Q} Sw hq => gone_ok (Sw.unsuite okc) hN hi hln hq
          cases f with
          | next =>
            obtain ⟨σw, Hw, Sw, qw⟩ := hpp
            have nI : sI.heap.get? a = none := by
              cases e : sI.heap.get? a with
              | none => rfl
              | some o =>
                have z := nb a o e (by rw [hs]; exact frA)
                rw [flq.2.1] at z
                cases z
            have n0 : X.s_0.heap.get? a = none := by
              cases e : X.s_0.heap.get? a with
              | none => rfl
              | some o =>
                obtain ⟨o', z⟩ := J0.base.there a o e (by rw [hex]; exact fun z => nomatch z)
                rw [nI] at z
                cases z
            have npi : ∀ p ∈ X.pn ++ pins, p.1 ≠ a := fun p hp z => by
              have q := (J0.pin p hp).1
              rw [z, nI] at q
              cases q
            have Kw : Inv X ((a, om) :: pins) σw Hw sw := ⟨okc, Sw.os, Sw.bare, Sw.base, Sw.loc, Sw.cell, Sw.free, Sw.freeC, fun p hp => Sw.pin p (List.mem_append_left _ (by
              rcases List.mem_append.mp hp with h | h
              · exact List.mem_cons_of_mem _ (List.mem_append_left _ h)
              · rcases List.mem_cons.mp h with h | h
                · rw [h]
                  exact List.mem_cons_self
                · exact List.mem_cons_of_mem _ (List.mem_append_right _ h))), Sw.hok, Sw.len⟩
            refine gone_ok Kw hN hi hln fun sz Jz => ?_
            obtain ⟨z1, z2, z3, z4, z5⟩ := Jz.pin (a, om) (List.mem_append_right _ List.mem_cons_self)
            have Jy : Inv X pins (σw.set i none) Hw sz := Jz.pins_of fun p hp => Jz.pin p (List.mem_append_right _ (List.mem_cons_of_mem _ hp))
            refine ⟨_, _, WkK.adopt Jy n0 z2 z3 (fun y cc ey ez => ?_) npi (WkK.exq_ok z1 hzm.zc hdm), qw z2⟩
            obtain ⟨v, oc, ho, hd⟩ := Jy.cell y cc ey
            rw [ez, z1] at ho
            cases ho
            exact z5 v hd
          | brk =>
            obtain ⟨σw, Hw, Sw, qw⟩ := hpp
            exact fin_ Sw fun sz Jz => ⟨_, _, Jz, qw⟩
          | cont =>
            obtain ⟨σw, Hw, Sw, qw⟩ := hpp
            exact fin_ Sw fun sz Jz => ⟨_, _, Jz, qw⟩
          | ret u =>
            obtain ⟨vw, σw, Hw, Sw, rw_, qw⟩ := hpp
            exact fin_ Sw fun sz Jz => ⟨_, _, _, Jz, rw_, qw⟩
        | false =>
          show wpAny _ X.A (handleBy (.ref a) X.env hdr) _ _ _
          exact ih (hno rfl)
    exact go hh w
  · cases f with
    | next =>
      obtain ⟨σ', H', J', q⟩ := hpp
      exact wpAny_execs_nil ⟨σ', H', J'.ofTry okc, q⟩
    | brk =>
      obtain ⟨σ', H', J', q⟩ := hpp
      exact ⟨σ', H', J'.ofTry okc, q⟩
    | cont =>
      obtain ⟨σ', H', J', q⟩ := hpp
      exact ⟨σ', H', J'.ofTry okc, q⟩
    | ret u =>
      obtain ⟨v, σ', H', J', r, q⟩ := hpp
      exact ⟨v, σ', H', J'.ofTry okc, r, q⟩
end
/-! ### a kept error beside several classes -/
section
variable {X : Cx}
def rIsQT (K : PySem.W.Frag) (mg : Str → Option Value) : List V → Hp → VK → Prop := fun xs H Q => ∃ (a d C fI : Addr) (x f : Str) (fs : List (Str × V)) (t : Addr) (cs : List Addr) (b : Bool), xs = [.ref a, .ref t] ∧ WkX.ExcT K mg x f C fI ∧ H a = some (WkK.exq a (.ref C) (some d)) ∧ H d = some (.xd fs) ∧ H t = some (.tup (cs.map V.ref)) ∧ PySem.W.kitAny K (.ref C) (cs.map Value.ref) = some b ∧ Q (.bl b) H
theorem call_isQT : CallR X (.builtin "isinstance") (rIsQT X.K X.mg) := by
  intro pins s σ H xs us Q I r h
  obtain ⟨a, d, C, fI, x, f, fs, t, cs, b, rfl, T, ea, ed, ht, e, q⟩ := h
  obtain ⟨u1, u2, rfl, r1, r2⟩ := vals2 r
  obtain rfl : u1 = Value.ref a := r1
  obtain rfl : u2 = Value.ref t := r2
  obtain ⟨oe, vs, ha, hz, hd⟩ := WkK.exq_at I.hok ea
  have hx : ObjOk X.prog X.w H s.heap d (.xd fs) := I.hok d _ ed
  obtain ⟨mA, hns, hr⟩ := hx
  obtain ⟨od, ho, hlk⟩ := lookIn_ns hns
  have J : PySem.W.InstAt s.heap a oe C (some od) := ⟨ha, hz.1, by unfold PySem.W.notCls; rw [hd] <;> rfl, by rw [hz.2]; exact ho⟩
  obtain ⟨its, rv, ⟨⟨cls, dd, data, sl⟩, ho2, hc, n, hd2⟩, _⟩ := I.tuple (.inl (.inl ht))
  simp only at hc hd2
  subst hc hd2
  have ei := WkW.refs_vals rv
  subst ei
  exact PySem.W.kia_tup (PySem.W.kitx_exc T.icl T.ga T.gg T.exC T.iha T.ihn T.itk T.ihm) I.kIn J ho2 e (fun z => nomatch z) fun tk => ⟨.bl b, H, I.tok tk, rfl, q⟩
end
end L2N
namespace Wk
open PySem PySem.Spec PyProof.Rows L2 WkD WkN LamX WkP WkE WkC
section
variable {P : Program} {w : World} {K : PySem.W.Frag} {mg : Str → Option Value} {base : Heap}
/-- what the classes of the errors say -/
structure UnkK (K : PySem.W.Frag) (mg : Str → Option Value) (CU CE CO fI : Addr) : Prop where
  gU : mg "UnknownVertex" = some (.ref CU)
  gE : mg "UnknownEdge" = some (.ref CE)
  gO : mg "OutOfRange" = some (.ref CO)
  tU : WkX.ExcT K mg "UnknownVertex" "value" CU fI
  uk : PySem.W.kitOne K (.ref CU) (.type "KeyError") = some true
  ue : PySem.W.kitAny K (.ref CU) [.ref CE, .ref CO] = some false
  uu : PySem.W.exmOne K (.ref CU) (.ref CU) = some true
  sp : PySem.W.subIn K (.ref CU) (.type "StopIteration") = some false
/-- _law_unknown, of a call that raises UnknownVertex -/
def TUnk (CU : Addr) : (XK → Hp → VK → Prop) → Hp → VK → Prop := fun tl H Q => ∀ (Q' : VK) (E' : XK),
  (∀ d v H1, H1 d = some (.xd [("value", v)]) → (∀ t H2, Same H1 H2 → H1 t = none → H2 t = some (.tup [v]) → Q (.ref t) H2) → E' (.ref CU) (some d) H1) → tl E' H Q'
theorem sc_lunk : FnScope ["_law_call", "_law_kept", "e"] ["_law_call"] (defScope s_L_unknown) := ⟨rfl, rfl, rfl, by decide +kernel, rfl, by decide +kernel, by decide +kernel⟩
theorem unk_x {CU CE CO fI : Addr} {X : Cx} {g : Addr} {cdg : Value} {q : Str} (hK : X.K = K) (hm : X.mg = mg) (B : Bi mg) (EK : UnkK K mg CU CE CO fI) (hr : Room 3 X.A) : GivesTo X ["_law_call", "_law_kept", "e"] "_law_unknown" (defScope s_L_unknown) g cdg (defBody s_L_unknown) "_law_call" q (TUnk CU) := by
  subst hK hm
  intro f c' s H Q tl act hc h
  have nd := sc_lunk.nd
  have T1 := EK.tU
  have hr2 : Room 2 (X.A.deeper (envOfC "_law_unknown" (defScope s_L_unknown) s.heap.objs.size g cdg)) := hr.deeper _
  refine ⟨_, (pss_cons (ps_set (i := 1) nd rfl (Or.inl rfl) pe_non)
      (pss_cons (WkK.ps_try_keep (i := 2) (Wout := fun _ _ _ _ => False) (tb := fun W => tDrop (fun σZ HZ Q => σZ[0]? = some (some (.ref f)) ∧ HZ c' = some (CodeO c' q) ∧ tl (fun cls d H1 => ∀ σ' : L2.St, σ'.length = 3 → W cls d σ' H1) HZ Q)) (ts := fun _ _ _ => tAsg (tVar 2) (gName 1)) rfl rfl rfl nd rfl rfl ⟨rfl, by decide, Or.inl EK.gU⟩ LamX.takes0 (fun W pn xe tk _ => by exact pss_one (ps_expr (act (fun cls d σ H => σ.length = 3 → W cls d σ H) pn xe (fun cls d H1 => ∀ σ' : L2.St, σ'.length = 3 → W cls d σ' H1) _ _ (WkW.takes_len tk) (fun cls d σ' H' h hl => h σ' hl)))) (fun a oe cls d pn hz hf => by exact pss_one (ps_set (i := 1) nd rfl (Or.inl rfl) (pv 2))))
      (pss_cons (ps_if (PW.pt (pw_or (pt_not (pt_val (pe_callB WkK.call_isQ (by rfl) B.n_isinstance (by decide +kernel) (pa_cons (pv 1) (pa_cons (pe_bltn (v := .ty "KeyError") (by rfl) B.n_KeyError (by decide +kernel) rfl) pa_nil))))) (pw_or1 (pt_val (pe_callB L2N.call_isQT (by rfl) B.n_isinstance (by decide +kernel) (pa_cons (pv 1) (pa_cons (pe_tup (pa_cons (pe_glob (v := .ref CE) (by rfl) EK.gE rfl) (pa_cons (pe_glob (v := .ref CO) (by rfl) EK.gO rfl) pa_nil))) pa_nil)))))))
      (pss_one (ps_ret pe_non)) pss_nil)
      (pss_one (ps_ret (pe_tup (pa_cons (WkK.pe_exq T1 (pv 1)) pa_nil))))))), ?_⟩
  refine ⟨rfl, hc, h _ _ fun d v H1 hd kq => ?_⟩
  intro σ' hl
  obtain ⟨x0, x1, x2, rfl⟩ : ∃ x0 x1 x2, σ' = [x0, x1, x2] := by
    match σ', hl with
    | [a, b, c], _ => exact ⟨a, b, c, rfl⟩
  refine ⟨true, EK.uu, fun _ a na => ?_, fun h => nomatch h⟩
  refine ⟨_, rfl, fun na2 => ?_⟩
  have two_ : (2 : Nat) ≤ sizeLine := by decide
  have one_ : (1 : Nat) ≤ sizeLine := by decide
  have s2 : Same H1 (upd H1 a (WkK.exq a (.ref CU) (some d))) := same_upd na
  have ha : upd H1 a (WkK.exq a (.ref CU) (some d)) a = some (WkK.exq a (.ref CU) (some d)) := upd_same
  generalize upd H1 a (WkK.exq a (.ref CU) (some d)) = H4 at s2 ha
  have hd4 := s2 _ _ hd
  refine ⟨_, rfl, a, d, CU, fI, _, _, _, _, _, true, rfl, T1, ha, hd4, .ty "KeyError", EK.uk, true, rfl, ?_⟩
  refine ite2 (fun h => nomatch h) (fun _ => ?_)
  refine ⟨_, rfl, two_, fun t nt => ?_⟩
  generalize gg : upd H4 t _ = G
  obtain ⟨st, Lt⟩ := new_eq nt gg
  clear gg
  refine ⟨a, d, CU, fI, _, _, _, t, [CE, CO], false, rfl, T1, st _ _ ha, st _ _ hd4, Lt, EK.ue, false, rfl, ?_⟩
  refine ite2 (fun h => nomatch h) (fun _ => ?_)
  exact ⟨_, rfl, a, d, _, v, rfl, st _ _ ha, st _ _ hd4, rfl, one_, fun p np => kq p _ ((s2.trans st).trans (same_upd np)) (np_of (s2.trans st) np) upd_same⟩
end
end Wk
/-! WkZg: a generator that is made and never begun; list(zip(range(0), g)). -/
namespace PySem
open Sem (wp)
abbrev zgT (h : Heap) (o1 : Obj) (a : Addr) : Heap := (h.push o1).push { cls := .type "tuple", data := .seq #[.ref h.objs.size, .ref a] }
abbrev zgO (h : Heap) (o1 : Obj) (a : Addr) : Heap := (zgT h o1 a).push { cls := .type "tuple", data := .seq #[.none, .none] }
abbrev zgZ (h : Heap) (o1 : Obj) (a : Addr) : Heap := (zgO h o1 a).push { cls := .type "zip", data := .fields #[.none, .bool false, .bool false, .ref (h.push o1).objs.size, .ref (zgT h o1 a).objs.size] }
theorem meets_zip_newG {v1 : Value} {o1 : Obj} {H1 : Heap → Prop} {a : Addr} (B1 : Begins v1 o1 H1) :
    Meets (Builtin.«zip.__new__» ⟨[.type "zip", v1, .ref a], []⟩) (fun _ R s => (H1 s.heap ∧ ∃ g, s.heap.IsGen a g) ∧
      R (.ok (.ret (.ref (zgO s.heap o1 a).objs.size))) { s with heap := zgZ s.heap o1 a }) :=
  .of_wp fun prog w A R s h => by
    obtain ⟨hp, g, d, tk, os⟩ := s; obtain ⟨⟨h1, gg, h2⟩, h⟩ := h
    have hsub := sub_zip
    have q1 : ∀ {A' : Around} {E : Value → Shared → Prop} {Q : Value → Shared → Prop}, Q (.ref hp.objs.size) ⟨(hp.push o1), g, d, tk, os⟩ → wpAny (model prog w) A' (pyIter v1) Q E ⟨hp, g, d, tk, os⟩ :=
      fun q => B1.iter prog w _ _ ⟨hp, g, d, tk, os⟩ _ (B1.keeps _ _ h1 fun b o' e => e) q
    have q2 : ∀ {A' : Around} {E : Value → Shared → Prop} {Q : Value → Shared → Prop}, Q (.ref a) ⟨(hp.push o1), g, d, tk, os⟩ → wpAny (model prog w) A' (pyIter (.ref a)) Q E ⟨(hp.push o1), g, d, tk, os⟩ :=
      fun q => wpAny_pyIter_gen (s := ⟨hp.push o1, g, d, tk, os⟩) (h2.push o1) q
    wp_walk using q1, q2
    exact ⟨_, rfl, h⟩
section
variable {prog : Program} {w : World} {A : Around} {E : Value → Shared → Prop} {s : Shared}
theorem zip_beginsG {v1 : Value} {o1 : Obj} {H1 : Heap → Prop} {a : Addr} {Q : Value → Shared → Prop} (B1 : Begins v1 o1 H1) (h1 : H1 s.heap) (h2 : ∃ g, s.heap.IsGen a g)
    (h : ∀ h', IsZip h' (s.heap.objs.size + 3) (s.heap.objs.size + 1) (s.heap.objs.size + 2) .none → IsTupOf2 h' (s.heap.objs.size + 1) (.ref s.heap.objs.size) (.ref a) →
      IsTupOf2 h' (s.heap.objs.size + 2) .none .none → h'.get? s.heap.objs.size = some o1 → h'.objs.size = s.heap.objs.size + 4 →
      (∀ c o, s.heap.get? c = some o → h'.get? c = some o) → Q (.ref (s.heap.objs.size + 3)) { s with heap := h' }) :
    wpAny (model prog w) A (call (.type "zip") [v1, .ref a]) Q E s := by
  refine callType_new F.called_zip (by decide) (F.typeCall_zip_2 _ _) (F.newCall_zip_2 _ _) (fun obj => F.args_object_init_3 obj _ _) F.entry_zip_new
    (meets_zip_newG B1) ⟨⟨h1, h2⟩, ?_⟩
  have z1 : (s.heap.push o1).objs.size = s.heap.objs.size + 1 := by rw [Heap.size_push]
  have zT : (zgT s.heap o1 a).objs.size = s.heap.objs.size + 2 := by rw [Heap.size_push, z1]
  have zO : (zgO s.heap o1 a).objs.size = s.heap.objs.size + 3 := by rw [Heap.size_push, zT]
  have zZ : (zgZ s.heap o1 a).objs.size = s.heap.objs.size + 4 := by rw [Heap.size_push, zO]
  have gZ : (zgZ s.heap o1 a).get? (zgO s.heap o1 a).objs.size = some { cls := .type "zip", data := .fields #[.none, .bool false, .bool false, .ref (s.heap.push o1).objs.size, .ref (zgT s.heap o1 a).objs.size] } := Heap.get?_push_size _ rfl
  have gO : (zgZ s.heap o1 a).get? (zgT s.heap o1 a).objs.size = some { cls := .type "tuple", data := .seq #[.none, .none] } := Heap.get?_push_of_some _ (Heap.get?_push_size _ rfl)
  have gT : (zgZ s.heap o1 a).get? (s.heap.push o1).objs.size = some { cls := .type "tuple", data := .seq #[.ref s.heap.objs.size, .ref a] } := Heap.get?_push_of_some _ (Heap.get?_push_of_some _ (Heap.get?_push_size _ rfl))
  have g1 : (zgZ s.heap o1 a).get? s.heap.objs.size = some o1 := Heap.get?_push_of_some _ (Heap.get?_push_of_some _ (Heap.get?_push_of_some _ (Heap.get?_push_size _ B1.free)))
  rw [zO, zT, z1] at gZ
  rw [zT] at gO
  rw [z1] at gT
  show _ ∧ _
  rw [zO]
  exact ⟨⟨_, gZ, rfl⟩, h _ gZ gT gO g1 zZ fun c o e => Heap.get?_push_of_some _ (Heap.get?_push_of_some _ (Heap.get?_push_of_some _ (Heap.get?_push_of_some _ e)))⟩
theorem begins_range0 (r : Addr) (t u v : Tok) : Begins (.ref r) { cls := .type "range_iterator", data := .fields #[rawInt 0, rawInt 0, rawInt 1] } fun h => IsRange h r 0 0 1 t u v where
  iter := fun prog w A E s Q hl h => wpAny_pyIter_range hl (by decide) h
  keeps := fun h h' x hk => hk r _ x
  free := rfl
/-- zip's first iterator has ended -/
theorem zip_end0 {z TI TO i1 : Addr} {v2 : Value} {x left step : Int} {Q : Option Value → Shared → Prop} (hh : A.handled = none) (zi : z ≠ i1)
    (hz : IsZip s.heap z TI TO .none) (hTI : IsTupOf2 s.heap TI (.ref i1) v2) (TIz : TI ≠ z) (hit : IsRangeIter s.heap i1 x left step) (hl : left ≤ 0)
    (hQ : ∀ h' tk, (∀ c o, c ≠ z → c ≠ i1 → s.heap.get? c = some o → h'.get? c = some o) → Q none { s with heap := h', toks := tk }) : wpAny (model prog w) A (pyNext (.ref z)) Q E s := by
  have hT : s.TypeIs (.ref z) "zip" := ⟨_, hz, rfl⟩
  unfold pyNext
  refine wpAny_bind (wpAny_attempt (wpAny_callSpecial?_slot (name := Str.ofString "__next__") hT F.slot_zip_next
    (wpAny_call_entry F.slot_zip_next hT F.entry_zip_next ?_ (F.args_zip_next_1 _))))
  obtain ⟨hp, g, d, tk0, os⟩ := s
  show wpAny _ _ (field (.ref z) 2 >>= _) _ _ _
  refine wpAny_bind (wpAny_field hz rfl (x := .bool false) rfl ?_)
  show wpAny _ _ (field (.ref z) 3 >>= _) _ _ _
  refine wpAny_bind (wpAny_field hz rfl (x := .ref TI) rfl ?_)
  refine wpAny_bind (wpAny_seqItems hTI rfl ?_)
  show wpAny _ _ (Builtin.SmallTypes.ownedTupleIsFree (.ref z) >>= _) _ _ _
  refine wpAny_bind ?_
  unfold Builtin.SmallTypes.ownedTupleIsFree
  refine wpAny_bind (wpAny_field hz rfl (x := .none) rfl (wpAny_pure ?_))
  simp only [if_true]
  refine wpAny_bind (wpAny_rule ?_)
  refine wpAny_bind (wpAny_field hz rfl (x := .ref TO) rfl ?_)
  refine wpAny_bind (wpAny_setField_rec hz (by simp) fun g0 hz0 hs0 => ?_)
  replace hz0 : IsZip g0 z TI TO .ellipsis := hz0
  replace hs0 : Heap.SameBut z hp g0 := hs0
  refine wpAny_bind ?_
  simp only [List.zipIdx_cons, List.zipIdx_nil, List.forIn_cons, List.forIn_nil]
  refine wpAny_bind (wpAny_bind (wpAny_onRaise ?_))
  show wpAny _ _ (Builtin.SmallTypes.nextOf (.ref i1) >>= _) _ _ ⟨g0, g, d, tk0, os⟩
  have hit0 : IsRangeIter g0 i1 x left step := hs0.extBut _ _ (Ne.symm zi) hit
  refine wpAny_bind ?_
  unfold Builtin.SmallTypes.nextOf
  refine wpAny_bind (CpRep.range_end (s := ⟨g0, g, d, tk0, os⟩) (by exact hh) hit0 hl fun e q he hq => ?_)
  obtain ⟨b, oe, vs, rfl, hoe, hce, _⟩ := he
  have hzq : IsZip q z TI TO .ellipsis := hq _ _ zi hz0
  have hez : b ≠ z := fun x => by
    rw [x] at hoe
    have hoe : q.get? z = some oe := hoe
    rw [hzq] at hoe; cases hoe; simp at hce
  refine wpAny_setField_rec (s := ⟨q, g, d, tk0, os⟩) hzq (by simp) fun q' _ hq' => ?_
  replace hq' : Heap.SameBut z q q' := hq'
  refine wpAny_bind (wpAny_isInstance (T := "StopIteration") (b := true) ⟨oe, hq'.extBut _ _ hez hoe, hce⟩ isSubtype_stop ?_)
  exact wpAny_pure (hQ _ _ fun c o cz c1 x => hq'.extBut _ _ cz (hq _ _ c1 (hs0.extBut _ _ cz x)))
theorem zip_no_len : typeLookup (.type "zip") "__len__" = pure none := am_miss_of_fast (by decide +kernel)
theorem zip_no_hint : typeLookup (.type "zip") "__length_hint__" = pure none := am_miss_of_fast (by decide +kernel)
/-- list(z) of such a zip -/
theorem call_list_zip0 {z TI TO i1 : Addr} {v2 : Value} {x left step : Int} {Q' : Value → Shared → Prop} (hh : A.handled = none) (zi : z ≠ i1)
    (hz : IsZip s.heap z TI TO .none) (hTI : IsTupOf2 s.heap TI (.ref i1) v2) (TIz : TI ≠ z) (hit : IsRangeIter s.heap i1 x left step) (hl : left ≤ 0)
    (hQ : ∀ h' tk c, h'.get? s.heap.objs.size = some (L2.lstObj #[] c) → (∀ c o, c ≠ z → c ≠ i1 → s.heap.get? c = some o → h'.get? c = some o) → Q' (.ref s.heap.objs.size) { s with heap := h', toks := tk }) :
    wpAny (model prog w) A (call (.type "list") [.ref z]) Q' E s := by
  have lz : z < s.heap.objs.size := Heap.lt_size hz
  have l1 : i1 < s.heap.objs.size := Heap.lt_size hit
  have hSz : s.heap.objs.size ≠ z := Nat.ne_of_gt lz
  refine callType_codes (Q₁ := fun obj s₁ => obj = .ref s.heap.objs.size ∧ s₁ = { s with heap := s.heap.push { cls := .type "list", data := .seq #[] } }) F.called_list (F.typeCall_list_1 _) F.entry_list_init
    (code_list_new _ ⟨rfl, rfl⟩) fun obj s₁ h₁ => ?_
  obtain ⟨rfl, rfl⟩ := h₁
  have hS : (s.heap.push { cls := .type "list", data := .seq #[] }).get? s.heap.objs.size = some { cls := .type "list", data := .seq #[] } := Heap.get?_push_size _ rfl
  refine ⟨⟨_, hS, rfl⟩, F.args_list_init_2 _ _, ?_⟩
  show wpAny _ A.in1.in1 (do let old ← Builtin.List.listItems (.ref s.heap.objs.size); Builtin.List.listUpdate (.ref s.heap.objs.size) (fun _ => #[]); letGo old.toList.reverse; Builtin.List.listExtendWith (.ref s.heap.objs.size) (.ref z) .none) _ _ _
  refine wpAny_bind ?_
  unfold Builtin.List.listItems
  refine wpAny_bind (wpAny_seqItems hS rfl (wpAny_pure ?_))
  show wpAny _ A.in1.in1 (updateSeq s.heap.objs.size (fun _ => #[]) >>= fun _ => letGo (#[] : Array Value).toList.reverse >>= fun _ => Builtin.List.listExtendWith (.ref s.heap.objs.size) (.ref z) .none) _ _ _
  refine wpAny_bind (wpAny_updateSeq hS rfl ?_)
  have hS2 := Heap.get?_update_self (Obj.mapSeq (fun _ => (#[] : Array Value))) hS rfl
  refine wpAny_bind (wpAny_letGo ?_)
  unfold Builtin.List.listExtendWith
  have up : ∀ (h : Heap) (f : Obj → Obj), (∀ b o, s.heap.get? b = some o → h.get? b = some o) → ∀ b o, s.heap.get? b = some o → (h.update s.heap.objs.size f).get? b = some o := fun h f q b o e =>
    (Heap.get?_update_other _ _ (Ne.symm (Nat.ne_of_lt (Heap.lt_size e)))).trans (q b o e)
  have k1 : ∀ b o, s.heap.get? b = some o → (s.heap.push { cls := .type "list", data := .seq #[] }).get? b = some o := fun b o e => Heap.get?_push_of_some _ e
  have k2 := up _ (Obj.mapSeq (fun _ => (#[] : Array Value))) k1
  have gty : ∀ {h : Heap} {g d tk os}, (∀ b o, s.heap.get? b = some o → h.get? b = some o) → Shared.TypeIs ⟨h, g, d, tk, os⟩ (.ref z) "zip" := fun {h g d tk os} q => ⟨_, q _ _ hz, rfl⟩
  refine wpAny_bind (wpAny_typeOf (gty k2) ?_)
  have h1 : Builtin.List.listSameRef (.ref s.heap.objs.size) (.ref z) = false := by simp [Builtin.List.listSameRef, hSz]
  have h2 : (Value.type "zip" == Value.type "list") = false := by decide
  have h3 : (Value.type "zip" == Value.type "tuple") = false := by decide
  simp only [h1, h2, h3, Bool.or_false, Bool.false_eq_true, if_false]
  refine wpAny_bind (wpAny_pyIter_zip (s := { s with heap := _ }) (k2 _ _ hz) ?_)
  refine wpAny_bind (wpAny_holding ?_)
  unfold Builtin.List.listLengthHint
  refine wpAny_bind (wpAny_specialOf (gty k2) zip_no_len ?_)
  show wpAny _ A.in1.in1 (specialOf (Value.ref z) (Str.ofString "__length_hint__") >>= _) _ _ _
  refine wpAny_bind (wpAny_specialOf (gty k2) zip_no_hint ?_)
  refine wpAny_pure ?_
  show wpAny _ A.in1.in1 (rule "list.extend.makes-room" >>= fun _ => Builtin.List.listTouch (.ref s.heap.objs.size) >>= fun _ =>
    again (.builtin "list.extend.loop" ⟨[.ref s.heap.objs.size, .ref z, .none], []⟩)) _ _ _
  refine wpAny_bind (wpAny_rule ?_)
  refine wpAny_bind ?_
  show wpAny _ A.in1.in1 (updateSeq s.heap.objs.size (·.push .none) >>= fun _ => updateSeq s.heap.objs.size (·.pop)) _ _ _
  refine wpAny_bind (wpAny_updateSeq hS2 rfl ?_)
  have hS3 := Heap.get?_update_self (Obj.mapSeq (·.push Value.none)) hS2 rfl
  refine wpAny_updateSeq (hz := by seq_fits) hS3 rfl ?_
  have hS4 := Heap.get?_update_self (Obj.mapSeq (·.pop)) hS3 rfl
  have k4 := up _ (Obj.mapSeq (·.pop)) (up _ (Obj.mapSeq (·.push Value.none)) k2)
  refine wpAny_pure ⟨plainId_quiet F.plain_extend_loop _, ?_⟩
  refine codeAny_builtin F.entry_extend_loop ?_
  rw [Around.under_plainId F.plain_extend_loop _]
  refine wpAny_bind (zip_end0 (s := { s with heap := _ }) (by exact hh) zi (k4 _ _ hz) (k4 _ _ hTI) TIz (k4 _ _ hit) hl fun h' tk hk => ?_)
  refine wpAny_pure ⟨rfl, hQ h' tk _ (hk _ _ hSz (Nat.ne_of_gt l1) hS4) fun c o cz c1 e => hk c o cz c1 (k4 _ _ e)⟩
end
end PySem
namespace L2
open PySem PySem.Spec PyProof.Rows GenW
/-- a generator that has not begun -/
def gno (a : Addr) : HO := .ext fun h => ∃ g, h.IsGen a g
theorem gno_ok {P : Program} {w : World} {H : Hp} {h : Heap} {a : Addr} {g : Nat} (x : h.IsGen a g) : ObjOk P w H h a (gno a) :=
  ⟨⟨g, x⟩, let ⟨o, _, _, ho, _⟩ := x; ⟨o, ho⟩, fun h1 h2 ⟨g, o, nm, qn, ho, r⟩ k => ⟨g, o, nm, qn, k _ ho, r⟩⟩
theorem gno_at {P : Program} {w : World} {H : Hp} {h : Heap} {a : Addr} (hok : HOk P w H h) (e : H a = some (gno a)) : ∃ g, h.IsGen a g :=
  let ⟨p, _⟩ := (show ObjOk P w H h a (gno a) from hok a _ e); p
section
variable {X : Cx} {k : Nat} {f C : Addr} {fd : FuncData} {ps : List Str} {sp : SpG} {dvs : List V} {ds : List Value} {x m : Str} {p pos pos' apos : Pos} {o : Expr} {ta : TE}
theorem run_gfn0 {pins : List (Addr × Obj)} {σ : L2.St} {H : Hp} {s : Shared} {us : List Value} {vs : List V} {cont : List V → Hp → Prop} {E : XK} {E1 : Value → Shared → Prop} {Q : VK} (F : GFn X.prog X.w X.K X.mg X.base k f fd ps sp) (hr : Room k X.A) (hb : Binds X.K fd ps ds) (hd : Vals dvs ds)
    (I : Inv X pins σ H s) (r : Vals vs us) (h : sp (vs ++ dvs) H cont E) (q : ∀ a, H a = none → Q (.ref a) (upd H a (gno a))) :
    wpAny (model X.prog X.w) X.A (call (.ref f) us) (EP X pins σ Q) E1 s := by
  have r2 : Vals (vs ++ dvs) (us ++ ds) := r.append hd
  have hl2 : (us ++ ds).length = ps.length := by rw [← r2.length]; exact F.len _ _ _ _ h
  refine wpAny_call (codeAny_mono (F.run X.A X.stack s H ⟨us, []⟩ (us ++ ds) (vs ++ dvs) cont E hr I.env0 (hb s us I.kIn hl2) r2 h) fun r s' hq => ?_)
  cases r with
  | error e => exact False.elim hq
  | ok fl =>
    cases fl with
    | ret u =>
      obtain ⟨a, g, c, rfl, ha1, ha2, hg, hgs, hos, hb, hl, hkp, wake⟩ := hq
      have hn : H a = none := I.hok.fresh ha1
      refine ⟨.ref a, upd H a (gno a), I.call' (ch := []) hos (Un.laid hkp ha1 hn) (fun b u e => ?_) hb (fun b z => by simp at z), rfl, q a hn⟩
      by_cases hba : b = a
      · subst hba
        rw [upd_same] at e
        cases e
        exact gno_ok hg
      · rw [upd_ne hba] at e
        exact (I.hok.kept hkp b u e).stay (fun c v _ q => q) (fun c q => by rw [upd_ne (ne_of_none q hn)]; exact q) fun c xs q => by rw [upd_ne (ne_of_none q hn)]; exact q
    | next => exact False.elim hq
    | brk => exact False.elim hq
    | cont => exact False.elim hq
/-- o.m(e, ..) of a generator method: the generator, never begun -/
def tMethO (C : Addr) (m : Str) (sp : SpG) (dvs : List V) (ta : TE) (t : TA) : TE := fun σ H Q => ta σ H fun x H1 => ∃ a dx fs, x = .ref a ∧ H1 a = some (.ins C dx fs) ∧ fs.lookup m = none ∧
  t σ H1 fun vs H2 => sp (x :: (vs ++ dvs)) H2 (fun _ _ => True) (fun _ _ _ => True) ∧ ∀ g, H2 g = none → Q (.ref g) (upd H2 g (gno g))
theorem pe_genO {pl : Sem Bool} {e : Expr} {es : List Expr} {t : TA} (he : PE X o ta) (c : Cls X.K C) (hm : Meth X.K C m f) (F : GFn X.prog X.w X.K X.mg X.base k f fd ps sp) (hr : Room k X.A) (hb : Binds X.K fd ps ds) (hd : Vals dvs ds) (ha : PA X (e :: es) t)
    (hst : starEach (e :: es) X.env = (false, eval e X.env) :: starEach es X.env := by rfl) (hpl : (backTo pos' (starEach es X.env)).any (·.1) = false := by rfl)
    (ht : eval (.Call (.Attribute o m apos) (e :: es) [] pos') X.env = (do
      let ov ← eval o X.env
      standAt apos.atName
      let (f, first) ← holding [ov] (getMethod ov m pl)
      callWith pos' f first (backTo pos' (starEach (e :: es) X.env)) (backToKw pos' (keywordEach [] X.env))) := by rfl) :
    PE X (.Call (.Attribute o m apos) (e :: es) [] pos') (tMethO C m sp dvs ta t) := by
  refine ⟨fun pins s σ H Q I h => ?_⟩
  refine PySem.W.methodCall_KW (pl := pl) (thn (he.run pins s σ H _ I h) fun u s1 ⟨x, H1, I1, rx, a, dx, fs, ex, ea, l, q⟩ => ?_) ht
  subst ex
  obtain rfl : u = Value.ref a := rx
  refine getmeth_ok I1 ea c hm l ?_
  refine PySem.W.callWith_K (first := [.ref a]) (h₀ := X.base) I.ok.mod.kin hm.kp (thn (ha.run pos' pins s1 σ H1 _ I1 q) fun us s2 ⟨vs, H2, I2, r, q2⟩ => ⟨I2.kIn, ?_⟩) hst hpl
  exact run_gfn0 (us := .ref a :: us) (vs := .ref a :: vs) F hr hb hd I2 (.cons rfl r) q2.1 q2.2
theorem cr_range1 : CallR X (.type "range") (fun vs H Q => ∃ j, vs = [V.int j] ∧ ∀ p, H p = none → Q (.ref p) (upd H p (.rng 0 j))) := by
  intro pins s σ H vs us Q I r h
  obtain ⟨j, rfl, q⟩ := h
  cases r with
  | cons r rr =>
    cases rr
    obtain ⟨t, rfl⟩ := r
    exact call_range_1 ⟨.ref s.heap.objs.size, upd H s.heap.objs.size (.rng 0 j), I.laid (t' := s.toks + 1 + 1) (fun b o e => Heap.get?_push_of_some _ e) (Nat.le_refl _) ⟨_, _, _, Heap.get?_push_size _ rfl⟩, rfl, q _ (I.hok.fresh (Nat.le_refl _))⟩
/-- list(zip(r, g)): an empty range beside a generator that has not begun -/
def tListZip0 (ta : TA) : TE := fun σ H Q => ta σ H fun vs H1 => ∃ r a, vs = [V.ref r, .ref a] ∧ H1 r = some (.rng 0 0) ∧ H1 a = some (gno a) ∧ ∀ p, H1 p = none → Q (.ref p) (upd H1 p (.lst []))
theorem pe_listZip0 {e1 e2 : Expr} {ta : TA} {zp zpos : Pos} (hc : X.calm = true) (hg : Gl X "list") (hm : X.mg "list" = none) (hv : bootBuiltins "list" = some (.type "list")) (hgz : Gl X "zip") (hmz : X.mg "zip" = none) (ha : PA X [e1, e2] ta)
    (hs : starEach [.Call (.Name "zip" zp) [e1, e2] [] zpos] X.env = (false, eval (.Call (.Name "zip" zp) [e1, e2] [] zpos) X.env) :: starEach [] X.env := by rfl)
    (hs2 : starEach [e1, e2] X.env = (false, eval e1 X.env) :: starEach [e2] X.env := by rfl) (hpl : (backTo zpos (starEach [e2] X.env)).any (·.1) = false := by rfl) :
    PE X (.Call (.Name "list" p) [.Call (.Name "zip" zp) [e1, e2] [] zpos] [] pos) (tListZip0 ta) := by
  refine ⟨fun pins s σ H Q I hq => ?_⟩
  refine wpAny_Call_Name_kw (ld_blt I hg hm hv ?_)
  refine PyProof.Rows.callWith_type1 ?_ hs rfl
  rw [hs]
  show wpAny _ _ (spliced ((false, eval (.Call (.Name "zip" zp) [e1, e2] [] zpos) X.env) :: backTo pos (starEach [] X.env))) _ _ s
  refine Calls.spliced_cons ?_
  refine Call_ (ld_blt I hgz hmz PyProof.Rows.boot_zip (PyProof.Rows.callWith_type1 (thn (ha.run zpos pins s σ H _ I hq) fun us s1 ⟨vs, H1, I1, r1, q1⟩ => ?_) hs2 hpl))
  obtain ⟨r, a, rfl, hr, hga, q⟩ := q1
  cases r1 with
  | cons r0 rr =>
    cases rr with
    | cons r' rr =>
      cases rr
      cases r0
      cases r'
      obtain ⟨t, u, v, ho⟩ := I1.hok r _ hr
      refine zip_beginsG (begins_range0 r t u v) ho (gno_at I1.hok hga) fun h' hz hTI hTO h1 hsz hk => ?_
      refine Calls.spliced_nil ?_
      refine call_list_zip0 (s := { s1 with heap := h' }) (I1.ok.hd hc) (by show (s1.heap.objs.size + 3 : Nat) ≠ s1.heap.objs.size; omega) hz hTI (by show (s1.heap.objs.size + 1 : Nat) ≠ s1.heap.objs.size + 3; omega) h1 (Int.le_refl 0) fun h2 tk c hS hk2 => ?_
      have hsz' : h'.objs.size = s1.heap.objs.size + 4 := hsz
      have J : Inv X pins σ (upd H1 h'.objs.size (.lst [])) { s1 with heap := h2, toks := tk } := by
        refine I1.laid (t' := tk) (fun b o e => hk2 b o ?_ ?_ (hk b o e)) (by show s1.heap.objs.size ≤ h'.objs.size; omega) ⟨Nat.zero_le _, [], c, .nil, hS⟩
        · exact Nat.ne_of_lt (Nat.lt_of_lt_of_le (Heap.lt_size e) (Nat.le_add_right _ _))
        · exact Nat.ne_of_lt (Heap.lt_size e)
      exact ⟨.ref h'.objs.size, _, J, rfl, q _ (I1.hok.fresh (by show s1.heap.objs.size ≤ h'.objs.size; omega))⟩
end
end L2
namespace Wk
open PySem PySem.Spec PyProof.Rows L2 WkD WkN LamX WkP WkE WkC
section
variable {P : Program} {w : World} {K : PySem.W.Frag} {mg : Str → Option Value} {base : Heap}
theorem sc_law04 : FnScope ["_law_script", "_law_pen_here", "_law_bout", "_law_network_here", "_law_house", "_law_names_here", "_law_u", "_law_due", "_law_v", "_law_weight", "_law_odd", "_law_value"] ["_law_script"] (defScope s_law) := ⟨rfl, rfl, rfl, by decide +kernel, rfl, by decide +kernel, by decide +kernel⟩
theorem ok_law {f c PT : Addr} {fd : FuncData} (F : FnP K "law" "law" s_law f fd) (hC : WkL.CodeIs K f c) (B : Bi mg) (S : WkG.Sm K) {tbT : List (Addr × Str)} {CN CU CE CO fI fN : Addr} {fdN : FuncData} (NK : FCls K CN) (EK : UnkK K mg CU CE CO fI) (TB : TabB base mg c PT) (hmT : (PT, ("law.<locals>.<lambda>" : Str)) ∈ tbT) (huT : ∀ p ∈ tbT, p.1 = PT → p.2 = ("law.<locals>.<lambda>" : Str))
    (DT : Def K mg "_law_unknown" s_L_unknown) (C_pen : Callee P w K mg base CX0 1 "_law_pen" ["_law_script"] (spPen K)) (C_pick : Callee P w K mg base CX0 2 "_law_pick" ["_law_pen_here", "_law_some"] (spPick K))
    (C_network : Callee P w K mg base CX0 4 "_law_network" ["_law_pen_here", "_law_least", "_law_most"] spNetwork) (C_made : Callee P w K mg base CX0 8 "_law_made" ["_law_network_here"] (spMade K tbT CN))
    (MW : MethC P w K mg base (CX P w) CN "weight" 3 (spGW K CN CU)) (MN : Meth K CN "neighbours" fN) (bN : L2.Binds K fdN ["self", "u"] []) (FN : GFn P w K mg base 4 fN fdN ["self", "u"] (spNb K CN CU)) : WkG.FnG P w K mg base CX0 10 f fd ["_law_script"] (spLawT K tbT) := by
  obtain ⟨gTf, fdT, FT, gT⟩ := DT
  have kpT := FT.kp
  have bT : L2.Binds K fdT ["_law_call"] [] := FT.bindsN (fun _ _ _ _ _ _ us hl => match us, hl with | [_], _ => rfl)
  obtain ⟨ocT, odT, dVT, kVT, docT, pmT, anT, cdvT, ctT, oslT, rfl, lkT, cdT, _, _⟩ := FT.ex
  refine WkV.okGC F sc_law04 hC (fun vs H Q E h => ?_) (fun A outer s H vs Q E hG hr h => ?_)
  · obtain ⟨a, ns, rfl, _⟩ := h
    rfl
  · have hu := hu_of hr
    have nd := sc_law04.nd
    have hr9 : Room 9 _ := hr
    have hr8 : Room 8 _ := hr.mono (by decide)
    have hr7 : Room 7 _ := hr.mono (by decide)
    have hr5 : Room 5 _ := hr.mono (by decide)
    have hr4 : Room 4 _ := hr.mono (by decide)
    have hr3 : Room 3 _ := hr.mono (by decide)
    have hr2 : Room 2 _ := hr.mono (by decide)
    have hr1 : Room 1 _ := hr.mono (by decide)
    refine ⟨_, PSs.nox (pss_cons (ps_set (i := 1) nd rfl (Or.inl rfl) (pe_c C_pen hr1 pass0 (pa_cons (pv 0) pa_nil)))
      (pss_cons (ps_for PassesOwn.never rfl (pi_range1 (by rfl) B.n_range (pa_cons (pe_op op_add pe_int (pe_callB (call_min2 rfl) (by rfl) B.n_min (by decide +kernel) (pa_cons pe_int (pa_cons (pe_callB call_len_seq (by rfl) B.n_len (by decide +kernel) (pa_cons (pv 0) pa_nil)) pa_nil)))) pa_nil)) (pg_name (i := 2) nd rfl (Or.inl rfl))
      (pss_cons (ps_set (i := 3) nd rfl (Or.inl rfl) (pe_c C_network hr4 pass0 (pa_cons (pv 1) (pa_cons pe_int (pa_cons pe_int pa_nil)))))
      (pss_cons (ps_asg (pe_tup (pa_cons (pe_c C_made hr8 pass0 (pa_cons (pv 3) pa_nil)) (pa_cons (pe_dget hu (pv 3) pe_str (fun _ _ => rfl)) pa_nil))) (WkN.pgT K 2 rfl rfl (pgs_cons (pg_name (i := 4) nd rfl (Or.inr rfl)) (pgs_cons (pg_name (i := 5) nd rfl (Or.inr rfl)) pgs_nil)) rfl))
      (pss_cons (ps_for PassesOwn.never rfl (pi_list (pv 5)) (pg_name (i := 6) nd rfl (Or.inr rfl))
      (pss_cons (ps_set (i := 7) nd rfl (Or.inl rfl) (pe_lst pa_nil))
      (pss_cons (ps_for PassesOwn.never rfl (pi_list (pv 5)) (pg_name (i := 8) nd rfl (Or.inl rfl))
      (pss_cons (ps_set (i := 9) nd rfl (Or.inl rfl) (pe_dget2 hu (pe_dget hu (pv 3) pe_str (fun _ _ => rfl)) (pe_tup (pa_cons (pe_callB (WkD.call_min2S rfl) (by rfl) B.n_min (by decide +kernel) (pa_cons (pv 6) (pa_cons (pv 8) pa_nil))) (pa_cons (pe_callB (WkD.call_max2S rfl) (by rfl) B.n_max (by decide +kernel) (pa_cons (pv 6) (pa_cons (pv 8) pa_nil))) pa_nil))) pe_int ⟨rfl, rfl, rfl, rfl⟩))
      (pss_cons (ps_if (pt_cmpR op_ne (pe_callB (WkG.call_repr hG S hr.units) (by rfl) B.n_repr (by decide +kernel) (pa_cons (WkC.pe_mt MW NK.cls hr3 WkK.passF (pv 4) (pa_cons (pv 6) (pa_cons (pv 8) pa_nil))) pa_nil)) (pe_callB (WkG.call_repr hG S hr.units) (by rfl) B.n_repr (by decide +kernel) (pa_cons (pv 9) pa_nil)) (nomark _))
      (pss_one (ps_ret pe_bl)) pss_nil)
      (pss_one (ps_if (pt_cmpR op_gt (pv 9) pe_int (nomark _))
      (pss_one (ps_expr (pe_bm PySem.F.plainAttrs_list PySem.F.slot_list_append PySem.F.type_list_append mt_append (pv 7) (pa_cons (pe_tup (pa_cons (pv 8) (pa_cons (pv 9) pa_nil))) pa_nil)))) pss_nil)))))
      (pss_one (ps_if (pt_cmpR op_ne (pe_callB (WkG.call_repr hG S hr.units) (by rfl) B.n_repr (by decide +kernel) (pa_cons (pe_listG (E := fun _ _ _ => False) (pgen_meth (pv 4) NK.cls MN FN hr4 bN .nil (pa_cons (pv 6) pa_nil)) WkK.passF (fun _ _ _ z => z.elim) hr7 (by rfl) B.n_list (by decide +kernel)) pa_nil)) (pe_callB (WkG.call_repr hG S hr.units) (by rfl) B.n_repr (by decide +kernel) (pa_cons (pv 7) pa_nil)) (nomark _))
      (pss_one (ps_ret pe_bl)) pss_nil)))))
      (pss_cons (ps_setLc (i := 10) (own := [("_law_value", 11)]) (by rfl) nd rfl rfl (sw_true rfl rfl rfl (by decide +kernel)) (pi_list (pe_lst (pa_cons pe_str (pa_cons pe_str (pa_cons pe_str (pa_cons pe_non (pa_cons pe_bl (pa_cons pe_int (pa_cons (pe_tup pa_nil) (pa_cons (pe_lst pa_nil) (pa_cons pe_dnewK (pa_cons (pe_tup (pa_cons (pe_ix ix_list (pv 5) pe_int (fun _ _ => rfl)) pa_nil)) pa_nil)))))))))))) (blkOk_by (by kernel_rfl)) (fun _ _ _ _ _ => (pg_name (i := 11) nd rfl (Or.inl rfl))) (fun _ _ _ _ _ => (pts_one (pt_cmpR (WkK.opNotInS K (by rfl) S hu) (pv 11) (pv 5) (by rfl)))) (fun _ _ _ _ _ => (pv 11)))
      (pss_cons (ps_set (i := 6) nd rfl (Or.inr rfl) (pe_c C_pick hr2 pass0 (pa_cons (pv 1) (pa_cons (pv 5) pa_nil))))
      (pss_cons (ps_for PassesOwn.never rfl (pi_list (pv 10)) (pg_name (i := 11) nd rfl (Or.inr rfl))
      (pss_cons (ps_if (pt_cmpR op_ne (pe_callB (WkG.call_repr hG S hr.units) (by rfl) B.n_repr (by decide +kernel) (pa_cons (LamX.pe_lamcall (T := tbT) (TT := TUnk CU) (a := "_law_call") (k := 3) (by rfl) gT kpT lkT cdT bT sc_lunk rfl (Or.inl rfl) (unk_x rfl rfl B EK hr3) TB rfl hmT huT hr5 (lamS_by (sc := defScope s_law) (by decide +kernel)) rfl (fun _ _ _ _ _ => rfl) (fun A outer s H E f c1 hr9 => WkC.pe_mt MW NK.cls hr9 (passes_call (takes_of rfl rfl rfl rfl) fun _ _ _ _ h => h) (pv 4) (pa_cons (pv 11) (pa_cons (pv 6) pa_nil)))) pa_nil)) (pe_callB (WkG.call_repr hG S hr.units) (by rfl) B.n_repr (by decide +kernel) (pa_cons (pe_tup (pa_cons (pv 11) pa_nil)) pa_nil)) (nomark _))
      (pss_one (ps_ret pe_bl)) pss_nil)
      (pss_cons (ps_if (pt_cmpR op_ne (pe_callB (WkG.call_repr hG S hr.units) (by rfl) B.n_repr (by decide +kernel) (pa_cons (LamX.pe_lamcall (T := tbT) (TT := TUnk CU) (a := "_law_call") (k := 3) (by rfl) gT kpT lkT cdT bT sc_lunk rfl (Or.inl rfl) (unk_x rfl rfl B EK hr3) TB rfl hmT huT hr5 (lamS_by (sc := defScope s_law) (by decide +kernel)) rfl (fun _ _ _ _ _ => rfl) (fun A outer s H E f c1 hr9 => WkC.pe_mt MW NK.cls hr9 (passes_call (takes_of rfl rfl rfl rfl) fun _ _ _ _ h => h) (pv 4) (pa_cons (pv 6) (pa_cons (pv 11) pa_nil)))) pa_nil)) (pe_callB (WkG.call_repr hG S hr.units) (by rfl) B.n_repr (by decide +kernel) (pa_cons (pe_tup (pa_cons (pv 11) pa_nil)) pa_nil)) (nomark _))
      (pss_one (ps_ret pe_bl)) pss_nil)
      (pss_cons (ps_if (pt_cmpR op_ne (pe_callB (WkG.call_repr hG S hr.units) (by rfl) B.n_repr (by decide +kernel) (pa_cons (LamX.pe_lamcall (T := tbT) (TT := TUnk CU) (a := "_law_call") (k := 7) (by rfl) gT kpT lkT cdT bT sc_lunk rfl (Or.inl rfl) (unk_x rfl rfl B EK hr3) TB rfl hmT huT hr9 (lamS_by (sc := defScope s_law) (by decide +kernel)) rfl (fun _ _ _ _ _ => rfl) (fun A outer s H E f c1 hr9 => pe_listG (E := fun cls d H => cls = Value.ref CU ∧ E cls d H) (pgen_meth (pv 4) NK.cls MN FN (hr9.mono (by decide)) bN .nil (pa_cons (pv 11) pa_nil)) (passes_call (takes_of rfl rfl rfl rfl) fun _ _ _ _ h => h.2) (fun cls d H h => by obtain ⟨e, _⟩ := h; subst e; exact EK.sp) hr9 (by rfl) B.n_list (by decide +kernel))) pa_nil)) (pe_callB (WkG.call_repr hG S hr.units) (by rfl) B.n_repr (by decide +kernel) (pa_cons (pe_tup (pa_cons (pv 11) pa_nil)) pa_nil)) (nomark _))
      (pss_one (ps_ret pe_bl)) pss_nil)
      (pss_one (ps_if (pt_cmpR (WkG.op_neNil hr.units) (pe_listZip0 rfl (by rfl) B.n_list (by decide +kernel) (by rfl) B.n_zip (pa_cons (pe_callTy cr_range1 (by rfl) B.n_range (by decide +kernel) (pa_cons pe_int pa_nil)) (pa_cons (pe_genO (pv 4) NK.cls MN FN hr4 bN .nil (pa_cons (pv 11) pa_nil)) pa_nil))) (pe_lst pa_nil) (nomark _))
      (pss_one (ps_ret pe_bl)) pss_nil))))))
      (pss_one (ps_if (pt_cmpR op_ne (pe_callB (WkG.call_repr hG S hr.units) (by rfl) B.n_repr (by decide +kernel) (pa_cons (LamX.pe_lamcall (T := tbT) (TT := TUnk CU) (a := "_law_call") (k := 3) (by rfl) gT kpT lkT cdT bT sc_lunk rfl (Or.inl rfl) (unk_x rfl rfl B EK hr3) TB rfl hmT huT hr5 (lamS_by (sc := defScope s_law) (by decide +kernel)) rfl (fun _ _ _ _ _ => rfl) (fun A outer s H E f c1 hr9 => WkC.pe_mt MW NK.cls hr9 (passes_call (takes_of rfl rfl rfl rfl) fun _ _ _ _ h => h) (pv 4) (pa_cons pe_str (pa_cons pe_non pa_nil)))) pa_nil)) (pe_callB (WkG.call_repr hG S hr.units) (by rfl) B.n_repr (by decide +kernel) (pa_cons (pe_tup (pa_cons pe_str pa_nil)) pa_nil)) (nomark _))
      (pss_one (ps_ret pe_bl)) pss_nil)))))))))
      (pss_one (ps_ret pe_bl)))), ?_⟩
    obtain ⟨a, ns, rfl, hS, hl, hT, k⟩ := h
    have big : 10000 < sizeLine := by decide
    have sz : ∀ n : Nat, n ≤ 10000 → n ≤ sizeLine := fun n h => by omega
    refine ⟨_, rfl, a, ns, rfl, hS, hl, fun p cs H1 np ncs s1 P1 => ?_⟩
    refine ⟨_, rfl, a, _, rfl, .inl (s1.seq hS), _, _, rfl, _, _, rfl, rfl, ?_⟩
    rw [List.length_map]
    obtain ⟨nb, enb, nb0, nb1⟩ : ∃ n : Int, n = 4 + (if (ns.length : Int) < 8 then (ns.length : Int) else 8) ∧ 0 ≤ n ∧ n ≤ 12 := ⟨_, rfl, by split <;> omega, by split <;> omega⟩
    refine ⟨nb, by rw [enb], by omega, by omega, ?_⟩
    refine for_it (walk_range (lo := 0) (n := nb.toNat)) (fun i σ Hc => ∃ (x2 x3 x4 x5 x6 x7 x8 x9 x10 x11 : Option V), σ = [some (.ref a), some (.ref p), x2, x3, x4, x5, x6, x7, x8, x9, x10, x11] ∧ Pen Hc p cs (1000 * i) ∧ Tabs tbT Hc)
      ⟨_, _, _, _, _, _, _, _, _, _, rfl, P1, hT.ext s1⟩ ?_ ?_ ?_
    · intros
      trivial
    · rintro i x σ H0 H0' hi ⟨x2, x3, x4, x5, x6, x7, x8, x9, x10, x11, rfl, P0, T0⟩ ⟨rfl, rfl⟩
      have hi13 : i < 12 := by omega
      refine ⟨_, rfl, p, cs, _, _, _, rfl, P0, by omega, by decide, by decide, by decide, fun q va ea vs es rt H2 b2 nq nva nea N2 lo2 hi2 le2 P2 => ?_⟩
      have T2 : Tabs tbT H2 := by
        obtain ⟨⟨t', r', h1, _⟩, _⟩ := P0
        exact tabs_but T0 h1 trivial b2
      have fq := P0.free nq
      have fva := P0.free nva
      have fea := P0.free nea
      have vl : 2 ≤ vs.length ∧ vs.length ≤ 8 := by omega
      refine ⟨_, rfl, q, va, ea, vs, es, rt, rfl, N2, vl.1, by omega, by omega, T2, fun x nb1 wt1 n1 m1 en1 ed1 H3 e3 T3 nx N3 hm1 hed1 hen1 ee1 => ?_⟩
      have N23 := N2.ext e3
      refine ⟨_, rfl, q, _, rfl, (get_net N23).1, sz 2 (by decide), fun p4 n4 => ?_⟩
      generalize gg4 : upd _ p4 _ = G4; obtain ⟨s4, L4⟩ := new_eq n4 gg4; clear gg4
      refine ⟨p4, _, rfl, .inl (.inl L4), rfl, _, _, rfl, _, _, rfl, rfl, ?_⟩
      have I0 : InH tbT CN p cs q va ea x vs es rt (1000 * i + 400) G4 := (InH.same ⟨T3, P2.ext e3, N23, ⟨nb1, wt1, n1, m1, en1, _, N3, ee1⟩, fq.1, fva.1, fea.1⟩ s4 :)
      clear s4 L4 N23 N3 T3 P2 e3 N2 T2 b2 hm1 hed1 hen1
      refine ⟨_, rfl, va, rfl, ⟨_, SqL.of I0.net.ver⟩, ?_⟩
      refine for_it (walk_list (xs := vs.map V.str)) (fun j σ Hc => ∃ (x6 x7 x8 x9 : Option V), σ = [some (.ref a), some (.ref p), some (.int (0 + (i : Int))), some (.ref q), some (.ref x), some (.ref va), x6, x7, x8, x9, x10, x11] ∧ InH tbT CN p cs q va ea x vs es rt (1000 * i + 400) Hc)
        ⟨_, _, _, _, rfl, I0⟩ ?_ ?_ ?_
      · rintro j σ Hc hj ⟨x6, x7, x8, x9, rfl, I⟩
        exact SqL.of I.net.ver
      · rintro j y σ Hc Hc' hj ⟨x6, x7, x8, x9, rfl, I⟩ ⟨rfl, hy⟩
        obtain ⟨u, hu', rfl⟩ := List.mem_map.mp (List.mem_of_getElem? hy)
        obtain ⟨dx, fs, pa, ad, nbr, wt, A, l1, l2, go, an, hE⟩ := I.narg NK (by omega)
        have wj := fun {v : Str} => wJ_pos go I.net.ok.ed hE (u := u) (v := v) hu'
        have wje := fun {v : Str} => wJ_eq go I.net.ok.ed hE (u := u) (v := v) hu'
        refine ⟨sz 0 (by decide), fun p20 n20 => ?_⟩
        generalize gg20 : upd _ p20 _ = G20; obtain ⟨s20, L20⟩ := new_eq n20 gg20; clear gg20
        refine ⟨_, rfl, va, rfl, ⟨_, SqL.of (s20 _ _ I.net.ver)⟩, ?_⟩
        refine for_it (walk_list (xs := vs.map V.str)) (fun j σ Hc => ∃ (x8 x9 : Option V) (rs : List Addr), σ = [some (.ref a), some (.ref p), some (.int (0 + (i : Int))), some (.ref q), some (.ref x), some (.ref va), some (.str u), some (.ref p20), x8, x9, x10, x11] ∧ Same Hc' Hc ∧ Hc p20 = some (.lst (rs.map V.ref)) ∧ NbsAt Hc rs ((vs.take j).filter fun v => decide (v ∈ nbr u)) (wt u))
          ⟨_, _, [], rfl, s20, L20, .nil⟩ ?_ ?_ ?_
        · rintro j σ Hc hj ⟨x8, x9, rs, rfl, s5, L5, N5⟩
          exact SqL.of (s5 _ _ I.net.ver)
        · clear hy hj
          rintro j y σ Hc Hcc hj ⟨x8, x9, rs, rfl, s5, L5, N5⟩ ⟨rfl, hy⟩
          rw [List.getElem?_map] at hy
          obtain ⟨v, ev, rfl⟩ : ∃ v, vs[j]? = some v ∧ V.str v = y := by
            cases e : vs[j]? with
            | none => rw [e] at hy; cases hy
            | some v => rw [e] at hy; cases hy; exact ⟨v, rfl, rfl⟩
          have hv' : v ∈ vs := List.mem_of_getElem? ev
          have I5 := I.same s5
          have A5 := A.same s5
          refine ⟨_, rfl, q, _, rfl, (get_net I5.net).2.1, ea, rfl, .inr ⟨_, .inl I5.net.edg⟩, _, rfl, _, rfl, _, _, rfl, _, rfl, _, rfl, _, _, rfl, sz 2 (by decide), fun p7 n7 => ?_⟩
          generalize gg7 : upd _ p7 _ = G7; obtain ⟨s7, L7⟩ := new_eq n7 gg7; clear gg7
          have L7 : G7 p7 = some (.tup [.str (mp u v).1, .str (mp u v).2]) := L7
          refine ⟨_, .inr ⟨_, kP (mp u v), p7, .inl (s7 _ _ I5.net.edg), rfl, L7, rfl⟩, ?_⟩
          rw [wJ_get I.net.ok.ed.nd]
          have A7 := A5.same s7
          have s57 := s5.trans s7
          have av : ∀ z ∈ vs, AnyV K G7 (.str z) := fun z hz => .inl ⟨z, rfl, name_len (I.net.ok.nm z hz)⟩
          refine ⟨_, rfl, x, dx, fs, rfl, A7.g.ins, l1, _, rfl, _, rfl, x, dx, fs, pa, rt, vs, ad, nbr, wt, .str u, .str v, rfl, A7, av u hu', av v hv', fun no => absurd ⟨u, hu', rfl⟩ no, fun _ no => absurd ⟨v, hv', rfl⟩ no, fun u2 v2 e1 e2 _ _ H8 s8 => ?_⟩
          cases e1
          cases e2
          rw [← wje (v := v)]
          obtain ⟨w1, w2, w3⟩ := (WkG.fits_intD (i := wJ es u v) (by have := (wj (v := v)).2; omega)).ok (by decide)
          refine ⟨_, .int _, rfl, .int _, w1, w2, w3, ?_⟩
          refine ⟨_, rfl, _, .int _, rfl, .int _, w1, w2, w3, rfl, _, rfl, ?_⟩
          refine ite2 (fun h => absurd h (by simp)) (fun _ => ?_)
          have s58 := s57.trans s8
          have L8 := s8 _ _ (s7 _ _ L5)
          have N8 := (N5.stay s7).stay s8
          have tk : (vs.take (j + 1)).filter (fun v => decide (v ∈ nbr u)) = (vs.take j).filter (fun v => decide (v ∈ nbr u)) ++ if v ∈ nbr u then [v] else [] := by
            rw [List.take_succ, ev, List.filter_append]
            by_cases h : v ∈ nbr u <;> simp [h]
          refine ⟨_, rfl, _, _, rfl, rfl, _, rfl, ?_⟩
          refine ite2 (fun hb => ?_) (fun hb => ?_)
          · have h0 : 0 < wJ es u v := of_decide_eq_true hb
            have hin : v ∈ nbr u := (wj (v := v)).1.mp h0
            refine ⟨_, rfl, .inl ⟨rfl, _, SqL.of L8⟩, _, rfl, _, rfl, sz 2 (by decide), fun p9 n9 => ?_⟩
            generalize gg9 : upd _ p9 _ = G9; obtain ⟨s9, L9⟩ := new_eq n9 gg9; clear gg9
            have L10 := s9 _ _ L8
            have rl : rs.length ≤ vs.length := by
              have h1 : rs.length = _ := paired_len N8
              rw [h1]
              exact Nat.le_trans (List.length_filter_le _ _) (List.length_take_le' _ _)
            refine ⟨p20, _, _, rfl, rfl, L10, by rw [List.length_map]; omega, ?_⟩
            refine ⟨_, _, rs ++ [p9], rfl, fun b o h => ?_, by rw [List.map_append]; exact upd_same, ?_⟩
            · rw [upd_ne (ne_of_none h n20)]
              exact (s58.trans s9) b o h
            · rw [tk, if_pos hin]
              refine NbsAt.put (paired_snoc (F := fun (r : Addr) (v : Str) => G9 r = some (.tup [.str v, .int (wt u v)])) ?_ (N8.stay s9)) L10
              rw [L9, wje, if_pos hin]
          · have hno : v ∉ nbr u := fun h => hb (decide_eq_true ((wj (v := v)).1.mpr h))
            refine ⟨_, _, rs, rfl, s58, L8, ?_⟩
            rw [tk, if_neg hno, List.append_nil]
            exact N8
        · rintro σ Hc ⟨x8, x9, rs, rfl, s5, L5, N5⟩
          rw [List.length_map, List.take_length, ← nb_filter go I.net.ok.asc an hu'] at N5
          have I5 := I.same s5
          have A5 := A.same s5
          have nmn : ∀ v ∈ nbr u, nameB v = true := fun v hv => go.nm v (go.sym.mem u hu' v hv).1
          have lnn : (nbr u).length ≤ 20 := by
            have h1 := (go.sym.nd u hu').length_le_of_subset fun v hv => (go.sym.mem u hu' v hv).1
            omega
          obtain ⟨z1, z2, z3⟩ := (fits_nbs (wt := wt u) nmn (fun v hv => go.wts u hu' v hv) lnn).ok (by decide)
          refine ⟨_, rfl, x, dx, fs, rfl, A5.g.ins, l2, _, rfl, x, dx, fs, pa, rt, vs, ad, nbr, wt, .str u, rfl, A5, .inl ⟨u, rfl, name_len (I.net.ok.nm u hu')⟩, fun no => absurd ⟨u, hu', rfl⟩ no, fun u2 e1 _ rs2 H8 s8 N8 p9 n9 => ?_⟩
          cases e1
          generalize gg9 : upd _ p9 _ = G9; obtain ⟨s9, L9⟩ := new_eq n9 gg9; clear gg9
          refine ⟨.ref p9, .list (nbD (nbr u) (wt u)), rfl, .lst (SqL.of L9) (nbs_dx (N8.stay s9)), z1, z2, z3, ?_⟩
          have s59 := s8.trans s9
          refine ⟨_, rfl, .ref p20, .list (nbD (nbr u) (wt u)), rfl, .lst (SqL.of (s59 _ _ L5)) (nbs_dx (N5.stay s59)), z1, z2, z3, rfl, _, rfl, ?_⟩
          refine ite2 (fun h => absurd h (by simp)) (fun _ => ?_)
          exact ⟨_, _, _, _, rfl, I5.same s59⟩
      · rintro σ Hc ⟨x6, x7, x8, x9, rfl, I⟩
        clear I0
        refine ⟨sz 0 (by decide), fun p12 n12 => ?_⟩
        have f12 := I.pen.free n12
        generalize gg12 : upd _ p12 _ = G12; obtain ⟨s12, L12⟩ := new_eq n12 gg12; clear gg12
        have I12 := I.same s12
        refine ⟨sz 0 (by decide), fun p13 n13 => ?_⟩
        have f13 := I12.pen.free n13
        generalize gg13 : upd _ p13 _ = G13; obtain ⟨s13, L13⟩ := new_eq n13 gg13; clear gg13
        have I13 := I12.same s13
        intro p14 n14
        have f14 := I13.pen.free n14
        generalize gg14 : upd _ p14 _ = G14; obtain ⟨s14, L14⟩ := new_eq n14 gg14; clear gg14
        have I14 := I13.same s14
        obtain ⟨z0, r0, ev⟩ : ∃ z r, vs = z :: r := by
          cases hv : vs with
          | nil => rw [hv] at vl; simp at vl
          | cons z r => exact ⟨z, r, rfl⟩
        have nmz : nameB z0 = true := I14.net.ok.nm z0 (by rw [ev]; exact List.mem_cons_self)
        refine ⟨_, rfl, va, _, _, .str z0, rfl, rfl, SqL.of I14.net.ver, by rw [ev]; exact atI_nat (j := 0) (xs := V.str z0 :: r0.map V.str) rfl, sz 1 (by decide), fun p15 n15 => ?_⟩
        have f15 := I14.pen.free n15
        generalize gg15 : upd _ p15 _ = G15; obtain ⟨s15, L15⟩ := new_eq n15 gg15; clear gg15
        have I15 := I14.same s15
        refine ⟨sz 10 (by decide), fun p16 n16 => ?_⟩
        generalize gg16 : upd _ p16 _ = G16; obtain ⟨s16, L16⟩ := new_eq n16 gg16; clear gg16
        have I16 := I15.same s16
        have l12 := s16 _ _ (s15 _ _ (s14 _ _ (s13 _ _ L12)))
        have l13 := s16 _ _ (s15 _ _ (s14 _ _ L13))
        have l14 := s16 _ _ (s15 _ _ L14)
        have l15 := s16 _ _ L15
        clear s16 s15 s14 s13 s12 I12 I13 I14 I15 L12 L13 L14 L15
        refine ⟨p16, rfl, ⟨_, SqL.of L16⟩, fun D nD => ?_⟩
        have dne : ∀ {c o}, G16 c = some o → c ≠ D := fun h => ne_of_none h nD
        refine lc_it (walk_list (xs := odd04 p12 p13 p14 p15)) (fun m Hc => ∃ us, But D G16 Hc ∧ Hc D = some (.lst us) ∧ us.length ≤ m ∧ (∀ v ∈ us, v ∈ odd04 p12 p13 p14 p15 ∧ ¬ IsIn v vs)) ⟨[], (But.refl D G16).upd, upd_same, Nat.zero_le _, (fun v h => nomatch h)⟩ ?_ ?_ ?_
        · rintro m Hc hm ⟨us, b, _⟩
          exact SqL.of (b _ _ L16 (dne L16))
        · rintro m v Hc Hc' hm ⟨us, b, hD, hl', hv⟩ ⟨rfl, hx⟩
          have hm : m < 10 := hm
          have hmem : v ∈ odd04 p12 p13 p14 p15 := List.mem_of_getElem? hx
          obtain ⟨d, hd, _, av⟩ := Odd4.ok (K := K) ⟨b _ _ l12 (dne l12), b _ _ l13 (dne l13), b _ _ l14 (dne l14), b _ _ l15 (dne l15)⟩ nmz v hmem
          refine ⟨rfl, _, rfl, _, rfl, va, vs, d, rfl, SqL.of (b _ _ I16.net.ver (dne I16.net.ver)), hd, _, rfl, ?_⟩
          have sd := in_is (vs := vs) hd
          generalize WkK.inD d vs = bb at sd ⊢
          refine ite2 (fun h => ?_) (fun h => ?_)
          · have nin : ¬ IsIn v vs := fun q => by
              rw [sd.mpr q] at h
              cases h
            refine ⟨_, rfl, us, hD, by omega, us ++ [v], b.upd, upd_same, by rw [List.length_append]; simp; omega, fun u hu => ?_⟩
            rcases List.mem_append.mp hu with hu | hu
            · exact hv u hu
            · rw [List.mem_singleton.mp hu]
              exact ⟨hmem, nin⟩
          · exact ⟨us, b, hD, by omega, hv⟩
        rintro H17 ⟨us, b17, D17, l17, m17⟩
        have l17 : us.length ≤ 10 := l17
        have fD := I16.pen.free nD
        have s17 : Same G16 H17 := fun c o hc => b17 _ _ hc (dne hc)
        have I17 := I16.same s17
        have O17 : Odd4 p12 p13 p14 p15 z0 H17 := ⟨s17 _ _ l12, s17 _ _ l13, s17 _ _ l14, s17 _ _ l15⟩
        refine ⟨_, rfl, _, rfl, p, cs, _, I17.pen, by omega, .inl ⟨va, _, rfl, .inl (SqL.of I17.net.ver), ?_, ?_, fun y H18 hy b18 P18 => ?_⟩⟩
        · intro z
          have := congrArg List.length z
          rw [List.length_map, List.length_nil] at this
          omega
        · rw [List.length_map]
          omega
        obtain ⟨u, hu', rfl⟩ := List.mem_map.mp hy
        have I18 := I17.but b18 P18
        have O18 : Odd4 p12 p13 p14 p15 z0 H18 := ⟨b18 _ _ O17.h1 f12.1, b18 _ _ O17.h2 f13.1, b18 _ _ O17.h3 f14.1, b18 _ _ O17.h4 f15.1⟩
        have D18 := b18 _ _ D17 fD.1
        clear b18 P18 s17 I17 O17 I16 l12 l13 l14 l15 I hy
        refine ⟨_, rfl, D, rfl, ⟨_, SqL.of D18⟩, ?_⟩
        refine for_it (walk_list (xs := us)) (fun j σ Hc => ∃ (x11 : Option V) (N : Nat), σ = [some (.ref a), some (.ref p), some (.int (0 + (i : Int))), some (.ref q), some (.ref x), some (.ref va), some (.str u), x7, x8, x9, some (.ref D), x11] ∧ N ≤ 1000 * i + 900 ∧ InH tbT CN p cs q va ea x vs es rt N Hc ∧ Odd4 p12 p13 p14 p15 z0 Hc ∧ Hc D = some (.lst us))
          ⟨_, _, rfl, ?_, I18, O18, D18⟩ ?_ ?_ ?_
        · omega
        · rintro j σ Hc hj ⟨x11, N, rfl, hN, I, O, hD⟩
          exact SqL.of hD
        · rintro j v σ Hc Hc' hj ⟨x11, N, rfl, hN, I60, O60, D60⟩ ⟨rfl, hx⟩
          have hv := List.mem_of_getElem? hx
          have nv : ¬ IsIn v vs := (m17 v hv).2
          refine ⟨I60.tb, fun H60a e60a T60a => ?_⟩
          intro Q60 E60 kU
          have I60a := I60.ext e60a T60a
          have O60a := O60.ext e60a
          have D60a := e60a _ _ D60 (fun ps z => nomatch z)
          obtain ⟨dx, fs, pa, ad, nbr, wt, A5, l1, l2, go, an, hE⟩ := I60a.narg NK (by omega)
          have av := (O60a.ok (K := K) nmz v (m17 v hv).1).choose_spec.2.2
          have au : AnyV K H60a (.str u) := .inl ⟨u, rfl, name_len (I60a.net.ok.nm u hu')⟩
          refine ⟨_, rfl, x, dx, fs, rfl, A5.g.ins, l1, _, rfl, _, rfl, x, dx, fs, pa, rt, vs, ad, nbr, wt, v, .str u, rfl, A5, av, au, fun _ d H60b s60b nd60b hd60b => kU d v H60b hd60b fun t H60c s60c nt ht => ?_, fun yes => absurd yes nv, fun u2 _ e1 _ hu2 _ => absurd ⟨u2, hu2, e1⟩ nv⟩
          have I60d := (I60a.same s60b).same s60c
          have O60d := (O60a.same s60b).same s60c
          have D60d := s60c _ _ (s60b _ _ D60a)
          obtain ⟨d2, hd2, fd2, _⟩ := O60d.ok (K := K) nmz v (m17 v hv).1
          obtain ⟨z1, z2, z3⟩ := (tell_one fd2).ok (by decide)
          refine ⟨.ref t, .tuple [d2], rfl, .tup (.inl (.inl ht)) (.cons hd2 .nil), z1, z2, z3, ?_⟩
          refine ⟨_, rfl, sz 1 (by decide), fun p60e n60e => ?_⟩
          generalize gg60e : upd _ p60e _ = G60e; obtain ⟨s60e, L60e⟩ := new_eq n60e gg60e; clear gg60e
          refine ⟨_, .tuple [d2], rfl, .tup (.inl (.inl L60e)) (.cons (WkG.Dx.same s60e hd2) .nil), z1, z2, z3, rfl, _, rfl, ?_⟩
          refine ite2 (fun h => absurd h (by simp)) (fun _ => ?_)
          have I61 := I60d.same s60e
          have O61 := O60d.same s60e
          have D61 := s60e _ _ D60d
          clear z1 z2 z3 ht nt
          clear hd2 fd2
          refine ⟨I61.tb, fun H61a e61a T61a => ?_⟩
          intro Q61 E61 kU
          have I61a := I61.ext e61a T61a
          have O61a := O61.ext e61a
          have D61a := e61a _ _ D61 (fun ps z => nomatch z)
          obtain ⟨dx, fs, pa, ad, nbr, wt, A5, l1, l2, go, an, hE⟩ := I61a.narg NK (by omega)
          have av := (O61a.ok (K := K) nmz v (m17 v hv).1).choose_spec.2.2
          have au : AnyV K H61a (.str u) := .inl ⟨u, rfl, name_len (I61a.net.ok.nm u hu')⟩
          refine ⟨_, rfl, x, dx, fs, rfl, A5.g.ins, l1, _, rfl, _, rfl, x, dx, fs, pa, rt, vs, ad, nbr, wt, .str u, v, rfl, A5, au, av, fun no => absurd ⟨u, hu', rfl⟩ no, fun _ _ d H61b s61b nd61b hd61b => kU d v H61b hd61b fun t H61c s61c nt ht => ?_, fun _ w2 _ e2 _ hw2 => absurd ⟨w2, hw2, e2⟩ nv⟩
          have I61d := (I61a.same s61b).same s61c
          have O61d := (O61a.same s61b).same s61c
          have D61d := s61c _ _ (s61b _ _ D61a)
          obtain ⟨d2, hd2, fd2, _⟩ := O61d.ok (K := K) nmz v (m17 v hv).1
          obtain ⟨z1, z2, z3⟩ := (tell_one fd2).ok (by decide)
          refine ⟨.ref t, .tuple [d2], rfl, .tup (.inl (.inl ht)) (.cons hd2 .nil), z1, z2, z3, ?_⟩
          refine ⟨_, rfl, sz 1 (by decide), fun p61e n61e => ?_⟩
          generalize gg61e : upd _ p61e _ = G61e; obtain ⟨s61e, L61e⟩ := new_eq n61e gg61e; clear gg61e
          refine ⟨_, .tuple [d2], rfl, .tup (.inl (.inl L61e)) (.cons (WkG.Dx.same s61e hd2) .nil), z1, z2, z3, rfl, _, rfl, ?_⟩
          refine ite2 (fun h => absurd h (by simp)) (fun _ => ?_)
          have I62 := I61d.same s61e
          have O62 := O61d.same s61e
          have D62 := s61e _ _ D61d
          clear z1 z2 z3 ht nt
          clear hd2 fd2
          refine ⟨I62.tb, fun H62a e62a T62a => ?_⟩
          intro Q62 E62 kU
          have I62a := I62.ext e62a T62a
          have O62a := O62.ext e62a
          have D62a := e62a _ _ D62 (fun ps z => nomatch z)
          obtain ⟨dx, fs, pa, ad, nbr, wt, A5, l1, l2, go, an, hE⟩ := I62a.narg NK (by omega)
          have av := (O62a.ok (K := K) nmz v (m17 v hv).1).choose_spec.2.2
          refine ⟨_, rfl, x, dx, fs, rfl, A5.g.ins, l2, _, rfl, x, dx, fs, pa, rt, vs, ad, nbr, wt, v, rfl, A5, av, fun _ d H62b s62b nd62b hd62b => ⟨rfl, kU d v H62b hd62b fun t H62c s62c nt ht => ?_⟩, fun u2 e2 hu2 => absurd ⟨u2, hu2, e2⟩ nv⟩
          have I62d := (I62a.same s62b).same s62c
          have O62d := (O62a.same s62b).same s62c
          have D62d := s62c _ _ (s62b _ _ D62a)
          obtain ⟨d2, hd2, fd2, _⟩ := O62d.ok (K := K) nmz v (m17 v hv).1
          obtain ⟨z1, z2, z3⟩ := (tell_one fd2).ok (by decide)
          refine ⟨.ref t, .tuple [d2], rfl, .tup (.inl (.inl ht)) (.cons hd2 .nil), z1, z2, z3, ?_⟩
          refine ⟨_, rfl, sz 1 (by decide), fun p62e n62e => ?_⟩
          generalize gg62e : upd _ p62e _ = G62e; obtain ⟨s62e, L62e⟩ := new_eq n62e gg62e; clear gg62e
          refine ⟨_, .tuple [d2], rfl, .tup (.inl (.inl L62e)) (.cons (WkG.Dx.same s62e hd2) .nil), z1, z2, z3, rfl, _, rfl, ?_⟩
          refine ite2 (fun h => absurd h (by simp)) (fun _ => ?_)
          have I63 := I62d.same s62e
          have O63 := O62d.same s62e
          have D63 := s62e _ _ D62d
          clear z1 z2 z3 ht nt
          clear hd2 fd2
          obtain ⟨dx, fs, pa, ad, nbr, wt, A5, l1, l2, go, an, hE⟩ := I63.narg NK (by omega)
          have av := (O63.ok (K := K) nmz v (m17 v hv).1).choose_spec.2.2
          refine ⟨0, rfl, fun p64 n64 => ?_⟩
          generalize gg64 : upd _ p64 _ = G64; obtain ⟨s64, L64⟩ := new_eq n64 gg64; clear gg64
          have A64 := A5.same s64
          refine ⟨_, rfl, x, dx, fs, rfl, A64.g.ins, l2, _, rfl, ⟨x, dx, fs, pa, rt, vs, ad, nbr, wt, v, rfl, A64, anyv_s av s64, fun _ _ _ _ _ _ => trivial, fun _ _ _ _ _ _ _ => trivial⟩, fun p65 n65 => ?_⟩
          generalize gg65 : upd _ p65 _ = G65; obtain ⟨s65, L65⟩ := new_eq n65 gg65; clear gg65
          refine ⟨p64, p65, rfl, s65 _ _ L64, L65, fun p66 n66 => ?_⟩
          generalize gg66 : upd _ p66 _ = G66; obtain ⟨s66, L66⟩ := new_eq n66 gg66; clear gg66
          refine ⟨sz 0 (by decide), fun p67 n67 => ?_⟩
          generalize gg67 : upd _ p67 _ = G67; obtain ⟨s67, L67⟩ := new_eq n67 gg67; clear gg67
          refine ⟨p66, p67, [], rfl, rfl, SqL.of (s67 _ _ L66), SqL.of L67, _, rfl, ?_⟩
          refine ite2 (fun h => nomatch h) (fun _ => ?_)
          have s6z := ((s64.trans s65).trans s66).trans s67
          exact ⟨_, N, rfl, hN, I63.same s6z, O63.same s6z, s6z _ _ D63⟩
        · rintro σ Hc ⟨x11, N, rfl, hN, I70, O70, D70⟩
          have nz9 : ¬ IsIn (.str "zz9") vs := fun ⟨z, hz, e⟩ => by
            have := I70.net.ok.nm z hz
            rw [← V.str.inj e] at this
            exact absurd this (by decide +kernel)
          refine ⟨I70.tb, fun H70a e70a T70a => ?_⟩
          intro Q70 E70 kU
          have I70a := I70.ext e70a T70a
          obtain ⟨dx, fs, pa, ad, nbr, wt, A5, l1, l2, go, an, hE⟩ := I70a.narg NK (by omega)
          refine ⟨_, rfl, x, dx, fs, rfl, A5.g.ins, l1, x, dx, fs, pa, rt, vs, ad, nbr, wt, .str "zz9", .non, rfl, A5, .inl ⟨_, rfl, by decide⟩,   .inr ⟨(fun _ e => nomatch e), _, .base .non, nstr (by simp)⟩, fun _ d H70b s70b nd70b hd70b => kU d (.str "zz9") H70b hd70b fun t H70c s70c nt ht => ?_, fun yes => absurd yes nz9, fun u2 _ e1 _ hu2 _ => absurd ⟨u2, hu2, e1⟩ nz9⟩
          have I70d := (I70a.same s70b).same s70c
          have fz : WkG.FitsD (.str "zz9") 1000 3 := ⟨⟨by decide +kernel, by decide +kernel, by decide +kernel, by decide +kernel⟩, by decide +kernel⟩
          obtain ⟨z1, z2, z3⟩ := (tell_one fz).ok (by decide)
          refine ⟨.ref t, .tuple [.str "zz9"], rfl, .tup (.inl (.inl ht)) (.cons (.str _) .nil), z1, z2, z3, ?_⟩
          refine ⟨sz 1 (by decide), fun p71 n71 => ?_⟩
          generalize gg71 : upd _ p71 _ = G71; obtain ⟨s71, L71⟩ := new_eq n71 gg71; clear gg71
          refine ⟨_, .tuple [.str "zz9"], rfl, .tup (.inl (.inl L71)) (.cons (.str _) .nil), z1, z2, z3, rfl, _, rfl, ?_⟩
          refine ite2 (fun h => absurd h (by simp)) (fun _ => ?_)
          have I71 := I70d.same s71
          exact ⟨_, _, _, _, _, _, _, _, _, _, rfl, I71.pen.mono (by omega), I71.tb⟩
    · rintro σ Hc ⟨x2, x3, x4, x5, x6, x7, x8, x9, x10, x11, rfl, P0, T0⟩
      exact k Hc
end
end Wk
namespace Wk
open PySem PySem.Spec PyProof.Rows L2 WkD WkN LamX WkP WkE WkC
section
variable {K : PySem.W.Frag} {h : Heap} {mg : Str → Option Value}
theorem def_of {x : Str} {d : WkJ.DefA} (X : K.In h) (G : h.Ns mainGlobals mg) (c : WkJ.Says fa da tf ex h K) (hd : d ∈ da) (hc : d.clo = []) (hg : He.Fa.glo x ∈ fa) (st : Stmt) (e : d = ⟨fun K => He.ga K x, x, x, defArgs st, defBody st, defScope st, [], [], []⟩) : Def K mg x st := by
  obtain ⟨fd, F⟩ := c.defs d hd
  have F := F.funD hc
  subst e
  exact ⟨_, fd, F, He.glo_ok X G (c.fact _ hg)⟩
theorem bi_of (X : K.In h) (G : h.Ns mainGlobals mg) (c : WkJ.Says fa da tf ex h K) : Bi mg :=
  ⟨He.free_ok X G (c.fact (.free "abs") (by simp [fa, fa2])), He.free_ok X G (c.fact (.free "all") (by simp [fa, fa2])), He.free_ok X G (c.fact (.free "any") (by simp [fa, fa2])), He.free_ok X G (c.fact (.free "bool") (by simp [fa, fa2])), He.free_ok X G (c.fact (.free "dict") (by simp [fa, fa2])), He.free_ok X G (c.fact (.free "enumerate") (by simp [fa, fa2])), He.free_ok X G (c.fact (.free "int") (by simp [fa, fa2])), He.free_ok X G (c.fact (.free "isinstance") (by simp [fa, fa2])), He.free_ok X G (c.fact (.free "len") (by simp [fa, fa2])), He.free_ok X G (c.fact (.free "list") (by simp [fa, fa2])), He.free_ok X G (c.fact (.free "max") (by simp [fa, fa2])), He.free_ok X G (c.fact (.free "min") (by simp [fa, fa2])), He.free_ok X G (c.fact (.free "range") (by simp [fa, fa2])), He.free_ok X G (c.fact (.free "repr") (by simp [fa, fa2])), He.free_ok X G (c.fact (.free "set") (by simp [fa, fa2])), He.free_ok X G (c.fact (.free "sorted") (by simp [fa, fa2])), He.free_ok X G (c.fact (.free "str") (by simp [fa, fa2])), He.free_ok X G (c.fact (.free "sum") (by simp [fa, fa2])), He.free_ok X G (c.fact (.free "tuple") (by simp [fa, fa2])), He.free_ok X G (c.fact (.free "zip") (by simp [fa, fa2])), He.free_ok X G (c.fact (.free "reversed") (by simp [fa, fa2])), He.free_ok X G (c.fact (.free "super") (by simp [fa, fa2])), He.free_ok X G (c.fact (.free "ValueError") (by simp [fa, fa2])), He.free_ok X G (c.fact (.free "LookupError") (by simp [fa, fa2])), He.free_ok X G (c.fact (.free "KeyError") (by simp [fa, fa2])), He.free_ok X G (c.fact (.free "IndexError") (by simp [fa, fa2])), He.free_ok X G (c.fact (.free "ArithmeticError") (by simp [fa, fa2])), He.free_ok X G (c.fact (.free "OverflowError") (by simp [fa, fa2])), He.free_ok X G (c.fact (.free "ZeroDivisionError") (by simp [fa, fa2])), He.free_ok X G (c.fact (.free "RuntimeError") (by simp [fa, fa2])), He.free_ok X G (c.fact (.free "TypeError") (by simp [fa, fa2]))⟩
theorem facts {w : World} {f : Addr} (X : K.In h) (G : h.Ns mainGlobals mg) (hfa : mg ("law" : Str) = some (.ref f)) (c : WkJ.Says fa da tf ex h K) : WkH.LawT PySem.Challenge.rw_weakcuts_k04_weights_and_neighbours w K CX0 10 63 "_law_script" mg f h := by
  have hx := c.ex
  obtain ⟨x_sm, hx⟩ := He.ba hx
  obtain ⟨x_cv, hx⟩ := He.ba hx
  obtain ⟨x_cw, hx⟩ := He.ba hx
  obtain ⟨x_mro, hx⟩ := He.ba hx
  obtain ⟨x_sup, hx⟩ := He.ba hx
  obtain ⟨x_fni, hx⟩ := He.ba hx
  obtain ⟨x_ifi, hx⟩ := He.ba hx
  obtain ⟨x_spb, hx⟩ := He.ba hx
  obtain ⟨x_icl, hx⟩ := He.ba hx
  obtain ⟨x_thi, hx⟩ := He.ba hx
  obtain ⟨x_gv, hx⟩ := He.ba hx
  obtain ⟨x_gw, hx⟩ := He.ba hx
  obtain ⟨x_mck, hx⟩ := He.ba hx
  obtain ⟨x_mac, hx⟩ := He.ba hx
  obtain ⟨x_mcv, hx⟩ := He.ba hx
  obtain ⟨x_msr, hx⟩ := He.ba hx
  obtain ⟨x_unk, hx⟩ := He.ba hx
  obtain ⟨x_two_0_1, hx⟩ := He.ba hx
  obtain ⟨x_m_weight, hx⟩ := He.ba hx
  obtain ⟨x_m_neighbours, hx⟩ := He.ba hx
  obtain ⟨x_u_uk, hx⟩ := He.ba hx
  obtain ⟨x_u_ue, hx⟩ := He.ba hx
  obtain ⟨x_u_uu, hx⟩ := He.ba hx
  obtain ⟨x_u_sp, hx⟩ := He.ba hx
  have B := bi_of X G c
  obtain ⟨tL, gL⟩ := He.str_ok X G (c.fact (.str "LETTERS" letS) (by simp [fa, fa3]))
  have gN := He.glo_ok X G (c.fact (.glo "Network") (by simp [fa, fa1]))
  have gG := He.glo_ok X G (c.fact (.glo "Graph") (by simp [fa, fa1]))
  have cls := He.cls_ok (c.fact (.cls "Network") (by simp [fa, fa3]))
  have nat : ∀ f, He.Fa.noat "Network" f ∈ fa → NoAttr K (He.ga K "Network") f := fun f hf => He.noat_ok (c.fact _ hf)
  have natG : ∀ f, He.Fa.noat "Graph" f ∈ fa → NoAttr K (He.ga K "Graph") f := fun f hf => He.noat_ok (c.fact _ hf)
  have gc : GCls K (He.ga K "Network") := ⟨cls, nat _ (by simp [fa, fa3]), nat _ (by simp [fa, fa3]), WkJ.conB_ok x_cv, WkJ.conB_ok x_cw⟩
  have gcG : GCls K (He.ga K "Graph") := ⟨He.cls_ok (c.fact (.cls "Graph") (by simp [fa, fa3])), natG _ (by simp [fa, fa3]), natG _ (by simp [fa, fa3]), WkJ.conB_ok x_gv, WkJ.conB_ok x_gw⟩
  have nc : NCls K (He.ga K "Network") (He.ga K "Network") (He.ma K (He.ga K "Graph") "__init__") := ⟨gc, nat _ (by simp [fa, fa3]), nat _ (by simp [fa, fa3]), nat _ (by simp [fa, fa3]), nat _ (by simp [fa, fa3]), nat _ (by simp [fa, fa3]), of_decide_eq_true x_mro, He.eqO_ok x_sup⟩
  obtain ⟨fd, F⟩ := c.defs d_law04 (by simp [da])
  have F := F.funD rfl
  have e := hfa.symm.trans (He.glo_ok X G (c.fact (.glo "law") (by simp [fa, fa1])))
  cases e
  have b := FunD.bindsA (ps := ["_law_script"]) F fun _ _ _ _ _ _ us hl => match us, hl with | [_], _ => rfl
  obtain ⟨tb, etb⟩ : ∃ tb, tb = [((He.cT K (("last_two", none) : He.Defn)).2, ("last_two.<locals>.<lambda>" : Str)), ((He.cT K (("law", none) : He.Defn)).2, ("law.<locals>.<lambda>" : Str))] := ⟨_, rfl⟩
  refine ⟨fd, [He.cT K ("last_two", none), He.cT K ("law", none)], spLawT K tb, fun p hp => ?_, fun p hp => ?_, fun p hp => ?_, fun s v => b s [v] rfl, fun H a ms hl eT sq => ⟨a, ms, rfl, sq, hl, ?_, fun _ => rfl⟩, fun base kb nb TB => ?_⟩
  · simp only [List.mem_cons, List.not_mem_nil, or_false] at hp
    rcases hp with rfl | rfl
    · exact c.emp _ (by simp [tf])
    · exact c.emp _ (by simp [tf])
  · simp only [List.mem_cons, List.not_mem_nil, or_false] at hp
    rcases hp with rfl | rfl
    · exact c.out _ (by simp [tf])
    · exact c.out _ (by simp [tf])
  · simp only [List.mem_cons, List.not_mem_nil, or_false] at hp
    rcases hp with rfl | rfl
    · exact PySem.W.codeHd_of_K X (c.hd _ (by simp [tf]))
    · exact PySem.W.codeHd_of_K X (c.hd _ (by simp [tf]))
  · intro p hp
    rw [etb] at hp
    simp only [List.mem_cons, List.not_mem_nil, or_false] at hp
    rcases hp with rfl | rfl
    · exact TabS.nil (eT _ (by simp))
    · exact TabS.nil (eT _ (by simp))
  have C_draw := c_draw (P := (PySem.Challenge.rw_weakcuts_k04_weights_and_neighbours).prog) (w := w) (base := base) (def_of X G c (d := d_draw) (by simp [da]) rfl (by simp [fa, fa1]) _ rfl) B
  have C_pick := c_pick (def_of X G c (d := d_pick) (by simp [da]) rfl (by simp [fa, fa1]) _ rfl) B C_draw
  have C_name := c_is_name (P := (PySem.Challenge.rw_weakcuts_k04_weights_and_neighbours).prog) (w := w) (base := base) (def_of X G c (d := d_is_name) (by simp [da]) rfl (by simp [fa, fa1]) _ rfl) B gL
  have C_tup := c_is_tuple_of (P := (PySem.Challenge.rw_weakcuts_k04_weights_and_neighbours).prog) (w := w) (base := base) (def_of X G c (d := d_is_tuple_of) (by simp [da]) rfl (by simp [fa, fa1]) _ rfl) B
  have C_bet := c_is_between (P := (PySem.Challenge.rw_weakcuts_k04_weights_and_neighbours).prog) (w := w) (base := base) (def_of X G c (d := d_is_between) (by simp [da]) rfl (by simp [fa, fa1]) _ rfl) B
  have C_join := c_can_join (def_of X G c (d := d_can_join) (by simp [da]) rfl (by simp [fa, fa1]) _ rfl) C_name
  have C_last : Callee (PySem.Challenge.rw_weakcuts_k04_weights_and_neighbours).prog w K mg base CX0 3 "last_two" ["rows"] (spLast tb) := c_last_two (def_of X G c (d := d_last_two) (by simp [da]) rfl (by simp [fa, fa1]) _ rfl) B (TB _ List.mem_cons_self) (by rw [etb]; simp) (fun p hp hq => by
      rw [etb] at hp
      simp only [List.mem_cons, List.not_mem_nil, or_false] at hp
      rcases hp with rfl | rfl
      · rfl
      · exact absurd hq (Ne.symm (of_decide_eq_true x_two_0_1))) fun f hf => by
    have e := hf.symm.trans (He.glo_ok X G (c.fact (.glo "last_two") (by simp [fa, fa1])))
    cases e
    refine WkJ.codeIs_of (p := ("last_two", none)) fun oc od fd osl lk => ?_
    obtain ⟨fd', F'⟩ := c.defs d_last_two (by simp [da])
    obtain ⟨oc', od', dV, kV, doc, pm, an, cdv, ct, osl', cl, e1, _, lk', cd, _⟩ := F'.ex
    have lk2 : K.lookup (He.fAd K ("last_two", none)) = some ⟨oc', od', .func fd', osl'⟩ := lk'
    rw [lk2] at lk
    cases lk
    rw [e1]
    exact cd
  have C_merge := c_merge_rows (P := (PySem.Challenge.rw_weakcuts_k04_weights_and_neighbours).prog) (w := w) (base := base) (def_of X G c (d := d_merge_rows) (by simp [da]) rfl (by simp [fa, fa1]) _ rfl)
  have C_side := c_side_of (P := (PySem.Challenge.rw_weakcuts_k04_weights_and_neighbours).prog) (w := w) (base := base) (def_of X G c (d := d_side_of) (by simp [da]) rfl (by simp [fa, fa1]) _ rfl) B
  have C_least := c_least_cut (def_of X G c (d := d_least_cut) (by simp [da]) rfl (by simp [fa, fa1]) _ rfl) B C_last C_merge C_side
  have C_str := c_strength_of (def_of X G c (d := d_strength_of) (by simp [da]) rfl (by simp [fa, fa1]) _ rfl) C_least
  have C_sort := c_sorted_rows (P := (PySem.Challenge.rw_weakcuts_k04_weights_and_neighbours).prog) (w := w) (base := base) (def_of X G c (d := d_sorted_rows) (by simp [da]) rfl (by simp [fa, fa1]) _ rfl) B
  have C_rea := c_reached (P := (PySem.Challenge.rw_weakcuts_k04_weights_and_neighbours).prog) (w := w) (base := base) (def_of X G c (d := d_reached) (by simp [da]) rfl (by simp [fa, fa1]) _ rfl) B
  have C_con := c_check_connected (def_of X G c (d := d_check_connected) (by simp [da]) rfl (by simp [fa, fa1]) _ rfl) B C_rea
  obtain ⟨fdG, FG⟩ := c.defs d_graph_init (by simp [da])
  have FG := FG.funD rfl
  have OG := ok_graph_init FG B C_name C_tup C_join C_bet C_con C_sort
  obtain ⟨fdN, FN⟩ := c.defs d_net_init (by simp [da])
  obtain ⟨hbd, cc, cda, ST⟩ := WkJ.supT_of (P := (PySem.Challenge.rw_weakcuts_k04_weights_and_neighbours).prog) (mg := mg) (ps := ["self", "vertices", "edges"]) (D := He.ga K "Network") FN rfl x_spb x_icl B.n_super (by decide +kernel) ⟨_, rfl, rfl⟩ (He.eqO_ok x_thi)
  have ON := ok_net_init (tbT := tb) ST hbd OG (FunD.bindsN FG (fun _ _ _ _ _ _ us hl => match us, hl with | [_, _, _], _ => rfl)) x_fni x_ifi C_str
  obtain ⟨fdc, Fc⟩ := c.defs d_ck (by simp [da])
  obtain ⟨fda, Fa⟩ := c.defs d_accept (by simp [da])
  obtain ⟨fdk, Fk⟩ := c.defs d_check_vertex (by simp [da])
  obtain ⟨fds, Fs⟩ := c.defs d_set_root (by simp [da])
  obtain ⟨fdu, Fu⟩ := c.defs d_unk_init (by simp [da])
  have Fc := Fc.funD rfl
  have Fa := Fa.funD rfl
  have Fk := Fk.funD rfl
  have Fs := Fs.funD rfl
  have TU : WkX.ExcT K mg "UnknownVertex" "value" (He.ga K "UnknownVertex") (He.ma K (He.ga K "UnknownVertex") "__init__") := WkX.excT_mk (He.glo_ok X G (c.fact (.glo "UnknownVertex") (by simp [fa, fa1]))) x_unk PySem.F.excBase_LookupError WkX.tK WkX.pK WkX.oK WkX.f_value (WkJ.initA_of Fu rfl)
  have GM : MakeC (PySem.Challenge.rw_weakcuts_k04_weights_and_neighbours).prog w K mg base CX0 (He.ga K "Graph") "Graph" 3 (spGraph K) := ⟨_, _, _, He.mkr_ok (c.fact (.mkr "Graph") (by simp [fa, fa3])), OG, gG, FunD.bindsN FG (fun _ _ _ _ _ _ us hl => match us, hl with | [_, _, _], _ => rfl)⟩
  have C_gof := c_graph_of (def_of X G c (d := d_graph_of) (by simp [da]) rfl (by simp [fa, fa1]) _ rfl) B gcG GM
  have AK : AccC (PySem.Challenge.rw_weakcuts_k04_weights_and_neighbours).prog w K mg base (He.ga K "Network") := ⟨nc.f, ⟨_, _, _, WkJ.methB_ok x_mck, ok_ck Fc, FunD.bindsN Fc (fun _ _ _ _ _ _ us hl => match us, hl with | [_, _], _ => rfl)⟩⟩
  have MA : MethC (PySem.Challenge.rw_weakcuts_k04_weights_and_neighbours).prog w K mg base CX0 (He.ga K "Network") "accept" 6 (spAccept K tb (He.ga K "Network")) := ⟨_, _, _, WkJ.methB_ok x_mac, ok_accept Fa gcG AK C_gof C_str, FunD.bindsN Fa (fun _ _ _ _ _ _ us hl => match us, hl with | [_, _, _, _], _ => rfl)⟩
  have MV : MethC (PySem.Challenge.rw_weakcuts_k04_weights_and_neighbours).prog w K mg base (CX (PySem.Challenge.rw_weakcuts_k04_weights_and_neighbours).prog w) (He.ga K "Network") "check_vertex" 2 (spCheck K (He.ga K "UnknownVertex")) := ⟨_, _, _, WkJ.methB_ok x_mcv, ok_check_vertex Fk TU C_name, FunD.bindsN Fk (fun _ _ _ _ _ _ us hl => match us, hl with | [_, _], _ => rfl)⟩
  have MS : MethC (PySem.Challenge.rw_weakcuts_k04_weights_and_neighbours).prog w K mg base (CX (PySem.Challenge.rw_weakcuts_k04_weights_and_neighbours).prog w) (He.ga K "Network") "set_root" 7 (spSetRoot K tb (He.ga K "Network") (He.ga K "UnknownVertex")) := ⟨_, _, _, WkJ.methB_ok x_msr, ok_set_root Fs AK MV MA, FunD.bindsN Fs (fun _ _ _ _ _ _ us hl => match us, hl with | [_, _], _ => rfl)⟩
  have MN : MakeC (PySem.Challenge.rw_weakcuts_k04_weights_and_neighbours).prog w K mg base CX0 (He.ga K "Network") "Network" 6 (spNet K tb (He.ga K "Network") (He.ma K (He.ga K "Graph") "__init__")) := ⟨_, _, _, He.mkr_ok (c.fact (.mkr "Network") (by simp [fa, fa3])), ON, gN, FN.binds rfl (fun _ _ _ _ _ _ _ us hl => match us, hl with | [_, _, _], _ => rfl)⟩
  have C_names := c_lnames (def_of X G c (d := d_lnames) (by simp [da]) rfl (by simp [fa, fa1]) _ rfl) B C_draw C_pick
  have C_wts := c_weights (def_of X G c (d := d_weights) (by simp [da]) rfl (by simp [fa, fa1]) _ rfl) C_draw
  have C_le := c_ledges (P := (PySem.Challenge.rw_weakcuts_k04_weights_and_neighbours).prog) (w := w) (base := base) (def_of X G c (d := d_ledges) (by simp [da]) rfl (by simp [fa, fa1]) _ rfl) B
  have C_net := c_network (def_of X G c (d := d_network) (by simp [da]) rfl (by simp [fa, fa1]) _ rfl) B C_draw C_pick C_names C_wts
  have C_made := c_made (def_of X G c (d := d_made) (by simp [da]) rfl (by simp [fa, fa1]) _ rfl) B C_le nc MN MS
  have EK : UnkK K mg (He.ga K "UnknownVertex") (He.ga K "UnknownEdge") (He.ga K "OutOfRange") _ := ⟨He.glo_ok X G (c.fact (.glo "UnknownVertex") (by simp [fa, fa1])), He.glo_ok X G (c.fact (.glo "UnknownEdge") (by simp [fa, fa1])), He.glo_ok X G (c.fact (.glo "OutOfRange") (by simp [fa, fa1])), TU, of_decide_eq_true x_u_uk, of_decide_eq_true x_u_ue, of_decide_eq_true x_u_uu, of_decide_eq_true x_u_sp⟩
  obtain ⟨fdw, Fw⟩ := c.defs d_g_weight (by simp [da])
  obtain ⟨fdb, Fb⟩ := c.defs d_neighbours (by simp [da])
  have Fw := Fw.funD rfl
  have Fb := Fb.funD rfl
  have MW : MethC (PySem.Challenge.rw_weakcuts_k04_weights_and_neighbours).prog w K mg base (CX (PySem.Challenge.rw_weakcuts_k04_weights_and_neighbours).prog w) (He.ga K "Network") "weight" 3 (spGW K (He.ga K "Network") (He.ga K "UnknownVertex")) := ⟨_, _, _, WkJ.methB_ok x_m_weight, ok_g_weight Fw nc.f MV, FunD.bindsN Fw (fun _ _ _ _ _ _ us hl => match us, hl with | [_, _, _], _ => rfl)⟩
  have hC : WkL.CodeIs K (He.ga K "law") (He.cT K ("law", none)).1 := WkJ.codeIs_of (p := ("law", none)) fun oc od fd osl lk => by
    obtain ⟨fd', F'⟩ := c.defs d_law04 (by simp [da])
    obtain ⟨oc', od', dV, kV, doc, pm, an, cdv, ct, osl', cl, e1, _, lk', cd, _⟩ := F'.ex
    have lk2 : K.lookup (He.fAd K ("law", none)) = some ⟨oc', od', .func fd', osl'⟩ := lk'
    rw [lk2] at lk
    cases lk
    rw [e1]
    exact cd
  exact ok_law F hC B (WkG.smB_ok x_sm) nc.f EK (TB _ (by simp)) (by rw [etb]; simp) (fun p hp hq => by
    rw [etb] at hp
    simp only [List.mem_cons, List.not_mem_nil, or_false] at hp
    rcases hp with rfl | rfl
    · exact absurd hq (of_decide_eq_true x_two_0_1)
    · rfl) (def_of X G c (d := d_lunk) (by simp [da]) rfl (by simp [fa, fa1]) _ rfl) (c_pen (def_of X G c (d := d_pen) (by simp [da]) rfl (by simp [fa, fa1]) _ rfl) B) C_pick C_net C_made MW (WkJ.methB_ok x_m_neighbours) (FunD.bindsN Fb (fun _ _ _ _ _ _ us hl => match us, hl with | [_, _], _ => rfl)) (ok_neighbours Fb B nc.f MV)
end
end Wk
open PySem PySem.W PySem.Calls PyProof.Rows
set_option maxHeartbeats 0 in
theorem PySem.Challenge.cw_weakcuts_k04_weights_and_neighbours_holds : PySem.Challenge.rw_weakcuts_k04_weights_and_neighbours.Holds := by
  w_on; o_law
  refine HandSHeadRun.head_any (r := OpenLaw.row PySem.Challenge.rw_weakcuts_k04_weights_and_neighbours) (q := view (OpenLaw.row PySem.Challenge.rw_weakcuts_k04_weights_and_neighbours).prog [43]) (H := Wk.hk) (ob := Wk.ob) (M := 20000) (loose := Wk.loose) (d := HandSHeadRun.topDef (OpenLaw.row PySem.Challenge.rw_weakcuts_k04_weights_and_neighbours).prog 43) (kwd := []) Wk.ob_eq
    (by kernel_rfl) (fun s => by kernel_rfl) Wk.run (by kernel_rfl) (by kernel_rfl) (by kernel_rfl) (by rfl) (by first | assumption | decide +kernel) (by decide +kernel) ⟨rfl, rfl, rfl, rfl, rfl, by decide +kernel⟩ ?hw ?hc
  case hw => w_witness2
  case hc =>
    refine WkH.walk_GT (l := PySem.Challenge.rw_weakcuts_k04_weights_and_neighbours) (n := 63) (k := 10) (x := "_law_script") (CX := fun _ => L2.CX0) rfl (by decide) (by kernel_rfl) ⟨rfl, by decide, by decide⟩ ?F (fun _ _ _ _ _ z => z)
    intro w mg fa h Y G hmg0
    obtain ⟨K, KX, c⟩ := Y
    have hmg : mg ("law" : PySem.Str) = some (.ref fa) := by
      have e : (HandSHeadRun.topDef (OpenLaw.row PySem.Challenge.rw_weakcuts_k04_weights_and_neighbours).prog 43).name = ("law" : PySem.Str) := by kernel_rfl
      rw [← e]
      exact hmg0
    exact ⟨K, KX, Wk.facts (w := w) KX G hmg c⟩
