import PyProof.Rows.All
import Wide.All
import OpenK.AllK
import Wide.FinOn
import HandS.ForMost
import HandS.Defaults
import PyProof.DictUpdate
import HandS.Walk
import HandS.DictComp
import HandS.More
import HandS.TupSets
import KE.KMinKey
import KE.KWithOwn
import HandS.Property
import HandS.Small
import PyProof.ReprRoads
import PyProof.ReprLen
import HandS.HeadHook1
import HandS.HeadHook2
import HandS.HeadHook3
import HandS.HeadHook4
import HandS.IsInst
import HandS.Lambda
import KE.SortData
import HandS.Conv
import HandS.Codes
import HandS.EndTab
import KE.KSuper
import HandS.Exc
import HandS.SortKw
import HandS.Head0
import HandS.Head1
import HandS.Head2
import KE.KStateDown
import Lean
import KE.KExcIs
import HandS.ExcInit
import HandS.ExcOwn
import HandS.ExcValue
import HandS.ClsMeth
import PyProof.ExcBaseAll.ValueError
import PyProof.ExcBaseAll.RuntimeError
import PyProof.ExcBaseAll.LookupError
import PyProof.ExcBaseAll.IndexError
import HandS.Style
import HandS.Flow
import HandS.TryOnly
import HandS.Star
import HandS.GenList
import HandS.DictEq
import HandS.ListEq
import HandS.ExcField
import KE.KTryMore
import HandS.HotCalls
import HandS.Finally
import HandS.Deep
import HandS.GenBody
import HandS.GenYield
import HandS.ListItems
import KE.LtSeq
import KE.LtData
import KE.SortCalls
import KE.SortLaws
import KE.DataMinKey
import HandS.Text
import HandS.Sort
import KE.KDictWalk
import KE.KDictCopyH
import HandS.Comp
import PySem.Challenge.RW_weakcuts_k98_whole_long_and_deep_trials
set_option Elab.async false
set_option linter.all false
set_option maxRecDepth 100000
set_option maxHeartbeats 4000000
namespace Wk
open PySem PySem.Spec PyProof.Rows L2
def topS (i : Nat) : Stmt := PySem.Challenge.pw_weakcuts_k98_whole_long_and_deep_trials.main.body.getD i (.Pass ⟨0, 0, 0, 0⟩)
abbrev s_InvalidEdge_init : Stmt := inClass (topS 3) 0
abbrev s_Disconnected_init : Stmt := inClass (topS 4) 0
abbrev s_TooWeak_init : Stmt := inClass (topS 5) 0
abbrev s_UnknownVertex_init : Stmt := inClass (topS 6) 0
abbrev s_is_between : Stmt := topS 9
abbrev s_is_name : Stmt := topS 10
abbrev s_is_tuple_of : Stmt := topS 11
abbrev s_side_of : Stmt := topS 13
abbrev s_last_two : Stmt := topS 14
abbrev s_merge_rows : Stmt := topS 15
abbrev s_least_cut : Stmt := topS 16
abbrev s_strength_of : Stmt := topS 17
abbrev s_Graph_init : Stmt := inClass (topS 19) 2
abbrev s_Graph_weight : Stmt := inClass (topS 19) 7
abbrev s_Graph_check_vertex : Stmt := inClass (topS 19) 9
abbrev s_can_join : Stmt := topS 20
abbrev s_sorted_rows : Stmt := topS 21
abbrev s_reached : Stmt := topS 22
abbrev s_check_connected : Stmt := topS 23
abbrev s_copied_rows : Stmt := topS 26
abbrev s_rows_with_weight : Stmt := topS 27
abbrev s_Trial_init : Stmt := inClass (topS 30) 0
abbrev s_Trial_enter : Stmt := inClass (topS 30) 1
abbrev s_Trial_exit : Stmt := inClass (topS 30) 2
abbrev s_Network_init : Stmt := inClass (topS 32) 0
abbrev s_Network_strength : Stmt := inClass (topS 32) 7
abbrev s_Network_depth : Stmt := inClass (topS 32) 8
abbrev s_Network_check_strength : Stmt := inClass (topS 32) 11
abbrev s_Network_accept : Stmt := inClass (topS 32) 12
abbrev s_Network_set_weight : Stmt := inClass (topS 32) 14
abbrev s_Network_history : Stmt := inClass (topS 32) 18
abbrev s_Network_attempt : Stmt := inClass (topS 32) 19
abbrev s_Network_explore : Stmt := inClass (topS 32) 20
abbrev s_graph_of : Stmt := topS 33
abbrev s_LoggedNetwork_log : Stmt := inClass (topS 35) 0
abbrev s_LoggedNetwork_accept : Stmt := inClass (topS 35) 1
abbrev s_L_pen : Stmt := topS 37
abbrev s_L_draw : Stmt := topS 38
abbrev s_L_pick : Stmt := topS 39
abbrev s_L_set : Stmt := topS 40
abbrev s_L_now : Stmt := topS 41
abbrev s_L_level_right : Stmt := topS 42
abbrev s_L_level : Stmt := topS 43
abbrev s_L_inside : Stmt := topS 44
abbrev s_law : Stmt := topS 45
abbrev FnP (K : PySem.W.Frag) (x qual : Str) (st : Stmt) (f : Addr) (fd : FuncData) : Prop := FunD K x qual (defArgs st) (defBody st) (defScope st) [] [] f fd
end Wk
namespace WkD
open PySem PySem.Spec PyProof.Rows L2
def tFz : List (Addr × HO) → (Hp → Prop) → Hp → Prop
  | [], P, H => P H
  | (d, u) :: r, P, H => H d = some u ∧ Mut (some u) ∧ ∀ od, tFz r P (upd H d (.frz od u))
section
variable {X : Cx} {pins : List (Addr × Obj)} {σ : L2.St} {s : Shared}
theorem inv_fz : ∀ {l : List (Addr × HO)} {H : Hp} {P : Hp → Prop}, Inv X pins σ H s → tFz l P H → ∃ H', Inv X pins σ H' s ∧ P H'
  | [], H, P, I, h => ⟨H, I, h⟩
  | (d, u) :: r, H, P, I, h => by
    obtain ⟨h1, h2, h3⟩ := h
    obtain ⟨od, I2⟩ := I.lock h1 h2
    exact inv_fz I2 (h3 od)
theorem tFz_intro : ∀ {l : List (Addr × HO)} {H : Hp} {P : Hp → Prop}, (∀ p ∈ l, H p.1 = some p.2 ∧ Mut (some p.2)) → (l.map (·.1)).Nodup → (∀ H', (∀ p ∈ l, ∃ od, H' p.1 = some (.frz od p.2)) → (∀ b, b ∉ l.map (·.1) → H' b = H b) → P H') → tFz l P H
  | [], H, P, _, _, k => k H (fun p hp => absurd hp (by simp)) fun b _ => rfl
  | (d, u) :: r, H, P, h, nd, k => by
    obtain ⟨h1, h2⟩ := h (d, u) List.mem_cons_self
    rw [List.map_cons, List.nodup_cons] at nd
    refine ⟨h1, h2, fun od => tFz_intro (fun p hp => ?_) nd.2 fun H' q1 q2 => k H' (fun p hp => ?_) fun b hb => ?_⟩
    · have hne : p.1 ≠ d := fun e => nd.1 (List.mem_map.mpr ⟨p, hp, e⟩)
      obtain ⟨g1, g2⟩ := h p (List.mem_cons_of_mem _ hp)
      exact ⟨by rw [upd_ne hne]; exact g1, g2⟩
    · rcases List.mem_cons.mp hp with rfl | hp
      · exact ⟨od, by rw [q2 _ nd.1]; exact upd_same⟩
      · exact q1 p hp
    · rw [List.map_cons, List.mem_cons, not_or] at hb
      rw [q2 b hb.2, upd_ne hb.1]
theorem ps_fz {st : Stmt} {t : TS} (h : PS X st t) : PS X st (fun D σ H => t ⟨fun σ' H' => ∃ l, tFz l (D.nx σ') H', fun v H' => ∃ l, tFz l (D.rt v) H', fun σ' H' => ∃ l, tFz l (D.bk σ') H', fun σ' H' => ∃ l, tFz l (D.ct σ') H'⟩ σ H) := by
  refine ⟨fun pins s σ H D I q => thn (h.run pins s σ H _ I q) fun f s' hf => ?_⟩
  cases f with
  | next =>
    obtain ⟨σ', H', J, l, z⟩ := hf
    obtain ⟨H2, J2, z2⟩ := inv_fz J z
    exact ⟨σ', H2, J2, z2⟩
  | brk =>
    obtain ⟨σ', H', J, l, z⟩ := hf
    obtain ⟨H2, J2, z2⟩ := inv_fz J z
    exact ⟨σ', H2, J2, z2⟩
  | cont =>
    obtain ⟨σ', H', J, l, z⟩ := hf
    obtain ⟨H2, J2, z2⟩ := inv_fz J z
    exact ⟨σ', H2, J2, z2⟩
  | ret u =>
    obtain ⟨v, σ', H', J, r, l, z⟩ := hf
    obtain ⟨H2, J2, z2⟩ := inv_fz J z
    exact ⟨v, σ', H2, J2, r, z2⟩
theorem ps_fz0 {st : Stmt} {t : TS} (h : PS X st t) : PS X st (fun D σ H => ∃ l, tFz l (t D σ) H) := by
  refine ⟨fun pins s σ H D I q => ?_⟩
  obtain ⟨l, z⟩ := q
  obtain ⟨H2, J2, z2⟩ := inv_fz I z
  exact h.run pins s σ H2 D J2 z2
end
section
variable {J : It} {n : Nat} {G : Hp → Prop} {Y : Nat → Hp → V → Hp → Prop}
theorem dc_it (w : Walk J n G Y) {g : TG} {tt : TT} {tk tv : TE} {vs : List Nat} {σ : L2.St} {H1 : Hp} {D : Addr} {Qd : Hp → Prop} (Pv : Nat → Hp → Prop) (h0 : Pv 0 (upd H1 D (.dK []))) (hG : ∀ i H, i ≤ n → Pv i H → G H)
    (hs : ∀ i x H H', i < n → Pv i H → Y i H x H' → g x (wipe σ vs) H' fun σ2 H2 => wipe σ2 vs = wipe σ vs ∧ tt σ2 H2 fun b H3 =>
      if b = true then tk σ2 H3 fun y H4 => tv σ2 H4 fun z H5 => ∃ kvs k, y = kV k ∧ H5 D = some (.dK kvs) ∧ kvs.length < sizeLine ∧ Pv (i + 1) (upd H5 D (.dK (putK kvs k z))) else Pv (i + 1) H3) (hd : ∀ H, Pv n H → Qd H) :
    ∃ W : Nat → Nat → Hp → Prop, (∃ m, W 0 m (upd H1 D (.dK []))) ∧ ∀ i m H, W i m H →
      (J.stop i H ∧ Qd H) ∨ (J.go i H ∧ ∃ Nx : Hp → Prop, (∀ H', Nx H' → ∃ m', m' < m ∧ W (i + 1) m' H') ∧ ∀ x H', J.yld i H x H' → g x (wipe σ vs) H' fun σ2 H2 => wipe σ2 vs = wipe σ vs ∧ tt σ2 H2 fun b H3 =>
        if b = true then tk σ2 H3 fun y H4 => tv σ2 H4 fun z H5 => ∃ kvs k, y = kV k ∧ H5 D = some (.dK kvs) ∧ kvs.length < sizeLine ∧ Nx (upd H5 D (.dK (putK kvs k z))) else Nx H3) := by
  refine ⟨fun i m H => m = n - i ∧ i ≤ n ∧ Pv i H, ⟨n, by omega, by omega, h0⟩, fun i m H z => ?_⟩
  obtain ⟨em, hi, p⟩ := z
  have q := hG i H hi p
  by_cases hlt : i < n
  · exact .inr ⟨w.goes i H hlt q, Pv (i + 1), fun H' p' => ⟨n - (i + 1), by omega, rfl, hlt, p'⟩, fun x H' y => hs i x H H' hlt p (w.yields i H x H' hlt q y)⟩
  · have e : i = n := by omega
    subst e
    exact .inl ⟨w.stops H q, hd H p⟩
theorem in_it (w : Walk J n G Y) {B : (Hp → Prop) → V → Hp → Prop} {H0 : Hp} {Qd : Hp → Prop} (Pv : Nat → Hp → Prop) (h0 : Pv 0 H0) (hG : ∀ i H, i ≤ n → Pv i H → G H) (hs : ∀ i x H H', i < n → Pv i H → Y i H x H' → B (Pv (i + 1)) x H') (hd : ∀ H, Pv n H → Qd H) :
    ∃ W : Nat → Nat → Hp → Prop, (∃ m, W 0 m H0) ∧ ∀ i m H, W i m H → (J.stop i H ∧ Qd H) ∨ (J.go i H ∧ ∃ Nx : Hp → Prop, (∀ H', Nx H' → ∃ m', m' < m ∧ W (i + 1) m' H') ∧ ∀ x H', J.yld i H x H' → B Nx x H') := by
  refine ⟨fun i m H => m = n - i ∧ i ≤ n ∧ Pv i H, ⟨n, by omega, by omega, h0⟩, fun i m H z => ?_⟩
  obtain ⟨em, hi, p⟩ := z
  have q := hG i H hi p
  by_cases hlt : i < n
  · exact .inr ⟨w.goes i H hlt q, Pv (i + 1), fun H' p' => ⟨n - (i + 1), by omega, rfl, hlt, p'⟩, fun x H' y => hs i x H H' hlt p (w.yields i H x H' hlt q y)⟩
  · have e : i = n := by omega
    subst e
    exact .inl ⟨w.stops H q, hd H p⟩
end
section
variable {X : Cx}
def rNeE : R2 := fun x y H Q => ∃ a b ks, x = .ref a ∧ y = .ref b ∧ Rd H a (.dK ks) ∧ H b = some (.dK []) ∧ Q (.bl (!ks.isEmpty)) H
theorem op_neE (hu : X.A.units < cLine) : OpR X (compareOp .NotEq) rNeE := by
  intro pins s σ H x y v u Q I rx ry h
  obtain ⟨a, b, ks, rfl, rfl, ea, eb, q⟩ := h
  obtain rfl : v = Value.ref a := rx
  obtain rfl : u = Value.ref b := ry
  obtain ⟨_, ya, va, ra, da⟩ := dk_rd I.hok ea
  obtain ⟨_, yb, vb, rb, db⟩ := dk_of I.hok eb
  cases rb
  refine PySem.W.keq_ne (knd := mixKind X.prog X.w) (r := true) ya yb da db hu (fun z => ?_) ?_
  · have e : va = [] := List.length_eq_zero_iff.mp z
    subst e
    exact .nil
  · refine ⟨.bl (!ks.isEmpty), H, I, ?_, q⟩
    cases ra with
    | nil => rfl
    | cons _ _ => rfl
end
end WkD
namespace WkD
open PySem PySem.Spec PyProof.Rows L2
def ltS (a b : Str) : Prop := a.cps.toList < b.cps.toList
instance (a b : Str) : Decidable (ltS a b) := inferInstanceAs (Decidable (a.cps.toList < b.cps.toList))
theorem ltS_irrefl (a : Str) : ¬ ltS a a := List.lt_irrefl _
theorem ltS_trans {a b c : Str} (h : ltS a b) (k : ltS b c) : ltS a c := List.lt_trans h k
theorem str_ext {a b : Str} (h : a.cps.toList = b.cps.toList) : a = b := by
  obtain ⟨a⟩ := a
  obtain ⟨b⟩ := b
  have e : a = b := Array.toList_inj.mp h
  rw [e]
theorem ltS_tri (a b : Str) : ltS a b ∨ a = b ∨ ltS b a := by
  by_cases h : ltS a b
  · exact .inl h
  · by_cases k : ltS b a
    · exact .inr (.inr k)
    · exact .inr (.inl (str_ext (List.le_antisymm (List.not_lt.mp k) (List.not_lt.mp h))))
theorem ltS_asymm {a b : Str} (h : ltS a b) : ¬ ltS b a := fun k => ltS_irrefl a (ltS_trans h k)
theorem ltS_of_not {a b : Str} (h : ¬ ltS b a) (n : a ≠ b) : ltS a b := by
  rcases ltS_tri a b with z | z | z
  · exact z
  · exact absurd z n
  · exact absurd z h
theorem rising_ok : ∀ {ys : List Str} {x : Str}, risingS x ys = true → (x :: ys).Pairwise fun a b => ¬ ltS b a
  | [], x, _ => by simp
  | y :: r, x, h => by
    have h : (!ltCps y.cps.toList x.cps.toList && risingS y r) = true := h
    rw [Bool.and_eq_true, Bool.not_eq_true', ltCps_eq, decide_eq_false_iff_not] at h
    have ih := rising_ok h.2
    refine List.pairwise_cons.mpr ⟨fun z hz => ?_, ih⟩
    rcases List.mem_cons.mp hz with rfl | hz
    · exact h.1
    · have k := (List.pairwise_cons.mp ih).1 z hz
      intro q
      rcases ltS_tri y z with e | e | e
      · exact h.1 (ltS_trans e q)
      · exact h.1 (e ▸ q)
      · exact k e
theorem sorted_ok {ys : List Str} (h : sortedS ys = true) : ys.Pairwise fun a b => ¬ ltS b a := by
  cases ys with
  | nil => exact List.Pairwise.nil
  | cons x r => exact rising_ok h
def Asc (ys : List Str) : Prop := ys.Pairwise ltS
theorem asc_of {ys : List Str} (h : sortedS ys = true) (nd : ys.Nodup) : Asc ys :=
  (List.Pairwise.and (sorted_ok h) nd).imp fun ⟨a, b⟩ => ltS_of_not a b
theorem asc_nodup {ys : List Str} (h : Asc ys) : ys.Nodup := List.Pairwise.imp (fun {a b} (q : ltS a b) (e : a = b) => ltS_irrefl a (by rw [← e] at q; exact q)) h
theorem cmp_ltS {prog : Program} {w : World} {A : Around} {P : Nat → Value → Prop} (val : Nat → Str) (hval : ∀ i v, P i v → ∃ t, v = .str (val i) t) : CmpOf prog w A .Lt P (fun i j => decide (ltS (val i) (val j))) := fun i j vi vj s Q E hi hj h => by
  obtain ⟨t, rfl⟩ := hval i vi hi
  obtain ⟨u, rfl⟩ := hval j vj hj
  exact richCompare_gives (op := .Lt) (typeIs_str s _ t) (typeIs_str s _ u) PySem.F.slot_str_lt PySem.F.entry_str_lt (PySem.F.args_str_lt_2 _ _) (gives_str_lt _ _ t u) (fun x => nomatch x) h
theorem best_ltS (val : Nat → Str) : ∀ k, argBest (fun i j => decide (ltS (val i) (val j))) k ≤ k ∧ ∀ j, j ≤ k → ¬ ltS (val j) (val (argBest (fun i j => decide (ltS (val i) (val j))) k))
  | 0 => ⟨Nat.le_refl _, fun j hj => by
      have e : j = 0 := by omega
      subst e
      exact ltS_irrefl _⟩
  | k + 1 => by
    obtain ⟨h1, h2⟩ := best_ltS val k
    show (if decide (ltS (val (k + 1)) (val (argBest _ k))) = true then k + 1 else argBest _ k) ≤ k + 1 ∧ ∀ j, j ≤ k + 1 → ¬ ltS (val j) (val (if decide (ltS (val (k + 1)) (val (argBest _ k))) = true then k + 1 else argBest _ k))
    by_cases hb : ltS (val (k + 1)) (val (argBest (fun i j => decide (ltS (val i) (val j))) k))
    · rw [if_pos (decide_eq_true hb)]
      refine ⟨Nat.le_refl _, fun j hj q => ?_⟩
      by_cases e : j = k + 1
      · subst e
        exact ltS_irrefl _ q
      · exact h2 j (by omega) (ltS_trans q hb)
    · rw [if_neg (by simpa using hb)]
      refine ⟨by omega, fun j hj q => ?_⟩
      by_cases e : j = k + 1
      · subst e
        exact hb q
      · exact h2 j (by omega) q
section
variable {X : Cx}
theorem key_str {ks : List Str} {vs : List (Key × Value)} (hk : vs.map (·.1) = ks.map Sum.inr) {P : Program} {w : World} (i : Nat) (v : Value) (h : ∃ k x, vs[i]? = some (k, x) ∧ (mixKind P w).is k v = true) : ∃ t, v = Value.str (ks.getD i Str.empty) t := by
  obtain ⟨k, x, h1, h2⟩ := h
  have e1 : (vs.map (·.1))[i]? = some k := by rw [List.getElem?_map, h1] <;> rfl
  rw [hk, List.getElem?_map] at e1
  obtain ⟨y, hy, e2⟩ := Option.map_eq_some_iff.mp e1
  subst e2
  have h2 : keyIs (Sum.inr y) v = true := h2
  rcases keyIs_shape h2 with ⟨_, _, e, _⟩ | ⟨z, t, e, ev⟩
  · cases e
  · cases e
    exact ⟨t, by rw [ev, List.getD_eq_getElem?_getD, hy]; rfl⟩
def rMinSD : List V → Hp → VK → Prop := fun vs H Q => ∃ (a : Addr) (kvs : List (Key × V)) (ks : List Str), vs = [V.ref a] ∧ Rd H a (.dK kvs) ∧ kvs.map (·.1) = ks.map Sum.inr ∧ ks ≠ [] ∧ ∀ m, m ∈ ks → (∀ j ∈ ks, ¬ ltS j m) → Q (.str m) H
theorem cr_minSD (hc : X.calm = true) : CallR X (.builtin "min") rMinSD := by
  intro pins s σ H vs us Q I r h
  obtain ⟨a, kvs, ks, rfl, ha, hv, hne, q⟩ := h
  rw [Vals.ref1 r]
  obtain ⟨_, hsys, vs, rel, dof⟩ := dk_rd I.hok ha
  obtain ⟨ep, dat⟩ := dof.dictAt
  obtain ⟨ob, es, ho, _⟩ := id dat
  have hlt : a < s.heap.objs.size := Heap.lt_size ho
  have hkeys : vs.map (·.1) = ks.map Sum.inr := (KV.keys rel).symm.trans hv
  have hlv : vs.length = ks.length := by simpa using congrArg List.length hkeys
  have hpos := List.length_pos_iff.mpr hne
  refine call_min_walk (wpAny_pyIter_dict (knd := mixKind X.prog X.w) hsys dat ?_)
  refine ⟨_, _, _, _, _, _, _, rfl, Walks.dictKeys (knd := mixKind X.prog X.w) (A := X.A.in1) (I.ok.hd hc) s.heap.objs.size a (Nat.ne_of_lt hlt) vs ep,
    ⟨⟨_, Heap.get?_push_size _ rfl, rfl, rfl⟩, dat.keep fun b u e => Heap.get?_push_of_some _ e⟩, fun b hb => ?_, by omega, cmp_ltS (fun i => ks.getD i Str.empty) (key_str hkeys), fun v h' tk hP hk => ?_⟩
  · show b < (s.heap.push _).objs.size
    rw [Heap.size_push]
    rcases List.mem_cons.mp hb with e | hb
    · rw [e]
      exact Nat.lt_succ_self _
    · rw [List.mem_singleton.mp hb]
      exact Nat.lt_succ_of_lt hlt
  · obtain ⟨t, rfl⟩ := key_str hkeys _ v hP
    obtain ⟨b1, b2⟩ := best_ltS (fun i => ks.getD i Str.empty) (vs.length - 1)
    have at_ : ∀ i, i < ks.length → ks.getD i Str.empty ∈ ks := fun i hi => by
      rw [List.getD_eq_getElem?_getD, List.getElem?_eq_getElem hi]
      exact List.getElem_mem hi
    refine ⟨.str _, H, I.kept (t' := tk) fun b u e => hk b u (fun hmem => ?_) (Heap.get?_push_of_some _ e), ⟨t, rfl⟩, q _ (at_ _ (by omega)) fun j hj => ?_⟩
    · have e1 : b = s.heap.objs.size := List.mem_singleton.mp hmem
      have e2 := Heap.lt_size e
      rw [e1] at e2
      exact absurd e2 (Nat.lt_irrefl _)
    · obtain ⟨i, hi, e⟩ := List.mem_iff_getElem.mp hj
      have e2 : ks.getD i Str.empty = j := by rw [List.getD_eq_getElem?_getD, List.getElem?_eq_getElem hi, ← e] <;> rfl
      rw [← e2]
      exact b2 i (by omega)
end
end WkD
namespace WkD
open PySem PySem.Spec PyProof.Rows L2
section
variable {X : Cx} {CX : CXT} {k : Nat} {f C : Addr} {fd : FuncData} {ps : List Str} {sp : Sp} {E : XK}
end
section
variable {X : Cx}
end
section
variable {prog : Program} {w : World} {A : Around} {E : Value → Shared → Prop} {s : Shared}
theorem dictPut_new {K : Type} [DecidableEq K] {knd : KeyKind prog w K} {d : Addr} {kvs : List (K × Value)} {k : K} {key v : Value} {Q : Unit → Shared → Prop} (hkey : knd.is k key = true) (hm : s.heap.DictOf knd d kvs) (hnew : k ∉ kvs.map (·.1))
    (hQ : ∀ h', h'.DictOf knd d (kvs ++ [(k, v)]) → Heap.SameBut d s.heap h' → Q () { s with heap := h' }) (hsz : kvs.length ≤ sizeLine) :
    wpAny (model prog w) A (dictPut d (knd.hash k) key v) Q E s := by
  obtain ⟨o, es, ep, ho, hc, hd, hk, hp, hn⟩ := hm
  have hes : es.size ≤ sizeLine := by
    have e1 := hp.length
    have e2 : es.toList.length = es.size := by simp
    omega
  unfold dictPut
  refine wpAny_bind (wpAny_dictFind_of hkey ho hd hk ?_)
  have hidx : (es.findIdx? fun e => knd.is k e.key) = kvs.findIdx? fun kv => decide (kv.1 = k) := by
    rw [← hp.findIdx k]
    obtain ⟨l⟩ := es
    simp
  cases hi : es.findIdx? fun e => knd.is k e.key with
  | some i =>
    rw [hidx] at hi
    have z := any_of_findIdx_some hi
    rw [List.any_eq_true] at z
    obtain ⟨kv, h1, h2⟩ := z
    exact absurd (List.mem_map.mpr ⟨kv, h1, of_decide_eq_true h2⟩) hnew
  | none =>
    refine wpAny_updateDictKeys (hz := hes) ho hd (hQ _ ⟨_, _, ep + 1, Heap.get?_update_self _ ho (Obj.isFreed_of_dict (Obj.data_mapDictKeys hd _)), hc.mapDictKeys _, Obj.data_mapDictKeys hd _, hk.push hkey _, ?_, ?_⟩ (Heap.SameBut.update ..))
    · have z := hp.append hkey (knd.hash k) v
      obtain ⟨l⟩ := es
      simpa using z
    · rw [List.map_append, List.nodup_append]
      refine ⟨hn, by simp, fun a ha b hb e => ?_⟩
      have hb : b = k := by simpa using hb
      rw [e, hb] at ha
      exact hnew ha
end
end WkD
namespace WkD
open PySem PySem.Spec PyProof.Rows L2
section
variable {prog : Program} {w : World} {A : Around} {E : Value → Shared → Prop} {s : Shared}
theorem key_noref {k : Key} {v : Value} (h : (mixKind prog w).is k v = true) : ∀ a, v ≠ .ref a := by
  have h : keyIs k v = true := h
  rcases keyIs_shape h with ⟨_, _, _, e⟩ | ⟨_, _, _, e⟩
  · intro a z
    rw [e] at z
    cases z
  · intro a z
    rw [e] at z
    cases z
theorem merge_new {d a : Addr} {more : List (Key × Value)} {Q : Unit → Shared → Prop} (hda : d ≠ a) (haS : (a == sysModules) = false) (hd : s.heap.DictOf (mixKind prog w) d []) (ha : s.heap.DictOf (mixKind prog w) a more)
    (hQ : ∀ h', h'.DictOf (mixKind prog w) d more → Heap.SameBut d s.heap h' → Q () { s with heap := h' }) (hsz : more.length ≤ sizeLine) : wpAny (model prog w) A (mergeMapping d (.ref a) false) Q E s := by
  obtain ⟨od, esd, epd, hod, hcd, hdd, hkd, hpd, hnd⟩ := id hd
  obtain ⟨oo, eso, epo, hoo, hco, hdo, hko, hpo, hno⟩ := id ha
  have hT := ha.typeIs
  have hlen : more.length = eso.size := by
    rw [← hpo.length]
    simp
  have h0 : esd = #[] := by
    have z := hpd.length
    obtain ⟨l⟩ := esd
    have z : l.length = 0 := by simpa using z
    rw [List.length_eq_zero_iff.mp z]
  unfold mergeMapping
  refine wpAny_bind (wpAny_isInstance (T := "dict") (U := "dict") (b := true) hT (by rw [isSubtype_type]; kernel_rfl) ?_)
  try dsimp only
  rw [if_pos rfl]
  refine wpAny_bind (wpAny_specialOf hT PySem.F.slot_dict_iter.lookup ?_)
  rw [show (some (Value.builtin "dict.__iter__") == some (Value.builtin "dict.__iter__")) = true by decide]
  refine wpAny_bind (wpAny_pure ?_)
  try dsimp only
  rw [if_neg (by rw [haS]; decide)]
  refine wpAny_bind (wpAny_dictEntries hod hdd ?_)
  rw [if_pos (by rw [h0]; rfl)]
  refine wpAny_bind (wpAny_dictEntries hoo hdo ?_)
  refine wpAny_bind ?_
  have first : ∀ {f : DictEntry → PUnit → Sem (ForInStep PUnit)} {Q : PUnit → Shared → Prop}, (∀ e : DictEntry, (∀ a, e.key ≠ .ref a) → f e PUnit.unit = pure (ForInStep.yield PUnit.unit)) → Q PUnit.unit s → wpAny (model prog w) A (forIn eso PUnit.unit f) Q E s := by
    intro f Q hf hq
    rw [← Array.forIn_toList]
    refine wpAny_forIn_list f (fun rest _ s' => s' = s ∧ ∀ e ∈ rest, ∀ a, e.key ≠ .ref a) Q (fun e rest b s' z => ?_) (fun b s' z => by rw [z.1]; exact hq) _ _ ⟨rfl, fun e he a => ?_⟩
    · obtain ⟨rfl, z⟩ := z
      rw [hf e (z e List.mem_cons_self)]
      exact wpAny_pure ⟨rfl, fun e he => z e (List.mem_cons_of_mem _ he)⟩
    · obtain ⟨k, hk, _⟩ := hko e (by simpa using he)
      exact key_noref hk a
  refine first (fun e he => ?_) ?_
  · cases q : e.key with
    | ref a => exact absurd q (he a)
    | _ => rfl
  refine wpAny_bind (wpAny_dictEntries hoo hdo ?_)
  refine wpAny_bind (wpAny_dictEpoch hoo hdo ?_)
  refine wpAny_bind ?_
  refine wpAny_forIn_list _ (fun rest _ s' => ∃ h' i, s' = { s with heap := h' } ∧ rest = List.range' i (eso.size - i) ∧ i ≤ eso.size ∧ h'.DictOf (mixKind prog w) d (more.take i) ∧ h'.get? a = some oo ∧ Heap.SameBut d s.heap h') _ ?_ ?_ _ _
    ⟨s.heap, 0, rfl, by rw [List.range_eq_range']; rfl, Nat.zero_le _, by simpa using hd, hoo, Heap.SameBut.refl _ _⟩
  · rintro x rest b s' ⟨h', i, rfl, hr, hi, hd', hoo', hs'⟩
    have hlt : i < eso.size := by
      rcases Nat.lt_or_ge i eso.size with h | h
      · exact h
      · rw [Nat.sub_eq_zero_of_le h] at hr
        simp at hr
    obtain ⟨ex, hrest⟩ : x = i ∧ rest = List.range' (i + 1) (eso.size - (i + 1)) := by
      have e : eso.size - i = (eso.size - (i + 1)) + 1 := by omega
      rw [e, List.range'_succ] at hr
      injection hr with h1 h2
      exact ⟨h1, h2⟩
    subst ex
    refine wpAny_bind (wpAny_dictEntries hoo' hdo ?_)
    rw [Array.getElem?_eq_getElem hlt]
    obtain ⟨kv, hkv⟩ : ∃ kv, more[x]? = some kv := ⟨more[x]'(by omega), List.getElem?_eq_getElem _⟩
    obtain ⟨k, v⟩ := kv
    obtain ⟨hkey, hval⟩ := hpo.get? (e := eso[x]) (by simp [hlt]) hkv
    obtain ⟨k', hkey', hhash⟩ := hko eso[x] (Array.getElem_mem hlt)
    obtain rfl : k' = k := (mixKind prog w).inj _ _ _ hkey' hkey
    dsimp only
    rw [hhash, hval]
    have hxl : x < more.length := by omega
    have tk : more.take (x + 1) = more.take x ++ [(k', v)] := by
      rw [List.take_add_one, hkv]
      rfl
    refine wpAny_bind (wpAny_holding ?_)
    rw [if_neg (by decide)]
    refine dictPut_new hkey hd' (fun hm => ?_) (fun h2 hd2 hs2 => ?_) (by rw [List.length_take]; omega)
    · have nd : ((more.take (x + 1)).map (·.1)).Nodup := (List.Sublist.map _ (List.take_sublist _ _)).nodup hno
      rw [tk, List.map_append, List.nodup_append] at nd
      exact nd.2.2 _ hm _ (List.mem_singleton.mpr rfl) rfl
    · have hoo2 : h2.get? a = some oo := (hs2.2 a (Ne.symm hda)).trans hoo'
      refine wpAny_bind (wpAny_dictEpoch hoo2 hdo ?_)
      rw [if_neg (by simp)]
      exact wpAny_pure ⟨h2, x + 1, rfl, hrest, hlt, by rw [tk]; exact hd2, hoo2, hs'.trans hs2⟩
  · rintro b s' ⟨h', i, rfl, hr, hi, hd', hoo', hs'⟩
    have hin : i = eso.size := by
      rcases Nat.lt_or_ge i eso.size with h | h
      · have e : eso.size - i = (eso.size - (i + 1)) + 1 := by omega
        rw [e, List.range'_succ] at hr
        exact nomatch hr
      · exact Nat.le_antisymm hi h
    refine wpAny_pure (hQ h' ?_ hs')
    rw [hin, ← hlen, List.take_length] at hd'
    exact hd'
end
section
variable {X : Cx} {pos : Pos} {e : Expr} {te : TE}
def tDStar (te : TE) : TE := fun σ H Q => ∀ p, H p = none → te σ (upd H p (.dK [])) fun x H2 => ∃ a kvs, x = .ref a ∧ H2 p = some (.dK []) ∧ a ≠ p ∧ Rd H2 a (.dK kvs) ∧ Q (.ref p) (upd H2 p (.dK kvs))
theorem pe_dstar (he : PE X e te) : PE X (.Dict [none] [e] pos) (tDStar te) := by
  refine ⟨fun pins s σ H Q I q => ?_⟩
  have hn := I.hok.fresh (Nat.le_refl s.heap.objs.size)
  have I1 := I.laid (a := s.heap.objs.size) (o := .dK []) (h' := s.heap.push { cls := .type "dict", data := .dict #[] }) (t' := s.toks) (fun _ _ q => Heap.get?_push_of_some _ q) (Nat.le_refl _) (dk_empty s.heap I.big)
  show wpAny _ _ (do standAt pos; dictDisplay [(none, do let x ← eval e X.env; standAt pos; pure x)]) _ _ _
  refine wpAny_bind (wpAny_standAt ?_)
  unfold dictDisplay
  simp only [List.forIn_cons, List.forIn_nil, pure_bind, bind_assoc]
  rw [if_pos (show ([] : List (Sem Value × Sem Value)).isEmpty = true from rfl)]
  refine wpAny_bind (wpAny_pure ?_)
  refine wpAny_bind ?_
  dsimp only
  refine wpAny_bind (wpAny_alloc ?_)
  refine wpAny_bind (wpAny_holding (wpAny_bind (thn (he.run pins _ σ _ _ I1 (q _ hn)) fun v s2 ⟨x, H2, I2, rx, a, kvs, ex, hp, hap, hR, q2⟩ => wpAny_bind (wpAny_standAt (wpAny_pure ?_)))))
  subst ex
  obtain rfl : v = Value.ref a := rx
  obtain ⟨z, ya, va, ra, da⟩ := dk_rd I2.hok hR
  obtain ⟨_, hd, vs0, r0, dd⟩ := dk_of I2.hok hp
  cases r0
  refine wpAny_bind (wpAny_onRaise (wpAny_tryCatch (wpAny_onRaise (wpAny_holding (merge_new (Ne.symm hap) ya dd da (fun h' dd' hs => ?_) (by rw [← ra.length]; exact z))))))
  refine wpAny_pure ?_
  dsimp only
  refine wpAny_bind (wpAny_pure ?_)
  dsimp only
  rw [if_pos (show ([] : List (Sem Value × Sem Value)).isEmpty = true from rfl)]
  refine wpAny_bind (wpAny_pure (wpAny_pure ⟨.ref s.heap.objs.size, _, ?_, rfl, q2⟩))
  have hex : ∃ q, h'.get? s.heap.objs.size = some q := let ⟨q, _, _, hq, _⟩ := dd'; ⟨q, hq⟩
  exact d_write I2 (by rw [hp]; exact True.intro) hs hex (dk_new z hd ra dd')
end
end WkD
namespace WkN
open PySem PySem.Spec PyProof.Rows L2 WkD
theorem takeS {α : Type} {l : List α} {i : Nat} {x : α} (h : l[i]? = some x) : l.take (i + 1) = l.take i ++ [x] := by
  rw [List.take_add_one, h]
  rfl
theorem bF {b : Bool} (h : ¬ b = true) : b = false := by
  cases b
  · rfl
  · exact absurd rfl h
def dct (ks : List Str) (g : Str → V) : List (Key × V) := ks.map fun v => (Sum.inr v, g v)
theorem dct_len {ks : List Str} {g : Str → V} : (dct ks g).length = ks.length := List.length_map ..
theorem dct_keys {ks : List Str} {g : Str → V} : (dct ks g).map (·.1) = ks.map Sum.inr := by
  unfold dct
  rw [List.map_map]
  rfl
theorem dct_congr {ks : List Str} {g g' : Str → V} (h : ∀ v ∈ ks, g v = g' v) : dct ks g = dct ks g' := List.map_congr_left fun v hv => by rw [h v hv]
theorem dct_val {g : Str → V} {v : Str} : ∀ {ks : List Str}, valV (dct ks g) (Sum.inr v) = if v ∈ ks then some (g v) else none
  | [] => by
    rw [if_neg (by simp)]
    rfl
  | k :: ks => by
    show valV ((Sum.inr k, g k) :: dct ks g) (Sum.inr v) = _
    by_cases h : k = v
    · subst h
      rw [valV_pos rfl, if_pos (by simp)]
    · rw [valV_neg (fun z => h (Sum.inr.inj z)), dct_val]
      by_cases hm : v ∈ ks
      · rw [if_pos hm, if_pos (List.mem_cons_of_mem _ hm)]
      · rw [if_neg hm, if_neg (fun z => (List.mem_cons.mp z).elim (fun e => h e.symm) hm)]
theorem dct_in {ks : List Str} {g : Str → V} {v : Str} (h : v ∈ ks) : valV (dct ks g) (Sum.inr v) = some (g v) := by rw [dct_val, if_pos h]
theorem dct_out {ks : List Str} {g : Str → V} {v : Str} (h : v ∉ ks) : valV (dct ks g) (Sum.inr v) = none := by rw [dct_val, if_neg h]
theorem dct_any {ks : List Str} {g : Str → V} {v : Str} : ((dct ks g).any fun kv => decide (kv.1 = Sum.inr v)) = decide (v ∈ ks) := by
  rw [valV_any, dct_val]
  by_cases h : v ∈ ks
  · rw [if_pos h, decide_eq_true h]
    rfl
  · rw [if_neg h, decide_eq_false h]
    rfl
theorem dct_put_in {ks : List Str} {g : Str → V} {v : Str} {x : V} (h : v ∈ ks) : putK (dct ks g) (Sum.inr v) x = dct ks (fun y => if y = v then x else g y) := by
  unfold putK
  rw [dct_any, decide_eq_true h, if_pos rfl]
  unfold dct
  rw [List.map_map]
  refine List.map_congr_left fun y _ => ?_
  show (if (Sum.inr y : Key) = Sum.inr v then ((Sum.inr y : Key), x) else (Sum.inr y, g y)) = (Sum.inr y, if y = v then x else g y)
  by_cases e : y = v
  · rw [if_pos (by rw [e]), if_pos e]
  · rw [if_neg (fun z => e (Sum.inr.inj z)), if_neg e]
theorem dct_put_new {ks : List Str} {g : Str → V} {v : Str} {x : V} (h : v ∉ ks) : putK (dct ks g) (Sum.inr v) x = dct (ks ++ [v]) (fun y => if y = v then x else g y) := by
  rw [putK_new x (dct_out h)]
  unfold dct
  rw [List.map_append]
  congr 1
  · refine List.map_congr_left fun y hy => ?_
    have e : y ≠ v := fun e => h (by rw [← e]; exact hy)
    show (Sum.inr y, g y) = (Sum.inr y, if y = v then x else g y)
    rw [if_neg e]
  · show [(Sum.inr v, x)] = [(Sum.inr v, if v = v then x else g v)]
    rw [if_pos rfl]
theorem dct_drop {ks : List Str} {g : Str → V} {v : Str} : dropK (dct ks g) (Sum.inr v) = dct (ks.filter (fun y => decide (y ≠ v))) g := by
  unfold dropK dct
  rw [List.filter_map]
  congr 1
  refine List.filter_congr fun y _ => ?_
  show decide ((Sum.inr y : Key) ≠ Sum.inr v) = decide (y ≠ v)
  by_cases e : y = v
  · subst e
    simp
  · have z : (Sum.inr y : Key) ≠ Sum.inr v := fun z => e (Sum.inr.inj z)
    rw [decide_eq_true (show y ≠ v from e), decide_eq_true z]
theorem dct_at {ks : List Str} {g : Str → V} {i : Nat} : (dct ks g)[i]? = ks[i]?.map fun v => (Sum.inr v, g v) := by
  unfold dct
  rw [List.getElem?_map]
theorem get_d {H : Hp} {a : Addr} {ks : List Str} {g : Str → V} {v : Str} (h : Rd H a (.dK (dct ks g))) (hv : v ∈ ks) : DGet H a (.str v) (some (g v)) := .inl ⟨_, Sum.inr v, h, rfl, (dct_in hv).symm⟩
theorem get_n {H : Hp} {a : Addr} {ks : List Str} {g : Str → V} {v : Str} (h : Rd H a (.dK (dct ks g))) (hv : v ∉ ks) : DGet H a (.str v) none := .inl ⟨_, Sum.inr v, h, rfl, (dct_out hv).symm⟩
theorem get_x {H : Hp} {a : Addr} {ks : List Str} {g : Str → V} {v : Str} (h : Rd H a (.dK (dct ks g))) : DGet H a (.str v) (if v ∈ ks then some (g v) else none) := .inl ⟨_, Sum.inr v, h, rfl, dct_val.symm⟩
theorem put_d {H : Hp} {a : Addr} {ks : List Str} {g : Str → V} {v : Str} {x : V} (h : H a = some (.dK (dct ks g))) (hv : v ∈ ks) (hl : ks.length < sizeLine) : DPut H a (.str v) x (upd H a (.dK (dct ks fun y => if y = v then x else g y))) := by
  have z := DPut.k (k := Sum.inr v) (v := x) h (by rw [dct_len]; exact hl)
  rw [dct_put_in hv] at z
  exact z
theorem put_n {H : Hp} {a : Addr} {ks : List Str} {g : Str → V} {v : Str} {x : V} (h : H a = some (.dK (dct ks g))) (hv : v ∉ ks) (hl : ks.length < sizeLine) : DPut H a (.str v) x (upd H a (.dK (dct (ks ++ [v]) fun y => if y = v then x else g y))) := by
  have z := DPut.k (k := Sum.inr v) (v := x) h (by rw [dct_len]; exact hl)
  rw [dct_put_new hv] at z
  exact z
abbrev Nb := Str → List Str
abbrev Wt := Str → Str → Int
structure RowsR (H : Hp) (a : Addr) (Vs : List Str) (ad : Str → Addr) (nb : Nb) (wt : Wt) : Prop where
  top : Rd H a (.dK (dct Vs fun u => .ref (ad u)))
  row : ∀ u ∈ Vs, Rd H (ad u) (.dK (dct (nb u) fun v => .int (wt u v)))
structure RowsM (H : Hp) (a : Addr) (Vs : List Str) (ad : Str → Addr) (nb : Nb) (wt : Wt) : Prop where
  top : H a = some (.dK (dct Vs fun u => .ref (ad u)))
  row : ∀ u ∈ Vs, H (ad u) = some (.dK (dct (nb u) fun v => .int (wt u v)))
  inj : ∀ u ∈ Vs, ∀ v ∈ Vs, ad u = ad v → u = v
  nd : Vs.Nodup
structure RowsZ (H : Hp) (a : Addr) (Vs : List Str) (ad : Str → Addr) (nb : Nb) (wt : Wt) : Prop where
  top : ∃ o, H a = some (.frz o (.dK (dct Vs fun u => .ref (ad u))))
  row : ∀ u ∈ Vs, ∃ o, H (ad u) = some (.frz o (.dK (dct (nb u) fun v => .int (wt u v))))
theorem RowsM.r {H : Hp} {a : Addr} {Vs : List Str} {ad : Str → Addr} {nb : Nb} {wt : Wt} (R : RowsM H a Vs ad nb wt) : RowsR H a Vs ad nb wt := ⟨.inl R.top, fun u hu => .inl (R.row u hu)⟩
theorem RowsZ.r {H : Hp} {a : Addr} {Vs : List Str} {ad : Str → Addr} {nb : Nb} {wt : Wt} (R : RowsZ H a Vs ad nb wt) : RowsR H a Vs ad nb wt := ⟨.inr R.top, fun u hu => .inr (R.row u hu)⟩
abbrev Ext (H H' : Hp) : Prop := ∀ b o, H b = some o → (∀ ps, o ≠ .tbl ps) → H' b = some o
theorem Ext.refl (H : Hp) : Ext H H := fun _ _ h _ => h
theorem Ext.trans {H H1 H2 : Hp} (a : Ext H H1) (b : Ext H1 H2) : Ext H H2 := fun c o h n => b c o (a c o h n) n
theorem Ext.of {H H' : Hp} (e : Same H H') : Ext H H' := fun b o h _ => e b o h
theorem Ext.rd {H H' : Hp} {a : Addr} {u : HO} (e : Ext H H') (h : Rd H a u) (n : ∀ ps, u ≠ .tbl ps) : Rd H' a u := by
  rcases h with h | ⟨o, h⟩
  · exact .inl (e _ _ h n)
  · exact .inr ⟨o, e _ _ h fun ps z => by cases z⟩
theorem Ext.up {H H' : Hp} {p : Addr} {o : HO} (e : Ext H H') (h : H p = none) : Ext H (upd H' p o) := fun b u hb n => by
  rw [upd_ne (ne_of_none hb h)]
  exact e b u hb n
theorem RowsR.ext {H H' : Hp} {a : Addr} {Vs : List Str} {ad : Str → Addr} {nb : Nb} {wt : Wt} (R : RowsR H a Vs ad nb wt) (e : Ext H H') : RowsR H' a Vs ad nb wt := ⟨e.rd R.top (fun ps z => by cases z), fun u hu => e.rd (R.row u hu) (fun ps z => by cases z)⟩
theorem RowsM.ext {H H' : Hp} {a : Addr} {Vs : List Str} {ad : Str → Addr} {nb : Nb} {wt : Wt} (R : RowsM H a Vs ad nb wt) (e : Ext H H') : RowsM H' a Vs ad nb wt := ⟨e _ _ R.top (fun ps z => by cases z), fun u hu => e _ _ (R.row u hu) (fun ps z => by cases z), R.inj, R.nd⟩
theorem RowsZ.ext {H H' : Hp} {a : Addr} {Vs : List Str} {ad : Str → Addr} {nb : Nb} {wt : Wt} (R : RowsZ H a Vs ad nb wt) (e : Ext H H') : RowsZ H' a Vs ad nb wt := by
  refine ⟨?_, fun u hu => ?_⟩
  · obtain ⟨o, h⟩ := R.top
    exact ⟨o, e _ _ h fun ps z => by cases z⟩
  · obtain ⟨o, h⟩ := R.row u hu
    exact ⟨o, e _ _ h fun ps z => by cases z⟩
theorem RowsM.ne {H : Hp} {a : Addr} {Vs : List Str} {ad : Str → Addr} {nb : Nb} {wt : Wt} (R : RowsM H a Vs ad nb wt) {u : Str} (hu : u ∈ Vs) : ad u ≠ a := by
  refine ne_of (R.row u hu) R.top fun z => ?_
  have z : dct (nb u) (fun v => V.int (wt u v)) = dct Vs fun u => .ref (ad u) := by
    injection z
  have h1 := @dct_in Vs (fun u => V.ref (ad u)) u hu
  rw [← z, dct_val] at h1
  split at h1
  · cases h1
  · cases h1
theorem RowsM.put {H : Hp} {a : Addr} {Vs : List Str} {ad : Str → Addr} {nb : Nb} {wt : Wt} (R : RowsM H a Vs ad nb wt) {u : Str} (hu : u ∈ Vs) (ks : List Str) (f : Str → Int) :
    RowsM (upd H (ad u) (.dK (dct ks fun v => .int (f v)))) a Vs ad (fun x => if x = u then ks else nb x) (fun x y => if x = u then f y else wt x y) := by
  refine ⟨by rw [upd_ne (Ne.symm (R.ne hu))]; exact R.top, fun x hx => ?_, R.inj, R.nd⟩
  by_cases e : x = u
  · subst e
    rw [upd_same, if_pos rfl]
    rw [dct_congr (g := fun v => V.int (f v)) (g' := fun v => V.int (if x = x then f v else wt x v)) fun v _ => by rw [if_pos rfl]]
  · rw [upd_ne (fun z => e (R.inj x hx u hu z)), R.row x hx, if_neg e]
    rw [dct_congr (g := fun v => V.int (wt x v)) (g' := fun v => V.int (if x = u then f v else wt x v)) fun v _ => by rw [if_neg e]]
theorem RowsM.as {H : Hp} {a : Addr} {Vs : List Str} {ad : Str → Addr} {nb nb' : Nb} {wt wt' : Wt} (R : RowsM H a Vs ad nb wt) (h1 : ∀ u ∈ Vs, nb u = nb' u) (h2 : ∀ u ∈ Vs, ∀ v ∈ nb u, wt u v = wt' u v) : RowsM H a Vs ad nb' wt' := by
  refine ⟨R.top, fun u hu => ?_, R.inj, R.nd⟩
  rw [R.row u hu, ← h1 u hu]
  rw [dct_congr (g := fun v => V.int (wt u v)) (g' := fun v => V.int (wt' u v)) fun v hv => by rw [h2 u hu v hv]]
theorem opIn {X : Cx} (K : PySem.W.Frag) (h : X.K = K) : OpR X (compareOp .In) (rIn K false) := by
  subst h
  exact op_in_seq
theorem opNotIn {X : Cx} (K : PySem.W.Frag) (h : X.K = K) : OpR X (compareOp .NotIn) (rIn K true) := by
  subst h
  exact op_notIn_seq
theorem inV_str {x : Str} {xs : List Str} : inV (.str x) (xs.map V.str) = decide (x ∈ xs) := by
  rw [Bool.eq_iff_iff, decide_eq_true_iff]
  unfold inV
  rw [List.any_eq_true]
  constructor
  · rintro ⟨y, hy, e⟩
    obtain ⟨z, hz, rfl⟩ := List.mem_map.mp hy
    have e : (x == z) = true ∨ (z == x) = true := by
      first | exact Or.inl e | exact Or.inr e
    rcases e with e | e
    · rw [eq_of_beq e]
      exact hz
    · rw [← eq_of_beq e]
      exact hz
  · intro h
    exact ⟨.str x, List.mem_map.mpr ⟨x, h, rfl⟩, by show (x == x) = true; exact beq_self_eq_true x⟩
theorem flat_str {xs : List Str} : (xs.map V.str).all flatV = true := by
  rw [List.all_eq_true]
  intro y hy
  obtain ⟨z, _, rfl⟩ := List.mem_map.mp hy
  rfl
theorem pgT {X : Cx} {es : List Expr} {k : Nat} {t : TGs} {pos : Pos} (K : PySem.W.Frag) (n : Nat) (hK : X.K = K) (hc : X.calm = true) (h : PGs X es t) (hn : (assignEach es X.env).length = n) (hst : (assignEach es X.env).findIdx? (·.1) = none := by rfl) : PG X (.Tuple es k pos) (gTup K n t) := by
  subst hK
  subst hn
  exact pg_tup hc h rfl hst
end WkN
namespace WkP
open PySem WkN
def conn (nb : Nb) (wt : Wt) (S : List Str) (u : Str) : Int := (S.map fun s => if u ∈ nb s then wt s u else 0).sum
theorem conn_snoc (nb : Nb) (wt : Wt) (S : List Str) (s u : Str) : conn nb wt (S ++ [s]) u = conn nb wt S u + (if u ∈ nb s then wt s u else 0) := by
  unfold conn
  rw [List.map_append, List.sum_append]
  simp
structure Pre (nb : Nb) (wt : Wt) (Vs done : List Str) : Prop where
  nd : done.Nodup
  sub : ∀ x ∈ done, x ∈ Vs
  best : ∀ (i : Nat) (x : Str), done[i]? = some x → ∀ u ∈ Vs, u ∉ done.take i → conn nb wt (done.take i) u ≤ conn nb wt (done.take i) x
theorem Pre.nil (nb : Nb) (wt : Wt) (Vs : List Str) : Pre nb wt Vs [] := ⟨List.nodup_nil, fun x h => absurd h (by simp), fun i x h => absurd h (by simp)⟩
theorem Pre.snoc {nb : Nb} {wt : Wt} {Vs done : List Str} {x : Str} (p : Pre nb wt Vs done) (hx : x ∈ Vs) (hn : x ∉ done) (hb : ∀ u ∈ Vs, u ∉ done → conn nb wt done u ≤ conn nb wt done x) : Pre nb wt Vs (done ++ [x]) := by
  refine ⟨?_, fun y hy => ?_, fun i y hy u hu hm => ?_⟩
  · rw [List.nodup_append]
    refine ⟨p.nd, by simp, fun a ha b hb e => ?_⟩
    have hb : b = x := by simpa using hb
    rw [e, hb] at ha
    exact hn ha
  · rcases List.mem_append.mp hy with h | h
    · exact p.sub y h
    · rw [List.mem_singleton.mp h]
      exact hx
  · rcases Nat.lt_trichotomy i done.length with h | h | h
    · have e : (done ++ [x]).take i = done.take i := List.take_append_of_le_length (by omega)
      rw [List.getElem?_append_left h] at hy
      rw [e] at hm ⊢
      exact p.best i y hy u hu hm
    · subst h
      have e : (done ++ [x]).take done.length = done := by simp
      have ey : x = y := by simpa using hy
      rw [e] at hm ⊢
      rw [← ey]
      exact hb u hu hm
    · rw [List.getElem?_eq_none (by simp; omega)] at hy
      cases hy
def LastTwo (nb : Nb) (wt : Wt) (Vs : List Str) (x l : Str) (n : Int) : Prop := ∃ pre, Pre nb wt Vs (pre ++ [x, l]) ∧ (∀ u ∈ Vs, u ∈ pre ++ [x, l]) ∧ n = conn nb wt (pre ++ [x]) l
theorem LastTwo.mem {nb : Nb} {wt : Wt} {Vs : List Str} {x l : Str} {n : Int} (h : LastTwo nb wt Vs x l n) : x ∈ Vs ∧ l ∈ Vs ∧ x ≠ l := by
  obtain ⟨pre, p, _, _⟩ := h
  refine ⟨p.sub x (by simp), p.sub l (by simp), fun e => ?_⟩
  have nd := p.nd
  rw [e, List.nodup_append] at nd
  simp at nd
def Tail (nb : Nb) (wt : Wt) (done : List Str) (ah la : L2.V) (wg : L2.V) : Prop :=
  (done = [] ∧ la = .non) ∨ (∃ x, done = [x] ∧ la = .str x) ∨ ∃ pre x l, done = pre ++ [x, l] ∧ ah = .str x ∧ la = .str l ∧ wg = .int (conn nb wt (pre ++ [x]) l)
theorem Tail.snoc {nb : Nb} {wt : Wt} {done : List Str} {ah la wg : L2.V} (t : Tail nb wt done ah la wg) (y : Str) : Tail nb wt (done ++ [y]) la (.str y) (.int (conn nb wt done y)) := by
  rcases t with ⟨rfl, _⟩ | ⟨x, rfl, rfl⟩ | ⟨pre, x, l, rfl, _, rfl, _⟩
  · exact .inr (.inl ⟨y, rfl, rfl⟩)
  · exact .inr (.inr ⟨[], x, y, rfl, rfl, rfl, rfl⟩)
  · exact .inr (.inr ⟨pre ++ [x], l, y, by simp, rfl, rfl, by simp⟩)
end WkP
namespace WkP
open PySem WkN
def vl0 (nb : Nb) (wt : Wt) (u v : Str) : Int := if v ∈ nb u then wt u v else 0
structure Sym (Vs : List Str) (nb : Nb) (wt : Wt) : Prop where
  nd : ∀ u ∈ Vs, (nb u).Nodup
  mem : ∀ u ∈ Vs, ∀ v ∈ nb u, v ∈ Vs ∧ v ≠ u ∧ u ∈ nb v ∧ wt v u = wt u v
structure Mp (nb : Nb) (wt : Wt) (kept gone : Str) (Ws S : List Str) (nbi : Nb) (wti : Wt) : Prop where
  nd : ∀ u ∈ Ws, (nbi u).Nodup
  mem : ∀ u ∈ Ws, ∀ y, y ∈ nbi u ↔ (y = gone ∧ gone ∈ nb u ∧ u ∉ S) ∨ (y ≠ gone ∧ (y ∈ nb u ∨ (u = kept ∧ y ∈ S ∧ y ≠ kept) ∨ (y = kept ∧ u ∈ S ∧ u ≠ kept)))
  val : ∀ u ∈ Ws, ∀ y, y ≠ gone → y ∈ nbi u → wti u y = vl0 nb wt u y + (if u = kept ∧ y ∈ S then wt gone y else 0) + (if y = kept ∧ u ∈ S ∧ u ≠ kept then wt gone u else 0)
theorem Mp.start {nb : Nb} {wt : Wt} {kept gone : Str} {Vs Ws : List Str} (s : Sym Vs nb wt) (h : ∀ u ∈ Ws, u ∈ Vs) : Mp nb wt kept gone Ws [] nb wt := by
  refine ⟨fun u hu => s.nd u (h u hu), fun u hu y => ?_, fun u hu y hy hm => ?_⟩
  · by_cases e : y = gone
    · subst e
      simp
    · simp [e]
  · unfold vl0
    simp [hm]
def up (nb : Nb) (u : Str) (ks : List Str) : Nb := fun y => if y = u then ks else nb y
def upw (wt : Wt) (u : Str) (f : Str → Int) : Wt := fun x y => if x = u then f y else wt x y
def add (ks : List Str) (v : Str) : List Str := if v ∈ ks then ks else ks ++ [v]
theorem add_mem {ks : List Str} {v y : Str} : y ∈ add ks v ↔ y ∈ ks ∨ y = v := by
  unfold add
  split <;> grind
theorem add_nd {ks : List Str} {v : Str} (h : ks.Nodup) : (add ks v).Nodup := by
  unfold add
  split
  · exact h
  · rename_i hn
    rw [List.nodup_append]
    exact ⟨h, by simp, fun a ha b hb e => by
      have hb : b = v := by simpa using hb
      rw [e, hb] at ha
      exact hn ha⟩
section
variable {nb : Nb} {wt : Wt} {kept gone : Str} {Vs Ws S : List Str} {nbi : Nb} {wti : Wt}
theorem Mp.atKept (m : Mp nb wt kept gone Ws S nbi wti) (s : Sym Vs nb wt) (hW : ∀ u ∈ Ws, u ∈ Vs) (hk : kept ∈ Ws) (hne : kept ≠ gone) : Mp nb wt kept gone Ws (S ++ [kept]) (up nbi kept ((nbi kept).filter fun y => decide (y ≠ gone))) wti := by
  refine ⟨fun u hu => ?_, fun u hu y => ?_, fun u hu y hy hm => ?_⟩
  · unfold up
    split
    · exact (m.nd kept hk).filter _
    · exact m.nd u hu
  · have h1 := m.mem u hu y
    have h2 := m.mem kept hk y
    unfold up
    by_cases e : u = kept
    · subst e
      rw [if_pos rfl, List.mem_filter]
      grind
    · rw [if_neg e, h1]
      grind
  · have hm' : y ∈ nbi u := by
      unfold up at hm
      split at hm
      · rename_i e
        rw [e]
        exact (List.mem_filter.mp hm).1
      · exact hm
    have h1 := m.mem u hu y
    have h5 := s.mem kept (hW _ hk) kept
    rw [m.val u hu y hy hm']
    grind
theorem Mp.atOther (m : Mp nb wt kept gone Ws S nbi wti) (s : Sym Vs nb wt) (hW : ∀ u ∈ Ws, u ∈ Vs) (hk : kept ∈ Ws) (hne : kept ≠ gone) {v : Str} (hv : v ∈ Ws) (hvS : v ∉ S) (hvk : v ≠ kept) (hvg : v ≠ gone) (hg : gone ∈ nb v) {n : Int} (hn : n = (if v ∈ nbi kept then wti kept v else 0) + wt gone v) :
    Mp nb wt kept gone Ws (S ++ [v]) (up (up (up nbi v ((nbi v).filter fun y => decide (y ≠ gone))) kept (add (nbi kept) v)) v (add ((nbi v).filter fun y => decide (y ≠ gone)) kept))
      (upw (upw wti kept fun y => if y = v then n else wti kept y) v fun y => if y = kept then n else wti v y) := by
  have hkm := m.mem kept hk v
  have hn2 : n = vl0 nb wt kept v + wt gone v := by
    rw [hn]
    unfold vl0
    by_cases h : v ∈ nbi kept
    · have h3 := m.val kept hk v hvg h
      unfold vl0 at h3
      grind
    · have : v ∉ nb kept := by grind
      grind
  have sy : vl0 nb wt v kept = vl0 nb wt kept v := by
    unfold vl0
    have a1 := s.mem kept (hW _ hk) v
    have a2 := s.mem v (hW _ hv) kept
    grind
  refine ⟨fun u hu => ?_, fun u hu y => ?_, fun u hu y hy hm => ?_⟩
  · unfold up
    split
    · exact add_nd ((m.nd v hv).filter _)
    · split
      · exact add_nd (m.nd kept hk)
      · exact m.nd u hu
  · have h1 := m.mem u hu y
    have h2 := m.mem kept hk y
    have h3 := m.mem v hv y
    unfold up
    by_cases e1 : u = v
    · subst e1
      rw [if_pos rfl, add_mem, List.mem_filter]
      grind
    · rw [if_neg e1]
      by_cases e2 : u = kept
      · subst e2
        rw [if_pos rfl, add_mem]
        grind
      · rw [if_neg e2, if_neg e1, h1]
        grind
  · unfold up at hm
    unfold upw
    by_cases e1 : u = v
    · subst e1
      rw [if_pos rfl, add_mem, List.mem_filter] at hm
      rw [if_pos rfl]
      dsimp only
      have h3 := m.mem u hu y
      by_cases e3 : y = kept
      · subst e3
        rw [if_pos rfl, hn2, sy]
        grind
      · rw [if_neg e3]
        have hm2 : y ∈ nbi u := by grind
        rw [m.val u hu y hy hm2]
        grind
    · rw [if_neg e1] at hm
      rw [if_neg e1]
      by_cases e2 : u = kept
      · subst e2
        rw [if_pos rfl, add_mem] at hm
        rw [if_pos rfl]
        dsimp only
        by_cases e3 : y = v
        · subst e3
          rw [if_pos rfl, hn2]
          grind
        · rw [if_neg e3]
          have hm2 : y ∈ nbi u := by grind
          rw [m.val u hu y hy hm2]
          grind
      · rw [if_neg e2, if_neg e1] at hm
        rw [if_neg e2, m.val u hu y hy hm]
        grind
end
structure Merged (nb : Nb) (wt : Wt) (kept gone : Str) (Ws : List Str) (nb' : Nb) (wt' : Wt) : Prop where
  mem : ∀ u ∈ Ws, ∀ y, y ∈ nb' u ↔ y ≠ gone ∧ y ≠ u ∧ (y ∈ nb u ∨ (u = kept ∧ y ∈ nb gone) ∨ (y = kept ∧ gone ∈ nb u))
  val : ∀ u ∈ Ws, ∀ y, y ∈ nb' u → wt' u y = vl0 nb wt u y + (if u = kept then vl0 nb wt gone y else 0) + (if y = kept then vl0 nb wt gone u else 0)
  sym : Sym Ws nb' wt'
theorem Mp.done {nb : Nb} {wt : Wt} {kept gone : Str} {Vs : List Str} {nbi : Nb} {wti : Wt} (s : Sym Vs nb wt) (hk : kept ∈ Vs) (hg : gone ∈ Vs) (hne : kept ≠ gone) (m : Mp nb wt kept gone (Vs.filter fun y => decide (y ≠ gone)) (nb gone) nbi wti) :
    Merged nb wt kept gone (Vs.filter fun y => decide (y ≠ gone)) nbi wti := by
  have mw : ∀ u, u ∈ (Vs.filter fun y => decide (y ≠ gone)) ↔ u ∈ Vs ∧ u ≠ gone := fun u => by
    rw [List.mem_filter, decide_eq_true_iff]
  have mem : ∀ u ∈ (Vs.filter fun y => decide (y ≠ gone)), ∀ y, y ∈ nbi u ↔ y ≠ gone ∧ y ≠ u ∧ (y ∈ nb u ∨ (u = kept ∧ y ∈ nb gone) ∨ (y = kept ∧ gone ∈ nb u)) := fun u hu y => by
    have h1 := m.mem u hu y
    have hu' := (mw u).mp hu
    have a1 := s.mem u hu'.1
    have a2 := s.mem gone hg
    grind
  have vl : ∀ u ∈ (Vs.filter fun y => decide (y ≠ gone)), ∀ y, y ∈ nbi u → wti u y = vl0 nb wt u y + (if u = kept then vl0 nb wt gone y else 0) + (if y = kept then vl0 nb wt gone u else 0) := fun u hu y hy => by
    have h0 := (mem u hu y).mp hy
    rw [m.val u hu y h0.1 hy]
    unfold vl0
    have a2 := s.mem gone hg
    grind
  refine ⟨mem, vl, ⟨m.nd, fun u hu v hv => ?_⟩⟩
  have hu' := (mw u).mp hu
  have h0 := (mem u hu v).mp hv
  have a1 := s.mem u hu'.1
  have a2 := s.mem gone hg
  have hvV : v ∈ Vs := by grind
  have hvW : v ∈ (Vs.filter fun y => decide (y ≠ gone)) := (mw v).mpr ⟨hvV, h0.1⟩
  have a3 := s.mem v hvV
  have hb : u ∈ nbi v := by
    rw [mem v hvW u]
    grind
  refine ⟨hvW, h0.2.1, hb, ?_⟩
  rw [vl v hvW u hb, vl u hu v hv]
  unfold vl0
  grind
open L2 in
theorem putI {H : Hp} {a : Addr} {ks : List Str} {f : Str → Int} {v : Str} {n : Int} (h : H a = some (.dK (dct ks fun y => .int (f y)))) (hl : ks.length < sizeLine) : DPut H a (.str v) (.int n) (upd H a (.dK (dct (add ks v) fun y => .int (if y = v then n else f y)))) := by
  have e : ∀ l : List Str, dct l (fun y => if y = v then V.int n else V.int (f y)) = dct l fun y => V.int (if y = v then n else f y) := fun l => dct_congr fun y _ => by split <;> rfl
  unfold add
  by_cases hv : v ∈ ks
  · rw [if_pos hv, ← e]
    exact put_d h hv hl
  · rw [if_neg hv, ← e]
    exact put_n h hv hl
end WkP
namespace WkP
open PySem WkN
def grow (grp : Str → List Str) (x l : Str) : Str → List Str := fun u => if u = x then grp x ++ grp l else grp u
def better (best : Option (Int × List Str)) (n : Int) (g : List Str) : Option (Int × List Str) := match best with
  | none => some (n, g)
  | some (m, h) => if n < m then some (n, g) else some (m, h)
inductive Phases (Vs : List Str) (nb : Nb) (wt : Wt) : List Str → Nb → Wt → (Str → List Str) → Option (Int × List Str) → Prop
  | start : Phases Vs nb wt Vs nb wt (fun u => [u]) none
  | step {Ws : List Str} {nb' nb'' : Nb} {wt' wt'' : Wt} {grp : Str → List Str} {best : Option (Int × List Str)} {x l : Str} {n : Int} :
      Phases Vs nb wt Ws nb' wt' grp best → LastTwo nb' wt' Ws x l n → Merged nb' wt' x l (Ws.filter fun y => decide (y ≠ l)) nb'' wt'' →
      Phases Vs nb wt (Ws.filter fun y => decide (y ≠ l)) nb'' wt'' (grow grp x l) (better best n (grp l))
structure Grps (Vs Ws : List Str) (grp : Str → List Str) : Prop where
  sub : ∀ u ∈ Ws, u ∈ Vs
  mem : ∀ u ∈ Ws, ∀ y ∈ grp u, y ∈ Vs
  nd : ∀ u ∈ Ws, (grp u).Nodup
  dis : ∀ u ∈ Ws, ∀ v ∈ Ws, ∀ y, y ∈ grp u → y ∈ grp v → u = v
theorem Phases.grps {Vs : List Str} {nb : Nb} {wt : Wt} {Ws : List Str} {nb' : Nb} {wt' : Wt} {grp : Str → List Str} {best : Option (Int × List Str)} (p : Phases Vs nb wt Ws nb' wt' grp best) : Grps Vs Ws grp := by
  induction p with
  | start => exact ⟨fun u h => h, fun u h y hy => by rw [List.mem_singleton.mp hy]; exact h, fun u _ => by simp, fun u _ v _ y h1 h2 => by rw [← List.mem_singleton.mp h1, ← List.mem_singleton.mp h2]⟩
  | @step Ws nb' nb'' wt' wt'' grp best x l n p lt mg ih =>
    obtain ⟨hx, hl, hne⟩ := lt.mem
    obtain ⟨i1, i2, i3, i4⟩ := ih
    have mw : ∀ u, u ∈ (Ws.filter fun y => decide (y ≠ l)) ↔ u ∈ Ws ∧ u ≠ l := fun u => by rw [List.mem_filter, decide_eq_true_iff]
    refine ⟨fun u hu => i1 u ((mw u).mp hu).1, fun u hu y hy => ?_, fun u hu => ?_, fun u hu v hv y h1 h2 => ?_⟩
    · unfold grow at hy
      split at hy
      · rcases List.mem_append.mp hy with h | h
        · exact i2 x hx y h
        · exact i2 l hl y h
      · exact i2 u ((mw u).mp hu).1 y hy
    · unfold grow
      split
      · rw [List.nodup_append]
        exact ⟨i3 x hx, i3 l hl, fun a ha b hb e => hne (i4 x hx l hl a ha (e ▸ hb))⟩
      · exact i3 u ((mw u).mp hu).1
    · have hu' := (mw u).mp hu
      have hv' := (mw v).mp hv
      unfold grow at h1 h2
      have a := i4 u hu'.1 v hv'.1 y
      have b := i4 x hx v hv'.1 y
      have c := i4 l hl v hv'.1 y
      have d := i4 u hu'.1 x hx y
      have e := i4 u hu'.1 l hl y
      grind
theorem Grps.len {Vs Ws : List Str} {grp : Str → List Str} (g : Grps Vs Ws grp) {u : Str} (hu : u ∈ Ws) : (grp u).length ≤ Vs.length :=
  (g.nd u hu).length_le_of_subset fun y hy => g.mem u hu y hy
def LeastCut (Vs : List Str) (nb : Nb) (wt : Wt) (n : Int) (m : List Str) : Prop := ∃ Ws nb' wt' grp, Phases Vs nb wt Ws nb' wt' grp (some (n, m)) ∧ Ws.length ≤ 1
def sideL (top : Str) (Vs m : List Str) : List Str := Vs.filter fun v => !decide (L2.V.bl (decide (v ∈ m)) = L2.V.bl (decide (top ∈ m)))
theorem Phases.none {Vs : List Str} {nb : Nb} {wt : Wt} {Ws : List Str} {nb' : Nb} {wt' : Wt} {grp : Str → List Str} {best : Option (Int × List Str)} (p : Phases Vs nb wt Ws nb' wt' grp best) (h : best = Option.none) : Ws = Vs := by
  cases p with
  | start => rfl
  | @step Ws nb' nb'' wt' wt'' grp best x l n p lt mg =>
    unfold better at h
    split at h
    · cases h
    · split at h <;> cases h
end WkP
namespace WkN
open PySem PySem.Spec PyProof.Rows L2 WkD
theorem piL {X : Cx} {tg e : Expr} {te : TE} (K : PySem.W.Frag) (h : X.K = K) (he : PE X e te) : PI X tg e (iList K te) := by
  subst h
  exact pi_list he
end WkN
namespace WkN
open PySem PySem.Spec PyProof.Rows L2 WkD
theorem piOr {X : Cx} {tg e : Expr} {t u : TI} (h1 : PI X tg e t) (h2 : PI X tg e u) : PI X tg e (fun σ H R => t σ H R ∨ u σ H R) := by
  refine ⟨fun pins s σ H R I h => ?_⟩
  rcases h with h | h
  · exact h1.run pins s σ H R I h
  · exact h2.run pins s σ H R I h
end WkN
namespace WkP
open PySem WkN
abbrev Ed := Str × Str × Int
def Adj (es : List Ed) (u v : Str) (n : Int) : Prop := (u, v, n) ∈ es ∨ (v, u, n) ∈ es
structure RowsOf (Vs : List Str) (es : List Ed) (nb : Nb) (wt : Wt) : Prop where
  nd : ∀ u ∈ Vs, (nb u).Nodup
  mem : ∀ u ∈ Vs, ∀ v, v ∈ nb u ↔ ∃ n, Adj es u v n
  val : ∀ u ∈ Vs, ∀ v n, Adj es u v n → wt u v = n
theorem RowsOf.nil (Vs : List Str) (wt : Wt) : RowsOf Vs [] (fun _ => []) wt := by
  refine ⟨fun u _ => by simp, fun u _ v => ?_, fun u _ v n h => ?_⟩
  · simp [Adj]
  · simp [Adj] at h
theorem RowsOf.snoc {Vs : List Str} {es : List Ed} {nb : Nb} {wt : Wt} {a b : Str} {n : Int} (r : RowsOf Vs es nb wt) (ha : a ∈ Vs) (hb : b ∈ Vs) (hne : a ≠ b) (hn : b ∉ nb a) :
    RowsOf Vs (es ++ [(a, b, n)]) (up (up nb a (add (nb a) b)) b (add (nb b) a)) (upw (upw wt a fun y => if y = b then n else wt a y) b fun y => if y = a then n else wt b y) := by
  have adj : ∀ u v m, Adj (es ++ [(a, b, n)]) u v m ↔ Adj es u v m ∨ (u = a ∧ v = b ∧ m = n) ∨ (u = b ∧ v = a ∧ m = n) := fun u v m => by
    unfold Adj
    grind
  have ma := r.mem a ha
  have mb := r.mem b hb
  have sy : ∀ u v m, Adj es u v m → Adj es v u m := fun u v m h => h.symm
  have hn2 : a ∉ nb b := fun h => by
    obtain ⟨m, hm⟩ := (mb a).mp h
    exact hn ((ma b).mpr ⟨m, sy _ _ _ hm⟩)
  refine ⟨fun u hu => ?_, fun u hu v => ?_, fun u hu v m h => ?_⟩
  · unfold up
    split
    · exact add_nd (r.nd b hb)
    · split
      · exact add_nd (r.nd a ha)
      · exact r.nd u hu
  · have h1 := r.mem u hu v
    have h2 := ma v
    have h3 := mb v
    unfold up
    by_cases e1 : u = b
    · subst e1
      rw [if_pos rfl, add_mem, h3]
      constructor
      · rintro (⟨m, h⟩ | h)
        · exact ⟨m, (adj _ _ _).mpr (.inl h)⟩
        · exact ⟨n, (adj _ _ _).mpr (.inr (.inr ⟨rfl, h, rfl⟩))⟩
      · rintro ⟨m, h⟩
        rcases (adj _ _ _).mp h with h | h | h
        · exact .inl ⟨m, h⟩
        · exact absurd h.1.symm hne
        · exact .inr h.2.1
    · rw [if_neg e1]
      by_cases e2 : u = a
      · subst e2
        rw [if_pos rfl, add_mem, h2]
        constructor
        · rintro (⟨m, h⟩ | h)
          · exact ⟨m, (adj _ _ _).mpr (.inl h)⟩
          · exact ⟨n, (adj _ _ _).mpr (.inr (.inl ⟨rfl, h, rfl⟩))⟩
        · rintro ⟨m, h⟩
          rcases (adj _ _ _).mp h with h | h | h
          · exact .inl ⟨m, h⟩
          · exact .inr h.2.1
          · exact absurd h.1 hne
      · rw [if_neg e2, h1]
        constructor
        · rintro ⟨m, h⟩
          exact ⟨m, (adj _ _ _).mpr (.inl h)⟩
        · rintro ⟨m, h⟩
          rcases (adj _ _ _).mp h with h | h | h
          · exact ⟨m, h⟩
          · exact absurd h.1 e2
          · exact absurd h.1 e1
  · have va := r.val u hu v m
    have hb' := (mb v).mpr
    have ha' := (ma v).mpr
    unfold upw
    rcases (adj _ _ _).mp h with h | h | h
    · grind
    · grind
    · grind
end WkP
namespace WkG
open PySem PySem.Spec PyProof.Rows L2
def keyD : Key → PyData
  | .inl i => .int i
  | .inr x => .str x
mutual
inductive Dx (K : PySem.W.Frag) (H : Hp) : V → PyData → Prop
  | non : Dx K H .non .none
  | bl (b : Bool) : Dx K H (.bl b) (.bool b)
  | int (i : Int) : Dx K H (.int i) (.int i)
  | str (x : Str) : Dx K H (.str x) (.str x)
  | lst {a : Addr} {xs : List V} {ds : List PyData} : SqL K H a xs → DxAll K H xs ds → Dx K H (.ref a) (.list ds)
  | tup {a : Addr} {xs : List V} {ds : List PyData} : SqT K H a xs → DxAll K H xs ds → Dx K H (.ref a) (.tuple ds)
  | dK {a : Addr} {kvs : List (Key × V)} {ks vs : List PyData} {es : List (PyData × PyData)} : Rd H a (.dK kvs) → DxAll K H (kvs.map (·.2)) vs → ks = kvs.map (fun p => keyD p.1) → es.map (·.1) = ks → es.map (·.2) = vs → Dx K H (.ref a) (.dict es)
  | dT {a : Addr} {kvs : List (List Key × V)} {vs : List PyData} {es : List (PyData × PyData)} : H a = some (.dT kvs) → DxAll K H (kvs.map (·.2)) vs → es.map (·.1) = kvs.map (fun p => PyData.tuple (p.1.map keyD)) → es.map (·.2) = vs → Dx K H (.ref a) (.dict es)
inductive DxAll (K : PySem.W.Frag) (H : Hp) : List V → List PyData → Prop
  | nil : DxAll K H [] []
  | cons {v : V} {vs : List V} {d : PyData} {ds : List PyData} : Dx K H v d → DxAll K H vs ds → DxAll K H (v :: vs) (d :: ds)
end
theorem keyD_reads {h : Heap} {k : Key} {v : Value} (e : keyIs k v = true) : Reads h v (keyD k) [] := by
  rcases keyIs_shape e with ⟨i, t, rfl, rfl⟩ | ⟨x, t, rfl, rfl⟩
  · exact .int i t
  · exact .str x t
theorem pairs_reads {P : Program} {w : World} {h : Heap} : ∀ {es : List DictEntry} {vs : List (Key × Value)}, Pairs (mixKind P w) es vs → ReadsAll h (es.map (·.key)) (vs.map fun p => keyD p.1) [] ∧ es.map (·.val) = vs.map (·.2)
  | [], [], _ => ⟨.nil, rfl⟩
  | e :: es, kv :: vs, h => by
    cases h with
    | cons h1 h2 h3 =>
      obtain ⟨r1, r2⟩ := pairs_reads h3
      refine ⟨.cons (as := []) (bs := []) (keyD_reads h1) r1, ?_⟩
      rw [List.map_cons, List.map_cons, r2, h2]
theorem kv_keys {kvs : List (Key × V)} {vs : List (Key × Value)} (h : KV kvs vs) : kvs.map (fun p => keyD p.1) = vs.map (fun p => keyD p.1) ∧ Vals (kvs.map (·.2)) (vs.map (·.2)) := by
  induction h with
  | nil => exact ⟨rfl, .nil⟩
  | cons r t ih =>
    refine ⟨?_, .cons r.2 ih.2⟩
    rw [List.map_cons, List.map_cons, ih.1, r.1]
def Sm (K : PySem.W.Frag) : Prop := ∃ o, K.lookup sysModules = some o ∧ o.cls = .type "dict"
section
variable {X : Cx} {pins : List (Addr × Obj)} {σ : L2.St} {H : Hp} {s : Shared}
theorem sm_none (I : Inv X pins σ H s) (S : Sm X.K) : H sysModules = none := by
  obtain ⟨o, e, _⟩ := S
  exact (I.bs _ _ (I.ok.mod.kin _ _ e)).2
theorem sm_list (I : Inv X pins σ H s) (S : Sm X.K) {a : Addr} {xs : List V} (h : SqL X.K H a xs) : sysModules ≠ a := by
  intro z
  subst z
  rcases h with (h | ⟨o, h⟩) | ⟨o, its, n, hk, hc, _⟩
  · rw [sm_none I S] at h
    cases h
  · rw [sm_none I S] at h
    cases h
  · obtain ⟨o', e, c⟩ := S
    rw [e] at hk
    cases hk
    rw [c] at hc
    exact absurd (Value.type.inj hc) (by decide)
theorem tk_reads {h : Heap} : ∀ (ks : List Key) (its : List Value), Vals (ks.map kV) its → ReadsAll h its (ks.map keyD) []
  | [], _, r => by
    cases r
    exact .nil
  | k :: ks, _, r => by
    cases r with
    | cons r1 r2 =>
      refine .cons (as := []) (bs := []) ?_ (tk_reads ks _ r2)
      cases k with
      | inl i =>
        obtain ⟨t, rfl⟩ := r1
        exact .int i t
      | inr x =>
        obtain ⟨t, rfl⟩ := r1
        exact .str x t
theorem dt_reads (I : Inv X pins σ H s) : ∀ {kvs : List (List Key × V)} {xs : List (List Key × Addr × Value)}, Paired (fun (p : List Key × V) (q : List Key × Addr × Value) => p.1 = q.1 ∧ H q.2.1 = some (.tup (p.1.map kV)) ∧ RelV p.2 q.2.2) kvs xs →
    ReadsAll s.heap (xs.map fun q => Value.ref q.2.1) (kvs.map fun p => PyData.tuple (p.1.map keyD)) [] ∧ Vals (kvs.map (·.2)) (xs.map (·.2.2))
  | _, _, .nil => ⟨.nil, .nil⟩
  | _, _, .cons h r => by
    obtain ⟨r1, r2⟩ := dt_reads I r
    obtain ⟨_, ht, rv⟩ := h
    obtain ⟨its, rvs, ⟨o, ho, hc, n, hd⟩, _⟩ := I.tuple (.inl (.inl ht))
    exact ⟨.cons (as := []) (bs := []) (.tuple ho hc hd (tk_reads _ _ rvs)) r1, .cons rv r2⟩
mutual
theorem Dx.reads (I : Inv X pins σ H s) (S : Sm X.K) : ∀ (d : PyData) (v : V) (u : Value), Dx X.K H v d → RelV v u → ∃ as, Reads s.heap u d as ∧ sysModules ∉ as
  | .none, _, _, h, r => by
    cases h
    cases r
    exact ⟨_, Reads.none, by simp⟩
  | .bool b, _, _, h, r => by
    cases h
    cases r
    exact ⟨_, Reads.bool b, by simp⟩
  | .int i, _, _, h, r => by
    cases h
    obtain ⟨t, rfl⟩ := r
    exact ⟨_, Reads.int i t, by simp⟩
  | .str x, _, _, h, r => by
    cases h
    obtain ⟨t, rfl⟩ := r
    exact ⟨_, Reads.str x t, by simp⟩
  | .list ds, _, _, h, r => by
    cases h with
    | lst hs ha =>
      cases r
      obtain ⟨its, rv, ⟨o, n, ho, hc, _, hd⟩, _⟩ := I.list hs
      obtain ⟨as, hr, hn⟩ := Dx.readsAll I S ds _ its ha rv
      refine ⟨_, Reads.list ho hc hd hr, fun z => ?_⟩
      rcases List.mem_cons.mp z with z | z
      · exact sm_list I S hs z
      · exact hn z
  | .tuple ds, _, _, h, r => by
    cases h with
    | tup hs ha =>
      cases r
      obtain ⟨its, rv, ⟨o, ho, hc, n, hd⟩, _⟩ := I.tuple hs
      obtain ⟨as, hr, hn⟩ := Dx.readsAll I S ds _ its ha rv
      exact ⟨_, Reads.tuple ho hc hd hr, hn⟩
  | .dict es, _, _, h, r => by
    cases h with
    | dK hs ha e1 e2 e3 =>
      cases r
      obtain ⟨z, y, vs, rel, o, ens, ep, ho, hx, hd, _, hp, _⟩ := hs.ok I.hok
      obtain ⟨k1, k2⟩ := kv_keys rel
      obtain ⟨p1, p2⟩ := pairs_reads (h := s.heap) hp
      have hz : es.map (·.2) = es.map (·.2) := rfl
      obtain ⟨bs, hr, hn⟩ := Dx.readsKv I S es _ _ (e3 ▸ ha) k2
      rw [← p2] at hr
      rw [← k1, ← e1, ← e2] at p1
      refine ⟨_, Reads.dict ho hx.1 hd p1 hr, fun q => ?_⟩
      rcases List.mem_cons.mp q with q | q
      · rw [← q] at y
        exact absurd y (by decide)
      · exact hn (by simpa using q)
    | dT hs ha e2 e3 =>
      cases r
      obtain ⟨z, y, xs, rel, o, ens, ep, ho, hx, hd, hes, _⟩ := I.hok _ _ hs
      obtain ⟨p1, k2⟩ := dt_reads I rel
      obtain ⟨bs, hr, hn⟩ := Dx.readsKv I S es _ _ (e3 ▸ ha) k2
      have q1 : ens.toList.map (·.key) = xs.map fun q => Value.ref q.2.1 := by rw [hes, List.map_map]; rfl
      have q2 : ens.toList.map (·.val) = xs.map (·.2.2) := by rw [hes, List.map_map]; rfl
      rw [← q1, ← e2] at p1
      rw [← q2] at hr
      refine ⟨_, Reads.dict ho hx.1 hd p1 hr, fun q => ?_⟩
      rcases List.mem_cons.mp q with q | q
      · rw [← q] at y
        exact absurd y (by decide)
      · exact hn (by simpa using q)
theorem Dx.readsAll (I : Inv X pins σ H s) (S : Sm X.K) : ∀ (ds : List PyData) (vs : List V) (us : List Value), DxAll X.K H vs ds → Vals vs us → ∃ as, ReadsAll s.heap us ds as ∧ sysModules ∉ as
  | [], _, _, h, r => by
    cases h
    cases r
    exact ⟨_, ReadsAll.nil, by simp⟩
  | d :: ds, _, _, h, r => by
    cases h with
    | cons h1 h2 =>
      cases r with
      | cons r1 r2 =>
        obtain ⟨as, q1, n1⟩ := Dx.reads I S d _ _ h1 r1
        obtain ⟨bs, q2, n2⟩ := Dx.readsAll I S ds _ _ h2 r2
        exact ⟨_, ReadsAll.cons q1 q2, fun z => (List.mem_append.mp z).elim n1 n2⟩
theorem Dx.readsKv (I : Inv X pins σ H s) (S : Sm X.K) : ∀ (es : List (PyData × PyData)) (vs : List V) (us : List Value), DxAll X.K H vs (es.map (·.2)) → Vals vs us → ∃ as, ReadsAll s.heap us (es.map (·.2)) as ∧ sysModules ∉ as
  | [], _, _, h, r => by
    cases h
    cases r
    exact ⟨_, ReadsAll.nil, by simp⟩
  | (k, d) :: es, _, _, h, r => by
    cases h with
    | cons h1 h2 =>
      cases r with
      | cons r1 r2 =>
        obtain ⟨as, q1, n1⟩ := Dx.reads I S d _ _ h1 r1
        obtain ⟨bs, q2, n2⟩ := Dx.readsKv I S es _ _ h2 r2
        exact ⟨_, ReadsAll.cons q1 q2, fun z => (List.mem_append.mp z).elim n1 n2⟩
end
end
theorem seqT_same {K : PySem.W.Frag} {H H' : Hp} {a : Addr} {xs : List V} (e : Same H H') (h : SqT K H a xs) : SqT K H' a xs := by
  rcases h with (h | ⟨o, h⟩) | h
  · exact .inl (.inl (e _ _ h))
  · exact .inl (.inr ⟨o, e _ _ h⟩)
  · exact .inr h
theorem rd_same {H H' : Hp} {a : Addr} {u : HO} (e : Same H H') (h : Rd H a u) : Rd H' a u := by
  rcases h with h | ⟨o, h⟩
  · exact .inl (e _ _ h)
  · exact .inr ⟨o, e _ _ h⟩
mutual
theorem Dx.same {K : PySem.W.Frag} {H H' : Hp} (e : Same H H') : ∀ {d : PyData} {v : V}, Dx K H v d → Dx K H' v d
  | _, _, .non => .non
  | _, _, .bl b => .bl b
  | _, _, .int i => .int i
  | _, _, .str x => .str x
  | _, _, .lst h1 h2 => .lst (e.seq h1) (DxAll.same e h2)
  | _, _, .tup h1 h2 => .tup (seqT_same e h1) (DxAll.same e h2)
  | _, _, .dK h1 h2 e1 e2 e3 => .dK (rd_same e h1) (DxAll.same e h2) e1 e2 e3
  | _, _, .dT h1 h2 e2 e3 => .dT (e _ _ h1) (DxAll.same e h2) e2 e3
theorem DxAll.same {K : PySem.W.Frag} {H H' : Hp} (e : Same H H') : ∀ {ds : List PyData} {vs : List V}, DxAll K H vs ds → DxAll K H' vs ds
  | _, _, .nil => .nil
  | _, _, .cons h1 h2 => .cons (Dx.same e h1) (DxAll.same e h2)
end
section
variable {X : Cx}
end
section
variable {X : Cx}
def rNilN (K : PySem.W.Frag) : R2 := fun x y H Q => ∃ a b xs, x = .ref a ∧ y = .ref b ∧ SqL K H a xs ∧ SqL K H b [] ∧ Q (.bl (!xs.isEmpty)) H
theorem op_neNil (hu : X.A.units + 64 < cLine) : OpR X (compareOp .NotEq) (rNilN X.K) := by
  intro pins s σ H x y v u Q I rx ry h
  obtain ⟨a, b, xs, rfl, rfl, ha, hb, q⟩ := h
  obtain rfl : v = Value.ref a := rx
  obtain rfl : u = Value.ref b := ry
  obtain ⟨is, r1, ⟨o1, n1, g1, c1, _, d1⟩, _⟩ := I.list ha
  obtain ⟨js, r2, ⟨o2, n2, g2, c2, _, d2⟩, _⟩ := I.list hb
  cases r2
  cases r1 with
  | nil => exact SeqAt.RcNeAt.lists (e := fun _ => true) ⟨o1, g1, c1, n1, d1⟩ ⟨o2, g2, c2, n2, d2⟩ rfl (by omega) (fun j h1 _ => absurd h1 (by simp)) X.prog X.w _ _ ⟨.bl false, H, I, rfl, q⟩
  | cons r t => exact SeqAt.RcNeAt.lists_lengths ⟨o1, g1, c1, n1, d1⟩ ⟨o2, g2, c2, n2, d2⟩ (by simp) (by omega) X.prog X.w _ _ ⟨.bl true, H, I, rfl, q⟩
end
structure FnG (P : Program) (w : World) (K : PySem.W.Frag) (mg : Str → Option Value) (base : Heap) (CX : CXT) (k : Nat) (f : Addr) (fd : FuncData) (ps : List Str) (sp : Sp) : Prop where
  len : ∀ vs H Q E, sp vs H Q E → vs.length = ps.length
  run : ∀ (A : Around) (outer : List Env) (s : Shared) (H : Hp) (args : Args) (us : List Value) (vs : List V) (Q : VK) (E : XK), A.guards = some [] → Room k A → Env0 P w K mg base A outer s H → BindsTo s fd args (ps.zip us) → Vals vs us → sp vs H Q E →
    codeAny (model P w) A (.call (.ref f) args) (CR CX outer P w H s Q E) s
section
variable {P : Program} {w : World} {K : PySem.W.Frag} {mg : Str → Option Value} {base : Heap} {CX : CXT} {k : Nat} {f : Addr} {fd : FuncData} {ps : List Str} {sp : Sp}
theorem FnG.of (F : FnOk P w K mg base CX k f fd ps sp) : FnG P w K mg base CX k f fd ps sp := ⟨F.len, fun A outer s H args us vs Q E _ hr he hb hv hs => F.run A outer s H args us vs Q E hr he hb hv hs⟩
theorem FnG.mono {j : Nat} (F : FnG P w K mg base CX j f fd ps sp) (h : j ≤ k) : FnG P w K mg base CX k f fd ps sp := ⟨F.len, fun A outer s H args us vs Q E hg hr => F.run A outer s H args us vs Q E hg (hr.mono h)⟩
theorem deep_guards {A : Around} {env : Env} (h : A.guards = some []) : (A.deeper env).guards = some [] := h
theorem okG {x qual : Str} {params : Arguments} {body : List Stmt} {scope : Scope} {dvs : List V} {kws : List (Str × V)} {N : List Str} (F : FunD K x qual params body scope dvs kws f fd) (S : FnScope N ps scope) (len : ∀ vs H Q E, sp vs H Q E → vs.length = ps.length)
    (hbody : ∀ (cdv : Value) (A : Around) (outer : List Env) (s : Shared) (H : Hp) (vs : List V) (Q : VK) (E : XK), (A.deeper (envOfC qual scope s.heap.objs.size f cdv)).guards = some [] → Room k (A.deeper (envOfC qual scope s.heap.objs.size f cdv)) → sp vs H Q E →
      ∃ t, PSs (cxOf CX P w K mg base N qual scope f cdv A outer s H E) body t ∧ t { nx := fun _ H' => Q .non H', rt := Q } (start N vs) H) : FnG P w K mg base CX (k + 1) f fd ps sp := by
  obtain ⟨oc, od, dV, kV, doc, pm, an, cdv, ct, osl, rfl, lk, hcd, _, _⟩ := F.ex
  refine ⟨len, fun A outer s H args us vs Q E hg hr e0 hb rel hsp => ?_⟩
  have kx : K.In s.heap := e0.mod.kin.keeps fun b o e => (e0.bs b o e).1
  have nl : s.heap.NoLimit := e0.mod.nolimit.keeps fun b o e => (e0.bs b o e).1
  have kinds : ∀ y ∈ ps.zip us, scope.names.lookup y.1 = some .local ∨ (scope.names.lookup y.1 = some .cell ∧ ((cellsFrom (s.heap.objs.size + 1) scope.names []).lookup y.1).isSome = true) := fun y hy => by
    rcases S.par y.1 (List.of_mem_zip (a := y.1) (b := y.2) hy).1 with q | q
    · exact .inl q
    · exact .inr ⟨q, PySem.W.cellsFrom_some _ _ _ (.inl q)⟩
  refine codeAny_call_function hr.depth (kx _ _ lk) rfl S.co S.gen rfl (PySem.W.codeRec_of kx hcd) (hb _ _ _ _ ?_)
  refine wpAny_newFunctionEnv_cells S.kind kinds fun env he s1 inc => ?_
  subst he
  refine ⟨nl.keeps inc.toInCall.keep, codeAny_func ?_⟩
  obtain ⟨t, ht, hq⟩ := hbody cdv A outer s H vs Q E (deep_guards hg) (hr.deeper _) hsp
  have J : Inv (cxOf CX P w K mg base N qual scope f cdv A outer s H E) [] (start N vs) H s1 := inv_start S hr.hd e0 (len _ _ _ _ hsp) rel inc
  refine wpAny_mono (ht.run [] s1 (start N vs) H _ J hq) (fun fl s' hs => ?_) fun e s' hs => hs
  cases fl with
  | ret u =>
    obtain ⟨v, σ', H', J2, rv, q⟩ := hs
    exact ⟨v, H', J2.os, J2.bare, J2.base, J2.hok, rv, q⟩
  | next =>
    obtain ⟨σ', H', J2, q⟩ := hs
    exact ⟨V.non, H', J2.os, J2.bare, J2.base, J2.hok, rfl, q⟩
  | brk =>
    obtain ⟨_, _, _, q⟩ := hs
    exact False.elim q
  | cont =>
    obtain ⟨_, _, _, q⟩ := hs
    exact False.elim q
end
section
variable {X : Cx} {CX : CXT} {k : Nat} {f : Addr} {fd : FuncData} {ps : List Str} {sp : Sp} {dvs : List V} {ds : List Value} {E : XK} {x : Str} {p pos : Pos} {e : Expr} {es : List Expr} {t : TA}
end
section
variable {P : Program} {w : World} {K : PySem.W.Frag} {mg mb : Str → Option Value} {CX : CXT} {k : Nat} {fa a : Addr} {fd : FuncData} {x : Str} {sp : Sp} {s₁ : Shared} {vs : List Value} {ns : List Int}
end
def smB (K : PySem.W.Frag) : Bool := match K.lookup sysModules with
  | some ⟨.type c, _, _, _⟩ => c == "dict"
  | _ => false
end WkG
namespace WkN
open PySem PySem.Spec PyProof.Rows L2 WkD
section
variable {K : PySem.W.Frag}
def SqX (b : Bool) (K : PySem.W.Frag) (H : Hp) (a : Addr) (xs : List V) : Prop := match b with
  | true => SqL K H a xs
  | false => SqT K H a xs
theorem SqX.same {b : Bool} {H H' : Hp} {a : Addr} {xs : List V} (h : SqX b K H a xs) (e : Same H H') : SqX b K H' a xs := by
  cases b with
  | true => exact e.seq h
  | false => exact WkG.seqT_same e h
theorem orSeq {b : Bool} {H : Hp} {σ : L2.St} {a : Addr} {i : Nat} {xs : List V} {R : It → Hp → Prop} (h : SqX b K H a xs) (hv : σ[i]? = some (some (.ref a))) (k : ∀ J, Walk J xs.length (fun H => SqX b K H a xs) (YAt xs) → R J H) :
    iList K (tVar i) σ H R ∨ iTup K (tVar i) σ H R := by
  cases b with
  | true => exact .inl ⟨_, hv, a, rfl, ⟨_, h⟩, k _ walk_list⟩
  | false => exact .inr ⟨_, hv, a, rfl, ⟨_, h⟩, k _ walk_tup⟩
theorem tyT {H : Hp} {a : Addr} {xs : List V} (h : SqT K H a xs) : TyX K H (.ref a) (.type "tuple") := by
  rcases h with (h | ⟨o, h⟩) | ⟨o, its, n, hk, hc, _⟩
  · exact .base (.tup h)
  · exact .fTuple h
  · exact .kTuple hk hc
theorem take_nin {α : Type} {l : List α} (nd : l.Nodup) {i : Nat} (hi : i < l.length) : l[i] ∉ l.take i := fun z => by
  obtain ⟨j, hj, e⟩ := List.mem_iff_getElem.mp z
  rw [List.length_take] at hj
  rw [List.getElem_take] at e
  have := (List.getElem_inj nd).mp e
  omega
theorem decV {u v : Str} : decide (V.str u = V.str v) = decide (u = v) := by
  by_cases h : u = v
  · rw [decide_eq_true h, decide_eq_true (by rw [h])]
  · rw [decide_eq_false h, decide_eq_false (fun z => h (V.str.inj z))]
theorem decI {u v : Int} : decide (V.int u = V.int v) = decide (u = v) := by
  by_cases h : u = v
  · rw [decide_eq_true h, decide_eq_true (by rw [h])]
  · rw [decide_eq_false h, decide_eq_false (fun z => h (V.int.inj z))]
theorem np_of {H H' : Hp} {p : Addr} (e : Same H H') (h : H' p = none) : H p = none := by
  cases z : H p with
  | none => rfl
  | some o =>
    rw [e _ _ z] at h
    cases h
def NoSq : HO → Prop
  | .lst _ => False
  | .tup _ => False
  | .frz _ _ => False
  | _ => True
theorem tup_upd {H : Hp} {a r : Addr} {xs : List V} {o o' : HO} (h : SqT K H r xs) (ha : H a = some o) (no : NoSq o) : SqT K (upd H a o') r xs := by
  rcases h with (h | ⟨u, h⟩) | h
  · refine .inl (.inl ?_)
    rw [upd_ne (ne_of h ha (by intro z; rw [← z] at no; exact no))]
    exact h
  · refine .inl (.inr ⟨u, ?_⟩)
    rw [upd_ne (ne_of h ha (by intro z; rw [← z] at no; exact no))]
    exact h
  · exact .inr h
def NoTab : HO → Prop
  | .tbl _ => False
  | .ext _ => False
  | _ => True
theorem tabs_but {T : List (Addr × Str)} {H H' : Hp} {x : Addr} {o : HO} (t : LamX.Tabs T H) (hx : H x = some o) (no : NoTab o) (e : ∀ b o, H b = some o → b ≠ x → H' b = some o) : LamX.Tabs T H' := fun p hp => by
  obtain ⟨ps, h1, h2, h3⟩ := t p hp
  refine ⟨ps, e _ _ h1 (ne_of h1 hx (by intro z; rw [← z] at no; exact no)), h2, fun pos cv hc => ?_⟩
  obtain ⟨c, e1, e2⟩ := h3 pos cv hc
  exact ⟨c, e1, e _ _ e2 (ne_of e2 hx (by intro z; rw [← z] at no; exact no))⟩
theorem tabs_upd {T : List (Addr × Str)} {H : Hp} {x : Addr} {o o' : HO} (t : LamX.Tabs T H) (hx : H x = some o) (no : NoTab o) : LamX.Tabs T (upd H x o') := tabs_but t hx no fun b o hb hne => by
  rw [upd_ne hne]
  exact hb
end
end WkN
namespace WkD
open PySem PySem.Spec PyProof.Rows L2 PySem.W
section
variable {X : Cx}
end
section
variable {X : Cx}
end
abbrev Pr := Str × Str
def ltP (a b : Pr) : Prop := ltS a.1 b.1 ∨ (a.1 = b.1 ∧ ltS a.2 b.2)
instance (a b : Pr) : Decidable (ltP a b) := inferInstanceAs (Decidable (_ ∨ _))
theorem asc_uniq {α : Type} {R : α → α → Prop} (irr : ∀ a, ¬ R a a) (tr : ∀ a b c, R a b → R b c → R a c) : ∀ {l m : List α}, l.Pairwise R → m.Pairwise R → (∀ x, x ∈ l ↔ x ∈ m) → l = m
  | [], [], _, _, _ => rfl
  | [], b :: m, _, _, h => absurd ((h b).mpr List.mem_cons_self) (by simp)
  | a :: l, [], _, _, h => absurd ((h a).mp List.mem_cons_self) (by simp)
  | a :: l, b :: m, h1, h2, h => by
    rw [List.pairwise_cons] at h1 h2
    have e : a = b := by
      rcases List.mem_cons.mp ((h a).mp List.mem_cons_self) with e | e
      · exact e
      · rcases List.mem_cons.mp ((h b).mpr List.mem_cons_self) with e' | e'
        · exact e'.symm
        · exact absurd (tr _ _ _ (h1.1 b e') (h2.1 a e)) (irr a)
    subst e
    congr 1
    refine asc_uniq irr tr h1.2 h2.2 fun x => ⟨fun hx => ?_, fun hx => ?_⟩
    · rcases List.mem_cons.mp ((h x).mp (List.mem_cons_of_mem _ hx)) with e | e
      · subst e
        exact absurd (h1.1 x hx) (irr x)
      · exact e
    · rcases List.mem_cons.mp ((h x).mpr (List.mem_cons_of_mem _ hx)) with e | e
      · subst e
        exact absurd (h2.1 x hx) (irr x)
      · exact e
section
variable {X : Cx}
end
end WkD
namespace WkN
open PySem PySem.Spec PyProof.Rows L2 WkD
theorem str_ext {x y : Str} (h : x.cps.toList = y.cps.toList) : x = y := by
  obtain ⟨⟨a⟩⟩ := x
  obtain ⟨⟨b⟩⟩ := y
  congr 2
end WkN
namespace WkN
open PySem
def letS : Str := "abcdefghijklmnopqrstuvwxyz"
def nameB (z : Str) : Bool := decide ((0 : Int) < z.length) && (decide ((z.length : Int) < 9) && (z.cps.toList.map fun c => decide (c ∈ letS.cps.toList)).all id)
end WkN
namespace WkE
open PySem PySem.Spec PyProof.Rows L2 WkD WkN
abbrev EdD := List (Pr × Int)
def putE (es : EdD) (p : Pr) (n : Int) : EdD := if es.any (fun e => decide (e.1 = p)) then es.map (fun e => if e.1 = p then (e.1, n) else e) else es ++ [(p, n)]
theorem putE_keys {es : EdD} {p : Pr} {n : Int} : (putE es p n).map (·.1) = if p ∈ es.map (·.1) then es.map (·.1) else es.map (·.1) ++ [p] := by
  unfold putE
  by_cases h : p ∈ es.map (·.1)
  · obtain ⟨e, he, hp⟩ := List.mem_map.mp h
    rw [if_pos (List.any_eq_true.mpr ⟨e, he, decide_eq_true hp⟩), if_pos h, List.map_map]
    refine List.map_congr_left fun e _ => ?_
    show (if e.1 = p then (e.1, n) else e).1 = e.1
    split <;> rfl
  · have q : ¬ (es.any fun e => decide (e.1 = p)) = true := fun z => by
      obtain ⟨e, he, hp⟩ := List.any_eq_true.mp z
      exact h (List.mem_map.mpr ⟨e, he, of_decide_eq_true hp⟩)
    rw [if_neg q, if_neg h, List.map_append]
    rfl
def mp (a b : Str) : Pr := (if ltS b a then b else a, if ltS a b then b else a)
theorem mp_cases {a b : Str} (h : a ≠ b) : (ltS a b ∧ mp a b = (a, b)) ∨ (ltS b a ∧ mp a b = (b, a)) := by
  unfold mp
  rcases ltS_tri a b with k | k | k
  · exact .inl ⟨k, by rw [if_neg (ltS_asymm k), if_pos k]⟩
  · exact absurd k h
  · exact .inr ⟨k, by rw [if_pos k, if_neg (ltS_asymm k)]⟩
inductive ERch (es : EdD) (s : Str) : Str → Prop
  | here : ERch es s s
  | go {u v : Str} : ERch es s u → ((u, v) ∈ es.map (·.1) ∨ (v, u) ∈ es.map (·.1)) → ERch es s v
theorem ERch.mono {es es' : EdD} {s u : Str} (h : ERch es s u) (k : ∀ p ∈ es.map (·.1), p ∈ es'.map (·.1)) : ERch es' s u := by
  induction h with
  | here => exact .here
  | go _ e ih => exact .go ih (e.imp (k _) (k _))
theorem ERch.trans {es : EdD} {s u v : Str} (h : ERch es s u) (k : ERch es u v) : ERch es s v := by
  induction k with
  | here => exact h
  | go _ e ih => exact .go ih e
theorem ERch.symm {es : EdD} {s u : Str} (h : ERch es s u) : ERch es u s := by
  induction h with
  | here => exact .here
  | go _ e ih => exact (ERch.go .here e.symm).trans ih
theorem putE_has {es : EdD} {p : Pr} {n : Int} : p ∈ (putE es p n).map (·.1) := by
  rw [putE_keys]
  split
  · assumption
  · simp
theorem ERch.mp {es : EdD} {a b : Str} {n : Int} (h : a ≠ b) : ERch (putE es (mp a b) n) b a := by
  have z := putE_has (es := es) (p := WkE.mp a b) (n := n)
  refine .go .here ?_
  rcases mp_cases h with ⟨k, e⟩ | ⟨k, e⟩
  · rw [e] at z ⊢
    exact .inr z
  · rw [e] at z ⊢
    exact .inl z
open WkP
section
variable {K : PySem.W.Frag}
def EdsAt (K : PySem.W.Frag) (H : Hp) (rs : List Addr) (es : List Ed) : Prop := rs.length = es.length ∧ ∀ (i : Nat) (r : Addr) (e : Ed), rs[i]? = some r → es[i]? = some e → SqT K H r [.str e.1, .str e.2.1, .int e.2.2]
theorem EdsAt.same {H H' : Hp} {rs : List Addr} {es : List Ed} (h : EdsAt K H rs es) (e : Same H H') : EdsAt K H' rs es := ⟨h.1, fun i r d h1 h2 => WkG.seqT_same e (h.2 i r d h1 h2)⟩
theorem EdsAt.snoc {H H' : Hp} {rs : List Addr} {es : List Ed} {p : Addr} {e : Ed} (h : EdsAt K H rs es) (s : Same H H') (hp : H' p = some (.tup [.str e.1, .str e.2.1, .int e.2.2])) : EdsAt K H' (rs ++ [p]) (es ++ [e]) := by
  refine ⟨by rw [List.length_append, List.length_append, h.1]; rfl, fun i r d h1 h2 => ?_⟩
  rcases Nat.lt_trichotomy i rs.length with hi | hi | hi
  · rw [List.getElem?_append_left hi] at h1
    rw [List.getElem?_append_left (by rw [← h.1]; exact hi)] at h2
    exact WkG.seqT_same s (h.2 i r d h1 h2)
  · subst hi
    rw [List.getElem?_append_right (Nat.le_refl _), Nat.sub_self] at h1
    rw [h.1, List.getElem?_append_right (Nat.le_refl _), Nat.sub_self] at h2
    cases h1
    cases h2
    exact .inl (.inl hp)
  · rw [List.getElem?_eq_none (by rw [List.length_append, List.length_singleton]; omega)] at h1
    cases h1
end
end WkE
namespace WkC
open PySem PySem.Spec PyProof.Rows L2 WkD WkN
section
variable (P : Program) (w : World) (K : PySem.W.Frag) (mg : Str → Option Value) (base : Heap)
def PropC (CX : CXT) (C : Addr) (f : Str) (k : Nat) (sp : Sp) : Prop := ∃ p g fd ps, PropOf K C f p g ∧ FnOk P w K mg base CX k g fd ps sp ∧ Binds K fd ps []
def MethC (CX : CXT) (C : Addr) (m : Str) (k : Nat) (sp : Sp) : Prop := ∃ f fd ps, Meth K C m f ∧ FnOk P w K mg base CX k f fd ps sp ∧ Binds K fd ps []
def MakeC (CX : CXT) (C : Addr) (x : Str) (k : Nat) (sp : Sp) : Prop := ∃ f fd ps, Mk K C f ∧ FnOk P w K mg base CX k f fd ps sp ∧ mg x = some (.ref C) ∧ Binds K fd ps []
end
section
variable {X : Cx} {CX : CXT} {C : Addr} {f x m : Str} {k : Nat} {sp : Sp} {E : XK} {e : Expr} {es : List Expr} {ta : TE} {t : TA} {p pos apos : Pos}
theorem pe_pr (h : PropC X.prog X.w X.K X.mg X.base CX C f k sp) (c : Cls X.K C) (hr : Room (k + 1) X.A) (hx : Passes CX X.nox E) (he : PE X e ta) (hab : attributeBase e f X.env (eval e X.env) = eval e X.env := by rfl) : PE X (.Attribute e f pos) (tProp C sp [] E ta) := by
  obtain ⟨p, g, fd, ps, h1, h2, h3⟩ := h
  exact pe_prop he c h1 h2 hr h3 .nil hx hab
theorem pe_mk (h : MakeC X.prog X.w X.K X.mg X.base CX C x k sp) (hr : Room (k + 1) X.A) (hx : Passes CX X E) (ha : PA X (e :: es) t) (hg : Gl X x := by rfl) (hdb : (x == ("__debug__" : Str)) = false := by decide)
    (hst : starEach (e :: es) X.env = (false, eval e X.env) :: starEach es X.env := by rfl) (hpl : (backTo pos (starEach es X.env)).any (·.1) = false := by rfl) : PE X (.Call (.Name x p) (e :: es) [] pos) (tMake C sp [] E t) := by
  obtain ⟨f, fd, ps, h1, h2, h3, h4⟩ := h
  exact pe_make h1 h2 hr hg h3 h4 .nil hx ha hdb hst hpl
theorem pe_mt {o : Expr} {pl : Sem Bool} (h : MethC X.prog X.w X.K X.mg X.base CX C m k sp) (c : Cls X.K C) (hr : Room k X.A) (hx : Passes CX X E) (ho : PE X o ta) (ha : PA X (e :: es) t)
    (hst : starEach (e :: es) X.env = (false, eval e X.env) :: starEach es X.env := by rfl) (hpl : (backTo pos (starEach es X.env)).any (·.1) = false := by rfl)
    (ht : eval (.Call (.Attribute o m apos) (e :: es) [] pos) X.env = (do let ov ← eval o X.env; standAt apos.atName; let (f, first) ← holding [ov] (getMethod ov m pl); callWith pos f first (backTo pos (starEach (e :: es) X.env)) (backToKw pos (keywordEach [] X.env))) := by rfl) :
    PE X (.Call (.Attribute o m apos) (e :: es) [] pos) (tMeth C m sp [] E ta t) := by
  obtain ⟨f, fd, ps, h1, h2, h3⟩ := h
  exact pe_meth ho c h1 h2 hr h3 .nil hx ha hst hpl ht
end
end WkC
namespace WkG
open PySem PySem.Spec PyProof.Rows L2 WkN
end WkG
namespace WkH
open PySem PySem.Spec PyProof.Rows L2 LamX
theorem law_GT {P : Program} {w : World} {K : PySem.W.Frag} {mg mb : Str → Option Value} {CX : CXT} {k : Nat} {fa a : Addr} {tt : List (Addr × Addr)} {fd : FuncData} {x : Str} {sp : Sp} {s₁ : Shared} {vsc : List Value} {nsc : List Int}
    (KX : K.In s₁.heap) (hnm : s₁.heap.Ns mainGlobals mg) (hy : s₁.heap.Ns builtinsNs mb) (hbu : ∀ x : Str, x ≠ "__name__" → mb x = bootBuiltins x) (hli : s₁.heap.NoLimit) (hge : s₁.gens = #[])
    (hTb : ∀ pt ∈ tt, s₁.heap.get? pt.2 = some { cls := .none, data := .fields #[] }) (nTb : ∀ pt ∈ tt, K.lookup pt.2 = none) (Cd : ∀ pt ∈ tt, PySem.W.CodeHd s₁.heap pt.1 pt.2)
    (hbmm : ∃ (bmo : Addr) (obb : Obj), mg "__builtins__" = some (.ref bmo) ∧ bmo ≠ builtinsNs ∧ s₁.heap.get? bmo = some obb ∧ obb.cls = .type "module" ∧ obb.dict = some builtinsNs ∧ obb.data = .plain)
    (hsc : s₁.heap.get? a = some { cls := .type "list", data := .seq vsc.toArray }) (hin : IntsAre vsc nsc) (hln : nsc.length ≤ sizeLine) (hro : Room k callerA)
    (F : ∀ base : Heap, K.In base → base.Ns mainGlobals mg → (∀ pt ∈ tt, TabB base mg pt.1 pt.2) → WkG.FnG P w K mg base CX k fa fd [x] sp) (hbnd : ∀ (s : Shared) (uu : Value), BindsTo s fd ⟨[uu], []⟩ [(x, uu)])
    (hspc : ∀ H : Hp, (∀ pt ∈ tt, H pt.2 = some (.tbl #[])) → SqL K H a (nsc.map V.int) → sp [.ref a] H (fun v _ => v = .bl true) fun _ _ _ => False)
    (hcx : ∀ H e t1, CX [] H s₁ (fun _ _ _ => False) e t1 → False) :
    codeAny (model P w) callerA (.call (.ref fa) ⟨[.ref a], []⟩) (fun r t1 => r = .ok (.ret (.bool true)) ∧ OldK s₁.heap t1.heap ∧ t1.os = s₁.os ∧ AllBare t1.gens) s₁ := by
  have rva := vals_ints hin
  have lv := hin.length
  have isTb : ∀ y : Addr, y ∈ tt.map (·.2) → s₁.heap.get? y = some { cls := .none, data := .fields #[] } := fun y hy => by
    obtain ⟨pt, hpt, e⟩ := List.mem_map.mp hy
    rw [← e]
    exact hTb pt hpt
  have noTb : a ∉ tt.map (·.2) := fun z => by
    have q := isTb a z
    rw [hsc] at q
    have zz : Data.seq vsc.toArray _ = Data.fields #[] := congrArg Obj.data (Option.some.inj q)
    cases zz
  have memTb : ∀ pt ∈ tt, pt.2 ∈ tt.map (·.2) := fun pt hpt => List.mem_map.mpr ⟨pt, hpt, rfl⟩
  have core0 : ∀ H : Hp, (∀ pt ∈ tt, H pt.2 = some (.tbl #[])) → (∀ y, H y = none ∨ y ∈ tt.map (·.2) ∨ ∃ ob0 xss, H y = some (.frz ob0 (.lst xss))) → SqL K H a (nsc.map V.int) → HOk P w H s₁.heap → (∀ y, H y ≠ none → y = a ∨ y ∈ tt.map (·.2)) → (H a ≠ none → K.lookup a = none) →
      codeAny (model P w) callerA (.call (.ref fa) ⟨[.ref a], []⟩) (fun r t1 => r = .ok (.ret (.bool true)) ∧ OldK s₁.heap t1.heap ∧ t1.os = s₁.os ∧ AllBare t1.gens) s₁ := by
    intro H eT onl sq okh dom outK
    have bo : ∀ {y : Addr} {ob0 : Obj}, s₁.heap.get? y = some ob0 → H y = none → (hidT s₁.heap H).get? y = some ob0 := fun e n => hidT_get e n
    have nod : ∀ {y : Addr} {ob0 : Obj}, s₁.heap.get? y = some ob0 → (∀ vsc n, ob0.data ≠ .seq vsc n) → ob0.data ≠ .fields #[] → H y = none := fun {y ob0} e h1 h2 => by
      cases q : H y with
      | none => rfl
      | some uu =>
        rcases dom y (by rw [q]; simp) with e1' | e1'
        · rw [e1', hsc] at e
          cases e
          exact (h1 _ _ rfl).elim
        · rw [isTb y e1'] at e
          cases e
          exact (h2 rfl).elim
    have noa : ∀ {y : Addr} {ob0 : Obj} {ens : Array DictEntry} {ept : Nat}, s₁.heap.get? y = some ob0 → ob0.data = .dict ens ept → H y = none := fun {y ob0 ens ept} e d => by
      refine nod e (fun vsc n z => ?_) fun z => ?_
      · rw [d] at z
        cases z
      · rw [d] at z
        cases z
    have nk : ∀ {y : Addr} {m : Str → Option Value}, s₁.heap.Ns y m → (hidT s₁.heap H).Ns y m := fun {y m} ⟨ob0, ens, ept, e, d, r⟩ => ⟨ob0, ens, ept, bo e (noa e d), d, r⟩
    have kb : K.In (hidT s₁.heap H) := fun y ob0 e => bo (KX y ob0 e) (by
      cases q : H y with
      | none => rfl
      | some uu =>
        rcases dom y (by rw [q]; simp) with e1' | e1'
        · rw [e1'] at e q
          rw [outK (by rw [q]; simp)] at e
          cases e
        · obtain ⟨pt, hpt, ept⟩ := List.mem_map.mp e1'
          rw [← ept, nTb pt hpt] at e
          cases e)
    have md : L2.Mod K mg (hidT s₁.heap H) := ⟨kb, nk hnm, ⟨mb, nk hy, hbu⟩, let ⟨mc, h1, h2⟩ := hli; ⟨mc, nk h1, h2⟩⟩
    have TB : ∀ pt ∈ tt, TabB (hidT s₁.heap H) mg pt.1 pt.2 := fun pt hpt => by
      have hTt := hTb pt hpt
      refine ⟨?_, ?_, fun z => ?_⟩
      · obtain ⟨ob0, us, file, tf, flags, tg, inF, text, tt, e1, r1, r2, r3, r4, r5, r6, r7, r8, hne⟩ := Cd pt hpt
        refine ⟨ob0, us, file, tf, flags, tg, inF, text, tt, bo e1 (nod e1 (fun vsc n z => ?_) fun z => ?_), r1, r2, r3, r4, r5, r6, r7, r8, hne⟩
        · rw [r2] at z
          cases z
        · rw [r2] at z
          cases z
          simp at r3
      · obtain ⟨bmo, obb, b1, b2, b3, b4, b5, b6⟩ := hbmm
        have ngl : bmo ≠ mainGlobals := fun q => by
          obtain ⟨ob0, ens, ept, e, hd, _⟩ := hnm
          rw [q, e] at b3
          cases b3
          rw [hd] at b6
          cases b6
        have nPt : bmo ≠ pt.2 := fun q => by
          rw [q, hTt] at b3
          cases b3
          cases b6
        refine ⟨bmo, obb, b1, b2, ngl, nPt, bo b3 (nod b3 (fun vsc n z => ?_) fun z => ?_), b4, b5, b6⟩
        · rw [b6] at z
          cases z
        · rw [b6] at z
          cases z
      · obtain ⟨ob0, ens, ept, e, hd, _⟩ := hnm
        rw [z, hTt] at e
        cases e
        cases hd
    have ev0 : Env0 P w K mg (hidT s₁.heap H) callerA [] s₁ H := ⟨rfl, md, fun y ob0 e => of_hidT e, Nat.le_of_eq (hidT_size _ _), trivial, fun y hy => absurd (show y ∈ ([] : List Addr) from hy) (by simp), okh, .of_eq hge⟩
    refine codeAny_mono ((F _ kb (nk hnm) TB).run callerA [] s₁ H ⟨[.ref a], []⟩ [.ref a] [.ref a] _ _ rfl hro ev0 (hbnd s₁ (.ref a)) (.cons rfl .nil) (hspc H eT sq)) fun r t1 h => ?_
    cases r with
    | error e => exact (hcx H e t1 h).elim
    | ok fl =>
      cases fl with
      | next => exact False.elim h
      | brk => exact False.elim h
      | cont => exact False.elim h
      | ret uu =>
        obtain ⟨v, G, oss, bar, unt, okh1, rr, q⟩ := h
        have qq : v = .bl true := q
        subst qq
        obtain rfl : uu = Value.bool true := rr
        have kee : ∀ y ob0, y ∉ tt.map (·.2) → s₁.heap.get? y = some ob0 → t1.heap.get? y = some ob0 := fun y ob0 nby e => by
          cases q : H y with
          | none => exact unt.keep y ob0 e q (by intro z; exact absurd (show y ∈ ([] : List Addr) from z) (by simp)) (by simp)
          | some uu =>
            rcases onl y with z | z | ⟨obb, xss, z⟩
            · rw [q] at z; cases z
            · exact absurd z nby
            · have zz2 := unt.frzs y obb _ z
              obtain ⟨e1, _⟩ := okh y _ z
              obtain ⟨e2, _⟩ := okh1 y _ zz2
              rw [e] at e1; cases e1
              exact e2
        have grw : ∀ pt ∈ tt, ∃ mor : Array Value, t1.heap.get? pt.2 = some { cls := .none, data := .fields mor } := fun pt hpt => by
          obtain ⟨mor, z⟩ := unt.tbls pt.2 #[] (eT pt hpt)
          exact ⟨_, okh1 pt.2 _ z⟩
        refine ⟨rfl, ⟨fun y ob0 e => ?_, fun y ob0 e => ?_⟩, oss, bar⟩
        · by_cases hy : y ∈ tt.map (·.2)
          · obtain ⟨pt, hpt, ept⟩ := List.mem_map.mp hy
            obtain ⟨mor, hm⟩ := grw pt hpt
            rw [← ept] at e ⊢
            rw [hTb pt hpt] at e
            cases e
            exact .inr (.inl ⟨((Cd pt hpt).tab (hTb pt hpt)).isCodeTable, rfl, #[], mor, rfl, by rw [Array.empty_append]; exact hm⟩)
          · exact .inl (kee y ob0 hy e)
        · by_cases hy : y ∈ tt.map (·.2)
          · obtain ⟨pt, hpt, ept⟩ := List.mem_map.mp hy
            obtain ⟨mor, hm⟩ := grw pt hpt
            rw [← ept]
            exact ⟨_, hm⟩
          · exact ⟨ob0, kee y ob0 hy e⟩
  cases hk : K.lookup a with
  | some ob0 =>
    have e := KX a ob0 hk
    rw [hsc] at e
    cases e
    refine core0 (fun y => if y ∈ tt.map (·.2) then some (.tbl #[]) else none) (fun pt hpt => if_pos (memTb pt hpt)) (fun y => ?_) (.inr ⟨_, vsc.toArray, _, hk, rfl, rfl, rfl, by rw [List.size_toArray, lv]; exact hln, by simpa using rva⟩) (fun y uu z => ?_) (fun y z => ?_) fun z => absurd (show (if a ∈ tt.map (·.2) then some (HO.tbl #[]) else none) = none from if_neg noTb) z
    · by_cases hy : y ∈ tt.map (·.2)
      · exact .inr (.inl hy)
      · exact .inl (if_neg hy)
    · by_cases hy : y ∈ tt.map (·.2)
      · have zz := (if_pos hy).symm.trans z
        cases zz
        exact isTb y hy
      · have zz := (if_neg hy).symm.trans z
        cases zz
    · by_cases hy : y ∈ tt.map (·.2)
      · exact .inr hy
      · exact absurd (if_neg hy) z
  | none =>
    refine core0 (fun y => if y = a then some (.frz { cls := .type "list", data := .seq vsc.toArray } (.lst (nsc.map V.int))) else if y ∈ tt.map (·.2) then some (.tbl #[]) else none) (fun pt hpt => (if_neg (show ¬ pt.2 = a from fun z => noTb (by rw [← z]; exact memTb pt hpt))).trans (if_pos (memTb pt hpt))) (fun y => ?_)
      (.inl (.inr ⟨{ cls := .type "list", data := .seq vsc.toArray }, if_pos rfl⟩)) (fun y uu z => ?_) (fun y z => ?_) fun _ => hk
    · by_cases hy : y = a
      · exact .inr (.inr ⟨_, _, if_pos hy⟩)
      · by_cases hy2 : y ∈ tt.map (·.2)
        · exact .inr (.inl hy2)
        · exact .inl ((if_neg hy).trans (if_neg hy2))
    · by_cases hy : y = a
      · have zz := (if_pos hy).symm.trans z
        cases zz
        rw [hy]
        exact ⟨hsc, by rw [List.length_map]; exact hln, vsc, _, rva, hsc⟩
      · have z1 := (if_neg hy).symm.trans z
        by_cases hy2 : y ∈ tt.map (·.2)
        · have zz := (if_pos hy2).symm.trans z1
          cases zz
          exact isTb y hy2
        · have zz := (if_neg hy2).symm.trans z1
          cases zz
    · by_cases hy : y = a
      · exact .inl hy
      · by_cases hy2 : y ∈ tt.map (·.2)
        · exact .inr hy2
        · exact absurd ((if_neg hy).trans (if_neg hy2)) z
def LawT (l : PySem.W.OpenLaw) (w : World) (K : PySem.W.Frag) (CX : CXT) (k n : Nat) (x : Str) (mg : Str → Option Value) (fa : Addr) (h : Heap) : Prop :=
  ∃ (fd : FuncData) (tt : List (Addr × Addr)) (sp : Sp), (∀ p ∈ tt, h.get? p.2 = some { cls := .none, data := .fields #[] }) ∧ (∀ p ∈ tt, K.lookup p.2 = none) ∧ (∀ p ∈ tt, PySem.W.CodeHd h p.1 p.2) ∧ (∀ (s : Shared) (v : Value), BindsTo s fd ⟨[v], []⟩ [(x, v)]) ∧
    (∀ (H : Hp) (a : Addr) (ms : List Int), ms.length ≤ n → (∀ p ∈ tt, H p.2 = some (.tbl #[])) → SqL K H a (ms.map V.int) → sp [.ref a] H (fun v _ => v = .bl true) fun _ _ _ => False) ∧
    ∀ base : Heap, K.In base → base.Ns mainGlobals mg → (∀ p ∈ tt, TabB base mg p.1 p.2) → WkG.FnG l.prog w K mg base CX k fa fd [x] sp
theorem walk_GT {l : PySem.W.OpenLaw} {n k : Nat} {q : Program} {loose : List Str} {XP : (Str → Option Value) → Heap → Prop} {YP : World → Heap → Prop} {d : DefRec} {CX : World → CXT} {x : Str}
    (hn : l.most = some n) (hn2 : n ≤ sizeLine) (hdf : d.params.defaults = []) (hr : Room k callerA)
    (F : ∀ (w : World) (mg : Str → Option Value) (fa : Addr) (h : Heap), YP w h → h.Ns mainGlobals mg → mg d.name = some (.ref fa) → ∃ K : PySem.W.Frag, K.In h ∧ LawT l w K (CX w) k n x mg fa h)
    (hCX : ∀ (w : World) (H : Hp) (s : Shared) (e : Value) (s' : Shared), CX w [] H s (fun _ _ _ => False) e s' → False) :
    PySem.W.WalkO q loose XP YP l.row.toRowW d [] (fun f vs => PySem.call f vs) := by
  refine Att.attach_call hn hdf fun w s₀ s₁ mg mb fa o pm cd doc a vs ns G Y ho hd hcd hmg hobj hints hlen hg => ?_
  obtain ⟨K, KX, fd, tt, sp, hT, nT, C, hb, hsp, hF⟩ := F w mg fa _ Y G.T.g hmg
  exact law_GT KX G.T.g G.T.b G.T.builtins G.T.nolimit hg hT nT C G.T.bmain hobj hints (Nat.le_trans hlen hn2) hr hF hb (fun H eT sq => hsp H a ns hlen eT sq) fun H e s' => hCX w H s₁ e s'
end WkH
namespace WkS
open PySem PySem.Spec PyProof.Rows L2
structure SupScope (N ps : List Str) (sc : Scope) : Prop where
  kind : sc.kind = .function
  co : sc.isCoroutine = false
  gen : sc.isGenerator = false
  nd : N.Nodup
  pre : N.take ps.length = ps
  par : ∀ x ∈ ps, sc.names.lookup x = some .local
  nocell : ∀ y ∈ sc.names, y.2 ≠ .cell
  free : ∀ y ∈ sc.names, y.2 = .free → y.1 = "__class__"
  cls : sc.names.lookup ("__class__" : Str) = some .free
  sup : sc.names.lookup ("super" : Str) = some .globalImplicit
abbrev supEnv (qual : Str) (scope : Scope) (L f : Addr) (cd : Value) (cc : Addr) : Env := PySem.W.ksEnv qual scope L f cd cc
def supCx (CX : CXT) (P : Program) (w : World) (K : PySem.W.Frag) (mg : Str → Option Value) (base : Heap) (N : List Str) (qual : Str) (scope : Scope) (f : Addr) (cd : Value) (cc : Addr) (A : Around) (outer : List Env) (s : Shared) (H : Hp) (E : XK) : Cx where
  prog := P
  w := w
  K := K
  mg := mg
  base := base
  A := A.deeper (supEnv qual scope s.heap.objs.size f cd cc)
  N := N
  s_0 := s
  H_0 := H
  env := supEnv qual scope s.heap.objs.size f cd cc
  outer := outer
  stack := supEnv qual scope s.heap.objs.size f cd cc :: outer
  ex := []
  calm := true
  fn := fun _ => false
  pn := []
  xe := fun e s' => wpAny (model P w) (A.deeper (supEnv qual scope s.heap.objs.size f cd cc)) (leaving (supEnv qual scope s.heap.objs.size f cd cc) e) (fun _ s'' => CX outer H s E e s'') (fun e' s'' => CX outer H s E e' s'') s'
theorem lookup_nd {y : Str} {u : Value} : ∀ {l : List (Str × Value)}, (l.map (·.1)).Nodup → (y, u) ∈ l → l.lookup y = some u
  | [], _, h => by cases h
  | (z, v) :: r, nd, h => by
    rw [List.map_cons, List.nodup_cons] at nd
    rcases List.mem_cons.mp h with e | h
    · cases e
      simp [List.lookup]
    · have hne : y ≠ z := fun e => nd.1 (List.mem_map.mpr ⟨(y, u), h, e⟩)
      have e1 : (y == z) = false := beq_eq_false_iff_ne.mpr hne
      rw [List.lookup_cons, e1]
      exact lookup_nd nd.2 h
theorem rev_zip {ps : List Str} {us : List Value} {y : Str} {u : Value} {i : Nat} (nd : ps.Nodup) (hl : ps.length = us.length) (hp : ps[i]? = some y) (hu : us[i]? = some u) : (ps.zip us).reverse.lookup y = some u := by
  have e : (ps.zip us)[i]? = some (y, u) := List.getElem?_zip_eq_some.mpr ⟨hp, hu⟩
  refine lookup_nd ?_ (List.mem_reverse.mpr (List.mem_of_getElem? e))
  rw [List.map_reverse]
  refine List.pairwise_reverse.mpr ?_
  rw [List.map_fst_zip (by omega)]
  exact nd.imp fun h => Ne.symm h
section
variable {CX : CXT} {P : Program} {w : World} {K : PySem.W.Frag} {mg : Str → Option Value} {base : Heap} {N ps : List Str} {qual : Str} {scope : Scope} {f cc : Addr} {cd : Value} {A : Around} {outer : List Env} {s : Shared} {H : Hp} {E : XK} {us : List Value} {vs : List V}
theorem sup_start {h₁ : Heap} {tk : Nat} {oc : Obj} {cv : Option Value} (S : SupScope N ps scope) (hd : A.handled = none) (e0 : Env0 P w K mg base A outer s H) (hl : vs.length = ps.length) (r : Vals vs us) (hcell : K.lookup cc = some oc) (hcv : oc.data = .cell cv)
    (hns : h₁.Ns s.heap.objs.size fun y => (ps.zip us).reverse.lookup y) (kp : ∀ b o, s.heap.get? b = some o → h₁.get? b = some o) :
    Inv (supCx CX P w K mg base N qual scope f cd cc A outer s H E) [] (L2.start N vs) H { s with heap := h₁, toks := tk } := by
  have hlu : ps.length = us.length := by rw [← hl]; exact r.length
  have ndP : ps.Nodup := by rw [← S.pre]; exact S.nd.sublist (List.take_sublist _ _)
  have hpl : ps.length ≤ N.length := by
    have := congrArg List.length S.pre
    rw [List.length_take] at this
    omega
  have one : ∀ {y c}, ([(("__class__" : Str), cc)] : List (Str × Addr)).lookup y = some c → y = "__class__" ∧ c = cc := fun {y c} e => by
    rw [List.lookup_cons] at e
    split at e
    · rename_i h
      exact ⟨eq_of_beq h, (Option.some.inj e).symm⟩
    · simp at e
  have hb := e0.mod.kin _ _ hcell
  obtain ⟨hb1, hb2⟩ := e0.bs _ _ hb
  have noE : ∀ b : Addr, b ∉ (supCx CX P w K mg base N qual scope f cd cc A outer s H E).ex := fun b z => absurd (show b ∈ ([] : List Addr) from z) (by simp)
  refine ⟨⟨e0.mod, S.kind, rfl, rfl, Nat.le_refl _, fun y z c a b => (one a).1.trans (one b).1.symm, fun y hy => ?_, fun y c z _ => ?_, fun _ => hd, Around.frames_deeper e0.frames, .inr ⟨rfl, rfl⟩, fun b z => absurd z (noE b), e0.bs, e0.bsz, fun b _ _ => noE b,
      fun b z => absurd z (noE b), e0.funs, e0.frf⟩,
    rfl, e0.bare, Un.kept kp, ⟨_, hns, fun i y v h1 h2 h3 => ?_⟩, fun y c e => ?_, e0.hok.fresh (Nat.le_refl _), fun y c e => ?_, fun q hq => absurd (show q ∈ ([] : List (Addr × Obj)) ++ [] from hq) (by simp), e0.hok.kept kp, ?_⟩
  · have hy : scope.names.lookup y = some .cell ∨ scope.names.lookup y = some .free := hy
    rcases hy with hy | hy
    · exact absurd rfl (S.nocell _ (PySem.mem_of_lookup hy))
    · have e : y = "__class__" := S.free _ (PySem.mem_of_lookup hy) rfl
      subst e
      exact ⟨cc, by show ([(("__class__" : Str), cc)] : List (Str × Addr)).lookup ("__class__" : Str) = some cc; rfl⟩
  · have z : false = true := z
    cases z
  · have hi : i < vs.length := by
      unfold L2.start at h2
      by_cases hi : i < vs.length
      · exact hi
      · rw [List.getElem?_append_right (by simpa using hi), List.getElem?_replicate] at h2
        split at h2 <;> cases h2
    have ha : vs[i]? = some v := by
      unfold L2.start at h2
      rw [List.getElem?_append_left (by simpa using hi), List.getElem?_map] at h2
      cases e : vs[i]? with
      | none => rw [e] at h2; cases h2
      | some a => rw [e] at h2; cases h2; rfl
    obtain ⟨u, hu, rv⟩ := r.get ha
    have h1 : N[i]? = some y := h1
    have hp : ps[i]? = some y := by
      rw [← S.pre, List.getElem?_take_of_lt (by omega)]
      exact h1
    exact ⟨u, rv, .inl ⟨S.par y (List.mem_of_getElem? hp), rev_zip ndP hlu hp hu⟩⟩
  · obtain ⟨_, rfl⟩ := one e
    exact ⟨cv, oc, kp _ _ hb1, hcv⟩
  · obtain ⟨_, rfl⟩ := one e
    exact hb2
  · show (L2.start N vs).length = N.length
    unfold L2.start
    simp
    omega
structure SupT (P : Program) (K : PySem.W.Frag) (mg : Str → Option Value) (ps : List Str) (D f cc cda : Addr) (qual : Str) (params : Arguments) (scope : Scope) (fd : FuncData) : Prop where
  co : ∃ (name : Str) (body : List Stmt) (dV kV doc pm : Value) (an : Option Addr) (ct oc : Value) (od : Option Addr) (osl : Array (Option Value)), fd = PySem.W.ksFn name qual params body scope dV kV doc pm an (.ref cda) ct cc ∧ K.lookup f = some ⟨oc, od, .func fd, osl⟩
  code : PySem.W.codeIn K (.ref cda) qual = true
  file : ∃ (ccl : Value) (cdd : Option Addr) (vs : Array Value) (ccs : Array (Option Value)) (file : Str) (tf : Tok), K.lookup cda = some ⟨ccl, cdd, .fields vs, ccs⟩ ∧ vs[2]? = some (.str file tf) ∧ ((P.main.file : Str) == file) = true
  cell : ∃ (cl : Value) (cld : Option Addr) (csl : Array (Option Value)), K.lookup cc = some ⟨cl, cld, .cell (some (.ref D)), csl⟩
  cls : ∃ cdD, PySem.W.clsIn K D = some cdD
  nosup : mg "super" = none
  top : (P.main.scope.names.lookup ("super" : Str)).isSome = false
  par : ∃ ar : Arg, (params.posonlyargs ++ params.args).head? = some ar ∧ ps[0]? = some ar.arg
  noany : PySem.W.nsIn K cStatics "thirdparty.any" = some none
theorem clsIn_at {h : Heap} {D : Addr} {cd : ClassData} (X : K.In h) (hD : PySem.W.clsIn K D = some cd) : ∃ oD, h.get? D = some oD ∧ oD.data = .cls cd := by
  unfold PySem.W.clsIn at hD
  split at hD
  · rename_i c d cd' sl ho
    cases hD
    exact ⟨_, X _ _ ho, rfl⟩
  · cases hD
theorem sup_ok {k : Nat} {fd fd2 : FuncData} {D f2 cda : Addr} {params : Arguments} {ps2 : List Str} {sp sp2 : Sp} {m : Str} {e : Expr} {es : List Expr} {rest : List Stmt} {p0 p1 apos pos pos' : Pos} (T : SupT P K mg ps D f cc cda qual params scope fd)
    (hbd : fd.body = .stmts (.Expr (.Call (.Attribute (.Call (.Name "super" p0) [] [] p1) m apos) (e :: es) [] pos) pos' :: rest)) (S : SupScope N ps scope) (F2 : FnOk P w K mg base CX k f2 fd2 ps2 sp2) (hb2 : Binds K fd2 ps2 []) (hf2 : PySem.W.fnIn K f2 = true)
    (hf2' : PySem.W.isFn K (.ref f2) = true)
    (hmn : (m == ("__class__" : Str)) = false) (len : ∀ vs H Q E, sp vs H Q E → vs.length = ps.length)
    (hx : ∀ A outer s H E, Passes CX (supCx CX P w K mg base N qual scope f (.ref cda) cc A outer s H E) E)
    (hst : ∀ env : Env, starEach (e :: es) env = (false, eval e env) :: starEach es env) (hpl : ∀ env : Env, (backTo pos (starEach es env)).any (·.1) = false)
    (hev : ∀ env : Env, env.scope = scope → ∃ pl : Sem Bool, eval (.Call (.Attribute (.Call (.Name "super" p0) [] [] p1) m apos) (e :: es) [] pos) env = (do
      let ov ← attributeBase (.Call (.Name "super" p0) [] [] p1) m env (eval (.Call (.Name "super" p0) [] [] p1) env)
      standAt apos.atName
      let (f, first) ← holding [ov] (getMethod ov m pl)
      callWith pos f first (backTo pos (starEach (e :: es) env)) []))
    (hsw : ∀ env : Env, env.scope = scope → interactive env = false ∧ swapsWith (.Call (.Attribute (.Call (.Name "super" p0) [] [] p1) m apos) (e :: es) [] pos) none pos'.line env = pure false)
    (hbody : ∀ (A : Around) (outer : List Env) (s : Shared) (H : Hp) (vs : List V) (Q : VK) (E : XK), Room k (A.deeper (supEnv qual scope s.heap.objs.size f (.ref cda) cc)) → sp vs H Q E →
      ∃ (ta : TA) (t : TS) (x C dx : Addr) (fs : List (Str × V)), vs[0]? = some (.ref x) ∧ H x = some (.ins C dx fs) ∧ PySem.W.mroIn K C (.ref D) = some true ∧ PySem.W.ks_superIn K C D m = some (some (.ref f2)) ∧
        PA (supCx CX P w K mg base N qual scope f (.ref cda) cc A outer s H E) (e :: es) ta ∧ PSs (supCx CX P w K mg base N qual scope f (.ref cda) cc A outer s H E) rest t ∧
        ta (L2.start N vs) H fun ws H1 => sp2 (.ref x :: ws) H1 (fun _ H2 => t { nx := fun _ H' => Q .non H', rt := Q } (L2.start N vs) H2) E) :
    FnOk P w K mg base CX (k + 1) f fd ps sp := by
  refine ⟨len, fun A outer s H args us vs Q E hr e0 hb rel hsp => ?_⟩
  obtain ⟨name, body, dV, kV, doc, pm, an, ct, oc, od, osl, efd, lk⟩ := T.co
  obtain ⟨ccl, cdd, vs', ccs, file, tf, lkc, hvs, hfile⟩ := T.file
  obtain ⟨cl, cld, csl, hcell⟩ := T.cell
  obtain ⟨cdD, hD⟩ := T.cls
  obtain ⟨ar, hp, hp0⟩ := T.par
  have KX : K.In s.heap := e0.mod.kin.keeps fun b o e => (e0.bs b o e).1
  have lim : s.heap.NoLimit := e0.mod.nolimit.keeps fun b o e => (e0.bs b o e).1
  subst efd
  have hbd : body = .Expr (.Call (.Attribute (.Call (.Name "super" p0) [] [] p1) m apos) (e :: es) [] pos) pos' :: rest := FuncBody.stmts.inj hbd
  have hloc : ∀ y ∈ ps.zip us, scope.names.lookup y.1 = some .local := fun ⟨n, v⟩ hy => S.par n (List.of_mem_zip hy).1
  refine ks_codeAny_call_defAt (fd := PySem.W.ksFn name qual params body scope dV kV doc pm an (.ref cda) ct cc) (body := body) (binds := ps.zip us) hr.depth (KX _ _ lk) rfl lim (PySem.W.codeRec_of KX T.code) rfl hb S.nocell hloc (fun h₁ hns kp => ?_) S.co S.gen S.kind
  have I := sup_start (CX := CX) (E := E) (f := f) (qual := qual) (cd := .ref cda) (tk := s.toks + (ps.zip us).length) S hr.hd e0 (len _ _ _ _ hsp) rel hcell rfl hns kp
  have hr1 := hr.deeper (supEnv qual scope s.heap.objs.size f (.ref cda) cc)
  obtain ⟨ta, t, x, C, dx, fs, hx0, hxi, hsub, hsm, hA, hS, ht⟩ := hbody A outer s H vs Q E hr1 hsp
  have fin : ∀ {σ' : L2.St} {H' : Hp} {v : V} {u : Value} {s' : Shared}, Inv (supCx CX P w K mg base N qual scope f (.ref cda) cc A outer s H E) [] σ' H' s' → RelV v u → Q v H' → CE outer P w H s Q u s' :=
    fun {σ' H' v u s'} J rv q => ⟨v, H', J.os, J.bare, J.base, J.hok, rv, q⟩
  rw [hbd]
  obtain ⟨sw1, sw2⟩ := hsw (supEnv qual scope s.heap.objs.size f (.ref cda) cc) rfl
  obtain ⟨pl, hevl⟩ := hev (supEnv qual scope s.heap.objs.size f (.ref cda) cc) rfl
  refine ks_wpAt_execs_cons (ks_wpAt_Expr_any (ks_wpAt_MethodCall (pl := pl) ?_ hevl) sw1 sw2)
  refine ks_wpAt_super_base (f := f) (cc := cda) S.sup S.cls hmn rfl (I.kIn _ _ lk) rfl hp rfl (I.kIn _ _ lkc) rfl hvs hfile T.top ?_
  obtain ⟨mb, hmb, hbb⟩ := I.mod.blt
  refine PySem.W.ks_loadName_global S.kind S.sup (Calls.loadGlobal_builtin (mg := mg) (mb := mb) (I.mod.glob.keeps I.bk) T.nosup (hmb.keeps I.bk) ((hbb _ (by decide)).trans (show bootBuiltins "super" = some (.type "super") by decide +kernel)) ⟨rfl, ?_⟩)
  refine wpAny_loadName_free S.kind S.cls (c := cc) (by rfl) ⟨_, I.kIn _ _ hcell, rfl⟩ ?_
  have hself : (ps.zip us).reverse.lookup ar.arg = some (.ref x) := by
    obtain ⟨u, hu, rv⟩ := rel.get hx0
    obtain rfl : u = Value.ref x := rv
    exact rev_zip (by rw [← S.pre]; exact S.nd.sublist (List.take_sublist _ _)) (by rw [← len _ _ _ _ hsp]; exact rel.length) hp0 hu
  refine wpAny_loadName_local S.kind (S.par _ (List.mem_of_getElem? hp0)) hns hself ?_
  obtain ⟨oD, hD1, hD2⟩ := clsIn_at I.kIn hD
  obtain ⟨mA, OM, _, _, _, _⟩ := ins_get I.hok hxi
  obtain ⟨od', IA, _⟩ := OM.look
  refine ks_wpAny_isType_cls hD1 hD2 ⟨rfl, ?_⟩
  refine ks_wpAny_call_super hD1 hD2 IA.at_ IA.cls (fun c e => ?_) (PySem.W.looks_mroIn I.kIn hsub) (fun h2 e2 k2 => ?_)
  · have z := IA.no
    unfold PySem.W.notCls at z
    rw [e] at z
    exact Bool.noConfusion z
  have I2 := I.kept (t' := s.toks + (ps.zip us).length) k2
  cases hc : PySem.W.clsIn K C with
  | none =>
    unfold PySem.W.ks_superIn at hsm
    rw [hc] at hsm
    cases hsm
  | some cd =>
    unfold PySem.W.ks_superIn at hsm
    rw [hc] at hsm
    obtain ⟨of, hof, hofc⟩ : ∃ of, h2.get? f2 = some of ∧ of.cls = .type "function" := by
      have z : (K.lookup f2).map (·.cls) = some (.type "function") := eq_of_beq hf2'
      cases q : K.lookup f2 with
      | none => rw [q] at z; cases z
      | some of => rw [q] at z; exact ⟨of, I2.kIn _ _ q, Option.some.inj z⟩
    have IA2 : h2.get? x = some (PySem.W.instObj C dx) := k2 _ _ IA.at_
    have hxC : x ≠ C := by
      rintro rfl
      obtain ⟨oC, q1, q2⟩ := clsIn_at I2.kIn hc
      rw [show h2.get? x = _ from IA2] at q1
      cases q1
      cases q2
    refine ks_wpAny_getMethod_super (X := I2.kIn) e2 (PySem.W.looks_opaque I2.kIn T.noany) (l₀ := cd.mro) (fun A Q E s k q => wpAny_bind ((PySem.W.looks_clsIn I2.kIn hc) A _ E s k (wpAny_pure q))) rfl hsm hof hofc hxC hmn ?_
    have I3 := I2.kept (t' := s.toks + (ps.zip us).length + 1) (h' := h2.push { cls := .type "method", data := .fields #[.ref f2, .ref x] }) fun b u e => Heap.get?_push_of_some _ e
    have gq : (h2.push { cls := .type "method", data := .fields #[.ref f2, .ref x] }).get? h2.objs.size = some (PySem.W.methodObj (.ref f2) (.ref x)) := Heap.get?_push_size _ rfl
    have I4 : Inv (supCx CX P w K mg base N qual scope f (.ref cda) cc A outer s H E) [(h2.objs.size, PySem.W.methodObj (.ref f2) (.ref x))] (L2.start N vs) H _ := I3.pins_of fun p hp => by
      have e : p = (h2.objs.size, PySem.W.methodObj (.ref f2) (.ref x)) := by simpa using hp
      subst e
      exact ⟨gq, I2.hok.fresh (Nat.le_refl _), Nat.ne_of_gt I2.lt, I2.nofs (Nat.le_refl _), fun v z => by cases z⟩
    refine PySem.W.callWith_M (h₀ := base) (L := s.heap.objs.size) (news := [(h2.objs.size, PySem.W.methodObj (.ref f2) (.ref x))]) (g := f2) (self := .ref x) e0.mod.kin (fun p hp => ?_) List.mem_cons_self hf2 (thn (hA.run pos _ _ _ _ _ I4 ht) fun ws s5 ⟨vs5, H5, I5, r5, q5⟩ => ⟨⟨(I5.pin _ (List.mem_append_right _ List.mem_cons_self)).1, I5.kIn⟩, ?_⟩) (hst _) (hpl _)
    · have e : p = (h2.objs.size, PySem.W.methodObj (.ref f2) (.ref x)) := by simpa using hp
      subst e
      exact ⟨gq, Nat.ne_of_gt I2.lt, Heap.get?_none_of_le (Nat.le_trans e0.bsz I2.sz)⟩
    have hl : (Value.ref x :: ws).length = ps2.length := by
      rw [← F2.len _ _ _ _ q5]
      simp [r5.length]
    have rc := F2.run _ _ s5 H5 ⟨.ref x :: ws, []⟩ (.ref x :: ws) (.ref x :: vs5) _ E hr1 I5.env0 (by simpa using hb2 s5 (.ref x :: ws) I5.kIn (by simpa using hl)) (.cons rfl r5) q5
    refine wpAny_call (ks_codeAny_call_bound (I5.pin _ (List.mem_append_right _ List.mem_cons_self)).1 (codeAny_mono rc fun r s' hq => ?_))
    cases r with
    | error er => exact hx A outer s H E [(h2.objs.size, PySem.W.methodObj (.ref f2) (.ref x))] (L2.start N vs) H5 s5 er s' I5 hq
    | ok fl =>
      cases fl with
      | next => exact False.elim hq
      | brk => exact False.elim hq
      | cont => exact False.elim hq
      | ret u =>
        obtain ⟨v6, H6, I6, _, q6⟩ := I5.after hq
        have I7 : Inv (supCx CX P w K mg base N qual scope f (.ref cda) cc A outer s H E) [] (L2.start N vs) H6 s' := I6.pins_of fun p hp => absurd hp (by simp)
        refine wpAt_of_wpAny (wpAny_mono (hS.run [] s' _ H6 _ I7 q6) (fun fl s8 hs => ?_) fun _ _ z => z)
        cases fl with
        | ret u8 =>
          obtain ⟨v, σ', H', J, rv, q⟩ := hs
          exact fin J rv q
        | next =>
          obtain ⟨σ', H', J, q⟩ := hs
          exact fin (v := V.non) (u := Value.none) J rfl q
        | brk =>
          obtain ⟨_, _, _, q⟩ := hs
          exact False.elim q
        | cont =>
          obtain ⟨_, _, _, q⟩ := hs
          exact False.elim q
end
end WkS
namespace WkL
open PySem PySem.Spec PyProof.Rows L2 LamX
structure Lam1 (sc scope : Scope) (u : Str) : Prop where
  kind : scope.kind = .function
  co : scope.isCoroutine = false
  gen : scope.isGenerator = false
  nocell : ∀ y ∈ scope.names, y.2 ≠ .cell
  one : ∀ y ∈ scope.names, y.2 = .local → y.1 = u
  par : scope.names.lookup u = some .local
  free : ∀ y ∈ scope.names, y.2 = .free → sc.names.lookup y.1 = some .cell ∨ sc.names.lookup y.1 = some .free
section
variable {X : Cx} {pins : List (Addr × Obj)} {σ : L2.St} {H : Hp} {s : Shared}
theorem Lam1.has {scope : Scope} {u : Str} (L : Lam1 X.env.scope scope u) (ok : X.Ok) : ∀ y ∈ scope.names, y.2 = .free → ∃ c, X.env.cells.lookup y.1 = some c := fun y hy e =>
  (L.free y hy e).elim (fun k => ok.has _ (.inl k)) (fun k => ok.has _ (.inr k))
theorem lam1_start {A : Around} {outer : List Env} {E : XK} {scope : Scope} {f c' : Addr} {h₁ : Heap} {tk i : Nat} {u : Str} {v : V} {uv : Value} (I : Inv X pins σ H s) (L : Lam1 X.env.scope scope u) (hi : X.N[i]? = some u) (hN : X.N.Nodup) (rv : RelV v uv)
    (e0 : Env0 X.prog X.w X.K X.mg X.base A outer s H) (hd : A.handled = none) (hns : h₁.Ns s.heap.objs.size fun y => ([(u, uv)] : List (Str × Value)).reverse.lookup y) (kp : ∀ b o, s.heap.get? b = some o → h₁.get? b = some o) :
    Inv (lamCx X A outer s H E scope f c') [] (σ.set i (some v)) H { s with heap := h₁, toks := tk } := by
  have back : ∀ {y c}, (cloFrom X.env.cells scope.names []).lookup y = some c → X.env.cells.lookup y = some c := by
    intro y c e
    rcases cloFrom_mem (PySem.mem_of_lookup e) with z | ⟨h1, h2⟩
    · cases z
    · obtain ⟨c1, hc⟩ := L.has I.ok _ h1 rfl
      have hc : X.env.cells.lookup y = some c1 := hc
      have e2 : c = c1 := by rw [h2, hc] <;> rfl
      exact e2 ▸ hc
  have forth : ∀ {y}, scope.names.lookup y = some .free → ∃ c, (cloFrom X.env.cells scope.names []).lookup y = some c := by
    intro y hl
    exact mem_lookup (cloFrom_has (cells := X.env.cells) (acc := []) (PySem.mem_of_lookup hl))
  have keepC : ∀ {c : Addr} {w' : Option Value}, s.heap.IsCell c w' → h₁.IsCell c w' := fun ⟨o, ho, q⟩ => ⟨o, kp _ _ ho, q⟩
  have noE : ∀ b : Addr, b ∉ (lamCx X A outer s H E scope f c').ex := fun b z => absurd (show b ∈ ([] : List Addr) from z) (by simp)
  refine ⟨⟨e0.mod, L.kind, rfl, rfl, Nat.le_refl _, fun y z c a b => I.ok.inj y z c (back a) (back b), fun y hy => ?_, fun y c z _ => ?_, fun _ => hd, Around.frames_deeper e0.frames, .inr ⟨rfl, rfl⟩, fun b z => absurd z (noE b), e0.bs, e0.bsz, fun b _ _ => noE b,
      fun b z => absurd z (noE b), e0.funs, e0.frf⟩,
    rfl, e0.bare, Un.kept kp, ⟨_, hns, fun j y x e1 e2 e3 => ?_⟩, fun y c e => ?_, e0.hok.fresh (Nat.le_refl _), fun y c e => I.freeC y c (back e), fun q hq => absurd (show q ∈ ([] : List (Addr × Obj)) ++ [] from hq) (by simp), e0.hok.kept kp, ?_⟩
  · have hy : scope.names.lookup y = some .cell ∨ scope.names.lookup y = some .free := hy
    rcases hy with hy | hy
    · exact absurd rfl (L.nocell _ (PySem.mem_of_lookup hy))
    · exact forth hy
  · have z : false = true := z
    cases z
  · have e1 : X.N[j]? = some y := e1
    have e3 : Vis scope y := e3
    rcases e3 with k | k | k
    · have ey : y = u := L.one _ (PySem.mem_of_lookup k) rfl
      subst ey
      have ej : j = i := nodup_ix hN e1 hi
      subst ej
      have hlt : j < σ.length := by
        rw [I.len]
        exact (List.getElem?_eq_some_iff.mp hi).1
      rw [List.getElem?_set_self hlt] at e2
      cases e2
      refine ⟨uv, rv, .inl ⟨k, ?_⟩⟩
      show ([(y, uv)] : List (Str × Value)).reverse.lookup y = some uv
      simp [List.lookup]
    · exact absurd rfl (L.nocell _ (PySem.mem_of_lookup k))
    · have hne : i ≠ j := fun z => by
        subst z
        rw [hi] at e1
        cases e1
        rw [L.par] at k
        cases k
      rw [List.getElem?_set_ne hne] at e2
      obtain ⟨m, hn, hl⟩ := I.loc
      have hvis : Vis X.env.scope y := (L.free _ (PySem.mem_of_lookup k) rfl).elim (fun k => .inr (.inl k)) (fun k => .inr (.inr k))
      obtain ⟨w', r, q⟩ := hl j y x e1 e2 hvis
      obtain ⟨c2, h2⟩ := forth k
      refine ⟨w', r, .inr ⟨.inr k, c2, h2, ?_⟩⟩
      rcases q with ⟨k', _⟩ | ⟨_, c3, e', z⟩
      · have k' : X.env.scope.names.lookup y = some .local := k'
        rcases L.free _ (PySem.mem_of_lookup k) rfl with k2 | k2 <;> rw [show X.env.scope.names.lookup y = _ from k2] at k' <;> cases k'
      · rw [back h2] at e'
        cases e'
        exact keepC z
  · obtain ⟨w', z⟩ := I.cell y c (back e)
    exact ⟨w', keepC z⟩
  · show (σ.set i (some v)).length = X.N.length
    rw [List.length_set]
    exact I.len
theorem cx_false {P : Program} {w : World} {outer : List Env} {u : Value} {s s' : Shared} {H : Hp} (h : L2.CX P w outer H s (fun _ _ _ => False) u s') : False := by
  obtain ⟨_, _, _, _, _, _, _, _, _, _, _, _, z⟩ := h
  exact z
theorem lam1_call {scope : Scope} {params : Arguments} {body : Expr} {f c' : Addr} {pm ctv uv : Value} {u : Str} {v : V} {i k : Nat} {tb : TE} {Q : VK} (I : Inv X pins σ H s) (L : Lam1 X.env.scope scope u) (hi : X.N[i]? = some u) (hN : X.N.Nodup) (rv : RelV v uv)
    (hf : s.heap.get? f = some (PySem.W.kla_obj "<lambda>" (X.env.qual ++ "<lambda>") params body scope (cloFrom X.env.cells scope.names []) pm c' ctv)) (hc : H c' = some (CodeO c' (X.env.qual ++ "<lambda>"))) (hr : Room (k + 2) X.A)
    (hbind : bindArgs (PySem.W.kla_fn "<lambda>" (X.env.qual ++ "<lambda>") params body scope (cloFrom X.env.cells scope.names []) pm (.ref c') ctv) ⟨[uv], []⟩ = pure [(u, uv)])
    (hbody : ∀ (A : Around) (outer : List Env) (s : Shared) (H : Hp), Room k (A.deeper (lamEnv X scope s.heap.objs.size f c')) → PE (lamCx X A outer s H (fun _ _ _ => False) scope f c') body tb)
    (ht : tb (σ.set i (some v)) H Q) {E : Value → Shared → Prop} : wpAny (model X.prog X.w) X.A.in1 (call (.ref f) [uv]) (EP X pins σ Q) E s := by
  obtain ⟨⟨oc, vs, t, hoc, hdc, hvc⟩, _, _⟩ := I.hok c' _ hc
  have e0 : Env0 X.prog X.w X.K X.mg X.base X.A.in1 X.stack s H := I.env0.in1
  have rc : codeAny (model X.prog X.w) X.A.in1 (.call (.ref f) ⟨[uv], []⟩) (CR (L2.CX X.prog X.w) X.stack X.prog X.w H s Q (fun _ _ _ => False)) s := by
    refine PySem.W.kla_callFunE hr.in1.depth hf rfl L.co L.gen rfl ⟨c', oc, vs, t, rfl, hoc, hdc, hvc⟩ ?_
    rw [hbind]
    refine wpAny_pure (wpAny_newFunctionEnv L.nocell (fun y hy => ?_) (fun h₁ hns hsb => ⟨I.nolimit.fresh _ hsb, ?_⟩) L.kind)
    · have e : y = (u, uv) := by simpa using hy
      rw [e]
      exact L.par
    · have kp : ∀ b o, s.heap.get? b = some o → h₁.get? b = some o := fun b o e => hsb.extBut b o (Nat.ne_of_lt (Heap.lt_size e)) (Heap.get?_push_of_some _ e)
      have J := lam1_start (E := fun _ _ _ => False) (f := f) (c' := c') (tk := s.toks + ([(u, uv)] : List (Str × Value)).length) I L hi hN rv e0 hr.in1.hd hns kp
      refine PySem.W.kla_codeExpr (wpAny_mono ((hbody _ _ s H (hr.in1.deeper _)).run [] _ _ H Q J ht) (fun z s' hq => ?_) fun e s' hq => hq)
      obtain ⟨w', H', J', rz, q⟩ := hq
      exact ⟨w', H', J'.os, J'.bare, J'.base, J'.hok, rz, q⟩
  refine wpAny_call (codeAny_mono rc fun r s' hq => ?_)
  cases r with
  | error e => exact (cx_false hq).elim
  | ok fl =>
    cases fl with
    | ret z => exact I.after hq
    | next => exact False.elim hq
    | brk => exact False.elim hq
    | cont => exact False.elim hq
end
section
variable {X : Cx} {pins : List (Addr × Obj)} {σ : L2.St} {H : Hp} {s : Shared}
theorem repin {a : Addr} {o o' : Obj} {h' : Heap} {t' : Nat} (I : Inv X ((a, o) :: pins) σ H s) (k : ∀ b u, b ≠ a → s.heap.get? b = some u → h'.get? b = some u) (ha : h'.get? a = some o') (h0 : X.s_0.heap.objs.size ≤ a) (hne : ∀ p ∈ X.pn ++ pins, p.1 ≠ a) (hd : ∀ v, o'.data ≠ .cell v) :
    Inv X ((a, o') :: pins) σ H { s with heap := h', toks := t' } := by
  obtain ⟨g1, g2, g3, g4, g5⟩ := I.pin (a, o) (List.mem_append_right _ List.mem_cons_self)
  have J : Inv X pins σ H s := I.pins_of fun p hp => I.pin p (List.mem_append_right _ (List.mem_cons_of_mem _ hp))
  have J2 := J.turned (t' := t') k g2 g3 (.inr h0) (fun x c e z => by
    obtain ⟨v, ob, ho, hc⟩ := J.cell x c e
    rw [z, g1] at ho
    cases ho
    exact g5 v hc) hne
  refine J2.pins_of fun p hp => ?_
  rcases List.mem_cons.mp hp with rfl | hp
  · exact ⟨ha, g2, g3, g4, hd⟩
  · exact J2.pin p (List.mem_append_right _ hp)
theorem swap_pins {p q : Addr × Obj} (I : Inv X (p :: q :: pins) σ H s) : Inv X (q :: p :: pins) σ H s := I.pins_of fun r hr => I.pin r (List.mem_append_right _ (by
  rcases List.mem_cons.mp hr with rfl | hr
  · simp
  · rcases List.mem_cons.mp hr with rfl | hr
    · simp
    · simp [hr]))
theorem drop_pin {p : Addr × Obj} (I : Inv X (p :: pins) σ H s) : Inv X pins σ H s := I.pins_of fun r hr => I.pin r (List.mem_append_right _ (List.mem_cons_of_mem _ hr))
def FirstMax (ks : List Int) (i : Nat) : Prop := ∃ n, ks[i]? = some n ∧ ∀ (j : Nat) (m : Int), ks[j]? = some m → m ≤ n ∧ (j < i → m < n)
theorem max_loop {xs : List V} {ks : List Int} {l q S J : Addr} {oq : Obj} {R : Result → Shared → Prop} (hh : X.A.handled = none) (hl : H l = some (.lst xs)) (hk : ks.length = xs.length)
    (hJ0 : X.s_0.heap.objs.size ≤ J) (hS0 : X.s_0.heap.objs.size ≤ S) (hSJ : S ≠ J) (hpJ : ∀ p ∈ X.pn ++ ((q, oq) :: pins), p.1 ≠ J) (hpS : ∀ p ∈ X.pn ++ ((q, oq) :: pins), p.1 ≠ S)
    (turn : ∀ (pins' : List (Addr × Obj)) (s : Shared) (i : Nat) (v : V) (u : Value) (n : Int), (q, oq) ∈ pins' → Inv X pins' σ H s → xs[i]? = some v → RelV v u → ks[i]? = some n →
      wpAny (model X.prog X.w) X.A.in1 (call (.ref q) [u]) (EP X pins' σ fun x H' => x = .int n ∧ H' = H) (fun _ _ => False) s)
    (hR : ∀ (s : Shared) (i : Nat) (v : V) (u : Value), Inv X pins σ H s → xs[i]? = some v → RelV v u → FirstMax ks i → R (.ok (.ret u)) s) :
    ∀ (r j i : Nat) (s : Shared) (v : V) (vb : Value) (n : Int) (tb : Tok) (c : Nat) (oJ : Obj), xs.length - (j + 1) = r → j + 1 ≤ xs.length → Inv X ((S, seqObj "list" #[vb, .int n tb] c) :: (J, oJ) :: (q, oq) :: pins) σ H s →
      oJ.cls = .type "list_iterator" → (∀ h : Heap, h.get? J = some oJ → h.IsListIter J l (j + 1)) → xs[i]? = some v → RelV v vb → ks[i]? = some n → i ≤ j → (∀ (j' : Nat) (m : Int), j' ≤ j → ks[j']? = some m → m ≤ n ∧ (j' < i → m < n)) →
      codeAny (model X.prog X.w) X.A (.builtin "max.loop" ⟨[.ref J, .ref q, .ref S], []⟩) R s := by
  have nm : (toString "max" ++ toString ".loop" : String) = "max.loop" := by decide
  have mem2 : ∀ {o : Obj} (p : Addr × Obj), p ∈ X.pn ++ ((J, o) :: (q, oq) :: pins) → p.1 ≠ S := fun p hp => by
    rcases List.mem_append.mp hp with z | z
    · exact hpS p (List.mem_append_left _ z)
    · rcases List.mem_cons.mp z with rfl | z
      · exact Ne.symm hSJ
      · exact hpS p (List.mem_append_right _ z)
  have mem1 : ∀ {o : Obj} (p : Addr × Obj), p ∈ X.pn ++ ((S, o) :: (q, oq) :: pins) → p.1 ≠ J := fun p hp => by
    rcases List.mem_append.mp hp with z | z
    · exact hpJ p (List.mem_append_left _ z)
    · rcases List.mem_cons.mp z with rfl | z
      · exact hSJ
      · exact hpJ p (List.mem_append_right _ z)
  intro r
  induction r with
  | zero =>
    intro j i s v vb n tb c oJ hr hj I hcl hit hv rv hn hij hbest
    have hin : j + 1 = xs.length := by omega
    obtain ⟨s1, _⟩ := I.pin (S, seqObj "list" #[vb, .int n tb] c) (by simp)
    obtain ⟨j1, j2, _⟩ := I.pin (J, oJ) (by simp)
    obtain ⟨_, its, nn, rs, hob⟩ := I.hok l _ hl
    have hlJ : l ≠ J := ne_of_none hl j2
    have W := Walks.list (prog := X.prog) (w := X.w) (A := X.A.in1) hh J l hlJ its.toArray
    have hsz : its.toArray.size = xs.length := by rw [List.size_toArray]; exact rs.length.symm
    refine codeAny_builtin PySem.F.entry_max_loop ?_
    rw [Around.under_plainId PySem.F.plain_max_loop _]
    show wpAny _ X.A.in1 (seqItems? (.ref S) >>= _) _ _ _
    refine wpAny_bind (wpAny_seqItems s1 rfl ?_)
    show wpAny _ X.A.in1 (tryCatch (pyNext (.ref J)) _ >>= _) _ _ _
    refine wpAny_bind (wpAny_tryCatch (W.done _ _ _ ⟨by rw [hsz, ← hin]; exact hit _ j1, ⟨_, hob, rfl, _, rfl⟩⟩ fun h' tk' hk' => ?_))
    have I1 : Inv X ((q, oq) :: (S, seqObj "list" #[vb, .int n tb] c) :: pins) σ H { s with heap := h', toks := tk' } := by
      have I0 := swap_pins I
      have I0 : Inv X ((S, seqObj "list" #[vb, .int n tb] c) :: (q, oq) :: pins) σ H s := drop_pin I0
      have z := I0.turned (t' := tk') (h' := h') (it := J) (fun b o hb e => hk' b o (by simpa using hb) e) j2 (I.pin (J, oJ) (by simp)).2.2.1 (.inr hJ0) (fun x c e z => by
        obtain ⟨w', ob, ho, hc⟩ := I.cell x c e
        rw [z, j1] at ho
        cases ho
        exact (I.pin (J, oJ) (by simp)).2.2.2.2 w' hc) mem1
      exact swap_pins z
    have hS' := (I1.pin (S, seqObj "list" #[vb, .int n tb] c) (by simp)).1
    show wpAny _ X.A.in1 (updateSeq S (fun _ => #[]) >>= _) _ _ _
    refine wpAny_bind ?_
    refine wpAny_updateSeq hS' rfl (wpAny_bind (wpAny_letGo (wpAny_pure ?_)))
    have s2 := Heap.SameBut.update h' S (Obj.mapSeq fun _ => (#[] : Array Value))
    have I2 := repin (t' := tk') (o' := seqObj "list" #[] (if ((#[] : Array Value)).size == (#[vb, .int n tb] : Array Value).size then c else c + 1)) (swap_pins I1) (fun b u hb e => s2.extBut b u hb e) (get?_update_seq hS' fun _ => #[]) hS0 (fun p hp => hpS p hp) (fun v z => by cases z)
    refine hR _ i v vb (drop_pin (drop_pin I2)) hv rv ⟨n, hn, fun j' m hm => ?_⟩
    have hjl := (List.getElem?_eq_some_iff.mp hm).1
    exact hbest j' m (by omega) hm
  | succ r ih =>
    intro j i s v vb n tb c oJ hr hj I hcl hit hv rv hn hij hbest
    have hlt : j + 1 < xs.length := by omega
    obtain ⟨s1, _⟩ := I.pin (S, seqObj "list" #[vb, .int n tb] c) (by simp)
    obtain ⟨j1, j2, _⟩ := I.pin (J, oJ) (by simp)
    obtain ⟨_, its, nn, rs, hob⟩ := I.hok l _ hl
    have hlJ : l ≠ J := ne_of_none hl j2
    have W := Walks.list (prog := X.prog) (w := X.w) (A := X.A.in1) hh J l hlJ its.toArray
    have hsz : its.toArray.size = xs.length := by rw [List.size_toArray]; exact rs.length.symm
    refine codeAny_builtin PySem.F.entry_max_loop ?_
    rw [Around.under_plainId PySem.F.plain_max_loop _]
    show wpAny _ X.A.in1 (seqItems? (.ref S) >>= _) _ _ _
    refine wpAny_bind (wpAny_seqItems s1 rfl ?_)
    show wpAny _ X.A.in1 (tryCatch (pyNext (.ref J)) _ >>= _) _ _ _
    refine wpAny_bind (wpAny_tryCatch (W.item (j + 1) _ _ _ (by rw [hsz]; exact hlt) ⟨hit _ j1, ⟨_, hob, rfl, _, rfl⟩⟩ fun u h' tk' hP hst hk' => ?_))
    have hu : its[j + 1]? = some u := by simpa using hP
    obtain ⟨oJ', hoJ, hoc, hod⟩ := id hst.1
    have I1 := repin (t' := tk') (o' := oJ') (swap_pins I) (fun b o hb e => hk' b o (by simpa using hb) e) hoJ hJ0 mem1 (fun v z => by rw [hod] at z; cases z)
    obtain ⟨x, hx⟩ : ∃ x, xs[j + 1]? = some x := ⟨_, List.getElem?_eq_getElem hlt⟩
    obtain ⟨u', hu', rx⟩ := rs.get hx
    rw [hu] at hu'
    cases hu'
    obtain ⟨m, hm⟩ : ∃ m, ks[j + 1]? = some m := ⟨_, List.getElem?_eq_getElem (by omega)⟩
    show wpAny _ X.A.in1 (tryCatch (holding [u] (call (.ref q) [u])) _ >>= _) _ _ _
    refine wpAny_bind (wpAny_tryCatch (wpAny_holding (wpAny_mono (turn _ _ (j + 1) x u m (by simp) I1 hx rx hm) (fun y s' he => ?_) fun _ _ hF => hF.elim)))
    obtain ⟨w', H', I2, ry, e1, e2⟩ := he
    subst e1
    subst e2
    obtain ⟨t2, rfl⟩ := ry
    have I2 := swap_pins I2
    obtain ⟨s3, _⟩ := I2.pin (S, seqObj "list" #[vb, .int n tb] c) (by simp)
    show wpAny _ X.A.in1 (tryCatch (holding [u, .int m t2] (richCompare .Gt (.int m t2) (.int n tb) >>= _)) _ >>= _) _ _ _
    refine wpAny_bind (wpAny_tryCatch (wpAny_holding (wpAny_bind (CmpOf.ints_gt (prog := X.prog) (w := X.w) (A := X.A.in1) (P := fun i v => ∃ t, v = .int (if i = 0 then m else n) t) (fun i => if i = 0 then m else n) (fun i v h => h) 0 1 _ _ _ _ _ ⟨t2, rfl⟩ ⟨tb, rfl⟩ ?_))))
    refine wpAny_bind (wpAny_holding (wpAny_truthy_bool ?_))
    refine wpAny_bind (wpAny_letGo (wpAny_pure ?_))
    by_cases hb : n < m
    · have hb1 : decide ((if (0 : Nat) = 0 then m else n) > (if (1 : Nat) = 0 then m else n)) = true := by simpa using hb
      rw [if_pos hb1]
      refine wpAny_bind ?_
      refine wpAny_updateSeq s3 rfl (wpAny_bind (wpAny_letGo ?_))
      rw [nm]
      have s4 := Heap.SameBut.update s'.heap S (Obj.mapSeq fun _ => #[u, .int m t2])
      have I3 := repin (t' := s'.toks) I2 (fun b u hb e => s4.extBut b u hb e) (get?_update_seq s3 fun _ => #[u, .int m t2]) hS0 mem2 (fun v z => by cases z)
      refine wpAny_pure ⟨plainId_quiet PySem.F.plain_max_loop _, ih (j + 1) (j + 1) _ x u m t2 _ oJ' (by omega) hlt I3 hoc (fun h e => ⟨oJ', e, hoc, hod⟩) hx rx hm (Nat.le_refl _) fun j' m' hj' hm' => ?_⟩
      by_cases e : j' = j + 1
      · subst e
        rw [hm] at hm'
        cases hm'
        exact ⟨Int.le_refl _, fun z => absurd z (Nat.lt_irrefl _)⟩
      · obtain ⟨z1, z2⟩ := hbest j' m' (by omega) hm'
        exact ⟨by omega, fun _ => by omega⟩
    · have hb1 : decide ((if (0 : Nat) = 0 then m else n) > (if (1 : Nat) = 0 then m else n)) = false := by simpa using hb
      rw [if_neg (fun z => Bool.noConfusion (hb1.symm.trans z))]
      refine wpAny_bind (wpAny_letGo ?_)
      rw [nm]
      refine wpAny_pure ⟨plainId_quiet PySem.F.plain_max_loop _, ih (j + 1) i _ v vb n tb _ oJ' (by omega) hlt I2 hoc (fun h e => ⟨oJ', e, hoc, hod⟩) hv rv hn (by omega) fun j' m' hj' hm' => ?_⟩
      by_cases e : j' = j + 1
      · subst e
        rw [hm] at hm'
        cases hm'
        exact ⟨by omega, fun z => by omega⟩
      · exact hbest j' m' (by omega) hm'
end
section
variable {X : Cx} {pins : List (Addr × Obj)} {σ : L2.St} {H : Hp} {s : Shared}
theorem call_maxKey {xs : List V} {ks : List Int} {l q : Addr} {oq : Obj} {Q : VK} {E : Value → Shared → Prop} (I : Inv X ((q, oq) :: pins) σ H s) (hh : X.A.handled = none) (hl : H l = some (.lst xs)) (hne : xs ≠ []) (hk : ks.length = xs.length)
    (turn : ∀ (pins' : List (Addr × Obj)) (s : Shared) (i : Nat) (v : V) (u : Value) (n : Int), (q, oq) ∈ pins' → Inv X pins' σ H s → xs[i]? = some v → RelV v u → ks[i]? = some n →
      wpAny (model X.prog X.w) X.A.in1 (call (.ref q) [u]) (EP X pins' σ fun x H' => x = .int n ∧ H' = H) (fun _ _ => False) s)
    (hQ : ∀ (i : Nat) (v : V), xs[i]? = some v → FirstMax ks i → Q v H) : wpAny (model X.prog X.w) X.A (call (.builtin "max") [.ref l] [(Str.ofString "key", .ref q)]) (EP X pins σ Q) E s := by
  have nm : (toString "max" ++ toString ".loop" : String) = "max.loop" := by decide
  have pos := List.length_pos_iff.mpr hne
  obtain ⟨_, its, nn, rs, hob⟩ := I.hok l _ hl
  refine PyProof.Rows.kmk_tree PySem.F.kind_max PySem.F.plain_max PySem.F.entry_max (PyProof.Rows.kmk_max_key _ _) ?_
  show wpAny _ X.A.in1 (Builtin.Builtins.bindParams "max" ["key", "default"] 0 ⟨[], [(Str.ofString "key", .ref q)]⟩ >>= _) _ _ s
  refine wpAny_bind (wpAny_of_eq (show Builtin.Builtins.bindParams "max" ["key", "default"] 0 ⟨[], [(Str.ofString "key", .ref q)]⟩ = pure [some (.ref q), none] from rfl) ?_)
  refine wpAny_bind (wpAny_pure ?_)
  refine wpAny_bind (wpAny_pyIter_list ⟨_, hob, rfl, _, rfl⟩ ?_)
  refine wpAny_bind (wpAny_newList ?_ (Nat.zero_le _))
  rw [nm]
  obtain ⟨J, eJ⟩ : ∃ J, J = s.heap.objs.size := ⟨_, rfl⟩
  obtain ⟨h1, eh1⟩ : ∃ h1, h1 = s.heap.push { cls := .type "list_iterator", data := .fields #[.ref l, .int 0 0] } := ⟨_, rfl⟩
  have hS : h1.objs.size = J + 1 := by rw [eh1, eJ]; exact size_push' ..
  rw [← eh1, ← eJ]
  obtain ⟨h2, eh2⟩ : ∃ h2, h2 = h1.push { cls := .type "list", data := .seq ([] : List Value).toArray } := ⟨_, rfl⟩
  rw [← eh2, hS]
  have kp : ∀ b o, s.heap.get? b = some o → h2.get? b = some o := fun b o e => by
    rw [eh2, eh1]
    exact Heap.get?_push_of_some _ (Heap.get?_push_of_some _ e)
  have gJ : h2.get? J = some { cls := .type "list_iterator", data := .fields #[.ref l, .int 0 0] } := by
    rw [eh2, eh1, eJ]
    exact Heap.get?_push_of_some _ (Heap.get?_push_size _ rfl)
  have gS : h2.get? (J + 1) = some (seqObj "list" #[] 0) := by
    rw [eh2, ← hS]
    exact Heap.get?_push_size _ rfl
  have I1 : Inv X ((q, oq) :: pins) σ H { s with heap := h2 } := I.kept (t' := s.toks) kp
  have sz : X.s_0.heap.objs.size ≤ J := eJ ▸ I.sz
  have pl : ∀ p ∈ X.pn ++ ((q, oq) :: pins), p.1 < J := fun p hp => eJ ▸ Heap.lt_size (I.pin p hp).1
  have pJ : ∀ p ∈ X.pn ++ ((q, oq) :: pins), p.1 ≠ J := fun p hp => Nat.ne_of_lt (pl p hp)
  have pS : ∀ p ∈ X.pn ++ ((q, oq) :: pins), p.1 ≠ J + 1 := fun p hp => Nat.ne_of_lt (Nat.lt_succ_of_lt (pl p hp))
  have nJ : H J = none := I.hok.fresh (by rw [eJ]; exact Nat.le_refl _)
  have nS : H (J + 1) = none := I.hok.fresh (by rw [eJ]; exact Nat.le_succ _)
  have Lt : X.env.locals < J := eJ ▸ I.lt
  have I2 : Inv X ((J + 1, seqObj "list" #[] 0) :: (J, { cls := .type "list_iterator", data := .fields #[.ref l, .int 0 0] }) :: (q, oq) :: pins) σ H { s with heap := h2 } := I1.pins_of fun p hp => by
    rcases List.mem_cons.mp hp with rfl | hp
    · exact ⟨gS, nS, Nat.ne_of_gt (Nat.lt_succ_of_lt Lt), I.nofs (by rw [eJ]; exact Nat.le_succ _), fun v z => by cases z⟩
    · rcases List.mem_cons.mp hp with rfl | hp
      · exact ⟨gJ, nJ, Nat.ne_of_gt Lt, I.nofs (by rw [eJ]; exact Nat.le_refl _), fun v z => by cases z⟩
      · exact I1.pin p (List.mem_append_right _ hp)
  refine wpAny_pure ⟨plainId_quiet PySem.F.plain_max_loop _, ?_⟩
  have hlJ : l ≠ J := ne_of_none hl nJ
  have W := Walks.list (prog := X.prog) (w := X.w) (A := X.A.in1) hh J l hlJ its.toArray
  have hsz : its.toArray.size = xs.length := by rw [List.size_toArray]; exact rs.length.symm
  refine codeAny_builtin PySem.F.entry_max_loop ?_
  rw [Around.under_plainId PySem.F.plain_max_loop _]
  show wpAny _ X.A.in1 (seqItems? (.ref (J + 1)) >>= _) _ _ _
  refine wpAny_bind (wpAny_seqItems gS rfl ?_)
  show wpAny _ X.A.in1 (tryCatch (pyNext (.ref J)) _ >>= _) _ _ _
  refine wpAny_bind (wpAny_tryCatch (W.item 0 _ _ _ (by rw [hsz]; exact pos) ⟨⟨_, gJ, rfl, rfl⟩, ⟨_, kp _ _ hob, rfl, _, rfl⟩⟩ fun u h' tk' hP hst hk' => ?_))
  have hu : its[0]? = some u := by simpa using hP
  obtain ⟨oJ', hoJ, hoc, hod⟩ := id hst.1
  have m1 : ∀ {o : Obj} (p : Addr × Obj), p ∈ X.pn ++ ((J + 1, o) :: (q, oq) :: pins) → p.1 ≠ J := fun p hp => by
    rcases List.mem_append.mp hp with z | z
    · exact pJ p (List.mem_append_left _ z)
    · rcases List.mem_cons.mp z with rfl | z
      · exact Nat.succ_ne_self J
      · exact pJ p (List.mem_append_right _ z)
  have m2 : ∀ {o : Obj} (p : Addr × Obj), p ∈ X.pn ++ ((J, o) :: (q, oq) :: pins) → p.1 ≠ J + 1 := fun p hp => by
    rcases List.mem_append.mp hp with z | z
    · exact pS p (List.mem_append_left _ z)
    · rcases List.mem_cons.mp z with rfl | z
      · exact Ne.symm (Nat.succ_ne_self J)
      · exact pS p (List.mem_append_right _ z)
  have I3 := repin (t' := tk') (o' := oJ') (swap_pins I2) (fun b o hb e => hk' b o (by simpa using hb) e) hoJ sz m1 (fun v z => by rw [hod] at z; cases z)
  obtain ⟨x, hx⟩ : ∃ x, xs[0]? = some x := ⟨_, List.getElem?_eq_getElem pos⟩
  obtain ⟨u', hu', rx⟩ := rs.get hx
  rw [hu] at hu'
  cases hu'
  obtain ⟨m, hm⟩ : ∃ m, ks[0]? = some m := ⟨_, List.getElem?_eq_getElem (by omega)⟩
  show wpAny _ X.A.in1 (tryCatch (holding [u] (call (.ref q) [u])) _ >>= _) _ _ _
  refine wpAny_bind (wpAny_tryCatch (wpAny_holding (wpAny_mono (turn _ _ 0 x u m (by simp) I3 hx rx hm) (fun y s' he => ?_) fun _ _ hF => hF.elim)))
  obtain ⟨w', H', I4, ry, e1, e2⟩ := he
  subst e1
  subst e2
  obtain ⟨t2, rfl⟩ := ry
  have I4 := swap_pins I4
  obtain ⟨s3, _⟩ := I4.pin (J + 1, seqObj "list" #[] 0) (by simp)
  show wpAny _ X.A.in1 (updateSeq (J + 1) (fun _ => #[u, .int m t2]) >>= _) _ _ _
  refine wpAny_bind ?_
  refine wpAny_updateSeq s3 rfl ?_
  rw [nm]
  have s4 := Heap.SameBut.update s'.heap (J + 1) (Obj.mapSeq fun _ => #[u, .int m t2])
  have I5 := repin (t' := s'.toks) I4 (fun b u hb e => s4.extBut b u hb e) (get?_update_seq s3 fun _ => #[u, .int m t2]) (Nat.le_succ_of_le sz) m2 (fun v z => by cases z)
  refine wpAny_pure ⟨plainId_quiet PySem.F.plain_max_loop _, max_loop (pins := pins) (q := q) (oq := oq) hh hl hk sz (Nat.le_succ_of_le sz) (Nat.succ_ne_self J) pJ pS turn (fun s i v u I hv rv hf => ⟨v, H', I, rv, hQ i v hv hf⟩) _ 0 0 _ x u m t2 _ oJ' rfl pos I5 hoc (fun h e => ⟨oJ', e, hoc, hod⟩) hx rx hm (Nat.le_refl _) fun j' m' hj' hm' => ?_⟩
  have e : j' = 0 := by omega
  subst e
  rw [hm] at hm'
  cases hm'
  exact ⟨Int.le_refl _, fun z => absurd z (Nat.lt_irrefl _)⟩
def pMaxL (T : List (Addr × Str)) (tb : TE) (i : Nat) (σ : L2.St) (Q : VK) (x : V) (H1 : Hp) : Prop := ∃ (l : Addr) (xs : List V) (ks : List Int), x = .ref l ∧ H1 l = some (.lst xs) ∧ xs ≠ [] ∧ ks.length = xs.length ∧ Tabs T H1 ∧
  ∀ H2, ExtN H1 H2 → Tabs T H2 → (∀ (j : Nat) (v : V) (n : Int), xs[j]? = some v → ks[j]? = some n → tb (σ.set i (some v)) H2 fun y H3 => y = .int n ∧ H3 = H2) ∧ ∀ (j : Nat) (v : V), xs[j]? = some v → FirstMax ks j → Q v H2
def tMaxL (T : List (Addr × Str)) (te tb : TE) (i : Nat) : TE := fun σ H Q => te σ H (pMaxL T tb i σ Q)
theorem pe_maxLam {T : List (Addr × Str)} {c P : Addr} {e : Expr} {te tb : TE} {params : Arguments} {body : Expr} {scope : Scope} {p lpos kpos pos : Pos} {u : Str} {i k : Nat} (hcalm : X.calm = true) (hg : Gl X "max") (hm : X.mg "max" = none) (ha : PA X [e] (tCons te tNil))
    (TB : TabB X.base X.mg c P) (hcode : X.env.code = .ref c) (hmT : (P, X.env.qual ++ "<lambda>") ∈ T) (hu : ∀ p ∈ T, p.1 = P → p.2 = X.env.qual ++ "<lambda>") (hr : Room (k + 2) X.A) (L : Lam1 X.env.scope scope u) (hi : X.N[i]? = some u) (hN : X.N.Nodup)
    (hdef : defaultsOf params X.env = ([], []))
    (hbind : ∀ (q : Str) (cl : List (Str × Addr)) (pm cv ctv v : Value), bindArgs (PySem.W.kla_fn "<lambda>" q params body scope cl pm cv ctv) ⟨[v], []⟩ = pure [(u, v)])
    (hbody : ∀ (A : Around) (outer : List Env) (s : Shared) (H : Hp) (f c' : Addr), Room k (A.deeper (lamEnv X scope s.heap.objs.size f c')) → PE (lamCx X A outer s H (fun _ _ _ => False) scope f c') body tb)
    (hs : backTo pos (starEach [e] X.env) = (false, eval e X.env) :: backTo pos (starEach [] X.env) := by rfl) (hpl : (backTo pos (starEach [e] X.env)).any (·.1) = false := by rfl) :
    PE X (.Call (.Name "max" p) [e] [⟨some "key", .Lambda params body scope lpos, kpos⟩] pos) (tMaxL T te tb i) := by
  refine ⟨fun pins s σ H Q I h => ?_⟩
  refine wpAny_Call_Name_kw (ld_blt (u := .builtin "max") I hg hm (by decide +kernel) ?_ (by decide) (by decide))
  refine PyProof.Rows.callWith_kw (thn (ha.run pos pins s σ H (fun vs H1 => pMaxL T tb i σ Q (vs.headD .non) H1 ∧ vs.length = 1) I ?_) fun us s1 ⟨vs, H1, I1, r1, q1, q2⟩ => ?_) hs hpl (by rfl) (by rfl)
  · show te σ H fun x H1 => pMaxL T tb i σ Q x H1 ∧ 1 = 1
    have z : (fun x H1 => pMaxL T tb i σ Q x H1 ∧ 1 = 1) = pMaxL T tb i σ Q := by
      funext x H1
      simp
    rw [z]
    exact h
  · cases r1 with
    | nil => cases q2
    | cons r r' =>
      cases r' with
      | cons _ _ => cases q2
      | nil =>
        obtain ⟨l, xs, ks, ex, hl, hne, hk, hT, q⟩ := q1
        have ex : _ = V.ref l := ex
        subst ex
        obtain rfl := (show _ = Value.ref l from r)
        show wpAny _ _ (evalAll [do let v ← eval (.Lambda params body scope lpos) X.env; standAt pos; pure v]) _ _ _
        refine wpAny_evalAll_cons (wpAny_bind (lam_make2 I1 TB hcode hmT hu hT hdef (L.has I1.ok) fun f c' pm ctv H2 s2 I2 eN T2 hf hfn hfr hco => wpAny_bind (wpAny_standAt (wpAny_pure (wpAny_evalAll_nil ?_)))))
        obtain ⟨q1, q2⟩ := q H2 eN T2
        have hl2 : H2 l = some (.lst xs) := eN _ _ hl (fun ps z => by cases z)
        have I3 : Inv X ((f, PySem.W.kla_obj "<lambda>" (X.env.qual ++ "<lambda>") params body scope (cloFrom X.env.cells scope.names []) pm c' ctv) :: pins) σ H2 s2 := I2.pins_of fun p hp => by
          rcases List.mem_cons.mp hp with rfl | hp
          · refine ⟨hf, hfn, fun z => ?_, fun z => ?_, fun v z => by cases z⟩
            · obtain ⟨m, ⟨o, es, ep, ho, hd, _⟩, _⟩ := I2.loc
              have z : f = X.env.locals := z
              rw [← z, hf] at ho
              cases ho
              cases hd
            · rcases I2.ok.stk with e' | ⟨e', _⟩
              · exact hfr (by rw [e']; exact z)
              · refine hfr ?_
                rw [e']
                unfold frs
                rw [List.filterMap_cons]
                split
                · exact z
                · exact List.mem_cons_of_mem _ z
          · exact I2.pin p (List.mem_append_right _ hp)
        refine call_maxKey I3 (I2.ok.hd hcalm) hl2 hne hk (fun pins' s i' v u' n hq J hv rv hn => ?_) q2
        have hc2 := hco
        exact thn (lam1_call (Q := fun y H3 => y = .int n ∧ H3 = H2) J L hi hN rv (J.pin _ (List.mem_append_right _ hq)).1 hc2 hr (hbind _ _ _ _ _ _) (fun A outer s H => hbody A outer s H f c') (q1 i' v n hv hn)) fun a s hq => hq
end
def CodeIs (K : PySem.W.Frag) (f c : Addr) : Prop := ∀ (oc : Value) (od : Option Addr) (fd : FuncData) (osl : Array (Option Value)), K.lookup f = some ⟨oc, od, .func fd, osl⟩ → fd.code = .ref c
section
variable {P : Program} {w : World} {K : PySem.W.Frag} {mg : Str → Option Value} {base : Heap} {CX : CXT} {k : Nat} {f c : Addr} {fd : FuncData} {ps N : List Str} {sp : Sp} {x qual : Str} {params : Arguments} {body : List Stmt} {scope : Scope} {dvs : List V} {kws : List (Str × V)}
theorem okC (F : FunD K x qual params body scope dvs kws f fd) (S : FnScope N ps scope) (hc : CodeIs K f c) (len : ∀ vs H Q E, sp vs H Q E → vs.length = ps.length)
    (hbody : ∀ (A : Around) (outer : List Env) (s : Shared) (H : Hp) (vs : List V) (Q : VK) (E : XK), Room k (A.deeper (envOfC qual scope s.heap.objs.size f (.ref c))) → sp vs H Q E →
      ∃ t, PSs (cxOf CX P w K mg base N qual scope f (.ref c) A outer s H E) body t ∧ t { nx := fun _ H' => Q .non H', rt := Q } (L2.start N vs) H) : FnOk P w K mg base CX (k + 1) f fd ps sp := by
  obtain ⟨oc, od, dV, kV, doc, pm, an, cdv, ct, osl, rfl, lk, hcd, _, _⟩ := F.ex
  have e : cdv = .ref c := hc _ _ _ _ lk
  subst e
  refine ⟨len, fun A outer s H args us vs Q E hr e0 hb rel hsp => ?_⟩
  exact run_ofS lk hcd S hr e0 hb rel (len _ _ _ _ hsp) fun hr' => hbody A outer s H vs Q E hr' hsp
end
end WkL
namespace WkJ
open PySem PySem.Spec PyProof.Rows L2 LamX
abbrev FnA : Type := Option (Str × Str × Arguments × FuncBody × Scope × Addr × List Str × Addr)
def fnA (K : PySem.W.Frag) (a : Addr) : FnA := match K.lookup a with
  | some ⟨_, _, .func fd, _⟩ => some (fd.name, fd.qualname, fd.params, fd.body, fd.scope, fd.globals, fd.closure.map (·.1), fd.builtins)
  | _ => none
structure DefA where
  at_ : PySem.W.Frag → Addr
  name : Str
  qual : Str
  params : Arguments
  body : List Stmt
  scope : Scope
  clo : List Str := []
  dfl : List He.Dv := []
  kwd : List (Str × He.Dv) := []
def DefA.val (d : DefA) : FnA := some (d.name, d.qual, d.params, .stmts d.body, d.scope, mainGlobals, d.clo, builtinsNs)
def DefA.dvs (K : PySem.W.Frag) (d : DefA) : List V := d.dfl.map (He.Dv.v K)
def DefA.kws (K : PySem.W.Frag) (d : DefA) : List (Str × V) := d.kwd.map fun q => (q.1, q.2.v K)
def DefA.ok (K : PySem.W.Frag) (d : DefA) : Bool := PySem.W.keepIn K (.ref (d.at_ K)) && (match K.lookup (d.at_ K) with
  | some ⟨_, _, .func fd, _⟩ => PySem.W.codeIn K fd.code d.qual && (He.dflB K fd.defaults (d.dvs K) && He.kwdB K fd.kwdefaults (d.kws K))
  | _ => false)
structure FunC (K : PySem.W.Frag) (d : DefA) (fd : FuncData) : Prop where
  ex : ∃ (oc : Value) (od : Option Addr) (dV kV doc pm : Value) (an : Option Addr) (cdv ct : Value) (osl : Array (Option Value)) (cl : List (Str × Addr)),
    fd = ⟨d.name, d.qual, d.params, .stmts d.body, d.scope, mainGlobals, cl, dV, kV, doc, pm, an, cdv, ct, builtinsNs⟩ ∧ cl.map (·.1) = d.clo ∧ K.lookup (d.at_ K) = some ⟨oc, od, .func fd, osl⟩ ∧ PySem.W.codeIn K cdv d.qual = true ∧ DflV K dV (d.dvs K) ∧ KwdV K kV (d.kws K)
  kp : PySem.W.keepIn K (.ref (d.at_ K)) = true
theorem DefA.funC {K : PySem.W.Frag} {d : DefA} (e : fnA K (d.at_ K) = d.val) (c : d.ok K = true) : ∃ fd, FunC K d fd := by
  obtain ⟨kp, c2⟩ := He.ba c
  unfold fnA at e
  cases q : K.lookup (d.at_ K) with
  | none =>
    rw [q] at c2
    cases c2
  | some o =>
    obtain ⟨oc, od, dt, osl⟩ := o
    rw [q] at c2 e
    cases dt with
    | func fd =>
      obtain ⟨n1, n2, n3, n4, n5, n6, n7, n8, n9, n10, n11, n12, n13, n14, n15⟩ := fd
      have e2 : (some (n1, n2, n3, n4, n5, n6, n7.map (·.1), n15) : FnA) = some (d.name, d.qual, d.params, .stmts d.body, d.scope, mainGlobals, d.clo, builtinsNs) := e
      simp only [Option.some.injEq, Prod.mk.injEq] at e2
      obtain ⟨h1, h2, h3, h4, h5, h6, h7, h8⟩ := e2
      subst h1 h2 h3 h4 h5 h6 h8
      have c3 : (PySem.W.codeIn K n13 d.qual && (He.dflB K n8 (d.dvs K) && He.kwdB K n9 (d.kws K))) = true := c2
      obtain ⟨k1, k2⟩ := He.ba c3
      obtain ⟨k3, k4⟩ := He.ba k2
      exact ⟨_, ⟨oc, od, n8, n9, n10, n11, n12, n13, n14, osl, n7, rfl, h7, q, k1, He.dflB_ok k3, He.kwdB_ok k4⟩, kp⟩
    | _ => cases c2
theorem FunC.funD {K : PySem.W.Frag} {d : DefA} {fd : FuncData} (h : FunC K d fd) (hc : d.clo = []) : FunD K d.name d.qual d.params d.body d.scope (d.dvs K) (d.kws K) (d.at_ K) fd := by
  obtain ⟨oc, od, dV, kV, doc, pm, an, cdv, ct, osl, cl, rfl, e, lk, cd, h1, h2⟩ := h.ex
  rw [hc] at e
  have e := List.map_eq_nil_iff.mp e
  subst e
  exact ⟨⟨oc, od, dV, kV, doc, pm, an, cdv, ct, osl, rfl, lk, cd, h1, h2⟩, h.kp⟩
structure Says (fa : List He.Fa) (da : List DefA) (tf : List He.Defn) (ex : PySem.W.Frag → Bool) (h : Heap) (K : PySem.W.Frag) : Prop where
  fact : ∀ f ∈ fa, f.ok K = true
  defs : ∀ d ∈ da, ∃ fd, FunC K d fd
  ex : ex K = true
  hd : ∀ p ∈ tf, PySem.W.codeHdIn K (He.cT K p).1 (He.cT K p).2 = true
  out : ∀ p ∈ tf, K.lookup (He.cT K p).2 = none
  emp : ∀ p ∈ tf, h.get? (He.cT K p).2 = some { cls := .none, data := .fields #[] }
abbrev Al : Type := Bool × List FnA
def conB (K : PySem.W.Frag) (C : Addr) (f : Str) (i : Int) : Bool := match PySem.W.findIn K (.ref C) f with
  | some (some (.int j t)) => decide (j = i) && He.eqO (PySem.W.specialIn K (.int j t) "__get__") (some none)
  | _ => false
theorem conB_ok {K : PySem.W.Frag} {C : Addr} {f : Str} {i : Int} (h : conB K C f i = true) (hc : PySem.W.copiedNames.contains f = false := by decide +kernel) : ∃ u, Con K C f (.int i) u := by
  unfold conB at h
  split at h
  · rename_i j t e
    obtain ⟨h1, h2⟩ := He.ba h
    have ej := of_decide_eq_true h1
    subst ej
    exact ⟨_, e, ⟨t, rfl⟩, He.eqO_ok h2, hc⟩
  · cases h
def prA (K : PySem.W.Frag) (C : Addr) (f : Str) : Addr := He.ma K C f
def geA (K : PySem.W.Frag) (C : Addr) (f : Str) : Addr := match PySem.W.recIn K (prA K C f) "property" with
  | some (.ref g :: _) => g
  | _ => 0
def propB (K : PySem.W.Frag) (C : Addr) (f : Str) : Bool := He.eqO (PySem.W.findIn K (.ref C) f) (some (some (.ref (prA K C f)))) && (He.eqO (PySem.W.specialIn K (.ref (prA K C f)) "__get__") (some (some (.builtin "property.__get__"))) && (decide (PySem.W.takesIn K (.ref (prA K C f)) = some true) &&
  (match PySem.W.recIn K (prA K C f) "property" with
  | some (.ref _ :: _) => true
  | _ => false)))
theorem propB_ok {K : PySem.W.Frag} {C : Addr} {f : Str} (h : propB K C f = true) : PropOf K C f (prA K C f) (geA K C f) := by
  obtain ⟨h1, h⟩ := He.ba h
  obtain ⟨h2, h⟩ := He.ba h
  obtain ⟨h3, h4⟩ := He.ba h
  refine ⟨He.eqO_ok h1, He.eqO_ok h2, of_decide_eq_true h3, ?_⟩
  unfold geA
  split at h4
  · rename_i g r e
    rw [e]
    exact ⟨r, rfl⟩
  · cases h4
def supB (P : Program) (K : PySem.W.Frag) (D : Addr) (f : Addr) : Bool := match K.lookup f with
  | some ⟨_, _, .func fd, _⟩ => (match fd.closure with
    | [(_, cc)] => (match K.lookup cc with
      | some ⟨_, _, .cell (some (.ref E)), _⟩ => decide (E = D)
      | _ => false)
    | _ => false) && (match fd.code with
    | .ref cda => (match K.lookup cda with
      | some ⟨_, _, .fields vs, _⟩ => (match (vs[2]? : Option Value) with
        | some (.str file _) => (P.main.file : Str) == file
        | _ => false)
      | _ => false)
    | _ => false)
  | _ => false
theorem supT_of {P : Program} {K : PySem.W.Frag} {mg : Str → Option Value} {ps : List Str} {D : Addr} {d : DefA} {fd : FuncData} (h : FunC K d fd) (hc : d.clo = [("__class__" : Str)]) (hb : supB P K D (d.at_ K) = true) (hD : (PySem.W.clsIn K D).isSome = true) (ns : mg "super" = none) (tp : (P.main.scope.names.lookup ("super" : Str)).isSome = false)
    (hp : ∃ ar : Arg, (d.params.posonlyargs ++ d.params.args).head? = some ar ∧ ps[0]? = some ar.arg) (na : PySem.W.nsIn K cStatics "thirdparty.any" = some none) :
    fd.body = .stmts d.body ∧ ∃ cc cda, WkS.SupT P K mg ps D (d.at_ K) cc cda d.qual d.params d.scope fd := by
  obtain ⟨oc, od, dV, kV, doc, pm, an, cdv, ct, osl, cl, rfl, e, lk, cd, h1, h2⟩ := h.ex
  refine ⟨rfl, ?_⟩
  unfold supB at hb
  rw [lk] at hb
  obtain ⟨b1, b2⟩ := He.ba hb
  rw [hc] at e
  match cl, e with
  | [(n, cc)], e =>
    have en : n = "__class__" := by simpa using e
    subst en
    have b1 : (match K.lookup cc with
      | some ⟨_, _, .cell (some (.ref E)), _⟩ => decide (E = D)
      | _ => false) = true := b1
    split at b1
    · rename_i c1 c2 E c3 ec
      have eE := of_decide_eq_true b1
      subst eE
      cases cdv with
      | ref cda =>
        have b2 : (match K.lookup cda with
          | some ⟨_, _, .fields vs, _⟩ => (match (vs[2]? : Option Value) with
            | some (.str file _) => (P.main.file : Str) == file
            | _ => false)
          | _ => false) = true := b2
        split at b2
        · rename_i f1 f2 vs f3 ef
          split at b2
          · rename_i file tf ev
            obtain ⟨cdD, hD⟩ := Option.isSome_iff_exists.mp hD
            exact ⟨cc, cda, ⟨_, _, dV, kV, doc, pm, an, ct, oc, od, osl, rfl, lk⟩, cd, ⟨f1, f2, vs, f3, file, tf, ef, ev, b2⟩, ⟨c1, c2, c3, ec⟩, ⟨cdD, hD⟩, ns, tp, hp, na⟩
          · cases b2
        · cases b2
      | _ => cases b2
    · cases b1
theorem FunC.binds {K : PySem.W.Frag} {d : DefA} {fd : FuncData} {ps : List Str} (F : FunC K d fd) (hd : d.dfl = []) (h : ∀ (kV doc pm : Value) (an : Option Addr) (cdv ct : Value) (cl : List (Str × Addr)) (us : List Value), us.length = ps.length → bindArgs ⟨d.name, d.qual, d.params, .stmts d.body, d.scope, mainGlobals, cl, .none, kV, doc, pm, an, cdv, ct, builtinsNs⟩ ⟨us, []⟩ = pure (ps.zip us)) : Binds K fd ps [] := by
  obtain ⟨oc, od, dV, kV, doc, pm, an, cdv, ct, osl, cl, rfl, e, lk, cd, h1, h2⟩ := F.ex
  unfold DefA.dvs at h1
  rw [hd] at h1
  rcases h1 with ⟨_, rfl⟩ | ⟨z, _⟩
  · exact .all (h kV doc pm an cdv ct cl)
  · exact absurd rfl z
theorem codeIs_of {K : PySem.W.Frag} {p : He.Defn} : (∀ (oc : Value) (od : Option Addr) (fd : FuncData) (osl : Array (Option Value)), K.lookup (He.fAd K p) = some ⟨oc, od, .func fd, osl⟩ → PySem.W.codeIn K fd.code fd.qualname = true) → WkL.CodeIs K (He.fAd K p) (He.cT K p).1 := fun h oc od fd osl lk => by
  obtain ⟨c, ec⟩ := He.codeIn_ref (h oc od fd osl lk)
  rw [ec]
  congr 1
  exact (He.codeOf_eq lk ec).symm
end WkJ
namespace WkX
open PySem PySem.W PySem.Calls PyProof.Rows PySem.HandSPX Builtin
structure Tail (B : String) (bm : List Value) : Prop where
  b : bm.contains (.type B) = true
  a : bm.contains (.type "AttributeError") = false
  n : bm.contains (.type "NameError") = false
section
variable {prog : Program} {w : World} {A : Around} {E : Value → Shared → Prop} {R : Result → Shared → Prop} {hp : Heap} {gn : Array GenState} {dr : Drawn} {tk : Nat} {os : OsState}
variable {nm qn : Str} {C N : Addr} {bs bm bmB : List Value} {hdc : Bool} {sn : List Str} {sub : List Value} {ab : Bool} {col : Option Bool} {dd : Option Addr} {k0 k1 k2 k3 k5 : Option Value} {B newId initId : String}
theorem check_new {M : Model} (F : ExcBaseFacts B newId initId bmB) (T : Tail B bm) {us : List Value} {kw : List (Str × Value)} {Q : Unit → Shared → Prop} (hC : hp.get? C = some (excClassObj nm qn C N bs bm hdc sn sub ab col dd k0 k1 k2 k3 k5 newId))
    (hq : Q () ⟨hp, gn, dr, tk, os⟩) : wpAny M A (checkBuiltinCall newId ⟨.ref C :: us, kw⟩) Q E ⟨hp, gn, dr, tk, os⟩ := by
  have c1 : (Value.ref C :: bm).contains (.type B) = true := by rw [List.contains_cons, T.b, Bool.or_true]
  have c2 := F.noStar
  simp only [checkBuiltinCall, F.newKind, F.newSplit, F.newRow]
  repeat (first | refine wpAny_loadPart_at hC ?_ | (refine wpAny_isSubtype_exc hC ?_; rw [c1]) | refine wpAny_staticBase_exc hC ?_ | refine wpAny_madeBy_exc hC ?_ | simp only [bne_self_eq_false, Bool.false_eq_true, if_false] | wp_step)
  exact hq
theorem new_ {us : List Value} {kw : List (Str × Value)} (F : ExcBaseFacts B newId initId bmB) (T : Tail B bm) (hC : hp.get? C = some (excClassObj nm qn C N bs bm hdc sn sub ab col dd k0 k1 k2 k3 k5 newId))
    (hq : R (.ok (.ret (.ref (hp.objs.size + 1)))) ⟨(hp.push (kdv_tup us)).push (excO C hp.objs.size), gn, dr, tk, os⟩) (hl : us.length ≤ sizeLine) :
    codeAny (model prog w) A (.builtin newId ⟨.ref C :: us, kw⟩) R ⟨hp, gn, dr, tk, os⟩ := by
  have c0 := F.ends
  have c1 : (Value.ref C :: bm).contains (.type B) = true := by rw [List.contains_cons, T.b, Bool.or_true]
  have c2 : (Value.ref C :: bm).contains (.type "AttributeError") = false := by rw [List.contains_cons, T.a]; rfl
  have c3 : (Value.ref C :: bm).contains (.type "NameError") = false := by rw [List.contains_cons, T.n]; rfl
  refine codeAny_builtinAt F.entry ?_
  unfold Builtin.«BaseException.__new__»
  refine PySem.wpAt_bind ?_
  show PySem.wpAt _ _ _ (stack >>= _) _ _ _
  refine PySem.wpAt_bind (PySem.wpAt_stack fun p below => PySem.wpAt_of_wpAny ?_)
  wp_walk
  refine PySem.wpAt_of_wpAny ?_
  rw [F.owner]
  repeat (first | with_reducible refine wpAny_madeHere_exc F.canon hC ?_ | with_reducible refine wpAny_loadPart_at hC ?_ | (with_reducible refine wpAny_isSubtype_exc hC ?_; first | rw [c1] | rw [c2] | rw [c3]) | wp_step)
  show R _ _
  rw [Heap.size_push]
  exact hq
theorem tcall {us : List Value} {kw : List (Str × Value)} {fI : Addr} {Q : Fin → Shared → Prop} (F : ExcBaseFacts B newId initId bmB) (T : Tail B bm) (hC : hp.get? C = some (excClassObj nm qn C N bs bm hdc sn sub ab col dd k0 k1 k2 k3 k5 newId))
    (hi : Looks (model prog w) hp (typeLookup (.ref C) "__init__") (some (.ref fI))) (hb : ∀ x, Looks (model prog w) hp (bindSpecial (.ref fI) x) (.ref fI, [x])) (hl : us.length ≤ sizeLine)
    (hq : codeAny (model prog w) A (.call (.ref fI) ⟨.ref (hp.objs.size + 1) :: us, kw⟩)
      (fun r s' => match r with | .ok (.ret v) => v = .none ∧ Q (.done (.ret (.ref (hp.objs.size + 1)))) s' | .ok _ => False | .error e => E e s') ⟨(hp.push (kdv_tup us)).push (excO C hp.objs.size), gn, dr, tk, os⟩) :
    wpAny (model prog w) A (Builtin.«type.__call__» ⟨.ref C :: us, kw⟩) Q E ⟨hp, gn, dr, tk, os⟩ := by
  repeat (first | with_reducible refine wpAny_loadPart_at hC ?_ | with_reducible refine wpAny_madeBy_exc hC ?_ | wp_step)
  refine codeAny_call_builtin_code (Code.quiet_builtin _ F.quiet) (check_new F T hC ?_)
  refine new_ F T hC ?_ hl
  show wpAny _ _ _ _ _ _
  have k : ∀ b o, hp.get? b = some o → ((hp.push (kdv_tup us)).push (excO C hp.objs.size)).get? b = some o := fun b o e => Heap.get?_push_of_some _ (Heap.get?_push_of_some _ e)
  have hC' := k _ _ hC
  have hg : ((hp.push (kdv_tup us)).push (excO C hp.objs.size)).get? (hp.objs.size + 1) = some (excO C hp.objs.size) := by heap_get
  have hcC : (Value.ref C :: bm).contains (.ref C) = true := by simp
  have i1 := hi.keeps k
  have b1 := (hb (.ref (hp.objs.size + 1))).keeps k
  unfold isInstance
  repeat (first | with_reducible refine wpAny_loadPart_at hg ?_ | (with_reducible refine wpAny_isSubtype_exc hC' ?_; rw [hcC]) | wp_step)
  show wpAny _ _ (typeLookup (.ref C) _) _ _ _
  refine i1.at ?_
  refine wpAny_holding (wpAny_bind (b1.at ?_))
  refine wpAny_bind (wpAny_call (codeAny_mono hq fun r s' z => ?_))
  rcases r with e | (v | _ | _ | _) <;> first | exact z | exact z.elim | skip
  obtain ⟨rfl, z⟩ := z
  first
    | exact wpAny_pure (wpAny_pure z)
    | (wp_walk; exact z)
theorem check_tc {M : Model} {us : List Value} {kw : List (Str × Value)} {Q : Unit → Shared → Prop} (hC : hp.get? C = some (excClassObj nm qn C N bs bm hdc sn sub ab col dd k0 k1 k2 k3 k5 newId)) (hq : Q () ⟨hp, gn, dr, tk, os⟩) :
    wpAny M A (checkBuiltinCall "type.__call__" ⟨.ref C :: us, kw⟩) Q E ⟨hp, gn, dr, tk, os⟩ := by
  have c3 := tc_sub
  have hT : (⟨hp, gn, dr, tk, os⟩ : Shared).TypeIs (.ref C) "type" := ⟨_, hC, rfl⟩
  simp only [checkBuiltinCall, tc_kind, tc_split]
  repeat (any_goals (first | assumption | with_reducible refine wpAny_loadPart_at hC ?_ | with_reducible refine wpAny_onRaise ?_ | with_reducible refine wpAny_map ?_ | wp_step))
theorem call_ {us : List Value} {kw : List (Str × Value)} {fI : Addr} (F : ExcBaseFacts B newId initId bmB) (T : Tail B bm) (hC : hp.get? C = some (excClassObj nm qn C N bs bm hdc sn sub ab col dd k0 k1 k2 k3 k5 newId))
    (hi : Looks (model prog w) hp (typeLookup (.ref C) "__init__") (some (.ref fI))) (hb : ∀ x, Looks (model prog w) hp (bindSpecial (.ref fI) x) (.ref fI, [x])) (hl : us.length ≤ sizeLine)
    (hq : codeAny (model prog w) (A.under (.builtin "type.__call__" ⟨.ref C :: us, kw⟩)) (.call (.ref fI) ⟨.ref (hp.objs.size + 1) :: us, kw⟩) (InitBack (hp.objs.size + 1) R) ⟨(hp.push (kdv_tup us)).push (excO C hp.objs.size), gn, dr, tk, os⟩) :
    codeAny (model prog w) A (.call (.ref C) ⟨us, kw⟩) R ⟨hp, gn, dr, tk, os⟩ := by
  have c1 := tc_lookup
  have c2 := tc_bind (.ref C)
  have hTy : (⟨hp, gn, dr, tk, os⟩ : Shared).TypeIs (.ref C) "type" := ⟨_, hC, rfl⟩
  refine codeAny_of_tree ?_
  show wpAny _ _ (callAny (.ref C) _) _ _ _
  repeat (any_goals (first | assumption | with_reducible refine wpAny_loadPart_at hC ?_ | wp_step))
  refine ⟨rfl, ?_⟩
  refine codeAny_call_builtin_at (Code.quiet_builtin _ (by decide +kernel)) entry_typeCall (check_tc hC (tcall F T hC hi hb hl ?_))
  refine codeAny_mono hq fun r s' z => ?_
  rcases r with e | (v | _ | _ | _) <;> exact z
end
section
variable {prog : Program} {w : World} {A : Around} {R : Result → Shared → Prop} {hp : Heap} {gn : Array GenState} {dr : Drawn} {tk : Nat} {os : OsState}
theorem osa_ {K : Frag} {f : Str} {tf : Tok} {v : Value} {x C : Addr} {fv : Array Value} {cd : ClassData} (KX : K.In hp) (hx : hp.get? x = some { cls := .ref C, data := .fields fv }) (hcd : clsIn K C = some cd)
    (hp1 : refuseLoop (.ref x) "__setattr__" cd.mro = pure ()) (hp2 : cd.mro.contains (.type "object") = true) (hp3 : cd.mro.isEmpty = false) (hh : cd.hasDict = true) (ha : findIn K (.ref C) f = some none)
    (hq : ∀ h' tk' dx, (∀ b o, b ≠ x → hp.get? b = some o → h'.get? b = some o) → hp.objs.size ≤ dx → dx ≠ x → h'.get? x = some { cls := .ref C, dict := some dx, data := .fields fv } →
      h'.Ns1 dx (fun y => if y = f then some v else none) → R (.ok (.ret .none)) ⟨h', gn, dr, tk', os⟩) :
    codeAny (model prog w) A (.call (.builtin "object.__setattr__") ⟨[.ref x, .str f tf, v], []⟩) R ⟨hp, gn, dr, tk, os⟩ := by
  have J : InstAt hp x { cls := .ref C, data := .fields fv } C none := ⟨hx, rfl, rfl, trivial⟩
  have SO := F.store_object
  have xs : x ≠ hp.objs.size := Nat.ne_of_lt (Heap.lt_size hx)
  have sb : Looks (model prog w) hp (isInstance (.ref x) (.type "object")) true := J.type.andThen (looks_mroIn KX (by unfold mroIn; rw [hcd, Option.bind_some, if_neg (by rw [hp3]; decide), hp2]))
  refine codeAny_call_builtin SO.slot.plain SO.entry (@check_slot (model prog w) _ _ ⟨hp, gn, dr, tk, os⟩ "object.__setattr__" "object" "__setattr__" (.ref x) [.str f tf, v] [] _ SO.kind SO.split sb (SO.args (.ref x) (.str f tf) v) ?_)
  have l1 : Looks (model prog w) hp (mroOf (.ref C)) cd.mro := (looks_clsIn KX hcd).andThen .now
  have l2 : Looks (model prog w) hp (Builtin.ObjectAttr.storeTaker? none) none := .now
  have l3 : Looks (model prog w) hp (classData C) cd := looks_clsIn KX hcd
  rw [osa_eq, refuse_eq]
  refine wpAny_bind (wpAny_bind (J.type.at (wpAny_bind (l1.at ?_))))
  rw [hp1]
  refine wpAny_pure (wpAny_bind (J.type.at (wpAny_bind ((looks_findIn KX ha).at (wpAny_bind (l2.at ?_))))))
  show wpAny _ _ (Builtin.ObjectAttr.storeInOwnDict (.ref x) (.ref C) (.str f tf) f v false) _ _ _
  obtain ⟨nm, bs, mro, ns, qn, hd, sn, sb, ab, col, del⟩ := cd
  dsimp only at hh
  subst hh
  unfold Builtin.ObjectAttr.storeInOwnDict Builtin.ObjectAttr.ownDictForStores
  repeat (first | with_reducible refine store_in_new ?_ ?_ | with_reducible refine wpAny_loadPart_at hx ?_ | with_reducible refine l3.at ?_ | wp_step)
  · exact ⟨_, #[], _, (Heap.get?_update_ne _ _ _ _ xs.symm).trans (Heap.get?_push_at rfl rfl), rfl, fun e he => absurd he (by simp), fun _ => rfl⟩
  · intro h' tk' n' sm
    have hx1 : (hp.push { cls := .type "dict", data := .dict #[] }).get? x = some { cls := .ref C, data := .fields fv } := Heap.get?_push_of_some _ hx
    refine hq h' tk' hp.objs.size (fun b o hb ho => ?_) (Nat.le_refl _) xs.symm ?_ n'
    · exact (sm.2 b (Nat.ne_of_lt (Heap.lt_size ho))).trans ((Heap.get?_update_ne _ _ _ _ hb).trans (Heap.get?_push_of_some _ ho))
    · exact (sm.2 x xs).trans (Heap.get?_update_self _ hx1 rfl)
end
def iA (f : Str) (p1 p2 : Pos) : Arguments := { posonlyargs := [], args := [{ arg := "self", annotation := none, pos := p1 }, { arg := f, annotation := none, pos := p2 }], vararg := none, kwonlyargs := [], kw_defaults := [], kwarg := none, defaults := [] }
def iB (f : Str) (q1 q2 q3 q4 : Pos) : List Stmt := [.Assign [.Attribute (.Name "self" q1) f q2] (.Name f q3) q4]
def iS (f : Str) : Scope := { kind := .function, names := [(PySem.Str.ofString "self", .local), (f, .local)], isGenerator := false, isCoroutine := false, more := [] }
structure FieldOk (f : Str) : Prop where
  b1 : ∀ (qual : Str) (p1 p2 q1 q2 q3 q4 : Pos) (kV doc pm : Value) (an : Option Addr) (cdv ct e v : Value), bindArgs (fnOf "__init__" qual (iA f p1 p2) (iB f q1 q2 q3 q4) (iS f) .none kV doc pm an cdv ct) ⟨[e, v], []⟩ = pure [(("self" : Str), e), (f, v)]
  b2 : ∀ (qual : Str) (p1 p2 q1 q2 q3 q4 : Pos) (kV doc pm : Value) (an : Option Addr) (cdv ct e v : Value), bindArgs (fnOf "__init__" qual (iA f p1 p2) (iB f q1 q2 q3 q4) (iS f) .none kV doc pm an cdv ct) ⟨[e], [(f, v)]⟩ = pure [(("self" : Str), e), (f, v)]
  l1 : (iS f).names.lookup f = some .local
  l2 : ∀ (e v : Value) (k : Str → Option NameKind), k "self" = some .local → k f = some .local → bindL k [(("self" : Str), e), (f, v)] (fun _ => none) f = some v
  l3 : ∀ (e v : Value) (k : Str → Option NameKind), k "self" = some .local → k f = some .local → bindL k [(("self" : Str), e), (f, v)] (fun _ => none) "self" = some e
  dbg : (f == ("__debug__" : Str)) = false
theorem field_of {f : Str} (h : f ≠ "self")
    (b1 : ∀ (qual : Str) (p1 p2 q1 q2 q3 q4 : Pos) (kV doc pm : Value) (an : Option Addr) (cdv ct e v : Value), bindArgs (fnOf "__init__" qual (iA f p1 p2) (iB f q1 q2 q3 q4) (iS f) .none kV doc pm an cdv ct) ⟨[e, v], []⟩ = pure [(("self" : Str), e), (f, v)])
    (b2 : ∀ (qual : Str) (p1 p2 q1 q2 q3 q4 : Pos) (kV doc pm : Value) (an : Option Addr) (cdv ct e v : Value), bindArgs (fnOf "__init__" qual (iA f p1 p2) (iB f q1 q2 q3 q4) (iS f) .none kV doc pm an cdv ct) ⟨[e], [(f, v)]⟩ = pure [(("self" : Str), e), (f, v)])
    (l1 : (iS f).names.lookup f = some .local) (d : (f == ("__debug__" : Str)) = false) : FieldOk f := by
  refine ⟨b1, b2, l1, fun e v k h1 h2 => ?_, fun e v k h1 h2 => ?_, d⟩
  · unfold bindL bindL bindL
    rw [if_pos h1, if_pos h2]
    exact if_pos rfl
  · unfold bindL bindL bindL
    rw [if_pos h1, if_pos h2]
    show (if ("self" : Str) = f then some v else if ("self" : Str) = "self" then some e else none) = some e
    rw [if_neg (Ne.symm h), if_pos rfl]
theorem f_value : FieldOk "value" := field_of (by decide +kernel) (fun _ _ _ _ _ _ _ _ _ _ _ _ _ _ _ => rfl) (fun _ _ _ _ _ _ _ _ _ _ _ _ _ _ _ => rfl) rfl rfl
theorem f_side : FieldOk "side" := field_of (by decide +kernel) (fun _ _ _ _ _ _ _ _ _ _ _ _ _ _ _ => rfl) (fun _ _ _ _ _ _ _ _ _ _ _ _ _ _ _ => rfl) rfl rfl
theorem f_found : FieldOk "found" := field_of (by decide +kernel) (fun _ _ _ _ _ _ _ _ _ _ _ _ _ _ _ => rfl) (fun _ _ _ _ _ _ _ _ _ _ _ _ _ _ _ => rfl) rfl rfl
structure ExcT (K : Frag) (mg : Str → Option Value) (x f : Str) (C fI : Addr) : Prop where
  gC : mg x = some (.ref C)
  cls : ∃ (B newId initId : String) (bm bmB : List Value), (∃ nm q N bs sn sub ab col dd k0 k1 k2 k3 k5, K.lookup C = some (excClassObj nm q C N bs bm true sn sub ab col dd k0 k1 k2 k3 k5 newId)) ∧
    ExcBaseFacts B newId initId bmB ∧ Tail B bm ∧ (∀ self, refuseLoop self "__setattr__" bm = pure ()) ∧ bm.contains (.type "object") = true
  sa : findIn K (.ref C) "__setattr__" = some (some (.builtin "object.__setattr__"))
  ga : findIn K (.ref C) "__getattribute__" = some (some (.builtin "BaseException.__getattribute__"))
  gg : findIn K (.ref C) "__getattr__" = some none
  noN : findIn K (.ref C) f = some none
  iC : findIn K (.ref C) "__init__" = some (some (.ref fI))
  tC : typeIn K (.ref fI) = some (.type "function")
  kC : keepIn K (.ref C) = true
  exC : subIn K (.ref C) (.type "BaseException") = some true
  tyC : typeIn K (.ref C) = some (.type "type")
  hdC : hasDictIn K C = true
  icl : (clsIn K C).isSome = true
  iha : findIn K (.ref C) "__class__" = some (some (.builtin "object.__class__"))
  ihn : specialIn K (.builtin "object.__class__") "__get__" = some (some (.builtin "getset_descriptor.__get__"))
  itk : takesIn K (.builtin "object.__class__") = some true
  ihm : mroIn K C (.type "object") = some true
  fok : FieldOk f
  fn : ∃ (qual : Str) (oc : Value) (od : Option Addr) (kV doc pm : Value) (an : Option Addr) (cdv ct : Value) (osl : Array (Option Value)) (p1 p2 q1 q2 q3 q4 : Pos),
    K.lookup fI = some ⟨oc, od, .func (fnOf "__init__" qual (iA f p1 p2) (iB f q1 q2 q3 q4) (iS f) .none kV doc pm an cdv ct), osl⟩ ∧ codeIn K cdv qual = true
structure Made (f : Str) (h h' : Heap) (e C d : Addr) (v : Value) : Prop where
  keep : ∀ b o, h.get? b = some o → h'.get? b = some o
  new : h.objs.size ≤ e
  obj : ∃ t1 : Addr, h'.get? e = some { cls := .ref C, dict := some d, data := .fields #[.ref t1, .none, .none, .none, .bool false, .none] }
  dbig : h.objs.size ≤ d
  dne : d ≠ e
  ns : h'.Ns1 d (fun y => if y = f then some v else none)
section
variable {prog : Program} {w : World} {A : Around} {E : Value → Shared → Prop} {R : Result → Shared → Prop} {s : Shared} {K : Frag} {mg : Str → Option Value} {x f : Str} {C fI : Addr}
theorem ld_ {M : Model} {name : Str} {scope : Scope} {L a : Addr} {cd : Value} {m : Str → Option Value} {y : Str} {pos : Pos} {v : Value} {Q : Value → Shared → Prop} (hn : s.heap.Ns L m) (hv : m y = some v) (h : Q v s)
    (hk : scope.kind = .function) (hl : (envOfC name scope L a cd).kindOf y = some .local) (hd : (y == ("__debug__" : Str)) = false) :
    wpAny M A (eval (.Name y pos) (envOfC name scope L a cd)) Q E s := wpAny_Name (wpAny_loadName_local hk hl hn hv h) hd
theorem init_ (T : ExcT K mg x f C fI) {e t0 : Addr} {v : Value} {args : Args} (ha : args = ⟨[.ref e, v], []⟩ ∨ args = ⟨[.ref e], [(f, v)]⟩) (KX : K.In s.heap) (hlim : s.heap.NoLimit) (hx : s.heap.get? e = some (excO C t0)) (hroom : A.depth < recursionLimit)
    (hq : ∀ h' tk dx, (∀ b o, b ≠ e → s.heap.get? b = some o → h'.get? b = some o) → s.heap.objs.size ≤ dx → dx ≠ e → h'.get? e = some { cls := .ref C, dict := some dx, data := .fields #[.ref t0, .none, .none, .none, .bool false, .none] } →
      h'.Ns1 dx (fun y => if y = f then some v else none) → R (.ok (.ret .none)) { s with heap := h', toks := tk }) :
    codeAny (model prog w) A (.call (.ref fI) args) R s := by
  obtain ⟨qual, oc, od, kV, doc, pm, an, cdv, ct, osl, p1, p2, q1, q2, q3, q4, ho, hcd⟩ := T.fn
  obtain ⟨B, newId, initId, bm, bmB, ⟨nm, q, N, bs, sn, sub, ab, col, dd, k0, k1, k2, k3, k5, hC⟩, _, _, hps, hob⟩ := T.cls
  have hcl : clsIn K C = some { name := nm, bases := bs, mro := .ref C :: bm, ns := N, qualname := q, hasDict := true, slotNames := sn, subclasses := sub, abstract := ab, collection := col, hasDel := false } := by unfold clsIn; rw [hC] <;> rfl
  have hbd : BindsTo s (fnOf "__init__" qual (iA f p1 p2) (iB f q1 q2 q3 q4) (iS f) .none kV doc pm an cdv ct) args [("self", .ref e), (f, v)] := by
    rcases ha with rfl | rfl
    · exact BindsTo.of_eq (T.fok.b1 ..)
    · exact BindsTo.of_eq (T.fok.b2 ..)
  refine Att.call_fn (binds := [("self", .ref e), (f, v)]) KX hlim ho hcd hroom hbd ?_ (fun s₁ IC => ?_) rfl rfl rfl
  · show ((((iS f).names.lookup ("self" : Str)) == some NameKind.local || ((iS f).names.lookup ("self" : Str)) == some NameKind.cell) && ((((iS f).names.lookup f) == some NameKind.local || ((iS f).names.lookup f) == some NameKind.cell) && true)) = true
    rw [T.fok.l1]
    rfl
  obtain ⟨h₁, tk₁, rfl⟩ := IC.toInCall.same
  have k : ∀ b o, s.heap.get? b = some o → h₁.get? b = some o := IC.toInCall.keep
  have hn := IC.toInCall.ns
  have X₁ : K.In h₁ := KX.keeps k
  have hx₁ := k _ _ hx
  have kf : (envOfC qual (iS f) s.heap.objs.size fI cdv).kindOf f = some .local := T.fok.l1
  have ks : (envOfC qual (iS f) s.heap.objs.size fI cdv).kindOf "self" = some .local := rfl
  show wpAny _ _ (execs _ _) _ _ _
  refine wpAny_execs_cons (plainObj_wpAny_Assign_Attribute ?_)
  refine ld_ (v := v) hn (T.fok.l2 _ _ _ ks kf) (ld_ (v := .ref e) hn (T.fok.l3 _ _ _ ks kf) ?_ rfl ks (by decide)) rfl kf T.fok.dbg
  refine set_plain X₁ (ox := excO C t0) (od := none) ⟨hx₁, rfl, rfl, trivial⟩ T.sa ?_
  refine osa_ X₁ hx₁ hcl (by rw [refuseLoop_ref]; exact hps _) (by rw [List.contains_cons, hob, Bool.or_true]) rfl rfl T.noN (fun h₃ tk₃ dx k₃ dn dne hx₃ hn₃ => ?_)
  show wpAny _ _ (execs _ _) _ _ _
  have z : s.heap.objs.size < h₁.objs.size := hn.lt
  exact wpAny_execs_nil (hq h₃ tk₃ dx (fun b o hb e => k₃ b o hb (k b o e)) (Nat.le_of_lt (Nat.lt_of_lt_of_le z dn)) dne hx₃ hn₃)
theorem made_ (T : ExcT K mg x f C fI) {v : Value} {args : Args} (ha : args = ⟨[v], []⟩ ∨ args = ⟨[], [(f, v)]⟩) (KX : K.In s.heap) (hlim : s.heap.NoLimit) (hroom : A.depth + 1 < recursionLimit)
    (hq : ∀ h' tk e d, Made f s.heap h' e C d v → R (.ok (.ret (.ref e))) { s with heap := h', toks := tk }) : codeAny (model prog w) A (.call (.ref C) args) R s := by
  obtain ⟨B, newId, initId, bm, bmB, ⟨nm, q, N, bs, sn, sub, ab, col, dd, k0, k1, k2, k3, k5, hC⟩, hF, hT, _, _⟩ := T.cls
  obtain ⟨us, kw⟩ := args
  obtain ⟨hp, gn, dr, tk, os⟩ := s
  have hl : us.length ≤ sizeLine := by
    rw [sizeLine_eq]
    rcases ha with e | e
    · cases e
      exact (by decide : 1 ≤ 16777216)
    · cases e
      exact Nat.zero_le _
  have k : ∀ b o, hp.get? b = some o → ((hp.push (kdv_tup us)).push (excO C hp.objs.size)).get? b = some o := fun b o e => Heap.get?_push_of_some _ (Heap.get?_push_of_some _ e)
  have hg : ((hp.push (kdv_tup us)).push (excO C hp.objs.size)).get? (hp.objs.size + 1) = some (excO C hp.objs.size) := by heap_get
  refine call_ hF hT (KX _ _ hC) (looks_findIn KX T.iC) (fun self => bind_fn KX self T.tC) hl ?_
  refine init_ (s := ⟨(hp.push (kdv_tup us)).push (excO C hp.objs.size), gn, dr, tk, os⟩) (v := v) T ?_ (KX.keeps k) (hlim.keeps k) hg ?_ fun h' tk' dx k' dn dne hx hns => ?_
  · rcases ha with e | e
    · cases e
      exact .inl rfl
    · cases e
      exact .inr rfl
  · show A.depth + 1 < recursionLimit
    exact hroom
  · have old : ∀ b o, hp.get? b = some o → h'.get? b = some o := fun b o e => k' b o (Nat.ne_of_lt (Nat.lt_succ_of_lt (Heap.lt_size e))) (k b o e)
    have z : hp.objs.size + 1 + 1 ≤ dx := by
      first
        | (simpa only [Heap.size_push] using dn)
        | exact dn
    exact ⟨rfl, hq h' tk' (hp.objs.size + 1) dx ⟨old, Nat.le_succ _, ⟨_, hx⟩, Nat.le_trans (Nat.le_trans (Nat.le_succ _) (Nat.le_succ _)) z, dne, hns⟩⟩
end
end WkX
namespace WkX
open PySem PySem.Spec PyProof.Rows L2
theorem relO_one {f : Str} {v : V} {u : Value} (r : RelV v u) (g : Str) : RelO (List.lookup g [(f, v)]) (if g = f then some u else none) := relO_put (fs := []) (mA := fun _ => none) r (fun _ => True.intro) g
section
variable {X : Cx} {x f : Str} {C fI : Addr}
end
end WkX
namespace WkX
open PySem PySem.W PySem.Calls PyProof.Rows
def clsB (K : Frag) (C : Addr) (bm : List Value) (newId : String) : Bool := match K.lookup C with
  | some ⟨.type t, _, .cls cd, sl⟩ => t == "type" && (decide (cd.mro = .ref C :: bm) && (cd.hasDict && (!cd.hasDel && match sl.toList with
    | [_, _, _, _, some (.builtin n), _] => n == newId
    | _ => false)))
  | _ => false
theorem clsB_ok {K : Frag} {C : Addr} {bm : List Value} {newId : String} (h : clsB K C bm newId = true) : ∃ nm q N bs sn sub ab col dd k0 k1 k2 k3 k5, K.lookup C = some (excClassObj nm q C N bs bm true sn sub ab col dd k0 k1 k2 k3 k5 newId) := by
  unfold clsB at h
  split at h
  · rename_i t dd cd sl e
    obtain ⟨h1, h⟩ := He.ba h
    obtain ⟨h2, h⟩ := He.ba h
    obtain ⟨h3, h⟩ := He.ba h
    obtain ⟨h4, h5⟩ := He.ba h
    clear h
    split at h5
    · rename_i k0 k1 k2 k3 n k5 hs
      obtain ⟨nm, bs, mro, ns, qn, hd, sn, sub, ab, col, del⟩ := cd
      have e1 := eq_of_beq h1
      have e2 : mro = .ref C :: bm := of_decide_eq_true h2
      have e3 : hd = true := h3
      have e4 : del = false := by
        have z : (!del) = true := h4
        cases del
        · rfl
        · cases z
      have e5 := eq_of_beq h5
      have e6 : sl = #[k0, k1, k2, k3, some (.builtin n), k5] := by
        obtain ⟨l⟩ := sl
        simp only at hs
        rw [hs]
      subst e1 e2 e3 e4 e5 e6
      exact ⟨_, _, _, _, _, _, _, _, _, _, _, _, _, _, e⟩
    · cases h5
  · cases h
def excB (K : Frag) (x f : Str) (bm : List Value) (newId : String) : Bool :=
  clsB K (He.ga K x) bm newId && (He.eqO (findIn K (.ref (He.ga K x)) "__setattr__") (some (some (.builtin "object.__setattr__"))) && (He.eqO (findIn K (.ref (He.ga K x)) "__getattribute__") (some (some (.builtin "BaseException.__getattribute__"))) &&
  (He.eqO (findIn K (.ref (He.ga K x)) "__getattr__") (some none) && (He.eqO (findIn K (.ref (He.ga K x)) f) (some none) && (He.eqO (findIn K (.ref (He.ga K x)) "__init__") (some (some (.ref (He.ma K (He.ga K x) "__init__")))) &&
  (decide (typeIn K (.ref (He.ma K (He.ga K x) "__init__")) = some (.type "function")) && (keepIn K (.ref (He.ga K x)) && (decide (subIn K (.ref (He.ga K x)) (.type "BaseException") = some true) && (decide (typeIn K (.ref (He.ga K x)) = some (.type "type")) &&
  (hasDictIn K (He.ga K x) && ((clsIn K (He.ga K x)).isSome && (He.eqO (findIn K (.ref (He.ga K x)) "__class__") (some (some (.builtin "object.__class__"))) && (He.eqO (specialIn K (.builtin "object.__class__") "__get__") (some (some (.builtin "getset_descriptor.__get__"))) &&
  (decide (takesIn K (.builtin "object.__class__") = some true) && decide (mroIn K (He.ga K x) (.type "object") = some true)))))))))))))))
theorem excT_mk {K : Frag} {mg : Str → Option Value} {x f : Str} {bm bmB : List Value} {B newId initId : String} (g : mg x = some (.ref (He.ga K x))) (h : excB K x f bm newId = true) (hF : ExcBaseFacts B newId initId bmB) (hT : Tail B bm)
    (hp : ∀ self, refuseLoop self "__setattr__" bm = pure ()) (ho : bm.contains (.type "object") = true) (fok : FieldOk f)
    (fn : ∃ (qual : Str) (oc : Value) (od : Option Addr) (kV doc pm : Value) (an : Option Addr) (cdv ct : Value) (osl : Array (Option Value)) (p1 p2 q1 q2 q3 q4 : Pos),
      K.lookup (He.ma K (He.ga K x) "__init__") = some ⟨oc, od, .func (fnOf "__init__" qual (iA f p1 p2) (iB f q1 q2 q3 q4) (iS f) .none kV doc pm an cdv ct), osl⟩ ∧ codeIn K cdv qual = true) :
    ExcT K mg x f (He.ga K x) (He.ma K (He.ga K x) "__init__") := by
  obtain ⟨a1, h⟩ := He.ba h
  obtain ⟨a2, h⟩ := He.ba h
  obtain ⟨a3, h⟩ := He.ba h
  obtain ⟨a4, h⟩ := He.ba h
  obtain ⟨a5, h⟩ := He.ba h
  obtain ⟨a6, h⟩ := He.ba h
  obtain ⟨a7, h⟩ := He.ba h
  obtain ⟨a8, h⟩ := He.ba h
  obtain ⟨a9, h⟩ := He.ba h
  obtain ⟨a10, h⟩ := He.ba h
  obtain ⟨a11, h⟩ := He.ba h
  obtain ⟨a12, h⟩ := He.ba h
  obtain ⟨a13, h⟩ := He.ba h
  obtain ⟨a14, h⟩ := He.ba h
  obtain ⟨a15, a16⟩ := He.ba h
  exact ⟨g, ⟨B, newId, initId, bm, bmB, clsB_ok a1, hF, hT, hp, ho⟩, He.eqO_ok a2, He.eqO_ok a3, He.eqO_ok a4, He.eqO_ok a5, He.eqO_ok a6, of_decide_eq_true a7, a8, of_decide_eq_true a9, of_decide_eq_true a10, a11, a12, He.eqO_ok a13, He.eqO_ok a14, of_decide_eq_true a15, of_decide_eq_true a16, fok, fn⟩
def bV : List Value := [.type "ValueError", .type "Exception", .type "BaseException", .type "object"]
def bR : List Value := [.type "RuntimeError", .type "Exception", .type "BaseException", .type "object"]
def bL : List Value := [.type "LookupError", .type "Exception", .type "BaseException", .type "object"]
def bK : List Value := [.type "KeyError", .type "LookupError", .type "Exception", .type "BaseException", .type "object"]
theorem tV : Tail "ValueError" bV := ⟨by decide +kernel, by decide +kernel, by decide +kernel⟩
theorem tR : Tail "RuntimeError" bR := ⟨by decide +kernel, by decide +kernel, by decide +kernel⟩
theorem tL : Tail "LookupError" bL := ⟨by decide +kernel, by decide +kernel, by decide +kernel⟩
theorem tK : Tail "LookupError" bK := ⟨by decide +kernel, by decide +kernel, by decide +kernel⟩
theorem pV (self : Value) : refuseLoop self "__setattr__" bV = pure () := by kernel_rfl
theorem pR (self : Value) : refuseLoop self "__setattr__" bR = pure () := by kernel_rfl
theorem pK (self : Value) : refuseLoop self "__setattr__" bK = pure () := by kernel_rfl
theorem oV : bV.contains (.type "object") = true := by decide +kernel
theorem oR : bR.contains (.type "object") = true := by decide +kernel
theorem oK : bK.contains (.type "object") = true := by decide +kernel
end WkX
namespace WkJ
open PySem PySem.Spec PyProof.Rows L2 LamX
def methB (K : PySem.W.Frag) (C D : Addr) (m : Str) : Bool := He.eqO (PySem.W.findIn K (.ref C) m) (some (some (.ref (He.ma K D m)))) && (PySem.W.isFn K (.ref (He.ma K D m)) && PySem.W.keepIn K (.ref (He.ma K D m)))
theorem methB_ok {K : PySem.W.Frag} {C D : Addr} {m : Str} (h : methB K C D m = true) : Meth K C m (He.ma K D m) := by
  obtain ⟨h1, h⟩ := He.ba h
  obtain ⟨h2, h3⟩ := He.ba h
  exact ⟨He.eqO_ok h1, h2, h3⟩
theorem initA_of {K : PySem.W.Frag} {x f qual : Str} {d : DefA} {fd : FuncData} {p1 p2 q1 q2 q3 q4 : Pos} (F : FunC K d fd) (e : d = ⟨fun K => He.ma K (He.ga K x) "__init__", "__init__", qual, WkX.iA f p1 p2, WkX.iB f q1 q2 q3 q4, WkX.iS f, [], [], []⟩) :
    ∃ (qual : Str) (oc : Value) (od : Option Addr) (kV doc pm : Value) (an : Option Addr) (cdv ct : Value) (osl : Array (Option Value)) (p1 p2 q1 q2 q3 q4 : Pos),
      K.lookup (He.ma K (He.ga K x) "__init__") = some ⟨oc, od, .func (PySem.W.fnOf "__init__" qual (WkX.iA f p1 p2) (WkX.iB f q1 q2 q3 q4) (WkX.iS f) .none kV doc pm an cdv ct), osl⟩ ∧ PySem.W.codeIn K cdv qual = true := by
  subst e
  have F := F.funD rfl
  obtain ⟨oc, od, dV, kV, doc, pm, an, cdv, ct, osl, rfl, lk, hcd, hD, _⟩ := F.ex
  rcases hD with ⟨_, rfl⟩ | ⟨z, _⟩
  · exact ⟨_, oc, od, kV, doc, pm, an, cdv, ct, osl, _, _, _, _, _, _, lk, hcd⟩
  · exact absurd rfl z
end WkJ
namespace WkJ
open PySem PySem.Spec PyProof.Rows L2 LamX
def goB (g : Addr → Option Obj) : Nat → Nat → List Addr → List Addr → Nat → List Addr
  | 0, _, _, _, _ => []
  | f + 1, n, [], next, m => match n with
    | 0 => []
    | n + 1 => match next with
      | [] => []
      | a :: r => goB g f n (a :: r) [] m
  | f + 1, n, a :: r, next, m => HandSHeadRun.frNat a fun a => match Nat.beq (Nat.land (Nat.shiftRight m a) 1) 1 with
    | true => goB g f n r next m
    | false => HandSHeadRun.frNat (Nat.lor m (Nat.shiftLeft 1 a)) fun m => match g a with
      | some o => a :: goB g f n r (He.refsD o ++ next) m
      | none => goB g f n r next m
abbrev frB (n : Nat) (g : Addr → Option Obj) : PySem.W.Frag := He.frT g (goB g 20000 n [mainGlobals, sysModules, cStatics] [] 0)
def obsB (n : Nat) (fa : List He.Fa) (da : List DefA) (tf : List He.Defn) (ex : PySem.W.Frag → Bool) (g : Addr → Option Obj) : Al := ((fa.all fun f => f.ok (frB n g)) && ((da.all fun d => d.ok (frB n g)) && (ex (frB n g) && He.tabsB g tf (frB n g))), da.map fun d => fnA (frB n g) (d.at_ (frB n g)))
theorem saysB_of {n : Nat} {fa : List He.Fa} {da : List DefA} {tf : List He.Defn} {ex : PySem.W.Frag → Bool} {h : Heap} (e : obsB n fa da tf ex h.get? = (true, da.map DefA.val)) : Says fa da tf ex h (frB n h.get?) := by
  have e1 : ((fa.all fun f => f.ok (frB n h.get?)) && ((da.all fun d => d.ok (frB n h.get?)) && (ex (frB n h.get?) && He.tabsB h.get? tf (frB n h.get?)))) = true := congrArg (fun z : Al => z.1) e
  have e2 : (da.map fun d => fnA (frB n h.get?) (d.at_ (frB n h.get?))) = da.map DefA.val := congrArg (fun z : Al => z.2) e
  obtain ⟨h0, e1⟩ := He.ba e1
  obtain ⟨h1, e1⟩ := He.ba e1
  obtain ⟨h2, h3⟩ := He.ba e1
  have one : ∀ p ∈ tf, PySem.W.codeHdIn (frB n h.get?) (He.cT (frB n h.get?) p).1 (He.cT (frB n h.get?) p).2 = true ∧ ∃ o, h.get? (He.cT (frB n h.get?) p).2 = some o ∧ He.emptyTab o = true := fun p hp => by
    obtain ⟨h3, h4⟩ := He.ba (List.all_eq_true.mp h3 p hp)
    refine ⟨h3, ?_⟩
    cases q : h.get? (He.cT (frB n h.get?) p).2 with
    | none =>
      rw [q] at h4
      cases h4
    | some o =>
      rw [q] at h4
      exact ⟨o, rfl, h4⟩
  refine ⟨fun f hf => List.all_eq_true.mp h0 f hf, fun d hd => ?_, h2, fun p hp => (one p hp).1, fun p hp => ?_, fun p hp => ?_⟩
  · obtain ⟨i, hi, ed⟩ := List.mem_iff_getElem.mp hd
    have z : (da.map fun d => fnA (frB n h.get?) (d.at_ (frB n h.get?)))[i]? = (da.map DefA.val)[i]? := by rw [e2]
    rw [List.getElem?_map, List.getElem?_map, List.getElem?_eq_getElem hi, ed] at z
    exact DefA.funC (Option.some.inj z) (List.all_eq_true.mp h1 d hd)
  · obtain ⟨_, o, q, z⟩ := one p hp
    exact He.frT_none q z
  · obtain ⟨_, o, q, z⟩ := one p hp
    rw [q, He.emptyTab_eq z]
def hookB (n : Nat) (fa : List He.Fa) (da : List DefA) (tf : List He.Defn) (ex : PySem.W.Frag → Bool) : PySem.W.Hook where
  α := Al
  obs := fun s => obsB n fa da tf ex s.heap.get?
  val := fun _ => (true, da.map DefA.val)
  says := fun _ h => ∃ K : PySem.W.Frag, K.In h ∧ Says fa da tf ex h K
  of := fun _ _ e => ⟨_, He.frT_in, saysB_of e⟩
  keeps := fun _ _ _ ⟨K, hK, c⟩ k => ⟨K, PySem.W.Frag.In.keeps hK k, ⟨c.fact, c.defs, c.ex, c.hd, c.out, fun p hp => k _ _ (c.emp p hp)⟩⟩
theorem obsB_eq {n : Nat} {fa : List He.Fa} {da : List DefA} {tf : List He.Defn} {ex : PySem.W.Frag → Bool} {g : Addr → Option Obj} {s : Shared} (h : ∀ a, g a = s.heap.get? a) : obsB n fa da tf ex g = (hookB n fa da tf ex).obs s := by
  have e : g = s.heap.get? := funext h
  subst e
  rfl
end WkJ
namespace Wk
open PySem PySem.Spec PyProof.Rows L2
def But (p : Addr) (H H' : Hp) : Prop := ∀ b o, H b = some o → b ≠ p → H' b = some o
theorem But.refl (p : Addr) (H : Hp) : But p H H := fun _ _ e _ => e
theorem But.trans {p : Addr} {H H1 H2 : Hp} (a : But p H H1) (b : But p H1 H2) : But p H H2 := fun c o e h => b c o (a c o e h) h
theorem But.of_same {p : Addr} {H H1 : Hp} (a : Same H H1) : But p H H1 := fun c o e _ => a c o e
theorem same_upd {H : Hp} {a : Addr} {o : HO} (h : H a = none) : Same H (upd H a o) := fun b u e => by
  rw [upd_ne (ne_of_none e h)]
  exact e
theorem But.upd {p : Addr} {H H1 : Hp} {o : HO} (a : But p H H1) : But p H (L2.upd H1 p o) := fun c u e h => by
  rw [upd_ne h]
  exact a c u e h
theorem But.put {p q : Addr} {H H1 : Hp} {o : HO} (a : But p H H1) (h : H q = none) : But p H (L2.upd H1 q o) := fun c u e hc => by
  rw [upd_ne (ne_of_none e h)]
  exact a c u e hc
theorem new_eq {H G : Hp} {p : Addr} {o : HO} (n : H p = none) (h : upd H p o = G) : Same H G ∧ G p = some o := by
  subst h
  exact ⟨same_upd n, upd_same⟩
theorem tYes_if {σ : L2.St} {H : Hp} {A B : Hp → Prop} (h : A H) : tYes σ H fun b H3 => if b = true then A H3 else B H3 := by
  show if true = true then A H else B H
  exact iteT h
def penL (cs : Addr) (t r : Int) : List (Key × V) := [(Sum.inr "cells", .ref cs), (Sum.inr "turn", .int t), (Sum.inr "rest", .int r)]
def penO (cs : Addr) (t r : Int) : HO := .dK (penL cs t r)
structure Pen (H : Hp) (p cs : Addr) (N : Nat) : Prop where
  pen : ∃ t r : Int, H p = some (penO cs t r) ∧ 0 ≤ t ∧ t ≤ (N : Int) ∧ 0 ≤ r
  cells : ∃ ns : List Int, H cs = some (.lst (ns.map V.int)) ∧ ns.length ≤ 63
theorem Pen.ne {H : Hp} {p cs : Addr} {N : Nat} (P : Pen H p cs N) : cs ≠ p := by
  obtain ⟨⟨t, r, h1, _⟩, ns, h2, _⟩ := P
  exact ne_of h2 h1 (by intro z; cases z)
theorem Pen.mono {H : Hp} {p cs : Addr} {N M : Nat} (P : Pen H p cs N) (h : N ≤ M) : Pen H p cs M := by
  obtain ⟨⟨t, r, h1, h2, h3, h4⟩, hc⟩ := P
  exact ⟨⟨t, r, h1, h2, by omega, h4⟩, hc⟩
theorem Pen.same {H H' : Hp} {p cs : Addr} {N : Nat} (P : Pen H p cs N) (s : Same H H') : Pen H' p cs N := by
  obtain ⟨⟨t, r, h1, h2⟩, ns, h3, h4⟩ := P
  exact ⟨⟨t, r, s _ _ h1, h2⟩, ns, s _ _ h3, h4⟩
theorem Pen.put {H : Hp} {p cs q : Addr} {N : Nat} {o : HO} (P : Pen H p cs N) (h1 : q ≠ p) (h2 : q ≠ cs) : Pen (upd H q o) p cs N := by
  obtain ⟨⟨t, r, a1, a2⟩, ns, a3, a4⟩ := P
  exact ⟨⟨t, r, by rw [upd_ne (Ne.symm h1)]; exact a1, a2⟩, ns, by rw [upd_ne (Ne.symm h2)]; exact a3, a4⟩
theorem Pen.new {H : Hp} {p cs q : Addr} {N : Nat} {o : HO} (P : Pen H p cs N) (h : H q = none) : Pen (upd H q o) p cs N := P.same (same_upd h)
theorem Pen.free {H : Hp} {p cs q : Addr} {N : Nat} (P : Pen H p cs N) (h : H q = none) : q ≠ p ∧ q ≠ cs := by
  obtain ⟨⟨t, r, a1, a2⟩, ns, a3, a4⟩ := P
  exact ⟨Ne.symm (ne_of_none a1 h), Ne.symm (ne_of_none a3 h)⟩
theorem pen_turn (cs : Addr) (t r u : Int) : putK (penL cs t r) (Sum.inr "turn" : Key) (.int u) = penL cs u r := by
  unfold penL putK
  rfl
theorem pen_rest (cs : Addr) (t r u : Int) : putK (penL cs t r) (Sum.inr "rest" : Key) (.int u) = penL cs t u := by
  unfold penL putK
  rfl
theorem pen_g1 (cs : Addr) (t r : Int) : valV (penL cs t r) (Sum.inr "cells" : Key) = some (.ref cs) := by rfl
theorem pen_g2 (cs : Addr) (t r : Int) : valV (penL cs t r) (Sum.inr "turn" : Key) = some (.int t) := by rfl
theorem pen_g3 (cs : Addr) (t r : Int) : valV (penL cs t r) (Sum.inr "rest" : Key) = some (.int r) := by rfl
theorem get_cells {H : Hp} {p cs : Addr} {t r : Int} (h : H p = some (penO cs t r)) : DGet H p (.str "cells") (some (.ref cs)) := by
  have e := DGet.k (k := Sum.inr "cells") h
  rw [pen_g1] at e
  exact e
theorem get_turn {H : Hp} {p cs : Addr} {t r : Int} (h : H p = some (penO cs t r)) : DGet H p (.str "turn") (some (.int t)) := by
  have e := DGet.k (k := Sum.inr "turn") h
  rw [pen_g2] at e
  exact e
theorem get_rest {H : Hp} {p cs : Addr} {t r : Int} (h : H p = some (penO cs t r)) : DGet H p (.str "rest") (some (.int r)) := by
  have e := DGet.k (k := Sum.inr "rest") h
  rw [pen_g3] at e
  exact e
theorem put_turn {H : Hp} {p cs : Addr} {t r u : Int} (h : H p = some (penO cs t r)) : DPut H p (.str "turn") (.int u) (upd H p (penO cs u r)) := by
  have e := DPut.k (k := Sum.inr "turn") (v := .int u) h (by show 3 < sizeLine; decide)
  rw [pen_turn] at e
  exact e
theorem put_rest {H : Hp} {p cs : Addr} {t r u : Int} (h : H p = some (penO cs t r)) : DPut H p (.str "rest") (.int u) (upd H p (penO cs t u)) := by
  have e := DPut.k (k := Sum.inr "rest") (v := .int u) h (by show 3 < sizeLine; decide)
  rw [pen_rest] at e
  exact e

structure Bi (mg : Str → Option Value) : Prop where
  n_abs : mg "abs" = none
  n_all : mg "all" = none
  n_any : mg "any" = none
  n_bool : mg "bool" = none
  n_dict : mg "dict" = none
  n_enumerate : mg "enumerate" = none
  n_int : mg "int" = none
  n_isinstance : mg "isinstance" = none
  n_len : mg "len" = none
  n_list : mg "list" = none
  n_max : mg "max" = none
  n_min : mg "min" = none
  n_range : mg "range" = none
  n_repr : mg "repr" = none
  n_set : mg "set" = none
  n_sorted : mg "sorted" = none
  n_str : mg "str" = none
  n_sum : mg "sum" = none
  n_tuple : mg "tuple" = none
  n_zip : mg "zip" = none
  n_reversed : mg "reversed" = none
  n_super : mg "super" = none
  n_ValueError : mg "ValueError" = none
  n_LookupError : mg "LookupError" = none
  n_KeyError : mg "KeyError" = none
  n_IndexError : mg "IndexError" = none
  n_ArithmeticError : mg "ArithmeticError" = none
  n_OverflowError : mg "OverflowError" = none
  n_ZeroDivisionError : mg "ZeroDivisionError" = none
  n_RuntimeError : mg "RuntimeError" = none
  n_TypeError : mg "TypeError" = none
theorem cut_map {α : Type} (f : α → V) (ns : List α) (lo hi : Option Int) : ∃ ms : List α, cutV (ns.map f) lo hi = ms.map f ∧ ms.length ≤ ns.length := by
  refine ⟨(ns.drop (HT.sIx (ns.map f).length 0 lo)).take (HT.sIx (ns.map f).length (ns.map f).length hi - HT.sIx (ns.map f).length 0 lo), ?_, ?_⟩
  · unfold cutV
    rw [List.map_take, List.map_drop]
  · rw [List.length_take, List.length_drop]
    omega
def Def (K : PySem.W.Frag) (mg : Str → Option Value) (x : Str) (st : Stmt) : Prop := ∃ f fd, FnP K x x st f fd ∧ mg x = some (.ref f)
def Callee (P : Program) (w : World) (K : PySem.W.Frag) (mg : Str → Option Value) (base : Heap) (CX : CXT) (k : Nat) (x : Str) (ps : List Str) (sp : Sp) : Prop :=
  ∃ f fd, FnOk P w K mg base CX k f fd ps sp ∧ mg x = some (.ref f) ∧ PySem.W.keepIn K (.ref f) = true ∧ Binds K fd ps []
section
variable {X : Cx} {CX : CXT} {k : Nat} {ps : List Str} {sp : Sp} {E : XK} {x : Str} {p pos : Pos} {e : Expr} {es : List Expr} {t : TA}
theorem pe_c (C : Callee X.prog X.w X.K X.mg X.base CX k x ps sp) (hr : Room k X.A) (hx : Passes CX X E) (ha : PA X (e :: es) t) (hg : Gl X x := by rfl) (hdb : (x == ("__debug__" : Str)) = false := by decide)
    (he : starEach (e :: es) X.env = (false, eval e X.env) :: starEach es X.env := by rfl) (hpl : (backTo pos (starEach es X.env)).any (·.1) = false := by rfl) : PE X (.Call (.Name x p) (e :: es) [] pos) (tCall sp [] E t) := by
  obtain ⟨f, fd, F, g, kp, b⟩ := C
  exact pe_call F hr hg g kp b .nil hx ha hdb he hpl
end
section
variable {P : Program} {w : World} {K : PySem.W.Frag} {mg : Str → Option Value} {base : Heap}
theorem fm {x m : Int} (h : 1 ≤ m) : 0 ≤ x.fmod m ∧ x.fmod m < m := by
  rw [Int.fmod_eq_emod_of_nonneg x (by omega)]
  exact ⟨Int.emod_nonneg x (by omega), Int.emod_lt_of_pos x (by omega)⟩
theorem fq {x m : Int} (h : 1 ≤ m) (hx : 0 ≤ x) : 0 ≤ x.fdiv m := by
  rw [Int.fdiv_eq_ediv_of_nonneg x (by omega)]
  exact Int.ediv_nonneg hx (by omega)
theorem at_ints {ns : List Int} {i : Int} (h0 : 0 ≤ i) (h1 : i < (ns.length : Int)) : ∃ c, atI (ns.map V.int) i = some (.int c) := by
  have hj : i.toNat < ns.length := by omega
  refine ⟨ns[i.toNat], at_of (j := i.toNat) (by omega) ?_⟩
  rw [List.getElem?_map, List.getElem?_eq_getElem hj]
  rfl
theorem at_primes {i : Int} (h : 0 ≤ i ∧ i < 5) : ∃ p : Int, atI [.int 2147483647, .int 2147483629, .int 2147483587, .int 2147483579, .int 2147483563] i = some (V.int p) ∧ 2147483563 ≤ p ∧ p ≤ 2147483647 := by
  have e : i = 0 ∨ i = 1 ∨ i = 2 ∨ i = 3 ∨ i = 4 := by omega
  rcases e with rfl | rfl | rfl | rfl | rfl
  · exact ⟨_, rfl, by decide, by decide⟩
  · exact ⟨_, rfl, by decide, by decide⟩
  · exact ⟨_, rfl, by decide, by decide⟩
  · exact ⟨_, rfl, by decide, by decide⟩
  · exact ⟨_, rfl, by decide, by decide⟩
def spPen (K : PySem.W.Frag) : Sp := fun vs H Q _ => ∃ (a : Addr) (ns : List Int), vs = [.ref a] ∧ SqL K H a (ns.map V.int) ∧ ns.length ≤ 63 ∧ ∀ p cs H', H p = none → H cs = none → Same H H' → Pen H' p cs 0 → Q (.ref p) H'
theorem sc_pen : FnScope ["_law_script"] ["_law_script"] (defScope s_L_pen) := ⟨rfl, rfl, rfl, by decide +kernel, rfl, by decide +kernel, by decide +kernel⟩
theorem c_pen (D : Def K mg "_law_pen" s_L_pen) (B : Bi mg) : Callee P w K mg base CX0 1 "_law_pen" ["_law_script"] (spPen K) := by
  obtain ⟨f, fd, F, g⟩ := D
  refine ⟨f, fd, F.ok sc_pen (fun vs H Q E h => ?_) (fun cdv A outer s H vs Q E hr h => ⟨_, PSs.nox (pss_one (ps_ret (pe_disp (pps_cons pe_str (pe_callTy call_list_of (by rfl) B.n_list (by decide +kernel) (pa_cons (pe_slice sl_list (pv 0) po_none (po_some pe_int)) pa_nil)) (pps_cons pe_str pe_int (pps_cons pe_str pe_int pps_nil))) (by rfl) (by rfl) (fun z => by cases z) (by decide)))), ?_⟩), g, F.kp, F.bindsN (fun _ _ _ _ _ _ us hl => match us, hl with | [_], _ => rfl)⟩
  · obtain ⟨a, ns, rfl, _⟩ := h
    rfl
  · obtain ⟨a, ns, rfl, hS, hl, k⟩ := h
    intro p np
    have s1 : Same H (upd H p (.dK [])) := same_upd np
    refine ⟨_, rfl, _, rfl, a, _, rfl, s1.seq hS, fun q nq => ?_⟩
    refine ⟨q, _, rfl, .inl (SqL.of upd_same), fun cs ncs => ?_⟩
    obtain ⟨ms, em, hm⟩ := cut_map V.int ns none (some 63)
    have nqp : q ≠ p := fun z => by
      rw [z, upd_same] at nq
      cases nq
    have ncp : cs ≠ p := fun z => by
      rw [z, upd_ne (Ne.symm nqp), upd_same] at ncs
      cases ncs
    have ncq : cs ≠ q := fun z => by
      rw [z, upd_same] at ncs
      cases ncs
    refine ⟨?_, [(Sum.inr "cells", .ref cs), (Sum.inr "turn", .int 0), (Sum.inr "rest", .int 0)], rfl, (by show 3 ≤ 15; decide), ?_⟩
    · rw [upd_ne (Ne.symm ncp), upd_ne (Ne.symm nqp), upd_same]
    · have n1 : H cs = none := by
        rw [upd_ne ncq, upd_ne ncp] at ncs
        exact ncs
      have n2 : H q = none := by
        rw [upd_ne nqp] at nq
        exact nq
      refine k p cs _ np n1 (fun b o e => ?_) ⟨⟨0, 0, upd_same, by omega, by omega, by omega⟩, ms, ?_, by omega⟩
      · rw [upd_ne (ne_of_none e np), upd_ne (ne_of_none e n1), upd_ne (ne_of_none e n2), upd_ne (ne_of_none e np)]
        exact e
      · rw [upd_ne ncp, upd_same, em]
def spDraw : Sp := fun vs H Q _ => ∃ (p cs : Addr) (m : Int) (N : Nat), vs = [.ref p, .int m] ∧ 1 ≤ m ∧ m < 1073741824 ∧ Pen H p cs N ∧ N < 2 ^ 60 ∧
  ∀ i H', 0 ≤ i → i < m → But p H H' → Pen H' p cs (N + 1) → Q (.int i) H'
theorem sc_draw : FnScope ["_law_pen_here", "_law_many", "_law_digit", "_law_turn", "_law_cell", "_law_primes", "_law_prime", "_law_drawn"] ["_law_pen_here", "_law_many"] (defScope s_L_draw) := ⟨rfl, rfl, rfl, by decide +kernel, rfl, by decide +kernel, by decide +kernel⟩
theorem c_draw (D : Def K mg "_law_draw" s_L_draw) (B : Bi mg) : Callee P w K mg base CX0 1 "_law_draw" ["_law_pen_here", "_law_many"] spDraw := by
  obtain ⟨f, fd, F, g⟩ := D
  refine ⟨f, fd, F.ok sc_draw (fun vs H Q E h => ?_) (fun cdv A outer s H vs Q E hr h => ?_), g, F.kp, F.bindsN (fun _ _ _ _ _ _ us hl => match us, hl with | [_, _], _ => rfl)⟩
  · obtain ⟨p, cs, m, N, rfl, _⟩ := h
    rfl
  · have hu := hu_of hr
    have nd := sc_draw.nd
    refine ⟨_, PSs.nox (pss_cons (ps_if (pt_cmpR op_gt (pe_dget hu (pv 0) pe_str (fun _ _ => rfl)) pe_int (nomark _))
      (pss_cons (ps_set (i := 2) nd rfl (Or.inl rfl) (pe_op op_modN (pe_dget hu (pv 0) pe_str (fun _ _ => rfl)) (pv 1)))
      (pss_cons (ps_dput hu (pv 0) pe_str (pe_op op_fdivN (pe_dget hu (pv 0) pe_str (fun _ _ => rfl)) (pv 1)) rfl)
      (pss_one (ps_ret (pv 2))))) pss_nil)
      (pss_cons (ps_set (i := 3) nd rfl (Or.inl rfl) (pe_dget hu (pv 0) pe_str (fun _ _ => rfl)))
      (pss_cons (ps_dput hu (pv 0) pe_str (pe_op op_add (pv 3) pe_int) rfl)
      (pss_cons (ps_set (i := 4) nd rfl (Or.inl rfl) (pe_op op_add (pe_op op_mul pe_int (pv 3)) pe_int))
      (C8.pss_cut (ps_if (pt_cmpR (WkG.op_neNil hr.units) (pe_dget hu (pv 0) pe_str (fun _ _ => rfl)) (pe_lst pa_nil) (nomark _))
      (pss_one (ps_set (i := 4) nd rfl (Or.inl rfl) (pe_ix ix_list (pe_dget hu (pv 0) pe_str (fun _ _ => rfl)) (pe_op op_modN (pv 3) (pe_callB call_len_seq (by rfl) B.n_len (by decide +kernel) (pa_cons (pe_dget hu (pv 0) pe_str (fun _ _ => rfl)) pa_nil))) (fun _ _ => rfl)))) pss_nil)
      (C8.pss_cut (ps_if (PW.pt (pw_and (pt_cmpR op_lt (pv 3) (pe_callB call_len_seq (by rfl) B.n_len (by decide +kernel) (pa_cons (pe_dget hu (pv 0) pe_str (fun _ _ => rfl)) pa_nil)) (nomark _)) (pw_and1 (pt_cmpR op_ge (pe_callB call_abs (by rfl) B.n_abs (by decide +kernel) (pa_cons (pv 4) pa_nil)) (pe_op op_pow pe_int pe_int) (nomark _)))))
      (pss_cons (ps_dput hu (pv 0) pe_str (pe_op op_fdivN (pe_op op_sub (pe_callB call_abs (by rfl) B.n_abs (by decide +kernel) (pa_cons (pv 4) pa_nil)) (pe_op op_pow pe_int pe_int)) (pv 1)) rfl)
      (pss_one (ps_ret (pe_op op_modN (pe_op op_sub (pe_callB call_abs (by rfl) B.n_abs (by decide +kernel) (pa_cons (pv 4) pa_nil)) (pe_op op_pow pe_int pe_int)) (pv 1))))) pss_nil)
      (pss_cons (ps_set (i := 5) nd rfl (Or.inl rfl) (pe_lst (pa_cons pe_int (pa_cons pe_int (pa_cons pe_int (pa_cons pe_int (pa_cons pe_int pa_nil)))))))
      (pss_cons (ps_set (i := 6) nd rfl (Or.inl rfl) (pe_ix ix_list (pv 5) (pe_op op_modN (pv 3) pe_int) (fun _ _ => rfl)))
      (pss_cons (ps_set (i := 7) nd rfl (Or.inl rfl) (pe_op op_modN (pe_op op_add (pe_op op_add (pe_op op_mul (pe_op op_modN (pv 4) (pv 6)) pe_int) (pe_op op_mul (pe_op op_mul pe_int (pv 3)) (pv 3))) pe_int) (pv 6)))
      (pss_cons (ps_set (i := 7) nd rfl (Or.inl rfl) (pe_op op_modN (pe_op op_mul (pv 7) (pe_op op_add (pv 7) pe_int)) (pe_ix ix_list (pv 5) (pe_op op_modN (pe_op op_add (pv 3) pe_int) pe_int) (fun _ _ => rfl))))
      (pss_one (ps_ret (pe_op op_modN (pe_op op_fdivN (pe_op op_modN (pe_op op_mul (pv 7) (pv 7)) pe_int) pe_int) (pv 1)))))))))))))), ?_⟩
    obtain ⟨p, cs, m, N, rfl, m1, m2, hP, hN, k⟩ := h
    obtain ⟨⟨t, r, hp, t0, tN, r0⟩, ns, hc, hl⟩ := id hP
    refine ⟨_, rfl, p, _, rfl, get_rest hp, _, _, rfl, rfl, _, rfl, ?_⟩
    refine ite2 (fun h0 => ?_) (fun h0 => ?_)
    · refine ⟨_, rfl, p, _, rfl, get_rest hp, _, rfl, _, _, rfl, rfl, ?_, ?_⟩
      · omega
      refine ⟨_, rfl, p, _, rfl, get_rest hp, _, rfl, _, _, rfl, rfl, ⟨by omega, by omega⟩, _, rfl, p, _, rfl, put_rest hp, _, rfl, ?_⟩
      obtain ⟨f1, f2⟩ := fm (x := r) m1
      refine k _ _ f1 f2 ((But.refl p H).upd) ⟨⟨t, _, upd_same, t0, by omega, fq m1 r0⟩, ns, ?_, hl⟩
      rw [upd_ne hP.ne]
      exact hc
    · refine ⟨_, rfl, p, _, rfl, get_turn hp, _, rfl, _, _, rfl, rfl, _, rfl, p, _, rfl, put_turn hp, ?_⟩
      have hp1 : upd H p (penO cs (t + 1) r) p = some (penO cs (t + 1) r) := upd_same
      have hc1 : upd H p (penO cs (t + 1) r) cs = some (.lst (ns.map V.int)) := by
        rw [upd_ne hP.ne]
        exact hc
      have b1 : But p H (upd H p (penO cs (t + 1) r)) := (But.refl p H).upd
      generalize upd H p (penO cs (t + 1) r) = H1 at hp1 hc1 b1
      refine ⟨_, rfl, _, _, rfl, rfl, .inl ⟨by omega, by omega⟩, _, _, rfl, rfl, ?_⟩
      refine ⟨fun σ H2 => ∃ c : Int, σ = [some (.ref p), some (.int m), none, some (.int t), some (.int c), none, none, none] ∧ But p H H2 ∧ H2 p = some (penO cs (t + 1) r) ∧ H2 cs = some (.lst (ns.map V.int)), ?_, ?_⟩
      · refine ⟨_, rfl, p, _, rfl, get_cells hp1, (by decide), fun l nl => ?_⟩
        have hp2 : upd H1 l (.lst []) p = some (penO cs (t + 1) r) := (same_upd nl) _ _ hp1
        have hc2 : upd H1 l (.lst []) cs = some (.lst (ns.map V.int)) := (same_upd nl) _ _ hc1
        have b2 : But p H (upd H1 l (.lst [])) := b1.trans (But.of_same (same_upd nl))
        have hl2 : upd H1 l (.lst []) l = some (.lst []) := upd_same
        generalize upd H1 l (.lst []) = H2 at hp2 hc2 b2 hl2
        refine ⟨cs, l, _, rfl, rfl, SqL.of hc2, SqL.of hl2, _, rfl, ?_⟩
        refine ite2 (fun he => ?_) (fun he => ?_)
        · have nl0 : ns ≠ [] := fun z => by
            subst z
            cases he
          have n0 : 1 ≤ (ns.length : Int) := by
            have := List.length_pos_iff.mpr nl0
            omega
          obtain ⟨f1, f2⟩ := fm (x := t) n0
          obtain ⟨c, hcc⟩ := at_ints f1 f2
          refine ⟨_, rfl, p, _, rfl, get_cells hp2, _, rfl, _, rfl, p, _, rfl, get_cells hp2, cs, _, rfl, .inl (SqL.of hc2), _, _, rfl, rfl, ?_, cs, _, _, .int c, rfl, rfl, SqL.of hc2, ?_, ?_⟩
          · rw [List.length_map]
            omega
          · rw [List.length_map]
            exact hcc
          · exact ⟨c, rfl, b2, hp2, hc2⟩
        · exact ⟨_, rfl, b2, hp2, hc2⟩
      · rintro σ H2 ⟨c, rfl, b2, hp2, hc2⟩
        refine ⟨fun σ H3 => σ = [some (.ref p), some (.int m), none, some (.int t), some (.int c), none, none, none] ∧ H3 = H2, ?_, ?_⟩
        · refine ⟨_, rfl, _, rfl, p, _, rfl, get_cells hp2, cs, _, rfl, .inl (SqL.of hc2), _, _, rfl, rfl, _, rfl, ?_⟩
          refine ite2 (fun _ => ?_) (fun _ => iteF ⟨rfl, rfl⟩)
          refine ⟨_, rfl, _, rfl, _, _, rfl, rfl, ?_, _, _, rfl, rfl, _, rfl, ?_⟩
          · exact ⟨by decide, by decide, by decide⟩
          refine ite2 (fun hb => ?_) (fun _ => ⟨rfl, rfl⟩)
          have hb' : (10 : Int) ^ 18 ≤ (if c < 0 then -c else c) := of_decide_eq_true hb
          refine ⟨_, rfl, _, rfl, _, _, rfl, rfl, ⟨by decide, by decide, by decide⟩, _, _, rfl, rfl, _, rfl, _, _, rfl, rfl, ⟨by omega, by omega⟩, _, rfl, p, _, rfl, put_rest hp2, ?_⟩
          refine ⟨_, rfl, _, rfl, _, _, rfl, rfl, ⟨by decide, by decide, by decide⟩, _, _, rfl, rfl, _, rfl, _, _, rfl, rfl, by omega, ?_⟩
          obtain ⟨f1, f2⟩ := fm (x := (if c < 0 then -c else c) - 10 ^ 18) m1
          refine k _ _ f1 f2 b2.upd ⟨⟨t + 1, _, upd_same, by omega, by omega, fq m1 (by show (0 : Int) ≤ (if c < 0 then -c else c) - 10 ^ 18; omega)⟩, ns, ?_, hl⟩
          rw [upd_ne hP.ne]
          exact hc2
        · rintro σ H3 ⟨rfl, rfl⟩
          refine ⟨by decide, fun l nl => ?_⟩
          have hp3 : upd H3 l (.lst [.int 2147483647, .int 2147483629, .int 2147483587, .int 2147483579, .int 2147483563]) p = some (penO cs (t + 1) r) := (same_upd nl) _ _ hp2
          have hc3 : upd H3 l (.lst [.int 2147483647, .int 2147483629, .int 2147483587, .int 2147483579, .int 2147483563]) cs = some (.lst (ns.map V.int)) := (same_upd nl) _ _ hc2
          have b3 : But p H (upd H3 l (.lst [.int 2147483647, .int 2147483629, .int 2147483587, .int 2147483579, .int 2147483563])) := b2.trans (But.of_same (same_upd nl))
          have hl3 : upd H3 l (.lst [.int 2147483647, .int 2147483629, .int 2147483587, .int 2147483579, .int 2147483563]) l = some (.lst [.int 2147483647, .int 2147483629, .int 2147483587, .int 2147483579, .int 2147483563]) := upd_same
          obtain ⟨p1, a1, g1, g2⟩ := at_primes (fm (x := t) (m := 5) (by decide))
          obtain ⟨p2, a2, g3, g4⟩ := at_primes (fm (x := t + 3) (m := 5) (by decide))
          refine ⟨_, rfl, _, rfl, _, _, rfl, rfl, (by show (5 : Int) ≠ 0; decide), l, _, _, .int p1, rfl, rfl, SqL.of hl3, a1, ?_⟩
          obtain ⟨e1, e2⟩ := fm (x := c) (m := p1) (by omega)
          have n60 : (N : Int) < 2 ^ 60 := by omega
          refine ⟨_, rfl, _, rfl, _, _, rfl, rfl, by omega, _, _, rfl, rfl, .inl ⟨by omega, by omega⟩, _, rfl, _, _, rfl, rfl, .inl ⟨by decide, by decide⟩, _, rfl, _, _, rfl, rfl, .inr ⟨by omega, by omega⟩, _, _, rfl, rfl, _, _, rfl, rfl, _, rfl, _, _, rfl, rfl, by omega, ?_⟩
          obtain ⟨e3, e4⟩ := fm (x := c.fmod p1 * 69621 + 40692 * t * t + 17) (m := p1) (by omega)
          refine ⟨_, rfl, _, rfl, _, _, rfl, rfl, _, _, rfl, rfl, .inl ⟨by omega, by omega⟩, _, rfl, _, rfl, _, _, rfl, rfl, _, _, rfl, rfl, (by show (5 : Int) ≠ 0; decide), l, _, _, .int p2, rfl, rfl, SqL.of hl3, a2, _, _, rfl, rfl, by omega, ?_⟩
          obtain ⟨e5, e6⟩ := fm (x := (c.fmod p1 * 69621 + 40692 * t * t + 17).fmod p1 * ((c.fmod p1 * 69621 + 40692 * t * t + 17).fmod p1 + 48271)) (m := p2) (by omega)
          refine ⟨_, rfl, _, rfl, _, _, rfl, rfl, .inl ⟨by omega, by omega⟩, _, _, rfl, rfl, (by show (2147483549 : Int) ≠ 0; decide), _, _, rfl, rfl, ⟨by decide, by decide⟩, _, rfl, _, _, rfl, rfl, by omega, ?_⟩
          obtain ⟨e7, e8⟩ := fm (x := _) m1
          exact k _ _ e7 e8 b3 ⟨⟨t + 1, r, hp3, by omega, by omega, r0⟩, ns, hc3, hl⟩
theorem seq_but {K : PySem.W.Frag} {H H' : Hp} {p l cs : Addr} {N : Nat} {xs : List V} (h : SqL K H l xs) (P : Pen H p cs N) (b : But p H H') : SqL K H' l xs := by
  obtain ⟨⟨t, r, hp, _⟩, _⟩ := P
  rcases h with (h | ⟨o, h⟩) | h
  · exact .inl (.inl (b _ _ h (ne_of h hp (by intro z; cases z))))
  · exact .inl (.inr ⟨o, b _ _ h (ne_of h hp (by intro z; cases z))⟩)
  · exact .inr h
theorem tup_but {K : PySem.W.Frag} {H H' : Hp} {p l cs : Addr} {N : Nat} {xs : List V} (h : SqT K H l xs) (P : Pen H p cs N) (b : But p H H') : SqT K H' l xs := by
  obtain ⟨⟨t, r, hp, _⟩, _⟩ := P
  rcases h with (h | ⟨o, h⟩) | h
  · exact .inl (.inl (b _ _ h (ne_of h hp (by intro z; cases z))))
  · exact .inl (.inr ⟨o, b _ _ h (ne_of h hp (by intro z; cases z))⟩)
  · exact .inr h
theorem at_list {xs : List V} {i : Int} (h0 : 0 ≤ i) (h1 : i < (xs.length : Int)) : ∃ v, v ∈ xs ∧ atI xs i = some v := by
  have hj : i.toNat < xs.length := by omega
  exact ⟨xs[i.toNat], List.getElem_mem hj, at_of (j := i.toNat) (by omega) (List.getElem?_eq_getElem hj)⟩
theorem at_nat {α : Type} {xs : List α} {i : Int} (h0 : 0 ≤ i) (hj : i.toNat < xs.length) : atI xs i = some xs[i.toNat] := by
  have e : i = ((i.toNat : Nat) : Int) := by omega
  have q := atI_nat (xs := xs) (List.getElem?_eq_getElem hj)
  rw [← e] at q
  exact q
def spPick (K : PySem.W.Frag) : Sp := fun vs H Q _ => ∃ (p cs : Addr) (N : Nat), Pen H p cs N ∧ N < 2 ^ 60 ∧
  ((∃ (l : Addr) (xs : List V), vs = [.ref p, .ref l] ∧ (SqL K H l xs ∨ SqT K H l xs) ∧ xs ≠ [] ∧ xs.length < 1073741824 ∧ ∀ x H', x ∈ xs → But p H H' → Pen H' p cs (N + 1) → Q x H') ∨
   ∃ z : Str, vs = [.ref p, .str z] ∧ 0 < z.length ∧ z.length < 1000000 ∧ ∀ c H', c ∈ z.cps.toList → But p H H' → Pen H' p cs (N + 1) → Q (.str ⟨#[c]⟩) H')
theorem sc_pick : FnScope ["_law_pen_here", "_law_some"] ["_law_pen_here", "_law_some"] (defScope s_L_pick) := ⟨rfl, rfl, rfl, by decide +kernel, rfl, by decide +kernel, by decide +kernel⟩
theorem c_pick (D : Def K mg "_law_pick" s_L_pick) (B : Bi mg) (CD : Callee P w K mg base CX0 1 "_law_draw" ["_law_pen_here", "_law_many"] spDraw) : Callee P w K mg base CX0 2 "_law_pick" ["_law_pen_here", "_law_some"] (spPick K) := by
  obtain ⟨f, fd, F, g⟩ := D
  refine ⟨f, fd, F.ok sc_pick (fun vs H Q E h => ?_) (fun cdv A outer s H vs Q E hr h => ?_), g, F.kp, F.bindsN (fun _ _ _ _ _ _ us hl => match us, hl with | [_, _], _ => rfl)⟩
  · obtain ⟨p, cs, N, _, _, ⟨l, xs, rfl, _⟩ | ⟨z, rfl, _⟩⟩ := h
    · rfl
    · rfl
  · have hu := hu_of hr
    have nd := sc_pick.nd
    have hr1 : Room 1 _ := hr
    refine ⟨_, PSs.nox (pss_one (ps_ret (pe_ix ix_seq (pv 1) (pe_c CD hr1 pass0 (pa_cons (pv 0) (pa_cons (pe_callB call_len (by rfl) B.n_len boot_len (pa_cons (pv 1) pa_nil)) pa_nil))) (fun _ _ => rfl)))), ?_⟩
    obtain ⟨p, cs, N, hP, hN, ⟨l, xs, rfl, hS, hne, hlen, k⟩ | ⟨z, rfl, z0, z1, k⟩⟩ := h
    · have pos := List.length_pos_iff.mpr hne
      refine ⟨_, rfl, _, rfl, _, rfl, _, xs.length, rfl, ?_, p, cs, _, N, rfl, by omega, by omega, hP, hN, fun i H' i0 i1 b P' => ?_⟩
      · rcases hS with h | h
        · exact .inl ⟨_, h, rfl⟩
        · exact .inr ⟨_, h, rfl⟩
      obtain ⟨v, hv, ha⟩ := at_list i0 i1
      rcases hS with h | h
      · exact .inl ⟨l, _, _, v, rfl, rfl, seq_but h hP b, ha, k v H' hv b P'⟩
      · exact .inr (.inl ⟨l, _, _, v, rfl, rfl, tup_but h hP b, ha, k v H' hv b P'⟩)
    · have lz : z.length ≤ sizeLine := Nat.le_trans (Nat.le_of_lt z1) (by decide)
      have ec : z.cps.toList.length = z.length := by
        show z.cps.toList.length = z.cps.size
        simp
      refine ⟨_, rfl, _, rfl, _, rfl, _, z.length, rfl, ⟨lz, rfl⟩, p, cs, _, N, rfl, by omega, by omega, hP, hN, fun i H' i0 i1 b P' => ?_⟩
      have hj : i.toNat < z.cps.toList.length := by omega
      exact .inr (.inr ⟨z, i, z.cps.toList[i.toNat], rfl, rfl, lz, at_nat i0 hj, k _ H' (List.getElem_mem hj) b P'⟩)
end
end Wk
namespace Wk
open PySem PySem.Spec PyProof.Rows L2 WkD WkN
section
variable {P : Program} {w : World} {K : PySem.W.Frag} {mg : Str → Option Value} {base : Heap}
def spBetween (K : PySem.W.Frag) : Sp := fun vs H Q _ => ∃ (x : V) (lo hi : Int), vs = [x, .int lo, .int hi] ∧ ((∃ i : Int, x = .int i ∧ Q (.bl (decide (lo ≤ i) && decide (i ≤ hi))) H) ∨ (∃ b : Bool, x = .bl b ∧ Q (.bl false) H) ∨ ∃ t, TyX K H x t ∧ PySem.W.kitOne K t (.type "int") = some false ∧ Q (.bl false) H)
theorem sc_is_between : FnScope ["value", "low", "high"] ["value", "low", "high"] (defScope s_is_between) := ⟨rfl, rfl, rfl, by decide +kernel, rfl, by decide +kernel, by decide +kernel⟩
theorem c_is_between (D : Def K mg "is_between" s_is_between) (B : Bi mg) : Callee P w K mg base CX0 1 "is_between" ["value", "low", "high"] (spBetween K) := by
  obtain ⟨f, fd, F, g⟩ := D
  refine ⟨f, fd, F.ok sc_is_between (fun vs H Q E h => ?_) (fun cdv A outer s H vs Q E hr h => ⟨_, PSs.nox (pss_one (ps_ret (pe_and (pe_callB call_isi (by rfl) B.n_isinstance (by decide +kernel) (pa_cons (pv 0) (pa_cons (pe_bltn (v := .ty "int") (by rfl) B.n_int (by decide +kernel) rfl) pa_nil))) (pe_and (pe_not (pe_callB call_isi (by rfl) B.n_isinstance (by decide +kernel) (pa_cons (pv 0) (pa_cons (pe_bltn (v := .ty "bool") (by rfl) B.n_bool (by decide +kernel) rfl) pa_nil)))) (pe_one (pe_chain op_le op_le (pv 1) (pv 0) (pv 2))))))), ?_⟩), g, F.kp, F.bindsN (fun _ _ _ _ _ _ us hl => match us, hl with | [_, _, _], _ => rfl)⟩
  · obtain ⟨x, lo, hi, rfl, _⟩ := h
    rfl
  · obtain ⟨x, lo, hi, rfl, h⟩ := h
    rcases h with ⟨i, rfl, q⟩ | ⟨b, rfl, q⟩ | ⟨t, ty, hk, q⟩
    · refine ⟨_, rfl, _, _, _, _, true, rfl, .ty _, .base (.int i), kit_ty (by decide +kernel), true, rfl, ?_⟩
      refine ⟨_, rfl, _, _, _, _, false, rfl, .ty _, .base (.int i), kit_ty (by decide +kernel), false, rfl, true, rfl, ?_⟩
      refine ⟨_, rfl, _, rfl, _, _, rfl, rfl, _, rfl, ?_⟩
      refine ite2 (fun h1 => ?_) (fun h1 => ?_)
      · refine ⟨_, rfl, _, _, rfl, rfl, ?_⟩
        rw [h1, Bool.true_and] at q
        exact q
      · rw [bF h1, Bool.false_and] at q
        exact q
    · refine ⟨_, rfl, _, _, _, _, true, rfl, .ty _, .base (.bl b), kit_ty (by decide +kernel), true, rfl, ?_⟩
      exact ⟨_, rfl, _, _, _, _, true, rfl, .ty _, .base (.bl b), kit_ty (by decide +kernel), true, rfl, false, rfl, q⟩
    · exact ⟨_, rfl, _, _, _, _, false, rfl, .ty _, ty, hk, false, rfl, q⟩
def spName (K : PySem.W.Frag) : Sp := fun vs H Q _ => (∃ z, vs = [.str z] ∧ z.length ≤ sizeLine ∧ ∀ H', Same H H' → Q (.bl (nameB z)) H') ∨ ∃ x t, vs = [x] ∧ TyX K H x t ∧ PySem.W.kitOne K t (.type "str") = some false ∧ Q (.bl false) H
theorem sc_is_name : FnScope ["value", "letter"] ["value"] (defScope s_is_name) := ⟨rfl, rfl, rfl, by decide +kernel, rfl, by decide +kernel, by decide +kernel⟩
theorem c_is_name {tL : Tok} (D : Def K mg "is_name" s_is_name) (B : Bi mg) (gL : mg "LETTERS" = some (.str letS tL)) : Callee P w K mg base CX0 1 "is_name" ["value"] (spName K) := by
  obtain ⟨f, fd, F, g⟩ := D
  refine ⟨f, fd, F.ok sc_is_name (fun vs H Q E h => ?_) (fun cdv A outer s H vs Q E hr h => ?_), g, F.kp, F.bindsN (fun _ _ _ _ _ _ us hl => match us, hl with | [_], _ => rfl)⟩
  · rcases h with ⟨z, rfl, _⟩ | ⟨x, t, rfl, _⟩
    · rfl
    · rfl
  · have nd := sc_is_name.nd
    refine ⟨_, PSs.nox (pss_one (ps_ret (pe_and (pe_callB call_isi (by rfl) B.n_isinstance (by decide +kernel) (pa_cons (pv 0) (pa_cons (pe_bltn (v := .ty "str") (by rfl) B.n_str (by decide +kernel) rfl) pa_nil))) (pe_and (pe_chain op_lt op_lt pe_int (pe_callB call_len (by rfl) B.n_len boot_len (pa_cons (pv 0) pa_nil)) pe_int) (pe_one (pe_callB (cr_all rfl) (by rfl) B.n_all (by decide +kernel) (pa_cons (pe_lc (own := [("letter", 1)]) (by rfl) nd (pi_str (pv 0)) (blkOk_by (by kernel_rfl)) (fun _ _ _ _ _ => (pg_name (i := 1) nd rfl (Or.inl rfl))) (fun _ _ _ _ _ => pts_nil) (fun _ _ _ _ _ => (pe_cmpR op_in_sign (pv 1) (pe_glob (v := .str letS) (by rfl) gL ⟨_, rfl⟩) (by rfl)))) pa_nil))))))), ?_⟩
    rcases h with ⟨z, rfl, hz, k⟩ | ⟨x, t, rfl, ty, hk, q⟩
    · refine ⟨_, rfl, _, _, _, _, true, rfl, .ty _, .base (.str z), kit_ty (by decide +kernel), true, rfl, ?_⟩
      refine ⟨_, rfl, _, z.length, rfl, ⟨hz, rfl⟩, _, _, rfl, rfl, _, rfl, ?_⟩
      unfold nameB at k
      refine ite2 (fun h1 => ?_) (fun h1 => ?_)
      · refine ⟨_, _, rfl, rfl, ?_⟩
        refine ⟨_, rfl, ?_⟩
        rw [h1, Bool.true_and] at k
        refine ite2 (fun h2 => ?_) (fun h2 => ?_)
        · rw [h2, Bool.true_and] at k
          refine ⟨_, rfl, z, rfl, fun D nD => ?_⟩
          refine lc_it (walk_str (z := z)) (fun j H3 => H3 = upd H D (.lst ((z.cps.toList.take j).map fun c => V.bl (decide (c ∈ letS.cps.toList))))) rfl ?_ ?_ ?_
          · intros
            trivial
          · rintro j x H3 H3' hj rfl ⟨rfl, c, hc, rfl⟩
            refine ⟨rfl, tYes_if ?_⟩
            refine ⟨_, rfl, c, letS, rfl, rfl, _, upd_same, ?_, ?_⟩
            · rw [List.length_map, List.length_take]
              exact Nat.lt_of_le_of_lt (Nat.min_le_left _ _) (Nat.lt_of_lt_of_le hj hz)
            · rw [upd_upd, takeS (x := c) (by rw [Array.getElem?_toList]; exact hc), List.map_append]
              rfl
          · rintro H3 rfl
            refine ⟨D, _, rfl, SqL.of (by rw [upd_same, List.take_of_length_le (by simp), List.map_map]; rfl), k _ (same_upd nD)⟩
        · rw [bF h2, Bool.false_and] at k
          exact k H fun _ _ e => e
      · rw [bF h1, Bool.false_and] at k
        exact ⟨_, rfl, iteF (k H fun _ _ e => e)⟩
    · exact ⟨_, rfl, _, _, _, _, false, rfl, .ty _, ty, hk, false, rfl, q⟩
end
end Wk
namespace Wk
open PySem PySem.Spec PyProof.Rows L2 WkD WkN LamX WkP WkE WkC
def d_is_between : WkJ.DefA := ⟨fun K => He.ga K "is_between", "is_between", "is_between", defArgs s_is_between, defBody s_is_between, defScope s_is_between, [], [], []⟩
def d_is_name : WkJ.DefA := ⟨fun K => He.ga K "is_name", "is_name", "is_name", defArgs s_is_name, defBody s_is_name, defScope s_is_name, [], [], []⟩
def d_is_tuple_of : WkJ.DefA := ⟨fun K => He.ga K "is_tuple_of", "is_tuple_of", "is_tuple_of", defArgs s_is_tuple_of, defBody s_is_tuple_of, defScope s_is_tuple_of, [], [], []⟩
def d_side_of : WkJ.DefA := ⟨fun K => He.ga K "side_of", "side_of", "side_of", defArgs s_side_of, defBody s_side_of, defScope s_side_of, [], [], []⟩
def d_last_two : WkJ.DefA := ⟨fun K => He.ga K "last_two", "last_two", "last_two", defArgs s_last_two, defBody s_last_two, defScope s_last_two, [], [], []⟩
def d_merge_rows : WkJ.DefA := ⟨fun K => He.ga K "merge_rows", "merge_rows", "merge_rows", defArgs s_merge_rows, defBody s_merge_rows, defScope s_merge_rows, [], [], []⟩
def d_least_cut : WkJ.DefA := ⟨fun K => He.ga K "least_cut", "least_cut", "least_cut", defArgs s_least_cut, defBody s_least_cut, defScope s_least_cut, [], [], []⟩
def d_strength_of : WkJ.DefA := ⟨fun K => He.ga K "strength_of", "strength_of", "strength_of", defArgs s_strength_of, defBody s_strength_of, defScope s_strength_of, [], [], []⟩
def d_can_join : WkJ.DefA := ⟨fun K => He.ga K "can_join", "can_join", "can_join", defArgs s_can_join, defBody s_can_join, defScope s_can_join, [], [], []⟩
def d_sorted_rows : WkJ.DefA := ⟨fun K => He.ga K "sorted_rows", "sorted_rows", "sorted_rows", defArgs s_sorted_rows, defBody s_sorted_rows, defScope s_sorted_rows, [], [], []⟩
def d_reached : WkJ.DefA := ⟨fun K => He.ga K "reached", "reached", "reached", defArgs s_reached, defBody s_reached, defScope s_reached, [], [], []⟩
def d_check_connected : WkJ.DefA := ⟨fun K => He.ga K "check_connected", "check_connected", "check_connected", defArgs s_check_connected, defBody s_check_connected, defScope s_check_connected, [], [], []⟩
def d_graph_of : WkJ.DefA := ⟨fun K => He.ga K "graph_of", "graph_of", "graph_of", defArgs s_graph_of, defBody s_graph_of, defScope s_graph_of, [], [], []⟩
def d_pen : WkJ.DefA := ⟨fun K => He.ga K "_law_pen", "_law_pen", "_law_pen", defArgs s_L_pen, defBody s_L_pen, defScope s_L_pen, [], [], []⟩
def d_draw : WkJ.DefA := ⟨fun K => He.ga K "_law_draw", "_law_draw", "_law_draw", defArgs s_L_draw, defBody s_L_draw, defScope s_L_draw, [], [], []⟩
def d_pick : WkJ.DefA := ⟨fun K => He.ga K "_law_pick", "_law_pick", "_law_pick", defArgs s_L_pick, defBody s_L_pick, defScope s_L_pick, [], [], []⟩
def d_copied_rows : WkJ.DefA := ⟨fun K => He.ga K "copied_rows", "copied_rows", "copied_rows", defArgs s_copied_rows, defBody s_copied_rows, defScope s_copied_rows, [], [], []⟩
def d_rows_with_weight : WkJ.DefA := ⟨fun K => He.ga K "rows_with_weight", "rows_with_weight", "rows_with_weight", defArgs s_rows_with_weight, defBody s_rows_with_weight, defScope s_rows_with_weight, [], [], []⟩
def d_set98 : WkJ.DefA := ⟨fun K => He.ga K "_law_set", "_law_set", "_law_set", defArgs s_L_set, defBody s_L_set, defScope s_L_set, [], [], []⟩
def d_now98 : WkJ.DefA := ⟨fun K => He.ga K "_law_now", "_law_now", "_law_now", defArgs s_L_now, defBody s_L_now, defScope s_L_now, [], [], []⟩
def d_lvr98 : WkJ.DefA := ⟨fun K => He.ga K "_law_level_right", "_law_level_right", "_law_level_right", defArgs s_L_level_right, defBody s_L_level_right, defScope s_L_level_right, [], [], []⟩
def d_level98 : WkJ.DefA := ⟨fun K => He.ga K "_law_level", "_law_level", "_law_level", defArgs s_L_level, defBody s_L_level, defScope s_L_level, [], [], []⟩
def d_inside98 : WkJ.DefA := ⟨fun K => He.ga K "_law_inside", "_law_inside", "_law_inside", defArgs s_L_inside, defBody s_L_inside, defScope s_L_inside, [], [], []⟩
def d_law98 : WkJ.DefA := ⟨fun K => He.ga K "law", "law", "law", defArgs s_law, defBody s_law, defScope s_law, [], [], []⟩
def d_graph_init : WkJ.DefA := ⟨fun K => He.ma K (He.ga K "Graph") "__init__", "__init__", "Graph.__init__", defArgs s_Graph_init, defBody s_Graph_init, defScope s_Graph_init, [], [], []⟩
def d_net_init : WkJ.DefA := ⟨fun K => He.ma K (He.ga K "Network") "__init__", "__init__", "Network.__init__", defArgs s_Network_init, defBody s_Network_init, defScope s_Network_init, ["__class__"], [], []⟩
def d_ck : WkJ.DefA := ⟨fun K => He.ma K (He.ga K "Network") "check_strength", "check_strength", "Network.check_strength", defArgs s_Network_check_strength, defBody s_Network_check_strength, defScope s_Network_check_strength, [], [], []⟩
def d_accept : WkJ.DefA := ⟨fun K => He.ma K (He.ga K "Network") "accept", "accept", "Network.accept", defArgs s_Network_accept, defBody s_Network_accept, defScope s_Network_accept, [], [], []⟩
def d_check_vertex : WkJ.DefA := ⟨fun K => He.ma K (He.ga K "Graph") "check_vertex", "check_vertex", "Graph.check_vertex", defArgs s_Graph_check_vertex, defBody s_Graph_check_vertex, defScope s_Graph_check_vertex, [], [], []⟩
def d_unk_init : WkJ.DefA := ⟨fun K => He.ma K (He.ga K "UnknownVertex") "__init__", "__init__", "UnknownVertex.__init__", defArgs s_UnknownVertex_init, defBody s_UnknownVertex_init, defScope s_UnknownVertex_init, [], [], []⟩
def d_laccept : WkJ.DefA := ⟨fun K => He.ma K (He.ga K "LoggedNetwork") "accept", "accept", "LoggedNetwork.accept", defArgs s_LoggedNetwork_accept, defBody s_LoggedNetwork_accept, defScope s_LoggedNetwork_accept, ["__class__"], [], []⟩
def d_lset_weight : WkJ.DefA := ⟨fun K => He.ma K (He.ga K "Network") "set_weight", "set_weight", "Network.set_weight", defArgs s_Network_set_weight, defBody s_Network_set_weight, defScope s_Network_set_weight, [], [], []⟩
def d_g_weight : WkJ.DefA := ⟨fun K => He.ma K (He.ga K "Graph") "weight", "weight", "Graph.weight", defArgs s_Graph_weight, defBody s_Graph_weight, defScope s_Graph_weight, [], [], []⟩
def d_pstrength : WkJ.DefA := ⟨fun K => WkJ.geA K (He.ga K "Network") "strength", "strength", "Network.strength", defArgs s_Network_strength, defBody s_Network_strength, defScope s_Network_strength, [], [], []⟩
def d_pdepth : WkJ.DefA := ⟨fun K => WkJ.geA K (He.ga K "Network") "depth", "depth", "Network.depth", defArgs s_Network_depth, defBody s_Network_depth, defScope s_Network_depth, [], [], []⟩
def d_plog : WkJ.DefA := ⟨fun K => WkJ.geA K (He.ga K "LoggedNetwork") "log", "log", "LoggedNetwork.log", defArgs s_LoggedNetwork_log, defBody s_LoggedNetwork_log, defScope s_LoggedNetwork_log, [], [], []⟩
def d_history : WkJ.DefA := ⟨fun K => He.ma K (He.ga K "Network") "history", "history", "Network.history", defArgs s_Network_history, defBody s_Network_history, defScope s_Network_history, [], [], []⟩
def d_explore : WkJ.DefA := ⟨fun K => He.ma K (He.ga K "Network") "explore", "explore", "Network.explore", defArgs s_Network_explore, defBody s_Network_explore, defScope s_Network_explore, [], [], []⟩
def d_attempt : WkJ.DefA := ⟨fun K => He.ma K (He.ga K "Network") "attempt", "attempt", "Network.attempt", defArgs s_Network_attempt, defBody s_Network_attempt, defScope s_Network_attempt, [], [], []⟩
def d_tr_init : WkJ.DefA := ⟨fun K => He.ma K (He.ga K "Trial") "__init__", "__init__", "Trial.__init__", defArgs s_Trial_init, defBody s_Trial_init, defScope s_Trial_init, [], [], []⟩
def d_tr_enter : WkJ.DefA := ⟨fun K => He.ma K (He.ga K "Trial") "__enter__", "__enter__", "Trial.__enter__", defArgs s_Trial_enter, defBody s_Trial_enter, defScope s_Trial_enter, [], [], []⟩
def d_tr_exit : WkJ.DefA := ⟨fun K => He.ma K (He.ga K "Trial") "__exit__", "__exit__", "Trial.__exit__", defArgs s_Trial_exit, defBody s_Trial_exit, defScope s_Trial_exit, [], [], []⟩
def d_init_invalidedge : WkJ.DefA := ⟨fun K => He.ma K (He.ga K "InvalidEdge") "__init__", "__init__", "InvalidEdge.__init__", defArgs s_InvalidEdge_init, defBody s_InvalidEdge_init, defScope s_InvalidEdge_init, [], [], []⟩
def d_init_disconnected : WkJ.DefA := ⟨fun K => He.ma K (He.ga K "Disconnected") "__init__", "__init__", "Disconnected.__init__", defArgs s_Disconnected_init, defBody s_Disconnected_init, defScope s_Disconnected_init, [], [], []⟩
def d_init_tooweak : WkJ.DefA := ⟨fun K => He.ma K (He.ga K "TooWeak") "__init__", "__init__", "TooWeak.__init__", defArgs s_TooWeak_init, defBody s_TooWeak_init, defScope s_TooWeak_init, [], [], []⟩
def da : List WkJ.DefA := [d_is_between, d_is_name, d_is_tuple_of, d_side_of, d_last_two, d_merge_rows, d_least_cut, d_strength_of, d_can_join, d_sorted_rows, d_reached, d_check_connected, d_graph_of, d_pen, d_draw, d_pick, d_copied_rows, d_rows_with_weight, d_set98, d_now98, d_lvr98, d_level98, d_inside98, d_law98, d_graph_init, d_net_init, d_ck, d_accept, d_check_vertex, d_unk_init, d_laccept, d_lset_weight, d_g_weight, d_pstrength, d_pdepth, d_plog, d_history, d_explore, d_attempt, d_tr_init, d_tr_enter, d_tr_exit, d_init_invalidedge, d_init_disconnected, d_init_tooweak]
def fa1 : List He.Fa := [.glo "is_between", .glo "is_name", .glo "is_tuple_of", .glo "side_of", .glo "last_two", .glo "merge_rows", .glo "least_cut", .glo "strength_of", .glo "can_join", .glo "sorted_rows", .glo "reached", .glo "check_connected", .glo "graph_of", .glo "_law_pen", .glo "_law_draw", .glo "_law_pick", .glo "copied_rows", .glo "rows_with_weight", .glo "_law_set", .glo "_law_now", .glo "_law_level_right", .glo "_law_level", .glo "_law_inside", .glo "law", .glo "Network", .glo "Graph", .glo "UnknownVertex", .glo "LoggedNetwork", .glo "InvalidEdge", .glo "Disconnected", .glo "TooWeak", .glo "Trial"]
def fa2 : List He.Fa := [.free "abs", .free "all", .free "any", .free "bool", .free "dict", .free "enumerate", .free "int", .free "isinstance", .free "len", .free "list", .free "max", .free "min", .free "range", .free "repr", .free "set", .free "sorted", .free "str", .free "sum", .free "tuple", .free "zip", .free "reversed", .free "super", .free "ValueError", .free "LookupError", .free "KeyError", .free "IndexError", .free "ArithmeticError", .free "OverflowError", .free "ZeroDivisionError", .free "RuntimeError", .free "TypeError"]
def fa3 : List He.Fa := [.str "LETTERS" letS, .cls "Network", .mkr "Network", .cls "Graph", .mkr "Graph", .noat "Network" "around", .noat "Network" "top", .noat "Network" "found", .noat "Network" "made", .noat "Network" "entries", .noat "Network" "running", .noat "Network" "since", .noat "Graph" "around", .noat "Graph" "top", .int "MAX_WEIGHT" 1000000000, .cls "LoggedNetwork", .noat "LoggedNetwork" "around", .noat "LoggedNetwork" "top", .noat "LoggedNetwork" "found", .noat "LoggedNetwork" "made", .noat "LoggedNetwork" "entries", .noat "LoggedNetwork" "running", .noat "LoggedNetwork" "since", .str "ROLLBACK" "rollback", .cls "Trial", .mkr "Trial", .noat "Trial" "network", .noat "Trial" "word", .noat "Trial" "around", .noat "Trial" "top", .noat "Trial" "made", .noat "Trial" "found", .noat "Trial" "since"]
def fa : List He.Fa := fa1 ++ (fa2 ++ fa3)
def ex (K : PySem.W.Frag) : Bool := WkG.smB K && (WkJ.conB K (He.ga K "Network") "MAX_VERTICES" 40 && (WkJ.conB K (He.ga K "Network") "MAX_WEIGHT" 1000000000 && (decide (PySem.W.mroIn K (He.ga K "Network") (.ref (He.ga K "Network")) = some true) && (He.eqO (PySem.W.ks_superIn K (He.ga K "Network") (He.ga K "Network") "__init__") (some (some (.ref (He.ma K (He.ga K "Graph") "__init__")))) && (PySem.W.fnIn K (He.ma K (He.ga K "Graph") "__init__") && (PySem.W.isFn K (.ref (He.ma K (He.ga K "Graph") "__init__")) && (WkJ.supB (PySem.Challenge.rw_weakcuts_k98_whole_long_and_deep_trials).prog K (He.ga K "Network") (He.ma K (He.ga K "Network") "__init__") && ((PySem.W.clsIn K (He.ga K "Network")).isSome && (He.eqO (PySem.W.nsIn K cStatics "thirdparty.any") (some none) && (WkJ.conB K (He.ga K "Graph") "MAX_VERTICES" 40 && (WkJ.conB K (He.ga K "Graph") "MAX_WEIGHT" 1000000000 && (WkJ.methB K (He.ga K "Network") (He.ga K "Network") "check_strength" && (WkJ.methB K (He.ga K "Network") (He.ga K "Network") "accept" && (WkJ.methB K (He.ga K "Network") (He.ga K "Graph") "check_vertex" && (WkX.excB K "UnknownVertex" "value" WkX.bK "LookupError.__new__" && (decide ((He.cT K ("last_two", none)).2 ≠ (He.cT K ("_law_inside", none)).2) && (WkJ.conB K (He.ga K "LoggedNetwork") "MAX_VERTICES" 40 && (WkJ.conB K (He.ga K "LoggedNetwork") "MAX_WEIGHT" 1000000000 && (decide (PySem.W.mroIn K (He.ga K "LoggedNetwork") (.ref (He.ga K "Network")) = some true) && (decide (PySem.W.mroIn K (He.ga K "LoggedNetwork") (.ref (He.ga K "LoggedNetwork")) = some true) && (He.eqO (PySem.W.ks_superIn K (He.ga K "LoggedNetwork") (He.ga K "Network") "__init__") (some (some (.ref (He.ma K (He.ga K "Graph") "__init__")))) && (He.eqO (PySem.W.ks_superIn K (He.ga K "LoggedNetwork") (He.ga K "LoggedNetwork") "accept") (some (some (.ref (He.ma K (He.ga K "Network") "accept")))) && (WkJ.supB (PySem.Challenge.rw_weakcuts_k98_whole_long_and_deep_trials).prog K (He.ga K "LoggedNetwork") (He.ma K (He.ga K "LoggedNetwork") "accept") && ((PySem.W.clsIn K (He.ga K "LoggedNetwork")).isSome && (PySem.W.fnIn K (He.ma K (He.ga K "Network") "accept") && (PySem.W.isFn K (.ref (He.ma K (He.ga K "Network") "accept")) && (PySem.W.makesIn K (He.ga K "LoggedNetwork") && (He.eqO (PySem.W.findIn K (.ref (He.ga K "LoggedNetwork")) "__init__") (some (some (.ref (He.ma K (He.ga K "Network") "__init__")))) && (PySem.W.isFn K (.ref (He.ma K (He.ga K "Network") "__init__")) && (PySem.W.keepIn K (.ref (He.ga K "LoggedNetwork")) && (WkJ.methB K (He.ga K "LoggedNetwork") (He.ga K "Network") "check_strength" && (WkJ.methB K (He.ga K "LoggedNetwork") (He.ga K "LoggedNetwork") "accept" && (WkJ.methB K (He.ga K "LoggedNetwork") (He.ga K "Graph") "check_vertex" && (WkJ.methB K (He.ga K "LoggedNetwork") (He.ga K "Network") "set_weight" && (WkJ.methB K (He.ga K "LoggedNetwork") (He.ga K "Graph") "weight" && (WkJ.methB K (He.ga K "LoggedNetwork") (He.ga K "Network") "history" && (WkJ.methB K (He.ga K "LoggedNetwork") (He.ga K "Network") "explore" && (WkJ.methB K (He.ga K "LoggedNetwork") (He.ga K "Network") "attempt" && (WkJ.propB K (He.ga K "LoggedNetwork") "strength" && (decide (WkJ.geA K (He.ga K "LoggedNetwork") "strength" = WkJ.geA K (He.ga K "Network") "strength") && (WkJ.propB K (He.ga K "LoggedNetwork") "depth" && (decide (WkJ.geA K (He.ga K "LoggedNetwork") "depth" = WkJ.geA K (He.ga K "Network") "depth") && (WkJ.propB K (He.ga K "LoggedNetwork") "log" && (WkX.excB K "InvalidEdge" "value" WkX.bV "ValueError.__new__" && (WkX.excB K "Disconnected" "side" WkX.bV "ValueError.__new__" && (WkX.excB K "TooWeak" "found" WkX.bR "RuntimeError.__new__" && (decide (PySem.W.exmOne K (.ref (He.ga K "TooWeak")) (.ref (He.ga K "TooWeak")) = some true) && (He.eqO (PySem.W.findIn K (.ref (He.ga K "Trial")) "__enter__") (some (some (.ref (He.ma K (He.ga K "Trial") "__enter__")))) && (PySem.W.isFn K (.ref (He.ma K (He.ga K "Trial") "__enter__")) && (He.eqO (PySem.W.findIn K (.ref (He.ga K "Trial")) "__exit__") (some (some (.ref (He.ma K (He.ga K "Trial") "__exit__")))) && (PySem.W.isFn K (.ref (He.ma K (He.ga K "Trial") "__exit__")) && (true))))))))))))))))))))))))))))))))))))))))))))))))))))
def tf : List He.Defn := [("last_two", none), ("_law_inside", none)]
abbrev R : PySem.W.OpenRow := PySem.W.OpenLaw.row PySem.Challenge.rw_weakcuts_k98_whole_long_and_deep_trials
abbrev hk : PySem.W.Hook := WkJ.hookB 7 fa da tf ex
def ob (s : PySem.W.SharedT) : WkJ.Al := WkJ.obsB 7 fa da tf ex (HandSHeadRun.getT s)
theorem ob_eq (s : PySem.W.SharedT) : ob s = hk.obs s.abs := WkJ.obsB_eq (HandSHeadRun.getT_eq s)
def loose1 : List PySem.Str := ["_wall", "__name__", "InvalidVertex", "InvalidEdge", "Disconnected", "TooWeak", "UnknownVertex", "LETTERS", "is_between", "is_name", "is_tuple_of", "side_of", "last_two", "merge_rows", "least_cut", "strength_of", "Graph", "can_join"]
def loose2 : List PySem.Str := ["sorted_rows", "reached", "check_connected", "MAX_WEIGHT", "copied_rows", "rows_with_weight", "ROLLBACK", "Trial", "Network", "graph_of", "LoggedNetwork", "_law_pen", "_law_draw", "_law_pick", "_law_set", "_law_now", "_law_level_right", "_law_level", "_law_inside"]
abbrev loose : List PySem.Str := loose1 ++ loose2
theorem run (w : World) : HandSHeadRun.RunEq R (PySem.W.view R.prog [45]) hk ob 20000 loose w := by
  intro os
  kernel_rfl
end Wk
namespace Wk
open PySem PySem.Spec PyProof.Rows L2 WkD WkN
section
variable {P : Program} {w : World} {K : PySem.W.Frag} {mg : Str → Option Value} {base : Heap}
def spTupleOf (K : PySem.W.Frag) : Sp := fun vs H Q _ => ∃ (x : V) (n : Int), vs = [x, .int n] ∧ ((∃ a xs, x = .ref a ∧ SqT K H a xs ∧ xs.length ≤ sizeLine ∧ TyX K H x (.type "tuple") ∧ Q (.bl (decide ((xs.length : Int) = n))) H) ∨ ∃ t, TyX K H x t ∧ PySem.W.kitOne K t (.type "tuple") = some false ∧ Q (.bl false) H)
theorem sc_is_tuple_of : FnScope ["value", "size"] ["value", "size"] (defScope s_is_tuple_of) := ⟨rfl, rfl, rfl, by decide +kernel, rfl, by decide +kernel, by decide +kernel⟩
theorem c_is_tuple_of (D : Def K mg "is_tuple_of" s_is_tuple_of) (B : Bi mg) : Callee P w K mg base CX0 1 "is_tuple_of" ["value", "size"] (spTupleOf K) := by
  obtain ⟨f, fd, F, g⟩ := D
  refine ⟨f, fd, F.ok sc_is_tuple_of (fun vs H Q E h => ?_) (fun cdv A outer s H vs Q E hr h => ⟨_, PSs.nox (pss_one (ps_ret (pe_and (pe_callB call_isi (by rfl) B.n_isinstance (by decide +kernel) (pa_cons (pv 0) (pa_cons (pe_bltn (v := .ty "tuple") (by rfl) B.n_tuple (by decide +kernel) rfl) pa_nil))) (pe_one (pe_cmpR op_eq (pe_callB call_len_seq (by rfl) B.n_len (by decide +kernel) (pa_cons (pv 0) pa_nil)) (pv 1) (nomark _)))))), ?_⟩), g, F.kp, F.bindsN (fun _ _ _ _ _ _ us hl => match us, hl with | [_, _], _ => rfl)⟩
  · obtain ⟨x, n, rfl, _⟩ := h
    rfl
  · obtain ⟨x, n, rfl, h⟩ := h
    rcases h with ⟨a, xs, rfl, hT, hl, ty, q⟩ | ⟨t, ty, hk, q⟩
    · refine ⟨_, rfl, _, _, _, _, true, rfl, .ty _, ty, kit_ty (by decide +kernel), true, rfl, ?_⟩
      refine ⟨_, rfl, a, xs, rfl, .inr hT, _, rfl, rfl, ?_⟩
      have e : decide (V.int (xs.length : Int) = V.int n) = decide ((xs.length : Int) = n) := by
        by_cases h : (xs.length : Int) = n
        · rw [decide_eq_true h, decide_eq_true (by rw [h])]
        · rw [decide_eq_false h, decide_eq_false (fun z => h (V.int.inj z))]
      rw [e]
      exact q
    · exact ⟨_, rfl, _, _, _, _, false, rfl, .ty _, ty, hk, false, rfl, q⟩
def joinB (ks : List Str) (u v : Str) : Bool := nameB u && (nameB v && (!decide (u = v) && (decide (u ∈ ks) && decide (v ∈ ks))))
def spJoin : Sp := fun vs H Q _ => ∃ (a : Addr) (ks : List Str) (g : Str → V) (u v : Str), vs = [.ref a, .str u, .str v] ∧ Rd H a (.dK (dct ks g)) ∧ u.length ≤ sizeLine ∧ v.length ≤ sizeLine ∧ ∀ H', Same H H' → Q (.bl (joinB ks u v)) H'
theorem rdS {H H' : Hp} {a : Addr} {o : HO} (e : Same H H') (h : Rd H a o) : Rd H' a o := by
  rcases h with h | ⟨u, h⟩
  · exact .inl (e _ _ h)
  · exact .inr ⟨u, e _ _ h⟩
theorem sc_can_join : FnScope ["around", "u", "v"] ["around", "u", "v"] (defScope s_can_join) := ⟨rfl, rfl, rfl, by decide +kernel, rfl, by decide +kernel, by decide +kernel⟩
theorem c_can_join (D : Def K mg "can_join" s_can_join) (CN : Callee P w K mg base CX0 1 "is_name" ["value"] (spName K)) : Callee P w K mg base CX0 2 "can_join" ["around", "u", "v"] spJoin := by
  obtain ⟨f, fd, F, g⟩ := D
  refine ⟨f, fd, F.ok sc_can_join (fun vs H Q E h => ?_) (fun cdv A outer s H vs Q E hr h => ?_), g, F.kp, F.bindsN (fun _ _ _ _ _ _ us hl => match us, hl with | [_, _, _], _ => rfl)⟩
  · obtain ⟨a, ks, g, u, v, rfl, _⟩ := h
    rfl
  · have hr1 : Room 1 _ := hr
    have hu := hu_of hr
    refine ⟨_, PSs.nox (pss_one (ps_ret (pe_and (pe_c CN hr1 pass0 (pa_cons (pv 1) pa_nil)) (pe_and (pe_c CN hr1 pass0 (pa_cons (pv 2) pa_nil)) (pe_and (pe_cmpR op_ne (pv 1) (pv 2) (nomark _)) (pe_and (pe_cmp (pc_din hu (pv 1) (pv 0))) (pe_one (pe_cmp (pc_din hu (pv 2) (pv 0)))))))))), ?_⟩
    obtain ⟨a, ks, g, u, v, rfl, hR, hlu, hlv, k⟩ := h
    unfold joinB at k
    refine ⟨_, rfl, .inl ⟨u, rfl, hlu, fun H1 s1 => ?_⟩⟩
    refine ⟨_, rfl, ite2 (fun h1 => ?_) (fun h1 => ?_)⟩
    · rw [h1, Bool.true_and] at k
      refine ⟨_, rfl, .inl ⟨v, rfl, hlv, fun H2 s2 => ?_⟩⟩
      refine ⟨_, rfl, ite2 (fun h2 => ?_) (fun h2 => ?_)⟩
      · rw [h2, Bool.true_and] at k
        have e : decide (V.str u = V.str v) = decide (u = v) := by
          by_cases h : u = v
          · rw [decide_eq_true h, decide_eq_true (by rw [h])]
          · rw [decide_eq_false h, decide_eq_false (fun z => h (V.str.inj z))]
        have s12 := s1.trans s2
        refine ⟨_, rfl, _, rfl, rfl, _, rfl, ?_⟩
        rw [e]
        refine ite2 (fun h3 => ?_) (fun h3 => ?_)
        · rw [h3, Bool.true_and] at k
          refine ⟨_, rfl, _, rfl, a, _, rfl, get_x (rdS s12 hR), _, rfl, ?_⟩
          have eo : ∀ x : Str, (if x ∈ ks then some (g x) else none).isSome = decide (x ∈ ks) := fun x => by
            by_cases h : x ∈ ks
            · rw [if_pos h, decide_eq_true h]
              rfl
            · rw [if_neg h, decide_eq_false h]
              rfl
          rw [eo]
          refine ite2 (fun h4 => ?_) (fun h4 => ?_)
          · rw [h4, Bool.true_and] at k
            refine ⟨_, rfl, _, rfl, a, _, rfl, get_x (rdS s12 hR), ?_⟩
            rw [eo]
            exact k _ s12
          · rw [bF h4, Bool.false_and] at k
            exact k _ s12
        · rw [bF h3, Bool.false_and] at k
          exact k _ s12
      · rw [bF h2, Bool.false_and] at k
        exact k _ (s1.trans s2)
    · rw [bF h1, Bool.false_and] at k
      exact k _ s1
end
end Wk
namespace Wk
open PySem PySem.Spec PyProof.Rows L2 WkD WkN LamX WkP
section
variable {P : Program} {w : World} {K : PySem.W.Frag} {mg : Str → Option Value} {base : Heap}
def Ebut (l : Addr) (H H' : Hp) : Prop := ∀ b o, H b = some o → b ≠ l → (∀ ps, o ≠ .tbl ps) → H' b = some o
theorem Ebut.ext {l : Addr} {H H' : Hp} (e : Ebut l H H') (h : H l = none) : Ext H H' := fun b o hb n => e b o hb (ne_of_none hb h) n
theorem Ebut.trans {l : Addr} {H H1 H2 : Hp} (a : Ebut l H H1) (b : Ebut l H1 H2) : Ebut l H H2 := fun c o h n t => b c o (a c o h n t) n t
theorem Ebut.of {l : Addr} {H H' : Hp} (e : Ext H H') : Ebut l H H' := fun b o h _ n => e b o h n
theorem Ebut.upd {l : Addr} {H H1 : Hp} {o : HO} (a : Ebut l H H1) : Ebut l H (L2.upd H1 l o) := fun c u e h n => by
  rw [upd_ne h]
  exact a c u e h n
theorem Ebut.put {l p : Addr} {H H1 : Hp} {o : HO} (a : Ebut l H H1) (h : H p = none) : Ebut l H (L2.upd H1 p o) := fun c u e hc n => by
  rw [upd_ne (ne_of_none e h)]
  exact a c u e hc n
theorem tabs_put {T : List (Addr × Str)} {H : Hp} {p : Addr} {o : HO} (t : Tabs T H) (h : H p = none) : Tabs T (upd H p o) := t.ext (same_upd h)
theorem tabs_mut {T : List (Addr × Str)} {H : Hp} {p : Addr} {o u : HO} (t : Tabs T H) (h : H p = some u) (n : ∀ ps, u ≠ .tbl ps) (hx : ∀ c q, u ≠ CodeO c q) : Tabs T (upd H p o) := fun x hx' => by
  obtain ⟨ps, h1, h2, h3⟩ := t x hx'
  refine ⟨ps, by rw [upd_ne (fun z => n ps (Option.some.inj (h.symm.trans (by rw [← z]; exact h1))))]; exact h1, h2, fun pos cv hc => ?_⟩
  obtain ⟨c, e1, e2⟩ := h3 pos cv hc
  exact ⟨c, e1, by rw [upd_ne (fun z => hx c _ (Option.some.inj (h.symm.trans (by rw [← z]; exact e2))))]; exact e2⟩
theorem dk_tbl {kvs : List (Key × V)} : ∀ ps, HO.dK kvs ≠ .tbl ps := fun ps z => by cases z
theorem dk_code {kvs : List (Key × V)} : ∀ c q, HO.dK kvs ≠ CodeO c q := fun c q z => by
  unfold CodeO at z
  cases z
theorem fz_tbl {o : Obj} {u : HO} : ∀ ps, HO.frz o u ≠ .tbl ps := fun ps z => by cases z
theorem fz_code {o : Obj} {u : HO} : ∀ c q, HO.frz o u ≠ CodeO c q := fun c q z => by
  unfold CodeO at z
  cases z
def spLast (T : List (Addr × Str)) : Sp := fun vs H Q _ => ∃ (a : Addr) (Vs : List Str) (ad : Str → Addr) (nb : Nb) (wt : Wt), vs = [.ref a] ∧ RowsM H a Vs ad nb wt ∧ (∀ u ∈ Vs, (nb u).Nodup) ∧ 2 ≤ Vs.length ∧ Vs.length < 1000 ∧ Tabs T H ∧
  ∀ p x l n H', Ext H H' → Tabs T H' → H' p = some (.tup [.str x, .str l, .int n]) → LastTwo nb wt Vs x l n → Q (.ref p) H'
def leftO (nb : Nb) (wt : Wt) (Vs done : List Str) : HO := .dK (dct (Vs.filter fun u => decide (u ∉ done)) fun u => .int (conn nb wt done u))
theorem sc_last_two : FnScope ["rows", "left", "weight", "u", "ahead", "last", "v", "more"] ["rows"] (defScope s_last_two) := ⟨rfl, rfl, rfl, by decide +kernel, rfl, by decide +kernel, by decide +kernel⟩
theorem c_last_two {c PT : Addr} {tbT : List (Addr × Str)} (D : Def K mg "last_two" s_last_two) (B : Bi mg) (TB : TabB base mg c PT) (hmT : (PT, ("last_two.<locals>.<lambda>" : Str)) ∈ tbT) (huT : ∀ p ∈ tbT, p.1 = PT → p.2 = ("last_two.<locals>.<lambda>" : Str)) (hC : ∀ f, mg "last_two" = some (.ref f) → WkL.CodeIs K f c) :
    Callee P w K mg base CX0 3 "last_two" ["rows"] (spLast tbT) := by
  obtain ⟨f, fd, F, g⟩ := D
  refine ⟨f, fd, WkL.okC F sc_last_two (hC f g) (fun vs H Q E h => ?_) (fun A outer s H vs Q E hr h => ?_), g, F.kp, F.bindsN (fun _ _ _ _ _ _ us hl => match us, hl with | [_], _ => rfl)⟩
  · obtain ⟨a, Vs, ad, nb, wt, rfl, _⟩ := h
    rfl
  · have hu := hu_of hr
    have nd := sc_last_two.nd
    have hr2 : Room 2 _ := hr
    refine ⟨_, PSs.nox (pss_cons (ps_asg (pe_tup (pa_cons (pe_lock (pe_dc (own := [("u", 3)]) (by rfl) nd (pi_keys (pv 0)) (blkOk_by (by kernel_rfl)) (fun _ _ _ _ _ => (pg_name (i := 3) nd rfl (Or.inl rfl))) (fun _ _ _ _ _ => pts_nil) (fun _ _ _ _ _ => (pv 3)) (fun _ _ _ _ _ => pe_int))) (pa_cons pe_int pa_nil))) (WkN.pgT K 2 rfl rfl (pgs_cons (pg_name (i := 1) nd rfl (Or.inr rfl)) (pgs_cons (pg_name (i := 2) nd rfl (Or.inl rfl)) pgs_nil)) rfl))
      (pss_cons (ps_asg2 pe_non (pg_name (i := 4) nd rfl (Or.inl rfl)) (pg_name (i := 5) nd rfl (Or.inl rfl)))
      (pss_cons (ps_while PassesOwn.never (pt_cmpR (WkD.op_neE hr.units0) (pv 1) pe_dnewK (nomark _))
      (pss_cons (ps_par (i := 4) (j := 5) (by rfl) nd rfl rfl (by decide) rfl rfl (pa_cons (pv 5) (pa_cons (WkL.pe_maxLam (u := "u") (i := 3) (k := 0) (T := tbT) (by rfl) (by rfl) B.n_max (pa_cons (pe_callTy (call_listD rfl) (by rfl) B.n_list (by decide +kernel) (pa_cons (pv 1) pa_nil)) pa_nil) TB rfl hmT huT hr2 ⟨rfl, rfl, rfl, by decide +kernel, by decide +kernel, by decide +kernel, by show ∀ y : Str × NameKind, y ∈ _ → _ → (defScope s_last_two).names.lookup y.1 = _ ∨ (defScope s_last_two).names.lookup y.1 = _; decide +kernel⟩ rfl nd rfl (fun _ _ _ _ _ _ => rfl) (fun _ _ _ _ _ _ hr9 => pe_dget (hu_of hr9) (pv 1) (pv 3) (fun _ _ => rfl))) pa_nil)) (by rfl))
      (pss_cons (ps_set (i := 2) nd rfl (Or.inl rfl) (pe_dpop1 (pv 1) (pv 5) ⟨rfl, rfl, rfl, rfl⟩))
      (pss_one (ps_lock (ps_for PassesOwn.never rfl (pi_items (pe_dget hu (pv 0) (pv 5) (fun _ _ => rfl))) (WkN.pgT K 2 rfl rfl (pgs_cons (pg_name (i := 6) nd rfl (Or.inl rfl)) (pgs_cons (pg_name (i := 7) nd rfl (Or.inl rfl)) pgs_nil)) rfl)
      (pss_one (ps_if (pt_cmp (pc_din hu (pv 6) (pv 1)))
      (pss_one (ps_daug hu (pv 1) (pv 6) (pv 7) in_add (fun _ _ _ => rfl))) pss_nil))))))))
      (pss_one (ps_ret (pe_tup (pa_cons (pv 4) (pa_cons (pv 5) (pa_cons (pv 2) pa_nil))))))))), ?_⟩
    obtain ⟨a, Vs, ad, nb, wt, rfl, R, hnb, h2, hsz, hT, k⟩ := h
    refine ⟨a, _, R.top, trivial, fun od => ?_⟩
    have e0 : upd H a (.frz od (.dK (dct Vs fun u => .ref (ad u)))) a = some (.frz od (.dK (dct Vs fun u => .ref (ad u)))) := upd_same
    refine ⟨_, rfl, a, od, rfl, .inl ⟨_, e0, fun l nl => ?_⟩⟩
    have nla : l ≠ a := fun z => by
      rw [z, upd_same] at nl
      cases nl
    have nlH : H l = none := by
      rw [upd_ne nla] at nl
      exact nl
    refine dc_it (walk_keys (kvs := dct Vs fun u => .ref (ad u))) (fun i H2 => H2 = upd (upd H a (.frz od (.dK (dct Vs fun u => .ref (ad u))))) l (.dK (dct (Vs.take i) fun _ => .int 0))) rfl ?_ ?_ ?_
    · rintro i H2 hi rfl
      rw [upd_ne (Ne.symm nla), upd_same]
    · rintro i x H2 H2' hi rfl ⟨rfl, k0, v0, hk, rfl⟩
      rw [dct_at] at hk
      rw [dct_len] at hi
      rw [List.getElem?_eq_getElem hi] at hk
      cases hk
      refine ⟨rfl, tYes_if ?_⟩
      refine ⟨_, rfl, _, Sum.inr Vs[i], rfl, upd_same, ?_, ?_⟩
      · rw [dct_len, List.length_take]
        exact Nat.lt_of_le_of_lt (Nat.min_le_right _ _) (Nat.lt_trans hsz (by decide))
      · have hn : Vs[i] ∉ Vs.take i := fun z => by
          obtain ⟨j, hj, e⟩ := List.mem_iff_getElem.mp z
          rw [List.length_take] at hj
          rw [List.getElem_take] at e
          have := (List.getElem_inj R.nd).mp e
          omega
        rw [upd_upd, takeS (List.getElem?_eq_getElem hi), dct_put_new hn]
        congr 2
        exact dct_congr fun v _ => by split <;> rfl
    · rintro H2 rfl
      rw [dct_len, List.take_length]
      refine ⟨by rw [upd_ne (Ne.symm nla), upd_same], ?_⟩
      generalize gg : upd (upd (upd H a (.frz od (.dK (dct Vs fun u => .ref (ad u))))) l (.dK (dct Vs fun _ => .int 0))) a (.dK (dct Vs fun u => .ref (ad u))) = H3
      have E3 : Ebut l H H3 := fun b o hb hne _ => by
        rw [← gg]
        by_cases e : b = a
        · subst e
          rw [upd_same, ← hb, R.top]
        · rw [upd_ne e, upd_ne hne, upd_ne e]
          exact hb
      have L3 : H3 l = some (.dK (dct Vs fun _ => .int 0)) := by
        rw [← gg, upd_ne nla, upd_same]
      have T3 : Tabs tbT H3 := by
        rw [← gg]
        exact tabs_mut (tabs_put (tabs_mut hT R.top dk_tbl dk_code) nl) (by rw [upd_ne (Ne.symm nla), upd_same]) fz_tbl fz_code
      clear gg e0
      refine ⟨by show 2 ≤ sizeLine; decide, fun p np => ?_⟩
      have pl : p ≠ l := fun z => by
        rw [z, L3] at np
        cases np
      have E4 : Ebut l H (upd H3 p (.tup [.ref l, .int 0])) := E3.trans (Ebut.of (Ext.of (same_upd np)))
      have L4 : upd H3 p (.tup [.ref l, .int 0]) l = some (.dK (dct Vs fun _ => .int 0)) := (same_upd np) _ _ L3
      have T4 := tabs_put (o := .tup [.ref l, .int 0]) T3 np
      have P4 : upd H3 p (.tup [.ref l, .int 0]) p = some (.tup [.ref l, .int 0]) := upd_same
      generalize upd H3 p (.tup [.ref l, .int 0]) = H4 at E4 L4 T4 P4
      refine ⟨p, _, rfl, .inl (.inl P4), rfl, ?_⟩
      have fl : ∀ done : List Str, (Vs.filter fun u => decide (u ∉ done)).length ≤ Vs.length := fun done => List.length_filter_le _ _
      refine ⟨_, _, rfl, _, _, rfl, rfl, ?_⟩
      refine ⟨fun m σ H2 => ∃ (done : List Str) (wg ah la : V) (x3 x6 x7 : Option V), σ = [some (.ref a), some (.ref l), some wg, x3, some ah, some la, x6, x7] ∧ Ebut l H H2 ∧ Tabs tbT H2 ∧ H2 l = some (leftO nb wt Vs done) ∧ Pre nb wt Vs done ∧ Tail nb wt done ah la wg ∧ m = (Vs.filter fun u => decide (u ∉ done)).length,
        ⟨_, [], .int 0, .non, .non, none, none, none, rfl, E4, T4, ?_, Pre.nil nb wt Vs, .inl ⟨rfl, rfl⟩, rfl⟩, ?_⟩
      · rw [L4]
        unfold leftO
        rw [show (Vs.filter fun u => decide (u ∉ ([] : List Str))) = Vs from List.filter_eq_self.mpr fun u _ => by simp]
        rfl
      rintro m σ H5 ⟨done, wg, ah, la, x3, x6, x7, rfl, E5, T5, L5, hP, hTl, rfl⟩
      refine ⟨_, rfl, fun q nq => ?_⟩
      have E6 : Ebut l H (upd H5 q (.dK [])) := E5.trans (Ebut.of (Ext.of (same_upd nq)))
      have T6 := tabs_put (o := .dK []) T5 nq
      have L6 : upd H5 q (.dK []) l = some (leftO nb wt Vs done) := (same_upd nq) _ _ L5
      have Q6 : upd H5 q (.dK []) q = some (.dK []) := upd_same
      generalize upd H5 q (.dK []) = H6 at E6 T6 L6 Q6
      refine ⟨l, q, _, rfl, rfl, .inl L6, Q6, _, rfl, ?_⟩
      refine ite2 (fun hb => ?_) (fun hb => ?_)
      · -- a turn
        have hne : (Vs.filter fun u => decide (u ∉ done)) ≠ [] := fun z => by
          rw [z] at hb
          cases hb
        refine ⟨fun σ' H' => ∃ (done' : List Str) (wg ah la : V) (x3 x6 x7 : Option V), σ' = [some (.ref a), some (.ref l), some wg, x3, some ah, some la, x6, x7] ∧ Ebut l H H' ∧ Tabs tbT H' ∧ H' l = some (leftO nb wt Vs done') ∧ Pre nb wt Vs done' ∧ Tail nb wt done' ah la wg ∧ (Vs.filter fun u => decide (u ∉ done')).length < (Vs.filter fun u => decide (u ∉ done)).length, ?_, ?_⟩
        · rintro σ' H' ⟨done', wg, ah, la, x3, x6, x7, h1, h2, h3, h4, h5, h6, h7⟩
          exact ⟨_, h7, done', wg, ah, la, x3, x6, x7, h1, h2, h3, h4, h5, h6, rfl⟩
        refine ⟨_, rfl, _, rfl, l, _, rfl, .inl L6, fun p1 np1 => ?_⟩
        have e1 : (dct (Vs.filter fun u => decide (u ∉ done)) fun u => V.int (conn nb wt done u)).map (fun kv => kV kv.1) = (Vs.filter fun u => decide (u ∉ done)).map V.str := by
          unfold dct
          rw [List.map_map]
          rfl
        rw [e1]
        have E7 : Ebut l H (upd H6 p1 (.lst ((Vs.filter fun u => decide (u ∉ done)).map V.str))) := E6.trans (Ebut.of (Ext.of (same_upd np1)))
        have T7 := tabs_put (o := .lst ((Vs.filter fun u => decide (u ∉ done)).map V.str)) T6 np1
        have L7 : upd H6 p1 (.lst ((Vs.filter fun u => decide (u ∉ done)).map V.str)) l = some (leftO nb wt Vs done) := (same_upd np1) _ _ L6
        have P7 : upd H6 p1 (.lst ((Vs.filter fun u => decide (u ∉ done)).map V.str)) p1 = some (.lst ((Vs.filter fun u => decide (u ∉ done)).map V.str)) := upd_same
        generalize upd H6 p1 (.lst ((Vs.filter fun u => decide (u ∉ done)).map V.str)) = H7 at E7 T7 L7 P7
        refine ⟨p1, _, (Vs.filter fun u => decide (u ∉ done)).map (conn nb wt done), rfl, P7, by simpa using hne, by simp, T7, fun H8 e8 T8 => ⟨fun j v n hv hn => ?_, fun j v hv hmax => ?_⟩⟩
        · have L8 := e8 _ _ L7 dk_tbl
          rw [List.getElem?_map] at hv hn
          cases ej : (Vs.filter fun u => decide (u ∉ done))[j]? with
          | none => rw [ej] at hv; cases hv
          | some x =>
            rw [ej] at hv hn
            cases hv
            cases hn
            exact ⟨_, rfl, _, rfl, l, _, rfl, get_d (.inl L8) (List.mem_of_getElem? ej), rfl, rfl⟩
        rw [List.getElem?_map] at hv
        cases ej : (Vs.filter fun u => decide (u ∉ done))[j]? with
        | none => rw [ej] at hv; cases hv
        | some x =>
          rw [ej] at hv
          cases hv
          have E8 : Ebut l H H8 := E7.trans (Ebut.of e8)
          have L8 : H8 l = some (leftO nb wt Vs done) := e8 _ _ L7 dk_tbl
          clear e8 E7 T7 L7 P7 E6 T6 L6 Q6 E5 T5 L5
          have hxl := List.mem_of_getElem? ej
          obtain ⟨hxV, hxd⟩ := List.mem_filter.mp hxl
          have hxd : x ∉ done := of_decide_eq_true hxd
          have hbest : ∀ u ∈ Vs, u ∉ done → conn nb wt done u ≤ conn nb wt done x := by
            intro u hu hd
            obtain ⟨n, hn, hall⟩ := hmax
            rw [List.getElem?_map, ej] at hn
            cases hn
            obtain ⟨i, hi, e⟩ := List.mem_iff_getElem.mp (List.mem_filter.mpr ⟨hu, decide_eq_true hd⟩ : u ∈ Vs.filter fun u => decide (u ∉ done))
            exact (hall i _ (by rw [List.getElem?_map, List.getElem?_eq_getElem hi, e] <;> rfl)).1
          refine ⟨_, _, rfl, ?_⟩
          refine ⟨_, rfl, l, rfl, .inl ⟨_, .inl L8⟩, _, rfl, _, Sum.inr x, _, L8, rfl, dct_in hxl, ?_⟩
          rw [dct_drop]
          have ek : ((Vs.filter fun u => decide (u ∉ done)).filter fun y => decide (y ≠ x)) = Vs.filter fun u => decide (u ∉ done ++ [x]) := by
            rw [List.filter_filter]
            refine List.filter_congr fun u _ => ?_
            by_cases h1 : u = x
            · subst h1
              simp
            · by_cases h2 : u ∈ done
              · simp [h2]
              · simp [h1, h2]
          rw [ek]
          have E9 : Ebut l H (upd H8 l (.dK (dct (Vs.filter fun u => decide (u ∉ done ++ [x])) fun u => .int (conn nb wt done u)))) := E8.upd
          have T9 := tabs_mut (o := .dK (dct (Vs.filter fun u => decide (u ∉ done ++ [x])) fun u => .int (conn nb wt done u))) T8 L8 dk_tbl dk_code
          have L9 : upd H8 l (.dK (dct (Vs.filter fun u => decide (u ∉ done ++ [x])) fun u => .int (conn nb wt done u))) l = some (.dK (dct (Vs.filter fun u => decide (u ∉ done ++ [x])) fun u => .int (conn nb wt done u))) := upd_same
          generalize upd H8 l (.dK (dct (Vs.filter fun u => decide (u ∉ done ++ [x])) fun u => .int (conn nb wt done u))) = H9 at E9 T9 L9
          have nra : ad x ≠ l := ne_of_none (R.row x hxV) nlH
          have nrl : a ≠ l := Ne.symm nla
          have R9 := E9 _ _ (R.row x hxV) nra dk_tbl
          have A9 := E9 _ _ R.top nrl dk_tbl
          refine ⟨ad x, _, R9, trivial, fun od2 => ?_⟩
          have nax := R.ne hxV
          refine ⟨_, rfl, _, rfl, a, _, rfl, get_d (.inl (by rw [upd_ne (Ne.symm nax)]; exact A9)) hxV, ad x, od2, _, rfl, upd_same, ?_⟩
          have fr : ∀ b o, H9 b = some o → b ≠ ad x → upd H9 (ad x) (.frz od2 (.dK (dct (nb x) fun v => .int (wt x v)))) b = some o := fun b o hb hne => by
            rw [upd_ne hne]
            exact hb
          have Z9 : upd H9 (ad x) (.frz od2 (.dK (dct (nb x) fun v => .int (wt x v)))) (ad x) = some (.frz od2 (.dK (dct (nb x) fun v => .int (wt x v)))) := upd_same
          have L9z := fr _ _ L9 (Ne.symm nra)
          have T9z : Tabs tbT (upd H9 (ad x) (.frz od2 (.dK (dct (nb x) fun v => .int (wt x v))))) := tabs_mut T9 R9 dk_tbl dk_code
          generalize upd H9 (ad x) (.frz od2 (.dK (dct (nb x) fun v => .int (wt x v)))) = Hz at fr Z9 L9z T9z
          have sz : (Vs.filter fun u => decide (u ∉ done ++ [x])).length < sizeLine := Nat.lt_of_le_of_lt (fl _) (Nat.lt_trans hsz (by decide))
          refine for_it (walk_items (kvs := dct (nb x) fun v => .int (wt x v))) (fun i σ Hc => ∃ x6 x7 : Option V, σ = [some (.ref a), some (.ref l), some (.int (conn nb wt done x)), x3, some la, some (.str x), x6, x7] ∧ Ebut l Hz Hc ∧ Tabs tbT Hc ∧
            Hc l = some (.dK (dct (Vs.filter fun u => decide (u ∉ done ++ [x])) fun u => .int (conn nb wt done u + if u ∈ (nb x).take i then wt x u else 0)))) ⟨x6, x7, rfl, fun b o hb _ _ => hb, T9z, ?_⟩ ?_ ?_ ?_
          · rw [L9z]
            congr 2
            exact dct_congr fun u _ => by simp
          · rintro i σ Hc hi ⟨x6, x7, rfl, Ec, Tc, Lc⟩
            exact Ec _ _ Z9 nra fz_tbl
          · rintro i y σ Hc Hc' hi ⟨x6, x7, rfl, Ec, Tc, Lc⟩ ⟨T, kx, vx, rfl, nT, rfl, hk, hv⟩
            rw [dct_len] at hi
            dsimp only at hk hv
            rw [dct_at, List.getElem?_eq_getElem hi] at hk hv
            cases hk
            cases hv
            have Ed : Ebut l Hz (upd Hc T (.tup [.str (nb x)[i], .int (wt x (nb x)[i])])) := Ec.trans (Ebut.of (Ext.of (same_upd nT)))
            have Td := tabs_put (o := .tup [.str (nb x)[i], .int (wt x (nb x)[i])]) Tc nT
            have Ld := (same_upd (o := .tup [.str (nb x)[i], .int (wt x (nb x)[i])]) nT) _ _ Lc
            have Pd : upd Hc T (.tup [.str (nb x)[i], .int (wt x (nb x)[i])]) T = some (.tup [.str (nb x)[i], .int (wt x (nb x)[i])]) := upd_same
            show gTup _ _ _ _ _ (upd Hc T (.tup [.str (nb x)[i], .int (wt x (nb x)[i])])) _
            generalize upd Hc T (.tup [.str (nb x)[i], .int (wt x (nb x)[i])]) = Hd at Ed Td Ld Pd
            refine ⟨T, _, rfl, .inl (.inl Pd), rfl, _, _, rfl, _, _, rfl, rfl, ?_⟩
            refine ⟨_, rfl, _, rfl, l, _, rfl, get_x (.inl Ld), _, rfl, ?_⟩
            have nin : (nb x)[i] ∉ (nb x).take i := fun z => by
              obtain ⟨j, hj, e⟩ := List.mem_iff_getElem.mp z
              rw [List.length_take] at hj
              rw [List.getElem_take] at e
              have := (List.getElem_inj (hnb x hxV)).mp e
              omega
            have tk : (nb x).take (i + 1) = (nb x).take i ++ [(nb x)[i]] := takeS (List.getElem?_eq_getElem hi)
            have tm : ∀ u, u ∈ (nb x).take (i + 1) ↔ u ∈ (nb x).take i ∨ u = (nb x)[i] := fun u => by rw [tk, List.mem_append, List.mem_singleton]
            have tq : ∀ u, u ≠ (nb x)[i] → (if u ∈ (nb x).take i then wt x u else 0) = if u ∈ (nb x).take (i + 1) then wt x u else 0 := fun u hu => by
              by_cases h : u ∈ (nb x).take i
              · rw [if_pos h, if_pos ((tm u).mpr (.inl h))]
              · rw [if_neg h, if_neg (fun z => ((tm u).mp z).elim h hu)]
            refine ite2 (fun hin => ?_) (fun hin => ?_)
            · have hin : (nb x)[i] ∈ Vs.filter fun u => decide (u ∉ done ++ [x]) := by
                by_cases h : (nb x)[i] ∈ Vs.filter fun u => decide (u ∉ done ++ [x])
                · exact h
                · rw [if_neg h] at hin
                  cases hin
              refine ⟨_, rfl, _, rfl, l, _, rfl, get_d (.inl Ld) hin, _, rfl, _, _, rfl, rfl, _, put_d Ld hin sz, _, _, rfl, Ed.upd, tabs_mut Td Ld dk_tbl dk_code, ?_⟩
              rw [upd_same]
              congr 2
              refine dct_congr fun u hu => ?_
              by_cases e : u = (nb x)[i]
              · subst e
                rw [if_pos rfl, if_neg nin, if_pos ((tm _).mpr (.inr rfl)), Int.add_zero]
              · rw [if_neg e, tq u e]
            · have hin : (nb x)[i] ∉ Vs.filter fun u => decide (u ∉ done ++ [x]) := fun h => by
                rw [if_pos h] at hin
                exact hin rfl
              refine ⟨_, _, rfl, Ed, Td, ?_⟩
              rw [Ld]
              congr 2
              refine dct_congr fun u hu => ?_
              have e : u ≠ (nb x)[i] := fun e => hin (e ▸ hu)
              rw [tq u e]
          · rintro σ Hc ⟨x6, x7, rfl, Ec, Tc, Lc⟩
            rw [dct_len, List.take_length] at Lc
            have Zc := Ec _ _ Z9 nra fz_tbl
            refine ⟨Zc, done ++ [x], _, _, _, _, _, _, rfl, fun b o hb hne ht => ?_, tabs_mut Tc Zc fz_tbl fz_code, ?_, hP.snoc hxV hxd hbest, hTl.snoc x, ?_⟩
            · by_cases e : b = ad x
              · subst e
                rw [upd_same, ← hb, R.row x hxV]
              · rw [upd_ne e]
                exact Ec _ _ (fr _ _ (E9 _ _ hb hne ht) e) hne ht
            · rw [upd_ne (Ne.symm nra), Lc]
              unfold leftO
              congr 2
              exact dct_congr fun u _ => by rw [conn_snoc]
            · rw [← ek]
              refine List.length_filter_lt_length_iff_exists.mpr ⟨x, hxl, by simp⟩
      · -- the end
        have emp : (Vs.filter fun u => decide (u ∉ done)) = [] := by
          cases h : (Vs.filter fun u => decide (u ∉ done)) with
          | nil => rfl
          | cons y r =>
            rw [h] at hb
            exact absurd rfl hb
        have all : ∀ u ∈ Vs, u ∈ done := fun u hu => by
          by_cases h : u ∈ done
          · exact h
          · have z : u ∈ Vs.filter fun u => decide (u ∉ done) := List.mem_filter.mpr ⟨hu, decide_eq_true h⟩
            rw [emp] at z
            exact absurd z (by simp)
        have big : Vs.length ≤ done.length := (List.subset_def.mpr (fun {u} hu => all u hu) |> fun s => R.nd.length_le_of_subset s)
        rcases hTl with ⟨e, _⟩ | ⟨y, e, _⟩ | ⟨pre, y, z, e, rfl, rfl, rfl⟩
        · rw [e] at big
          simp only [List.length_nil] at big
          omega
        · rw [e] at big
          simp only [List.length_cons, List.length_nil] at big
          omega
        · refine ⟨_, rfl, _, rfl, _, rfl, by show 3 ≤ sizeLine; decide, fun p5 np5 => ?_⟩
          refine k p5 y z _ _ ((E6.trans (Ebut.of (Ext.of (same_upd np5)))).ext nlH) (tabs_put T6 np5) upd_same ⟨pre, by rw [← e]; exact hP, by rw [← e]; exact all, rfl⟩
end
end Wk
namespace Wk
open PySem PySem.Spec PyProof.Rows L2 WkD WkN LamX WkP
section
variable {P : Program} {w : World} {K : PySem.W.Frag} {mg : Str → Option Value} {base : Heap}
def spMerge : Sp := fun vs H Q _ => ∃ (a : Addr) (Vs : List Str) (ad : Str → Addr) (nb : Nb) (wt : Wt) (kept gone : Str), vs = [.ref a, .str kept, .str gone] ∧ RowsM H a Vs ad nb wt ∧ Sym Vs nb wt ∧ kept ∈ Vs ∧ gone ∈ Vs ∧ kept ≠ gone ∧ Vs.length < 1000 ∧
  ∀ nb' wt' H', RowsM H' a (Vs.filter fun y => decide (y ≠ gone)) ad nb' wt' → Merged nb wt kept gone (Vs.filter fun y => decide (y ≠ gone)) nb' wt' → (∀ b o, H b = some o → b ≠ a → (∀ u ∈ Vs, b ≠ ad u) → H' b = some o) → Q .non H'
theorem sc_merge_rows : FnScope ["rows", "kept", "gone", "v", "weight"] ["rows", "kept", "gone"] (defScope s_merge_rows) := ⟨rfl, rfl, rfl, by decide +kernel, rfl, by decide +kernel, by decide +kernel⟩
theorem c_merge_rows (D : Def K mg "merge_rows" s_merge_rows) : Callee P w K mg base CX0 1 "merge_rows" ["rows", "kept", "gone"] spMerge := by
  obtain ⟨f, fd, F, g⟩ := D
  refine ⟨f, fd, F.ok sc_merge_rows (fun vs H Q E h => ?_) (fun cdv A outer s H vs Q E hr h => ?_), g, F.kp, F.bindsN (fun _ _ _ _ _ _ us hl => match us, hl with | [_, _, _], _ => rfl)⟩
  · obtain ⟨a, Vs, ad, nb, wt, kept, gone, rfl, _⟩ := h
    rfl
  · have hu := hu_of hr
    have nd := sc_merge_rows.nd
    refine ⟨_, PSs.nox (pss_one (ps_lock (ps_for PassesOwn.never rfl (pi_items (pe_dpop1 (pv 0) (pv 2) ⟨rfl, rfl, rfl, rfl⟩)) (WkN.pgT K 2 rfl rfl (pgs_cons (pg_name (i := 3) nd rfl (Or.inl rfl)) (pgs_cons (pg_name (i := 4) nd rfl (Or.inl rfl)) pgs_nil)) rfl)
      (pss_cons (ps_ddel (pe_dget hu (pv 0) (pv 3) (fun _ _ => rfl)) (pv 2))
      (pss_one (ps_if (pt_cmpR op_ne (pv 3) (pv 1) (nomark _))
      (pss_one (ps_asg2 (pe_op op_add (pe_dget2 hu (pe_dget hu (pv 0) (pv 1) (fun _ _ => rfl)) (pv 3) pe_int ⟨rfl, rfl, rfl, rfl⟩) (pv 4)) (pg_sub (pe_dget hu (pv 0) (pv 1) (fun _ _ => rfl)) (pv 3) (set_dict hu) (fun _ => rfl)) (pg_sub (pe_dget hu (pv 0) (pv 3) (fun _ _ => rfl)) (pv 1) (set_dict hu) (fun _ => rfl)))) pss_nil)))))), ?_⟩
    obtain ⟨a, Vs, ad, nb, wt, kept, gone, rfl, R, sy, hk, hg, hne, hsz, k⟩ := h
    have nag := R.ne hg
    refine ⟨ad gone, _, R.row gone hg, trivial, fun od => ?_⟩
    have A1 : upd H (ad gone) (.frz od (.dK (dct (nb gone) fun v => .int (wt gone v)))) a = some (.dK (dct Vs fun u => .ref (ad u))) := by
      rw [upd_ne (Ne.symm nag)]
      exact R.top
    refine ⟨_, rfl, a, rfl, .inl ⟨_, .inl A1⟩, _, rfl, _, Sum.inr gone, _, A1, rfl, dct_in hg, ?_⟩
    rw [dct_drop]
    have mw : ∀ u, u ∈ (Vs.filter fun y => decide (y ≠ gone)) ↔ u ∈ Vs ∧ u ≠ gone := fun u => by
      rw [List.mem_filter, decide_eq_true_iff]
    have wl : (Vs.filter fun y => decide (y ≠ gone)).length ≤ Vs.length := List.length_filter_le _ _
    have hk' := (mw kept).mpr ⟨hk, hne⟩
    obtain ⟨Ws, eW⟩ : ∃ Ws, Ws = Vs.filter fun y => decide (y ≠ gone) := ⟨_, rfl⟩
    rw [← eW] at mw wl hk' ⊢
    generalize hh : upd (upd H (ad gone) (.frz od (.dK (dct (nb gone) fun v => .int (wt gone v))))) a (.dK (dct Ws fun u => .ref (ad u))) = H1
    have Z1 : H1 (ad gone) = some (.frz od (.dK (dct (nb gone) fun v => .int (wt gone v)))) := by
      rw [← hh, upd_ne nag, upd_same]
    have R1 : RowsM H1 a Ws ad nb wt := by
      refine ⟨by rw [← hh, upd_same], fun u hu => ?_, fun u hu v hv => R.inj u ((mw u).mp hu).1 v ((mw v).mp hv).1, by rw [eW]; exact R.nd.filter _⟩
      obtain ⟨h1, h2⟩ := (mw u).mp hu
      rw [← hh, upd_ne (R.ne h1), upd_ne (fun z => h2 (R.inj u h1 gone hg z))]
      exact R.row u h1
    have F1 : ∀ b o, H b = some o → b ≠ a → (∀ u ∈ Vs, b ≠ ad u) → H1 b = some o := fun b o hb h1 h2 => by
      rw [← hh, upd_ne h1, upd_ne (h2 gone hg)]
      exact hb
    clear hh A1
    refine ⟨ad gone, od, _, rfl, Z1, ?_⟩
    have nbl : ∀ (nbi : Nb) (wti : Wt) (S : List Str), Mp nb wt kept gone Ws S nbi wti → (∀ y ∈ S, y ∈ Vs) → ∀ u ∈ Ws, (nbi u).length < sizeLine := fun nbi wti S m hS u hu => by
      have sub : (nbi u).Subset Vs := fun y hy => by
        have h1 := (m.mem u hu y).mp hy
        have h2 := sy.mem u ((mw u).mp hu).1 y
        rcases h1 with ⟨rfl, _⟩ | ⟨_, h | ⟨_, h, _⟩ | ⟨rfl, _⟩⟩
        · exact hg
        · exact (h2 h).1
        · exact hS y h
        · exact hk
      exact Nat.lt_of_le_of_lt ((m.nd u hu).length_le_of_subset sub) (Nat.lt_trans hsz (by decide))
    refine for_it (walk_items (kvs := dct (nb gone) fun v => .int (wt gone v))) (fun i σ Hc => ∃ (x3 x4 : Option V) (nbi : Nb) (wti : Wt), σ = [some (.ref a), some (.str kept), some (.str gone), x3, x4] ∧ RowsM Hc a Ws ad nbi wti ∧ Mp nb wt kept gone Ws ((nb gone).take i) nbi wti ∧
      Hc (ad gone) = some (.frz od (.dK (dct (nb gone) fun v => .int (wt gone v)))) ∧ ∀ b o, H b = some o → b ≠ a → (∀ u ∈ Vs, b ≠ ad u) → Hc b = some o) ⟨none, none, nb, wt, rfl, R1, Mp.start sy fun u hu => ((mw u).mp hu).1, Z1, F1⟩ ?_ ?_ ?_
    · rintro i σ Hc hi ⟨x3, x4, nbi, wti, rfl, Rc, Mc, Zc, Fc⟩
      exact Zc
    · rintro i y σ Hc Hc' hi ⟨x3, x4, nbi, wti, rfl, Rc, Mc, Zc, Fc⟩ ⟨T, kx, vx, rfl, nT, rfl, hkx, hvx⟩
      rw [dct_len] at hi
      dsimp only at hkx hvx
      rw [dct_at, List.getElem?_eq_getElem hi] at hkx hvx
      cases hkx
      cases hvx
      obtain ⟨v, ev⟩ : ∃ v, v = (nb gone)[i] := ⟨_, rfl⟩
      have hvg : v ∈ nb gone := by
        rw [ev]
        exact List.getElem_mem hi
      have tk : (nb gone).take (i + 1) = (nb gone).take i ++ [v] := by
        rw [ev]
        exact takeS (List.getElem?_eq_getElem hi)
      have nin : v ∉ (nb gone).take i := fun z => by
        obtain ⟨j, hj, e⟩ := List.mem_iff_getElem.mp z
        rw [List.length_take] at hj
        rw [List.getElem_take, ev] at e
        have := (List.getElem_inj (sy.nd gone hg)).mp e
        omega
      rw [← ev]
      obtain ⟨hvV, hvne, hgv, hwv⟩ := sy.mem gone hg v hvg
      have hvW := (mw v).mpr ⟨hvV, hvne⟩
      have sT : Same Hc (upd Hc T (.tup [.str v, .int (wt gone v)])) := same_upd nT
      have Rd := Rc.ext (Ext.of sT)
      have Zd := sT _ _ Zc
      have Fd : ∀ b o, H b = some o → b ≠ a → (∀ u ∈ Vs, b ≠ ad u) → upd Hc T (.tup [.str v, .int (wt gone v)]) b = some o := fun b o h1 h2 h3 => sT _ _ (Fc b o h1 h2 h3)
      have Pd : upd Hc T (.tup [.str v, .int (wt gone v)]) T = some (.tup [.str v, .int (wt gone v)]) := upd_same
      show gTup _ _ _ _ _ (upd Hc T (.tup [.str v, .int (wt gone v)])) _
      generalize upd Hc T (.tup [.str v, .int (wt gone v)]) = Hd at Rd Zd Fd Pd
      refine ⟨T, _, rfl, .inl (.inl Pd), rfl, _, _, rfl, _, _, rfl, rfl, ?_⟩
      have hgi : gone ∈ nbi v := (Mc.mem v hvW gone).mpr (.inl ⟨rfl, hgv, nin⟩)
      refine ⟨_, rfl, _, rfl, a, _, rfl, get_d (.inl Rd.top) hvW, _, rfl, ad v, _, Sum.inr gone, rfl, Rd.row v hvW, rfl, by rw [dct_in hgi]; rfl, ?_⟩
      rw [dct_drop]
      have Re := Rd.put hvW ((nbi v).filter fun y => decide (y ≠ gone)) (wti v)
      have nvg : ad gone ≠ ad v := fun z => hvne (R.inj gone hg v hvV z).symm
      have Ze : upd Hd (ad v) (.dK (dct ((nbi v).filter fun y => decide (y ≠ gone)) fun y => .int (wti v y))) (ad gone) = some (.frz od (.dK (dct (nb gone) fun v => .int (wt gone v)))) := by
        rw [upd_ne nvg]
        exact Zd
      have Fe : ∀ b o, H b = some o → b ≠ a → (∀ u ∈ Vs, b ≠ ad u) → upd Hd (ad v) (.dK (dct ((nbi v).filter fun y => decide (y ≠ gone)) fun y => .int (wti v y))) b = some o := fun b o h1 h2 h3 => by
        rw [upd_ne (h3 v hvV)]
        exact Fd b o h1 h2 h3
      generalize upd Hd (ad v) (.dK (dct ((nbi v).filter fun y => decide (y ≠ gone)) fun y => .int (wti v y))) = He at Re Ze Fe
      have hS : ∀ y ∈ (nb gone).take i, y ∈ Vs := fun y hy => (sy.mem gone hg y (List.mem_of_mem_take hy)).1
      have Re : RowsM He a Ws ad (up nbi v ((nbi v).filter fun y => decide (y ≠ gone))) wti := Re.as (fun u _ => rfl) fun u _ y _ => by
        show (if u = v then wti v y else wti u y) = wti u y
        split
        · rename_i e
          rw [e]
        · rfl
      have sw : (nb gone).take (i + 1) = (nb gone).take i ++ [v] := tk
      refine ⟨_, rfl, _, rfl, rfl, _, rfl, ?_⟩
      have e0 : decide (V.str v = V.str kept) = decide (v = kept) := by
        by_cases h : v = kept
        · rw [decide_eq_true h, decide_eq_true (by rw [h])]
        · rw [decide_eq_false h, decide_eq_false (fun z => h (V.str.inj z))]
      rw [e0]
      refine ite2 (fun h1 => ?_) (fun h1 => ?_)
      · have hvk : v ≠ kept := fun e => by
          rw [decide_eq_true e] at h1
          cases h1
        have rk : He (ad kept) = some (.dK (dct (nbi kept) fun y => .int (wti kept y))) := by
          have z := Re.row kept hk'
          unfold up at z
          rw [if_neg (Ne.symm hvk)] at z
          exact z
        have sk := nbl nbi wti _ Mc hS kept hk'
        have svv := nbl nbi wti _ Mc hS v hvW
        obtain ⟨n, hn⟩ : ∃ n : Int, n = (if v ∈ nbi kept then wti kept v else 0) + wt gone v := ⟨_, rfl⟩
        refine ⟨_, rfl, _, rfl, a, _, rfl, get_d (.inl Re.top) hk', ad kept, rfl, .inl ⟨_, .inl rk⟩, _, rfl, _, get_x (.inl rk), _, rfl, (if v ∈ nbi kept then wti kept v else 0), _, ?_, rfl, ?_⟩
        · split <;> rfl
        dsimp only
        rw [← hn]
        refine ⟨_, rfl, _, rfl, a, _, rfl, get_d (.inl Re.top) hk', _, rfl, ad kept, _, rfl, putI rk sk, ?_⟩
        have Rf := Re.put hk' (add (nbi kept) v) (fun y => if y = v then n else wti kept y)
        have nkg : ad gone ≠ ad kept := fun z => hne (R.inj gone hg kept hk z).symm
        have Zf : upd He (ad kept) (.dK (dct (add (nbi kept) v) fun y => .int (if y = v then n else wti kept y))) (ad gone) = some (.frz od (.dK (dct (nb gone) fun v => .int (wt gone v)))) := by
          rw [upd_ne nkg]
          exact Ze
        have Ff : ∀ b o, H b = some o → b ≠ a → (∀ u ∈ Vs, b ≠ ad u) → upd He (ad kept) (.dK (dct (add (nbi kept) v) fun y => .int (if y = v then n else wti kept y))) b = some o := fun b o h1 h2 h3 => by
          rw [upd_ne (h3 kept hk)]
          exact Fe b o h1 h2 h3
        generalize upd He (ad kept) (.dK (dct (add (nbi kept) v) fun y => .int (if y = v then n else wti kept y))) = Hf at Rf Zf Ff
        have rv : Hf (ad v) = some (.dK (dct ((nbi v).filter fun y => decide (y ≠ gone)) fun y => .int (wti v y))) := by
          have z := Rf.row v hvW
          unfold up at z
          rw [if_neg hvk, if_pos rfl] at z
          rw [z, dct_congr (g' := fun y => V.int (wti v y)) fun y _ => by rw [if_neg hvk]]
        refine ⟨_, rfl, _, rfl, a, _, rfl, get_d (.inl Rf.top) hvW, _, rfl, ad v, _, rfl, putI rv (Nat.lt_of_le_of_lt (List.length_filter_le _ _) svv), ?_⟩
        have Rg := Rf.put hvW (add ((nbi v).filter fun y => decide (y ≠ gone)) kept) (fun y => if y = kept then n else wti v y)
        refine ⟨_, _, _, _, rfl, Rg.as (nb' := up (up (up nbi v ((nbi v).filter fun y => decide (y ≠ gone))) kept (add (nbi kept) v)) v (add ((nbi v).filter fun y => decide (y ≠ gone)) kept)) (wt' := upw (upw wti kept fun y => if y = v then n else wti kept y) v fun y => if y = kept then n else wti v y) (fun u _ => rfl) (fun u _ y _ => rfl), ?_, ?_, ?_⟩
        · rw [sw]
          exact Mc.atOther sy (fun u hu => ((mw u).mp hu).1) hk' hne hvW nin hvk hvne hgv hn
        · rw [upd_ne nvg]
          exact Zf
        · intro b o h1 h2 h3
          rw [upd_ne (h3 v hvV)]
          exact Ff b o h1 h2 h3
      · have hvk : v = kept := by
          by_cases h : v = kept
          · exact h
          · rw [decide_eq_false h] at h1
            exact absurd rfl h1
        subst hvk
        refine ⟨_, _, _, _, rfl, Re, ?_, Ze, Fe⟩
        rw [sw]
        exact Mc.atKept sy (fun u hu => ((mw u).mp hu).1) hk' hne
    · rintro σ Hc ⟨x3, x4, nbi, wti, rfl, Rc, Mc, Zc, Fc⟩
      rw [dct_len, List.take_length] at Mc
      refine ⟨Zc, ?_⟩
      rw [eW] at Mc Rc
      have ng : ∀ u ∈ (Vs.filter fun y => decide (y ≠ gone)), ad u ≠ ad gone := fun u hu z => by
        have h := List.mem_filter.mp hu
        have h2 : u ≠ gone := of_decide_eq_true h.2
        exact h2 (R.inj u h.1 gone hg z)
      refine k nbi wti _ ⟨by rw [upd_ne (Ne.symm nag)]; exact Rc.top, fun u hu => by rw [upd_ne (ng u hu)]; exact Rc.row u hu, Rc.inj, Rc.nd⟩ (Mp.done sy hk hg hne Mc) fun b o h1 h2 h3 => ?_
      rw [upd_ne (h3 gone hg)]
      exact Fc b o h1 h2 h3
end
end Wk
namespace Wk
open PySem PySem.Spec PyProof.Rows L2 WkD WkN LamX WkP
structure GAt (K : PySem.W.Frag) (H : Hp) (g C dx : Addr) (fs : List (Str × V)) (a : Addr) (top : Str) : Prop where
  ins : H g = some (.ins C dx fs)
  cls : Cls K C
  na : NoAttr K C "around"
  nt : NoAttr K C "top"
  la : fs.lookup ("around" : Str) = some (.ref a)
  lt : fs.lookup ("top" : Str) = some (.str top)
theorem GAt.ext {K : PySem.W.Frag} {H H' : Hp} {g C dx : Addr} {fs : List (Str × V)} {a : Addr} {top : Str} (x : GAt K H g C dx fs a top) (e : Ext H H') : GAt K H' g C dx fs a top := ⟨e _ _ x.ins (fun ps z => by cases z), x.cls, x.na, x.nt, x.la, x.lt⟩
section
variable {P : Program} {w : World} {K : PySem.W.Frag} {mg : Str → Option Value} {base : Heap}
def spSide (K : PySem.W.Frag) : Sp := fun vs H Q _ => ∃ (g C dx : Addr) (fs : List (Str × V)) (a m : Addr) (top : Str) (Vs ms : List Str) (ad : Str → Addr) (o : Obj), vs = [.ref g, .ref m] ∧ GAt K H g C dx fs a top ∧ H a = some (.frz o (.dK (dct Vs fun u => .ref (ad u)))) ∧ Vs.length < 1000 ∧ (SqL K H m (ms.map V.str) ∨ SqT K H m (ms.map V.str)) ∧
  ∀ p H', Same H H' → H p = none → H' p = some (.tup ((sideL top Vs ms).map V.str)) → Q (.ref p) H'
theorem sc_side_of : FnScope ["graph", "members", "is_outside", "vertex"] ["graph", "members"] (defScope s_side_of) := ⟨rfl, rfl, rfl, by decide +kernel, rfl, by decide +kernel, by decide +kernel⟩
theorem c_side_of (D : Def K mg "side_of" s_side_of) (B : Bi mg) : Callee P w K mg base CX0 1 "side_of" ["graph", "members"] (spSide K) := by
  obtain ⟨f, fd, F, g⟩ := D
  refine ⟨f, fd, F.ok sc_side_of (fun vs H Q E h => ?_) (fun cdv A outer s H vs Q E hr h => ?_), g, F.kp, F.bindsN (fun _ _ _ _ _ _ us hl => match us, hl with | [_, _], _ => rfl)⟩
  · obtain ⟨g, C, dx, fs, a, m, top, Vs, ms, ad, o, rfl, _⟩ := h
    rfl
  · have nd := sc_side_of.nd
    refine ⟨_, PSs.nox (pss_cons (ps_set (i := 2) nd rfl (Or.inr rfl) (pe_cmpR (WkN.opIn K (by rfl)) (pe_fld (pv 0) rfl) (pv 1) (by rfl)))
      (pss_one (ps_ret (pe_callTy call_tuple_of (by rfl) B.n_tuple (by decide +kernel) (pa_cons (pe_lc (own := [("vertex", 3)]) (by rfl) nd (pi_keys (pe_fld (pv 0) rfl)) (blkOk_by (by kernel_rfl)) (fun _ _ _ _ _ => (pg_name (i := 3) nd rfl (Or.inl rfl))) (fun _ _ _ _ _ => (pts_one (pt_cmpR op_ne (pe_cmpR (WkN.opIn K (by rfl)) (pv 3) (pv 1) (by rfl)) (pv 2) (nomark _)))) (fun _ _ _ _ _ => (pv 3))) pa_nil))))), ?_⟩
    obtain ⟨g, C, dx, fs, a, m, top, Vs, ms, ad, o, rfl, G, hA, hl, hm, k⟩ := h
    refine ⟨_, rfl, g, C, dx, fs, _, rfl, G.ins, G.cls, G.nt, G.lt, _, rfl, m, _, rfl, hm, rfl, flat_str, ?_⟩
    rw [if_neg (by decide), inV_str]
    refine ⟨_, rfl, g, C, dx, fs, _, rfl, G.ins, G.cls, G.na, G.la, a, o, rfl, .inl ⟨_, hA, fun D nD => ?_⟩⟩
    have sD : ∀ l : List V, Same H (upd H D (.lst l)) := fun l => same_upd nD
    refine lc_it (walk_keys (kvs := dct Vs fun u => .ref (ad u))) (fun i H2 => H2 = upd H D (.lst ((sideL top (Vs.take i) ms).map V.str))) rfl ?_ ?_ ?_
    · rintro i H2 hi rfl
      exact sD _ _ _ hA
    · rintro i x H2 H2' hi rfl ⟨rfl, k0, v0, hk, rfl⟩
      rw [dct_len] at hi
      rw [dct_at, List.getElem?_eq_getElem hi] at hk
      cases hk
      have hm' : SqL K (upd H D (.lst ((sideL top (Vs.take i) ms).map V.str))) m (ms.map V.str) ∨ SqT K (upd H D (.lst ((sideL top (Vs.take i) ms).map V.str))) m (ms.map V.str) := hm.imp (fun z => (sD _).seq z) (fun z => WkG.seqT_same (sD _) z)
      refine ⟨rfl, _, rfl, _, rfl, m, _, rfl, hm', rfl, flat_str, ?_⟩
      have e7 : inV (kV (Sum.inr Vs[i])) (ms.map V.str) = decide (Vs[i] ∈ ms) := inV_str
      rw [if_neg (by decide), e7]
      have tk : sideL top (Vs.take (i + 1)) ms = sideL top (Vs.take i) ms ++ (if (!decide (V.bl (decide (Vs[i] ∈ ms)) = V.bl (decide (top ∈ ms)))) = true then [Vs[i]] else []) := by
        unfold sideL
        rw [takeS (List.getElem?_eq_getElem hi), List.filter_append]
        congr 1
        rw [List.filter_cons, List.filter_nil]
      refine ⟨_, rfl, rfl, _, rfl, ?_⟩
      rw [tk]
      refine ite2 (fun h1 => ?_) (fun h1 => ?_)
      · refine ⟨_, rfl, _, upd_same, ?_, ?_⟩
        · rw [List.length_map]
          refine Nat.lt_of_le_of_lt (List.length_filter_le _ _) ?_
          rw [List.length_take]
          exact Nat.lt_of_le_of_lt (Nat.min_le_right _ _) (Nat.lt_trans hl (by decide))
        · rw [upd_upd, if_pos h1, List.map_append]
          rfl
      · rw [if_neg h1, List.append_nil]
    · rintro H2 rfl
      rw [dct_len, List.take_length]
      refine ⟨D, _, rfl, .inl ⟨SqL.of upd_same, fun p np => ?_⟩⟩
      have npH : H p = none := by
        have e : p ≠ D := fun z => by
          rw [z, upd_same] at np
          cases np
        rw [upd_ne e] at np
        exact np
      exact k p _ ((sD _).trans (same_upd np)) npH upd_same
end
end Wk
namespace Wk
open PySem PySem.Spec PyProof.Rows L2 WkD WkN LamX WkP
section
variable {P : Program} {w : World} {K : PySem.W.Frag} {mg : Str → Option Value} {base : Heap}
def spLeast (K : PySem.W.Frag) (T : List (Addr × Str)) : Sp := fun vs H Q _ => ∃ (g C dx : Addr) (fs : List (Str × V)) (a : Addr) (top : Str) (Vs : List Str) (ad : Str → Addr) (nb : Nb) (wt : Wt), vs = [.ref g] ∧ GAt K H g C dx fs a top ∧ RowsZ H a Vs ad nb wt ∧ Vs.Nodup ∧ Sym Vs nb wt ∧ 2 ≤ Vs.length ∧ Vs.length < 1000 ∧ Tabs T H ∧
  ∀ p q n ms H', Ext H H' → Tabs T H' → H' p = some (.tup [.int n, .ref q]) → H' q = some (.tup ((sideL top Vs ms).map V.str)) → LeastCut Vs nb wt n ms → Q (.ref p) H'
structure Cop (H : Hp) (ra : Addr) (nb : Nb) (wt : Wt) (ks : List Str) (ad : Str → Addr) (H2 : Hp) : Prop where
  rows : RowsM H2 ra ks ad nb wt
  keep : But ra H H2
  new : ∀ u ∈ ks, H (ad u) = none
structure Grp (H : Hp) (ga : Addr) (gad : Str → Addr) (Vs : List Str) (grp : Str → List Str) : Prop where
  top : H ga = some (.dK (dct Vs fun u => .ref (gad u)))
  lst : ∀ u ∈ Vs, H (gad u) = some (.lst ((grp u).map V.str))
def BestH (H : Hp) (gad : Str → Addr) (Vs : List Str) (bv : V) : Option (Int × List Str) → Prop
  | none => bv = .non
  | some (n, ms) => ∃ bp ml, bv = .ref bp ∧ H bp = some (.tup [.int n, .ref ml]) ∧ H ml = some (.lst (ms.map V.str)) ∧ ∀ u ∈ Vs, ml ≠ gad u
theorem BestH.ext {H H' : Hp} {gad : Str → Addr} {Vs : List Str} {bv : V} {best : Option (Int × List Str)} (b : BestH H gad Vs bv best) (e : ∀ c o, H c = some o → (∃ xs, o = .tup xs) ∨ (∃ xs, o = .lst xs ∧ ∀ u ∈ Vs, c ≠ gad u) → H' c = some o) : BestH H' gad Vs bv best := by
  cases best with
  | none => exact b
  | some x =>
    obtain ⟨n, ms⟩ := x
    obtain ⟨bp, ml, h1, h2, h3, h4⟩ := b
    exact ⟨bp, ml, h1, e _ _ h2 (.inl ⟨_, rfl⟩), e _ _ h3 (.inr ⟨_, rfl, h4⟩), h4⟩
theorem sc_least_cut : FnScope ["graph", "rows", "groups", "u", "row", "best", "ahead", "last", "weight"] ["graph"] (defScope s_least_cut) := ⟨rfl, rfl, rfl, by decide +kernel, rfl, by decide +kernel, by decide +kernel⟩
theorem c_least_cut {tbT : List (Addr × Str)} (D : Def K mg "least_cut" s_least_cut) (B : Bi mg) (CL : Callee P w K mg base CX0 3 "last_two" ["rows"] (spLast tbT)) (CM : Callee P w K mg base CX0 1 "merge_rows" ["rows", "kept", "gone"] spMerge) (CS : Callee P w K mg base CX0 1 "side_of" ["graph", "members"] (spSide K)) :
    Callee P w K mg base CX0 4 "least_cut" ["graph"] (spLeast K tbT) := by
  obtain ⟨f, fd, F, g⟩ := D
  refine ⟨f, fd, F.ok sc_least_cut (fun vs H Q E h => ?_) (fun cdv A outer s H vs Q E hr h => ?_), g, F.kp, F.bindsN (fun _ _ _ _ _ _ us hl => match us, hl with | [_], _ => rfl)⟩
  · obtain ⟨g, C, dx, fs, a, top, Vs, ad, nb, wt, rfl, _⟩ := h
    rfl
  · have hu := hu_of hr
    have nd := sc_least_cut.nd
    have hr3 : Room 3 _ := hr
    have hr1 : Room 1 _ := hr.mono (by decide)
    refine ⟨_, PSs.nox (pss_cons (ps_par (i := 1) (j := 2) (by rfl) nd rfl rfl (by decide) rfl rfl (pa_cons (pe_dc (own := [("u", 3), ("row", 4)]) (by rfl) nd (pi_items (pe_fld (pv 0) rfl)) (blkOk_by (by kernel_rfl)) (fun _ _ _ _ _ => (WkN.pgT K 2 rfl rfl (pgs_cons (pg_name (i := 3) nd rfl (Or.inl rfl)) (pgs_cons (pg_name (i := 4) nd rfl (Or.inl rfl)) pgs_nil)) rfl)) (fun _ _ _ _ _ => pts_nil) (fun _ _ _ _ _ => (pv 3)) (fun _ _ _ _ _ => (WkD.pe_dstar (pv 4)))) (pa_cons (pe_dc (own := [("u", 3)]) (by rfl) nd (pi_keys (pe_fld (pv 0) rfl)) (blkOk_by (by kernel_rfl)) (fun _ _ _ _ _ => (pg_name (i := 3) nd rfl (Or.inl rfl))) (fun _ _ _ _ _ => pts_nil) (fun _ _ _ _ _ => (pv 3)) (fun _ _ _ _ _ => (pe_lst (pa_cons (pv 3) pa_nil)))) pa_nil)) (by rfl))
      (pss_cons (ps_set (i := 5) nd rfl (Or.inl rfl) pe_non)
      (pss_cons (ps_while PassesOwn.never (pt_cmpR op_gt (pe_callB call_lenD (by rfl) B.n_len boot_len (pa_cons (pv 1) pa_nil)) pe_int (nomark _))
      (pss_cons (ps_asg (pe_c CL hr3 pass0 (pa_cons (pv 1) pa_nil)) (WkN.pgT K 3 rfl rfl (pgs_cons (pg_name (i := 6) nd rfl (Or.inl rfl)) (pgs_cons (pg_name (i := 7) nd rfl (Or.inl rfl)) (pgs_cons (pg_name (i := 8) nd rfl (Or.inl rfl)) pgs_nil))) rfl))
      (C8.pss_cut (ps_if (PW.pt (pw_or (pt_cmpR op_isN (pv 5) pe_non (nomark _)) (pw_or1 (pt_cmpR op_lt (pv 8) (pe_ix ix_tup (pv 5) pe_int (fun _ _ => rfl)) (nomark _)))))
      (pss_one (ps_set (i := 5) nd rfl (Or.inl rfl) (pe_tup (pa_cons (pv 8) (pa_cons (pe_callTy call_list_of (by rfl) B.n_list (by decide +kernel) (pa_cons (pe_dget hu (pv 2) (pv 7) (fun _ _ => rfl)) pa_nil)) pa_nil))))) pss_nil)
      (pss_cons (ps_expr (pe_c CM hr1 pass0 (pa_cons (pv 1) (pa_cons (pv 6) (pa_cons (pv 7) pa_nil)))))
      (pss_one (ps_expr (pe_bm PySem.F.plainAttrs_list PySem.F.slot_list_extend PySem.F.type_list_extend mt_extend (pe_dget hu (pv 2) (pv 6) (fun _ _ => rfl)) (pa_cons (pe_dget hu (pv 2) (pv 7) (fun _ _ => rfl)) pa_nil))))))))
      (pss_one (ps_ret (pe_tup (pa_cons (pe_ix ix_tup (pv 5) pe_int (fun _ _ => rfl)) (pa_cons (pe_c CS hr1 pass0 (pa_cons (pv 0) (pa_cons (pe_ix ix_tup (pv 5) pe_int (fun _ _ => rfl)) pa_nil))) pa_nil)))))))), ?_⟩
    obtain ⟨g, C, dx, fs, a, top, Vs, ad0, nb, wt, rfl, G, RZ, hVn, sy, h2, hsz, hT, k⟩ := h
    obtain ⟨oa, hA⟩ := RZ.top
    have tkN : ∀ i (h : i < Vs.length), Vs[i] ∉ Vs.take i := fun i h z => by
      obtain ⟨j, hj, e⟩ := List.mem_iff_getElem.mp z
      rw [List.length_take] at hj
      rw [List.getElem_take] at e
      have := (List.getElem_inj hVn).mp e
      omega
    have tkL : ∀ i, (Vs.take i).length < sizeLine := fun i => by
      rw [List.length_take]
      exact Nat.lt_of_le_of_lt (Nat.min_le_right _ _) (Nat.lt_trans hsz (by decide))
    refine ⟨_, rfl, g, C, dx, fs, _, rfl, G.ins, G.cls, G.na, G.la, a, oa, _, rfl, hA, fun ra nra => ?_⟩
    refine dc_it (walk_items (kvs := dct Vs fun u => .ref (ad0 u))) (fun i H2 => ∃ ad, Cop H ra nb wt (Vs.take i) ad H2) ⟨ad0, ⟨upd_same, fun u hu => absurd hu (by simp), fun u hu => absurd hu (by simp), by simp⟩, fun b o hb hne => by rw [upd_ne hne]; exact hb, fun u hu => absurd hu (by simp)⟩ ?_ ?_ ?_
    · rintro i H2 hi ⟨ad, cp⟩
      exact cp.keep _ _ hA (ne_of_none hA nra)
    · rintro i x H2 H2' hi ⟨ad, cp⟩ ⟨T, kx, vx, rfl, nT, rfl, hkx, hvx⟩
      rw [dct_len] at hi
      dsimp only at hkx hvx
      rw [dct_at, List.getElem?_eq_getElem hi] at hkx hvx
      cases hkx
      cases hvx
      obtain ⟨u, eu⟩ : ∃ u, u = Vs[i] := ⟨_, rfl⟩
      have hnu := tkN i hi
      have tk := takeS (List.getElem?_eq_getElem hi)
      have huV : u ∈ Vs := eu ▸ List.getElem_mem hi
      rw [← eu] at hnu tk ⊢
      obtain ⟨ou, hU⟩ := RZ.row u huV
      have sT : Same H2 (upd H2 T (.tup [.str u, .ref (ad0 u)])) := same_upd nT
      have PT' : upd H2 T (.tup [.str u, .ref (ad0 u)]) T = some (.tup [.str u, .ref (ad0 u)]) := upd_same
      show gTup _ _ _ _ _ (upd H2 T (.tup [.str u, .ref (ad0 u)])) _
      generalize upd H2 T (.tup [.str u, .ref (ad0 u)]) = H3 at sT PT'
      refine ⟨T, _, rfl, .inl (.inl PT'), rfl, _, _, rfl, _, _, rfl, rfl, rfl, tYes_if ?_⟩
      refine ⟨_, rfl, fun p np => ⟨_, rfl, ?_⟩⟩
      have hU3 : H3 (ad0 u) = some (.frz ou (.dK (dct (nb u) fun v => .int (wt u v)))) := sT _ _ (cp.keep _ _ hU (ne_of_none hU nra))
      have nup : ad0 u ≠ p := ne_of_none hU3 np
      refine ⟨ad0 u, _, rfl, upd_same, nup, .inr ⟨ou, by rw [upd_ne nup]; exact hU3⟩, ?_⟩
      rw [upd_upd]
      have hra3 : H3 ra = some (.dK (dct (Vs.take i) fun u => .ref (ad u))) := sT _ _ cp.rows.top
      have npr : ra ≠ p := ne_of_none hra3 np
      have npH : H p = none := by
        cases e : H p with
        | none => rfl
        | some o =>
          have z := sT _ _ (cp.keep _ _ e (Ne.symm npr))
          rw [np] at z
          cases z
      refine ⟨_, Sum.inr u, rfl, by rw [upd_ne npr]; exact hra3, by rw [dct_len]; exact tkL i, fun y => if y = u then p else ad y, ?_⟩
      rw [dct_put_new hnu, tk]
      have e1 : dct (Vs.take i ++ [u]) (fun y => if y = u then V.ref p else V.ref (ad y)) = dct (Vs.take i ++ [u]) fun y => V.ref (if y = u then p else ad y) := dct_congr fun y _ => by split <;> rfl
      rw [e1]
      have at_ : ∀ y ∈ Vs.take i, H3 (ad y) = some (.dK (dct (nb y) fun v => .int (wt y v))) := fun y hy => sT _ _ (cp.rows.row y hy)
      have mm : ∀ y, y ∈ Vs.take i ++ [u] → (y = u ∧ (if y = u then p else ad y) = p) ∨ (y ∈ Vs.take i ∧ y ≠ u ∧ (if y = u then p else ad y) = ad y) := fun y hy => by
        by_cases e : y = u
        · exact .inl ⟨e, if_pos e⟩
        · rcases List.mem_append.mp hy with h | h
          · exact .inr ⟨h, e, if_neg e⟩
          · exact absurd (List.mem_singleton.mp h) e
      refine ⟨⟨upd_same, fun y hy => ?_, fun y hy z hz e => ?_, ?_⟩, fun b o hb hne => ?_, fun y hy => ?_⟩
      · rcases mm y hy with ⟨h1, h2⟩ | ⟨h1, h2, h3⟩
        · rw [h2, upd_ne (Ne.symm npr), upd_same, h1]
        · rw [h3, upd_ne (fun q => cp.rows.ne h1 q), upd_ne (ne_of_none (at_ y h1) np)]
          exact at_ y h1
      · rcases mm y hy with ⟨h1, h2⟩ | ⟨h1, h2, h3⟩
        · rcases mm z hz with ⟨g1, g2⟩ | ⟨g1, g2, g3⟩
          · rw [h1, g1]
          · rw [h2, g3] at e
            exact absurd e.symm (ne_of_none (at_ z g1) np)
        · rcases mm z hz with ⟨g1, g2⟩ | ⟨g1, g2, g3⟩
          · rw [h3, g2] at e
            exact absurd e (ne_of_none (at_ y h1) np)
          · rw [h3, g3] at e
            exact cp.rows.inj y h1 z g1 e
      · rw [List.nodup_append]
        refine ⟨cp.rows.nd, by simp, fun a1 h1 b1 h3 e => ?_⟩
        have h3 : b1 = u := by simpa using h3
        rw [e, h3] at h1
        exact hnu h1
      · rw [upd_ne hne, upd_ne (ne_of_none hb npH)]
        exact sT _ _ (cp.keep _ _ hb hne)
      · rcases mm y hy with ⟨h1, h2⟩ | ⟨h1, h2, h3⟩
        · rw [h2]
          exact npH
        · rw [h3]
          exact cp.new y h1
    · rintro H1 ⟨ad, cp⟩
      rw [dct_len, List.take_length] at cp
      have fr1 : ∀ b o, H b = some o → H1 b = some o := fun b o hb => cp.keep b o hb (ne_of_none hb nra)
      have hA1 := fr1 _ _ hA
      have G1 := G.ext (Ext.of fr1)
      have T1 : Tabs tbT H1 := hT.ext fr1
      refine ⟨_, rfl, g, C, dx, fs, _, rfl, G1.ins, G1.cls, G1.na, G1.la, a, oa, rfl, .inl ⟨_, hA1, fun ga nga => ?_⟩⟩
      refine dc_it (walk_keys (kvs := dct Vs fun u => .ref (ad0 u))) (fun i H2 => ∃ gad : Str → Addr, Grp H2 ga gad (Vs.take i) (fun u => [u]) ∧ But ga H1 H2 ∧ (∀ u ∈ Vs.take i, H1 (gad u) = none) ∧ ∀ u ∈ Vs.take i, ∀ v ∈ Vs.take i, gad u = gad v → u = v) ⟨ad0, ⟨upd_same, fun u hu => absurd hu (by simp)⟩, fun b o hb hne => by rw [upd_ne hne]; exact hb, fun u hu => absurd hu (by simp), fun u hu => absurd hu (by simp)⟩ ?_ ?_ ?_
      · rintro i H2 hi ⟨gad, g2, b2, n2, j2⟩
        exact b2 _ _ hA1 (ne_of_none hA1 nga)
      · rintro i x H2 H2' hi ⟨gad, g2, b2, n2, j2⟩ ⟨rfl, k0, v0, hk, rfl⟩
        rw [dct_len] at hi
        rw [dct_at, List.getElem?_eq_getElem hi] at hk
        cases hk
        obtain ⟨u, eu⟩ : ∃ u, u = Vs[i] := ⟨_, rfl⟩
        have hnu := tkN i hi
        have tk := takeS (List.getElem?_eq_getElem hi)
        rw [← eu] at hnu tk ⊢
        refine ⟨rfl, tYes_if ?_⟩
        refine ⟨_, rfl, _, rfl, by show 1 ≤ sizeLine; decide, fun p np => ?_⟩
        have npg : ga ≠ p := ne_of_none g2.top np
        have npH : H1 p = none := by
          cases e : H1 p with
          | none => rfl
          | some o =>
            have z := b2 _ _ e (Ne.symm npg)
            rw [np] at z
            cases z
        refine ⟨_, Sum.inr u, rfl, by rw [upd_ne npg]; exact g2.top, by rw [dct_len]; exact tkL i, fun y => if y = u then p else gad y, ?_⟩
        rw [dct_put_new hnu, tk]
        have e1 : dct (Vs.take i ++ [u]) (fun y => if y = u then V.ref p else V.ref (gad y)) = dct (Vs.take i ++ [u]) fun y => V.ref (if y = u then p else gad y) := dct_congr fun y _ => by split <;> rfl
        rw [e1]
        have mm : ∀ y, y ∈ Vs.take i ++ [u] → (y = u ∧ (if y = u then p else gad y) = p) ∨ (y ∈ Vs.take i ∧ y ≠ u ∧ (if y = u then p else gad y) = gad y) := fun y hy => by
          by_cases e : y = u
          · exact .inl ⟨e, if_pos e⟩
          · rcases List.mem_append.mp hy with h | h
            · exact .inr ⟨h, e, if_neg e⟩
            · exact absurd (List.mem_singleton.mp h) e
        have lne : ∀ y ∈ Vs.take i, gad y ≠ ga := fun y hy => ne_of (g2.lst y hy) g2.top fun z => by cases z
        refine ⟨⟨upd_same, fun y hy => ?_⟩, fun b o hb hne => ?_, fun y hy => ?_, fun y hy z hz e => ?_⟩
        · rcases mm y hy with ⟨h1, h2⟩ | ⟨h1, h2, h3⟩
          · rw [h2, upd_ne (Ne.symm npg), upd_same, h1]
            rfl
          · rw [h3, upd_ne (lne y h1), upd_ne (ne_of_none (g2.lst y h1) np)]
            exact g2.lst y h1
        · rw [upd_ne hne, upd_ne (ne_of_none hb npH)]
          exact b2 b o hb hne
        · show H1 (if y = u then p else gad y) = none
          rcases mm y hy with ⟨h1, h2⟩ | ⟨h1, h2, h3⟩
          · rw [h2]
            exact npH
          · rw [h3]
            exact n2 y h1
        · have e : (if y = u then p else gad y) = (if z = u then p else gad z) := e
          rcases mm y hy with ⟨h1, h2⟩ | ⟨h1, h2, h3⟩
          · rcases mm z hz with ⟨g1, g4⟩ | ⟨g1, g4, g3⟩
            · rw [h1, g1]
            · rw [h2, g3] at e
              exact absurd e.symm (ne_of_none (g2.lst z g1) np)
          · rcases mm z hz with ⟨g1, g4⟩ | ⟨g1, g4, g3⟩
            · rw [h3, g4] at e
              exact absurd e (ne_of_none (g2.lst y h1) np)
            · rw [h3, g3] at e
              exact j2 y h1 z g1 e
      · rintro H2 ⟨gad, g2, b2, n2, j2⟩
        rw [dct_len, List.take_length] at g2 n2 j2
        have nga0 : ga ≠ ra := fun z => by
          rw [z, cp.rows.top] at nga
          cases nga
        have ngd : ∀ u ∈ Vs, ga ≠ ad u := fun u hu z => by
          rw [z, cp.rows.row u hu] at nga
          cases nga
        have ngH : H ga = none := by
          cases e : H ga with
          | none => rfl
          | some o =>
            rw [fr1 _ _ e] at nga
            cases nga
        have R2 : RowsM H2 ra Vs ad nb wt := ⟨b2 _ _ cp.rows.top (Ne.symm nga0), fun u hu => b2 _ _ (cp.rows.row u hu) (Ne.symm (ngd u hu)), cp.rows.inj, cp.rows.nd⟩
        have fr2 : ∀ b o, H b = some o → H2 b = some o := fun b o hb => b2 _ _ (fr1 b o hb) (ne_of_none hb ngH)
        have nlH : ∀ u ∈ Vs, H (gad u) = none := fun u hu => by
          cases e : H (gad u) with
          | none => rfl
          | some o =>
            have z := n2 u hu
            rw [fr1 _ _ e] at z
            cases z
        refine ⟨_, _, rfl, ?_⟩
        refine ⟨fun m σ Hc => ∃ (Ws : List Str) (nb' : Nb) (wt' : Wt) (grp : Str → List Str) (best : Option (Int × List Str)) (bv : V) (x3 x4 x6 x7 x8 : Option V), σ = [some (.ref g), some (.ref ra), some (.ref ga), x3, x4, some bv, x6, x7, x8] ∧ RowsM Hc ra Ws ad nb' wt' ∧ Sym Ws nb' wt' ∧
          Phases Vs nb wt Ws nb' wt' grp best ∧ Grp Hc ga gad Vs grp ∧ BestH Hc gad Vs bv best ∧ Ext H Hc ∧ Tabs tbT Hc ∧ m = Ws.length,
          ⟨_, Vs, nb, wt, fun u => [u], none, .non, none, none, none, none, none, rfl, R2, sy, Phases.start, g2, rfl, Ext.of fr2, hT.ext fr2, rfl⟩, ?_⟩
        rintro m σ H3 ⟨Ws, nb', wt', grp, best, bv, x3, x4, x6, x7, x8, rfl, R3, sy3, ph, g3, bh, e3, T3, rfl⟩
        have gs := ph.grps
        have wl : Ws.length ≤ Vs.length := R3.nd.length_le_of_subset fun u hu => gs.sub u hu
        refine ⟨_, rfl, ra, _, rfl, R3.top, _, _, rfl, rfl, _, rfl, ?_⟩
        rw [dct_len]
        refine ite2 (fun h1 => ?_) (fun h1 => ?_)
        · have h1 : (1 : Int) < (Ws.length : Int) := of_decide_eq_true h1
          refine ⟨fun σ' H' => ∃ (Ws' : List Str) (nb' : Nb) (wt' : Wt) (grp : Str → List Str) (best : Option (Int × List Str)) (bv : V) (x3 x4 x6 x7 x8 : Option V), σ' = [some (.ref g), some (.ref ra), some (.ref ga), x3, x4, some bv, x6, x7, x8] ∧ RowsM H' ra Ws' ad nb' wt' ∧ Sym Ws' nb' wt' ∧
            Phases Vs nb wt Ws' nb' wt' grp best ∧ Grp H' ga gad Vs grp ∧ BestH H' gad Vs bv best ∧ Ext H H' ∧ Tabs tbT H' ∧ Ws'.length < Ws.length, ?_, ?_⟩
          · rintro σ' H' ⟨Ws', nb', wt', grp, best, bv, x3, x4, x6, x7, x8, q1, q2, q3, q4, q5, q6, q7, q8, q9⟩
            exact ⟨_, q9, Ws', nb', wt', grp, best, bv, x3, x4, x6, x7, x8, q1, q2, q3, q4, q5, q6, q7, q8, rfl⟩
          refine ⟨_, rfl, ra, Ws, ad, nb', wt', rfl, R3, sy3.nd, by omega, by omega, T3, fun p x l n H4 e4 T4 hp lt => ?_⟩
          obtain ⟨hxW, hlW, hxl⟩ := lt.mem
          have R4 := R3.ext e4
          have g4 : Grp H4 ga gad Vs grp := ⟨e4 _ _ g3.top dk_tbl, fun u hu => e4 _ _ (g3.lst u hu) (fun ps z => by cases z)⟩
          have bh4 : BestH H4 gad Vs bv best := bh.ext fun c o hc q => e4 _ _ hc fun ps z => by
            rcases q with ⟨_, q⟩ | ⟨_, q, _⟩
            · rw [q] at z
              cases z
            · rw [q] at z
              cases z
          have e04 := e3.trans e4
          refine ⟨p, _, rfl, .inl (.inl hp), rfl, _, _, rfl, _, _, rfl, _, _, rfl, rfl, ?_⟩
          refine ⟨fun σ' H' => ∃ bv' : V, σ' = [some (.ref g), some (.ref ra), some (.ref ga), x3, x4, some bv', some (.str x), some (.str l), some (.int n)] ∧ Same H4 H' ∧ BestH H' gad Vs bv' (better best n (grp l)), ?_, ?_⟩
          · -- the best one
            have take : better best n (grp l) = some (n, grp l) → ∀ q1 : Addr, H4 q1 = none → ∀ q2, upd H4 q1 (.lst ((grp l).map V.str)) q2 = none →
                Same H4 (upd (upd H4 q1 (.lst ((grp l).map V.str))) q2 (.tup [.int n, .ref q1])) ∧ BestH (upd (upd H4 q1 (.lst ((grp l).map V.str))) q2 (.tup [.int n, .ref q1])) gad Vs (.ref q2) (better best n (grp l)) := fun hb q1 nq1 q2 nq2 => by
              refine ⟨(same_upd nq1).trans (same_upd nq2), ?_⟩
              rw [hb]
              exact ⟨q2, q1, rfl, upd_same, (same_upd nq2) _ _ upd_same, fun u hu z => by
                have z2 := g4.lst u hu
                rw [← z, nq1] at z2
                cases z2⟩
            have hga4 := g4.top
            have hl4 := g4.lst l (gs.sub l hlW)
            cases best with
            | none =>
              obtain rfl : bv = .non := bh4
              refine ⟨_, rfl, rfl, _, rfl, iteT ?_⟩
              refine ⟨_, rfl, _, rfl, _, rfl, ga, _, rfl, get_d (.inl hga4) (gs.sub l hlW), gad l, _, rfl, .inl (SqL.of hl4), fun q1 nq1 => ⟨by show 2 ≤ sizeLine; decide, fun q2 nq2 => ?_⟩⟩
              obtain ⟨z1, z2⟩ := take rfl q1 nq1 q2 nq2
              exact ⟨_, rfl, z1, z2⟩
            | some bm =>
              obtain ⟨bn, bms⟩ := bm
              obtain ⟨bp, ml, rfl, hbp, hml, hnl⟩ := id bh4
              refine ⟨_, rfl, rfl, _, rfl, iteF ?_⟩
              refine ⟨_, rfl, _, rfl, bp, _, _, _, rfl, rfl, .inl (.inl hbp), rfl, _, _, rfl, rfl, _, rfl, ?_⟩
              refine ite2 (fun h5 => ?_) (fun h5 => ?_)
              · refine ⟨_, rfl, _, rfl, _, rfl, ga, _, rfl, get_d (.inl hga4) (gs.sub l hlW), gad l, _, rfl, .inl (SqL.of hl4), fun q1 nq1 => ⟨by show 2 ≤ sizeLine; decide, fun q2 nq2 => ?_⟩⟩
                obtain ⟨z1, z2⟩ := take (by unfold better; exact if_pos (of_decide_eq_true h5)) q1 nq1 q2 nq2
                exact ⟨_, rfl, z1, z2⟩
              · refine ⟨_, rfl, fun _ _ e => e, ?_⟩
                have e : better (some (bn, bms)) n (grp l) = some (bn, bms) := by
                  unfold better
                  exact if_neg (fun z => h5 (decide_eq_true z))
                rw [e]
                exact bh4
          · rintro σ5 H5 ⟨bv5, rfl, s5, bh5⟩
            have R5 := R4.ext (Ext.of s5)
            refine ⟨_, rfl, _, rfl, _, rfl, ra, Ws, ad, nb', wt', x, l, rfl, R5, sy3, hxW, hlW, hxl, by omega, fun nb6 wt6 H6 R6 mg fr6 => ?_⟩
            have nr : ∀ u ∈ Ws, ∀ o, (∀ kvs, o ≠ HO.dK kvs) → ∀ b, H5 b = some o → b ≠ ad u := fun u hu o ho b hb z => by
              rw [z, R5.row u hu] at hb
              exact ho _ (Option.some.inj hb).symm
            have keep6 : ∀ b o, H5 b = some o → (∀ kvs, o ≠ HO.dK kvs) → H6 b = some o := fun b o hb ho => fr6 b o hb (fun z => by
              rw [z, R5.top] at hb
              exact ho _ (Option.some.inj hb).symm) fun u hu => nr u hu o ho b hb
            have hga6 : H6 ga = some (.dK (dct Vs fun u => .ref (gad u))) := fr6 _ _ (s5 _ _ g4.top) nga0 fun u hu => ngd u (gs.sub u hu)
            have hl6 : ∀ u ∈ Vs, H6 (gad u) = some (.lst ((grp u).map V.str)) := fun u hu => keep6 _ _ (s5 _ _ (g4.lst u hu)) (fun kvs z => by cases z)
            have hxV := gs.sub x hxW
            have hlV := gs.sub l hlW
            refine ⟨_, rfl, _, rfl, ga, _, rfl, get_d (.inl hga6) hxV, ?_, _, rfl, _, rfl, ga, _, rfl, get_d (.inl hga6) hlV, gad x, gad l, _, _, rfl, rfl, hl6 x hxV, hl6 l hlV, ?_, ?_⟩
            · exact .inl ⟨rfl, _, SqL.of (hl6 x hxV)⟩
            · rw [List.length_map, List.length_map]
              have a1 := gs.len hxW
              have a2 := gs.len hlW
              have a3 : 2000 ≤ sizeLine := by decide
              omega
            · have nlx : ∀ u ∈ Vs, u ≠ x → gad u ≠ gad x := fun u hu hne z => hne (j2 u hu x hxV z)
              have ndk : ∀ b kvs, H6 b = some (.dK kvs) → b ≠ gad x := fun b kvs hb => ne_of hb (hl6 x hxV) fun z => by cases z
              refine ⟨Ws.filter fun y => decide (y ≠ l), nb6, wt6, grow grp x l, better best n (grp l), bv5, _, _, _, _, _, rfl, ⟨by rw [upd_ne (ndk _ _ R6.top)]; exact R6.top, fun u hu => by rw [upd_ne (ndk _ _ (R6.row u hu))]; exact R6.row u hu, R6.inj, R6.nd⟩, mg.sym, ph.step lt mg, ⟨by rw [upd_ne (ndk _ _ hga6)]; exact hga6, fun u hu => ?_⟩, ?_, ?_, ?_, ?_⟩
              · unfold grow
                by_cases e : u = x
                · rw [e, upd_same, if_pos rfl, List.map_append]
                · rw [upd_ne (nlx u hu e), if_neg e]
                  exact hl6 u hu
              · refine (bh5.ext (H' := H6) fun c o hc q => keep6 c o hc fun kvs z => ?_).ext fun c o hc q => ?_
                · rcases q with ⟨_, q⟩ | ⟨_, q, _⟩
                  · rw [q] at z
                    cases z
                  · rw [q] at z
                    cases z
                · rw [upd_ne ?_]
                  · exact hc
                  · rcases q with ⟨_, q⟩ | ⟨_, q, q2⟩
                    · rw [q] at hc
                      exact ne_of hc (hl6 x hxV) fun z => by cases z
                    · exact q2 x hxV
              · intro b o hb ht
                have h5 := s5 _ _ (e04 b o hb ht)
                have n1 : b ≠ ra := ne_of_none hb nra
                rw [upd_ne (ne_of_none hb (nlH x hxV))]
                exact fr6 b o h5 n1 fun u hu => ne_of_none hb (cp.new u (gs.sub u hu))
              · have T6 : Tabs tbT H6 := fun q hq => by
                  obtain ⟨ps, q1, q2, q3⟩ := (T4.ext s5) q hq
                  refine ⟨ps, keep6 _ _ q1 (fun kvs z => by cases z), q2, fun pos cv hc => ?_⟩
                  obtain ⟨c, c1, c2⟩ := q3 pos cv hc
                  exact ⟨c, c1, keep6 _ _ c2 fun kvs z => by
                    unfold CodeO at z
                    cases z⟩
                exact tabs_mut T6 (hl6 x hxV) (fun ps z => by cases z) (fun c q z => by
                  unfold CodeO at z
                  cases z)
              · exact List.length_filter_lt_length_iff_exists.mpr ⟨l, hlW, by simp⟩
        · have h1 : ¬ (1 : Int) < (Ws.length : Int) := fun z => h1 (decide_eq_true z)
          cases best with
          | none =>
            have e := ph.none rfl
            rw [e] at h1
            omega
          | some bm =>
            obtain ⟨bn, bms⟩ := bm
            obtain ⟨bp, ml, rfl, hbp, hml, hnl⟩ := bh
            refine ⟨_, rfl, bp, _, _, _, rfl, rfl, .inl (.inl hbp), rfl, ?_⟩
            have G3 := G.ext e3
            have hA3 := e3 _ _ hA fz_tbl
            refine ⟨_, rfl, _, rfl, bp, _, _, _, rfl, rfl, .inl (.inl hbp), rfl, g, C, dx, fs, a, ml, top, Vs, bms, ad0, oa, rfl, G3, hA3, hsz, .inl (SqL.of hml), fun p H4 s4 np hp => ?_⟩
            refine ⟨by show 2 ≤ sizeLine; decide, fun q nq => ?_⟩
            refine k q p bn bms _ ((e3.trans (Ext.of s4)).trans (Ext.of (same_upd nq))) (tabs_put (T3.ext s4) nq) upd_same ((same_upd nq) _ _ hp) ⟨Ws, nb', wt', grp, ph, by omega⟩
end
end Wk
namespace Wk
open PySem PySem.Spec PyProof.Rows L2 WkD WkN LamX WkP
section
variable {P : Program} {w : World} {K : PySem.W.Frag} {mg : Str → Option Value} {base : Heap}
def spStrength (K : PySem.W.Frag) (T : List (Addr × Str)) : Sp := fun vs H Q _ => ∃ (g C dx : Addr) (fs : List (Str × V)) (a : Addr) (top : Str) (Vs : List Str) (ad : Str → Addr) (nb : Nb) (wt : Wt), vs = [.ref g] ∧ GAt K H g C dx fs a top ∧ RowsZ H a Vs ad nb wt ∧ Vs.Nodup ∧ Sym Vs nb wt ∧ 2 ≤ Vs.length ∧ Vs.length < 1000 ∧ Tabs T H ∧
  ∀ n ms H', Ext H H' → Tabs T H' → LeastCut Vs nb wt n ms → Q (.int n) H'
theorem sc_strength_of : FnScope ["graph"] ["graph"] (defScope s_strength_of) := ⟨rfl, rfl, rfl, by decide +kernel, rfl, by decide +kernel, by decide +kernel⟩
theorem c_strength_of {tbT : List (Addr × Str)} (D : Def K mg "strength_of" s_strength_of) (CC : Callee P w K mg base CX0 4 "least_cut" ["graph"] (spLeast K tbT)) : Callee P w K mg base CX0 5 "strength_of" ["graph"] (spStrength K tbT) := by
  obtain ⟨f, fd, F, g⟩ := D
  refine ⟨f, fd, F.ok sc_strength_of (fun vs H Q E h => ?_) (fun cdv A outer s H vs Q E hr h => ?_), g, F.kp, F.bindsN (fun _ _ _ _ _ _ us hl => match us, hl with | [_], _ => rfl)⟩
  · obtain ⟨g, C, dx, fs, a, top, Vs, ad, nb, wt, rfl, _⟩ := h
    rfl
  · have hr4 : Room 4 _ := hr
    refine ⟨_, PSs.nox (pss_one (ps_ret (pe_ix ix_tup (pe_c CC hr4 pass0 (pa_cons (pv 0) pa_nil)) pe_int (fun _ _ => rfl)))), ?_⟩
    obtain ⟨g, C, dx, fs, a, top, Vs, ad, nb, wt, rfl, G, RZ, hn, sy, h2, hsz, hT, k⟩ := h
    exact ⟨_, rfl, g, C, dx, fs, a, top, Vs, ad, nb, wt, rfl, G, RZ, hn, sy, h2, hsz, hT, fun p q n ms H' e T hp hq lc => ⟨p, _, _, _, rfl, rfl, .inl (.inl hp), rfl, k n ms H' e T lc⟩⟩
theorem Cop.snoc {H H2 H3 : Hp} {ra p : Addr} {nb : Nb} {wt : Wt} {ks : List Str} {ad : Str → Addr} {u : Str} (cp : Cop H ra nb wt ks ad H2) (hu : u ∉ ks) (sT : Same H2 H3) (np : H3 p = none) (nk : List Str) :
    Cop H ra (fun y => if y = u then nk else nb y) wt (ks ++ [u]) (fun y => if y = u then p else ad y) (upd (upd H3 p (.dK (dct nk fun v => .int (wt u v)))) ra (.dK (dct (ks ++ [u]) fun y => if y = u then V.ref p else V.ref (ad y)))) := by
  have npr : ra ≠ p := ne_of_none (sT _ _ cp.rows.top) np
  have npH : H p = none := by
    cases e : H p with
    | none => rfl
    | some o =>
      have z := sT _ _ (cp.keep _ _ e (Ne.symm npr))
      rw [np] at z
      cases z
  have e1 : dct (ks ++ [u]) (fun y => if y = u then V.ref p else V.ref (ad y)) = dct (ks ++ [u]) fun y => V.ref (if y = u then p else ad y) := dct_congr fun y _ => by split <;> rfl
  rw [e1]
  have at_ : ∀ y ∈ ks, H3 (ad y) = some (.dK (dct (nb y) fun v => .int (wt y v))) := fun y hy => sT _ _ (cp.rows.row y hy)
  have mm : ∀ y, y ∈ ks ++ [u] → (y = u ∧ (if y = u then p else ad y) = p) ∨ (y ∈ ks ∧ y ≠ u ∧ (if y = u then p else ad y) = ad y) := fun y hy => by
    by_cases e : y = u
    · exact .inl ⟨e, if_pos e⟩
    · rcases List.mem_append.mp hy with h | h
      · exact .inr ⟨h, e, if_neg e⟩
      · exact absurd (List.mem_singleton.mp h) e
  refine ⟨⟨upd_same, fun y hy => ?_, fun y hy z hz e => ?_, ?_⟩, fun b o hb hne => ?_, fun y hy => ?_⟩
  · rcases mm y hy with ⟨h1, h2⟩ | ⟨h1, h2, h3⟩
    · rw [h2, upd_ne (Ne.symm npr), upd_same, h1, if_pos rfl]
    · rw [h3, upd_ne (fun q => cp.rows.ne h1 q), upd_ne (ne_of_none (at_ y h1) np), if_neg h2]
      exact at_ y h1
  · have e : (if y = u then p else ad y) = (if z = u then p else ad z) := e
    rcases mm y hy with ⟨h1, h2⟩ | ⟨h1, h2, h3⟩
    · rcases mm z hz with ⟨g1, g2⟩ | ⟨g1, g2, g3⟩
      · rw [h1, g1]
      · rw [h2, g3] at e
        exact absurd e.symm (ne_of_none (at_ z g1) np)
    · rcases mm z hz with ⟨g1, g2⟩ | ⟨g1, g2, g3⟩
      · rw [h3, g2] at e
        exact absurd e (ne_of_none (at_ y h1) np)
      · rw [h3, g3] at e
        exact cp.rows.inj y h1 z g1 e
  · rw [List.nodup_append]
    refine ⟨cp.rows.nd, by simp, fun a1 h1 b1 h3 e => ?_⟩
    have h3 : b1 = u := by simpa using h3
    rw [e, h3] at h1
    exact hu h1
  · rw [upd_ne hne, upd_ne (ne_of_none hb npH)]
    exact sT _ _ (cp.keep _ _ hb hne)
  · show H (if y = u then p else ad y) = none
    rcases mm y hy with ⟨h1, h2⟩ | ⟨h1, h2, h3⟩
    · rw [h2]
      exact npH
    · rw [h3]
      exact cp.new y h1
def spSorted : Sp := fun vs H Q _ => ∃ (a : Addr) (Vs : List Str) (ad : Str → Addr) (nb : Nb) (wt : Wt), vs = [.ref a] ∧ RowsR H a Vs ad nb wt ∧ Vs.Nodup ∧ (∀ u ∈ Vs, (nb u).Nodup) ∧ Vs.length < 64 ∧ (∀ u ∈ Vs, (nb u).length < 64) ∧
  ∀ p Ws bd nb' H', Same H H' → H p = none → RowsZ H' p Ws bd nb' wt → Ws.Perm Vs → Asc Ws → (∀ u ∈ Ws, (nb' u).Perm (nb u) ∧ Asc (nb' u)) → Q (.ref p) H'
theorem sc_sorted_rows : FnScope ["around", "v", "u"] ["around"] (defScope s_sorted_rows) := ⟨rfl, rfl, rfl, by decide +kernel, rfl, by decide +kernel, by decide +kernel⟩
theorem c_sorted_rows (D : Def K mg "sorted_rows" s_sorted_rows) (B : Bi mg) : Callee P w K mg base CX0 1 "sorted_rows" ["around"] spSorted := by
  obtain ⟨f, fd, F, g⟩ := D
  refine ⟨f, fd, F.ok sc_sorted_rows (fun vs H Q E h => ?_) (fun cdv A outer s H vs Q E hr h => ?_), g, F.kp, F.bindsN (fun _ _ _ _ _ _ us hl => match us, hl with | [_], _ => rfl)⟩
  · obtain ⟨a, Vs, ad, nb, wt, rfl, _⟩ := h
    rfl
  · have hu := hu_of hr
    have nd := sc_sorted_rows.nd
    refine ⟨_, PSs.nox (pss_one (WkD.ps_fz (ps_ret (pe_dc (own := [("u", 2)]) (by rfl) nd (WkN.piL K (by rfl) (pe_callB (call_sortedD rfl) (by rfl) B.n_sorted (by decide +kernel) (pa_cons (pv 0) pa_nil))) (blkOk_by (by kernel_rfl)) (fun _ _ _ _ _ => (pg_name (i := 2) nd rfl (Or.inr rfl))) (fun _ _ _ _ _ => pts_nil) (fun _ _ _ _ _ => (pv 2)) (fun _ _ _ _ _ => (pe_dc (own := [("v", 1)]) (by rfl) nd (WkN.piL K (by rfl) (pe_callB (call_sortedD rfl) (by rfl) B.n_sorted (by decide +kernel) (pa_cons (pe_dget hu (pv 0) (pv 2) (fun _ _ => rfl)) pa_nil))) (blkOk_by (by kernel_rfl)) (fun _ _ _ _ _ => (pg_name (i := 1) nd rfl (Or.inl rfl))) (fun _ _ _ _ _ => pts_nil) (fun _ _ _ _ _ => (pv 1)) (fun _ _ _ _ _ => (pe_dget hu (pe_dget hu (pv 0) (pv 2) (fun _ _ => rfl)) (pv 1) (fun _ _ => rfl))))))))), ?_⟩
    obtain ⟨a, Vs, ad, nb, wt, rfl, R, hVn, hnn, hl, hnl, k⟩ := h
    refine ⟨_, rfl, a, _, Vs, rfl, R.top, dct_keys, hl, fun ys p1 pm so np1 => ?_⟩
    have s1 : Same H (upd H p1 (.lst (ys.map V.str))) := same_upd np1
    have L1 : upd H p1 (.lst (ys.map V.str)) p1 = some (.lst (ys.map V.str)) := upd_same
    generalize upd H p1 (.lst (ys.map V.str)) = H1 at s1 L1
    have R1 := R.ext (Ext.of s1)
    have yn : ys.Nodup := pm.nodup_iff.mpr hVn
    have yl : ys.length = Vs.length := pm.length_eq
    refine ⟨p1, rfl, ⟨_, SqL.of L1⟩, fun D nD => ?_⟩
    refine dc_it (walk_list (xs := ys.map V.str)) (fun i H2 => ∃ bd nb', Cop H1 D nb' wt (ys.take i) bd H2 ∧ ∀ u ∈ ys.take i, (nb' u).Perm (nb u) ∧ Asc (nb' u)) ⟨ad, nb, ⟨⟨upd_same, fun u hu => absurd hu (by simp), fun u hu => absurd hu (by simp), by simp⟩, fun b o hb hne => by rw [upd_ne hne]; exact hb, fun u hu => absurd hu (by simp)⟩, fun u hu => absurd hu (by simp)⟩ ?_ ?_ ?_
    · rintro i H2 hi ⟨bd, nb', cp, hp⟩
      exact SqL.of (cp.keep _ _ L1 (ne_of_none L1 nD))
    · rintro i x H2 H2' hi ⟨bd, nb', cp, hp⟩ ⟨rfl, hx⟩
      rw [List.length_map] at hi
      rw [List.getElem?_map, List.getElem?_eq_getElem hi] at hx
      cases hx
      obtain ⟨u, eu⟩ : ∃ u, u = ys[i] := ⟨_, rfl⟩
      have tk := takeS (List.getElem?_eq_getElem hi)
      have hnu : ys[i] ∉ ys.take i := fun z => by
        obtain ⟨j, hj, e⟩ := List.mem_iff_getElem.mp z
        rw [List.length_take] at hj
        rw [List.getElem_take] at e
        have := (List.getElem_inj yn).mp e
        omega
      have huV : u ∈ Vs := pm.mem_iff.mp (eu ▸ List.getElem_mem hi)
      rw [← eu] at tk hnu ⊢
      refine ⟨rfl, tYes_if ?_⟩
      have keepR : ∀ b o, Rd H1 b (.dK o) → Rd H2' b (.dK o) := fun b o h => by
        rcases h with h | ⟨q, h⟩
        · exact .inl (cp.keep _ _ h (ne_of_none h nD))
        · exact .inr ⟨q, cp.keep _ _ h (ne_of_none h nD)⟩
      have top2 := keepR _ _ R1.top
      have row2 := keepR _ _ (R1.row u huV)
      refine ⟨_, rfl, _, rfl, _, rfl, a, _, rfl, get_d top2 huV, ad u, _, nb u, rfl, row2, dct_keys, hnl u huV, fun zs p2 pm2 so2 np2 => ?_⟩
      have s3 : Same H2' (upd H2' p2 (.lst (zs.map V.str))) := same_upd np2
      have L3 : upd H2' p2 (.lst (zs.map V.str)) p2 = some (.lst (zs.map V.str)) := upd_same
      generalize upd H2' p2 (.lst (zs.map V.str)) = H3 at s3 L3
      have zn : zs.Nodup := pm2.nodup_iff.mpr (hnn u huV)
      have top3 := rdS s3 top2
      have row3 := rdS s3 row2
      refine ⟨p2, rfl, ⟨_, SqL.of L3⟩, fun D2 nD2 => ?_⟩
      have sD : ∀ o, Same H3 (upd H3 D2 o) := fun o => same_upd nD2
      refine dc_it (walk_list (xs := zs.map V.str)) (fun j H4 => H4 = upd H3 D2 (.dK (dct (zs.take j) fun v => .int (wt u v)))) rfl ?_ ?_ ?_
      · rintro j H4 hj rfl
        exact SqL.of ((sD _) _ _ L3)
      · rintro j x H4 H4' hj rfl ⟨rfl, hx⟩
        rw [List.length_map] at hj
        rw [List.getElem?_map, List.getElem?_eq_getElem hj] at hx
        cases hx
        have hvn : zs[j] ∈ nb u := pm2.mem_iff.mp (List.getElem_mem hj)
        have hnv : zs[j] ∉ zs.take j := fun z => by
          obtain ⟨j', hj', e⟩ := List.mem_iff_getElem.mp z
          rw [List.length_take] at hj'
          rw [List.getElem_take] at e
          have := (List.getElem_inj zn).mp e
          omega
        refine ⟨rfl, tYes_if ?_⟩
        refine ⟨_, rfl, _, rfl, _, rfl, a, _, rfl, get_d (rdS (sD _) top3) huV, _, rfl, ad u, _, rfl, get_d (rdS (sD _) row3) hvn, _, Sum.inr zs[j], rfl, upd_same, ?_, ?_⟩
        · rw [dct_len, List.length_take]
          have := pm2.length_eq
          have := hnl u huV
          have : 64 ≤ sizeLine := by decide
          omega
        · rw [upd_upd, dct_put_new hnv, takeS (List.getElem?_eq_getElem hj)]
          congr 2
          exact dct_congr fun y _ => by
            split
            · rename_i e
              rw [e]
            · rfl
      · rintro H4 rfl
        rw [List.length_map, List.take_length]
        have nDD : D ≠ D2 := ne_of_none (s3 _ _ cp.rows.top) nD2
        refine ⟨_, Sum.inr u, rfl, by rw [upd_ne nDD]; exact s3 _ _ cp.rows.top, ?_, fun y => if y = u then D2 else bd y, fun y => if y = u then zs else nb' y, ?_, fun y hy => ?_⟩
        · rw [dct_len, List.length_take]
          have : 64 ≤ sizeLine := by decide
          omega
        · rw [dct_put_new hnu, tk]
          exact cp.snoc hnu s3 nD2 zs
        · by_cases e : y = u
          · show (if y = u then zs else nb' y).Perm (nb y) ∧ Asc (if y = u then zs else nb' y)
            rw [if_pos e, e]
            exact ⟨pm2, asc_of so2 zn⟩
          · show (if y = u then zs else nb' y).Perm (nb y) ∧ Asc (if y = u then zs else nb' y)
            rw [if_neg e]
            rw [tk] at hy
            rcases List.mem_append.mp hy with h | h
            · exact hp y h
            · exact absurd (List.mem_singleton.mp h) e
    · rintro H2 ⟨bd, nb', cp, hp⟩
      rw [List.length_map, List.take_length] at cp hp
      refine ⟨(D, .dK (dct ys fun u => .ref (bd u))) :: ys.map fun u => (bd u, .dK (dct (nb' u) fun v => .int (wt u v))), tFz_intro (fun p hp' => ?_) ?_ fun H3 z1 z2 => ?_⟩
      · rcases List.mem_cons.mp hp' with rfl | h
        · exact ⟨cp.rows.top, trivial⟩
        · obtain ⟨u, hu', rfl⟩ := List.mem_map.mp h
          exact ⟨cp.rows.row u hu', trivial⟩
      · rw [List.map_cons, List.nodup_cons, List.map_map]
        refine ⟨fun h => ?_, ?_⟩
        · obtain ⟨u, hu', e⟩ := List.mem_map.mp h
          exact cp.rows.ne hu' e
        · refine List.pairwise_map.mpr (List.Pairwise.imp_of_mem (fun {x y} hx hy hne e => hne (cp.rows.inj x hx y hy e)) yn)
      · have fr : Same H H3 := fun b o hb => by
          have h1 := s1 _ _ hb
          have hb2 : b ≠ D := ne_of_none h1 nD
          rw [z2 b fun hm => ?_]
          · exact cp.keep _ _ h1 hb2
          · rw [List.map_cons, List.mem_cons] at hm
            rcases hm with e | hm
            · exact hb2 e
            · rw [List.map_map] at hm
              obtain ⟨u, hu', e⟩ := List.mem_map.mp hm
              have n := cp.new u hu'
              rw [show bd u = b from e, h1] at n
              cases n
        have nDH : H D = none := by
          cases e : H D with
          | none => rfl
          | some o =>
            rw [s1 _ _ e] at nD
            cases nD
        refine k D ys bd nb' H3 fr nDH ⟨z1 _ List.mem_cons_self, fun u hu' => z1 _ (List.mem_cons_of_mem _ (List.mem_map.mpr ⟨u, hu', rfl⟩))⟩ pm (asc_of so yn) hp
end
end Wk
namespace Wk
open PySem PySem.Spec PyProof.Rows L2 WkD WkN LamX WkP
inductive Rch (nb : Nb) (s : Str) : Str → Prop
  | here : Rch nb s s
  | go {u v : Str} : Rch nb s u → v ∈ nb u → Rch nb s v
structure Rst (Vs : List Str) (nb : Nb) (s : Str) (fl wl : List Str) : Prop where
  nd : fl.Nodup
  sub : ∀ u ∈ fl, u ∈ Vs
  st : s ∈ fl
  wf : ∀ u ∈ wl, u ∈ fl
  cl : ∀ u ∈ fl, u ∉ wl → ∀ v ∈ nb u, v ∈ fl
  rc : ∀ u ∈ fl, Rch nb s u
section
variable {P : Program} {w : World} {K : PySem.W.Frag} {mg : Str → Option Value} {base : Heap}
def spReach : Sp := fun vs H Q _ => ∃ (a : Addr) (Vs : List Str) (ad : Str → Addr) (nb : Nb) (wt : Wt) (s : Str), vs = [.ref a, .str s] ∧ RowsM H a Vs ad nb wt ∧ s ∈ Vs ∧ (∀ u ∈ Vs, ∀ v ∈ nb u, v ∈ Vs) ∧ Vs.length < 64 ∧
  ∀ p ys H', Same H H' → H' p = some (.tup (ys.map V.str)) → Asc ys → (∀ y, y ∈ ys ↔ Rch nb s y) → (∀ y ∈ ys, y ∈ Vs) → Q (.ref p) H'
theorem sc_reached : FnScope ["around", "start", "found", "waiting", "vertex"] ["around", "start"] (defScope s_reached) := ⟨rfl, rfl, rfl, by decide +kernel, rfl, by decide +kernel, by decide +kernel⟩
theorem c_reached (D : Def K mg "reached" s_reached) (B : Bi mg) : Callee P w K mg base CX0 1 "reached" ["around", "start"] spReach := by
  obtain ⟨f, fd, F, g⟩ := D
  refine ⟨f, fd, F.ok sc_reached (fun vs H Q E h => ?_) (fun cdv A outer s H vs Q E hr h => ?_), g, F.kp, F.bindsN (fun _ _ _ _ _ _ us hl => match us, hl with | [_, _], _ => rfl)⟩
  · obtain ⟨a, Vs, ad, nb, wt, s, rfl, _⟩ := h
    rfl
  · have hu := hu_of hr
    have nd := sc_reached.nd
    refine ⟨_, PSs.nox (pss_cons (ps_par (i := 2) (j := 3) (by rfl) nd rfl rfl (by decide) rfl rfl (pa_cons (pe_disp (pps_cons (pv 1) pe_bl pps_nil) (by rfl) (by rfl) (fun z => by cases z) (by decide)) (pa_cons (pe_lst (pa_cons (pv 1) pa_nil)) pa_nil)) (by rfl))
      (pss_cons (ps_while PassesOwn.never (pt_cmpR (WkG.op_neNil hr.units) (pv 3) (pe_lst pa_nil) (nomark _))
      (pss_one (ps_lock (ps_for PassesOwn.never rfl (pi_keys (pe_dget hu (pv 0) (pe_bm0 PySem.F.plainAttrs_list PySem.F.slot_list_pop PySem.F.type_list_pop mt_pop (pv 3)) (fun _ _ => rfl))) (pg_name (i := 4) nd rfl (Or.inl rfl))
      (pss_one (ps_if (pt_cmp (pc_dnotin hu (pv 4) (pv 2)))
      (pss_cons (ps_dput hu (pv 2) (pv 4) pe_bl rfl)
      (pss_one (ps_expr (pe_bm PySem.F.plainAttrs_list PySem.F.slot_list_append PySem.F.type_list_append mt_append (pv 3) (pa_cons (pv 4) pa_nil))))) pss_nil))))))
      (pss_one (ps_ret (pe_callTy call_tuple_of (by rfl) B.n_tuple (by decide +kernel) (pa_cons (pe_callB (call_sortedD rfl) (by rfl) B.n_sorted (by decide +kernel) (pa_cons (pv 2) pa_nil)) pa_nil)))))), ?_⟩
    obtain ⟨a, Vs, ad, nb, wt, st, rfl, R, hs, hnb, hl, k⟩ := h
    intro fo nfo
    refine ⟨_, rfl, upd_same, [(Sum.inr st, .bl true)], rfl, (by show 1 ≤ 15; decide), ?_⟩
    rw [upd_upd]
    have e0 : mergeK [] [((Sum.inr st : Key), V.bl true)] = dct [st] fun _ => .bl true := rfl
    rw [e0]
    have s1 : Same H (upd H fo (.dK (dct [st] fun _ => .bl true))) := same_upd nfo
    have F1 : upd H fo (.dK (dct [st] fun _ => .bl true)) fo = some (.dK (dct [st] fun _ => .bl true)) := upd_same
    generalize upd H fo (.dK (dct [st] fun _ => .bl true)) = H1 at s1 F1
    refine ⟨_, rfl, by show 1 ≤ sizeLine; decide, fun wa nwa => ⟨_, _, rfl, ?_⟩⟩
    have nwf : fo ≠ wa := ne_of_none F1 nwa
    have s2 : Same H (upd H1 wa (.lst [.str st])) := s1.trans (same_upd nwa)
    have F2 := (same_upd (o := .lst [.str st]) nwa) _ _ F1
    have W2 : upd H1 wa (.lst [.str st]) wa = some (.lst [.str st]) := upd_same
    have nwH : H wa = none := by
      cases e : H wa with
      | none => rfl
      | some o =>
        rw [s1 _ _ e] at nwa
        cases nwa
    generalize upd H1 wa (.lst [.str st]) = H2 at s2 F2 W2
    refine ⟨fun m σ Hc => ∃ (fl wl : List Str) (x4 : Option V), σ = [some (.ref a), some (.str st), some (.ref fo), some (.ref wa), x4] ∧ Same H Hc ∧ Hc fo = some (.dK (dct fl fun _ => .bl true)) ∧ Hc wa = some (.lst (wl.map V.str)) ∧ Rst Vs nb st fl wl ∧ wl.length ≤ fl.length ∧ m = 2 * (Vs.length - fl.length) + wl.length,
      ⟨_, [st], [st], none, rfl, s2, F2, W2, ⟨by simp, fun u hu => by rw [List.mem_singleton.mp hu]; exact hs, by simp, fun u hu => hu, fun u hu hn => absurd hu hn, fun u hu => by rw [List.mem_singleton.mp hu]; exact .here⟩, Nat.le_refl _, rfl⟩, ?_⟩
    rintro m σ H3 ⟨fl, wl, x4, rfl, s3, F3, W3, rs, hle, rfl⟩
    have flV : fl.length ≤ Vs.length := rs.nd.length_le_of_subset fun u hu => rs.sub u hu
    refine ⟨_, rfl, by show 0 ≤ sizeLine; decide, fun q nq => ?_⟩
    have s4 := s3.trans (same_upd (o := .lst []) nq)
    have F4 := (same_upd (o := .lst []) nq) _ _ F3
    have W4 := (same_upd (o := .lst []) nq) _ _ W3
    have Q4 : upd H3 q (.lst []) q = some (.lst []) := upd_same
    generalize upd H3 q (.lst []) = H4 at s4 F4 W4 Q4
    refine ⟨wa, q, _, rfl, rfl, SqL.of W4, SqL.of Q4, _, rfl, ?_⟩
    refine ite2 (fun hb => ?_) (fun hb => ?_)
    · have hne : wl ≠ [] := fun z => by
        rw [z] at hb
        cases hb
      refine ⟨fun σ' H' => ∃ (fl' wl' : List Str) (x4 : Option V), σ' = [some (.ref a), some (.str st), some (.ref fo), some (.ref wa), x4] ∧ Same H H' ∧ H' fo = some (.dK (dct fl' fun _ => .bl true)) ∧ H' wa = some (.lst (wl'.map V.str)) ∧ Rst Vs nb st fl' wl' ∧ wl'.length ≤ fl'.length ∧ 2 * (Vs.length - fl'.length) + wl'.length < 2 * (Vs.length - fl.length) + wl.length, ?_, ?_⟩
      · rintro σ' H' ⟨fl', wl', x4, q1, q2, q3, q4, q5, q6, q7⟩
        exact ⟨_, q7, fl', wl', x4, q1, q2, q3, q4, q5, q6, rfl⟩
      obtain ⟨wp, u, rfl⟩ : ∃ wp u, wl = wp ++ [u] := ⟨wl.dropLast, wl.getLast hne, (List.dropLast_concat_getLast hne).symm⟩
      have huf : u ∈ fl := rs.wf u (by simp)
      have huV := rs.sub u huf
      have R4 := R.ext (Ext.of s4)
      refine ⟨ad u, _, R4.row u huV, trivial, fun od => ?_⟩
      have nuf : fo ≠ ad u := Ne.symm (ne_of_none (R.row u huV) nfo)
      have nuw : wa ≠ ad u := Ne.symm (ne_of_none (R.row u huV) nwH)
      have naw : a ≠ wa := ne_of_none R.top nwH
      have nau := R.ne huV
      have Z5 : upd H4 (ad u) (.frz od (.dK (dct (nb u) fun v => .int (wt u v)))) (ad u) = some (.frz od (.dK (dct (nb u) fun v => .int (wt u v)))) := upd_same
      have k5 : ∀ b o, H4 b = some o → b ≠ ad u → upd H4 (ad u) (.frz od (.dK (dct (nb u) fun v => .int (wt u v)))) b = some o := fun b o hb hne => by
        rw [upd_ne hne]
        exact hb
      generalize upd H4 (ad u) (.frz od (.dK (dct (nb u) fun v => .int (wt u v)))) = H5 at Z5 k5
      have W5 := k5 _ _ W4 nuw
      have F5 := k5 _ _ F4 nuf
      have A5 := k5 _ _ R4.top (Ne.symm nau)
      refine ⟨_, rfl, _, rfl, .inl ⟨rfl, _, SqL.of W5⟩, wa, _, .str u, rfl, rfl, W5, by simp, ?_⟩
      have dl : (List.map V.str (wp ++ [u])).dropLast = wp.map V.str := by simp
      rw [dl]
      have k6 : ∀ b o, H5 b = some o → b ≠ wa → upd H5 wa (.lst (wp.map V.str)) b = some o := fun b o hb hne => by
        rw [upd_ne hne]
        exact hb
      have W6 : upd H5 wa (.lst (wp.map V.str)) wa = some (.lst (wp.map V.str)) := upd_same
      show ∃ a_1 v, _ ∧ DGet (upd H5 wa (.lst (wp.map V.str))) a_1 (.str u) (some v) ∧ _
      generalize upd H5 wa (.lst (wp.map V.str)) = H6 at k6 W6
      have Z6 := k6 _ _ Z5 (Ne.symm nuw)
      have F6 := k6 _ _ F5 nwf
      refine ⟨a, _, rfl, get_d (.inl (k6 _ _ A5 naw)) huV, ad u, od, rfl, .inl ⟨_, Z6, ?_⟩⟩
      refine for_it (walk_keys (kvs := dct (nb u) fun v => .int (wt u v))) (fun i σ Hc => ∃ (new : List Str) (x4 : Option V), σ = [some (.ref a), some (.str st), some (.ref fo), some (.ref wa), x4] ∧ (∀ b o, H4 b = some o → b ≠ ad u → b ≠ wa → b ≠ fo → Hc b = some o) ∧ Hc (ad u) = some (.frz od (.dK (dct (nb u) fun v => .int (wt u v)))) ∧
        Hc fo = some (.dK (dct (fl ++ new) fun _ => .bl true)) ∧ Hc wa = some (.lst ((wp ++ new).map V.str)) ∧ (fl ++ new).Nodup ∧ (∀ v ∈ new, v ∈ Vs ∧ Rch nb st v) ∧ ∀ v ∈ (nb u).take i, v ∈ fl ++ new)
        ⟨[], x4, rfl, fun b o h1 h2 h3 _ => k6 _ _ (k5 _ _ h1 h2) h3, Z6, by rw [List.append_nil]; exact F6, by rw [List.append_nil]; exact W6, by rw [List.append_nil]; exact rs.nd, fun v hv => absurd hv (by simp), fun v hv => absurd hv (by simp)⟩ ?_ ?_ ?_
      · rintro i σ Hc hi ⟨new, x4, rfl, q1, q2, q3, q4, q5, q6, q7⟩
        exact q2
      · rintro i x σ Hc Hc' hi ⟨new, x4, rfl, q1, q2, q3, q4, q5, q6, q7⟩ ⟨rfl, k0, v0, hk, rfl⟩
        rw [dct_len] at hi
        rw [dct_at, List.getElem?_eq_getElem hi] at hk
        cases hk
        obtain ⟨v, ev⟩ : ∃ v, v = (nb u)[i] := ⟨_, rfl⟩
        have hvn : v ∈ nb u := ev ▸ List.getElem_mem hi
        have tk : ∀ y, y ∈ (nb u).take (i + 1) → y ∈ (nb u).take i ∨ y = v := fun y hy => by
          rw [takeS (List.getElem?_eq_getElem hi), List.mem_append, List.mem_singleton, ← ev] at hy
          exact hy
        have nl : (fl ++ new).length ≤ Vs.length := q5.length_le_of_subset fun y hy => (List.mem_append.mp hy).elim (fun h => rs.sub y h) (fun h => (q6 y h).1)
        have big : 64 ≤ sizeLine := by decide
        have wpl : wp.length + 1 ≤ fl.length := by simpa using hle
        have nll : fl.length + new.length ≤ Vs.length := by simpa using nl
        show tIfS _ _ _ _ (List.set _ _ (some (.str (nb u)[i]))) _
        rw [← ev]
        refine ⟨_, rfl, _, rfl, fo, _, rfl, get_x (.inl q3), _, rfl, ?_⟩
        have eo : (if v ∈ fl ++ new then some (V.bl true) else none).isSome = decide (v ∈ fl ++ new) := by
          by_cases h : v ∈ fl ++ new
          · rw [if_pos h, decide_eq_true h]
            rfl
          · rw [if_neg h, decide_eq_false h]
            rfl
        rw [eo]
        refine ite2 (fun h1 => ?_) (fun h1 => ?_)
        · have hn : v ∉ fl ++ new := fun z => by
            rw [decide_eq_true z] at h1
            cases h1
          refine ⟨_, rfl, _, rfl, fo, _, rfl, put_n q3 hn (by rw [List.length_append]; omega), ?_⟩
          have q4' : upd Hc' fo (.dK (dct ((fl ++ new) ++ [v]) fun y => if y = v then V.bl true else V.bl true)) wa = some (.lst ((wp ++ new).map V.str)) := by
            rw [upd_ne (Ne.symm nwf)]
            exact q4
          refine ⟨_, rfl, .inl ⟨rfl, _, SqL.of q4'⟩, _, rfl, wa, _, _, rfl, rfl, q4', by simp; omega, new ++ [v], _, rfl, fun b o b1 b2 b3 b4 => ?_, ?_, ?_, ?_, ?_, ?_, ?_⟩
          · rw [upd_ne b3, upd_ne b4]
            exact q1 b o b1 b2 b3 b4
          · rw [upd_ne (Ne.symm nuw), upd_ne (Ne.symm nuf)]
            exact q2
          · rw [upd_ne nwf, upd_same, List.append_assoc]
            congr 2
            exact dct_congr fun y _ => by split <;> rfl
          · rw [upd_same, ← List.append_assoc, List.map_append (l₁ := wp ++ new)]
            rfl
          · rw [← List.append_assoc, List.nodup_append]
            refine ⟨q5, by simp, fun a1 h2 b1 h3 e => ?_⟩
            have h3 : b1 = v := by simpa using h3
            rw [e, h3] at h2
            exact hn h2
          · intro y hy
            rcases List.mem_append.mp hy with h | h
            · exact q6 y h
            · rw [List.mem_singleton.mp h]
              exact ⟨hnb u huV v hvn, .go (rs.rc u huf) hvn⟩
          · intro y hy
            rw [← List.append_assoc, List.mem_append]
            rcases tk y hy with h | h
            · exact .inl (q7 y h)
            · exact .inr (by rw [h]; simp)
        · have hn : v ∈ fl ++ new := by
            by_cases h : v ∈ fl ++ new
            · exact h
            · rw [decide_eq_false h] at h1
              exact absurd rfl h1
          refine ⟨new, _, rfl, q1, q2, q3, q4, q5, q6, fun y hy => ?_⟩
          rcases tk y hy with h | h
          · exact q7 y h
          · rw [h]
            exact hn
      · rintro σ Hc ⟨new, x4, rfl, q1, q2, q3, q4, q5, q6, q7⟩
        rw [dct_len, List.take_length] at q7
        have wpl : wp.length + 1 ≤ fl.length := by simpa using hle
        have nl : (fl ++ new).length ≤ Vs.length := q5.length_le_of_subset fun y hy => (List.mem_append.mp hy).elim (fun h => rs.sub y h) (fun h => (q6 y h).1)
        have nll : fl.length + new.length ≤ Vs.length := by simpa using nl
        refine ⟨q2, fl ++ new, wp ++ new, _, rfl, fun b o hb => ?_, by rw [upd_ne nuf]; exact q3, by rw [upd_ne nuw]; exact q4, ⟨q5, fun y hy => (List.mem_append.mp hy).elim (fun h => rs.sub y h) (fun h => (q6 y h).1), List.mem_append_left _ rs.st, fun y hy => ?_, fun y hy hn v hv => ?_, fun y hy => (List.mem_append.mp hy).elim (fun h => rs.rc y h) (fun h => (q6 y h).2)⟩, by simp; omega, by simp; omega⟩
        · by_cases e : b = ad u
          · subst e
            rw [upd_same, ← hb, R.row u huV]
          · rw [upd_ne e]
            exact q1 b o (s4 _ _ hb) e (ne_of_none hb nwH) (ne_of_none hb nfo)
        · rcases List.mem_append.mp hy with h | h
          · exact List.mem_append_left _ (rs.wf y (by simp [h]))
          · exact List.mem_append_right _ h
        · rcases List.mem_append.mp hy with h | h
          · by_cases e : y = u
            · subst e
              exact q7 v hv
            · exact List.mem_append_left _ (rs.cl y h (by simp [e]; exact fun z => hn (List.mem_append_left _ z)) v hv)
          · exact absurd (List.mem_append_right _ h) hn
    · have we : wl = [] := by
        cases wl with
        | nil => rfl
        | cons y r => exact absurd rfl hb
      subst we
      refine ⟨_, rfl, fo, _, fl, rfl, .inl F4, dct_keys, by omega, fun ys p1 pm so np1 => ?_⟩
      have L1 : upd H4 p1 (.lst (ys.map V.str)) p1 = some (.lst (ys.map V.str)) := upd_same
      have s5 := s4.trans (same_upd (o := .lst (ys.map V.str)) np1)
      generalize upd H4 p1 (.lst (ys.map V.str)) = H5 at L1 s5
      refine ⟨p1, _, rfl, .inl ⟨SqL.of L1, fun p np => ?_⟩⟩
      refine k p ys _ (s5.trans (same_upd np)) upd_same (asc_of so (pm.nodup_iff.mpr rs.nd)) (fun y => ⟨fun hy => rs.rc y (pm.mem_iff.mp hy), fun hy => pm.mem_iff.mpr ?_⟩) fun y hy => rs.sub y (pm.mem_iff.mp hy)
      induction hy with
      | here => exact rs.st
      | go _ hv ih => exact rs.cl _ ih (by simp) _ hv
end
end Wk
namespace Wk
open PySem PySem.Spec PyProof.Rows L2 WkD WkN LamX WkP
section
variable {P : Program} {w : World} {K : PySem.W.Frag} {mg : Str → Option Value} {base : Heap}
def spConn : Sp := fun vs H Q _ => ∃ (a : Addr) (Vs : List Str) (ad : Str → Addr) (nb : Nb) (wt : Wt), vs = [.ref a] ∧ RowsM H a Vs ad nb wt ∧ 2 ≤ Vs.length ∧ (∀ u ∈ Vs, ∀ v ∈ nb u, v ∈ Vs) ∧ Vs.length < 64 ∧ (∀ s ∈ Vs, ∀ u ∈ Vs, Rch nb s u) ∧ ∀ H', Same H H' → Q .non H'
theorem sc_check_connected : FnScope ["around", "side"] ["around"] (defScope s_check_connected) := ⟨rfl, rfl, rfl, by decide +kernel, rfl, by decide +kernel, by decide +kernel⟩
theorem c_check_connected (D : Def K mg "check_connected" s_check_connected) (B : Bi mg) (CR : Callee P w K mg base CX0 1 "reached" ["around", "start"] spReach) : Callee P w K mg base CX0 2 "check_connected" ["around"] spConn := by
  obtain ⟨f, fd, F, g⟩ := D
  refine ⟨f, fd, F.ok sc_check_connected (fun vs H Q E h => ?_) (fun cdv A outer s H vs Q E hr h => ?_), g, F.kp, F.bindsN (fun _ _ _ _ _ _ us hl => match us, hl with | [_], _ => rfl)⟩
  · obtain ⟨a, Vs, ad, nb, wt, rfl, _⟩ := h
    rfl
  · have hu := hu_of hr
    have nd := sc_check_connected.nd
    have hr2 : Room 1 _ := hr
    refine ⟨_, PSs.nox (pss_cons (ps_set (i := 1) nd rfl (Or.inl rfl) (pe_ifExp (pt_cmpR (WkD.op_neE hr.units0) (pv 0) pe_dnewK (nomark _)) (pe_c CR hr2 pass0 (pa_cons (pv 0) (pa_cons (pe_callB (WkD.cr_minSD rfl) (by rfl) B.n_min (by decide +kernel) (pa_cons (pv 0) pa_nil)) pa_nil))) (pe_tup pa_nil)))
      (pss_one (ps_if (pt_cmpR op_lt (pe_callB call_len_seq (by rfl) B.n_len (by decide +kernel) (pa_cons (pv 1) pa_nil)) (pe_callB (call_max2 rfl) (by rfl) B.n_max (by decide +kernel) (pa_cons pe_int (pa_cons (pe_callB call_lenD (by rfl) B.n_len boot_len (pa_cons (pv 0) pa_nil)) pa_nil))) (nomark _))
      (pss_one ps_never) pss_nil))), ?_⟩
    obtain ⟨a, Vs, ad, nb, wt, rfl, R, h2, hnb, hl, hc, k⟩ := h
    refine ⟨_, rfl, fun q nq => ?_⟩
    have s1 : Same H (upd H q (.dK [])) := same_upd nq
    have Q1 : upd H q (.dK []) q = some (.dK []) := upd_same
    generalize upd H q (.dK []) = H1 at s1 Q1
    have R1 := R.ext (Ext.of s1)
    have ne : Vs ≠ [] := fun z => by
      rw [z] at h2
      simp at h2
    refine ⟨a, q, _, rfl, rfl, .inl R1.top, Q1, _, rfl, ?_⟩
    have e1 : (!(dct Vs fun u => V.ref (ad u)).isEmpty) = true := by
      cases Vs with
      | nil => exact absurd rfl ne
      | cons y r => rfl
    rw [e1]
    refine iteT ?_
    refine ⟨_, rfl, _, rfl, a, _, Vs, rfl, .inl R1.top, dct_keys, ne, fun m hm _ => ?_⟩
    refine ⟨a, Vs, ad, nb, wt, m, rfl, R1, hm, hnb, hl, fun p ys H2 s2 hp ha hy hyV => ?_⟩
    have len : ys.length = Vs.length := by
      refine Nat.le_antisymm ((asc_nodup ha).length_le_of_subset fun y h => hyV y h) (R.nd.length_le_of_subset fun u hu => (hy u).mpr (hc m hm u hu))
    have R2 := R1.ext (Ext.of s2)
    refine ⟨_, rfl, p, _, rfl, .inr (.inl (.inl hp)), _, rfl, a, _, rfl, R2.top, _, _, rfl, _, _, rfl, rfl, _, rfl, ?_⟩
    rw [List.length_map, len, dct_len]
    have e2 : decide ((Vs.length : Int) < if (Vs.length : Int) > 2 then (Vs.length : Int) else 2) = false := by
      refine decide_eq_false ?_
      split <;> omega
    refine ite2 (fun h => ?_) (fun _ => k H2 (s1.trans s2))
    rw [e2] at h
    cases h
end
end Wk
namespace Wk
open PySem PySem.Spec PyProof.Rows L2 WkD WkN LamX WkP WkE
structure Valid (vs0 : List Str) (es : List Ed) : Prop where
  nm : ∀ u ∈ vs0, nameB u = true
  nd : vs0.Nodup
  two : 2 ≤ vs0.length
  few : vs0.length ≤ 40
  ed : ∀ (i : Nat) (a b : Str) (n : Int), es[i]? = some (a, b, n) → a ∈ vs0 ∧ b ∈ vs0 ∧ a ≠ b ∧ 1 ≤ n ∧ n ≤ 1000000000 ∧ ∀ m, ¬ Adj (es.take i) a b m
  con : ∀ nb wt, RowsOf vs0 es nb wt → ∀ s ∈ vs0, ∀ u ∈ vs0, Rch nb s u
section
variable {P : Program} {w : World} {K : PySem.W.Frag} {mg : Str → Option Value} {base : Heap}
structure GCls (K : PySem.W.Frag) (C : Addr) : Prop where
  cls : Cls K C
  na : NoAttr K C "around"
  nt : NoAttr K C "top"
  mv : ∃ u, Con K C "MAX_VERTICES" (.int 40) u
  mw : ∃ u, Con K C "MAX_WEIGHT" (.int 1000000000) u
def spGraph (K : PySem.W.Frag) : Sp := fun vs H Q _ => ∃ (x C dx va ea : Addr) (b1 b2 : Bool) (vs0 : List Str) (es : List Ed) (rs : List Addr), vs = [.ref x, .ref va, .ref ea] ∧ H x = some (.ins C dx []) ∧ GCls K C ∧ SqX b1 K H va (vs0.map V.str) ∧ SqX b2 K H ea (rs.map V.ref) ∧ EdsAt K H rs es ∧ Valid vs0 es ∧
  ∀ p Ws bd nb wt t H', (∀ b o, H b = some o → b ≠ x → H' b = some o) → H p = none → H' x = some (.ins C dx [("around", .ref p), ("top", .str t)]) → RowsZ H' p Ws bd nb wt → Ws.Perm vs0 → Asc Ws → RowsOf vs0 es nb wt → (∀ u ∈ Ws, Asc (nb u)) → t ∈ vs0 → (∀ j ∈ vs0, ¬ ltS j t) → Q .non H'
theorem name_len {z : Str} (h : nameB z = true) : z.length ≤ sizeLine := by
  unfold nameB at h
  rw [Bool.and_eq_true, Bool.and_eq_true] at h
  have h2 := of_decide_eq_true h.2.1
  have big : 9 ≤ sizeLine := by decide
  omega
theorem sc_graph_init : FnScope ["self", "vertices", "edges", "around", "vertex", "edge"] ["self", "vertices", "edges"] (defScope s_Graph_init) := ⟨rfl, rfl, rfl, by decide +kernel, rfl, by decide +kernel, by decide +kernel⟩
theorem ok_graph_init {f : Addr} {fd : FuncData} (F : FnP K "__init__" "Graph.__init__" s_Graph_init f fd) (B : Bi mg) (CN : Callee P w K mg base CX0 1 "is_name" ["value"] (spName K)) (CT : Callee P w K mg base CX0 1 "is_tuple_of" ["value", "size"] (spTupleOf K)) (CJ : Callee P w K mg base CX0 2 "can_join" ["around", "u", "v"] spJoin)
    (CB : Callee P w K mg base CX0 1 "is_between" ["value", "low", "high"] (spBetween K)) (CC : Callee P w K mg base CX0 2 "check_connected" ["around"] spConn) (CS : Callee P w K mg base CX0 1 "sorted_rows" ["around"] spSorted) : FnOk P w K mg base CX0 3 f fd ["self", "vertices", "edges"] (spGraph K) := by
  refine F.ok sc_graph_init (fun vs H Q E h => ?_) (fun cdv A outer s H vs Q E hr h => ?_)
  · obtain ⟨x, C, dx, va, ea, b1, b2, vs0, es, rs, rfl, _⟩ := h
    rfl
  have hu := hu_of hr
  have nd := sc_graph_init.nd
  have hr2 : Room 2 _ := hr
  have hr1 : Room 1 _ := hr.mono (by decide)
  refine ⟨_, PSs.nox (pss_cons (ps_set (i := 3) nd rfl (Or.inl rfl) pe_dnewK)
      (pss_cons (ps_for PassesOwn.never rfl (WkN.piOr (pi_list (pv 1)) (pi_tup (pv 1))) (pg_name (i := 4) nd rfl (Or.inl rfl))
      (pss_cons (ps_if (PW.pt (pw_or (pt_not (pt_val (pe_c CN hr1 pass0 (pa_cons (pv 4) pa_nil)))) (pw_or (pt_cmp (pc_din hu (pv 4) (pv 3))) (pw_or1 (pt_cmpR op_eq (pe_callB call_lenD (by rfl) B.n_len boot_len (pa_cons (pv 3) pa_nil)) (pe_con (pv 0) rfl) (nomark _))))))
      (pss_one ps_never) pss_nil)
      (pss_one (ps_dput hu (pv 3) (pv 4) pe_dnewK rfl))))
      (pss_cons (ps_for PassesOwn.never rfl (WkN.piOr (pi_list (pv 2)) (pi_tup (pv 2))) (pg_name (i := 5) nd rfl (Or.inl rfl))
      (pss_cons (ps_if (PW.pt (pw_or (pt_not (pt_val (pe_c CT hr1 pass0 (pa_cons (pv 5) (pa_cons pe_int pa_nil))))) (pw_or (pt_not (pt_val (pe_c CJ hr2 pass0 (pa_cons (pv 3) (pa_cons (pe_ix ix_tup (pv 5) pe_int (fun _ _ => rfl)) (pa_cons (pe_ix ix_tup (pv 5) pe_int (fun _ _ => rfl)) pa_nil)))))) (pw_or1 (pt_cmp (pc_din hu (pe_ix ix_tup (pv 5) pe_int (fun _ _ => rfl)) (pe_dget hu (pv 3) (pe_ix ix_tup (pv 5) pe_int (fun _ _ => rfl)) (fun _ _ => rfl))))))))
      (pss_one ps_never) pss_nil)
      (pss_cons (ps_if (pt_not (pt_val (pe_c CB hr1 pass0 (pa_cons (pe_ix ix_tup (pv 5) pe_int (fun _ _ => rfl)) (pa_cons pe_int (pa_cons (pe_con (pv 0) rfl) pa_nil))))))
      (pss_one ps_never) pss_nil)
      (pss_one (ps_asg2 (pe_ix ix_tup (pv 5) pe_int (fun _ _ => rfl)) (pg_sub (pe_dget hu (pv 3) (pe_ix ix_tup (pv 5) pe_int (fun _ _ => rfl)) (fun _ _ => rfl)) (pe_ix ix_tup (pv 5) pe_int (fun _ _ => rfl)) (set_dict hu) (fun _ => rfl)) (pg_sub (pe_dget hu (pv 3) (pe_ix ix_tup (pv 5) pe_int (fun _ _ => rfl)) (fun _ _ => rfl)) (pe_ix ix_tup (pv 5) pe_int (fun _ _ => rfl)) (set_dict hu) (fun _ => rfl)))))))
      (pss_cons (ps_expr (pe_c CC hr2 pass0 (pa_cons (pv 3) pa_nil)))
      (pss_cons (ps_fld (pv 0) (pe_c CS hr1 pass0 (pa_cons (pv 3) pa_nil)) rfl)
      (pss_one (ps_fld (pv 0) (pe_callB (WkD.cr_minSD rfl) (by rfl) B.n_min (by decide +kernel) (pa_cons (pv 3) pa_nil)) rfl))))))), ?_⟩
  obtain ⟨x, C, dx, va, ea, b1, b2, vs0, es, rs, rfl, hx, gc, hva, hea, hes, ok, k⟩ := h
  obtain ⟨mvu, mv⟩ := gc.mv
  obtain ⟨mwu, mw⟩ := gc.mw
  intro ra nra
  have sN := ok.nd
  have big : 1000 < sizeLine := by decide
  have few := ok.few
  refine orSeq (b := b1) (xs := vs0.map V.str) (hva.same (same_upd nra)) rfl fun J wJ => ?_
  refine for_it wJ (fun i σ Hc => ∃ (ad : Str → Addr) (x4 : Option V), σ = [some (.ref x), some (.ref va), some (.ref ea), some (.ref ra), x4, none] ∧ Cop H ra (fun _ => []) (fun _ _ => 0) (vs0.take i) ad Hc)
    ⟨fun _ => 0, none, rfl, ⟨⟨upd_same, fun u hu => absurd hu (by simp), fun u hu => absurd hu (by simp), by simp⟩, fun b o hb hne => by rw [upd_ne hne]; exact hb, fun u hu => absurd hu (by simp)⟩⟩ ?_ ?_ ?_
  · rintro i σ Hc hi ⟨ad, x4, rfl, cp⟩
    exact hva.same fun b o hb => cp.keep b o hb (ne_of_none hb nra)
  · rintro i y σ Hc Hc' hi ⟨ad, x4, rfl, cp⟩ ⟨rfl, hy⟩
    rw [List.length_map] at hi
    rw [List.getElem?_map, List.getElem?_eq_getElem hi] at hy
    cases hy
    have sH : Same H Hc' := fun b o hb => cp.keep b o hb (ne_of_none hb nra)
    have hm : vs0[i] ∈ vs0 := List.getElem_mem hi
    have hnin := take_nin sN hi
    have tk := takeS (List.getElem?_eq_getElem hi)
    obtain ⟨v, ev⟩ : ∃ v, v = vs0[i] := ⟨_, rfl⟩
    rw [← ev] at hm hnin tk ⊢
    have nm := ok.nm v hm
    refine ⟨_, rfl, .inl ⟨v, rfl, name_len nm, fun H1 s1 => ⟨_, rfl, ite2 (fun h => ?_) (fun _ => ?_)⟩⟩⟩
    · rw [nm] at h
      cases h
    have c1 := cp.rows.ext (Ext.of s1)
    refine ⟨_, rfl, _, rfl, ra, _, rfl, get_n (.inl c1.top) hnin, _, rfl, ite2 (fun h => ?_) (fun _ => ?_)⟩
    · cases h
    have lt : (vs0.take i).length = i := by
      rw [List.length_take]
      omega
    refine ⟨_, rfl, ra, _, rfl, c1.top, ?_⟩
    refine ⟨_, rfl, x, C, dx, _, _, _, rfl, s1 _ _ (sH _ _ hx), gc.cls, mv, rfl, rfl, _, rfl, ite2 (fun h => ?_) (fun _ => ?_)⟩
    · rw [decI] at h
      have h := of_decide_eq_true h
      rw [dct_len, lt] at h
      omega
    intro p np
    have s2 : Same Hc' (upd H1 p (.dK [])) := s1.trans (same_upd np)
    refine ⟨_, rfl, _, rfl, ra, _, rfl, put_n (s2 _ _ cp.rows.top) hnin (by rw [lt]; omega), ?_⟩
    have z := cp.snoc hnin s1 np []
    refine ⟨fun y => if y = v then p else ad y, _, rfl, ?_⟩
    rw [tk]
    have e : (fun y : Str => if y = v then ([] : List Str) else []) = fun _ => [] := funext fun y => by split <;> rfl
    rw [e] at z
    exact z
  · rintro σ H1 ⟨ad, x4, rfl, cp⟩
    rw [List.length_map, List.take_length] at cp
    have s1 : Same H H1 := fun b o hb => cp.keep b o hb (ne_of_none hb nra)
    refine orSeq (b := b2) (xs := rs.map V.ref) (hea.same s1) rfl fun J wJ => ?_
    refine for_it wJ (fun i σ Hc => ∃ (nb : Nb) (wt : Wt) (x4 x5 : Option V), σ = [some (.ref x), some (.ref va), some (.ref ea), some (.ref ra), x4, x5] ∧ Cop H ra nb wt vs0 ad Hc ∧ RowsOf vs0 (es.take i) nb wt)
      ⟨_, _, x4, none, rfl, cp, RowsOf.nil _ _⟩ ?_ ?_ ?_
    · rintro i σ Hc hi ⟨nb, wt, x4, x5, rfl, cp, ro⟩
      exact hea.same fun b o hb => cp.keep b o hb (ne_of_none hb nra)
    · rintro i y σ Hc Hc' hi ⟨nb, wt, x4, x5, rfl, cp, ro⟩ ⟨rfl, hy⟩
      rw [List.length_map] at hi
      rw [List.getElem?_map, List.getElem?_eq_getElem hi] at hy
      cases hy
      have hi2 : i < es.length := by
        rw [← hes.1]
        exact hi
      obtain ⟨⟨a, b, n⟩, ee⟩ : ∃ e, e = es[i] := ⟨_, rfl⟩
      have he : es[i]? = some (a, b, n) := by
        rw [List.getElem?_eq_getElem hi2, ee]
      have tk := takeS he
      obtain ⟨ha, hb, hab, n1, n2, hno⟩ := ok.ed i a b n he
      have sH : Same H Hc' := fun b o hb => cp.keep b o hb (ne_of_none hb nra)
      have hT : SqT K H rs[i] [.str a, .str b, .int n] := hes.2 i _ _ (List.getElem?_eq_getElem hi) he
      generalize rs[i] = r at hT ⊢
      have hT0 := WkG.seqT_same sH hT
      refine ⟨_, rfl, _, _, rfl, .inl ⟨r, _, rfl, hT0, by show 3 ≤ sizeLine; decide, tyT hT0, _, rfl, ite2 (fun h => ?_) (fun _ => ?_)⟩⟩
      · cases h
      refine ⟨_, rfl, _, rfl, r, _, _, _, rfl, rfl, hT0, rfl, _, rfl, r, _, _, _, rfl, rfl, hT0, rfl, ra, _, _, a, b, rfl, .inl cp.rows.top, name_len (ok.nm a ha), name_len (ok.nm b hb), fun H1 s1 => ⟨_, rfl, ite2 (fun h => ?_) (fun _ => ?_)⟩⟩
      · unfold joinB at h
        rw [ok.nm a ha, ok.nm b hb, decide_eq_true ha, decide_eq_true hb, decide_eq_false hab] at h
        cases h
      have c1 := cp.rows.ext (Ext.of s1)
      have hT1 := WkG.seqT_same s1 hT0
      have hnb : b ∉ nb a := fun z => by
        obtain ⟨m, hm⟩ := (ro.mem a ha b).mp z
        exact hno m hm
      refine ⟨_, rfl, r, _, _, _, rfl, rfl, hT1, rfl, _, rfl, _, rfl, r, _, _, _, rfl, rfl, hT1, rfl, ra, _, rfl, get_d (.inl c1.top) ha, ad a, _, rfl, get_n (.inl (c1.row a ha)) hnb, _, rfl, ite2 (fun h => ?_) (fun _ => ?_)⟩
      · cases h
      refine ⟨_, rfl, r, _, _, _, rfl, rfl, hT1, rfl, _, rfl, x, C, dx, _, _, _, rfl, s1 _ _ (sH _ _ hx), gc.cls, mw, rfl, _, _, _, rfl, .inl ⟨n, rfl, _, rfl, ite2 (fun h => ?_) (fun _ => ?_)⟩⟩
      · rw [decide_eq_true n1, decide_eq_true n2] at h
        cases h
      have ne_ab : ad b ≠ ad a := fun z => hab (c1.inj b hb a ha z).symm
      have nl : ∀ u ∈ vs0, (nb u).length < sizeLine := fun u hu => by
        have : (nb u).length ≤ vs0.length := (ro.nd u hu).length_le_of_subset fun y hy => by
          obtain ⟨m, hm⟩ := (ro.mem u hu y).mp hy
          have key : ∀ c d, (c, d, m) ∈ es.take i → c ∈ vs0 ∧ d ∈ vs0 := fun c d h => by
            obtain ⟨j, hj, e⟩ := List.mem_iff_getElem.mp h
            rw [List.length_take] at hj
            rw [List.getElem_take] at e
            have q := ok.ed j c d m (by rw [List.getElem?_eq_getElem (by omega), e])
            exact ⟨q.1, q.2.1⟩
          rcases hm with h | h
          · exact (key _ _ h).2
          · exact (key _ _ h).1
        omega
      refine ⟨_, rfl, r, _, _, _, rfl, rfl, hT1, rfl, _, rfl, _, rfl, r, _, _, _, rfl, rfl, hT1, rfl, ra, _, rfl, get_d (.inl c1.top) ha, _, rfl, r, _, _, _, rfl, rfl, hT1, rfl, ad a, _, rfl, putI (c1.row a ha) (nl a ha), ?_⟩
      have R2 := c1.put ha (add (nb a) b) (fun y => if y = b then n else wt a y)
      have hT2 : SqT K (upd H1 (ad a) (.dK (dct (add (nb a) b) fun y => .int (if y = b then n else wt a y)))) r [.str a, .str b, .int n] := by
        refine tup_upd hT1 (c1.row a ha) trivial
      have rb : upd H1 (ad a) (.dK (dct (add (nb a) b) fun y => .int (if y = b then n else wt a y))) (ad b) = some (.dK (dct (nb b) fun y => .int (wt b y))) := by
        rw [upd_ne ne_ab]
        exact c1.row b hb
      have k2 : ∀ c o, H c = some o → upd H1 (ad a) (.dK (dct (add (nb a) b) fun y => .int (if y = b then n else wt a y))) c = some o := fun c o hc => by
        rw [upd_ne (ne_of_none hc (cp.new a ha))]
        exact s1 _ _ (sH _ _ hc)
      generalize upd H1 (ad a) (.dK (dct (add (nb a) b) fun y => .int (if y = b then n else wt a y))) = H2 at R2 hT2 rb k2
      refine ⟨_, rfl, _, rfl, r, _, _, _, rfl, rfl, hT2, rfl, ra, _, rfl, get_d (.inl R2.top) hb, _, rfl, r, _, _, _, rfl, rfl, hT2, rfl, ad b, _, rfl, putI rb (nl b hb), ?_⟩
      have R3 := R2.put hb (add (nb b) a) (fun y => if y = a then n else wt b y)
      refine ⟨_, _, _, _, rfl, ⟨R3.as (nb' := up (up nb a (add (nb a) b)) b (add (nb b) a)) (wt' := upw (upw wt a fun y => if y = b then n else wt a y) b fun y => if y = a then n else wt b y) (fun u _ => rfl) (fun u _ y _ => rfl), fun c o hc hne => ?_, cp.new⟩, ?_⟩
      · rw [upd_ne (ne_of_none hc (cp.new b hb))]
        exact k2 c o hc
      · rw [tk]
        exact ro.snoc ha hb hab hnb
    · rintro σ H2 ⟨nb, wt, x4, x5, rfl, cp, ro⟩
      rw [List.length_map, hes.1, List.take_length] at ro
      have sH : Same H H2 := fun b o hb => cp.keep b o hb (ne_of_none hb nra)
      have mV : ∀ u ∈ vs0, ∀ v ∈ nb u, v ∈ vs0 := fun u hu v hv => by
        obtain ⟨m, hm⟩ := (ro.mem u hu v).mp hv
        have key : ∀ c d, (c, d, m) ∈ es → c ∈ vs0 ∧ d ∈ vs0 := fun c d h => by
          obtain ⟨j, hj, e⟩ := List.mem_iff_getElem.mp h
          have q := ok.ed j c d m (by rw [List.getElem?_eq_getElem hj, e])
          exact ⟨q.1, q.2.1⟩
        rcases hm with h | h
        · exact (key _ _ h).2
        · exact (key _ _ h).1
      refine ⟨_, rfl, ra, vs0, ad, nb, wt, rfl, cp.rows, ok.two, mV, by omega, ok.con nb wt ro, fun H3 s3 => ?_⟩
      have c3 := cp.rows.ext (Ext.of s3)
      refine ⟨_, rfl, ra, vs0, ad, nb, wt, rfl, c3.r, sN, ro.nd, by omega, fun u hu => ?_, fun p Ws bd nb' H4 s4 np4 rz pm as rp => ?_⟩
      · have : (nb u).length ≤ vs0.length := (ro.nd u hu).length_le_of_subset fun y hy => mV u hu y hy
        omega
      have h4 : Same H H4 := (sH.trans s3).trans s4
      refine ⟨_, rfl, x, C, dx, _, rfl, h4 _ _ hx, gc.cls, gc.na, by decide, ?_⟩
      have xr : ra ≠ x := Ne.symm (ne_of_none hx nra)
      have c4 : upd H4 x (.ins C dx (putF "around" (.ref p) [])) ra = some (.dK (dct vs0 fun u => .ref (ad u))) := by
        rw [upd_ne xr]
        exact s4 _ _ c3.top
      refine ⟨_, rfl, ra, _, vs0, rfl, .inl c4, dct_keys, fun z => by rw [z] at few; have := ok.two; rw [z] at this; simp at this, fun t ht hmin => ?_⟩
      refine ⟨_, rfl, x, C, dx, _, rfl, upd_same, gc.cls, gc.nt, by show 1 < 1000; decide, ?_⟩
      refine k p Ws bd nb' wt t _ (fun b o hb hne => ?_) (np_of (sH.trans s3) np4) upd_same ?_ pm as ?_ (fun u hu => (rp u hu).2) ht hmin
      · rw [upd_upd, upd_ne hne]
        exact h4 _ _ hb
      · have ne_x : ∀ c o u, H4 c = some (.frz o u) → c ≠ x := fun c o u hc z => by
          rw [z, h4 _ _ hx] at hc
          cases hc
        obtain ⟨o1, t1⟩ := rz.top
        refine ⟨⟨o1, ?_⟩, fun u hu => ?_⟩
        · rw [upd_upd, upd_ne (ne_x _ _ _ t1)]
          exact t1
        · obtain ⟨o2, t2⟩ := rz.row u hu
          exact ⟨o2, by rw [upd_upd, upd_ne (ne_x _ _ _ t2)]; exact t2⟩
      · have mw : ∀ u ∈ vs0, u ∈ Ws := fun u hu => pm.mem_iff.mpr hu
        exact ⟨fun u hu => (rp u (mw u hu)).1.nodup_iff.mpr (ro.nd u hu), fun u hu v => (rp u (mw u hu)).1.mem_iff.trans (ro.mem u hu v), ro.val⟩
end
end Wk
namespace Wk
open PySem PySem.Spec PyProof.Rows L2 WkD WkN LamX WkP WkE
abbrev ExtB (x : Addr) (H H' : Hp) : Prop := ∀ b o, H b = some o → b ≠ x → (∀ ps, o ≠ .tbl ps) → H' b = some o
theorem ExtB.rz {x : Addr} {H H' : Hp} {a : Addr} {Vs : List Str} {ad : Str → Addr} {nb : Nb} {wt : Wt} {C dx : Addr} {fs : List (Str × V)} (e : ExtB x H H') (R : RowsZ H a Vs ad nb wt) (hx : H x = some (.ins C dx fs)) : RowsZ H' a Vs ad nb wt := by
  have ne_x : ∀ c o u, H c = some (.frz o u) → c ≠ x := fun c o u hc z => by
    rw [z, hx] at hc
    cases hc
  obtain ⟨o1, t1⟩ := R.top
  refine ⟨⟨o1, e _ _ t1 (ne_x _ _ _ t1) fun ps z => by cases z⟩, fun u hu => ?_⟩
  obtain ⟨o2, t2⟩ := R.row u hu
  exact ⟨o2, e _ _ t2 (ne_x _ _ _ t2) fun ps z => by cases z⟩
theorem Valid.sym {vs0 Ws : List Str} {es : List Ed} {nb : Nb} {wt : Wt} (ok : Valid vs0 es) (ro : RowsOf vs0 es nb wt) (pm : Ws.Perm vs0) : Sym Ws nb wt := by
  refine ⟨fun u hu => ro.nd u (pm.mem_iff.mp hu), fun u hu v hv => ?_⟩
  have hu0 := pm.mem_iff.mp hu
  obtain ⟨m, hm⟩ := (ro.mem u hu0 v).mp hv
  have key : ∀ c d, (c, d, m) ∈ es → c ∈ vs0 ∧ d ∈ vs0 ∧ c ≠ d := fun c d h => by
    obtain ⟨j, hj, e⟩ := List.mem_iff_getElem.mp h
    have q := ok.ed j c d m (by rw [List.getElem?_eq_getElem hj, e])
    exact ⟨q.1, q.2.1, q.2.2.1⟩
  have hv0 : v ∈ vs0 ∧ v ≠ u := by
    rcases hm with h | h
    · exact ⟨(key _ _ h).2.1, Ne.symm (key _ _ h).2.2⟩
    · exact ⟨(key _ _ h).1, (key _ _ h).2.2⟩
  refine ⟨pm.mem_iff.mpr hv0.1, hv0.2, (ro.mem v hv0.1 u).mpr ⟨m, hm.symm⟩, ?_⟩
  rw [ro.val u hu0 v m hm, ro.val v hv0.1 u m hm.symm]
section
variable {P : Program} {w : World} {K : PySem.W.Frag} {mg : Str → Option Value} {base : Heap}
structure NCls (K : PySem.W.Frag) (C D fG : Addr) : Prop where
  g : GCls K C
  nf : NoAttr K C "found"
  nm : NoAttr K C "made"
  ne : NoAttr K C "entries"
  nr : NoAttr K C "running"
  ns : NoAttr K C "since"
  mro : PySem.W.mroIn K C (.ref D) = some true
  sup : PySem.W.ks_superIn K C D "__init__" = some (some (.ref fG))
def netF (p : Addr) (t : Str) (n : Int) (m e : Addr) (r s : Int) : List (Str × V) := [("around", .ref p), ("top", .str t), ("found", .int n), ("made", .ref m), ("entries", .ref e), ("running", .int r), ("since", .int s)]
def spNet (K : PySem.W.Frag) (T : List (Addr × Str)) (D fG : Addr) : Sp := fun vs H Q _ => ∃ (x C dx va ea : Addr) (b1 b2 : Bool) (vs0 : List Str) (es : List Ed) (rs : List Addr), vs = [.ref x, .ref va, .ref ea] ∧ H x = some (.ins C dx []) ∧ NCls K C D fG ∧ SqX b1 K H va (vs0.map V.str) ∧ SqX b2 K H ea (rs.map V.ref) ∧ EdsAt K H rs es ∧ Valid vs0 es ∧ Tabs T H ∧
  ∀ p Ws bd nb wt t n ms me en H', ExtB x H H' → Tabs T H' → H' x = some (.ins C dx (netF p t n me en 0 0)) → H' me = some (.tup []) → H' en = some (.lst []) → RowsZ H' p Ws bd nb wt → Ws.Perm vs0 → Asc Ws → RowsOf vs0 es nb wt → (∀ u ∈ Ws, Asc (nb u)) → t ∈ vs0 → (∀ j ∈ vs0, ¬ ltS j t) → LeastCut Ws nb wt n ms → Q .non H'
theorem ss_net_init : WkS.SupScope ["self", "vertices", "edges"] ["self", "vertices", "edges"] (defScope s_Network_init) := ⟨rfl, rfl, rfl, by decide +kernel, rfl, by decide +kernel, by decide +kernel, by decide +kernel, by decide +kernel, by decide +kernel⟩
theorem ok_net_init {f fG cc cda D : Addr} {fd fdG : FuncData} {tbT : List (Addr × Str)} (ST : WkS.SupT P K mg ["self", "vertices", "edges"] D f cc cda "Network.__init__" (defArgs s_Network_init) (defScope s_Network_init) fd) (hbd : fd.body = .stmts (defBody s_Network_init)) (FG : FnOk P w K mg base CX0 3 fG fdG ["self", "vertices", "edges"] (spGraph K)) (hb2 : Binds K fdG ["self", "vertices", "edges"] []) (hf2 : PySem.W.fnIn K fG = true)
    (hf2' : PySem.W.isFn K (.ref fG) = true) (CS : Callee P w K mg base CX0 5 "strength_of" ["graph"] (spStrength K tbT)) : FnOk P w K mg base CX0 6 f fd ["self", "vertices", "edges"] (spNet K tbT D fG) := by
  refine WkS.sup_ok (k := 5) (N := ["self", "vertices", "edges"]) (m := "__init__") (rest := (defBody s_Network_init).drop 1) ST (hbd.trans (by rfl)) ss_net_init (FG.mono (by decide)) hb2 hf2 hf2' (by decide) (fun vs H Q E h => ?_) (fun A outer s H E => pass0) (fun env => rfl) (fun env => rfl) (fun env he => ⟨_, rfl⟩) (fun env he => ?_) (fun A outer s H vs Q E hr h => ?_)
  · obtain ⟨x, C, dx, va, ea, b1, b2, vs0, es, rs, rfl, _⟩ := h
    rfl
  · exact ⟨by unfold interactive; rw [he]; rfl, rfl⟩
  · obtain ⟨x, C, dx, va, ea, b1, b2, vs0, es, rs, rfl, hx, nc, hva, hea, hes, ok, hT, k⟩ := h
    have hu := hu_of hr
    have nd := ss_net_init.nd
    have hr5 : Room 5 _ := hr
    refine ⟨_, _, x, C, dx, _, rfl, hx, nc.mro, nc.sup, pa_cons (pv 1) (pa_cons (pv 2) pa_nil), (pss_cons (ps_fld (pv 0) (pe_c CS hr5 pass0 (pa_cons (pv 0) pa_nil)) rfl)
      (pss_cons (ps_fld (pv 0) (pe_tup pa_nil) rfl)
      (pss_cons (ps_fld (pv 0) (pe_lst pa_nil) rfl)
      (pss_cons (ps_fld (pv 0) pe_int rfl)
      (pss_one (ps_fld (pv 0) pe_int rfl)))))), ?_⟩
    refine ⟨_, rfl, _, rfl, x, C, dx, va, ea, b1, b2, vs0, es, rs, rfl, hx, nc.g, hva, hea, hes, ok, fun p Ws bd nb wt t H2 k2 np hx2 rz pm as ro an ht hmin => ?_⟩
    have T2 : Tabs tbT H2 := tabs_but hT hx trivial k2
    have len : Ws.length = vs0.length := pm.length_eq
    have few := ok.few
    have two := ok.two
    refine ⟨_, rfl, x, C, dx, _, p, t, Ws, bd, nb, wt, rfl, ⟨hx2, nc.g.cls, nc.g.na, nc.g.nt, rfl, rfl⟩, rz, pm.nodup_iff.mpr ok.nd, ok.sym ro pm, by omega, by omega, T2, fun n ms H3 e3 T3 lc => ?_⟩
    have e03 : ExtB x H H3 := fun b o hb hne no => e3 _ _ (k2 b o hb hne) no
    have hx3 := e3 _ _ hx2 (fun ps z => by cases z)
    have rz3 := rz.ext e3
    refine ⟨_, rfl, x, C, dx, _, rfl, hx3, nc.g.cls, nc.nf, by show 2 < 1000; decide, ?_⟩
    have B4 : ExtB x H (upd H3 x (.ins C dx (putF "found" (.int n) [("around", .ref p), ("top", .str t)]))) := fun b o hb hne no => by
      rw [upd_ne hne]
      exact e03 b o hb hne no
    have T4 : Tabs tbT (upd H3 x (.ins C dx (putF "found" (.int n) [("around", .ref p), ("top", .str t)]))) := tabs_upd T3 hx3 trivial
    have rz4 : RowsZ (upd H3 x (.ins C dx (putF "found" (.int n) [("around", .ref p), ("top", .str t)]))) p Ws bd nb wt := ExtB.rz (fun b o hb hne _ => by rw [upd_ne hne]; exact hb) rz3 hx3
    have hx4 : upd H3 x (.ins C dx (putF "found" (.int n) [("around", .ref p), ("top", .str t)])) x = some (.ins C dx [("around", .ref p), ("top", .str t), ("found", .int n)]) := upd_same
    generalize upd H3 x (.ins C dx (putF "found" (.int n) [("around", .ref p), ("top", .str t)])) = H4 at B4 T4 rz4 hx4
    refine ⟨by show 0 ≤ sizeLine; decide, fun me nme => ⟨_, rfl, x, C, dx, _, rfl, (same_upd nme) _ _ hx4, nc.g.cls, nc.nm, by show 3 < 1000; decide, ?_⟩⟩
    have nmx : me ≠ x := Ne.symm (ne_of_none hx4 nme)
    have B5 : ExtB x H (upd (upd H4 me (.tup [])) x (.ins C dx (putF "made" (.ref me) [("around", .ref p), ("top", .str t), ("found", .int n)]))) := fun b o hb hne no => by
      rw [upd_ne hne]
      exact (same_upd nme) _ _ (B4 b o hb hne no)
    have T5 : Tabs tbT (upd (upd H4 me (.tup [])) x (.ins C dx (putF "made" (.ref me) [("around", .ref p), ("top", .str t), ("found", .int n)]))) := tabs_upd (T4.ext (same_upd nme)) ((same_upd nme) _ _ hx4) trivial
    have rz5 : RowsZ (upd (upd H4 me (.tup [])) x (.ins C dx (putF "made" (.ref me) [("around", .ref p), ("top", .str t), ("found", .int n)]))) p Ws bd nb wt := ExtB.rz (fun b o hb hne _ => by rw [upd_ne hne]; exact hb) (rz4.ext (Ext.of (same_upd nme))) ((same_upd nme) _ _ hx4)
    have hx5 : upd (upd H4 me (.tup [])) x (.ins C dx (putF "made" (.ref me) [("around", .ref p), ("top", .str t), ("found", .int n)])) x = some (.ins C dx [("around", .ref p), ("top", .str t), ("found", .int n), ("made", .ref me)]) := upd_same
    have me5 : upd (upd H4 me (.tup [])) x (.ins C dx (putF "made" (.ref me) [("around", .ref p), ("top", .str t), ("found", .int n)])) me = some (.tup []) := by
      rw [upd_ne nmx, upd_same]
    generalize upd (upd H4 me (.tup [])) x (.ins C dx (putF "made" (.ref me) [("around", .ref p), ("top", .str t), ("found", .int n)])) = H5 at B5 T5 rz5 hx5 me5
    refine ⟨by show 0 ≤ sizeLine; decide, fun en nen => ⟨_, rfl, x, C, dx, _, rfl, (same_upd nen) _ _ hx5, nc.g.cls, nc.ne, by show 4 < 1000; decide, ?_⟩⟩
    have nex : en ≠ x := Ne.symm (ne_of_none hx5 nen)
    refine ⟨_, rfl, x, C, dx, _, rfl, upd_same, nc.g.cls, nc.nr, by show 5 < 1000; decide, ?_⟩
    refine ⟨_, rfl, x, C, dx, _, rfl, upd_same, nc.g.cls, nc.ns, by show 6 < 1000; decide, ?_⟩
    rw [upd_upd, upd_upd]
    refine k p Ws bd nb wt t n ms me en _ (fun b o hb hne no => ?_) ?_ upd_same ?_ ?_ (ExtB.rz (fun b o hb hne _ => by rw [upd_ne hne]; exact hb) (rz5.ext (Ext.of (same_upd nen))) ((same_upd nen) _ _ hx5)) pm as ro an ht hmin lc
    · rw [upd_ne hne]
      exact (same_upd nen) _ _ (B5 b o hb hne no)
    · exact tabs_upd (T5.ext (same_upd nen)) ((same_upd nen) _ _ hx5) trivial
    · rw [upd_ne nmx]
      exact (same_upd nen) _ _ me5
    · rw [upd_ne nex, upd_same]
end
end Wk
namespace Wk
open PySem PySem.Spec PyProof.Rows L2 WkD WkN LamX WkP WkE
section
variable {P : Program} {w : World} {K : PySem.W.Frag} {mg : Str → Option Value} {base : Heap}
theorem dct_kV {ks : List Str} {g : Str → V} : (dct ks g).map (fun kv => kV kv.1) = ks.map V.str := by
  unfold dct
  rw [List.map_map]
  rfl
def edR (nb : Nb) (wt : Wt) (u : Str) (l : List Str) : List Ed := (l.filter fun v => decide (ltS u v)).map fun v => (u, v, wt u v)
def edL (Vs : List Str) (nb : Nb) (wt : Wt) : List Ed := Vs.flatMap fun u => edR nb wt u (nb u)
end
end Wk
namespace Wk
open PySem PySem.Spec PyProof.Rows L2 WkD WkN
section
variable {P : Program} {w : World} {K : PySem.W.Frag} {mg : Str → Option Value} {base : Heap}
def words : List Str := ["vertex", "edge", "root", "weight", "name", "merge", "log", "floor", "all", "some", "none", "lone", "round", "apart", "together", "rollback", "a", "b"]
end
end Wk
namespace Wk
open PySem PySem.Spec PyProof.Rows L2 WkD WkN
section
variable {P : Program} {w : World} {K : PySem.W.Frag} {mg : Str → Option Value} {base : Heap}
end
end Wk
namespace Wk
open PySem PySem.Spec PyProof.Rows L2 WkD WkN WkE
section
variable {P : Program} {w : World} {K : PySem.W.Frag} {mg : Str → Option Value} {base : Heap}
end
end Wk
namespace Wk
open PySem PySem.Spec PyProof.Rows L2 WkD WkN WkE
section
variable {P : Program} {w : World} {K : PySem.W.Frag} {mg : Str → Option Value} {base : Heap}
end
end Wk
namespace Wk
open PySem PySem.Spec PyProof.Rows L2 WkD WkN LamX WkP WkE
abbrev prOf (e : Ed) : Pr := (e.1, e.2.1)
theorem edL_mem {Vs : List Str} {nb : Nb} {wt : Wt} {u v : Str} {n : Int} : (u, v, n) ∈ edL Vs nb wt ↔ u ∈ Vs ∧ v ∈ nb u ∧ ltS u v ∧ n = wt u v := by
  unfold edL edR
  rw [List.mem_flatMap]
  constructor
  · rintro ⟨x, hx, h⟩
    obtain ⟨y, hy, e⟩ := List.mem_map.mp h
    simp only [Prod.mk.injEq] at e
    obtain ⟨rfl, rfl, rfl⟩ := e
    rw [List.mem_filter] at hy
    exact ⟨hx, hy.1, of_decide_eq_true hy.2, rfl⟩
  · rintro ⟨h1, h2, h3, rfl⟩
    exact ⟨u, h1, List.mem_map.mpr ⟨v, List.mem_filter.mpr ⟨h2, decide_eq_true h3⟩, rfl⟩⟩
end Wk
namespace Wk
open PySem PySem.Spec PyProof.Rows L2 WkD WkN LamX WkP WkE WkC
section
variable {P : Program} {w : World} {K : PySem.W.Frag} {mg : Str → Option Value} {base : Heap}
def spLawT (K : PySem.W.Frag) (T : List (Addr × Str)) : Sp := fun vs H Q _ => ∃ (a : Addr) (ns : List Int), vs = [.ref a] ∧ SqL K H a (ns.map V.int) ∧ ns.length ≤ 63 ∧ Tabs T H ∧ ∀ H', Q (.bl true) H'
theorem Pen.ext {H H' : Hp} {p cs : Addr} {N : Nat} (P : Pen H p cs N) (s : Ext H H') : Pen H' p cs N := by
  obtain ⟨⟨t, r, h1, h2⟩, ns, h3, h4⟩ := P
  exact ⟨⟨t, r, s _ _ h1 (fun ps z => by cases z), h2⟩, ns, s _ _ h3 (fun ps z => by cases z), h4⟩
end
end Wk
namespace Wk
open PySem PySem.Spec PyProof.Rows L2 WkD WkN LamX WkP WkE
structure GOk (Vs : List Str) (nb : Nb) (wt : Wt) : Prop where
  nm : ∀ u ∈ Vs, nameB u = true
  nd : Vs.Nodup
  two : 2 ≤ Vs.length
  few : Vs.length ≤ 40
  sym : Sym Vs nb wt
  wts : ∀ u ∈ Vs, ∀ v ∈ nb u, 1 ≤ wt u v ∧ wt u v ≤ 1000000000
  con : ∀ s ∈ Vs, ∀ u ∈ Vs, Rch nb s u
theorem Rch.mono {nb nb' : Nb} {s u : Str} {Vs : List Str} (hs : s ∈ Vs) (cl : ∀ u ∈ Vs, ∀ v ∈ nb u, v ∈ Vs) (k : ∀ u ∈ Vs, ∀ v ∈ nb u, v ∈ nb' u) (h : Rch nb s u) : u ∈ Vs ∧ Rch nb' s u := by
  induction h with
  | here => exact ⟨hs, .here⟩
  | go _ e ih => exact ⟨cl _ ih.1 _ e, .go ih.2 (k _ ih.1 _ e)⟩
theorem edL_adj {Vs : List Str} {nb : Nb} {wt : Wt} (sy : Sym Vs nb wt) {u v : Str} {n : Int} (hu : u ∈ Vs) : Adj (edL Vs nb wt) u v n ↔ v ∈ nb u ∧ n = wt u v := by
  unfold Adj
  rw [edL_mem, edL_mem]
  constructor
  · rintro (⟨_, h2, _, h4⟩ | ⟨h1, h2, _, h4⟩)
    · exact ⟨h2, h4⟩
    · obtain ⟨_, _, g3, g4⟩ := sy.mem v h1 u h2
      exact ⟨g3, by rw [g4, h4]⟩
  · rintro ⟨h1, h2⟩
    obtain ⟨g1, g2, g3, g4⟩ := sy.mem u hu v h1
    rcases ltS_tri u v with h | h | h
    · exact .inl ⟨hu, h1, h, h2⟩
    · exact absurd h.symm g2
    · exact .inr ⟨g1, g3, h, by rw [g4]; exact h2⟩
theorem edL_nodup {Vs : List Str} {nb : Nb} {wt : Wt} (nd : Vs.Nodup) (sy : Sym Vs nb wt) : ((edL Vs nb wt).map prOf).Nodup := by
  unfold edL
  have key : ∀ l : List Str, l.Nodup → (∀ u ∈ l, (nb u).Nodup) → ((l.flatMap fun u => edR nb wt u (nb u)).map prOf).Nodup := fun l => by
    induction l with
    | nil =>
      intro _ _
      exact List.nodup_nil
    | cons u r ih =>
      intro h1 h2
      rw [List.nodup_cons] at h1
      rw [List.flatMap_cons, List.map_append, List.nodup_append]
      refine ⟨?_, ih h1.2 fun v hv => h2 v (List.mem_cons_of_mem _ hv), fun a ha b hb e => ?_⟩
      · unfold edR
        rw [List.map_map, List.nodup_iff_pairwise_ne, List.pairwise_map]
        have := (h2 u List.mem_cons_self).filter fun v => decide (ltS u v)
        exact this.imp fun {a b} q e => q (congrArg Prod.snd e)
      · obtain ⟨x, hx, rfl⟩ := List.mem_map.mp ha
        obtain ⟨y, hy, rfl⟩ := List.mem_map.mp hb
        unfold edR at hx
        obtain ⟨x', _, rfl⟩ := List.mem_map.mp hx
        obtain ⟨z, hz, hy⟩ := List.mem_flatMap.mp hy
        unfold edR at hy
        obtain ⟨y', _, rfl⟩ := List.mem_map.mp hy
        have e : u = z := congrArg Prod.fst e
        exact h1.1 (e ▸ hz)
  exact key Vs nd sy.nd
theorem GOk.valid {Vs : List Str} {nb : Nb} {wt : Wt} (g : GOk Vs nb wt) : Valid Vs (edL Vs nb wt) := by
  have snd := edL_nodup (wt := wt) g.nd g.sym
  refine ⟨g.nm, g.nd, g.two, g.few, fun i a b n h => ?_, fun nb' wt' ro s hs u hu => ?_⟩
  · have hm := List.mem_of_getElem? h
    obtain ⟨h1, h2, h3, rfl⟩ := edL_mem.mp hm
    obtain ⟨g1, g2, _, _⟩ := g.sym.mem a h1 b h2
    obtain ⟨w1, w2⟩ := g.wts a h1 b h2
    refine ⟨h1, g1, Ne.symm g2, w1, w2, fun m ha => ?_⟩
    have tkk : ∀ x y, (x, y, m) ∈ (edL Vs nb wt).take i → ∃ j, j < i ∧ (edL Vs nb wt)[j]? = some (x, y, m) := fun x y hxy => by
      obtain ⟨j, hj⟩ := List.getElem?_of_mem hxy
      rw [List.getElem?_take] at hj
      split at hj
      · exact ⟨j, by assumption, hj⟩
      · cases hj
    rcases ha with ha | ha
    · obtain ⟨j, hj, hx⟩ := tkk _ _ ha
      have hi1 := (List.getElem?_eq_some_iff.mp h).1
      have hj1 := (List.getElem?_eq_some_iff.mp hx).1
      have q1 : ((edL Vs nb wt).map prOf)[i]'(by rw [List.length_map]; exact hi1) = (a, b) := by
        rw [List.getElem_map, (List.getElem?_eq_some_iff.mp h).2]
      have q2 : ((edL Vs nb wt).map prOf)[j]'(by rw [List.length_map]; exact hj1) = (a, b) := by
        rw [List.getElem_map, (List.getElem?_eq_some_iff.mp hx).2]
      have := (List.getElem_inj snd).mp (q1.trans q2.symm)
      omega
    · obtain ⟨j, hj, hx⟩ := tkk _ _ ha
      obtain ⟨_, _, k3, _⟩ := edL_mem.mp (List.mem_of_getElem? hx)
      exact ltS_asymm h3 k3
  · have cl : ∀ u ∈ Vs, ∀ v ∈ nb u, v ∈ Vs := fun u hu v hv => (g.sym.mem u hu v hv).1
    exact (Rch.mono (nb' := nb') hs cl (fun u hu v hv => (ro.mem u hu v).mpr ⟨_, (edL_adj g.sym hu).mpr ⟨hv, rfl⟩⟩) (g.con s hs u hu)).2
structure SameG (Vs : List Str) (nb : Nb) (wt : Wt) (nb' : Nb) (wt' : Wt) : Prop where
  mem : ∀ u ∈ Vs, ∀ v, v ∈ nb' u ↔ v ∈ nb u
  val : ∀ u ∈ Vs, ∀ v ∈ nb u, wt' u v = wt u v
theorem SameG.of_rows {Vs : List Str} {nb nb' : Nb} {wt wt' : Wt} (sy : Sym Vs nb wt) (ro : RowsOf Vs (edL Vs nb wt) nb' wt') : SameG Vs nb wt nb' wt' := by
  refine ⟨fun u hu v => ?_, fun u hu v hv => ?_⟩
  · rw [ro.mem u hu v]
    constructor
    · rintro ⟨n, hn⟩
      exact ((edL_adj sy hu).mp hn).1
    · intro hv
      exact ⟨_, (edL_adj sy hu).mpr ⟨hv, rfl⟩⟩
  · exact ro.val u hu v _ ((edL_adj sy hu).mpr ⟨hv, rfl⟩)
theorem SameG.gok {Vs Ws : List Str} {nb nb' : Nb} {wt wt' : Wt} (h : SameG Vs nb wt nb' wt') (g : GOk Vs nb wt) (pm : Ws.Perm Vs) (nd : ∀ u ∈ Ws, (nb' u).Nodup) : GOk Ws nb' wt' := by
  have ln := pm.length_eq
  have cl : ∀ u ∈ Vs, ∀ v ∈ nb u, v ∈ Vs := fun u hu v hv => (g.sym.mem u hu v hv).1
  refine ⟨fun u hu => g.nm u (pm.mem_iff.mp hu), pm.nodup_iff.mpr g.nd, by rw [ln]; exact g.two, by rw [ln]; exact g.few, ⟨nd, fun u hu v hv => ?_⟩, fun u hu v hv => ?_, fun s hs u hu => ?_⟩
  · have hu := pm.mem_iff.mp hu
    have hv := (h.mem u hu v).mp hv
    obtain ⟨g1, g2, g3, g4⟩ := g.sym.mem u hu v hv
    exact ⟨pm.mem_iff.mpr g1, g2, (h.mem v g1 u).mpr g3, by rw [h.val v g1 u g3, h.val u hu v hv, g4]⟩
  · have hu := pm.mem_iff.mp hu
    have hv := (h.mem u hu v).mp hv
    rw [h.val u hu v hv]
    exact g.wts u hu v hv
  · have hs := pm.mem_iff.mp hs
    have hu := pm.mem_iff.mp hu
    exact (Rch.mono (nb' := nb') hs cl (fun u hu v hv => (h.mem u hu v).mpr hv) (g.con s hs u hu)).2
theorem SameG.edges {Vs Ws : List Str} {nb nb' : Nb} {wt wt' : Wt} (h : SameG Vs nb wt nb' wt') (pm : Ws.Perm Vs) (e : Ed) : e ∈ edL Ws nb' wt' ↔ e ∈ edL Vs nb wt := by
  obtain ⟨u, v, n⟩ := e
  rw [edL_mem, edL_mem]
  constructor
  · rintro ⟨h1, h2, h3, rfl⟩
    have h1 := pm.mem_iff.mp h1
    have h2 := (h.mem u h1 v).mp h2
    exact ⟨h1, h2, h3, h.val u h1 v h2⟩
  · rintro ⟨h1, h2, h3, rfl⟩
    exact ⟨pm.mem_iff.mpr h1, (h.mem u h1 v).mpr h2, h3, (h.val u h1 v h2).symm⟩
end Wk
namespace WkK
open PySem PySem.Spec PyProof.Rows L2
def gAt (K : PySem.W.Frag) (te : TE) (f : Str) : TG := fun v σ H Q => te σ H fun x H1 => ∃ a C dx fs, x = .ref a ∧ H1 a = some (.ins C dx fs) ∧ Cls K C ∧ NoAttr K C f ∧ fs.length < 1000 ∧ Q σ (upd H1 a (.ins C dx (putF f v fs)))
theorem pg_at {X : Cx} {o : Expr} {f : Str} {pos : Pos} {to : TE} (ho : PE X o to) : PG X (.Attribute o f pos) (gAt X.K to f) := by
  refine ⟨fun pins s σ H v u Q I r h => ?_⟩
  show wpAny _ _ (do let ov ← holding [u] (eval o X.env); standAt pos.atName; holding [u, ov] (setAttr ov f u); release [u, ov] []) _ _ _
  refine wpAny_bind (wpAny_holding (thn (ho.run pins s σ H _ I h) fun ov s1 ⟨x, H1, I1, r1, a, C, dx, fs, ex, ea, c, n, l, q⟩ => ?_))
  subst ex
  obtain rfl : ov = Value.ref a := r1
  refine wpAny_bind (wpAny_standAt (wpAny_bind (wpAny_holding ?_)))
  exact setattr_ok I1 ea c n l r fun s2 I2 => wpAny_release ⟨σ, _, I2, q⟩
section
variable {X : Cx} {x f : Str} {C fI : Addr}
def tMkX (C : Addr) (f : Str) (ta : TA) : L2.St → Hp → XK → Prop := fun σ H Q => ta σ H fun vs H1 => ∃ v, vs = [v] ∧ ∀ d, H1 d = none → Q (.ref C) (some d) (upd H1 d (.xd [(f, v)]))
theorem pmk_E {a : Expr} {ta : TA} {p pos : Pos} {k : Nat} (T : WkX.ExcT X.K X.mg x f C fI) (hr : Room k X.A) (ha : PA X [a] ta) (hg : Gl X x := by rfl) (hdb : (x == ("__debug__" : Str)) = false := by decide)
    (he : starEach (a :: []) X.env = (false, eval a X.env) :: starEach [] X.env := by rfl) (hpl : (backTo pos (starEach [] X.env)).any (·.1) = false := by rfl) :
    PMk X (.Call (.Name x p) [a] [] pos) (tMkX C f ta) := by
  intro pins s σ H Q I h
  refine wpAny_Call_Name_kw (ld_glob I hg T.gC ?_ hdb)
  refine PySem.W.callWith_K (h₀ := X.base) I.ok.mod.kin T.kC (thn (ha.run pos pins s σ H _ I h) fun us s1 hh => ?_) he hpl
  obtain ⟨vs, H1, I1, r1, v, ev, q1⟩ := hh
  subst ev
  refine ⟨I1.kIn, ?_⟩
  cases r1 with
  | cons rv rn =>
    rename_i v' us'
    cases rn
    show wpAny _ _ (call (.ref C) [v']) _ _ _
    have hlim := I1.nolimit
    obtain ⟨hp, g, dr, tk, os⟩ := s1
    refine wpAny_call (WkX.made_ (v := v') T (.inl rfl) I1.kIn hlim (by have := hr.dp; omega) fun h' tk' e d M => ?_)
    show MkP X pins σ Q (.ref e) ⟨h', g, dr, tk', os⟩
    obtain ⟨t1, hoe⟩ := M.obj
    have hns := M.ns
    obtain ⟨G, g1, g2⟩ := restrict h' fun b => decide (b ≠ e)
    have gk : ∀ b, b ≠ e → G.get? b = h'.get? b := fun b hb => g1 b (decide_eq_true hb)
    have ge : G.get? e = none := g2 e (by simp)
    have old : ∀ b o, hp.get? b = some o → G.get? b = some o := fun b o q => (gk b (Nat.ne_of_lt (Nat.lt_of_lt_of_le (Heap.lt_size q) M.new))).trans (M.keep b o q)
    have ob : ObjOk X.prog X.w (upd H1 d (.xd [(f, v)])) G d (.xd [(f, v)]) := ⟨_, hns.at (fun o q => (gk d M.dne).trans q), fun g => WkX.relO_one rv g⟩
    have J : Inv X pins σ (upd H1 d (.xd [(f, v)])) ⟨G, g, dr, tk', os⟩ := I1.laid (t' := tk') old M.dbig ob
    refine ⟨e, _, _, ⟨G, g, dr, tk', os⟩, _, .ref C, some d, rfl, J, fun b o q => ?_, ge, hoe, ⟨rfl, rfl⟩, rfl, rfl, ?_, rfl, I1.bare, raises_own T.exC T.tyC, q1 d (I1.hok.fresh M.dbig)⟩
    · by_cases hb : b = e
      · have q' : G.get? b = some o := q
        rw [hb, ge] at q'
        cases q'
      · exact (gk b hb).symm.trans q
    · rw [upd_ne (Ne.symm M.dne)]
      exact I1.hok.fresh M.new
def tRaiseE (C : Addr) (f : Str) (W : WX) (ta : TA) : TS := fun _ σ H => tMkX C f ta σ H fun cls d H' => W cls d σ H'
theorem ps_raiseE {a : Expr} {ta : TA} {W : WX} {p pos pos2 : Pos} {k : Nat} (hc : X.calm = true) (T : WkX.ExcT X.K X.mg x f C fI) (hr : Room k X.A) (tk : Takes X W) (ha : PA X [a] ta) (hg : Gl X x := by rfl) (hdb : (x == ("__debug__" : Str)) = false := by decide)
    (he : starEach (a :: []) X.env = (false, eval a X.env) :: starEach [] X.env := by rfl) (hpl : (backTo pos (starEach [] X.env)).any (·.1) = false := by rfl) :
    PS X (.Raise (some (.Call (.Name x p) [a] [] pos)) none pos2) (tRaiseE C f W ta) := ps_raise hc tk (pmk_E T hr ha hg hdb he hpl)
end
def sDDel2 (td ty td2 ty2 : TE) : TS := fun D σ H => td σ H fun x H1 => ty σ H1 fun y H2 => ∃ a kvs k, x = .ref a ∧ H2 a = some (.dK kvs) ∧ y = kV k ∧ (valV kvs k).isSome = true ∧
  td2 σ (upd H2 a (.dK (dropK kvs k))) fun x H1 => ty2 σ H1 fun y H2 => ∃ a kvs k, x = .ref a ∧ H2 a = some (.dK kvs) ∧ y = kV k ∧ (valV kvs k).isSome = true ∧ D.nx σ (upd H2 a (.dK (dropK kvs k)))
theorem ps_ddel2 {X : Cx} {o i o2 i2 : Expr} {pos tpos tpos2 : Pos} {td ty td2 ty2 : TE} (ho : PE X o td) (hi : PE X i ty) (ho2 : PE X o2 td2) (hi2 : PE X i2 ty2) : PS X (.Delete [.Subscript o i tpos, .Subscript o2 i2 tpos2] pos) (sDDel2 td ty td2 ty2) := by
  refine ⟨fun pins s σ H D I h => ?_⟩
  refine wpAny_Delete (wpAny_deleteEach_cons (wpAny_delete_Subscript (thn (ho.run pins s σ H _ I h) fun u s1 ⟨x, H1, I1, rx, q1⟩ => thn (hi.run pins s1 σ H1 _ I1 q1) fun iv s2 ⟨y, H2, I2, ry, a, kvs, k, ex, e, ey, l, q2⟩ => ?_)))
  subst ex ey
  obtain rfl : u = Value.ref a := rx
  refine d_delItem I2 e ry l fun s3 I3 => ?_
  refine wpAny_deleteEach_cons (wpAny_delete_Subscript (thn (ho2.run pins s3 σ _ _ I3 q2) fun u s4 ⟨x, H4, I4, rx, q4⟩ => thn (hi2.run pins s4 σ H4 _ I4 q4) fun iv s5 ⟨y, H5, I5, ry, a, kvs, k, ex, e, ey, l, q5⟩ => ?_))
  subst ex ey
  obtain rfl : u = Value.ref a := rx
  exact d_delItem I5 e ry l fun s6 I6 => wpAny_deleteEach_nil ⟨σ, _, I6, q5⟩
theorem passF {X : Cx} : Passes (CX X.prog X.w) X (fun _ _ _ => False) := fun _ _ _ _ _ _ _ c => by
  obtain ⟨a, B, H', cls, d, _, _, _, _, _, _, _, z⟩ := c
  exact z.elim
section
variable {X : Cx} {pins : List (Addr × Obj)} {σ : L2.St} {H : Hp} {s : Shared}
end
section
variable {X : Cx} {x n : Str} {c : Value} {i : Nat} {body suite : List Stmt} {b₀ : Stmt} {np pos pos' : Pos} {tb : WX → TS} {ts : Addr → Value → Option Addr → TS} {Wout : WX}
end
end WkK
namespace Wk
open PySem PySem.Spec PyProof.Rows L2 WkD WkN LamX WkP WkE WkC
section
variable {P : Program} {w : World} {K : PySem.W.Frag} {mg : Str → Option Value} {base : Heap}
def RowsX (b : Bool) (H : Hp) (a : Addr) (Vs : List Str) (ad : Str → Addr) (nb : Nb) (wt : Wt) : Prop := match b with
  | true => RowsZ H a Vs ad nb wt
  | false => RowsM H a Vs ad nb wt
theorem rows_fz {b : Bool} {H : Hp} {a : Addr} {Vs : List Str} {ad : Str → Addr} {nb : Nb} {wt : Wt} {Q : Hp → Prop} (R : RowsX b H a Vs ad nb wt) (k : ∀ H', RowsZ H' a Vs ad nb wt → (∀ c o, H c = some o → (b = false → c ≠ a ∧ ∀ u ∈ Vs, c ≠ ad u) → H' c = some o) → Q H') : ∃ l, tFz l Q H := by
  cases b with
  | true => exact ⟨[], k H R fun c o h _ => h⟩
  | false =>
    have R : RowsM H a Vs ad nb wt := R
    refine ⟨(a, .dK (dct Vs fun u => .ref (ad u))) :: Vs.map fun u => (ad u, .dK (dct (nb u) fun v => .int (wt u v))), tFz_intro (fun p hp => ?_) ?_ fun H' h1 h2 => k H' ⟨?_, fun u hu => ?_⟩ fun c o hc hn => ?_⟩
    · rcases List.mem_cons.mp hp with rfl | hp
      · exact ⟨R.top, trivial⟩
      · obtain ⟨u, hu, rfl⟩ := List.mem_map.mp hp
        exact ⟨R.row u hu, trivial⟩
    · rw [List.map_cons, List.map_map, List.nodup_cons]
      refine ⟨fun z => ?_, ?_⟩
      · obtain ⟨u, hu, e⟩ := List.mem_map.mp z
        exact R.ne hu e
      · have := R.nd
        rw [List.nodup_iff_pairwise_ne] at this ⊢
        rw [List.pairwise_map]
        exact List.Pairwise.imp_of_mem (fun {u v} hu hv hne e => hne (R.inj u hu v hv e)) this
    · exact h1 (a, _) List.mem_cons_self
    · exact h1 (ad u, _) (List.mem_cons_of_mem _ (List.mem_map.mpr ⟨u, hu, rfl⟩))
    · obtain ⟨n1, n2⟩ := hn rfl
      rw [h2 c fun z => ?_]
      · exact hc
      · rw [List.map_cons, List.map_map] at z
        rcases List.mem_cons.mp z with z | z
        · exact n1 z
        · obtain ⟨u, hu, e⟩ := List.mem_map.mp z
          exact n2 u hu e.symm
structure GraphAt (H : Hp) (x C : Addr) (Ws : List Str) (nb : Nb) (wt : Wt) : Prop where
  ex : ∃ (dx p : Addr) (t : Str) (ad : Str → Addr), H x = some (.ins C dx [("around", .ref p), ("top", .str t)]) ∧ RowsZ H p Ws ad nb wt
  asc : Asc Ws
  an : ∀ u ∈ Ws, Asc (nb u)
def spGraphOf (C : Addr) : Sp := fun vs H Q _ => ∃ (a : Addr) (b : Bool) (Vs : List Str) (ad : Str → Addr) (nb : Nb) (wt : Wt), vs = [.ref a] ∧ RowsX b H a Vs ad nb wt ∧ GOk Vs nb wt ∧
  ∀ x Ws nb' wt' H', (∀ c o, H c = some o → (b = false → c ≠ a ∧ ∀ u ∈ Vs, c ≠ ad u) → H' c = some o) → H x = none → GraphAt H' x C Ws nb' wt' → Ws.Perm Vs → SameG Vs nb wt nb' wt' → Q (.ref x) H'
theorem sc_graph_of : FnScope ["around", "edges", "u", "row", "v", "weight"] ["around"] (defScope s_graph_of) := ⟨rfl, rfl, rfl, by decide +kernel, rfl, by decide +kernel, by decide +kernel⟩
theorem c_graph_of {CG : Addr} (D : Def K mg "graph_of" s_graph_of) (B : Bi mg) (gc : GCls K CG) (GC : MakeC P w K mg base CX0 CG "Graph" 3 (spGraph K)) : Callee P w K mg base CX0 5 "graph_of" ["around"] (spGraphOf CG) := by
  obtain ⟨f, fd, F, g⟩ := D
  refine ⟨f, fd, F.ok sc_graph_of (fun vs H Q E h => ?_) (fun cdv A outer s H vs Q E hr h => ?_), g, F.kp, F.bindsN (fun _ _ _ _ _ _ us hl => match us, hl with | [_], _ => rfl)⟩
  · obtain ⟨a, b, Vs, ad, nb, wt, rfl, _⟩ := h
    rfl
  have nd := sc_graph_of.nd
  have hr4 : Room 4 _ := hr
  refine ⟨_, PSs.nox (pss_cons (WkD.ps_fz0 (ps_setLc2 (i := 1) (own := [("u", 2), ("row", 3), ("v", 4), ("weight", 5)]) (vs1 := [4, 5]) (by rfl) nd rfl rfl (sw_true rfl rfl rfl (by decide +kernel)) (pi_items (pv 0)) (blkOk_by (by kernel_rfl)) (by decide) (fun _ _ _ _ _ => (WkN.pgT K 2 rfl rfl (pgs_cons (pg_name (i := 2) nd rfl (Or.inl rfl)) (pgs_cons (pg_name (i := 3) nd rfl (Or.inl rfl)) pgs_nil)) rfl)) (fun _ _ _ _ _ => pts_nil) (fun _ _ _ _ _ => (pi_items (pv 3))) (fun _ _ _ _ _ => (WkN.pgT K 2 rfl rfl (pgs_cons (pg_name (i := 4) nd rfl (Or.inl rfl)) (pgs_cons (pg_name (i := 5) nd rfl (Or.inl rfl)) pgs_nil)) rfl)) (fun _ _ _ _ _ => (pts_one (pt_cmpR op_lt_str (pv 2) (pv 4) (nomark _)))) (fun _ _ _ _ _ => (pe_tup (pa_cons (pv 2) (pa_cons (pv 4) (pa_cons (pv 5) pa_nil)))))))
      (pss_one (ps_ret (WkC.pe_mk GC hr4 pass0 (pa_cons (pe_callTy (call_listD rfl) (by rfl) B.n_list (by decide +kernel) (pa_cons (pv 0) pa_nil)) (pa_cons (pv 1) pa_nil)))))), ?_⟩
  obtain ⟨a, b, Vs, ad, nb, wt, rfl, R0, go, k⟩ := h
  refine rows_fz R0 fun H0 R k0 => ?_
  obtain ⟨o, ht⟩ := R.top
  have big : 2000000 < sizeLine := by decide
  have l1 := go.few
  have l2 : ∀ u ∈ Vs, (nb u).length ≤ 1000 := fun u hu => by
    have : (nb u).length ≤ Vs.length := (go.sym.nd u hu).length_le_of_subset fun y hy => (go.sym.mem u hu y hy).1
    omega
  refine ⟨_, rfl, a, o, _, rfl, ht, fun D nD => ?_⟩
  refine in_it (walk_items (kvs := dct Vs fun u => .ref (ad u))) (fun i Hc => ∃ rs : List Addr, Same H0 Hc ∧ Hc D = some (.lst (rs.map V.ref)) ∧ EdsAt K Hc rs (edL (Vs.take i) nb wt) ∧ rs.length ≤ 1000 * i)
    ⟨[], same_upd nD, upd_same, ⟨rfl, fun i r e h => absurd h (by simp)⟩, by simp⟩ ?_ ?_ ?_
  · rintro i Hc hi ⟨rs, q1, q2, q3, q4⟩
    exact q1 _ _ ht
  · rintro i x Hc Hc' hi ⟨rs, q1, q2, q3, q4⟩ ⟨T, kx, vx, rfl, nT, rfl, hkx, hvx⟩
    rw [dct_len] at hi
    dsimp only at hkx hvx
    rw [dct_at, List.getElem?_eq_getElem hi] at hkx hvx
    cases hkx
    cases hvx
    obtain ⟨u, eu⟩ : ∃ u, u = Vs[i] := ⟨_, rfl⟩
    have hu : u ∈ Vs := eu ▸ List.getElem_mem hi
    have tk := takeS (List.getElem?_eq_getElem hi)
    rw [← eu] at tk
    have s1 : Same H0 (upd Hc T (.tup [.str u, .ref (ad u)])) := q1.trans (same_upd nT)
    have D1 := (same_upd (o := .tup [.str u, .ref (ad u)]) nT) _ _ q2
    have E1 := q3.same (same_upd (o := .tup [.str u, .ref (ad u)]) nT)
    have P1 : upd Hc T (.tup [.str u, .ref (ad u)]) T = some (.tup [.str u, .ref (ad u)]) := upd_same
    rw [← eu]
    show gTup _ _ _ _ _ (upd Hc T (.tup [.str u, .ref (ad u)])) _
    generalize upd Hc T (.tup [.str u, .ref (ad u)]) = H1 at s1 D1 E1 P1
    refine ⟨T, _, rfl, .inl (.inl P1), rfl, _, _, rfl, _, _, rfl, rfl, rfl, tYes_if ?_⟩
    obtain ⟨o2, hr2⟩ := R.row u hu
    refine ⟨_, rfl, ad u, o2, _, rfl, s1 _ _ hr2, ?_⟩
    have ln := l2 u hu
    refine in_it (walk_items (kvs := dct (nb u) fun v => .int (wt u v))) (fun j Hc => ∃ rs : List Addr, Same H0 Hc ∧ Hc D = some (.lst (rs.map V.ref)) ∧ EdsAt K Hc rs (edL (Vs.take i) nb wt ++ edR nb wt u ((nb u).take j)) ∧ rs.length ≤ 1000 * i + j)
      ⟨rs, s1, D1, by simpa [edR] using E1, by omega⟩ ?_ ?_ ?_
    · rintro j Hc hj ⟨rs, q1, q2, q3, q4⟩
      exact q1 _ _ hr2
    · rintro j x Hc Hc' hj ⟨rs, q1, q2, q3, q4⟩ ⟨T2, kx, vx, rfl, nT2, rfl, hkx, hvx⟩
      rw [dct_len] at hj
      dsimp only at hkx hvx
      rw [dct_at, List.getElem?_eq_getElem hj] at hkx hvx
      cases hkx
      cases hvx
      obtain ⟨v, ev⟩ : ∃ v, v = (nb u)[j] := ⟨_, rfl⟩
      have tk2 := takeS (List.getElem?_eq_getElem hj)
      rw [← ev] at tk2 ⊢
      have s1 : Same H0 (upd Hc T2 (.tup [.str v, .int (wt u v)])) := q1.trans (same_upd nT2)
      have D1 := (same_upd (o := .tup [.str v, .int (wt u v)]) nT2) _ _ q2
      have E1 := q3.same (same_upd (o := .tup [.str v, .int (wt u v)]) nT2)
      have P1 : upd Hc T2 (.tup [.str v, .int (wt u v)]) T2 = some (.tup [.str v, .int (wt u v)]) := upd_same
      show gTup _ _ _ _ _ (upd Hc T2 (.tup [.str v, .int (wt u v)])) _
      generalize upd Hc T2 (.tup [.str v, .int (wt u v)]) = H1 at s1 D1 E1 P1
      refine ⟨T2, _, rfl, .inl (.inl P1), rfl, _, _, rfl, _, _, rfl, rfl, rfl, ?_⟩
      have ef : edR nb wt u ((nb u).take (j + 1)) = edR nb wt u ((nb u).take j) ++ (if ltS u v then [(u, v, wt u v)] else []) := by
        rw [tk2]
        unfold edR
        rw [List.filter_append, List.map_append]
        congr 1
        by_cases h : ltS u v
        · simp [h]
        · simp [h]
      refine ⟨_, rfl, _, rfl, _, _, rfl, rfl, _, rfl, ite2 (fun hb => ?_) (fun hb => ?_)⟩
      · have hb : ltS u v := of_decide_eq_true hb
        refine ⟨_, rfl, _, rfl, _, rfl, by show 3 ≤ sizeLine; decide, fun p np => ?_⟩
        have D2 := (same_upd (o := .tup [.str u, .str v, .int (wt u v)]) np) _ _ D1
        refine ⟨_, D2, by rw [List.length_map]; omega, rs ++ [p], ?_, ?_, ?_, ?_⟩
        · intro b o hb
          rw [upd_ne (ne_of_none hb nD)]
          exact (same_upd np) _ _ (s1 _ _ hb)
        · rw [upd_same, List.map_append]
          rfl
        · rw [ef, if_pos hb, ← List.append_assoc]
          have npD : p ≠ D := fun z => by
            rw [z, D1] at np
            cases np
          have E2 : EdsAt K (upd (upd H1 p (.tup [.str u, .str v, .int (wt u v)])) D (.lst (rs.map V.ref ++ [.ref p]))) rs (edL (Vs.take i) nb wt ++ edR nb wt u ((nb u).take j)) := by
            refine ⟨E1.1, fun i r e h1 h2 => ?_⟩
            have z := WkG.seqT_same (same_upd (o := .tup [.str u, .str v, .int (wt u v)]) np) (E1.2 i r e h1 h2)
            rcases z with (z | ⟨o, z⟩) | z
            · exact .inl (.inl (by rw [upd_ne (ne_of z D2 (by intro q; cases q))]; exact z))
            · exact .inl (.inr ⟨o, by rw [upd_ne (ne_of z D2 (by intro q; cases q))]; exact z⟩)
            · exact .inr z
          exact E2.snoc (fun _ _ h => h) (by rw [upd_ne npD, upd_same])
        · rw [List.length_append, List.length_singleton]
          omega
      · have hb : ¬ ltS u v := fun z => hb (decide_eq_true z)
        exact ⟨rs, s1, D1, by rw [ef, if_neg hb, List.append_nil]; exact E1, by omega⟩
    · rintro Hc ⟨rs, q1, q2, q3, q4⟩
      rw [dct_len] at q3 q4
      refine ⟨rs, q1, q2, ?_, by rw [Nat.mul_add]; omega⟩
      rw [List.take_length] at q3
      rw [tk]
      unfold edL at q3 ⊢
      rw [List.flatMap_append]
      simpa using q3
  · rintro Hc ⟨rs, q1, q2, q3, q4⟩
    rw [dct_len, List.take_length] at q3
    obtain ⟨oc, htc⟩ : ∃ oc, Hc a = some (.frz oc (.dK (dct Vs fun u => .ref (ad u)))) := ⟨o, q1 _ _ ht⟩
    refine ⟨_, rfl, a, _, rfl, .inr ⟨oc, htc⟩, fun p1 n1 => ?_⟩
    rw [dct_kV]
    generalize gg1 : upd _ p1 _ = G1; obtain ⟨s1, L1⟩ := new_eq n1 gg1; clear gg1
    refine ⟨_, rfl, ?_⟩
    intro x dx nx ndx nex
    have s2 : Same G1 (upd G1 dx (.own x)) := same_upd ndx
    have nx1 : upd G1 dx (.own x) x = none := by rw [upd_ne (Ne.symm nex)]; exact nx
    have s3 := s2.trans (same_upd (o := .ins CG dx []) nx1)
    refine ⟨x, CG, dx, p1, D, true, true, Vs, _, rs, rfl, upd_same, gc, (s3.seq (SqL.of L1) : SqL K _ p1 _), (s3.seq (SqL.of (s1 _ _ q2)) : SqL K _ D _), (q3.same s1).same s3, go.valid, fun p Ws bd nb' wt' t H' kH np hx' rz pm as ro an ht' hmin => ⟨rfl, ?_⟩⟩
    have nxH0 : H0 x = none := np_of (q1.trans s1) nx
    have nxH : H x = none := by
      cases z : H x with
      | none => rfl
      | some ob =>
        by_cases e : b = false ∧ (x = a ∨ ∃ u ∈ Vs, x = ad u)
        · obtain ⟨_, e | ⟨u, hu, e⟩⟩ := e
          · rw [e, ht] at nxH0
            cases nxH0
          · obtain ⟨o2, h2⟩ := R.row u hu
            rw [e, h2] at nxH0
            cases nxH0
        · rw [k0 x ob z fun hb => ⟨fun e1 => e ⟨hb, .inl e1⟩, fun u hu e1 => e ⟨hb, .inr ⟨u, hu, e1⟩⟩⟩] at nxH0
          cases nxH0
    refine k x Ws nb' wt' H' (fun c ob hc hn => ?_) nxH ⟨⟨dx, p, t, bd, hx', rz⟩, as, an⟩ pm (SameG.of_rows go.sym ro)
    refine kH c ob (s3 _ _ (s1 _ _ (q1 _ _ (k0 c ob hc hn)))) (ne_of_none hc nxH)
structure FCls (K : PySem.W.Frag) (C : Addr) : Prop where
  cls : Cls K C
  na : NoAttr K C "around"
  nt : NoAttr K C "top"
  nf : NoAttr K C "found"
  nm : NoAttr K C "made"
  ne : NoAttr K C "entries"
  nr : NoAttr K C "running"
  ns : NoAttr K C "since"
theorem NCls.f {C D fG : Addr} (h : NCls K C D fG) : FCls K C := ⟨h.g.cls, h.g.na, h.g.nt, h.nf, h.nm, h.ne, h.nr, h.ns⟩
def RestOk (rest : List (Str × V)) : Prop := rest = [] ∨ ∃ v, rest = [(("least" : Str), v)]
theorem RestOk.no {rest : List (Str × V)} (h : RestOk rest) {m : Str} (hm : (m == ("least" : Str)) = false) : rest.lookup m = none := by
  rcases h with rfl | ⟨v, rfl⟩
  · rfl
  · rw [List.lookup_cons, hm]
    rfl
theorem RestOk.len {rest : List (Str × V)} (h : RestOk rest) : rest.length ≤ 1 := by
  rcases h with rfl | ⟨v, rfl⟩
  · exact Nat.zero_le _
  · exact Nat.le_refl _
structure NetO (H : Hp) (x C : Addr) (rest : List (Str × V)) (vs : List Str) (nb : Nb) (wt : Wt) (t : Str) (n : Int) (m e : Addr) (r s : Int) : Prop where
  ex : ∃ (dx p : Addr) (ad : Str → Addr), H x = some (.ins C dx (netF p t n m e r s ++ rest)) ∧ RowsZ H p vs ad nb wt
  rst : RestOk rest
  asc : Asc vs
  an : ∀ u ∈ vs, Asc (nb u)
  gok : GOk vs nb wt
  lc : ∃ ms, LeastCut vs nb wt n ms
  rt : t ∈ vs
theorem tabs_rows {T : List (Addr × Str)} {b : Bool} {H H' : Hp} {a : Addr} {Vs : List Str} {ad : Str → Addr} {nb : Nb} {wt : Wt} (R : RowsX b H a Vs ad nb wt) (t : Tabs T H) (k : ∀ c o, H c = some o → (b = false → c ≠ a ∧ ∀ u ∈ Vs, c ≠ ad u) → H' c = some o) : Tabs T H' := fun p hp => by
  obtain ⟨ps, h1, h2, h3⟩ := t p hp
  have no : ∀ c o, H c = some o → (∀ kvs, o ≠ .dK kvs) → H' c = some o := fun c o h n => k c o h fun hb => by
    subst hb
    have R : RowsM H a Vs ad nb wt := R
    exact ⟨ne_of h R.top (n _), fun u hu => ne_of h (R.row u hu) (n _)⟩
  refine ⟨ps, no _ _ h1 (fun kvs z => by cases z), h2, fun pos cv hc => ?_⟩
  obtain ⟨c, e1, e2⟩ := h3 pos cv hc
  exact ⟨c, e1, no _ _ e2 (fun kvs z => by cases z)⟩
def spCk : Sp := fun vs H Q _ => ∃ (x : Addr) (n : Int), vs = [.ref x, .int n] ∧ Q .non H
theorem sc_ck : FnScope ["self", "strength"] ["self", "strength"] (defScope s_Network_check_strength) := ⟨rfl, rfl, rfl, by decide +kernel, rfl, by decide +kernel, by decide +kernel⟩
theorem ok_ck {f : Addr} {fd : FuncData} (F : FnP K "check_strength" "Network.check_strength" s_Network_check_strength f fd) : FnOk P w K mg base CX0 1 f fd ["self", "strength"] spCk := by
  refine F.ok sc_ck (fun vs H Q E h => ?_) (fun cdv A outer s H vs Q E hr h => ⟨_, PSs.nox (pss_one ps_pass), ?_⟩)
  · obtain ⟨x, n, rfl, _⟩ := h
    rfl
  · obtain ⟨x, n, rfl, k⟩ := h
    exact k
structure AccC (P : Program) (w : World) (K : PySem.W.Frag) (mg : Str → Option Value) (base : Heap) (C : Addr) : Prop where
  f : FCls K C
  ck : MethC P w K mg base CX0 C "check_strength" 1 spCk
theorem AccC.cls {C : Addr} (h : AccC P w K mg base C) : Cls K C := h.f.cls
def AccE (b : Bool) (x a : Addr) (Vs : List Str) (ad : Str → Addr) (H H' : Hp) : Prop := ∀ c o, H c = some o → c ≠ x → (∀ ps, o ≠ .tbl ps) → (b = false → c ≠ a ∧ ∀ u ∈ Vs, c ≠ ad u) → H' c = some o
def spAccept (K : PySem.W.Frag) (T : List (Addr × Str)) (C : Addr) : Sp := fun vs H Q _ => ∃ (x ed a dx p m e : Addr) (rest : List (Str × V)) (t t0 : Str) (n r s : Int) (ms : List V) (b : Bool) (Vs : List Str) (ad : Str → Addr) (nb : Nb) (wt : Wt), vs = [.ref x, .ref ed, .ref a, .str t] ∧
  H x = some (.ins C dx (netF p t0 n m e r s ++ rest)) ∧ RestOk rest ∧ SqT K H m ms ∧ ms.length < 1000000 ∧ RowsX b H a Vs ad nb wt ∧ GOk Vs nb wt ∧ t ∈ Vs ∧ Tabs T H ∧
  ∀ Ws nb' wt' n' m' H', AccE b x a Vs ad H H' → Tabs T H' → NetO H' x C rest Ws nb' wt' t n' m' e r (s + 1) → H' m' = some (.tup (ms ++ [.ref ed])) → Ws.Perm Vs → SameG Vs nb wt nb' wt' → Q .non H'
theorem sc_accept : FnScope ["self", "edit", "around", "top", "graph", "strength"] ["self", "edit", "around", "top"] (defScope s_Network_accept) := ⟨rfl, rfl, rfl, by decide +kernel, rfl, by decide +kernel, by decide +kernel⟩
theorem ok_accept {f : Addr} {fd : FuncData} {CG C : Addr} {tbT : List (Addr × Str)} (F : FnP K "accept" "Network.accept" s_Network_accept f fd) (gc : GCls K CG) (NK : AccC P w K mg base C) (CG : Callee P w K mg base CX0 5 "graph_of" ["around"] (spGraphOf CG))
    (CS : Callee P w K mg base CX0 5 "strength_of" ["graph"] (spStrength K tbT)) : FnOk P w K mg base CX0 6 f fd ["self", "edit", "around", "top"] (spAccept K tbT C) := by
  refine F.ok sc_accept (fun vs H Q E h => ?_) (fun cdv A outer s H vs Q E hr h => ?_)
  · obtain ⟨x, ed, a, dx, p, m, e, rest, t, t0, n, r, s, ms, b, Vs, ad, nb, wt, rfl, _⟩ := h
    rfl
  have nd := sc_accept.nd
  have hr5 : Room 5 _ := hr
  have hr1 : Room 1 _ := hr.mono (by decide)
  refine ⟨_, PSs.nox (pss_cons (ps_set (i := 4) nd rfl (Or.inl rfl) (pe_c CG hr5 pass0 (pa_cons (pv 2) pa_nil)))
      (pss_cons (ps_set (i := 5) nd rfl (Or.inl rfl) (pe_c CS hr5 pass0 (pa_cons (pv 4) pa_nil)))
      (pss_cons (ps_expr (WkC.pe_mt NK.ck NK.cls hr1 pass0 (pv 0) (pa_cons (pv 5) pa_nil)))
      (pss_cons (ps_asg (pe_tup (pa_cons (pe_fld (pv 4) rfl) (pa_cons (pv 3) (pa_cons (pv 5) pa_nil)))) (WkN.pgT K 3 rfl rfl (pgs_cons (WkK.pg_at (pv 0)) (pgs_cons (WkK.pg_at (pv 0)) (pgs_cons (WkK.pg_at (pv 0)) pgs_nil))) rfl))
      (pss_cons (ps_fld (pv 0) (pe_tup (StX.pa_star (pe_fld (pv 0) rfl) (pa_cons (pv 1) pa_nil))) rfl)
      (pss_one (ps_fldaug (pv 0) pe_int in_add))))))), ?_⟩
  obtain ⟨x, ed, a, dx, p, m, e, rest, t, t0, n, r, s, ms, b, Vs, ad, nb, wt, rfl, hx, hre, hm, hml, R0, go, htV, hT, k⟩ := h
  have big : 10000000 < sizeLine := by decide
  have rlen := hre.len
  refine ⟨_, rfl, a, b, Vs, ad, nb, wt, rfl, R0, go, fun g Ws nb' wt' H1 k1 ng ga pm sg => ?_⟩
  obtain ⟨dg, pg, tg, bd, hg, rz⟩ := ga.ex
  have T1 := tabs_rows R0 hT k1
  have noD : ∀ c o, H c = some o → (∀ kvs, o ≠ .dK kvs) → b = false → c ≠ a ∧ ∀ u ∈ Vs, c ≠ ad u := fun c o h n hb => by
    subst hb
    have R : RowsM H a Vs ad nb wt := R0
    exact ⟨ne_of h R.top (n _), fun u hu => ne_of h (R.row u hu) (n _)⟩
  have hx1 := k1 _ _ hx (noD _ _ hx fun kvs z => by cases z)
  have go' := sg.gok go pm fun u hu => asc_nodup (ga.an u hu)
  have few := go'.few
  refine ⟨_, rfl, g, _, dg, _, pg, tg, Ws, bd, nb', wt', rfl, ⟨hg, gc.cls, gc.na, gc.nt, rfl, rfl⟩, rz, go'.nd, go'.sym, go'.two, by omega, T1, fun n' lm H2 e2 T2 lc => ?_⟩
  have hx2 := e2 _ _ hx1 (fun ps z => by cases z)
  have hg2 := e2 _ _ hg (fun ps z => by cases z)
  have rz2 := rz.ext e2
  refine ⟨_, rfl, x, dx, _, rfl, hx2, hre.no (by decide), _, rfl, x, n', rfl, ?_⟩
  refine ⟨_, rfl, g, _, dg, _, _, rfl, hg2, gc.cls, gc.na, rfl, _, rfl, _, rfl, by show 3 ≤ sizeLine; omega, fun p3 n3 => ?_⟩
  generalize gg3 : upd _ p3 _ = G3; obtain ⟨s3, L3⟩ := new_eq n3 gg3; clear gg3
  have hx3 := s3 _ _ hx2
  refine ⟨p3, _, rfl, .inl (.inl L3), rfl, _, _, rfl, _, rfl, x, C, dx, _, rfl, hx3, NK.f.cls, NK.f.na, by simp [netF]; omega, ?_⟩
  refine ⟨_, _, rfl, _, rfl, x, C, dx, _, rfl, upd_same, NK.f.cls, NK.f.nt, by show rest.length + 7 < 1000; omega, ?_⟩
  refine ⟨_, _, rfl, _, rfl, x, C, dx, _, rfl, upd_same, NK.f.cls, NK.f.nf, by show rest.length + 7 < 1000; omega, rfl, ?_⟩
  rw [upd_upd, upd_upd]
  have hx4 : upd G3 x (.ins C dx (putF "found" (.int n') (putF "top" (.str t) (putF "around" (.ref pg) (netF p t0 n m e r s ++ rest))))) x = some (.ins C dx (netF pg t n' m e r s ++ rest)) := upd_same
  have k4 : ∀ c o, G3 c = some o → c ≠ x → upd G3 x (.ins C dx (putF "found" (.int n') (putF "top" (.str t) (putF "around" (.ref pg) (netF p t0 n m e r s ++ rest))))) c = some o := fun c o h hne => by
    rw [upd_ne hne]
    exact h
  have T4 : Tabs tbT (upd G3 x (.ins C dx (putF "found" (.int n') (putF "top" (.str t) (putF "around" (.ref pg) (netF p t0 n m e r s ++ rest)))))) := tabs_upd (T2.ext s3) hx3 trivial
  generalize upd G3 x (.ins C dx (putF "found" (.int n') (putF "top" (.str t) (putF "around" (.ref pg) (netF p t0 n m e r s ++ rest))))) = H4 at hx4 k4 T4 ⊢
  have k04 : AccE b x a Vs ad H H4 := fun c o h hne nt hn => k4 c o (s3 _ _ (e2 _ _ (k1 c o h hn) nt)) hne
  have hm4 : SqT K H4 m ms := by
    rcases hm with (h | ⟨o, h⟩) | h
    · exact .inl (.inl (k04 _ _ h (ne_of h hx (by intro z; cases z)) (fun ps z => by cases z) (noD _ _ h fun kvs z => by cases z)))
    · exact .inl (.inr ⟨o, k04 _ _ h (ne_of h hx (by intro z; cases z)) (fun ps z => by cases z) (noD _ _ h fun kvs z => by cases z)⟩)
    · exact .inr h
  refine ⟨_, rfl, x, C, dx, _, _, rfl, hx4, NK.f.cls, NK.f.nm, rfl, m, ms, rfl, .inl hm4, _, rfl, by rw [List.length_append]; show ms.length + 1 ≤ sizeLine; omega, fun p5 n5 => ?_⟩
  generalize gg5 : upd _ p5 _ = G5; obtain ⟨s5, L5⟩ := new_eq n5 gg5; clear gg5
  have hx5 := s5 _ _ hx4
  have n5x : p5 ≠ x := Ne.symm (ne_of_none hx4 n5)
  refine ⟨_, rfl, x, C, dx, _, rfl, hx5, NK.f.cls, NK.f.nm, by simp [netF]; omega, ?_⟩
  refine ⟨_, rfl, x, C, dx, _, _, rfl, upd_same, NK.f.cls, NK.f.ns, rfl, _, _, rfl, rfl, _, _, upd_same, by show rest.length + 7 < 1000; omega, ?_⟩
  rw [upd_upd]
  refine k Ws nb' wt' n' p5 _ (fun c o h hne nt hn => ?_) (tabs_upd (T4.ext s5) hx5 trivial) ⟨⟨dx, pg, bd, upd_same, ?_⟩, hre, ga.asc, ga.an, go', ⟨_, lc⟩, pm.mem_iff.mpr htV⟩ ?_ pm sg
  · rw [upd_ne hne]
    exact s5 _ _ (k04 c o h hne nt hn)
  · have rz4 : RowsZ G5 pg Ws bd nb' wt' := by
      have z3 := rz2.ext (Ext.of s3)
      exact (ExtB.rz (x := x) (fun c o h hne _ => k4 c o h hne) z3 hx3).ext (Ext.of s5)
    exact ExtB.rz (x := x) (fun c o h hne _ => by rw [upd_ne hne]; exact h) rz4 hx5
  · rw [upd_ne n5x]
    exact L5
end
end Wk
namespace Wk
open PySem PySem.Spec PyProof.Rows L2 WkD WkN LamX WkP WkE WkC
section
variable {P : Program} {w : World} {K : PySem.W.Frag} {mg : Str → Option Value} {base : Heap}
def AnyV (K : PySem.W.Frag) (H : Hp) (x : V) : Prop := (∃ z, x = .str z ∧ z.length ≤ sizeLine) ∨ ((∀ z, x ≠ .str z) ∧ ∃ t, TyX K H x t ∧ PySem.W.kitOne K t (.type "str") = some false)
theorem tyx_same {H H' : Hp} {x : V} {t : Value} (e : Same H H') (h : TyX K H x t) : TyX K H' x t := by
  cases h with
  | base b =>
    cases b with
    | non => exact .base .non
    | bl b => exact .base (.bl b)
    | int i => exact .base (.int i)
    | str z => exact .base (.str z)
    | flt z => exact .base (.flt z)
    | lst h => exact .base (.lst (e _ _ h))
    | frz h => exact .base (.frz (e _ _ h))
    | tup h => exact .base (.tup (e _ _ h))
    | dK h => exact .base (.dK (e _ _ h))
    | dT h => exact .base (.dT (e _ _ h))
    | ins h q1 q2 q3 q4 q5 => exact .base (.ins (e _ _ h) q1 q2 q3 q4 q5)
  | byt b => exact .byt b
  | set h => exact .set (e _ _ h)
  | kList h c => exact .kList h c
  | kTuple h c => exact .kTuple h c
  | kDict h c => exact .kDict h c
  | fTuple h => exact .fTuple (e _ _ h)
  | fDict h => exact .fDict (e _ _ h)
def IsIn (x : V) (Vs : List Str) : Prop := ∃ z ∈ Vs, x = .str z
def spCheck (K : PySem.W.Frag) (CU : Addr) : Sp := fun vs H Q E => ∃ (g C dx : Addr) (fs : List (Str × V)) (a : Addr) (top : Str) (Vs : List Str) (ad : Str → Addr) (nb : Nb) (wt : Wt) (x : V), vs = [.ref g, x] ∧ GAt K H g C dx fs a top ∧ RowsZ H a Vs ad nb wt ∧ (∀ u ∈ Vs, nameB u = true) ∧ AnyV K H x ∧
  (IsIn x Vs → ∀ H', Same H H' → Q .non H') ∧ (¬ IsIn x Vs → ∀ d H', Same H H' → H d = none → H' d = some (.xd [("value", x)]) → E (.ref CU) (some d) H')
theorem sc_check_vertex : FnScope ["self", "value"] ["self", "value"] (defScope s_Graph_check_vertex) := ⟨rfl, rfl, rfl, by decide +kernel, rfl, by decide +kernel, by decide +kernel⟩
theorem ok_check_vertex {f CU fI : Addr} {fd : FuncData} (F : FnP K "check_vertex" "Graph.check_vertex" s_Graph_check_vertex f fd) (TU : WkX.ExcT K mg "UnknownVertex" "value" CU fI) (CN : Callee P w K mg base CX0 1 "is_name" ["value"] (spName K)) : FnOk P w K mg base (CX P w) 2 f fd ["self", "value"] (spCheck K CU) := by
  refine F.ok sc_check_vertex (fun vs H Q E h => ?_) (fun cdv A outer s H vs Q E hr h => ?_)
  · obtain ⟨g, C, dx, fs, a, top, Vs, ad, nb, wt, x, rfl, _⟩ := h
    rfl
  have hu := hu_of hr
  have hr1 : Room 1 _ := hr
  refine ⟨_, (pss_one (ps_if (PW.pt (pw_or (pt_not (pt_val (pe_c CN hr1 pass0 (pa_cons (pv 1) pa_nil)))) (pw_or1 (pt_cmp (pc_dnotin hu (pv 1) (pe_fld (pv 0) rfl))))))
      (pss_one (WkK.ps_raiseE rfl TU hr (takes_of rfl rfl rfl rfl) (pa_cons (pv 1) pa_nil))) pss_nil)), ?_⟩
  obtain ⟨g, C, dx, fs, a, top, Vs, ad, nb, wt, x, rfl, G, R, nm, av, k1, k2⟩ := h
  rcases av with ⟨z, rfl, hz⟩ | ⟨nz, t, ty, kt⟩
  · refine ⟨_, rfl, .inl ⟨z, rfl, hz, fun H1 s1 => ⟨_, rfl, ite2 (fun h => ?_) (fun h => ?_)⟩⟩⟩
    · have hn : z ∉ Vs := fun hm => by
        rw [nm z hm] at h
        cases h
      refine ⟨_, rfl, _, rfl, fun d nd_ => k2 (fun ⟨y, hy, e⟩ => ?_) d _ (s1.trans (same_upd nd_)) (np_of s1 nd_) upd_same⟩
      cases e
      exact hn hy
    · have R1 := R.ext (Ext.of s1)
      have G1 : GAt K H1 g C dx fs a top := G.ext (Ext.of s1)
      refine ⟨_, rfl, _, rfl, g, C, dx, _, _, rfl, G1.ins, G1.cls, G1.na, G1.la, a, _, rfl, get_x R1.r.top, _, rfl, ?_⟩
      by_cases hm : z ∈ Vs
      · rw [if_pos hm]
        refine ite2 (fun h => ?_) (fun _ => k1 ⟨z, hm, rfl⟩ H1 s1)
        cases h
      · rw [if_neg hm]
        refine ite2 (fun _ => ?_) (fun h => absurd rfl h)
        refine ⟨_, rfl, _, rfl, fun d nd_ => k2 (fun ⟨y, hy, e⟩ => ?_) d _ (s1.trans (same_upd nd_)) (np_of s1 nd_) upd_same⟩
        cases e
        exact hm hy
  · refine ⟨_, rfl, .inr ⟨x, t, rfl, ty, kt, ⟨_, rfl, ite2 (fun _ => ?_) (fun h => absurd rfl h)⟩⟩⟩
    refine ⟨_, rfl, _, rfl, fun d nd_ => k2 (fun ⟨y, _, e⟩ => nz y e) d _ (same_upd nd_) nd_ upd_same⟩
end
end Wk
namespace Wk
open PySem PySem.Spec PyProof.Rows L2 WkD WkN LamX WkP WkE WkC
section
variable {P : Program} {w : World} {K : PySem.W.Frag} {mg : Str → Option Value} {base : Heap}
def spCopy : Sp := fun vs H Q _ => ∃ (a : Addr) (Vs : List Str) (ad : Str → Addr) (nb : Nb) (wt : Wt), vs = [.ref a] ∧ RowsZ H a Vs ad nb wt ∧ Vs.Nodup ∧ Vs.length < 1000 ∧ ∀ p bd H', H p = none → Cop H p nb wt Vs bd H' → Q (.ref p) H'
theorem sc_copied_rows : FnScope ["around", "vertex", "row"] ["around"] (defScope s_copied_rows) := ⟨rfl, rfl, rfl, by decide +kernel, rfl, by decide +kernel, by decide +kernel⟩
theorem c_copied_rows (D : Def K mg "copied_rows" s_copied_rows) : Callee P w K mg base CX0 1 "copied_rows" ["around"] spCopy := by
  obtain ⟨f, fd, F, g⟩ := D
  refine ⟨f, fd, F.ok sc_copied_rows (fun vs H Q E h => ?_) (fun cdv A outer s H vs Q E hr h => ?_), g, F.kp, F.bindsN (fun _ _ _ _ _ _ us hl => match us, hl with | [_], _ => rfl)⟩
  · obtain ⟨a, Vs, ad, nb, wt, rfl, _⟩ := h
    rfl
  · have hu := hu_of hr
    have nd := sc_copied_rows.nd
    refine ⟨_, PSs.nox (pss_one (ps_ret (pe_dc (own := [("vertex", 1), ("row", 2)]) (by rfl) nd (pi_items (pv 0)) (blkOk_by (by kernel_rfl)) (fun _ _ _ _ _ => (WkN.pgT K 2 rfl rfl (pgs_cons (pg_name (i := 1) nd rfl (Or.inl rfl)) (pgs_cons (pg_name (i := 2) nd rfl (Or.inl rfl)) pgs_nil)) rfl)) (fun _ _ _ _ _ => pts_nil) (fun _ _ _ _ _ => (pv 1)) (fun _ _ _ _ _ => (WkD.pe_dstar (pv 2)))))), ?_⟩
    obtain ⟨a, Vs, ad0, nb, wt, rfl, RZ, hVn, hsz, k⟩ := h
    obtain ⟨oa, hA⟩ := RZ.top
    have tkN : ∀ i (h : i < Vs.length), Vs[i] ∉ Vs.take i := fun i h z => by
      obtain ⟨j, hj, e⟩ := List.mem_iff_getElem.mp z
      rw [List.length_take] at hj
      rw [List.getElem_take] at e
      have := (List.getElem_inj hVn).mp e
      omega
    have tkL : ∀ i, (Vs.take i).length < sizeLine := fun i => by
      rw [List.length_take]
      exact Nat.lt_of_le_of_lt (Nat.min_le_right _ _) (Nat.lt_trans hsz (by decide))
    refine ⟨_, rfl, a, oa, _, rfl, hA, fun ra nra => ?_⟩
    refine dc_it (walk_items (kvs := dct Vs fun u => .ref (ad0 u))) (fun i H2 => ∃ ad, Cop H ra nb wt (Vs.take i) ad H2) ⟨ad0, ⟨upd_same, fun u hu => absurd hu (by simp), fun u hu => absurd hu (by simp), by simp⟩, fun b o hb hne => by rw [upd_ne hne]; exact hb, fun u hu => absurd hu (by simp)⟩ ?_ ?_ ?_
    · rintro i H2 hi ⟨ad, cp⟩
      exact cp.keep _ _ hA (ne_of_none hA nra)
    · rintro i x H2 H2' hi ⟨ad, cp⟩ ⟨T, kx, vx, rfl, nT, rfl, hkx, hvx⟩
      rw [dct_len] at hi
      dsimp only at hkx hvx
      rw [dct_at, List.getElem?_eq_getElem hi] at hkx hvx
      cases hkx
      cases hvx
      obtain ⟨u, eu⟩ : ∃ u, u = Vs[i] := ⟨_, rfl⟩
      have hnu := tkN i hi
      have tk := takeS (List.getElem?_eq_getElem hi)
      have huV : u ∈ Vs := eu ▸ List.getElem_mem hi
      rw [← eu] at hnu tk ⊢
      obtain ⟨ou, hU⟩ := RZ.row u huV
      have sT : Same H2 (upd H2 T (.tup [.str u, .ref (ad0 u)])) := same_upd nT
      have PT' : upd H2 T (.tup [.str u, .ref (ad0 u)]) T = some (.tup [.str u, .ref (ad0 u)]) := upd_same
      show gTup _ _ _ _ _ (upd H2 T (.tup [.str u, .ref (ad0 u)])) _
      generalize upd H2 T (.tup [.str u, .ref (ad0 u)]) = H3 at sT PT'
      refine ⟨T, _, rfl, .inl (.inl PT'), rfl, _, _, rfl, _, _, rfl, rfl, rfl, tYes_if ?_⟩
      refine ⟨_, rfl, fun p np => ⟨_, rfl, ?_⟩⟩
      have hU3 : H3 (ad0 u) = some (.frz ou (.dK (dct (nb u) fun v => .int (wt u v)))) := sT _ _ (cp.keep _ _ hU (ne_of_none hU nra))
      have nup : ad0 u ≠ p := ne_of_none hU3 np
      refine ⟨ad0 u, _, rfl, upd_same, nup, .inr ⟨ou, by rw [upd_ne nup]; exact hU3⟩, ?_⟩
      rw [upd_upd]
      have hra3 : H3 ra = some (.dK (dct (Vs.take i) fun u => .ref (ad u))) := sT _ _ cp.rows.top
      have npr : ra ≠ p := ne_of_none hra3 np
      have npH : H p = none := by
        cases e : H p with
        | none => rfl
        | some o =>
          have z := sT _ _ (cp.keep _ _ e (Ne.symm npr))
          rw [np] at z
          cases z
      refine ⟨_, Sum.inr u, rfl, by rw [upd_ne npr]; exact hra3, by rw [dct_len]; exact tkL i, fun y => if y = u then p else ad y, ?_⟩
      rw [dct_put_new hnu, tk]
      have e1 : dct (Vs.take i ++ [u]) (fun y => if y = u then V.ref p else V.ref (ad y)) = dct (Vs.take i ++ [u]) fun y => V.ref (if y = u then p else ad y) := dct_congr fun y _ => by split <;> rfl
      rw [e1]
      have at_ : ∀ y ∈ Vs.take i, H3 (ad y) = some (.dK (dct (nb y) fun v => .int (wt y v))) := fun y hy => sT _ _ (cp.rows.row y hy)
      have mm : ∀ y, y ∈ Vs.take i ++ [u] → (y = u ∧ (if y = u then p else ad y) = p) ∨ (y ∈ Vs.take i ∧ y ≠ u ∧ (if y = u then p else ad y) = ad y) := fun y hy => by
        by_cases e : y = u
        · exact .inl ⟨e, if_pos e⟩
        · rcases List.mem_append.mp hy with h | h
          · exact .inr ⟨h, e, if_neg e⟩
          · exact absurd (List.mem_singleton.mp h) e
      refine ⟨⟨upd_same, fun y hy => ?_, fun y hy z hz e => ?_, ?_⟩, fun b o hb hne => ?_, fun y hy => ?_⟩
      · rcases mm y hy with ⟨h1, h2⟩ | ⟨h1, h2, h3⟩
        · rw [h2, upd_ne (Ne.symm npr), upd_same, h1]
        · rw [h3, upd_ne (fun q => cp.rows.ne h1 q), upd_ne (ne_of_none (at_ y h1) np)]
          exact at_ y h1
      · rcases mm y hy with ⟨h1, h2⟩ | ⟨h1, h2, h3⟩
        · rcases mm z hz with ⟨g1, g2⟩ | ⟨g1, g2, g3⟩
          · rw [h1, g1]
          · rw [h2, g3] at e
            exact absurd e.symm (ne_of_none (at_ z g1) np)
        · rcases mm z hz with ⟨g1, g2⟩ | ⟨g1, g2, g3⟩
          · rw [h3, g2] at e
            exact absurd e (ne_of_none (at_ y h1) np)
          · rw [h3, g3] at e
            exact cp.rows.inj y h1 z g1 e
      · rw [List.nodup_append]
        refine ⟨cp.rows.nd, by simp, fun a1 h1 b1 h3 e => ?_⟩
        have h3 : b1 = u := by simpa using h3
        rw [e, h3] at h1
        exact hnu h1
      · rw [upd_ne hne, upd_ne (ne_of_none hb npH)]
        exact sT _ _ (cp.keep _ _ hb hne)
      · rcases mm y hy with ⟨h1, h2⟩ | ⟨h1, h2, h3⟩
        · rw [h2]
          exact npH
        · rw [h3]
          exact cp.new y h1
    · rintro H1 ⟨ad, cp⟩
      rw [dct_len, List.take_length] at cp
      exact k ra ad H1 nra cp
theorem Rch.trans {nb : Nb} {s u v : Str} (h : Rch nb s u) (k : Rch nb u v) : Rch nb s v := by
  induction k with
  | here => exact h
  | go _ e ih => exact .go ih e
theorem Rch.symm {Vs : List Str} {nb : Nb} {wt : Wt} (sy : Sym Vs nb wt) {s u : Str} (hs : s ∈ Vs) (h : Rch nb s u) : u ∈ Vs ∧ Rch nb u s := by
  induction h with
  | here => exact ⟨hs, .here⟩
  | go _ e ih =>
    obtain ⟨g1, _, g3, _⟩ := sy.mem _ ih.1 _ e
    exact ⟨g1, (Rch.go .here g3).trans ih.2⟩
def SideOf (Vs : List Str) (nb : Nb) (ys : List Str) : Prop := Asc ys ∧ ((Vs = [] ∧ ys = []) ∨ ∃ m ∈ Vs, (∀ j ∈ Vs, ¬ ltS j m) ∧ ∀ y, y ∈ ys ↔ Rch nb m y)
def Linked (Vs : List Str) (nb : Nb) : Prop := 2 ≤ Vs.length ∧ ∀ s ∈ Vs, ∀ u ∈ Vs, Rch nb s u
def spConnX (CD : Addr) : Sp := fun vs H Q E => ∃ (a : Addr) (Vs : List Str) (ad : Str → Addr) (nb : Nb) (wt : Wt), vs = [.ref a] ∧ RowsM H a Vs ad nb wt ∧ Sym Vs nb wt ∧ Vs.length < 64 ∧ (Linked Vs nb → ∀ H', Same H H' → Q .non H') ∧
  (¬ Linked Vs nb → ∀ d p ys H', Same H H' → H d = none → H' d = some (.xd [("side", .ref p)]) → H' p = some (.tup (ys.map V.str)) → SideOf Vs nb ys → E (.ref CD) (some d) H')
theorem sc_check_connected2 : FnScope ["around", "side"] ["around"] (defScope s_check_connected) := ⟨rfl, rfl, rfl, by decide +kernel, rfl, by decide +kernel, by decide +kernel⟩
theorem c_check_connectedX {CD fI : Addr} (D : Def K mg "check_connected" s_check_connected) (B : Bi mg) (TD : WkX.ExcT K mg "Disconnected" "side" CD fI) (CR : Callee P w K mg base CX0 1 "reached" ["around", "start"] spReach) : Callee P w K mg base (CX P w) 2 "check_connected" ["around"] (spConnX CD) := by
  obtain ⟨f, fd, F, g⟩ := D
  refine ⟨f, fd, F.ok sc_check_connected2 (fun vs H Q E h => ?_) (fun cdv A outer s H vs Q E hr h => ?_), g, F.kp, F.bindsN (fun _ _ _ _ _ _ us hl => match us, hl with | [_], _ => rfl)⟩
  · obtain ⟨a, Vs, ad, nb, wt, rfl, _⟩ := h
    rfl
  · have hu := hu_of hr
    have nd := sc_check_connected2.nd
    have hr2 : Room 1 _ := hr
    refine ⟨_, (pss_cons (ps_set (i := 1) nd rfl (Or.inl rfl) (pe_ifExp (pt_cmpR (WkD.op_neE hr.units0) (pv 0) pe_dnewK (nomark _)) (pe_c CR hr2 pass0 (pa_cons (pv 0) (pa_cons (pe_callB (WkD.cr_minSD rfl) (by rfl) B.n_min (by decide +kernel) (pa_cons (pv 0) pa_nil)) pa_nil))) (pe_tup pa_nil)))
      (pss_one (ps_if (pt_cmpR op_lt (pe_callB call_len_seq (by rfl) B.n_len (by decide +kernel) (pa_cons (pv 1) pa_nil)) (pe_callB (call_max2 rfl) (by rfl) B.n_max (by decide +kernel) (pa_cons pe_int (pa_cons (pe_callB call_lenD (by rfl) B.n_len boot_len (pa_cons (pv 0) pa_nil)) pa_nil))) (nomark _))
      (pss_one (WkK.ps_raiseE rfl TD hr (takes_of rfl rfl rfl rfl) (pa_cons (pv 1) pa_nil))) pss_nil))), ?_⟩
    obtain ⟨a, Vs, ad, nb, wt, rfl, R, sy, hl, k1, k2⟩ := h
    have hnb : ∀ u ∈ Vs, ∀ v ∈ nb u, v ∈ Vs := fun u hu v hv => (sy.mem u hu v hv).1
    refine ⟨_, rfl, fun q nq => ?_⟩
    have s1 : Same H (upd H q (.dK [])) := same_upd nq
    have Q1 : upd H q (.dK []) q = some (.dK []) := upd_same
    generalize upd H q (.dK []) = H1 at s1 Q1
    have R1 := R.ext (Ext.of s1)
    refine ⟨a, q, _, rfl, rfl, .inl R1.top, Q1, _, rfl, ?_⟩
    by_cases ne : Vs = []
    · subst ne
      refine iteF ⟨by show 0 ≤ sizeLine; decide, fun p np => ?_⟩
      have s2 := s1.trans (same_upd (o := .tup []) np)
      have P2 : upd H1 p (.tup []) p = some (.tup []) := upd_same
      have R2 := R1.ext (Ext.of (same_upd (o := .tup []) np))
      generalize upd H1 p (.tup []) = H2 at s2 P2 R2
      refine ⟨_, rfl, p, _, rfl, .inr (.inl (.inl P2)), _, rfl, a, _, rfl, R2.top, _, _, rfl, _, _, rfl, rfl, _, rfl, ite2 (fun _ => ?_) (fun h => absurd rfl h)⟩
      refine ⟨_, rfl, _, rfl, fun d nd_ => k2 (fun z => by have := z.1; simp at this) d p [] _ (s2.trans (same_upd nd_)) (np_of s2 nd_) upd_same ((same_upd nd_) _ _ P2) ⟨List.Pairwise.nil, .inl ⟨rfl, rfl⟩⟩⟩
    have e1 : (!(dct Vs fun u => V.ref (ad u)).isEmpty) = true := by
      cases Vs with
      | nil => exact absurd rfl ne
      | cons y r => rfl
    rw [e1]
    refine iteT ?_
    refine ⟨_, rfl, _, rfl, a, _, Vs, rfl, .inl R1.top, dct_keys, ne, fun m hm hmin => ?_⟩
    refine ⟨a, Vs, ad, nb, wt, m, rfl, R1, hm, hnb, hl, fun p ys H2 s2 hp ha hy hyV => ?_⟩
    have R2 := R1.ext (Ext.of s2)
    have s12 := s1.trans s2
    have yle : ys.length ≤ Vs.length := (asc_nodup ha).length_le_of_subset fun y h => hyV y h
    have all : ys.length = Vs.length ↔ ∀ u ∈ Vs, Rch nb m u := by
      constructor
      · intro e u hu
        refine (hy u).mp ?_
        by_cases hin : u ∈ ys
        · exact hin
        · have nd2 : (u :: ys).Nodup := List.nodup_cons.mpr ⟨hin, asc_nodup ha⟩
          have := nd2.length_le_of_subset (l₂ := Vs) fun y h => by
            rcases List.mem_cons.mp h with rfl | h
            · exact hu
            · exact hyV y h
          rw [List.length_cons] at this
          omega
      · intro h
        exact Nat.le_antisymm yle (R.nd.length_le_of_subset fun u hu => (hy u).mpr (h u hu))
    have lk : Linked Vs nb ↔ 2 ≤ Vs.length ∧ ∀ u ∈ Vs, Rch nb m u := by
      constructor
      · rintro ⟨h1, h2⟩
        exact ⟨h1, h2 m hm⟩
      · rintro ⟨h1, h2⟩
        refine ⟨h1, fun s hs u hu => ?_⟩
        exact (Rch.symm sy hm (h2 s hs)).2.trans (h2 u hu)
    refine ⟨_, rfl, p, _, rfl, .inr (.inl (.inl hp)), _, rfl, a, _, rfl, R2.top, _, _, rfl, _, _, rfl, rfl, _, rfl, ?_⟩
    rw [List.length_map, dct_len]
    refine ite2 (fun h => ?_) (fun h => ?_)
    · have h := of_decide_eq_true h
      have nl : ¬ Linked Vs nb := fun z => by
        obtain ⟨z1, z2⟩ := lk.mp z
        have := all.mpr z2
        split at h <;> omega
      refine ⟨_, rfl, _, rfl, fun d nd_ => k2 nl d p ys _ (s12.trans (same_upd nd_)) (np_of s12 nd_) upd_same ((same_upd nd_) _ _ hp) ⟨ha, .inr ⟨m, hm, hmin, hy⟩⟩⟩
    · refine k1 (lk.mpr ?_) H2 s12
      have h : ¬ ((ys.length : Int) < if (Vs.length : Int) > 2 then (Vs.length : Int) else 2) := fun z => h (decide_eq_true z)
      have q : 2 ≤ Vs.length ∧ ys.length = Vs.length := by
        split at h <;> omega
      exact ⟨q.1, all.mp q.2⟩
end
end Wk
namespace Wk
open PySem PySem.Spec PyProof.Rows L2 WkD WkN LamX WkP WkE WkC
def isP (a b u v : Str) : Prop := (u = a ∧ v = b) ∨ (u = b ∧ v = a)
instance (a b u v : Str) : Decidable (isP a b u v) := inferInstanceAs (Decidable (_ ∨ _))
structure SetW (Vs : List Str) (nb : Nb) (wt : Wt) (a b : Str) (n : Int) (nb2 : Nb) (wt2 : Wt) : Prop where
  nd : ∀ u ∈ Vs, (nb2 u).Nodup
  mem : ∀ u ∈ Vs, ∀ v, v ∈ nb2 u ↔ (isP a b u v ∧ 0 < n) ∨ (¬ isP a b u v ∧ v ∈ nb u)
  val : ∀ u ∈ Vs, ∀ v ∈ nb2 u, wt2 u v = if isP a b u v then n else wt u v
theorem SetW.sym {Vs : List Str} {nb nb2 : Nb} {wt wt2 : Wt} {a b : Str} {n : Int} (h : SetW Vs nb wt a b n nb2 wt2) (sy : Sym Vs nb wt) (ha : a ∈ Vs) (hb : b ∈ Vs) (hab : a ≠ b) : Sym Vs nb2 wt2 := by
  refine ⟨h.nd, fun u hu v hv => ?_⟩
  have m1 := (h.mem u hu v).mp hv
  have hp : isP a b v u ↔ isP a b u v := by
    unfold isP
    grind
  have hvV : v ∈ Vs ∧ v ≠ u := by
    rcases m1 with ⟨p, _⟩ | ⟨_, q⟩
    · unfold isP at p
      grind
    · exact ⟨(sy.mem u hu v q).1, (sy.mem u hu v q).2.1⟩
  have hin : u ∈ nb2 v := by
    rw [h.mem v hvV.1 u, hp]
    rcases m1 with m1 | ⟨p, q⟩
    · exact .inl m1
    · exact .inr ⟨p, (sy.mem u hu v q).2.2.1⟩
  refine ⟨hvV.1, hvV.2, hin, ?_⟩
  rw [h.val v hvV.1 u hin, h.val u hu v hv]
  by_cases p : isP a b u v
  · rw [if_pos p, if_pos (hp.mpr p)]
  · rw [if_neg p, if_neg fun z => p (hp.mp z)]
    rcases m1 with m1 | ⟨_, q⟩
    · exact absurd m1.1 p
    · exact (sy.mem u hu v q).2.2.2
theorem SetW.gok {Vs : List Str} {nb nb2 : Nb} {wt wt2 : Wt} {a b : Str} {n : Int} (h : SetW Vs nb wt a b n nb2 wt2) (g : GOk Vs nb wt) (ha : a ∈ Vs) (hb : b ∈ Vs) (hab : a ≠ b) (hn : n ≤ 1000000000) (lk : Linked Vs nb2) : GOk Vs nb2 wt2 := by
  refine ⟨g.nm, g.nd, g.two, g.few, h.sym g.sym ha hb hab, fun u hu v hv => ?_, lk.2⟩
  rw [h.val u hu v hv]
  rcases (h.mem u hu v).mp hv with ⟨p, q⟩ | ⟨p, q⟩
  · rw [if_pos p]
    omega
  · rw [if_neg p]
    exact g.wts u hu v q
theorem setw_put {Vs : List Str} {nb : Nb} {wt : Wt} {a b : Str} {n : Int} (sy : Sym Vs nb wt) (ha : a ∈ Vs) (hb : b ∈ Vs) (hab : a ≠ b) (hn : 0 < n) :
    SetW Vs nb wt a b n (up (up nb a (add (nb a) b)) b (add (nb b) a)) (upw (upw wt a fun y => if y = b then n else wt a y) b fun y => if y = a then n else wt b y) := by
  refine ⟨fun u hu => ?_, fun u hu v => ?_, fun u hu v hv => ?_⟩
  · unfold up
    split
    · exact add_nd (sy.nd b hb)
    · split
      · exact add_nd (sy.nd a ha)
      · exact sy.nd u hu
  · unfold up isP
    by_cases e1 : u = b
    · rw [if_pos e1, add_mem]
      grind
    · rw [if_neg e1]
      by_cases e2 : u = a
      · rw [if_pos e2, add_mem]
        grind
      · rw [if_neg e2]
        grind
  · unfold upw isP
    by_cases e1 : u = b
    · rw [if_pos e1]
      grind
    · rw [if_neg e1]
      by_cases e2 : u = a
      · rw [if_pos e2]
        grind
      · rw [if_neg e2]
        grind
theorem setw_del {Vs : List Str} {nb : Nb} {wt : Wt} {a b : Str} (sy : Sym Vs nb wt) (ha : a ∈ Vs) (hb : b ∈ Vs) (hab : a ≠ b) :
    SetW Vs nb wt a b 0 (up (up nb a ((nb a).filter fun y => decide (y ≠ b))) b ((nb b).filter fun y => decide (y ≠ a))) wt := by
  have f1 : ∀ v, v ∈ ((nb a).filter fun y => decide (y ≠ b)) ↔ v ∈ nb a ∧ v ≠ b := fun v => by rw [List.mem_filter, decide_eq_true_iff]
  have f2 : ∀ v, v ∈ ((nb b).filter fun y => decide (y ≠ a)) ↔ v ∈ nb b ∧ v ≠ a := fun v => by rw [List.mem_filter, decide_eq_true_iff]
  have key : ∀ u ∈ Vs, ∀ v, v ∈ up (up nb a ((nb a).filter fun y => decide (y ≠ b))) b ((nb b).filter fun y => decide (y ≠ a)) u ↔ ¬ isP a b u v ∧ v ∈ nb u := fun u hu v => by
    unfold up isP
    by_cases e1 : u = b
    · rw [if_pos e1, f2]
      grind
    · rw [if_neg e1]
      by_cases e2 : u = a
      · rw [if_pos e2, f1]
        grind
      · rw [if_neg e2]
        grind
  refine ⟨fun u hu => ?_, fun u hu v => ?_, fun u hu v hv => ?_⟩
  · unfold up
    split
    · exact (sy.nd b hb).filter _
    · split
      · exact (sy.nd a ha).filter _
      · exact sy.nd u hu
  · rw [key u hu v]
    constructor
    · exact .inr
    · rintro (⟨_, z⟩ | z)
      · omega
      · exact z
  · rw [if_neg ((key u hu v).mp hv).1]
theorem setw_none {Vs : List Str} {nb : Nb} {wt : Wt} {a b : Str} (sy : Sym Vs nb wt) (ha : a ∈ Vs) (hb : b ∈ Vs) (hn : b ∉ nb a) : SetW Vs nb wt a b 0 nb wt := by
  have key : ∀ u ∈ Vs, ∀ v ∈ nb u, ¬ isP a b u v := fun u hu v hv p => by
    unfold isP at p
    rcases p with ⟨rfl, rfl⟩ | ⟨rfl, rfl⟩
    · exact hn hv
    · exact hn (sy.mem _ hu _ hv).2.2.1
  refine ⟨sy.nd, fun u hu v => ?_, fun u hu v hv => by rw [if_neg (key u hu v hv)]⟩
  constructor
  · intro h
    exact .inr ⟨key u hu v h, h⟩
  · rintro (⟨_, z⟩ | z)
    · omega
    · exact z.2
section
variable {P : Program} {w : World} {K : PySem.W.Frag} {mg : Str → Option Value} {base : Heap}
def AnyI (K : PySem.W.Frag) (H : Hp) (x : V) : Prop := (∃ i : Int, x = .int i) ∨ (∃ b : Bool, x = .bl b) ∨ ((∀ i, x ≠ .int i) ∧ ∃ t, TyX K H x t ∧ PySem.W.kitOne K t (.type "int") = some false)
def IsW (x : V) (lo : Int) : Prop := ∃ i : Int, x = .int i ∧ lo ≤ i ∧ i ≤ 1000000000
def spRowsW (K : PySem.W.Frag) (C CU CE CD : Addr) : Sp := fun vs H Q E => ∃ (g dx : Addr) (fs : List (Str × V)) (a0 : Addr) (top : Str) (Vs : List Str) (ad : Str → Addr) (nb : Nb) (wt : Wt) (u v x : V), vs = [.ref g, u, v, x] ∧ GAt K H g C dx fs a0 top ∧ fs.lookup ("check_vertex" : Str) = none ∧ RowsZ H a0 Vs ad nb wt ∧ GOk Vs nb wt ∧ AnyV K H u ∧ AnyV K H v ∧ AnyI K H x ∧
  (¬ IsIn u Vs → ∀ d H', Same H H' → H d = none → H' d = some (.xd [("value", u)]) → E (.ref CU) (some d) H') ∧
  (IsIn u Vs → ¬ IsIn v Vs → ∀ d H', Same H H' → H d = none → H' d = some (.xd [("value", v)]) → E (.ref CU) (some d) H') ∧
  (IsIn u Vs → IsIn v Vs → (u = v ∨ ¬ IsW x 0) → ∀ d p H', Same H H' → H d = none → H p = none → H' d = some (.xd [("value", .ref p)]) → H' p = some (.tup [u, v, x]) → E (.ref CE) (some d) H') ∧
  (∀ a b n, u = .str a → v = .str b → a ∈ Vs → b ∈ Vs → a ≠ b → x = .int n → 0 ≤ n → n ≤ 1000000000 →
    ∀ p bd nb2 wt2 H', (∀ c o, H c = some o → H' c = some o) → H p = none → (∀ y ∈ Vs, H (bd y) = none) → RowsM H' p Vs bd nb2 wt2 → SetW Vs nb wt a b n nb2 wt2 →
      (Linked Vs nb2 → Q (.ref p) H') ∧ (¬ Linked Vs nb2 → ∀ d q ys H2, Same H' H2 → H' d = none → H2 d = some (.xd [("side", .ref q)]) → H2 q = some (.tup (ys.map V.str)) → SideOf Vs nb2 ys → E (.ref CD) (some d) H2))
theorem sc_rows_with_weight : FnScope ["graph", "u", "v", "weight", "vertex", "around"] ["graph", "u", "v", "weight"] (defScope s_rows_with_weight) := ⟨rfl, rfl, rfl, by decide +kernel, rfl, by decide +kernel, by decide +kernel⟩
theorem c_rows_with_weight {C CU CE CD fE : Addr} {tW : Tok} (D : Def K mg "rows_with_weight" s_rows_with_weight) (gW : mg "MAX_WEIGHT" = some (.int 1000000000 tW)) (NK : AccC P w K mg base C) (TE : WkX.ExcT K mg "InvalidEdge" "value" CE fE) (CV : MethC P w K mg base (CX P w) C "check_vertex" 2 (spCheck K CU)) (CB : Callee P w K mg base CX0 1 "is_between" ["value", "low", "high"] (spBetween K))
    (CP : Callee P w K mg base CX0 1 "copied_rows" ["around"] spCopy) (CC : Callee P w K mg base (CX P w) 2 "check_connected" ["around"] (spConnX CD)) : Callee P w K mg base (CX P w) 3 "rows_with_weight" ["graph", "u", "v", "weight"] (spRowsW K C CU CE CD) := by
  obtain ⟨f, fd, F, gg⟩ := D
  refine ⟨f, fd, F.ok sc_rows_with_weight (fun vs H Q E h => ?_) (fun cdv A outer s H vs Q E hr h => ?_), gg, F.kp, F.bindsN (fun _ _ _ _ _ _ us hl => match us, hl with | [_, _, _, _], _ => rfl)⟩
  · obtain ⟨g, dx, fs, a0, top, Vs, ad, nb, wt, u, v, x, rfl, _⟩ := h
    rfl
  have hu := hu_of hr
  have nd := sc_rows_with_weight.nd
  have hr2 : Room 2 _ := hr
  have hr1 : Room 1 _ := hr.mono (by decide)
  refine ⟨_, (pss_cons (ps_for (passes_of rfl) rfl (pi_tup (pe_tup (pa_cons (pv 1) (pa_cons (pv 2) pa_nil)))) (pg_name (i := 4) nd rfl (Or.inl rfl))
      (pss_one (ps_expr (WkC.pe_mt CV NK.cls hr2 (passes_call (takes_of rfl rfl rfl rfl) fun _ _ _ _ h => h) (pv 0) (pa_cons (pv 4) pa_nil)))))
      (pss_cons (ps_if (PW.pt (pw_or (pt_cmpR op_eq (pv 1) (pv 2) (nomark _)) (pw_or1 (pt_not (pt_val (pe_c CB hr1 pass0 (pa_cons (pv 3) (pa_cons pe_int (pa_cons (pe_glob (v := .int 1000000000) (by rfl) gW ⟨_, rfl⟩) pa_nil)))))))))
      (pss_one (WkK.ps_raiseE rfl TE hr (takes_of rfl rfl rfl rfl) (pa_cons (pe_tup (pa_cons (pv 1) (pa_cons (pv 2) (pa_cons (pv 3) pa_nil)))) pa_nil))) pss_nil)
      (pss_cons (ps_set (i := 5) nd rfl (Or.inl rfl) (pe_c CP hr1 pass0 (pa_cons (pe_fld (pv 0) rfl) pa_nil)))
      (C8.pss_cut (ps_if (pt_cmpR op_gt (pv 3) pe_int (nomark _))
      (pss_one (ps_asg2 (pv 3) (pg_sub (pe_dget hu (pv 5) (pv 1) (fun _ _ => rfl)) (pv 2) (set_dict hu) (fun _ => rfl)) (pg_sub (pe_dget hu (pv 5) (pv 2) (fun _ _ => rfl)) (pv 1) (set_dict hu) (fun _ => rfl)))) (pss_one (ps_if (pt_cmp (pc_din hu (pv 2) (pe_dget hu (pv 5) (pv 1) (fun _ _ => rfl))))
      (pss_one (WkK.ps_ddel2 (pe_dget hu (pv 5) (pv 1) (fun _ _ => rfl)) (pv 2) (pe_dget hu (pv 5) (pv 2) (fun _ _ => rfl)) (pv 1))) pss_nil)))
      (pss_cons (ps_expr (pe_c CC hr2 (passes_call (takes_of rfl rfl rfl rfl) fun _ _ _ _ h => h) (pa_cons (pv 5) pa_nil)))
      (pss_one (ps_ret (pv 5)))))))), ?_⟩
  obtain ⟨g, dx, fs, a0, top, Vs, ad, nb, wt, u, v, x, rfl, G, nck, RZ, go, au, av, ax, kU, kV', kE, kW⟩ := h
  have big : 1000 < sizeLine := by decide
  refine ⟨_, rfl, _, rfl, by show 2 ≤ sizeLine; omega, fun p1 n1 => ?_⟩
  generalize gg1 : upd _ p1 _ = G1; obtain ⟨s1, L1⟩ := new_eq n1 gg1; clear gg1
  refine ⟨p1, rfl, ⟨_, .inl (.inl L1)⟩, ?_⟩
  have avs : ∀ {H' : Hp} {y : V}, Same H H' → AnyV K H y → AnyV K H' y := fun {H' y} sm h => by
    rcases h with h | ⟨nz, t, ty, kt⟩
    · exact .inl h
    · exact .inr ⟨nz, t, tyx_same sm ty, kt⟩
  refine for_it (walk_tup (xs := [u, v])) (fun i σ Hc => ∃ x4 : Option V, σ = [some (.ref g), some u, some v, some x, x4, none] ∧ Same H Hc ∧ Hc p1 = some (.tup [u, v]) ∧ (1 ≤ i → IsIn u Vs) ∧ (2 ≤ i → IsIn v Vs)) ⟨none, rfl, s1, L1, fun h => by omega, fun h => by omega⟩ ?_ ?_ ?_
  · rintro i σ Hc hi ⟨x4, rfl, c1, c2, c3, c4⟩
    exact .inl (.inl c2)
  · rintro i y σ Hc Hc' hi ⟨x4, rfl, c1, c2, c3, c4⟩ ⟨rfl, hy⟩
    have Gc : GAt K Hc' g C dx fs a0 top := G.ext (Ext.of c1)
    have Rc : RowsZ Hc' a0 Vs ad nb wt := RZ.ext (Ext.of c1)
    have hi2 : i = 0 ∨ i = 1 := by
      simp at hi
      omega
    rcases hi2 with rfl | rfl
    · have ey : y = u := by simpa using hy.symm
      subst ey
      refine ⟨_, rfl, g, dx, fs, rfl, Gc.ins, nck, _, rfl, g, C, dx, fs, a0, top, Vs, ad, nb, wt, y, rfl, Gc, Rc, go.nm, avs c1 au, fun hin H2 s2 => ?_, fun hno d H2 s2 nd_ hd => kU hno d H2 (c1.trans s2) (np_of c1 nd_) hd⟩
      exact ⟨_, rfl, c1.trans s2, s2 _ _ c2, fun _ => hin, fun h => by omega⟩
    · have ey : y = v := by simpa using hy.symm
      subst ey
      refine ⟨_, rfl, g, dx, fs, rfl, Gc.ins, nck, _, rfl, g, C, dx, fs, a0, top, Vs, ad, nb, wt, y, rfl, Gc, Rc, go.nm, avs c1 av, fun hin H2 s2 => ?_, fun hno d H2 s2 nd_ hd => kV' (c3 (by omega)) hno d H2 (c1.trans s2) (np_of c1 nd_) hd⟩
      exact ⟨_, rfl, c1.trans s2, s2 _ _ c2, fun _ => c3 (by omega), fun _ => hin⟩
  · rintro σ H2 ⟨x4, rfl, s2, _, c3, c4⟩
    obtain ⟨a, ha, rfl⟩ := c3 (by show 1 ≤ 2; decide)
    obtain ⟨b, hb, rfl⟩ := c4 (by show 2 ≤ 2; decide)
    have axs : AnyI K H2 x := by
      rcases ax with h | h | ⟨nz, t, ty, kt⟩
      · exact .inl h
      · exact .inr (.inl h)
      · exact .inr (.inr ⟨nz, t, tyx_same s2 ty, kt⟩)
    refine ⟨_, rfl, _, rfl, rfl, _, rfl, ?_⟩
    rw [decV]
    refine ite2 (fun h => ?_) (fun h => ?_)
    · have hab : a = b := of_decide_eq_true h
      refine ⟨_, rfl, _, rfl, _, rfl, by show 3 ≤ sizeLine; omega, fun p3 n3 => ?_⟩
      generalize gg3 : upd _ p3 _ = G3; obtain ⟨s3, L3⟩ := new_eq n3 gg3; clear gg3
      refine ⟨_, rfl, fun d nd_ => kE ⟨a, ha, rfl⟩ ⟨b, hb, rfl⟩ (.inl (by rw [hab])) d p3 _ ((s2.trans s3).trans (same_upd nd_)) (np_of (s2.trans s3) nd_) (np_of s2 n3) upd_same ((same_upd nd_) _ _ L3)⟩
    have hab : a ≠ b := fun z => h (decide_eq_true z)
    have raise : ¬ IsW x 0 → ∀ p3, H2 p3 = none → ∀ d, upd H2 p3 (.tup [.str a, .str b, x]) d = none → E (.ref CE) (some d) (upd (upd H2 p3 (.tup [.str a, .str b, x])) d (.xd [("value", .ref p3)])) := fun nw p3 n3 d nd_ => by
      obtain ⟨s3, L3⟩ := new_eq n3 (rfl : upd H2 p3 (.tup [.str a, .str b, x]) = _)
      exact kE ⟨a, ha, rfl⟩ ⟨b, hb, rfl⟩ (.inr nw) d p3 _ ((s2.trans s3).trans (same_upd nd_)) (np_of (s2.trans s3) nd_) (np_of s2 n3) upd_same ((same_upd nd_) _ _ L3)
    rcases axs with ⟨n, rfl⟩ | ⟨bb, rfl⟩ | ⟨nz, t, ty, kt⟩
    · refine ⟨_, rfl, _, _, _, rfl, .inl ⟨n, rfl, _, rfl, ite2 (fun h => ?_) (fun h => ?_)⟩⟩
      · have nw : ¬ IsW (.int n) 0 := fun ⟨i, e, i0, i1⟩ => by
          cases e
          rw [decide_eq_true i0, decide_eq_true i1] at h
          cases h
        exact ⟨_, rfl, _, rfl, _, rfl, by show 3 ≤ sizeLine; omega, fun p3 n3 => ⟨_, rfl, fun d nd_ => raise nw p3 n3 d nd_⟩⟩
      have n01 : 0 ≤ n ∧ n ≤ 1000000000 := by
        by_cases g0 : 0 ≤ n
        · by_cases g1 : n ≤ 1000000000
          · exact ⟨g0, g1⟩
          · rw [decide_eq_false g1, Bool.and_false] at h
            exact absurd rfl h
        · rw [decide_eq_false g0] at h
          exact absurd rfl h
      have G2 : GAt K H2 g C dx fs a0 top := G.ext (Ext.of s2)
      refine ⟨_, rfl, g, C, dx, _, _, rfl, G2.ins, G2.cls, G2.na, G2.la, a0, Vs, ad, nb, wt, rfl, RZ.ext (Ext.of s2), go.nd, by have := go.few; omega, fun ra bd H3 nra cp => ?_⟩
      have few := go.few
      have nl : ∀ u ∈ Vs, (nb u).length < sizeLine := fun u hu => by
        have : (nb u).length ≤ Vs.length := (go.sym.nd u hu).length_le_of_subset fun y hy => (go.sym.mem u hu y hy).1
        omega
      have R3 := cp.rows
      have s3 : Same H2 H3 := fun c o hc => cp.keep c o hc (ne_of_none hc nra)
      have neab : bd b ≠ bd a := fun z => hab (R3.inj b hb a ha z).symm
      have fin : ∀ nb2 wt2 H4, (∀ c o, H c = some o → H4 c = some o) → RowsM H4 ra Vs bd nb2 wt2 → SetW Vs nb wt a b n nb2 wt2 → (∃ a_1 Vs_1 ad_1 nb_1 wt_1, [V.ref ra] = [V.ref a_1] ∧ RowsM H4 a_1 Vs_1 ad_1 nb_1 wt_1 ∧ Sym Vs_1 nb_1 wt_1 ∧ Vs_1.length < 64 ∧ (Linked Vs_1 nb_1 → ∀ H', Same H4 H' → Q (.ref ra) H') ∧ (¬ Linked Vs_1 nb_1 → ∀ d p ys H', Same H4 H' → H4 d = none → H' d = some (.xd [("side", .ref p)]) → H' p = some (.tup (ys.map V.str)) → SideOf Vs_1 nb_1 ys → E (.ref CD) (some d) H')) := fun nb2 wt2 H4 k4 R4 sw => by
        refine ⟨ra, Vs, bd, nb2, wt2, rfl, R4, sw.sym go.sym ha hb hab, by omega, fun lk H5 s5 => ?_, fun lk d p ys H5 s5 nd_ hd hp sd => ?_⟩
        · exact (kW a b n rfl rfl ha hb hab rfl n01.1 n01.2 ra bd nb2 wt2 H5 (fun c o hc => s5 _ _ (k4 c o hc)) (np_of s2 nra) (fun y hy => np_of s2 (cp.new y hy)) (R4.ext (Ext.of s5)) sw).1 lk
        · exact (kW a b n rfl rfl ha hb hab rfl n01.1 n01.2 ra bd nb2 wt2 H4 k4 (np_of s2 nra) (fun y hy => np_of s2 (cp.new y hy)) R4 sw).2 lk d p ys H5 s5 nd_ hd hp sd
      refine ⟨fun σ H4 => ∃ nb2 wt2, σ = [some (.ref g), some (.str a), some (.str b), some (.int n), x4, some (.ref ra)] ∧ (∀ c o, H c = some o → H4 c = some o) ∧ RowsM H4 ra Vs bd nb2 wt2 ∧ SetW Vs nb wt a b n nb2 wt2, ?_, ?_⟩
      · refine ⟨_, rfl, _, _, rfl, rfl, _, rfl, ite2 (fun h => ?_) (fun h => ?_)⟩
        · have n0 : 0 < n := of_decide_eq_true h
          refine ⟨_, rfl, _, rfl, _, rfl, ra, _, rfl, get_d (.inl R3.top) ha, _, rfl, bd a, _, rfl, putI (R3.row a ha) (nl a ha), ?_⟩
          have R4 := R3.put ha (add (nb a) b) (fun y => if y = b then n else wt a y)
          have rb : upd H3 (bd a) (.dK (dct (add (nb a) b) fun y => .int (if y = b then n else wt a y))) (bd b) = some (.dK (dct (nb b) fun y => .int (wt b y))) := by
            rw [upd_ne neab]
            exact R3.row b hb
          have k4 : ∀ c o, H c = some o → upd H3 (bd a) (.dK (dct (add (nb a) b) fun y => .int (if y = b then n else wt a y))) c = some o := fun c o hc => by
            rw [upd_ne (ne_of_none (s2 _ _ hc) (cp.new a ha))]
            exact s3 _ _ (s2 _ _ hc)
          generalize upd H3 (bd a) (.dK (dct (add (nb a) b) fun y => .int (if y = b then n else wt a y))) = H4 at R4 rb k4 ⊢
          refine ⟨_, rfl, _, rfl, ra, _, rfl, get_d (.inl R4.top) hb, _, rfl, bd b, _, rfl, putI rb (nl b hb), ?_⟩
          have R5 := R4.put hb (add (nb b) a) (fun y => if y = a then n else wt b y)
          refine ⟨_, _, rfl, fun c o hc => ?_, R5.as (nb' := up (up nb a (add (nb a) b)) b (add (nb b) a)) (wt' := upw (upw wt a fun y => if y = b then n else wt a y) b fun y => if y = a then n else wt b y) (fun u _ => rfl) (fun u _ y _ => rfl), setw_put go.sym ha hb hab n0⟩
          rw [upd_ne (ne_of_none (s2 _ _ hc) (cp.new b hb))]
          exact k4 c o hc
        · have n0 : n = 0 := by
            have : ¬ (n > 0) := fun z => h (decide_eq_true z)
            omega
          subst n0
          refine ⟨_, rfl, _, rfl, _, rfl, ra, _, rfl, get_d (.inl R3.top) ha, bd a, _, rfl, get_x (.inl (R3.row a ha)), _, rfl, ?_⟩
          by_cases hin : b ∈ nb a
          · rw [if_pos hin]
            refine ite2 (fun _ => ?_) (fun h => absurd rfl h)
            have hba := (go.sym.mem a ha b hin).2.2.1
            refine ⟨_, rfl, _, rfl, ra, _, rfl, get_d (.inl R3.top) ha, _, rfl, bd a, _, Sum.inr b, rfl, R3.row a ha, rfl, by rw [dct_in hin]; rfl, ?_⟩
            rw [dct_drop]
            have R4 := R3.put ha ((nb a).filter fun y => decide (y ≠ b)) (wt a)
            have rb : upd H3 (bd a) (.dK (dct ((nb a).filter fun y => decide (y ≠ b)) fun y => .int (wt a y))) (bd b) = some (.dK (dct (nb b) fun y => .int (wt b y))) := by
              rw [upd_ne neab]
              exact R3.row b hb
            have k4 : ∀ c o, H c = some o → upd H3 (bd a) (.dK (dct ((nb a).filter fun y => decide (y ≠ b)) fun y => .int (wt a y))) c = some o := fun c o hc => by
              rw [upd_ne (ne_of_none (s2 _ _ hc) (cp.new a ha))]
              exact s3 _ _ (s2 _ _ hc)
            generalize upd H3 (bd a) (.dK (dct ((nb a).filter fun y => decide (y ≠ b)) fun y => .int (wt a y))) = H4 at R4 rb k4 ⊢
            refine ⟨_, rfl, _, rfl, ra, _, rfl, get_d (.inl R4.top) hb, _, rfl, bd b, _, Sum.inr a, rfl, rb, rfl, by rw [dct_in hba]; rfl, ?_⟩
            rw [dct_drop]
            have R5 := R4.put hb ((nb b).filter fun y => decide (y ≠ a)) (wt b)
            refine ⟨_, _, rfl, fun c o hc => ?_, R5.as (nb' := up (up nb a ((nb a).filter fun y => decide (y ≠ b))) b ((nb b).filter fun y => decide (y ≠ a))) (wt' := wt) (fun u _ => rfl) (fun u _ y _ => ?_), setw_del go.sym ha hb hab⟩
            · rw [upd_ne (ne_of_none (s2 _ _ hc) (cp.new b hb))]
              exact k4 c o hc
            · show (if u = b then wt b y else if u = a then wt a y else wt u y) = wt u y
              split
              · rename_i e
                rw [e]
              · split
                · rename_i e
                  rw [e]
                · rfl
          · rw [if_neg hin]
            refine ite2 (fun h => by cases h) (fun _ => ?_)
            exact ⟨nb, wt, rfl, fun c o hc => s3 _ _ (s2 _ _ hc), R3, setw_none go.sym ha hb hin⟩
      · rintro σ H4 ⟨nb2, wt2, rfl, k4, R4, sw⟩
        obtain ⟨z1, z2, z3, z4, z5, e, y1, y2, y3, y4, y5⟩ := fin nb2 wt2 H4 k4 R4 sw
        refine ⟨_, rfl, z1, z2, z3, z4, z5, e, y1, y2, y3, fun lk H5 s5 => ?_, y5⟩
        exact ⟨_, rfl, y4 lk H5 s5⟩
    · refine ⟨_, rfl, _, _, _, rfl, .inr (.inl ⟨bb, rfl, _, rfl, ite2 (fun h => ?_) (fun h => absurd rfl h)⟩)⟩
      have nw : ¬ IsW (.bl bb) 0 := fun ⟨i, e, _⟩ => nomatch e
      exact ⟨_, rfl, _, rfl, _, rfl, by show 3 ≤ sizeLine; omega, fun p3 n3 => ⟨_, rfl, fun d nd_ => raise nw p3 n3 d nd_⟩⟩
    · refine ⟨_, rfl, _, _, _, rfl, .inr (.inr ⟨t, ty, kt, _, rfl, ite2 (fun h => ?_) (fun h => absurd rfl h)⟩)⟩
      have nw : ¬ IsW x 0 := fun ⟨i, e, _⟩ => nz i e
      exact ⟨_, rfl, _, rfl, _, rfl, by show 3 ≤ sizeLine; omega, fun p3 n3 => ⟨_, rfl, fun d nd_ => raise nw p3 n3 d nd_⟩⟩
end
end Wk
namespace Wk
open PySem PySem.Spec PyProof.Rows L2 WkD WkN LamX WkP WkE WkC
theorem SetW.same {Vs : List Str} {nb nb2 nb3 : Nb} {wt wt2 wt3 : Wt} {a b : Str} {n : Int} (h : SetW Vs nb wt a b n nb2 wt2) (sg : SameG Vs nb2 wt2 nb3 wt3) (nd : ∀ u ∈ Vs, (nb3 u).Nodup) : SetW Vs nb wt a b n nb3 wt3 := by
  refine ⟨nd, fun u hu v => (sg.mem u hu v).trans (h.mem u hu v), fun u hu v hv => ?_⟩
  have hv := (sg.mem u hu v).mp hv
  rw [sg.val u hu v hv]
  exact h.val u hu v hv
theorem Linked.same {Vs : List Str} {nb nb2 : Nb} {wt wt2 : Wt} (sg : SameG Vs nb wt nb2 wt2) (sy : Sym Vs nb wt) (h : Linked Vs nb) : Linked Vs nb2 := by
  refine ⟨h.1, fun s hs u hu => ?_⟩
  exact (Rch.mono (nb' := nb2) hs (fun u hu v hv => (sy.mem u hu v hv).1) (fun u hu v hv => (sg.mem u hu v).mpr hv) (h.2 s hs u hu)).2
section
variable {P : Program} {w : World} {K : PySem.W.Frag} {mg : Str → Option Value} {base : Heap}
end
end Wk
namespace Wk
open PySem PySem.Spec PyProof.Rows L2 WkD WkN LamX WkP WkE WkC
section
variable {P : Program} {w : World} {K : PySem.W.Frag} {mg : Str → Option Value} {base : Heap}
structure LogC (K : PySem.W.Frag) (C fA : Addr) : Prop where
  f : FCls K C
  mro : PySem.W.mroIn K C (.ref C) = some true
  sup : PySem.W.ks_superIn K C C "accept" = some (some (.ref fA))
def spAcceptL (K : PySem.W.Frag) (T : List (Addr × Str)) (C : Addr) : Sp := fun vs H Q _ => ∃ (x ed a dx p m e : Addr) (rest : List (Str × V)) (t t0 : Str) (n r s : Int) (ms es : List V) (b : Bool) (Vs : List Str) (ad : Str → Addr) (nb : Nb) (wt : Wt), vs = [.ref x, .ref ed, .ref a, .str t] ∧
  H x = some (.ins C dx (netF p t0 n m e r s ++ rest)) ∧ RestOk rest ∧ SqT K H m ms ∧ ms.length < 1000000 ∧ RowsX b H a Vs ad nb wt ∧ GOk Vs nb wt ∧ t ∈ Vs ∧ Tabs T H ∧ H e = some (.lst es) ∧ es.length < 1000000 ∧
  ∀ Ws nb' wt' n' m' e' q H', AccE b x a Vs ad H H' → Tabs T H' → NetO H' x C rest Ws nb' wt' t n' m' e' r (s + 1) → H' m' = some (.tup (ms ++ [.ref ed])) → H' e' = some (.lst (es ++ [.ref q])) → H' q = some (.tup [.ref ed, .int n']) → Ws.Perm Vs → SameG Vs nb wt nb' wt' → Q .non H'
theorem ss_laccept : WkS.SupScope ["self", "edit", "around", "top"] ["self", "edit", "around", "top"] (defScope s_LoggedNetwork_accept) := ⟨rfl, rfl, rfl, by decide +kernel, rfl, by decide +kernel, by decide +kernel, by decide +kernel, by decide +kernel, by decide +kernel⟩
theorem ok_laccept {f fA cc cda C : Addr} {fd fdA : FuncData} {tbT : List (Addr × Str)} (ST : WkS.SupT P K mg ["self", "edit", "around", "top"] C f cc cda "LoggedNetwork.accept" (defArgs s_LoggedNetwork_accept) (defScope s_LoggedNetwork_accept) fd) (hbd : fd.body = .stmts (defBody s_LoggedNetwork_accept)) (FA : FnOk P w K mg base CX0 6 fA fdA ["self", "edit", "around", "top"] (spAccept K tbT C)) (hb2 : Binds K fdA ["self", "edit", "around", "top"] []) (hf2 : PySem.W.fnIn K fA = true)
    (hf2' : PySem.W.isFn K (.ref fA) = true) (LC : LogC K C fA) : FnOk P w K mg base CX0 7 f fd ["self", "edit", "around", "top"] (spAcceptL K tbT C) := by
  refine WkS.sup_ok (k := 6) (N := ["self", "edit", "around", "top"]) (m := "accept") (rest := (defBody s_LoggedNetwork_accept).drop 1) ST (hbd.trans (by rfl)) ss_laccept FA hb2 hf2 hf2' (by decide) (fun vs H Q E h => ?_) (fun A outer s H E => pass0) (fun env => rfl) (fun env => rfl) (fun env he => ⟨_, rfl⟩) (fun env he => ?_) (fun A outer s H vs Q E hr h => ?_)
  · obtain ⟨x, ed, a, dx, p, m, e, rest, t, t0, n, r, s, ms, es, b, Vs, ad, nb, wt, rfl, _⟩ := h
    rfl
  · exact ⟨by unfold interactive; rw [he]; rfl, rfl⟩
  · obtain ⟨x, ed, a, dx, p, m, e, rest, t, t0, n, r, s, ms, es, b, Vs, ad, nb, wt, rfl, hx, hre, hm, hml, R0, go, htV, hT, he, hel, k⟩ := h
    have hu := hu_of hr
    have nd := ss_laccept.nd
    refine ⟨_, _, x, C, dx, _, rfl, hx, LC.mro, LC.sup, pa_cons (pv 1) (pa_cons (pv 2) (pa_cons (pv 3) pa_nil)), (pss_one (ps_fld (pv 0) (pe_op op_cat (pe_fld (pv 0) rfl) (pe_lst (pa_cons (pe_tup (pa_cons (pv 1) (pa_cons (pe_fld (pv 0) rfl) pa_nil))) pa_nil))) rfl)), ?_⟩
    refine ⟨_, rfl, _, rfl, _, rfl, x, ed, a, dx, p, m, e, rest, t, t0, n, r, s, ms, b, Vs, ad, nb, wt, rfl, hx, hre, hm, hml, R0, go, htV, hT, fun Ws nb' wt' n' m' H2 a2 T2 N2 hm2 pm sg => ?_⟩
    obtain ⟨dx2, p2, ad2, hx2, rz2⟩ := id N2.ex
    have rlen := hre.len
    have hea : b = false → e ≠ a ∧ ∀ u ∈ Vs, e ≠ ad u := fun hb => by
      subst hb
      have R : RowsM H a Vs ad nb wt := R0
      exact ⟨ne_of he R.top (by intro z; cases z), fun u hu => ne_of he (R.row u hu) (by intro z; cases z)⟩
    have he2 := a2 _ _ he (ne_of he hx (by intro z; cases z)) (fun ps z => by cases z) hea
    refine ⟨_, rfl, x, C, dx2, _, _, rfl, hx2, LC.f.cls, LC.f.ne, rfl, _, rfl, _, rfl, x, C, dx2, _, _, rfl, hx2, LC.f.cls, LC.f.nf, rfl, by show 2 ≤ sizeLine; decide, fun q3 n3 => ?_⟩
    generalize gg : upd _ q3 _ = G3
    obtain ⟨s3, L3⟩ := new_eq n3 gg
    clear gg
    refine ⟨by show 1 ≤ sizeLine; decide, fun p4 n4 => ?_⟩
    generalize gg4 : upd _ p4 _ = G4; obtain ⟨s4, L4⟩ := new_eq n4 gg4; clear gg4
    refine ⟨e, p4, es, [.ref q3], rfl, rfl, s4 _ _ (s3 _ _ he2), L4, by
      have big : 10000000 < sizeLine := by decide
      show es.length + 1 ≤ sizeLine
      omega, fun p5 n5 => ?_⟩
    generalize gg5 : upd _ p5 _ = G5; obtain ⟨s5, L5⟩ := new_eq n5 gg5; clear gg5
    have s25 : Same H2 G5 := (s3.trans s4).trans s5
    have hx5 := s25 _ _ hx2
    have n5x : p5 ≠ x := Ne.symm (ne_of_none (s4 _ _ (s3 _ _ hx2)) n5)
    have l7 : (netF p2 t n' m' e r (s + 1) ++ rest).length < 1000 := by
      rw [List.length_append]
      show 7 + rest.length < 1000
      omega
    refine ⟨_, rfl, x, C, dx2, _, rfl, hx5, LC.f.cls, LC.f.ne, l7, ?_⟩
    have hm5 := s25 _ _ hm2
    have hq5 : G5 q3 = some (.tup [.ref ed, .int n']) := s5 _ _ (s4 _ _ L3)
    refine k Ws nb' wt' n' m' p5 q3 _ (fun c o h hne nt hn => ?_) (tabs_upd (T2.ext s25) hx5 trivial) ⟨⟨dx2, p2, ad2, upd_same, ?_⟩, N2.rst, N2.asc, N2.an, N2.gok, N2.lc, N2.rt⟩ ?_ ?_ ?_ pm sg
    · rw [upd_ne hne]
      exact s25 _ _ (a2 c o h hne nt hn)
    · exact ExtB.rz (x := x) (fun c o h hne _ => by rw [upd_ne hne]; exact h) (rz2.ext (Ext.of s25)) hx5
    · rw [upd_ne (ne_of hm5 hx5 (by intro z; cases z))]
      exact hm5
    · rw [upd_ne n5x]
      exact L5
    · rw [upd_ne (ne_of hq5 hx5 (by intro z; cases z))]
      exact hq5
def spLog (C : Addr) : Sp := fun vs H Q _ => ∃ (x m e : Addr) (rest : List (Str × V)) (vs0 : List Str) (nb : Nb) (wt : Wt) (t : Str) (n r s : Int) (es : List V), vs = [.ref x] ∧ NetO H x C rest vs0 nb wt t n m e r s ∧ H e = some (.lst es) ∧ es.length < 1000000 ∧ ∀ q H', Same H H' → H' q = some (.tup es) → Q (.ref q) H'
theorem sc_plog : FnScope ["self"] ["self"] (defScope s_LoggedNetwork_log) := ⟨rfl, rfl, rfl, by decide +kernel, rfl, by decide +kernel, by decide +kernel⟩
theorem ok_plog {f C : Addr} {fd : FuncData} (F : FnP K "log" "LoggedNetwork.log" s_LoggedNetwork_log f fd) (B : Bi mg) (fc : FCls K C) : FnOk P w K mg base CX0 1 f fd ["self"] (spLog C) := by
  refine F.ok sc_plog (fun vs H Q E h => ?_) (fun cdv A outer s H vs Q E hr h => ?_)
  · obtain ⟨x, m, e, rest, vs0, nb, wt, t, n, r, s, es, rfl, _⟩ := h
    rfl
  have hu := hu_of hr
  refine ⟨_, PSs.nox (pss_one (ps_ret (pe_callTy call_tuple_of (by rfl) B.n_tuple (by decide +kernel) (pa_cons (pe_fld (pv 0) rfl) pa_nil)))), ?_⟩
  obtain ⟨x, m, e, rest, vs0, nb, wt, t, n, r, s, es, rfl, N, he, hel, k⟩ := h
  obtain ⟨dx, p, ad, hx, rz⟩ := N.ex
  refine ⟨_, rfl, x, C, dx, _, _, rfl, hx, fc.cls, fc.ne, rfl, e, es, rfl, .inl ⟨SqL.of he, fun q nq => ?_⟩⟩
  refine k q _ (same_upd nq) upd_same
def spDepth (C : Addr) : Sp := fun vs H Q _ => ∃ (x m e : Addr) (rest : List (Str × V)) (vs0 : List Str) (nb : Nb) (wt : Wt) (t : Str) (n r s : Int), vs = [.ref x] ∧ NetO H x C rest vs0 nb wt t n m e r s ∧ Q (.int r) H
theorem sc_pdepth : FnScope ["self"] ["self"] (defScope s_Network_depth) := ⟨rfl, rfl, rfl, by decide +kernel, rfl, by decide +kernel, by decide +kernel⟩
theorem ok_pdepth {f C : Addr} {fd : FuncData} (F : FnP K "depth" "Network.depth" s_Network_depth f fd) (fc : FCls K C) : FnOk P w K mg base CX0 1 f fd ["self"] (spDepth C) := by
  refine F.ok sc_pdepth (fun vs H Q E h => ?_) (fun cdv A outer s H vs Q E hr h => ?_)
  · obtain ⟨x, m, e, rest, vs0, nb, wt, t, n, r, s, rfl, _⟩ := h
    rfl
  refine ⟨_, PSs.nox (pss_one (ps_ret (pe_fld (pv 0) rfl))), ?_⟩
  obtain ⟨x, m, e, rest, vs0, nb, wt, t, n, r, s, rfl, N, k⟩ := h
  obtain ⟨dx, p, ad, hx, rz⟩ := N.ex
  exact ⟨_, rfl, x, C, dx, _, _, rfl, hx, fc.cls, fc.nr, rfl, k⟩
structure HistC (K : PySem.W.Frag) (C : Addr) : Prop where
  cls : Cls K C
  nm : NoAttr K C "made"
def spHist (K : PySem.W.Frag) : SpG := fun vs H cont _ => ∃ (x C dx m : Addr) (fs : List (Str × V)) (ms : List V), vs = [.ref x] ∧ H x = some (.ins C dx fs) ∧ HistC K C ∧ fs.lookup ("made" : Str) = some (.ref m) ∧ H m = some (.tup ms) ∧ ms.length ≤ sizeLine ∧ cont ms H
theorem ok_history {f : Addr} {fd : FuncData} (F : FnP K "history" "Network.history" s_Network_history f fd) : GFn P w K mg base 2 f fd ["self"] (spHist K) := by
  obtain ⟨oc, od, dV, kV, doc, pm, an, cdv, ct, osl, rfl, lk, cd, _, _⟩ := F.ex
  refine gfn_of (N := ["self"]) lk cd ⟨rfl, rfl, rfl, by decide +kernel, rfl, by decide +kernel, by decide +kernel⟩ (fun vs H Q E h => ?_) (fun A outer s H vs Q E pn hr h => ?_)
  · obtain ⟨x, C, dx, m, fs, ms, rfl, _⟩ := h
    rfl
  obtain ⟨x, C, dx, m, fs, ms, rfl, hx, hc, hm, hms, hl, k⟩ := h
  refine ⟨_, gss_cons (gs_yieldFrom (yf_tup (pe_fld (pv 0) rfl)) hr.hd) gss_nil, ?_⟩
  refine ⟨_, rfl, x, C, dx, _, _, rfl, hx, hc.cls, hc.nm, hm, m, ms, rfl, hms, ?_, ?_⟩
  · show 0 + ms.length ≤ sizeLine
    omega
  · exact k
def spSetWL (K : PySem.W.Frag) (T : List (Addr × Str)) (C : Addr) : Sp := fun vs H Q _ => ∃ (x : Addr) (u v : Str) (i : Int) (rest : List (Str × V)) (t : Str) (n : Int) (m e : Addr) (r s : Int) (ms es : List V) (Vs : List Str) (nb : Nb) (wt : Wt), vs = [.ref x, .str u, .str v, .int i] ∧
  NetO H x C rest Vs nb wt t n m e r s ∧ SqT K H m ms ∧ ms.length < 1000000 ∧ H e = some (.lst es) ∧ es.length < 1000000 ∧ Tabs T H ∧ u ∈ Vs ∧ v ∈ Vs ∧ u ≠ v ∧ 0 ≤ i ∧ i ≤ 1000000000 ∧ (∀ nb2 wt2, SetW Vs nb wt u v i nb2 wt2 → Linked Vs nb2) ∧
  ∀ nb' wt' n' m' e' ed q H', (∀ c o, H c = some o → c ≠ x → (∀ ps, o ≠ .tbl ps) → H' c = some o) → Tabs T H' → NetO H' x C rest Vs nb' wt' t n' m' e' r (s + 1) → H' m' = some (.tup (ms ++ [.ref ed])) → H' ed = some (.tup [.str "set_weight", .str u, .str v, .int i]) → H' e' = some (.lst (es ++ [.ref q])) → H' q = some (.tup [.ref ed, .int n']) → SetW Vs nb wt u v i nb' wt' → Q .non H'
theorem sc_lset_weight : FnScope ["self", "u", "v", "weight", "around"] ["self", "u", "v", "weight"] (defScope s_Network_set_weight) := ⟨rfl, rfl, rfl, by decide +kernel, rfl, by decide +kernel, by decide +kernel⟩
theorem ok_lset_weight {f C CU CE CD : Addr} {fd : FuncData} {tbT : List (Addr × Str)} (F : FnP K "set_weight" "Network.set_weight" s_Network_set_weight f fd) (NK : AccC P w K mg base C) (CR : Callee P w K mg base (CX P w) 3 "rows_with_weight" ["graph", "u", "v", "weight"] (spRowsW K C CU CE CD)) (CA : MethC P w K mg base CX0 C "accept" 7 (spAcceptL K tbT C)) :
    FnOk P w K mg base (CX P w) 8 f fd ["self", "u", "v", "weight"] (spSetWL K tbT C) := by
  refine F.ok sc_lset_weight (fun vs H Q E h => ?_) (fun cdv A outer s H vs Q E hr h => ?_)
  · obtain ⟨x, u, v, i, rest, t, n, m, e, r, s, ms, es, Vs, nb, wt, rfl, _⟩ := h
    rfl
  have nd := sc_lset_weight.nd
  have hr7 : Room 7 _ := hr
  have hr3 : Room 3 _ := hr.mono (by decide)
  refine ⟨_, (pss_cons (ps_set (i := 4) nd rfl (Or.inl rfl) (pe_c CR hr3 (passes_call (takes_of rfl rfl rfl rfl) fun _ _ _ _ h => h) (pa_cons (pv 0) (pa_cons (pv 1) (pa_cons (pv 2) (pa_cons (pv 3) pa_nil))))))
      (pss_one (ps_expr (WkC.pe_mt CA NK.cls hr7 pass0 (pv 0) (pa_cons (pe_tup (pa_cons pe_str (pa_cons (pv 1) (pa_cons (pv 2) (pa_cons (pv 3) pa_nil))))) (pa_cons (pv 4) (pa_cons (pe_fld (pv 0) rfl) pa_nil))))))), ?_⟩
  obtain ⟨x, u, v, i, rest, t, n, m, e, r, s, ms, es, Vs, nb, wt, rfl, N, hm, hml, he, hel, hT, huV, hvV, uv, i0, i1, hlk, k⟩ := h
  obtain ⟨dx, p, ad, hx, rz⟩ := N.ex
  have nmV := N.gok.nm
  have GA : GAt K H x C dx (netF p t n m e r s ++ rest) p t := ⟨hx, NK.f.cls, NK.f.na, NK.f.nt, rfl, rfl⟩
  have iu : IsIn (.str u) Vs := ⟨_, huV, rfl⟩
  have iv : IsIn (.str v) Vs := ⟨_, hvV, rfl⟩
  refine ⟨_, rfl, _, rfl, _, rfl, _, rfl, x, dx, _, p, t, Vs, ad, nb, wt, .str u, .str v, .int i, rfl, GA, N.rst.no (by decide), rz, N.gok, .inl ⟨_, rfl, name_len (nmV _ huV)⟩, .inl ⟨_, rfl, name_len (nmV _ hvV)⟩, .inl ⟨i, rfl⟩, fun h => absurd iu h, fun _ h => absurd iv h, fun _ _ h => ?_, fun a b i' eu ev ha hb hab ey i0 i1 p1 bd nb2 wt2 H1 s1 np1 nbd R1 sw => ⟨fun lk => ?_, fun lk d q ys H2 s2 nd_ hd hq sd => ?_⟩⟩
  · rcases h with h | h
    · injection h with h
      exact absurd h uv
    · exact absurd ⟨i, rfl, i0, i1⟩ h
  · cases eu
    cases ev
    cases ey
    have hx1 := s1 _ _ hx
    refine ⟨_, rfl, x, dx, _, rfl, hx1, N.rst.no (by decide), _, rfl, _, rfl, _, rfl, by show 4 ≤ sizeLine; decide, fun ed ned => ?_⟩
    generalize gg : upd _ ed _ = G2
    obtain ⟨s2, L2⟩ := new_eq ned gg
    clear gg
    have hx2 := s2 _ _ hx1
    refine ⟨_, rfl, _, rfl, x, C, dx, _, _, rfl, hx2, NK.f.cls, NK.f.nt, rfl, ?_⟩
    have s12 : Same H G2 := fun c o h => s2 _ _ (s1 c o h)
    have R2 : RowsM G2 p1 Vs bd nb2 wt2 := R1.ext (Ext.of s2)
    have go2 := sw.gok N.gok ha hb hab i1 lk
    refine ⟨x, ed, p1, dx, p, m, e, rest, t, t, n, r, s, ms, es, false, Vs, bd, nb2, wt2, rfl, hx2, N.rst, WkG.seqT_same s12 hm, hml, R2, go2, N.rt, hT.ext s12, s12 _ _ he, hel, fun Ws nb' wt' n' m' e' q H3 a3 T3 N3 hm3 he3 hq3 pm sg => ?_⟩
    have eW : Ws = Vs := asc_uniq (R := ltS) ltS_irrefl (fun a b c => ltS_trans) N3.asc N.asc fun y => pm.mem_iff
    subst eW
    have out : ∀ c o, H c = some o → c ≠ p1 ∧ ∀ u ∈ Ws, c ≠ bd u := fun c o h => ⟨ne_of_none h np1, fun u hu => ne_of_none h (nbd u hu)⟩
    refine k nb' wt' n' m' e' ed q H3 (fun c o h hne nt => a3 c o (s12 c o h) hne nt fun _ => out c o h) T3 N3 hm3 (a3 _ _ L2 (ne_of L2 hx2 (by intro z; cases z)) (fun ps z => by cases z) fun _ => ⟨ne_of L2 R2.top (by intro z; cases z), fun u hu => ne_of L2 (R2.row u hu) (by intro z; cases z)⟩) he3 hq3 (sw.same sg fun u hu => asc_nodup (N3.an u hu))
  · cases eu
    cases ev
    cases ey
    exact absurd (hlk _ _ sw) lk
end
end Wk
namespace WkV
open PySem PySem.Spec PyProof.Rows L2
section
variable {P : Program} {w : World} {K : PySem.W.Frag} {mg : Str → Option Value} {base : Heap} {CX : CXT} {k : Nat} {f c : Addr} {fd : FuncData} {ps N : List Str} {sp : Sp} {x qual : Str} {params : Arguments} {body : List Stmt} {scope : Scope} {dvs : List V} {kws : List (Str × V)}
end
section
variable {X : Cx} {body : List Stmt} {h₀ : ExceptHandler} {hds : List ExceptHandler} {pos : Pos} {tb : TS}
end
section
variable {X : Cx}
end
end WkV
namespace PySem.SeqAt
open AutoSeq1 (wpAny_loadPart')
open MeetsSeq
section
variable {A : Around} {s : Shared}
end
end PySem.SeqAt
namespace WkK
open PySem PySem.Spec PyProof.Rows L2 WkG
section
variable {X : Cx} {x f : Str} {C fI : Addr}
end
end WkK
namespace WkW
open PySem PySem.Spec PyProof.Rows L2 PySem.W
section
variable {M : Model} {A : Around} {E : Value → Shared → Prop} {s : Shared}
end
section
variable {M : Model} {K : Frag}
end
end WkW
namespace WkW
open PySem PySem.Spec PyProof.Rows L2
inductive NamesAll (X : Cx) : List Expr → List Value → Prop
  | nil : NamesAll X [] []
  | cons {x : Str} {c : Value} {np : Pos} {es : List Expr} {cs : List Value} (h : Names X x c) (r : NamesAll X es cs) : NamesAll X (.Name x np :: es) (c :: cs)
theorem NamesAll.length {X : Cx} {es : List Expr} {cs : List Value} (h : NamesAll X es cs) : cs.length = es.length := by
  induction h with
  | nil => rfl
  | cons _ _ ih => rw [List.length_cons, List.length_cons, ih]
section
variable {X : Cx} {a : Addr} {pn : List (Addr × Obj)}
end
section
variable {X : Cx} {n : Str} {cs : List Value} {i kk : Nat} {body suite : List Stmt} {b₀ : Stmt} {es : List Expr} {np pos pos' : Pos} {tb : WX → TS} {ts : Addr → Value → Option Addr → TS} {Wout : WX}
end
abbrev SpP := Addr → Value → Option Addr → Sp
structure FnQ (P : Program) (w : World) (K : PySem.W.Frag) (mg : Str → Option Value) (base : Heap) (k : Nat) (f : Addr) (fd : FuncData) (ps : List Str) (sp : SpP) : Prop where
  len : ∀ a cls d vs H Q E, sp a cls d vs H Q E → vs.length = ps.length
  run : ∀ (A : Around) (outer : List Env) (s : Shared) (H : Hp) (args : Args) (us : List Value) (vs : List V) (Q : VK) (E : XK) (p : Addr × Obj) (cls : Value) (d : Option Addr), Zc cls d p.2 → (∃ xs, p.2.data = .fields xs) → L2H.RoomH k A → L2H.PinOk outer H s p → Env0 P w K mg base A outer s H → BindsTo s fd args (ps.zip us) → Vals vs us → sp p.1 cls d vs H Q E →
    codeAny (model P w) A (.call (.ref f) args) (CR C8.CX0 outer P w H s Q E) s
section
variable {P : Program} {w : World} {K : PySem.W.Frag} {mg : Str → Option Value} {base : Heap} {k : Nat} {f : Addr} {fd : FuncData} {ps N : List Str} {sp : SpP} {x qual : Str} {params : Arguments} {body : List Stmt} {scope : Scope} {dvs : List V} {kws : List (Str × V)}
theorem okQ (F : FunD K x qual params body scope dvs kws f fd) (S : FnScope N ps scope) (len : ∀ a cls d vs H Q E, sp a cls d vs H Q E → vs.length = ps.length)
    (hbody : ∀ (cdv : Value) (A : Around) (outer : List Env) (s : Shared) (H : Hp) (vs : List V) (Q : VK) (E : XK) (p : Addr × Obj) (cls : Value) (d : Option Addr), Zc cls d p.2 → (∃ xs, p.2.data = .fields xs) → L2H.RoomH k (A.deeper (envOfC qual scope s.heap.objs.size f cdv)) → sp p.1 cls d vs H Q E →
      ∃ t, PSs (L2H.cxH C8.CX0 P w K mg base N qual scope f cdv A outer s H E p) body t ∧ t { nx := fun _ H' => Q .non H', rt := Q } (L2.start N vs) H) : FnQ P w K mg base (k + 1) f fd ps sp := by
  obtain ⟨oc, od, dV, kV, doc, pm, an, cdv, ct, osl, rfl, lk, hcd, _, _⟩ := F.ex
  refine ⟨len, fun A outer s H args us vs Q E p cls d hz hfl hr hpin e0 hb r hsp => ?_⟩
  have hl := len _ _ _ _ _ _ _ hsp
  have KX : K.In s.heap := e0.mod.kin.keeps fun b o e => (e0.bs b o e).1
  have lim : s.heap.NoLimit := e0.mod.nolimit.keeps fun b o e => (e0.bs b o e).1
  have hkind : ∀ y ∈ ps.zip us, scope.names.lookup y.1 = some .local ∨ (scope.names.lookup y.1 = some .cell ∧ ((cellsFrom (s.heap.objs.size + 1) scope.names []).lookup y.1).isSome = true) := fun ⟨n, v⟩ hy => by
    rcases S.par n (List.of_mem_zip hy).1 with q | q
    · exact .inl q
    · exact .inr ⟨q, PySem.W.cellsFrom_some _ _ _ (.inl q)⟩
  refine codeAny_call_function hr.depth (KX _ _ lk) rfl S.co S.gen rfl (PySem.W.codeRec_of KX hcd) (hb _ _ _ _ ?_)
  refine wpAny_newFunctionEnv_cells S.kind hkind fun env he s1 y => ?_
  subst he
  refine ⟨lim.keeps y.toInCall.keep, codeAny_func ?_⟩
  obtain ⟨t, ht, hq⟩ := hbody cdv A outer s H vs Q E p cls d hz hfl (hr.deeper _) hsp
  have I : Inv (L2H.cxH C8.CX0 P w K mg base N qual scope f cdv A outer s H E p) [] (L2.start N vs) H s1 := L2H.inv_startH S hpin e0 hl r y
  refine wpAny_mono (ht.run [] s1 (L2.start N vs) H _ I hq) (fun fl s' hs => ?_) fun e s' hs => hs
  cases fl with
  | ret u =>
    obtain ⟨v, σ', H', J, rv, q⟩ := hs
    exact ⟨v, H', J.os, J.bare, J.base, J.hok, rv, q⟩
  | next =>
    obtain ⟨σ', H', J, q⟩ := hs
    exact ⟨.non, H', J.os, J.bare, J.base, J.hok, rfl, q⟩
  | brk =>
    obtain ⟨_, _, _, q⟩ := hs
    exact False.elim q
  | cont =>
    obtain ⟨_, _, _, q⟩ := hs
    exact False.elim q
end
section
variable {X : Cx} {k : Nat} {ps : List Str} {sp : SpP} {x : Str} {q pos : Pos} {e : Expr} {es : List Expr} {t : TA} {p : Addr × Obj} {cls : Value} {d : Option Addr}
theorem pin_at {pins : List (Addr × Obj)} {σ : L2.St} {H : Hp} {s : Shared} {C dd : Addr} {fs : List (Str × V)} (I : Inv X pins σ H s) (hp : p ∈ X.pn) (hz : Zc cls d p.2) (hfl : ∃ xs, p.2.data = .fields xs) (ec : cls = .ref C) (ed' : d = some dd) (ed : H dd = some (.xd fs)) : ∃ (od : Obj) (mA : Str → Option Value), PySem.W.InstAt s.heap p.1 p.2 C (some od) ∧ (∀ n, PySem.W.lookIn n od = some (mA n)) ∧ ∀ n, RelO (fs.lookup n) (mA n) := by
  obtain ⟨ha, _⟩ := I.pin p (List.mem_append_left _ hp)
  obtain ⟨vs, hd⟩ := hfl
  subst ec ed'
  have hx : ObjOk X.prog X.w H s.heap dd (.xd fs) := I.hok dd _ ed
  obtain ⟨mA, hns, hr⟩ := hx
  obtain ⟨od, ho, hl⟩ := lookIn_ns hns
  exact ⟨od, mA, ⟨ha, hz.1, by unfold PySem.W.notCls; rw [hd] <;> rfl, by rw [hz.2]; exact ho⟩, hl, hr⟩
def tExP (K : PySem.W.Frag) (mg : Str → Option Value) (a : Addr) (cls : Value) (d : Option Addr) (f : Str) (te : TE) : TE := fun σ H Q => te σ H fun y H1 => y = .ref a ∧ ∃ (x : Str) (C fI dd : Addr) (fs : List (Str × V)) (v : V), WkX.ExcT K mg x f C fI ∧ cls = .ref C ∧ d = some dd ∧ H1 dd = some (.xd fs) ∧ fs.lookup f = some v ∧ Q v H1
theorem pe_exP {f : Str} {te : TE} (hp : p ∈ X.pn) (hz : Zc cls d p.2) (hfl : ∃ xs, p.2.data = .fields xs) (he : PE X e te) (hb : attributeBase e f X.env (eval e X.env) = eval e X.env := by rfl) : PE X (.Attribute e f pos) (tExP X.K X.mg p.1 cls d f te) := by
  refine ⟨fun pins s σ H Q I h => ?_⟩
  refine attr_of hb (thn (he.run pins s σ H _ I h) fun u s1 hh => ?_)
  obtain ⟨y, H1, I1, ry, ey, x, C, fI, dd, fs, v, T, ec, ed', ed, hl, q⟩ := hh
  subst ey
  obtain rfl : u = Value.ref p.1 := ry
  obtain ⟨od, mA, J, hlk, hr⟩ := pin_at I1 hp hz hfl ec ed' ed
  obtain ⟨u, hu, ru⟩ := RelO.some_of (v := v) (o := mA f) (by rw [← hl]; exact hr f)
  exact HandSPX.exc_get I1.kIn J T.ga T.gg T.exC (PySem.W.findObj_own T.hdC T.noN rfl (by rw [hlk, hu])) (handed_of ru) ⟨v, H1, I1.tok _, ru, q⟩
end
end WkW
namespace WkI
open PySem PySem.Spec PyProof.Rows L2
def exitOn (env : Env) (e r : Value) : Sem Flow := do
  let swallow ← match r with
    | .none => pure false
    | .bool b => pure b
    | _ => do pure ((← withItem.marked e (.call (.type "bool") ⟨[r], []⟩)) == .bool true)
  if swallow then rule "with.exit-swallows"; setFlight e none; pure .next else passOn "with" e env
def exitCall (x fx : Addr) (env : Env) (e ty tb : Value) : Sem Flow := do
  let r ← withItem.marked e (.call (.ref fx) ⟨[.ref x, ty, e, tb], []⟩)
  exitOn env e r
def exitTail (x fx : Addr) (pos : Pos) (env : Env) (e : Value) : Sem Flow := do
  standAt pos
  holding [e] do
    let ty ← typeOf e
    let tb ← tracebackOf e
    exitCall x fx env e ty tb
def exitRaised (x fx : Addr) (pos : Pos) (env : Env) (e : Value) : Sem Flow := do
  noteFrame e env
  setFlight e none
  exitTail x fx pos env e
section
variable {prog : Program} {w : World} {A : Around} {E : Value → Shared → Prop} {s : Shared} {env : Env} {K : PySem.W.Frag} {x C fe fx : Addr} {ox : Obj} {od : Option Obj} {pos : Pos}
open PySem.W in
theorem kw_coreR {bdy : Sem Flow} {Q : Flow → Shared → Prop} (X : K.In s.heap) (I : InstAt s.heap x ox C od) (he : findIn K (.ref C) "__enter__" = some (some (.ref fe))) (hfe : isFn K (.ref fe) = true) (hx : findIn K (.ref C) "__exit__" = some (some (.ref fx))) (hfx : isFn K (.ref fx) = true)
    (h : wpAny (model prog w) A (call (.ref fe) [.ref x]) (fun v s₂ => wpAny (model prog w) A bdy (fun f s₄ => wpAny (model prog w) A (call (.ref fx) [.ref x, .none, .none, .none]) (fun _ s₅ => Q f s₅) E s₄) (fun e s₄ => wpAny (model prog w) A (exitRaised x fx pos env e) Q E s₄) s₂) E s) :
    wpAny (model prog w) A (withItem false pos env (pure (.ref x)) none bdy) Q E s := by
  obtain ⟨cd, hcd, ae⟩ := kw_along he
  obtain ⟨cd', hcd', ax⟩ := kw_along hx
  cases hcd.symm.trans hcd'
  obtain ⟨hh, g, d, tt, os⟩ := s
  have L1 : Looks (model prog w) hh (specialOnItsLine (.ref x) "__enter__") (some (.ref fe), cd.mro) := kw_special X I hcd ae
  have L2 : Looks (model prog w) hh (specialOnItsLine (.ref x) "__exit__") (some (.ref fx), cd.mro) := kw_special X I hcd ax
  have L3 : Looks (model prog w) hh (bindSpecial (.ref fe) (.ref x)) (.ref fe, [.ref x]) := bind_fn X _ (beq_iff_eq.mp hfe)
  have L4 : Looks (model prog w) hh (bindSpecial (.ref fx) (.ref x)) (.ref fx, [.ref x]) := bind_fn X _ (beq_iff_eq.mp hfx)
  have L5 : Looks (model prog w) hh (aMethodOfAnotherBuiltinTypeStops (.ref fe) cd.mro) () := Looks.of_pure rfl
  have L6 : Looks (model prog w) hh (aMethodOfAnotherBuiltinTypeStops (.ref fx) cd.mro) () := Looks.of_pure rfl
  unfold withItem
  refine wpAny_bind (wpAny_pure ?_)
  refine wpAny_bind (wpAny_standAt ?_)
  simp only [Bool.false_eq_true, if_false]
  kw_lk
  refine wpAny_mono h (fun v s₂ h₂ => ?_) fun _ _ z => z
  kw_lk
  refine wpAny_attempt (kw_held ?_)
  show wpAny _ _ bdy _ _ _
  refine wpAny_mono h₂ (fun f s₄ h₄ => ?_) (fun e s₄ h₄ => ?_)
  · kw_lk
    refine wpAny_mono h₄ (fun _ s₅ h₅ => ?_) fun _ _ z => z
    kw_lk
    exact h₅
  · exact h₄
end
end WkI
namespace WkI
open PySem PySem.Spec PyProof.Rows L2
def E0 : XK := fun _ _ _ => False
def wWith (spE : WkW.SpP) (am : Addr) (Wout : WX) : WX := fun cls d σ H => ∃ vc, L2.RelV vc cls ∧ ∀ (q : Addr) (tb : V), H q = none → (tb = .non ∨ ∃ T, tb = .ref T) → spE q cls d [.ref am, vc, .ref q, tb] H (fun v H2 => v = .non ∧ Wout cls d σ H2) E0
section
variable {X : Cx} {pins : List (Addr × Obj)} {D : Ends} {Wout : WX} {am fx : Addr} {fdx : FuncData} {psx : List Str} {spE : WkW.SpP} {k : Nat} {pos : Pos} {xe0 : Value → Shared → Prop}
theorem with_exc {u : Value} {s' : Shared} (hs : X.stack = X.env :: X.outer) (hf : X.env.frame = some X.env.locals) (hex : X.ex = []) (ok : X.Ok) (tk : Takes X Wout) (FQ : WkW.FnQ X.prog X.w X.K X.mg X.base k fx fdx psx spE) (BX : Binds X.K fdx psx [])
    (hr : ∀ a, L2H.RoomH k (X.A.mark (some (.ref a)))) (xx : XE (X.tr (X.pn ++ pins) xe0) (wWith spE am Wout) u s') :
    wpAny (model X.prog X.w) X.A (noteFrame u X.env) (fun _ s₂ => wpAny (model X.prog X.w) X.A (setFlight u none) (fun _ s₃ => wpAny (model X.prog X.w) X.A (exitTail am fx pos X.env u) (SP X pins D) X.xe s₃) X.xe s₂) X.xe s' := by
  have hfr : X.A.frames = some (X.env :: X.outer) := by rw [ok.frames, hs]
  obtain ⟨a, B, sI, pins', σ', H', cls, d, rfl, J', nb, up, sky, na, os, ag, vc, rvc, hw⟩ := xx
  have J : Inv X pins σ' H' sI := J'.ofTry ok
  have sky' : Sky B (X.env :: X.outer) a (Zc cls d) X.env.locals s'.heap := by rw [← hs]; exact sky
  refine Sky.land (Q := fun _ s3 => wpAny (model X.prog X.w) X.A (exitTail am fx pos X.env (.ref a)) (SP X pins D) X.xe s3) (E₁ := X.xe) Zc.steady hfr hf sky' fun h3 fl3 up3 => ?_
  have J3 : Inv X pins σ' H' { s' with heap := h3 } := J.landed nb fl3.1 (up.trans up3) os ag
  obtain ⟨k1, k2, k3, oe, vs, T, oT, ts, he3, hz, hd, hv1, hnT, hTe, hT, hdT, ht3⟩ := id fl3
  have nT : H' T = none := (J.inGround nb).gone hnT
  have notFr : ∀ (b : Addr) (o : Obj) (fv : Array Value), h3.get? b = some o → o.data = .fields fv → b ∉ frs (X.env :: X.outer) := fun b o fv e dd hm => by
    obtain ⟨_, o', e', hnf⟩ := k3.mem hm
    have eo : o = o' := Option.some.inj (e.symm.trans e')
    rw [← eo] at hnf
    exact hnf _ dd
  have locF : X.env.locals ∈ frs (X.env :: X.outer) := List.mem_filterMap.mpr ⟨X.env, List.mem_cons_self, hf⟩
  have fsF : ∀ b, b ∈ X.fs → b ∈ frs (X.env :: X.outer) := fun b hm => by
    obtain ⟨e, he, q⟩ := List.mem_filterMap.mp hm
    exact List.mem_filterMap.mpr ⟨e, List.mem_cons_of_mem _ he, q⟩
  have fa := notFr a oe vs he3 hd
  have fT := notFr T oT ts hT hdT
  have S3 : Inv (X.suite a ((a, oe) :: (T, oT) :: (X.pn ++ pins))) [] σ' H' { s' with heap := h3 } :=
    ⟨J3.ok.suite _ _, J3.os, J3.bare, J3.base, J3.loc, J3.cell, J3.free, J3.freeC, fun p hp => by
      rw [List.append_nil] at hp
      rcases List.mem_cons.mp hp with z | hp
      · rw [z]
        exact ⟨he3, na, fun z2 => fa (by rw [show a = X.env.locals from z2]; exact locF), fun z2 => fa (fsF _ z2), fun v z2 => by
          have z3 : oe.data = .cell v := z2
          rw [hd] at z3
          cases z3⟩
      · rcases List.mem_cons.mp hp with z | hp
        · rw [z]
          exact ⟨hT, nT, fun z2 => fT (by rw [show T = X.env.locals from z2]; exact locF), fun z2 => fT (fsF _ z2), fun v z2 => by
            have z3 : oT.data = .cell v := z2
            rw [hdT] at z3
            cases z3⟩
        · exact J3.pin p hp, J3.hok, J3.len⟩
  obtain ⟨tbv, htv, htb⟩ : ∃ tbv : Value, (tbv = .none ∨ tbv = .ref T) ∧ ∀ (Q : Value → Shared → Prop), Q tbv { s' with heap := h3 } → wpAny (model X.prog X.w) X.A (tracebackOf (.ref a)) Q X.xe { s' with heap := h3 } := by
    have h3s := (Array.getElem?_eq_some_iff.mp ht3).1
    have e1 : ts[1]? = some ts[1] := Array.getElem?_eq_getElem (by omega)
    by_cases c : (ts[1] == Value.none) = true
    · refine ⟨.none, .inl rfl, fun Q q => ?_⟩
      unfold tracebackOf
      refine wpAny_bind (wpAny_field he3 hd hv1 ?_)
      refine wpAny_bind (wpAny_field hT hdT e1 ?_)
      rw [if_pos c]
      exact wpAny_pure q
    · refine ⟨.ref T, .inr rfl, fun Q q => ?_⟩
      unfold tracebackOf
      refine wpAny_bind (wpAny_field he3 hd hv1 ?_)
      refine wpAny_bind (wpAny_field hT hdT e1 ?_)
      rw [if_neg c]
      exact wpAny_bind (wpAny_pure (wpAny_pure q))
  unfold exitTail
  refine wpAny_bind (wpAny_standAt ?_)
  refine wpAny_holding ?_
  refine wpAny_bind (wpAny_typeOf_ref he3 ?_)
  rw [hz.1]
  refine wpAny_bind (htb _ ?_)
  unfold exitCall
  obtain ⟨vt, rvt, hvt⟩ : ∃ vt : V, L2.RelV vt tbv ∧ (vt = .non ∨ ∃ T, vt = .ref T) := by
    rcases htv with e | e
    · exact ⟨.non, by rw [e]; rfl, .inl rfl⟩
    · exact ⟨.ref T, by rw [e]; rfl, .inr ⟨T, rfl⟩⟩
  have hsp := hw a vt na hvt
  have rV : Vals [V.ref am, vc, V.ref a, vt] [Value.ref am, cls, Value.ref a, tbv] := .cons rfl (.cons rvc (.cons rfl (.cons rvt .nil)))
  have hl : ([Value.ref am, cls, Value.ref a, tbv] : List Value).length = psx.length := by
    rw [← rV.length]
    exact FQ.len _ _ _ _ _ _ _ hsp
  have bnd := BX { s' with heap := h3 } [Value.ref am, cls, Value.ref a, tbv] S3.kIn (by rw [List.append_nil]; exact hl)
  rw [List.append_nil] at bnd
  have P1 := S3.pin (a, oe) (List.mem_append_left _ List.mem_cons_self)
  have hpin : L2H.PinOk X.stack H' { s' with heap := h3 } (a, oe) := ⟨he3, na, by rw [hs]; exact fa, fun v z => by
    have z3 : oe.data = .cell v := z
    rw [hd] at z3
    cases z3⟩
  have rc := FQ.run (X.A.mark (some (.ref a))) X.stack { s' with heap := h3 } H' ⟨[Value.ref am, cls, Value.ref a, tbv], []⟩ [Value.ref am, cls, Value.ref a, tbv] [V.ref am, vc, V.ref a, vt] (fun v H2 => v = .non ∧ Wout cls d σ' H2) E0 (a, oe) cls d hz ⟨_, hd⟩ (hr a) hpin S3.env0 bnd rV hsp
  refine wpAny_bind ?_
  unfold withItem.marked
  refine wpAny_bind (wpAny_run (codeAny_mono rc fun r s6 hq => ?_) (fun z => by cases z))
  cases r with
  | error e => exact (show False from hq).elim
  | ok fl =>
    cases fl with
    | next => exact False.elim hq
    | brk => exact False.elim hq
    | cont => exact False.elim hq
    | ret z =>
      have hq : CE X.stack X.prog X.w H' { s' with heap := h3 } (fun v H2 => v = .non ∧ Wout cls d σ' H2) z s6 := hq
      obtain ⟨v, H6, S6, rz, ev, q6⟩ := S3.after hq
      subst ev
      obtain rfl : z = Value.none := rz
      refine wpAny_pure ?_
      have J6 : Inv X pins σ' H6 s6 := ⟨ok, S6.os, S6.bare, S6.base, S6.loc, S6.cell, S6.free, S6.freeC, fun p hp => S6.pin p (List.mem_append_left _ (List.mem_cons_of_mem _ (List.mem_cons_of_mem _ hp))), S6.hok, S6.len⟩
      have pa := S6.pin (a, oe) (List.mem_append_left _ List.mem_cons_self)
      have pT := S6.pin (T, oT) (List.mem_append_left _ (List.mem_cons_of_mem _ List.mem_cons_self))
      have ga : s6.heap.get? a = some oe := pa.1
      have gT : s6.heap.get? T = some oT := pT.1
      have na6 : H6 a = none := pa.2.1
      have nT6 : H6 T = none := pT.2.1
      have far : ∀ b o, sI.heap.get? b = some o → b ≠ a ∧ b ≠ T := fun b o e => by
        by_cases hb : b ∈ frs X.stack
        · rw [hs] at hb
          exact ⟨fun z => fa (by rw [← z]; exact hb), fun z => fT (by rw [← z]; exact hb)⟩
        · have q := nb b o e hb
          exact ⟨fun z => by
            rw [z, k2] at q
            exact (nomatch q), fun z => by
            rw [z, hnT] at q
            cases q⟩
      have far0 : ∀ b o, X.s_0.heap.get? b = some o → b ≠ a ∧ b ≠ T := fun b o e => by
        obtain ⟨o', q⟩ := J.base.there b o e (by rw [hex]; simp)
        exact far b o' q
      have farP : ∀ p ∈ X.pn ++ pins, p.1 ≠ a ∧ p.1 ≠ T := fun p hp => far p.1 p.2 (J.pin p hp).1
      obtain ⟨G, g1, g2⟩ := restrict s6.heap fun b => !(decide (b = a) || decide (b = T))
      have gIn : ∀ b o, G.get? b = some o → s6.heap.get? b = some o ∧ b ≠ a ∧ b ≠ T := fun b o e => by
        cases q : (!(decide (b = a) || decide (b = T))) with
        | false =>
          rw [g2 b q] at e
          cases e
        | true =>
          rw [g1 b q] at e
          simp only [Bool.not_eq_true', Bool.or_eq_false_iff, decide_eq_false_iff_not] at q
          exact ⟨e, q.1, q.2⟩
      have gOf : ∀ b o, b ≠ a → b ≠ T → s6.heap.get? b = some o → G.get? b = some o := fun b o h1 h2 e => by
        rw [g1 b (by simp [h1, h2])]
        exact e
      have I6 : Inv X pins σ' H6 { s6 with heap := G } := J6.less (fun b o e => (gIn b o e).1) gOf ⟨oe, vs, ga, hd⟩ ⟨oT, ts, gT, hdT⟩ na6 nT6 far0 farP
      have B6in : ∀ b o, (PySem.W.hideAll G (frs X.stack)).get? b = some o → s6.heap.get? b = some o := fun b o e => (gIn b o (PySem.W.of_hideAll _ e)).1
      have Bno : ∀ b, (b = a ∨ b = T) → (PySem.W.hideAll G (frs X.stack)).get? b = none := fun b hb => by
        cases q : (PySem.W.hideAll G (frs X.stack)).get? b with
        | none => rfl
        | some o =>
          obtain ⟨_, n1, n2⟩ := gIn b o (PySem.W.of_hideAll _ q)
          rcases hb with z | z
          · exact absurd z n1
          · exact absurd z n2
      have fl6 : HandSPX.FlyingZ (PySem.W.hideAll G (frs X.stack)) (X.env :: X.outer) a (Zc cls d) s6.heap := by
        refine ⟨B6in, Bno a (.inl rfl), ?_, oe, vs, T, oT, ts, ga, hz, hd, hv1, Bno T (.inr rfl), hTe, gT, hdT, ht3⟩
        have ff := funFrames_none (B := PySem.W.hideAll G (frs X.stack)) J6.stack fun b hb => PySem.W.hideAll_none _ hb
        rw [← hs]
        exact ff
      show wpAny (model X.prog X.w) X.A (PySem.passOn "with" (.ref a) X.env) (SP X pins D) X.xe s6
      unfold PySem.passOn
      refine wpAny_bind (wpAny_field ga hd hv1 ?_)
      rw [if_neg (show ¬ ((Value.ref T == Value.none) = true) from by simp)]
      have goOn : wpAny (model X.prog X.w) X.A (setFlight (.ref a) X.env.frame) (fun _ s7 => wpAny (model X.prog X.w) X.A (throw (.ref a) : Sem Flow) (SP X pins D) X.xe s7) X.xe s6 := by
        rw [hf]
        refine HandSPX.setFlight_upZ fl6 fun h7 hh7 up7 => wpAny_throw (tk _ _ ?_)
        refine ⟨a, PySem.W.hideAll G (frs X.stack), { s6 with heap := G }, pins, σ', H6, cls, d, rfl, I6, fun b o e hb => PySem.W.hideAll_get _ e hb, ?_, .inr (.inr (by rw [← hs] at hh7; exact hh7)), na6, rfl, J6.bare, q6⟩
        exact Heap.UpToSlots.trans (Heap.UpToSlots.of_keeps fun b o e => (gIn b o e).1) up7
      first
        | exact wpAny_bind (wpAny_pure (wpAny_bind goOn))
        | exact wpAny_bind goOn
def Mgr (P : Program) (w : World) (K : PySem.W.Frag) (mg : Str → Option Value) (base : Heap) (C : Addr) (k : Nat) (spN spX : Sp) (spE : WkW.SpP) : Prop :=
  ∃ fe fde pse fx fdx psx, PySem.W.findIn K (.ref C) "__enter__" = some (some (.ref fe)) ∧ PySem.W.isFn K (.ref fe) = true ∧ PySem.W.findIn K (.ref C) "__exit__" = some (some (.ref fx)) ∧ PySem.W.isFn K (.ref fx) = true ∧
    FnOk P w K mg base CX0 k fe fde pse spN ∧ Binds K fde pse [] ∧ FnOk P w K mg base CX0 k fx fdx psx spX ∧ WkW.FnQ P w K mg base k fx fdx psx spE ∧ Binds K fdx psx []
def tWithRet (C : Addr) (tc : TE) (te : WX → TE) (spN spX : Sp) (spE : WkW.SpP) (Wout : WX) : TS := fun D σ H =>
  tc σ H fun x H1 => ∃ am dx fs, x = .ref am ∧ H1 am = some (.ins C dx fs) ∧ spN [.ref am] H1 (fun _ H2 => te (wWith spE am Wout) σ H2 fun v H3 => spX [.ref am, .non, .non, .non] H3 (fun _ H4 => D.rt v H4) E0) E0
theorem pass00 {X : Cx} : Passes CX0 X E0 := fun _ _ _ _ _ _ _ z => False.elim z
theorem ps_withRet {C : Addr} {ctx e : Expr} {rp : Pos} {tc : TE} {te : WX → TE} {spN spX : Sp} (hs : X.stack = X.env :: X.outer) (hf : X.env.frame = some X.env.locals) (hex : X.ex = []) (tk : Takes X Wout) (M : Mgr X.prog X.w X.K X.mg X.base C k spN spX spE) (hr : Room k X.A) (hrm : ∀ a, L2H.RoomH k (X.A.mark (some (.ref a))))
    (hc : PE X.nox ctx tc) (he : ∀ (W : WX) (pn : List (Addr × Obj)) (xe : Value → Shared → Prop), Takes (X.tr pn xe) W → PassesOwn (model X.prog X.w) X.A X.env xe → PE (X.tr pn xe) e (te W)) :
    PS X (.With [⟨ctx, none⟩] [.Return (some e) rp] pos) (tWithRet C tc te spN spX spE Wout) := by
  obtain ⟨fe, fde, pse, fx, fdx, psx, m1, m2, m3, m4, FE, BE, FX, FQ, BX⟩ := M
  refine ⟨fun pins s σ H D I h => ?_⟩
  have ok := I.ok
  refine PySem.W.kw_exec0 (wpAny_mono (hc.run pins s σ H _ (I.wish _) h) (fun u s1 hz => ?_) fun _ _ z => False.elim z)
  obtain ⟨x, H1, I1, rx, am, dx, fs, ex, ha, q⟩ := hz
  have I1 := I1.unwish
  subst ex
  obtain rfl : u = Value.ref am := rx
  obtain ⟨mA, O, _⟩ := ins_get I1.hok ha
  obtain ⟨od, IA, _⟩ := O.look
  unfold PySem.W.KwIn
  refine kw_coreR I1.kIn IA m1 m2 m3 m4 ?_
  refine wpAny_mono (run_fn (us := [.ref am]) (vs := [.ref am]) FE hr BE .nil pass00 I1 (.cons rfl .nil) q) (fun _ s2 hz => ?_) fun _ _ z => z
  obtain ⟨v2, H2, I2, _, q2⟩ := hz
  refine wpAny_execs_cons (wpAny_Return_some ?_)
  refine wpAny_mono ((he (wWith spE am Wout) (X.pn ++ pins) (fun x s₁ => wpAny (model X.prog X.w) X.A (noteFrame x X.env) (fun _ s₂ => wpAny (model X.prog X.w) X.A (setFlight x none) (fun _ s₃ => wpAny (model X.prog X.w) X.A (exitTail am fx ctx.pos X.env x) (SP X pins D) X.xe s₃) X.xe s₂) X.xe s₁)
    (fun u s' xx => ?_) PassesOwn.looking).run [] s2 σ H2 (fun v H3 => spX [.ref am, .non, .non, .non] H3 (fun _ H4 => D.rt v H4) E0) (I2.toTry _) q2) (fun u s3 z => ?_) (fun x s3 hx => ?_)
  · exact with_exc hs hf hex ok tk FQ BX hrm xx
  · obtain ⟨v, H3, I3, r3, q3⟩ := z
    have I3 := I3.ofTry ok
    refine wpAny_mono (run_fn (us := [.ref am, .none, .none, .none]) (vs := [.ref am, .non, .non, .non]) FX hr BX .nil pass00 I3 (.cons rfl (.cons rfl (.cons rfl (.cons rfl .nil)))) q3) (fun _ s4 hz => ?_) fun _ _ z => z
    obtain ⟨v4, H4, I4, _, q4⟩ := hz
    exact ⟨v, σ, H4, I4, r3, q4⟩
  · unfold exitRaised
    exact wpAny_bind (wpAny_mono hx (fun _ s₂ h => wpAny_bind h) fun _ _ z => z)
end
end WkI
namespace WkI
open PySem PySem.Spec PyProof.Rows L2 LamX WkL
section
variable {X : Cx} {pins : List (Addr × Obj)} {σ : L2.St} {H HZ : Hp} {s s1 : Shared}
theorem lam1_start2 {A : Around} {outer : List Env} {E : XK} {scope : Scope} {f c' : Addr} {h₁ : Heap} {tk i : Nat} {u : Str} {v : V} {uv : Value} (I : Inv X pins σ H s) (L : Lam1 X.env.scope scope u) (hi : X.N[i]? = some u) (hN : X.N.Nodup) (rv : L2.RelV v uv)
    (e0 : Env0 X.prog X.w X.K X.mg X.base A outer s1 HZ) (hd : A.handled = none) (un : Un (frs X.stack) [] H HZ s.heap s1.heap) (hns : h₁.Ns s1.heap.objs.size fun y => ([(u, uv)] : List (Str × Value)).reverse.lookup y) (kp : ∀ b o, s1.heap.get? b = some o → h₁.get? b = some o) :
    Inv (lamCx X A outer s1 HZ E scope f c') [] (σ.set i (some v)) HZ { s1 with heap := h₁, toks := tk } := by
  have back : ∀ {y c}, (cloFrom X.env.cells scope.names []).lookup y = some c → X.env.cells.lookup y = some c := by
    intro y c e
    rcases cloFrom_mem (PySem.mem_of_lookup e) with z | ⟨h1, h2⟩
    · cases z
    · obtain ⟨c1, hc⟩ := L.has I.ok _ h1 rfl
      have hc : X.env.cells.lookup y = some c1 := hc
      have e2 : c = c1 := by rw [h2, hc] <;> rfl
      exact e2 ▸ hc
  have forth : ∀ {y}, scope.names.lookup y = some .free → ∃ c, (cloFrom X.env.cells scope.names []).lookup y = some c := by
    intro y hl
    exact mem_lookup (cloFrom_has (cells := X.env.cells) (acc := []) (PySem.mem_of_lookup hl))
  have cellK : ∀ {c : Addr} {w' : Option Value}, H c = none → s.heap.IsCell c w' → h₁.IsCell c w' := fun {c w'} n ⟨o, ho, q⟩ => by
    obtain ⟨sl, q2⟩ := un.any ho n (by simp)
    exact ⟨_, kp _ _ q2, q⟩
  have noE : ∀ b : Addr, b ∉ (lamCx X A outer s1 HZ E scope f c').ex := fun b z => absurd (show b ∈ ([] : List Addr) from z) (by simp)
  refine ⟨⟨e0.mod, L.kind, rfl, rfl, Nat.le_refl _, fun y z c a b => I.ok.inj y z c (back a) (back b), fun y hy => ?_, fun y c z _ => ?_, fun _ => hd, Around.frames_deeper e0.frames, .inr ⟨rfl, rfl⟩, fun b z => absurd z (noE b), e0.bs, e0.bsz, fun b _ _ => noE b,
      fun b z => absurd z (noE b), e0.funs, e0.frf⟩,
    rfl, e0.bare, Un.kept kp, ⟨_, hns, fun j y x e1 e2 e3 => ?_⟩, fun y c e => ?_, e0.hok.fresh (Nat.le_refl _), fun y c e => ?_, fun q hq => absurd (show q ∈ ([] : List (Addr × Obj)) ++ [] from hq) (by simp), e0.hok.kept kp, ?_⟩
  · have hy : scope.names.lookup y = some .cell ∨ scope.names.lookup y = some .free := hy
    rcases hy with hy | hy
    · exact absurd rfl (L.nocell _ (PySem.mem_of_lookup hy))
    · exact forth hy
  · have z : false = true := z
    cases z
  · have e1 : X.N[j]? = some y := e1
    have e3 : Vis scope y := e3
    rcases e3 with k | k | k
    · have ey : y = u := L.one _ (PySem.mem_of_lookup k) rfl
      subst ey
      have ej : j = i := nodup_ix hN e1 hi
      subst ej
      have hlt : j < σ.length := by
        rw [I.len]
        exact (List.getElem?_eq_some_iff.mp hi).1
      rw [List.getElem?_set_self hlt] at e2
      cases e2
      refine ⟨uv, rv, .inl ⟨k, ?_⟩⟩
      show ([(y, uv)] : List (Str × Value)).reverse.lookup y = some uv
      simp [List.lookup]
    · exact absurd rfl (L.nocell _ (PySem.mem_of_lookup k))
    · have hne : i ≠ j := fun z => by
        subst z
        rw [hi] at e1
        cases e1
        rw [L.par] at k
        cases k
      rw [List.getElem?_set_ne hne] at e2
      obtain ⟨m, hn, hl⟩ := I.loc
      have hvis : Vis X.env.scope y := (L.free _ (PySem.mem_of_lookup k) rfl).elim (fun k => .inr (.inl k)) (fun k => .inr (.inr k))
      obtain ⟨w', r, q⟩ := hl j y x e1 e2 hvis
      obtain ⟨c2, h2⟩ := forth k
      refine ⟨w', r, .inr ⟨.inr k, c2, h2, ?_⟩⟩
      have c1 := back h2
      rcases q with ⟨k', _⟩ | ⟨_, c3, e', z⟩
      · have k' : X.env.scope.names.lookup y = some .local := k'
        rcases L.free _ (PySem.mem_of_lookup k) rfl with k2 | k2 <;> rw [show X.env.scope.names.lookup y = _ from k2] at k' <;> cases k'
      · rw [c1] at e'
        cases e'
        exact cellK (I.freeC y _ c1) z
  · obtain ⟨w', z⟩ := I.cell y c (back e)
    exact ⟨w', cellK (I.freeC y c (back e)) z⟩
  · obtain ⟨w', o, ho, hd⟩ := I.cell y c (back e)
    exact un.free c o ho (I.freeC y c (back e)) (by simp)
  · show (σ.set i (some v)).length = X.N.length
    rw [List.length_set]
    exact I.len
theorem pe_act1 {CXg : CXT} {Eg : XK} {Ng : List Str} {qg : Str} {sg : Scope} {g f c' : Addr} {cdg pm ctv : Value} {params : Arguments} {body : Expr} {scope : Scope} {k i j iu : Nat} {a b u : Str} {pn : List (Addr × Obj)} {xe : Value → Shared → Prop} {W : WX} {E : XK} {tb : TE} {p1 p2 p3 : Pos}
    (I : Inv X pins σ H s) (L : Lam1 X.env.scope scope u) (hiu : X.N[iu]? = some u) (hNd : X.N.Nodup) (hf : s.heap.get? f = some (PySem.W.kla_obj "<lambda>" (X.env.qual ++ "<lambda>") params body scope (cloFrom X.env.cells scope.names []) pm c' ctv)) (hfn : H f = none) (hfr : f ∉ frs X.stack)
    (hbind : ∀ uv : Value, bindArgs (PySem.W.kla_fn "<lambda>" (X.env.qual ++ "<lambda>") params body scope (cloFrom X.env.cells scope.names []) pm (.ref c') ctv) ⟨[uv], []⟩ = pure [(u, uv)])
    (tk : Takes ((cxOf CXg X.prog X.w X.K X.mg X.base Ng qg sg g cdg X.A X.stack s H Eg).tr pn xe) W) (hW : ∀ cls d σ' H', E cls d H' → W cls d σ' H') (hr : Room (k + 1) (X.A.deeper (envOfC qg sg s.heap.objs.size g cdg)))
    (hbody : ∀ (A : Around) (outer : List Env) (s : Shared) (H : Hp), Room k (A.deeper (lamEnv X scope s.heap.objs.size f c')) → PE (lamCx X A outer s H E scope f c') body tb)
    (hN : Ng[i]? = some a) (hv : Vis sg a) (hNb : Ng[j]? = some b) (hvb : Vis sg b) (hd : (a == ("__debug__" : Str)) = false := by decide) (hcd : (a == ("__classdict__" : Str)) = false := by decide) (hd2 : (b == ("__debug__" : Str)) = false := by decide) (hcd2 : (b == ("__classdict__" : Str)) = false := by decide) :
    PE ((cxOf CXg X.prog X.w X.K X.mg X.base Ng qg sg g cdg X.A X.stack s H Eg).tr pn xe) (.Call (.Name a p1) [.Name b p3] [] p2)
      (fun σZ HZ Q => ∃ v, σZ[i]? = some (some (.ref f)) ∧ σZ[j]? = some (some v) ∧ HZ c' = some (CodeO c' (X.env.qual ++ "<lambda>")) ∧ tb (σ.set iu (some v)) HZ Q) := by
  refine ⟨fun pinsZ sZ σZ HZ Q IZ h => ?_⟩
  obtain ⟨v, hs, hsv, hc, ht⟩ := h
  refine wpAny_Call_Name_kw (thn ((pe_var (pos := p1) (i := i) hN hv hd hcd).run pinsZ sZ σZ HZ (fun v H1 => v = .ref f ∧ H1 = HZ) IZ ⟨.ref f, hs, rfl, rfl⟩) fun z s1 ⟨v1, H1, I1, r1, q1⟩ => ?_)
  obtain ⟨ev, eH⟩ := q1
  subst ev
  rw [eH] at I1
  obtain rfl : z = Value.ref f := r1
  have of1 : s1.heap.get? f = some (PySem.W.kla_obj "<lambda>" (X.env.qual ++ "<lambda>") params body scope (cloFrom X.env.cells scope.names []) pm c' ctv) := I1.base.keep f _ hf hfn hfr (fun z => nomatch (show f ∈ ([] : List Addr) from z))
  refine PySem.W.callWith_F ⟨_, _, _, _, of1⟩ ?_ (by rfl) (by rfl)
  show wpAny _ _ (spliced ((false, eval (.Name b p3) _) :: backTo p2 (starEach [] _))) _ _ s1
  refine Calls.spliced_cons (thn ((pe_var (pos := p3) (i := j) hNb hvb hd2 hcd2).run pinsZ s1 σZ HZ (fun v1 H1 => v1 = v ∧ H1 = HZ) I1 ⟨v, hsv, rfl, rfl⟩) fun uv s2 ⟨v2, H2, I2, r2, q2⟩ => ?_)
  obtain ⟨ev2, eH2⟩ := q2
  subst ev2
  rw [eH2] at I2
  have of2 : s2.heap.get? f = some (PySem.W.kla_obj "<lambda>" (X.env.qual ++ "<lambda>") params body scope (cloFrom X.env.cells scope.names []) pm c' ctv) := I2.base.keep f _ hf hfn hfr (fun z => nomatch (show f ∈ ([] : List Addr) from z))
  refine Calls.spliced_nil ⟨⟨_, _, _, _, of2⟩, ?_⟩
  have un : Un (frs X.stack) [] H HZ s.heap s2.heap := I2.base
  obtain ⟨⟨oc, vs, t, hoc, hdc, hvc⟩, _, _⟩ := I2.hok c' _ hc
  have rc : codeAny (model X.prog X.w) (X.A.deeper (envOfC qg sg s.heap.objs.size g cdg)) (.call (.ref f) ⟨[uv], []⟩) (CR (L2.CX X.prog X.w) (envOfC qg sg s.heap.objs.size g cdg :: X.stack) X.prog X.w HZ s2 Q E) s2 := by
    refine PySem.W.kla_callFunE hr.depth of2 rfl L.co L.gen rfl ⟨c', oc, vs, t, rfl, hoc, hdc, hvc⟩ ?_
    rw [hbind]
    refine wpAny_pure (wpAny_newFunctionEnv L.nocell (fun y hy => ?_) (fun h₁ hns hsb => ⟨I2.nolimit.fresh _ hsb, ?_⟩) L.kind)
    · have e : y = (u, uv) := by simpa using hy
      rw [e]
      exact L.par
    · show codeAny _ _ (.expr body (lamEnv X scope s2.heap.objs.size f c')) _ _
      have kp : ∀ b o, s2.heap.get? b = some o → h₁.get? b = some o := fun b o e => hsb.extBut b o (Nat.ne_of_lt (Heap.lt_size e)) (Heap.get?_push_of_some _ e)
      have J := lam1_start2 (E := E) (f := f) (c' := c') (tk := s2.toks + ([(u, uv)] : List (Str × Value)).length) I L hiu hNd r2 I2.env0 hr.hd un hns kp
      refine PySem.W.kla_codeExpr (wpAny_mono ((hbody _ _ s2 HZ (hr.deeper _)).run [] _ _ HZ Q J ht) (fun v s' hq => ?_) fun e s' hq => hq)
      obtain ⟨w', H', J', rv, q⟩ := hq
      exact ⟨w', H', J'.os, J'.bare, J'.base, J'.hok, rv, q⟩
  have hx : Passes (L2.CX X.prog X.w) ((cxOf CXg X.prog X.w X.K X.mg X.base Ng qg sg g cdg X.A X.stack s H Eg).tr pn xe) E := passes_call tk hW
  refine wpAny_call (codeAny_mono rc fun r s' hq => ?_)
  cases r with
  | error e => exact hx pinsZ σZ HZ s2 e s' I2 hq
  | ok fl =>
    cases fl with
    | ret u => exact I2.after hq
    | next => exact False.elim hq
    | brk => exact False.elim hq
    | cont => exact False.elim hq
end
end WkI
namespace WkI
open PySem PySem.Spec PyProof.Rows L2 LamX WkL
def GivesM (X : Cx) (Ng : List Str) (x : Str) (sg : Scope) (g : Addr) (cdg : Value) (bg : List Stmt) (a b : Str) (q : Str) (TT : (XK → V → Hp → VK → Prop) → V → XK → Hp → VK → Prop) : Prop :=
  ∀ (f c' : Addr) (s : Shared) (H : Hp) (Q : VK) (Eo : XK) (me : V) (tl : XK → V → Hp → VK → Prop),
    (∀ (W : WX) (pn : List (Addr × Obj)) (xe : Value → Shared → Prop) (E : XK) (p1 p2 p3 : Pos), Takes ((cxOf (L2.CX X.prog X.w) X.prog X.w X.K X.mg X.base Ng x sg g cdg X.A X.stack s H Eo).tr pn xe) W → (∀ cls d σ' H', E cls d H' → W cls d σ' H') →
      PE ((cxOf (L2.CX X.prog X.w) X.prog X.w X.K X.mg X.base Ng x sg g cdg X.A X.stack s H Eo).tr pn xe) (.Call (.Name a p1) [.Name b p3] [] p2) (fun σZ HZ Q => ∃ v, σZ[1]? = some (some (.ref f)) ∧ σZ[0]? = some (some v) ∧ HZ c' = some (CodeO c' q) ∧ tl E v HZ Q)) →
    H c' = some (CodeO c' q) → TT tl me Eo H Q →
    ∃ t, PSs (cxOf (L2.CX X.prog X.w) X.prog X.w X.K X.mg X.base Ng x sg g cdg X.A X.stack s H Eo) bg t ∧ t { nx := fun _ H' => Q .non H', rt := Q } (L2.start Ng [me, .ref f]) H
section
variable {X : Cx}
end
end WkI
namespace Wk
open PySem PySem.Spec PyProof.Rows L2 WkD WkN LamX WkP WkE WkC
section
variable {P : Program} {w : World} {K : PySem.W.Frag} {mg : Str → Option Value} {base : Heap}
structure TrCls (K : PySem.W.Frag) (CT : Addr) : Prop where
  cls : Cls K CT
  nn : NoAttr K CT "network"
  nw : NoAttr K CT "word"
  na : NoAttr K CT "around"
  nt : NoAttr K CT "top"
  nm : NoAttr K CT "made"
  nf : NoAttr K CT "found"
  ns : NoAttr K CT "since"
def trF (x : Addr) (wd : V) (p : Addr) (t : Str) (m : Addr) (n s : Int) : List (Str × V) := [("network", .ref x), ("word", wd), ("around", .ref p), ("top", .str t), ("made", .ref m), ("found", .int n), ("since", .int s)]
def spTrInit (C CT : Addr) : Sp := fun vs H Q _ => ∃ (tr dt x dx p m e : Addr) (t : Str) (n r s : Int) (wd : V) (rest : List (Str × V)), vs = [.ref tr, .ref x, wd] ∧ H tr = some (.ins CT dt []) ∧ H x = some (.ins C dx (netF p t n m e r s ++ rest)) ∧ tr ≠ x ∧ Q .non (upd H tr (.ins CT dt (trF x wd p t m n s)))
theorem sc_tr_init : FnScope ["self", "network", "word"] ["self", "network", "word"] (defScope s_Trial_init) := ⟨rfl, rfl, rfl, by decide +kernel, rfl, by decide +kernel, by decide +kernel⟩
theorem ok_tr_init {f C CT : Addr} {fd : FuncData} (F : FnP K "__init__" "Trial.__init__" s_Trial_init f fd) (NK : FCls K C) (TC : TrCls K CT) : FnOk P w K mg base CX0 1 f fd ["self", "network", "word"] (spTrInit C CT) := by
  refine F.ok sc_tr_init (fun vs H Q E h => ?_) (fun cdv A outer s H vs Q E hr h => ?_)
  · obtain ⟨tr, dt, x, dx, p, m, e, t, n, r, s, wd, rest, rfl, _⟩ := h
    rfl
  have hu := hu_of hr
  have nd := sc_tr_init.nd
  refine ⟨_, PSs.nox (pss_cons (ps_fld (pv 0) (pv 1) rfl)
      (pss_cons (ps_fld (pv 0) (pv 2) rfl)
      (pss_cons (ps_fld (pv 0) (pe_fld (pv 1) rfl) rfl)
      (pss_cons (ps_fld (pv 0) (pe_fld (pv 1) rfl) rfl)
      (pss_cons (ps_fld (pv 0) (pe_fld (pv 1) rfl) rfl)
      (pss_cons (ps_fld (pv 0) (pe_fld (pv 1) rfl) rfl)
      (pss_one (ps_fld (pv 0) (pe_fld (pv 1) rfl) rfl)))))))), ?_⟩
  obtain ⟨tr, dt, x, dx, p, m, e, t, n, r, s, wd, rest, rfl, htr, hx, ne, k⟩ := h
  have hx1 : ∀ o, upd H tr o x = some (.ins C dx (netF p t n m e r s ++ rest)) := fun o => by rw [upd_ne (Ne.symm ne)]; exact hx
  refine ⟨_, rfl, _, rfl, tr, CT, dt, _, rfl, htr, TC.cls, TC.nn, by show 0 < 1000; decide, ?_⟩
  refine ⟨_, rfl, _, rfl, tr, CT, dt, _, rfl, upd_same, TC.cls, TC.nw, by show 1 < 1000; decide, ?_⟩
  rw [upd_upd]
  refine ⟨_, rfl, x, C, dx, _, _, rfl, hx1 _, NK.cls, NK.na, rfl, _, rfl, tr, CT, dt, _, rfl, upd_same, TC.cls, TC.na, by show 2 < 1000; decide, ?_⟩
  rw [upd_upd]
  refine ⟨_, rfl, x, C, dx, _, _, rfl, hx1 _, NK.cls, NK.nt, rfl, _, rfl, tr, CT, dt, _, rfl, upd_same, TC.cls, TC.nt, by show 3 < 1000; decide, ?_⟩
  rw [upd_upd]
  refine ⟨_, rfl, x, C, dx, _, _, rfl, hx1 _, NK.cls, NK.nm, rfl, _, rfl, tr, CT, dt, _, rfl, upd_same, TC.cls, TC.nm, by show 4 < 1000; decide, ?_⟩
  rw [upd_upd]
  refine ⟨_, rfl, x, C, dx, _, _, rfl, hx1 _, NK.cls, NK.nf, rfl, _, rfl, tr, CT, dt, _, rfl, upd_same, TC.cls, TC.nf, by show 5 < 1000; decide, ?_⟩
  rw [upd_upd]
  refine ⟨_, rfl, x, C, dx, _, _, rfl, hx1 _, NK.cls, NK.ns, rfl, _, rfl, tr, CT, dt, _, rfl, upd_same, TC.cls, TC.ns, by show 6 < 1000; decide, ?_⟩
  rw [upd_upd]
  exact k
def spTrEnter (C CT : Addr) : Sp := fun vs H Q _ => ∃ (tr dt x dx p0 m0 p m e : Addr) (t0 t : Str) (n0 s0 n r s : Int) (wd : V) (rest : List (Str × V)), vs = [.ref tr] ∧ H tr = some (.ins CT dt (trF x wd p0 t0 m0 n0 s0)) ∧ H x = some (.ins C dx (netF p t n m e r s ++ rest)) ∧ tr ≠ x ∧ rest.length < 100 ∧ Q (.ref tr) (upd H x (.ins C dx (netF p t n m e (r + 1) 0 ++ rest)))
theorem sc_tr_enter : FnScope ["self"] ["self"] (defScope s_Trial_enter) := ⟨rfl, rfl, rfl, by decide +kernel, rfl, by decide +kernel, by decide +kernel⟩
theorem ok_tr_enter {f C CT : Addr} {fd : FuncData} (F : FnP K "__enter__" "Trial.__enter__" s_Trial_enter f fd) (NK : FCls K C) (TC : TrCls K CT) : FnOk P w K mg base CX0 1 f fd ["self"] (spTrEnter C CT) := by
  refine F.ok sc_tr_enter (fun vs H Q E h => ?_) (fun cdv A outer s H vs Q E hr h => ?_)
  · obtain ⟨tr, dt, x, dx, p0, m0, p, m, e, t0, t, n0, s0, n, r, s, wd, rest, rfl, _⟩ := h
    rfl
  have hu := hu_of hr
  have nd := sc_tr_enter.nd
  refine ⟨_, PSs.nox (pss_cons (ps_fldaug (pe_fld (pv 0) rfl) pe_int in_add)
      (pss_cons (ps_fld (pe_fld (pv 0) rfl) pe_int rfl)
      (pss_one (ps_ret (pv 0))))), ?_⟩
  obtain ⟨tr, dt, x, dx, p0, m0, p, m, e, t0, t, n0, s0, n, r, s, wd, rest, rfl, htr, hx, ne, lr, k⟩ := h
  refine ⟨_, rfl, tr, CT, dt, _, _, rfl, htr, TC.cls, TC.nn, rfl, ?_⟩
  have l7 : ∀ a b c d e2 f g, (netF a b c d e2 f g ++ rest).length < 1000 := fun a b c d e2 f g => by
    rw [List.length_append]
    show 7 + rest.length < 1000
    omega
  refine ⟨x, C, dx, _, _, rfl, hx, NK.cls, NK.nr, rfl, _, _, rfl, rfl, dx, _, hx, l7 _ _ _ _ _ _ _, ?_⟩
  have e1 : putF "running" (V.int (r + 1)) (netF p t n m e r s ++ rest) = netF p t n m e (r + 1) s ++ rest := rfl
  rw [e1]
  refine ⟨_, rfl, tr, CT, dt, _, _, rfl, by rw [upd_ne ne]; exact htr, TC.cls, TC.nn, rfl, x, C, dx, _, rfl, upd_same, NK.cls, NK.ns, l7 _ _ _ _ _ _ _, ?_⟩
  rw [upd_upd]
  exact ⟨_, rfl, k⟩
structure Backed (H H' : Hp) (tr x C dx : Addr) (p : Addr) (t : Str) (n : Int) (m e2 : Addr) (r s : Int) (rest : List (Str × V)) (es : List V) (sO : Int) (q : Addr) : Prop where
  keep : ∀ b o, H b = some o → b ≠ x → b ≠ tr → H' b = some o
  net : H' x = some (.ins C dx (netF p t n m e2 r s ++ rest))
  ent : H' e2 = some (.lst (es ++ [.ref q]))
  row : ∃ q1, H' q = some (.tup [.ref q1, .int n]) ∧ H' q1 = some (.tup [.str "rollback", .int sO])
  new : H e2 = none
def spTrExit (C CT : Addr) : Sp := fun vs H Q _ => ∃ (tr dt x dx p0 m0 p m e : Addr) (t0 t : Str) (n0 s0 n r s : Int) (wd k z tb : V) (rest : List (Str × V)) (es : List V), vs = [.ref tr, k, z, tb] ∧ H tr = some (.ins CT dt (trF x wd p0 t0 m0 n0 s0)) ∧ H x = some (.ins C dx (netF p t n m e r s ++ rest)) ∧ H e = some (.lst es) ∧ es.length < 1000000 ∧ tr ≠ x ∧ rest.length < 100 ∧
  (wd = .non ∨ wd = .str "rollback") ∧ (k = .non ∨ ∃ c, k = .ref c) ∧
  (wd = .non → k = .non → Q .non (upd H x (.ins C dx (netF p t n m e (r - 1) (s0 + s) ++ rest)))) ∧
  (¬ (wd = .non ∧ k = .non) → ∀ e2 q H', Backed H H' tr x C dx p0 t0 n0 m0 e2 (r - 1) s0 rest es s q → Q .non H')
def tNet (K : PySem.W.Frag) : TE := tFld K (tVar 0) "network"
def tExit2 (K : PySem.W.Frag) : TS :=
  tIfS (tTest (tOp (fun x y H Q => y = V.non ∧ Q (V.bl (decide (x = V.non))) H) (tFld K (tVar 0) "word") (tC V.non)))
    (sFld K (tNet K) (tOp (rI0 fun i j => V.int (i + j)) (tFld K (tVar 0) "since") (tFld K (tNet K) "since")) "since")
    (tSeq (sFld K (tNet K) (tOp rCat (tFld K (tNet K) "entries") (tLst (tCons (tTup (tCons (tTup (tCons (tFld K (tVar 0) "word") (tCons (tFld K (tNet K) "since") tNil))) (tCons (tFld K (tVar 0) "found") tNil))) tNil))) "entries")
      (tSeq (sFld K (tNet K) (tFld K (tVar 0) "around") "around")
        (tSeq (sFld K (tNet K) (tFld K (tVar 0) "top") "top")
          (tSeq (sFld K (tNet K) (tFld K (tVar 0) "made") "made")
            (tSeq (sFld K (tNet K) (tFld K (tVar 0) "found") "found")
              (sFld K (tNet K) (tFld K (tVar 0) "since") "since"))))))
def tExit (K : PySem.W.Frag) : TS := tSeq (sFldAug K (tNet K) (tC (V.int 1)) rSub "running")
  (tSeq (tIfS (tTest (tOp (fun x y H Q => y = V.non ∧ Q (V.bl !decide (x = V.non)) H) (tVar 1) (tC V.non))) (sFld K (tVar 0) (tC (V.str "rollback")) "word") tNext) (tExit2 K))
theorem exit_walk {C CT : Addr} {vs : List V} {H : Hp} {Q : VK} {E : XK} (NK : FCls K C) (TC : TrCls K CT) (h : spTrExit C CT vs H Q E) : tExit K { nx := fun _ H' => Q .non H', rt := Q } (L2.start ["self", "kind", "value", "trace"] vs) H := by
  obtain ⟨tr, dt, x, dx, p0, m0, p, m, e, t0, t, n0, s0, n, r, s, wd, k, z, tb, rest, es, rfl, htr, hx, he, les, ne, lr, hwd, hk, k1, k2⟩ := h
  have l7 : ∀ a b c d e2 f g, (netF a b c d e2 f g ++ rest).length < 1000 := fun a b c d e2 f g => by
    rw [List.length_append]
    show 7 + rest.length < 1000
    omega
  have ex : e ≠ x := ne_of he hx (by intro z; cases z)
  have et : e ≠ tr := ne_of he htr (by intro z; cases z)
  refine ⟨_, rfl, tr, CT, dt, _, _, rfl, htr, TC.cls, TC.nn, rfl, x, C, dx, _, _, rfl, hx, NK.cls, NK.nr, rfl, _, _, rfl, rfl, dx, _, hx, l7 _ _ _ _ _ _ _, ?_⟩
  have e1 : putF "running" (V.int (r - 1)) (netF p t n m e r s ++ rest) = netF p t n m e (r - 1) s ++ rest := rfl
  rw [e1]
  obtain ⟨H1, eH1⟩ : ∃ H1, H1 = upd H x (.ins C dx (netF p t n m e (r - 1) s ++ rest)) := ⟨_, rfl⟩
  rw [← eH1]
  have x1 : H1 x = some (.ins C dx (netF p t n m e (r - 1) s ++ rest)) := by rw [eH1]; exact upd_same
  have tr1 : H1 tr = some (.ins CT dt (trF x wd p0 t0 m0 n0 s0)) := by rw [eH1, upd_ne ne]; exact htr
  have k01 : ∀ b o, H b = some o → b ≠ x → H1 b = some o := fun b o h h2 => by rw [eH1, upd_ne h2]; exact h
  have back : ∀ G : Hp, G tr = some (.ins CT dt (trF x (.str "rollback") p0 t0 m0 n0 s0)) → G x = some (.ins C dx (netF p t n m e (r - 1) s ++ rest)) → (∀ b o, H b = some o → b ≠ x → b ≠ tr → G b = some o) → ¬ (wd = .non ∧ k = .non) → tExit2 K { nx := fun _ H' => Q .non H', rt := Q } (L2.start ["self", "kind", "value", "trace"] [.ref tr, k, z, tb]) G := fun G gt gx kG nn => by
    have ge := kG _ _ he ex et
    refine ⟨_, rfl, tr, CT, dt, _, _, rfl, gt, TC.cls, TC.nw, rfl, rfl, _, rfl, ?_⟩
    refine ite2 (fun h => absurd (of_decide_eq_true h) (by intro z; cases z)) (fun _ => ?_)
    have big : 100 < sizeLine := by decide
    refine ⟨_, rfl, tr, CT, dt, _, _, rfl, gt, TC.cls, TC.nn, rfl, x, C, dx, _, _, rfl, gx, NK.cls, NK.ne, rfl, _, rfl, tr, CT, dt, _, _, rfl, gt, TC.cls, TC.nw, rfl, _, rfl, tr, CT, dt, _, _, rfl, gt, TC.cls, TC.nn, rfl, x, C, dx, _, _, rfl, gx, NK.cls, NK.ns, rfl, by show 2 ≤ sizeLine; omega, fun p1 n1 => ?_⟩
    generalize gg1 : upd _ p1 _ = G1; obtain ⟨s1, L1⟩ := new_eq n1 gg1; clear gg1
    refine ⟨_, rfl, tr, CT, dt, _, _, rfl, s1 _ _ gt, TC.cls, TC.nf, rfl, by show 2 ≤ sizeLine; omega, fun p2 n2 => ?_⟩
    generalize gg2 : upd _ p2 _ = G2; obtain ⟨s2, L2⟩ := new_eq n2 gg2; clear gg2
    refine ⟨by show 1 ≤ sizeLine; omega, fun p3 n3 => ?_⟩
    generalize gg3 : upd _ p3 _ = G3; obtain ⟨s3, L3⟩ := new_eq n3 gg3; clear gg3
    have s13 : Same G G3 := s1.trans (s2.trans s3)
    have big2 : 2000000 ≤ sizeLine := by decide
    refine ⟨e, p3, es, _, rfl, rfl, s13 _ _ ge, L3, by show es.length + 1 ≤ sizeLine; omega, fun p4 n4 => ?_⟩
    generalize gg4 : upd _ p4 _ = G4; obtain ⟨s4, L4⟩ := new_eq n4 gg4; clear gg4
    have s14 : Same G G4 := s13.trans s4
    have g4 := s14 _ _ gt
    have gx4 := s14 _ _ gx
    have L14 := s4 _ _ (s3 _ _ (s2 _ _ L1))
    have L24 := s4 _ _ (s3 _ _ L2)
    refine ⟨_, rfl, tr, CT, dt, _, _, rfl, g4, TC.cls, TC.nn, rfl, x, C, dx, _, rfl, gx4, NK.cls, NK.ne, l7 _ _ _ _ _ _ _, ?_⟩
    have gt5 : ∀ o, upd G4 x o tr = some (.ins CT dt (trF x (.str "rollback") p0 t0 m0 n0 s0)) := fun o => by rw [upd_ne ne]; exact g4
    refine ⟨_, rfl, tr, CT, dt, _, _, rfl, gt5 _, TC.cls, TC.na, rfl, _, rfl, tr, CT, dt, _, _, rfl, gt5 _, TC.cls, TC.nn, rfl, x, C, dx, _, rfl, upd_same, NK.cls, NK.na, l7 _ _ _ _ _ _ _, ?_⟩
    rw [upd_upd]
    refine ⟨_, rfl, tr, CT, dt, _, _, rfl, gt5 _, TC.cls, TC.nt, rfl, _, rfl, tr, CT, dt, _, _, rfl, gt5 _, TC.cls, TC.nn, rfl, x, C, dx, _, rfl, upd_same, NK.cls, NK.nt, l7 _ _ _ _ _ _ _, ?_⟩
    rw [upd_upd]
    refine ⟨_, rfl, tr, CT, dt, _, _, rfl, gt5 _, TC.cls, TC.nm, rfl, _, rfl, tr, CT, dt, _, _, rfl, gt5 _, TC.cls, TC.nn, rfl, x, C, dx, _, rfl, upd_same, NK.cls, NK.nm, l7 _ _ _ _ _ _ _, ?_⟩
    rw [upd_upd]
    refine ⟨_, rfl, tr, CT, dt, _, _, rfl, gt5 _, TC.cls, TC.nf, rfl, _, rfl, tr, CT, dt, _, _, rfl, gt5 _, TC.cls, TC.nn, rfl, x, C, dx, _, rfl, upd_same, NK.cls, NK.nf, l7 _ _ _ _ _ _ _, ?_⟩
    rw [upd_upd]
    refine ⟨_, rfl, tr, CT, dt, _, _, rfl, gt5 _, TC.cls, TC.ns, rfl, _, rfl, tr, CT, dt, _, _, rfl, gt5 _, TC.cls, TC.nn, rfl, x, C, dx, _, rfl, upd_same, NK.cls, NK.ns, l7 _ _ _ _ _ _ _, ?_⟩
    rw [upd_upd]
    have n40 : H p4 = none := by
      have n4' : G p4 = none := np_of s13 n4
      cases e4 : H p4 with
      | none => rfl
      | some o =>
        by_cases c1 : p4 = x
        · rw [c1, gx] at n4'
          cases n4'
        · by_cases c2 : p4 = tr
          · rw [c2, gt] at n4'
            cases n4'
          · rw [kG _ _ e4 c1 c2] at n4'
            cases n4'
    refine k2 nn p4 p2 _ ⟨fun b o h h1 h2 => ?_, upd_same, ?_, ⟨p1, ?_, ?_⟩, n40⟩
    · rw [upd_ne h1]
      exact s14 _ _ (kG b o h h1 h2)
    · rw [upd_ne (ne_of L4 gx4 (by intro z; cases z))]
      exact L4
    · rw [upd_ne (ne_of L24 gx4 (by intro z; cases z))]
      exact L24
    · rw [upd_ne (ne_of L14 gx4 (by intro z; cases z))]
      exact L14
  refine ⟨_, rfl, rfl, _, rfl, ?_⟩
  refine ite2 (fun hb => ?_) (fun hb => ?_)
  · have kn : ¬ k = .non := fun z => by
      rw [z] at hb
      cases hb
    refine ⟨_, rfl, tr, CT, dt, _, rfl, tr1, TC.cls, TC.nw, by show 7 < 1000; decide, ?_⟩
    exact back _ upd_same (by rw [upd_ne (Ne.symm ne)]; exact x1) (fun b o h h1 h2 => by rw [upd_ne h2]; exact k01 b o h h1) fun z => kn z.2
  · have kn : k = .non := by
      rcases hk with rfl | ⟨c, rfl⟩
      · rfl
      · exact absurd rfl hb
    rcases hwd with rfl | rfl
    · refine ⟨_, rfl, tr, CT, dt, _, _, rfl, tr1, TC.cls, TC.nw, rfl, rfl, _, rfl, ?_⟩
      refine ite2 (fun _ => ?_) (fun h => absurd (decide_eq_true rfl) h)
      refine ⟨_, rfl, tr, CT, dt, _, _, rfl, tr1, TC.cls, TC.ns, rfl, _, rfl, tr, CT, dt, _, _, rfl, tr1, TC.cls, TC.nn, rfl, x, C, dx, _, _, rfl, x1, NK.cls, NK.ns, rfl, _, _, rfl, rfl, _, rfl, tr, CT, dt, _, _, rfl, tr1, TC.cls, TC.nn, rfl, x, C, dx, _, rfl, x1, NK.cls, NK.ns, l7 _ _ _ _ _ _ _, ?_⟩
      have k3 := k1 rfl kn
      rw [eH1, upd_upd]
      exact k3
    · exact back H1 tr1 x1 (fun b o h h1 _ => k01 b o h h1) fun z => by cases z.1
theorem sc_tr_exit : FnScope ["self", "kind", "value", "trace"] ["self", "kind", "value", "trace"] (defScope s_Trial_exit) := ⟨rfl, rfl, rfl, by decide +kernel, rfl, by decide +kernel, by decide +kernel⟩
theorem ok_tr_exit {f C CT : Addr} {fd : FuncData} (F : FnP K "__exit__" "Trial.__exit__" s_Trial_exit f fd) (NK : FCls K C) (TC : TrCls K CT) : FnOk P w K mg base CX0 1 f fd ["self", "kind", "value", "trace"] (spTrExit C CT) := by
  refine F.ok sc_tr_exit (fun vs H Q E h => ?_) (fun cdv A outer s H vs Q E hr h => ?_)
  · obtain ⟨tr, dt, x, dx, p0, m0, p, m, e, t0, t, n0, s0, n, r, s, wd, k, z, tb, rest, es, rfl, _⟩ := h
    rfl
  have hu := hu_of hr
  have nd := sc_tr_exit.nd
  exact ⟨tExit K, PSs.nox (pss_cons (ps_fldaug (pe_fld (pv 0) rfl) pe_int in_sub)
      (pss_cons (ps_if (pt_cmpR op_notN (pv 1) pe_non (nomark _))
      (pss_one (ps_fld (pv 0) pe_str rfl)) pss_nil)
      (pss_one (ps_if (pt_cmpR op_isN (pe_fld (pv 0) rfl) pe_non (nomark _))
      (pss_one (ps_fld (pe_fld (pv 0) rfl) (pe_op op_add (pe_fld (pv 0) rfl) (pe_fld (pe_fld (pv 0) rfl) rfl)) rfl)) (pss_cons (ps_fld (pe_fld (pv 0) rfl) (pe_op op_cat (pe_fld (pe_fld (pv 0) rfl) rfl) (pe_lst (pa_cons (pe_tup (pa_cons (pe_tup (pa_cons (pe_fld (pv 0) rfl) (pa_cons (pe_fld (pe_fld (pv 0) rfl) rfl) pa_nil))) (pa_cons (pe_fld (pv 0) rfl) pa_nil))) pa_nil))) rfl)
      (pss_cons (ps_fld (pe_fld (pv 0) rfl) (pe_fld (pv 0) rfl) rfl)
      (pss_cons (ps_fld (pe_fld (pv 0) rfl) (pe_fld (pv 0) rfl) rfl)
      (pss_cons (ps_fld (pe_fld (pv 0) rfl) (pe_fld (pv 0) rfl) rfl)
      (pss_cons (ps_fld (pe_fld (pv 0) rfl) (pe_fld (pv 0) rfl) rfl)
      (pss_one (ps_fld (pe_fld (pv 0) rfl) (pe_fld (pv 0) rfl) rfl))))))))))), exit_walk NK TC h⟩
theorem q_tr_exit {f C CT : Addr} {fd : FuncData} (F : FnP K "__exit__" "Trial.__exit__" s_Trial_exit f fd) (NK : FCls K C) (TC : TrCls K CT) : WkW.FnQ P w K mg base 1 f fd ["self", "kind", "value", "trace"] (fun _ _ _ => spTrExit C CT) := by
  refine WkW.okQ F sc_tr_exit (fun a cls d vs H Q E h => ?_) (fun cdv A outer s H vs Q E q cls d hz hfl hr h => ?_)
  · obtain ⟨tr, dt, x, dx, p0, m0, p, m, e, t0, t, n0, s0, n, r, s, wd, k, z, tb, rest, es, rfl, _⟩ := h
    rfl
  have nd := sc_tr_exit.nd
  exact ⟨tExit K, (pss_cons (ps_fldaug (pe_fld (pv 0) rfl) pe_int in_sub)
      (pss_cons (ps_if (pt_cmpR op_notN (pv 1) pe_non (nomark _))
      (pss_one (ps_fld (pv 0) pe_str rfl)) pss_nil)
      (pss_one (ps_if (pt_cmpR op_isN (pe_fld (pv 0) rfl) pe_non (nomark _))
      (pss_one (ps_fld (pe_fld (pv 0) rfl) (pe_op op_add (pe_fld (pv 0) rfl) (pe_fld (pe_fld (pv 0) rfl) rfl)) rfl)) (pss_cons (ps_fld (pe_fld (pv 0) rfl) (pe_op op_cat (pe_fld (pe_fld (pv 0) rfl) rfl) (pe_lst (pa_cons (pe_tup (pa_cons (pe_tup (pa_cons (pe_fld (pv 0) rfl) (pa_cons (pe_fld (pe_fld (pv 0) rfl) rfl) pa_nil))) (pa_cons (pe_fld (pv 0) rfl) pa_nil))) pa_nil))) rfl)
      (pss_cons (ps_fld (pe_fld (pv 0) rfl) (pe_fld (pv 0) rfl) rfl)
      (pss_cons (ps_fld (pe_fld (pv 0) rfl) (pe_fld (pv 0) rfl) rfl)
      (pss_cons (ps_fld (pe_fld (pv 0) rfl) (pe_fld (pv 0) rfl) rfl)
      (pss_cons (ps_fld (pe_fld (pv 0) rfl) (pe_fld (pv 0) rfl) rfl)
      (pss_one (ps_fld (pe_fld (pv 0) rfl) (pe_fld (pv 0) rfl) rfl))))))))))), exit_walk NK TC h⟩
structure TrK (P : Program) (w : World) (K : PySem.W.Frag) (mg : Str → Option Value) (base : Heap) (CN CT : Addr) : Prop where
  tc : TrCls K CT
  tm : MakeC P w K mg base CX0 CT "Trial" 1 (spTrInit CN CT)
  mgr : WkI.Mgr P w K mg base CT 1 (spTrEnter CN CT) (spTrExit CN CT) (fun _ _ _ => spTrExit CN CT)
def TrBack (CN CT tr x p m : Addr) (t : Str) (n s : Int) (to : HO) (H2 : Hp) (k : Hp → Prop) : Prop := ∃ dx' p' t' n' m' e' r' s' rest' es', H2 x = some (.ins CN dx' (netF p' t' n' m' e' r' s' ++ rest')) ∧ H2 e' = some (.lst es') ∧ es'.length < 1000000 ∧ rest'.length < 100 ∧ H2 tr = some to ∧
  ∀ e2 q H3, Backed H2 H3 tr x CN dx' p t n m e2 (r' - 1) s rest' es' s' q → k H3
def TTex (CN CT : Addr) : (XK → V → Hp → VK → Prop) → V → XK → Hp → VK → Prop := fun tl me Eo H Q => ∃ (x dx p m e : Addr) (t : Str) (n r s : Int) (rest : List (Str × V)), me = .ref x ∧ H x = some (.ins CN dx (netF p t n m e r s ++ rest)) ∧ rest.length < 100 ∧
  ∀ H1 tr to (E' : XK) (Q' : VK), (∀ b o, H b = some o → b ≠ x → H1 b = some o) → H1 x = some (.ins CN dx (netF p t n m e (r + 1) 0 ++ rest)) → H tr = none → H1 tr = some to → (∃ dt fs, to = .ins CT dt fs) →
    (∀ cls d H2, (∃ c, cls = .ref c) → TrBack CN CT tr x p m t n s to H2 (fun H3 => Eo cls d H3) → E' cls d H2) → (∀ v H2, TrBack CN CT tr x p m t n s to H2 (fun H3 => Q v H3) → Q' v H2) → tl E' (.ref x) H1 Q'
theorem gives_explore {X : Cx} {CN CT g : Addr} {cdg : Value} {q : Str} {tR : Tok} (TK : TrK X.prog X.w X.K X.mg X.base CN CT) (gR : X.mg "ROLLBACK" = some (.str "rollback" tR)) (hr : Room 4 X.A) :
    WkI.GivesM X ["self", "action"] "Network.explore" (defScope s_Network_explore) g cdg (defBody s_Network_explore) "action" "self" q (TTex CN CT) := by
  intro f c' s H Q Eo me tl act hc h
  have nd : (["self", "action"] : List Str).Nodup := by decide
  have hr3 : Room 3 (X.A.deeper (envOfC "Network.explore" (defScope s_Network_explore) s.heap.objs.size g cdg)) := hr.deeper _
  have hr2 : Room 2 (X.A.deeper (envOfC "Network.explore" (defScope s_Network_explore) s.heap.objs.size g cdg)) := hr3.mono (by decide)
  have hr1 : Room 1 (X.A.deeper (envOfC "Network.explore" (defScope s_Network_explore) s.heap.objs.size g cdg)) := hr3.mono (by decide)
  refine ⟨_, pss_one (WkI.ps_withRet (C := CT) (Wout := fun cls d _ H' => Eo cls d H') rfl rfl rfl (takes_of rfl rfl rfl rfl) TK.mgr hr1 (fun a => ⟨hr1.dp, hr1.un⟩) (WkC.pe_mk TK.tm hr2 pass0 (pa_cons (pv 0) (pa_cons (pe_glob (v := .str "rollback") (by rfl) gR ⟨_, rfl⟩) pa_nil)))
    (te := fun W σZ HZ Q => ∃ E' : XK, (∀ cls d σ' H', E' cls d H' → W cls d σ' H') ∧ ∃ v, σZ[1]? = some (some (.ref f)) ∧ σZ[0]? = some (some v) ∧ HZ c' = some (CodeO c' q) ∧ tl E' v HZ Q)
    (fun W pn xe tk po => ⟨fun pins s' σ' H' Q' I h' => by
      obtain ⟨E', hW, h'⟩ := h'
      exact (act W pn xe E' _ _ _ tk hW).run pins s' σ' H' Q' I h'⟩)), ?_⟩
  obtain ⟨x, dx, p, m, e, t, n, r, s0, rest, rfl, hx, lr, hk⟩ := h
  refine ⟨_, rfl, fun tr dt ntr ndt ne => ?_⟩
  have tx : tr ≠ x := Ne.symm (ne_of_none hx ntr)
  have dx_ : dt ≠ x := Ne.symm (ne_of_none hx ndt)
  have keep : ∀ o b o', H b = some o' → upd (upd H dt (.own tr)) tr o b = some o' := fun o b o' hb => by
    rw [upd_ne (ne_of_none hb ntr), upd_ne (ne_of_none hb ndt)]
    exact hb
  refine ⟨tr, dt, x, dx, p, m, e, t, n, r, s0, .str "rollback", rest, rfl, upd_same, keep _ _ _ hx, tx, rfl, ?_⟩
  rw [upd_upd]
  refine ⟨tr, dt, _, rfl, upd_same, tr, dt, x, dx, p, m, p, m, e, t, t, n, s0, n, r, s0, .str "rollback", rest, rfl, upd_same, keep _ _ _ hx, tx, lr, ?_⟩
  have back : ∀ {vc zq tb : V} {k : Hp → Prop} {H2 : Hp} {F : VK}, (vc = .non ∨ ∃ c, vc = .ref c) → TrBack CN CT tr x p m t n s0 (.ins CT dt (trF x (.str "rollback") p t m n s0)) H2 k → (∀ H3, k H3 → F .non H3) → spTrExit CN CT [.ref tr, vc, zq, tb] H2 F WkI.E0 := fun {vc zq tb k H2 F} hvc ⟨dx', p', t', n', m', e', r', s', rest', es', hx', he', les, lr', htr, kk⟩ hF =>
    ⟨tr, dt, x, dx', p, m, p', m', e', t, t', n, s0, n', r', s', .str "rollback", vc, zq, tb, rest', es', rfl, htr, hx', he', les, tx, lr', .inr rfl, hvc, (fun z => by cases z), fun _ e2 q2 H3 B => hF _ (kk e2 q2 H3 B)⟩
  have cx : c' ≠ x := ne_of hc hx (by unfold CodeO; intro z; cases z)
  refine ⟨fun cls d H2 => ∀ σ', WkI.wWith (fun x x_2 x_3 => spTrExit CN CT) tr (fun cls d _ H' => Eo cls d H') cls d σ' H2, fun cls d σ' H' z => z σ', .ref x, rfl, rfl, ?_, hk _ tr _ _ _ (fun b o hb hne => ?_) upd_same ntr ?_ ⟨_, _, rfl⟩ (fun cls d H2 ⟨c, ec⟩ B σ' => ⟨.ref c, by rw [ec]; rfl, fun q2 tb _ _ => back (.inr ⟨c, rfl⟩) B fun H3 z => ⟨rfl, z⟩⟩) (fun v H2 B => back (.inl rfl) B fun H3 z => z)⟩
  · rw [upd_ne cx]
    exact keep _ _ _ hc
  · rw [upd_ne hne]
    exact keep _ _ _ hb
  · rw [upd_ne tx]
    exact upd_same
end
end Wk
namespace Wk
open PySem PySem.Spec PyProof.Rows L2 WkD WkN LamX WkP WkE WkC
section
variable {P : Program} {w : World} {K : PySem.W.Frag} {mg : Str → Option Value} {base : Heap}
def TrKept (CN x tr : Addr) (s : Int) (to : HO) (H2 : Hp) (k : Hp → Prop) : Prop := ∃ dx' p' t' n' m' e' r' s' rest' es', H2 x = some (.ins CN dx' (netF p' t' n' m' e' r' s' ++ rest')) ∧ H2 e' = some (.lst es') ∧ es'.length < 1000000 ∧ rest'.length < 100 ∧ H2 tr = some to ∧
  k (upd H2 x (.ins CN dx' (netF p' t' n' m' e' (r' - 1) (s + s') ++ rest')))
def TTat (CN CT : Addr) : (XK → V → Hp → VK → Prop) → V → XK → Hp → VK → Prop := fun tl me Eo H Q => ∃ (x dx p m e : Addr) (t : Str) (n r s : Int) (rest : List (Str × V)), me = .ref x ∧ H x = some (.ins CN dx (netF p t n m e r s ++ rest)) ∧ rest.length < 100 ∧
  ∀ H1 tr to (E' : XK) (Q' : VK), (∀ b o, H b = some o → b ≠ x → H1 b = some o) → H1 x = some (.ins CN dx (netF p t n m e (r + 1) 0 ++ rest)) → H tr = none → H1 tr = some to → (∃ dt fs, to = .ins CT dt fs) →
    (∀ cls d H2, (∃ c, cls = .ref c) → TrBack CN CT tr x p m t n s to H2 (fun H3 => Eo cls d H3) → E' cls d H2) → (∀ v H2, TrKept CN x tr s to H2 (fun H3 => Q v H3) → Q' v H2) → tl E' (.ref x) H1 Q'
theorem gives_attempt {X : Cx} {CN CT g : Addr} {cdg : Value} {q : Str} (TK : TrK X.prog X.w X.K X.mg X.base CN CT) (hr : Room 4 X.A) :
    WkI.GivesM X ["self", "action"] "Network.attempt" (defScope s_Network_attempt) g cdg (defBody s_Network_attempt) "action" "self" q (TTat CN CT) := by
  intro f c' s H Q Eo me tl act hc h
  have nd : (["self", "action"] : List Str).Nodup := by decide
  have hr3 : Room 3 (X.A.deeper (envOfC "Network.attempt" (defScope s_Network_attempt) s.heap.objs.size g cdg)) := hr.deeper _
  have hr2 : Room 2 (X.A.deeper (envOfC "Network.attempt" (defScope s_Network_attempt) s.heap.objs.size g cdg)) := hr3.mono (by decide)
  have hr1 : Room 1 (X.A.deeper (envOfC "Network.attempt" (defScope s_Network_attempt) s.heap.objs.size g cdg)) := hr3.mono (by decide)
  refine ⟨_, pss_one (WkI.ps_withRet (C := CT) (Wout := fun cls d _ H' => Eo cls d H') rfl rfl rfl (takes_of rfl rfl rfl rfl) TK.mgr hr1 (fun a => ⟨hr1.dp, hr1.un⟩) (WkC.pe_mk TK.tm hr2 pass0 (pa_cons (pv 0) (pa_cons pe_non pa_nil)))
    (te := fun W σZ HZ Q => ∃ E' : XK, (∀ cls d σ' H', E' cls d H' → W cls d σ' H') ∧ ∃ v, σZ[1]? = some (some (.ref f)) ∧ σZ[0]? = some (some v) ∧ HZ c' = some (CodeO c' q) ∧ tl E' v HZ Q)
    (fun W pn xe tk po => ⟨fun pins s' σ' H' Q' I h' => by
      obtain ⟨E', hW, h'⟩ := h'
      exact (act W pn xe E' _ _ _ tk hW).run pins s' σ' H' Q' I h'⟩)), ?_⟩
  obtain ⟨x, dx, p, m, e, t, n, r, s0, rest, rfl, hx, lr, hk⟩ := h
  refine ⟨_, rfl, fun tr dt ntr ndt ne => ?_⟩
  have tx : tr ≠ x := Ne.symm (ne_of_none hx ntr)
  have dx_ : dt ≠ x := Ne.symm (ne_of_none hx ndt)
  have keep : ∀ o b o', H b = some o' → upd (upd H dt (.own tr)) tr o b = some o' := fun o b o' hb => by
    rw [upd_ne (ne_of_none hb ntr), upd_ne (ne_of_none hb ndt)]
    exact hb
  refine ⟨tr, dt, x, dx, p, m, e, t, n, r, s0, .non, rest, rfl, upd_same, keep _ _ _ hx, tx, rfl, ?_⟩
  rw [upd_upd]
  refine ⟨tr, dt, _, rfl, upd_same, tr, dt, x, dx, p, m, p, m, e, t, t, n, s0, n, r, s0, .non, rest, rfl, upd_same, keep _ _ _ hx, tx, lr, ?_⟩
  have keepB : ∀ {zq tb : V} {k : Hp → Prop} {H2 : Hp} {F : VK}, TrKept CN x tr s0 (.ins CT dt (trF x .non p t m n s0)) H2 k → (∀ H3, k H3 → F .non H3) → spTrExit CN CT [.ref tr, .non, zq, tb] H2 F WkI.E0 := fun {zq tb k H2 F} ⟨dx', p', t', n', m', e', r', s', rest', es', hx', he', les, lr', htr, kk⟩ hF =>
    ⟨tr, dt, x, dx', p, m, p', m', e', t, t', n, s0, n', r', s', .non, .non, zq, tb, rest', es', rfl, htr, hx', he', les, tx, lr', .inl rfl, .inl rfl, (fun _ _ => hF _ kk), fun z => absurd ⟨rfl, rfl⟩ z⟩
  have back : ∀ {vc zq tb : V} {k : Hp → Prop} {H2 : Hp} {F : VK}, (∃ c, vc = .ref c) → TrBack CN CT tr x p m t n s0 (.ins CT dt (trF x (.non) p t m n s0)) H2 k → (∀ H3, k H3 → F .non H3) → spTrExit CN CT [.ref tr, vc, zq, tb] H2 F WkI.E0 := fun {vc zq tb k H2 F} hvc ⟨dx', p', t', n', m', e', r', s', rest', es', hx', he', les, lr', htr, kk⟩ hF =>
    ⟨tr, dt, x, dx', p, m, p', m', e', t, t', n, s0, n', r', s', .non, vc, zq, tb, rest', es', rfl, htr, hx', he', les, tx, lr', .inl rfl, .inr hvc, (fun _ z => by obtain ⟨c, rfl⟩ := hvc; cases z), fun _ e2 q2 H3 B => hF _ (kk e2 q2 H3 B)⟩
  have cx : c' ≠ x := ne_of hc hx (by unfold CodeO; intro z; cases z)
  refine ⟨fun cls d H2 => ∀ σ', WkI.wWith (fun x x_2 x_3 => spTrExit CN CT) tr (fun cls d _ H' => Eo cls d H') cls d σ' H2, fun cls d σ' H' z => z σ', .ref x, rfl, rfl, ?_, hk _ tr _ _ _ (fun b o hb hne => ?_) upd_same ntr ?_ ⟨_, _, rfl⟩ (fun cls d H2 ⟨c, ec⟩ B σ' => ⟨.ref c, by rw [ec]; rfl, fun q2 tb _ _ => back ⟨c, rfl⟩ B fun H3 z => ⟨rfl, z⟩⟩) (fun v H2 B => keepB B fun H3 z => z)⟩
  · rw [upd_ne cx]
    exact keep _ _ _ hc
  · rw [upd_ne hne]
    exact keep _ _ _ hb
  · rw [upd_ne tx]
    exact upd_same
end
end Wk
namespace WkP
open PySem WkN
abbrev Sd := Str → Bool
def sm (l : List Str) (f : Str → Int) : Int := (l.map f).sum
theorem sm_nil (f : Str → Int) : sm [] f = 0 := rfl
theorem sm_cons (a : Str) (l : List Str) (f : Str → Int) : sm (a :: l) f = f a + sm l f := by simp [sm]
theorem sm_app (l m : List Str) (f : Str → Int) : sm (l ++ m) f = sm l f + sm m f := by simp [sm]
theorem sm_add (l : List Str) (f g : Str → Int) : sm l (fun x => f x + g x) = sm l f + sm l g := by
  induction l with
  | nil => rfl
  | cons a r ih =>
    rw [sm_cons, sm_cons, sm_cons, ih]
    omega
theorem sm_congr {l : List Str} {f g : Str → Int} (h : ∀ x ∈ l, f x = g x) : sm l f = sm l g := by
  unfold sm
  rw [List.map_congr_left h]
theorem sm_zero {l : List Str} {f : Str → Int} (h : ∀ x ∈ l, f x = 0) : sm l f = 0 := by
  induction l with
  | nil => rfl
  | cons a r ih => rw [sm_cons, h a List.mem_cons_self, ih fun x hx => h x (List.mem_cons_of_mem _ hx)]; rfl
theorem sm_le {l : List Str} {f g : Str → Int} (h : ∀ x ∈ l, f x ≤ g x) : sm l f ≤ sm l g := by
  induction l with
  | nil => exact Int.le_refl _
  | cons a r ih =>
    have h1 := h a List.mem_cons_self
    have h2 := ih fun x hx => h x (List.mem_cons_of_mem _ hx)
    rw [sm_cons, sm_cons]
    omega
theorem sm_nonneg {l : List Str} {f : Str → Int} (h : ∀ x ∈ l, 0 ≤ f x) : 0 ≤ sm l f := by
  have := sm_le (f := fun _ => 0) h
  rwa [sm_zero fun _ _ => rfl] at this
theorem sm_perm {l m : List Str} (p : l.Perm m) (f : Str → Int) : sm l f = sm m f := by
  induction p with
  | nil => rfl
  | cons a _ ih => rw [sm_cons, sm_cons, ih]
  | swap a b l =>
    rw [sm_cons, sm_cons, sm_cons, sm_cons]
    omega
  | trans _ _ h1 h2 => exact h1.trans h2
abbrev Wf := Str → Str → Int
def cutW (l : List Str) (w : Wf) (S : Sd) : Int := sm l fun u => sm l fun v => if S u = true ∧ S v = false then w u v else 0
def dif (l : List Str) (w : Wf) (S : Sd) (v : Str) : Int := sm l fun p => if S p = S v then 0 else w p v
def sme (l : List Str) (w : Wf) (S : Sd) (v : Str) : Int := sm l fun p => if S p = S v then w p v else 0
theorem dif_sme (l : List Str) (w : Wf) (S : Sd) (v : Str) : sm l (fun p => w p v) = sme l w S v + dif l w S v := by
  unfold sme dif
  rw [← sm_add]
  refine sm_congr fun p _ => ?_
  split <;> omega
theorem cutW_snoc {l : List Str} {w : Wf} {S : Sd} {v : Str} (sy : ∀ p ∈ l, w v p = w p v) : cutW (l ++ [v]) w S = cutW l w S + dif l w S v := by
  unfold cutW dif
  rw [sm_app, sm_cons, sm_nil]
  have e1 : sm l (fun u => sm (l ++ [v]) fun x => if S u = true ∧ S x = false then w u x else 0) = sm l (fun u => sm l fun x => if S u = true ∧ S x = false then w u x else 0) + sm l fun u => if S u = true ∧ S v = false then w u v else 0 := by
    rw [← sm_add]
    refine sm_congr fun u _ => ?_
    rw [sm_app, sm_cons, sm_nil]
    omega
  rw [e1, sm_app, sm_cons, sm_nil]
  have e2 : (if S v = true ∧ S v = false then w v v else 0) = 0 := if_neg fun h => by rw [h.1] at h; cases h.2
  rw [e2]
  have e3 : sm l (fun p => if S p = S v then 0 else w p v) = sm l (fun u => if S u = true ∧ S v = false then w u v else 0) + sm l fun x => if S v = true ∧ S x = false then w v x else 0 := by
    rw [← sm_add]
    refine sm_congr fun p hp => ?_
    rw [sy p hp]
    cases S p <;> cases S v <;> simp
  rw [e3]
  omega
theorem cutW_perm {l m : List Str} (p : l.Perm m) (w : Wf) (S : Sd) : cutW l w S = cutW m w S := by
  unfold cutW
  rw [sm_perm p]
  exact sm_congr fun u _ => sm_perm p _
theorem cutW_congr {l : List Str} {w w' : Wf} {S S' : Sd} (hw : ∀ u ∈ l, ∀ v ∈ l, u ≠ v → w u v = w' u v) (hS : ∀ u ∈ l, S u = S' u) : cutW l w S = cutW l w' S' := by
  unfold cutW
  refine sm_congr fun u hu => sm_congr fun v hv => ?_
  rw [hS u hu, hS v hv]
  by_cases h : S' u = true ∧ S' v = false
  · rw [if_pos h, if_pos h]
    refine hw u hu v hv fun e => ?_
    rw [e, h.2] at h
    cases h.1
  · rw [if_neg h, if_neg h]
theorem cutW_nonneg {l : List Str} {w : Wf} {S : Sd} (h : ∀ u ∈ l, ∀ v ∈ l, 0 ≤ w u v) : 0 ≤ cutW l w S := sm_nonneg fun u hu => sm_nonneg fun v hv => by
  split
  · exact h u hu v hv
  · exact Int.le_refl _
section
variable {Vs : List Str} {w : Wf} {S : Sd}
theorem ma_step (nn : ∀ u ∈ Vs, ∀ v ∈ Vs, 0 ≤ w u v) (sy : ∀ u ∈ Vs, ∀ v ∈ Vs, w u v = w v u) {P : List Str} {a v : Str} (sub : ∀ p ∈ P ++ [a], p ∈ Vs) (hv : v ∈ Vs) (best : ∀ u ∈ Vs, u ∉ P ++ [a] → sm (P ++ [a]) (fun p => w p u) ≤ sm (P ++ [a]) (fun p => w p v)) (hn : v ∉ P ++ [a])
    (J : ∀ u ∈ Vs, u ∉ P ++ [a] → S u ≠ S a → sme (P ++ [a]) w S u ≤ cutW (P ++ [a]) w S) :
    ∀ u ∈ Vs, u ∉ (P ++ [a]) ++ [v] → S u ≠ S v → sme ((P ++ [a]) ++ [v]) w S u ≤ cutW ((P ++ [a]) ++ [v]) w S := by
  intro u hu hun hne
  have hun1 : u ∉ P ++ [a] := fun h => hun (List.mem_append_left _ h)
  rw [cutW_snoc fun p hp => sy v hv p (sub p hp)]
  have e1 : sme ((P ++ [a]) ++ [v]) w S u = sme (P ++ [a]) w S u := by
    unfold sme
    rw [sm_app _ [v], sm_cons, sm_nil, if_neg (Ne.symm hne)]
    omega
  rw [e1]
  have dn : 0 ≤ dif (P ++ [a]) w S v := sm_nonneg fun p hp => by
    split
    · exact Int.le_refl _
    · exact nn p (sub p hp) v hv
  by_cases h : S a = S v
  · have := J u hu hun1 (by rw [h]; exact hne)
    omega
  · have h1 := J v hv hn (Ne.symm h)
    have h2 := best u hu hun1
    rw [dif_sme (P ++ [a]) w S u, dif_sme (P ++ [a]) w S v] at h2
    have du : 0 ≤ dif (P ++ [a]) w S u := sm_nonneg fun p hp => by
      split
      · exact Int.le_refl _
      · exact nn p (sub p hp) u hu
    omega
theorem ma_all (nn : ∀ u ∈ Vs, ∀ v ∈ Vs, 0 ≤ w u v) (sy : ∀ u ∈ Vs, ∀ v ∈ Vs, w u v = w v u) {done : List Str} (nd : done.Nodup) (sub : ∀ x ∈ done, x ∈ Vs) (best : ∀ (i : Nat) (x : Str), done[i]? = some x → ∀ u ∈ Vs, u ∉ done.take i → sm (done.take i) (fun p => w p u) ≤ sm (done.take i) (fun p => w p x)) :
    ∀ (k : Nat) (P : List Str) (a : Str), k < done.length → done.take (k + 1) = P ++ [a] → ∀ u ∈ Vs, u ∉ P ++ [a] → S u ≠ S a → sme (P ++ [a]) w S u ≤ cutW (P ++ [a]) w S := by
  intro k
  induction k with
  | zero =>
    intro P a hk e u hu hun hne
    have hP : P = [] := by
      have := congrArg List.length e
      rw [List.length_take, List.length_append, List.length_singleton] at this
      exact List.length_eq_zero_iff.mp (by omega)
    subst hP
    have e1 : sme ([] ++ [a]) w S u = 0 := sm_zero fun p hp => by
      have hp : p = a := by simpa using hp
      rw [hp, if_neg (Ne.symm hne)]
    rw [e1]
    have hP : ∀ p ∈ ([] ++ [a] : List Str), p ∈ Vs := fun p hp => sub p (List.mem_of_mem_take (e ▸ hp))
    exact cutW_nonneg fun x hx y hy => nn x (hP x hx) y (hP y hy)
  | succ k ih =>
    intro P a hk e
    have hk1 : k + 1 < done.length := hk
    have tk : done.take (k + 1 + 1) = done.take (k + 1) ++ [done[k + 1]] := takeS (List.getElem?_eq_getElem hk1)
    rw [tk] at e
    obtain ⟨e1, e2⟩ := List.append_inj' e rfl
    have ea : done[k + 1] = a := by simpa using e2
    obtain ⟨P', a', e3⟩ : ∃ P' a', done.take (k + 1) = P' ++ [a'] := by
      have tk' : done.take (k + 1) = done.take k ++ [done[k]] := takeS (List.getElem?_eq_getElem (by omega))
      exact ⟨_, _, tk'⟩
    have J := ih P' a' (by omega) e3
    have hat : done[k + 1]? = some a := by rw [List.getElem?_eq_getElem hk1, ea]
    have hav : a ∈ Vs := sub a (List.mem_of_getElem? hat)
    have hnin : a ∉ done.take (k + 1) := by
      rw [← ea]
      intro z
      obtain ⟨j, hj, e⟩ := List.mem_iff_getElem.mp z
      rw [List.length_take] at hj
      rw [List.getElem_take] at e
      have := (List.getElem_inj nd).mp e
      omega
    have bt := best (k + 1) a hat
    rw [e3] at bt hnin
    rw [← e1, e3]
    exact ma_step nn sy (fun p hp => sub p (List.mem_of_mem_take (e3 ▸ hp))) hav bt hnin J
theorem ma_last (nn : ∀ u ∈ Vs, ∀ v ∈ Vs, 0 ≤ w u v) (sy : ∀ u ∈ Vs, ∀ v ∈ Vs, w u v = w v u) {pre : List Str} {x l : Str} (nd : (pre ++ [x, l]).Nodup) (sub : ∀ y ∈ pre ++ [x, l], y ∈ Vs)
    (best : ∀ (i : Nat) (y : Str), (pre ++ [x, l])[i]? = some y → ∀ u ∈ Vs, u ∉ (pre ++ [x, l]).take i → sm ((pre ++ [x, l]).take i) (fun p => w p u) ≤ sm ((pre ++ [x, l]).take i) (fun p => w p y)) (hS : S x ≠ S l) :
    sm (pre ++ [x]) (fun p => w p l) ≤ cutW (pre ++ [x, l]) w S := by
  have e : (pre ++ [x, l]).take (pre.length + 1) = pre ++ [x] := by
    rw [show pre ++ [x, l] = (pre ++ [x]) ++ [l] by simp, List.take_append_of_le_length (by simp)]
    exact List.take_of_length_le (by simp)
  have hl : l ∉ pre ++ [x] := fun z => by
    rw [show pre ++ [x, l] = (pre ++ [x]) ++ [l] by simp, List.nodup_append] at nd
    exact nd.2.2 l z l (by simp) rfl
  have J := ma_all (S := S) nn sy nd sub best pre.length pre x (by simp) e l (sub l (by simp)) hl (Ne.symm hS)
  have e2 : pre ++ [x, l] = (pre ++ [x]) ++ [l] := by simp
  rw [e2, cutW_snoc fun p hp => sy l (sub l (by simp)) p (sub p (by rw [e2]; exact List.mem_append_left _ hp)), dif_sme _ _ S]
  omega
end
end WkP
namespace WkP
open PySem WkN
theorem conn_sm (nb : Nb) (wt : Wt) (S : List Str) (u : Str) : conn nb wt S u = sm S fun p => vl0 nb wt p u := rfl
theorem cut_merge {R : List Str} {x l : Str} {w w2 : Wf} {S : Sd} (sy : ∀ u ∈ (R ++ [x]) ++ [l], ∀ v ∈ (R ++ [x]) ++ [l], w u v = w v u) (hS : S l = S x) (hR : ∀ u ∈ R, ∀ v ∈ R, u ≠ v → w2 u v = w u v) (hx : ∀ r ∈ R, w2 r x = w r x + w r l) (hx2 : ∀ r ∈ R, w2 x r = w2 r x) :
    cutW ((R ++ [x]) ++ [l]) w S = cutW (R ++ [x]) w2 S := by
  have m1 : ∀ r ∈ R, r ∈ (R ++ [x]) ++ [l] := fun r hr => List.mem_append_left _ (List.mem_append_left _ hr)
  have m2 : x ∈ (R ++ [x]) ++ [l] := by simp
  have m3 : l ∈ (R ++ [x]) ++ [l] := by simp
  rw [cutW_snoc fun p hp => sy l m3 p (List.mem_append_left _ hp), cutW_snoc fun p hp => sy x m2 p (m1 p hp), cutW_snoc fun p hp => hx2 p hp]
  have e1 : dif (R ++ [x]) w S l = dif R w S l := by
    unfold dif
    rw [sm_app, sm_cons, sm_nil, if_pos hS.symm]
    omega
  have e2 : dif R w2 S x = dif R w S x + dif R w S l := by
    unfold dif
    rw [← sm_add]
    refine sm_congr fun p hp => ?_
    rw [hx p hp, hS]
    split <;> omega
  have e3 : cutW R w2 S = cutW R w S := cutW_congr hR fun _ _ => rfl
  rw [e1, e2, e3]
  omega
structure SW (Vs : List Str) (w : Wf) (Ws : List Str) (w' : Wf) (grp : Str → List Str) (best : Option (Int × List Str)) : Prop where
  nd : Ws.Nodup
  part : ∀ y ∈ Vs, ∃ u ∈ Ws, y ∈ grp u
  gne : ∀ u ∈ Ws, grp u ≠ []
  lift : ∀ S S' : Sd, (∀ u ∈ Ws, ∀ y ∈ grp u, S y = S' u) → cutW Vs w S = cutW Ws w' S'
  nn : ∀ u ∈ Ws, ∀ v ∈ Ws, 0 ≤ w' u v
  sy : ∀ u ∈ Ws, ∀ v ∈ Ws, w' u v = w' v u
  low : ∀ S : Sd, (∃ S' : Sd, ∀ u ∈ Ws, ∀ y ∈ grp u, S y = S' u) ∨ ∃ n m, best = some (n, m) ∧ n ≤ cutW Vs w S
  bst : ∀ n m, best = some (n, m) → n = cutW Vs w (fun y => decide (y ∈ m)) ∧ m ≠ [] ∧ (∀ y ∈ m, y ∈ Vs) ∧ ∃ y ∈ Vs, y ∉ m
theorem vl0_sym {Vs : List Str} {nb : Nb} {wt : Wt} (sy : Sym Vs nb wt) : ∀ u ∈ Vs, ∀ v ∈ Vs, vl0 nb wt u v = vl0 nb wt v u := fun u hu v hv => by
  unfold vl0
  have a := sy.mem u hu v
  have b := sy.mem v hv u
  grind
theorem better_le {best : Option (Int × List Str)} {n : Int} {g : List Str} {k : Int} (h : n ≤ k ∨ ∃ a m, best = some (a, m) ∧ a ≤ k) : ∃ a m, better best n g = some (a, m) ∧ a ≤ k := by
  unfold better
  cases best with
  | none =>
    rcases h with h | ⟨a, m, e, _⟩
    · exact ⟨n, g, rfl, h⟩
    · cases e
  | some p =>
    obtain ⟨b, m⟩ := p
    show ∃ a m', (if n < b then some (n, g) else some (b, m)) = some (a, m') ∧ a ≤ k
    split
    · rename_i hlt
      refine ⟨n, g, rfl, ?_⟩
      rcases h with h | ⟨a, m', e, ha⟩
      · exact h
      · cases e
        omega
    · rename_i hge
      refine ⟨b, m, rfl, ?_⟩
      rcases h with h | ⟨a, m', e, ha⟩
      · omega
      · cases e
        exact ha
theorem better_is {best : Option (Int × List Str)} {n : Int} {g : List Str} {a : Int} {m : List Str} (h : better best n g = some (a, m)) : (a = n ∧ m = g) ∨ best = some (a, m) := by
  unfold better at h
  cases best with
  | none =>
    cases h
    exact .inl ⟨rfl, rfl⟩
  | some p =>
    obtain ⟨b, m'⟩ := p
    have h : (if n < b then some (n, g) else some (b, m')) = some (a, m) := h
    split at h
    · cases h
      exact .inl ⟨rfl, rfl⟩
    · exact .inr h
theorem Phases.sw {Vs : List Str} {nb : Nb} {wt : Wt} (hV : Vs.Nodup) (sy0 : Sym Vs nb wt) (nn0 : ∀ u ∈ Vs, ∀ v ∈ Vs, 0 ≤ vl0 nb wt u v) {Ws : List Str} {nb' : Nb} {wt' : Wt} {grp : Str → List Str} {best : Option (Int × List Str)} (p : Phases Vs nb wt Ws nb' wt' grp best) :
    SW Vs (vl0 nb wt) Ws (vl0 nb' wt') grp best := by
  induction p with
  | start => exact ⟨hV, fun y hy => ⟨y, hy, by simp⟩, fun u _ => by simp, fun S S' h => cutW_congr (fun _ _ _ _ _ => rfl) fun u hu => h u hu u (by simp), nn0, vl0_sym sy0, fun S => .inl ⟨S, fun u hu y hy => by rw [List.mem_singleton.mp hy]⟩, fun n m h => nomatch h⟩
  | @step Ws nb' nb'' wt' wt'' grp best x l n p lt mg ih =>
    have gs := p.grps
    obtain ⟨hx, hl, hne⟩ := lt.mem
    obtain ⟨pre, pr, cov, en⟩ := lt
    have mw : ∀ u, u ∈ (Ws.filter fun y => decide (y ≠ l)) ↔ u ∈ Ws ∧ u ≠ l := fun u => by rw [List.mem_filter, decide_eq_true_iff]
    have pmD : (pre ++ [x, l]).Perm Ws := (List.perm_ext_iff_of_nodup pr.nd ih.nd).mpr fun y => ⟨pr.sub y, cov y⟩
    have e2 : pre ++ [x, l] = (pre ++ [x]) ++ [l] := by simp
    have nd2 := pr.nd
    rw [e2, List.nodup_append] at nd2
    have pmF : (pre ++ [x]).Perm (Ws.filter fun y => decide (y ≠ l)) := (List.perm_ext_iff_of_nodup nd2.1 (ih.nd.filter _)).mpr fun y => by
      rw [mw]
      constructor
      · intro h
        exact ⟨pr.sub y (by rw [e2]; exact List.mem_append_left _ h), fun e => nd2.2.2 y h l (by simp) e⟩
      · rintro ⟨h1, h2⟩
        have := cov y h1
        rw [e2, List.mem_append] at this
        rcases this with h | h
        · exact h
        · exact absurd (List.mem_singleton.mp h) h2
    have inW : ∀ y ∈ (pre ++ [x]) ++ [l], y ∈ Ws := fun y hy => pr.sub y (by rw [e2]; exact hy)
    have nd3 := nd2.1
    rw [List.nodup_append] at nd3
    have rx : ∀ r ∈ pre, r ≠ x := fun r hr e => nd3.2.2 r hr x (by simp) e
    have rl : ∀ r ∈ pre, r ≠ l := fun r hr e => nd2.2.2 r (List.mem_append_left _ hr) l (by simp) e
    have w2 : ∀ u v, u ∈ Ws → u ≠ l → v ∈ Ws → v ≠ l → u ≠ v → vl0 nb'' wt'' u v = vl0 nb' wt' u v + (if u = x then vl0 nb' wt' l v else 0) + (if v = x then vl0 nb' wt' l u else 0) := fun u v hu hul hv hvl huv => by
      have huw := (mw u).mpr ⟨hu, hul⟩
      have hm := mg.mem u huw v
      have hvv := mg.val u huw v
      have s1 := ih.sy l hl u hu
      by_cases h : v ∈ nb'' u
      · have := hvv h
        unfold vl0 at this ⊢
        rw [if_pos h]
        exact this
      · have h2 : ¬ (v ∈ nb' u ∨ (u = x ∧ v ∈ nb' l) ∨ (v = x ∧ l ∈ nb' u)) := fun z => h (hm.mpr ⟨hvl, Ne.symm huv, z⟩)
        rw [not_or, not_or] at h2
        have z1 : vl0 nb'' wt'' u v = 0 := if_neg h
        have z2 : vl0 nb' wt' u v = 0 := if_neg h2.1
        have z3 : (if u = x then vl0 nb' wt' l v else 0) = 0 := by
          split
          · rename_i e
            exact if_neg fun z => h2.2.1 ⟨e, z⟩
          · rfl
        have z4 : (if v = x then vl0 nb' wt' l u else 0) = 0 := by
          split
          · rename_i e
            rw [s1]
            exact if_neg fun z => h2.2.2 ⟨e, z⟩
          · rfl
        rw [z1, z2, z3, z4]
        rfl
    have sy2 : ∀ u ∈ (Ws.filter fun y => decide (y ≠ l)), ∀ v ∈ (Ws.filter fun y => decide (y ≠ l)), vl0 nb'' wt'' u v = vl0 nb'' wt'' v u := vl0_sym mg.sym
    have cutM : ∀ S : Sd, S l = S x → cutW Ws (vl0 nb' wt') S = cutW (Ws.filter fun y => decide (y ≠ l)) (vl0 nb'' wt'') S := fun S hS => by
      rw [← cutW_perm pmD, ← cutW_perm pmF, e2]
      have pw : ∀ r ∈ pre, r ∈ Ws := fun r hr => inW r (List.mem_append_left _ (List.mem_append_left _ hr))
      refine cut_merge (fun u hu v hv => ih.sy u (inW u hu) v (inW v hv)) hS (fun u hu v hv huv => ?_) (fun r hr => ?_) (fun r hr => ?_)
      · rw [w2 u v (pw u hu) (rl u hu) (pw v hv) (rl v hv) huv, if_neg (rx u hu), if_neg (rx v hv)]
        omega
      · rw [w2 r x (pw r hr) (rl r hr) hx hne (rx r hr), if_neg (rx r hr), if_pos rfl, ih.sy l hl r (pw r hr)]
        omega
      · exact sy2 x ((mw x).mpr ⟨hx, hne⟩) r ((mw r).mpr ⟨pw r hr, rl r hr⟩)
    have gl : ∀ u, u ∈ (Ws.filter fun y => decide (y ≠ l)) → ∀ y, y ∈ grow grp x l u ↔ y ∈ grp u ∨ (u = x ∧ y ∈ grp l) := fun u hu y => by
      unfold grow
      by_cases e : u = x
      · subst e
        rw [if_pos rfl, List.mem_append]
        simp
      · rw [if_neg e]
        simp [e]
    have ncut : n = cutW Vs (vl0 nb wt) fun y => decide (y ∈ grp l) := by
      rw [ih.lift (fun y => decide (y ∈ grp l)) (fun u => decide (u = l)) fun u hu y hy => ?_]
      · rw [← cutW_perm pmD, e2, cutW_snoc fun q hq => ih.sy l hl q (inW q (List.mem_append_left _ hq)), en, conn_sm]
        have z1 : cutW (pre ++ [x]) (vl0 nb' wt') (fun u => decide (u = l)) = 0 := sm_zero fun u hu => sm_zero fun v hv => if_neg fun h => by
          have h1 : u = l := of_decide_eq_true h.1
          exact nd2.2.2 u hu l (by simp) h1
        rw [z1, Int.zero_add]
        unfold dif
        refine sm_congr fun q hq => ?_
        have hq2 : q ≠ l := fun e => nd2.2.2 q hq l (by simp) e
        exact (if_neg (by simp [hq2])).symm
      · by_cases e : u = l
        · subst e
          rw [decide_eq_true hy, decide_eq_true rfl]
        · rw [decide_eq_false e, decide_eq_false fun z => e (gs.dis u hu l hl y hy z)]
    refine ⟨ih.nd.filter _, fun y hy => ?_, fun u hu => ?_, fun S S' h => ?_, fun u hu v hv => ?_, sy2, fun S => ?_, fun a m h => ?_⟩
    · obtain ⟨u, hu, hyu⟩ := ih.part y hy
      by_cases e : u = l
      · subst e
        exact ⟨x, (mw x).mpr ⟨hx, hne⟩, (gl x ((mw x).mpr ⟨hx, hne⟩) y).mpr (.inr ⟨rfl, hyu⟩)⟩
      · exact ⟨u, (mw u).mpr ⟨hu, e⟩, (gl u ((mw u).mpr ⟨hu, e⟩) y).mpr (.inl hyu)⟩
    · have hu' := (mw u).mp hu
      unfold grow
      split
      · intro z
        exact ih.gne x hx (List.append_eq_nil_iff.mp z).1
      · exact ih.gne u hu'.1
    · have hS2 : ∀ u ∈ Ws, ∀ y ∈ grp u, S y = (fun v => if v = l then S' x else S' v) u := fun u hu y hy => by
        show S y = if u = l then S' x else S' u
        by_cases e : u = l
        · rw [if_pos e]
          rw [e] at hy
          exact h x ((mw x).mpr ⟨hx, hne⟩) y ((gl x ((mw x).mpr ⟨hx, hne⟩) y).mpr (.inr ⟨rfl, hy⟩))
        · rw [if_neg e]
          exact h u ((mw u).mpr ⟨hu, e⟩) y ((gl u ((mw u).mpr ⟨hu, e⟩) y).mpr (.inl hy))
      rw [ih.lift S _ hS2, cutM (fun v => if v = l then S' x else S' v) (by show (if l = l then S' x else S' l) = if x = l then S' x else S' x; rw [if_pos rfl, if_neg hne])]
      exact cutW_congr (fun _ _ _ _ _ => rfl) fun u hu => if_neg ((mw u).mp hu).2
    · by_cases e : u = v
      · subst e
        have := (mg.sym.mem u hu u)
        unfold vl0
        rw [if_neg fun z => (this z).2.1 rfl]
        exact Int.le_refl _
      · obtain ⟨u1, u2⟩ := (mw u).mp hu
        obtain ⟨v1, v2⟩ := (mw v).mp hv
        rw [w2 u v u1 u2 v1 v2 e]
        have a1 := ih.nn u u1 v v1
        have a2 := ih.nn l hl v v1
        have a3 := ih.nn l hl u u1
        split <;> split <;> omega
    · rcases ih.low S with ⟨S', hS'⟩ | ⟨a, m, e, ha⟩
      · by_cases hxl : S' x = S' l
        · refine .inl ⟨S', fun u hu y hy => ?_⟩
          rcases (gl u hu y).mp hy with h | ⟨rfl, h⟩
          · exact hS' u ((mw u).mp hu).1 y h
          · rw [hS' l hl y h, hxl]
        · refine .inr (better_le (.inl ?_))
          rw [ih.lift S S' hS', ← cutW_perm pmD, en, conn_sm]
          exact ma_last ih.nn ih.sy pr.nd (fun y hy => pr.sub y hy) (fun i y hy u hu hun => pr.best i y hy u hu hun) hxl
      · exact .inr (better_le (.inr ⟨a, m, e, ha⟩))
    · rcases better_is h with ⟨rfl, rfl⟩ | h
      · refine ⟨ncut, ih.gne l hl, fun y hy => gs.mem l hl y hy, ?_⟩
        obtain ⟨y, hy⟩ := List.exists_mem_of_ne_nil _ (ih.gne x hx)
        exact ⟨y, gs.mem x hx y hy, fun z => hne (gs.dis x hx l hl y hy z)⟩
      · exact ih.bst a m h
theorem LeastCut.least {Vs : List Str} {nb : Nb} {wt : Wt} {n : Int} {m : List Str} (lc : LeastCut Vs nb wt n m) (hV : Vs.Nodup) (sy : Sym Vs nb wt) (nn : ∀ u ∈ Vs, ∀ v ∈ Vs, 0 ≤ vl0 nb wt u v) :
    (n = cutW Vs (vl0 nb wt) (fun y => decide (y ∈ m)) ∧ m ≠ [] ∧ (∀ y ∈ m, y ∈ Vs) ∧ ∃ y ∈ Vs, y ∉ m) ∧ ∀ S : Sd, (∃ y ∈ Vs, S y = true) → (∃ y ∈ Vs, S y = false) → n ≤ cutW Vs (vl0 nb wt) S := by
  obtain ⟨Ws, nb', wt', grp, p, hl⟩ := lc
  have sw := p.sw hV sy nn
  refine ⟨sw.bst n m rfl, fun S ⟨y1, h1, g1⟩ ⟨y2, h2, g2⟩ => ?_⟩
  rcases sw.low S with ⟨S', hS'⟩ | ⟨a, m', e, ha⟩
  · obtain ⟨u1, k1, j1⟩ := sw.part y1 h1
    obtain ⟨u2, k2, j2⟩ := sw.part y2 h2
    have e : u1 = u2 := by
      match Ws, hl, k1, k2 with
      | [c], _, k1, k2 => rw [List.mem_singleton.mp k1, List.mem_singleton.mp k2]
    have q1 := hS' u1 k1 y1 j1
    have q2 := hS' u2 k2 y2 j2
    rw [← e] at q2
    rw [g1] at q1
    rw [g2, ← q1] at q2
    cases q2
  · cases e
    exact ha
end WkP
namespace WkP
open PySem WkN
end WkP
namespace WkP
open PySem WkN
def IsMin (Vs : List Str) (w : Wf) (m : Int) : Prop := (∀ S : Sd, (∃ y ∈ Vs, S y = true) → (∃ y ∈ Vs, S y = false) → m ≤ cutW Vs w S) ∧ ∃ S : Sd, (∃ y ∈ Vs, S y = true) ∧ (∃ y ∈ Vs, S y = false) ∧ cutW Vs w S = m
theorem IsMin.of_least {Vs : List Str} {nb : Nb} {wt : Wt} {n : Int} {m : List Str} (lc : LeastCut Vs nb wt n m) (hV : Vs.Nodup) (sy : Sym Vs nb wt) (nn : ∀ u ∈ Vs, ∀ v ∈ Vs, 0 ≤ vl0 nb wt u v) : IsMin Vs (vl0 nb wt) n := by
  obtain ⟨⟨en, mne, msub, mout⟩, least⟩ := lc.least hV sy nn
  obtain ⟨y, hy⟩ := List.exists_mem_of_ne_nil m mne
  obtain ⟨z, hz, hz2⟩ := mout
  exact ⟨least, fun y => decide (y ∈ m), ⟨y, msub y hy, decide_eq_true hy⟩, ⟨z, hz, decide_eq_false hz2⟩, en.symm⟩
end WkP
namespace WkEs
open PySem PySem.Spec PyProof.Rows L2
end WkEs
namespace WkEb
open PySem PySem.Spec PyProof.Rows L2 PySem.W
end WkEb
namespace Wk
open PySem PySem.Spec PyProof.Rows L2 WkD WkN LamX WkP WkE WkC
open PySem.W (EachIs)
abbrev vA : Str := "a"
abbrev vB : Str := "b"
abbrev vAB : List Str := [vA, vB]
theorem vAB_ne : vA ≠ vB := by decide
section
variable {nb nb2 : Nb} {wt wt2 : Wt} {n w : Int} {ms : List Str}
theorem two_link (h : vB ∈ nb vA) (k : vA ∈ nb vB) : Linked vAB nb := by
  refine ⟨by decide, fun s hs u hu => ?_⟩
  simp only [List.mem_cons, List.not_mem_nil, or_false] at hs hu
  rcases hs with rfl | rfl <;> rcases hu with rfl | rfl
  · exact .here
  · exact .go .here h
  · exact .go .here k
  · exact .here
theorem two_w (go : GOk vAB nb wt) (lc : LeastCut vAB nb wt n ms) (h : vB ∈ nb vA) : n = wt vA vB := by
  have nn : ∀ u ∈ vAB, ∀ v ∈ vAB, 0 ≤ vl0 nb wt u v := fun u hu v hv => by
    unfold vl0
    split
    · have := (go.wts u hu v ‹_›).1
      omega
    · exact Int.le_refl _
  have im := IsMin.of_least lc go.nd go.sym nn
  obtain ⟨S, ⟨y, hy, e1⟩, ⟨z, hz, e2⟩, e3⟩ := im.2
  have sA : vA ∈ vAB := by simp
  have hs := go.sym.mem vA sA vB h
  have eAB : vl0 nb wt vA vB = wt vA vB := by unfold vl0; rw [if_pos h]
  have eBA : vl0 nb wt vB vA = wt vA vB := by unfold vl0; rw [if_pos hs.2.2.1, hs.2.2.2]
  rw [← e3]
  unfold cutW
  simp only [sm_cons, sm_nil]
  simp only [List.mem_cons, List.not_mem_nil, or_false] at hy hz
  rcases hy with rfl | rfl <;> rcases hz with rfl | rfl
  · rw [e1] at e2
    cases e2
  · simp [e1, e2, eAB]
  · simp [e1, e2, eBA]
  · rw [e1] at e2
    cases e2
theorem two_set (h : SetW vAB nb wt vB vA w nb2 wt2) (hw : 0 < w) : vB ∈ nb2 vA ∧ vA ∈ nb2 vB ∧ wt2 vA vB = w := by
  have a : vA ∈ vAB := by simp
  have b : vB ∈ vAB := by simp
  have m1 : vB ∈ nb2 vA := (h.mem vA a vB).mpr (.inl ⟨.inr ⟨rfl, rfl⟩, hw⟩)
  have m2 : vA ∈ nb2 vB := (h.mem vB b vA).mpr (.inl ⟨.inl ⟨rfl, rfl⟩, hw⟩)
  refine ⟨m1, m2, ?_⟩
  rw [h.val vA a vB m1, if_pos (.inr ⟨rfl, rfl⟩)]
end
inductive Ent
  | set (w : Int)
  | back (k w : Int)
def EdT (H : Hp) (r : Addr) (w : Int) : Prop := H r = some (.tup [.str "set_weight", .str vB, .str vA, .int w])
def EntT (H : Hp) (r : Addr) : Ent → Prop
  | .set w => ∃ q, H r = some (.tup [.ref q, .int w]) ∧ EdT H q w
  | .back k w => ∃ q, H r = some (.tup [.ref q, .int w]) ∧ H q = some (.tup [.str "rollback", .int k])
def edD (w : Int) : PyData := .tuple [.str "set_weight", .str vB, .str vA, .int w]
def entD : Ent → PyData
  | .set w => .tuple [edD w, .int w]
  | .back k w => .tuple [.tuple [.str "rollback", .int k], .int w]
def nowW (M : List Int) : Int := M.getLast?.getD 5
def Lst98 (H : Hp) (a : Addr) (M : List Int) : Prop := ∃ rs : List Addr, H a = some (.lst (rs.map V.ref)) ∧ EachIs (EdT H) rs M
def Log98 (H : Hp) (a : Addr) (L : List Ent) : Prop := ∃ rs : List Addr, H a = some (.lst (rs.map V.ref)) ∧ EachIs (EntT H) rs L
structure Net98 (H : Hp) (x C : Addr) (M : List Int) (L : List Ent) (r c : Int) : Prop where
  ex : ∃ (m e : Addr) (nb : Nb) (wt : Wt) (t : Str) (rs : List Addr), NetO H x C [] vAB nb wt t (nowW M) m e r c ∧ H m = some (.tup (rs.map V.ref)) ∧ EachIs (EdT H) rs M ∧ Log98 H e L ∧ vB ∈ nb vA
def stO (ml ll : Addr) (wr : Bool) (ca fa : Int) : List (Key × V) := [(Sum.inr "made", .ref ml), (Sum.inr "log", .ref ll), (Sum.inr "wrong", .bl wr), (Sum.inr "caught", .int ca), (Sum.inr "fails", .int fa)]
def But3 (x p s : Addr) (H H' : Hp) : Prop := ∀ c o, H c = some o → c ≠ x → c ≠ p → c ≠ s → (∀ ps, o ≠ .tbl ps) → H' c = some o
def KeepT (H H' : Hp) : Prop := (∀ c xs, H c = some (.tup xs) → H' c = some (.tup xs)) ∧ ∀ c xs, H c = some (.lst xs) → H' c = some (.lst xs)
section
variable {H H' : Hp} {x p s C a : Addr} {M : List Int} {L : List Ent} {r c : Int}
theorem But3.refl : But3 x p s H H := fun _ _ h _ _ _ _ => h
theorem But3.trans {H2 : Hp} (a : But3 x p s H H') (b : But3 x p s H' H2) : But3 x p s H H2 := fun c o h h1 h2 h3 h4 => b c o (a c o h h1 h2 h3 h4) h1 h2 h3 h4
theorem KeepT.of {dx : Addr} {fs : List (Str × V)} {k1 k2 : List (Key × V)} (b : But3 x p s H H') (hx : H x = some (.ins C dx fs)) (hp : H p = some (.dK k1)) (hs : H s = some (.dK k2)) : KeepT H H' :=
  ⟨fun c xs h => b c _ h (ne_of h hx (by intro z; cases z)) (ne_of h hp (by intro z; cases z)) (ne_of h hs (by intro z; cases z)) (fun ps z => by cases z),
   fun c xs h => b c _ h (ne_of h hx (by intro z; cases z)) (ne_of h hp (by intro z; cases z)) (ne_of h hs (by intro z; cases z)) (fun ps z => by cases z)⟩
theorem KeepT.same (s : Same H H') : KeepT H H' := ⟨fun c xs h => s _ _ h, fun c xs h => s _ _ h⟩
theorem EdT.keep {q : Addr} {w : Int} (k : KeepT H H') (h : EdT H q w) : EdT H' q w := k.1 _ _ h
theorem EntT.keep {q : Addr} (k : KeepT H H') : ∀ {e : Ent}, EntT H q e → EntT H' q e
  | .set w, ⟨b, h1, h2⟩ => ⟨b, k.1 _ _ h1, k.1 _ _ h2⟩
  | .back j w, ⟨b, h1, h2⟩ => ⟨b, k.1 _ _ h1, k.1 _ _ h2⟩
theorem Lst98.keep (k : KeepT H H') (h : Lst98 H a M) : Lst98 H' a M := by
  obtain ⟨rs, h1, h2⟩ := h
  exact ⟨rs, k.2 _ _ h1, h2.mono fun _ _ h => h.keep k⟩
theorem Log98.keep (k : KeepT H H') (h : Log98 H a L) : Log98 H' a L := by
  obtain ⟨rs, h1, h2⟩ := h
  exact ⟨rs, k.2 _ _ h1, h2.mono fun _ _ h => h.keep k⟩
theorem edsD {rs : List Addr} : ∀ {M : List Int}, EachIs (EdT H) rs M → ∀ {K : PySem.W.Frag}, DpAll K H (rs.map V.ref) (M.map edD) := by
  induction rs with
  | nil => intro M h K; cases h; exact .nil
  | cons r rs ih =>
    intro M h K
    cases h with
    | cons h1 h2 => exact .cons (.tup (.inl (.inl h1)) (.cons (.str _) (.cons (.str _) (.cons (.str _) (.cons (.int _) .nil))))) (ih h2)
theorem entsD {rs : List Addr} : ∀ {L : List Ent}, EachIs (EntT H) rs L → ∀ {K : PySem.W.Frag}, DpAll K H (rs.map V.ref) (L.map entD) := by
  induction rs with
  | nil => intro L h K; cases h; exact .nil
  | cons r rs ih =>
    intro L h K
    cases h with
    | @cons _ e _ _ h1 h2 =>
      refine .cons ?_ (ih h2)
      cases e with
      | set w =>
        obtain ⟨q, a1, a2⟩ := h1
        exact .tup (.inl (.inl a1)) (.cons (.tup (.inl (.inl a2)) (.cons (.str _) (.cons (.str _) (.cons (.str _) (.cons (.int _) .nil))))) (.cons (.int _) .nil))
      | back k w =>
        obtain ⟨q, a1, a2⟩ := h1
        exact .tup (.inl (.inl a1)) (.cons (.tup (.inl (.inl a2)) (.cons (.str _) (.cons (.int _) .nil))) (.cons (.int _) .nil))
end
theorem edD_ok (w : Int) : (edD w).canLay0 = true ∧ (edD w).depth ≤ 3 := by
  have h1 : PyData.strOk ("set_weight" : Str) = true := by decide +kernel
  have h2 : PyData.strOk vA = true := by decide +kernel
  have h3 : PyData.strOk vB = true := by decide +kernel
  refine ⟨?_, ?_⟩
  · simp only [edD, PyData.canLay0, PyData.canLayAll0, h1, h2, h3, Bool.and_self]
  · simp [edD, PyData.depth, PyData.depthAll]
theorem entD_ok : ∀ e : Ent, (entD e).canLay0 = true ∧ (entD e).depth ≤ 4
  | .set w => by
    obtain ⟨h1, h2⟩ := edD_ok w
    refine ⟨?_, ?_⟩
    · simp only [entD, PyData.canLay0, PyData.canLayAll0, h1, Bool.and_self]
    · simp only [entD, PyData.depth, PyData.depthAll]
      omega
  | .back k w => by
    have h1 : PyData.strOk ("rollback" : Str) = true := by decide +kernel
    refine ⟨?_, ?_⟩
    · simp only [entD, PyData.canLay0, PyData.canLayAll0, h1, Bool.and_self]
    · simp [entD, PyData.depth, PyData.depthAll]
theorem lay_all {ds : List PyData} {D : Nat} (h : ∀ d ∈ ds, d.canLay0 = true ∧ d.depth ≤ D) : PyData.canLayAll0 ds = true ∧ PyData.depthAll ds ≤ D + 1 := by
  induction ds with
  | nil => exact ⟨rfl, Nat.zero_le _⟩
  | cons d ds ih =>
    obtain ⟨i1, i2⟩ := ih fun e he => h e (.tail _ he)
    obtain ⟨h1, h2⟩ := h d (.head _)
    constructor
    · simp [PyData.canLayAll0, h1, i1]
    · simp only [PyData.depthAll]
      omega
theorem shape_l {ds : List PyData} {D : Nat} (h : ∀ d ∈ ds, d.canLay0 = true ∧ d.depth ≤ D) (hD : D ≤ 50) : SeqAt.shaped (.list ds) = true ∧ SeqAt.shaped (.tuple ds) = true := by
  obtain ⟨h1, h2⟩ := lay_all h
  unfold SeqAt.shaped
  simp only [Bool.and_eq_true]
  refine ⟨⟨?_, ?_⟩, ⟨?_, ?_⟩⟩
  · simpa [PyData.canLay0] using h1
  · refine decide_eq_true ?_
    simp only [PyData.depth]
    omega
  · simpa [PyData.canLay0] using h1
  · refine decide_eq_true ?_
    simp only [PyData.depth]
    omega
end Wk
namespace Wk
open PySem PySem.Spec PyProof.Rows L2 WkD WkN LamX WkP WkE WkC
open PySem.W (EachIs)
section
variable {P : Program} {w : World} {K : PySem.W.Frag} {mg : Str → Option Value} {base : Heap}
structure All98 (T : List (Addr × Str)) (C : Addr) (H : Hp) (x p cs s : Addr) (N : Nat) (M : List Int) (L : List Ent) (r c ca fa : Int) : Prop where
  tb : Tabs T H
  pen : Pen H p cs N
  net : Net98 H x C M L r c
  st : ∃ ml ll, H s = some (.dK (stO ml ll false ca fa)) ∧ Lst98 H ml M ∧ Log98 H ll L
  ps : p ≠ s
  fm : M.length ≤ N
  fl : L.length ≤ N
theorem All98.mono {T : List (Addr × Str)} {C : Addr} {H : Hp} {x p cs s : Addr} {N N' : Nat} {M : List Int} {L : List Ent} {r c ca fa : Int} (a : All98 T C H x p cs s N M L r c ca fa) (h : N ≤ N') : All98 T C H x p cs s N' M L r c ca fa :=
  ⟨a.tb, a.pen.mono h, a.net, a.st, a.ps, Nat.le_trans a.fm h, Nat.le_trans a.fl h⟩
theorem Net98.keep {H H' : Hp} {x C : Addr} {M : List Int} {L : List Ent} {r c : Int} (n : Net98 H x C M L r c) (k : ∀ b o, H b = some o → (b = x ∨ ∃ o1 o2, o = .frz o1 o2) → H' b = some o) (kt : KeepT H H') : Net98 H' x C M L r c := by
  obtain ⟨m, e, nb, wt, t, rs, N, hm, hr, hl, hv⟩ := n.ex
  refine ⟨m, e, nb, wt, t, rs, ?_, kt.1 _ _ hm, hr.mono fun _ _ h => h.keep kt, hl.keep kt, hv⟩
  obtain ⟨dx, p, ad, hx, rz⟩ := N.ex
  obtain ⟨o, ht⟩ := rz.top
  refine ⟨⟨dx, p, ad, k _ _ hx (.inl rfl), ⟨o, k _ _ ht (.inr ⟨_, _, rfl⟩)⟩, fun u hu => ?_⟩, N.rst, N.asc, N.an, N.gok, N.lc, N.rt⟩
  obtain ⟨o2, h2⟩ := rz.row u hu
  exact ⟨o2, k _ _ h2 (.inr ⟨_, _, rfl⟩)⟩
theorem All98.same {T : List (Addr × Str)} {C : Addr} {H H' : Hp} {x p cs s : Addr} {N : Nat} {M : List Int} {L : List Ent} {r c ca fa : Int} (a : All98 T C H x p cs s N M L r c ca fa) (sm : Same H H') : All98 T C H' x p cs s N M L r c ca fa := by
  obtain ⟨ml, ll, h1, h2, h3⟩ := a.st
  exact ⟨a.tb.ext sm, a.pen.same sm, a.net.keep (fun b o h _ => sm _ _ h) (KeepT.same sm), ⟨ml, ll, sm _ _ h1, h2.keep (KeepT.same sm), h3.keep (KeepT.same sm)⟩, a.ps, a.fm, a.fl⟩
theorem All98.pn {T : List (Addr × Str)} {C : Addr} {H : Hp} {x p cs s : Addr} {N : Nat} {M : List Int} {L : List Ent} {r c ca fa : Int} (a : All98 T C H x p cs s N M L r c ca fa) : (∃ dx fs, H x = some (.ins C dx fs)) ∧ (∃ kvs, H p = some (.dK kvs)) ∧ (∃ kvs, H s = some (.dK kvs)) ∧ p ≠ x ∧ s ≠ x := by
  obtain ⟨m, e, nb, wt, t, rs, N, _⟩ := a.net.ex
  obtain ⟨dx, pp, ad, hx, rz⟩ := N.ex
  obtain ⟨⟨t', r', h1, _⟩, _⟩ := a.pen
  obtain ⟨ml, ll, h2, _⟩ := a.st
  exact ⟨⟨_, _, hx⟩, ⟨_, h1⟩, ⟨_, h2⟩, ne_of h1 hx (by intro z; cases z), ne_of h2 hx (by intro z; cases z)⟩
theorem All98.but {T : List (Addr × Str)} {C : Addr} {H H' : Hp} {x p cs s : Addr} {N N' : Nat} {M : List Int} {L : List Ent} {r c ca fa : Int} (a : All98 T C H x p cs s N M L r c ca fa) (b : But p H H') (P' : Pen H' p cs N') (h : N ≤ N') : All98 T C H' x p cs s N' M L r c ca fa := by
  obtain ⟨⟨dx, fs, hx⟩, ⟨k1, hp⟩, ⟨k2, hs⟩, px, sx⟩ := a.pn
  have kt : KeepT H H' := ⟨fun c xs h => b _ _ h (ne_of h hp (by intro z; cases z)), fun c xs h => b _ _ h (ne_of h hp (by intro z; cases z))⟩
  obtain ⟨ml, ll, h1, h2, h3⟩ := a.st
  refine ⟨tabs_but a.tb hp trivial b, P', a.net.keep (fun c o h ho => b _ _ h fun z => ?_) kt, ⟨ml, ll, b _ _ h1 (Ne.symm a.ps), h2.keep kt, h3.keep kt⟩, a.ps, Nat.le_trans a.fm h, Nat.le_trans a.fl h⟩
  rcases ho with ho | ⟨o1, o2, ho⟩
  · exact px (by rw [← z, ho])
  · rw [z, hp, ho] at h
    cases h
theorem But3.pen {H H' : Hp} {x p s : Addr} (b : But p H H') : But3 x p s H H' := fun c o h _ h2 _ _ => b c o h h2
theorem But3.same {H H' : Hp} {x p s : Addr} (b : Same H H') : But3 x p s H H' := fun c o h _ _ _ _ => b c o h
theorem each_app98 {α β : Type} {R : α → β → Prop} : ∀ {as as' : List α} {bs bs' : List β}, EachIs R as bs → EachIs R as' bs' → EachIs R (as ++ as') (bs ++ bs')
  | _, _, _, _, .nil, h => h
  | _, _, _, _, .cons h t, k => .cons h (each_app98 t k)
theorem pen_keep98 {H H' : Hp} {x C dx p cs : Addr} {fs : List (Str × V)} {N : Nat} (P : Pen H p cs N) (hx : H x = some (.ins C dx fs)) (k : ∀ c o, H c = some o → c ≠ x → (∀ ps, o ≠ .tbl ps) → H' c = some o) : Pen H' p cs N := by
  obtain ⟨⟨t, r, h1, h2⟩, ns, h3, h4⟩ := P
  exact ⟨⟨t, r, k _ _ h1 (ne_of h1 hx (by intro z; cases z)) (fun ps z => by cases z), h2⟩, ns, k _ _ h3 (ne_of h3 hx (by intro z; cases z)) (fun ps z => by cases z), h4⟩
def spSet98 (K : PySem.W.Frag) (T : List (Addr × Str)) (C : Addr) : Sp := fun vs H Q _ => ∃ (x p cs s : Addr) (N : Nat) (M : List Int) (L : List Ent) (r c ca fa : Int), vs = [.ref p, .ref x, .ref s] ∧ All98 T C H x p cs s N M L r c ca fa ∧ N + 1 < 900000 ∧
  ∀ w H', But3 x p s H H' → All98 T C H' x p cs s (N + 1) (M ++ [w]) (L ++ [.set w]) r (c + 1) ca fa → Q .non H'
theorem sc_set98 : FnScope ["_law_pen_here", "_law_own", "_law_state", "_law_edit"] ["_law_pen_here", "_law_own", "_law_state"] (defScope s_L_set) := ⟨rfl, rfl, rfl, by decide +kernel, rfl, by decide +kernel, by decide +kernel⟩
theorem c_set98 {C fA : Addr} {tbT : List (Addr × Str)} (D : Def K mg "_law_set" s_L_set) (LC : LogC K C fA) (SW : MethC P w K mg base (CX P w) C "set_weight" 8 (spSetWL K tbT C)) (C_draw : Callee P w K mg base CX0 1 "_law_draw" ["_law_pen_here", "_law_many"] spDraw) :
    Callee P w K mg base (CX P w) 9 "_law_set" ["_law_pen_here", "_law_own", "_law_state"] (spSet98 K tbT C) := by
  obtain ⟨f, fd, F, gg⟩ := D
  refine ⟨f, fd, F.ok sc_set98 (fun vs H Q E h => ?_) (fun cdv A outer s H vs Q E hr h => ?_), gg, F.kp, F.bindsN (fun _ _ _ _ _ _ us hl => match us, hl with | [_, _, _], _ => rfl)⟩
  · obtain ⟨x, p, cs, s, N, M, L, r, c, ca, fa, rfl, _⟩ := h
    rfl
  have hu := hu_of hr
  have nd := sc_set98.nd
  have hr8 : Room 8 _ := hr
  have hr1 : Room 1 _ := hr.mono (by decide)
  refine ⟨_, (pss_cons (ps_set (i := 3) nd rfl (Or.inl rfl) (pe_tup (pa_cons pe_str (pa_cons pe_str (pa_cons pe_str (pa_cons (pe_op op_add pe_int (pe_c C_draw hr1 pass0 (pa_cons (pv 0) (pa_cons (pe_op op_pow pe_int pe_int) pa_nil)))) pa_nil))))))
      (pss_cons (ps_expr (WkC.pe_mt SW LC.f.cls hr8 (passes_call (takes_of rfl rfl rfl rfl) fun _ _ _ _ h => h) (pv 1) (pa_cons pe_str (pa_cons pe_str (pa_cons (pe_ix ix_tup (pv 3) pe_int (fun _ _ => rfl)) pa_nil)))))
      (pss_cons (ps_dput hu (pv 2) pe_str (pe_op op_cat (pe_dget hu (pv 2) pe_str (fun _ _ => rfl)) (pe_lst (pa_cons (pv 3) pa_nil))) rfl)
      (pss_one (ps_dput hu (pv 2) pe_str (pe_op op_cat (pe_dget hu (pv 2) pe_str (fun _ _ => rfl)) (pe_lst (pa_cons (pe_tup (pa_cons (pv 3) (pa_cons (pe_ix ix_tup (pv 3) pe_int (fun _ _ => rfl)) pa_nil))) pa_nil))) rfl))))), ?_⟩
  obtain ⟨x, p, cs, s, N, M, L, r, c, ca, fa, rfl, S, hN, k⟩ := h
  refine ⟨_, rfl, _, _, rfl, rfl, ⟨by decide, by decide, by decide⟩, p, cs, _, N, rfl, by decide, by decide, S.pen, by omega, fun d H1 d0 d1 b1 P1 => ?_⟩
  have d1 : d < 1000000000 := d1
  have S1 := S.but b1 P1 (Nat.le_succ _)
  refine ⟨_, _, rfl, rfl, by show 4 ≤ sizeLine; decide, fun p2 n2 => ?_⟩
  generalize gg2 : upd _ p2 _ = G2; obtain ⟨s2, L2⟩ := new_eq n2 gg2; clear gg2
  have S2 := S1.same s2
  have hed2 : EdT G2 p2 (1 + d) := L2
  have B2 : But3 x p s H G2 := (But3.pen b1).trans (But3.same s2)
  clear s2 L2 S1 P1 b1
  obtain ⟨m, e, nb, wt, t, rs, NO, hm, hrs, ⟨es, hes, hlog⟩, hbn⟩ := id S2.net.ex
  obtain ⟨dx, pp, ad, hx, rz⟩ := id NO.ex
  have go := NO.gok
  have aV : vA ∈ vAB := by simp
  have bV : vB ∈ vAB := by simp
  have hab := go.sym.mem vA aV vB hbn
  have lrs : rs.length = M.length := hrs.length
  have les : es.length = L.length := hlog.length
  have fM := S.fm
  have fL := S.fl
  refine ⟨_, rfl, x, dx, _, rfl, hx, rfl, _, rfl, p2, _, _, _, rfl, rfl, .inl (.inl hed2), rfl, ?_⟩
  refine ⟨x, vB, vA, 1 + d, [], t, nowW M, m, e, r, c, _, _, vAB, nb, wt, rfl, NO, .inl (.inl hm), by rw [List.length_map]; omega, hes, by rw [List.length_map]; omega, S2.tb, bV, aV, Ne.symm vAB_ne, by omega, by omega, fun nb2 wt2 sw => ?_, fun nb' wt' n' m' e' ed q H3 k3 T3 N3 hm3 hed3 he3 hq3 sw => ?_⟩
  · obtain ⟨z1, z2, _⟩ := two_set sw (by omega)
    exact two_link z1 z2
  obtain ⟨z1, z2, z3⟩ := two_set sw (by omega)
  obtain ⟨ms3, lc3⟩ := N3.lc
  have en : n' = 1 + d := by rw [two_w N3.gok lc3 z1, z3]
  rw [en] at N3 hq3
  obtain ⟨⟨_, _, hx2⟩, ⟨k1, hp2⟩, ⟨k2, hs2⟩, px, sx⟩ := S2.pn
  have kt : KeepT G2 H3 := ⟨fun c xs h => k3 _ _ h (ne_of h hx2 (by intro z; cases z)) (fun ps z => by cases z), fun c xs h => k3 _ _ h (ne_of h hx2 (by intro z; cases z)) (fun ps z => by cases z)⟩
  obtain ⟨ml, ll, hst, hml, hll⟩ := S2.st
  have P3 : Pen H3 p cs (N + 1) := pen_keep98 S2.pen hx2 k3
  have hs3 := k3 _ _ hst sx (fun ps z => by cases z)
  have B3 : But3 x p s H H3 := B2.trans fun c o h h1 _ _ h4 => k3 c o h h1 h4
  obtain ⟨ra, hra, hra2⟩ := id (hml.keep kt)
  obtain ⟨rb, hrb, hrb2⟩ := id (hll.keep kt)
  have lra : ra.length = M.length := hra2.length
  have lrb : rb.length = L.length := hrb2.length
  have big : 10000000 < sizeLine := by decide
  have hed : EdT H3 p2 (1 + d) := hed2.keep kt
  refine ⟨_, rfl, s, .ref ml, rfl, .inl ⟨_, Sum.inr "made", .inl hs3, rfl, rfl⟩, _, rfl, by show 1 ≤ sizeLine; decide, fun p4 n4 => ?_⟩
  generalize gg4 : upd _ p4 _ = G4; obtain ⟨s4, L4⟩ := new_eq n4 gg4; clear gg4
  refine ⟨ml, p4, _, _, rfl, rfl, s4 _ _ hra, L4, by rw [List.length_map]; show ra.length + 1 ≤ sizeLine; omega, fun p5 n5 => ?_⟩
  generalize gg5 : upd _ p5 _ = G5; obtain ⟨s5, L5⟩ := new_eq n5 gg5; clear gg5
  have s35 := s4.trans s5
  have hs5 := s35 _ _ hs3
  refine ⟨_, rfl, s, _, rfl, .inl ⟨_, Sum.inr "made", hs5, rfl, by show 5 < sizeLine; omega, rfl⟩, ?_⟩
  have e6 : (HO.dK (putK (stO ml ll false ca fa) (Sum.inr "made" : Key) (.ref p5))) = .dK (stO p5 ll false ca fa) := rfl
  rw [e6]
  generalize gg : upd G5 s (.dK (stO p5 ll false ca fa)) = G6
  have h6 : G6 s = some (.dK (stO p5 ll false ca fa)) := by rw [← gg, upd_same]
  have k6 : ∀ c o, G5 c = some o → c ≠ s → G6 c = some o := fun c o h hc => by rw [← gg, upd_ne hc]; exact h
  clear gg
  have kt5 := KeepT.same s35
  have kt6 : KeepT G5 G6 := ⟨fun c xs h => k6 _ _ h (ne_of h hs5 (by intro z; cases z)), fun c xs h => k6 _ _ h (ne_of h hs5 (by intro z; cases z))⟩
  have hrb6 := kt6.2 _ _ (s35 _ _ hrb)
  have hed6 : EdT G6 p2 (1 + d) := (hed.keep kt5).keep kt6
  have L56 := kt6.2 _ _ L5
  refine ⟨_, rfl, s, .ref ll, rfl, .inl ⟨_, Sum.inr "log", .inl h6, rfl, rfl⟩, _, rfl, _, rfl, p2, _, _, _, rfl, rfl, .inl (.inl hed6), rfl, by show 2 ≤ sizeLine; decide, fun p7 n7 => ?_⟩
  generalize gg7 : upd _ p7 _ = G7; obtain ⟨s7, L7⟩ := new_eq n7 gg7; clear gg7
  refine ⟨by show 1 ≤ sizeLine; decide, fun p8 n8 => ?_⟩
  generalize gg8 : upd _ p8 _ = G8; obtain ⟨s8, L8⟩ := new_eq n8 gg8; clear gg8
  refine ⟨ll, p8, _, _, rfl, rfl, s8 _ _ (s7 _ _ hrb6), L8, by rw [List.length_map]; show rb.length + 1 ≤ sizeLine; omega, fun p9 n9 => ?_⟩
  generalize gg9 : upd _ p9 _ = G9; obtain ⟨s9, L9⟩ := new_eq n9 gg9; clear gg9
  have s69 := (s7.trans s8).trans s9
  have hs9 := s69 _ _ h6
  refine ⟨_, rfl, s, _, rfl, .inl ⟨_, Sum.inr "log", hs9, rfl, by show 5 < sizeLine; omega, rfl⟩, ?_⟩
  have e10 : (HO.dK (putK (stO p5 ll false ca fa) (Sum.inr "log" : Key) (.ref p9))) = .dK (stO p5 p9 false ca fa) := rfl
  rw [e10]
  generalize gg : upd G9 s (.dK (stO p5 p9 false ca fa)) = G10
  have h10 : G10 s = some (.dK (stO p5 p9 false ca fa)) := by rw [← gg, upd_same]
  have k10 : ∀ c o, G9 c = some o → c ≠ s → G10 c = some o := fun c o h hc => by rw [← gg, upd_ne hc]; exact h
  clear gg
  have kt10 : KeepT G9 G10 := ⟨fun c xs h => k10 _ _ h (ne_of h hs9 (by intro z; cases z)), fun c xs h => k10 _ _ h (ne_of h hs9 (by intro z; cases z))⟩
  have kt9 := KeepT.same s69
  have kAll : ∀ c o, H3 c = some o → c ≠ s → G10 c = some o := fun c o h hc => k10 _ _ (s69 _ _ (k6 _ _ (s35 _ _ h) hc)) hc
  have ktA : KeepT H3 G10 := ⟨fun c xs h => kAll _ _ h (ne_of h hs3 (by intro z; cases z)), fun c xs h => kAll _ _ h (ne_of h hs3 (by intro z; cases z))⟩
  have q7 : G10 p7 = some (.tup [.ref p2, .int (1 + d)]) := kt10.1 _ _ (s9 _ _ (s8 _ _ L7))
  refine k (1 + d) G10 (fun c o h h1 h2 h3 h4 => kAll _ _ (B3 c o h h1 h2 h3 h4) h3) ⟨?_, ?_, ?_, ⟨p5, p9, h10, ?_, ?_⟩, S.ps, ?_, ?_⟩
  · exact tabs_but T3 hs3 trivial kAll
  · obtain ⟨⟨t', r', h1, h2⟩, ns, h3, h4⟩ := P3
    exact ⟨⟨t', r', kAll _ _ h1 S.ps, h2⟩, ns, ktA.2 _ _ h3, h4⟩
  · have N3' : Net98 H3 x C (M ++ [1 + d]) (L ++ [.set (1 + d)]) r (c + 1) := by
      refine ⟨m', e', nb', wt', t, rs ++ [ed], ?_, by rw [List.map_append]; exact hm3, ?_, ⟨es ++ [q], by rw [List.map_append]; exact he3, ?_⟩, z1⟩
      · have en2 : nowW (M ++ [1 + d]) = 1 + d := by unfold nowW; rw [List.getLast?_append]; rfl
        rw [en2]
        exact N3
      · exact each_app98 (hrs.mono fun _ _ h => h.keep kt) (.cons hed3 .nil)
      · exact each_app98 (hlog.mono fun _ _ h => h.keep kt) (.cons ⟨ed, hq3, hed3⟩ .nil)
    refine N3'.keep (fun b o hb ho => kAll _ _ hb fun z => ?_) ktA
    rcases ho with ho | ⟨o1, o2, ho⟩
    · exact sx (by rw [← z, ho])
    · rw [z, hs3, ho] at hb
      cases hb
  · refine ⟨ra ++ [p2], by rw [List.map_append]; exact kt10.2 _ _ (s69 _ _ L56), ?_⟩
    exact each_app98 (hra2.mono fun _ _ h => h.keep ktA) (.cons (hed.keep ktA) .nil)
  · refine ⟨rb ++ [p7], by rw [List.map_append]; exact kt10.2 _ _ L9, ?_⟩
    exact each_app98 (hrb2.mono fun _ _ h => h.keep ktA) (.cons ⟨p2, q7, hed.keep ktA⟩ .nil)
  · rw [List.length_append]
    show M.length + 1 ≤ N + 1
    omega
  · rw [List.length_append]
    show L.length + 1 ≤ N + 1
    omega
end
end Wk
namespace Wk
open PySem PySem.Spec PyProof.Rows L2 WkD WkN LamX WkP WkE WkC
section
variable {P : Program} {w : World} {K : PySem.W.Frag} {mg : Str → Option Value} {base : Heap}
def spFound (C : Addr) : Sp := fun vs H Q _ => ∃ (x m e : Addr) (rest : List (Str × V)) (vs0 : List Str) (nb : Nb) (wt : Wt) (t : Str) (n r s : Int), vs = [.ref x] ∧ NetO H x C rest vs0 nb wt t n m e r s ∧ Q (.int n) H
theorem sc_pstrength : FnScope ["self"] ["self"] (defScope s_Network_strength) := ⟨rfl, rfl, rfl, by decide +kernel, rfl, by decide +kernel, by decide +kernel⟩
theorem ok_pstrength {f C : Addr} {fd : FuncData} (F : FnP K "strength" "Network.strength" s_Network_strength f fd) (fc : FCls K C) : FnOk P w K mg base CX0 1 f fd ["self"] (spFound C) := by
  refine F.ok sc_pstrength (fun vs H Q E h => ?_) (fun cdv A outer s H vs Q E hr h => ?_)
  · obtain ⟨x, m, e, rest, vs0, nb, wt, t, n, r, s, rfl, _⟩ := h
    rfl
  refine ⟨_, PSs.nox (pss_one (ps_ret (pe_fld (pv 0) rfl))), ?_⟩
  obtain ⟨x, m, e, rest, vs0, nb, wt, t, n, r, s, rfl, N, k⟩ := h
  obtain ⟨dx, p, ad, hx, rz⟩ := N.ex
  exact ⟨_, rfl, x, C, dx, _, _, rfl, hx, fc.cls, fc.nf, rfl, k⟩
end
end Wk
namespace PySem
open Sem (wp)
section
variable {prog : Program} {w : World} {A : Around} {R : GenEnd} {Y : Protocol} {n : Nat} {s₀ : Shared} {c : Code} {fs : List Frame} {s : Shared} {env : Env}
  {K : Flow → Sem Fin} {H : Value → Sem Fin} {gd : Bool → Bool} {lv : List Value → List Value}
end
end PySem

namespace L2
open PySem PySem.Spec PyProof.Rows GenW
section
variable {X : Cx}
end
end L2
namespace LiI
open PySem PySem.Spec PyProof.Rows L2
section
variable {X : Cx} {e : Expr} {te : TE} {p apos cpos pos : Pos}
end
end LiI
namespace L2
open PySem PySem.Spec PyProof.Rows
end L2
namespace Wk
open PySem PySem.Spec PyProof.Rows L2 WkD WkN LamX WkP WkE WkC
section
variable {P : Program} {w : World} {K : PySem.W.Frag} {mg : Str → Option Value} {base : Heap}
structure NArg (K : PySem.W.Frag) (H : Hp) (g C dx : Addr) (fs : List (Str × V)) (a : Addr) (top : Str) (Vs : List Str) (ad : Str → Addr) (nb : Nb) (wt : Wt) : Prop where
  g : GAt K H g C dx fs a top
  lk : fs.lookup ("check_vertex" : Str) = none
  r : RowsZ H a Vs ad nb wt
  nm : ∀ u ∈ Vs, nameB u = true
  few : ∀ u ∈ Vs, (nb u).length ≤ 1000
theorem NArg.ext {H H' : Hp} {g C dx : Addr} {fs : List (Str × V)} {a : Addr} {top : Str} {Vs : List Str} {ad : Str → Addr} {nb : Nb} {wt : Wt} (h : NArg K H g C dx fs a top Vs ad nb wt) (s : Ext H H') : NArg K H' g C dx fs a top Vs ad nb wt := ⟨h.g.ext s, h.lk, h.r.ext s, h.nm, h.few⟩
theorem NArg.same {H H' : Hp} {g C dx : Addr} {fs : List (Str × V)} {a : Addr} {top : Str} {Vs : List Str} {ad : Str → Addr} {nb : Nb} {wt : Wt} (h : NArg K H g C dx fs a top Vs ad nb wt) (s : Same H H') : NArg K H' g C dx fs a top Vs ad nb wt := h.ext (Ext.of s)
theorem anyv_s {H H' : Hp} {x : V} (h : AnyV K H x) (s : Same H H') : AnyV K H' x := by
  rcases h with h | ⟨h1, t, h2, h3⟩
  · exact .inl h
  · exact .inr ⟨h1, t, tyx_same s h2, h3⟩
def spGW (K : PySem.W.Frag) (C CU : Addr) : Sp := fun vs H Q E => ∃ (g dx : Addr) (fs : List (Str × V)) (a : Addr) (top : Str) (Vs : List Str) (ad : Str → Addr) (nb : Nb) (wt : Wt) (x y : V), vs = [.ref g, x, y] ∧ NArg K H g C dx fs a top Vs ad nb wt ∧ AnyV K H x ∧ AnyV K H y ∧
  (¬ IsIn x Vs → ∀ d H', Same H H' → H d = none → H' d = some (.xd [("value", x)]) → E (.ref CU) (some d) H') ∧
  (IsIn x Vs → ¬ IsIn y Vs → ∀ d H', Same H H' → H d = none → H' d = some (.xd [("value", y)]) → E (.ref CU) (some d) H') ∧
  (∀ u v, x = .str u → y = .str v → u ∈ Vs → v ∈ Vs → ∀ H', Same H H' → Q (.int (if v ∈ nb u then wt u v else 0)) H')
theorem sc_g_weight : FnScope ["self", "u", "v", "vertex"] ["self", "u", "v"] (defScope s_Graph_weight) := ⟨rfl, rfl, rfl, by decide +kernel, rfl, by decide +kernel, by decide +kernel⟩
theorem ok_g_weight {f C CU : Addr} {fd : FuncData} (F : FnP K "weight" "Graph.weight" s_Graph_weight f fd) (NK : FCls K C) (CV : MethC P w K mg base (CX P w) C "check_vertex" 2 (spCheck K CU)) : FnOk P w K mg base (CX P w) 3 f fd ["self", "u", "v"] (spGW K C CU) := by
  refine F.ok sc_g_weight (fun vs H Q E h => ?_) (fun cdv A outer s H vs Q E hr h => ?_)
  · obtain ⟨g, dx, fs, a, top, Vs, ad, nb, wt, x, y, rfl, _⟩ := h
    rfl
  have hu := hu_of hr
  have nd := sc_g_weight.nd
  have hr2 : Room 2 _ := hr
  refine ⟨_, (pss_cons (ps_for (passes_of rfl) rfl (pi_tup (pe_tup (pa_cons (pv 1) (pa_cons (pv 2) pa_nil)))) (pg_name (i := 3) nd rfl (Or.inl rfl))
      (pss_one (ps_expr (WkC.pe_mt CV NK.cls hr2 (passes_call (takes_of rfl rfl rfl rfl) fun _ _ _ _ h => h) (pv 0) (pa_cons (pv 3) pa_nil)))))
      (pss_one (ps_ret (pe_dget2 hu (pe_dget hu (pe_fld (pv 0) rfl) (pv 1) (fun _ _ => rfl)) (pv 2) pe_int ⟨rfl, rfl, rfl, rfl⟩)))), ?_⟩
  obtain ⟨g, dx, fs, a, top, Vs, ad, nb, wt, x, y, rfl, A, ax, ay, kU, kV', k⟩ := h
  have big : 1000 < sizeLine := by decide
  refine ⟨_, rfl, _, rfl, by show 2 ≤ sizeLine; omega, fun p1 n1 => ?_⟩
  generalize gg1 : upd _ p1 _ = G1; obtain ⟨s1, L1⟩ := new_eq n1 gg1; clear gg1
  refine ⟨p1, rfl, ⟨_, .inl (.inl L1)⟩, ?_⟩
  refine for_it (walk_tup (xs := [x, y])) (fun i σ Hc => ∃ x4 : Option V, σ = [some (.ref g), some x, some y, x4] ∧ Same H Hc ∧ Hc p1 = some (.tup [x, y]) ∧ (1 ≤ i → IsIn x Vs) ∧ (2 ≤ i → IsIn y Vs)) ⟨none, rfl, s1, L1, fun h => by omega, fun h => by omega⟩ ?_ ?_ ?_
  · rintro i σ Hc hi ⟨x4, rfl, c1, c2, c3, c4⟩
    exact .inl (.inl c2)
  · rintro i z σ Hc Hc' hi ⟨x4, rfl, c1, c2, c3, c4⟩ ⟨rfl, hy⟩
    have Ac := A.same c1
    have hi2 : i = 0 ∨ i = 1 := by
      simp at hi
      omega
    rcases hi2 with rfl | rfl
    · have ey : z = x := by simpa using hy.symm
      subst ey
      refine ⟨_, rfl, g, dx, fs, rfl, Ac.g.ins, A.lk, _, rfl, g, C, dx, fs, a, top, Vs, ad, nb, wt, z, rfl, Ac.g, Ac.r, A.nm, anyv_s ax c1, fun hin H2 s2 => ?_, fun hno d H2 s2 nd_ hd => kU hno d H2 (c1.trans s2) (np_of c1 nd_) hd⟩
      exact ⟨_, rfl, c1.trans s2, s2 _ _ c2, fun _ => hin, fun h => by omega⟩
    · have ey : z = y := by simpa using hy.symm
      subst ey
      refine ⟨_, rfl, g, dx, fs, rfl, Ac.g.ins, A.lk, _, rfl, g, C, dx, fs, a, top, Vs, ad, nb, wt, z, rfl, Ac.g, Ac.r, A.nm, anyv_s ay c1, fun hin H2 s2 => ?_, fun hno d H2 s2 nd_ hd => kV' (c3 (by omega)) hno d H2 (c1.trans s2) (np_of c1 nd_) hd⟩
      exact ⟨_, rfl, c1.trans s2, s2 _ _ c2, fun _ => c3 (by omega), fun _ => hin⟩
  · rintro σ H2 ⟨x4, rfl, s2, _, c3, c4⟩
    obtain ⟨u, hu_, rfl⟩ := c3 (by show 1 ≤ 2; decide)
    obtain ⟨v, hv_, rfl⟩ := c4 (by show 2 ≤ 2; decide)
    have A2 := A.same s2
    have R2 := A2.r
    refine ⟨_, rfl, g, C, dx, _, _, rfl, A2.g.ins, A2.g.cls, A2.g.na, A2.g.la, _, rfl, a, _, rfl, get_d R2.r.top hu_, _, rfl, .inl ⟨_, R2.r.row u hu_⟩, _, rfl, _, get_x (R2.r.row u hu_), ?_⟩
    · have e : (if v ∈ nb u then some (V.int (wt u v)) else none).getD (.int 0) = .int (if v ∈ nb u then wt u v else 0) := by
        split <;> rfl
      rw [e]
      exact k u v rfl rfl hu_ hv_ H2 s2
end
end Wk
namespace PySem.SeqAt
open MeetsSeq PyProof.Rows PySem.W
section
variable {prog : Program} {w : World} {A : Around} {E : Value → Shared → Prop} {s : Shared}
end
end PySem.SeqAt
namespace PySem.W
open PySem PySem.Calls PyProof.Rows
section
variable {prog : Program} {w : World} {A : Around} {E : Value → Shared → Prop} {s : Shared}
end
end PySem.W
namespace WkD
open PySem PySem.Spec PyProof.Rows L2 PySem.W
section
variable {X : Cx}
end
end WkD
namespace WkP
open PySem WkN
end WkP
namespace WkP
open PySem WkN
def memB (l : List Str) : Sd := fun v => decide (v ∈ l)
end WkP
namespace WkMn
open PySem PySem.Spec PyProof.Rows L2 LamX WkL
open PySem.W (EachIs)
section
variable {X : Cx} {pins : List (Addr × Obj)} {σ : L2.St} {H : Hp} {s : Shared}
end
end WkMn
namespace WkP
open PySem WkN WkD
end WkP
namespace WkP
open PySem WkN WkD
open PySem.W (dataLe keyToks keyToksAll EachIs)
def IsW (Vs : List Str) (rt : Str) (w : Wf) (n : Int) (S : List Str) : Prop := Asc S ∧ (∀ v ∈ S, v ∈ Vs) ∧ rt ∉ S ∧ S ≠ [] ∧ cutW Vs w (fun u => !memB S u) = n
end WkP
namespace WkP
open PySem WkN WkD
open PySem.W (dataLe keyToks keyToksAll EachIs)
def Con (X : Nat → Nat → Prop) (f : List Nat) : Prop := f ≠ [] ∧ ∀ k x, 0 < k → f[k]? = some x → ∃ j y, j < k ∧ f[j]? = some y ∧ X y x
end WkP
namespace WkP
open PySem PySem.Spec PyProof.Rows L2 WkN WkD
open PySem.W (EachIs)
section
variable {κ : Type} [DecidableEq κ] {f : κ → List Key} {ks : List κ} {g g' : κ → V} {a : κ} {x : V}
def dctT (f : κ → List Key) (ks : List κ) (g : κ → V) : List (List Key × V) := ks.map fun S => (f S, g S)
variable (hf : ∀ a b, f a = f b → a = b)
include hf
theorem dctT_val : ∀ {ks : List κ}, valV (dctT f ks g) (f a) = if a ∈ ks then some (g a) else none
  | [] => by
    rw [if_neg (by simp)]
    rfl
  | k :: ks => by
    show valV ((f k, g k) :: dctT f ks g) (f a) = _
    by_cases h : k = a
    · subst h
      rw [valV_pos rfl, if_pos (by simp)]
    · rw [valV_neg (fun z => h (hf _ _ z)), dctT_val]
      by_cases hm : a ∈ ks
      · rw [if_pos hm, if_pos (List.mem_cons_of_mem _ hm)]
      · rw [if_neg hm, if_neg (fun z => (List.mem_cons.mp z).elim (fun e => h e.symm) hm)]
theorem getT {H : Hp} {d b : Addr} (h : Rd H d (.dT (dctT f ks g))) (hb : H b = some (.tup ((f a).map kV))) : DGet H d (.ref b) (if a ∈ ks then some (g a) else none) :=
  .inr ⟨_, f a, b, h, rfl, hb, (dctT_val hf).symm⟩
end
end WkP
namespace WkP
open PySem WkD
section
variable {l : List Str} {w : Wf} {lam : Str → Str → Int}
open Classical in
end
end WkP
namespace WkP
open PySem WkN WkD
end WkP
namespace WkP
open PySem PySem.Spec PyProof.Rows L2 WkN WkD
open PySem.W (EachIs)
section
variable {κ : Type} [DecidableEq κ] {mk : Str → κ} {l : List Str} {u : Str} {m : κ}
end
end WkP
namespace WkP
open PySem PySem.Spec PyProof.Rows L2 PySem.W WkD
section
variable {X : Cx}
end
end WkP
namespace WkV
open PySem PySem.Spec PyProof.Rows L2 WkD WkN
theorem cutV_one {ys : List V} : cutV ys (some 1) none = ys.tail := by
  unfold cutV
  rw [HT.sIx_none, show (1 : Int) = ((1 : Nat) : Int) from rfl, HT.sIx_nat]
  cases ys with
  | nil => rfl
  | cons y ys =>
    simp
section
variable {X : Cx} {o : Expr} {p pos apos mpos : Pos} {td : TE}
end
end WkV
namespace WkV
open PySem PySem.Spec PyProof.Rows L2 WkD WkN WkC
section
variable (P : Program) (w : World) (K : PySem.W.Frag) (mg : Str → Option Value) (base : Heap)
end
section
variable {X : Cx} {CX : CXT} {C : Addr} {f x m : Str} {k : Nat} {sp : Sp} {E : XK} {e : Expr} {es : List Expr} {ta : TE} {t : TA} {p pos apos : Pos} {dvs : List V}
end
end WkV
namespace WkI
open PySem PySem.Spec PyProof.Rows L2
section
variable {X : Cx} {pins : List (Addr × Obj)} {σ : L2.St} {H : Hp} {s : Shared} {d : Addr} {o : Obj}
end
section
variable {P : Program} {w : World} {K : PySem.W.Frag} {d : Addr} {o : Obj} {es : Array DictEntry} {ep : Nat}
end
section
variable {X : Cx} {tg e : Expr} {td : TE} {apos cpos : Pos}
end
end WkI
namespace WkI
open PySem PySem.Spec PyProof.Rows L2
section
variable {X : Cx}
end
end WkI
namespace WkDs
open PySem PySem.Spec PyProof.Rows L2
section
variable {X : Cx} {pins : List (Addr × Obj)} {σ : L2.St} {H : Hp} {s : Shared} {a : Addr} {y v : V} {u r : Value} {A : Around} {E : Value → Shared → Prop}
end
section
variable {X : Cx} {kx vx : Expr} {pos : Pos} {tk tv : TE}
end
end WkDs
namespace WkB
open PySem PySem.Spec PyProof.Rows L2 WkI
section
variable {P : Program} {w : World} {K : PySem.W.Frag} {tg : Expr} {d : Addr} {o : Obj} {es : Array DictEntry} {ep : Nat}
end
section
variable {X : Cx} {tg e : Expr} {td : TE} {apos cpos : Pos}
end
section
variable {X : Cx}
end
section
variable {J : It} {n : Nat} {G : Hp → Prop} {Y : Nat → Hp → V → Hp → Prop}
end
end WkB
namespace WkV
open PySem PySem.Spec PyProof.Rows L2
section
variable {X : Cx}
end
end WkV
namespace WkDc2
open PySem PySem.Spec PyProof.Rows L2
section
variable {prog : Program} {w : World} {A : Around} {R : Result → Shared → Prop} {s : Shared} {kx vx t0 i0 t1 i1 : Expr} {scope : Scope} {pos : Pos} {it : Value} {D : Addr} {env : Env}
end
section
variable {X : Cx}
end
end WkDc2
namespace WkP
open PySem PySem.Spec PyProof.Rows L2 WkN WkD WkE
open PySem.W (EachIs dataLe)
end WkP
namespace WkP
open PySem PySem.Spec PyProof.Rows L2 WkN WkD WkE
open PySem.W (EachIs dataLe)
theorem atI_m1 {α : Type} {xs : List α} {n : Nat} {v : α} (hl : xs.length = n + 1) (h : xs[n]? = some v) : atI xs (-1) = some v := by
  have e : xs = xs.take n ++ [v] := by
    conv => lhs; rw [← List.take_length (l := xs), hl, List.take_succ, h]
    rfl
  rw [e]
  exact atI_last _ _
end WkP
namespace Wk
open PySem PySem.Spec PyProof.Rows L2 WkD WkN LamX WkP WkE WkC
open PySem.W (EachIs)
section
variable {P : Program} {w : World} {K : PySem.W.Frag} {mg : Str → Option Value} {base : Heap}
theorem each_atL {α β : Type} {R : α → β → Prop} {a : α} : ∀ {as : List α} {bs : List β} {i : Nat}, EachIs R as bs → as[i]? = some a → ∃ b, bs[i]? = some b ∧ R a b
  | _, _, _, .nil, h => by simp at h
  | _, _, 0, .cons h _, k => by
    cases k
    exact ⟨_, rfl, h⟩
  | _, _, i + 1, .cons _ t, k => by
    rw [List.getElem?_cons_succ] at k ⊢
    exact each_atL t k
theorem ite1 {c : Prop} [Decidable c] {A B : Prop} (h : c) (a : A) : if c then A else B := by rw [if_pos h]; exact a
theorem NetO.keep98 {H H' : Hp} {x C : Addr} {rest : List (Str × V)} {vs : List Str} {nb : Nb} {wt : Wt} {t : Str} {n : Int} {m e : Addr} {r s : Int} (N : NetO H x C rest vs nb wt t n m e r s) (k : Same H H') : NetO H' x C rest vs nb wt t n m e r s := by
  obtain ⟨dx, p, ad, hx, rz⟩ := N.ex
  exact ⟨⟨dx, p, ad, k _ _ hx, rz.ext (Ext.of k)⟩, N.rst, N.asc, N.an, N.gok, N.lc, N.rt⟩
def spNow98 : Sp := fun vs H Q _ => ∃ (a : Addr) (M : List Int), vs = [.ref a] ∧ Lst98 H a M ∧ ∀ H', Same H H' → Q (.int (nowW M)) H'
theorem sc_now98 : FnScope ["_law_made"] ["_law_made"] (defScope s_L_now) := ⟨rfl, rfl, rfl, by decide +kernel, rfl, by decide +kernel, by decide +kernel⟩
theorem c_now98 (D : Def K mg "_law_now" s_L_now) : Callee P w K mg base CX0 1 "_law_now" ["_law_made"] spNow98 := by
  obtain ⟨f, fd, F, gg⟩ := D
  refine ⟨f, fd, F.ok sc_now98 (fun vs H Q E h => ?_) (fun cdv A outer s H vs Q E hr h => ?_), gg, F.kp, F.bindsN (fun _ _ _ _ _ _ us hl => match us, hl with | [_], _ => rfl)⟩
  · obtain ⟨a, M, rfl, _⟩ := h
    rfl
  have hu := hu_of hr
  refine ⟨_, PSs.nox (pss_one (ps_ret (pe_ifExp (pt_cmpR (WkG.op_neNil hr.units) (pv 0) (pe_lst pa_nil) (nomark _)) (pe_ix ix_tup (pe_ix ix_list (pv 0) (pe_un un_neg pe_int) (fun _ _ => rfl)) pe_int (fun _ _ => rfl)) pe_int))), ?_⟩
  obtain ⟨a, M, rfl, ⟨rs, ha, hrs⟩, k⟩ := h
  refine ⟨_, rfl, by show 0 ≤ sizeLine; decide, fun p1 n1 => ?_⟩
  generalize gg1 : upd _ p1 _ = G1; obtain ⟨s1, L1⟩ := new_eq n1 gg1; clear gg1
  refine ⟨a, p1, _, rfl, rfl, SqL.of (s1 _ _ ha), SqL.of L1, _, rfl, ?_⟩
  have lrs : rs.length = M.length := hrs.length
  by_cases e0 : rs = []
  · subst e0
    have eM : M = [] := List.eq_nil_of_length_eq_zero (by rw [← lrs]; rfl)
    subst eM
    exact k G1 s1
  · have hM : M.length ≠ 0 := fun z => e0 (List.eq_nil_of_length_eq_zero (by omega))
    have ni : ((!(rs.map V.ref).isEmpty) = true) := by
      cases rs with
      | nil => exact absurd rfl e0
      | cons r rs => rfl
    obtain ⟨r, hr0⟩ : ∃ r, rs[rs.length - 1]? = some r := ⟨_, List.getElem?_eq_getElem (by omega)⟩
    obtain ⟨w0, hw, hrw⟩ := each_atL hrs hr0
    have en : nowW M = w0 := by
      unfold nowW
      rw [List.getLast?_eq_getElem?, ← lrs, hw]
      rfl
    refine ite1 ni ?_
    refine ⟨_, rfl, _, rfl, a, rs.map V.ref, -1, .ref r, rfl, rfl, SqL.of (s1 _ _ ha), ?_, r, _, 3, .int w0, rfl, rfl, .inl (.inl (s1 _ _ hrw)), rfl, ?_⟩
    · exact WkP.atI_m1 (n := rs.length - 1) (by rw [List.length_map]; omega) (by rw [List.getElem?_map, hr0]; rfl)
    · rw [← en]
      exact k G1 s1
def spLvr98 (T : List (Addr × Str)) (C : Addr) : Sp := fun vs H Q _ => ∃ (x p cs s : Addr) (N : Nat) (M : List Int) (L : List Ent) (r c ca fa : Int), vs = [.ref x, .ref s, .int r] ∧ All98 T C H x p cs s N M L r c ca fa ∧ N < 900000 ∧ ∀ H', Same H H' → Q (.bl true) H'
theorem sc_lvr98 : FnScope ["_law_own", "_law_state", "_law_depth"] ["_law_own", "_law_state", "_law_depth"] (defScope s_L_level_right) := ⟨rfl, rfl, rfl, by decide +kernel, rfl, by decide +kernel, by decide +kernel⟩
theorem c_lvr98 {C CU fA : Addr} {fH : Addr} {fdH : FuncData} {tbT : List (Addr × Str)} (D : Def K mg "_law_level_right" s_L_level_right) (B : Bi mg) (LC : LogC K C fA) (PF : PropC P w K mg base CX0 C "strength" 1 (spFound C)) (PL : PropC P w K mg base CX0 C "log" 1 (spLog C)) (PD : PropC P w K mg base CX0 C "depth" 1 (spDepth C)) (MW : MethC P w K mg base (CX P w) C "weight" 3 (spGW K C CU))
    (FH : GFn P w K mg base 2 fH fdH ["self"] (spHist K)) (MH : Meth K C "history" fH) (bH : L2.Binds K fdH ["self"] []) (C_now : Callee P w K mg base CX0 1 "_law_now" ["_law_made"] spNow98) : Callee P w K mg base CX0 6 "_law_level_right" ["_law_own", "_law_state", "_law_depth"] (spLvr98 tbT C) := by
  obtain ⟨f, fd, F, gg⟩ := D
  refine ⟨f, fd, F.ok sc_lvr98 (fun vs H Q E h => ?_) (fun cdv A outer s H vs Q E hr h => ?_), gg, F.kp, F.bindsN (fun _ _ _ _ _ _ us hl => match us, hl with | [_, _, _], _ => rfl)⟩
  · obtain ⟨x, p, cs, s, N, M, L, r, c, ca, fa, rfl, _⟩ := h
    rfl
  have hu := hu_of hr
  have nd := sc_lvr98.nd
  have hr5 : Room 5 _ := hr
  have hr3 : Room 3 _ := hr.mono (by decide)
  have hr2 : Room 2 _ := hr.mono (by decide)
  have hr1 : Room 1 _ := hr.mono (by decide)
  refine ⟨_, PSs.nox (pss_cons (ps_if (PW.pt (pw_or (pt_cmpR (op_neD hr.units) (pe_listG (E := fun _ _ _ => False) (pgen_meth0 (pv 0) LC.f.cls MH FH hr2 bH .nil) WkK.passF (fun _ _ _ h => h.elim) hr5 (by rfl) B.n_list (by decide +kernel)) (pe_dget hu (pv 1) pe_str (fun _ _ => rfl)) (nomark _)) (pw_or (pt_cmpR (op_neD hr.units) (WkC.pe_pr PL LC.f.cls hr2 pass0 (pv 0)) (pe_callTy call_tuple_of (by rfl) B.n_tuple (by decide +kernel) (pa_cons (pe_dget hu (pv 1) pe_str (fun _ _ => rfl)) pa_nil)) (nomark _)) (pw_or1 (pt_cmpR op_ne (WkC.pe_pr PD LC.f.cls hr2 pass0 (pv 0)) (pv 2) (nomark _))))))
      (pss_one (ps_ret pe_bl)) pss_nil)
      (pss_one (ps_ret (pe_cmpR (op_eqD hr.units) (pe_lst (pa_cons (WkC.pe_pr PF LC.f.cls hr2 pass0 (pv 0)) (pa_cons (WkC.pe_mt MW LC.f.cls hr3 WkK.passF (pv 0) (pa_cons pe_str (pa_cons pe_str pa_nil))) pa_nil))) (pe_op op_rep (pe_lst (pa_cons (pe_c C_now hr1 pass0 (pa_cons (pe_dget hu (pv 1) pe_str (fun _ _ => rfl)) pa_nil)) pa_nil)) pe_int) (nomark _))))), ?_⟩
  obtain ⟨x, p, cs, s, N, M, L, r, c, ca, fa, rfl, S, hN, k⟩ := h
  obtain ⟨m, e, nb, wt, t, rs, NO, hm, hrs, ⟨es, hes, hlog⟩, hbn⟩ := id S.net.ex
  obtain ⟨dx, pp, ad, hx, rz⟩ := id NO.ex
  obtain ⟨ml, ll, hst, ⟨ra, hra, hra2⟩, ⟨rb, hrb, hrb2⟩⟩ := id S.st
  have go := NO.gok
  have aV : vA ∈ vAB := by simp
  have bV : vB ∈ vAB := by simp
  have lrs : rs.length = M.length := hrs.length
  have les : es.length = L.length := hlog.length
  have fM := S.fm
  have fL := S.fl
  have big : 10000000 < sizeLine := by decide
  have shM := shape_l (ds := M.map edD) (D := 3) (fun d hd => by
    obtain ⟨w0, _, rfl⟩ := List.mem_map.mp hd
    exact edD_ok w0) (by decide)
  have shL := shape_l (ds := L.map entD) (D := 4) (fun d hd => by
    obtain ⟨w0, _, rfl⟩ := List.mem_map.mp hd
    exact entD_ok w0) (by decide)
  refine ⟨_, rfl, x, dx, _, rfl, hx, rfl, x, C, dx, m, _, _, rfl, hx, ⟨LC.f.cls, LC.f.nm⟩, rfl, hm, by rw [List.length_map]; omega, fun p1 n1 => ?_⟩
  generalize gg1 : upd _ p1 _ = G1; obtain ⟨s1, L1⟩ := new_eq n1 gg1; clear gg1
  have kt1 := KeepT.same s1
  refine ⟨_, rfl, s, .ref ml, rfl, .inl ⟨_, Sum.inr "made", .inl (s1 _ _ hst), rfl, rfl⟩, _, _, .lst (SqL.of L1) (edsD (hrs.mono fun _ _ h => h.keep kt1)), .lst (SqL.of (s1 _ _ hra)) (edsD (hra2.mono fun _ _ h => h.keep kt1)), shM.1, shM.1, _, rfl, ?_⟩
  rw [SeqAt.eqv_refl _ (SeqAt.canLay_of_shaped shM.1)]
  refine ite2 (fun h => absurd h (by simp)) (fun _ => ?_)
  have NO1 : NetO G1 x C [] vAB nb wt t (nowW M) m e r c := NO.keep98 s1
  obtain ⟨dx1, pp1, ad1, hx1, rz1⟩ := id NO1.ex
  refine ⟨_, rfl, x, dx1, _, rfl, hx1, x, m, e, [], vAB, nb, wt, t, nowW M, r, c, _, rfl, NO1, s1 _ _ hes, by rw [List.length_map]; omega, fun q2 H2 s2 L2 => ?_⟩
  have s02 := s1.trans s2
  have kt2 := KeepT.same s02
  refine ⟨_, rfl, s, .ref ll, rfl, .inl ⟨_, Sum.inr "log", .inl (s02 _ _ hst), rfl, rfl⟩, ll, _, rfl, .inl ⟨SqL.of (s02 _ _ hrb), fun q3 n3 => ?_⟩⟩
  generalize gg : upd H2 q3 _ = G3
  obtain ⟨s3, L3⟩ := new_eq n3 gg
  clear gg
  have s03 := s02.trans s3
  have kt3 := KeepT.same s03
  refine ⟨_, _, .tup (.inl (.inl (s3 _ _ L2))) (entsD (hlog.mono fun _ _ h => h.keep kt3)), .tup (.inl (.inl L3)) (entsD (hrb2.mono fun _ _ h => h.keep kt3)), shL.2, shL.2, _, rfl, ?_⟩
  rw [SeqAt.eqv_refl _ (SeqAt.canLay_of_shaped shL.2)]
  refine ite2 (fun h => absurd h (by simp)) (fun _ => ?_)
  have NO3 : NetO G3 x C [] vAB nb wt t (nowW M) m e r c := NO.keep98 s03
  obtain ⟨dx3, pp3, ad3, hx3, rz3⟩ := id NO3.ex
  refine ⟨_, rfl, x, dx3, _, rfl, hx3, x, m, e, [], vAB, nb, wt, t, nowW M, r, c, rfl, NO3, ?_⟩
  refine ⟨_, rfl, rfl, _, rfl, ?_⟩
  refine ite2 (fun h => absurd h (by simp)) (fun _ => ?_)
  have ew : wt vA vB = nowW M := by
    obtain ⟨ms0, lc0⟩ := NO.lc
    exact (two_w go lc0 hbn).symm
  have few : ∀ u ∈ vAB, (nb u).length ≤ 1000 := fun u hu => by
    have h2 : (nb u).length ≤ vAB.length := (go.sym.nd u hu).length_le_of_subset fun y hy => (go.sym.mem u hu y hy).1
    exact Nat.le_trans h2 (by decide)
  have iA : IsIn (.str vA) vAB := ⟨_, aV, rfl⟩
  have iB : IsIn (.str vB) vAB := ⟨_, bV, rfl⟩
  refine ⟨_, rfl, x, dx3, _, rfl, hx3, x, m, e, [], vAB, nb, wt, t, nowW M, r, c, rfl, NO3, ?_⟩
  refine ⟨_, rfl, x, dx3, _, rfl, hx3, rfl, x, dx3, _, pp3, t, vAB, ad3, nb, wt, .str vA, .str vB, rfl, ⟨⟨hx3, LC.f.cls, LC.f.na, LC.f.nt, rfl, rfl⟩, rfl, rz3, go.nm, few⟩, .inl ⟨_, rfl, name_len (go.nm _ aV)⟩, .inl ⟨_, rfl, name_len (go.nm _ bV)⟩, fun h => absurd iA h, fun _ h => absurd iB h, fun u v e1 e2 _ _ H4 s4 => ?_⟩
  cases e1
  cases e2
  rw [if_pos hbn, ew]
  refine ⟨by show 2 ≤ sizeLine; decide, fun p5 n5 => ?_⟩
  generalize gg5 : upd _ p5 _ = G5; obtain ⟨s5, L5⟩ := new_eq n5 gg5; clear gg5
  have s05 := (s03.trans s4).trans s5
  refine ⟨_, rfl, s, .ref ml, rfl, .inl ⟨_, Sum.inr "made", .inl (s05 _ _ hst), rfl, rfl⟩, ml, M, rfl, ⟨ra, s05 _ _ hra, hra2.mono fun _ _ h => h.keep (KeepT.same s05)⟩, fun H6 s6 => ?_⟩
  refine ⟨by show 1 ≤ sizeLine; decide, fun p7 n7 => ?_⟩
  generalize gg7 : upd _ p7 _ = G7; obtain ⟨s7, L7⟩ := new_eq n7 gg7; clear gg7
  refine ⟨p7, 2, _, rfl, rfl, L7, by decide, by decide, by show 1 * 2 ≤ sizeLine; decide, fun p8 n8 => ?_⟩
  generalize gg8 : upd _ p8 _ = G8; obtain ⟨s8, L8⟩ := new_eq n8 gg8; clear gg8
  have L58 : G8 p5 = some (.lst [.int (nowW M), .int (nowW M)]) := s8 _ _ (s7 _ _ (s6 _ _ L5))
  have L8 : G8 p8 = some (.lst [.int (nowW M), .int (nowW M)]) := L8
  have shp : SeqAt.shaped (.list [.int (nowW M), .int (nowW M)]) = true := rfl
  refine ⟨.list [.int (nowW M), .int (nowW M)], .list [.int (nowW M), .int (nowW M)], .lst (SqL.of L58) (.cons (.int _) (.cons (.int _) .nil)), .lst (SqL.of L8) (.cons (.int _) (.cons (.int _) .nil)), shp, shp, ?_⟩
  rw [SeqAt.eqv_refl _ (SeqAt.canLay_of_shaped shp)]
  exact k G8 (((s05.trans s6).trans s7).trans s8)
end
end Wk
namespace Wk
open PySem PySem.Spec PyProof.Rows L2 WkD WkN LamX WkP WkE WkC
open PySem.W (EachIs)
section
variable {P : Program} {w : World} {K : PySem.W.Frag} {mg : Str → Option Value} {base : Heap}
def Lv98 (H : Hp) (a : Addr) (ds : List Int) : Prop := H a = some (.lst (ds.map V.int)) ∧ ∀ d ∈ ds, 0 ≤ d ∧ d < 3
def Out98 (T : List (Addr × Str)) (C x p cs s : Addr) (N : Nat) (M : List Int) (r c fa : Int) (H H' : Hp) : Prop := ∃ A L' ca', But3 x p s H H' ∧ All98 T C H' x p cs s N (M ++ A) L' r (c + A.length) ca' fa ∧ (ca' = 0 ∨ ca' = fa)
def spLevel98 (K : PySem.W.Frag) (T : List (Addr × Str)) (C CT : Addr) (j : Nat) : Sp := fun vs H Q E => ∃ (x p cs s lv : Addr) (N : Nat) (M : List Int) (L : List Ent) (ds : List Int) (r c ca fa : Int), vs = [.ref p, .ref x, .ref s, .ref lv, .int r] ∧ All98 T C H x p cs s N M L r c ca fa ∧ (ca = 0 ∨ ca = fa) ∧ Lv98 H lv ds ∧ ds.length ≤ j ∧ N + 100 * (j + 1) < 800000 ∧
  (∀ H', Out98 T C x p cs s (N + 100 * (j + 1)) M r c fa H H' → Q (.int r) H') ∧ (∀ d H', Out98 T C x p cs s (N + 100 * (j + 1)) M r c fa H H' → H' d = some (.xd [("found", .int fa)]) → E (.ref CT) (some d) H')
def spInside98 (K : PySem.W.Frag) (T : List (Addr × Str)) (C CT : Addr) (j : Nat) : Sp := fun vs H Q E => ∃ (x p cs s lv : Addr) (N : Nat) (M : List Int) (L : List Ent) (ds : List Int) (r c ca fa : Int), vs = [.ref p, .ref x, .ref s, .ref lv, .int r] ∧ All98 T C H x p cs s N M L r c ca fa ∧ (ca = 0 ∨ ca = fa) ∧ Lv98 H lv ds ∧ ds ≠ [] ∧ ds.length ≤ j ∧ N + 100 * j + 10 < 800000 ∧
  (∀ H', Out98 T C x p cs s (N + 100 * j + 10) M r c fa H H' → Q .non H') ∧ (0 < r → ∀ d H', Out98 T C x p cs s (N + 100 * j + 10) M r c fa H H' → H' d = some (.xd [("found", .int fa)]) → E (.ref CT) (some d) H')
theorem Lv98.keep {H H' : Hp} {a x p s C dx : Addr} {fs : List (Str × V)} {k1 k2 : List (Key × V)} {ds : List Int} (l : Lv98 H a ds) (b : But3 x p s H H') (hx : H x = some (.ins C dx fs)) (hp : H p = some (.dK k1)) (hs : H s = some (.dK k2)) : Lv98 H' a ds := ⟨(KeepT.of b hx hp hs).2 _ _ l.1, l.2⟩
theorem ra98 {c : Int} {A B : List Int} : c + A.length + B.length = c + (A ++ B).length := by
  rw [List.length_append]
  omega
theorem seqk {t u : TS} {D : Ends} {σ : L2.St} {H : Hp} (R : L2.St → Hp → Prop) (h : ∀ nx' : L2.St → Hp → Prop, (∀ σ H, R σ H → nx' σ H) → t { D with nx := nx' } σ H) (k : ∀ σ H, R σ H → u D σ H) : tSeq t u D σ H := h (u D) k
theorem sc_level98 : FnScope ["_law_pen_here", "_law_own", "_law_state", "_law_levels", "_law_depth", "_law_k"] ["_law_pen_here", "_law_own", "_law_state", "_law_levels", "_law_depth"] (defScope s_L_level) := ⟨rfl, rfl, rfl, by decide +kernel, rfl, by decide +kernel, by decide +kernel⟩
theorem c_level98 {C CT fA fI : Addr} {tbT : List (Addr × Str)} (j : Nat) (D : Def K mg "_law_level" s_L_level) (B : Bi mg) (TW : WkX.ExcT K mg "TooWeak" "found" CT fI) (C_draw : Callee P w K mg base CX0 1 "_law_draw" ["_law_pen_here", "_law_many"] spDraw) (C_pick : Callee P w K mg base CX0 2 "_law_pick" ["_law_pen_here", "_law_some"] (spPick K))
    (C_set : Callee P w K mg base (CX P w) 9 "_law_set" ["_law_pen_here", "_law_own", "_law_state"] (spSet98 K tbT C)) (C_lr : Callee P w K mg base CX0 6 "_law_level_right" ["_law_own", "_law_state", "_law_depth"] (spLvr98 tbT C)) (C_in : Callee P w K mg base (CX P w) (9 + 4 * j) "_law_inside" ["_law_pen_here", "_law_own", "_law_state", "_law_levels", "_law_depth"] (spInside98 K tbT C CT j)) :
    Callee P w K mg base (CX P w) (9 + 4 * j + 1) "_law_level" ["_law_pen_here", "_law_own", "_law_state", "_law_levels", "_law_depth"] (spLevel98 K tbT C CT j) := by
  obtain ⟨f, fd, F, gg⟩ := D
  refine ⟨f, fd, F.ok sc_level98 (fun vs H Q E h => ?_) (fun cdv A outer s H vs Q E hr h => ?_), gg, F.kp, F.bindsN (fun _ _ _ _ _ _ us hl => match us, hl with | [_, _, _, _, _], _ => rfl)⟩
  · obtain ⟨x, p, cs, s, lv, N, M, L, ds, r, c, ca, fa, rfl, _⟩ := h
    rfl
  have hu := hu_of hr
  have nd := sc_level98.nd
  have hrI : Room (9 + 4 * j) _ := hr
  have hr9 : Room 9 _ := hr.mono (by omega)
  have hr6 : Room 6 _ := hr.mono (by omega)
  have hr2 : Room 2 _ := hr.mono (by omega)
  have hr1 : Room 1 _ := hr.mono (by omega)
  refine ⟨_, (pss_cons (ps_for (passes_of rfl) rfl (pi_range1 (by rfl) B.n_range (pa_cons (pe_op op_add pe_int (pe_c C_draw hr1 pass0 (pa_cons (pv 0) (pa_cons (pe_c C_pick hr2 pass0 (pa_cons (pv 0) (pa_cons (pe_lst (pa_cons pe_int (pa_cons pe_int (pa_cons pe_int pa_nil)))) pa_nil))) pa_nil)))) pa_nil)) (pg_name (i := 5) nd rfl (Or.inl rfl))
      (pss_one (ps_expr (pe_c C_set hr9 (passes_call (takes_of rfl rfl rfl rfl) fun _ _ _ _ h => h) (pa_cons (pv 0) (pa_cons (pv 1) (pa_cons (pv 2) pa_nil)))))))
      (pss_cons (ps_if (pt_cmpR (WkG.op_neNil hr.units) (pv 3) (pe_lst pa_nil) (nomark _))
      (pss_one (ps_expr (pe_c C_in hrI (passes_call (takes_of rfl rfl rfl rfl) fun _ _ _ _ h => h) (pa_cons (pv 0) (pa_cons (pv 1) (pa_cons (pv 2) (pa_cons (pv 3) (pa_cons (pv 4) pa_nil)))))))) pss_nil)
      (pss_cons (ps_for (passes_of rfl) rfl (pi_range1 (by rfl) B.n_range (pa_cons (pe_c C_draw hr1 pass0 (pa_cons (pv 0) (pa_cons pe_int pa_nil))) pa_nil)) (pg_name (i := 5) nd rfl (Or.inl rfl))
      (pss_one (ps_expr (pe_c C_set hr9 (passes_call (takes_of rfl rfl rfl rfl) fun _ _ _ _ h => h) (pa_cons (pv 0) (pa_cons (pv 1) (pa_cons (pv 2) pa_nil)))))))
      (pss_cons (ps_if (pt_not (pt_val (pe_c C_lr hr6 pass0 (pa_cons (pv 1) (pa_cons (pv 2) (pa_cons (pv 4) pa_nil))))))
      (pss_one (ps_dput hu (pv 2) pe_str pe_bl rfl)) pss_nil)
      (pss_cons (ps_if (pt_cmpR op_eq (pv 4) (pe_dget hu (pv 2) pe_str (fun _ _ => rfl)) (nomark _))
      (pss_one (WkK.ps_raiseE rfl TW hr (takes_of rfl rfl rfl rfl) (pa_cons (pv 4) pa_nil))) pss_nil)
      (pss_one (ps_ret (pv 4)))))))), ?_⟩
  obtain ⟨x, p, cs, s, lv, N, M, L, ds, r, c, ca, fa, rfl, S, hca, hlv, hj, hN, k1, k2⟩ := h
  refine ⟨_, rfl, _, rfl, by show 3 ≤ sizeLine; decide, fun p1 n1 => ?_⟩
  generalize gg1 : upd _ p1 _ = G1; obtain ⟨s1, L1⟩ := new_eq n1 gg1; clear gg1
  refine ⟨p, cs, _, S.pen.same s1, by omega, .inl ⟨p1, _, rfl, .inl (SqL.of L1), by simp, by show 3 < 1073741824; decide, fun sv H2 hsv b2 P2 => ?_⟩⟩
  obtain ⟨mm, rfl, m1, m60⟩ : ∃ n : Int, sv = .int n ∧ 1 ≤ n ∧ n ≤ 60 := by
    have hsv : sv ∈ [V.int 3, V.int 9, V.int 60] := hsv
    simp only [List.mem_cons, List.not_mem_nil, or_false] at hsv
    rcases hsv with rfl | rfl | rfl
    · exact ⟨_, rfl, by decide, by decide⟩
    · exact ⟨_, rfl, by decide, by decide⟩
    · exact ⟨_, rfl, by decide, by decide⟩
  refine ⟨p, cs, mm, _, rfl, m1, by omega, P2, by omega, fun d H3 d0 d1 b3 P3 => ?_⟩
  have S1 := S.same s1
  have S3 := (S1.but b2 P2 (Nat.le_succ _)).but b3 P3 (Nat.le_succ _)
  have B3 : But3 x p s H H3 := (But3.same s1).trans ((But3.pen b2).trans (But3.pen b3))
  refine ⟨_, _, rfl, rfl, 1 + d, rfl, by omega, by omega, ?_⟩
  refine for_it (walk_range (lo := 0) (n := (1 + d).toNat)) (fun i σ Hc => ∃ (x5 : Option V) (A : List Int) (L' : List Ent), σ = [some (.ref p), some (.ref x), some (.ref s), some (.ref lv), some (.int r), x5] ∧ But3 x p s H Hc ∧ All98 tbT C Hc x p cs s (N + 2 + i) (M ++ A) L' r (c + A.length) ca fa)
    ⟨none, [], L, rfl, B3, by
      have e : c + (([] : List Int).length : Int) = c := by simp
      rw [List.append_nil, e]
      exact S3⟩ ?_ ?_ ?_
  · intros
    trivial
  · rintro i x0 σ Hc Hc' hi ⟨x5, A, L', rfl, Bc, Sc⟩ ⟨rfl, rfl⟩
    refine ⟨_, rfl, _, rfl, _, rfl, x, p, cs, s, N + 2 + i, M ++ A, L', r, c + A.length, ca, fa, rfl, Sc, by omega, fun w0 H4 B4 S4 => ?_⟩
    refine ⟨_, A ++ [w0], L' ++ [.set w0], rfl, Bc.trans B4, ?_⟩
    rw [← List.append_assoc, ← ra98]
    exact S4
  rintro σ H5 ⟨x5, A5, L5, rfl, B5, S5⟩
  have S5 := S5.mono (N' := N + 62) (by omega)
  obtain ⟨⟨dx0, fs0, hx0⟩, ⟨kp0, hp0⟩, ⟨ks0, hs0⟩, px0, sx0⟩ := S.pn
  dsimp only
  refine seqk (t := tIfS _ _ _) (u := tSeq (tFor _ _ _) _) (fun σ Hc => ∃ (x5 : Option V) (A : List Int) (L' : List Ent) (ca' : Int), σ = [some (.ref p), some (.ref x), some (.ref s), some (.ref lv), some (.int r), x5] ∧ But3 x p s H Hc ∧ All98 tbT C Hc x p cs s (N + 100 * j + 80) (M ++ A) L' r (c + A.length) ca' fa ∧ (ca' = 0 ∨ ca' = fa)) (fun nx' hk => ?_) (fun σ H8 hR => ?_)
  · refine ⟨_, rfl, by show 0 ≤ sizeLine; decide, fun p6 n6 => ?_⟩
    generalize gg6 : upd _ p6 _ = G6; obtain ⟨s6, L6⟩ := new_eq n6 gg6; clear gg6
    have S6 := S5.same s6
    have B6 : But3 x p s H G6 := B5.trans (But3.same s6)
    have lv6 := hlv.keep B6 hx0 hp0 hs0
    refine ⟨lv, p6, _, rfl, rfl, SqL.of lv6.1, SqL.of L6, _, rfl, ?_⟩
    by_cases e0 : ds = []
    · subst e0
      exact hk _ _ ⟨_, A5, L5, ca, rfl, B6, S6.mono (by omega), hca⟩
    · have ni : (!(ds.map V.int).isEmpty) = true := by
        cases ds with
        | nil => exact absurd rfl e0
        | cons r rs => rfl
      refine ite1 ni ?_
      refine ⟨_, rfl, _, rfl, _, rfl, _, rfl, _, rfl, x, p, cs, s, lv, N + 62, M ++ A5, L5, ds, r, c + A5.length, ca, fa, rfl, S6, hca, lv6, e0, hj, by omega, fun H7 ⟨A7, L7, ca7, B7, S7, hca7⟩ => hk _ _ ⟨_, A5 ++ A7, L7, ca7, rfl, B6.trans B7, ?_, hca7⟩, fun _ dd H7 ⟨A7, L7, ca7, B7, S7, hca7⟩ hdd => k2 dd H7 ⟨A5 ++ A7, L7, ca7, B6.trans B7, ?_, hca7⟩ hdd⟩
      · rw [← List.append_assoc, ← ra98]
        exact S7.mono (by omega)
      · rw [← List.append_assoc, ← ra98]
        exact S7.mono (by omega)
  obtain ⟨x5', A8, L8, ca8, rfl, B8, S8, hca8⟩ := hR
  refine ⟨_, rfl, p, cs, 5, _, rfl, by decide, by decide, S8.pen, by omega, fun d9 H9 d90 d91 b9 P9 => ?_⟩
  have S9 := S8.but b9 P9 (Nat.le_succ _)
  refine ⟨d9, rfl, by omega, by omega, ?_⟩
  refine for_it (walk_range (lo := 0) (n := d9.toNat)) (fun i σ Hc => ∃ (x5 : Option V) (A : List Int) (L' : List Ent), σ = [some (.ref p), some (.ref x), some (.ref s), some (.ref lv), some (.int r), x5] ∧ But3 x p s H Hc ∧ All98 tbT C Hc x p cs s (N + 100 * j + 81 + i) (M ++ A) L' r (c + A.length) ca8 fa)
    ⟨_, A8, L8, rfl, B8.trans (But3.pen b9), S9⟩ ?_ ?_ ?_
  · intros
    trivial
  · rintro i x0 σ Hc Hc' hi ⟨x5, A, L', rfl, Bc, Sc⟩ ⟨rfl, rfl⟩
    refine ⟨_, rfl, _, rfl, _, rfl, x, p, cs, s, _, M ++ A, L', r, c + A.length, ca8, fa, rfl, Sc, by omega, fun w0 H4 B4 S4 => ?_⟩
    refine ⟨_, A ++ [w0], L' ++ [.set w0], rfl, Bc.trans B4, ?_⟩
    rw [← List.append_assoc, ← ra98]
    exact S4
  rintro σ H10 ⟨x5'', A10, L10, rfl, B10, S10⟩
  refine ⟨_, rfl, _, rfl, _, rfl, x, p, cs, s, _, M ++ A10, L10, r, c + A10.length, ca8, fa, rfl, S10, by omega, fun H11 s11 => ?_⟩
  refine ⟨true, rfl, ?_⟩
  refine ite2 (fun h => absurd h (by simp)) (fun _ => ?_)
  have S11 := (S10.same s11).mono (N' := N + 100 * (j + 1)) (by omega)
  have B11 := B10.trans (But3.same s11)
  have O11 : Out98 tbT C x p cs s (N + 100 * (j + 1)) M r c fa H H11 := ⟨A10, L10, ca8, B11, S11, hca8⟩
  obtain ⟨ml, ll, hst, _⟩ := S11.st
  refine ⟨_, rfl, _, rfl, s, _, rfl, .inl ⟨_, Sum.inr "fails", .inl hst, rfl, rfl⟩, rfl, _, rfl, ?_⟩
  by_cases ef : r = fa
  · refine ite1 (by rw [ef]; simp) ?_
    refine ⟨_, rfl, _, rfl, fun dd nd_ => ?_⟩
    generalize gg : upd H11 dd _ = H12
    obtain ⟨s12, L12⟩ := new_eq nd_ gg
    clear gg
    refine k2 dd H12 ⟨A10, L10, ca8, B11.trans (But3.same s12), S11.same s12, hca8⟩ ?_
    rw [L12, ef]
  · refine ite2 (fun h => absurd h (by simp [ef])) (fun _ => ?_)
    exact ⟨_, rfl, k1 _ O11⟩
end
end Wk
namespace WkI
open PySem PySem.Spec PyProof.Rows L2 LamX WkL
def tMLamS (C : Addr) (m : Str) (T : List (Addr × Str)) (TT : (XK → V → Hp → VK → Prop) → V → XK → Hp → VK → Prop) (Eo : L2.St → XK) (iu : Nat) (ta : TE) (t : XK → TE) : TE := fun σ H Q => ta σ H fun x H1 => ∃ am dx fs, x = .ref am ∧ H1 am = some (.ins C dx fs) ∧ fs.lookup m = none ∧ Tabs T H1 ∧
  ∀ H2, ExtN H1 H2 → Tabs T H2 → TT (fun E v H' Q' => t E (σ.set iu (some v)) H' Q') (.ref am) (Eo σ) H2 Q
section
variable {X : Cx}
theorem pe_methLamS {T : List (Addr × Str)} {TT : (XK → V → Hp → VK → Prop) → V → XK → Hp → VK → Prop} {m nm x a b u : Str} {g c P C : Addr} {k iu : Nat} {pg : Arguments} {bg : List Stmt} {sg : Scope} {fd : FuncData} {Ng : List Str} {Eo : L2.St → XK}
    {params : Arguments} {body o : Expr} {scope : Scope} {t : XK → TE} {ta : TE} {lpos pos apos : Pos} {pl : Sem Bool} (ho : PE X o ta) (hc : Cls X.K C) (hm : Meth X.K C m g) (F : FunD X.K nm x pg bg sg [] [] g fd) (hb : L2.Binds X.K fd [b, a] []) (Sg : FnScope Ng [b, a] sg) (hN1 : Ng[1]? = some a) (hN0 : Ng[0]? = some b) (hva : Vis sg a) (hvb : Vis sg b)
    (hG : ∀ cdv, GivesM X Ng x sg g cdv bg a b (X.env.qual ++ "<lambda>") TT) (hx : ∀ σ, PassesAt (L2.CX X.prog X.w) X σ (Eo σ))
    (TB : TabB X.base X.mg c P) (hcode : X.env.code = .ref c) (hmT : (P, X.env.qual ++ "<lambda>") ∈ T) (hu : ∀ p ∈ T, p.1 = P → p.2 = X.env.qual ++ "<lambda>") (hr : Room (k + 2) X.A) (L : Lam1 X.env.scope scope u) (hiu : X.N[iu]? = some u) (hNd : X.N.Nodup) (hdef : defaultsOf params X.env = ([], []))
    (hbind : ∀ (q : Str) (cl : List (Str × Addr)) (pm cv ctv uv : Value), bindArgs (PySem.W.kla_fn "<lambda>" q params body scope cl pm cv ctv) ⟨[uv], []⟩ = pure [(u, uv)])
    (hbody : ∀ (A : Around) (outer : List Env) (s : Shared) (H : Hp) (E : XK) (f c' : Addr), Room k (A.deeper (lamEnv X scope s.heap.objs.size f c')) → PE (lamCx X A outer s H E scope f c') body (t E))
    (hda : (a == ("__debug__" : Str)) = false := by decide) (hca : (a == ("__classdict__" : Str)) = false := by decide) (hdb : (b == ("__debug__" : Str)) = false := by decide) (hcb : (b == ("__classdict__" : Str)) = false := by decide)
    (ht : eval (.Call (.Attribute o m apos) [.Lambda params body scope lpos] [] pos) X.env = (do
      let ov ← eval o X.env
      standAt apos.atName
      let (f, first) ← holding [ov] (getMethod ov m pl)
      callWith pos f first (backTo pos (starEach [.Lambda params body scope lpos] X.env)) (backToKw pos (keywordEach [] X.env))) := by rfl) :
    PE X (.Call (.Attribute o m apos) [.Lambda params body scope lpos] [] pos) (tMLamS C m T TT Eo iu ta t) := by
  obtain ⟨oc, od, dV, kV, doc, pm, an, cdv, ct, osl, rfl, lk, hcg, _, _⟩ := F.ex
  refine ⟨fun pins s σ H Q I h => ?_⟩
  refine PySem.W.methodCall_KW (pl := pl) (thn (ho.run pins s σ H _ I h) fun uo s1 ⟨x1, H1, I1, rx, am, dx, fs, ex, ea, l, hT, q⟩ => ?_) ht
  subst ex
  obtain rfl : uo = Value.ref am := rx
  refine getmeth_ok I1 ea hc hm l ?_
  refine PySem.W.callWith_K (first := [.ref am]) (h₀ := X.base) I.ok.mod.kin hm.kp ?_ (by rfl) (by rfl)
  show wpAny _ _ (spliced ((false, eval (.Lambda params body scope lpos) X.env) :: backTo pos (starEach [] X.env))) _ _ s1
  refine Calls.spliced_cons (lam_make2 I1 TB hcode hmT hu hT hdef (L.has I1.ok) fun f c' pm' ctv H2 s' I2 eN T2 hf hfn hfr hco => ?_)
  refine Calls.spliced_nil ⟨I2.kIn, ?_⟩
  have rc : codeAny (model X.prog X.w) X.A (.call (.ref g) ⟨[.ref am, .ref f], []⟩) (CR (L2.CX X.prog X.w) X.stack X.prog X.w H2 s' Q (Eo σ)) s' := by
    refine run_ofS (N := Ng) (ps := [b, a]) (us := [.ref am, .ref f]) (vs := [.ref am, .ref f]) lk hcg Sg hr I2.env0 (hb s' [.ref am, .ref f] I2.kIn rfl) (.cons rfl (.cons rfl .nil)) rfl fun hr' => ?_
    exact hG cdv f c' s' H2 Q (Eo σ) (.ref am) (fun E v H' Q' => t E (σ.set iu (some v)) H' Q') (fun W pn xe E p1 p2 p3 tk hW => pe_act1 (i := 1) (j := 0) I2 L hiu hNd hf hfn hfr (fun uv => hbind _ _ _ _ _ uv) tk hW hr' (fun A outer s H hr2 => hbody A outer s H E f c' hr2) hN1 hva hN0 hvb hda hca hdb hcb) hco (q H2 eN T2)
  refine wpAny_call (codeAny_mono rc fun r s2 hq => ?_)
  cases r with
  | error e => exact hx σ pins H2 s' e s2 I2 hq
  | ok fl =>
    cases fl with
    | ret z => exact I2.after hq
    | next => exact False.elim hq
    | brk => exact False.elim hq
    | cont => exact False.elim hq
end
end WkI
namespace WkK
open PySem PySem.Spec PyProof.Rows L2 WkD WkN
theorem ixL {X : Cx} (K : PySem.W.Frag) (h : X.K = K) : IxR X (rIxL K) := by
  subst h
  exact ix_list
end WkK
namespace HT
open PySem PySem.Spec PyProof.Rows
section
variable {prog : Program} {w : World} {A : Around} {E : Value → Shared → Prop} {s : Shared}
end
end HT
namespace WkK
open PySem PySem.Spec PyProof.Rows L2
end WkK
namespace WkU
open PySem PySem.Spec PyProof.Rows L2
end WkU
namespace Wk
open PySem PySem.Spec PyProof.Rows L2 WkD WkN LamX WkP WkE WkC
open PySem.W (EachIs)
section
variable {P : Program} {w : World} {K : PySem.W.Frag} {mg : Str → Option Value} {base : Heap}
theorem net98_re {H H' : Hp} {x C pr m e dx' e2 : Addr} {ad : Str → Addr} {nb : Nb} {wt : Wt} {t : Str} {rs : List Addr} {M : List Int} {L2 : List Ent} {r c r2 c2 : Int} (NO : NetO H x C [] vAB nb wt t (nowW M) m e r c) (rz : RowsZ H pr vAB ad nb wt) (hm : H m = some (.tup (rs.map V.ref))) (hrs : EachIs (EdT H) rs M) (hbn : vB ∈ nb vA)
    (kt : KeepT H H') (kf : ∀ b o u, H b = some (.frz o u) → H' b = some (.frz o u)) (hx' : H' x = some (.ins C dx' (netF pr t (nowW M) m e2 r2 c2 ++ []))) (hl : Log98 H' e2 L2) : Net98 H' x C M L2 r2 c2 := by
  refine ⟨m, e2, nb, wt, t, rs, ⟨⟨dx', pr, ad, hx', ?_⟩, NO.rst, NO.asc, NO.an, NO.gok, NO.lc, NO.rt⟩, kt.1 _ _ hm, hrs.mono fun _ _ h => h.keep kt, hl, hbn⟩
  obtain ⟨o, ht⟩ := rz.top
  refine ⟨⟨o, kf _ _ _ ht⟩, fun u hu => ?_⟩
  obtain ⟨o2, h2⟩ := rz.row u hu
  exact ⟨o2, kf _ _ _ h2⟩
structure Mid98 (T : List (Addr × Str)) (C : Addr) (H0 H : Hp) (x p cs s : Addr) (N : Nat) (M A : List Int) (L : List Ent) (r c ca fa : Int) (ml : Addr) : Prop where
  b3 : But3 x p s H0 H
  tb : Tabs T H
  pen : Pen H p cs N
  net : Net98 H x C M (L ++ [.back A.length (nowW M)]) r c
  st : ∃ m2 ll, H s = some (.dK (stO m2 ll false ca fa)) ∧ Lst98 H m2 (M ++ A) ∧ Log98 H ll L
  kept : Lst98 H ml M
  ps : p ≠ s
  fm : M.length ≤ N
  fl : L.length ≤ N
theorem All98.ext {T : List (Addr × Str)} {C : Addr} {H H' : Hp} {x p cs s : Addr} {N : Nat} {M : List Int} {L : List Ent} {r c ca fa : Int} (a : All98 T C H x p cs s N M L r c ca fa) (k : ∀ b o, H b = some o → (∀ ps, o ≠ .tbl ps) → H' b = some o) (T' : Tabs T H') : All98 T C H' x p cs s N M L r c ca fa := by
  obtain ⟨ml, ll, h1, h2, h3⟩ := a.st
  have kt : KeepT H H' := ⟨fun c xs h => k _ _ h (fun ps z => by cases z), fun c xs h => k _ _ h (fun ps z => by cases z)⟩
  exact ⟨T', a.pen.ext k, a.net.keep (fun b o h ho => k _ _ h (by
    rcases ho with rfl | ⟨o1, o2, rfl⟩
    · obtain ⟨⟨dx, fs, hx⟩, _⟩ := a.pn
      rw [hx] at h
      cases h
      exact fun ps z => by cases z
    · exact fun ps z => by cases z)) kt, ⟨ml, ll, k _ _ h1 (fun ps z => by cases z), h2.keep kt, h3.keep kt⟩, a.ps, a.fm, a.fl⟩
theorem All98.net_ {T : List (Addr × Str)} {C dx : Addr} {fs : List (Str × V)} {H H' : Hp} {x p cs s : Addr} {N : Nat} {M : List Int} {L : List Ent} {r c r2 c2 ca fa : Int} (a : All98 T C H x p cs s N M L r c ca fa) (hx : H x = some (.ins C dx fs)) (k : ∀ b o, H b = some o → b ≠ x → H' b = some o) (hn : Net98 H' x C M L r2 c2) : All98 T C H' x p cs s N M L r2 c2 ca fa := by
  obtain ⟨_, ⟨k1, hp⟩, ⟨k2, hs⟩, px, sx⟩ := a.pn
  obtain ⟨ml, ll, h1, h2, h3⟩ := a.st
  have kt : KeepT H H' := ⟨fun c xs h => k _ _ h (ne_of h hx (by intro z; cases z)), fun c xs h => k _ _ h (ne_of h hx (by intro z; cases z))⟩
  have tb : Tabs T H' := fun pp hp => by
    obtain ⟨ps, h1, h2, h3⟩ := a.tb pp hp
    refine ⟨ps, k _ _ h1 (ne_of h1 hx (by intro z; cases z)), h2, fun pos cv hc => ?_⟩
    obtain ⟨c0, e1, e2⟩ := h3 pos cv hc
    exact ⟨c0, e1, k _ _ e2 (ne_of e2 hx (by unfold CodeO; intro z; cases z))⟩
  refine ⟨tb, ?_, hn, ⟨ml, ll, k _ _ h1 sx, h2.keep kt, h3.keep kt⟩, a.ps, a.fm, a.fl⟩
  obtain ⟨⟨t, r, g1, g2⟩, ns, g3, g4⟩ := a.pen
  exact ⟨⟨t, r, k _ _ g1 px, g2⟩, ns, kt.2 _ _ g3, g4⟩
theorem trback98 {T : List (Addr × Str)} {C CT dx pr m e tr : Addr} {to : HO} {ad : Str → Addr} {nb : Nb} {wt : Wt} {t : Str} {rs : List Addr} {H H2 : Hp} {x p cs s ml : Addr} {N N2 : Nat} {M A : List Int} {L L' : List Ent} {r c ca ca' fa : Int} {k : Hp → Prop} (S : All98 T C H x p cs s N M L r c ca fa) (hml : Lst98 H ml M)
    (NO : NetO H x C [] vAB nb wt t (nowW M) m e r c) (hx : H x = some (.ins C dx (netF pr t (nowW M) m e r c ++ []))) (rz : RowsZ H pr vAB ad nb wt) (hm : H m = some (.tup (rs.map V.ref))) (hrs : EachIs (EdT H) rs M) (hbn : vB ∈ nb vA) (B02 : But3 x p s H H2) (S2 : All98 T C H2 x p cs s N2 (M ++ A) L' (r + 1) (0 + A.length) ca' fa)
    (ntr : H tr = none) (htr : H2 tr = some to) (eto : ∃ dt fs, to = .ins CT dt fs) (hN2 : N2 < 900000) (hk : ∀ H3, Mid98 T C H H3 x p cs s N2 M A L' r c ca' fa ml → (∀ d v, H2 d = some (.xd v) → H3 d = some (.xd v)) → k H3) : TrBack C CT tr x pr m t (nowW M) c to H2 k := by
  obtain ⟨m2, e2, nb2, wt2, t2, rs2, NO2, hm2, hrs2, ⟨es2, hes2, hlog2⟩, _⟩ := S2.net.ex
  obtain ⟨dx2, p2, ad2, hx2, rz2⟩ := NO2.ex
  obtain ⟨dt, fst, rfl⟩ := eto
  obtain ⟨_, ⟨kp, hp⟩, ⟨ks, hs⟩, px, sx⟩ := S.pn
  have ptr : p ≠ tr := ne_of_none hp ntr
  have str_ : s ≠ tr := ne_of_none hs ntr
  have les : es2.length = L'.length := hlog2.length
  have f2 := S2.fl
  refine ⟨dx2, p2, t2, _, m2, e2, _, _, [], es2.map V.ref, hx2, hes2, by rw [List.length_map]; omega, by decide, htr, fun e3 q3 H3 B => hk H3 ?_ fun d v hd => B.keep _ _ hd (ne_of hd hx2 (by intro z; cases z)) (ne_of hd htr (by intro z; cases z))⟩
  have kp3 : ∀ b o, H2 b = some o → (∀ C dx fs, o ≠ .ins C dx fs) → H3 b = some o := fun b o h hn => B.keep _ _ h (ne_of h hx2 (hn _ _ _)) (ne_of h htr (hn _ _ _))
  have kt2 : KeepT H2 H3 := ⟨fun c xs h => kp3 _ _ h (fun _ _ _ z => by cases z), fun c xs h => kp3 _ _ h (fun _ _ _ z => by cases z)⟩
  have ktH : KeepT H H2 := KeepT.of B02 hx hp hs
  have ktA : KeepT H H3 := ⟨fun c xs h => kt2.1 _ _ (ktH.1 _ _ h), fun c xs h => kt2.2 _ _ (ktH.2 _ _ h)⟩
  obtain ⟨q1, hq3, hq1⟩ := B.row
  have en : r + 1 - 1 = r := by omega
  have ec : (0 : Int) + A.length = A.length := by omega
  have hx3 := B.net
  rw [en] at hx3
  rw [ec] at hq1
  obtain ⟨ml2, ll2, h1, h2, h3⟩ := S2.st
  refine ⟨fun b o h h1 h2 h3 h4 => B.keep _ _ (B02 b o h h1 h2 h3 h4) h1 (ne_of_none h ntr), fun pp hpp => ?_, ?_, ?_, ⟨ml2, ll2, ?_, h2.keep kt2, h3.keep kt2⟩, hml.keep ktA, S.ps, ?_, S2.fl⟩
  · obtain ⟨ps, h1, h2, h3⟩ := S2.tb pp hpp
    refine ⟨ps, kp3 _ _ h1 (fun _ _ _ z => by cases z), h2, fun pos cv hc => ?_⟩
    obtain ⟨c0, e1, e2'⟩ := h3 pos cv hc
    exact ⟨c0, e1, kp3 _ _ e2' (fun _ _ _ z => by unfold CodeO at z; cases z)⟩
  · obtain ⟨⟨t', r', g1, g2⟩, ns, g3, g4⟩ := S2.pen
    exact ⟨⟨t', r', kp3 _ _ g1 (fun _ _ _ z => by cases z), g2⟩, ns, kt2.2 _ _ g3, g4⟩
  · refine net98_re NO rz hm hrs hbn ktA (fun b o u h => ?_) hx3 ⟨es2 ++ [q3], by rw [List.map_append]; exact B.ent, ?_⟩
    · exact kp3 _ _ (B02 _ _ h (ne_of h hx (by intro z; cases z)) (ne_of h hp (by intro z; cases z)) (ne_of h hs (by intro z; cases z)) (fun ps z => by cases z)) (fun _ _ _ z => by cases z)
    · exact each_app98 (hlog2.mono fun _ _ h => h.keep kt2) (.cons ⟨q1, hq3, hq1⟩ .nil)
  · exact kp3 _ _ h1 (fun _ _ _ z => by cases z)
  · have := S2.fm
    rw [List.length_append] at this
    omega
theorem trkept98 {T : List (Addr × Str)} {C tr : Addr} {to : HO} {H2 : Hp} {x p cs s : Addr} {N2 : Nat} {M A : List Int} {L' : List Ent} {r c ca' fa : Int} {k : Hp → Prop} (S2 : All98 T C H2 x p cs s N2 (M ++ A) L' (r + 1) (0 + A.length) ca' fa) (htr : H2 tr = some to) (hN2 : N2 < 900000)
    (hk : ∀ H3, (∀ b o, H2 b = some o → b ≠ x → H3 b = some o) → All98 T C H3 x p cs s N2 (M ++ A) L' r (c + A.length) ca' fa → k H3) : TrKept C x tr c to H2 k := by
  obtain ⟨m2, e2, nb2, wt2, t2, rs2, NO2, hm2, hrs2, ⟨es2, hes2, hlog2⟩, hb2⟩ := S2.net.ex
  obtain ⟨dx2, p2, ad2, hx2, rz2⟩ := id NO2.ex
  have les : es2.length = L'.length := hlog2.length
  have f2 := S2.fl
  refine ⟨dx2, p2, t2, _, m2, e2, _, _, [], es2.map V.ref, hx2, hes2, by rw [List.length_map]; omega, by decide, htr, hk _ (fun b o h hne => by rw [upd_ne hne]; exact h) ?_⟩
  have en : r + 1 - 1 = r := by omega
  have ec : c + (0 + (A.length : Int)) = c + A.length := by omega
  rw [en, ec]
  refine S2.net_ hx2 (fun b o h hne => by rw [upd_ne hne]; exact h) ?_
  have kt : KeepT H2 (upd H2 x (.ins C dx2 (netF p2 t2 (nowW (M ++ A)) m2 e2 r (c + A.length) ++ []))) := ⟨fun c xs h => by rw [upd_ne (ne_of h hx2 (by intro z; cases z))]; exact h, fun c xs h => by rw [upd_ne (ne_of h hx2 (by intro z; cases z))]; exact h⟩
  exact net98_re NO2 rz2 hm2 hrs2 hb2 kt (fun b o u h => by rw [upd_ne (ne_of h hx2 (by intro z; cases z))]; exact h) upd_same ⟨es2, kt.2 _ _ hes2, hlog2.mono fun _ _ h => h.keep kt⟩
theorem Mid98.pre {T : List (Addr × Str)} {C : Addr} {H0 H1 H : Hp} {x p cs s ml : Addr} {N : Nat} {M A : List Int} {L : List Ent} {r c ca fa : Int} (b : But3 x p s H0 H1) (m : Mid98 T C H1 H x p cs s N M A L r c ca fa ml) : Mid98 T C H0 H x p cs s N M A L r c ca fa ml := ⟨b.trans m.b3, m.tb, m.pen, m.net, m.st, m.kept, m.ps, m.fm, m.fl⟩
theorem st_put98 {T : List (Addr × Str)} {C : Addr} {H H' : Hp} {x p cs s : Addr} {N : Nat} {M : List Int} {L : List Ent} {r c : Int} {k1 : List (Key × V)} (tb : Tabs T H) (pn : Pen H p cs N) (nt : Net98 H x C M L r c) (ps : p ≠ s) (hs : H s = some (.dK k1)) (k : ∀ b o, H b = some o → b ≠ s → H' b = some o) : Tabs T H' ∧ Pen H' p cs N ∧ Net98 H' x C M L r c ∧ KeepT H H' := by
  have kt : KeepT H H' := ⟨fun c xs h => k _ _ h (ne_of h hs (by intro z; cases z)), fun c xs h => k _ _ h (ne_of h hs (by intro z; cases z))⟩
  refine ⟨tabs_but tb hs trivial k, ?_, nt.keep (fun b o hb ho => k _ _ hb fun z => ?_) kt, kt⟩
  · obtain ⟨⟨t', r', h1, h2⟩, ns, h3, h4⟩ := pn
    exact ⟨⟨t', r', k _ _ h1 ps, h2⟩, ns, kt.2 _ _ h3, h4⟩
  · obtain ⟨m, e, nb, wt, t, rs, N, _⟩ := nt.ex
    obtain ⟨dx, pp, ad, hx, rz⟩ := N.ex
    rcases ho with ho | ⟨o1, o2, ho⟩
    · rw [← ho, z, hs] at hx
      cases hx
    · rw [z, hs, ho] at hb
      cases hb
theorem Mid98.put {T : List (Addr × Str)} {C : Addr} {H0 H H' : Hp} {x p cs s ml m2 ll : Addr} {N : Nat} {M A : List Int} {L : List Ent} {r c ca ca2 fa : Int} (m : Mid98 T C H0 H x p cs s N M A L r c ca fa ml) (hs : H s = some (.dK (stO m2 ll false ca fa))) (e : H' = upd H s (.dK (stO m2 ll false ca2 fa))) : Mid98 T C H0 H' x p cs s N M A L r c ca2 fa ml := by
  have k : ∀ b o, H b = some o → b ≠ s → H' b = some o := fun b o h hne => by rw [e, upd_ne hne]; exact h
  obtain ⟨tb, pn, nt, kt⟩ := st_put98 m.tb m.pen m.net m.ps hs k
  obtain ⟨m3, l3, h1, h2, h3⟩ := m.st
  rw [hs] at h1
  cases h1
  exact ⟨fun b o h h1 h2 h3 h4 => k _ _ (m.b3 b o h h1 h2 h3 h4) h3, tb, pn, nt, ⟨m2, ll, by rw [e, upd_same], h2.keep kt, h3.keep kt⟩, m.kept.keep kt, m.ps, m.fm, m.fl⟩
theorem slL98 {X : Cx} (K : PySem.W.Frag) (h : X.K = K) : SlR X (rSlL K) := by
  subst h
  exact sl_list
theorem sc_inside98 : FnScope ["_law_pen_here", "_law_own", "_law_state", "_law_levels", "_law_depth", "_law_kept", "_law_found", "e", "_law_network"] ["_law_pen_here", "_law_own", "_law_state", "_law_levels", "_law_depth"] (defScope s_L_inside) := ⟨rfl, rfl, rfl, by decide +kernel, rfl, by decide +kernel, by decide +kernel⟩
abbrev tLam98 (K : PySem.W.Frag) (T : List (Addr × Str)) (C CTW : Addr) (j : Nat) (E : XK) : TE := tCall (spLevel98 K T C CTW j) [] E (tCons (tVar 0) (tCons (tVar 8) (tCons (tVar 2) (tCons (tSl (rSlL K) (tVar 3) (tPart (tC (.int 1))) tNoPart) (tCons (tOp (rI0 fun i j => V.int (i + j)) (tVar 4) (tC (.int 1))) tNil)))))
abbrev tTry98 (K : PySem.W.Frag) (T : List (Addr × Str)) (C CT CTW : Addr) (j : Nat) (W : WX) : TS := tIfS (tTest (tOp rEq (tOp (rIxL K) (tVar 3) (tC (.int 0))) (tC (.int 0))))
  (tAsg (WkI.tMLamS C "explore" T (TTex C CT) (WE W) 8 (tVar 1) (tLam98 K T C CTW j)) (gName 6)) (tAsg (WkI.tMLamS C "attempt" T (TTat C CT) (WE W) 8 (tVar 1) (tLam98 K T C CTW j)) (gName 6))
theorem c_inside98 {C CT CTW fA fI gX gA cq PT : Addr} {tR : Tok} {fdX fdA : FuncData} {tbT : List (Addr × Str)} (j : Nat) (D : Def K mg "_law_inside" s_L_inside) (B : Bi mg) (LC : LogC K C fA) (TK : TrK P w K mg base C CT) (gR : mg "ROLLBACK" = some (.str "rollback" tR)) (TW : WkX.ExcT K mg "TooWeak" "found" CTW fI) (gTW : mg "TooWeak" = some (.ref CTW)) (eTW : PySem.W.exmOne K (.ref CTW) (.ref CTW) = some true)
    (hmX : Meth K C "explore" gX) (FX : FnP K "explore" "Network.explore" s_Network_explore gX fdX) (bX : L2.Binds K fdX ["self", "action"] []) (hmA : Meth K C "attempt" gA) (FA : FnP K "attempt" "Network.attempt" s_Network_attempt gA fdA) (bA : L2.Binds K fdA ["self", "action"] [])
    (TB : TabB base mg cq PT) (hmT : (PT, ("_law_inside.<locals>.<lambda>" : Str)) ∈ tbT) (huT : ∀ p ∈ tbT, p.1 = PT → p.2 = ("_law_inside.<locals>.<lambda>" : Str)) (hC : ∀ f, mg "_law_inside" = some (.ref f) → WkL.CodeIs K f cq)
    (C_draw : Callee P w K mg base CX0 1 "_law_draw" ["_law_pen_here", "_law_many"] spDraw) (C_now : Callee P w K mg base CX0 1 "_law_now" ["_law_made"] spNow98) (C_lr : Callee P w K mg base CX0 6 "_law_level_right" ["_law_own", "_law_state", "_law_depth"] (spLvr98 tbT C)) (C_lv : Callee P w K mg base (CX P w) (9 + 4 * j + 1) "_law_level" ["_law_pen_here", "_law_own", "_law_state", "_law_levels", "_law_depth"] (spLevel98 K tbT C CTW j)) :
    Callee P w K mg base (CX P w) (12 + 4 * j + 1) "_law_inside" ["_law_pen_here", "_law_own", "_law_state", "_law_levels", "_law_depth"] (spInside98 K tbT C CTW (j + 1)) := by
  obtain ⟨f, fd, F, gf⟩ := D
  refine ⟨f, fd, WkL.okC F sc_inside98 (hC f gf) (fun vs H Q E h => ?_) (fun A outer s H vs Q E hr h => ?_), gf, F.kp, F.bindsN (fun _ _ _ _ _ _ us hl => match us, hl with | [_, _, _, _, _], _ => rfl)⟩
  · obtain ⟨x, p, cs, s, lv, N, M, L, ds, r, c, ca, fa, rfl, _⟩ := h
    rfl
  have hu := hu_of hr
  have nd := sc_inside98.nd
  have hr12 : Room (9 + 4 * j + 1 + 2) _ := hr.mono (by omega)
  have hr6 : Room 6 _ := hr.mono (by omega)
  have hr4 : Room 4 _ := hr.mono (by omega)
  have hr1 : Room 1 _ := hr.mono (by omega)
  refine ⟨_, (pss_cons (ps_par (i := 5) (j := 6) (by rfl) nd rfl rfl (by decide) rfl rfl (pa_cons (pe_dget hu (pv 2) pe_str (fun _ _ => rfl)) (pa_cons pe_non pa_nil)) (by rfl))
      (pss_cons (ps_try_as (x := "TooWeak") (c := .ref CTW) (i := 7) (Wout := fun cls d _ H => E cls d H) (tb := tTry98 K tbT C CT CTW j) (ts := fun a cls d => sDPut (tVar 2) (tC (.str "caught")) (WkW.tExP K mg a cls d "found" (tVar 7))) rfl rfl nd rfl rfl ⟨by rfl, by decide, .inl gTW⟩ (takes_of rfl rfl rfl rfl)
      (fun W pn xe tk po => pss_one (ps_if (pt_cmpR op_eq (pe_ix (WkK.ixL K (by rfl)) (pv 3) pe_int (fun _ _ => rfl)) pe_int (nomark _)) (pss_one (ps_set (i := 6) nd rfl (Or.inl rfl) (WkI.pe_methLamS (k := 9 + 4 * j + 1) (iu := 8) (u := "_law_network") (T := tbT) (Eo := WE W) (TT := TTex C CT) (Ng := ["self", "action"]) (a := "action") (b := "self") (t := tLam98 K tbT C CTW j) (pv 1) LC.f.cls hmX FX bX ⟨rfl, rfl, rfl, by decide, rfl, by decide +kernel, by decide +kernel⟩ rfl rfl (Or.inl rfl) (Or.inl rfl) (fun cdv => gives_explore TK gR hr4) (fun σ => passAt tk σ) TB rfl hmT huT hr12 ⟨rfl, rfl, rfl, by decide +kernel, by decide +kernel, by decide +kernel, by show ∀ y : Str × NameKind, y ∈ _ → _ → (defScope s_L_inside).names.lookup y.1 = _ ∨ (defScope s_L_inside).names.lookup y.1 = _; decide +kernel⟩ rfl nd rfl (fun _ _ _ _ _ _ => rfl) (fun A outer s H E f c1 hrL => pe_c C_lv hrL (passes_call (takes_of rfl rfl rfl rfl) fun _ _ _ _ h => h) (pa_cons (pv 0) (pa_cons (pv 8) (pa_cons (pv 2) (pa_cons (pe_slice (slL98 K (by rfl)) (pv 3) (po_some pe_int) po_none) (pa_cons (pe_op op_add (pv 4) pe_int) pa_nil))))))))) (pss_one (ps_set (i := 6) nd rfl (Or.inl rfl) (WkI.pe_methLamS (k := 9 + 4 * j + 1) (iu := 8) (u := "_law_network") (T := tbT) (Eo := WE W) (TT := TTat C CT) (Ng := ["self", "action"]) (a := "action") (b := "self") (t := tLam98 K tbT C CTW j) (pv 1) LC.f.cls hmA FA bA ⟨rfl, rfl, rfl, by decide, rfl, by decide +kernel, by decide +kernel⟩ rfl rfl (Or.inl rfl) (Or.inl rfl) (fun cdv => gives_attempt TK hr4) (fun σ => passAt tk σ) TB rfl hmT huT hr12 ⟨rfl, rfl, rfl, by decide +kernel, by decide +kernel, by decide +kernel, by show ∀ y : Str × NameKind, y ∈ _ → _ → (defScope s_L_inside).names.lookup y.1 = _ ∨ (defScope s_L_inside).names.lookup y.1 = _; decide +kernel⟩ rfl nd rfl (fun _ _ _ _ _ _ => rfl) (fun A outer s H E f c1 hrL => pe_c C_lv hrL (passes_call (takes_of rfl rfl rfl rfl) fun _ _ _ _ h => h) (pa_cons (pv 0) (pa_cons (pv 8) (pa_cons (pv 2) (pa_cons (pe_slice (slL98 K (by rfl)) (pv 3) (po_some pe_int) po_none) (pa_cons (pe_op op_add (pv 4) pe_int) pa_nil)))))))))))
      (fun a oe cls d pn hz hf => pss_one (ps_dput hu (pv 2) pe_str (WkW.pe_exP (p := (a, oe)) List.mem_cons_self hz hf (pv 7)) rfl)))
      (pss_cons (ps_if (PW.pt (pw_or (pt_cmpR op_isN (pv 6) pe_non (nomark _)) (pw_or1 (pt_cmpR op_eq (pe_ix ix_list (pv 3) pe_int (fun _ _ => rfl)) pe_int (nomark _)))))
      (pss_cons (ps_dput hu (pv 2) pe_str (pe_op op_cat (pe_dget hu (pv 2) pe_str (fun _ _ => rfl)) (pe_lst (pa_cons (pe_tup (pa_cons (pe_tup (pa_cons pe_str (pa_cons (pe_op op_sub (pe_callB call_len_seq (by rfl) B.n_len (by decide +kernel) (pa_cons (pe_dget hu (pv 2) pe_str (fun _ _ => rfl)) pa_nil)) (pe_callB call_len_seq (by rfl) B.n_len (by decide +kernel) (pa_cons (pv 5) pa_nil))) pa_nil))) (pa_cons (pe_c C_now hr1 pass0 (pa_cons (pv 5) pa_nil)) pa_nil))) pa_nil))) rfl)
      (pss_one (ps_dput hu (pv 2) pe_str (pv 5) rfl))) pss_nil)
      (pss_cons (ps_if (PW.pt (pw_or (pt_not (pt_val (pe_c C_lr hr6 pass0 (pa_cons (pv 1) (pa_cons (pv 2) (pa_cons (pv 4) pa_nil)))))) (pw_or1 (pt_cmpR (WkN.opNotIn K (by rfl)) (pv 6) (pe_tup (pa_cons pe_non (pa_cons (pe_op op_add (pv 4) pe_int) pa_nil))) (by rfl)))))
      (pss_one (ps_dput hu (pv 2) pe_str pe_bl rfl)) pss_nil)
      (pss_one (ps_if (PW.pt (pw_and (pt_cmpR op_isN (pv 6) pe_non (nomark _)) (pw_and (pt_cmpR op_gt (pv 4) pe_int (nomark _)) (pw_and1 (pt_cmpR op_gt (pe_c C_draw hr1 pass0 (pa_cons (pv 0) (pa_cons pe_int pa_nil))) pe_int (nomark _))))))
      (pss_one (WkK.ps_raiseE rfl TW hr (takes_of rfl rfl rfl rfl) (pa_cons (pe_dget hu (pv 2) pe_str (fun _ _ => rfl)) pa_nil))) pss_nil)))))), ?_⟩
  obtain ⟨x, p, cs, s, lv, N, M, L, ds, r, c, ca, fa, rfl, S, hca, hlv, hne, hj, hN, k1, k2⟩ := h
  have big : 10000000 < sizeLine := by decide
  obtain ⟨d0, ds', rfl⟩ : ∃ d0 ds', ds = d0 :: ds' := by
    cases ds with
    | nil => exact absurd rfl hne
    | cons a b => exact ⟨a, b, rfl⟩
  have hj : ds'.length ≤ j := by
    have : ds'.length + 1 ≤ j + 1 := hj
    omega
  obtain ⟨ml, ll, hst, hml, hll⟩ := id S.st
  obtain ⟨m, e, nb, wt, t, rs, NO, hm, hrs, hlog, hbn⟩ := id S.net.ex
  obtain ⟨dx, pr, ad, hx, rz⟩ := id NO.ex
  obtain ⟨_, ⟨kp, hp⟩, ⟨ks, hs⟩, px, sx⟩ := S.pn
  refine ⟨_, rfl, s, .ref ml, rfl, .inl ⟨_, Sum.inr "made", .inl hst, rfl, rfl⟩, _, _, rfl, ?_⟩
  dsimp only
  refine seqk (t := fun D σ H => tTry98 K tbT C CT CTW j (wAs _ _ _ _ _ D) D σ H) (u := tSeq (tIfS _ _ _) _) (fun σ Hc => ∃ (fo : V) (A : List Int) (L' : List Ent) (ca' : Int), σ = [some (.ref p), some (.ref x), some (.ref s), some (.ref lv), some (.int r), some (.ref ml), some fo, none, none] ∧ (ca' = 0 ∨ ca' = fa) ∧ ((Mid98 tbT C H Hc x p cs s (N + 100 * (j + 1)) M A L' r c ca' fa ml ∧ (fo = .non ∧ ca' = fa ∨ fo = .int (r + 1) ∧ d0 = 0)) ∨ (But3 x p s H Hc ∧ All98 tbT C Hc x p cs s (N + 100 * (j + 1)) (M ++ A) L' r (c + A.length) ca' fa ∧ fo = .int (r + 1) ∧ d0 ≠ 0))) (fun nx' hk => ?_) (fun σ H8 hR => ?_)
  · have hat : atI ((d0 :: ds').map V.int) 0 = some (.int d0) := atI_nat (j := 0) rfl
    refine ⟨_, rfl, lv, _, 0, .int d0, rfl, rfl, SqL.of hlv.1, hat, rfl, _, rfl, ?_⟩
    by_cases e0 : d0 = 0
    · refine ite1 (by rw [e0]; simp) ?_
      refine ⟨_, rfl, x, dx, _, rfl, hx, rfl, S.tb, fun H2 eN T2 => ?_⟩
      have S2 := S.ext eN T2
      have B2 : But3 x p s H H2 := fun b o h _ _ _ h4 => eN b o h h4
      have kt2 : KeepT H H2 := ⟨fun c xs h => eN _ _ h (fun ps z => by cases z), fun c xs h => eN _ _ h (fun ps z => by cases z)⟩
      have hx2 := eN _ _ hx (fun ps z => by cases z)
      have rz2 : RowsZ H2 pr vAB ad nb wt := rz.ext eN
      have NO2 : NetO H2 x C [] vAB nb wt t (nowW M) m e r c := ⟨⟨dx, pr, ad, hx2, rz2⟩, NO.rst, NO.asc, NO.an, NO.gok, NO.lc, NO.rt⟩
      have hm2 := kt2.1 _ _ hm
      have hrs2 : EachIs (EdT H2) rs M := hrs.mono fun _ _ h => h.keep kt2
      refine ⟨x, dx, pr, m, e, t, nowW M, r, c, [], rfl, hx2, by decide, fun H3 tr to E' Q' keep3 hx3 ntr htr eto hE hQ => ?_⟩
      have kt3 : KeepT H2 H3 := ⟨fun c xs h => keep3 _ _ h (ne_of h hx2 (by intro z; cases z)), fun c xs h => keep3 _ _ h (ne_of h hx2 (by intro z; cases z))⟩
      have S3 : All98 tbT C H3 x p cs s N M L (r + 1) 0 ca fa := S2.net_ hx2 keep3 (net98_re NO2 rz2 hm2 hrs2 hbn kt3 (fun b o u h => keep3 _ _ h (ne_of h hx2 (by intro z; cases z))) hx3 ((hlog.keep kt2).keep kt3))
      have lv3 : H3 lv = some (.lst ((d0 :: ds').map V.int)) := kt3.2 _ _ (kt2.2 _ _ hlv.1)
      refine ⟨_, rfl, _, rfl, _, rfl, _, rfl, 1, rfl, lv, _, rfl, SqL.of lv3, fun p9 n9 => ?_⟩
      generalize gg9 : upd _ p9 _ = G9; obtain ⟨s9, L9⟩ := new_eq n9 gg9; clear gg9
      have S9 := S3.same s9
      have B29 : But3 x p s H2 G9 := fun b o h h1 _ _ _ => s9 _ _ (keep3 b o h h1)
      have L9 : G9 p9 = some (.lst (ds'.map V.int)) := by
        rw [WkV.cutV_one] at L9
        exact L9
      have xtr : tr ≠ x := Ne.symm (ne_of_none hx2 ntr)
      obtain ⟨⟨_, _, hx9⟩, ⟨kp9, hp9⟩, ⟨ks9, hs9⟩, _, _⟩ := S9.pn
      have htr9 : G9 tr = some to := s9 _ _ htr
      have ptr : tr ≠ p := fun z => by
        obtain ⟨_, ⟨kp2, hp2⟩, _⟩ := S2.pn
        rw [z, hp2] at ntr
        cases ntr
      have str_ : tr ≠ s := fun z => by
        obtain ⟨_, _, ⟨ks2, hs2⟩, _⟩ := S2.pn
        rw [z, hs2] at ntr
        cases ntr
      obtain ⟨dt, fst, eto'⟩ := id eto
      refine ⟨_, rfl, _, _, rfl, rfl, x, p, cs, s, p9, N, M, L, ds', r + 1, 0, ca, fa, rfl, S9, hca, ⟨L9, fun d hd => hlv.2 d (.tail _ hd)⟩, hj, by omega, fun H4 ⟨A4, L4, ca4, B4, S4, hca4⟩ => ?_, fun dd H4 ⟨A4, L4, ca4, B4, S4, hca4⟩ hdd => ?_⟩
      · have htr4 : H4 tr = some to := B4 _ _ htr9 xtr ptr str_ (fun ps z => by rw [eto'] at z; cases z)
        refine hQ _ _ (trback98 S2 (hml.keep kt2) NO2 hx2 rz2 hm2 hrs2 hbn (B29.trans B4) S4 ntr htr4 eto (by omega) fun H5 Md kx => ?_)
        exact hk _ _ ⟨.int (r + 1), A4, L4, ca4, rfl, hca4, .inl ⟨Md.pre B2, .inr ⟨rfl, e0⟩⟩⟩
      · have htr4 : H4 tr = some to := B4 _ _ htr9 xtr ptr str_ (fun ps z => by rw [eto'] at z; cases z)
        refine hE _ _ _ ⟨_, rfl⟩ (trback98 S2 (hml.keep kt2) NO2 hx2 rz2 hm2 hrs2 hbn (B29.trans B4) S4 ntr htr4 eto (by omega) fun H5 Md kx => ?_)
        refine ⟨true, eTW, fun _ a na => ?_, fun z => by cases z⟩
        obtain ⟨m5, l5, hs5, _⟩ := id Md.st
        refine ⟨_, rfl, rfl, _, CTW, fI, dd, _, .int fa, TW, rfl, rfl, kx _ _ hdd, rfl, _, rfl, s, _, rfl, .inl ⟨_, Sum.inr "caught", hs5, rfl, by show 5 < sizeLine; omega, rfl⟩, ?_⟩
        exact hk _ _ ⟨.non, A4, L4, fa, rfl, .inr rfl, .inl ⟨(Md.put hs5 rfl).pre B2, .inl ⟨rfl, rfl⟩⟩⟩
    · refine ite2 (fun h => absurd h (by simp [e0])) (fun _ => ?_)
      refine ⟨_, rfl, x, dx, _, rfl, hx, rfl, S.tb, fun H2 eN T2 => ?_⟩
      have S2 := S.ext eN T2
      have B2 : But3 x p s H H2 := fun b o h _ _ _ h4 => eN b o h h4
      have kt2 : KeepT H H2 := ⟨fun c xs h => eN _ _ h (fun ps z => by cases z), fun c xs h => eN _ _ h (fun ps z => by cases z)⟩
      have hx2 := eN _ _ hx (fun ps z => by cases z)
      have rz2 : RowsZ H2 pr vAB ad nb wt := rz.ext eN
      have NO2 : NetO H2 x C [] vAB nb wt t (nowW M) m e r c := ⟨⟨dx, pr, ad, hx2, rz2⟩, NO.rst, NO.asc, NO.an, NO.gok, NO.lc, NO.rt⟩
      have hm2 := kt2.1 _ _ hm
      have hrs2 : EachIs (EdT H2) rs M := hrs.mono fun _ _ h => h.keep kt2
      refine ⟨x, dx, pr, m, e, t, nowW M, r, c, [], rfl, hx2, by decide, fun H3 tr to E' Q' keep3 hx3 ntr htr eto hE hQ => ?_⟩
      have kt3 : KeepT H2 H3 := ⟨fun c xs h => keep3 _ _ h (ne_of h hx2 (by intro z; cases z)), fun c xs h => keep3 _ _ h (ne_of h hx2 (by intro z; cases z))⟩
      have S3 : All98 tbT C H3 x p cs s N M L (r + 1) 0 ca fa := S2.net_ hx2 keep3 (net98_re NO2 rz2 hm2 hrs2 hbn kt3 (fun b o u h => keep3 _ _ h (ne_of h hx2 (by intro z; cases z))) hx3 ((hlog.keep kt2).keep kt3))
      have lv3 : H3 lv = some (.lst ((d0 :: ds').map V.int)) := kt3.2 _ _ (kt2.2 _ _ hlv.1)
      refine ⟨_, rfl, _, rfl, _, rfl, _, rfl, 1, rfl, lv, _, rfl, SqL.of lv3, fun p9 n9 => ?_⟩
      generalize gg9 : upd _ p9 _ = G9; obtain ⟨s9, L9⟩ := new_eq n9 gg9; clear gg9
      have S9 := S3.same s9
      have B29 : But3 x p s H2 G9 := fun b o h h1 _ _ _ => s9 _ _ (keep3 b o h h1)
      have L9 : G9 p9 = some (.lst (ds'.map V.int)) := by
        rw [WkV.cutV_one] at L9
        exact L9
      have xtr : tr ≠ x := Ne.symm (ne_of_none hx2 ntr)
      obtain ⟨⟨_, _, hx9⟩, ⟨kp9, hp9⟩, ⟨ks9, hs9⟩, _, _⟩ := S9.pn
      have htr9 : G9 tr = some to := s9 _ _ htr
      have ptr : tr ≠ p := fun z => by
        obtain ⟨_, ⟨kp2, hp2⟩, _⟩ := S2.pn
        rw [z, hp2] at ntr
        cases ntr
      have str_ : tr ≠ s := fun z => by
        obtain ⟨_, _, ⟨ks2, hs2⟩, _⟩ := S2.pn
        rw [z, hs2] at ntr
        cases ntr
      obtain ⟨dt, fst, eto'⟩ := id eto
      refine ⟨_, rfl, _, _, rfl, rfl, x, p, cs, s, p9, N, M, L, ds', r + 1, 0, ca, fa, rfl, S9, hca, ⟨L9, fun d hd => hlv.2 d (.tail _ hd)⟩, hj, by omega, fun H4 ⟨A4, L4, ca4, B4, S4, hca4⟩ => ?_, fun dd H4 ⟨A4, L4, ca4, B4, S4, hca4⟩ hdd => ?_⟩
      · have htr4 : H4 tr = some to := B4 _ _ htr9 xtr ptr str_ (fun ps z => by rw [eto'] at z; cases z)
        refine hQ _ _ (trkept98 S4 htr4 (by omega) fun H5 k5 S5 => ?_)
        exact hk _ _ ⟨.int (r + 1), A4, L4, ca4, rfl, hca4, .inr ⟨(B2.trans (B29.trans B4)).trans (fun b o h h1 _ _ _ => k5 b o h h1), S5, rfl, e0⟩⟩
      · have htr4 : H4 tr = some to := B4 _ _ htr9 xtr ptr str_ (fun ps z => by rw [eto'] at z; cases z)
        refine hE _ _ _ ⟨_, rfl⟩ (trback98 S2 (hml.keep kt2) NO2 hx2 rz2 hm2 hrs2 hbn (B29.trans B4) S4 ntr htr4 eto (by omega) fun H5 Md kx => ?_)
        refine ⟨true, eTW, fun _ a na => ?_, fun z => by cases z⟩
        obtain ⟨m5, l5, hs5, _⟩ := id Md.st
        refine ⟨_, rfl, rfl, _, CTW, fI, dd, _, .int fa, TW, rfl, rfl, kx _ _ hdd, rfl, _, rfl, s, _, rfl, .inl ⟨_, Sum.inr "caught", hs5, rfl, by show 5 < sizeLine; omega, rfl⟩, ?_⟩
        exact hk _ _ ⟨.non, A4, L4, fa, rfl, .inr rfl, .inl ⟨(Md.put hs5 rfl).pre B2, .inl ⟨rfl, rfl⟩⟩⟩
  obtain ⟨fo, A8, L8, ca8, rfl, hca8, hM⟩ := hR
  refine seqk (t := tIfS _ _ _) (u := tSeq (tIfS _ _ _) _) (fun σ Hc => ∃ (fo : V) (A : List Int) (L' : List Ent) (ca' : Int), σ = [some (.ref p), some (.ref x), some (.ref s), some (.ref lv), some (.int r), some (.ref ml), some fo, none, none] ∧ (ca' = 0 ∨ ca' = fa) ∧ But3 x p s H Hc ∧ All98 tbT C Hc x p cs s (N + 100 * (j + 1) + 1) (M ++ A) L' r (c + A.length) ca' fa ∧ (fo = .non ∧ ca' = fa ∨ fo = .int (r + 1))) (fun nx' hk => ?_) (fun σ H15 hR => ?_)
  · have hat : atI ((d0 :: ds').map V.int) 0 = some (.int d0) := atI_nat (j := 0) rfl
    rcases hM with ⟨Md, hfo⟩ | ⟨B8, S8, rfl, e0⟩
    · have lv8 : H8 lv = some (.lst ((d0 :: ds').map V.int)) := (KeepT.of Md.b3 hx hp hs).2 _ _ hlv.1
      have yes : ∀ {F : Bool → Hp → Prop}, F true H8 → tOr (tTest (tOp (fun x y H Q => y = V.non ∧ Q (V.bl (decide (x = V.non))) H) (tVar 6) (tC V.non))) (tTest (tOp rEq (tOp (rIxL K) (tVar 3) (tC (V.int 0))) (tC (V.int 0)))) [some (.ref p), some (.ref x), some (.ref s), some (.ref lv), some (.int r), some (.ref ml), some fo, none, none] H8 F := fun {F} hF => by
        rcases hfo with ⟨rfl, _⟩ | ⟨rfl, e0⟩
        · exact ⟨_, rfl, rfl, _, rfl, ite1 (by simp) hF⟩
        · refine ⟨_, rfl, rfl, _, rfl, ite2 (fun h => absurd h (by simp)) (fun _ => ?_)⟩
          refine ⟨_, rfl, lv, _, 0, .int d0, rfl, rfl, SqL.of lv8, hat, rfl, _, rfl, ?_⟩
          rw [e0]
          exact hF
      refine yes (ite1 rfl ?_)
      obtain ⟨m8, l8, hs8, ⟨ra, hra, hra2⟩, ⟨rb, hrb, hrb2⟩⟩ := id Md.st
      obtain ⟨rk, hrk, hrk2⟩ := id Md.kept
      have lra : ra.length = M.length + A8.length := by rw [hra2.length, List.length_append]
      have lrk : rk.length = M.length := hrk2.length
      have lrb : rb.length = L8.length := hrb2.length
      have f8 := Md.fl
      refine ⟨_, rfl, s, .ref l8, rfl, .inl ⟨_, Sum.inr "log", .inl hs8, rfl, rfl⟩, _, rfl, s, .ref m8, rfl, .inl ⟨_, Sum.inr "made", .inl hs8, rfl, rfl⟩, m8, _, rfl, .inl (SqL.of hra), _, rfl, ml, _, rfl, .inl (SqL.of hrk), _, _, rfl, rfl, by show 2 ≤ sizeLine; decide, fun q1 n1 => ?_⟩
      generalize gg : upd H8 q1 _ = H9
      obtain ⟨s9, L9⟩ := new_eq n1 gg
      clear gg
      refine ⟨_, rfl, ml, M, rfl, Md.kept.keep (KeepT.same s9), fun H10 s10 => ?_⟩
      refine ⟨by show 2 ≤ sizeLine; decide, fun q2 n2 => ?_⟩
      generalize gg : upd H10 q2 _ = H11
      obtain ⟨s11, L11⟩ := new_eq n2 gg
      clear gg
      refine ⟨by show 1 ≤ sizeLine; decide, fun q3 n3 => ?_⟩
      generalize gg : upd H11 q3 _ = H12
      obtain ⟨s12, L12⟩ := new_eq n3 gg
      clear gg
      have s812 : Same H8 H12 := ((s9.trans s10).trans s11).trans s12
      refine ⟨l8, q3, _, _, rfl, rfl, s812 _ _ hrb, L12, by rw [List.length_map]; show rb.length + 1 ≤ sizeLine; omega, fun q4 n4 => ?_⟩
      generalize gg : upd H12 q4 _ = H13
      obtain ⟨s13, L13⟩ := new_eq n4 gg
      clear gg
      have s813 : Same H8 H13 := s812.trans s13
      have hs13 := s813 _ _ hs8
      refine ⟨_, rfl, s, _, rfl, .inl ⟨_, Sum.inr "log", hs13, rfl, by show 5 < sizeLine; omega, rfl⟩, ?_⟩
      have eA : (HO.dK (putK (stO m8 l8 false ca8 fa) (Sum.inr "log" : Key) (.ref q4))) = .dK (stO m8 q4 false ca8 fa) := rfl
      rw [eA]
      refine ⟨_, rfl, _, rfl, s, _, rfl, .inl ⟨_, Sum.inr "made", upd_same, rfl, by show 5 < sizeLine; omega, rfl⟩, ?_⟩
      have eB : (HO.dK (putK (stO m8 q4 false ca8 fa) (Sum.inr "made" : Key) (.ref ml))) = .dK (stO ml q4 false ca8 fa) := rfl
      rw [eB, upd_upd]
      generalize gg : upd H13 s (.dK (stO ml q4 false ca8 fa)) = H14
      have h14 : H14 s = some (.dK (stO ml q4 false ca8 fa)) := by rw [← gg, upd_same]
      have k14 : ∀ b o, H13 b = some o → b ≠ s → H14 b = some o := fun b o h hne => by rw [← gg, upd_ne hne]; exact h
      clear gg
      have S13 : Mid98 tbT C H H13 x p cs s (N + 100 * (j + 1)) M A8 L8 r c ca8 fa ml := by
        have kt := KeepT.same s813
        exact ⟨Md.b3.trans (But3.same s813), Md.tb.ext s813, Md.pen.same s813, Md.net.keep (fun b o h _ => s813 _ _ h) kt, ⟨m8, l8, hs13, ⟨ra, s813 _ _ hra, hra2.mono fun _ _ h => h.keep kt⟩, ⟨rb, s813 _ _ hrb, hrb2.mono fun _ _ h => h.keep kt⟩⟩, Md.kept.keep kt, Md.ps, Md.fm, Md.fl⟩
      obtain ⟨tb14, pn14, nt14, kt14⟩ := st_put98 S13.tb S13.pen S13.net S13.ps hs13 k14
      have ektl : (((ra.map V.ref).length : Int) - ((rk.map V.ref).length : Int)) = (A8.length : Int) := by
        rw [List.length_map, List.length_map, lra, lrk]
        omega
      have L9 : H9 q1 = some (.tup [.str "rollback", .int (((ra.map V.ref).length : Int) - ((rk.map V.ref).length : Int))]) := L9
      rw [ektl] at L9
      have hent : EntT H14 q2 (.back A8.length (nowW M)) := ⟨q1, kt14.1 _ _ (s13 _ _ (s12 _ _ L11)), kt14.1 _ _ (s13 _ _ (s12 _ _ (s11 _ _ (s10 _ _ L9))))⟩
      refine hk _ _ ⟨fo, [], L8 ++ [.back A8.length (nowW M)], ca8, rfl, hca8, fun b o h h1 h2 h3 h4 => k14 _ _ (S13.b3 b o h h1 h2 h3 h4) h3, ?_, hfo.imp id fun h => h.1⟩
      have ec : c + (([] : List Int).length : Int) = c := by simp
      rw [List.append_nil, ec]
      refine ⟨tb14, pn14.mono (by omega), nt14, ⟨ml, q4, h14, S13.kept.keep kt14, ⟨rb ++ [q2], by rw [List.map_append]; exact kt14.2 _ _ L13, ?_⟩⟩, S.ps, Nat.le_trans S.fm (by omega), ?_⟩
      · exact each_app98 ((hrb2.mono fun _ _ h => h.keep (KeepT.same s813)).mono fun _ _ h => h.keep kt14) (.cons hent .nil)
      · rw [List.length_append]
        show L8.length + 1 ≤ _
        omega
    · have lv8 : H8 lv = some (.lst ((d0 :: ds').map V.int)) := (KeepT.of B8 hx hp hs).2 _ _ hlv.1
      refine ⟨_, rfl, rfl, _, rfl, ite2 (fun h => absurd h (by simp)) (fun _ => ?_)⟩
      refine ⟨_, rfl, lv, _, 0, .int d0, rfl, rfl, SqL.of lv8, hat, rfl, _, rfl, ?_⟩
      refine ite2 (fun h => absurd h (by simp [e0])) (fun _ => ?_)
      exact hk _ _ ⟨.int (r + 1), A8, L8, ca8, rfl, hca8, B8, S8.mono (by omega), .inr rfl⟩
  obtain ⟨fo', A15, L15, ca15, rfl, hca15, B15, S15, hfo⟩ := hR
  refine ⟨_, rfl, _, rfl, _, rfl, x, p, cs, s, _, M ++ A15, L15, r, c + A15.length, ca15, fa, rfl, S15, by omega, fun H16 s16 => ?_⟩
  refine ⟨true, rfl, ?_⟩
  refine ite2 (fun h => absurd h (by simp)) (fun _ => ?_)
  have S16 := S15.same s16
  have B16 : But3 x p s H H16 := B15.trans (But3.same s16)
  refine ⟨_, rfl, _, rfl, _, _, rfl, rfl, by show 2 ≤ sizeLine; decide, fun p17 n17 => ?_⟩
  generalize gg17 : upd _ p17 _ = G17; obtain ⟨s17, L17⟩ := new_eq n17 gg17; clear gg17
  have S17 := S16.same s17
  have B17 : But3 x p s H G17 := B16.trans (But3.same s17)
  have hfl : flatV fo' = true := by
    rcases hfo with ⟨rfl, _⟩ | rfl <;> rfl
  have hin : inV fo' [V.non, .int (r + 1)] = true := by
    rcases hfo with ⟨rfl, _⟩ | rfl
    · rfl
    · simp [inV, eqV]
  refine ⟨p17, _, rfl, .inr (.inl (.inl L17)), hfl, rfl, _, rfl, ?_⟩
  refine ite2 (fun h => absurd h (by
    show ¬ (!inV fo' [V.non, .int (r + 1)]) = true
    rw [hin]
    decide)) (fun _ => ?_)
  have out : ∀ {G : Hp}, But3 x p s G17 G → All98 tbT C G x p cs s (N + 100 * (j + 1) + 10) (M ++ A15) L15 r (c + A15.length) ca15 fa → Out98 tbT C x p cs s (N + 100 * (j + 1) + 10) M r c fa H G := fun {G} b S => ⟨A15, L15, ca15, B17.trans b, S, hca15⟩
  rcases hfo with ⟨rfl, eca⟩ | rfl
  · refine ⟨_, rfl, rfl, _, rfl, ite1 (by simp) ?_⟩
    refine ⟨_, rfl, _, _, rfl, rfl, _, rfl, ?_⟩
    by_cases er : 0 < r
    · refine ite1 (decide_eq_true er) ?_
      refine ⟨_, rfl, p, cs, 3, _, rfl, by decide, by decide, S17.pen, by omega, fun d H18 d0 d1 b18 P18 => ?_⟩
      have S18 := (S17.but b18 P18 (Nat.le_succ _)).mono (N' := N + 100 * (j + 1) + 10) (by omega)
      refine ⟨_, _, rfl, rfl, _, rfl, ?_⟩
      by_cases ed : 0 < d
      · refine ite1 (decide_eq_true ed) ?_
        obtain ⟨m8, l8, hs8, _⟩ := id S18.st
        refine ⟨_, rfl, s, .int ca15, rfl, .inl ⟨_, Sum.inr "caught", .inl hs8, rfl, rfl⟩, _, rfl, fun dd ndd => ?_⟩
        generalize gg : upd H18 dd _ = H19
        obtain ⟨s19, L19⟩ := new_eq ndd gg
        clear gg
        refine k2 er dd H19 (out ((But3.pen b18).trans (But3.same s19)) (S18.same s19)) ?_
        rw [L19, eca]
      · refine ite2 (fun h => absurd (of_decide_eq_true h) ed) (fun _ => ?_)
        exact k1 _ (out (But3.pen b18) S18)
    · refine ite2 (fun h => absurd (of_decide_eq_true h) er) (fun _ => ?_)
      exact k1 _ (out But3.refl (S17.mono (by omega)))
  · refine ⟨_, rfl, rfl, _, rfl, ite2 (fun h => absurd h (by simp)) (fun _ => ?_)⟩
    exact k1 _ (out But3.refl (S17.mono (by omega)))
theorem c_inside0 {C CTW : Addr} {tbT : List (Addr × Str)} (D : Def K mg "_law_inside" s_L_inside) : Callee P w K mg base (CX P w) 9 "_law_inside" ["_law_pen_here", "_law_own", "_law_state", "_law_levels", "_law_depth"] (spInside98 K tbT C CTW 0) := by
  obtain ⟨f, fd, F, gf⟩ := D
  have no : ∀ vs H Q E, ¬ spInside98 K tbT C CTW 0 vs H Q E := fun vs H Q E h => by
    obtain ⟨x, p, cs, s, lv, N, M, L, ds, r, c, ca, fa, _, _, _, _, hne, hj, _⟩ := h
    cases ds with
    | nil => exact hne rfl
    | cons d ds => exact absurd hj (by simp)
  exact ⟨f, fd, F.ok sc_inside98 (fun vs H Q E h => absurd h (no _ _ _ _)) (fun cdv A outer s H vs Q E hr h => absurd h (no _ _ _ _)), gf, F.kp, F.bindsN (fun _ _ _ _ _ _ us hl => match us, hl with | [_, _, _, _, _], _ => rfl)⟩
theorem c_both98 {C CT CTW fA fI gX gA cq PT : Addr} {tR : Tok} {fdX fdA : FuncData} {tbT : List (Addr × Str)} (DL : Def K mg "_law_level" s_L_level) (D : Def K mg "_law_inside" s_L_inside) (B : Bi mg) (LC : LogC K C fA) (TK : TrK P w K mg base C CT) (gR : mg "ROLLBACK" = some (.str "rollback" tR)) (TW : WkX.ExcT K mg "TooWeak" "found" CTW fI) (gTW : mg "TooWeak" = some (.ref CTW)) (eTW : PySem.W.exmOne K (.ref CTW) (.ref CTW) = some true)
    (hmX : Meth K C "explore" gX) (FX : FnP K "explore" "Network.explore" s_Network_explore gX fdX) (bX : L2.Binds K fdX ["self", "action"] []) (hmA : Meth K C "attempt" gA) (FA : FnP K "attempt" "Network.attempt" s_Network_attempt gA fdA) (bA : L2.Binds K fdA ["self", "action"] [])
    (TB : TabB base mg cq PT) (hmT : (PT, ("_law_inside.<locals>.<lambda>" : Str)) ∈ tbT) (huT : ∀ p ∈ tbT, p.1 = PT → p.2 = ("_law_inside.<locals>.<lambda>" : Str)) (hC : ∀ f, mg "_law_inside" = some (.ref f) → WkL.CodeIs K f cq)
    (C_draw : Callee P w K mg base CX0 1 "_law_draw" ["_law_pen_here", "_law_many"] spDraw) (C_pick : Callee P w K mg base CX0 2 "_law_pick" ["_law_pen_here", "_law_some"] (spPick K)) (C_set : Callee P w K mg base (CX P w) 9 "_law_set" ["_law_pen_here", "_law_own", "_law_state"] (spSet98 K tbT C)) (C_now : Callee P w K mg base CX0 1 "_law_now" ["_law_made"] spNow98) (C_lr : Callee P w K mg base CX0 6 "_law_level_right" ["_law_own", "_law_state", "_law_depth"] (spLvr98 tbT C)) :
    ∀ j : Nat, Callee P w K mg base (CX P w) (9 + 4 * j) "_law_inside" ["_law_pen_here", "_law_own", "_law_state", "_law_levels", "_law_depth"] (spInside98 K tbT C CTW j) ∧ Callee P w K mg base (CX P w) (9 + 4 * j + 1) "_law_level" ["_law_pen_here", "_law_own", "_law_state", "_law_levels", "_law_depth"] (spLevel98 K tbT C CTW j)
  | 0 => ⟨c_inside0 D, c_level98 (fA := fA) 0 DL B TW C_draw C_pick C_set C_lr (c_inside0 D)⟩
  | j + 1 => by
    have ih := c_both98 DL D B LC TK gR TW gTW eTW hmX FX bX hmA FA bA TB hmT huT hC C_draw C_pick C_set C_now C_lr j
    have ci := c_inside98 j D B LC TK gR TW gTW eTW hmX FX bX hmA FA bA TB hmT huT hC C_draw C_now C_lr ih.2
    have e : 12 + 4 * j + 1 = 9 + 4 * (j + 1) := by omega
    rw [e] at ci
    exact ⟨ci, c_level98 (fA := fA) (j + 1) DL B TW C_draw C_pick C_set C_lr ci⟩
end
end Wk
namespace Wk
open PySem PySem.Spec PyProof.Rows L2 WkD WkN LamX WkP WkE WkC
section
variable {P : Program} {w : World} {K : PySem.W.Frag} {mg : Str → Option Value} {base : Heap}
theorem Valid.gok {vs0 Ws : List Str} {es : List Ed} {nb : Nb} {wt : Wt} (ok : Valid vs0 es) (ro : RowsOf vs0 es nb wt) (pm : Ws.Perm vs0) : GOk Ws nb wt := by
  have ln := pm.length_eq
  have two := ok.two
  have few := ok.few
  refine ⟨fun u hu => ok.nm u (pm.mem_iff.mp hu), pm.nodup_iff.mpr ok.nd, by omega, by omega, ok.sym ro pm, fun u hu v hv => ?_, fun s hs u hu => ok.con nb wt ro s (pm.mem_iff.mp hs) u (pm.mem_iff.mp hu)⟩
  have hu := pm.mem_iff.mp hu
  obtain ⟨n, hn⟩ := (ro.mem u hu v).mp hv
  rw [ro.val u hu v n hn]
  rcases hn with h | h
  · obtain ⟨i, hi⟩ := List.getElem?_of_mem h
    obtain ⟨_, _, _, h4, h5, _⟩ := ok.ed i _ _ _ hi
    exact ⟨h4, h5⟩
  · obtain ⟨i, hi⟩ := List.getElem?_of_mem h
    obtain ⟨_, _, _, h4, h5, _⟩ := ok.ed i _ _ _ hi
    exact ⟨h4, h5⟩
end
end Wk
namespace Wk
open PySem PySem.Spec PyProof.Rows L2 WkD WkN LamX WkP WkE WkC
open PySem.W (EachIs)
def es98 : List Ed := [(vB, vA, 5)]
theorem adj98 {u v : Str} {n : Int} : Adj es98 u v n ↔ (u = vB ∧ v = vA ∧ n = 5) ∨ (u = vA ∧ v = vB ∧ n = 5) := by
  unfold Adj es98
  simp only [List.mem_singleton, Prod.mk.injEq]
  constructor
  · rintro (⟨h1, h2, h3⟩ | ⟨h1, h2, h3⟩)
    · exact .inl ⟨h1, h2, h3⟩
    · exact .inr ⟨h2, h1, h3⟩
  · rintro (⟨h1, h2, h3⟩ | ⟨h1, h2, h3⟩)
    · exact .inl ⟨h1, h2, h3⟩
    · exact .inr ⟨h2, h1, h3⟩
theorem rows98 {nb : Nb} {wt : Wt} (ro : RowsOf vAB es98 nb wt) : vB ∈ nb vA ∧ vA ∈ nb vB ∧ wt vA vB = 5 := by
  have a : vA ∈ vAB := by simp
  have b : vB ∈ vAB := by simp
  exact ⟨(ro.mem vA a vB).mpr ⟨5, adj98.mpr (.inr ⟨rfl, rfl, rfl⟩)⟩, (ro.mem vB b vA).mpr ⟨5, adj98.mpr (.inl ⟨rfl, rfl, rfl⟩)⟩, ro.val vA a vB 5 (adj98.mpr (.inr ⟨rfl, rfl, rfl⟩))⟩
theorem valid98 : Valid vAB es98 := by
  refine ⟨by decide +kernel, by decide, by decide, by decide, fun i a b n h => ?_, fun nb wt ro => ?_⟩
  · cases i with
    | zero =>
      cases h
      exact ⟨by simp, by simp, Ne.symm vAB_ne, by decide, by decide, fun m h => by simp [Adj] at h⟩
    | succ i => simp [es98] at h
  · obtain ⟨h1, h2, _⟩ := rows98 ro
    exact (two_link h1 h2).2
theorem asc98 : Asc vAB := by
  unfold Asc
  simp only [List.pairwise_cons, List.mem_singleton, List.not_mem_nil, forall_eq, List.Pairwise.nil, and_true]
  refine ⟨?_, fun _ h => nomatch h⟩
  decide
section
variable {P : Program} {w : World} {K : PySem.W.Frag} {mg : Str → Option Value} {base : Heap}
def st4 (ml ll : Addr) (wr : Bool) (ca : Int) : List (Key × V) := [(Sum.inr "made", .ref ml), (Sum.inr "log", .ref ll), (Sum.inr "wrong", .bl wr), (Sum.inr "caught", .int ca)]
structure Turn98 (T : List (Addr × Str)) (C : Addr) (H : Hp) (x p cs s : Addr) (N : Nat) : Prop where
  tb : Tabs T H
  pen : Pen H p cs N
  st : ∃ M L c ml ll kv, Net98 H x C M L 0 c ∧ H s = some (.dK kv) ∧ (kv = st4 ml ll false 0 ∨ ∃ ca fa, kv = stO ml ll false ca fa) ∧ Lst98 H ml M ∧ Log98 H ll L ∧ M.length ≤ N ∧ L.length ≤ N
  ps : p ≠ s
theorem Turn98.but {T : List (Addr × Str)} {C : Addr} {H H' : Hp} {x p cs s : Addr} {N N' : Nat} (a : Turn98 T C H x p cs s N) (b : But p H H') (P' : Pen H' p cs N') (h : N ≤ N') : Turn98 T C H' x p cs s N' := by
  obtain ⟨M, L, c, ml, ll, kv, nt, hs, hkv, h2, h3, l1, l2⟩ := a.st
  obtain ⟨⟨t', r', hp, _⟩, _⟩ := a.pen
  have kt : KeepT H H' := ⟨fun c xs h => b _ _ h (ne_of h hp (by intro z; cases z)), fun c xs h => b _ _ h (ne_of h hp (by intro z; cases z))⟩
  refine ⟨tabs_but a.tb hp trivial b, P', ⟨M, L, c, ml, ll, kv, nt.keep (fun b' o h ho => b _ _ h fun z => ?_) kt, b _ _ hs (Ne.symm a.ps), hkv, h2.keep kt, h3.keep kt, Nat.le_trans l1 h, Nat.le_trans l2 h⟩, a.ps⟩
  obtain ⟨m, e, nb, wt, t, rs, N, _⟩ := nt.ex
  obtain ⟨dx, pp, ad, hx, rz⟩ := N.ex
  rcases ho with ho | ⟨o1, o2, ho⟩
  · rw [← ho, z, hp] at hx
    cases hx
  · rw [z, hp, ho] at h
    cases h
theorem sc_law98 : FnScope ["_law_script", "_law_pen_here", "_law_bout", "_law_house", "_law_state", "_law_turn", "_law_levels", "_law_k"] ["_law_script"] (defScope s_law) := ⟨rfl, rfl, rfl, by decide +kernel, rfl, by decide +kernel, by decide +kernel⟩
theorem ok_law {f fA CTW C CN fG : Addr} {fd : FuncData} {tbT : List (Addr × Str)} (F : FnP K "law" "law" s_law f fd) (B : Bi mg) (LC : LogC K C fA) (nc : NCls K C CN fG) (NM : MakeC P w K mg base CX0 C "LoggedNetwork" 6 (spNet K tbT CN fG))
    (C_pen : Callee P w K mg base CX0 1 "_law_pen" ["_law_script"] (spPen K)) (C_draw : Callee P w K mg base CX0 1 "_law_draw" ["_law_pen_here", "_law_many"] spDraw) (C_in : Callee P w K mg base (CX P w) (9 + 4 * 12) "_law_inside" ["_law_pen_here", "_law_own", "_law_state", "_law_levels", "_law_depth"] (spInside98 K tbT C CTW 12)) : WkG.FnG P w K mg base CX0 58 f fd ["_law_script"] (spLawT K tbT) := by
  refine WkG.okG F sc_law98 (fun vs H Q E h => ?_) (fun cdv A outer s H vs Q E hG hr h => ?_)
  · obtain ⟨a, ns, rfl, _⟩ := h
    rfl
  have hu := hu_of hr
  have nd := sc_law98.nd
  have hrI : Room (9 + 4 * 12) _ := hr
  have hr7 : Room 7 _ := hr.mono (by decide)
  have hr1 : Room 1 _ := hr.mono (by decide)
  refine ⟨_, PSs.nox (pss_cons (ps_set (i := 1) nd rfl (Or.inr rfl) (pe_c C_pen hr1 pass0 (pa_cons (pv 0) pa_nil)))
      (pss_cons (ps_for PassesOwn.never rfl (pi_range1 (by rfl) B.n_range (pa_cons (pe_op op_add pe_int (pe_callB (call_min2 rfl) (by rfl) B.n_min (by decide +kernel) (pa_cons pe_int (pa_cons (pe_callB call_len_seq (by rfl) B.n_len (by decide +kernel) (pa_cons (pv 0) pa_nil)) pa_nil)))) pa_nil)) (pg_name (i := 2) nd rfl (Or.inl rfl))
      (pss_cons (ps_par (i := 3) (j := 4) (by rfl) nd rfl rfl (by decide) rfl rfl (pa_cons (WkC.pe_mk NM hr7 pass0 (pa_cons (pe_lst (pa_cons pe_str (pa_cons pe_str pa_nil))) (pa_cons (pe_lst (pa_cons (pe_tup (pa_cons pe_str (pa_cons pe_str (pa_cons pe_int pa_nil)))) pa_nil)) pa_nil))) (pa_cons (pe_disp (pps_cons pe_str (pe_lst pa_nil) (pps_cons pe_str (pe_lst pa_nil) (pps_cons pe_str pe_bl (pps_cons pe_str pe_int pps_nil)))) (by rfl) (by rfl) (fun z => by cases z) (by decide)) pa_nil)) (by rfl))
      (pss_one (ps_for PassesOwn.never rfl (pi_range1 (by rfl) B.n_range (pa_cons pe_int pa_nil)) (pg_name (i := 5) nd rfl (Or.inl rfl))
      (pss_cons (ps_setLc (i := 6) (own := [("_law_k", 7)]) (by rfl) nd rfl rfl (sw_true rfl rfl rfl (by decide +kernel)) (pi_range1 (by rfl) B.n_range (pa_cons (pe_op op_add pe_int (pe_c C_draw hr1 pass0 (pa_cons (pv 1) (pa_cons pe_int pa_nil)))) pa_nil)) (blkOk_by (by kernel_rfl)) (fun _ _ _ _ _ => (pg_name (i := 7) nd rfl (Or.inl rfl))) (fun _ _ _ _ _ => pts_nil) (fun _ _ _ _ _ => (pe_c C_draw hr1 pass0 (pa_cons (pv 1) (pa_cons pe_int pa_nil)))))
      (pss_cons (ps_dput hu (pv 4) pe_str (pe_op op_add (pe_c C_draw hr1 pass0 (pa_cons (pv 1) (pa_cons (pe_op op_mul pe_int (pe_callB call_len_seq (by rfl) B.n_len (by decide +kernel) (pa_cons (pv 6) pa_nil))) pa_nil))) pe_int) rfl)
      (pss_cons (ps_dput hu (pv 4) pe_str pe_int rfl)
      (pss_cons (ps_expr (pe_c C_in hrI WkK.passF (pa_cons (pv 1) (pa_cons (pv 3) (pa_cons (pv 4) (pa_cons (pv 6) (pa_cons pe_int pa_nil)))))))
      (pss_one (ps_if (PW.pt (pw_or (pt_val (pe_dget hu (pv 4) pe_str (fun _ _ => rfl))) (pw_or1 (pt_cmpR (WkN.opNotIn K (by rfl)) (pe_dget hu (pv 4) pe_str (fun _ _ => rfl)) (pe_tup (pa_cons pe_int (pa_cons (pe_dget hu (pv 4) pe_str (fun _ _ => rfl)) pa_nil))) (by rfl)))))
      (pss_one (ps_ret pe_bl)) pss_nil))))))))))
      (pss_one (ps_ret pe_bl)))), ?_⟩
  obtain ⟨a, ns, rfl, hS, hl, hT, k⟩ := h
  have big : 10000000 < sizeLine := by decide
  refine ⟨_, rfl, a, ns, rfl, hS, hl, fun p cs H1 np ncs s1 P1 => ?_⟩
  have T1 := hT.ext s1
  refine ⟨_, rfl, a, _, rfl, .inl (s1.seq hS), _, _, rfl, _, _, rfl, rfl, ?_⟩
  rw [List.length_map]
  obtain ⟨nbo, enb, nb0, nb1⟩ : ∃ n : Int, n = 2 + (if (ns.length : Int) < 3 then (ns.length : Int) else 3) ∧ 0 ≤ n ∧ n ≤ 5 := ⟨_, rfl, by split <;> omega, by split <;> omega⟩
  refine ⟨nbo, by rw [enb], by omega, by omega, ?_⟩
  refine for_it (walk_range (lo := 0) (n := nbo.toNat)) (fun i σ Hc => ∃ x2 x3 x4 x5 x6 x7 : Option V, σ = [some (.ref a), some (.ref p), x2, x3, x4, x5, x6, x7] ∧ Pen Hc p cs (10000 * i) ∧ Tabs tbT Hc) ⟨_, _, _, _, _, _, rfl, P1, T1⟩ ?_ ?_ ?_
  · intros
    trivial
  · rintro i x0 σ H0 H0' hi ⟨x2, x3, x4, x5, x6, x7, rfl, P0, T0⟩ ⟨rfl, rfl⟩
    have hi5 : i < 5 := by omega
    refine ⟨by show 2 ≤ sizeLine; decide, fun p2 n2 => ?_⟩
    generalize gg2 : upd _ p2 _ = G2; obtain ⟨s2, L2⟩ := new_eq n2 gg2; clear gg2
    refine ⟨by show 3 ≤ sizeLine; decide, fun p3 n3 => ?_⟩
    generalize gg3 : upd _ p3 _ = G3; obtain ⟨s3, L3⟩ := new_eq n3 gg3; clear gg3
    refine ⟨by show 1 ≤ sizeLine; decide, fun p4 n4 => ?_⟩
    generalize gg4 : upd _ p4 _ = G4; obtain ⟨s4, L4⟩ := new_eq n4 gg4; clear gg4
    have s04 := (s2.trans s3).trans s4
    have P4 := P0.same s04
    have T4 := T0.ext s04
    intro x dx nx ndx ne
    have s5 : Same G4 (upd G4 dx (.own x)) := same_upd ndx
    have nx1 : upd G4 dx (.own x) x = none := by rw [upd_ne (Ne.symm ne)]; exact nx
    have s6 := s5.trans (same_upd (o := .ins C dx []) nx1)
    have L2' : G4 p2 = some (.lst (vAB.map V.str)) := s4 _ _ (s3 _ _ L2)
    have L3' : G4 p3 = some (.tup [.str vB, .str vA, .int 5]) := s4 _ _ L3
    have L4' : G4 p4 = some (.lst ([p3].map V.ref)) := L4
    have E4 : EdsAt K G4 [p3] es98 := ⟨rfl, fun i r e h1 h2 => by
      cases i with
      | zero =>
        cases h1
        cases h2
        exact .inl (.inl L3')
      | succ i => simp at h1⟩
    refine ⟨x, C, dx, p2, p4, true, true, vAB, es98, [p3], rfl, upd_same, nc, SqL.of (s6 _ _ L2'), SqL.of (s6 _ _ L4'), E4.same s6, valid98, T4.ext s6, fun pr Ws bd nb wt t n ms me en H7 eB T7 hx7 hme hen rz pw aw ro an ht hmin lc => ⟨rfl, ?_⟩⟩
    have e1 : Ws = vAB := asc_uniq (R := ltS) ltS_irrefl (fun a b c => ltS_trans) aw asc98 fun y => pw.mem_iff
    subst e1
    have go := valid98.gok ro pw
    obtain ⟨hbn, _, hw⟩ := rows98 ro
    have en5 : n = 5 := by rw [two_w go lc hbn, hw]
    subst en5
    have k47 : ∀ b o, G4 b = some o → (∀ ps, o ≠ .tbl ps) → H7 b = some o := fun b o h h2 => eB b o (s6 _ _ h) (ne_of_none h nx) h2
    have P7 : Pen H7 p cs (10000 * i) := P4.ext k47
    refine fun s ns => ?_
    generalize gg : upd H7 s _ = G8
    obtain ⟨s8, L8⟩ := new_eq ns gg
    clear gg
    refine ⟨by show 0 ≤ sizeLine; decide, fun p9 n9 => ?_⟩
    generalize gg9 : upd _ p9 _ = G9; obtain ⟨s9, L9⟩ := new_eq n9 gg9; clear gg9
    refine ⟨by show 0 ≤ sizeLine; decide, fun p10 n10 => ?_⟩
    generalize gg10 : upd _ p10 _ = G10; obtain ⟨s10, L10⟩ := new_eq n10 gg10; clear gg10
    have s710 : Same H7 G10 := (s8.trans s9).trans s10
    have hs10 : G10 s = some (.dK []) := s10 _ _ (s9 _ _ L8)
    refine ⟨hs10, [(Sum.inr "made", .ref p9), (Sum.inr "log", .ref p10), (Sum.inr "wrong", .bl false), (Sum.inr "caught", .int 0)], rfl, by show 4 ≤ 15; decide, _, _, rfl, ?_⟩
    have e11 : (HO.dK (mergeK [] [((Sum.inr "made" : Key), V.ref p9), (Sum.inr "log", .ref p10), (Sum.inr "wrong", .bl false), (Sum.inr "caught", .int 0)])) = .dK (st4 p9 p10 false 0) := rfl
    rw [e11]
    generalize gg : upd G10 s (.dK (st4 p9 p10 false 0)) = G11
    have h11 : G11 s = some (.dK (st4 p9 p10 false 0)) := by rw [← gg, upd_same]
    have k11 : ∀ b o, G10 b = some o → b ≠ s → G11 b = some o := fun b o h hne => by rw [← gg, upd_ne hne]; exact h
    clear gg
    have P10 := P7.same s710
    have ps : p ≠ s := by
      obtain ⟨⟨t', r', h1, _⟩, _⟩ := P7
      exact ne_of_none h1 ns
    have N10 : Net98 G10 x C [] [] 0 0 := by
      have hx10 := s710 _ _ hx7
      exact ⟨me, en, nb, wt, t, [], ⟨⟨dx, pr, bd, hx10, rz.ext (Ext.of s710)⟩, .inl rfl, asc98, an, go, ⟨ms, lc⟩, pw.mem_iff.mpr ht⟩, s710 _ _ hme, .nil, ⟨[], s710 _ _ hen, .nil⟩, hbn⟩
    obtain ⟨tb11, pn11, nt11, kt11⟩ := st_put98 (T7.ext s710) P10 N10 ps hs10 k11
    have Tn0 : Turn98 tbT C G11 x p cs s (10000 * i) := ⟨tb11, pn11, ⟨[], [], 0, p9, p10, _, nt11, h11, .inl rfl, ⟨[], kt11.2 _ _ (s10 _ _ L9), .nil⟩, ⟨[], kt11.2 _ _ L10, .nil⟩, Nat.zero_le _, Nat.zero_le _⟩, ps⟩
    refine ⟨2, rfl, by decide, by decide, ?_⟩
    refine for_it (walk_range (lo := 0) (n := 2)) (fun j σ Hc => ∃ x5 x6 x7 : Option V, σ = [some (.ref a), some (.ref p), some (.int (0 + (i : Int))), some (.ref x), some (.ref s), x5, x6, x7] ∧ Turn98 tbT C Hc x p cs s (10000 * i + 5000 * j)) ⟨_, _, _, rfl, Tn0⟩ ?_ ?_ ?_
    · intros
      trivial
    · rintro j y σ Hc Hc' hj ⟨x5, x6, x7, rfl, Tn⟩ ⟨rfl, rfl⟩
      refine ⟨_, rfl, p, cs, 12, _, rfl, by decide, by decide, Tn.pen, by omega, fun d H1 d0 d1 b1 P1 => ?_⟩
      have Tn1 := Tn.but b1 P1 (Nat.le_succ _)
      refine ⟨_, _, rfl, rfl, 1 + d, rfl, by omega, by omega, fun D nD => ?_⟩
      have Dp := P1.free nD
      refine lc_it (walk_range (lo := 0) (n := (1 + d).toNat)) (fun m Hc => But p H1 Hc ∧ Pen Hc p cs (10000 * i + 5000 * j + 1 + m) ∧ ∃ ds : List Int, ds.length = m ∧ (∀ d ∈ ds, 0 ≤ d ∧ d < 3) ∧ Hc D = some (.lst (ds.map V.int))) ⟨(But.refl p H1).put nD, P1.new nD, [], rfl, (fun d h => nomatch h), upd_same⟩ ?_ ?_ ?_
      · intros
        trivial
      · rintro m v Hc Hc2 hm ⟨b2, P2, ds, lds, hds, hD⟩ ⟨rfl, rfl⟩
        refine ⟨rfl, tYes_if ?_⟩
        refine ⟨_, rfl, p, cs, 3, _, rfl, by decide, by decide, P2, by omega, fun d2 H4 d20 d21 b4 P4 => ?_⟩
        refine ⟨_, b4 _ _ hD Dp.1, by rw [List.length_map]; omega, fun c o h hc => ?_, P4.put Dp.1 Dp.2, ds ++ [d2], by rw [List.length_append, lds]; rfl, fun e he => ?_, by rw [upd_same, List.map_append]; rfl⟩
        · rw [upd_ne (ne_of_none h nD)]
          exact b4 _ _ (b2 _ _ h hc) hc
        · rcases List.mem_append.mp he with he | he
          · exact hds e he
          · rw [List.mem_singleton.mp he]
            exact ⟨d20, d21⟩
      rintro H5 ⟨b5, P5, ds, lds, hds, hD⟩
      have Tn5 := Tn1.but b5 P5 (by omega)
      have ldp : 1 ≤ ds.length ∧ ds.length ≤ 12 := by omega
      refine ⟨_, rfl, _, rfl, D, _, rfl, .inl (SqL.of hD), _, _, rfl, rfl, .inl ⟨by decide, by decide⟩, ?_⟩
      rw [List.length_map]
      refine ⟨p, cs, 2 * (ds.length : Int), _, rfl, by omega, by omega, Tn5.pen, by omega, fun d6 H6 d60 d61 b6 P6 => ?_⟩
      have Tn6 := Tn5.but b6 P6 (Nat.le_succ _)
      have hD6 := b6 _ _ hD Dp.1
      obtain ⟨M, L, c, ml, ll, kv, nt, hs, hkv, hml, hll, l1, l2⟩ := Tn6.st
      refine ⟨_, _, rfl, rfl, _, rfl, s, _, rfl, .inl ⟨kv, Sum.inr "fails", hs, rfl, by rcases hkv with rfl | ⟨_, _, rfl⟩ <;> (show _ < sizeLine; simp [st4, stO]; omega), rfl⟩, ?_⟩
      have ekv : ∃ ca, putK kv (Sum.inr "fails" : Key) (.int (d6 + 1)) = stO ml ll false ca (d6 + 1) := by
        rcases hkv with rfl | ⟨ca, fa, rfl⟩
        · exact ⟨0, rfl⟩
        · exact ⟨ca, rfl⟩
      obtain ⟨ca0, ekv⟩ := ekv
      rw [ekv]
      refine ⟨_, rfl, s, _, rfl, .inl ⟨_, Sum.inr "caught", upd_same, rfl, by show 5 < sizeLine; omega, rfl⟩, ?_⟩
      have eB : (HO.dK (putK (stO ml ll false ca0 (d6 + 1)) (Sum.inr "caught" : Key) (.int 0))) = .dK (stO ml ll false 0 (d6 + 1)) := rfl
      rw [eB, upd_upd]
      generalize gg : upd H6 s (.dK (stO ml ll false 0 (d6 + 1))) = H7'
      have h7 : H7' s = some (.dK (stO ml ll false 0 (d6 + 1))) := by rw [← gg, upd_same]
      have k7 : ∀ b o, H6 b = some o → b ≠ s → H7' b = some o := fun b o h hne => by rw [← gg, upd_ne hne]; exact h
      clear gg
      obtain ⟨tb7, pn7, nt7, kt7⟩ := st_put98 Tn6.tb Tn6.pen nt ps hs k7
      have S7 : All98 tbT C H7' x p cs s _ M L 0 c 0 (d6 + 1) := ⟨tb7, pn7, nt7, ⟨ml, ll, h7, hml.keep kt7, hll.keep kt7⟩, ps, l1, l2⟩
      refine ⟨_, rfl, _, rfl, _, rfl, _, rfl, x, p, cs, s, D, _, M, L, ds, 0, c, 0, d6 + 1, rfl, S7, .inl rfl, ⟨kt7.2 _ _ hD6, hds⟩, (fun z => by rw [z] at ldp; exact absurd ldp.1 (by decide)), ldp.2, by omega, fun H8 ⟨A8, L8, ca8, B8, S8, hca8⟩ => ?_, fun h => absurd h (by decide)⟩
      obtain ⟨m8, l8, hs8, hm8, hl8⟩ := id S8.st
      refine ⟨_, rfl, s, .bl false, rfl, .inl ⟨_, Sum.inr "wrong", .inl hs8, rfl, rfl⟩, false, rfl, ?_⟩
      refine ite2 (fun h => absurd h (by decide)) (fun _ => ?_)
      refine ⟨_, rfl, s, .int ca8, rfl, .inl ⟨_, Sum.inr "caught", .inl hs8, rfl, rfl⟩, _, rfl, s, .int (d6 + 1), rfl, .inl ⟨_, Sum.inr "fails", .inl hs8, rfl, rfl⟩, by show 2 ≤ sizeLine; decide, fun p9' n9' => ?_⟩
      generalize gg : upd H8 p9' _ = H9'
      obtain ⟨s9', L9'⟩ := new_eq n9' gg
      clear gg
      have hin : inV (.int ca8) [V.int 0, .int (d6 + 1)] = true := by
        rcases hca8 with rfl | rfl <;> simp [inV, eqV]
      refine ⟨p9', _, rfl, .inr (.inl (.inl L9')), rfl, rfl, _, rfl, ?_⟩
      refine ite2 (fun h => absurd h (by
        show ¬ (!inV (.int ca8) [V.int 0, .int (d6 + 1)]) = true
        rw [hin]
        decide)) (fun _ => ?_)
      have S9 := (S8.same s9').mono (N' := 10000 * i + 5000 * (j + 1)) (by omega)
      obtain ⟨m9, l9, hs9, hm9, hl9⟩ := S9.st
      exact ⟨_, _, _, rfl, S9.tb, S9.pen, ⟨M ++ A8, L8, _, m9, l9, _, S9.net, hs9, .inr ⟨ca8, d6 + 1, rfl⟩, hm9, hl9, S9.fm, S9.fl⟩, ps⟩
    rintro σ H20 ⟨x5', x6', x7', rfl, Tn⟩
    exact ⟨_, _, _, _, _, _, rfl, Tn.pen.mono (by omega), Tn.tb⟩
  · rintro σ Hc ⟨x2, x3, x4, x5, x6, x7, rfl, _, _⟩
    exact k Hc
end
end Wk
namespace Wk
open PySem PySem.Spec PyProof.Rows L2 WkD WkN LamX WkP WkE WkC
section
variable {K : PySem.W.Frag} {h : Heap} {mg : Str → Option Value}
theorem def_of {x : Str} {d : WkJ.DefA} (X : K.In h) (G : h.Ns mainGlobals mg) (c : WkJ.Says fa da tf ex h K) (hd : d ∈ da) (hc : d.clo = []) (hg : He.Fa.glo x ∈ fa) (st : Stmt) (e : d = ⟨fun K => He.ga K x, x, x, defArgs st, defBody st, defScope st, [], [], []⟩) : Def K mg x st := by
  obtain ⟨fd, F⟩ := c.defs d hd
  have F := F.funD hc
  subst e
  exact ⟨_, fd, F, He.glo_ok X G (c.fact _ hg)⟩
theorem bi_of (X : K.In h) (G : h.Ns mainGlobals mg) (c : WkJ.Says fa da tf ex h K) : Bi mg :=
  ⟨He.free_ok X G (c.fact (.free "abs") (by simp [fa, fa2])), He.free_ok X G (c.fact (.free "all") (by simp [fa, fa2])), He.free_ok X G (c.fact (.free "any") (by simp [fa, fa2])), He.free_ok X G (c.fact (.free "bool") (by simp [fa, fa2])), He.free_ok X G (c.fact (.free "dict") (by simp [fa, fa2])), He.free_ok X G (c.fact (.free "enumerate") (by simp [fa, fa2])), He.free_ok X G (c.fact (.free "int") (by simp [fa, fa2])), He.free_ok X G (c.fact (.free "isinstance") (by simp [fa, fa2])), He.free_ok X G (c.fact (.free "len") (by simp [fa, fa2])), He.free_ok X G (c.fact (.free "list") (by simp [fa, fa2])), He.free_ok X G (c.fact (.free "max") (by simp [fa, fa2])), He.free_ok X G (c.fact (.free "min") (by simp [fa, fa2])), He.free_ok X G (c.fact (.free "range") (by simp [fa, fa2])), He.free_ok X G (c.fact (.free "repr") (by simp [fa, fa2])), He.free_ok X G (c.fact (.free "set") (by simp [fa, fa2])), He.free_ok X G (c.fact (.free "sorted") (by simp [fa, fa2])), He.free_ok X G (c.fact (.free "str") (by simp [fa, fa2])), He.free_ok X G (c.fact (.free "sum") (by simp [fa, fa2])), He.free_ok X G (c.fact (.free "tuple") (by simp [fa, fa2])), He.free_ok X G (c.fact (.free "zip") (by simp [fa, fa2])), He.free_ok X G (c.fact (.free "reversed") (by simp [fa, fa2])), He.free_ok X G (c.fact (.free "super") (by simp [fa, fa2])), He.free_ok X G (c.fact (.free "ValueError") (by simp [fa, fa2])), He.free_ok X G (c.fact (.free "LookupError") (by simp [fa, fa2])), He.free_ok X G (c.fact (.free "KeyError") (by simp [fa, fa2])), He.free_ok X G (c.fact (.free "IndexError") (by simp [fa, fa2])), He.free_ok X G (c.fact (.free "ArithmeticError") (by simp [fa, fa2])), He.free_ok X G (c.fact (.free "OverflowError") (by simp [fa, fa2])), He.free_ok X G (c.fact (.free "ZeroDivisionError") (by simp [fa, fa2])), He.free_ok X G (c.fact (.free "RuntimeError") (by simp [fa, fa2])), He.free_ok X G (c.fact (.free "TypeError") (by simp [fa, fa2]))⟩
theorem facts {w : World} {f : Addr} (X : K.In h) (G : h.Ns mainGlobals mg) (hfa : mg ("law" : Str) = some (.ref f)) (c : WkJ.Says fa da tf ex h K) : WkH.LawT PySem.Challenge.rw_weakcuts_k98_whole_long_and_deep_trials w K CX0 58 63 "_law_script" mg f h := by
  have hx := c.ex
  obtain ⟨x_sm, hx⟩ := He.ba hx
  obtain ⟨x_cv, hx⟩ := He.ba hx
  obtain ⟨x_cw, hx⟩ := He.ba hx
  obtain ⟨x_mro, hx⟩ := He.ba hx
  obtain ⟨x_sup, hx⟩ := He.ba hx
  obtain ⟨x_fni, hx⟩ := He.ba hx
  obtain ⟨x_ifi, hx⟩ := He.ba hx
  obtain ⟨x_spb, hx⟩ := He.ba hx
  obtain ⟨x_icl, hx⟩ := He.ba hx
  obtain ⟨x_thi, hx⟩ := He.ba hx
  obtain ⟨x_gv, hx⟩ := He.ba hx
  obtain ⟨x_gw, hx⟩ := He.ba hx
  obtain ⟨x_mck, hx⟩ := He.ba hx
  obtain ⟨x_mac, hx⟩ := He.ba hx
  obtain ⟨x_mcv, hx⟩ := He.ba hx
  obtain ⟨x_unk, hx⟩ := He.ba hx
  obtain ⟨x_two_0_1, hx⟩ := He.ba hx
  obtain ⟨x_cvL, hx⟩ := He.ba hx
  obtain ⟨x_cwL, hx⟩ := He.ba hx
  obtain ⟨x_mrL, hx⟩ := He.ba hx
  obtain ⟨x_mrLL, hx⟩ := He.ba hx
  obtain ⟨x_suL, hx⟩ := He.ba hx
  obtain ⟨x_suA, hx⟩ := He.ba hx
  obtain ⟨x_spl, hx⟩ := He.ba hx
  obtain ⟨x_icL, hx⟩ := He.ba hx
  obtain ⟨x_fna, hx⟩ := He.ba hx
  obtain ⟨x_ifa, hx⟩ := He.ba hx
  obtain ⟨x_mkL, hx⟩ := He.ba hx
  obtain ⟨x_miL, hx⟩ := He.ba hx
  obtain ⟨x_mfL, hx⟩ := He.ba hx
  obtain ⟨x_mpL, hx⟩ := He.ba hx
  obtain ⟨x_mckL, hx⟩ := He.ba hx
  obtain ⟨x_macL, hx⟩ := He.ba hx
  obtain ⟨x_mcvL, hx⟩ := He.ba hx
  obtain ⟨x_mswL, hx⟩ := He.ba hx
  obtain ⟨x_mwL, hx⟩ := He.ba hx
  obtain ⟨x_mhL, hx⟩ := He.ba hx
  obtain ⟨x_mxL, hx⟩ := He.ba hx
  obtain ⟨x_matL, hx⟩ := He.ba hx
  obtain ⟨x_stL, hx⟩ := He.ba hx
  obtain ⟨x_stL0, hx⟩ := He.ba hx
  obtain ⟨x_dpL, hx⟩ := He.ba hx
  obtain ⟨x_dpL0, hx⟩ := He.ba hx
  obtain ⟨x_lgL, hx⟩ := He.ba hx
  obtain ⟨x_x_InvalidEdge, hx⟩ := He.ba hx
  obtain ⟨x_x_Disconnected, hx⟩ := He.ba hx
  obtain ⟨x_x_TooWeak, hx⟩ := He.ba hx
  obtain ⟨x_ett, hx⟩ := He.ba hx
  obtain ⟨x_tfe, hx⟩ := He.ba hx
  obtain ⟨x_tfi, hx⟩ := He.ba hx
  obtain ⟨x_txe, hx⟩ := He.ba hx
  obtain ⟨x_txi, hx⟩ := He.ba hx
  have B := bi_of X G c
  obtain ⟨tL, gL⟩ := He.str_ok X G (c.fact (.str "LETTERS" letS) (by simp [fa, fa3]))
  have gN := He.glo_ok X G (c.fact (.glo "Network") (by simp [fa, fa1]))
  have gG := He.glo_ok X G (c.fact (.glo "Graph") (by simp [fa, fa1]))
  have cls := He.cls_ok (c.fact (.cls "Network") (by simp [fa, fa3]))
  have nat : ∀ f, He.Fa.noat "Network" f ∈ fa → NoAttr K (He.ga K "Network") f := fun f hf => He.noat_ok (c.fact _ hf)
  have natG : ∀ f, He.Fa.noat "Graph" f ∈ fa → NoAttr K (He.ga K "Graph") f := fun f hf => He.noat_ok (c.fact _ hf)
  have gc : GCls K (He.ga K "Network") := ⟨cls, nat _ (by simp [fa, fa3]), nat _ (by simp [fa, fa3]), WkJ.conB_ok x_cv, WkJ.conB_ok x_cw⟩
  have gcG : GCls K (He.ga K "Graph") := ⟨He.cls_ok (c.fact (.cls "Graph") (by simp [fa, fa3])), natG _ (by simp [fa, fa3]), natG _ (by simp [fa, fa3]), WkJ.conB_ok x_gv, WkJ.conB_ok x_gw⟩
  have nc : NCls K (He.ga K "Network") (He.ga K "Network") (He.ma K (He.ga K "Graph") "__init__") := ⟨gc, nat _ (by simp [fa, fa3]), nat _ (by simp [fa, fa3]), nat _ (by simp [fa, fa3]), nat _ (by simp [fa, fa3]), nat _ (by simp [fa, fa3]), of_decide_eq_true x_mro, He.eqO_ok x_sup⟩
  obtain ⟨fd, F⟩ := c.defs d_law98 (by simp [da])
  have F := F.funD rfl
  have e := hfa.symm.trans (He.glo_ok X G (c.fact (.glo "law") (by simp [fa, fa1])))
  cases e
  have b := FunD.bindsA (ps := ["_law_script"]) F fun _ _ _ _ _ _ us hl => match us, hl with | [_], _ => rfl
  obtain ⟨tb, etb⟩ : ∃ tb, tb = [((He.cT K (("last_two", none) : He.Defn)).2, ("last_two.<locals>.<lambda>" : Str)), ((He.cT K (("_law_inside", none) : He.Defn)).2, ("_law_inside.<locals>.<lambda>" : Str))] := ⟨_, rfl⟩
  refine ⟨fd, [He.cT K ("last_two", none), He.cT K ("_law_inside", none)], spLawT K tb, fun p hp => ?_, fun p hp => ?_, fun p hp => ?_, fun s v => b s [v] rfl, fun H a ms hl eT sq => ⟨a, ms, rfl, sq, hl, ?_, fun _ => rfl⟩, fun base kb nb TB => ?_⟩
  · simp only [List.mem_cons, List.not_mem_nil, or_false] at hp
    rcases hp with rfl | rfl
    · exact c.emp _ (by simp [tf])
    · exact c.emp _ (by simp [tf])
  · simp only [List.mem_cons, List.not_mem_nil, or_false] at hp
    rcases hp with rfl | rfl
    · exact c.out _ (by simp [tf])
    · exact c.out _ (by simp [tf])
  · simp only [List.mem_cons, List.not_mem_nil, or_false] at hp
    rcases hp with rfl | rfl
    · exact PySem.W.codeHd_of_K X (c.hd _ (by simp [tf]))
    · exact PySem.W.codeHd_of_K X (c.hd _ (by simp [tf]))
  · intro p hp
    rw [etb] at hp
    simp only [List.mem_cons, List.not_mem_nil, or_false] at hp
    rcases hp with rfl | rfl
    · exact TabS.nil (eT _ (by simp))
    · exact TabS.nil (eT _ (by simp))
  have C_draw := c_draw (P := (PySem.Challenge.rw_weakcuts_k98_whole_long_and_deep_trials).prog) (w := w) (base := base) (def_of X G c (d := d_draw) (by simp [da]) rfl (by simp [fa, fa1]) _ rfl) B
  have C_pick := c_pick (def_of X G c (d := d_pick) (by simp [da]) rfl (by simp [fa, fa1]) _ rfl) B C_draw
  have C_name := c_is_name (P := (PySem.Challenge.rw_weakcuts_k98_whole_long_and_deep_trials).prog) (w := w) (base := base) (def_of X G c (d := d_is_name) (by simp [da]) rfl (by simp [fa, fa1]) _ rfl) B gL
  have C_tup := c_is_tuple_of (P := (PySem.Challenge.rw_weakcuts_k98_whole_long_and_deep_trials).prog) (w := w) (base := base) (def_of X G c (d := d_is_tuple_of) (by simp [da]) rfl (by simp [fa, fa1]) _ rfl) B
  have C_bet := c_is_between (P := (PySem.Challenge.rw_weakcuts_k98_whole_long_and_deep_trials).prog) (w := w) (base := base) (def_of X G c (d := d_is_between) (by simp [da]) rfl (by simp [fa, fa1]) _ rfl) B
  have C_join := c_can_join (def_of X G c (d := d_can_join) (by simp [da]) rfl (by simp [fa, fa1]) _ rfl) C_name
  have C_last : Callee (PySem.Challenge.rw_weakcuts_k98_whole_long_and_deep_trials).prog w K mg base CX0 3 "last_two" ["rows"] (spLast tb) := c_last_two (def_of X G c (d := d_last_two) (by simp [da]) rfl (by simp [fa, fa1]) _ rfl) B (TB _ List.mem_cons_self) (by rw [etb]; simp) (fun p hp hq => by
      rw [etb] at hp
      simp only [List.mem_cons, List.not_mem_nil, or_false] at hp
      rcases hp with rfl | rfl
      · rfl
      · exact absurd hq (Ne.symm (of_decide_eq_true x_two_0_1))) fun f hf => by
    have e := hf.symm.trans (He.glo_ok X G (c.fact (.glo "last_two") (by simp [fa, fa1])))
    cases e
    refine WkJ.codeIs_of (p := ("last_two", none)) fun oc od fd osl lk => ?_
    obtain ⟨fd', F'⟩ := c.defs d_last_two (by simp [da])
    obtain ⟨oc', od', dV, kV, doc, pm, an, cdv, ct, osl', cl, e1, _, lk', cd, _⟩ := F'.ex
    have lk2 : K.lookup (He.fAd K ("last_two", none)) = some ⟨oc', od', .func fd', osl'⟩ := lk'
    rw [lk2] at lk
    cases lk
    rw [e1]
    exact cd
  have C_merge := c_merge_rows (P := (PySem.Challenge.rw_weakcuts_k98_whole_long_and_deep_trials).prog) (w := w) (base := base) (def_of X G c (d := d_merge_rows) (by simp [da]) rfl (by simp [fa, fa1]) _ rfl)
  have C_side := c_side_of (P := (PySem.Challenge.rw_weakcuts_k98_whole_long_and_deep_trials).prog) (w := w) (base := base) (def_of X G c (d := d_side_of) (by simp [da]) rfl (by simp [fa, fa1]) _ rfl) B
  have C_least := c_least_cut (def_of X G c (d := d_least_cut) (by simp [da]) rfl (by simp [fa, fa1]) _ rfl) B C_last C_merge C_side
  have C_str := c_strength_of (def_of X G c (d := d_strength_of) (by simp [da]) rfl (by simp [fa, fa1]) _ rfl) C_least
  have C_sort := c_sorted_rows (P := (PySem.Challenge.rw_weakcuts_k98_whole_long_and_deep_trials).prog) (w := w) (base := base) (def_of X G c (d := d_sorted_rows) (by simp [da]) rfl (by simp [fa, fa1]) _ rfl) B
  have C_rea := c_reached (P := (PySem.Challenge.rw_weakcuts_k98_whole_long_and_deep_trials).prog) (w := w) (base := base) (def_of X G c (d := d_reached) (by simp [da]) rfl (by simp [fa, fa1]) _ rfl) B
  have C_con := c_check_connected (def_of X G c (d := d_check_connected) (by simp [da]) rfl (by simp [fa, fa1]) _ rfl) B C_rea
  obtain ⟨fdG, FG⟩ := c.defs d_graph_init (by simp [da])
  have FG := FG.funD rfl
  have OG := ok_graph_init FG B C_name C_tup C_join C_bet C_con C_sort
  obtain ⟨fdN, FN⟩ := c.defs d_net_init (by simp [da])
  obtain ⟨hbd, cc, cda, ST⟩ := WkJ.supT_of (P := (PySem.Challenge.rw_weakcuts_k98_whole_long_and_deep_trials).prog) (mg := mg) (ps := ["self", "vertices", "edges"]) (D := He.ga K "Network") FN rfl x_spb x_icl B.n_super (by decide +kernel) ⟨_, rfl, rfl⟩ (He.eqO_ok x_thi)
  have ON := ok_net_init (tbT := tb) ST hbd OG (FunD.bindsN FG (fun _ _ _ _ _ _ us hl => match us, hl with | [_, _, _], _ => rfl)) x_fni x_ifi C_str
  obtain ⟨fdc, Fc⟩ := c.defs d_ck (by simp [da])
  obtain ⟨fda, Fa⟩ := c.defs d_accept (by simp [da])
  obtain ⟨fdk, Fk⟩ := c.defs d_check_vertex (by simp [da])
  obtain ⟨fdu, Fu⟩ := c.defs d_unk_init (by simp [da])
  have Fc := Fc.funD rfl
  have Fa := Fa.funD rfl
  have Fk := Fk.funD rfl
  have TU : WkX.ExcT K mg "UnknownVertex" "value" (He.ga K "UnknownVertex") (He.ma K (He.ga K "UnknownVertex") "__init__") := WkX.excT_mk (He.glo_ok X G (c.fact (.glo "UnknownVertex") (by simp [fa, fa1]))) x_unk PySem.F.excBase_LookupError WkX.tK WkX.pK WkX.oK WkX.f_value (WkJ.initA_of Fu rfl)
  have GM : MakeC (PySem.Challenge.rw_weakcuts_k98_whole_long_and_deep_trials).prog w K mg base CX0 (He.ga K "Graph") "Graph" 3 (spGraph K) := ⟨_, _, _, He.mkr_ok (c.fact (.mkr "Graph") (by simp [fa, fa3])), OG, gG, FunD.bindsN FG (fun _ _ _ _ _ _ us hl => match us, hl with | [_, _, _], _ => rfl)⟩
  have C_gof := c_graph_of (def_of X G c (d := d_graph_of) (by simp [da]) rfl (by simp [fa, fa1]) _ rfl) B gcG GM
  have AK : AccC (PySem.Challenge.rw_weakcuts_k98_whole_long_and_deep_trials).prog w K mg base (He.ga K "Network") := ⟨nc.f, ⟨_, _, _, WkJ.methB_ok x_mck, ok_ck Fc, FunD.bindsN Fc (fun _ _ _ _ _ _ us hl => match us, hl with | [_, _], _ => rfl)⟩⟩
  have MA : MethC (PySem.Challenge.rw_weakcuts_k98_whole_long_and_deep_trials).prog w K mg base CX0 (He.ga K "Network") "accept" 6 (spAccept K tb (He.ga K "Network")) := ⟨_, _, _, WkJ.methB_ok x_mac, ok_accept Fa gcG AK C_gof C_str, FunD.bindsN Fa (fun _ _ _ _ _ _ us hl => match us, hl with | [_, _, _, _], _ => rfl)⟩
  have MV : MethC (PySem.Challenge.rw_weakcuts_k98_whole_long_and_deep_trials).prog w K mg base (CX (PySem.Challenge.rw_weakcuts_k98_whole_long_and_deep_trials).prog w) (He.ga K "Network") "check_vertex" 2 (spCheck K (He.ga K "UnknownVertex")) := ⟨_, _, _, WkJ.methB_ok x_mcv, ok_check_vertex Fk TU C_name, FunD.bindsN Fk (fun _ _ _ _ _ _ us hl => match us, hl with | [_, _], _ => rfl)⟩
  have MN : MakeC (PySem.Challenge.rw_weakcuts_k98_whole_long_and_deep_trials).prog w K mg base CX0 (He.ga K "Network") "Network" 6 (spNet K tb (He.ga K "Network") (He.ma K (He.ga K "Graph") "__init__")) := ⟨_, _, _, He.mkr_ok (c.fact (.mkr "Network") (by simp [fa, fa3])), ON, gN, FN.binds rfl (fun _ _ _ _ _ _ _ us hl => match us, hl with | [_, _, _], _ => rfl)⟩
  obtain ⟨fd_TI, F_TI⟩ := c.defs d_init_invalidedge (by simp [da])
  have TI : WkX.ExcT K mg "InvalidEdge" "value" (He.ga K "InvalidEdge") (He.ma K (He.ga K "InvalidEdge") "__init__") := WkX.excT_mk (He.glo_ok X G (c.fact (.glo "InvalidEdge") (by simp [fa, fa1]))) x_x_InvalidEdge PySem.F.excBase_ValueError WkX.tV WkX.pV WkX.oV WkX.f_value (WkJ.initA_of F_TI rfl)
  obtain ⟨fd_TD, F_TD⟩ := c.defs d_init_disconnected (by simp [da])
  have TD : WkX.ExcT K mg "Disconnected" "side" (He.ga K "Disconnected") (He.ma K (He.ga K "Disconnected") "__init__") := WkX.excT_mk (He.glo_ok X G (c.fact (.glo "Disconnected") (by simp [fa, fa1]))) x_x_Disconnected PySem.F.excBase_ValueError WkX.tV WkX.pV WkX.oV WkX.f_side (WkJ.initA_of F_TD rfl)
  obtain ⟨fd_TW, F_TW⟩ := c.defs d_init_tooweak (by simp [da])
  have TW : WkX.ExcT K mg "TooWeak" "found" (He.ga K "TooWeak") (He.ma K (He.ga K "TooWeak") "__init__") := WkX.excT_mk (He.glo_ok X G (c.fact (.glo "TooWeak") (by simp [fa, fa1]))) x_x_TooWeak PySem.F.excBase_RuntimeError WkX.tR WkX.pR WkX.oR WkX.f_found (WkJ.initA_of F_TW rfl)
  obtain ⟨tW, gW⟩ := He.int_ok X G (c.fact (.int "MAX_WEIGHT" 1000000000) (by simp [fa, fa3]))
  have gLg := He.glo_ok X G (c.fact (.glo "LoggedNetwork") (by simp [fa, fa1]))
  have clL := He.cls_ok (c.fact (.cls "LoggedNetwork") (by simp [fa, fa3]))
  have naL : ∀ f, He.Fa.noat "LoggedNetwork" f ∈ fa → NoAttr K (He.ga K "LoggedNetwork") f := fun f hf => He.noat_ok (c.fact _ hf)
  have ncL : NCls K (He.ga K "LoggedNetwork") (He.ga K "Network") (He.ma K (He.ga K "Graph") "__init__") := ⟨⟨clL, naL _ (by simp [fa, fa3]), naL _ (by simp [fa, fa3]), WkJ.conB_ok x_cvL, WkJ.conB_ok x_cwL⟩, naL _ (by simp [fa, fa3]), naL _ (by simp [fa, fa3]), naL _ (by simp [fa, fa3]), naL _ (by simp [fa, fa3]), naL _ (by simp [fa, fa3]), of_decide_eq_true x_mrL, He.eqO_ok x_suL⟩
  have LC : LogC K (He.ga K "LoggedNetwork") (He.ma K (He.ga K "Network") "accept") := ⟨ncL.f, of_decide_eq_true x_mrLL, He.eqO_ok x_suA⟩
  have bN : Binds K fdN ["self", "vertices", "edges"] [] := FN.binds rfl (fun _ _ _ _ _ _ _ us hl => match us, hl with | [_, _, _], _ => rfl)
  have mkL : Mk K (He.ga K "LoggedNetwork") (He.ma K (He.ga K "Network") "__init__") := ⟨x_mkL, He.eqO_ok x_miL, x_mfL, x_mpL⟩
  have NM : MakeC (PySem.Challenge.rw_weakcuts_k98_whole_long_and_deep_trials).prog w K mg base CX0 (He.ga K "LoggedNetwork") "LoggedNetwork" 6 (spNet K tb (He.ga K "Network") (He.ma K (He.ga K "Graph") "__init__")) := ⟨_, _, _, mkL, ON, gLg, bN⟩
  have AKL : AccC (PySem.Challenge.rw_weakcuts_k98_whole_long_and_deep_trials).prog w K mg base (He.ga K "LoggedNetwork") := ⟨ncL.f, ⟨_, _, _, WkJ.methB_ok x_mckL, ok_ck Fc, FunD.bindsN Fc (fun _ _ _ _ _ _ us hl => match us, hl with | [_, _], _ => rfl)⟩⟩
  have OAL := ok_accept (tbT := tb) Fa gcG AKL C_gof C_str
  obtain ⟨fdL, FL⟩ := c.defs d_laccept (by simp [da])
  obtain ⟨hbL, ccL, cdaL, STL⟩ := WkJ.supT_of (P := (PySem.Challenge.rw_weakcuts_k98_whole_long_and_deep_trials).prog) (mg := mg) (ps := ["self", "edit", "around", "top"]) (D := He.ga K "LoggedNetwork") FL rfl x_spl x_icL B.n_super (by decide +kernel) ⟨_, rfl, rfl⟩ (He.eqO_ok x_thi)
  have OL := ok_laccept STL hbL OAL (FunD.bindsN Fa (fun _ _ _ _ _ _ us hl => match us, hl with | [_, _, _, _], _ => rfl)) x_fna x_ifa LC
  have MAL : MethC (PySem.Challenge.rw_weakcuts_k98_whole_long_and_deep_trials).prog w K mg base CX0 (He.ga K "LoggedNetwork") "accept" 7 (spAcceptL K tb (He.ga K "LoggedNetwork")) := ⟨_, _, _, WkJ.methB_ok x_macL, OL, FL.binds rfl (fun _ _ _ _ _ _ _ us hl => match us, hl with | [_, _, _, _], _ => rfl)⟩
  have MVL : MethC (PySem.Challenge.rw_weakcuts_k98_whole_long_and_deep_trials).prog w K mg base (CX (PySem.Challenge.rw_weakcuts_k98_whole_long_and_deep_trials).prog w) (He.ga K "LoggedNetwork") "check_vertex" 2 (spCheck K (He.ga K "UnknownVertex")) := ⟨_, _, _, WkJ.methB_ok x_mcvL, ok_check_vertex Fk TU C_name, FunD.bindsN Fk (fun _ _ _ _ _ _ us hl => match us, hl with | [_, _], _ => rfl)⟩
  have C_cr := c_copied_rows (P := (PySem.Challenge.rw_weakcuts_k98_whole_long_and_deep_trials).prog) (w := w) (base := base) (def_of X G c (d := d_copied_rows) (by simp [da]) rfl (by simp [fa, fa1]) _ rfl)
  have C_conX := c_check_connectedX (P := (PySem.Challenge.rw_weakcuts_k98_whole_long_and_deep_trials).prog) (w := w) (base := base) (def_of X G c (d := d_check_connected) (by simp [da]) rfl (by simp [fa, fa1]) _ rfl) B TD C_rea
  have C_rww := c_rows_with_weight (P := (PySem.Challenge.rw_weakcuts_k98_whole_long_and_deep_trials).prog) (w := w) (base := base) (def_of X G c (d := d_rows_with_weight) (by simp [da]) rfl (by simp [fa, fa1]) _ rfl) gW AKL TI MVL C_bet C_cr C_conX
  obtain ⟨fdsw, Fsw⟩ := c.defs d_lset_weight (by simp [da])
  obtain ⟨fdgw, Fgw⟩ := c.defs d_g_weight (by simp [da])
  obtain ⟨fdp, Fp⟩ := c.defs d_pstrength (by simp [da])
  obtain ⟨fdd, Fd⟩ := c.defs d_pdepth (by simp [da])
  obtain ⟨fdlg, Flg⟩ := c.defs d_plog (by simp [da])
  obtain ⟨fdh, Fh⟩ := c.defs d_history (by simp [da])
  obtain ⟨fda2, Fat⟩ := c.defs d_attempt (by simp [da])
  have Fsw := Fsw.funD rfl
  have Fgw := Fgw.funD rfl
  have Fp := Fp.funD rfl
  have Fd := Fd.funD rfl
  have Flg := Flg.funD rfl
  have Fh := Fh.funD rfl
  have Fat := Fat.funD rfl
  have SW : MethC (PySem.Challenge.rw_weakcuts_k98_whole_long_and_deep_trials).prog w K mg base (CX (PySem.Challenge.rw_weakcuts_k98_whole_long_and_deep_trials).prog w) (He.ga K "LoggedNetwork") "set_weight" 8 (spSetWL K tb (He.ga K "LoggedNetwork")) := ⟨_, _, _, WkJ.methB_ok x_mswL, ok_lset_weight Fsw AKL C_rww MAL, FunD.bindsN Fsw (fun _ _ _ _ _ _ us hl => match us, hl with | [_, _, _, _], _ => rfl)⟩
  have MW : MethC (PySem.Challenge.rw_weakcuts_k98_whole_long_and_deep_trials).prog w K mg base (CX (PySem.Challenge.rw_weakcuts_k98_whole_long_and_deep_trials).prog w) (He.ga K "LoggedNetwork") "weight" 3 (spGW K (He.ga K "LoggedNetwork") (He.ga K "UnknownVertex")) := ⟨_, _, _, WkJ.methB_ok x_mwL, ok_g_weight Fgw ncL.f MVL, FunD.bindsN Fgw (fun _ _ _ _ _ _ us hl => match us, hl with | [_, _, _], _ => rfl)⟩
  have PF : PropC (PySem.Challenge.rw_weakcuts_k98_whole_long_and_deep_trials).prog w K mg base CX0 (He.ga K "LoggedNetwork") "strength" 1 (spFound (He.ga K "LoggedNetwork")) := by
    have q := WkJ.propB_ok x_stL
    rw [of_decide_eq_true x_stL0] at q
    exact ⟨_, _, _, _, q, ok_pstrength Fp ncL.f, FunD.bindsN Fp (fun _ _ _ _ _ _ us hl => match us, hl with | [_], _ => rfl)⟩
  have PD : PropC (PySem.Challenge.rw_weakcuts_k98_whole_long_and_deep_trials).prog w K mg base CX0 (He.ga K "LoggedNetwork") "depth" 1 (spDepth (He.ga K "LoggedNetwork")) := by
    have q := WkJ.propB_ok x_dpL
    rw [of_decide_eq_true x_dpL0] at q
    exact ⟨_, _, _, _, q, ok_pdepth Fd ncL.f, FunD.bindsN Fd (fun _ _ _ _ _ _ us hl => match us, hl with | [_], _ => rfl)⟩
  have PL : PropC (PySem.Challenge.rw_weakcuts_k98_whole_long_and_deep_trials).prog w K mg base CX0 (He.ga K "LoggedNetwork") "log" 1 (spLog (He.ga K "LoggedNetwork")) := ⟨_, _, _, _, WkJ.propB_ok x_lgL, ok_plog Flg B ncL.f, FunD.bindsN Flg (fun _ _ _ _ _ _ us hl => match us, hl with | [_], _ => rfl)⟩
  have C_set := c_set98 (def_of X G c (d := d_set98) (by simp [da]) rfl (by simp [fa, fa1]) _ rfl) LC SW C_draw
  have C_now := c_now98 (P := (PySem.Challenge.rw_weakcuts_k98_whole_long_and_deep_trials).prog) (w := w) (base := base) (def_of X G c (d := d_now98) (by simp [da]) rfl (by simp [fa, fa1]) _ rfl)
  have C_lr := c_lvr98 (tbT := tb) (def_of X G c (d := d_lvr98) (by simp [da]) rfl (by simp [fa, fa1]) _ rfl) B LC PF PL PD MW (ok_history Fh) (WkJ.methB_ok x_mhL) (FunD.bindsN Fh (fun _ _ _ _ _ _ us hl => match us, hl with | [_], _ => rfl)) C_now
  obtain ⟨tR, gR⟩ := He.str_ok X G (c.fact (.str "ROLLBACK" "rollback") (by simp [fa, fa3]))
  have gT := He.glo_ok X G (c.fact (.glo "Trial") (by simp [fa, fa1]))
  have natT : ∀ f, He.Fa.noat "Trial" f ∈ fa → NoAttr K (He.ga K "Trial") f := fun f hf => He.noat_ok (c.fact _ hf)
  have TC : TrCls K (He.ga K "Trial") := ⟨He.cls_ok (c.fact (.cls "Trial") (by simp [fa, fa3])), natT _ (by simp [fa, fa3]), natT _ (by simp [fa, fa3]), natT _ (by simp [fa, fa3]), natT _ (by simp [fa, fa3]), natT _ (by simp [fa, fa3]), natT _ (by simp [fa, fa3]), natT _ (by simp [fa, fa3])⟩
  obtain ⟨fdt1, Ft1⟩ := c.defs d_tr_init (by simp [da])
  obtain ⟨fdt2, Ft2⟩ := c.defs d_tr_enter (by simp [da])
  obtain ⟨fdt3, Ft3⟩ := c.defs d_tr_exit (by simp [da])
  have Ft1 := Ft1.funD rfl
  have Ft2 := Ft2.funD rfl
  have Ft3 := Ft3.funD rfl
  have TM : MakeC (PySem.Challenge.rw_weakcuts_k98_whole_long_and_deep_trials).prog w K mg base CX0 (He.ga K "Trial") "Trial" 1 (spTrInit (He.ga K "LoggedNetwork") (He.ga K "Trial")) := ⟨_, _, _, He.mkr_ok (c.fact (.mkr "Trial") (by simp [fa, fa3])), ok_tr_init Ft1 ncL.f TC, gT, FunD.bindsN Ft1 (fun _ _ _ _ _ _ us hl => match us, hl with | [_, _, _], _ => rfl)⟩
  have MG : WkI.Mgr (PySem.Challenge.rw_weakcuts_k98_whole_long_and_deep_trials).prog w K mg base (He.ga K "Trial") 1 (spTrEnter (He.ga K "LoggedNetwork") (He.ga K "Trial")) (spTrExit (He.ga K "LoggedNetwork") (He.ga K "Trial")) (fun _ _ _ => spTrExit (He.ga K "LoggedNetwork") (He.ga K "Trial")) := ⟨_, _, _, _, _, _, He.eqO_ok x_tfe, x_tfi, He.eqO_ok x_txe, x_txi, ok_tr_enter Ft2 ncL.f TC, FunD.bindsN Ft2 (fun _ _ _ _ _ _ us hl => match us, hl with | [_], _ => rfl), ok_tr_exit Ft3 ncL.f TC, q_tr_exit Ft3 ncL.f TC, FunD.bindsN Ft3 (fun _ _ _ _ _ _ us hl => match us, hl with | [_, _, _, _], _ => rfl)⟩
  have TK : TrK (PySem.Challenge.rw_weakcuts_k98_whole_long_and_deep_trials).prog w K mg base (He.ga K "LoggedNetwork") (He.ga K "Trial") := ⟨TC, TM, MG⟩
  obtain ⟨fdx, Fx⟩ := c.defs d_explore (by simp [da])
  have Fx := Fx.funD rfl
  have hS : WkL.CodeIs K (He.ga K "_law_inside") (He.cT K ("_law_inside", none)).1 := WkJ.codeIs_of (p := ("_law_inside", none)) fun oc od fd osl lk => by
    obtain ⟨fd', F'⟩ := c.defs d_inside98 (by simp [da])
    obtain ⟨oc', od', dV, kV, doc, pm, an, cdv, ct, osl', cl, e1, _, lk', cd, _⟩ := F'.ex
    have lk2 : K.lookup (He.fAd K ("_law_inside", none)) = some ⟨oc', od', .func fd', osl'⟩ := lk'
    rw [lk2] at lk
    cases lk
    rw [e1]
    exact cd
  have C_bo := c_both98 (def_of X G c (d := d_level98) (by simp [da]) rfl (by simp [fa, fa1]) _ rfl) (def_of X G c (d := d_inside98) (by simp [da]) rfl (by simp [fa, fa1]) _ rfl) B LC TK gR TW (He.glo_ok X G (c.fact (.glo "TooWeak") (by simp [fa, fa1]))) (of_decide_eq_true x_ett) (WkJ.methB_ok x_mxL) Fx (FunD.bindsN Fx (fun _ _ _ _ _ _ us hl => match us, hl with | [_, _], _ => rfl)) (WkJ.methB_ok x_matL) Fat (FunD.bindsN Fat (fun _ _ _ _ _ _ us hl => match us, hl with | [_, _], _ => rfl)) (TB (He.cT K ("_law_inside", none)) (by simp)) (by rw [etb]; simp) (fun p hp hq => by
    rw [etb] at hp
    simp only [List.mem_cons, List.not_mem_nil, or_false] at hp
    rcases hp with rfl | rfl
    · exact absurd hq (of_decide_eq_true x_two_0_1)
    · rfl) (fun f hf => by
    have e := hf.symm.trans (He.glo_ok X G (c.fact (.glo "_law_inside") (by simp [fa, fa1])))
    cases e
    exact hS) C_draw C_pick C_set C_now C_lr 12
  exact ok_law F B LC ncL NM (c_pen (def_of X G c (d := d_pen) (by simp [da]) rfl (by simp [fa, fa1]) _ rfl) B) C_draw C_bo.1
end
end Wk
open PySem PySem.W PySem.Calls PyProof.Rows
set_option maxHeartbeats 0 in
theorem PySem.Challenge.cw_weakcuts_k98_whole_long_and_deep_trials_holds : PySem.Challenge.rw_weakcuts_k98_whole_long_and_deep_trials.Holds := by
  w_on; o_law
  refine HandSHeadRun.head_any (r := OpenLaw.row PySem.Challenge.rw_weakcuts_k98_whole_long_and_deep_trials) (q := view (OpenLaw.row PySem.Challenge.rw_weakcuts_k98_whole_long_and_deep_trials).prog [45]) (H := Wk.hk) (ob := Wk.ob) (M := 20000) (loose := Wk.loose) (d := HandSHeadRun.topDef (OpenLaw.row PySem.Challenge.rw_weakcuts_k98_whole_long_and_deep_trials).prog 45) (kwd := []) Wk.ob_eq
    (by kernel_rfl) (fun s => by kernel_rfl) Wk.run (by kernel_rfl) (by kernel_rfl) (by kernel_rfl) (by rfl) (by first | assumption | decide +kernel) (by decide +kernel) ⟨rfl, rfl, rfl, rfl, rfl, by decide +kernel⟩ ?hw ?hc
  case hw => w_witness2
  case hc =>
    refine WkH.walk_GT (l := PySem.Challenge.rw_weakcuts_k98_whole_long_and_deep_trials) (n := 63) (k := 58) (x := "_law_script") (CX := fun _ => L2.CX0) rfl (by decide) (by kernel_rfl) ⟨rfl, by decide, by decide⟩ ?F (fun _ _ _ _ _ z => z)
    intro w mg fa h Y G hmg0
    obtain ⟨K, KX, c⟩ := Y
    have hmg : mg ("law" : PySem.Str) = some (.ref fa) := by
      have e : (HandSHeadRun.topDef (OpenLaw.row PySem.Challenge.rw_weakcuts_k98_whole_long_and_deep_trials).prog 45).name = ("law" : PySem.Str) := by kernel_rfl
      rw [← e]
      exact hmg0
    exact ⟨K, KX, Wk.facts (w := w) KX G hmg c⟩
