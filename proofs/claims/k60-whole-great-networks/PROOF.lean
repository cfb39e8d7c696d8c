import PyProof.Rows.All
import Wide.All
import OpenK.AllK
import Wide.FinOn
import HandS.ForMost
import HandS.Defaults
import PyProof.DictUpdate
import HandS.Walk
import HandS.DictComp
import HandS.More
import HandS.TupSets
import KE.KMinKey
import KE.KWithOwn
import HandS.Property
import HandS.Small
import PyProof.ReprRoads
import PyProof.ReprLen
import HandS.HeadHook1
import HandS.HeadHook2
import HandS.HeadHook3
import HandS.HeadHook4
import HandS.IsInst
import HandS.Lambda
import KE.SortData
import HandS.Conv
import HandS.Codes
import HandS.EndTab
import KE.KSuper
import HandS.Exc
import HandS.SortKw
import HandS.Head0
import HandS.Head1
import HandS.Head2
import KE.KStateDown
import Lean
import KE.KExcIs
import HandS.ExcInit
import HandS.ExcOwn
import HandS.ExcValue
import HandS.ClsMeth
import PyProof.ExcBaseAll.ValueError
import PyProof.ExcBaseAll.RuntimeError
import PyProof.ExcBaseAll.LookupError
import PyProof.ExcBaseAll.IndexError
import HandS.Style
import HandS.Flow
import HandS.Sort
import HandS.Comp
import HandS.TryOnly
import HandS.Star
import HandS.Finally
import KE.KDictWalk
import KE.KDictCopyH
import HandS.DictEq
import HandS.ListEq
import HandS.ExcField
import HandS.TupMul
import HandS.Deep
import HandS.SetKeys
import KE.SortLaws
import KE.LtSeq
import KE.LtData
import KE.SortCalls
import HandS.SetFor
import HandS.SortInts
import PySem.Challenge.RW_weakcuts_k60_whole_great_networks
set_option Elab.async false
set_option linter.all false
set_option maxRecDepth 100000
set_option maxHeartbeats 4000000
namespace Wk
open PySem PySem.Spec PyProof.Rows L2
def topS (i : Nat) : Stmt := PySem.Challenge.pw_weakcuts_k60_whole_great_networks.main.body.getD i (.Pass ⟨0, 0, 0, 0⟩)
abbrev s_UnknownVertex_init : Stmt := inClass (topS 5) 0
abbrev s_UnknownEdge_init : Stmt := inClass (topS 6) 0
abbrev s_SameVertex_init : Stmt := inClass (topS 7) 0
abbrev s_is_between : Stmt := topS 10
abbrev s_is_name : Stmt := topS 11
abbrev s_is_tuple_of : Stmt := topS 12
abbrev s_check_pair : Stmt := topS 14
abbrev s_Search_init : Stmt := inClass (topS 15) 0
abbrev s_Search_levels : Stmt := inClass (topS 15) 1
abbrev s_Search_move : Stmt := inClass (topS 15) 2
abbrev s_Search_advance : Stmt := inClass (topS 15) 3
abbrev s_Search_run : Stmt := inClass (topS 15) 4
abbrev s_Search_arcs : Stmt := inClass (topS 15) 5
abbrev s_Rows_init : Stmt := inClass (topS 17) 0
abbrev s_side_of : Stmt := topS 18
abbrev s_last_two : Stmt := topS 19
abbrev s_merge_rows : Stmt := topS 20
abbrev s_least_cut : Stmt := topS 21
abbrev s_strength_of : Stmt := topS 22
abbrev s_pair_cut : Stmt := topS 23
abbrev s_pair_strength : Stmt := topS 24
abbrev s_cut_tree : Stmt := topS 25
abbrev s_cores_of : Stmt := topS 27
abbrev s_Graph_init : Stmt := inClass (topS 29) 2
abbrev s_Graph_check_vertex : Stmt := inClass (topS 29) 9
abbrev s_can_join : Stmt := topS 30
abbrev s_sorted_rows : Stmt := topS 31
abbrev s_reached : Stmt := topS 32
abbrev s_check_connected : Stmt := topS 33
abbrev s_Network_init : Stmt := inClass (topS 35) 0
abbrev s_Network_strength : Stmt := inClass (topS 35) 7
abbrev s_Network_cores : Stmt := inClass (topS 35) 10
abbrev s_Network_check_strength : Stmt := inClass (topS 35) 11
abbrev s_Network_accept : Stmt := inClass (topS 35) 12
abbrev s_Network_set_root : Stmt := inClass (topS 35) 13
abbrev s_graph_of : Stmt := topS 36
abbrev s_check_edge : Stmt := topS 38
abbrev s_raised : Stmt := topS 39
abbrev s_role_by : Stmt := topS 40
abbrev s_role : Stmt := topS 41
abbrev s_slack : Stmt := topS 42
abbrev s_L_pen : Stmt := topS 44
abbrev s_L_draw : Stmt := topS 45
abbrev s_L_pick : Stmt := topS 46
abbrev s_L_shuffled : Stmt := topS 47
abbrev s_L_weights : Stmt := topS 48
abbrev s_L_words : Stmt := topS 49
abbrev s_L_built_house : Stmt := topS 50
abbrev s_L_ring_word : Stmt := topS 51
abbrev s_L_ring_right : Stmt := topS 52
abbrev s_L_complete_right : Stmt := topS 53
abbrev s_L_star_right : Stmt := topS 54
abbrev s_L_chain_right : Stmt := topS 55
abbrev s_law : Stmt := topS 56
abbrev FnP (K : PySem.W.Frag) (x qual : Str) (st : Stmt) (f : Addr) (fd : FuncData) : Prop := FunD K x qual (defArgs st) (defBody st) (defScope st) [] [] f fd
end Wk
namespace WkD
open PySem PySem.Spec PyProof.Rows L2
def tFz : List (Addr × HO) → (Hp → Prop) → Hp → Prop
  | [], P, H => P H
  | (d, u) :: r, P, H => H d = some u ∧ Mut (some u) ∧ ∀ od, tFz r P (upd H d (.frz od u))
section
variable {X : Cx} {pins : List (Addr × Obj)} {σ : L2.St} {s : Shared}
theorem inv_fz : ∀ {l : List (Addr × HO)} {H : Hp} {P : Hp → Prop}, Inv X pins σ H s → tFz l P H → ∃ H', Inv X pins σ H' s ∧ P H'
  | [], H, P, I, h => ⟨H, I, h⟩
  | (d, u) :: r, H, P, I, h => by
    obtain ⟨h1, h2, h3⟩ := h
    obtain ⟨od, I2⟩ := I.lock h1 h2
    exact inv_fz I2 (h3 od)
theorem tFz_intro : ∀ {l : List (Addr × HO)} {H : Hp} {P : Hp → Prop}, (∀ p ∈ l, H p.1 = some p.2 ∧ Mut (some p.2)) → (l.map (·.1)).Nodup → (∀ H', (∀ p ∈ l, ∃ od, H' p.1 = some (.frz od p.2)) → (∀ b, b ∉ l.map (·.1) → H' b = H b) → P H') → tFz l P H
  | [], H, P, _, _, k => k H (fun p hp => absurd hp (by simp)) fun b _ => rfl
  | (d, u) :: r, H, P, h, nd, k => by
    obtain ⟨h1, h2⟩ := h (d, u) List.mem_cons_self
    rw [List.map_cons, List.nodup_cons] at nd
    refine ⟨h1, h2, fun od => tFz_intro (fun p hp => ?_) nd.2 fun H' q1 q2 => k H' (fun p hp => ?_) fun b hb => ?_⟩
    · have hne : p.1 ≠ d := fun e => nd.1 (List.mem_map.mpr ⟨p, hp, e⟩)
      obtain ⟨g1, g2⟩ := h p (List.mem_cons_of_mem _ hp)
      exact ⟨by rw [upd_ne hne]; exact g1, g2⟩
    · rcases List.mem_cons.mp hp with rfl | hp
      · exact ⟨od, by rw [q2 _ nd.1]; exact upd_same⟩
      · exact q1 p hp
    · rw [List.map_cons, List.mem_cons, not_or] at hb
      rw [q2 b hb.2, upd_ne hb.1]
theorem ps_fz {st : Stmt} {t : TS} (h : PS X st t) : PS X st (fun D σ H => t ⟨fun σ' H' => ∃ l, tFz l (D.nx σ') H', fun v H' => ∃ l, tFz l (D.rt v) H', fun σ' H' => ∃ l, tFz l (D.bk σ') H', fun σ' H' => ∃ l, tFz l (D.ct σ') H'⟩ σ H) := by
  refine ⟨fun pins s σ H D I q => thn (h.run pins s σ H _ I q) fun f s' hf => ?_⟩
  cases f with
  | next =>
    obtain ⟨σ', H', J, l, z⟩ := hf
    obtain ⟨H2, J2, z2⟩ := inv_fz J z
    exact ⟨σ', H2, J2, z2⟩
  | brk =>
    obtain ⟨σ', H', J, l, z⟩ := hf
    obtain ⟨H2, J2, z2⟩ := inv_fz J z
    exact ⟨σ', H2, J2, z2⟩
  | cont =>
    obtain ⟨σ', H', J, l, z⟩ := hf
    obtain ⟨H2, J2, z2⟩ := inv_fz J z
    exact ⟨σ', H2, J2, z2⟩
  | ret u =>
    obtain ⟨v, σ', H', J, r, l, z⟩ := hf
    obtain ⟨H2, J2, z2⟩ := inv_fz J z
    exact ⟨v, σ', H2, J2, r, z2⟩
theorem ps_fz0 {st : Stmt} {t : TS} (h : PS X st t) : PS X st (fun D σ H => ∃ l, tFz l (t D σ) H) := by
  refine ⟨fun pins s σ H D I q => ?_⟩
  obtain ⟨l, z⟩ := q
  obtain ⟨H2, J2, z2⟩ := inv_fz I z
  exact h.run pins s σ H2 D J2 z2
end
section
variable {J : It} {n : Nat} {G : Hp → Prop} {Y : Nat → Hp → V → Hp → Prop}
theorem dc_it (w : Walk J n G Y) {g : TG} {tt : TT} {tk tv : TE} {vs : List Nat} {σ : L2.St} {H1 : Hp} {D : Addr} {Qd : Hp → Prop} (Pv : Nat → Hp → Prop) (h0 : Pv 0 (upd H1 D (.dK []))) (hG : ∀ i H, i ≤ n → Pv i H → G H)
    (hs : ∀ i x H H', i < n → Pv i H → Y i H x H' → g x (wipe σ vs) H' fun σ2 H2 => wipe σ2 vs = wipe σ vs ∧ tt σ2 H2 fun b H3 =>
      if b = true then tk σ2 H3 fun y H4 => tv σ2 H4 fun z H5 => ∃ kvs k, y = kV k ∧ H5 D = some (.dK kvs) ∧ kvs.length < sizeLine ∧ Pv (i + 1) (upd H5 D (.dK (putK kvs k z))) else Pv (i + 1) H3) (hd : ∀ H, Pv n H → Qd H) :
    ∃ W : Nat → Nat → Hp → Prop, (∃ m, W 0 m (upd H1 D (.dK []))) ∧ ∀ i m H, W i m H →
      (J.stop i H ∧ Qd H) ∨ (J.go i H ∧ ∃ Nx : Hp → Prop, (∀ H', Nx H' → ∃ m', m' < m ∧ W (i + 1) m' H') ∧ ∀ x H', J.yld i H x H' → g x (wipe σ vs) H' fun σ2 H2 => wipe σ2 vs = wipe σ vs ∧ tt σ2 H2 fun b H3 =>
        if b = true then tk σ2 H3 fun y H4 => tv σ2 H4 fun z H5 => ∃ kvs k, y = kV k ∧ H5 D = some (.dK kvs) ∧ kvs.length < sizeLine ∧ Nx (upd H5 D (.dK (putK kvs k z))) else Nx H3) := by
  refine ⟨fun i m H => m = n - i ∧ i ≤ n ∧ Pv i H, ⟨n, by omega, by omega, h0⟩, fun i m H z => ?_⟩
  obtain ⟨em, hi, p⟩ := z
  have q := hG i H hi p
  by_cases hlt : i < n
  · exact .inr ⟨w.goes i H hlt q, Pv (i + 1), fun H' p' => ⟨n - (i + 1), by omega, rfl, hlt, p'⟩, fun x H' y => hs i x H H' hlt p (w.yields i H x H' hlt q y)⟩
  · have e : i = n := by omega
    subst e
    exact .inl ⟨w.stops H q, hd H p⟩
theorem in_it (w : Walk J n G Y) {B : (Hp → Prop) → V → Hp → Prop} {H0 : Hp} {Qd : Hp → Prop} (Pv : Nat → Hp → Prop) (h0 : Pv 0 H0) (hG : ∀ i H, i ≤ n → Pv i H → G H) (hs : ∀ i x H H', i < n → Pv i H → Y i H x H' → B (Pv (i + 1)) x H') (hd : ∀ H, Pv n H → Qd H) :
    ∃ W : Nat → Nat → Hp → Prop, (∃ m, W 0 m H0) ∧ ∀ i m H, W i m H → (J.stop i H ∧ Qd H) ∨ (J.go i H ∧ ∃ Nx : Hp → Prop, (∀ H', Nx H' → ∃ m', m' < m ∧ W (i + 1) m' H') ∧ ∀ x H', J.yld i H x H' → B Nx x H') := by
  refine ⟨fun i m H => m = n - i ∧ i ≤ n ∧ Pv i H, ⟨n, by omega, by omega, h0⟩, fun i m H z => ?_⟩
  obtain ⟨em, hi, p⟩ := z
  have q := hG i H hi p
  by_cases hlt : i < n
  · exact .inr ⟨w.goes i H hlt q, Pv (i + 1), fun H' p' => ⟨n - (i + 1), by omega, rfl, hlt, p'⟩, fun x H' y => hs i x H H' hlt p (w.yields i H x H' hlt q y)⟩
  · have e : i = n := by omega
    subst e
    exact .inl ⟨w.stops H q, hd H p⟩
end
section
variable {X : Cx}
def rNeE : R2 := fun x y H Q => ∃ a b ks, x = .ref a ∧ y = .ref b ∧ Rd H a (.dK ks) ∧ H b = some (.dK []) ∧ Q (.bl (!ks.isEmpty)) H
theorem op_neE (hu : X.A.units < cLine) : OpR X (compareOp .NotEq) rNeE := by
  intro pins s σ H x y v u Q I rx ry h
  obtain ⟨a, b, ks, rfl, rfl, ea, eb, q⟩ := h
  obtain rfl : v = Value.ref a := rx
  obtain rfl : u = Value.ref b := ry
  obtain ⟨_, ya, va, ra, da⟩ := dk_rd I.hok ea
  obtain ⟨_, yb, vb, rb, db⟩ := dk_of I.hok eb
  cases rb
  refine PySem.W.keq_ne (knd := mixKind X.prog X.w) (r := true) ya yb da db hu (fun z => ?_) ?_
  · have e : va = [] := List.length_eq_zero_iff.mp z
    subst e
    exact .nil
  · refine ⟨.bl (!ks.isEmpty), H, I, ?_, q⟩
    cases ra with
    | nil => rfl
    | cons _ _ => rfl
end
end WkD
namespace WkD
open PySem PySem.Spec PyProof.Rows L2
def ltS (a b : Str) : Prop := a.cps.toList < b.cps.toList
instance (a b : Str) : Decidable (ltS a b) := inferInstanceAs (Decidable (a.cps.toList < b.cps.toList))
theorem ltS_irrefl (a : Str) : ¬ ltS a a := List.lt_irrefl _
theorem ltS_trans {a b c : Str} (h : ltS a b) (k : ltS b c) : ltS a c := List.lt_trans h k
theorem str_ext {a b : Str} (h : a.cps.toList = b.cps.toList) : a = b := by
  obtain ⟨a⟩ := a
  obtain ⟨b⟩ := b
  have e : a = b := Array.toList_inj.mp h
  rw [e]
theorem ltS_tri (a b : Str) : ltS a b ∨ a = b ∨ ltS b a := by
  by_cases h : ltS a b
  · exact .inl h
  · by_cases k : ltS b a
    · exact .inr (.inr k)
    · exact .inr (.inl (str_ext (List.le_antisymm (List.not_lt.mp k) (List.not_lt.mp h))))
theorem ltS_asymm {a b : Str} (h : ltS a b) : ¬ ltS b a := fun k => ltS_irrefl a (ltS_trans h k)
theorem ltS_of_not {a b : Str} (h : ¬ ltS b a) (n : a ≠ b) : ltS a b := by
  rcases ltS_tri a b with z | z | z
  · exact z
  · exact absurd z n
  · exact absurd z h
theorem rising_ok : ∀ {ys : List Str} {x : Str}, risingS x ys = true → (x :: ys).Pairwise fun a b => ¬ ltS b a
  | [], x, _ => by simp
  | y :: r, x, h => by
    have h : (!ltCps y.cps.toList x.cps.toList && risingS y r) = true := h
    rw [Bool.and_eq_true, Bool.not_eq_true', ltCps_eq, decide_eq_false_iff_not] at h
    have ih := rising_ok h.2
    refine List.pairwise_cons.mpr ⟨fun z hz => ?_, ih⟩
    rcases List.mem_cons.mp hz with rfl | hz
    · exact h.1
    · have k := (List.pairwise_cons.mp ih).1 z hz
      intro q
      rcases ltS_tri y z with e | e | e
      · exact h.1 (ltS_trans e q)
      · exact h.1 (e ▸ q)
      · exact k e
theorem sorted_ok {ys : List Str} (h : sortedS ys = true) : ys.Pairwise fun a b => ¬ ltS b a := by
  cases ys with
  | nil => exact List.Pairwise.nil
  | cons x r => exact rising_ok h
def Asc (ys : List Str) : Prop := ys.Pairwise ltS
theorem asc_of {ys : List Str} (h : sortedS ys = true) (nd : ys.Nodup) : Asc ys :=
  (List.Pairwise.and (sorted_ok h) nd).imp fun ⟨a, b⟩ => ltS_of_not a b
theorem asc_nodup {ys : List Str} (h : Asc ys) : ys.Nodup := List.Pairwise.imp (fun {a b} (q : ltS a b) (e : a = b) => ltS_irrefl a (by rw [← e] at q; exact q)) h
theorem asc_unique : ∀ {xs ys : List Str}, Asc xs → Asc ys → xs.Perm ys → xs = ys
  | [], ys, _, _, p => (List.nil_perm.mp p).symm
  | x :: xs, [], _, _, p => absurd p.length_eq (by simp)
  | x :: xs, y :: ys, hx, hy, p => by
    have e : x = y := by
      have h1 : x ∈ y :: ys := p.mem_iff.mp List.mem_cons_self
      have h2 : y ∈ x :: xs := p.mem_iff.mpr List.mem_cons_self
      rcases List.mem_cons.mp h1 with z | z
      · exact z
      · rcases List.mem_cons.mp h2 with q | q
        · exact q.symm
        · exact absurd ((List.pairwise_cons.mp hx).1 y q) (ltS_asymm ((List.pairwise_cons.mp hy).1 x z))
    subst e
    rw [asc_unique (List.pairwise_cons.mp hx).2 (List.pairwise_cons.mp hy).2 ((List.perm_cons x).mp p)]
theorem cmp_ltS {prog : Program} {w : World} {A : Around} {P : Nat → Value → Prop} (val : Nat → Str) (hval : ∀ i v, P i v → ∃ t, v = .str (val i) t) : CmpOf prog w A .Lt P (fun i j => decide (ltS (val i) (val j))) := fun i j vi vj s Q E hi hj h => by
  obtain ⟨t, rfl⟩ := hval i vi hi
  obtain ⟨u, rfl⟩ := hval j vj hj
  exact richCompare_gives (op := .Lt) (typeIs_str s _ t) (typeIs_str s _ u) PySem.F.slot_str_lt PySem.F.entry_str_lt (PySem.F.args_str_lt_2 _ _) (gives_str_lt _ _ t u) (fun x => nomatch x) h
theorem best_ltS (val : Nat → Str) : ∀ k, argBest (fun i j => decide (ltS (val i) (val j))) k ≤ k ∧ ∀ j, j ≤ k → ¬ ltS (val j) (val (argBest (fun i j => decide (ltS (val i) (val j))) k))
  | 0 => ⟨Nat.le_refl _, fun j hj => by
      have e : j = 0 := by omega
      subst e
      exact ltS_irrefl _⟩
  | k + 1 => by
    obtain ⟨h1, h2⟩ := best_ltS val k
    show (if decide (ltS (val (k + 1)) (val (argBest _ k))) = true then k + 1 else argBest _ k) ≤ k + 1 ∧ ∀ j, j ≤ k + 1 → ¬ ltS (val j) (val (if decide (ltS (val (k + 1)) (val (argBest _ k))) = true then k + 1 else argBest _ k))
    by_cases hb : ltS (val (k + 1)) (val (argBest (fun i j => decide (ltS (val i) (val j))) k))
    · rw [if_pos (decide_eq_true hb)]
      refine ⟨Nat.le_refl _, fun j hj q => ?_⟩
      by_cases e : j = k + 1
      · subst e
        exact ltS_irrefl _ q
      · exact h2 j (by omega) (ltS_trans q hb)
    · rw [if_neg (by simpa using hb)]
      refine ⟨by omega, fun j hj q => ?_⟩
      by_cases e : j = k + 1
      · subst e
        exact hb q
      · exact h2 j (by omega) q
section
variable {X : Cx}
theorem key_str {ks : List Str} {vs : List (Key × Value)} (hk : vs.map (·.1) = ks.map Sum.inr) {P : Program} {w : World} (i : Nat) (v : Value) (h : ∃ k x, vs[i]? = some (k, x) ∧ (mixKind P w).is k v = true) : ∃ t, v = Value.str (ks.getD i Str.empty) t := by
  obtain ⟨k, x, h1, h2⟩ := h
  have e1 : (vs.map (·.1))[i]? = some k := by rw [List.getElem?_map, h1] <;> rfl
  rw [hk, List.getElem?_map] at e1
  obtain ⟨y, hy, e2⟩ := Option.map_eq_some_iff.mp e1
  subst e2
  have h2 : keyIs (Sum.inr y) v = true := h2
  rcases keyIs_shape h2 with ⟨_, _, e, _⟩ | ⟨z, t, e, ev⟩
  · cases e
  · cases e
    exact ⟨t, by rw [ev, List.getD_eq_getElem?_getD, hy]; rfl⟩
def rMinSD : List V → Hp → VK → Prop := fun vs H Q => ∃ (a : Addr) (kvs : List (Key × V)) (ks : List Str), vs = [V.ref a] ∧ Rd H a (.dK kvs) ∧ kvs.map (·.1) = ks.map Sum.inr ∧ ks ≠ [] ∧ ∀ m, m ∈ ks → (∀ j ∈ ks, ¬ ltS j m) → Q (.str m) H
theorem cr_minSD (hc : X.calm = true) : CallR X (.builtin "min") rMinSD := by
  intro pins s σ H vs us Q I r h
  obtain ⟨a, kvs, ks, rfl, ha, hv, hne, q⟩ := h
  rw [Vals.ref1 r]
  obtain ⟨_, hsys, vs, rel, dof⟩ := dk_rd I.hok ha
  obtain ⟨ep, dat⟩ := dof.dictAt
  obtain ⟨ob, es, ho, _⟩ := id dat
  have hlt : a < s.heap.objs.size := Heap.lt_size ho
  have hkeys : vs.map (·.1) = ks.map Sum.inr := (KV.keys rel).symm.trans hv
  have hlv : vs.length = ks.length := by simpa using congrArg List.length hkeys
  have hpos := List.length_pos_iff.mpr hne
  refine call_min_walk (wpAny_pyIter_dict (knd := mixKind X.prog X.w) hsys dat ?_)
  refine ⟨_, _, _, _, _, _, _, rfl, Walks.dictKeys (knd := mixKind X.prog X.w) (A := X.A.in1) (I.ok.hd hc) s.heap.objs.size a (Nat.ne_of_lt hlt) vs ep,
    ⟨⟨_, Heap.get?_push_size _ rfl, rfl, rfl⟩, dat.keep fun b u e => Heap.get?_push_of_some _ e⟩, fun b hb => ?_, by omega, cmp_ltS (fun i => ks.getD i Str.empty) (key_str hkeys), fun v h' tk hP hk => ?_⟩
  · show b < (s.heap.push _).objs.size
    rw [Heap.size_push]
    rcases List.mem_cons.mp hb with e | hb
    · rw [e]
      exact Nat.lt_succ_self _
    · rw [List.mem_singleton.mp hb]
      exact Nat.lt_succ_of_lt hlt
  · obtain ⟨t, rfl⟩ := key_str hkeys _ v hP
    obtain ⟨b1, b2⟩ := best_ltS (fun i => ks.getD i Str.empty) (vs.length - 1)
    have at_ : ∀ i, i < ks.length → ks.getD i Str.empty ∈ ks := fun i hi => by
      rw [List.getD_eq_getElem?_getD, List.getElem?_eq_getElem hi]
      exact List.getElem_mem hi
    refine ⟨.str _, H, I.kept (t' := tk) fun b u e => hk b u (fun hmem => ?_) (Heap.get?_push_of_some _ e), ⟨t, rfl⟩, q _ (at_ _ (by omega)) fun j hj => ?_⟩
    · have e1 : b = s.heap.objs.size := List.mem_singleton.mp hmem
      have e2 := Heap.lt_size e
      rw [e1] at e2
      exact absurd e2 (Nat.lt_irrefl _)
    · obtain ⟨i, hi, e⟩ := List.mem_iff_getElem.mp hj
      have e2 : ks.getD i Str.empty = j := by rw [List.getD_eq_getElem?_getD, List.getElem?_eq_getElem hi, ← e] <;> rfl
      rw [← e2]
      exact b2 i (by omega)
end
end WkD
namespace WkD
open PySem PySem.Spec PyProof.Rows L2
section
variable {X : Cx} {CX : CXT} {k : Nat} {f C : Addr} {fd : FuncData} {ps : List Str} {sp : Sp} {E : XK}
end
section
variable {X : Cx}
end
section
variable {prog : Program} {w : World} {A : Around} {E : Value → Shared → Prop} {s : Shared}
theorem dictPut_new {K : Type} [DecidableEq K] {knd : KeyKind prog w K} {d : Addr} {kvs : List (K × Value)} {k : K} {key v : Value} {Q : Unit → Shared → Prop} (hkey : knd.is k key = true) (hm : s.heap.DictOf knd d kvs) (hnew : k ∉ kvs.map (·.1))
    (hQ : ∀ h', h'.DictOf knd d (kvs ++ [(k, v)]) → Heap.SameBut d s.heap h' → Q () { s with heap := h' }) (hsz : kvs.length ≤ sizeLine) :
    wpAny (model prog w) A (dictPut d (knd.hash k) key v) Q E s := by
  obtain ⟨o, es, ep, ho, hc, hd, hk, hp, hn⟩ := hm
  have hes : es.size ≤ sizeLine := by
    have e1 := hp.length
    have e2 : es.toList.length = es.size := by simp
    omega
  unfold dictPut
  refine wpAny_bind (wpAny_dictFind_of hkey ho hd hk ?_)
  have hidx : (es.findIdx? fun e => knd.is k e.key) = kvs.findIdx? fun kv => decide (kv.1 = k) := by
    rw [← hp.findIdx k]
    obtain ⟨l⟩ := es
    simp
  cases hi : es.findIdx? fun e => knd.is k e.key with
  | some i =>
    rw [hidx] at hi
    have z := any_of_findIdx_some hi
    rw [List.any_eq_true] at z
    obtain ⟨kv, h1, h2⟩ := z
    exact absurd (List.mem_map.mpr ⟨kv, h1, of_decide_eq_true h2⟩) hnew
  | none =>
    refine wpAny_updateDictKeys (hz := hes) ho hd (hQ _ ⟨_, _, ep + 1, Heap.get?_update_self _ ho (Obj.isFreed_of_dict (Obj.data_mapDictKeys hd _)), hc.mapDictKeys _, Obj.data_mapDictKeys hd _, hk.push hkey _, ?_, ?_⟩ (Heap.SameBut.update ..))
    · have z := hp.append hkey (knd.hash k) v
      obtain ⟨l⟩ := es
      simpa using z
    · rw [List.map_append, List.nodup_append]
      refine ⟨hn, by simp, fun a ha b hb e => ?_⟩
      have hb : b = k := by simpa using hb
      rw [e, hb] at ha
      exact hnew ha
end
end WkD
namespace WkD
open PySem PySem.Spec PyProof.Rows L2
section
variable {prog : Program} {w : World} {A : Around} {E : Value → Shared → Prop} {s : Shared}
theorem key_noref {k : Key} {v : Value} (h : (mixKind prog w).is k v = true) : ∀ a, v ≠ .ref a := by
  have h : keyIs k v = true := h
  rcases keyIs_shape h with ⟨_, _, _, e⟩ | ⟨_, _, _, e⟩
  · intro a z
    rw [e] at z
    cases z
  · intro a z
    rw [e] at z
    cases z
theorem merge_new {d a : Addr} {more : List (Key × Value)} {Q : Unit → Shared → Prop} (hda : d ≠ a) (haS : (a == sysModules) = false) (hd : s.heap.DictOf (mixKind prog w) d []) (ha : s.heap.DictOf (mixKind prog w) a more)
    (hQ : ∀ h', h'.DictOf (mixKind prog w) d more → Heap.SameBut d s.heap h' → Q () { s with heap := h' }) (hsz : more.length ≤ sizeLine) : wpAny (model prog w) A (mergeMapping d (.ref a) false) Q E s := by
  obtain ⟨od, esd, epd, hod, hcd, hdd, hkd, hpd, hnd⟩ := id hd
  obtain ⟨oo, eso, epo, hoo, hco, hdo, hko, hpo, hno⟩ := id ha
  have hT := ha.typeIs
  have hlen : more.length = eso.size := by
    rw [← hpo.length]
    simp
  have h0 : esd = #[] := by
    have z := hpd.length
    obtain ⟨l⟩ := esd
    have z : l.length = 0 := by simpa using z
    rw [List.length_eq_zero_iff.mp z]
  unfold mergeMapping
  refine wpAny_bind (wpAny_isInstance (T := "dict") (U := "dict") (b := true) hT (by rw [isSubtype_type]; kernel_rfl) ?_)
  try dsimp only
  rw [if_pos rfl]
  refine wpAny_bind (wpAny_specialOf hT PySem.F.slot_dict_iter.lookup ?_)
  rw [show (some (Value.builtin "dict.__iter__") == some (Value.builtin "dict.__iter__")) = true by decide]
  refine wpAny_bind (wpAny_pure ?_)
  try dsimp only
  rw [if_neg (by rw [haS]; decide)]
  refine wpAny_bind (wpAny_dictEntries hod hdd ?_)
  rw [if_pos (by rw [h0]; rfl)]
  refine wpAny_bind (wpAny_dictEntries hoo hdo ?_)
  refine wpAny_bind ?_
  have first : ∀ {f : DictEntry → PUnit → Sem (ForInStep PUnit)} {Q : PUnit → Shared → Prop}, (∀ e : DictEntry, (∀ a, e.key ≠ .ref a) → f e PUnit.unit = pure (ForInStep.yield PUnit.unit)) → Q PUnit.unit s → wpAny (model prog w) A (forIn eso PUnit.unit f) Q E s := by
    intro f Q hf hq
    rw [← Array.forIn_toList]
    refine wpAny_forIn_list f (fun rest _ s' => s' = s ∧ ∀ e ∈ rest, ∀ a, e.key ≠ .ref a) Q (fun e rest b s' z => ?_) (fun b s' z => by rw [z.1]; exact hq) _ _ ⟨rfl, fun e he a => ?_⟩
    · obtain ⟨rfl, z⟩ := z
      rw [hf e (z e List.mem_cons_self)]
      exact wpAny_pure ⟨rfl, fun e he => z e (List.mem_cons_of_mem _ he)⟩
    · obtain ⟨k, hk, _⟩ := hko e (by simpa using he)
      exact key_noref hk a
  refine first (fun e he => ?_) ?_
  · cases q : e.key with
    | ref a => exact absurd q (he a)
    | _ => rfl
  refine wpAny_bind (wpAny_dictEntries hoo hdo ?_)
  refine wpAny_bind (wpAny_dictEpoch hoo hdo ?_)
  refine wpAny_bind ?_
  refine wpAny_forIn_list _ (fun rest _ s' => ∃ h' i, s' = { s with heap := h' } ∧ rest = List.range' i (eso.size - i) ∧ i ≤ eso.size ∧ h'.DictOf (mixKind prog w) d (more.take i) ∧ h'.get? a = some oo ∧ Heap.SameBut d s.heap h') _ ?_ ?_ _ _
    ⟨s.heap, 0, rfl, by rw [List.range_eq_range']; rfl, Nat.zero_le _, by simpa using hd, hoo, Heap.SameBut.refl _ _⟩
  · rintro x rest b s' ⟨h', i, rfl, hr, hi, hd', hoo', hs'⟩
    have hlt : i < eso.size := by
      rcases Nat.lt_or_ge i eso.size with h | h
      · exact h
      · rw [Nat.sub_eq_zero_of_le h] at hr
        simp at hr
    obtain ⟨ex, hrest⟩ : x = i ∧ rest = List.range' (i + 1) (eso.size - (i + 1)) := by
      have e : eso.size - i = (eso.size - (i + 1)) + 1 := by omega
      rw [e, List.range'_succ] at hr
      injection hr with h1 h2
      exact ⟨h1, h2⟩
    subst ex
    refine wpAny_bind (wpAny_dictEntries hoo' hdo ?_)
    rw [Array.getElem?_eq_getElem hlt]
    obtain ⟨kv, hkv⟩ : ∃ kv, more[x]? = some kv := ⟨more[x]'(by omega), List.getElem?_eq_getElem _⟩
    obtain ⟨k, v⟩ := kv
    obtain ⟨hkey, hval⟩ := hpo.get? (e := eso[x]) (by simp [hlt]) hkv
    obtain ⟨k', hkey', hhash⟩ := hko eso[x] (Array.getElem_mem hlt)
    obtain rfl : k' = k := (mixKind prog w).inj _ _ _ hkey' hkey
    dsimp only
    rw [hhash, hval]
    have hxl : x < more.length := by omega
    have tk : more.take (x + 1) = more.take x ++ [(k', v)] := by
      rw [List.take_add_one, hkv]
      rfl
    refine wpAny_bind (wpAny_holding ?_)
    rw [if_neg (by decide)]
    refine dictPut_new hkey hd' (fun hm => ?_) (fun h2 hd2 hs2 => ?_) (by rw [List.length_take]; omega)
    · have nd : ((more.take (x + 1)).map (·.1)).Nodup := (List.Sublist.map _ (List.take_sublist _ _)).nodup hno
      rw [tk, List.map_append, List.nodup_append] at nd
      exact nd.2.2 _ hm _ (List.mem_singleton.mpr rfl) rfl
    · have hoo2 : h2.get? a = some oo := (hs2.2 a (Ne.symm hda)).trans hoo'
      refine wpAny_bind (wpAny_dictEpoch hoo2 hdo ?_)
      rw [if_neg (by simp)]
      exact wpAny_pure ⟨h2, x + 1, rfl, hrest, hlt, by rw [tk]; exact hd2, hoo2, hs'.trans hs2⟩
  · rintro b s' ⟨h', i, rfl, hr, hi, hd', hoo', hs'⟩
    have hin : i = eso.size := by
      rcases Nat.lt_or_ge i eso.size with h | h
      · have e : eso.size - i = (eso.size - (i + 1)) + 1 := by omega
        rw [e, List.range'_succ] at hr
        exact nomatch hr
      · exact Nat.le_antisymm hi h
    refine wpAny_pure (hQ h' ?_ hs')
    rw [hin, ← hlen, List.take_length] at hd'
    exact hd'
end
section
variable {X : Cx} {pos : Pos} {e : Expr} {te : TE}
def tDStar (te : TE) : TE := fun σ H Q => ∀ p, H p = none → te σ (upd H p (.dK [])) fun x H2 => ∃ a kvs, x = .ref a ∧ H2 p = some (.dK []) ∧ a ≠ p ∧ Rd H2 a (.dK kvs) ∧ Q (.ref p) (upd H2 p (.dK kvs))
theorem pe_dstar (he : PE X e te) : PE X (.Dict [none] [e] pos) (tDStar te) := by
  refine ⟨fun pins s σ H Q I q => ?_⟩
  have hn := I.hok.fresh (Nat.le_refl s.heap.objs.size)
  have I1 := I.laid (a := s.heap.objs.size) (o := .dK []) (h' := s.heap.push { cls := .type "dict", data := .dict #[] }) (t' := s.toks) (fun _ _ q => Heap.get?_push_of_some _ q) (Nat.le_refl _) (dk_empty s.heap I.big)
  show wpAny _ _ (do standAt pos; dictDisplay [(none, do let x ← eval e X.env; standAt pos; pure x)]) _ _ _
  refine wpAny_bind (wpAny_standAt ?_)
  unfold dictDisplay
  simp only [List.forIn_cons, List.forIn_nil, pure_bind, bind_assoc]
  rw [if_pos (show ([] : List (Sem Value × Sem Value)).isEmpty = true from rfl)]
  refine wpAny_bind (wpAny_pure ?_)
  refine wpAny_bind ?_
  dsimp only
  refine wpAny_bind (wpAny_alloc ?_)
  refine wpAny_bind (wpAny_holding (wpAny_bind (thn (he.run pins _ σ _ _ I1 (q _ hn)) fun v s2 ⟨x, H2, I2, rx, a, kvs, ex, hp, hap, hR, q2⟩ => wpAny_bind (wpAny_standAt (wpAny_pure ?_)))))
  subst ex
  obtain rfl : v = Value.ref a := rx
  obtain ⟨z, ya, va, ra, da⟩ := dk_rd I2.hok hR
  obtain ⟨_, hd, vs0, r0, dd⟩ := dk_of I2.hok hp
  cases r0
  refine wpAny_bind (wpAny_onRaise (wpAny_tryCatch (wpAny_onRaise (wpAny_holding (merge_new (Ne.symm hap) ya dd da (fun h' dd' hs => ?_) (by rw [← ra.length]; exact z))))))
  refine wpAny_pure ?_
  dsimp only
  refine wpAny_bind (wpAny_pure ?_)
  dsimp only
  rw [if_pos (show ([] : List (Sem Value × Sem Value)).isEmpty = true from rfl)]
  refine wpAny_bind (wpAny_pure (wpAny_pure ⟨.ref s.heap.objs.size, _, ?_, rfl, q2⟩))
  have hex : ∃ q, h'.get? s.heap.objs.size = some q := let ⟨q, _, _, hq, _⟩ := dd'; ⟨q, hq⟩
  exact d_write I2 (by rw [hp]; exact True.intro) hs hex (dk_new z hd ra dd')
end
end WkD
namespace WkN
open PySem PySem.Spec PyProof.Rows L2 WkD
theorem takeS {α : Type} {l : List α} {i : Nat} {x : α} (h : l[i]? = some x) : l.take (i + 1) = l.take i ++ [x] := by
  rw [List.take_add_one, h]
  rfl
theorem bF {b : Bool} (h : ¬ b = true) : b = false := by
  cases b
  · rfl
  · exact absurd rfl h
def dct (ks : List Str) (g : Str → V) : List (Key × V) := ks.map fun v => (Sum.inr v, g v)
theorem dct_len {ks : List Str} {g : Str → V} : (dct ks g).length = ks.length := List.length_map ..
theorem dct_keys {ks : List Str} {g : Str → V} : (dct ks g).map (·.1) = ks.map Sum.inr := by
  unfold dct
  rw [List.map_map]
  rfl
theorem dct_congr {ks : List Str} {g g' : Str → V} (h : ∀ v ∈ ks, g v = g' v) : dct ks g = dct ks g' := List.map_congr_left fun v hv => by rw [h v hv]
theorem dct_val {g : Str → V} {v : Str} : ∀ {ks : List Str}, valV (dct ks g) (Sum.inr v) = if v ∈ ks then some (g v) else none
  | [] => by
    rw [if_neg (by simp)]
    rfl
  | k :: ks => by
    show valV ((Sum.inr k, g k) :: dct ks g) (Sum.inr v) = _
    by_cases h : k = v
    · subst h
      rw [valV_pos rfl, if_pos (by simp)]
    · rw [valV_neg (fun z => h (Sum.inr.inj z)), dct_val]
      by_cases hm : v ∈ ks
      · rw [if_pos hm, if_pos (List.mem_cons_of_mem _ hm)]
      · rw [if_neg hm, if_neg (fun z => (List.mem_cons.mp z).elim (fun e => h e.symm) hm)]
theorem dct_in {ks : List Str} {g : Str → V} {v : Str} (h : v ∈ ks) : valV (dct ks g) (Sum.inr v) = some (g v) := by rw [dct_val, if_pos h]
theorem dct_out {ks : List Str} {g : Str → V} {v : Str} (h : v ∉ ks) : valV (dct ks g) (Sum.inr v) = none := by rw [dct_val, if_neg h]
theorem dct_any {ks : List Str} {g : Str → V} {v : Str} : ((dct ks g).any fun kv => decide (kv.1 = Sum.inr v)) = decide (v ∈ ks) := by
  rw [valV_any, dct_val]
  by_cases h : v ∈ ks
  · rw [if_pos h, decide_eq_true h]
    rfl
  · rw [if_neg h, decide_eq_false h]
    rfl
theorem dct_put_in {ks : List Str} {g : Str → V} {v : Str} {x : V} (h : v ∈ ks) : putK (dct ks g) (Sum.inr v) x = dct ks (fun y => if y = v then x else g y) := by
  unfold putK
  rw [dct_any, decide_eq_true h, if_pos rfl]
  unfold dct
  rw [List.map_map]
  refine List.map_congr_left fun y _ => ?_
  show (if (Sum.inr y : Key) = Sum.inr v then ((Sum.inr y : Key), x) else (Sum.inr y, g y)) = (Sum.inr y, if y = v then x else g y)
  by_cases e : y = v
  · rw [if_pos (by rw [e]), if_pos e]
  · rw [if_neg (fun z => e (Sum.inr.inj z)), if_neg e]
theorem dct_put_new {ks : List Str} {g : Str → V} {v : Str} {x : V} (h : v ∉ ks) : putK (dct ks g) (Sum.inr v) x = dct (ks ++ [v]) (fun y => if y = v then x else g y) := by
  rw [putK_new x (dct_out h)]
  unfold dct
  rw [List.map_append]
  congr 1
  · refine List.map_congr_left fun y hy => ?_
    have e : y ≠ v := fun e => h (by rw [← e]; exact hy)
    show (Sum.inr y, g y) = (Sum.inr y, if y = v then x else g y)
    rw [if_neg e]
  · show [(Sum.inr v, x)] = [(Sum.inr v, if v = v then x else g v)]
    rw [if_pos rfl]
theorem dct_drop {ks : List Str} {g : Str → V} {v : Str} : dropK (dct ks g) (Sum.inr v) = dct (ks.filter (fun y => decide (y ≠ v))) g := by
  unfold dropK dct
  rw [List.filter_map]
  congr 1
  refine List.filter_congr fun y _ => ?_
  show decide ((Sum.inr y : Key) ≠ Sum.inr v) = decide (y ≠ v)
  by_cases e : y = v
  · subst e
    simp
  · have z : (Sum.inr y : Key) ≠ Sum.inr v := fun z => e (Sum.inr.inj z)
    rw [decide_eq_true (show y ≠ v from e), decide_eq_true z]
theorem dct_at {ks : List Str} {g : Str → V} {i : Nat} : (dct ks g)[i]? = ks[i]?.map fun v => (Sum.inr v, g v) := by
  unfold dct
  rw [List.getElem?_map]
theorem get_d {H : Hp} {a : Addr} {ks : List Str} {g : Str → V} {v : Str} (h : Rd H a (.dK (dct ks g))) (hv : v ∈ ks) : DGet H a (.str v) (some (g v)) := .inl ⟨_, Sum.inr v, h, rfl, (dct_in hv).symm⟩
theorem get_n {H : Hp} {a : Addr} {ks : List Str} {g : Str → V} {v : Str} (h : Rd H a (.dK (dct ks g))) (hv : v ∉ ks) : DGet H a (.str v) none := .inl ⟨_, Sum.inr v, h, rfl, (dct_out hv).symm⟩
theorem get_x {H : Hp} {a : Addr} {ks : List Str} {g : Str → V} {v : Str} (h : Rd H a (.dK (dct ks g))) : DGet H a (.str v) (if v ∈ ks then some (g v) else none) := .inl ⟨_, Sum.inr v, h, rfl, dct_val.symm⟩
theorem put_d {H : Hp} {a : Addr} {ks : List Str} {g : Str → V} {v : Str} {x : V} (h : H a = some (.dK (dct ks g))) (hv : v ∈ ks) (hl : ks.length < sizeLine) : DPut H a (.str v) x (upd H a (.dK (dct ks fun y => if y = v then x else g y))) := by
  have z := DPut.k (k := Sum.inr v) (v := x) h (by rw [dct_len]; exact hl)
  rw [dct_put_in hv] at z
  exact z
theorem put_n {H : Hp} {a : Addr} {ks : List Str} {g : Str → V} {v : Str} {x : V} (h : H a = some (.dK (dct ks g))) (hv : v ∉ ks) (hl : ks.length < sizeLine) : DPut H a (.str v) x (upd H a (.dK (dct (ks ++ [v]) fun y => if y = v then x else g y))) := by
  have z := DPut.k (k := Sum.inr v) (v := x) h (by rw [dct_len]; exact hl)
  rw [dct_put_new hv] at z
  exact z
abbrev Nb := Str → List Str
abbrev Wt := Str → Str → Int
structure RowsR (H : Hp) (a : Addr) (Vs : List Str) (ad : Str → Addr) (nb : Nb) (wt : Wt) : Prop where
  top : Rd H a (.dK (dct Vs fun u => .ref (ad u)))
  row : ∀ u ∈ Vs, Rd H (ad u) (.dK (dct (nb u) fun v => .int (wt u v)))
structure RowsM (H : Hp) (a : Addr) (Vs : List Str) (ad : Str → Addr) (nb : Nb) (wt : Wt) : Prop where
  top : H a = some (.dK (dct Vs fun u => .ref (ad u)))
  row : ∀ u ∈ Vs, H (ad u) = some (.dK (dct (nb u) fun v => .int (wt u v)))
  inj : ∀ u ∈ Vs, ∀ v ∈ Vs, ad u = ad v → u = v
  nd : Vs.Nodup
structure RowsZ (H : Hp) (a : Addr) (Vs : List Str) (ad : Str → Addr) (nb : Nb) (wt : Wt) : Prop where
  top : ∃ o, H a = some (.frz o (.dK (dct Vs fun u => .ref (ad u))))
  row : ∀ u ∈ Vs, ∃ o, H (ad u) = some (.frz o (.dK (dct (nb u) fun v => .int (wt u v))))
theorem RowsM.r {H : Hp} {a : Addr} {Vs : List Str} {ad : Str → Addr} {nb : Nb} {wt : Wt} (R : RowsM H a Vs ad nb wt) : RowsR H a Vs ad nb wt := ⟨.inl R.top, fun u hu => .inl (R.row u hu)⟩
theorem RowsZ.r {H : Hp} {a : Addr} {Vs : List Str} {ad : Str → Addr} {nb : Nb} {wt : Wt} (R : RowsZ H a Vs ad nb wt) : RowsR H a Vs ad nb wt := ⟨.inr R.top, fun u hu => .inr (R.row u hu)⟩
abbrev Ext (H H' : Hp) : Prop := ∀ b o, H b = some o → (∀ ps, o ≠ .tbl ps) → H' b = some o
theorem Ext.refl (H : Hp) : Ext H H := fun _ _ h _ => h
theorem Ext.trans {H H1 H2 : Hp} (a : Ext H H1) (b : Ext H1 H2) : Ext H H2 := fun c o h n => b c o (a c o h n) n
theorem Ext.of {H H' : Hp} (e : Same H H') : Ext H H' := fun b o h _ => e b o h
theorem Ext.rd {H H' : Hp} {a : Addr} {u : HO} (e : Ext H H') (h : Rd H a u) (n : ∀ ps, u ≠ .tbl ps) : Rd H' a u := by
  rcases h with h | ⟨o, h⟩
  · exact .inl (e _ _ h n)
  · exact .inr ⟨o, e _ _ h fun ps z => by cases z⟩
theorem Ext.up {H H' : Hp} {p : Addr} {o : HO} (e : Ext H H') (h : H p = none) : Ext H (upd H' p o) := fun b u hb n => by
  rw [upd_ne (ne_of_none hb h)]
  exact e b u hb n
theorem RowsR.ext {H H' : Hp} {a : Addr} {Vs : List Str} {ad : Str → Addr} {nb : Nb} {wt : Wt} (R : RowsR H a Vs ad nb wt) (e : Ext H H') : RowsR H' a Vs ad nb wt := ⟨e.rd R.top (fun ps z => by cases z), fun u hu => e.rd (R.row u hu) (fun ps z => by cases z)⟩
theorem RowsM.ext {H H' : Hp} {a : Addr} {Vs : List Str} {ad : Str → Addr} {nb : Nb} {wt : Wt} (R : RowsM H a Vs ad nb wt) (e : Ext H H') : RowsM H' a Vs ad nb wt := ⟨e _ _ R.top (fun ps z => by cases z), fun u hu => e _ _ (R.row u hu) (fun ps z => by cases z), R.inj, R.nd⟩
theorem RowsZ.ext {H H' : Hp} {a : Addr} {Vs : List Str} {ad : Str → Addr} {nb : Nb} {wt : Wt} (R : RowsZ H a Vs ad nb wt) (e : Ext H H') : RowsZ H' a Vs ad nb wt := by
  refine ⟨?_, fun u hu => ?_⟩
  · obtain ⟨o, h⟩ := R.top
    exact ⟨o, e _ _ h fun ps z => by cases z⟩
  · obtain ⟨o, h⟩ := R.row u hu
    exact ⟨o, e _ _ h fun ps z => by cases z⟩
theorem RowsM.ne {H : Hp} {a : Addr} {Vs : List Str} {ad : Str → Addr} {nb : Nb} {wt : Wt} (R : RowsM H a Vs ad nb wt) {u : Str} (hu : u ∈ Vs) : ad u ≠ a := by
  refine ne_of (R.row u hu) R.top fun z => ?_
  have z : dct (nb u) (fun v => V.int (wt u v)) = dct Vs fun u => .ref (ad u) := by
    injection z
  have h1 := @dct_in Vs (fun u => V.ref (ad u)) u hu
  rw [← z, dct_val] at h1
  split at h1
  · cases h1
  · cases h1
theorem RowsM.put {H : Hp} {a : Addr} {Vs : List Str} {ad : Str → Addr} {nb : Nb} {wt : Wt} (R : RowsM H a Vs ad nb wt) {u : Str} (hu : u ∈ Vs) (ks : List Str) (f : Str → Int) :
    RowsM (upd H (ad u) (.dK (dct ks fun v => .int (f v)))) a Vs ad (fun x => if x = u then ks else nb x) (fun x y => if x = u then f y else wt x y) := by
  refine ⟨by rw [upd_ne (Ne.symm (R.ne hu))]; exact R.top, fun x hx => ?_, R.inj, R.nd⟩
  by_cases e : x = u
  · subst e
    rw [upd_same, if_pos rfl]
    rw [dct_congr (g := fun v => V.int (f v)) (g' := fun v => V.int (if x = x then f v else wt x v)) fun v _ => by rw [if_pos rfl]]
  · rw [upd_ne (fun z => e (R.inj x hx u hu z)), R.row x hx, if_neg e]
    rw [dct_congr (g := fun v => V.int (wt x v)) (g' := fun v => V.int (if x = u then f v else wt x v)) fun v _ => by rw [if_neg e]]
theorem RowsM.as {H : Hp} {a : Addr} {Vs : List Str} {ad : Str → Addr} {nb nb' : Nb} {wt wt' : Wt} (R : RowsM H a Vs ad nb wt) (h1 : ∀ u ∈ Vs, nb u = nb' u) (h2 : ∀ u ∈ Vs, ∀ v ∈ nb u, wt u v = wt' u v) : RowsM H a Vs ad nb' wt' := by
  refine ⟨R.top, fun u hu => ?_, R.inj, R.nd⟩
  rw [R.row u hu, ← h1 u hu]
  rw [dct_congr (g := fun v => V.int (wt u v)) (g' := fun v => V.int (wt' u v)) fun v hv => by rw [h2 u hu v hv]]
theorem opIn {X : Cx} (K : PySem.W.Frag) (h : X.K = K) : OpR X (compareOp .In) (rIn K false) := by
  subst h
  exact op_in_seq
theorem inV_str {x : Str} {xs : List Str} : inV (.str x) (xs.map V.str) = decide (x ∈ xs) := by
  rw [Bool.eq_iff_iff, decide_eq_true_iff]
  unfold inV
  rw [List.any_eq_true]
  constructor
  · rintro ⟨y, hy, e⟩
    obtain ⟨z, hz, rfl⟩ := List.mem_map.mp hy
    have e : (x == z) = true ∨ (z == x) = true := by
      first | exact Or.inl e | exact Or.inr e
    rcases e with e | e
    · rw [eq_of_beq e]
      exact hz
    · rw [← eq_of_beq e]
      exact hz
  · intro h
    exact ⟨.str x, List.mem_map.mpr ⟨x, h, rfl⟩, by show (x == x) = true; exact beq_self_eq_true x⟩
theorem flat_str {xs : List Str} : (xs.map V.str).all flatV = true := by
  rw [List.all_eq_true]
  intro y hy
  obtain ⟨z, _, rfl⟩ := List.mem_map.mp hy
  rfl
theorem pgT {X : Cx} {es : List Expr} {k : Nat} {t : TGs} {pos : Pos} (K : PySem.W.Frag) (n : Nat) (hK : X.K = K) (hc : X.calm = true) (h : PGs X es t) (hn : (assignEach es X.env).length = n) (hst : (assignEach es X.env).findIdx? (·.1) = none := by rfl) : PG X (.Tuple es k pos) (gTup K n t) := by
  subst hK
  subst hn
  exact pg_tup hc h rfl hst
end WkN
namespace WkP
open PySem WkN
def conn (nb : Nb) (wt : Wt) (S : List Str) (u : Str) : Int := (S.map fun s => if u ∈ nb s then wt s u else 0).sum
theorem conn_snoc (nb : Nb) (wt : Wt) (S : List Str) (s u : Str) : conn nb wt (S ++ [s]) u = conn nb wt S u + (if u ∈ nb s then wt s u else 0) := by
  unfold conn
  rw [List.map_append, List.sum_append]
  simp
structure Pre (nb : Nb) (wt : Wt) (Vs done : List Str) : Prop where
  nd : done.Nodup
  sub : ∀ x ∈ done, x ∈ Vs
  best : ∀ (i : Nat) (x : Str), done[i]? = some x → ∀ u ∈ Vs, u ∉ done.take i → conn nb wt (done.take i) u ≤ conn nb wt (done.take i) x
theorem Pre.nil (nb : Nb) (wt : Wt) (Vs : List Str) : Pre nb wt Vs [] := ⟨List.nodup_nil, fun x h => absurd h (by simp), fun i x h => absurd h (by simp)⟩
theorem Pre.snoc {nb : Nb} {wt : Wt} {Vs done : List Str} {x : Str} (p : Pre nb wt Vs done) (hx : x ∈ Vs) (hn : x ∉ done) (hb : ∀ u ∈ Vs, u ∉ done → conn nb wt done u ≤ conn nb wt done x) : Pre nb wt Vs (done ++ [x]) := by
  refine ⟨?_, fun y hy => ?_, fun i y hy u hu hm => ?_⟩
  · rw [List.nodup_append]
    refine ⟨p.nd, by simp, fun a ha b hb e => ?_⟩
    have hb : b = x := by simpa using hb
    rw [e, hb] at ha
    exact hn ha
  · rcases List.mem_append.mp hy with h | h
    · exact p.sub y h
    · rw [List.mem_singleton.mp h]
      exact hx
  · rcases Nat.lt_trichotomy i done.length with h | h | h
    · have e : (done ++ [x]).take i = done.take i := List.take_append_of_le_length (by omega)
      rw [List.getElem?_append_left h] at hy
      rw [e] at hm ⊢
      exact p.best i y hy u hu hm
    · subst h
      have e : (done ++ [x]).take done.length = done := by simp
      have ey : x = y := by simpa using hy
      rw [e] at hm ⊢
      rw [← ey]
      exact hb u hu hm
    · rw [List.getElem?_eq_none (by simp; omega)] at hy
      cases hy
def LastTwo (nb : Nb) (wt : Wt) (Vs : List Str) (x l : Str) (n : Int) : Prop := ∃ pre, Pre nb wt Vs (pre ++ [x, l]) ∧ (∀ u ∈ Vs, u ∈ pre ++ [x, l]) ∧ n = conn nb wt (pre ++ [x]) l
theorem LastTwo.mem {nb : Nb} {wt : Wt} {Vs : List Str} {x l : Str} {n : Int} (h : LastTwo nb wt Vs x l n) : x ∈ Vs ∧ l ∈ Vs ∧ x ≠ l := by
  obtain ⟨pre, p, _, _⟩ := h
  refine ⟨p.sub x (by simp), p.sub l (by simp), fun e => ?_⟩
  have nd := p.nd
  rw [e, List.nodup_append] at nd
  simp at nd
def Tail (nb : Nb) (wt : Wt) (done : List Str) (ah la : L2.V) (wg : L2.V) : Prop :=
  (done = [] ∧ la = .non) ∨ (∃ x, done = [x] ∧ la = .str x) ∨ ∃ pre x l, done = pre ++ [x, l] ∧ ah = .str x ∧ la = .str l ∧ wg = .int (conn nb wt (pre ++ [x]) l)
theorem Tail.snoc {nb : Nb} {wt : Wt} {done : List Str} {ah la wg : L2.V} (t : Tail nb wt done ah la wg) (y : Str) : Tail nb wt (done ++ [y]) la (.str y) (.int (conn nb wt done y)) := by
  rcases t with ⟨rfl, _⟩ | ⟨x, rfl, rfl⟩ | ⟨pre, x, l, rfl, _, rfl, _⟩
  · exact .inr (.inl ⟨y, rfl, rfl⟩)
  · exact .inr (.inr ⟨[], x, y, rfl, rfl, rfl, rfl⟩)
  · exact .inr (.inr ⟨pre ++ [x], l, y, by simp, rfl, rfl, by simp⟩)
end WkP
namespace WkP
open PySem WkN
def vl0 (nb : Nb) (wt : Wt) (u v : Str) : Int := if v ∈ nb u then wt u v else 0
structure Sym (Vs : List Str) (nb : Nb) (wt : Wt) : Prop where
  nd : ∀ u ∈ Vs, (nb u).Nodup
  mem : ∀ u ∈ Vs, ∀ v ∈ nb u, v ∈ Vs ∧ v ≠ u ∧ u ∈ nb v ∧ wt v u = wt u v
structure Mp (nb : Nb) (wt : Wt) (kept gone : Str) (Ws S : List Str) (nbi : Nb) (wti : Wt) : Prop where
  nd : ∀ u ∈ Ws, (nbi u).Nodup
  mem : ∀ u ∈ Ws, ∀ y, y ∈ nbi u ↔ (y = gone ∧ gone ∈ nb u ∧ u ∉ S) ∨ (y ≠ gone ∧ (y ∈ nb u ∨ (u = kept ∧ y ∈ S ∧ y ≠ kept) ∨ (y = kept ∧ u ∈ S ∧ u ≠ kept)))
  val : ∀ u ∈ Ws, ∀ y, y ≠ gone → y ∈ nbi u → wti u y = vl0 nb wt u y + (if u = kept ∧ y ∈ S then wt gone y else 0) + (if y = kept ∧ u ∈ S ∧ u ≠ kept then wt gone u else 0)
theorem Mp.start {nb : Nb} {wt : Wt} {kept gone : Str} {Vs Ws : List Str} (s : Sym Vs nb wt) (h : ∀ u ∈ Ws, u ∈ Vs) : Mp nb wt kept gone Ws [] nb wt := by
  refine ⟨fun u hu => s.nd u (h u hu), fun u hu y => ?_, fun u hu y hy hm => ?_⟩
  · by_cases e : y = gone
    · subst e
      simp
    · simp [e]
  · unfold vl0
    simp [hm]
def up (nb : Nb) (u : Str) (ks : List Str) : Nb := fun y => if y = u then ks else nb y
def upw (wt : Wt) (u : Str) (f : Str → Int) : Wt := fun x y => if x = u then f y else wt x y
def add (ks : List Str) (v : Str) : List Str := if v ∈ ks then ks else ks ++ [v]
theorem add_mem {ks : List Str} {v y : Str} : y ∈ add ks v ↔ y ∈ ks ∨ y = v := by
  unfold add
  split <;> grind
theorem add_nd {ks : List Str} {v : Str} (h : ks.Nodup) : (add ks v).Nodup := by
  unfold add
  split
  · exact h
  · rename_i hn
    rw [List.nodup_append]
    exact ⟨h, by simp, fun a ha b hb e => by
      have hb : b = v := by simpa using hb
      rw [e, hb] at ha
      exact hn ha⟩
section
variable {nb : Nb} {wt : Wt} {kept gone : Str} {Vs Ws S : List Str} {nbi : Nb} {wti : Wt}
theorem Mp.atKept (m : Mp nb wt kept gone Ws S nbi wti) (s : Sym Vs nb wt) (hW : ∀ u ∈ Ws, u ∈ Vs) (hk : kept ∈ Ws) (hne : kept ≠ gone) : Mp nb wt kept gone Ws (S ++ [kept]) (up nbi kept ((nbi kept).filter fun y => decide (y ≠ gone))) wti := by
  refine ⟨fun u hu => ?_, fun u hu y => ?_, fun u hu y hy hm => ?_⟩
  · unfold up
    split
    · exact (m.nd kept hk).filter _
    · exact m.nd u hu
  · have h1 := m.mem u hu y
    have h2 := m.mem kept hk y
    unfold up
    by_cases e : u = kept
    · subst e
      rw [if_pos rfl, List.mem_filter]
      grind
    · rw [if_neg e, h1]
      grind
  · have hm' : y ∈ nbi u := by
      unfold up at hm
      split at hm
      · rename_i e
        rw [e]
        exact (List.mem_filter.mp hm).1
      · exact hm
    have h1 := m.mem u hu y
    have h5 := s.mem kept (hW _ hk) kept
    rw [m.val u hu y hy hm']
    grind
theorem Mp.atOther (m : Mp nb wt kept gone Ws S nbi wti) (s : Sym Vs nb wt) (hW : ∀ u ∈ Ws, u ∈ Vs) (hk : kept ∈ Ws) (hne : kept ≠ gone) {v : Str} (hv : v ∈ Ws) (hvS : v ∉ S) (hvk : v ≠ kept) (hvg : v ≠ gone) (hg : gone ∈ nb v) {n : Int} (hn : n = (if v ∈ nbi kept then wti kept v else 0) + wt gone v) :
    Mp nb wt kept gone Ws (S ++ [v]) (up (up (up nbi v ((nbi v).filter fun y => decide (y ≠ gone))) kept (add (nbi kept) v)) v (add ((nbi v).filter fun y => decide (y ≠ gone)) kept))
      (upw (upw wti kept fun y => if y = v then n else wti kept y) v fun y => if y = kept then n else wti v y) := by
  have hkm := m.mem kept hk v
  have hn2 : n = vl0 nb wt kept v + wt gone v := by
    rw [hn]
    unfold vl0
    by_cases h : v ∈ nbi kept
    · have h3 := m.val kept hk v hvg h
      unfold vl0 at h3
      grind
    · have : v ∉ nb kept := by grind
      grind
  have sy : vl0 nb wt v kept = vl0 nb wt kept v := by
    unfold vl0
    have a1 := s.mem kept (hW _ hk) v
    have a2 := s.mem v (hW _ hv) kept
    grind
  refine ⟨fun u hu => ?_, fun u hu y => ?_, fun u hu y hy hm => ?_⟩
  · unfold up
    split
    · exact add_nd ((m.nd v hv).filter _)
    · split
      · exact add_nd (m.nd kept hk)
      · exact m.nd u hu
  · have h1 := m.mem u hu y
    have h2 := m.mem kept hk y
    have h3 := m.mem v hv y
    unfold up
    by_cases e1 : u = v
    · subst e1
      rw [if_pos rfl, add_mem, List.mem_filter]
      grind
    · rw [if_neg e1]
      by_cases e2 : u = kept
      · subst e2
        rw [if_pos rfl, add_mem]
        grind
      · rw [if_neg e2, if_neg e1, h1]
        grind
  · unfold up at hm
    unfold upw
    by_cases e1 : u = v
    · subst e1
      rw [if_pos rfl, add_mem, List.mem_filter] at hm
      rw [if_pos rfl]
      dsimp only
      have h3 := m.mem u hu y
      by_cases e3 : y = kept
      · subst e3
        rw [if_pos rfl, hn2, sy]
        grind
      · rw [if_neg e3]
        have hm2 : y ∈ nbi u := by grind
        rw [m.val u hu y hy hm2]
        grind
    · rw [if_neg e1] at hm
      rw [if_neg e1]
      by_cases e2 : u = kept
      · subst e2
        rw [if_pos rfl, add_mem] at hm
        rw [if_pos rfl]
        dsimp only
        by_cases e3 : y = v
        · subst e3
          rw [if_pos rfl, hn2]
          grind
        · rw [if_neg e3]
          have hm2 : y ∈ nbi u := by grind
          rw [m.val u hu y hy hm2]
          grind
      · rw [if_neg e2, if_neg e1] at hm
        rw [if_neg e2, m.val u hu y hy hm]
        grind
end
structure Merged (nb : Nb) (wt : Wt) (kept gone : Str) (Ws : List Str) (nb' : Nb) (wt' : Wt) : Prop where
  mem : ∀ u ∈ Ws, ∀ y, y ∈ nb' u ↔ y ≠ gone ∧ y ≠ u ∧ (y ∈ nb u ∨ (u = kept ∧ y ∈ nb gone) ∨ (y = kept ∧ gone ∈ nb u))
  val : ∀ u ∈ Ws, ∀ y, y ∈ nb' u → wt' u y = vl0 nb wt u y + (if u = kept then vl0 nb wt gone y else 0) + (if y = kept then vl0 nb wt gone u else 0)
  sym : Sym Ws nb' wt'
theorem Mp.done {nb : Nb} {wt : Wt} {kept gone : Str} {Vs : List Str} {nbi : Nb} {wti : Wt} (s : Sym Vs nb wt) (hk : kept ∈ Vs) (hg : gone ∈ Vs) (hne : kept ≠ gone) (m : Mp nb wt kept gone (Vs.filter fun y => decide (y ≠ gone)) (nb gone) nbi wti) :
    Merged nb wt kept gone (Vs.filter fun y => decide (y ≠ gone)) nbi wti := by
  have mw : ∀ u, u ∈ (Vs.filter fun y => decide (y ≠ gone)) ↔ u ∈ Vs ∧ u ≠ gone := fun u => by
    rw [List.mem_filter, decide_eq_true_iff]
  have mem : ∀ u ∈ (Vs.filter fun y => decide (y ≠ gone)), ∀ y, y ∈ nbi u ↔ y ≠ gone ∧ y ≠ u ∧ (y ∈ nb u ∨ (u = kept ∧ y ∈ nb gone) ∨ (y = kept ∧ gone ∈ nb u)) := fun u hu y => by
    have h1 := m.mem u hu y
    have hu' := (mw u).mp hu
    have a1 := s.mem u hu'.1
    have a2 := s.mem gone hg
    grind
  have vl : ∀ u ∈ (Vs.filter fun y => decide (y ≠ gone)), ∀ y, y ∈ nbi u → wti u y = vl0 nb wt u y + (if u = kept then vl0 nb wt gone y else 0) + (if y = kept then vl0 nb wt gone u else 0) := fun u hu y hy => by
    have h0 := (mem u hu y).mp hy
    rw [m.val u hu y h0.1 hy]
    unfold vl0
    have a2 := s.mem gone hg
    grind
  refine ⟨mem, vl, ⟨m.nd, fun u hu v hv => ?_⟩⟩
  have hu' := (mw u).mp hu
  have h0 := (mem u hu v).mp hv
  have a1 := s.mem u hu'.1
  have a2 := s.mem gone hg
  have hvV : v ∈ Vs := by grind
  have hvW : v ∈ (Vs.filter fun y => decide (y ≠ gone)) := (mw v).mpr ⟨hvV, h0.1⟩
  have a3 := s.mem v hvV
  have hb : u ∈ nbi v := by
    rw [mem v hvW u]
    grind
  refine ⟨hvW, h0.2.1, hb, ?_⟩
  rw [vl v hvW u hb, vl u hu v hv]
  unfold vl0
  grind
open L2 in
theorem putI {H : Hp} {a : Addr} {ks : List Str} {f : Str → Int} {v : Str} {n : Int} (h : H a = some (.dK (dct ks fun y => .int (f y)))) (hl : ks.length < sizeLine) : DPut H a (.str v) (.int n) (upd H a (.dK (dct (add ks v) fun y => .int (if y = v then n else f y)))) := by
  have e : ∀ l : List Str, dct l (fun y => if y = v then V.int n else V.int (f y)) = dct l fun y => V.int (if y = v then n else f y) := fun l => dct_congr fun y _ => by split <;> rfl
  unfold add
  by_cases hv : v ∈ ks
  · rw [if_pos hv, ← e]
    exact put_d h hv hl
  · rw [if_neg hv, ← e]
    exact put_n h hv hl
end WkP
namespace WkP
open PySem WkN
def grow (grp : Str → List Str) (x l : Str) : Str → List Str := fun u => if u = x then grp x ++ grp l else grp u
def better (best : Option (Int × List Str)) (n : Int) (g : List Str) : Option (Int × List Str) := match best with
  | none => some (n, g)
  | some (m, h) => if n < m then some (n, g) else some (m, h)
inductive Phases (Vs : List Str) (nb : Nb) (wt : Wt) : List Str → Nb → Wt → (Str → List Str) → Option (Int × List Str) → Prop
  | start : Phases Vs nb wt Vs nb wt (fun u => [u]) none
  | step {Ws : List Str} {nb' nb'' : Nb} {wt' wt'' : Wt} {grp : Str → List Str} {best : Option (Int × List Str)} {x l : Str} {n : Int} :
      Phases Vs nb wt Ws nb' wt' grp best → LastTwo nb' wt' Ws x l n → Merged nb' wt' x l (Ws.filter fun y => decide (y ≠ l)) nb'' wt'' →
      Phases Vs nb wt (Ws.filter fun y => decide (y ≠ l)) nb'' wt'' (grow grp x l) (better best n (grp l))
structure Grps (Vs Ws : List Str) (grp : Str → List Str) : Prop where
  sub : ∀ u ∈ Ws, u ∈ Vs
  mem : ∀ u ∈ Ws, ∀ y ∈ grp u, y ∈ Vs
  nd : ∀ u ∈ Ws, (grp u).Nodup
  dis : ∀ u ∈ Ws, ∀ v ∈ Ws, ∀ y, y ∈ grp u → y ∈ grp v → u = v
theorem Phases.grps {Vs : List Str} {nb : Nb} {wt : Wt} {Ws : List Str} {nb' : Nb} {wt' : Wt} {grp : Str → List Str} {best : Option (Int × List Str)} (p : Phases Vs nb wt Ws nb' wt' grp best) : Grps Vs Ws grp := by
  induction p with
  | start => exact ⟨fun u h => h, fun u h y hy => by rw [List.mem_singleton.mp hy]; exact h, fun u _ => by simp, fun u _ v _ y h1 h2 => by rw [← List.mem_singleton.mp h1, ← List.mem_singleton.mp h2]⟩
  | @step Ws nb' nb'' wt' wt'' grp best x l n p lt mg ih =>
    obtain ⟨hx, hl, hne⟩ := lt.mem
    obtain ⟨i1, i2, i3, i4⟩ := ih
    have mw : ∀ u, u ∈ (Ws.filter fun y => decide (y ≠ l)) ↔ u ∈ Ws ∧ u ≠ l := fun u => by rw [List.mem_filter, decide_eq_true_iff]
    refine ⟨fun u hu => i1 u ((mw u).mp hu).1, fun u hu y hy => ?_, fun u hu => ?_, fun u hu v hv y h1 h2 => ?_⟩
    · unfold grow at hy
      split at hy
      · rcases List.mem_append.mp hy with h | h
        · exact i2 x hx y h
        · exact i2 l hl y h
      · exact i2 u ((mw u).mp hu).1 y hy
    · unfold grow
      split
      · rw [List.nodup_append]
        exact ⟨i3 x hx, i3 l hl, fun a ha b hb e => hne (i4 x hx l hl a ha (e ▸ hb))⟩
      · exact i3 u ((mw u).mp hu).1
    · have hu' := (mw u).mp hu
      have hv' := (mw v).mp hv
      unfold grow at h1 h2
      have a := i4 u hu'.1 v hv'.1 y
      have b := i4 x hx v hv'.1 y
      have c := i4 l hl v hv'.1 y
      have d := i4 u hu'.1 x hx y
      have e := i4 u hu'.1 l hl y
      grind
theorem Grps.len {Vs Ws : List Str} {grp : Str → List Str} (g : Grps Vs Ws grp) {u : Str} (hu : u ∈ Ws) : (grp u).length ≤ Vs.length :=
  (g.nd u hu).length_le_of_subset fun y hy => g.mem u hu y hy
def LeastCut (Vs : List Str) (nb : Nb) (wt : Wt) (n : Int) (m : List Str) : Prop := ∃ Ws nb' wt' grp, Phases Vs nb wt Ws nb' wt' grp (some (n, m)) ∧ Ws.length ≤ 1
def sideL (top : Str) (Vs m : List Str) : List Str := Vs.filter fun v => !decide (L2.V.bl (decide (v ∈ m)) = L2.V.bl (decide (top ∈ m)))
theorem Phases.none {Vs : List Str} {nb : Nb} {wt : Wt} {Ws : List Str} {nb' : Nb} {wt' : Wt} {grp : Str → List Str} {best : Option (Int × List Str)} (p : Phases Vs nb wt Ws nb' wt' grp best) (h : best = Option.none) : Ws = Vs := by
  cases p with
  | start => rfl
  | @step Ws nb' nb'' wt' wt'' grp best x l n p lt mg =>
    unfold better at h
    split at h
    · cases h
    · split at h <;> cases h
end WkP
namespace WkN
open PySem PySem.Spec PyProof.Rows L2 WkD
theorem piL {X : Cx} {tg e : Expr} {te : TE} (K : PySem.W.Frag) (h : X.K = K) (he : PE X e te) : PI X tg e (iList K te) := by
  subst h
  exact pi_list he
end WkN
namespace WkN
open PySem PySem.Spec PyProof.Rows L2 WkD
theorem piOr {X : Cx} {tg e : Expr} {t u : TI} (h1 : PI X tg e t) (h2 : PI X tg e u) : PI X tg e (fun σ H R => t σ H R ∨ u σ H R) := by
  refine ⟨fun pins s σ H R I h => ?_⟩
  rcases h with h | h
  · exact h1.run pins s σ H R I h
  · exact h2.run pins s σ H R I h
end WkN
namespace WkP
open PySem WkN
abbrev Ed := Str × Str × Int
def Adj (es : List Ed) (u v : Str) (n : Int) : Prop := (u, v, n) ∈ es ∨ (v, u, n) ∈ es
structure RowsOf (Vs : List Str) (es : List Ed) (nb : Nb) (wt : Wt) : Prop where
  nd : ∀ u ∈ Vs, (nb u).Nodup
  mem : ∀ u ∈ Vs, ∀ v, v ∈ nb u ↔ ∃ n, Adj es u v n
  val : ∀ u ∈ Vs, ∀ v n, Adj es u v n → wt u v = n
theorem RowsOf.nil (Vs : List Str) (wt : Wt) : RowsOf Vs [] (fun _ => []) wt := by
  refine ⟨fun u _ => by simp, fun u _ v => ?_, fun u _ v n h => ?_⟩
  · simp [Adj]
  · simp [Adj] at h
theorem RowsOf.snoc {Vs : List Str} {es : List Ed} {nb : Nb} {wt : Wt} {a b : Str} {n : Int} (r : RowsOf Vs es nb wt) (ha : a ∈ Vs) (hb : b ∈ Vs) (hne : a ≠ b) (hn : b ∉ nb a) :
    RowsOf Vs (es ++ [(a, b, n)]) (up (up nb a (add (nb a) b)) b (add (nb b) a)) (upw (upw wt a fun y => if y = b then n else wt a y) b fun y => if y = a then n else wt b y) := by
  have adj : ∀ u v m, Adj (es ++ [(a, b, n)]) u v m ↔ Adj es u v m ∨ (u = a ∧ v = b ∧ m = n) ∨ (u = b ∧ v = a ∧ m = n) := fun u v m => by
    unfold Adj
    grind
  have ma := r.mem a ha
  have mb := r.mem b hb
  have sy : ∀ u v m, Adj es u v m → Adj es v u m := fun u v m h => h.symm
  have hn2 : a ∉ nb b := fun h => by
    obtain ⟨m, hm⟩ := (mb a).mp h
    exact hn ((ma b).mpr ⟨m, sy _ _ _ hm⟩)
  refine ⟨fun u hu => ?_, fun u hu v => ?_, fun u hu v m h => ?_⟩
  · unfold up
    split
    · exact add_nd (r.nd b hb)
    · split
      · exact add_nd (r.nd a ha)
      · exact r.nd u hu
  · have h1 := r.mem u hu v
    have h2 := ma v
    have h3 := mb v
    unfold up
    by_cases e1 : u = b
    · subst e1
      rw [if_pos rfl, add_mem, h3]
      constructor
      · rintro (⟨m, h⟩ | h)
        · exact ⟨m, (adj _ _ _).mpr (.inl h)⟩
        · exact ⟨n, (adj _ _ _).mpr (.inr (.inr ⟨rfl, h, rfl⟩))⟩
      · rintro ⟨m, h⟩
        rcases (adj _ _ _).mp h with h | h | h
        · exact .inl ⟨m, h⟩
        · exact absurd h.1.symm hne
        · exact .inr h.2.1
    · rw [if_neg e1]
      by_cases e2 : u = a
      · subst e2
        rw [if_pos rfl, add_mem, h2]
        constructor
        · rintro (⟨m, h⟩ | h)
          · exact ⟨m, (adj _ _ _).mpr (.inl h)⟩
          · exact ⟨n, (adj _ _ _).mpr (.inr (.inl ⟨rfl, h, rfl⟩))⟩
        · rintro ⟨m, h⟩
          rcases (adj _ _ _).mp h with h | h | h
          · exact .inl ⟨m, h⟩
          · exact .inr h.2.1
          · exact absurd h.1 hne
      · rw [if_neg e2, h1]
        constructor
        · rintro ⟨m, h⟩
          exact ⟨m, (adj _ _ _).mpr (.inl h)⟩
        · rintro ⟨m, h⟩
          rcases (adj _ _ _).mp h with h | h | h
          · exact ⟨m, h⟩
          · exact absurd h.1 e2
          · exact absurd h.1 e1
  · have va := r.val u hu v m
    have hb' := (mb v).mpr
    have ha' := (ma v).mpr
    unfold upw
    rcases (adj _ _ _).mp h with h | h | h
    · grind
    · grind
    · grind
end WkP
namespace WkG
open PySem PySem.Spec PyProof.Rows L2
def keyD : Key → PyData
  | .inl i => .int i
  | .inr x => .str x
mutual
inductive Dx (K : PySem.W.Frag) (H : Hp) : V → PyData → Prop
  | non : Dx K H .non .none
  | bl (b : Bool) : Dx K H (.bl b) (.bool b)
  | int (i : Int) : Dx K H (.int i) (.int i)
  | str (x : Str) : Dx K H (.str x) (.str x)
  | lst {a : Addr} {xs : List V} {ds : List PyData} : SqL K H a xs → DxAll K H xs ds → Dx K H (.ref a) (.list ds)
  | tup {a : Addr} {xs : List V} {ds : List PyData} : SqT K H a xs → DxAll K H xs ds → Dx K H (.ref a) (.tuple ds)
  | dK {a : Addr} {kvs : List (Key × V)} {ks vs : List PyData} {es : List (PyData × PyData)} : Rd H a (.dK kvs) → DxAll K H (kvs.map (·.2)) vs → ks = kvs.map (fun p => keyD p.1) → es.map (·.1) = ks → es.map (·.2) = vs → Dx K H (.ref a) (.dict es)
  | dT {a : Addr} {kvs : List (List Key × V)} {vs : List PyData} {es : List (PyData × PyData)} : H a = some (.dT kvs) → DxAll K H (kvs.map (·.2)) vs → es.map (·.1) = kvs.map (fun p => PyData.tuple (p.1.map keyD)) → es.map (·.2) = vs → Dx K H (.ref a) (.dict es)
inductive DxAll (K : PySem.W.Frag) (H : Hp) : List V → List PyData → Prop
  | nil : DxAll K H [] []
  | cons {v : V} {vs : List V} {d : PyData} {ds : List PyData} : Dx K H v d → DxAll K H vs ds → DxAll K H (v :: vs) (d :: ds)
end
theorem keyD_reads {h : Heap} {k : Key} {v : Value} (e : keyIs k v = true) : Reads h v (keyD k) [] := by
  rcases keyIs_shape e with ⟨i, t, rfl, rfl⟩ | ⟨x, t, rfl, rfl⟩
  · exact .int i t
  · exact .str x t
theorem pairs_reads {P : Program} {w : World} {h : Heap} : ∀ {es : List DictEntry} {vs : List (Key × Value)}, Pairs (mixKind P w) es vs → ReadsAll h (es.map (·.key)) (vs.map fun p => keyD p.1) [] ∧ es.map (·.val) = vs.map (·.2)
  | [], [], _ => ⟨.nil, rfl⟩
  | e :: es, kv :: vs, h => by
    cases h with
    | cons h1 h2 h3 =>
      obtain ⟨r1, r2⟩ := pairs_reads h3
      refine ⟨.cons (as := []) (bs := []) (keyD_reads h1) r1, ?_⟩
      rw [List.map_cons, List.map_cons, r2, h2]
theorem kv_keys {kvs : List (Key × V)} {vs : List (Key × Value)} (h : KV kvs vs) : kvs.map (fun p => keyD p.1) = vs.map (fun p => keyD p.1) ∧ Vals (kvs.map (·.2)) (vs.map (·.2)) := by
  induction h with
  | nil => exact ⟨rfl, .nil⟩
  | cons r t ih =>
    refine ⟨?_, .cons r.2 ih.2⟩
    rw [List.map_cons, List.map_cons, ih.1, r.1]
def Sm (K : PySem.W.Frag) : Prop := ∃ o, K.lookup sysModules = some o ∧ o.cls = .type "dict"
section
variable {X : Cx} {pins : List (Addr × Obj)} {σ : L2.St} {H : Hp} {s : Shared}
theorem sm_none (I : Inv X pins σ H s) (S : Sm X.K) : H sysModules = none := by
  obtain ⟨o, e, _⟩ := S
  exact (I.bs _ _ (I.ok.mod.kin _ _ e)).2
theorem sm_list (I : Inv X pins σ H s) (S : Sm X.K) {a : Addr} {xs : List V} (h : SqL X.K H a xs) : sysModules ≠ a := by
  intro z
  subst z
  rcases h with (h | ⟨o, h⟩) | ⟨o, its, n, hk, hc, _⟩
  · rw [sm_none I S] at h
    cases h
  · rw [sm_none I S] at h
    cases h
  · obtain ⟨o', e, c⟩ := S
    rw [e] at hk
    cases hk
    rw [c] at hc
    exact absurd (Value.type.inj hc) (by decide)
theorem tk_reads {h : Heap} : ∀ (ks : List Key) (its : List Value), Vals (ks.map kV) its → ReadsAll h its (ks.map keyD) []
  | [], _, r => by
    cases r
    exact .nil
  | k :: ks, _, r => by
    cases r with
    | cons r1 r2 =>
      refine .cons (as := []) (bs := []) ?_ (tk_reads ks _ r2)
      cases k with
      | inl i =>
        obtain ⟨t, rfl⟩ := r1
        exact .int i t
      | inr x =>
        obtain ⟨t, rfl⟩ := r1
        exact .str x t
theorem dt_reads (I : Inv X pins σ H s) : ∀ {kvs : List (List Key × V)} {xs : List (List Key × Addr × Value)}, Paired (fun (p : List Key × V) (q : List Key × Addr × Value) => p.1 = q.1 ∧ H q.2.1 = some (.tup (p.1.map kV)) ∧ RelV p.2 q.2.2) kvs xs →
    ReadsAll s.heap (xs.map fun q => Value.ref q.2.1) (kvs.map fun p => PyData.tuple (p.1.map keyD)) [] ∧ Vals (kvs.map (·.2)) (xs.map (·.2.2))
  | _, _, .nil => ⟨.nil, .nil⟩
  | _, _, .cons h r => by
    obtain ⟨r1, r2⟩ := dt_reads I r
    obtain ⟨_, ht, rv⟩ := h
    obtain ⟨its, rvs, ⟨o, ho, hc, n, hd⟩, _⟩ := I.tuple (.inl (.inl ht))
    exact ⟨.cons (as := []) (bs := []) (.tuple ho hc hd (tk_reads _ _ rvs)) r1, .cons rv r2⟩
mutual
theorem Dx.reads (I : Inv X pins σ H s) (S : Sm X.K) : ∀ (d : PyData) (v : V) (u : Value), Dx X.K H v d → RelV v u → ∃ as, Reads s.heap u d as ∧ sysModules ∉ as
  | .none, _, _, h, r => by
    cases h
    cases r
    exact ⟨_, Reads.none, by simp⟩
  | .bool b, _, _, h, r => by
    cases h
    cases r
    exact ⟨_, Reads.bool b, by simp⟩
  | .int i, _, _, h, r => by
    cases h
    obtain ⟨t, rfl⟩ := r
    exact ⟨_, Reads.int i t, by simp⟩
  | .str x, _, _, h, r => by
    cases h
    obtain ⟨t, rfl⟩ := r
    exact ⟨_, Reads.str x t, by simp⟩
  | .list ds, _, _, h, r => by
    cases h with
    | lst hs ha =>
      cases r
      obtain ⟨its, rv, ⟨o, n, ho, hc, _, hd⟩, _⟩ := I.list hs
      obtain ⟨as, hr, hn⟩ := Dx.readsAll I S ds _ its ha rv
      refine ⟨_, Reads.list ho hc hd hr, fun z => ?_⟩
      rcases List.mem_cons.mp z with z | z
      · exact sm_list I S hs z
      · exact hn z
  | .tuple ds, _, _, h, r => by
    cases h with
    | tup hs ha =>
      cases r
      obtain ⟨its, rv, ⟨o, ho, hc, n, hd⟩, _⟩ := I.tuple hs
      obtain ⟨as, hr, hn⟩ := Dx.readsAll I S ds _ its ha rv
      exact ⟨_, Reads.tuple ho hc hd hr, hn⟩
  | .dict es, _, _, h, r => by
    cases h with
    | dK hs ha e1 e2 e3 =>
      cases r
      obtain ⟨z, y, vs, rel, o, ens, ep, ho, hx, hd, _, hp, _⟩ := hs.ok I.hok
      obtain ⟨k1, k2⟩ := kv_keys rel
      obtain ⟨p1, p2⟩ := pairs_reads (h := s.heap) hp
      have hz : es.map (·.2) = es.map (·.2) := rfl
      obtain ⟨bs, hr, hn⟩ := Dx.readsKv I S es _ _ (e3 ▸ ha) k2
      rw [← p2] at hr
      rw [← k1, ← e1, ← e2] at p1
      refine ⟨_, Reads.dict ho hx.1 hd p1 hr, fun q => ?_⟩
      rcases List.mem_cons.mp q with q | q
      · rw [← q] at y
        exact absurd y (by decide)
      · exact hn (by simpa using q)
    | dT hs ha e2 e3 =>
      cases r
      obtain ⟨z, y, xs, rel, o, ens, ep, ho, hx, hd, hes, _⟩ := I.hok _ _ hs
      obtain ⟨p1, k2⟩ := dt_reads I rel
      obtain ⟨bs, hr, hn⟩ := Dx.readsKv I S es _ _ (e3 ▸ ha) k2
      have q1 : ens.toList.map (·.key) = xs.map fun q => Value.ref q.2.1 := by rw [hes, List.map_map]; rfl
      have q2 : ens.toList.map (·.val) = xs.map (·.2.2) := by rw [hes, List.map_map]; rfl
      rw [← q1, ← e2] at p1
      rw [← q2] at hr
      refine ⟨_, Reads.dict ho hx.1 hd p1 hr, fun q => ?_⟩
      rcases List.mem_cons.mp q with q | q
      · rw [← q] at y
        exact absurd y (by decide)
      · exact hn (by simpa using q)
theorem Dx.readsAll (I : Inv X pins σ H s) (S : Sm X.K) : ∀ (ds : List PyData) (vs : List V) (us : List Value), DxAll X.K H vs ds → Vals vs us → ∃ as, ReadsAll s.heap us ds as ∧ sysModules ∉ as
  | [], _, _, h, r => by
    cases h
    cases r
    exact ⟨_, ReadsAll.nil, by simp⟩
  | d :: ds, _, _, h, r => by
    cases h with
    | cons h1 h2 =>
      cases r with
      | cons r1 r2 =>
        obtain ⟨as, q1, n1⟩ := Dx.reads I S d _ _ h1 r1
        obtain ⟨bs, q2, n2⟩ := Dx.readsAll I S ds _ _ h2 r2
        exact ⟨_, ReadsAll.cons q1 q2, fun z => (List.mem_append.mp z).elim n1 n2⟩
theorem Dx.readsKv (I : Inv X pins σ H s) (S : Sm X.K) : ∀ (es : List (PyData × PyData)) (vs : List V) (us : List Value), DxAll X.K H vs (es.map (·.2)) → Vals vs us → ∃ as, ReadsAll s.heap us (es.map (·.2)) as ∧ sysModules ∉ as
  | [], _, _, h, r => by
    cases h
    cases r
    exact ⟨_, ReadsAll.nil, by simp⟩
  | (k, d) :: es, _, _, h, r => by
    cases h with
    | cons h1 h2 =>
      cases r with
      | cons r1 r2 =>
        obtain ⟨as, q1, n1⟩ := Dx.reads I S d _ _ h1 r1
        obtain ⟨bs, q2, n2⟩ := Dx.readsKv I S es _ _ h2 r2
        exact ⟨_, ReadsAll.cons q1 q2, fun z => (List.mem_append.mp z).elim n1 n2⟩
end
end
theorem seqT_same {K : PySem.W.Frag} {H H' : Hp} {a : Addr} {xs : List V} (e : Same H H') (h : SqT K H a xs) : SqT K H' a xs := by
  rcases h with (h | ⟨o, h⟩) | h
  · exact .inl (.inl (e _ _ h))
  · exact .inl (.inr ⟨o, e _ _ h⟩)
  · exact .inr h
theorem rd_same {H H' : Hp} {a : Addr} {u : HO} (e : Same H H') (h : Rd H a u) : Rd H' a u := by
  rcases h with h | ⟨o, h⟩
  · exact .inl (e _ _ h)
  · exact .inr ⟨o, e _ _ h⟩
mutual
theorem Dx.same {K : PySem.W.Frag} {H H' : Hp} (e : Same H H') : ∀ {d : PyData} {v : V}, Dx K H v d → Dx K H' v d
  | _, _, .non => .non
  | _, _, .bl b => .bl b
  | _, _, .int i => .int i
  | _, _, .str x => .str x
  | _, _, .lst h1 h2 => .lst (e.seq h1) (DxAll.same e h2)
  | _, _, .tup h1 h2 => .tup (seqT_same e h1) (DxAll.same e h2)
  | _, _, .dK h1 h2 e1 e2 e3 => .dK (rd_same e h1) (DxAll.same e h2) e1 e2 e3
  | _, _, .dT h1 h2 e2 e3 => .dT (e _ _ h1) (DxAll.same e h2) e2 e3
theorem DxAll.same {K : PySem.W.Frag} {H H' : Hp} (e : Same H H') : ∀ {ds : List PyData} {vs : List V}, DxAll K H vs ds → DxAll K H' vs ds
  | _, _, .nil => .nil
  | _, _, .cons h1 h2 => .cons (Dx.same e h1) (DxAll.same e h2)
end
theorem DxAll.rep {K : PySem.W.Frag} {H : Hp} {v : V} {d : PyData} (h : Dx K H v d) : ∀ n : Nat, DxAll K H (List.replicate n v) (List.replicate n d)
  | 0 => .nil
  | n + 1 => .cons h (DxAll.rep h n)
section
variable {X : Cx}
end
section
variable {X : Cx}
def rNilE (K : PySem.W.Frag) : R2 := fun x y H Q => ∃ a b xs, x = .ref a ∧ y = .ref b ∧ SqL K H a xs ∧ SqL K H b [] ∧ Q (.bl xs.isEmpty) H
def rNilN (K : PySem.W.Frag) : R2 := fun x y H Q => ∃ a b xs, x = .ref a ∧ y = .ref b ∧ SqL K H a xs ∧ SqL K H b [] ∧ Q (.bl (!xs.isEmpty)) H
theorem op_eqNil (hu : X.A.units + 64 < cLine) : OpR X (compareOp .Eq) (rNilE X.K) := by
  intro pins s σ H x y v u Q I rx ry h
  obtain ⟨a, b, xs, rfl, rfl, ha, hb, q⟩ := h
  obtain rfl : v = Value.ref a := rx
  obtain rfl : u = Value.ref b := ry
  obtain ⟨is, r1, ⟨o1, n1, g1, c1, _, d1⟩, _⟩ := I.list ha
  obtain ⟨js, r2, ⟨o2, n2, g2, c2, _, d2⟩, _⟩ := I.list hb
  cases r2
  cases r1 with
  | nil => exact SeqAt.eq_listAt (e := fun _ => true) ⟨o1, g1, c1, n1, d1⟩ ⟨o2, g2, c2, n2, d2⟩ rfl (by omega) (fun j h1 _ => absurd h1 (by simp)) ⟨.bl true, H, I, rfl, q⟩
  | cons r t => exact SeqAt.eq_list_lengthsAt ⟨o1, g1, c1, n1, d1⟩ ⟨o2, g2, c2, n2, d2⟩ (by simp) (by omega) ⟨.bl false, H, I, rfl, q⟩
theorem op_neNil (hu : X.A.units + 64 < cLine) : OpR X (compareOp .NotEq) (rNilN X.K) := by
  intro pins s σ H x y v u Q I rx ry h
  obtain ⟨a, b, xs, rfl, rfl, ha, hb, q⟩ := h
  obtain rfl : v = Value.ref a := rx
  obtain rfl : u = Value.ref b := ry
  obtain ⟨is, r1, ⟨o1, n1, g1, c1, _, d1⟩, _⟩ := I.list ha
  obtain ⟨js, r2, ⟨o2, n2, g2, c2, _, d2⟩, _⟩ := I.list hb
  cases r2
  cases r1 with
  | nil => exact SeqAt.RcNeAt.lists (e := fun _ => true) ⟨o1, g1, c1, n1, d1⟩ ⟨o2, g2, c2, n2, d2⟩ rfl (by omega) (fun j h1 _ => absurd h1 (by simp)) X.prog X.w _ _ ⟨.bl false, H, I, rfl, q⟩
  | cons r t => exact SeqAt.RcNeAt.lists_lengths ⟨o1, g1, c1, n1, d1⟩ ⟨o2, g2, c2, n2, d2⟩ (by simp) (by omega) X.prog X.w _ _ ⟨.bl true, H, I, rfl, q⟩
end
structure FnG (P : Program) (w : World) (K : PySem.W.Frag) (mg : Str → Option Value) (base : Heap) (CX : CXT) (k : Nat) (f : Addr) (fd : FuncData) (ps : List Str) (sp : Sp) : Prop where
  len : ∀ vs H Q E, sp vs H Q E → vs.length = ps.length
  run : ∀ (A : Around) (outer : List Env) (s : Shared) (H : Hp) (args : Args) (us : List Value) (vs : List V) (Q : VK) (E : XK), A.guards = some [] → Room k A → Env0 P w K mg base A outer s H → BindsTo s fd args (ps.zip us) → Vals vs us → sp vs H Q E →
    codeAny (model P w) A (.call (.ref f) args) (CR CX outer P w H s Q E) s
section
variable {P : Program} {w : World} {K : PySem.W.Frag} {mg : Str → Option Value} {base : Heap} {CX : CXT} {k : Nat} {f : Addr} {fd : FuncData} {ps : List Str} {sp : Sp}
theorem FnG.of (F : FnOk P w K mg base CX k f fd ps sp) : FnG P w K mg base CX k f fd ps sp := ⟨F.len, fun A outer s H args us vs Q E _ hr he hb hv hs => F.run A outer s H args us vs Q E hr he hb hv hs⟩
theorem FnG.mono {j : Nat} (F : FnG P w K mg base CX j f fd ps sp) (h : j ≤ k) : FnG P w K mg base CX k f fd ps sp := ⟨F.len, fun A outer s H args us vs Q E hg hr => F.run A outer s H args us vs Q E hg (hr.mono h)⟩
theorem deep_guards {A : Around} {env : Env} (h : A.guards = some []) : (A.deeper env).guards = some [] := h
theorem okG {x qual : Str} {params : Arguments} {body : List Stmt} {scope : Scope} {dvs : List V} {kws : List (Str × V)} {N : List Str} (F : FunD K x qual params body scope dvs kws f fd) (S : FnScope N ps scope) (len : ∀ vs H Q E, sp vs H Q E → vs.length = ps.length)
    (hbody : ∀ (cdv : Value) (A : Around) (outer : List Env) (s : Shared) (H : Hp) (vs : List V) (Q : VK) (E : XK), (A.deeper (envOfC qual scope s.heap.objs.size f cdv)).guards = some [] → Room k (A.deeper (envOfC qual scope s.heap.objs.size f cdv)) → sp vs H Q E →
      ∃ t, PSs (cxOf CX P w K mg base N qual scope f cdv A outer s H E) body t ∧ t { nx := fun _ H' => Q .non H', rt := Q } (start N vs) H) : FnG P w K mg base CX (k + 1) f fd ps sp := by
  obtain ⟨oc, od, dV, kV, doc, pm, an, cdv, ct, osl, rfl, lk, hcd, _, _⟩ := F.ex
  refine ⟨len, fun A outer s H args us vs Q E hg hr e0 hb rel hsp => ?_⟩
  have kx : K.In s.heap := e0.mod.kin.keeps fun b o e => (e0.bs b o e).1
  have nl : s.heap.NoLimit := e0.mod.nolimit.keeps fun b o e => (e0.bs b o e).1
  have kinds : ∀ y ∈ ps.zip us, scope.names.lookup y.1 = some .local ∨ (scope.names.lookup y.1 = some .cell ∧ ((cellsFrom (s.heap.objs.size + 1) scope.names []).lookup y.1).isSome = true) := fun y hy => by
    rcases S.par y.1 (List.of_mem_zip (a := y.1) (b := y.2) hy).1 with q | q
    · exact .inl q
    · exact .inr ⟨q, PySem.W.cellsFrom_some _ _ _ (.inl q)⟩
  refine codeAny_call_function hr.depth (kx _ _ lk) rfl S.co S.gen rfl (PySem.W.codeRec_of kx hcd) (hb _ _ _ _ ?_)
  refine wpAny_newFunctionEnv_cells S.kind kinds fun env he s1 inc => ?_
  subst he
  refine ⟨nl.keeps inc.toInCall.keep, codeAny_func ?_⟩
  obtain ⟨t, ht, hq⟩ := hbody cdv A outer s H vs Q E (deep_guards hg) (hr.deeper _) hsp
  have J : Inv (cxOf CX P w K mg base N qual scope f cdv A outer s H E) [] (start N vs) H s1 := inv_start S hr.hd e0 (len _ _ _ _ hsp) rel inc
  refine wpAny_mono (ht.run [] s1 (start N vs) H _ J hq) (fun fl s' hs => ?_) fun e s' hs => hs
  cases fl with
  | ret u =>
    obtain ⟨v, σ', H', J2, rv, q⟩ := hs
    exact ⟨v, H', J2.os, J2.bare, J2.base, J2.hok, rv, q⟩
  | next =>
    obtain ⟨σ', H', J2, q⟩ := hs
    exact ⟨V.non, H', J2.os, J2.bare, J2.base, J2.hok, rfl, q⟩
  | brk =>
    obtain ⟨_, _, _, q⟩ := hs
    exact False.elim q
  | cont =>
    obtain ⟨_, _, _, q⟩ := hs
    exact False.elim q
end
section
variable {X : Cx} {CX : CXT} {k : Nat} {f : Addr} {fd : FuncData} {ps : List Str} {sp : Sp} {dvs : List V} {ds : List Value} {E : XK} {x : Str} {p pos : Pos} {e : Expr} {es : List Expr} {t : TA}
end
section
variable {P : Program} {w : World} {K : PySem.W.Frag} {mg mb : Str → Option Value} {CX : CXT} {k : Nat} {fa a : Addr} {fd : FuncData} {x : Str} {sp : Sp} {s₁ : Shared} {vs : List Value} {ns : List Int}
end
def smB (K : PySem.W.Frag) : Bool := match K.lookup sysModules with
  | some ⟨.type c, _, _, _⟩ => c == "dict"
  | _ => false
theorem smB_ok {K : PySem.W.Frag} (h : smB K = true) : Sm K := by
  unfold smB at h
  split at h
  · rename_i c d dt sl e
    exact ⟨_, e, by rw [eq_of_beq h]⟩
  · cases h
end WkG
namespace WkN
open PySem PySem.Spec PyProof.Rows L2 WkD
section
variable {K : PySem.W.Frag}
def SqX (b : Bool) (K : PySem.W.Frag) (H : Hp) (a : Addr) (xs : List V) : Prop := match b with
  | true => SqL K H a xs
  | false => SqT K H a xs
theorem SqX.same {b : Bool} {H H' : Hp} {a : Addr} {xs : List V} (h : SqX b K H a xs) (e : Same H H') : SqX b K H' a xs := by
  cases b with
  | true => exact e.seq h
  | false => exact WkG.seqT_same e h
theorem orSeq {b : Bool} {H : Hp} {σ : L2.St} {a : Addr} {i : Nat} {xs : List V} {R : It → Hp → Prop} (h : SqX b K H a xs) (hv : σ[i]? = some (some (.ref a))) (k : ∀ J, Walk J xs.length (fun H => SqX b K H a xs) (YAt xs) → R J H) :
    iList K (tVar i) σ H R ∨ iTup K (tVar i) σ H R := by
  cases b with
  | true => exact .inl ⟨_, hv, a, rfl, ⟨_, h⟩, k _ walk_list⟩
  | false => exact .inr ⟨_, hv, a, rfl, ⟨_, h⟩, k _ walk_tup⟩
theorem tyT {H : Hp} {a : Addr} {xs : List V} (h : SqT K H a xs) : TyX K H (.ref a) (.type "tuple") := by
  rcases h with (h | ⟨o, h⟩) | ⟨o, its, n, hk, hc, _⟩
  · exact .base (.tup h)
  · exact .fTuple h
  · exact .kTuple hk hc
theorem take_nin {α : Type} {l : List α} (nd : l.Nodup) {i : Nat} (hi : i < l.length) : l[i] ∉ l.take i := fun z => by
  obtain ⟨j, hj, e⟩ := List.mem_iff_getElem.mp z
  rw [List.length_take] at hj
  rw [List.getElem_take] at e
  have := (List.getElem_inj nd).mp e
  omega
theorem decI {u v : Int} : decide (V.int u = V.int v) = decide (u = v) := by
  by_cases h : u = v
  · rw [decide_eq_true h, decide_eq_true (by rw [h])]
  · rw [decide_eq_false h, decide_eq_false (fun z => h (V.int.inj z))]
theorem np_of {H H' : Hp} {p : Addr} (e : Same H H') (h : H' p = none) : H p = none := by
  cases z : H p with
  | none => rfl
  | some o =>
    rw [e _ _ z] at h
    cases h
def NoSq : HO → Prop
  | .lst _ => False
  | .tup _ => False
  | .frz _ _ => False
  | _ => True
theorem tup_upd {H : Hp} {a r : Addr} {xs : List V} {o o' : HO} (h : SqT K H r xs) (ha : H a = some o) (no : NoSq o) : SqT K (upd H a o') r xs := by
  rcases h with (h | ⟨u, h⟩) | h
  · refine .inl (.inl ?_)
    rw [upd_ne (ne_of h ha (by intro z; rw [← z] at no; exact no))]
    exact h
  · refine .inl (.inr ⟨u, ?_⟩)
    rw [upd_ne (ne_of h ha (by intro z; rw [← z] at no; exact no))]
    exact h
  · exact .inr h
def NoTab : HO → Prop
  | .tbl _ => False
  | .ext _ => False
  | _ => True
theorem tabs_but {T : List (Addr × Str)} {H H' : Hp} {x : Addr} {o : HO} (t : LamX.Tabs T H) (hx : H x = some o) (no : NoTab o) (e : ∀ b o, H b = some o → b ≠ x → H' b = some o) : LamX.Tabs T H' := fun p hp => by
  obtain ⟨ps, h1, h2, h3⟩ := t p hp
  refine ⟨ps, e _ _ h1 (ne_of h1 hx (by intro z; rw [← z] at no; exact no)), h2, fun pos cv hc => ?_⟩
  obtain ⟨c, e1, e2⟩ := h3 pos cv hc
  exact ⟨c, e1, e _ _ e2 (ne_of e2 hx (by intro z; rw [← z] at no; exact no))⟩
theorem tabs_upd {T : List (Addr × Str)} {H : Hp} {x : Addr} {o o' : HO} (t : LamX.Tabs T H) (hx : H x = some o) (no : NoTab o) : LamX.Tabs T (upd H x o') := tabs_but t hx no fun b o hb hne => by
  rw [upd_ne hne]
  exact hb
end
end WkN
namespace WkD
open PySem PySem.Spec PyProof.Rows L2 PySem.W
section
variable {X : Cx}
end
theorem each_vals {β : Type} {R : V → β → Prop} : ∀ {us : List Value} {bs : List β}, EachIs (fun v b => ∃ x, RelV x v ∧ R x b) us bs → ∃ ys, Vals ys us ∧ EachIs R ys bs
  | _, _, .nil => ⟨[], .nil, .nil⟩
  | _, _, .cons ⟨x, h1, h2⟩ t => by
    obtain ⟨ys, r1, r2⟩ := each_vals t
    exact ⟨x :: ys, .cons h1 r1, .cons h2 r2⟩
theorem vals_each {β : Type} {R : V → β → Prop} : ∀ {xs : List V} {us : List Value} {bs : List β}, Vals xs us → EachIs R xs bs → EachIs (fun v b => ∃ x, RelV x v ∧ R x b) us bs
  | _, _, _, .nil, .nil => .nil
  | _, _, _, .cons r1 r2, .cons h1 h2 => .cons ⟨_, r1, h1⟩ (vals_each r2 h2)
def rSortG (K : PySem.W.Frag) : List V → Hp → VK → Prop := fun vs H Q => ∃ (β : Type) (a : Addr) (xs : List V) (bs : List β) (enc : β → PyData) (R : V → β → Prop), vs = [.ref a] ∧ SqL K H a xs ∧ EachIs R xs bs ∧ (∀ x b, R x b → WkG.Dx K H x (enc b)) ∧ AllAlike (bs.map enc) ∧ Sortable (bs.map enc) ∧ (∀ b ∈ bs, (enc b).depth ≤ 40) ∧
  ∀ ys p, EachIs R ys (bs.mergeSort (dataLe false enc)) → H p = none → Q (.ref p) (upd H p (.lst ys))
section
variable {X : Cx}
theorem cr_sortedG (S : WkG.Sm X.K) (hu : X.A.units + 64 < cLine) : CallR X (.builtin "sorted") (rSortG X.K) := by
  intro pins s σ H vs us Q I r h
  obtain ⟨β, a, xs, bs, enc, R, rfl, hs, he, hd, hal, hso, hdp, q⟩ := h
  obtain rfl := Vals.ref1 r
  obtain ⟨its, rv, pl, hz⟩ := I.list hs
  have e1 := vals_each rv he
  have lb : bs.length = its.length := by rw [← e1.length]
  have lx : xs.length = its.length := rv.length
  have e2 : EachIs (fun v b => ∃ as, Reads s.heap v (enc b) as) its bs := e1.mono fun v b ⟨x, h1, h2⟩ => by
    obtain ⟨as, h3, _⟩ := WkG.Dx.reads I S _ _ _ (hd x b h2) h1
    exact ⟨as, h3⟩
  refine sorted_data (enc := enc) (R := fun v b => ∃ x, RelV x v ∧ R x b) pl.isList e1 e2 hal hso (by omega) (fun b hb => by have := hdp b hb; omega) fun out ho eo => ?_
  · obtain ⟨ys, r1, r2⟩ := each_vals eo
    obtain ⟨c, hc⟩ := sortedAll_at s.heap its out.toArray
    refine ⟨.ref (s.heap.objs.size + 1), upd H (s.heap.objs.size + 1) (.lst ys), I.laid (t' := s.toks) (fun b o e => sortedAll_old e) (Nat.le_succ _)
      (show ObjOk X.prog X.w _ _ _ (.lst ys) from ⟨by rw [r1.length]; omega, out, c, r1, hc⟩), rfl, q ys _ r2 (I.hok.fresh (Nat.le_succ _))⟩
end
abbrev Pr := Str × Str
def ltP (a b : Pr) : Prop := ltS a.1 b.1 ∨ (a.1 = b.1 ∧ ltS a.2 b.2)
instance (a b : Pr) : Decidable (ltP a b) := inferInstanceAs (Decidable (_ ∨ _))
theorem dataLt_str (x y : Str) : dataLt (.str x) (.str y) = decide (ltS x y) := by
  have e := congrFun (congrFun (dataLe_str (fun b : Str => b)) y) x
  rw [dataLe_eq] at e
  have e : (!dataLt (.str x) (.str y)) = decide (y.cps.toList ≤ x.cps.toList) := e
  by_cases h : ltS x y
  · rw [decide_eq_true h]
    have n : ¬ y.cps.toList ≤ x.cps.toList := fun z => z h
    rw [decide_eq_false n] at e
    simpa using e
  · rw [decide_eq_false h]
    have n : y.cps.toList ≤ x.cps.toList := h
    rw [decide_eq_true n] at e
    simpa using e
theorem asc_uniq {α : Type} {R : α → α → Prop} (irr : ∀ a, ¬ R a a) (tr : ∀ a b c, R a b → R b c → R a c) : ∀ {l m : List α}, l.Pairwise R → m.Pairwise R → (∀ x, x ∈ l ↔ x ∈ m) → l = m
  | [], [], _, _, _ => rfl
  | [], b :: m, _, _, h => absurd ((h b).mpr List.mem_cons_self) (by simp)
  | a :: l, [], _, _, h => absurd ((h a).mp List.mem_cons_self) (by simp)
  | a :: l, b :: m, h1, h2, h => by
    rw [List.pairwise_cons] at h1 h2
    have e : a = b := by
      rcases List.mem_cons.mp ((h a).mp List.mem_cons_self) with e | e
      · exact e
      · rcases List.mem_cons.mp ((h b).mpr List.mem_cons_self) with e' | e'
        · exact e'.symm
        · exact absurd (tr _ _ _ (h1.1 b e') (h2.1 a e)) (irr a)
    subst e
    congr 1
    refine asc_uniq irr tr h1.2 h2.2 fun x => ⟨fun hx => ?_, fun hx => ?_⟩
    · rcases List.mem_cons.mp ((h x).mp (List.mem_cons_of_mem _ hx)) with e | e
      · subst e
        exact absurd (h1.1 x hx) (irr x)
      · exact e
    · rcases List.mem_cons.mp ((h x).mpr (List.mem_cons_of_mem _ hx)) with e | e
      · subst e
        exact absurd (h2.1 x hx) (irr x)
      · exact e
section
variable {X : Cx}
end
end WkD
namespace WkN
open PySem PySem.Spec PyProof.Rows L2 WkD
def cutL {α : Type} (xs : List α) (lo hi : Option Int) : List α := (xs.drop (HT.sIx xs.length 0 lo)).take (HT.sIx xs.length xs.length hi - HT.sIx xs.length 0 lo)
theorem str_ext {x y : Str} (h : x.cps.toList = y.cps.toList) : x = y := by
  obtain ⟨⟨a⟩⟩ := x
  obtain ⟨⟨b⟩⟩ := y
  congr 2
end WkN
namespace WkN
open PySem
def letS : Str := "abcdefghijklmnopqrstuvwxyz"
def nameB (z : Str) : Bool := decide ((0 : Int) < z.length) && (decide ((z.length : Int) < 9) && (z.cps.toList.map fun c => decide (c ∈ letS.cps.toList)).all id)
end WkN
namespace WkE
open PySem PySem.Spec PyProof.Rows L2 WkD WkN
abbrev EdD := List (Pr × Int)
def kP (e : Pr) : List Key := [.inr e.1, .inr e.2]
theorem kP_inj {a b : Pr} (h : kP a = kP b) : a = b := by
  unfold kP at h
  simp only [List.cons.injEq, Sum.inr.injEq, and_true] at h
  exact Prod.ext h.1 h.2
def dtE (es : EdD) : List (List Key × V) := es.map fun e => (kP e.1, .int e.2)
def putE (es : EdD) (p : Pr) (n : Int) : EdD := if es.any (fun e => decide (e.1 = p)) then es.map (fun e => if e.1 = p then (e.1, n) else e) else es ++ [(p, n)]
theorem dtE_len {es : EdD} : (dtE es).length = es.length := List.length_map ..
theorem dtE_any {es : EdD} {p : Pr} : ((dtE es).any fun kv => decide (kv.1 = kP p)) = es.any fun e => decide (e.1 = p) := by
  unfold dtE
  rw [List.any_map]
  congr 1
  funext e
  show decide (kP e.1 = kP p) = decide (e.1 = p)
  by_cases h : e.1 = p
  · rw [decide_eq_true h, decide_eq_true (by rw [h])]
  · rw [decide_eq_false h, decide_eq_false fun z => h (kP_inj z)]
theorem dtE_put {es : EdD} {p : Pr} {n : Int} : putK (dtE es) (kP p) (.int n) = dtE (putE es p n) := by
  unfold putK putE
  rw [dtE_any]
  split
  · unfold dtE
    rw [List.map_map, List.map_map]
    refine List.map_congr_left fun e _ => ?_
    show (if kP e.1 = kP p then (kP e.1, V.int n) else (kP e.1, .int e.2)) = (kP (if e.1 = p then (e.1, n) else e).1, .int (if e.1 = p then (e.1, n) else e).2)
    by_cases h : e.1 = p
    · rw [if_pos (by rw [h]), if_pos h]
    · rw [if_neg fun z => h (kP_inj z), if_neg h]
  · unfold dtE
    rw [List.map_append]
    rfl
theorem putE_keys {es : EdD} {p : Pr} {n : Int} : (putE es p n).map (·.1) = if p ∈ es.map (·.1) then es.map (·.1) else es.map (·.1) ++ [p] := by
  unfold putE
  by_cases h : p ∈ es.map (·.1)
  · obtain ⟨e, he, hp⟩ := List.mem_map.mp h
    rw [if_pos (List.any_eq_true.mpr ⟨e, he, decide_eq_true hp⟩), if_pos h, List.map_map]
    refine List.map_congr_left fun e _ => ?_
    show (if e.1 = p then (e.1, n) else e).1 = e.1
    split <;> rfl
  · have q : ¬ (es.any fun e => decide (e.1 = p)) = true := fun z => by
      obtain ⟨e, he, hp⟩ := List.any_eq_true.mp z
      exact h (List.mem_map.mpr ⟨e, he, of_decide_eq_true hp⟩)
    rw [if_neg q, if_neg h, List.map_append]
    rfl
def mp (a b : Str) : Pr := (if ltS b a then b else a, if ltS a b then b else a)
theorem mp_cases {a b : Str} (h : a ≠ b) : (ltS a b ∧ mp a b = (a, b)) ∨ (ltS b a ∧ mp a b = (b, a)) := by
  unfold mp
  rcases ltS_tri a b with k | k | k
  · exact .inl ⟨k, by rw [if_neg (ltS_asymm k), if_pos k]⟩
  · exact absurd k h
  · exact .inr ⟨k, by rw [if_pos k, if_neg (ltS_asymm k)]⟩
inductive ERch (es : EdD) (s : Str) : Str → Prop
  | here : ERch es s s
  | go {u v : Str} : ERch es s u → ((u, v) ∈ es.map (·.1) ∨ (v, u) ∈ es.map (·.1)) → ERch es s v
theorem ERch.mono {es es' : EdD} {s u : Str} (h : ERch es s u) (k : ∀ p ∈ es.map (·.1), p ∈ es'.map (·.1)) : ERch es' s u := by
  induction h with
  | here => exact .here
  | go _ e ih => exact .go ih (e.imp (k _) (k _))
theorem ERch.trans {es : EdD} {s u v : Str} (h : ERch es s u) (k : ERch es u v) : ERch es s v := by
  induction k with
  | here => exact h
  | go _ e ih => exact .go ih e
theorem ERch.symm {es : EdD} {s u : Str} (h : ERch es s u) : ERch es u s := by
  induction h with
  | here => exact .here
  | go _ e ih => exact (ERch.go .here e.symm).trans ih
theorem putE_has {es : EdD} {p : Pr} {n : Int} : p ∈ (putE es p n).map (·.1) := by
  rw [putE_keys]
  split
  · assumption
  · simp
theorem ERch.mp {es : EdD} {a b : Str} {n : Int} (h : a ≠ b) : ERch (putE es (mp a b) n) b a := by
  have z := putE_has (es := es) (p := WkE.mp a b) (n := n)
  refine .go .here ?_
  rcases mp_cases h with ⟨k, e⟩ | ⟨k, e⟩
  · rw [e] at z ⊢
    exact .inr z
  · rw [e] at z ⊢
    exact .inl z
open WkP
section
variable {K : PySem.W.Frag}
def EdsAt (K : PySem.W.Frag) (H : Hp) (rs : List Addr) (es : List Ed) : Prop := rs.length = es.length ∧ ∀ (i : Nat) (r : Addr) (e : Ed), rs[i]? = some r → es[i]? = some e → SqT K H r [.str e.1, .str e.2.1, .int e.2.2]
theorem EdsAt.same {H H' : Hp} {rs : List Addr} {es : List Ed} (h : EdsAt K H rs es) (e : Same H H') : EdsAt K H' rs es := ⟨h.1, fun i r d h1 h2 => WkG.seqT_same e (h.2 i r d h1 h2)⟩
theorem EdsAt.snoc {H H' : Hp} {rs : List Addr} {es : List Ed} {p : Addr} {e : Ed} (h : EdsAt K H rs es) (s : Same H H') (hp : H' p = some (.tup [.str e.1, .str e.2.1, .int e.2.2])) : EdsAt K H' (rs ++ [p]) (es ++ [e]) := by
  refine ⟨by rw [List.length_append, List.length_append, h.1]; rfl, fun i r d h1 h2 => ?_⟩
  rcases Nat.lt_trichotomy i rs.length with hi | hi | hi
  · rw [List.getElem?_append_left hi] at h1
    rw [List.getElem?_append_left (by rw [← h.1]; exact hi)] at h2
    exact WkG.seqT_same s (h.2 i r d h1 h2)
  · subst hi
    rw [List.getElem?_append_right (Nat.le_refl _), Nat.sub_self] at h1
    rw [h.1, List.getElem?_append_right (Nat.le_refl _), Nat.sub_self] at h2
    cases h1
    cases h2
    exact .inl (.inl hp)
  · rw [List.getElem?_eq_none (by rw [List.length_append, List.length_singleton]; omega)] at h1
    cases h1
end
end WkE
namespace WkC
open PySem PySem.Spec PyProof.Rows L2 WkD WkN
section
variable (P : Program) (w : World) (K : PySem.W.Frag) (mg : Str → Option Value) (base : Heap)
def PropC (CX : CXT) (C : Addr) (f : Str) (k : Nat) (sp : Sp) : Prop := ∃ p g fd ps, PropOf K C f p g ∧ FnOk P w K mg base CX k g fd ps sp ∧ Binds K fd ps []
def MethC (CX : CXT) (C : Addr) (m : Str) (k : Nat) (sp : Sp) : Prop := ∃ f fd ps, Meth K C m f ∧ FnOk P w K mg base CX k f fd ps sp ∧ Binds K fd ps []
def MakeC (CX : CXT) (C : Addr) (x : Str) (k : Nat) (sp : Sp) : Prop := ∃ f fd ps, Mk K C f ∧ FnOk P w K mg base CX k f fd ps sp ∧ mg x = some (.ref C) ∧ Binds K fd ps []
end
section
variable {X : Cx} {CX : CXT} {C : Addr} {f x m : Str} {k : Nat} {sp : Sp} {E : XK} {e : Expr} {es : List Expr} {ta : TE} {t : TA} {p pos apos : Pos}
theorem pe_pr (h : PropC X.prog X.w X.K X.mg X.base CX C f k sp) (c : Cls X.K C) (hr : Room (k + 1) X.A) (hx : Passes CX X.nox E) (he : PE X e ta) (hab : attributeBase e f X.env (eval e X.env) = eval e X.env := by rfl) : PE X (.Attribute e f pos) (tProp C sp [] E ta) := by
  obtain ⟨p, g, fd, ps, h1, h2, h3⟩ := h
  exact pe_prop he c h1 h2 hr h3 .nil hx hab
theorem pe_mk (h : MakeC X.prog X.w X.K X.mg X.base CX C x k sp) (hr : Room (k + 1) X.A) (hx : Passes CX X E) (ha : PA X (e :: es) t) (hg : Gl X x := by rfl) (hdb : (x == ("__debug__" : Str)) = false := by decide)
    (hst : starEach (e :: es) X.env = (false, eval e X.env) :: starEach es X.env := by rfl) (hpl : (backTo pos (starEach es X.env)).any (·.1) = false := by rfl) : PE X (.Call (.Name x p) (e :: es) [] pos) (tMake C sp [] E t) := by
  obtain ⟨f, fd, ps, h1, h2, h3, h4⟩ := h
  exact pe_make h1 h2 hr hg h3 h4 .nil hx ha hdb hst hpl
theorem pe_mt {o : Expr} {pl : Sem Bool} (h : MethC X.prog X.w X.K X.mg X.base CX C m k sp) (c : Cls X.K C) (hr : Room k X.A) (hx : Passes CX X E) (ho : PE X o ta) (ha : PA X (e :: es) t)
    (hst : starEach (e :: es) X.env = (false, eval e X.env) :: starEach es X.env := by rfl) (hpl : (backTo pos (starEach es X.env)).any (·.1) = false := by rfl)
    (ht : eval (.Call (.Attribute o m apos) (e :: es) [] pos) X.env = (do let ov ← eval o X.env; standAt apos.atName; let (f, first) ← holding [ov] (getMethod ov m pl); callWith pos f first (backTo pos (starEach (e :: es) X.env)) (backToKw pos (keywordEach [] X.env))) := by rfl) :
    PE X (.Call (.Attribute o m apos) (e :: es) [] pos) (tMeth C m sp [] E ta t) := by
  obtain ⟨f, fd, ps, h1, h2, h3⟩ := h
  exact pe_meth ho c h1 h2 hr h3 .nil hx ha hst hpl ht
end
end WkC
namespace WkG
open PySem PySem.Spec PyProof.Rows L2 WkN
end WkG
namespace WkH
open PySem PySem.Spec PyProof.Rows L2 LamX
theorem law_GT {P : Program} {w : World} {K : PySem.W.Frag} {mg mb : Str → Option Value} {CX : CXT} {k : Nat} {fa a : Addr} {tt : List (Addr × Addr)} {fd : FuncData} {x : Str} {sp : Sp} {s₁ : Shared} {vsc : List Value} {nsc : List Int}
    (KX : K.In s₁.heap) (hnm : s₁.heap.Ns mainGlobals mg) (hy : s₁.heap.Ns builtinsNs mb) (hbu : ∀ x : Str, x ≠ "__name__" → mb x = bootBuiltins x) (hli : s₁.heap.NoLimit) (hge : s₁.gens = #[])
    (hTb : ∀ pt ∈ tt, s₁.heap.get? pt.2 = some { cls := .none, data := .fields #[] }) (nTb : ∀ pt ∈ tt, K.lookup pt.2 = none) (Cd : ∀ pt ∈ tt, PySem.W.CodeHd s₁.heap pt.1 pt.2)
    (hbmm : ∃ (bmo : Addr) (obb : Obj), mg "__builtins__" = some (.ref bmo) ∧ bmo ≠ builtinsNs ∧ s₁.heap.get? bmo = some obb ∧ obb.cls = .type "module" ∧ obb.dict = some builtinsNs ∧ obb.data = .plain)
    (hsc : s₁.heap.get? a = some { cls := .type "list", data := .seq vsc.toArray }) (hin : IntsAre vsc nsc) (hln : nsc.length ≤ sizeLine) (hro : Room k callerA)
    (F : ∀ base : Heap, K.In base → base.Ns mainGlobals mg → (∀ pt ∈ tt, TabB base mg pt.1 pt.2) → WkG.FnG P w K mg base CX k fa fd [x] sp) (hbnd : ∀ (s : Shared) (uu : Value), BindsTo s fd ⟨[uu], []⟩ [(x, uu)])
    (hspc : ∀ H : Hp, (∀ pt ∈ tt, H pt.2 = some (.tbl #[])) → SqL K H a (nsc.map V.int) → sp [.ref a] H (fun v _ => v = .bl true) fun _ _ _ => False)
    (hcx : ∀ H e t1, CX [] H s₁ (fun _ _ _ => False) e t1 → False) :
    codeAny (model P w) callerA (.call (.ref fa) ⟨[.ref a], []⟩) (fun r t1 => r = .ok (.ret (.bool true)) ∧ OldK s₁.heap t1.heap ∧ t1.os = s₁.os ∧ AllBare t1.gens) s₁ := by
  have rva := vals_ints hin
  have lv := hin.length
  have isTb : ∀ y : Addr, y ∈ tt.map (·.2) → s₁.heap.get? y = some { cls := .none, data := .fields #[] } := fun y hy => by
    obtain ⟨pt, hpt, e⟩ := List.mem_map.mp hy
    rw [← e]
    exact hTb pt hpt
  have noTb : a ∉ tt.map (·.2) := fun z => by
    have q := isTb a z
    rw [hsc] at q
    have zz : Data.seq vsc.toArray _ = Data.fields #[] := congrArg Obj.data (Option.some.inj q)
    cases zz
  have memTb : ∀ pt ∈ tt, pt.2 ∈ tt.map (·.2) := fun pt hpt => List.mem_map.mpr ⟨pt, hpt, rfl⟩
  have core0 : ∀ H : Hp, (∀ pt ∈ tt, H pt.2 = some (.tbl #[])) → (∀ y, H y = none ∨ y ∈ tt.map (·.2) ∨ ∃ ob0 xss, H y = some (.frz ob0 (.lst xss))) → SqL K H a (nsc.map V.int) → HOk P w H s₁.heap → (∀ y, H y ≠ none → y = a ∨ y ∈ tt.map (·.2)) → (H a ≠ none → K.lookup a = none) →
      codeAny (model P w) callerA (.call (.ref fa) ⟨[.ref a], []⟩) (fun r t1 => r = .ok (.ret (.bool true)) ∧ OldK s₁.heap t1.heap ∧ t1.os = s₁.os ∧ AllBare t1.gens) s₁ := by
    intro H eT onl sq okh dom outK
    have bo : ∀ {y : Addr} {ob0 : Obj}, s₁.heap.get? y = some ob0 → H y = none → (hidT s₁.heap H).get? y = some ob0 := fun e n => hidT_get e n
    have nod : ∀ {y : Addr} {ob0 : Obj}, s₁.heap.get? y = some ob0 → (∀ vsc n, ob0.data ≠ .seq vsc n) → ob0.data ≠ .fields #[] → H y = none := fun {y ob0} e h1 h2 => by
      cases q : H y with
      | none => rfl
      | some uu =>
        rcases dom y (by rw [q]; simp) with e1' | e1'
        · rw [e1', hsc] at e
          cases e
          exact (h1 _ _ rfl).elim
        · rw [isTb y e1'] at e
          cases e
          exact (h2 rfl).elim
    have noa : ∀ {y : Addr} {ob0 : Obj} {ens : Array DictEntry} {ept : Nat}, s₁.heap.get? y = some ob0 → ob0.data = .dict ens ept → H y = none := fun {y ob0 ens ept} e d => by
      refine nod e (fun vsc n z => ?_) fun z => ?_
      · rw [d] at z
        cases z
      · rw [d] at z
        cases z
    have nk : ∀ {y : Addr} {m : Str → Option Value}, s₁.heap.Ns y m → (hidT s₁.heap H).Ns y m := fun {y m} ⟨ob0, ens, ept, e, d, r⟩ => ⟨ob0, ens, ept, bo e (noa e d), d, r⟩
    have kb : K.In (hidT s₁.heap H) := fun y ob0 e => bo (KX y ob0 e) (by
      cases q : H y with
      | none => rfl
      | some uu =>
        rcases dom y (by rw [q]; simp) with e1' | e1'
        · rw [e1'] at e q
          rw [outK (by rw [q]; simp)] at e
          cases e
        · obtain ⟨pt, hpt, ept⟩ := List.mem_map.mp e1'
          rw [← ept, nTb pt hpt] at e
          cases e)
    have md : L2.Mod K mg (hidT s₁.heap H) := ⟨kb, nk hnm, ⟨mb, nk hy, hbu⟩, let ⟨mc, h1, h2⟩ := hli; ⟨mc, nk h1, h2⟩⟩
    have TB : ∀ pt ∈ tt, TabB (hidT s₁.heap H) mg pt.1 pt.2 := fun pt hpt => by
      have hTt := hTb pt hpt
      refine ⟨?_, ?_, fun z => ?_⟩
      · obtain ⟨ob0, us, file, tf, flags, tg, inF, text, tt, e1, r1, r2, r3, r4, r5, r6, r7, r8, hne⟩ := Cd pt hpt
        refine ⟨ob0, us, file, tf, flags, tg, inF, text, tt, bo e1 (nod e1 (fun vsc n z => ?_) fun z => ?_), r1, r2, r3, r4, r5, r6, r7, r8, hne⟩
        · rw [r2] at z
          cases z
        · rw [r2] at z
          cases z
          simp at r3
      · obtain ⟨bmo, obb, b1, b2, b3, b4, b5, b6⟩ := hbmm
        have ngl : bmo ≠ mainGlobals := fun q => by
          obtain ⟨ob0, ens, ept, e, hd, _⟩ := hnm
          rw [q, e] at b3
          cases b3
          rw [hd] at b6
          cases b6
        have nPt : bmo ≠ pt.2 := fun q => by
          rw [q, hTt] at b3
          cases b3
          cases b6
        refine ⟨bmo, obb, b1, b2, ngl, nPt, bo b3 (nod b3 (fun vsc n z => ?_) fun z => ?_), b4, b5, b6⟩
        · rw [b6] at z
          cases z
        · rw [b6] at z
          cases z
      · obtain ⟨ob0, ens, ept, e, hd, _⟩ := hnm
        rw [z, hTt] at e
        cases e
        cases hd
    have ev0 : Env0 P w K mg (hidT s₁.heap H) callerA [] s₁ H := ⟨rfl, md, fun y ob0 e => of_hidT e, Nat.le_of_eq (hidT_size _ _), trivial, fun y hy => absurd (show y ∈ ([] : List Addr) from hy) (by simp), okh, .of_eq hge⟩
    refine codeAny_mono ((F _ kb (nk hnm) TB).run callerA [] s₁ H ⟨[.ref a], []⟩ [.ref a] [.ref a] _ _ rfl hro ev0 (hbnd s₁ (.ref a)) (.cons rfl .nil) (hspc H eT sq)) fun r t1 h => ?_
    cases r with
    | error e => exact (hcx H e t1 h).elim
    | ok fl =>
      cases fl with
      | next => exact False.elim h
      | brk => exact False.elim h
      | cont => exact False.elim h
      | ret uu =>
        obtain ⟨v, G, oss, bar, unt, okh1, rr, q⟩ := h
        have qq : v = .bl true := q
        subst qq
        obtain rfl : uu = Value.bool true := rr
        have kee : ∀ y ob0, y ∉ tt.map (·.2) → s₁.heap.get? y = some ob0 → t1.heap.get? y = some ob0 := fun y ob0 nby e => by
          cases q : H y with
          | none => exact unt.keep y ob0 e q (by intro z; exact absurd (show y ∈ ([] : List Addr) from z) (by simp)) (by simp)
          | some uu =>
            rcases onl y with z | z | ⟨obb, xss, z⟩
            · rw [q] at z; cases z
            · exact absurd z nby
            · have zz2 := unt.frzs y obb _ z
              obtain ⟨e1, _⟩ := okh y _ z
              obtain ⟨e2, _⟩ := okh1 y _ zz2
              rw [e] at e1; cases e1
              exact e2
        have grw : ∀ pt ∈ tt, ∃ mor : Array Value, t1.heap.get? pt.2 = some { cls := .none, data := .fields mor } := fun pt hpt => by
          obtain ⟨mor, z⟩ := unt.tbls pt.2 #[] (eT pt hpt)
          exact ⟨_, okh1 pt.2 _ z⟩
        refine ⟨rfl, ⟨fun y ob0 e => ?_, fun y ob0 e => ?_⟩, oss, bar⟩
        · by_cases hy : y ∈ tt.map (·.2)
          · obtain ⟨pt, hpt, ept⟩ := List.mem_map.mp hy
            obtain ⟨mor, hm⟩ := grw pt hpt
            rw [← ept] at e ⊢
            rw [hTb pt hpt] at e
            cases e
            exact .inr (.inl ⟨((Cd pt hpt).tab (hTb pt hpt)).isCodeTable, rfl, #[], mor, rfl, by rw [Array.empty_append]; exact hm⟩)
          · exact .inl (kee y ob0 hy e)
        · by_cases hy : y ∈ tt.map (·.2)
          · obtain ⟨pt, hpt, ept⟩ := List.mem_map.mp hy
            obtain ⟨mor, hm⟩ := grw pt hpt
            rw [← ept]
            exact ⟨_, hm⟩
          · exact ⟨ob0, kee y ob0 hy e⟩
  cases hk : K.lookup a with
  | some ob0 =>
    have e := KX a ob0 hk
    rw [hsc] at e
    cases e
    refine core0 (fun y => if y ∈ tt.map (·.2) then some (.tbl #[]) else none) (fun pt hpt => if_pos (memTb pt hpt)) (fun y => ?_) (.inr ⟨_, vsc.toArray, _, hk, rfl, rfl, rfl, by rw [List.size_toArray, lv]; exact hln, by simpa using rva⟩) (fun y uu z => ?_) (fun y z => ?_) fun z => absurd (show (if a ∈ tt.map (·.2) then some (HO.tbl #[]) else none) = none from if_neg noTb) z
    · by_cases hy : y ∈ tt.map (·.2)
      · exact .inr (.inl hy)
      · exact .inl (if_neg hy)
    · by_cases hy : y ∈ tt.map (·.2)
      · have zz := (if_pos hy).symm.trans z
        cases zz
        exact isTb y hy
      · have zz := (if_neg hy).symm.trans z
        cases zz
    · by_cases hy : y ∈ tt.map (·.2)
      · exact .inr hy
      · exact absurd (if_neg hy) z
  | none =>
    refine core0 (fun y => if y = a then some (.frz { cls := .type "list", data := .seq vsc.toArray } (.lst (nsc.map V.int))) else if y ∈ tt.map (·.2) then some (.tbl #[]) else none) (fun pt hpt => (if_neg (show ¬ pt.2 = a from fun z => noTb (by rw [← z]; exact memTb pt hpt))).trans (if_pos (memTb pt hpt))) (fun y => ?_)
      (.inl (.inr ⟨{ cls := .type "list", data := .seq vsc.toArray }, if_pos rfl⟩)) (fun y uu z => ?_) (fun y z => ?_) fun _ => hk
    · by_cases hy : y = a
      · exact .inr (.inr ⟨_, _, if_pos hy⟩)
      · by_cases hy2 : y ∈ tt.map (·.2)
        · exact .inr (.inl hy2)
        · exact .inl ((if_neg hy).trans (if_neg hy2))
    · by_cases hy : y = a
      · have zz := (if_pos hy).symm.trans z
        cases zz
        rw [hy]
        exact ⟨hsc, by rw [List.length_map]; exact hln, vsc, _, rva, hsc⟩
      · have z1 := (if_neg hy).symm.trans z
        by_cases hy2 : y ∈ tt.map (·.2)
        · have zz := (if_pos hy2).symm.trans z1
          cases zz
          exact isTb y hy2
        · have zz := (if_neg hy2).symm.trans z1
          cases zz
    · by_cases hy : y = a
      · exact .inl hy
      · by_cases hy2 : y ∈ tt.map (·.2)
        · exact .inr hy2
        · exact absurd ((if_neg hy).trans (if_neg hy2)) z
def LawT (l : PySem.W.OpenLaw) (w : World) (K : PySem.W.Frag) (CX : CXT) (k n : Nat) (x : Str) (mg : Str → Option Value) (fa : Addr) (h : Heap) : Prop :=
  ∃ (fd : FuncData) (tt : List (Addr × Addr)) (sp : Sp), (∀ p ∈ tt, h.get? p.2 = some { cls := .none, data := .fields #[] }) ∧ (∀ p ∈ tt, K.lookup p.2 = none) ∧ (∀ p ∈ tt, PySem.W.CodeHd h p.1 p.2) ∧ (∀ (s : Shared) (v : Value), BindsTo s fd ⟨[v], []⟩ [(x, v)]) ∧
    (∀ (H : Hp) (a : Addr) (ms : List Int), ms.length ≤ n → (∀ p ∈ tt, H p.2 = some (.tbl #[])) → SqL K H a (ms.map V.int) → sp [.ref a] H (fun v _ => v = .bl true) fun _ _ _ => False) ∧
    ∀ base : Heap, K.In base → base.Ns mainGlobals mg → (∀ p ∈ tt, TabB base mg p.1 p.2) → WkG.FnG l.prog w K mg base CX k fa fd [x] sp
theorem walk_GT {l : PySem.W.OpenLaw} {n k : Nat} {q : Program} {loose : List Str} {XP : (Str → Option Value) → Heap → Prop} {YP : World → Heap → Prop} {d : DefRec} {CX : World → CXT} {x : Str}
    (hn : l.most = some n) (hn2 : n ≤ sizeLine) (hdf : d.params.defaults = []) (hr : Room k callerA)
    (F : ∀ (w : World) (mg : Str → Option Value) (fa : Addr) (h : Heap), YP w h → h.Ns mainGlobals mg → mg d.name = some (.ref fa) → ∃ K : PySem.W.Frag, K.In h ∧ LawT l w K (CX w) k n x mg fa h)
    (hCX : ∀ (w : World) (H : Hp) (s : Shared) (e : Value) (s' : Shared), CX w [] H s (fun _ _ _ => False) e s' → False) :
    PySem.W.WalkO q loose XP YP l.row.toRowW d [] (fun f vs => PySem.call f vs) := by
  refine Att.attach_call hn hdf fun w s₀ s₁ mg mb fa o pm cd doc a vs ns G Y ho hd hcd hmg hobj hints hlen hg => ?_
  obtain ⟨K, KX, fd, tt, sp, hT, nT, C, hb, hsp, hF⟩ := F w mg fa _ Y G.T.g hmg
  exact law_GT KX G.T.g G.T.b G.T.builtins G.T.nolimit hg hT nT C G.T.bmain hobj hints (Nat.le_trans hlen hn2) hr hF hb (fun H eT sq => hsp H a ns hlen eT sq) fun H e s' => hCX w H s₁ e s'
end WkH
namespace WkS
open PySem PySem.Spec PyProof.Rows L2
structure SupScope (N ps : List Str) (sc : Scope) : Prop where
  kind : sc.kind = .function
  co : sc.isCoroutine = false
  gen : sc.isGenerator = false
  nd : N.Nodup
  pre : N.take ps.length = ps
  par : ∀ x ∈ ps, sc.names.lookup x = some .local
  nocell : ∀ y ∈ sc.names, y.2 ≠ .cell
  free : ∀ y ∈ sc.names, y.2 = .free → y.1 = "__class__"
  cls : sc.names.lookup ("__class__" : Str) = some .free
  sup : sc.names.lookup ("super" : Str) = some .globalImplicit
abbrev supEnv (qual : Str) (scope : Scope) (L f : Addr) (cd : Value) (cc : Addr) : Env := PySem.W.ksEnv qual scope L f cd cc
def supCx (CX : CXT) (P : Program) (w : World) (K : PySem.W.Frag) (mg : Str → Option Value) (base : Heap) (N : List Str) (qual : Str) (scope : Scope) (f : Addr) (cd : Value) (cc : Addr) (A : Around) (outer : List Env) (s : Shared) (H : Hp) (E : XK) : Cx where
  prog := P
  w := w
  K := K
  mg := mg
  base := base
  A := A.deeper (supEnv qual scope s.heap.objs.size f cd cc)
  N := N
  s_0 := s
  H_0 := H
  env := supEnv qual scope s.heap.objs.size f cd cc
  outer := outer
  stack := supEnv qual scope s.heap.objs.size f cd cc :: outer
  ex := []
  calm := true
  fn := fun _ => false
  pn := []
  xe := fun e s' => wpAny (model P w) (A.deeper (supEnv qual scope s.heap.objs.size f cd cc)) (leaving (supEnv qual scope s.heap.objs.size f cd cc) e) (fun _ s'' => CX outer H s E e s'') (fun e' s'' => CX outer H s E e' s'') s'
theorem lookup_nd {y : Str} {u : Value} : ∀ {l : List (Str × Value)}, (l.map (·.1)).Nodup → (y, u) ∈ l → l.lookup y = some u
  | [], _, h => by cases h
  | (z, v) :: r, nd, h => by
    rw [List.map_cons, List.nodup_cons] at nd
    rcases List.mem_cons.mp h with e | h
    · cases e
      simp [List.lookup]
    · have hne : y ≠ z := fun e => nd.1 (List.mem_map.mpr ⟨(y, u), h, e⟩)
      have e1 : (y == z) = false := beq_eq_false_iff_ne.mpr hne
      rw [List.lookup_cons, e1]
      exact lookup_nd nd.2 h
theorem rev_zip {ps : List Str} {us : List Value} {y : Str} {u : Value} {i : Nat} (nd : ps.Nodup) (hl : ps.length = us.length) (hp : ps[i]? = some y) (hu : us[i]? = some u) : (ps.zip us).reverse.lookup y = some u := by
  have e : (ps.zip us)[i]? = some (y, u) := List.getElem?_zip_eq_some.mpr ⟨hp, hu⟩
  refine lookup_nd ?_ (List.mem_reverse.mpr (List.mem_of_getElem? e))
  rw [List.map_reverse]
  refine List.pairwise_reverse.mpr ?_
  rw [List.map_fst_zip (by omega)]
  exact nd.imp fun h => Ne.symm h
section
variable {CX : CXT} {P : Program} {w : World} {K : PySem.W.Frag} {mg : Str → Option Value} {base : Heap} {N ps : List Str} {qual : Str} {scope : Scope} {f cc : Addr} {cd : Value} {A : Around} {outer : List Env} {s : Shared} {H : Hp} {E : XK} {us : List Value} {vs : List V}
theorem sup_start {h₁ : Heap} {tk : Nat} {oc : Obj} {cv : Option Value} (S : SupScope N ps scope) (hd : A.handled = none) (e0 : Env0 P w K mg base A outer s H) (hl : vs.length = ps.length) (r : Vals vs us) (hcell : K.lookup cc = some oc) (hcv : oc.data = .cell cv)
    (hns : h₁.Ns s.heap.objs.size fun y => (ps.zip us).reverse.lookup y) (kp : ∀ b o, s.heap.get? b = some o → h₁.get? b = some o) :
    Inv (supCx CX P w K mg base N qual scope f cd cc A outer s H E) [] (L2.start N vs) H { s with heap := h₁, toks := tk } := by
  have hlu : ps.length = us.length := by rw [← hl]; exact r.length
  have ndP : ps.Nodup := by rw [← S.pre]; exact S.nd.sublist (List.take_sublist _ _)
  have hpl : ps.length ≤ N.length := by
    have := congrArg List.length S.pre
    rw [List.length_take] at this
    omega
  have one : ∀ {y c}, ([(("__class__" : Str), cc)] : List (Str × Addr)).lookup y = some c → y = "__class__" ∧ c = cc := fun {y c} e => by
    rw [List.lookup_cons] at e
    split at e
    · rename_i h
      exact ⟨eq_of_beq h, (Option.some.inj e).symm⟩
    · simp at e
  have hb := e0.mod.kin _ _ hcell
  obtain ⟨hb1, hb2⟩ := e0.bs _ _ hb
  have noE : ∀ b : Addr, b ∉ (supCx CX P w K mg base N qual scope f cd cc A outer s H E).ex := fun b z => absurd (show b ∈ ([] : List Addr) from z) (by simp)
  refine ⟨⟨e0.mod, S.kind, rfl, rfl, Nat.le_refl _, fun y z c a b => (one a).1.trans (one b).1.symm, fun y hy => ?_, fun y c z _ => ?_, fun _ => hd, Around.frames_deeper e0.frames, .inr ⟨rfl, rfl⟩, fun b z => absurd z (noE b), e0.bs, e0.bsz, fun b _ _ => noE b,
      fun b z => absurd z (noE b), e0.funs, e0.frf⟩,
    rfl, e0.bare, Un.kept kp, ⟨_, hns, fun i y v h1 h2 h3 => ?_⟩, fun y c e => ?_, e0.hok.fresh (Nat.le_refl _), fun y c e => ?_, fun q hq => absurd (show q ∈ ([] : List (Addr × Obj)) ++ [] from hq) (by simp), e0.hok.kept kp, ?_⟩
  · have hy : scope.names.lookup y = some .cell ∨ scope.names.lookup y = some .free := hy
    rcases hy with hy | hy
    · exact absurd rfl (S.nocell _ (PySem.mem_of_lookup hy))
    · have e : y = "__class__" := S.free _ (PySem.mem_of_lookup hy) rfl
      subst e
      exact ⟨cc, by show ([(("__class__" : Str), cc)] : List (Str × Addr)).lookup ("__class__" : Str) = some cc; rfl⟩
  · have z : false = true := z
    cases z
  · have hi : i < vs.length := by
      unfold L2.start at h2
      by_cases hi : i < vs.length
      · exact hi
      · rw [List.getElem?_append_right (by simpa using hi), List.getElem?_replicate] at h2
        split at h2 <;> cases h2
    have ha : vs[i]? = some v := by
      unfold L2.start at h2
      rw [List.getElem?_append_left (by simpa using hi), List.getElem?_map] at h2
      cases e : vs[i]? with
      | none => rw [e] at h2; cases h2
      | some a => rw [e] at h2; cases h2; rfl
    obtain ⟨u, hu, rv⟩ := r.get ha
    have h1 : N[i]? = some y := h1
    have hp : ps[i]? = some y := by
      rw [← S.pre, List.getElem?_take_of_lt (by omega)]
      exact h1
    exact ⟨u, rv, .inl ⟨S.par y (List.mem_of_getElem? hp), rev_zip ndP hlu hp hu⟩⟩
  · obtain ⟨_, rfl⟩ := one e
    exact ⟨cv, oc, kp _ _ hb1, hcv⟩
  · obtain ⟨_, rfl⟩ := one e
    exact hb2
  · show (L2.start N vs).length = N.length
    unfold L2.start
    simp
    omega
structure SupT (P : Program) (K : PySem.W.Frag) (mg : Str → Option Value) (ps : List Str) (D f cc cda : Addr) (qual : Str) (params : Arguments) (scope : Scope) (fd : FuncData) : Prop where
  co : ∃ (name : Str) (body : List Stmt) (dV kV doc pm : Value) (an : Option Addr) (ct oc : Value) (od : Option Addr) (osl : Array (Option Value)), fd = PySem.W.ksFn name qual params body scope dV kV doc pm an (.ref cda) ct cc ∧ K.lookup f = some ⟨oc, od, .func fd, osl⟩
  code : PySem.W.codeIn K (.ref cda) qual = true
  file : ∃ (ccl : Value) (cdd : Option Addr) (vs : Array Value) (ccs : Array (Option Value)) (file : Str) (tf : Tok), K.lookup cda = some ⟨ccl, cdd, .fields vs, ccs⟩ ∧ vs[2]? = some (.str file tf) ∧ ((P.main.file : Str) == file) = true
  cell : ∃ (cl : Value) (cld : Option Addr) (csl : Array (Option Value)), K.lookup cc = some ⟨cl, cld, .cell (some (.ref D)), csl⟩
  cls : ∃ cdD, PySem.W.clsIn K D = some cdD
  nosup : mg "super" = none
  top : (P.main.scope.names.lookup ("super" : Str)).isSome = false
  par : ∃ ar : Arg, (params.posonlyargs ++ params.args).head? = some ar ∧ ps[0]? = some ar.arg
  noany : PySem.W.nsIn K cStatics "thirdparty.any" = some none
theorem clsIn_at {h : Heap} {D : Addr} {cd : ClassData} (X : K.In h) (hD : PySem.W.clsIn K D = some cd) : ∃ oD, h.get? D = some oD ∧ oD.data = .cls cd := by
  unfold PySem.W.clsIn at hD
  split at hD
  · rename_i c d cd' sl ho
    cases hD
    exact ⟨_, X _ _ ho, rfl⟩
  · cases hD
theorem sup_ok {k : Nat} {fd fd2 : FuncData} {D f2 cda : Addr} {params : Arguments} {ps2 : List Str} {sp sp2 : Sp} {m : Str} {e : Expr} {es : List Expr} {rest : List Stmt} {p0 p1 apos pos pos' : Pos} (T : SupT P K mg ps D f cc cda qual params scope fd)
    (hbd : fd.body = .stmts (.Expr (.Call (.Attribute (.Call (.Name "super" p0) [] [] p1) m apos) (e :: es) [] pos) pos' :: rest)) (S : SupScope N ps scope) (F2 : FnOk P w K mg base CX k f2 fd2 ps2 sp2) (hb2 : Binds K fd2 ps2 []) (hf2 : PySem.W.fnIn K f2 = true)
    (hf2' : PySem.W.isFn K (.ref f2) = true)
    (hmn : (m == ("__class__" : Str)) = false) (len : ∀ vs H Q E, sp vs H Q E → vs.length = ps.length)
    (hx : ∀ A outer s H E, Passes CX (supCx CX P w K mg base N qual scope f (.ref cda) cc A outer s H E) E)
    (hst : ∀ env : Env, starEach (e :: es) env = (false, eval e env) :: starEach es env) (hpl : ∀ env : Env, (backTo pos (starEach es env)).any (·.1) = false)
    (hev : ∀ env : Env, env.scope = scope → ∃ pl : Sem Bool, eval (.Call (.Attribute (.Call (.Name "super" p0) [] [] p1) m apos) (e :: es) [] pos) env = (do
      let ov ← attributeBase (.Call (.Name "super" p0) [] [] p1) m env (eval (.Call (.Name "super" p0) [] [] p1) env)
      standAt apos.atName
      let (f, first) ← holding [ov] (getMethod ov m pl)
      callWith pos f first (backTo pos (starEach (e :: es) env)) []))
    (hsw : ∀ env : Env, env.scope = scope → interactive env = false ∧ swapsWith (.Call (.Attribute (.Call (.Name "super" p0) [] [] p1) m apos) (e :: es) [] pos) none pos'.line env = pure false)
    (hbody : ∀ (A : Around) (outer : List Env) (s : Shared) (H : Hp) (vs : List V) (Q : VK) (E : XK), Room k (A.deeper (supEnv qual scope s.heap.objs.size f (.ref cda) cc)) → sp vs H Q E →
      ∃ (ta : TA) (t : TS) (x C dx : Addr) (fs : List (Str × V)), vs[0]? = some (.ref x) ∧ H x = some (.ins C dx fs) ∧ PySem.W.mroIn K C (.ref D) = some true ∧ PySem.W.ks_superIn K C D m = some (some (.ref f2)) ∧
        PA (supCx CX P w K mg base N qual scope f (.ref cda) cc A outer s H E) (e :: es) ta ∧ PSs (supCx CX P w K mg base N qual scope f (.ref cda) cc A outer s H E) rest t ∧
        ta (L2.start N vs) H fun ws H1 => sp2 (.ref x :: ws) H1 (fun _ H2 => t { nx := fun _ H' => Q .non H', rt := Q } (L2.start N vs) H2) E) :
    FnOk P w K mg base CX (k + 1) f fd ps sp := by
  refine ⟨len, fun A outer s H args us vs Q E hr e0 hb rel hsp => ?_⟩
  obtain ⟨name, body, dV, kV, doc, pm, an, ct, oc, od, osl, efd, lk⟩ := T.co
  obtain ⟨ccl, cdd, vs', ccs, file, tf, lkc, hvs, hfile⟩ := T.file
  obtain ⟨cl, cld, csl, hcell⟩ := T.cell
  obtain ⟨cdD, hD⟩ := T.cls
  obtain ⟨ar, hp, hp0⟩ := T.par
  have KX : K.In s.heap := e0.mod.kin.keeps fun b o e => (e0.bs b o e).1
  have lim : s.heap.NoLimit := e0.mod.nolimit.keeps fun b o e => (e0.bs b o e).1
  subst efd
  have hbd : body = .Expr (.Call (.Attribute (.Call (.Name "super" p0) [] [] p1) m apos) (e :: es) [] pos) pos' :: rest := FuncBody.stmts.inj hbd
  have hloc : ∀ y ∈ ps.zip us, scope.names.lookup y.1 = some .local := fun ⟨n, v⟩ hy => S.par n (List.of_mem_zip hy).1
  refine ks_codeAny_call_defAt (fd := PySem.W.ksFn name qual params body scope dV kV doc pm an (.ref cda) ct cc) (body := body) (binds := ps.zip us) hr.depth (KX _ _ lk) rfl lim (PySem.W.codeRec_of KX T.code) rfl hb S.nocell hloc (fun h₁ hns kp => ?_) S.co S.gen S.kind
  have I := sup_start (CX := CX) (E := E) (f := f) (qual := qual) (cd := .ref cda) (tk := s.toks + (ps.zip us).length) S hr.hd e0 (len _ _ _ _ hsp) rel hcell rfl hns kp
  have hr1 := hr.deeper (supEnv qual scope s.heap.objs.size f (.ref cda) cc)
  obtain ⟨ta, t, x, C, dx, fs, hx0, hxi, hsub, hsm, hA, hS, ht⟩ := hbody A outer s H vs Q E hr1 hsp
  have fin : ∀ {σ' : L2.St} {H' : Hp} {v : V} {u : Value} {s' : Shared}, Inv (supCx CX P w K mg base N qual scope f (.ref cda) cc A outer s H E) [] σ' H' s' → RelV v u → Q v H' → CE outer P w H s Q u s' :=
    fun {σ' H' v u s'} J rv q => ⟨v, H', J.os, J.bare, J.base, J.hok, rv, q⟩
  rw [hbd]
  obtain ⟨sw1, sw2⟩ := hsw (supEnv qual scope s.heap.objs.size f (.ref cda) cc) rfl
  obtain ⟨pl, hevl⟩ := hev (supEnv qual scope s.heap.objs.size f (.ref cda) cc) rfl
  refine ks_wpAt_execs_cons (ks_wpAt_Expr_any (ks_wpAt_MethodCall (pl := pl) ?_ hevl) sw1 sw2)
  refine ks_wpAt_super_base (f := f) (cc := cda) S.sup S.cls hmn rfl (I.kIn _ _ lk) rfl hp rfl (I.kIn _ _ lkc) rfl hvs hfile T.top ?_
  obtain ⟨mb, hmb, hbb⟩ := I.mod.blt
  refine PySem.W.ks_loadName_global S.kind S.sup (Calls.loadGlobal_builtin (mg := mg) (mb := mb) (I.mod.glob.keeps I.bk) T.nosup (hmb.keeps I.bk) ((hbb _ (by decide)).trans (show bootBuiltins "super" = some (.type "super") by decide +kernel)) ⟨rfl, ?_⟩)
  refine wpAny_loadName_free S.kind S.cls (c := cc) (by rfl) ⟨_, I.kIn _ _ hcell, rfl⟩ ?_
  have hself : (ps.zip us).reverse.lookup ar.arg = some (.ref x) := by
    obtain ⟨u, hu, rv⟩ := rel.get hx0
    obtain rfl : u = Value.ref x := rv
    exact rev_zip (by rw [← S.pre]; exact S.nd.sublist (List.take_sublist _ _)) (by rw [← len _ _ _ _ hsp]; exact rel.length) hp0 hu
  refine wpAny_loadName_local S.kind (S.par _ (List.mem_of_getElem? hp0)) hns hself ?_
  obtain ⟨oD, hD1, hD2⟩ := clsIn_at I.kIn hD
  obtain ⟨mA, OM, _, _, _, _⟩ := ins_get I.hok hxi
  obtain ⟨od', IA, _⟩ := OM.look
  refine ks_wpAny_isType_cls hD1 hD2 ⟨rfl, ?_⟩
  refine ks_wpAny_call_super hD1 hD2 IA.at_ IA.cls (fun c e => ?_) (PySem.W.looks_mroIn I.kIn hsub) (fun h2 e2 k2 => ?_)
  · have z := IA.no
    unfold PySem.W.notCls at z
    rw [e] at z
    exact Bool.noConfusion z
  have I2 := I.kept (t' := s.toks + (ps.zip us).length) k2
  cases hc : PySem.W.clsIn K C with
  | none =>
    unfold PySem.W.ks_superIn at hsm
    rw [hc] at hsm
    cases hsm
  | some cd =>
    unfold PySem.W.ks_superIn at hsm
    rw [hc] at hsm
    obtain ⟨of, hof, hofc⟩ : ∃ of, h2.get? f2 = some of ∧ of.cls = .type "function" := by
      have z : (K.lookup f2).map (·.cls) = some (.type "function") := eq_of_beq hf2'
      cases q : K.lookup f2 with
      | none => rw [q] at z; cases z
      | some of => rw [q] at z; exact ⟨of, I2.kIn _ _ q, Option.some.inj z⟩
    have IA2 : h2.get? x = some (PySem.W.instObj C dx) := k2 _ _ IA.at_
    have hxC : x ≠ C := by
      rintro rfl
      obtain ⟨oC, q1, q2⟩ := clsIn_at I2.kIn hc
      rw [show h2.get? x = _ from IA2] at q1
      cases q1
      cases q2
    refine ks_wpAny_getMethod_super (X := I2.kIn) e2 (PySem.W.looks_opaque I2.kIn T.noany) (l₀ := cd.mro) (fun A Q E s k q => wpAny_bind ((PySem.W.looks_clsIn I2.kIn hc) A _ E s k (wpAny_pure q))) rfl hsm hof hofc hxC hmn ?_
    have I3 := I2.kept (t' := s.toks + (ps.zip us).length + 1) (h' := h2.push { cls := .type "method", data := .fields #[.ref f2, .ref x] }) fun b u e => Heap.get?_push_of_some _ e
    have gq : (h2.push { cls := .type "method", data := .fields #[.ref f2, .ref x] }).get? h2.objs.size = some (PySem.W.methodObj (.ref f2) (.ref x)) := Heap.get?_push_size _ rfl
    have I4 : Inv (supCx CX P w K mg base N qual scope f (.ref cda) cc A outer s H E) [(h2.objs.size, PySem.W.methodObj (.ref f2) (.ref x))] (L2.start N vs) H _ := I3.pins_of fun p hp => by
      have e : p = (h2.objs.size, PySem.W.methodObj (.ref f2) (.ref x)) := by simpa using hp
      subst e
      exact ⟨gq, I2.hok.fresh (Nat.le_refl _), Nat.ne_of_gt I2.lt, I2.nofs (Nat.le_refl _), fun v z => by cases z⟩
    refine PySem.W.callWith_M (h₀ := base) (L := s.heap.objs.size) (news := [(h2.objs.size, PySem.W.methodObj (.ref f2) (.ref x))]) (g := f2) (self := .ref x) e0.mod.kin (fun p hp => ?_) List.mem_cons_self hf2 (thn (hA.run pos _ _ _ _ _ I4 ht) fun ws s5 ⟨vs5, H5, I5, r5, q5⟩ => ⟨⟨(I5.pin _ (List.mem_append_right _ List.mem_cons_self)).1, I5.kIn⟩, ?_⟩) (hst _) (hpl _)
    · have e : p = (h2.objs.size, PySem.W.methodObj (.ref f2) (.ref x)) := by simpa using hp
      subst e
      exact ⟨gq, Nat.ne_of_gt I2.lt, Heap.get?_none_of_le (Nat.le_trans e0.bsz I2.sz)⟩
    have hl : (Value.ref x :: ws).length = ps2.length := by
      rw [← F2.len _ _ _ _ q5]
      simp [r5.length]
    have rc := F2.run _ _ s5 H5 ⟨.ref x :: ws, []⟩ (.ref x :: ws) (.ref x :: vs5) _ E hr1 I5.env0 (by simpa using hb2 s5 (.ref x :: ws) I5.kIn (by simpa using hl)) (.cons rfl r5) q5
    refine wpAny_call (ks_codeAny_call_bound (I5.pin _ (List.mem_append_right _ List.mem_cons_self)).1 (codeAny_mono rc fun r s' hq => ?_))
    cases r with
    | error er => exact hx A outer s H E [(h2.objs.size, PySem.W.methodObj (.ref f2) (.ref x))] (L2.start N vs) H5 s5 er s' I5 hq
    | ok fl =>
      cases fl with
      | next => exact False.elim hq
      | brk => exact False.elim hq
      | cont => exact False.elim hq
      | ret u =>
        obtain ⟨v6, H6, I6, _, q6⟩ := I5.after hq
        have I7 : Inv (supCx CX P w K mg base N qual scope f (.ref cda) cc A outer s H E) [] (L2.start N vs) H6 s' := I6.pins_of fun p hp => absurd hp (by simp)
        refine wpAt_of_wpAny (wpAny_mono (hS.run [] s' _ H6 _ I7 q6) (fun fl s8 hs => ?_) fun _ _ z => z)
        cases fl with
        | ret u8 =>
          obtain ⟨v, σ', H', J, rv, q⟩ := hs
          exact fin J rv q
        | next =>
          obtain ⟨σ', H', J, q⟩ := hs
          exact fin (v := V.non) (u := Value.none) J rfl q
        | brk =>
          obtain ⟨_, _, _, q⟩ := hs
          exact False.elim q
        | cont =>
          obtain ⟨_, _, _, q⟩ := hs
          exact False.elim q
end
end WkS
namespace WkL
open PySem PySem.Spec PyProof.Rows L2 LamX
structure Lam1 (sc scope : Scope) (u : Str) : Prop where
  kind : scope.kind = .function
  co : scope.isCoroutine = false
  gen : scope.isGenerator = false
  nocell : ∀ y ∈ scope.names, y.2 ≠ .cell
  one : ∀ y ∈ scope.names, y.2 = .local → y.1 = u
  par : scope.names.lookup u = some .local
  free : ∀ y ∈ scope.names, y.2 = .free → sc.names.lookup y.1 = some .cell ∨ sc.names.lookup y.1 = some .free
section
variable {X : Cx} {pins : List (Addr × Obj)} {σ : L2.St} {H : Hp} {s : Shared}
theorem Lam1.has {scope : Scope} {u : Str} (L : Lam1 X.env.scope scope u) (ok : X.Ok) : ∀ y ∈ scope.names, y.2 = .free → ∃ c, X.env.cells.lookup y.1 = some c := fun y hy e =>
  (L.free y hy e).elim (fun k => ok.has _ (.inl k)) (fun k => ok.has _ (.inr k))
theorem lam1_start {A : Around} {outer : List Env} {E : XK} {scope : Scope} {f c' : Addr} {h₁ : Heap} {tk i : Nat} {u : Str} {v : V} {uv : Value} (I : Inv X pins σ H s) (L : Lam1 X.env.scope scope u) (hi : X.N[i]? = some u) (hN : X.N.Nodup) (rv : RelV v uv)
    (e0 : Env0 X.prog X.w X.K X.mg X.base A outer s H) (hd : A.handled = none) (hns : h₁.Ns s.heap.objs.size fun y => ([(u, uv)] : List (Str × Value)).reverse.lookup y) (kp : ∀ b o, s.heap.get? b = some o → h₁.get? b = some o) :
    Inv (lamCx X A outer s H E scope f c') [] (σ.set i (some v)) H { s with heap := h₁, toks := tk } := by
  have back : ∀ {y c}, (cloFrom X.env.cells scope.names []).lookup y = some c → X.env.cells.lookup y = some c := by
    intro y c e
    rcases cloFrom_mem (PySem.mem_of_lookup e) with z | ⟨h1, h2⟩
    · cases z
    · obtain ⟨c1, hc⟩ := L.has I.ok _ h1 rfl
      have hc : X.env.cells.lookup y = some c1 := hc
      have e2 : c = c1 := by rw [h2, hc] <;> rfl
      exact e2 ▸ hc
  have forth : ∀ {y}, scope.names.lookup y = some .free → ∃ c, (cloFrom X.env.cells scope.names []).lookup y = some c := by
    intro y hl
    exact mem_lookup (cloFrom_has (cells := X.env.cells) (acc := []) (PySem.mem_of_lookup hl))
  have keepC : ∀ {c : Addr} {w' : Option Value}, s.heap.IsCell c w' → h₁.IsCell c w' := fun ⟨o, ho, q⟩ => ⟨o, kp _ _ ho, q⟩
  have noE : ∀ b : Addr, b ∉ (lamCx X A outer s H E scope f c').ex := fun b z => absurd (show b ∈ ([] : List Addr) from z) (by simp)
  refine ⟨⟨e0.mod, L.kind, rfl, rfl, Nat.le_refl _, fun y z c a b => I.ok.inj y z c (back a) (back b), fun y hy => ?_, fun y c z _ => ?_, fun _ => hd, Around.frames_deeper e0.frames, .inr ⟨rfl, rfl⟩, fun b z => absurd z (noE b), e0.bs, e0.bsz, fun b _ _ => noE b,
      fun b z => absurd z (noE b), e0.funs, e0.frf⟩,
    rfl, e0.bare, Un.kept kp, ⟨_, hns, fun j y x e1 e2 e3 => ?_⟩, fun y c e => ?_, e0.hok.fresh (Nat.le_refl _), fun y c e => I.freeC y c (back e), fun q hq => absurd (show q ∈ ([] : List (Addr × Obj)) ++ [] from hq) (by simp), e0.hok.kept kp, ?_⟩
  · have hy : scope.names.lookup y = some .cell ∨ scope.names.lookup y = some .free := hy
    rcases hy with hy | hy
    · exact absurd rfl (L.nocell _ (PySem.mem_of_lookup hy))
    · exact forth hy
  · have z : false = true := z
    cases z
  · have e1 : X.N[j]? = some y := e1
    have e3 : Vis scope y := e3
    rcases e3 with k | k | k
    · have ey : y = u := L.one _ (PySem.mem_of_lookup k) rfl
      subst ey
      have ej : j = i := nodup_ix hN e1 hi
      subst ej
      have hlt : j < σ.length := by
        rw [I.len]
        exact (List.getElem?_eq_some_iff.mp hi).1
      rw [List.getElem?_set_self hlt] at e2
      cases e2
      refine ⟨uv, rv, .inl ⟨k, ?_⟩⟩
      show ([(y, uv)] : List (Str × Value)).reverse.lookup y = some uv
      simp [List.lookup]
    · exact absurd rfl (L.nocell _ (PySem.mem_of_lookup k))
    · have hne : i ≠ j := fun z => by
        subst z
        rw [hi] at e1
        cases e1
        rw [L.par] at k
        cases k
      rw [List.getElem?_set_ne hne] at e2
      obtain ⟨m, hn, hl⟩ := I.loc
      have hvis : Vis X.env.scope y := (L.free _ (PySem.mem_of_lookup k) rfl).elim (fun k => .inr (.inl k)) (fun k => .inr (.inr k))
      obtain ⟨w', r, q⟩ := hl j y x e1 e2 hvis
      obtain ⟨c2, h2⟩ := forth k
      refine ⟨w', r, .inr ⟨.inr k, c2, h2, ?_⟩⟩
      rcases q with ⟨k', _⟩ | ⟨_, c3, e', z⟩
      · have k' : X.env.scope.names.lookup y = some .local := k'
        rcases L.free _ (PySem.mem_of_lookup k) rfl with k2 | k2 <;> rw [show X.env.scope.names.lookup y = _ from k2] at k' <;> cases k'
      · rw [back h2] at e'
        cases e'
        exact keepC z
  · obtain ⟨w', z⟩ := I.cell y c (back e)
    exact ⟨w', keepC z⟩
  · show (σ.set i (some v)).length = X.N.length
    rw [List.length_set]
    exact I.len
theorem cx_false {P : Program} {w : World} {outer : List Env} {u : Value} {s s' : Shared} {H : Hp} (h : L2.CX P w outer H s (fun _ _ _ => False) u s') : False := by
  obtain ⟨_, _, _, _, _, _, _, _, _, _, _, _, z⟩ := h
  exact z
theorem lam1_call {scope : Scope} {params : Arguments} {body : Expr} {f c' : Addr} {pm ctv uv : Value} {u : Str} {v : V} {i k : Nat} {tb : TE} {Q : VK} (I : Inv X pins σ H s) (L : Lam1 X.env.scope scope u) (hi : X.N[i]? = some u) (hN : X.N.Nodup) (rv : RelV v uv)
    (hf : s.heap.get? f = some (PySem.W.kla_obj "<lambda>" (X.env.qual ++ "<lambda>") params body scope (cloFrom X.env.cells scope.names []) pm c' ctv)) (hc : H c' = some (CodeO c' (X.env.qual ++ "<lambda>"))) (hr : Room (k + 2) X.A)
    (hbind : bindArgs (PySem.W.kla_fn "<lambda>" (X.env.qual ++ "<lambda>") params body scope (cloFrom X.env.cells scope.names []) pm (.ref c') ctv) ⟨[uv], []⟩ = pure [(u, uv)])
    (hbody : ∀ (A : Around) (outer : List Env) (s : Shared) (H : Hp), Room k (A.deeper (lamEnv X scope s.heap.objs.size f c')) → PE (lamCx X A outer s H (fun _ _ _ => False) scope f c') body tb)
    (ht : tb (σ.set i (some v)) H Q) {E : Value → Shared → Prop} : wpAny (model X.prog X.w) X.A.in1 (call (.ref f) [uv]) (EP X pins σ Q) E s := by
  obtain ⟨⟨oc, vs, t, hoc, hdc, hvc⟩, _, _⟩ := I.hok c' _ hc
  have e0 : Env0 X.prog X.w X.K X.mg X.base X.A.in1 X.stack s H := I.env0.in1
  have rc : codeAny (model X.prog X.w) X.A.in1 (.call (.ref f) ⟨[uv], []⟩) (CR (L2.CX X.prog X.w) X.stack X.prog X.w H s Q (fun _ _ _ => False)) s := by
    refine PySem.W.kla_callFunE hr.in1.depth hf rfl L.co L.gen rfl ⟨c', oc, vs, t, rfl, hoc, hdc, hvc⟩ ?_
    rw [hbind]
    refine wpAny_pure (wpAny_newFunctionEnv L.nocell (fun y hy => ?_) (fun h₁ hns hsb => ⟨I.nolimit.fresh _ hsb, ?_⟩) L.kind)
    · have e : y = (u, uv) := by simpa using hy
      rw [e]
      exact L.par
    · have kp : ∀ b o, s.heap.get? b = some o → h₁.get? b = some o := fun b o e => hsb.extBut b o (Nat.ne_of_lt (Heap.lt_size e)) (Heap.get?_push_of_some _ e)
      have J := lam1_start (E := fun _ _ _ => False) (f := f) (c' := c') (tk := s.toks + ([(u, uv)] : List (Str × Value)).length) I L hi hN rv e0 hr.in1.hd hns kp
      refine PySem.W.kla_codeExpr (wpAny_mono ((hbody _ _ s H (hr.in1.deeper _)).run [] _ _ H Q J ht) (fun z s' hq => ?_) fun e s' hq => hq)
      obtain ⟨w', H', J', rz, q⟩ := hq
      exact ⟨w', H', J'.os, J'.bare, J'.base, J'.hok, rz, q⟩
  refine wpAny_call (codeAny_mono rc fun r s' hq => ?_)
  cases r with
  | error e => exact (cx_false hq).elim
  | ok fl =>
    cases fl with
    | ret z => exact I.after hq
    | next => exact False.elim hq
    | brk => exact False.elim hq
    | cont => exact False.elim hq
end
section
variable {X : Cx} {pins : List (Addr × Obj)} {σ : L2.St} {H : Hp} {s : Shared}
theorem repin {a : Addr} {o o' : Obj} {h' : Heap} {t' : Nat} (I : Inv X ((a, o) :: pins) σ H s) (k : ∀ b u, b ≠ a → s.heap.get? b = some u → h'.get? b = some u) (ha : h'.get? a = some o') (h0 : X.s_0.heap.objs.size ≤ a) (hne : ∀ p ∈ X.pn ++ pins, p.1 ≠ a) (hd : ∀ v, o'.data ≠ .cell v) :
    Inv X ((a, o') :: pins) σ H { s with heap := h', toks := t' } := by
  obtain ⟨g1, g2, g3, g4, g5⟩ := I.pin (a, o) (List.mem_append_right _ List.mem_cons_self)
  have J : Inv X pins σ H s := I.pins_of fun p hp => I.pin p (List.mem_append_right _ (List.mem_cons_of_mem _ hp))
  have J2 := J.turned (t' := t') k g2 g3 (.inr h0) (fun x c e z => by
    obtain ⟨v, ob, ho, hc⟩ := J.cell x c e
    rw [z, g1] at ho
    cases ho
    exact g5 v hc) hne
  refine J2.pins_of fun p hp => ?_
  rcases List.mem_cons.mp hp with rfl | hp
  · exact ⟨ha, g2, g3, g4, hd⟩
  · exact J2.pin p (List.mem_append_right _ hp)
theorem swap_pins {p q : Addr × Obj} (I : Inv X (p :: q :: pins) σ H s) : Inv X (q :: p :: pins) σ H s := I.pins_of fun r hr => I.pin r (List.mem_append_right _ (by
  rcases List.mem_cons.mp hr with rfl | hr
  · simp
  · rcases List.mem_cons.mp hr with rfl | hr
    · simp
    · simp [hr]))
theorem drop_pin {p : Addr × Obj} (I : Inv X (p :: pins) σ H s) : Inv X pins σ H s := I.pins_of fun r hr => I.pin r (List.mem_append_right _ (List.mem_cons_of_mem _ hr))
def FirstMax (ks : List Int) (i : Nat) : Prop := ∃ n, ks[i]? = some n ∧ ∀ (j : Nat) (m : Int), ks[j]? = some m → m ≤ n ∧ (j < i → m < n)
theorem max_loop {xs : List V} {ks : List Int} {l q S J : Addr} {oq : Obj} {R : Result → Shared → Prop} (hh : X.A.handled = none) (hl : H l = some (.lst xs)) (hk : ks.length = xs.length)
    (hJ0 : X.s_0.heap.objs.size ≤ J) (hS0 : X.s_0.heap.objs.size ≤ S) (hSJ : S ≠ J) (hpJ : ∀ p ∈ X.pn ++ ((q, oq) :: pins), p.1 ≠ J) (hpS : ∀ p ∈ X.pn ++ ((q, oq) :: pins), p.1 ≠ S)
    (turn : ∀ (pins' : List (Addr × Obj)) (s : Shared) (i : Nat) (v : V) (u : Value) (n : Int), (q, oq) ∈ pins' → Inv X pins' σ H s → xs[i]? = some v → RelV v u → ks[i]? = some n →
      wpAny (model X.prog X.w) X.A.in1 (call (.ref q) [u]) (EP X pins' σ fun x H' => x = .int n ∧ H' = H) (fun _ _ => False) s)
    (hR : ∀ (s : Shared) (i : Nat) (v : V) (u : Value), Inv X pins σ H s → xs[i]? = some v → RelV v u → FirstMax ks i → R (.ok (.ret u)) s) :
    ∀ (r j i : Nat) (s : Shared) (v : V) (vb : Value) (n : Int) (tb : Tok) (c : Nat) (oJ : Obj), xs.length - (j + 1) = r → j + 1 ≤ xs.length → Inv X ((S, seqObj "list" #[vb, .int n tb] c) :: (J, oJ) :: (q, oq) :: pins) σ H s →
      oJ.cls = .type "list_iterator" → (∀ h : Heap, h.get? J = some oJ → h.IsListIter J l (j + 1)) → xs[i]? = some v → RelV v vb → ks[i]? = some n → i ≤ j → (∀ (j' : Nat) (m : Int), j' ≤ j → ks[j']? = some m → m ≤ n ∧ (j' < i → m < n)) →
      codeAny (model X.prog X.w) X.A (.builtin "max.loop" ⟨[.ref J, .ref q, .ref S], []⟩) R s := by
  have nm : (toString "max" ++ toString ".loop" : String) = "max.loop" := by decide
  have mem2 : ∀ {o : Obj} (p : Addr × Obj), p ∈ X.pn ++ ((J, o) :: (q, oq) :: pins) → p.1 ≠ S := fun p hp => by
    rcases List.mem_append.mp hp with z | z
    · exact hpS p (List.mem_append_left _ z)
    · rcases List.mem_cons.mp z with rfl | z
      · exact Ne.symm hSJ
      · exact hpS p (List.mem_append_right _ z)
  have mem1 : ∀ {o : Obj} (p : Addr × Obj), p ∈ X.pn ++ ((S, o) :: (q, oq) :: pins) → p.1 ≠ J := fun p hp => by
    rcases List.mem_append.mp hp with z | z
    · exact hpJ p (List.mem_append_left _ z)
    · rcases List.mem_cons.mp z with rfl | z
      · exact hSJ
      · exact hpJ p (List.mem_append_right _ z)
  intro r
  induction r with
  | zero =>
    intro j i s v vb n tb c oJ hr hj I hcl hit hv rv hn hij hbest
    have hin : j + 1 = xs.length := by omega
    obtain ⟨s1, _⟩ := I.pin (S, seqObj "list" #[vb, .int n tb] c) (by simp)
    obtain ⟨j1, j2, _⟩ := I.pin (J, oJ) (by simp)
    obtain ⟨_, its, nn, rs, hob⟩ := I.hok l _ hl
    have hlJ : l ≠ J := ne_of_none hl j2
    have W := Walks.list (prog := X.prog) (w := X.w) (A := X.A.in1) hh J l hlJ its.toArray
    have hsz : its.toArray.size = xs.length := by rw [List.size_toArray]; exact rs.length.symm
    refine codeAny_builtin PySem.F.entry_max_loop ?_
    rw [Around.under_plainId PySem.F.plain_max_loop _]
    show wpAny _ X.A.in1 (seqItems? (.ref S) >>= _) _ _ _
    refine wpAny_bind (wpAny_seqItems s1 rfl ?_)
    show wpAny _ X.A.in1 (tryCatch (pyNext (.ref J)) _ >>= _) _ _ _
    refine wpAny_bind (wpAny_tryCatch (W.done _ _ _ ⟨by rw [hsz, ← hin]; exact hit _ j1, ⟨_, hob, rfl, _, rfl⟩⟩ fun h' tk' hk' => ?_))
    have I1 : Inv X ((q, oq) :: (S, seqObj "list" #[vb, .int n tb] c) :: pins) σ H { s with heap := h', toks := tk' } := by
      have I0 := swap_pins I
      have I0 : Inv X ((S, seqObj "list" #[vb, .int n tb] c) :: (q, oq) :: pins) σ H s := drop_pin I0
      have z := I0.turned (t' := tk') (h' := h') (it := J) (fun b o hb e => hk' b o (by simpa using hb) e) j2 (I.pin (J, oJ) (by simp)).2.2.1 (.inr hJ0) (fun x c e z => by
        obtain ⟨w', ob, ho, hc⟩ := I.cell x c e
        rw [z, j1] at ho
        cases ho
        exact (I.pin (J, oJ) (by simp)).2.2.2.2 w' hc) mem1
      exact swap_pins z
    have hS' := (I1.pin (S, seqObj "list" #[vb, .int n tb] c) (by simp)).1
    show wpAny _ X.A.in1 (updateSeq S (fun _ => #[]) >>= _) _ _ _
    refine wpAny_bind ?_
    refine wpAny_updateSeq hS' rfl (wpAny_bind (wpAny_letGo (wpAny_pure ?_)))
    have s2 := Heap.SameBut.update h' S (Obj.mapSeq fun _ => (#[] : Array Value))
    have I2 := repin (t' := tk') (o' := seqObj "list" #[] (if ((#[] : Array Value)).size == (#[vb, .int n tb] : Array Value).size then c else c + 1)) (swap_pins I1) (fun b u hb e => s2.extBut b u hb e) (get?_update_seq hS' fun _ => #[]) hS0 (fun p hp => hpS p hp) (fun v z => by cases z)
    refine hR _ i v vb (drop_pin (drop_pin I2)) hv rv ⟨n, hn, fun j' m hm => ?_⟩
    have hjl := (List.getElem?_eq_some_iff.mp hm).1
    exact hbest j' m (by omega) hm
  | succ r ih =>
    intro j i s v vb n tb c oJ hr hj I hcl hit hv rv hn hij hbest
    have hlt : j + 1 < xs.length := by omega
    obtain ⟨s1, _⟩ := I.pin (S, seqObj "list" #[vb, .int n tb] c) (by simp)
    obtain ⟨j1, j2, _⟩ := I.pin (J, oJ) (by simp)
    obtain ⟨_, its, nn, rs, hob⟩ := I.hok l _ hl
    have hlJ : l ≠ J := ne_of_none hl j2
    have W := Walks.list (prog := X.prog) (w := X.w) (A := X.A.in1) hh J l hlJ its.toArray
    have hsz : its.toArray.size = xs.length := by rw [List.size_toArray]; exact rs.length.symm
    refine codeAny_builtin PySem.F.entry_max_loop ?_
    rw [Around.under_plainId PySem.F.plain_max_loop _]
    show wpAny _ X.A.in1 (seqItems? (.ref S) >>= _) _ _ _
    refine wpAny_bind (wpAny_seqItems s1 rfl ?_)
    show wpAny _ X.A.in1 (tryCatch (pyNext (.ref J)) _ >>= _) _ _ _
    refine wpAny_bind (wpAny_tryCatch (W.item (j + 1) _ _ _ (by rw [hsz]; exact hlt) ⟨hit _ j1, ⟨_, hob, rfl, _, rfl⟩⟩ fun u h' tk' hP hst hk' => ?_))
    have hu : its[j + 1]? = some u := by simpa using hP
    obtain ⟨oJ', hoJ, hoc, hod⟩ := id hst.1
    have I1 := repin (t' := tk') (o' := oJ') (swap_pins I) (fun b o hb e => hk' b o (by simpa using hb) e) hoJ hJ0 mem1 (fun v z => by rw [hod] at z; cases z)
    obtain ⟨x, hx⟩ : ∃ x, xs[j + 1]? = some x := ⟨_, List.getElem?_eq_getElem hlt⟩
    obtain ⟨u', hu', rx⟩ := rs.get hx
    rw [hu] at hu'
    cases hu'
    obtain ⟨m, hm⟩ : ∃ m, ks[j + 1]? = some m := ⟨_, List.getElem?_eq_getElem (by omega)⟩
    show wpAny _ X.A.in1 (tryCatch (holding [u] (call (.ref q) [u])) _ >>= _) _ _ _
    refine wpAny_bind (wpAny_tryCatch (wpAny_holding (wpAny_mono (turn _ _ (j + 1) x u m (by simp) I1 hx rx hm) (fun y s' he => ?_) fun _ _ hF => hF.elim)))
    obtain ⟨w', H', I2, ry, e1, e2⟩ := he
    subst e1
    subst e2
    obtain ⟨t2, rfl⟩ := ry
    have I2 := swap_pins I2
    obtain ⟨s3, _⟩ := I2.pin (S, seqObj "list" #[vb, .int n tb] c) (by simp)
    show wpAny _ X.A.in1 (tryCatch (holding [u, .int m t2] (richCompare .Gt (.int m t2) (.int n tb) >>= _)) _ >>= _) _ _ _
    refine wpAny_bind (wpAny_tryCatch (wpAny_holding (wpAny_bind (CmpOf.ints_gt (prog := X.prog) (w := X.w) (A := X.A.in1) (P := fun i v => ∃ t, v = .int (if i = 0 then m else n) t) (fun i => if i = 0 then m else n) (fun i v h => h) 0 1 _ _ _ _ _ ⟨t2, rfl⟩ ⟨tb, rfl⟩ ?_))))
    refine wpAny_bind (wpAny_holding (wpAny_truthy_bool ?_))
    refine wpAny_bind (wpAny_letGo (wpAny_pure ?_))
    by_cases hb : n < m
    · have hb1 : decide ((if (0 : Nat) = 0 then m else n) > (if (1 : Nat) = 0 then m else n)) = true := by simpa using hb
      rw [if_pos hb1]
      refine wpAny_bind ?_
      refine wpAny_updateSeq s3 rfl (wpAny_bind (wpAny_letGo ?_))
      rw [nm]
      have s4 := Heap.SameBut.update s'.heap S (Obj.mapSeq fun _ => #[u, .int m t2])
      have I3 := repin (t' := s'.toks) I2 (fun b u hb e => s4.extBut b u hb e) (get?_update_seq s3 fun _ => #[u, .int m t2]) hS0 mem2 (fun v z => by cases z)
      refine wpAny_pure ⟨plainId_quiet PySem.F.plain_max_loop _, ih (j + 1) (j + 1) _ x u m t2 _ oJ' (by omega) hlt I3 hoc (fun h e => ⟨oJ', e, hoc, hod⟩) hx rx hm (Nat.le_refl _) fun j' m' hj' hm' => ?_⟩
      by_cases e : j' = j + 1
      · subst e
        rw [hm] at hm'
        cases hm'
        exact ⟨Int.le_refl _, fun z => absurd z (Nat.lt_irrefl _)⟩
      · obtain ⟨z1, z2⟩ := hbest j' m' (by omega) hm'
        exact ⟨by omega, fun _ => by omega⟩
    · have hb1 : decide ((if (0 : Nat) = 0 then m else n) > (if (1 : Nat) = 0 then m else n)) = false := by simpa using hb
      rw [if_neg (fun z => Bool.noConfusion (hb1.symm.trans z))]
      refine wpAny_bind (wpAny_letGo ?_)
      rw [nm]
      refine wpAny_pure ⟨plainId_quiet PySem.F.plain_max_loop _, ih (j + 1) i _ v vb n tb _ oJ' (by omega) hlt I2 hoc (fun h e => ⟨oJ', e, hoc, hod⟩) hv rv hn (by omega) fun j' m' hj' hm' => ?_⟩
      by_cases e : j' = j + 1
      · subst e
        rw [hm] at hm'
        cases hm'
        exact ⟨by omega, fun z => by omega⟩
      · exact hbest j' m' (by omega) hm'
end
section
variable {X : Cx} {pins : List (Addr × Obj)} {σ : L2.St} {H : Hp} {s : Shared}
theorem call_maxKey {xs : List V} {ks : List Int} {l q : Addr} {oq : Obj} {Q : VK} {E : Value → Shared → Prop} (I : Inv X ((q, oq) :: pins) σ H s) (hh : X.A.handled = none) (hl : H l = some (.lst xs)) (hne : xs ≠ []) (hk : ks.length = xs.length)
    (turn : ∀ (pins' : List (Addr × Obj)) (s : Shared) (i : Nat) (v : V) (u : Value) (n : Int), (q, oq) ∈ pins' → Inv X pins' σ H s → xs[i]? = some v → RelV v u → ks[i]? = some n →
      wpAny (model X.prog X.w) X.A.in1 (call (.ref q) [u]) (EP X pins' σ fun x H' => x = .int n ∧ H' = H) (fun _ _ => False) s)
    (hQ : ∀ (i : Nat) (v : V), xs[i]? = some v → FirstMax ks i → Q v H) : wpAny (model X.prog X.w) X.A (call (.builtin "max") [.ref l] [(Str.ofString "key", .ref q)]) (EP X pins σ Q) E s := by
  have nm : (toString "max" ++ toString ".loop" : String) = "max.loop" := by decide
  have pos := List.length_pos_iff.mpr hne
  obtain ⟨_, its, nn, rs, hob⟩ := I.hok l _ hl
  refine PyProof.Rows.kmk_tree PySem.F.kind_max PySem.F.plain_max PySem.F.entry_max (PyProof.Rows.kmk_max_key _ _) ?_
  show wpAny _ X.A.in1 (Builtin.Builtins.bindParams "max" ["key", "default"] 0 ⟨[], [(Str.ofString "key", .ref q)]⟩ >>= _) _ _ s
  refine wpAny_bind (wpAny_of_eq (show Builtin.Builtins.bindParams "max" ["key", "default"] 0 ⟨[], [(Str.ofString "key", .ref q)]⟩ = pure [some (.ref q), none] from rfl) ?_)
  refine wpAny_bind (wpAny_pure ?_)
  refine wpAny_bind (wpAny_pyIter_list ⟨_, hob, rfl, _, rfl⟩ ?_)
  refine wpAny_bind (wpAny_newList ?_ (Nat.zero_le _))
  rw [nm]
  obtain ⟨J, eJ⟩ : ∃ J, J = s.heap.objs.size := ⟨_, rfl⟩
  obtain ⟨h1, eh1⟩ : ∃ h1, h1 = s.heap.push { cls := .type "list_iterator", data := .fields #[.ref l, .int 0 0] } := ⟨_, rfl⟩
  have hS : h1.objs.size = J + 1 := by rw [eh1, eJ]; exact size_push' ..
  rw [← eh1, ← eJ]
  obtain ⟨h2, eh2⟩ : ∃ h2, h2 = h1.push { cls := .type "list", data := .seq ([] : List Value).toArray } := ⟨_, rfl⟩
  rw [← eh2, hS]
  have kp : ∀ b o, s.heap.get? b = some o → h2.get? b = some o := fun b o e => by
    rw [eh2, eh1]
    exact Heap.get?_push_of_some _ (Heap.get?_push_of_some _ e)
  have gJ : h2.get? J = some { cls := .type "list_iterator", data := .fields #[.ref l, .int 0 0] } := by
    rw [eh2, eh1, eJ]
    exact Heap.get?_push_of_some _ (Heap.get?_push_size _ rfl)
  have gS : h2.get? (J + 1) = some (seqObj "list" #[] 0) := by
    rw [eh2, ← hS]
    exact Heap.get?_push_size _ rfl
  have I1 : Inv X ((q, oq) :: pins) σ H { s with heap := h2 } := I.kept (t' := s.toks) kp
  have sz : X.s_0.heap.objs.size ≤ J := eJ ▸ I.sz
  have pl : ∀ p ∈ X.pn ++ ((q, oq) :: pins), p.1 < J := fun p hp => eJ ▸ Heap.lt_size (I.pin p hp).1
  have pJ : ∀ p ∈ X.pn ++ ((q, oq) :: pins), p.1 ≠ J := fun p hp => Nat.ne_of_lt (pl p hp)
  have pS : ∀ p ∈ X.pn ++ ((q, oq) :: pins), p.1 ≠ J + 1 := fun p hp => Nat.ne_of_lt (Nat.lt_succ_of_lt (pl p hp))
  have nJ : H J = none := I.hok.fresh (by rw [eJ]; exact Nat.le_refl _)
  have nS : H (J + 1) = none := I.hok.fresh (by rw [eJ]; exact Nat.le_succ _)
  have Lt : X.env.locals < J := eJ ▸ I.lt
  have I2 : Inv X ((J + 1, seqObj "list" #[] 0) :: (J, { cls := .type "list_iterator", data := .fields #[.ref l, .int 0 0] }) :: (q, oq) :: pins) σ H { s with heap := h2 } := I1.pins_of fun p hp => by
    rcases List.mem_cons.mp hp with rfl | hp
    · exact ⟨gS, nS, Nat.ne_of_gt (Nat.lt_succ_of_lt Lt), I.nofs (by rw [eJ]; exact Nat.le_succ _), fun v z => by cases z⟩
    · rcases List.mem_cons.mp hp with rfl | hp
      · exact ⟨gJ, nJ, Nat.ne_of_gt Lt, I.nofs (by rw [eJ]; exact Nat.le_refl _), fun v z => by cases z⟩
      · exact I1.pin p (List.mem_append_right _ hp)
  refine wpAny_pure ⟨plainId_quiet PySem.F.plain_max_loop _, ?_⟩
  have hlJ : l ≠ J := ne_of_none hl nJ
  have W := Walks.list (prog := X.prog) (w := X.w) (A := X.A.in1) hh J l hlJ its.toArray
  have hsz : its.toArray.size = xs.length := by rw [List.size_toArray]; exact rs.length.symm
  refine codeAny_builtin PySem.F.entry_max_loop ?_
  rw [Around.under_plainId PySem.F.plain_max_loop _]
  show wpAny _ X.A.in1 (seqItems? (.ref (J + 1)) >>= _) _ _ _
  refine wpAny_bind (wpAny_seqItems gS rfl ?_)
  show wpAny _ X.A.in1 (tryCatch (pyNext (.ref J)) _ >>= _) _ _ _
  refine wpAny_bind (wpAny_tryCatch (W.item 0 _ _ _ (by rw [hsz]; exact pos) ⟨⟨_, gJ, rfl, rfl⟩, ⟨_, kp _ _ hob, rfl, _, rfl⟩⟩ fun u h' tk' hP hst hk' => ?_))
  have hu : its[0]? = some u := by simpa using hP
  obtain ⟨oJ', hoJ, hoc, hod⟩ := id hst.1
  have m1 : ∀ {o : Obj} (p : Addr × Obj), p ∈ X.pn ++ ((J + 1, o) :: (q, oq) :: pins) → p.1 ≠ J := fun p hp => by
    rcases List.mem_append.mp hp with z | z
    · exact pJ p (List.mem_append_left _ z)
    · rcases List.mem_cons.mp z with rfl | z
      · exact Nat.succ_ne_self J
      · exact pJ p (List.mem_append_right _ z)
  have m2 : ∀ {o : Obj} (p : Addr × Obj), p ∈ X.pn ++ ((J, o) :: (q, oq) :: pins) → p.1 ≠ J + 1 := fun p hp => by
    rcases List.mem_append.mp hp with z | z
    · exact pS p (List.mem_append_left _ z)
    · rcases List.mem_cons.mp z with rfl | z
      · exact Ne.symm (Nat.succ_ne_self J)
      · exact pS p (List.mem_append_right _ z)
  have I3 := repin (t' := tk') (o' := oJ') (swap_pins I2) (fun b o hb e => hk' b o (by simpa using hb) e) hoJ sz m1 (fun v z => by rw [hod] at z; cases z)
  obtain ⟨x, hx⟩ : ∃ x, xs[0]? = some x := ⟨_, List.getElem?_eq_getElem pos⟩
  obtain ⟨u', hu', rx⟩ := rs.get hx
  rw [hu] at hu'
  cases hu'
  obtain ⟨m, hm⟩ : ∃ m, ks[0]? = some m := ⟨_, List.getElem?_eq_getElem (by omega)⟩
  show wpAny _ X.A.in1 (tryCatch (holding [u] (call (.ref q) [u])) _ >>= _) _ _ _
  refine wpAny_bind (wpAny_tryCatch (wpAny_holding (wpAny_mono (turn _ _ 0 x u m (by simp) I3 hx rx hm) (fun y s' he => ?_) fun _ _ hF => hF.elim)))
  obtain ⟨w', H', I4, ry, e1, e2⟩ := he
  subst e1
  subst e2
  obtain ⟨t2, rfl⟩ := ry
  have I4 := swap_pins I4
  obtain ⟨s3, _⟩ := I4.pin (J + 1, seqObj "list" #[] 0) (by simp)
  show wpAny _ X.A.in1 (updateSeq (J + 1) (fun _ => #[u, .int m t2]) >>= _) _ _ _
  refine wpAny_bind ?_
  refine wpAny_updateSeq s3 rfl ?_
  rw [nm]
  have s4 := Heap.SameBut.update s'.heap (J + 1) (Obj.mapSeq fun _ => #[u, .int m t2])
  have I5 := repin (t' := s'.toks) I4 (fun b u hb e => s4.extBut b u hb e) (get?_update_seq s3 fun _ => #[u, .int m t2]) (Nat.le_succ_of_le sz) m2 (fun v z => by cases z)
  refine wpAny_pure ⟨plainId_quiet PySem.F.plain_max_loop _, max_loop (pins := pins) (q := q) (oq := oq) hh hl hk sz (Nat.le_succ_of_le sz) (Nat.succ_ne_self J) pJ pS turn (fun s i v u I hv rv hf => ⟨v, H', I, rv, hQ i v hv hf⟩) _ 0 0 _ x u m t2 _ oJ' rfl pos I5 hoc (fun h e => ⟨oJ', e, hoc, hod⟩) hx rx hm (Nat.le_refl _) fun j' m' hj' hm' => ?_⟩
  have e : j' = 0 := by omega
  subst e
  rw [hm] at hm'
  cases hm'
  exact ⟨Int.le_refl _, fun z => absurd z (Nat.lt_irrefl _)⟩
def pMaxL (T : List (Addr × Str)) (tb : TE) (i : Nat) (σ : L2.St) (Q : VK) (x : V) (H1 : Hp) : Prop := ∃ (l : Addr) (xs : List V) (ks : List Int), x = .ref l ∧ H1 l = some (.lst xs) ∧ xs ≠ [] ∧ ks.length = xs.length ∧ Tabs T H1 ∧
  ∀ H2, ExtN H1 H2 → Tabs T H2 → (∀ (j : Nat) (v : V) (n : Int), xs[j]? = some v → ks[j]? = some n → tb (σ.set i (some v)) H2 fun y H3 => y = .int n ∧ H3 = H2) ∧ ∀ (j : Nat) (v : V), xs[j]? = some v → FirstMax ks j → Q v H2
def tMaxL (T : List (Addr × Str)) (te tb : TE) (i : Nat) : TE := fun σ H Q => te σ H (pMaxL T tb i σ Q)
theorem pe_maxLam {T : List (Addr × Str)} {c P : Addr} {e : Expr} {te tb : TE} {params : Arguments} {body : Expr} {scope : Scope} {p lpos kpos pos : Pos} {u : Str} {i k : Nat} (hcalm : X.calm = true) (hg : Gl X "max") (hm : X.mg "max" = none) (ha : PA X [e] (tCons te tNil))
    (TB : TabB X.base X.mg c P) (hcode : X.env.code = .ref c) (hmT : (P, X.env.qual ++ "<lambda>") ∈ T) (hu : ∀ p ∈ T, p.1 = P → p.2 = X.env.qual ++ "<lambda>") (hr : Room (k + 2) X.A) (L : Lam1 X.env.scope scope u) (hi : X.N[i]? = some u) (hN : X.N.Nodup)
    (hdef : defaultsOf params X.env = ([], []))
    (hbind : ∀ (q : Str) (cl : List (Str × Addr)) (pm cv ctv v : Value), bindArgs (PySem.W.kla_fn "<lambda>" q params body scope cl pm cv ctv) ⟨[v], []⟩ = pure [(u, v)])
    (hbody : ∀ (A : Around) (outer : List Env) (s : Shared) (H : Hp) (f c' : Addr), Room k (A.deeper (lamEnv X scope s.heap.objs.size f c')) → PE (lamCx X A outer s H (fun _ _ _ => False) scope f c') body tb)
    (hs : backTo pos (starEach [e] X.env) = (false, eval e X.env) :: backTo pos (starEach [] X.env) := by rfl) (hpl : (backTo pos (starEach [e] X.env)).any (·.1) = false := by rfl) :
    PE X (.Call (.Name "max" p) [e] [⟨some "key", .Lambda params body scope lpos, kpos⟩] pos) (tMaxL T te tb i) := by
  refine ⟨fun pins s σ H Q I h => ?_⟩
  refine wpAny_Call_Name_kw (ld_blt (u := .builtin "max") I hg hm (by decide +kernel) ?_ (by decide) (by decide))
  refine PyProof.Rows.callWith_kw (thn (ha.run pos pins s σ H (fun vs H1 => pMaxL T tb i σ Q (vs.headD .non) H1 ∧ vs.length = 1) I ?_) fun us s1 ⟨vs, H1, I1, r1, q1, q2⟩ => ?_) hs hpl (by rfl) (by rfl)
  · show te σ H fun x H1 => pMaxL T tb i σ Q x H1 ∧ 1 = 1
    have z : (fun x H1 => pMaxL T tb i σ Q x H1 ∧ 1 = 1) = pMaxL T tb i σ Q := by
      funext x H1
      simp
    rw [z]
    exact h
  · cases r1 with
    | nil => cases q2
    | cons r r' =>
      cases r' with
      | cons _ _ => cases q2
      | nil =>
        obtain ⟨l, xs, ks, ex, hl, hne, hk, hT, q⟩ := q1
        have ex : _ = V.ref l := ex
        subst ex
        obtain rfl := (show _ = Value.ref l from r)
        show wpAny _ _ (evalAll [do let v ← eval (.Lambda params body scope lpos) X.env; standAt pos; pure v]) _ _ _
        refine wpAny_evalAll_cons (wpAny_bind (lam_make2 I1 TB hcode hmT hu hT hdef (L.has I1.ok) fun f c' pm ctv H2 s2 I2 eN T2 hf hfn hfr hco => wpAny_bind (wpAny_standAt (wpAny_pure (wpAny_evalAll_nil ?_)))))
        obtain ⟨q1, q2⟩ := q H2 eN T2
        have hl2 : H2 l = some (.lst xs) := eN _ _ hl (fun ps z => by cases z)
        have I3 : Inv X ((f, PySem.W.kla_obj "<lambda>" (X.env.qual ++ "<lambda>") params body scope (cloFrom X.env.cells scope.names []) pm c' ctv) :: pins) σ H2 s2 := I2.pins_of fun p hp => by
          rcases List.mem_cons.mp hp with rfl | hp
          · refine ⟨hf, hfn, fun z => ?_, fun z => ?_, fun v z => by cases z⟩
            · obtain ⟨m, ⟨o, es, ep, ho, hd, _⟩, _⟩ := I2.loc
              have z : f = X.env.locals := z
              rw [← z, hf] at ho
              cases ho
              cases hd
            · rcases I2.ok.stk with e' | ⟨e', _⟩
              · exact hfr (by rw [e']; exact z)
              · refine hfr ?_
                rw [e']
                unfold frs
                rw [List.filterMap_cons]
                split
                · exact z
                · exact List.mem_cons_of_mem _ z
          · exact I2.pin p (List.mem_append_right _ hp)
        refine call_maxKey I3 (I2.ok.hd hcalm) hl2 hne hk (fun pins' s i' v u' n hq J hv rv hn => ?_) q2
        have hc2 := hco
        exact thn (lam1_call (Q := fun y H3 => y = .int n ∧ H3 = H2) J L hi hN rv (J.pin _ (List.mem_append_right _ hq)).1 hc2 hr (hbind _ _ _ _ _ _) (fun A outer s H => hbody A outer s H f c') (q1 i' v n hv hn)) fun a s hq => hq
end
def CodeIs (K : PySem.W.Frag) (f c : Addr) : Prop := ∀ (oc : Value) (od : Option Addr) (fd : FuncData) (osl : Array (Option Value)), K.lookup f = some ⟨oc, od, .func fd, osl⟩ → fd.code = .ref c
section
variable {P : Program} {w : World} {K : PySem.W.Frag} {mg : Str → Option Value} {base : Heap} {CX : CXT} {k : Nat} {f c : Addr} {fd : FuncData} {ps N : List Str} {sp : Sp} {x qual : Str} {params : Arguments} {body : List Stmt} {scope : Scope} {dvs : List V} {kws : List (Str × V)}
theorem okC (F : FunD K x qual params body scope dvs kws f fd) (S : FnScope N ps scope) (hc : CodeIs K f c) (len : ∀ vs H Q E, sp vs H Q E → vs.length = ps.length)
    (hbody : ∀ (A : Around) (outer : List Env) (s : Shared) (H : Hp) (vs : List V) (Q : VK) (E : XK), Room k (A.deeper (envOfC qual scope s.heap.objs.size f (.ref c))) → sp vs H Q E →
      ∃ t, PSs (cxOf CX P w K mg base N qual scope f (.ref c) A outer s H E) body t ∧ t { nx := fun _ H' => Q .non H', rt := Q } (L2.start N vs) H) : FnOk P w K mg base CX (k + 1) f fd ps sp := by
  obtain ⟨oc, od, dV, kV, doc, pm, an, cdv, ct, osl, rfl, lk, hcd, _, _⟩ := F.ex
  have e : cdv = .ref c := hc _ _ _ _ lk
  subst e
  refine ⟨len, fun A outer s H args us vs Q E hr e0 hb rel hsp => ?_⟩
  exact run_ofS lk hcd S hr e0 hb rel (len _ _ _ _ hsp) fun hr' => hbody A outer s H vs Q E hr' hsp
end
end WkL
namespace WkJ
open PySem PySem.Spec PyProof.Rows L2 LamX
abbrev FnA : Type := Option (Str × Str × Arguments × FuncBody × Scope × Addr × List Str × Addr)
def fnA (K : PySem.W.Frag) (a : Addr) : FnA := match K.lookup a with
  | some ⟨_, _, .func fd, _⟩ => some (fd.name, fd.qualname, fd.params, fd.body, fd.scope, fd.globals, fd.closure.map (·.1), fd.builtins)
  | _ => none
structure DefA where
  at_ : PySem.W.Frag → Addr
  name : Str
  qual : Str
  params : Arguments
  body : List Stmt
  scope : Scope
  clo : List Str := []
  dfl : List He.Dv := []
  kwd : List (Str × He.Dv) := []
def DefA.val (d : DefA) : FnA := some (d.name, d.qual, d.params, .stmts d.body, d.scope, mainGlobals, d.clo, builtinsNs)
def DefA.dvs (K : PySem.W.Frag) (d : DefA) : List V := d.dfl.map (He.Dv.v K)
def DefA.kws (K : PySem.W.Frag) (d : DefA) : List (Str × V) := d.kwd.map fun q => (q.1, q.2.v K)
def DefA.ok (K : PySem.W.Frag) (d : DefA) : Bool := PySem.W.keepIn K (.ref (d.at_ K)) && (match K.lookup (d.at_ K) with
  | some ⟨_, _, .func fd, _⟩ => PySem.W.codeIn K fd.code d.qual && (He.dflB K fd.defaults (d.dvs K) && He.kwdB K fd.kwdefaults (d.kws K))
  | _ => false)
structure FunC (K : PySem.W.Frag) (d : DefA) (fd : FuncData) : Prop where
  ex : ∃ (oc : Value) (od : Option Addr) (dV kV doc pm : Value) (an : Option Addr) (cdv ct : Value) (osl : Array (Option Value)) (cl : List (Str × Addr)),
    fd = ⟨d.name, d.qual, d.params, .stmts d.body, d.scope, mainGlobals, cl, dV, kV, doc, pm, an, cdv, ct, builtinsNs⟩ ∧ cl.map (·.1) = d.clo ∧ K.lookup (d.at_ K) = some ⟨oc, od, .func fd, osl⟩ ∧ PySem.W.codeIn K cdv d.qual = true ∧ DflV K dV (d.dvs K) ∧ KwdV K kV (d.kws K)
  kp : PySem.W.keepIn K (.ref (d.at_ K)) = true
theorem DefA.funC {K : PySem.W.Frag} {d : DefA} (e : fnA K (d.at_ K) = d.val) (c : d.ok K = true) : ∃ fd, FunC K d fd := by
  obtain ⟨kp, c2⟩ := He.ba c
  unfold fnA at e
  cases q : K.lookup (d.at_ K) with
  | none =>
    rw [q] at c2
    cases c2
  | some o =>
    obtain ⟨oc, od, dt, osl⟩ := o
    rw [q] at c2 e
    cases dt with
    | func fd =>
      obtain ⟨n1, n2, n3, n4, n5, n6, n7, n8, n9, n10, n11, n12, n13, n14, n15⟩ := fd
      have e2 : (some (n1, n2, n3, n4, n5, n6, n7.map (·.1), n15) : FnA) = some (d.name, d.qual, d.params, .stmts d.body, d.scope, mainGlobals, d.clo, builtinsNs) := e
      simp only [Option.some.injEq, Prod.mk.injEq] at e2
      obtain ⟨h1, h2, h3, h4, h5, h6, h7, h8⟩ := e2
      subst h1 h2 h3 h4 h5 h6 h8
      have c3 : (PySem.W.codeIn K n13 d.qual && (He.dflB K n8 (d.dvs K) && He.kwdB K n9 (d.kws K))) = true := c2
      obtain ⟨k1, k2⟩ := He.ba c3
      obtain ⟨k3, k4⟩ := He.ba k2
      exact ⟨_, ⟨oc, od, n8, n9, n10, n11, n12, n13, n14, osl, n7, rfl, h7, q, k1, He.dflB_ok k3, He.kwdB_ok k4⟩, kp⟩
    | _ => cases c2
theorem FunC.funD {K : PySem.W.Frag} {d : DefA} {fd : FuncData} (h : FunC K d fd) (hc : d.clo = []) : FunD K d.name d.qual d.params d.body d.scope (d.dvs K) (d.kws K) (d.at_ K) fd := by
  obtain ⟨oc, od, dV, kV, doc, pm, an, cdv, ct, osl, cl, rfl, e, lk, cd, h1, h2⟩ := h.ex
  rw [hc] at e
  have e := List.map_eq_nil_iff.mp e
  subst e
  exact ⟨⟨oc, od, dV, kV, doc, pm, an, cdv, ct, osl, rfl, lk, cd, h1, h2⟩, h.kp⟩
structure Says (fa : List He.Fa) (da : List DefA) (tf : List He.Defn) (ex : PySem.W.Frag → Bool) (h : Heap) (K : PySem.W.Frag) : Prop where
  fact : ∀ f ∈ fa, f.ok K = true
  defs : ∀ d ∈ da, ∃ fd, FunC K d fd
  ex : ex K = true
  hd : ∀ p ∈ tf, PySem.W.codeHdIn K (He.cT K p).1 (He.cT K p).2 = true
  out : ∀ p ∈ tf, K.lookup (He.cT K p).2 = none
  emp : ∀ p ∈ tf, h.get? (He.cT K p).2 = some { cls := .none, data := .fields #[] }
abbrev Al : Type := Bool × List FnA
def conB (K : PySem.W.Frag) (C : Addr) (f : Str) (i : Int) : Bool := match PySem.W.findIn K (.ref C) f with
  | some (some (.int j t)) => decide (j = i) && He.eqO (PySem.W.specialIn K (.int j t) "__get__") (some none)
  | _ => false
theorem conB_ok {K : PySem.W.Frag} {C : Addr} {f : Str} {i : Int} (h : conB K C f i = true) (hc : PySem.W.copiedNames.contains f = false := by decide +kernel) : ∃ u, Con K C f (.int i) u := by
  unfold conB at h
  split at h
  · rename_i j t e
    obtain ⟨h1, h2⟩ := He.ba h
    have ej := of_decide_eq_true h1
    subst ej
    exact ⟨_, e, ⟨t, rfl⟩, He.eqO_ok h2, hc⟩
  · cases h
def prA (K : PySem.W.Frag) (C : Addr) (f : Str) : Addr := He.ma K C f
def geA (K : PySem.W.Frag) (C : Addr) (f : Str) : Addr := match PySem.W.recIn K (prA K C f) "property" with
  | some (.ref g :: _) => g
  | _ => 0
def propB (K : PySem.W.Frag) (C : Addr) (f : Str) : Bool := He.eqO (PySem.W.findIn K (.ref C) f) (some (some (.ref (prA K C f)))) && (He.eqO (PySem.W.specialIn K (.ref (prA K C f)) "__get__") (some (some (.builtin "property.__get__"))) && (decide (PySem.W.takesIn K (.ref (prA K C f)) = some true) &&
  (match PySem.W.recIn K (prA K C f) "property" with
  | some (.ref _ :: _) => true
  | _ => false)))
theorem propB_ok {K : PySem.W.Frag} {C : Addr} {f : Str} (h : propB K C f = true) : PropOf K C f (prA K C f) (geA K C f) := by
  obtain ⟨h1, h⟩ := He.ba h
  obtain ⟨h2, h⟩ := He.ba h
  obtain ⟨h3, h4⟩ := He.ba h
  refine ⟨He.eqO_ok h1, He.eqO_ok h2, of_decide_eq_true h3, ?_⟩
  unfold geA
  split at h4
  · rename_i g r e
    rw [e]
    exact ⟨r, rfl⟩
  · cases h4
def supB (P : Program) (K : PySem.W.Frag) (D : Addr) (f : Addr) : Bool := match K.lookup f with
  | some ⟨_, _, .func fd, _⟩ => (match fd.closure with
    | [(_, cc)] => (match K.lookup cc with
      | some ⟨_, _, .cell (some (.ref E)), _⟩ => decide (E = D)
      | _ => false)
    | _ => false) && (match fd.code with
    | .ref cda => (match K.lookup cda with
      | some ⟨_, _, .fields vs, _⟩ => (match (vs[2]? : Option Value) with
        | some (.str file _) => (P.main.file : Str) == file
        | _ => false)
      | _ => false)
    | _ => false)
  | _ => false
theorem supT_of {P : Program} {K : PySem.W.Frag} {mg : Str → Option Value} {ps : List Str} {D : Addr} {d : DefA} {fd : FuncData} (h : FunC K d fd) (hc : d.clo = [("__class__" : Str)]) (hb : supB P K D (d.at_ K) = true) (hD : (PySem.W.clsIn K D).isSome = true) (ns : mg "super" = none) (tp : (P.main.scope.names.lookup ("super" : Str)).isSome = false)
    (hp : ∃ ar : Arg, (d.params.posonlyargs ++ d.params.args).head? = some ar ∧ ps[0]? = some ar.arg) (na : PySem.W.nsIn K cStatics "thirdparty.any" = some none) :
    fd.body = .stmts d.body ∧ ∃ cc cda, WkS.SupT P K mg ps D (d.at_ K) cc cda d.qual d.params d.scope fd := by
  obtain ⟨oc, od, dV, kV, doc, pm, an, cdv, ct, osl, cl, rfl, e, lk, cd, h1, h2⟩ := h.ex
  refine ⟨rfl, ?_⟩
  unfold supB at hb
  rw [lk] at hb
  obtain ⟨b1, b2⟩ := He.ba hb
  rw [hc] at e
  match cl, e with
  | [(n, cc)], e =>
    have en : n = "__class__" := by simpa using e
    subst en
    have b1 : (match K.lookup cc with
      | some ⟨_, _, .cell (some (.ref E)), _⟩ => decide (E = D)
      | _ => false) = true := b1
    split at b1
    · rename_i c1 c2 E c3 ec
      have eE := of_decide_eq_true b1
      subst eE
      cases cdv with
      | ref cda =>
        have b2 : (match K.lookup cda with
          | some ⟨_, _, .fields vs, _⟩ => (match (vs[2]? : Option Value) with
            | some (.str file _) => (P.main.file : Str) == file
            | _ => false)
          | _ => false) = true := b2
        split at b2
        · rename_i f1 f2 vs f3 ef
          split at b2
          · rename_i file tf ev
            obtain ⟨cdD, hD⟩ := Option.isSome_iff_exists.mp hD
            exact ⟨cc, cda, ⟨_, _, dV, kV, doc, pm, an, ct, oc, od, osl, rfl, lk⟩, cd, ⟨f1, f2, vs, f3, file, tf, ef, ev, b2⟩, ⟨c1, c2, c3, ec⟩, ⟨cdD, hD⟩, ns, tp, hp, na⟩
          · cases b2
        · cases b2
      | _ => cases b2
    · cases b1
theorem FunC.binds {K : PySem.W.Frag} {d : DefA} {fd : FuncData} {ps : List Str} (F : FunC K d fd) (hd : d.dfl = []) (h : ∀ (kV doc pm : Value) (an : Option Addr) (cdv ct : Value) (cl : List (Str × Addr)) (us : List Value), us.length = ps.length → bindArgs ⟨d.name, d.qual, d.params, .stmts d.body, d.scope, mainGlobals, cl, .none, kV, doc, pm, an, cdv, ct, builtinsNs⟩ ⟨us, []⟩ = pure (ps.zip us)) : Binds K fd ps [] := by
  obtain ⟨oc, od, dV, kV, doc, pm, an, cdv, ct, osl, cl, rfl, e, lk, cd, h1, h2⟩ := F.ex
  unfold DefA.dvs at h1
  rw [hd] at h1
  rcases h1 with ⟨_, rfl⟩ | ⟨z, _⟩
  · exact .all (h kV doc pm an cdv ct cl)
  · exact absurd rfl z
theorem codeIs_of {K : PySem.W.Frag} {p : He.Defn} : (∀ (oc : Value) (od : Option Addr) (fd : FuncData) (osl : Array (Option Value)), K.lookup (He.fAd K p) = some ⟨oc, od, .func fd, osl⟩ → PySem.W.codeIn K fd.code fd.qualname = true) → WkL.CodeIs K (He.fAd K p) (He.cT K p).1 := fun h oc od fd osl lk => by
  obtain ⟨c, ec⟩ := He.codeIn_ref (h oc od fd osl lk)
  rw [ec]
  congr 1
  exact (He.codeOf_eq lk ec).symm
end WkJ
namespace WkX
open PySem PySem.W PySem.Calls PyProof.Rows PySem.HandSPX Builtin
structure Tail (B : String) (bm : List Value) : Prop where
  b : bm.contains (.type B) = true
  a : bm.contains (.type "AttributeError") = false
  n : bm.contains (.type "NameError") = false
section
variable {prog : Program} {w : World} {A : Around} {E : Value → Shared → Prop} {R : Result → Shared → Prop} {hp : Heap} {gn : Array GenState} {dr : Drawn} {tk : Nat} {os : OsState}
variable {nm qn : Str} {C N : Addr} {bs bm bmB : List Value} {hdc : Bool} {sn : List Str} {sub : List Value} {ab : Bool} {col : Option Bool} {dd : Option Addr} {k0 k1 k2 k3 k5 : Option Value} {B newId initId : String}
theorem check_new {M : Model} (F : ExcBaseFacts B newId initId bmB) (T : Tail B bm) {us : List Value} {kw : List (Str × Value)} {Q : Unit → Shared → Prop} (hC : hp.get? C = some (excClassObj nm qn C N bs bm hdc sn sub ab col dd k0 k1 k2 k3 k5 newId))
    (hq : Q () ⟨hp, gn, dr, tk, os⟩) : wpAny M A (checkBuiltinCall newId ⟨.ref C :: us, kw⟩) Q E ⟨hp, gn, dr, tk, os⟩ := by
  have c1 : (Value.ref C :: bm).contains (.type B) = true := by rw [List.contains_cons, T.b, Bool.or_true]
  have c2 := F.noStar
  simp only [checkBuiltinCall, F.newKind, F.newSplit, F.newRow]
  repeat (first | refine wpAny_loadPart_at hC ?_ | (refine wpAny_isSubtype_exc hC ?_; rw [c1]) | refine wpAny_staticBase_exc hC ?_ | refine wpAny_madeBy_exc hC ?_ | simp only [bne_self_eq_false, Bool.false_eq_true, if_false] | wp_step)
  exact hq
theorem new_ {us : List Value} {kw : List (Str × Value)} (F : ExcBaseFacts B newId initId bmB) (T : Tail B bm) (hC : hp.get? C = some (excClassObj nm qn C N bs bm hdc sn sub ab col dd k0 k1 k2 k3 k5 newId))
    (hq : R (.ok (.ret (.ref (hp.objs.size + 1)))) ⟨(hp.push (kdv_tup us)).push (excO C hp.objs.size), gn, dr, tk, os⟩) (hl : us.length ≤ sizeLine) :
    codeAny (model prog w) A (.builtin newId ⟨.ref C :: us, kw⟩) R ⟨hp, gn, dr, tk, os⟩ := by
  have c0 := F.ends
  have c1 : (Value.ref C :: bm).contains (.type B) = true := by rw [List.contains_cons, T.b, Bool.or_true]
  have c2 : (Value.ref C :: bm).contains (.type "AttributeError") = false := by rw [List.contains_cons, T.a]; rfl
  have c3 : (Value.ref C :: bm).contains (.type "NameError") = false := by rw [List.contains_cons, T.n]; rfl
  refine codeAny_builtinAt F.entry ?_
  unfold Builtin.«BaseException.__new__»
  refine PySem.wpAt_bind ?_
  show PySem.wpAt _ _ _ (stack >>= _) _ _ _
  refine PySem.wpAt_bind (PySem.wpAt_stack fun p below => PySem.wpAt_of_wpAny ?_)
  wp_walk
  refine PySem.wpAt_of_wpAny ?_
  rw [F.owner]
  repeat (first | with_reducible refine wpAny_madeHere_exc F.canon hC ?_ | with_reducible refine wpAny_loadPart_at hC ?_ | (with_reducible refine wpAny_isSubtype_exc hC ?_; first | rw [c1] | rw [c2] | rw [c3]) | wp_step)
  show R _ _
  rw [Heap.size_push]
  exact hq
theorem tcall {us : List Value} {kw : List (Str × Value)} {fI : Addr} {Q : Fin → Shared → Prop} (F : ExcBaseFacts B newId initId bmB) (T : Tail B bm) (hC : hp.get? C = some (excClassObj nm qn C N bs bm hdc sn sub ab col dd k0 k1 k2 k3 k5 newId))
    (hi : Looks (model prog w) hp (typeLookup (.ref C) "__init__") (some (.ref fI))) (hb : ∀ x, Looks (model prog w) hp (bindSpecial (.ref fI) x) (.ref fI, [x])) (hl : us.length ≤ sizeLine)
    (hq : codeAny (model prog w) A (.call (.ref fI) ⟨.ref (hp.objs.size + 1) :: us, kw⟩)
      (fun r s' => match r with | .ok (.ret v) => v = .none ∧ Q (.done (.ret (.ref (hp.objs.size + 1)))) s' | .ok _ => False | .error e => E e s') ⟨(hp.push (kdv_tup us)).push (excO C hp.objs.size), gn, dr, tk, os⟩) :
    wpAny (model prog w) A (Builtin.«type.__call__» ⟨.ref C :: us, kw⟩) Q E ⟨hp, gn, dr, tk, os⟩ := by
  repeat (first | with_reducible refine wpAny_loadPart_at hC ?_ | with_reducible refine wpAny_madeBy_exc hC ?_ | wp_step)
  refine codeAny_call_builtin_code (Code.quiet_builtin _ F.quiet) (check_new F T hC ?_)
  refine new_ F T hC ?_ hl
  show wpAny _ _ _ _ _ _
  have k : ∀ b o, hp.get? b = some o → ((hp.push (kdv_tup us)).push (excO C hp.objs.size)).get? b = some o := fun b o e => Heap.get?_push_of_some _ (Heap.get?_push_of_some _ e)
  have hC' := k _ _ hC
  have hg : ((hp.push (kdv_tup us)).push (excO C hp.objs.size)).get? (hp.objs.size + 1) = some (excO C hp.objs.size) := by heap_get
  have hcC : (Value.ref C :: bm).contains (.ref C) = true := by simp
  have i1 := hi.keeps k
  have b1 := (hb (.ref (hp.objs.size + 1))).keeps k
  unfold isInstance
  repeat (first | with_reducible refine wpAny_loadPart_at hg ?_ | (with_reducible refine wpAny_isSubtype_exc hC' ?_; rw [hcC]) | wp_step)
  show wpAny _ _ (typeLookup (.ref C) _) _ _ _
  refine i1.at ?_
  refine wpAny_holding (wpAny_bind (b1.at ?_))
  refine wpAny_bind (wpAny_call (codeAny_mono hq fun r s' z => ?_))
  rcases r with e | (v | _ | _ | _) <;> first | exact z | exact z.elim | skip
  obtain ⟨rfl, z⟩ := z
  first
    | exact wpAny_pure (wpAny_pure z)
    | (wp_walk; exact z)
theorem check_tc {M : Model} {us : List Value} {kw : List (Str × Value)} {Q : Unit → Shared → Prop} (hC : hp.get? C = some (excClassObj nm qn C N bs bm hdc sn sub ab col dd k0 k1 k2 k3 k5 newId)) (hq : Q () ⟨hp, gn, dr, tk, os⟩) :
    wpAny M A (checkBuiltinCall "type.__call__" ⟨.ref C :: us, kw⟩) Q E ⟨hp, gn, dr, tk, os⟩ := by
  have c3 := tc_sub
  have hT : (⟨hp, gn, dr, tk, os⟩ : Shared).TypeIs (.ref C) "type" := ⟨_, hC, rfl⟩
  simp only [checkBuiltinCall, tc_kind, tc_split]
  repeat (any_goals (first | assumption | with_reducible refine wpAny_loadPart_at hC ?_ | with_reducible refine wpAny_onRaise ?_ | with_reducible refine wpAny_map ?_ | wp_step))
theorem call_ {us : List Value} {kw : List (Str × Value)} {fI : Addr} (F : ExcBaseFacts B newId initId bmB) (T : Tail B bm) (hC : hp.get? C = some (excClassObj nm qn C N bs bm hdc sn sub ab col dd k0 k1 k2 k3 k5 newId))
    (hi : Looks (model prog w) hp (typeLookup (.ref C) "__init__") (some (.ref fI))) (hb : ∀ x, Looks (model prog w) hp (bindSpecial (.ref fI) x) (.ref fI, [x])) (hl : us.length ≤ sizeLine)
    (hq : codeAny (model prog w) (A.under (.builtin "type.__call__" ⟨.ref C :: us, kw⟩)) (.call (.ref fI) ⟨.ref (hp.objs.size + 1) :: us, kw⟩) (InitBack (hp.objs.size + 1) R) ⟨(hp.push (kdv_tup us)).push (excO C hp.objs.size), gn, dr, tk, os⟩) :
    codeAny (model prog w) A (.call (.ref C) ⟨us, kw⟩) R ⟨hp, gn, dr, tk, os⟩ := by
  have c1 := tc_lookup
  have c2 := tc_bind (.ref C)
  have hTy : (⟨hp, gn, dr, tk, os⟩ : Shared).TypeIs (.ref C) "type" := ⟨_, hC, rfl⟩
  refine codeAny_of_tree ?_
  show wpAny _ _ (callAny (.ref C) _) _ _ _
  repeat (any_goals (first | assumption | with_reducible refine wpAny_loadPart_at hC ?_ | wp_step))
  refine ⟨rfl, ?_⟩
  refine codeAny_call_builtin_at (Code.quiet_builtin _ (by decide +kernel)) entry_typeCall (check_tc hC (tcall F T hC hi hb hl ?_))
  refine codeAny_mono hq fun r s' z => ?_
  rcases r with e | (v | _ | _ | _) <;> exact z
end
section
variable {prog : Program} {w : World} {A : Around} {R : Result → Shared → Prop} {hp : Heap} {gn : Array GenState} {dr : Drawn} {tk : Nat} {os : OsState}
theorem osa_ {K : Frag} {f : Str} {tf : Tok} {v : Value} {x C : Addr} {fv : Array Value} {cd : ClassData} (KX : K.In hp) (hx : hp.get? x = some { cls := .ref C, data := .fields fv }) (hcd : clsIn K C = some cd)
    (hp1 : refuseLoop (.ref x) "__setattr__" cd.mro = pure ()) (hp2 : cd.mro.contains (.type "object") = true) (hp3 : cd.mro.isEmpty = false) (hh : cd.hasDict = true) (ha : findIn K (.ref C) f = some none)
    (hq : ∀ h' tk' dx, (∀ b o, b ≠ x → hp.get? b = some o → h'.get? b = some o) → hp.objs.size ≤ dx → dx ≠ x → h'.get? x = some { cls := .ref C, dict := some dx, data := .fields fv } →
      h'.Ns1 dx (fun y => if y = f then some v else none) → R (.ok (.ret .none)) ⟨h', gn, dr, tk', os⟩) :
    codeAny (model prog w) A (.call (.builtin "object.__setattr__") ⟨[.ref x, .str f tf, v], []⟩) R ⟨hp, gn, dr, tk, os⟩ := by
  have J : InstAt hp x { cls := .ref C, data := .fields fv } C none := ⟨hx, rfl, rfl, trivial⟩
  have SO := F.store_object
  have xs : x ≠ hp.objs.size := Nat.ne_of_lt (Heap.lt_size hx)
  have sb : Looks (model prog w) hp (isInstance (.ref x) (.type "object")) true := J.type.andThen (looks_mroIn KX (by unfold mroIn; rw [hcd, Option.bind_some, if_neg (by rw [hp3]; decide), hp2]))
  refine codeAny_call_builtin SO.slot.plain SO.entry (@check_slot (model prog w) _ _ ⟨hp, gn, dr, tk, os⟩ "object.__setattr__" "object" "__setattr__" (.ref x) [.str f tf, v] [] _ SO.kind SO.split sb (SO.args (.ref x) (.str f tf) v) ?_)
  have l1 : Looks (model prog w) hp (mroOf (.ref C)) cd.mro := (looks_clsIn KX hcd).andThen .now
  have l2 : Looks (model prog w) hp (Builtin.ObjectAttr.storeTaker? none) none := .now
  have l3 : Looks (model prog w) hp (classData C) cd := looks_clsIn KX hcd
  rw [osa_eq, refuse_eq]
  refine wpAny_bind (wpAny_bind (J.type.at (wpAny_bind (l1.at ?_))))
  rw [hp1]
  refine wpAny_pure (wpAny_bind (J.type.at (wpAny_bind ((looks_findIn KX ha).at (wpAny_bind (l2.at ?_))))))
  show wpAny _ _ (Builtin.ObjectAttr.storeInOwnDict (.ref x) (.ref C) (.str f tf) f v false) _ _ _
  obtain ⟨nm, bs, mro, ns, qn, hd, sn, sb, ab, col, del⟩ := cd
  dsimp only at hh
  subst hh
  unfold Builtin.ObjectAttr.storeInOwnDict Builtin.ObjectAttr.ownDictForStores
  repeat (first | with_reducible refine store_in_new ?_ ?_ | with_reducible refine wpAny_loadPart_at hx ?_ | with_reducible refine l3.at ?_ | wp_step)
  · exact ⟨_, #[], _, (Heap.get?_update_ne _ _ _ _ xs.symm).trans (Heap.get?_push_at rfl rfl), rfl, fun e he => absurd he (by simp), fun _ => rfl⟩
  · intro h' tk' n' sm
    have hx1 : (hp.push { cls := .type "dict", data := .dict #[] }).get? x = some { cls := .ref C, data := .fields fv } := Heap.get?_push_of_some _ hx
    refine hq h' tk' hp.objs.size (fun b o hb ho => ?_) (Nat.le_refl _) xs.symm ?_ n'
    · exact (sm.2 b (Nat.ne_of_lt (Heap.lt_size ho))).trans ((Heap.get?_update_ne _ _ _ _ hb).trans (Heap.get?_push_of_some _ ho))
    · exact (sm.2 x xs).trans (Heap.get?_update_self _ hx1 rfl)
end
def iA (f : Str) (p1 p2 : Pos) : Arguments := { posonlyargs := [], args := [{ arg := "self", annotation := none, pos := p1 }, { arg := f, annotation := none, pos := p2 }], vararg := none, kwonlyargs := [], kw_defaults := [], kwarg := none, defaults := [] }
def iB (f : Str) (q1 q2 q3 q4 : Pos) : List Stmt := [.Assign [.Attribute (.Name "self" q1) f q2] (.Name f q3) q4]
def iS (f : Str) : Scope := { kind := .function, names := [(PySem.Str.ofString "self", .local), (f, .local)], isGenerator := false, isCoroutine := false, more := [] }
structure FieldOk (f : Str) : Prop where
  b1 : ∀ (qual : Str) (p1 p2 q1 q2 q3 q4 : Pos) (kV doc pm : Value) (an : Option Addr) (cdv ct e v : Value), bindArgs (fnOf "__init__" qual (iA f p1 p2) (iB f q1 q2 q3 q4) (iS f) .none kV doc pm an cdv ct) ⟨[e, v], []⟩ = pure [(("self" : Str), e), (f, v)]
  b2 : ∀ (qual : Str) (p1 p2 q1 q2 q3 q4 : Pos) (kV doc pm : Value) (an : Option Addr) (cdv ct e v : Value), bindArgs (fnOf "__init__" qual (iA f p1 p2) (iB f q1 q2 q3 q4) (iS f) .none kV doc pm an cdv ct) ⟨[e], [(f, v)]⟩ = pure [(("self" : Str), e), (f, v)]
  l1 : (iS f).names.lookup f = some .local
  l2 : ∀ (e v : Value) (k : Str → Option NameKind), k "self" = some .local → k f = some .local → bindL k [(("self" : Str), e), (f, v)] (fun _ => none) f = some v
  l3 : ∀ (e v : Value) (k : Str → Option NameKind), k "self" = some .local → k f = some .local → bindL k [(("self" : Str), e), (f, v)] (fun _ => none) "self" = some e
  dbg : (f == ("__debug__" : Str)) = false
theorem field_of {f : Str} (h : f ≠ "self")
    (b1 : ∀ (qual : Str) (p1 p2 q1 q2 q3 q4 : Pos) (kV doc pm : Value) (an : Option Addr) (cdv ct e v : Value), bindArgs (fnOf "__init__" qual (iA f p1 p2) (iB f q1 q2 q3 q4) (iS f) .none kV doc pm an cdv ct) ⟨[e, v], []⟩ = pure [(("self" : Str), e), (f, v)])
    (b2 : ∀ (qual : Str) (p1 p2 q1 q2 q3 q4 : Pos) (kV doc pm : Value) (an : Option Addr) (cdv ct e v : Value), bindArgs (fnOf "__init__" qual (iA f p1 p2) (iB f q1 q2 q3 q4) (iS f) .none kV doc pm an cdv ct) ⟨[e], [(f, v)]⟩ = pure [(("self" : Str), e), (f, v)])
    (l1 : (iS f).names.lookup f = some .local) (d : (f == ("__debug__" : Str)) = false) : FieldOk f := by
  refine ⟨b1, b2, l1, fun e v k h1 h2 => ?_, fun e v k h1 h2 => ?_, d⟩
  · unfold bindL bindL bindL
    rw [if_pos h1, if_pos h2]
    exact if_pos rfl
  · unfold bindL bindL bindL
    rw [if_pos h1, if_pos h2]
    show (if ("self" : Str) = f then some v else if ("self" : Str) = "self" then some e else none) = some e
    rw [if_neg (Ne.symm h), if_pos rfl]
theorem f_value : FieldOk "value" := field_of (by decide +kernel) (fun _ _ _ _ _ _ _ _ _ _ _ _ _ _ _ => rfl) (fun _ _ _ _ _ _ _ _ _ _ _ _ _ _ _ => rfl) rfl rfl
structure ExcT (K : Frag) (mg : Str → Option Value) (x f : Str) (C fI : Addr) : Prop where
  gC : mg x = some (.ref C)
  cls : ∃ (B newId initId : String) (bm bmB : List Value), (∃ nm q N bs sn sub ab col dd k0 k1 k2 k3 k5, K.lookup C = some (excClassObj nm q C N bs bm true sn sub ab col dd k0 k1 k2 k3 k5 newId)) ∧
    ExcBaseFacts B newId initId bmB ∧ Tail B bm ∧ (∀ self, refuseLoop self "__setattr__" bm = pure ()) ∧ bm.contains (.type "object") = true
  sa : findIn K (.ref C) "__setattr__" = some (some (.builtin "object.__setattr__"))
  ga : findIn K (.ref C) "__getattribute__" = some (some (.builtin "BaseException.__getattribute__"))
  gg : findIn K (.ref C) "__getattr__" = some none
  noN : findIn K (.ref C) f = some none
  iC : findIn K (.ref C) "__init__" = some (some (.ref fI))
  tC : typeIn K (.ref fI) = some (.type "function")
  kC : keepIn K (.ref C) = true
  exC : subIn K (.ref C) (.type "BaseException") = some true
  tyC : typeIn K (.ref C) = some (.type "type")
  hdC : hasDictIn K C = true
  icl : (clsIn K C).isSome = true
  iha : findIn K (.ref C) "__class__" = some (some (.builtin "object.__class__"))
  ihn : specialIn K (.builtin "object.__class__") "__get__" = some (some (.builtin "getset_descriptor.__get__"))
  itk : takesIn K (.builtin "object.__class__") = some true
  ihm : mroIn K C (.type "object") = some true
  fok : FieldOk f
  fn : ∃ (qual : Str) (oc : Value) (od : Option Addr) (kV doc pm : Value) (an : Option Addr) (cdv ct : Value) (osl : Array (Option Value)) (p1 p2 q1 q2 q3 q4 : Pos),
    K.lookup fI = some ⟨oc, od, .func (fnOf "__init__" qual (iA f p1 p2) (iB f q1 q2 q3 q4) (iS f) .none kV doc pm an cdv ct), osl⟩ ∧ codeIn K cdv qual = true
structure Made (f : Str) (h h' : Heap) (e C d : Addr) (v : Value) : Prop where
  keep : ∀ b o, h.get? b = some o → h'.get? b = some o
  new : h.objs.size ≤ e
  obj : ∃ t1 : Addr, h'.get? e = some { cls := .ref C, dict := some d, data := .fields #[.ref t1, .none, .none, .none, .bool false, .none] }
  dbig : h.objs.size ≤ d
  dne : d ≠ e
  ns : h'.Ns1 d (fun y => if y = f then some v else none)
section
variable {prog : Program} {w : World} {A : Around} {E : Value → Shared → Prop} {R : Result → Shared → Prop} {s : Shared} {K : Frag} {mg : Str → Option Value} {x f : Str} {C fI : Addr}
theorem ld_ {M : Model} {name : Str} {scope : Scope} {L a : Addr} {cd : Value} {m : Str → Option Value} {y : Str} {pos : Pos} {v : Value} {Q : Value → Shared → Prop} (hn : s.heap.Ns L m) (hv : m y = some v) (h : Q v s)
    (hk : scope.kind = .function) (hl : (envOfC name scope L a cd).kindOf y = some .local) (hd : (y == ("__debug__" : Str)) = false) :
    wpAny M A (eval (.Name y pos) (envOfC name scope L a cd)) Q E s := wpAny_Name (wpAny_loadName_local hk hl hn hv h) hd
theorem init_ (T : ExcT K mg x f C fI) {e t0 : Addr} {v : Value} {args : Args} (ha : args = ⟨[.ref e, v], []⟩ ∨ args = ⟨[.ref e], [(f, v)]⟩) (KX : K.In s.heap) (hlim : s.heap.NoLimit) (hx : s.heap.get? e = some (excO C t0)) (hroom : A.depth < recursionLimit)
    (hq : ∀ h' tk dx, (∀ b o, b ≠ e → s.heap.get? b = some o → h'.get? b = some o) → s.heap.objs.size ≤ dx → dx ≠ e → h'.get? e = some { cls := .ref C, dict := some dx, data := .fields #[.ref t0, .none, .none, .none, .bool false, .none] } →
      h'.Ns1 dx (fun y => if y = f then some v else none) → R (.ok (.ret .none)) { s with heap := h', toks := tk }) :
    codeAny (model prog w) A (.call (.ref fI) args) R s := by
  obtain ⟨qual, oc, od, kV, doc, pm, an, cdv, ct, osl, p1, p2, q1, q2, q3, q4, ho, hcd⟩ := T.fn
  obtain ⟨B, newId, initId, bm, bmB, ⟨nm, q, N, bs, sn, sub, ab, col, dd, k0, k1, k2, k3, k5, hC⟩, _, _, hps, hob⟩ := T.cls
  have hcl : clsIn K C = some { name := nm, bases := bs, mro := .ref C :: bm, ns := N, qualname := q, hasDict := true, slotNames := sn, subclasses := sub, abstract := ab, collection := col, hasDel := false } := by unfold clsIn; rw [hC] <;> rfl
  have hbd : BindsTo s (fnOf "__init__" qual (iA f p1 p2) (iB f q1 q2 q3 q4) (iS f) .none kV doc pm an cdv ct) args [("self", .ref e), (f, v)] := by
    rcases ha with rfl | rfl
    · exact BindsTo.of_eq (T.fok.b1 ..)
    · exact BindsTo.of_eq (T.fok.b2 ..)
  refine Att.call_fn (binds := [("self", .ref e), (f, v)]) KX hlim ho hcd hroom hbd ?_ (fun s₁ IC => ?_) rfl rfl rfl
  · show ((((iS f).names.lookup ("self" : Str)) == some NameKind.local || ((iS f).names.lookup ("self" : Str)) == some NameKind.cell) && ((((iS f).names.lookup f) == some NameKind.local || ((iS f).names.lookup f) == some NameKind.cell) && true)) = true
    rw [T.fok.l1]
    rfl
  obtain ⟨h₁, tk₁, rfl⟩ := IC.toInCall.same
  have k : ∀ b o, s.heap.get? b = some o → h₁.get? b = some o := IC.toInCall.keep
  have hn := IC.toInCall.ns
  have X₁ : K.In h₁ := KX.keeps k
  have hx₁ := k _ _ hx
  have kf : (envOfC qual (iS f) s.heap.objs.size fI cdv).kindOf f = some .local := T.fok.l1
  have ks : (envOfC qual (iS f) s.heap.objs.size fI cdv).kindOf "self" = some .local := rfl
  show wpAny _ _ (execs _ _) _ _ _
  refine wpAny_execs_cons (plainObj_wpAny_Assign_Attribute ?_)
  refine ld_ (v := v) hn (T.fok.l2 _ _ _ ks kf) (ld_ (v := .ref e) hn (T.fok.l3 _ _ _ ks kf) ?_ rfl ks (by decide)) rfl kf T.fok.dbg
  refine set_plain X₁ (ox := excO C t0) (od := none) ⟨hx₁, rfl, rfl, trivial⟩ T.sa ?_
  refine osa_ X₁ hx₁ hcl (by rw [refuseLoop_ref]; exact hps _) (by rw [List.contains_cons, hob, Bool.or_true]) rfl rfl T.noN (fun h₃ tk₃ dx k₃ dn dne hx₃ hn₃ => ?_)
  show wpAny _ _ (execs _ _) _ _ _
  have z : s.heap.objs.size < h₁.objs.size := hn.lt
  exact wpAny_execs_nil (hq h₃ tk₃ dx (fun b o hb e => k₃ b o hb (k b o e)) (Nat.le_of_lt (Nat.lt_of_lt_of_le z dn)) dne hx₃ hn₃)
theorem made_ (T : ExcT K mg x f C fI) {v : Value} {args : Args} (ha : args = ⟨[v], []⟩ ∨ args = ⟨[], [(f, v)]⟩) (KX : K.In s.heap) (hlim : s.heap.NoLimit) (hroom : A.depth + 1 < recursionLimit)
    (hq : ∀ h' tk e d, Made f s.heap h' e C d v → R (.ok (.ret (.ref e))) { s with heap := h', toks := tk }) : codeAny (model prog w) A (.call (.ref C) args) R s := by
  obtain ⟨B, newId, initId, bm, bmB, ⟨nm, q, N, bs, sn, sub, ab, col, dd, k0, k1, k2, k3, k5, hC⟩, hF, hT, _, _⟩ := T.cls
  obtain ⟨us, kw⟩ := args
  obtain ⟨hp, gn, dr, tk, os⟩ := s
  have hl : us.length ≤ sizeLine := by
    rw [sizeLine_eq]
    rcases ha with e | e
    · cases e
      exact (by decide : 1 ≤ 16777216)
    · cases e
      exact Nat.zero_le _
  have k : ∀ b o, hp.get? b = some o → ((hp.push (kdv_tup us)).push (excO C hp.objs.size)).get? b = some o := fun b o e => Heap.get?_push_of_some _ (Heap.get?_push_of_some _ e)
  have hg : ((hp.push (kdv_tup us)).push (excO C hp.objs.size)).get? (hp.objs.size + 1) = some (excO C hp.objs.size) := by heap_get
  refine call_ hF hT (KX _ _ hC) (looks_findIn KX T.iC) (fun self => bind_fn KX self T.tC) hl ?_
  refine init_ (s := ⟨(hp.push (kdv_tup us)).push (excO C hp.objs.size), gn, dr, tk, os⟩) (v := v) T ?_ (KX.keeps k) (hlim.keeps k) hg ?_ fun h' tk' dx k' dn dne hx hns => ?_
  · rcases ha with e | e
    · cases e
      exact .inl rfl
    · cases e
      exact .inr rfl
  · show A.depth + 1 < recursionLimit
    exact hroom
  · have old : ∀ b o, hp.get? b = some o → h'.get? b = some o := fun b o e => k' b o (Nat.ne_of_lt (Nat.lt_succ_of_lt (Heap.lt_size e))) (k b o e)
    have z : hp.objs.size + 1 + 1 ≤ dx := by
      first
        | (simpa only [Heap.size_push] using dn)
        | exact dn
    exact ⟨rfl, hq h' tk' (hp.objs.size + 1) dx ⟨old, Nat.le_succ _, ⟨_, hx⟩, Nat.le_trans (Nat.le_trans (Nat.le_succ _) (Nat.le_succ _)) z, dne, hns⟩⟩
end
end WkX
namespace WkX
open PySem PySem.Spec PyProof.Rows L2
theorem relO_one {f : Str} {v : V} {u : Value} (r : RelV v u) (g : Str) : RelO (List.lookup g [(f, v)]) (if g = f then some u else none) := relO_put (fs := []) (mA := fun _ => none) r (fun _ => True.intro) g
section
variable {X : Cx} {x f : Str} {C fI : Addr}
end
end WkX
namespace WkX
open PySem PySem.W PySem.Calls PyProof.Rows
def clsB (K : Frag) (C : Addr) (bm : List Value) (newId : String) : Bool := match K.lookup C with
  | some ⟨.type t, _, .cls cd, sl⟩ => t == "type" && (decide (cd.mro = .ref C :: bm) && (cd.hasDict && (!cd.hasDel && match sl.toList with
    | [_, _, _, _, some (.builtin n), _] => n == newId
    | _ => false)))
  | _ => false
theorem clsB_ok {K : Frag} {C : Addr} {bm : List Value} {newId : String} (h : clsB K C bm newId = true) : ∃ nm q N bs sn sub ab col dd k0 k1 k2 k3 k5, K.lookup C = some (excClassObj nm q C N bs bm true sn sub ab col dd k0 k1 k2 k3 k5 newId) := by
  unfold clsB at h
  split at h
  · rename_i t dd cd sl e
    obtain ⟨h1, h⟩ := He.ba h
    obtain ⟨h2, h⟩ := He.ba h
    obtain ⟨h3, h⟩ := He.ba h
    obtain ⟨h4, h5⟩ := He.ba h
    clear h
    split at h5
    · rename_i k0 k1 k2 k3 n k5 hs
      obtain ⟨nm, bs, mro, ns, qn, hd, sn, sub, ab, col, del⟩ := cd
      have e1 := eq_of_beq h1
      have e2 : mro = .ref C :: bm := of_decide_eq_true h2
      have e3 : hd = true := h3
      have e4 : del = false := by
        have z : (!del) = true := h4
        cases del
        · rfl
        · cases z
      have e5 := eq_of_beq h5
      have e6 : sl = #[k0, k1, k2, k3, some (.builtin n), k5] := by
        obtain ⟨l⟩ := sl
        simp only at hs
        rw [hs]
      subst e1 e2 e3 e4 e5 e6
      exact ⟨_, _, _, _, _, _, _, _, _, _, _, _, _, _, e⟩
    · cases h5
  · cases h
def excB (K : Frag) (x f : Str) (bm : List Value) (newId : String) : Bool :=
  clsB K (He.ga K x) bm newId && (He.eqO (findIn K (.ref (He.ga K x)) "__setattr__") (some (some (.builtin "object.__setattr__"))) && (He.eqO (findIn K (.ref (He.ga K x)) "__getattribute__") (some (some (.builtin "BaseException.__getattribute__"))) &&
  (He.eqO (findIn K (.ref (He.ga K x)) "__getattr__") (some none) && (He.eqO (findIn K (.ref (He.ga K x)) f) (some none) && (He.eqO (findIn K (.ref (He.ga K x)) "__init__") (some (some (.ref (He.ma K (He.ga K x) "__init__")))) &&
  (decide (typeIn K (.ref (He.ma K (He.ga K x) "__init__")) = some (.type "function")) && (keepIn K (.ref (He.ga K x)) && (decide (subIn K (.ref (He.ga K x)) (.type "BaseException") = some true) && (decide (typeIn K (.ref (He.ga K x)) = some (.type "type")) &&
  (hasDictIn K (He.ga K x) && ((clsIn K (He.ga K x)).isSome && (He.eqO (findIn K (.ref (He.ga K x)) "__class__") (some (some (.builtin "object.__class__"))) && (He.eqO (specialIn K (.builtin "object.__class__") "__get__") (some (some (.builtin "getset_descriptor.__get__"))) &&
  (decide (takesIn K (.builtin "object.__class__") = some true) && decide (mroIn K (He.ga K x) (.type "object") = some true)))))))))))))))
theorem excT_mk {K : Frag} {mg : Str → Option Value} {x f : Str} {bm bmB : List Value} {B newId initId : String} (g : mg x = some (.ref (He.ga K x))) (h : excB K x f bm newId = true) (hF : ExcBaseFacts B newId initId bmB) (hT : Tail B bm)
    (hp : ∀ self, refuseLoop self "__setattr__" bm = pure ()) (ho : bm.contains (.type "object") = true) (fok : FieldOk f)
    (fn : ∃ (qual : Str) (oc : Value) (od : Option Addr) (kV doc pm : Value) (an : Option Addr) (cdv ct : Value) (osl : Array (Option Value)) (p1 p2 q1 q2 q3 q4 : Pos),
      K.lookup (He.ma K (He.ga K x) "__init__") = some ⟨oc, od, .func (fnOf "__init__" qual (iA f p1 p2) (iB f q1 q2 q3 q4) (iS f) .none kV doc pm an cdv ct), osl⟩ ∧ codeIn K cdv qual = true) :
    ExcT K mg x f (He.ga K x) (He.ma K (He.ga K x) "__init__") := by
  obtain ⟨a1, h⟩ := He.ba h
  obtain ⟨a2, h⟩ := He.ba h
  obtain ⟨a3, h⟩ := He.ba h
  obtain ⟨a4, h⟩ := He.ba h
  obtain ⟨a5, h⟩ := He.ba h
  obtain ⟨a6, h⟩ := He.ba h
  obtain ⟨a7, h⟩ := He.ba h
  obtain ⟨a8, h⟩ := He.ba h
  obtain ⟨a9, h⟩ := He.ba h
  obtain ⟨a10, h⟩ := He.ba h
  obtain ⟨a11, h⟩ := He.ba h
  obtain ⟨a12, h⟩ := He.ba h
  obtain ⟨a13, h⟩ := He.ba h
  obtain ⟨a14, h⟩ := He.ba h
  obtain ⟨a15, a16⟩ := He.ba h
  exact ⟨g, ⟨B, newId, initId, bm, bmB, clsB_ok a1, hF, hT, hp, ho⟩, He.eqO_ok a2, He.eqO_ok a3, He.eqO_ok a4, He.eqO_ok a5, He.eqO_ok a6, of_decide_eq_true a7, a8, of_decide_eq_true a9, of_decide_eq_true a10, a11, a12, He.eqO_ok a13, He.eqO_ok a14, of_decide_eq_true a15, of_decide_eq_true a16, fok, fn⟩
def bV : List Value := [.type "ValueError", .type "Exception", .type "BaseException", .type "object"]
def bL : List Value := [.type "LookupError", .type "Exception", .type "BaseException", .type "object"]
def bK : List Value := [.type "KeyError", .type "LookupError", .type "Exception", .type "BaseException", .type "object"]
theorem tV : Tail "ValueError" bV := ⟨by decide +kernel, by decide +kernel, by decide +kernel⟩
theorem tL : Tail "LookupError" bL := ⟨by decide +kernel, by decide +kernel, by decide +kernel⟩
theorem tK : Tail "LookupError" bK := ⟨by decide +kernel, by decide +kernel, by decide +kernel⟩
theorem pV (self : Value) : refuseLoop self "__setattr__" bV = pure () := by kernel_rfl
theorem pK (self : Value) : refuseLoop self "__setattr__" bK = pure () := by kernel_rfl
theorem oV : bV.contains (.type "object") = true := by decide +kernel
theorem oK : bK.contains (.type "object") = true := by decide +kernel
end WkX
namespace WkJ
open PySem PySem.Spec PyProof.Rows L2 LamX
def methB (K : PySem.W.Frag) (C D : Addr) (m : Str) : Bool := He.eqO (PySem.W.findIn K (.ref C) m) (some (some (.ref (He.ma K D m)))) && (PySem.W.isFn K (.ref (He.ma K D m)) && PySem.W.keepIn K (.ref (He.ma K D m)))
theorem methB_ok {K : PySem.W.Frag} {C D : Addr} {m : Str} (h : methB K C D m = true) : Meth K C m (He.ma K D m) := by
  obtain ⟨h1, h⟩ := He.ba h
  obtain ⟨h2, h3⟩ := He.ba h
  exact ⟨He.eqO_ok h1, h2, h3⟩
theorem initA_of {K : PySem.W.Frag} {x f qual : Str} {d : DefA} {fd : FuncData} {p1 p2 q1 q2 q3 q4 : Pos} (F : FunC K d fd) (e : d = ⟨fun K => He.ma K (He.ga K x) "__init__", "__init__", qual, WkX.iA f p1 p2, WkX.iB f q1 q2 q3 q4, WkX.iS f, [], [], []⟩) :
    ∃ (qual : Str) (oc : Value) (od : Option Addr) (kV doc pm : Value) (an : Option Addr) (cdv ct : Value) (osl : Array (Option Value)) (p1 p2 q1 q2 q3 q4 : Pos),
      K.lookup (He.ma K (He.ga K x) "__init__") = some ⟨oc, od, .func (PySem.W.fnOf "__init__" qual (WkX.iA f p1 p2) (WkX.iB f q1 q2 q3 q4) (WkX.iS f) .none kV doc pm an cdv ct), osl⟩ ∧ PySem.W.codeIn K cdv qual = true := by
  subst e
  have F := F.funD rfl
  obtain ⟨oc, od, dV, kV, doc, pm, an, cdv, ct, osl, rfl, lk, hcd, hD, _⟩ := F.ex
  rcases hD with ⟨_, rfl⟩ | ⟨z, _⟩
  · exact ⟨_, oc, od, kV, doc, pm, an, cdv, ct, osl, _, _, _, _, _, _, lk, hcd⟩
  · exact absurd rfl z
end WkJ
namespace WkJ
open PySem PySem.Spec PyProof.Rows L2 LamX
def goB (g : Addr → Option Obj) : Nat → Nat → List Addr → List Addr → Nat → List Addr
  | 0, _, _, _, _ => []
  | f + 1, n, [], next, m => match n with
    | 0 => []
    | n + 1 => match next with
      | [] => []
      | a :: r => goB g f n (a :: r) [] m
  | f + 1, n, a :: r, next, m => HandSHeadRun.frNat a fun a => match Nat.beq (Nat.land (Nat.shiftRight m a) 1) 1 with
    | true => goB g f n r next m
    | false => HandSHeadRun.frNat (Nat.lor m (Nat.shiftLeft 1 a)) fun m => match g a with
      | some o => a :: goB g f n r (He.refsD o ++ next) m
      | none => goB g f n r next m
abbrev frB (n : Nat) (g : Addr → Option Obj) : PySem.W.Frag := He.frT g (goB g 20000 n [mainGlobals, sysModules, cStatics] [] 0)
def obsB (n : Nat) (fa : List He.Fa) (da : List DefA) (tf : List He.Defn) (ex : PySem.W.Frag → Bool) (g : Addr → Option Obj) : Al := ((fa.all fun f => f.ok (frB n g)) && ((da.all fun d => d.ok (frB n g)) && (ex (frB n g) && He.tabsB g tf (frB n g))), da.map fun d => fnA (frB n g) (d.at_ (frB n g)))
theorem saysB_of {n : Nat} {fa : List He.Fa} {da : List DefA} {tf : List He.Defn} {ex : PySem.W.Frag → Bool} {h : Heap} (e : obsB n fa da tf ex h.get? = (true, da.map DefA.val)) : Says fa da tf ex h (frB n h.get?) := by
  have e1 : ((fa.all fun f => f.ok (frB n h.get?)) && ((da.all fun d => d.ok (frB n h.get?)) && (ex (frB n h.get?) && He.tabsB h.get? tf (frB n h.get?)))) = true := congrArg (fun z : Al => z.1) e
  have e2 : (da.map fun d => fnA (frB n h.get?) (d.at_ (frB n h.get?))) = da.map DefA.val := congrArg (fun z : Al => z.2) e
  obtain ⟨h0, e1⟩ := He.ba e1
  obtain ⟨h1, e1⟩ := He.ba e1
  obtain ⟨h2, h3⟩ := He.ba e1
  have one : ∀ p ∈ tf, PySem.W.codeHdIn (frB n h.get?) (He.cT (frB n h.get?) p).1 (He.cT (frB n h.get?) p).2 = true ∧ ∃ o, h.get? (He.cT (frB n h.get?) p).2 = some o ∧ He.emptyTab o = true := fun p hp => by
    obtain ⟨h3, h4⟩ := He.ba (List.all_eq_true.mp h3 p hp)
    refine ⟨h3, ?_⟩
    cases q : h.get? (He.cT (frB n h.get?) p).2 with
    | none =>
      rw [q] at h4
      cases h4
    | some o =>
      rw [q] at h4
      exact ⟨o, rfl, h4⟩
  refine ⟨fun f hf => List.all_eq_true.mp h0 f hf, fun d hd => ?_, h2, fun p hp => (one p hp).1, fun p hp => ?_, fun p hp => ?_⟩
  · obtain ⟨i, hi, ed⟩ := List.mem_iff_getElem.mp hd
    have z : (da.map fun d => fnA (frB n h.get?) (d.at_ (frB n h.get?)))[i]? = (da.map DefA.val)[i]? := by rw [e2]
    rw [List.getElem?_map, List.getElem?_map, List.getElem?_eq_getElem hi, ed] at z
    exact DefA.funC (Option.some.inj z) (List.all_eq_true.mp h1 d hd)
  · obtain ⟨_, o, q, z⟩ := one p hp
    exact He.frT_none q z
  · obtain ⟨_, o, q, z⟩ := one p hp
    rw [q, He.emptyTab_eq z]
def hookB (n : Nat) (fa : List He.Fa) (da : List DefA) (tf : List He.Defn) (ex : PySem.W.Frag → Bool) : PySem.W.Hook where
  α := Al
  obs := fun s => obsB n fa da tf ex s.heap.get?
  val := fun _ => (true, da.map DefA.val)
  says := fun _ h => ∃ K : PySem.W.Frag, K.In h ∧ Says fa da tf ex h K
  of := fun _ _ e => ⟨_, He.frT_in, saysB_of e⟩
  keeps := fun _ _ _ ⟨K, hK, c⟩ k => ⟨K, PySem.W.Frag.In.keeps hK k, ⟨c.fact, c.defs, c.ex, c.hd, c.out, fun p hp => k _ _ (c.emp p hp)⟩⟩
theorem obsB_eq {n : Nat} {fa : List He.Fa} {da : List DefA} {tf : List He.Defn} {ex : PySem.W.Frag → Bool} {g : Addr → Option Obj} {s : Shared} (h : ∀ a, g a = s.heap.get? a) : obsB n fa da tf ex g = (hookB n fa da tf ex).obs s := by
  have e : g = s.heap.get? := funext h
  subst e
  rfl
end WkJ
namespace Wk
open PySem PySem.Spec PyProof.Rows L2
def But (p : Addr) (H H' : Hp) : Prop := ∀ b o, H b = some o → b ≠ p → H' b = some o
theorem But.refl (p : Addr) (H : Hp) : But p H H := fun _ _ e _ => e
theorem But.trans {p : Addr} {H H1 H2 : Hp} (a : But p H H1) (b : But p H1 H2) : But p H H2 := fun c o e h => b c o (a c o e h) h
theorem But.of_same {p : Addr} {H H1 : Hp} (a : Same H H1) : But p H H1 := fun c o e _ => a c o e
theorem same_upd {H : Hp} {a : Addr} {o : HO} (h : H a = none) : Same H (upd H a o) := fun b u e => by
  rw [upd_ne (ne_of_none e h)]
  exact e
theorem But.upd {p : Addr} {H H1 : Hp} {o : HO} (a : But p H H1) : But p H (L2.upd H1 p o) := fun c u e h => by
  rw [upd_ne h]
  exact a c u e h
theorem But.put {p q : Addr} {H H1 : Hp} {o : HO} (a : But p H H1) (h : H q = none) : But p H (L2.upd H1 q o) := fun c u e hc => by
  rw [upd_ne (ne_of_none e h)]
  exact a c u e hc
theorem new_eq {H G : Hp} {p : Addr} {o : HO} (n : H p = none) (h : upd H p o = G) : Same H G ∧ G p = some o := by
  subst h
  exact ⟨same_upd n, upd_same⟩
theorem tYes_if {σ : L2.St} {H : Hp} {A B : Hp → Prop} (h : A H) : tYes σ H fun b H3 => if b = true then A H3 else B H3 := by
  show if true = true then A H else B H
  exact iteT h
def penL (cs : Addr) (t r : Int) : List (Key × V) := [(Sum.inr "cells", .ref cs), (Sum.inr "turn", .int t), (Sum.inr "rest", .int r)]
def penO (cs : Addr) (t r : Int) : HO := .dK (penL cs t r)
structure Pen (H : Hp) (p cs : Addr) (N : Nat) : Prop where
  pen : ∃ t r : Int, H p = some (penO cs t r) ∧ 0 ≤ t ∧ t ≤ (N : Int) ∧ 0 ≤ r
  cells : ∃ ns : List Int, H cs = some (.lst (ns.map V.int)) ∧ ns.length ≤ 63
theorem Pen.ne {H : Hp} {p cs : Addr} {N : Nat} (P : Pen H p cs N) : cs ≠ p := by
  obtain ⟨⟨t, r, h1, _⟩, ns, h2, _⟩ := P
  exact ne_of h2 h1 (by intro z; cases z)
theorem Pen.mono {H : Hp} {p cs : Addr} {N M : Nat} (P : Pen H p cs N) (h : N ≤ M) : Pen H p cs M := by
  obtain ⟨⟨t, r, h1, h2, h3, h4⟩, hc⟩ := P
  exact ⟨⟨t, r, h1, h2, by omega, h4⟩, hc⟩
theorem Pen.same {H H' : Hp} {p cs : Addr} {N : Nat} (P : Pen H p cs N) (s : Same H H') : Pen H' p cs N := by
  obtain ⟨⟨t, r, h1, h2⟩, ns, h3, h4⟩ := P
  exact ⟨⟨t, r, s _ _ h1, h2⟩, ns, s _ _ h3, h4⟩
theorem Pen.put {H : Hp} {p cs q : Addr} {N : Nat} {o : HO} (P : Pen H p cs N) (h1 : q ≠ p) (h2 : q ≠ cs) : Pen (upd H q o) p cs N := by
  obtain ⟨⟨t, r, a1, a2⟩, ns, a3, a4⟩ := P
  exact ⟨⟨t, r, by rw [upd_ne (Ne.symm h1)]; exact a1, a2⟩, ns, by rw [upd_ne (Ne.symm h2)]; exact a3, a4⟩
theorem Pen.new {H : Hp} {p cs q : Addr} {N : Nat} {o : HO} (P : Pen H p cs N) (h : H q = none) : Pen (upd H q o) p cs N := P.same (same_upd h)
theorem Pen.free {H : Hp} {p cs q : Addr} {N : Nat} (P : Pen H p cs N) (h : H q = none) : q ≠ p ∧ q ≠ cs := by
  obtain ⟨⟨t, r, a1, a2⟩, ns, a3, a4⟩ := P
  exact ⟨Ne.symm (ne_of_none a1 h), Ne.symm (ne_of_none a3 h)⟩
theorem pen_turn (cs : Addr) (t r u : Int) : putK (penL cs t r) (Sum.inr "turn" : Key) (.int u) = penL cs u r := by
  unfold penL putK
  rfl
theorem pen_rest (cs : Addr) (t r u : Int) : putK (penL cs t r) (Sum.inr "rest" : Key) (.int u) = penL cs t u := by
  unfold penL putK
  rfl
theorem pen_g1 (cs : Addr) (t r : Int) : valV (penL cs t r) (Sum.inr "cells" : Key) = some (.ref cs) := by rfl
theorem pen_g2 (cs : Addr) (t r : Int) : valV (penL cs t r) (Sum.inr "turn" : Key) = some (.int t) := by rfl
theorem pen_g3 (cs : Addr) (t r : Int) : valV (penL cs t r) (Sum.inr "rest" : Key) = some (.int r) := by rfl
theorem get_cells {H : Hp} {p cs : Addr} {t r : Int} (h : H p = some (penO cs t r)) : DGet H p (.str "cells") (some (.ref cs)) := by
  have e := DGet.k (k := Sum.inr "cells") h
  rw [pen_g1] at e
  exact e
theorem get_turn {H : Hp} {p cs : Addr} {t r : Int} (h : H p = some (penO cs t r)) : DGet H p (.str "turn") (some (.int t)) := by
  have e := DGet.k (k := Sum.inr "turn") h
  rw [pen_g2] at e
  exact e
theorem get_rest {H : Hp} {p cs : Addr} {t r : Int} (h : H p = some (penO cs t r)) : DGet H p (.str "rest") (some (.int r)) := by
  have e := DGet.k (k := Sum.inr "rest") h
  rw [pen_g3] at e
  exact e
theorem put_turn {H : Hp} {p cs : Addr} {t r u : Int} (h : H p = some (penO cs t r)) : DPut H p (.str "turn") (.int u) (upd H p (penO cs u r)) := by
  have e := DPut.k (k := Sum.inr "turn") (v := .int u) h (by show 3 < sizeLine; decide)
  rw [pen_turn] at e
  exact e
theorem put_rest {H : Hp} {p cs : Addr} {t r u : Int} (h : H p = some (penO cs t r)) : DPut H p (.str "rest") (.int u) (upd H p (penO cs t u)) := by
  have e := DPut.k (k := Sum.inr "rest") (v := .int u) h (by show 3 < sizeLine; decide)
  rw [pen_rest] at e
  exact e

structure Bi (mg : Str → Option Value) : Prop where
  n_abs : mg "abs" = none
  n_all : mg "all" = none
  n_any : mg "any" = none
  n_bool : mg "bool" = none
  n_dict : mg "dict" = none
  n_enumerate : mg "enumerate" = none
  n_int : mg "int" = none
  n_isinstance : mg "isinstance" = none
  n_len : mg "len" = none
  n_list : mg "list" = none
  n_max : mg "max" = none
  n_min : mg "min" = none
  n_range : mg "range" = none
  n_repr : mg "repr" = none
  n_set : mg "set" = none
  n_sorted : mg "sorted" = none
  n_str : mg "str" = none
  n_sum : mg "sum" = none
  n_tuple : mg "tuple" = none
  n_zip : mg "zip" = none
  n_reversed : mg "reversed" = none
  n_super : mg "super" = none
  n_ValueError : mg "ValueError" = none
  n_LookupError : mg "LookupError" = none
  n_KeyError : mg "KeyError" = none
  n_IndexError : mg "IndexError" = none
  n_ArithmeticError : mg "ArithmeticError" = none
  n_OverflowError : mg "OverflowError" = none
  n_ZeroDivisionError : mg "ZeroDivisionError" = none
  n_RuntimeError : mg "RuntimeError" = none
  n_TypeError : mg "TypeError" = none
theorem cut_map {α : Type} (f : α → V) (ns : List α) (lo hi : Option Int) : ∃ ms : List α, cutV (ns.map f) lo hi = ms.map f ∧ ms.length ≤ ns.length := by
  refine ⟨(ns.drop (HT.sIx (ns.map f).length 0 lo)).take (HT.sIx (ns.map f).length (ns.map f).length hi - HT.sIx (ns.map f).length 0 lo), ?_, ?_⟩
  · unfold cutV
    rw [List.map_take, List.map_drop]
  · rw [List.length_take, List.length_drop]
    omega
def Def (K : PySem.W.Frag) (mg : Str → Option Value) (x : Str) (st : Stmt) : Prop := ∃ f fd, FnP K x x st f fd ∧ mg x = some (.ref f)
def Callee (P : Program) (w : World) (K : PySem.W.Frag) (mg : Str → Option Value) (base : Heap) (CX : CXT) (k : Nat) (x : Str) (ps : List Str) (sp : Sp) : Prop :=
  ∃ f fd, FnOk P w K mg base CX k f fd ps sp ∧ mg x = some (.ref f) ∧ PySem.W.keepIn K (.ref f) = true ∧ Binds K fd ps []
section
variable {X : Cx} {CX : CXT} {k : Nat} {ps : List Str} {sp : Sp} {E : XK} {x : Str} {p pos : Pos} {e : Expr} {es : List Expr} {t : TA}
theorem pe_c (C : Callee X.prog X.w X.K X.mg X.base CX k x ps sp) (hr : Room k X.A) (hx : Passes CX X E) (ha : PA X (e :: es) t) (hg : Gl X x := by rfl) (hdb : (x == ("__debug__" : Str)) = false := by decide)
    (he : starEach (e :: es) X.env = (false, eval e X.env) :: starEach es X.env := by rfl) (hpl : (backTo pos (starEach es X.env)).any (·.1) = false := by rfl) : PE X (.Call (.Name x p) (e :: es) [] pos) (tCall sp [] E t) := by
  obtain ⟨f, fd, F, g, kp, b⟩ := C
  exact pe_call F hr hg g kp b .nil hx ha hdb he hpl
end
section
variable {P : Program} {w : World} {K : PySem.W.Frag} {mg : Str → Option Value} {base : Heap}
theorem fm {x m : Int} (h : 1 ≤ m) : 0 ≤ x.fmod m ∧ x.fmod m < m := by
  rw [Int.fmod_eq_emod_of_nonneg x (by omega)]
  exact ⟨Int.emod_nonneg x (by omega), Int.emod_lt_of_pos x (by omega)⟩
theorem fq {x m : Int} (h : 1 ≤ m) (hx : 0 ≤ x) : 0 ≤ x.fdiv m := by
  rw [Int.fdiv_eq_ediv_of_nonneg x (by omega)]
  exact Int.ediv_nonneg hx (by omega)
theorem at_ints {ns : List Int} {i : Int} (h0 : 0 ≤ i) (h1 : i < (ns.length : Int)) : ∃ c, atI (ns.map V.int) i = some (.int c) := by
  have hj : i.toNat < ns.length := by omega
  refine ⟨ns[i.toNat], at_of (j := i.toNat) (by omega) ?_⟩
  rw [List.getElem?_map, List.getElem?_eq_getElem hj]
  rfl
theorem at_primes {i : Int} (h : 0 ≤ i ∧ i < 5) : ∃ p : Int, atI [.int 2147483647, .int 2147483629, .int 2147483587, .int 2147483579, .int 2147483563] i = some (V.int p) ∧ 2147483563 ≤ p ∧ p ≤ 2147483647 := by
  have e : i = 0 ∨ i = 1 ∨ i = 2 ∨ i = 3 ∨ i = 4 := by omega
  rcases e with rfl | rfl | rfl | rfl | rfl
  · exact ⟨_, rfl, by decide, by decide⟩
  · exact ⟨_, rfl, by decide, by decide⟩
  · exact ⟨_, rfl, by decide, by decide⟩
  · exact ⟨_, rfl, by decide, by decide⟩
  · exact ⟨_, rfl, by decide, by decide⟩
def spPen (K : PySem.W.Frag) : Sp := fun vs H Q _ => ∃ (a : Addr) (ns : List Int), vs = [.ref a] ∧ SqL K H a (ns.map V.int) ∧ ns.length ≤ 63 ∧ ∀ p cs H', H p = none → H cs = none → Same H H' → Pen H' p cs 0 → Q (.ref p) H'
theorem sc_pen : FnScope ["_law_script"] ["_law_script"] (defScope s_L_pen) := ⟨rfl, rfl, rfl, by decide +kernel, rfl, by decide +kernel, by decide +kernel⟩
theorem c_pen (D : Def K mg "_law_pen" s_L_pen) (B : Bi mg) : Callee P w K mg base CX0 1 "_law_pen" ["_law_script"] (spPen K) := by
  obtain ⟨f, fd, F, g⟩ := D
  refine ⟨f, fd, F.ok sc_pen (fun vs H Q E h => ?_) (fun cdv A outer s H vs Q E hr h => ⟨_, PSs.nox (pss_one (ps_ret (pe_disp (pps_cons pe_str (pe_callTy call_list_of (by rfl) B.n_list (by decide +kernel) (pa_cons (pe_slice sl_list (pv 0) po_none (po_some pe_int)) pa_nil)) (pps_cons pe_str pe_int (pps_cons pe_str pe_int pps_nil))) (by rfl) (by rfl) (fun z => by cases z) (by decide)))), ?_⟩), g, F.kp, F.bindsN (fun _ _ _ _ _ _ us hl => match us, hl with | [_], _ => rfl)⟩
  · obtain ⟨a, ns, rfl, _⟩ := h
    rfl
  · obtain ⟨a, ns, rfl, hS, hl, k⟩ := h
    intro p np
    have s1 : Same H (upd H p (.dK [])) := same_upd np
    refine ⟨_, rfl, _, rfl, a, _, rfl, s1.seq hS, fun q nq => ?_⟩
    refine ⟨q, _, rfl, .inl (SqL.of upd_same), fun cs ncs => ?_⟩
    obtain ⟨ms, em, hm⟩ := cut_map V.int ns none (some 63)
    have nqp : q ≠ p := fun z => by
      rw [z, upd_same] at nq
      cases nq
    have ncp : cs ≠ p := fun z => by
      rw [z, upd_ne (Ne.symm nqp), upd_same] at ncs
      cases ncs
    have ncq : cs ≠ q := fun z => by
      rw [z, upd_same] at ncs
      cases ncs
    refine ⟨?_, [(Sum.inr "cells", .ref cs), (Sum.inr "turn", .int 0), (Sum.inr "rest", .int 0)], rfl, (by show 3 ≤ 15; decide), ?_⟩
    · rw [upd_ne (Ne.symm ncp), upd_ne (Ne.symm nqp), upd_same]
    · have n1 : H cs = none := by
        rw [upd_ne ncq, upd_ne ncp] at ncs
        exact ncs
      have n2 : H q = none := by
        rw [upd_ne nqp] at nq
        exact nq
      refine k p cs _ np n1 (fun b o e => ?_) ⟨⟨0, 0, upd_same, by omega, by omega, by omega⟩, ms, ?_, by omega⟩
      · rw [upd_ne (ne_of_none e np), upd_ne (ne_of_none e n1), upd_ne (ne_of_none e n2), upd_ne (ne_of_none e np)]
        exact e
      · rw [upd_ne ncp, upd_same, em]
def spDraw : Sp := fun vs H Q _ => ∃ (p cs : Addr) (m : Int) (N : Nat), vs = [.ref p, .int m] ∧ 1 ≤ m ∧ m < 1073741824 ∧ Pen H p cs N ∧ N < 2 ^ 60 ∧
  ∀ i H', 0 ≤ i → i < m → But p H H' → Pen H' p cs (N + 1) → Q (.int i) H'
theorem sc_draw : FnScope ["_law_pen_here", "_law_many", "_law_digit", "_law_turn", "_law_cell", "_law_primes", "_law_prime", "_law_drawn"] ["_law_pen_here", "_law_many"] (defScope s_L_draw) := ⟨rfl, rfl, rfl, by decide +kernel, rfl, by decide +kernel, by decide +kernel⟩
theorem c_draw (D : Def K mg "_law_draw" s_L_draw) (B : Bi mg) : Callee P w K mg base CX0 1 "_law_draw" ["_law_pen_here", "_law_many"] spDraw := by
  obtain ⟨f, fd, F, g⟩ := D
  refine ⟨f, fd, F.ok sc_draw (fun vs H Q E h => ?_) (fun cdv A outer s H vs Q E hr h => ?_), g, F.kp, F.bindsN (fun _ _ _ _ _ _ us hl => match us, hl with | [_, _], _ => rfl)⟩
  · obtain ⟨p, cs, m, N, rfl, _⟩ := h
    rfl
  · have hu := hu_of hr
    have nd := sc_draw.nd
    refine ⟨_, PSs.nox (pss_cons (ps_if (pt_cmpR op_gt (pe_dget hu (pv 0) pe_str (fun _ _ => rfl)) pe_int (nomark _))
      (pss_cons (ps_set (i := 2) nd rfl (Or.inl rfl) (pe_op op_modN (pe_dget hu (pv 0) pe_str (fun _ _ => rfl)) (pv 1)))
      (pss_cons (ps_dput hu (pv 0) pe_str (pe_op op_fdivN (pe_dget hu (pv 0) pe_str (fun _ _ => rfl)) (pv 1)) rfl)
      (pss_one (ps_ret (pv 2))))) pss_nil)
      (pss_cons (ps_set (i := 3) nd rfl (Or.inl rfl) (pe_dget hu (pv 0) pe_str (fun _ _ => rfl)))
      (pss_cons (ps_dput hu (pv 0) pe_str (pe_op op_add (pv 3) pe_int) rfl)
      (pss_cons (ps_set (i := 4) nd rfl (Or.inl rfl) (pe_op op_add (pe_op op_mul pe_int (pv 3)) pe_int))
      (C8.pss_cut (ps_if (pt_cmpR (WkG.op_neNil hr.units) (pe_dget hu (pv 0) pe_str (fun _ _ => rfl)) (pe_lst pa_nil) (nomark _))
      (pss_one (ps_set (i := 4) nd rfl (Or.inl rfl) (pe_ix ix_list (pe_dget hu (pv 0) pe_str (fun _ _ => rfl)) (pe_op op_modN (pv 3) (pe_callB call_len_seq (by rfl) B.n_len (by decide +kernel) (pa_cons (pe_dget hu (pv 0) pe_str (fun _ _ => rfl)) pa_nil))) (fun _ _ => rfl)))) pss_nil)
      (C8.pss_cut (ps_if (PW.pt (pw_and (pt_cmpR op_lt (pv 3) (pe_callB call_len_seq (by rfl) B.n_len (by decide +kernel) (pa_cons (pe_dget hu (pv 0) pe_str (fun _ _ => rfl)) pa_nil)) (nomark _)) (pw_and1 (pt_cmpR op_ge (pe_callB call_abs (by rfl) B.n_abs (by decide +kernel) (pa_cons (pv 4) pa_nil)) (pe_op op_pow pe_int pe_int) (nomark _)))))
      (pss_cons (ps_dput hu (pv 0) pe_str (pe_op op_fdivN (pe_op op_sub (pe_callB call_abs (by rfl) B.n_abs (by decide +kernel) (pa_cons (pv 4) pa_nil)) (pe_op op_pow pe_int pe_int)) (pv 1)) rfl)
      (pss_one (ps_ret (pe_op op_modN (pe_op op_sub (pe_callB call_abs (by rfl) B.n_abs (by decide +kernel) (pa_cons (pv 4) pa_nil)) (pe_op op_pow pe_int pe_int)) (pv 1))))) pss_nil)
      (pss_cons (ps_set (i := 5) nd rfl (Or.inl rfl) (pe_lst (pa_cons pe_int (pa_cons pe_int (pa_cons pe_int (pa_cons pe_int (pa_cons pe_int pa_nil)))))))
      (pss_cons (ps_set (i := 6) nd rfl (Or.inl rfl) (pe_ix ix_list (pv 5) (pe_op op_modN (pv 3) pe_int) (fun _ _ => rfl)))
      (pss_cons (ps_set (i := 7) nd rfl (Or.inl rfl) (pe_op op_modN (pe_op op_add (pe_op op_add (pe_op op_mul (pe_op op_modN (pv 4) (pv 6)) pe_int) (pe_op op_mul (pe_op op_mul pe_int (pv 3)) (pv 3))) pe_int) (pv 6)))
      (pss_cons (ps_set (i := 7) nd rfl (Or.inl rfl) (pe_op op_modN (pe_op op_mul (pv 7) (pe_op op_add (pv 7) pe_int)) (pe_ix ix_list (pv 5) (pe_op op_modN (pe_op op_add (pv 3) pe_int) pe_int) (fun _ _ => rfl))))
      (pss_one (ps_ret (pe_op op_modN (pe_op op_fdivN (pe_op op_modN (pe_op op_mul (pv 7) (pv 7)) pe_int) pe_int) (pv 1)))))))))))))), ?_⟩
    obtain ⟨p, cs, m, N, rfl, m1, m2, hP, hN, k⟩ := h
    obtain ⟨⟨t, r, hp, t0, tN, r0⟩, ns, hc, hl⟩ := id hP
    refine ⟨_, rfl, p, _, rfl, get_rest hp, _, _, rfl, rfl, _, rfl, ?_⟩
    refine ite2 (fun h0 => ?_) (fun h0 => ?_)
    · refine ⟨_, rfl, p, _, rfl, get_rest hp, _, rfl, _, _, rfl, rfl, ?_, ?_⟩
      · omega
      refine ⟨_, rfl, p, _, rfl, get_rest hp, _, rfl, _, _, rfl, rfl, ⟨by omega, by omega⟩, _, rfl, p, _, rfl, put_rest hp, _, rfl, ?_⟩
      obtain ⟨f1, f2⟩ := fm (x := r) m1
      refine k _ _ f1 f2 ((But.refl p H).upd) ⟨⟨t, _, upd_same, t0, by omega, fq m1 r0⟩, ns, ?_, hl⟩
      rw [upd_ne hP.ne]
      exact hc
    · refine ⟨_, rfl, p, _, rfl, get_turn hp, _, rfl, _, _, rfl, rfl, _, rfl, p, _, rfl, put_turn hp, ?_⟩
      have hp1 : upd H p (penO cs (t + 1) r) p = some (penO cs (t + 1) r) := upd_same
      have hc1 : upd H p (penO cs (t + 1) r) cs = some (.lst (ns.map V.int)) := by
        rw [upd_ne hP.ne]
        exact hc
      have b1 : But p H (upd H p (penO cs (t + 1) r)) := (But.refl p H).upd
      generalize upd H p (penO cs (t + 1) r) = H1 at hp1 hc1 b1
      refine ⟨_, rfl, _, _, rfl, rfl, .inl ⟨by omega, by omega⟩, _, _, rfl, rfl, ?_⟩
      refine ⟨fun σ H2 => ∃ c : Int, σ = [some (.ref p), some (.int m), none, some (.int t), some (.int c), none, none, none] ∧ But p H H2 ∧ H2 p = some (penO cs (t + 1) r) ∧ H2 cs = some (.lst (ns.map V.int)), ?_, ?_⟩
      · refine ⟨_, rfl, p, _, rfl, get_cells hp1, (by decide), fun l nl => ?_⟩
        have hp2 : upd H1 l (.lst []) p = some (penO cs (t + 1) r) := (same_upd nl) _ _ hp1
        have hc2 : upd H1 l (.lst []) cs = some (.lst (ns.map V.int)) := (same_upd nl) _ _ hc1
        have b2 : But p H (upd H1 l (.lst [])) := b1.trans (But.of_same (same_upd nl))
        have hl2 : upd H1 l (.lst []) l = some (.lst []) := upd_same
        generalize upd H1 l (.lst []) = H2 at hp2 hc2 b2 hl2
        refine ⟨cs, l, _, rfl, rfl, SqL.of hc2, SqL.of hl2, _, rfl, ?_⟩
        refine ite2 (fun he => ?_) (fun he => ?_)
        · have nl0 : ns ≠ [] := fun z => by
            subst z
            cases he
          have n0 : 1 ≤ (ns.length : Int) := by
            have := List.length_pos_iff.mpr nl0
            omega
          obtain ⟨f1, f2⟩ := fm (x := t) n0
          obtain ⟨c, hcc⟩ := at_ints f1 f2
          refine ⟨_, rfl, p, _, rfl, get_cells hp2, _, rfl, _, rfl, p, _, rfl, get_cells hp2, cs, _, rfl, .inl (SqL.of hc2), _, _, rfl, rfl, ?_, cs, _, _, .int c, rfl, rfl, SqL.of hc2, ?_, ?_⟩
          · rw [List.length_map]
            omega
          · rw [List.length_map]
            exact hcc
          · exact ⟨c, rfl, b2, hp2, hc2⟩
        · exact ⟨_, rfl, b2, hp2, hc2⟩
      · rintro σ H2 ⟨c, rfl, b2, hp2, hc2⟩
        refine ⟨fun σ H3 => σ = [some (.ref p), some (.int m), none, some (.int t), some (.int c), none, none, none] ∧ H3 = H2, ?_, ?_⟩
        · refine ⟨_, rfl, _, rfl, p, _, rfl, get_cells hp2, cs, _, rfl, .inl (SqL.of hc2), _, _, rfl, rfl, _, rfl, ?_⟩
          refine ite2 (fun _ => ?_) (fun _ => iteF ⟨rfl, rfl⟩)
          refine ⟨_, rfl, _, rfl, _, _, rfl, rfl, ?_, _, _, rfl, rfl, _, rfl, ?_⟩
          · exact ⟨by decide, by decide, by decide⟩
          refine ite2 (fun hb => ?_) (fun _ => ⟨rfl, rfl⟩)
          have hb' : (10 : Int) ^ 18 ≤ (if c < 0 then -c else c) := of_decide_eq_true hb
          refine ⟨_, rfl, _, rfl, _, _, rfl, rfl, ⟨by decide, by decide, by decide⟩, _, _, rfl, rfl, _, rfl, _, _, rfl, rfl, ⟨by omega, by omega⟩, _, rfl, p, _, rfl, put_rest hp2, ?_⟩
          refine ⟨_, rfl, _, rfl, _, _, rfl, rfl, ⟨by decide, by decide, by decide⟩, _, _, rfl, rfl, _, rfl, _, _, rfl, rfl, by omega, ?_⟩
          obtain ⟨f1, f2⟩ := fm (x := (if c < 0 then -c else c) - 10 ^ 18) m1
          refine k _ _ f1 f2 b2.upd ⟨⟨t + 1, _, upd_same, by omega, by omega, fq m1 (by show (0 : Int) ≤ (if c < 0 then -c else c) - 10 ^ 18; omega)⟩, ns, ?_, hl⟩
          rw [upd_ne hP.ne]
          exact hc2
        · rintro σ H3 ⟨rfl, rfl⟩
          refine ⟨by decide, fun l nl => ?_⟩
          have hp3 : upd H3 l (.lst [.int 2147483647, .int 2147483629, .int 2147483587, .int 2147483579, .int 2147483563]) p = some (penO cs (t + 1) r) := (same_upd nl) _ _ hp2
          have hc3 : upd H3 l (.lst [.int 2147483647, .int 2147483629, .int 2147483587, .int 2147483579, .int 2147483563]) cs = some (.lst (ns.map V.int)) := (same_upd nl) _ _ hc2
          have b3 : But p H (upd H3 l (.lst [.int 2147483647, .int 2147483629, .int 2147483587, .int 2147483579, .int 2147483563])) := b2.trans (But.of_same (same_upd nl))
          have hl3 : upd H3 l (.lst [.int 2147483647, .int 2147483629, .int 2147483587, .int 2147483579, .int 2147483563]) l = some (.lst [.int 2147483647, .int 2147483629, .int 2147483587, .int 2147483579, .int 2147483563]) := upd_same
          obtain ⟨p1, a1, g1, g2⟩ := at_primes (fm (x := t) (m := 5) (by decide))
          obtain ⟨p2, a2, g3, g4⟩ := at_primes (fm (x := t + 3) (m := 5) (by decide))
          refine ⟨_, rfl, _, rfl, _, _, rfl, rfl, (by show (5 : Int) ≠ 0; decide), l, _, _, .int p1, rfl, rfl, SqL.of hl3, a1, ?_⟩
          obtain ⟨e1, e2⟩ := fm (x := c) (m := p1) (by omega)
          have n60 : (N : Int) < 2 ^ 60 := by omega
          refine ⟨_, rfl, _, rfl, _, _, rfl, rfl, by omega, _, _, rfl, rfl, .inl ⟨by omega, by omega⟩, _, rfl, _, _, rfl, rfl, .inl ⟨by decide, by decide⟩, _, rfl, _, _, rfl, rfl, .inr ⟨by omega, by omega⟩, _, _, rfl, rfl, _, _, rfl, rfl, _, rfl, _, _, rfl, rfl, by omega, ?_⟩
          obtain ⟨e3, e4⟩ := fm (x := c.fmod p1 * 69621 + 40692 * t * t + 17) (m := p1) (by omega)
          refine ⟨_, rfl, _, rfl, _, _, rfl, rfl, _, _, rfl, rfl, .inl ⟨by omega, by omega⟩, _, rfl, _, rfl, _, _, rfl, rfl, _, _, rfl, rfl, (by show (5 : Int) ≠ 0; decide), l, _, _, .int p2, rfl, rfl, SqL.of hl3, a2, _, _, rfl, rfl, by omega, ?_⟩
          obtain ⟨e5, e6⟩ := fm (x := (c.fmod p1 * 69621 + 40692 * t * t + 17).fmod p1 * ((c.fmod p1 * 69621 + 40692 * t * t + 17).fmod p1 + 48271)) (m := p2) (by omega)
          refine ⟨_, rfl, _, rfl, _, _, rfl, rfl, .inl ⟨by omega, by omega⟩, _, _, rfl, rfl, (by show (2147483549 : Int) ≠ 0; decide), _, _, rfl, rfl, ⟨by decide, by decide⟩, _, rfl, _, _, rfl, rfl, by omega, ?_⟩
          obtain ⟨e7, e8⟩ := fm (x := _) m1
          exact k _ _ e7 e8 b3 ⟨⟨t + 1, r, hp3, by omega, by omega, r0⟩, ns, hc3, hl⟩
theorem seq_but {K : PySem.W.Frag} {H H' : Hp} {p l cs : Addr} {N : Nat} {xs : List V} (h : SqL K H l xs) (P : Pen H p cs N) (b : But p H H') : SqL K H' l xs := by
  obtain ⟨⟨t, r, hp, _⟩, _⟩ := P
  rcases h with (h | ⟨o, h⟩) | h
  · exact .inl (.inl (b _ _ h (ne_of h hp (by intro z; cases z))))
  · exact .inl (.inr ⟨o, b _ _ h (ne_of h hp (by intro z; cases z))⟩)
  · exact .inr h
theorem tup_but {K : PySem.W.Frag} {H H' : Hp} {p l cs : Addr} {N : Nat} {xs : List V} (h : SqT K H l xs) (P : Pen H p cs N) (b : But p H H') : SqT K H' l xs := by
  obtain ⟨⟨t, r, hp, _⟩, _⟩ := P
  rcases h with (h | ⟨o, h⟩) | h
  · exact .inl (.inl (b _ _ h (ne_of h hp (by intro z; cases z))))
  · exact .inl (.inr ⟨o, b _ _ h (ne_of h hp (by intro z; cases z))⟩)
  · exact .inr h
theorem at_list {xs : List V} {i : Int} (h0 : 0 ≤ i) (h1 : i < (xs.length : Int)) : ∃ v, v ∈ xs ∧ atI xs i = some v := by
  have hj : i.toNat < xs.length := by omega
  exact ⟨xs[i.toNat], List.getElem_mem hj, at_of (j := i.toNat) (by omega) (List.getElem?_eq_getElem hj)⟩
theorem at_nat {α : Type} {xs : List α} {i : Int} (h0 : 0 ≤ i) (hj : i.toNat < xs.length) : atI xs i = some xs[i.toNat] := by
  have e : i = ((i.toNat : Nat) : Int) := by omega
  have q := atI_nat (xs := xs) (List.getElem?_eq_getElem hj)
  rw [← e] at q
  exact q
def spPick (K : PySem.W.Frag) : Sp := fun vs H Q _ => ∃ (p cs : Addr) (N : Nat), Pen H p cs N ∧ N < 2 ^ 60 ∧
  ((∃ (l : Addr) (xs : List V), vs = [.ref p, .ref l] ∧ (SqL K H l xs ∨ SqT K H l xs) ∧ xs ≠ [] ∧ xs.length < 1073741824 ∧ ∀ x H', x ∈ xs → But p H H' → Pen H' p cs (N + 1) → Q x H') ∨
   ∃ z : Str, vs = [.ref p, .str z] ∧ 0 < z.length ∧ z.length < 1000000 ∧ ∀ c H', c ∈ z.cps.toList → But p H H' → Pen H' p cs (N + 1) → Q (.str ⟨#[c]⟩) H')
theorem sc_pick : FnScope ["_law_pen_here", "_law_some"] ["_law_pen_here", "_law_some"] (defScope s_L_pick) := ⟨rfl, rfl, rfl, by decide +kernel, rfl, by decide +kernel, by decide +kernel⟩
theorem c_pick (D : Def K mg "_law_pick" s_L_pick) (B : Bi mg) (CD : Callee P w K mg base CX0 1 "_law_draw" ["_law_pen_here", "_law_many"] spDraw) : Callee P w K mg base CX0 2 "_law_pick" ["_law_pen_here", "_law_some"] (spPick K) := by
  obtain ⟨f, fd, F, g⟩ := D
  refine ⟨f, fd, F.ok sc_pick (fun vs H Q E h => ?_) (fun cdv A outer s H vs Q E hr h => ?_), g, F.kp, F.bindsN (fun _ _ _ _ _ _ us hl => match us, hl with | [_, _], _ => rfl)⟩
  · obtain ⟨p, cs, N, _, _, ⟨l, xs, rfl, _⟩ | ⟨z, rfl, _⟩⟩ := h
    · rfl
    · rfl
  · have hu := hu_of hr
    have nd := sc_pick.nd
    have hr1 : Room 1 _ := hr
    refine ⟨_, PSs.nox (pss_one (ps_ret (pe_ix ix_seq (pv 1) (pe_c CD hr1 pass0 (pa_cons (pv 0) (pa_cons (pe_callB call_len (by rfl) B.n_len boot_len (pa_cons (pv 1) pa_nil)) pa_nil))) (fun _ _ => rfl)))), ?_⟩
    obtain ⟨p, cs, N, hP, hN, ⟨l, xs, rfl, hS, hne, hlen, k⟩ | ⟨z, rfl, z0, z1, k⟩⟩ := h
    · have pos := List.length_pos_iff.mpr hne
      refine ⟨_, rfl, _, rfl, _, rfl, _, xs.length, rfl, ?_, p, cs, _, N, rfl, by omega, by omega, hP, hN, fun i H' i0 i1 b P' => ?_⟩
      · rcases hS with h | h
        · exact .inl ⟨_, h, rfl⟩
        · exact .inr ⟨_, h, rfl⟩
      obtain ⟨v, hv, ha⟩ := at_list i0 i1
      rcases hS with h | h
      · exact .inl ⟨l, _, _, v, rfl, rfl, seq_but h hP b, ha, k v H' hv b P'⟩
      · exact .inr (.inl ⟨l, _, _, v, rfl, rfl, tup_but h hP b, ha, k v H' hv b P'⟩)
    · have lz : z.length ≤ sizeLine := Nat.le_trans (Nat.le_of_lt z1) (by decide)
      have ec : z.cps.toList.length = z.length := by
        show z.cps.toList.length = z.cps.size
        simp
      refine ⟨_, rfl, _, rfl, _, rfl, _, z.length, rfl, ⟨lz, rfl⟩, p, cs, _, N, rfl, by omega, by omega, hP, hN, fun i H' i0 i1 b P' => ?_⟩
      have hj : i.toNat < z.cps.toList.length := by omega
      exact .inr (.inr ⟨z, i, z.cps.toList[i.toNat], rfl, rfl, lz, at_nat i0 hj, k _ H' (List.getElem_mem hj) b P'⟩)
end
end Wk
namespace Wk
open PySem PySem.Spec PyProof.Rows L2 WkD WkN
section
variable {P : Program} {w : World} {K : PySem.W.Frag} {mg : Str → Option Value} {base : Heap}
def spBetween (K : PySem.W.Frag) : Sp := fun vs H Q _ => ∃ (x : V) (lo hi : Int), vs = [x, .int lo, .int hi] ∧ ((∃ i : Int, x = .int i ∧ Q (.bl (decide (lo ≤ i) && decide (i ≤ hi))) H) ∨ (∃ b : Bool, x = .bl b ∧ Q (.bl false) H) ∨ ∃ t, TyX K H x t ∧ PySem.W.kitOne K t (.type "int") = some false ∧ Q (.bl false) H)
theorem sc_is_between : FnScope ["value", "low", "high"] ["value", "low", "high"] (defScope s_is_between) := ⟨rfl, rfl, rfl, by decide +kernel, rfl, by decide +kernel, by decide +kernel⟩
theorem c_is_between (D : Def K mg "is_between" s_is_between) (B : Bi mg) : Callee P w K mg base CX0 1 "is_between" ["value", "low", "high"] (spBetween K) := by
  obtain ⟨f, fd, F, g⟩ := D
  refine ⟨f, fd, F.ok sc_is_between (fun vs H Q E h => ?_) (fun cdv A outer s H vs Q E hr h => ⟨_, PSs.nox (pss_one (ps_ret (pe_and (pe_callB call_isi (by rfl) B.n_isinstance (by decide +kernel) (pa_cons (pv 0) (pa_cons (pe_bltn (v := .ty "int") (by rfl) B.n_int (by decide +kernel) rfl) pa_nil))) (pe_and (pe_not (pe_callB call_isi (by rfl) B.n_isinstance (by decide +kernel) (pa_cons (pv 0) (pa_cons (pe_bltn (v := .ty "bool") (by rfl) B.n_bool (by decide +kernel) rfl) pa_nil)))) (pe_one (pe_chain op_le op_le (pv 1) (pv 0) (pv 2))))))), ?_⟩), g, F.kp, F.bindsN (fun _ _ _ _ _ _ us hl => match us, hl with | [_, _, _], _ => rfl)⟩
  · obtain ⟨x, lo, hi, rfl, _⟩ := h
    rfl
  · obtain ⟨x, lo, hi, rfl, h⟩ := h
    rcases h with ⟨i, rfl, q⟩ | ⟨b, rfl, q⟩ | ⟨t, ty, hk, q⟩
    · refine ⟨_, rfl, _, _, _, _, true, rfl, .ty _, .base (.int i), kit_ty (by decide +kernel), true, rfl, ?_⟩
      refine ⟨_, rfl, _, _, _, _, false, rfl, .ty _, .base (.int i), kit_ty (by decide +kernel), false, rfl, true, rfl, ?_⟩
      refine ⟨_, rfl, _, rfl, _, _, rfl, rfl, _, rfl, ?_⟩
      refine ite2 (fun h1 => ?_) (fun h1 => ?_)
      · refine ⟨_, rfl, _, _, rfl, rfl, ?_⟩
        rw [h1, Bool.true_and] at q
        exact q
      · rw [bF h1, Bool.false_and] at q
        exact q
    · refine ⟨_, rfl, _, _, _, _, true, rfl, .ty _, .base (.bl b), kit_ty (by decide +kernel), true, rfl, ?_⟩
      exact ⟨_, rfl, _, _, _, _, true, rfl, .ty _, .base (.bl b), kit_ty (by decide +kernel), true, rfl, false, rfl, q⟩
    · exact ⟨_, rfl, _, _, _, _, false, rfl, .ty _, ty, hk, false, rfl, q⟩
def spName (K : PySem.W.Frag) : Sp := fun vs H Q _ => (∃ z, vs = [.str z] ∧ z.length ≤ sizeLine ∧ ∀ H', Same H H' → Q (.bl (nameB z)) H') ∨ ∃ x t, vs = [x] ∧ TyX K H x t ∧ PySem.W.kitOne K t (.type "str") = some false ∧ Q (.bl false) H
theorem sc_is_name : FnScope ["value", "letter"] ["value"] (defScope s_is_name) := ⟨rfl, rfl, rfl, by decide +kernel, rfl, by decide +kernel, by decide +kernel⟩
theorem c_is_name {tL : Tok} (D : Def K mg "is_name" s_is_name) (B : Bi mg) (gL : mg "LETTERS" = some (.str letS tL)) : Callee P w K mg base CX0 1 "is_name" ["value"] (spName K) := by
  obtain ⟨f, fd, F, g⟩ := D
  refine ⟨f, fd, F.ok sc_is_name (fun vs H Q E h => ?_) (fun cdv A outer s H vs Q E hr h => ?_), g, F.kp, F.bindsN (fun _ _ _ _ _ _ us hl => match us, hl with | [_], _ => rfl)⟩
  · rcases h with ⟨z, rfl, _⟩ | ⟨x, t, rfl, _⟩
    · rfl
    · rfl
  · have nd := sc_is_name.nd
    refine ⟨_, PSs.nox (pss_one (ps_ret (pe_and (pe_callB call_isi (by rfl) B.n_isinstance (by decide +kernel) (pa_cons (pv 0) (pa_cons (pe_bltn (v := .ty "str") (by rfl) B.n_str (by decide +kernel) rfl) pa_nil))) (pe_and (pe_chain op_lt op_lt pe_int (pe_callB call_len (by rfl) B.n_len boot_len (pa_cons (pv 0) pa_nil)) pe_int) (pe_one (pe_callB (cr_all rfl) (by rfl) B.n_all (by decide +kernel) (pa_cons (pe_lc (own := [("letter", 1)]) (by rfl) nd (pi_str (pv 0)) (blkOk_by (by kernel_rfl)) (fun _ _ _ _ _ => (pg_name (i := 1) nd rfl (Or.inl rfl))) (fun _ _ _ _ _ => pts_nil) (fun _ _ _ _ _ => (pe_cmpR op_in_sign (pv 1) (pe_glob (v := .str letS) (by rfl) gL ⟨_, rfl⟩) (by rfl)))) pa_nil))))))), ?_⟩
    rcases h with ⟨z, rfl, hz, k⟩ | ⟨x, t, rfl, ty, hk, q⟩
    · refine ⟨_, rfl, _, _, _, _, true, rfl, .ty _, .base (.str z), kit_ty (by decide +kernel), true, rfl, ?_⟩
      refine ⟨_, rfl, _, z.length, rfl, ⟨hz, rfl⟩, _, _, rfl, rfl, _, rfl, ?_⟩
      unfold nameB at k
      refine ite2 (fun h1 => ?_) (fun h1 => ?_)
      · refine ⟨_, _, rfl, rfl, ?_⟩
        refine ⟨_, rfl, ?_⟩
        rw [h1, Bool.true_and] at k
        refine ite2 (fun h2 => ?_) (fun h2 => ?_)
        · rw [h2, Bool.true_and] at k
          refine ⟨_, rfl, z, rfl, fun D nD => ?_⟩
          refine lc_it (walk_str (z := z)) (fun j H3 => H3 = upd H D (.lst ((z.cps.toList.take j).map fun c => V.bl (decide (c ∈ letS.cps.toList))))) rfl ?_ ?_ ?_
          · intros
            trivial
          · rintro j x H3 H3' hj rfl ⟨rfl, c, hc, rfl⟩
            refine ⟨rfl, tYes_if ?_⟩
            refine ⟨_, rfl, c, letS, rfl, rfl, _, upd_same, ?_, ?_⟩
            · rw [List.length_map, List.length_take]
              exact Nat.lt_of_le_of_lt (Nat.min_le_left _ _) (Nat.lt_of_lt_of_le hj hz)
            · rw [upd_upd, takeS (x := c) (by rw [Array.getElem?_toList]; exact hc), List.map_append]
              rfl
          · rintro H3 rfl
            refine ⟨D, _, rfl, SqL.of (by rw [upd_same, List.take_of_length_le (by simp), List.map_map]; rfl), k _ (same_upd nD)⟩
        · rw [bF h2, Bool.false_and] at k
          exact k H fun _ _ e => e
      · rw [bF h1, Bool.false_and] at k
        exact ⟨_, rfl, iteF (k H fun _ _ e => e)⟩
    · exact ⟨_, rfl, _, _, _, _, false, rfl, .ty _, ty, hk, false, rfl, q⟩
end
end Wk
namespace Wk
open PySem PySem.Spec PyProof.Rows L2 WkD WkN LamX WkP WkE WkC
def d_is_between : WkJ.DefA := ⟨fun K => He.ga K "is_between", "is_between", "is_between", defArgs s_is_between, defBody s_is_between, defScope s_is_between, [], [], []⟩
def d_is_name : WkJ.DefA := ⟨fun K => He.ga K "is_name", "is_name", "is_name", defArgs s_is_name, defBody s_is_name, defScope s_is_name, [], [], []⟩
def d_is_tuple_of : WkJ.DefA := ⟨fun K => He.ga K "is_tuple_of", "is_tuple_of", "is_tuple_of", defArgs s_is_tuple_of, defBody s_is_tuple_of, defScope s_is_tuple_of, [], [], []⟩
def d_side_of : WkJ.DefA := ⟨fun K => He.ga K "side_of", "side_of", "side_of", defArgs s_side_of, defBody s_side_of, defScope s_side_of, [], [], []⟩
def d_last_two : WkJ.DefA := ⟨fun K => He.ga K "last_two", "last_two", "last_two", defArgs s_last_two, defBody s_last_two, defScope s_last_two, [], [], []⟩
def d_merge_rows : WkJ.DefA := ⟨fun K => He.ga K "merge_rows", "merge_rows", "merge_rows", defArgs s_merge_rows, defBody s_merge_rows, defScope s_merge_rows, [], [], []⟩
def d_least_cut : WkJ.DefA := ⟨fun K => He.ga K "least_cut", "least_cut", "least_cut", defArgs s_least_cut, defBody s_least_cut, defScope s_least_cut, [], [], []⟩
def d_strength_of : WkJ.DefA := ⟨fun K => He.ga K "strength_of", "strength_of", "strength_of", defArgs s_strength_of, defBody s_strength_of, defScope s_strength_of, [], [], []⟩
def d_can_join : WkJ.DefA := ⟨fun K => He.ga K "can_join", "can_join", "can_join", defArgs s_can_join, defBody s_can_join, defScope s_can_join, [], [], []⟩
def d_sorted_rows : WkJ.DefA := ⟨fun K => He.ga K "sorted_rows", "sorted_rows", "sorted_rows", defArgs s_sorted_rows, defBody s_sorted_rows, defScope s_sorted_rows, [], [], []⟩
def d_reached : WkJ.DefA := ⟨fun K => He.ga K "reached", "reached", "reached", defArgs s_reached, defBody s_reached, defScope s_reached, [], [], []⟩
def d_check_connected : WkJ.DefA := ⟨fun K => He.ga K "check_connected", "check_connected", "check_connected", defArgs s_check_connected, defBody s_check_connected, defScope s_check_connected, [], [], []⟩
def d_graph_of : WkJ.DefA := ⟨fun K => He.ga K "graph_of", "graph_of", "graph_of", defArgs s_graph_of, defBody s_graph_of, defScope s_graph_of, [], [], []⟩
def d_pen : WkJ.DefA := ⟨fun K => He.ga K "_law_pen", "_law_pen", "_law_pen", defArgs s_L_pen, defBody s_L_pen, defScope s_L_pen, [], [], []⟩
def d_draw : WkJ.DefA := ⟨fun K => He.ga K "_law_draw", "_law_draw", "_law_draw", defArgs s_L_draw, defBody s_L_draw, defScope s_L_draw, [], [], []⟩
def d_pick : WkJ.DefA := ⟨fun K => He.ga K "_law_pick", "_law_pick", "_law_pick", defArgs s_L_pick, defBody s_L_pick, defScope s_L_pick, [], [], []⟩
def d_weights : WkJ.DefA := ⟨fun K => He.ga K "_law_weights", "_law_weights", "_law_weights", defArgs s_L_weights, defBody s_L_weights, defScope s_L_weights, [], [], []⟩
def d_check_pair : WkJ.DefA := ⟨fun K => He.ga K "check_pair", "check_pair", "check_pair", defArgs s_check_pair, defBody s_check_pair, defScope s_check_pair, [], [], []⟩
def d_pair_strength : WkJ.DefA := ⟨fun K => He.ga K "pair_strength", "pair_strength", "pair_strength", defArgs s_pair_strength, defBody s_pair_strength, defScope s_pair_strength, [], [], []⟩
def d_pair_cut : WkJ.DefA := ⟨fun K => He.ga K "pair_cut", "pair_cut", "pair_cut", defArgs s_pair_cut, defBody s_pair_cut, defScope s_pair_cut, [], [], []⟩
def d_check_edge : WkJ.DefA := ⟨fun K => He.ga K "check_edge", "check_edge", "check_edge", defArgs s_check_edge, defBody s_check_edge, defScope s_check_edge, [], [], []⟩
def d_slack : WkJ.DefA := ⟨fun K => He.ga K "slack", "slack", "slack", defArgs s_slack, defBody s_slack, defScope s_slack, [], [], []⟩
def d_cut_tree : WkJ.DefA := ⟨fun K => He.ga K "cut_tree", "cut_tree", "cut_tree", defArgs s_cut_tree, defBody s_cut_tree, defScope s_cut_tree, [], [], []⟩
def d_cores_of : WkJ.DefA := ⟨fun K => He.ga K "cores_of", "cores_of", "cores_of", defArgs s_cores_of, defBody s_cores_of, defScope s_cores_of, [], [], []⟩
def d_raised : WkJ.DefA := ⟨fun K => He.ga K "raised", "raised", "raised", defArgs s_raised, defBody s_raised, defScope s_raised, [], [], []⟩
def d_role_by : WkJ.DefA := ⟨fun K => He.ga K "role_by", "role_by", "role_by", defArgs s_role_by, defBody s_role_by, defScope s_role_by, [], [], []⟩
def d_role : WkJ.DefA := ⟨fun K => He.ga K "role", "role", "role", defArgs s_role, defBody s_role, defScope s_role, [], [], []⟩
def d_shuffled : WkJ.DefA := ⟨fun K => He.ga K "_law_shuffled", "_law_shuffled", "_law_shuffled", defArgs s_L_shuffled, defBody s_L_shuffled, defScope s_L_shuffled, [], [], []⟩
def d_words60 : WkJ.DefA := ⟨fun K => He.ga K "_law_words", "_law_words", "_law_words", defArgs s_L_words, defBody s_L_words, defScope s_L_words, [], [], []⟩
def d_built60 : WkJ.DefA := ⟨fun K => He.ga K "_law_built_house", "_law_built_house", "_law_built_house", defArgs s_L_built_house, defBody s_L_built_house, defScope s_L_built_house, [], [], []⟩
def d_rword60 : WkJ.DefA := ⟨fun K => He.ga K "_law_ring_word", "_law_ring_word", "_law_ring_word", defArgs s_L_ring_word, defBody s_L_ring_word, defScope s_L_ring_word, [], [], []⟩
def d_ring60 : WkJ.DefA := ⟨fun K => He.ga K "_law_ring_right", "_law_ring_right", "_law_ring_right", defArgs s_L_ring_right, defBody s_L_ring_right, defScope s_L_ring_right, [], [], []⟩
def d_complete60 : WkJ.DefA := ⟨fun K => He.ga K "_law_complete_right", "_law_complete_right", "_law_complete_right", defArgs s_L_complete_right, defBody s_L_complete_right, defScope s_L_complete_right, [], [], []⟩
def d_star60 : WkJ.DefA := ⟨fun K => He.ga K "_law_star_right", "_law_star_right", "_law_star_right", defArgs s_L_star_right, defBody s_L_star_right, defScope s_L_star_right, [], [], []⟩
def d_chain60 : WkJ.DefA := ⟨fun K => He.ga K "_law_chain_right", "_law_chain_right", "_law_chain_right", defArgs s_L_chain_right, defBody s_L_chain_right, defScope s_L_chain_right, [], [], []⟩
def d_law60 : WkJ.DefA := ⟨fun K => He.ga K "law", "law", "law", defArgs s_law, defBody s_law, defScope s_law, [], [], []⟩
def d_graph_init : WkJ.DefA := ⟨fun K => He.ma K (He.ga K "Graph") "__init__", "__init__", "Graph.__init__", defArgs s_Graph_init, defBody s_Graph_init, defScope s_Graph_init, [], [], []⟩
def d_net_init : WkJ.DefA := ⟨fun K => He.ma K (He.ga K "Network") "__init__", "__init__", "Network.__init__", defArgs s_Network_init, defBody s_Network_init, defScope s_Network_init, ["__class__"], [], []⟩
def d_ck : WkJ.DefA := ⟨fun K => He.ma K (He.ga K "Network") "check_strength", "check_strength", "Network.check_strength", defArgs s_Network_check_strength, defBody s_Network_check_strength, defScope s_Network_check_strength, [], [], []⟩
def d_accept : WkJ.DefA := ⟨fun K => He.ma K (He.ga K "Network") "accept", "accept", "Network.accept", defArgs s_Network_accept, defBody s_Network_accept, defScope s_Network_accept, [], [], []⟩
def d_check_vertex : WkJ.DefA := ⟨fun K => He.ma K (He.ga K "Graph") "check_vertex", "check_vertex", "Graph.check_vertex", defArgs s_Graph_check_vertex, defBody s_Graph_check_vertex, defScope s_Graph_check_vertex, [], [], []⟩
def d_set_root : WkJ.DefA := ⟨fun K => He.ma K (He.ga K "Network") "set_root", "set_root", "Network.set_root", defArgs s_Network_set_root, defBody s_Network_set_root, defScope s_Network_set_root, [], [], []⟩
def d_unk_init : WkJ.DefA := ⟨fun K => He.ma K (He.ga K "UnknownVertex") "__init__", "__init__", "UnknownVertex.__init__", defArgs s_UnknownVertex_init, defBody s_UnknownVertex_init, defScope s_UnknownVertex_init, [], [], []⟩
def d_sea_init : WkJ.DefA := ⟨fun K => He.ma K (He.ga K "Search") "__init__", "__init__", "Search.__init__", defArgs s_Search_init, defBody s_Search_init, defScope s_Search_init, [], [], []⟩
def d_sea_levels : WkJ.DefA := ⟨fun K => He.ma K (He.ga K "Search") "levels", "levels", "Search.levels", defArgs s_Search_levels, defBody s_Search_levels, defScope s_Search_levels, [], [], []⟩
def d_sea_move : WkJ.DefA := ⟨fun K => He.ma K (He.ga K "Search") "move", "move", "Search.move", defArgs s_Search_move, defBody s_Search_move, defScope s_Search_move, [], [], []⟩
def d_sea_advance : WkJ.DefA := ⟨fun K => He.ma K (He.ga K "Search") "advance", "advance", "Search.advance", defArgs s_Search_advance, defBody s_Search_advance, defScope s_Search_advance, [], [], []⟩
def d_sea_run : WkJ.DefA := ⟨fun K => He.ma K (He.ga K "Search") "run", "run", "Search.run", defArgs s_Search_run, defBody s_Search_run, defScope s_Search_run, [], [.non], []⟩
def d_sea_arcs : WkJ.DefA := ⟨fun K => He.ma K (He.ga K "Search") "arcs", "arcs", "Search.arcs", defArgs s_Search_arcs, defBody s_Search_arcs, defScope s_Search_arcs, [], [], []⟩
def d_cores_m : WkJ.DefA := ⟨fun K => He.ma K (He.ga K "Network") "cores", "cores", "Network.cores", defArgs s_Network_cores, defBody s_Network_cores, defScope s_Network_cores, [], [], []⟩
def d_pstrength : WkJ.DefA := ⟨fun K => WkJ.geA K (He.ga K "Network") "strength", "strength", "Network.strength", defArgs s_Network_strength, defBody s_Network_strength, defScope s_Network_strength, [], [], []⟩
def d_rows_init : WkJ.DefA := ⟨fun K => He.ma K (He.ga K "Rows") "__init__", "__init__", "Rows.__init__", defArgs s_Rows_init, defBody s_Rows_init, defScope s_Rows_init, [], [], []⟩
def d_init_samevertex : WkJ.DefA := ⟨fun K => He.ma K (He.ga K "SameVertex") "__init__", "__init__", "SameVertex.__init__", defArgs s_SameVertex_init, defBody s_SameVertex_init, defScope s_SameVertex_init, [], [], []⟩
def d_init_unknownedge : WkJ.DefA := ⟨fun K => He.ma K (He.ga K "UnknownEdge") "__init__", "__init__", "UnknownEdge.__init__", defArgs s_UnknownEdge_init, defBody s_UnknownEdge_init, defScope s_UnknownEdge_init, [], [], []⟩
def da : List WkJ.DefA := [d_is_between, d_is_name, d_is_tuple_of, d_side_of, d_last_two, d_merge_rows, d_least_cut, d_strength_of, d_can_join, d_sorted_rows, d_reached, d_check_connected, d_graph_of, d_pen, d_draw, d_pick, d_weights, d_check_pair, d_pair_strength, d_pair_cut, d_check_edge, d_slack, d_cut_tree, d_cores_of, d_raised, d_role_by, d_role, d_shuffled, d_words60, d_built60, d_rword60, d_ring60, d_complete60, d_star60, d_chain60, d_law60, d_graph_init, d_net_init, d_ck, d_accept, d_check_vertex, d_set_root, d_unk_init, d_sea_init, d_sea_levels, d_sea_move, d_sea_advance, d_sea_run, d_sea_arcs, d_cores_m, d_pstrength, d_rows_init, d_init_samevertex, d_init_unknownedge]
def fa1 : List He.Fa := [.glo "is_between", .glo "is_name", .glo "is_tuple_of", .glo "side_of", .glo "last_two", .glo "merge_rows", .glo "least_cut", .glo "strength_of", .glo "can_join", .glo "sorted_rows", .glo "reached", .glo "check_connected", .glo "graph_of", .glo "_law_pen", .glo "_law_draw", .glo "_law_pick", .glo "_law_weights", .glo "check_pair", .glo "pair_strength", .glo "pair_cut", .glo "check_edge", .glo "slack", .glo "cut_tree", .glo "cores_of", .glo "raised", .glo "role_by", .glo "role", .glo "_law_shuffled", .glo "_law_words", .glo "_law_built_house", .glo "_law_ring_word", .glo "_law_ring_right", .glo "_law_complete_right", .glo "_law_star_right", .glo "_law_chain_right", .glo "law", .glo "Network", .glo "Graph", .glo "UnknownVertex", .glo "Search", .glo "SameVertex", .glo "UnknownEdge", .glo "Rows"]
def fa2 : List He.Fa := [.free "abs", .free "all", .free "any", .free "bool", .free "dict", .free "enumerate", .free "int", .free "isinstance", .free "len", .free "list", .free "max", .free "min", .free "range", .free "repr", .free "set", .free "sorted", .free "str", .free "sum", .free "tuple", .free "zip", .free "reversed", .free "super", .free "ValueError", .free "LookupError", .free "KeyError", .free "IndexError", .free "ArithmeticError", .free "OverflowError", .free "ZeroDivisionError", .free "RuntimeError", .free "TypeError"]
def fa3 : List He.Fa := [.str "LETTERS" letS, .cls "Network", .mkr "Network", .cls "Graph", .mkr "Graph", .noat "Network" "around", .noat "Network" "top", .noat "Network" "found", .noat "Network" "made", .noat "Network" "entries", .noat "Network" "running", .noat "Network" "since", .noat "Graph" "around", .noat "Graph" "top", .cls "Search", .mkr "Search", .noat "Search" "around", .noat "Search" "left", .noat "Search" "source", .noat "Search" "target", .cls "Rows", .mkr "Rows", .noat "Rows" "around", .noat "Rows" "top"]
def fa : List He.Fa := fa1 ++ (fa2 ++ fa3)
def ex (K : PySem.W.Frag) : Bool := WkG.smB K && (WkJ.conB K (He.ga K "Network") "MAX_VERTICES" 40 && (WkJ.conB K (He.ga K "Network") "MAX_WEIGHT" 1000000000 && (decide (PySem.W.mroIn K (He.ga K "Network") (.ref (He.ga K "Network")) = some true) && (He.eqO (PySem.W.ks_superIn K (He.ga K "Network") (He.ga K "Network") "__init__") (some (some (.ref (He.ma K (He.ga K "Graph") "__init__")))) && (PySem.W.fnIn K (He.ma K (He.ga K "Graph") "__init__") && (PySem.W.isFn K (.ref (He.ma K (He.ga K "Graph") "__init__")) && (WkJ.supB (PySem.Challenge.rw_weakcuts_k60_whole_great_networks).prog K (He.ga K "Network") (He.ma K (He.ga K "Network") "__init__") && ((PySem.W.clsIn K (He.ga K "Network")).isSome && (He.eqO (PySem.W.nsIn K cStatics "thirdparty.any") (some none) && (WkJ.conB K (He.ga K "Graph") "MAX_VERTICES" 40 && (WkJ.conB K (He.ga K "Graph") "MAX_WEIGHT" 1000000000 && (WkJ.methB K (He.ga K "Network") (He.ga K "Network") "check_strength" && (WkJ.methB K (He.ga K "Network") (He.ga K "Network") "accept" && (WkJ.methB K (He.ga K "Network") (He.ga K "Graph") "check_vertex" && (WkJ.methB K (He.ga K "Network") (He.ga K "Network") "set_root" && (WkX.excB K "UnknownVertex" "value" WkX.bK "LookupError.__new__" && (WkJ.methB K (He.ga K "Search") (He.ga K "Search") "levels" && (WkJ.methB K (He.ga K "Search") (He.ga K "Search") "move" && (WkJ.methB K (He.ga K "Search") (He.ga K "Search") "advance" && (WkJ.methB K (He.ga K "Search") (He.ga K "Search") "run" && (WkJ.methB K (He.ga K "Search") (He.ga K "Search") "arcs" && (WkX.excB K "SameVertex" "value" WkX.bV "ValueError.__new__" && (WkX.excB K "UnknownEdge" "value" WkX.bK "LookupError.__new__" && (WkJ.propB K (He.ga K "Network") "strength" && (WkJ.methB K (He.ga K "Network") (He.ga K "Network") "cores" && (true))))))))))))))))))))))))))
def tf : List He.Defn := [("last_two", none)]
abbrev R : PySem.W.OpenRow := PySem.W.OpenLaw.row PySem.Challenge.rw_weakcuts_k60_whole_great_networks
abbrev hk : PySem.W.Hook := WkJ.hookB 7 fa da tf ex
def ob (s : PySem.W.SharedT) : WkJ.Al := WkJ.obsB 7 fa da tf ex (HandSHeadRun.getT s)
theorem ob_eq (s : PySem.W.SharedT) : ob s = hk.obs s.abs := WkJ.obsB_eq (HandSHeadRun.getT_eq s)
def loose1 : List PySem.Str := ["_wall", "__name__", "InvalidVertex", "InvalidEdge", "Disconnected", "UnknownVertex", "UnknownEdge", "SameVertex", "LETTERS", "is_between", "is_name", "is_tuple_of", "check_pair", "Search", "Rows", "side_of", "last_two", "merge_rows", "least_cut", "strength_of", "pair_cut", "pair_strength", "cut_tree", "cores_of"]
def loose2 : List PySem.Str := ["Graph", "can_join", "sorted_rows", "reached", "check_connected", "Network", "graph_of", "check_edge", "raised", "role_by", "role", "slack", "_law_pen", "_law_draw", "_law_pick", "_law_shuffled", "_law_weights", "_law_words", "_law_built_house", "_law_ring_word", "_law_ring_right", "_law_complete_right", "_law_star_right", "_law_chain_right"]
abbrev loose : List PySem.Str := loose1 ++ loose2
theorem run (w : World) : HandSHeadRun.RunEq R (PySem.W.view R.prog [56]) hk ob 20000 loose w := by
  intro os
  kernel_rfl
end Wk
namespace Wk
open PySem PySem.Spec PyProof.Rows L2 WkD WkN
section
variable {P : Program} {w : World} {K : PySem.W.Frag} {mg : Str → Option Value} {base : Heap}
def spTupleOf (K : PySem.W.Frag) : Sp := fun vs H Q _ => ∃ (x : V) (n : Int), vs = [x, .int n] ∧ ((∃ a xs, x = .ref a ∧ SqT K H a xs ∧ xs.length ≤ sizeLine ∧ TyX K H x (.type "tuple") ∧ Q (.bl (decide ((xs.length : Int) = n))) H) ∨ ∃ t, TyX K H x t ∧ PySem.W.kitOne K t (.type "tuple") = some false ∧ Q (.bl false) H)
theorem sc_is_tuple_of : FnScope ["value", "size"] ["value", "size"] (defScope s_is_tuple_of) := ⟨rfl, rfl, rfl, by decide +kernel, rfl, by decide +kernel, by decide +kernel⟩
theorem c_is_tuple_of (D : Def K mg "is_tuple_of" s_is_tuple_of) (B : Bi mg) : Callee P w K mg base CX0 1 "is_tuple_of" ["value", "size"] (spTupleOf K) := by
  obtain ⟨f, fd, F, g⟩ := D
  refine ⟨f, fd, F.ok sc_is_tuple_of (fun vs H Q E h => ?_) (fun cdv A outer s H vs Q E hr h => ⟨_, PSs.nox (pss_one (ps_ret (pe_and (pe_callB call_isi (by rfl) B.n_isinstance (by decide +kernel) (pa_cons (pv 0) (pa_cons (pe_bltn (v := .ty "tuple") (by rfl) B.n_tuple (by decide +kernel) rfl) pa_nil))) (pe_one (pe_cmpR op_eq (pe_callB call_len_seq (by rfl) B.n_len (by decide +kernel) (pa_cons (pv 0) pa_nil)) (pv 1) (nomark _)))))), ?_⟩), g, F.kp, F.bindsN (fun _ _ _ _ _ _ us hl => match us, hl with | [_, _], _ => rfl)⟩
  · obtain ⟨x, n, rfl, _⟩ := h
    rfl
  · obtain ⟨x, n, rfl, h⟩ := h
    rcases h with ⟨a, xs, rfl, hT, hl, ty, q⟩ | ⟨t, ty, hk, q⟩
    · refine ⟨_, rfl, _, _, _, _, true, rfl, .ty _, ty, kit_ty (by decide +kernel), true, rfl, ?_⟩
      refine ⟨_, rfl, a, xs, rfl, .inr hT, _, rfl, rfl, ?_⟩
      have e : decide (V.int (xs.length : Int) = V.int n) = decide ((xs.length : Int) = n) := by
        by_cases h : (xs.length : Int) = n
        · rw [decide_eq_true h, decide_eq_true (by rw [h])]
        · rw [decide_eq_false h, decide_eq_false (fun z => h (V.int.inj z))]
      rw [e]
      exact q
    · exact ⟨_, rfl, _, _, _, _, false, rfl, .ty _, ty, hk, false, rfl, q⟩
def joinB (ks : List Str) (u v : Str) : Bool := nameB u && (nameB v && (!decide (u = v) && (decide (u ∈ ks) && decide (v ∈ ks))))
def spJoin : Sp := fun vs H Q _ => ∃ (a : Addr) (ks : List Str) (g : Str → V) (u v : Str), vs = [.ref a, .str u, .str v] ∧ Rd H a (.dK (dct ks g)) ∧ u.length ≤ sizeLine ∧ v.length ≤ sizeLine ∧ ∀ H', Same H H' → Q (.bl (joinB ks u v)) H'
theorem rdS {H H' : Hp} {a : Addr} {o : HO} (e : Same H H') (h : Rd H a o) : Rd H' a o := by
  rcases h with h | ⟨u, h⟩
  · exact .inl (e _ _ h)
  · exact .inr ⟨u, e _ _ h⟩
theorem sc_can_join : FnScope ["around", "u", "v"] ["around", "u", "v"] (defScope s_can_join) := ⟨rfl, rfl, rfl, by decide +kernel, rfl, by decide +kernel, by decide +kernel⟩
theorem c_can_join (D : Def K mg "can_join" s_can_join) (CN : Callee P w K mg base CX0 1 "is_name" ["value"] (spName K)) : Callee P w K mg base CX0 2 "can_join" ["around", "u", "v"] spJoin := by
  obtain ⟨f, fd, F, g⟩ := D
  refine ⟨f, fd, F.ok sc_can_join (fun vs H Q E h => ?_) (fun cdv A outer s H vs Q E hr h => ?_), g, F.kp, F.bindsN (fun _ _ _ _ _ _ us hl => match us, hl with | [_, _, _], _ => rfl)⟩
  · obtain ⟨a, ks, g, u, v, rfl, _⟩ := h
    rfl
  · have hr1 : Room 1 _ := hr
    have hu := hu_of hr
    refine ⟨_, PSs.nox (pss_one (ps_ret (pe_and (pe_c CN hr1 pass0 (pa_cons (pv 1) pa_nil)) (pe_and (pe_c CN hr1 pass0 (pa_cons (pv 2) pa_nil)) (pe_and (pe_cmpR op_ne (pv 1) (pv 2) (nomark _)) (pe_and (pe_cmp (pc_din hu (pv 1) (pv 0))) (pe_one (pe_cmp (pc_din hu (pv 2) (pv 0)))))))))), ?_⟩
    obtain ⟨a, ks, g, u, v, rfl, hR, hlu, hlv, k⟩ := h
    unfold joinB at k
    refine ⟨_, rfl, .inl ⟨u, rfl, hlu, fun H1 s1 => ?_⟩⟩
    refine ⟨_, rfl, ite2 (fun h1 => ?_) (fun h1 => ?_)⟩
    · rw [h1, Bool.true_and] at k
      refine ⟨_, rfl, .inl ⟨v, rfl, hlv, fun H2 s2 => ?_⟩⟩
      refine ⟨_, rfl, ite2 (fun h2 => ?_) (fun h2 => ?_)⟩
      · rw [h2, Bool.true_and] at k
        have e : decide (V.str u = V.str v) = decide (u = v) := by
          by_cases h : u = v
          · rw [decide_eq_true h, decide_eq_true (by rw [h])]
          · rw [decide_eq_false h, decide_eq_false (fun z => h (V.str.inj z))]
        have s12 := s1.trans s2
        refine ⟨_, rfl, _, rfl, rfl, _, rfl, ?_⟩
        rw [e]
        refine ite2 (fun h3 => ?_) (fun h3 => ?_)
        · rw [h3, Bool.true_and] at k
          refine ⟨_, rfl, _, rfl, a, _, rfl, get_x (rdS s12 hR), _, rfl, ?_⟩
          have eo : ∀ x : Str, (if x ∈ ks then some (g x) else none).isSome = decide (x ∈ ks) := fun x => by
            by_cases h : x ∈ ks
            · rw [if_pos h, decide_eq_true h]
              rfl
            · rw [if_neg h, decide_eq_false h]
              rfl
          rw [eo]
          refine ite2 (fun h4 => ?_) (fun h4 => ?_)
          · rw [h4, Bool.true_and] at k
            refine ⟨_, rfl, _, rfl, a, _, rfl, get_x (rdS s12 hR), ?_⟩
            rw [eo]
            exact k _ s12
          · rw [bF h4, Bool.false_and] at k
            exact k _ s12
        · rw [bF h3, Bool.false_and] at k
          exact k _ s12
      · rw [bF h2, Bool.false_and] at k
        exact k _ (s1.trans s2)
    · rw [bF h1, Bool.false_and] at k
      exact k _ s1
end
end Wk
namespace Wk
open PySem PySem.Spec PyProof.Rows L2 WkD WkN LamX WkP
section
variable {P : Program} {w : World} {K : PySem.W.Frag} {mg : Str → Option Value} {base : Heap}
def Ebut (l : Addr) (H H' : Hp) : Prop := ∀ b o, H b = some o → b ≠ l → (∀ ps, o ≠ .tbl ps) → H' b = some o
theorem Ebut.ext {l : Addr} {H H' : Hp} (e : Ebut l H H') (h : H l = none) : Ext H H' := fun b o hb n => e b o hb (ne_of_none hb h) n
theorem Ebut.trans {l : Addr} {H H1 H2 : Hp} (a : Ebut l H H1) (b : Ebut l H1 H2) : Ebut l H H2 := fun c o h n t => b c o (a c o h n t) n t
theorem Ebut.of {l : Addr} {H H' : Hp} (e : Ext H H') : Ebut l H H' := fun b o h _ n => e b o h n
theorem Ebut.upd {l : Addr} {H H1 : Hp} {o : HO} (a : Ebut l H H1) : Ebut l H (L2.upd H1 l o) := fun c u e h n => by
  rw [upd_ne h]
  exact a c u e h n
theorem Ebut.put {l p : Addr} {H H1 : Hp} {o : HO} (a : Ebut l H H1) (h : H p = none) : Ebut l H (L2.upd H1 p o) := fun c u e hc n => by
  rw [upd_ne (ne_of_none e h)]
  exact a c u e hc n
theorem tabs_put {T : List (Addr × Str)} {H : Hp} {p : Addr} {o : HO} (t : Tabs T H) (h : H p = none) : Tabs T (upd H p o) := t.ext (same_upd h)
theorem tabs_mut {T : List (Addr × Str)} {H : Hp} {p : Addr} {o u : HO} (t : Tabs T H) (h : H p = some u) (n : ∀ ps, u ≠ .tbl ps) (hx : ∀ c q, u ≠ CodeO c q) : Tabs T (upd H p o) := fun x hx' => by
  obtain ⟨ps, h1, h2, h3⟩ := t x hx'
  refine ⟨ps, by rw [upd_ne (fun z => n ps (Option.some.inj (h.symm.trans (by rw [← z]; exact h1))))]; exact h1, h2, fun pos cv hc => ?_⟩
  obtain ⟨c, e1, e2⟩ := h3 pos cv hc
  exact ⟨c, e1, by rw [upd_ne (fun z => hx c _ (Option.some.inj (h.symm.trans (by rw [← z]; exact e2))))]; exact e2⟩
theorem dk_tbl {kvs : List (Key × V)} : ∀ ps, HO.dK kvs ≠ .tbl ps := fun ps z => by cases z
theorem dk_code {kvs : List (Key × V)} : ∀ c q, HO.dK kvs ≠ CodeO c q := fun c q z => by
  unfold CodeO at z
  cases z
theorem fz_tbl {o : Obj} {u : HO} : ∀ ps, HO.frz o u ≠ .tbl ps := fun ps z => by cases z
theorem fz_code {o : Obj} {u : HO} : ∀ c q, HO.frz o u ≠ CodeO c q := fun c q z => by
  unfold CodeO at z
  cases z
def spLast (T : List (Addr × Str)) : Sp := fun vs H Q _ => ∃ (a : Addr) (Vs : List Str) (ad : Str → Addr) (nb : Nb) (wt : Wt), vs = [.ref a] ∧ RowsM H a Vs ad nb wt ∧ (∀ u ∈ Vs, (nb u).Nodup) ∧ 2 ≤ Vs.length ∧ Vs.length < 1000 ∧ Tabs T H ∧
  ∀ p x l n H', Ext H H' → Tabs T H' → H' p = some (.tup [.str x, .str l, .int n]) → LastTwo nb wt Vs x l n → Q (.ref p) H'
def leftO (nb : Nb) (wt : Wt) (Vs done : List Str) : HO := .dK (dct (Vs.filter fun u => decide (u ∉ done)) fun u => .int (conn nb wt done u))
theorem sc_last_two : FnScope ["rows", "left", "weight", "u", "ahead", "last", "v", "more"] ["rows"] (defScope s_last_two) := ⟨rfl, rfl, rfl, by decide +kernel, rfl, by decide +kernel, by decide +kernel⟩
theorem c_last_two {c PT : Addr} {tbT : List (Addr × Str)} (D : Def K mg "last_two" s_last_two) (B : Bi mg) (TB : TabB base mg c PT) (hmT : (PT, ("last_two.<locals>.<lambda>" : Str)) ∈ tbT) (huT : ∀ p ∈ tbT, p.1 = PT → p.2 = ("last_two.<locals>.<lambda>" : Str)) (hC : ∀ f, mg "last_two" = some (.ref f) → WkL.CodeIs K f c) :
    Callee P w K mg base CX0 3 "last_two" ["rows"] (spLast tbT) := by
  obtain ⟨f, fd, F, g⟩ := D
  refine ⟨f, fd, WkL.okC F sc_last_two (hC f g) (fun vs H Q E h => ?_) (fun A outer s H vs Q E hr h => ?_), g, F.kp, F.bindsN (fun _ _ _ _ _ _ us hl => match us, hl with | [_], _ => rfl)⟩
  · obtain ⟨a, Vs, ad, nb, wt, rfl, _⟩ := h
    rfl
  · have hu := hu_of hr
    have nd := sc_last_two.nd
    have hr2 : Room 2 _ := hr
    refine ⟨_, PSs.nox (pss_cons (ps_asg (pe_tup (pa_cons (pe_lock (pe_dc (own := [("u", 3)]) (by rfl) nd (pi_keys (pv 0)) (blkOk_by (by kernel_rfl)) (fun _ _ _ _ _ => (pg_name (i := 3) nd rfl (Or.inl rfl))) (fun _ _ _ _ _ => pts_nil) (fun _ _ _ _ _ => (pv 3)) (fun _ _ _ _ _ => pe_int))) (pa_cons pe_int pa_nil))) (WkN.pgT K 2 rfl rfl (pgs_cons (pg_name (i := 1) nd rfl (Or.inr rfl)) (pgs_cons (pg_name (i := 2) nd rfl (Or.inl rfl)) pgs_nil)) rfl))
      (pss_cons (ps_asg2 pe_non (pg_name (i := 4) nd rfl (Or.inl rfl)) (pg_name (i := 5) nd rfl (Or.inl rfl)))
      (pss_cons (ps_while PassesOwn.never (pt_cmpR (WkD.op_neE hr.units0) (pv 1) pe_dnewK (nomark _))
      (pss_cons (ps_par (i := 4) (j := 5) (by rfl) nd rfl rfl (by decide) rfl rfl (pa_cons (pv 5) (pa_cons (WkL.pe_maxLam (u := "u") (i := 3) (k := 0) (T := tbT) (by rfl) (by rfl) B.n_max (pa_cons (pe_callTy (call_listD rfl) (by rfl) B.n_list (by decide +kernel) (pa_cons (pv 1) pa_nil)) pa_nil) TB rfl hmT huT hr2 ⟨rfl, rfl, rfl, by decide +kernel, by decide +kernel, by decide +kernel, by show ∀ y : Str × NameKind, y ∈ _ → _ → (defScope s_last_two).names.lookup y.1 = _ ∨ (defScope s_last_two).names.lookup y.1 = _; decide +kernel⟩ rfl nd rfl (fun _ _ _ _ _ _ => rfl) (fun _ _ _ _ _ _ hr9 => pe_dget (hu_of hr9) (pv 1) (pv 3) (fun _ _ => rfl))) pa_nil)) (by rfl))
      (pss_cons (ps_set (i := 2) nd rfl (Or.inl rfl) (pe_dpop1 (pv 1) (pv 5) ⟨rfl, rfl, rfl, rfl⟩))
      (pss_one (ps_lock (ps_for PassesOwn.never rfl (pi_items (pe_dget hu (pv 0) (pv 5) (fun _ _ => rfl))) (WkN.pgT K 2 rfl rfl (pgs_cons (pg_name (i := 6) nd rfl (Or.inl rfl)) (pgs_cons (pg_name (i := 7) nd rfl (Or.inl rfl)) pgs_nil)) rfl)
      (pss_one (ps_if (pt_cmp (pc_din hu (pv 6) (pv 1)))
      (pss_one (ps_daug hu (pv 1) (pv 6) (pv 7) in_add (fun _ _ _ => rfl))) pss_nil))))))))
      (pss_one (ps_ret (pe_tup (pa_cons (pv 4) (pa_cons (pv 5) (pa_cons (pv 2) pa_nil))))))))), ?_⟩
    obtain ⟨a, Vs, ad, nb, wt, rfl, R, hnb, h2, hsz, hT, k⟩ := h
    refine ⟨a, _, R.top, trivial, fun od => ?_⟩
    have e0 : upd H a (.frz od (.dK (dct Vs fun u => .ref (ad u)))) a = some (.frz od (.dK (dct Vs fun u => .ref (ad u)))) := upd_same
    refine ⟨_, rfl, a, od, rfl, .inl ⟨_, e0, fun l nl => ?_⟩⟩
    have nla : l ≠ a := fun z => by
      rw [z, upd_same] at nl
      cases nl
    have nlH : H l = none := by
      rw [upd_ne nla] at nl
      exact nl
    refine dc_it (walk_keys (kvs := dct Vs fun u => .ref (ad u))) (fun i H2 => H2 = upd (upd H a (.frz od (.dK (dct Vs fun u => .ref (ad u))))) l (.dK (dct (Vs.take i) fun _ => .int 0))) rfl ?_ ?_ ?_
    · rintro i H2 hi rfl
      rw [upd_ne (Ne.symm nla), upd_same]
    · rintro i x H2 H2' hi rfl ⟨rfl, k0, v0, hk, rfl⟩
      rw [dct_at] at hk
      rw [dct_len] at hi
      rw [List.getElem?_eq_getElem hi] at hk
      cases hk
      refine ⟨rfl, tYes_if ?_⟩
      refine ⟨_, rfl, _, Sum.inr Vs[i], rfl, upd_same, ?_, ?_⟩
      · rw [dct_len, List.length_take]
        exact Nat.lt_of_le_of_lt (Nat.min_le_right _ _) (Nat.lt_trans hsz (by decide))
      · have hn : Vs[i] ∉ Vs.take i := fun z => by
          obtain ⟨j, hj, e⟩ := List.mem_iff_getElem.mp z
          rw [List.length_take] at hj
          rw [List.getElem_take] at e
          have := (List.getElem_inj R.nd).mp e
          omega
        rw [upd_upd, takeS (List.getElem?_eq_getElem hi), dct_put_new hn]
        congr 2
        exact dct_congr fun v _ => by split <;> rfl
    · rintro H2 rfl
      rw [dct_len, List.take_length]
      refine ⟨by rw [upd_ne (Ne.symm nla), upd_same], ?_⟩
      generalize gg : upd (upd (upd H a (.frz od (.dK (dct Vs fun u => .ref (ad u))))) l (.dK (dct Vs fun _ => .int 0))) a (.dK (dct Vs fun u => .ref (ad u))) = H3
      have E3 : Ebut l H H3 := fun b o hb hne _ => by
        rw [← gg]
        by_cases e : b = a
        · subst e
          rw [upd_same, ← hb, R.top]
        · rw [upd_ne e, upd_ne hne, upd_ne e]
          exact hb
      have L3 : H3 l = some (.dK (dct Vs fun _ => .int 0)) := by
        rw [← gg, upd_ne nla, upd_same]
      have T3 : Tabs tbT H3 := by
        rw [← gg]
        exact tabs_mut (tabs_put (tabs_mut hT R.top dk_tbl dk_code) nl) (by rw [upd_ne (Ne.symm nla), upd_same]) fz_tbl fz_code
      clear gg e0
      refine ⟨by show 2 ≤ sizeLine; decide, fun p np => ?_⟩
      have pl : p ≠ l := fun z => by
        rw [z, L3] at np
        cases np
      have E4 : Ebut l H (upd H3 p (.tup [.ref l, .int 0])) := E3.trans (Ebut.of (Ext.of (same_upd np)))
      have L4 : upd H3 p (.tup [.ref l, .int 0]) l = some (.dK (dct Vs fun _ => .int 0)) := (same_upd np) _ _ L3
      have T4 := tabs_put (o := .tup [.ref l, .int 0]) T3 np
      have P4 : upd H3 p (.tup [.ref l, .int 0]) p = some (.tup [.ref l, .int 0]) := upd_same
      generalize upd H3 p (.tup [.ref l, .int 0]) = H4 at E4 L4 T4 P4
      refine ⟨p, _, rfl, .inl (.inl P4), rfl, ?_⟩
      have fl : ∀ done : List Str, (Vs.filter fun u => decide (u ∉ done)).length ≤ Vs.length := fun done => List.length_filter_le _ _
      refine ⟨_, _, rfl, _, _, rfl, rfl, ?_⟩
      refine ⟨fun m σ H2 => ∃ (done : List Str) (wg ah la : V) (x3 x6 x7 : Option V), σ = [some (.ref a), some (.ref l), some wg, x3, some ah, some la, x6, x7] ∧ Ebut l H H2 ∧ Tabs tbT H2 ∧ H2 l = some (leftO nb wt Vs done) ∧ Pre nb wt Vs done ∧ Tail nb wt done ah la wg ∧ m = (Vs.filter fun u => decide (u ∉ done)).length,
        ⟨_, [], .int 0, .non, .non, none, none, none, rfl, E4, T4, ?_, Pre.nil nb wt Vs, .inl ⟨rfl, rfl⟩, rfl⟩, ?_⟩
      · rw [L4]
        unfold leftO
        rw [show (Vs.filter fun u => decide (u ∉ ([] : List Str))) = Vs from List.filter_eq_self.mpr fun u _ => by simp]
        rfl
      rintro m σ H5 ⟨done, wg, ah, la, x3, x6, x7, rfl, E5, T5, L5, hP, hTl, rfl⟩
      refine ⟨_, rfl, fun q nq => ?_⟩
      have E6 : Ebut l H (upd H5 q (.dK [])) := E5.trans (Ebut.of (Ext.of (same_upd nq)))
      have T6 := tabs_put (o := .dK []) T5 nq
      have L6 : upd H5 q (.dK []) l = some (leftO nb wt Vs done) := (same_upd nq) _ _ L5
      have Q6 : upd H5 q (.dK []) q = some (.dK []) := upd_same
      generalize upd H5 q (.dK []) = H6 at E6 T6 L6 Q6
      refine ⟨l, q, _, rfl, rfl, .inl L6, Q6, _, rfl, ?_⟩
      refine ite2 (fun hb => ?_) (fun hb => ?_)
      · -- a turn
        have hne : (Vs.filter fun u => decide (u ∉ done)) ≠ [] := fun z => by
          rw [z] at hb
          cases hb
        refine ⟨fun σ' H' => ∃ (done' : List Str) (wg ah la : V) (x3 x6 x7 : Option V), σ' = [some (.ref a), some (.ref l), some wg, x3, some ah, some la, x6, x7] ∧ Ebut l H H' ∧ Tabs tbT H' ∧ H' l = some (leftO nb wt Vs done') ∧ Pre nb wt Vs done' ∧ Tail nb wt done' ah la wg ∧ (Vs.filter fun u => decide (u ∉ done')).length < (Vs.filter fun u => decide (u ∉ done)).length, ?_, ?_⟩
        · rintro σ' H' ⟨done', wg, ah, la, x3, x6, x7, h1, h2, h3, h4, h5, h6, h7⟩
          exact ⟨_, h7, done', wg, ah, la, x3, x6, x7, h1, h2, h3, h4, h5, h6, rfl⟩
        refine ⟨_, rfl, _, rfl, l, _, rfl, .inl L6, fun p1 np1 => ?_⟩
        have e1 : (dct (Vs.filter fun u => decide (u ∉ done)) fun u => V.int (conn nb wt done u)).map (fun kv => kV kv.1) = (Vs.filter fun u => decide (u ∉ done)).map V.str := by
          unfold dct
          rw [List.map_map]
          rfl
        rw [e1]
        have E7 : Ebut l H (upd H6 p1 (.lst ((Vs.filter fun u => decide (u ∉ done)).map V.str))) := E6.trans (Ebut.of (Ext.of (same_upd np1)))
        have T7 := tabs_put (o := .lst ((Vs.filter fun u => decide (u ∉ done)).map V.str)) T6 np1
        have L7 : upd H6 p1 (.lst ((Vs.filter fun u => decide (u ∉ done)).map V.str)) l = some (leftO nb wt Vs done) := (same_upd np1) _ _ L6
        have P7 : upd H6 p1 (.lst ((Vs.filter fun u => decide (u ∉ done)).map V.str)) p1 = some (.lst ((Vs.filter fun u => decide (u ∉ done)).map V.str)) := upd_same
        generalize upd H6 p1 (.lst ((Vs.filter fun u => decide (u ∉ done)).map V.str)) = H7 at E7 T7 L7 P7
        refine ⟨p1, _, (Vs.filter fun u => decide (u ∉ done)).map (conn nb wt done), rfl, P7, by simpa using hne, by simp, T7, fun H8 e8 T8 => ⟨fun j v n hv hn => ?_, fun j v hv hmax => ?_⟩⟩
        · have L8 := e8 _ _ L7 dk_tbl
          rw [List.getElem?_map] at hv hn
          cases ej : (Vs.filter fun u => decide (u ∉ done))[j]? with
          | none => rw [ej] at hv; cases hv
          | some x =>
            rw [ej] at hv hn
            cases hv
            cases hn
            exact ⟨_, rfl, _, rfl, l, _, rfl, get_d (.inl L8) (List.mem_of_getElem? ej), rfl, rfl⟩
        rw [List.getElem?_map] at hv
        cases ej : (Vs.filter fun u => decide (u ∉ done))[j]? with
        | none => rw [ej] at hv; cases hv
        | some x =>
          rw [ej] at hv
          cases hv
          have E8 : Ebut l H H8 := E7.trans (Ebut.of e8)
          have L8 : H8 l = some (leftO nb wt Vs done) := e8 _ _ L7 dk_tbl
          clear e8 E7 T7 L7 P7 E6 T6 L6 Q6 E5 T5 L5
          have hxl := List.mem_of_getElem? ej
          obtain ⟨hxV, hxd⟩ := List.mem_filter.mp hxl
          have hxd : x ∉ done := of_decide_eq_true hxd
          have hbest : ∀ u ∈ Vs, u ∉ done → conn nb wt done u ≤ conn nb wt done x := by
            intro u hu hd
            obtain ⟨n, hn, hall⟩ := hmax
            rw [List.getElem?_map, ej] at hn
            cases hn
            obtain ⟨i, hi, e⟩ := List.mem_iff_getElem.mp (List.mem_filter.mpr ⟨hu, decide_eq_true hd⟩ : u ∈ Vs.filter fun u => decide (u ∉ done))
            exact (hall i _ (by rw [List.getElem?_map, List.getElem?_eq_getElem hi, e] <;> rfl)).1
          refine ⟨_, _, rfl, ?_⟩
          refine ⟨_, rfl, l, rfl, .inl ⟨_, .inl L8⟩, _, rfl, _, Sum.inr x, _, L8, rfl, dct_in hxl, ?_⟩
          rw [dct_drop]
          have ek : ((Vs.filter fun u => decide (u ∉ done)).filter fun y => decide (y ≠ x)) = Vs.filter fun u => decide (u ∉ done ++ [x]) := by
            rw [List.filter_filter]
            refine List.filter_congr fun u _ => ?_
            by_cases h1 : u = x
            · subst h1
              simp
            · by_cases h2 : u ∈ done
              · simp [h2]
              · simp [h1, h2]
          rw [ek]
          have E9 : Ebut l H (upd H8 l (.dK (dct (Vs.filter fun u => decide (u ∉ done ++ [x])) fun u => .int (conn nb wt done u)))) := E8.upd
          have T9 := tabs_mut (o := .dK (dct (Vs.filter fun u => decide (u ∉ done ++ [x])) fun u => .int (conn nb wt done u))) T8 L8 dk_tbl dk_code
          have L9 : upd H8 l (.dK (dct (Vs.filter fun u => decide (u ∉ done ++ [x])) fun u => .int (conn nb wt done u))) l = some (.dK (dct (Vs.filter fun u => decide (u ∉ done ++ [x])) fun u => .int (conn nb wt done u))) := upd_same
          generalize upd H8 l (.dK (dct (Vs.filter fun u => decide (u ∉ done ++ [x])) fun u => .int (conn nb wt done u))) = H9 at E9 T9 L9
          have nra : ad x ≠ l := ne_of_none (R.row x hxV) nlH
          have nrl : a ≠ l := Ne.symm nla
          have R9 := E9 _ _ (R.row x hxV) nra dk_tbl
          have A9 := E9 _ _ R.top nrl dk_tbl
          refine ⟨ad x, _, R9, trivial, fun od2 => ?_⟩
          have nax := R.ne hxV
          refine ⟨_, rfl, _, rfl, a, _, rfl, get_d (.inl (by rw [upd_ne (Ne.symm nax)]; exact A9)) hxV, ad x, od2, _, rfl, upd_same, ?_⟩
          have fr : ∀ b o, H9 b = some o → b ≠ ad x → upd H9 (ad x) (.frz od2 (.dK (dct (nb x) fun v => .int (wt x v)))) b = some o := fun b o hb hne => by
            rw [upd_ne hne]
            exact hb
          have Z9 : upd H9 (ad x) (.frz od2 (.dK (dct (nb x) fun v => .int (wt x v)))) (ad x) = some (.frz od2 (.dK (dct (nb x) fun v => .int (wt x v)))) := upd_same
          have L9z := fr _ _ L9 (Ne.symm nra)
          have T9z : Tabs tbT (upd H9 (ad x) (.frz od2 (.dK (dct (nb x) fun v => .int (wt x v))))) := tabs_mut T9 R9 dk_tbl dk_code
          generalize upd H9 (ad x) (.frz od2 (.dK (dct (nb x) fun v => .int (wt x v)))) = Hz at fr Z9 L9z T9z
          have sz : (Vs.filter fun u => decide (u ∉ done ++ [x])).length < sizeLine := Nat.lt_of_le_of_lt (fl _) (Nat.lt_trans hsz (by decide))
          refine for_it (walk_items (kvs := dct (nb x) fun v => .int (wt x v))) (fun i σ Hc => ∃ x6 x7 : Option V, σ = [some (.ref a), some (.ref l), some (.int (conn nb wt done x)), x3, some la, some (.str x), x6, x7] ∧ Ebut l Hz Hc ∧ Tabs tbT Hc ∧
            Hc l = some (.dK (dct (Vs.filter fun u => decide (u ∉ done ++ [x])) fun u => .int (conn nb wt done u + if u ∈ (nb x).take i then wt x u else 0)))) ⟨x6, x7, rfl, fun b o hb _ _ => hb, T9z, ?_⟩ ?_ ?_ ?_
          · rw [L9z]
            congr 2
            exact dct_congr fun u _ => by simp
          · rintro i σ Hc hi ⟨x6, x7, rfl, Ec, Tc, Lc⟩
            exact Ec _ _ Z9 nra fz_tbl
          · rintro i y σ Hc Hc' hi ⟨x6, x7, rfl, Ec, Tc, Lc⟩ ⟨T, kx, vx, rfl, nT, rfl, hk, hv⟩
            rw [dct_len] at hi
            dsimp only at hk hv
            rw [dct_at, List.getElem?_eq_getElem hi] at hk hv
            cases hk
            cases hv
            have Ed : Ebut l Hz (upd Hc T (.tup [.str (nb x)[i], .int (wt x (nb x)[i])])) := Ec.trans (Ebut.of (Ext.of (same_upd nT)))
            have Td := tabs_put (o := .tup [.str (nb x)[i], .int (wt x (nb x)[i])]) Tc nT
            have Ld := (same_upd (o := .tup [.str (nb x)[i], .int (wt x (nb x)[i])]) nT) _ _ Lc
            have Pd : upd Hc T (.tup [.str (nb x)[i], .int (wt x (nb x)[i])]) T = some (.tup [.str (nb x)[i], .int (wt x (nb x)[i])]) := upd_same
            show gTup _ _ _ _ _ (upd Hc T (.tup [.str (nb x)[i], .int (wt x (nb x)[i])])) _
            generalize upd Hc T (.tup [.str (nb x)[i], .int (wt x (nb x)[i])]) = Hd at Ed Td Ld Pd
            refine ⟨T, _, rfl, .inl (.inl Pd), rfl, _, _, rfl, _, _, rfl, rfl, ?_⟩
            refine ⟨_, rfl, _, rfl, l, _, rfl, get_x (.inl Ld), _, rfl, ?_⟩
            have nin : (nb x)[i] ∉ (nb x).take i := fun z => by
              obtain ⟨j, hj, e⟩ := List.mem_iff_getElem.mp z
              rw [List.length_take] at hj
              rw [List.getElem_take] at e
              have := (List.getElem_inj (hnb x hxV)).mp e
              omega
            have tk : (nb x).take (i + 1) = (nb x).take i ++ [(nb x)[i]] := takeS (List.getElem?_eq_getElem hi)
            have tm : ∀ u, u ∈ (nb x).take (i + 1) ↔ u ∈ (nb x).take i ∨ u = (nb x)[i] := fun u => by rw [tk, List.mem_append, List.mem_singleton]
            have tq : ∀ u, u ≠ (nb x)[i] → (if u ∈ (nb x).take i then wt x u else 0) = if u ∈ (nb x).take (i + 1) then wt x u else 0 := fun u hu => by
              by_cases h : u ∈ (nb x).take i
              · rw [if_pos h, if_pos ((tm u).mpr (.inl h))]
              · rw [if_neg h, if_neg (fun z => ((tm u).mp z).elim h hu)]
            refine ite2 (fun hin => ?_) (fun hin => ?_)
            · have hin : (nb x)[i] ∈ Vs.filter fun u => decide (u ∉ done ++ [x]) := by
                by_cases h : (nb x)[i] ∈ Vs.filter fun u => decide (u ∉ done ++ [x])
                · exact h
                · rw [if_neg h] at hin
                  cases hin
              refine ⟨_, rfl, _, rfl, l, _, rfl, get_d (.inl Ld) hin, _, rfl, _, _, rfl, rfl, _, put_d Ld hin sz, _, _, rfl, Ed.upd, tabs_mut Td Ld dk_tbl dk_code, ?_⟩
              rw [upd_same]
              congr 2
              refine dct_congr fun u hu => ?_
              by_cases e : u = (nb x)[i]
              · subst e
                rw [if_pos rfl, if_neg nin, if_pos ((tm _).mpr (.inr rfl)), Int.add_zero]
              · rw [if_neg e, tq u e]
            · have hin : (nb x)[i] ∉ Vs.filter fun u => decide (u ∉ done ++ [x]) := fun h => by
                rw [if_pos h] at hin
                exact hin rfl
              refine ⟨_, _, rfl, Ed, Td, ?_⟩
              rw [Ld]
              congr 2
              refine dct_congr fun u hu => ?_
              have e : u ≠ (nb x)[i] := fun e => hin (e ▸ hu)
              rw [tq u e]
          · rintro σ Hc ⟨x6, x7, rfl, Ec, Tc, Lc⟩
            rw [dct_len, List.take_length] at Lc
            have Zc := Ec _ _ Z9 nra fz_tbl
            refine ⟨Zc, done ++ [x], _, _, _, _, _, _, rfl, fun b o hb hne ht => ?_, tabs_mut Tc Zc fz_tbl fz_code, ?_, hP.snoc hxV hxd hbest, hTl.snoc x, ?_⟩
            · by_cases e : b = ad x
              · subst e
                rw [upd_same, ← hb, R.row x hxV]
              · rw [upd_ne e]
                exact Ec _ _ (fr _ _ (E9 _ _ hb hne ht) e) hne ht
            · rw [upd_ne (Ne.symm nra), Lc]
              unfold leftO
              congr 2
              exact dct_congr fun u _ => by rw [conn_snoc]
            · rw [← ek]
              refine List.length_filter_lt_length_iff_exists.mpr ⟨x, hxl, by simp⟩
      · -- the end
        have emp : (Vs.filter fun u => decide (u ∉ done)) = [] := by
          cases h : (Vs.filter fun u => decide (u ∉ done)) with
          | nil => rfl
          | cons y r =>
            rw [h] at hb
            exact absurd rfl hb
        have all : ∀ u ∈ Vs, u ∈ done := fun u hu => by
          by_cases h : u ∈ done
          · exact h
          · have z : u ∈ Vs.filter fun u => decide (u ∉ done) := List.mem_filter.mpr ⟨hu, decide_eq_true h⟩
            rw [emp] at z
            exact absurd z (by simp)
        have big : Vs.length ≤ done.length := (List.subset_def.mpr (fun {u} hu => all u hu) |> fun s => R.nd.length_le_of_subset s)
        rcases hTl with ⟨e, _⟩ | ⟨y, e, _⟩ | ⟨pre, y, z, e, rfl, rfl, rfl⟩
        · rw [e] at big
          simp only [List.length_nil] at big
          omega
        · rw [e] at big
          simp only [List.length_cons, List.length_nil] at big
          omega
        · refine ⟨_, rfl, _, rfl, _, rfl, by show 3 ≤ sizeLine; decide, fun p5 np5 => ?_⟩
          refine k p5 y z _ _ ((E6.trans (Ebut.of (Ext.of (same_upd np5)))).ext nlH) (tabs_put T6 np5) upd_same ⟨pre, by rw [← e]; exact hP, by rw [← e]; exact all, rfl⟩
end
end Wk
namespace Wk
open PySem PySem.Spec PyProof.Rows L2 WkD WkN LamX WkP
section
variable {P : Program} {w : World} {K : PySem.W.Frag} {mg : Str → Option Value} {base : Heap}
def spMerge : Sp := fun vs H Q _ => ∃ (a : Addr) (Vs : List Str) (ad : Str → Addr) (nb : Nb) (wt : Wt) (kept gone : Str), vs = [.ref a, .str kept, .str gone] ∧ RowsM H a Vs ad nb wt ∧ Sym Vs nb wt ∧ kept ∈ Vs ∧ gone ∈ Vs ∧ kept ≠ gone ∧ Vs.length < 1000 ∧
  ∀ nb' wt' H', RowsM H' a (Vs.filter fun y => decide (y ≠ gone)) ad nb' wt' → Merged nb wt kept gone (Vs.filter fun y => decide (y ≠ gone)) nb' wt' → (∀ b o, H b = some o → b ≠ a → (∀ u ∈ Vs, b ≠ ad u) → H' b = some o) → Q .non H'
theorem sc_merge_rows : FnScope ["rows", "kept", "gone", "v", "weight"] ["rows", "kept", "gone"] (defScope s_merge_rows) := ⟨rfl, rfl, rfl, by decide +kernel, rfl, by decide +kernel, by decide +kernel⟩
theorem c_merge_rows (D : Def K mg "merge_rows" s_merge_rows) : Callee P w K mg base CX0 1 "merge_rows" ["rows", "kept", "gone"] spMerge := by
  obtain ⟨f, fd, F, g⟩ := D
  refine ⟨f, fd, F.ok sc_merge_rows (fun vs H Q E h => ?_) (fun cdv A outer s H vs Q E hr h => ?_), g, F.kp, F.bindsN (fun _ _ _ _ _ _ us hl => match us, hl with | [_, _, _], _ => rfl)⟩
  · obtain ⟨a, Vs, ad, nb, wt, kept, gone, rfl, _⟩ := h
    rfl
  · have hu := hu_of hr
    have nd := sc_merge_rows.nd
    refine ⟨_, PSs.nox (pss_one (ps_lock (ps_for PassesOwn.never rfl (pi_items (pe_dpop1 (pv 0) (pv 2) ⟨rfl, rfl, rfl, rfl⟩)) (WkN.pgT K 2 rfl rfl (pgs_cons (pg_name (i := 3) nd rfl (Or.inl rfl)) (pgs_cons (pg_name (i := 4) nd rfl (Or.inl rfl)) pgs_nil)) rfl)
      (pss_cons (ps_ddel (pe_dget hu (pv 0) (pv 3) (fun _ _ => rfl)) (pv 2))
      (pss_one (ps_if (pt_cmpR op_ne (pv 3) (pv 1) (nomark _))
      (pss_one (ps_asg2 (pe_op op_add (pe_dget2 hu (pe_dget hu (pv 0) (pv 1) (fun _ _ => rfl)) (pv 3) pe_int ⟨rfl, rfl, rfl, rfl⟩) (pv 4)) (pg_sub (pe_dget hu (pv 0) (pv 1) (fun _ _ => rfl)) (pv 3) (set_dict hu) (fun _ => rfl)) (pg_sub (pe_dget hu (pv 0) (pv 3) (fun _ _ => rfl)) (pv 1) (set_dict hu) (fun _ => rfl)))) pss_nil)))))), ?_⟩
    obtain ⟨a, Vs, ad, nb, wt, kept, gone, rfl, R, sy, hk, hg, hne, hsz, k⟩ := h
    have nag := R.ne hg
    refine ⟨ad gone, _, R.row gone hg, trivial, fun od => ?_⟩
    have A1 : upd H (ad gone) (.frz od (.dK (dct (nb gone) fun v => .int (wt gone v)))) a = some (.dK (dct Vs fun u => .ref (ad u))) := by
      rw [upd_ne (Ne.symm nag)]
      exact R.top
    refine ⟨_, rfl, a, rfl, .inl ⟨_, .inl A1⟩, _, rfl, _, Sum.inr gone, _, A1, rfl, dct_in hg, ?_⟩
    rw [dct_drop]
    have mw : ∀ u, u ∈ (Vs.filter fun y => decide (y ≠ gone)) ↔ u ∈ Vs ∧ u ≠ gone := fun u => by
      rw [List.mem_filter, decide_eq_true_iff]
    have wl : (Vs.filter fun y => decide (y ≠ gone)).length ≤ Vs.length := List.length_filter_le _ _
    have hk' := (mw kept).mpr ⟨hk, hne⟩
    obtain ⟨Ws, eW⟩ : ∃ Ws, Ws = Vs.filter fun y => decide (y ≠ gone) := ⟨_, rfl⟩
    rw [← eW] at mw wl hk' ⊢
    generalize hh : upd (upd H (ad gone) (.frz od (.dK (dct (nb gone) fun v => .int (wt gone v))))) a (.dK (dct Ws fun u => .ref (ad u))) = H1
    have Z1 : H1 (ad gone) = some (.frz od (.dK (dct (nb gone) fun v => .int (wt gone v)))) := by
      rw [← hh, upd_ne nag, upd_same]
    have R1 : RowsM H1 a Ws ad nb wt := by
      refine ⟨by rw [← hh, upd_same], fun u hu => ?_, fun u hu v hv => R.inj u ((mw u).mp hu).1 v ((mw v).mp hv).1, by rw [eW]; exact R.nd.filter _⟩
      obtain ⟨h1, h2⟩ := (mw u).mp hu
      rw [← hh, upd_ne (R.ne h1), upd_ne (fun z => h2 (R.inj u h1 gone hg z))]
      exact R.row u h1
    have F1 : ∀ b o, H b = some o → b ≠ a → (∀ u ∈ Vs, b ≠ ad u) → H1 b = some o := fun b o hb h1 h2 => by
      rw [← hh, upd_ne h1, upd_ne (h2 gone hg)]
      exact hb
    clear hh A1
    refine ⟨ad gone, od, _, rfl, Z1, ?_⟩
    have nbl : ∀ (nbi : Nb) (wti : Wt) (S : List Str), Mp nb wt kept gone Ws S nbi wti → (∀ y ∈ S, y ∈ Vs) → ∀ u ∈ Ws, (nbi u).length < sizeLine := fun nbi wti S m hS u hu => by
      have sub : (nbi u).Subset Vs := fun y hy => by
        have h1 := (m.mem u hu y).mp hy
        have h2 := sy.mem u ((mw u).mp hu).1 y
        rcases h1 with ⟨rfl, _⟩ | ⟨_, h | ⟨_, h, _⟩ | ⟨rfl, _⟩⟩
        · exact hg
        · exact (h2 h).1
        · exact hS y h
        · exact hk
      exact Nat.lt_of_le_of_lt ((m.nd u hu).length_le_of_subset sub) (Nat.lt_trans hsz (by decide))
    refine for_it (walk_items (kvs := dct (nb gone) fun v => .int (wt gone v))) (fun i σ Hc => ∃ (x3 x4 : Option V) (nbi : Nb) (wti : Wt), σ = [some (.ref a), some (.str kept), some (.str gone), x3, x4] ∧ RowsM Hc a Ws ad nbi wti ∧ Mp nb wt kept gone Ws ((nb gone).take i) nbi wti ∧
      Hc (ad gone) = some (.frz od (.dK (dct (nb gone) fun v => .int (wt gone v)))) ∧ ∀ b o, H b = some o → b ≠ a → (∀ u ∈ Vs, b ≠ ad u) → Hc b = some o) ⟨none, none, nb, wt, rfl, R1, Mp.start sy fun u hu => ((mw u).mp hu).1, Z1, F1⟩ ?_ ?_ ?_
    · rintro i σ Hc hi ⟨x3, x4, nbi, wti, rfl, Rc, Mc, Zc, Fc⟩
      exact Zc
    · rintro i y σ Hc Hc' hi ⟨x3, x4, nbi, wti, rfl, Rc, Mc, Zc, Fc⟩ ⟨T, kx, vx, rfl, nT, rfl, hkx, hvx⟩
      rw [dct_len] at hi
      dsimp only at hkx hvx
      rw [dct_at, List.getElem?_eq_getElem hi] at hkx hvx
      cases hkx
      cases hvx
      obtain ⟨v, ev⟩ : ∃ v, v = (nb gone)[i] := ⟨_, rfl⟩
      have hvg : v ∈ nb gone := by
        rw [ev]
        exact List.getElem_mem hi
      have tk : (nb gone).take (i + 1) = (nb gone).take i ++ [v] := by
        rw [ev]
        exact takeS (List.getElem?_eq_getElem hi)
      have nin : v ∉ (nb gone).take i := fun z => by
        obtain ⟨j, hj, e⟩ := List.mem_iff_getElem.mp z
        rw [List.length_take] at hj
        rw [List.getElem_take, ev] at e
        have := (List.getElem_inj (sy.nd gone hg)).mp e
        omega
      rw [← ev]
      obtain ⟨hvV, hvne, hgv, hwv⟩ := sy.mem gone hg v hvg
      have hvW := (mw v).mpr ⟨hvV, hvne⟩
      have sT : Same Hc (upd Hc T (.tup [.str v, .int (wt gone v)])) := same_upd nT
      have Rd := Rc.ext (Ext.of sT)
      have Zd := sT _ _ Zc
      have Fd : ∀ b o, H b = some o → b ≠ a → (∀ u ∈ Vs, b ≠ ad u) → upd Hc T (.tup [.str v, .int (wt gone v)]) b = some o := fun b o h1 h2 h3 => sT _ _ (Fc b o h1 h2 h3)
      have Pd : upd Hc T (.tup [.str v, .int (wt gone v)]) T = some (.tup [.str v, .int (wt gone v)]) := upd_same
      show gTup _ _ _ _ _ (upd Hc T (.tup [.str v, .int (wt gone v)])) _
      generalize upd Hc T (.tup [.str v, .int (wt gone v)]) = Hd at Rd Zd Fd Pd
      refine ⟨T, _, rfl, .inl (.inl Pd), rfl, _, _, rfl, _, _, rfl, rfl, ?_⟩
      have hgi : gone ∈ nbi v := (Mc.mem v hvW gone).mpr (.inl ⟨rfl, hgv, nin⟩)
      refine ⟨_, rfl, _, rfl, a, _, rfl, get_d (.inl Rd.top) hvW, _, rfl, ad v, _, Sum.inr gone, rfl, Rd.row v hvW, rfl, by rw [dct_in hgi]; rfl, ?_⟩
      rw [dct_drop]
      have Re := Rd.put hvW ((nbi v).filter fun y => decide (y ≠ gone)) (wti v)
      have nvg : ad gone ≠ ad v := fun z => hvne (R.inj gone hg v hvV z).symm
      have Ze : upd Hd (ad v) (.dK (dct ((nbi v).filter fun y => decide (y ≠ gone)) fun y => .int (wti v y))) (ad gone) = some (.frz od (.dK (dct (nb gone) fun v => .int (wt gone v)))) := by
        rw [upd_ne nvg]
        exact Zd
      have Fe : ∀ b o, H b = some o → b ≠ a → (∀ u ∈ Vs, b ≠ ad u) → upd Hd (ad v) (.dK (dct ((nbi v).filter fun y => decide (y ≠ gone)) fun y => .int (wti v y))) b = some o := fun b o h1 h2 h3 => by
        rw [upd_ne (h3 v hvV)]
        exact Fd b o h1 h2 h3
      generalize upd Hd (ad v) (.dK (dct ((nbi v).filter fun y => decide (y ≠ gone)) fun y => .int (wti v y))) = He at Re Ze Fe
      have hS : ∀ y ∈ (nb gone).take i, y ∈ Vs := fun y hy => (sy.mem gone hg y (List.mem_of_mem_take hy)).1
      have Re : RowsM He a Ws ad (up nbi v ((nbi v).filter fun y => decide (y ≠ gone))) wti := Re.as (fun u _ => rfl) fun u _ y _ => by
        show (if u = v then wti v y else wti u y) = wti u y
        split
        · rename_i e
          rw [e]
        · rfl
      have sw : (nb gone).take (i + 1) = (nb gone).take i ++ [v] := tk
      refine ⟨_, rfl, _, rfl, rfl, _, rfl, ?_⟩
      have e0 : decide (V.str v = V.str kept) = decide (v = kept) := by
        by_cases h : v = kept
        · rw [decide_eq_true h, decide_eq_true (by rw [h])]
        · rw [decide_eq_false h, decide_eq_false (fun z => h (V.str.inj z))]
      rw [e0]
      refine ite2 (fun h1 => ?_) (fun h1 => ?_)
      · have hvk : v ≠ kept := fun e => by
          rw [decide_eq_true e] at h1
          cases h1
        have rk : He (ad kept) = some (.dK (dct (nbi kept) fun y => .int (wti kept y))) := by
          have z := Re.row kept hk'
          unfold up at z
          rw [if_neg (Ne.symm hvk)] at z
          exact z
        have sk := nbl nbi wti _ Mc hS kept hk'
        have svv := nbl nbi wti _ Mc hS v hvW
        obtain ⟨n, hn⟩ : ∃ n : Int, n = (if v ∈ nbi kept then wti kept v else 0) + wt gone v := ⟨_, rfl⟩
        refine ⟨_, rfl, _, rfl, a, _, rfl, get_d (.inl Re.top) hk', ad kept, rfl, .inl ⟨_, .inl rk⟩, _, rfl, _, get_x (.inl rk), _, rfl, (if v ∈ nbi kept then wti kept v else 0), _, ?_, rfl, ?_⟩
        · split <;> rfl
        dsimp only
        rw [← hn]
        refine ⟨_, rfl, _, rfl, a, _, rfl, get_d (.inl Re.top) hk', _, rfl, ad kept, _, rfl, putI rk sk, ?_⟩
        have Rf := Re.put hk' (add (nbi kept) v) (fun y => if y = v then n else wti kept y)
        have nkg : ad gone ≠ ad kept := fun z => hne (R.inj gone hg kept hk z).symm
        have Zf : upd He (ad kept) (.dK (dct (add (nbi kept) v) fun y => .int (if y = v then n else wti kept y))) (ad gone) = some (.frz od (.dK (dct (nb gone) fun v => .int (wt gone v)))) := by
          rw [upd_ne nkg]
          exact Ze
        have Ff : ∀ b o, H b = some o → b ≠ a → (∀ u ∈ Vs, b ≠ ad u) → upd He (ad kept) (.dK (dct (add (nbi kept) v) fun y => .int (if y = v then n else wti kept y))) b = some o := fun b o h1 h2 h3 => by
          rw [upd_ne (h3 kept hk)]
          exact Fe b o h1 h2 h3
        generalize upd He (ad kept) (.dK (dct (add (nbi kept) v) fun y => .int (if y = v then n else wti kept y))) = Hf at Rf Zf Ff
        have rv : Hf (ad v) = some (.dK (dct ((nbi v).filter fun y => decide (y ≠ gone)) fun y => .int (wti v y))) := by
          have z := Rf.row v hvW
          unfold up at z
          rw [if_neg hvk, if_pos rfl] at z
          rw [z, dct_congr (g' := fun y => V.int (wti v y)) fun y _ => by rw [if_neg hvk]]
        refine ⟨_, rfl, _, rfl, a, _, rfl, get_d (.inl Rf.top) hvW, _, rfl, ad v, _, rfl, putI rv (Nat.lt_of_le_of_lt (List.length_filter_le _ _) svv), ?_⟩
        have Rg := Rf.put hvW (add ((nbi v).filter fun y => decide (y ≠ gone)) kept) (fun y => if y = kept then n else wti v y)
        refine ⟨_, _, _, _, rfl, Rg.as (nb' := up (up (up nbi v ((nbi v).filter fun y => decide (y ≠ gone))) kept (add (nbi kept) v)) v (add ((nbi v).filter fun y => decide (y ≠ gone)) kept)) (wt' := upw (upw wti kept fun y => if y = v then n else wti kept y) v fun y => if y = kept then n else wti v y) (fun u _ => rfl) (fun u _ y _ => rfl), ?_, ?_, ?_⟩
        · rw [sw]
          exact Mc.atOther sy (fun u hu => ((mw u).mp hu).1) hk' hne hvW nin hvk hvne hgv hn
        · rw [upd_ne nvg]
          exact Zf
        · intro b o h1 h2 h3
          rw [upd_ne (h3 v hvV)]
          exact Ff b o h1 h2 h3
      · have hvk : v = kept := by
          by_cases h : v = kept
          · exact h
          · rw [decide_eq_false h] at h1
            exact absurd rfl h1
        subst hvk
        refine ⟨_, _, _, _, rfl, Re, ?_, Ze, Fe⟩
        rw [sw]
        exact Mc.atKept sy (fun u hu => ((mw u).mp hu).1) hk' hne
    · rintro σ Hc ⟨x3, x4, nbi, wti, rfl, Rc, Mc, Zc, Fc⟩
      rw [dct_len, List.take_length] at Mc
      refine ⟨Zc, ?_⟩
      rw [eW] at Mc Rc
      have ng : ∀ u ∈ (Vs.filter fun y => decide (y ≠ gone)), ad u ≠ ad gone := fun u hu z => by
        have h := List.mem_filter.mp hu
        have h2 : u ≠ gone := of_decide_eq_true h.2
        exact h2 (R.inj u h.1 gone hg z)
      refine k nbi wti _ ⟨by rw [upd_ne (Ne.symm nag)]; exact Rc.top, fun u hu => by rw [upd_ne (ng u hu)]; exact Rc.row u hu, Rc.inj, Rc.nd⟩ (Mp.done sy hk hg hne Mc) fun b o h1 h2 h3 => ?_
      rw [upd_ne (h3 gone hg)]
      exact Fc b o h1 h2 h3
end
end Wk
namespace Wk
open PySem PySem.Spec PyProof.Rows L2 WkD WkN LamX WkP
structure GAt (K : PySem.W.Frag) (H : Hp) (g C dx : Addr) (fs : List (Str × V)) (a : Addr) (top : Str) : Prop where
  ins : H g = some (.ins C dx fs)
  cls : Cls K C
  na : NoAttr K C "around"
  nt : NoAttr K C "top"
  la : fs.lookup ("around" : Str) = some (.ref a)
  lt : fs.lookup ("top" : Str) = some (.str top)
theorem GAt.ext {K : PySem.W.Frag} {H H' : Hp} {g C dx : Addr} {fs : List (Str × V)} {a : Addr} {top : Str} (x : GAt K H g C dx fs a top) (e : Ext H H') : GAt K H' g C dx fs a top := ⟨e _ _ x.ins (fun ps z => by cases z), x.cls, x.na, x.nt, x.la, x.lt⟩
section
variable {P : Program} {w : World} {K : PySem.W.Frag} {mg : Str → Option Value} {base : Heap}
def spSide (K : PySem.W.Frag) : Sp := fun vs H Q _ => ∃ (g C dx : Addr) (fs : List (Str × V)) (a m : Addr) (top : Str) (Vs ms : List Str) (ad : Str → Addr) (o : Obj), vs = [.ref g, .ref m] ∧ GAt K H g C dx fs a top ∧ H a = some (.frz o (.dK (dct Vs fun u => .ref (ad u)))) ∧ Vs.length < 1000 ∧ (SqL K H m (ms.map V.str) ∨ SqT K H m (ms.map V.str)) ∧
  ∀ p H', Same H H' → H p = none → H' p = some (.tup ((sideL top Vs ms).map V.str)) → Q (.ref p) H'
theorem sc_side_of : FnScope ["graph", "members", "is_outside", "vertex"] ["graph", "members"] (defScope s_side_of) := ⟨rfl, rfl, rfl, by decide +kernel, rfl, by decide +kernel, by decide +kernel⟩
theorem c_side_of (D : Def K mg "side_of" s_side_of) (B : Bi mg) : Callee P w K mg base CX0 1 "side_of" ["graph", "members"] (spSide K) := by
  obtain ⟨f, fd, F, g⟩ := D
  refine ⟨f, fd, F.ok sc_side_of (fun vs H Q E h => ?_) (fun cdv A outer s H vs Q E hr h => ?_), g, F.kp, F.bindsN (fun _ _ _ _ _ _ us hl => match us, hl with | [_, _], _ => rfl)⟩
  · obtain ⟨g, C, dx, fs, a, m, top, Vs, ms, ad, o, rfl, _⟩ := h
    rfl
  · have nd := sc_side_of.nd
    refine ⟨_, PSs.nox (pss_cons (ps_set (i := 2) nd rfl (Or.inr rfl) (pe_cmpR (WkN.opIn K (by rfl)) (pe_fld (pv 0) rfl) (pv 1) (by rfl)))
      (pss_one (ps_ret (pe_callTy call_tuple_of (by rfl) B.n_tuple (by decide +kernel) (pa_cons (pe_lc (own := [("vertex", 3)]) (by rfl) nd (pi_keys (pe_fld (pv 0) rfl)) (blkOk_by (by kernel_rfl)) (fun _ _ _ _ _ => (pg_name (i := 3) nd rfl (Or.inl rfl))) (fun _ _ _ _ _ => (pts_one (pt_cmpR op_ne (pe_cmpR (WkN.opIn K (by rfl)) (pv 3) (pv 1) (by rfl)) (pv 2) (nomark _)))) (fun _ _ _ _ _ => (pv 3))) pa_nil))))), ?_⟩
    obtain ⟨g, C, dx, fs, a, m, top, Vs, ms, ad, o, rfl, G, hA, hl, hm, k⟩ := h
    refine ⟨_, rfl, g, C, dx, fs, _, rfl, G.ins, G.cls, G.nt, G.lt, _, rfl, m, _, rfl, hm, rfl, flat_str, ?_⟩
    rw [if_neg (by decide), inV_str]
    refine ⟨_, rfl, g, C, dx, fs, _, rfl, G.ins, G.cls, G.na, G.la, a, o, rfl, .inl ⟨_, hA, fun D nD => ?_⟩⟩
    have sD : ∀ l : List V, Same H (upd H D (.lst l)) := fun l => same_upd nD
    refine lc_it (walk_keys (kvs := dct Vs fun u => .ref (ad u))) (fun i H2 => H2 = upd H D (.lst ((sideL top (Vs.take i) ms).map V.str))) rfl ?_ ?_ ?_
    · rintro i H2 hi rfl
      exact sD _ _ _ hA
    · rintro i x H2 H2' hi rfl ⟨rfl, k0, v0, hk, rfl⟩
      rw [dct_len] at hi
      rw [dct_at, List.getElem?_eq_getElem hi] at hk
      cases hk
      have hm' : SqL K (upd H D (.lst ((sideL top (Vs.take i) ms).map V.str))) m (ms.map V.str) ∨ SqT K (upd H D (.lst ((sideL top (Vs.take i) ms).map V.str))) m (ms.map V.str) := hm.imp (fun z => (sD _).seq z) (fun z => WkG.seqT_same (sD _) z)
      refine ⟨rfl, _, rfl, _, rfl, m, _, rfl, hm', rfl, flat_str, ?_⟩
      have e7 : inV (kV (Sum.inr Vs[i])) (ms.map V.str) = decide (Vs[i] ∈ ms) := inV_str
      rw [if_neg (by decide), e7]
      have tk : sideL top (Vs.take (i + 1)) ms = sideL top (Vs.take i) ms ++ (if (!decide (V.bl (decide (Vs[i] ∈ ms)) = V.bl (decide (top ∈ ms)))) = true then [Vs[i]] else []) := by
        unfold sideL
        rw [takeS (List.getElem?_eq_getElem hi), List.filter_append]
        congr 1
        rw [List.filter_cons, List.filter_nil]
      refine ⟨_, rfl, rfl, _, rfl, ?_⟩
      rw [tk]
      refine ite2 (fun h1 => ?_) (fun h1 => ?_)
      · refine ⟨_, rfl, _, upd_same, ?_, ?_⟩
        · rw [List.length_map]
          refine Nat.lt_of_le_of_lt (List.length_filter_le _ _) ?_
          rw [List.length_take]
          exact Nat.lt_of_le_of_lt (Nat.min_le_right _ _) (Nat.lt_trans hl (by decide))
        · rw [upd_upd, if_pos h1, List.map_append]
          rfl
      · rw [if_neg h1, List.append_nil]
    · rintro H2 rfl
      rw [dct_len, List.take_length]
      refine ⟨D, _, rfl, .inl ⟨SqL.of upd_same, fun p np => ?_⟩⟩
      have npH : H p = none := by
        have e : p ≠ D := fun z => by
          rw [z, upd_same] at np
          cases np
        rw [upd_ne e] at np
        exact np
      exact k p _ ((sD _).trans (same_upd np)) npH upd_same
end
end Wk
namespace Wk
open PySem PySem.Spec PyProof.Rows L2 WkD WkN LamX WkP
section
variable {P : Program} {w : World} {K : PySem.W.Frag} {mg : Str → Option Value} {base : Heap}
def spLeast (K : PySem.W.Frag) (T : List (Addr × Str)) : Sp := fun vs H Q _ => ∃ (g C dx : Addr) (fs : List (Str × V)) (a : Addr) (top : Str) (Vs : List Str) (ad : Str → Addr) (nb : Nb) (wt : Wt), vs = [.ref g] ∧ GAt K H g C dx fs a top ∧ RowsZ H a Vs ad nb wt ∧ Vs.Nodup ∧ Sym Vs nb wt ∧ 2 ≤ Vs.length ∧ Vs.length < 1000 ∧ Tabs T H ∧
  ∀ p q n ms H', Ext H H' → Tabs T H' → H' p = some (.tup [.int n, .ref q]) → H' q = some (.tup ((sideL top Vs ms).map V.str)) → LeastCut Vs nb wt n ms → Q (.ref p) H'
structure Cop (H : Hp) (ra : Addr) (nb : Nb) (wt : Wt) (ks : List Str) (ad : Str → Addr) (H2 : Hp) : Prop where
  rows : RowsM H2 ra ks ad nb wt
  keep : But ra H H2
  new : ∀ u ∈ ks, H (ad u) = none
structure Grp (H : Hp) (ga : Addr) (gad : Str → Addr) (Vs : List Str) (grp : Str → List Str) : Prop where
  top : H ga = some (.dK (dct Vs fun u => .ref (gad u)))
  lst : ∀ u ∈ Vs, H (gad u) = some (.lst ((grp u).map V.str))
def BestH (H : Hp) (gad : Str → Addr) (Vs : List Str) (bv : V) : Option (Int × List Str) → Prop
  | none => bv = .non
  | some (n, ms) => ∃ bp ml, bv = .ref bp ∧ H bp = some (.tup [.int n, .ref ml]) ∧ H ml = some (.lst (ms.map V.str)) ∧ ∀ u ∈ Vs, ml ≠ gad u
theorem BestH.ext {H H' : Hp} {gad : Str → Addr} {Vs : List Str} {bv : V} {best : Option (Int × List Str)} (b : BestH H gad Vs bv best) (e : ∀ c o, H c = some o → (∃ xs, o = .tup xs) ∨ (∃ xs, o = .lst xs ∧ ∀ u ∈ Vs, c ≠ gad u) → H' c = some o) : BestH H' gad Vs bv best := by
  cases best with
  | none => exact b
  | some x =>
    obtain ⟨n, ms⟩ := x
    obtain ⟨bp, ml, h1, h2, h3, h4⟩ := b
    exact ⟨bp, ml, h1, e _ _ h2 (.inl ⟨_, rfl⟩), e _ _ h3 (.inr ⟨_, rfl, h4⟩), h4⟩
theorem sc_least_cut : FnScope ["graph", "rows", "groups", "u", "row", "best", "ahead", "last", "weight"] ["graph"] (defScope s_least_cut) := ⟨rfl, rfl, rfl, by decide +kernel, rfl, by decide +kernel, by decide +kernel⟩
theorem c_least_cut {tbT : List (Addr × Str)} (D : Def K mg "least_cut" s_least_cut) (B : Bi mg) (CL : Callee P w K mg base CX0 3 "last_two" ["rows"] (spLast tbT)) (CM : Callee P w K mg base CX0 1 "merge_rows" ["rows", "kept", "gone"] spMerge) (CS : Callee P w K mg base CX0 1 "side_of" ["graph", "members"] (spSide K)) :
    Callee P w K mg base CX0 4 "least_cut" ["graph"] (spLeast K tbT) := by
  obtain ⟨f, fd, F, g⟩ := D
  refine ⟨f, fd, F.ok sc_least_cut (fun vs H Q E h => ?_) (fun cdv A outer s H vs Q E hr h => ?_), g, F.kp, F.bindsN (fun _ _ _ _ _ _ us hl => match us, hl with | [_], _ => rfl)⟩
  · obtain ⟨g, C, dx, fs, a, top, Vs, ad, nb, wt, rfl, _⟩ := h
    rfl
  · have hu := hu_of hr
    have nd := sc_least_cut.nd
    have hr3 : Room 3 _ := hr
    have hr1 : Room 1 _ := hr.mono (by decide)
    refine ⟨_, PSs.nox (pss_cons (ps_par (i := 1) (j := 2) (by rfl) nd rfl rfl (by decide) rfl rfl (pa_cons (pe_dc (own := [("u", 3), ("row", 4)]) (by rfl) nd (pi_items (pe_fld (pv 0) rfl)) (blkOk_by (by kernel_rfl)) (fun _ _ _ _ _ => (WkN.pgT K 2 rfl rfl (pgs_cons (pg_name (i := 3) nd rfl (Or.inl rfl)) (pgs_cons (pg_name (i := 4) nd rfl (Or.inl rfl)) pgs_nil)) rfl)) (fun _ _ _ _ _ => pts_nil) (fun _ _ _ _ _ => (pv 3)) (fun _ _ _ _ _ => (WkD.pe_dstar (pv 4)))) (pa_cons (pe_dc (own := [("u", 3)]) (by rfl) nd (pi_keys (pe_fld (pv 0) rfl)) (blkOk_by (by kernel_rfl)) (fun _ _ _ _ _ => (pg_name (i := 3) nd rfl (Or.inl rfl))) (fun _ _ _ _ _ => pts_nil) (fun _ _ _ _ _ => (pv 3)) (fun _ _ _ _ _ => (pe_lst (pa_cons (pv 3) pa_nil)))) pa_nil)) (by rfl))
      (pss_cons (ps_set (i := 5) nd rfl (Or.inl rfl) pe_non)
      (pss_cons (ps_while PassesOwn.never (pt_cmpR op_gt (pe_callB call_lenD (by rfl) B.n_len boot_len (pa_cons (pv 1) pa_nil)) pe_int (nomark _))
      (pss_cons (ps_asg (pe_c CL hr3 pass0 (pa_cons (pv 1) pa_nil)) (WkN.pgT K 3 rfl rfl (pgs_cons (pg_name (i := 6) nd rfl (Or.inl rfl)) (pgs_cons (pg_name (i := 7) nd rfl (Or.inl rfl)) (pgs_cons (pg_name (i := 8) nd rfl (Or.inl rfl)) pgs_nil))) rfl))
      (C8.pss_cut (ps_if (PW.pt (pw_or (pt_cmpR op_isN (pv 5) pe_non (nomark _)) (pw_or1 (pt_cmpR op_lt (pv 8) (pe_ix ix_tup (pv 5) pe_int (fun _ _ => rfl)) (nomark _)))))
      (pss_one (ps_set (i := 5) nd rfl (Or.inl rfl) (pe_tup (pa_cons (pv 8) (pa_cons (pe_callTy call_list_of (by rfl) B.n_list (by decide +kernel) (pa_cons (pe_dget hu (pv 2) (pv 7) (fun _ _ => rfl)) pa_nil)) pa_nil))))) pss_nil)
      (pss_cons (ps_expr (pe_c CM hr1 pass0 (pa_cons (pv 1) (pa_cons (pv 6) (pa_cons (pv 7) pa_nil)))))
      (pss_one (ps_expr (pe_bm PySem.F.plainAttrs_list PySem.F.slot_list_extend PySem.F.type_list_extend mt_extend (pe_dget hu (pv 2) (pv 6) (fun _ _ => rfl)) (pa_cons (pe_dget hu (pv 2) (pv 7) (fun _ _ => rfl)) pa_nil))))))))
      (pss_one (ps_ret (pe_tup (pa_cons (pe_ix ix_tup (pv 5) pe_int (fun _ _ => rfl)) (pa_cons (pe_c CS hr1 pass0 (pa_cons (pv 0) (pa_cons (pe_ix ix_tup (pv 5) pe_int (fun _ _ => rfl)) pa_nil))) pa_nil)))))))), ?_⟩
    obtain ⟨g, C, dx, fs, a, top, Vs, ad0, nb, wt, rfl, G, RZ, hVn, sy, h2, hsz, hT, k⟩ := h
    obtain ⟨oa, hA⟩ := RZ.top
    have tkN : ∀ i (h : i < Vs.length), Vs[i] ∉ Vs.take i := fun i h z => by
      obtain ⟨j, hj, e⟩ := List.mem_iff_getElem.mp z
      rw [List.length_take] at hj
      rw [List.getElem_take] at e
      have := (List.getElem_inj hVn).mp e
      omega
    have tkL : ∀ i, (Vs.take i).length < sizeLine := fun i => by
      rw [List.length_take]
      exact Nat.lt_of_le_of_lt (Nat.min_le_right _ _) (Nat.lt_trans hsz (by decide))
    refine ⟨_, rfl, g, C, dx, fs, _, rfl, G.ins, G.cls, G.na, G.la, a, oa, _, rfl, hA, fun ra nra => ?_⟩
    refine dc_it (walk_items (kvs := dct Vs fun u => .ref (ad0 u))) (fun i H2 => ∃ ad, Cop H ra nb wt (Vs.take i) ad H2) ⟨ad0, ⟨upd_same, fun u hu => absurd hu (by simp), fun u hu => absurd hu (by simp), by simp⟩, fun b o hb hne => by rw [upd_ne hne]; exact hb, fun u hu => absurd hu (by simp)⟩ ?_ ?_ ?_
    · rintro i H2 hi ⟨ad, cp⟩
      exact cp.keep _ _ hA (ne_of_none hA nra)
    · rintro i x H2 H2' hi ⟨ad, cp⟩ ⟨T, kx, vx, rfl, nT, rfl, hkx, hvx⟩
      rw [dct_len] at hi
      dsimp only at hkx hvx
      rw [dct_at, List.getElem?_eq_getElem hi] at hkx hvx
      cases hkx
      cases hvx
      obtain ⟨u, eu⟩ : ∃ u, u = Vs[i] := ⟨_, rfl⟩
      have hnu := tkN i hi
      have tk := takeS (List.getElem?_eq_getElem hi)
      have huV : u ∈ Vs := eu ▸ List.getElem_mem hi
      rw [← eu] at hnu tk ⊢
      obtain ⟨ou, hU⟩ := RZ.row u huV
      have sT : Same H2 (upd H2 T (.tup [.str u, .ref (ad0 u)])) := same_upd nT
      have PT' : upd H2 T (.tup [.str u, .ref (ad0 u)]) T = some (.tup [.str u, .ref (ad0 u)]) := upd_same
      show gTup _ _ _ _ _ (upd H2 T (.tup [.str u, .ref (ad0 u)])) _
      generalize upd H2 T (.tup [.str u, .ref (ad0 u)]) = H3 at sT PT'
      refine ⟨T, _, rfl, .inl (.inl PT'), rfl, _, _, rfl, _, _, rfl, rfl, rfl, tYes_if ?_⟩
      refine ⟨_, rfl, fun p np => ⟨_, rfl, ?_⟩⟩
      have hU3 : H3 (ad0 u) = some (.frz ou (.dK (dct (nb u) fun v => .int (wt u v)))) := sT _ _ (cp.keep _ _ hU (ne_of_none hU nra))
      have nup : ad0 u ≠ p := ne_of_none hU3 np
      refine ⟨ad0 u, _, rfl, upd_same, nup, .inr ⟨ou, by rw [upd_ne nup]; exact hU3⟩, ?_⟩
      rw [upd_upd]
      have hra3 : H3 ra = some (.dK (dct (Vs.take i) fun u => .ref (ad u))) := sT _ _ cp.rows.top
      have npr : ra ≠ p := ne_of_none hra3 np
      have npH : H p = none := by
        cases e : H p with
        | none => rfl
        | some o =>
          have z := sT _ _ (cp.keep _ _ e (Ne.symm npr))
          rw [np] at z
          cases z
      refine ⟨_, Sum.inr u, rfl, by rw [upd_ne npr]; exact hra3, by rw [dct_len]; exact tkL i, fun y => if y = u then p else ad y, ?_⟩
      rw [dct_put_new hnu, tk]
      have e1 : dct (Vs.take i ++ [u]) (fun y => if y = u then V.ref p else V.ref (ad y)) = dct (Vs.take i ++ [u]) fun y => V.ref (if y = u then p else ad y) := dct_congr fun y _ => by split <;> rfl
      rw [e1]
      have at_ : ∀ y ∈ Vs.take i, H3 (ad y) = some (.dK (dct (nb y) fun v => .int (wt y v))) := fun y hy => sT _ _ (cp.rows.row y hy)
      have mm : ∀ y, y ∈ Vs.take i ++ [u] → (y = u ∧ (if y = u then p else ad y) = p) ∨ (y ∈ Vs.take i ∧ y ≠ u ∧ (if y = u then p else ad y) = ad y) := fun y hy => by
        by_cases e : y = u
        · exact .inl ⟨e, if_pos e⟩
        · rcases List.mem_append.mp hy with h | h
          · exact .inr ⟨h, e, if_neg e⟩
          · exact absurd (List.mem_singleton.mp h) e
      refine ⟨⟨upd_same, fun y hy => ?_, fun y hy z hz e => ?_, ?_⟩, fun b o hb hne => ?_, fun y hy => ?_⟩
      · rcases mm y hy with ⟨h1, h2⟩ | ⟨h1, h2, h3⟩
        · rw [h2, upd_ne (Ne.symm npr), upd_same, h1]
        · rw [h3, upd_ne (fun q => cp.rows.ne h1 q), upd_ne (ne_of_none (at_ y h1) np)]
          exact at_ y h1
      · rcases mm y hy with ⟨h1, h2⟩ | ⟨h1, h2, h3⟩
        · rcases mm z hz with ⟨g1, g2⟩ | ⟨g1, g2, g3⟩
          · rw [h1, g1]
          · rw [h2, g3] at e
            exact absurd e.symm (ne_of_none (at_ z g1) np)
        · rcases mm z hz with ⟨g1, g2⟩ | ⟨g1, g2, g3⟩
          · rw [h3, g2] at e
            exact absurd e (ne_of_none (at_ y h1) np)
          · rw [h3, g3] at e
            exact cp.rows.inj y h1 z g1 e
      · rw [List.nodup_append]
        refine ⟨cp.rows.nd, by simp, fun a1 h1 b1 h3 e => ?_⟩
        have h3 : b1 = u := by simpa using h3
        rw [e, h3] at h1
        exact hnu h1
      · rw [upd_ne hne, upd_ne (ne_of_none hb npH)]
        exact sT _ _ (cp.keep _ _ hb hne)
      · rcases mm y hy with ⟨h1, h2⟩ | ⟨h1, h2, h3⟩
        · rw [h2]
          exact npH
        · rw [h3]
          exact cp.new y h1
    · rintro H1 ⟨ad, cp⟩
      rw [dct_len, List.take_length] at cp
      have fr1 : ∀ b o, H b = some o → H1 b = some o := fun b o hb => cp.keep b o hb (ne_of_none hb nra)
      have hA1 := fr1 _ _ hA
      have G1 := G.ext (Ext.of fr1)
      have T1 : Tabs tbT H1 := hT.ext fr1
      refine ⟨_, rfl, g, C, dx, fs, _, rfl, G1.ins, G1.cls, G1.na, G1.la, a, oa, rfl, .inl ⟨_, hA1, fun ga nga => ?_⟩⟩
      refine dc_it (walk_keys (kvs := dct Vs fun u => .ref (ad0 u))) (fun i H2 => ∃ gad : Str → Addr, Grp H2 ga gad (Vs.take i) (fun u => [u]) ∧ But ga H1 H2 ∧ (∀ u ∈ Vs.take i, H1 (gad u) = none) ∧ ∀ u ∈ Vs.take i, ∀ v ∈ Vs.take i, gad u = gad v → u = v) ⟨ad0, ⟨upd_same, fun u hu => absurd hu (by simp)⟩, fun b o hb hne => by rw [upd_ne hne]; exact hb, fun u hu => absurd hu (by simp), fun u hu => absurd hu (by simp)⟩ ?_ ?_ ?_
      · rintro i H2 hi ⟨gad, g2, b2, n2, j2⟩
        exact b2 _ _ hA1 (ne_of_none hA1 nga)
      · rintro i x H2 H2' hi ⟨gad, g2, b2, n2, j2⟩ ⟨rfl, k0, v0, hk, rfl⟩
        rw [dct_len] at hi
        rw [dct_at, List.getElem?_eq_getElem hi] at hk
        cases hk
        obtain ⟨u, eu⟩ : ∃ u, u = Vs[i] := ⟨_, rfl⟩
        have hnu := tkN i hi
        have tk := takeS (List.getElem?_eq_getElem hi)
        rw [← eu] at hnu tk ⊢
        refine ⟨rfl, tYes_if ?_⟩
        refine ⟨_, rfl, _, rfl, by show 1 ≤ sizeLine; decide, fun p np => ?_⟩
        have npg : ga ≠ p := ne_of_none g2.top np
        have npH : H1 p = none := by
          cases e : H1 p with
          | none => rfl
          | some o =>
            have z := b2 _ _ e (Ne.symm npg)
            rw [np] at z
            cases z
        refine ⟨_, Sum.inr u, rfl, by rw [upd_ne npg]; exact g2.top, by rw [dct_len]; exact tkL i, fun y => if y = u then p else gad y, ?_⟩
        rw [dct_put_new hnu, tk]
        have e1 : dct (Vs.take i ++ [u]) (fun y => if y = u then V.ref p else V.ref (gad y)) = dct (Vs.take i ++ [u]) fun y => V.ref (if y = u then p else gad y) := dct_congr fun y _ => by split <;> rfl
        rw [e1]
        have mm : ∀ y, y ∈ Vs.take i ++ [u] → (y = u ∧ (if y = u then p else gad y) = p) ∨ (y ∈ Vs.take i ∧ y ≠ u ∧ (if y = u then p else gad y) = gad y) := fun y hy => by
          by_cases e : y = u
          · exact .inl ⟨e, if_pos e⟩
          · rcases List.mem_append.mp hy with h | h
            · exact .inr ⟨h, e, if_neg e⟩
            · exact absurd (List.mem_singleton.mp h) e
        have lne : ∀ y ∈ Vs.take i, gad y ≠ ga := fun y hy => ne_of (g2.lst y hy) g2.top fun z => by cases z
        refine ⟨⟨upd_same, fun y hy => ?_⟩, fun b o hb hne => ?_, fun y hy => ?_, fun y hy z hz e => ?_⟩
        · rcases mm y hy with ⟨h1, h2⟩ | ⟨h1, h2, h3⟩
          · rw [h2, upd_ne (Ne.symm npg), upd_same, h1]
            rfl
          · rw [h3, upd_ne (lne y h1), upd_ne (ne_of_none (g2.lst y h1) np)]
            exact g2.lst y h1
        · rw [upd_ne hne, upd_ne (ne_of_none hb npH)]
          exact b2 b o hb hne
        · show H1 (if y = u then p else gad y) = none
          rcases mm y hy with ⟨h1, h2⟩ | ⟨h1, h2, h3⟩
          · rw [h2]
            exact npH
          · rw [h3]
            exact n2 y h1
        · have e : (if y = u then p else gad y) = (if z = u then p else gad z) := e
          rcases mm y hy with ⟨h1, h2⟩ | ⟨h1, h2, h3⟩
          · rcases mm z hz with ⟨g1, g4⟩ | ⟨g1, g4, g3⟩
            · rw [h1, g1]
            · rw [h2, g3] at e
              exact absurd e.symm (ne_of_none (g2.lst z g1) np)
          · rcases mm z hz with ⟨g1, g4⟩ | ⟨g1, g4, g3⟩
            · rw [h3, g4] at e
              exact absurd e (ne_of_none (g2.lst y h1) np)
            · rw [h3, g3] at e
              exact j2 y h1 z g1 e
      · rintro H2 ⟨gad, g2, b2, n2, j2⟩
        rw [dct_len, List.take_length] at g2 n2 j2
        have nga0 : ga ≠ ra := fun z => by
          rw [z, cp.rows.top] at nga
          cases nga
        have ngd : ∀ u ∈ Vs, ga ≠ ad u := fun u hu z => by
          rw [z, cp.rows.row u hu] at nga
          cases nga
        have ngH : H ga = none := by
          cases e : H ga with
          | none => rfl
          | some o =>
            rw [fr1 _ _ e] at nga
            cases nga
        have R2 : RowsM H2 ra Vs ad nb wt := ⟨b2 _ _ cp.rows.top (Ne.symm nga0), fun u hu => b2 _ _ (cp.rows.row u hu) (Ne.symm (ngd u hu)), cp.rows.inj, cp.rows.nd⟩
        have fr2 : ∀ b o, H b = some o → H2 b = some o := fun b o hb => b2 _ _ (fr1 b o hb) (ne_of_none hb ngH)
        have nlH : ∀ u ∈ Vs, H (gad u) = none := fun u hu => by
          cases e : H (gad u) with
          | none => rfl
          | some o =>
            have z := n2 u hu
            rw [fr1 _ _ e] at z
            cases z
        refine ⟨_, _, rfl, ?_⟩
        refine ⟨fun m σ Hc => ∃ (Ws : List Str) (nb' : Nb) (wt' : Wt) (grp : Str → List Str) (best : Option (Int × List Str)) (bv : V) (x3 x4 x6 x7 x8 : Option V), σ = [some (.ref g), some (.ref ra), some (.ref ga), x3, x4, some bv, x6, x7, x8] ∧ RowsM Hc ra Ws ad nb' wt' ∧ Sym Ws nb' wt' ∧
          Phases Vs nb wt Ws nb' wt' grp best ∧ Grp Hc ga gad Vs grp ∧ BestH Hc gad Vs bv best ∧ Ext H Hc ∧ Tabs tbT Hc ∧ m = Ws.length,
          ⟨_, Vs, nb, wt, fun u => [u], none, .non, none, none, none, none, none, rfl, R2, sy, Phases.start, g2, rfl, Ext.of fr2, hT.ext fr2, rfl⟩, ?_⟩
        rintro m σ H3 ⟨Ws, nb', wt', grp, best, bv, x3, x4, x6, x7, x8, rfl, R3, sy3, ph, g3, bh, e3, T3, rfl⟩
        have gs := ph.grps
        have wl : Ws.length ≤ Vs.length := R3.nd.length_le_of_subset fun u hu => gs.sub u hu
        refine ⟨_, rfl, ra, _, rfl, R3.top, _, _, rfl, rfl, _, rfl, ?_⟩
        rw [dct_len]
        refine ite2 (fun h1 => ?_) (fun h1 => ?_)
        · have h1 : (1 : Int) < (Ws.length : Int) := of_decide_eq_true h1
          refine ⟨fun σ' H' => ∃ (Ws' : List Str) (nb' : Nb) (wt' : Wt) (grp : Str → List Str) (best : Option (Int × List Str)) (bv : V) (x3 x4 x6 x7 x8 : Option V), σ' = [some (.ref g), some (.ref ra), some (.ref ga), x3, x4, some bv, x6, x7, x8] ∧ RowsM H' ra Ws' ad nb' wt' ∧ Sym Ws' nb' wt' ∧
            Phases Vs nb wt Ws' nb' wt' grp best ∧ Grp H' ga gad Vs grp ∧ BestH H' gad Vs bv best ∧ Ext H H' ∧ Tabs tbT H' ∧ Ws'.length < Ws.length, ?_, ?_⟩
          · rintro σ' H' ⟨Ws', nb', wt', grp, best, bv, x3, x4, x6, x7, x8, q1, q2, q3, q4, q5, q6, q7, q8, q9⟩
            exact ⟨_, q9, Ws', nb', wt', grp, best, bv, x3, x4, x6, x7, x8, q1, q2, q3, q4, q5, q6, q7, q8, rfl⟩
          refine ⟨_, rfl, ra, Ws, ad, nb', wt', rfl, R3, sy3.nd, by omega, by omega, T3, fun p x l n H4 e4 T4 hp lt => ?_⟩
          obtain ⟨hxW, hlW, hxl⟩ := lt.mem
          have R4 := R3.ext e4
          have g4 : Grp H4 ga gad Vs grp := ⟨e4 _ _ g3.top dk_tbl, fun u hu => e4 _ _ (g3.lst u hu) (fun ps z => by cases z)⟩
          have bh4 : BestH H4 gad Vs bv best := bh.ext fun c o hc q => e4 _ _ hc fun ps z => by
            rcases q with ⟨_, q⟩ | ⟨_, q, _⟩
            · rw [q] at z
              cases z
            · rw [q] at z
              cases z
          have e04 := e3.trans e4
          refine ⟨p, _, rfl, .inl (.inl hp), rfl, _, _, rfl, _, _, rfl, _, _, rfl, rfl, ?_⟩
          refine ⟨fun σ' H' => ∃ bv' : V, σ' = [some (.ref g), some (.ref ra), some (.ref ga), x3, x4, some bv', some (.str x), some (.str l), some (.int n)] ∧ Same H4 H' ∧ BestH H' gad Vs bv' (better best n (grp l)), ?_, ?_⟩
          · -- the best one
            have take : better best n (grp l) = some (n, grp l) → ∀ q1 : Addr, H4 q1 = none → ∀ q2, upd H4 q1 (.lst ((grp l).map V.str)) q2 = none →
                Same H4 (upd (upd H4 q1 (.lst ((grp l).map V.str))) q2 (.tup [.int n, .ref q1])) ∧ BestH (upd (upd H4 q1 (.lst ((grp l).map V.str))) q2 (.tup [.int n, .ref q1])) gad Vs (.ref q2) (better best n (grp l)) := fun hb q1 nq1 q2 nq2 => by
              refine ⟨(same_upd nq1).trans (same_upd nq2), ?_⟩
              rw [hb]
              exact ⟨q2, q1, rfl, upd_same, (same_upd nq2) _ _ upd_same, fun u hu z => by
                have z2 := g4.lst u hu
                rw [← z, nq1] at z2
                cases z2⟩
            have hga4 := g4.top
            have hl4 := g4.lst l (gs.sub l hlW)
            cases best with
            | none =>
              obtain rfl : bv = .non := bh4
              refine ⟨_, rfl, rfl, _, rfl, iteT ?_⟩
              refine ⟨_, rfl, _, rfl, _, rfl, ga, _, rfl, get_d (.inl hga4) (gs.sub l hlW), gad l, _, rfl, .inl (SqL.of hl4), fun q1 nq1 => ⟨by show 2 ≤ sizeLine; decide, fun q2 nq2 => ?_⟩⟩
              obtain ⟨z1, z2⟩ := take rfl q1 nq1 q2 nq2
              exact ⟨_, rfl, z1, z2⟩
            | some bm =>
              obtain ⟨bn, bms⟩ := bm
              obtain ⟨bp, ml, rfl, hbp, hml, hnl⟩ := id bh4
              refine ⟨_, rfl, rfl, _, rfl, iteF ?_⟩
              refine ⟨_, rfl, _, rfl, bp, _, _, _, rfl, rfl, .inl (.inl hbp), rfl, _, _, rfl, rfl, _, rfl, ?_⟩
              refine ite2 (fun h5 => ?_) (fun h5 => ?_)
              · refine ⟨_, rfl, _, rfl, _, rfl, ga, _, rfl, get_d (.inl hga4) (gs.sub l hlW), gad l, _, rfl, .inl (SqL.of hl4), fun q1 nq1 => ⟨by show 2 ≤ sizeLine; decide, fun q2 nq2 => ?_⟩⟩
                obtain ⟨z1, z2⟩ := take (by unfold better; exact if_pos (of_decide_eq_true h5)) q1 nq1 q2 nq2
                exact ⟨_, rfl, z1, z2⟩
              · refine ⟨_, rfl, fun _ _ e => e, ?_⟩
                have e : better (some (bn, bms)) n (grp l) = some (bn, bms) := by
                  unfold better
                  exact if_neg (fun z => h5 (decide_eq_true z))
                rw [e]
                exact bh4
          · rintro σ5 H5 ⟨bv5, rfl, s5, bh5⟩
            have R5 := R4.ext (Ext.of s5)
            refine ⟨_, rfl, _, rfl, _, rfl, ra, Ws, ad, nb', wt', x, l, rfl, R5, sy3, hxW, hlW, hxl, by omega, fun nb6 wt6 H6 R6 mg fr6 => ?_⟩
            have nr : ∀ u ∈ Ws, ∀ o, (∀ kvs, o ≠ HO.dK kvs) → ∀ b, H5 b = some o → b ≠ ad u := fun u hu o ho b hb z => by
              rw [z, R5.row u hu] at hb
              exact ho _ (Option.some.inj hb).symm
            have keep6 : ∀ b o, H5 b = some o → (∀ kvs, o ≠ HO.dK kvs) → H6 b = some o := fun b o hb ho => fr6 b o hb (fun z => by
              rw [z, R5.top] at hb
              exact ho _ (Option.some.inj hb).symm) fun u hu => nr u hu o ho b hb
            have hga6 : H6 ga = some (.dK (dct Vs fun u => .ref (gad u))) := fr6 _ _ (s5 _ _ g4.top) nga0 fun u hu => ngd u (gs.sub u hu)
            have hl6 : ∀ u ∈ Vs, H6 (gad u) = some (.lst ((grp u).map V.str)) := fun u hu => keep6 _ _ (s5 _ _ (g4.lst u hu)) (fun kvs z => by cases z)
            have hxV := gs.sub x hxW
            have hlV := gs.sub l hlW
            refine ⟨_, rfl, _, rfl, ga, _, rfl, get_d (.inl hga6) hxV, ?_, _, rfl, _, rfl, ga, _, rfl, get_d (.inl hga6) hlV, gad x, gad l, _, _, rfl, rfl, hl6 x hxV, hl6 l hlV, ?_, ?_⟩
            · exact .inl ⟨rfl, _, SqL.of (hl6 x hxV)⟩
            · rw [List.length_map, List.length_map]
              have a1 := gs.len hxW
              have a2 := gs.len hlW
              have a3 : 2000 ≤ sizeLine := by decide
              omega
            · have nlx : ∀ u ∈ Vs, u ≠ x → gad u ≠ gad x := fun u hu hne z => hne (j2 u hu x hxV z)
              have ndk : ∀ b kvs, H6 b = some (.dK kvs) → b ≠ gad x := fun b kvs hb => ne_of hb (hl6 x hxV) fun z => by cases z
              refine ⟨Ws.filter fun y => decide (y ≠ l), nb6, wt6, grow grp x l, better best n (grp l), bv5, _, _, _, _, _, rfl, ⟨by rw [upd_ne (ndk _ _ R6.top)]; exact R6.top, fun u hu => by rw [upd_ne (ndk _ _ (R6.row u hu))]; exact R6.row u hu, R6.inj, R6.nd⟩, mg.sym, ph.step lt mg, ⟨by rw [upd_ne (ndk _ _ hga6)]; exact hga6, fun u hu => ?_⟩, ?_, ?_, ?_, ?_⟩
              · unfold grow
                by_cases e : u = x
                · rw [e, upd_same, if_pos rfl, List.map_append]
                · rw [upd_ne (nlx u hu e), if_neg e]
                  exact hl6 u hu
              · refine (bh5.ext (H' := H6) fun c o hc q => keep6 c o hc fun kvs z => ?_).ext fun c o hc q => ?_
                · rcases q with ⟨_, q⟩ | ⟨_, q, _⟩
                  · rw [q] at z
                    cases z
                  · rw [q] at z
                    cases z
                · rw [upd_ne ?_]
                  · exact hc
                  · rcases q with ⟨_, q⟩ | ⟨_, q, q2⟩
                    · rw [q] at hc
                      exact ne_of hc (hl6 x hxV) fun z => by cases z
                    · exact q2 x hxV
              · intro b o hb ht
                have h5 := s5 _ _ (e04 b o hb ht)
                have n1 : b ≠ ra := ne_of_none hb nra
                rw [upd_ne (ne_of_none hb (nlH x hxV))]
                exact fr6 b o h5 n1 fun u hu => ne_of_none hb (cp.new u (gs.sub u hu))
              · have T6 : Tabs tbT H6 := fun q hq => by
                  obtain ⟨ps, q1, q2, q3⟩ := (T4.ext s5) q hq
                  refine ⟨ps, keep6 _ _ q1 (fun kvs z => by cases z), q2, fun pos cv hc => ?_⟩
                  obtain ⟨c, c1, c2⟩ := q3 pos cv hc
                  exact ⟨c, c1, keep6 _ _ c2 fun kvs z => by
                    unfold CodeO at z
                    cases z⟩
                exact tabs_mut T6 (hl6 x hxV) (fun ps z => by cases z) (fun c q z => by
                  unfold CodeO at z
                  cases z)
              · exact List.length_filter_lt_length_iff_exists.mpr ⟨l, hlW, by simp⟩
        · have h1 : ¬ (1 : Int) < (Ws.length : Int) := fun z => h1 (decide_eq_true z)
          cases best with
          | none =>
            have e := ph.none rfl
            rw [e] at h1
            omega
          | some bm =>
            obtain ⟨bn, bms⟩ := bm
            obtain ⟨bp, ml, rfl, hbp, hml, hnl⟩ := bh
            refine ⟨_, rfl, bp, _, _, _, rfl, rfl, .inl (.inl hbp), rfl, ?_⟩
            have G3 := G.ext e3
            have hA3 := e3 _ _ hA fz_tbl
            refine ⟨_, rfl, _, rfl, bp, _, _, _, rfl, rfl, .inl (.inl hbp), rfl, g, C, dx, fs, a, ml, top, Vs, bms, ad0, oa, rfl, G3, hA3, hsz, .inl (SqL.of hml), fun p H4 s4 np hp => ?_⟩
            refine ⟨by show 2 ≤ sizeLine; decide, fun q nq => ?_⟩
            refine k q p bn bms _ ((e3.trans (Ext.of s4)).trans (Ext.of (same_upd nq))) (tabs_put (T3.ext s4) nq) upd_same ((same_upd nq) _ _ hp) ⟨Ws, nb', wt', grp, ph, by omega⟩
end
end Wk
namespace Wk
open PySem PySem.Spec PyProof.Rows L2 WkD WkN LamX WkP
section
variable {P : Program} {w : World} {K : PySem.W.Frag} {mg : Str → Option Value} {base : Heap}
def spStrength (K : PySem.W.Frag) (T : List (Addr × Str)) : Sp := fun vs H Q _ => ∃ (g C dx : Addr) (fs : List (Str × V)) (a : Addr) (top : Str) (Vs : List Str) (ad : Str → Addr) (nb : Nb) (wt : Wt), vs = [.ref g] ∧ GAt K H g C dx fs a top ∧ RowsZ H a Vs ad nb wt ∧ Vs.Nodup ∧ Sym Vs nb wt ∧ 2 ≤ Vs.length ∧ Vs.length < 1000 ∧ Tabs T H ∧
  ∀ n ms H', Ext H H' → Tabs T H' → LeastCut Vs nb wt n ms → Q (.int n) H'
theorem sc_strength_of : FnScope ["graph"] ["graph"] (defScope s_strength_of) := ⟨rfl, rfl, rfl, by decide +kernel, rfl, by decide +kernel, by decide +kernel⟩
theorem c_strength_of {tbT : List (Addr × Str)} (D : Def K mg "strength_of" s_strength_of) (CC : Callee P w K mg base CX0 4 "least_cut" ["graph"] (spLeast K tbT)) : Callee P w K mg base CX0 5 "strength_of" ["graph"] (spStrength K tbT) := by
  obtain ⟨f, fd, F, g⟩ := D
  refine ⟨f, fd, F.ok sc_strength_of (fun vs H Q E h => ?_) (fun cdv A outer s H vs Q E hr h => ?_), g, F.kp, F.bindsN (fun _ _ _ _ _ _ us hl => match us, hl with | [_], _ => rfl)⟩
  · obtain ⟨g, C, dx, fs, a, top, Vs, ad, nb, wt, rfl, _⟩ := h
    rfl
  · have hr4 : Room 4 _ := hr
    refine ⟨_, PSs.nox (pss_one (ps_ret (pe_ix ix_tup (pe_c CC hr4 pass0 (pa_cons (pv 0) pa_nil)) pe_int (fun _ _ => rfl)))), ?_⟩
    obtain ⟨g, C, dx, fs, a, top, Vs, ad, nb, wt, rfl, G, RZ, hn, sy, h2, hsz, hT, k⟩ := h
    exact ⟨_, rfl, g, C, dx, fs, a, top, Vs, ad, nb, wt, rfl, G, RZ, hn, sy, h2, hsz, hT, fun p q n ms H' e T hp hq lc => ⟨p, _, _, _, rfl, rfl, .inl (.inl hp), rfl, k n ms H' e T lc⟩⟩
theorem Cop.snoc {H H2 H3 : Hp} {ra p : Addr} {nb : Nb} {wt : Wt} {ks : List Str} {ad : Str → Addr} {u : Str} (cp : Cop H ra nb wt ks ad H2) (hu : u ∉ ks) (sT : Same H2 H3) (np : H3 p = none) (nk : List Str) :
    Cop H ra (fun y => if y = u then nk else nb y) wt (ks ++ [u]) (fun y => if y = u then p else ad y) (upd (upd H3 p (.dK (dct nk fun v => .int (wt u v)))) ra (.dK (dct (ks ++ [u]) fun y => if y = u then V.ref p else V.ref (ad y)))) := by
  have npr : ra ≠ p := ne_of_none (sT _ _ cp.rows.top) np
  have npH : H p = none := by
    cases e : H p with
    | none => rfl
    | some o =>
      have z := sT _ _ (cp.keep _ _ e (Ne.symm npr))
      rw [np] at z
      cases z
  have e1 : dct (ks ++ [u]) (fun y => if y = u then V.ref p else V.ref (ad y)) = dct (ks ++ [u]) fun y => V.ref (if y = u then p else ad y) := dct_congr fun y _ => by split <;> rfl
  rw [e1]
  have at_ : ∀ y ∈ ks, H3 (ad y) = some (.dK (dct (nb y) fun v => .int (wt y v))) := fun y hy => sT _ _ (cp.rows.row y hy)
  have mm : ∀ y, y ∈ ks ++ [u] → (y = u ∧ (if y = u then p else ad y) = p) ∨ (y ∈ ks ∧ y ≠ u ∧ (if y = u then p else ad y) = ad y) := fun y hy => by
    by_cases e : y = u
    · exact .inl ⟨e, if_pos e⟩
    · rcases List.mem_append.mp hy with h | h
      · exact .inr ⟨h, e, if_neg e⟩
      · exact absurd (List.mem_singleton.mp h) e
  refine ⟨⟨upd_same, fun y hy => ?_, fun y hy z hz e => ?_, ?_⟩, fun b o hb hne => ?_, fun y hy => ?_⟩
  · rcases mm y hy with ⟨h1, h2⟩ | ⟨h1, h2, h3⟩
    · rw [h2, upd_ne (Ne.symm npr), upd_same, h1, if_pos rfl]
    · rw [h3, upd_ne (fun q => cp.rows.ne h1 q), upd_ne (ne_of_none (at_ y h1) np), if_neg h2]
      exact at_ y h1
  · have e : (if y = u then p else ad y) = (if z = u then p else ad z) := e
    rcases mm y hy with ⟨h1, h2⟩ | ⟨h1, h2, h3⟩
    · rcases mm z hz with ⟨g1, g2⟩ | ⟨g1, g2, g3⟩
      · rw [h1, g1]
      · rw [h2, g3] at e
        exact absurd e.symm (ne_of_none (at_ z g1) np)
    · rcases mm z hz with ⟨g1, g2⟩ | ⟨g1, g2, g3⟩
      · rw [h3, g2] at e
        exact absurd e (ne_of_none (at_ y h1) np)
      · rw [h3, g3] at e
        exact cp.rows.inj y h1 z g1 e
  · rw [List.nodup_append]
    refine ⟨cp.rows.nd, by simp, fun a1 h1 b1 h3 e => ?_⟩
    have h3 : b1 = u := by simpa using h3
    rw [e, h3] at h1
    exact hu h1
  · rw [upd_ne hne, upd_ne (ne_of_none hb npH)]
    exact sT _ _ (cp.keep _ _ hb hne)
  · show H (if y = u then p else ad y) = none
    rcases mm y hy with ⟨h1, h2⟩ | ⟨h1, h2, h3⟩
    · rw [h2]
      exact npH
    · rw [h3]
      exact cp.new y h1
def spSorted : Sp := fun vs H Q _ => ∃ (a : Addr) (Vs : List Str) (ad : Str → Addr) (nb : Nb) (wt : Wt), vs = [.ref a] ∧ RowsR H a Vs ad nb wt ∧ Vs.Nodup ∧ (∀ u ∈ Vs, (nb u).Nodup) ∧ Vs.length < 64 ∧ (∀ u ∈ Vs, (nb u).length < 64) ∧
  ∀ p Ws bd nb' H', Same H H' → H p = none → RowsZ H' p Ws bd nb' wt → Ws.Perm Vs → Asc Ws → (∀ u ∈ Ws, (nb' u).Perm (nb u) ∧ Asc (nb' u)) → Q (.ref p) H'
theorem sc_sorted_rows : FnScope ["around", "v", "u"] ["around"] (defScope s_sorted_rows) := ⟨rfl, rfl, rfl, by decide +kernel, rfl, by decide +kernel, by decide +kernel⟩
theorem c_sorted_rows (D : Def K mg "sorted_rows" s_sorted_rows) (B : Bi mg) : Callee P w K mg base CX0 1 "sorted_rows" ["around"] spSorted := by
  obtain ⟨f, fd, F, g⟩ := D
  refine ⟨f, fd, F.ok sc_sorted_rows (fun vs H Q E h => ?_) (fun cdv A outer s H vs Q E hr h => ?_), g, F.kp, F.bindsN (fun _ _ _ _ _ _ us hl => match us, hl with | [_], _ => rfl)⟩
  · obtain ⟨a, Vs, ad, nb, wt, rfl, _⟩ := h
    rfl
  · have hu := hu_of hr
    have nd := sc_sorted_rows.nd
    refine ⟨_, PSs.nox (pss_one (WkD.ps_fz (ps_ret (pe_dc (own := [("u", 2)]) (by rfl) nd (WkN.piL K (by rfl) (pe_callB (call_sortedD rfl) (by rfl) B.n_sorted (by decide +kernel) (pa_cons (pv 0) pa_nil))) (blkOk_by (by kernel_rfl)) (fun _ _ _ _ _ => (pg_name (i := 2) nd rfl (Or.inr rfl))) (fun _ _ _ _ _ => pts_nil) (fun _ _ _ _ _ => (pv 2)) (fun _ _ _ _ _ => (pe_dc (own := [("v", 1)]) (by rfl) nd (WkN.piL K (by rfl) (pe_callB (call_sortedD rfl) (by rfl) B.n_sorted (by decide +kernel) (pa_cons (pe_dget hu (pv 0) (pv 2) (fun _ _ => rfl)) pa_nil))) (blkOk_by (by kernel_rfl)) (fun _ _ _ _ _ => (pg_name (i := 1) nd rfl (Or.inl rfl))) (fun _ _ _ _ _ => pts_nil) (fun _ _ _ _ _ => (pv 1)) (fun _ _ _ _ _ => (pe_dget hu (pe_dget hu (pv 0) (pv 2) (fun _ _ => rfl)) (pv 1) (fun _ _ => rfl))))))))), ?_⟩
    obtain ⟨a, Vs, ad, nb, wt, rfl, R, hVn, hnn, hl, hnl, k⟩ := h
    refine ⟨_, rfl, a, _, Vs, rfl, R.top, dct_keys, hl, fun ys p1 pm so np1 => ?_⟩
    have s1 : Same H (upd H p1 (.lst (ys.map V.str))) := same_upd np1
    have L1 : upd H p1 (.lst (ys.map V.str)) p1 = some (.lst (ys.map V.str)) := upd_same
    generalize upd H p1 (.lst (ys.map V.str)) = H1 at s1 L1
    have R1 := R.ext (Ext.of s1)
    have yn : ys.Nodup := pm.nodup_iff.mpr hVn
    have yl : ys.length = Vs.length := pm.length_eq
    refine ⟨p1, rfl, ⟨_, SqL.of L1⟩, fun D nD => ?_⟩
    refine dc_it (walk_list (xs := ys.map V.str)) (fun i H2 => ∃ bd nb', Cop H1 D nb' wt (ys.take i) bd H2 ∧ ∀ u ∈ ys.take i, (nb' u).Perm (nb u) ∧ Asc (nb' u)) ⟨ad, nb, ⟨⟨upd_same, fun u hu => absurd hu (by simp), fun u hu => absurd hu (by simp), by simp⟩, fun b o hb hne => by rw [upd_ne hne]; exact hb, fun u hu => absurd hu (by simp)⟩, fun u hu => absurd hu (by simp)⟩ ?_ ?_ ?_
    · rintro i H2 hi ⟨bd, nb', cp, hp⟩
      exact SqL.of (cp.keep _ _ L1 (ne_of_none L1 nD))
    · rintro i x H2 H2' hi ⟨bd, nb', cp, hp⟩ ⟨rfl, hx⟩
      rw [List.length_map] at hi
      rw [List.getElem?_map, List.getElem?_eq_getElem hi] at hx
      cases hx
      obtain ⟨u, eu⟩ : ∃ u, u = ys[i] := ⟨_, rfl⟩
      have tk := takeS (List.getElem?_eq_getElem hi)
      have hnu : ys[i] ∉ ys.take i := fun z => by
        obtain ⟨j, hj, e⟩ := List.mem_iff_getElem.mp z
        rw [List.length_take] at hj
        rw [List.getElem_take] at e
        have := (List.getElem_inj yn).mp e
        omega
      have huV : u ∈ Vs := pm.mem_iff.mp (eu ▸ List.getElem_mem hi)
      rw [← eu] at tk hnu ⊢
      refine ⟨rfl, tYes_if ?_⟩
      have keepR : ∀ b o, Rd H1 b (.dK o) → Rd H2' b (.dK o) := fun b o h => by
        rcases h with h | ⟨q, h⟩
        · exact .inl (cp.keep _ _ h (ne_of_none h nD))
        · exact .inr ⟨q, cp.keep _ _ h (ne_of_none h nD)⟩
      have top2 := keepR _ _ R1.top
      have row2 := keepR _ _ (R1.row u huV)
      refine ⟨_, rfl, _, rfl, _, rfl, a, _, rfl, get_d top2 huV, ad u, _, nb u, rfl, row2, dct_keys, hnl u huV, fun zs p2 pm2 so2 np2 => ?_⟩
      have s3 : Same H2' (upd H2' p2 (.lst (zs.map V.str))) := same_upd np2
      have L3 : upd H2' p2 (.lst (zs.map V.str)) p2 = some (.lst (zs.map V.str)) := upd_same
      generalize upd H2' p2 (.lst (zs.map V.str)) = H3 at s3 L3
      have zn : zs.Nodup := pm2.nodup_iff.mpr (hnn u huV)
      have top3 := rdS s3 top2
      have row3 := rdS s3 row2
      refine ⟨p2, rfl, ⟨_, SqL.of L3⟩, fun D2 nD2 => ?_⟩
      have sD : ∀ o, Same H3 (upd H3 D2 o) := fun o => same_upd nD2
      refine dc_it (walk_list (xs := zs.map V.str)) (fun j H4 => H4 = upd H3 D2 (.dK (dct (zs.take j) fun v => .int (wt u v)))) rfl ?_ ?_ ?_
      · rintro j H4 hj rfl
        exact SqL.of ((sD _) _ _ L3)
      · rintro j x H4 H4' hj rfl ⟨rfl, hx⟩
        rw [List.length_map] at hj
        rw [List.getElem?_map, List.getElem?_eq_getElem hj] at hx
        cases hx
        have hvn : zs[j] ∈ nb u := pm2.mem_iff.mp (List.getElem_mem hj)
        have hnv : zs[j] ∉ zs.take j := fun z => by
          obtain ⟨j', hj', e⟩ := List.mem_iff_getElem.mp z
          rw [List.length_take] at hj'
          rw [List.getElem_take] at e
          have := (List.getElem_inj zn).mp e
          omega
        refine ⟨rfl, tYes_if ?_⟩
        refine ⟨_, rfl, _, rfl, _, rfl, a, _, rfl, get_d (rdS (sD _) top3) huV, _, rfl, ad u, _, rfl, get_d (rdS (sD _) row3) hvn, _, Sum.inr zs[j], rfl, upd_same, ?_, ?_⟩
        · rw [dct_len, List.length_take]
          have := pm2.length_eq
          have := hnl u huV
          have : 64 ≤ sizeLine := by decide
          omega
        · rw [upd_upd, dct_put_new hnv, takeS (List.getElem?_eq_getElem hj)]
          congr 2
          exact dct_congr fun y _ => by
            split
            · rename_i e
              rw [e]
            · rfl
      · rintro H4 rfl
        rw [List.length_map, List.take_length]
        have nDD : D ≠ D2 := ne_of_none (s3 _ _ cp.rows.top) nD2
        refine ⟨_, Sum.inr u, rfl, by rw [upd_ne nDD]; exact s3 _ _ cp.rows.top, ?_, fun y => if y = u then D2 else bd y, fun y => if y = u then zs else nb' y, ?_, fun y hy => ?_⟩
        · rw [dct_len, List.length_take]
          have : 64 ≤ sizeLine := by decide
          omega
        · rw [dct_put_new hnu, tk]
          exact cp.snoc hnu s3 nD2 zs
        · by_cases e : y = u
          · show (if y = u then zs else nb' y).Perm (nb y) ∧ Asc (if y = u then zs else nb' y)
            rw [if_pos e, e]
            exact ⟨pm2, asc_of so2 zn⟩
          · show (if y = u then zs else nb' y).Perm (nb y) ∧ Asc (if y = u then zs else nb' y)
            rw [if_neg e]
            rw [tk] at hy
            rcases List.mem_append.mp hy with h | h
            · exact hp y h
            · exact absurd (List.mem_singleton.mp h) e
    · rintro H2 ⟨bd, nb', cp, hp⟩
      rw [List.length_map, List.take_length] at cp hp
      refine ⟨(D, .dK (dct ys fun u => .ref (bd u))) :: ys.map fun u => (bd u, .dK (dct (nb' u) fun v => .int (wt u v))), tFz_intro (fun p hp' => ?_) ?_ fun H3 z1 z2 => ?_⟩
      · rcases List.mem_cons.mp hp' with rfl | h
        · exact ⟨cp.rows.top, trivial⟩
        · obtain ⟨u, hu', rfl⟩ := List.mem_map.mp h
          exact ⟨cp.rows.row u hu', trivial⟩
      · rw [List.map_cons, List.nodup_cons, List.map_map]
        refine ⟨fun h => ?_, ?_⟩
        · obtain ⟨u, hu', e⟩ := List.mem_map.mp h
          exact cp.rows.ne hu' e
        · refine List.pairwise_map.mpr (List.Pairwise.imp_of_mem (fun {x y} hx hy hne e => hne (cp.rows.inj x hx y hy e)) yn)
      · have fr : Same H H3 := fun b o hb => by
          have h1 := s1 _ _ hb
          have hb2 : b ≠ D := ne_of_none h1 nD
          rw [z2 b fun hm => ?_]
          · exact cp.keep _ _ h1 hb2
          · rw [List.map_cons, List.mem_cons] at hm
            rcases hm with e | hm
            · exact hb2 e
            · rw [List.map_map] at hm
              obtain ⟨u, hu', e⟩ := List.mem_map.mp hm
              have n := cp.new u hu'
              rw [show bd u = b from e, h1] at n
              cases n
        have nDH : H D = none := by
          cases e : H D with
          | none => rfl
          | some o =>
            rw [s1 _ _ e] at nD
            cases nD
        refine k D ys bd nb' H3 fr nDH ⟨z1 _ List.mem_cons_self, fun u hu' => z1 _ (List.mem_cons_of_mem _ (List.mem_map.mpr ⟨u, hu', rfl⟩))⟩ pm (asc_of so yn) hp
end
end Wk
namespace Wk
open PySem PySem.Spec PyProof.Rows L2 WkD WkN LamX WkP
inductive Rch (nb : Nb) (s : Str) : Str → Prop
  | here : Rch nb s s
  | go {u v : Str} : Rch nb s u → v ∈ nb u → Rch nb s v
structure Rst (Vs : List Str) (nb : Nb) (s : Str) (fl wl : List Str) : Prop where
  nd : fl.Nodup
  sub : ∀ u ∈ fl, u ∈ Vs
  st : s ∈ fl
  wf : ∀ u ∈ wl, u ∈ fl
  cl : ∀ u ∈ fl, u ∉ wl → ∀ v ∈ nb u, v ∈ fl
  rc : ∀ u ∈ fl, Rch nb s u
section
variable {P : Program} {w : World} {K : PySem.W.Frag} {mg : Str → Option Value} {base : Heap}
def spReach : Sp := fun vs H Q _ => ∃ (a : Addr) (Vs : List Str) (ad : Str → Addr) (nb : Nb) (wt : Wt) (s : Str), vs = [.ref a, .str s] ∧ RowsM H a Vs ad nb wt ∧ s ∈ Vs ∧ (∀ u ∈ Vs, ∀ v ∈ nb u, v ∈ Vs) ∧ Vs.length < 64 ∧
  ∀ p ys H', Same H H' → H' p = some (.tup (ys.map V.str)) → Asc ys → (∀ y, y ∈ ys ↔ Rch nb s y) → (∀ y ∈ ys, y ∈ Vs) → Q (.ref p) H'
theorem sc_reached : FnScope ["around", "start", "found", "waiting", "vertex"] ["around", "start"] (defScope s_reached) := ⟨rfl, rfl, rfl, by decide +kernel, rfl, by decide +kernel, by decide +kernel⟩
theorem c_reached (D : Def K mg "reached" s_reached) (B : Bi mg) : Callee P w K mg base CX0 1 "reached" ["around", "start"] spReach := by
  obtain ⟨f, fd, F, g⟩ := D
  refine ⟨f, fd, F.ok sc_reached (fun vs H Q E h => ?_) (fun cdv A outer s H vs Q E hr h => ?_), g, F.kp, F.bindsN (fun _ _ _ _ _ _ us hl => match us, hl with | [_, _], _ => rfl)⟩
  · obtain ⟨a, Vs, ad, nb, wt, s, rfl, _⟩ := h
    rfl
  · have hu := hu_of hr
    have nd := sc_reached.nd
    refine ⟨_, PSs.nox (pss_cons (ps_par (i := 2) (j := 3) (by rfl) nd rfl rfl (by decide) rfl rfl (pa_cons (pe_disp (pps_cons (pv 1) pe_bl pps_nil) (by rfl) (by rfl) (fun z => by cases z) (by decide)) (pa_cons (pe_lst (pa_cons (pv 1) pa_nil)) pa_nil)) (by rfl))
      (pss_cons (ps_while PassesOwn.never (pt_cmpR (WkG.op_neNil hr.units) (pv 3) (pe_lst pa_nil) (nomark _))
      (pss_one (ps_lock (ps_for PassesOwn.never rfl (pi_keys (pe_dget hu (pv 0) (pe_bm0 PySem.F.plainAttrs_list PySem.F.slot_list_pop PySem.F.type_list_pop mt_pop (pv 3)) (fun _ _ => rfl))) (pg_name (i := 4) nd rfl (Or.inl rfl))
      (pss_one (ps_if (pt_cmp (pc_dnotin hu (pv 4) (pv 2)))
      (pss_cons (ps_dput hu (pv 2) (pv 4) pe_bl rfl)
      (pss_one (ps_expr (pe_bm PySem.F.plainAttrs_list PySem.F.slot_list_append PySem.F.type_list_append mt_append (pv 3) (pa_cons (pv 4) pa_nil))))) pss_nil))))))
      (pss_one (ps_ret (pe_callTy call_tuple_of (by rfl) B.n_tuple (by decide +kernel) (pa_cons (pe_callB (call_sortedD rfl) (by rfl) B.n_sorted (by decide +kernel) (pa_cons (pv 2) pa_nil)) pa_nil)))))), ?_⟩
    obtain ⟨a, Vs, ad, nb, wt, st, rfl, R, hs, hnb, hl, k⟩ := h
    intro fo nfo
    refine ⟨_, rfl, upd_same, [(Sum.inr st, .bl true)], rfl, (by show 1 ≤ 15; decide), ?_⟩
    rw [upd_upd]
    have e0 : mergeK [] [((Sum.inr st : Key), V.bl true)] = dct [st] fun _ => .bl true := rfl
    rw [e0]
    have s1 : Same H (upd H fo (.dK (dct [st] fun _ => .bl true))) := same_upd nfo
    have F1 : upd H fo (.dK (dct [st] fun _ => .bl true)) fo = some (.dK (dct [st] fun _ => .bl true)) := upd_same
    generalize upd H fo (.dK (dct [st] fun _ => .bl true)) = H1 at s1 F1
    refine ⟨_, rfl, by show 1 ≤ sizeLine; decide, fun wa nwa => ⟨_, _, rfl, ?_⟩⟩
    have nwf : fo ≠ wa := ne_of_none F1 nwa
    have s2 : Same H (upd H1 wa (.lst [.str st])) := s1.trans (same_upd nwa)
    have F2 := (same_upd (o := .lst [.str st]) nwa) _ _ F1
    have W2 : upd H1 wa (.lst [.str st]) wa = some (.lst [.str st]) := upd_same
    have nwH : H wa = none := by
      cases e : H wa with
      | none => rfl
      | some o =>
        rw [s1 _ _ e] at nwa
        cases nwa
    generalize upd H1 wa (.lst [.str st]) = H2 at s2 F2 W2
    refine ⟨fun m σ Hc => ∃ (fl wl : List Str) (x4 : Option V), σ = [some (.ref a), some (.str st), some (.ref fo), some (.ref wa), x4] ∧ Same H Hc ∧ Hc fo = some (.dK (dct fl fun _ => .bl true)) ∧ Hc wa = some (.lst (wl.map V.str)) ∧ Rst Vs nb st fl wl ∧ wl.length ≤ fl.length ∧ m = 2 * (Vs.length - fl.length) + wl.length,
      ⟨_, [st], [st], none, rfl, s2, F2, W2, ⟨by simp, fun u hu => by rw [List.mem_singleton.mp hu]; exact hs, by simp, fun u hu => hu, fun u hu hn => absurd hu hn, fun u hu => by rw [List.mem_singleton.mp hu]; exact .here⟩, Nat.le_refl _, rfl⟩, ?_⟩
    rintro m σ H3 ⟨fl, wl, x4, rfl, s3, F3, W3, rs, hle, rfl⟩
    have flV : fl.length ≤ Vs.length := rs.nd.length_le_of_subset fun u hu => rs.sub u hu
    refine ⟨_, rfl, by show 0 ≤ sizeLine; decide, fun q nq => ?_⟩
    have s4 := s3.trans (same_upd (o := .lst []) nq)
    have F4 := (same_upd (o := .lst []) nq) _ _ F3
    have W4 := (same_upd (o := .lst []) nq) _ _ W3
    have Q4 : upd H3 q (.lst []) q = some (.lst []) := upd_same
    generalize upd H3 q (.lst []) = H4 at s4 F4 W4 Q4
    refine ⟨wa, q, _, rfl, rfl, SqL.of W4, SqL.of Q4, _, rfl, ?_⟩
    refine ite2 (fun hb => ?_) (fun hb => ?_)
    · have hne : wl ≠ [] := fun z => by
        rw [z] at hb
        cases hb
      refine ⟨fun σ' H' => ∃ (fl' wl' : List Str) (x4 : Option V), σ' = [some (.ref a), some (.str st), some (.ref fo), some (.ref wa), x4] ∧ Same H H' ∧ H' fo = some (.dK (dct fl' fun _ => .bl true)) ∧ H' wa = some (.lst (wl'.map V.str)) ∧ Rst Vs nb st fl' wl' ∧ wl'.length ≤ fl'.length ∧ 2 * (Vs.length - fl'.length) + wl'.length < 2 * (Vs.length - fl.length) + wl.length, ?_, ?_⟩
      · rintro σ' H' ⟨fl', wl', x4, q1, q2, q3, q4, q5, q6, q7⟩
        exact ⟨_, q7, fl', wl', x4, q1, q2, q3, q4, q5, q6, rfl⟩
      obtain ⟨wp, u, rfl⟩ : ∃ wp u, wl = wp ++ [u] := ⟨wl.dropLast, wl.getLast hne, (List.dropLast_concat_getLast hne).symm⟩
      have huf : u ∈ fl := rs.wf u (by simp)
      have huV := rs.sub u huf
      have R4 := R.ext (Ext.of s4)
      refine ⟨ad u, _, R4.row u huV, trivial, fun od => ?_⟩
      have nuf : fo ≠ ad u := Ne.symm (ne_of_none (R.row u huV) nfo)
      have nuw : wa ≠ ad u := Ne.symm (ne_of_none (R.row u huV) nwH)
      have naw : a ≠ wa := ne_of_none R.top nwH
      have nau := R.ne huV
      have Z5 : upd H4 (ad u) (.frz od (.dK (dct (nb u) fun v => .int (wt u v)))) (ad u) = some (.frz od (.dK (dct (nb u) fun v => .int (wt u v)))) := upd_same
      have k5 : ∀ b o, H4 b = some o → b ≠ ad u → upd H4 (ad u) (.frz od (.dK (dct (nb u) fun v => .int (wt u v)))) b = some o := fun b o hb hne => by
        rw [upd_ne hne]
        exact hb
      generalize upd H4 (ad u) (.frz od (.dK (dct (nb u) fun v => .int (wt u v)))) = H5 at Z5 k5
      have W5 := k5 _ _ W4 nuw
      have F5 := k5 _ _ F4 nuf
      have A5 := k5 _ _ R4.top (Ne.symm nau)
      refine ⟨_, rfl, _, rfl, .inl ⟨rfl, _, SqL.of W5⟩, wa, _, .str u, rfl, rfl, W5, by simp, ?_⟩
      have dl : (List.map V.str (wp ++ [u])).dropLast = wp.map V.str := by simp
      rw [dl]
      have k6 : ∀ b o, H5 b = some o → b ≠ wa → upd H5 wa (.lst (wp.map V.str)) b = some o := fun b o hb hne => by
        rw [upd_ne hne]
        exact hb
      have W6 : upd H5 wa (.lst (wp.map V.str)) wa = some (.lst (wp.map V.str)) := upd_same
      show ∃ a_1 v, _ ∧ DGet (upd H5 wa (.lst (wp.map V.str))) a_1 (.str u) (some v) ∧ _
      generalize upd H5 wa (.lst (wp.map V.str)) = H6 at k6 W6
      have Z6 := k6 _ _ Z5 (Ne.symm nuw)
      have F6 := k6 _ _ F5 nwf
      refine ⟨a, _, rfl, get_d (.inl (k6 _ _ A5 naw)) huV, ad u, od, rfl, .inl ⟨_, Z6, ?_⟩⟩
      refine for_it (walk_keys (kvs := dct (nb u) fun v => .int (wt u v))) (fun i σ Hc => ∃ (new : List Str) (x4 : Option V), σ = [some (.ref a), some (.str st), some (.ref fo), some (.ref wa), x4] ∧ (∀ b o, H4 b = some o → b ≠ ad u → b ≠ wa → b ≠ fo → Hc b = some o) ∧ Hc (ad u) = some (.frz od (.dK (dct (nb u) fun v => .int (wt u v)))) ∧
        Hc fo = some (.dK (dct (fl ++ new) fun _ => .bl true)) ∧ Hc wa = some (.lst ((wp ++ new).map V.str)) ∧ (fl ++ new).Nodup ∧ (∀ v ∈ new, v ∈ Vs ∧ Rch nb st v) ∧ ∀ v ∈ (nb u).take i, v ∈ fl ++ new)
        ⟨[], x4, rfl, fun b o h1 h2 h3 _ => k6 _ _ (k5 _ _ h1 h2) h3, Z6, by rw [List.append_nil]; exact F6, by rw [List.append_nil]; exact W6, by rw [List.append_nil]; exact rs.nd, fun v hv => absurd hv (by simp), fun v hv => absurd hv (by simp)⟩ ?_ ?_ ?_
      · rintro i σ Hc hi ⟨new, x4, rfl, q1, q2, q3, q4, q5, q6, q7⟩
        exact q2
      · rintro i x σ Hc Hc' hi ⟨new, x4, rfl, q1, q2, q3, q4, q5, q6, q7⟩ ⟨rfl, k0, v0, hk, rfl⟩
        rw [dct_len] at hi
        rw [dct_at, List.getElem?_eq_getElem hi] at hk
        cases hk
        obtain ⟨v, ev⟩ : ∃ v, v = (nb u)[i] := ⟨_, rfl⟩
        have hvn : v ∈ nb u := ev ▸ List.getElem_mem hi
        have tk : ∀ y, y ∈ (nb u).take (i + 1) → y ∈ (nb u).take i ∨ y = v := fun y hy => by
          rw [takeS (List.getElem?_eq_getElem hi), List.mem_append, List.mem_singleton, ← ev] at hy
          exact hy
        have nl : (fl ++ new).length ≤ Vs.length := q5.length_le_of_subset fun y hy => (List.mem_append.mp hy).elim (fun h => rs.sub y h) (fun h => (q6 y h).1)
        have big : 64 ≤ sizeLine := by decide
        have wpl : wp.length + 1 ≤ fl.length := by simpa using hle
        have nll : fl.length + new.length ≤ Vs.length := by simpa using nl
        show tIfS _ _ _ _ (List.set _ _ (some (.str (nb u)[i]))) _
        rw [← ev]
        refine ⟨_, rfl, _, rfl, fo, _, rfl, get_x (.inl q3), _, rfl, ?_⟩
        have eo : (if v ∈ fl ++ new then some (V.bl true) else none).isSome = decide (v ∈ fl ++ new) := by
          by_cases h : v ∈ fl ++ new
          · rw [if_pos h, decide_eq_true h]
            rfl
          · rw [if_neg h, decide_eq_false h]
            rfl
        rw [eo]
        refine ite2 (fun h1 => ?_) (fun h1 => ?_)
        · have hn : v ∉ fl ++ new := fun z => by
            rw [decide_eq_true z] at h1
            cases h1
          refine ⟨_, rfl, _, rfl, fo, _, rfl, put_n q3 hn (by rw [List.length_append]; omega), ?_⟩
          have q4' : upd Hc' fo (.dK (dct ((fl ++ new) ++ [v]) fun y => if y = v then V.bl true else V.bl true)) wa = some (.lst ((wp ++ new).map V.str)) := by
            rw [upd_ne (Ne.symm nwf)]
            exact q4
          refine ⟨_, rfl, .inl ⟨rfl, _, SqL.of q4'⟩, _, rfl, wa, _, _, rfl, rfl, q4', by simp; omega, new ++ [v], _, rfl, fun b o b1 b2 b3 b4 => ?_, ?_, ?_, ?_, ?_, ?_, ?_⟩
          · rw [upd_ne b3, upd_ne b4]
            exact q1 b o b1 b2 b3 b4
          · rw [upd_ne (Ne.symm nuw), upd_ne (Ne.symm nuf)]
            exact q2
          · rw [upd_ne nwf, upd_same, List.append_assoc]
            congr 2
            exact dct_congr fun y _ => by split <;> rfl
          · rw [upd_same, ← List.append_assoc, List.map_append (l₁ := wp ++ new)]
            rfl
          · rw [← List.append_assoc, List.nodup_append]
            refine ⟨q5, by simp, fun a1 h2 b1 h3 e => ?_⟩
            have h3 : b1 = v := by simpa using h3
            rw [e, h3] at h2
            exact hn h2
          · intro y hy
            rcases List.mem_append.mp hy with h | h
            · exact q6 y h
            · rw [List.mem_singleton.mp h]
              exact ⟨hnb u huV v hvn, .go (rs.rc u huf) hvn⟩
          · intro y hy
            rw [← List.append_assoc, List.mem_append]
            rcases tk y hy with h | h
            · exact .inl (q7 y h)
            · exact .inr (by rw [h]; simp)
        · have hn : v ∈ fl ++ new := by
            by_cases h : v ∈ fl ++ new
            · exact h
            · rw [decide_eq_false h] at h1
              exact absurd rfl h1
          refine ⟨new, _, rfl, q1, q2, q3, q4, q5, q6, fun y hy => ?_⟩
          rcases tk y hy with h | h
          · exact q7 y h
          · rw [h]
            exact hn
      · rintro σ Hc ⟨new, x4, rfl, q1, q2, q3, q4, q5, q6, q7⟩
        rw [dct_len, List.take_length] at q7
        have wpl : wp.length + 1 ≤ fl.length := by simpa using hle
        have nl : (fl ++ new).length ≤ Vs.length := q5.length_le_of_subset fun y hy => (List.mem_append.mp hy).elim (fun h => rs.sub y h) (fun h => (q6 y h).1)
        have nll : fl.length + new.length ≤ Vs.length := by simpa using nl
        refine ⟨q2, fl ++ new, wp ++ new, _, rfl, fun b o hb => ?_, by rw [upd_ne nuf]; exact q3, by rw [upd_ne nuw]; exact q4, ⟨q5, fun y hy => (List.mem_append.mp hy).elim (fun h => rs.sub y h) (fun h => (q6 y h).1), List.mem_append_left _ rs.st, fun y hy => ?_, fun y hy hn v hv => ?_, fun y hy => (List.mem_append.mp hy).elim (fun h => rs.rc y h) (fun h => (q6 y h).2)⟩, by simp; omega, by simp; omega⟩
        · by_cases e : b = ad u
          · subst e
            rw [upd_same, ← hb, R.row u huV]
          · rw [upd_ne e]
            exact q1 b o (s4 _ _ hb) e (ne_of_none hb nwH) (ne_of_none hb nfo)
        · rcases List.mem_append.mp hy with h | h
          · exact List.mem_append_left _ (rs.wf y (by simp [h]))
          · exact List.mem_append_right _ h
        · rcases List.mem_append.mp hy with h | h
          · by_cases e : y = u
            · subst e
              exact q7 v hv
            · exact List.mem_append_left _ (rs.cl y h (by simp [e]; exact fun z => hn (List.mem_append_left _ z)) v hv)
          · exact absurd (List.mem_append_right _ h) hn
    · have we : wl = [] := by
        cases wl with
        | nil => rfl
        | cons y r => exact absurd rfl hb
      subst we
      refine ⟨_, rfl, fo, _, fl, rfl, .inl F4, dct_keys, by omega, fun ys p1 pm so np1 => ?_⟩
      have L1 : upd H4 p1 (.lst (ys.map V.str)) p1 = some (.lst (ys.map V.str)) := upd_same
      have s5 := s4.trans (same_upd (o := .lst (ys.map V.str)) np1)
      generalize upd H4 p1 (.lst (ys.map V.str)) = H5 at L1 s5
      refine ⟨p1, _, rfl, .inl ⟨SqL.of L1, fun p np => ?_⟩⟩
      refine k p ys _ (s5.trans (same_upd np)) upd_same (asc_of so (pm.nodup_iff.mpr rs.nd)) (fun y => ⟨fun hy => rs.rc y (pm.mem_iff.mp hy), fun hy => pm.mem_iff.mpr ?_⟩) fun y hy => rs.sub y (pm.mem_iff.mp hy)
      induction hy with
      | here => exact rs.st
      | go _ hv ih => exact rs.cl _ ih (by simp) _ hv
end
end Wk
namespace Wk
open PySem PySem.Spec PyProof.Rows L2 WkD WkN LamX WkP
section
variable {P : Program} {w : World} {K : PySem.W.Frag} {mg : Str → Option Value} {base : Heap}
def spConn : Sp := fun vs H Q _ => ∃ (a : Addr) (Vs : List Str) (ad : Str → Addr) (nb : Nb) (wt : Wt), vs = [.ref a] ∧ RowsM H a Vs ad nb wt ∧ 2 ≤ Vs.length ∧ (∀ u ∈ Vs, ∀ v ∈ nb u, v ∈ Vs) ∧ Vs.length < 64 ∧ (∀ s ∈ Vs, ∀ u ∈ Vs, Rch nb s u) ∧ ∀ H', Same H H' → Q .non H'
theorem sc_check_connected : FnScope ["around", "side"] ["around"] (defScope s_check_connected) := ⟨rfl, rfl, rfl, by decide +kernel, rfl, by decide +kernel, by decide +kernel⟩
theorem c_check_connected (D : Def K mg "check_connected" s_check_connected) (B : Bi mg) (CR : Callee P w K mg base CX0 1 "reached" ["around", "start"] spReach) : Callee P w K mg base CX0 2 "check_connected" ["around"] spConn := by
  obtain ⟨f, fd, F, g⟩ := D
  refine ⟨f, fd, F.ok sc_check_connected (fun vs H Q E h => ?_) (fun cdv A outer s H vs Q E hr h => ?_), g, F.kp, F.bindsN (fun _ _ _ _ _ _ us hl => match us, hl with | [_], _ => rfl)⟩
  · obtain ⟨a, Vs, ad, nb, wt, rfl, _⟩ := h
    rfl
  · have hu := hu_of hr
    have nd := sc_check_connected.nd
    have hr2 : Room 1 _ := hr
    refine ⟨_, PSs.nox (pss_cons (ps_set (i := 1) nd rfl (Or.inl rfl) (pe_ifExp (pt_cmpR (WkD.op_neE hr.units0) (pv 0) pe_dnewK (nomark _)) (pe_c CR hr2 pass0 (pa_cons (pv 0) (pa_cons (pe_callB (WkD.cr_minSD rfl) (by rfl) B.n_min (by decide +kernel) (pa_cons (pv 0) pa_nil)) pa_nil))) (pe_tup pa_nil)))
      (pss_one (ps_if (pt_cmpR op_lt (pe_callB call_len_seq (by rfl) B.n_len (by decide +kernel) (pa_cons (pv 1) pa_nil)) (pe_callB (call_max2 rfl) (by rfl) B.n_max (by decide +kernel) (pa_cons pe_int (pa_cons (pe_callB call_lenD (by rfl) B.n_len boot_len (pa_cons (pv 0) pa_nil)) pa_nil))) (nomark _))
      (pss_one ps_never) pss_nil))), ?_⟩
    obtain ⟨a, Vs, ad, nb, wt, rfl, R, h2, hnb, hl, hc, k⟩ := h
    refine ⟨_, rfl, fun q nq => ?_⟩
    have s1 : Same H (upd H q (.dK [])) := same_upd nq
    have Q1 : upd H q (.dK []) q = some (.dK []) := upd_same
    generalize upd H q (.dK []) = H1 at s1 Q1
    have R1 := R.ext (Ext.of s1)
    have ne : Vs ≠ [] := fun z => by
      rw [z] at h2
      simp at h2
    refine ⟨a, q, _, rfl, rfl, .inl R1.top, Q1, _, rfl, ?_⟩
    have e1 : (!(dct Vs fun u => V.ref (ad u)).isEmpty) = true := by
      cases Vs with
      | nil => exact absurd rfl ne
      | cons y r => rfl
    rw [e1]
    refine iteT ?_
    refine ⟨_, rfl, _, rfl, a, _, Vs, rfl, .inl R1.top, dct_keys, ne, fun m hm _ => ?_⟩
    refine ⟨a, Vs, ad, nb, wt, m, rfl, R1, hm, hnb, hl, fun p ys H2 s2 hp ha hy hyV => ?_⟩
    have len : ys.length = Vs.length := by
      refine Nat.le_antisymm ((asc_nodup ha).length_le_of_subset fun y h => hyV y h) (R.nd.length_le_of_subset fun u hu => (hy u).mpr (hc m hm u hu))
    have R2 := R1.ext (Ext.of s2)
    refine ⟨_, rfl, p, _, rfl, .inr (.inl (.inl hp)), _, rfl, a, _, rfl, R2.top, _, _, rfl, _, _, rfl, rfl, _, rfl, ?_⟩
    rw [List.length_map, len, dct_len]
    have e2 : decide ((Vs.length : Int) < if (Vs.length : Int) > 2 then (Vs.length : Int) else 2) = false := by
      refine decide_eq_false ?_
      split <;> omega
    refine ite2 (fun h => ?_) (fun _ => k H2 (s1.trans s2))
    rw [e2] at h
    cases h
end
end Wk
namespace Wk
open PySem PySem.Spec PyProof.Rows L2 WkD WkN LamX WkP WkE
structure Valid (vs0 : List Str) (es : List Ed) : Prop where
  nm : ∀ u ∈ vs0, nameB u = true
  nd : vs0.Nodup
  two : 2 ≤ vs0.length
  few : vs0.length ≤ 40
  ed : ∀ (i : Nat) (a b : Str) (n : Int), es[i]? = some (a, b, n) → a ∈ vs0 ∧ b ∈ vs0 ∧ a ≠ b ∧ 1 ≤ n ∧ n ≤ 1000000000 ∧ ∀ m, ¬ Adj (es.take i) a b m
  con : ∀ nb wt, RowsOf vs0 es nb wt → ∀ s ∈ vs0, ∀ u ∈ vs0, Rch nb s u
section
variable {P : Program} {w : World} {K : PySem.W.Frag} {mg : Str → Option Value} {base : Heap}
structure GCls (K : PySem.W.Frag) (C : Addr) : Prop where
  cls : Cls K C
  na : NoAttr K C "around"
  nt : NoAttr K C "top"
  mv : ∃ u, Con K C "MAX_VERTICES" (.int 40) u
  mw : ∃ u, Con K C "MAX_WEIGHT" (.int 1000000000) u
def spGraph (K : PySem.W.Frag) : Sp := fun vs H Q _ => ∃ (x C dx va ea : Addr) (b1 b2 : Bool) (vs0 : List Str) (es : List Ed) (rs : List Addr), vs = [.ref x, .ref va, .ref ea] ∧ H x = some (.ins C dx []) ∧ GCls K C ∧ SqX b1 K H va (vs0.map V.str) ∧ SqX b2 K H ea (rs.map V.ref) ∧ EdsAt K H rs es ∧ Valid vs0 es ∧
  ∀ p Ws bd nb wt t H', (∀ b o, H b = some o → b ≠ x → H' b = some o) → H p = none → H' x = some (.ins C dx [("around", .ref p), ("top", .str t)]) → RowsZ H' p Ws bd nb wt → Ws.Perm vs0 → Asc Ws → RowsOf vs0 es nb wt → (∀ u ∈ Ws, Asc (nb u)) → t ∈ vs0 → (∀ j ∈ vs0, ¬ ltS j t) → Q .non H'
theorem name_len {z : Str} (h : nameB z = true) : z.length ≤ sizeLine := by
  unfold nameB at h
  rw [Bool.and_eq_true, Bool.and_eq_true] at h
  have h2 := of_decide_eq_true h.2.1
  have big : 9 ≤ sizeLine := by decide
  omega
theorem sc_graph_init : FnScope ["self", "vertices", "edges", "around", "vertex", "edge"] ["self", "vertices", "edges"] (defScope s_Graph_init) := ⟨rfl, rfl, rfl, by decide +kernel, rfl, by decide +kernel, by decide +kernel⟩
theorem ok_graph_init {f : Addr} {fd : FuncData} (F : FnP K "__init__" "Graph.__init__" s_Graph_init f fd) (B : Bi mg) (CN : Callee P w K mg base CX0 1 "is_name" ["value"] (spName K)) (CT : Callee P w K mg base CX0 1 "is_tuple_of" ["value", "size"] (spTupleOf K)) (CJ : Callee P w K mg base CX0 2 "can_join" ["around", "u", "v"] spJoin)
    (CB : Callee P w K mg base CX0 1 "is_between" ["value", "low", "high"] (spBetween K)) (CC : Callee P w K mg base CX0 2 "check_connected" ["around"] spConn) (CS : Callee P w K mg base CX0 1 "sorted_rows" ["around"] spSorted) : FnOk P w K mg base CX0 3 f fd ["self", "vertices", "edges"] (spGraph K) := by
  refine F.ok sc_graph_init (fun vs H Q E h => ?_) (fun cdv A outer s H vs Q E hr h => ?_)
  · obtain ⟨x, C, dx, va, ea, b1, b2, vs0, es, rs, rfl, _⟩ := h
    rfl
  have hu := hu_of hr
  have nd := sc_graph_init.nd
  have hr2 : Room 2 _ := hr
  have hr1 : Room 1 _ := hr.mono (by decide)
  refine ⟨_, PSs.nox (pss_cons (ps_set (i := 3) nd rfl (Or.inl rfl) pe_dnewK)
      (pss_cons (ps_for PassesOwn.never rfl (WkN.piOr (pi_list (pv 1)) (pi_tup (pv 1))) (pg_name (i := 4) nd rfl (Or.inl rfl))
      (pss_cons (ps_if (PW.pt (pw_or (pt_not (pt_val (pe_c CN hr1 pass0 (pa_cons (pv 4) pa_nil)))) (pw_or (pt_cmp (pc_din hu (pv 4) (pv 3))) (pw_or1 (pt_cmpR op_eq (pe_callB call_lenD (by rfl) B.n_len boot_len (pa_cons (pv 3) pa_nil)) (pe_con (pv 0) rfl) (nomark _))))))
      (pss_one ps_never) pss_nil)
      (pss_one (ps_dput hu (pv 3) (pv 4) pe_dnewK rfl))))
      (pss_cons (ps_for PassesOwn.never rfl (WkN.piOr (pi_list (pv 2)) (pi_tup (pv 2))) (pg_name (i := 5) nd rfl (Or.inl rfl))
      (pss_cons (ps_if (PW.pt (pw_or (pt_not (pt_val (pe_c CT hr1 pass0 (pa_cons (pv 5) (pa_cons pe_int pa_nil))))) (pw_or (pt_not (pt_val (pe_c CJ hr2 pass0 (pa_cons (pv 3) (pa_cons (pe_ix ix_tup (pv 5) pe_int (fun _ _ => rfl)) (pa_cons (pe_ix ix_tup (pv 5) pe_int (fun _ _ => rfl)) pa_nil)))))) (pw_or1 (pt_cmp (pc_din hu (pe_ix ix_tup (pv 5) pe_int (fun _ _ => rfl)) (pe_dget hu (pv 3) (pe_ix ix_tup (pv 5) pe_int (fun _ _ => rfl)) (fun _ _ => rfl))))))))
      (pss_one ps_never) pss_nil)
      (pss_cons (ps_if (pt_not (pt_val (pe_c CB hr1 pass0 (pa_cons (pe_ix ix_tup (pv 5) pe_int (fun _ _ => rfl)) (pa_cons pe_int (pa_cons (pe_con (pv 0) rfl) pa_nil))))))
      (pss_one ps_never) pss_nil)
      (pss_one (ps_asg2 (pe_ix ix_tup (pv 5) pe_int (fun _ _ => rfl)) (pg_sub (pe_dget hu (pv 3) (pe_ix ix_tup (pv 5) pe_int (fun _ _ => rfl)) (fun _ _ => rfl)) (pe_ix ix_tup (pv 5) pe_int (fun _ _ => rfl)) (set_dict hu) (fun _ => rfl)) (pg_sub (pe_dget hu (pv 3) (pe_ix ix_tup (pv 5) pe_int (fun _ _ => rfl)) (fun _ _ => rfl)) (pe_ix ix_tup (pv 5) pe_int (fun _ _ => rfl)) (set_dict hu) (fun _ => rfl)))))))
      (pss_cons (ps_expr (pe_c CC hr2 pass0 (pa_cons (pv 3) pa_nil)))
      (pss_cons (ps_fld (pv 0) (pe_c CS hr1 pass0 (pa_cons (pv 3) pa_nil)) rfl)
      (pss_one (ps_fld (pv 0) (pe_callB (WkD.cr_minSD rfl) (by rfl) B.n_min (by decide +kernel) (pa_cons (pv 3) pa_nil)) rfl))))))), ?_⟩
  obtain ⟨x, C, dx, va, ea, b1, b2, vs0, es, rs, rfl, hx, gc, hva, hea, hes, ok, k⟩ := h
  obtain ⟨mvu, mv⟩ := gc.mv
  obtain ⟨mwu, mw⟩ := gc.mw
  intro ra nra
  have sN := ok.nd
  have big : 1000 < sizeLine := by decide
  have few := ok.few
  refine orSeq (b := b1) (xs := vs0.map V.str) (hva.same (same_upd nra)) rfl fun J wJ => ?_
  refine for_it wJ (fun i σ Hc => ∃ (ad : Str → Addr) (x4 : Option V), σ = [some (.ref x), some (.ref va), some (.ref ea), some (.ref ra), x4, none] ∧ Cop H ra (fun _ => []) (fun _ _ => 0) (vs0.take i) ad Hc)
    ⟨fun _ => 0, none, rfl, ⟨⟨upd_same, fun u hu => absurd hu (by simp), fun u hu => absurd hu (by simp), by simp⟩, fun b o hb hne => by rw [upd_ne hne]; exact hb, fun u hu => absurd hu (by simp)⟩⟩ ?_ ?_ ?_
  · rintro i σ Hc hi ⟨ad, x4, rfl, cp⟩
    exact hva.same fun b o hb => cp.keep b o hb (ne_of_none hb nra)
  · rintro i y σ Hc Hc' hi ⟨ad, x4, rfl, cp⟩ ⟨rfl, hy⟩
    rw [List.length_map] at hi
    rw [List.getElem?_map, List.getElem?_eq_getElem hi] at hy
    cases hy
    have sH : Same H Hc' := fun b o hb => cp.keep b o hb (ne_of_none hb nra)
    have hm : vs0[i] ∈ vs0 := List.getElem_mem hi
    have hnin := take_nin sN hi
    have tk := takeS (List.getElem?_eq_getElem hi)
    obtain ⟨v, ev⟩ : ∃ v, v = vs0[i] := ⟨_, rfl⟩
    rw [← ev] at hm hnin tk ⊢
    have nm := ok.nm v hm
    refine ⟨_, rfl, .inl ⟨v, rfl, name_len nm, fun H1 s1 => ⟨_, rfl, ite2 (fun h => ?_) (fun _ => ?_)⟩⟩⟩
    · rw [nm] at h
      cases h
    have c1 := cp.rows.ext (Ext.of s1)
    refine ⟨_, rfl, _, rfl, ra, _, rfl, get_n (.inl c1.top) hnin, _, rfl, ite2 (fun h => ?_) (fun _ => ?_)⟩
    · cases h
    have lt : (vs0.take i).length = i := by
      rw [List.length_take]
      omega
    refine ⟨_, rfl, ra, _, rfl, c1.top, ?_⟩
    refine ⟨_, rfl, x, C, dx, _, _, _, rfl, s1 _ _ (sH _ _ hx), gc.cls, mv, rfl, rfl, _, rfl, ite2 (fun h => ?_) (fun _ => ?_)⟩
    · rw [decI] at h
      have h := of_decide_eq_true h
      rw [dct_len, lt] at h
      omega
    intro p np
    have s2 : Same Hc' (upd H1 p (.dK [])) := s1.trans (same_upd np)
    refine ⟨_, rfl, _, rfl, ra, _, rfl, put_n (s2 _ _ cp.rows.top) hnin (by rw [lt]; omega), ?_⟩
    have z := cp.snoc hnin s1 np []
    refine ⟨fun y => if y = v then p else ad y, _, rfl, ?_⟩
    rw [tk]
    have e : (fun y : Str => if y = v then ([] : List Str) else []) = fun _ => [] := funext fun y => by split <;> rfl
    rw [e] at z
    exact z
  · rintro σ H1 ⟨ad, x4, rfl, cp⟩
    rw [List.length_map, List.take_length] at cp
    have s1 : Same H H1 := fun b o hb => cp.keep b o hb (ne_of_none hb nra)
    refine orSeq (b := b2) (xs := rs.map V.ref) (hea.same s1) rfl fun J wJ => ?_
    refine for_it wJ (fun i σ Hc => ∃ (nb : Nb) (wt : Wt) (x4 x5 : Option V), σ = [some (.ref x), some (.ref va), some (.ref ea), some (.ref ra), x4, x5] ∧ Cop H ra nb wt vs0 ad Hc ∧ RowsOf vs0 (es.take i) nb wt)
      ⟨_, _, x4, none, rfl, cp, RowsOf.nil _ _⟩ ?_ ?_ ?_
    · rintro i σ Hc hi ⟨nb, wt, x4, x5, rfl, cp, ro⟩
      exact hea.same fun b o hb => cp.keep b o hb (ne_of_none hb nra)
    · rintro i y σ Hc Hc' hi ⟨nb, wt, x4, x5, rfl, cp, ro⟩ ⟨rfl, hy⟩
      rw [List.length_map] at hi
      rw [List.getElem?_map, List.getElem?_eq_getElem hi] at hy
      cases hy
      have hi2 : i < es.length := by
        rw [← hes.1]
        exact hi
      obtain ⟨⟨a, b, n⟩, ee⟩ : ∃ e, e = es[i] := ⟨_, rfl⟩
      have he : es[i]? = some (a, b, n) := by
        rw [List.getElem?_eq_getElem hi2, ee]
      have tk := takeS he
      obtain ⟨ha, hb, hab, n1, n2, hno⟩ := ok.ed i a b n he
      have sH : Same H Hc' := fun b o hb => cp.keep b o hb (ne_of_none hb nra)
      have hT : SqT K H rs[i] [.str a, .str b, .int n] := hes.2 i _ _ (List.getElem?_eq_getElem hi) he
      generalize rs[i] = r at hT ⊢
      have hT0 := WkG.seqT_same sH hT
      refine ⟨_, rfl, _, _, rfl, .inl ⟨r, _, rfl, hT0, by show 3 ≤ sizeLine; decide, tyT hT0, _, rfl, ite2 (fun h => ?_) (fun _ => ?_)⟩⟩
      · cases h
      refine ⟨_, rfl, _, rfl, r, _, _, _, rfl, rfl, hT0, rfl, _, rfl, r, _, _, _, rfl, rfl, hT0, rfl, ra, _, _, a, b, rfl, .inl cp.rows.top, name_len (ok.nm a ha), name_len (ok.nm b hb), fun H1 s1 => ⟨_, rfl, ite2 (fun h => ?_) (fun _ => ?_)⟩⟩
      · unfold joinB at h
        rw [ok.nm a ha, ok.nm b hb, decide_eq_true ha, decide_eq_true hb, decide_eq_false hab] at h
        cases h
      have c1 := cp.rows.ext (Ext.of s1)
      have hT1 := WkG.seqT_same s1 hT0
      have hnb : b ∉ nb a := fun z => by
        obtain ⟨m, hm⟩ := (ro.mem a ha b).mp z
        exact hno m hm
      refine ⟨_, rfl, r, _, _, _, rfl, rfl, hT1, rfl, _, rfl, _, rfl, r, _, _, _, rfl, rfl, hT1, rfl, ra, _, rfl, get_d (.inl c1.top) ha, ad a, _, rfl, get_n (.inl (c1.row a ha)) hnb, _, rfl, ite2 (fun h => ?_) (fun _ => ?_)⟩
      · cases h
      refine ⟨_, rfl, r, _, _, _, rfl, rfl, hT1, rfl, _, rfl, x, C, dx, _, _, _, rfl, s1 _ _ (sH _ _ hx), gc.cls, mw, rfl, _, _, _, rfl, .inl ⟨n, rfl, _, rfl, ite2 (fun h => ?_) (fun _ => ?_)⟩⟩
      · rw [decide_eq_true n1, decide_eq_true n2] at h
        cases h
      have ne_ab : ad b ≠ ad a := fun z => hab (c1.inj b hb a ha z).symm
      have nl : ∀ u ∈ vs0, (nb u).length < sizeLine := fun u hu => by
        have : (nb u).length ≤ vs0.length := (ro.nd u hu).length_le_of_subset fun y hy => by
          obtain ⟨m, hm⟩ := (ro.mem u hu y).mp hy
          have key : ∀ c d, (c, d, m) ∈ es.take i → c ∈ vs0 ∧ d ∈ vs0 := fun c d h => by
            obtain ⟨j, hj, e⟩ := List.mem_iff_getElem.mp h
            rw [List.length_take] at hj
            rw [List.getElem_take] at e
            have q := ok.ed j c d m (by rw [List.getElem?_eq_getElem (by omega), e])
            exact ⟨q.1, q.2.1⟩
          rcases hm with h | h
          · exact (key _ _ h).2
          · exact (key _ _ h).1
        omega
      refine ⟨_, rfl, r, _, _, _, rfl, rfl, hT1, rfl, _, rfl, _, rfl, r, _, _, _, rfl, rfl, hT1, rfl, ra, _, rfl, get_d (.inl c1.top) ha, _, rfl, r, _, _, _, rfl, rfl, hT1, rfl, ad a, _, rfl, putI (c1.row a ha) (nl a ha), ?_⟩
      have R2 := c1.put ha (add (nb a) b) (fun y => if y = b then n else wt a y)
      have hT2 : SqT K (upd H1 (ad a) (.dK (dct (add (nb a) b) fun y => .int (if y = b then n else wt a y)))) r [.str a, .str b, .int n] := by
        refine tup_upd hT1 (c1.row a ha) trivial
      have rb : upd H1 (ad a) (.dK (dct (add (nb a) b) fun y => .int (if y = b then n else wt a y))) (ad b) = some (.dK (dct (nb b) fun y => .int (wt b y))) := by
        rw [upd_ne ne_ab]
        exact c1.row b hb
      have k2 : ∀ c o, H c = some o → upd H1 (ad a) (.dK (dct (add (nb a) b) fun y => .int (if y = b then n else wt a y))) c = some o := fun c o hc => by
        rw [upd_ne (ne_of_none hc (cp.new a ha))]
        exact s1 _ _ (sH _ _ hc)
      generalize upd H1 (ad a) (.dK (dct (add (nb a) b) fun y => .int (if y = b then n else wt a y))) = H2 at R2 hT2 rb k2
      refine ⟨_, rfl, _, rfl, r, _, _, _, rfl, rfl, hT2, rfl, ra, _, rfl, get_d (.inl R2.top) hb, _, rfl, r, _, _, _, rfl, rfl, hT2, rfl, ad b, _, rfl, putI rb (nl b hb), ?_⟩
      have R3 := R2.put hb (add (nb b) a) (fun y => if y = a then n else wt b y)
      refine ⟨_, _, _, _, rfl, ⟨R3.as (nb' := up (up nb a (add (nb a) b)) b (add (nb b) a)) (wt' := upw (upw wt a fun y => if y = b then n else wt a y) b fun y => if y = a then n else wt b y) (fun u _ => rfl) (fun u _ y _ => rfl), fun c o hc hne => ?_, cp.new⟩, ?_⟩
      · rw [upd_ne (ne_of_none hc (cp.new b hb))]
        exact k2 c o hc
      · rw [tk]
        exact ro.snoc ha hb hab hnb
    · rintro σ H2 ⟨nb, wt, x4, x5, rfl, cp, ro⟩
      rw [List.length_map, hes.1, List.take_length] at ro
      have sH : Same H H2 := fun b o hb => cp.keep b o hb (ne_of_none hb nra)
      have mV : ∀ u ∈ vs0, ∀ v ∈ nb u, v ∈ vs0 := fun u hu v hv => by
        obtain ⟨m, hm⟩ := (ro.mem u hu v).mp hv
        have key : ∀ c d, (c, d, m) ∈ es → c ∈ vs0 ∧ d ∈ vs0 := fun c d h => by
          obtain ⟨j, hj, e⟩ := List.mem_iff_getElem.mp h
          have q := ok.ed j c d m (by rw [List.getElem?_eq_getElem hj, e])
          exact ⟨q.1, q.2.1⟩
        rcases hm with h | h
        · exact (key _ _ h).2
        · exact (key _ _ h).1
      refine ⟨_, rfl, ra, vs0, ad, nb, wt, rfl, cp.rows, ok.two, mV, by omega, ok.con nb wt ro, fun H3 s3 => ?_⟩
      have c3 := cp.rows.ext (Ext.of s3)
      refine ⟨_, rfl, ra, vs0, ad, nb, wt, rfl, c3.r, sN, ro.nd, by omega, fun u hu => ?_, fun p Ws bd nb' H4 s4 np4 rz pm as rp => ?_⟩
      · have : (nb u).length ≤ vs0.length := (ro.nd u hu).length_le_of_subset fun y hy => mV u hu y hy
        omega
      have h4 : Same H H4 := (sH.trans s3).trans s4
      refine ⟨_, rfl, x, C, dx, _, rfl, h4 _ _ hx, gc.cls, gc.na, by decide, ?_⟩
      have xr : ra ≠ x := Ne.symm (ne_of_none hx nra)
      have c4 : upd H4 x (.ins C dx (putF "around" (.ref p) [])) ra = some (.dK (dct vs0 fun u => .ref (ad u))) := by
        rw [upd_ne xr]
        exact s4 _ _ c3.top
      refine ⟨_, rfl, ra, _, vs0, rfl, .inl c4, dct_keys, fun z => by rw [z] at few; have := ok.two; rw [z] at this; simp at this, fun t ht hmin => ?_⟩
      refine ⟨_, rfl, x, C, dx, _, rfl, upd_same, gc.cls, gc.nt, by show 1 < 1000; decide, ?_⟩
      refine k p Ws bd nb' wt t _ (fun b o hb hne => ?_) (np_of (sH.trans s3) np4) upd_same ?_ pm as ?_ (fun u hu => (rp u hu).2) ht hmin
      · rw [upd_upd, upd_ne hne]
        exact h4 _ _ hb
      · have ne_x : ∀ c o u, H4 c = some (.frz o u) → c ≠ x := fun c o u hc z => by
          rw [z, h4 _ _ hx] at hc
          cases hc
        obtain ⟨o1, t1⟩ := rz.top
        refine ⟨⟨o1, ?_⟩, fun u hu => ?_⟩
        · rw [upd_upd, upd_ne (ne_x _ _ _ t1)]
          exact t1
        · obtain ⟨o2, t2⟩ := rz.row u hu
          exact ⟨o2, by rw [upd_upd, upd_ne (ne_x _ _ _ t2)]; exact t2⟩
      · have mw : ∀ u ∈ vs0, u ∈ Ws := fun u hu => pm.mem_iff.mpr hu
        exact ⟨fun u hu => (rp u (mw u hu)).1.nodup_iff.mpr (ro.nd u hu), fun u hu v => (rp u (mw u hu)).1.mem_iff.trans (ro.mem u hu v), ro.val⟩
end
end Wk
namespace Wk
open PySem PySem.Spec PyProof.Rows L2 WkD WkN LamX WkP WkE
abbrev ExtB (x : Addr) (H H' : Hp) : Prop := ∀ b o, H b = some o → b ≠ x → (∀ ps, o ≠ .tbl ps) → H' b = some o
theorem ExtB.rz {x : Addr} {H H' : Hp} {a : Addr} {Vs : List Str} {ad : Str → Addr} {nb : Nb} {wt : Wt} {C dx : Addr} {fs : List (Str × V)} (e : ExtB x H H') (R : RowsZ H a Vs ad nb wt) (hx : H x = some (.ins C dx fs)) : RowsZ H' a Vs ad nb wt := by
  have ne_x : ∀ c o u, H c = some (.frz o u) → c ≠ x := fun c o u hc z => by
    rw [z, hx] at hc
    cases hc
  obtain ⟨o1, t1⟩ := R.top
  refine ⟨⟨o1, e _ _ t1 (ne_x _ _ _ t1) fun ps z => by cases z⟩, fun u hu => ?_⟩
  obtain ⟨o2, t2⟩ := R.row u hu
  exact ⟨o2, e _ _ t2 (ne_x _ _ _ t2) fun ps z => by cases z⟩
theorem Valid.sym {vs0 Ws : List Str} {es : List Ed} {nb : Nb} {wt : Wt} (ok : Valid vs0 es) (ro : RowsOf vs0 es nb wt) (pm : Ws.Perm vs0) : Sym Ws nb wt := by
  refine ⟨fun u hu => ro.nd u (pm.mem_iff.mp hu), fun u hu v hv => ?_⟩
  have hu0 := pm.mem_iff.mp hu
  obtain ⟨m, hm⟩ := (ro.mem u hu0 v).mp hv
  have key : ∀ c d, (c, d, m) ∈ es → c ∈ vs0 ∧ d ∈ vs0 ∧ c ≠ d := fun c d h => by
    obtain ⟨j, hj, e⟩ := List.mem_iff_getElem.mp h
    have q := ok.ed j c d m (by rw [List.getElem?_eq_getElem hj, e])
    exact ⟨q.1, q.2.1, q.2.2.1⟩
  have hv0 : v ∈ vs0 ∧ v ≠ u := by
    rcases hm with h | h
    · exact ⟨(key _ _ h).2.1, Ne.symm (key _ _ h).2.2⟩
    · exact ⟨(key _ _ h).1, (key _ _ h).2.2⟩
  refine ⟨pm.mem_iff.mpr hv0.1, hv0.2, (ro.mem v hv0.1 u).mpr ⟨m, hm.symm⟩, ?_⟩
  rw [ro.val u hu0 v m hm, ro.val v hv0.1 u m hm.symm]
section
variable {P : Program} {w : World} {K : PySem.W.Frag} {mg : Str → Option Value} {base : Heap}
structure NCls (K : PySem.W.Frag) (C D fG : Addr) : Prop where
  g : GCls K C
  nf : NoAttr K C "found"
  nm : NoAttr K C "made"
  ne : NoAttr K C "entries"
  nr : NoAttr K C "running"
  ns : NoAttr K C "since"
  mro : PySem.W.mroIn K C (.ref D) = some true
  sup : PySem.W.ks_superIn K C D "__init__" = some (some (.ref fG))
def netF (p : Addr) (t : Str) (n : Int) (m e : Addr) (r s : Int) : List (Str × V) := [("around", .ref p), ("top", .str t), ("found", .int n), ("made", .ref m), ("entries", .ref e), ("running", .int r), ("since", .int s)]
def spNet (K : PySem.W.Frag) (T : List (Addr × Str)) (D fG : Addr) : Sp := fun vs H Q _ => ∃ (x C dx va ea : Addr) (b1 b2 : Bool) (vs0 : List Str) (es : List Ed) (rs : List Addr), vs = [.ref x, .ref va, .ref ea] ∧ H x = some (.ins C dx []) ∧ NCls K C D fG ∧ SqX b1 K H va (vs0.map V.str) ∧ SqX b2 K H ea (rs.map V.ref) ∧ EdsAt K H rs es ∧ Valid vs0 es ∧ Tabs T H ∧
  ∀ p Ws bd nb wt t n ms me en H', ExtB x H H' → Tabs T H' → H' x = some (.ins C dx (netF p t n me en 0 0)) → H' me = some (.tup []) → H' en = some (.lst []) → RowsZ H' p Ws bd nb wt → Ws.Perm vs0 → Asc Ws → RowsOf vs0 es nb wt → (∀ u ∈ Ws, Asc (nb u)) → t ∈ vs0 → (∀ j ∈ vs0, ¬ ltS j t) → LeastCut Ws nb wt n ms → Q .non H'
theorem ss_net_init : WkS.SupScope ["self", "vertices", "edges"] ["self", "vertices", "edges"] (defScope s_Network_init) := ⟨rfl, rfl, rfl, by decide +kernel, rfl, by decide +kernel, by decide +kernel, by decide +kernel, by decide +kernel, by decide +kernel⟩
theorem ok_net_init {f fG cc cda D : Addr} {fd fdG : FuncData} {tbT : List (Addr × Str)} (ST : WkS.SupT P K mg ["self", "vertices", "edges"] D f cc cda "Network.__init__" (defArgs s_Network_init) (defScope s_Network_init) fd) (hbd : fd.body = .stmts (defBody s_Network_init)) (FG : FnOk P w K mg base CX0 3 fG fdG ["self", "vertices", "edges"] (spGraph K)) (hb2 : Binds K fdG ["self", "vertices", "edges"] []) (hf2 : PySem.W.fnIn K fG = true)
    (hf2' : PySem.W.isFn K (.ref fG) = true) (CS : Callee P w K mg base CX0 5 "strength_of" ["graph"] (spStrength K tbT)) : FnOk P w K mg base CX0 6 f fd ["self", "vertices", "edges"] (spNet K tbT D fG) := by
  refine WkS.sup_ok (k := 5) (N := ["self", "vertices", "edges"]) (m := "__init__") (rest := (defBody s_Network_init).drop 1) ST (hbd.trans (by rfl)) ss_net_init (FG.mono (by decide)) hb2 hf2 hf2' (by decide) (fun vs H Q E h => ?_) (fun A outer s H E => pass0) (fun env => rfl) (fun env => rfl) (fun env he => ⟨_, rfl⟩) (fun env he => ?_) (fun A outer s H vs Q E hr h => ?_)
  · obtain ⟨x, C, dx, va, ea, b1, b2, vs0, es, rs, rfl, _⟩ := h
    rfl
  · exact ⟨by unfold interactive; rw [he]; rfl, rfl⟩
  · obtain ⟨x, C, dx, va, ea, b1, b2, vs0, es, rs, rfl, hx, nc, hva, hea, hes, ok, hT, k⟩ := h
    have hu := hu_of hr
    have nd := ss_net_init.nd
    have hr5 : Room 5 _ := hr
    refine ⟨_, _, x, C, dx, _, rfl, hx, nc.mro, nc.sup, pa_cons (pv 1) (pa_cons (pv 2) pa_nil), (pss_cons (ps_fld (pv 0) (pe_c CS hr5 pass0 (pa_cons (pv 0) pa_nil)) rfl)
      (pss_cons (ps_fld (pv 0) (pe_tup pa_nil) rfl)
      (pss_cons (ps_fld (pv 0) (pe_lst pa_nil) rfl)
      (pss_cons (ps_fld (pv 0) pe_int rfl)
      (pss_one (ps_fld (pv 0) pe_int rfl)))))), ?_⟩
    refine ⟨_, rfl, _, rfl, x, C, dx, va, ea, b1, b2, vs0, es, rs, rfl, hx, nc.g, hva, hea, hes, ok, fun p Ws bd nb wt t H2 k2 np hx2 rz pm as ro an ht hmin => ?_⟩
    have T2 : Tabs tbT H2 := tabs_but hT hx trivial k2
    have len : Ws.length = vs0.length := pm.length_eq
    have few := ok.few
    have two := ok.two
    refine ⟨_, rfl, x, C, dx, _, p, t, Ws, bd, nb, wt, rfl, ⟨hx2, nc.g.cls, nc.g.na, nc.g.nt, rfl, rfl⟩, rz, pm.nodup_iff.mpr ok.nd, ok.sym ro pm, by omega, by omega, T2, fun n ms H3 e3 T3 lc => ?_⟩
    have e03 : ExtB x H H3 := fun b o hb hne no => e3 _ _ (k2 b o hb hne) no
    have hx3 := e3 _ _ hx2 (fun ps z => by cases z)
    have rz3 := rz.ext e3
    refine ⟨_, rfl, x, C, dx, _, rfl, hx3, nc.g.cls, nc.nf, by show 2 < 1000; decide, ?_⟩
    have B4 : ExtB x H (upd H3 x (.ins C dx (putF "found" (.int n) [("around", .ref p), ("top", .str t)]))) := fun b o hb hne no => by
      rw [upd_ne hne]
      exact e03 b o hb hne no
    have T4 : Tabs tbT (upd H3 x (.ins C dx (putF "found" (.int n) [("around", .ref p), ("top", .str t)]))) := tabs_upd T3 hx3 trivial
    have rz4 : RowsZ (upd H3 x (.ins C dx (putF "found" (.int n) [("around", .ref p), ("top", .str t)]))) p Ws bd nb wt := ExtB.rz (fun b o hb hne _ => by rw [upd_ne hne]; exact hb) rz3 hx3
    have hx4 : upd H3 x (.ins C dx (putF "found" (.int n) [("around", .ref p), ("top", .str t)])) x = some (.ins C dx [("around", .ref p), ("top", .str t), ("found", .int n)]) := upd_same
    generalize upd H3 x (.ins C dx (putF "found" (.int n) [("around", .ref p), ("top", .str t)])) = H4 at B4 T4 rz4 hx4
    refine ⟨by show 0 ≤ sizeLine; decide, fun me nme => ⟨_, rfl, x, C, dx, _, rfl, (same_upd nme) _ _ hx4, nc.g.cls, nc.nm, by show 3 < 1000; decide, ?_⟩⟩
    have nmx : me ≠ x := Ne.symm (ne_of_none hx4 nme)
    have B5 : ExtB x H (upd (upd H4 me (.tup [])) x (.ins C dx (putF "made" (.ref me) [("around", .ref p), ("top", .str t), ("found", .int n)]))) := fun b o hb hne no => by
      rw [upd_ne hne]
      exact (same_upd nme) _ _ (B4 b o hb hne no)
    have T5 : Tabs tbT (upd (upd H4 me (.tup [])) x (.ins C dx (putF "made" (.ref me) [("around", .ref p), ("top", .str t), ("found", .int n)]))) := tabs_upd (T4.ext (same_upd nme)) ((same_upd nme) _ _ hx4) trivial
    have rz5 : RowsZ (upd (upd H4 me (.tup [])) x (.ins C dx (putF "made" (.ref me) [("around", .ref p), ("top", .str t), ("found", .int n)]))) p Ws bd nb wt := ExtB.rz (fun b o hb hne _ => by rw [upd_ne hne]; exact hb) (rz4.ext (Ext.of (same_upd nme))) ((same_upd nme) _ _ hx4)
    have hx5 : upd (upd H4 me (.tup [])) x (.ins C dx (putF "made" (.ref me) [("around", .ref p), ("top", .str t), ("found", .int n)])) x = some (.ins C dx [("around", .ref p), ("top", .str t), ("found", .int n), ("made", .ref me)]) := upd_same
    have me5 : upd (upd H4 me (.tup [])) x (.ins C dx (putF "made" (.ref me) [("around", .ref p), ("top", .str t), ("found", .int n)])) me = some (.tup []) := by
      rw [upd_ne nmx, upd_same]
    generalize upd (upd H4 me (.tup [])) x (.ins C dx (putF "made" (.ref me) [("around", .ref p), ("top", .str t), ("found", .int n)])) = H5 at B5 T5 rz5 hx5 me5
    refine ⟨by show 0 ≤ sizeLine; decide, fun en nen => ⟨_, rfl, x, C, dx, _, rfl, (same_upd nen) _ _ hx5, nc.g.cls, nc.ne, by show 4 < 1000; decide, ?_⟩⟩
    have nex : en ≠ x := Ne.symm (ne_of_none hx5 nen)
    refine ⟨_, rfl, x, C, dx, _, rfl, upd_same, nc.g.cls, nc.nr, by show 5 < 1000; decide, ?_⟩
    refine ⟨_, rfl, x, C, dx, _, rfl, upd_same, nc.g.cls, nc.ns, by show 6 < 1000; decide, ?_⟩
    rw [upd_upd, upd_upd]
    refine k p Ws bd nb wt t n ms me en _ (fun b o hb hne no => ?_) ?_ upd_same ?_ ?_ (ExtB.rz (fun b o hb hne _ => by rw [upd_ne hne]; exact hb) (rz5.ext (Ext.of (same_upd nen))) ((same_upd nen) _ _ hx5)) pm as ro an ht hmin lc
    · rw [upd_ne hne]
      exact (same_upd nen) _ _ (B5 b o hb hne no)
    · exact tabs_upd (T5.ext (same_upd nen)) ((same_upd nen) _ _ hx5) trivial
    · rw [upd_ne nmx]
      exact (same_upd nen) _ _ me5
    · rw [upd_ne nex, upd_same]
end
end Wk
namespace WkV
open PySem PySem.Spec PyProof.Rows L2 WkD WkN
theorem cutV_one {ys : List V} : cutV ys (some 1) none = ys.tail := by
  unfold cutV
  rw [HT.sIx_none, show (1 : Int) = ((1 : Nat) : Int) from rfl, HT.sIx_nat]
  cases ys with
  | nil => rfl
  | cons y ys =>
    simp
def tListVals (td : TE) : TE := fun σ H Q => td σ H fun x H1 => ∃ a kvs, x = V.ref a ∧ Rd H1 a (.dK kvs) ∧ ∀ p, H1 p = none → Q (.ref p) (upd H1 p (.lst (kvs.map (·.2))))
section
variable {X : Cx} {o : Expr} {p pos apos mpos : Pos} {td : TE}
theorem vals_at : ∀ {kvs : List (Key × V)} {vs : List (Key × Value)} {us : List Value}, KV kvs vs → us.length = kvs.length → (∀ (i : Nat) (v : Value), us[i]? = some v → ∃ k, vs[i]? = some (k, v)) → Vals (kvs.map (·.2)) us
  | [], _, [], _, _, _ => .nil
  | (k, x) :: kvs, vs, u :: us, r, hl, h => by
    cases r with
    | cons r t =>
      obtain ⟨k1, e⟩ := h 0 u rfl
      have e := Option.some.inj (show some _ = some (k1, u) from e)
      refine .cons ?_ (vals_at t (by simpa using hl) fun i v hv => by simpa using h (i + 1) v (by simpa using hv))
      have r2 := r.2
      rw [e] at r2
      exact r2
  | [], _, _ :: _, _, hl, _ => by simp at hl
  | _ :: _, _, [], _, hl, _ => by simp at hl
theorem pe_listVals (hc : X.calm = true) (hg : Gl X "list") (hm : X.mg "list" = none) (hd : PE X o td) (hbase : attributeBase o "values" X.env (eval o X.env) = eval o X.env := by rfl) (hline : (apos.endLine == mpos.line) = true := by rfl)
    (hse : starEach [Expr.Call (.Attribute o "values" apos) [] [] mpos] X.env = [(false, eval (Expr.Call (.Attribute o "values" apos) [] [] mpos) X.env)] := by rfl) :
    PE X (.Call (.Name "list" p) [.Call (.Attribute o "values" apos) [] [] mpos] [] pos) (tListVals td) := by
  refine ⟨fun pins s σ H Q I h => ?_⟩
  refine wpAny_Call_Name_kw (ld_blt I hg hm (u := .type "list") (by first | rfl | decide +kernel) ?_ (by first | decide +kernel | decide) (by first | decide +kernel | decide))
  rw [hse]
  refine _root_.PySem.callWith_type1 (wpAny_Call_method0_late hbase hline (thn (hd.run pins s σ H _ I h) fun v s1 ⟨x, H1, I1, r1, a, kvs, ex, ha, q⟩ => ?_))
  subst ex
  obtain rfl : v = Value.ref a := r1
  obtain ⟨z, hsys, vs, rel, dof⟩ := dk_rd I1.hok ha
  obtain ⟨ep, dat⟩ := dof.dictAt
  have dat' := dat
  obtain ⟨ob, es, ho, ex, hdat, hko, hpr, hnd⟩ := dat'
  refine ⟨"dict", "dict.values", F.plainAttrs_dict, F.slot_dict_values, F.type_dict_values, ⟨ob, ho, ex.1⟩, fun b e => ?_, Calls.callWith_builtin rfl (PySem.evalArgs_none ?_)⟩
  · cases e
    exact ⟨ob, ho, ex.2.1⟩
  refine call_meetsIn F.slot_dict_values ⟨ob, ho, ex.1⟩ F.entry_dict_values (F.args_dict_values_1 _) (meets_dict_values (mixKind X.prog X.w) a hsys) ⟨⟨vs, dof⟩, ?_⟩
  have k1 : ∀ b u, s1.heap.get? b = some u → (s1.heap.push { cls := .type "dict_values", data := .fields #[.ref a] }).get? b = some u := fun b u e => Heap.get?_push_of_some _ e
  have dat1 : (s1.heap.push { cls := .type "dict_values", data := .fields #[.ref a] }).DictAt (mixKind X.prog X.w) a vs ep := dat.keep k1
  have I2 : Inv X pins σ H1 { s1 with heap := s1.heap.push { cls := .type "dict_values", data := .fields #[.ref a] } } := I1.kept (t' := s1.toks) k1
  have hlv : kvs.length = vs.length := KV.length rel
  refine PySem.W.kdl_call (PySem.W.kdl_values (knd := mixKind X.prog X.w) (r := s1.heap.objs.size) (kvs := vs) (ep := ep)) (I.ok.hd hc) ⟨⟨_, Heap.get?_push_size _ rfl, rfl, rfl⟩, dat1⟩ (by rw [← hlv]; exact z) fun h' tk acc c' hk hD hacc => ?_
  have hv : Vals (kvs.map (·.2)) acc.toList := vals_at rel (by rw [Array.length_toList, hlv]; exact hacc.1) fun i v e => hacc.2 i v (by rw [← Array.getElem?_toList]; exact e)
  refine ⟨.ref (s1.heap.push { cls := .type "dict_values", data := .fields #[.ref a] }).objs.size, _, I2.laid (t' := tk) hk (Nat.le_refl _)
    (show ObjOk X.prog X.w _ _ _ (.lst (kvs.map (·.2))) from ⟨by rw [List.length_map]; exact z, acc.toList, c', hv, by rw [Array.toArray_toList]; exact hD⟩), rfl, q _ (I2.hok.fresh (Nat.le_refl _))⟩
theorem piZip {e e2 : Expr} {ta : TA} {tpos : Pos} {elts : List Expr} {kk : Nat} (K : PySem.W.Frag) (h : X.K = K) (hg : Gl X "zip") (hm : X.mg "zip" = none) (ha : PA X [e, e2] ta)
    (hs : starEach [e, e2] X.env = (false, eval e X.env) :: starEach [e2] X.env := by rfl) (hpl : (backTo pos (starEach [e2] X.env)).any (·.1) = false := by rfl) :
    PI X (.Tuple elts kk tpos) (.Call (.Name "zip" p) [e, e2] [] pos) (iZip K ta) := by
  subst h
  exact pi_zip hg hm ha hs hpl
end
end WkV
namespace WkV
open PySem PySem.Spec PyProof.Rows L2 WkD WkN WkC
section
variable (P : Program) (w : World) (K : PySem.W.Frag) (mg : Str → Option Value) (base : Heap)
def MethD (CX : CXT) (C : Addr) (m : Str) (k : Nat) (sp : Sp) (dvs : List V) : Prop := ∃ f fd ps ds, Meth K C m f ∧ FnOk P w K mg base CX k f fd ps sp ∧ Binds K fd ps ds ∧ Vals dvs ds
end
section
variable {X : Cx} {CX : CXT} {C : Addr} {f x m : Str} {k : Nat} {sp : Sp} {E : XK} {e : Expr} {es : List Expr} {ta : TE} {t : TA} {p pos apos : Pos} {dvs : List V}
theorem pe_mt0 {o : Expr} {pl : Sem Bool} (h : MethC X.prog X.w X.K X.mg X.base CX C m k sp) (c : Cls X.K C) (hr : Room k X.A) (hx : Passes CX X E) (ho : PE X o ta)
    (ht : eval (.Call (.Attribute o m apos) [] [] pos) X.env = (do let ov ← eval o X.env; standAt apos.atName; let (f, first) ← holding [ov] (getMethod ov m pl); callWith pos f first (backTo pos (starEach [] X.env)) (backToKw pos (keywordEach [] X.env))) := by rfl) :
    PE X (.Call (.Attribute o m apos) [] [] pos) (tMeth C m sp [] E ta tNil) := by
  obtain ⟨f, fd, ps, h1, h2, h3⟩ := h
  exact pe_meth0 ho c h1 h2 hr h3 .nil hx ht
theorem pe_mtD0 {o : Expr} {pl : Sem Bool} (h : MethD X.prog X.w X.K X.mg X.base CX C m k sp dvs) (c : Cls X.K C) (hr : Room k X.A) (hx : Passes CX X E) (ho : PE X o ta)
    (ht : eval (.Call (.Attribute o m apos) [] [] pos) X.env = (do let ov ← eval o X.env; standAt apos.atName; let (f, first) ← holding [ov] (getMethod ov m pl); callWith pos f first (backTo pos (starEach [] X.env)) (backToKw pos (keywordEach [] X.env))) := by rfl) :
    PE X (.Call (.Attribute o m apos) [] [] pos) (tMeth C m sp dvs E ta tNil) := by
  obtain ⟨f, fd, ps, ds, h1, h2, h3, h4⟩ := h
  exact pe_meth0 ho c h1 h2 hr h3 h4 hx ht
end
end WkV
namespace WkV
open PySem PySem.Spec PyProof.Rows L2
section
variable {X : Cx}
theorem ps_setDc {i : Nat} {y : Str} {py : Pos} {kx vx tg iter : Expr} {ifs : List Expr} {scope : Scope} {own : List (Str × Nat)} {pos spos : Pos} {wi : TI} {g : TG} {tt : TT} {tk tv : TE} (hc : X.calm = true) (hN : X.N.Nodup) (hy : X.N[i]? = some y) (hyl : X.env.scope.names.lookup y = some .local)
    (hsw : swapsWith (.DictComp kx vx [⟨tg, iter, ifs, 0⟩] scope pos) (some (.Name y py)) spos.line X.env = pure true) (hi : PI X tg iter wi) (ok : BlkOk X.N X.env.scope scope own)
    (hg : ∀ (s : Shared) (H : Hp) (C : Addr) (cl : List (Str × Addr)) (fp : List Addr), PG (X.blk s H scope (compEnvC scope cl C X.env) fp) tg g) (ht : ∀ (s : Shared) (H : Hp) (C : Addr) (cl : List (Str × Addr)) (fp : List Addr), PTs (X.blk s H scope (compEnvC scope cl C X.env) fp) ifs tt)
    (hk : ∀ (s : Shared) (H : Hp) (C : Addr) (cl : List (Str × Addr)) (fp : List Addr), PE (X.blk s H scope (compEnvC scope cl C X.env) fp) kx tk)
    (he : ∀ (s : Shared) (H : Hp) (C : Addr) (cl : List (Str × Addr)) (fp : List Addr), PE (X.blk s H scope (compEnvC scope cl C X.env) fp) vx tv) (hs : ∀ x, foldedSetIterable iter X.env x = pure x := by intro _; rfl) :
    PS X (.Assign [.Name y py] (.DictComp kx vx [⟨tg, iter, ifs, 0⟩] scope pos) spos) (tAsg (tDc wi g tt tk tv (own.map (·.2))) (gName i)) := by
  refine ⟨fun pins s σ H D I h => ?_⟩
  rw [exec_Assign_Name_used _ _ _ _ hsw]
  refine wpAny_bind (wpAny_standAt (wpAny_bind ?_))
  show wpAny _ X.A (do let _ ← comprehension (.DictComp kx vx [⟨tg, iter, ifs, 0⟩] scope pos) scope X.env (firstIterPos [⟨tg, iter, ifs, 0⟩] pos) newDict false (eval iter X.env) (some (assign (.Name y py) X.env))) _ _ s
  have h : tDc wi g tt tk tv (own.map (·.2)) σ H (fun x H1 => gName i x σ H1 D.nx) := h
  refine wpAny_bind (thn (dc_core (Qf := fun _ s' => SP X pins D .next s') hc hN I hi ok hg ht hk he hs h fun L C s' m H' I' q hn f => ?_) fun _ s' hq => wpAny_pure (wpAny_pure hq))
  show wpAny _ _ (assign (.Name y py) X.env (.ref L)) _ _ _
  refine wpAny_assign_Name (store_ok2 (v := V.ref L) I' hN hy (.inl hyl) rfl (fun s2 I2 ⟨a, sb, ha⟩ => ?_) (.inr hyl))
  obtain ⟨f0, f1, f2, f3, f4, f5⟩ := f
  have haC : C ≠ a := by
    rcases ha with z | z
    · rw [z]; exact f1
    · exact fun e => f4 y a z e.symm
  refine ⟨m, hn.sameBut sb haC, fun h3 sb3 => ?_⟩
  exact ⟨_, H', I2.turned (t' := s2.toks) (fun b o hb e => (sb3.2 b hb).trans e) f0 f1 f3 f4 f5, q⟩
theorem sw_trueD {kx vx : Expr} {gs : List Comprehension} {scope : Scope} {pos py : Pos} {y : Str} {l : Nat} {env : Env} (hk : env.scope.kind = .function) (hy : env.scope.names.lookup y = some .local) (hl : (py.line == pos.line) = true)
    (ha : (scope.names.any fun (n, k) => n == y && (k == .local || k == .cell)) = false) : swapsWith (.DictComp kx vx gs scope pos) (some (.Name y py)) l env = pure true := by
  have ky : env.kindOf y = some .local := hy
  have hb : env.blockKind = .function := by unfold Env.blockKind; rw [hk]; rfl
  unfold swapsWith
  simp only [hb, ky, ha, Expr.pos, hl]
  rfl
end
end WkV
namespace WkP
open PySem WkN
abbrev Sd := Str → Bool
def sm (l : List Str) (f : Str → Int) : Int := (l.map f).sum
theorem sm_nil (f : Str → Int) : sm [] f = 0 := rfl
theorem sm_cons (a : Str) (l : List Str) (f : Str → Int) : sm (a :: l) f = f a + sm l f := by simp [sm]
theorem sm_app (l m : List Str) (f : Str → Int) : sm (l ++ m) f = sm l f + sm m f := by simp [sm]
theorem sm_add (l : List Str) (f g : Str → Int) : sm l (fun x => f x + g x) = sm l f + sm l g := by
  induction l with
  | nil => rfl
  | cons a r ih =>
    rw [sm_cons, sm_cons, sm_cons, ih]
    omega
theorem sm_congr {l : List Str} {f g : Str → Int} (h : ∀ x ∈ l, f x = g x) : sm l f = sm l g := by
  unfold sm
  rw [List.map_congr_left h]
theorem sm_zero {l : List Str} {f : Str → Int} (h : ∀ x ∈ l, f x = 0) : sm l f = 0 := by
  induction l with
  | nil => rfl
  | cons a r ih => rw [sm_cons, h a List.mem_cons_self, ih fun x hx => h x (List.mem_cons_of_mem _ hx)]; rfl
theorem sm_le {l : List Str} {f g : Str → Int} (h : ∀ x ∈ l, f x ≤ g x) : sm l f ≤ sm l g := by
  induction l with
  | nil => exact Int.le_refl _
  | cons a r ih =>
    have h1 := h a List.mem_cons_self
    have h2 := ih fun x hx => h x (List.mem_cons_of_mem _ hx)
    rw [sm_cons, sm_cons]
    omega
theorem sm_nonneg {l : List Str} {f : Str → Int} (h : ∀ x ∈ l, 0 ≤ f x) : 0 ≤ sm l f := by
  have := sm_le (f := fun _ => 0) h
  rwa [sm_zero fun _ _ => rfl] at this
theorem sm_perm {l m : List Str} (p : l.Perm m) (f : Str → Int) : sm l f = sm m f := by
  induction p with
  | nil => rfl
  | cons a _ ih => rw [sm_cons, sm_cons, ih]
  | swap a b l =>
    rw [sm_cons, sm_cons, sm_cons, sm_cons]
    omega
  | trans _ _ h1 h2 => exact h1.trans h2
abbrev Wf := Str → Str → Int
def cutW (l : List Str) (w : Wf) (S : Sd) : Int := sm l fun u => sm l fun v => if S u = true ∧ S v = false then w u v else 0
def dif (l : List Str) (w : Wf) (S : Sd) (v : Str) : Int := sm l fun p => if S p = S v then 0 else w p v
def sme (l : List Str) (w : Wf) (S : Sd) (v : Str) : Int := sm l fun p => if S p = S v then w p v else 0
theorem dif_sme (l : List Str) (w : Wf) (S : Sd) (v : Str) : sm l (fun p => w p v) = sme l w S v + dif l w S v := by
  unfold sme dif
  rw [← sm_add]
  refine sm_congr fun p _ => ?_
  split <;> omega
theorem cutW_snoc {l : List Str} {w : Wf} {S : Sd} {v : Str} (sy : ∀ p ∈ l, w v p = w p v) : cutW (l ++ [v]) w S = cutW l w S + dif l w S v := by
  unfold cutW dif
  rw [sm_app, sm_cons, sm_nil]
  have e1 : sm l (fun u => sm (l ++ [v]) fun x => if S u = true ∧ S x = false then w u x else 0) = sm l (fun u => sm l fun x => if S u = true ∧ S x = false then w u x else 0) + sm l fun u => if S u = true ∧ S v = false then w u v else 0 := by
    rw [← sm_add]
    refine sm_congr fun u _ => ?_
    rw [sm_app, sm_cons, sm_nil]
    omega
  rw [e1, sm_app, sm_cons, sm_nil]
  have e2 : (if S v = true ∧ S v = false then w v v else 0) = 0 := if_neg fun h => by rw [h.1] at h; cases h.2
  rw [e2]
  have e3 : sm l (fun p => if S p = S v then 0 else w p v) = sm l (fun u => if S u = true ∧ S v = false then w u v else 0) + sm l fun x => if S v = true ∧ S x = false then w v x else 0 := by
    rw [← sm_add]
    refine sm_congr fun p hp => ?_
    rw [sy p hp]
    cases S p <;> cases S v <;> simp
  rw [e3]
  omega
theorem cutW_perm {l m : List Str} (p : l.Perm m) (w : Wf) (S : Sd) : cutW l w S = cutW m w S := by
  unfold cutW
  rw [sm_perm p]
  exact sm_congr fun u _ => sm_perm p _
theorem cutW_congr {l : List Str} {w w' : Wf} {S S' : Sd} (hw : ∀ u ∈ l, ∀ v ∈ l, u ≠ v → w u v = w' u v) (hS : ∀ u ∈ l, S u = S' u) : cutW l w S = cutW l w' S' := by
  unfold cutW
  refine sm_congr fun u hu => sm_congr fun v hv => ?_
  rw [hS u hu, hS v hv]
  by_cases h : S' u = true ∧ S' v = false
  · rw [if_pos h, if_pos h]
    refine hw u hu v hv fun e => ?_
    rw [e, h.2] at h
    cases h.1
  · rw [if_neg h, if_neg h]
theorem cutW_nonneg {l : List Str} {w : Wf} {S : Sd} (h : ∀ u ∈ l, ∀ v ∈ l, 0 ≤ w u v) : 0 ≤ cutW l w S := sm_nonneg fun u hu => sm_nonneg fun v hv => by
  split
  · exact h u hu v hv
  · exact Int.le_refl _
section
variable {Vs : List Str} {w : Wf} {S : Sd}
theorem ma_step (nn : ∀ u ∈ Vs, ∀ v ∈ Vs, 0 ≤ w u v) (sy : ∀ u ∈ Vs, ∀ v ∈ Vs, w u v = w v u) {P : List Str} {a v : Str} (sub : ∀ p ∈ P ++ [a], p ∈ Vs) (hv : v ∈ Vs) (best : ∀ u ∈ Vs, u ∉ P ++ [a] → sm (P ++ [a]) (fun p => w p u) ≤ sm (P ++ [a]) (fun p => w p v)) (hn : v ∉ P ++ [a])
    (J : ∀ u ∈ Vs, u ∉ P ++ [a] → S u ≠ S a → sme (P ++ [a]) w S u ≤ cutW (P ++ [a]) w S) :
    ∀ u ∈ Vs, u ∉ (P ++ [a]) ++ [v] → S u ≠ S v → sme ((P ++ [a]) ++ [v]) w S u ≤ cutW ((P ++ [a]) ++ [v]) w S := by
  intro u hu hun hne
  have hun1 : u ∉ P ++ [a] := fun h => hun (List.mem_append_left _ h)
  rw [cutW_snoc fun p hp => sy v hv p (sub p hp)]
  have e1 : sme ((P ++ [a]) ++ [v]) w S u = sme (P ++ [a]) w S u := by
    unfold sme
    rw [sm_app _ [v], sm_cons, sm_nil, if_neg (Ne.symm hne)]
    omega
  rw [e1]
  have dn : 0 ≤ dif (P ++ [a]) w S v := sm_nonneg fun p hp => by
    split
    · exact Int.le_refl _
    · exact nn p (sub p hp) v hv
  by_cases h : S a = S v
  · have := J u hu hun1 (by rw [h]; exact hne)
    omega
  · have h1 := J v hv hn (Ne.symm h)
    have h2 := best u hu hun1
    rw [dif_sme (P ++ [a]) w S u, dif_sme (P ++ [a]) w S v] at h2
    have du : 0 ≤ dif (P ++ [a]) w S u := sm_nonneg fun p hp => by
      split
      · exact Int.le_refl _
      · exact nn p (sub p hp) u hu
    omega
theorem ma_all (nn : ∀ u ∈ Vs, ∀ v ∈ Vs, 0 ≤ w u v) (sy : ∀ u ∈ Vs, ∀ v ∈ Vs, w u v = w v u) {done : List Str} (nd : done.Nodup) (sub : ∀ x ∈ done, x ∈ Vs) (best : ∀ (i : Nat) (x : Str), done[i]? = some x → ∀ u ∈ Vs, u ∉ done.take i → sm (done.take i) (fun p => w p u) ≤ sm (done.take i) (fun p => w p x)) :
    ∀ (k : Nat) (P : List Str) (a : Str), k < done.length → done.take (k + 1) = P ++ [a] → ∀ u ∈ Vs, u ∉ P ++ [a] → S u ≠ S a → sme (P ++ [a]) w S u ≤ cutW (P ++ [a]) w S := by
  intro k
  induction k with
  | zero =>
    intro P a hk e u hu hun hne
    have hP : P = [] := by
      have := congrArg List.length e
      rw [List.length_take, List.length_append, List.length_singleton] at this
      exact List.length_eq_zero_iff.mp (by omega)
    subst hP
    have e1 : sme ([] ++ [a]) w S u = 0 := sm_zero fun p hp => by
      have hp : p = a := by simpa using hp
      rw [hp, if_neg (Ne.symm hne)]
    rw [e1]
    have hP : ∀ p ∈ ([] ++ [a] : List Str), p ∈ Vs := fun p hp => sub p (List.mem_of_mem_take (e ▸ hp))
    exact cutW_nonneg fun x hx y hy => nn x (hP x hx) y (hP y hy)
  | succ k ih =>
    intro P a hk e
    have hk1 : k + 1 < done.length := hk
    have tk : done.take (k + 1 + 1) = done.take (k + 1) ++ [done[k + 1]] := takeS (List.getElem?_eq_getElem hk1)
    rw [tk] at e
    obtain ⟨e1, e2⟩ := List.append_inj' e rfl
    have ea : done[k + 1] = a := by simpa using e2
    obtain ⟨P', a', e3⟩ : ∃ P' a', done.take (k + 1) = P' ++ [a'] := by
      have tk' : done.take (k + 1) = done.take k ++ [done[k]] := takeS (List.getElem?_eq_getElem (by omega))
      exact ⟨_, _, tk'⟩
    have J := ih P' a' (by omega) e3
    have hat : done[k + 1]? = some a := by rw [List.getElem?_eq_getElem hk1, ea]
    have hav : a ∈ Vs := sub a (List.mem_of_getElem? hat)
    have hnin : a ∉ done.take (k + 1) := by
      rw [← ea]
      intro z
      obtain ⟨j, hj, e⟩ := List.mem_iff_getElem.mp z
      rw [List.length_take] at hj
      rw [List.getElem_take] at e
      have := (List.getElem_inj nd).mp e
      omega
    have bt := best (k + 1) a hat
    rw [e3] at bt hnin
    rw [← e1, e3]
    exact ma_step nn sy (fun p hp => sub p (List.mem_of_mem_take (e3 ▸ hp))) hav bt hnin J
theorem ma_last (nn : ∀ u ∈ Vs, ∀ v ∈ Vs, 0 ≤ w u v) (sy : ∀ u ∈ Vs, ∀ v ∈ Vs, w u v = w v u) {pre : List Str} {x l : Str} (nd : (pre ++ [x, l]).Nodup) (sub : ∀ y ∈ pre ++ [x, l], y ∈ Vs)
    (best : ∀ (i : Nat) (y : Str), (pre ++ [x, l])[i]? = some y → ∀ u ∈ Vs, u ∉ (pre ++ [x, l]).take i → sm ((pre ++ [x, l]).take i) (fun p => w p u) ≤ sm ((pre ++ [x, l]).take i) (fun p => w p y)) (hS : S x ≠ S l) :
    sm (pre ++ [x]) (fun p => w p l) ≤ cutW (pre ++ [x, l]) w S := by
  have e : (pre ++ [x, l]).take (pre.length + 1) = pre ++ [x] := by
    rw [show pre ++ [x, l] = (pre ++ [x]) ++ [l] by simp, List.take_append_of_le_length (by simp)]
    exact List.take_of_length_le (by simp)
  have hl : l ∉ pre ++ [x] := fun z => by
    rw [show pre ++ [x, l] = (pre ++ [x]) ++ [l] by simp, List.nodup_append] at nd
    exact nd.2.2 l z l (by simp) rfl
  have J := ma_all (S := S) nn sy nd sub best pre.length pre x (by simp) e l (sub l (by simp)) hl (Ne.symm hS)
  have e2 : pre ++ [x, l] = (pre ++ [x]) ++ [l] := by simp
  rw [e2, cutW_snoc fun p hp => sy l (sub l (by simp)) p (sub p (by rw [e2]; exact List.mem_append_left _ hp)), dif_sme _ _ S]
  omega
end
end WkP
namespace WkP
open PySem WkN
theorem conn_sm (nb : Nb) (wt : Wt) (S : List Str) (u : Str) : conn nb wt S u = sm S fun p => vl0 nb wt p u := rfl
theorem cut_merge {R : List Str} {x l : Str} {w w2 : Wf} {S : Sd} (sy : ∀ u ∈ (R ++ [x]) ++ [l], ∀ v ∈ (R ++ [x]) ++ [l], w u v = w v u) (hS : S l = S x) (hR : ∀ u ∈ R, ∀ v ∈ R, u ≠ v → w2 u v = w u v) (hx : ∀ r ∈ R, w2 r x = w r x + w r l) (hx2 : ∀ r ∈ R, w2 x r = w2 r x) :
    cutW ((R ++ [x]) ++ [l]) w S = cutW (R ++ [x]) w2 S := by
  have m1 : ∀ r ∈ R, r ∈ (R ++ [x]) ++ [l] := fun r hr => List.mem_append_left _ (List.mem_append_left _ hr)
  have m2 : x ∈ (R ++ [x]) ++ [l] := by simp
  have m3 : l ∈ (R ++ [x]) ++ [l] := by simp
  rw [cutW_snoc fun p hp => sy l m3 p (List.mem_append_left _ hp), cutW_snoc fun p hp => sy x m2 p (m1 p hp), cutW_snoc fun p hp => hx2 p hp]
  have e1 : dif (R ++ [x]) w S l = dif R w S l := by
    unfold dif
    rw [sm_app, sm_cons, sm_nil, if_pos hS.symm]
    omega
  have e2 : dif R w2 S x = dif R w S x + dif R w S l := by
    unfold dif
    rw [← sm_add]
    refine sm_congr fun p hp => ?_
    rw [hx p hp, hS]
    split <;> omega
  have e3 : cutW R w2 S = cutW R w S := cutW_congr hR fun _ _ => rfl
  rw [e1, e2, e3]
  omega
structure SW (Vs : List Str) (w : Wf) (Ws : List Str) (w' : Wf) (grp : Str → List Str) (best : Option (Int × List Str)) : Prop where
  nd : Ws.Nodup
  part : ∀ y ∈ Vs, ∃ u ∈ Ws, y ∈ grp u
  gne : ∀ u ∈ Ws, grp u ≠ []
  lift : ∀ S S' : Sd, (∀ u ∈ Ws, ∀ y ∈ grp u, S y = S' u) → cutW Vs w S = cutW Ws w' S'
  nn : ∀ u ∈ Ws, ∀ v ∈ Ws, 0 ≤ w' u v
  sy : ∀ u ∈ Ws, ∀ v ∈ Ws, w' u v = w' v u
  low : ∀ S : Sd, (∃ S' : Sd, ∀ u ∈ Ws, ∀ y ∈ grp u, S y = S' u) ∨ ∃ n m, best = some (n, m) ∧ n ≤ cutW Vs w S
  bst : ∀ n m, best = some (n, m) → n = cutW Vs w (fun y => decide (y ∈ m)) ∧ m ≠ [] ∧ (∀ y ∈ m, y ∈ Vs) ∧ ∃ y ∈ Vs, y ∉ m
theorem vl0_sym {Vs : List Str} {nb : Nb} {wt : Wt} (sy : Sym Vs nb wt) : ∀ u ∈ Vs, ∀ v ∈ Vs, vl0 nb wt u v = vl0 nb wt v u := fun u hu v hv => by
  unfold vl0
  have a := sy.mem u hu v
  have b := sy.mem v hv u
  grind
theorem better_le {best : Option (Int × List Str)} {n : Int} {g : List Str} {k : Int} (h : n ≤ k ∨ ∃ a m, best = some (a, m) ∧ a ≤ k) : ∃ a m, better best n g = some (a, m) ∧ a ≤ k := by
  unfold better
  cases best with
  | none =>
    rcases h with h | ⟨a, m, e, _⟩
    · exact ⟨n, g, rfl, h⟩
    · cases e
  | some p =>
    obtain ⟨b, m⟩ := p
    show ∃ a m', (if n < b then some (n, g) else some (b, m)) = some (a, m') ∧ a ≤ k
    split
    · rename_i hlt
      refine ⟨n, g, rfl, ?_⟩
      rcases h with h | ⟨a, m', e, ha⟩
      · exact h
      · cases e
        omega
    · rename_i hge
      refine ⟨b, m, rfl, ?_⟩
      rcases h with h | ⟨a, m', e, ha⟩
      · omega
      · cases e
        exact ha
theorem better_is {best : Option (Int × List Str)} {n : Int} {g : List Str} {a : Int} {m : List Str} (h : better best n g = some (a, m)) : (a = n ∧ m = g) ∨ best = some (a, m) := by
  unfold better at h
  cases best with
  | none =>
    cases h
    exact .inl ⟨rfl, rfl⟩
  | some p =>
    obtain ⟨b, m'⟩ := p
    have h : (if n < b then some (n, g) else some (b, m')) = some (a, m) := h
    split at h
    · cases h
      exact .inl ⟨rfl, rfl⟩
    · exact .inr h
theorem Phases.sw {Vs : List Str} {nb : Nb} {wt : Wt} (hV : Vs.Nodup) (sy0 : Sym Vs nb wt) (nn0 : ∀ u ∈ Vs, ∀ v ∈ Vs, 0 ≤ vl0 nb wt u v) {Ws : List Str} {nb' : Nb} {wt' : Wt} {grp : Str → List Str} {best : Option (Int × List Str)} (p : Phases Vs nb wt Ws nb' wt' grp best) :
    SW Vs (vl0 nb wt) Ws (vl0 nb' wt') grp best := by
  induction p with
  | start => exact ⟨hV, fun y hy => ⟨y, hy, by simp⟩, fun u _ => by simp, fun S S' h => cutW_congr (fun _ _ _ _ _ => rfl) fun u hu => h u hu u (by simp), nn0, vl0_sym sy0, fun S => .inl ⟨S, fun u hu y hy => by rw [List.mem_singleton.mp hy]⟩, fun n m h => nomatch h⟩
  | @step Ws nb' nb'' wt' wt'' grp best x l n p lt mg ih =>
    have gs := p.grps
    obtain ⟨hx, hl, hne⟩ := lt.mem
    obtain ⟨pre, pr, cov, en⟩ := lt
    have mw : ∀ u, u ∈ (Ws.filter fun y => decide (y ≠ l)) ↔ u ∈ Ws ∧ u ≠ l := fun u => by rw [List.mem_filter, decide_eq_true_iff]
    have pmD : (pre ++ [x, l]).Perm Ws := (List.perm_ext_iff_of_nodup pr.nd ih.nd).mpr fun y => ⟨pr.sub y, cov y⟩
    have e2 : pre ++ [x, l] = (pre ++ [x]) ++ [l] := by simp
    have nd2 := pr.nd
    rw [e2, List.nodup_append] at nd2
    have pmF : (pre ++ [x]).Perm (Ws.filter fun y => decide (y ≠ l)) := (List.perm_ext_iff_of_nodup nd2.1 (ih.nd.filter _)).mpr fun y => by
      rw [mw]
      constructor
      · intro h
        exact ⟨pr.sub y (by rw [e2]; exact List.mem_append_left _ h), fun e => nd2.2.2 y h l (by simp) e⟩
      · rintro ⟨h1, h2⟩
        have := cov y h1
        rw [e2, List.mem_append] at this
        rcases this with h | h
        · exact h
        · exact absurd (List.mem_singleton.mp h) h2
    have inW : ∀ y ∈ (pre ++ [x]) ++ [l], y ∈ Ws := fun y hy => pr.sub y (by rw [e2]; exact hy)
    have nd3 := nd2.1
    rw [List.nodup_append] at nd3
    have rx : ∀ r ∈ pre, r ≠ x := fun r hr e => nd3.2.2 r hr x (by simp) e
    have rl : ∀ r ∈ pre, r ≠ l := fun r hr e => nd2.2.2 r (List.mem_append_left _ hr) l (by simp) e
    have w2 : ∀ u v, u ∈ Ws → u ≠ l → v ∈ Ws → v ≠ l → u ≠ v → vl0 nb'' wt'' u v = vl0 nb' wt' u v + (if u = x then vl0 nb' wt' l v else 0) + (if v = x then vl0 nb' wt' l u else 0) := fun u v hu hul hv hvl huv => by
      have huw := (mw u).mpr ⟨hu, hul⟩
      have hm := mg.mem u huw v
      have hvv := mg.val u huw v
      have s1 := ih.sy l hl u hu
      by_cases h : v ∈ nb'' u
      · have := hvv h
        unfold vl0 at this ⊢
        rw [if_pos h]
        exact this
      · have h2 : ¬ (v ∈ nb' u ∨ (u = x ∧ v ∈ nb' l) ∨ (v = x ∧ l ∈ nb' u)) := fun z => h (hm.mpr ⟨hvl, Ne.symm huv, z⟩)
        rw [not_or, not_or] at h2
        have z1 : vl0 nb'' wt'' u v = 0 := if_neg h
        have z2 : vl0 nb' wt' u v = 0 := if_neg h2.1
        have z3 : (if u = x then vl0 nb' wt' l v else 0) = 0 := by
          split
          · rename_i e
            exact if_neg fun z => h2.2.1 ⟨e, z⟩
          · rfl
        have z4 : (if v = x then vl0 nb' wt' l u else 0) = 0 := by
          split
          · rename_i e
            rw [s1]
            exact if_neg fun z => h2.2.2 ⟨e, z⟩
          · rfl
        rw [z1, z2, z3, z4]
        rfl
    have sy2 : ∀ u ∈ (Ws.filter fun y => decide (y ≠ l)), ∀ v ∈ (Ws.filter fun y => decide (y ≠ l)), vl0 nb'' wt'' u v = vl0 nb'' wt'' v u := vl0_sym mg.sym
    have cutM : ∀ S : Sd, S l = S x → cutW Ws (vl0 nb' wt') S = cutW (Ws.filter fun y => decide (y ≠ l)) (vl0 nb'' wt'') S := fun S hS => by
      rw [← cutW_perm pmD, ← cutW_perm pmF, e2]
      have pw : ∀ r ∈ pre, r ∈ Ws := fun r hr => inW r (List.mem_append_left _ (List.mem_append_left _ hr))
      refine cut_merge (fun u hu v hv => ih.sy u (inW u hu) v (inW v hv)) hS (fun u hu v hv huv => ?_) (fun r hr => ?_) (fun r hr => ?_)
      · rw [w2 u v (pw u hu) (rl u hu) (pw v hv) (rl v hv) huv, if_neg (rx u hu), if_neg (rx v hv)]
        omega
      · rw [w2 r x (pw r hr) (rl r hr) hx hne (rx r hr), if_neg (rx r hr), if_pos rfl, ih.sy l hl r (pw r hr)]
        omega
      · exact sy2 x ((mw x).mpr ⟨hx, hne⟩) r ((mw r).mpr ⟨pw r hr, rl r hr⟩)
    have gl : ∀ u, u ∈ (Ws.filter fun y => decide (y ≠ l)) → ∀ y, y ∈ grow grp x l u ↔ y ∈ grp u ∨ (u = x ∧ y ∈ grp l) := fun u hu y => by
      unfold grow
      by_cases e : u = x
      · subst e
        rw [if_pos rfl, List.mem_append]
        simp
      · rw [if_neg e]
        simp [e]
    have ncut : n = cutW Vs (vl0 nb wt) fun y => decide (y ∈ grp l) := by
      rw [ih.lift (fun y => decide (y ∈ grp l)) (fun u => decide (u = l)) fun u hu y hy => ?_]
      · rw [← cutW_perm pmD, e2, cutW_snoc fun q hq => ih.sy l hl q (inW q (List.mem_append_left _ hq)), en, conn_sm]
        have z1 : cutW (pre ++ [x]) (vl0 nb' wt') (fun u => decide (u = l)) = 0 := sm_zero fun u hu => sm_zero fun v hv => if_neg fun h => by
          have h1 : u = l := of_decide_eq_true h.1
          exact nd2.2.2 u hu l (by simp) h1
        rw [z1, Int.zero_add]
        unfold dif
        refine sm_congr fun q hq => ?_
        have hq2 : q ≠ l := fun e => nd2.2.2 q hq l (by simp) e
        exact (if_neg (by simp [hq2])).symm
      · by_cases e : u = l
        · subst e
          rw [decide_eq_true hy, decide_eq_true rfl]
        · rw [decide_eq_false e, decide_eq_false fun z => e (gs.dis u hu l hl y hy z)]
    refine ⟨ih.nd.filter _, fun y hy => ?_, fun u hu => ?_, fun S S' h => ?_, fun u hu v hv => ?_, sy2, fun S => ?_, fun a m h => ?_⟩
    · obtain ⟨u, hu, hyu⟩ := ih.part y hy
      by_cases e : u = l
      · subst e
        exact ⟨x, (mw x).mpr ⟨hx, hne⟩, (gl x ((mw x).mpr ⟨hx, hne⟩) y).mpr (.inr ⟨rfl, hyu⟩)⟩
      · exact ⟨u, (mw u).mpr ⟨hu, e⟩, (gl u ((mw u).mpr ⟨hu, e⟩) y).mpr (.inl hyu)⟩
    · have hu' := (mw u).mp hu
      unfold grow
      split
      · intro z
        exact ih.gne x hx (List.append_eq_nil_iff.mp z).1
      · exact ih.gne u hu'.1
    · have hS2 : ∀ u ∈ Ws, ∀ y ∈ grp u, S y = (fun v => if v = l then S' x else S' v) u := fun u hu y hy => by
        show S y = if u = l then S' x else S' u
        by_cases e : u = l
        · rw [if_pos e]
          rw [e] at hy
          exact h x ((mw x).mpr ⟨hx, hne⟩) y ((gl x ((mw x).mpr ⟨hx, hne⟩) y).mpr (.inr ⟨rfl, hy⟩))
        · rw [if_neg e]
          exact h u ((mw u).mpr ⟨hu, e⟩) y ((gl u ((mw u).mpr ⟨hu, e⟩) y).mpr (.inl hy))
      rw [ih.lift S _ hS2, cutM (fun v => if v = l then S' x else S' v) (by show (if l = l then S' x else S' l) = if x = l then S' x else S' x; rw [if_pos rfl, if_neg hne])]
      exact cutW_congr (fun _ _ _ _ _ => rfl) fun u hu => if_neg ((mw u).mp hu).2
    · by_cases e : u = v
      · subst e
        have := (mg.sym.mem u hu u)
        unfold vl0
        rw [if_neg fun z => (this z).2.1 rfl]
        exact Int.le_refl _
      · obtain ⟨u1, u2⟩ := (mw u).mp hu
        obtain ⟨v1, v2⟩ := (mw v).mp hv
        rw [w2 u v u1 u2 v1 v2 e]
        have a1 := ih.nn u u1 v v1
        have a2 := ih.nn l hl v v1
        have a3 := ih.nn l hl u u1
        split <;> split <;> omega
    · rcases ih.low S with ⟨S', hS'⟩ | ⟨a, m, e, ha⟩
      · by_cases hxl : S' x = S' l
        · refine .inl ⟨S', fun u hu y hy => ?_⟩
          rcases (gl u hu y).mp hy with h | ⟨rfl, h⟩
          · exact hS' u ((mw u).mp hu).1 y h
          · rw [hS' l hl y h, hxl]
        · refine .inr (better_le (.inl ?_))
          rw [ih.lift S S' hS', ← cutW_perm pmD, en, conn_sm]
          exact ma_last ih.nn ih.sy pr.nd (fun y hy => pr.sub y hy) (fun i y hy u hu hun => pr.best i y hy u hu hun) hxl
      · exact .inr (better_le (.inr ⟨a, m, e, ha⟩))
    · rcases better_is h with ⟨rfl, rfl⟩ | h
      · refine ⟨ncut, ih.gne l hl, fun y hy => gs.mem l hl y hy, ?_⟩
        obtain ⟨y, hy⟩ := List.exists_mem_of_ne_nil _ (ih.gne x hx)
        exact ⟨y, gs.mem x hx y hy, fun z => hne (gs.dis x hx l hl y hy z)⟩
      · exact ih.bst a m h
theorem LeastCut.least {Vs : List Str} {nb : Nb} {wt : Wt} {n : Int} {m : List Str} (lc : LeastCut Vs nb wt n m) (hV : Vs.Nodup) (sy : Sym Vs nb wt) (nn : ∀ u ∈ Vs, ∀ v ∈ Vs, 0 ≤ vl0 nb wt u v) :
    (n = cutW Vs (vl0 nb wt) (fun y => decide (y ∈ m)) ∧ m ≠ [] ∧ (∀ y ∈ m, y ∈ Vs) ∧ ∃ y ∈ Vs, y ∉ m) ∧ ∀ S : Sd, (∃ y ∈ Vs, S y = true) → (∃ y ∈ Vs, S y = false) → n ≤ cutW Vs (vl0 nb wt) S := by
  obtain ⟨Ws, nb', wt', grp, p, hl⟩ := lc
  have sw := p.sw hV sy nn
  refine ⟨sw.bst n m rfl, fun S ⟨y1, h1, g1⟩ ⟨y2, h2, g2⟩ => ?_⟩
  rcases sw.low S with ⟨S', hS'⟩ | ⟨a, m', e, ha⟩
  · obtain ⟨u1, k1, j1⟩ := sw.part y1 h1
    obtain ⟨u2, k2, j2⟩ := sw.part y2 h2
    have e : u1 = u2 := by
      match Ws, hl, k1, k2 with
      | [c], _, k1, k2 => rw [List.mem_singleton.mp k1, List.mem_singleton.mp k2]
    have q1 := hS' u1 k1 y1 j1
    have q2 := hS' u2 k2 y2 j2
    rw [← e] at q2
    rw [g1] at q1
    rw [g2, ← q1] at q2
    cases q2
  · cases e
    exact ha
end WkP
namespace WkP
open PySem WkN
theorem sm_swp (l m : List Str) (f : Str → Str → Int) : (sm l fun u => sm m fun v => f u v) = sm m fun v => sm l fun u => f u v := by
  induction l with
  | nil => exact (sm_zero fun _ _ => rfl).symm
  | cons a l ih =>
    rw [sm_cons, ih, ← sm_add]
    exact sm_congr fun v _ => by rw [sm_cons]
theorem sm_neg (l : List Str) (f : Str → Int) : sm l (fun x => - f x) = - sm l f := by
  induction l with
  | nil => rfl
  | cons a l ih =>
    rw [sm_cons, sm_cons, ih]
    omega
theorem sm_at {l : List Str} (nd : l.Nodup) {a : Str} (ha : a ∈ l) (c : Int) : (sm l fun y => if y = a then c else 0) = c := by
  induction l with
  | nil => simp at ha
  | cons b l ih =>
    rw [sm_cons]
    rw [List.nodup_cons] at nd
    rcases List.mem_cons.mp ha with rfl | h
    · rw [if_pos rfl, sm_zero fun y hy => if_neg fun (z : y = a) => nd.1 (by rw [← z]; exact hy)]
      omega
    · rw [if_neg fun (z : b = a) => nd.1 (z ▸ h), ih nd.2 h]
      omega
structure Resid (Vs : List Str) (w : Wf) (s t : Str) (n : Int) (r : Wf) : Prop where
  nn : ∀ u ∈ Vs, ∀ v ∈ Vs, 0 ≤ r u v
  pr : ∀ u ∈ Vs, ∀ v ∈ Vs, r u v + r v u = w u v + w v u
  co : ∀ u ∈ Vs, u ≠ s → u ≠ t → (sm Vs fun v => w u v - r u v) = 0
  src : (sm Vs fun v => w s v - r s v) = n
theorem Resid.start {Vs : List Str} {w : Wf} {s t : Str} (nn : ∀ u ∈ Vs, ∀ v ∈ Vs, 0 ≤ w u v) : Resid Vs w s t 0 w := ⟨nn, fun _ _ _ _ => rfl, fun _ _ _ _ => sm_zero fun _ _ => by omega, sm_zero fun _ _ => by omega⟩
theorem Resid.cut {Vs : List Str} {w : Wf} {s t : Str} {n : Int} {r : Wf} (R : Resid Vs w s t n r) (nd : Vs.Nodup) (hs : s ∈ Vs) {S : Sd} (h1 : S s = true) (h2 : S t = false) : cutW Vs w S = n + cutW Vs r S := by
  have e1 : (sm Vs fun u => if S u = true then sm Vs fun v => w u v - r u v else 0) = n := by
    have : (sm Vs fun u => if S u = true then sm Vs fun v => w u v - r u v else 0) = sm Vs fun u => if u = s then n else 0 := sm_congr fun u hu => by
      by_cases e : u = s
      · rw [e, if_pos h1, if_pos rfl, R.src]
      · rw [if_neg e]
        by_cases q : S u = true
        · rw [if_pos q]
          refine R.co u hu e fun z => ?_
          rw [z, h2] at q
          cases q
        · rw [if_neg q]
    rw [this, sm_at nd hs]
  have e2 : (sm Vs fun u => if S u = true then sm Vs fun v => w u v - r u v else 0) = (sm Vs fun u => sm Vs fun v => if S u = true ∧ S v = false then w u v - r u v else 0) + sm Vs fun u => sm Vs fun v => if S u = true ∧ S v = true then w u v - r u v else 0 := by
    rw [← sm_add]
    refine sm_congr fun u _ => ?_
    rw [← sm_add]
    by_cases q : S u = true
    · rw [if_pos q]
      refine sm_congr fun v _ => ?_
      cases S v <;> simp [q]
    · rw [if_neg q]
      exact (sm_zero fun v _ => by simp [q]).symm
  have e3 : (sm Vs fun u => sm Vs fun v => if S u = true ∧ S v = true then w u v - r u v else 0) = 0 := by
    have z : (sm Vs fun u => sm Vs fun v => if S u = true ∧ S v = true then w u v - r u v else 0) = - sm Vs fun u => sm Vs fun v => if S u = true ∧ S v = true then w u v - r u v else 0 := by
      conv => lhs; rw [sm_swp]
      rw [← sm_neg]
      refine sm_congr fun u hu => ?_
      rw [← sm_neg]
      refine sm_congr fun v hv => ?_
      have := R.pr u hu v hv
      by_cases q : S u = true ∧ S v = true
      · rw [if_pos q, if_pos ⟨q.2, q.1⟩]
        omega
      · rw [if_neg q, if_neg fun z => q ⟨z.2, z.1⟩]
        rfl
    omega
  have e4 : cutW Vs w S = (sm Vs fun u => sm Vs fun v => if S u = true ∧ S v = false then w u v - r u v else 0) + cutW Vs r S := by
    unfold cutW
    rw [← sm_add]
    refine sm_congr fun u _ => ?_
    rw [← sm_add]
    refine sm_congr fun v _ => ?_
    split <;> omega
  omega
theorem Resid.le {Vs : List Str} {w : Wf} {s t : Str} {n : Int} {r : Wf} (R : Resid Vs w s t n r) (nd : Vs.Nodup) (hs : s ∈ Vs) {S : Sd} (h1 : S s = true) (h2 : S t = false) : n ≤ cutW Vs w S := by
  have h := R.cut nd hs h1 h2
  have := cutW_nonneg (S := S) R.nn
  omega
def push1 (r : Wf) (u v : Str) (a : Int) : Wf := fun x y => if x = u ∧ y = v then r x y - a else if x = v ∧ y = u then r x y + a else r x y
def pushA (r : Wf) (a : Int) : List (Str × Str) → Wf
  | [] => r
  | e :: l => pushA (push1 r e.1 e.2 a) a l
theorem pushA_snoc (a : Int) (e : Str × Str) : ∀ (l : List (Str × Str)) (r : Wf), pushA r a (l ++ [e]) = push1 (pushA r a l) e.1 e.2 a
  | [], _ => rfl
  | f :: l, r => by
    show pushA (push1 r f.1 f.2 a) a (l ++ [e]) = _
    rw [pushA_snoc a e l]
    rfl
def netW (Vs : List Str) (w r : Wf) (u : Str) : Int := sm Vs fun v => w u v - r u v
theorem netW_push {Vs : List Str} {w r : Wf} {u v : Str} {a : Int} (nd : Vs.Nodup) (hu : u ∈ Vs) (hv : v ∈ Vs) (ne : u ≠ v) (x : Str) : netW Vs w (push1 r u v a) x = netW Vs w r x + (if x = u then a else 0) - (if x = v then a else 0) := by
  unfold netW push1
  by_cases h1 : x = u
  · subst h1
    have e : (sm Vs fun y => w x y - (if x = x ∧ y = v then r x y - a else if x = v ∧ y = x then r x y + a else r x y)) = sm Vs (fun y => w x y - r x y) + sm Vs fun y => if y = v then a else 0 := by
      rw [← sm_add]
      refine sm_congr fun y _ => ?_
      by_cases q : y = v
      · simp [q]
        omega
      · simp [q, ne]
    rw [e, sm_at nd hv, if_pos rfl, if_neg ne]
    omega
  · by_cases h2 : x = v
    · subst h2
      have e : (sm Vs fun y => w x y - (if x = u ∧ y = x then r x y - a else if x = x ∧ y = u then r x y + a else r x y)) = sm Vs (fun y => w x y - r x y) + sm Vs fun y => if y = u then - a else 0 := by
        rw [← sm_add]
        refine sm_congr fun y _ => ?_
        by_cases q : y = u
        · simp [q, h1]
          omega
        · simp [q, h1]
      rw [e, sm_at nd hu, if_neg h1, if_pos rfl]
      omega
    · rw [if_neg h1, if_neg h2]
      have e : (sm Vs fun y => w x y - (if x = u ∧ y = v then r x y - a else if x = v ∧ y = u then r x y + a else r x y)) = sm Vs fun y => w x y - r x y := sm_congr fun y _ => by simp [h1, h2]
      rw [e]
      omega
def arcs (l : List Str) : List (Str × Str) := l.zip l.tail
theorem arcs_cons (a b : Str) (l : List Str) : arcs (a :: b :: l) = (a, b) :: arcs (b :: l) := rfl
theorem netW_path {Vs : List Str} {w : Wf} {a : Int} (nd : Vs.Nodup) : ∀ (l : List Str) (r : Wf) (x y : Str), (∀ z ∈ x :: l, z ∈ Vs) → (x :: l).Nodup → (x :: l).getLast? = some y → ∀ z, netW Vs w (pushA r a (arcs (x :: l))) z = netW Vs w r z + (if z = x then a else 0) - (if z = y then a else 0)
  | [], r, x, y, _, _, hl, z => by
    have : x = y := by simpa using hl
    subst this
    show netW Vs w r z = _
    split <;> omega
  | b :: l, r, x, y, hV, hn, hl, z => by
    rw [arcs_cons]
    show netW Vs w (pushA (push1 r x b a) a (arcs (b :: l))) z = _
    have nx : x ≠ b := fun e => (List.nodup_cons.mp hn).1 (by rw [e]; exact List.mem_cons_self)
    rw [netW_path nd l _ b y (fun z hz => hV z (List.mem_cons_of_mem _ hz)) (List.nodup_cons.mp hn).2 (by rw [List.getLast?_cons_cons] at hl; exact hl), netW_push nd (hV x List.mem_cons_self) (hV b (List.mem_cons_of_mem _ List.mem_cons_self)) nx]
    omega
theorem arcs_mem {l : List Str} {e : Str × Str} (h : e ∈ arcs l) : e.1 ∈ l ∧ e.2 ∈ l := by
  have := List.of_mem_zip h
  exact ⟨this.1, List.mem_of_mem_tail this.2⟩
theorem pushA_pr {Vs : List Str} {a : Int} : ∀ (l : List (Str × Str)) (r : Wf), (∀ e ∈ l, e.1 ≠ e.2) → ∀ u v, pushA r a l u v + pushA r a l v u = r u v + r v u
  | [], _, _, _, _ => rfl
  | e :: l, r, h, u, v => by
    show pushA (push1 r e.1 e.2 a) a l u v + pushA (push1 r e.1 e.2 a) a l v u = _
    rw [pushA_pr (Vs := Vs) l _ fun f hf => h f (List.mem_cons_of_mem _ hf)]
    have ne := h e List.mem_cons_self
    unfold push1
    by_cases h1 : u = e.1 ∧ v = e.2
    · obtain ⟨rfl, rfl⟩ := h1
      have : ¬ (e.2 = e.1 ∧ e.1 = e.2) := fun z => ne z.2
      simp [this, ne, Ne.symm ne]
      omega
    · by_cases h2 : u = e.2 ∧ v = e.1
      · obtain ⟨rfl, rfl⟩ := h2
        simp [ne, Ne.symm ne]
        omega
      · have h3 : ¬ (v = e.1 ∧ u = e.2) := fun z => h2 ⟨z.2, z.1⟩
        have h4 : ¬ (v = e.2 ∧ u = e.1) := fun z => h1 ⟨z.2, z.1⟩
        simp [h1, h2, h3, h4]
theorem pushA_nn {Vs : List Str} {a : Int} (ha : 0 ≤ a) : ∀ (l : List Str) (r : Wf), l.Nodup → (∀ u ∈ Vs, ∀ v ∈ Vs, 0 ≤ r u v) → (∀ e ∈ arcs l, a ≤ r e.1 e.2) → ∀ u ∈ Vs, ∀ v ∈ Vs, 0 ≤ pushA r a (arcs l) u v
  | [], r, _, h, _, u, hu, v, hv => h u hu v hv
  | [x], r, _, h, _, u, hu, v, hv => h u hu v hv
  | x :: y :: l, r, hn, h, k, u, hu, v, hv => by
    rw [arcs_cons]
    show 0 ≤ pushA (push1 r x y a) a (arcs (y :: l)) u v
    have nx := (List.nodup_cons.mp hn).1
    have nxy : x ≠ y := fun e => nx (by rw [e]; exact List.mem_cons_self)
    refine pushA_nn ha (y :: l) (push1 r x y a) (List.nodup_cons.mp hn).2 (fun u hu v hv => ?_) (fun e he => ?_) u hu v hv
    · unfold push1
      by_cases h1 : u = x ∧ v = y
      · rw [if_pos h1]
        have := k (x, y) (by rw [arcs_cons]; exact List.mem_cons_self)
        rw [h1.1, h1.2]
        have : a ≤ r x y := this
        omega
      · rw [if_neg h1]
        have := h u hu v hv
        split <;> omega
    · have m := arcs_mem he
      have : a ≤ r e.1 e.2 := k e (by rw [arcs_cons]; exact List.mem_cons_of_mem _ he)
      unfold push1
      rw [if_neg fun z => nx (by rw [← z.1]; exact m.1), if_neg fun z => nx (by rw [← z.2]; exact m.2)]
      exact this
theorem arcs_ne {l : List Str} (hn : l.Nodup) : ∀ e ∈ arcs l, e.1 ≠ e.2 := by
  induction l with
  | nil => exact fun e he => nomatch he
  | cons x l ih =>
    cases l with
    | nil => exact fun e he => nomatch he
    | cons y l =>
      intro e he
      rw [arcs_cons] at he
      rcases List.mem_cons.mp he with rfl | he
      · exact fun z => (List.nodup_cons.mp hn).1 (by rw [show x = y from z]; exact List.mem_cons_self)
      · exact ih (List.nodup_cons.mp hn).2 e he
theorem Resid.push {Vs : List Str} {w : Wf} {s t : Str} {n : Int} {r : Wf} (R : Resid Vs w s t n r) (nd : Vs.Nodup) (st : s ≠ t) {l : List Str} {a : Int} (ha : 0 ≤ a) (hh : l.head? = some s) (hl : l.getLast? = some t) (hn : l.Nodup) (hV : ∀ z ∈ l, z ∈ Vs) (hr : ∀ e ∈ arcs l, a ≤ r e.1 e.2) :
    Resid Vs w s t (n + a) (pushA r a (arcs l)) := by
  obtain ⟨l, rfl⟩ : ∃ m, l = s :: m := by
    cases l with
    | nil => simp at hh
    | cons x m =>
      have : x = s := by simpa using hh
      exact ⟨m, by rw [this]⟩
  have np := netW_path (w := w) (a := a) nd l r s t hV hn hl
  refine ⟨pushA_nn ha _ r hn R.nn hr, fun u hu v hv => ?_, fun u hu h1 h2 => ?_, ?_⟩
  · rw [pushA_pr (Vs := Vs) _ r (arcs_ne hn), R.pr u hu v hv]
  · have h := np u
    unfold netW at h
    rw [h, R.co u hu h1 h2, if_neg h1, if_neg h2]
    rfl
  · have h := np s
    unfold netW at h
    rw [h, R.src, if_pos rfl, if_neg st]
    omega
structure Clean (Vs : List Str) (w r : Wf) (s t : Str) : Prop where
  ns : ∀ v ∈ Vs, w v s ≤ r v s
  nt : ∀ v ∈ Vs, w t v ≤ r t v
theorem Clean.start (Vs : List Str) (w : Wf) (s t : Str) : Clean Vs w w s t := ⟨fun _ _ => Int.le_refl _, fun _ _ => Int.le_refl _⟩
theorem Clean.push {Vs : List Str} {w : Wf} {s t : Str} {a : Int} (ha : 0 ≤ a) : ∀ (l : List (Str × Str)) (r : Wf), Clean Vs w r s t → (∀ e ∈ l, e.1 ≠ t ∧ e.2 ≠ s) → Clean Vs w (pushA r a l) s t
  | [], _, c, _ => c
  | e :: l, r, c, h => by
    obtain ⟨h1, h2⟩ := h e List.mem_cons_self
    refine Clean.push ha l (push1 r e.1 e.2 a) ⟨fun v hv => ?_, fun v hv => ?_⟩ fun f hf => h f (List.mem_cons_of_mem _ hf)
    · have := c.ns v hv
      unfold push1
      rw [if_neg fun z => h2 z.2.symm]
      split <;> omega
    · have := c.nt v hv
      unfold push1
      rw [if_neg fun z => h1 z.1.symm]
      split <;> omega
structure Lvl (Vs : List Str) (nb : Nb) (lf : Wt) (s : Str) (fl : List Str) (lev : Str → Int) (i : Nat) : Prop where
  nd : fl.Nodup
  sub : ∀ u ∈ fl, u ∈ Vs
  st : s ∈ fl
  l0 : lev s = 0
  nn : ∀ u ∈ fl, 0 ≤ lev u
  cl : ∀ u ∈ fl.take i, ∀ v ∈ nb u, 0 < lf u v → v ∈ fl
  pd : ∀ v ∈ fl, v ≠ s → ∃ u ∈ fl, v ∈ nb u ∧ 0 < lf u v ∧ lev v = lev u + 1
theorem Lvl.cut {Vs : List Str} {nb : Nb} {wt lf : Wt} {s t : Str} {fl : List Str} {lev : Str → Int} {n : Int} (L : Lvl Vs nb lf s fl lev fl.length) (nd : Vs.Nodup) (R : Resid Vs (vl0 nb wt) s t n (vl0 nb lf)) (ht : t ∉ fl) : cutW Vs (vl0 nb wt) (fun u => decide (u ∈ fl)) = n := by
  rw [R.cut nd (L.sub s L.st) (S := fun u => decide (u ∈ fl)) (decide_eq_true L.st) (decide_eq_false ht)]
  have : cutW Vs (vl0 nb lf) (fun u => decide (u ∈ fl)) = 0 := sm_zero fun u hu => sm_zero fun v hv => by
    split
    · rename_i h
      have h1 : u ∈ fl := of_decide_eq_true h.1
      have h2 : v ∉ fl := of_decide_eq_false h.2
      have nn := R.nn u hu v hv
      unfold vl0 at nn ⊢
      by_cases q : v ∈ nb u
      · rw [if_pos q] at nn ⊢
        have : ¬ 0 < lf u v := fun z => h2 (L.cl u (by rw [List.take_length]; exact h1) v q z)
        omega
      · rw [if_neg q]
    · rfl
  omega
end WkP
namespace WkK
open PySem PySem.Spec PyProof.Rows L2 WkD WkN
theorem peFld {X : Cx} {e : Expr} {f : Str} {ta : TE} {pos : Pos} (K : PySem.W.Frag) (h : X.K = K) (he : PE X e ta) (hb : attributeBase e f X.env (eval e X.env) = eval e X.env) : PE X (.Attribute e f pos) (tFld K ta f) := by
  subst h
  exact pe_fld he hb
theorem ixL {X : Cx} (K : PySem.W.Frag) (h : X.K = K) : IxR X (rIxL K) := by
  subst h
  exact ix_list
end WkK
namespace HT
open PySem PySem.Spec PyProof.Rows
section
variable {prog : Program} {w : World} {A : Around} {E : Value → Shared → Prop} {s : Shared}
end
end HT
namespace WkK
open PySem PySem.Spec PyProof.Rows L2
end WkK
namespace Wk
open PySem PySem.Spec PyProof.Rows L2 WkD WkN LamX WkP WkE WkC
structure SCls (K : PySem.W.Frag) (C : Addr) : Prop where
  cls : Cls K C
  na : NoAttr K C "around"
  nl : NoAttr K C "left"
  ns : NoAttr K C "source"
  nt : NoAttr K C "target"
def seaF (a l : Addr) (s t : Str) : List (Str × V) := [("around", .ref a), ("left", .ref l), ("source", .str s), ("target", .str t)]
section
variable {P : Program} {w : World} {K : PySem.W.Frag} {mg : Str → Option Value} {base : Heap}
def spSea (K : PySem.W.Frag) : Sp := fun vs H Q _ => ∃ (x S dx g C dg : Addr) (fs : List (Str × V)) (a : Addr) (top s t : Str) (Vs : List Str) (ad : Str → Addr) (nb : Nb) (wt : Wt), vs = [.ref x, .ref g, .str s, .str t] ∧ H x = some (.ins S dx []) ∧ SCls K S ∧ GAt K H g C dg fs a top ∧ RowsZ H a Vs ad nb wt ∧ Vs.Nodup ∧ Vs.length < 1000 ∧ x ≠ g ∧
  ∀ la lad H', But x H H' → H' x = some (.ins S dx (seaF a la s t)) → H la = none → (∀ u ∈ Vs, H (lad u) = none) → RowsM H' la Vs lad nb wt → Q .non H'
theorem sc_sea_init : FnScope ["self", "graph", "source", "target", "u", "row"] ["self", "graph", "source", "target"] (defScope s_Search_init) := ⟨rfl, rfl, rfl, by decide +kernel, rfl, by decide +kernel, by decide +kernel⟩
theorem ok_sea_init {f : Addr} {fd : FuncData} (F : FnP K "__init__" "Search.__init__" s_Search_init f fd) : FnOk P w K mg base CX0 1 f fd ["self", "graph", "source", "target"] (spSea K) := by
  refine F.ok sc_sea_init (fun vs H Q E h => ?_) (fun cdv A outer s H vs Q E hr h => ?_)
  · obtain ⟨x, S, dx, g, C, dg, fs, a, top, s, t, Vs, ad, nb, wt, rfl, _⟩ := h
    rfl
  have nd := sc_sea_init.nd
  refine ⟨_, PSs.nox (pss_cons (ps_fld (pv 0) (pe_fld (pv 1) rfl) rfl)
      (pss_cons (ps_fld (pv 0) (pe_dc (own := [("u", 4), ("row", 5)]) (by rfl) nd (pi_items (pe_fld (pv 1) rfl)) (blkOk_by (by kernel_rfl)) (fun _ _ _ _ _ => (WkN.pgT K 2 rfl rfl (pgs_cons (pg_name (i := 4) nd rfl (Or.inl rfl)) (pgs_cons (pg_name (i := 5) nd rfl (Or.inl rfl)) pgs_nil)) rfl)) (fun _ _ _ _ _ => pts_nil) (fun _ _ _ _ _ => (pv 4)) (fun _ _ _ _ _ => (WkD.pe_dstar (pv 5)))) rfl)
      (pss_cons (ps_fld (pv 0) (pv 2) rfl)
      (pss_one (ps_fld (pv 0) (pv 3) rfl))))), ?_⟩
  obtain ⟨x, S, dx, g, C, dg, fs, a, top, s, t, Vs, ad0, nb, wt, rfl, hx, SC, G, RZ, hVn, hsz, nxg, k⟩ := h
  refine ⟨_, rfl, g, C, dg, fs, _, rfl, G.ins, G.cls, G.na, G.la, ?_⟩
  refine ⟨_, rfl, x, S, dx, _, rfl, hx, SC.cls, SC.na, by show 0 < 1000; decide, ?_⟩
  have b1 : But x H (upd H x (.ins S dx (putF "around" (.ref a) []))) := fun b o hb hne => by rw [upd_ne hne]; exact hb
  have hx1 : upd H x (.ins S dx (putF "around" (.ref a) [])) x = some (.ins S dx [("around", .ref a)]) := upd_same
  generalize upd H x (.ins S dx (putF "around" (.ref a) [])) = H1 at b1 hx1
  have e1 : ExtB x H H1 := fun b o hb hne _ => b1 b o hb hne
  have RZ1 : RowsZ H1 a Vs ad0 nb wt := e1.rz RZ hx
  have G1 : GAt K H1 g C dg fs a top := ⟨b1 _ _ G.ins (Ne.symm nxg), G.cls, G.na, G.nt, G.la, G.lt⟩
  obtain ⟨oa, hA⟩ := RZ1.top
  have tkN : ∀ i (h : i < Vs.length), Vs[i] ∉ Vs.take i := fun i h z => by
    obtain ⟨j, hj, e⟩ := List.mem_iff_getElem.mp z
    rw [List.length_take] at hj
    rw [List.getElem_take] at e
    have := (List.getElem_inj hVn).mp e
    omega
  have tkL : ∀ i, (Vs.take i).length < sizeLine := fun i => by
    rw [List.length_take]
    exact Nat.lt_of_le_of_lt (Nat.min_le_right _ _) (Nat.lt_trans hsz (by decide))
  refine ⟨_, rfl, g, C, dg, fs, _, rfl, G1.ins, G1.cls, G1.na, G1.la, a, oa, _, rfl, hA, fun ra nra => ?_⟩
  refine dc_it (walk_items (kvs := dct Vs fun u => .ref (ad0 u))) (fun i H2 => ∃ ad, Cop H1 ra nb wt (Vs.take i) ad H2) ⟨ad0, ⟨upd_same, fun u hu => absurd hu (by simp), fun u hu => absurd hu (by simp), by simp⟩, fun b o hb hne => by rw [upd_ne hne]; exact hb, fun u hu => absurd hu (by simp)⟩ ?_ ?_ ?_
  · rintro i H2 hi ⟨ad, cp⟩
    exact cp.keep _ _ hA (ne_of_none hA nra)
  · rintro i y H2 H2' hi ⟨ad, cp⟩ ⟨T, kx, vx, rfl, nT, rfl, hkx, hvx⟩
    rw [dct_len] at hi
    dsimp only at hkx hvx
    rw [dct_at, List.getElem?_eq_getElem hi] at hkx hvx
    cases hkx
    cases hvx
    obtain ⟨u, eu⟩ : ∃ u, u = Vs[i] := ⟨_, rfl⟩
    have hnu := tkN i hi
    have tk := takeS (List.getElem?_eq_getElem hi)
    have huV : u ∈ Vs := eu ▸ List.getElem_mem hi
    rw [← eu] at hnu tk ⊢
    obtain ⟨ou, hU⟩ := RZ1.row u huV
    have sT : Same H2 (upd H2 T (.tup [.str u, .ref (ad0 u)])) := same_upd nT
    have PT' : upd H2 T (.tup [.str u, .ref (ad0 u)]) T = some (.tup [.str u, .ref (ad0 u)]) := upd_same
    show gTup _ _ _ _ _ (upd H2 T (.tup [.str u, .ref (ad0 u)])) _
    generalize upd H2 T (.tup [.str u, .ref (ad0 u)]) = H3 at sT PT'
    refine ⟨T, _, rfl, .inl (.inl PT'), rfl, _, _, rfl, _, _, rfl, rfl, rfl, tYes_if ?_⟩
    refine ⟨_, rfl, fun p np => ⟨_, rfl, ?_⟩⟩
    have hU3 : H3 (ad0 u) = some (.frz ou (.dK (dct (nb u) fun v => .int (wt u v)))) := sT _ _ (cp.keep _ _ hU (ne_of_none hU nra))
    have nup : ad0 u ≠ p := ne_of_none hU3 np
    refine ⟨ad0 u, _, rfl, upd_same, nup, .inr ⟨ou, by rw [upd_ne nup]; exact hU3⟩, ?_⟩
    rw [upd_upd]
    have hra3 : H3 ra = some (.dK (dct (Vs.take i) fun u => .ref (ad u))) := sT _ _ cp.rows.top
    have npr : ra ≠ p := ne_of_none hra3 np
    refine ⟨_, Sum.inr u, rfl, by rw [upd_ne npr]; exact hra3, by rw [dct_len]; exact tkL i, fun y => if y = u then p else ad y, ?_⟩
    rw [dct_put_new hnu, tk]
    have z := cp.snoc hnu sT np (nb u)
    have en : (fun y => if y = u then nb u else nb y) = nb := funext fun y => by
      split
      · rename_i e
        rw [e]
      · rfl
    rw [en] at z
    exact z
  · rintro H2 ⟨ad, cp⟩
    rw [dct_len, List.take_length] at cp
    have hx2 := cp.keep _ _ hx1 (ne_of_none hx1 nra)
    have nHr : H ra = none := by
      cases e : H ra with
      | none => rfl
      | some o =>
        by_cases q : ra = x
        · rw [q, hx1] at nra
          cases nra
        · rw [b1 _ _ e q] at nra
          cases nra
    have rx : ra ≠ x := Ne.symm (ne_of_none hx1 nra)
    refine ⟨_, rfl, x, S, dx, _, rfl, hx2, SC.cls, SC.nl, by show 1 < 1000; decide, ?_⟩
    refine ⟨_, rfl, _, rfl, x, S, dx, _, rfl, upd_same, SC.cls, SC.ns, by show 2 < 1000; decide, ?_⟩
    refine ⟨_, rfl, _, rfl, x, S, dx, _, rfl, upd_same, SC.cls, SC.nt, by show 3 < 1000; decide, ?_⟩
    rw [upd_upd, upd_upd]
    have nad : ∀ u ∈ Vs, ad u ≠ x := fun u hu => Ne.symm (ne_of_none hx1 (cp.new u hu))
    refine k ra ad _ (fun b o hb hne => ?_) upd_same nHr (fun u hu => ?_) ⟨by rw [upd_ne rx]; exact cp.rows.top, fun u hu => by rw [upd_ne (nad u hu)]; exact cp.rows.row u hu, cp.rows.inj, cp.rows.nd⟩
    · rw [upd_ne hne]
      exact cp.keep _ _ (b1 _ _ hb hne) (ne_of_none hb nHr)
    · cases e : H (ad u) with
      | none => rfl
      | some o =>
        have z := cp.new u hu
        rw [b1 _ _ e (nad u hu)] at z
        cases z
end
end Wk
namespace Wk
open PySem PySem.Spec PyProof.Rows L2 WkD WkN LamX WkP WkE WkC
theorem arcs_at {l : List Str} {i : Nat} {u v : Str} (h1 : l[i]? = some u) (h2 : l.tail[i]? = some v) : (arcs l)[i]? = some (u, v) := by
  unfold arcs
  rw [List.getElem?_zip_eq_some]
  exact ⟨h1, h2⟩
theorem push1_rows {lg : Wt} {u v : Str} {m : Int} (ne : u ≠ v) (z y : Str) : (if z = v then (if y = u then lg v u + m else lg v y) else (if z = u then (if y = v then lg u v - m else lg u y) else lg z y)) = push1 lg u v m z y := by
  unfold push1
  grind
section
variable {P : Program} {w : World} {K : PySem.W.Frag} {mg : Str → Option Value} {base : Heap}
abbrev FrR (Vs : List Str) (ad : Str → Addr) (H H' : Hp) : Prop := ∀ b o, H b = some o → (∀ u ∈ Vs, b ≠ ad u) → H' b = some o
def spMove (K : PySem.W.Frag) : Sp := fun vs H Q _ => ∃ (x S dx a la pl : Addr) (s t : Str) (Vs pth : List Str) (ad : Str → Addr) (nb : Nb) (lf : Wt) (most : Int), vs = [.ref x, .ref pl, .int most] ∧ H x = some (.ins S dx (seaF a la s t)) ∧ SCls K S ∧ RowsM H la Vs ad nb lf ∧ (∀ u ∈ Vs, (nb u).length < 1000) ∧ H pl = some (.lst (pth.map V.str)) ∧ pth.Nodup ∧ pth.length < 1000 ∧ 0 < most ∧
  (∀ e ∈ arcs pth, e.1 ∈ Vs ∧ e.2 ∈ Vs ∧ e.2 ∈ nb e.1 ∧ e.1 ∈ nb e.2 ∧ 0 < lf e.1 e.2) ∧
  ∀ m H', 0 < m → m ≤ most → (∀ e ∈ arcs pth, m ≤ lf e.1 e.2) → FrR Vs ad H H' → RowsM H' la Vs ad nb (pushA lf m (arcs pth)) → Q (.int m) H'
theorem sc_sea_move : FnScope ["self", "path", "most", "amount", "u", "v"] ["self", "path", "most"] (defScope s_Search_move) := ⟨rfl, rfl, rfl, by decide +kernel, rfl, by decide +kernel, by decide +kernel⟩
theorem ok_sea_move {f : Addr} {fd : FuncData} (B : Bi mg) (F : FnP K "move" "Search.move" s_Search_move f fd) : FnOk P w K mg base CX0 1 f fd ["self", "path", "most"] (spMove K) := by
  refine F.ok sc_sea_move (fun vs H Q E h => ?_) (fun cdv A outer s H vs Q E hr h => ?_)
  · obtain ⟨x, S, dx, a, la, pl, s, t, Vs, pth, ad, nb, lf, most, rfl, _⟩ := h
    rfl
  have nd := sc_sea_move.nd
  have hu := hu_of hr
  refine ⟨_, PSs.nox (pss_cons (ps_set (i := 3) nd rfl (Or.inl rfl) (pe_callB (cr_min rfl) (by rfl) B.n_min (by decide +kernel) (pa_cons (pe_op op_cat (pe_lst (pa_cons (pv 2) pa_nil)) (pe_lc (own := [("u", 4), ("v", 5)]) (by rfl) nd (WkV.piZip K (by rfl) (by rfl) B.n_zip (pa_cons (pv 1) (pa_cons (pe_slice sl_list (pv 1) (po_some pe_int) po_none) pa_nil))) (blkOk_by (by kernel_rfl)) (fun _ _ _ _ _ => (WkN.pgT K 2 rfl rfl (pgs_cons (pg_name (i := 4) nd rfl (Or.inl rfl)) (pgs_cons (pg_name (i := 5) nd rfl (Or.inl rfl)) pgs_nil)) rfl)) (fun _ _ _ _ _ => pts_nil) (fun _ _ _ _ _ => (pe_dget hu (pe_dget hu (WkK.peFld K (by rfl) (pv 0) rfl) (pv 4) (fun _ _ => rfl)) (pv 5) (fun _ _ => rfl))))) pa_nil)))
      (pss_cons (ps_for PassesOwn.never rfl (WkV.piZip K (by rfl) (by rfl) B.n_zip (pa_cons (pv 1) (pa_cons (pe_slice sl_list (pv 1) (po_some pe_int) po_none) pa_nil))) (WkN.pgT K 2 rfl rfl (pgs_cons (pg_name (i := 4) nd rfl (Or.inl rfl)) (pgs_cons (pg_name (i := 5) nd rfl (Or.inl rfl)) pgs_nil)) rfl)
      (pss_cons (ps_daug hu (pe_dget hu (WkK.peFld K (by rfl) (pv 0) rfl) (pv 4) (fun _ _ => rfl)) (pv 5) (pv 3) in_sub (fun _ _ _ => rfl))
      (pss_one (ps_daug hu (pe_dget hu (WkK.peFld K (by rfl) (pv 0) rfl) (pv 5) (fun _ _ => rfl)) (pv 4) (pv 3) in_add (fun _ _ _ => rfl)))))
      (pss_one (ps_ret (pv 3))))), ?_⟩
  obtain ⟨x, S, dx, a, la, pl, s, t, Vs, pth, ad, nb, lf, most, rfl, hx, SC, R, hnl, hp, pn, pz, hm, ha, k⟩ := h
  have big : 1000 < sizeLine := by decide
  have al : (arcs pth).length ≤ pth.length := by
    unfold arcs
    rw [List.length_zip]
    exact Nat.min_le_left _ _
  refine ⟨_, rfl, by show 1 ≤ sizeLine; decide, fun q nq => ?_⟩
  have s1 : Same H (upd H q (.lst [.int most])) := same_upd nq
  have Q1 : upd H q (.lst [.int most]) q = some (.lst [.int most]) := upd_same
  generalize upd H q (.lst [.int most]) = H1 at s1 Q1
  refine ⟨_, rfl, _, rfl, _, rfl, pl, _, rfl, SqL.of (s1 _ _ hp), fun p2 n2 => ?_⟩
  generalize gg2 : upd _ p2 _ = G2; obtain ⟨s2, L2⟩ := new_eq n2 gg2; clear gg2
  rw [WkV.cutV_one, ← List.map_tail] at L2
  have s12 := s1.trans s2
  have la2 : (min (pth.map V.str).length (pth.tail.map V.str).length) = (arcs pth).length := by
    rw [List.length_map, List.length_map]
    unfold arcs
    rw [List.length_zip]
  refine ⟨pl, p2, _, _, rfl, SqL.of (s12 _ _ hp), SqL.of L2, fun D nD => ?_⟩
  refine lc_it (walk_zip (xs := pth.map V.str) (ys := pth.tail.map V.str) la2.symm) (fun i Hc => Same G2 Hc ∧ Hc D = some (.lst (((arcs pth).take i).map fun e => V.int (lf e.1 e.2)))) ⟨same_upd nD, upd_same⟩ ?_ ?_ ?_
  · rintro i Hc hi ⟨c1, _⟩
    exact ⟨SqL.of (c1 _ _ (s12 _ _ hp)), SqL.of (c1 _ _ L2)⟩
  · rintro i y Hc Hc' hi ⟨c1, c2⟩ ⟨T, y1, y2, rfl, nT, rfl, h1, h2⟩
    dsimp only at h1 h2
    rw [List.getElem?_map] at h1 h2
    obtain ⟨u, hu1, rfl⟩ := Option.map_eq_some_iff.mp h1
    obtain ⟨v, hv1, rfl⟩ := Option.map_eq_some_iff.mp h2
    have he := arcs_at hu1 hv1
    obtain ⟨huV, hvV, hvn, hun, hpos⟩ := ha (u, v) (List.mem_of_getElem? he)
    have sT : Same Hc (upd Hc T (.tup [.str u, .str v])) := same_upd nT
    have PT : upd Hc T (.tup [.str u, .str v]) T = some (.tup [.str u, .str v]) := upd_same
    show gTup _ _ _ _ _ (upd Hc T (.tup [.str u, .str v])) _
    generalize upd Hc T (.tup [.str u, .str v]) = H6 at sT PT
    refine ⟨T, _, rfl, .inl (.inl PT), rfl, _, _, rfl, _, _, rfl, rfl, rfl, tYes_if ?_⟩
    have s6 : Same H H6 := (s12.trans c1).trans sT
    have R6 := R.ext (Ext.of s6)
    refine ⟨_, rfl, x, S, dx, _, _, rfl, s6 _ _ hx, SC.cls, SC.nl, rfl, _, rfl, la, _, rfl, get_d (.inl R6.top) huV, _, rfl, ad u, _, rfl, get_d (.inl (R6.row u huV)) hvn, _, sT _ _ c2, ?_, ?_, ?_⟩
    · rw [List.length_map, List.length_take]
      omega
    · intro b o hb
      have hbD : b ≠ D := ne_of_none hb nD
      rw [upd_ne hbD]
      exact sT _ _ (c1 _ _ hb)
    · rw [upd_same, takeS he, List.map_append]
      rfl
  rintro H3 ⟨c1, c2⟩
  rw [List.take_length] at c2
  obtain ⟨ns, ens⟩ : ∃ ns, ns = (arcs pth).map fun e => lf e.1 e.2 := ⟨_, rfl⟩
  have c2 : H3 D = some (.lst (ns.map V.int)) := by
    rw [c2, ens, List.map_map]
    rfl
  have nsl : ns.length ≤ pth.length := by rw [ens, List.length_map]; exact al
  have Q3 := c1 _ _ (s2 _ _ Q1)
  refine ⟨q, D, _, _, rfl, rfl, Q3, c2, ?_, fun p4 n4 => ?_⟩
  · rw [List.length_map]
    show 1 + _ ≤ _
    omega
  generalize gg4 : upd _ p4 _ = G4; obtain ⟨s4, L4⟩ := new_eq n4 gg4; clear gg4
  have L4 : G4 p4 = some (.lst ((most :: ns).map V.int)) := L4
  refine ⟨p4, _, rfl, SqL.of L4, by simp, fun m hmm hle => ?_⟩
  have m0 : 0 < m := by
    rcases List.mem_cons.mp hmm with rfl | h
    · exact hm
    · rw [ens] at h
      obtain ⟨e, he, rfl⟩ := List.mem_map.mp h
      exact (ha e he).2.2.2.2
  have m1 : m ≤ most := hle most List.mem_cons_self
  have m2 : ∀ e ∈ arcs pth, m ≤ lf e.1 e.2 := fun e he => hle _ (List.mem_cons_of_mem _ (by rw [ens]; exact List.mem_map.mpr ⟨e, he, rfl⟩))
  have s4' : Same H G4 := (s12.trans c1).trans s4
  refine ⟨_, rfl, _, rfl, _, rfl, pl, _, rfl, SqL.of (s4' _ _ hp), fun p5 n5 => ?_⟩
  generalize gg5 : upd _ p5 _ = G5; obtain ⟨s5, L5⟩ := new_eq n5 gg5; clear gg5
  rw [WkV.cutV_one, ← List.map_tail] at L5
  have s5' : Same H G5 := s4'.trans s5
  have n5H : H p5 = none := np_of s4' n5
  refine ⟨pl, p5, _, _, rfl, SqL.of (s5' _ _ hp), SqL.of L5, ?_⟩
  have npl : ∀ u ∈ Vs, pl ≠ ad u := fun u hu => ne_of hp (R.row u hu) (by intro z; cases z)
  have np5 : ∀ u ∈ Vs, p5 ≠ ad u := fun u hu z => ne_of_none (R.row u hu) n5H z.symm
  have nxu : ∀ u ∈ Vs, x ≠ ad u := fun u hu => ne_of hx (R.row u hu) (by intro z; cases z)
  refine for_it (walk_zip (xs := pth.map V.str) (ys := pth.tail.map V.str) la2.symm) (fun i σ Hc => ∃ (x4 x5 : Option V), σ = [some (.ref x), some (.ref pl), some (.int most), some (.int m), x4, x5] ∧ FrR Vs ad G5 Hc ∧ RowsM Hc la Vs ad nb (pushA lf m ((arcs pth).take i)))
    ⟨_, _, rfl, fun b o h _ => h, R.ext (Ext.of s5')⟩ ?_ ?_ ?_
  · rintro i σ Hc hi ⟨x4, x5, rfl, q1, q2⟩
    exact ⟨SqL.of (q1 _ _ (s5' _ _ hp) npl), SqL.of (q1 _ _ L5 np5)⟩
  · rintro i y σ Hc Hc' hi ⟨x4, x5, rfl, q1, q2⟩ ⟨T, y1, y2, rfl, nT, rfl, h1, h2⟩
    dsimp only at h1 h2
    rw [List.getElem?_map] at h1 h2
    obtain ⟨u, hu1, rfl⟩ := Option.map_eq_some_iff.mp h1
    obtain ⟨v, hv1, rfl⟩ := Option.map_eq_some_iff.mp h2
    have he := arcs_at hu1 hv1
    obtain ⟨huV, hvV, hvn, hun, hpos⟩ := ha (u, v) (List.mem_of_getElem? he)
    have nuv : u ≠ v := arcs_ne pn (u, v) (List.mem_of_getElem? he)
    have sT : Same Hc (upd Hc T (.tup [.str u, .str v])) := same_upd nT
    have PT : upd Hc T (.tup [.str u, .str v]) T = some (.tup [.str u, .str v]) := upd_same
    show gTup _ _ _ _ _ (upd Hc T (.tup [.str u, .str v])) _
    generalize upd Hc T (.tup [.str u, .str v]) = H6 at sT PT
    have R6 := q2.ext (Ext.of sT)
    have hx6 := sT _ _ (q1 _ _ (s5' _ _ hx) nxu)
    refine ⟨T, _, rfl, .inl (.inl PT), rfl, _, _, rfl, _, _, rfl, rfl, ?_⟩
    obtain ⟨lg, elg⟩ : ∃ lg, lg = pushA lf m ((arcs pth).take i) := ⟨_, rfl⟩
    rw [← elg] at R6
    have big1 : (nb u).length < sizeLine := by have := hnl u huV; omega
    have big2 : (nb v).length < sizeLine := by have := hnl v hvV; omega
    refine ⟨_, rfl, x, S, dx, _, _, rfl, hx6, SC.cls, SC.nl, rfl, _, rfl, la, _, rfl, get_d (.inl R6.top) huV, _, rfl, ad u, _, rfl, get_d (.inl (R6.row u huV)) hvn, _, rfl, _, _, rfl, rfl, _, put_d (R6.row u huV) hvn big1, ?_⟩
    have e1 : dct (nb u) (fun y => if y = v then V.int (lg u v - m) else V.int (lg u y)) = dct (nb u) fun y => V.int (if y = v then lg u v - m else lg u y) := dct_congr fun y _ => by split <;> rfl
    rw [e1]
    have R7 := (R6.put huV (nb u) fun y => if y = v then lg u v - m else lg u y).as (nb' := nb) (wt' := fun x y => if x = u then (if y = v then lg u v - m else lg u y) else lg x y) (fun z _ => by
      show (if z = u then nb u else nb z) = nb z
      split
      · rename_i e
        rw [e]
      · rfl) (fun z _ y _ => rfl)
    have hx7 : upd H6 (ad u) (.dK (dct (nb u) fun y => V.int (if y = v then lg u v - m else lg u y))) x = some (.ins S dx (seaF a la s t)) := by
      rw [upd_ne (nxu u huV)]
      exact hx6
    have k7 : ∀ b o, H6 b = some o → b ≠ ad u → upd H6 (ad u) (.dK (dct (nb u) fun y => V.int (if y = v then lg u v - m else lg u y))) b = some o := fun b o hb hne => by
      rw [upd_ne hne]
      exact hb
    generalize upd H6 (ad u) (.dK (dct (nb u) fun y => V.int (if y = v then lg u v - m else lg u y))) = H7 at R7 hx7 k7
    refine ⟨_, rfl, x, S, dx, _, _, rfl, hx7, SC.cls, SC.nl, rfl, _, rfl, la, _, rfl, get_d (.inl R7.top) hvV, _, rfl, ad v, _, rfl, get_d (.inl (R7.row v hvV)) hun, _, rfl, _, _, rfl, rfl, _, put_d (R7.row v hvV) hun big2, ?_⟩
    rw [if_neg (Ne.symm nuv)]
    have e2 : dct (nb v) (fun y => if y = u then V.int (lg v u + m) else V.int (if v = u then (if y = v then lg u v - m else lg u y) else lg v y)) = dct (nb v) fun y => V.int (if y = u then lg v u + m else lg v y) := dct_congr fun y _ => by
      rw [if_neg (Ne.symm nuv)]
      split <;> rfl
    rw [e2]
    have R8 := (R7.put hvV (nb v) fun y => if y = u then lg v u + m else lg v y).as (nb' := nb) (wt' := push1 lg u v m) (fun z _ => by
      show (if z = v then nb v else nb z) = nb z
      split
      · rename_i e
        rw [e]
      · rfl) (fun z _ y _ => push1_rows nuv z y)
    refine ⟨_, _, rfl, fun b o hb hne => ?_, ?_⟩
    · rw [upd_ne (hne v hvV)]
      exact k7 _ _ (sT _ _ (q1 b o hb hne)) (hne u huV)
    · rw [takeS he, pushA_snoc, ← elg]
      exact R8
  · rintro σ Hc ⟨x4, x5, rfl, q1, q2⟩
    rw [List.take_length] at q2
    exact ⟨_, rfl, k m Hc m0 m1 m2 (fun b o hb hne => q1 b o (s5' _ _ hb) hne) q2⟩
end
end Wk
namespace Wk
open PySem PySem.Spec PyProof.Rows L2 WkD WkN LamX WkP WkE WkC
section
variable {P : Program} {w : World} {K : PySem.W.Frag} {mg : Str → Option Value} {base : Heap}
def spLev (K : PySem.W.Frag) : Sp := fun vs H Q _ => ∃ (x S dx a la : Addr) (s t : Str) (Vs : List Str) (ad : Str → Addr) (nb : Nb) (lf : Wt), vs = [.ref x] ∧ H x = some (.ins S dx (seaF a la s t)) ∧ SCls K S ∧ RowsM H la Vs ad nb lf ∧ s ∈ Vs ∧ (∀ u ∈ Vs, ∀ v ∈ nb u, v ∈ Vs) ∧ Vs.length < 1000 ∧
  ∀ p o fl lev H', Same H H' → H p = none → H' p = some (.frz o (.dK (dct fl fun v => .int (lev v)))) → Lvl Vs nb lf s fl lev fl.length → Q (.ref p) H'
theorem sc_sea_levels : FnScope ["self", "found", "waiting", "at", "here", "there", "left"] ["self"] (defScope s_Search_levels) := ⟨rfl, rfl, rfl, by decide +kernel, rfl, by decide +kernel, by decide +kernel⟩
theorem ok_sea_levels {f : Addr} {fd : FuncData} (B : Bi mg) (F : FnP K "levels" "Search.levels" s_Search_levels f fd) : FnOk P w K mg base CX0 1 f fd ["self"] (spLev K) := by
  refine F.ok sc_sea_levels (fun vs H Q E h => ?_) (fun cdv A outer s H vs Q E hr h => ?_)
  · obtain ⟨x, S, dx, a, la, s, t, Vs, ad, nb, lf, rfl, _⟩ := h
    rfl
  have nd := sc_sea_levels.nd
  have hu := hu_of hr
  refine ⟨_, PSs.nox (pss_cons (ps_par3 (i := 1) (j := 2) (l := 3) (by rfl) nd rfl rfl rfl (by decide) (by decide) (by decide) rfl rfl rfl (pa_cons (pe_disp (pps_cons (pe_fld (pv 0) rfl) pe_int pps_nil) (by rfl) (by rfl) (fun z => by cases z) (by decide)) (pa_cons (pe_lst (pa_cons (pe_fld (pv 0) rfl) pa_nil)) (pa_cons pe_int pa_nil))) (by rfl))
      (pss_cons (ps_while PassesOwn.never (pt_cmpR op_lt (pv 3) (pe_callB call_len_seq (by rfl) B.n_len (by decide +kernel) (pa_cons (pv 2) pa_nil)) (nomark _))
      (pss_cons (ps_set (i := 4) nd rfl (Or.inl rfl) (pe_ix ix_list (pv 2) (pv 3) (fun _ _ => rfl)))
      (pss_cons (ps_lock (ps_for PassesOwn.never rfl (pi_items (pe_dget hu (pe_fld (pv 0) rfl) (pv 4) (fun _ _ => rfl))) (WkN.pgT K 2 rfl rfl (pgs_cons (pg_name (i := 5) nd rfl (Or.inl rfl)) (pgs_cons (pg_name (i := 6) nd rfl (Or.inl rfl)) pgs_nil)) rfl)
      (pss_one (ps_if (PW.pt (pw_and (pt_cmpR op_gt (pv 6) pe_int (nomark _)) (pw_and1 (pt_cmp (pc_dnotin hu (pv 5) (pv 1))))))
      (pss_cons (ps_dput hu (pv 1) (pv 5) (pe_op op_add (pe_dget hu (pv 1) (pv 4) (fun _ _ => rfl)) pe_int) rfl)
      (pss_one (ps_expr (pe_bm PySem.F.plainAttrs_list PySem.F.slot_list_append PySem.F.type_list_append mt_append (pv 2) (pa_cons (pv 5) pa_nil))))) pss_nil))))
      (pss_one (ps_aug (i := 3) nd rfl (Or.inl rfl) pe_int ip_add)))))
      (pss_one (WkD.ps_fz (ps_ret (pv 1)))))), ?_⟩
  obtain ⟨x, S, dx, a, la, s, t, Vs, ad, nb, lf, rfl, hx, SC, R, hs, hnb, hl, k⟩ := h
  have big : 1000 < sizeLine := by decide
  refine fun fo nfo => ?_
  refine ⟨_, rfl, x, S, dx, _, _, rfl, (same_upd nfo) _ _ hx, SC.cls, SC.ns, rfl, ?_⟩
  refine ⟨upd_same, [(Sum.inr s, .int 0)], rfl, (by show 1 ≤ 15; decide), ?_⟩
  rw [upd_upd]
  have e0 : mergeK [] [((Sum.inr s : Key), V.int 0)] = dct [s] fun _ => .int 0 := rfl
  rw [e0]
  have s1 : Same H (upd H fo (.dK (dct [s] fun _ => .int 0))) := same_upd nfo
  have F1 : upd H fo (.dK (dct [s] fun _ => .int 0)) fo = some (.dK (dct [s] fun _ => .int 0)) := upd_same
  generalize upd H fo (.dK (dct [s] fun _ => .int 0)) = H1 at s1 F1
  refine ⟨_, rfl, x, S, dx, _, _, rfl, s1 _ _ hx, SC.cls, SC.ns, rfl, by show 1 ≤ sizeLine; decide, fun wa nwa => ⟨_, _, _, rfl, ?_⟩⟩
  have nwf : fo ≠ wa := ne_of_none F1 nwa
  have s2 : Same H (upd H1 wa (.lst [.str s])) := s1.trans (same_upd nwa)
  have F2 := (same_upd (o := .lst [.str s]) nwa) _ _ F1
  have W2 : upd H1 wa (.lst [.str s]) wa = some (.lst ([s].map V.str)) := upd_same
  have nwH : H wa = none := np_of s1 nwa
  generalize upd H1 wa (.lst [.str s]) = H2 at s2 F2 W2
  refine ⟨fun m σ Hc => ∃ (fl : List Str) (lev : Str → Int) (i : Nat) (x4 x5 x6 : Option V), σ = [some (.ref x), some (.ref fo), some (.ref wa), some (.int i), x4, x5, x6] ∧ Same H Hc ∧ Hc fo = some (.dK (dct fl fun v => .int (lev v))) ∧ Hc wa = some (.lst (fl.map V.str)) ∧ Lvl Vs nb lf s fl lev i ∧ i ≤ fl.length ∧ m = Vs.length - i,
    ⟨_, [s], fun _ => 0, 0, none, none, none, rfl, s2, F2, W2, ⟨by simp, fun u hu => by rw [List.mem_singleton.mp hu]; exact hs, by simp, rfl, fun _ _ => Int.le_refl _, fun u hu => absurd hu (by simp), fun v hv hne => absurd (List.mem_singleton.mp hv) hne⟩, Nat.zero_le _, rfl⟩, ?_⟩
  rintro m σ H3 ⟨fl, lev, i, x4, x5, x6, rfl, s3, F3, W3, L, hi, rfl⟩
  have flV : fl.length ≤ Vs.length := L.nd.length_le_of_subset fun u hu => L.sub u hu
  refine ⟨_, rfl, _, rfl, wa, _, rfl, .inl (SqL.of W3), _, _, rfl, rfl, _, rfl, ?_⟩
  rw [List.length_map]
  refine ite2 (fun hb => ?_) (fun hb => ?_)
  · have hb : (i : Int) < (fl.length : Int) := of_decide_eq_true hb
    have hb : i < fl.length := by omega
    refine ⟨fun σ' Hc => ∃ (fl : List Str) (lev : Str → Int) (x4 x5 x6 : Option V), σ' = [some (.ref x), some (.ref fo), some (.ref wa), some (.int (i + 1 : Nat)), x4, x5, x6] ∧ Same H Hc ∧ Hc fo = some (.dK (dct fl fun v => .int (lev v))) ∧ Hc wa = some (.lst (fl.map V.str)) ∧ Lvl Vs nb lf s fl lev (i + 1) ∧ i + 1 ≤ fl.length, ?_, ?_⟩
    · rintro σ' H' ⟨fl', lev', y4, y5, y6, q1, q2, q3, q4, q5, q6⟩
      have flV' : fl'.length ≤ Vs.length := q5.nd.length_le_of_subset fun u hu => q5.sub u hu
      exact ⟨Vs.length - (i + 1), by omega, fl', lev', i + 1, y4, y5, y6, q1, q2, q3, q4, q5, q6, rfl⟩
    obtain ⟨u, eu⟩ : ∃ u, u = fl[i] := ⟨_, rfl⟩
    have huf : u ∈ fl := eu ▸ List.getElem_mem hb
    have huV := L.sub u huf
    refine ⟨_, rfl, _, rfl, wa, _, _, .str u, rfl, rfl, SqL.of W3, ?_, ?_⟩
    · refine atI_nat ?_
      rw [List.getElem?_map, List.getElem?_eq_getElem hb, ← eu]
      rfl
    have R3 := R.ext (Ext.of s3)
    have hx3 := s3 _ _ hx
    refine ⟨ad u, _, R3.row u huV, trivial, fun od => ?_⟩
    have nuf : fo ≠ ad u := Ne.symm (ne_of_none (R.row u huV) nfo)
    have nuw : wa ≠ ad u := Ne.symm (ne_of_none (R.row u huV) nwH)
    have nxu : x ≠ ad u := ne_of hx (R.row u huV) (by intro z; cases z)
    have nlu := R.ne huV
    have Z5 : upd H3 (ad u) (.frz od (.dK (dct (nb u) fun v => .int (lf u v)))) (ad u) = some (.frz od (.dK (dct (nb u) fun v => .int (lf u v)))) := upd_same
    have k5 : ∀ b o, H3 b = some o → b ≠ ad u → upd H3 (ad u) (.frz od (.dK (dct (nb u) fun v => .int (lf u v)))) b = some o := fun b o hb hne => by
      rw [upd_ne hne]
      exact hb
    generalize upd H3 (ad u) (.frz od (.dK (dct (nb u) fun v => .int (lf u v)))) = H5 at Z5 k5
    have W5 := k5 _ _ W3 nuw
    have F5 := k5 _ _ F3 nuf
    refine ⟨_, rfl, x, S, dx, _, _, rfl, k5 _ _ hx3 nxu, SC.cls, SC.nl, rfl, _, rfl, la, _, rfl, get_d (.inl (k5 _ _ R3.top (Ne.symm nlu))) huV, ad u, od, _, rfl, Z5, ?_⟩
    refine for_it (walk_items (kvs := dct (nb u) fun v => .int (lf u v))) (fun j σ Hc => ∃ (fl' : List Str) (lev' : Str → Int) (x5 x6 : Option V), σ = [some (.ref x), some (.ref fo), some (.ref wa), some (.int i), some (.str u), x5, x6] ∧ (∀ b o, H3 b = some o → b ≠ ad u → b ≠ wa → b ≠ fo → Hc b = some o) ∧ Hc (ad u) = some (.frz od (.dK (dct (nb u) fun v => .int (lf u v)))) ∧
      Hc fo = some (.dK (dct fl' fun v => .int (lev' v))) ∧ Hc wa = some (.lst (fl'.map V.str)) ∧ Lvl Vs nb lf s fl' lev' i ∧ fl'[i]? = some u ∧ ∀ v ∈ (nb u).take j, 0 < lf u v → v ∈ fl')
      ⟨fl, lev, x5, x6, rfl, fun b o h1 h2 _ _ => k5 _ _ h1 h2, Z5, F5, W5, L, by rw [List.getElem?_eq_getElem hb, ← eu], fun v hv => absurd hv (by simp)⟩ ?_ ?_ ?_
    · rintro j σ Hc hj ⟨fl', lev', x5, x6, rfl, q1, q2, q3, q4, q5, q6, q7⟩
      exact q2
    · rintro j y σ Hc Hc' hj ⟨fl', lev', x5, x6, rfl, q1, q2, q3, q4, q5, q6, q7⟩ ⟨T, kx, vx, rfl, nT, rfl, hkx, hvx⟩
      rw [dct_len] at hj
      dsimp only at hkx hvx
      rw [dct_at, List.getElem?_eq_getElem hj] at hkx hvx
      cases hkx
      cases hvx
      obtain ⟨v, ev⟩ : ∃ v, v = (nb u)[j] := ⟨_, rfl⟩
      have hvn : v ∈ nb u := ev ▸ List.getElem_mem hj
      have tk : ∀ y, y ∈ (nb u).take (j + 1) → y ∈ (nb u).take j ∨ y = v := fun y hy => by
        rw [takeS (List.getElem?_eq_getElem hj), List.mem_append, List.mem_singleton, ← ev] at hy
        exact hy
      have fV : fl'.length ≤ Vs.length := q5.nd.length_le_of_subset fun u hu => q5.sub u hu
      have hi' := (List.getElem?_eq_some_iff.mp q6).1
      have huf' : u ∈ fl' := List.mem_of_getElem? q6
      rw [← ev]
      have sT : Same Hc (upd Hc T (.tup [.str v, .int (lf u v)])) := same_upd nT
      have PT : upd Hc T (.tup [.str v, .int (lf u v)]) T = some (.tup [.str v, .int (lf u v)]) := upd_same
      show gTup _ _ _ _ _ (upd Hc T (.tup [.str v, .int (lf u v)])) _
      generalize upd Hc T (.tup [.str v, .int (lf u v)]) = H6 at sT PT
      refine ⟨T, _, rfl, .inl (.inl PT), rfl, _, _, rfl, _, _, rfl, rfl, ?_⟩
      have F6 := sT _ _ q3
      have W6 := sT _ _ q4
      have done : 0 < lf u v → v ∈ fl' → ∀ y ∈ (nb u).take (j + 1), 0 < lf u y → y ∈ fl' := fun _ h y hy hp => by
        rcases tk y hy with h1 | rfl
        · exact q7 y h1 hp
        · exact h
      refine ⟨_, rfl, _, _, rfl, rfl, _, rfl, ?_⟩
      refine ite2 (fun h1 => ?_) (fun h1 => ?_)
      · have h1 : 0 < lf u v := of_decide_eq_true h1
        refine ⟨_, rfl, _, rfl, fo, _, rfl, get_x (.inl F6), _, rfl, ?_⟩
        have eo : (if v ∈ fl' then some (V.int (lev' v)) else none).isSome = decide (v ∈ fl') := by
          by_cases h : v ∈ fl'
          · rw [if_pos h, decide_eq_true h]
            rfl
          · rw [if_neg h, decide_eq_false h]
            rfl
        rw [eo]
        refine ite2 (fun h2 => ?_) (fun h2 => ?_)
        · have hn : v ∉ fl' := fun z => by
            rw [decide_eq_true z] at h2
            cases h2
          refine ⟨_, rfl, _, rfl, fo, _, rfl, get_d (.inl F6) huf', _, _, rfl, rfl, _, rfl, _, rfl, fo, _, rfl, put_n F6 hn (by omega), ?_⟩
          have eg : dct (fl' ++ [v]) (fun y => if y = v then V.int (lev' u + 1) else V.int (lev' y)) = dct (fl' ++ [v]) fun y => V.int (if y = v then lev' u + 1 else lev' y) := dct_congr fun y _ => by split <;> rfl
          rw [eg]
          have W7 : upd H6 fo (.dK (dct (fl' ++ [v]) fun y => V.int (if y = v then lev' u + 1 else lev' y))) wa = some (.lst (fl'.map V.str)) := by
            rw [upd_ne (Ne.symm nwf)]
            exact W6
          have ney : ∀ y ∈ fl', (if y = v then lev' u + 1 else lev' y) = lev' y := fun y hy => if_neg fun (z : y = v) => hn (by rw [← z]; exact hy)
          have hvV := hnb u huV v hvn
          have ln : fl'.length + 1 ≤ Vs.length := by
            have : (fl' ++ [v]).length ≤ Vs.length := List.Nodup.length_le_of_subset (List.nodup_append.mpr ⟨q5.nd, by simp, fun a ha b hb e => hn (by rw [← List.mem_singleton.mp hb, ← e]; exact ha)⟩) fun y hy => (List.mem_append.mp hy).elim (q5.sub y) fun h => by rw [List.mem_singleton.mp h]; exact hvV
            simpa using this
          refine ⟨_, rfl, .inl ⟨rfl, _, SqL.of W7⟩, _, rfl, wa, _, _, rfl, rfl, W7, by rw [List.length_map]; omega, fl' ++ [v], fun y => if y = v then lev' u + 1 else lev' y, _, _, rfl, fun b o b1 b2 b3 b4 => ?_, ?_, ?_, ?_, ?_, ?_, ?_⟩
          · rw [upd_ne b3, upd_ne b4]
            exact sT _ _ (q1 b o b1 b2 b3 b4)
          · rw [upd_ne (Ne.symm nuw), upd_ne (Ne.symm nuf)]
            exact sT _ _ q2
          · rw [upd_ne nwf, upd_same]
          · rw [upd_same, List.map_append]
            rfl
          · refine ⟨List.nodup_append.mpr ⟨q5.nd, by simp, fun a ha b hb e => hn (by rw [← List.mem_singleton.mp hb, ← e]; exact ha)⟩, fun y hy => (List.mem_append.mp hy).elim (q5.sub y) fun h => by rw [List.mem_singleton.mp h]; exact hvV, List.mem_append_left _ q5.st, ?_, fun y hy => ?_, fun y hy z hz hp => ?_, fun y hy hne => ?_⟩
            · show (if s = v then _ else _) = _
              rw [ney s q5.st, q5.l0]
            · show 0 ≤ (if y = v then lev' u + 1 else lev' y)
              have hu0 := q5.nn u huf'
              rcases List.mem_append.mp hy with h | h
              · rw [ney y h]
                exact q5.nn y h
              · rw [if_pos (List.mem_singleton.mp h)]
                omega
            · rw [List.take_append_of_le_length (by omega)] at hy
              exact List.mem_append_left _ (q5.cl y hy z hz hp)
            · show ∃ u_1 ∈ fl' ++ [v], _ ∧ _ ∧ (if y = v then lev' u + 1 else lev' y) = (if u_1 = v then lev' u + 1 else lev' u_1) + 1
              rcases List.mem_append.mp hy with h | h
              · obtain ⟨z, z1, z2, z3, z4⟩ := q5.pd y h hne
                exact ⟨z, List.mem_append_left _ z1, z2, z3, by rw [ney y h, ney z z1, z4]⟩
              · rw [List.mem_singleton.mp h]
                exact ⟨u, List.mem_append_left _ huf', hvn, h1, by rw [if_pos rfl, ney u huf']⟩
          · rw [List.getElem?_append_left hi']
            exact q6
          · intro y hy hp
            rcases tk y hy with h | rfl
            · exact List.mem_append_left _ (q7 y h hp)
            · simp
        · have hn : v ∈ fl' := by
            by_cases h : v ∈ fl'
            · exact h
            · rw [decide_eq_false h] at h2
              exact absurd rfl h2
          exact ⟨fl', lev', _, _, rfl, fun b o b1 b2 b3 b4 => sT _ _ (q1 b o b1 b2 b3 b4), sT _ _ q2, F6, W6, q5, q6, done h1 hn⟩
      · have h1 : ¬ 0 < lf u v := fun z => h1 (decide_eq_true z)
        refine ⟨fl', lev', _, _, rfl, fun b o b1 b2 b3 b4 => sT _ _ (q1 b o b1 b2 b3 b4), sT _ _ q2, F6, W6, q5, q6, fun y hy hp => ?_⟩
        rcases tk y hy with h | rfl
        · exact q7 y h hp
        · exact absurd hp h1
    · rintro σ Hc ⟨fl', lev', x5, x6, rfl, q1, q2, q3, q4, q5, q6, q7⟩
      rw [dct_len, List.take_length] at q7
      have hi' := (List.getElem?_eq_some_iff.mp q6).1
      refine ⟨q2, ?_⟩
      refine ⟨_, rfl, _, _, rfl, rfl, fl', lev', _, _, _, rfl, fun b o hb => ?_, by rw [upd_ne nuf]; exact q3, by rw [upd_ne nuw]; exact q4, ⟨q5.nd, q5.sub, q5.st, q5.l0, q5.nn, fun y hy z hz hp => ?_, q5.pd⟩, by omega⟩
      · by_cases e : b = ad u
        · subst e
          rw [upd_same, ← hb, R.row u huV]
        · rw [upd_ne e]
          exact q1 b o (s3 _ _ hb) e (ne_of_none hb nwH) (ne_of_none hb nfo)
      · rw [takeS q6] at hy
        rcases List.mem_append.mp hy with h | h
        · exact q5.cl y h z hz hp
        · rw [List.mem_singleton.mp h] at hz hp
          exact q7 z hz hp
  · have hb : ¬ (i : Int) < (fl.length : Int) := fun z => hb (decide_eq_true z)
    have ei : i = fl.length := by omega
    subst ei
    refine ⟨_, rfl, [(fo, .dK (dct fl fun v => .int (lev v)))], tFz_intro (fun p hp' => ?_) (by simp) fun H4 z1 z2 => ?_⟩
    · rw [List.mem_singleton.mp hp']
      exact ⟨F3, trivial⟩
    · obtain ⟨o, ho⟩ := z1 _ List.mem_cons_self
      refine k fo o fl lev H4 (fun b o hb => ?_) nfo ho L
      rw [z2 b fun hm => ?_]
      · exact s3 _ _ hb
      · exact ne_of_none hb nfo (List.mem_singleton.mp hm)
end
end Wk
namespace WkP
open PySem WkN
inductive Gd (nb : Nb) (lf : Wt) (fl : List Str) (lev : Str → Int) (t : Str) : Str → Prop
  | here : Gd nb lf fl lev t t
  | step {u v : Str} : u ∈ fl → v ∈ nb u → v ∈ fl → lev v = lev u + 1 → 0 < lf u v → Gd nb lf fl lev t v → Gd nb lf fl lev t u
theorem Lvl.good {Vs : List Str} {nb : Nb} {lf : Wt} {s t : Str} {fl : List Str} {lev : Str → Int} {i : Nat} (L : Lvl Vs nb lf s fl lev i) (ht : t ∈ fl) : Gd nb lf fl lev t s := by
  have key : ∀ (n : Nat) (v : Str), v ∈ fl → (lev v).toNat = n → Gd nb lf fl lev t v → Gd nb lf fl lev t s := by
    intro n
    induction n using Nat.strongRecOn with
    | ind n ih =>
      intro v hv hn g
      by_cases e : v = s
      · rw [← e]
        exact g
      · obtain ⟨u, hu, hvn, hp, hl⟩ := L.pd v hv e
        have h0 := L.nn u hu
        exact ih (lev u).toNat (by omega) u hu rfl (.step hu hvn hv hl hp g)
  exact key _ t ht rfl .here
structure Adv (nb : Nb) (lf : Wt) (fl : List Str) (lev : Str → Int) (s t : Str) (ch : Str → List Str) (pth : List Str) (moved : Int) : Prop where
  chs : ∀ u ∈ fl, ∀ v ∈ ch u, v ∈ nb u ∧ v ∈ fl ∧ lev v = lev u + 1
  pin : ∀ u ∈ pth, u ∈ fl
  hd : pth ≠ [] → pth.head? = some s
  lv : ∀ (i : Nat) u, pth[i]? = some u → lev u = i
  ar : ∀ (i : Nat) u v, pth[i]? = some u → pth[i + 1]? = some v → (ch u).getLast? = some v ∧ 0 < lf u v
  gs : moved = 0 → Gd nb lf fl lev t s
  gd : moved = 0 → ∀ u ∈ fl, Gd nb lf fl lev t u → u ≠ t → ∃ v ∈ ch u, Gd nb lf fl lev t v ∧ 0 < lf u v
  em : pth = [] → 0 < moved
  tn : ∀ (i : Nat) u v, pth[i]? = some u → pth[i + 1]? = some v → u ≠ t
  mv : 0 ≤ moved
def ch0 (nb : Nb) (fl : List Str) (lev : Str → Int) (u : Str) : List Str := (nb u).filter fun v => decide (v ∈ fl ∧ lev v = lev u + 1)
section
variable {Vs : List Str} {nb : Nb} {lf : Wt} {fl : List Str} {lev : Str → Int} {s t : Str} {ch : Str → List Str} {pth : List Str} {moved : Int}
theorem Adv.start {i : Nat} (L : Lvl Vs nb lf s fl lev i) (ht : t ∈ fl) : Adv nb lf fl lev s t (ch0 nb fl lev) [s] 0 := by
  refine ⟨fun u hu v hv => ?_, fun u hu => by rw [List.mem_singleton.mp hu]; exact L.st, fun _ => rfl, fun i u h => ?_, fun i u v h k => ?_, fun _ => L.good ht, fun _ u hu g hne => ?_, (fun z => by simp at z), fun i u v h k => ?_, Int.le_refl _⟩
  · have := List.mem_filter.mp hv
    have h2 := of_decide_eq_true this.2
    exact ⟨this.1, h2.1, h2.2⟩
  · cases i with
    | zero =>
      have : s = u := by simpa using h
      rw [← this, L.l0]
      rfl
    | succ i => simp at h
  · cases i with
    | zero => simp at k
    | succ i => simp at h
  · cases g with
    | here => exact absurd rfl hne
    | step h1 h2 h3 h4 h5 h6 => exact ⟨_, List.mem_filter.mpr ⟨h2, decide_eq_true ⟨h3, h4⟩⟩, h6, h5⟩
  · cases i with
    | zero => simp at k
    | succ i => simp at h
theorem Adv.nd (A : Adv nb lf fl lev s t ch pth moved) : pth.Nodup := by
  refine List.pairwise_iff_getElem.mpr fun i j hi hj hij e => ?_
  have h1 := A.lv i _ (List.getElem?_eq_getElem hi)
  have h2 := A.lv j _ (List.getElem?_eq_getElem hj)
  rw [e, h2] at h1
  omega
theorem Adv.len (A : Adv nb lf fl lev s t ch pth moved) : pth.length ≤ fl.length := A.nd.length_le_of_subset fun u hu => A.pin u hu
theorem arcs_idx {l : List Str} {e : Str × Str} (h : e ∈ arcs l) : ∃ i : Nat, l[i]? = some e.1 ∧ l[i + 1]? = some e.2 := by
  obtain ⟨i, hi, he⟩ := List.mem_iff_getElem.mp h
  have h2 : (arcs l)[i]? = some e := by rw [List.getElem?_eq_getElem hi, he]
  unfold arcs at h2
  rw [List.getElem?_zip_eq_some] at h2
  refine ⟨i, h2.1, ?_⟩
  have := h2.2
  rw [List.getElem?_tail] at this
  exact this
theorem Adv.arcs (A : Adv nb lf fl lev s t ch pth moved) {e : Str × Str} (h : e ∈ arcs pth) : e.1 ∈ fl ∧ e.2 ∈ fl ∧ e.2 ∈ nb e.1 ∧ 0 < lf e.1 e.2 := by
  obtain ⟨i, h1, h2⟩ := arcs_idx h
  have h3 := A.ar i _ _ h1 h2
  have hf := A.pin _ (List.mem_of_getElem? h1)
  have h4 := A.chs _ hf e.2 (List.mem_of_getLast? h3.1)
  exact ⟨hf, h4.2.1, h4.1, h3.2⟩
theorem adv_ends (A : Adv nb lf fl lev s t ch pth moved) (l0 : lev s = 0) {e : Str × Str} (h : e ∈ arcs pth) : e.1 ≠ t ∧ e.2 ≠ s := by
  obtain ⟨i, h1, h2⟩ := arcs_idx h
  refine ⟨A.tn i _ _ h1 h2, fun z => ?_⟩
  have h3 := A.lv _ _ h2
  rw [z, l0] at h3
  omega
theorem Adv.move (A : Adv nb lf fl lev s t ch pth moved) (hs : s ∈ fl) (l0 : lev s = 0) {m : Int} (hm : 0 < m) (lf' : Wt) : Adv nb lf' fl lev s t ch [s] (moved + m) := by
  have mv := A.mv
  refine ⟨A.chs, fun u hu => by rw [List.mem_singleton.mp hu]; exact hs, fun _ => rfl, fun i u h => ?_, fun i u v h k => ?_, fun z => by omega, fun z => by omega, (fun z => by simp at z), fun i u v h k => ?_, by omega⟩
  · cases i with
    | zero =>
      have : s = u := by simpa using h
      rw [← this, l0]
      rfl
    | succ i => simp at h
  · cases i with
    | zero => simp at k
    | succ i => simp at h
  · cases i with
    | zero => simp at k
    | succ i => simp at h
def updC (ch : Str → List Str) (z : Str) (l : List Str) : Str → List Str := fun u => if u = z then l else ch u
theorem updC_at (ch : Str → List Str) (z : Str) (l : List Str) : updC ch z l z = l := if_pos rfl
theorem updC_ne {ch : Str → List Str} {z u : Str} {l : List Str} (h : u ≠ z) : updC ch z l u = ch u := if_neg h
theorem at_snoc {p : List Str} {y : Str} {i : Nat} {u : Str} (h : (p ++ [y])[i]? = some u) : (i < p.length ∧ p[i]? = some u) ∨ (i = p.length ∧ u = y) := by
  by_cases hi : i < p.length
  · rw [List.getElem?_append_left hi] at h
    exact .inl ⟨hi, h⟩
  · rw [List.getElem?_append_right (by omega)] at h
    have h1 := (List.getElem?_eq_some_iff.mp h).1
    have h2 : i = p.length := by simp at h1; omega
    subst h2
    refine .inr ⟨rfl, ?_⟩
    simpa using h.symm
theorem Adv.drop {p : List Str} {y v : Str} {c : List Str} (A : Adv nb lf fl lev s t ch (p ++ [y]) moved) (hc : ch y = c ++ [v]) (hv : ¬ 0 < lf y v) : Adv nb lf fl lev s t (updC ch y c) (p ++ [y]) moved := by
  have nd := A.nd
  refine ⟨fun u hu z hz => ?_, A.pin, A.hd, A.lv, fun i u z h k => ?_, A.gs, fun hm u hu g hne => ?_, A.em, A.tn, A.mv⟩
  · by_cases e : u = y
    · subst e
      rw [updC_at] at hz
      exact A.chs u hu z (by rw [hc]; exact List.mem_append_left _ hz)
    · rw [updC_ne e] at hz
      exact A.chs u hu z hz
  · have hu : u ≠ y := fun e => by
      subst e
      rcases at_snoc k with ⟨h1, h2⟩ | ⟨h1, _⟩
      · have h3 : (p ++ [u])[p.length]? = some u := by simp
        have h4 := A.lv _ _ h
        have h5 := A.lv _ _ h3
        omega
      · have h3 : (p ++ [u])[p.length]? = some u := by simp
        have h4 := A.lv _ _ h
        have h5 := A.lv _ _ h3
        omega
    rw [updC_ne hu]
    exact A.ar i u z h k
  · obtain ⟨z, h1, h2, h3⟩ := A.gd hm u hu g hne
    by_cases e : u = y
    · subst e
      rw [updC_at]
      rw [hc] at h1
      rcases List.mem_append.mp h1 with h | h
      · exact ⟨z, h, h2, h3⟩
      · rw [List.mem_singleton.mp h] at h3
        exact absurd h3 hv
    · rw [updC_ne e]
      exact ⟨z, h1, h2, h3⟩
theorem Adv.push {p : List Str} {y v : Str} {c : List Str} (A : Adv nb lf fl lev s t ch (p ++ [y]) moved) (hc : ch y = c ++ [v]) (hv : 0 < lf y v) (hyt : y ≠ t) : Adv nb lf fl lev s t ch ((p ++ [y]) ++ [v]) moved := by
  have hy := A.pin y (by simp)
  have hvc := A.chs y hy v (by rw [hc]; simp)
  refine ⟨A.chs, fun u hu => (List.mem_append.mp hu).elim (A.pin u) fun h => by rw [List.mem_singleton.mp h]; exact hvc.2.1, fun _ => ?_, fun i u h => ?_, fun i u z h k => ?_, A.gs, A.gd, (fun z => by simp at z), fun i u z h k => ?_, A.mv⟩
  · rw [List.head?_append, A.hd (by simp)]
    rfl
  · rcases at_snoc h with ⟨h1, h2⟩ | ⟨h1, h2⟩
    · exact A.lv i u h2
    · have h3 : (p ++ [y])[p.length]? = some y := by simp
      rw [h2, hvc.2.2, A.lv _ _ h3, h1]
      simp
  · rcases at_snoc k with ⟨h1, h2⟩ | ⟨h1, h2⟩
    · rw [List.getElem?_append_left (by omega)] at h
      exact A.ar i u z h h2
    · rw [List.getElem?_append_left (by omega)] at h
      rcases at_snoc h with ⟨h3, h4⟩ | ⟨h3, h4⟩
      · simp at h1
        omega
      · rw [h2, h4, hc]
        exact ⟨by simp, hv⟩
  · rcases at_snoc k with ⟨h1, h2⟩ | ⟨h1, h2⟩
    · rw [List.getElem?_append_left (by omega)] at h
      exact A.tn i u z h h2
    · rw [List.getElem?_append_left (by omega)] at h
      rcases at_snoc h with ⟨h3, h4⟩ | ⟨h3, h4⟩
      · simp at h1
        omega
      · rw [h4]
        exact hyt
theorem Adv.dead (A : Adv nb lf fl lev s t ch (pth) moved) {y : Str} (hy : y ∈ fl) (hc : ch y = []) (ht : y ≠ t) : moved = 0 → ¬ Gd nb lf fl lev t y := fun hm g => by
  obtain ⟨z, h1, _⟩ := A.gd hm y hy g ht
  rw [hc] at h1
  exact nomatch h1
theorem Adv.back0 {y : Str} (A : Adv nb lf fl lev s t ch [y] moved) (hc : ch y = []) (ht : y ≠ t) : Adv nb lf fl lev s t ch [] moved := by
  have hy := A.pin y (by simp)
  have ys : y = s := by simpa using A.hd (by simp)
  refine ⟨A.chs, fun u hu => (by simp at hu), fun z => absurd rfl z, fun i u h => by simp at h, fun i u v h => by simp at h, A.gs, A.gd, fun _ => ?_, fun i u v h => by simp at h, A.mv⟩
  have mv := A.mv
  by_cases hm : moved = 0
  · exact absurd (ys ▸ A.gs hm) (A.dead hy hc ht hm)
  · omega
theorem Adv.back {p : List Str} {z y : Str} (A : Adv nb lf fl lev s t ch ((p ++ [z]) ++ [y]) moved) (hc : ch y = []) (ht : y ≠ t) : ∃ c, ch z = c ++ [y] ∧ Adv nb lf fl lev s t (updC ch z c) (p ++ [z]) moved := by
  have hy := A.pin y (by simp)
  have nd := A.nd
  have e1 : ((p ++ [z]) ++ [y])[p.length]? = some z := by simp
  have e2 : ((p ++ [z]) ++ [y])[p.length + 1]? = some y := by simp
  obtain ⟨hl, hp⟩ := A.ar _ _ _ e1 e2
  obtain ⟨c, ec⟩ : ∃ c, ch z = c ++ [y] := ⟨(ch z).dropLast, by
    have : ch z ≠ [] := fun q => by rw [q] at hl; cases hl
    have h := List.dropLast_concat_getLast this
    rw [List.getLast?_eq_some_getLast this] at hl
    rw [Option.some.inj hl] at h
    exact h.symm⟩
  refine ⟨c, ec, fun u hu v hv => ?_, fun u hu => A.pin u (List.mem_append_left _ hu), fun _ => ?_, fun i u h => ?_, fun i u v h k => ?_, A.gs, fun hm u hu g hne => ?_, (fun z => by simp at z), fun i u v h k => ?_, A.mv⟩
  · by_cases e : u = z
    · subst e
      rw [updC_at] at hv
      exact A.chs u hu v (by rw [ec]; exact List.mem_append_left _ hv)
    · rw [updC_ne e] at hv
      exact A.chs u hu v hv
  · have h := A.hd (by simp)
    rw [List.head?_append] at h
    cases q : (p ++ [z]).head? with
    | none => simp at q
    | some a =>
      rw [q] at h
      exact h
  · have hi := (List.getElem?_eq_some_iff.mp h).1
    exact A.lv i u (by rw [List.getElem?_append_left hi]; exact h)
  · have hi := (List.getElem?_eq_some_iff.mp k).1
    have h' : ((p ++ [z]) ++ [y])[i]? = some u := by rw [List.getElem?_append_left (by omega)]; exact h
    have k' : ((p ++ [z]) ++ [y])[i + 1]? = some v := by rw [List.getElem?_append_left hi]; exact k
    have hu : u ≠ z := fun e => by
      subst e
      have h4 := A.lv _ _ h'
      have h5 := A.lv _ _ e1
      simp at hi
      omega
    rw [updC_ne hu]
    exact A.ar i u v h' k'
  · obtain ⟨v, h1, h2, h3⟩ := A.gd hm u hu g hne
    by_cases e : u = z
    · subst e
      rw [updC_at]
      rw [ec] at h1
      rcases List.mem_append.mp h1 with h | h
      · exact ⟨v, h, h2, h3⟩
      · rw [List.mem_singleton.mp h] at h2
        exact absurd h2 (A.dead hy hc ht hm)
    · rw [updC_ne e]
      exact ⟨v, h1, h2, h3⟩
  · have hi := (List.getElem?_eq_some_iff.mp k).1
    have h' : ((p ++ [z]) ++ [y])[i]? = some u := by rw [List.getElem?_append_left (by omega)]; exact h
    have k' : ((p ++ [z]) ++ [y])[i + 1]? = some v := by rw [List.getElem?_append_left hi]; exact k
    exact A.tn i u v h' k'
def tot (ch : Str → List Str) : List Str → Nat
  | [] => 0
  | u :: l => (ch u).length + tot ch l
theorem tot_ne {z : Str} {c : List Str} : ∀ {l : List Str}, z ∉ l → tot (updC ch z c) l = tot ch l
  | [], _ => rfl
  | u :: l, h => by
    unfold tot
    rw [updC_ne (fun e => h (by rw [e]; exact List.mem_cons_self)), tot_ne fun q => h (List.mem_cons_of_mem _ q)]
theorem tot_drop {z v : Str} {c : List Str} (hc : ch z = c ++ [v]) : ∀ {l : List Str}, l.Nodup → z ∈ l → tot (updC ch z c) l + 1 = tot ch l
  | [], _, h => nomatch h
  | u :: l, nd, h => by
    rw [List.nodup_cons] at nd
    unfold tot
    by_cases e : u = z
    · subst e
      rw [updC_at, tot_ne nd.1, hc, List.length_append, List.length_singleton]
      omega
    · have := tot_drop hc nd.2 ((List.mem_cons.mp h).resolve_left fun q => e q.symm)
      rw [updC_ne e]
      omega
def meas (most : Int) (fl : List Str) (ch : Str → List Str) (pth : List Str) (moved : Int) : Nat := ((most - moved).toNat + tot ch fl) * (fl.length + 2) + (if pth = [] then 0 else fl.length + 1 - pth.length)
theorem meas_lt1 {most : Int} {ch' : Str → List Str} {p p' : List Str} {moved' : Int} (h : (most - moved').toNat + tot ch' fl < (most - moved).toNat + tot ch fl) : meas most fl ch' p' moved' < meas most fl ch p moved := by
  unfold meas
  have h1 : ((most - moved').toNat + tot ch' fl + 1) * (fl.length + 2) ≤ ((most - moved).toNat + tot ch fl) * (fl.length + 2) := Nat.mul_le_mul_right _ h
  rw [Nat.add_mul] at h1
  have h2 : (if p' = [] then 0 else fl.length + 1 - p'.length) ≤ fl.length + 1 := by split <;> omega
  have h3 : 0 ≤ (if p = [] then 0 else fl.length + 1 - p.length) := Nat.zero_le _
  omega
end
end WkP
namespace WkP
open PySem WkN
theorem Lvl.sub2 {Vs : List Str} {nb : Nb} {lf : Wt} {s : Str} {fl fl' : List Str} {lev lev' : Str → Int} {i : Nat} (L : Lvl Vs nb lf s fl lev fl.length) (L' : Lvl Vs nb lf s fl' lev' i) : ∀ v ∈ fl', v ∈ fl := by
  have key : ∀ (n : Nat) (v : Str), v ∈ fl' → (lev' v).toNat = n → v ∈ fl := by
    intro n
    induction n using Nat.strongRecOn with
    | ind n ih =>
      intro v hv hn
      by_cases e : v = s
      · rw [e]
        exact L.st
      · obtain ⟨u, hu, hvn, hp, hl⟩ := L'.pd v hv e
        have h0 := L'.nn u hu
        exact L.cl u (by rw [List.take_length]; exact ih (lev' u).toNat (by omega) u hu rfl) v hvn hp
  exact fun v hv => key _ v hv rfl
theorem sm_zero_of {l : List Str} {f : Str → Int} (h : ∀ x ∈ l, 0 ≤ f x) (e : sm l f = 0) : ∀ x ∈ l, f x = 0 := by
  induction l with
  | nil => exact fun x hx => nomatch hx
  | cons a l ih =>
    rw [sm_cons] at e
    have h1 := h a List.mem_cons_self
    have h2 := sm_nonneg fun x hx => h x (List.mem_cons_of_mem _ hx)
    intro x hx
    rcases List.mem_cons.mp hx with rfl | hx
    · omega
    · exact ih (fun x hx => h x (List.mem_cons_of_mem _ hx)) (by omega) x hx
theorem Resid.full {Vs : List Str} {nb : Nb} {wt lf : Wt} {s t : Str} {n : Int} (R : Resid Vs (vl0 nb wt) s t n (vl0 nb lf)) (cl : ∀ v ∈ nb s, v ∈ Vs) (hs : s ∈ Vs) (st : s ≠ t) (hn : n = sm Vs fun v => vl0 nb wt s v) {fl : List Str} {lev : Str → Int} {i : Nat} (L : Lvl Vs nb lf s fl lev i) : t ∉ fl := by
  have e0 : (sm Vs fun v => vl0 nb lf s v) = 0 := by
    have h := R.src
    have e : (sm Vs fun v => vl0 nb wt s v) = (sm Vs fun v => vl0 nb wt s v - vl0 nb lf s v) + sm Vs fun v => vl0 nb lf s v := by
      rw [← sm_add]
      exact sm_congr fun v _ => by omega
    omega
  have z := sm_zero_of (fun v hv => R.nn s hs v hv) e0
  have key : ∀ (n : Nat) (v : Str), v ∈ fl → (lev v).toNat = n → v = s := by
    intro n
    induction n using Nat.strongRecOn with
    | ind n ih =>
      intro v hv hn
      by_cases e : v = s
      · exact e
      · obtain ⟨u, hu, hvn, hp, hl⟩ := L.pd v hv e
        have h0 := L.nn u hu
        have eu := ih (lev u).toNat (by omega) u hu rfl
        subst eu
        have := z v (cl v hvn)
        unfold vl0 at this
        rw [if_pos hvn] at this
        omega
  exact fun h => st (key _ t h rfl).symm
end WkP
namespace Wk
open PySem PySem.Spec PyProof.Rows L2 WkD WkN LamX WkP WkE WkC
theorem vl0_push {nb : Nb} {lf : Wt} {m : Int} : ∀ (l : List (Str × Str)) , (∀ e ∈ l, e.2 ∈ nb e.1 ∧ e.1 ∈ nb e.2) → ∀ lf : Wt, vl0 nb (pushA lf m l) = pushA (vl0 nb lf) m l
  | [], _, _ => rfl
  | e :: l, h, lf => by
    show vl0 nb (pushA (push1 lf e.1 e.2 m) m l) = pushA (push1 (vl0 nb lf) e.1 e.2 m) m l
    rw [vl0_push (lf := lf) l (fun f hf => h f (List.mem_cons_of_mem _ hf))]
    congr 1
    obtain ⟨h1, h2⟩ := h e List.mem_cons_self
    funext x y
    unfold vl0 push1
    grind
structure AH (H : Hp) (la ca : Addr) (Vs : List Str) (ad : Str → Addr) (nb : Nb) (fl : List Str) (cad : Str → Addr) (lf : Wt) (ch : Str → List Str) (pl : Addr) (pth : List Str) (Hc : Hp) : Prop where
  fr : FrR Vs ad H Hc
  rows : RowsM Hc la Vs ad nb lf
  top : Hc ca = some (.dK (dct fl fun u => .ref (cad u)))
  lst : ∀ u ∈ fl, Hc (cad u) = some (.lst ((ch u).map V.str))
  pth : Hc pl = some (.lst (pth.map V.str))
  npl : ∀ u ∈ fl, pl ≠ cad u
  pn : H pl = none
  inj : ∀ u ∈ fl, ∀ v ∈ fl, cad u = cad v → u = v
  cn : ∀ u ∈ fl, H (cad u) = none
section
variable {H Hc H' : Hp} {la ca pl : Addr} {Vs : List Str} {ad : Str → Addr} {nb : Nb} {fl : List Str} {cad : Str → Addr} {lf : Wt} {ch : Str → List Str} {pth : List Str}
theorem AH.same (h : AH H la ca Vs ad nb fl cad lf ch pl pth Hc) (e : Same Hc H') : AH H la ca Vs ad nb fl cad lf ch pl pth H' := ⟨fun b o hb hn => e _ _ (h.fr b o hb hn), h.rows.ext (Ext.of e), e _ _ h.top, fun u hu => e _ _ (h.lst u hu), e _ _ h.pth, h.npl, h.pn, h.inj, h.cn⟩
theorem rows_lst {lf : Wt} {L : Addr} {xs ys : List V} (R : RowsM Hc la Vs ad nb lf) (hL : Hc L = some (.lst xs)) : RowsM (upd Hc L (.lst ys)) la Vs ad nb lf := ⟨by rw [upd_ne (ne_of R.top hL (by intro z; cases z))]; exact R.top, fun u hu => by rw [upd_ne (ne_of (R.row u hu) hL (by intro z; cases z))]; exact R.row u hu, R.inj, R.nd⟩
theorem AH.setp (h : AH H la ca Vs ad nb fl cad lf ch pl pth Hc) (pth' : List Str) : AH H la ca Vs ad nb fl cad lf ch pl pth' (upd Hc pl (.lst (pth'.map V.str))) := ⟨fun b o hb hn => by rw [upd_ne (ne_of_none hb h.pn)]; exact h.fr b o hb hn, rows_lst h.rows h.pth, by rw [upd_ne (ne_of h.top h.pth (by intro z; cases z))]; exact h.top, fun u hu => by rw [upd_ne (Ne.symm (h.npl u hu))]; exact h.lst u hu, upd_same, h.npl, h.pn, h.inj, h.cn⟩
theorem AH.setc (h : AH H la ca Vs ad nb fl cad lf ch pl pth Hc) {z : Str} (hz : z ∈ fl) (c : List Str) : AH H la ca Vs ad nb fl cad lf (updC ch z c) pl pth (upd Hc (cad z) (.lst (c.map V.str))) := by
  refine ⟨fun b o hb hn => by rw [upd_ne (ne_of_none hb (h.cn z hz))]; exact h.fr b o hb hn, rows_lst h.rows (h.lst z hz), by rw [upd_ne (ne_of h.top (h.lst z hz) (by intro z; cases z))]; exact h.top, fun u hu => ?_, by rw [upd_ne (h.npl z hz)]; exact h.pth, h.npl, h.pn, h.inj, h.cn⟩
  by_cases e : u = z
  · subst e
    rw [updC_at, upd_same]
  · rw [updC_ne e, upd_ne (fun q => e (h.inj u hu z hz q))]
    exact h.lst u hu
theorem AH.newp (h : AH H la ca Vs ad nb fl cad lf ch pl pth Hc) {q : Addr} {p' : List Str} (e : Same Hc H') (hq : Hc q = none) (hp : H' q = some (.lst (p'.map V.str))) (nH : H q = none) : AH H la ca Vs ad nb fl cad lf ch q p' H' := by
  have z := h.same e
  exact ⟨z.fr, z.rows, z.top, z.lst, hp, fun u hu => Ne.symm (ne_of_none (h.lst u hu) hq), nH, z.inj, z.cn⟩
end
theorem RSc_nd {H : Hp} {a : Addr} {Vs : List Str} {ad : Str → Addr} {nb : Nb} {wt : Wt} (R : RowsM H a Vs ad nb wt) : Vs.Nodup := R.nd
section
variable {P : Program} {w : World} {K : PySem.W.Frag} {mg : Str → Option Value} {base : Heap}
def spAdv (K : PySem.W.Frag) : Sp := fun vs H Q _ => ∃ (x S dx a la lp : Addr) (s t : Str) (Vs fl : List Str) (lev : Str → Int) (ol : Obj) (ad : Str → Addr) (nb : Nb) (lf : Wt) (wf : Wf) (n most : Int), vs = [.ref x, .ref lp, .int most] ∧ H x = some (.ins S dx (seaF a la s t)) ∧ SCls K S ∧ RowsM H la Vs ad nb lf ∧ (∀ u ∈ Vs, (nb u).length < 1000) ∧ (∀ u ∈ Vs, ∀ v ∈ nb u, v ∈ Vs ∧ u ∈ nb v) ∧ Vs.length < 1000 ∧ s ≠ t ∧
  H lp = some (.frz ol (.dK (dct fl fun v => .int (lev v)))) ∧ Lvl Vs nb lf s fl lev fl.length ∧ t ∈ fl ∧ 0 < most ∧ Resid Vs wf s t n (vl0 nb lf) ∧ Clean Vs wf (vl0 nb lf) s t ∧
  ∀ m lf' H', 0 < m → m ≤ most → FrR Vs ad H H' → RowsM H' la Vs ad nb lf' → Resid Vs wf s t (n + m) (vl0 nb lf') → Clean Vs wf (vl0 nb lf') s t → Q (.int m) H'
theorem sc_sea_advance : FnScope ["self", "levels", "most", "choices", "v", "u", "moved", "path", "here"] ["self", "levels", "most"] (defScope s_Search_advance) := ⟨rfl, rfl, rfl, by decide +kernel, rfl, by decide +kernel, by decide +kernel⟩
theorem ok_sea_advance {f S0 : Addr} {fd : FuncData} (B : Bi mg) (SC : SCls K S0) (F : FnP K "advance" "Search.advance" s_Search_advance f fd) (MM : MethC P w K mg base CX0 S0 "move" 1 (spMove K)) : FnOk P w K mg base CX0 2 f fd ["self", "levels", "most"] (fun vs H Q E => spAdv K vs H Q E ∧ ∃ x dx fs, vs.head? = some (.ref x) ∧ H x = some (.ins S0 dx fs)) := by
  refine F.ok sc_sea_advance (fun vs H Q E h => ?_) (fun cdv A outer s H vs Q E hr h => ?_)
  · obtain ⟨⟨x, S, dx, a, la, lp, s, t, Vs, fl, lev, ol, ad, nb, lf, wf, n, most, rfl, _⟩, _⟩ := h
    rfl
  have nd := sc_sea_advance.nd
  have hu := hu_of hr
  have hr1 : Room 1 _ := hr
  refine ⟨_, PSs.nox (pss_cons (WkV.ps_setDc (i := 3) (own := [("u", 5)]) (by rfl) nd rfl rfl (WkV.sw_trueD rfl rfl rfl (by decide +kernel)) (pi_keys (pv 1)) (blkOk_by (by kernel_rfl)) (fun _ _ _ _ _ => (pg_name (i := 5) nd rfl (Or.inr rfl))) (fun _ _ _ _ _ => pts_nil) (fun _ _ _ _ _ => (pv 5)) (fun _ _ _ _ _ => (pe_lock (pe_lc (own := [("v", 4)]) (by rfl) nd (pi_keys (pe_dget hu (WkK.peFld K (by rfl) (pv 0) rfl) (pv 5) (fun _ _ => rfl))) (blkOk_by (by kernel_rfl)) (fun _ _ _ _ _ => (pg_name (i := 4) nd rfl (Or.inl rfl))) (fun _ _ _ _ _ => (pts_one (pt_cmpR op_eq (pe_dget1 hu (pv 1) (pv 4) ⟨rfl, rfl, rfl, rfl⟩) (pe_op op_add (pe_dget hu (pv 1) (pv 5) (fun _ _ => rfl)) pe_int) (nomark _)))) (fun _ _ _ _ _ => (pv 4))))))
      (pss_cons (ps_par (i := 6) (j := 7) (by rfl) nd rfl rfl (by decide) rfl rfl (pa_cons pe_int (pa_cons (pe_lst (pa_cons (pe_fld (pv 0) rfl) pa_nil)) pa_nil)) (by rfl))
      (pss_cons (ps_while PassesOwn.never (PW.pt (pw_and (pt_cmpR op_lt (pv 6) (pv 2) (nomark _)) (pw_and1 (pt_cmpR (WkG.op_neNil hr.units) (pv 7) (pe_lst pa_nil) (nomark _)))))
      (pss_cons (ps_set (i := 8) nd rfl (Or.inl rfl) (pe_ix ix_list (pv 7) (pe_un un_neg pe_int) (fun _ _ => rfl)))
      (pss_one (ps_if (pt_cmpR op_eq (pv 8) (pe_fld (pv 0) rfl) (nomark _))
      (pss_cons (ps_aug (i := 6) nd rfl (Or.inl rfl) (WkC.pe_mt MM SC.cls hr1 pass0 (pv 0) (pa_cons (pv 7) (pa_cons (pe_op op_sub (pv 2) (pv 6)) pa_nil))) ip_add)
      (pss_one (ps_set (i := 7) nd rfl (Or.inl rfl) (pe_lst (pa_cons (pe_fld (pv 0) rfl) pa_nil))))) (pss_one (ps_if (pt_cmpR (WkG.op_eqNil hr.units) (pe_dget hu (pv 3) (pv 8) (fun _ _ => rfl)) (pe_lst pa_nil) (nomark _))
      (pss_cons (ps_expr (pe_bm0 PySem.F.plainAttrs_list PySem.F.slot_list_pop PySem.F.type_list_pop mt_pop (pv 7)))
      (pss_one (ps_if (pt_cmpR (WkG.op_neNil hr.units) (pv 7) (pe_lst pa_nil) (nomark _))
      (pss_one (ps_expr (pe_bm0 PySem.F.plainAttrs_list PySem.F.slot_list_pop PySem.F.type_list_pop mt_pop (pe_dget hu (pv 3) (pe_ix ix_list (pv 7) (pe_un un_neg pe_int) (fun _ _ => rfl)) (fun _ _ => rfl))))) pss_nil))) (pss_one (ps_if (pt_cmpR op_gt (pe_dget hu (pe_dget hu (WkK.peFld K (by rfl) (pv 0) rfl) (pv 8) (fun _ _ => rfl)) (pe_ix ix_list (pe_dget hu (pv 3) (pv 8) (fun _ _ => rfl)) (pe_un un_neg pe_int) (fun _ _ => rfl)) (fun _ _ => rfl)) pe_int (nomark _))
      (pss_one (ps_expr (pe_bm PySem.F.plainAttrs_list PySem.F.slot_list_append PySem.F.type_list_append mt_append (pv 7) (pa_cons (pe_ix ix_list (pe_dget hu (pv 3) (pv 8) (fun _ _ => rfl)) (pe_un un_neg pe_int) (fun _ _ => rfl)) pa_nil)))) (pss_one (ps_expr (pe_bm0 PySem.F.plainAttrs_list PySem.F.slot_list_pop PySem.F.type_list_pop mt_pop (pe_dget hu (pv 3) (pv 8) (fun _ _ => rfl)))))))))))))
      (pss_one (ps_ret (pv 6)))))), ?_⟩
  obtain ⟨⟨x, S, dx, a, la, lp, s, t, Vs, fl, lev, ol, ad, nb, lf, wf, n, most, rfl, hx, SC', R, hnl, syn, hVl, st, hlp, L, ht, hm, RS, CL, k⟩, x', dx', fs', ex, hx'⟩ := h
  cases ex
  have eS : S = S0 := by
    rw [hx] at hx'
    cases hx'
    rfl
  subst eS
  have big : 1000 < sizeLine := by decide
  have flV : fl.length ≤ Vs.length := L.nd.length_le_of_subset fun u hu => L.sub u hu
  -- the choices
  refine ⟨_, rfl, lp, ol, rfl, .inl ⟨_, hlp, fun ca nca => ?_⟩⟩
  refine dc_it (walk_keys (kvs := dct fl fun v => .int (lev v))) (fun i H2 => ∃ cad : Str → Addr, H2 ca = some (.dK (dct (fl.take i) fun u => .ref (cad u))) ∧ But ca H H2 ∧ (∀ u ∈ fl.take i, H (cad u) = none ∧ H2 (cad u) = some (.lst ((ch0 nb fl lev u).map V.str))) ∧ ∀ u ∈ fl.take i, ∀ v ∈ fl.take i, cad u = cad v → u = v)
    ⟨ad, upd_same, fun b o hb hne => by rw [upd_ne hne]; exact hb, fun u hu => absurd hu (by simp), fun u hu => absurd hu (by simp)⟩ ?_ ?_ ?_
  · rintro i H2 hi ⟨cad, q1, q2, q3, q4⟩
    exact q2 _ _ hlp (ne_of_none hlp nca)
  · rintro i y H2 H2' hi ⟨cad, q1, q2, q3, q4⟩ ⟨rfl, k0, v0, hk, rfl⟩
    rw [dct_len] at hi
    rw [dct_at, List.getElem?_eq_getElem hi] at hk
    cases hk
    obtain ⟨u, eu⟩ : ∃ u, u = fl[i] := ⟨_, rfl⟩
    have huf : u ∈ fl := eu ▸ List.getElem_mem hi
    have huV := L.sub u huf
    have hnu : u ∉ fl.take i := by rw [eu]; exact take_nin L.nd hi
    have tk := takeS (List.getElem?_eq_getElem hi)
    rw [← eu] at tk ⊢
    refine ⟨rfl, tYes_if ?_⟩
    have nH : ∀ b o, H b = some o → b ≠ ca := fun b o hb => ne_of_none hb nca
    have row2 := q2 _ _ (R.row u huV) (nH _ _ (R.row u huV))
    refine ⟨_, rfl, ad u, _, row2, trivial, fun od => ?_⟩
    have Z3 : upd H2' (ad u) (.frz od (.dK (dct (nb u) fun v => .int (lf u v)))) (ad u) = some (.frz od (.dK (dct (nb u) fun v => .int (lf u v)))) := upd_same
    have k3 : ∀ b o, H2' b = some o → b ≠ ad u → upd H2' (ad u) (.frz od (.dK (dct (nb u) fun v => .int (lf u v)))) b = some o := fun b o hb hne => by
      rw [upd_ne hne]
      exact hb
    have u3 : ∀ b, b ≠ ad u → upd H2' (ad u) (.frz od (.dK (dct (nb u) fun v => .int (lf u v)))) b = H2' b := fun b hne => upd_ne hne
    generalize upd H2' (ad u) (.frz od (.dK (dct (nb u) fun v => .int (lf u v)))) = H3 at Z3 k3 u3
    have nla := R.ne huV
    have nlp : lp ≠ ad u := ne_of hlp (R.row u huV) (by intro z; cases z)
    have nxu : x ≠ ad u := ne_of hx (R.row u huV) (by intro z; cases z)
    have top3 := k3 _ _ (q2 _ _ R.top (nH _ _ R.top)) (Ne.symm nla)
    have lp3 := k3 _ _ (q2 _ _ hlp (nH _ _ hlp)) nlp
    have hx3 := k3 _ _ (q2 _ _ hx (nH _ _ hx)) nxu
    refine ⟨_, rfl, x, S, dx, _, _, rfl, hx3, SC.cls, SC.nl, rfl, _, rfl, la, _, rfl, get_d (.inl top3) huV, ad u, od, rfl, .inl ⟨_, Z3, fun D nD => ?_⟩⟩
    refine lc_it (walk_keys (kvs := dct (nb u) fun v => .int (lf u v))) (fun j H4 => H4 = upd H3 D (.lst ((((nb u).take j).filter fun v => decide (v ∈ fl ∧ lev v = lev u + 1)).map V.str))) rfl ?_ ?_ ?_
    · rintro j H4 hj rfl
      rw [upd_ne (ne_of_none Z3 nD)]
      exact Z3
    · rintro j y H4 H4' hj rfl ⟨rfl, k0, v0, hk, rfl⟩
      rw [dct_len] at hj
      rw [dct_at, List.getElem?_eq_getElem hj] at hk
      cases hk
      obtain ⟨v, ev⟩ : ∃ v, v = (nb u)[j] := ⟨_, rfl⟩
      have tk2 := takeS (List.getElem?_eq_getElem hj)
      rw [← ev] at tk2 ⊢
      have lp4 : ∀ o, upd H3 D o lp = some (.frz ol (.dK (dct fl fun v => .int (lev v)))) := fun o => by
        rw [upd_ne (ne_of_none lp3 nD)]
        exact lp3
      refine ⟨rfl, _, rfl, lp, rfl, ?_, _, rfl, _, get_x (.inr ⟨_, lp4 _⟩), _, rfl, _, rfl, lp, _, rfl, get_d (.inr ⟨_, lp4 _⟩) huf, _, _, rfl, rfl, ?_⟩
      · exact .inl ⟨_, .inr ⟨_, lp4 _⟩⟩
      have eb : ((if v ∈ fl then some (V.int (lev v)) else none).getD .non = V.int (lev u + 1)) ↔ (v ∈ fl ∧ lev v = lev u + 1) := by
        by_cases h : v ∈ fl
        · rw [if_pos h]
          constructor
          · intro e
            exact ⟨h, V.int.inj e⟩
          · intro e
            rw [e.2]
            rfl
        · rw [if_neg h]
          constructor
          · intro e
            cases e
          · intro e
            exact absurd e.1 h
      refine ⟨?_, _, rfl, ?_⟩
      · by_cases h : v ∈ fl
        · rw [if_pos h]
          rfl
        · rw [if_neg h]
          rfl
      have ft : ((nb u).take (j + 1)).filter (fun v => decide (v ∈ fl ∧ lev v = lev u + 1)) = ((nb u).take j).filter (fun v => decide (v ∈ fl ∧ lev v = lev u + 1)) ++ (if v ∈ fl ∧ lev v = lev u + 1 then [v] else []) := by
        rw [tk2, List.filter_append]
        congr 1
        by_cases h : v ∈ fl ∧ lev v = lev u + 1
        · rw [if_pos h]
          simp [h]
        · rw [if_neg h]
          simp [h]
      rw [ft]
      refine ite2 (fun hb => ?_) (fun hb => ?_)
      · have hb := eb.mp (of_decide_eq_true hb)
        rw [if_pos hb]
        refine ⟨_, rfl, _, upd_same, ?_, ?_⟩
        · rw [List.length_map]
          have h1 := List.length_filter_le (fun v => decide (v ∈ fl ∧ lev v = lev u + 1)) ((nb u).take j)
          have h2 := List.length_take_le j (nb u)
          have h3 := hnl u huV
          have h4 := List.length_take_le' j (nb u)
          omega
        · rw [upd_upd, List.map_append]
          rfl
      · have hb : ¬ (v ∈ fl ∧ lev v = lev u + 1) := fun z => hb (decide_eq_true (eb.mpr z))
        rw [if_neg hb, List.append_nil]
    · rintro H4 rfl
      rw [dct_len, List.take_length]
      have nca_u : ca ≠ ad u := Ne.symm (ne_of_none (R.row u huV) nca)
      have nDu : D ≠ ad u := fun z => by
        rw [z, Z3] at nD
        cases nD
      have n2D : H2' D = none := by
        rw [← u3 D nDu]
        exact nD
      have nDc : ca ≠ D := fun z => by
        rw [← z, q1] at n2D
        cases n2D
      have nHD : H D = none := by
        cases e : H D with
        | none => rfl
        | some o =>
          rw [q2 _ _ e (Ne.symm nDc)] at n2D
          cases n2D
      obtain ⟨Lst, eLst⟩ : ∃ Lst, Lst = ch0 nb fl lev u := ⟨_, rfl⟩
      have eL2 : (List.filter (fun v => decide (v ∈ fl ∧ lev v = lev u + 1)) (nb u)) = Lst := by rw [eLst]; rfl
      rw [eL2]
      refine ⟨by rw [upd_ne (Ne.symm nDu)]; exact Z3, ?_⟩
      have s5 : Same H2' (upd (upd H3 D (.lst (Lst.map V.str))) (ad u) (.dK (dct (nb u) fun v => .int (lf u v)))) := fun b o hb => by
        by_cases e : b = ad u
        · rw [e, upd_same, ← hb, e]
          exact row2.symm
        · rw [upd_ne e, upd_ne (ne_of_none hb n2D)]
          exact k3 _ _ hb e
      have D5 : upd (upd H3 D (.lst (Lst.map V.str))) (ad u) (.dK (dct (nb u) fun v => .int (lf u v))) D = some (.lst (Lst.map V.str)) := by
        rw [upd_ne nDu, upd_same]
      generalize upd (upd H3 D (.lst (Lst.map V.str))) (ad u) (.dK (dct (nb u) fun v => .int (lf u v))) = H5 at s5 D5
      have tl : (fl.take i).length ≤ fl.length := List.length_take_le' _ _
      refine ⟨_, Sum.inr u, rfl, s5 _ _ q1, by rw [dct_len]; omega, fun y => if y = u then D else cad y, ?_⟩
      rw [dct_put_new hnu, tk]
      have e1 : dct (fl.take i ++ [u]) (fun y => if y = u then V.ref D else V.ref (cad y)) = dct (fl.take i ++ [u]) fun y => V.ref (if y = u then D else cad y) := dct_congr fun y _ => by split <;> rfl
      rw [e1]
      have mm : ∀ y, y ∈ fl.take i ++ [u] → (y = u ∧ (if y = u then D else cad y) = D) ∨ (y ∈ fl.take i ∧ y ≠ u ∧ (if y = u then D else cad y) = cad y) := fun y hy => by
        by_cases e : y = u
        · exact .inl ⟨e, if_pos e⟩
        · rcases List.mem_append.mp hy with h | h
          · exact .inr ⟨h, e, if_neg e⟩
          · exact absurd (List.mem_singleton.mp h) e
      refine ⟨upd_same, fun b o hb hne => by rw [upd_ne hne]; exact s5 _ _ (q2 _ _ hb hne), fun y hy => ?_, fun y hy z hz e => ?_⟩
      · show H (if y = u then D else cad y) = none ∧ upd H5 ca _ (if y = u then D else cad y) = _
        rcases mm y hy with ⟨h1, h2⟩ | ⟨h1, h2, h3⟩
        · rw [h2, upd_ne (Ne.symm nDc), D5, eLst, h1]
          exact ⟨nHD, rfl⟩
        · obtain ⟨g1, g2⟩ := q3 y h1
          rw [h3, upd_ne (fun z => by rw [z, q1] at g2; cases g2)]
          exact ⟨g1, s5 _ _ g2⟩
      · have e : (if y = u then D else cad y) = (if z = u then D else cad z) := e
        rcases mm y hy with ⟨h1, h2⟩ | ⟨h1, h2, h3⟩
        · rcases mm z hz with ⟨g1, g2⟩ | ⟨g1, g2, g3⟩
          · rw [h1, g1]
          · rw [h2, g3] at e
            have := (q3 z g1).2
            rw [← e, n2D] at this
            cases this
        · rcases mm z hz with ⟨g1, g2⟩ | ⟨g1, g2, g3⟩
          · rw [h3, g2] at e
            have := (q3 y h1).2
            rw [e, n2D] at this
            cases this
          · rw [h3, g3] at e
            exact q4 y h1 z g1 e
  rintro H2 ⟨cad, q1, q2, q3, q4⟩
  rw [dct_len, List.take_length] at q1 q3 q4
  have s2 : Same H H2 := fun b o hb => q2 _ _ hb (ne_of_none hb nca)
  refine ⟨_, rfl, x, S, dx, _, _, rfl, s2 _ _ hx, SC.cls, SC.ns, rfl, by show 1 ≤ sizeLine; decide, fun pl npl => ⟨_, _, rfl, ?_⟩⟩
  have s3 : Same H2 (upd H2 pl (.lst [.str s])) := same_upd npl
  have P3 : upd H2 pl (.lst [.str s]) pl = some (.lst ([s].map V.str)) := upd_same
  generalize upd H2 pl (.lst [.str s]) = H3 at s3 P3
  have npH : H pl = none := np_of s2 npl
  have A0 : AH H la ca Vs ad nb fl cad lf (ch0 nb fl lev) pl [s] H3 := ⟨fun b o hb _ => s3 _ _ (s2 _ _ hb), (R.ext (Ext.of s2)).ext (Ext.of s3), s3 _ _ q1, fun u hu => s3 _ _ (q3 u hu).2, P3, fun u hu => Ne.symm (ne_of_none (q3 u hu).2 npl), npH, q4, fun u hu => (q3 u hu).1⟩
  refine ⟨fun m σ Hc => ∃ (lfc : Wt) (ch : Str → List Str) (pth : List Str) (moved : Int) (pl : Addr) (x8 : Option V), σ = [some (.ref x), some (.ref lp), some (.int most), some (.ref ca), none, none, some (.int moved), some (.ref pl), x8] ∧ AH H la ca Vs ad nb fl cad lfc ch pl pth Hc ∧ Adv nb lfc fl lev s t ch pth moved ∧ Resid Vs wf s t (n + moved) (vl0 nb lfc) ∧ Clean Vs wf (vl0 nb lfc) s t ∧ moved ≤ most ∧ m = meas most fl ch pth moved,
    ⟨_, lf, ch0 nb fl lev, [s], 0, pl, none, rfl, A0, Adv.start L ht, by rw [Int.add_zero]; exact RS, CL, by omega, rfl⟩, ?_⟩
  clear A0 P3 s3 npl npH pl s2 q1 q2 q3 q4 H2 H3
  rintro m σ Hc ⟨lfc, ch, pth, moved, pl, x8, rfl, A, AV, RSc, CLc, mle, rfl⟩
  refine ⟨_, rfl, _, rfl, _, _, rfl, rfl, _, rfl, ?_⟩
  have mv := AV.mv
  refine ite2 (fun hb => ?_) (fun hb => ?_)
  · have hb : moved < most := of_decide_eq_true hb
    refine ⟨_, rfl, by show 0 ≤ sizeLine; decide, fun p4 n4 => ?_⟩
    generalize gg4 : upd _ p4 _ = G4; obtain ⟨s4, L4⟩ := new_eq n4 gg4; clear gg4
    have A4 := A.same s4
    refine ⟨pl, p4, _, rfl, rfl, SqL.of A4.pth, SqL.of L4, _, rfl, ?_⟩
    refine ite2 (fun hb2 => ?_) (fun hb2 => ?_)
    · have pne : pth ≠ [] := fun z => by
        rw [z] at hb2
        cases hb2
      refine ⟨fun σ' Hc => ∃ (lfc' : Wt) (ch' : Str → List Str) (pth' : List Str) (moved' : Int) (pl' : Addr) (x8 : Option V), σ' = [some (.ref x), some (.ref lp), some (.int most), some (.ref ca), none, none, some (.int moved'), some (.ref pl'), x8] ∧ AH H la ca Vs ad nb fl cad lfc' ch' pl' pth' Hc ∧ Adv nb lfc' fl lev s t ch' pth' moved' ∧ Resid Vs wf s t (n + moved') (vl0 nb lfc') ∧ Clean Vs wf (vl0 nb lfc') s t ∧ moved' ≤ most ∧ meas most fl ch' pth' moved' < meas most fl ch pth moved, ?_, ?_⟩
      · rintro σ' H' ⟨lfc', ch', pth', moved', pl', y8, g1, g2, g3, g4, g5, g6, g7⟩
        exact ⟨_, g7, lfc', ch', pth', moved', pl', y8, g1, g2, g3, g4, g5, g6, rfl⟩
      obtain ⟨p, y, rfl⟩ : ∃ p y, pth = p ++ [y] := ⟨pth.dropLast, pth.getLast pne, (List.dropLast_concat_getLast pne).symm⟩
      have hyf : y ∈ fl := AV.pin y (by simp)
      have hyV := L.sub y hyf
      have hx4 := A4.fr _ _ hx fun u hu => ne_of hx (R.row u hu) (by intro z; cases z)
      have atl : atI ((p ++ [y]).map V.str) (-1) = some (.str y) := by
        rw [List.map_append]
        exact atI_last _ _
      refine ⟨_, rfl, _, rfl, pl, _, _, .str y, rfl, rfl, SqL.of A4.pth, atl, ?_⟩
      refine ⟨_, rfl, _, rfl, x, S, dx, _, _, rfl, hx4, SC.cls, SC.nt, rfl, rfl, _, rfl, ?_⟩
      refine ite2 (fun hb3 => ?_) (fun hb3 => ?_)
      · -- at the target
        have ey : y = t := by simpa using of_decide_eq_true hb3
        subst ey
        refine ⟨_, rfl, _, rfl, x, dx, _, rfl, hx4, rfl, _, rfl, _, rfl, _, rfl, _, _, rfl, rfl, ?_⟩
        have hcaU : ∀ u ∈ Vs, ca ≠ ad u := fun u hu => Ne.symm (ne_of_none (R.row u hu) nca)
        refine ⟨x, S, dx, a, la, pl, s, y, Vs, p ++ [y], ad, nb, lfc, most - moved, rfl, hx4, SC, A4.rows, hnl, A4.pth, AV.nd, by have := AV.len; omega, by omega, fun e he => ?_, fun m H5 m0 m1 m2 fr5 R5 => ?_⟩
        · obtain ⟨e1, e2, e3, e4⟩ := AV.arcs he
          exact ⟨L.sub _ e1, L.sub _ e2, e3, (syn _ (L.sub _ e1) _ e3).2, e4⟩
        refine ⟨_, _, rfl, rfl, ?_⟩
        have plR : ∀ u ∈ Vs, pl ≠ ad u := fun u hu => ne_of A4.pth (A4.rows.row u hu) (by intro z; cases z)
        have A5 : AH H la ca Vs ad nb fl cad (pushA lfc m (arcs (p ++ [y]))) ch pl (p ++ [y]) H5 := ⟨fun b o hb hn => fr5 _ _ (A4.fr b o hb hn) hn, R5, fr5 _ _ A4.top hcaU, fun u hu => fr5 _ _ (A4.lst u hu) fun v hv => ne_of (A4.lst u hu) (A4.rows.row v hv) (by intro z; cases z), fr5 _ _ A4.pth plR, A4.npl, A4.pn, A4.inj, A4.cn⟩
        have hx5 := A5.fr _ _ hx fun u hu => ne_of hx (R.row u hu) (by intro z; cases z)
        refine ⟨_, rfl, x, S, dx, _, _, rfl, hx5, SC.cls, SC.ns, rfl, by show 1 ≤ sizeLine; decide, fun p6 n6 => ?_⟩
        generalize gg6 : upd _ p6 _ = G6; obtain ⟨s6, L6⟩ := new_eq n6 gg6; clear gg6
        have L6 : G6 p6 = some (.lst ([s].map V.str)) := L6
        have n6H : H p6 = none := by
          cases q : H p6 with
          | none => rfl
          | some o =>
            by_cases hu : ∃ u ∈ Vs, p6 = ad u
            · obtain ⟨u, hu, e⟩ := hu
              rw [e, R5.row u hu] at n6
              cases n6
            · rw [A5.fr _ _ q fun u hu' e => hu ⟨u, hu', e⟩] at n6
              cases n6
        have pu := RSc.push (RSc_nd R) st (l := p ++ [y]) (a := m) (by omega) (AV.hd (by simp)) (by simp) AV.nd (fun z hz => L.sub _ (AV.pin z hz)) fun e he => by
          have h1 := (AV.arcs he).2.2.1
          have h2 := m2 e he
          unfold vl0
          rw [if_pos h1]
          exact h2
        have cu := Clean.push (a := m) (by omega) (arcs (p ++ [y])) (vl0 nb lfc) CLc fun e he => adv_ends AV L.l0 he
        rw [← vl0_push (lf := lfc) (arcs (p ++ [y])) fun e he => ⟨(AV.arcs he).2.2.1, (syn _ (L.sub _ (AV.arcs he).1) _ (AV.arcs he).2.2.1).2⟩] at pu cu
        refine ⟨_, ch, [s], moved + m, p6, _, rfl, A5.newp s6 n6 L6 n6H, AV.move L.st L.l0 m0 _, by rw [← Int.add_assoc]; exact pu, cu, by omega, meas_lt1 (by omega)⟩
      · have hyt : y ≠ t := fun z => hb3 (by rw [z]; exact decide_eq_true rfl)
        refine ⟨_, rfl, _, rfl, ca, _, rfl, get_d (.inl A4.top) hyf, by show 0 ≤ sizeLine; decide, fun p5 n5 => ?_⟩
        generalize gg5 : upd _ p5 _ = G5; obtain ⟨s5, L5⟩ := new_eq n5 gg5; clear gg5
        have A5 := A4.same s5
        refine ⟨cad y, p5, _, rfl, rfl, SqL.of (A5.lst y hyf), SqL.of L5, _, rfl, ?_⟩
        refine ite2 (fun hb4 => ?_) (fun hb4 => ?_)
        · -- no choice left
          have ce : ch y = [] := by
            cases q : ch y with
            | nil => rfl
            | cons v r =>
              rw [q] at hb4
              cases hb4
          refine ⟨_, rfl, .inl ⟨rfl, _, SqL.of A5.pth⟩, pl, _, .str y, rfl, rfl, A5.pth, by simp, ?_⟩
          have dl : (List.map V.str (p ++ [y])).dropLast = p.map V.str := by simp
          rw [dl]
          have A6 := A5.setp p
          generalize upd G5 pl (.lst (p.map V.str)) = H6 at A6 ⊢
          refine ⟨_, rfl, by show 0 ≤ sizeLine; decide, fun p7 n7 => ?_⟩
          generalize gg7 : upd _ p7 _ = G7; obtain ⟨s7, L7⟩ := new_eq n7 gg7; clear gg7
          have A7 := A6.same s7
          refine ⟨pl, p7, _, rfl, rfl, SqL.of A7.pth, SqL.of L7, _, rfl, ?_⟩
          refine ite2 (fun hb5 => ?_) (fun hb5 => ?_)
          · have pne2 : p ≠ [] := fun z => by
              rw [z] at hb5
              cases hb5
            obtain ⟨p', z, rfl⟩ : ∃ p' z, p = p' ++ [z] := ⟨p.dropLast, p.getLast pne2, (List.dropLast_concat_getLast pne2).symm⟩
            have hzf : z ∈ fl := AV.pin z (by simp)
            obtain ⟨c, ec, AV2⟩ := AV.back ce hyt
            have atz : atI ((p' ++ [z]).map V.str) (-1) = some (.str z) := by
              rw [List.map_append]
              exact atI_last _ _
            have lz := A7.lst z hzf
            rw [ec] at lz
            refine ⟨_, rfl, _, rfl, _, rfl, pl, _, _, .str z, rfl, rfl, SqL.of A7.pth, atz, ca, _, rfl, get_d (.inl A7.top) hzf, .inl ⟨rfl, _, SqL.of lz⟩, cad z, _, .str y, rfl, rfl, lz, by simp, ?_⟩
            have dl2 : (List.map V.str (c ++ [y])).dropLast = c.map V.str := by simp
            rw [dl2]
            have td := tot_drop ec L.nd hzf
            exact ⟨lfc, _, _, moved, pl, _, rfl, A7.setc hzf c, AV2, RSc, CLc, mle, meas_lt1 (by omega)⟩
          · have pe : p = [] := by
              cases p with
              | nil => rfl
              | cons y r => exact absurd rfl hb5
            subst pe
            refine ⟨lfc, ch, [], moved, pl, _, rfl, A7, AV.back0 ce hyt, RSc, CLc, mle, ?_⟩
            unfold meas
            have h1 : 0 < fl.length := List.length_pos_iff.mpr fun z => by rw [z] at hyf; exact nomatch hyf
            simp
            omega
        · have cne : ch y ≠ [] := fun z => by
            rw [z] at hb4
            exact absurd rfl hb4
          obtain ⟨c, v, ec⟩ : ∃ c v, ch y = c ++ [v] := ⟨(ch y).dropLast, (ch y).getLast cne, (List.dropLast_concat_getLast cne).symm⟩
          obtain ⟨hvn, hvf, _⟩ := AV.chs y hyf v (by rw [ec]; simp)
          have ly := A5.lst y hyf
          rw [ec] at ly
          have aty : atI ((c ++ [v]).map V.str) (-1) = some (.str v) := by
            rw [List.map_append]
            exact atI_last _ _
          have hx5 := A5.fr _ _ hx fun u hu => ne_of hx (R.row u hu) (by intro z; cases z)
          refine ⟨_, rfl, x, S, dx, _, _, rfl, hx5, SC.cls, SC.nl, rfl, _, rfl, la, _, rfl, get_d (.inl A5.rows.top) hyV, _, rfl, _, rfl, ca, _, rfl, get_d (.inl A5.top) hyf, _, rfl, cad y, _, _, .str v, rfl, rfl, SqL.of ly, aty, ad y, _, rfl, get_d (.inl (A5.rows.row y hyV)) hvn, _, _, rfl, rfl, _, rfl, ?_⟩
          refine ite2 (fun hb5 => ?_) (fun hb5 => ?_)
          · have hb5 : 0 < lfc y v := of_decide_eq_true hb5
            have AV2 := AV.push ec hb5 hyt
            have ln := AV2.len
            refine ⟨_, rfl, .inl ⟨rfl, _, SqL.of A5.pth⟩, _, rfl, _, rfl, ca, _, rfl, get_d (.inl A5.top) hyf, _, rfl, cad y, _, _, .str v, rfl, rfl, SqL.of ly, aty, pl, _, _, rfl, rfl, A5.pth, by rw [List.length_map]; have := AV.len; omega, ?_⟩
            have A6 := A5.setp ((p ++ [y]) ++ [v])
            rw [List.map_append (l₁ := p ++ [y])] at A6
            refine ⟨lfc, ch, _, moved, pl, _, rfl, A6, AV2, RSc, CLc, mle, ?_⟩
            unfold meas
            rw [if_neg (by simp), if_neg (by simp)]
            rw [List.length_append, List.length_append, List.length_singleton, List.length_singleton] at ln
            rw [List.length_append, List.length_append, List.length_singleton, List.length_singleton]
            omega
          · have hb5 : ¬ 0 < lfc y v := fun z => hb5 (decide_eq_true z)
            refine ⟨_, rfl, _, rfl, ca, _, rfl, get_d (.inl A5.top) hyf, .inl ⟨rfl, _, SqL.of ly⟩, cad y, _, .str v, rfl, rfl, ly, by simp, ?_⟩
            have dl2 : (List.map V.str (c ++ [v])).dropLast = c.map V.str := by simp
            rw [dl2]
            have td := tot_drop ec L.nd hyf
            exact ⟨lfc, _, _, moved, pl, _, rfl, A5.setc hyf c, AV.drop ec hb5, RSc, CLc, mle, meas_lt1 (by omega)⟩
    · have pe : pth = [] := by
        cases pth with
        | nil => rfl
        | cons y r => exact absurd rfl hb2
      exact ⟨_, rfl, k moved lfc _ (AV.em pe) mle A4.fr A4.rows RSc CLc⟩
  · have hb : ¬ moved < most := fun z => hb (decide_eq_true z)
    exact ⟨_, rfl, k moved lfc Hc (by omega) mle A.fr A.rows RSc CLc⟩
end
end Wk
namespace Wk
open PySem PySem.Spec PyProof.Rows L2 WkD WkN LamX WkP WkE
section
variable {P : Program} {w : World} {K : PySem.W.Frag} {mg : Str → Option Value} {base : Heap}
theorem dct_kV {ks : List Str} {g : Str → V} : (dct ks g).map (fun kv => kV kv.1) = ks.map V.str := by
  unfold dct
  rw [List.map_map]
  rfl
def edR (nb : Nb) (wt : Wt) (u : Str) (l : List Str) : List Ed := (l.filter fun v => decide (ltS u v)).map fun v => (u, v, wt u v)
def edL (Vs : List Str) (nb : Nb) (wt : Wt) : List Ed := Vs.flatMap fun u => edR nb wt u (nb u)
end
end Wk
namespace Wk
open PySem PySem.Spec PyProof.Rows L2 WkD WkN
section
variable {P : Program} {w : World} {K : PySem.W.Frag} {mg : Str → Option Value} {base : Heap}
def words : List Str := ["vertex", "edge", "root", "weight", "name", "merge", "log", "floor", "all", "some", "none", "lone", "round", "apart", "together", "rollback", "a", "b"]
end
end Wk
namespace Wk
open PySem PySem.Spec PyProof.Rows L2 WkD WkN
section
variable {P : Program} {w : World} {K : PySem.W.Frag} {mg : Str → Option Value} {base : Heap}
def WtsOk (ws : List Int) : Prop := ws ≠ [] ∧ (∀ x ∈ ws, 1 ≤ x ∧ x ≤ 1000000000) ∧ ws.length ≤ 5
def spWeights : Sp := fun vs H Q _ => ∃ (p cs : Addr) (N : Nat), vs = [.ref p] ∧ Pen H p cs N ∧ N + 2 < 2 ^ 60 ∧
  ∀ q ws H', But p H H' → H q = none → H' q = some (.lst (ws.map V.int)) → WtsOk ws → Pen H' p cs (N + 2) → Q (.ref q) H'
theorem sc_weights : FnScope ["_law_pen_here", "_law_way", "_law_base"] ["_law_pen_here"] (defScope s_L_weights) := ⟨rfl, rfl, rfl, by decide +kernel, rfl, by decide +kernel, by decide +kernel⟩
theorem c_weights (D : Def K mg "_law_weights" s_L_weights) (CD : Callee P w K mg base CX0 1 "_law_draw" ["_law_pen_here", "_law_many"] spDraw) : Callee P w K mg base CX0 2 "_law_weights" ["_law_pen_here"] spWeights := by
  obtain ⟨f, fd, F, g⟩ := D
  refine ⟨f, fd, F.ok sc_weights (fun vs H Q E h => ?_) (fun cdv A outer s H vs Q E hr h => ?_), g, F.kp, F.bindsN (fun _ _ _ _ _ _ us hl => match us, hl with | [_], _ => rfl)⟩
  · obtain ⟨p, cs, N, rfl, _⟩ := h
    rfl
  have hu := hu_of hr
  have nd := sc_weights.nd
  have hr1 : Room 1 _ := hr
  refine ⟨_, PSs.nox (pss_cons (ps_par (i := 1) (j := 2) (by rfl) nd rfl rfl (by decide) rfl rfl (pa_cons (pe_c CD hr1 pass0 (pa_cons (pv 0) (pa_cons pe_int pa_nil))) (pa_cons (pe_op op_add pe_int (pe_c CD hr1 pass0 (pa_cons (pv 0) (pa_cons pe_int pa_nil)))) pa_nil)) (by rfl))
      (pss_one (ps_ret (pe_ix ix_list (pe_lst (pa_cons (pe_lst (pa_cons (pv 2) pa_nil)) (pa_cons (pe_lst (pa_cons pe_int (pa_cons pe_int pa_nil))) (pa_cons (pe_lst (pa_cons pe_int (pa_cons pe_int pa_nil))) (pa_cons (pe_lst (pa_cons pe_int (pa_cons pe_int (pa_cons pe_int (pa_cons (pv 2) pa_nil))))) (pa_cons (pe_lst (pa_cons pe_int (pa_cons (pv 2) (pa_cons (pe_op op_pow pe_int pe_int) (pa_cons (pe_op op_sub (pe_op op_pow pe_int pe_int) pe_int) (pa_cons pe_int pa_nil)))))) pa_nil)))))) (pv 1) (fun _ _ => rfl))))), ?_⟩
  obtain ⟨p, cs, N, rfl, hP, hN, k⟩ := h
  refine ⟨_, rfl, p, cs, _, _, rfl, by decide, by decide, hP, by omega, fun wy H1 w0 w1 b1 P1 => ?_⟩
  refine ⟨_, rfl, p, cs, _, _, rfl, by decide, by decide, P1, by omega, fun d H2 d0 d1 b2 P2 => ?_⟩
  refine ⟨_, _, rfl, rfl, _, _, rfl, ?_⟩
  have b0 := b1.trans b2
  obtain ⟨c, ec⟩ : ∃ c, c = 1 + d := ⟨_, rfl⟩
  have sz : ∀ n : Nat, n ≤ 5 → n ≤ sizeLine := fun n h => Nat.le_trans h (by decide)
  refine ⟨_, rfl, sz 1 (by decide), fun p1 n1 => ?_⟩
  generalize gg1 : upd _ p1 _ = G1; obtain ⟨s1, L1⟩ := new_eq n1 gg1; clear gg1
  refine ⟨sz 2 (by decide), fun p2 n2 => ?_⟩
  generalize gg2 : upd _ p2 _ = G2; obtain ⟨s2, L2⟩ := new_eq n2 gg2; clear gg2
  refine ⟨sz 2 (by decide), fun p3 n3 => ?_⟩
  generalize gg3 : upd _ p3 _ = G3; obtain ⟨s3, L3⟩ := new_eq n3 gg3; clear gg3
  refine ⟨_, rfl, sz 4 (by decide), fun p4 n4 => ?_⟩
  generalize gg4 : upd _ p4 _ = G4; obtain ⟨s4, L4⟩ := new_eq n4 gg4; clear gg4
  refine ⟨_, rfl, _, _, rfl, rfl, ⟨by decide, by decide, by decide⟩, _, _, rfl, rfl, ⟨by decide, by decide, by decide⟩, _, _, rfl, rfl, sz 5 (by decide), fun p5 n5 => ?_⟩
  generalize gg5 : upd _ p5 _ = G5; obtain ⟨s5, L5⟩ := new_eq n5 gg5; clear gg5
  refine ⟨sz 5 (by decide), fun p6 n6 => ?_⟩
  generalize gg6 : upd _ p6 _ = G6; obtain ⟨s6, L6⟩ := new_eq n6 gg6; clear gg6
  have s56 := s5.trans s6
  have s46 := s4.trans s56
  have s36 := s3.trans s46
  have s26 := s2.trans s36
  have s16 := s1.trans s26
  have P6 := P2.same s16
  have b6 := b0.trans (But.of_same s16)
  have nH : ∀ q, H2 q = none → H q = none := fun q hq => by
    cases z : H q with
    | none => rfl
    | some o =>
      by_cases e : q = p
      · obtain ⟨⟨t, r, h1, _⟩, _⟩ := P2
        rw [e, h1] at hq
        cases hq
      · rw [b0 _ _ z e] at hq
        cases hq
  have e : wy = 0 ∨ wy = 1 ∨ wy = 2 ∨ wy = 3 ∨ wy = 4 := by omega
  have fin : ∀ q ws, H2 q = none → G6 q = some (.lst (ws.map V.int)) → WtsOk ws → Q (.ref q) G6 := fun q ws hq h1 h2 => k q ws G6 b6 (nH q hq) h1 h2 P6
  have r1 := s26 _ _ L1
  have r2 := s36 _ _ L2
  have r3 := s46 _ _ L3
  have r4 := s56 _ _ L4
  have r5 := s6 _ _ L5
  have m2 := np_of s1 n2
  have m3 := np_of (s1.trans s2) n3
  have m4 := np_of ((s1.trans s2).trans s3) n4
  have m5 := np_of (((s1.trans s2).trans s3).trans s4) n5
  rcases e with rfl | rfl | rfl | rfl | rfl
  · exact ⟨_, rfl, p6, _, _, _, rfl, rfl, SqL.of L6, rfl, fin p1 [1 + d] n1 r1 ⟨by simp, by simp; omega, by simp⟩⟩
  · exact ⟨_, rfl, p6, _, _, _, rfl, rfl, SqL.of L6, rfl, fin p2 [1, 2] m2 r2 ⟨by simp, by simp, by simp⟩⟩
  · exact ⟨_, rfl, p6, _, _, _, rfl, rfl, SqL.of L6, rfl, fin p3 [2, 4] m3 r3 ⟨by simp, by simp, by simp⟩⟩
  · exact ⟨_, rfl, p6, _, _, _, rfl, rfl, SqL.of L6, rfl, fin p4 [1, 2, 3, 1 + d] m4 r4 ⟨by simp, by simp; omega, by simp⟩⟩
  · exact ⟨_, rfl, p6, _, _, _, rfl, rfl, SqL.of L6, rfl, fin p5 [1, 1 + d, 10 ^ 9, 10 ^ 9 - 1, 500000000] m5 r5 ⟨by simp, by simp; omega, by simp⟩⟩
end
end Wk
namespace Wk
open PySem PySem.Spec PyProof.Rows L2 WkD WkN WkE
section
variable {P : Program} {w : World} {K : PySem.W.Frag} {mg : Str → Option Value} {base : Heap}
theorem put_p {H : Hp} {a b : Addr} {es : EdD} {p : Pr} {n : Int} (h : H a = some (.dT (dtE es))) (hb : H b = some (.tup [.str p.1, .str p.2])) (hl : es.length < sizeLine) : DPut H a (.ref b) (.int n) (upd H a (.dT (dtE (putE es p n)))) := by
  refine .inr ⟨_, kP p, b, h, rfl, hb, by rw [dtE_len]; exact hl, ?_⟩
  rw [dtE_put]
end
end Wk
namespace Wk
open PySem PySem.Spec PyProof.Rows L2 WkD WkN WkE
section
variable {P : Program} {w : World} {K : PySem.W.Frag} {mg : Str → Option Value} {base : Heap}
end
end Wk
namespace Wk
open PySem PySem.Spec PyProof.Rows L2 WkD WkN LamX WkP WkE
abbrev prOf (e : Ed) : Pr := (e.1, e.2.1)
theorem edL_mem {Vs : List Str} {nb : Nb} {wt : Wt} {u v : Str} {n : Int} : (u, v, n) ∈ edL Vs nb wt ↔ u ∈ Vs ∧ v ∈ nb u ∧ ltS u v ∧ n = wt u v := by
  unfold edL edR
  rw [List.mem_flatMap]
  constructor
  · rintro ⟨x, hx, h⟩
    obtain ⟨y, hy, e⟩ := List.mem_map.mp h
    simp only [Prod.mk.injEq] at e
    obtain ⟨rfl, rfl, rfl⟩ := e
    rw [List.mem_filter] at hy
    exact ⟨hx, hy.1, of_decide_eq_true hy.2, rfl⟩
  · rintro ⟨h1, h2, h3, rfl⟩
    exact ⟨u, h1, List.mem_map.mpr ⟨v, List.mem_filter.mpr ⟨h2, decide_eq_true h3⟩, rfl⟩⟩
end Wk
namespace Wk
open PySem PySem.Spec PyProof.Rows L2 WkD WkN LamX WkP WkE WkC
section
variable {P : Program} {w : World} {K : PySem.W.Frag} {mg : Str → Option Value} {base : Heap}
theorem perm_map {α β : Type} {f : α → β} : ∀ {ys xs : List β}, ys.Perm xs → ∀ {m : List α}, xs = m.map f → ∃ m' : List α, ys = m'.map f ∧ m'.Perm m := by
  intro ys xs h
  induction h with
  | nil =>
    intro m e
    have := List.map_eq_nil_iff.mp e.symm
    exact ⟨[], rfl, by rw [this]⟩
  | cons x _ ih =>
    intro m e
    cases m with
    | nil => cases e
    | cons a r =>
      rw [List.map_cons, List.cons.injEq] at e
      obtain ⟨m', h1, h2⟩ := ih e.2
      exact ⟨a :: m', by rw [List.map_cons, h1, e.1], h2.cons a⟩
  | swap x y l =>
    intro m e
    match m, e with
    | a :: b :: r, e =>
      rw [List.map_cons, List.map_cons, List.cons.injEq, List.cons.injEq] at e
      exact ⟨b :: a :: r, by rw [List.map_cons, List.map_cons, e.1, e.2.1, e.2.2], .swap a b r⟩
  | trans _ _ ih1 ih2 =>
    intro m e
    obtain ⟨m1, h1, p1⟩ := ih2 e
    obtain ⟨m2, h2, p2⟩ := ih1 h1
    exact ⟨m2, h2, p2.trans p1⟩
theorem EdsAt.perm {H : Hp} {rs rs' : List Addr} {es : List Ed} (h : EdsAt K H rs es) (p : rs'.Perm rs) : ∃ sh, sh.Perm es ∧ EdsAt K H rs' sh := by
  have e : rs = (rs.zip es).map Prod.fst := by rw [List.map_fst_zip (by rw [h.1]; exact Nat.le_refl _)]
  obtain ⟨zs, h1, h2⟩ := perm_map p e
  refine ⟨zs.map Prod.snd, ?_, by rw [h1, List.length_map, List.length_map], fun i r d g1 g2 => ?_⟩
  · have := h2.map Prod.snd
    rw [List.map_snd_zip (by rw [h.1]; exact Nat.le_refl _)] at this
    exact this
  · rw [h1, List.getElem?_map] at g1
    rw [List.getElem?_map] at g2
    cases hz : zs[i]? with
    | none =>
      rw [hz] at g1
      cases g1
    | some z =>
      rw [hz] at g1 g2
      cases g1
      cases g2
      obtain ⟨j, hj⟩ := List.getElem?_of_mem (h2.mem_iff.mp (List.mem_of_getElem? hz))
      obtain ⟨k1, k2⟩ := List.getElem?_zip_eq_some.mp hj
      exact h.2 j _ _ k1 k2
def spLawT (K : PySem.W.Frag) (T : List (Addr × Str)) : Sp := fun vs H Q _ => ∃ (a : Addr) (ns : List Int), vs = [.ref a] ∧ SqL K H a (ns.map V.int) ∧ ns.length ≤ 63 ∧ Tabs T H ∧ ∀ H', Q (.bl true) H'
theorem Pen.ext {H H' : Hp} {p cs : Addr} {N : Nat} (P : Pen H p cs N) (s : Ext H H') : Pen H' p cs N := by
  obtain ⟨⟨t, r, h1, h2⟩, ns, h3, h4⟩ := P
  exact ⟨⟨t, r, s _ _ h1 (fun ps z => by cases z), h2⟩, ns, s _ _ h3 (fun ps z => by cases z), h4⟩
end
end Wk
namespace Wk
open PySem PySem.Spec PyProof.Rows L2 WkD WkN LamX WkP WkE
structure GOk (Vs : List Str) (nb : Nb) (wt : Wt) : Prop where
  nm : ∀ u ∈ Vs, nameB u = true
  nd : Vs.Nodup
  two : 2 ≤ Vs.length
  few : Vs.length ≤ 40
  sym : Sym Vs nb wt
  wts : ∀ u ∈ Vs, ∀ v ∈ nb u, 1 ≤ wt u v ∧ wt u v ≤ 1000000000
  con : ∀ s ∈ Vs, ∀ u ∈ Vs, Rch nb s u
theorem Rch.mono {nb nb' : Nb} {s u : Str} {Vs : List Str} (hs : s ∈ Vs) (cl : ∀ u ∈ Vs, ∀ v ∈ nb u, v ∈ Vs) (k : ∀ u ∈ Vs, ∀ v ∈ nb u, v ∈ nb' u) (h : Rch nb s u) : u ∈ Vs ∧ Rch nb' s u := by
  induction h with
  | here => exact ⟨hs, .here⟩
  | go _ e ih => exact ⟨cl _ ih.1 _ e, .go ih.2 (k _ ih.1 _ e)⟩
theorem edL_adj {Vs : List Str} {nb : Nb} {wt : Wt} (sy : Sym Vs nb wt) {u v : Str} {n : Int} (hu : u ∈ Vs) : Adj (edL Vs nb wt) u v n ↔ v ∈ nb u ∧ n = wt u v := by
  unfold Adj
  rw [edL_mem, edL_mem]
  constructor
  · rintro (⟨_, h2, _, h4⟩ | ⟨h1, h2, _, h4⟩)
    · exact ⟨h2, h4⟩
    · obtain ⟨_, _, g3, g4⟩ := sy.mem v h1 u h2
      exact ⟨g3, by rw [g4, h4]⟩
  · rintro ⟨h1, h2⟩
    obtain ⟨g1, g2, g3, g4⟩ := sy.mem u hu v h1
    rcases ltS_tri u v with h | h | h
    · exact .inl ⟨hu, h1, h, h2⟩
    · exact absurd h.symm g2
    · exact .inr ⟨g1, g3, h, by rw [g4]; exact h2⟩
theorem edL_nodup {Vs : List Str} {nb : Nb} {wt : Wt} (nd : Vs.Nodup) (sy : Sym Vs nb wt) : ((edL Vs nb wt).map prOf).Nodup := by
  unfold edL
  have key : ∀ l : List Str, l.Nodup → (∀ u ∈ l, (nb u).Nodup) → ((l.flatMap fun u => edR nb wt u (nb u)).map prOf).Nodup := fun l => by
    induction l with
    | nil =>
      intro _ _
      exact List.nodup_nil
    | cons u r ih =>
      intro h1 h2
      rw [List.nodup_cons] at h1
      rw [List.flatMap_cons, List.map_append, List.nodup_append]
      refine ⟨?_, ih h1.2 fun v hv => h2 v (List.mem_cons_of_mem _ hv), fun a ha b hb e => ?_⟩
      · unfold edR
        rw [List.map_map, List.nodup_iff_pairwise_ne, List.pairwise_map]
        have := (h2 u List.mem_cons_self).filter fun v => decide (ltS u v)
        exact this.imp fun {a b} q e => q (congrArg Prod.snd e)
      · obtain ⟨x, hx, rfl⟩ := List.mem_map.mp ha
        obtain ⟨y, hy, rfl⟩ := List.mem_map.mp hb
        unfold edR at hx
        obtain ⟨x', _, rfl⟩ := List.mem_map.mp hx
        obtain ⟨z, hz, hy⟩ := List.mem_flatMap.mp hy
        unfold edR at hy
        obtain ⟨y', _, rfl⟩ := List.mem_map.mp hy
        have e : u = z := congrArg Prod.fst e
        exact h1.1 (e ▸ hz)
  exact key Vs nd sy.nd
theorem GOk.valid {Vs : List Str} {nb : Nb} {wt : Wt} (g : GOk Vs nb wt) : Valid Vs (edL Vs nb wt) := by
  have snd := edL_nodup (wt := wt) g.nd g.sym
  refine ⟨g.nm, g.nd, g.two, g.few, fun i a b n h => ?_, fun nb' wt' ro s hs u hu => ?_⟩
  · have hm := List.mem_of_getElem? h
    obtain ⟨h1, h2, h3, rfl⟩ := edL_mem.mp hm
    obtain ⟨g1, g2, _, _⟩ := g.sym.mem a h1 b h2
    obtain ⟨w1, w2⟩ := g.wts a h1 b h2
    refine ⟨h1, g1, Ne.symm g2, w1, w2, fun m ha => ?_⟩
    have tkk : ∀ x y, (x, y, m) ∈ (edL Vs nb wt).take i → ∃ j, j < i ∧ (edL Vs nb wt)[j]? = some (x, y, m) := fun x y hxy => by
      obtain ⟨j, hj⟩ := List.getElem?_of_mem hxy
      rw [List.getElem?_take] at hj
      split at hj
      · exact ⟨j, by assumption, hj⟩
      · cases hj
    rcases ha with ha | ha
    · obtain ⟨j, hj, hx⟩ := tkk _ _ ha
      have hi1 := (List.getElem?_eq_some_iff.mp h).1
      have hj1 := (List.getElem?_eq_some_iff.mp hx).1
      have q1 : ((edL Vs nb wt).map prOf)[i]'(by rw [List.length_map]; exact hi1) = (a, b) := by
        rw [List.getElem_map, (List.getElem?_eq_some_iff.mp h).2]
      have q2 : ((edL Vs nb wt).map prOf)[j]'(by rw [List.length_map]; exact hj1) = (a, b) := by
        rw [List.getElem_map, (List.getElem?_eq_some_iff.mp hx).2]
      have := (List.getElem_inj snd).mp (q1.trans q2.symm)
      omega
    · obtain ⟨j, hj, hx⟩ := tkk _ _ ha
      obtain ⟨_, _, k3, _⟩ := edL_mem.mp (List.mem_of_getElem? hx)
      exact ltS_asymm h3 k3
  · have cl : ∀ u ∈ Vs, ∀ v ∈ nb u, v ∈ Vs := fun u hu v hv => (g.sym.mem u hu v hv).1
    exact (Rch.mono (nb' := nb') hs cl (fun u hu v hv => (ro.mem u hu v).mpr ⟨_, (edL_adj g.sym hu).mpr ⟨hv, rfl⟩⟩) (g.con s hs u hu)).2
structure SameG (Vs : List Str) (nb : Nb) (wt : Wt) (nb' : Nb) (wt' : Wt) : Prop where
  mem : ∀ u ∈ Vs, ∀ v, v ∈ nb' u ↔ v ∈ nb u
  val : ∀ u ∈ Vs, ∀ v ∈ nb u, wt' u v = wt u v
theorem SameG.of_rows {Vs : List Str} {nb nb' : Nb} {wt wt' : Wt} (sy : Sym Vs nb wt) (ro : RowsOf Vs (edL Vs nb wt) nb' wt') : SameG Vs nb wt nb' wt' := by
  refine ⟨fun u hu v => ?_, fun u hu v hv => ?_⟩
  · rw [ro.mem u hu v]
    constructor
    · rintro ⟨n, hn⟩
      exact ((edL_adj sy hu).mp hn).1
    · intro hv
      exact ⟨_, (edL_adj sy hu).mpr ⟨hv, rfl⟩⟩
  · exact ro.val u hu v _ ((edL_adj sy hu).mpr ⟨hv, rfl⟩)
theorem SameG.gok {Vs Ws : List Str} {nb nb' : Nb} {wt wt' : Wt} (h : SameG Vs nb wt nb' wt') (g : GOk Vs nb wt) (pm : Ws.Perm Vs) (nd : ∀ u ∈ Ws, (nb' u).Nodup) : GOk Ws nb' wt' := by
  have ln := pm.length_eq
  have cl : ∀ u ∈ Vs, ∀ v ∈ nb u, v ∈ Vs := fun u hu v hv => (g.sym.mem u hu v hv).1
  refine ⟨fun u hu => g.nm u (pm.mem_iff.mp hu), pm.nodup_iff.mpr g.nd, by rw [ln]; exact g.two, by rw [ln]; exact g.few, ⟨nd, fun u hu v hv => ?_⟩, fun u hu v hv => ?_, fun s hs u hu => ?_⟩
  · have hu := pm.mem_iff.mp hu
    have hv := (h.mem u hu v).mp hv
    obtain ⟨g1, g2, g3, g4⟩ := g.sym.mem u hu v hv
    exact ⟨pm.mem_iff.mpr g1, g2, (h.mem v g1 u).mpr g3, by rw [h.val v g1 u g3, h.val u hu v hv, g4]⟩
  · have hu := pm.mem_iff.mp hu
    have hv := (h.mem u hu v).mp hv
    rw [h.val u hu v hv]
    exact g.wts u hu v hv
  · have hs := pm.mem_iff.mp hs
    have hu := pm.mem_iff.mp hu
    exact (Rch.mono (nb' := nb') hs cl (fun u hu v hv => (h.mem u hu v).mpr hv) (g.con s hs u hu)).2
theorem SameG.edges {Vs Ws : List Str} {nb nb' : Nb} {wt wt' : Wt} (h : SameG Vs nb wt nb' wt') (pm : Ws.Perm Vs) (e : Ed) : e ∈ edL Ws nb' wt' ↔ e ∈ edL Vs nb wt := by
  obtain ⟨u, v, n⟩ := e
  rw [edL_mem, edL_mem]
  constructor
  · rintro ⟨h1, h2, h3, rfl⟩
    have h1 := pm.mem_iff.mp h1
    have h2 := (h.mem u h1 v).mp h2
    exact ⟨h1, h2, h3, h.val u h1 v h2⟩
  · rintro ⟨h1, h2, h3, rfl⟩
    exact ⟨pm.mem_iff.mpr h1, (h.mem u h1 v).mpr h2, h3, (h.val u h1 v h2).symm⟩
end Wk
namespace Wk
open PySem PySem.Spec PyProof.Rows L2 WkD WkN WkE
section
variable {P : Program} {w : World} {K : PySem.W.Frag} {mg : Str → Option Value} {base : Heap}
end
end Wk
namespace Wk
open PySem PySem.Spec PyProof.Rows L2 WkD WkN WkP WkE
theorem sm_filter (l : List Str) (p : Str → Bool) (f : Str → Int) : sm (l.filter p) f = sm l fun u => if p u = true then f u else 0 := by
  induction l with
  | nil => rfl
  | cons a l ih =>
    rw [sm_cons, ← ih]
    by_cases h : p a = true
    · rw [List.filter_cons_of_pos h, sm_cons, if_pos h]
    · rw [List.filter_cons_of_neg h, if_neg h]
      omega
theorem sm_sub {S l : List Str} (nS : S.Nodup) (nl : l.Nodup) (sub : ∀ u ∈ S, u ∈ l) (f : Str → Int) : sm S f = sm l fun u => if u ∈ S then f u else 0 := by
  have pm : (l.filter fun u => decide (u ∈ S)).Perm S := (List.perm_ext_iff_of_nodup (nl.filter _) nS).mpr fun u => by
    rw [List.mem_filter]
    exact ⟨fun h => of_decide_eq_true h.2, fun h => ⟨sub u h, decide_eq_true h⟩⟩
  rw [← sm_perm pm, sm_filter]
  exact sm_congr fun u _ => by simp
theorem row_sum {Vs : List Str} {nb : Nb} {wt : Wt} (nV : Vs.Nodup) (sy : Sym Vs nb wt) {u : Str} (hu : u ∈ Vs) (p : Str → Bool) : (((nb u).filter p).map fun v => wt u v).sum = sm Vs fun v => if p v = true then vl0 nb wt u v else 0 := by
  have e : (((nb u).filter p).map fun v => wt u v).sum = sm ((nb u).filter p) fun v => wt u v := rfl
  rw [e, sm_filter, sm_sub (sy.nd u hu) nV fun v hv => (sy.mem u hu v hv).1]
  refine sm_congr fun v _ => ?_
  unfold vl0
  by_cases h1 : v ∈ nb u <;> by_cases h2 : p v = true <;> simp [h1, h2]
end Wk
namespace Wk
open PySem PySem.Spec PyProof.Rows L2 WkD WkN LamX WkP WkE WkC
section
variable {P : Program} {w : World} {K : PySem.W.Frag} {mg : Str → Option Value} {base : Heap}
def spRun (K : PySem.W.Frag) (S : Addr) : Sp := fun vs H Q _ => ∃ (x dx a la : Addr) (s t : Str) (Vs : List Str) (ad0 ad : Str → Addr) (nb : Nb) (wt : Wt) (lv : V), vs = [.ref x, lv] ∧ H x = some (.ins S dx (seaF a la s t)) ∧ RowsZ H a Vs ad0 nb wt ∧ RowsM H la Vs ad nb wt ∧ Sym Vs nb wt ∧ (∀ u ∈ Vs, ∀ v ∈ nb u, 0 ≤ wt u v) ∧ (∀ u ∈ Vs, (nb u).length < 1000) ∧ Vs.length < 1000 ∧ s ∈ Vs ∧ s ≠ t ∧ (lv = .non ∨ ∃ L, lv = .int L ∧ 0 ≤ L) ∧
  ∀ n lf' fl lev H', FrR Vs ad H H' → RowsM H' la Vs ad nb lf' → Resid Vs (vl0 nb wt) s t n (vl0 nb lf') → Clean Vs (vl0 nb wt) (vl0 nb lf') s t → Lvl Vs nb lf' s fl lev fl.length → (∀ L, lv = .int L → n ≤ L) → ((∃ L, lv = .int L ∧ n = L) ∨ t ∉ fl) → Q (.int n) H'
theorem sc_sea_run : FnScope ["self", "limit", "most", "moved", "levels"] ["self", "limit"] (defScope s_Search_run) := ⟨rfl, rfl, rfl, by decide +kernel, rfl, by decide +kernel, by decide +kernel⟩
theorem ok_sea_run {f S : Addr} {fd : FuncData} {dvs : List V} (B : Bi mg) (SC : SCls K S) (F : FunD K "run" "Search.run" (defArgs s_Search_run) (defBody s_Search_run) (defScope s_Search_run) dvs [] f fd) (ML : MethC P w K mg base CX0 S "levels" 1 (spLev K))
    (MA : MethC P w K mg base CX0 S "advance" 2 (fun vs H Q E => spAdv K vs H Q E ∧ ∃ x dx fs, vs.head? = some (.ref x) ∧ H x = some (.ins S dx fs))) : FnOk P w K mg base CX0 3 f fd ["self", "limit"] (spRun K S) := by
  refine F.ok sc_sea_run (fun vs H Q E h => ?_) (fun cdv A outer s H vs Q E hr h => ?_)
  · obtain ⟨x, dx, a, la, s, t, Vs, ad0, ad, nb, wt, lv, rfl, _⟩ := h
    rfl
  have nd := sc_sea_run.nd
  have hu := hu_of hr
  have hr2 : Room 2 _ := hr
  have hr1 : Room 1 _ := hr.mono (by decide)
  refine ⟨_, PSs.nox (pss_cons (ps_par (i := 2) (j := 3) (by rfl) nd rfl rfl (by decide) rfl rfl (pa_cons (pe_callB (cr_sum rfl) (by rfl) B.n_sum (by decide +kernel) (pa_cons (WkV.pe_listVals rfl (by rfl) B.n_list (pe_dget hu (pe_fld (pv 0) rfl) (pe_fld (pv 0) rfl) (fun _ _ => rfl))) pa_nil)) (pa_cons pe_int pa_nil)) (by rfl))
      (C8.pss_cut (ps_if (PW.pt (pw_and (pt_cmpR op_notN (pv 1) pe_non (nomark _)) (pw_and1 (pt_cmpR op_lt (pv 1) (pv 2) (nomark _)))))
      (pss_one (ps_set (i := 2) nd rfl (Or.inl rfl) (pv 1))) pss_nil)
      (pss_cons (ps_set (i := 4) nd rfl (Or.inl rfl) (WkV.pe_mt0 ML SC.cls hr1 pass0 (pv 0)))
      (pss_cons (ps_while PassesOwn.never (PW.pt (pw_and (pt_cmpR op_lt (pv 3) (pv 2) (nomark _)) (pw_and1 (pt_cmp (pc_din hu (pe_fld (pv 0) rfl) (pv 4))))))
      (pss_cons (ps_aug (i := 3) nd rfl (Or.inl rfl) (WkC.pe_mt MA SC.cls hr2 pass0 (pv 0) (pa_cons (pv 4) (pa_cons (pe_op op_sub (pv 2) (pv 3)) pa_nil))) ip_add)
      (pss_one (ps_set (i := 4) nd rfl (Or.inl rfl) (WkV.pe_mt0 ML SC.cls hr1 pass0 (pv 0))))))
      (pss_one (ps_ret (pv 3))))))), ?_⟩
  obtain ⟨x, dx, a, la, s, t, Vs, ad0, ad, nb, wt, lv, rfl, hx, RZ, R, sy, wnn, hnl, hVl, hs, st, hlv, k⟩ := h
  have big : 1000 < sizeLine := by decide
  obtain ⟨M, eM⟩ : ∃ M, M = ((nb s).map fun v => wt s v).sum := ⟨_, rfl⟩
  refine ⟨_, rfl, x, S, dx, _, _, rfl, hx, SC.cls, SC.na, rfl, _, rfl, x, S, dx, _, _, rfl, hx, SC.cls, SC.ns, rfl, a, _, rfl, get_d RZ.r.top hs, ad0 s, _, rfl, RZ.r.row s hs, fun p1 n1 => ?_⟩
  generalize gg1 : upd _ p1 _ = G1; obtain ⟨s1, L1⟩ := new_eq n1 gg1; clear gg1
  have L1 : G1 p1 = some (.lst (((nb s).map fun v => wt s v).map V.int)) := by
    rw [L1]
    unfold dct
    rw [List.map_map, List.map_map]
    rfl
  refine ⟨p1, _, rfl, SqL.of L1, _, _, rfl, ?_⟩
  rw [← eM]
  have Mnn : 0 ≤ M := by
    rw [eM]
    have : ((nb s).map fun v => wt s v).sum = sm (nb s) fun v => wt s v := rfl
    rw [this]
    exact sm_nonneg fun v hv => wnn s hs v hv
  have s1H : Same H G1 := s1
  refine ⟨fun σ' H' => ∃ M', σ' = [some (.ref x), some lv, some (.int M'), some (.int 0), none] ∧ H' = G1 ∧ 0 ≤ M' ∧ M' ≤ M ∧ (∀ L, lv = .int L → M' ≤ L) ∧ ((∃ L, lv = .int L ∧ M' = L) ∨ M' = M), ?_, ?_⟩
  · rcases hlv with rfl | ⟨Lm, rfl, hL⟩
    · refine ⟨_, rfl, rfl, _, rfl, ?_⟩
      refine ite2 (fun hb => ?_) (fun hb => ?_)
      · cases hb
      · exact ⟨M, rfl, rfl, Mnn, Int.le_refl _, fun L z => (by cases z), .inr rfl⟩
    · refine ⟨_, rfl, rfl, _, rfl, ?_⟩
      refine ite2 (fun hb => ?_) (fun hb => ?_)
      · refine ⟨_, rfl, _, rfl, _, _, rfl, rfl, _, rfl, ?_⟩
        refine ite2 (fun hb => ?_) (fun hb => ?_)
        · have hb : Lm < M := of_decide_eq_true hb
          exact ⟨_, rfl, Lm, rfl, rfl, hL, by omega, fun L z => (by cases z; exact Int.le_refl _), .inl ⟨_, rfl, rfl⟩⟩
        · have hb : ¬ Lm < M := fun z => hb (decide_eq_true z)
          exact ⟨M, rfl, rfl, Mnn, Int.le_refl _, fun L z => (by cases z; omega), .inr rfl⟩
      · exact absurd rfl hb
  rintro σ' H' ⟨M', rfl, rfl, m0, m1, m2, m3⟩
  have eMs : M = sm Vs fun v => vl0 nb wt s v := by
    have h := row_sum R.nd sy hs fun _ => true
    rw [List.filter_eq_self.mpr fun _ _ => rfl] at h
    simp only [if_true] at h
    rw [eM]
    exact h
  have syn : ∀ u ∈ Vs, ∀ v ∈ nb u, v ∈ Vs ∧ u ∈ nb v := fun u hu v hv => ⟨(sy.mem u hu v hv).1, (sy.mem u hu v hv).2.2.1⟩
  have R1 := R.ext (Ext.of s1)
  have hxU : ∀ u ∈ Vs, x ≠ ad u := fun u hu => ne_of hx (R.row u hu) (by intro z; cases z)
  have vnn : ∀ u ∈ Vs, ∀ v ∈ Vs, 0 ≤ vl0 nb wt u v := fun u hu v hv => by
    unfold vl0
    split
    · exact wnn u hu v ‹_›
    · exact Int.le_refl _
  refine ⟨_, rfl, x, dx, _, rfl, s1 _ _ hx, rfl, x, S, dx, a, la, s, t, Vs, ad, nb, wt, rfl, s1 _ _ hx, SC, R1, hs, fun u hu v hv => (syn u hu v hv).1, hVl, fun lp ol fl lev H2 s2 nlp hlp Lv => ?_⟩
  refine ⟨fun m σ Hc => ∃ (lf : Wt) (moved : Int) (lp : Addr) (ol : Obj) (fl : List Str) (lev : Str → Int), σ = [some (.ref x), some lv, some (.int M'), some (.int moved), some (.ref lp)] ∧ FrR Vs ad H Hc ∧ RowsM Hc la Vs ad nb lf ∧ Resid Vs (vl0 nb wt) s t moved (vl0 nb lf) ∧ Clean Vs (vl0 nb wt) (vl0 nb lf) s t ∧ Hc lp = some (.frz ol (.dK (dct fl fun v => .int (lev v)))) ∧ Lvl Vs nb lf s fl lev fl.length ∧ moved ≤ M' ∧ m = (M' - moved).toNat,
    ⟨_, wt, 0, lp, ol, fl, lev, rfl, fun b o hb _ => s2 _ _ (s1 _ _ hb), R1.ext (Ext.of s2), Resid.start vnn, Clean.start _ _ _ _, hlp, Lv, m0, rfl⟩, ?_⟩
  clear Lv hlp nlp s2 lev fl ol lp H2
  rintro m σ Hc ⟨lf, moved, lp, ol, fl, lev, rfl, fr, Rc, RS, CL, hlp, Lv, mle, rfl⟩
  have hxc := fr _ _ hx hxU
  have fin : (moved < M' → t ∉ fl) → Q (.int moved) Hc := fun hq => by
    refine k moved lf fl lev Hc fr Rc RS CL Lv (fun L e => by have := m2 L e; omega) ?_
    by_cases h1 : moved < M'
    · exact .inr (hq h1)
    · have e1 : moved = M' := by omega
      rcases m3 with ⟨L, e, q⟩ | q
      · exact .inl ⟨L, e, by omega⟩
      · exact .inr (RS.full (fun v hv => (syn s hs v hv).1) hs st (by rw [← eMs]; omega) Lv)
  refine ⟨_, rfl, _, rfl, _, _, rfl, rfl, _, rfl, ?_⟩
  refine ite2 (fun hb => ?_) (fun hb => ?_)
  · have hb : moved < M' := of_decide_eq_true hb
    refine ⟨_, rfl, x, S, dx, _, _, rfl, hxc, SC.cls, SC.nt, rfl, _, rfl, lp, _, rfl, get_x (.inr ⟨_, hlp⟩), _, rfl, ?_⟩
    have eo : (if t ∈ fl then some (V.int (lev t)) else none).isSome = decide (t ∈ fl) := by
      by_cases h : t ∈ fl
      · rw [if_pos h, decide_eq_true h]
        rfl
      · rw [if_neg h, decide_eq_false h]
        rfl
    rw [eo]
    refine ite2 (fun hb2 => ?_) (fun hb2 => ?_)
    · have ht : t ∈ fl := of_decide_eq_true hb2
      refine ⟨fun σ' Hc => ∃ (lf : Wt) (moved' : Int) (lp : Addr) (ol : Obj) (fl : List Str) (lev : Str → Int), σ' = [some (.ref x), some lv, some (.int M'), some (.int moved'), some (.ref lp)] ∧ FrR Vs ad H Hc ∧ RowsM Hc la Vs ad nb lf ∧ Resid Vs (vl0 nb wt) s t moved' (vl0 nb lf) ∧ Clean Vs (vl0 nb wt) (vl0 nb lf) s t ∧ Hc lp = some (.frz ol (.dK (dct fl fun v => .int (lev v)))) ∧ Lvl Vs nb lf s fl lev fl.length ∧ moved' ≤ M' ∧ moved < moved', ?_, ?_⟩
      · rintro σ' H' ⟨g1, g2, g3, g4, g5, g6, g7, g8, g9, g10, g11, g12, g13, g14, g15⟩
        exact ⟨(M' - g2).toNat, by omega, g1, g2, g3, g4, g5, g6, g7, g8, g9, g10, g11, g12, g13, g14, rfl⟩
      refine ⟨_, rfl, _, rfl, x, dx, _, rfl, hxc, rfl, _, rfl, _, rfl, _, rfl, _, _, rfl, rfl, ?_⟩
      refine ⟨⟨x, S, dx, a, la, lp, s, t, Vs, fl, lev, ol, ad, nb, lf, vl0 nb wt, moved, M' - moved, rfl, hxc, SC, Rc, hnl, syn, hVl, st, hlp, Lv, ht, by omega, RS, CL, fun m lf' H3 p0 p1 fr3 R3 RS3 CL3 => ?_⟩, x, dx, _, rfl, hxc⟩
      refine ⟨_, _, rfl, rfl, ?_⟩
      have fr3' : FrR Vs ad H H3 := fun b o hb hn => fr3 _ _ (fr _ _ hb hn) hn
      have hx3 := fr3' _ _ hx hxU
      refine ⟨_, rfl, x, dx, _, rfl, hx3, rfl, x, S, dx, a, la, s, t, Vs, ad, nb, lf', rfl, hx3, SC, R3, hs, fun u hu v hv => (syn u hu v hv).1, hVl, fun lp2 ol2 fl2 lev2 H4 s4 nlp2 hlp2 Lv2 => ?_⟩
      exact ⟨lf', moved + m, lp2, ol2, fl2, lev2, rfl, fun b o hb hn => s4 _ _ (fr3' b o hb hn), R3.ext (Ext.of s4), RS3, CL3, hlp2, Lv2, by omega, by omega⟩
    · have ht : t ∉ fl := fun z => hb2 (decide_eq_true z)
      exact ⟨_, rfl, fin fun _ => ht⟩
  · have hb : ¬ moved < M' := fun z => hb (decide_eq_true z)
    exact ⟨_, rfl, fin fun z => absurd z hb⟩
end
end Wk
namespace WkK
open PySem PySem.Spec PyProof.Rows L2
def gAt (K : PySem.W.Frag) (te : TE) (f : Str) : TG := fun v σ H Q => te σ H fun x H1 => ∃ a C dx fs, x = .ref a ∧ H1 a = some (.ins C dx fs) ∧ Cls K C ∧ NoAttr K C f ∧ fs.length < 1000 ∧ Q σ (upd H1 a (.ins C dx (putF f v fs)))
theorem pg_at {X : Cx} {o : Expr} {f : Str} {pos : Pos} {to : TE} (ho : PE X o to) : PG X (.Attribute o f pos) (gAt X.K to f) := by
  refine ⟨fun pins s σ H v u Q I r h => ?_⟩
  show wpAny _ _ (do let ov ← holding [u] (eval o X.env); standAt pos.atName; holding [u, ov] (setAttr ov f u); release [u, ov] []) _ _ _
  refine wpAny_bind (wpAny_holding (thn (ho.run pins s σ H _ I h) fun ov s1 ⟨x, H1, I1, r1, a, C, dx, fs, ex, ea, c, n, l, q⟩ => ?_))
  subst ex
  obtain rfl : ov = Value.ref a := r1
  refine wpAny_bind (wpAny_standAt (wpAny_bind (wpAny_holding ?_)))
  exact setattr_ok I1 ea c n l r fun s2 I2 => wpAny_release ⟨σ, _, I2, q⟩
section
variable {X : Cx} {x f : Str} {C fI : Addr}
def tMkX (C : Addr) (f : Str) (ta : TA) : L2.St → Hp → XK → Prop := fun σ H Q => ta σ H fun vs H1 => ∃ v, vs = [v] ∧ ∀ d, H1 d = none → Q (.ref C) (some d) (upd H1 d (.xd [(f, v)]))
theorem pmk_E {a : Expr} {ta : TA} {p pos : Pos} {k : Nat} (T : WkX.ExcT X.K X.mg x f C fI) (hr : Room k X.A) (ha : PA X [a] ta) (hg : Gl X x := by rfl) (hdb : (x == ("__debug__" : Str)) = false := by decide)
    (he : starEach (a :: []) X.env = (false, eval a X.env) :: starEach [] X.env := by rfl) (hpl : (backTo pos (starEach [] X.env)).any (·.1) = false := by rfl) :
    PMk X (.Call (.Name x p) [a] [] pos) (tMkX C f ta) := by
  intro pins s σ H Q I h
  refine wpAny_Call_Name_kw (ld_glob I hg T.gC ?_ hdb)
  refine PySem.W.callWith_K (h₀ := X.base) I.ok.mod.kin T.kC (thn (ha.run pos pins s σ H _ I h) fun us s1 hh => ?_) he hpl
  obtain ⟨vs, H1, I1, r1, v, ev, q1⟩ := hh
  subst ev
  refine ⟨I1.kIn, ?_⟩
  cases r1 with
  | cons rv rn =>
    rename_i v' us'
    cases rn
    show wpAny _ _ (call (.ref C) [v']) _ _ _
    have hlim := I1.nolimit
    obtain ⟨hp, g, dr, tk, os⟩ := s1
    refine wpAny_call (WkX.made_ (v := v') T (.inl rfl) I1.kIn hlim (by have := hr.dp; omega) fun h' tk' e d M => ?_)
    show MkP X pins σ Q (.ref e) ⟨h', g, dr, tk', os⟩
    obtain ⟨t1, hoe⟩ := M.obj
    have hns := M.ns
    obtain ⟨G, g1, g2⟩ := restrict h' fun b => decide (b ≠ e)
    have gk : ∀ b, b ≠ e → G.get? b = h'.get? b := fun b hb => g1 b (decide_eq_true hb)
    have ge : G.get? e = none := g2 e (by simp)
    have old : ∀ b o, hp.get? b = some o → G.get? b = some o := fun b o q => (gk b (Nat.ne_of_lt (Nat.lt_of_lt_of_le (Heap.lt_size q) M.new))).trans (M.keep b o q)
    have ob : ObjOk X.prog X.w (upd H1 d (.xd [(f, v)])) G d (.xd [(f, v)]) := ⟨_, hns.at (fun o q => (gk d M.dne).trans q), fun g => WkX.relO_one rv g⟩
    have J : Inv X pins σ (upd H1 d (.xd [(f, v)])) ⟨G, g, dr, tk', os⟩ := I1.laid (t' := tk') old M.dbig ob
    refine ⟨e, _, _, ⟨G, g, dr, tk', os⟩, _, .ref C, some d, rfl, J, fun b o q => ?_, ge, hoe, ⟨rfl, rfl⟩, rfl, rfl, ?_, rfl, I1.bare, raises_own T.exC T.tyC, q1 d (I1.hok.fresh M.dbig)⟩
    · by_cases hb : b = e
      · have q' : G.get? b = some o := q
        rw [hb, ge] at q'
        cases q'
      · exact (gk b hb).symm.trans q
    · rw [upd_ne (Ne.symm M.dne)]
      exact I1.hok.fresh M.new
def tRaiseE (C : Addr) (f : Str) (W : WX) (ta : TA) : TS := fun _ σ H => tMkX C f ta σ H fun cls d H' => W cls d σ H'
theorem ps_raiseE {a : Expr} {ta : TA} {W : WX} {p pos pos2 : Pos} {k : Nat} (hc : X.calm = true) (T : WkX.ExcT X.K X.mg x f C fI) (hr : Room k X.A) (tk : Takes X W) (ha : PA X [a] ta) (hg : Gl X x := by rfl) (hdb : (x == ("__debug__" : Str)) = false := by decide)
    (he : starEach (a :: []) X.env = (false, eval a X.env) :: starEach [] X.env := by rfl) (hpl : (backTo pos (starEach [] X.env)).any (·.1) = false := by rfl) :
    PS X (.Raise (some (.Call (.Name x p) [a] [] pos)) none pos2) (tRaiseE C f W ta) := ps_raise hc tk (pmk_E T hr ha hg hdb he hpl)
end
theorem passF {X : Cx} : Passes (CX X.prog X.w) X (fun _ _ _ => False) := fun _ _ _ _ _ _ _ c => by
  obtain ⟨a, B, H', cls, d, _, _, _, _, _, _, _, z⟩ := c
  exact z.elim
section
variable {X : Cx} {pins : List (Addr × Obj)} {σ : L2.St} {H : Hp} {s : Shared}
end
section
variable {X : Cx} {x n : Str} {c : Value} {i : Nat} {body suite : List Stmt} {b₀ : Stmt} {np pos pos' : Pos} {tb : WX → TS} {ts : Addr → Value → Option Addr → TS} {Wout : WX}
end
end WkK
namespace Wk
open PySem PySem.Spec PyProof.Rows L2 WkD WkN LamX WkP WkE WkC
section
variable {P : Program} {w : World} {K : PySem.W.Frag} {mg : Str → Option Value} {base : Heap}
def RowsX (b : Bool) (H : Hp) (a : Addr) (Vs : List Str) (ad : Str → Addr) (nb : Nb) (wt : Wt) : Prop := match b with
  | true => RowsZ H a Vs ad nb wt
  | false => RowsM H a Vs ad nb wt
theorem rows_fz {b : Bool} {H : Hp} {a : Addr} {Vs : List Str} {ad : Str → Addr} {nb : Nb} {wt : Wt} {Q : Hp → Prop} (R : RowsX b H a Vs ad nb wt) (k : ∀ H', RowsZ H' a Vs ad nb wt → (∀ c o, H c = some o → (b = false → c ≠ a ∧ ∀ u ∈ Vs, c ≠ ad u) → H' c = some o) → Q H') : ∃ l, tFz l Q H := by
  cases b with
  | true => exact ⟨[], k H R fun c o h _ => h⟩
  | false =>
    have R : RowsM H a Vs ad nb wt := R
    refine ⟨(a, .dK (dct Vs fun u => .ref (ad u))) :: Vs.map fun u => (ad u, .dK (dct (nb u) fun v => .int (wt u v))), tFz_intro (fun p hp => ?_) ?_ fun H' h1 h2 => k H' ⟨?_, fun u hu => ?_⟩ fun c o hc hn => ?_⟩
    · rcases List.mem_cons.mp hp with rfl | hp
      · exact ⟨R.top, trivial⟩
      · obtain ⟨u, hu, rfl⟩ := List.mem_map.mp hp
        exact ⟨R.row u hu, trivial⟩
    · rw [List.map_cons, List.map_map, List.nodup_cons]
      refine ⟨fun z => ?_, ?_⟩
      · obtain ⟨u, hu, e⟩ := List.mem_map.mp z
        exact R.ne hu e
      · have := R.nd
        rw [List.nodup_iff_pairwise_ne] at this ⊢
        rw [List.pairwise_map]
        exact List.Pairwise.imp_of_mem (fun {u v} hu hv hne e => hne (R.inj u hu v hv e)) this
    · exact h1 (a, _) List.mem_cons_self
    · exact h1 (ad u, _) (List.mem_cons_of_mem _ (List.mem_map.mpr ⟨u, hu, rfl⟩))
    · obtain ⟨n1, n2⟩ := hn rfl
      rw [h2 c fun z => ?_]
      · exact hc
      · rw [List.map_cons, List.map_map] at z
        rcases List.mem_cons.mp z with z | z
        · exact n1 z
        · obtain ⟨u, hu, e⟩ := List.mem_map.mp z
          exact n2 u hu e.symm
structure GraphAt (H : Hp) (x C : Addr) (Ws : List Str) (nb : Nb) (wt : Wt) : Prop where
  ex : ∃ (dx p : Addr) (t : Str) (ad : Str → Addr), H x = some (.ins C dx [("around", .ref p), ("top", .str t)]) ∧ RowsZ H p Ws ad nb wt
  asc : Asc Ws
  an : ∀ u ∈ Ws, Asc (nb u)
def spGraphOf (C : Addr) : Sp := fun vs H Q _ => ∃ (a : Addr) (b : Bool) (Vs : List Str) (ad : Str → Addr) (nb : Nb) (wt : Wt), vs = [.ref a] ∧ RowsX b H a Vs ad nb wt ∧ GOk Vs nb wt ∧
  ∀ x Ws nb' wt' H', (∀ c o, H c = some o → (b = false → c ≠ a ∧ ∀ u ∈ Vs, c ≠ ad u) → H' c = some o) → H x = none → GraphAt H' x C Ws nb' wt' → Ws.Perm Vs → SameG Vs nb wt nb' wt' → Q (.ref x) H'
theorem sc_graph_of : FnScope ["around", "edges", "u", "row", "v", "weight"] ["around"] (defScope s_graph_of) := ⟨rfl, rfl, rfl, by decide +kernel, rfl, by decide +kernel, by decide +kernel⟩
theorem c_graph_of {CG : Addr} (D : Def K mg "graph_of" s_graph_of) (B : Bi mg) (gc : GCls K CG) (GC : MakeC P w K mg base CX0 CG "Graph" 3 (spGraph K)) : Callee P w K mg base CX0 5 "graph_of" ["around"] (spGraphOf CG) := by
  obtain ⟨f, fd, F, g⟩ := D
  refine ⟨f, fd, F.ok sc_graph_of (fun vs H Q E h => ?_) (fun cdv A outer s H vs Q E hr h => ?_), g, F.kp, F.bindsN (fun _ _ _ _ _ _ us hl => match us, hl with | [_], _ => rfl)⟩
  · obtain ⟨a, b, Vs, ad, nb, wt, rfl, _⟩ := h
    rfl
  have nd := sc_graph_of.nd
  have hr4 : Room 4 _ := hr
  refine ⟨_, PSs.nox (pss_cons (WkD.ps_fz0 (ps_setLc2 (i := 1) (own := [("u", 2), ("row", 3), ("v", 4), ("weight", 5)]) (vs1 := [4, 5]) (by rfl) nd rfl rfl (sw_true rfl rfl rfl (by decide +kernel)) (pi_items (pv 0)) (blkOk_by (by kernel_rfl)) (by decide) (fun _ _ _ _ _ => (WkN.pgT K 2 rfl rfl (pgs_cons (pg_name (i := 2) nd rfl (Or.inl rfl)) (pgs_cons (pg_name (i := 3) nd rfl (Or.inl rfl)) pgs_nil)) rfl)) (fun _ _ _ _ _ => pts_nil) (fun _ _ _ _ _ => (pi_items (pv 3))) (fun _ _ _ _ _ => (WkN.pgT K 2 rfl rfl (pgs_cons (pg_name (i := 4) nd rfl (Or.inl rfl)) (pgs_cons (pg_name (i := 5) nd rfl (Or.inl rfl)) pgs_nil)) rfl)) (fun _ _ _ _ _ => (pts_one (pt_cmpR op_lt_str (pv 2) (pv 4) (nomark _)))) (fun _ _ _ _ _ => (pe_tup (pa_cons (pv 2) (pa_cons (pv 4) (pa_cons (pv 5) pa_nil)))))))
      (pss_one (ps_ret (WkC.pe_mk GC hr4 pass0 (pa_cons (pe_callTy (call_listD rfl) (by rfl) B.n_list (by decide +kernel) (pa_cons (pv 0) pa_nil)) (pa_cons (pv 1) pa_nil)))))), ?_⟩
  obtain ⟨a, b, Vs, ad, nb, wt, rfl, R0, go, k⟩ := h
  refine rows_fz R0 fun H0 R k0 => ?_
  obtain ⟨o, ht⟩ := R.top
  have big : 2000000 < sizeLine := by decide
  have l1 := go.few
  have l2 : ∀ u ∈ Vs, (nb u).length ≤ 1000 := fun u hu => by
    have : (nb u).length ≤ Vs.length := (go.sym.nd u hu).length_le_of_subset fun y hy => (go.sym.mem u hu y hy).1
    omega
  refine ⟨_, rfl, a, o, _, rfl, ht, fun D nD => ?_⟩
  refine in_it (walk_items (kvs := dct Vs fun u => .ref (ad u))) (fun i Hc => ∃ rs : List Addr, Same H0 Hc ∧ Hc D = some (.lst (rs.map V.ref)) ∧ EdsAt K Hc rs (edL (Vs.take i) nb wt) ∧ rs.length ≤ 1000 * i)
    ⟨[], same_upd nD, upd_same, ⟨rfl, fun i r e h => absurd h (by simp)⟩, by simp⟩ ?_ ?_ ?_
  · rintro i Hc hi ⟨rs, q1, q2, q3, q4⟩
    exact q1 _ _ ht
  · rintro i x Hc Hc' hi ⟨rs, q1, q2, q3, q4⟩ ⟨T, kx, vx, rfl, nT, rfl, hkx, hvx⟩
    rw [dct_len] at hi
    dsimp only at hkx hvx
    rw [dct_at, List.getElem?_eq_getElem hi] at hkx hvx
    cases hkx
    cases hvx
    obtain ⟨u, eu⟩ : ∃ u, u = Vs[i] := ⟨_, rfl⟩
    have hu : u ∈ Vs := eu ▸ List.getElem_mem hi
    have tk := takeS (List.getElem?_eq_getElem hi)
    rw [← eu] at tk
    have s1 : Same H0 (upd Hc T (.tup [.str u, .ref (ad u)])) := q1.trans (same_upd nT)
    have D1 := (same_upd (o := .tup [.str u, .ref (ad u)]) nT) _ _ q2
    have E1 := q3.same (same_upd (o := .tup [.str u, .ref (ad u)]) nT)
    have P1 : upd Hc T (.tup [.str u, .ref (ad u)]) T = some (.tup [.str u, .ref (ad u)]) := upd_same
    rw [← eu]
    show gTup _ _ _ _ _ (upd Hc T (.tup [.str u, .ref (ad u)])) _
    generalize upd Hc T (.tup [.str u, .ref (ad u)]) = H1 at s1 D1 E1 P1
    refine ⟨T, _, rfl, .inl (.inl P1), rfl, _, _, rfl, _, _, rfl, rfl, rfl, tYes_if ?_⟩
    obtain ⟨o2, hr2⟩ := R.row u hu
    refine ⟨_, rfl, ad u, o2, _, rfl, s1 _ _ hr2, ?_⟩
    have ln := l2 u hu
    refine in_it (walk_items (kvs := dct (nb u) fun v => .int (wt u v))) (fun j Hc => ∃ rs : List Addr, Same H0 Hc ∧ Hc D = some (.lst (rs.map V.ref)) ∧ EdsAt K Hc rs (edL (Vs.take i) nb wt ++ edR nb wt u ((nb u).take j)) ∧ rs.length ≤ 1000 * i + j)
      ⟨rs, s1, D1, by simpa [edR] using E1, by omega⟩ ?_ ?_ ?_
    · rintro j Hc hj ⟨rs, q1, q2, q3, q4⟩
      exact q1 _ _ hr2
    · rintro j x Hc Hc' hj ⟨rs, q1, q2, q3, q4⟩ ⟨T2, kx, vx, rfl, nT2, rfl, hkx, hvx⟩
      rw [dct_len] at hj
      dsimp only at hkx hvx
      rw [dct_at, List.getElem?_eq_getElem hj] at hkx hvx
      cases hkx
      cases hvx
      obtain ⟨v, ev⟩ : ∃ v, v = (nb u)[j] := ⟨_, rfl⟩
      have tk2 := takeS (List.getElem?_eq_getElem hj)
      rw [← ev] at tk2 ⊢
      have s1 : Same H0 (upd Hc T2 (.tup [.str v, .int (wt u v)])) := q1.trans (same_upd nT2)
      have D1 := (same_upd (o := .tup [.str v, .int (wt u v)]) nT2) _ _ q2
      have E1 := q3.same (same_upd (o := .tup [.str v, .int (wt u v)]) nT2)
      have P1 : upd Hc T2 (.tup [.str v, .int (wt u v)]) T2 = some (.tup [.str v, .int (wt u v)]) := upd_same
      show gTup _ _ _ _ _ (upd Hc T2 (.tup [.str v, .int (wt u v)])) _
      generalize upd Hc T2 (.tup [.str v, .int (wt u v)]) = H1 at s1 D1 E1 P1
      refine ⟨T2, _, rfl, .inl (.inl P1), rfl, _, _, rfl, _, _, rfl, rfl, rfl, ?_⟩
      have ef : edR nb wt u ((nb u).take (j + 1)) = edR nb wt u ((nb u).take j) ++ (if ltS u v then [(u, v, wt u v)] else []) := by
        rw [tk2]
        unfold edR
        rw [List.filter_append, List.map_append]
        congr 1
        by_cases h : ltS u v
        · simp [h]
        · simp [h]
      refine ⟨_, rfl, _, rfl, _, _, rfl, rfl, _, rfl, ite2 (fun hb => ?_) (fun hb => ?_)⟩
      · have hb : ltS u v := of_decide_eq_true hb
        refine ⟨_, rfl, _, rfl, _, rfl, by show 3 ≤ sizeLine; decide, fun p np => ?_⟩
        have D2 := (same_upd (o := .tup [.str u, .str v, .int (wt u v)]) np) _ _ D1
        refine ⟨_, D2, by rw [List.length_map]; omega, rs ++ [p], ?_, ?_, ?_, ?_⟩
        · intro b o hb
          rw [upd_ne (ne_of_none hb nD)]
          exact (same_upd np) _ _ (s1 _ _ hb)
        · rw [upd_same, List.map_append]
          rfl
        · rw [ef, if_pos hb, ← List.append_assoc]
          have npD : p ≠ D := fun z => by
            rw [z, D1] at np
            cases np
          have E2 : EdsAt K (upd (upd H1 p (.tup [.str u, .str v, .int (wt u v)])) D (.lst (rs.map V.ref ++ [.ref p]))) rs (edL (Vs.take i) nb wt ++ edR nb wt u ((nb u).take j)) := by
            refine ⟨E1.1, fun i r e h1 h2 => ?_⟩
            have z := WkG.seqT_same (same_upd (o := .tup [.str u, .str v, .int (wt u v)]) np) (E1.2 i r e h1 h2)
            rcases z with (z | ⟨o, z⟩) | z
            · exact .inl (.inl (by rw [upd_ne (ne_of z D2 (by intro q; cases q))]; exact z))
            · exact .inl (.inr ⟨o, by rw [upd_ne (ne_of z D2 (by intro q; cases q))]; exact z⟩)
            · exact .inr z
          exact E2.snoc (fun _ _ h => h) (by rw [upd_ne npD, upd_same])
        · rw [List.length_append, List.length_singleton]
          omega
      · have hb : ¬ ltS u v := fun z => hb (decide_eq_true z)
        exact ⟨rs, s1, D1, by rw [ef, if_neg hb, List.append_nil]; exact E1, by omega⟩
    · rintro Hc ⟨rs, q1, q2, q3, q4⟩
      rw [dct_len] at q3 q4
      refine ⟨rs, q1, q2, ?_, by rw [Nat.mul_add]; omega⟩
      rw [List.take_length] at q3
      rw [tk]
      unfold edL at q3 ⊢
      rw [List.flatMap_append]
      simpa using q3
  · rintro Hc ⟨rs, q1, q2, q3, q4⟩
    rw [dct_len, List.take_length] at q3
    obtain ⟨oc, htc⟩ : ∃ oc, Hc a = some (.frz oc (.dK (dct Vs fun u => .ref (ad u)))) := ⟨o, q1 _ _ ht⟩
    refine ⟨_, rfl, a, _, rfl, .inr ⟨oc, htc⟩, fun p1 n1 => ?_⟩
    rw [dct_kV]
    generalize gg1 : upd _ p1 _ = G1; obtain ⟨s1, L1⟩ := new_eq n1 gg1; clear gg1
    refine ⟨_, rfl, ?_⟩
    intro x dx nx ndx nex
    have s2 : Same G1 (upd G1 dx (.own x)) := same_upd ndx
    have nx1 : upd G1 dx (.own x) x = none := by rw [upd_ne (Ne.symm nex)]; exact nx
    have s3 := s2.trans (same_upd (o := .ins CG dx []) nx1)
    refine ⟨x, CG, dx, p1, D, true, true, Vs, _, rs, rfl, upd_same, gc, (s3.seq (SqL.of L1) : SqL K _ p1 _), (s3.seq (SqL.of (s1 _ _ q2)) : SqL K _ D _), (q3.same s1).same s3, go.valid, fun p Ws bd nb' wt' t H' kH np hx' rz pm as ro an ht' hmin => ⟨rfl, ?_⟩⟩
    have nxH0 : H0 x = none := np_of (q1.trans s1) nx
    have nxH : H x = none := by
      cases z : H x with
      | none => rfl
      | some ob =>
        by_cases e : b = false ∧ (x = a ∨ ∃ u ∈ Vs, x = ad u)
        · obtain ⟨_, e | ⟨u, hu, e⟩⟩ := e
          · rw [e, ht] at nxH0
            cases nxH0
          · obtain ⟨o2, h2⟩ := R.row u hu
            rw [e, h2] at nxH0
            cases nxH0
        · rw [k0 x ob z fun hb => ⟨fun e1 => e ⟨hb, .inl e1⟩, fun u hu e1 => e ⟨hb, .inr ⟨u, hu, e1⟩⟩⟩] at nxH0
          cases nxH0
    refine k x Ws nb' wt' H' (fun c ob hc hn => ?_) nxH ⟨⟨dx, p, t, bd, hx', rz⟩, as, an⟩ pm (SameG.of_rows go.sym ro)
    refine kH c ob (s3 _ _ (s1 _ _ (q1 _ _ (k0 c ob hc hn)))) (ne_of_none hc nxH)
structure FCls (K : PySem.W.Frag) (C : Addr) : Prop where
  cls : Cls K C
  na : NoAttr K C "around"
  nt : NoAttr K C "top"
  nf : NoAttr K C "found"
  nm : NoAttr K C "made"
  ne : NoAttr K C "entries"
  nr : NoAttr K C "running"
  ns : NoAttr K C "since"
theorem NCls.f {C D fG : Addr} (h : NCls K C D fG) : FCls K C := ⟨h.g.cls, h.g.na, h.g.nt, h.nf, h.nm, h.ne, h.nr, h.ns⟩
def RestOk (rest : List (Str × V)) : Prop := rest = [] ∨ ∃ v, rest = [(("least" : Str), v)]
theorem RestOk.no {rest : List (Str × V)} (h : RestOk rest) {m : Str} (hm : (m == ("least" : Str)) = false) : rest.lookup m = none := by
  rcases h with rfl | ⟨v, rfl⟩
  · rfl
  · rw [List.lookup_cons, hm]
    rfl
theorem RestOk.len {rest : List (Str × V)} (h : RestOk rest) : rest.length ≤ 1 := by
  rcases h with rfl | ⟨v, rfl⟩
  · exact Nat.zero_le _
  · exact Nat.le_refl _
structure NetO (H : Hp) (x C : Addr) (rest : List (Str × V)) (vs : List Str) (nb : Nb) (wt : Wt) (t : Str) (n : Int) (m e : Addr) (r s : Int) : Prop where
  ex : ∃ (dx p : Addr) (ad : Str → Addr), H x = some (.ins C dx (netF p t n m e r s ++ rest)) ∧ RowsZ H p vs ad nb wt
  rst : RestOk rest
  asc : Asc vs
  an : ∀ u ∈ vs, Asc (nb u)
  gok : GOk vs nb wt
  lc : ∃ ms, LeastCut vs nb wt n ms
  rt : t ∈ vs
theorem tabs_rows {T : List (Addr × Str)} {b : Bool} {H H' : Hp} {a : Addr} {Vs : List Str} {ad : Str → Addr} {nb : Nb} {wt : Wt} (R : RowsX b H a Vs ad nb wt) (t : Tabs T H) (k : ∀ c o, H c = some o → (b = false → c ≠ a ∧ ∀ u ∈ Vs, c ≠ ad u) → H' c = some o) : Tabs T H' := fun p hp => by
  obtain ⟨ps, h1, h2, h3⟩ := t p hp
  have no : ∀ c o, H c = some o → (∀ kvs, o ≠ .dK kvs) → H' c = some o := fun c o h n => k c o h fun hb => by
    subst hb
    have R : RowsM H a Vs ad nb wt := R
    exact ⟨ne_of h R.top (n _), fun u hu => ne_of h (R.row u hu) (n _)⟩
  refine ⟨ps, no _ _ h1 (fun kvs z => by cases z), h2, fun pos cv hc => ?_⟩
  obtain ⟨c, e1, e2⟩ := h3 pos cv hc
  exact ⟨c, e1, no _ _ e2 (fun kvs z => by cases z)⟩
def spCk : Sp := fun vs H Q _ => ∃ (x : Addr) (n : Int), vs = [.ref x, .int n] ∧ Q .non H
theorem sc_ck : FnScope ["self", "strength"] ["self", "strength"] (defScope s_Network_check_strength) := ⟨rfl, rfl, rfl, by decide +kernel, rfl, by decide +kernel, by decide +kernel⟩
theorem ok_ck {f : Addr} {fd : FuncData} (F : FnP K "check_strength" "Network.check_strength" s_Network_check_strength f fd) : FnOk P w K mg base CX0 1 f fd ["self", "strength"] spCk := by
  refine F.ok sc_ck (fun vs H Q E h => ?_) (fun cdv A outer s H vs Q E hr h => ⟨_, PSs.nox (pss_one ps_pass), ?_⟩)
  · obtain ⟨x, n, rfl, _⟩ := h
    rfl
  · obtain ⟨x, n, rfl, k⟩ := h
    exact k
structure AccC (P : Program) (w : World) (K : PySem.W.Frag) (mg : Str → Option Value) (base : Heap) (C : Addr) : Prop where
  f : FCls K C
  ck : MethC P w K mg base CX0 C "check_strength" 1 spCk
theorem AccC.cls {C : Addr} (h : AccC P w K mg base C) : Cls K C := h.f.cls
def AccE (b : Bool) (x a : Addr) (Vs : List Str) (ad : Str → Addr) (H H' : Hp) : Prop := ∀ c o, H c = some o → c ≠ x → (∀ ps, o ≠ .tbl ps) → (b = false → c ≠ a ∧ ∀ u ∈ Vs, c ≠ ad u) → H' c = some o
def spAccept (K : PySem.W.Frag) (T : List (Addr × Str)) (C : Addr) : Sp := fun vs H Q _ => ∃ (x ed a dx p m e : Addr) (rest : List (Str × V)) (t t0 : Str) (n r s : Int) (ms : List V) (b : Bool) (Vs : List Str) (ad : Str → Addr) (nb : Nb) (wt : Wt), vs = [.ref x, .ref ed, .ref a, .str t] ∧
  H x = some (.ins C dx (netF p t0 n m e r s ++ rest)) ∧ RestOk rest ∧ SqT K H m ms ∧ ms.length < 1000000 ∧ RowsX b H a Vs ad nb wt ∧ GOk Vs nb wt ∧ t ∈ Vs ∧ Tabs T H ∧
  ∀ Ws nb' wt' n' m' H', AccE b x a Vs ad H H' → Tabs T H' → NetO H' x C rest Ws nb' wt' t n' m' e r (s + 1) → H' m' = some (.tup (ms ++ [.ref ed])) → Ws.Perm Vs → SameG Vs nb wt nb' wt' → Q .non H'
theorem sc_accept : FnScope ["self", "edit", "around", "top", "graph", "strength"] ["self", "edit", "around", "top"] (defScope s_Network_accept) := ⟨rfl, rfl, rfl, by decide +kernel, rfl, by decide +kernel, by decide +kernel⟩
theorem ok_accept {f : Addr} {fd : FuncData} {CG C : Addr} {tbT : List (Addr × Str)} (F : FnP K "accept" "Network.accept" s_Network_accept f fd) (gc : GCls K CG) (NK : AccC P w K mg base C) (CG : Callee P w K mg base CX0 5 "graph_of" ["around"] (spGraphOf CG))
    (CS : Callee P w K mg base CX0 5 "strength_of" ["graph"] (spStrength K tbT)) : FnOk P w K mg base CX0 6 f fd ["self", "edit", "around", "top"] (spAccept K tbT C) := by
  refine F.ok sc_accept (fun vs H Q E h => ?_) (fun cdv A outer s H vs Q E hr h => ?_)
  · obtain ⟨x, ed, a, dx, p, m, e, rest, t, t0, n, r, s, ms, b, Vs, ad, nb, wt, rfl, _⟩ := h
    rfl
  have nd := sc_accept.nd
  have hr5 : Room 5 _ := hr
  have hr1 : Room 1 _ := hr.mono (by decide)
  refine ⟨_, PSs.nox (pss_cons (ps_set (i := 4) nd rfl (Or.inl rfl) (pe_c CG hr5 pass0 (pa_cons (pv 2) pa_nil)))
      (pss_cons (ps_set (i := 5) nd rfl (Or.inl rfl) (pe_c CS hr5 pass0 (pa_cons (pv 4) pa_nil)))
      (pss_cons (ps_expr (WkC.pe_mt NK.ck NK.cls hr1 pass0 (pv 0) (pa_cons (pv 5) pa_nil)))
      (pss_cons (ps_asg (pe_tup (pa_cons (pe_fld (pv 4) rfl) (pa_cons (pv 3) (pa_cons (pv 5) pa_nil)))) (WkN.pgT K 3 rfl rfl (pgs_cons (WkK.pg_at (pv 0)) (pgs_cons (WkK.pg_at (pv 0)) (pgs_cons (WkK.pg_at (pv 0)) pgs_nil))) rfl))
      (pss_cons (ps_fld (pv 0) (pe_tup (StX.pa_star (pe_fld (pv 0) rfl) (pa_cons (pv 1) pa_nil))) rfl)
      (pss_one (ps_fldaug (pv 0) pe_int in_add))))))), ?_⟩
  obtain ⟨x, ed, a, dx, p, m, e, rest, t, t0, n, r, s, ms, b, Vs, ad, nb, wt, rfl, hx, hre, hm, hml, R0, go, htV, hT, k⟩ := h
  have big : 10000000 < sizeLine := by decide
  have rlen := hre.len
  refine ⟨_, rfl, a, b, Vs, ad, nb, wt, rfl, R0, go, fun g Ws nb' wt' H1 k1 ng ga pm sg => ?_⟩
  obtain ⟨dg, pg, tg, bd, hg, rz⟩ := ga.ex
  have T1 := tabs_rows R0 hT k1
  have noD : ∀ c o, H c = some o → (∀ kvs, o ≠ .dK kvs) → b = false → c ≠ a ∧ ∀ u ∈ Vs, c ≠ ad u := fun c o h n hb => by
    subst hb
    have R : RowsM H a Vs ad nb wt := R0
    exact ⟨ne_of h R.top (n _), fun u hu => ne_of h (R.row u hu) (n _)⟩
  have hx1 := k1 _ _ hx (noD _ _ hx fun kvs z => by cases z)
  have go' := sg.gok go pm fun u hu => asc_nodup (ga.an u hu)
  have few := go'.few
  refine ⟨_, rfl, g, _, dg, _, pg, tg, Ws, bd, nb', wt', rfl, ⟨hg, gc.cls, gc.na, gc.nt, rfl, rfl⟩, rz, go'.nd, go'.sym, go'.two, by omega, T1, fun n' lm H2 e2 T2 lc => ?_⟩
  have hx2 := e2 _ _ hx1 (fun ps z => by cases z)
  have hg2 := e2 _ _ hg (fun ps z => by cases z)
  have rz2 := rz.ext e2
  refine ⟨_, rfl, x, dx, _, rfl, hx2, hre.no (by decide), _, rfl, x, n', rfl, ?_⟩
  refine ⟨_, rfl, g, _, dg, _, _, rfl, hg2, gc.cls, gc.na, rfl, _, rfl, _, rfl, by show 3 ≤ sizeLine; omega, fun p3 n3 => ?_⟩
  generalize gg3 : upd _ p3 _ = G3; obtain ⟨s3, L3⟩ := new_eq n3 gg3; clear gg3
  have hx3 := s3 _ _ hx2
  refine ⟨p3, _, rfl, .inl (.inl L3), rfl, _, _, rfl, _, rfl, x, C, dx, _, rfl, hx3, NK.f.cls, NK.f.na, by simp [netF]; omega, ?_⟩
  refine ⟨_, _, rfl, _, rfl, x, C, dx, _, rfl, upd_same, NK.f.cls, NK.f.nt, by show rest.length + 7 < 1000; omega, ?_⟩
  refine ⟨_, _, rfl, _, rfl, x, C, dx, _, rfl, upd_same, NK.f.cls, NK.f.nf, by show rest.length + 7 < 1000; omega, rfl, ?_⟩
  rw [upd_upd, upd_upd]
  have hx4 : upd G3 x (.ins C dx (putF "found" (.int n') (putF "top" (.str t) (putF "around" (.ref pg) (netF p t0 n m e r s ++ rest))))) x = some (.ins C dx (netF pg t n' m e r s ++ rest)) := upd_same
  have k4 : ∀ c o, G3 c = some o → c ≠ x → upd G3 x (.ins C dx (putF "found" (.int n') (putF "top" (.str t) (putF "around" (.ref pg) (netF p t0 n m e r s ++ rest))))) c = some o := fun c o h hne => by
    rw [upd_ne hne]
    exact h
  have T4 : Tabs tbT (upd G3 x (.ins C dx (putF "found" (.int n') (putF "top" (.str t) (putF "around" (.ref pg) (netF p t0 n m e r s ++ rest)))))) := tabs_upd (T2.ext s3) hx3 trivial
  generalize upd G3 x (.ins C dx (putF "found" (.int n') (putF "top" (.str t) (putF "around" (.ref pg) (netF p t0 n m e r s ++ rest))))) = H4 at hx4 k4 T4 ⊢
  have k04 : AccE b x a Vs ad H H4 := fun c o h hne nt hn => k4 c o (s3 _ _ (e2 _ _ (k1 c o h hn) nt)) hne
  have hm4 : SqT K H4 m ms := by
    rcases hm with (h | ⟨o, h⟩) | h
    · exact .inl (.inl (k04 _ _ h (ne_of h hx (by intro z; cases z)) (fun ps z => by cases z) (noD _ _ h fun kvs z => by cases z)))
    · exact .inl (.inr ⟨o, k04 _ _ h (ne_of h hx (by intro z; cases z)) (fun ps z => by cases z) (noD _ _ h fun kvs z => by cases z)⟩)
    · exact .inr h
  refine ⟨_, rfl, x, C, dx, _, _, rfl, hx4, NK.f.cls, NK.f.nm, rfl, m, ms, rfl, .inl hm4, _, rfl, by rw [List.length_append]; show ms.length + 1 ≤ sizeLine; omega, fun p5 n5 => ?_⟩
  generalize gg5 : upd _ p5 _ = G5; obtain ⟨s5, L5⟩ := new_eq n5 gg5; clear gg5
  have hx5 := s5 _ _ hx4
  have n5x : p5 ≠ x := Ne.symm (ne_of_none hx4 n5)
  refine ⟨_, rfl, x, C, dx, _, rfl, hx5, NK.f.cls, NK.f.nm, by simp [netF]; omega, ?_⟩
  refine ⟨_, rfl, x, C, dx, _, _, rfl, upd_same, NK.f.cls, NK.f.ns, rfl, _, _, rfl, rfl, _, _, upd_same, by show rest.length + 7 < 1000; omega, ?_⟩
  rw [upd_upd]
  refine k Ws nb' wt' n' p5 _ (fun c o h hne nt hn => ?_) (tabs_upd (T4.ext s5) hx5 trivial) ⟨⟨dx, pg, bd, upd_same, ?_⟩, hre, ga.asc, ga.an, go', ⟨_, lc⟩, pm.mem_iff.mpr htV⟩ ?_ pm sg
  · rw [upd_ne hne]
    exact s5 _ _ (k04 c o h hne nt hn)
  · have rz4 : RowsZ G5 pg Ws bd nb' wt' := by
      have z3 := rz2.ext (Ext.of s3)
      exact (ExtB.rz (x := x) (fun c o h hne _ => k4 c o h hne) z3 hx3).ext (Ext.of s5)
    exact ExtB.rz (x := x) (fun c o h hne _ => by rw [upd_ne hne]; exact h) rz4 hx5
  · rw [upd_ne n5x]
    exact L5
end
end Wk
namespace Wk
open PySem PySem.Spec PyProof.Rows L2 WkD WkN LamX WkP WkE WkC
section
variable {P : Program} {w : World} {K : PySem.W.Frag} {mg : Str → Option Value} {base : Heap}
def AnyV (K : PySem.W.Frag) (H : Hp) (x : V) : Prop := (∃ z, x = .str z ∧ z.length ≤ sizeLine) ∨ ((∀ z, x ≠ .str z) ∧ ∃ t, TyX K H x t ∧ PySem.W.kitOne K t (.type "str") = some false)
theorem tyx_same {H H' : Hp} {x : V} {t : Value} (e : Same H H') (h : TyX K H x t) : TyX K H' x t := by
  cases h with
  | base b =>
    cases b with
    | non => exact .base .non
    | bl b => exact .base (.bl b)
    | int i => exact .base (.int i)
    | str z => exact .base (.str z)
    | flt z => exact .base (.flt z)
    | lst h => exact .base (.lst (e _ _ h))
    | frz h => exact .base (.frz (e _ _ h))
    | tup h => exact .base (.tup (e _ _ h))
    | dK h => exact .base (.dK (e _ _ h))
    | dT h => exact .base (.dT (e _ _ h))
    | ins h q1 q2 q3 q4 q5 => exact .base (.ins (e _ _ h) q1 q2 q3 q4 q5)
  | byt b => exact .byt b
  | set h => exact .set (e _ _ h)
  | kList h c => exact .kList h c
  | kTuple h c => exact .kTuple h c
  | kDict h c => exact .kDict h c
  | fTuple h => exact .fTuple (e _ _ h)
  | fDict h => exact .fDict (e _ _ h)
def IsIn (x : V) (Vs : List Str) : Prop := ∃ z ∈ Vs, x = .str z
def spCheck (K : PySem.W.Frag) (CU : Addr) : Sp := fun vs H Q E => ∃ (g C dx : Addr) (fs : List (Str × V)) (a : Addr) (top : Str) (Vs : List Str) (ad : Str → Addr) (nb : Nb) (wt : Wt) (x : V), vs = [.ref g, x] ∧ GAt K H g C dx fs a top ∧ RowsZ H a Vs ad nb wt ∧ (∀ u ∈ Vs, nameB u = true) ∧ AnyV K H x ∧
  (IsIn x Vs → ∀ H', Same H H' → Q .non H') ∧ (¬ IsIn x Vs → ∀ d H', Same H H' → H d = none → H' d = some (.xd [("value", x)]) → E (.ref CU) (some d) H')
theorem sc_check_vertex : FnScope ["self", "value"] ["self", "value"] (defScope s_Graph_check_vertex) := ⟨rfl, rfl, rfl, by decide +kernel, rfl, by decide +kernel, by decide +kernel⟩
theorem ok_check_vertex {f CU fI : Addr} {fd : FuncData} (F : FnP K "check_vertex" "Graph.check_vertex" s_Graph_check_vertex f fd) (TU : WkX.ExcT K mg "UnknownVertex" "value" CU fI) (CN : Callee P w K mg base CX0 1 "is_name" ["value"] (spName K)) : FnOk P w K mg base (CX P w) 2 f fd ["self", "value"] (spCheck K CU) := by
  refine F.ok sc_check_vertex (fun vs H Q E h => ?_) (fun cdv A outer s H vs Q E hr h => ?_)
  · obtain ⟨g, C, dx, fs, a, top, Vs, ad, nb, wt, x, rfl, _⟩ := h
    rfl
  have hu := hu_of hr
  have hr1 : Room 1 _ := hr
  refine ⟨_, (pss_one (ps_if (PW.pt (pw_or (pt_not (pt_val (pe_c CN hr1 pass0 (pa_cons (pv 1) pa_nil)))) (pw_or1 (pt_cmp (pc_dnotin hu (pv 1) (pe_fld (pv 0) rfl))))))
      (pss_one (WkK.ps_raiseE rfl TU hr (takes_of rfl rfl rfl rfl) (pa_cons (pv 1) pa_nil))) pss_nil)), ?_⟩
  obtain ⟨g, C, dx, fs, a, top, Vs, ad, nb, wt, x, rfl, G, R, nm, av, k1, k2⟩ := h
  rcases av with ⟨z, rfl, hz⟩ | ⟨nz, t, ty, kt⟩
  · refine ⟨_, rfl, .inl ⟨z, rfl, hz, fun H1 s1 => ⟨_, rfl, ite2 (fun h => ?_) (fun h => ?_)⟩⟩⟩
    · have hn : z ∉ Vs := fun hm => by
        rw [nm z hm] at h
        cases h
      refine ⟨_, rfl, _, rfl, fun d nd_ => k2 (fun ⟨y, hy, e⟩ => ?_) d _ (s1.trans (same_upd nd_)) (np_of s1 nd_) upd_same⟩
      cases e
      exact hn hy
    · have R1 := R.ext (Ext.of s1)
      have G1 : GAt K H1 g C dx fs a top := G.ext (Ext.of s1)
      refine ⟨_, rfl, _, rfl, g, C, dx, _, _, rfl, G1.ins, G1.cls, G1.na, G1.la, a, _, rfl, get_x R1.r.top, _, rfl, ?_⟩
      by_cases hm : z ∈ Vs
      · rw [if_pos hm]
        refine ite2 (fun h => ?_) (fun _ => k1 ⟨z, hm, rfl⟩ H1 s1)
        cases h
      · rw [if_neg hm]
        refine ite2 (fun _ => ?_) (fun h => absurd rfl h)
        refine ⟨_, rfl, _, rfl, fun d nd_ => k2 (fun ⟨y, hy, e⟩ => ?_) d _ (s1.trans (same_upd nd_)) (np_of s1 nd_) upd_same⟩
        cases e
        exact hm hy
  · refine ⟨_, rfl, .inr ⟨x, t, rfl, ty, kt, ⟨_, rfl, ite2 (fun _ => ?_) (fun h => absurd rfl h)⟩⟩⟩
    refine ⟨_, rfl, _, rfl, fun d nd_ => k2 (fun ⟨y, _, e⟩ => nz y e) d _ (same_upd nd_) nd_ upd_same⟩
def spSetRoot (K : PySem.W.Frag) (T : List (Addr × Str)) (C CU : Addr) : Sp := fun vs H Q E => ∃ (x : Addr) (v : V) (rest : List (Str × V)) (t0 : Str) (n : Int) (m e : Addr) (r s : Int) (ms : List V) (Vs : List Str) (nb : Nb) (wt : Wt), vs = [.ref x, v] ∧
  NetO H x C rest Vs nb wt t0 n m e r s ∧ SqT K H m ms ∧ ms.length < 1000000 ∧ Tabs T H ∧ AnyV K H v ∧
  (∀ t, v = .str t → t ∈ Vs → ∀ nb' wt' n' m' ed H', (∀ c o, H c = some o → c ≠ x → (∀ ps, o ≠ .tbl ps) → H' c = some o) → Tabs T H' → NetO H' x C rest Vs nb' wt' t n' m' e r (s + 1) → H' m' = some (.tup (ms ++ [.ref ed])) → H' ed = some (.tup [.str "root", .str t]) → SameG Vs nb wt nb' wt' → Q .non H') ∧
  (¬ IsIn v Vs → ∀ d H', Same H H' → H d = none → H' d = some (.xd [("value", v)]) → E (.ref CU) (some d) H')
theorem sc_set_root : FnScope ["self", "vertex"] ["self", "vertex"] (defScope s_Network_set_root) := ⟨rfl, rfl, rfl, by decide +kernel, rfl, by decide +kernel, by decide +kernel⟩
theorem ok_set_root {f C CU : Addr} {fd : FuncData} {tbT : List (Addr × Str)} (F : FnP K "set_root" "Network.set_root" s_Network_set_root f fd) (NK : AccC P w K mg base C) (CV : MethC P w K mg base (CX P w) C "check_vertex" 2 (spCheck K CU)) (CA : MethC P w K mg base CX0 C "accept" 6 (spAccept K tbT C)) :
    FnOk P w K mg base (CX P w) 7 f fd ["self", "vertex"] (spSetRoot K tbT C CU) := by
  refine F.ok sc_set_root (fun vs H Q E h => ?_) (fun cdv A outer s H vs Q E hr h => ?_)
  · obtain ⟨x, v, rest, t0, n, m, e, r, s, ms, Vs, nb, wt, rfl, _⟩ := h
    rfl
  have hr7 : Room 6 _ := hr
  have hr2 : Room 2 _ := hr.mono (by decide)
  refine ⟨_, (pss_cons (ps_expr (WkC.pe_mt CV NK.cls hr2 (passes_call (takes_of rfl rfl rfl rfl) fun _ _ _ _ h => h) (pv 0) (pa_cons (pv 1) pa_nil)))
      (pss_one (ps_expr (WkC.pe_mt CA NK.cls hr7 pass0 (pv 0) (pa_cons (pe_tup (pa_cons pe_str (pa_cons (pv 1) pa_nil))) (pa_cons (pe_fld (pv 0) rfl) (pa_cons (pv 1) pa_nil))))))), ?_⟩
  obtain ⟨x, v, rest, t0, n, m, e, r, s, ms, Vs, nb, wt, rfl, N, hm, hml, hT, av, k1, k2⟩ := h
  obtain ⟨dx, p, ad, hx, rz⟩ := N.ex
  have GA : GAt K H x C dx (netF p t0 n m e r s ++ rest) p t0 := ⟨hx, NK.f.cls, NK.f.na, NK.f.nt, rfl, rfl⟩
  refine ⟨_, rfl, x, dx, _, rfl, hx, N.rst.no (by decide), _, rfl, x, C, dx, _, p, t0, Vs, ad, nb, wt, v, rfl, GA, rz, N.gok.nm, av, fun hin H1 s1 => ?_, k2⟩
  obtain ⟨t, ht, rfl⟩ := hin
  have hx1 := s1 _ _ hx
  refine ⟨_, rfl, x, dx, _, rfl, hx1, N.rst.no (by decide), _, rfl, by show 2 ≤ sizeLine; decide, fun ed ned => ?_⟩
  generalize gg : upd _ ed _ = G2
  obtain ⟨s2, L2⟩ := new_eq ned gg
  clear gg
  have hx2 := s2 _ _ hx1
  refine ⟨_, rfl, x, C, dx, _, _, rfl, hx2, NK.f.cls, NK.f.na, rfl, _, rfl, ?_⟩
  have s12 := s1.trans s2
  have rz2 : RowsZ G2 p Vs ad nb wt := rz.ext (Ext.of s12)
  refine ⟨x, ed, p, dx, p, m, e, rest, t, t0, n, r, s, ms, true, Vs, ad, nb, wt, rfl, hx2, N.rst, WkG.seqT_same s12 hm, hml, rz2, N.gok, ht, hT.ext s12, fun Ws nb' wt' n' m' H3 a3 T3 N3 hm3 pm sg => ?_⟩
  have eW : Ws = Vs := asc_uniq (R := ltS) ltS_irrefl (fun a b c => ltS_trans) N3.asc N.asc fun y => pm.mem_iff
  subst eW
  refine k1 t rfl ht nb' wt' n' m' ed H3 (fun c o h hne nt => a3 c o (s12 _ _ h) hne nt fun hb => nomatch hb) T3 N3 hm3 (a3 _ _ L2 (ne_of L2 hx2 (by intro z; cases z)) (fun ps z => by cases z) fun hb => nomatch hb) sg
end
end Wk
namespace Wk
open PySem PySem.Spec PyProof.Rows L2 WkD WkN LamX WkP WkE WkC
def PairStr (Vs : List Str) (w : Wf) (u v : Str) (n : Int) : Prop := (∃ S : Sd, S u = true ∧ S v = false ∧ cutW Vs w S = n) ∧ ∀ S : Sd, S u = true → S v = false → n ≤ cutW Vs w S
section
variable {P : Program} {w : World} {K : PySem.W.Frag} {mg : Str → Option Value} {base : Heap}
theorem anyv_same {H H' : Hp} {x : V} (h : AnyV K H x) (s : Same H H') : AnyV K H' x := by
  rcases h with h | ⟨h1, t, h2, h3⟩
  · exact .inl h
  · exact .inr ⟨h1, t, tyx_same s h2, h3⟩
structure PArg (K : PySem.W.Frag) (H : Hp) (g C dx : Addr) (fs : List (Str × V)) (a : Addr) (top : Str) (Vs : List Str) (ad : Str → Addr) (nb : Nb) (wt : Wt) : Prop where
  g : GAt K H g C dx fs a top
  lk : fs.lookup ("check_vertex" : Str) = none
  r : RowsZ H a Vs ad nb wt
  nm : ∀ u ∈ Vs, nameB u = true
theorem PArg.same {H H' : Hp} {g C dx : Addr} {fs : List (Str × V)} {a : Addr} {top : Str} {Vs : List Str} {ad : Str → Addr} {nb : Nb} {wt : Wt} (h : PArg K H g C dx fs a top Vs ad nb wt) (s : Same H H') : PArg K H' g C dx fs a top Vs ad nb wt := ⟨h.g.ext (Ext.of s), h.lk, h.r.ext (Ext.of s), h.nm⟩
def spPair (K : PySem.W.Frag) (C CU CS : Addr) : Sp := fun vs H Q E => ∃ (g dx : Addr) (fs : List (Str × V)) (a : Addr) (top : Str) (Vs : List Str) (ad : Str → Addr) (nb : Nb) (wt : Wt) (x y : V), vs = [.ref g, x, y] ∧ PArg K H g C dx fs a top Vs ad nb wt ∧ AnyV K H x ∧ AnyV K H y ∧
  (¬ IsIn x Vs → ∀ d H', Same H H' → H d = none → H' d = some (.xd [("value", x)]) → E (.ref CU) (some d) H') ∧
  (IsIn x Vs → ¬ IsIn y Vs → ∀ d H', Same H H' → H d = none → H' d = some (.xd [("value", y)]) → E (.ref CU) (some d) H') ∧
  (IsIn x Vs → x = y → ∀ d H', Same H H' → H d = none → H' d = some (.xd [("value", y)]) → E (.ref CS) (some d) H') ∧
  (∀ u v, x = .str u → y = .str v → u ∈ Vs → v ∈ Vs → u ≠ v → ∀ H', Same H H' → Q .non H')
theorem sc_check_pair : FnScope ["graph", "u", "v"] ["graph", "u", "v"] (defScope s_check_pair) := ⟨rfl, rfl, rfl, by decide +kernel, rfl, by decide +kernel, by decide +kernel⟩
theorem c_check_pair {C CU CS fI : Addr} (D : Def K mg "check_pair" s_check_pair) (TS : WkX.ExcT K mg "SameVertex" "value" CS fI) (NK : FCls K C) (CV : MethC P w K mg base (CX P w) C "check_vertex" 2 (spCheck K CU)) : Callee P w K mg base (CX P w) 3 "check_pair" ["graph", "u", "v"] (spPair K C CU CS) := by
  obtain ⟨f, fd, F, g⟩ := D
  refine ⟨f, fd, F.ok sc_check_pair (fun vs H Q E h => ?_) (fun cdv A outer s H vs Q E hr h => ?_), g, F.kp, F.bindsN (fun _ _ _ _ _ _ us hl => match us, hl with | [_, _, _], _ => rfl)⟩
  · obtain ⟨g, dx, fs, a, top, Vs, ad, nb, wt, x, y, rfl, _⟩ := h
    rfl
  have hr2 : Room 2 _ := hr
  refine ⟨_, (pss_cons (ps_expr (WkC.pe_mt CV NK.cls hr2 (passes_call (takes_of rfl rfl rfl rfl) fun _ _ _ _ h => h) (pv 0) (pa_cons (pv 1) pa_nil)))
      (pss_cons (ps_expr (WkC.pe_mt CV NK.cls hr2 (passes_call (takes_of rfl rfl rfl rfl) fun _ _ _ _ h => h) (pv 0) (pa_cons (pv 2) pa_nil)))
      (pss_one (ps_if (pt_cmpR op_eq (pv 1) (pv 2) (nomark _))
      (pss_one (WkK.ps_raiseE rfl TS hr (takes_of rfl rfl rfl rfl) (pa_cons (pv 2) pa_nil))) pss_nil)))), ?_⟩
  obtain ⟨g, dx, fs, a, top, Vs, ad, nb, wt, x, y, rfl, A, ax, ay, k1, k2, k3, k4⟩ := h
  refine ⟨_, rfl, g, dx, fs, rfl, A.g.ins, A.lk, _, rfl, g, C, dx, fs, a, top, Vs, ad, nb, wt, x, rfl, A.g, A.r, A.nm, ax, fun hx H1 s1 => ?_, k1⟩
  have A1 := A.same s1
  refine ⟨_, rfl, g, dx, fs, rfl, A1.g.ins, A.lk, _, rfl, g, C, dx, fs, a, top, Vs, ad, nb, wt, y, rfl, A1.g, A1.r, A.nm, anyv_same ay s1, fun hy H2 s2 => ?_, fun hy d H2 s2 nd_ hd => k2 hx hy d H2 (s1.trans s2) (np_of s1 nd_) hd⟩
  obtain ⟨u, hu, rfl⟩ := id hx
  obtain ⟨v, hv, rfl⟩ := id hy
  have s12 := s1.trans s2
  refine ⟨_, rfl, _, rfl, rfl, _, rfl, ?_⟩
  refine ite2 (fun hb => ?_) (fun hb => ?_)
  · have e : V.str u = V.str v := of_decide_eq_true hb
    refine ⟨_, rfl, _, rfl, fun d nd_ => k3 hx e d _ (s12.trans (same_upd nd_)) (np_of s12 nd_) upd_same⟩
  · have e : ¬ V.str u = V.str v := fun z => hb (decide_eq_true z)
    exact k4 u v rfl rfl hu hv (fun z => e (by rw [z])) H2 s12
def spPairS (K : PySem.W.Frag) (C CU CS : Addr) : Sp := fun vs H Q E => ∃ (g dx : Addr) (fs : List (Str × V)) (a : Addr) (top : Str) (Vs : List Str) (ad : Str → Addr) (nb : Nb) (wt : Wt) (x y : V), vs = [.ref g, x, y] ∧ PArg K H g C dx fs a top Vs ad nb wt ∧ AnyV K H x ∧ AnyV K H y ∧ Sym Vs nb wt ∧ (∀ u ∈ Vs, ∀ v ∈ nb u, 0 ≤ wt u v) ∧ (∀ u ∈ Vs, (nb u).length < 1000) ∧ Vs.length < 1000 ∧ Vs.Nodup ∧
  (¬ IsIn x Vs → ∀ d H', Same H H' → H d = none → H' d = some (.xd [("value", x)]) → E (.ref CU) (some d) H') ∧
  (IsIn x Vs → ¬ IsIn y Vs → ∀ d H', Same H H' → H d = none → H' d = some (.xd [("value", y)]) → E (.ref CU) (some d) H') ∧
  (IsIn x Vs → x = y → ∀ d H', Same H H' → H d = none → H' d = some (.xd [("value", y)]) → E (.ref CS) (some d) H') ∧
  (∀ u v, x = .str u → y = .str v → u ∈ Vs → v ∈ Vs → u ≠ v → ∀ n H', Same H H' → PairStr Vs (vl0 nb wt) u v n → Q (.int n) H')
theorem resid_pair {Vs : List Str} {nb : Nb} {wt lf : Wt} {s t : Str} {n : Int} {fl : List Str} {lev : Str → Int} (R : Resid Vs (vl0 nb wt) s t n (vl0 nb lf)) (nd : Vs.Nodup) (L : Lvl Vs nb lf s fl lev fl.length) (ht : t ∉ fl) : PairStr Vs (vl0 nb wt) s t n :=
  ⟨⟨fun u => decide (u ∈ fl), decide_eq_true L.st, decide_eq_false ht, L.cut nd R ht⟩, fun S h1 h2 => R.le nd (L.sub _ L.st) h1 h2⟩
theorem sc_pair_strength : FnScope ["network", "u", "v"] ["network", "u", "v"] (defScope s_pair_strength) := ⟨rfl, rfl, rfl, by decide +kernel, rfl, by decide +kernel, by decide +kernel⟩
theorem c_pair_strength {C CU CS S : Addr} (D : Def K mg "pair_strength" s_pair_strength) (CP : Callee P w K mg base (CX P w) 3 "check_pair" ["graph", "u", "v"] (spPair K C CU CS)) (SC : SCls K S) (SM : MakeC P w K mg base CX0 S "Search" 1 (spSea K)) (MR : WkV.MethD P w K mg base CX0 S "run" 3 (spRun K S) [.non]) :
    Callee P w K mg base (CX P w) 4 "pair_strength" ["network", "u", "v"] (spPairS K C CU CS) := by
  obtain ⟨f, fd, F, g⟩ := D
  refine ⟨f, fd, F.ok sc_pair_strength (fun vs H Q E h => ?_) (fun cdv A outer s H vs Q E hr h => ?_), g, F.kp, F.bindsN (fun _ _ _ _ _ _ us hl => match us, hl with | [_, _, _], _ => rfl)⟩
  · obtain ⟨g, dx, fs, a, top, Vs, ad, nb, wt, x, y, rfl, _⟩ := h
    rfl
  have hr3 : Room 3 _ := hr
  have hr2 : Room 2 _ := hr.mono (by decide)
  refine ⟨_, (pss_cons (ps_expr (pe_c CP hr3 (passes_call (takes_of rfl rfl rfl rfl) fun _ _ _ _ h => h) (pa_cons (pv 0) (pa_cons (pv 1) (pa_cons (pv 2) pa_nil)))))
      (pss_one (ps_ret (WkV.pe_mtD0 MR SC.cls hr3 pass0 (WkC.pe_mk SM hr2 pass0 (pa_cons (pv 0) (pa_cons (pv 1) (pa_cons (pv 2) pa_nil)))))))), ?_⟩
  obtain ⟨g, dx, fs, a, top, Vs, ad, nb, wt, x, y, rfl, A, ax, ay, sy, wnn, hnl, hVl, hVn, k1, k2, k3, k4⟩ := h
  refine ⟨_, rfl, _, rfl, _, rfl, g, dx, fs, a, top, Vs, ad, nb, wt, x, y, rfl, A, ax, ay, k1, k2, k3, fun u v eu ev hu hv ne H1 s1 => ?_⟩
  subst eu ev
  have A1 := A.same s1
  refine ⟨_, rfl, _, rfl, _, rfl, fun q dq nq ndq neq => ?_⟩
  have s2 : Same H1 (upd H1 dq (.own q)) := same_upd ndq
  have s3 : Same (upd H1 dq (.own q)) (upd (upd H1 dq (.own q)) q (.ins S dq [])) := same_upd (by rw [upd_ne (Ne.symm neq)]; exact nq)
  have hq3 : upd (upd H1 dq (.own q)) q (.ins S dq []) q = some (.ins S dq []) := upd_same
  generalize upd (upd H1 dq (.own q)) q (.ins S dq []) = H3 at s3 hq3
  have s13 := s2.trans s3
  have A3 := A1.same s13
  have qg : q ≠ g := Ne.symm (ne_of_none A1.g.ins nq)
  refine ⟨q, S, dq, g, C, dx, fs, a, top, u, v, Vs, ad, nb, wt, rfl, hq3, SC, A3.g, A3.r, hVn, hVl, qg, fun la lad H4 b4 hq4 nla nlad R4 => ?_⟩
  refine ⟨rfl, q, dq, _, rfl, hq4, rfl, ?_⟩
  have s03 : Same H H3 := s1.trans s13
  have nqH3 : ∀ b o, H b = some o → b ≠ q := fun b o hb => ne_of_none (s1 _ _ hb) nq
  have s04 : Same H H4 := fun b o hb => b4 _ _ (s03 _ _ hb) (nqH3 b o hb)
  refine ⟨q, dq, a, la, u, v, Vs, ad, lad, nb, wt, .non, rfl, hq4, A.r.ext (Ext.of s04), R4, sy, wnn, hnl, hVl, hu, ne, .inl rfl, fun n lf fl lev H5 fr5 R5 RS5 _ L5 _ h5 => ?_⟩
  have ht : v ∉ fl := by
    rcases h5 with ⟨L, z, _⟩ | h5
    · cases z
    · exact h5
  refine k4 u v rfl rfl hu hv ne n H5 (fun b o hb => fr5 _ _ (s04 _ _ hb) fun z hz => ?_) (resid_pair RS5 hVn L5 ht)
  have h3 := nlad z hz
  exact ne_of_none (s03 _ _ hb) h3
end
end Wk
namespace Wk
open PySem PySem.Spec PyProof.Rows L2 WkD WkN LamX WkP WkE WkC
section
variable {P : Program} {w : World} {K : PySem.W.Frag} {mg : Str → Option Value} {base : Heap}
def spEdgeC (K : PySem.W.Frag) (C CU CE : Addr) : Sp := fun vs H Q E => ∃ (g dx : Addr) (fs : List (Str × V)) (a : Addr) (top : Str) (Vs : List Str) (ad : Str → Addr) (nb : Nb) (wt : Wt) (x y : V), vs = [.ref g, x, y] ∧ PArg K H g C dx fs a top Vs ad nb wt ∧ AnyV K H x ∧ AnyV K H y ∧
  (¬ IsIn x Vs → ∀ d H', Same H H' → H d = none → H' d = some (.xd [("value", x)]) → E (.ref CU) (some d) H') ∧
  (IsIn x Vs → ¬ IsIn y Vs → ∀ d H', Same H H' → H d = none → H' d = some (.xd [("value", y)]) → E (.ref CU) (some d) H') ∧
  (∀ u v, x = .str u → y = .str v → u ∈ Vs → v ∈ Vs → v ∉ nb u → ∀ d p H', Same H H' → H d = none → H p = none → H' d = some (.xd [("value", .ref p)]) → H' p = some (.tup [.str u, .str v]) → E (.ref CE) (some d) H') ∧
  (∀ u v, x = .str u → y = .str v → u ∈ Vs → v ∈ Vs → v ∈ nb u → ∀ H', Same H H' → Q .non H')
theorem sc_check_edge : FnScope ["network", "u", "v"] ["network", "u", "v"] (defScope s_check_edge) := ⟨rfl, rfl, rfl, by decide +kernel, rfl, by decide +kernel, by decide +kernel⟩
theorem c_check_edge {C CU CE fI : Addr} (D : Def K mg "check_edge" s_check_edge) (TE : WkX.ExcT K mg "UnknownEdge" "value" CE fI) (NK : FCls K C) (CV : MethC P w K mg base (CX P w) C "check_vertex" 2 (spCheck K CU)) : Callee P w K mg base (CX P w) 3 "check_edge" ["network", "u", "v"] (spEdgeC K C CU CE) := by
  obtain ⟨f, fd, F, g⟩ := D
  refine ⟨f, fd, F.ok sc_check_edge (fun vs H Q E h => ?_) (fun cdv A outer s H vs Q E hr h => ?_), g, F.kp, F.bindsN (fun _ _ _ _ _ _ us hl => match us, hl with | [_, _, _], _ => rfl)⟩
  · obtain ⟨g, dx, fs, a, top, Vs, ad, nb, wt, x, y, rfl, _⟩ := h
    rfl
  have hr2 : Room 2 _ := hr
  have hu := hu_of hr
  refine ⟨_, (pss_cons (ps_expr (WkC.pe_mt CV NK.cls hr2 (passes_call (takes_of rfl rfl rfl rfl) fun _ _ _ _ h => h) (pv 0) (pa_cons (pv 1) pa_nil)))
      (pss_cons (ps_expr (WkC.pe_mt CV NK.cls hr2 (passes_call (takes_of rfl rfl rfl rfl) fun _ _ _ _ h => h) (pv 0) (pa_cons (pv 2) pa_nil)))
      (pss_one (ps_if (pt_cmp (pc_dnotin hu (pv 2) (pe_dget hu (pe_fld (pv 0) rfl) (pv 1) (fun _ _ => rfl))))
      (pss_one (WkK.ps_raiseE rfl TE hr (takes_of rfl rfl rfl rfl) (pa_cons (pe_tup (pa_cons (pv 1) (pa_cons (pv 2) pa_nil))) pa_nil))) pss_nil)))), ?_⟩
  obtain ⟨g, dx, fs, a, top, Vs, ad, nb, wt, x, y, rfl, A, ax, ay, k1, k2, k3, k4⟩ := h
  refine ⟨_, rfl, g, dx, fs, rfl, A.g.ins, A.lk, _, rfl, g, C, dx, fs, a, top, Vs, ad, nb, wt, x, rfl, A.g, A.r, A.nm, ax, fun hx H1 s1 => ?_, k1⟩
  have A1 := A.same s1
  refine ⟨_, rfl, g, dx, fs, rfl, A1.g.ins, A.lk, _, rfl, g, C, dx, fs, a, top, Vs, ad, nb, wt, y, rfl, A1.g, A1.r, A.nm, anyv_same ay s1, fun hy H2 s2 => ?_, fun hy d H2 s2 nd_ hd => k2 hx hy d H2 (s1.trans s2) (np_of s1 nd_) hd⟩
  obtain ⟨u, hu', rfl⟩ := id hx
  obtain ⟨v, hv', rfl⟩ := id hy
  have s12 := s1.trans s2
  have A2 := A.same s12
  by_cases hj : v ∈ nb u
  · refine ⟨_, rfl, _, rfl, g, C, dx, fs, _, rfl, A2.g.ins, A2.g.cls, A2.g.na, A2.g.la, _, rfl, a, _, rfl, get_d A2.r.r.top hu', ad u, _, rfl, get_d (A2.r.r.row u hu') hj, ?_⟩
    refine ⟨_, rfl, ite2 (fun h => nomatch h) (fun _ => ?_)⟩
    exact k4 u v rfl rfl hu' hv' hj H2 s12
  · refine ⟨_, rfl, _, rfl, g, C, dx, fs, _, rfl, A2.g.ins, A2.g.cls, A2.g.na, A2.g.la, _, rfl, a, _, rfl, get_d A2.r.r.top hu', ad u, _, rfl, get_n (A2.r.r.row u hu') hj, ?_⟩
    refine ⟨_, rfl, ite2 (fun _ => ?_) (fun h => absurd rfl h)⟩
    refine ⟨_, rfl, _, rfl, by show 2 ≤ sizeLine; decide, fun p3 n3 => ?_⟩
    generalize gg3 : upd _ p3 _ = G3; obtain ⟨s3, L3⟩ := new_eq n3 gg3; clear gg3
    refine ⟨_, rfl, fun d nd_ => ?_⟩
    have s := s12.trans s3
    exact k3 u v rfl rfl hu' hv' hj d p3 _ (s.trans (same_upd nd_)) (np_of s nd_) (np_of s12 n3) upd_same (by rw [upd_ne (ne_of_none L3 nd_)]; exact L3)
end
end Wk
namespace WkI
open PySem PySem.Spec PyProof.Rows L2
section
variable {X : Cx} {pins : List (Addr × Obj)} {σ : L2.St} {H : Hp} {s : Shared} {d : Addr} {o : Obj}
end
section
variable {P : Program} {w : World} {K : PySem.W.Frag} {d : Addr} {o : Obj} {es : Array DictEntry} {ep : Nat}
end
section
variable {X : Cx} {tg e : Expr} {td : TE} {apos cpos : Pos}
end
end WkI
namespace WkI
open PySem PySem.Spec PyProof.Rows L2
section
variable {X : Cx}
end
end WkI
namespace Wk
open PySem PySem.Spec PyProof.Rows L2 WkD WkN LamX WkP WkE WkC
def flowR (wt lf : Wt) (u : Str) (l : List Str) : EdD := (l.filter fun v => decide (lf u v < wt u v)).map fun v => ((u, v), wt u v - lf u v)
def flowL (nb : Nb) (wt lf : Wt) (l : List Str) : EdD := l.flatMap fun u => flowR wt lf u (nb u)
theorem flowR_mem {wt lf : Wt} {u : Str} {l : List Str} {e : Pr × Int} : e ∈ flowR wt lf u l ↔ ∃ v ∈ l, lf u v < wt u v ∧ e = ((u, v), wt u v - lf u v) := by
  unfold flowR
  rw [List.mem_map]
  constructor
  · rintro ⟨v, hv, rfl⟩
    have := List.mem_filter.mp hv
    exact ⟨v, this.1, of_decide_eq_true this.2, rfl⟩
  · rintro ⟨v, hv, h, rfl⟩
    exact ⟨v, List.mem_filter.mpr ⟨hv, decide_eq_true h⟩, rfl⟩
theorem flowL_mem {nb : Nb} {wt lf : Wt} {l : List Str} {e : Pr × Int} : e ∈ flowL nb wt lf l ↔ ∃ u ∈ l, ∃ v ∈ nb u, lf u v < wt u v ∧ e = ((u, v), wt u v - lf u v) := by
  unfold flowL
  rw [List.mem_flatMap]
  constructor
  · rintro ⟨u, hu, h⟩
    exact ⟨u, hu, flowR_mem.mp h⟩
  · rintro ⟨u, hu, h⟩
    exact ⟨u, hu, flowR_mem.mpr h⟩
theorem flowR_len (wt lf : Wt) (u : Str) (l : List Str) : (flowR wt lf u l).length ≤ l.length := by
  unfold flowR
  rw [List.length_map]
  exact List.length_filter_le _ _
theorem putE_new {es : EdD} {p : Pr} {n : Int} (h : p ∉ es.map (·.1)) : putE es p n = es ++ [(p, n)] := by
  unfold putE
  rw [if_neg]
  intro q
  obtain ⟨e, he, h2⟩ := List.any_eq_true.mp q
  exact h (List.mem_map.mpr ⟨e, he, of_decide_eq_true h2⟩)
section
variable {P : Program} {w : World} {K : PySem.W.Frag} {mg : Str → Option Value} {base : Heap}
def spArcs (K : PySem.W.Frag) : Sp := fun vs H Q _ => ∃ (x S dx a la : Addr) (s t : Str) (Vs : List Str) (ad0 ad : Str → Addr) (nb : Nb) (wt lf : Wt), vs = [.ref x] ∧ H x = some (.ins S dx (seaF a la s t)) ∧ SCls K S ∧ RowsZ H a Vs ad0 nb wt ∧ RowsM H la Vs ad nb lf ∧ (∀ u ∈ Vs, (nb u).Nodup ∧ (nb u).length < 1000) ∧ Vs.length < 1000 ∧
  ∀ p H', Same H H' → H p = none → H' p = some (.dT (dtE (flowL nb wt lf Vs))) → Q (.ref p) H'
theorem sc_sea_arcs : FnScope ["self", "found", "u", "row", "v", "weight"] ["self"] (defScope s_Search_arcs) := ⟨rfl, rfl, rfl, by decide +kernel, rfl, by decide +kernel, by decide +kernel⟩
theorem ok_sea_arcs {f : Addr} {fd : FuncData} (F : FnP K "arcs" "Search.arcs" s_Search_arcs f fd) : FnOk P w K mg base CX0 1 f fd ["self"] (spArcs K) := by
  refine F.ok sc_sea_arcs (fun vs H Q E h => ?_) (fun cdv A outer s H vs Q E hr h => ?_)
  · obtain ⟨x, S, dx, a, la, s, t, Vs, ad0, ad, nb, wt, lf, rfl, _⟩ := h
    rfl
  have nd := sc_sea_arcs.nd
  have hu := hu_of hr
  refine ⟨_, PSs.nox (pss_cons (ps_set (i := 1) nd rfl (Or.inl rfl) pe_dnewT)
      (pss_cons (ps_for PassesOwn.never rfl (pi_items (pe_fld (pv 0) rfl)) (WkN.pgT K 2 rfl rfl (pgs_cons (pg_name (i := 2) nd rfl (Or.inl rfl)) (pgs_cons (pg_name (i := 3) nd rfl (Or.inl rfl)) pgs_nil)) rfl)
      (pss_one (ps_for PassesOwn.never rfl (pi_items (pv 3)) (WkN.pgT K 2 rfl rfl (pgs_cons (pg_name (i := 4) nd rfl (Or.inl rfl)) (pgs_cons (pg_name (i := 5) nd rfl (Or.inl rfl)) pgs_nil)) rfl)
      (pss_one (ps_if (pt_cmpR op_lt (pe_dget hu (pe_dget hu (pe_fld (pv 0) rfl) (pv 2) (fun _ _ => rfl)) (pv 4) (fun _ _ => rfl)) (pv 5) (nomark _))
      (pss_one (ps_dput hu (pv 1) (pe_tup (pa_cons (pv 2) (pa_cons (pv 4) pa_nil))) (pe_op op_sub (pv 5) (pe_dget hu (pe_dget hu (pe_fld (pv 0) rfl) (pv 2) (fun _ _ => rfl)) (pv 4) (fun _ _ => rfl))) rfl)) pss_nil)))))
      (pss_one (ps_ret (pv 1))))), ?_⟩
  obtain ⟨x, S, dx, a, la, s, t, Vs, ad0, ad, nb, wt, lf, rfl, hx, SC, RZ, R, hnb, hl, k⟩ := h
  have big : 2000000 < sizeLine := by decide
  obtain ⟨oa, hA⟩ := RZ.top
  refine fun fo nfo => ?_
  generalize gg0 : upd H fo _ = G0
  obtain ⟨s0, L0⟩ := new_eq nfo gg0
  clear gg0
  have L0 : G0 fo = some (.dT (dtE (flowL nb wt lf (Vs.take 0)))) := L0
  refine ⟨_, rfl, x, S, dx, _, _, rfl, s0 _ _ hx, SC.cls, SC.na, rfl, a, oa, _, rfl, s0 _ _ hA, ?_⟩
  have keep : ∀ {Hc : Hp}, But fo G0 Hc → Same H Hc := fun b c o hc => b _ _ (s0 _ _ hc) (ne_of_none hc nfo)
  have len : ∀ i, (flowL nb wt lf (Vs.take i)).length ≤ 1000 * i := fun i => by
    unfold flowL
    rw [List.length_flatMap]
    have : ∀ l : List Str, (∀ u ∈ l, u ∈ Vs) → (l.map fun u => (flowR wt lf u (nb u)).length).sum ≤ 1000 * l.length := fun l => by
      induction l with
      | nil => intro _; exact Nat.le_refl _
      | cons u l ih =>
        intro h
        rw [List.map_cons, List.sum_cons, List.length_cons]
        have h1 := ih fun v hv => h v (List.mem_cons_of_mem _ hv)
        have h2 := flowR_len wt lf u (nb u)
        have h3 := (hnb u (h u List.mem_cons_self)).2
        omega
    refine Nat.le_trans (this _ fun u hu => List.mem_of_mem_take hu) ?_
    have := List.length_take_le i Vs
    omega
  refine for_it (walk_items (kvs := dct Vs fun u => .ref (ad0 u))) (fun i σ Hc => ∃ (x2 x3 x4 x5 : Option V), σ = [some (.ref x), some (.ref fo), x2, x3, x4, x5] ∧ But fo G0 Hc ∧ Hc fo = some (.dT (dtE (flowL nb wt lf (Vs.take i)))))
    ⟨_, _, _, _, rfl, But.refl _ _, L0⟩ ?_ ?_ ?_
  · rintro i σ Hc hi ⟨x2, x3, x4, x5, rfl, b, _⟩
    exact keep b _ _ hA
  · rintro i y σ Hc Hc' hi ⟨x2, x3, x4, x5, rfl, b, c2⟩ ⟨T, kx, vx, rfl, nT, rfl, hkx, hvx⟩
    rw [dct_len] at hi
    dsimp only at hkx hvx
    rw [dct_at, List.getElem?_eq_getElem hi] at hkx hvx
    cases hkx
    cases hvx
    obtain ⟨u, eu⟩ : ∃ u, u = Vs[i] := ⟨_, rfl⟩
    have huV : u ∈ Vs := eu ▸ List.getElem_mem hi
    have hnu : u ∉ Vs.take i := by rw [eu]; exact take_nin R.nd hi
    have tk := takeS (List.getElem?_eq_getElem hi)
    rw [← eu] at tk ⊢
    obtain ⟨ou, hU⟩ := RZ.row u huV
    show gTup _ _ _ _ _ (upd Hc T (.tup [.str u, .ref (ad0 u)])) _
    generalize gg : upd Hc T (.tup [.str u, .ref (ad0 u)]) = H3
    obtain ⟨sT, PT⟩ := new_eq nT gg
    clear gg
    refine ⟨T, _, rfl, .inl (.inl PT), rfl, _, _, rfl, _, _, rfl, rfl, ?_⟩
    have b3 : But fo G0 H3 := b.trans (But.of_same sT)
    refine ⟨_, rfl, ad0 u, ou, _, rfl, keep b3 _ _ hU, ?_⟩
    refine for_it (walk_items (kvs := dct (nb u) fun v => .int (wt u v))) (fun j σ Hc => ∃ (x4 x5 : Option V), σ = [some (.ref x), some (.ref fo), some (.str u), some (.ref (ad0 u)), x4, x5] ∧ But fo G0 Hc ∧ Hc fo = some (.dT (dtE (flowL nb wt lf (Vs.take i) ++ flowR wt lf u ((nb u).take j)))))
      ⟨_, _, rfl, b3, by rw [sT _ _ c2]; simp [flowR]⟩ ?_ ?_ ?_
    · rintro j σ Hc hj ⟨x4, x5, rfl, b, _⟩
      exact keep b _ _ hU
    · clear b3 sT PT nT c2 b
      rintro j y σ Hc Hc' hj ⟨x4, x5, rfl, b, c2⟩ ⟨T, kx, vx, rfl, nT, rfl, hkx, hvx⟩
      rw [dct_len] at hj
      dsimp only at hkx hvx
      rw [dct_at, List.getElem?_eq_getElem hj] at hkx hvx
      cases hkx
      cases hvx
      obtain ⟨v, ev⟩ : ∃ v, v = (nb u)[j] := ⟨_, rfl⟩
      have hvn : v ∈ nb u := ev ▸ List.getElem_mem hj
      have hnv : v ∉ (nb u).take j := by rw [ev]; exact take_nin (hnb u huV).1 hj
      have tk2 := takeS (List.getElem?_eq_getElem hj)
      rw [← ev] at tk2 ⊢
      show gTup _ _ _ _ _ (upd Hc T (.tup [.str v, .int (wt u v)])) _
      generalize gg : upd Hc T (.tup [.str v, .int (wt u v)]) = H4
      obtain ⟨sT, PT⟩ := new_eq nT gg
      clear gg
      have b4 : But fo G0 H4 := b.trans (But.of_same sT)
      have s4 := keep b4
      have R4 := R.ext (Ext.of s4)
      refine ⟨T, _, rfl, .inl (.inl PT), rfl, _, _, rfl, _, _, rfl, rfl, ?_⟩
      refine ⟨_, rfl, x, S, dx, _, _, rfl, s4 _ _ hx, SC.cls, SC.nl, rfl, _, rfl, la, _, rfl, get_d (.inl R4.top) huV, _, rfl, ad u, _, rfl, get_d (.inl (R4.row u huV)) hvn, _, rfl, _, _, rfl, rfl, _, rfl, ?_⟩
      have eF : flowR wt lf u ((nb u).take (j + 1)) = flowR wt lf u ((nb u).take j) ++ (if lf u v < wt u v then [((u, v), wt u v - lf u v)] else []) := by
        rw [tk2]
        unfold flowR
        rw [List.filter_append, List.map_append]
        congr 1
        by_cases h : lf u v < wt u v
        · simp [h]
        · simp [h]
      refine ite2 (fun hb => ?_) (fun hb => ?_)
      · have hb : lf u v < wt u v := of_decide_eq_true hb
        refine ⟨_, rfl, _, rfl, x, S, dx, _, _, rfl, s4 _ _ hx, SC.cls, SC.nl, rfl, _, rfl, la, _, rfl, get_d (.inl R4.top) huV, _, rfl, ad u, _, rfl, get_d (.inl (R4.row u huV)) hvn, _, _, rfl, rfl, _, rfl, _, rfl, _, rfl, by show 2 ≤ sizeLine; omega, fun kt nkt => ?_⟩
        generalize gg : upd H4 kt _ = G5
        obtain ⟨s5, L5⟩ := new_eq nkt gg
        clear gg
        have c5 := s5 _ _ (sT _ _ c2)
        obtain ⟨esN, eesN⟩ : ∃ esN, esN = flowL nb wt lf (Vs.take i) ++ flowR wt lf u ((nb u).take j) := ⟨_, rfl⟩
        rw [← eesN] at c5
        have lesN : esN.length < sizeLine := by
          rw [eesN, List.length_append]
          have h1 := len i
          have h2 := flowR_len wt lf u ((nb u).take j)
          have h3 := List.length_take_le' j (nb u)
          have h4 := (hnb u huV).2
          omega
        have nin : ((u, v) : Pr) ∉ esN.map (·.1) := fun h => by
          obtain ⟨e, he, ee⟩ := List.mem_map.mp h
          rw [eesN] at he
          rcases List.mem_append.mp he with he | he
          · obtain ⟨u', hu', v', _, _, rfl⟩ := flowL_mem.mp he
            cases ee
            exact hnu hu'
          · obtain ⟨v', hv', _, rfl⟩ := flowR_mem.mp he
            cases ee
            exact hnv hv'
        refine ⟨fo, _, rfl, put_p (p := (u, v)) c5 L5 lesN, ?_⟩
        rw [putE_new nin]
        refine ⟨_, _, rfl, fun c o hc hne => ?_, ?_⟩
        · rw [upd_ne hne]
          exact s5 _ _ (b4 c o hc hne)
        · rw [upd_same, eF, if_pos hb, eesN, List.append_assoc]
      · have hb : ¬ lf u v < wt u v := fun z => hb (decide_eq_true z)
        exact ⟨_, _, rfl, b4, by rw [eF, if_neg hb, List.append_nil]; exact sT _ _ c2⟩
    · rintro σ Hc ⟨x4, x5, rfl, b, c2⟩
      rw [dct_len, List.take_length] at c2
      refine ⟨_, _, _, _, rfl, b, ?_⟩
      rw [c2, tk]
      unfold flowL
      rw [List.flatMap_append]
      simp
  · rintro σ Hc ⟨x2, x3, x4, x5, rfl, b, c2⟩
    rw [dct_len, List.take_length] at c2
    exact ⟨_, rfl, k fo Hc (keep b) nfo c2⟩
end
end Wk
namespace Wk
open PySem PySem.Spec PyProof.Rows L2 WkD WkN LamX WkP WkE WkC
section
variable {P : Program} {w : World} {K : PySem.W.Frag} {mg : Str → Option Value} {base : Heap}
def spSideD (K : PySem.W.Frag) : Sp := fun vs H Q _ => ∃ (g C dx : Addr) (fs : List (Str × V)) (a m : Addr) (top : Str) (Vs ms : List Str) (ad : Str → Addr) (o : Obj) (gm : Str → V), vs = [.ref g, .ref m] ∧ GAt K H g C dx fs a top ∧ H a = some (.frz o (.dK (dct Vs fun u => .ref (ad u)))) ∧ Vs.length < 1000 ∧ Rd H m (.dK (dct ms gm)) ∧
  ∀ p H', Same H H' → H p = none → H' p = some (.tup ((sideL top Vs ms).map V.str)) → Q (.ref p) H'
theorem some_dec {ms : List Str} {v : Str} {gm : Str → V} : (if v ∈ ms then some (gm v) else none).isSome = decide (v ∈ ms) := by
  by_cases h : v ∈ ms
  · rw [if_pos h, decide_eq_true h]
    rfl
  · rw [if_neg h, decide_eq_false h]
    rfl
theorem rd_same {H H' : Hp} {a : Addr} {o : HO} (h : Rd H a o) (s : Same H H') : Rd H' a o := by
  rcases h with h | ⟨q, h⟩
  · exact .inl (s _ _ h)
  · exact .inr ⟨q, s _ _ h⟩
theorem sc_side_of_d : FnScope ["graph", "members", "is_outside", "vertex"] ["graph", "members"] (defScope s_side_of) := ⟨rfl, rfl, rfl, by decide +kernel, rfl, by decide +kernel, by decide +kernel⟩
theorem c_side_of_d (D : Def K mg "side_of" s_side_of) (B : Bi mg) : Callee P w K mg base CX0 1 "side_of" ["graph", "members"] (spSideD K) := by
  obtain ⟨f, fd, F, g⟩ := D
  refine ⟨f, fd, F.ok sc_side_of_d (fun vs H Q E h => ?_) (fun cdv A outer s H vs Q E hr h => ?_), g, F.kp, F.bindsN (fun _ _ _ _ _ _ us hl => match us, hl with | [_, _], _ => rfl)⟩
  · obtain ⟨g, C, dx, fs, a, m, top, Vs, ms, ad, o, gm, rfl, _⟩ := h
    rfl
  · have nd := sc_side_of_d.nd
    have hu := hu_of hr
    refine ⟨_, PSs.nox (pss_cons (ps_set (i := 2) nd rfl (Or.inr rfl) (pe_cmp (pc_din hu (pe_fld (pv 0) rfl) (pv 1))))
      (pss_one (ps_ret (pe_callTy call_tuple_of (by rfl) B.n_tuple (by decide +kernel) (pa_cons (pe_lc (own := [("vertex", 3)]) (by rfl) nd (pi_keys (pe_fld (pv 0) rfl)) (blkOk_by (by kernel_rfl)) (fun _ _ _ _ _ => (pg_name (i := 3) nd rfl (Or.inl rfl))) (fun _ _ _ _ _ => (pts_one (pt_cmpR op_ne (pe_cmp (pc_din hu (pv 3) (pv 1))) (pv 2) (nomark _)))) (fun _ _ _ _ _ => (pv 3))) pa_nil))))), ?_⟩
    obtain ⟨g, C, dx, fs, a, m, top, Vs, ms, ad, o, gm, rfl, G, hA, hl, hm, k⟩ := h
    refine ⟨_, rfl, g, C, dx, fs, _, rfl, G.ins, G.cls, G.nt, G.lt, _, rfl, m, _, rfl, get_x hm, ?_⟩
    rw [some_dec]
    refine ⟨_, rfl, g, C, dx, fs, _, rfl, G.ins, G.cls, G.na, G.la, a, o, rfl, .inl ⟨_, hA, fun D nD => ?_⟩⟩
    have sD : ∀ l : List V, Same H (upd H D (.lst l)) := fun l => same_upd nD
    refine lc_it (walk_keys (kvs := dct Vs fun u => .ref (ad u))) (fun i H2 => H2 = upd H D (.lst ((sideL top (Vs.take i) ms).map V.str))) rfl ?_ ?_ ?_
    · rintro i H2 hi rfl
      exact sD _ _ _ hA
    · rintro i x H2 H2' hi rfl ⟨rfl, k0, v0, hk, rfl⟩
      rw [dct_len] at hi
      rw [dct_at, List.getElem?_eq_getElem hi] at hk
      cases hk
      refine ⟨rfl, _, rfl, _, rfl, m, _, rfl, get_x (v := Vs[i]) (rd_same hm (sD _)), ?_⟩
      rw [some_dec]
      have tk : sideL top (Vs.take (i + 1)) ms = sideL top (Vs.take i) ms ++ (if (!decide (V.bl (decide (Vs[i] ∈ ms)) = V.bl (decide (top ∈ ms)))) = true then [Vs[i]] else []) := by
        unfold sideL
        rw [takeS (List.getElem?_eq_getElem hi), List.filter_append]
        congr 1
        rw [List.filter_cons, List.filter_nil]
      refine ⟨_, rfl, rfl, _, rfl, ?_⟩
      rw [tk]
      refine ite2 (fun h1 => ?_) (fun h1 => ?_)
      · refine ⟨_, rfl, _, upd_same, ?_, ?_⟩
        · rw [List.length_map]
          refine Nat.lt_of_le_of_lt (List.length_filter_le _ _) ?_
          rw [List.length_take]
          exact Nat.lt_of_le_of_lt (Nat.min_le_right _ _) (Nat.lt_trans hl (by decide))
        · rw [upd_upd, if_pos h1, List.map_append]
          rfl
      · rw [if_neg h1, List.append_nil]
    · rintro H2 rfl
      rw [dct_len, List.take_length]
      refine ⟨D, _, rfl, .inl ⟨SqL.of upd_same, fun p np => ?_⟩⟩
      have npH : H p = none := by
        have e : p ≠ D := fun z => by
          rw [z, upd_same] at np
          cases np
        rw [upd_ne e] at np
        exact np
      exact k p _ ((sD _).trans (same_upd np)) npH upd_same
structure MaxF (Vs : List Str) (nb : Nb) (wt : Wt) (s t : Str) (n : Int) (lf : Wt) (fl : List Str) : Prop where
  rs : Resid Vs (vl0 nb wt) s t n (vl0 nb lf)
  cl : Clean Vs (vl0 nb wt) (vl0 nb lf) s t
  lv : ∃ lev, Lvl Vs nb lf s fl lev fl.length
  nt : t ∉ fl
def spPairCut (K : PySem.W.Frag) : Sp := fun vs H Q _ => ∃ (g C dx : Addr) (fs : List (Str × V)) (a : Addr) (top u v : Str) (Vs : List Str) (ad : Str → Addr) (nb : Nb) (wt : Wt), vs = [.ref g, .str u, .str v] ∧ GAt K H g C dx fs a top ∧ RowsZ H a Vs ad nb wt ∧ Sym Vs nb wt ∧ (∀ u ∈ Vs, ∀ v ∈ nb u, 0 ≤ wt u v) ∧ (∀ u ∈ Vs, (nb u).length < 1000) ∧ Vs.length < 1000 ∧ Vs.Nodup ∧ u ∈ Vs ∧ u ≠ v ∧
  ∀ t sd am n lf fl H', Same H H' → H t = none → H am = none → H' t = some (.tup [.int n, .ref sd, .ref am]) → H' sd = some (.tup ((sideL top Vs fl).map V.str)) → H' am = some (.dT (dtE (flowL nb wt lf Vs))) → MaxF Vs nb wt u v n lf fl → Q (.ref t) H'
theorem sc_pair_cut : FnScope ["graph", "u", "v", "search", "total"] ["graph", "u", "v"] (defScope s_pair_cut) := ⟨rfl, rfl, rfl, by decide +kernel, rfl, by decide +kernel, by decide +kernel⟩
theorem c_pair_cut {S : Addr} (D : Def K mg "pair_cut" s_pair_cut) (SC : SCls K S) (SM : MakeC P w K mg base CX0 S "Search" 1 (spSea K)) (MR : WkV.MethD P w K mg base CX0 S "run" 3 (spRun K S) [.non]) (ML : MethC P w K mg base CX0 S "levels" 1 (spLev K)) (MAr : MethC P w K mg base CX0 S "arcs" 1 (spArcs K)) (CS : Callee P w K mg base CX0 1 "side_of" ["graph", "members"] (spSideD K)) :
    Callee P w K mg base CX0 4 "pair_cut" ["graph", "u", "v"] (spPairCut K) := by
  obtain ⟨f, fd, F, g⟩ := D
  refine ⟨f, fd, F.ok sc_pair_cut (fun vs H Q E h => ?_) (fun cdv A outer s H vs Q E hr h => ?_), g, F.kp, F.bindsN (fun _ _ _ _ _ _ us hl => match us, hl with | [_, _, _], _ => rfl)⟩
  · obtain ⟨g, C, dx, fs, a, top, u, v, Vs, ad, nb, wt, rfl, _⟩ := h
    rfl
  have hr3 : Room 3 _ := hr
  have hr2 : Room 2 _ := hr.mono (by decide)
  have hr1 : Room 1 _ := hr.mono (by decide)
  have nd := sc_pair_cut.nd
  refine ⟨_, PSs.nox (pss_cons (ps_set (i := 3) nd rfl (Or.inl rfl) (WkC.pe_mk SM hr2 pass0 (pa_cons (pv 0) (pa_cons (pv 1) (pa_cons (pv 2) pa_nil)))))
      (pss_cons (ps_set (i := 4) nd rfl (Or.inl rfl) (WkV.pe_mtD0 MR SC.cls hr3 pass0 (pv 3)))
      (pss_one (ps_ret (pe_tup (pa_cons (pv 4) (pa_cons (pe_c CS hr1 pass0 (pa_cons (pv 0) (pa_cons (WkV.pe_mt0 ML SC.cls hr1 pass0 (pv 3)) pa_nil))) (pa_cons (WkV.pe_mt0 MAr SC.cls hr1 pass0 (pv 3)) pa_nil)))))))), ?_⟩
  obtain ⟨g, C, dx, fs, a, top, u, v, Vs, ad, nb, wt, rfl, G, RZ, sy, wnn, hnl, hVl, hVn, hu, ne, k⟩ := h
  refine ⟨_, rfl, _, rfl, _, rfl, fun q dq nq ndq neq => ?_⟩
  have s2 : Same H (upd H dq (.own q)) := same_upd ndq
  have s3 : Same (upd H dq (.own q)) (upd (upd H dq (.own q)) q (.ins S dq [])) := same_upd (by rw [upd_ne (Ne.symm neq)]; exact nq)
  have hq3 : upd (upd H dq (.own q)) q (.ins S dq []) q = some (.ins S dq []) := upd_same
  generalize upd (upd H dq (.own q)) q (.ins S dq []) = H3 at s3 hq3
  have s13 := s2.trans s3
  have qg : q ≠ g := Ne.symm (ne_of_none G.ins nq)
  refine ⟨q, S, dq, g, C, dx, fs, a, top, u, v, Vs, ad, nb, wt, rfl, hq3, SC, G.ext (Ext.of s13), RZ.ext (Ext.of s13), hVn, hVl, qg, fun la lad H4 b4 hq4 nla nlad R4 => ?_⟩
  have s04 : Same H H4 := fun b o hb => b4 _ _ (s13 _ _ hb) (ne_of_none hb nq)
  refine ⟨rfl, _, rfl, q, dq, _, rfl, hq4, rfl, ?_⟩
  refine ⟨q, dq, a, la, u, v, Vs, ad, lad, nb, wt, .non, rfl, hq4, RZ.ext (Ext.of s04), R4, sy, wnn, hnl, hVl, hu, ne, .inl rfl, fun n lf fl lev H5 fr5 R5 RS5 CL5 L5 _ h5 => ?_⟩
  have ht : v ∉ fl := by
    rcases h5 with ⟨L, z, _⟩ | h5
    · cases z
    · exact h5
  have s05 : Same H H5 := fun b o hb => fr5 _ _ (s04 _ _ hb) fun z hz => ne_of_none (s13 _ _ hb) (nlad z hz)
  have hq5 : H5 q = some (.ins S dq (seaF a la u v)) := fr5 _ _ hq4 fun z hz => ne_of hq4 (R4.row z hz) (by intro z; cases z)
  refine ⟨_, rfl, _, rfl, _, rfl, q, dq, _, rfl, hq5, rfl, ?_⟩
  refine ⟨q, S, dq, a, la, u, v, Vs, lad, nb, lf, rfl, hq5, SC, R5, hu, fun z hz y hy => (sy.mem z hz y hy).1, hVl, fun lp ol fl2 lev2 H6 s6 nlp hlp L6 => ?_⟩
  have s06 := s05.trans s6
  obtain ⟨oa, hA⟩ := RZ.top
  refine ⟨g, C, dx, fs, a, lp, top, Vs, fl2, ad, oa, fun v => .int (lev2 v), rfl, G.ext (Ext.of s06), s06 _ _ hA, hVl, .inr ⟨_, hlp⟩, fun sd H7 s7 nsd hsd => ?_⟩
  have s07 := s06.trans s7
  have hq7 := s7 _ _ (s6 _ _ hq5)
  refine ⟨_, rfl, q, dq, _, rfl, hq7, rfl, ?_⟩
  refine ⟨q, S, dq, a, la, u, v, Vs, ad, lad, nb, wt, lf, rfl, hq7, SC, RZ.ext (Ext.of s07), (R5.ext (Ext.of s6)).ext (Ext.of s7), fun z hz => ⟨sy.nd z hz, hnl z hz⟩, hVl, fun am H8 s8 nam ham => ?_⟩
  have s08 := s07.trans s8
  refine ⟨by show 3 ≤ sizeLine; decide, fun tp ntp => ?_⟩
  generalize gg : upd H8 tp _ = H9
  obtain ⟨s9, L9⟩ := new_eq ntp gg
  clear gg
  exact k tp sd am n lf fl2 H9 (s08.trans s9) (np_of s08 ntp) (np_of s07 nam) L9 (s9 _ _ (s8 _ _ hsd)) (s9 _ _ ham) ⟨RS5, CL5, ⟨_, L6⟩, fun h => ht (L5.sub2 L6 v h)⟩
end
end Wk
namespace WkDs
open PySem PySem.Spec PyProof.Rows L2
section
variable {X : Cx} {pins : List (Addr × Obj)} {σ : L2.St} {H : Hp} {s : Shared} {a : Addr} {y v : V} {u r : Value} {A : Around} {E : Value → Shared → Prop}
end
section
variable {X : Cx} {kx vx : Expr} {pos : Pos} {tk tv : TE}
end
end WkDs
namespace WkB
open PySem PySem.Spec PyProof.Rows L2 WkI
theorem call_intB {X : Cx} : CallR X (.type "int") (fun xs H Q => ∃ k, xs = [V.bl k] ∧ Q (.int (if k then 1 else 0)) H) := fun pins s σ H xs us Q I r h => call_int1 pins s σ H xs us Q I r (.inr h)
section
variable {P : Program} {w : World} {K : PySem.W.Frag} {tg : Expr} {d : Addr} {o : Obj} {es : Array DictEntry} {ep : Nat}
end
section
variable {X : Cx} {tg e : Expr} {td : TE} {apos cpos : Pos}
end
section
variable {X : Cx}
end
section
variable {J : It} {n : Nat} {G : Hp → Prop} {Y : Nat → Hp → V → Hp → Prop}
end
end WkB
namespace Wk
open PySem PySem.Spec PyProof.Rows L2 WkD WkN LamX WkP WkE WkC
section
variable {P : Program} {w : World} {K : PySem.W.Frag} {mg : Str → Option Value} {base : Heap}
def mn2 (a b : Int) : Int := if b < a then b else a
def spSlack (K : PySem.W.Frag) (T : List (Addr × Str)) (C CU CE : Addr) : Sp := fun vs H Q E => ∃ (g dx : Addr) (fs : List (Str × V)) (a : Addr) (top : Str) (Vs : List Str) (ad : Str → Addr) (nb : Nb) (wt : Wt) (x y : V), vs = [.ref g, x, y] ∧ PArg K H g C dx fs a top Vs ad nb wt ∧ AnyV K H x ∧ AnyV K H y ∧ Tabs T H ∧ Sym Vs nb wt ∧ (∀ u ∈ Vs, ∀ v ∈ nb u, 0 ≤ wt u v) ∧ (∀ u ∈ Vs, (nb u).length < 1000) ∧ Vs.length < 1000 ∧ Vs.Nodup ∧ 2 ≤ Vs.length ∧
  (¬ IsIn x Vs → ∀ d H', Same H H' → H d = none → H' d = some (.xd [("value", x)]) → E (.ref CU) (some d) H') ∧
  (IsIn x Vs → ¬ IsIn y Vs → ∀ d H', Same H H' → H d = none → H' d = some (.xd [("value", y)]) → E (.ref CU) (some d) H') ∧
  (∀ u v, x = .str u → y = .str v → u ∈ Vs → v ∈ Vs → v ∉ nb u → ∀ d p H', Same H H' → H d = none → H p = none → H' d = some (.xd [("value", .ref p)]) → H' p = some (.tup [.str u, .str v]) → E (.ref CE) (some d) H') ∧
  (∀ u v, x = .str u → y = .str v → u ∈ Vs → v ∈ Vs → v ∈ nb u → ∀ n m ms H', Ext H H' → Tabs T H' → PairStr Vs (vl0 nb wt) u v n → LeastCut Vs nb wt m ms → Q (.int (mn2 (wt u v) (n - m))) H')
theorem sc_slack : FnScope ["network", "u", "v"] ["network", "u", "v"] (defScope s_slack) := ⟨rfl, rfl, rfl, by decide +kernel, rfl, by decide +kernel, by decide +kernel⟩
theorem c_slack {tbT : List (Addr × Str)} {C CU CE : Addr} (D : Def K mg "slack" s_slack) (B : Bi mg) (CE3 : Callee P w K mg base (CX P w) 3 "check_edge" ["network", "u", "v"] (spEdgeC K C CU CE)) (CC : Callee P w K mg base CX0 4 "pair_cut" ["graph", "u", "v"] (spPairCut K)) (CS : Callee P w K mg base CX0 5 "strength_of" ["graph"] (spStrength K tbT)) :
    Callee P w K mg base (CX P w) 6 "slack" ["network", "u", "v"] (spSlack K tbT C CU CE) := by
  obtain ⟨f, fd, F, g⟩ := D
  refine ⟨f, fd, F.ok sc_slack (fun vs H Q E h => ?_) (fun cdv A outer s H vs Q E hr h => ?_), g, F.kp, F.bindsN (fun _ _ _ _ _ _ us hl => match us, hl with | [_, _, _], _ => rfl)⟩
  · obtain ⟨g, dx, fs, a, top, Vs, ad, nb, wt, x, y, rfl, _⟩ := h
    rfl
  have hr5 : Room 5 _ := hr
  have hr4 : Room 4 _ := hr.mono (by decide)
  have hr3 : Room 3 _ := hr.mono (by decide)
  have hu := hu_of hr
  refine ⟨_, (pss_cons (ps_expr (pe_c CE3 hr3 (passes_call (takes_of rfl rfl rfl rfl) fun _ _ _ _ h => h) (pa_cons (pv 0) (pa_cons (pv 1) (pa_cons (pv 2) pa_nil)))))
      (pss_one (ps_ret (pe_callB (call_min2 rfl) (by rfl) B.n_min (by decide +kernel) (pa_cons (pe_dget hu (pe_dget hu (pe_fld (pv 0) rfl) (pv 1) (fun _ _ => rfl)) (pv 2) (fun _ _ => rfl)) (pa_cons (pe_op op_sub (pe_ix ix_tup (pe_c CC hr4 pass0 (pa_cons (pv 0) (pa_cons (pv 1) (pa_cons (pv 2) pa_nil)))) pe_int (fun _ _ => rfl)) (pe_c CS hr5 pass0 (pa_cons (pv 0) pa_nil))) pa_nil)))))), ?_⟩
  obtain ⟨g, dx, fs, a, top, Vs, ad, nb, wt, x, y, rfl, A, ax, ay, T0, sy, wnn, hnl, hVl, hVn, h2, k1, k2, k3, k4⟩ := h
  refine ⟨_, rfl, _, rfl, _, rfl, g, dx, fs, a, top, Vs, ad, nb, wt, x, y, rfl, A, ax, ay, k1, k2, k3, fun u v eu ev hu hv hj H1 s1 => ?_⟩
  subst eu ev
  have A1 := A.same s1
  have ne : u ≠ v := Ne.symm (sy.mem u hu v hj).2.1
  refine ⟨_, rfl, g, C, dx, fs, _, rfl, A1.g.ins, A1.g.cls, A1.g.na, A1.g.la, _, rfl, a, _, rfl, get_d A1.r.r.top hu, _, rfl, ad u, _, rfl, get_d (A1.r.r.row u hu) hj, ?_⟩
  refine ⟨_, rfl, _, rfl, _, rfl, g, C, dx, fs, a, top, u, v, Vs, ad, nb, wt, rfl, A1.g, A1.r, sy, wnn, hnl, hVl, hVn, hu, ne, fun t sd am n lf fl H2 s2 nt nam h1 h3 h4 M => ?_⟩
  have A2 := A1.same s2
  refine ⟨t, _, _, _, rfl, rfl, .inl (.inl h1), rfl, ?_⟩
  refine ⟨_, rfl, g, C, dx, fs, a, top, Vs, ad, nb, wt, rfl, A2.g, A2.r, hVn, sy, h2, hVl, T0.ext (s1.trans s2), fun m ms H3 e3 T3 lc => ?_⟩
  obtain ⟨lev, L⟩ := M.lv
  exact ⟨_, _, rfl, rfl, _, _, rfl, k4 u v rfl rfl hu hv hj n m ms H3 ((Ext.of (s1.trans s2)).trans e3) T3 (resid_pair M.rs hVn L M.nt) lc⟩
end
end Wk
namespace Wk
open PySem PySem.Spec PyProof.Rows L2 WkD WkN LamX WkP WkE WkC
section
variable {P : Program} {w : World} {K : PySem.W.Frag} {mg : Str → Option Value} {base : Heap}
structure RwCls (K : PySem.W.Frag) (C : Addr) : Prop where
  cls : Cls K C
  na : NoAttr K C "around"
  nt : NoAttr K C "top"
def rowsFl (a : Addr) (t : Str) : List (Str × V) := [("around", .ref a), ("top", .str t)]
def spRowsI : Sp := fun vs H Q _ => ∃ (x C dx a : Addr) (t : Str), vs = [.ref x, .ref a, .str t] ∧ H x = some (.ins C dx []) ∧ RwCls K C ∧ Q .non (upd H x (.ins C dx (rowsFl a t)))
theorem sc_rows_init : FnScope ["self", "around", "top"] ["self", "around", "top"] (defScope s_Rows_init) := ⟨rfl, rfl, rfl, by decide +kernel, rfl, by decide +kernel, by decide +kernel⟩
theorem ok_rows_init {f : Addr} {fd : FuncData} (F : FnP K "__init__" "Rows.__init__" s_Rows_init f fd) : FnOk P w K mg base CX0 1 f fd ["self", "around", "top"] (spRowsI (K := K)) := by
  refine F.ok sc_rows_init (fun vs H Q E h => ?_) (fun cdv A outer s H vs Q E hr h => ?_)
  · obtain ⟨x, C, dx, a, t, rfl, _⟩ := h
    rfl
  have nd := sc_rows_init.nd
  have hu := hu_of hr
  refine ⟨_, PSs.nox (pss_cons (ps_fld (pv 0) (pv 1) rfl)
      (pss_one (ps_fld (pv 0) (pv 2) rfl))), ?_⟩
  obtain ⟨x, C, dx, a, t, rfl, hx, RC, k⟩ := h
  refine ⟨_, rfl, _, rfl, x, C, dx, _, rfl, hx, RC.cls, RC.na, by show 0 < 1000; decide, ?_⟩
  refine ⟨_, rfl, _, rfl, x, C, dx, _, rfl, upd_same, RC.cls, RC.nt, by show 1 < 1000; decide, ?_⟩
  rw [upd_upd]
  exact k
def bump (wt : Wt) (u v : Str) : Wt := upw (upw wt u fun y => if y = v then wt u v + 1 else wt u y) v fun y => if y = u then wt u v + 1 else wt v y
def spRaised (K : PySem.W.Frag) (CR : Addr) : Sp := fun vs H Q _ => ∃ (g C dx : Addr) (fs : List (Str × V)) (a : Addr) (top u v : Str) (Vs : List Str) (ad : Str → Addr) (nb : Nb) (wt : Wt), vs = [.ref g, .str u, .str v] ∧ GAt K H g C dx fs a top ∧ RowsZ H a Vs ad nb wt ∧ Sym Vs nb wt ∧ Vs.length < 1000 ∧ (∀ u ∈ Vs, (nb u).length < 1000) ∧ Vs.Nodup ∧ u ∈ Vs ∧ v ∈ nb u ∧
  ∀ x dx' a' ad' H', Same H H' → GAt K H' x CR dx' (rowsFl a' top) a' top → RowsZ H' a' Vs ad' nb (bump wt u v) → Q (.ref x) H'
theorem sc_raised : FnScope ["graph", "u", "v", "around", "vertex", "row"] ["graph", "u", "v"] (defScope s_raised) := ⟨rfl, rfl, rfl, by decide +kernel, rfl, by decide +kernel, by decide +kernel⟩
theorem c_raised {CR : Addr} (D : Def K mg "raised" s_raised) (B : Bi mg) (RC : RwCls K CR) (RM : MakeC P w K mg base CX0 CR "Rows" 1 (spRowsI (K := K))) : Callee P w K mg base CX0 3 "raised" ["graph", "u", "v"] (spRaised K CR) := by
  obtain ⟨f, fd, F, gg⟩ := D
  refine ⟨f, fd, F.ok sc_raised (fun vs H Q E h => ?_) (fun cdv A outer s H vs Q E hr h => ?_), gg, F.kp, F.bindsN (fun _ _ _ _ _ _ us hl => match us, hl with | [_, _, _], _ => rfl)⟩
  · obtain ⟨g, C, dx, fs, a, top, u, v, Vs, ad, nb, wt, rfl, _⟩ := h
    rfl
  have hu := hu_of hr
  have nd := sc_raised.nd
  have hr2 : Room 2 _ := hr
  refine ⟨_, PSs.nox (pss_cons (WkV.ps_setDc (i := 3) (own := [("vertex", 4), ("row", 5)]) (by rfl) nd rfl rfl (WkV.sw_trueD rfl rfl rfl (by decide +kernel)) (pi_items (pe_fld (pv 0) rfl)) (blkOk_by (by kernel_rfl)) (fun _ _ _ _ _ => (WkN.pgT K 2 rfl rfl (pgs_cons (pg_name (i := 4) nd rfl (Or.inl rfl)) (pgs_cons (pg_name (i := 5) nd rfl (Or.inl rfl)) pgs_nil)) rfl)) (fun _ _ _ _ _ => pts_nil) (fun _ _ _ _ _ => (pv 4)) (fun _ _ _ _ _ => (WkD.pe_dstar (pv 5))))
      (pss_cons (ps_asg2 (pe_op op_add (pe_dget hu (pe_dget hu (pv 3) (pv 1) (fun _ _ => rfl)) (pv 2) (fun _ _ => rfl)) pe_int) (pg_sub (pe_dget hu (pv 3) (pv 1) (fun _ _ => rfl)) (pv 2) (set_dict hu) (fun _ => rfl)) (pg_sub (pe_dget hu (pv 3) (pv 2) (fun _ _ => rfl)) (pv 1) (set_dict hu) (fun _ => rfl)))
      (pss_one (WkD.ps_fz0 (ps_ret (WkC.pe_mk RM hr2 pass0 (pa_cons (pv 3) (pa_cons (pe_fld (pv 0) rfl) pa_nil)))))))), ?_⟩
  obtain ⟨g, C, dx, fs, a, top, u, v, Vs, ad0, nb, wt, rfl, G, RZ, sy, lV, lnb, hVn, huV, hv, k⟩ := h
  obtain ⟨oa, hA⟩ := RZ.top
  have tkN : ∀ i (h : i < Vs.length), Vs[i] ∉ Vs.take i := fun i h z => by
    obtain ⟨j, hj, e⟩ := List.mem_iff_getElem.mp z
    rw [List.length_take] at hj
    rw [List.getElem_take] at e
    have := (List.getElem_inj hVn).mp e
    omega
  have tkL : ∀ i, (Vs.take i).length < sizeLine := fun i => by
    rw [List.length_take]
    exact Nat.lt_of_le_of_lt (Nat.min_le_right _ _) (Nat.lt_trans lV (by decide))
  refine ⟨_, rfl, g, C, dx, fs, _, rfl, G.ins, G.cls, G.na, G.la, a, oa, _, rfl, hA, fun ra nra => ?_⟩
  refine dc_it (walk_items (kvs := dct Vs fun u => .ref (ad0 u))) (fun i H2 => ∃ ad, Cop H ra nb wt (Vs.take i) ad H2) ⟨ad0, ⟨upd_same, fun u hu => absurd hu (by simp), fun u hu => absurd hu (by simp), by simp⟩, fun b o hb hne => by rw [upd_ne hne]; exact hb, fun u hu => absurd hu (by simp)⟩ ?_ ?_ ?_
  · rintro i H2 hi ⟨ad, cp⟩
    exact cp.keep _ _ hA (ne_of_none hA nra)
  · rintro i x H2 H2' hi ⟨ad, cp⟩ ⟨T, kx, vx, rfl, nT, rfl, hkx, hvx⟩
    rw [dct_len] at hi
    dsimp only at hkx hvx
    rw [dct_at, List.getElem?_eq_getElem hi] at hkx hvx
    cases hkx
    cases hvx
    obtain ⟨u, eu⟩ : ∃ u, u = Vs[i] := ⟨_, rfl⟩
    have hnu := tkN i hi
    have tk := takeS (List.getElem?_eq_getElem hi)
    have huV : u ∈ Vs := eu ▸ List.getElem_mem hi
    rw [← eu] at hnu tk ⊢
    obtain ⟨ou, hU⟩ := RZ.row u huV
    have sT : Same H2 (upd H2 T (.tup [.str u, .ref (ad0 u)])) := same_upd nT
    have PT' : upd H2 T (.tup [.str u, .ref (ad0 u)]) T = some (.tup [.str u, .ref (ad0 u)]) := upd_same
    show gTup _ _ _ _ _ (upd H2 T (.tup [.str u, .ref (ad0 u)])) _
    generalize upd H2 T (.tup [.str u, .ref (ad0 u)]) = H3 at sT PT'
    refine ⟨T, _, rfl, .inl (.inl PT'), rfl, _, _, rfl, _, _, rfl, rfl, rfl, tYes_if ?_⟩
    refine ⟨_, rfl, fun p np => ⟨_, rfl, ?_⟩⟩
    have hU3 : H3 (ad0 u) = some (.frz ou (.dK (dct (nb u) fun v => .int (wt u v)))) := sT _ _ (cp.keep _ _ hU (ne_of_none hU nra))
    have nup : ad0 u ≠ p := ne_of_none hU3 np
    refine ⟨ad0 u, _, rfl, upd_same, nup, .inr ⟨ou, by rw [upd_ne nup]; exact hU3⟩, ?_⟩
    rw [upd_upd]
    have hra3 : H3 ra = some (.dK (dct (Vs.take i) fun u => .ref (ad u))) := sT _ _ cp.rows.top
    have npr : ra ≠ p := ne_of_none hra3 np
    have npH : H p = none := by
      cases e : H p with
      | none => rfl
      | some o =>
        have z := sT _ _ (cp.keep _ _ e (Ne.symm npr))
        rw [np] at z
        cases z
    refine ⟨_, Sum.inr u, rfl, by rw [upd_ne npr]; exact hra3, by rw [dct_len]; exact tkL i, fun y => if y = u then p else ad y, ?_⟩
    rw [dct_put_new hnu, tk]
    have e1 : dct (Vs.take i ++ [u]) (fun y => if y = u then V.ref p else V.ref (ad y)) = dct (Vs.take i ++ [u]) fun y => V.ref (if y = u then p else ad y) := dct_congr fun y _ => by split <;> rfl
    rw [e1]
    have at_ : ∀ y ∈ Vs.take i, H3 (ad y) = some (.dK (dct (nb y) fun v => .int (wt y v))) := fun y hy => sT _ _ (cp.rows.row y hy)
    have mm : ∀ y, y ∈ Vs.take i ++ [u] → (y = u ∧ (if y = u then p else ad y) = p) ∨ (y ∈ Vs.take i ∧ y ≠ u ∧ (if y = u then p else ad y) = ad y) := fun y hy => by
      by_cases e : y = u
      · exact .inl ⟨e, if_pos e⟩
      · rcases List.mem_append.mp hy with h | h
        · exact .inr ⟨h, e, if_neg e⟩
        · exact absurd (List.mem_singleton.mp h) e
    refine ⟨⟨upd_same, fun y hy => ?_, fun y hy z hz e => ?_, ?_⟩, fun b o hb hne => ?_, fun y hy => ?_⟩
    · rcases mm y hy with ⟨h1, h2⟩ | ⟨h1, h2, h3⟩
      · rw [h2, upd_ne (Ne.symm npr), upd_same, h1]
      · rw [h3, upd_ne (fun q => cp.rows.ne h1 q), upd_ne (ne_of_none (at_ y h1) np)]
        exact at_ y h1
    · rcases mm y hy with ⟨h1, h2⟩ | ⟨h1, h2, h3⟩
      · rcases mm z hz with ⟨g1, g2⟩ | ⟨g1, g2, g3⟩
        · rw [h1, g1]
        · rw [h2, g3] at e
          exact absurd e.symm (ne_of_none (at_ z g1) np)
      · rcases mm z hz with ⟨g1, g2⟩ | ⟨g1, g2, g3⟩
        · rw [h3, g2] at e
          exact absurd e (ne_of_none (at_ y h1) np)
        · rw [h3, g3] at e
          exact cp.rows.inj y h1 z g1 e
    · rw [List.nodup_append]
      refine ⟨cp.rows.nd, by simp, fun a1 h1 b1 h3 e => ?_⟩
      have h3 : b1 = u := by simpa using h3
      rw [e, h3] at h1
      exact hnu h1
    · rw [upd_ne hne, upd_ne (ne_of_none hb npH)]
      exact sT _ _ (cp.keep _ _ hb hne)
    · rcases mm y hy with ⟨h1, h2⟩ | ⟨h1, h2, h3⟩
      · rw [h2]
        exact npH
      · rw [h3]
        exact cp.new y h1
  · rintro H1 ⟨bd, cp⟩
    rw [dct_len, List.take_length] at cp
    have huv := sy.mem u huV v hv
    have hab : u ≠ v := Ne.symm huv.2.1
    have R3 := cp.rows
    have s3 : Same H H1 := fun c o hc => cp.keep c o hc (ne_of_none hc nra)
    obtain ⟨hvV, _, hu2, ewt⟩ := huv
    have nl : ∀ z ∈ Vs, (nb z).length < sizeLine := fun z hz => Nat.lt_trans (lnb z hz) (by decide)
    have ea : add (nb u) v = nb u := by
      unfold add
      exact if_pos hv
    have eb : add (nb v) u = nb v := by
      unfold add
      exact if_pos hu2
    have neab : bd v ≠ bd u := fun z => hab (R3.inj v hvV u huV z).symm
    have pu := putI (v := v) (n := wt u v + 1) (R3.row u huV) (nl u huV)
    rw [ea] at pu
    refine ⟨_, rfl, _, rfl, ra, _, rfl, get_d (.inl R3.top) huV, _, rfl, bd u, _, rfl, get_d (.inl (R3.row u huV)) hv, _, _, rfl, rfl, ?_⟩
    refine ⟨_, rfl, _, rfl, ra, _, rfl, get_d (.inl R3.top) huV, _, rfl, bd u, _, rfl, pu, ?_⟩
    have R4 := R3.put huV (nb u) (fun y => if y = v then wt u v + 1 else wt u y)
    have rb : upd H1 (bd u) (.dK (dct (nb u) fun y => .int (if y = v then wt u v + 1 else wt u y))) (bd v) = some (.dK (dct (nb v) fun y => .int (wt v y))) := by
      rw [upd_ne neab]
      exact R3.row v hvV
    have k4 : ∀ c o, H c = some o → upd H1 (bd u) (.dK (dct (nb u) fun y => .int (if y = v then wt u v + 1 else wt u y))) c = some o := fun c o hc => by
      rw [upd_ne (ne_of_none hc (cp.new u huV))]
      exact s3 _ _ hc
    generalize upd H1 (bd u) (.dK (dct (nb u) fun y => .int (if y = v then wt u v + 1 else wt u y))) = H4 at R4 rb k4 ⊢
    have pv2 := putI (v := u) (n := wt u v + 1) rb (nl v hvV)
    rw [eb] at pv2
    refine ⟨_, rfl, _, rfl, ra, _, rfl, get_d (.inl R4.top) hvV, _, rfl, bd v, _, rfl, pv2, ?_⟩
    have R5 := (R4.put hvV (nb v) (fun y => if y = u then wt u v + 1 else wt v y)).as (nb' := nb) (wt' := bump wt u v) (fun z _ => by
      by_cases e1 : z = v
      · rw [if_pos e1, e1]
      · rw [if_neg e1]
        by_cases e2 : z = u
        · rw [if_pos e2, e2]
        · rw [if_neg e2]) (fun z _ y _ => rfl)
    have k5 : ∀ c o, H c = some o → upd H4 (bd v) (.dK (dct (nb v) fun y => .int (if y = u then wt u v + 1 else wt v y))) c = some o := fun c o hc => by
      rw [upd_ne (ne_of_none hc (cp.new v hvV))]
      exact k4 _ _ hc
    generalize upd H4 (bd v) (.dK (dct (nb v) fun y => .int (if y = u then wt u v + 1 else wt v y))) = H5 at R5 k5 ⊢
    refine rows_fz (b := false) R5 fun H6 RZ6 kz => ?_
    have s6 : Same H H6 := fun c o hc => kz _ _ (k5 _ _ hc) fun _ => ⟨ne_of_none hc nra, fun z hz => ne_of_none hc (cp.new z hz)⟩
    have G6 := G.ext (Ext.of s6)
    refine ⟨_, rfl, _, rfl, g, C, dx, fs, _, rfl, G6.ins, G6.cls, G6.nt, G6.lt, ?_⟩
    intro x xd nx nxd nex
    have s7 : Same H6 (upd (upd H6 xd (.own x)) x (.ins CR xd [])) := fun b o hb => by
      rw [upd_ne (ne_of_none hb nx), upd_ne (ne_of_none hb nxd)]
      exact hb
    have X7 : upd (upd H6 xd (.own x)) x (.ins CR xd []) x = some (.ins CR xd []) := upd_same
    generalize upd (upd H6 xd (.own x)) x (.ins CR xd []) = H7 at s7 X7
    refine ⟨x, CR, xd, ra, top, rfl, X7, RC, rfl, ?_⟩
    have nxH : H x = none := np_of s6 nx
    have e8 : ∀ b o, H6 b = some o → upd H7 x (.ins CR xd (rowsFl ra top)) b = some o := fun b o hb => by
      rw [upd_ne (ne_of_none hb nx)]
      exact s7 _ _ hb
    exact k x xd ra bd _ (fun b o hb => e8 _ _ (s6 _ _ hb)) ⟨upd_same, RC.cls, RC.na, RC.nt, rfl, rfl⟩ ⟨RZ6.top.imp fun o h => e8 _ _ h, fun z hz => (RZ6.row z hz).imp fun o h => e8 _ _ h⟩
def spRoleBy (K : PySem.W.Frag) (T : List (Addr × Str)) : Sp := fun vs H Q _ => ∃ (g C dx : Addr) (fs : List (Str × V)) (a : Addr) (top u v : Str) (Vs : List Str) (ad : Str → Addr) (nb : Nb) (wt : Wt) (m n : Int), vs = [.ref g, .str u, .str v, .int m, .int n] ∧ GAt K H g C dx fs a top ∧ RowsZ H a Vs ad nb wt ∧ Sym Vs nb wt ∧ Vs.length < 1000 ∧ 2 ≤ Vs.length ∧ (∀ u ∈ Vs, (nb u).length < 1000) ∧ Vs.Nodup ∧ u ∈ Vs ∧ v ∈ nb u ∧ Tabs T H ∧
  ∀ H' (wd : Str), Ext H H' → Tabs T H' → ((m < n ∧ wd = ("none" : Str)) ∨ (n ≤ m ∧ ∃ m2 ms2, LeastCut Vs nb (bump wt u v) m2 ms2 ∧ wd = if m < m2 then ("all" : Str) else ("some" : Str))) → Q (.str wd) H'
theorem bump_sym {Vs : List Str} {nb : Nb} {wt : Wt} {u v : Str} (sy : Sym Vs nb wt) (hu : u ∈ Vs) (hv : v ∈ nb u) : Sym Vs nb (bump wt u v) := by
  obtain ⟨h1, h2, h3, h4⟩ := sy.mem u hu v hv
  refine ⟨sy.nd, fun x hx y hy => ?_⟩
  obtain ⟨k1, k2, k3, k4⟩ := sy.mem x hx y hy
  refine ⟨k1, k2, k3, ?_⟩
  unfold bump upw
  by_cases xu : x = u
  · subst xu
    by_cases yv : y = v
    · subst yv
      simp [k2, Ne.symm k2]
    · have yx : y ≠ x := k2
      simp [yv, yx, Ne.symm yv, k4, Ne.symm h2]
  · by_cases xv : x = v
    · subst xv
      by_cases yu : y = u
      · subst yu
        simp [h2, Ne.symm h2]
      · have yx : y ≠ x := k2
        simp [yu, yx, k4]
    · by_cases yu : y = u
      · subst yu
        simp [xu, xv, k4, h2, Ne.symm h2]
      · by_cases yv : y = v
        · subst yv
          simp [xu, xv, k4]
        · simp [xu, xv, yu, yv, k4]
theorem sc_role_by : FnScope ["graph", "u", "v", "least", "total"] ["graph", "u", "v", "least", "total"] (defScope s_role_by) := ⟨rfl, rfl, rfl, by decide +kernel, rfl, by decide +kernel, by decide +kernel⟩
theorem c_role_by {CR : Addr} {tbT : List (Addr × Str)} (D : Def K mg "role_by" s_role_by) (B : Bi mg) (CRs : Callee P w K mg base CX0 3 "raised" ["graph", "u", "v"] (spRaised K CR)) (CS : Callee P w K mg base CX0 5 "strength_of" ["graph"] (spStrength K tbT)) : Callee P w K mg base CX0 6 "role_by" ["graph", "u", "v", "least", "total"] (spRoleBy K tbT) := by
  obtain ⟨f, fd, F, gg⟩ := D
  refine ⟨f, fd, F.ok sc_role_by (fun vs H Q E h => ?_) (fun cdv A outer s H vs Q E hr h => ?_), gg, F.kp, F.bindsN (fun _ _ _ _ _ _ us hl => match us, hl with | [_, _, _, _, _], _ => rfl)⟩
  · obtain ⟨g, C, dx, fs, a, top, u, v, Vs, ad, nb, wt, m, n, rfl, _⟩ := h
    rfl
  have hu := hu_of hr
  have nd := sc_role_by.nd
  have hr5 : Room 5 _ := hr
  have hr3 : Room 3 _ := hr.mono (by decide)
  refine ⟨_, PSs.nox (pss_cons (ps_if (pt_cmpR op_gt (pv 4) (pv 3) (nomark _))
      (pss_one (ps_ret pe_str)) pss_nil)
      (pss_one (ps_ret (pe_ifExp (pt_cmpR op_gt (pe_c CS hr5 pass0 (pa_cons (pe_c CRs hr3 pass0 (pa_cons (pv 0) (pa_cons (pv 1) (pa_cons (pv 2) pa_nil)))) pa_nil)) (pv 3) (nomark _)) pe_str pe_str)))), ?_⟩
  obtain ⟨g, C, dx, fs, a, top, u, v, Vs, ad, nb, wt, m, n, rfl, G, RZ, sy, lV, l2, lnb, hVn, huV, hv, T0, k⟩ := h
  refine ⟨_, rfl, _, rfl, _, _, rfl, rfl, _, rfl, ?_⟩
  refine ite2 (fun h => ?_) (fun h => ?_)
  · exact k H _ (Ext.refl H) T0 (.inl ⟨of_decide_eq_true h, rfl⟩)
  · have hnm : n ≤ m := by
      have : ¬ m < n := fun z => h (decide_eq_true z)
      omega
    refine ⟨_, rfl, _, rfl, _, rfl, g, C, dx, fs, a, top, u, v, Vs, ad, nb, wt, rfl, G, RZ, sy, lV, lnb, hVn, huV, hv, fun x dx' a' ad' H1 s1 G1 RZ1 => ?_⟩
    refine ⟨x, _, dx', _, a', top, Vs, ad', nb, bump wt u v, rfl, G1, RZ1, hVn, bump_sym sy huV hv, l2, lV, T0.ext s1, fun m2 ms2 H2 e2 T2 lc2 => ?_⟩
    refine ⟨_, rfl, _, _, rfl, rfl, _, rfl, ?_⟩
    have e02 := (Ext.of s1).trans e2
    refine ite2 (fun h2 => ?_) (fun h2 => ?_)
    · refine k H2 _ e02 T2 (.inr ⟨hnm, m2, ms2, lc2, ?_⟩)
      rw [if_pos (of_decide_eq_true h2)]
    · refine k H2 _ e02 T2 (.inr ⟨hnm, m2, ms2, lc2, ?_⟩)
      rw [if_neg fun z => h2 (decide_eq_true z)]
def spRole (K : PySem.W.Frag) (T : List (Addr × Str)) (C CU CE : Addr) : Sp := fun vs H Q E => ∃ (g dx : Addr) (fs : List (Str × V)) (a : Addr) (top : Str) (Vs : List Str) (ad : Str → Addr) (nb : Nb) (wt : Wt) (u v : Str), vs = [.ref g, .str u, .str v] ∧ PArg K H g C dx fs a top Vs ad nb wt ∧ Tabs T H ∧ Sym Vs nb wt ∧ (∀ u ∈ Vs, ∀ v ∈ nb u, 0 ≤ wt u v) ∧ (∀ u ∈ Vs, (nb u).length < 1000) ∧ Vs.length < 1000 ∧ Vs.Nodup ∧ 2 ≤ Vs.length ∧ u ∈ Vs ∧ v ∈ nb u ∧
  ∀ H' (wd : Str) (n m : Int) ms, Ext H H' → Tabs T H' → PairStr Vs (vl0 nb wt) u v n → LeastCut Vs nb wt m ms → ((m < n ∧ wd = ("none" : Str)) ∨ (n ≤ m ∧ ∃ m2 ms2, LeastCut Vs nb (bump wt u v) m2 ms2 ∧ wd = if m < m2 then ("all" : Str) else ("some" : Str))) → Q (.str wd) H'
theorem sc_role : FnScope ["network", "u", "v"] ["network", "u", "v"] (defScope s_role) := ⟨rfl, rfl, rfl, by decide +kernel, rfl, by decide +kernel, by decide +kernel⟩
theorem c_role {tbT : List (Addr × Str)} {C CU CE : Addr} (D : Def K mg "role" s_role) (B : Bi mg) (CE3 : Callee P w K mg base (CX P w) 3 "check_edge" ["network", "u", "v"] (spEdgeC K C CU CE)) (CC : Callee P w K mg base CX0 4 "pair_cut" ["graph", "u", "v"] (spPairCut K)) (CS : Callee P w K mg base CX0 5 "strength_of" ["graph"] (spStrength K tbT)) (CB6 : Callee P w K mg base CX0 6 "role_by" ["graph", "u", "v", "least", "total"] (spRoleBy K tbT)) :
    Callee P w K mg base (CX P w) 7 "role" ["network", "u", "v"] (spRole K tbT C CU CE) := by
  obtain ⟨f, fd, F, g⟩ := D
  refine ⟨f, fd, F.ok sc_role (fun vs H Q E h => ?_) (fun cdv A outer s H vs Q E hr h => ?_), g, F.kp, F.bindsN (fun _ _ _ _ _ _ us hl => match us, hl with | [_, _, _], _ => rfl)⟩
  · obtain ⟨g, dx, fs, a, top, Vs, ad, nb, wt, x, y, rfl, _⟩ := h
    rfl
  have hr6 : Room 6 _ := hr
  have hr5 : Room 5 _ := hr.mono (by decide)
  have hr4 : Room 4 _ := hr.mono (by decide)
  have hr3 : Room 3 _ := hr.mono (by decide)
  have hu := hu_of hr
  refine ⟨_, (pss_cons (ps_expr (pe_c CE3 hr3 (passes_call (takes_of rfl rfl rfl rfl) fun _ _ _ _ h => h) (pa_cons (pv 0) (pa_cons (pv 1) (pa_cons (pv 2) pa_nil)))))
      (pss_one (ps_ret (pe_c CB6 hr6 pass0 (pa_cons (pv 0) (pa_cons (pv 1) (pa_cons (pv 2) (pa_cons (pe_c CS hr5 pass0 (pa_cons (pv 0) pa_nil)) (pa_cons (pe_ix ix_tup (pe_c CC hr4 pass0 (pa_cons (pv 0) (pa_cons (pv 1) (pa_cons (pv 2) pa_nil)))) pe_int (fun _ _ => rfl)) pa_nil))))))))), ?_⟩
  obtain ⟨g, dx, fs, a, top, Vs, ad, nb, wt, u, v, rfl, A, T0, sy, wnn, hnl, hVl, hVn, h2, huV, hv, k⟩ := h
  have hvV := (sy.mem u huV v hv).1
  have ln : ∀ z ∈ Vs, z.length ≤ sizeLine := fun z hz => by
    have h := A.nm z hz
    unfold nameB at h
    rw [Bool.and_eq_true, Bool.and_eq_true] at h
    have h2 := of_decide_eq_true h.2.1
    have : (10 : Nat) ≤ sizeLine := by decide
    omega
  have iu : IsIn (.str u) Vs := ⟨u, huV, rfl⟩
  have iv : IsIn (.str v) Vs := ⟨v, hvV, rfl⟩
  refine ⟨_, rfl, _, rfl, _, rfl, g, dx, fs, a, top, Vs, ad, nb, wt, .str u, .str v, rfl, A, .inl ⟨u, rfl, ln u huV⟩, .inl ⟨v, rfl, ln v hvV⟩, fun h => absurd iu h, fun _ h => absurd iv h, fun u' v' e1 e2 _ _ hn => ?_, fun u' v' e1 e2 _ _ _ H1 s1 => ?_⟩
  · cases e1
    cases e2
    exact absurd hv hn
  have A1 := A.same s1
  have ne : u ≠ v := Ne.symm (sy.mem u huV v hv).2.1
  refine ⟨_, rfl, _, rfl, _, rfl, _, rfl, g, C, dx, fs, a, top, Vs, ad, nb, wt, rfl, A1.g, A1.r, hVn, sy, h2, hVl, T0.ext s1, fun m ms H3 e3 T3 lc => ?_⟩
  have A3g := A1.g.ext e3
  have A3r := A1.r.ext e3
  refine ⟨_, rfl, _, rfl, _, rfl, g, C, dx, fs, a, top, u, v, Vs, ad, nb, wt, rfl, A3g, A3r, sy, wnn, hnl, hVl, hVn, huV, ne, fun t sd am n lf fl H2 s2 nt nam h1 h3 h4 M => ?_⟩
  have A2g := A3g.ext (Ext.of s2)
  have A2r := A3r.ext (Ext.of s2)
  refine ⟨t, _, _, _, rfl, rfl, .inl (.inl h1), rfl, ?_⟩
  obtain ⟨lev, L⟩ := M.lv
  have ps := resid_pair M.rs hVn L M.nt
  refine ⟨g, C, dx, fs, a, top, u, v, Vs, ad, nb, wt, m, n, rfl, A2g, A2r, sy, hVl, h2, hnl, hVn, huV, hv, T3.ext s2, fun H5 wd e5 T5 hw => ?_⟩
  exact k H5 wd n m ms ((Ext.of s1).trans (e3.trans ((Ext.of s2).trans e5))) T5 ps lc hw
end
end Wk
namespace Wk
open PySem PySem.Spec PyProof.Rows L2 WkD WkN
section
variable {P : Program} {w : World} {K : PySem.W.Frag} {mg : Str → Option Value} {base : Heap}
def spShuf (K : PySem.W.Frag) : Sp := fun vs H Q _ => ∃ (p cs l : Addr) (N : Nat) (b : Bool) (xs : List V), vs = [.ref p, .ref l] ∧ Pen H p cs N ∧ N + xs.length < 2 ^ 60 ∧ SqX b K H l xs ∧ xs.length < 1000000 ∧
  ∀ q ys H', But p H H' → H q = none → H' q = some (.lst ys) → ys.Perm xs → Pen H' p cs (N + xs.length) → Q (.ref q) H'
theorem eraseIdx_perm {α : Type} : ∀ {l : List α} {k : Nat} {y : α}, l[k]? = some y → (y :: l.eraseIdx k).Perm l
  | [], _, _, h => by simp at h
  | a :: l, 0, y, h => by
    cases h
    exact .refl _
  | a :: l, k + 1, y, h => by
    have ih := eraseIdx_perm (l := l) (k := k) (y := y) (by simpa using h)
    exact (List.Perm.swap a y _).trans (ih.cons a)
theorem seqIx {i : Int} {n : Nat} (h0 : 0 ≤ i) (h1 : i < (n : Int)) : seqIndex? i n = some i.toNat := by
  unfold seqIndex?
  have e : (if i < 0 then i + (n : Int) else i) = i := if_neg (by omega)
  simp only [e]
  rw [decide_eq_true h0, decide_eq_true h1]
  rfl
theorem sc_shuffled : FnScope ["_law_pen_here", "_law_some", "_law_left", "_law_found"] ["_law_pen_here", "_law_some"] (defScope s_L_shuffled) := ⟨rfl, rfl, rfl, by decide +kernel, rfl, by decide +kernel, by decide +kernel⟩
theorem c_shuffled (D : Def K mg "_law_shuffled" s_L_shuffled) (B : Bi mg) (CD : Callee P w K mg base CX0 1 "_law_draw" ["_law_pen_here", "_law_many"] spDraw) : Callee P w K mg base CX0 2 "_law_shuffled" ["_law_pen_here", "_law_some"] (spShuf K) := by
  obtain ⟨f, fd, F, g⟩ := D
  refine ⟨f, fd, F.ok sc_shuffled (fun vs H Q E h => ?_) (fun cdv A outer s H vs Q E hr h => ?_), g, F.kp, F.bindsN (fun _ _ _ _ _ _ us hl => match us, hl with | [_, _], _ => rfl)⟩
  · obtain ⟨p, cs, l, N, b, xs, rfl, _⟩ := h
    rfl
  have hu := hu_of hr
  have nd := sc_shuffled.nd
  have hr1 : Room 1 _ := hr
  refine ⟨_, PSs.nox (pss_cons (ps_par (i := 2) (j := 3) (by rfl) nd rfl rfl (by decide) rfl rfl (pa_cons (pe_callTy call_list_of (by rfl) B.n_list (by decide +kernel) (pa_cons (pv 1) pa_nil)) (pa_cons (pe_lst pa_nil) pa_nil)) (by rfl))
      (pss_cons (ps_while PassesOwn.never (pt_cmpR (WkG.op_neNil hr.units) (pv 2) (pe_lst pa_nil) (nomark _))
      (pss_one (ps_expr (pe_bm PySem.F.plainAttrs_list PySem.F.slot_list_append PySem.F.type_list_append mt_append (pv 3) (pa_cons (pe_bm PySem.F.plainAttrs_list PySem.F.slot_list_pop PySem.F.type_list_pop mt_popAt (pv 2) (pa_cons (pe_c CD hr1 pass0 (pa_cons (pv 0) (pa_cons (pe_callB call_len_seq (by rfl) B.n_len (by decide +kernel) (pa_cons (pv 2) pa_nil)) pa_nil))) pa_nil)) pa_nil)))))
      (pss_one (ps_ret (pv 3))))), ?_⟩
  obtain ⟨p, cs, l, N, b, xs, rfl, hP, hN, hS, hl, k⟩ := h
  have big : 1000000 < sizeLine := by decide
  refine ⟨_, rfl, l, xs, rfl, by cases b; exact .inr hS; exact .inl hS, fun q1 n1 => ⟨by show 0 ≤ sizeLine; decide, fun q2 n2 => ⟨_, _, rfl, ?_⟩⟩⟩
  have n12 : q1 ≠ q2 := fun z => by
    rw [← z, upd_same] at n2
    cases n2
  have n2H : H q2 = none := by
    rw [upd_ne (Ne.symm n12)] at n2
    exact n2
  have f1 := hP.free n1
  have f2 := hP.free n2H
  have P1 : Pen (upd (upd H q1 (.lst xs)) q2 (.lst [])) p cs N := (hP.put f1.1 f1.2).put f2.1 f2.2
  refine ⟨fun m σ Hc => ∃ (ls fs : List V), σ = [some (.ref p), some (.ref l), some (.ref q1), some (.ref q2)] ∧ But p H Hc ∧ Hc q1 = some (.lst ls) ∧ Hc q2 = some (.lst fs) ∧ (fs ++ ls).Perm xs ∧ Pen Hc p cs (N + fs.length) ∧ m = ls.length,
    ⟨_, xs, [], rfl, fun c o hc hne => by rw [upd_ne (ne_of_none hc n2H), upd_ne (ne_of_none hc n1)]; exact hc, by rw [upd_ne n12, upd_same], upd_same, .refl _, P1, rfl⟩, ?_⟩
  rintro m σ Hc ⟨ls, fs, rfl, bH, L1, L2, pm, Pc, rfl⟩
  have ple : fs.length + ls.length = xs.length := by
    have := pm.length_eq
    rw [List.length_append] at this
    exact this
  refine ⟨_, rfl, by show 0 ≤ sizeLine; decide, fun q nq => ?_⟩
  have s2 := same_upd (o := .lst []) nq
  have L1' := s2 _ _ L1
  have L2' := s2 _ _ L2
  have Q2 : upd Hc q (.lst []) q = some (.lst []) := upd_same
  have bH2 := bH.trans (But.of_same s2)
  have P2 := Pc.same s2
  generalize upd Hc q (.lst []) = H2 at L1' L2' Q2 bH2 P2
  refine ⟨q1, q, _, rfl, rfl, SqL.of L1', SqL.of Q2, _, rfl, ite2 (fun hb => ?_) (fun hb => ?_)⟩
  · have hne : ls ≠ [] := fun z => by
      rw [z] at hb
      cases hb
    have pos := List.length_pos_iff.mpr hne
    refine ⟨fun σ' H' => ∃ (ls' fs' : List V), σ' = [some (.ref p), some (.ref l), some (.ref q1), some (.ref q2)] ∧ But p H H' ∧ H' q1 = some (.lst ls') ∧ H' q2 = some (.lst fs') ∧ (fs' ++ ls').Perm xs ∧ Pen H' p cs (N + fs'.length) ∧ ls'.length < ls.length, ?_, ?_⟩
    · rintro σ' H' ⟨ls', fs', e1, e2, e3, e4, e5, e6, e7⟩
      exact ⟨_, e7, ls', fs', e1, e2, e3, e4, e5, e6, rfl⟩
    refine ⟨_, rfl, .inl ⟨rfl, _, SqL.of L2'⟩, ?_⟩
    refine ⟨_, rfl, .inl ⟨rfl, _, SqL.of L1'⟩, ?_⟩
    refine ⟨_, rfl, _, rfl, q1, _, rfl, .inl (SqL.of L1'), p, cs, _, _, rfl, by omega, by omega, P2, by omega, fun i H3 i0 i1 b3 P3 => ?_⟩
    have L13 := b3 _ _ L1' f1.1
    have L23 := b3 _ _ L2' f2.1
    have hi : i.toNat < ls.length := by omega
    refine ⟨q1, ls, i, i.toNat, ls[i.toNat], rfl, rfl, L13, by omega, by omega, ?_, List.getElem?_eq_getElem hi, ?_⟩
    · exact seqIx i0 (by omega)
    have L24 : upd H3 q1 (.lst (ls.eraseIdx i.toNat)) q2 = some (.lst fs) := by
      rw [upd_ne (Ne.symm n12)]
      exact L23
    refine ⟨q2, fs, _, rfl, rfl, L24, by omega, ls.eraseIdx i.toNat, fs ++ [ls[i.toNat]], rfl, fun c o hc hne => ?_, ?_, upd_same, ?_, ?_, ?_⟩
    · rw [upd_ne (ne_of_none hc n2H), upd_ne (ne_of_none hc n1)]
      exact (bH2.trans b3) c o hc hne
    · rw [upd_ne n12, upd_same]
    · rw [List.append_assoc]
      exact ((eraseIdx_perm (List.getElem?_eq_getElem hi)).append_left fs).trans pm
    · rw [List.length_append, List.length_singleton, ← Nat.add_assoc]
      exact (P3.put f1.1 f1.2).put f2.1 f2.2
    · rw [List.length_eraseIdx_of_lt hi]
      omega
  · have we : ls = [] := by
      cases ls with
      | nil => rfl
      | cons y r => exact absurd rfl hb
    subst we
    rw [List.append_nil] at pm
    refine ⟨_, rfl, k q2 fs H2 bH2 n2H L2' pm ?_⟩
    rw [← pm.length_eq]
    exact P2
end
end Wk
namespace Wk
open PySem PySem.Spec PyProof.Rows L2 WkD WkN LamX WkP WkE WkC
section
variable {P : Program} {w : World} {K : PySem.W.Frag} {mg : Str → Option Value} {base : Heap}
theorem Valid.gok {vs0 Ws : List Str} {es : List Ed} {nb : Nb} {wt : Wt} (ok : Valid vs0 es) (ro : RowsOf vs0 es nb wt) (pm : Ws.Perm vs0) : GOk Ws nb wt := by
  have ln := pm.length_eq
  have two := ok.two
  have few := ok.few
  refine ⟨fun u hu => ok.nm u (pm.mem_iff.mp hu), pm.nodup_iff.mpr ok.nd, by omega, by omega, ok.sym ro pm, fun u hu v hv => ?_, fun s hs u hu => ok.con nb wt ro s (pm.mem_iff.mp hs) u (pm.mem_iff.mp hu)⟩
  have hu := pm.mem_iff.mp hu
  obtain ⟨n, hn⟩ := (ro.mem u hu v).mp hv
  rw [ro.val u hu v n hn]
  rcases hn with h | h
  · obtain ⟨i, hi⟩ := List.getElem?_of_mem h
    obtain ⟨_, _, _, h4, h5, _⟩ := ok.ed i _ _ _ hi
    exact ⟨h4, h5⟩
  · obtain ⟨i, hi⟩ := List.getElem?_of_mem h
    obtain ⟨_, _, _, h4, h5, _⟩ := ok.ed i _ _ _ hi
    exact ⟨h4, h5⟩
end
end Wk
namespace PySem.SeqAt
open AutoSeq1 (wpAny_loadPart')
open MeetsSeq
section
variable {A : Around} {s : Shared}
end
end PySem.SeqAt
namespace WkK
open PySem PySem.Spec PyProof.Rows L2 WkG
section
variable {X : Cx} {x f : Str} {C fI : Addr}
end
end WkK
namespace WkK
open PySem PySem.Spec PyProof.Rows L2 WkD WkN
section
variable {X : Cx} {pins : List (Addr × Obj)} {σ : L2.St} {H : Hp} {s : Shared}
end
section
variable {X : Cx} {CX : CXT} {k : Nat} {C : Addr} {sp : Sp} {E : L2.St → XK} {m : Str} {pos apos : Pos} {e o : Expr} {es : List Expr} {ta : TE} {t : TA}
end
section
variable {X : Cx} {CX : CXT} {k : Nat} {ps : List Str} {sp : Sp} {E : XK} {x : Str} {p pos : Pos} {e : Expr} {es : List Expr} {t : TA}
end
end WkK
namespace Wk
open PySem PySem.Spec PyProof.Rows L2 WkD WkN LamX WkP WkE WkC
section
variable {P : Program} {w : World} {K : PySem.W.Frag} {mg : Str → Option Value} {base : Heap}
theorem NetO.keep {H H' : Hp} {x C : Addr} {rest : List (Str × V)} {vs : List Str} {nb : Nb} {wt : Wt} {t : Str} {n : Int} {m e : Addr} {r s : Int} (N : NetO H x C rest vs nb wt t n m e r s) (k : ∀ c o, H c = some o → (c = x ∨ ∃ o1 o2, o = .frz o1 o2) → H' c = some o) : NetO H' x C rest vs nb wt t n m e r s := by
  obtain ⟨dx, p, ad, hx, rz⟩ := N.ex
  obtain ⟨o, ht⟩ := rz.top
  refine ⟨⟨dx, p, ad, k _ _ hx (.inl rfl), ⟨o, k _ _ ht (.inr ⟨_, _, rfl⟩)⟩, fun u hu => ?_⟩, N.rst, N.asc, N.an, N.gok, N.lc, N.rt⟩
  obtain ⟨o2, h2⟩ := rz.row u hu
  exact ⟨o2, k _ _ h2 (.inr ⟨_, _, rfl⟩)⟩
theorem GOk.rows_few {vs : List Str} {nb : Nb} {wt : Wt} (g : GOk vs nb wt) (few : vs.length ≤ 1000) : ∀ u ∈ vs, (nb u).length ≤ 1000 := fun u hu => by
  have : (nb u).length ≤ vs.length := (g.sym.nd u hu).length_le_of_subset fun v hv => (g.sym.mem u hu v hv).1
  omega
theorem GOk.nn {vs : List Str} {nb : Nb} {wt : Wt} (g : GOk vs nb wt) : ∀ u ∈ vs, ∀ v ∈ vs, 0 ≤ vl0 nb wt u v := fun u hu v hv => by
  unfold vl0
  split
  · rename_i h
    have := (g.wts u hu v h).1
    omega
  · exact Int.le_refl 0
section
variable {T : List (Addr × Str)} {C p cs q va ea x : Addr} {vs : List Str} {es : EdD} {rt : Str} {N : Nat} {H H' : Hp}
end
theorem cutV_hi {ys : List V} {k : Int} (h : 0 ≤ k) : cutV ys none (some k) = ys.take k.toNat := by
  obtain ⟨n, rfl⟩ : ∃ n : Nat, k = (n : Int) := ⟨k.toNat, by omega⟩
  unfold cutV
  rw [HT.sIx_none, HT.sIx_nat]
  simp only [Nat.sub_zero, List.drop_zero, Int.toNat_natCast]
  rcases Nat.le_total n ys.length with q | q
  · rw [Nat.min_eq_left q]
  · rw [Nat.min_eq_right q, List.take_of_length_le (Nat.le_refl _), List.take_of_length_le q]
theorem cutV_lo {ys : List V} {k : Int} (h : 0 ≤ k) : cutV ys (some k) none = ys.drop k.toNat := by
  obtain ⟨n, rfl⟩ : ∃ n : Nat, k = (n : Int) := ⟨k.toNat, by omega⟩
  unfold cutV
  rw [HT.sIx_none, HT.sIx_nat]
  simp only [Int.toNat_natCast]
  rcases Nat.le_total n ys.length with q | q
  · rw [Nat.min_eq_left q]
    exact List.take_of_length_le (by rw [List.length_drop]; omega)
  · rw [Nat.min_eq_right q, List.drop_of_length_le (Nat.le_refl _), List.drop_of_length_le q]
    exact List.take_nil
end
end Wk
namespace WkP
open PySem WkD
section
variable {l : List Str} {w : Wf} {lam : Str → Str → Int}
theorem cut_two (sy : ∀ u ∈ l, ∀ v ∈ l, w u v = w v u) (S : Sd) : 2 * cutW l w S = sm l fun u => sm l fun v => if S u = S v then 0 else w u v := by
  have e1 : cutW l w S = sm l fun u => sm l fun v => if S v = true ∧ S u = false then w u v else 0 := by
    unfold cutW
    rw [sm_swp l l]
    refine sm_congr fun u hu => sm_congr fun v hv => ?_
    rw [sy v hv u hu]
  have e2 : 2 * cutW l w S = cutW l w S + cutW l w S := by omega
  rw [e2]
  conv => lhs; rhs; rw [e1]
  unfold cutW
  rw [← sm_add]
  refine sm_congr fun u hu => ?_
  rw [← sm_add]
  refine sm_congr fun v hv => ?_
  cases S u <;> cases S v <;> simp
theorem cut_neg (sy : ∀ u ∈ l, ∀ v ∈ l, w u v = w v u) (S : Sd) : cutW l w (fun u => !S u) = cutW l w S := by
  have h1 := cut_two sy S
  have h2 := cut_two sy fun u => !S u
  have e : (sm l fun u => sm l fun v => if (!S u) = (!S v) then 0 else w u v) = sm l fun u => sm l fun v => if S u = S v then 0 else w u v := sm_congr fun u _ => sm_congr fun v _ => by
    cases S u <;> cases S v <;> simp
  omega
theorem posi (sy : ∀ u ∈ l, ∀ v ∈ l, w u v = w v u) (nn : ∀ u ∈ l, ∀ v ∈ l, 0 ≤ w u v) (X Z : Sd) : cutW l w (fun u => X u && !Z u) + cutW l w (fun u => Z u && !X u) ≤ cutW l w X + cutW l w Z := by
  have h1 := cut_two sy X
  have h2 := cut_two sy Z
  have h3 := cut_two sy fun u => X u && !Z u
  have h4 := cut_two sy fun u => Z u && !X u
  have le : (sm l fun u => (sm l fun v => if (X u && !Z u) = (X v && !Z v) then 0 else w u v) + sm l fun v => if (Z u && !X u) = (Z v && !X v) then 0 else w u v) ≤ sm l fun u => (sm l fun v => if X u = X v then 0 else w u v) + sm l fun v => if Z u = Z v then 0 else w u v := by
    refine sm_le fun u hu => ?_
    rw [← sm_add, ← sm_add]
    refine sm_le fun v hv => ?_
    have := nn u hu v hv
    cases X u <;> cases Z u <;> cases X v <;> cases Z v <;> simp <;> omega
  rw [sm_add, sm_add] at le
  omega
def IsLam (l : List Str) (w : Wf) (u v : Str) (n : Int) : Prop := (∃ S : Sd, S u = true ∧ S v = false ∧ cutW l w S = n) ∧ ∀ S : Sd, S u = true → S v = false → n ≤ cutW l w S
structure LamOk (l : List Str) (w : Wf) (lam : Str → Str → Int) : Prop where
  sy : ∀ u ∈ l, ∀ v ∈ l, w u v = w v u
  nn : ∀ u ∈ l, ∀ v ∈ l, 0 ≤ w u v
  is : ∀ u ∈ l, ∀ v ∈ l, u ≠ v → IsLam l w u v (lam u v)
theorem LamOk.le (h : LamOk l w lam) {u v : Str} (hu : u ∈ l) (hv : v ∈ l) (ne : u ≠ v) {S : Sd} (s : S u ≠ S v) : lam u v ≤ cutW l w S := by
  cases a : S u with
  | true => exact (h.is u hu v hv ne).2 S a (by rw [a] at s; cases b : S v with | true => exact absurd b.symm s | false => rfl)
  | false =>
    rw [← cut_neg h.sy]
    refine (h.is u hu v hv ne).2 _ (by rw [a]; rfl) ?_
    rw [a] at s
    cases b : S v with
    | true => rfl
    | false => exact absurd b.symm s
theorem LamOk.symm (h : LamOk l w lam) {u v : Str} (hu : u ∈ l) (hv : v ∈ l) (ne : u ≠ v) : lam u v = lam v u := by
  obtain ⟨S, a, b, e⟩ := (h.is u hu v hv ne).1
  obtain ⟨S', a', b', e'⟩ := (h.is v hv u hu (Ne.symm ne)).1
  have h1 := h.le hv hu (Ne.symm ne) (S := S) (by rw [a, b]; simp)
  have h2 := h.le hu hv ne (S := S') (by rw [a', b']; simp)
  omega
theorem LamOk.tri (h : LamOk l w lam) {u x v : Str} (hu : u ∈ l) (hx : x ∈ l) (hv : v ∈ l) (ux : u ≠ x) (xv : x ≠ v) (uv : u ≠ v) : lam u x ≤ lam u v ∨ lam x v ≤ lam u v := by
  obtain ⟨S, a, b, e⟩ := (h.is u hu v hv uv).1
  cases c : S x with
  | true => exact .inr (by rw [← e]; exact h.le hx hv xv (by rw [c, b]; simp))
  | false => exact .inl (by rw [← e]; exact h.le hu hx ux (by rw [a, c]; simp))
structure Gus (l : List Str) (w : Wf) (lam : Str → Str → Int) (P : List Str) (gr : Str → Str) : Prop where
  sub : ∀ p ∈ P, p ∈ l
  rep : ∀ a ∈ l, gr a ∈ P
  own : ∀ p ∈ P, gr p = p
  sep : ∀ x ∈ P, ∀ y ∈ P, x ≠ y → ∃ (Z : Sd) (zx zy : Str), zx ∈ P ∧ zy ∈ P ∧ zx ≠ zy ∧ (∀ a ∈ l, gr a = x → Z a = false) ∧ (∀ b ∈ l, gr b = y → Z b = true) ∧ Z zx = false ∧ Z zy = true ∧ cutW l w Z = lam zx zy ∧ (zy = y ∨ lam x y ≤ lam zy y) ∧ (zx = x ∨ lam x y ≤ lam x zx)
  low : ∀ a ∈ l, ∀ b ∈ l, gr a ≠ gr b → lam a b ≤ lam (gr a) (gr b)
theorem Gus.start {r : Str} (hr : r ∈ l) : Gus l w lam [r] fun _ => r :=
  ⟨fun p hp => List.mem_singleton.mp hp ▸ hr, fun _ _ => List.mem_singleton.mpr rfl, fun p hp => (List.mem_singleton.mp hp).symm, fun x hx y hy ne => absurd ((List.mem_singleton.mp hx).trans (List.mem_singleton.mp hy).symm) ne, fun _ _ _ _ ne => absurd rfl ne⟩
theorem Gus.way (h : LamOk l w lam) {P : List Str} {gr : Str → Str} (G : Gus l w lam P gr) {v : Str} (hv : v ∈ l) (nv : v ∉ P) {X : Sd} (h1 : X v = true) (h2 : X (gr v) = false) (hc : cutW l w X = lam v (gr v)) {q : Str} (hq : q ∈ P) (ne : q ≠ gr v) : lam v q ≤ lam v (gr v) ∧ lam v q ≤ lam (gr v) q ∧ (lam v (gr v) ≤ lam v q ∨ lam (gr v) q ≤ lam v q) := by
  have ht := G.rep v hv
  have tl := G.sub _ ht
  have ql := G.sub q hq
  have vt : v ≠ gr v := fun e => nv (e ▸ ht)
  have vq : v ≠ q := fun e => nv (e ▸ hq)
  have b := G.low v hv q ql (by rw [G.own q hq]; exact Ne.symm ne)
  rw [G.own q hq] at b
  refine ⟨?_, b, h.tri hv tl ql vt (Ne.symm ne) vq⟩
  cases x : X q with
  | false =>
    rw [← hc]
    exact h.le hv ql vq (by rw [h1, x]; simp)
  | true =>
    have := h.le tl ql (Ne.symm ne) (S := X) (by rw [h2, x]; simp)
    omega
theorem Gus.step (h : LamOk l w lam) {P : List Str} {gr : Str → Str} (G : Gus l w lam P gr) {v : Str} (hv : v ∈ l) (nv : v ∉ P) {X : Sd} (h1 : X v = true) (h2 : X (gr v) = false) (hc : cutW l w X = lam v (gr v)) : Gus l w lam (v :: P) fun a => if gr a = gr v ∧ X a = true then v else gr a := by
  obtain ⟨t, et⟩ : ∃ t, t = gr v := ⟨_, rfl⟩
  have way := fun q hq ne => G.way h hv nv h1 h2 hc (q := q) hq ne
  have ht := G.rep v hv
  rw [← et] at ht h2 hc way ⊢
  have tl := G.sub _ ht
  have ot := G.own t ht
  have vt : v ≠ t := fun e => nv (e ▸ ht)
  have nP : ∀ q ∈ P, v ≠ q := fun q hq e => nv (e ▸ hq)
  -- what a member's place is
  have low' : ∀ a ∈ l, ∀ b ∈ l, gr a = t → X a = true → ¬ (gr b = t ∧ X b = true) → lam a b ≤ lam v (gr b) := by
    intro a ha b hb ga xa nb
    by_cases gb : gr b = t
    · have xb : X b = false := by
        cases z : X b with
        | true => exact absurd ⟨gb, z⟩ nb
        | false => rfl
      rw [gb, ← hc]
      exact h.le ha hb (fun e => by rw [e, xb] at xa; cases xa) (by rw [xa, xb]; simp)
    · obtain ⟨y, ey⟩ : ∃ y, y = gr b := ⟨_, rfl⟩
      have hy : y ∈ P := ey ▸ G.rep b hb
      have yl := G.sub y hy
      have yt : y ≠ t := ey ▸ gb
      rw [← ey]
      have ab := G.low a ha b hb (by rw [ga]; exact Ne.symm gb)
      rw [ga, ← ey] at ab
      obtain ⟨w1, w2, w3⟩ := way y hy yt
      rcases w3 with w3 | w3
      · rcases Int.lt_or_le (lam v t) (lam t y) with lt | ge
        · -- the place y lies outside of X
          have xy : X y = false := by
            cases z : X y with
            | false => rfl
            | true =>
              have := h.le tl yl (Ne.symm yt) (S := X) (by rw [h2, z]; simp)
              omega
          cases xb : X b with
          | false =>
            have ne : a ≠ b := fun e => by rw [e, xb] at xa; cases xa
            have := h.le ha hb ne (S := X) (by rw [xa, xb]; simp)
            omega
          | true =>
            obtain ⟨Z, zx, zy, hzx, hzy, zne, Za, Zb, Z1, Z2, Zc, c1, c2⟩ := G.sep t ht y hy (Ne.symm yt)
            have zl := G.sub zy hzy
            have xz : X zy = false := by
              rcases c1 with e | c1
              · rw [e]
                exact xy
              · cases z : X zy with
                | false => rfl
                | true =>
                  by_cases e : zy = y
                  · rw [e, xy] at z
                    cases z
                  · have := h.le zl yl e (S := X) (by rw [z, xy]; simp)
                    omega
            have p := posi h.sy h.nn X Z
            have zv := Za v hv et.symm
            have zt := Za t tl ot
            have q1 := h.le hv tl vt (S := fun u => X u && !Z u) (by show (X v && !Z v) ≠ (X t && !Z t); rw [h1, zv, h2]; simp)
            have q2 := h.le (G.sub zx hzx) zl zne (S := fun u => Z u && !X u) (by show (Z zx && !X zx) ≠ (Z zy && !X zy); rw [Z1, Z2, xz]; simp)
            have za := Za a ha ga
            have zb := Zb b hb ey.symm
            have ne : a ≠ b := fun e => by rw [e, zb] at za; cases za
            have q3 := h.le ha hb ne (S := fun u => X u && !Z u) (by show (X a && !Z a) ≠ (X b && !Z b); rw [xa, za, zb]; simp)
            omega
        · omega
      · omega
  refine ⟨fun p hp => ?_, fun a ha => ?_, fun p hp => ?_, fun x hx y hy ne => ?_, fun a ha b hb ne => ?_⟩
  · rcases List.mem_cons.mp hp with rfl | hp
    · exact hv
    · exact G.sub p hp
  · show (if gr a = t ∧ X a = true then v else gr a) ∈ v :: P
    split
    · exact List.mem_cons_self
    · exact List.mem_cons_of_mem _ (G.rep a ha)
  · show (if gr p = t ∧ X p = true then v else gr p) = p
    rcases List.mem_cons.mp hp with rfl | hp
    · rw [if_pos ⟨et.symm, h1⟩]
    · rw [G.own p hp, if_neg fun z => by rw [z.1, h2] at z; cases z.2]
  · have gv : ∀ a ∈ l, (if gr a = t ∧ X a = true then v else gr a) = v → gr a = t ∧ X a = true := fun a ha e => by
      by_cases c : gr a = t ∧ X a = true
      · exact c
      · rw [if_neg c] at e
        exact absurd e.symm (nP _ (G.rep a ha))
    have gp : ∀ q ∈ P, ∀ a : Str, (if gr a = t ∧ X a = true then v else gr a) = q → gr a = q ∧ ¬ (gr a = t ∧ X a = true) := fun q hq a e => by
      by_cases c : gr a = t ∧ X a = true
      · rw [if_pos c] at e
        exact absurd e (nP q hq)
      · rw [if_neg c] at e
        exact ⟨e, c⟩
    have up : ∀ {q}, q ∈ P → q ∈ v :: P := fun hq => List.mem_cons_of_mem _ hq
    have sym := fun {q : Str} (hq : q ∈ P) => h.symm hv (G.sub q hq) (nP q hq)
    have hx0 := List.mem_cons.mp hx
    have hy0 := List.mem_cons.mp hy
    clear hx hy
    rcases hx0 with rfl | hx
    · rcases hy0 with rfl | hy
      · exact absurd rfl ne
      by_cases e : y = t
      · subst e
        refine ⟨fun u => !X u, x, y, List.mem_cons_self, up hy, ne, fun a ha q => ?_, fun b hb q => ?_, ?_, ?_, by rw [cut_neg h.sy, hc], .inl rfl, .inl rfl⟩
        · show (!X a) = false
          rw [(gv a ha q).2]
          rfl
        · show (!X b) = true
          obtain ⟨q1, q2⟩ := gp y hy b q
          cases z : X b with
          | false => rfl
          | true => exact absurd ⟨q1, z⟩ q2
        · show (!X x) = false
          rw [h1]
          rfl
        · show (!X y) = true
          rw [h2]
          rfl
      · obtain ⟨Z, zx, zy, hzx, hzy, zne, Za, Zb, Z1, Z2, Zc, c1, c2⟩ := G.sep t ht y hy (Ne.symm e)
        obtain ⟨w1, w2, _⟩ := way y hy e
        refine ⟨Z, zx, zy, up hzx, up hzy, zne, fun a ha q => Za a ha (gv a ha q).1, fun b hb q => Zb b hb (gp y hy b q).1, Z1, Z2, Zc, ?_, .inr ?_⟩
        · rcases c1 with c1 | c1
          · exact .inl c1
          · exact .inr (by omega)
        · by_cases ez : zx = t
          · rw [ez]
            exact w1
          · rcases c2 with c2 | c2
            · exact absurd c2 ez
            · obtain ⟨_, _, w3⟩ := way zx hzx ez
              omega
    · rcases hy0 with rfl | hy
      · by_cases e : x = t
        · subst e
          refine ⟨X, x, y, up hx, List.mem_cons_self, ne, fun a ha q => ?_, fun b hb q => (gv b hb q).2, h2, h1, by rw [hc, sym hx], .inl rfl, .inl rfl⟩
          obtain ⟨q1, q2⟩ := gp x hx a q
          cases z : X a with
          | false => rfl
          | true => exact absurd ⟨q1, z⟩ q2
        · obtain ⟨Z, zx, zy, hzx, hzy, zne, Za, Zb, Z1, Z2, Zc, c1, c2⟩ := G.sep x hx t ht e
          obtain ⟨w1, w2, _⟩ := way x hx e
          have s1 := sym hx
          have s2 := h.symm (G.sub x hx) tl e
          refine ⟨Z, zx, zy, up hzx, up hzy, zne, fun a ha q => Za a ha (gp x hx a q).1, fun b hb q => Zb b hb (gv b hb q).1, Z1, Z2, Zc, .inr ?_, ?_⟩
          · have s3 := sym hzy
            by_cases ez : zy = t
            · rw [ez] at s3 ⊢
              omega
            · rcases c1 with c1 | c1
              · exact absurd c1 ez
              · obtain ⟨_, _, w3⟩ := way zy hzy ez
                have s4 := h.symm (G.sub zy hzy) tl ez
                omega
          · rcases c2 with c2 | c2
            · exact .inl c2
            · exact .inr (by omega)
      · obtain ⟨Z, zx, zy, hzx, hzy, zne, Za, Zb, Z1, Z2, Zc, c1, c2⟩ := G.sep x hx y hy ne
        exact ⟨Z, zx, zy, up hzx, up hzy, zne, fun a ha q => Za a ha (gp x hx a q).1, fun b hb q => Zb b hb (gp y hy b q).1, Z1, Z2, Zc, c1, c2⟩
  · have ne : (if gr a = t ∧ X a = true then v else gr a) ≠ if gr b = t ∧ X b = true then v else gr b := ne
    show lam a b ≤ lam (if gr a = t ∧ X a = true then v else gr a) (if gr b = t ∧ X b = true then v else gr b)
    by_cases ca : gr a = t ∧ X a = true
    · rw [if_pos ca] at ne ⊢
      by_cases cb : gr b = t ∧ X b = true
      · rw [if_pos cb] at ne
        exact absurd rfl ne
      · rw [if_neg cb]
        exact low' a ha b hb ca.1 ca.2 cb
    · rw [if_neg ca] at ne ⊢
      by_cases cb : gr b = t ∧ X b = true
      · rw [if_pos cb]
        have nab : a ≠ b := fun e => ca (e ▸ cb)
        have := low' b hb a ha cb.1 cb.2 ca
        rw [h.symm ha hb nab, h.symm (G.sub _ (G.rep a ha)) hv (Ne.symm (nP _ (G.rep a ha)))]
        exact this
      · rw [if_neg cb] at ne ⊢
        exact G.low a ha b hb ne
theorem least_nat {p : Nat → Prop} (k : Nat) (h : p k) : ∃ m, p m ∧ ∀ j, j < m → ¬ p j := by
  induction k using Nat.strongRecOn with
  | ind k ih =>
    by_cases q : ∃ j, j < k ∧ p j
    · obtain ⟨j, hj, pj⟩ := q
      exact ih j hj pj
    · exact ⟨k, h, fun j hj pj => q ⟨j, hj, pj⟩⟩
theorem lam_ex (nn : ∀ u ∈ l, ∀ v ∈ l, 0 ≤ w u v) {u v : Str} (ne : u ≠ v) : ∃ n, IsLam l w u v n := by
  have c0 : ∀ S : Sd, 0 ≤ cutW l w S := fun S => sm_nonneg fun a ha => sm_nonneg fun b hb => by
    split
    · exact nn a ha b hb
    · exact Int.le_refl 0
  obtain ⟨m, ⟨S, a, b, e⟩, hm⟩ := least_nat (p := fun k => ∃ S : Sd, S u = true ∧ S v = false ∧ cutW l w S = (k : Int)) (cutW l w fun x => decide (x = u)).toNat ⟨fun x => decide (x = u), decide_eq_true rfl, decide_eq_false (Ne.symm ne), by have := c0 fun x => decide (x = u); omega⟩
  refine ⟨m, ⟨S, a, b, e⟩, fun T h1 h2 => ?_⟩
  have := c0 T
  rcases Int.lt_or_le (cutW l w T) m with lt | ge
  · exact absurd ⟨T, h1, h2, by omega⟩ (hm (cutW l w T).toNat (by omega))
  · exact ge
open Classical in
noncomputable def lamOf (l : List Str) (w : Wf) (u v : Str) : Int := if h : ∃ n, IsLam l w u v n then Classical.choose h else 0
theorem lamOf_ok (sy : ∀ u ∈ l, ∀ v ∈ l, w u v = w v u) (nn : ∀ u ∈ l, ∀ v ∈ l, 0 ≤ w u v) : LamOk l w (lamOf l w) := by
  refine ⟨sy, nn, fun u _ v _ ne => ?_⟩
  unfold lamOf
  rw [dif_pos (lam_ex nn ne)]
  exact Classical.choose_spec (lam_ex nn ne)
theorem IsLam.uniq {u v : Str} {n m : Int} (a : IsLam l w u v n) (b : IsLam l w u v m) : n = m := by
  obtain ⟨⟨S, s1, s2, s3⟩, s4⟩ := a
  obtain ⟨⟨T, t1, t2, t3⟩, t4⟩ := b
  have := s4 T t1 t2
  have := t4 S s1 s2
  omega
def TreeOk (lam : Str → Str → Int) (top : Str) (order : List Str) (bf : Str → Str) (st : Str → Int) : Prop := ∀ i v, order[i]? = some v → bf v ∈ top :: order.take i ∧ st v = lam v (bf v) ∧ ∀ q ∈ top :: order.take i, q ≠ bf v → lam v q = min (lam v (bf v)) (lam (bf v) q)
end
end WkP
namespace Wk
open PySem PySem.Spec PyProof.Rows L2 WkD WkN LamX WkP WkE WkC
section
variable {P : Program} {w : World} {K : PySem.W.Frag} {mg : Str → Option Value} {base : Heap}
theorem cutV_from {ys : List V} {i : Nat} : cutV ys (some ((i : Int) + 1)) none = ys.drop (i + 1) := by
  unfold cutV
  rw [HT.sIx_none, show (i : Int) + 1 = ((i + 1 : Nat) : Int) from by push_cast; rfl, HT.sIx_nat]
  by_cases h : i + 1 ≤ ys.length
  · rw [Nat.min_eq_left h, List.take_of_length_le (by rw [List.length_drop]; omega)]
  · rw [List.drop_of_length_le (by omega), List.drop_of_length_le (by omega)]
    simp
theorem bj_yes {rs fl : List Str} {o t v : Str} {bf : Str → Str} {j : Nat} (tk : rs.take (j + 1) = rs.take j ++ [o]) (h1 : o ∈ fl) (h2 : bf o = t) (y : Str) : (if y ∈ rs.take (j + 1) ∧ y ∈ fl ∧ bf y = t then v else bf y) = if y = o then v else if y ∈ rs.take j ∧ y ∈ fl ∧ bf y = t then v else bf y := by
  have mi : y ∈ rs.take (j + 1) ↔ y ∈ rs.take j ∨ y = o := by rw [tk, List.mem_append, List.mem_singleton]
  by_cases e : y = o
  · rw [if_pos ⟨mi.mpr (.inr e), e ▸ h1, e ▸ h2⟩, if_pos e]
  · rw [if_neg e]
    by_cases z : y ∈ rs.take j ∧ y ∈ fl ∧ bf y = t
    · rw [if_pos ⟨mi.mpr (.inl z.1), z.2⟩, if_pos z]
    · rw [if_neg fun q => z ⟨(mi.mp q.1).resolve_right e, q.2⟩, if_neg z]
theorem bj_no {rs fl : List Str} {o t v : Str} {bf : Str → Str} {j : Nat} (tk : rs.take (j + 1) = rs.take j ++ [o]) (h : ¬ (o ∈ fl ∧ bf o = t)) (y : Str) : (if y ∈ rs.take (j + 1) ∧ y ∈ fl ∧ bf y = t then v else bf y) = if y ∈ rs.take j ∧ y ∈ fl ∧ bf y = t then v else bf y := by
  have mi : y ∈ rs.take (j + 1) ↔ y ∈ rs.take j ∨ y = o := by rw [tk, List.mem_append, List.mem_singleton]
  by_cases z : y ∈ rs.take j ∧ y ∈ fl ∧ bf y = t
  · rw [if_pos ⟨mi.mpr (.inl z.1), z.2⟩, if_pos z]
  · rw [if_neg fun q => ?_, if_neg z]
    rcases mi.mp q.1 with q1 | q1
    · exact z ⟨q1, q.2⟩
    · exact h (q1 ▸ q.2)
theorem tree_snoc {lam : Str → Str → Int} {top v : Str} {l : List Str} {bf bf' : Str → Str} {st st' : Str → Int} (T : TreeOk lam top l bf st) (hb : ∀ u ∈ l, bf' u = bf u) (hs : ∀ u ∈ l, st' u = st u)
    (h1 : bf' v ∈ top :: l) (h2 : st' v = lam v (bf' v)) (h3 : ∀ q ∈ top :: l, q ≠ bf' v → lam v q = min (lam v (bf' v)) (lam (bf' v) q)) : TreeOk lam top (l ++ [v]) bf' st' := by
  intro i u hu
  rcases Nat.lt_trichotomy i l.length with hi | hi | hi
  · rw [List.getElem?_append_left hi] at hu
    have hm : u ∈ l := List.mem_of_getElem? hu
    rw [List.take_append_of_le_length (Nat.le_of_lt hi), hb u hm, hs u hm]
    exact T i u hu
  · subst hi
    rw [List.getElem?_append_right (Nat.le_refl _), Nat.sub_self] at hu
    cases hu
    rw [List.take_left]
    exact ⟨h1, h2, h3⟩
  · rw [List.getElem?_eq_none (by rw [List.length_append]; simp; omega)] at hu
    cases hu
def spTree (K : PySem.W.Frag) : Sp := fun vs H Q _ => ∃ (g C dx : Addr) (fs : List (Str × V)) (a : Addr) (top : Str) (Vs : List Str) (ad : Str → Addr) (nb : Nb) (wt : Wt), vs = [.ref g] ∧ GAt K H g C dx fs a top ∧ RowsZ H a Vs ad nb wt ∧ Sym Vs nb wt ∧ (∀ u ∈ Vs, ∀ v ∈ nb u, 0 ≤ wt u v) ∧ (∀ u ∈ Vs, (nb u).length < 1000) ∧ Vs.length < 1000 ∧ Vs.Nodup ∧ top ∈ Vs ∧
  ∀ p o bf st (ta : Str → Addr) H', Same H H' → H p = none → H' p = some (.frz o (.dK (dct (Vs.filter fun v => decide (v ≠ top)) fun v => .ref (ta v)))) → (∀ v ∈ Vs.filter fun v => decide (v ≠ top), H' (ta v) = some (.tup [.str (bf v), .int (st v)])) → TreeOk (lamOf Vs (vl0 nb wt)) top (Vs.filter fun v => decide (v ≠ top)) bf st → Q (.ref p) H'
theorem sc_cut_tree : FnScope ["graph", "order", "before", "strengths", "vertex", "at", "search", "reached", "other"] ["graph"] (defScope s_cut_tree) := ⟨rfl, rfl, rfl, by decide +kernel, rfl, by decide +kernel, by decide +kernel⟩
theorem c_cut_tree {S : Addr} (D : Def K mg "cut_tree" s_cut_tree) (B : Bi mg) (SC : SCls K S) (SM : MakeC P w K mg base CX0 S "Search" 1 (spSea K)) (MR : WkV.MethD P w K mg base CX0 S "run" 3 (spRun K S) [.non]) (ML : MethC P w K mg base CX0 S "levels" 1 (spLev K)) : Callee P w K mg base CX0 4 "cut_tree" ["graph"] (spTree K) := by
  obtain ⟨f, fd, F, g⟩ := D
  refine ⟨f, fd, F.ok sc_cut_tree (fun vs H Q E h => ?_) (fun cdv A outer s H vs Q E hr h => ?_), g, F.kp, F.bindsN (fun _ _ _ _ _ _ us hl => match us, hl with | [_], _ => rfl)⟩
  · obtain ⟨g, C, dx, fs, a, top, Vs, ad, nb, wt, rfl, _⟩ := h
    rfl
  have hr3 : Room 3 _ := hr
  have hr2 : Room 2 _ := hr.mono (by decide)
  have hr1 : Room 1 _ := hr.mono (by decide)
  have hu := hu_of hr
  have nd := sc_cut_tree.nd
  refine ⟨_, PSs.nox (pss_cons (ps_asg (pe_tup (pa_cons (pe_lc (own := [("vertex", 4)]) (by rfl) nd (pi_keys (WkK.peFld K (by rfl) (pv 0) rfl)) (blkOk_by (by kernel_rfl)) (fun _ _ _ _ _ => (pg_name (i := 4) nd rfl (Or.inl rfl))) (fun _ _ _ _ _ => (pts_one (pt_cmpR op_ne (pv 4) (WkK.peFld K (by rfl) (pv 0) rfl) (nomark _)))) (fun _ _ _ _ _ => (pv 4))) (pa_cons pe_dnewK (pa_cons pe_dnewK pa_nil)))) (WkN.pgT K 3 rfl rfl (pgs_cons (pg_name (i := 1) nd rfl (Or.inl rfl)) (pgs_cons (pg_name (i := 2) nd rfl (Or.inr rfl)) (pgs_cons (pg_name (i := 3) nd rfl (Or.inr rfl)) pgs_nil))) rfl))
      (pss_cons (ps_for PassesOwn.never rfl (pi_list (pv 1)) (pg_name (i := 4) nd rfl (Or.inl rfl))
      (pss_one (ps_dput hu (pv 2) (pv 4) (WkK.peFld K (by rfl) (pv 0) rfl) rfl)))
      (pss_cons (ps_for PassesOwn.never rfl (pi_enum (by rfl) B.n_enumerate (pa_cons (pv 1) pa_nil)) (WkN.pgT K 2 rfl rfl (pgs_cons (pg_name (i := 5) nd rfl (Or.inl rfl)) (pgs_cons (pg_name (i := 4) nd rfl (Or.inl rfl)) pgs_nil)) rfl)
      (pss_cons (ps_set (i := 6) nd rfl (Or.inl rfl) (WkC.pe_mk SM hr2 pass0 (pa_cons (pv 0) (pa_cons (pv 4) (pa_cons (pe_dget hu (pv 2) (pv 4) (fun _ _ => rfl)) pa_nil)))))
      (pss_cons (ps_dput hu (pv 3) (pv 4) (WkV.pe_mtD0 MR SC.cls hr3 pass0 (pv 6)) rfl)
      (pss_cons (ps_set (i := 7) nd rfl (Or.inl rfl) (WkV.pe_mt0 ML SC.cls hr1 pass0 (pv 6)))
      (pss_one (ps_for PassesOwn.never rfl (pi_list (pe_slice sl_list (pv 1) (po_some (pe_op op_add (pv 5) pe_int)) po_none)) (pg_name (i := 8) nd rfl (Or.inl rfl))
      (pss_one (ps_if (PW.pt (pw_and (pt_cmp (pc_din hu (pv 8) (pv 7))) (pw_and1 (pt_cmpR op_eq (pe_dget hu (pv 2) (pv 8) (fun _ _ => rfl)) (pe_dget hu (pv 2) (pv 4) (fun _ _ => rfl)) (nomark _)))))
      (pss_one (ps_dput hu (pv 2) (pv 8) (pv 4) rfl)) pss_nil))))))))
      (pss_one (WkD.ps_fz (ps_ret (pe_dc (own := [("vertex", 4)]) (by rfl) nd (pi_list (pv 1)) (blkOk_by (by kernel_rfl)) (fun _ _ _ _ _ => (pg_name (i := 4) nd rfl (Or.inl rfl))) (fun _ _ _ _ _ => pts_nil) (fun _ _ _ _ _ => (pv 4)) (fun _ _ _ _ _ => (pe_tup (pa_cons (pe_dget hu (pv 2) (pv 4) (fun _ _ => rfl)) (pa_cons (pe_dget hu (pv 3) (pv 4) (fun _ _ => rfl)) pa_nil))))))))))), ?_⟩
  obtain ⟨g, C, dx, fs, a, top, Vs, ad, nb, wt, rfl, G, RZ, sy, wnn, hnl, hVl, hVn, htop, k⟩ := h
  have big : 1000 < sizeLine := by decide
  obtain ⟨oa, hA⟩ := RZ.top
  refine ⟨_, rfl, g, C, dx, fs, _, rfl, G.ins, G.cls, G.na, G.la, a, oa, rfl, .inl ⟨_, hA, fun D nD => ?_⟩⟩
  obtain ⟨od, eod⟩ : ∃ od, od = Vs.filter fun v => decide (v ≠ top) := ⟨_, rfl⟩
  rw [← eod] at k
  refine lc_it (walk_keys (kvs := dct Vs fun u => .ref (ad u))) (fun i H2 => Same H H2 ∧ H2 D = some (.lst (((Vs.take i).filter fun v => decide (v ≠ top)).map V.str))) ⟨same_upd nD, upd_same⟩ ?_ ?_ ?_
  · rintro i H2 hi ⟨d1, d2⟩
    exact d1 _ _ hA
  · rintro i y H2 H2' hi ⟨d1, d2⟩ ⟨rfl, k0, v0, hk, rfl⟩
    rw [dct_len] at hi
    rw [dct_at, List.getElem?_eq_getElem hi] at hk
    cases hk
    obtain ⟨v, ev⟩ : ∃ v, v = Vs[i] := ⟨_, rfl⟩
    have tk := takeS (List.getElem?_eq_getElem hi)
    rw [← ev] at tk ⊢
    have G2 := G.ext (Ext.of d1)
    refine ⟨rfl, _, rfl, _, rfl, g, C, dx, fs, _, rfl, G2.ins, G2.cls, G2.nt, G2.lt, rfl, _, rfl, ite2 (fun h => ?_) (fun h => ?_)⟩
    · have ne : v ≠ top := fun e => by
        have h : (!decide (V.str v = V.str top)) = true := h
        rw [e, decide_eq_true rfl] at h
        cases h
      refine ⟨_, rfl, _, d2, ?_, fun c o hc => ?_, ?_⟩
      · rw [List.length_map]
        have := List.length_filter_le (fun v => decide (v ≠ top)) (Vs.take i)
        rw [List.length_take] at this
        omega
      · rw [upd_ne (ne_of_none hc nD)]
        exact d1 _ _ hc
      · rw [upd_same, tk, List.filter_append, List.map_append]
        have one : [v].filter (fun v => decide (v ≠ top)) = [v] := by simp [ne]
        rw [one]
        rfl
    · have e : v = top := Classical.byContradiction fun ne => h (show (!decide (V.str v = V.str top)) = true by simp [ne])
      refine ⟨d1, ?_⟩
      have one : [v].filter (fun v => decide (v ≠ top)) = [] := by simp [e]
      rw [d2, tk, List.filter_append, one, List.append_nil]
  rintro H2 ⟨d1, d2⟩
  rw [dct_len, List.take_length, ← eod] at d2
  have ool : od.length ≤ Vs.length := by rw [eod]; exact List.length_filter_le _ _
  have ond : od.Nodup := by rw [eod]; exact hVn.filter _
  have omem : ∀ v, v ∈ od ↔ v ∈ Vs ∧ v ≠ top := fun v => by rw [eod, List.mem_filter, decide_eq_true_iff]
  intro bd nbd
  generalize gg : upd H2 bd _ = H3
  obtain ⟨s3, L3⟩ := new_eq nbd gg
  clear gg
  intro sd nsd
  generalize gg : upd H3 sd _ = H4
  obtain ⟨s4, L4⟩ := new_eq nsd gg
  clear gg
  refine ⟨by show 3 ≤ sizeLine; decide, fun p5 n5 => ?_⟩
  generalize gg5 : upd _ p5 _ = G5; obtain ⟨s5, L5⟩ := new_eq n5 gg5; clear gg5
  refine ⟨p5, _, rfl, .inl (.inl L5), rfl, _, _, rfl, _, _, rfl, _, _, rfl, rfl, ?_⟩
  have nbH : H bd = none := np_of d1 nbd
  have nsH : H sd = none := np_of (d1.trans s3) nsd
  have bsd : bd ≠ sd := ne_of_none L3 nsd
  have Db : D ≠ bd := ne_of_none d2 nbd
  have Ds : D ≠ sd := ne_of_none (s3 _ _ d2) nsd
  have D5 := s5 _ _ (s4 _ _ (s3 _ _ d2))
  have B5 := s5 _ _ (s4 _ _ L3)
  have S5 := s5 _ _ L4
  have s05 := ((d1.trans s3).trans s4).trans s5
  clear L3 L4 L5 s5 s4 s3 d2 d1 n5 nsd nbd
  have kp : ∀ Hc : Hp, (∀ b o, G5 b = some o → b ≠ bd → b ≠ sd → Hc b = some o) → Same H Hc := fun Hc z b o hb => z b o (s05 _ _ hb) (ne_of_none hb nbH) (ne_of_none hb nsH)
  refine ⟨_, rfl, D, rfl, ⟨_, SqL.of D5⟩, ?_⟩
  refine for_it (walk_list (xs := od.map V.str)) (fun i σ Hc => ∃ (x4 : Option V), σ = [some (.ref g), some (.ref D), some (.ref bd), some (.ref sd), x4, none, none, none, none] ∧ (∀ b o, G5 b = some o → b ≠ bd → b ≠ sd → Hc b = some o) ∧ Hc bd = some (.dK (dct (od.take i) fun _ => .str top)) ∧ Hc sd = some (.dK []))
    ⟨_, rfl, fun b o h _ _ => h, B5, S5⟩ ?_ ?_ ?_
  · rintro i σ Hc hi ⟨x4, rfl, q, c1, c2⟩
    exact SqL.of (q _ _ D5 Db Ds)
  · rintro i y σ Hc Hc' hi ⟨x4, rfl, q, c1, c2⟩ ⟨rfl, hy⟩
    rw [List.length_map] at hi
    rw [List.getElem?_map, List.getElem?_eq_getElem hi] at hy
    cases hy
    have Gc := G.ext (Ext.of (kp Hc' q))
    refine ⟨_, rfl, g, C, dx, fs, _, rfl, Gc.ins, Gc.cls, Gc.nt, Gc.lt, _, rfl, _, rfl, bd, _, rfl, put_n c1 (take_nin ond hi) (by rw [List.length_take]; omega), ?_⟩
    refine ⟨_, rfl, fun b o hb h1 h2 => by rw [upd_ne h1]; exact q b o hb h1 h2, ?_, by rw [upd_ne (Ne.symm bsd)]; exact c2⟩
    rw [upd_same, takeS (List.getElem?_eq_getElem hi)]
    congr 2
    refine dct_congr fun y _ => ?_
    split <;> rfl
  · rintro σ Hc ⟨x4, rfl, q, c1, c2⟩
    rw [List.length_map, List.take_length] at c1
    refine ⟨_, rfl, D, _, rfl, SqL.of (q _ _ D5 Db Ds), ?_⟩
    have lo := lamOf_ok (l := Vs) (w := vl0 nb wt) (vl0_sym sy) (fun u hu v hv => by
      unfold vl0
      split
      · exact wnn u hu v ‹_›
      · exact Int.le_refl _)
    refine for_it (walk_enum (xs := od.map V.str)) (fun i σ Hc => ∃ (x4 x5 x6 x7 x8 : Option V) (bf : Str → Str) (st : Str → Int) (gr : Str → Str) (Pl : List Str), σ = [some (.ref g), some (.ref D), some (.ref bd), some (.ref sd), x4, x5, x6, x7, x8] ∧ (∀ b o, G5 b = some o → b ≠ bd → b ≠ sd → Hc b = some o) ∧ Hc bd = some (.dK (dct od fun v => .str (bf v))) ∧ Hc sd = some (.dK (dct (od.take i) fun v => .int (st v))) ∧
        Gus Vs (vl0 nb wt) (lamOf Vs (vl0 nb wt)) Pl gr ∧ (∀ q, q ∈ Pl ↔ q ∈ top :: od.take i) ∧ (∀ v ∈ od.drop i, gr v = bf v) ∧ TreeOk (lamOf Vs (vl0 nb wt)) top (od.take i) bf st)
      ⟨_, _, _, _, _, fun _ => top, fun _ => 0, fun _ => top, [top], rfl, q, c1, c2, Gus.start htop, fun q => Iff.rfl, fun v _ => rfl, fun i v h => by simp at h⟩ ?_ ?_ ?_
    · rintro i σ Hc hi ⟨x4, x5, x6, x7, x8, bf, st, gr, Pl, rfl, q, _⟩
      exact SqL.of (q _ _ D5 Db Ds)
    · rintro i y σ Hc Hc' hi ⟨x4, x5, x6, x7, x8, bf, st, gr, Pl, rfl, q, c1, c2, GU, hP, hbf, TR⟩ ⟨T, y1, y2, rfl, nT, rfl, hy1, hy2⟩
      rw [List.length_map] at hi
      cases hy1
      have hy2 : (od.map V.str)[i]? = some y2 := hy2
      rw [List.getElem?_map, List.getElem?_eq_getElem hi] at hy2
      cases hy2
      obtain ⟨v, ev⟩ : ∃ v, v = od[i] := ⟨_, rfl⟩
      have hv : v ∈ od := by rw [ev]; exact List.getElem_mem hi
      have tk := takeS (List.getElem?_eq_getElem hi)
      have nin := take_nin ond hi
      have dr : od.drop i = v :: od.drop (i + 1) := by rw [ev]; exact List.drop_eq_getElem_cons hi
      rw [← ev] at tk nin ⊢
      have vV := (omem v).mp hv
      obtain ⟨t, et⟩ : ∃ t, t = bf v := ⟨_, rfl⟩
      have gv : gr v = t := by rw [hbf v (by rw [dr]; exact List.mem_cons_self), et]
      have tV : t ∈ Vs := by rw [← gv]; exact GU.sub _ (GU.rep v vV.1)
      have nvP : v ∉ Pl := fun z => by
        rcases List.mem_cons.mp ((hP v).mp z) with e | e
        · exact vV.2 e
        · exact nin e
      have vt : v ≠ t := fun e => nvP (by rw [e, ← gv]; exact GU.rep v vV.1)
      show gTup _ _ _ _ _ (upd Hc T (.tup [.int i, .str v])) _
      generalize gg : upd Hc T (.tup [.int i, .str v]) = H6
      obtain ⟨sT, PT⟩ := new_eq nT gg
      clear gg
      refine ⟨T, _, rfl, .inl (.inl PT), rfl, _, _, rfl, _, _, rfl, rfl, ?_⟩
      have q6 : ∀ b o, G5 b = some o → b ≠ bd → b ≠ sd → H6 b = some o := fun b o hb h1 h2 => sT _ _ (q b o hb h1 h2)
      have s6 : Same H H6 := kp H6 q6
      have c16 := sT _ _ c1
      have c26 := sT _ _ c2
      have G6 := G.ext (Ext.of s6)
      have RZ6 := RZ.ext (Ext.of s6)
      refine ⟨_, rfl, _, rfl, _, rfl, _, rfl, bd, _, rfl, get_d (.inl c16) hv, ?_⟩
      rw [← et]
      refine fun x dq nx ndq neq => ?_
      have s7 : Same H6 (upd H6 dq (.own x)) := same_upd ndq
      have s8 : Same (upd H6 dq (.own x)) (upd (upd H6 dq (.own x)) x (.ins S dq [])) := same_upd (by rw [upd_ne (Ne.symm neq)]; exact nx)
      have hx8 : upd (upd H6 dq (.own x)) x (.ins S dq []) x = some (.ins S dq []) := upd_same
      generalize upd (upd H6 dq (.own x)) x (.ins S dq []) = H8 at s8 hx8
      have s68 := s7.trans s8
      have xg : x ≠ g := Ne.symm (ne_of_none G6.ins nx)
      refine ⟨x, S, dq, g, C, dx, fs, a, top, v, t, Vs, ad, nb, wt, rfl, hx8, SC, G6.ext (Ext.of s68), RZ6.ext (Ext.of s68), hVn, hVl, xg, fun la lad H9 b9 hx9 nla nlad R9 => ?_⟩
      have s69 : Same H6 H9 := fun b o hb => b9 _ _ (s68 _ _ hb) (ne_of_none hb nx)
      refine ⟨rfl, _, rfl, x, dq, _, rfl, hx9, rfl, ?_⟩
      refine ⟨x, dq, a, la, v, t, Vs, ad, lad, nb, wt, .non, rfl, hx9, RZ6.ext (Ext.of s69), R9, sy, wnn, hnl, hVl, vV.1, vt, .inl rfl, fun n lf fl lev H10 fr10 R10 RS10 CL10 L10 _ h10 => ?_⟩
      have ht10 : t ∉ fl := by
        rcases h10 with ⟨L, z, _⟩ | h10
        · cases z
        · exact h10
      have s6a : Same H6 H10 := fun b o hb => fr10 _ _ (s69 _ _ hb) fun z hz => ne_of_none (s68 _ _ hb) (nlad z hz)
      have hx10 : H10 x = some (.ins S dq (seaF a la v t)) := fr10 _ _ hx9 fun z hz => ne_of hx9 (R9.row z hz) (by intro z; cases z)
      have c20 := s6a _ _ c26
      refine ⟨_, rfl, _, rfl, sd, _, rfl, put_n c20 nin (by rw [List.length_take]; omega), ?_⟩
      have lsd : la ≠ sd := Ne.symm (ne_of_none (s68 _ _ c26) nla)
      have lads : ∀ z ∈ Vs, lad z ≠ sd := fun z hz => Ne.symm (ne_of_none (s68 _ _ c26) (nlad z hz))
      have xsd : x ≠ sd := ne_of hx10 c20 (by intro z; cases z)
      generalize gg : upd H10 sd _ = H11
      have e11 : ∀ b o, H10 b = some o → b ≠ sd → H11 b = some o := fun b o hb hn => by rw [← gg, upd_ne hn]; exact hb
      have c21 : H11 sd = some (.dK (dct (od.take i ++ [v]) fun y => if y = v then V.int n else V.int (st y))) := by rw [← gg]; exact upd_same
      clear gg
      have hx11 := e11 _ _ hx10 xsd
      have R11 : RowsM H11 la Vs lad nb lf := ⟨e11 _ _ R10.top lsd, fun u hu => e11 _ _ (R10.row u hu) (lads u hu), R10.inj, R10.nd⟩
      refine ⟨_, rfl, x, dq, _, rfl, hx11, rfl, ?_⟩
      refine ⟨x, S, dq, a, la, v, t, Vs, lad, nb, lf, rfl, hx11, SC, R11, vV.1, fun z hz y hy => (sy.mem z hz y hy).1, hVl, fun lp olp fl2 lev2 H12 s12 nlp hlp L12 => ?_⟩
      have q12 : ∀ b o, G5 b = some o → b ≠ bd → b ≠ sd → H12 b = some o := fun b o hb h1 h2 => s12 _ _ (e11 _ _ (s6a _ _ (q6 b o hb h1 h2)) h2)
      have c12 := s12 _ _ (e11 _ _ (s6a _ _ c16) bsd)
      have c22 := s12 _ _ c21
      have lpbd : lp ≠ bd := ne_of hlp c12 (by intro z; cases z)
      have lpsd : lp ≠ sd := ne_of hlp c22 (by intro z; cases z)
      have htf2 : t ∉ fl2 := fun h => ht10 (L10.sub2 L12 t h)
      have nlam : n = lamOf Vs (vl0 nb wt) v t := IsLam.uniq (resid_pair RS10 hVn L12 htf2) (lo.is v vV.1 t tV vt)
      have cutn := L12.cut hVn RS10 htf2
      clear R9 R10 R11 hx8 hx9 hx10 hx11 s7 s8 s68 s69 s6a e11 c20 c21 b9 fr10 CL10 L10 h10
      refine ⟨_, rfl, _, rfl, _, _, rfl, rfl, _, rfl, ?_⟩
      refine ⟨D, _, rfl, SqL.of (q12 _ _ D5 Db Ds), fun pl npl => ?_⟩
      rw [cutV_from, ← List.map_drop]
      obtain ⟨rs, ers⟩ : ∃ rs, rs = od.drop (i + 1) := ⟨_, rfl⟩
      rw [← ers] at dr ⊢
      have rnd : rs.Nodup := by rw [ers]; exact ond.sublist (List.drop_sublist _ _)
      have rsub : ∀ z ∈ rs, z ∈ od := fun z hz => List.mem_of_mem_drop (ers ▸ hz)
      have vrs : v ∉ rs := by
        have : (v :: rs).Nodup := by rw [← dr]; exact ond.sublist (List.drop_sublist _ _)
        exact (List.nodup_cons.mp this).1
      generalize gg : upd H12 pl _ = H13
      obtain ⟨s13, L13⟩ := new_eq npl gg
      clear gg
      refine ⟨pl, rfl, ⟨_, SqL.of L13⟩, ?_⟩
      have plbd : pl ≠ bd := Ne.symm (ne_of_none c12 npl)
      have plsd : pl ≠ sd := Ne.symm (ne_of_none c22 npl)
      refine for_it (walk_list (xs := rs.map V.str)) (fun j σ Hz => ∃ (x8 : Option V), σ = [some (.ref g), some (.ref D), some (.ref bd), some (.ref sd), some (.str v), some (.int (i : Nat)), some (.ref x), some (.ref lp), x8] ∧ (∀ b o, G5 b = some o → b ≠ bd → b ≠ sd → Hz b = some o) ∧ Hz sd = some (.dK (dct (od.take i ++ [v]) fun y => if y = v then V.int n else V.int (st y))) ∧ Hz lp = some (.frz olp (.dK (dct fl2 fun v => .int (lev2 v)))) ∧ Hz pl = some (.lst (rs.map V.str)) ∧ Hz bd = some (.dK (dct od fun y => .str (if y ∈ rs.take j ∧ y ∈ fl2 ∧ bf y = t then v else bf y))))
        ⟨_, rfl, fun b o hb h1 h2 => s13 _ _ (q12 b o hb h1 h2), s13 _ _ c22, s13 _ _ hlp, L13, by rw [s13 _ _ c12]; simp⟩ ?_ ?_ ?_
      · rintro j σ Hz hj ⟨x8', rfl, z1, z2, z3, z4, z5⟩
        exact SqL.of z4
      · rintro j y σ Hz Hz' hj ⟨x8', rfl, z1, z2, z3, z4, z5⟩ ⟨rfl, hy⟩
        rw [List.length_map] at hj
        rw [List.getElem?_map, List.getElem?_eq_getElem hj] at hy
        cases hy
        obtain ⟨o, eo⟩ : ∃ o, o = rs[j] := ⟨_, rfl⟩
        have ho : o ∈ rs := by rw [eo]; exact List.getElem_mem hj
        have hod := rsub o ho
        have tkj := takeS (List.getElem?_eq_getElem hj)
        have ninj := take_nin rnd hj
        rw [← eo] at tkj ninj ⊢
        have bo : (if o ∈ rs.take j ∧ o ∈ fl2 ∧ bf o = t then v else bf o) = bf o := if_neg fun z => ninj z.1
        have bv : (if v ∈ rs.take j ∧ v ∈ fl2 ∧ bf v = t then v else bf v) = t := by
          rw [if_neg fun z => vrs (List.mem_of_mem_take z.1)]
          exact et.symm
        by_cases hf : o ∈ fl2
        · refine ⟨_, rfl, _, rfl, lp, _, rfl, get_d (.inr ⟨_, z3⟩) hf, ?_⟩
          refine ⟨_, rfl, ?_⟩
          show if true = true then _ else _
          rw [if_pos rfl]
          refine ⟨_, rfl, _, rfl, bd, _, rfl, get_d (.inl z5) hod, _, rfl, _, rfl, bd, _, rfl, get_d (.inl z5) hv, rfl, _, rfl, ?_⟩
          rw [bo, bv]
          refine ite2 (fun h => ?_) (fun h => ?_)
          · have e : bf o = t := V.str.inj (of_decide_eq_true h)
            refine ⟨_, rfl, _, rfl, _, rfl, bd, _, rfl, put_d z5 hod (by omega), ?_⟩
            refine ⟨_, rfl, fun b o hb h1 h2 => by rw [upd_ne h1]; exact z1 b o hb h1 h2, by rw [upd_ne (Ne.symm bsd)]; exact z2, by rw [upd_ne lpbd]; exact z3, by rw [upd_ne plbd]; exact z4, ?_⟩
            rw [upd_same]
            congr 2
            refine dct_congr fun y _ => ?_
            rw [bj_yes tkj hf e]
            by_cases q : y = o <;> simp [q]
          · have e : bf o ≠ t := fun e => h (by rw [e]; exact decide_eq_true rfl)
            refine ⟨_, rfl, z1, z2, z3, z4, ?_⟩
            rw [z5]
            congr 2
            exact dct_congr fun y _ => by rw [bj_no tkj fun z => e z.2]
        · refine ⟨_, rfl, _, rfl, lp, _, rfl, get_n (.inr ⟨_, z3⟩) hf, ?_⟩
          refine ⟨_, rfl, ite2 (fun h => nomatch h) (fun _ => ?_)⟩
          refine ⟨_, rfl, z1, z2, z3, z4, ?_⟩
          rw [z5]
          congr 2
          exact dct_congr fun y _ => by rw [bj_no tkj fun z => hf z.1]
      · rintro σ Hz ⟨x8', rfl, z1, z2, z3, z4, z5⟩
        rw [List.length_map, List.take_length] at z5
        have st0 : (fun u => decide (u ∈ fl2)) v = true := decide_eq_true L12.st
        have GU2 := GU.step lo vV.1 nvP (X := fun u => decide (u ∈ fl2)) st0 (by rw [gv]; exact decide_eq_false htf2) (by rw [gv, ← nlam]; exact cutn)
        have way := fun q hq ne => GU.way lo vV.1 nvP (X := fun u => decide (u ∈ fl2)) st0 (by rw [gv]; exact decide_eq_false htf2) (by rw [gv, ← nlam]; exact cutn) (q := q) hq ne
        rw [gv] at way
        have vb : (if v ∈ rs ∧ v ∈ fl2 ∧ bf v = t then v else bf v) = t := by
          rw [if_neg fun z => vrs z.1]
          exact et.symm
        have tP : t ∈ Pl := by rw [← gv]; exact GU.rep v vV.1
        refine ⟨_, _, _, _, _, fun y => if y ∈ rs ∧ y ∈ fl2 ∧ bf y = t then v else bf y, fun y => if y = v then n else st y, _, _, rfl, z1, z5, ?_, GU2, fun q => ?_, fun y hy => ?_, ?_⟩
        · rw [z2, tk]
          congr 2
          exact dct_congr fun y _ => by by_cases q : y = v <;> simp [q]
        · rw [tk, List.mem_cons, hP q, List.mem_cons, List.mem_cons, List.mem_append, List.mem_singleton]
          constructor
          · rintro (h | h | h)
            · exact .inr (.inr h)
            · exact .inl h
            · exact .inr (.inl h)
          · rintro (h | h | h)
            · exact .inr (.inl h)
            · exact .inr (.inr h)
            · exact .inl h
        · have gy := hbf y (by rw [dr]; exact List.mem_cons_of_mem _ hy)
          show (if gr y = gr v ∧ decide (y ∈ fl2) = true then v else gr y) = if y ∈ rs ∧ y ∈ fl2 ∧ bf y = t then v else bf y
          rw [gv, gy]
          by_cases c : bf y = t ∧ decide (y ∈ fl2) = true
          · rw [if_pos c, if_pos ⟨hy, of_decide_eq_true c.2, c.1⟩]
          · rw [if_neg c, if_neg fun z => c ⟨z.2.2, decide_eq_true z.2.1⟩]
        · rw [tk]
          have disj : ∀ u ∈ od.take i, u ∉ rs ∧ u ≠ v := fun u hu => by
            have e : od = od.take i ++ v :: rs := by rw [← dr]; exact (List.take_append_drop i od).symm
            have nd2 := ond
            rw [e] at nd2
            have := (List.nodup_append.mp nd2).2.2 u hu
            exact ⟨fun z => this u (List.mem_cons_of_mem _ z) rfl, fun z => this v List.mem_cons_self z⟩
          refine tree_snoc TR (fun u hu => if_neg fun z => (disj u hu).1 z.1) (fun u hu => if_neg (disj u hu).2) ?_ ?_ fun q hq ne => ?_
          · rw [vb]
            exact (hP t).mp tP
          · rw [vb, if_pos rfl, nlam]
          · rw [vb] at ne
            rw [vb]
            obtain ⟨w1, w2, w3⟩ := way q ((hP q).mpr hq) ne
            omega
    · rintro σ Hc ⟨x4, x5, x6, x7, x8, bf, st, gr, Pl, rfl, q, c1, c2, GU, hP, hbf, TR⟩
      rw [List.length_map, List.take_length] at c2 TR
      refine ⟨_, rfl, D, rfl, ⟨_, SqL.of (q _ _ D5 Db Ds)⟩, fun p np => ?_⟩
      have sE := kp Hc q
      refine dc_it (walk_list (xs := od.map V.str)) (fun i Hz => ∃ ta : Str → Addr, Same Hc Hz ∧ Hz p = some (.dK (dct (od.take i) fun v => .ref (ta v))) ∧ ∀ v ∈ od.take i, Hz (ta v) = some (.tup [.str (bf v), .int (st v)])) ⟨fun _ => 0, same_upd np, upd_same, fun v hv => nomatch hv⟩ ?_ ?_ ?_
      · rintro i Hz hi ⟨ta, z1, _⟩
        exact SqL.of (z1 _ _ (q _ _ D5 Db Ds))
      · rintro i y Hz Hz' hi ⟨ta, z1, z2, z3⟩ ⟨rfl, hy⟩
        rw [List.length_map] at hi
        rw [List.getElem?_map, List.getElem?_eq_getElem hi] at hy
        cases hy
        obtain ⟨v, ev⟩ : ∃ v, v = od[i] := ⟨_, rfl⟩
        have hv : v ∈ od := by rw [ev]; exact List.getElem_mem hi
        have tk := takeS (List.getElem?_eq_getElem hi)
        have nin := take_nin ond hi
        rw [← ev] at tk nin ⊢
        refine ⟨rfl, tYes_if ?_⟩
        refine ⟨_, rfl, _, rfl, _, rfl, bd, _, rfl, get_d (.inl (z1 _ _ c1)) hv, _, rfl, _, rfl, sd, _, rfl, get_d (.inl (z1 _ _ c2)) hv, by show 2 ≤ sizeLine; decide, fun p9 n9 => ?_⟩
        generalize gg9 : upd _ p9 _ = G9; obtain ⟨s9, L9⟩ := new_eq n9 gg9; clear gg9
        have pne : p9 ≠ p := Ne.symm (ne_of_none z2 n9)
        refine ⟨_, Sum.inr v, rfl, s9 _ _ z2, by rw [dct_len, List.length_take]; omega, fun y => if y = v then p9 else ta y, fun b o hb => ?_, ?_, fun y hy => ?_⟩
        · rw [upd_ne (ne_of_none hb np)]
          exact s9 _ _ (z1 _ _ hb)
        · rw [upd_same, dct_put_new nin, tk]
          congr 2
          exact dct_congr fun y _ => by by_cases e : y = v <;> simp [e]
        · refine (?_ : upd G9 p _ (if y = v then p9 else ta y) = some (.tup [.str (bf y), .int (st y)]))
          by_cases e : y = v
          · subst e
            rw [if_pos rfl, upd_ne pne]
            exact L9
          · rw [if_neg e]
            rw [tk] at hy
            rcases List.mem_append.mp hy with hy | hy
            · have h3 := s9 _ _ (z3 y hy)
              rw [upd_ne (ne_of h3 (s9 _ _ z2) (by intro z; cases z))]
              exact h3
            · exact absurd (List.mem_singleton.mp hy) e
      · rintro Hz ⟨ta, z1, z2, z3⟩
        rw [List.length_map, List.take_length] at z2 z3
        have npH := np_of sE np
        refine ⟨[(p, .dK (dct od fun v => .ref (ta v)))], z2, trivial, fun o => ?_⟩
        refine k p o bf st ta _ (fun b o hb => ?_) npH upd_same (fun v hv => ?_) TR
        · rw [upd_ne (ne_of_none hb npH)]
          exact z1 _ _ (sE _ _ hb)
        · have h3 := z3 v hv
          rw [upd_ne (ne_of h3 z2 (by intro z; cases z))]
          exact h3
end
end Wk
namespace WkP
open PySem WkN WkD
structure HeadsOk (lam : Str → Str → Int) (m : Int) (l : List Str) (hd : Str → Str) : Prop where
  eq : ∀ u ∈ l, ∀ v ∈ l, hd u = hd v ↔ u = v ∨ m < lam u v
  mem : ∀ u ∈ l, hd u ∈ l
theorem HeadsOk.one {lam : Str → Str → Int} {m : Int} {t : Str} {hd : Str → Str} (h : hd t = t) : HeadsOk lam m [t] hd :=
  ⟨fun u hu v hv => by rw [List.mem_singleton.mp hu, List.mem_singleton.mp hv]; exact ⟨fun _ => .inl rfl, fun _ => rfl⟩, fun u hu => by rw [List.mem_singleton.mp hu, h]; exact List.mem_singleton.mpr rfl⟩
theorem HeadsOk.step {lam : Str → Str → Int} {m : Int} {l : List Str} {hd : Str → Str} {v b : Str} (h : HeadsOk lam m l hd) (sy : ∀ q ∈ l, lam v q = lam q v) (hv : v ∉ l) (hb : b ∈ l) (hq : ∀ q ∈ l, q ≠ b → lam v q = min (lam v b) (lam b q)) :
    HeadsOk lam m (l ++ [v]) (fun y => if y = v then (if m < lam v b then hd b else v) else hd y) := by
  have old : ∀ {u : Str}, u ∈ l → (if u = v then (if m < lam v b then hd b else v) else hd u) = hd u := fun {u} hu => if_neg fun e => hv (by rw [← e]; exact hu)
  have key : ∀ w ∈ l, (if m < lam v b then hd b else v) = hd w ↔ m < lam v w := fun w hw => by
    by_cases c : m < lam v b
    · rw [if_pos c, h.eq b hb w hw]
      by_cases e : w = b
      · subst e
        exact ⟨fun _ => c, fun _ => .inl rfl⟩
      · rw [hq w hw e]
        constructor
        · rintro (e2 | e2)
          · exact absurd e2.symm e
          · omega
        · intro e2
          exact .inr (by omega)
    · rw [if_neg c]
      constructor
      · intro e
        exact absurd (e ▸ h.mem w hw) hv
      · intro e2
        by_cases e : w = b
        · subst e
          exact absurd e2 c
        · rw [hq w hw e] at e2
          omega
  refine ⟨fun u hu w hw => ?_, fun u hu => ?_⟩
  · rcases List.mem_append.mp hu with hu1 | hu1
    · rcases List.mem_append.mp hw with hw1 | hw1
      · rw [old hu1, old hw1]
        exact h.eq u hu1 w hw1
      · have e : w = v := List.mem_singleton.mp hw1
        rw [e, old hu1, if_pos rfl]
        have ne : u ≠ v := fun e => hv (by rw [← e]; exact hu1)
        rw [eq_comm, key u hu1, sy u hu1]
        exact ⟨.inr, fun z => z.resolve_left ne⟩
    · have e : u = v := List.mem_singleton.mp hu1
      rcases List.mem_append.mp hw with hw1 | hw1
      · rw [e, old hw1, if_pos rfl]
        have ne : v ≠ w := fun e => hv (by rw [e]; exact hw1)
        rw [key w hw1]
        exact ⟨.inr, fun z => z.resolve_left ne⟩
      · rw [e, List.mem_singleton.mp hw1]
        exact ⟨fun _ => .inl rfl, fun _ => rfl⟩
  · rcases List.mem_append.mp hu with hu | hu
    · rw [old hu]
      exact List.mem_append_left _ (h.mem u hu)
    · rw [List.mem_singleton.mp hu, if_pos rfl]
      split
      · exact List.mem_append_left _ (h.mem b hb)
      · exact List.mem_append_right _ (List.mem_singleton.mpr rfl)
def ksF (hd : Str → Str) (l : List Str) : List Str := l.foldl (fun ks u => if hd u ∈ ks then ks else ks ++ [hd u]) []
theorem ksF_snoc {hd : Str → Str} {l : List Str} {u : Str} : ksF hd (l ++ [u]) = if hd u ∈ ksF hd l then ksF hd l else ksF hd l ++ [hd u] := by
  unfold ksF
  rw [List.foldl_append]
  rfl
theorem snocI {p : List Str → Prop} (h0 : p []) (h1 : ∀ l x, p l → p (l ++ [x])) (l : List Str) : p l := by
  have : ∀ r : List Str, p r.reverse := fun r => by
    induction r with
    | nil => exact h0
    | cons x r ih => rw [List.reverse_cons]; exact h1 _ _ ih
  have := this l.reverse
  rwa [List.reverse_reverse] at this
theorem ksF_mem {hd : Str → Str} {l : List Str} {h : Str} : h ∈ ksF hd l ↔ ∃ u ∈ l, hd u = h := by
  revert h
  refine snocI (p := fun l => ∀ {h : Str}, h ∈ ksF hd l ↔ ∃ u ∈ l, hd u = h) (by simp [ksF]) (fun l x ih => ?_) l
  intro h
  rw [ksF_snoc]
  by_cases c : hd x ∈ ksF hd l
  · rw [if_pos c, ih]
    constructor
    · rintro ⟨u, hu, e⟩
      exact ⟨u, List.mem_append_left _ hu, e⟩
    · rintro ⟨u, hu, e⟩
      rcases List.mem_append.mp hu with hu | hu
      · exact ⟨u, hu, e⟩
      · rw [List.mem_singleton.mp hu] at e
        rw [e] at c
        exact ih.mp c
  · rw [if_neg c, List.mem_append, ih, List.mem_singleton]
    constructor
    · rintro (⟨u, hu, e⟩ | e)
      · exact ⟨u, List.mem_append_left _ hu, e⟩
      · exact ⟨x, List.mem_append_right _ (List.mem_singleton.mpr rfl), e.symm⟩
    · rintro ⟨u, hu, e⟩
      rcases List.mem_append.mp hu with hu | hu
      · exact .inl ⟨u, hu, e⟩
      · rw [List.mem_singleton.mp hu] at e
        exact .inr e.symm
theorem ksF_len {hd : Str → Str} {l : List Str} : (ksF hd l).length ≤ l.length := by
  refine snocI (p := fun l => (ksF hd l).length ≤ l.length) (Nat.le_refl _) (fun l x ih => ?_) l
  rw [ksF_snoc, List.length_append]
  split
  · omega
  · rw [List.length_append]
    exact Nat.add_le_add_right ih 1
def rowH (hd : Str → Str) (Vs : List Str) (h : Str) : List Str := Vs.filter fun w => decide (hd w = h)
def clsF (hd : Str → Str) (Vs : List Str) : List (List Str) := (ksF hd Vs).map (rowH hd Vs)
end WkP
namespace WkV
open PySem PySem.Spec PyProof.Rows L2
section
variable {P : Program} {w : World} {K : PySem.W.Frag} {mg : Str → Option Value} {base : Heap} {CX : CXT} {k : Nat} {f c : Addr} {fd : FuncData} {ps N : List Str} {sp : Sp} {x qual : Str} {params : Arguments} {body : List Stmt} {scope : Scope} {dvs : List V} {kws : List (Str × V)}
end
section
variable {X : Cx} {body : List Stmt} {h₀ : ExceptHandler} {hds : List ExceptHandler} {pos : Pos} {tb : TS}
end
section
variable {X : Cx}
end
end WkV
namespace WkU
open PySem PySem.Spec PyProof.Rows L2
theorem pgL {X : Cx} {es : List Expr} {k : Nat} {t : TGs} {pos : Pos} (K : PySem.W.Frag) (n : Nat) (hK : X.K = K) (hc : X.calm = true) (h : PGs X es t) (hn : (assignEach es X.env).length = n) (hst : (assignEach es X.env).findIdx? (·.1) = none := by rfl) : PG X (.Tuple es k pos) (gLst K n t) := by
  subst hK
  subst hn
  exact pg_lst hc h rfl hst
end WkU
namespace HT
open PySem PySem.Spec PyProof.Rows
section
variable {prog : Program} {w : World} {A : Around} {E : Value → Shared → Prop} {s : Shared}
end
end HT
namespace WkTr
open PySem PySem.Spec PyProof.Rows L2
section
variable {X : Cx}
end
end WkTr
namespace HT
open PySem PySem.Spec PyProof.Rows
section
variable {prog : Program} {w : World} {A : Around} {E : Value → Shared → Prop} {s : Shared}
end
end HT
namespace WkTr
open PySem PySem.Spec PyProof.Rows L2
section
variable {X : Cx}
def rTupL (K : PySem.W.Frag) : List V → Hp → VK → Prop := fun xs H Q => ∃ p ys, xs = [.ref p] ∧ SqL K H p ys ∧ ∀ l, H l = none → Q (.ref l) (upd H l (.tup ys))
theorem call_tupL (K : PySem.W.Frag) (h : X.K = K) : CallR X (.type "tuple") (rTupL K) := by
  subst h
  intro pins s σ H xs us Q I r h
  obtain ⟨p, ys, e, h1, h2⟩ := h
  exact call_tuple_of pins s σ H xs us Q I r ⟨p, ys, e, .inl ⟨h1, h2⟩⟩
end
end WkTr
namespace Wk
open PySem PySem.Spec PyProof.Rows L2 WkD WkN LamX WkP WkE WkC PySem.W
theorem tree_ge {lam : Str → Str → Int} {top : Str} {od : List Str} {bf : Str → Str} {st : Str → Int} {m : Int} (T : TreeOk lam top od bf st) (nd : (top :: od).Nodup) (sy : ∀ u ∈ top :: od, ∀ v ∈ top :: od, u ≠ v → lam u v = lam v u) (h : ∀ v ∈ od, m ≤ st v) : ∀ i, i ≤ od.length → ∀ u ∈ top :: od.take i, ∀ v ∈ top :: od.take i, u ≠ v → m ≤ lam u v := by
  intro i
  induction i with
  | zero =>
    intro _ u hu v hv ne
    rw [List.take_zero] at hu hv
    exact absurd ((List.mem_singleton.mp hu).trans (List.mem_singleton.mp hv).symm) ne
  | succ i ih =>
    intro hi
    have hi' : i < od.length := by omega
    obtain ⟨v, ev⟩ : ∃ v, v = od[i] := ⟨_, rfl⟩
    have he : od[i]? = some v := by rw [List.getElem?_eq_getElem hi', ev]
    obtain ⟨h1, h2, h3⟩ := T i v he
    have tk := takeS he
    have ih := ih (by omega)
    have hvo : v ∈ od := by rw [ev]; exact List.getElem_mem hi'
    have sub : ∀ q ∈ top :: od.take i, q ∈ top :: od := fun q hq => by
      rcases List.mem_cons.mp hq with e | e
      · exact e ▸ List.mem_cons_self
      · exact List.mem_cons_of_mem _ (List.mem_of_mem_take e)
    have new : ∀ q ∈ top :: od.take i, m ≤ lam v q := fun q hq => by
      have hs := h v hvo
      by_cases e : q = bf v
      · rw [e, ← h2]
        exact hs
      · rw [h3 q hq e, ← h2]
        have := ih (bf v) h1 q hq (Ne.symm e)
        omega
    have mem : ∀ q, q ∈ top :: od.take (i + 1) ↔ q ∈ top :: od.take i ∨ q = v := fun q => by
      rw [tk, ← List.cons_append, List.mem_append, List.mem_singleton]
    intro a ha b hb ne
    rcases (mem a).mp ha with ha | ha
    · rcases (mem b).mp hb with hb | hb
      · exact ih a ha b hb ne
      · subst hb
        rw [sy a (sub a ha) b (List.mem_cons_of_mem _ hvo) ne]
        exact new a ha
    · subst ha
      rcases (mem b).mp hb with hb | hb
      · exact new b hb
      · exact absurd hb.symm ne
theorem two_ofC {l : List Str} (h : 2 ≤ l.length) (nd : l.Nodup) : ∃ u ∈ l, ∃ v ∈ l, u ≠ v := by
  match l, h, nd with
  | u :: v :: r, _, nd => exact ⟨u, by simp, v, by simp, fun e => by simp [e] at nd⟩
theorem each_appC {α β : Type} {R : α → β → Prop} : ∀ {as as' : List α} {bs bs' : List β}, EachIs R as bs → EachIs R as' bs' → EachIs R (as ++ as') (bs ++ bs')
  | _, _, _, _, .nil, h => h
  | _, _, _, _, .cons h t, h' => .cons h (each_appC t h')
structure CoresOk (lam : Str → Str → Int) (Vs : List Str) (hd : Str → Str) (m : Int) : Prop where
  eq : ∀ u ∈ Vs, ∀ v ∈ Vs, hd u = hd v ↔ u = v ∨ m < lam u v
  at_ : ∃ u ∈ Vs, ∃ v ∈ Vs, u ≠ v ∧ lam u v = m
  ge : ∀ u ∈ Vs, ∀ v ∈ Vs, u ≠ v → m ≤ lam u v
section
variable {P : Program} {w : World} {K : PySem.W.Frag} {mg : Str → Option Value} {base : Heap}
def spCores (K : PySem.W.Frag) : Sp := fun vs H Q _ => ∃ (g C dx : Addr) (fs : List (Str × V)) (a : Addr) (top : Str) (Vs : List Str) (ad : Str → Addr) (nb : Nb) (wt : Wt), vs = [.ref g] ∧ GAt K H g C dx fs a top ∧ RowsZ H a Vs ad nb wt ∧ Sym Vs nb wt ∧ (∀ u ∈ Vs, ∀ v ∈ nb u, 0 ≤ wt u v) ∧ (∀ u ∈ Vs, (nb u).length < 1000) ∧ Vs.length < 1000 ∧ Vs.Nodup ∧ top ∈ Vs ∧ 2 ≤ Vs.length ∧
  ∀ p rs hd m H', Same H H' → H p = none → H' p = some (.lst (rs.map V.ref)) → EachIs (fun r S => H' r = some (.tup (S.map V.str))) rs (clsF hd Vs) → CoresOk (lamOf Vs (vl0 nb wt)) Vs hd m → Q (.ref p) H'
theorem sc_cores_of : FnScope ["graph", "tree", "least", "before", "strength", "heads", "cores", "vertex", "core"] ["graph"] (defScope s_cores_of) := ⟨rfl, rfl, rfl, by decide +kernel, rfl, by decide +kernel, by decide +kernel⟩
theorem c_cores_of (D : Def K mg "cores_of" s_cores_of) (B : Bi mg) (CTR : Callee P w K mg base CX0 4 "cut_tree" ["graph"] (spTree K)) : Callee P w K mg base CX0 5 "cores_of" ["graph"] (spCores K) := by
  obtain ⟨f, fd, F, g⟩ := D
  refine ⟨f, fd, F.ok sc_cores_of (fun vs H Q E h => ?_) (fun cdv A outer s H vs Q E hr h => ?_), g, F.kp, F.bindsN (fun _ _ _ _ _ _ us hl => match us, hl with | [_], _ => rfl)⟩
  · obtain ⟨g, C, dx, fs, a, top, Vs, ad, nb, wt, rfl, _⟩ := h
    rfl
  have hr4 : Room 4 _ := hr
  have hu := hu_of hr
  have nd := sc_cores_of.nd
  refine ⟨_, PSs.nox (pss_cons (ps_set (i := 1) nd rfl (Or.inl rfl) (pe_c CTR hr4 pass0 (pa_cons (pv 0) pa_nil)))
      (pss_cons (ps_set (i := 2) nd rfl (Or.inl rfl) (pe_callB (cr_min rfl) (by rfl) B.n_min (by decide +kernel) (pa_cons (pe_lc (own := [("before", 3), ("strength", 4)]) (by rfl) nd (pi_values (pv 1)) (blkOk_by (by kernel_rfl)) (fun _ _ _ _ _ => (WkN.pgT K 2 rfl rfl (pgs_cons (pg_name (i := 3) nd rfl (Or.inl rfl)) (pgs_cons (pg_name (i := 4) nd rfl (Or.inl rfl)) pgs_nil)) rfl)) (fun _ _ _ _ _ => pts_nil) (fun _ _ _ _ _ => (pv 4))) pa_nil)))
      (pss_cons (ps_par (i := 5) (j := 6) (by rfl) nd rfl rfl (by decide) rfl rfl (pa_cons (pe_disp (pps_cons (pe_fld (pv 0) rfl) (pe_fld (pv 0) rfl) pps_nil) (by rfl) (by rfl) (fun z => by cases z) (by decide)) (pa_cons pe_dnewK pa_nil)) (by rfl))
      (pss_cons (ps_for PassesOwn.never rfl (pi_items (pv 1)) (WkN.pgT K 2 rfl rfl (pgs_cons (pg_name (i := 7) nd rfl (Or.inl rfl)) (pgs_cons (WkN.pgT K 2 rfl rfl (pgs_cons (pg_name (i := 3) nd rfl (Or.inl rfl)) (pgs_cons (pg_name (i := 4) nd rfl (Or.inl rfl)) pgs_nil)) rfl) pgs_nil)) rfl)
      (pss_one (ps_dput hu (pv 5) (pv 7) (pe_ifExp (pt_cmpR op_gt (pv 4) (pv 2) (nomark _)) (pe_dget hu (pv 5) (pv 3) (fun _ _ => rfl)) (pv 7)) rfl)))
      (pss_cons (ps_for PassesOwn.never rfl (pi_keys (pe_fld (pv 0) rfl)) (pg_name (i := 7) nd rfl (Or.inl rfl))
      (pss_one (ps_expr (pe_bm PySem.F.plainAttrs_list PySem.F.slot_list_append PySem.F.type_list_append mt_append (pe_dsetd (pv 6) (pe_dget hu (pv 5) (pv 7) (fun _ _ => rfl)) (pe_lst pa_nil) ⟨rfl, rfl, rfl, rfl⟩) (pa_cons (pv 7) pa_nil)))))
      (pss_one (WkD.ps_fz0 (ps_ret (pe_lc (own := [("core", 8)]) (by rfl) nd (pi_values (pv 6)) (blkOk_by (by kernel_rfl)) (fun _ _ _ _ _ => (pg_name (i := 8) nd rfl (Or.inl rfl))) (fun _ _ _ _ _ => pts_nil) (fun _ _ _ _ _ => (pe_callTy (WkTr.call_tupL K (by rfl)) (by rfl) B.n_tuple (by decide +kernel) (pa_cons (pv 8) pa_nil)))))))))))), ?_⟩
  obtain ⟨g, C, dx, fs, a, top, Vs, ad, nb, wt, rfl, G, RZ, sy, wnn, hnl, hVl, hVn, htop, h2, k⟩ := h
  have big : 100000 < sizeLine := by decide
  have lo := lamOf_ok (l := Vs) (w := vl0 nb wt) (vl0_sym sy) (fun u hu v hv => by
    unfold vl0
    split
    · exact wnn u hu v ‹_›
    · exact Int.le_refl _)
  obtain ⟨lam, elam⟩ : ∃ lam, lam = lamOf Vs (vl0 nb wt) := ⟨_, rfl⟩
  refine ⟨_, rfl, g, C, dx, fs, a, top, Vs, ad, nb, wt, rfl, G, RZ, sy, wnn, hnl, hVl, hVn, htop, fun tp otp bf st ta H1 s1 ntp htp hta TR => ?_⟩
  rw [← elam] at TR k lo
  obtain ⟨od, eod⟩ : ∃ od, od = Vs.filter fun v => decide (v ≠ top) := ⟨_, rfl⟩
  rw [← eod] at htp hta TR
  have ool : od.length ≤ Vs.length := by rw [eod]; exact List.length_filter_le _ _
  have ond : od.Nodup := by rw [eod]; exact hVn.filter _
  have omem : ∀ v, v ∈ od ↔ v ∈ Vs ∧ v ≠ top := fun v => by rw [eod, List.mem_filter, decide_eq_true_iff]
  have mem : ∀ u, u ∈ top :: od ↔ u ∈ Vs := fun u => by
    rw [List.mem_cons, omem]
    exact ⟨fun h => h.elim (fun e => e ▸ htop) And.left, fun h => (Classical.em (u = top)).imp id fun n => ⟨h, n⟩⟩
  have tnd : (top :: od).Nodup := List.nodup_cons.mpr ⟨fun h => ((omem _).mp h).2 rfl, ond⟩
  have lsy : ∀ u ∈ top :: od, ∀ v ∈ top :: od, u ≠ v → lam u v = lam v u := fun u hu v hv ne => lo.symm ((mem u).mp hu) ((mem v).mp hv) ne
  have one : od ≠ [] := fun e => by
    obtain ⟨u, hu, v, hv, ne⟩ := two_ofC h2 hVn
    have h1 := (mem u).mpr hu
    have h2 := (mem v).mpr hv
    rw [e] at h1 h2
    exact ne ((List.mem_singleton.mp h1).trans (List.mem_singleton.mp h2).symm)
  /- the least -/
  refine ⟨_, rfl, tp, otp, _, rfl, htp, fun D nD => ?_⟩
  refine lc_it (walk_values (kvs := dct od fun v => .ref (ta v))) (fun i Hc => Same H1 Hc ∧ Hc D = some (.lst ((od.take i).map fun v => V.int (st v)))) ⟨same_upd nD, upd_same⟩ ?_ ?_ ?_
  · rintro i Hc hi ⟨c1, c2⟩
    exact c1 _ _ htp
  · rintro i x Hc Hc' hi ⟨c1, c2⟩ ⟨rfl, kk, hk⟩
    rw [dct_len] at hi
    rw [dct_at, List.getElem?_eq_getElem hi] at hk
    cases hk
    have tk := takeS (List.getElem?_eq_getElem hi)
    have ht := c1 _ _ (hta _ (List.getElem_mem hi))
    refine ⟨_, _, rfl, .inl (.inl ht), rfl, _, _, rfl, _, _, rfl, rfl, rfl, tYes_if ?_⟩
    refine ⟨_, rfl, _, c2, by rw [List.length_map, List.length_take]; omega, fun b o hb => ?_, ?_⟩
    · rw [upd_ne (ne_of_none hb nD)]
      exact c1 _ _ hb
    · rw [upd_same, tk, List.map_append]
      rfl
  rintro H2 ⟨c1, c2⟩
  rw [dct_len, List.take_length] at c2
  have c2' : H2 D = some (.lst ((od.map st).map V.int)) := by
    rw [c2, List.map_map]
    rfl
  refine ⟨D, od.map st, rfl, SqL.of c2', ?_, fun m hm hmin => ?_⟩
  · rw [List.length_map]
    exact List.length_pos_iff.mpr one
  have s2 := s1.trans c1
  have htp2 := c1 _ _ htp
  have hta2 : ∀ v ∈ od, H2 (ta v) = some (.tup [.str (bf v), .int (st v)]) := fun v hv => c1 _ _ (hta v hv)
  have ge := tree_ge TR tnd lsy (m := m) (fun v hv => hmin _ (List.mem_map.mpr ⟨v, hv, rfl⟩)) od.length (Nat.le_refl _)
  rw [List.take_length] at ge
  obtain ⟨v0, hv0, ev0⟩ := List.mem_map.mp hm
  have at0 : ∃ u ∈ Vs, ∃ v ∈ Vs, u ≠ v ∧ lam u v = m := by
    obtain ⟨i, hi⟩ := List.getElem?_of_mem hv0
    obtain ⟨h1, h3, _⟩ := TR i v0 hi
    have hb : bf v0 ∈ top :: od := by
      rcases List.mem_cons.mp h1 with e | e
      · exact e ▸ List.mem_cons_self
      · exact List.mem_cons_of_mem _ (List.mem_of_mem_take e)
    refine ⟨v0, ((omem _).mp hv0).1, bf v0, (mem _).mp hb, fun e => ?_, by rw [← h3]; exact ev0⟩
    rcases List.mem_cons.mp h1 with e2 | e2
    · exact ((omem _).mp hv0).2 (e.trans e2)
    · rw [← e] at e2
      have hi2 : i < od.length := by
        rcases Nat.lt_or_ge i od.length with h | h
        · exact h
        · rw [List.getElem?_eq_none h] at hi
          cases hi
      have e3 : od[i] = v0 := by
        rw [List.getElem?_eq_getElem hi2] at hi
        exact Option.some.inj hi
      have := take_nin ond hi2
      rw [e3] at this
      exact this e2
  clear c1 c2 c2' hm hmin ev0 hv0 htp hta
  have G2 := G.ext (Ext.of s2)
  /- heads and cores -/
  intro hp nhp
  have g1 : Same H2 (upd H2 hp (.dK [])) := same_upd nhp
  refine ⟨_, rfl, g, C, dx, fs, _, rfl, g1 _ _ G2.ins, G2.cls, G2.nt, G2.lt, _, rfl, g, C, dx, fs, _, rfl, g1 _ _ G2.ins, G2.cls, G2.nt, G2.lt, upd_same, [(Sum.inr top, .str top)], rfl, (by show 1 ≤ 15; decide), ?_⟩
  have hp3 : upd (upd H2 hp (.dK [])) hp (.dK (mergeK [] [(Sum.inr top, V.str top)])) hp = some (.dK (dct [top] fun u => .str u)) := by
    rw [upd_same]
    rfl
  have s3 : Same H2 (upd (upd H2 hp (.dK [])) hp (.dK (mergeK [] [(Sum.inr top, V.str top)]))) := fun b o hb => by
    rw [upd_ne (ne_of_none hb nhp)]
    exact g1 _ _ hb
  generalize upd (upd H2 hp (.dK [])) hp (.dK (mergeK [] [(Sum.inr top, V.str top)])) = H3 at hp3 s3 ⊢
  intro cp ncp
  generalize gg : upd H3 cp _ = H4
  obtain ⟨s4, L4⟩ := new_eq ncp gg
  clear gg
  refine ⟨_, _, rfl, ?_⟩
  have s24 := s3.trans s4
  have hp4 := s4 _ _ hp3
  have hpcp : hp ≠ cp := ne_of_none hp3 ncp
  have nhpH : ∀ {b o}, H2 b = some o → b ≠ hp := fun h => ne_of_none h nhp
  refine ⟨_, rfl, tp, otp, _, rfl, s24 _ _ htp2, ?_⟩
  refine for_it (walk_items (kvs := dct od fun v => .ref (ta v))) (fun i σ Hc => ∃ (x3 x4 x7 x8 : Option V) (hd : Str → Str), σ = [some (.ref g), some (.ref tp), some (.int m), x3, x4, some (.ref hp), some (.ref cp), x7, x8] ∧ (∀ b o, H4 b = some o → b ≠ hp → Hc b = some o) ∧ Hc hp = some (.dK (dct (top :: od.take i) fun u => .str (hd u))) ∧ HeadsOk lam m (top :: od.take i) hd)
    ⟨_, _, _, _, id, rfl, fun b o h _ => h, hp4, by rw [List.take_zero]; exact HeadsOk.one rfl⟩ ?_ ?_ ?_
  · rintro i σ Hc hi ⟨x3, x4, x7, x8, hd, rfl, q, _⟩
    exact q _ _ (s24 _ _ htp2) (nhpH htp2)
  · rintro i y σ Hc Hc' hi ⟨x3, x4, x7, x8, hd, rfl, q, ch, HOk⟩ ⟨T, y1, y2, rfl, nT, rfl, hy1, hy2⟩
    rw [dct_len] at hi
    obtain ⟨v, ev⟩ : ∃ v, v = od[i] := ⟨_, rfl⟩
    have hv : v ∈ od := by rw [ev]; exact List.getElem_mem hi
    have he : od[i]? = some v := by rw [List.getElem?_eq_getElem hi, ev]
    have e1 : (dct od fun v => V.ref (ta v))[i]? = some (Sum.inr v, .ref (ta v)) := by rw [dct_at, he]; rfl
    have hy1 : ((dct od fun v => V.ref (ta v))[i]?.map fun kv => kV kv.1) = some y1 := hy1
    have hy2 : (dct od fun v => V.ref (ta v))[i]?.map Prod.snd = some y2 := hy2
    rw [e1] at hy1 hy2
    cases hy1
    cases hy2
    have tk := takeS he
    have nin := take_nin ond hi
    rw [← ev] at nin
    show gTup _ _ _ _ _ (upd Hc T (.tup [.str v, .ref (ta v)])) _
    generalize gg : upd Hc T (.tup [.str v, .ref (ta v)]) = H5
    obtain ⟨sT, PT⟩ := new_eq nT gg
    clear gg
    have tv5 := sT _ _ (q _ _ (s24 _ _ (hta2 v hv)) (nhpH (hta2 v hv)))
    refine ⟨T, _, rfl, .inl (.inl PT), rfl, _, _, rfl, _, _, rfl, ta v, _, rfl, .inl (.inl tv5), rfl, _, _, rfl, _, _, rfl, rfl, rfl, ?_⟩
    obtain ⟨hb1, hb2, hb3⟩ := TR i v he
    obtain ⟨kl, ekl⟩ : ∃ kl, kl = top :: od.take i := ⟨_, rfl⟩
    rw [← ekl] at hb1 hb3 ch HOk
    have tk2 : top :: od.take (i + 1) = kl ++ [v] := by rw [tk, ekl]; rfl
    have vkl : v ∉ kl := fun z => by
      rw [ekl] at z
      rcases List.mem_cons.mp z with e | e
      · exact ((omem v).mp hv).2 e
      · exact nin e
    have klm : ∀ z ∈ kl, z ∈ top :: od := fun z hz => by
      rw [ekl] at hz
      rcases List.mem_cons.mp hz with e | e
      · exact e ▸ List.mem_cons_self
      · exact List.mem_cons_of_mem _ (List.mem_of_mem_take e)
    have kll : kl.length ≤ 1000 := by rw [ekl, List.length_cons, List.length_take]; omega
    have HO2 := HOk.step (v := v) (b := bf v) (fun z hz => lsy v (List.mem_cons_of_mem _ hv) z (klm z hz) fun e => vkl (e ▸ hz)) vkl hb1 hb3
    have ch5 := sT _ _ ch
    have fin : ∀ z : Str, z = (if m < lam v (bf v) then hd (bf v) else v) → ∃ (y3 y4 y7 y8 : Option V) (hd' : Str → Str), [some (.ref g), some (.ref tp), some (.int m), some (.str (bf v)), some (.int (st v)), some (.ref hp), some (.ref cp), some (.str v), x8] = [some (.ref g), some (.ref tp), some (.int m), y3, y4, some (.ref hp), some (.ref cp), y7, y8] ∧ (∀ b o, H4 b = some o → b ≠ hp → (upd H5 hp (.dK (dct (kl ++ [v]) fun y => if y = v then V.str z else .str (hd y)))) b = some o) ∧ (upd H5 hp (.dK (dct (kl ++ [v]) fun y => if y = v then V.str z else .str (hd y)))) hp = some (.dK (dct (top :: od.take (i + 1)) fun u => .str (hd' u))) ∧ HeadsOk lam m (top :: od.take (i + 1)) hd' := fun z ez => by
      refine ⟨_, _, _, _, fun y => if y = v then (if m < lam v (bf v) then hd (bf v) else v) else hd y, rfl, fun b o hb hn => ?_, ?_, by rw [tk2]; exact HO2⟩
      · rw [upd_ne hn]
        exact sT _ _ (q b o hb hn)
      · rw [upd_same, tk2]
        refine congrArg (fun l => some (HO.dK l)) (dct_congr fun y _ => ?_)
        dsimp only
        by_cases e : y = v
        · rw [if_pos e, if_pos e, ez]
        · rw [if_neg e, if_neg e]
    refine ⟨_, rfl, _, rfl, _, _, rfl, rfl, _, rfl, ite2 (fun h => ?_) (fun h => ?_)⟩
    · have c : m < st v := of_decide_eq_true h
      refine ⟨_, rfl, _, rfl, hp, _, rfl, get_d (.inl ch5) hb1, _, rfl, _, rfl, hp, _, rfl, put_n ch5 vkl (by omega), ?_⟩
      exact fin _ (by rw [if_pos (by rw [← hb2]; exact c)])
    · have c : ¬ m < st v := fun z => h (decide_eq_true z)
      refine ⟨_, rfl, _, rfl, _, rfl, hp, _, rfl, put_n ch5 vkl (by omega), ?_⟩
      exact fin _ (by rw [if_neg (by rw [← hb2]; exact c)])
  · rintro σ H5 ⟨x3, x4, x7, x8, hd, rfl, q, ch, HOk⟩
    rw [dct_len, List.take_length] at ch HOk
    have s25 : Same H2 H5 := fun b o hb => q _ _ (s24 _ _ hb) (nhpH hb)
    have s05 : Same H H5 := s2.trans s25
    have L5 := q _ _ L4 (Ne.symm hpcp)
    have G5 := G.ext (Ext.of s05)
    obtain ⟨oa, hA0⟩ := RZ.top
    have hA := s05 _ _ hA0
    have ncH : ∀ {b o}, H b = some o → b ≠ cp := fun h => ne_of_none (s3 _ _ (s2 _ _ h)) ncp
    have npH : H cp = none := np_of (s2.trans s3) ncp
    clear q s24 hp4 L4 s4 s3 hp3 hta2 htp2 tnd TR one
    refine ⟨_, rfl, g, C, dx, fs, _, rfl, G5.ins, G5.cls, G5.na, G5.la, a, oa, rfl, .inl ⟨_, hA, ?_⟩⟩
    refine for_it (walk_keys (kvs := dct Vs fun u => .ref (ad u))) (fun i σ Hc => ∃ (x7 : Option V) (cd : Str → Addr), σ = [some (.ref g), some (.ref tp), some (.int m), x3, x4, some (.ref hp), some (.ref cp), x7, x8] ∧ (∀ b o, H5 b = some o → b ≠ cp → Hc b = some o) ∧ Hc cp = some (.dK (dct (ksF hd (Vs.take i)) fun h => .ref (cd h))) ∧ (∀ h ∈ ksF hd (Vs.take i), Hc (cd h) = some (.lst ((rowH hd (Vs.take i) h).map V.str)) ∧ H5 (cd h) = none) ∧ ∀ h ∈ ksF hd (Vs.take i), ∀ h' ∈ ksF hd (Vs.take i), cd h = cd h' → h = h')
      ⟨_, fun _ => 0, rfl, fun b o h _ => h, L5, (fun h hh => nomatch hh), fun h hh => nomatch hh⟩ ?_ ?_ ?_
    · rintro i σ Hc hi ⟨x7, cd, rfl, q, _⟩
      exact q _ _ hA (ncH hA0)
    · rintro i y σ Hc Hc' hi ⟨x7, cd, rfl, q, hcp, hcd, inj⟩ ⟨rfl, k0, v0, hk, rfl⟩
      rw [dct_len] at hi
      rw [dct_at, List.getElem?_eq_getElem hi] at hk
      cases hk
      obtain ⟨u, eu⟩ : ∃ u, u = Vs[i] := ⟨_, rfl⟩
      have huV : u ∈ Vs := by rw [eu]; exact List.getElem_mem hi
      have tk := takeS (List.getElem?_eq_getElem hi)
      rw [← eu] at tk ⊢
      have ch1 := q _ _ ch hpcp
      have kl := ksF_len (hd := hd) (l := Vs.take i)
      rw [List.length_take] at kl
      have rl : ∀ h, (rowH hd (Vs.take i) h).length ≤ 1000 := fun h => by
        have := List.length_filter_le (fun w => decide (hd w = h)) (Vs.take i)
        rw [List.length_take] at this
        show (List.filter _ _).length ≤ _
        omega
      have row1 : ∀ h, rowH hd (Vs.take (i + 1)) h = rowH hd (Vs.take i) h ++ (if hd u = h then [u] else []) := fun h => by
        unfold rowH
        rw [tk, List.filter_append]
        congr 1
        by_cases e : hd u = h
        · simp [e]
        · simp [e]
      have ks1 := ksF_snoc (hd := hd) (l := Vs.take i) (u := u)
      rw [← tk] at ks1
      refine ⟨_, rfl, cp, rfl, .inl ⟨_, .inl hcp⟩, _, rfl, _, rfl, hp, _, rfl, get_d (.inl ch1) ((mem u).mpr huV), (by decide), fun lp nlp => ?_⟩
      generalize gg : upd Hc' lp _ = H6
      obtain ⟨s6, L6⟩ := new_eq nlp gg
      clear gg
      have hcp6 := s6 _ _ hcp
      refine ⟨_, Sum.inr (hd u), hcp6, rfl, by rw [dct_len]; omega, fun v hv => ?_, fun hv => ?_⟩
      · rw [dct_val] at hv
        by_cases c : hd u ∈ ksF hd (Vs.take i)
        · rw [if_pos c] at hv
          cases hv
          obtain ⟨h1, h3⟩ := hcd _ c
          have h1 := s6 _ _ h1
          refine ⟨.inl ⟨rfl, _, SqL.of h1⟩, _, rfl, cd (hd u), _, _, rfl, rfl, h1, by rw [List.length_map]; have := rl (hd u); omega, ?_⟩
          have cne : ∀ {b o}, H5 b = some o → b ≠ cd (hd u) := fun hb => ne_of_none hb h3
          rw [if_pos c] at ks1
          refine ⟨_, cd, rfl, fun b o hb hn => ?_, ?_, fun h hh => ⟨?_, ?_⟩, fun h hh h' hh' => ?_⟩
          · rw [upd_ne (cne hb)]
            exact s6 _ _ (q b o hb hn)
          · rw [upd_ne (cne L5), ks1]
            exact hcp6
          · rw [ks1] at hh
            rw [row1]
            by_cases e : hd u = h
            · subst e
              rw [upd_same, if_pos rfl, List.map_append]
              rfl
            · rw [upd_ne (fun z => e (inj _ hh _ c z).symm), if_neg e, List.append_nil]
              exact s6 _ _ (hcd h hh).1
          · rw [ks1] at hh
            exact (hcd h hh).2
          · rw [ks1] at hh hh'
            exact inj h hh h' hh'
        · rw [if_neg c] at hv
          cases hv
      · rw [dct_val] at hv
        have c : hd u ∉ ksF hd (Vs.take i) := fun c => by
          rw [if_pos c] at hv
          cases hv
        rw [dct_put_new c]
        have lcp : lp ≠ cp := Ne.symm (ne_of_none hcp nlp)
        have L7 : upd H6 cp (.dK (dct (ksF hd (Vs.take i) ++ [hd u]) fun y => if y = hd u then V.ref lp else .ref (cd y))) lp = some (.lst []) := by rw [upd_ne lcp]; exact L6
        refine ⟨.inl ⟨rfl, _, SqL.of L7⟩, _, rfl, lp, _, _, rfl, rfl, L7, by decide, ?_⟩
        rw [if_neg c] at ks1
        have n5 : H5 lp = none := by
          cases e : H5 lp with
          | none => rfl
          | some o =>
            rw [q _ _ e lcp] at nlp
            cases nlp
        have lne : ∀ h ∈ ksF hd (Vs.take i), cd h ≠ lp := fun h hh => ne_of_none (hcd h hh).1 nlp
        have ccp : ∀ h ∈ ksF hd (Vs.take i), cd h ≠ cp := fun h hh e => by
          have := (hcd h hh).2
          rw [e, L5] at this
          cases this
        refine ⟨_, fun y => if y = hd u then lp else cd y, rfl, fun b o hb hn => ?_, ?_, fun h hh => ?_, fun h hh h' hh' => ?_⟩
        · rw [upd_ne (ne_of_none hb n5), upd_ne hn]
          exact s6 _ _ (q b o hb hn)
        · rw [upd_ne (Ne.symm lcp), upd_same, ks1]
          refine congrArg (fun l => some (HO.dK l)) (dct_congr fun y _ => ?_)
          dsimp only
          by_cases e : y = hd u
          · rw [if_pos e, if_pos e]
          · rw [if_neg e, if_neg e]
        · rw [ks1] at hh
          rw [row1]
          rcases List.mem_append.mp hh with hh | hh
          · have e : h ≠ hd u := fun e => c (by rw [← e]; exact hh)
            dsimp only
            rw [if_neg e, upd_ne (lne h hh), upd_ne (ccp h hh), if_neg (Ne.symm e), List.append_nil]
            exact ⟨s6 _ _ (hcd h hh).1, (hcd h hh).2⟩
          · have e : h = hd u := List.mem_singleton.mp hh
            dsimp only
            rw [if_pos e, upd_same, if_pos e.symm]
            have r0 : rowH hd (Vs.take i) h = [] := by
              unfold rowH
              rw [List.filter_eq_nil_iff]
              intro w hw z
              have z := of_decide_eq_true z
              exact c (by rw [← e]; exact ksF_mem.mpr ⟨w, hw, z⟩)
            rw [r0]
            exact ⟨rfl, n5⟩
        · rw [ks1] at hh hh'
          intro z
          have z : (if h = hd u then lp else cd h) = (if h' = hd u then lp else cd h') := z
          rcases List.mem_append.mp hh with hh | hh
          · rw [if_neg (fun e : h = hd u => c (by rw [← e]; exact hh))] at z
            rcases List.mem_append.mp hh' with hh' | hh'
            · rw [if_neg (fun e : h' = hd u => c (by rw [← e]; exact hh'))] at z
              exact inj h hh h' hh' z
            · rw [if_pos (List.mem_singleton.mp hh')] at z
              exact absurd z (lne h hh)
          · rw [if_pos (List.mem_singleton.mp hh)] at z
            rcases List.mem_append.mp hh' with hh' | hh'
            · rw [if_neg (fun e : h' = hd u => c (by rw [← e]; exact hh'))] at z
              exact absurd z.symm (lne h' hh')
            · exact (List.mem_singleton.mp hh).trans (List.mem_singleton.mp hh').symm
    · rintro σ H6 ⟨x7, cd, rfl, q, hcp, hcd, inj⟩
      rw [dct_len, List.take_length] at hcp hcd
      clear inj ch
      obtain ⟨ks, eks⟩ : ∃ ks, ks = ksF hd Vs := ⟨_, rfl⟩
      rw [← eks] at hcp hcd
      have lk : ks.length ≤ 1000 := by
        have := ksF_len (hd := hd) (l := Vs)
        rw [← eks] at this
        omega
      refine ⟨[(cp, .dK (dct ks fun h => .ref (cd h)))], hcp, trivial, fun oc => ?_⟩
      generalize gg : upd H6 cp _ = H7
      have e7 : ∀ b o, H6 b = some o → b ≠ cp → H7 b = some o := fun b o hb hn => by rw [← gg, upd_ne hn]; exact hb
      have f7 : H7 cp = some (.frz oc (.dK (dct ks fun h => .ref (cd h)))) := by rw [← gg]; exact upd_same
      clear gg
      have s07 : Same H H7 := fun b o hb => e7 _ _ (q _ _ (s05 _ _ hb) (ncH hb)) (ncH hb)
      have hcd7 : ∀ h ∈ ks, H7 (cd h) = some (.lst ((rowH hd Vs h).map V.str)) := fun h hh => e7 _ _ (hcd h hh).1 (ne_of (hcd h hh).1 hcp (by intro z; cases z))
      refine ⟨_, rfl, cp, oc, _, rfl, f7, fun D2 nD2 => ?_⟩
      refine lc_it (walk_values (kvs := dct ks fun h => .ref (cd h))) (fun i Hc => ∃ rs : List Addr, Same H7 Hc ∧ Hc D2 = some (.lst (rs.map V.ref)) ∧ EachIs (fun r S => Hc r = some (.tup (S.map V.str))) rs ((ks.take i).map (rowH hd Vs)) ∧ rs.length = i) ⟨[], same_upd nD2, upd_same, .nil, rfl⟩ ?_ ?_ ?_
      · rintro i Hc hi ⟨rs, c1, _⟩
        exact c1 _ _ f7
      · rintro i x Hc Hc' hi ⟨rs, c1, c2, c3, c4⟩ ⟨rfl, kk, hk⟩
        rw [dct_len] at hi
        rw [dct_at, List.getElem?_eq_getElem hi] at hk
        cases hk
        have tk := takeS (List.getElem?_eq_getElem hi)
        refine ⟨rfl, tYes_if ?_⟩
        refine ⟨_, rfl, _, _, rfl, SqL.of (c1 _ _ (hcd7 _ (List.getElem_mem hi))), fun p8 n8 => ?_⟩
        generalize gg8 : upd _ p8 _ = G8; obtain ⟨s8, L8⟩ := new_eq n8 gg8; clear gg8
        have D8 := s8 _ _ c2
        refine ⟨_, D8, by rw [List.length_map]; omega, rs ++ [p8], fun b o hb => ?_, by rw [upd_same, List.map_append]; rfl, ?_, by rw [List.length_append, c4]; rfl⟩
        · rw [upd_ne (ne_of_none hb nD2)]
          exact s8 _ _ (c1 _ _ hb)
        · rw [tk, List.map_append]
          refine each_appC (c3.mono fun r S hr => ?_) (.cons ?_ .nil)
          · rw [upd_ne (ne_of (s8 _ _ hr) D8 (by intro z; cases z))]
            exact s8 _ _ hr
          · rw [upd_ne (ne_of L8 D8 (by intro z; cases z))]
            exact L8
      · rintro H8 ⟨rs, c1, c2, c3, c4⟩
        rw [dct_len, List.take_length] at c3
        refine k D2 rs hd m H8 (s07.trans c1) (np_of s07 nD2) c2 (by unfold clsF; rw [← eks]; exact c3) ⟨fun u hu v hv => ?_, at0, fun u hu v hv ne => ge u ((mem u).mpr hu) v ((mem v).mpr hv) ne⟩
        exact HOk.eq u ((mem u).mpr hu) v ((mem v).mpr hv)
end
end Wk
namespace Wk
open PySem PySem.Spec PyProof.Rows L2 WkD WkN LamX WkP WkE WkC
section
variable {P : Program} {w : World} {K : PySem.W.Frag} {mg : Str → Option Value} {base : Heap}
theorem sc_cores_m : FnScope ["self"] ["self"] (defScope s_Network_cores) := ⟨rfl, rfl, rfl, by decide +kernel, rfl, by decide +kernel, by decide +kernel⟩
theorem ok_cores_m {f : Addr} {fd : FuncData} (F : FnP K "cores" "Network.cores" s_Network_cores f fd) (CCO : Callee P w K mg base CX0 5 "cores_of" ["graph"] (spCores K)) : FnOk P w K mg base CX0 6 f fd ["self"] (spCores K) := by
  refine F.ok sc_cores_m (fun vs H Q E h => ?_) (fun cdv A outer s H vs Q E hr h => ?_)
  · obtain ⟨g, C, dx, fs, a, top, Vs, ad, nb, wt, rfl, _⟩ := h
    rfl
  have hr5 : Room 5 _ := hr
  refine ⟨_, PSs.nox (pss_one (ps_ret (pe_c CCO hr5 pass0 (pa_cons (pv 0) pa_nil)))), ?_⟩
  obtain ⟨g, C, dx, fs, a, top, Vs, ad, nb, wt, rfl, hh⟩ := h
  exact ⟨_, rfl, g, C, dx, fs, a, top, Vs, ad, nb, wt, rfl, hh⟩
end
end Wk
namespace Wk
open PySem PySem.Spec PyProof.Rows L2 WkD WkN LamX WkP WkE WkC
section
variable {P : Program} {w : World} {K : PySem.W.Frag} {mg : Str → Option Value} {base : Heap}
def spFound (C : Addr) : Sp := fun vs H Q _ => ∃ (x m e : Addr) (rest : List (Str × V)) (vs0 : List Str) (nb : Nb) (wt : Wt) (t : Str) (n r s : Int), vs = [.ref x] ∧ NetO H x C rest vs0 nb wt t n m e r s ∧ Q (.int n) H
theorem sc_pstrength : FnScope ["self"] ["self"] (defScope s_Network_strength) := ⟨rfl, rfl, rfl, by decide +kernel, rfl, by decide +kernel, by decide +kernel⟩
theorem ok_pstrength {f C : Addr} {fd : FuncData} (F : FnP K "strength" "Network.strength" s_Network_strength f fd) (fc : FCls K C) : FnOk P w K mg base CX0 1 f fd ["self"] (spFound C) := by
  refine F.ok sc_pstrength (fun vs H Q E h => ?_) (fun cdv A outer s H vs Q E hr h => ?_)
  · obtain ⟨x, m, e, rest, vs0, nb, wt, t, n, r, s, rfl, _⟩ := h
    rfl
  refine ⟨_, PSs.nox (pss_one (ps_ret (pe_fld (pv 0) rfl))), ?_⟩
  obtain ⟨x, m, e, rest, vs0, nb, wt, t, n, r, s, rfl, N, k⟩ := h
  obtain ⟨dx, p, ad, hx, rz⟩ := N.ex
  exact ⟨_, rfl, x, C, dx, _, _, rfl, hx, fc.cls, fc.nf, rfl, k⟩
end
end Wk
namespace WkP
open PySem WkN
def cutL (es : List Ed) (S : Sd) : Int := (es.map fun e => if S e.1 = S e.2.1 then 0 else e.2.2).sum
theorem cutL_nil {S : Sd} : cutL [] S = 0 := rfl
theorem cutL_cons {e : Ed} {es : List Ed} {S : Sd} : cutL (e :: es) S = (if S e.1 = S e.2.1 then 0 else e.2.2) + cutL es S := by
  unfold cutL
  rw [List.map_cons, List.sum_cons]
theorem cutL_app {es fs : List Ed} {S : Sd} : cutL (es ++ fs) S = cutL es S + cutL fs S := by
  unfold cutL
  rw [List.map_append, List.sum_append]
def Dis (es : List Ed) : Prop := (∀ e ∈ es, e.1 ≠ e.2.1) ∧ es.Pairwise fun e f => ¬ ((e.1 = f.1 ∧ e.2.1 = f.2.1) ∨ (e.1 = f.2.1 ∧ e.2.1 = f.1))
theorem Dis.perm {es fs : List Ed} (h : Dis es) (p : es.Perm fs) : Dis fs := by
  refine ⟨fun e he => h.1 e (p.mem_iff.mpr he), (p.pairwise_iff fun {a b} z y => z ?_).mp h.2⟩
  rcases y with ⟨h1, h2⟩ | ⟨h1, h2⟩
  · exact .inl ⟨h1.symm, h2.symm⟩
  · exact .inr ⟨h2.symm, h1.symm⟩
theorem Dis.tail {e : Ed} {es : List Ed} (h : Dis (e :: es)) : Dis es := ⟨fun f hf => h.1 f (List.mem_cons_of_mem _ hf), (List.pairwise_cons.mp h.2).2⟩
theorem Dis.head {e : Ed} {es : List Ed} (h : Dis (e :: es)) (m : Int) : ¬ Adj es e.1 e.2.1 m := fun z => by
  rcases z with z | z
  · exact (List.pairwise_cons.mp h.2).1 _ z (.inl ⟨rfl, rfl⟩)
  · exact (List.pairwise_cons.mp h.2).1 _ z (.inr ⟨rfl, rfl⟩)
theorem Dis.at_ {es : List Ed} : Dis es → ∀ {i : Nat} {a b : Str} {n : Int}, es[i]? = some (a, b, n) → a ≠ b ∧ ∀ m, ¬ Adj (es.take i) a b m := by
  induction es with
  | nil => intro _ i a b n h; cases i <;> cases h
  | cons e es ih =>
    intro h i a b n hi
    cases i with
    | zero =>
      cases hi
      refine ⟨h.1 _ List.mem_cons_self, fun m z => ?_⟩
      rcases z with z | z <;> cases z
    | succ i =>
      rw [List.getElem?_cons_succ] at hi
      obtain ⟨h1, h2⟩ := ih h.tail hi
      have hm : (a, b, n) ∈ es := List.mem_of_getElem? hi
      refine ⟨h1, fun m z => ?_⟩
      rw [List.take_succ_cons] at z
      have hh := (List.pairwise_cons.mp h.2).1 _ hm
      rcases z with z | z
      · rcases List.mem_cons.mp z with z | z
        · subst z
          exact hh (.inl ⟨rfl, rfl⟩)
        · exact h2 m (.inl z)
      · rcases List.mem_cons.mp z with z | z
        · subst z
          exact hh (.inr ⟨rfl, rfl⟩)
        · exact h2 m (.inr z)
def adjS (es : List Ed) (u v : Str) : Int := (es.map fun e => if (e.1 = u ∧ e.2.1 = v) ∨ (e.2.1 = u ∧ e.1 = v) then e.2.2 else 0).sum
theorem adjS_cons {e : Ed} {es : List Ed} {u v : Str} : adjS (e :: es) u v = (if (e.1 = u ∧ e.2.1 = v) ∨ (e.2.1 = u ∧ e.1 = v) then e.2.2 else 0) + adjS es u v := by
  unfold adjS
  rw [List.map_cons, List.sum_cons]
theorem adjS_none : ∀ {es : List Ed} {u v : Str}, (∀ n, ¬ Adj es u v n) → adjS es u v = 0
  | [], _, _, _ => rfl
  | (a, b, n) :: es, u, v, h => by
    rw [adjS_cons, adjS_none fun m z => h m (z.elim (fun z => .inl (List.mem_cons_of_mem _ z)) fun z => .inr (List.mem_cons_of_mem _ z)), if_neg]
    · rfl
    · rintro (⟨h1, h2⟩ | ⟨h1, h2⟩)
      · exact h n (.inl (by cases h1; cases h2; exact List.mem_cons_self))
      · exact h n (.inr (by cases h1; cases h2; exact List.mem_cons_self))
theorem adjS_some : ∀ {es : List Ed} {u v : Str} {n : Int}, Dis es → Adj es u v n → adjS es u v = n
  | [], _, _, _, _, z => by rcases z with z | z <;> cases z
  | (a, b, m) :: es, u, v, n, d, z => by
    rw [adjS_cons]
    by_cases c : (a = u ∧ b = v) ∨ (b = u ∧ a = v)
    · have e0 : adjS es u v = 0 := adjS_none fun k y => d.head k (by
        rcases c with ⟨h1, h2⟩ | ⟨h1, h2⟩
        · cases h1; cases h2; exact y
        · cases h1; cases h2; exact y.symm)
      rw [if_pos c, e0]
      have : m = n := by
        rcases z with z | z
        · rcases List.mem_cons.mp z with z | z
          · cases z; rfl
          · exfalso
            have y : Adj es u v n := .inl z
            rcases c with ⟨h1, h2⟩ | ⟨h1, h2⟩
            · cases h1; cases h2; exact d.head n y
            · cases h1; cases h2; exact d.head n y.symm
        · rcases List.mem_cons.mp z with z | z
          · cases z; rfl
          · exfalso
            have y : Adj es u v n := .inr z
            rcases c with ⟨h1, h2⟩ | ⟨h1, h2⟩
            · cases h1; cases h2; exact d.head n y
            · cases h1; cases h2; exact d.head n y.symm
      show m + 0 = n
      omega
    · rw [if_neg c]
      have : Adj es u v n := by
        rcases z with z | z
        · rcases List.mem_cons.mp z with z | z
          · cases z; exact absurd (.inl ⟨rfl, rfl⟩) c
          · exact .inl z
        · rcases List.mem_cons.mp z with z | z
          · cases z; exact absurd (.inr ⟨rfl, rfl⟩) c
          · exact .inr z
      rw [adjS_some d.tail this]
      omega
theorem adjS_vl {Vs : List Str} {es : List Ed} {nb : Nb} {wt : Wt} (ro : RowsOf Vs es nb wt) (d : Dis es) {u v : Str} (hu : u ∈ Vs) : vl0 nb wt u v = adjS es u v := by
  unfold vl0
  by_cases h : v ∈ nb u
  · rw [if_pos h]
    obtain ⟨n, hn⟩ := (ro.mem u hu v).mp h
    rw [ro.val u hu v n hn, adjS_some d hn]
  · rw [if_neg h, adjS_none fun n hn => h ((ro.mem u hu v).mpr ⟨n, hn⟩)]
theorem sm_pick {l : List Str} (nd : l.Nodup) {a : Str} (ha : a ∈ l) (f : Str → Int) : sm l (fun u => if u = a then f u else 0) = f a := by
  induction l with
  | nil => cases ha
  | cons x l ih =>
    obtain ⟨h1, h2⟩ := List.nodup_cons.mp nd
    rw [sm_cons]
    rcases List.mem_cons.mp ha with e | e
    · subst e
      rw [if_pos rfl, sm_zero fun y hy => if_neg fun (z : y = a) => h1 (z ▸ hy)]
      omega
    · rw [if_neg (fun (z : x = a) => h1 (z ▸ e)), ih h2 e]
      omega
theorem cutW_adj {Vs : List Str} (nV : Vs.Nodup) (S : Sd) : ∀ fs : List Ed, (∀ e ∈ fs, e.1 ∈ Vs ∧ e.2.1 ∈ Vs ∧ e.1 ≠ e.2.1) → cutW Vs (adjS fs) S = cutL fs S := by
  intro fs
  induction fs with
  | nil =>
    intro _
    unfold cutW
    refine sm_zero fun u _ => sm_zero fun v _ => ?_
    split <;> rfl
  | cons e fs ih =>
    intro h
    obtain ⟨a, b, n⟩ := e
    obtain ⟨ha, hb, hne⟩ := h _ List.mem_cons_self
    have ha : a ∈ Vs := ha
    have hb : b ∈ Vs := hb
    have hne : a ≠ b := hne
    rw [cutL_cons, ← ih fun e he => h e (List.mem_cons_of_mem _ he)]
    have key : cutW Vs (adjS ((a, b, n) :: fs)) S = sm Vs (fun u => if u = a then (if S a = true ∧ S b = false then n else 0) else 0) + sm Vs (fun u => if u = b then (if S b = true ∧ S a = false then n else 0) else 0) + cutW Vs (adjS fs) S := by
      unfold cutW
      rw [← sm_add, ← sm_add]
      refine sm_congr fun u hu => ?_
      have e2 : (if u = a then (if S a = true ∧ S b = false then n else 0) else 0) = sm Vs (fun v => if v = b then (if u = a ∧ S a = true ∧ S b = false then n else 0) else 0) := by
        rw [sm_pick nV hb fun _ => (if u = a ∧ S a = true ∧ S b = false then n else 0)]
        by_cases c : u = a <;> simp [c]
      have e3 : (if u = b then (if S b = true ∧ S a = false then n else 0) else 0) = sm Vs (fun v => if v = a then (if u = b ∧ S b = true ∧ S a = false then n else 0) else 0) := by
        rw [sm_pick nV ha fun _ => (if u = b ∧ S b = true ∧ S a = false then n else 0)]
        by_cases c : u = b <;> simp [c]
      rw [e2, e3, ← sm_add, ← sm_add]
      refine sm_congr fun v hv => ?_
      rw [adjS_cons]
      show (if S u = true ∧ S v = false then (if (a = u ∧ b = v) ∨ (b = u ∧ a = v) then n else 0) + adjS fs u v else 0) = _
      by_cases c1 : u = a
      · subst c1
        by_cases c2 : v = b
        · subst c2
          simp [hne, Ne.symm hne]
          cases S u <;> cases S v <;> simp
        · simp [hne, Ne.symm hne, c2, Ne.symm c2]
      · by_cases c2 : u = b
        · subst c2
          by_cases c3 : v = a
          · subst c3
            simp [hne, Ne.symm hne]
            cases S u <;> cases S v <;> simp
          · simp [hne, Ne.symm hne, c3, Ne.symm c3]
        · simp [c1, c2, Ne.symm c1, Ne.symm c2]
    rw [key, sm_pick nV ha fun _ => (if S a = true ∧ S b = false then n else 0), sm_pick nV hb fun _ => (if S b = true ∧ S a = false then n else 0)]
    show _ = (if S a = S b then 0 else n) + _
    cases S a <;> cases S b <;> simp
theorem cutW_list {Vs : List Str} {es : List Ed} {nb : Nb} {wt : Wt} (nV : Vs.Nodup) (ro : RowsOf Vs es nb wt) (d : Dis es) (hm : ∀ e ∈ es, e.1 ∈ Vs ∧ e.2.1 ∈ Vs) (S : Sd) : cutW Vs (vl0 nb wt) S = cutL es S := by
  have e1 : cutW Vs (vl0 nb wt) S = cutW Vs (adjS es) S := by
    unfold cutW
    refine sm_congr fun u hu => sm_congr fun v hv => ?_
    rw [adjS_vl ro d hu]
  rw [e1]
  clear e1 ro
  exact cutW_adj nV S es fun e he => ⟨(hm e he).1, (hm e he).2, d.1 e he⟩
theorem cut_bump {Vs : List Str} (nV : Vs.Nodup) {w w' : Wf} {u v : Str} (hu : u ∈ Vs) (hv : v ∈ Vs) (hne : u ≠ v) (h : ∀ x ∈ Vs, ∀ y ∈ Vs, w' x y = w x y + if (u = x ∧ v = y) ∨ (v = x ∧ u = y) then 1 else 0) (S : Sd) : cutW Vs w' S = cutW Vs w S + if S u = S v then 0 else 1 := by
  have e1 : cutL [(u, v, 1)] S = if S u = S v then 0 else 1 := by
    rw [cutL_cons, cutL_nil]
    show (if S u = S v then 0 else 1) + 0 = _
    omega
  rw [← e1, ← cutW_adj nV S [(u, v, 1)] fun e he => by
    rw [List.mem_singleton.mp he]
    exact ⟨hu, hv, hne⟩]
  unfold cutW
  rw [← sm_add]
  refine sm_congr fun x hx => ?_
  rw [← sm_add]
  refine sm_congr fun y hy => ?_
  rw [h x hx y hy]
  have e2 : adjS [(u, v, 1)] x y = if (u = x ∧ v = y) ∨ (v = x ∧ u = y) then 1 else 0 := by
    rw [adjS_cons]
    show (if (u = x ∧ v = y) ∨ (v = x ∧ u = y) then 1 else 0) + 0 = _
    split <;> rfl
  rw [e2]
  split <;> rfl
end WkP
namespace WkP
open PySem WkN
def sr (n : Nat) (f : Nat → Int) : Int := ((List.range n).map f).sum
theorem sr_succ {n : Nat} {f : Nat → Int} : sr (n + 1) f = sr n f + f n := by
  unfold sr
  rw [List.range_succ, List.map_append, List.sum_append]
  simp
theorem sr_congr : ∀ {n : Nat} {f g : Nat → Int}, (∀ i, i < n → f i = g i) → sr n f = sr n g
  | 0, _, _, _ => rfl
  | n + 1, f, g, h => by rw [sr_succ, sr_succ, sr_congr fun i hi => h i (by omega), h n (by omega)]
theorem sr_all0 : ∀ {n : Nat}, sr n (fun _ => 0) = 0
  | 0 => rfl
  | n + 1 => by rw [sr_succ, sr_all0]; rfl
theorem sr_nonneg : ∀ {n : Nat} {f : Nat → Int}, (∀ i, i < n → 0 ≤ f i) → 0 ≤ sr n f
  | 0, _, _ => Int.le_refl _
  | n + 1, f, h => by
    have := sr_nonneg (n := n) fun i hi => h i (by omega)
    have := h n (by omega)
    rw [sr_succ]
    omega
theorem sr_split (k : Nat) : ∀ {n : Nat} {f : Nat → Int}, k < n → sr n f = sr n (fun i => if i = k then 0 else f i) + f k
  | 0, _, h => absurd h (Nat.not_lt_zero _)
  | n + 1, f, h => by
    rw [sr_succ, sr_succ]
    by_cases e : n = k
    · subst e
      rw [if_pos rfl, sr_congr (g := f) (f := fun i => if i = n then 0 else f i) fun i hi => if_neg (by omega)]
      omega
    · rw [if_neg e, sr_split k (n := n) (by omega)]
      omega
theorem sr_one {n k : Nat} {f : Nat → Int} (h : ∀ i, i < n → 0 ≤ f i) (hk : k < n) : f k ≤ sr n f := by
  rw [sr_split k hk]
  have : 0 ≤ sr n (fun i => if i = k then 0 else f i) := sr_nonneg fun i hi => by
    split
    · exact Int.le_refl _
    · exact h i hi
  omega
theorem sr_two {n k l : Nat} {f : Nat → Int} (h : ∀ i, i < n → 0 ≤ f i) (hk : k < n) (hl : l < n) (ne : k ≠ l) : f k + f l ≤ sr n f := by
  rw [sr_split k hk]
  have h2 := sr_one (n := n) (k := l) (f := fun i => if i = k then 0 else f i) (fun i hi => by
    split
    · exact Int.le_refl _
    · exact h i hi) hl
  rw [if_neg (Ne.symm ne)] at h2
  omega
theorem sr_pick2 {n k l : Nat} {f : Nat → Int} (h : ∀ i, i < n → i ≠ k → i ≠ l → f i = 0) (hk : k < n) (hl : l < n) (ne : k ≠ l) : sr n f = f k + f l := by
  rw [sr_split k hk, sr_split l hl, if_neg (Ne.symm ne)]
  have : sr n (fun i => if i = l then 0 else if i = k then 0 else f i) = 0 := by
    have z : sr n (fun i => if i = l then 0 else if i = k then 0 else f i) = sr n fun _ => 0 := sr_congr fun i hi => by
      by_cases e1 : i = l
      · rw [if_pos e1]
      · rw [if_neg e1]
        by_cases e2 : i = k
        · rw [if_pos e2]
        · rw [if_neg e2, h i hi e2 e1]
    rw [z, sr_all0]
  omega
def prv (n k : Nat) : Nat := if k = 0 then n - 1 else k - 1
theorem seg_in {b : Nat → Bool} {i : Nat} : ∀ {j : Nat}, i < j → b i ≠ b j → ∃ k, i < k ∧ k ≤ j ∧ b (k - 1) ≠ b k
  | 0, h, _ => absurd h (Nat.not_lt_zero _)
  | j + 1, h, hb => by
    by_cases c : b j = b (j + 1)
    · have hij : i < j := by
        rcases Nat.lt_or_ge i j with z | z
        · exact z
        · have : i = j := by omega
          subst this
          exact absurd c hb
      obtain ⟨k, h1, h2, h3⟩ := seg_in (b := b) (j := j) hij (by rw [c]; exact hb)
      exact ⟨k, h1, by omega, h3⟩
    · exact ⟨j + 1, h, Nat.le_refl _, c⟩
theorem seg_eq {b : Nat → Bool} {i j : Nat} (hij : i ≤ j) (h : ∀ k, i < k → k ≤ j → b (k - 1) = b k) : b i = b j := by
  rcases Nat.eq_or_lt_of_le hij with e | e
  · rw [e]
  · exact Classical.byContradiction fun c => by
      obtain ⟨k, h1, h2, h3⟩ := seg_in e c
      exact h3 (h k h1 h2)
theorem seg_out {b : Nat → Bool} {n i j : Nat} (hij : i < j) (hj : j < n) (hb : b i ≠ b j) : ∃ k, k < n ∧ (k ≤ i ∨ j < k) ∧ b (prv n k) ≠ b k := by
  refine Classical.byContradiction fun c => hb ?_
  have all : ∀ k, k < n → (k ≤ i ∨ j < k) → b (prv n k) = b k := fun k h1 h2 => Classical.byContradiction fun z => c ⟨k, h1, h2, z⟩
  have e1 : b 0 = b i := seg_eq (Nat.zero_le _) fun k h1 h2 => by
    have := all k (by omega) (.inl h2)
    unfold prv at this
    rwa [if_neg (by omega)] at this
  have e2 : b j = b (n - 1) := seg_eq (by omega) fun k h1 h2 => by
    have := all k (by omega) (.inr h1)
    unfold prv at this
    rwa [if_neg (by omega)] at this
  have e3 := all 0 (by omega) (.inl (Nat.zero_le _))
  unfold prv at e3
  rw [if_pos rfl] at e3
  rw [← e1, e2, e3]
abbrev sE : Str := Str.ofString ""
def ringE (ns : List Str) (ws : List Int) : List Ed := (List.range ns.length).map fun k => (ns.getD (prv ns.length k) sE, ns.getD k sE, ws.getD k 0)
theorem ring_cut (ns : List Str) (ws : List Int) (S : Sd) : cutL (ringE ns ws) S = sr ns.length fun k => if S (ns.getD (prv ns.length k) sE) = S (ns.getD k sE) then 0 else ws.getD k 0 := by
  unfold cutL ringE sr
  rw [List.map_map]
  rfl
theorem nm_inj {ns : List Str} (nd : ns.Nodup) {i j : Nat} (hi : i < ns.length) (hj : j < ns.length) (e : ns.getD i sE = ns.getD j sE) : i = j := by
  rw [List.getD_eq_getElem?_getD, List.getD_eq_getElem?_getD, List.getElem?_eq_getElem hi, List.getElem?_eq_getElem hj] at e
  exact (List.getElem_inj nd).mp e
theorem nm_mem {ns : List Str} {i : Nat} (hi : i < ns.length) : ns.getD i sE ∈ ns := by
  rw [List.getD_eq_getElem?_getD, List.getElem?_eq_getElem hi]
  exact List.getElem_mem hi
def posS (ns : List Str) (p : Nat → Bool) : Sd := fun v => (List.range ns.length).any fun i => p i && decide (ns.getD i sE = v)
theorem posS_at {ns : List Str} (nd : ns.Nodup) {p : Nat → Bool} {i : Nat} (hi : i < ns.length) : posS ns p (ns.getD i sE) = p i := by
  rw [Bool.eq_iff_iff]
  unfold posS
  rw [List.any_eq_true]
  constructor
  · rintro ⟨j, hj, h⟩
    rw [Bool.and_eq_true, decide_eq_true_iff] at h
    rw [← nm_inj nd (List.mem_range.mp hj) hi h.2]
    exact h.1
  · intro h
    exact ⟨i, List.mem_range.mpr hi, by rw [h, Bool.true_and]; exact decide_eq_true rfl⟩
theorem prv_lt {n k : Nat} (h : k < n) : prv n k < n := by
  unfold prv
  split <;> omega
theorem ring_arc {ns : List Str} (nd : ns.Nodup) {ws : List Int} {k l : Nat} (hkl : k < l) (hl : l < ns.length) : cutL (ringE ns ws) (posS ns fun i => decide (k ≤ i) && decide (i < l)) = ws.getD k 0 + ws.getD l 0 := by
  rw [ring_cut]
  have e : ∀ i, i < ns.length → (if posS ns (fun i => decide (k ≤ i) && decide (i < l)) (ns.getD (prv ns.length i) sE) = posS ns (fun i => decide (k ≤ i) && decide (i < l)) (ns.getD i sE) then 0 else ws.getD i 0) = if i = k ∨ i = l then ws.getD i 0 else 0 := fun i hi => by
    rw [posS_at nd hi, posS_at nd (prv_lt hi)]
    by_cases c : i = k ∨ i = l
    · rw [if_pos c, if_neg]
      intro z
      rw [Bool.eq_iff_iff, Bool.and_eq_true, Bool.and_eq_true, decide_eq_true_iff, decide_eq_true_iff, decide_eq_true_iff, decide_eq_true_iff] at z
      unfold prv at z
      split at z <;> omega
    · rw [if_neg c, if_pos]
      rw [Bool.eq_iff_iff, Bool.and_eq_true, Bool.and_eq_true, decide_eq_true_iff, decide_eq_true_iff, decide_eq_true_iff, decide_eq_true_iff]
      unfold prv
      split <;> omega
  rw [sr_congr e, sr_pick2 (k := k) (l := l) (fun i _ h1 h2 => if_neg (by omega)) (by omega) hl (by omega), if_pos (.inl rfl), if_pos (.inr rfl)]
theorem ring_two {ns : List Str} {ws : List Int} (nn : ∀ i, i < ns.length → 0 ≤ ws.getD i 0) {S : Sd} {i j : Nat} (hij : i < j) (hj : j < ns.length) (hb : S (ns.getD i sE) ≠ S (ns.getD j sE)) :
    ∃ k l, i < k ∧ k ≤ j ∧ l < ns.length ∧ (l ≤ i ∨ j < l) ∧ ws.getD k 0 + ws.getD l 0 ≤ cutL (ringE ns ws) S ∧ S (ns.getD (prv ns.length k) sE) ≠ S (ns.getD k sE) ∧ S (ns.getD (prv ns.length l) sE) ≠ S (ns.getD l sE) := by
  obtain ⟨k, k1, k2, k3⟩ := seg_in (b := fun i => S (ns.getD i sE)) hij hb
  obtain ⟨l, l1, l2, l3⟩ := seg_out (b := fun i => S (ns.getD i sE)) hij hj hb
  refine ⟨k, l, k1, k2, l1, l2, ?_, ?_, l3⟩
  rotate_left
  · have ek : prv ns.length k = k - 1 := by
      unfold prv
      rw [if_neg (by omega)]
    rw [ek]
    exact k3
  have h := sr_two (n := ns.length) (k := k) (l := l) (f := fun k => if S (ns.getD (prv ns.length k) sE) = S (ns.getD k sE) then 0 else ws.getD k 0) (fun i hi => by
    show 0 ≤ if S (ns.getD (prv ns.length i) sE) = S (ns.getD i sE) then 0 else ws.getD i 0
    split
    · exact Int.le_refl _
    · exact nn i hi) (by omega) l1 (by omega)
  rw [ring_cut]
  have ek : prv ns.length k = k - 1 := by
    unfold prv
    rw [if_neg (by omega)]
  rw [if_neg (by rw [ek]; exact k3), if_neg l3] at h
  exact h
structure Low2 (ws : List Int) (k l : Nat) (a b : Int) : Prop where
  ne : k ≠ l
  hk : ws[k]? = some a
  hl : ws[l]? = some b
  le : a ≤ b
  lo : ∀ (i : Nat) (x : Int), ws[i]? = some x → a ≤ x ∧ (i ≠ k → b ≤ x)
theorem Low2.two {ws : List Int} {k l : Nat} {a b : Int} (h : Low2 ws k l a b) {i j : Nat} {x y : Int} (ne : i ≠ j) (hi : ws[i]? = some x) (hj : ws[j]? = some y) : a + b ≤ x + y := by
  have h1 := h.lo i x hi
  have h2 := h.lo j y hj
  by_cases c : i = k
  · have := h2.2 (by omega)
    omega
  · have := h1.2 c
    omega
theorem getD_at {ws : List Int} {i : Nat} (h : i < ws.length) : ws[i]? = some (ws.getD i 0) := by
  rw [List.getD_eq_getElem?_getD, List.getElem?_eq_getElem h]
  rfl
theorem ring_least {ns : List Str} (nd : ns.Nodup) {ws : List Int} (lw : ws.length = ns.length) (nn : ∀ i, i < ns.length → 0 ≤ ws.getD i 0) {k l : Nat} {a b : Int} (h : Low2 ws k l a b) :
    (∀ S : Sd, (∃ y ∈ ns, S y = true) → (∃ y ∈ ns, S y = false) → a + b ≤ cutL (ringE ns ws) S) ∧ ∃ S : Sd, (∃ y ∈ ns, S y = true) ∧ (∃ y ∈ ns, S y = false) ∧ cutL (ringE ns ws) S = a + b := by
  have hk := (List.getElem?_eq_some_iff.mp h.hk).1
  have hl := (List.getElem?_eq_some_iff.mp h.hl).1
  have ek : ws.getD k 0 = a := by rw [List.getD_eq_getElem?_getD, h.hk]; rfl
  have el : ws.getD l 0 = b := by rw [List.getD_eq_getElem?_getD, h.hl]; rfl
  constructor
  · rintro S ⟨y, hy, y1⟩ ⟨z, hz, z1⟩
    obtain ⟨i, hi, rfl⟩ := List.mem_iff_getElem.mp hy
    obtain ⟨j, hj, rfl⟩ := List.mem_iff_getElem.mp hz
    have gi : ns.getD i sE = ns[i] := by rw [List.getD_eq_getElem?_getD, List.getElem?_eq_getElem hi]; rfl
    have gj : ns.getD j sE = ns[j] := by rw [List.getD_eq_getElem?_getD, List.getElem?_eq_getElem hj]; rfl
    have key : ∀ i j, i < j → j < ns.length → S (ns.getD i sE) ≠ S (ns.getD j sE) → a + b ≤ cutL (ringE ns ws) S := fun i j hij hj hb => by
      obtain ⟨p, q, h1, h2, h3, h4, h5, _⟩ := ring_two nn hij hj hb
      have := h.two (i := p) (j := q) (by omega) (getD_at (by omega)) (getD_at (by omega))
      omega
    rcases Nat.lt_trichotomy i j with c | c | c
    · exact key i j c hj (by rw [gi, gj, y1, z1]; decide)
    · subst c
      rw [y1] at z1
      cases z1
    · exact key j i c hi (by rw [gi, gj, y1, z1]; decide)
  · have mk : ∀ k l, k < l → l < ns.length → ∃ S : Sd, (∃ y ∈ ns, S y = true) ∧ (∃ y ∈ ns, S y = false) ∧ cutL (ringE ns ws) S = ws.getD k 0 + ws.getD l 0 := fun k l hkl hl => by
      refine ⟨_, ⟨ns.getD k sE, nm_mem (by omega), ?_⟩, ⟨ns.getD l sE, nm_mem hl, ?_⟩, ring_arc nd hkl hl⟩
      · rw [posS_at nd (by omega)]
        simp [hkl]
      · rw [posS_at nd hl]
        simp
    rcases Nat.lt_or_ge k l with c | c
    · have := mk k l c (by omega)
      rwa [ek, el] at this
    · have := mk l k (by have := h.ne; omega) (by omega)
      rw [ek, el] at this
      obtain ⟨S, h1, h2, h3⟩ := this
      exact ⟨S, h1, h2, by omega⟩
def MinOf (l : List Int) (x : Int) : Prop := x ∈ l ∧ ∀ y ∈ l, x ≤ y
theorem ring_pair {ns : List Str} (nd : ns.Nodup) {ws : List Int} (lw : ws.length = ns.length) (nn : ∀ i, i < ns.length → 0 ≤ ws.getD i 0) {i j : Nat} (hij : i < j) (hj : j < ns.length) {x y : Int} (hx : MinOf ((ws.take (j + 1)).drop (i + 1)) x) (hy : MinOf (ws.take (i + 1) ++ ws.drop (j + 1)) y) :
    (∀ S : Sd, S (ns.getD i sE) ≠ S (ns.getD j sE) → x + y ≤ cutL (ringE ns ws) S) ∧ ∃ S : Sd, S (ns.getD i sE) ≠ S (ns.getD j sE) ∧ cutL (ringE ns ws) S = x + y := by
  have inA : ∀ k, i < k → k ≤ j → ws.getD k 0 ∈ (ws.take (j + 1)).drop (i + 1) := fun k h1 h2 => by
    refine List.mem_of_getElem? (i := k - (i + 1)) ?_
    rw [List.getElem?_drop, List.getElem?_take, if_pos (by omega), show i + 1 + (k - (i + 1)) = k by omega]
    exact getD_at (by omega)
  have inB : ∀ k, k < ns.length → (k ≤ i ∨ j < k) → ws.getD k 0 ∈ ws.take (i + 1) ++ ws.drop (j + 1) := fun k h1 h2 => by
    rcases h2 with h2 | h2
    · refine List.mem_append_left _ (List.mem_of_getElem? (i := k) ?_)
      rw [List.getElem?_take, if_pos (by omega)]
      exact getD_at (by omega)
    · refine List.mem_append_right _ (List.mem_of_getElem? (i := k - (j + 1)) ?_)
      rw [List.getElem?_drop, show j + 1 + (k - (j + 1)) = k by omega]
      exact getD_at (by omega)
  constructor
  · intro S hb
    obtain ⟨k, l, h1, h2, h3, h4, h5, _⟩ := ring_two nn hij hj hb
    have := hx.2 _ (inA k h1 h2)
    have := hy.2 _ (inB l h3 h4)
    omega
  · obtain ⟨k, hk1, hk2, ek⟩ : ∃ k, i < k ∧ k ≤ j ∧ ws.getD k 0 = x := by
      obtain ⟨q, hq⟩ := List.mem_iff_getElem?.mp hx.1
      rw [List.getElem?_drop, List.getElem?_take] at hq
      split at hq
      · exact ⟨i + 1 + q, by omega, by omega, by rw [List.getD_eq_getElem?_getD, hq]; rfl⟩
      · cases hq
    obtain ⟨l, hl1, hl2, el⟩ : ∃ l, l < ns.length ∧ (l ≤ i ∨ j < l) ∧ ws.getD l 0 = y := by
      rcases List.mem_append.mp hy.1 with z | z
      · obtain ⟨q, hq⟩ := List.mem_iff_getElem?.mp z
        rw [List.getElem?_take] at hq
        split at hq
        · exact ⟨q, by have := (List.getElem?_eq_some_iff.mp hq).1; omega, .inl (by omega), by rw [List.getD_eq_getElem?_getD, hq]; rfl⟩
        · cases hq
      · obtain ⟨q, hq⟩ := List.mem_iff_getElem?.mp z
        rw [List.getElem?_drop] at hq
        exact ⟨j + 1 + q, by have := (List.getElem?_eq_some_iff.mp hq).1; omega, .inr (by omega), by rw [List.getD_eq_getElem?_getD, hq]; rfl⟩
    rcases Nat.lt_or_ge k l with c | c
    · refine ⟨_, ?_, by rw [ring_arc nd c hl1, ek, el]⟩
      rw [posS_at nd (by omega), posS_at nd hj]
      have h1 : decide (k ≤ i) = false := decide_eq_false (by omega)
      have h2 : decide (k ≤ j) = true := decide_eq_true hk2
      have h3 : decide (j < l) = true := decide_eq_true (by omega)
      rw [h1, h2, h3, Bool.false_and]
      decide
    · have hlk : l < k := by omega
      refine ⟨_, ?_, by rw [ring_arc nd hlk (by omega), ek, el]; omega⟩
      rw [posS_at nd (by omega), posS_at nd hj]
      have h1 : decide (l ≤ i) = true := decide_eq_true (by omega)
      have h2 : decide (i < k) = true := decide_eq_true hk1
      have h3 : decide (j < k) = false := decide_eq_false (by omega)
      rw [h1, h2, h3, Bool.and_false]
      decide
end WkP
namespace WkP
open PySem WkN
theorem erase_at {l : List Int} {k s : Nat} {x : Int} (h : (l.eraseIdx k)[s]? = some x) : ∃ t, t ≠ k ∧ l[t]? = some x ∧ (t = if s < k then s else s + 1) := by
  rw [List.getElem?_eraseIdx] at h
  split at h
  · exact ⟨s, by omega, h, by rw [if_pos (by assumption)]⟩
  · exact ⟨s + 1, by omega, h, by rw [if_neg (by assumption)]⟩
theorem mem_erase {l : List Int} {k i : Nat} {x : Int} (h : l[i]? = some x) (ne : i ≠ k) : x ∈ l.eraseIdx k := by
  rcases Nat.lt_or_ge i k with c | c
  · refine List.mem_of_getElem? (i := i) ?_
    rw [List.getElem?_eraseIdx, if_pos c]
    exact h
  · refine List.mem_of_getElem? (i := i - 1) ?_
    rw [List.getElem?_eraseIdx, if_neg (by omega), show i - 1 + 1 = i by omega]
    exact h
theorem perm_erase : ∀ {l : List Int} {k : Nat} {x : Int}, l[k]? = some x → (x :: l.eraseIdx k).Perm l
  | [], k, x, h => by cases k <;> cases h
  | y :: l, 0, x, h => by
    cases h
    exact .refl _
  | y :: l, k + 1, x, h => by
    rw [List.getElem?_cons_succ] at h
    rw [List.eraseIdx_cons_succ]
    exact (List.Perm.swap _ _ _).trans (.cons _ (perm_erase h))
theorem low2_of {ws r : List Int} {a b : Int} (p : ws.Perm (a :: b :: r)) (so : (a :: b :: r).Pairwise (· ≤ ·)) : ∃ k l, Low2 ws k l a b := by
  obtain ⟨k, hk⟩ := List.mem_iff_getElem?.mp (p.mem_iff.mpr (List.mem_cons_self (a := a)))
  have pe : (ws.eraseIdx k).Perm (b :: r) := ((perm_erase hk).trans p).cons_inv
  obtain ⟨s, hs⟩ := List.mem_iff_getElem?.mp (pe.mem_iff.mpr (List.mem_cons_self (a := b)))
  obtain ⟨l, ne, hl, _⟩ := erase_at hs
  have s1 := List.pairwise_cons.mp so
  have s2 := List.pairwise_cons.mp s1.2
  refine ⟨k, l, Ne.symm ne, hk, hl, s1.1 b List.mem_cons_self, fun i x hi => ⟨?_, fun hne => ?_⟩⟩
  · rcases List.mem_cons.mp (p.mem_iff.mp (List.mem_of_getElem? hi)) with e | e
    · omega
    · exact s1.1 x e
  · rcases List.mem_cons.mp (pe.mem_iff.mp (mem_erase hi hne)) with e | e
    · omega
    · exact s2.1 x e
theorem count_erase {l : List Int} {k : Nat} {x : Int} (h : l[k]? = some x) : l.count x = (l.eraseIdx k).count x + 1 := by
  rw [← (perm_erase h).count_eq, List.count_cons_self]
theorem other_one {l : List Int} {k : Nat} {x : Int} (h : l[k]? = some x) : (∃ j, j ≠ k ∧ l[j]? = some x) ↔ 2 ≤ l.count x := by
  rw [count_erase h]
  constructor
  · rintro ⟨j, h1, h2⟩
    have := List.count_pos_iff.mpr (mem_erase h2 h1)
    omega
  · intro h1
    obtain ⟨s, hs⟩ := List.mem_iff_getElem?.mp (List.count_pos_iff.mp (show 0 < (l.eraseIdx k).count x by omega))
    obtain ⟨t, h2, h3, _⟩ := erase_at hs
    exact ⟨t, h2, h3⟩
theorem other_two {l : List Int} {k : Nat} {x : Int} (h : l[k]? = some x) : (∃ i j, i ≠ j ∧ i ≠ k ∧ j ≠ k ∧ l[i]? = some x ∧ l[j]? = some x) ↔ 3 ≤ l.count x := by
  rw [count_erase h]
  constructor
  · rintro ⟨i, j, h1, h2, h3, h4, h5⟩
    obtain ⟨s, hs⟩ : ∃ s, (l.eraseIdx k)[s]? = some x ∧ i = if s < k then s else s + 1 := by
      rcases Nat.lt_or_ge i k with c | c
      · exact ⟨i, by rw [List.getElem?_eraseIdx, if_pos c]; exact h4, by rw [if_pos c]⟩
      · exact ⟨i - 1, by rw [List.getElem?_eraseIdx, if_neg (by omega), show i - 1 + 1 = i by omega]; exact h4, by rw [if_neg (by omega)]; omega⟩
    obtain ⟨t, ht⟩ : ∃ s, (l.eraseIdx k)[s]? = some x ∧ j = if s < k then s else s + 1 := by
      rcases Nat.lt_or_ge j k with c | c
      · exact ⟨j, by rw [List.getElem?_eraseIdx, if_pos c]; exact h5, by rw [if_pos c]⟩
      · exact ⟨j - 1, by rw [List.getElem?_eraseIdx, if_neg (by omega), show j - 1 + 1 = j by omega]; exact h5, by rw [if_neg (by omega)]; omega⟩
    have := (other_one hs.1).mp ⟨t, fun e => h1 (by rw [hs.2, ht.2, e]), ht.1⟩
    omega
  · intro h1
    obtain ⟨s, hs⟩ := List.mem_iff_getElem?.mp (List.count_pos_iff.mp (show 0 < (l.eraseIdx k).count x by omega))
    obtain ⟨t, h2, h3⟩ := (other_one hs).mpr (by omega)
    obtain ⟨i, i1, i2, i3⟩ := erase_at hs
    obtain ⟨j, j1, j2, j3⟩ := erase_at h3
    exact ⟨i, j, fun e => by
      rw [i3, j3] at e
      split at e <;> split at e <;> omega, i1, j1, i2, j2⟩
def Free2 (ws : List Int) (k : Nat) (m : Int) : Prop := ∃ i j x y, i ≠ j ∧ i ≠ k ∧ j ≠ k ∧ ws[i]? = some x ∧ ws[j]? = some y ∧ x + y = m
def wordAll (ws : List Int) (a b wk : Int) : Prop := if a = b then ws.count wk = 2 else wk = a ∨ ws.count wk = 1
theorem free_iff {ws : List Int} {p q k : Nat} {a b wk : Int} (h : Low2 ws p q a b) (hk : ws[k]? = some wk) (hle : wk ≤ b) : Free2 ws k (a + b) ↔ ¬ wordAll ws a b wk := by
  unfold wordAll
  by_cases e : a = b
  · rw [if_pos e]
    have ek : wk = a := by
      have := (h.lo k wk hk).1
      omega
    have two : 2 ≤ ws.count wk := (other_one hk).mp (by
      by_cases c : k = p
      · exact ⟨q, by have := h.ne; omega, by rw [h.hl, ek, e]⟩
      · exact ⟨p, Ne.symm c, by rw [h.hk, ek]⟩)
    constructor
    · rintro ⟨i, j, x, y, h1, h2, h3, h4, h5, h6⟩
      have i1 := (h.lo i x h4).1
      have j1 := (h.lo j y h5).1
      have := (other_two hk).mp ⟨i, j, h1, h2, h3, by rw [h4]; congr 1; omega, by rw [h5]; congr 1; omega⟩
      omega
    · intro hn
      obtain ⟨i, j, h1, h2, h3, h4, h5⟩ := (other_two hk).mpr (by omega)
      exact ⟨i, j, wk, wk, h1, h2, h3, h4, h5, by omega⟩
  · rw [if_neg e]
    have lt : a < b := by have := h.le; omega
    by_cases c : wk = a
    · have kp : k = p := Classical.byContradiction fun z => by
        have := (h.lo k wk hk).2 z
        omega
      constructor
      · rintro ⟨i, j, x, y, h1, h2, h3, h4, h5, h6⟩
        have := (h.lo i x h4).2 (by omega)
        have := (h.lo j y h5).2 (by omega)
        omega
      · intro hn
        exact absurd (.inl c) hn
    · have kp : k ≠ p := fun z => c (by
        rw [z, h.hk] at hk
        exact (Option.some.inj hk).symm)
      have ek : wk = b := by
        have := (h.lo k wk hk).2 kp
        omega
      have one : 1 ≤ ws.count wk := List.count_pos_iff.mpr (List.mem_of_getElem? hk)
      constructor
      · rintro ⟨i, j, x, y, h1, h2, h3, h4, h5, h6⟩ hw
        have hc : ws.count wk = 1 := hw.resolve_left c
        have key : ∀ i j x y, i ≠ j → i ≠ k → j ≠ k → ws[i]? = some x → ws[j]? = some y → x + y = a + b → i = p → False := fun i j x y h1 h2 h3 h4 h5 h6 h7 => by
          have hx : x = a := by
            rw [h7, h.hk] at h4
            exact (Option.some.inj h4).symm
          have := (other_one hk).mp ⟨j, h3, by rw [h5]; congr 1; omega⟩
          omega
        by_cases ci : i = p
        · exact key i j x y h1 h2 h3 h4 h5 h6 ci
        · by_cases cj : j = p
          · exact key j i y x (Ne.symm h1) h3 h2 h5 h4 (by omega) cj
          · have := (h.lo i x h4).2 ci
            have := (h.lo j y h5).2 cj
            omega
      · intro hn
        obtain ⟨j, h1, h2⟩ := (other_one hk).mpr (show 2 ≤ ws.count wk by
          have : ws.count wk ≠ 1 := fun z => hn (.inr z)
          omega)
        refine ⟨p, j, a, wk, fun z => ?_, Ne.symm kp, h1, h.hk, h2, by omega⟩
        rw [← z, h.hk] at h2
        exact c (Option.some.inj h2).symm
theorem ring_raised {ns : List Str} (nd : ns.Nodup) {ws : List Int} (lw : ws.length = ns.length) (nn : ∀ i, i < ns.length → 0 ≤ ws.getD i 0) {p q k : Nat} {a b m : Int} (h : Low2 ws p q a b) (hk : k < ns.length)
    (m1 : ∀ S : Sd, (∃ y ∈ ns, S y = true) → (∃ y ∈ ns, S y = false) → m ≤ cutL (ringE ns ws) S + if S (ns.getD (prv ns.length k) sE) = S (ns.getD k sE) then 0 else 1)
    (m2 : ∃ S : Sd, (∃ y ∈ ns, S y = true) ∧ (∃ y ∈ ns, S y = false) ∧ (cutL (ringE ns ws) S + if S (ns.getD (prv ns.length k) sE) = S (ns.getD k sE) then 0 else 1) = m) : a + b < m ↔ ¬ Free2 ws k (a + b) := by
  constructor
  · rintro hm ⟨i, j, x, y, h1, h2, h3, h4, h5, h6⟩
    have li := (List.getElem?_eq_some_iff.mp h4).1
    have lj := (List.getElem?_eq_some_iff.mp h5).1
    have xi : ws.getD i 0 = x := by rw [List.getD_eq_getElem?_getD, h4]; rfl
    have yj : ws.getD j 0 = y := by rw [List.getD_eq_getElem?_getD, h5]; rfl
    have key : ∀ i j, i < j → j < ns.length → i ≠ k → j ≠ k → ws.getD i 0 + ws.getD j 0 = a + b → False := fun i j hij hj hik hjk hs => by
      have := m1 (posS ns fun t => decide (i ≤ t) && decide (t < j)) ⟨ns.getD i sE, nm_mem (by omega), by rw [posS_at nd (by omega)]; simp [hij]⟩ ⟨ns.getD j sE, nm_mem hj, by rw [posS_at nd hj]; simp⟩
      rw [ring_arc nd hij hj, if_pos] at this
      · omega
      · rw [posS_at nd hk, posS_at nd (prv_lt hk), Bool.eq_iff_iff, Bool.and_eq_true, Bool.and_eq_true, decide_eq_true_iff, decide_eq_true_iff, decide_eq_true_iff, decide_eq_true_iff]
        unfold prv
        split <;> omega
    rcases Nat.lt_or_ge i j with c | c
    · exact key i j c (by omega) h2 h3 (by omega)
    · exact key j i (by omega) (by omega) h3 h2 (by omega)
  · intro hn
    obtain ⟨S, ⟨y, hy, y1⟩, ⟨z, hz, z1⟩, e⟩ := m2
    obtain ⟨i, hi, rfl⟩ := List.mem_iff_getElem.mp hy
    obtain ⟨j, hj, rfl⟩ := List.mem_iff_getElem.mp hz
    have gi : ns.getD i sE = ns[i] := by rw [List.getD_eq_getElem?_getD, List.getElem?_eq_getElem hi]; rfl
    have gj : ns.getD j sE = ns[j] := by rw [List.getD_eq_getElem?_getD, List.getElem?_eq_getElem hj]; rfl
    have key : ∀ i j, i < j → j < ns.length → S (ns.getD i sE) ≠ S (ns.getD j sE) → a + b < m := fun i j hij hj hb => by
      obtain ⟨s, t, h1, h2, h3, h4, h5, h6, h7⟩ := ring_two nn hij hj hb
      have two := h.two (i := s) (j := t) (by omega) (getD_at (by omega)) (getD_at (by omega))
      by_cases ck : S (ns.getD (prv ns.length k) sE) = S (ns.getD k sE)
      · rw [if_pos ck] at e
        have sk : s ≠ k := fun z => h6 (z ▸ ck)
        have tk : t ≠ k := fun z => h7 (z ▸ ck)
        have : ws.getD s 0 + ws.getD t 0 ≠ a + b := fun z => hn ⟨s, t, _, _, by omega, sk, tk, getD_at (by omega), getD_at (by omega), z⟩
        omega
      · rw [if_neg ck] at e
        omega
    rcases Nat.lt_trichotomy i j with c | c | c
    · exact key i j c hj (by rw [gi, gj, y1, z1]; decide)
    · subst c
      rw [y1] at z1
      cases z1
    · exact key j i c hi (by rw [gi, gj, y1, z1]; decide)
def edgeL (p k : Nat) (a b wk : Int) : Int := wk + if k = p then b else a
theorem ring_edge {ns : List Str} (nd : ns.Nodup) {ws : List Int} (lw : ws.length = ns.length) (nn : ∀ i, i < ns.length → 0 ≤ ws.getD i 0) (l3 : 3 ≤ ns.length) {p q k : Nat} {a b : Int} (h : Low2 ws p q a b) (hk : k < ns.length) :
    (∀ S : Sd, S (ns.getD (prv ns.length k) sE) ≠ S (ns.getD k sE) → edgeL p k a b (ws.getD k 0) ≤ cutL (ringE ns ws) S) ∧ ∃ S : Sd, S (ns.getD (prv ns.length k) sE) ≠ S (ns.getD k sE) ∧ cutL (ringE ns ws) S = edgeL p k a b (ws.getD k 0) := by
  have lo : ∀ l, l < ns.length → l ≠ k → (if k = p then b else a) ≤ ws.getD l 0 := fun l hl ne => by
    have := h.lo l _ (getD_at (show l < ws.length by omega))
    split
    · exact this.2 (by omega)
    · exact this.1
  constructor
  · intro S hS
    unfold edgeL
    by_cases c : k = 0
    · subst c
      have hS : S (ns.getD (ns.length - 1) sE) ≠ S (ns.getD 0 sE) := hS
      obtain ⟨s, t, h1, h2, h3, h4, h5, _⟩ := ring_two nn (S := S) (i := 0) (j := ns.length - 1) (by omega) (by omega) (Ne.symm hS)
      have et : t = 0 := by omega
      subst et
      have := lo s (by omega) (by omega)
      omega
    · have ep : prv ns.length k = k - 1 := by
        unfold prv
        rw [if_neg c]
      rw [ep] at hS
      obtain ⟨s, t, h1, h2, h3, h4, h5, _⟩ := ring_two nn (S := S) (i := k - 1) (j := k) (by omega) hk hS
      have es : s = k := by omega
      subst es
      have := lo t h3 (by omega)
      omega
  · obtain ⟨l, hl, ne, el⟩ : ∃ l, l < ns.length ∧ l ≠ k ∧ ws.getD l 0 = if k = p then b else a := by
      by_cases c : k = p
      · exact ⟨q, by have := (List.getElem?_eq_some_iff.mp h.hl).1; omega, by rw [c]; exact Ne.symm h.ne, by rw [if_pos c, List.getD_eq_getElem?_getD, h.hl]; rfl⟩
      · exact ⟨p, by have := (List.getElem?_eq_some_iff.mp h.hk).1; omega, Ne.symm c, by rw [if_neg c, List.getD_eq_getElem?_getD, h.hk]; rfl⟩
    unfold edgeL
    rw [← el]
    rcases Nat.lt_or_ge k l with c | c
    · refine ⟨_, ?_, ring_arc nd c hl⟩
      rw [posS_at nd (prv_lt hk), posS_at nd hk]
      intro z
      rw [Bool.eq_iff_iff, Bool.and_eq_true, Bool.and_eq_true, decide_eq_true_iff, decide_eq_true_iff, decide_eq_true_iff, decide_eq_true_iff] at z
      unfold prv at z
      split at z <;> omega
    · have c : l < k := by omega
      refine ⟨_, ?_, (ring_arc nd c hk).trans (Int.add_comm _ _)⟩
      rw [posS_at nd (prv_lt hk), posS_at nd hk]
      intro z
      rw [Bool.eq_iff_iff, Bool.and_eq_true, Bool.and_eq_true, decide_eq_true_iff, decide_eq_true_iff, decide_eq_true_iff, decide_eq_true_iff] at z
      unfold prv at z
      split at z <;> omega
theorem edge_none {ws : List Int} {p q k : Nat} {a b wk : Int} (h : Low2 ws p q a b) (hk : ws[k]? = some wk) : a + b < edgeL p k a b wk ↔ b < wk := by
  unfold edgeL
  have := h.le
  by_cases c : k = p
  · rw [if_pos c]
    rw [c, h.hk] at hk
    have := Option.some.inj hk
    omega
  · rw [if_neg c]
    omega
end WkP
namespace WkP
open PySem WkN
def pairsE : List Str → Int → List Ed
  | [], _ => []
  | x :: xs, w => xs.map (fun y => (x, y, w)) ++ pairsE xs w
def cntT (S : Sd) (l : List Str) : Nat := (l.filter fun v => S v).length
def cntF (S : Sd) (l : List Str) : Nat := (l.filter fun v => !S v).length
theorem cnt_all (S : Sd) : ∀ l : List Str, cntT S l + cntF S l = l.length
  | [] => rfl
  | x :: l => by
    have := cnt_all S l
    unfold cntT cntF at this ⊢
    cases h : S x <;> simp [List.filter_cons, h] <;> omega
theorem cut_spokes {S : Sd} {x : Str} {w : Int} : ∀ l : List Str, cutL (l.map fun y => (x, y, w)) S = w * (if S x = true then (cntF S l : Int) else (cntT S l : Int))
  | [] => by
    unfold cntF cntT
    simp [cutL]
  | y :: l => by
    rw [List.map_cons, cutL_cons, cut_spokes l]
    unfold cntF cntT
    cases hx : S x <;> cases hy : S y <;> simp [List.filter_cons, hy, hx, Int.mul_add] <;> omega
theorem pairs_cut (S : Sd) (w : Int) : ∀ l : List Str, cutL (pairsE l w) S = w * ((cntT S l : Int) * (cntF S l : Int))
  | [] => by
    unfold pairsE cntT cntF
    simp [cutL]
  | x :: l => by
    unfold pairsE
    rw [cutL_app, pairs_cut S w l, cut_spokes, ← Int.mul_add]
    congr 1
    unfold cntF cntT
    cases hx : S x
    · simp [List.filter_cons, hx, Int.mul_add]
      omega
    · simp [List.filter_cons, hx, Int.add_mul]
      omega
theorem cnt_pos {S : Sd} {l : List Str} {y : Str} (hy : y ∈ l) (h : S y = true) : 1 ≤ cntT S l := by
  unfold cntT
  exact List.length_pos_iff.mpr (List.ne_nil_of_mem (List.mem_filter.mpr ⟨hy, h⟩))
theorem cntF_pos {S : Sd} {l : List Str} {y : Str} (hy : y ∈ l) (h : S y = false) : 1 ≤ cntF S l := by
  unfold cntF
  exact List.length_pos_iff.mpr (List.ne_nil_of_mem (List.mem_filter.mpr ⟨hy, by rw [h]; rfl⟩))
theorem prod_ge {t f : Nat} (ht : 1 ≤ t) (hf : 1 ≤ f) : ((t + f - 1 : Nat) : Int) ≤ (t : Int) * (f : Int) := by
  obtain ⟨a, rfl⟩ : ∃ a, t = a + 1 := ⟨t - 1, by omega⟩
  obtain ⟨b, rfl⟩ : ∃ b, f = b + 1 := ⟨f - 1, by omega⟩
  have h : a + 1 + (b + 1) - 1 ≤ (a + 1) * (b + 1) := by
    rw [Nat.add_mul, Nat.mul_add]
    have := Nat.zero_le (a * b)
    omega
  rw [← Int.natCast_mul]
  exact Int.ofNat_le.mpr h
theorem complete_ge {l : List Str} {w : Int} (hw : 0 ≤ w) {S : Sd} (h1 : ∃ y ∈ l, S y = true) (h2 : ∃ y ∈ l, S y = false) : w * ((l.length : Int) - 1) ≤ cutL (pairsE l w) S := by
  obtain ⟨y, hy, y1⟩ := h1
  obtain ⟨z, hz, z1⟩ := h2
  rw [pairs_cut]
  refine Int.mul_le_mul_of_nonneg_left ?_ hw
  have a := cnt_pos hy y1
  have b := cntF_pos hz z1
  have c := cnt_all S l
  have d := prod_ge a b
  omega
def oneS (u : Str) : Sd := fun v => decide (v = u)
theorem one_cnt {l : List Str} (nd : l.Nodup) {u : Str} (hu : u ∈ l) : cntT (oneS u) l = 1 := by
  unfold cntT oneS
  induction l with
  | nil => cases hu
  | cons x l ih =>
    obtain ⟨h1, h2⟩ := List.nodup_cons.mp nd
    rw [List.filter_cons]
    by_cases e : x = u
    · subst e
      rw [if_pos (decide_eq_true rfl), List.filter_eq_nil_iff.mpr fun y hy => by
        rw [decide_eq_true_iff]
        intro (z : y = x)
        exact h1 (z ▸ hy)]
      rfl
    · rw [if_neg (by simpa using e)]
      exact ih h2 ((List.mem_cons.mp hu).resolve_left (Ne.symm e))
theorem complete_one {l : List Str} (nd : l.Nodup) {w : Int} {u : Str} (hu : u ∈ l) : cutL (pairsE l w) (oneS u) = w * ((l.length : Int) - 1) := by
  rw [pairs_cut]
  have a := one_cnt nd hu
  have b := cnt_all (oneS u) l
  rw [a] at b ⊢
  congr 1
  omega
def starE (c : Str) (g : Str → Int) (ls : List Str) : List Ed := ls.map fun x => (x, c, g x)
theorem star_ge {c : Str} {g : Str → Int} {S : Sd} : ∀ {ls : List Str}, (∀ x ∈ ls, 0 ≤ g x) → ∀ {x : Str}, x ∈ ls → S x ≠ S c → g x ≤ cutL (starE c g ls) S
  | [], _, _, h, _ => by cases h
  | y :: ls, nn, x, hx, hs => by
    have rest : 0 ≤ cutL (starE c g ls) S := by
      unfold cutL starE
      rw [List.map_map]
      have : ∀ ks : List Str, (∀ x ∈ ks, 0 ≤ g x) → 0 ≤ (ks.map ((fun e : Ed => if S e.1 = S e.2.1 then 0 else e.2.2) ∘ fun x => (x, c, g x))).sum := by
        intro ks hk
        induction ks with
        | nil => exact Int.le_refl _
        | cons z ks ih =>
          rw [List.map_cons, List.sum_cons]
          have h1 := ih fun x hx => hk x (List.mem_cons_of_mem _ hx)
          have h2 := hk z List.mem_cons_self
          show 0 ≤ (if S z = S c then 0 else g z) + _
          split <;> omega
      exact this ls fun x hx => nn x (List.mem_cons_of_mem _ hx)
    show _ ≤ cutL ((y, c, g y) :: starE c g ls) S
    rw [cutL_cons]
    rcases List.mem_cons.mp hx with e | e
    · subst e
      rw [if_neg hs]
      show g x ≤ g x + _
      omega
    · have h1 := star_ge (fun x hx => nn x (List.mem_cons_of_mem _ hx)) e hs
      have h2 := nn y List.mem_cons_self
      show _ ≤ (if S y = S c then 0 else g y) + _
      split <;> omega
theorem star_one {c : Str} {g : Str → Int} {u : Str} (hc : u ≠ c) : ∀ {ls : List Str}, ls.Nodup → u ∈ ls → cutL (starE c g ls) (oneS u) = g u
  | [], _, h => by cases h
  | y :: ls, nd, h => by
    obtain ⟨h1, h2⟩ := List.nodup_cons.mp nd
    show cutL ((y, c, g y) :: starE c g ls) (oneS u) = _
    rw [cutL_cons]
    have sc : oneS u c = false := decide_eq_false fun z => hc z.symm
    show (if oneS u y = oneS u c then 0 else g y) + _ = _
    rw [sc]
    by_cases e : y = u
    · subst e
      have s1 : oneS y y = true := decide_eq_true rfl
      rw [s1, if_neg (by decide)]
      have z : cutL (starE c g ls) (oneS y) = 0 := by
        have : ∀ ks : List Str, y ∉ ks → cutL (starE c g ks) (oneS y) = 0 := by
          intro ks hk
          induction ks with
          | nil => rfl
          | cons k ks ih =>
            show cutL ((k, c, g k) :: starE c g ks) (oneS y) = 0
            rw [cutL_cons, ih fun z => hk (List.mem_cons_of_mem _ z)]
            show (if oneS y k = oneS y c then 0 else g k) + 0 = 0
            have sk : oneS y k = false := decide_eq_false fun z => hk (z ▸ List.mem_cons_self)
            rw [sk, sc, if_pos rfl]
            rfl
        exact this ls h1
      rw [z]
      omega
    · have s1 : oneS u y = false := decide_eq_false e
      rw [s1, if_pos rfl, star_one hc h2 ((List.mem_cons.mp h).resolve_left (Ne.symm e))]
      omega
end WkP
namespace WkP
open PySem WkN
def triE (ns : List Str) (ls : List Int) (k : Nat) : List Ed :=
  [(ns.getD (3 * k) sE, ns.getD (3 * k + 1) sE, 10), (ns.getD (3 * k + 1) sE, ns.getD (3 * k + 2) sE, 10), (ns.getD (3 * k) sE, ns.getD (3 * k + 2) sE, 10)] ++
  if 0 < k then [(ns.getD (3 * k - 1) sE, ns.getD (3 * k) sE, ls.getD k 0)] else []
def chainE (ns : List Str) (ls : List Int) : Nat → List Ed
  | 0 => []
  | m + 1 => chainE ns ls m ++ triE ns ls m
def triW (b : Nat → Bool) (k : Nat) : Int := (if b (3 * k) = b (3 * k + 1) then 0 else 10) + (if b (3 * k + 1) = b (3 * k + 2) then 0 else 10) + (if b (3 * k) = b (3 * k + 2) then 0 else 10)
def lnkW (b : Nat → Bool) (ls : List Int) (k : Nat) : Int := if 0 < k then (if b (3 * k - 1) = b (3 * k) then 0 else ls.getD k 0) else 0
theorem chain_cut (ns : List Str) (ls : List Int) (S : Sd) : ∀ m, cutL (chainE ns ls m) S = sr m fun k => triW (fun i => S (ns.getD i sE)) k + lnkW (fun i => S (ns.getD i sE)) ls k
  | 0 => rfl
  | m + 1 => by
    show cutL (chainE ns ls m ++ triE ns ls m) S = _
    rw [cutL_app, chain_cut ns ls S m, sr_succ]
    congr 1
    unfold triE triW lnkW
    rw [cutL_app]
    by_cases c : 0 < m
    · rw [if_pos c, if_pos c, cutL_cons, cutL_cons, cutL_cons, cutL_nil, cutL_cons, cutL_nil]
      show (if S (ns.getD (3 * m) sE) = S (ns.getD (3 * m + 1) sE) then 0 else 10) + ((if S (ns.getD (3 * m + 1) sE) = S (ns.getD (3 * m + 2) sE) then 0 else 10) + ((if S (ns.getD (3 * m) sE) = S (ns.getD (3 * m + 2) sE) then 0 else 10) + 0)) + ((if S (ns.getD (3 * m - 1) sE) = S (ns.getD (3 * m) sE) then 0 else ls.getD m 0) + 0) = _
      simp only [Int.add_zero, Int.add_assoc]
    · rw [if_neg c, if_neg c, cutL_cons, cutL_cons, cutL_cons, cutL_nil]
      show (if S (ns.getD (3 * m) sE) = S (ns.getD (3 * m + 1) sE) then 0 else 10) + ((if S (ns.getD (3 * m + 1) sE) = S (ns.getD (3 * m + 2) sE) then 0 else 10) + ((if S (ns.getD (3 * m) sE) = S (ns.getD (3 * m + 2) sE) then 0 else 10) + 0)) + 0 = _
      simp only [Int.add_zero, Int.add_assoc]
theorem triW_nn (b : Nat → Bool) (k : Nat) : 0 ≤ triW b k := by
  unfold triW
  split <;> split <;> split <;> decide
theorem triW_20 {b : Nat → Bool} {k : Nat} (h : ¬ (b (3 * k) = b (3 * k + 1) ∧ b (3 * k + 1) = b (3 * k + 2))) : 20 ≤ triW b k := by
  unfold triW
  cases h1 : b (3 * k) <;> cases h2 : b (3 * k + 1) <;> cases h3 : b (3 * k + 2) <;> rw [h1, h2, h3] at h <;> simp_all
theorem triW_0 {b : Nat → Bool} {k : Nat} (h1 : b (3 * k) = b (3 * k + 1)) (h2 : b (3 * k + 1) = b (3 * k + 2)) : triW b k = 0 := by
  unfold triW
  rw [if_pos h1, if_pos h2, if_pos (h1.trans h2)]
  rfl
theorem lnkW_nn {b : Nat → Bool} {ls : List Int} {k : Nat} (h : 0 ≤ ls.getD k 0) : 0 ≤ lnkW b ls k := by
  unfold lnkW
  split
  · split
    · exact Int.le_refl _
    · exact h
  · exact Int.le_refl _
theorem chain_sep {ns : List Str} {ls : List Int} {m : Nat} (nn : ∀ k, k < m → 0 ≤ ls.getD k 0) {S : Sd} {p q : Nat} (hpq : p < q) (hq : q < 3 * m) (hb : S (ns.getD p sE) ≠ S (ns.getD q sE)) :
    20 ≤ cutL (chainE ns ls m) S ∨ ∃ k, p / 3 < k ∧ k ≤ q / 3 ∧ ls.getD k 0 ≤ cutL (chainE ns ls m) S := by
  rw [chain_cut]
  obtain ⟨b, eb⟩ : ∃ b : Nat → Bool, b = fun i => S (ns.getD i sE) := ⟨_, rfl⟩
  have hb : b p ≠ b q := by rw [eb]; exact hb
  rw [← eb]
  clear eb
  have fn : ∀ k, k < m → 0 ≤ triW b k + lnkW b ls k := fun k hk => by
    have := triW_nn b k
    have := lnkW_nn (b := b) (nn k hk)
    omega
  by_cases c : ∃ k, k < m ∧ ¬ (b (3 * k) = b (3 * k + 1) ∧ b (3 * k + 1) = b (3 * k + 2))
  · obtain ⟨k, hk, h⟩ := c
    left
    have h1 := sr_one fn hk
    have h2 := triW_20 h
    have h3 := lnkW_nn (b := b) (nn k hk)
    omega
  · right
    have all : ∀ k, k < m → b (3 * k) = b (3 * k + 1) ∧ b (3 * k + 1) = b (3 * k + 2) := fun k hk => Classical.byContradiction fun z => c ⟨k, hk, z⟩
    have at_ : ∀ i, i < 3 * m → b i = b (3 * (i / 3)) := fun i hi => by
      obtain ⟨a1, a2⟩ := all (i / 3) (by omega)
      have : i = 3 * (i / 3) ∨ i = 3 * (i / 3) + 1 ∨ i = 3 * (i / 3) + 2 := by omega
      rcases this with e | e | e
      · exact congrArg b e
      · exact (congrArg b e).trans a1.symm
      · exact (congrArg b e).trans (a1.trans a2).symm
    have hne : (fun k => b (3 * k)) (p / 3) ≠ (fun k => b (3 * k)) (q / 3) := by
      show b (3 * (p / 3)) ≠ b (3 * (q / 3))
      rw [← at_ p (by omega), ← at_ q hq]
      exact hb
    have hlt : p / 3 < q / 3 := by
      rcases Nat.lt_or_ge (p / 3) (q / 3) with z | z
      · exact z
      · have : p / 3 = q / 3 := by omega
        rw [this] at hne
        exact absurd rfl hne
    obtain ⟨k, k1, k2, k3⟩ := seg_in (b := fun k => b (3 * k)) hlt hne
    refine ⟨k, k1, k2, ?_⟩
    have hk : k < m := by omega
    have h1 := sr_one fn hk
    have h2 := triW_nn b k
    have h3 : lnkW b ls k = ls.getD k 0 := by
      unfold lnkW
      rw [if_pos (by omega), if_neg]
      rw [at_ (3 * k - 1) (by omega), show (3 * k - 1) / 3 = k - 1 by omega]
      exact k3
    omega
theorem chain_arc {ns : List Str} (nd : ns.Nodup) {ls : List Int} {m : Nat} (hm : ns.length = 3 * m) {k : Nat} (hk : 0 < k) (hk2 : k < m) : cutL (chainE ns ls m) (posS ns fun i => decide (i < 3 * k)) = ls.getD k 0 := by
  rw [chain_cut]
  have at_ : ∀ i, i < 3 * m → posS ns (fun i => decide (i < 3 * k)) (ns.getD i sE) = decide (i < 3 * k) := fun i hi => posS_at nd (by omega)
  have e : ∀ j, j < m → (triW (fun i => posS ns (fun i => decide (i < 3 * k)) (ns.getD i sE)) j + lnkW (fun i => posS ns (fun i => decide (i < 3 * k)) (ns.getD i sE)) ls j) = if j = k then ls.getD k 0 else 0 := fun j hj => by
    have t0 : triW (fun i => posS ns (fun i => decide (i < 3 * k)) (ns.getD i sE)) j = 0 := by
      refine triW_0 ?_ ?_
      · show posS ns _ _ = posS ns _ _
        rw [at_ _ (by omega), at_ _ (by omega), decide_eq_decide]
        omega
      · show posS ns _ _ = posS ns _ _
        rw [at_ _ (by omega), at_ _ (by omega), decide_eq_decide]
        omega
    rw [t0]
    unfold lnkW
    by_cases c : 0 < j
    · rw [if_pos c]
      show 0 + (if posS ns _ _ = posS ns _ _ then 0 else _) = _
      rw [at_ _ (by omega), at_ _ (by omega)]
      by_cases e : j = k
      · subst e
        rw [if_pos rfl, if_neg]
        · omega
        · rw [decide_eq_decide]
          omega
      · rw [if_neg e, if_pos]
        · rfl
        · rw [decide_eq_decide]
          omega
    · rw [if_neg c, if_neg (by omega)]
      rfl
  rw [sr_congr e, sr_split k hk2, if_pos rfl]
  have z : sr m (fun i => if i = k then 0 else if i = k then ls.getD k 0 else 0) = sr m fun _ => 0 := sr_congr fun i _ => by
    by_cases c : i = k
    · rw [if_pos c]
    · rw [if_neg c, if_neg c]
  rw [z, sr_all0]
  omega
theorem chain_pair {ns : List Str} (nd : ns.Nodup) {ls : List Int} {m : Nat} (hm : ns.length = 3 * m) (nn : ∀ k, k < m → 1 ≤ ls.getD k 0 ∧ ls.getD k 0 ≤ 9) {p q : Nat} (hpq : p / 3 < q / 3) (hq : q < 3 * m) {x : Int} (hx : MinOf ((ls.take (q / 3 + 1)).drop (p / 3 + 1)) x) (hl : ls.length = m) :
    (∀ S : Sd, S (ns.getD p sE) ≠ S (ns.getD q sE) → x ≤ cutL (chainE ns ls m) S) ∧ ∃ S : Sd, S (ns.getD p sE) ≠ S (ns.getD q sE) ∧ cutL (chainE ns ls m) S = x := by
  have inA : ∀ k, p / 3 < k → k ≤ q / 3 → ls.getD k 0 ∈ (ls.take (q / 3 + 1)).drop (p / 3 + 1) := fun k h1 h2 => by
    refine List.mem_of_getElem? (i := k - (p / 3 + 1)) ?_
    rw [List.getElem?_drop, List.getElem?_take, if_pos (by omega), show p / 3 + 1 + (k - (p / 3 + 1)) = k by omega]
    exact getD_at (by omega)
  obtain ⟨k, hk1, hk2, ek⟩ : ∃ k, p / 3 < k ∧ k ≤ q / 3 ∧ ls.getD k 0 = x := by
    obtain ⟨s, hs⟩ := List.mem_iff_getElem?.mp hx.1
    rw [List.getElem?_drop, List.getElem?_take] at hs
    split at hs
    · exact ⟨p / 3 + 1 + s, by omega, by omega, by rw [List.getD_eq_getElem?_getD, hs]; rfl⟩
    · cases hs
  constructor
  · intro S hb
    rcases chain_sep (ns := ns) (ls := ls) (m := m) (S := S) (fun k hk => by have := (nn k hk).1; omega) (show p < q by omega) hq hb with h | ⟨k2, h1, h2, h3⟩
    · have := (nn k (by omega)).2
      omega
    · have := hx.2 _ (inA k2 h1 h2)
      omega
  · refine ⟨_, ?_, (chain_arc nd hm (by omega) (by omega)).trans ek⟩
    rw [posS_at nd (by omega), posS_at nd (by omega)]
    have h1 : decide (p < 3 * k) = true := decide_eq_true (by omega)
    have h2 : decide (q < 3 * k) = false := decide_eq_false (by omega)
    rw [h1, h2]
    decide
theorem chain_tri {ns : List Str} {ls : List Int} {m : Nat} (nn : ∀ k, k < m → 0 ≤ ls.getD k 0) {S : Sd} {p q : Nat} (hpq : p < q) (he : p / 3 = q / 3) (hq : q < 3 * m) (hb : S (ns.getD p sE) ≠ S (ns.getD q sE)) : 20 ≤ cutL (chainE ns ls m) S := by
  rcases chain_sep nn hpq hq hb with h | ⟨k, h1, h2, _⟩
  · exact h
  · omega
end WkP
namespace WkP
open PySem WkN
theorem eachA {α β : Type} {R : α → β → Prop} : ∀ {as as' : List α} {bs bs' : List β}, PySem.W.EachIs R as bs → PySem.W.EachIs R as' bs' → PySem.W.EachIs R (as ++ as') (bs ++ bs')
  | _, _, _, _, .nil, k => k
  | _, _, _, _, .cons h t, k => .cons h (eachA t k)
theorem eachAt {α β : Type} {R : α → β → Prop} : ∀ {as : List α} {bs : List β}, PySem.W.EachIs R as bs → ∀ {i : Nat} {a : α} {b : β}, as[i]? = some a → bs[i]? = some b → R a b
  | _, _, .nil, i, a, b, h, _ => by simp at h
  | _, _, .cons h t, 0, a, b, h1, h2 => by
    simp at h1 h2
    subst h1 h2
    exact h
  | _, _, .cons h t, i + 1, a, b, h1, h2 => eachAt t (i := i) (by simpa using h1) (by simpa using h2)
theorem eachMapL {α β γ : Type} {R : γ → β → Prop} {f : α → γ} : ∀ {as : List α} {bs : List β}, PySem.W.EachIs (fun a b => R (f a) b) as bs → PySem.W.EachIs R (as.map f) bs
  | _, _, .nil => .nil
  | _, _, .cons h t => .cons h (eachMapL t)
theorem eachEx {α β γ : Type} {f : α → γ} {P : α → β → Prop} : ∀ {ys : List γ} {bs : List β}, PySem.W.EachIs (fun y b => ∃ a, y = f a ∧ P a b) ys bs → ∃ as, ys = as.map f ∧ PySem.W.EachIs P as bs
  | _, _, .nil => ⟨[], rfl, .nil⟩
  | _, _, .cons ⟨a, e, h⟩ t => let ⟨as, e2, h2⟩ := eachEx t; ⟨a :: as, by rw [List.map_cons, e, e2], .cons h h2⟩
def ind (C : Sd) (u : Str) : Int := if C u = true then 1 else 0
end WkP
namespace WkP
open PySem WkN WkD
end WkP
namespace PySem.SeqAt
open MeetsSeq PyProof.Rows PySem.W
section
variable {prog : Program} {w : World} {A : Around} {E : Value → Shared → Prop} {s : Shared}
end
end PySem.SeqAt
namespace PySem.W
open PySem PySem.Calls PyProof.Rows
section
variable {prog : Program} {w : World} {A : Around} {E : Value → Shared → Prop} {s : Shared}
end
end PySem.W
namespace WkD
open PySem PySem.Spec PyProof.Rows L2 PySem.W
def encL (z : List Str) : PyData := .tuple (z.map PyData.str)
theorem alike_strs : ∀ (xs ys : List Str), alikeAll (xs.map PyData.str) (ys.map PyData.str) = true
  | [], _ => by simp [alikeAll]
  | _ :: _, [] => by simp [alikeAll]
  | x :: xs, y :: ys => by
    simp only [List.map_cons, alikeAll, alike, Bool.true_and]
    exact alike_strs xs ys
theorem alike_encL (xs ys : List Str) : alike (encL xs) (encL ys) = true := by
  unfold encL
  simp only [alike]
  exact alike_strs xs ys
theorem depth_encL (xs : List Str) : (encL xs).depth ≤ 1 := by
  unfold encL
  show PyData.depthAll (xs.map PyData.str) + 1 ≤ 1
  have : ∀ l : List Str, PyData.depthAll (l.map PyData.str) = 0 := fun l => by
    induction l with
    | nil => rfl
    | cons z l ih =>
      show max (PyData.str z).depth (PyData.depthAll (l.map PyData.str)) = 0
      rw [ih]
      rfl
  rw [this]
  exact Nat.le_refl _
def TupAt (K : PySem.W.Frag) (H : Hp) (x : V) (z : List Str) : Prop := ∃ r, x = .ref r ∧ SqT K H r (z.map V.str)
theorem dxs_strs {K : PySem.W.Frag} {H : Hp} : ∀ (ns : List Str), WkG.DxAll K H (ns.map V.str) (ns.map PyData.str)
  | [] => .nil
  | n :: ns => .cons (.str n) (dxs_strs ns)
theorem TupAt.dx {K : PySem.W.Frag} {H : Hp} {x : V} {z : List Str} (h : TupAt K H x z) : WkG.Dx K H x (encL z) := by
  obtain ⟨r, rfl, h⟩ := h
  exact .tup h (dxs_strs z)
section
variable {X : Cx}
end
end WkD
namespace WkP
open PySem WkN WkD
open PySem.W (dataLe keyToks keyToksAll EachIs)
theorem le_anti {β : Type} {enc : β → PyData} (inj : ∀ a b, keyToks (enc a) = keyToks (enc b) → a = b) {a b : β} (h1 : dataLe false enc a b = true) (h2 : dataLe false enc b a = true) : a = b := by
  have e : ∀ a b, dataLe false enc a b = !PyProof.Rows.lexLt PyProof.Rows.itemOrd (keyToks (enc b)) (keyToks (enc a)) := fun a b => rfl
  rw [e] at h1 h2
  exact inj a b (PyProof.Rows.lex_total (O := PyProof.Rows.itemOrd) _ _ (by simpa using h2) (by simpa using h1))
theorem sort_pw {β : Type} (enc : β → PyData) (l : List β) : (l.mergeSort (dataLe false enc)).Pairwise fun a b => dataLe false enc a b = true := by
  have tl := PySem.W.sortLe_total (PyProof.Rows.listOrd PyProof.Rows.itemOrd) false fun b => keyToks (enc b)
  exact List.pairwise_mergeSort (le := dataLe false enc) (fun a b c h k => tl.trans a b c h k) (fun a b => by
    have := tl.total a b
    rw [Bool.or_eq_true]
    exact this) l
theorem sort_uniq {β : Type} {enc : β → PyData} (inj : ∀ a b, keyToks (enc a) = keyToks (enc b) → a = b) {l m : List β} (nl : l.Nodup) (nm : m.Nodup) (hl : l.Pairwise fun a b => dataLe false enc a b = true) (hm : m.Pairwise fun a b => dataLe false enc a b = true) (mem : ∀ x, x ∈ l ↔ x ∈ m) : l = m := by
  have tl := PySem.W.sortLe_total (PyProof.Rows.listOrd PyProof.Rows.itemOrd) false fun b => keyToks (enc b)
  refine asc_uniq (R := fun a b => dataLe false enc a b = true ∧ a ≠ b) (fun a h => h.2 rfl) (fun a b c h k => ⟨tl.trans a b c h.1 k.1, fun z => ?_⟩) (List.Pairwise.imp₂ (fun _ _ a b => ⟨a, b⟩) hl nl) (List.Pairwise.imp₂ (fun _ _ a b => ⟨a, b⟩) hm nm) mem
  subst z
  exact h.2 (le_anti inj h.1 k.1)
theorem toks_encL : ∀ {a b : List Str}, keyToks (encL a) = keyToks (encL b) → a = b := by
  have key : ∀ {a b : List Str}, keyToksAll (a.map PyData.str) = keyToksAll (b.map PyData.str) → a = b := by
    intro a
    induction a with
    | nil =>
      intro b h
      cases b with
      | nil => rfl
      | cons y b =>
        rw [List.map_nil, List.map_cons, keyToksAll, keyToksAll] at h
        cases h
    | cons x a ih =>
      intro b h
      cases b with
      | nil =>
        rw [List.map_nil, List.map_cons, keyToksAll, keyToksAll] at h
        cases h
      | cons y b =>
        rw [List.map_cons, List.map_cons, keyToksAll, keyToksAll, keyToks, keyToks] at h
        have h := (List.cons.inj h).2
        have h : (Sum.inr x.cps.toList : Int ⊕ List Nat) :: keyToksAll (a.map PyData.str) = Sum.inr y.cps.toList :: keyToksAll (b.map PyData.str) := h
        obtain ⟨h1, h2⟩ := List.cons.inj h
        have h1 : x.cps.toList = y.cps.toList := by injection h1
        rw [PySem.W.str_of_cps h1, ih h2]
  intro a b h
  unfold encL at h
  rw [keyToks, keyToks] at h
  exact key h
end WkP
namespace WkP
open PySem WkN WkD
open PySem.W (dataLe dataLt)
theorem cutL_not {es : List Ed} {S : Sd} : cutL es (fun v => !S v) = cutL es S := by
  unfold cutL
  congr 1
  refine List.map_congr_left fun e _ => ?_
  show (if (!S e.1) = (!S e.2.1) then 0 else e.2.2) = _
  have k : ∀ a b : Bool, (if (!a) = (!b) then (0 : Int) else e.2.2) = if a = b then 0 else e.2.2 := by
    intro a b
    cases a <;> cases b <;> rfl
  exact k _ _
section
variable {Vs : List Str} {w : Wf} {es : List Ed}
theorem isLam_of (hc : ∀ S : Sd, cutW Vs w S = cutL es S) {u v : Str} {n : Int} (h1 : ∀ S : Sd, S u ≠ S v → n ≤ cutL es S) (h2 : ∃ S : Sd, S u ≠ S v ∧ cutL es S = n) : IsLam Vs w u v n := by
  refine ⟨?_, fun S s1 s2 => by rw [hc]; exact h1 S (by rw [s1, s2]; decide)⟩
  obtain ⟨S, hS, e⟩ := h2
  cases h3 : S u
  · have h4 : S v = true := by
      cases h4 : S v
      · rw [h3, h4] at hS
        exact absurd rfl hS
      · rfl
    exact ⟨fun x => !S x, by show (!S u) = true; rw [h3]; rfl, by show (!S v) = false; rw [h4]; rfl, by rw [hc, cutL_not]; exact e⟩
  · refine ⟨S, h3, ?_, by rw [hc]; exact e⟩
    cases h4 : S v
    · rfl
    · rw [h3, h4] at hS
      exact absurd rfl hS
theorem lamOf_eq {u v : Str} {n : Int} (h : IsLam Vs w u v n) : lamOf Vs w u v = n := by
  unfold lamOf
  rw [dif_pos ⟨n, h⟩]
  exact IsLam.uniq (Classical.choose_spec ⟨n, h⟩) h
end
theorem cls_mem {hd : Str → Str} {Vs : List Str} {S : List Str} : S ∈ clsF hd Vs ↔ ∃ u ∈ Vs, S = Vs.filter fun w => decide (hd w = hd u) := by
  unfold clsF
  rw [List.mem_map]
  constructor
  · rintro ⟨h, hh, rfl⟩
    obtain ⟨u, hu, rfl⟩ := ksF_mem.mp hh
    exact ⟨u, hu, rfl⟩
  · rintro ⟨u, hu, rfl⟩
    exact ⟨hd u, ksF_mem.mpr ⟨u, hu, rfl⟩, rfl⟩
theorem le_headsQ {a b : Str} {r q : List Str} (h : ltS a b) : dataLe false encL (a :: r) (b :: q) = true := by
  have t : ∀ (x : Str) (l : List Str), PySem.W.keyToks (encL (x :: l)) = Sum.inl 1 :: (Sum.inr x.cps.toList :: PySem.W.keyToksAll (l.map PyData.str)) := fun x l => by
    unfold encL
    rw [PySem.W.keyToks, List.map_cons, PySem.W.toks_all_cons, PySem.W.keyToks]
    rfl
  have ne : (Sum.inr b.cps.toList : Int ⊕ List Nat) ≠ Sum.inr a.cps.toList := fun z => by
    rw [PySem.W.str_of_cps (Sum.inr.inj z)] at h
    exact ltS_irrefl _ h
  show (!PyProof.Rows.lexLt PyProof.Rows.itemOrd (PySem.W.keyToks (encL (b :: q))) (PySem.W.keyToks (encL (a :: r)))) = true
  rw [t, t, PyProof.Rows.lex_self (O := PyProof.Rows.itemOrd), PySem.W.lex_atom ne]
  have e : PyProof.Rows.lexLt PyProof.Rows.itemOrd [Sum.inr b.cps.toList] [Sum.inr a.cps.toList] = decide (ltS b a) := dataLt_str b a
  rw [e, decide_eq_false fun z => ltS_irrefl _ (ltS_trans z h)]
  rfl
theorem rowH_at {hd : Str → Str} {l t : List Str} {u : Str} (hn : ∀ z ∈ l, hd z ≠ hd u) : rowH hd (l ++ u :: t) (hd u) = u :: t.filter fun z => decide (hd z = hd u) := by
  unfold rowH
  rw [List.filter_append, List.filter_eq_nil_iff.mpr fun z hz => by simpa using hn z hz, List.nil_append, List.filter_cons, if_pos (by simp)]
theorem cls_sorted {hd : Str → Str} {Vs : List Str} (hV : Asc Vs) : (clsF hd Vs).Pairwise (fun a b => dataLe false encL a b = true) ∧ (clsF hd Vs).Nodup := by
  have key : ∀ l t, l ++ t = Vs → ((ksF hd l).map (rowH hd Vs)).Pairwise (fun a b => dataLe false encL a b = true) ∧ ((ksF hd l).map (rowH hd Vs)).Nodup ∧ ∀ R ∈ (ksF hd l).map (rowH hd Vs), ∃ a r, R = a :: r ∧ a ∈ l := fun l => by
    refine snocI (p := fun l => ∀ t, l ++ t = Vs → ((ksF hd l).map (rowH hd Vs)).Pairwise (fun a b => dataLe false encL a b = true) ∧ ((ksF hd l).map (rowH hd Vs)).Nodup ∧ ∀ R ∈ (ksF hd l).map (rowH hd Vs), ∃ a r, R = a :: r ∧ a ∈ l) (fun t _ => ⟨.nil, .nil, fun R h => nomatch h⟩) (fun l u ih t e => ?_) l
    have e2 : l ++ u :: t = Vs := by
      rw [← e, List.append_assoc]
      rfl
    obtain ⟨h1, h2, h3⟩ := ih (u :: t) e2
    rw [ksF_snoc]
    by_cases c : hd u ∈ ksF hd l
    · rw [if_pos c]
      exact ⟨h1, h2, fun R hR => let ⟨a, r, x, y⟩ := h3 R hR; ⟨a, r, x, List.mem_append_left _ y⟩⟩
    · rw [if_neg c, List.map_append]
      have hn : ∀ z ∈ l, hd z ≠ hd u := fun z hz q => c (ksF_mem.mpr ⟨z, hz, q⟩)
      have er : rowH hd Vs (hd u) = u :: t.filter fun z => decide (hd z = hd u) := by
        rw [← e2]
        exact rowH_at hn
      have lt : ∀ a ∈ l, ltS a u := fun a ha => by
        have hp : Asc (l ++ u :: t) := e2.symm ▸ hV
        exact (List.pairwise_append.mp hp).2.2 a ha u List.mem_cons_self
      have ul : u ∉ l := fun z => hn u z rfl
      refine ⟨List.pairwise_append.mpr ⟨h1, List.pairwise_singleton _ _, fun R hR Q hQ => ?_⟩, List.nodup_append.mpr ⟨h2, by simp, fun x hx y hy q => ?_⟩, fun R hR => ?_⟩
      · obtain ⟨a, r, rfl, ha⟩ := h3 R hR
        rw [List.mem_singleton.mp hQ, er]
        exact le_headsQ (lt a ha)
      · obtain ⟨a, r, e3, ha⟩ := h3 x hx
        rw [q, List.mem_singleton.mp hy, er] at e3
        cases e3
        exact ul ha
      · rcases List.mem_append.mp hR with z | z
        · obtain ⟨a, r, x, y⟩ := h3 R z
          exact ⟨a, r, x, List.mem_append_left _ y⟩
        · rw [List.mem_singleton.mp z, er]
          exact ⟨u, _, rfl, List.mem_append_right _ (List.mem_singleton.mpr rfl)⟩
  obtain ⟨h1, h2, _⟩ := key Vs [] (List.append_nil _)
  exact ⟨h1, h2⟩
theorem cls_tags {hd : Str → Str} {Vs : List Str} (hV : Asc Vs) {τ : Str → Nat} (h : ∀ u ∈ Vs, ∀ v ∈ Vs, hd u = hd v ↔ τ u = τ v) {L : List (List Str)} (nL : L.Nodup) (hL : ∀ S, S ∈ L ↔ ∃ u ∈ Vs, S = Vs.filter fun w => decide (τ w = τ u)) : clsF hd Vs = L.mergeSort (dataLe false encL) := by
  obtain ⟨h1, h2⟩ := cls_sorted (hd := hd) hV
  refine sort_uniq (fun _ _ => toks_encL) h2 ((List.mergeSort_perm _ _).nodup_iff.mpr nL) h1 (sort_pw encL _) fun S => ?_
  rw [cls_mem, (List.mergeSort_perm _ _).mem_iff, hL]
  have e : ∀ u ∈ Vs, (Vs.filter fun w => decide (hd w = hd u)) = Vs.filter fun w => decide (τ w = τ u) := fun u hu => List.filter_congr fun w hw => by
    rw [decide_eq_decide]
    exact h w hw u hu
  constructor
  · rintro ⟨u, hu, rfl⟩
    exact ⟨u, hu, e u hu⟩
  · rintro ⟨u, hu, rfl⟩
    exact ⟨u, hu, (e u hu).symm⟩
end WkP
namespace Wk
open PySem PySem.Spec PyProof.Rows L2 WkD WkN LamX WkP WkE WkC
open PySem.W (EachIs)
section
variable {P : Program} {w : World} {K : PySem.W.Frag} {mg : Str → Option Value} {base : Heap}
def let20 : Str := "abcdefghijklmnopqrst"
def letXY : Str := "xy"
def wd60 (k : Nat) : Str := (⟨#[let20.cps.toList.getD (k / 2) 0]⟩ : Str) ++ (⟨#[letXY.cps.toList.getD (k % 2) 0]⟩ : Str)
theorem wd60_nd : ((List.range 40).map wd60).Nodup := by decide +kernel
theorem wd60_nm : ∀ z ∈ (List.range 40).map wd60, nameB z = true := by decide +kernel
theorem wd60_take {n : Nat} (h : n ≤ 40) : ((List.range n).map wd60).Sublist ((List.range 40).map wd60) := by
  refine List.Sublist.map _ ?_
  have e : (List.range 40).take n = List.range n := by rw [List.take_range, Nat.min_eq_left h]
  rw [← e]
  exact List.take_sublist _ _
def spWords (K : PySem.W.Frag) : Sp := fun vs H Q _ => ∃ (p cs : Addr) (N n : Nat), vs = [.ref p, .int n] ∧ Pen H p cs N ∧ N + 50 < 2 ^ 60 ∧ n ≤ 40 ∧
  ∀ q (xs : List Str) H', But p H H' → H q = none → H' q = some (.lst (xs.map V.str)) → xs.Nodup → xs.length = n → (∀ z ∈ xs, nameB z = true) → Pen H' p cs (N + n) → Q (.ref q) H'
theorem sc_words60 : FnScope ["_law_pen_here", "_law_many", "_law_letters", "_law_k"] ["_law_pen_here", "_law_many"] (defScope s_L_words) := ⟨rfl, rfl, rfl, by decide +kernel, rfl, by decide +kernel, by decide +kernel⟩
theorem c_words60 (D : Def K mg "_law_words" s_L_words) (B : Bi mg) (CS : Callee P w K mg base CX0 2 "_law_shuffled" ["_law_pen_here", "_law_some"] (spShuf K)) : Callee P w K mg base CX0 3 "_law_words" ["_law_pen_here", "_law_many"] (spWords K) := by
  obtain ⟨f, fd, F, g⟩ := D
  refine ⟨f, fd, F.ok sc_words60 (fun vs H Q E h => ?_) (fun cdv A outer s H vs Q E hr h => ?_), g, F.kp, F.bindsN (fun _ _ _ _ _ _ us hl => match us, hl with | [_, _], _ => rfl)⟩
  · obtain ⟨p, cs, N, n, rfl, _⟩ := h
    rfl
  have hu := hu_of hr
  have hr2 : Room 2 _ := hr
  have nd := sc_words60.nd
  refine ⟨_, PSs.nox (pss_cons (ps_set (i := 2) nd rfl (Or.inr rfl) pe_str)
      (pss_one (ps_ret (pe_c CS hr2 pass0 (pa_cons (pv 0) (pa_cons (pe_lc (own := [("_law_k", 3)]) (by rfl) nd (pi_range1 (by rfl) B.n_range (pa_cons (pv 1) pa_nil)) (blkOk_by (by kernel_rfl)) (fun _ _ _ _ _ => (pg_name (i := 3) nd rfl (Or.inl rfl))) (fun _ _ _ _ _ => pts_nil) (fun _ _ _ _ _ => (pe_op op_add_str (pe_ix ix_str (pv 2) (pe_op op_fdivN (pv 3) pe_int) (fun _ _ => rfl)) (pe_ix ix_str pe_str (pe_op op_modN (pv 3) pe_int) (fun _ _ => rfl))))) pa_nil)))))), ?_⟩
  obtain ⟨p, cs, N, n, rfl, hP, hN, hn, k⟩ := h
  have big : 1000 < sizeLine := by decide
  refine ⟨_, rfl, _, rfl, _, rfl, by omega, by omega, fun D nD => ?_⟩
  have en : (n : Int).toNat = n := Int.toNat_natCast n
  rw [en]
  have l20 : let20.cps.toList.length = 20 := by decide +kernel
  have l2 : letXY.cps.toList.length = 2 := by decide +kernel
  refine lc_it (walk_range (lo := 0) (n := n)) (fun i Hc => Same H Hc ∧ Hc D = some (.lst (((List.range i).map wd60).map V.str))) ⟨same_upd nD, upd_same⟩ ?_ ?_ ?_
  · intros
    trivial
  · rintro i x Hc Hc' hi ⟨c1, c2⟩ ⟨rfl, rfl⟩
    have e1 : (0 + (i : Int)).fdiv 2 = ((i / 2 : Nat) : Int) := by
      rw [Int.fdiv_eq_ediv_of_nonneg _ (by decide)]
      omega
    have e2 : (0 + (i : Int)).fmod 2 = ((i % 2 : Nat) : Int) := by
      rw [Int.fmod_eq_emod_of_nonneg _ (by decide)]
      omega
    have a1 : atI let20.cps.toList ((0 + (i : Int)).fdiv 2) = some (let20.cps.toList.getD (i / 2) 0) := by
      rw [e1]
      refine atI_nat ?_
      rw [List.getD_eq_getElem?_getD, List.getElem?_eq_getElem (by omega)]
      rfl
    have a2 : atI letXY.cps.toList ((0 + (i : Int)).fmod 2) = some (letXY.cps.toList.getD (i % 2) 0) := by
      rw [e2]
      refine atI_nat ?_
      rw [List.getD_eq_getElem?_getD, List.getElem?_eq_getElem (by omega)]
      rfl
    refine ⟨rfl, tYes_if ⟨_, rfl, _, rfl, _, _, rfl, rfl, ⟨by decide, by decide⟩, let20, _, _, rfl, rfl, by decide, a1, _, rfl, _, _, rfl, rfl, (by decide : (2 : Int) ≠ 0), letXY, _, _, rfl, rfl, by decide, a2, _, _, rfl, rfl, by show 1 + 1 ≤ sizeLine; omega, _, c2, ?_, fun b o hb => ?_, ?_⟩⟩
    · rw [List.length_map, List.length_map, List.length_range]
      omega
    · rw [upd_ne (ne_of_none hb nD)]
      exact c1 _ _ hb
    · rw [upd_same, List.range_succ, List.map_append, List.map_append]
      rfl
  rintro H1 ⟨s1, L1⟩
  have lx : (((List.range n).map wd60).map V.str).length = n := by rw [List.length_map, List.length_map, List.length_range]
  refine ⟨p, cs, D, N, true, _, rfl, hP.same s1, by rw [lx]; omega, SqL.of L1, by rw [lx]; omega, fun q ys H2 b2 nq hq pm P2 => ?_⟩
  rw [lx] at P2
  obtain ⟨xs, rfl, px⟩ := perm_map pm rfl
  refine k q xs H2 (But.trans (But.of_same s1) b2) (np_of s1 nq) hq (px.nodup_iff.mpr (wd60_nd.sublist (wd60_take hn))) ?_ (fun z hz => ?_) P2
  · rw [px.length_eq, List.length_map, List.length_range]
  · exact wd60_nm z ((wd60_take hn).mem (px.mem_iff.mp hz))
def spRWord (K : PySem.W.Frag) : Sp := fun vs H Q _ => ∃ (l lo : Addr) (ws : List Int) (a b wk : Int), vs = [.ref l, .ref lo, .int wk] ∧ H l = some (.lst (ws.map V.int)) ∧ H lo = some (.lst [.int a, .int b]) ∧ ws.length ≤ 1000 ∧
  ∀ H' (wd : Str), Same H H' → wd = (if b < wk then ("none" : Str) else if a = b then (if ws.count wk = 2 then ("all" : Str) else ("some" : Str)) else if wk = a ∨ ws.count wk = 1 then ("all" : Str) else ("some" : Str)) → Q (.str wd) H'
theorem sc_rword60 : FnScope ["_law_weights_here", "_law_low", "_law_weight"] ["_law_weights_here", "_law_low", "_law_weight"] (defScope s_L_ring_word) := ⟨rfl, rfl, rfl, by decide +kernel, rfl, by decide +kernel, by decide +kernel⟩
theorem c_rword60 (D : Def K mg "_law_ring_word" s_L_ring_word) (B : Bi mg) : Callee P w K mg base CX0 1 "_law_ring_word" ["_law_weights_here", "_law_low", "_law_weight"] (spRWord K) := by
  obtain ⟨f, fd, F, g⟩ := D
  refine ⟨f, fd, F.ok sc_rword60 (fun vs H Q E h => ?_) (fun cdv A outer s H vs Q E hr h => ?_), g, F.kp, F.bindsN (fun _ _ _ _ _ _ us hl => match us, hl with | [_, _, _], _ => rfl)⟩
  · obtain ⟨l, lo, ws, a, b, wk, rfl, _⟩ := h
    rfl
  have hu := hu_of hr
  have nd := sc_rword60.nd
  refine ⟨_, PSs.nox (pss_cons (ps_if (pt_cmpR op_gt (pv 2) (pe_ix ix_list (pv 1) pe_int (fun _ _ => rfl)) (nomark _))
      (pss_one (ps_ret pe_str)) pss_nil)
      (pss_cons (ps_if (pt_cmpR op_eq (pe_ix ix_list (pv 1) pe_int (fun _ _ => rfl)) (pe_ix ix_list (pv 1) pe_int (fun _ _ => rfl)) (nomark _))
      (pss_one (ps_ret (pe_ix ix_list (pe_lst (pa_cons pe_str (pa_cons pe_str pa_nil))) (pe_callTy WkB.call_intB (by rfl) B.n_int (by decide +kernel) (pa_cons (pe_cmpR op_eq (pe_bm PySem.F.plainAttrs_list PySem.F.slot_list_count PySem.F.type_list_count mt_lcount (pv 0) (pa_cons (pv 2) pa_nil)) pe_int (nomark _)) pa_nil)) (fun _ _ => rfl)))) pss_nil)
      (pss_one (ps_ret (pe_ifExp (PW.pt (pw_or (pt_cmpR op_eq (pv 2) (pe_ix ix_list (pv 1) pe_int (fun _ _ => rfl)) (nomark _)) (pw_or1 (pt_cmpR op_eq (pe_bm PySem.F.plainAttrs_list PySem.F.slot_list_count PySem.F.type_list_count mt_lcount (pv 0) (pa_cons (pv 2) pa_nil)) pe_int (nomark _))))) pe_str pe_str))))), ?_⟩
  obtain ⟨l, lo, ws, a, b, wk, rfl, hl, hlo, lw, k⟩ := h
  have big : 1000 < sizeLine := by decide
  have g0 : atI [V.int a, V.int b] 0 = some (.int a) := atI_nat (j := 0) rfl
  have g1 : atI [V.int a, V.int b] 1 = some (.int b) := atI_nat (j := 1) rfl
  refine ⟨_, rfl, _, rfl, lo, _, 1, .int b, rfl, rfl, SqL.of hlo, g1, _, _, rfl, rfl, _, rfl, ?_⟩
  refine ite2 (fun h => ?_) (fun h => ?_)
  · exact k H _ (fun b o hb => hb) (by rw [if_pos (of_decide_eq_true h)])
  have hb : ¬ b < wk := fun z => h (decide_eq_true z)
  refine ⟨_, rfl, lo, _, 0, .int a, rfl, rfl, SqL.of hlo, g0, _, rfl, lo, _, 1, .int b, rfl, rfl, SqL.of hlo, g1, rfl, _, rfl, ?_⟩
  refine ite2 (fun h2 => ?_) (fun h2 => ?_)
  · have e : a = b := by
      have z : V.int a = V.int b := of_decide_eq_true h2
      injection z
    refine ⟨by show 2 ≤ sizeLine; omega, fun q nq => ?_⟩
    have s1 : Same H (upd H q (.lst [.str "some", .str "all"])) := same_upd nq
    have Q1 : upd H q (.lst [.str "some", .str "all"]) q = some (.lst [.str "some", .str "all"]) := upd_same
    generalize upd H q (.lst [.str "some", .str "all"]) = H1 at s1 Q1
    refine ⟨_, rfl, .inl ⟨rfl, _, SqL.of (s1 _ _ hl)⟩, _, rfl, l, ws, wk, rfl, rfl, SqL.of (s1 _ _ hl), rfl, _, rfl, ?_⟩
    by_cases c : ws.count wk = 2
    · refine ⟨q, _, 1, .str "all", rfl, ?_, SqL.of Q1, atI_nat (j := 1) rfl, k H1 _ s1 ?_⟩
      · rw [c, if_pos (show decide (V.int ((2 : Nat) : Int) = V.int 2) = true from decide_eq_true rfl)]
      · rw [if_neg hb, if_pos e, if_pos c]
    · refine ⟨q, _, 0, .str "some", rfl, ?_, SqL.of Q1, atI_nat (j := 0) rfl, k H1 _ s1 ?_⟩
      · rw [if_neg]
        intro z
        have z : V.int ((ws.count wk : Nat) : Int) = V.int 2 := of_decide_eq_true z
        injection z with z
        omega
      · rw [if_neg hb, if_pos e, if_neg c]
  · have e : ¬ a = b := fun z => h2 (by rw [z]; exact decide_eq_true rfl)
    refine ⟨_, rfl, _, rfl, lo, _, 0, .int a, rfl, rfl, SqL.of hlo, g0, rfl, _, rfl, ?_⟩
    by_cases c : wk = a
    · subst c
      rw [decide_eq_true rfl]
      refine ite2 (fun _ => ?_) (fun z => absurd rfl z)
      refine ite2 (fun _ => ?_) (fun z => absurd rfl z)
      exact k H _ (fun b o hb => hb) (by rw [if_neg hb, if_neg e, if_pos (.inl rfl)])
    · have c2 : decide (V.int wk = V.int a) = false := decide_eq_false fun z => c (by injection z)
      rw [c2]
      refine ite2 (fun z => nomatch z) (fun _ => ?_)
      refine ⟨_, rfl, .inl ⟨rfl, _, SqL.of hl⟩, _, rfl, l, ws, wk, rfl, rfl, SqL.of hl, rfl, _, rfl, ?_⟩
      refine ite2 (fun z => ?_) (fun z => ?_)
      · have z : V.int ((ws.count wk : Nat) : Int) = V.int 1 := of_decide_eq_true z
        have z : ((ws.count wk : Nat) : Int) = 1 := by injection z
        exact k H _ (fun b o hb => hb) (by rw [if_neg hb, if_neg e, if_pos (.inr (by omega))])
      · have c3 : ¬ ws.count wk = 1 := fun y => z (by rw [y]; exact decide_eq_true rfl)
        exact k H _ (fun b o hb => hb) (by rw [if_neg hb, if_neg e, if_neg (fun y => y.elim c c3)])
end
end Wk
namespace Wk
open PySem PySem.Spec PyProof.Rows L2 WkD WkN LamX WkP WkE WkC
open PySem.W (EachIs)
section
variable {P : Program} {w : World} {K : PySem.W.Frag} {mg : Str → Option Value} {base : Heap}
structure Good60 (ns : List Str) (es : List Ed) : Prop where
  nm : ∀ u ∈ ns, nameB u = true
  nd : ns.Nodup
  two : 2 ≤ ns.length
  few : ns.length ≤ 40
  ed : ∀ e ∈ es, e.1 ∈ ns ∧ e.2.1 ∈ ns ∧ 1 ≤ e.2.2 ∧ e.2.2 ≤ 1000000000
  dis : Dis es
  con : ∀ nb wt, RowsOf ns es nb wt → ∀ s ∈ ns, ∀ u ∈ ns, Rch nb s u
theorem adj_perm {es fs : List Ed} (p : es.Perm fs) {u v : Str} {n : Int} : Adj es u v n ↔ Adj fs u v n := by
  unfold Adj
  rw [p.mem_iff, p.mem_iff]
theorem rowsOf_perm {ns : List Str} {es fs : List Ed} {nb : Nb} {wt : Wt} (p : es.Perm fs) (ro : RowsOf ns es nb wt) : RowsOf ns fs nb wt :=
  ⟨ro.nd, fun u hu v => (ro.mem u hu v).trans ⟨fun ⟨n, h⟩ => ⟨n, (adj_perm p).mp h⟩, fun ⟨n, h⟩ => ⟨n, (adj_perm p).mpr h⟩⟩, fun u hu v n h => ro.val u hu v n ((adj_perm p).mpr h)⟩
theorem rowsOf_set {ns Vs : List Str} {es : List Ed} {nb : Nb} {wt : Wt} (p : Vs.Perm ns) (ro : RowsOf ns es nb wt) : RowsOf Vs es nb wt :=
  ⟨fun u hu => ro.nd u (p.mem_iff.mp hu), fun u hu => ro.mem u (p.mem_iff.mp hu), fun u hu => ro.val u (p.mem_iff.mp hu)⟩
theorem rowsOf_same {Vs : List Str} {es : List Ed} {nb nb' : Nb} {wt wt' : Wt} (ro : RowsOf Vs es nb wt) (sg : SameG Vs nb wt nb' wt') (nd : ∀ u ∈ Vs, (nb' u).Nodup) : RowsOf Vs es nb' wt' :=
  ⟨nd, fun u hu v => (sg.mem u hu v).trans (ro.mem u hu v), fun u hu v n h => by
    rw [sg.val u hu v ((ro.mem u hu v).mpr ⟨n, h⟩)]
    exact ro.val u hu v n h⟩
theorem Good60.valid {ns : List Str} {es fs : List Ed} (g : Good60 ns es) (p : fs.Perm es) : Valid ns fs := by
  refine ⟨g.nm, g.nd, g.two, g.few, fun i a b n hi => ?_, fun nb wt ro => g.con nb wt (rowsOf_perm p ro)⟩
  have hm := p.mem_iff.mp (List.mem_of_getElem? hi)
  obtain ⟨h1, h2, h3, h4⟩ := g.ed _ hm
  obtain ⟨h5, h6⟩ := (g.dis.perm p.symm).at_ hi
  exact ⟨h1, h2, h5, h3, h4, h6⟩
theorem eachPerm60 {α β : Type} {R : α → β → Prop} {as' as : List α} (h : as'.Perm as) : ∀ {bs : List β}, EachIs R as bs → ∃ bs', bs'.Perm bs ∧ EachIs R as' bs' := by
  induction h with
  | nil => exact fun e => ⟨_, .refl _, e⟩
  | cons a _ ih =>
    intro bs e
    cases e with
    | cons h t =>
      obtain ⟨bs', p, e'⟩ := ih t
      exact ⟨_ :: bs', .cons _ p, .cons h e'⟩
  | swap a b l =>
    intro bs e
    cases e with
    | cons h t =>
      cases t with
      | cons h2 t2 => exact ⟨_, .swap _ _ _, .cons h2 (.cons h t2)⟩
  | trans _ _ h1 h2 =>
    intro bs e
    obtain ⟨b1, p1, e1⟩ := h2 e
    obtain ⟨b2, p2, e2⟩ := h1 e1
    exact ⟨b2, p2.trans p1, e2⟩
theorem eds_each {H : Hp} : ∀ {rs : List Addr} {es : List Ed}, EdsAt K H rs es ↔ EachIs (fun r (e : Ed) => SqT K H r [.str e.1, .str e.2.1, .int e.2.2]) rs es
  | [], [] => ⟨fun _ => .nil, fun _ => ⟨rfl, fun i r e h => by cases i <;> cases h⟩⟩
  | [], _ :: _ => ⟨fun h => absurd h.1 (by simp), fun h => nomatch h⟩
  | _ :: _, [] => ⟨fun h => absurd h.1 (by simp), fun h => nomatch h⟩
  | r :: rs, e :: es => ⟨fun h => .cons (h.2 0 r e rfl rfl) (eds_each.mp ⟨by simpa using h.1, fun i r e h1 h2 => h.2 (i + 1) r e (by rw [List.getElem?_cons_succ]; exact h1) (by rw [List.getElem?_cons_succ]; exact h2)⟩), fun h => by
      cases h with
      | cons h t =>
        obtain ⟨l, k⟩ := eds_each.mpr t
        refine ⟨by rw [List.length_cons, List.length_cons, l], fun i r' e' h1 h2 => ?_⟩
        cases i with
        | zero =>
          cases h1
          cases h2
          exact h
        | succ i =>
          rw [List.getElem?_cons_succ] at h1 h2
          exact k i r' e' h1 h2⟩
theorem eds_perm {H : Hp} {rs' rs : List Addr} (h : rs'.Perm rs) {es : List Ed} (e : EdsAt K H rs es) : ∃ es', es'.Perm es ∧ EdsAt K H rs' es' := by
  obtain ⟨es', p, e'⟩ := eachPerm60 h (eds_each.mp e)
  exact ⟨es', p, eds_each.mpr e'⟩
def spBuilt (K : PySem.W.Frag) (T : List (Addr × Str)) (C : Addr) : Sp := fun vs H Q _ => ∃ (p cs na ea : Addr) (N : Nat) (ns : List Str) (rs : List Addr) (es : List Ed), vs = [.ref p, .ref na, .ref ea] ∧ Pen H p cs N ∧ N + 2000 < 2 ^ 60 ∧ H na = some (.lst (ns.map V.str)) ∧ H ea = some (.lst (rs.map V.ref)) ∧ EdsAt K H rs es ∧ es.length ≤ 1000 ∧ Good60 ns es ∧ Tabs T H ∧
  ∀ x Vs nb wt rt n m en H', (∀ b o, H b = some o → b ≠ p → (∀ ps, o ≠ .tbl ps) → H' b = some o) → Tabs T H' → H x = none → NetO H' x C [] Vs nb wt rt n m en 0 1 → Vs.Perm ns → RowsOf Vs es nb wt → Pen H' p cs (N + es.length + 1) → Q (.ref x) H'
theorem sc_built60 : FnScope ["_law_pen_here", "_law_names", "_law_edges", "_law_house"] ["_law_pen_here", "_law_names", "_law_edges"] (defScope s_L_built_house) := ⟨rfl, rfl, rfl, by decide +kernel, rfl, by decide +kernel, by decide +kernel⟩
theorem c_built60 {C fG CU : Addr} {tbT : List (Addr × Str)} (D : Def K mg "_law_built_house" s_L_built_house) (B : Bi mg) (nc : NCls K C C fG) (NM : MakeC P w K mg base CX0 C "Network" 6 (spNet K tbT C fG)) (SR : MethC P w K mg base (CX P w) C "set_root" 7 (spSetRoot K tbT C CU)) (CS : Callee P w K mg base CX0 2 "_law_shuffled" ["_law_pen_here", "_law_some"] (spShuf K)) (CP : Callee P w K mg base CX0 2 "_law_pick" ["_law_pen_here", "_law_some"] (spPick K)) :
    Callee P w K mg base CX0 8 "_law_built_house" ["_law_pen_here", "_law_names", "_law_edges"] (spBuilt K tbT C) := by
  obtain ⟨f, fd, F, g⟩ := D
  refine ⟨f, fd, F.ok sc_built60 (fun vs H Q E h => ?_) (fun cdv A outer s H vs Q E hr h => ?_), g, F.kp, F.bindsN (fun _ _ _ _ _ _ us hl => match us, hl with | [_, _, _], _ => rfl)⟩
  · obtain ⟨p, cs, na, ea, N, ns, rs, es, rfl, _⟩ := h
    rfl
  have hu := hu_of hr
  have nd := sc_built60.nd
  have hr7 : Room 7 _ := hr
  have hr2 : Room 2 _ := hr.mono (by decide)
  have cl := nc.g.cls
  refine ⟨_, PSs.nox (pss_cons (ps_set (i := 3) nd rfl (Or.inl rfl) (WkC.pe_mk NM hr7 pass0 (pa_cons (pv 1) (pa_cons (pe_c CS hr2 pass0 (pa_cons (pv 0) (pa_cons (pv 2) pa_nil))) pa_nil))))
      (pss_cons (ps_expr (WkC.pe_mt SR cl hr7 WkK.passF (pv 3) (pa_cons (pe_c CP hr2 pass0 (pa_cons (pv 0) (pa_cons (pv 1) pa_nil))) pa_nil)))
      (pss_one (ps_ret (pv 3))))), ?_⟩
  obtain ⟨p, cs, na, ea, N, ns, rs, es, rfl, hP, hN, hna, hea, hE, les, G, hT, k⟩ := h
  refine ⟨_, rfl, _, rfl, _, rfl, p, cs, ea, N, true, rs.map V.ref, rfl, hP, by rw [List.length_map, hE.1]; omega, SqL.of hea, by rw [List.length_map, hE.1]; omega, fun sa ys H1 b1 nsa hsa pm P1 => ?_⟩
  obtain ⟨rs', rfl, pr⟩ := perm_map pm rfl
  have hpo : ∃ kvs, H p = some (.dK kvs) := by
    obtain ⟨⟨t, r, h1, _⟩, _⟩ := hP
    exact ⟨_, h1⟩
  obtain ⟨pk, hpk⟩ := hpo
  have nap : na ≠ p := ne_of hna hpk (by intro z; cases z)
  have hE1 : EdsAt K H1 rs es := eds_each.mpr ((eds_each.mp hE).mono fun r e h => by
    rcases h with (h | ⟨o, h⟩) | h
    · exact .inl (.inl (b1 _ _ h (ne_of h hpk (by intro z; cases z))))
    · exact .inl (.inr ⟨o, b1 _ _ h (ne_of h hpk (by intro z; cases z))⟩)
    · exact .inr h)
  obtain ⟨es', pe, hE2⟩ := eds_perm pr hE1
  have hna1 := b1 _ _ hna nap
  have T1 : Tabs tbT H1 := tabs_but hT hpk trivial b1
  intro x dx nx ndx ne
  have s2 : Same H1 (upd (upd H1 dx (.own x)) x (.ins C dx [])) := fun b o hb => by
    rw [upd_ne (ne_of_none hb nx), upd_ne (ne_of_none hb ndx)]
    exact hb
  refine ⟨x, C, dx, na, sa, true, true, ns, es', rs', rfl, upd_same, nc, SqL.of (s2 _ _ hna1), SqL.of (s2 _ _ hsa), hE2.same s2, G.valid pe, T1.ext s2, fun q Ws bd nb wt t n ms me en H2 eB T2 hx2 hme hen rz pw aw ro an ht hmin lc => ⟨rfl, ?_⟩⟩
  have e2 : ∀ b o, H1 b = some o → (∀ ps, o ≠ .tbl ps) → H2 b = some o := fun b o hb no => eB b o (s2 b o hb) (ne_of_none hb nx) no
  have P2 : Pen H2 p cs _ := P1.ext e2
  have N2 : NetO H2 x C [] Ws nb wt t n me en 0 0 := ⟨⟨dx, q, bd, hx2, rz⟩, .inl rfl, aw, an, (G.valid pe).gok ro pw, ⟨ms, lc⟩, pw.mem_iff.mpr ht⟩
  have ro2 : RowsOf Ws es nb wt := rowsOf_set pw (rowsOf_perm pe ro)
  have nxH : H x = none := by
    cases e : H x with
    | none => rfl
    | some o =>
      by_cases c : x = p
      · obtain ⟨⟨t, r, h1, _⟩, _⟩ := P1
        rw [c, h1] at nx
        cases nx
      · rw [b1 _ _ e c] at nx
        cases nx
  have hna2 := e2 _ _ hna1 (fun ps z => by cases z)
  refine ⟨_, rfl, x, dx, _, rfl, hx2, rfl, _, rfl, _, rfl, p, cs, _, P2, by rw [List.length_map, hE.1]; omega, .inl ⟨na, _, rfl, .inl (SqL.of hna2), ?_, ?_, fun xv H3 hxv b3 P3 => ?_⟩⟩
  · have := G.two
    intro z
    rw [List.map_eq_nil_iff] at z
    rw [z] at this
    simp at this
  · rw [List.length_map]
    have := G.few
    omega
  obtain ⟨v, hv, rfl⟩ := List.mem_map.mp hxv
  have hpk2 : ∃ kvs, H2 p = some (.dK kvs) := by
    obtain ⟨⟨t, r, h1, _⟩, _⟩ := P2
    exact ⟨_, h1⟩
  obtain ⟨pk2, hpk2⟩ := hpk2
  have xp : x ≠ p := ne_of hx2 hpk2 (by intro z; cases z)
  have N3 : NetO H3 x C [] Ws nb wt t n me en 0 0 := N2.keep fun c o hc ho => b3 c o hc fun z => by
    rcases ho with ho | ⟨o1, o2, ho⟩
    · exact xp (ho ▸ z)
    · rw [z, hpk2, ho] at hc
      cases hc
  have T3 : Tabs tbT H3 := tabs_but T2 hpk2 trivial b3
  have mep : me ≠ p := ne_of hme hpk2 (by intro z; cases z)
  have hvW : v ∈ Ws := pw.mem_iff.mpr hv
  have zl : v.length ≤ sizeLine := name_len (G.nm v hv)
  refine ⟨x, .str v, [], t, n, me, en, 0, 0, [], Ws, nb, wt, rfl, N3, .inl (.inl (b3 _ _ hme mep)), by decide, T3, .inl ⟨v, rfl, zl⟩, fun t' et ht' nb' wt' n' m' ed H4 k3 T4 N4 hm4 hed sg => ?_, fun hno => absurd ⟨v, hvW, rfl⟩ hno⟩
  cases et
  refine ⟨_, rfl, k x Ws nb' wt' v n' m' en H4 (fun b o hb hbp no => ?_) T4 nxH N4 pw (rowsOf_same ro2 sg N4.gok.sym.nd) ?_⟩
  · exact k3 b o (b3 _ _ (e2 _ _ (b1 _ _ hb hbp) no) hbp) (ne_of_none hb nxH) no
  · have hxc : cs ≠ x := by
      obtain ⟨_, ns0, h3, _⟩ := hP
      exact ne_of_none h3 nxH
    rw [List.length_map, hE.1] at P3
    obtain ⟨⟨t0, r0, h1, h2⟩, ns0, h3, h4⟩ := P3
    exact ⟨⟨t0, r0, k3 _ _ h1 (Ne.symm xp) (fun ps z => by cases z), h2⟩, ns0, k3 _ _ h3 hxc (fun ps z => by cases z), h4⟩
end
end Wk
namespace Wk
open PySem PySem.Spec PyProof.Rows L2 WkD WkN LamX WkP WkE WkC
open PySem.W (EachIs)
theorem rch_trans60 {nb : Nb} {s u v : Str} (h : Rch nb s u) (k : Rch nb u v) : Rch nb s v := by
  induction k with
  | here => exact h
  | go _ e ih => exact .go ih e
theorem con_pre {ns : List Str} {es : List Ed} (h : ∀ k, 1 ≤ k → k < ns.length → ∃ j, j < k ∧ ∃ n, Adj es (ns.getD j sE) (ns.getD k sE) n) {nb : Nb} {wt : Wt} (ro : RowsOf ns es nb wt) : ∀ s ∈ ns, ∀ u ∈ ns, Rch nb s u := by
  have both : ∀ k, k < ns.length → Rch nb (ns.getD 0 sE) (ns.getD k sE) ∧ Rch nb (ns.getD k sE) (ns.getD 0 sE) := by
    intro k
    induction k using Nat.strongRecOn with
    | _ k ih =>
      intro hk
      by_cases c : k = 0
      · subst c
        exact ⟨.here, .here⟩
      · obtain ⟨j, hj, n, hn⟩ := h k (by omega) hk
        obtain ⟨i1, i2⟩ := ih j hj (by omega)
        have e1 : ns.getD k sE ∈ nb (ns.getD j sE) := (ro.mem _ (nm_mem (by omega)) _).mpr ⟨n, hn⟩
        have e2 : ns.getD j sE ∈ nb (ns.getD k sE) := (ro.mem _ (nm_mem hk) _).mpr ⟨n, hn.symm⟩
        exact ⟨.go i1 e1, rch_trans60 (.go .here e2) i2⟩
  intro s hs u hu
  obtain ⟨i, hi, rfl⟩ := List.mem_iff_getElem.mp hs
  obtain ⟨j, hj, rfl⟩ := List.mem_iff_getElem.mp hu
  have gi : ns.getD i sE = ns[i] := by rw [List.getD_eq_getElem?_getD, List.getElem?_eq_getElem hi]; rfl
  have gj : ns.getD j sE = ns[j] := by rw [List.getD_eq_getElem?_getD, List.getElem?_eq_getElem hj]; rfl
  rw [← gi, ← gj]
  exact rch_trans60 (both i hi).2 (both j hj).1
theorem dis_of {n : Nat} {f : Nat → Ed} (h1 : ∀ i, i < n → (f i).1 ≠ (f i).2.1) (h2 : ∀ i j, i < n → j < n → i ≠ j → ¬ (((f i).1 = (f j).1 ∧ (f i).2.1 = (f j).2.1) ∨ ((f i).1 = (f j).2.1 ∧ (f i).2.1 = (f j).1))) : Dis ((List.range n).map f) := by
  refine ⟨fun e he => ?_, List.pairwise_map.mpr (List.nodup_range.imp_of_mem fun {a b} ha hb ne => h2 a b (List.mem_range.mp ha) (List.mem_range.mp hb) ne)⟩
  obtain ⟨i, hi, rfl⟩ := List.mem_map.mp he
  exact h1 i (List.mem_range.mp hi)
theorem good_ring {ns : List Str} {ws : List Int} (nm : ∀ u ∈ ns, nameB u = true) (nd : ns.Nodup) (l3 : 3 ≤ ns.length) (l40 : ns.length ≤ 40) (lw : ws.length = ns.length) (hw : ∀ x ∈ ws, 1 ≤ x ∧ x ≤ 1000000000) : Good60 ns (ringE ns ws) := by
  have at_ : ∀ k, k < ns.length → 1 ≤ ws.getD k 0 ∧ ws.getD k 0 ≤ 1000000000 := fun k hk => hw _ (List.mem_of_getElem? (getD_at (by omega)))
  refine ⟨nm, nd, by omega, l40, fun e he => ?_, dis_of (fun i hi z => ?_) (fun i j hi hj ne => ?_), fun nb wt ro => con_pre (fun k h1 hk => ⟨k - 1, by omega, ws.getD k 0, .inl (List.mem_map.mpr ⟨k, List.mem_range.mpr hk, ?_⟩)⟩) ro⟩
  · obtain ⟨k, hk, rfl⟩ := List.mem_map.mp he
    have hk := List.mem_range.mp hk
    exact ⟨nm_mem (prv_lt hk), nm_mem hk, at_ k hk⟩
  · have := nm_inj nd (prv_lt hi) hi z
    unfold prv at this
    split at this <;> omega
  · rintro (⟨h1, h2⟩ | ⟨h1, h2⟩)
    · exact ne (nm_inj nd hi hj h2)
    · have e1 := nm_inj nd (prv_lt hi) hj h1
      have e2 := nm_inj nd hi (prv_lt hj) h2
      unfold prv at e1 e2
      split at e1 <;> split at e2 <;> omega
  · have : prv ns.length k = k - 1 := by
      unfold prv
      rw [if_neg (by omega)]
    rw [this]
section
variable {Vs ns : List Str} {es : List Ed} {nb : Nb} {wt : Wt}
theorem good_cut (g : Good60 ns es) (pw : Vs.Perm ns) (ro : RowsOf Vs es nb wt) (S : Sd) : cutW Vs (vl0 nb wt) S = cutL es S :=
  cutW_list (pw.nodup_iff.mpr g.nd) ro g.dis (fun e he => ⟨pw.mem_iff.mpr (g.ed e he).1, pw.mem_iff.mpr (g.ed e he).2.1⟩) S
theorem gok_nn (go : GOk Vs nb wt) : ∀ u ∈ Vs, ∀ v ∈ Vs, 0 ≤ vl0 nb wt u v := fun u hu v hv => by
  unfold vl0
  split
  · have := (go.wts u hu v ‹_›).1
    omega
  · exact Int.le_refl _
theorem lc_val (go : GOk Vs nb wt) (pw : Vs.Perm ns) {cw : Sd → Int} (hc : ∀ S, cutW Vs (vl0 nb wt) S = cw S) {n m0 : Int} {ms : List Str} (lc : LeastCut Vs nb wt n ms) (h1 : ∀ S : Sd, (∃ y ∈ ns, S y = true) → (∃ y ∈ ns, S y = false) → m0 ≤ cw S) (h2 : ∃ S : Sd, (∃ y ∈ ns, S y = true) ∧ (∃ y ∈ ns, S y = false) ∧ cw S = m0) : n = m0 := by
  obtain ⟨⟨en, mne, msub, mout⟩, least⟩ := lc.least go.nd go.sym (gok_nn go)
  have tr : ∀ {S : Sd} {b : Bool}, (∃ y ∈ ns, S y = b) ↔ ∃ y ∈ Vs, S y = b := fun {S b} => ⟨fun ⟨y, h, e⟩ => ⟨y, pw.mem_iff.mpr h, e⟩, fun ⟨y, h, e⟩ => ⟨y, pw.mem_iff.mp h, e⟩⟩
  obtain ⟨S, a1, a2, a3⟩ := h2
  have k1 := least S (tr.mp a1) (tr.mp a2)
  rw [hc, a3] at k1
  obtain ⟨y, hy⟩ := List.exists_mem_of_ne_nil _ mne
  obtain ⟨z, hz, hz2⟩ := mout
  have k2 := h1 (fun y => decide (y ∈ ms)) (tr.mpr ⟨y, msub y hy, decide_eq_true hy⟩) (tr.mpr ⟨z, hz, decide_eq_false hz2⟩)
  rw [← hc, ← en] at k2
  omega
theorem ps_val {u v : Str} {n m : Int} (hc : ∀ S, cutW Vs (vl0 nb wt) S = cutL es S) (ps : PairStr Vs (vl0 nb wt) u v n) (h1 : ∀ S : Sd, S u ≠ S v → m ≤ cutL es S) (h2 : ∃ S : Sd, S u ≠ S v ∧ cutL es S = m) : n = m :=
  IsLam.uniq (l := Vs) (w := vl0 nb wt) (u := u) (v := v) ps (isLam_of hc h1 h2)
theorem cores_least {hd : Str → Str} {m m0 : Int} (go : GOk Vs nb wt) (CO : CoresOk (lamOf Vs (vl0 nb wt)) Vs hd m) (hc : ∀ S, cutW Vs (vl0 nb wt) S = cutL es S) (h1 : ∀ S : Sd, (∃ y ∈ Vs, S y = true) → (∃ y ∈ Vs, S y = false) → m0 ≤ cutL es S) (h2 : ∃ S : Sd, (∃ y ∈ Vs, S y = true) ∧ (∃ y ∈ Vs, S y = false) ∧ cutL es S = m0) : m = m0 := by
  have LO := lamOf_ok (vl0_sym go.sym) (gok_nn go)
  obtain ⟨u, hu, v, hv, ne, e⟩ := CO.at_
  obtain ⟨⟨S, s1, s2, s3⟩, _⟩ := LO.is u hu v hv ne
  have k1 := h1 S ⟨u, hu, s1⟩ ⟨v, hv, s2⟩
  rw [hc] at s3
  obtain ⟨T, ⟨y, hy, y1⟩, ⟨z, hz, z1⟩, t3⟩ := h2
  have yz : y ≠ z := fun q => by
    rw [q, z1] at y1
    cases y1
  obtain ⟨_, k2⟩ := LO.is y hy z hz yz
  have k2 := k2 T y1 z1
  have k3 := CO.ge y hy z hz yz
  rw [hc] at k2
  omega
theorem bump_vl {u v : Str} (sy : Sym Vs nb wt) (hu : u ∈ Vs) (hv : v ∈ nb u) : ∀ x ∈ Vs, ∀ y ∈ Vs, vl0 nb (bump wt u v) x y = vl0 nb wt x y + if (u = x ∧ v = y) ∨ (v = x ∧ u = y) then 1 else 0 := fun x hx y hy => by
  obtain ⟨h1, h2, h3, h4⟩ := sy.mem u hu v hv
  unfold vl0 bump upw
  by_cases xu : x = u
  · subst xu
    by_cases yv : y = v
    · subst yv
      simp [hv, Ne.symm h2]
    · simp [yv, Ne.symm yv, Ne.symm h2]
      have e : (if v = x ∧ x = y then (1 : Int) else 0) = 0 := if_neg fun z => h2 z.1
      rw [e, Int.add_zero]
  · by_cases xv : x = v
    · subst xv
      by_cases yu : y = u
      · subst yu
        simp [h2, Ne.symm h2, h3, h4]
      · simp [h2, Ne.symm h2, yu, Ne.symm yu]
    · simp [xu, xv, Ne.symm xu, Ne.symm xv]
theorem bump_nn {u v : Str} (nn : ∀ x ∈ Vs, ∀ y ∈ Vs, 0 ≤ vl0 nb wt x y) (sy : Sym Vs nb wt) (hu : u ∈ Vs) (hv : v ∈ nb u) : ∀ x ∈ Vs, ∀ y ∈ Vs, 0 ≤ vl0 nb (bump wt u v) x y := fun x hx y hy => by
  rw [bump_vl sy hu hv x hx y hy]
  have := nn x hx y hy
  split <;> omega
theorem bump_least {u v : Str} {m2 : Int} {ms2 : List Str} (go : GOk Vs nb wt) (pw : Vs.Perm ns) (hc : ∀ S, cutW Vs (vl0 nb wt) S = cutL es S) (hu : u ∈ Vs) (hv : v ∈ nb u) (lc2 : LeastCut Vs nb (bump wt u v) m2 ms2) :
    (∀ S : Sd, (∃ y ∈ ns, S y = true) → (∃ y ∈ ns, S y = false) → m2 ≤ cutL es S + if S u = S v then 0 else 1) ∧ ∃ S : Sd, (∃ y ∈ ns, S y = true) ∧ (∃ y ∈ ns, S y = false) ∧ (cutL es S + if S u = S v then 0 else 1) = m2 := by
  obtain ⟨h1, h2, _, _⟩ := go.sym.mem u hu v hv
  have hb : ∀ S, cutW Vs (vl0 nb (bump wt u v)) S = cutL es S + if S u = S v then 0 else 1 := fun S => by
    rw [cut_bump go.nd hu h1 (Ne.symm h2) (bump_vl go.sym hu hv) S, hc]
  obtain ⟨⟨en, mne, msub, mout⟩, least⟩ := lc2.least go.nd (bump_sym go.sym hu hv) (bump_nn (gok_nn go) go.sym hu hv)
  have tr : ∀ {S : Sd} {b : Bool}, (∃ y ∈ ns, S y = b) ↔ ∃ y ∈ Vs, S y = b := fun {S b} => ⟨fun ⟨y, h, e⟩ => ⟨y, pw.mem_iff.mpr h, e⟩, fun ⟨y, h, e⟩ => ⟨y, pw.mem_iff.mp h, e⟩⟩
  obtain ⟨y, hy⟩ := List.exists_mem_of_ne_nil _ mne
  obtain ⟨z, hz, hz2⟩ := mout
  refine ⟨fun S a1 a2 => by rw [← hb]; exact least S (tr.mp a1) (tr.mp a2), fun y => decide (y ∈ ms2), tr.mpr ⟨y, msub y hy, decide_eq_true hy⟩, tr.mpr ⟨z, hz, decide_eq_false hz2⟩, ?_⟩
  rw [← hb]
  exact en.symm
end
end Wk
namespace Wk
open PySem PySem.Spec PyProof.Rows L2 WkD WkN LamX WkP WkE WkC
open PySem.W (EachIs)
section
variable {P : Program} {w : World} {K : PySem.W.Frag} {mg : Str → Option Value} {base : Heap}
theorem atI_prv {xs : List V} {k : Nat} (hk : k < xs.length) : atI xs ((k : Int) - 1) = xs[prv xs.length k]? := by
  unfold prv
  by_cases c : k = 0
  · subst c
    rw [if_pos rfl]
    unfold atI ixN
    rw [if_neg (by omega)]
    rw [if_pos (by omega)]
    show xs[_]? = _
    congr 1
    omega
  · rw [if_neg c]
    rw [show (k : Int) - 1 = ((k - 1 : Nat) : Int) by omega]
    exact atI_nat (List.getElem?_eq_getElem (by omega)) |>.trans (List.getElem?_eq_getElem (by omega)).symm
theorem cutV_mid0 {ys : List V} {k j : Int} (h0 : 0 ≤ k) (h1 : k ≤ j) (h2 : j ≤ ys.length) : cutV ys (some k) (some j) = (ys.drop k.toNat).take (j.toNat - k.toNat) := by
  obtain ⟨a, rfl⟩ : ∃ n : Nat, k = (n : Int) := ⟨k.toNat, by omega⟩
  obtain ⟨b, rfl⟩ : ∃ n : Nat, j = (n : Int) := ⟨j.toNat, by omega⟩
  unfold cutV
  rw [HT.sIx_nat, HT.sIx_nat]
  simp only [Int.toNat_natCast]
  rw [Nat.min_eq_left (by omega), Nat.min_eq_left (by omega)]
theorem cutV_mid60 {ys : List V} {k j : Nat} (h1 : k ≤ j) (h2 : j ≤ ys.length) : cutV ys (some (k : Int)) (some (j : Int)) = (ys.take j).drop k := by
  rw [cutV_mid0 (by omega) (by omega) (by omega), List.drop_take]
  simp
def spBout60 (T : List (Addr × Str)) : Sp := fun vs H Q _ => ∃ (p cs : Addr) (N : Nat), vs = [.ref p] ∧ Pen H p cs N ∧ N + 10000 < 2 ^ 60 ∧ Tabs T H ∧
  ∀ H', (∀ b o, H b = some o → b ≠ p → (∀ ps, o ≠ .tbl ps) → H' b = some o) → Tabs T H' → Pen H' p cs (N + 10000) → Q (.bl true) H'
theorem sc_ring60 : FnScope ["_law_pen_here", "_law_names", "_law_some", "_law_weights_here", "_law_name", "_law_house", "_law_k", "_law_low", "_law_rows", "_law_turn", "_law_one", "_law_two", "_law_due", "_law_both", "_law_core"] ["_law_pen_here"] (defScope s_L_ring_right) := ⟨rfl, rfl, rfl, by decide +kernel, rfl, by decide +kernel, by decide +kernel⟩
theorem c_ring60 {tbT : List (Addr × Str)} {CN CU CE CS' : Addr} (D : Def K mg "_law_ring_right" s_L_ring_right) (B : Bi mg) (NK : FCls K CN)
    (PF : PropC P w K mg base CX0 CN "strength" 1 (spFound CN)) (MCo : MethC P w K mg base CX0 CN "cores" 6 (spCores K))
    (C_words : Callee P w K mg base CX0 3 "_law_words" ["_law_pen_here", "_law_many"] (spWords K)) (C_draw : Callee P w K mg base CX0 1 "_law_draw" ["_law_pen_here", "_law_many"] spDraw) (C_wts : Callee P w K mg base CX0 2 "_law_weights" ["_law_pen_here"] spWeights) (C_pick : Callee P w K mg base CX0 2 "_law_pick" ["_law_pen_here", "_law_some"] (spPick K)) (C_shuf : Callee P w K mg base CX0 2 "_law_shuffled" ["_law_pen_here", "_law_some"] (spShuf K))
    (C_built : Callee P w K mg base CX0 8 "_law_built_house" ["_law_pen_here", "_law_names", "_law_edges"] (spBuilt K tbT CN)) (C_ps : Callee P w K mg base (CX P w) 4 "pair_strength" ["network", "u", "v"] (spPairS K CN CU CS')) (C_role : Callee P w K mg base (CX P w) 7 "role" ["network", "u", "v"] (spRole K tbT CN CU CE)) (C_sl : Callee P w K mg base (CX P w) 6 "slack" ["network", "u", "v"] (spSlack K tbT CN CU CE)) (C_rw : Callee P w K mg base CX0 1 "_law_ring_word" ["_law_weights_here", "_law_low", "_law_weight"] (spRWord K)) :
    Callee P w K mg base CX0 9 "_law_ring_right" ["_law_pen_here"] (spBout60 tbT) := by
  obtain ⟨f, fd, F, g⟩ := D
  refine ⟨f, fd, F.ok sc_ring60 (fun vs H Q E h => ?_) (fun cdv A outer s H vs Q E hr h => ?_), g, F.kp, F.bindsN (fun _ _ _ _ _ _ us hl => match us, hl with | [_], _ => rfl)⟩
  · obtain ⟨p, cs, N, rfl, _⟩ := h
    rfl
  have hu := hu_of hr
  have nd := sc_ring60.nd
  have hr8 : Room 8 _ := hr
  have hr7 : Room 7 _ := hr.mono (by decide)
  have hr6 : Room 6 _ := hr.mono (by decide)
  have hr4 : Room 4 _ := hr.mono (by decide)
  have hr3 : Room 3 _ := hr.mono (by decide)
  have hr2 : Room 2 _ := hr.mono (by decide)
  have hr1 : Room 1 _ := hr.mono (by decide)
  refine ⟨_, PSs.nox (pss_cons (ps_asg (pe_tup (pa_cons (pe_c C_words hr3 pass0 (pa_cons (pv 0) (pa_cons (pe_op op_add pe_int (pe_c C_draw hr1 pass0 (pa_cons (pv 0) (pa_cons pe_int pa_nil)))) pa_nil))) (pa_cons (pe_c C_wts hr2 pass0 (pa_cons (pv 0) pa_nil)) pa_nil))) (WkN.pgT K 2 rfl rfl (pgs_cons (pg_name (i := 1) nd rfl (Or.inr rfl)) (pgs_cons (pg_name (i := 2) nd rfl (Or.inr rfl)) pgs_nil)) rfl))
      (pss_cons (ps_set (i := 3) nd rfl (Or.inr rfl) (pe_lc (own := [("_law_name", 4)]) (by rfl) nd (pi_list (pv 1)) (blkOk_by (by kernel_rfl)) (fun _ _ _ _ _ => (pg_name (i := 4) nd rfl (Or.inl rfl))) (fun _ _ _ _ _ => pts_nil) (fun _ _ _ _ _ => (pe_c C_pick hr2 pass0 (pa_cons (pv 0) (pa_cons (pv 2) pa_nil))))))
      (pss_cons (ps_set (i := 5) nd rfl (Or.inl rfl) (pe_c C_built hr8 pass0 (pa_cons (pv 0) (pa_cons (pv 1) (pa_cons (pe_lc (own := [("_law_k", 6)]) (by rfl) nd (pi_range1 (by rfl) B.n_range (pa_cons (pe_callB call_len_seq (by rfl) B.n_len (by decide +kernel) (pa_cons (pv 1) pa_nil)) pa_nil)) (blkOk_by (by kernel_rfl)) (fun _ _ _ _ _ => (pg_name (i := 6) nd rfl (Or.inl rfl))) (fun _ _ _ _ _ => pts_nil) (fun _ _ _ _ _ => (pe_tup (pa_cons (pe_ix (WkK.ixL K (by rfl)) (pv 1) (pe_op op_sub (pv 6) pe_int) (fun _ _ => rfl)) (pa_cons (pe_ix (WkK.ixL K (by rfl)) (pv 1) (pv 6) (fun _ _ => rfl)) (pa_cons (pe_ix (WkK.ixL K (by rfl)) (pv 3) (pv 6) (fun _ _ => rfl)) pa_nil)))))) pa_nil)))))
      (pss_cons (ps_par (i := 7) (j := 8) (by rfl) nd rfl rfl (by decide) rfl rfl (pa_cons (pe_slice sl_list (pe_callB cr_sortedI (by rfl) B.n_sorted (by decide +kernel) (pa_cons (pv 3) pa_nil)) po_none (po_some pe_int)) (pa_cons (WkV.pe_mt0 MCo NK.cls hr6 pass0 (pv 5)) pa_nil)) (by rfl))
      (pss_cons (ps_if (pt_cmpR op_ne (WkC.pe_pr PF NK.cls hr2 pass0 (pv 5)) (pe_callB (cr_sum rfl) (by rfl) B.n_sum (by decide +kernel) (pa_cons (pv 7) pa_nil)) (nomark _))
      (pss_one (ps_ret pe_bl)) pss_nil)
      (pss_cons (ps_for PassesOwn.never rfl (pi_range1 (by rfl) B.n_range (pa_cons pe_int pa_nil)) (pg_name (i := 9) nd rfl (Or.inl rfl))
      (pss_cons (ps_asg (pe_callB cr_sortedI (by rfl) B.n_sorted (by decide +kernel) (pa_cons (pe_slice sl_list (pe_c C_shuf hr2 pass0 (pa_cons (pv 0) (pa_cons (pe_listRg rfl (by rfl) B.n_list (prg_1 (by rfl) B.n_range (pe_callB call_len_seq (by rfl) B.n_len boot_len (pa_cons (pv 1) pa_nil)))) pa_nil))) po_none (po_some pe_int)) pa_nil)) (WkU.pgL K 2 rfl rfl (pgs_cons (pg_name (i := 10) nd rfl (Or.inr rfl)) (pgs_cons (pg_name (i := 11) nd rfl (Or.inr rfl)) pgs_nil)) rfl))
      (pss_cons (ps_set (i := 12) nd rfl (Or.inl rfl) (pe_callB (cr_min rfl) (by rfl) B.n_min (by decide +kernel) (pa_cons (pe_slice sl_list (pv 3) (po_some (pe_op op_add (pv 10) pe_int)) (po_some (pe_op op_add (pv 11) pe_int))) pa_nil)))
      (pss_cons (ps_set (i := 12) nd rfl (Or.inl rfl) (pe_op op_add (pv 12) (pe_callB (cr_min rfl) (by rfl) B.n_min (by decide +kernel) (pa_cons (pe_op op_cat (pe_slice sl_list (pv 3) po_none (po_some (pe_op op_add (pv 10) pe_int))) (pe_slice sl_list (pv 3) (po_some (pe_op op_add (pv 11) pe_int)) po_none)) pa_nil))))
      (pss_cons (ps_if (pt_cmpR op_ne (pe_c C_ps hr4 WkK.passF (pa_cons (pv 5) (pa_cons (pe_ix (WkK.ixL K (by rfl)) (pv 1) (pv 10) (fun _ _ => rfl)) (pa_cons (pe_ix (WkK.ixL K (by rfl)) (pv 1) (pv 11) (fun _ _ => rfl)) pa_nil)))) (pv 12) (nomark _))
      (pss_one (ps_ret pe_bl)) pss_nil)
      (pss_cons (ps_setLc (i := 13) (own := [("_law_core", 14)]) (by rfl) nd rfl rfl (sw_true rfl rfl rfl (by decide +kernel)) (pi_list (pv 8)) (blkOk_by (by kernel_rfl)) (fun _ _ _ _ _ => (pg_name (i := 14) nd rfl (Or.inl rfl))) (fun _ _ _ _ _ => (pts_one (PW.pt (pw_and (pt_cmpR (WkN.opIn K (by rfl)) (pe_ix (WkK.ixL K (by rfl)) (pv 1) (pv 10) (fun _ _ => rfl)) (pv 14) (by rfl)) (pw_and1 (pt_cmpR (WkN.opIn K (by rfl)) (pe_ix (WkK.ixL K (by rfl)) (pv 1) (pv 11) (fun _ _ => rfl)) (pv 14) (by rfl))))))) (fun _ _ _ _ _ => (pv 14)))
      (pss_one (ps_if (pt_cmpR op_ne (pe_cmpR (WkG.op_neNil hr.units) (pv 13) (pe_lst pa_nil) (nomark _)) (pe_cmpR op_gt (pv 12) (pe_callB (cr_sum rfl) (by rfl) B.n_sum (by decide +kernel) (pa_cons (pv 7) pa_nil)) (nomark _)) (nomark _))
      (pss_one (ps_ret pe_bl)) pss_nil))))))))
      (pss_cons (ps_set (i := 6) nd rfl (Or.inl rfl) (pe_c C_draw hr1 pass0 (pa_cons (pv 0) (pa_cons (pe_callB call_len_seq (by rfl) B.n_len (by decide +kernel) (pa_cons (pv 1) pa_nil)) pa_nil))))
      (pss_cons (ps_if (pt_cmpR op_ne (pe_c C_role hr7 WkK.passF (pa_cons (pv 5) (pa_cons (pe_ix (WkK.ixL K (by rfl)) (pv 1) (pe_op op_sub (pv 6) pe_int) (fun _ _ => rfl)) (pa_cons (pe_ix (WkK.ixL K (by rfl)) (pv 1) (pv 6) (fun _ _ => rfl)) pa_nil)))) (pe_c C_rw hr1 pass0 (pa_cons (pv 3) (pa_cons (pv 7) (pa_cons (pe_ix (WkK.ixL K (by rfl)) (pv 3) (pv 6) (fun _ _ => rfl)) pa_nil)))) (nomark _))
      (pss_one (ps_ret pe_bl)) pss_nil)
      (pss_one (ps_ret (pe_cmpR op_eq (pe_c C_sl hr6 WkK.passF (pa_cons (pv 5) (pa_cons (pe_ix (WkK.ixL K (by rfl)) (pv 1) (pe_op op_sub (pv 6) pe_int) (fun _ _ => rfl)) (pa_cons (pe_ix (WkK.ixL K (by rfl)) (pv 1) (pv 6) (fun _ _ => rfl)) pa_nil)))) (pe_callB (call_max2 rfl) (by rfl) B.n_max (by decide +kernel) (pa_cons pe_int (pa_cons (pe_op op_sub (pe_ix (WkK.ixL K (by rfl)) (pv 3) (pv 6) (fun _ _ => rfl)) (pe_ix (WkK.ixL K (by rfl)) (pv 7) pe_int (fun _ _ => rfl))) pa_nil))) (nomark _)))))))))))), ?_⟩
  obtain ⟨p, cs, N, rfl, hP, hN, hT, k⟩ := h
  have big : 100000 < sizeLine := by decide
  have kvp : ∀ {G : Hp} {M : Nat}, Pen G p cs M → ∃ kvs, G p = some (.dK kvs) := fun {G M} P => by
    obtain ⟨⟨t, r, h1, _⟩, _⟩ := P
    exact ⟨_, h1⟩
  have lne : ∀ {G : Hp} {M : Nat} {a : Addr} {xs : List V}, Pen G p cs M → G a = some (.lst xs) → a ≠ p := fun {G M a xs} P h z => by
    obtain ⟨kvs, h1⟩ := kvp P
    rw [z, h1] at h
    cases h
  refine ⟨_, rfl, _, rfl, p, cs, 38, N, rfl, by decide, by decide, hP, by omega, fun d H1 d0 d1 b1 P1 => ?_⟩
  obtain ⟨m, rfl⟩ : ∃ m : Nat, d = m := ⟨d.toNat, by omega⟩
  refine ⟨_, _, rfl, rfl, p, cs, N + 1, 3 + m, rfl, P1, by omega, by omega, fun na ns H2 b2 nna hna nd0 ln nm P2 => ?_⟩
  refine ⟨_, rfl, p, cs, _, rfl, P2, by omega, fun qw ws0 H3 b3 nqw hqw wok P3 => ?_⟩
  refine ⟨by show 2 ≤ sizeLine; omega, fun t nt => ?_⟩
  generalize gg : upd H3 t _ = H4
  obtain ⟨s4, T4⟩ := new_eq nt gg
  clear gg
  refine ⟨t, _, rfl, .inl (.inl T4), rfl, _, _, rfl, _, _, rfl, rfl, ?_⟩
  have P4 := P3.same s4
  have hna4 := s4 _ _ (b3 _ _ hna (lne P2 hna))
  have hqw4 := s4 _ _ hqw
  have b04 : But p H H4 := b1.trans (b2.trans (b3.trans (But.of_same s4)))
  have nap := lne P4 hna4
  have qwp := lne P4 hqw4
  clear b1 b2 b3 s4 T4 nt P1 P2 P3 hna hqw
  have l40 : ns.length ≤ 40 := by omega
  have l3 : 3 ≤ ns.length := by omega
  refine ⟨_, rfl, na, rfl, ⟨_, SqL.of hna4⟩, fun wa nwa => ?_⟩
  refine lc_it (walk_list (xs := ns.map V.str)) (fun i Hc => (∀ b o, H4 b = some o → b ≠ p → Hc b = some o) ∧ Pen Hc p cs (N + 1 + (3 + m) + 2 + i) ∧ ∃ ws : List Int, Hc wa = some (.lst (ws.map V.int)) ∧ ws.length = i ∧ ∀ x ∈ ws, x ∈ ws0) ⟨fun b o hb _ => by rw [upd_ne (ne_of_none hb nwa)]; exact hb, P4.new nwa, [], upd_same, rfl, fun x h => nomatch h⟩ ?_ ?_ ?_
  · rintro i Hc hi ⟨c1, _⟩
    exact SqL.of (c1 _ _ hna4 nap)
  · rintro i y Hc Hc' hi ⟨c1, c2, ws, c3, c4, c5⟩ ⟨rfl, hy⟩
    rw [List.length_map] at hi
    refine ⟨rfl, tYes_if ⟨_, rfl, _, rfl, p, cs, _, c2, by omega, .inl ⟨qw, _, rfl, .inl (SqL.of (c1 _ _ hqw4 qwp)), ?_, ?_, fun xv H5 hx b5 P5 => ?_⟩⟩⟩
    · intro z
      exact wok.1 (List.map_eq_nil_iff.mp z)
    · rw [List.length_map]
      have := wok.2.2
      omega
    · obtain ⟨x0, hx0, rfl⟩ := List.mem_map.mp hx
      have wap := lne c2 c3
      have c3' := b5 _ _ c3 wap
      refine ⟨_, c3', by rw [List.length_map]; omega, fun b o hb hne => ?_, ?_, ws ++ [x0], ?_, by rw [List.length_append, c4]; rfl, fun z hz => ?_⟩
      · rw [upd_ne (ne_of_none hb nwa)]
        exact b5 _ _ (c1 _ _ hb hne) hne
      · refine (P5.put wap ?_).mono (by omega)
        intro z
        obtain ⟨_, n5, h5, _⟩ := P4
        rw [← z] at h5
        rw [h5] at nwa
        cases nwa
      · rw [upd_same, List.map_append]
        rfl
      · rcases List.mem_append.mp hz with z1 | z1
        · exact c5 z z1
        · rw [List.mem_singleton.mp z1]
          exact hx0
  rintro H5 ⟨c1, P5, ws, hws, lws, iws⟩
  rw [List.length_map] at P5 lws
  have hna5 := c1 _ _ hna4 nap
  have b05 : But p H H5 := fun b o hb hne => c1 _ _ (b04 _ _ hb hne) hne
  have wap := lne P5 hws
  have nap5 := lne P5 hna5
  clear c1 P4 hna4 hqw4 nwa b04
  have gn : ∀ k, k < ns.length → (ns.map V.str)[k]? = some (.str (ns.getD k sE)) := fun k hk => by
    rw [List.getElem?_map, List.getD_eq_getElem?_getD, List.getElem?_eq_getElem hk]
    rfl
  have gw : ∀ k, k < ns.length → (ws.map V.int)[k]? = some (.int (ws.getD k 0)) := fun k hk => by
    rw [List.getElem?_map, WkP.getD_at (show k < ws.length by omega)]
    rfl
  have lV : (ns.map V.str).length = ns.length := List.length_map ..
  refine ⟨_, rfl, _, rfl, _, rfl, na, _, rfl, .inl (SqL.of hna5), _, rfl, by rw [lV]; omega, by rw [lV]; omega, fun ea nea => ?_⟩
  have en : ((ns.map V.str).length : Int).toNat = ns.length := by rw [lV]; exact Int.toNat_natCast _
  rw [en]
  refine lc_it (walk_range (lo := 0) (n := ns.length)) (fun i Hc => Same H5 Hc ∧ ∃ rs : List Addr, Hc ea = some (.lst (rs.map V.ref)) ∧ rs.length ≤ i ∧ EdsAt K Hc rs ((List.range i).map fun k => (ns.getD (prv ns.length k) sE, ns.getD k sE, ws.getD k 0))) ⟨same_upd nea, [], upd_same, Nat.le_refl _, ⟨rfl, fun i r e h => by cases i <;> cases h⟩⟩ ?_ ?_ ?_
  · intros
    trivial
  · rintro i x Hc Hc' hi ⟨c1, rs, c2, c4, c3⟩ ⟨rfl, rfl⟩
    have na6 := c1 _ _ hna5
    have wa6 := c1 _ _ hws
    have i1 : atI (ns.map V.str) ((0 + (i : Int)) - 1) = some (.str (ns.getD (prv ns.length i) sE)) := by
      rw [show (0 + (i : Int)) - 1 = (i : Int) - 1 by omega, atI_prv (by rw [lV]; exact hi), lV]
      exact gn _ (prv_lt hi)
    have i2 : atI (ns.map V.str) (0 + (i : Int)) = some (.str (ns.getD i sE)) := by
      rw [Int.zero_add]
      exact atI_nat (gn i hi)
    have i3 : atI (ws.map V.int) (0 + (i : Int)) = some (.int (ws.getD i 0)) := by
      rw [Int.zero_add]
      exact atI_nat (gw i hi)
    refine ⟨rfl, tYes_if ⟨_, rfl, _, rfl, _, _, rfl, rfl, na, _, _, _, rfl, rfl, SqL.of na6, i1, _, rfl, _, rfl, na, _, _, _, rfl, rfl, SqL.of na6, i2, _, rfl, _, rfl, wa, _, _, _, rfl, rfl, SqL.of wa6, i3, by show 3 ≤ sizeLine; omega, fun q nq => ?_⟩⟩
    have eaq : ea ≠ q := ne_of_none c2 nq
    have s7 : Same Hc' (upd Hc' q (.tup [.str (ns.getD (prv ns.length i) sE), .str (ns.getD i sE), .int (ws.getD i 0)])) := same_upd nq
    refine ⟨rs.map V.ref, by rw [upd_ne eaq]; exact c2, by rw [List.length_map]; omega, fun b o hb => ?_, rs ++ [q], by rw [upd_same, List.map_append]; rfl, by rw [List.length_append, List.length_singleton]; omega, ?_⟩
    · rw [upd_ne (ne_of_none hb nea)]
      exact s7 _ _ (c1 _ _ hb)
    · rw [List.range_succ, List.map_append]
      have up : ∀ {r : Addr} {xs : List V}, SqT K Hc' r xs → SqT K (upd (upd Hc' q (.tup [.str (ns.getD (prv ns.length i) sE), .str (ns.getD i sE), .int (ws.getD i 0)])) ea (.lst (rs.map V.ref ++ [.ref q]))) r xs := fun {r xs} h => by
        rcases h with (h | ⟨o, h⟩) | h
        · exact .inl (.inl (by rw [upd_ne (ne_of h c2 (by intro z; cases z))]; exact s7 _ _ h))
        · exact .inl (.inr ⟨o, by rw [upd_ne (ne_of h c2 (by intro z; cases z))]; exact s7 _ _ h⟩)
        · exact .inr h
      exact eds_each.mpr (eachA ((eds_each.mp c3).mono fun r e h => up h) (.cons (.inl (.inl (by rw [upd_ne (Ne.symm eaq)]; exact upd_same))) .nil))
  rintro H6 ⟨s6, rs, hea, _, hE⟩
  have hE : EdsAt K H6 rs (ringE ns ws) := hE
  have P6 := P5.same s6
  have hna6 := s6 _ _ hna5
  have hws6 := s6 _ _ hws
  have b06 : But p H H6 := b05.trans (But.of_same s6)
  have hw : ∀ x ∈ ws, 1 ≤ x ∧ x ≤ 1000000000 := fun x hx => wok.2.1 x (iws x hx)
  have G := good_ring nm nd0 l3 l40 lws hw
  obtain ⟨kvs0, hpk⟩ := kvp hP
  have T6 : Tabs tbT H6 := tabs_but hT hpk trivial b06
  have lE : (ringE ns ws).length = ns.length := by unfold ringE; rw [List.length_map, List.length_range]
  clear hna5 hws P5 s6 b05 nea
  refine ⟨p, cs, na, ea, _, ns, rs, ringE ns ws, rfl, P6, by omega, hna6, hea, hE, by omega, G, T6, fun x Vs nb wt rt n me en7 H7 k7 T7 nx N7 pw ro P7 => ?_⟩
  have nt_lst : ∀ {xs : List V}, ∀ ps, HO.lst xs ≠ .tbl ps := fun {xs} ps z => by cases z
  have hna7 := k7 _ _ hna6 (lne P6 hna6) nt_lst
  have hws7 := k7 _ _ hws6 (lne P6 hws6) nt_lst
  have k07 : ∀ b o, H b = some o → b ≠ p → (∀ ps, o ≠ .tbl ps) → H7 b = some o := fun b o hb hne no => k7 b o (b06 b o hb hne) hne no
  have nn : ∀ i, i < ns.length → 0 ≤ ws.getD i 0 := fun i hi => by
    have := (hw _ (List.mem_of_getElem? (WkP.getD_at (show i < ws.length by omega)))).1
    omega
  have hc := good_cut G pw ro
  clear k7 hna6 hws6 P6 hea hE T6 b06 nx
  obtain ⟨dxh, pr, ad, hx7, rz7⟩ := id N7.ex
  have go := N7.gok
  refine ⟨_, rfl, wa, ws, rfl, SqL.of hws7, fun zs q1 pz soz nq1 => ?_⟩
  obtain ⟨a0, b0, r0, rfl⟩ : ∃ a b r, zs = a :: b :: r := by
    have := pz.length_eq
    match zs, this with
    | [], h => simp at h; omega
    | [_], h => simp at h; omega
    | a :: b :: r, _ => exact ⟨a, b, r, rfl⟩
  obtain ⟨kl, ll, LO⟩ := low2_of pz.symm soz
  refine ⟨2, rfl, q1, _, rfl, SqL.of upd_same, fun q2 nq2 => ?_⟩
  have e2 : cutV ((a0 :: b0 :: r0).map V.int) none (some 2) = [.int a0, .int b0] := by
    rw [cutV_hi (by decide)]
    rfl
  rw [e2]
  have s8 : Same H7 (upd (upd H7 q1 (.lst ((a0 :: b0 :: r0).map V.int))) q2 (.lst [.int a0, .int b0])) := fun b o hb => by
    have h1 : upd H7 q1 (.lst ((a0 :: b0 :: r0).map V.int)) b = some o := by
      rw [upd_ne (ne_of_none hb nq1)]
      exact hb
    rw [upd_ne (ne_of_none h1 nq2)]
    exact h1
  have L8 : upd (upd H7 q1 (.lst ((a0 :: b0 :: r0).map V.int))) q2 (.lst [.int a0, .int b0]) q2 = some (.lst [.int a0, .int b0]) := upd_same
  generalize upd (upd H7 q1 (.lst ((a0 :: b0 :: r0).map V.int))) q2 (.lst [.int a0, .int b0]) = H8 at s8 L8
  have few : ∀ u ∈ Vs, (nb u).length < 1000 := fun u hu => by
    have := go.rows_few (by have := pw.length_eq; omega) u hu
    have h2 : (nb u).length ≤ Vs.length := (go.sym.nd u hu).length_le_of_subset fun y hy => (go.sym.mem u hu y hy).1
    have := pw.length_eq
    omega
  have lVs := pw.length_eq
  have wnn : ∀ u ∈ Vs, ∀ v ∈ nb u, 0 ≤ wt u v := fun u hu v hv => by
    have := (go.wts u hu v hv).1
    omega
  have Gx : ∀ {G : Hp}, Same H7 G → GAt K G x CN dxh (netF pr rt n me en7 0 1 ++ []) pr rt := fun {G} s => ⟨s _ _ hx7, NK.cls, NK.na, NK.nt, rfl, rfl⟩
  refine ⟨_, rfl, x, dxh, _, rfl, s8 _ _ hx7, rfl, x, CN, dxh, _, pr, rt, Vs, ad, nb, wt, rfl, Gx s8, rz7.ext (Ext.of s8), go.sym, wnn, few, by omega, go.nd, N7.rt, by omega, fun cl rc hd mc H9 s9 ncl L9 E9 CO => ?_⟩
  refine ⟨_, _, rfl, ?_⟩
  have s79 := s8.trans s9
  have hna9 := s79 _ _ hna7
  have hws9 := s79 _ _ hws7
  have L9' := s9 _ _ L8
  have P9 := P7.same s79
  have T9 := T7.ext s79
  have N9 := N7.keep fun c o h _ => s79 _ _ h
  have tr : ∀ {S : Sd} {b : Bool}, (∃ y ∈ ns, S y = b) ↔ ∃ y ∈ Vs, S y = b := fun {S b} => ⟨fun ⟨y, h, e⟩ => ⟨y, pw.mem_iff.mpr h, e⟩, fun ⟨y, h, e⟩ => ⟨y, pw.mem_iff.mp h, e⟩⟩
  obtain ⟨rl1, rl2⟩ := ring_least nd0 lws nn LO
  have en : n = a0 + b0 := by
    obtain ⟨ms, lc⟩ := N7.lc
    exact lc_val go pw hc lc rl1 rl2
  have emc : mc = a0 + b0 := cores_least go CO hc (fun S h1 h2 => rl1 S (tr.mpr h1) (tr.mpr h2)) (by
    obtain ⟨S, h1, h2, h3⟩ := rl2
    exact ⟨S, tr.mp h1, tr.mp h2, h3⟩)
  subst emc
  refine ⟨_, rfl, x, dxh, _, rfl, s79 _ _ hx7, x, me, en7, [], Vs, nb, wt, rt, n, 0, 1, rfl, N9, ?_⟩
  refine ⟨_, rfl, q2, [a0, b0], rfl, SqL.of L9', rfl, _, rfl, ?_⟩
  have esum : ([a0, b0] : List Int).sum = n := by
    rw [en]
    simp
  rw [esum]
  refine ite2 (fun h => absurd h (by simp)) (fun _ => ?_)
  obtain ⟨kv7, hp7⟩ := kvp P9
  have hx9 := s79 _ _ hx7
  have xp : x ≠ p := ne_of hx9 hp7 (by intro z; cases z)
  have rz9 := rz7.ext (Ext.of s79)
  have rzB : ∀ {G : Hp}, But p H9 G → RowsZ G pr Vs ad nb wt := fun {G} b => ⟨rz9.top.imp fun o h => b _ _ h (ne_of h hp7 (by intro z; cases z)), fun u hu => (rz9.row u hu).imp fun o h => b _ _ h (ne_of h hp7 (by intro z; cases z))⟩
  have nmV : ∀ u ∈ Vs, nameB u = true := fun u hu => nm u (pw.mem_iff.mp hu)
  have paB : ∀ {G : Hp}, But p H9 G → PArg K G x CN dxh (netF pr rt n me en7 0 1 ++ []) pr rt Vs ad nb wt := fun {G} b => ⟨⟨b _ _ hx9 xp, NK.cls, NK.na, NK.nt, rfl, rfl⟩, rfl, rzB b, nmV⟩
  refine ⟨3, rfl, by decide, by decide, ?_⟩
  refine for_it (walk_range (lo := 0) (n := 3)) (fun i σ Hc => ∃ (x4 x6 x9 x10 x11 x12 x13 x14 : Option V), σ = [some (.ref p), some (.ref na), some (.ref qw), some (.ref wa), x4, some (.ref x), x6, some (.ref q2), some (.ref cl), x9, x10, x11, x12, x13, x14] ∧ But p H9 Hc ∧ Pen Hc p cs (N + 200 + 50 * i)) ⟨_, _, _, _, _, _, _, _, rfl, But.refl _ _, P9.mono (by omega)⟩ ?_ ?_ ?_
  · intros
    trivial
  · rintro i y σ Hc0 Hc hi ⟨x4, x6, x9, x10, x11, x12, x13, x14, rfl, c1, c2⟩ ⟨rfl, rfl⟩
    have nac := c1 _ _ hna9 (lne P9 hna9)
    have wac := c1 _ _ hws9 (lne P9 hws9)
    refine ⟨_, rfl, _, rfl, na, _, rfl, .inl (SqL.of nac), _, rfl, RgOk.of_le (by decide) (by rw [lV]; omega) (by decide) (by omega), fun lr nlr => ?_⟩
    have erg : rgV 0 ((ns.map V.str).length : Int) = (List.range ns.length).map fun k : Nat => V.int (0 + (k : Int)) := by
      unfold rgV
      rw [lV, show ((ns.length : Int) - 0).toNat = ns.length by omega]
    rw [erg]
    have lrg : ((List.range ns.length).map fun k : Nat => V.int (0 + (k : Int))).length = ns.length := by rw [List.length_map, List.length_range]
    refine ⟨p, cs, lr, _, true, _, rfl, c2.new nlr, by rw [lrg]; omega, SqL.of upd_same, by rw [lrg]; omega, fun q3 ys H3 b3 nq3 hq3 pm P3 => ?_⟩
    rw [lrg] at P3
    obtain ⟨is, rfl, pis⟩ := perm_map pm rfl
    obtain ⟨i1, i2, ir, rfl⟩ : ∃ a b r, is = a :: b :: r := by
      have := pis.length_eq
      rw [List.length_range] at this
      match is, this with
      | [], h => simp at h; omega
      | [_], h => simp at h; omega
      | a :: b :: r, _ => exact ⟨a, b, r, rfl⟩
    have n12 : i1 ≠ i2 := fun z => by
      have := pis.nodup_iff.mpr List.nodup_range
      rw [z] at this
      simp at this
    have h1n : i1 < ns.length := List.mem_range.mp (pis.mem_iff.mp (by simp))
    have h2n : i2 < ns.length := List.mem_range.mp (pis.mem_iff.mp (by simp))
    refine ⟨2, rfl, q3, _, rfl, SqL.of hq3, fun q4 nq4 => ?_⟩
    have etk : cutV ((i1 :: i2 :: ir).map fun k : Nat => V.int (0 + (k : Int))) none (some 2) = [.int (0 + (i1 : Int)), .int (0 + (i2 : Int))] := by
      rw [cutV_hi (by decide)]
      rfl
    rw [etk]
    have c13 : But p H9 H3 := c1.trans ((But.of_same (same_upd nlr)).trans b3)
    refine ⟨q4, [0 + (i1 : Int), 0 + (i2 : Int)], rfl, SqL.of upd_same, fun zs q5 pz2 so2 nq5 => ?_⟩
    have s35 : Same H3 (upd (upd H3 q4 (.lst [.int (0 + (i1 : Int)), .int (0 + (i2 : Int))])) q5 (.lst (zs.map V.int))) := fun b o hb => by
      have h1 : upd H3 q4 (.lst [.int (0 + (i1 : Int)), .int (0 + (i2 : Int))]) b = some o := by
        rw [upd_ne (ne_of_none hb nq4)]
        exact hb
      rw [upd_ne (ne_of_none h1 nq5)]
      exact h1
    have L5 : upd (upd H3 q4 (.lst [.int (0 + (i1 : Int)), .int (0 + (i2 : Int))])) q5 (.lst (zs.map V.int)) q5 = some (.lst (zs.map V.int)) := upd_same
    generalize hg5 : upd (upd H3 q4 (.lst [.int (0 + (i1 : Int)), .int (0 + (i2 : Int))])) q5 (.lst (zs.map V.int)) = H5' at s35 L5
    obtain ⟨u, v, huv, hvn, rfl⟩ : ∃ u v : Nat, u < v ∧ v < ns.length ∧ zs = [(u : Int), (v : Int)] := by
      have l2 := pz2.length_eq
      match zs, l2, pz2, so2 with
      | [z1, z2], _, pz2, so2 =>
        have le : z1 ≤ z2 := (List.pairwise_cons.mp so2).1 z2 (by simp)
        have m1 := pz2.mem_iff.mp (List.mem_cons_self (a := z1))
        have m2 := pz2.mem_iff.mp (show z2 ∈ [z1, z2] by simp)
        have m3 := pz2.mem_iff.mpr (show (0 + (i1 : Int)) ∈ [0 + (i1 : Int), 0 + (i2 : Int)] by simp)
        have m4 := pz2.mem_iff.mpr (show (0 + (i2 : Int)) ∈ [0 + (i1 : Int), 0 + (i2 : Int)] by simp)
        simp only [List.mem_cons, List.not_mem_nil, or_false] at m1 m2 m3 m4
        refine ⟨z1.toNat, z2.toNat, ?_, ?_, ?_⟩
        · omega
        · omega
        · rw [show ((z1.toNat : Nat) : Int) = z1 by omega, show ((z2.toNat : Nat) : Int) = z2 by omega]
    have c15 : But p H9 H5' := c13.trans (But.of_same s35)
    have P5 := P3.same s35
    refine ⟨q5, _, rfl, SqL.of L5, rfl, _, _, rfl, _, _, rfl, rfl, ?_⟩
    have na5 := c15 _ _ hna9 (lne P9 hna9)
    have wa5 := c15 _ _ hws9 (lne P9 hws9)
    have lW : (ws.map V.int).length = ns.length := by rw [List.length_map, lws]
    refine ⟨_, rfl, _, rfl, _, _, rfl, rfl, _, rfl, _, rfl, _, _, rfl, rfl, _, rfl, wa, _, rfl, SqL.of wa5, fun q6 nq6 => ?_⟩
    have ec1 : cutV (ws.map V.int) (some ((u : Int) + 1)) (some ((v : Int) + 1)) = ((ws.take (v + 1)).drop (u + 1)).map V.int := by
      have := cutV_mid60 (ys := ws.map V.int) (k := u + 1) (j := v + 1) (by omega) (by omega)
      rw [List.map_drop, List.map_take]
      exact this
    rw [ec1]
    have s6 : Same H5' (upd H5' q6 (.lst (((ws.take (v + 1)).drop (u + 1)).map V.int))) := same_upd nq6
    have L6 : upd H5' q6 (.lst (((ws.take (v + 1)).drop (u + 1)).map V.int)) q6 = some (.lst (((ws.take (v + 1)).drop (u + 1)).map V.int)) := upd_same
    generalize upd H5' q6 (.lst (((ws.take (v + 1)).drop (u + 1)).map V.int)) = H6' at s6 L6
    refine ⟨q6, _, rfl, SqL.of L6, by rw [List.length_drop, List.length_take]; omega, fun x6 hx6 hm6 => ?_⟩
    have wa6 := s6 _ _ wa5
    refine ⟨_, rfl, _, rfl, _, rfl, _, _, rfl, rfl, _, rfl, wa, _, rfl, SqL.of wa6, fun q7 nq7 => ?_⟩
    have ec2 : cutV (ws.map V.int) none (some ((u : Int) + 1)) = (ws.take (u + 1)).map V.int := by
      rw [cutV_hi (by omega), List.map_take, show ((u : Int) + 1).toNat = u + 1 by omega]
    rw [ec2]
    have s7' : Same H6' (upd H6' q7 (.lst ((ws.take (u + 1)).map V.int))) := same_upd nq7
    have L7 : upd H6' q7 (.lst ((ws.take (u + 1)).map V.int)) q7 = some (.lst ((ws.take (u + 1)).map V.int)) := upd_same
    generalize upd H6' q7 (.lst ((ws.take (u + 1)).map V.int)) = H7' at s7' L7
    have wa7 := s7' _ _ wa6
    refine ⟨_, rfl, _, rfl, _, _, rfl, rfl, _, rfl, wa, _, rfl, SqL.of wa7, fun q8 nq8 => ?_⟩
    have ec3 : cutV (ws.map V.int) (some ((v : Int) + 1)) none = (ws.drop (v + 1)).map V.int := by
      rw [cutV_lo (by omega), List.map_drop, show ((v : Int) + 1).toNat = v + 1 by omega]
    rw [ec3]
    have s8' : Same H7' (upd H7' q8 (.lst ((ws.drop (v + 1)).map V.int))) := same_upd nq8
    have L8' : upd H7' q8 (.lst ((ws.drop (v + 1)).map V.int)) q8 = some (.lst ((ws.drop (v + 1)).map V.int)) := upd_same
    generalize upd H7' q8 (.lst ((ws.drop (v + 1)).map V.int)) = H8' at s8' L8'
    refine ⟨q7, q8, _, _, rfl, rfl, s8' _ _ L7, L8', by rw [List.length_map, List.length_map, List.length_take, List.length_drop]; omega, fun q9 nq9 => ?_⟩
    rw [← List.map_append]
    have s9' : Same H8' (upd H8' q9 (.lst ((ws.take (u + 1) ++ ws.drop (v + 1)).map V.int))) := same_upd nq9
    have L9x : upd H8' q9 (.lst ((ws.take (u + 1) ++ ws.drop (v + 1)).map V.int)) q9 = some (.lst ((ws.take (u + 1) ++ ws.drop (v + 1)).map V.int)) := upd_same
    generalize upd H8' q9 (.lst ((ws.take (u + 1) ++ ws.drop (v + 1)).map V.int)) = H9' at s9' L9x
    refine ⟨q9, _, rfl, SqL.of L9x, by rw [List.length_append, List.length_take, List.length_drop]; omega, fun y6 hy6 hmy => ⟨_, _, rfl, rfl, ?_⟩⟩
    have s59 : Same H5' H9' := s6.trans (s7'.trans (s8'.trans s9'))
    have c19 : But p H9 H9' := c15.trans (But.of_same s59)
    have P9' := P5.same s59
    have na9 := s59 _ _ na5
    obtain ⟨rp1, rp2⟩ := ring_pair nd0 lws nn huv hvn ⟨hx6, hm6⟩ ⟨hy6, hmy⟩
    have muV : ns.getD u sE ∈ Vs := pw.mem_iff.mpr (nm_mem (by omega))
    have mvV : ns.getD v sE ∈ Vs := pw.mem_iff.mpr (nm_mem hvn)
    have nuv : ns.getD u sE ≠ ns.getD v sE := fun z => by
      have := nm_inj nd0 (by omega) hvn z
      omega
    have lam : lamOf Vs (vl0 nb wt) (ns.getD u sE) (ns.getD v sE) = x6 + y6 := lamOf_eq (isLam_of hc rp1 rp2)
    have iu : IsIn (.str (ns.getD u sE)) Vs := ⟨_, muV, rfl⟩
    have iv : IsIn (.str (ns.getD v sE)) Vs := ⟨_, mvV, rfl⟩
    refine ⟨_, rfl, _, rfl, _, rfl, na, _, _, _, rfl, rfl, SqL.of na9, atI_nat (gn u (by omega)), _, rfl, _, rfl, na, _, _, _, rfl, rfl, SqL.of na9, atI_nat (gn v hvn), x, dxh, _, pr, rt, Vs, ad, nb, wt, .str (ns.getD u sE), .str (ns.getD v sE), rfl, paB c19, .inl ⟨_, rfl, name_len (nmV _ muV)⟩, .inl ⟨_, rfl, name_len (nmV _ mvV)⟩, go.sym, wnn, few, by omega, go.nd, fun h => absurd iu h, fun _ h => absurd iv h, fun _ h => absurd (by injection h) nuv, fun u' v' e1 e2 _ _ _ n10 H10 s10 ps => ?_⟩
    cases e1
    cases e2
    have en10 : n10 = x6 + y6 := ps_val hc ps rp1 rp2
    subst en10
    refine ⟨_, rfl, rfl, _, rfl, ?_⟩
    refine ite2 (fun h => absurd h (by simp)) (fun _ => ?_)
    have c10 : But p H9 H10 := c19.trans (But.of_same s10)
    have P10 := P9'.same s10
    have L10 : H10 cl = some (.lst (rc.map V.ref)) := c10 _ _ L9 (lne P9 L9)
    have E10 : EachIs (fun r (S : List Str) => H10 r = some (.tup (S.map V.str))) rc (clsF hd Vs) := E9.mono fun r S h => c10 _ _ h (ne_of h hp7 (by intro z; cases z))
    have na10 := s10 _ _ na9
    have lrc : rc.length = (clsF hd Vs).length := E10.length
    have lcl : (clsF hd Vs).length ≤ 40 := by
      unfold clsF
      rw [List.length_map]
      have := ksF_len (hd := hd) (l := Vs)
      omega
    refine ⟨_, rfl, cl, rfl, ⟨_, SqL.of L10⟩, fun D nD => ?_⟩
    refine lc_it (walk_list (xs := rc.map V.ref)) (fun j Hd => Same H10 Hd ∧ ∃ zs : List V, Hd D = some (.lst zs) ∧ zs.length ≤ j ∧ (zs ≠ [] ↔ ∃ C ∈ (clsF hd Vs).take j, ns.getD u sE ∈ C ∧ ns.getD v sE ∈ C)) ⟨same_upd nD, [], upd_same, Nat.le_refl _, ⟨fun h => absurd rfl h, fun ⟨C, h, _⟩ => nomatch h⟩⟩ ?_ ?_ ?_
    · rintro j Hd hj ⟨d1, _⟩
      exact SqL.of (d1 _ _ L10)
    · rintro j y Hd0 Hd hj ⟨d1, zs, d2, d3, d4⟩ ⟨rfl, hy⟩
      rw [List.length_map] at hj
      rw [List.getElem?_map, List.getElem?_eq_getElem hj] at hy
      cases hy
      have hj2 : j < (clsF hd Vs).length := by omega
      have he := List.getElem?_eq_getElem hj2
      have hC := eachAt E10 (List.getElem?_eq_getElem hj) he
      have tk := takeS he
      generalize (clsF hd Vs)[j] = C at hC tk
      have hCd := d1 _ _ hC
      have nad := d1 _ _ na10
      have step : (∃ C' ∈ (clsF hd Vs).take (j + 1), ns.getD u sE ∈ C' ∧ ns.getD v sE ∈ C') ↔ (∃ C' ∈ (clsF hd Vs).take j, ns.getD u sE ∈ C' ∧ ns.getD v sE ∈ C') ∨ (ns.getD u sE ∈ C ∧ ns.getD v sE ∈ C) := by
        rw [tk]
        constructor
        · rintro ⟨C', h, e⟩
          rcases List.mem_append.mp h with h | h
          · exact .inl ⟨C', h, e⟩
          · rw [List.mem_singleton.mp h] at e
            exact .inr e
        · rintro (⟨C', h, e⟩ | e)
          · exact ⟨C', List.mem_append_left _ h, e⟩
          · exact ⟨C, List.mem_append_right _ (List.mem_singleton.mpr rfl), e⟩
      have skip : ¬ (ns.getD u sE ∈ C ∧ ns.getD v sE ∈ C) → (zs ≠ [] ↔ ∃ C' ∈ (clsF hd Vs).take (j + 1), ns.getD u sE ∈ C' ∧ ns.getD v sE ∈ C') := fun h => by
        rw [step, d4]
        exact ⟨.inl, fun z => z.elim id fun z => absurd z h⟩
      refine ⟨rfl, _, rfl, _, rfl, na, _, _, _, rfl, rfl, SqL.of nad, atI_nat (gn u (by omega)), _, rfl, _, _, rfl, .inr (.inl (.inl hCd)), rfl, flat_str, _, rfl, ?_⟩
      have eb : ∀ z : Str, (if false = true then !inV (.str z) (C.map V.str) else inV (.str z) (C.map V.str)) = decide (z ∈ C) := fun z => by
        rw [if_neg (by decide), inV_str]
      rw [eb]
      refine ite2 (fun hu1 => ?_) (fun hu1 => ?_)
      · have hu1 := of_decide_eq_true hu1
        refine ⟨_, rfl, _, rfl, na, _, _, _, rfl, rfl, SqL.of nad, atI_nat (gn v hvn), _, rfl, _, _, rfl, .inr (.inl (.inl hCd)), rfl, flat_str, _, rfl, ?_⟩
        rw [eb]
        refine ite2 (fun hv1 => ?_) (fun hv1 => ?_)
        · have hv1 := of_decide_eq_true hv1
          refine ⟨_, rfl, zs, d2, by omega, fun b o hb => ?_, _, upd_same, by rw [List.length_append, List.length_singleton]; omega, ⟨fun _ => step.mpr (.inr ⟨hu1, hv1⟩), fun _ z => by simp at z⟩⟩
          rw [upd_ne (ne_of_none hb nD)]
          exact d1 _ _ hb
        · exact ⟨d1, zs, d2, by omega, skip fun z => hv1 (decide_eq_true z.2)⟩
      · exact ⟨d1, zs, d2, by omega, skip fun z => hu1 (decide_eq_true z.1)⟩
    · rintro Hd ⟨d1, zs, d2, _, d4⟩
      rw [List.length_map, lrc, List.take_length] at d4
      have q2d : Hd q2 = some (.lst [.int a0, .int b0]) := d1 _ _ (c10 _ _ L9' (lne P9 L9'))
      refine ⟨_, rfl, Nat.zero_le _, fun qn nqn => ?_⟩
      have sn : Same Hd (upd Hd qn (.lst [])) := same_upd nqn
      refine ⟨D, qn, zs, rfl, rfl, SqL.of (sn _ _ d2), SqL.of upd_same, _, rfl, _, rfl, q2, [a0, b0], rfl, SqL.of (sn _ _ q2d), _, _, rfl, rfl, rfl, _, rfl, ?_⟩
      have key : (!zs.isEmpty) = decide (([a0, b0] : List Int).sum < x6 + y6) := by
        rw [esum, en, Bool.eq_iff_iff, decide_eq_true_iff]
        have h1 : (!zs.isEmpty) = true ↔ zs ≠ [] := by
          cases zs <;> simp
        rw [h1, d4]
        have h2 := CO.eq _ muV _ mvV
        rw [lam] at h2
        constructor
        · rintro ⟨C, hC, m1, m2⟩
          obtain ⟨w0, hw0, rfl⟩ := cls_mem.mp hC
          have e1 := of_decide_eq_true (List.mem_filter.mp m1).2
          have e2 := of_decide_eq_true (List.mem_filter.mp m2).2
          exact (h2.mp (e1.trans e2.symm)).resolve_left nuv
        · intro h
          have e := h2.mpr (.inr h)
          exact ⟨_, cls_mem.mpr ⟨_, muV, rfl⟩, List.mem_filter.mpr ⟨muV, decide_eq_true rfl⟩, List.mem_filter.mpr ⟨mvV, decide_eq_true e.symm⟩⟩
      rw [key]
      refine ite2 (fun h => absurd h (by simp)) (fun _ => ?_)
      have sall : Same H10 (upd Hd qn (.lst [])) := d1.trans sn
      exact ⟨_, _, _, _, _, _, _, _, rfl, c10.trans (But.of_same sall), (P10.same sall).mono (by omega)⟩
  · rintro σ Hc ⟨x4, x6, x9, x10, x11, x12, x13, x14, rfl, c1, c2⟩
    have nac := c1 _ _ hna9 (lne P9 hna9)
    refine ⟨_, rfl, _, rfl, na, _, rfl, .inl (SqL.of nac), p, cs, _, _, rfl, by rw [lV]; omega, by rw [lV]; omega, c2, by omega, fun kk H10 k0 k1 b10 P10 => ?_⟩
    obtain ⟨kx, rfl⟩ : ∃ kx : Nat, kk = kx := ⟨kk.toNat, by omega⟩
    rw [lV] at k1
    have hk : kx < ns.length := by omega
    have c10 : But p H9 H10 := c1.trans b10
    have na10 := c10 _ _ hna9 (lne P9 hna9)
    have wa10 := c10 _ _ hws9 (lne P9 hws9)
    have q210 := c10 _ _ L9' (lne P9 L9')
    have T10 : Tabs tbT H10 := tabs_but T9 hp7 trivial c10
    have i1 : atI (ns.map V.str) ((kx : Int) - 1) = some (.str (ns.getD (prv ns.length kx) sE)) := by
      rw [atI_prv (by rw [lV]; exact hk), lV]
      exact gn _ (prv_lt hk)
    have i2 : atI (ns.map V.str) (kx : Int) = some (.str (ns.getD kx sE)) := atI_nat (gn kx hk)
    have i3 : atI (ws.map V.int) (kx : Int) = some (.int (ws.getD kx 0)) := atI_nat (gw kx hk)
    have muV : ns.getD (prv ns.length kx) sE ∈ Vs := pw.mem_iff.mpr (nm_mem (prv_lt hk))
    have mvV : ns.getD kx sE ∈ Vs := pw.mem_iff.mpr (nm_mem hk)
    have hadj : Adj (ringE ns ws) (ns.getD (prv ns.length kx) sE) (ns.getD kx sE) (ws.getD kx 0) := .inl (List.mem_map.mpr ⟨kx, List.mem_range.mpr hk, rfl⟩)
    have hnb : ns.getD kx sE ∈ nb (ns.getD (prv ns.length kx) sE) := (ro.mem _ muV _).mpr ⟨_, hadj⟩
    have hwt : wt (ns.getD (prv ns.length kx) sE) (ns.getD kx sE) = ws.getD kx 0 := ro.val _ muV _ _ hadj
    have hkw : ws[kx]? = some (ws.getD kx 0) := WkP.getD_at (by omega)
    obtain ⟨re1, re2⟩ := ring_edge nd0 lws nn l3 LO hk
    have hnone := edge_none LO hkw
    have wk1 := hw _ (List.mem_of_getElem? hkw)
    refine ⟨_, rfl, _, rfl, _, rfl, _, _, rfl, rfl, na, _, _, _, rfl, rfl, SqL.of na10, i1, _, rfl, _, rfl, na, _, _, _, rfl, rfl, SqL.of na10, i2, x, dxh, _, pr, rt, Vs, ad, nb, wt, _, _, rfl, paB c10, T10, go.sym, wnn, few, by omega, go.nd, by omega, muV, hnb, fun H11 wd n11 m11 ms11 e11 T11 ps lc hwd => ?_⟩
    have en11 : n11 = edgeL kl kx a0 b0 (ws.getD kx 0) := ps_val hc ps re1 re2
    have em11 : m11 = a0 + b0 := lc_val go pw hc lc rl1 rl2
    have nal : ∀ {xs : List V}, ∀ ps, HO.lst xs ≠ .tbl ps := fun {xs} ps z => by cases z
    have wa11 := e11 _ _ wa10 nal
    have na11 := e11 _ _ na10 nal
    have q211 := e11 _ _ q210 nal
    refine ⟨_, rfl, _, rfl, _, rfl, _, rfl, wa, _, _, _, rfl, rfl, SqL.of wa11, i3, wa, q2, ws, a0, b0, ws.getD kx 0, rfl, wa11, q211, by omega, fun H12 wd2 s12 ewd => ?_⟩
    have ew : wd = wd2 := by
      rw [ewd]
      subst en11 em11
      rcases hwd with ⟨h1, h2⟩ | ⟨h1, m2, ms2, lc2, h2⟩
      · rw [h2, if_pos (hnone.mp h1)]
      · have hnb0 : ¬ b0 < ws.getD kx 0 := fun z => by
          have := hnone.mpr z
          omega
        obtain ⟨bl1, bl2⟩ := bump_least go pw hc muV hnb lc2
        have rr := ring_raised nd0 lws nn LO hk bl1 bl2
        have fi := free_iff LO hkw (by omega)
        have all : a0 + b0 < m2 ↔ wordAll ws a0 b0 (ws.getD kx 0) := by
          rw [rr, fi]
          exact Classical.not_not
        rw [h2, if_neg hnb0]
        unfold wordAll at all
        by_cases e : a0 = b0
        · rw [if_pos e] at all ⊢
          by_cases c : ws.count (ws.getD kx 0) = 2
          · rw [if_pos c, if_pos (all.mpr c)]
          · rw [if_neg c, if_neg fun z => c (all.mp z)]
        · rw [if_neg e] at all ⊢
          by_cases c : ws.getD kx 0 = a0 ∨ ws.count (ws.getD kx 0) = 1
          · rw [if_pos c, if_pos (all.mpr c)]
          · rw [if_neg c, if_neg fun z => c (all.mp z)]
    subst ew
    refine ⟨rfl, _, rfl, ?_⟩
    refine ite2 (fun h => absurd h (by simp)) (fun _ => ?_)
    have e1012 : Ext H10 H12 := e11.trans (Ext.of s12)
    have A10 := paB c10
    have A12 : PArg K H12 x CN dxh (netF pr rt n me en7 0 1 ++ []) pr rt Vs ad nb wt := ⟨A10.g.ext e1012, A10.lk, A10.r.ext e1012, A10.nm⟩
    have T12 := T11.ext s12
    have na12 := s12 _ _ na11
    have wa12 := s12 _ _ wa11
    have q212 := s12 _ _ q211
    have iu : IsIn (.str (ns.getD (prv ns.length kx) sE)) Vs := ⟨_, muV, rfl⟩
    have iv : IsIn (.str (ns.getD kx sE)) Vs := ⟨_, mvV, rfl⟩
    refine ⟨_, rfl, _, rfl, _, rfl, _, _, rfl, rfl, na, _, _, _, rfl, rfl, SqL.of na12, i1, _, rfl, _, rfl, na, _, _, _, rfl, rfl, SqL.of na12, i2, x, dxh, _, pr, rt, Vs, ad, nb, wt, .str (ns.getD (prv ns.length kx) sE), .str (ns.getD kx sE), rfl, A12, .inl ⟨_, rfl, name_len (nmV _ muV)⟩, .inl ⟨_, rfl, name_len (nmV _ mvV)⟩, T12, go.sym, wnn, few, by omega, go.nd, by omega, fun h => absurd iu h, fun _ h => absurd iv h, fun u' v' e1 e2 _ _ hn => ?_, fun u' v' e1 e2 _ _ _ n13 m13 ms13 H13 e13 T13 ps13 lc13 => ?_⟩
    · cases e1
      cases e2
      exact absurd hnb hn
    cases e1
    cases e2
    have en13 : n13 = edgeL kl kx a0 b0 (ws.getD kx 0) := ps_val hc ps13 re1 re2
    have em13 : m13 = a0 + b0 := lc_val go pw hc lc13 rl1 rl2
    have wa13 := e13 _ _ wa12 nal
    have q213 := e13 _ _ q212 nal
    have g1 : atI [V.int a0, V.int b0] 1 = some (.int b0) := atI_nat (j := 1) rfl
    refine ⟨_, rfl, _, rfl, wa, _, _, _, rfl, rfl, SqL.of wa13, i3, _, rfl, q2, _, 1, .int b0, rfl, rfl, SqL.of q213, g1, _, _, rfl, rfl, _, _, rfl, ?_⟩
    have ev : mn2 (wt (ns.getD (prv ns.length kx) sE) (ns.getD kx sE)) (n13 - m13) = if ws.getD kx 0 - b0 > 0 then ws.getD kx 0 - b0 else 0 := by
      rw [hwt, en13, em13]
      unfold mn2 edgeL
      have l1 := LO.lo kx _ hkw
      by_cases c : kx = kl
      · have : ws.getD kx 0 = a0 := by
          have := LO.hk
          rw [← c, hkw] at this
          exact Option.some.inj this
        have := LO.le
        rw [if_pos c]
        split <;> split <;> omega
      · have := l1.2 c
        have b1 : 1 ≤ b0 := (hw _ (List.mem_of_getElem? LO.hl)).1
        rw [if_neg c]
        split <;> split <;> omega
    show rEq _ _ _ _
    rw [ev]
    refine ⟨rfl, ?_⟩
    rw [decide_eq_true rfl]
    have e1013 : Ext H10 H13 := e1012.trans e13
    refine k H13 (fun b o hb hne no => ?_) T13 ?_
    · exact e1013 _ _ (c10 _ _ (s79 _ _ (k07 b o hb hne no)) hne) no
    · exact (P10.ext e1013).mono (by omega)
end
end Wk
namespace Wk
open PySem PySem.Spec PyProof.Rows L2 WkD WkN LamX WkP WkE WkC
open PySem.W (EachIs dataLe)
theorem pairs_mem {w : Int} : ∀ {l : List Str} {i j : Nat}, i < j → j < l.length → (l.getD i sE, l.getD j sE, w) ∈ pairsE l w
  | [], _, _, _, h => absurd h (Nat.not_lt_zero _)
  | x :: l, 0, j + 1, _, hj => by
    unfold pairsE
    refine List.mem_append_left _ (List.mem_map.mpr ⟨l.getD j sE, ?_, rfl⟩)
    exact nm_mem (by simpa using hj)
  | x :: l, i + 1, j + 1, hij, hj => by
    unfold pairsE
    exact List.mem_append_right _ (pairs_mem (l := l) (by omega) (by simpa using hj))
theorem pairs_in {w : Int} : ∀ {l : List Str} {e : Ed}, e ∈ pairsE l w → e.1 ∈ l ∧ e.2.1 ∈ l ∧ e.2.2 = w
  | [], e, h => nomatch h
  | x :: l, e, h => by
    unfold pairsE at h
    rcases List.mem_append.mp h with h | h
    · obtain ⟨y, hy, rfl⟩ := List.mem_map.mp h
      exact ⟨List.mem_cons_self, List.mem_cons_of_mem _ hy, rfl⟩
    · obtain ⟨a, b, c⟩ := pairs_in h
      exact ⟨List.mem_cons_of_mem _ a, List.mem_cons_of_mem _ b, c⟩
theorem pairs_dis {w : Int} : ∀ {l : List Str}, l.Nodup → Dis (pairsE l w)
  | [], _ => ⟨fun e h => (nomatch h), List.Pairwise.nil⟩
  | x :: l, nd => by
    obtain ⟨h1, h2⟩ := List.nodup_cons.mp nd
    obtain ⟨d1, d2⟩ := pairs_dis (w := w) h2
    unfold pairsE
    refine ⟨fun e he => ?_, List.pairwise_append.mpr ⟨List.pairwise_map.mpr (h2.imp fun {a b} ne => ?_), d2, fun e he f hf => ?_⟩⟩
    · rcases List.mem_append.mp he with h | h
      · obtain ⟨y, hy, rfl⟩ := List.mem_map.mp h
        exact fun (z : x = y) => h1 (z ▸ hy)
      · exact d1 e h
    · rintro (⟨_, z⟩ | ⟨z1, z2⟩)
      · exact ne z
      · exact ne (z2.trans z1)
    · obtain ⟨y, hy, rfl⟩ := List.mem_map.mp he
      obtain ⟨f1, f2, _⟩ := pairs_in hf
      rintro (⟨z, _⟩ | ⟨z, _⟩)
      · have z : x = f.1 := z
        rw [← z] at f1
        exact h1 f1
      · have z : x = f.2.1 := z
        rw [← z] at f2
        exact h1 f2
theorem good_pairs {ns : List Str} {w : Int} (nm : ∀ u ∈ ns, nameB u = true) (nd : ns.Nodup) (l2 : 2 ≤ ns.length) (l40 : ns.length ≤ 40) (hw : 1 ≤ w ∧ w ≤ 1000000000) : Good60 ns (pairsE ns w) :=
  ⟨nm, nd, l2, l40, fun e he => let ⟨a, b, c⟩ := pairs_in he; ⟨a, b, by rw [c]; exact hw⟩, pairs_dis nd, fun nb wt ro => con_pre (fun k h1 hk => ⟨k - 1, by omega, w, .inl (pairs_mem (by omega) hk)⟩) ro⟩
theorem pairs_flat {w : Int} : ∀ l : List Str, pairsE l w = (List.range l.length).flatMap fun k => (l.drop (k + 1)).map fun y => (l.getD k sE, y, w)
  | [] => rfl
  | x :: l => by
    unfold pairsE
    rw [pairs_flat l, List.length_cons, List.range_succ_eq_map, List.flatMap_cons, List.flatMap_map]
    rfl
theorem pairs_len {w : Int} : ∀ l : List Str, (pairsE l w).length ≤ l.length * l.length
  | [] => Nat.le_refl _
  | x :: l => by
    unfold pairsE
    rw [List.length_append, List.length_map, List.length_cons]
    have := pairs_len (w := w) l
    rw [Nat.add_mul, Nat.mul_add]
    omega
theorem cls_singles {hd : Str → Str} {Vs : List Str} (aV : Asc Vs) (h : ∀ u ∈ Vs, ∀ v ∈ Vs, hd u = hd v ↔ u = v) : clsF hd Vs = Vs.map fun u => [u] := by
  obtain ⟨h1, h2⟩ := cls_sorted (hd := hd) aV
  have nV := asc_nodup aV
  have e : ∀ u ∈ Vs, (Vs.filter fun w => decide (hd w = hd u)) = [u] := fun u hu => by
    have e1 : (Vs.filter fun w => decide (hd w = hd u)) = Vs.filter fun w => decide (w = u) := List.filter_congr fun w hw => by
      rw [decide_eq_decide]
      exact h w hw u hu
    rw [e1]
    clear e1 h h1 h2 aV
    induction Vs with
    | nil => cases hu
    | cons x l ih =>
      obtain ⟨n1, n2⟩ := List.nodup_cons.mp nV
      rw [List.filter_cons]
      by_cases c : x = u
      · subst c
        rw [if_pos (decide_eq_true rfl), List.filter_eq_nil_iff.mpr fun y hy => by
          rw [decide_eq_true_iff]
          intro (z : y = x)
          exact n1 (z ▸ hy)]
      · rw [if_neg (by simpa using c)]
        exact ih n2 ((List.mem_cons.mp hu).resolve_left (Ne.symm c))
  refine sort_uniq (fun _ _ => toks_encL) h2 ?_ h1 (List.pairwise_map.mpr (List.Pairwise.imp (fun {a b} hab => le_headsQ hab) aV)) fun S => ?_
  · refine List.pairwise_map.mpr (nV.imp fun {a b} ne z => ne ?_)
    injection z
  · rw [cls_mem, List.mem_map]
    constructor
    · rintro ⟨u, hu, rfl⟩
      exact ⟨u, hu, (e u hu).symm⟩
    · rintro ⟨u, hu, rfl⟩
      exact ⟨u, hu, (e u hu).symm⟩
theorem name_ok60 {z : Str} (h : nameB z = true) : PyData.strOk z = true := by
  unfold nameB at h
  rw [Bool.and_eq_true, Bool.and_eq_true] at h
  have q : ∀ c ∈ z.cps.toList, c ∈ letS.cps.toList := fun c hc => by
    have h3 := List.all_eq_true.mp h.2.2 (decide (c ∈ letS.cps.toList)) (List.mem_map.mpr ⟨c, hc, rfl⟩)
    exact of_decide_eq_true h3
  have r : ∀ c ∈ letS.cps.toList, c < 0x110000 := by decide +kernel
  unfold PyData.strOk
  rw [← Array.all_toList, List.all_eq_true]
  intro c hc
  exact decide_eq_true (r c (q c hc))
end Wk
namespace Wk
open PySem PySem.Spec PyProof.Rows L2 WkD WkN LamX WkP WkE WkC
open PySem.W (EachIs dataLe)
theorem good_star {c : Str} {ls : List Str} {g : Str → Int} (nm : ∀ u ∈ c :: ls, nameB u = true) (nd : (c :: ls).Nodup) (l2 : 2 ≤ (c :: ls).length) (l40 : (c :: ls).length ≤ 40) (hg : ∀ x ∈ ls, 1 ≤ g x ∧ g x ≤ 1000000000) : Good60 (c :: ls) (starE c g ls) := by
  obtain ⟨nc, nl⟩ := List.nodup_cons.mp nd
  refine ⟨nm, nd, l2, l40, fun e he => ?_, ⟨fun e he => ?_, List.pairwise_map.mpr (nl.imp_of_mem fun {a b} ha hb ne => ?_)⟩, fun nb wt ro => con_pre (fun k h1 hk => ⟨0, h1, g ((c :: ls).getD k sE), .inr (List.mem_map.mpr ⟨(c :: ls).getD k sE, ?_, rfl⟩)⟩) ro⟩
  · obtain ⟨x, hx, rfl⟩ := List.mem_map.mp he
    exact ⟨List.mem_cons_of_mem _ hx, List.mem_cons_self .., hg x hx⟩
  · obtain ⟨x, hx, rfl⟩ := List.mem_map.mp he
    exact fun (z : x = c) => nc (z ▸ hx)
  · rintro (⟨z, _⟩ | ⟨z, _⟩)
    · exact ne z
    · have z : a = c := z
      exact nc (z ▸ ha)
  · obtain ⟨k, rfl⟩ : ∃ j, k = j + 1 := ⟨k - 1, by omega⟩
    exact nm_mem (ns := ls) (by simpa using hk)
section
variable {c : Str} {ls : List Str} {g : Str → Int} {m0 : Int}
def LeastG (ls : List Str) (g : Str → Int) (m0 : Int) : Prop := (∀ x ∈ ls, m0 ≤ g x) ∧ ∃ x ∈ ls, g x = m0
theorem star_low (nn : ∀ x ∈ ls, 0 ≤ g x) (h : LeastG ls g m0) (S : Sd) (h1 : ∃ y ∈ c :: ls, S y = true) (h2 : ∃ y ∈ c :: ls, S y = false) : m0 ≤ cutL (starE c g ls) S := by
  obtain ⟨x, hx, e⟩ : ∃ x ∈ ls, S x ≠ S c := by
    cases hc : S c
    · obtain ⟨y, hy, e⟩ := h1
      rcases List.mem_cons.mp hy with rfl | hy
      · rw [hc] at e
        cases e
      · exact ⟨y, hy, by rw [e]; decide⟩
    · obtain ⟨y, hy, e⟩ := h2
      rcases List.mem_cons.mp hy with rfl | hy
      · rw [hc] at e
        cases e
      · exact ⟨y, hy, by rw [e]; decide⟩
  have := star_ge (c := c) nn hx e
  have := h.1 x hx
  omega
theorem star_low2 (nd : (c :: ls).Nodup) (h : LeastG ls g m0) : ∃ S : Sd, (∃ y ∈ c :: ls, S y = true) ∧ (∃ y ∈ c :: ls, S y = false) ∧ cutL (starE c g ls) S = m0 := by
  obtain ⟨nc, nl⟩ := List.nodup_cons.mp nd
  obtain ⟨_, x, hx, e⟩ := h
  have xc : x ≠ c := fun z => nc (z ▸ hx)
  exact ⟨oneS x, ⟨x, List.mem_cons_of_mem _ hx, decide_eq_true rfl⟩, ⟨c, List.mem_cons_self .., decide_eq_false (Ne.symm xc)⟩, (star_one xc nl hx).trans e⟩
theorem star_mid (nd : (c :: ls).Nodup) (nn : ∀ x ∈ ls, 0 ≤ g x) {x : Str} (hx : x ∈ ls) : (∀ S : Sd, S c ≠ S x → g x ≤ cutL (starE c g ls) S) ∧ ∃ S : Sd, S c ≠ S x ∧ cutL (starE c g ls) S = g x := by
  obtain ⟨nc, nl⟩ := List.nodup_cons.mp nd
  have xc : x ≠ c := fun z => nc (z ▸ hx)
  refine ⟨fun S h => star_ge nn hx (Ne.symm h), oneS x, ?_, star_one xc nl hx⟩
  rw [show oneS x c = false from decide_eq_false (Ne.symm xc), show oneS x x = true from decide_eq_true rfl]
  decide
theorem star_two (nd : (c :: ls).Nodup) (nn : ∀ x ∈ ls, 0 ≤ g x) {x y : Str} (hx : x ∈ ls) (hy : y ∈ ls) (ne : x ≠ y) : (∀ S : Sd, S x ≠ S y → (if g y < g x then g y else g x) ≤ cutL (starE c g ls) S) ∧ ∃ S : Sd, S x ≠ S y ∧ cutL (starE c g ls) S = if g y < g x then g y else g x := by
  obtain ⟨nc, nl⟩ := List.nodup_cons.mp nd
  have xc : x ≠ c := fun z => nc (z ▸ hx)
  have yc : y ≠ c := fun z => nc (z ▸ hy)
  refine ⟨fun S h => ?_, ?_⟩
  · by_cases e : S x = S c
    · have := star_ge (c := c) nn hy (S := S) (fun z => h (e.trans z.symm))
      split <;> omega
    · have := star_ge (c := c) nn hx e
      split <;> omega
  · split
    · refine ⟨oneS y, ?_, star_one yc nl hy⟩
      rw [show oneS y x = false from decide_eq_false ne, show oneS y y = true from decide_eq_true rfl]
      decide
    · refine ⟨oneS x, ?_, star_one xc nl hx⟩
      rw [show oneS x x = true from decide_eq_true rfl, show oneS x y = false from decide_eq_false (Ne.symm ne)]
      decide
def tagS (c : Str) (g : Str → Int) (m0 : Int) (ls : List Str) (u : Str) : Nat := if u = c ∨ m0 < g u then 0 else 1 + ls.idxOf u
theorem tagS_eq (nd : (c :: ls).Nodup) {u v : Str} (hu : u ∈ c :: ls) (hv : v ∈ c :: ls) : tagS c g m0 ls u = tagS c g m0 ls v ↔ u = v ∨ ((u = c ∨ m0 < g u) ∧ (v = c ∨ m0 < g v)) := by
  unfold tagS
  by_cases h1 : u = c ∨ m0 < g u
  · by_cases h2 : v = c ∨ m0 < g v
    · rw [if_pos h1, if_pos h2]
      exact ⟨fun _ => .inr ⟨h1, h2⟩, fun _ => rfl⟩
    · rw [if_pos h1, if_neg h2]
      refine ⟨fun z => by omega, fun z => ?_⟩
      rcases z with rfl | z
      · exact absurd h1 h2
      · exact absurd z.2 h2
  · by_cases h2 : v = c ∨ m0 < g v
    · rw [if_neg h1, if_pos h2]
      refine ⟨fun z => by omega, fun z => ?_⟩
      rcases z with rfl | z
      · exact absurd h2 h1
      · exact absurd z.1 h1
    · rw [if_neg h1, if_neg h2]
      have iu : u ∈ ls := (List.mem_cons.mp hu).resolve_left fun z => h1 (.inl z)
      have iv : v ∈ ls := (List.mem_cons.mp hv).resolve_left fun z => h2 (.inl z)
      refine ⟨fun z => .inl ?_, fun z => ?_⟩
      · have e : ls.idxOf u = ls.idxOf v := by omega
        have a := List.getElem_idxOf (List.idxOf_lt_length_of_mem iu)
        have b := List.getElem_idxOf (List.idxOf_lt_length_of_mem iv)
        rw [← a, ← b]
        simp only [e]
      · rcases z with rfl | z
        · rfl
        · exact absurd z.1 h1
theorem star_cores {Vs : List Str} {w : Wf} {hd : Str → Str} (aV : Asc Vs) (pw : Vs.Perm (c :: ls)) (nd : (c :: ls).Nodup) (nn : ∀ x ∈ ls, 0 ≤ g x) (hm : LeastG ls g m0) (sy : ∀ S : Sd, cutW Vs w S = cutL (starE c g ls) S)
    (CO : ∀ u ∈ Vs, ∀ v ∈ Vs, hd u = hd v ↔ u = v ∨ m0 < lamOf Vs w u v) :
    clsF hd Vs = ((Vs.filter fun u => decide (u = c ∨ m0 < g u)) :: (ls.filter fun u => decide (g u = m0)).map fun u => [u]).mergeSort (dataLe false encL) := by
  obtain ⟨nc, nl⟩ := List.nodup_cons.mp nd
  have nV := asc_nodup aV
  have lam : ∀ u ∈ Vs, ∀ v ∈ Vs, u ≠ v → (m0 < lamOf Vs w u v ↔ (u = c ∨ m0 < g u) ∧ (v = c ∨ m0 < g v)) := fun u hu v hv ne => by
    have hu := pw.mem_iff.mp hu
    have hv := pw.mem_iff.mp hv
    rcases List.mem_cons.mp hu with rfl | iu
    · have iv := (List.mem_cons.mp hv).resolve_left (Ne.symm ne)
      obtain ⟨h1, h2⟩ := star_mid nd nn iv
      rw [lamOf_eq (isLam_of sy h1 h2)]
      exact ⟨fun z => ⟨.inl rfl, .inr z⟩, fun z => z.2.resolve_left (Ne.symm ne)⟩
    · have uc : u ≠ c := fun z => nc (z ▸ iu)
      rcases List.mem_cons.mp hv with rfl | iv
      · obtain ⟨h1, h2⟩ := star_mid nd nn iu
        rw [lamOf_eq (isLam_of sy (fun S h => h1 S (Ne.symm h)) (let ⟨S, a, b⟩ := h2; ⟨S, Ne.symm a, b⟩))]
        exact ⟨fun z => ⟨.inr z, .inl rfl⟩, fun z => z.1.resolve_left ne⟩
      · have vc : v ≠ c := fun z => nc (z ▸ iv)
        obtain ⟨h1, h2⟩ := star_two nd nn iu iv ne
        rw [lamOf_eq (isLam_of sy h1 h2)]
        constructor
        · intro z
          split at z
          · exact ⟨.inr (by omega), .inr (by omega)⟩
          · exact ⟨.inr (by omega), .inr (by omega)⟩
        · rintro ⟨a, b⟩
          have a := a.resolve_left uc
          have b := b.resolve_left vc
          split <;> omega
  have tg : ∀ u ∈ Vs, ∀ v ∈ Vs, hd u = hd v ↔ tagS c g m0 ls u = tagS c g m0 ls v := fun u hu v hv => by
    rw [CO u hu v hv, tagS_eq nd (pw.mem_iff.mp hu) (pw.mem_iff.mp hv)]
    by_cases e : u = v
    · exact ⟨fun _ => .inl e, fun _ => .inl e⟩
    · rw [lam u hu v hv e]
  have cV : c ∈ Vs := pw.mem_iff.mpr (List.mem_cons_self ..)
  have one : ∀ u ∈ ls, ¬ m0 < g u → (Vs.filter fun w => decide (tagS c g m0 ls w = tagS c g m0 ls u)) = [u] := fun u hu ng => by
    have uV : u ∈ Vs := pw.mem_iff.mpr (List.mem_cons_of_mem _ hu)
    have uc : u ≠ c := fun z => nc (z ▸ hu)
    have e1 : (Vs.filter fun w => decide (tagS c g m0 ls w = tagS c g m0 ls u)) = Vs.filter fun w => decide (w = u) := List.filter_congr fun w hw => by
      rw [decide_eq_decide, tagS_eq nd (pw.mem_iff.mp hw) (List.mem_cons_of_mem _ hu)]
      refine ⟨fun z => ?_, .inl⟩
      rcases z with z | ⟨_, z | z⟩
      · exact z
      · exact absurd z uc
      · exact absurd z ng
    rw [e1]
    refine asc_unique (aV.filter _) (List.pairwise_singleton ..) ?_
    refine (List.perm_ext_iff_of_nodup (nV.filter _) (by simp)).mpr fun y => ?_
    rw [List.mem_filter, List.mem_singleton, decide_eq_true_eq]
    exact ⟨fun z => z.2, fun z => ⟨z ▸ uV, z⟩⟩
  have big : ∀ u ∈ Vs, (u = c ∨ m0 < g u) → (Vs.filter fun w => decide (tagS c g m0 ls w = tagS c g m0 ls u)) = Vs.filter fun u => decide (u = c ∨ m0 < g u) := fun u hu h => List.filter_congr fun w hw => by
    rw [decide_eq_decide, tagS_eq nd (pw.mem_iff.mp hw) (pw.mem_iff.mp hu)]
    refine ⟨fun z => ?_, fun z => .inr ⟨z, h⟩⟩
    rcases z with z | z
    · exact z ▸ h
    · exact z.1
  refine cls_tags aV tg (List.nodup_cons.mpr ⟨fun z => ?_, ?_⟩) fun S => ?_
  · obtain ⟨y, hy, e⟩ := List.mem_map.mp z
    have : c ∈ [y] := by
      rw [e]
      exact List.mem_filter.mpr ⟨cV, decide_eq_true (.inl rfl)⟩
    rw [← List.mem_singleton.mp this] at hy
    exact nc (List.mem_filter.mp hy).1
  · exact List.pairwise_map.mpr ((nl.filter _).imp fun {a b} ne z => ne (by injection z))
  · rw [List.mem_cons, List.mem_map]
    constructor
    · rintro (rfl | ⟨y, hy, rfl⟩)
      · exact ⟨c, cV, (big c cV (.inl rfl)).symm⟩
      · obtain ⟨h1, h2⟩ := List.mem_filter.mp hy
        have := of_decide_eq_true h2
        exact ⟨y, pw.mem_iff.mpr (List.mem_cons_of_mem _ h1), (one y h1 (by omega)).symm⟩
    · rintro ⟨u, hu, rfl⟩
      by_cases h : u = c ∨ m0 < g u
      · exact .inl (big u hu h)
      · have iu := (List.mem_cons.mp (pw.mem_iff.mp hu)).resolve_left fun z => h (.inl z)
        have ng : ¬ m0 < g u := fun z => h (.inr z)
        refine .inr ⟨u, List.mem_filter.mpr ⟨iu, decide_eq_true ?_⟩, (one u iu ng).symm⟩
        have := hm.1 u iu
        omega
theorem two_else {l : List Str} {u : Str} (nd : l.Nodup) (hu : u ∈ l) (h : l.length ≠ 1) : ∃ y ∈ l, y ≠ u := by
  match l, nd, hu, h with
  | [], _, hu, _ => exact nomatch hu
  | [x], _, _, h => exact absurd rfl h
  | x :: y :: t, nd, hu, _ =>
    by_cases c : x = u
    · subst c
      exact ⟨y, by simp, fun z => (List.nodup_cons.mp nd).1 (z ▸ List.mem_cons_self ..)⟩
    · exact ⟨x, List.mem_cons_self .., c⟩
theorem star_other {S : Sd} (h1 : ∃ y ∈ c :: ls, S y = true) (h2 : ∃ y ∈ c :: ls, S y = false) : ∃ x ∈ ls, S x ≠ S c := by
  cases hc : S c
  · obtain ⟨y, hy, e⟩ := h1
    rcases List.mem_cons.mp hy with rfl | hy
    · rw [hc] at e
      cases e
    · exact ⟨y, hy, by rw [e]; decide⟩
  · obtain ⟨y, hy, e⟩ := h2
    rcases List.mem_cons.mp hy with rfl | hy
    · rw [hc] at e
      cases e
    · exact ⟨y, hy, by rw [e]; decide⟩
theorem star_raise (nd : (c :: ls).Nodup) (nn : ∀ x ∈ ls, 0 ≤ g x) (h : LeastG ls g m0) {u : Str} (hu : u ∈ ls) (eu : g u = m0) {m2 : Int}
    (b1 : ∀ S : Sd, (∃ y ∈ c :: ls, S y = true) → (∃ y ∈ c :: ls, S y = false) → m2 ≤ cutL (starE c g ls) S + if S u = S c then 0 else 1)
    (b2 : ∃ S : Sd, (∃ y ∈ c :: ls, S y = true) ∧ (∃ y ∈ c :: ls, S y = false) ∧ (cutL (starE c g ls) S + if S u = S c then 0 else 1) = m2) :
    m0 < m2 ↔ (ls.filter fun u => decide (g u = m0)).length = 1 := by
  obtain ⟨nc, nl⟩ := List.nodup_cons.mp nd
  have uc : u ≠ c := fun z => nc (z ▸ hu)
  have uF : u ∈ ls.filter fun u => decide (g u = m0) := List.mem_filter.mpr ⟨hu, decide_eq_true eu⟩
  constructor
  · intro hm
    refine Classical.byContradiction fun ne => ?_
    obtain ⟨y, hy, yu⟩ := two_else (nl.filter _) uF ne
    obtain ⟨hy1, hy2⟩ := List.mem_filter.mp hy
    have hy2 := of_decide_eq_true hy2
    have yc : y ≠ c := fun z => nc (z ▸ hy1)
    have k := b1 (oneS y) ⟨y, List.mem_cons_of_mem _ hy1, decide_eq_true rfl⟩ ⟨c, List.mem_cons_self .., decide_eq_false (Ne.symm yc)⟩
    rw [star_one yc nl hy1, show oneS y u = false from decide_eq_false (Ne.symm yu), show oneS y c = false from decide_eq_false (Ne.symm yc), if_pos rfl] at k
    omega
  · intro l1
    obtain ⟨S, s1, s2, s3⟩ := b2
    by_cases e : S u = S c
    · rw [if_pos e] at s3
      obtain ⟨x, hx, e2⟩ := star_other s1 s2
      have xu : x ≠ u := fun z => e2 (z ▸ e)
      have k1 := star_ge (c := c) nn hx e2
      have k2 := h.1 x hx
      have k3 : g x ≠ m0 := fun z => by
        have xF : x ∈ ls.filter fun u => decide (g u = m0) := List.mem_filter.mpr ⟨hx, decide_eq_true z⟩
        obtain ⟨a, ea⟩ := List.length_eq_one_iff.mp l1
        rw [ea, List.mem_singleton] at uF xF
        exact xu (xF.trans uF.symm)
      omega
    · rw [if_neg e] at s3
      have := star_ge (c := c) nn hu e
      omega
end
theorem paired_of {α β γ : Type} {R : α → β → Prop} {R' : α → γ → Prop} {F : β → γ} (h : ∀ a b, R a b → R' a (F b)) : ∀ {l : List α} {m : List β}, EachIs R l m → Paired R' l (m.map F)
  | _, _, .nil => .nil
  | _, _, .cons a b => .cons (h _ _ a) (paired_of h b)
theorem mergeK_dct60 {g : Str → V} : ∀ {l done : List Str}, (done ++ l).Nodup → mergeK (dct done g) (l.map fun z => (Sum.inr z, g z)) = dct (done ++ l) g
  | [], done, _ => by rw [List.append_nil]; rfl
  | z :: l, done, nd => by
    have hz : z ∉ done := fun h => (List.nodup_append.mp nd).2.2 z h z List.mem_cons_self rfl
    have e : mergeK (dct done g) ((z :: l).map fun z => (Sum.inr z, g z)) = mergeK (putK (dct done g) (Sum.inr z) (g z)) (l.map fun z => (Sum.inr z, g z)) := rfl
    have e2 : dct (done ++ [z]) (fun y => if y = z then g z else g y) = dct (done ++ [z]) g := dct_congr fun y _ => by
      by_cases h : y = z
      · rw [if_pos h, h]
      · rw [if_neg h]
    rw [e, dct_put_new hz, e2, mergeK_dct60 (by rw [List.append_assoc]; exact nd), List.append_assoc]
    rfl
theorem filt_snoc {p : Str → Bool} {l : List Str} {y : Str} {b : Bool} (h : p y = b) : ((l ++ [y]).filter p).map V.str = (l.filter p).map V.str ++ if b = true then [V.str y] else [] := by
  rw [List.filter_append, List.map_append, List.filter_cons, h]
  cases b <;> rfl
end Wk
namespace WkEs
open PySem PySem.Spec PyProof.Rows L2
theorem strs_lay : ∀ l : List Str, (∀ z ∈ l, PyData.strOk z = true) → PyData.canLayAll0 (l.map PyData.str) = true ∧ PyData.depthAll (l.map PyData.str) = 0
  | [], _ => ⟨rfl, rfl⟩
  | z :: l, h => by
    obtain ⟨h1, h2⟩ := strs_lay l fun y hy => h y (List.mem_cons_of_mem _ hy)
    refine ⟨?_, ?_⟩
    · show (PyData.strOk z && PyData.canLayAll0 (l.map PyData.str)) = true
      rw [h z List.mem_cons_self, h1]
      rfl
    · show max (PyData.depth (.str z)) (PyData.depthAll (l.map PyData.str)) = 0
      rw [h2]
      rfl
theorem dps {K : PySem.W.Frag} {H : Hp} : ∀ l : List Str, DpAll K H (l.map V.str) (l.map PyData.str)
  | [] => .nil
  | z :: l => .cons (.str z) (dps l)
end WkEs
namespace WkEb
open PySem PySem.Spec PyProof.Rows L2 PySem.W
def tupD (S : List Str) : PyData := .tuple (S.map PyData.str)
theorem tups_lay : ∀ {Cs : List (List Str)}, (∀ S ∈ Cs, ∀ z ∈ S, PyData.strOk z = true) → PyData.canLayAll0 (Cs.map tupD) = true ∧ PyData.depthAll (Cs.map tupD) ≤ 1
  | [], _ => ⟨rfl, Nat.zero_le _⟩
  | S :: Cs, h => by
    obtain ⟨h1, h2⟩ := tups_lay (Cs := Cs) fun T hT => h T (List.mem_cons_of_mem _ hT)
    obtain ⟨k1, k2⟩ := WkEs.strs_lay S (h S List.mem_cons_self)
    refine ⟨?_, ?_⟩
    · show (PyData.canLayAll0 (S.map PyData.str) && PyData.canLayAll0 (Cs.map tupD)) = true
      rw [h1, k1]
      rfl
    · show max (PyData.depthAll (S.map PyData.str) + 1) (PyData.depthAll (Cs.map tupD)) ≤ 1
      omega
theorem tups_shaped {Cs : List (List Str)} (h : ∀ S ∈ Cs, ∀ z ∈ S, PyData.strOk z = true) : SeqAt.shaped (.list (Cs.map tupD)) = true := by
  obtain ⟨h1, h2⟩ := tups_lay h
  unfold SeqAt.shaped
  rw [Bool.and_eq_true_iff]
  refine ⟨h1, decide_eq_true ?_⟩
  show PyData.depthAll (Cs.map tupD) + 1 ≤ 64
  omega
theorem tups_dp {K : PySem.W.Frag} {H : Hp} : ∀ {rs : List Addr} {Cs : List (List Str)}, EachIs (fun r S => SqT K H r (S.map V.str)) rs Cs → DpAll K H (rs.map V.ref) (Cs.map tupD)
  | _, _, .nil => .nil
  | _, _, .cons h t => .cons (.tup h (WkEs.dps _)) (tups_dp t)
end WkEb
namespace Wk
open PySem PySem.Spec PyProof.Rows L2 WkD WkN LamX WkP WkE WkC
open PySem.W (EachIs)
section
variable {P : Program} {w : World} {K : PySem.W.Frag} {mg : Str → Option Value} {base : Heap}
theorem sc_star60 : FnScope ["_law_pen_here", "_law_names", "_law_some", "_law_weights_here", "_law_name", "_law_house", "_law_least", "_law_one", "_law_two", "_law_due", "_law_rest", "_law_many", "_law_word"] ["_law_pen_here"] (defScope s_L_star_right) := ⟨rfl, rfl, rfl, by decide +kernel, rfl, by decide +kernel, by decide +kernel⟩
theorem c_star60 {tbT : List (Addr × Str)} {CN CU CE CS' : Addr} (S : WkG.Sm K) (D : Def K mg "_law_star_right" s_L_star_right) (B : Bi mg) (NK : FCls K CN)
    (PF : PropC P w K mg base CX0 CN "strength" 1 (spFound CN)) (MCo : MethC P w K mg base CX0 CN "cores" 6 (spCores K))
    (C_words : Callee P w K mg base CX0 3 "_law_words" ["_law_pen_here", "_law_many"] (spWords K)) (C_draw : Callee P w K mg base CX0 1 "_law_draw" ["_law_pen_here", "_law_many"] spDraw) (C_wts : Callee P w K mg base CX0 2 "_law_weights" ["_law_pen_here"] spWeights) (C_pick : Callee P w K mg base CX0 2 "_law_pick" ["_law_pen_here", "_law_some"] (spPick K)) (C_shuf : Callee P w K mg base CX0 2 "_law_shuffled" ["_law_pen_here", "_law_some"] (spShuf K))
    (C_built : Callee P w K mg base CX0 8 "_law_built_house" ["_law_pen_here", "_law_names", "_law_edges"] (spBuilt K tbT CN)) (C_ps : Callee P w K mg base (CX P w) 4 "pair_strength" ["network", "u", "v"] (spPairS K CN CU CS')) (C_role : Callee P w K mg base (CX P w) 7 "role" ["network", "u", "v"] (spRole K tbT CN CU CE)) (C_sl : Callee P w K mg base (CX P w) 6 "slack" ["network", "u", "v"] (spSlack K tbT CN CU CE)) (C_rw : Callee P w K mg base CX0 1 "_law_ring_word" ["_law_weights_here", "_law_low", "_law_weight"] (spRWord K)) :
    Callee P w K mg base CX0 9 "_law_star_right" ["_law_pen_here"] (spBout60 tbT) := by
  obtain ⟨f, fd, F, g⟩ := D
  refine ⟨f, fd, F.ok sc_star60 (fun vs H Q E h => ?_) (fun cdv A outer s H vs Q E hr h => ?_), g, F.kp, F.bindsN (fun _ _ _ _ _ _ us hl => match us, hl with | [_], _ => rfl)⟩
  · obtain ⟨p, cs, N, rfl, _⟩ := h
    rfl
  have hu := hu_of hr
  have nd := sc_star60.nd
  have hr8 : Room 8 _ := hr
  have hr7 : Room 7 _ := hr.mono (by decide)
  have hr6 : Room 6 _ := hr.mono (by decide)
  have hr4 : Room 4 _ := hr.mono (by decide)
  have hr3 : Room 3 _ := hr.mono (by decide)
  have hr2 : Room 2 _ := hr.mono (by decide)
  have hr1 : Room 1 _ := hr.mono (by decide)
  refine ⟨_, PSs.nox (pss_cons (ps_asg (pe_tup (pa_cons (pe_c C_words hr3 pass0 (pa_cons (pv 0) (pa_cons (pe_op op_add pe_int (pe_c C_draw hr1 pass0 (pa_cons (pv 0) (pa_cons pe_int pa_nil)))) pa_nil))) (pa_cons (pe_c C_wts hr2 pass0 (pa_cons (pv 0) pa_nil)) pa_nil))) (WkN.pgT K 2 rfl rfl (pgs_cons (pg_name (i := 1) nd rfl (Or.inr rfl)) (pgs_cons (pg_name (i := 2) nd rfl (Or.inr rfl)) pgs_nil)) rfl))
      (pss_cons (ps_set (i := 3) nd rfl (Or.inr rfl) (pe_callTy (call_dictP rfl) (by rfl) B.n_dict (by decide +kernel) (pa_cons (pe_lc (own := [("_law_name", 4)]) (by rfl) nd (pi_list (pe_slice sl_list (pv 1) (po_some pe_int) po_none)) (blkOk_by (by kernel_rfl)) (fun _ _ _ _ _ => (pg_name (i := 4) nd rfl (Or.inl rfl))) (fun _ _ _ _ _ => pts_nil) (fun _ _ _ _ _ => (pe_tup (pa_cons (pv 4) (pa_cons (pe_c C_pick hr2 pass0 (pa_cons (pv 0) (pa_cons (pv 2) pa_nil))) pa_nil))))) pa_nil)))
      (pss_cons (ps_set (i := 5) nd rfl (Or.inl rfl) (pe_c C_built hr8 pass0 (pa_cons (pv 0) (pa_cons (pv 1) (pa_cons (pe_lc (own := [("_law_name", 4)]) (by rfl) nd (pi_list (pe_slice sl_list (pv 1) (po_some pe_int) po_none)) (blkOk_by (by kernel_rfl)) (fun _ _ _ _ _ => (pg_name (i := 4) nd rfl (Or.inl rfl))) (fun _ _ _ _ _ => pts_nil) (fun _ _ _ _ _ => (pe_tup (pa_cons (pv 4) (pa_cons (pe_ix (WkK.ixL K (by rfl)) (pv 1) pe_int (fun _ _ => rfl)) (pa_cons (pe_dget hu (pv 3) (pv 4) (fun _ _ => rfl)) pa_nil)))))) pa_nil)))))
      (pss_cons (ps_set (i := 6) nd rfl (Or.inr rfl) (pe_callB (cr_min rfl) (by rfl) B.n_min (by decide +kernel) (pa_cons (WkV.pe_listVals rfl (by rfl) B.n_list (pv 3)) pa_nil)))
      (pss_cons (ps_asg (pe_slice sl_list (pe_c C_shuf hr2 pass0 (pa_cons (pv 0) (pa_cons (pe_slice sl_list (pv 1) (po_some pe_int) po_none) pa_nil))) po_none (po_some pe_int)) (WkU.pgL K 2 rfl rfl (pgs_cons (pg_name (i := 7) nd rfl (Or.inl rfl)) (pgs_cons (pg_name (i := 8) nd rfl (Or.inl rfl)) pgs_nil)) rfl))
      (pss_cons (ps_set (i := 9) nd rfl (Or.inl rfl) (pe_lst (pa_cons (pv 6) (pa_cons (pe_dget hu (pv 3) (pv 7) (fun _ _ => rfl)) (pa_cons (pe_callB (call_min2 rfl) (by rfl) B.n_min (by decide +kernel) (pa_cons (pe_dget hu (pv 3) (pv 7) (fun _ _ => rfl)) (pa_cons (pe_dget hu (pv 3) (pv 8) (fun _ _ => rfl)) pa_nil))) pa_nil)))))
      (pss_cons (ps_if (pt_cmpR (op_neD hr.units) (pe_lst (pa_cons (WkC.pe_pr PF NK.cls hr2 pass0 (pv 5)) (pa_cons (pe_c C_ps hr4 WkK.passF (pa_cons (pv 5) (pa_cons (pe_ix (WkK.ixL K (by rfl)) (pv 1) pe_int (fun _ _ => rfl)) (pa_cons (pv 7) pa_nil)))) (pa_cons (pe_c C_ps hr4 WkK.passF (pa_cons (pv 5) (pa_cons (pv 8) (pa_cons (pv 7) pa_nil)))) pa_nil)))) (pv 9) (nomark _))
      (pss_one (ps_ret pe_bl)) pss_nil)
      (pss_cons (ps_set (i := 10) nd rfl (Or.inl rfl) (pe_callTy call_tuple_of (by rfl) B.n_tuple (by decide +kernel) (pa_cons (pe_callB cr_sortedS (by rfl) B.n_sorted (by decide +kernel) (pa_cons (pe_lc (own := [("_law_name", 4)]) (by rfl) nd (pi_list (pv 1)) (blkOk_by (by kernel_rfl)) (fun _ _ _ _ _ => (pg_name (i := 4) nd rfl (Or.inl rfl))) (fun _ _ _ _ _ => (pts_one (PW.pt (pw_or (pt_cmpR op_eq (pv 4) (pe_ix (WkK.ixL K (by rfl)) (pv 1) pe_int (fun _ _ => rfl)) (nomark _)) (pw_or1 (pt_cmpR op_gt (pe_dget hu (pv 3) (pv 4) (fun _ _ => rfl)) (pv 6) (nomark _))))))) (fun _ _ _ _ _ => (pv 4))) pa_nil)) pa_nil)))
      (pss_cons (ps_if (pt_cmpR (op_neD hr.units) (WkV.pe_mt0 MCo NK.cls hr6 pass0 (pv 5)) (pe_callB (cr_sortedG S hr.units) (by rfl) B.n_sorted (by decide +kernel) (pa_cons (pe_op op_cat (pe_lst (pa_cons (pv 10) pa_nil)) (pe_lc (own := [("_law_name", 4)]) (by rfl) nd (pi_list (pe_slice sl_list (pv 1) (po_some pe_int) po_none)) (blkOk_by (by kernel_rfl)) (fun _ _ _ _ _ => (pg_name (i := 4) nd rfl (Or.inl rfl))) (fun _ _ _ _ _ => (pts_one (pt_cmpR op_eq (pe_dget hu (pv 3) (pv 4) (fun _ _ => rfl)) (pv 6) (nomark _)))) (fun _ _ _ _ _ => (pe_tup (pa_cons (pv 4) pa_nil))))) pa_nil)) (nomark _))
      (pss_one (ps_ret pe_bl)) pss_nil)
      (pss_cons (ps_set (i := 11) nd rfl (Or.inl rfl) (pe_callB call_len_seq (by rfl) B.n_len (by decide +kernel) (pa_cons (pe_lock (pe_lc (own := [("_law_name", 4)]) (by rfl) nd (pi_keys (pv 3)) (blkOk_by (by kernel_rfl)) (fun _ _ _ _ _ => (pg_name (i := 4) nd rfl (Or.inl rfl))) (fun _ _ _ _ _ => (pts_one (pt_cmpR op_eq (pe_dget hu (pv 3) (pv 4) (fun _ _ => rfl)) (pv 6) (nomark _)))) (fun _ _ _ _ _ => (pv 4)))) pa_nil)))
      (pss_cons (ps_set (i := 12) nd rfl (Or.inl rfl) (pe_ifExp (pt_cmpR op_gt (pe_dget hu (pv 3) (pv 7) (fun _ _ => rfl)) (pv 6) (nomark _)) pe_str (pe_ix (WkK.ixL K (by rfl)) (pe_lst (pa_cons pe_str (pa_cons pe_str pa_nil))) (pe_callTy WkB.call_intB (by rfl) B.n_int (by decide +kernel) (pa_cons (pe_cmpR op_eq (pv 11) pe_int (nomark _)) pa_nil)) (fun _ _ => rfl))))
      (pss_one (ps_ret (pe_and (pe_cmpR op_eq (pe_c C_role hr7 WkK.passF (pa_cons (pv 5) (pa_cons (pv 7) (pa_cons (pe_ix (WkK.ixL K (by rfl)) (pv 1) pe_int (fun _ _ => rfl)) pa_nil)))) (pv 12) (nomark _)) (pe_one (pe_cmpR op_eq (pe_c C_sl hr6 WkK.passF (pa_cons (pv 5) (pa_cons (pv 7) (pa_cons (pe_ix (WkK.ixL K (by rfl)) (pv 1) pe_int (fun _ _ => rfl)) pa_nil)))) (pe_op op_sub (pe_dget hu (pv 3) (pv 7) (fun _ _ => rfl)) (pv 6)) (nomark _))))))))))))))))), ?_⟩
  obtain ⟨p, cs, N, rfl, hP, hN, hT, k⟩ := h
  have big : 100000 < sizeLine := by decide
  have kvp : ∀ {G : Hp} {M : Nat}, Pen G p cs M → ∃ kvs, G p = some (.dK kvs) := fun {G M} P => by
    obtain ⟨⟨t, r, h1, _⟩, _⟩ := P
    exact ⟨_, h1⟩
  have lne : ∀ {G : Hp} {M : Nat} {a : Addr} {xs : List V}, Pen G p cs M → G a = some (.lst xs) → a ≠ p := fun {G M a xs} P h z => by
    obtain ⟨kvs, h1⟩ := kvp P
    rw [z, h1] at h
    cases h
  refine ⟨_, rfl, _, rfl, p, cs, 38, N, rfl, by decide, by decide, hP, by omega, fun d H1 d0 d1 b1 P1 => ?_⟩
  obtain ⟨m, rfl⟩ : ∃ m : Nat, d = m := ⟨d.toNat, by omega⟩
  refine ⟨_, _, rfl, rfl, p, cs, N + 1, 3 + m, rfl, P1, by omega, by omega, fun na ns H2 b2 nna hna nd0 ln nm P2 => ?_⟩
  refine ⟨_, rfl, p, cs, _, rfl, P2, by omega, fun qw ws0 H3 b3 nqw hqw wok P3 => ?_⟩
  refine ⟨by show 2 ≤ sizeLine; omega, fun t nt => ?_⟩
  generalize gg : upd H3 t _ = H4
  obtain ⟨s4, T4⟩ := new_eq nt gg
  clear gg
  refine ⟨t, _, rfl, .inl (.inl T4), rfl, _, _, rfl, _, _, rfl, rfl, ?_⟩
  have P4 := P3.same s4
  have nap := lne P2 hna
  have hna4 := s4 _ _ (b3 _ _ hna nap)
  have qwp := lne P3 hqw
  have hqw4 := s4 _ _ hqw
  have b04 : But p H H4 := b1.trans (b2.trans (b3.trans (But.of_same s4)))
  obtain ⟨c, ls, rfl⟩ : ∃ c ls, ns = c :: ls := by
    match ns, ln with
    | [], h => simp at h; omega
    | c :: ls, _ => exact ⟨c, ls, rfl⟩
  have lls : ls.length = 2 + m := by simp at ln; omega
  obtain ⟨ncl, nl⟩ := List.nodup_cons.mp nd0
  have l38 : ls.length ≤ 39 := by omega
  have eD : cutV ((c :: ls).map V.str) (some 1) none = ls.map V.str := by
    rw [cutV_lo (by decide)]
    rfl
  refine ⟨_, rfl, 1, rfl, na, _, rfl, SqL.of hna4, fun q1 nq1 => ?_⟩
  rw [eD]
  have s5 : Same H4 (upd H4 q1 (.lst (ls.map V.str))) := same_upd nq1
  have L5 : upd H4 q1 (.lst (ls.map V.str)) q1 = some (.lst (ls.map V.str)) := upd_same
  generalize upd H4 q1 (.lst (ls.map V.str)) = H5 at s5 L5
  have P5 := P4.same s5
  have b05 := b04.trans (But.of_same s5)
  have q1p := lne P5 L5
  have hna5 := s5 _ _ hna4
  have hqw5 := s5 _ _ hqw4
  refine ⟨q1, rfl, ⟨_, SqL.of L5⟩, fun D nD => ?_⟩
  refine lc_it (walk_list (xs := ls.map V.str)) (fun j Hd => But p H5 Hd ∧ Pen Hd p cs (N + 1 + (3 + m) + 2 + j) ∧ ∃ (ts : List Addr) (f : Str → Int), Hd D = some (.lst (ts.map V.ref)) ∧ ts.length ≤ j ∧ EachIs (fun r (kv : Str × Int) => Hd r = some (.tup [.str kv.1, .int kv.2])) ts ((ls.take j).map fun x => (x, f x)) ∧ ∀ x ∈ ls.take j, f x ∈ ws0)
    ⟨fun b o hb _ => by rw [upd_ne (ne_of_none hb nD)]; exact hb, P5.new nD, [], fun _ => 0, upd_same, Nat.le_refl _, .nil, fun x h => nomatch h⟩ ?_ ?_ ?_
  · rintro j Hd hj ⟨d1, _⟩
    exact SqL.of (d1 _ _ L5 q1p)
  · rintro j y Hd0 Hd hj ⟨d1, d0', ts, f', d2, d4, d3, d5⟩ ⟨rfl, hy⟩
    rw [List.length_map] at hj
    rw [List.getElem?_map, List.getElem?_eq_getElem hj] at hy
    cases hy
    have tk := takeS (List.getElem?_eq_getElem hj)
    have yn : ls[j] ∉ ls.take j := fun z => by
      obtain ⟨i, hi, e⟩ := List.mem_iff_getElem.mp z
      rw [List.getElem_take] at e
      have := (List.getElem_inj nl).mp e
      rw [List.length_take] at hi
      omega
    generalize ls[j] = y at tk yn
    have qwd := d1 _ _ hqw5 qwp
    refine ⟨rfl, tYes_if ⟨_, rfl, _, rfl, _, rfl, p, cs, _, d0', by omega, .inl ⟨qw, _, rfl, .inl (SqL.of qwd), fun z => wok.1 (List.map_eq_nil_iff.mp z), by rw [List.length_map]; have := wok.2.2; omega, fun xv H6 hxv b6 P6 => ?_⟩⟩⟩
    obtain ⟨w0, hw0, rfl⟩ := List.mem_map.mp hxv
    refine ⟨by show 2 ≤ sizeLine; omega, fun q nq => ?_⟩
    have Dp := lne d0' d2
    have D6 := b6 _ _ d2 Dp
    have Dq : D ≠ q := ne_of_none D6 nq
    obtain ⟨kvs0, hkv0⟩ := kvp d0'
    obtain ⟨kvs6, hkv6⟩ := kvp P6
    refine ⟨ts.map V.ref, by rw [upd_ne Dq]; exact D6, by rw [List.length_map]; omega, fun b o hb hne => ?_, ?_, ts ++ [q], fun z => if z = y then w0 else f' z, by rw [upd_same, List.map_append]; rfl, by rw [List.length_append, List.length_singleton]; omega, ?_, fun x hx => ?_⟩
    · rw [upd_ne (ne_of_none hb nD), upd_ne (ne_of_none (b6 _ _ (d1 _ _ hb hne) hne) nq)]
      exact b6 _ _ (d1 _ _ hb hne) hne
    · exact ((P6.new nq).put Dp (P5.free nD).2).mono (by omega)
    · rw [tk, List.map_append]
      have e0 : ((ls.take j).map fun x => (x, (fun z => if z = y then w0 else f' z) x)) = (ls.take j).map fun x => (x, f' x) := List.map_congr_left fun x hx => by
        show (x, if x = y then w0 else f' x) = _
        rw [if_neg (show ¬ x = y from fun z => yn (z ▸ hx))]
      rw [e0]
      refine eachA (d3.mono fun r kv h => ?_) (.cons ?_ .nil)
      · have rp : r ≠ p := fun z => by
          rw [z, hkv0] at h
          cases h
        have h6 := b6 _ _ h rp
        rw [upd_ne (ne_of h6 D6 (by intro z; cases z)), upd_ne (ne_of_none h6 nq)]
        exact h6
      · show upd (upd H6 q _) D _ q = some (.tup [.str y, .int (if y = y then w0 else f' y)])
        rw [upd_ne (Ne.symm Dq), upd_same, if_pos rfl]
    · rw [tk] at hx
      show (if x = y then w0 else f' x) ∈ ws0
      split
      · exact hw0
      · rename_i xy
        rcases List.mem_append.mp hx with h | h
        · exact d5 x h
        · exact absurd (List.mem_singleton.mp h) xy
  rintro H6 ⟨d1, P6, ts, g0, d2, d4, d3, d5⟩
  rw [List.length_map] at P6
  rw [List.length_map, List.take_length] at d3 d5
  have Dp := lne P6 d2
  have b06 : But p H H6 := b05.trans d1
  have na6 := d1 _ _ hna5 nap
  have em : mergeK [] (ls.map fun z => ((Sum.inr z : Key), V.int (g0 z))) = dct ls fun z => V.int (g0 z) := mergeK_dct60 (done := []) (g := fun z => V.int (g0 z)) nl
  have pr0 := paired_of (R' := fun (p : Addr) (kv : Key × V) => SqT K H6 p [kV kv.1, kv.2]) (F := fun (kv : Str × Int) => ((Sum.inr kv.1 : Key), V.int kv.2)) (fun a b h => .inl (.inl h)) d3
  rw [List.map_map] at pr0
  refine ⟨D, ts, ls.map fun z => (Sum.inr z, V.int (g0 z)), rfl, SqL.of d2, pr0, fun wa nwa => ?_⟩
  rw [em]
  have s7 : Same H6 (upd H6 wa (.dK (dct ls fun z => V.int (g0 z)))) := same_upd nwa
  have W7 : upd H6 wa (.dK (dct ls fun z => V.int (g0 z))) wa = some (.dK (dct ls fun z => V.int (g0 z))) := upd_same
  generalize upd H6 wa (.dK (dct ls fun z => V.int (g0 z))) = H7 at s7 W7
  have wap : wa ≠ p := (P6.free nwa).1
  have P7 := P6.same s7
  have na7 := s7 _ _ na6
  have b07 := b06.trans (But.of_same s7)
  refine ⟨_, rfl, _, rfl, _, rfl, 1, rfl, na, _, rfl, SqL.of na7, fun q2 nq2 => ?_⟩
  rw [eD]
  have s8 : Same H7 (upd H7 q2 (.lst (ls.map V.str))) := same_upd nq2
  have L8 : upd H7 q2 (.lst (ls.map V.str)) q2 = some (.lst (ls.map V.str)) := upd_same
  generalize upd H7 q2 (.lst (ls.map V.str)) = H8 at s8 L8
  have na8 := s8 _ _ na7
  have W8 := s8 _ _ W7
  refine ⟨q2, rfl, ⟨_, SqL.of L8⟩, fun ea nea => ?_⟩
  have i0 : atI ((c :: ls).map V.str) 0 = some (.str c) := atI_nat (j := 0) rfl
  refine lc_it (walk_list (xs := ls.map V.str)) (fun j Hd => Same H8 Hd ∧ ∃ ts : List Addr, Hd ea = some (.lst (ts.map V.ref)) ∧ ts.length ≤ j ∧ EachIs (fun r (e : Ed) => SqT K Hd r [.str e.1, .str e.2.1, .int e.2.2]) ts (starE c g0 (ls.take j))) ⟨same_upd nea, [], upd_same, Nat.le_refl _, .nil⟩ ?_ ?_ ?_
  · rintro j Hd hj ⟨d1, _⟩
    exact SqL.of (d1 _ _ L8)
  · rintro j y Hd0 Hd hj ⟨d1, ts, d2, d4, d3⟩ ⟨rfl, hy⟩
    rw [List.length_map] at hj
    rw [List.getElem?_map, List.getElem?_eq_getElem hj] at hy
    cases hy
    have tk := takeS (List.getElem?_eq_getElem hj)
    have yL : ls[j] ∈ ls := List.getElem_mem hj
    generalize ls[j] = y at tk yL
    refine ⟨rfl, tYes_if ⟨_, rfl, _, rfl, na, _, _, _, rfl, rfl, SqL.of (d1 _ _ na8), i0, _, rfl, _, rfl, wa, .int (g0 y), rfl, ?_, by show 3 ≤ sizeLine; omega, fun q nq => ?_⟩⟩
    · have := DGet.k (k := Sum.inr y) (d1 _ _ W8)
      rw [dct_in yL] at this
      exact this
    · have eq' : ea ≠ q := ne_of_none d2 nq
      have s9 : Same Hd (upd Hd q (.tup [.str y, .str c, .int (g0 y)])) := same_upd nq
      refine ⟨ts.map V.ref, by rw [upd_ne eq']; exact d2, by rw [List.length_map]; omega, fun b o hb => ?_, ts ++ [q], by rw [upd_same, List.map_append]; rfl, by rw [List.length_append, List.length_singleton]; omega, ?_⟩
      · rw [upd_ne (ne_of_none hb nea)]
        exact s9 _ _ (d1 _ _ hb)
      · rw [tk, show starE c g0 (ls.take j ++ [y]) = starE c g0 (ls.take j) ++ [(y, c, g0 y)] from List.map_append ..]
        have up : ∀ {r : Addr} {xs : List V}, SqT K Hd r xs → SqT K (upd (upd Hd q (.tup [.str y, .str c, .int (g0 y)])) ea (.lst (ts.map V.ref ++ [.ref q]))) r xs := fun {r xs} h => by
          rcases h with (h | ⟨o, h⟩) | h
          · exact .inl (.inl (by rw [upd_ne (ne_of h d2 (by intro z; cases z))]; exact s9 _ _ h))
          · exact .inl (.inr ⟨o, by rw [upd_ne (ne_of h d2 (by intro z; cases z))]; exact s9 _ _ h⟩)
          · exact .inr h
        exact eachA (d3.mono fun r e h => up h) (.cons (.inl (.inl (by rw [upd_ne (Ne.symm eq')]; exact upd_same))) .nil)
  rintro H9 ⟨e1, ts9, e2, e4, e3⟩
  rw [List.length_map] at e4
  rw [List.length_map, List.take_length] at e3
  have hE : EdsAt K H9 ts9 (starE c g0 ls) := eds_each.mpr e3
  have s79 : Same H7 H9 := s8.trans e1
  have P9 := P7.same s79
  have na9 := s79 _ _ na7
  have W9 := s79 _ _ W7
  have b09 := b07.trans (But.of_same s79)
  obtain ⟨kvs0, hpk⟩ := kvp hP
  have T9 : Tabs tbT H9 := tabs_but hT hpk trivial b09
  have hg : ∀ x ∈ ls, 1 ≤ g0 x ∧ g0 x ≤ 1000000000 := fun x hx => wok.2.1 _ (d5 x hx)
  have G := good_star nm nd0 (by simp; omega) (by simp; omega) hg
  have lE : (starE c g0 ls).length = ls.length := List.length_map ..
  refine ⟨p, cs, na, ea, _, c :: ls, ts9, starE c g0 ls, rfl, P9, by omega, na9, e2, hE, by omega, G, T9, fun x Vs nb wt rt n me en7 H10 k10 T10 nx N10 pw ro P10 => ?_⟩
  have nt_lst : ∀ {xs : List V}, ∀ ps, HO.lst xs ≠ .tbl ps := fun {xs} ps z => by cases z
  have na10 := k10 _ _ na9 nap nt_lst
  have W10 := k10 _ _ W9 wap (fun ps z => by cases z)
  have k010 : ∀ b o, H b = some o → b ≠ p → (∀ ps, o ≠ .tbl ps) → H10 b = some o := fun b o hb hne no => k10 b o (b09 b o hb hne) hne no
  have hc := good_cut G pw ro
  obtain ⟨dxh, pr, ad, hx10, rz10⟩ := id N10.ex
  have go := N10.gok
  have edc : (dct ls fun z => V.int (g0 z)).map (·.2) = (ls.map g0).map V.int := by
    unfold dct
    rw [List.map_map, List.map_map]
    rfl
  refine ⟨_, rfl, wa, _, rfl, .inl W10, fun q3 nq3 => ?_⟩
  rw [edc]
  have s11 : Same H10 (upd H10 q3 (.lst ((ls.map g0).map V.int))) := same_upd nq3
  have L11 : upd H10 q3 (.lst ((ls.map g0).map V.int)) q3 = some (.lst ((ls.map g0).map V.int)) := upd_same
  generalize upd H10 q3 (.lst ((ls.map g0).map V.int)) = H11 at s11 L11
  refine ⟨q3, ls.map g0, rfl, SqL.of L11, by rw [List.length_map]; omega, fun m0 hm0 hle => ?_⟩
  have LG : LeastG ls g0 m0 := by
    obtain ⟨y, hy, e⟩ := List.mem_map.mp hm0
    exact ⟨fun x hx => hle _ (List.mem_map.mpr ⟨x, hx, rfl⟩), y, hy, e⟩
  have nn : ∀ x ∈ ls, 0 ≤ g0 x := fun x hx => by
    have := (hg x hx).1
    omega
  have P11 := P10.same s11
  have na11 := s11 _ _ na10
  refine ⟨_, rfl, _, rfl, 1, rfl, na, _, rfl, SqL.of na11, fun q4 nq4 => ?_⟩
  rw [eD]
  have s12 : Same H11 (upd H11 q4 (.lst (ls.map V.str))) := same_upd nq4
  have L12 : upd H11 q4 (.lst (ls.map V.str)) q4 = some (.lst (ls.map V.str)) := upd_same
  generalize upd H11 q4 (.lst (ls.map V.str)) = H12 at s12 L12
  have P12 := P11.same s12
  refine ⟨p, cs, q4, _, true, _, rfl, P12, by rw [List.length_map]; omega, SqL.of L12, by rw [List.length_map]; omega, fun q5 ys H13 b13 nq5 hq5 pm P13 => ?_⟩
  rw [List.length_map] at P13
  obtain ⟨us, rfl, pus⟩ := perm_map pm rfl
  obtain ⟨u, v, ur, rfl⟩ : ∃ a b r, us = a :: b :: r := by
    have := pus.length_eq
    match us, this with
    | [], h => simp at h; omega
    | [_], h => simp at h; omega
    | a :: b :: r, _ => exact ⟨a, b, r, rfl⟩
  have nuv : u ≠ v := fun z => by
    have := pus.nodup_iff.mpr nl
    rw [z] at this
    simp at this
  have huN : u ∈ ls := pus.mem_iff.mp (by simp)
  have hvN : v ∈ ls := pus.mem_iff.mp (by simp)
  have uc : u ≠ c := fun z => ncl (z ▸ huN)
  have vc : v ≠ c := fun z => ncl (z ▸ hvN)
  have muV : u ∈ Vs := pw.mem_iff.mpr (List.mem_cons_of_mem _ huN)
  have mvV : v ∈ Vs := pw.mem_iff.mpr (List.mem_cons_of_mem _ hvN)
  have mcV : c ∈ Vs := pw.mem_iff.mpr (List.mem_cons_self ..)
  refine ⟨2, rfl, q5, _, rfl, SqL.of hq5, fun q6 nq6 => ?_⟩
  have etk : cutV ((u :: v :: ur).map V.str) none (some 2) = [.str u, .str v] := by
    rw [cutV_hi (by decide)]
    rfl
  rw [etk]
  have s14 : Same H13 (upd H13 q6 (.lst [.str u, .str v])) := same_upd nq6
  have L14 : upd H13 q6 (.lst [.str u, .str v]) q6 = some (.lst [.str u, .str v]) := upd_same
  generalize upd H13 q6 (.lst [.str u, .str v]) = H14 at s14 L14
  refine ⟨q6, _, rfl, SqL.of L14, rfl, _, _, rfl, _, _, rfl, rfl, ?_⟩
  have P14 := P13.same s14
  have c1014 : But p H10 H14 := (But.of_same (s11.trans s12)).trans (b13.trans (But.of_same s14))
  have W14 := c1014 _ _ W10 wap
  have dg : ∀ {Hq : Hp} {y : Str}, y ∈ ls → Hq wa = some (.dK (dct ls fun z => V.int (g0 z))) → DGet Hq wa (.str y) (some (.int (g0 y))) := fun {Hq y} yL h => by
    have := DGet.k (k := Sum.inr y) h
    rw [dct_in yL] at this
    exact this
  refine ⟨_, rfl, _, rfl, _, rfl, wa, .int (g0 u), rfl, dg huN W14, _, rfl, _, rfl, wa, .int (g0 u), rfl, dg huN W14, _, rfl, _, rfl, wa, .int (g0 v), rfl, dg hvN W14, _, _, rfl, by show 3 ≤ sizeLine; omega, fun q7 nq7 => ?_⟩
  obtain ⟨mn, emn⟩ : ∃ mn : Int, mn = if g0 v < g0 u then g0 v else g0 u := ⟨_, rfl⟩
  simp only [← emn]
  have s15 : Same H14 (upd H14 q7 (.lst [.int m0, .int (g0 u), .int mn])) := same_upd nq7
  have L15 : upd H14 q7 (.lst [.int m0, .int (g0 u), .int mn]) q7 = some (.lst [.int m0, .int (g0 u), .int mn]) := upd_same
  generalize upd H14 q7 (.lst [.int m0, .int (g0 u), .int mn]) = H15 at s15 L15
  have P15 := P14.same s15
  have c15 : But p H10 H15 := c1014.trans (But.of_same s15)
  obtain ⟨kv10, hp10⟩ := kvp P10
  have xp : x ≠ p := ne_of hx10 hp10 (by intro z; cases z)
  have rzB : ∀ {G : Hp}, But p H10 G → RowsZ G pr Vs ad nb wt := fun {G} b => ⟨rz10.top.imp fun o h => b _ _ h (ne_of h hp10 (by intro z; cases z)), fun u hu => (rz10.row u hu).imp fun o h => b _ _ h (ne_of h hp10 (by intro z; cases z))⟩
  have nmV : ∀ u ∈ Vs, nameB u = true := fun u hu => nm u (pw.mem_iff.mp hu)
  have paB : ∀ {G : Hp}, But p H10 G → PArg K G x CN dxh (netF pr rt n me en7 0 1 ++ []) pr rt Vs ad nb wt := fun {G} b => ⟨⟨b _ _ hx10 xp, NK.cls, NK.na, NK.nt, rfl, rfl⟩, rfl, rzB b, nmV⟩
  have T15 : Tabs tbT H15 := tabs_but T10 hp10 trivial c15
  have lVs := pw.length_eq
  have lcs : (c :: ls).length = 3 + m := ln
  have few : ∀ u ∈ Vs, (nb u).length < 1000 := fun u hu => by
    have h2 : (nb u).length ≤ Vs.length := (go.sym.nd u hu).length_le_of_subset fun y hy => (go.sym.mem u hu y hy).1
    omega
  have wnn : ∀ u ∈ Vs, ∀ v ∈ nb u, 0 ≤ wt u v := fun u hu v hv => by
    have := (go.wts u hu v hv).1
    omega
  have ge := fun S h1 h2 => star_low (c := c) nn LG S h1 h2
  have least2 := star_low2 nd0 LG
  obtain ⟨mu1, mu2⟩ := star_mid nd0 nn huN
  obtain ⟨tw1, tw2⟩ := star_two nd0 nn huN hvN nuv
  rw [← emn] at tw1 tw2
  have enn : n = m0 := by
    obtain ⟨ms, lc⟩ := N10.lc
    exact lc_val go pw hc lc ge least2
  have hx15 := c15 _ _ hx10 xp
  have na15 := c15 _ _ na10 nap
  have W15 := c15 _ _ W10 wap
  have N15 : NetO H15 x CN [] Vs nb wt rt n me en7 0 1 := N10.keep fun c o hc ho => c15 c o hc fun z => by
    rcases ho with ho | ⟨o1, o2, ho⟩
    · exact xp (ho ▸ z)
    · rw [z, hp10, ho] at hc
      cases hc
  have iu : IsIn (.str u) Vs := ⟨_, muV, rfl⟩
  have iv : IsIn (.str v) Vs := ⟨_, mvV, rfl⟩
  have ic : IsIn (.str c) Vs := ⟨_, mcV, rfl⟩
  refine ⟨_, rfl, x, dxh, _, rfl, hx15, x, me, en7, [], Vs, nb, wt, rt, n, 0, 1, rfl, N15, ?_⟩
  refine ⟨_, rfl, _, rfl, na, _, _, _, rfl, rfl, SqL.of na15, i0, _, rfl, x, dxh, _, pr, rt, Vs, ad, nb, wt, .str c, .str u, rfl, paB c15, .inl ⟨_, rfl, name_len (nmV _ mcV)⟩, .inl ⟨_, rfl, name_len (nmV _ muV)⟩, go.sym, wnn, few, by omega, go.nd, fun h => absurd ic h, fun _ h => absurd iu h, fun _ h => absurd (by injection h) (Ne.symm uc), fun u' v' e1 e2 _ _ _ n16 H16 s16 ps => ?_⟩
  cases e1
  cases e2
  have en16 : n16 = g0 u := ps_val hc ps mu1 mu2
  have c16 : But p H10 H16 := c15.trans (But.of_same s16)
  refine ⟨_, rfl, _, rfl, _, rfl, x, dxh, _, pr, rt, Vs, ad, nb, wt, .str v, .str u, rfl, paB c16, .inl ⟨_, rfl, name_len (nmV _ mvV)⟩, .inl ⟨_, rfl, name_len (nmV _ muV)⟩, go.sym, wnn, few, by omega, go.nd, fun h => absurd iv h, fun _ h => absurd iu h, fun _ h => absurd (by injection h) (Ne.symm nuv), fun u' v' e1 e2 _ _ _ n17 H17 s17 ps2 => ?_⟩
  cases e1
  cases e2
  have en17 : n17 = mn := ps_val hc ps2 (fun S h => tw1 S (Ne.symm h)) (by
    obtain ⟨S, h1, h2⟩ := tw2
    exact ⟨S, Ne.symm h1, h2⟩)
  refine ⟨by show 3 ≤ sizeLine; omega, fun q8 nq8 => ?_⟩
  have s18 : Same H17 (upd H17 q8 (.lst [.int n, .int n16, .int n17])) := same_upd nq8
  have L18 : upd H17 q8 (.lst [.int n, .int n16, .int n17]) q8 = some (.lst [.int n, .int n16, .int n17]) := upd_same
  generalize upd H17 q8 (.lst [.int n, .int n16, .int n17]) = H18 at s18 L18
  have s1518 : Same H15 H18 := s16.trans (s17.trans s18)
  have shp : ∀ a b c : Int, SeqAt.shaped (.list [.int a, .int b, .int c]) = true := fun a b c => rfl
  refine ⟨_, rfl, .list [.int n, .int n16, .int n17], .list [.int m0, .int (g0 u), .int mn], .lst (SqL.of L18) (.cons (.int _) (.cons (.int _) (.cons (.int _) .nil))), .lst (SqL.of (s1518 _ _ L15)) (.cons (.int _) (.cons (.int _) (.cons (.int _) .nil))), shp _ _ _, shp _ _ _, _, rfl, ?_⟩
  rw [enn, en16, en17, SeqAt.eqv_refl _ (SeqAt.canLay_of_shaped (shp m0 (g0 u) mn))]
  refine ite2 (fun h => absurd h (by simp)) (fun _ => ?_)
  have c18 : But p H10 H18 := c15.trans (But.of_same s1518)
  have P18 := P15.same s1518
  have T18 : Tabs tbT H18 := tabs_but T10 hp10 trivial c18
  have hx18 := c18 _ _ hx10 xp
  have na18 := c18 _ _ na10 nap
  have W18 := c18 _ _ W10 wap
  refine ⟨_, rfl, na, rfl, ⟨_, SqL.of na18⟩, fun D nD => ?_⟩
  refine lc_it (walk_list (xs := (c :: ls).map V.str)) (fun j Hd => Same H18 Hd ∧ Hd D = some (.lst ((((c :: ls).take j).filter fun u => decide (u = c ∨ m0 < g0 u)).map V.str))) ⟨same_upd nD, upd_same⟩ ?_ ?_ ?_
  · rintro j Hd hj ⟨d1, _⟩
    exact SqL.of (d1 _ _ na18)
  · rintro j y Hd0 Hd hj ⟨d1, d2⟩ ⟨rfl, hy⟩
    rw [List.length_map] at hj
    rw [List.getElem?_map, List.getElem?_eq_getElem hj] at hy
    cases hy
    have tk := takeS (List.getElem?_eq_getElem hj)
    have yL : (c :: ls)[j] ∈ c :: ls := List.getElem_mem hj
    generalize (c :: ls)[j] = y at tk yL
    rw [tk]
    have ln2 : (((c :: ls).take j).filter fun u => decide (u = c ∨ m0 < g0 u)).length < 1000 := by
      have a := List.length_filter_le (fun u => decide (u = c ∨ m0 < g0 u)) ((c :: ls).take j)
      rw [List.length_take] at a
      omega
    have na_d := d1 _ _ na18
    have W_d := d1 _ _ W18
    have app : ∀ b : Bool, b = decide (y = c ∨ m0 < g0 y) → ((((c :: ls).take j ++ [y]).filter fun u => decide (u = c ∨ m0 < g0 u)).map V.str) = (((c :: ls).take j).filter fun u => decide (u = c ∨ m0 < g0 u)).map V.str ++ if b = true then [.str y] else [] := fun b hb => filt_snoc hb.symm
    have yes : decide (y = c ∨ m0 < g0 y) = true → Same H18 (upd Hd D (.lst ((((c :: ls).take j).filter fun u => decide (u = c ∨ m0 < g0 u)).map V.str ++ [.str y]))) ∧ upd Hd D (.lst ((((c :: ls).take j).filter fun u => decide (u = c ∨ m0 < g0 u)).map V.str ++ [.str y])) D = some (.lst ((((c :: ls).take j ++ [y]).filter fun u => decide (u = c ∨ m0 < g0 u)).map V.str)) := fun h => by
      refine ⟨fun b o hb => ?_, ?_⟩
      · rw [upd_ne (ne_of_none hb nD)]
        exact d1 _ _ hb
      · rw [app true h.symm, upd_same, if_pos rfl]
    refine ⟨rfl, _, rfl, _, rfl, na, _, _, _, rfl, rfl, SqL.of na_d, i0, rfl, _, rfl, ?_⟩
    refine ite2 (fun h => ?_) (fun h => ?_)
    · have yc : y = c := by
        have := of_decide_eq_true h
        injection this
      refine iteT ⟨_, rfl, _, d2, by rw [List.length_map]; omega, yes (decide_eq_true (.inl yc))⟩
    · have yc : ¬ y = c := fun z => h (decide_eq_true (by rw [z]))
      have iy : y ∈ ls := (List.mem_cons.mp yL).resolve_left yc
      refine ⟨_, rfl, _, rfl, wa, .int (g0 y), rfl, dg iy W_d, _, rfl, _, _, rfl, rfl, _, rfl, ?_⟩
      refine ite2 (fun h => ?_) (fun h => ?_)
      · exact ⟨_, rfl, _, d2, by rw [List.length_map]; omega, yes (decide_eq_true (.inr (of_decide_eq_true h)))⟩
      · refine ⟨d1, ?_⟩
        rw [app false (decide_eq_false (fun z => z.elim yc fun z => h (decide_eq_true z))).symm, if_neg (by decide), List.append_nil]
        exact d2
  rintro H19 ⟨d1, d2⟩
  rw [List.length_map, List.take_length] at d2
  have lf : ((c :: ls).filter fun u => decide (u = c ∨ m0 < g0 u)).length ≤ (c :: ls).length := List.length_filter_le ..
  refine ⟨D, (c :: ls).filter fun u => decide (u = c ∨ m0 < g0 u), rfl, SqL.of d2, by omega, fun zs q9 pz soz nq9 => ?_⟩
  have ezs : zs = Vs.filter fun u => decide (u = c ∨ m0 < g0 u) := asc_unique (asc_of soz (pz.nodup_iff.mpr (nd0.filter _))) (N10.asc.filter _) (pz.trans (pw.symm.filter _))
  subst ezs
  have s20 : Same H19 (upd H19 q9 (.lst ((Vs.filter fun u => decide (u = c ∨ m0 < g0 u)).map V.str))) := same_upd nq9
  have L20 : upd H19 q9 (.lst ((Vs.filter fun u => decide (u = c ∨ m0 < g0 u)).map V.str)) q9 = some (.lst ((Vs.filter fun u => decide (u = c ∨ m0 < g0 u)).map V.str)) := upd_same
  generalize upd H19 q9 (.lst ((Vs.filter fun u => decide (u = c ∨ m0 < g0 u)).map V.str)) = H20 at s20 L20
  refine ⟨q9, _, rfl, .inl ⟨SqL.of L20, fun ra nra => ?_⟩⟩
  have s21 : Same H20 (upd H20 ra (.tup ((Vs.filter fun u => decide (u = c ∨ m0 < g0 u)).map V.str))) := same_upd nra
  have L21 : upd H20 ra (.tup ((Vs.filter fun u => decide (u = c ∨ m0 < g0 u)).map V.str)) ra = some (.tup ((Vs.filter fun u => decide (u = c ∨ m0 < g0 u)).map V.str)) := upd_same
  generalize upd H20 ra (.tup ((Vs.filter fun u => decide (u = c ∨ m0 < g0 u)).map V.str)) = H21 at s21 L21
  have s1821 : Same H18 H21 := d1.trans (s20.trans s21)
  have c21 : But p H10 H21 := c18.trans (But.of_same s1821)
  have A21 := paB c21
  have hx21 := c21 _ _ hx10 xp
  refine ⟨_, rfl, x, dxh, _, rfl, hx21, rfl, x, CN, dxh, _, pr, rt, Vs, ad, nb, wt, rfl, A21.g, A21.r, go.sym, wnn, few, by omega, go.nd, N10.rt, by omega, fun cl rc hd mc H22 s22 ncl L22 E22 CO => ?_⟩
  have emc : mc = m0 := cores_least go CO hc (fun S ⟨y, hy, e⟩ ⟨z, hz, e2⟩ => ge S ⟨y, pw.mem_iff.mp hy, e⟩ ⟨z, pw.mem_iff.mp hz, e2⟩) (by
    obtain ⟨S, ⟨y, hy, e⟩, ⟨z, hz, e2⟩, e3⟩ := least2
    exact ⟨S, ⟨y, pw.mem_iff.mpr hy, e⟩, ⟨z, pw.mem_iff.mpr hz, e2⟩, e3⟩)
  have ecl := star_cores N10.asc pw nd0 nn LG hc (fun a ha b hb => by rw [← emc]; exact CO.eq a ha b hb)
  rw [ecl] at E22
  have ra22 := s22 _ _ L21
  have c22 : But p H10 H22 := c21.trans (But.of_same s22)
  have na22 := c22 _ _ na10 nap
  have W22 := c22 _ _ W10 wap
  obtain ⟨Rv, eRv⟩ : ∃ Rv, Rv = Vs.filter fun u => decide (u = c ∨ m0 < g0 u) := ⟨_, rfl⟩
  rw [← eRv] at ra22 E22
  have cR : c ∈ Rv := by rw [eRv]; exact List.mem_filter.mpr ⟨mcV, decide_eq_true (.inl rfl)⟩
  refine ⟨_, rfl, by show 1 ≤ sizeLine; omega, fun q10 nq10 => ?_⟩
  have s23 : Same H22 (upd H22 q10 (.lst [.ref ra])) := same_upd nq10
  have L23 : upd H22 q10 (.lst [.ref ra]) q10 = some (.lst [.ref ra]) := upd_same
  generalize upd H22 q10 (.lst [.ref ra]) = H23 at s23 L23
  refine ⟨_, rfl, 1, rfl, na, _, rfl, SqL.of (s23 _ _ na22), fun q11 nq11 => ?_⟩
  rw [eD]
  have s24 : Same H23 (upd H23 q11 (.lst (ls.map V.str))) := same_upd nq11
  have L24 : upd H23 q11 (.lst (ls.map V.str)) q11 = some (.lst (ls.map V.str)) := upd_same
  generalize upd H23 q11 (.lst (ls.map V.str)) = H24 at s24 L24
  have W24 := s24 _ _ (s23 _ _ W22)
  refine ⟨q11, rfl, ⟨_, SqL.of L24⟩, fun D2 nD2 => ?_⟩
  refine lc_it (walk_list (xs := ls.map V.str)) (fun j Hd => Same H24 Hd ∧ ∃ ts : List Addr, Hd D2 = some (.lst (ts.map V.ref)) ∧ ts.length ≤ j ∧ EachIs (fun r (S : List Str) => Hd r = some (.tup (S.map V.str))) ts (((ls.take j).filter fun u => decide (g0 u = m0)).map fun u => [u])) ⟨same_upd nD2, [], upd_same, Nat.le_refl _, .nil⟩ ?_ ?_ ?_
  · rintro j Hd hj ⟨d1, _⟩
    exact SqL.of (d1 _ _ L24)
  · rintro j y Hd0 Hd hj ⟨d1, ts, d2, d4, d3⟩ ⟨rfl, hy⟩
    rw [List.length_map] at hj
    rw [List.getElem?_map, List.getElem?_eq_getElem hj] at hy
    cases hy
    have tk := takeS (List.getElem?_eq_getElem hj)
    have yL : ls[j] ∈ ls := List.getElem_mem hj
    generalize ls[j] = y at tk yL
    rw [tk, List.filter_append, List.map_append]
    refine ⟨rfl, _, rfl, _, rfl, wa, .int (g0 y), rfl, dg yL (d1 _ _ W24), _, rfl, rfl, _, rfl, ?_⟩
    refine ite2 (fun h => ?_) (fun h => ?_)
    · have hy0 : g0 y = m0 := by
        have := of_decide_eq_true h
        injection this
      rw [show ([y].filter fun u => decide (g0 u = m0)) = [y] by rw [List.filter_cons, if_pos (decide_eq_true hy0)]; rfl]
      refine ⟨_, rfl, by show 1 ≤ sizeLine; omega, fun q nq => ?_⟩
      have Dq : D2 ≠ q := ne_of_none d2 nq
      have s7 : Same Hd (upd Hd q (.tup [.str y])) := same_upd nq
      refine ⟨ts.map V.ref, by rw [upd_ne Dq]; exact d2, by rw [List.length_map]; omega, fun b o hb => ?_, ts ++ [q], by rw [upd_same, List.map_append]; rfl, by rw [List.length_append, List.length_singleton]; omega, ?_⟩
      · rw [upd_ne (ne_of_none hb nD2)]
        exact s7 _ _ (d1 _ _ hb)
      · exact eachA (d3.mono fun r S h => by rw [upd_ne (ne_of h d2 (by intro z; cases z))]; exact s7 _ _ h) (.cons (by rw [upd_ne (Ne.symm Dq)]; exact upd_same) .nil)
    · have hy0 : ¬ g0 y = m0 := fun z => h (decide_eq_true (by rw [z]))
      rw [show ([y].filter fun u => decide (g0 u = m0)) = [] by rw [List.filter_cons, if_neg (by simpa using hy0)]; rfl, List.map_nil, List.append_nil]
      exact ⟨d1, ts, d2, by omega, d3⟩
  rintro H25 ⟨t1, ts, t2, t4, t3⟩
  rw [List.length_map] at t4
  rw [List.length_map, List.take_length] at t3
  have L25 := t1 _ _ (s24 _ _ L23)
  have ra25 := t1 _ _ (s24 _ _ (s23 _ _ ra22))
  refine ⟨q10, D2, [.ref ra], ts.map V.ref, rfl, rfl, L25, t2, by rw [List.length_map]; show 1 + _ ≤ _; omega, fun q12 nq12 => ?_⟩
  have s26 : Same H25 (upd H25 q12 (.lst ([.ref ra] ++ ts.map V.ref))) := same_upd nq12
  have L26 : upd H25 q12 (.lst ([.ref ra] ++ ts.map V.ref)) q12 = some (.lst ([.ref ra] ++ ts.map V.ref)) := upd_same
  generalize upd H25 q12 (.lst ([.ref ra] ++ ts.map V.ref)) = H26 at s26 L26
  have E26 : EachIs (fun x (S : List Str) => ∃ r : Addr, x = .ref r ∧ H26 r = some (.tup (S.map V.str))) ([.ref ra] ++ ts.map V.ref) (Rv :: (ls.filter fun u => decide (g0 u = m0)).map fun u => [u]) := .cons ⟨ra, rfl, s26 _ _ ra25⟩ (eachMapL (t3.mono fun r S z => ⟨r, rfl, s26 _ _ z⟩))
  refine ⟨List Str, q12, _, _, encL, fun x S => ∃ r : Addr, x = .ref r ∧ H26 r = some (.tup (S.map V.str)), rfl, SqL.of L26, E26, fun x S ⟨r, e, z⟩ => TupAt.dx ⟨r, e, .inl (.inl z)⟩, fun d hd d' hd' => ?_, .inl fun d hd => ?_, fun S _ => Nat.le_trans (depth_encL S) (by decide), fun ys lp hys nlp => ?_⟩
  · obtain ⟨x, _, rfl⟩ := List.mem_map.mp hd
    obtain ⟨y, _, rfl⟩ := List.mem_map.mp hd'
    exact alike_encL x y
  · obtain ⟨S', hS, rfl⟩ := List.mem_map.mp hd
    have h : S' ≠ [] := by
      rcases List.mem_cons.mp hS with rfl | h
      · exact List.ne_nil_of_mem cR
      · obtain ⟨y, _, rfl⟩ := List.mem_map.mp h
        exact List.cons_ne_nil _ _
    cases S' with
    | nil => exact absurd rfl h
    | cons x S' => exact ⟨.str x, S'.map PyData.str, rfl⟩
  obtain ⟨ys, rfl, hys2⟩ := eachEx hys
  have s27 : Same H26 (upd H26 lp (.lst (ys.map V.ref))) := same_upd nlp
  have L27 : upd H26 lp (.lst (ys.map V.ref)) lp = some (.lst (ys.map V.ref)) := upd_same
  generalize upd H26 lp (.lst (ys.map V.ref)) = H27 at s27 L27
  obtain ⟨M, eM⟩ : ∃ M, M = (Rv :: (ls.filter fun u => decide (g0 u = m0)).map fun u => [u]).mergeSort (PySem.W.dataLe false encL) := ⟨_, rfl⟩
  rw [← eM] at E22 hys2
  have s2227 : Same H22 H27 := s23.trans (s24.trans (t1.trans (s26.trans s27)))
  have okS : ∀ S ∈ M, ∀ z ∈ S, PyData.strOk z = true := fun S hS z hz => by
    rw [eM, (List.mergeSort_perm _ _).mem_iff] at hS
    rcases List.mem_cons.mp hS with rfl | h
    · rw [eRv] at hz
      exact name_ok60 (nmV z (List.mem_filter.mp hz).1)
    · obtain ⟨y, hy, rfl⟩ := List.mem_map.mp h
      rw [List.mem_singleton.mp hz]
      exact name_ok60 (nm y (List.mem_cons_of_mem _ (List.mem_filter.mp hy).1))
  refine ⟨.list (M.map WkEb.tupD), .list (M.map WkEb.tupD), .lst (SqL.of (s2227 _ _ L22)) (WkEb.tups_dp (E22.mono fun r S h => .inl (.inl (s2227 _ _ h)))), .lst (SqL.of L27) (WkEb.tups_dp (hys2.mono fun r S h => .inl (.inl (s27 _ _ h)))), WkEb.tups_shaped okS, WkEb.tups_shaped okS, _, rfl, ?_⟩
  rw [SeqAt.eqv_refl _ (SeqAt.canLay_of_shaped (WkEb.tups_shaped okS))]
  refine ite2 (fun h => absurd h (by simp)) (fun _ => ?_)
  have s1827 : Same H18 H27 := s1821.trans (s22.trans s2227)
  have c27 : But p H10 H27 := c18.trans (But.of_same s1827)
  have P27 := P18.same s1827
  have T27 : Tabs tbT H27 := tabs_but T10 hp10 trivial c27
  have na27 := c27 _ _ na10 nap
  have W27 := c27 _ _ W10 wap
  refine ⟨wa, _, W27, trivial, fun od => ?_⟩
  obtain ⟨dd, edd⟩ : ∃ dd, dd = dct ls fun z => V.int (g0 z) := ⟨_, rfl⟩
  rw [← edd]
  have F28 : upd H27 wa (.frz od (.dK dd)) wa = some (.frz od (.dK dd)) := upd_same
  have u28 : ∀ b o, b ≠ wa → H27 b = some o → upd H27 wa (.frz od (.dK dd)) b = some o := fun b o hb h => by rw [upd_ne hb]; exact h
  generalize upd H27 wa (.frz od (.dK dd)) = H28 at F28 u28
  refine ⟨_, rfl, wa, od, rfl, .inl ⟨dd, F28, fun D3 nD3 => ?_⟩⟩
  refine lc_it (walk_keys (kvs := dd)) (fun j Hd => Same H28 Hd ∧ Hd D3 = some (.lst (((ls.take j).filter fun u => decide (g0 u = m0)).map V.str))) ⟨same_upd nD3, upd_same⟩ ?_ ?_ ?_
  · rintro j Hd hj ⟨d1, _⟩
    exact d1 _ _ F28
  · rintro j y Hd0 Hd hj ⟨d1, d2⟩ ⟨rfl, k0, v0, hy, rfl⟩
    rw [edd, dct_len] at hj
    rw [edd] at hy
    unfold dct at hy
    rw [List.getElem?_map, List.getElem?_eq_getElem hj] at hy
    cases hy
    have tk := takeS (List.getElem?_eq_getElem hj)
    have yL : ls[j] ∈ ls := List.getElem_mem hj
    generalize ls[j] = y at tk yL
    rw [tk]
    have ln2 : ((ls.take j).filter fun u => decide (g0 u = m0)).length < 1000 := by
      have a := List.length_filter_le (fun u => decide (g0 u = m0)) (ls.take j)
      rw [List.length_take] at a
      omega
    have dgF : DGet Hd wa (.str y) (some (.int (g0 y))) := .inl ⟨dd, Sum.inr y, .inr ⟨od, d1 _ _ F28⟩, rfl, by rw [edd, dct_in yL]⟩
    refine ⟨rfl, _, rfl, _, rfl, wa, .int (g0 y), rfl, dgF, _, rfl, rfl, _, rfl, ?_⟩
    refine ite2 (fun h => ?_) (fun h => ?_)
    · have hy0 : g0 y = m0 := by
        have := of_decide_eq_true h
        injection this
      rw [filt_snoc (p := fun u => decide (g0 u = m0)) (decide_eq_true hy0), if_pos rfl]
      refine ⟨_, rfl, _, d2, by rw [List.length_map]; omega, fun b o hb => ?_, upd_same⟩
      rw [upd_ne (ne_of_none hb nD3)]
      exact d1 _ _ hb
    · have hy0 : ¬ g0 y = m0 := fun z => h (decide_eq_true (by rw [z]))
      rw [filt_snoc (p := fun u => decide (g0 u = m0)) (decide_eq_false hy0), if_neg (by decide), List.append_nil]
      exact ⟨d1, d2⟩
  rintro H29 ⟨d29, L29⟩
  rw [edd, dct_len, List.take_length] at L29
  refine ⟨d29 _ _ F28, D3, _, rfl, .inl (SqL.of (by rw [upd_ne (ne_of L29 (d29 _ _ F28) (by intro z; cases z))]; exact L29)), ?_⟩
  have s2729 : Same H27 (upd H29 wa (.dK dd)) := fun b o hb => by
    by_cases e : b = wa
    · rw [e, upd_same, ← hb, e, W27, edd]
    · rw [upd_ne e]
      exact d29 _ _ (u28 b o e hb)
  generalize upd H29 wa (.dK dd) = H30 at s2729
  rw [List.length_map]
  obtain ⟨ml, eml⟩ : ∃ ml, ml = (ls.filter fun u => decide (g0 u = m0)).length := ⟨_, rfl⟩
  rw [← eml]
  have c30 : But p H10 H30 := c27.trans (But.of_same s2729)
  have na30 := c30 _ _ na10 nap
  have W30 := c30 _ _ W10 wap
  have P30 := P27.same s2729
  have T30 : Tabs tbT H30 := tabs_but T10 hp10 trivial c30
  have key : ∀ (wd2 : Str) (G : Hp), Same H30 G → wd2 = (if m0 < g0 u then ("none" : Str) else if ml = 1 then ("all" : Str) else ("some" : Str)) →
      tRet (tAndV
        (tOp rEq (tCall (spRole K tbT CN CU CE) [] (fun _ _ _ => False) (tCons (tVar 5) (tCons (tVar 7) (tCons (tOp (rIxL K) (tVar 1) (tC (V.int 0))) tNil)))) (tVar 12))
        (tOp rEq (tCall (spSlack K tbT CN CU CE) [] (fun _ _ _ => False) (tCons (tVar 5) (tCons (tVar 7) (tCons (tOp (rIxL K) (tVar 1) (tC (V.int 0))) tNil)))) (tOp (rI0 fun i j => V.int (i - j)) (tDGet (tVar 3) (tVar 7)) (tVar 6))))
        { nx := fun _ H' => Q V.non H', rt := Q }
        [some (.ref p), some (.ref na), some (.ref qw), some (.ref wa), none, some (.ref x), some (.int m0), some (.str u), some (.str v), some (.ref q7), some (.ref ra), some (.int ml), some (.str wd2)] G := fun wd2 G sG ewd => by
    have cG : But p H10 G := c30.trans (But.of_same sG)
    have naG := sG _ _ na30
    have PG := P30.same sG
    have TG : Tabs tbT G := tabs_but T10 hp10 trivial cG
    have WG := sG _ _ W30
    have hadj : Adj (starE c g0 ls) u c (g0 u) := .inl (List.mem_map.mpr ⟨u, huN, rfl⟩)
    have hnb : c ∈ nb u := (ro.mem _ muV _).mpr ⟨_, hadj⟩
    have hwt : wt u c = g0 u := ro.val _ muV _ _ hadj
    refine ⟨_, rfl, _, rfl, _, rfl, na, _, _, _, rfl, rfl, SqL.of naG, i0, x, dxh, _, pr, rt, Vs, ad, nb, wt, _, _, rfl, paB cG, TG, go.sym, wnn, few, by omega, go.nd, by omega, muV, hnb, fun H31 wd n31 m31 ms31 e31 T31 ps lc hwd => ?_⟩
    have en31 : n31 = g0 u := ps_val hc ps (fun S h => mu1 S (Ne.symm h)) (by
      obtain ⟨S, h1, h2⟩ := mu2
      exact ⟨S, Ne.symm h1, h2⟩)
    have em31 : m31 = m0 := lc_val go pw hc lc ge least2
    have ew : wd = wd2 := by
      rw [ewd]
      rcases hwd with ⟨h1, h2⟩ | ⟨h1, m2, ms2, lc2, h2⟩
      · rw [h2, if_pos (by rw [← en31, ← em31]; exact h1)]
      · obtain ⟨bl1, bl2⟩ := bump_least go pw hc muV hnb lc2
        rw [en31, em31] at h1
        have eu : g0 u = m0 := by
          have := LG.1 u huN
          omega
        have sr := star_raise nd0 nn LG huN eu bl1 bl2
        rw [← eml] at sr
        rw [h2, em31, if_neg (show ¬ m0 < g0 u by omega)]
        by_cases e : ml = 1
        · rw [if_pos e, if_pos (sr.mpr e)]
        · rw [if_neg e, if_neg fun z => e (sr.mp z)]
    subst ew
    refine ⟨_, rfl, rfl, _, rfl, ?_⟩
    rw [decide_eq_true rfl]
    refine iteT ?_
    have xG : Ext H30 H31 := (Ext.of sG).trans e31
    have nt_d : ∀ ps, HO.dK (dct ls fun z => V.int (g0 z)) ≠ .tbl ps := fun ps z => by cases z
    have na31 := e31 _ _ naG nt_lst
    have W31 := e31 _ _ WG nt_d
    have AG := paB cG
    have A31 : PArg K H31 x CN dxh (netF pr rt n me en7 0 1 ++ []) pr rt Vs ad nb wt := ⟨AG.g.ext e31, AG.lk, AG.r.ext e31, AG.nm⟩
    refine ⟨_, rfl, _, rfl, _, rfl, na, _, _, _, rfl, rfl, SqL.of na31, i0, x, dxh, _, pr, rt, Vs, ad, nb, wt, .str u, .str c, rfl, A31, .inl ⟨_, rfl, name_len (nmV _ muV)⟩, .inl ⟨_, rfl, name_len (nmV _ mcV)⟩, T31, go.sym, wnn, few, by omega, go.nd, by omega, fun h => absurd iu h, fun _ h => absurd ic h, fun u' v' e1 e2 _ _ hn => ?_, fun u' v' e1 e2 _ _ _ n32 m32 ms32 H32 e32 T32 ps32 lc32 => ?_⟩
    · cases e1
      cases e2
      exact absurd hnb hn
    cases e1
    cases e2
    have en32 : n32 = g0 u := ps_val hc ps32 (fun S h => mu1 S (Ne.symm h)) (by
      obtain ⟨S, h1, h2⟩ := mu2
      exact ⟨S, Ne.symm h1, h2⟩)
    have em32 : m32 = m0 := lc_val go pw hc lc32 ge least2
    have lo := LG.1 u huN
    have lo0 : 0 ≤ m0 := by
      obtain ⟨_, y, hy, e⟩ := LG
      have := nn y hy
      omega
    have ev : mn2 (wt u c) (n32 - m32) = g0 u - m0 := by
      rw [hwt, en32, em32]
      unfold mn2
      split <;> omega
    have W32 := e32 _ _ W31 nt_d
    refine ⟨_, rfl, _, rfl, wa, .int (g0 u), rfl, dg huN W32, _, rfl, _, _, rfl, rfl, ?_⟩
    rw [ev]
    refine ⟨rfl, ?_⟩
    rw [decide_eq_true rfl]
    have x32 : Ext H30 H32 := xG.trans e32
    refine k H32 (fun b o hb hne no => ?_) T32 ((P30.ext x32).mono (by omega))
    exact x32 _ _ (c30 _ _ (k010 b o hb hne no) hne) no
  refine ⟨_, rfl, _, rfl, wa, .int (g0 u), rfl, dg huN W30, _, rfl, _, _, rfl, rfl, _, rfl, ?_⟩
  refine ite2 (fun h => ?_) (fun h => ?_)
  · exact key _ H30 (fun _ _ z => z) (by rw [if_pos (of_decide_eq_true h)])
  · refine ⟨by show 2 ≤ sizeLine; omega, fun q13 nq13 => ?_⟩
    have s31 : Same H30 (upd H30 q13 (.lst [.str (Str.ofString "some"), .str (Str.ofString "all")])) := same_upd nq13
    have L31 : upd H30 q13 (.lst [.str (Str.ofString "some"), .str (Str.ofString "all")]) q13 = some (.lst [.str (Str.ofString "some"), .str (Str.ofString "all")]) := upd_same
    generalize upd H30 q13 (.lst [.str (Str.ofString "some"), .str (Str.ofString "all")]) = H31 at s31 L31
    refine ⟨_, rfl, rfl, decide (V.int (ml : Int) = V.int 1), rfl, q13, _, _, .str (if ml = 1 then Str.ofString "all" else Str.ofString "some"), rfl, rfl, SqL.of L31, ?_, ?_⟩
    · by_cases e : ml = 1
      · rw [if_pos e, show decide (V.int (ml : Int) = V.int 1) = true from decide_eq_true (by rw [e]; rfl)]
        rfl
      · rw [if_neg e, show decide (V.int (ml : Int) = V.int 1) = false from decide_eq_false (by intro z; injection z; omega)]
        rfl
    · exact key _ H31 s31 (by rw [if_neg (fun z => h (decide_eq_true z))])
end
end Wk
namespace Wk
open PySem PySem.Spec PyProof.Rows L2 WkD WkN LamX WkP WkE WkC
open PySem.W (EachIs dataLe)
theorem tri_mem {ns : List Str} {ls : List Int} {k : Nat} {e : Ed} (h : e ∈ triE ns ls k) : ∃ i j n, e = (ns.getD i sE, ns.getD j sE, n) ∧ i < j ∧ 3 * k ≤ j ∧ j < 3 * k + 3 ∧ (n = 10 ∨ 0 < k ∧ n = ls.getD k 0) := by
  unfold triE at h
  rcases List.mem_append.mp h with h | h
  · simp only [List.mem_cons, List.not_mem_nil, or_false] at h
    rcases h with rfl | rfl | rfl
    · exact ⟨_, _, _, rfl, by omega, by omega, by omega, .inl rfl⟩
    · exact ⟨_, _, _, rfl, by omega, by omega, by omega, .inl rfl⟩
    · exact ⟨_, _, _, rfl, by omega, by omega, by omega, .inl rfl⟩
  · by_cases c : 0 < k
    · rw [if_pos c, List.mem_singleton] at h
      subst h
      exact ⟨_, _, _, rfl, by omega, by omega, by omega, .inr ⟨c, rfl⟩⟩
    · rw [if_neg c] at h
      cases h
theorem chain_mem {ns : List Str} {ls : List Int} {e : Ed} : ∀ {m : Nat}, e ∈ chainE ns ls m ↔ ∃ k, k < m ∧ e ∈ triE ns ls k
  | 0 => ⟨(fun h => nomatch h), fun ⟨k, h, _⟩ => absurd h (Nat.not_lt_zero _)⟩
  | m + 1 => by
    unfold chainE
    rw [List.mem_append, chain_mem]
    constructor
    · rintro (⟨k, h1, h2⟩ | h)
      · exact ⟨k, by omega, h2⟩
      · exact ⟨m, by omega, h⟩
    · rintro ⟨k, h1, h2⟩
      by_cases c : k = m
      · exact .inr (c ▸ h2)
      · exact .inl ⟨k, by omega, h2⟩
theorem chain_len {ns : List Str} {ls : List Int} : ∀ {m : Nat}, (chainE ns ls m).length ≤ 4 * m
  | 0 => Nat.le_refl _
  | m + 1 => by
    unfold chainE
    rw [List.length_append]
    have h1 := chain_len (ns := ns) (ls := ls) (m := m)
    have h2 : (triE ns ls m).length ≤ 4 := by
      unfold triE
      split <;> simp
    omega
def pair2 (ns : List Str) (i j i' j' : Nat) : Prop := ¬ ((ns.getD i sE = ns.getD i' sE ∧ ns.getD j sE = ns.getD j' sE) ∨ (ns.getD i sE = ns.getD j' sE ∧ ns.getD j sE = ns.getD i' sE))
theorem pair2_of {ns : List Str} (nd : ns.Nodup) {i j i' j' : Nat} (h1 : i < ns.length) (h2 : j < ns.length) (h3 : i' < ns.length) (h4 : j' < ns.length) (h : ¬ ((i = i' ∧ j = j') ∨ (i = j' ∧ j = i'))) : pair2 ns i j i' j' := by
  rintro (⟨a, b⟩ | ⟨a, b⟩)
  · exact h (.inl ⟨nm_inj nd h1 h3 a, nm_inj nd h2 h4 b⟩)
  · exact h (.inr ⟨nm_inj nd h1 h4 a, nm_inj nd h2 h3 b⟩)
theorem tri_pw {ns : List Str} (nd : ns.Nodup) {ls : List Int} {k : Nat} (hk : 3 * k + 2 < ns.length) : (triE ns ls k).Pairwise fun e f => ¬ ((e.1 = f.1 ∧ e.2.1 = f.2.1) ∨ (e.1 = f.2.1 ∧ e.2.1 = f.1)) := by
  have p1 := pair2_of nd (i := 3 * k) (j := 3 * k + 1) (i' := 3 * k + 1) (j' := 3 * k + 2) (by omega) (by omega) (by omega) (by omega) (by omega)
  have p2 := pair2_of nd (i := 3 * k) (j := 3 * k + 1) (i' := 3 * k) (j' := 3 * k + 2) (by omega) (by omega) (by omega) (by omega) (by omega)
  have p3 := pair2_of nd (i := 3 * k + 1) (j := 3 * k + 2) (i' := 3 * k) (j' := 3 * k + 2) (by omega) (by omega) (by omega) (by omega) (by omega)
  unfold triE
  by_cases c : 0 < k
  · have p4 := pair2_of nd (i := 3 * k) (j := 3 * k + 1) (i' := 3 * k - 1) (j' := 3 * k) (by omega) (by omega) (by omega) (by omega) (by omega)
    have p5 := pair2_of nd (i := 3 * k + 1) (j := 3 * k + 2) (i' := 3 * k - 1) (j' := 3 * k) (by omega) (by omega) (by omega) (by omega) (by omega)
    have p6 := pair2_of nd (i := 3 * k) (j := 3 * k + 2) (i' := 3 * k - 1) (j' := 3 * k) (by omega) (by omega) (by omega) (by omega) (by omega)
    rw [if_pos c]
    simp only [List.cons_append, List.nil_append]
    refine .cons (fun f hf => ?_) (.cons (fun f hf => ?_) (.cons (fun f hf => ?_) (.cons (fun f hf => nomatch hf) .nil)))
    · simp only [List.mem_cons, List.not_mem_nil, or_false] at hf
      rcases hf with rfl | rfl | rfl
      · exact p1
      · exact p2
      · exact p4
    · simp only [List.mem_cons, List.not_mem_nil, or_false] at hf
      rcases hf with rfl | rfl
      · exact p3
      · exact p5
    · simp only [List.mem_cons, List.not_mem_nil, or_false] at hf
      subst hf
      exact p6
  · rw [if_neg c]
    simp only [List.append_nil]
    refine .cons (fun f hf => ?_) (.cons (fun f hf => ?_) (.cons (fun f hf => nomatch hf) .nil))
    · simp only [List.mem_cons, List.not_mem_nil, or_false] at hf
      rcases hf with rfl | rfl
      · exact p1
      · exact p2
    · simp only [List.mem_cons, List.not_mem_nil, or_false] at hf
      subst hf
      exact p3
theorem chain_pw {ns : List Str} (nd : ns.Nodup) {ls : List Int} : ∀ {m : Nat}, 3 * m ≤ ns.length → (chainE ns ls m).Pairwise fun e f => ¬ ((e.1 = f.1 ∧ e.2.1 = f.2.1) ∨ (e.1 = f.2.1 ∧ e.2.1 = f.1))
  | 0, _ => .nil
  | m + 1, h => by
    unfold chainE
    refine List.pairwise_append.mpr ⟨chain_pw nd (by omega), tri_pw nd (by omega), fun e he f hf => ?_⟩
    obtain ⟨k, hk, he⟩ := chain_mem.mp he
    obtain ⟨i, j, n, rfl, a1, a2, a3, _⟩ := tri_mem he
    obtain ⟨i', j', n', rfl, b1, b2, b3, _⟩ := tri_mem hf
    exact pair2_of nd (by omega) (by omega) (by omega) (by omega) (by omega)
theorem good_chain {ns : List Str} {ls : List Int} {m : Nat} (nm : ∀ u ∈ ns, nameB u = true) (nd : ns.Nodup) (hm : ns.length = 3 * m) (m1 : 1 ≤ m) (l40 : ns.length ≤ 40) (hl : ∀ k, k < m → 1 ≤ ls.getD k 0 ∧ ls.getD k 0 ≤ 9) : Good60 ns (chainE ns ls m) := by
  refine ⟨nm, nd, by omega, l40, fun e he => ?_, ⟨fun e he => ?_, chain_pw nd (by omega)⟩, fun nb wt ro => con_pre (fun p h1 hp => ?_) ro⟩
  · obtain ⟨k, hk, he⟩ := chain_mem.mp he
    obtain ⟨i, j, n, rfl, a1, a2, a3, a4⟩ := tri_mem he
    refine ⟨nm_mem (by omega), nm_mem (by omega), ?_⟩
    rcases a4 with rfl | ⟨_, rfl⟩
    · exact ⟨by show (1 : Int) ≤ 10; decide, by show (10 : Int) ≤ 1000000000; decide⟩
    · have := hl k hk
      exact ⟨by show 1 ≤ ls.getD k 0; omega, by show ls.getD k 0 ≤ 1000000000; omega⟩
  · obtain ⟨k, hk, he⟩ := chain_mem.mp he
    obtain ⟨i, j, n, rfl, a1, a2, a3, a4⟩ := tri_mem he
    intro z
    have := nm_inj nd (by omega) (by omega) z
    omega
  · obtain ⟨k, r, hr, rfl⟩ : ∃ k r, r < 3 ∧ p = 3 * k + r := ⟨p / 3, p % 3, by omega, by omega⟩
    have inC : ∀ {e : Ed}, e ∈ triE ns ls k → e ∈ chainE ns ls m := fun h => chain_mem.mpr ⟨k, by omega, h⟩
    match r, hr with
    | 0, _ =>
      refine ⟨3 * k - 1, by omega, ls.getD k 0, .inl (inC ?_)⟩
      unfold triE
      rw [if_pos (by omega)]
      exact List.mem_append_right _ (List.mem_singleton.mpr rfl)
    | 1, _ =>
      refine ⟨3 * k, by omega, 10, .inl (inC (List.mem_append_left _ ?_))⟩
      exact List.mem_cons_self ..
    | 2, _ =>
      refine ⟨3 * k + 1, by omega, 10, .inl (inC (List.mem_append_left _ ?_))⟩
      exact List.mem_cons_of_mem _ (List.mem_cons_self ..)
section
variable {ns : List Str} {ls : List Int} {m : Nat} {m0 : Int}
def LeastL (ls : List Int) (m : Nat) (m0 : Int) : Prop := (∀ k, 0 < k → k < m → m0 ≤ ls.getD k 0) ∧ ∃ k, 0 < k ∧ k < m ∧ ls.getD k 0 = m0
theorem pos_of {u : Str} (hu : u ∈ ns) : ns.idxOf u < ns.length ∧ ns.getD (ns.idxOf u) sE = u := by
  have h := List.idxOf_lt_length_of_mem hu
  refine ⟨h, ?_⟩
  rw [List.getD_eq_getElem?_getD, List.getElem?_eq_getElem h]
  exact List.getElem_idxOf h
theorem two_places {S : Sd} (h1 : ∃ y ∈ ns, S y = true) (h2 : ∃ y ∈ ns, S y = false) : ∃ p q, p < q ∧ q < ns.length ∧ S (ns.getD p sE) ≠ S (ns.getD q sE) := by
  obtain ⟨y, hy, ey⟩ := h1
  obtain ⟨z, hz, ez⟩ := h2
  obtain ⟨a1, a2⟩ := pos_of hy
  obtain ⟨b1, b2⟩ := pos_of hz
  have ne : ns.idxOf y ≠ ns.idxOf z := fun q => by
    rw [q, b2] at a2
    rw [a2, ey] at ez
    cases ez
  rcases Nat.lt_or_gt_of_ne ne with h | h
  · exact ⟨_, _, h, b1, by rw [a2, b2, ey, ez]; decide⟩
  · exact ⟨_, _, h, a1, by rw [a2, b2, ey, ez]; decide⟩
theorem chain_low (hm : ns.length = 3 * m) (nn : ∀ k, k < m → 1 ≤ ls.getD k 0 ∧ ls.getD k 0 ≤ 9) (h : LeastL ls m m0) (S : Sd) (h1 : ∃ y ∈ ns, S y = true) (h2 : ∃ y ∈ ns, S y = false) : m0 ≤ cutL (chainE ns ls m) S := by
  obtain ⟨p, q, hpq, hq, ne⟩ := two_places h1 h2
  rcases chain_sep (ns := ns) (ls := ls) (m := m) (fun k hk => by have := (nn k hk).1; omega) hpq (by omega) ne with g | ⟨k, g1, g2, g3⟩
  · obtain ⟨_, k, k1, k2, k3⟩ := h
    have := (nn k k2).2
    omega
  · have := h.1 k (by omega) (by omega)
    omega
theorem chain_low2 (nd : ns.Nodup) (hm : ns.length = 3 * m) (h : LeastL ls m m0) : ∃ S : Sd, (∃ y ∈ ns, S y = true) ∧ (∃ y ∈ ns, S y = false) ∧ cutL (chainE ns ls m) S = m0 := by
  obtain ⟨_, k, k1, k2, k3⟩ := h
  refine ⟨_, ⟨ns.getD 0 sE, nm_mem (by omega), ?_⟩, ⟨ns.getD (3 * k) sE, nm_mem (by omega), ?_⟩, (chain_arc nd hm k1 k2).trans k3⟩
  · rw [posS_at nd (by omega)]
    exact decide_eq_true (by omega)
  · rw [posS_at nd (by omega)]
    exact decide_eq_false (by omega)
def tgC (ls : List Int) (m0 : Int) : Nat → Nat
  | 0 => 0
  | k + 1 => tgC ls m0 k + if ls.getD (k + 1) 0 = m0 then 1 else 0
theorem tg_mono {a b : Nat} (h : a ≤ b) : tgC ls m0 a ≤ tgC ls m0 b := by
  induction h with
  | refl => exact Nat.le_refl _
  | @step b _ ih =>
    show _ ≤ tgC ls m0 b + (if ls.getD (b + 1) 0 = m0 then 1 else 0)
    omega
theorem tg_eq {a b : Nat} (h : a ≤ b) : tgC ls m0 a = tgC ls m0 b ↔ ∀ k, a < k → k ≤ b → ls.getD k 0 ≠ m0 := by
  induction h with
  | refl => exact ⟨fun _ k h1 h2 => by omega, fun _ => rfl⟩
  | @step b hb ih =>
    have hb : a ≤ b := hb
    have mono := tg_mono (ls := ls) (m0 := m0) hb
    show _ = tgC ls m0 b + (if ls.getD (b + 1) 0 = m0 then 1 else 0) ↔ _
    by_cases c : ls.getD (b + 1) 0 = m0
    · rw [if_pos c]
      exact ⟨fun z => by omega, fun z => absurd c (z (b + 1) (by omega) (by omega))⟩
    · rw [if_neg c, Nat.add_zero, ih]
      refine ⟨fun z k h1 h2 => ?_, fun z k h1 h2 => z k h1 (by omega)⟩
      by_cases e : k = b + 1
      · rw [e]
        exact c
      · exact z k h1 (by omega)
theorem tg_all {b : Nat} : ∀ {t : Nat}, t ≤ tgC ls m0 b → ∃ a, a ≤ b ∧ tgC ls m0 a = t := by
  induction b with
  | zero => exact fun {t} h => ⟨0, Nat.le_refl _, (Nat.le_zero.mp h).symm⟩
  | succ b ih =>
    intro t h
    by_cases c : t ≤ tgC ls m0 b
    · obtain ⟨a, h1, h2⟩ := ih c
      exact ⟨a, by omega, h2⟩
    · refine ⟨b + 1, Nat.le_refl _, ?_⟩
      have e : tgC ls m0 (b + 1) = tgC ls m0 b + if ls.getD (b + 1) 0 = m0 then 1 else 0 := rfl
      rw [e] at h ⊢
      split at h
      · rw [if_pos ‹_›]
        omega
      · omega
def tauC (ns : List Str) (ls : List Int) (m0 : Int) (u : Str) : Nat := tgC ls m0 (ns.idxOf u / 3)
theorem idx_at (nd : ns.Nodup) {i : Nat} (hi : i < ns.length) : ns.idxOf (ns.getD i sE) = i := by
  have h := pos_of (nm_mem hi)
  exact nm_inj nd h.1 hi h.2
def rowC (ns : List Str) (ls : List Int) (m0 : Int) (j t : Nat) : List Str := (ns.take (3 * j)).filter fun u => decide (tauC ns ls m0 u = t)
theorem take3 {j : Nat} (h : 3 * j + 2 < ns.length) : ns.take (3 * (j + 1)) = ns.take (3 * j) ++ [ns.getD (3 * j) sE, ns.getD (3 * j + 1) sE, ns.getD (3 * j + 2) sE] := by
  have e : ∀ i, i < ns.length → ns.take (i + 1) = ns.take i ++ [ns.getD i sE] := fun i hi => by
    rw [List.take_add_one, List.getElem?_eq_getElem hi, List.getD_eq_getElem?_getD, List.getElem?_eq_getElem hi]
    rfl
  rw [show 3 * (j + 1) = 3 * j + 2 + 1 by omega, e _ h, e (3 * j + 1) (by omega), e (3 * j) (by omega), List.append_assoc, List.append_assoc]
  rfl
theorem rowC_succ (nd : ns.Nodup) {j t : Nat} (h : 3 * j + 2 < ns.length) : rowC ns ls m0 (j + 1) t = rowC ns ls m0 j t ++ if tgC ls m0 j = t then [ns.getD (3 * j) sE, ns.getD (3 * j + 1) sE, ns.getD (3 * j + 2) sE] else [] := by
  unfold rowC
  rw [take3 h, List.filter_append]
  congr 1
  have e : ∀ r, r < 3 → tauC ns ls m0 (ns.getD (3 * j + r) sE) = tgC ls m0 j := fun r hr => by
    unfold tauC
    rw [idx_at nd (by omega), show (3 * j + r) / 3 = j by omega]
  have e0 := e 0 (by omega)
  have e1 := e 1 (by omega)
  have e2 := e 2 (by omega)
  rw [Nat.add_zero] at e0
  by_cases c : tgC ls m0 j = t
  · rw [if_pos c, List.filter_eq_self]
    intro y hy
    simp only [List.mem_cons, List.not_mem_nil, or_false] at hy
    refine decide_eq_true ?_
    rcases hy with rfl | rfl | rfl
    · exact e0.trans c
    · exact e1.trans c
    · exact e2.trans c
  · rw [if_neg c, List.filter_eq_nil_iff]
    intro y hy
    simp only [List.mem_cons, List.not_mem_nil, or_false] at hy
    rw [decide_eq_true_iff]
    rcases hy with rfl | rfl | rfl
    · rw [e0]; exact c
    · rw [e1]; exact c
    · rw [e2]; exact c
theorem rowC_none {j t : Nat} (hj : 3 * j ≤ ns.length) (nd : ns.Nodup) (h : ∀ i, i < j → tgC ls m0 i ≠ t) : rowC ns ls m0 j t = [] := by
  unfold rowC
  rw [List.filter_eq_nil_iff]
  intro y hy
  rw [decide_eq_true_iff]
  obtain ⟨i, hi, rfl⟩ := List.mem_iff_getElem.mp hy
  rw [List.length_take] at hi
  rw [List.getElem_take]
  have g : ns.getD i sE = ns[i] := by rw [List.getD_eq_getElem?_getD, List.getElem?_eq_getElem (by omega)]; rfl
  rw [← g]
  unfold tauC
  rw [idx_at nd (by omega)]
  exact h _ (by omega)
theorem rowC_turn (nd : ns.Nodup) {j : Nat} (h : 3 * j + 2 < ns.length) :
    (0 < j ∧ ls.getD j 0 = m0 → (List.range (tgC ls m0 j)).map (rowC ns ls m0 (j + 1)) = (List.range (tgC ls m0 (j - 1))).map (rowC ns ls m0 j) ++ [rowC ns ls m0 j (tgC ls m0 (j - 1))] ∧ rowC ns ls m0 (j + 1) (tgC ls m0 j) = [ns.getD (3 * j) sE, ns.getD (3 * j + 1) sE, ns.getD (3 * j + 2) sE]) ∧
    (¬ (0 < j ∧ ls.getD j 0 = m0) → (List.range (tgC ls m0 j)).map (rowC ns ls m0 (j + 1)) = (List.range (tgC ls m0 (j - 1))).map (rowC ns ls m0 j) ∧ rowC ns ls m0 (j + 1) (tgC ls m0 j) = rowC ns ls m0 j (tgC ls m0 (j - 1)) ++ [ns.getD (3 * j) sE, ns.getD (3 * j + 1) sE, ns.getD (3 * j + 2) sE]) := by
  have same : ∀ t, t < tgC ls m0 j → rowC ns ls m0 (j + 1) t = rowC ns ls m0 j t := fun t ht => by
    rw [rowC_succ nd h, if_neg (by omega), List.append_nil]
  have maps : (List.range (tgC ls m0 j)).map (rowC ns ls m0 (j + 1)) = (List.range (tgC ls m0 j)).map (rowC ns ls m0 j) := List.map_congr_left fun t ht => same t (List.mem_range.mp ht)
  constructor
  · rintro ⟨j0, hj⟩
    obtain ⟨i, rfl⟩ : ∃ i, j = i + 1 := ⟨j - 1, by omega⟩
    have e : tgC ls m0 (i + 1) = tgC ls m0 i + 1 := by
      show _ + _ = _
      rw [if_pos hj]
    rw [show i + 1 - 1 = i by omega]
    constructor
    · rw [maps, e, List.range_succ, List.map_append]
      rfl
    · rw [rowC_succ nd h, if_pos rfl, rowC_none (by omega) nd fun k hk => ?_, List.nil_append]
      have := tg_mono (ls := ls) (m0 := m0) (show k ≤ i by omega)
      omega
  · intro hj
    have e : tgC ls m0 (j - 1) = tgC ls m0 j := by
      match j, hj with
      | 0, _ => rfl
      | i + 1, hj =>
        show tgC ls m0 i = tgC ls m0 i + _
        rw [if_neg fun z => hj ⟨by omega, z⟩]
        rfl
    rw [e]
    exact ⟨maps, by rw [rowC_succ nd h, if_pos rfl]⟩
theorem chain_cores {Vs : List Str} {w : Wf} {hd : Str → Str} (aV : Asc Vs) (pw : Vs.Perm ns) (nd : ns.Nodup) (hm : ns.length = 3 * m) (m1 : 1 ≤ m) (hl : ls.length = m) (nn : ∀ k, k < m → 1 ≤ ls.getD k 0 ∧ ls.getD k 0 ≤ 9) (h : LeastL ls m m0) (sy : ∀ S : Sd, cutW Vs w S = cutL (chainE ns ls m) S)
    (CO : ∀ u ∈ Vs, ∀ v ∈ Vs, hd u = hd v ↔ u = v ∨ m0 < lamOf Vs w u v) (LO : ∀ u ∈ Vs, ∀ v ∈ Vs, u ≠ v → IsLam Vs w u v (lamOf Vs w u v)) {L : List (List Str)}
    (hL : EachIs (fun (S R : List Str) => S.Perm R ∧ Asc S) L ((List.range (tgC ls m0 (m - 1) + 1)).map (rowC ns ls m0 m))) :
    clsF hd Vs = L.mergeSort (dataLe false encL) := by
  have nV := asc_nodup aV
  have lt : ∀ p q, p < q → q < ns.length → (hd (ns.getD p sE) = hd (ns.getD q sE) ↔ tgC ls m0 (p / 3) = tgC ls m0 (q / 3)) := fun p q hpq hq => by
    have up := pw.mem_iff.mpr (nm_mem (ns := ns) (i := p) (by omega))
    have uq := pw.mem_iff.mpr (nm_mem (ns := ns) (i := q) hq)
    have ne : ns.getD p sE ≠ ns.getD q sE := fun z => by
      have := nm_inj nd (by omega) hq z
      omega
    have m9 : m0 ≤ 9 := by
      obtain ⟨_, k, k1, k2, k3⟩ := h
      have := (nn k k2).2
      omega
    rw [CO _ up _ uq]
    by_cases e : p / 3 = q / 3
    · rw [e]
      refine ⟨fun _ => rfl, fun _ => .inr ?_⟩
      obtain ⟨⟨S, s1, s2, s3⟩, _⟩ := LO _ up _ uq ne
      rw [sy] at s3
      have := chain_tri (ns := ns) (ls := ls) (m := m) (fun k hk => by have := (nn k hk).1; omega) (S := S) hpq e (by omega) (by rw [s1, s2]; decide)
      omega
    · have lt3 : p / 3 < q / 3 := by
        have := Nat.div_le_div_right (c := 3) (Nat.le_of_lt hpq)
        omega
      have ex : ∃ x, MinOf ((ls.take (q / 3 + 1)).drop (p / 3 + 1)) x := by
        have nl : (ls.take (q / 3 + 1)).drop (p / 3 + 1) ≠ [] := fun z => by
          have := congrArg List.length z
          rw [List.length_drop, List.length_take, List.length_nil] at this
          omega
        generalize (ls.take (q / 3 + 1)).drop (p / 3 + 1) = l at nl
        induction l with
        | nil => exact absurd rfl nl
        | cons a l ih =>
          by_cases c : l = []
          · subst c
            exact ⟨a, List.mem_cons_self .., fun y hy => by rw [List.mem_singleton.mp hy]; exact Int.le_refl _⟩
          · obtain ⟨x, x1, x2⟩ := ih c
            by_cases c2 : a ≤ x
            · refine ⟨a, List.mem_cons_self .., fun y hy => ?_⟩
              rcases List.mem_cons.mp hy with rfl | hy
              · exact Int.le_refl _
              · exact Int.le_trans c2 (x2 y hy)
            · refine ⟨x, List.mem_cons_of_mem _ x1, fun y hy => ?_⟩
              rcases List.mem_cons.mp hy with rfl | hy
              · omega
              · exact x2 y hy
      obtain ⟨x, hx⟩ := ex
      obtain ⟨c1, c2⟩ := chain_pair nd hm nn lt3 (by omega) hx hl
      rw [lamOf_eq (isLam_of sy c1 c2), tg_eq (Nat.le_of_lt lt3)]
      have inA : ∀ k, p / 3 < k → k ≤ q / 3 → ls.getD k 0 ∈ (ls.take (q / 3 + 1)).drop (p / 3 + 1) := fun k h1 h2 => by
        refine List.mem_of_getElem? (i := k - (p / 3 + 1)) ?_
        rw [List.getElem?_drop, List.getElem?_take, if_pos (by omega), show p / 3 + 1 + (k - (p / 3 + 1)) = k by omega]
        exact WkP.getD_at (by omega)
      constructor
      · rintro (z | z)
        · exact absurd z ne
        · intro k k1 k2 e3
          have := hx.2 _ (inA k k1 k2)
          omega
      · intro z
        right
        obtain ⟨k, k1, k2, ek⟩ : ∃ k, p / 3 < k ∧ k ≤ q / 3 ∧ ls.getD k 0 = x := by
          obtain ⟨s, hs⟩ := List.mem_iff_getElem?.mp hx.1
          rw [List.getElem?_drop, List.getElem?_take] at hs
          split at hs
          · exact ⟨p / 3 + 1 + s, by omega, by omega, by rw [List.getD_eq_getElem?_getD, hs]; rfl⟩
          · cases hs
        have a1 := h.1 k (by omega) (by omega)
        have a2 := z k k1 k2
        omega
  have tg : ∀ u ∈ Vs, ∀ v ∈ Vs, hd u = hd v ↔ tauC ns ls m0 u = tauC ns ls m0 v := fun u hu v hv => by
    obtain ⟨a1, a2⟩ := pos_of (pw.mem_iff.mp hu)
    obtain ⟨b1, b2⟩ := pos_of (pw.mem_iff.mp hv)
    rcases Nat.lt_trichotomy (ns.idxOf u) (ns.idxOf v) with c | c | c
    · have := lt _ _ c b1
      rw [a2, b2] at this
      exact this
    · have e : u = v := by rw [← a2, ← b2, c]
      rw [e]
      exact ⟨fun _ => rfl, fun _ => rfl⟩
    · have := lt _ _ c a1
      rw [a2, b2] at this
      exact ⟨fun z => (this.mp z.symm).symm, fun z => (this.mpr z.symm).symm⟩
  have em : rowC ns ls m0 m = fun t => ns.filter fun u => decide (tauC ns ls m0 u = t) := by
    funext t
    unfold rowC
    rw [← hm, List.take_length]
  have eL : L = (List.range (tgC ls m0 (m - 1) + 1)).map fun t => Vs.filter fun u => decide (tauC ns ls m0 u = t) := by
    rw [em] at hL
    clear em tg lt
    generalize List.range (tgC ls m0 (m - 1) + 1) = rg at hL
    induction rg generalizing L with
    | nil => cases hL; rfl
    | cons t rg ih =>
      cases hL with
      | cons h1 h2 =>
        rw [List.map_cons, ih h2]
        congr 1
        exact asc_unique h1.2 (aV.filter _) (h1.1.trans (pw.symm.filter _))
  have inT : ∀ t, t ≤ tgC ls m0 (m - 1) → ∃ u ∈ Vs, tauC ns ls m0 u = t := fun t ht => by
    obtain ⟨a, a1, a2⟩ := tg_all ht
    refine ⟨ns.getD (3 * a) sE, pw.mem_iff.mpr (nm_mem (by omega)), ?_⟩
    unfold tauC
    rw [idx_at nd (by omega), show 3 * a / 3 = a by omega]
    exact a2
  rw [eL]
  refine cls_tags aV tg (List.pairwise_map.mpr (List.nodup_range.imp_of_mem fun {a b} ha hb ne z => ?_)) fun S => ?_
  · obtain ⟨u, hu, eu⟩ := inT a (by have := List.mem_range.mp ha; omega)
    have k : u ∈ Vs.filter fun u => decide (tauC ns ls m0 u = b) := by
      rw [← z]
      exact List.mem_filter.mpr ⟨hu, decide_eq_true eu⟩
    have := of_decide_eq_true (List.mem_filter.mp k).2
    exact ne (eu.symm.trans this)
  · rw [List.mem_map]
    constructor
    · rintro ⟨t, ht, rfl⟩
      obtain ⟨u, hu, eu⟩ := inT t (by have := List.mem_range.mp ht; omega)
      exact ⟨u, hu, by rw [eu]⟩
    · rintro ⟨u, hu, rfl⟩
      refine ⟨tauC ns ls m0 u, List.mem_range.mpr ?_, rfl⟩
      have a1 := (pos_of (pw.mem_iff.mp hu)).1
      have := tg_mono (ls := ls) (m0 := m0) (show ns.idxOf u / 3 ≤ m - 1 by omega)
      unfold tauC
      omega
end
end Wk
namespace Wk
open PySem PySem.Spec PyProof.Rows L2 WkD WkN LamX WkP WkE WkC
open PySem.W (EachIs)
theorem least_of_drop {ws : List Int} {m : Nat} {m0 : Int} (lw : ws.length = m) (h : m0 ∈ ws.drop 1) (le : ∀ y, y ∈ ws.drop 1 → m0 ≤ y) : LeastL ws m m0 := by
  have at_ : ∀ k, 0 < k → k < m → ws.getD k 0 ∈ ws.drop 1 := fun k h1 h2 => by
    refine List.mem_of_getElem? (i := k - 1) ?_
    rw [List.getElem?_drop, show 1 + (k - 1) = k by omega]
    exact WkP.getD_at (by omega)
  refine ⟨fun k h1 h2 => le _ (at_ k h1 h2), ?_⟩
  obtain ⟨i, hi⟩ := List.mem_iff_getElem?.mp h
  rw [List.getElem?_drop] at hi
  have hl : 1 + i < ws.length := by
    rcases Nat.lt_or_ge (1 + i) ws.length with z | z
    · exact z
    · rw [List.getElem?_eq_none z] at hi
      cases hi
  exact ⟨1 + i, by omega, by omega, by rw [List.getD_eq_getElem?_getD, hi]; rfl⟩
theorem two_sorted {m i1 i2 : Nat} {zs : List Int} (n12 : i1 ≠ i2) (h1 : i1 < m) (h2 : i2 < m) (pz : zs.Perm [0 + (i1 : Int), 0 + (i2 : Int)]) (so : zs.Pairwise (· ≤ ·)) : ∃ u v : Nat, u < v ∧ v < m ∧ zs = [(u : Int), (v : Int)] := by
  have l2 := pz.length_eq
  match zs, l2, pz, so with
  | [z1, z2], _, pz2, so2 =>
    have le : z1 ≤ z2 := (List.pairwise_cons.mp so2).1 z2 (by simp)
    have m1 := pz2.mem_iff.mp (List.mem_cons_self (a := z1))
    have m2 := pz2.mem_iff.mp (show z2 ∈ [z1, z2] by simp)
    have m3 := pz2.mem_iff.mpr (show (0 + (i1 : Int)) ∈ [0 + (i1 : Int), 0 + (i2 : Int)] by simp)
    have m4 := pz2.mem_iff.mpr (show (0 + (i2 : Int)) ∈ [0 + (i1 : Int), 0 + (i2 : Int)] by simp)
    simp only [List.mem_cons, List.not_mem_nil, or_false] at m1 m2 m3 m4
    refine ⟨z1.toNat, z2.toNat, ?_, ?_, ?_⟩
    · omega
    · omega
    · rw [show ((z1.toNat : Nat) : Int) = z1 by omega, show ((z2.toNat : Nat) : Int) = z2 by omega]
theorem rows_ok {ns : List Str} {ws : List Int} {m : Nat} {m0 : Int} (nd : ns.Nodup) (ln : ns.length = 3 * m) (m1 : 1 ≤ m) : ∀ {FL : List (List Str)}, EachIs (fun (S R : List Str) => S.Perm R ∧ Asc S) FL ((List.range (tgC ws m0 (m - 1) + 1)).map (rowC ns ws m0 m)) → ∀ S ∈ FL, S ≠ [] ∧ ∀ z ∈ S, z ∈ ns := by
  have inT : ∀ t ∈ List.range (tgC ws m0 (m - 1) + 1), rowC ns ws m0 m t ≠ [] := fun t ht z => by
    obtain ⟨a, a1, a2⟩ := tg_all (ls := ws) (m0 := m0) (b := m - 1) (t := t) (by have := List.mem_range.mp ht; omega)
    have k : ns.getD (3 * a) sE ∈ rowC ns ws m0 m t := by
      unfold rowC
      refine List.mem_filter.mpr ⟨?_, decide_eq_true ?_⟩
      · rw [← ln, List.take_length]
        exact nm_mem (by omega)
      · unfold tauC
        rw [idx_at nd (by omega), show 3 * a / 3 = a by omega]
        exact a2
    rw [z] at k
    cases k
  generalize List.range (tgC ws m0 (m - 1) + 1) = rg at inT
  induction rg with
  | nil =>
    intro FL h
    cases h
    exact fun S h => nomatch h
  | cons t rg ih =>
    intro FL h
    cases h with
    | cons h1 h2 =>
      intro S hS
      rcases List.mem_cons.mp hS with rfl | hS
      · refine ⟨fun z => inT t (List.mem_cons_self ..) ?_, fun z hz => ?_⟩
        · rw [z] at h1
          exact (List.nil_perm.mp h1.1)
        · exact (List.take_sublist _ _).subset (List.mem_filter.mp (h1.1.mem_iff.mp hz)).1
      · exact ih (fun t ht => inT t (List.mem_cons_of_mem _ ht)) h2 S hS
theorem min_one {ws : List Int} {k : Nat} (h : k < ws.length) : MinOf ((ws.take (k + 1)).drop k) (ws.getD k 0) := by
  have e : (ws.take (k + 1)).drop k = [ws.getD k 0] := by
    rw [List.take_add_one, WkP.getD_at h, List.drop_left' (by rw [List.length_take]; omega)]
    rfl
  rw [e]
  exact ⟨List.mem_singleton.mpr rfl, fun y hy => by rw [List.mem_singleton.mp hy]; exact Int.le_refl _⟩
theorem cut3 {ns : List Str} {i : Nat} (h : 3 * i + 2 < ns.length) : cutV (ns.map V.str) (some (3 * (0 + (i : Int)))) (some (3 * (0 + (i : Int)) + 3)) = [.str (ns.getD (3 * i) sE), .str (ns.getD (3 * i + 1) sE), .str (ns.getD (3 * i + 2) sE)] := by
  have e := cutV_mid60 (ys := ns.map V.str) (k := 3 * i) (j := 3 * i + 3) (by omega) (by rw [List.length_map]; omega)
  rw [show 3 * (0 + (i : Int)) + 3 = ((3 * i + 3 : Nat) : Int) by omega, show 3 * (0 + (i : Int)) = ((3 * i : Nat) : Int) by omega, e, ← List.map_take, ← List.map_drop, show 3 * i + 3 = 3 * (i + 1) by omega, take3 h, List.drop_left' (by rw [List.length_take]; omega)]
  rfl
section
variable {P : Program} {w : World} {K : PySem.W.Frag} {mg : Str → Option Value} {base : Heap}
theorem sc_chain60 : FnScope ["_law_pen_here", "_law_parts", "_law_names", "_law_links", "_law_k", "_law_edges", "_law_one", "_law_two", "_law_three", "_law_house", "_law_least", "_law_found", "_law_row"] ["_law_pen_here"] (defScope s_L_chain_right) := ⟨rfl, rfl, rfl, by decide +kernel, rfl, by decide +kernel, by decide +kernel⟩
theorem c_chain60 {tbT : List (Addr × Str)} {CN CU CE CS' : Addr} (S : WkG.Sm K) (D : Def K mg "_law_chain_right" s_L_chain_right) (B : Bi mg) (NK : FCls K CN)
    (PF : PropC P w K mg base CX0 CN "strength" 1 (spFound CN)) (MCo : MethC P w K mg base CX0 CN "cores" 6 (spCores K))
    (C_words : Callee P w K mg base CX0 3 "_law_words" ["_law_pen_here", "_law_many"] (spWords K)) (C_draw : Callee P w K mg base CX0 1 "_law_draw" ["_law_pen_here", "_law_many"] spDraw) (C_wts : Callee P w K mg base CX0 2 "_law_weights" ["_law_pen_here"] spWeights) (C_pick : Callee P w K mg base CX0 2 "_law_pick" ["_law_pen_here", "_law_some"] (spPick K)) (C_shuf : Callee P w K mg base CX0 2 "_law_shuffled" ["_law_pen_here", "_law_some"] (spShuf K))
    (C_built : Callee P w K mg base CX0 8 "_law_built_house" ["_law_pen_here", "_law_names", "_law_edges"] (spBuilt K tbT CN)) (C_ps : Callee P w K mg base (CX P w) 4 "pair_strength" ["network", "u", "v"] (spPairS K CN CU CS')) (C_role : Callee P w K mg base (CX P w) 7 "role" ["network", "u", "v"] (spRole K tbT CN CU CE)) (C_sl : Callee P w K mg base (CX P w) 6 "slack" ["network", "u", "v"] (spSlack K tbT CN CU CE)) (C_rw : Callee P w K mg base CX0 1 "_law_ring_word" ["_law_weights_here", "_law_low", "_law_weight"] (spRWord K)) :
    Callee P w K mg base CX0 9 "_law_chain_right" ["_law_pen_here"] (spBout60 tbT) := by
  obtain ⟨f, fd, F, g⟩ := D
  refine ⟨f, fd, F.ok sc_chain60 (fun vs H Q E h => ?_) (fun cdv A outer s H vs Q E hr h => ?_), g, F.kp, F.bindsN (fun _ _ _ _ _ _ us hl => match us, hl with | [_], _ => rfl)⟩
  · obtain ⟨p, cs, N, rfl, _⟩ := h
    rfl
  have hu := hu_of hr
  have nd := sc_chain60.nd
  have hr8 : Room 8 _ := hr
  have hr7 : Room 7 _ := hr.mono (by decide)
  have hr6 : Room 6 _ := hr.mono (by decide)
  have hr4 : Room 4 _ := hr.mono (by decide)
  have hr3 : Room 3 _ := hr.mono (by decide)
  have hr2 : Room 2 _ := hr.mono (by decide)
  have hr1 : Room 1 _ := hr.mono (by decide)
  refine ⟨_, PSs.nox (pss_cons (ps_set (i := 1) nd rfl (Or.inl rfl) (pe_op op_add pe_int (pe_c C_draw hr1 pass0 (pa_cons (pv 0) (pa_cons pe_int pa_nil)))))
      (pss_cons (ps_par (i := 2) (j := 3) (by rfl) nd rfl rfl (by decide) rfl rfl (pa_cons (pe_c C_words hr3 pass0 (pa_cons (pv 0) (pa_cons (pe_op op_mul pe_int (pv 1)) pa_nil))) (pa_cons (pe_lc (own := [("_law_k", 4)]) (by rfl) nd (pi_range1 (by rfl) B.n_range (pa_cons (pv 1) pa_nil)) (blkOk_by (by kernel_rfl)) (fun _ _ _ _ _ => (pg_name (i := 4) nd rfl (Or.inl rfl))) (fun _ _ _ _ _ => pts_nil) (fun _ _ _ _ _ => (pe_op op_add pe_int (pe_c C_draw hr1 pass0 (pa_cons (pv 0) (pa_cons pe_int pa_nil)))))) pa_nil)) (by rfl))
      (pss_cons (ps_set (i := 5) nd rfl (Or.inl rfl) (pe_lst pa_nil))
      (pss_cons (ps_for PassesOwn.never rfl (pi_range1 (by rfl) B.n_range (pa_cons (pv 1) pa_nil)) (pg_name (i := 4) nd rfl (Or.inl rfl))
      (pss_cons (ps_asg (pe_slice sl_list (pv 2) (po_some (pe_op op_mul pe_int (pv 4))) (po_some (pe_op op_add (pe_op op_mul pe_int (pv 4)) pe_int))) (WkU.pgL K 3 rfl rfl (pgs_cons (pg_name (i := 6) nd rfl (Or.inl rfl)) (pgs_cons (pg_name (i := 7) nd rfl (Or.inl rfl)) (pgs_cons (pg_name (i := 8) nd rfl (Or.inl rfl)) pgs_nil))) rfl))
      (pss_cons (ps_set (i := 5) nd rfl (Or.inl rfl) (pe_op op_cat (pv 5) (pe_lst (pa_cons (pe_tup (pa_cons (pv 6) (pa_cons (pv 7) (pa_cons pe_int pa_nil)))) (pa_cons (pe_tup (pa_cons (pv 7) (pa_cons (pv 8) (pa_cons pe_int pa_nil)))) (pa_cons (pe_tup (pa_cons (pv 6) (pa_cons (pv 8) (pa_cons pe_int pa_nil)))) pa_nil))))))
      (pss_one (ps_if (pt_cmpR op_gt (pv 4) pe_int (nomark _))
      (pss_one (ps_expr (pe_bm PySem.F.plainAttrs_list PySem.F.slot_list_append PySem.F.type_list_append mt_append (pv 5) (pa_cons (pe_tup (pa_cons (pe_ix (WkK.ixL K (by rfl)) (pv 2) (pe_op op_sub (pe_op op_mul pe_int (pv 4)) pe_int) (fun _ _ => rfl)) (pa_cons (pv 6) (pa_cons (pe_ix (WkK.ixL K (by rfl)) (pv 3) (pv 4) (fun _ _ => rfl)) pa_nil)))) pa_nil)))) pss_nil)))))
      (pss_cons (ps_par (i := 9) (j := 10) (by rfl) nd rfl rfl (by decide) rfl rfl (pa_cons (pe_c C_built hr8 pass0 (pa_cons (pv 0) (pa_cons (pv 2) (pa_cons (pv 5) pa_nil)))) (pa_cons (pe_callB (cr_min rfl) (by rfl) B.n_min (by decide +kernel) (pa_cons (pe_slice sl_list (pv 3) (po_some pe_int) po_none) pa_nil)) pa_nil)) (by rfl))
      (pss_cons (ps_if (pt_cmpR op_ne (WkC.pe_pr PF NK.cls hr2 pass0 (pv 9)) (pv 10) (nomark _))
      (pss_one (ps_ret pe_bl)) pss_nil)
      (pss_cons (ps_asg (pe_callB cr_sortedI (by rfl) B.n_sorted (by decide +kernel) (pa_cons (pe_slice sl_list (pe_c C_shuf hr2 pass0 (pa_cons (pv 0) (pa_cons (pe_listRg rfl (by rfl) B.n_list (prg_1 (by rfl) B.n_range (pv 1))) pa_nil))) po_none (po_some pe_int)) pa_nil)) (WkU.pgL K 2 rfl rfl (pgs_cons (pg_name (i := 6) nd rfl (Or.inl rfl)) (pgs_cons (pg_name (i := 7) nd rfl (Or.inl rfl)) pgs_nil)) rfl))
      (pss_cons (ps_if (pt_cmpR op_ne (pe_c C_ps hr4 WkK.passF (pa_cons (pv 9) (pa_cons (pe_ix (WkK.ixL K (by rfl)) (pv 2) (pe_op op_add (pe_op op_mul pe_int (pv 6)) pe_int) (fun _ _ => rfl)) (pa_cons (pe_ix (WkK.ixL K (by rfl)) (pv 2) (pe_op op_mul pe_int (pv 7)) (fun _ _ => rfl)) pa_nil)))) (pe_callB (cr_min rfl) (by rfl) B.n_min (by decide +kernel) (pa_cons (pe_slice sl_list (pv 3) (po_some (pe_op op_add (pv 6) pe_int)) (po_some (pe_op op_add (pv 7) pe_int))) pa_nil)) (nomark _))
      (pss_one (ps_ret pe_bl)) pss_nil)
      (pss_cons (ps_par (i := 11) (j := 12) (by rfl) nd rfl rfl (by decide) rfl rfl (pa_cons (pe_lst pa_nil) (pa_cons (pe_lst pa_nil) pa_nil)) (by rfl))
      (pss_cons (ps_for PassesOwn.never rfl (pi_range1 (by rfl) B.n_range (pa_cons (pv 1) pa_nil)) (pg_name (i := 4) nd rfl (Or.inl rfl))
      (C8.pss_cut (ps_if (PW.pt (pw_and (pt_cmpR op_gt (pv 4) pe_int (nomark _)) (pw_and1 (pt_cmpR op_eq (pe_ix (WkK.ixL K (by rfl)) (pv 3) (pv 4) (fun _ _ => rfl)) (pv 10) (nomark _)))))
      (pss_one (ps_par (i := 11) (j := 12) (by rfl) nd rfl rfl (by decide) rfl rfl (pa_cons (pe_op op_cat (pv 11) (pe_lst (pa_cons (pe_callTy call_tuple_of (by rfl) B.n_tuple (by decide +kernel) (pa_cons (pe_callB cr_sortedS (by rfl) B.n_sorted (by decide +kernel) (pa_cons (pv 12) pa_nil)) pa_nil)) pa_nil))) (pa_cons (pe_lst pa_nil) pa_nil)) (by rfl))) pss_nil)
      (pss_one (ps_set (i := 12) nd rfl (Or.inl rfl) (pe_op op_cat (pv 12) (pe_slice sl_list (pv 2) (po_some (pe_op op_mul pe_int (pv 4))) (po_some (pe_op op_add (pe_op op_mul pe_int (pv 4)) pe_int))))))))
      (pss_cons (ps_if (pt_cmpR (op_neD hr.units) (WkV.pe_mt0 MCo NK.cls hr6 pass0 (pv 9)) (pe_callB (cr_sortedG S hr.units) (by rfl) B.n_sorted (by decide +kernel) (pa_cons (pe_op op_cat (pv 11) (pe_lst (pa_cons (pe_callTy call_tuple_of (by rfl) B.n_tuple (by decide +kernel) (pa_cons (pe_callB cr_sortedS (by rfl) B.n_sorted (by decide +kernel) (pa_cons (pv 12) pa_nil)) pa_nil)) pa_nil))) pa_nil)) (nomark _))
      (pss_one (ps_ret pe_bl)) pss_nil)
      (pss_cons (ps_set (i := 4) nd rfl (Or.inl rfl) (pe_op op_add pe_int (pe_c C_draw hr1 pass0 (pa_cons (pv 0) (pa_cons (pe_op op_sub (pv 1) pe_int) pa_nil)))))
      (pss_cons (ps_if (pt_cmpR op_ne (pe_c C_sl hr6 WkK.passF (pa_cons (pv 9) (pa_cons (pe_ix (WkK.ixL K (by rfl)) (pv 2) (pe_op op_sub (pe_op op_mul pe_int (pv 4)) pe_int) (fun _ _ => rfl)) (pa_cons (pe_ix (WkK.ixL K (by rfl)) (pv 2) (pe_op op_mul pe_int (pv 4)) (fun _ _ => rfl)) pa_nil)))) (pe_op op_sub (pe_ix (WkK.ixL K (by rfl)) (pv 3) (pv 4) (fun _ _ => rfl)) (pv 10)) (nomark _))
      (pss_one (ps_ret pe_bl)) pss_nil)
      (pss_one (ps_ret (pe_cmpR op_eq (pe_c C_role hr7 WkK.passF (pa_cons (pv 9) (pa_cons (pe_ix (WkK.ixL K (by rfl)) (pv 2) pe_int (fun _ _ => rfl)) (pa_cons (pe_ix (WkK.ixL K (by rfl)) (pv 2) pe_int (fun _ _ => rfl)) pa_nil)))) pe_str (nomark _))))))))))))))))), ?_⟩
  obtain ⟨p, cs, N, rfl, hP, hN, hT, k⟩ := h
  have big : 100000 < sizeLine := by decide
  have kvp : ∀ {G : Hp} {M : Nat}, Pen G p cs M → ∃ kvs, G p = some (.dK kvs) := fun {G M} P => by
    obtain ⟨⟨t, r, h1, _⟩, _⟩ := P
    exact ⟨_, h1⟩
  have lne : ∀ {G : Hp} {M : Nat} {a : Addr} {xs : List V}, Pen G p cs M → G a = some (.lst xs) → a ≠ p := fun {G M a xs} P h z => by
    obtain ⟨kvs, h1⟩ := kvp P
    rw [z, h1] at h
    cases h
  refine ⟨_, rfl, p, cs, 11, N, rfl, by decide, by decide, hP, by omega, fun d H1 d0 d1 b1 P1 => ?_⟩
  obtain ⟨m, em⟩ : ∃ m : Nat, 2 + d = m := ⟨(2 + d).toNat, by omega⟩
  have m2 : 2 ≤ m := by omega
  have m12 : m ≤ 12 := by omega
  refine ⟨_, _, rfl, rfl, ?_⟩
  show gName 1 (V.int (2 + d)) _ _ _
  rw [em]
  clear em d0 d1
  refine ⟨_, rfl, _, rfl, _, _, rfl, rfl, .inl ⟨by decide, by decide⟩, p, cs, N + 1, 3 * m, ?_⟩
  refine ⟨rfl, P1, by omega, by omega, fun na ns H2 b2 nna hna nd0 ln nm P2 => ?_⟩
  refine ⟨_, rfl, _, rfl, by omega, by omega, fun wa nwa => ?_⟩
  rw [Int.toNat_natCast]
  refine lc_it (walk_range (lo := 0) (n := m)) (fun i Hc => (∀ b o, H2 b = some o → b ≠ p → Hc b = some o) ∧ Pen Hc p cs (N + 1 + 3 * m + i) ∧ ∃ ws : List Int, Hc wa = some (.lst (ws.map V.int)) ∧ ws.length = i ∧ ∀ x ∈ ws, 1 ≤ x ∧ x ≤ 9) ⟨fun b o hb _ => by rw [upd_ne (ne_of_none hb nwa)]; exact hb, P2.new nwa, [], upd_same, rfl, fun x h => nomatch h⟩ ?_ ?_ ?_
  · intros
    trivial
  · rintro i y Hc Hc' hi ⟨c1, c2, ws, c3, c4, c5⟩ ⟨rfl, rfl⟩
    refine ⟨rfl, tYes_if ⟨_, rfl, p, cs, 9, _, rfl, by decide, by decide, c2, by omega, fun d H5 d0 d1 b5 P5 => ⟨_, _, rfl, rfl, ?_⟩⟩⟩
    have wap := lne c2 c3
    have c3' := b5 _ _ c3 wap
    refine ⟨_, c3', by rw [List.length_map]; omega, fun b o hb hne => ?_, ?_, ws ++ [1 + d], ?_, by rw [List.length_append, c4]; rfl, fun z hz => ?_⟩
    · rw [upd_ne (ne_of_none hb nwa)]
      exact b5 _ _ (c1 _ _ hb hne) hne
    · refine (P5.put wap ?_).mono (by omega)
      intro z
      obtain ⟨_, n5, h5, _⟩ := P2
      rw [← z] at h5
      rw [h5] at nwa
      cases nwa
    · rw [upd_same, List.map_append]
      rfl
    · rcases List.mem_append.mp hz with z1 | z1
      · exact c5 z z1
      · rw [List.mem_singleton.mp z1]
        omega
  rintro H5 ⟨c1, P5, ws, hws, lws, iws⟩
  have nap := lne P2 hna
  have hna5 := c1 _ _ hna nap
  have b05 : But p H H5 := b1.trans (b2.trans (fun b o hb hne => c1 b o hb hne))
  have wap := lne P5 hws
  have gn : ∀ k, k < ns.length → (ns.map V.str)[k]? = some (.str (ns.getD k sE)) := fun k hk => by
    rw [List.getElem?_map, List.getD_eq_getElem?_getD, List.getElem?_eq_getElem hk]
    rfl
  have gw : ∀ k, k < m → (ws.map V.int)[k]? = some (.int (ws.getD k 0)) := fun k hk => by
    rw [List.getElem?_map, WkP.getD_at (show k < ws.length by omega)]
    rfl
  have ln3 : ns.length = 3 * m := by omega
  have hw : ∀ k, k < m → 1 ≤ ws.getD k 0 ∧ ws.getD k 0 ≤ 9 := fun k hk => iws _ (List.mem_of_getElem? (WkP.getD_at (show k < ws.length by omega)))
  clear c1
  refine ⟨_, _, rfl, ?_⟩
  refine ⟨Nat.zero_le _, fun ea nea => ?_⟩
  refine ⟨_, rfl, _, rfl, by omega, by omega, ?_⟩
  rw [Int.toNat_natCast]
  have c3k : ∀ i, i < m → CMul 3 (0 + (i : Int)) := fun i hi => .inl ⟨by decide, by decide⟩
  refine for_it (walk_range (lo := 0) (n := m)) (fun i σ Hc => ∃ (x4 x6 x7 x8 x9 x10 x11 x12 : Option V) (e : Addr) (rs : List Addr), σ = [some (.ref p), some (.int m), some (.ref na), some (.ref wa), x4, some (.ref e), x6, x7, x8, x9, x10, x11, x12] ∧ Same H5 Hc ∧ H5 e = none ∧ Hc e = some (.lst (rs.map V.ref)) ∧ rs.length ≤ 4 * i ∧ EdsAt K Hc rs (chainE ns ws i))
    ⟨_, _, _, _, _, _, _, _, ea, [], rfl, same_upd nea, nea, upd_same, Nat.zero_le _, ⟨rfl, fun i r e h => by cases i <;> cases h⟩⟩ ?_ ?_ ?_
  · intros
    trivial
  · rintro i y σ Hc0 Hc hi ⟨x4, x6, x7, x8, x9, x10, x11, x12, e, rs, rfl, c1, ne, c2, c4, c3⟩ ⟨rfl, rfl⟩
    have nac := c1 _ _ hna5
    have wac := c1 _ _ hws
    refine ⟨_, rfl, _, rfl, _, _, rfl, rfl, c3k i hi, _, rfl, _, rfl, _, _, rfl, rfl, c3k i hi, _, _, rfl, rfl, _, rfl, na, _, rfl, SqL.of nac, fun p21 n21 => ?_⟩
    have ec : cutV (ns.map V.str) (some (3 * (0 + (i : Int)))) (some (3 * (0 + (i : Int)) + 3)) = [.str (ns.getD (3 * i) sE), .str (ns.getD (3 * i + 1) sE), .str (ns.getD (3 * i + 2) sE)] := cut3 (by omega)
    rw [ec]
    generalize gg21 : upd _ p21 _ = G21; obtain ⟨s21, L21⟩ := new_eq n21 gg21; clear gg21
    refine ⟨p21, _, rfl, SqL.of L21, rfl, _, _, rfl, _, _, rfl, _, _, rfl, rfl, ?_⟩
    refine ⟨_, rfl, _, rfl, _, rfl, by show 3 ≤ sizeLine; omega, fun p22 n22 => ?_⟩
    generalize gg22 : upd _ p22 _ = G22; obtain ⟨s22, L22⟩ := new_eq n22 gg22; clear gg22
    refine ⟨_, rfl, _, rfl, by show 3 ≤ sizeLine; omega, fun p23 n23 => ?_⟩
    generalize gg23 : upd _ p23 _ = G23; obtain ⟨s23, L23⟩ := new_eq n23 gg23; clear gg23
    refine ⟨_, rfl, _, rfl, by show 3 ≤ sizeLine; omega, fun p24 n24 => ?_⟩
    generalize gg24 : upd _ p24 _ = G24; obtain ⟨s24, L24⟩ := new_eq n24 gg24; clear gg24
    refine ⟨by show 3 ≤ sizeLine; omega, fun p25 n25 => ?_⟩
    generalize gg25 : upd _ p25 _ = G25; obtain ⟨s25, L25⟩ := new_eq n25 gg25; clear gg25
    have s225 : Same Hc G25 := s21.trans (s22.trans (s23.trans (s24.trans s25)))
    have s2225 : Same G22 G25 := s23.trans (s24.trans s25)
    have s2325 : Same G23 G25 := s24.trans s25
    refine ⟨e, p25, rs.map V.ref, _, rfl, rfl, s225 _ _ c2, L25, by rw [List.length_map]; show _ + 3 ≤ _; omega, fun p26 n26 => ?_⟩
    generalize gg26 : upd _ p26 _ = G26; obtain ⟨s26, L26⟩ := new_eq n26 gg26; clear gg26
    have s226 : Same Hc G26 := s225.trans s26
    have sH26 : Same H5 G26 := c1.trans s226
    have ne26 : H5 p26 = none := np_of (c1.trans s225) n26
    have E26 : EdsAt K G26 (rs ++ [p22, p23, p24]) (chainE ns ws i ++ [(ns.getD (3 * i) sE, ns.getD (3 * i + 1) sE, 10), (ns.getD (3 * i + 1) sE, ns.getD (3 * i + 2) sE, 10), (ns.getD (3 * i) sE, ns.getD (3 * i + 2) sE, 10)]) :=
      eds_each.mpr (eachA ((eds_each.mp c3).mono fun r e h => WkG.seqT_same s226 h) (.cons (.inl (.inl (s26 _ _ (s2225 _ _ L22)))) (.cons (.inl (.inl (s26 _ _ (s2325 _ _ L23)))) (.cons (.inl (.inl (s26 _ _ (s25 _ _ L24)))) .nil))))
    rw [show rs.map V.ref ++ [V.ref p22, V.ref p23, V.ref p24] = (rs ++ [p22, p23, p24]).map V.ref by rw [List.map_append]; rfl] at L26
    refine ⟨_, rfl, _, _, rfl, rfl, _, rfl, ?_⟩
    refine ite2 (fun h => ?_) (fun h => ?_)
    · have i0 : 0 < i := by
        have := of_decide_eq_true h
        omega
      have na26 := sH26 _ _ hna5
      have wa26 := sH26 _ _ hws
      have i1 : atI (ns.map V.str) (3 * (0 + (i : Int)) - 1) = some (.str (ns.getD (3 * i - 1) sE)) := by
        rw [show 3 * (0 + (i : Int)) - 1 = ((3 * i - 1 : Nat) : Int) by omega]
        exact atI_nat (gn _ (by omega))
      have i3 : atI (ws.map V.int) (0 + (i : Int)) = some (.int (ws.getD i 0)) := by
        rw [Int.zero_add]
        exact atI_nat (gw i hi)
      refine ⟨_, rfl, .inl ⟨rfl, _, SqL.of L26⟩, _, rfl, _, rfl, _, _, rfl, rfl, c3k i hi, _, _, rfl, rfl, na, _, _, _, rfl, rfl, SqL.of na26, i1, _, rfl, _, rfl, _, rfl, wa, _, _, _, rfl, rfl, SqL.of wa26, i3, by show 3 ≤ sizeLine; omega, fun p27 n27 => ?_⟩
      generalize gg27 : upd _ p27 _ = G27; obtain ⟨s27, L27⟩ := new_eq n27 gg27; clear gg27
      have L2627 := s27 _ _ L26
      have p2627 : p26 ≠ p27 := ne_of_none L26 n27
      refine ⟨p26, _, _, rfl, rfl, L2627, by rw [List.length_map, List.length_append]; show _ + 3 < _; omega, _, _, _, _, _, _, _, _, p26, rs ++ [p22, p23, p24] ++ [p27], rfl, fun b o hb => ?_, ne26, by rw [upd_same, List.map_append (l₂ := [p27])]; rfl, by rw [List.length_append, List.length_append]; show _ + 3 + 1 ≤ _; omega, ?_⟩
      · rw [upd_ne (ne_of_none hb ne26)]
        exact s27 _ _ (sH26 _ _ hb)
      · have up : ∀ {r : Addr} {xs : List V}, SqT K G27 r xs → SqT K (upd G27 p26 (.lst ((rs ++ [p22, p23, p24]).map V.ref ++ [.ref p27]))) r xs := fun {r xs} h => by
          rcases h with (h | ⟨o, h⟩) | h
          · exact .inl (.inl (by rw [upd_ne (ne_of h L2627 (by intro z; cases z))]; exact h))
          · exact .inl (.inr ⟨o, by rw [upd_ne (ne_of h L2627 (by intro z; cases z))]; exact h⟩)
          · exact .inr h
        show EdsAt K _ _ (chainE ns ws i ++ triE ns ws i)
        unfold triE
        rw [if_pos i0, ← List.append_assoc]
        exact eds_each.mpr (eachA ((eds_each.mp E26).mono fun r e h => up (WkG.seqT_same s27 h)) (.cons (.inl (.inl (by rw [upd_ne (Ne.symm p2627)]; exact L27))) .nil))
    · have i0 : i = 0 := by
        have : ¬ (0 + (i : Int) > 0) := fun z => h (decide_eq_true z)
        omega
      subst i0
      refine ⟨_, _, _, _, _, _, _, _, p26, _, rfl, sH26, ne26, L26, by rw [List.length_append]; show _ + 3 ≤ _; omega, ?_⟩
      exact E26
  rintro σ H6 ⟨x4, x6, x7, x8, x9, x10, x11, x12, ea', rs, rfl, s6, _, hea, c4, hE⟩
  have P6 := P5.same s6
  have hna6 := s6 _ _ hna5
  have hws6 := s6 _ _ hws
  have b06 : But p H H6 := b05.trans (But.of_same s6)
  have l40 : ns.length ≤ 40 := by omega
  have G := good_chain (ls := ws) nm nd0 ln3 (by omega) l40 hw
  obtain ⟨kvs0, hpk⟩ := kvp hP
  have T6 : Tabs tbT H6 := tabs_but hT hpk trivial b06
  have lE := chain_len (ns := ns) (ls := ws) (m := m)
  refine ⟨_, rfl, _, rfl, _, rfl, p, cs, na, ea', _, ns, rs, chainE ns ws m, rfl, P6, by omega, hna6, hea, hE, by omega, G, T6, fun x Vs nb wt rt n me en7 H7 k7 T7 nx N7 pw ro P7 => ?_⟩
  have nt_lst : ∀ {xs : List V}, ∀ ps, HO.lst xs ≠ .tbl ps := fun {xs} ps z => by cases z
  have hna7 := k7 _ _ hna6 (lne P6 hna6) nt_lst
  have hws7 := k7 _ _ hws6 (lne P6 hws6) nt_lst
  have k07 : ∀ b o, H b = some o → b ≠ p → (∀ ps, o ≠ .tbl ps) → H7 b = some o := fun b o hb hne no => k7 b o (b06 b o hb hne) hne no
  have hc := good_cut G pw ro
  obtain ⟨dxh, pr, ad, hx7, rz7⟩ := id N7.ex
  have go := N7.gok
  refine ⟨_, rfl, 1, rfl, wa, _, rfl, SqL.of hws7, fun p31 n31 => ?_⟩
  have ec1 : cutV (ws.map V.int) (some 1) none = (ws.drop 1).map V.int := by
    rw [cutV_lo (by decide), List.map_drop]
    rfl
  rw [ec1]
  generalize gg31 : upd _ p31 _ = G31; obtain ⟨s31, L31⟩ := new_eq n31 gg31; clear gg31
  refine ⟨p31, ws.drop 1, rfl, SqL.of L31, by rw [List.length_drop]; omega, fun m0 hm0 hle => ?_⟩
  have LL : LeastL ws m m0 := least_of_drop lws hm0 hle
  refine ⟨_, _, rfl, ?_⟩
  have ge := fun S h1 h2 => chain_low (ls := ws) ln3 hw LL S h1 h2
  have least2 := chain_low2 (ls := ws) nd0 ln3 LL
  have enn : n = m0 := by
    obtain ⟨ms, lc⟩ := N7.lc
    exact lc_val go pw hc lc ge least2
  have P31 := P7.same s31
  have hx31 := s31 _ _ hx7
  have na31 := s31 _ _ hna7
  have wa31 := s31 _ _ hws7
  have N31 := N7.keep fun c o h _ => s31 _ _ h
  refine ⟨_, rfl, x, dxh, _, rfl, hx31, x, me, en7, [], Vs, nb, wt, rt, n, 0, 1, rfl, N31, ?_⟩
  refine ⟨_, rfl, rfl, _, rfl, ?_⟩
  rw [enn]
  refine ite2 (fun h => absurd h (by simp)) (fun _ => ?_)
  obtain ⟨kv7, hp7⟩ := kvp P31
  have xp : x ≠ p := ne_of hx31 hp7 (by intro z; cases z)
  have rz31 := rz7.ext (Ext.of s31)
  have rzB : ∀ {G : Hp}, But p G31 G → RowsZ G pr Vs ad nb wt := fun {G} b => ⟨rz31.top.imp fun o h => b _ _ h (ne_of h hp7 (by intro z; cases z)), fun u hu => (rz31.row u hu).imp fun o h => b _ _ h (ne_of h hp7 (by intro z; cases z))⟩
  have nmV : ∀ u ∈ Vs, nameB u = true := fun u hu => nm u (pw.mem_iff.mp hu)
  have paB : ∀ {G : Hp}, But p G31 G → PArg K G x CN dxh (netF pr rt n me en7 0 1 ++ []) pr rt Vs ad nb wt := fun {G} b => ⟨⟨b _ _ hx31 xp, NK.cls, NK.na, NK.nt, rfl, rfl⟩, rfl, rzB b, nmV⟩
  have lVs := pw.length_eq
  have few : ∀ u ∈ Vs, (nb u).length < 1000 := fun u hu => by
    have h2 : (nb u).length ≤ Vs.length := (go.sym.nd u hu).length_le_of_subset fun y hy => (go.sym.mem u hu y hy).1
    omega
  have wnn : ∀ u ∈ Vs, ∀ v ∈ nb u, 0 ≤ wt u v := fun u hu v hv => by
    have := (go.wts u hu v hv).1
    omega
  have T31 : Tabs tbT G31 := T7.ext s31
  refine ⟨_, rfl, _, rfl, _, rfl, RgOk.of_le (by decide) (by omega) (by decide) (by omega), fun lr nlr => ?_⟩
  have erg : rgV 0 (m : Int) = (List.range m).map fun k : Nat => V.int (0 + (k : Int)) := by
    unfold rgV
    rw [show ((m : Int) - 0).toNat = m by omega]
  rw [erg]
  have lrg : ((List.range m).map fun k : Nat => V.int (0 + (k : Int))).length = m := by rw [List.length_map, List.length_range]
  refine ⟨p, cs, lr, _, true, _, rfl, P31.new nlr, by rw [lrg]; omega, SqL.of upd_same, by rw [lrg]; omega, fun q3 ys H3 b3 nq3 hq3 pm P3 => ?_⟩
  rw [lrg] at P3
  obtain ⟨is, rfl, pis⟩ := perm_map pm rfl
  obtain ⟨i1, i2, ir, rfl⟩ : ∃ a b r, is = a :: b :: r := by
    have := pis.length_eq
    rw [List.length_range] at this
    match is, this with
    | [], h => simp at h; omega
    | [_], h => simp at h; omega
    | a :: b :: r, _ => exact ⟨a, b, r, rfl⟩
  have n12 : i1 ≠ i2 := fun z => by
    have := pis.nodup_iff.mpr List.nodup_range
    rw [z] at this
    simp at this
  have h1n : i1 < m := List.mem_range.mp (pis.mem_iff.mp (by simp))
  have h2n : i2 < m := List.mem_range.mp (pis.mem_iff.mp (by simp))
  refine ⟨2, rfl, q3, _, rfl, SqL.of hq3, fun p41 n41 => ?_⟩
  have etk : cutV ((i1 :: i2 :: ir).map fun k : Nat => V.int (0 + (k : Int))) none (some 2) = [.int (0 + (i1 : Int)), .int (0 + (i2 : Int))] := by
    rw [cutV_hi (by decide)]
    rfl
  rw [etk]
  generalize gg41 : upd _ p41 _ = G41; obtain ⟨s41, L41⟩ := new_eq n41 gg41; clear gg41
  have c3 : But p G31 H3 := (But.of_same (same_upd nlr)).trans b3
  refine ⟨p41, [0 + (i1 : Int), 0 + (i2 : Int)], rfl, SqL.of L41, fun zs p42 pz2 so2 n42 => ?_⟩
  generalize gg42 : upd _ p42 _ = G42; obtain ⟨s42, L42⟩ := new_eq n42 gg42; clear gg42
  obtain ⟨u, v, huv, hvn, rfl⟩ : ∃ u v : Nat, u < v ∧ v < m ∧ zs = [(u : Int), (v : Int)] := two_sorted n12 h1n h2n pz2 so2
  have c42 : But p G31 G42 := c3.trans (But.of_same (s41.trans s42))
  have P42 := P3.same (s41.trans s42)
  refine ⟨p42, _, rfl, SqL.of L42, rfl, _, _, rfl, _, _, rfl, rfl, ?_⟩
  have nap7 := lne P31 na31
  have wap7 := lne P31 wa31
  have na42 := c42 _ _ na31 nap7
  have wa42 := c42 _ _ wa31 wap7
  have j1 : atI (ns.map V.str) (3 * (u : Int) + 2) = some (.str (ns.getD (3 * u + 2) sE)) := by
    rw [show 3 * (u : Int) + 2 = ((3 * u + 2 : Nat) : Int) by omega]
    exact atI_nat (gn _ (by omega))
  have j2 : atI (ns.map V.str) (3 * (v : Int)) = some (.str (ns.getD (3 * v) sE)) := by
    rw [show 3 * (v : Int) = ((3 * v : Nat) : Int) by omega]
    exact atI_nat (gn _ (by omega))
  have cm : ∀ z : Int, CMul 3 z := fun z => .inl ⟨by decide, by decide⟩
  have muV : ns.getD (3 * u + 2) sE ∈ Vs := pw.mem_iff.mpr (nm_mem (by omega))
  have mvV : ns.getD (3 * v) sE ∈ Vs := pw.mem_iff.mpr (nm_mem (by omega))
  have nuv : ns.getD (3 * u + 2) sE ≠ ns.getD (3 * v) sE := fun z => by
    have := nm_inj nd0 (by omega) (by omega) z
    omega
  have iu : IsIn (.str (ns.getD (3 * u + 2) sE)) Vs := ⟨_, muV, rfl⟩
  have iv : IsIn (.str (ns.getD (3 * v) sE)) Vs := ⟨_, mvV, rfl⟩
  refine ⟨_, rfl, _, rfl, _, rfl, _, _, rfl, rfl, cm _, _, _, rfl, rfl, na, _, _, _, rfl, rfl, SqL.of na42, j1, _, rfl, _, rfl, _, _, rfl, rfl, cm _, na, _, _, _, rfl, rfl, SqL.of na42, j2, x, dxh, _, pr, rt, Vs, ad, nb, wt, .str (ns.getD (3 * u + 2) sE), .str (ns.getD (3 * v) sE), rfl, paB c42, .inl ⟨_, rfl, name_len (nmV _ muV)⟩, .inl ⟨_, rfl, name_len (nmV _ mvV)⟩, go.sym, wnn, few, by omega, go.nd, fun h => absurd iu h, fun _ h => absurd iv h, fun _ h => absurd (by injection h) nuv, fun u' v' e1 e2 _ _ _ n10 H10 s10 ps => ?_⟩
  cases e1
  cases e2
  have wa10 := s10 _ _ wa42
  refine ⟨_, rfl, _, rfl, _, _, rfl, rfl, _, rfl, _, rfl, _, _, rfl, rfl, _, rfl, wa, _, rfl, SqL.of wa10, fun p43 n43 => ?_⟩
  have ec2 : cutV (ws.map V.int) (some ((u : Int) + 1)) (some ((v : Int) + 1)) = ((ws.take (v + 1)).drop (u + 1)).map V.int := by
    have := cutV_mid60 (ys := ws.map V.int) (k := u + 1) (j := v + 1) (by omega) (by rw [List.length_map]; omega)
    rw [List.map_drop, List.map_take]
    exact this
  rw [ec2]
  generalize gg43 : upd _ p43 _ = G43; obtain ⟨s43, L43⟩ := new_eq n43 gg43; clear gg43
  refine ⟨p43, _, rfl, SqL.of L43, by rw [List.length_drop, List.length_take]; omega, fun x6 hx6 hm6 => ?_⟩
  have d1 : (3 * u + 2) / 3 = u := by omega
  have d2 : 3 * v / 3 = v := by omega
  obtain ⟨cp1, cp2⟩ := chain_pair (p := 3 * u + 2) (q := 3 * v) nd0 ln3 hw (by omega) (by omega) (x := x6) (by rw [d1, d2]; exact ⟨hx6, hm6⟩) lws
  have en10 : n10 = x6 := ps_val hc ps cp1 cp2
  rw [en10]
  refine ⟨rfl, _, rfl, ?_⟩
  refine ite2 (fun h => absurd h (by simp)) (fun _ => ?_)
  have c43 : But p G31 G43 := c42.trans (But.of_same (s10.trans s43))
  have P43 := P42.same (s10.trans s43)
  have na43 := c43 _ _ na31 nap7
  have wa43 := c43 _ _ wa31 wap7
  refine ⟨Nat.zero_le _, fun p50 n50 => ?_⟩
  generalize gg50 : upd _ p50 _ = G50; obtain ⟨s50, L50⟩ := new_eq n50 gg50; clear gg50
  refine ⟨Nat.zero_le _, fun p51 n51 => ?_⟩
  generalize gg51 : upd _ p51 _ = G51; obtain ⟨s51, L51⟩ := new_eq n51 gg51; clear gg51
  refine ⟨_, _, rfl, ?_⟩
  have s4351 : Same G43 G51 := s50.trans s51
  refine ⟨_, rfl, _, rfl, by omega, by omega, ?_⟩
  rw [Int.toNat_natCast]
  refine for_it (walk_range (lo := 0) (n := m)) (fun i σ Hc => ∃ (x4 x6 x7 x8 : Option V) (f r : Addr) (fs : List Addr) (FS : List (List Str)), σ = [some (.ref p), some (.int m), some (.ref na), some (.ref wa), x4, some (.ref ea'), x6, x7, x8, some (.ref x), some (.int m0), some (.ref f), some (.ref r)] ∧ Same G43 Hc ∧ Hc f = some (.lst (fs.map V.ref)) ∧ fs.length ≤ i ∧ EachIs (fun r (S : List Str) => Hc r = some (.tup (S.map V.str))) fs FS ∧ EachIs (fun (S R : List Str) => S.Perm R ∧ Asc S) FS ((List.range (tgC ws m0 (i - 1))).map (rowC ns ws m0 i)) ∧ Hc r = some (.lst ((rowC ns ws m0 i (tgC ws m0 (i - 1))).map V.str)))
    ⟨_, _, _, _, p50, p51, [], [], rfl, s4351, s51 _ _ L50, Nat.zero_le _, .nil, .nil, L51⟩ ?_ ?_ ?_
  · intros
    trivial
  · rintro i y σ Hc0 Hc hi ⟨x4, x6, x7, x8, f, r, fs, FS, rfl, c1, hf, lfs, E1, E2, hr0⟩ ⟨rfl, rfl⟩
    have nac := c1 _ _ na43
    have wac := c1 _ _ wa43
    have hi2 : 3 * i + 2 < ns.length := by omega
    obtain ⟨tu1, tu2⟩ := rowC_turn (ls := ws) (m0 := m0) nd0 hi2
    have i3 : atI (ws.map V.int) (0 + (i : Int)) = some (.int (ws.getD i 0)) := by
      rw [Int.zero_add]
      exact atI_nat (gw i hi)
    have lrow : ∀ t, (rowC ns ws m0 i t).length ≤ 40 := fun t => by
      have a := List.length_filter_le (fun u => decide (tauC ns ws m0 u = t)) (ns.take (3 * i))
      rw [List.length_take] at a
      unfold rowC
      omega
    obtain ⟨Md, eMd⟩ : ∃ Md : L2.St → Hp → Prop, Md = fun σ H' => ∃ (x6 x7 x8 : Option V) (f r : Addr) (fs : List Addr) (FS : List (List Str)) (R : List Str), σ = [some (.ref p), some (.int m), some (.ref na), some (.ref wa), some (.int (0 + (i : Int))), some (.ref ea'), x6, x7, x8, some (.ref x), some (.int m0), some (.ref f), some (.ref r)] ∧ Same G43 H' ∧ H' f = some (.lst (fs.map V.ref)) ∧ fs.length ≤ i + 1 ∧ EachIs (fun r (S : List Str) => H' r = some (.tup (S.map V.str))) fs FS ∧ EachIs (fun (S R : List Str) => S.Perm R ∧ Asc S) FS ((List.range (tgC ws m0 i)).map (rowC ns ws m0 (i + 1))) ∧ H' r = some (.lst (R.map V.str)) ∧ R.length ≤ 40 ∧ rowC ns ws m0 (i + 1) (tgC ws m0 i) = R ++ [ns.getD (3 * i) sE, ns.getD (3 * i + 1) sE, ns.getD (3 * i + 2) sE] := ⟨_, rfl⟩
    refine ⟨Md, ?_, ?_⟩
    · have skip : ¬ (0 < i ∧ ws.getD i 0 = m0) → Md [some (.ref p), some (.int m), some (.ref na), some (.ref wa), some (.int (0 + (i : Int))), some (.ref ea'), x6, x7, x8, some (.ref x), some (.int m0), some (.ref f), some (.ref r)] Hc := fun h => by
        rw [eMd]
        exact ⟨x6, x7, x8, f, r, fs, FS, rowC ns ws m0 i (tgC ws m0 (i - 1)), rfl, c1, hf, Nat.le_succ_of_le lfs, E1, by rw [(tu2 h).1]; exact E2, hr0, lrow _, (tu2 h).2⟩
      refine ⟨_, rfl, _, _, rfl, rfl, _, rfl, ?_⟩
      refine ite2 (fun h => ?_) (fun h => ?_)
      · have i0 : 0 < i := by
          have := of_decide_eq_true h
          omega
        refine ⟨_, rfl, _, rfl, wa, _, _, _, rfl, rfl, SqL.of wac, i3, _, rfl, rfl, _, rfl, ?_⟩
        refine ite2 (fun h => ?_) (fun h => ?_)
        · have wi : ws.getD i 0 = m0 := by
            have := of_decide_eq_true h
            injection this
          obtain ⟨t1, t2⟩ := tu1 ⟨i0, wi⟩
          refine ⟨_, rfl, _, rfl, r, _, rfl, SqL.of hr0, by have := lrow (tgC ws m0 (i - 1)); omega, fun zs p61 pz soz n61 => ?_⟩
          generalize gg61 : upd _ p61 _ = G61; obtain ⟨s61, L61⟩ := new_eq n61 gg61; clear gg61
          refine ⟨p61, _, rfl, .inl ⟨SqL.of L61, fun p62 n62 => ?_⟩⟩
          generalize gg62 : upd _ p62 _ = G62; obtain ⟨s62, L62⟩ := new_eq n62 gg62; clear gg62
          refine ⟨by show 1 ≤ sizeLine; omega, fun p63 n63 => ?_⟩
          generalize gg63 : upd _ p63 _ = G63; obtain ⟨s63, L63⟩ := new_eq n63 gg63; clear gg63
          have s6163 : Same Hc G63 := s61.trans (s62.trans s63)
          refine ⟨f, p63, _, _, rfl, rfl, s6163 _ _ hf, L63, by rw [List.length_map]; show _ + 1 ≤ _; omega, fun p64 n64 => ?_⟩
          generalize gg64 : upd _ p64 _ = G64; obtain ⟨s64, L64⟩ := new_eq n64 gg64; clear gg64
          refine ⟨Nat.zero_le _, fun p65 n65 => ?_⟩
          generalize gg65 : upd _ p65 _ = G65; obtain ⟨s65, L65⟩ := new_eq n65 gg65; clear gg65
          refine ⟨_, _, rfl, ?_⟩
          have s6165 : Same Hc G65 := s6163.trans (s64.trans s65)
          show Md _ _
          rw [eMd]
          refine ⟨x6, x7, x8, p64, p65, fs ++ [p62], FS ++ [zs], [], rfl, c1.trans s6165, s65 _ _ (by rw [List.map_append]; exact L64), by rw [List.length_append, List.length_singleton]; omega, ?_, ?_, L65, Nat.zero_le _, t2⟩
          · exact eachA (E1.mono fun r S h => s6165 _ _ h) (.cons (s65 _ _ (s64 _ _ (s63 _ _ L62))) .nil)
          · rw [t1]
            exact eachA E2 (.cons ⟨pz, asc_of soz (pz.nodup_iff.mpr (((List.take_sublist _ _).nodup nd0).filter _))⟩ .nil)
        · exact skip fun z => h (decide_eq_true (by rw [z.2]))
      · refine skip fun z => h (decide_eq_true ?_)
        omega
    · intro σ' H' hM
      rw [eMd] at hM
      obtain ⟨x6, x7, x8, f, r, fs, FS, R, rfl, s1, hf, lfs, E1, E2, hr0, lR, eR⟩ := hM
      refine ⟨_, rfl, _, rfl, _, rfl, _, _, rfl, rfl, cm _, _, rfl, _, rfl, _, _, rfl, rfl, cm _, _, _, rfl, rfl, _, rfl, na, _, rfl, SqL.of (s1 _ _ na43), fun p66 n66 => ?_⟩
      rw [cut3 hi2]
      generalize gg66 : upd _ p66 _ = G66; obtain ⟨s66, L66⟩ := new_eq n66 gg66; clear gg66
      refine ⟨r, p66, _, _, rfl, rfl, s66 _ _ hr0, L66, by rw [List.length_map]; show _ + 3 ≤ _; omega, fun p67 n67 => ?_⟩
      generalize gg67 : upd _ p67 _ = G67; obtain ⟨s67, L67⟩ := new_eq n67 gg67; clear gg67
      have s67' := s66.trans s67
      refine ⟨_, x6, x7, x8, f, p67, fs, FS, rfl, s1.trans s67', s67' _ _ hf, lfs, E1.mono fun r S h => s67' _ _ h, E2, ?_⟩
      rw [L67, show i + 1 - 1 = i by omega, eR, List.map_append]
      rfl
  rintro σ H8 ⟨x4, x6, x7, x8, f, r, fs, FS, rfl, s48, hf, lfs, E1, E2, hr0⟩
  have c8 : But p G31 H8 := c43.trans (But.of_same s48)
  have A8 := paB c8
  have hx8 := c8 _ _ hx31 xp
  have P8 := P43.same s48
  refine ⟨_, rfl, x, dxh, _, rfl, hx8, rfl, x, CN, dxh, _, pr, rt, Vs, ad, nb, wt, rfl, A8.g, A8.r, go.sym, wnn, few, by omega, go.nd, N7.rt, by omega, fun cl rc hd mc H9 s9 ncl L9 E9 CO => ?_⟩
  have tr : ∀ {S : Sd} {b : Bool}, (∃ y ∈ ns, S y = b) ↔ ∃ y ∈ Vs, S y = b := fun {S b} => ⟨fun ⟨y, h, e⟩ => ⟨y, pw.mem_iff.mpr h, e⟩, fun ⟨y, h, e⟩ => ⟨y, pw.mem_iff.mp h, e⟩⟩
  have emc : mc = m0 := cores_least go CO hc (fun S h1 h2 => ge S (tr.mpr h1) (tr.mpr h2)) (by
    obtain ⟨S, h1, h2, h3⟩ := least2
    exact ⟨S, tr.mp h1, tr.mp h2, h3⟩)
  have hf9 := s9 _ _ hf
  have hr9 := s9 _ _ hr0
  have lrow : (rowC ns ws m0 m (tgC ws m0 (m - 1))).length ≤ 40 := by
    have a := List.length_filter_le (fun u => decide (tauC ns ws m0 u = tgC ws m0 (m - 1))) (ns.take (3 * m))
    rw [List.length_take] at a
    unfold rowC
    omega
  refine ⟨_, rfl, _, rfl, r, _, rfl, SqL.of hr9, by omega, fun zs p71 pz soz n71 => ?_⟩
  generalize gg71 : upd _ p71 _ = G71; obtain ⟨s71, L71⟩ := new_eq n71 gg71; clear gg71
  refine ⟨p71, _, rfl, .inl ⟨SqL.of L71, fun p72 n72 => ?_⟩⟩
  generalize gg72 : upd _ p72 _ = G72; obtain ⟨s72, L72⟩ := new_eq n72 gg72; clear gg72
  refine ⟨by show 1 ≤ sizeLine; omega, fun p73 n73 => ?_⟩
  generalize gg73 : upd _ p73 _ = G73; obtain ⟨s73, L73⟩ := new_eq n73 gg73; clear gg73
  have s7173 : Same H9 G73 := s71.trans (s72.trans s73)
  refine ⟨f, p73, _, _, rfl, rfl, s7173 _ _ hf9, L73, by rw [List.length_map]; show _ + 1 ≤ _; omega, fun p74 n74 => ?_⟩
  generalize gg74 : upd _ p74 _ = G74; obtain ⟨s74, L74⟩ := new_eq n74 gg74; clear gg74
  have s7174 : Same H9 G74 := s7173.trans s74
  rw [show fs.map V.ref ++ [V.ref p72] = (fs ++ [p72]).map V.ref by rw [List.map_append]; rfl] at L74
  have E3 : EachIs (fun r (S : List Str) => G74 r = some (.tup (S.map V.str))) (fs ++ [p72]) (FS ++ [zs]) := eachA (E1.mono fun r S h => s7174 _ _ (s9 _ _ h)) (.cons (s74 _ _ (s73 _ _ L72)) .nil)
  have E4 : EachIs (fun (S R : List Str) => S.Perm R ∧ Asc S) (FS ++ [zs]) ((List.range (tgC ws m0 (m - 1) + 1)).map (rowC ns ws m0 m)) := by
    rw [List.range_succ, List.map_append]
    exact eachA E2 (.cons ⟨pz, asc_of soz (pz.nodup_iff.mpr (((List.take_sublist _ _).nodup nd0).filter _))⟩ .nil)
  have LO := lamOf_ok (vl0_sym go.sym) (gok_nn go)
  have ecl := chain_cores N7.asc pw nd0 ln3 (by omega) lws hw LL hc (fun a ha b hb => by rw [← emc]; exact CO.eq a ha b hb) LO.is E4
  rw [ecl] at E9
  obtain ⟨FL, eFL⟩ : ∃ FL, FL = FS ++ [zs] := ⟨_, rfl⟩
  rw [← eFL] at E3 E4 E9
  have okF : ∀ S ∈ FL, S ≠ [] ∧ ∀ z ∈ S, z ∈ ns := rows_ok nd0 ln3 (by omega) E4
  have E5 : EachIs (fun x (S : List Str) => ∃ r : Addr, x = .ref r ∧ G74 r = some (.tup (S.map V.str))) ((fs ++ [p72]).map V.ref) FL := eachMapL (E3.mono fun r S z => ⟨r, rfl, z⟩)
  refine ⟨List Str, p74, _, _, encL, fun x S => ∃ r : Addr, x = .ref r ∧ G74 r = some (.tup (S.map V.str)), rfl, SqL.of L74, E5, fun x S ⟨r, e, z⟩ => TupAt.dx ⟨r, e, .inl (.inl z)⟩, fun d hd d' hd' => ?_, .inl fun d hd => ?_, fun S _ => Nat.le_trans (depth_encL S) (by decide), fun ys lp hys nlp => ?_⟩
  · obtain ⟨x, _, rfl⟩ := List.mem_map.mp hd
    obtain ⟨y, _, rfl⟩ := List.mem_map.mp hd'
    exact alike_encL x y
  · obtain ⟨S', hS, rfl⟩ := List.mem_map.mp hd
    have h := (okF S' hS).1
    cases S' with
    | nil => exact absurd rfl h
    | cons x S' => exact ⟨.str x, S'.map PyData.str, rfl⟩
  obtain ⟨ys, rfl, hys2⟩ := eachEx hys
  have s75 : Same G74 (upd G74 lp (.lst (ys.map V.ref))) := same_upd nlp
  have L75 : upd G74 lp (.lst (ys.map V.ref)) lp = some (.lst (ys.map V.ref)) := upd_same
  generalize upd G74 lp (.lst (ys.map V.ref)) = G75 at s75 L75
  obtain ⟨M, eM⟩ : ∃ M, M = FL.mergeSort (PySem.W.dataLe false encL) := ⟨_, rfl⟩
  rw [← eM] at E9 hys2
  have s975 : Same H9 G75 := s7174.trans s75
  have okS : ∀ S ∈ M, ∀ z ∈ S, PyData.strOk z = true := fun S hS z hz => by
    rw [eM, (List.mergeSort_perm _ _).mem_iff] at hS
    exact name_ok60 (nm z ((okF S hS).2 z hz))
  refine ⟨.list (M.map WkEb.tupD), .list (M.map WkEb.tupD), .lst (SqL.of (s975 _ _ L9)) (WkEb.tups_dp (E9.mono fun r S h => .inl (.inl (s975 _ _ h)))), .lst (SqL.of L75) (WkEb.tups_dp (hys2.mono fun r S h => .inl (.inl (s75 _ _ h)))), WkEb.tups_shaped okS, WkEb.tups_shaped okS, _, rfl, ?_⟩
  rw [SeqAt.eqv_refl _ (SeqAt.canLay_of_shaped (WkEb.tups_shaped okS))]
  refine ite2 (fun h => absurd h (by simp)) (fun _ => ?_)
  have s875 : Same H8 G75 := s9.trans s975
  have c75 : But p G31 G75 := c8.trans (But.of_same s875)
  have P75 := P8.same s875
  refine ⟨_, rfl, _, rfl, _, _, rfl, rfl, p, cs, (m : Int) - 1, _, rfl, by omega, by omega, P75, by omega, fun dk G80 k0 k1 b80 P80 => ?_⟩
  obtain ⟨kx, ekx⟩ : ∃ kx : Nat, 1 + dk = kx := ⟨(1 + dk).toNat, by omega⟩
  have kx0 : 0 < kx := by omega
  have kxm : kx < m := by omega
  refine ⟨_, _, rfl, rfl, ?_⟩
  show gName 4 (V.int (1 + dk)) _ _ _
  rw [ekx]
  have c80 : But p G31 G80 := c75.trans b80
  have na80 := c80 _ _ na31 nap7
  have wa80 := c80 _ _ wa31 wap7
  have T80 : Tabs tbT G80 := tabs_but T31 hp7 trivial c80
  have k1 : atI (ns.map V.str) (3 * (kx : Int) - 1) = some (.str (ns.getD (3 * kx - 1) sE)) := by
    rw [show 3 * (kx : Int) - 1 = ((3 * kx - 1 : Nat) : Int) by omega]
    exact atI_nat (gn _ (by omega))
  have k2 : atI (ns.map V.str) (3 * (kx : Int)) = some (.str (ns.getD (3 * kx) sE)) := by
    rw [show 3 * (kx : Int) = ((3 * kx : Nat) : Int) by omega]
    exact atI_nat (gn _ (by omega))
  have k3 : atI (ws.map V.int) (kx : Int) = some (.int (ws.getD kx 0)) := atI_nat (gw kx kxm)
  have mu : ns.getD (3 * kx - 1) sE ∈ Vs := pw.mem_iff.mpr (nm_mem (by omega))
  have mv : ns.getD (3 * kx) sE ∈ Vs := pw.mem_iff.mpr (nm_mem (by omega))
  have ju : IsIn (.str (ns.getD (3 * kx - 1) sE)) Vs := ⟨_, mu, rfl⟩
  have jv : IsIn (.str (ns.getD (3 * kx) sE)) Vs := ⟨_, mv, rfl⟩
  have hadj : Adj (chainE ns ws m) (ns.getD (3 * kx - 1) sE) (ns.getD (3 * kx) sE) (ws.getD kx 0) := .inl (chain_mem.mpr ⟨kx, kxm, by
    unfold triE
    rw [if_pos kx0]
    exact List.mem_append_right _ (List.mem_singleton.mpr rfl)⟩)
  have hnb : ns.getD (3 * kx) sE ∈ nb (ns.getD (3 * kx - 1) sE) := (ro.mem _ mu _).mpr ⟨_, hadj⟩
  have hwt : wt (ns.getD (3 * kx - 1) sE) (ns.getD (3 * kx) sE) = ws.getD kx 0 := ro.val _ mu _ _ hadj
  have f1 : (3 * kx - 1) / 3 + 1 = kx := by omega
  have f2 : 3 * kx / 3 = kx := by omega
  have mo : MinOf ((ws.take (kx + 1)).drop kx) (ws.getD kx 0) := min_one (by omega)
  obtain ⟨lk1, lk2⟩ := chain_pair (p := 3 * kx - 1) (q := 3 * kx) nd0 ln3 hw (by omega) (by omega) (x := ws.getD kx 0) (by rw [f1, f2]; exact mo) lws
  refine ⟨_, rfl, _, rfl, _, rfl, _, _, rfl, rfl, cm _, _, _, rfl, rfl, na, _, _, _, rfl, rfl, SqL.of na80, k1, _, rfl, _, rfl, _, _, rfl, rfl, cm _, na, _, _, _, rfl, rfl, SqL.of na80, k2, x, dxh, _, pr, rt, Vs, ad, nb, wt, .str (ns.getD (3 * kx - 1) sE), .str (ns.getD (3 * kx) sE), rfl, paB c80, .inl ⟨_, rfl, name_len (nmV _ mu)⟩, .inl ⟨_, rfl, name_len (nmV _ mv)⟩, T80, go.sym, wnn, few, by omega, go.nd, by omega, fun h => absurd ju h, fun _ h => absurd jv h, fun u' v' e1 e2 _ _ hn => ?_, fun u' v' e1 e2 _ _ _ n13 m13 ms13 H13 e13 T13 ps13 lc13 => ?_⟩
  · cases e1
    cases e2
    exact absurd hnb hn
  cases e1
  cases e2
  have en13 : n13 = ws.getD kx 0 := ps_val hc ps13 lk1 lk2
  have em13 : m13 = m0 := lc_val go pw hc lc13 ge least2
  have ml := LL.1 kx kx0 kxm
  have m01 : 1 ≤ m0 ∧ m0 ≤ 9 := by
    obtain ⟨_, z, z1, z2, z3⟩ := LL
    have := hw z z2
    omega
  have ev : mn2 (wt (ns.getD (3 * kx - 1) sE) (ns.getD (3 * kx) sE)) (n13 - m13) = ws.getD kx 0 - m0 := by
    rw [hwt, en13, em13]
    unfold mn2
    split <;> omega
  have wa13 := e13 _ _ wa80 nt_lst
  have na13 := e13 _ _ na80 nt_lst
  refine ⟨_, rfl, _, rfl, wa, _, _, _, rfl, rfl, SqL.of wa13, k3, _, rfl, _, _, rfl, rfl, rfl, _, rfl, ?_⟩
  rw [ev]
  refine ite2 (fun h => absurd h (by simp)) (fun _ => ?_)
  have i0 : atI (ns.map V.str) 0 = some (.str (ns.getD 0 sE)) := atI_nat (j := 0) (gn _ (by omega))
  have i1' : atI (ns.map V.str) 1 = some (.str (ns.getD 1 sE)) := atI_nat (j := 1) (gn _ (by omega))
  have mu0 : ns.getD 0 sE ∈ Vs := pw.mem_iff.mpr (nm_mem (by omega))
  have hadj0 : Adj (chainE ns ws m) (ns.getD 0 sE) (ns.getD 1 sE) 10 := .inl (chain_mem.mpr ⟨0, by omega, List.mem_append_left _ (List.mem_cons_self ..)⟩)
  have hnb0 : ns.getD 1 sE ∈ nb (ns.getD 0 sE) := (ro.mem _ mu0 _).mpr ⟨_, hadj0⟩
  have A80 := paB c80
  have A13 : PArg K H13 x CN dxh (netF pr rt n me en7 0 1 ++ []) pr rt Vs ad nb wt := ⟨A80.g.ext e13, A80.lk, A80.r.ext e13, A80.nm⟩
  refine ⟨_, rfl, _, rfl, na, _, _, _, rfl, rfl, SqL.of na13, i0, _, rfl, na, _, _, _, rfl, rfl, SqL.of na13, i1', x, dxh, _, pr, rt, Vs, ad, nb, wt, _, _, rfl, A13, T13, go.sym, wnn, few, by omega, go.nd, by omega, mu0, hnb0, fun H14 wd n14 m14 ms14 e14 T14 ps14 lc14 hwd => ?_⟩
  have em14 : m14 = m0 := lc_val go pw hc lc14 ge least2
  have en14 : 20 ≤ n14 := by
    obtain ⟨⟨S, s1, s2, s3⟩, _⟩ := ps14
    rw [hc] at s3
    have := chain_tri (ns := ns) (ls := ws) (m := m) (p := 0) (q := 1) (fun k hk => by have := (hw k hk).1; omega) (S := S) (by omega) (by omega) (by omega) (by rw [s1, s2]; decide)
    omega
  have ew : wd = ("none" : Str) := by
    rcases hwd with ⟨_, h⟩ | ⟨h, _⟩
    · exact h
    · omega
  subst ew
  refine ⟨rfl, ?_⟩
  rw [decide_eq_true rfl]
  have x14 : Ext G80 H14 := e13.trans e14
  refine k H14 (fun b o hb hne no => ?_) T14 ((P80.ext x14).mono (by omega))
  have h7 := k07 b o hb hne no
  exact x14 _ _ (c80 _ _ (s31 _ _ h7) hne) no
end
end Wk
namespace Wk
open PySem PySem.Spec PyProof.Rows L2 WkD WkN LamX WkP WkE WkC
open PySem.W (EachIs)
section
variable {P : Program} {w : World} {K : PySem.W.Frag} {mg : Str → Option Value} {base : Heap}
theorem sc_complete60 : FnScope ["_law_pen_here", "_law_names", "_law_weight", "_law_edges", "_law_k", "_law_other", "_law_house", "_law_many", "_law_u", "_law_v", "_law_name"] ["_law_pen_here"] (defScope s_L_complete_right) := ⟨rfl, rfl, rfl, by decide +kernel, rfl, by decide +kernel, by decide +kernel⟩
theorem c_complete60 {tbT : List (Addr × Str)} {CN CU CE CS' : Addr} (D : Def K mg "_law_complete_right" s_L_complete_right) (B : Bi mg) (NK : FCls K CN)
    (PF : PropC P w K mg base CX0 CN "strength" 1 (spFound CN)) (MCo : MethC P w K mg base CX0 CN "cores" 6 (spCores K))
    (C_words : Callee P w K mg base CX0 3 "_law_words" ["_law_pen_here", "_law_many"] (spWords K)) (C_draw : Callee P w K mg base CX0 1 "_law_draw" ["_law_pen_here", "_law_many"] spDraw) (C_wts : Callee P w K mg base CX0 2 "_law_weights" ["_law_pen_here"] spWeights) (C_pick : Callee P w K mg base CX0 2 "_law_pick" ["_law_pen_here", "_law_some"] (spPick K)) (C_shuf : Callee P w K mg base CX0 2 "_law_shuffled" ["_law_pen_here", "_law_some"] (spShuf K))
    (C_built : Callee P w K mg base CX0 8 "_law_built_house" ["_law_pen_here", "_law_names", "_law_edges"] (spBuilt K tbT CN)) (C_ps : Callee P w K mg base (CX P w) 4 "pair_strength" ["network", "u", "v"] (spPairS K CN CU CS')) (C_role : Callee P w K mg base (CX P w) 7 "role" ["network", "u", "v"] (spRole K tbT CN CU CE)) (C_sl : Callee P w K mg base (CX P w) 6 "slack" ["network", "u", "v"] (spSlack K tbT CN CU CE)) (C_rw : Callee P w K mg base CX0 1 "_law_ring_word" ["_law_weights_here", "_law_low", "_law_weight"] (spRWord K)) :
    Callee P w K mg base CX0 9 "_law_complete_right" ["_law_pen_here"] (spBout60 tbT) := by
  obtain ⟨f, fd, F, g⟩ := D
  refine ⟨f, fd, F.ok sc_complete60 (fun vs H Q E h => ?_) (fun cdv A outer s H vs Q E hr h => ?_), g, F.kp, F.bindsN (fun _ _ _ _ _ _ us hl => match us, hl with | [_], _ => rfl)⟩
  · obtain ⟨p, cs, N, rfl, _⟩ := h
    rfl
  have hu := hu_of hr
  have nd := sc_complete60.nd
  have hr8 : Room 8 _ := hr
  have hr7 : Room 7 _ := hr.mono (by decide)
  have hr6 : Room 6 _ := hr.mono (by decide)
  have hr4 : Room 4 _ := hr.mono (by decide)
  have hr3 : Room 3 _ := hr.mono (by decide)
  have hr2 : Room 2 _ := hr.mono (by decide)
  have hr1 : Room 1 _ := hr.mono (by decide)
  refine ⟨_, PSs.nox (pss_cons (ps_asg (pe_tup (pa_cons (pe_c C_words hr3 pass0 (pa_cons (pv 0) (pa_cons (pe_op op_add pe_int (pe_c C_draw hr1 pass0 (pa_cons (pv 0) (pa_cons pe_int pa_nil)))) pa_nil))) (pa_cons (pe_c C_pick hr2 pass0 (pa_cons (pv 0) (pa_cons (pe_c C_wts hr2 pass0 (pa_cons (pv 0) pa_nil)) pa_nil))) pa_nil))) (WkN.pgT K 2 rfl rfl (pgs_cons (pg_name (i := 1) nd rfl (Or.inr rfl)) (pgs_cons (pg_name (i := 2) nd rfl (Or.inr rfl)) pgs_nil)) rfl))
      (pss_cons (ps_set (i := 3) nd rfl (Or.inl rfl) (pe_lst pa_nil))
      (pss_cons (ps_for PassesOwn.never rfl (pi_range1 (by rfl) B.n_range (pa_cons (pe_callB call_len_seq (by rfl) B.n_len (by decide +kernel) (pa_cons (pv 1) pa_nil)) pa_nil)) (pg_name (i := 4) nd rfl (Or.inr rfl))
      (pss_one (ps_expr (pe_bm PySem.F.plainAttrs_list PySem.F.slot_list_extend PySem.F.type_list_extend mt_extend (pv 3) (pa_cons (pe_lc (own := [("_law_other", 5)]) (by rfl) nd (pi_list (pe_slice sl_list (pv 1) (po_some (pe_op op_add (pv 4) pe_int)) po_none)) (blkOk_by (by kernel_rfl)) (fun _ _ _ _ _ => (pg_name (i := 5) nd rfl (Or.inl rfl))) (fun _ _ _ _ _ => pts_nil) (fun _ _ _ _ _ => (pe_tup (pa_cons (pe_ix (WkK.ixL K (by rfl)) (pv 1) (pv 4) (fun _ _ => rfl)) (pa_cons (pv 5) (pa_cons (pv 2) pa_nil)))))) pa_nil)))))
      (pss_cons (ps_par (i := 6) (j := 7) (by rfl) nd rfl rfl (by decide) rfl rfl (pa_cons (pe_c C_built hr8 pass0 (pa_cons (pv 0) (pa_cons (pv 1) (pa_cons (pv 3) pa_nil)))) (pa_cons (pe_callB call_len_seq (by rfl) B.n_len (by decide +kernel) (pa_cons (pv 1) pa_nil)) pa_nil)) (by rfl))
      (pss_cons (ps_asg (pe_slice sl_list (pe_c C_shuf hr2 pass0 (pa_cons (pv 0) (pa_cons (pv 1) pa_nil))) po_none (po_some pe_int)) (WkU.pgL K 2 rfl rfl (pgs_cons (pg_name (i := 8) nd rfl (Or.inl rfl)) (pgs_cons (pg_name (i := 9) nd rfl (Or.inl rfl)) pgs_nil)) rfl))
      (pss_cons (ps_if (pt_cmpR (op_neD hr.units) (pe_lst (pa_cons (WkC.pe_pr PF NK.cls hr2 pass0 (pv 6)) (pa_cons (pe_c C_ps hr4 WkK.passF (pa_cons (pv 6) (pa_cons (pv 8) (pa_cons (pv 9) pa_nil)))) pa_nil))) (pe_op op_rep (pe_lst (pa_cons (pe_op op_mul (pv 2) (pe_op op_sub (pv 7) pe_int)) pa_nil)) pe_int) (nomark _))
      (pss_one (ps_ret pe_bl)) pss_nil)
      (pss_cons (ps_if (PW.pt (pw_or (pt_cmpR (op_neD hr.units) (WkV.pe_mt0 MCo NK.cls hr6 pass0 (pv 6)) (pe_lc (own := [("_law_name", 10)]) (by rfl) nd (pi_list (pe_callB cr_sortedS (by rfl) B.n_sorted (by decide +kernel) (pa_cons (pv 1) pa_nil))) (blkOk_by (by kernel_rfl)) (fun _ _ _ _ _ => (pg_name (i := 10) nd rfl (Or.inl rfl))) (fun _ _ _ _ _ => pts_nil) (fun _ _ _ _ _ => (pe_tup (pa_cons (pv 10) pa_nil)))) (nomark _)) (pw_or1 (pt_cmpR op_ne (pe_c C_sl hr6 WkK.passF (pa_cons (pv 6) (pa_cons (pv 8) (pa_cons (pv 9) pa_nil)))) pe_int (nomark _)))))
      (pss_one (ps_ret pe_bl)) pss_nil)
      (pss_one (ps_ret (pe_cmpR op_eq (pe_c C_role hr7 WkK.passF (pa_cons (pv 6) (pa_cons (pv 8) (pa_cons (pv 9) pa_nil)))) (pe_ix (WkK.ixL K (by rfl)) (pe_lst (pa_cons pe_str (pa_cons pe_str pa_nil))) (pe_callTy WkB.call_intB (by rfl) B.n_int (by decide +kernel) (pa_cons (pe_cmpR op_eq (pv 7) pe_int (nomark _)) pa_nil)) (fun _ _ => rfl)) (nomark _))))))))))), ?_⟩
  obtain ⟨p, cs, N, rfl, hP, hN, hT, k⟩ := h
  have big : 100000 < sizeLine := by decide
  have kvp : ∀ {G : Hp} {M : Nat}, Pen G p cs M → ∃ kvs, G p = some (.dK kvs) := fun {G M} P => by
    obtain ⟨⟨t, r, h1, _⟩, _⟩ := P
    exact ⟨_, h1⟩
  have lne : ∀ {G : Hp} {M : Nat} {a : Addr} {xs : List V}, Pen G p cs M → G a = some (.lst xs) → a ≠ p := fun {G M a xs} P h z => by
    obtain ⟨kvs, h1⟩ := kvp P
    rw [z, h1] at h
    cases h
  refine ⟨_, rfl, _, rfl, p, cs, 9, N, rfl, by decide, by decide, hP, by omega, fun d H1 d0 d1 b1 P1 => ?_⟩
  obtain ⟨m, rfl⟩ : ∃ m : Nat, d = m := ⟨d.toNat, by omega⟩
  refine ⟨_, _, rfl, rfl, p, cs, N + 1, 2 + m, rfl, P1, by omega, by omega, fun na ns H2 b2 nna hna nd0 ln nm P2 => ?_⟩
  refine ⟨_, rfl, _, rfl, p, cs, _, rfl, P2, by omega, fun qw ws0 H3 b3 nqw hqw wok P3 => ?_⟩
  refine ⟨p, cs, _, P3, by omega, .inl ⟨qw, _, rfl, .inl (SqL.of hqw), fun z => wok.1 (List.map_eq_nil_iff.mp z), by rw [List.length_map]; have := wok.2.2; omega, fun xv H3' hxv b3' P3' => ?_⟩⟩
  obtain ⟨w0, hw0, rfl⟩ := List.mem_map.mp hxv
  have hw := wok.2.1 w0 hw0
  refine ⟨by show 2 ≤ sizeLine; omega, fun t nt => ?_⟩
  generalize gg : upd H3' t _ = H4
  obtain ⟨s4, T4⟩ := new_eq nt gg
  clear gg
  refine ⟨t, _, rfl, .inl (.inl T4), rfl, _, _, rfl, _, _, rfl, rfl, ?_⟩
  have P4 := P3'.same s4
  have hna4 := s4 _ _ (b3' _ _ (b3 _ _ hna (lne P2 hna)) (lne P3 (b3 _ _ hna (lne P2 hna))))
  have b04 : But p H H4 := b1.trans (b2.trans (b3.trans (b3'.trans (But.of_same s4))))
  have nap := lne P4 hna4
  have l40 : ns.length ≤ 10 := by omega
  have l2 : 2 ≤ ns.length := by omega
  have gn : ∀ k, k < ns.length → (ns.map V.str)[k]? = some (.str (ns.getD k sE)) := fun k hk => by
    rw [List.getElem?_map, List.getD_eq_getElem?_getD, List.getElem?_eq_getElem hk]
    rfl
  have lV : (ns.map V.str).length = ns.length := List.length_map ..
  refine ⟨Nat.zero_le _, fun ea nea => ?_⟩
  have s5 : Same H4 (upd H4 ea (.lst [])) := same_upd nea
  have L5 : upd H4 ea (.lst []) ea = some (.lst []) := upd_same
  generalize upd H4 ea (.lst []) = H5 at s5 L5
  have hna5 := s5 _ _ hna4
  have P5 := P4.same s5
  have b05 := b04.trans (But.of_same s5)
  refine ⟨_, rfl, na, _, rfl, .inl (SqL.of hna5), _, rfl, by rw [lV]; omega, by rw [lV]; omega, ?_⟩
  have en : ((ns.map V.str).length : Int).toNat = ns.length := by rw [lV]; exact Int.toNat_natCast _
  rw [en]
  refine for_it (walk_range (lo := 0) (n := ns.length)) (fun i σ Hc => ∃ (x4 x5 x6 x7 x8 x9 x10 : Option V) (rs : List Addr), σ = [some (.ref p), some (.ref na), some (.int w0), some (.ref ea), x4, x5, x6, x7, x8, x9, x10] ∧ (∀ b o, H4 b = some o → Hc b = some o) ∧ Hc ea = some (.lst (rs.map V.ref)) ∧ rs.length ≤ 10 * i ∧ EdsAt K Hc rs ((List.range i).flatMap fun k => (ns.drop (k + 1)).map fun y => (ns.getD k sE, y, w0)))
    ⟨_, _, _, _, _, _, _, [], rfl, s5, L5, Nat.le_refl _, ⟨rfl, fun i r e h => by cases i <;> cases h⟩⟩ ?_ ?_ ?_
  · intros
    trivial
  · rintro i y σ Hc0 Hc hi ⟨x4, x5, x6, x7, x8, x9, x10, rs, rfl, c1, c2, c4, c3⟩ ⟨rfl, rfl⟩
    have nac := c1 _ _ hna4
    refine ⟨_, rfl, .inl ⟨rfl, _, SqL.of c2⟩, _, rfl, _, rfl, _, _, rfl, rfl, _, rfl, na, _, rfl, SqL.of nac, fun q1 nq1 => ?_⟩
    have ec : cutV (ns.map V.str) (some ((0 + (i : Int)) + 1)) none = (ns.drop (i + 1)).map V.str := by
      rw [cutV_lo (by omega), List.map_drop, show ((0 + (i : Int)) + 1).toNat = i + 1 by omega]
    rw [ec]
    have s6 : Same Hc (upd Hc q1 (.lst ((ns.drop (i + 1)).map V.str))) := same_upd nq1
    have L6 : upd Hc q1 (.lst ((ns.drop (i + 1)).map V.str)) q1 = some (.lst ((ns.drop (i + 1)).map V.str)) := upd_same
    generalize upd Hc q1 (.lst ((ns.drop (i + 1)).map V.str)) = H6 at s6 L6
    refine ⟨q1, rfl, ⟨_, SqL.of L6⟩, fun D nD => ?_⟩
    have na6 := s6 _ _ nac
    have i2 : atI (ns.map V.str) (0 + (i : Int)) = some (.str (ns.getD i sE)) := by
      rw [Int.zero_add]
      exact atI_nat (gn i hi)
    refine lc_it (walk_list (xs := (ns.drop (i + 1)).map V.str)) (fun j Hd => Same H6 Hd ∧ ∃ ts : List Addr, Hd D = some (.lst (ts.map V.ref)) ∧ ts.length ≤ j ∧ EdsAt K Hd ts (((ns.drop (i + 1)).take j).map fun y => (ns.getD i sE, y, w0))) ⟨same_upd nD, [], upd_same, Nat.le_refl _, ⟨rfl, fun i r e h => by cases i <;> cases h⟩⟩ ?_ ?_ ?_
    · rintro j Hd hj ⟨d1, _⟩
      exact SqL.of (d1 _ _ L6)
    · rintro j y Hd0 Hd hj ⟨d1, ts, d2, d4, d3⟩ ⟨rfl, hy⟩
      rw [List.length_map] at hj
      rw [List.getElem?_map, List.getElem?_eq_getElem hj] at hy
      cases hy
      have tk := takeS (List.getElem?_eq_getElem hj)
      generalize (ns.drop (i + 1))[j] = y at tk
      have ld : (ns.drop (i + 1)).length ≤ 10 := by rw [List.length_drop]; omega
      refine ⟨rfl, tYes_if ⟨_, rfl, _, rfl, na, _, _, _, rfl, rfl, SqL.of (d1 _ _ na6), i2, _, rfl, _, rfl, by show 3 ≤ sizeLine; omega, fun q nq => ?_⟩⟩
      have Dq : D ≠ q := ne_of_none d2 nq
      have s7 : Same Hd (upd Hd q (.tup [.str (ns.getD i sE), .str y, .int w0])) := same_upd nq
      refine ⟨ts.map V.ref, by rw [upd_ne Dq]; exact d2, by rw [List.length_map]; omega, fun b o hb => ?_, ts ++ [q], by rw [upd_same, List.map_append]; rfl, by rw [List.length_append, List.length_singleton]; omega, ?_⟩
      · rw [upd_ne (ne_of_none hb nD)]
        exact s7 _ _ (d1 _ _ hb)
      · rw [tk, List.map_append]
        have up : ∀ {r : Addr} {xs : List V}, SqT K Hd r xs → SqT K (upd (upd Hd q (.tup [.str (ns.getD i sE), .str y, .int w0])) D (.lst (ts.map V.ref ++ [.ref q]))) r xs := fun {r xs} h => by
          rcases h with (h | ⟨o, h⟩) | h
          · exact .inl (.inl (by rw [upd_ne (ne_of h d2 (by intro z; cases z))]; exact s7 _ _ h))
          · exact .inl (.inr ⟨o, by rw [upd_ne (ne_of h d2 (by intro z; cases z))]; exact s7 _ _ h⟩)
          · exact .inr h
        exact eds_each.mpr (eachA ((eds_each.mp d3).mono fun r e h => up h) (.cons (.inl (.inl (by rw [upd_ne (Ne.symm Dq)]; exact upd_same))) .nil))
    · rintro Hd ⟨d1, ts, d2, d4, d3⟩
      rw [List.length_map] at d4 d3
      rw [List.take_length] at d3
      have ld : (ns.drop (i + 1)).length ≤ 10 := by rw [List.length_drop]; omega
      have ead := d1 _ _ (s6 _ _ c2)
      have sall : Same Hc Hd := s6.trans d1
      refine ⟨ea, D, rs.map V.ref, ts.map V.ref, rfl, rfl, ead, d2, by rw [List.length_map, List.length_map]; omega, _, _, _, _, _, _, _, rs ++ ts, rfl, fun b o hb => ?_, by rw [upd_same, List.map_append], by rw [List.length_append]; omega, ?_⟩
      · rw [upd_ne (ne_of_none hb nea)]
        exact sall _ _ (c1 _ _ hb)
      · rw [List.range_succ, List.flatMap_append, List.flatMap_cons, List.flatMap_nil, List.append_nil]
        have up : ∀ {r : Addr} {xs : List V}, SqT K Hd r xs → SqT K (upd Hd ea (.lst (rs.map V.ref ++ ts.map V.ref))) r xs := fun {r xs} h => by
          rcases h with (h | ⟨o, h⟩) | h
          · exact .inl (.inl (by rw [upd_ne (ne_of h ead (by intro z; cases z))]; exact h))
          · exact .inl (.inr ⟨o, by rw [upd_ne (ne_of h ead (by intro z; cases z))]; exact h⟩)
          · exact .inr h
        exact eds_each.mpr (eachA ((eds_each.mp c3).mono fun r e h => up (WkG.seqT_same sall h)) ((eds_each.mp d3).mono fun r e h => up h))
  · rintro σ Hc ⟨x4, x5, x6, x7, x8, x9, x10, rs, rfl, c1, c2, c4, c3⟩
    rw [← pairs_flat] at c3
    have hE : EdsAt K Hc rs (pairsE ns w0) := c3
    have hna6 := c1 _ _ hna4
    have P6 : Pen Hc p cs _ := P4.same c1
    have b06 : But p H Hc := b04.trans (But.of_same c1)
    obtain ⟨kvs0, hpk⟩ := kvp hP
    have T6 : Tabs tbT Hc := tabs_but hT hpk trivial b06
    have G := good_pairs nm nd0 l2 (by omega) hw
    have lE := pairs_len (w := w0) ns
    have lE2 : ns.length * ns.length ≤ 10 * 10 := Nat.mul_le_mul l40 l40
    refine ⟨_, rfl, _, rfl, _, rfl, p, cs, na, ea, _, ns, rs, pairsE ns w0, rfl, P6, by omega, hna6, c2, hE, by omega, G, T6, fun x Vs nb wt rt n me en7 H7 k7 T7 nx N7 pw ro P7 => ?_⟩
    have nt_lst : ∀ {xs : List V}, ∀ ps, HO.lst xs ≠ .tbl ps := fun {xs} ps z => by cases z
    have hna7 := k7 _ _ hna6 (lne P6 hna6) nt_lst
    have k07 : ∀ b o, H b = some o → b ≠ p → (∀ ps, o ≠ .tbl ps) → H7 b = some o := fun b o hb hne no => k7 b o (b06 b o hb hne) hne no
    have hc := good_cut G pw ro
    obtain ⟨dxh, pr, ad, hx7, rz7⟩ := id N7.ex
    have go := N7.gok
    refine ⟨_, rfl, na, _, rfl, .inl (SqL.of hna7), _, _, rfl, ?_⟩
    rw [lV]
    have nne : ns ≠ [] := fun z => by rw [z] at l2; simp at l2
    refine ⟨_, rfl, _, rfl, p, cs, na, _, true, _, rfl, P7, by rw [lV]; omega, SqL.of hna7, by rw [lV]; omega, fun q3 ys H8 b8 nq3 hq3 pm P8 => ?_⟩
    rw [lV] at P8
    obtain ⟨us, rfl, pus⟩ := perm_map pm rfl
    obtain ⟨u, v, ur, rfl⟩ : ∃ a b r, us = a :: b :: r := by
      have := pus.length_eq
      match us, this with
      | [], h => simp at h; omega
      | [_], h => simp at h; omega
      | a :: b :: r, _ => exact ⟨a, b, r, rfl⟩
    have nuv : u ≠ v := fun z => by
      have := pus.nodup_iff.mpr nd0
      rw [z] at this
      simp at this
    have huN : u ∈ ns := pus.mem_iff.mp (by simp)
    have hvN : v ∈ ns := pus.mem_iff.mp (by simp)
    have muV : u ∈ Vs := pw.mem_iff.mpr huN
    have mvV : v ∈ Vs := pw.mem_iff.mpr hvN
    refine ⟨2, rfl, q3, _, rfl, SqL.of hq3, fun q4 nq4 => ?_⟩
    have etk : cutV ((u :: v :: ur).map V.str) none (some 2) = [.str u, .str v] := by
      rw [cutV_hi (by decide)]
      rfl
    rw [etk]
    have s9 : Same H8 (upd H8 q4 (.lst [.str u, .str v])) := same_upd nq4
    have L9 : upd H8 q4 (.lst [.str u, .str v]) q4 = some (.lst [.str u, .str v]) := upd_same
    generalize upd H8 q4 (.lst [.str u, .str v]) = H9 at s9 L9
    refine ⟨q4, _, rfl, SqL.of L9, rfl, _, _, rfl, _, _, rfl, rfl, ?_⟩
    have P9 := P8.same s9
    obtain ⟨kv7, hp7⟩ := kvp P7
    have c79 : But p H7 H9 := b8.trans (But.of_same s9)
    have xp : x ≠ p := ne_of hx7 hp7 (by intro z; cases z)
    have rzB : ∀ {G : Hp}, But p H7 G → RowsZ G pr Vs ad nb wt := fun {G} b => ⟨rz7.top.imp fun o h => b _ _ h (ne_of h hp7 (by intro z; cases z)), fun u hu => (rz7.row u hu).imp fun o h => b _ _ h (ne_of h hp7 (by intro z; cases z))⟩
    have nmV : ∀ u ∈ Vs, nameB u = true := fun u hu => nm u (pw.mem_iff.mp hu)
    have paB : ∀ {G : Hp}, But p H7 G → PArg K G x CN dxh (netF pr rt n me en7 0 1 ++ []) pr rt Vs ad nb wt := fun {G} b => ⟨⟨b _ _ hx7 xp, NK.cls, NK.na, NK.nt, rfl, rfl⟩, rfl, rzB b, nmV⟩
    have T9 : Tabs tbT H9 := tabs_but T7 hp7 trivial c79
    have lVs := pw.length_eq
    have few : ∀ u ∈ Vs, (nb u).length < 1000 := fun u hu => by
      have h2 : (nb u).length ≤ Vs.length := (go.sym.nd u hu).length_le_of_subset fun y hy => (go.sym.mem u hu y hy).1
      omega
    have wnn : ∀ u ∈ Vs, ∀ v ∈ nb u, 0 ≤ wt u v := fun u hu v hv => by
      have := (go.wts u hu v hv).1
      omega
    obtain ⟨M0, eM0⟩ : ∃ M0 : Int, M0 = w0 * ((ns.length : Int) - 1) := ⟨_, rfl⟩
    have ge : ∀ S : Sd, (∃ y ∈ ns, S y = true) → (∃ y ∈ ns, S y = false) → M0 ≤ cutL (pairsE ns w0) S := fun S h1 h2 => by rw [eM0]; exact complete_ge (by omega) h1 h2
    have one : ∀ a ∈ ns, cutL (pairsE ns w0) (oneS a) = M0 := fun a ha => by rw [eM0]; exact complete_one nd0 ha
    have o1 : ∀ a : Str, oneS a a = true := fun a => decide_eq_true rfl
    have o0 : ∀ a b : Str, b ≠ a → oneS a b = false := fun a b h => decide_eq_false h
    have least2 : ∃ S : Sd, (∃ y ∈ ns, S y = true) ∧ (∃ y ∈ ns, S y = false) ∧ cutL (pairsE ns w0) S = M0 := ⟨oneS u, ⟨u, huN, o1 u⟩, ⟨v, hvN, o0 u v (Ne.symm nuv)⟩, one u huN⟩
    have pge : ∀ a ∈ ns, ∀ b ∈ ns, ∀ S : Sd, S a ≠ S b → M0 ≤ cutL (pairsE ns w0) S := fun a ha b hb S hS => by
      cases h : S a
      · refine ge S ⟨b, hb, ?_⟩ ⟨a, ha, h⟩
        cases h2 : S b
        · rw [h, h2] at hS
          exact absurd rfl hS
        · rfl
      · refine ge S ⟨a, ha, h⟩ ⟨b, hb, ?_⟩
        cases h2 : S b
        · rfl
        · rw [h, h2] at hS
          exact absurd rfl hS
    have pat : ∀ a ∈ ns, ∀ b ∈ ns, a ≠ b → ∃ S : Sd, S a ≠ S b ∧ cutL (pairsE ns w0) S = M0 := fun a ha b hb ne => ⟨oneS a, by rw [o1 a, o0 a b (Ne.symm ne)]; decide, one a ha⟩
    have enn : n = M0 := by
      obtain ⟨ms, lc⟩ := N7.lc
      exact lc_val go pw hc lc ge least2
    have hx9 := c79 _ _ hx7 xp
    have N9 : NetO H9 x CN [] Vs nb wt rt n me en7 0 1 := N7.keep fun c o hc ho => c79 c o hc fun z => by
      rcases ho with ho | ⟨o1, o2, ho⟩
      · exact xp (ho ▸ z)
      · rw [z, hp7, ho] at hc
        cases hc
    have iu : IsIn (.str u) Vs := ⟨_, muV, rfl⟩
    have iv : IsIn (.str v) Vs := ⟨_, mvV, rfl⟩
    refine ⟨_, rfl, x, dxh, _, rfl, hx9, x, me, en7, [], Vs, nb, wt, rt, n, 0, 1, rfl, N9, ?_⟩
    refine ⟨_, rfl, _, rfl, _, rfl, x, dxh, _, pr, rt, Vs, ad, nb, wt, .str u, .str v, rfl, paB c79, .inl ⟨_, rfl, name_len (nmV _ muV)⟩, .inl ⟨_, rfl, name_len (nmV _ mvV)⟩, go.sym, wnn, few, by omega, go.nd, fun h => absurd iu h, fun _ h => absurd iv h, fun _ h => absurd (by injection h) nuv, fun u' v' e1 e2 _ _ _ n10 H10 s10 ps => ?_⟩
    cases e1
    cases e2
    have en10 : n10 = M0 := ps_val hc ps (pge u huN v hvN) (pat u huN v hvN nuv)
    refine ⟨by show 2 ≤ sizeLine; omega, fun q5 nq5 => ?_⟩
    have s11 : Same H10 (upd H10 q5 (.lst [.int n, .int n10])) := same_upd nq5
    have L11 : upd H10 q5 (.lst [.int n, .int n10]) q5 = some (.lst [.int n, .int n10]) := upd_same
    generalize upd H10 q5 (.lst [.int n, .int n10]) = H11 at s11 L11
    have lint : (ns.length : Int) ≤ 10 := by omega
    refine ⟨_, rfl, _, rfl, _, _, rfl, rfl, _, _, rfl, rfl, .inl ⟨by omega, by omega⟩, by show 1 ≤ sizeLine; omega, fun q6 nq6 => ?_⟩
    simp only [← eM0]
    have s12 : Same H11 (upd H11 q6 (.lst [.int M0])) := same_upd nq6
    have L12 : upd H11 q6 (.lst [.int M0]) q6 = some (.lst [.int M0]) := upd_same
    generalize upd H11 q6 (.lst [.int M0]) = H12 at s12 L12
    refine ⟨q6, 2, _, rfl, rfl, L12, by decide, by decide, by show 1 * 2 ≤ sizeLine; omega, fun q7 nq7 => ?_⟩
    have erep : (List.replicate (2 : Int).toNat [V.int M0]).flatten = [.int M0, .int M0] := rfl
    rw [erep]
    have s13 : Same H12 (upd H12 q7 (.lst [.int M0, .int M0])) := same_upd nq7
    have L13 : upd H12 q7 (.lst [.int M0, .int M0]) q7 = some (.lst [.int M0, .int M0]) := upd_same
    generalize upd H12 q7 (.lst [.int M0, .int M0]) = H13 at s13 L13
    have s1013 : Same H10 H13 := s11.trans (s12.trans s13)
    have shp : ∀ a b : Int, SeqAt.shaped (.list [.int a, .int b]) = true := fun a b => rfl
    refine ⟨.list [.int n, .int n10], .list [.int M0, .int M0], .lst (SqL.of (s13 _ _ (s12 _ _ L11))) (.cons (.int _) (.cons (.int _) .nil)), .lst (SqL.of L13) (.cons (.int _) (.cons (.int _) .nil)), shp _ _, shp _ _, _, rfl, ?_⟩
    rw [enn, en10, SeqAt.eqv_refl _ (SeqAt.canLay_of_shaped (shp M0 M0))]
    refine ite2 (fun h => absurd h (by simp)) (fun _ => ?_)
    have c713 : But p H7 H13 := c79.trans ((But.of_same s10).trans (But.of_same s1013))
    have P13 := (P9.same s10).same s1013
    have T13 : Tabs tbT H13 := tabs_but T7 hp7 trivial c713
    have hx13 := c713 _ _ hx7 xp
    have na13 := c713 _ _ hna7 (lne P7 hna7)
    have A13 := paB c713
    refine ⟨_, rfl, x, dxh, _, rfl, hx13, rfl, x, CN, dxh, _, pr, rt, Vs, ad, nb, wt, rfl, A13.g, A13.r, go.sym, wnn, few, by omega, go.nd, N7.rt, by omega, fun cl rc hd mc H14 s14 ncl L14 E14 CO => ?_⟩
    refine ⟨_, rfl, na, ns, rfl, SqL.of (s14 _ _ na13), by omega, fun zs q8 pz soz nq8 => ?_⟩
    have ezs : zs = Vs := asc_unique (asc_of soz (pz.nodup_iff.mpr nd0)) N7.asc (pz.trans pw.symm)
    subst ezs
    have s15 : Same H14 (upd H14 q8 (.lst (zs.map V.str))) := same_upd nq8
    have L15 : upd H14 q8 (.lst (zs.map V.str)) q8 = some (.lst (zs.map V.str)) := upd_same
    generalize upd H14 q8 (.lst (zs.map V.str)) = H15 at s15 L15
    refine ⟨q8, rfl, ⟨_, SqL.of L15⟩, fun D nD => ?_⟩
    refine lc_it (walk_list (xs := zs.map V.str)) (fun j Hd => Same H15 Hd ∧ ∃ ts : List Addr, Hd D = some (.lst (ts.map V.ref)) ∧ ts.length ≤ j ∧ EachIs (fun r (S : List Str) => SqT K Hd r (S.map V.str)) ts ((zs.take j).map fun u => [u])) ⟨same_upd nD, [], upd_same, Nat.le_refl _, .nil⟩ ?_ ?_ ?_
    · rintro j Hd hj ⟨d1, _⟩
      exact SqL.of (d1 _ _ L15)
    · rintro j y Hd0 Hd hj ⟨d1, ts, d2, d4, d3⟩ ⟨rfl, hy⟩
      rw [List.length_map] at hj
      rw [List.getElem?_map, List.getElem?_eq_getElem hj] at hy
      cases hy
      have tk := takeS (List.getElem?_eq_getElem hj)
      generalize zs[j] = y at tk
      refine ⟨rfl, tYes_if ⟨_, rfl, by show 1 ≤ sizeLine; omega, fun q nq => ?_⟩⟩
      have Dq : D ≠ q := ne_of_none d2 nq
      have s7 : Same Hd (upd Hd q (.tup [.str y])) := same_upd nq
      refine ⟨ts.map V.ref, by rw [upd_ne Dq]; exact d2, by rw [List.length_map]; omega, fun b o hb => ?_, ts ++ [q], by rw [upd_same, List.map_append]; rfl, by rw [List.length_append, List.length_singleton]; omega, ?_⟩
      · rw [upd_ne (ne_of_none hb nD)]
        exact s7 _ _ (d1 _ _ hb)
      · rw [tk, List.map_append]
        have up : ∀ {r : Addr} {xs : List V}, SqT K Hd r xs → SqT K (upd (upd Hd q (.tup [.str y])) D (.lst (ts.map V.ref ++ [.ref q]))) r xs := fun {r xs} h => by
          rcases h with (h | ⟨o, h⟩) | h
          · exact .inl (.inl (by rw [upd_ne (ne_of h d2 (by intro z; cases z))]; exact s7 _ _ h))
          · exact .inl (.inr ⟨o, by rw [upd_ne (ne_of h d2 (by intro z; cases z))]; exact s7 _ _ h⟩)
          · exact .inr h
        exact eachA (d3.mono fun r S h => up h) (.cons (.inl (.inl (by rw [upd_ne (Ne.symm Dq)]; exact upd_same))) .nil)
    · rintro Hd ⟨d1, ts, d2, d4, d3⟩
      rw [List.length_map, List.take_length] at d3
      have em : mc = M0 := cores_least go CO hc (fun S ⟨y, hy, e⟩ ⟨z, hz, e2⟩ => ge S ⟨y, pw.mem_iff.mp hy, e⟩ ⟨z, pw.mem_iff.mp hz, e2⟩) (by
        obtain ⟨S, ⟨y, hy, e⟩, ⟨z, hz, e2⟩, e3⟩ := least2
        exact ⟨S, ⟨y, pw.mem_iff.mpr hy, e⟩, ⟨z, pw.mem_iff.mpr hz, e2⟩, e3⟩)
      have lam0 : ∀ a ∈ zs, ∀ b ∈ zs, a ≠ b → lamOf zs (vl0 nb wt) a b = M0 := fun a ha b hb ne => lamOf_eq (isLam_of hc (pge a (pw.mem_iff.mp ha) b (pw.mem_iff.mp hb)) (pat a (pw.mem_iff.mp ha) b (pw.mem_iff.mp hb) ne))
      have ecl : clsF hd zs = zs.map fun u => [u] := cls_singles N7.asc fun a ha b hb => (CO.eq a ha b hb).trans ⟨fun h => by
        rcases h with h | h
        · exact h
        · by_cases ab : a = b
          · exact ab
          · rw [lam0 a ha b hb ab, em] at h
            exact absurd h (by omega), .inl⟩
      rw [ecl] at E14
      have okS : ∀ S ∈ zs.map (fun u => [u]), ∀ z ∈ S, PyData.strOk z = true := fun S hS z hz => by
        obtain ⟨u, hu, rfl⟩ := List.mem_map.mp hS
        rw [List.mem_singleton.mp hz]
        exact name_ok60 (nmV u hu)
      refine ⟨.list ((zs.map fun u => [u]).map WkEb.tupD), .list ((zs.map fun u => [u]).map WkEb.tupD), .lst (SqL.of (d1 _ _ (s15 _ _ L14))) (WkEb.tups_dp (E14.mono fun r S h => .inl (.inl (d1 _ _ (s15 _ _ h))))), .lst (SqL.of d2) (WkEb.tups_dp d3), WkEb.tups_shaped okS, WkEb.tups_shaped okS, _, rfl, ?_⟩
      rw [SeqAt.eqv_refl _ (SeqAt.canLay_of_shaped (WkEb.tups_shaped okS))]
      refine ite2 (fun h => absurd h (by simp)) (fun _ => ?_)
      have sd : Same H13 Hd := s14.trans (s15.trans d1)
      have cd : But p H7 Hd := c713.trans (But.of_same sd)
      have Ad := paB cd
      have Pd := P13.same sd
      have Td : Tabs tbT Hd := tabs_but T7 hp7 trivial cd
      obtain ⟨w1, hadj⟩ : ∃ w1, Adj (pairsE ns w0) u v w1 := by
        obtain ⟨i, hi, rfl⟩ := List.mem_iff_getElem.mp huN
        obtain ⟨j, hj, rfl⟩ := List.mem_iff_getElem.mp hvN
        have gi : ns.getD i sE = ns[i] := by rw [List.getD_eq_getElem?_getD, List.getElem?_eq_getElem hi]; rfl
        have gj : ns.getD j sE = ns[j] := by rw [List.getD_eq_getElem?_getD, List.getElem?_eq_getElem hj]; rfl
        have ij : i ≠ j := fun z => nuv (by subst z; rfl)
        rw [← gi, ← gj]
        rcases Nat.lt_or_gt_of_ne ij with h | h
        · exact ⟨w0, .inl (pairs_mem h hj)⟩
        · exact ⟨w0, .inr (pairs_mem h hi)⟩
      have hnb : v ∈ nb u := (ro.mem _ muV _).mpr ⟨_, hadj⟩
      have wuv : 0 ≤ wt u v := wnn u muV v hnb
      refine ⟨_, rfl, _, rfl, _, rfl, x, dxh, _, pr, rt, zs, ad, nb, wt, .str u, .str v, rfl, Ad, .inl ⟨_, rfl, name_len (nmV _ muV)⟩, .inl ⟨_, rfl, name_len (nmV _ mvV)⟩, Td, go.sym, wnn, few, by omega, go.nd, by omega, fun h => absurd iu h, fun _ h => absurd iv h, fun u' v' e1 e2 _ _ hn => ?_, fun u' v' e1 e2 _ _ _ n13 m13 ms13 H16 e16 T16 ps13 lc13 => ?_⟩
      · cases e1
        cases e2
        exact absurd hnb hn
      cases e1
      cases e2
      have en13 : n13 = M0 := ps_val hc ps13 (pge u huN v hvN) (pat u huN v hvN nuv)
      have em13 : m13 = M0 := lc_val go pw hc lc13 ge least2
      have ev : mn2 (wt u v) (n13 - m13) = 0 := by
        rw [en13, em13]
        unfold mn2
        split <;> omega
      rw [ev]
      have x16 : Ext H13 H16 := (Ext.of sd).trans e16
      have A16 : PArg K H16 x CN dxh (netF pr rt n me en7 0 1 ++ []) pr rt zs ad nb wt := ⟨Ad.g.ext e16, Ad.lk, Ad.r.ext e16, Ad.nm⟩
      refine ⟨rfl, _, rfl, ?_⟩
      refine ite2 (fun h => absurd h (by decide)) (fun _ => ?_)
      refine ⟨_, rfl, _, rfl, _, rfl, x, dxh, _, pr, rt, zs, ad, nb, wt, _, _, rfl, A16, T16, go.sym, wnn, few, by omega, go.nd, by omega, muV, hnb, fun H17 wd n17 m17 ms17 e17 T17 ps lc hwd => ?_⟩
      have en17 : n17 = M0 := ps_val hc ps (pge u huN v hvN) (pat u huN v hvN nuv)
      have em17 : m17 = M0 := lc_val go pw hc lc ge least2
      have na17 := e17 _ _ (e16 _ _ (cd _ _ hna7 (lne P7 hna7)) nt_lst) nt_lst
      have ew : wd = if ns.length = 2 then ("all" : Str) else ("some" : Str) := by
        subst en17 em17
        rcases hwd with ⟨h1, h2⟩ | ⟨h1, m2, ms2, lc2, h2⟩
        · exact absurd h1 (by omega)
        · obtain ⟨bl1, bl2⟩ := bump_least go pw hc muV hnb lc2
          rw [h2]
          have lus := pus.length_eq
          cases ur with
          | nil =>
            simp at lus
            rw [if_pos lus.symm]
            obtain ⟨S, s1, s2, s3⟩ := bl2
            have nS : S u ≠ S v := fun z => by
              obtain ⟨y1, hy1, f1⟩ := s1
              obtain ⟨y2, hy2, f2⟩ := s2
              have m1 := pus.mem_iff.mpr hy1
              have m2 := pus.mem_iff.mpr hy2
              simp at m1 m2
              have a1 : S y1 = S u := by rcases m1 with rfl | rfl; rfl; exact z.symm
              have a2 : S y2 = S u := by rcases m2 with rfl | rfl; rfl; exact z.symm
              rw [← a1, f1] at a2
              rw [f2] at a2
              cases a2
            rw [if_neg nS] at s3
            have := ge S s1 s2
            split
            · rfl
            · exfalso
              omega
          | cons c r =>
            simp at lus
            rw [if_neg (show ¬ ns.length = 2 by omega)]
            have nd3 := pus.nodup_iff.mpr nd0
            simp at nd3
            have hcN : c ∈ ns := pus.mem_iff.mp (by simp)
            have e1 : oneS c u = oneS c v := by rw [o0 c u (by intro z; exact nd3.1.2.1 z), o0 c v (by intro z; exact nd3.2.1.1 z)]
            have := bl1 (oneS c) ⟨c, hcN, o1 c⟩ ⟨u, huN, o0 c u (by intro z; exact nd3.1.2.1 z)⟩
            rw [if_pos e1, one c hcN] at this
            split
            · exfalso
              omega
            · rfl
      refine ⟨by show 2 ≤ sizeLine; omega, fun q9 nq9 => ?_⟩
      have s18 : Same H17 (upd H17 q9 (.lst [.str (Str.ofString "some"), .str (Str.ofString "all")])) := same_upd nq9
      have L18 : upd H17 q9 (.lst [.str (Str.ofString "some"), .str (Str.ofString "all")]) q9 = some (.lst [.str (Str.ofString "some"), .str (Str.ofString "all")]) := upd_same
      generalize upd H17 q9 (.lst [.str (Str.ofString "some"), .str (Str.ofString "all")]) = H18 at s18 L18
      have xf : Ext H13 H18 := x16.trans (e17.trans (Ext.of s18))
      refine ⟨_, rfl, rfl, decide (V.int (ns.length : Int) = V.int 2), rfl, q9, _, _, if ns.length = 2 then .str (Str.ofString "all") else .str (Str.ofString "some"), rfl, rfl, SqL.of L18, ?_, ?_⟩
      · by_cases e : ns.length = 2
        · rw [if_pos e, show decide (V.int (ns.length : Int) = V.int 2) = true from decide_eq_true (by rw [e]; rfl)]
          rfl
        · rw [if_neg e, show decide (V.int (ns.length : Int) = V.int 2) = false from decide_eq_false (by intro z; injection z; omega)]
          rfl
      have ev2 : (if ns.length = 2 then V.str (Str.ofString "all") else .str (Str.ofString "some")) = .str wd := by
        rw [ew]
        split <;> rfl
      rw [ev2]
      refine ⟨rfl, ?_⟩
      rw [decide_eq_true rfl]
      have P18 := P13.ext xf
      refine k H18 (fun b o hb hne no => ?_) (T17.ext s18) (P18.mono (by omega))
      exact xf _ _ (c713 _ _ (k07 b o hb hne no) hne) no
end
end Wk
namespace Wk
open PySem PySem.Spec PyProof.Rows L2 WkD WkN LamX WkP WkE WkC
open PySem.W (EachIs)
section
variable {P : Program} {w : World} {K : PySem.W.Frag} {mg : Str → Option Value} {base : Heap}
theorem sc_law60 : FnScope ["_law_script", "_law_pen_here", "_law_bout"] ["_law_script"] (defScope s_law) := ⟨rfl, rfl, rfl, by decide +kernel, rfl, by decide +kernel, by decide +kernel⟩
theorem ok_law {f : Addr} {fd : FuncData} (F : FnP K "law" "law" s_law f fd) (B : Bi mg) {tbT : List (Addr × Str)}
    (C_pen : Callee P w K mg base CX0 1 "_law_pen" ["_law_script"] (spPen K)) (C_ring : Callee P w K mg base CX0 9 "_law_ring_right" ["_law_pen_here"] (spBout60 tbT)) (C_comp : Callee P w K mg base CX0 9 "_law_complete_right" ["_law_pen_here"] (spBout60 tbT)) (C_star : Callee P w K mg base CX0 9 "_law_star_right" ["_law_pen_here"] (spBout60 tbT)) (C_chn : Callee P w K mg base CX0 9 "_law_chain_right" ["_law_pen_here"] (spBout60 tbT)) :
    WkG.FnG P w K mg base CX0 10 f fd ["_law_script"] (spLawT K tbT) := by
  refine WkG.okG F sc_law60 (fun vs H Q E h => ?_) (fun cdv A outer s H vs Q E hG hr h => ?_)
  · obtain ⟨a, ns, rfl, _⟩ := h
    rfl
  have hu := hu_of hr
  have nd := sc_law60.nd
  have hr9 : Room 9 _ := hr
  have hr1 : Room 1 _ := hr.mono (by decide)
  refine ⟨_, PSs.nox (pss_cons (ps_set (i := 1) nd rfl (Or.inl rfl) (pe_c C_pen hr1 pass0 (pa_cons (pv 0) pa_nil)))
      (pss_cons (ps_for PassesOwn.never rfl (pi_range1 (by rfl) B.n_range (pa_cons (pe_op op_add pe_int (pe_callB (call_min2 rfl) (by rfl) B.n_min (by decide +kernel) (pa_cons pe_int (pa_cons (pe_callB call_len_seq (by rfl) B.n_len (by decide +kernel) (pa_cons (pv 0) pa_nil)) pa_nil)))) pa_nil)) (pg_name (i := 2) nd rfl (Or.inl rfl))
      (pss_cons (ps_if (PW.pt (pw_or (pt_not (pt_val (pe_c C_ring hr9 pass0 (pa_cons (pv 1) pa_nil)))) (pw_or1 (pt_not (pt_val (pe_c C_comp hr9 pass0 (pa_cons (pv 1) pa_nil)))))))
      (pss_one (ps_ret pe_bl)) pss_nil)
      (pss_one (ps_if (PW.pt (pw_or (pt_not (pt_val (pe_c C_star hr9 pass0 (pa_cons (pv 1) pa_nil)))) (pw_or1 (pt_not (pt_val (pe_c C_chn hr9 pass0 (pa_cons (pv 1) pa_nil)))))))
      (pss_one (ps_ret pe_bl)) pss_nil))))
      (pss_one (ps_ret pe_bl)))), ?_⟩
  obtain ⟨a, ns, rfl, hS, hl, hT, k⟩ := h
  have big : 100000 < sizeLine := by decide
  refine ⟨_, rfl, a, ns, rfl, hS, hl, fun p cs H1 np ncs s1 P1 => ?_⟩
  have T1 := hT.ext s1
  refine ⟨_, rfl, a, _, rfl, .inl (s1.seq hS), _, _, rfl, _, _, rfl, rfl, ?_⟩
  rw [List.length_map]
  obtain ⟨nb, enb, nb0, nb1⟩ : ∃ n : Int, n = 1 + (if (ns.length : Int) < 1 then (ns.length : Int) else 1) ∧ 0 ≤ n ∧ n ≤ 2 := ⟨_, rfl, by split <;> omega, by split <;> omega⟩
  refine ⟨nb, by rw [enb], by omega, by omega, ?_⟩
  refine for_it (walk_range (lo := 0) (n := nb.toNat)) (fun i σ Hc => ∃ x2 : Option V, σ = [some (.ref a), some (.ref p), x2] ∧ Pen Hc p cs (40000 * i) ∧ Tabs tbT Hc) ⟨_, rfl, P1, T1⟩ ?_ ?_ ?_
  · intros
    trivial
  · rintro i x σ H0 H0' hi ⟨x2, rfl, P0, T0⟩ ⟨rfl, rfl⟩
    refine ⟨_, rfl, p, cs, _, rfl, P0, by omega, T0, fun H2 _ T2 P2 => ?_⟩
    refine ⟨_, rfl, ?_⟩
    refine ite2 (fun h => absurd h (by decide)) (fun _ => ?_)
    refine ⟨_, rfl, p, cs, _, rfl, P2, by omega, T2, fun H3 _ T3 P3 => ?_⟩
    refine ⟨_, rfl, ?_⟩
    refine ite2 (fun h => absurd h (by decide)) (fun _ => ?_)
    refine ⟨_, rfl, p, cs, _, rfl, P3, by omega, T3, fun H4 _ T4 P4 => ?_⟩
    refine ⟨_, rfl, ?_⟩
    refine ite2 (fun h => absurd h (by decide)) (fun _ => ?_)
    refine ⟨_, rfl, p, cs, _, rfl, P4, by omega, T4, fun H5 _ T5 P5 => ?_⟩
    refine ⟨_, rfl, ?_⟩
    refine ite2 (fun h => absurd h (by decide)) (fun _ => ?_)
    exact ⟨_, rfl, P5.mono (by omega), T5⟩
  · rintro σ Hc ⟨x2, rfl, _, _⟩
    exact k Hc
end
end Wk
namespace Wk
open PySem PySem.Spec PyProof.Rows L2 WkD WkN LamX WkP WkE WkC
section
variable {K : PySem.W.Frag} {h : Heap} {mg : Str → Option Value}
theorem def_of {x : Str} {d : WkJ.DefA} (X : K.In h) (G : h.Ns mainGlobals mg) (c : WkJ.Says fa da tf ex h K) (hd : d ∈ da) (hc : d.clo = []) (hg : He.Fa.glo x ∈ fa) (st : Stmt) (e : d = ⟨fun K => He.ga K x, x, x, defArgs st, defBody st, defScope st, [], [], []⟩) : Def K mg x st := by
  obtain ⟨fd, F⟩ := c.defs d hd
  have F := F.funD hc
  subst e
  exact ⟨_, fd, F, He.glo_ok X G (c.fact _ hg)⟩
theorem bi_of (X : K.In h) (G : h.Ns mainGlobals mg) (c : WkJ.Says fa da tf ex h K) : Bi mg :=
  ⟨He.free_ok X G (c.fact (.free "abs") (by simp [fa, fa2])), He.free_ok X G (c.fact (.free "all") (by simp [fa, fa2])), He.free_ok X G (c.fact (.free "any") (by simp [fa, fa2])), He.free_ok X G (c.fact (.free "bool") (by simp [fa, fa2])), He.free_ok X G (c.fact (.free "dict") (by simp [fa, fa2])), He.free_ok X G (c.fact (.free "enumerate") (by simp [fa, fa2])), He.free_ok X G (c.fact (.free "int") (by simp [fa, fa2])), He.free_ok X G (c.fact (.free "isinstance") (by simp [fa, fa2])), He.free_ok X G (c.fact (.free "len") (by simp [fa, fa2])), He.free_ok X G (c.fact (.free "list") (by simp [fa, fa2])), He.free_ok X G (c.fact (.free "max") (by simp [fa, fa2])), He.free_ok X G (c.fact (.free "min") (by simp [fa, fa2])), He.free_ok X G (c.fact (.free "range") (by simp [fa, fa2])), He.free_ok X G (c.fact (.free "repr") (by simp [fa, fa2])), He.free_ok X G (c.fact (.free "set") (by simp [fa, fa2])), He.free_ok X G (c.fact (.free "sorted") (by simp [fa, fa2])), He.free_ok X G (c.fact (.free "str") (by simp [fa, fa2])), He.free_ok X G (c.fact (.free "sum") (by simp [fa, fa2])), He.free_ok X G (c.fact (.free "tuple") (by simp [fa, fa2])), He.free_ok X G (c.fact (.free "zip") (by simp [fa, fa2])), He.free_ok X G (c.fact (.free "reversed") (by simp [fa, fa2])), He.free_ok X G (c.fact (.free "super") (by simp [fa, fa2])), He.free_ok X G (c.fact (.free "ValueError") (by simp [fa, fa2])), He.free_ok X G (c.fact (.free "LookupError") (by simp [fa, fa2])), He.free_ok X G (c.fact (.free "KeyError") (by simp [fa, fa2])), He.free_ok X G (c.fact (.free "IndexError") (by simp [fa, fa2])), He.free_ok X G (c.fact (.free "ArithmeticError") (by simp [fa, fa2])), He.free_ok X G (c.fact (.free "OverflowError") (by simp [fa, fa2])), He.free_ok X G (c.fact (.free "ZeroDivisionError") (by simp [fa, fa2])), He.free_ok X G (c.fact (.free "RuntimeError") (by simp [fa, fa2])), He.free_ok X G (c.fact (.free "TypeError") (by simp [fa, fa2]))⟩
theorem facts {w : World} {f : Addr} (X : K.In h) (G : h.Ns mainGlobals mg) (hfa : mg ("law" : Str) = some (.ref f)) (c : WkJ.Says fa da tf ex h K) : WkH.LawT PySem.Challenge.rw_weakcuts_k60_whole_great_networks w K CX0 10 63 "_law_script" mg f h := by
  have hx := c.ex
  obtain ⟨x_sm, hx⟩ := He.ba hx
  obtain ⟨x_cv, hx⟩ := He.ba hx
  obtain ⟨x_cw, hx⟩ := He.ba hx
  obtain ⟨x_mro, hx⟩ := He.ba hx
  obtain ⟨x_sup, hx⟩ := He.ba hx
  obtain ⟨x_fni, hx⟩ := He.ba hx
  obtain ⟨x_ifi, hx⟩ := He.ba hx
  obtain ⟨x_spb, hx⟩ := He.ba hx
  obtain ⟨x_icl, hx⟩ := He.ba hx
  obtain ⟨x_thi, hx⟩ := He.ba hx
  obtain ⟨x_gv, hx⟩ := He.ba hx
  obtain ⟨x_gw, hx⟩ := He.ba hx
  obtain ⟨x_mck, hx⟩ := He.ba hx
  obtain ⟨x_mac, hx⟩ := He.ba hx
  obtain ⟨x_mcv, hx⟩ := He.ba hx
  obtain ⟨x_msr, hx⟩ := He.ba hx
  obtain ⟨x_unk, hx⟩ := He.ba hx
  obtain ⟨x_ms_levels, hx⟩ := He.ba hx
  obtain ⟨x_ms_move, hx⟩ := He.ba hx
  obtain ⟨x_ms_advance, hx⟩ := He.ba hx
  obtain ⟨x_ms_run, hx⟩ := He.ba hx
  obtain ⟨x_ms_arcs, hx⟩ := He.ba hx
  obtain ⟨x_x_SameVertex, hx⟩ := He.ba hx
  obtain ⟨x_x_UnknownEdge, hx⟩ := He.ba hx
  obtain ⟨x_pp_strength, hx⟩ := He.ba hx
  obtain ⟨x_m_cores, hx⟩ := He.ba hx
  have B := bi_of X G c
  obtain ⟨tL, gL⟩ := He.str_ok X G (c.fact (.str "LETTERS" letS) (by simp [fa, fa3]))
  have gN := He.glo_ok X G (c.fact (.glo "Network") (by simp [fa, fa1]))
  have gG := He.glo_ok X G (c.fact (.glo "Graph") (by simp [fa, fa1]))
  have cls := He.cls_ok (c.fact (.cls "Network") (by simp [fa, fa3]))
  have nat : ∀ f, He.Fa.noat "Network" f ∈ fa → NoAttr K (He.ga K "Network") f := fun f hf => He.noat_ok (c.fact _ hf)
  have natG : ∀ f, He.Fa.noat "Graph" f ∈ fa → NoAttr K (He.ga K "Graph") f := fun f hf => He.noat_ok (c.fact _ hf)
  have gc : GCls K (He.ga K "Network") := ⟨cls, nat _ (by simp [fa, fa3]), nat _ (by simp [fa, fa3]), WkJ.conB_ok x_cv, WkJ.conB_ok x_cw⟩
  have gcG : GCls K (He.ga K "Graph") := ⟨He.cls_ok (c.fact (.cls "Graph") (by simp [fa, fa3])), natG _ (by simp [fa, fa3]), natG _ (by simp [fa, fa3]), WkJ.conB_ok x_gv, WkJ.conB_ok x_gw⟩
  have nc : NCls K (He.ga K "Network") (He.ga K "Network") (He.ma K (He.ga K "Graph") "__init__") := ⟨gc, nat _ (by simp [fa, fa3]), nat _ (by simp [fa, fa3]), nat _ (by simp [fa, fa3]), nat _ (by simp [fa, fa3]), nat _ (by simp [fa, fa3]), of_decide_eq_true x_mro, He.eqO_ok x_sup⟩
  obtain ⟨fd, F⟩ := c.defs d_law60 (by simp [da])
  have F := F.funD rfl
  have e := hfa.symm.trans (He.glo_ok X G (c.fact (.glo "law") (by simp [fa, fa1])))
  cases e
  have b := FunD.bindsA (ps := ["_law_script"]) F fun _ _ _ _ _ _ us hl => match us, hl with | [_], _ => rfl
  obtain ⟨tb, etb⟩ : ∃ tb, tb = [((He.cT K (("last_two", none) : He.Defn)).2, ("last_two.<locals>.<lambda>" : Str))] := ⟨_, rfl⟩
  refine ⟨fd, [He.cT K ("last_two", none)], spLawT K tb, fun p hp => ?_, fun p hp => ?_, fun p hp => ?_, fun s v => b s [v] rfl, fun H a ms hl eT sq => ⟨a, ms, rfl, sq, hl, ?_, fun _ => rfl⟩, fun base kb nb TB => ?_⟩
  · rw [List.mem_singleton.mp hp]
    exact c.emp _ (by simp [tf])
  · rw [List.mem_singleton.mp hp]
    exact c.out _ (by simp [tf])
  · rw [List.mem_singleton.mp hp]
    exact PySem.W.codeHd_of_K X (c.hd _ (by simp [tf]))
  · intro p hp
    rw [etb] at hp
    rw [List.mem_singleton.mp hp]
    exact TabS.nil (eT _ (by simp))
  have C_draw := c_draw (P := (PySem.Challenge.rw_weakcuts_k60_whole_great_networks).prog) (w := w) (base := base) (def_of X G c (d := d_draw) (by simp [da]) rfl (by simp [fa, fa1]) _ rfl) B
  have C_pick := c_pick (def_of X G c (d := d_pick) (by simp [da]) rfl (by simp [fa, fa1]) _ rfl) B C_draw
  have C_name := c_is_name (P := (PySem.Challenge.rw_weakcuts_k60_whole_great_networks).prog) (w := w) (base := base) (def_of X G c (d := d_is_name) (by simp [da]) rfl (by simp [fa, fa1]) _ rfl) B gL
  have C_tup := c_is_tuple_of (P := (PySem.Challenge.rw_weakcuts_k60_whole_great_networks).prog) (w := w) (base := base) (def_of X G c (d := d_is_tuple_of) (by simp [da]) rfl (by simp [fa, fa1]) _ rfl) B
  have C_bet := c_is_between (P := (PySem.Challenge.rw_weakcuts_k60_whole_great_networks).prog) (w := w) (base := base) (def_of X G c (d := d_is_between) (by simp [da]) rfl (by simp [fa, fa1]) _ rfl) B
  have C_join := c_can_join (def_of X G c (d := d_can_join) (by simp [da]) rfl (by simp [fa, fa1]) _ rfl) C_name
  have C_last : Callee (PySem.Challenge.rw_weakcuts_k60_whole_great_networks).prog w K mg base CX0 3 "last_two" ["rows"] (spLast tb) := c_last_two (def_of X G c (d := d_last_two) (by simp [da]) rfl (by simp [fa, fa1]) _ rfl) B (TB _ List.mem_cons_self) (by rw [etb]; simp) (fun p hp hq => by
      rw [etb] at hp
      rw [List.mem_singleton.mp hp]) fun f hf => by
    have e := hf.symm.trans (He.glo_ok X G (c.fact (.glo "last_two") (by simp [fa, fa1])))
    cases e
    refine WkJ.codeIs_of (p := ("last_two", none)) fun oc od fd osl lk => ?_
    obtain ⟨fd', F'⟩ := c.defs d_last_two (by simp [da])
    obtain ⟨oc', od', dV, kV, doc, pm, an, cdv, ct, osl', cl, e1, _, lk', cd, _⟩ := F'.ex
    have lk2 : K.lookup (He.fAd K ("last_two", none)) = some ⟨oc', od', .func fd', osl'⟩ := lk'
    rw [lk2] at lk
    cases lk
    rw [e1]
    exact cd
  have C_merge := c_merge_rows (P := (PySem.Challenge.rw_weakcuts_k60_whole_great_networks).prog) (w := w) (base := base) (def_of X G c (d := d_merge_rows) (by simp [da]) rfl (by simp [fa, fa1]) _ rfl)
  have C_side := c_side_of (P := (PySem.Challenge.rw_weakcuts_k60_whole_great_networks).prog) (w := w) (base := base) (def_of X G c (d := d_side_of) (by simp [da]) rfl (by simp [fa, fa1]) _ rfl) B
  have C_least := c_least_cut (def_of X G c (d := d_least_cut) (by simp [da]) rfl (by simp [fa, fa1]) _ rfl) B C_last C_merge C_side
  have C_str := c_strength_of (def_of X G c (d := d_strength_of) (by simp [da]) rfl (by simp [fa, fa1]) _ rfl) C_least
  have C_sort := c_sorted_rows (P := (PySem.Challenge.rw_weakcuts_k60_whole_great_networks).prog) (w := w) (base := base) (def_of X G c (d := d_sorted_rows) (by simp [da]) rfl (by simp [fa, fa1]) _ rfl) B
  have C_rea := c_reached (P := (PySem.Challenge.rw_weakcuts_k60_whole_great_networks).prog) (w := w) (base := base) (def_of X G c (d := d_reached) (by simp [da]) rfl (by simp [fa, fa1]) _ rfl) B
  have C_con := c_check_connected (def_of X G c (d := d_check_connected) (by simp [da]) rfl (by simp [fa, fa1]) _ rfl) B C_rea
  obtain ⟨fdG, FG⟩ := c.defs d_graph_init (by simp [da])
  have FG := FG.funD rfl
  have OG := ok_graph_init FG B C_name C_tup C_join C_bet C_con C_sort
  obtain ⟨fdN, FN⟩ := c.defs d_net_init (by simp [da])
  obtain ⟨hbd, cc, cda, ST⟩ := WkJ.supT_of (P := (PySem.Challenge.rw_weakcuts_k60_whole_great_networks).prog) (mg := mg) (ps := ["self", "vertices", "edges"]) (D := He.ga K "Network") FN rfl x_spb x_icl B.n_super (by decide +kernel) ⟨_, rfl, rfl⟩ (He.eqO_ok x_thi)
  have ON := ok_net_init (tbT := tb) ST hbd OG (FunD.bindsN FG (fun _ _ _ _ _ _ us hl => match us, hl with | [_, _, _], _ => rfl)) x_fni x_ifi C_str
  obtain ⟨fdc, Fc⟩ := c.defs d_ck (by simp [da])
  obtain ⟨fda, Fa⟩ := c.defs d_accept (by simp [da])
  obtain ⟨fdk, Fk⟩ := c.defs d_check_vertex (by simp [da])
  obtain ⟨fds, Fs⟩ := c.defs d_set_root (by simp [da])
  obtain ⟨fdu, Fu⟩ := c.defs d_unk_init (by simp [da])
  have Fc := Fc.funD rfl
  have Fa := Fa.funD rfl
  have Fk := Fk.funD rfl
  have Fs := Fs.funD rfl
  have TU : WkX.ExcT K mg "UnknownVertex" "value" (He.ga K "UnknownVertex") (He.ma K (He.ga K "UnknownVertex") "__init__") := WkX.excT_mk (He.glo_ok X G (c.fact (.glo "UnknownVertex") (by simp [fa, fa1]))) x_unk PySem.F.excBase_LookupError WkX.tK WkX.pK WkX.oK WkX.f_value (WkJ.initA_of Fu rfl)
  have GM : MakeC (PySem.Challenge.rw_weakcuts_k60_whole_great_networks).prog w K mg base CX0 (He.ga K "Graph") "Graph" 3 (spGraph K) := ⟨_, _, _, He.mkr_ok (c.fact (.mkr "Graph") (by simp [fa, fa3])), OG, gG, FunD.bindsN FG (fun _ _ _ _ _ _ us hl => match us, hl with | [_, _, _], _ => rfl)⟩
  have C_gof := c_graph_of (def_of X G c (d := d_graph_of) (by simp [da]) rfl (by simp [fa, fa1]) _ rfl) B gcG GM
  have AK : AccC (PySem.Challenge.rw_weakcuts_k60_whole_great_networks).prog w K mg base (He.ga K "Network") := ⟨nc.f, ⟨_, _, _, WkJ.methB_ok x_mck, ok_ck Fc, FunD.bindsN Fc (fun _ _ _ _ _ _ us hl => match us, hl with | [_, _], _ => rfl)⟩⟩
  have MA : MethC (PySem.Challenge.rw_weakcuts_k60_whole_great_networks).prog w K mg base CX0 (He.ga K "Network") "accept" 6 (spAccept K tb (He.ga K "Network")) := ⟨_, _, _, WkJ.methB_ok x_mac, ok_accept Fa gcG AK C_gof C_str, FunD.bindsN Fa (fun _ _ _ _ _ _ us hl => match us, hl with | [_, _, _, _], _ => rfl)⟩
  have MV : MethC (PySem.Challenge.rw_weakcuts_k60_whole_great_networks).prog w K mg base (CX (PySem.Challenge.rw_weakcuts_k60_whole_great_networks).prog w) (He.ga K "Network") "check_vertex" 2 (spCheck K (He.ga K "UnknownVertex")) := ⟨_, _, _, WkJ.methB_ok x_mcv, ok_check_vertex Fk TU C_name, FunD.bindsN Fk (fun _ _ _ _ _ _ us hl => match us, hl with | [_, _], _ => rfl)⟩
  have MS : MethC (PySem.Challenge.rw_weakcuts_k60_whole_great_networks).prog w K mg base (CX (PySem.Challenge.rw_weakcuts_k60_whole_great_networks).prog w) (He.ga K "Network") "set_root" 7 (spSetRoot K tb (He.ga K "Network") (He.ga K "UnknownVertex")) := ⟨_, _, _, WkJ.methB_ok x_msr, ok_set_root Fs AK MV MA, FunD.bindsN Fs (fun _ _ _ _ _ _ us hl => match us, hl with | [_, _], _ => rfl)⟩
  have MN : MakeC (PySem.Challenge.rw_weakcuts_k60_whole_great_networks).prog w K mg base CX0 (He.ga K "Network") "Network" 6 (spNet K tb (He.ga K "Network") (He.ma K (He.ga K "Graph") "__init__")) := ⟨_, _, _, He.mkr_ok (c.fact (.mkr "Network") (by simp [fa, fa3])), ON, gN, FN.binds rfl (fun _ _ _ _ _ _ _ us hl => match us, hl with | [_, _, _], _ => rfl)⟩
  have C_wts := c_weights (def_of X G c (d := d_weights) (by simp [da]) rfl (by simp [fa, fa1]) _ rfl) C_draw
  have gS := He.glo_ok X G (c.fact (.glo "Search") (by simp [fa, fa1]))
  have natS : ∀ f, He.Fa.noat "Search" f ∈ fa → NoAttr K (He.ga K "Search") f := fun f hf => He.noat_ok (c.fact _ hf)
  have SC : SCls K (He.ga K "Search") := ⟨He.cls_ok (c.fact (.cls "Search") (by simp [fa, fa3])), natS _ (by simp [fa, fa3]), natS _ (by simp [fa, fa3]), natS _ (by simp [fa, fa3]), natS _ (by simp [fa, fa3])⟩
  obtain ⟨fds1, Fs1⟩ := c.defs d_sea_init (by simp [da])
  obtain ⟨fds2, Fs2⟩ := c.defs d_sea_levels (by simp [da])
  obtain ⟨fds3, Fs3⟩ := c.defs d_sea_move (by simp [da])
  obtain ⟨fds4, Fs4⟩ := c.defs d_sea_advance (by simp [da])
  obtain ⟨fds5, Fs5⟩ := c.defs d_sea_run (by simp [da])
  have Fs1 := Fs1.funD rfl
  have Fs2 := Fs2.funD rfl
  have Fs3 := Fs3.funD rfl
  have Fs4 := Fs4.funD rfl
  have Fs5 := Fs5.funD rfl
  have SM : MakeC (PySem.Challenge.rw_weakcuts_k60_whole_great_networks).prog w K mg base CX0 (He.ga K "Search") "Search" 1 (spSea K) := ⟨_, _, _, He.mkr_ok (c.fact (.mkr "Search") (by simp [fa, fa3])), ok_sea_init Fs1, gS, FunD.bindsN Fs1 (fun _ _ _ _ _ _ us hl => match us, hl with | [_, _, _, _], _ => rfl)⟩
  have ML : MethC (PySem.Challenge.rw_weakcuts_k60_whole_great_networks).prog w K mg base CX0 (He.ga K "Search") "levels" 1 (spLev K) := ⟨_, _, _, WkJ.methB_ok x_ms_levels, ok_sea_levels B Fs2, FunD.bindsN Fs2 (fun _ _ _ _ _ _ us hl => match us, hl with | [_], _ => rfl)⟩
  have MM : MethC (PySem.Challenge.rw_weakcuts_k60_whole_great_networks).prog w K mg base CX0 (He.ga K "Search") "move" 1 (spMove K) := ⟨_, _, _, WkJ.methB_ok x_ms_move, ok_sea_move B Fs3, FunD.bindsN Fs3 (fun _ _ _ _ _ _ us hl => match us, hl with | [_, _, _], _ => rfl)⟩
  have MAd : MethC (PySem.Challenge.rw_weakcuts_k60_whole_great_networks).prog w K mg base CX0 (He.ga K "Search") "advance" 2 (fun vs H Q E => spAdv K vs H Q E ∧ ∃ x dx fs, vs.head? = some (.ref x) ∧ H x = some (.ins (He.ga K "Search") dx fs)) := ⟨_, _, _, WkJ.methB_ok x_ms_advance, ok_sea_advance B SC Fs4 MM, FunD.bindsN Fs4 (fun _ _ _ _ _ _ us hl => match us, hl with | [_, _, _], _ => rfl)⟩
  obtain ⟨dsr, vdr, bdr⟩ := FunD.binds1 (ps := ["self", "limit"]) Fs5 1 0 (fun z => nomatch z) rfl fun T kV doc pm an cdv ct us its h1 h2 => match us, its, h1, h2 with
    | [_], [_], _, _ => ⟨_, rfl, rfl⟩
  have MRn : WkV.MethD (PySem.Challenge.rw_weakcuts_k60_whole_great_networks).prog w K mg base CX0 (He.ga K "Search") "run" 3 (spRun K (He.ga K "Search")) [.non] := ⟨_, _, _, _, WkJ.methB_ok x_ms_run, ok_sea_run B SC Fs5 ML MAd, bdr, vdr⟩
  obtain ⟨fds6, Fs6⟩ := c.defs d_sea_arcs (by simp [da])
  have Fs6 := Fs6.funD rfl
  have MAr : MethC (PySem.Challenge.rw_weakcuts_k60_whole_great_networks).prog w K mg base CX0 (He.ga K "Search") "arcs" 1 (spArcs K) := ⟨_, _, _, WkJ.methB_ok x_ms_arcs, ok_sea_arcs Fs6, FunD.bindsN Fs6 (fun _ _ _ _ _ _ us hl => match us, hl with | [_], _ => rfl)⟩
  obtain ⟨fd_TS, F_TS⟩ := c.defs d_init_samevertex (by simp [da])
  have TS : WkX.ExcT K mg "SameVertex" "value" (He.ga K "SameVertex") (He.ma K (He.ga K "SameVertex") "__init__") := WkX.excT_mk (He.glo_ok X G (c.fact (.glo "SameVertex") (by simp [fa, fa1]))) x_x_SameVertex PySem.F.excBase_ValueError WkX.tV WkX.pV WkX.oV WkX.f_value (WkJ.initA_of F_TS rfl)
  obtain ⟨fd_TE, F_TE⟩ := c.defs d_init_unknownedge (by simp [da])
  have TE : WkX.ExcT K mg "UnknownEdge" "value" (He.ga K "UnknownEdge") (He.ma K (He.ga K "UnknownEdge") "__init__") := WkX.excT_mk (He.glo_ok X G (c.fact (.glo "UnknownEdge") (by simp [fa, fa1]))) x_x_UnknownEdge PySem.F.excBase_LookupError WkX.tK WkX.pK WkX.oK WkX.f_value (WkJ.initA_of F_TE rfl)
  have gR := He.glo_ok X G (c.fact (.glo "Rows") (by simp [fa, fa1]))
  obtain ⟨fdr, Fr⟩ := c.defs d_rows_init (by simp [da])
  have Fr := Fr.funD rfl
  have RC : RwCls K (He.ga K "Rows") := ⟨He.cls_ok (c.fact (.cls "Rows") (by simp [fa, fa3])), He.noat_ok (c.fact (.noat "Rows" "around") (by simp [fa, fa3])), He.noat_ok (c.fact (.noat "Rows" "top") (by simp [fa, fa3]))⟩
  have RM : MakeC (PySem.Challenge.rw_weakcuts_k60_whole_great_networks).prog w K mg base CX0 (He.ga K "Rows") "Rows" 1 (spRowsI (K := K)) := ⟨_, _, _, He.mkr_ok (c.fact (.mkr "Rows") (by simp [fa, fa3])), ok_rows_init Fr, gR, FunD.bindsN Fr (fun _ _ _ _ _ _ us hl => match us, hl with | [_, _, _], _ => rfl)⟩
  obtain ⟨fdp, Fp⟩ := c.defs d_pstrength (by simp [da])
  have Fp := Fp.funD rfl
  have PF : PropC (PySem.Challenge.rw_weakcuts_k60_whole_great_networks).prog w K mg base CX0 (He.ga K "Network") "strength" 1 (spFound (He.ga K "Network")) := ⟨_, _, _, _, WkJ.propB_ok x_pp_strength, ok_pstrength Fp nc.f, FunD.bindsN Fp (fun _ _ _ _ _ _ us hl => match us, hl with | [_], _ => rfl)⟩
  have C_cp := c_check_pair (def_of X G c (d := d_check_pair) (by simp [da]) rfl (by simp [fa, fa1]) _ rfl) TS nc.f MV
  have C_ps := c_pair_strength (def_of X G c (d := d_pair_strength) (by simp [da]) rfl (by simp [fa, fa1]) _ rfl) C_cp SC SM MRn
  have C_sd := c_side_of_d (P := (PySem.Challenge.rw_weakcuts_k60_whole_great_networks).prog) (w := w) (base := base) (def_of X G c (d := d_side_of) (by simp [da]) rfl (by simp [fa, fa1]) _ rfl) B
  have C_cu := c_pair_cut (def_of X G c (d := d_pair_cut) (by simp [da]) rfl (by simp [fa, fa1]) _ rfl) SC SM MRn ML MAr C_sd
  have C_ce := c_check_edge (def_of X G c (d := d_check_edge) (by simp [da]) rfl (by simp [fa, fa1]) _ rfl) TE nc.f MV
  have C_sk := c_slack (def_of X G c (d := d_slack) (by simp [da]) rfl (by simp [fa, fa1]) _ rfl) B C_ce C_cu C_str
  have C_tr := c_cut_tree (def_of X G c (d := d_cut_tree) (by simp [da]) rfl (by simp [fa, fa1]) _ rfl) B SC SM MRn ML
  have C_cs := c_cores_of (def_of X G c (d := d_cores_of) (by simp [da]) rfl (by simp [fa, fa1]) _ rfl) B C_tr
  obtain ⟨fdm, Fm⟩ := c.defs d_cores_m (by simp [da])
  have Fm := Fm.funD rfl
  have MC : MethC (PySem.Challenge.rw_weakcuts_k60_whole_great_networks).prog w K mg base CX0 (He.ga K "Network") "cores" 6 (spCores K) := ⟨_, _, _, WkJ.methB_ok x_m_cores, ok_cores_m Fm C_cs, FunD.bindsN Fm (fun _ _ _ _ _ _ us hl => match us, hl with | [_], _ => rfl)⟩
  have C_ra := c_raised (def_of X G c (d := d_raised) (by simp [da]) rfl (by simp [fa, fa1]) _ rfl) B RC RM
  have C_rb := c_role_by (def_of X G c (d := d_role_by) (by simp [da]) rfl (by simp [fa, fa1]) _ rfl) B C_ra C_str
  have C_rl := c_role (def_of X G c (d := d_role) (by simp [da]) rfl (by simp [fa, fa1]) _ rfl) B C_ce C_cu C_str C_rb
  have C_shuf := c_shuffled (def_of X G c (d := d_shuffled) (by simp [da]) rfl (by simp [fa, fa1]) _ rfl) B C_draw
  have C_wd := c_words60 (def_of X G c (d := d_words60) (by simp [da]) rfl (by simp [fa, fa1]) _ rfl) B C_shuf
  have C_bt := c_built60 (def_of X G c (d := d_built60) (by simp [da]) rfl (by simp [fa, fa1]) _ rfl) B nc MN MS C_shuf C_pick
  have C_rw := c_rword60 (P := (PySem.Challenge.rw_weakcuts_k60_whole_great_networks).prog) (w := w) (base := base) (def_of X G c (d := d_rword60) (by simp [da]) rfl (by simp [fa, fa1]) _ rfl) B
  have C_r1 := c_ring60 (def_of X G c (d := d_ring60) (by simp [da]) rfl (by simp [fa, fa1]) _ rfl) B nc.f PF MC C_wd C_draw C_wts C_pick C_shuf C_bt C_ps C_rl C_sk C_rw
  have C_r2 := c_complete60 (def_of X G c (d := d_complete60) (by simp [da]) rfl (by simp [fa, fa1]) _ rfl) B nc.f PF MC C_wd C_draw C_wts C_pick C_shuf C_bt C_ps C_rl C_sk C_rw
  have C_r3 := c_star60 (WkG.smB_ok x_sm) (def_of X G c (d := d_star60) (by simp [da]) rfl (by simp [fa, fa1]) _ rfl) B nc.f PF MC C_wd C_draw C_wts C_pick C_shuf C_bt C_ps C_rl C_sk C_rw
  have C_r4 := c_chain60 (WkG.smB_ok x_sm) (def_of X G c (d := d_chain60) (by simp [da]) rfl (by simp [fa, fa1]) _ rfl) B nc.f PF MC C_wd C_draw C_wts C_pick C_shuf C_bt C_ps C_rl C_sk C_rw
  exact ok_law F B (c_pen (def_of X G c (d := d_pen) (by simp [da]) rfl (by simp [fa, fa1]) _ rfl) B) C_r1 C_r2 C_r3 C_r4
end
end Wk
open PySem PySem.W PySem.Calls PyProof.Rows
set_option maxHeartbeats 0 in
theorem PySem.Challenge.cw_weakcuts_k60_whole_great_networks_holds : PySem.Challenge.rw_weakcuts_k60_whole_great_networks.Holds := by
  w_on; o_law
  refine HandSHeadRun.head_any (r := OpenLaw.row PySem.Challenge.rw_weakcuts_k60_whole_great_networks) (q := view (OpenLaw.row PySem.Challenge.rw_weakcuts_k60_whole_great_networks).prog [56]) (H := Wk.hk) (ob := Wk.ob) (M := 20000) (loose := Wk.loose) (d := HandSHeadRun.topDef (OpenLaw.row PySem.Challenge.rw_weakcuts_k60_whole_great_networks).prog 56) (kwd := []) Wk.ob_eq
    (by kernel_rfl) (fun s => by kernel_rfl) Wk.run (by kernel_rfl) (by kernel_rfl) (by kernel_rfl) (by rfl) (by first | assumption | decide +kernel) (by decide +kernel) ⟨rfl, rfl, rfl, rfl, rfl, by decide +kernel⟩ ?hw ?hc
  case hw => w_witness2
  case hc =>
    refine WkH.walk_GT (l := PySem.Challenge.rw_weakcuts_k60_whole_great_networks) (n := 63) (k := 10) (x := "_law_script") (CX := fun _ => L2.CX0) rfl (by decide) (by kernel_rfl) ⟨rfl, by decide, by decide⟩ ?F (fun _ _ _ _ _ z => z)
    intro w mg fa h Y G hmg0
    obtain ⟨K, KX, c⟩ := Y
    have hmg : mg ("law" : PySem.Str) = some (.ref fa) := by
      have e : (HandSHeadRun.topDef (OpenLaw.row PySem.Challenge.rw_weakcuts_k60_whole_great_networks).prog 56).name = ("law" : PySem.Str) := by kernel_rfl
      rw [← e]
      exact hmg0
    exact ⟨K, KX, Wk.facts (w := w) KX G hmg c⟩
