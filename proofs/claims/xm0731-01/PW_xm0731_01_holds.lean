import PyProof.Rows.All
import Wide.All
import OpenK.AllK
import Wide.FinOn
import PySem.Challenge.RW_xm0731_01
set_option Elab.async false
set_option maxRecDepth 100000
namespace Mine
section
open PySem PySem.W PyProof.Rows
set_option maxHeartbeats 8000000
/-- the run of the top over a tree -/
noncomputable def runT (tb : String → Option Builtin) (p : Program) (w : World) (n₀ : Nat) (ann : Option Value) : Nat → SharedT → Thread → Option SharedT
  | 0, _, _ => none
  | n + 1, s, t => match through t with
    | true => some s
    | false => match Fast.tw6613529449190102663 n₀ ann t with
      | false => none
      | true => match Fast.tw10156331382660048174 (Fast.tw11892475500146522536 tb) p w s t with
        | some (s', t') => runT tb p w n₀ ann n s' t'
        | none => none
theorem runT_spec {tb : String → Option Builtin} {p : Program} {w : World} {n₀ : Nat} {ann : Option Value} : ∀ {n : Nat} {s r : SharedT} {t : Thread}, runT tb p w n₀ ann n s t = some r → topRun tb p w n₀ ann n s.abs t = some r.abs
  | 0, _, _, _, h => by cases h
  | n + 1, s, r, t, h => by
    unfold runT at h
    unfold topRun
    rw [← Fast.te6613529449190102663, ← Fast.te10156331382660048174, ← Fast.te11892475500146522536] at h
    cases ht : through t with
    | true => rw [ht] at h; cases h; rfl
    | false =>
      rw [ht] at h
      cases hk : stepOk n₀ ann t with
      | false => rw [hk] at h; cases h
      | true =>
        rw [hk] at h
        cases hs : stepT (denote tb) p w s t with
        | none => rw [hs] at h; cases h
        | some x => obtain ⟨s₂, t₂⟩ := x; rw [hs] at h; rw [stepT_spec hs]; exact runT_spec h
noncomputable def btOf : List Obj → Nat → BT → BT
  | [], _, t => t
  | o :: l, n, t => btOf l (n + 1) (t.ins n o)
noncomputable def sT (P : Params) (os : OsState) : SharedT := ⟨btOf (boot_heap P).objs.toList 0 .nil, 11, (boot_heap P).life, #[], boot_drawn, boot_toks, os⟩
theorem sT_abs (P : Params) (os : OsState) : (sT P os).abs = ⟨boot_heap P, #[], boot_drawn, boot_toks, os⟩ := by
  kernel_rfl
theorem left_tree {p q : Program} {loose : List Str} {Xt : Shared → Bool} {α : Type} {Yf : Shared → α} {Ya : World → α} {N M : Nat}
    (e : opening p = plainProg p.main.scope.names) (hN : Nat.ble 600 N = true) (f : ∀ s, fenceModules? p s = some s)
    (size : ∀ w : World, ((boot_heap w.params).isNs mainGlobals, (boot_heap w.params).objs.size, (boot_heap w.params).nsMap mainGlobals "__annotations__") = (true, 11, some (.ref 6)))
    (le : Nat.ble M N = true)
    (a1 : ∀ (w : World) (os : OsState), (runT Fast.tw14364793385576792824 p w 11 (some (.ref 6)) M (sT w.params os) (topStub p)).map (fun s => staticsOk (importedModules p.main.body) (boot_heap w.params) s.abs.heap && namesBound p s.abs.heap && gensDone s.abs && laidKept (boot_heap w.params) s.abs.heap) = some true)
    (b1 : ∀ (w : World) (os : OsState), (runT Fast.tw14364793385576792824 p w 11 (some (.ref 6)) M (sT w.params os) (topStub p)).map (fun s => ((Fast.tw4187177175401517315 q loose (importedModules p.main.body) Xt true s.abs).1, (Fast.tw4187177175401517315 q loose (importedModules p.main.body) Xt true s.abs).2.1, (Fast.tw4187177175401517315 q loose (importedModules p.main.body) Xt true s.abs).2.2.2.2.1)) = some (expectedOf q, bltViewBooted, pinGoodD (drecsOf q)))
    (b2 : ∀ (w : World) (os : OsState), (runT Fast.tw14364793385576792824 p w 11 (some (.ref 6)) M (sT w.params os) (topStub p)).map (fun s => ((Fast.tw4187177175401517315 q loose (importedModules p.main.body) Xt true s.abs).2.2.1, (Fast.tw4187177175401517315 q loose (importedModules p.main.body) Xt true s.abs).2.2.2.1)) = some (true, true))
    (b3 : ∀ (w : World) (os : OsState), (runT Fast.tw14364793385576792824 p w 11 (some (.ref 6)) M (sT w.params os) (topStub p)).map (fun s => (Fast.tw4187177175401517315 q loose (importedModules p.main.body) Xt true s.abs).2.2.2.2.2.1) = some (plainGoodE q (looseW q loose)))
    (b4 : ∀ (w : World) (os : OsState), (runT Fast.tw14364793385576792824 p w 11 (some (.ref 6)) M (sT w.params os) (topStub p)).map (fun s => ((Fast.tw4187177175401517315 q loose (importedModules p.main.body) Xt true s.abs).2.2.2.2.2.2.1, (Fast.tw4187177175401517315 q loose (importedModules p.main.body) Xt true s.abs).2.2.2.2.2.2.2.1, (Fast.tw4187177175401517315 q loose (importedModules p.main.body) Xt true s.abs).2.2.2.2.2.2.2.2)) = some (plainGoodD q loose, wideGood q, clsGoodW q loose))
    (a3 : ∀ (w : World) (os : OsState), (runT Fast.tw14364793385576792824 p w 11 (some (.ref 6)) M (sT w.params os) (topStub p)).map (fun s => Yf s.abs) = some (Ya w)) : LeftO p q loose Xt Yf Ya N := fun w => by
  rw [← Fast.te14364793385576792824] at a1 b1 b2 b3 b4 a3
  rw [← Fast.te4187177175401517315] at b1 b2 b3 b4
  obtain ⟨⟨h, gs, d, k, os⟩, e1, e2⟩ := Option.map_eq_some_iff.mp (boot_open e hN f w)
  obtain ⟨rfl, rfl, rfl, rfl⟩ : h = boot_heap w.params ∧ gs = #[] ∧ d = boot_drawn ∧ k = boot_toks := by simpa using e2
  obtain ⟨z1, z2, z3⟩ : _ ∧ _ ∧ _ := by simpa only [Prod.mk.injEq] using size w
  obtain ⟨s, r, l1⟩ := Option.map_eq_some_iff.mp (a1 w os)
  have g1 := b1 w os
  have g2 := b2 w os
  have g3 := b3 w os
  have g4 := b4 w os
  have l3 := a3 w os
  rw [r] at g1 g2 g3 g4 l3
  replace g1 := Option.some.inj g1
  replace g2 := Option.some.inj g2
  replace g3 := Option.some.inj g3
  replace g4 := Option.some.inj g4
  replace l3 := Option.some.inj l3
  obtain ⟨c0, c1, c4⟩ : _ ∧ _ ∧ _ := by simpa only [Prod.mk.injEq] using g1
  obtain ⟨c2, c3⟩ : _ ∧ _ := by simpa only [Prod.mk.injEq] using g2
  obtain ⟨c6, c7, c8⟩ : _ ∧ _ ∧ _ := by simpa only [Prod.mk.injEq] using g4
  have l2 : openSeen q loose (importedModules p.main.body) Xt true s.abs = openGood q loose :=
    Prod.ext c0 (Prod.ext c1 (Prod.ext c2 (Prod.ext c3 (Prod.ext c4 (Prod.ext g3 (Prod.ext c6 (Prod.ext c7 c8)))))))
  have t := topRun_mono (N - M) _ _ _ _ (runT_spec r)
  rw [show M + (N - M) = N by have := Nat.le_of_ble_eq_true le; omega, sT_abs] at t
  unfold openEnds
  rw [e1]
  show (topFrom treeTable p w N _).map _ = _
  have t2 : topFrom treeTable p w N ⟨boot_heap w.params, #[], boot_drawn, boot_toks, os⟩ = some s.abs := by
    unfold topFrom
    dsimp only
    rw [z1, z2, z3, t]
    show (match staticsOk (importedModules p.main.body) (boot_heap w.params) s.abs.heap && namesBound p s.abs.heap && gensDone s.abs && laidKept (boot_heap w.params) s.abs.heap with | true => some s.abs | false => none) = _
    rw [l1]
  rw [t2]
  exact congrArg some (Prod.ext l2 l3)
/-- the statements of the top that are looked at -/
def kept : List Nat := [1, 2, 3, 4, 5, 7, 8, 9, 11, 12, 13, 14, 15, 17, 18, 19, 20, 22, 23, 24, 25, 27, 28, 29, 30, 31, 32, 33, 34, 35]
def view : Program := { PySem.Challenge.pw_xm0731_01 with main := { PySem.Challenge.pw_xm0731_01.main with body := kept.filterMap fun i => PySem.Challenge.pw_xm0731_01.main.body[i]? } }
abbrev loose2 : List Str := [Str.ofString "MOST_VALUE", Str.ofString "fraction"]
abbrev read2 : List (Str × WData) := [(Str.ofString "MOST_VALUE", WData.int 1000000000000000000000000000000000000000000000000000000000000)]
abbrev rr : OpenRow := PySem.Challenge.rw_xm0731_01.row
abbrev pp : Program := PySem.Challenge.pw_xm0731_01
abbrev extra (s : Shared) : Bool := xlAt view read2 s && recOk (RowW.records rr.toRowW) s
theorem ran_ok (w : World) (os : OsState) : (runT Fast.tw14364793385576792824 pp w 11 (some (.ref 6)) 2400 (sT w.params os) (topStub pp)).map (fun s => staticsOk (importedModules pp.main.body) (boot_heap w.params) s.abs.heap && namesBound pp s.abs.heap && gensDone s.abs && laidKept (boot_heap w.params) s.abs.heap) = some true := by kernel_rfl
theorem seen_1 (w : World) (os : OsState) : (runT Fast.tw14364793385576792824 pp w 11 (some (.ref 6)) 2400 (sT w.params os) (topStub pp)).map (fun s => ((Fast.tw4187177175401517315 view loose2 (importedModules pp.main.body) extra true s.abs).1, (Fast.tw4187177175401517315 view loose2 (importedModules pp.main.body) extra true s.abs).2.1, (Fast.tw4187177175401517315 view loose2 (importedModules pp.main.body) extra true s.abs).2.2.2.2.1)) = some (expectedOf view, bltViewBooted, pinGoodD (drecsOf view)) := by kernel_rfl
theorem seen_2 (w : World) (os : OsState) : (runT Fast.tw14364793385576792824 pp w 11 (some (.ref 6)) 2400 (sT w.params os) (topStub pp)).map (fun s => ((Fast.tw4187177175401517315 view loose2 (importedModules pp.main.body) extra true s.abs).2.2.1, (Fast.tw4187177175401517315 view loose2 (importedModules pp.main.body) extra true s.abs).2.2.2.1)) = some (true, true) := by kernel_rfl
theorem seen_3 (w : World) (os : OsState) : (runT Fast.tw14364793385576792824 pp w 11 (some (.ref 6)) 2400 (sT w.params os) (topStub pp)).map (fun s => (Fast.tw4187177175401517315 view loose2 (importedModules pp.main.body) extra true s.abs).2.2.2.2.2.1) = some (plainGoodE view (looseW view loose2)) := by kernel_rfl
theorem seen_4 (w : World) (os : OsState) : (runT Fast.tw14364793385576792824 pp w 11 (some (.ref 6)) 2400 (sT w.params os) (topStub pp)).map (fun s => ((Fast.tw4187177175401517315 view loose2 (importedModules pp.main.body) extra true s.abs).2.2.2.2.2.2.1, (Fast.tw4187177175401517315 view loose2 (importedModules pp.main.body) extra true s.abs).2.2.2.2.2.2.2.1, (Fast.tw4187177175401517315 view loose2 (importedModules pp.main.body) extra true s.abs).2.2.2.2.2.2.2.2)) = some (plainGoodD view loose2, wideGood view, clsGoodW view loose2) := by kernel_rfl
theorem open_tree {d : DefRec} {kwd : List (Str × PySem.Expr)} (H : Hook) (a3 : ∀ (w : World) (os : OsState), (runT Fast.tw14364793385576792824 pp w 11 (some (.ref 6)) 2400 (sT w.params os) (topStub pp)).map (fun s => H.obs s.abs) = some (H.val w))
    (hdef : defOf view rr.name = some (d, kwd)) (hp : rr.prog.theDef rr.name = some (d.params, d.body, d.scope)) (hk : kwWritten? d.params.kwonlyargs d.params.kw_defaults = some kwd) (k1 : rr.wellSaid = true) (hw : rr.toRowW.promised)
    (hc : WalkO view loose2 (XL view read2) H.says rr.toRowW d kwd fun f vs => PySem.call f vs) : rr.Holds :=
  holds_open (q := view) (loose := loose2) (Xt := extra) (XP := XL view read2) (Yf := H.obs) (Ya := H.val) (YP := H.says) (N := 2400)
    (left_tree (M := 2400) (by kernel_rfl) rfl (fun _ => rfl) (fun w => by kernel_rfl) rfl ran_ok seen_1 seen_2 seen_3 seen_4 a3) H.of H.keeps
    (fun s e => xl_of s (Bool.and_eq_true_iff.mp e).1) XL.keeps hdef hp hk (fun s e => recFacts_of (Bool.and_eq_true_iff.mp e).2) (by rfl) k1 (by decide +kernel) ⟨rfl, rfl, rfl, rfl, rfl, by decide +kernel⟩ hw hc
theorem said_twin : Fast.tw9446332074065402090 PySem.Challenge.rw_xm0731_01 = true := by
  delta Fast.tw9446332074065402090
  simp only [Bool.and_eq_true]
  repeat' apply And.intro
  all_goals decide +kernel
theorem said_ok : OpenLaw.wellSaid PySem.Challenge.rw_xm0731_01 = true := by rw [Fast.te9446332074065402090]; exact said_twin
local macro_rules | `(tactic| o_law) => `(tactic| refine holds_law said_ok fun said => ?_)
local macro_rules | `(tactic| o_head $H:term) => `(tactic| refine open_tree $H (fun _ _ => by kernel_rfl) (by rfl) (by rfl) (by rfl) (by assumption) ?hw ?hc)
open_top hd for PySem.Challenge.rw_xm0731_01
end
open PySem PySem.W PyProof.Rows PySem.Calls PySem.Spec
set_option maxHeartbeats 4000000
theorem off_base : True := by
  w_top off
  k_with_none
  trivial
section
noncomputable abbrev theLoose : List Str := [Str.ofString "MOST_VALUE", Str.ofString "fraction"]
abbrev Led := List (Addr × Obj)

/-- the dict of a scanner -/
noncomputable abbrev scD (h1 h2 : Int) (k1 k2 t1 t2 : Tok) (T : Str) (p : Int) : Obj :=
  dictOf [⟨h1, .str "text" k1, .str T t1⟩, ⟨h2, .str "at" k2, .int p t2⟩] 2

def Halt (P : Prop) : Prop := P
theorem Halt.mk {P : Prop} (h : P) : Halt P := h
theorem Halt.out {P : Prop} (h : Halt P) : P := h

theorem fr_of1 {g h : Heap} {L : Addr} {k : Str} {v : Value} (F : Fr g L h (fun y => List.lookup y [(k, v)])) :
    Fr g L h (fun y => if y = k then some v else none) := by
  have e : (fun y => List.lookup y [(k, v)]) = (fun y : Str => if y = k then some v else none) := by
    funext y
    by_cases hy : y = k
    · subst hy; simp [List.lookup]
    · have : (y == k) = false := by simpa using hy
      simp [List.lookup, this, hy]
  rw [e] at F; exact F
theorem lk_cons {k : Str} {v : Value} {l : List (Str × Value)} (y : Str) : List.lookup y ((k, v) :: l) = if y = k then some v else List.lookup y l := by
  by_cases hy : y = k
  · subst hy; simp [List.lookup]
  · have : (y == k) = false := by simpa using hy
    simp [List.lookup, this, hy]
theorem fr_of2 {g h : Heap} {L : Addr} {k k2 : Str} {v v2 : Value} (F : Fr g L h (fun y => List.lookup y [(k2, v2), (k, v)])) :
    Fr g L h (fun y => if y = k2 then some v2 else if y = k then some v else none) := by
  have e : (fun y => List.lookup y [(k2, v2), (k, v)]) = (fun y : Str => if y = k2 then some v2 else if y = k then some v else none) := by
    funext y
    rw [lk_cons, lk_cons]; rfl
  rw [e] at F; exact F
theorem fr_of3 {g h : Heap} {L : Addr} {k k2 k3 : Str} {v v2 v3 : Value} (F : Fr g L h (fun y => List.lookup y [(k3, v3), (k2, v2), (k, v)])) :
    Fr g L h (fun y => if y = k3 then some v3 else if y = k2 then some v2 else if y = k then some v else none) := by
  have e : (fun y => List.lookup y [(k3, v3), (k2, v2), (k, v)]) = (fun y : Str => if y = k3 then some v3 else if y = k2 then some v2 else if y = k then some v else none) := by
    funext y
    rw [lk_cons, lk_cons, lk_cons]; rfl
  rw [e] at F; exact F

theorem lt_1 {l : Led} {a c : Addr} {o : Obj} (h : ∀ q ∈ l, q.1 < a) (hq : (c, o) ∈ l) : @Ne Nat a c := Nat.ne_of_gt (h _ hq)
theorem lt_2 {l : Led} {a c : Addr} {o : Obj} (h : ∀ q ∈ l, q.1 < a) (hq : (c, o) ∈ l) : @Ne Nat c a := Nat.ne_of_lt (h _ hq)
/-! the room: frames and C units -/
theorem rm0 {d n R : Nat} (h : d + n < R) : d < R := Nat.lt_of_le_of_lt (Nat.le_add_right d n) h
theorem rm1 {d n k R : Nat} (h : d + n < R) (e : Nat.ble k n = true) : d + k < R := Nat.lt_of_le_of_lt (Nat.add_le_add_left (Nat.le_of_ble_eq_true e) d) h
theorem rm2 {d n a k R : Nat} (h : d + n < R) (e : Nat.ble (a + k) n = true) : d + a + k < R := by rw [Nat.add_assoc]; exact rm1 h e
theorem rm3 {d n a b k R : Nat} (h : d + n < R) (e : Nat.ble (a + (b + k)) n = true) : d + a + b + k < R := by rw [Nat.add_assoc]; exact rm2 h e
/-- what is left of the text from place z on -/
structure At (T : Str) (z : Int) (r : List Nat) : Prop where
  nn : 0 ≤ z
  drop : T.cps.toList.drop z.toNat = r
  len : (T.length : Int) = z + r.length
  small : T.length < 100000
  ascii : ∀ c ∈ T.cps.toList, c < 128

theorem At.next {T : Str} {z : Int} {c : Nat} {r : List Nat} (h : At T z (c :: r)) : At T (z + 1) r := by
  have h0 := h.nn
  refine ⟨by omega, ?_, ?_, h.small, h.ascii⟩
  · have e : (z + 1).toNat = z.toNat + 1 := by omega
    rw [e, ← List.drop_drop, h.drop]; rfl
  · have := h.len; simp only [List.length_cons] at this; omega
theorem At.back {T : Str} {z : Int} {c : Nat} {r : List Nat} (h : At T z (c :: r)) : At T (z + 1 - 1) (c :: r) := by
  have e : z + 1 - 1 = z := by omega
  rw [e]; exact h
theorem At.lt {T : Str} {z : Int} {c : Nat} {r : List Nat} (h : At T z (c :: r)) : z < T.length := by
  have := h.len; simp only [List.length_cons] at this; omega
theorem At.eq {T : Str} {z : Int} (h : At T z []) : z = T.length := by
  have := h.len; simp only [List.length_nil] at this; omega
theorem At.le {T : Str} {z : Int} {r : List Nat} (h : At T z r) : z ≤ T.length := by
  have := h.len; omega
theorem At.get {T : Str} {z : Int} {c : Nat} {r : List Nat} (h : At T z (c :: r)) : T.cps[z.toNat]? = some c := by
  rw [← Array.getElem?_toList, ← List.head?_drop, h.drop]; rfl
theorem At.mem {T : Str} {z : Int} {c : Nat} {r : List Nat} (h : At T z r) (hc : c ∈ r) : c < 128 := by
  refine h.ascii c ?_
  rw [← h.drop] at hc
  exact List.mem_of_mem_drop hc
theorem At.c128 {T : Str} {z : Int} {c : Nat} {r : List Nat} (h : At T z (c :: r)) : c < 128 := h.mem (List.mem_cons_self ..)
theorem At.c128d {T : Str} {z : Int} {c : Nat} {r r1 : List Nat} {f : Nat → Bool} (h : At T z r) (hd : r.dropWhile f = c :: r1) : c < 128 :=
  h.mem ((List.dropWhile_sublist f).subset (by rw [hd]; exact List.mem_cons_self ..))
theorem At.item {T : Str} {z : Int} {c : Nat} {r : List Nat} (h : At T z (c :: r)) : Txt.item T z = ⟨#[c]⟩ := by
  unfold Txt.item Txt.charAt seqIndex?
  have h0 := h.nn
  have h1 : ¬ (z < 0) := by omega
  have h2 : z < (T.length : Int) := h.lt
  simp [h0, h1, h2, h.get]
theorem filterMap_range (l : List Nat) (i : Nat) : ∀ c : Nat, i + c ≤ l.length → (List.range c).filterMap (fun k => l[i + k]?) = (l.drop i).take c
  | 0, _ => by simp
  | c + 1, h => by
    rw [List.range_succ, List.filterMap_append, filterMap_range l i c (by omega)]
    have h1 : l[i + c]? = some (l[i + c]'(by omega)) := by simp
    simp only [List.filterMap_cons, List.filterMap_nil]
    rw [h1]
    rw [List.take_add_one, List.getElem?_drop, h1]; rfl
theorem natMin (a b : Nat) : ((min a b : Nat) : Int) = min (a : Int) (b : Int) := by
  rcases Nat.le_total a b with h | h
  · rw [Nat.min_eq_left h, Int.min_eq_left (Int.ofNat_le.mpr h)]
  · rw [Nat.min_eq_right h, Int.min_eq_right (Int.ofNat_le.mpr h)]
theorem whole_cut {i j n : Nat} (h : min j n - i = n) : i = 0 ∧ n ≤ j ∨ n = 0 := by
  rcases Nat.eq_zero_or_pos n with h0 | h0
  · exact .inr h0
  · have h3 : min j n = n := Nat.le_antisymm (Nat.min_le_right ..) (Nat.le_trans (Nat.le_of_eq h.symm) (Nat.sub_le ..))
    rw [h3] at h
    exact .inl ⟨by omega, Nat.le_trans (Nat.le_of_eq h3.symm) (Nat.min_le_left ..)⟩
theorem few9 {P : Int → Prop} (h : ∀ k : Fin 9, P ((k : Nat) : Int)) {n : Int} (q : 0 ≤ n ∧ n < 9) : P n := by
  obtain ⟨k, rfl⟩ := Int.eq_ofNat_of_zero_le q.1
  exact h ⟨k, Int.ofNat_lt.mp q.2⟩
theorem slice_idx (n i j : Nat) (hi : i ≤ n) : Builtin.Str.strSliceIndices (some (i : Int)) (some (j : Int)) 1 n = (List.range (min j n - i)).map (fun k => i + k) := by
  have a1 : ¬ ((i : Int) < 0) := Int.not_lt.mpr (Int.natCast_nonneg i)
  have a2 : ¬ ((j : Int) < 0) := Int.not_lt.mpr (Int.natCast_nonneg j)
  have a3 : (1 : Int) > 0 := by decide
  unfold Builtin.Str.strSliceIndices sliceRange
  simp only [a1, a2, a3, if_true, if_false]
  rw [Int.min_eq_left (Int.ofNat_le.mpr hi), Int.max_eq_right (Int.natCast_nonneg i), ← natMin, Int.max_eq_right (Int.natCast_nonneg _)]
  have c1 : (if (i : Int) < ((min j n : Nat) : Int) then (((min j n : Nat) : Int) - (i : Int) + 1 - 1) / 1 else 0).toNat = min j n - i := by
    rw [Int.add_sub_cancel, Int.ediv_one]
    split
    · rw [Int.toNat_sub]
    · rename_i h
      rw [Nat.sub_eq_zero_of_le (Int.ofNat_le.mp (Int.not_lt.mp h))]; rfl
  rw [c1]
  refine List.map_congr_left fun k _ => ?_
  rw [Int.one_mul, ← Int.natCast_add, Int.toNat_natCast]
theorem slice_eq (T : Str) (i j : Nat) (hi : i ≤ T.length) : Txt.slice T (some (i : Int)) (some (j : Int)) = ⟨((T.cps.toList.drop i).take (j - i)).toArray⟩ := by
  unfold Txt.slice
  have hl : T.length = T.cps.toList.length := by simp [Str.length]
  rw [slice_idx _ _ _ hi]
  have key : (List.range (min j T.length - i)).filterMap (fun k => T.cps.toList[i + k]?) = (T.cps.toList.drop i).take (j - i) := by
    rw [filterMap_range _ _ _ (by rw [hl] at hi ⊢; have := Nat.min_le_right j T.cps.toList.length; omega), hl, ← Nat.sub_min_sub_right, ← List.take_take, List.take_of_length_le (i := T.cps.toList.length - i) (Nat.le_of_eq List.length_drop)]
  split
  · rename_i h
    simp only [List.length_map, List.length_range, Bool.and_eq_true, beq_iff_eq] at h
    have e : (T.cps.toList.drop i).take (j - i) = T.cps.toList := by
      rcases whole_cut h.2 with ⟨rfl, hj⟩ | h0
      · rw [List.drop_zero, List.take_of_length_le (hl ▸ hj)]
      · have : T.cps.toList = [] := List.eq_nil_of_length_eq_zero (hl ▸ h0)
        rw [this]; simp
    rw [e]
  · rw [List.filterMap_map]
    have : (List.range (min j T.length - i)).filterMap ((fun x => T.cps[x]?) ∘ fun k => i + k) = (List.range (min j T.length - i)).filterMap (fun k => T.cps.toList[i + k]?) := by
      congr 1
      funext k
      simp
    rw [this, key]
/-- the place as a natural number -/
theorem At.nat {T : Str} {z : Int} {r : List Nat} (h : At T z r) : ∃ n : Nat, z = n ∧ T.cps.toList.drop n = r ∧ T.length = n + r.length := by
  obtain ⟨n, rfl⟩ := Int.eq_ofNat_of_zero_le h.nn
  exact ⟨n, rfl, h.drop, Int.ofNat.inj h.len⟩
/-- from one place to another -/
theorem At.slice {T : Str} {z y : Int} {r r2 : List Nat} (h : At T z r) (h2 : At T y r2) (hle : z ≤ y) : Txt.slice T (some z) (some y) = ⟨(r.take (r.length - r2.length)).toArray⟩ := by
  obtain ⟨a, rfl, d1, l1⟩ := h.nat
  obtain ⟨b, rfl, d2, l2⟩ := h2.nat
  rw [slice_eq T a b (l1 ▸ Nat.le_add_right ..), d1]
  have e2 : b - a = r.length - r2.length := by clear h h2 d1 d2 hle; omega
  rw [e2]
theorem At.slice1 {T : Str} {z : Int} {r : List Nat} (h : At T z r) : Txt.slice T (some z) (some (z + 1)) = ⟨(r.take 1).toArray⟩ := by
  obtain ⟨a, rfl, d1, l1⟩ := h.nat
  have := slice_eq T a (a + 1) (l1 ▸ Nat.le_add_right ..)
  rw [d1, Nat.add_sub_cancel_left] at this
  exact this
theorem News.tl {h₀ h : Heap} {L : Addr} {q : Addr × Obj} {news : Led} (N : News h₀ L h (q :: news)) : News h₀ L h news := fun p hp => N p (.tail _ hp)
theorem News.sub {h₀ h : Heap} {L : Addr} {news news' : Led} (N : News h₀ L h news') (hs : ∀ p ∈ news, p ∈ news') : News h₀ L h news := fun p hp => N p (hs p hp)
theorem News.rot1 {h₀ h : Heap} {L : Addr} {A X D : Addr × Obj} {rest : Led} (N : News h₀ L h (A :: X :: D :: rest)) : News h₀ L h (X :: D :: A :: rest) :=
  News.sub N fun p hp => by simp only [List.mem_cons] at hp ⊢; rcases hp with h | h | h | h <;> simp [h]
theorem News.rot2 {h₀ h : Heap} {L : Addr} {A B X D : Addr × Obj} {rest : Led} (N : News h₀ L h (A :: B :: X :: D :: rest)) : News h₀ L h (X :: D :: A :: B :: rest) :=
  News.sub N fun p hp => by simp only [List.mem_cons] at hp ⊢; rcases hp with h | h | h | h | h <;> simp [h]
theorem News.rot3 {h₀ h : Heap} {L : Addr} {A B C X D : Addr × Obj} {rest : Led} (N : News h₀ L h (A :: B :: C :: X :: D :: rest)) : News h₀ L h (X :: D :: A :: B :: C :: rest) :=
  News.sub N fun p hp => by simp only [List.mem_cons] at hp ⊢; rcases hp with h | h | h | h | h | h <;> simp [h]
theorem News.pick1 {h₀ h : Heap} {L : Addr} {A X D : Addr × Obj} {rest : Led} (N : News h₀ L h (X :: D :: A :: rest)) : News h₀ L h (X :: D :: rest) :=
  News.sub N fun p hp => by simp only [List.mem_cons] at hp ⊢; rcases hp with h | h | h <;> simp [h]
theorem News.pick2 {h₀ h : Heap} {L : Addr} {A B X D : Addr × Obj} {rest : Led} (N : News h₀ L h (X :: D :: A :: B :: rest)) : News h₀ L h (X :: D :: rest) :=
  News.sub N fun p hp => by simp only [List.mem_cons] at hp ⊢; rcases hp with h | h | h <;> simp [h]
theorem News.pick3 {h₀ h : Heap} {L : Addr} {A B X D : Addr × Obj} {rest : Led} (N : News h₀ L h (A :: X :: D :: B :: rest)) : News h₀ L h (X :: D :: rest) :=
  News.sub N fun p hp => by simp only [List.mem_cons] at hp ⊢; rcases hp with h | h | h <;> simp [h]
noncomputable abbrev tupO (vs : List Value) : Obj := { cls := .type "tuple", data := .seq vs.toArray }
/-! rules for texts -/
theorem in1 {S : Str} {l : List Nat} (hl : S.cps.toList = l) (c : Nat) : Txt.contains S ⟨#[c]⟩ = l.contains c := by
  unfold Txt.contains
  rw [PySem.StrLaws.found_one, hl]
  simp
noncomputable abbrev same1 (c : Nat) (y : Str) : Bool := ((⟨#[c]⟩ : Str).cps.toList == y.cps.toList)
noncomputable abbrev same0 (y : Str) : Bool := ((⟨#[]⟩ : Str).cps.toList == y.cps.toList)
theorem same1_is {y : Str} {d : Nat} (hl : y.cps.toList = [d]) (c : Nat) : same1 c y = decide (c = d) := by
  unfold same1
  rw [hl]
  by_cases h : c = d
  · subst h; simp
  · simp [h]
noncomputable def isBl (c : Nat) : Bool := [32, 9, 10, 13, 12].contains c
noncomputable def isDig (c : Nat) : Bool := [48, 49, 50, 51, 52, 53, 54, 55, 56, 57].contains c
noncomputable def isNum (c : Nat) : Bool := [43, 45, 46, 48, 49, 50, 51, 52, 53, 54, 55, 56, 57].contains c
theorem bl_in (c : Nat) : Txt.contains (Str.ofString " \t\n\r\x0c") ⟨#[c]⟩ = isBl c := in1 (by decide +kernel) c
theorem dig_in (c : Nat) : Txt.contains (Str.ofString "0123456789") ⟨#[c]⟩ = isDig c := in1 (by decide +kernel) c
theorem num_in (c : Nat) : Txt.contains (Str.ofString "+-." ++ Str.ofString "0123456789") ⟨#[c]⟩ = isNum c := in1 (by decide +kernel) c
theorem comma_eq (c : Nat) : same1 c (Str.ofString ",") = decide (c = 44) := same1_is (by decide +kernel) c
theorem dot_eq (c : Nat) : same1 c (Str.ofString ".") = decide (c = 46) := same1_is (by decide +kernel) c
theorem empty_eq (c : Nat) : same1 c (Str.ofString "") = false := by
  unfold same1
  have : (Str.ofString "").cps.toList = [] := by decide +kernel
  rw [this]; rfl
/-- what a separator makes of the rest -/
noncomputable def sepOf (r : List Nat) : Bool × List Nat := match r.dropWhile isBl with
  | c :: r2 => if c = 44 then (true, r2.dropWhile isBl) else (false, c :: r2)
  | [] => (false, [])
noncomputable def looksOf (r : List Nat) : Bool := match r with
  | c :: _ => isNum c
  | [] => false
section
variable {A : Around} {s : Shared} {Q : Value → Shared → Prop} {w : World} {prog : Program} {E : Value → Shared → Prop}
theorem item_at {T : Str} {p : Int} {value slice : PySem.Expr} {t u : Tok} {c : Nat} {r : List Nat} (hA : At T p (c :: r)) (h : ∀ t' tk, Q (.str ⟨#[c]⟩ t') { s with toks := tk })
    (hs : subscripted slice false (.str T t) (.int p u) = operate [.str T t, .int p u] (getItem (.str T t) (.int p u)))
    (ht : ∀ r, letTemporaryGo value (.str T t) r = pure ()) :
    wpAny (model prog w) A (subscriptTail value slice (.str T t) (.int p u)) Q E s :=
  item_str (fitsSsize_of (N := 9223372036854775808) (by have := hA.nn; omega) (by have := hA.lt; have := hA.small; omega) (Int.le_refl _)) (by have := hA.nn; omega) hA.lt (fun _ => by rw [hA.item]; exact h _ _) hs ht
theorem addI {a b : Int} {t u : Tok} (h : ∀ t' tk, Q (.int (a + b) t') { s with toks := tk }) :
    wpAny (model prog w) A (binaryOp .Add (.int a t) (.int b u)) Q E s := add_int (h _ _)
theorem subI {a b : Int} {t u : Tok} (h : ∀ t' tk, Q (.int (a - b) t') { s with toks := tk }) :
    wpAny (model prog w) A (binaryOp .Sub (.int a t) (.int b u)) Q E s := sub_int (h _ _)
theorem fdivI {a b : Int} {t u : Tok} (hb : b ≠ 0) (hs : b.natAbs < 1073741824) (h : ∀ t' tk, Q (.int (a.fdiv b) t') { s with toks := tk }) :
    wpAny (model prog w) A (binaryOp .FloorDiv (.int a t) (.int b u)) Q E s := floordiv_int hb (h _ _) (Or.inl (PyProof.noPylong_small hs))
theorem fmodI {a b : Int} {t u : Tok} (hb : b ≠ 0) (h : ∀ t' tk, Q (.int (a.fmod b) t') { s with toks := tk }) :
    wpAny (model prog w) A (binaryOp .Mod (.int a t) (.int b u)) Q E s := mod_int' hb (h _ _)
theorem len_is {y : Str} {t : Tok} {n : Int} (hn : (y.length : Int) = n) (hs : n < 1000000) (h : ∀ t' tk, Q (.int n t') { s with toks := tk }) : wpAny (model prog w) A (call (.builtin "len") [.str y t]) Q E s :=
  P.len_str (by omega) (by rw [hn]; exact h _ _)
theorem addS_is {x y z : Str} {t u : Tok} (hz : x ++ y = z) (hs : z.length < 1000000) (h : ∀ t' tk, Q (.str z t') { s with toks := tk }) : wpAny (model prog w) A (binaryOp .Add (.str x t) (.str y u)) Q E s :=
  KOpn.add (by rw [← hz, PySem.Str.length_append] at hs; omega) (fun t' k _ => by rw [hz]; exact h _ _)
theorem subI_is {a b c : Int} {t u : Tok} (hc : a - b = c) (h : ∀ t' tk, Q (.int c t') { s with toks := tk }) : wpAny (model prog w) A (binaryOp .Sub (.int a t) (.int b u)) Q E s := subI (by rw [hc]; exact h)
theorem lt_end {T : Str} {z : Int} {t u : Tok} (hA : At T z []) (h : Q (.bool false) s) : wpAny (model prog w) A (compareOp .Lt (.int z t) (.int T.length u)) Q E s :=
  lt_int (by rw [decide_eq_false (by have := hA.eq; omega)]; exact h)
theorem in_is {x y : Str} {t u : Tok} {b : Bool} (hb : Txt.contains x y = b) (h : Q (.bool b) s) :
    wpAny (model prog w) A (compareOp .In (.str y u) (.str x t)) Q E s := SB.contains (by rw [hb]; exact h)
theorem notin_is {x y : Str} {t u : Tok} {b : Bool} (hb : Txt.contains x y = b) (h : Q (.bool (!b)) s) :
    wpAny (model prog w) A (compareOp .NotIn (.str y u) (.str x t)) Q E s := SB.notContains (by rw [hb]; exact h)
theorem eqs_is {x y : Str} {t u : Tok} {b : Bool} (hb : (x.cps.toList == y.cps.toList) = b) (h : Q (.bool b) s) :
    wpAny (model prog w) A (compareOp .Eq (.str x t) (.str y u)) Q E s := P.eq_str (by rw [hb]; exact h)
theorem nes_is {x y : Str} {t u : Tok} {b : Bool} (hb : (x.cps.toList == y.cps.toList) = b) (h : Q (.bool (!b)) s) :
    wpAny (model prog w) A (compareOp .NotEq (.str x t) (.str y u)) Q E s := P.ne_str (by rw [bne, hb]; exact h)
theorem index_is {x y : Str} {t u : Tok} {v : Int} (hA : A.handled = none) (hb : Txt.contains x y = true) (hv : Txt.find x y = v) (h : ∀ t' tk, Q (.int v t') { s with toks := tk }) :
    wpAny (model prog w) A (call (.builtin "str.index") [.str x t, .str y u]) Q E s :=
  index_or hA (fun _ he => by unfold Txt.contains at hb; rw [he] at hb; cases hb) (fun _ _ => by rw [hv]; exact h _ _)
theorem eqi_is {a b : Int} {t u : Tok} {v : Bool} (hb : decide (a = b) = v) (h : Q (.bool v) s) : wpAny (model prog w) A (compareOp .Eq (.int a t) (.int b u)) Q E s :=
  eq_int (by rw [show (a == b) = decide (a = b) from rfl, hb]; exact h)
theorem in_two {l : Addr} {x a b : Str} {t ta tb : Tok} {v : Bool} (hl : s.heap.get? l = some { cls := .type "tuple", data := .seq [Value.str a ta, .str b tb].toArray }) (hb : (a == x || b == x) = v) (h : Q (.bool v) s) :
    wpAny (model prog w) A (compareOp .In (.str x t) (.ref l)) Q E s :=
  SeqAt.in_tupleAt (fun y => match y with | .str y _ => y == x | _ => false) ⟨_, hl, rfl, _, rfl⟩ (fun y hy => by
    simp only [List.mem_toArray, List.mem_cons, List.not_mem_nil, or_false] at hy
    rcases hy with rfl | rfl <;> exact SeqAt.EqAt.str_str _ _ _ _) (by
    have e : ([Value.str a ta, .str b tb].toArray.any fun y => match y with | .str y _ => y == x | _ => false) = v := by rw [← hb]; simp
    rw [e]; exact h)
theorem notin_two {l : Addr} {x a b : Str} {t ta tb : Tok} {v : Bool} (hl : s.heap.get? l = some { cls := .type "tuple", data := .seq [Value.str a ta, .str b tb].toArray }) (hb : (a == x || b == x) = v) (h : Q (.bool (!v)) s) :
    wpAny (model prog w) A (compareOp .NotIn (.str x t) (.ref l)) Q E s :=
  SeqAt.notIn_tupleAt (fun y => match y with | .str y _ => y == x | _ => false) ⟨_, hl, rfl, _, rfl⟩ (fun y hy => by
    simp only [List.mem_toArray, List.mem_cons, List.not_mem_nil, or_false] at hy
    rcases hy with rfl | rfl <;> exact SeqAt.EqAt.str_str _ _ _ _) (by
    have e : ([Value.str a ta, .str b tb].toArray.any fun y => match y with | .str y _ => y == x | _ => false) = v := by rw [← hb]; simp
    rw [e]; exact h)
end
theorem lit1 {S : Str} {d : Nat} (h : S = ⟨#[d]⟩) (c : Nat) : (S == ⟨#[c]⟩) = decide (d = c) := by
  subst h
  by_cases hc : d = c
  · subst hc; simp
  · have : (⟨#[d]⟩ : Str) ≠ ⟨#[c]⟩ := fun e => hc (by injection e with e; simpa using e)
    simp [hc, this]
theorem eE_in (c : Nat) : ((Str.ofString "e" == ⟨#[c]⟩) || (Str.ofString "E" == ⟨#[c]⟩)) = decide (101 = c ∨ 69 = c) := by
  rw [lit1 (d := 101) (by decide +kernel), lit1 (d := 69) (by decide +kernel)]
  simp
theorem pm_in (c : Nat) : ((Str.ofString "+" == ⟨#[c]⟩) || (Str.ofString "-" == ⟨#[c]⟩)) = decide (43 = c ∨ 45 = c) := by
  rw [lit1 (d := 43) (by decide +kernel), lit1 (d := 45) (by decide +kernel)]
  simp
theorem eE_in0 : ((Str.ofString "e" == ⟨#[]⟩) || (Str.ofString "E" == ⟨#[]⟩)) = false := by decide +kernel
theorem pm_in0 : ((Str.ofString "+" == ⟨#[]⟩) || (Str.ofString "-" == ⟨#[]⟩)) = false := by decide +kernel
end
theorem off_cut : True := by
  w_top off
  k_with_none
  trivial
local macro_rules | `(tactic| walk_at $s:str) => `(tactic| k_extra $s)
section
theorem News.drop3 {h₀ h : Heap} {L : Addr} {A B X D : Addr × Obj} {rest : Led} (N : News h₀ L h (A :: B :: X :: D :: rest)) : News h₀ L h (A :: rest) :=
  News.sub N fun p hp => by simp only [List.mem_cons] at hp ⊢; rcases hp with h | h <;> simp [h]
def Stop (_ : Nat) : Prop := True
def MidX (h₀ : Heap) (L : Addr) (s : Shared) (J : (Str → Option Value) → Led → Prop) : Flow → Shared → Prop := fun f s₂ =>
  f = .next ∧ ∃ m' n' h' tk', s₂ = { s with heap := h', toks := tk' } ∧ Fr h₀ L h' m' ∧ News h₀ L h' n' ∧ J m' n'
def MidV (h₀ : Heap) (L : Addr) (s : Shared) (m : Str → Option Value) (news : Led) (V : Value → Prop) : Value → Shared → Prop := fun v s₂ =>
  ∃ h' tk', s₂ = { s with heap := h', toks := tk' } ∧ Fr h₀ L h' m ∧ News h₀ L h' news ∧ V v
def MidB (h₀ : Heap) (L : Addr) (s : Shared) (m : Str → Option Value) (news : Led) (b : Bool) : Bool → Shared → Prop := fun v s₂ =>
  v = b ∧ ∃ h' tk', s₂ = { s with heap := h', toks := tk' } ∧ Fr h₀ L h' m ∧ News h₀ L h' news
section
variable {M : Model} {A : Around} {E : Value → Shared → Prop} {s : Shared} {h₀ : Heap} {L : Addr} {m : Str → Option Value} {news : Led}
theorem cutB {x : Sem Bool} {Q : Bool → Shared → Prop} (b : Bool) (F : Fr h₀ L s.heap m) (N : News h₀ L s.heap news) (h1 : wpAny M A x (MidB h₀ L s m news b) E s)
    (h2 : ∀ h' tk', Fr h₀ L h' m → News h₀ L h' news → Q b { s with heap := h', toks := tk' }) : wpAny M A x Q E s :=
  wpAny_mono h1 (fun v s₂ ⟨hv, h', tk', hs, F', N'⟩ => by subst hs hv; exact h2 h' tk' F' N') fun _ _ e => e
theorem cutX {x : Sem Flow} {Q : Flow → Shared → Prop} (J : (Str → Option Value) → Led → Prop) (F : Fr h₀ L s.heap m) (h1 : wpAny M A x (MidX h₀ L s J) E s)
    (h2 : ∀ m' n' h' tk', Fr h₀ L h' m' → News h₀ L h' n' → J m' n' → Q .next { s with heap := h', toks := tk' }) : wpAny M A x Q E s :=
  wpAny_mono h1 (fun f s₂ ⟨hf, m', n', h', tk', hs, F', N', hJ⟩ => by subst hf hs; exact h2 m' n' h' tk' F' N' hJ) fun _ _ e => e
theorem cutV {x : Sem Value} {Q : Value → Shared → Prop} (V : Value → Prop) (F : Fr h₀ L s.heap m) (N : News h₀ L s.heap news) (h1 : wpAny M A x (MidV h₀ L s m news V) E s)
    (h2 : ∀ v h' tk', Fr h₀ L h' m → News h₀ L h' news → V v → Q v { s with heap := h', toks := tk' }) : wpAny M A x Q E s :=
  wpAny_mono h1 (fun v s₂ ⟨h', tk', hs, F', N', hV⟩ => by subst hs; exact h2 v h' tk' F' N' hV) fun _ _ e => e
end
section
variable {A : Around} {s : Shared} {Q : Value → Shared → Prop} {w : World} {prog : Program} {E : Value → Shared → Prop} {h₀ : Heap} {L : Addr} {m : Str → Option Value} {news : Led}
theorem max_is {a b c : Int} {t u : Tok} (hm : (if b > a then b else a) = c) (hh : A.handled = none) (F : Fr h₀ L s.heap m) (N : News h₀ L s.heap news)
    (h : ∀ t' h' tk, Fr h₀ L h' m → News h₀ L h' news → Q (.int c t') { s with heap := h', toks := tk }) :
    wpAny (model prog w) A (call (.builtin "max") [.int a t, .int b u]) Q E s :=
  max_two_N hh F N fun h' tk F' N' => by rw [hm]; exact h _ _ _ F' N'
theorem pow_is {a n c : Int} {t u : Tok} (hc : a ^ n.toNat = c) (hn : 0 ≤ n) (hn2 : n ≤ 1000000) (ha : a.natAbs < 2 ^ 64) (h : ∀ t' tk, Q (.int c t') { s with toks := tk }) :
    wpAny (model prog w) A (binaryOp .Pow (.int a t) (.int n u)) Q E s := pow_int_small hn hn2 ha (by rw [hc]; exact h _ _)
theorem mul_is {a b c : Int} {t u : Tok} (hc : a * b = c) (hm : IntMulOk a b) (h : ∀ t' tk, Q (.int c t') { s with toks := tk }) :
    wpAny (model prog w) A (binaryOp .Mult (.int a t) (.int b u)) Q E s := PyProof.Rows.mul_int (by rw [hc]; exact h _ _) hm
theorem ge_is {a b : Int} {t u : Tok} {v : Bool} (hb : decide (a ≥ b) = v) (h : Q (.bool v) s) : wpAny (model prog w) A (compareOp .GtE (.int a t) (.int b u)) Q E s := ge_int (by rw [← hb] at h; exact h)
theorem gt_is {a b : Int} {t u : Tok} {v : Bool} (hb : decide (a > b) = v) (h : Q (.bool v) s) : wpAny (model prog w) A (compareOp .Gt (.int a t) (.int b u)) Q E s := gt_int (by rw [← hb] at h; exact h)
end
end
theorem off_many : True := by
  w_top off
  k_with_none
  trivial
theorem fill_many : PySem.Challenge.rw_xm0731_01 = PySem.Challenge.rw_xm0731_01 → hd.heap_1 = hd.heap_1 → True := by
  k_fill
  intros; trivial
variable {w : World} {prog : Program} {mean : ExcName → Option Value} {mg mb : Str → Option Value}
  {dp un : Nat} {gd : Option (List Code)} {cn : Str} {cs : Scope} {a : Addr} {ccd : Value} {cl : List (Str × Addr)} {outer : List Env} {A₀ : Around} {base h₀ : Heap} {L : Addr} {m : Str → Option Value} {s : Shared} {Q E : Value → Shared → Prop}
  {x dx : Addr} {h1 h2 : Int} {k1 k2 t1 t2 : Tok} {T : Str} {p : Int} {rest : Led} {r : List Nat}
section
theorem tab_item {prog : Program} {w : World} {A : Around} {E : Value → Shared → Prop} {s : Shared} {d : Addr} {D : List (PyData × PyData)} {k : Str} {t : Tok} {v : Int} {Q : Value → Shared → Prop} (T : TabAt (strKind prog w) PyData.str s.heap d D) (hl : PySem.Spec.lookup (.str k) D = some (.int v))
    (h : ∀ t' k, Q (.int v t') { s with toks := k }) : wpAny (model prog w) A (getItem (.ref d) (.str k t)) Q E s :=
  getItem_tab PyProof.V.same_str (strKind_is _ _ _ _) T hl fun v hv => by
    obtain ⟨t', rfl⟩ := hv.int_inv
    exact h _ _
theorem upper_is {w : World} {prog : Program} {A : Around} {s : Shared} {Q E : Value → Shared → Prop} {c u : Nat} {t : Tok} (e : Txt.upper ⟨#[c]⟩ = ⟨#[u]⟩) (h : ∀ t' k, Q (.str ⟨#[u]⟩ t') { s with toks := k }) : wpAny (model prog w) A (call (.builtin "str.upper") [.str ⟨#[c]⟩ t]) Q E s :=
  SC.upper (by rw [e]; rfl) (by rw [e]; exact h _ _)
end
local macro_rules | `(tactic| k_all) => `(tactic| assumption)
local macro_rules | `(tactic| k_ne) => `(tactic| k_extra "ne")
section
theorem kw_many_1 : True := by
  k_with "ne" => (refine neN ?_; (try dsimp only); first | assumption | exact Ne.symm (by assumption) | exact Nat.ne_of_gt (by assumption) | exact Nat.ne_of_lt (by assumption) | exact lt_1 (by assumption) (by k_mem) | exact lt_2 (by assumption) (by k_mem) | exact Nat.ne_of_gt (And.left (by assumption)) | exact Nat.ne_of_lt (And.left (by assumption)) | exact Nat.ne_of_gt (And.left (And.right (by assumption))) | exact Nat.ne_of_lt (And.left (And.right (by assumption))) | exact Nat.ne_of_gt (And.left (And.right (And.right (by assumption)))) | exact Nat.ne_of_lt (And.left (And.right (And.right (by assumption)))) | exact Nat.ne_of_gt (And.left (And.right (And.right (And.right (by assumption))))) | exact Nat.ne_of_lt (And.left (And.right (And.right (And.right (by assumption))))) | exact Nat.ne_of_gt (And.left (And.right (And.right (And.right (And.right (by assumption)))))) | exact Nat.ne_of_lt (And.left (And.right (And.right (And.right (And.right (by assumption)))))) | exact Nat.ne_of_gt (And.left (And.right (And.right (And.right (And.right (And.right (by assumption))))))) | exact Nat.ne_of_lt (And.left (And.right (And.right (And.right (And.right (And.right (by assumption))))))))
  k_with "newTuple" => (k_here; k_dflt (refine' kup_newTuple ?F ?N ?_ ?z; (case F => k_asm); (case N => k_asm); (case z => kmk_size)); intro D9 h9 F9 N9 u9; (try k_sweep))
  k_with "newList" => (k_here; k_dflt (refine' newList_K ?k1 ?k2 ?_; (case k1 => k_asm); (case k2 => k_asm); k_whole); intro D9 h9 F9 N9 u9; (try k_sweep))
  k_with "execs cons" => (k_here; refine wpAny_execs_cons ?_; k_fold)
  k_with "eval Tuple" => (k_here; k_fold)
  k_with "eval List" => (k_here; k_fold)
  k_with "eval Call Attribute" => (k_here; k_fold)
  k_with "eval Call" => (k_here; k_fold)
  k_with "exec While BoolOp cons nil" => refine Halt.out ?_
  k_with "exec While Compare cons nil" => refine Halt.out ?_
  k_with "exec While Call cons nil" => refine Halt.out ?_
  k_with "eval Name" => (k_here; k_dflt (refine' ld ?k1 ?k2 ?_; (case k1 => k_asm); (case k2 => first | exact rfl | assumption); k_whole))
  k_with "call builtin:len" => (k_here; first | (refine len_is (by assumption) (by omega) ?_; intro _ _) | (refine PySem.P.len_str (by have h9 := (‹At _ _ _›).small; omega) ?_))
  k_with "subscriptTail" => (k_here; (with_reducible show wpAny _ _ (subscriptTail _ _ (Value.str _ _) (Value.int _ _)) _ _ _); k_dflt (refine' item_at ?k1 ?_ ?k2 ?k3; (case k1 => assumption); (case k2 => with_unfolding_all rfl); (case k3 => intro _; with_unfolding_all rfl)); intro _ _)
  k_with "binaryOp Add int int" => (k_here; refine addI ?_; intro _ _)
  k_with "binaryOp Sub int int" => (k_here; refine subI ?_; intro _ _)
  k_with "compareOp In str str" => (k_here; refine in_is (by assumption) ?_)
  k_with "compareOp NotIn str str" => (k_here; refine notin_is (by assumption) ?_)
  k_with "compareOp Eq str str" => (k_here; refine eqs_is (by assumption) ?_)
  k_with "compareOp NotEq str str" => (k_here; refine nes_is (by assumption) ?_)
  k_with "binaryOp FloorDiv int int" => (k_here; refine fdivI (by omega) (by omega) ?_; intro _ _)
  k_with "binaryOp Mod int int" => (k_here; refine fmodI (by omega) ?_; intro _ _)
  k_with "compareOp Eq int int" => (k_here; refine eqi_is (by assumption) ?_)
  k_with "compareOp In str ref" => (k_here; k_dflt (refine' in_two ?k1 ?k2 ?_; (case k1 => exact (News.get (by k_asm) (by k_mem))); (case k2 => assumption)))
  k_with "compareOp NotIn str ref" => (k_here; k_dflt (refine' notin_two ?k1 ?k2 ?_; (case k1 => exact (News.get (by k_asm) (by k_mem))); (case k2 => assumption)))
  k_with "subscriptTail Name Slice str ref" => (k_here; (with_reducible show wpAny _ _ (subscriptTail _ (Expr.Slice (some _) (some _) none _) _ _) _ _ _); (with_reducible rename Fr _ _ _ _ => F'); (with_reducible rename News _ _ _ _ => N'); (refine slice_strN_ss (hsz := ?hsz) (s := ⟨_, _, _, _, _⟩) F' N' ?_); (case hsz => (have h9 := (‹At _ _ _›).small; rw [PySem.sizeLine_eq]; omega)); intro _ _ _ _ _; (try k_sweep))
  k_with "subscriptTail Attribute Slice str ref" => (k_here; (with_reducible show wpAny _ _ (subscriptTail _ (Expr.Slice (some _) (some _) none _) _ _) _ _ _); (with_reducible rename Fr _ _ _ _ => F'); (with_reducible rename News _ _ _ _ => N'); (refine slice_strN_ss (hsz := ?hsz) (s := ⟨_, _, _, _, _⟩) F' N' ?_); (case hsz => (have h9 := (‹At _ _ _›).small; rw [PySem.sizeLine_eq]; omega)); intro _ _ _ _ _; (try k_sweep))
  k_with "call builtin:str.upper" => (k_here; (show wpAny _ _ (call (Value.builtin "str.upper") [Value.str _ _]) _ _ _); (refine upper_is (by assumption) ?_); intro _ _)
  k_with "eval Call Attribute" => (k_here; (with_reducible rename Stop 5 => stop9); clear stop9; refine Halt.out ?_)
  k_with "getItem ref str" => (k_here; refine tab_item (by assumption) (by assumption) ?_; intro _ _)
  trivial
theorem many_spec {c u : Nat} {v : Int} {ts : Tok}
  (B : Below A₀ base outer h₀) (F : Fr h₀ L s.heap m) (X : (hd.heap_1 w.params).In h₀)
  (N : News h₀ L s.heap rest)
  (Tp : Top view theLoose mean mg mb h₀) (hk : cs.kind = .function)
  (hdp : dp + 4 < recursionLimit) (hun : un + 32 < cLine)
 (e1 : Txt.upper ⟨#[c]⟩ = ⟨#[u]⟩) (e2 : PySem.Spec.lookup (.str ⟨#[u]⟩) [(PyData.str (Str.ofString "M"), PyData.int 2), (PyData.str (Str.ofString "L"), PyData.int 2), (PyData.str (Str.ofString "H"), PyData.int 1), (PyData.str (Str.ofString "V"), PyData.int 1), (PyData.str (Str.ofString "C"), PyData.int 6), (PyData.str (Str.ofString "S"), PyData.int 4), (PyData.str (Str.ofString "Q"), PyData.int 4), (PyData.str (Str.ofString "T"), PyData.int 2), (PyData.str (Str.ofString "A"), PyData.int 7), (PyData.str (Str.ofString "Z"), PyData.int 0)] = some (.int v))
  (hret : ∀ (t : Tok) (h' : Heap) (tk' : Nat), Fr h₀ L h' m → News h₀ L h' rest → Q (.int v t) { s with heap := h', toks := tk' }) :
  wpAny (model prog w) (ktrTop dp un gd cn cs L a ccd cl outer) (call (.ref 21) [.str ⟨#[c]⟩ ts]) Q E s := by
  have st : Stop 5 := trivial
  refine wpAny_call ?_
  k_dflt (refine' code_def (binds := [(Str.ofString "letter", .str ⟨#[c]⟩ ts)]) ?k1 ?k2 ?k3 ?k4 ?k5 ?kA ?kF ?kK ?k6 ?k7 ?k8 ?k9 ?kB ?_ ?c2 ?c3 ?c4 ?c5; (case kA => exact rfl); (case kF => exact rfl); (case kK => assumption); (case k1 => k_asm); (case k2 => k_asm); (case k3 => k_asm); (case k4 => k_asm); (case k5 => k_asm); (case k6 => k_is); (case k7 => k_is); (case k8 => (first | exact rm2 (by assumption) (by exact rfl) | exact rm1 (by assumption) (by exact rfl) | exact rm3 (by assumption) (by exact rfl) | exact rm0 (by assumption) | ktr_room)); (case k9 => first | exact BindsTo.of_eq rfl | exact binds_K (by k_in) rfl (by k_is) rfl rfl rfl); (case c5 => decide); (case kB => exact locs rfl); (case c2 => exact rfl); (case c3 => exact rfl); (case c4 => exact rfl); k_whole; intro g L' h' FG F1 N1 B1 X1 T1; (try k_fold))
  replace F1 := fr_of1 F1
  k_steps
  refine Halt.mk ?_
  (with_reducible rename News _ _ _ _ => N3)
  (with_reducible rename Obj.IsDictOf _ _ _ => D3)
  (with_reducible rename PyProof.V.FlatPairs _ _ _ => D4)
  have D5 : TabAt (strKind prog w) PyData.str _ _ [(PyData.str (Str.ofString "M"), PyData.int 2), (PyData.str (Str.ofString "L"), PyData.int 2), (PyData.str (Str.ofString "H"), PyData.int 1), (PyData.str (Str.ofString "V"), PyData.int 1), (PyData.str (Str.ofString "C"), PyData.int 6), (PyData.str (Str.ofString "S"), PyData.int 4), (PyData.str (Str.ofString "Q"), PyData.int 4), (PyData.str (Str.ofString "T"), PyData.int 2), (PyData.str (Str.ofString "A"), PyData.int 7), (PyData.str (Str.ofString "Z"), PyData.int 0)] := TabAt.ofNews N3 (.head _) (by assumption) D3 D4
  replace N3 := News.tl N3
  clear D3 D4
  k_steps
  ((with_reducible rename News _ _ _ _ => N9); first | exact hret _ _ _ (by assumption) N9 | exact hret _ _ _ (by assumption) (News.tl N9) | exact hret _ _ _ (by assumption) (News.pick1 N9) | exact hret _ _ _ (by assumption) (News.pick2 N9) | exact hret _ _ _ (by assumption) (News.pick3 N9))
end
theorem off_scan : True := by
  w_top off
  k_with_none
  trivial
section
theorem kw_scan_1 : True := by
  k_with "ne" => (refine neN ?_; (try dsimp only); first | assumption | exact Ne.symm (by assumption) | exact Nat.ne_of_gt (by assumption) | exact Nat.ne_of_lt (by assumption) | exact lt_1 (by assumption) (by k_mem) | exact lt_2 (by assumption) (by k_mem) | exact Nat.ne_of_gt (And.left (by assumption)) | exact Nat.ne_of_lt (And.left (by assumption)) | exact Nat.ne_of_gt (And.left (And.right (by assumption))) | exact Nat.ne_of_lt (And.left (And.right (by assumption))) | exact Nat.ne_of_gt (And.left (And.right (And.right (by assumption)))) | exact Nat.ne_of_lt (And.left (And.right (And.right (by assumption)))) | exact Nat.ne_of_gt (And.left (And.right (And.right (And.right (by assumption))))) | exact Nat.ne_of_lt (And.left (And.right (And.right (And.right (by assumption))))) | exact Nat.ne_of_gt (And.left (And.right (And.right (And.right (And.right (by assumption)))))) | exact Nat.ne_of_lt (And.left (And.right (And.right (And.right (And.right (by assumption)))))) | exact Nat.ne_of_gt (And.left (And.right (And.right (And.right (And.right (And.right (by assumption))))))) | exact Nat.ne_of_lt (And.left (And.right (And.right (And.right (And.right (And.right (by assumption))))))))
  k_with "newTuple" => (k_here; k_dflt (refine' kup_newTuple ?F ?N ?_ ?z; (case F => k_asm); (case N => k_asm); (case z => kmk_size)); intro D9 h9 F9 N9 u9; (try k_sweep))
  k_with "newList" => (k_here; k_dflt (refine' newList_K ?k1 ?k2 ?_; (case k1 => k_asm); (case k2 => k_asm); k_whole); intro D9 h9 F9 N9 u9; (try k_sweep))
  k_with "execs cons" => (k_here; refine wpAny_execs_cons ?_; k_fold)
  k_with "eval Tuple" => (k_here; k_fold)
  k_with "eval List" => (k_here; k_fold)
  k_with "eval Call Attribute" => (k_here; k_fold)
  k_with "eval Call" => (k_here; k_fold)
  k_with "exec While BoolOp cons nil" => refine Halt.out ?_
  k_with "exec While Compare cons nil" => refine Halt.out ?_
  k_with "exec While Call cons nil" => refine Halt.out ?_
  k_with "eval Name" => (k_here; k_dflt (refine' ld ?k1 ?k2 ?_; (case k1 => k_asm); (case k2 => first | exact rfl | assumption); k_whole))
  k_with "call builtin:len" => (k_here; first | (refine len_is (by assumption) (by omega) ?_; intro _ _) | (refine PySem.P.len_str (by have h9 := (‹At _ _ _›).small; omega) ?_))
  k_with "subscriptTail" => (k_here; (with_reducible show wpAny _ _ (subscriptTail _ _ (Value.str _ _) (Value.int _ _)) _ _ _); k_dflt (refine' item_at ?k1 ?_ ?k2 ?k3; (case k1 => assumption); (case k2 => with_unfolding_all rfl); (case k3 => intro _; with_unfolding_all rfl)); intro _ _)
  k_with "binaryOp Add int int" => (k_here; refine addI ?_; intro _ _)
  k_with "binaryOp Sub int int" => (k_here; refine subI ?_; intro _ _)
  k_with "compareOp In str str" => (k_here; refine in_is (by assumption) ?_)
  k_with "compareOp NotIn str str" => (k_here; refine notin_is (by assumption) ?_)
  k_with "compareOp Eq str str" => (k_here; refine eqs_is (by assumption) ?_)
  k_with "compareOp NotEq str str" => (k_here; refine nes_is (by assumption) ?_)
  k_with "binaryOp FloorDiv int int" => (k_here; refine fdivI (by omega) (by omega) ?_; intro _ _)
  k_with "binaryOp Mod int int" => (k_here; refine fmodI (by omega) ?_; intro _ _)
  k_with "compareOp Eq int int" => (k_here; refine eqi_is (by assumption) ?_)
  k_with "compareOp In str ref" => (k_here; k_dflt (refine' in_two ?k1 ?k2 ?_; (case k1 => exact (News.get (by k_asm) (by k_mem))); (case k2 => assumption)))
  k_with "compareOp NotIn str ref" => (k_here; k_dflt (refine' notin_two ?k1 ?k2 ?_; (case k1 => exact (News.get (by k_asm) (by k_mem))); (case k2 => assumption)))
  k_with "subscriptTail Name Slice str ref" => (k_here; (with_reducible show wpAny _ _ (subscriptTail _ (Expr.Slice (some _) (some _) none _) _ _) _ _ _); (with_reducible rename Fr _ _ _ _ => F'); (with_reducible rename News _ _ _ _ => N'); (refine slice_strN_ss (hsz := ?hsz) (s := ⟨_, _, _, _, _⟩) F' N' ?_); (case hsz => (have h9 := (‹At _ _ _›).small; rw [PySem.sizeLine_eq]; omega)); intro _ _ _ _ _; (try k_sweep))
  k_with "subscriptTail Attribute Slice str ref" => (k_here; (with_reducible show wpAny _ _ (subscriptTail _ (Expr.Slice (some _) (some _) none _) _ _) _ _ _); (with_reducible rename Fr _ _ _ _ => F'); (with_reducible rename News _ _ _ _ => N'); (refine slice_strN_ss (hsz := ?hsz) (s := ⟨_, _, _, _, _⟩) F' N' ?_); (case hsz => (have h9 := (‹At _ _ _›).small; rw [PySem.sizeLine_eq]; omega)); intro _ _ _ _ _; (try k_sweep))
  trivial
theorem peek_spec
  (B : Below A₀ base outer h₀) (F : Fr h₀ L s.heap m) (X : (hd.heap_1 w.params).In h₀)
  (N : News h₀ L s.heap ((x, instObj 272 dx) :: (dx, scD h1 h2 k1 k2 t1 t2 T p) :: rest))
  (Tp : Top view theLoose mean mg mb h₀) (hk : cs.kind = .function)
  (hdp : dp + 2 < recursionLimit) (hun : un + 16 < cLine)
  (hA : At T p r)
  (hret : ∀ (t : Tok) (h' : Heap) (tk' : Nat), Fr h₀ L h' m → News h₀ L h' ((x, instObj 272 dx) :: (dx, scD h1 h2 k1 k2 t1 t2 T p) :: rest) → Q (.str ⟨(r.take 1).toArray⟩ t) { s with heap := h', toks := tk' }) :
  wpAny (model prog w) (ktrTop dp un gd cn cs L a ccd cl outer) (call (.ref 206) [.ref x]) Q E s := by
  refine wpAny_call ?_
  k_dflt (refine' code_def (binds := [(Str.ofString "self", .ref x)]) ?k1 ?k2 ?k3 ?k4 ?k5 ?kA ?kF ?kK ?k6 ?k7 ?k8 ?k9 ?kB ?_ ?c2 ?c3 ?c4 ?c5; (case kA => exact rfl); (case kF => exact rfl); (case kK => assumption); (case k1 => k_asm); (case k2 => k_asm); (case k3 => k_asm); (case k4 => k_asm); (case k5 => k_asm); (case k6 => k_is); (case k7 => k_is); (case k8 => (first | exact rm2 (by assumption) (by exact rfl) | exact rm1 (by assumption) (by exact rfl) | exact rm3 (by assumption) (by exact rfl) | exact rm0 (by assumption) | ktr_room)); (case k9 => first | exact BindsTo.of_eq rfl | exact binds_K (by k_in) rfl (by k_is) rfl rfl rfl); (case c5 => decide); (case kB => exact locs rfl); (case c2 => exact rfl); (case c3 => exact rfl); (case c4 => exact rfl); k_whole; intro g L' h' FG F1 N1 B1 X1 T1; (try k_fold))
  replace F1 := fr_of1 F1
  k_steps
  rw [hA.slice1]
  exact hret _ _ _ (by assumption) (by assumption)

theorem spaces_spec
  (B : Below A₀ base outer h₀) (F : Fr h₀ L s.heap m) (X : (hd.heap_1 w.params).In h₀)
  (N : News h₀ L s.heap ((x, instObj 272 dx) :: (dx, scD h1 h2 k1 k2 t1 t2 T p) :: rest))
  (Tp : Top view theLoose mean mg mb h₀) (hk : cs.kind = .function)
  (hdp : dp + 2 < recursionLimit) (hun : un + 16 < cLine)
  (hxd : x ≠ dx) (hrest : ∀ q ∈ rest, q.1 ≠ dx) {r1 : List Nat} (hA : At T p r) (hr1 : r.dropWhile isBl = r1)
  (hret : ∀ (p' : Int) (t2' : Tok) (h' : Heap) (tk' : Nat), At T p' r1 → Fr h₀ L h' m → News h₀ L h' ((x, instObj 272 dx) :: (dx, scD h1 h2 k1 k2 t1 t2' T p') :: rest) → Q .none { s with heap := h', toks := tk' }) :
  wpAny (model prog w) (ktrTop dp un gd cn cs L a ccd cl outer) (call (.ref 220) [.ref x]) Q E s := by
  subst hr1
  refine wpAny_call ?_
  k_dflt (refine' code_def (binds := [(Str.ofString "self", .ref x)]) ?k1 ?k2 ?k3 ?k4 ?k5 ?kA ?kF ?kK ?k6 ?k7 ?k8 ?k9 ?kB ?_ ?c2 ?c3 ?c4 ?c5; (case kA => exact rfl); (case kF => exact rfl); (case kK => assumption); (case k1 => k_asm); (case k2 => k_asm); (case k3 => k_asm); (case k4 => k_asm); (case k5 => k_asm); (case k6 => k_is); (case k7 => k_is); (case k8 => (first | exact rm2 (by assumption) (by exact rfl) | exact rm1 (by assumption) (by exact rfl) | exact rm3 (by assumption) (by exact rfl) | exact rm0 (by assumption) | ktr_room)); (case k9 => first | exact BindsTo.of_eq rfl | exact binds_K (by k_in) rfl (by k_is) rfl rfl rfl); (case c5 => decide); (case kB => exact locs rfl); (case c2 => exact rfl); (case c3 => exact rfl); (case c4 => exact rfl); k_whole; intro g L' h' FG F1 N1 B1 X1 T1; (try k_fold))
  replace F1 := fr_of1 F1
  k_steps
  refine Halt.mk ?_
  refine While_inv2 (fun n m₁ nx => ∃ (q : Int) (t2' : Tok) (r' : List Nat), nx = ((x, instObj 272 dx) :: (dx, scD h1 h2 k1 k2 t1 t2' T q) :: rest) ∧ m₁ = (fun y => if y = Str.ofString "self" then some (.ref x) else none) ∧ At T q r' ∧ r'.dropWhile isBl = r.dropWhile isBl ∧ n = r'.length) (by assumption) (by assumption) ⟨p, t2, r, rfl, rfl, hA, rfl, rfl⟩ ?_ ?_
  rotate_left
  · passes_own
  · rintro n m₁ nx hh tk F2 N2 ⟨q, t2', r', rfl, rfl, hA', hr', rfl⟩
    clear F1 N1
    k_fold
    cases r' with
    | nil =>
      have e1 := hA'.eq
      k_steps
      rw [List.dropWhile_nil] at hr'
      exact hret q t2' _ _ (hr' ▸ hA') (by assumption) (by assumption)
    | cons c r' =>
      have e1 := hA'.lt
      have e2 := bl_in c
      cases hb : isBl c <;> rw [hb] at e2
      · k_steps
        rw [List.dropWhile_cons, hb] at hr'
        exact hret q t2' _ _ (hr' ▸ hA') (by assumption) (by assumption)
      · k_steps
        rw [List.dropWhile_cons, hb] at hr'
        exact ⟨_, _, _, _, r'.length, rfl, by assumption, by assumption, Nat.lt_succ_self _, q + 1, _, r', rfl, rfl, hA'.next, hr', rfl⟩

theorem peek_c {c : Nat}
  (B : Below A₀ base outer h₀) (F : Fr h₀ L s.heap m) (X : (hd.heap_1 w.params).In h₀)
  (N : News h₀ L s.heap ((x, instObj 272 dx) :: (dx, scD h1 h2 k1 k2 t1 t2 T p) :: rest))
  (Tp : Top view theLoose mean mg mb h₀) (hk : cs.kind = .function)
  (hdp : dp + 2 < recursionLimit) (hun : un + 16 < cLine)
  (hA : At T p (c :: r))
  (hret : ∀ (t : Tok) (h' : Heap) (tk' : Nat), Fr h₀ L h' m → News h₀ L h' ((x, instObj 272 dx) :: (dx, scD h1 h2 k1 k2 t1 t2 T p) :: rest) → Q (.str ⟨#[c]⟩ t) { s with heap := h', toks := tk' }) :
  wpAny (model prog w) (ktrTop dp un gd cn cs L a ccd cl outer) (call (.ref 206) [.ref x]) Q E s := peek_spec B F X N Tp hk hdp hun hA hret
theorem peek_n
  (B : Below A₀ base outer h₀) (F : Fr h₀ L s.heap m) (X : (hd.heap_1 w.params).In h₀)
  (N : News h₀ L s.heap ((x, instObj 272 dx) :: (dx, scD h1 h2 k1 k2 t1 t2 T p) :: rest))
  (Tp : Top view theLoose mean mg mb h₀) (hk : cs.kind = .function)
  (hdp : dp + 2 < recursionLimit) (hun : un + 16 < cLine)
  (hA : At T p [])
  (hret : ∀ (t : Tok) (h' : Heap) (tk' : Nat), Fr h₀ L h' m → News h₀ L h' ((x, instObj 272 dx) :: (dx, scD h1 h2 k1 k2 t1 t2 T p) :: rest) → Q (.str ⟨#[]⟩ t) { s with heap := h', toks := tk' }) :
  wpAny (model prog w) (ktrTop dp un gd cn cs L a ccd cl outer) (call (.ref 206) [.ref x]) Q E s := peek_spec B F X N Tp hk hdp hun hA hret
theorem kw_scan_2 : True := by
  k_with "call ref" => (k_here; (with_reducible show wpAny _ _ (call (Value.ref 206) _) _ _ _); k_dflt (refine' peek_c ?k1 ?k2 ?k3 ?k4 ?k5 ?kK ?kd ?ku ?x0 ?_; (case k1 => k_asm); (case k2 => k_asm); (case k3 => k_asm); (case k4 => first | k_asm | exact News.rot1 (by k_asm) | exact News.rot2 (by k_asm) | exact News.rot3 (by k_asm)); (case k5 => k_asm); (case kK => first | exact rfl | assumption); (case kd => (first | exact rm2 (by assumption) (by exact rfl) | exact rm1 (by assumption) (by exact rfl) | exact rm3 (by assumption) (by exact rfl) | exact rm0 (by assumption) | ktr_room)); (case ku => (first | exact rm2 (by assumption) (by exact rfl) | exact rm1 (by assumption) (by exact rfl) | exact rm3 (by assumption) (by exact rfl) | exact rm0 (by assumption) | ktr_units)); (case x0 => first | assumption | exact At.next (by assumption) | exact At.back (by assumption)); k_whole); intro t9 h9 tk9 F9 N9; (try k_sweep))
  k_with "call ref" => (k_here; (with_reducible show wpAny _ _ (call (Value.ref 206) _) _ _ _); k_dflt (refine' peek_n ?k1 ?k2 ?k3 ?k4 ?k5 ?kK ?kd ?ku ?x0 ?_; (case k1 => k_asm); (case k2 => k_asm); (case k3 => k_asm); (case k4 => first | k_asm | exact News.rot1 (by k_asm) | exact News.rot2 (by k_asm) | exact News.rot3 (by k_asm)); (case k5 => k_asm); (case kK => first | exact rfl | assumption); (case kd => (first | exact rm2 (by assumption) (by exact rfl) | exact rm1 (by assumption) (by exact rfl) | exact rm3 (by assumption) (by exact rfl) | exact rm0 (by assumption) | ktr_room)); (case ku => (first | exact rm2 (by assumption) (by exact rfl) | exact rm1 (by assumption) (by exact rfl) | exact rm3 (by assumption) (by exact rfl) | exact rm0 (by assumption) | ktr_units)); (case x0 => first | assumption | exact At.next (by assumption) | exact At.back (by assumption)); k_whole); intro t9 h9 tk9 F9 N9; (try k_sweep))
  k_with "call ref" => (k_here; (with_reducible show wpAny _ _ (call (Value.ref 220) _) _ _ _); k_dflt (refine' spaces_spec ?k1 ?k2 ?k3 ?k4 ?k5 ?kK ?kd ?ku ?x0 ?x1 ?x2 ?x3 ?_; (case k1 => k_asm); (case k2 => k_asm); (case k3 => k_asm); (case k4 => first | k_asm | exact News.rot1 (by k_asm) | exact News.rot2 (by k_asm) | exact News.rot3 (by k_asm)); (case k5 => k_asm); (case kK => first | exact rfl | assumption); (case kd => (first | exact rm2 (by assumption) (by exact rfl) | exact rm1 (by assumption) (by exact rfl) | exact rm3 (by assumption) (by exact rfl) | exact rm0 (by assumption) | ktr_room)); (case ku => (first | exact rm2 (by assumption) (by exact rfl) | exact rm1 (by assumption) (by exact rfl) | exact rm3 (by assumption) (by exact rfl) | exact rm0 (by assumption) | ktr_units)); (case x0 => first | assumption | k_ne); (case x1 => k_all); (case x2 => first | assumption | exact At.next (by assumption) | exact At.back (by assumption)); (case x3 => first | assumption | exact rfl); k_whole); intro p9 t9 h9 tk9 A9 F9 N9; (try k_sweep))
  trivial
theorem sep_spec {b : Bool} {r2 : List Nat}
  (B : Below A₀ base outer h₀) (F : Fr h₀ L s.heap m) (X : (hd.heap_1 w.params).In h₀)
  (N : News h₀ L s.heap ((x, instObj 272 dx) :: (dx, scD h1 h2 k1 k2 t1 t2 T p) :: rest))
  (Tp : Top view theLoose mean mg mb h₀) (hk : cs.kind = .function)
  (hdp : dp + 4 < recursionLimit) (hun : un + 32 < cLine)
  (hxd : x ≠ dx) (hrest : ∀ q ∈ rest, q.1 ≠ dx) (hA : At T p r) (hS : sepOf r = (b, r2))
  (hret : ∀ (p' : Int) (t2' : Tok) (h' : Heap) (tk' : Nat), At T p' r2 → Fr h₀ L h' m → News h₀ L h' ((x, instObj 272 dx) :: (dx, scD h1 h2 k1 k2 t1 t2' T p') :: rest) → Q (.bool b) { s with heap := h', toks := tk' }) :
  wpAny (model prog w) (ktrTop dp un gd cn cs L a ccd cl outer) (call (.ref 227) [.ref x]) Q E s := by
  have e0 : same0 (Str.ofString ",") = false := by decide
  unfold sepOf at hS
  refine wpAny_call ?_
  k_dflt (refine' code_def (binds := [(Str.ofString "self", .ref x)]) ?k1 ?k2 ?k3 ?k4 ?k5 ?kA ?kF ?kK ?k6 ?k7 ?k8 ?k9 ?kB ?_ ?c2 ?c3 ?c4 ?c5; (case kA => exact rfl); (case kF => exact rfl); (case kK => assumption); (case k1 => k_asm); (case k2 => k_asm); (case k3 => k_asm); (case k4 => k_asm); (case k5 => k_asm); (case k6 => k_is); (case k7 => k_is); (case k8 => (first | exact rm2 (by assumption) (by exact rfl) | exact rm1 (by assumption) (by exact rfl) | exact rm3 (by assumption) (by exact rfl) | exact rm0 (by assumption) | ktr_room)); (case k9 => first | exact BindsTo.of_eq rfl | exact binds_K (by k_in) rfl (by k_is) rfl rfl rfl); (case c5 => decide); (case kB => exact locs rfl); (case c2 => exact rfl); (case c3 => exact rfl); (case c4 => exact rfl); k_whole; intro g L' h' FG F1 N1 B1 X1 T1; (try k_fold))
  replace F1 := fr_of1 F1
  cases hd : r.dropWhile isBl with
  | nil =>
    rw [hd] at hS; injection hS with hb hr; subst hb hr
    k_steps
    exact hret _ _ _ _ (by assumption) (by assumption) (by assumption)
  | cons c r1 =>
    rw [hd] at hS
    have e1 := comma_eq c
    by_cases h44 : c = 44
    · simp only [h44, if_true, decide_true] at hS e1
      injection hS with hb hr; subst hb
      subst h44
      k_steps
      exact hret _ _ _ _ (by assumption) (by assumption) (by assumption)
    · simp only [h44, if_false, decide_false] at hS e1
      injection hS with hb hr; subst hb hr
      k_steps
      exact hret _ _ _ _ (by assumption) (by assumption) (by assumption)
theorem looks_spec {b : Bool}
  (B : Below A₀ base outer h₀) (F : Fr h₀ L s.heap m) (X : (hd.heap_1 w.params).In h₀)
  (N : News h₀ L s.heap ((x, instObj 272 dx) :: (dx, scD h1 h2 k1 k2 t1 t2 T p) :: rest))
  (Tp : Top view theLoose mean mg mb h₀) (hk : cs.kind = .function)
  (hdp : dp + 4 < recursionLimit) (hun : un + 32 < cLine)
  (hA : At T p r) (hS : looksOf r = b)
  (hret : ∀ (h' : Heap) (tk' : Nat), Fr h₀ L h' m → News h₀ L h' ((x, instObj 272 dx) :: (dx, scD h1 h2 k1 k2 t1 t2 T p) :: rest) → Q (.bool b) { s with heap := h', toks := tk' }) :
  wpAny (model prog w) (ktrTop dp un gd cn cs L a ccd cl outer) (call (.ref 234) [.ref x]) Q E s := by
  have e0 : same0 (Str.ofString "") = true := by decide
  refine wpAny_call ?_
  k_dflt (refine' code_def (binds := [(Str.ofString "self", .ref x)]) ?k1 ?k2 ?k3 ?k4 ?k5 ?kA ?kF ?kK ?k6 ?k7 ?k8 ?k9 ?kB ?_ ?c2 ?c3 ?c4 ?c5; (case kA => exact rfl); (case kF => exact rfl); (case kK => assumption); (case k1 => k_asm); (case k2 => k_asm); (case k3 => k_asm); (case k4 => k_asm); (case k5 => k_asm); (case k6 => k_is); (case k7 => k_is); (case k8 => (first | exact rm2 (by assumption) (by exact rfl) | exact rm1 (by assumption) (by exact rfl) | exact rm3 (by assumption) (by exact rfl) | exact rm0 (by assumption) | ktr_room)); (case k9 => first | exact BindsTo.of_eq rfl | exact binds_K (by k_in) rfl (by k_is) rfl rfl rfl); (case c5 => decide); (case kB => exact locs rfl); (case c2 => exact rfl); (case c3 => exact rfl); (case c4 => exact rfl); k_whole; intro g L' h' FG F1 N1 B1 X1 T1; (try k_fold))
  replace F1 := fr_of1 F1
  cases r with
  | nil =>
    subst hS
    k_steps
    exact hret _ _ (by assumption) (by assumption)
  | cons c r1 =>
    have e1 := empty_eq c
    have e2 := num_in c
    have e3 : isNum c = b := hS
    rw [e3] at e2
    k_steps
    exact hret _ _ (by assumption) (by assumption)
end
theorem off_exc : True := by
  w_top off
  k_with_none
  trivial
section
open Sem (wp)
noncomputable abbrev pfBm : List Value := [.ref 66, .type "Exception", .type "BaseException", .type "object"]
noncomputable abbrev pfObj : Obj := excClassObj (Str.ofString "PathFault") (Str.ofString "PathFault") 98 97 [.ref 66] pfBm true [] [] false none none (some (.ref 82)) none (some (.str (Str.ofString "PathFault") 277)) (some (.str (Str.ofString "PathFault") 285)) (some (.bool true)) "Exception.__new__"
noncomputable abbrev excO (t : Addr) : Obj := { cls := .ref 98, data := .fields #[.ref t, .none, .none, .none, .bool false, .none] }

section
variable {prog : Program} {w : World} {A : Around} {E : Value → Shared → Prop} {h : Heap} {g : Array GenState} {d : Drawn} {t : Nat} {os : OsState}

theorem pf_get (X : (hd.heap_1 w.params).In h) : h.get? 98 = some pfObj := X 98 _ (by rfl)
theorem pf_has (B : String) (hB : pfBm.contains (.type B) = true) : (Value.ref 98 :: pfBm).contains (.type B) = true := by
  rw [List.contains_cons, hB, Bool.or_true]

theorem pf_new_check {rest : List Value} {Q : Unit → Shared → Prop} (X : (hd.heap_1 w.params).In h)
    (hq : Q () ⟨h, g, d, t, os⟩) : wpAny (model prog w) A (checkBuiltinCall "Exception.__new__" ⟨.ref 98 :: rest, []⟩) Q E ⟨h, g, d, t, os⟩ := by
  have F := PySem.F.excBase_Exception
  have hC := pf_get X
  have hcont : (Value.ref 98 :: pfBm).contains (.type "Exception") = true := by decide +kernel
  have hstar := F.noStar
  simp only [checkBuiltinCall, F.newKind, F.newSplit, F.newRow]
  repeat (first | refine wpAny_loadPart_at hC ?_ | (refine wpAny_isSubtype_exc hC ?_; rw [hcont]) | refine wpAny_staticBase_exc hC ?_ | refine wpAny_madeBy_exc hC ?_ | simp only [bne_self_eq_false, Bool.false_eq_true, if_false] | wp_step)
  exact hq

theorem pf_new {R : Result → Shared → Prop} {rest : List Value} (X : (hd.heap_1 w.params).In h)
    (hq : R (.ok (.ret (.ref (h.objs.size + 1)))) ⟨(h.push (tupO rest)).push (excO h.objs.size), g, d, t, os⟩) (hrest : rest.length ≤ sizeLine) :
    codeAny (model prog w) A (.builtin "Exception.__new__" ⟨.ref 98 :: rest, []⟩) R ⟨h, g, d, t, os⟩ := by
  have F := PySem.F.excBase_Exception
  have hC := pf_get X
  have hends := F.ends
  have hcB : (Value.ref 98 :: pfBm).contains (.type "Exception") = true := by decide +kernel
  have hcA : (Value.ref 98 :: pfBm).contains (.type "AttributeError") = false := by decide +kernel
  have hcN : (Value.ref 98 :: pfBm).contains (.type "NameError") = false := by decide +kernel
  refine codeAny_builtinAt F.entry ?_
  unfold Builtin.«BaseException.__new__»
  refine PySem.wpAt_bind ?_
  show PySem.wpAt _ _ _ (stack >>= _) _ _ _
  refine PySem.wpAt_bind (PySem.wpAt_stack fun p below => PySem.wpAt_of_wpAny ?_)
  wp_walk
  refine PySem.wpAt_of_wpAny ?_
  rw [F.owner]
  repeat (first | with_reducible refine wpAny_madeHere_exc F.canon hC ?_ | with_reducible refine wpAny_loadPart_at hC ?_ | (with_reducible refine wpAny_isSubtype_exc hC ?_; first | rw [hcB] | rw [hcA] | rw [hcN]) | wp_step)
  show R _ _
  rw [Heap.size_push]
  exact hq

theorem keeps2 (X : (hd.heap_1 w.params).In h) (o₁ o₂ : Obj) : (hd.heap_1 w.params).In ((h.push o₁).push o₂) :=
  X.keeps fun _ _ e => Heap.get?_push_of_some _ (Heap.get?_push_of_some _ e)

theorem pf_type_call {rest : List Value} {Q : Fin → Shared → Prop} (X : (hd.heap_1 w.params).In h)
    (hq : wpAny (model prog w) A (call (.ref 95) (.ref (h.objs.size + 1) :: rest)) (fun r s' => r = .none ∧ Q (.done (.ret (.ref (h.objs.size + 1)))) s') E ⟨(h.push (tupO rest)).push (excO h.objs.size), g, d, t, os⟩) (hrest : rest.length ≤ sizeLine) :
    wpAny (model prog w) A (Builtin.«type.__call__» ⟨.ref 98 :: rest, []⟩) Q E ⟨h, g, d, t, os⟩ := by
  have F := PySem.F.excBase_Exception
  have hC := pf_get X
  repeat (first | with_reducible refine wpAny_loadPart_at hC ?_ | with_reducible refine wpAny_madeBy_exc hC ?_ | wp_step)
  refine codeAny_call_builtin_code (Code.quiet_builtin _ F.quiet) (pf_new_check X ?_)
  refine pf_new X ?_ hrest
  show wpAny _ _ _ _ _ _
  have X₁ := keeps2 X (tupO rest) (excO h.objs.size)
  have hC₁ := pf_get X₁
  have hget : ((h.push (tupO rest)).push (excO h.objs.size)).get? (h.objs.size + 1) = some (excO h.objs.size) := by heap_get
  have hcC : (Value.ref 98 :: pfBm).contains (.ref 98) = true := by simp
  unfold isInstance
  repeat (first | with_reducible refine wpAny_loadPart_at hget ?_ | (with_reducible refine wpAny_isSubtype_exc hC₁ ?_; rw [hcC]) | wp_step)
  show wpAny _ _ (typeLookup (.ref 98) _) _ _ _
  refine (looks_findIn X₁ (r := some (.ref 95)) (by rfl)).here ?_
  refine wpAny_holding (wpAny_bind ?_)
  refine (bind_fn X₁ _ (by rfl)).here ?_
  refine wpAny_bind (wpAny_mono hq (fun r s' hr => ?_) fun _ _ x => x)
  obtain ⟨rfl, hQ⟩ := hr
  wp_walk
  exact hQ

theorem pf_call {rest : List Value} {Q : Value → Shared → Prop} (X : (hd.heap_1 w.params).In h)
    (hq : wpAny (model prog w) (A.under (.builtin "type.__call__" ⟨.ref 98 :: rest, []⟩)) (call (.ref 95) (.ref (h.objs.size + 1) :: rest)) (fun r s' => r = .none ∧ Q (.ref (h.objs.size + 1)) s') E ⟨(h.push (tupO rest)).push (excO h.objs.size), g, d, t, os⟩) (hrest : rest.length ≤ sizeLine) :
    wpAny (model prog w) A (call (.ref 98) rest) Q E ⟨h, g, d, t, os⟩ := by
  have hC := pf_get X
  have f1 := tc_lookup
  have f2 := tc_bind (.ref 98)
  have hT : (⟨h, g, d, t, os⟩ : Shared).TypeIs (.ref 98) "type" := ⟨_, hC, rfl⟩
  refine wpAny_call (codeAny_of_tree ?_)
  show wpAny _ _ (callAny (.ref 98) _) _ _ _
  repeat (any_goals (first | assumption | with_reducible refine wpAny_loadPart_at hC ?_ | wp_step))
  refine ⟨rfl, ?_⟩
  refine codeAny_call_builtin_at (Code.quiet_builtin _ (by decide +kernel)) entry_typeCall (wpAny_check_type_call_sub hC (pf_type_call X ?_ hrest))
  exact hq
end
end
theorem off_exc2 : True := by
  w_top off
  k_with_none
  trivial
section
open PySem.Builtin.ObjectAttr
theorem pf_refuse (self : Value) : refuseLoop self "__setattr__" (.ref 98 :: pfBm) = pure () := by
  rw [refuseLoop_ref, refuseLoop_ref]
  exact PySem.F.store_Exception.passes self
section
variable {prog : Program} {w : World} {A : Around} {E : Value → Shared → Prop} {s : Shared} {R : Result → Shared → Prop} {x e : Addr} {h₀ : Heap} {L : Addr} {m : Str → Option Value}

theorem exc_open {ox : Obj} {od : Option Obj} {name : Str} {tk : Tok} {v : Value} (X : (hd.heap_1 w.params).In s.heap) (I : InstAt s.heap x ox 98 od) (ht : takerIn (hd.heap_1 w.params) 98 name = some none)
    (h : ∀ b, wpAny (model prog w) A.in1 (storeInOwnDict (.ref x) (.ref 98) (.str name tk) name v b)
      (fun fin s' => match fin with | .done f => R (.ok f) s' | .again c' => c'.quiet = true ∧ codeAny (model prog w) A c' R s') (fun e s' => R (.error e) s') s) :
    codeAny (model prog w) A (.call (.builtin "object.__setattr__") ⟨[.ref x, .str name tk, v], []⟩) R s := by
  have SF := PySem.F.store_object
  have hc : clsIn (hd.heap_1 w.params) 98 = some { name := Str.ofString "PathFault", bases := [.ref 66], mro := .ref 98 :: pfBm, ns := 97, qualname := Str.ofString "PathFault" } := by rfl
  have sub : Looks (model prog w) s.heap (isInstance (.ref x) (.type "object")) true := I.type.andThen (looks_mroIn X (by unfold mroIn; rw [hc]; rfl))
  refine codeAny_call_builtin SF.slot.plain SF.entry (@check_slot (model prog w) _ _ s "object.__setattr__" "object" "__setattr__" (.ref x) [.str name tk, v] [] _ SF.kind SF.split sub (SF.args (.ref x) (.str name tk) v) ?_)
  obtain ⟨attr, ha, hr⟩ := Option.bind_eq_some_iff.mp ht
  have hm : Looks (model prog w) s.heap (mroOf (.ref 98)) (.ref 98 :: pfBm) := (looks_clsIn X hc).andThen .now
  have L3 : Looks (model prog w) s.heap (storeTaker? attr) none := by
    cases attr with
    | none => exact .now
    | some a =>
      obtain ⟨b, hb, q⟩ := Option.map_eq_some_iff.mp hr
      refine (looks_takesIn X hb).andThen ?_
      cases b <;> first | exact .now | cases q
  rw [osa_eq, refuse_eq]
  refine wpAny_bind (wpAny_bind (I.type.here (wpAny_bind (hm.here ?_))))
  rw [pf_refuse]
  refine wpAny_pure (wpAny_bind (I.type.here (wpAny_bind ((looks_findIn X ha).here (wpAny_bind (L3.here ?_))))))
  exact h _

theorem store_dict {d : Addr} {es : List DictEntry} {n : Nat} {name : Str} {tk : Tok} {v : Value} {rest : Led} {Q : PySem.Fin → Shared → Prop}
    (F : Fr h₀ L s.heap m) (N : News h₀ L s.heap ((d, dictOf es n) :: rest)) (hr : ∀ q ∈ rest, q.1 ≠ d)
    (hno : es.any (·.refKey) = false) (hz : (putL name (PyData.keyHash w.params name) (.str name s.toks) v es).length ≤ 1000)
    (h : ∀ h', Fr h₀ L h' m → News h₀ L h' ((d, dictOf (putL name (PyData.keyHash w.params name) (.str name s.toks) v es) (putN name es n)) :: rest) → Q (.done (.ret .none)) { s with heap := h', toks := s.toks + 1 }) :
    wpAny (model prog w) A (storeInDict d (.str name tk) name v) Q E s := by
  obtain ⟨U1, U2⟩ := news_upd (pre := []) (f := Obj.putName name (PyData.keyHash w.params name) (.str name s.toks) v) F N (fun _ h => nomatch h) hr (putName_dict ..) rfl
  have D := (N (d, dictOf es n) (.head _)).1
  have D' := (U2 (d, _) (.head _)).1
  unfold storeInDict newKeyGuard
  refine wpAny_bind (wpAny_pure (wpAny_bind ?_))
  unfold nsSet
  refine wpAny_bind (wpAny_bind (wpAny_askSetting (wpAny_pure (wpAny_bind (wpAny_mkText (wpAny_bind (wpAny_loadPart D ?_)))))))
  dsimp only
  have c : (!es.toArray.any (·.key.isStr name) && es.toArray.any (·.refKey)) = false := by
    rw [← Array.any_toList, ← Array.any_toList]
    simp only [hno, Bool.and_false]
  rw [aRefKeyMayBeTheName_at, c]
  refine wpAny_updatePart D ?_
  refine wpAny_bind (wpAny_lookBehind D' (pastItsLine_dict (by rw [List.size_toArray, sizeLine_eq]; omega)) ?_)
  exact wpAny_pure (h _ U1 U2)

/-- the first store into an exception of ours: it gets its dict -/
theorem exc_set1 {vs : Array Value} {sl : Array (Option Value)} {name : Str} {v : Value} {rest : Led} {Q : Unit → Shared → Prop}
    (F : Fr h₀ L s.heap m) (X₀ : (hd.heap_1 w.params).In h₀) (N : News h₀ L s.heap ((e, ⟨.ref 98, none, .fields vs, sl⟩) :: rest)) (hr : ∀ q ∈ rest, q.1 ≠ e)
    (ht : takerIn (hd.heap_1 w.params) 98 name = some none)
    (h : ∀ d t' tk h', Fr h₀ L h' m → News h₀ L h' ((d, dictOf [⟨PyData.keyHash w.params name, .str name t', v⟩] 1) :: (e, ⟨.ref 98, some d, .fields vs, sl⟩) :: rest) → d ≠ e → (∀ q ∈ rest, q.1 < d) → Q () { s with heap := h', toks := tk }) :
    wpAny (model prog w) A (setAttr (.ref e) name v) Q E s := by
  have X := X₀.keeps F.keep
  have I : InstAt s.heap e ⟨.ref 98, none, .fields vs, sl⟩ 98 none := ⟨(N _ (.head _)).1, rfl, rfl, trivial⟩
  refine set_plain X I (by rfl) (exc_open (s := { s with toks := s.toks + 1 }) X I ht fun b => ?_)
  have hx := (N _ (.head _)).1
  have hL := (N _ (.head _)).2.1
  have hn := (N _ (.head _)).2.2
  have hxs : e < s.heap.objs.size := Heap.lt_size hx
  unfold storeInOwnDict
  refine wpAny_bind (wpAny_pure (wpAny_bind ?_))
  unfold ownDictForStores instanceDict
  have hc : clsIn (hd.heap_1 w.params) 98 = some { name := Str.ofString "PathFault", bases := [.ref 66], mro := .ref 98 :: pfBm, ns := 97, qualname := Str.ofString "PathFault" } := by rfl
  refine wpAny_bind (wpAny_loadPart hx (wpAny_bind ((looks_clsIn X hc) _ _ _ _ (fun _ _ e => e) ?_)))
  show wpAny _ _ (alloc { cls := .type "dict", data := .dict #[] } >>= fun d => update e (fun o => { o with dict := some d }) >>= fun _ => dictMade (.ref 98) e d) _ _ _
  refine wpAny_bind (wpAny_alloc (wpAny_bind (wpAny_update (Heap.get?_push_of_some _ hx) ?_)))
  refine wpAny_bind (wpAny_pure (wpAny_pure ?_))
  have F1 := F.push (dictOf [] 0)
  have N1 := News.push F N (dictOf [] 0)
  obtain ⟨F2, N2⟩ := news_upd (pre := [(s.heap.objs.size, dictOf [] 0)]) (f := fun o : Obj => { o with dict := some s.heap.objs.size }) F1 N1
    (fun q hq => by rw [List.mem_singleton.mp hq]; exact Nat.ne_of_gt hxs) hr rfl rfl
  refine store_dict (es := []) (n := 0) F2 N2 (fun q hq => ?_) rfl (by show 1 ≤ 1000; decide) fun h' F3 N3 => ?_
  · rcases List.mem_cons.mp hq with rfl | hq
    · exact Nat.ne_of_lt hxs
    · exact Nat.ne_of_lt (Heap.lt_size (N q (.tail _ hq)).1)
  · exact h _ _ _ h' F3 N3 (Nat.ne_of_gt hxs) fun q hq => Heap.lt_size (N q (.tail _ hq)).1
/-- a later store -/
theorem exc_set2 {vs : Array Value} {sl : Array (Option Value)} {d : Addr} {es : List DictEntry} {n : Nat} {name : Str} {v : Value} {rest : Led} {Q : Unit → Shared → Prop}
    (F : Fr h₀ L s.heap m) (X₀ : (hd.heap_1 w.params).In h₀) (N : News h₀ L s.heap ((d, dictOf es n) :: (e, ⟨.ref 98, some d, .fields vs, sl⟩) :: rest)) (hr : ∀ q ∈ rest, q.1 ≠ d) (hed : e ≠ d)
    (ht : takerIn (hd.heap_1 w.params) 98 name = some none) (hno : es.any (·.refKey) = false) (hz : ∀ t', (putL name (PyData.keyHash w.params name) (.str name t') v es).length ≤ 1000)
    (h : ∀ t' tk h', Fr h₀ L h' m → News h₀ L h' ((d, dictOf (putL name (PyData.keyHash w.params name) (.str name t') v es) (putN name es n)) :: (e, ⟨.ref 98, some d, .fields vs, sl⟩) :: rest) → Q () { s with heap := h', toks := tk }) :
    wpAny (model prog w) A (setAttr (.ref e) name v) Q E s := by
  have X := X₀.keeps F.keep
  have hx := (N _ (.tail _ (.head _))).1
  have hdd := (N _ (.head _)).1
  have I : InstAt s.heap e ⟨.ref 98, some d, .fields vs, sl⟩ 98 (some (dictOf es n)) := ⟨hx, rfl, rfl, hdd⟩
  refine set_plain X I (by rfl) (exc_open (s := { s with toks := s.toks + 1 }) X I ht fun b => ?_)
  have hc : clsIn (hd.heap_1 w.params) 98 = some { name := Str.ofString "PathFault", bases := [.ref 66], mro := .ref 98 :: pfBm, ns := 97, qualname := Str.ofString "PathFault" } := by rfl
  unfold storeInOwnDict
  refine wpAny_bind (wpAny_pure (wpAny_bind ?_))
  unfold ownDictForStores instanceDict
  refine wpAny_bind (wpAny_loadPart hx (wpAny_bind ((looks_clsIn X hc) _ _ _ _ (fun _ _ e => e) ?_)))
  show wpAny _ _ (pure (some d)) _ _ _
  refine wpAny_pure ?_
  refine store_dict (es := es) (n := n) F N (fun q hq => ?_) hno (hz _) fun h' F3 N3 => ?_
  · rcases List.mem_cons.mp hq with rfl | hq
    · exact hed
    · exact hr q hq
  · exact h _ _ h' F3 N3
end
end
theorem off_fly : True := by
  w_top off
  k_with_none
  trivial
section
/-- an exception of ours in flight: its dict stays at d -/
structure Fly (base : Heap) (l : List Env) (e d : Addr) (a0 fl : Value) (h : Heap) : Prop where
  keep : base.StaysIn h
  new : base.get? e = none
  frames : h.FunFrames base l
  there : ∃ oe vs T oT ts, h.get? e = some oe ∧ oe.cls = .ref 98 ∧ oe.dict = some d ∧ oe.data = .fields vs ∧ vs[0]? = some a0 ∧ vs[1]? = some (.ref T) ∧ base.get? T = none ∧ T ≠ e ∧ h.get? T = some oT ∧ oT.data = .fields ts ∧ ts[3]? = some fl

section
variable {M : Model} {A : Around} {E : Value → Shared → Prop} {s : Shared} {base : Heap} {env : Env} {outer l : List Env} {L e d : Addr} {a0 fl : Value} {Q : Unit → Shared → Prop}

theorem notFields_ne {h : Heap} {b e : Addr} {o oe : Obj} {vs : Array Value} (he : h.get? e = some oe) (hd : oe.data = .fields vs) (hb : h.get? b = some o) (hn : ∀ vs, o.data ≠ .fields vs) : b ≠ e := by
  rintro rfl
  rw [he] at hb
  cases hb
  exact hn vs hd

theorem tb_new {oe : Obj} {vs : Array Value} {head : Value} {hadNext : Bool}
    (hfr : A.frames = some (env :: outer)) (hl : s.heap.FunFrames base (env :: outer)) (hf : env.frame = some L) (hkb : base.StaysIn s.heap) (hen : base.get? e = none)
    (he : s.heap.get? e = some oe) (hc : oe.cls = .ref 98) (hdd : oe.dict = some d) (hd : oe.data = .fields vs) (hsz : 1 < vs.size) (h0 : vs[0]? = some a0)
    (h : ∀ h', Fly base (env :: outer) e d a0 (rawInt L) h' → s.heap.UpToSlots h' → Q () { s with heap := h' }) :
    wpAny M A (do setField (.ref e) 1 (← EntryCells.newEntry head (← frameOf env) .none (rawInt L) .none (← entryPlaceOf L hadNext))) Q E s := by
  have hne : e ∉ (env :: outer).filterMap (·.frame) := fun hm => by
    obtain ⟨_, o, ho, hnf⟩ := hl.mem hm
    exact notFields_ne he hd ho hnf rfl
  refine wpAny_bind (wpAny_frameOf_fun hfr hl hf fun h₁ hs₁ => ?_)
  refine wpAny_bind (wpAny_entryPlaceOf fun pl hpl => ?_)
  have he₁ : h₁.get? e = some oe := (hs₁.2.1 e hne).trans he
  have kb₁ : base.StaysIn h₁ := fun b o hbo => (hs₁.2.1 b fun hm => by rw [(hl.mem hm).1] at hbo; cases hbo).trans (hkb b o hbo)
  generalize hts : ([head, .ref L, .none, rawInt L, .none] ++ (if pl.isEmpty then List.replicate 6 Value.none else pl)) = ts
  have ts3 : ts.toArray[3]? = some (rawInt L) := by subst hts; simp
  have ts4 : 3 < ts.toArray.size := by subst hts; simp
  unfold EntryCells.newEntry newFields
  refine wpAny_bind (wpAny_newObj_type ?_ (hpl.sizeOk5 _ _ _ _ _))
  rw [hts]
  have he₂ := Heap.get?_push_of_some (h := h₁) { cls := .type "traceback", dict := none, data := .fields ts.toArray } he₁
  have hTe : h₁.objs.size ≠ e := Nat.ne_of_gt (Heap.lt_size he₁)
  refine wpAny_setField he₂ hd hsz (h _ ?_ ?_)
  · refine ⟨fun b o hbo => ?_, hen, ?_, _, vs.setIfInBounds 1 (.ref h₁.objs.size), h₁.objs.size, _, ts.toArray, Heap.get?_update_self _ he₂ (Obj.isFreed_of_fields (Obj.data_mapFields hd _)), by rw [Obj.cls_mapFields]; exact hc, ?_, Obj.data_mapFields hd _, ?_, ?_, kb₁.fresh, hTe, (Heap.get?_update_other _ _ (Ne.symm hTe)).trans (Heap.get?_push_size h₁ rfl), rfl, ts3⟩
    · have hbe : b ≠ e := by rintro rfl; rw [hen] at hbo; cases hbo
      rw [Heap.get?_update_other _ _ (Ne.symm hbe)]
      exact Heap.get?_push_of_some _ (kb₁ b o hbo)
    · refine (Heap.FunFrames.of_slotsOnly hs₁ hl).of_keeps fun b o hb hn => ⟨o, ?_, rfl⟩
      rw [Heap.get?_update_other _ _ (Ne.symm (notFields_ne he₁ hd hb hn))]
      exact Heap.get?_push_of_some _ hb
    · obtain ⟨c, dd, dt, sl⟩ := oe
      cases hd
      exact hdd
    · rw [Array.getElem?_setIfInBounds_ne (by decide)]; exact h0
    · simp [hsz]
  · intro b o hb hn
    obtain ⟨sl, hs⟩ := hs₁.2.2 b o hb
    refine ⟨sl, ?_⟩
    rw [Heap.get?_update_other _ _ (Ne.symm (notFields_ne he hd hb hn))]
    exact Heap.get?_push_of_some _ hs

/-- the traceback's head is turned -/
theorem fly_turn {fl' : Value} {f : Option Addr} (hfl : f.elim Value.none (fun a => rawInt a) = fl') (R : Fly base l e d a0 fl s.heap)
    (h : ∀ h', Fly base l e d a0 fl' h' → s.heap.UpToSlots h' → Q () { s with heap := h' }) : wpAny M A (setFlight (.ref e) f) Q E s := by
  obtain ⟨k1, k2, k3, oe, vs, T, oT, ts, he, hc, hdd, hd, h0, h1, hT0, hTe, hT, hdT, h3⟩ := R
  unfold setFlight
  refine wpAny_bind (wpAny_field he hd h1 ?_)
  rw [if_pos (show (Value.ref T != Value.none) = true from by simp), hfl]
  have h3s : 3 < ts.size := (Array.getElem?_eq_some_iff.mp h3).1
  refine wpAny_setField hT hdT h3s (h _ ⟨fun b o hbo => ?_, k2, ?_, oe, vs, T, _, ts.setIfInBounds 3 fl', ?_, hc, hdd, hd, h0, h1, hT0, hTe, Heap.get?_update_self _ hT (Obj.isFreed_of_fields (Obj.data_mapFields hdT _)), Obj.data_mapFields hdT _, by simp [h3s]⟩ ?_)
  · have hbT : b ≠ T := by rintro rfl; rw [hT0] at hbo; cases hbo
    rw [Heap.get?_update_other _ _ (Ne.symm hbT)]; exact k1 b o hbo
  · refine k3.of_keeps fun b o hb hn => ⟨o, ?_, rfl⟩
    rw [Heap.get?_update_other _ _ (Ne.symm (notFields_ne hT hdT hb hn))]; exact hb
  · rw [Heap.get?_update_other _ _ hTe]; exact he
  · intro b o hb hn
    refine ⟨o.slots, ?_⟩
    rw [Heap.get?_update_other _ _ (Ne.symm (notFields_ne hT hdT hb hn))]; exact hb

/-- it looks at a frame -/
theorem fly_note (hfr : A.frames = some (env :: outer)) (hf : env.frame = some L) (R : Fly base (env :: outer) e d a0 .none s.heap)
    (h : ∀ h', Fly base (env :: outer) e d a0 (rawInt L) h' → s.heap.UpToSlots h' → Q () { s with heap := h' }) : wpAny M A (noteFrame (.ref e) env) Q E s := by
  obtain ⟨k1, k2, k3, oe, vs, T, oT, ts, he, hc, hdd, hd, h0, h1, hT0, hTe, hT, hdT, h3⟩ := R
  unfold noteFrame
  simp only [hf]
  refine wpAny_bind (wpAny_field he hd h1 ?_)
  rw [if_pos (show (Value.ref T != Value.none) = true from by simp)]
  refine wpAny_bind (wpAny_field hT hdT h3 ?_)
  rw [if_neg (show ¬ ((Value.none == rawInt L) = true) from by simp [rawInt])]
  refine wpAny_bind (wpAny_setField hT hdT (Array.getElem?_eq_some_iff.mp h3).1 ?_)
  have other : ∀ b, b ≠ T → (s.heap.update T (Obj.mapFields (·.setIfInBounds 3 Value.none))).get? b = s.heap.get? b := fun b hb => Heap.get?_update_other _ _ (Ne.symm hb)
  refine tb_new hfr (k3.of_keeps fun b o hb hn => ⟨o, (other b (notFields_ne hT hdT hb hn)).trans hb, rfl⟩) hf
    (fun b o hbo => (other b fun q => by rw [q, hT0] at hbo; cases hbo).trans (k1 b o hbo)) k2 ((other e (Ne.symm hTe)).trans he) hc hdd hd (Array.getElem?_eq_some_iff.mp h1).1 h0 fun h' R' U => h h' R' ?_
  intro b o hb hn
  exact U b o ((other b (notFields_ne hT hdT hb hn)).trans hb) hn

theorem fly_pop (R : Fly base (env :: outer) e d a0 fl s.heap) : Fly base outer e d a0 fl s.heap := ⟨R.keep, R.new, R.frames.2.2, R.there⟩

/-- it leaves a frame behind which it was not made -/
theorem fly_on (hfr : A.frames = some (env :: outer)) (hf : env.frame = some L) (R : Fly base (env :: outer) e d a0 .none s.heap)
    (h : ∀ h', Fly base outer e d a0 .none h' → s.heap.UpToSlots h' → Q () { s with heap := h' }) : wpAny M A (leaving env (.ref e)) Q E s := by
  unfold leaving
  refine wpAny_bind (fly_note hfr hf R fun h₁ R₁ U₁ => ?_)
  exact fly_turn (f := none) rfl R₁ fun h₂ R₂ U₂ => h h₂ ⟨R₂.keep, R₂.new, R₂.frames.2.2, R₂.there⟩ (U₁.trans U₂)

/-- it leaves the frame where it was made -/
theorem fly_first {oe : Obj} {vs : Array Value} (hfr : A.frames = some (env :: outer)) (hl : s.heap.FunFrames base (env :: outer)) (hf : env.frame = some L) (hkb : base.StaysIn s.heap) (hen : base.get? e = none)
    (he : s.heap.get? e = some oe) (hc : oe.cls = .ref 98) (hdd : oe.dict = some d) (hd : oe.data = .fields vs) (h1 : vs[1]? = some .none) (h0 : vs[0]? = some a0)
    (h : ∀ h', Fly base outer e d a0 .none h' → s.heap.UpToSlots h' → Q () { s with heap := h' }) : wpAny M A (leaving env (.ref e)) Q E s := by
  unfold leaving noteFrame
  simp only [hf]
  refine wpAny_bind (wpAny_bind (wpAny_field he hd h1 ?_))
  rw [if_neg (by decide)]
  refine tb_new hfr hl hf hkb hen he hc hdd hd (Array.getElem?_eq_some_iff.mp h1).1 h0 fun h₁ R₁ U₁ => ?_
  exact fly_turn (f := none) rfl R₁ fun h₂ R₂ U₂ => h h₂ ⟨R₂.keep, R₂.new, R₂.frames.2.2, R₂.there⟩ (U₁.trans U₂)
end
end
theorem off_gone : True := by
  w_top off
  k_with_none
  trivial
section
noncomputable abbrev pfD (hs1 hs2 : Int) (t1 t2 ta tb : Tok) (msg : Str) (z : Int) : Obj := dictOf [⟨hs1, .str "message" t1, .str msg ta⟩, ⟨hs2, .str "place" t2, .int z tb⟩] 2
/-- the exception is out of a callee whose heap below was G; z: its place -/
def Gone (base G : Heap) (l : List Env) (e : Addr) (z : Int) (news : Led) (h : Heap) : Prop :=
  (∃ B a0 d hs1 hs2 t1 t2 ta tb msg, base.StaysIn B ∧ (∀ b o, G.get? b = some o → b ∉ l.filterMap (·.frame) → B.get? b = some o) ∧
    (∀ q ∈ (d, pfD hs1 hs2 t1 t2 ta tb msg z) :: news, B.get? q.1 = some q.2 ∧ G.get? q.1 = none ∧ base.get? q.1 = none) ∧ Fly B l e d a0 .none h) ∧ G.UpToSlots h
def Thrown (base h₀ : Heap) (L : Addr) (m : Str → Option Value) (l : List Env) (e : Addr) (z : Int) (news : Led) (h : Heap) : Prop :=
  ∃ g, Fr h₀ L g m ∧ Gone base g l e z news h
theorem Gone.mono {base G : Heap} {l : List Env} {e : Addr} {z : Int} {news news' : Led} {h : Heap} (R : Gone base G l e z news h) (hs : ∀ q ∈ news', q ∈ news) : Gone base G l e z news' h := by
  obtain ⟨⟨B, a0, d, hs1, hs2, t1, t2, ta, tb, msg, h1, h2, h3, h4⟩, h5⟩ := R
  refine ⟨⟨B, a0, d, hs1, hs2, t1, t2, ta, tb, msg, h1, h2, fun q hq => ?_, h4⟩, h5⟩
  rcases List.mem_cons.mp hq with rfl | hq
  · exact h3 _ (.head _)
  · exact h3 q (.tail _ (hs q hq))
theorem Thrown.mono {base h₀ : Heap} {L : Addr} {m : Str → Option Value} {l : List Env} {e : Addr} {z : Int} {news news' : Led} {h : Heap} (R : Thrown base h₀ L m l e z news h) (hs : ∀ q ∈ news', q ∈ news) :
    Thrown base h₀ L m l e z news' h := let ⟨g, F, R⟩ := R; ⟨g, F, R.mono hs⟩

section
variable {M : Model} {A : Around} {E : Value → Shared → Prop} {s' : Shared} {base g : Heap} {outer : List Env} {L a e d t : Addr} {m : Str → Option Value} {name : Str} {scope : Scope} {cd : Value} {Q : Unit → Shared → Prop} {news : Led}
  {hs1 hs2 : Int} {t1 t2 ta tb : Tok} {msg : Str} {z : Int}

theorem gone_first (K : Below A base outer g) (F : Fr g L s'.heap m)
    (N : News g L s'.heap ((d, pfD hs1 hs2 t1 t2 ta tb msg z) :: (e, ⟨.ref 98, some d, .fields #[.ref t, .none, .none, .none, .bool false, .none], #[]⟩) :: news)) (hde : d ≠ e) (hne : ∀ q ∈ news, q.1 ≠ e)
    (hQ : ∀ h', Gone base g outer e z news h' → Q () { s' with heap := h' }) (hk : scope.kind = .function) :
    wpAny M (A.deeper (envOf name scope L a cd)) (leaving (envOf name scope L a cd) (.ref e)) Q E s' := by
  have K' := K.push (name := name) (a := a) (cd := cd) F hk
  have he := N _ (.tail _ (.head _))
  generalize hfs : (envOf name scope L a cd :: outer).filterMap (·.frame) = fs
  have hin : ∀ env ∈ (envOf name scope L a cd :: outer), ∀ b, env.frame = some b → b ∈ e :: fs := fun env he b hb => .tail _ (hfs ▸ List.mem_filterMap.mpr ⟨env, he, hb⟩)
  have inFs : ∀ b, b ∈ fs → b = L ∨ ∃ o, g.get? b = some o := fun b hb => by
    rw [← hfs] at hb
    rcases kts_mem hb with z | z
    · exact .inl z
    · obtain ⟨o, ho, _⟩ := (K.frames.mem z).2
      exact .inr ⟨o, ho⟩
  have st : base.StaysIn (hideAll s'.heap (e :: fs)) := fun b o q => hideAll_get _ (K'.stays b o q) fun hm => by
    rcases List.mem_cons.mp hm with rfl | hm
    · have := K.stays _ _ q; rw [he.2.2] at this; cases this
    · rw [← hfs] at hm; rw [(K'.frames.mem hm).1] at q; cases q
  have sg : ∀ b o, g.get? b = some o → b ∉ outer.filterMap (·.frame) → (hideAll s'.heap (e :: fs)).get? b = some o := fun b o q nm => hideAll_get _ (F.keep b o q) fun hm => by
    rcases List.mem_cons.mp hm with rfl | hm
    · rw [he.2.2] at q; cases q
    · rw [← hfs] at hm
      rcases kts_mem hm with z | z
      · rw [z, kts_self F] at q; cases q
      · exact nm z
  have hl : ∀ q ∈ (d, pfD hs1 hs2 t1 t2 ta tb msg z) :: news, (hideAll s'.heap (e :: fs)).get? q.1 = some q.2 ∧ g.get? q.1 = none ∧ base.get? q.1 = none := fun q hq => by
    have hN : q ∈ (d, pfD hs1 hs2 t1 t2 ta tb msg z) :: (e, (⟨.ref 98, some d, .fields #[.ref t, .none, .none, .none, .bool false, .none], #[]⟩ : Obj)) :: news := by
      rcases List.mem_cons.mp hq with rfl | hq
      · exact .head _
      · exact .tail _ (.tail _ hq)
    have hqe : q.1 ≠ e := by
      rcases List.mem_cons.mp hq with rfl | hq
      · exact hde
      · exact hne q hq
    refine ⟨hideAll_get _ (N q hN).1 fun hm => ?_, (N q hN).2.2, fresh_of_stays K.stays (N q hN).2.2⟩
    rcases List.mem_cons.mp hm with z | hm
    · exact hqe z
    · rcases inFs _ hm with z | ⟨o, ho⟩
      · exact (N q hN).2.1 z
      · rw [(N q hN).2.2] at ho; cases ho
  refine fly_first (base := hideAll s'.heap (e :: fs)) K'.stack (funFrames_hide K'.frames hin) rfl (fun b o q => of_hideAll _ q) (hideAll_none _ (.head _)) he.1 rfl rfl rfl rfl rfl fun h' R U => ?_
  exact hQ h' ⟨⟨_, _, d, hs1, hs2, t1, t2, ta, tb, msg, st, sg, hl, R⟩, (Heap.UpToSlots.of_keeps F.keep).trans U⟩

theorem gone_on (K : Below A base outer g) (R : Thrown base g L m (envOf name scope L a cd :: outer) e z news s'.heap)
    (hQ : ∀ h', Gone base g outer e z news h' → Q () { s' with heap := h' }) :
    wpAny M (A.deeper (envOf name scope L a cd)) (leaving (envOf name scope L a cd) (.ref e)) Q E s' := by
  obtain ⟨g₂, F, ⟨B, a0, d, hs1, hs2, t1, t2, ta, tb, msg, hB, hBG, hl, R⟩, hsm⟩ := R
  refine fly_on (Around.frames_deeper K.stack) rfl R fun h' R' U => ?_
  refine hQ h' ⟨⟨B, a0, d, hs1, hs2, t1, t2, ta, tb, msg, hB, fun b o q nm => hBG b o (F.keep b o q) fun hm => ?_, fun q hq => ⟨(hl q hq).1, kts_none F.keep (hl q hq).2.1, (hl q hq).2.2⟩, R'⟩, (Heap.UpToSlots.of_keeps F.keep).trans (hsm.trans U)⟩
  rcases kts_mem hm with z | z
  · rw [z, kts_self F] at q; cases q
  · exact nm z
end
end
theorem off_pinit : True := by
  w_top off
  k_with_none
  trivial
section
theorem kw_pinit_1 : True := by
  k_with "ne" => (refine neN ?_; (try dsimp only); first | assumption | exact Ne.symm (by assumption) | exact Nat.ne_of_gt (by assumption) | exact Nat.ne_of_lt (by assumption) | exact lt_1 (by assumption) (by k_mem) | exact lt_2 (by assumption) (by k_mem) | exact Nat.ne_of_gt (And.left (by assumption)) | exact Nat.ne_of_lt (And.left (by assumption)) | exact Nat.ne_of_gt (And.left (And.right (by assumption))) | exact Nat.ne_of_lt (And.left (And.right (by assumption))) | exact Nat.ne_of_gt (And.left (And.right (And.right (by assumption)))) | exact Nat.ne_of_lt (And.left (And.right (And.right (by assumption)))) | exact Nat.ne_of_gt (And.left (And.right (And.right (And.right (by assumption))))) | exact Nat.ne_of_lt (And.left (And.right (And.right (And.right (by assumption))))) | exact Nat.ne_of_gt (And.left (And.right (And.right (And.right (And.right (by assumption)))))) | exact Nat.ne_of_lt (And.left (And.right (And.right (And.right (And.right (by assumption)))))) | exact Nat.ne_of_gt (And.left (And.right (And.right (And.right (And.right (And.right (by assumption))))))) | exact Nat.ne_of_lt (And.left (And.right (And.right (And.right (And.right (And.right (by assumption))))))))
  k_with "newTuple" => (k_here; k_dflt (refine' kup_newTuple ?F ?N ?_ ?z; (case F => k_asm); (case N => k_asm); (case z => kmk_size)); intro D9 h9 F9 N9 u9; (try k_sweep))
  k_with "newList" => (k_here; k_dflt (refine' newList_K ?k1 ?k2 ?_; (case k1 => k_asm); (case k2 => k_asm); k_whole); intro D9 h9 F9 N9 u9; (try k_sweep))
  k_with "execs cons" => (k_here; refine wpAny_execs_cons ?_; k_fold)
  k_with "eval Tuple" => (k_here; k_fold)
  k_with "eval List" => (k_here; k_fold)
  k_with "eval Call Attribute" => (k_here; k_fold)
  k_with "eval Call" => (k_here; k_fold)
  k_with "exec While BoolOp cons nil" => refine Halt.out ?_
  k_with "exec While Compare cons nil" => refine Halt.out ?_
  k_with "exec While Call cons nil" => refine Halt.out ?_
  k_with "eval Name" => (k_here; k_dflt (refine' ld ?k1 ?k2 ?_; (case k1 => k_asm); (case k2 => first | exact rfl | assumption); k_whole))
  k_with "call builtin:len" => (k_here; first | (refine len_is (by assumption) (by omega) ?_; intro _ _) | (refine PySem.P.len_str (by have h9 := (‹At _ _ _›).small; omega) ?_))
  k_with "subscriptTail" => (k_here; (with_reducible show wpAny _ _ (subscriptTail _ _ (Value.str _ _) (Value.int _ _)) _ _ _); k_dflt (refine' item_at ?k1 ?_ ?k2 ?k3; (case k1 => assumption); (case k2 => with_unfolding_all rfl); (case k3 => intro _; with_unfolding_all rfl)); intro _ _)
  k_with "binaryOp Add int int" => (k_here; refine addI ?_; intro _ _)
  k_with "binaryOp Sub int int" => (k_here; refine subI ?_; intro _ _)
  k_with "compareOp In str str" => (k_here; refine in_is (by assumption) ?_)
  k_with "compareOp NotIn str str" => (k_here; refine notin_is (by assumption) ?_)
  k_with "compareOp Eq str str" => (k_here; refine eqs_is (by assumption) ?_)
  k_with "compareOp NotEq str str" => (k_here; refine nes_is (by assumption) ?_)
  k_with "binaryOp FloorDiv int int" => (k_here; refine fdivI (by omega) (by omega) ?_; intro _ _)
  k_with "binaryOp Mod int int" => (k_here; refine fmodI (by omega) ?_; intro _ _)
  k_with "compareOp Eq int int" => (k_here; refine eqi_is (by assumption) ?_)
  k_with "compareOp In str ref" => (k_here; k_dflt (refine' in_two ?k1 ?k2 ?_; (case k1 => exact (News.get (by k_asm) (by k_mem))); (case k2 => assumption)))
  k_with "compareOp NotIn str ref" => (k_here; k_dflt (refine' notin_two ?k1 ?k2 ?_; (case k1 => exact (News.get (by k_asm) (by k_mem))); (case k2 => assumption)))
  k_with "subscriptTail Name Slice str ref" => (k_here; (with_reducible show wpAny _ _ (subscriptTail _ (Expr.Slice (some _) (some _) none _) _ _) _ _ _); (with_reducible rename Fr _ _ _ _ => F'); (with_reducible rename News _ _ _ _ => N'); (refine slice_strN_ss (hsz := ?hsz) (s := ⟨_, _, _, _, _⟩) F' N' ?_); (case hsz => (have h9 := (‹At _ _ _›).small; rw [PySem.sizeLine_eq]; omega)); intro _ _ _ _ _; (try k_sweep))
  k_with "subscriptTail Attribute Slice str ref" => (k_here; (with_reducible show wpAny _ _ (subscriptTail _ (Expr.Slice (some _) (some _) none _) _ _) _ _ _); (with_reducible rename Fr _ _ _ _ => F'); (with_reducible rename News _ _ _ _ => N'); (refine slice_strN_ss (hsz := ?hsz) (s := ⟨_, _, _, _, _⟩) F' N' ?_); (case hsz => (have h9 := (‹At _ _ _›).small; rw [PySem.sizeLine_eq]; omega)); intro _ _ _ _ _; (try k_sweep))
  k_with "setAttr ref" => (k_here; k_dflt (first
  | (refine' exc_set2 ?k1 ?k2 ?k3 ?k4 ?k5 ?k6 ?k7 ?k8 ?_; (case k1 => k_asm); (case k2 => k_asm); (case k3 => k_asm); (case k4 => assumption); (case k5 => assumption); (case k6 => rfl); (case k7 => rfl); (case k8 => intro _; exact Nat.le_of_ble_eq_true rfl); intro t9 tk9 h9 F9 N9; (try k_sweep))
  | (refine' exc_set1 ?k1 ?k2 ?k3 ?k4 ?k5 ?_; (case k1 => k_asm); (case k2 => k_asm); (case k3 => k_asm); (case k4 => assumption); (case k5 => rfl); intro d9 t9 tk9 h9 F9 N9 e9 l9; (have e8 := Ne.symm e9); (have l8 := fun q hq => Nat.ne_of_lt (l9 q hq)); (try k_sweep))))
  trivial
end
section
variable {e t0 : Addr} {msg : Str} {ta tb : Tok} {z : Int}
theorem init_spec
  (B : Below A₀ base outer h₀) (F : Fr h₀ L s.heap m) (X : (hd.heap_1 w.params).In h₀)
  (N : News h₀ L s.heap ((e, excO t0) :: rest))
  (Tp : Top view theLoose mean mg mb h₀) (hk : cs.kind = .function)
  (hdp : dp + 2 < recursionLimit) (hun : un + 16 < cLine)
  (hr : ∀ q ∈ rest, q.1 ≠ e)
  (hret : ∀ (d : Addr) (hs1 hs2 : Int) (t1 t2 : Tok) (h' : Heap) (tk' : Nat), Fr h₀ L h' m → News h₀ L h' ((d, dictOf [⟨hs1, .str "message" t1, .str msg ta⟩, ⟨hs2, .str "place" t2, .int z tb⟩] 2) :: (e, ⟨.ref 98, some d, .fields #[.ref t0, .none, .none, .none, .bool false, .none], #[]⟩) :: rest) → d ≠ e → (∀ q ∈ rest, q.1 < d) → Q .none { s with heap := h', toks := tk' }) :
  wpAny (model prog w) (ktrTop dp un gd cn cs L a ccd cl outer) (call (.ref 95) [.ref e, .str msg ta, .int z tb]) Q E s := by
  refine wpAny_call ?_
  k_dflt (refine' code_def (binds := [(Str.ofString "self", .ref e), (Str.ofString "message", .str msg ta), (Str.ofString "place", .int z tb)]) ?k1 ?k2 ?k3 ?k4 ?k5 ?kA ?kF ?kK ?k6 ?k7 ?k8 ?k9 ?kB ?_ ?c2 ?c3 ?c4 ?c5; (case kA => exact rfl); (case kF => exact rfl); (case kK => assumption); (case k1 => k_asm); (case k2 => k_asm); (case k3 => k_asm); (case k4 => k_asm); (case k5 => k_asm); (case k6 => k_is); (case k7 => k_is); (case k8 => (first | exact rm2 (by assumption) (by exact rfl) | exact rm1 (by assumption) (by exact rfl) | exact rm3 (by assumption) (by exact rfl) | exact rm0 (by assumption) | ktr_room)); (case k9 => first | exact BindsTo.of_eq rfl | exact binds_K (by k_in) rfl (by k_is) rfl rfl rfl); (case c5 => decide); (case kB => exact locs rfl); (case c2 => exact rfl); (case c3 => exact rfl); (case c4 => exact rfl); k_whole; intro g L' h' FG F1 N1 B1 X1 T1; (try k_fold))
  replace F1 := fr_of3 F1
  k_steps
  exact hret _ _ _ _ _ _ _ (by assumption) (by assumption) (by assumption) (by assumption)
end
theorem off_fault : True := by
  w_top off
  k_with_none
  trivial
section
theorem raise_pf {M : Model} {A : Around} {E : Value → Shared → Prop} {s : Shared} {env : Env} {x : Sem Value} {Q : Flow → Shared → Prop} (hh : A.handled = none)
    (h : wpAny M A x (fun v s₁ => ∃ e d t, v = .ref e ∧ s₁.heap.get? 98 = some pfObj ∧ s₁.heap.get? e = some ⟨.ref 98, some d, .fields #[.ref t, .none, .none, .none, .bool false, .none], #[]⟩ ∧ E (.ref e) s₁) E s) :
    wpAny M A (raiseStmt env (some x) none) Q E s := by
  have hcB : (Value.ref 98 :: pfBm).contains (.type "BaseException") = true := by decide +kernel
  unfold raiseStmt
  refine wpAny_bind (wpAny_mono h (fun v s₁ h₁ => ?_) fun _ _ x => x)
  obtain ⟨e, d, t, rfl, hC, he, hE⟩ := h₁
  obtain ⟨hp, g, dd, tk, os⟩ := s₁
  repeat (first | with_reducible refine wpAny_loadPart_at he ?_ | with_reducible refine wpAny_loadPart_at hC ?_ | (with_reducible refine wpAny_isSubtype_exc hC ?_; rw [hcB]) | wp_step)
  exact wpAny_raiseNew_none hh hE
def PfRaise (E : Value → Shared → Prop) (v : Value) (s₁ : Shared) : Prop :=
  ∃ e d t, v = .ref e ∧ s₁.heap.get? 98 = some pfObj ∧ s₁.heap.get? e = some ⟨.ref 98, some d, .fields #[.ref t, .none, .none, .none, .bool false, .none], #[]⟩ ∧ E (.ref e) s₁
theorem raise_call {M : Model} {A : Around} {E : Value → Shared → Prop} {s : Shared} {env : Env} {f : PySem.Expr} {args : List PySem.Expr} {cpos pos : Pos} {Q : Flow → Shared → Prop} (hh : A.handled = none)
    (h : wpAny M A (eval (.Call f args [] cpos) env) (PfRaise E) E s) :
    wpAny M A (exec (.Raise (some (.Call f args [] cpos)) none pos) env) Q E s := by
  rw [arm_exec_Raise]
  refine wpAny_bind (wpAny_standAt ?_)
  exact raise_pf hh (wpAny_bind (wpAny_mono h (fun v s₁ h₁ => wpAny_bind (wpAny_standAt (wpAny_pure h₁))) fun _ _ x => x))
theorem kw_fault_1 : True := by
  k_with "ne" => (refine neN ?_; (try dsimp only); first | assumption | exact Ne.symm (by assumption) | exact Nat.ne_of_gt (by assumption) | exact Nat.ne_of_lt (by assumption) | exact lt_1 (by assumption) (by k_mem) | exact lt_2 (by assumption) (by k_mem) | exact Nat.ne_of_gt (And.left (by assumption)) | exact Nat.ne_of_lt (And.left (by assumption)) | exact Nat.ne_of_gt (And.left (And.right (by assumption))) | exact Nat.ne_of_lt (And.left (And.right (by assumption))) | exact Nat.ne_of_gt (And.left (And.right (And.right (by assumption)))) | exact Nat.ne_of_lt (And.left (And.right (And.right (by assumption)))) | exact Nat.ne_of_gt (And.left (And.right (And.right (And.right (by assumption))))) | exact Nat.ne_of_lt (And.left (And.right (And.right (And.right (by assumption))))) | exact Nat.ne_of_gt (And.left (And.right (And.right (And.right (And.right (by assumption)))))) | exact Nat.ne_of_lt (And.left (And.right (And.right (And.right (And.right (by assumption)))))) | exact Nat.ne_of_gt (And.left (And.right (And.right (And.right (And.right (And.right (by assumption))))))) | exact Nat.ne_of_lt (And.left (And.right (And.right (And.right (And.right (And.right (by assumption))))))))
  k_with "newTuple" => (k_here; k_dflt (refine' kup_newTuple ?F ?N ?_ ?z; (case F => k_asm); (case N => k_asm); (case z => kmk_size)); intro D9 h9 F9 N9 u9; (try k_sweep))
  k_with "newList" => (k_here; k_dflt (refine' newList_K ?k1 ?k2 ?_; (case k1 => k_asm); (case k2 => k_asm); k_whole); intro D9 h9 F9 N9 u9; (try k_sweep))
  k_with "execs cons" => (k_here; refine wpAny_execs_cons ?_; k_fold)
  k_with "eval Tuple" => (k_here; k_fold)
  k_with "eval List" => (k_here; k_fold)
  k_with "eval Call Attribute" => (k_here; k_fold)
  k_with "eval Call" => (k_here; k_fold)
  k_with "exec While BoolOp cons nil" => refine Halt.out ?_
  k_with "exec While Compare cons nil" => refine Halt.out ?_
  k_with "exec While Call cons nil" => refine Halt.out ?_
  k_with "eval Name" => (k_here; k_dflt (refine' ld ?k1 ?k2 ?_; (case k1 => k_asm); (case k2 => first | exact rfl | assumption); k_whole))
  k_with "call builtin:len" => (k_here; first | (refine len_is (by assumption) (by omega) ?_; intro _ _) | (refine PySem.P.len_str (by have h9 := (‹At _ _ _›).small; omega) ?_))
  k_with "subscriptTail" => (k_here; (with_reducible show wpAny _ _ (subscriptTail _ _ (Value.str _ _) (Value.int _ _)) _ _ _); k_dflt (refine' item_at ?k1 ?_ ?k2 ?k3; (case k1 => assumption); (case k2 => with_unfolding_all rfl); (case k3 => intro _; with_unfolding_all rfl)); intro _ _)
  k_with "binaryOp Add int int" => (k_here; refine addI ?_; intro _ _)
  k_with "binaryOp Sub int int" => (k_here; refine subI ?_; intro _ _)
  k_with "compareOp In str str" => (k_here; refine in_is (by assumption) ?_)
  k_with "compareOp NotIn str str" => (k_here; refine notin_is (by assumption) ?_)
  k_with "compareOp Eq str str" => (k_here; refine eqs_is (by assumption) ?_)
  k_with "compareOp NotEq str str" => (k_here; refine nes_is (by assumption) ?_)
  k_with "binaryOp FloorDiv int int" => (k_here; refine fdivI (by omega) (by omega) ?_; intro _ _)
  k_with "binaryOp Mod int int" => (k_here; refine fmodI (by omega) ?_; intro _ _)
  k_with "compareOp Eq int int" => (k_here; refine eqi_is (by assumption) ?_)
  k_with "compareOp In str ref" => (k_here; k_dflt (refine' in_two ?k1 ?k2 ?_; (case k1 => exact (News.get (by k_asm) (by k_mem))); (case k2 => assumption)))
  k_with "compareOp NotIn str ref" => (k_here; k_dflt (refine' notin_two ?k1 ?k2 ?_; (case k1 => exact (News.get (by k_asm) (by k_mem))); (case k2 => assumption)))
  k_with "subscriptTail Name Slice str ref" => (k_here; (with_reducible show wpAny _ _ (subscriptTail _ (Expr.Slice (some _) (some _) none _) _ _) _ _ _); (with_reducible rename Fr _ _ _ _ => F'); (with_reducible rename News _ _ _ _ => N'); (refine slice_strN_ss (hsz := ?hsz) (s := ⟨_, _, _, _, _⟩) F' N' ?_); (case hsz => (have h9 := (‹At _ _ _›).small; rw [PySem.sizeLine_eq]; omega)); intro _ _ _ _ _; (try k_sweep))
  k_with "subscriptTail Attribute Slice str ref" => (k_here; (with_reducible show wpAny _ _ (subscriptTail _ (Expr.Slice (some _) (some _) none _) _ _) _ _ _); (with_reducible rename Fr _ _ _ _ => F'); (with_reducible rename News _ _ _ _ => N'); (refine slice_strN_ss (hsz := ?hsz) (s := ⟨_, _, _, _, _⟩) F' N' ?_); (case hsz => (have h9 := (‹At _ _ _›).small; rw [PySem.sizeLine_eq]; omega)); intro _ _ _ _ _; (try k_sweep))
  k_with "exec Raise some none" => (k_here; refine raise_call rfl ?_)
  k_with "call ref" => (k_here; (with_reducible show wpAny _ _ (call (Value.ref 98) _) _ _ _); refine Halt.out ?_)
  trivial
end
section
variable {msg : Str} {ta : Tok}
theorem fault_spec
  (B : Below A₀ base outer h₀) (F : Fr h₀ L s.heap m) (X : (hd.heap_1 w.params).In h₀)
  (N : News h₀ L s.heap ((x, instObj 272 dx) :: (dx, scD h1 h2 k1 k2 t1 t2 T p) :: rest))
  (Tp : Top view theLoose mean mg mb h₀) (hk : cs.kind = .function)
  (hdp : dp + 6 < recursionLimit) (hun : un + 48 < cLine)
  
  (hE : ∀ (e : Addr) (h' : Heap) (tk' : Nat), Thrown base h₀ L m (envX cn cs L a ccd cl :: outer) e p ((x, instObj 272 dx) :: (dx, scD h1 h2 k1 k2 t1 t2 T p) :: rest) h' → E (.ref e) { s with heap := h', toks := tk' }) :
  wpAny (model prog w) (ktrTop dp un gd cn cs L a ccd cl outer) (call (.ref 213) [.ref x, .str msg ta]) Q E s := by
  refine wpAny_call ?_
  k_dflt (refine' code_def (binds := [(Str.ofString "self", .ref x), (Str.ofString "message", .str msg ta)]) ?k1 ?k2 ?k3 ?k4 ?k5 ?kA ?kF ?kK ?k6 ?k7 ?k8 ?k9 ?kB ?_ ?c2 ?c3 ?c4 ?c5; (case kA => exact rfl); (case kF => exact rfl); (case kK => assumption); (case k1 => k_asm); (case k2 => k_asm); (case k3 => k_asm); (case k4 => k_asm); (case k5 => k_asm); (case k6 => k_is); (case k7 => k_is); (case k8 => (first | exact rm2 (by assumption) (by exact rfl) | exact rm1 (by assumption) (by exact rfl) | exact rm3 (by assumption) (by exact rfl) | exact rm0 (by assumption) | ktr_room)); (case k9 => first | exact BindsTo.of_eq rfl | exact binds_K (by k_in) rfl (by k_is) rfl rfl rfl); (case c5 => decide); (case kB => exact locs rfl); (case c2 => exact rfl); (case c3 => exact rfl); (case c4 => exact rfl); k_whole; intro g L' h' FG F1 N1 B1 X1 T1; (try k_fold))
  replace F1 := fr_of2 F1
  k_steps
  refine Halt.mk ?_
  (with_reducible rename Fr _ _ _ _ => F2)
  (with_reducible rename News _ _ _ _ => N2)
  refine pf_call (X1.keeps F2.keep) ?_ (by show 2 ≤ sizeLine; rw [PySem.sizeLine_eq]; decide)
  have F3 := F2.push (tupO [.str msg ta, .int p t2])
  have N3 := News.push F2 N2 (tupO [.str msg ta, .int p t2])
  have F4 := F3.push (excO h'.objs.size)
  have N4 := News.push F3 N3 (excO h'.objs.size)
  rw [Heap.size_push] at N4
  refine init_spec (dp := dp + 2) (un := un + 4) (rest := (_, tupO [.str msg ta, .int p t2]) :: _) B1 F4 X1 N4 T1 rfl (by omega) (by omega) ?_ ?_
  · intro q hq
    rcases List.mem_cons.mp hq with rfl | hq
    · exact Nat.ne_of_lt (Nat.lt_succ_self _)
    · exact Nat.ne_of_lt (Nat.lt_succ_of_lt (Heap.lt_size (N2 q hq).1))
  · intro d hs1 hs2 t1 t2 h9 tk9 F9 N9 hde hlt
    refine ⟨rfl, _, d, _, rfl, pf_get (X1.keeps F9.keep), (N9 _ (.tail _ (.head _))).1, ?_⟩
    refine gone_first B1 F9 N9 hde (fun q hq => ?_) (fun h' G => ?_) rfl
    · rcases List.mem_cons.mp hq with rfl | hq
      · exact Nat.ne_of_lt (Nat.lt_succ_self _)
      · exact Nat.ne_of_lt (Nat.lt_succ_of_lt (Heap.lt_size (N2 q hq).1))
    · exact hE _ _ _ ⟨g, FG, G.mono fun q hq => .tail _ hq⟩
end
theorem off_goeson : True := by
  w_top off
  k_with_none
  trivial
section
theorem kw_goeson_1 : True := by
  k_with "ne" => (refine neN ?_; (try dsimp only); first | assumption | exact Ne.symm (by assumption) | exact Nat.ne_of_gt (by assumption) | exact Nat.ne_of_lt (by assumption) | exact lt_1 (by assumption) (by k_mem) | exact lt_2 (by assumption) (by k_mem) | exact Nat.ne_of_gt (And.left (by assumption)) | exact Nat.ne_of_lt (And.left (by assumption)) | exact Nat.ne_of_gt (And.left (And.right (by assumption))) | exact Nat.ne_of_lt (And.left (And.right (by assumption))) | exact Nat.ne_of_gt (And.left (And.right (And.right (by assumption)))) | exact Nat.ne_of_lt (And.left (And.right (And.right (by assumption)))) | exact Nat.ne_of_gt (And.left (And.right (And.right (And.right (by assumption))))) | exact Nat.ne_of_lt (And.left (And.right (And.right (And.right (by assumption))))) | exact Nat.ne_of_gt (And.left (And.right (And.right (And.right (And.right (by assumption)))))) | exact Nat.ne_of_lt (And.left (And.right (And.right (And.right (And.right (by assumption)))))) | exact Nat.ne_of_gt (And.left (And.right (And.right (And.right (And.right (And.right (by assumption))))))) | exact Nat.ne_of_lt (And.left (And.right (And.right (And.right (And.right (And.right (by assumption))))))))
  k_with "newTuple" => (k_here; k_dflt (refine' kup_newTuple ?F ?N ?_ ?z; (case F => k_asm); (case N => k_asm); (case z => kmk_size)); intro D9 h9 F9 N9 u9; (try k_sweep))
  k_with "newList" => (k_here; k_dflt (refine' newList_K ?k1 ?k2 ?_; (case k1 => k_asm); (case k2 => k_asm); k_whole); intro D9 h9 F9 N9 u9; (try k_sweep))
  k_with "execs cons" => (k_here; refine wpAny_execs_cons ?_; k_fold)
  k_with "eval Tuple" => (k_here; k_fold)
  k_with "eval List" => (k_here; k_fold)
  k_with "eval Call Attribute" => (k_here; k_fold)
  k_with "eval Call" => (k_here; k_fold)
  k_with "exec While BoolOp cons nil" => refine Halt.out ?_
  k_with "exec While Compare cons nil" => refine Halt.out ?_
  k_with "exec While Call cons nil" => refine Halt.out ?_
  k_with "eval Name" => (k_here; k_dflt (refine' ld ?k1 ?k2 ?_; (case k1 => k_asm); (case k2 => first | exact rfl | assumption); k_whole))
  k_with "call builtin:len" => (k_here; first | (refine len_is (by assumption) (by omega) ?_; intro _ _) | (refine PySem.P.len_str (by have h9 := (‹At _ _ _›).small; omega) ?_))
  k_with "subscriptTail" => (k_here; (with_reducible show wpAny _ _ (subscriptTail _ _ (Value.str _ _) (Value.int _ _)) _ _ _); k_dflt (refine' item_at ?k1 ?_ ?k2 ?k3; (case k1 => assumption); (case k2 => with_unfolding_all rfl); (case k3 => intro _; with_unfolding_all rfl)); intro _ _)
  k_with "binaryOp Add int int" => (k_here; refine addI ?_; intro _ _)
  k_with "binaryOp Sub int int" => (k_here; refine subI ?_; intro _ _)
  k_with "compareOp In str str" => (k_here; refine in_is (by assumption) ?_)
  k_with "compareOp NotIn str str" => (k_here; refine notin_is (by assumption) ?_)
  k_with "compareOp Eq str str" => (k_here; refine eqs_is (by assumption) ?_)
  k_with "compareOp NotEq str str" => (k_here; refine nes_is (by assumption) ?_)
  k_with "binaryOp FloorDiv int int" => (k_here; refine fdivI (by omega) (by omega) ?_; intro _ _)
  k_with "binaryOp Mod int int" => (k_here; refine fmodI (by omega) ?_; intro _ _)
  k_with "compareOp Eq int int" => (k_here; refine eqi_is (by assumption) ?_)
  k_with "compareOp In str ref" => (k_here; k_dflt (refine' in_two ?k1 ?k2 ?_; (case k1 => exact (News.get (by k_asm) (by k_mem))); (case k2 => assumption)))
  k_with "compareOp NotIn str ref" => (k_here; k_dflt (refine' notin_two ?k1 ?k2 ?_; (case k1 => exact (News.get (by k_asm) (by k_mem))); (case k2 => assumption)))
  k_with "subscriptTail Name Slice str ref" => (k_here; (with_reducible show wpAny _ _ (subscriptTail _ (Expr.Slice (some _) (some _) none _) _ _) _ _ _); (with_reducible rename Fr _ _ _ _ => F'); (with_reducible rename News _ _ _ _ => N'); (refine slice_strN_ss (hsz := ?hsz) (s := ⟨_, _, _, _, _⟩) F' N' ?_); (case hsz => (have h9 := (‹At _ _ _›).small; rw [PySem.sizeLine_eq]; omega)); intro _ _ _ _ _; (try k_sweep))
  k_with "subscriptTail Attribute Slice str ref" => (k_here; (with_reducible show wpAny _ _ (subscriptTail _ (Expr.Slice (some _) (some _) none _) _ _) _ _ _); (with_reducible rename Fr _ _ _ _ => F'); (with_reducible rename News _ _ _ _ => N'); (refine slice_strN_ss (hsz := ?hsz) (s := ⟨_, _, _, _, _⟩) F' N' ?_); (case hsz => (have h9 := (‹At _ _ _›).small; rw [PySem.sizeLine_eq]; omega)); intro _ _ _ _ _; (try k_sweep))
  k_with "call ref" => (k_here; (with_reducible show wpAny _ _ (call (Value.ref 206) _) _ _ _); k_dflt (refine' peek_c ?k1 ?k2 ?k3 ?k4 ?k5 ?kK ?kd ?ku ?x0 ?_; (case k1 => k_asm); (case k2 => k_asm); (case k3 => k_asm); (case k4 => first | k_asm | exact News.rot1 (by k_asm) | exact News.rot2 (by k_asm) | exact News.rot3 (by k_asm)); (case k5 => k_asm); (case kK => first | exact rfl | assumption); (case kd => (first | exact rm2 (by assumption) (by exact rfl) | exact rm1 (by assumption) (by exact rfl) | exact rm3 (by assumption) (by exact rfl) | exact rm0 (by assumption) | ktr_room)); (case ku => (first | exact rm2 (by assumption) (by exact rfl) | exact rm1 (by assumption) (by exact rfl) | exact rm3 (by assumption) (by exact rfl) | exact rm0 (by assumption) | ktr_units)); (case x0 => first | assumption | exact At.next (by assumption) | exact At.back (by assumption)); k_whole); intro t9 h9 tk9 F9 N9; (try k_sweep))
  k_with "call ref" => (k_here; (with_reducible show wpAny _ _ (call (Value.ref 206) _) _ _ _); k_dflt (refine' peek_n ?k1 ?k2 ?k3 ?k4 ?k5 ?kK ?kd ?ku ?x0 ?_; (case k1 => k_asm); (case k2 => k_asm); (case k3 => k_asm); (case k4 => first | k_asm | exact News.rot1 (by k_asm) | exact News.rot2 (by k_asm) | exact News.rot3 (by k_asm)); (case k5 => k_asm); (case kK => first | exact rfl | assumption); (case kd => (first | exact rm2 (by assumption) (by exact rfl) | exact rm1 (by assumption) (by exact rfl) | exact rm3 (by assumption) (by exact rfl) | exact rm0 (by assumption) | ktr_room)); (case ku => (first | exact rm2 (by assumption) (by exact rfl) | exact rm1 (by assumption) (by exact rfl) | exact rm3 (by assumption) (by exact rfl) | exact rm0 (by assumption) | ktr_units)); (case x0 => first | assumption | exact At.next (by assumption) | exact At.back (by assumption)); k_whole); intro t9 h9 tk9 F9 N9; (try k_sweep))
  k_with "call ref" => (k_here; (with_reducible show wpAny _ _ (call (Value.ref 227) _) _ _ _); k_dflt (refine' sep_spec ?k1 ?k2 ?k3 ?k4 ?k5 ?kK ?kd ?ku ?x0 ?x1 ?x2 ?x3 ?_; (case k1 => k_asm); (case k2 => k_asm); (case k3 => k_asm); (case k4 => first | k_asm | exact News.rot1 (by k_asm) | exact News.rot2 (by k_asm) | exact News.rot3 (by k_asm)); (case k5 => k_asm); (case kK => first | exact rfl | assumption); (case kd => (first | exact rm2 (by assumption) (by exact rfl) | exact rm1 (by assumption) (by exact rfl) | exact rm3 (by assumption) (by exact rfl) | exact rm0 (by assumption) | ktr_room)); (case ku => (first | exact rm2 (by assumption) (by exact rfl) | exact rm1 (by assumption) (by exact rfl) | exact rm3 (by assumption) (by exact rfl) | exact rm0 (by assumption) | ktr_units)); (case x0 => first | assumption | k_ne); (case x1 => k_all); (case x2 => first | assumption | exact At.next (by assumption) | exact At.back (by assumption) | exact At.next (At.next (by assumption))); (case x3 => assumption); k_whole); intro p9 t9 h9 tk9 A9 F9 N9; (try k_sweep))
  k_with "call ref" => (k_here; (with_reducible show wpAny _ _ (call (Value.ref 234) _) _ _ _); k_dflt (refine' looks_spec ?k1 ?k2 ?k3 ?k4 ?k5 ?kK ?kd ?ku ?x0 ?x1 ?_; (case k1 => k_asm); (case k2 => k_asm); (case k3 => k_asm); (case k4 => first | k_asm | exact News.rot1 (by k_asm) | exact News.rot2 (by k_asm) | exact News.rot3 (by k_asm)); (case k5 => k_asm); (case kK => first | exact rfl | assumption); (case kd => (first | exact rm2 (by assumption) (by exact rfl) | exact rm1 (by assumption) (by exact rfl) | exact rm3 (by assumption) (by exact rfl) | exact rm0 (by assumption) | ktr_room)); (case ku => (first | exact rm2 (by assumption) (by exact rfl) | exact rm1 (by assumption) (by exact rfl) | exact rm3 (by assumption) (by exact rfl) | exact rm0 (by assumption) | ktr_units)); (case x0 => first | assumption | exact At.next (by assumption) | exact At.back (by assumption) | exact At.next (At.next (by assumption))); (case x1 => assumption); k_whole); intro h9 tk9 F9 N9; (try k_sweep))
  k_with "call ref" => (k_here; (with_reducible show wpAny _ _ (call (Value.ref 213) _) _ _ _); k_dflt (refine' fault_spec ?k1 ?k2 ?k3 ?k4 ?k5 ?kK ?kd ?ku  ?_; (case k1 => k_asm); (case k2 => k_asm); (case k3 => k_asm); (case k4 => first | k_asm | exact News.rot1 (by k_asm) | exact News.rot2 (by k_asm) | exact News.rot3 (by k_asm)); (case k5 => k_asm); (case kK => first | exact rfl | assumption); (case kd => (first | exact rm2 (by assumption) (by exact rfl) | exact rm1 (by assumption) (by exact rfl) | exact rm3 (by assumption) (by exact rfl) | exact rm0 (by assumption) | ktr_room)); (case ku => (first | exact rm2 (by assumption) (by exact rfl) | exact rm1 (by assumption) (by exact rfl) | exact rm3 (by assumption) (by exact rfl) | exact rm0 (by assumption) | ktr_units)); k_whole); intro e9 h9 tk9 R9; (try k_sweep))
  k_with "leaving ref" => (k_here; (refine gone_on (by assumption) (by assumption) ?_); intro h9 G9; (try dsimp only))
  trivial
theorem goes_yes {b : Bool} {r2 : List Nat}
  (B : Below A₀ base outer h₀) (F : Fr h₀ L s.heap m) (X : (hd.heap_1 w.params).In h₀)
  (N : News h₀ L s.heap ((x, instObj 272 dx) :: (dx, scD h1 h2 k1 k2 t1 t2 T p) :: rest))
  (Tp : Top view theLoose mean mg mb h₀) (hk : cs.kind = .function)
  (hdp : dp + 10 < recursionLimit) (hun : un + 80 < cLine)
  (hxd : x ≠ dx) (hrest : ∀ q ∈ rest, q.1 ≠ dx) (hA : At T p r) (hr : sepOf r = (b, r2)) (hc : looksOf r2 = true)
  (hret : ∀ (p' : Int) (t2' : Tok) (h' : Heap) (tk' : Nat), At T p' r2 → Fr h₀ L h' m → News h₀ L h' ((x, instObj 272 dx) :: (dx, scD h1 h2 k1 k2 t1 t2' T p') :: rest) → Q (.bool true) { s with heap := h', toks := tk' }) :
  wpAny (model prog w) (ktrTop dp un gd cn cs L a ccd cl outer) (call (.ref 42) [.ref x]) Q E s := by
  refine wpAny_call ?_
  k_dflt (refine' code_def (binds := [(Str.ofString "scanner", .ref x)]) ?k1 ?k2 ?k3 ?k4 ?k5 ?kA ?kF ?kK ?k6 ?k7 ?k8 ?k9 ?kB ?_ ?c2 ?c3 ?c4 ?c5; (case kA => exact rfl); (case kF => exact rfl); (case kK => assumption); (case k1 => k_asm); (case k2 => k_asm); (case k3 => k_asm); (case k4 => k_asm); (case k5 => k_asm); (case k6 => k_is); (case k7 => k_is); (case k8 => (first | exact rm2 (by assumption) (by exact rfl) | exact rm1 (by assumption) (by exact rfl) | exact rm3 (by assumption) (by exact rfl) | exact rm0 (by assumption) | ktr_room)); (case k9 => first | exact BindsTo.of_eq rfl | exact binds_K (by k_in) rfl (by k_is) rfl rfl rfl); (case c5 => decide); (case kB => exact locs rfl); (case c2 => exact rfl); (case c3 => exact rfl); (case c4 => exact rfl); k_whole; intro g L' h' FG F1 N1 B1 X1 T1; (try k_fold))
  replace F1 := fr_of1 F1
  k_steps
  ((with_reducible rename News _ _ _ _ => N9); first | exact hret _ _ _ _ (by first | assumption | exact At.next (by assumption) | exact At.next (At.next (by assumption)) | exact At.back (by assumption)) (by assumption) N9 | exact hret _ _ _ _ (by first | assumption | exact At.next (by assumption) | exact At.next (At.next (by assumption)) | exact At.back (by assumption)) (by assumption) (News.tl N9) | exact hret _ _ _ _ (by first | assumption | exact At.next (by assumption) | exact At.next (At.next (by assumption)) | exact At.back (by assumption)) (by assumption) (News.pick1 N9) | exact hret _ _ _ _ (by first | assumption | exact At.next (by assumption) | exact At.next (At.next (by assumption)) | exact At.back (by assumption)) (by assumption) (News.pick2 N9) | exact hret _ _ _ _ (by first | assumption | exact At.next (by assumption) | exact At.next (At.next (by assumption)) | exact At.back (by assumption)) (by assumption) (News.pick3 N9))
theorem goes_no {r2 : List Nat}
  (B : Below A₀ base outer h₀) (F : Fr h₀ L s.heap m) (X : (hd.heap_1 w.params).In h₀)
  (N : News h₀ L s.heap ((x, instObj 272 dx) :: (dx, scD h1 h2 k1 k2 t1 t2 T p) :: rest))
  (Tp : Top view theLoose mean mg mb h₀) (hk : cs.kind = .function)
  (hdp : dp + 10 < recursionLimit) (hun : un + 80 < cLine)
  (hxd : x ≠ dx) (hrest : ∀ q ∈ rest, q.1 ≠ dx) (hA : At T p r) (hr : sepOf r = (false, r2)) (hc : looksOf r2 = false)
  (hret : ∀ (p' : Int) (t2' : Tok) (h' : Heap) (tk' : Nat), At T p' r2 → Fr h₀ L h' m → News h₀ L h' ((x, instObj 272 dx) :: (dx, scD h1 h2 k1 k2 t1 t2' T p') :: rest) → Q (.bool false) { s with heap := h', toks := tk' }) :
  wpAny (model prog w) (ktrTop dp un gd cn cs L a ccd cl outer) (call (.ref 42) [.ref x]) Q E s := by
  refine wpAny_call ?_
  k_dflt (refine' code_def (binds := [(Str.ofString "scanner", .ref x)]) ?k1 ?k2 ?k3 ?k4 ?k5 ?kA ?kF ?kK ?k6 ?k7 ?k8 ?k9 ?kB ?_ ?c2 ?c3 ?c4 ?c5; (case kA => exact rfl); (case kF => exact rfl); (case kK => assumption); (case k1 => k_asm); (case k2 => k_asm); (case k3 => k_asm); (case k4 => k_asm); (case k5 => k_asm); (case k6 => k_is); (case k7 => k_is); (case k8 => (first | exact rm2 (by assumption) (by exact rfl) | exact rm1 (by assumption) (by exact rfl) | exact rm3 (by assumption) (by exact rfl) | exact rm0 (by assumption) | ktr_room)); (case k9 => first | exact BindsTo.of_eq rfl | exact binds_K (by k_in) rfl (by k_is) rfl rfl rfl); (case c5 => decide); (case kB => exact locs rfl); (case c2 => exact rfl); (case c3 => exact rfl); (case c4 => exact rfl); k_whole; intro g L' h' FG F1 N1 B1 X1 T1; (try k_fold))
  replace F1 := fr_of1 F1
  k_steps
  ((with_reducible rename News _ _ _ _ => N9); first | exact hret _ _ _ _ (by first | assumption | exact At.next (by assumption) | exact At.next (At.next (by assumption)) | exact At.back (by assumption)) (by assumption) N9 | exact hret _ _ _ _ (by first | assumption | exact At.next (by assumption) | exact At.next (At.next (by assumption)) | exact At.back (by assumption)) (by assumption) (News.tl N9) | exact hret _ _ _ _ (by first | assumption | exact At.next (by assumption) | exact At.next (At.next (by assumption)) | exact At.back (by assumption)) (by assumption) (News.pick1 N9) | exact hret _ _ _ _ (by first | assumption | exact At.next (by assumption) | exact At.next (At.next (by assumption)) | exact At.back (by assumption)) (by assumption) (News.pick2 N9) | exact hret _ _ _ _ (by first | assumption | exact At.next (by assumption) | exact At.next (At.next (by assumption)) | exact At.back (by assumption)) (by assumption) (News.pick3 N9))
theorem goes_bad {r2 : List Nat}
  (B : Below A₀ base outer h₀) (F : Fr h₀ L s.heap m) (X : (hd.heap_1 w.params).In h₀)
  (N : News h₀ L s.heap ((x, instObj 272 dx) :: (dx, scD h1 h2 k1 k2 t1 t2 T p) :: rest))
  (Tp : Top view theLoose mean mg mb h₀) (hk : cs.kind = .function)
  (hdp : dp + 10 < recursionLimit) (hun : un + 80 < cLine)
  (hxd : x ≠ dx) (hrest : ∀ q ∈ rest, q.1 ≠ dx) (hA : At T p r) (hr : sepOf r = (true, r2)) (hc : looksOf r2 = false)
  (hE : ∀ (p' : Int) (t2' : Tok) (e : Addr) (h' : Heap) (tk' : Nat), At T p' r2 → Thrown base h₀ L m (envX cn cs L a ccd cl :: outer) e p' ((x, instObj 272 dx) :: (dx, scD h1 h2 k1 k2 t1 t2' T p') :: rest) h' → E (.ref e) { s with heap := h', toks := tk' }) :
  wpAny (model prog w) (ktrTop dp un gd cn cs L a ccd cl outer) (call (.ref 42) [.ref x]) Q E s := by
  refine wpAny_call ?_
  k_dflt (refine' code_def (binds := [(Str.ofString "scanner", .ref x)]) ?k1 ?k2 ?k3 ?k4 ?k5 ?kA ?kF ?kK ?k6 ?k7 ?k8 ?k9 ?kB ?_ ?c2 ?c3 ?c4 ?c5; (case kA => exact rfl); (case kF => exact rfl); (case kK => assumption); (case k1 => k_asm); (case k2 => k_asm); (case k3 => k_asm); (case k4 => k_asm); (case k5 => k_asm); (case k6 => k_is); (case k7 => k_is); (case k8 => (first | exact rm2 (by assumption) (by exact rfl) | exact rm1 (by assumption) (by exact rfl) | exact rm3 (by assumption) (by exact rfl) | exact rm0 (by assumption) | ktr_room)); (case k9 => first | exact BindsTo.of_eq rfl | exact binds_K (by k_in) rfl (by k_is) rfl rfl rfl); (case c5 => decide); (case kB => exact locs rfl); (case c2 => exact rfl); (case c3 => exact rfl); (case c4 => exact rfl); k_whole; intro g L' h' FG F1 N1 B1 X1 T1; (try k_fold))
  replace F1 := fr_of1 F1
  k_steps
  exact hE _ _ _ _ _ (by assumption) ⟨_, FG, (by first | assumption | exact Gone.mono (by assumption) (fun q hq => .tail _ hq))⟩
end
theorem off_num : True := by
  w_top off
  k_with_none
  trivial
section
theorem kw_num_1 : True := by
  k_with "ne" => (refine neN ?_; (try dsimp only); first | assumption | exact Ne.symm (by assumption) | exact Nat.ne_of_gt (by assumption) | exact Nat.ne_of_lt (by assumption) | exact lt_1 (by assumption) (by k_mem) | exact lt_2 (by assumption) (by k_mem) | exact Nat.ne_of_gt (And.left (by assumption)) | exact Nat.ne_of_lt (And.left (by assumption)) | exact Nat.ne_of_gt (And.left (And.right (by assumption))) | exact Nat.ne_of_lt (And.left (And.right (by assumption))) | exact Nat.ne_of_gt (And.left (And.right (And.right (by assumption)))) | exact Nat.ne_of_lt (And.left (And.right (And.right (by assumption)))) | exact Nat.ne_of_gt (And.left (And.right (And.right (And.right (by assumption))))) | exact Nat.ne_of_lt (And.left (And.right (And.right (And.right (by assumption))))) | exact Nat.ne_of_gt (And.left (And.right (And.right (And.right (And.right (by assumption)))))) | exact Nat.ne_of_lt (And.left (And.right (And.right (And.right (And.right (by assumption)))))) | exact Nat.ne_of_gt (And.left (And.right (And.right (And.right (And.right (And.right (by assumption))))))) | exact Nat.ne_of_lt (And.left (And.right (And.right (And.right (And.right (And.right (by assumption))))))))
  k_with "newTuple" => (k_here; k_dflt (refine' kup_newTuple ?F ?N ?_ ?z; (case F => k_asm); (case N => k_asm); (case z => kmk_size)); intro D9 h9 F9 N9 u9; (try k_sweep))
  k_with "newList" => (k_here; k_dflt (refine' newList_K ?k1 ?k2 ?_; (case k1 => k_asm); (case k2 => k_asm); k_whole); intro D9 h9 F9 N9 u9; (try k_sweep))
  k_with "execs cons" => (k_here; refine wpAny_execs_cons ?_; k_fold)
  k_with "eval Tuple" => (k_here; k_fold)
  k_with "eval List" => (k_here; k_fold)
  k_with "eval Call Attribute" => (k_here; k_fold)
  k_with "eval Call" => (k_here; k_fold)
  k_with "exec While BoolOp cons nil" => refine Halt.out ?_
  k_with "exec While Compare cons nil" => refine Halt.out ?_
  k_with "exec While Call cons nil" => refine Halt.out ?_
  k_with "eval Name" => (k_here; k_dflt (refine' ld ?k1 ?k2 ?_; (case k1 => k_asm); (case k2 => first | exact rfl | assumption); k_whole))
  k_with "call builtin:len" => (k_here; first | (refine len_is (by assumption) (by omega) ?_; intro _ _) | (refine PySem.P.len_str (by have h9 := (‹At _ _ _›).small; omega) ?_))
  k_with "subscriptTail" => (k_here; (with_reducible show wpAny _ _ (subscriptTail _ _ (Value.str _ _) (Value.int _ _)) _ _ _); k_dflt (refine' item_at ?k1 ?_ ?k2 ?k3; (case k1 => assumption); (case k2 => with_unfolding_all rfl); (case k3 => intro _; with_unfolding_all rfl)); intro _ _)
  k_with "binaryOp Add int int" => (k_here; refine addI ?_; intro _ _)
  k_with "binaryOp Sub int int" => (k_here; refine subI ?_; intro _ _)
  k_with "compareOp In str str" => (k_here; refine in_is (by assumption) ?_)
  k_with "compareOp NotIn str str" => (k_here; refine notin_is (by assumption) ?_)
  k_with "compareOp Eq str str" => (k_here; refine eqs_is (by assumption) ?_)
  k_with "compareOp NotEq str str" => (k_here; refine nes_is (by assumption) ?_)
  k_with "binaryOp FloorDiv int int" => (k_here; refine fdivI (by omega) (by omega) ?_; intro _ _)
  k_with "binaryOp Mod int int" => (k_here; refine fmodI (by omega) ?_; intro _ _)
  k_with "compareOp Eq int int" => (k_here; refine eqi_is (by assumption) ?_)
  k_with "compareOp In str ref" => (k_here; k_dflt (refine' in_two ?k1 ?k2 ?_; (case k1 => exact (News.get (by k_asm) (by k_mem))); (case k2 => assumption)))
  k_with "compareOp NotIn str ref" => (k_here; k_dflt (refine' notin_two ?k1 ?k2 ?_; (case k1 => exact (News.get (by k_asm) (by k_mem))); (case k2 => assumption)))
  k_with "subscriptTail Name Slice str ref" => (k_here; (with_reducible show wpAny _ _ (subscriptTail _ (Expr.Slice (some _) (some _) none _) _ _) _ _ _); (with_reducible rename Fr _ _ _ _ => F'); (with_reducible rename News _ _ _ _ => N'); (refine slice_strN_ss (hsz := ?hsz) (s := ⟨_, _, _, _, _⟩) F' N' ?_); (case hsz => (have h9 := (‹At _ _ _›).small; rw [PySem.sizeLine_eq]; omega)); intro _ _ _ _ _; (try k_sweep))
  k_with "subscriptTail Attribute Slice str ref" => (k_here; (with_reducible show wpAny _ _ (subscriptTail _ (Expr.Slice (some _) (some _) none _) _ _) _ _ _); (with_reducible rename Fr _ _ _ _ => F'); (with_reducible rename News _ _ _ _ => N'); (refine slice_strN_ss (hsz := ?hsz) (s := ⟨_, _, _, _, _⟩) F' N' ?_); (case hsz => (have h9 := (‹At _ _ _›).small; rw [PySem.sizeLine_eq]; omega)); intro _ _ _ _ _; (try k_sweep))
  trivial
noncomputable def oneOf (S : Str) (r : List Nat) : Bool := match r with
  | [] => false
  | c :: _ => Txt.contains S ⟨#[c]⟩
theorem is_spec {S : Str} {ts : Tok} {b : Bool}
  (B : Below A₀ base outer h₀) (F : Fr h₀ L s.heap m) (X : (hd.heap_1 w.params).In h₀)
  (N : News h₀ L s.heap ((x, instObj 153 dx) :: (dx, scD h1 h2 k1 k2 t1 t2 T p) :: rest))
  (Tp : Top view theLoose mean mg mb h₀) (hk : cs.kind = .function)
  (hdp : dp + 2 < recursionLimit) (hun : un + 16 < cLine)
  (hA : At T p r) (hb : oneOf S r = b)
  (hret : ∀ (h' : Heap) (tk' : Nat), Fr h₀ L h' m → News h₀ L h' ((x, instObj 153 dx) :: (dx, scD h1 h2 k1 k2 t1 t2 T p) :: rest) → Q (.bool b) { s with heap := h', toks := tk' }) :
  wpAny (model prog w) (ktrTop dp un gd cn cs L a ccd cl outer) (call (.ref 136) [.ref x, .str S ts]) Q E s := by
  refine wpAny_call ?_
  k_dflt (refine' code_def (binds := [(Str.ofString "self", .ref x), (Str.ofString "signs", .str S ts)]) ?k1 ?k2 ?k3 ?k4 ?k5 ?kA ?kF ?kK ?k6 ?k7 ?k8 ?k9 ?kB ?_ ?c2 ?c3 ?c4 ?c5; (case kA => exact rfl); (case kF => exact rfl); (case kK => assumption); (case k1 => k_asm); (case k2 => k_asm); (case k3 => k_asm); (case k4 => k_asm); (case k5 => k_asm); (case k6 => k_is); (case k7 => k_is); (case k8 => (first | exact rm2 (by assumption) (by exact rfl) | exact rm1 (by assumption) (by exact rfl) | exact rm3 (by assumption) (by exact rfl) | exact rm0 (by assumption) | ktr_room)); (case k9 => first | exact BindsTo.of_eq rfl | exact binds_K (by k_in) rfl (by k_is) rfl rfl rfl); (case c5 => decide); (case kB => exact locs rfl); (case c2 => exact rfl); (case c3 => exact rfl); (case c4 => exact rfl); k_whole; intro g L' h' FG F1 N1 B1 X1 T1; (try k_fold))
  replace F1 := fr_of2 F1
  cases r with
  | nil =>
    have e1 := hA.eq
    have hb' : false = b := hb
    subst hb'
    k_steps
    rw [show decide (p < (T.length : Int)) = false from decide_eq_false (by omega)]
    exact hret _ _ (by assumption) (by assumption)
  | cons c r' =>
    have e1 := hA.lt
    have e2 : Txt.contains S ⟨#[c]⟩ = b := hb
    k_steps
    exact hret _ _ (by assumption) (by assumption)
theorem kw_num_2 : True := by
  k_with "call ref" => (k_here; (with_reducible show wpAny _ _ (call (Value.ref 136) _) _ _ _); k_dflt (refine' is_spec ?k1 ?k2 ?k3 ?k4 ?k5 ?kK ?kd ?ku ?x0 ?x1 ?_; (case k1 => k_asm); (case k2 => k_asm); (case k3 => k_asm); (case k4 => first | k_asm | exact News.rot1 (by k_asm) | exact News.rot2 (by k_asm) | exact News.rot3 (by k_asm)); (case k5 => k_asm); (case kK => first | exact rfl | assumption); (case kd => (first | exact rm2 (by assumption) (by exact rfl) | exact rm1 (by assumption) (by exact rfl) | exact rm3 (by assumption) (by exact rfl) | exact rm0 (by assumption) | ktr_room)); (case ku => (first | exact rm2 (by assumption) (by exact rfl) | exact rm1 (by assumption) (by exact rfl) | exact rm3 (by assumption) (by exact rfl) | exact rm0 (by assumption) | ktr_units)); (case x0 => first | assumption | exact At.next (by assumption) | exact At.back (by assumption) | exact At.next (At.next (by assumption))); (case x1 => assumption); k_whole); intro h9 tk9 F9 N9; (try k_sweep))
  trivial
theorem skip_no {S : Str} {ts : Tok}
  (B : Below A₀ base outer h₀) (F : Fr h₀ L s.heap m) (X : (hd.heap_1 w.params).In h₀)
  (N : News h₀ L s.heap ((x, instObj 153 dx) :: (dx, scD h1 h2 k1 k2 t1 t2 T p) :: rest))
  (Tp : Top view theLoose mean mg mb h₀) (hk : cs.kind = .function)
  (hdp : dp + 4 < recursionLimit) (hun : un + 32 < cLine)
  (hA : At T p r) (hb : oneOf S r = false)
  (hret : ∀ (t : Tok) (h' : Heap) (tk' : Nat), Fr h₀ L h' m → News h₀ L h' ((x, instObj 153 dx) :: (dx, scD h1 h2 k1 k2 t1 t2 T p) :: rest) → Q (.str (Str.ofString "") t) { s with heap := h', toks := tk' }) :
  wpAny (model prog w) (ktrTop dp un gd cn cs L a ccd cl outer) (call (.ref 143) [.ref x, .str S ts]) Q E s := by
  refine wpAny_call ?_
  k_dflt (refine' code_def (binds := [(Str.ofString "self", .ref x), (Str.ofString "signs", .str S ts)]) ?k1 ?k2 ?k3 ?k4 ?k5 ?kA ?kF ?kK ?k6 ?k7 ?k8 ?k9 ?kB ?_ ?c2 ?c3 ?c4 ?c5; (case kA => exact rfl); (case kF => exact rfl); (case kK => assumption); (case k1 => k_asm); (case k2 => k_asm); (case k3 => k_asm); (case k4 => k_asm); (case k5 => k_asm); (case k6 => k_is); (case k7 => k_is); (case k8 => (first | exact rm2 (by assumption) (by exact rfl) | exact rm1 (by assumption) (by exact rfl) | exact rm3 (by assumption) (by exact rfl) | exact rm0 (by assumption) | ktr_room)); (case k9 => first | exact BindsTo.of_eq rfl | exact binds_K (by k_in) rfl (by k_is) rfl rfl rfl); (case c5 => decide); (case kB => exact locs rfl); (case c2 => exact rfl); (case c3 => exact rfl); (case c4 => exact rfl); k_whole; intro g L' h' FG F1 N1 B1 X1 T1; (try k_fold))
  replace F1 := fr_of2 F1
  k_steps
  exact hret _ _ _ (by assumption) (by assumption)
theorem skip_yes {S : Str} {ts : Tok} {c : Nat}
  (B : Below A₀ base outer h₀) (F : Fr h₀ L s.heap m) (X : (hd.heap_1 w.params).In h₀)
  (N : News h₀ L s.heap ((x, instObj 153 dx) :: (dx, scD h1 h2 k1 k2 t1 t2 T p) :: rest))
  (Tp : Top view theLoose mean mg mb h₀) (hk : cs.kind = .function)
  (hdp : dp + 4 < recursionLimit) (hun : un + 32 < cLine)
  (hxd : x ≠ dx) (hrest : ∀ q ∈ rest, q.1 ≠ dx) (hA : At T p (c :: r)) (hb : oneOf S (c :: r) = true)
  (hret : ∀ (t t2' : Tok) (h' : Heap) (tk' : Nat), At T (p + 1) r → Fr h₀ L h' m → News h₀ L h' ((x, instObj 153 dx) :: (dx, scD h1 h2 k1 k2 t1 t2' T (p + 1)) :: rest) → Q (.str ⟨#[c]⟩ t) { s with heap := h', toks := tk' }) :
  wpAny (model prog w) (ktrTop dp un gd cn cs L a ccd cl outer) (call (.ref 143) [.ref x, .str S ts]) Q E s := by
  have hA2 := hA.back
  refine wpAny_call ?_
  k_dflt (refine' code_def (binds := [(Str.ofString "self", .ref x), (Str.ofString "signs", .str S ts)]) ?k1 ?k2 ?k3 ?k4 ?k5 ?kA ?kF ?kK ?k6 ?k7 ?k8 ?k9 ?kB ?_ ?c2 ?c3 ?c4 ?c5; (case kA => exact rfl); (case kF => exact rfl); (case kK => assumption); (case k1 => k_asm); (case k2 => k_asm); (case k3 => k_asm); (case k4 => k_asm); (case k5 => k_asm); (case k6 => k_is); (case k7 => k_is); (case k8 => (first | exact rm2 (by assumption) (by exact rfl) | exact rm1 (by assumption) (by exact rfl) | exact rm3 (by assumption) (by exact rfl) | exact rm0 (by assumption) | ktr_room)); (case k9 => first | exact BindsTo.of_eq rfl | exact binds_K (by k_in) rfl (by k_is) rfl rfl rfl); (case c5 => decide); (case kB => exact locs rfl); (case c2 => exact rfl); (case c3 => exact rfl); (case c4 => exact rfl); k_whole; intro g L' h' FG F1 N1 B1 X1 T1; (try k_fold))
  replace F1 := fr_of2 F1
  k_steps
  exact hret _ _ _ _ hA.next (by assumption) (by assumption)
theorem take_dw (f : Nat → Bool) : ∀ r : List Nat, r.take (r.length - (r.dropWhile f).length) = r.takeWhile f
  | [] => rfl
  | c :: r => by
    rw [List.dropWhile_cons, List.takeWhile_cons]
    cases f c with
    | true =>
      have := (List.dropWhile_suffix f : r.dropWhile f <:+ r).length_le
      simp only [if_true, List.length_cons]
      rw [show r.length + 1 - (r.dropWhile f).length = (r.length - (r.dropWhile f).length) + 1 by omega, List.take_succ_cons, take_dw f r]
    | false => simp
theorem ndigits_spec {r1 ds : List Nat}
  (B : Below A₀ base outer h₀) (F : Fr h₀ L s.heap m) (X : (hd.heap_1 w.params).In h₀)
  (N : News h₀ L s.heap ((x, instObj 153 dx) :: (dx, scD h1 h2 k1 k2 t1 t2 T p) :: rest))
  (Tp : Top view theLoose mean mg mb h₀) (hk : cs.kind = .function)
  (hdp : dp + 4 < recursionLimit) (hun : un + 32 < cLine)
  (hxd : x ≠ dx) (hrest : ∀ q ∈ rest, q.1 ≠ dx) (hA : At T p r) (hr1 : r.dropWhile isDig = r1) (hds : r.takeWhile isDig = ds)
  (hret : ∀ (p' : Int) (t t2' : Tok) (h' : Heap) (tk' : Nat), At T p' r1 → Fr h₀ L h' m → News h₀ L h' ((x, instObj 153 dx) :: (dx, scD h1 h2 k1 k2 t1 t2' T p') :: rest) → Q (.str ⟨ds.toArray⟩ t) { s with heap := h', toks := tk' }) :
  wpAny (model prog w) (ktrTop dp un gd cn cs L a ccd cl outer) (call (.ref 150) [.ref x]) Q E s := by
  subst hr1 hds
  refine wpAny_call ?_
  k_dflt (refine' code_def (binds := [(Str.ofString "self", .ref x)]) ?k1 ?k2 ?k3 ?k4 ?k5 ?kA ?kF ?kK ?k6 ?k7 ?k8 ?k9 ?kB ?_ ?c2 ?c3 ?c4 ?c5; (case kA => exact rfl); (case kF => exact rfl); (case kK => assumption); (case k1 => k_asm); (case k2 => k_asm); (case k3 => k_asm); (case k4 => k_asm); (case k5 => k_asm); (case k6 => k_is); (case k7 => k_is); (case k8 => (first | exact rm2 (by assumption) (by exact rfl) | exact rm1 (by assumption) (by exact rfl) | exact rm3 (by assumption) (by exact rfl) | exact rm0 (by assumption) | ktr_room)); (case k9 => first | exact BindsTo.of_eq rfl | exact binds_K (by k_in) rfl (by k_is) rfl rfl rfl); (case c5 => decide); (case kB => exact locs rfl); (case c2 => exact rfl); (case c3 => exact rfl); (case c4 => exact rfl); k_whole; intro g L' h' FG F1 N1 B1 X1 T1; (try k_fold))
  replace F1 := fr_of1 F1
  k_steps
  refine Halt.mk ?_
  refine While_inv2 (fun nn m₁ nx => ∃ (q : Int) (t2' : Tok) (r' : List Nat), nx = ((x, instObj 153 dx) :: (dx, scD h1 h2 k1 k2 t1 t2' T q) :: rest) ∧ m₁ = (fun y => if y = Str.ofString "begin" then some (.int p t2) else if y = Str.ofString "self" then some (.ref x) else none) ∧ At T q r' ∧ p ≤ q ∧ r'.dropWhile isDig = r.dropWhile isDig ∧ nn = r'.length) (by assumption) (by assumption) ⟨p, t2, r, rfl, rfl, hA, Int.le_refl _, rfl, rfl⟩ ?_ ?_
  rotate_left
  · passes_own
  · rintro nn m₁ nx hh tk F2 N2 ⟨q, t2', r', rfl, rfl, hA', hpq, hr', rfl⟩
    k_fold
    cases r' with
    | nil =>
      have e2 : oneOf (Str.ofString "0123456789") [] = false := rfl
      k_steps
      rw [List.dropWhile_nil] at hr'
      rw [hA.slice hA' hpq, hr', take_dw]
      exact hret q _ t2' _ _ (hr' ▸ hA') (by assumption) (by assumption)
    | cons c r' =>
      have e2 : oneOf (Str.ofString "0123456789") (c :: r') = isDig c := dig_in c
      cases hb : isDig c <;> rw [hb] at e2
      · k_steps
        have hr2 : c :: r' = r.dropWhile isDig := by rw [← hr', List.dropWhile_cons, hb]; rfl
        rw [hA.slice hA' hpq, hr2, take_dw]
        exact hret q _ t2' _ _ (hr2 ▸ hA') (by assumption) (by assumption)
      · k_steps
        rw [List.dropWhile_cons, hb] at hr'
        exact ⟨_, _, _, _, r'.length, rfl, by assumption, by assumption, Nat.lt_succ_self _, q + 1, _, r', rfl, rfl, hA'.next, by omega, hr', rfl⟩
end
theorem off_whole : True := by
  w_top off
  k_with_none
  trivial
section
theorem kw_whole_1 : True := by
  k_with "ne" => (refine neN ?_; (try dsimp only); first | assumption | exact Ne.symm (by assumption) | exact Nat.ne_of_gt (by assumption) | exact Nat.ne_of_lt (by assumption) | exact lt_1 (by assumption) (by k_mem) | exact lt_2 (by assumption) (by k_mem) | exact Nat.ne_of_gt (And.left (by assumption)) | exact Nat.ne_of_lt (And.left (by assumption)) | exact Nat.ne_of_gt (And.left (And.right (by assumption))) | exact Nat.ne_of_lt (And.left (And.right (by assumption))) | exact Nat.ne_of_gt (And.left (And.right (And.right (by assumption)))) | exact Nat.ne_of_lt (And.left (And.right (And.right (by assumption)))) | exact Nat.ne_of_gt (And.left (And.right (And.right (And.right (by assumption))))) | exact Nat.ne_of_lt (And.left (And.right (And.right (And.right (by assumption))))) | exact Nat.ne_of_gt (And.left (And.right (And.right (And.right (And.right (by assumption)))))) | exact Nat.ne_of_lt (And.left (And.right (And.right (And.right (And.right (by assumption)))))) | exact Nat.ne_of_gt (And.left (And.right (And.right (And.right (And.right (And.right (by assumption))))))) | exact Nat.ne_of_lt (And.left (And.right (And.right (And.right (And.right (And.right (by assumption))))))))
  k_with "newTuple" => (k_here; k_dflt (refine' kup_newTuple ?F ?N ?_ ?z; (case F => k_asm); (case N => k_asm); (case z => kmk_size)); intro D9 h9 F9 N9 u9; (try k_sweep))
  k_with "newList" => (k_here; k_dflt (refine' newList_K ?k1 ?k2 ?_; (case k1 => k_asm); (case k2 => k_asm); k_whole); intro D9 h9 F9 N9 u9; (try k_sweep))
  k_with "execs cons" => (k_here; refine wpAny_execs_cons ?_; k_fold)
  k_with "eval Tuple" => (k_here; k_fold)
  k_with "eval List" => (k_here; k_fold)
  k_with "eval Call Attribute" => (k_here; k_fold)
  k_with "eval Call" => (k_here; k_fold)
  k_with "exec While BoolOp cons nil" => refine Halt.out ?_
  k_with "exec While Compare cons nil" => refine Halt.out ?_
  k_with "exec While Call cons nil" => refine Halt.out ?_
  k_with "eval Name" => (k_here; k_dflt (refine' ld ?k1 ?k2 ?_; (case k1 => k_asm); (case k2 => first | exact rfl | assumption); k_whole))
  k_with "call builtin:len" => (k_here; first | (refine len_is (by assumption) (by omega) ?_; intro _ _) | (refine PySem.P.len_str (by have h9 := (‹At _ _ _›).small; omega) ?_))
  k_with "subscriptTail" => (k_here; (with_reducible show wpAny _ _ (subscriptTail _ _ (Value.str _ _) (Value.int _ _)) _ _ _); k_dflt (refine' item_at ?k1 ?_ ?k2 ?k3; (case k1 => assumption); (case k2 => with_unfolding_all rfl); (case k3 => intro _; with_unfolding_all rfl)); intro _ _)
  k_with "binaryOp Add int int" => (k_here; refine addI ?_; intro _ _)
  k_with "binaryOp Sub int int" => (k_here; refine subI ?_; intro _ _)
  k_with "compareOp In str str" => (k_here; refine in_is (by assumption) ?_)
  k_with "compareOp NotIn str str" => (k_here; refine notin_is (by assumption) ?_)
  k_with "compareOp Eq str str" => (k_here; refine eqs_is (by assumption) ?_)
  k_with "compareOp NotEq str str" => (k_here; refine nes_is (by assumption) ?_)
  k_with "binaryOp FloorDiv int int" => (k_here; refine fdivI (by omega) (by omega) ?_; intro _ _)
  k_with "binaryOp Mod int int" => (k_here; refine fmodI (by omega) ?_; intro _ _)
  k_with "compareOp Eq int int" => (k_here; refine eqi_is (by assumption) ?_)
  k_with "compareOp In str ref" => (k_here; k_dflt (refine' in_two ?k1 ?k2 ?_; (case k1 => exact (News.get (by k_asm) (by k_mem))); (case k2 => assumption)))
  k_with "compareOp NotIn str ref" => (k_here; k_dflt (refine' notin_two ?k1 ?k2 ?_; (case k1 => exact (News.get (by k_asm) (by k_mem))); (case k2 => assumption)))
  k_with "subscriptTail Name Slice str ref" => (k_here; (with_reducible show wpAny _ _ (subscriptTail _ (Expr.Slice (some _) (some _) none _) _ _) _ _ _); (with_reducible rename Fr _ _ _ _ => F'); (with_reducible rename News _ _ _ _ => N'); (refine slice_strN_ss (hsz := ?hsz) (s := ⟨_, _, _, _, _⟩) F' N' ?_); (case hsz => (have h9 := (‹At _ _ _›).small; rw [PySem.sizeLine_eq]; omega)); intro _ _ _ _ _; (try k_sweep))
  k_with "subscriptTail Attribute Slice str ref" => (k_here; (with_reducible show wpAny _ _ (subscriptTail _ (Expr.Slice (some _) (some _) none _) _ _) _ _ _); (with_reducible rename Fr _ _ _ _ => F'); (with_reducible rename News _ _ _ _ => N'); (refine slice_strN_ss (hsz := ?hsz) (s := ⟨_, _, _, _, _⟩) F' N' ?_); (case hsz => (have h9 := (‹At _ _ _›).small; rw [PySem.sizeLine_eq]; omega)); intro _ _ _ _ _; (try k_sweep))
  trivial
noncomputable def wholeL (ds : List Nat) (n : Int) : Int := ds.foldl (fun (n : Int) (c : Nat) => n * 10 + ((c : Int) - 48)) n
theorem find_dig : ∀ c, isDig c = true → Txt.find (Str.ofString "0123456789") ⟨#[c]⟩ = (c : Int) - 48 := by
  have key : ∀ c, c ∈ [48, 49, 50, 51, 52, 53, 54, 55, 56, 57] → Txt.find (Str.ofString "0123456789") ⟨#[c]⟩ = (c : Int) - 48 := by decide +kernel
  intro c hc
  exact key c (by simpa [isDig] using hc)
theorem loop_str {prog : Program} {w : World} {A : Around} {E : Value → Shared → Prop} {s : Shared} {env : Env} {h₀ : Heap} {x : Str} {body : List Stmt} {Q : Flow → Shared → Prop} {I : Addr} {news : Led}
    (J : List Nat → (Str → Option Value) → Prop)
    (done : ∀ m h tk, J [] m → Fr h₀ env.locals h m → News h₀ env.locals h news → Q .next { s with heap := h, toks := tk })
    (turn : ∀ c r m (u : Tok) (it : Obj) h tk, J (c :: r) m → Fr h₀ env.locals h (fun y => if y = x then some (.str ⟨#[c]⟩ u) else m y) → News h₀ env.locals h ((I, it) :: news) →
      wpAny (model prog w) A (execs body env) (UnrPost h₀ env.locals { s with heap := h, toks := tk } I it (fun m' news' => news' = news ∧ J r m') Q) E { s with heap := h, toks := tk }) :
    ∀ (l : List Nat) (m : Str → Option Value), J l m → StrRest prog w A E h₀ env x body Q s I (l.map fun c => (⟨#[c]⟩ : Str)) m news
  | [], m, hJ => StrRest.zero fun h tk F N => done m h tk hJ F N
  | c :: r, m, hJ => StrRest.succ fun u it h tk F N => wpAny_mono (turn c r m u it h tk hJ F N) (fun f s₂ p => by
      cases f with
      | next =>
        obtain ⟨h', tk', m', news', e, F', N', ho, rfl, hJ'⟩ := p
        exact ⟨h', tk', m', _, e, F', N', ho, loop_str J done turn r m' hJ'⟩
      | cont =>
        obtain ⟨h', tk', m', news', e, F', N', ho, rfl, hJ'⟩ := p
        exact ⟨h', tk', m', _, e, F', N', ho, loop_str J done turn r m' hJ'⟩
      | brk => exact p
      | ret v => exact p) fun _ _ e => e
theorem kw_whole_2 : True := by
  k_with "exec For Name Name cons nil" => (k_here; (with_reducible show wpAny _ _ (exec (Stmt.For _ _ _ [] _) _) _ _ _); (rename Fr _ _ _ _ => lF'); (with_unfolding_all refine' For_invVF lF' ?k1 ?k2 ?_; (case k1 => exact rfl); (case k2 => exact rfl); k_whole))
  k_with "pyIter str" => refine Halt.out ?_
  k_with "call builtin:str.index" => (k_here; refine index_is rfl (by assumption) (by assumption) ?_; intro _ _)
  trivial
theorem whole_spec {ds : List Nat} {ts : Tok} {v : Int}
  (B : Below A₀ base outer h₀) (F : Fr h₀ L s.heap m) (X : (hd.heap_1 w.params).In h₀)
  (N : News h₀ L s.heap rest)
  (Tp : Top view theLoose mean mg mb h₀) (hk : cs.kind = .function)
  (hdp : dp + 2 < recursionLimit) (hun : un + 16 < cLine)
  (hd : ∀ c ∈ ds, isDig c = true) (hv : wholeL ds 0 = v)
  (hret : ∀ (t : Tok) (h' : Heap) (tk' : Nat), Fr h₀ L h' m → News h₀ L h' rest → Q (.int v t) { s with heap := h', toks := tk' }) :
  wpAny (model prog w) (ktrTop dp un gd cn cs L a ccd cl outer) (call (.ref 164) [.str ⟨ds.toArray⟩ ts]) Q E s := by
  refine wpAny_call ?_
  k_dflt (refine' code_def (binds := [(Str.ofString "digits", .str ⟨ds.toArray⟩ ts)]) ?k1 ?k2 ?k3 ?k4 ?k5 ?kA ?kF ?kK ?k6 ?k7 ?k8 ?k9 ?kB ?_ ?c2 ?c3 ?c4 ?c5; (case kA => exact rfl); (case kF => exact rfl); (case kK => assumption); (case k1 => k_asm); (case k2 => k_asm); (case k3 => k_asm); (case k4 => k_asm); (case k5 => k_asm); (case k6 => k_is); (case k7 => k_is); (case k8 => (first | exact rm2 (by assumption) (by exact rfl) | exact rm1 (by assumption) (by exact rfl) | exact rm3 (by assumption) (by exact rfl) | exact rm0 (by assumption) | ktr_room)); (case k9 => first | exact BindsTo.of_eq rfl | exact binds_K (by k_in) rfl (by k_is) rfl rfl rfl); (case c5 => decide); (case kB => exact locs rfl); (case c2 => exact rfl); (case c3 => exact rfl); (case c4 => exact rfl); k_whole; intro g L' h' FG F1 N1 B1 X1 T1; (try k_fold))
  replace F1 := fr_of1 F1
  k_steps
  refine Halt.mk ?_
  (with_reducible rename Fr _ _ _ _ => F2)
  (with_reducible rename News _ _ _ _ => N2)
  with_reducible show wpAny _ _ (pyIter (Value.str _ _)) (fun it s₂ => LoopAtV _ _ _ _ _ _ _ _ _ it s₂) _ _
  refine iter_strUnr (l := ds.map fun c => (⟨#[c]⟩ : Str)) rfl F2 N2 ?_ (fun I hI => loop_str (fun ds m => (∀ c ∈ ds, isDig c = true) ∧ ∃ n t, m (Str.ofString "number") = some (.int n t) ∧ wholeL ds n = v) ?_ ?_ ds _ ?_)
  · rfl
  · rintro m h tk ⟨_, n, t, hm, hn⟩ F3 N3
    have hn' : n = v := hn
    subst hn'
    k_steps
    exact hret _ _ _ (by assumption) (by assumption)
  · rintro c r m u it h tk ⟨hds, n, t, hm, hn⟩ F3 N3
    have hc := hds c (List.mem_cons_self ..)
    have e1 : Txt.contains (Str.ofString "0123456789") ⟨#[c]⟩ = true := by rw [dig_in]; exact hc
    have e2 := find_dig c hc
    k_steps
    exact ⟨_, _, _, rest, rfl, by assumption, by assumption, fun p hp => Nat.ne_of_lt (hI p hp), rfl, fun c hc => hds c (.tail _ hc), _, _, rfl, hn⟩
  · exact ⟨hd, 0, _, rfl, hv⟩
end
theorem off_divisor : True := by
  w_top off
  k_with_none
  trivial
section
theorem kw_divisor_1 : True := by
  k_with "ne" => (refine neN ?_; (try dsimp only); first | assumption | exact Ne.symm (by assumption) | exact Nat.ne_of_gt (by assumption) | exact Nat.ne_of_lt (by assumption) | exact lt_1 (by assumption) (by k_mem) | exact lt_2 (by assumption) (by k_mem) | exact Nat.ne_of_gt (And.left (by assumption)) | exact Nat.ne_of_lt (And.left (by assumption)) | exact Nat.ne_of_gt (And.left (And.right (by assumption))) | exact Nat.ne_of_lt (And.left (And.right (by assumption))) | exact Nat.ne_of_gt (And.left (And.right (And.right (by assumption)))) | exact Nat.ne_of_lt (And.left (And.right (And.right (by assumption)))) | exact Nat.ne_of_gt (And.left (And.right (And.right (And.right (by assumption))))) | exact Nat.ne_of_lt (And.left (And.right (And.right (And.right (by assumption))))) | exact Nat.ne_of_gt (And.left (And.right (And.right (And.right (And.right (by assumption)))))) | exact Nat.ne_of_lt (And.left (And.right (And.right (And.right (And.right (by assumption)))))) | exact Nat.ne_of_gt (And.left (And.right (And.right (And.right (And.right (And.right (by assumption))))))) | exact Nat.ne_of_lt (And.left (And.right (And.right (And.right (And.right (And.right (by assumption))))))))
  k_with "newTuple" => (k_here; k_dflt (refine' kup_newTuple ?F ?N ?_ ?z; (case F => k_asm); (case N => k_asm); (case z => kmk_size)); intro D9 h9 F9 N9 u9; (try k_sweep))
  k_with "newList" => (k_here; k_dflt (refine' newList_K ?k1 ?k2 ?_; (case k1 => k_asm); (case k2 => k_asm); k_whole); intro D9 h9 F9 N9 u9; (try k_sweep))
  k_with "execs cons" => (k_here; refine wpAny_execs_cons ?_; k_fold)
  k_with "eval Tuple" => (k_here; k_fold)
  k_with "eval List" => (k_here; k_fold)
  k_with "eval Call Attribute" => (k_here; k_fold)
  k_with "eval Call" => (k_here; k_fold)
  k_with "exec While BoolOp cons nil" => refine Halt.out ?_
  k_with "exec While Compare cons nil" => refine Halt.out ?_
  k_with "exec While Call cons nil" => refine Halt.out ?_
  k_with "eval Name" => (k_here; k_dflt (refine' ld ?k1 ?k2 ?_; (case k1 => k_asm); (case k2 => first | exact rfl | assumption); k_whole))
  k_with "call builtin:len" => (k_here; first | (refine len_is (by assumption) (by omega) ?_; intro _ _) | (refine PySem.P.len_str (by have h9 := (‹At _ _ _›).small; omega) ?_))
  k_with "subscriptTail" => (k_here; (with_reducible show wpAny _ _ (subscriptTail _ _ (Value.str _ _) (Value.int _ _)) _ _ _); k_dflt (refine' item_at ?k1 ?_ ?k2 ?k3; (case k1 => assumption); (case k2 => with_unfolding_all rfl); (case k3 => intro _; with_unfolding_all rfl)); intro _ _)
  k_with "binaryOp Add int int" => (k_here; refine addI ?_; intro _ _)
  k_with "binaryOp Sub int int" => (k_here; refine subI ?_; intro _ _)
  k_with "compareOp In str str" => (k_here; refine in_is (by assumption) ?_)
  k_with "compareOp NotIn str str" => (k_here; refine notin_is (by assumption) ?_)
  k_with "compareOp Eq str str" => (k_here; refine eqs_is (by assumption) ?_)
  k_with "compareOp NotEq str str" => (k_here; refine nes_is (by assumption) ?_)
  k_with "binaryOp FloorDiv int int" => (k_here; refine fdivI (by omega) (by omega) ?_; intro _ _)
  k_with "binaryOp Mod int int" => (k_here; refine fmodI (by omega) ?_; intro _ _)
  k_with "compareOp Eq int int" => (k_here; refine eqi_is (by assumption) ?_)
  k_with "compareOp In str ref" => (k_here; k_dflt (refine' in_two ?k1 ?k2 ?_; (case k1 => exact (News.get (by k_asm) (by k_mem))); (case k2 => assumption)))
  k_with "compareOp NotIn str ref" => (k_here; k_dflt (refine' notin_two ?k1 ?k2 ?_; (case k1 => exact (News.get (by k_asm) (by k_mem))); (case k2 => assumption)))
  k_with "subscriptTail Name Slice str ref" => (k_here; (with_reducible show wpAny _ _ (subscriptTail _ (Expr.Slice (some _) (some _) none _) _ _) _ _ _); (with_reducible rename Fr _ _ _ _ => F'); (with_reducible rename News _ _ _ _ => N'); (refine slice_strN_ss (hsz := ?hsz) (s := ⟨_, _, _, _, _⟩) F' N' ?_); (case hsz => (have h9 := (‹At _ _ _›).small; rw [PySem.sizeLine_eq]; omega)); intro _ _ _ _ _; (try k_sweep))
  k_with "subscriptTail Attribute Slice str ref" => (k_here; (with_reducible show wpAny _ _ (subscriptTail _ (Expr.Slice (some _) (some _) none _) _ _) _ _ _); (with_reducible rename Fr _ _ _ _ => F'); (with_reducible rename News _ _ _ _ => N'); (refine slice_strN_ss (hsz := ?hsz) (s := ⟨_, _, _, _, _⟩) F' N' ?_); (case hsz => (have h9 := (‹At _ _ _›).small; rw [PySem.sizeLine_eq]; omega)); intro _ _ _ _ _; (try k_sweep))
  trivial
noncomputable def gcdL : Nat → Int → Int → Int
  | 0, a, _ => a
  | n + 1, a, b => if b > 0 then gcdL n b (a.fmod b) else a
end
section
variable {one other : Int} {to tt : Tok}
theorem divisor_spec {v : Int}
  (B : Below A₀ base outer h₀) (F : Fr h₀ L s.heap m) (X : (hd.heap_1 w.params).In h₀)
  (N : News h₀ L s.heap rest)
  (Tp : Top view theLoose mean mg mb h₀) (hk : cs.kind = .function)
  (hdp : dp + 2 < recursionLimit) (hun : un + 16 < cLine)
  (h0 : 0 ≤ other) (hv : ∃ n, other.toNat < n ∧ gcdL n (if one < 0 then -one else one) other = v)
  (hret : ∀ (t : Tok) (h' : Heap) (tk' : Nat), Fr h₀ L h' m → News h₀ L h' rest → Q (.int v t) { s with heap := h', toks := tk' }) :
  wpAny (model prog w) (ktrTop dp un gd cn cs L a ccd cl outer) (call (.ref 107) [.int one to, .int other tt]) Q E s := by
  refine wpAny_call ?_
  k_dflt (refine' code_def (binds := [(Str.ofString "one", .int one to), (Str.ofString "other", .int other tt)]) ?k1 ?k2 ?k3 ?k4 ?k5 ?kA ?kF ?kK ?k6 ?k7 ?k8 ?k9 ?kB ?_ ?c2 ?c3 ?c4 ?c5; (case kA => exact rfl); (case kF => exact rfl); (case kK => assumption); (case k1 => k_asm); (case k2 => k_asm); (case k3 => k_asm); (case k4 => k_asm); (case k5 => k_asm); (case k6 => k_is); (case k7 => k_is); (case k8 => (first | exact rm2 (by assumption) (by exact rfl) | exact rm1 (by assumption) (by exact rfl) | exact rm3 (by assumption) (by exact rfl) | exact rm0 (by assumption) | ktr_room)); (case k9 => first | exact BindsTo.of_eq rfl | exact binds_K (by k_in) rfl (by k_is) rfl rfl rfl); (case c5 => decide); (case kB => exact locs rfl); (case c2 => exact rfl); (case c3 => exact rfl); (case c4 => exact rfl); k_whole; intro g L' h' FG F1 N1 B1 X1 T1; (try k_fold))
  replace F1 := fr_of2 F1
  k_steps
  refine Halt.mk ?_
  (with_reducible rename Fr _ _ _ _ => F2)
  (with_reducible rename News _ _ _ _ => N2)
  refine While_inv2 (fun nn m₁ nx => nx = rest ∧ ∃ a b ta tb, m₁ (Str.ofString "first") = some (.int a ta) ∧ m₁ (Str.ofString "second") = some (.int b tb) ∧ 0 ≤ b ∧ (∃ n, b.toNat < n ∧ gcdL n a b = v) ∧ nn = b.toNat) F2 (News.tl N2) ⟨rfl, _, _, _, _, rfl, rfl, h0, hv, rfl⟩ ?_ ?_
  rotate_left
  · passes_own
  · rintro nn m₁ nx hh tk F3 N3 ⟨rfl, a, b, ta, tb, hf, hs, hb, ⟨n, hn, hg⟩, rfl⟩
    clear F2 N2
    k_fold
    cases n with
    | zero => exact absurd hn (Nat.not_lt_zero _)
    | succ n =>
      by_cases hb0 : b > 0
      · simp only [gcdL, if_pos hb0] at hg
        have hm := Int.fmod_nonneg_of_pos a hb0
        have hm2 := Int.fmod_lt_of_pos a hb0
        k_steps
        exact ⟨_, _, _, nx, (a.fmod b).toNat, rfl, by assumption, News.tl (by assumption), by omega, rfl, b, a.fmod b, _, _, rfl, rfl, hm, ⟨n, by omega, hg⟩, rfl⟩
      · simp only [gcdL, if_neg hb0] at hg
        subst hg
        k_steps
        exact hret _ _ _ (by assumption) (by assumption)

theorem kw_divisor_2 : True := by
  k_with "call ref" => (k_here; (with_reducible show wpAny _ _ (call (Value.ref 107) _) _ _ _); k_dflt (refine' divisor_spec ?k1 ?k2 ?k3 ?k4 ?k5 ?kK ?kd ?ku ?x0 ?x1 ?_; (case k1 => k_asm); (case k2 => k_asm); (case k3 => k_asm); (case k4 => k_asm); (case k5 => k_asm); (case kK => first | exact rfl | assumption); (case kd => (first | exact rm2 (by assumption) (by exact rfl) | exact rm1 (by assumption) (by exact rfl) | exact rm3 (by assumption) (by exact rfl) | exact rm0 (by assumption) | ktr_room)); (case ku => (first | exact rm2 (by assumption) (by exact rfl) | exact rm1 (by assumption) (by exact rfl) | exact rm3 (by assumption) (by exact rfl) | exact rm0 (by assumption) | ktr_units)); (case x0 => omega); (case x1 => assumption); k_whole); intro t9 h9 tk9 F9 N9; (try k_sweep))
  trivial
theorem fraction_spec {v : Int}
  (B : Below A₀ base outer h₀) (F : Fr h₀ L s.heap m) (X : (hd.heap_1 w.params).In h₀)
  (N : News h₀ L s.heap rest)
  (Tp : Top view theLoose mean mg mb h₀) (hk : cs.kind = .function)
  (hdp : dp + 4 < recursionLimit) (hun : un + 32 < cLine)
  (h0 : 0 < other) (hv : ∃ n, other.toNat < n ∧ gcdL n (if one < 0 then -one else one) other = v) (hv0 : 0 < v) (hvs : v < 1000000000)
  (hret : ∀ (d : Addr) (ta tb : Tok) (h' : Heap) (tk' : Nat), Fr h₀ L h' m → News h₀ L h' ((d, tupO [.int (one.fdiv v) ta, .int (other.fdiv v) tb]) :: rest) → (∀ q ∈ rest, q.1 < d) → Q (.ref d) { s with heap := h', toks := tk' }) :
  wpAny (model prog w) (ktrTop dp un gd cn cs L a ccd cl outer) (call (.ref 115) [.int one to, .int other tt]) Q E s := by
  refine wpAny_call ?_
  k_dflt (refine' code_def (binds := [(Str.ofString "top", .int one to), (Str.ofString "bottom", .int other tt)]) ?k1 ?k2 ?k3 ?k4 ?k5 ?kA ?kF ?kK ?k6 ?k7 ?k8 ?k9 ?kB ?_ ?c2 ?c3 ?c4 ?c5; (case kA => exact rfl); (case kF => exact rfl); (case kK => assumption); (case k1 => k_asm); (case k2 => k_asm); (case k3 => k_asm); (case k4 => k_asm); (case k5 => k_asm); (case k6 => k_is); (case k7 => k_is); (case k8 => (first | exact rm2 (by assumption) (by exact rfl) | exact rm1 (by assumption) (by exact rfl) | exact rm3 (by assumption) (by exact rfl) | exact rm0 (by assumption) | ktr_room)); (case k9 => first | exact BindsTo.of_eq rfl | exact binds_K (by k_in) rfl (by k_is) rfl rfl rfl); (case c5 => decide); (case kB => exact locs rfl); (case c2 => exact rfl); (case c3 => exact rfl); (case c4 => exact rfl); k_whole; intro g L' h' FG F1 N1 B1 X1 T1; (try k_fold))
  replace F1 := fr_of2 F1
  have hz : decide (other = 0) = false := decide_eq_false (by omega)
  k_steps
  exact hret _ _ _ _ _ (by assumption) (by assumption) (by assumption)
end
theorem off_dec : True := by
  w_top off
  k_with_none
  trivial
section
theorem kw_dec_1 : True := by
  k_with "ne" => (refine neN ?_; (try dsimp only); first | assumption | exact Ne.symm (by assumption) | exact Nat.ne_of_gt (by assumption) | exact Nat.ne_of_lt (by assumption) | exact lt_1 (by assumption) (by k_mem) | exact lt_2 (by assumption) (by k_mem) | exact Nat.ne_of_gt (And.left (by assumption)) | exact Nat.ne_of_lt (And.left (by assumption)) | exact Nat.ne_of_gt (And.left (And.right (by assumption))) | exact Nat.ne_of_lt (And.left (And.right (by assumption))) | exact Nat.ne_of_gt (And.left (And.right (And.right (by assumption)))) | exact Nat.ne_of_lt (And.left (And.right (And.right (by assumption)))) | exact Nat.ne_of_gt (And.left (And.right (And.right (And.right (by assumption))))) | exact Nat.ne_of_lt (And.left (And.right (And.right (And.right (by assumption))))) | exact Nat.ne_of_gt (And.left (And.right (And.right (And.right (And.right (by assumption)))))) | exact Nat.ne_of_lt (And.left (And.right (And.right (And.right (And.right (by assumption)))))) | exact Nat.ne_of_gt (And.left (And.right (And.right (And.right (And.right (And.right (by assumption))))))) | exact Nat.ne_of_lt (And.left (And.right (And.right (And.right (And.right (And.right (by assumption))))))))
  k_with "newTuple" => (k_here; k_dflt (refine' kup_newTuple ?F ?N ?_ ?z; (case F => k_asm); (case N => k_asm); (case z => kmk_size)); intro D9 h9 F9 N9 u9; (try k_sweep))
  k_with "newList" => (k_here; k_dflt (refine' newList_K ?k1 ?k2 ?_; (case k1 => k_asm); (case k2 => k_asm); k_whole); intro D9 h9 F9 N9 u9; (try k_sweep))
  k_with "execs cons" => (k_here; refine wpAny_execs_cons ?_; k_fold)
  k_with "eval Tuple" => (k_here; k_fold)
  k_with "eval List" => (k_here; k_fold)
  k_with "eval Call Attribute" => (k_here; k_fold)
  k_with "eval Call" => (k_here; k_fold)
  k_with "exec While BoolOp cons nil" => refine Halt.out ?_
  k_with "exec While Compare cons nil" => refine Halt.out ?_
  k_with "exec While Call cons nil" => refine Halt.out ?_
  k_with "eval Name" => (k_here; k_dflt (refine' ld ?k1 ?k2 ?_; (case k1 => k_asm); (case k2 => first | exact rfl | assumption); k_whole))
  k_with "call builtin:len" => (k_here; first | (refine len_is (by assumption) (by omega) ?_; intro _ _) | (refine PySem.P.len_str (by have h9 := (‹At _ _ _›).small; omega) ?_))
  k_with "subscriptTail" => (k_here; (with_reducible show wpAny _ _ (subscriptTail _ _ (Value.str _ _) (Value.int _ _)) _ _ _); k_dflt (refine' item_at ?k1 ?_ ?k2 ?k3; (case k1 => assumption); (case k2 => with_unfolding_all rfl); (case k3 => intro _; with_unfolding_all rfl)); intro _ _)
  k_with "binaryOp Add int int" => (k_here; refine addI ?_; intro _ _)
  k_with "binaryOp Sub int int" => (k_here; refine subI ?_; intro _ _)
  k_with "compareOp In str str" => (k_here; refine in_is (by assumption) ?_)
  k_with "compareOp NotIn str str" => (k_here; refine notin_is (by assumption) ?_)
  k_with "compareOp Eq str str" => (k_here; refine eqs_is (by assumption) ?_)
  k_with "compareOp NotEq str str" => (k_here; refine nes_is (by assumption) ?_)
  k_with "binaryOp FloorDiv int int" => (k_here; refine fdivI (by omega) (by omega) ?_; intro _ _)
  k_with "binaryOp Mod int int" => (k_here; refine fmodI (by omega) ?_; intro _ _)
  k_with "compareOp Eq int int" => (k_here; refine eqi_is (by assumption) ?_)
  k_with "compareOp In str ref" => (k_here; k_dflt (refine' in_two ?k1 ?k2 ?_; (case k1 => exact (News.get (by k_asm) (by k_mem))); (case k2 => assumption)))
  k_with "compareOp NotIn str ref" => (k_here; k_dflt (refine' notin_two ?k1 ?k2 ?_; (case k1 => exact (News.get (by k_asm) (by k_mem))); (case k2 => assumption)))
  k_with "subscriptTail Name Slice str ref" => (k_here; (with_reducible show wpAny _ _ (subscriptTail _ (Expr.Slice (some _) (some _) none _) _ _) _ _ _); (with_reducible rename Fr _ _ _ _ => F'); (with_reducible rename News _ _ _ _ => N'); (refine slice_strN_ss (hsz := ?hsz) (s := ⟨_, _, _, _, _⟩) F' N' ?_); (case hsz => (have h9 := (‹At _ _ _›).small; rw [PySem.sizeLine_eq]; omega)); intro _ _ _ _ _; (try k_sweep))
  k_with "subscriptTail Attribute Slice str ref" => (k_here; (with_reducible show wpAny _ _ (subscriptTail _ (Expr.Slice (some _) (some _) none _) _ _) _ _ _); (with_reducible rename Fr _ _ _ _ => F'); (with_reducible rename News _ _ _ _ => N'); (refine slice_strN_ss (hsz := ?hsz) (s := ⟨_, _, _, _, _⟩) F' N' ?_); (case hsz => (have h9 := (‹At _ _ _›).small; rw [PySem.sizeLine_eq]; omega)); intro _ _ _ _ _; (try k_sweep))
  k_with "call ref" => (k_here; (with_reducible show wpAny _ _ (call (Value.ref 143) _) _ _ _); k_dflt (refine' skip_yes ?k1 ?k2 ?k3 ?k4 ?k5 ?kK ?kd ?ku ?x0 ?x1 ?x2 ?x3 ?_; (case k1 => k_asm); (case k2 => k_asm); (case k3 => k_asm); (case k4 => first | k_asm | exact News.rot1 (by k_asm) | exact News.rot2 (by k_asm) | exact News.rot3 (by k_asm)); (case k5 => k_asm); (case kK => first | exact rfl | assumption); (case kd => (first | exact rm2 (by assumption) (by exact rfl) | exact rm1 (by assumption) (by exact rfl) | exact rm3 (by assumption) (by exact rfl) | exact rm0 (by assumption) | ktr_room)); (case ku => (first | exact rm2 (by assumption) (by exact rfl) | exact rm1 (by assumption) (by exact rfl) | exact rm3 (by assumption) (by exact rfl) | exact rm0 (by assumption) | ktr_units)); (case x0 => first | assumption | k_ne); (case x1 => k_all); (case x2 => first | assumption | exact At.next (by assumption) | exact At.back (by assumption) | exact At.next (At.next (by assumption))); (case x3 => assumption); k_whole); intro t9 t8 h9 tk9 A9 F9 N9; (try k_sweep))
  k_with "call ref" => (k_here; (with_reducible show wpAny _ _ (call (Value.ref 143) _) _ _ _); k_dflt (refine' skip_no ?k1 ?k2 ?k3 ?k4 ?k5 ?kK ?kd ?ku ?x0 ?x1 ?_; (case k1 => k_asm); (case k2 => k_asm); (case k3 => k_asm); (case k4 => first | k_asm | exact News.rot1 (by k_asm) | exact News.rot2 (by k_asm) | exact News.rot3 (by k_asm)); (case k5 => k_asm); (case kK => first | exact rfl | assumption); (case kd => (first | exact rm2 (by assumption) (by exact rfl) | exact rm1 (by assumption) (by exact rfl) | exact rm3 (by assumption) (by exact rfl) | exact rm0 (by assumption) | ktr_room)); (case ku => (first | exact rm2 (by assumption) (by exact rfl) | exact rm1 (by assumption) (by exact rfl) | exact rm3 (by assumption) (by exact rfl) | exact rm0 (by assumption) | ktr_units)); (case x0 => first | assumption | exact At.next (by assumption) | exact At.back (by assumption) | exact At.next (At.next (by assumption))); (case x1 => assumption); k_whole); intro t9 h9 tk9 F9 N9; (try k_sweep))
  k_with "call ref" => (k_here; (with_reducible show wpAny _ _ (call (Value.ref 150) _) _ _ _); k_dflt (refine' ndigits_spec ?k1 ?k2 ?k3 ?k4 ?k5 ?kK ?kd ?ku ?x0 ?x1 ?x2 ?x3 ?x4 ?_; (case k1 => k_asm); (case k2 => k_asm); (case k3 => k_asm); (case k4 => first | k_asm | exact News.rot1 (by k_asm) | exact News.rot2 (by k_asm) | exact News.rot3 (by k_asm)); (case k5 => k_asm); (case kK => first | exact rfl | assumption); (case kd => (first | exact rm2 (by assumption) (by exact rfl) | exact rm1 (by assumption) (by exact rfl) | exact rm3 (by assumption) (by exact rfl) | exact rm0 (by assumption) | ktr_room)); (case ku => (first | exact rm2 (by assumption) (by exact rfl) | exact rm1 (by assumption) (by exact rfl) | exact rm3 (by assumption) (by exact rfl) | exact rm0 (by assumption) | ktr_units)); (case x0 => first | assumption | k_ne); (case x1 => k_all); (case x2 => first | assumption | exact At.next (by assumption) | exact At.back (by assumption) | exact At.next (At.next (by assumption))); (case x3 => assumption); (case x4 => assumption); k_whole); intro p9 t9 t8 h9 tk9 A9 F9 N9; (try k_sweep))
  k_with "call ref" => (k_here; (with_reducible show wpAny _ _ (call (Value.ref 164) _) _ _ _); k_dflt (refine' whole_spec ?k1 ?k2 ?k3 ?k4 ?k5 ?kK ?kd ?ku ?x0 ?x1 ?_; (case k1 => k_asm); (case k2 => k_asm); (case k3 => k_asm); (case k4 => first | k_asm | exact News.rot1 (by k_asm) | exact News.rot2 (by k_asm) | exact News.rot3 (by k_asm)); (case k5 => k_asm); (case kK => first | exact rfl | assumption); (case kd => (first | exact rm2 (by assumption) (by exact rfl) | exact rm1 (by assumption) (by exact rfl) | exact rm3 (by assumption) (by exact rfl) | exact rm0 (by assumption) | ktr_room)); (case ku => (first | exact rm2 (by assumption) (by exact rfl) | exact rm1 (by assumption) (by exact rfl) | exact rm3 (by assumption) (by exact rfl) | exact rm0 (by assumption) | ktr_units)); (case x0 => assumption); (case x1 => assumption); k_whole); intro t9 h9 tk9 F9 N9; (try k_sweep))
  trivial
theorem ee_eq : ((Str.ofString "").cps.toList == (Str.ofString "").cps.toList) = true := by decide +kernel
theorem rexp_no
  (B : Below A₀ base outer h₀) (F : Fr h₀ L s.heap m) (X : (hd.heap_1 w.params).In h₀)
  (N : News h₀ L s.heap ((x, instObj 153 dx) :: (dx, scD h1 h2 k1 k2 t1 t2 T p) :: rest))
  (Tp : Top view theLoose mean mg mb h₀) (hk : cs.kind = .function)
  (hdp : dp + 8 < recursionLimit) (hun : un + 64 < cLine)
  (hA : At T p r) (hb : oneOf (Str.ofString "eE") r = false)
  (hret : ∀ (t : Tok) (h' : Heap) (tk' : Nat), Fr h₀ L h' m → News h₀ L h' ((x, instObj 153 dx) :: (dx, scD h1 h2 k1 k2 t1 t2 T p) :: rest) → Q (.int 0 t) { s with heap := h', toks := tk' }) :
  wpAny (model prog w) (ktrTop dp un gd cn cs L a ccd cl outer) (call (.ref 171) [.ref x]) Q E s := by
  have e0 := ee_eq
  refine wpAny_call ?_
  k_dflt (refine' code_def (binds := [(Str.ofString "reader", .ref x)]) ?k1 ?k2 ?k3 ?k4 ?k5 ?kA ?kF ?kK ?k6 ?k7 ?k8 ?k9 ?kB ?_ ?c2 ?c3 ?c4 ?c5; (case kA => exact rfl); (case kF => exact rfl); (case kK => assumption); (case k1 => k_asm); (case k2 => k_asm); (case k3 => k_asm); (case k4 => k_asm); (case k5 => k_asm); (case k6 => k_is); (case k7 => k_is); (case k8 => (first | exact rm2 (by assumption) (by exact rfl) | exact rm1 (by assumption) (by exact rfl) | exact rm3 (by assumption) (by exact rfl) | exact rm0 (by assumption) | ktr_room)); (case k9 => first | exact BindsTo.of_eq rfl | exact binds_K (by k_in) rfl (by k_is) rfl rfl rfl); (case c5 => decide); (case kB => exact locs rfl); (case c2 => exact rfl); (case c3 => exact rfl); (case c4 => exact rfl); k_whole; intro g L' h' FG F1 N1 B1 X1 T1; (try k_fold))
  replace F1 := fr_of1 F1
  k_steps
  exact hret _ _ _ (by assumption) (by assumption)
theorem rexp_pos {c : Nat} {ds r3 : List Nat} {v : Int}
  (B : Below A₀ base outer h₀) (F : Fr h₀ L s.heap m) (X : (hd.heap_1 w.params).In h₀)
  (N : News h₀ L s.heap ((x, instObj 153 dx) :: (dx, scD h1 h2 k1 k2 t1 t2 T p) :: rest))
  (Tp : Top view theLoose mean mg mb h₀) (hk : cs.kind = .function)
  (hdp : dp + 8 < recursionLimit) (hun : un + 64 < cLine)
  (hxd : x ≠ dx) (hrest : ∀ q ∈ rest, q.1 ≠ dx) (hA : At T p (c :: r)) (hb : oneOf (Str.ofString "eE") (c :: r) = true)
  (hs : oneOf (Str.ofString "+-") r = false) (hds : r.takeWhile isDig = ds) (hr3 : r.dropWhile isDig = r3) (hall : ∀ c ∈ ds, isDig c = true) (hv : wholeL ds 0 = v) (hne : (ds == []) = false) (hlen : ds.length < 9) (hv3 : v < 300)
  (hret : ∀ (p' : Int) (t t2' : Tok) (h' : Heap) (tk' : Nat), At T p' r3 → Fr h₀ L h' m → News h₀ L h' ((x, instObj 153 dx) :: (dx, scD h1 h2 k1 k2 t1 t2' T p') :: rest) → Q (.int v t) { s with heap := h', toks := tk' }) :
  wpAny (model prog w) (ktrTop dp un gd cn cs L a ccd cl outer) (call (.ref 171) [.ref x]) Q E s := by
  have e1 := empty_eq c
  have e2 : ((⟨ds.toArray⟩ : Str).cps.toList == (Str.ofString "").cps.toList) = false := by
    have : (Str.ofString "").cps.toList = [] := by decide +kernel
    rw [this]; exact hne
  have e3 : ((⟨ds.toArray⟩ : Str).length : Int) = ds.length := by simp [Str.length]
  have e4 : ((Str.ofString "").cps.toList == (Str.ofString "-").cps.toList) = false := by decide +kernel
  refine wpAny_call ?_
  k_dflt (refine' code_def (binds := [(Str.ofString "reader", .ref x)]) ?k1 ?k2 ?k3 ?k4 ?k5 ?kA ?kF ?kK ?k6 ?k7 ?k8 ?k9 ?kB ?_ ?c2 ?c3 ?c4 ?c5; (case kA => exact rfl); (case kF => exact rfl); (case kK => assumption); (case k1 => k_asm); (case k2 => k_asm); (case k3 => k_asm); (case k4 => k_asm); (case k5 => k_asm); (case k6 => k_is); (case k7 => k_is); (case k8 => (first | exact rm2 (by assumption) (by exact rfl) | exact rm1 (by assumption) (by exact rfl) | exact rm3 (by assumption) (by exact rfl) | exact rm0 (by assumption) | ktr_room)); (case k9 => first | exact BindsTo.of_eq rfl | exact binds_K (by k_in) rfl (by k_is) rfl rfl rfl); (case c5 => decide); (case kB => exact locs rfl); (case c2 => exact rfl); (case c3 => exact rfl); (case c4 => exact rfl); k_whole; intro g L' h' FG F1 N1 B1 X1 T1; (try k_fold))
  replace F1 := fr_of1 F1
  k_steps
  ((with_reducible rename News _ _ _ _ => N9); first | exact hret _ _ _ _ _ (by first | assumption | exact At.next (by assumption) | exact At.next (At.next (by assumption)) | exact At.back (by assumption)) (by assumption) N9 | exact hret _ _ _ _ _ (by first | assumption | exact At.next (by assumption) | exact At.next (At.next (by assumption)) | exact At.back (by assumption)) (by assumption) (News.tl N9) | exact hret _ _ _ _ _ (by first | assumption | exact At.next (by assumption) | exact At.next (At.next (by assumption)) | exact At.back (by assumption)) (by assumption) (News.pick1 N9) | exact hret _ _ _ _ _ (by first | assumption | exact At.next (by assumption) | exact At.next (At.next (by assumption)) | exact At.back (by assumption)) (by assumption) (News.pick2 N9) | exact hret _ _ _ _ _ (by first | assumption | exact At.next (by assumption) | exact At.next (At.next (by assumption)) | exact At.back (by assumption)) (by assumption) (News.pick3 N9))
theorem minus_eq : same1 45 (Str.ofString "-") = true := by decide +kernel
theorem rexp_neg {c : Nat} {ds r3 : List Nat} {v : Int}
  (B : Below A₀ base outer h₀) (F : Fr h₀ L s.heap m) (X : (hd.heap_1 w.params).In h₀)
  (N : News h₀ L s.heap ((x, instObj 153 dx) :: (dx, scD h1 h2 k1 k2 t1 t2 T p) :: rest))
  (Tp : Top view theLoose mean mg mb h₀) (hk : cs.kind = .function)
  (hdp : dp + 8 < recursionLimit) (hun : un + 64 < cLine)
  (hxd : x ≠ dx) (hrest : ∀ q ∈ rest, q.1 ≠ dx) (hA : At T p (c :: 45 :: r)) (hb : oneOf (Str.ofString "eE") (c :: 45 :: r) = true)
  (hds : r.takeWhile isDig = ds) (hr3 : r.dropWhile isDig = r3) (hall : ∀ c ∈ ds, isDig c = true) (hv : wholeL ds 0 = v) (hne : (ds == []) = false) (hlen : ds.length < 9) (hv3 : v < 300)
  (hret : ∀ (p' : Int) (t t2' : Tok) (h' : Heap) (tk' : Nat), At T p' r3 → Fr h₀ L h' m → News h₀ L h' ((x, instObj 153 dx) :: (dx, scD h1 h2 k1 k2 t1 t2' T p') :: rest) → Q (.int (-v) t) { s with heap := h', toks := tk' }) :
  wpAny (model prog w) (ktrTop dp un gd cn cs L a ccd cl outer) (call (.ref 171) [.ref x]) Q E s := by
  have e1 := empty_eq c
  have e2 : ((⟨ds.toArray⟩ : Str).cps.toList == (Str.ofString "").cps.toList) = false := by
    have : (Str.ofString "").cps.toList = [] := by decide +kernel
    rw [this]; exact hne
  have e3 : ((⟨ds.toArray⟩ : Str).length : Int) = ds.length := by simp [Str.length]
  have e4 := minus_eq
  have e5 : oneOf (Str.ofString "+-") (45 :: r) = true := by show Txt.contains _ _ = true; rw [in1 (S := Str.ofString "+-") (l := [43, 45]) (by decide +kernel)]; decide
  refine wpAny_call ?_
  k_dflt (refine' code_def (binds := [(Str.ofString "reader", .ref x)]) ?k1 ?k2 ?k3 ?k4 ?k5 ?kA ?kF ?kK ?k6 ?k7 ?k8 ?k9 ?kB ?_ ?c2 ?c3 ?c4 ?c5; (case kA => exact rfl); (case kF => exact rfl); (case kK => assumption); (case k1 => k_asm); (case k2 => k_asm); (case k3 => k_asm); (case k4 => k_asm); (case k5 => k_asm); (case k6 => k_is); (case k7 => k_is); (case k8 => (first | exact rm2 (by assumption) (by exact rfl) | exact rm1 (by assumption) (by exact rfl) | exact rm3 (by assumption) (by exact rfl) | exact rm0 (by assumption) | ktr_room)); (case k9 => first | exact BindsTo.of_eq rfl | exact binds_K (by k_in) rfl (by k_is) rfl rfl rfl); (case c5 => decide); (case kB => exact locs rfl); (case c2 => exact rfl); (case c3 => exact rfl); (case c4 => exact rfl); k_whole; intro g L' h' FG F1 N1 B1 X1 T1; (try k_fold))
  replace F1 := fr_of1 F1
  k_steps
  ((with_reducible rename News _ _ _ _ => N9); first | exact hret _ _ _ _ _ (by first | assumption | exact At.next (by assumption) | exact At.next (At.next (by assumption)) | exact At.back (by assumption)) (by assumption) N9 | exact hret _ _ _ _ _ (by first | assumption | exact At.next (by assumption) | exact At.next (At.next (by assumption)) | exact At.back (by assumption)) (by assumption) (News.tl N9) | exact hret _ _ _ _ _ (by first | assumption | exact At.next (by assumption) | exact At.next (At.next (by assumption)) | exact At.back (by assumption)) (by assumption) (News.pick1 N9) | exact hret _ _ _ _ _ (by first | assumption | exact At.next (by assumption) | exact At.next (At.next (by assumption)) | exact At.back (by assumption)) (by assumption) (News.pick2 N9) | exact hret _ _ _ _ _ (by first | assumption | exact At.next (by assumption) | exact At.next (At.next (by assumption)) | exact At.back (by assumption)) (by assumption) (News.pick3 N9))
end
theorem off_make : True := by
  w_top off
  k_with_none
  trivial
section
theorem kw_make_1 : True := by
  k_with "ne" => (refine neN ?_; (try dsimp only); first | assumption | exact Ne.symm (by assumption) | exact Nat.ne_of_gt (by assumption) | exact Nat.ne_of_lt (by assumption) | exact lt_1 (by assumption) (by k_mem) | exact lt_2 (by assumption) (by k_mem) | exact Nat.ne_of_gt (And.left (by assumption)) | exact Nat.ne_of_lt (And.left (by assumption)) | exact Nat.ne_of_gt (And.left (And.right (by assumption))) | exact Nat.ne_of_lt (And.left (And.right (by assumption))) | exact Nat.ne_of_gt (And.left (And.right (And.right (by assumption)))) | exact Nat.ne_of_lt (And.left (And.right (And.right (by assumption)))) | exact Nat.ne_of_gt (And.left (And.right (And.right (And.right (by assumption))))) | exact Nat.ne_of_lt (And.left (And.right (And.right (And.right (by assumption))))) | exact Nat.ne_of_gt (And.left (And.right (And.right (And.right (And.right (by assumption)))))) | exact Nat.ne_of_lt (And.left (And.right (And.right (And.right (And.right (by assumption)))))) | exact Nat.ne_of_gt (And.left (And.right (And.right (And.right (And.right (And.right (by assumption))))))) | exact Nat.ne_of_lt (And.left (And.right (And.right (And.right (And.right (And.right (by assumption))))))))
  k_with "newTuple" => (k_here; k_dflt (refine' kup_newTuple ?F ?N ?_ ?z; (case F => k_asm); (case N => k_asm); (case z => kmk_size)); intro D9 h9 F9 N9 u9; (try k_sweep))
  k_with "newList" => (k_here; k_dflt (refine' newList_K ?k1 ?k2 ?_; (case k1 => k_asm); (case k2 => k_asm); k_whole); intro D9 h9 F9 N9 u9; (try k_sweep))
  k_with "execs cons" => (k_here; refine wpAny_execs_cons ?_; k_fold)
  k_with "eval Tuple" => (k_here; k_fold)
  k_with "eval List" => (k_here; k_fold)
  k_with "eval Call Attribute" => (k_here; k_fold)
  k_with "eval Call" => (k_here; k_fold)
  k_with "exec While BoolOp cons nil" => refine Halt.out ?_
  k_with "exec While Compare cons nil" => refine Halt.out ?_
  k_with "exec While Call cons nil" => refine Halt.out ?_
  k_with "eval Name" => (k_here; k_dflt (refine' ld ?k1 ?k2 ?_; (case k1 => k_asm); (case k2 => first | exact rfl | assumption); k_whole))
  k_with "call builtin:len" => (k_here; first | (refine len_is (by assumption) (by omega) ?_; intro _ _) | (refine PySem.P.len_str (by have h9 := (‹At _ _ _›).small; omega) ?_))
  k_with "subscriptTail" => (k_here; (with_reducible show wpAny _ _ (subscriptTail _ _ (Value.str _ _) (Value.int _ _)) _ _ _); k_dflt (refine' item_at ?k1 ?_ ?k2 ?k3; (case k1 => assumption); (case k2 => with_unfolding_all rfl); (case k3 => intro _; with_unfolding_all rfl)); intro _ _)
  k_with "binaryOp Add int int" => (k_here; refine addI ?_; intro _ _)
  k_with "binaryOp Sub int int" => (k_here; refine subI ?_; intro _ _)
  k_with "compareOp In str str" => (k_here; refine in_is (by assumption) ?_)
  k_with "compareOp NotIn str str" => (k_here; refine notin_is (by assumption) ?_)
  k_with "compareOp Eq str str" => (k_here; refine eqs_is (by assumption) ?_)
  k_with "compareOp NotEq str str" => (k_here; refine nes_is (by assumption) ?_)
  k_with "binaryOp FloorDiv int int" => (k_here; refine fdivI (by omega) (by omega) ?_; intro _ _)
  k_with "binaryOp Mod int int" => (k_here; refine fmodI (by omega) ?_; intro _ _)
  k_with "compareOp Eq int int" => (k_here; refine eqi_is (by assumption) ?_)
  k_with "compareOp In str ref" => (k_here; k_dflt (refine' in_two ?k1 ?k2 ?_; (case k1 => exact (News.get (by k_asm) (by k_mem))); (case k2 => assumption)))
  k_with "compareOp NotIn str ref" => (k_here; k_dflt (refine' notin_two ?k1 ?k2 ?_; (case k1 => exact (News.get (by k_asm) (by k_mem))); (case k2 => assumption)))
  k_with "subscriptTail Name Slice str ref" => (k_here; (with_reducible show wpAny _ _ (subscriptTail _ (Expr.Slice (some _) (some _) none _) _ _) _ _ _); (with_reducible rename Fr _ _ _ _ => F'); (with_reducible rename News _ _ _ _ => N'); (refine slice_strN_ss (hsz := ?hsz) (s := ⟨_, _, _, _, _⟩) F' N' ?_); (case hsz => (have h9 := (‹At _ _ _›).small; rw [PySem.sizeLine_eq]; omega)); intro _ _ _ _ _; (try k_sweep))
  k_with "subscriptTail Attribute Slice str ref" => (k_here; (with_reducible show wpAny _ _ (subscriptTail _ (Expr.Slice (some _) (some _) none _) _ _) _ _ _); (with_reducible rename Fr _ _ _ _ => F'); (with_reducible rename News _ _ _ _ => N'); (refine slice_strN_ss (hsz := ?hsz) (s := ⟨_, _, _, _, _⟩) F' N' ?_); (case hsz => (have h9 := (‹At _ _ _›).small; rw [PySem.sizeLine_eq]; omega)); intro _ _ _ _ _; (try k_sweep))
  trivial
theorem make_number
  (B : Below A₀ base outer h₀) (F : Fr h₀ L s.heap m) (X : (hd.heap_1 w.params).In h₀)
  (N : News h₀ L s.heap rest)
  (Tp : Top view theLoose mean mg mb h₀) (hk : cs.kind = .function)
  (hdp : dp + 4 < recursionLimit) (hun : un + 32 < cLine)
  {ts : Tok}
  (hret : ∀ (x dx : Addr) (h1 h2 : Int) (k1 k2 t2 : Tok) (h' : Heap) (tk' : Nat), Fr h₀ L h' m → News h₀ L h' ((x, instObj 153 dx) :: (dx, scD h1 h2 k1 k2 ts t2 T 0) :: rest) → x ≠ dx → (∀ q ∈ rest, q.1 < dx) → dx < x → Q (.ref x) { s with heap := h', toks := tk' }) :
  wpAny (model prog w) (ktrTop dp un gd cn cs L a ccd cl outer) (call (.ref 153) [.str T ts]) Q E s := by
  k_dflt (refine' call_cls ?k1 ?k2 ?k3 ?k4 ?k5 ?k6 ?_; (case k1 => k_asm); (case k2 => k_asm); (case k3 => k_asm); (case k4 => k_is); (case k5 => k_is); (case k6 => k_is); k_whole)
  intro x dx h9 F9 N9 l1 l2
  have l3 : x ≠ dx := Nat.ne_of_gt l2
  have l4 : ∀ q ∈ rest, q.1 ≠ dx := fun q hq => Nat.ne_of_lt (l1 q hq)
  k_dflt (refine' code_def (binds := [(Str.ofString "self", .ref x), (Str.ofString "text", .str T ts)]) ?k1 ?k2 ?k3 ?k4 ?k5 ?kA ?kF ?kK ?k6 ?k7 ?k8 ?k9 ?kB ?_ ?c2 ?c3 ?c4 ?c5; (case kA => exact rfl); (case kF => exact rfl); (case kK => assumption); (case k1 => k_asm); (case k2 => k_asm); (case k3 => k_asm); (case k4 => k_asm); (case k5 => k_asm); (case k6 => k_is); (case k7 => k_is); (case k8 => (show _ < recursionLimit; simp only [depth_under_make]; show dp + 1 < _; omega)); (case k9 => first | exact BindsTo.of_eq rfl | exact binds_K (by k_in) rfl (by k_is) rfl rfl rfl); (case c5 => decide); (case kB => exact locs rfl); (case c2 => exact rfl); (case c3 => exact rfl); (case c4 => exact rfl); k_whole; intro g L' h' FG F1 N1 B1 X1 T1; (try k_fold))
  replace F1 := fr_of2 F1
  k_steps
  exact hret _ _ _ _ _ _ _ _ _ (by assumption) (by assumption) l3 l1 l2

theorem make_scanner
  (B : Below A₀ base outer h₀) (F : Fr h₀ L s.heap m) (X : (hd.heap_1 w.params).In h₀)
  (N : News h₀ L s.heap rest)
  (Tp : Top view theLoose mean mg mb h₀) (hk : cs.kind = .function)
  (hdp : dp + 4 < recursionLimit) (hun : un + 32 < cLine)
  {ts : Tok}
  (hret : ∀ (x dx : Addr) (h1 h2 : Int) (k1 k2 t2 : Tok) (h' : Heap) (tk' : Nat), Fr h₀ L h' m → News h₀ L h' ((x, instObj 272 dx) :: (dx, scD h1 h2 k1 k2 ts t2 T 0) :: rest) → x ≠ dx → (∀ q ∈ rest, q.1 < dx) → dx < x → Q (.ref x) { s with heap := h', toks := tk' }) :
  wpAny (model prog w) (ktrTop dp un gd cn cs L a ccd cl outer) (call (.ref 272) [.str T ts]) Q E s := by
  k_dflt (refine' call_cls ?k1 ?k2 ?k3 ?k4 ?k5 ?k6 ?_; (case k1 => k_asm); (case k2 => k_asm); (case k3 => k_asm); (case k4 => k_is); (case k5 => k_is); (case k6 => k_is); k_whole)
  intro x dx h9 F9 N9 l1 l2
  have l3 : x ≠ dx := Nat.ne_of_gt l2
  have l4 : ∀ q ∈ rest, q.1 ≠ dx := fun q hq => Nat.ne_of_lt (l1 q hq)
  k_dflt (refine' code_def (binds := [(Str.ofString "self", .ref x), (Str.ofString "text", .str T ts)]) ?k1 ?k2 ?k3 ?k4 ?k5 ?kA ?kF ?kK ?k6 ?k7 ?k8 ?k9 ?kB ?_ ?c2 ?c3 ?c4 ?c5; (case kA => exact rfl); (case kF => exact rfl); (case kK => assumption); (case k1 => k_asm); (case k2 => k_asm); (case k3 => k_asm); (case k4 => k_asm); (case k5 => k_asm); (case k6 => k_is); (case k7 => k_is); (case k8 => (show _ < recursionLimit; simp only [depth_under_make]; show dp + 1 < _; omega)); (case k9 => first | exact BindsTo.of_eq rfl | exact binds_K (by k_in) rfl (by k_is) rfl rfl rfl); (case c5 => decide); (case kB => exact locs rfl); (case c2 => exact rfl); (case c3 => exact rfl); (case c4 => exact rfl); k_whole; intro g L' h' FG F1 N1 B1 X1 T1; (try k_fold))
  replace F1 := fr_of2 F1
  k_steps
  exact hret _ _ _ _ _ _ _ _ _ (by assumption) (by assumption) l3 l1 l2
end
theorem off_decimal : True := by
  w_top off
  k_with_none
  trivial
section
theorem kw_decimal_1 : True := by
  k_with "ne" => (refine neN ?_; (try dsimp only); first | assumption | exact Ne.symm (by assumption) | exact Nat.ne_of_gt (by assumption) | exact Nat.ne_of_lt (by assumption) | exact lt_1 (by assumption) (by k_mem) | exact lt_2 (by assumption) (by k_mem) | exact Nat.ne_of_gt (And.left (by assumption)) | exact Nat.ne_of_lt (And.left (by assumption)) | exact Nat.ne_of_gt (And.left (And.right (by assumption))) | exact Nat.ne_of_lt (And.left (And.right (by assumption))) | exact Nat.ne_of_gt (And.left (And.right (And.right (by assumption)))) | exact Nat.ne_of_lt (And.left (And.right (And.right (by assumption)))) | exact Nat.ne_of_gt (And.left (And.right (And.right (And.right (by assumption))))) | exact Nat.ne_of_lt (And.left (And.right (And.right (And.right (by assumption))))) | exact Nat.ne_of_gt (And.left (And.right (And.right (And.right (And.right (by assumption)))))) | exact Nat.ne_of_lt (And.left (And.right (And.right (And.right (And.right (by assumption)))))) | exact Nat.ne_of_gt (And.left (And.right (And.right (And.right (And.right (And.right (by assumption))))))) | exact Nat.ne_of_lt (And.left (And.right (And.right (And.right (And.right (And.right (by assumption))))))))
  k_with "newTuple" => (k_here; k_dflt (refine' kup_newTuple ?F ?N ?_ ?z; (case F => k_asm); (case N => k_asm); (case z => kmk_size)); intro D9 h9 F9 N9 u9; (try k_sweep))
  k_with "newList" => (k_here; k_dflt (refine' newList_K ?k1 ?k2 ?_; (case k1 => k_asm); (case k2 => k_asm); k_whole); intro D9 h9 F9 N9 u9; (try k_sweep))
  k_with "execs cons" => (k_here; refine wpAny_execs_cons ?_; k_fold)
  k_with "eval Tuple" => (k_here; k_fold)
  k_with "eval List" => (k_here; k_fold)
  k_with "eval Call Attribute" => (k_here; k_fold)
  k_with "eval Call" => (k_here; k_fold)
  k_with "exec While BoolOp cons nil" => refine Halt.out ?_
  k_with "exec While Compare cons nil" => refine Halt.out ?_
  k_with "exec While Call cons nil" => refine Halt.out ?_
  k_with "eval Name" => (k_here; k_dflt (refine' ld ?k1 ?k2 ?_; (case k1 => k_asm); (case k2 => first | exact rfl | assumption); k_whole))
  k_with "call builtin:len" => (k_here; first | (refine len_is (by assumption) (by omega) ?_; intro _ _) | (refine PySem.P.len_str (by have h9 := (‹At _ _ _›).small; omega) ?_))
  k_with "subscriptTail" => (k_here; (with_reducible show wpAny _ _ (subscriptTail _ _ (Value.str _ _) (Value.int _ _)) _ _ _); k_dflt (refine' item_at ?k1 ?_ ?k2 ?k3; (case k1 => assumption); (case k2 => with_unfolding_all rfl); (case k3 => intro _; with_unfolding_all rfl)); intro _ _)
  k_with "binaryOp Add int int" => (k_here; refine addI ?_; intro _ _)
  k_with "binaryOp Sub int int" => (k_here; refine subI ?_; intro _ _)
  k_with "compareOp In str str" => (k_here; refine in_is (by assumption) ?_)
  k_with "compareOp NotIn str str" => (k_here; refine notin_is (by assumption) ?_)
  k_with "compareOp Eq str str" => (k_here; refine eqs_is (by assumption) ?_)
  k_with "compareOp NotEq str str" => (k_here; refine nes_is (by assumption) ?_)
  k_with "binaryOp FloorDiv int int" => (k_here; refine fdivI (by omega) (by omega) ?_; intro _ _)
  k_with "binaryOp Mod int int" => (k_here; refine fmodI (by omega) ?_; intro _ _)
  k_with "compareOp Eq int int" => (k_here; refine eqi_is (by assumption) ?_)
  k_with "compareOp In str ref" => (k_here; k_dflt (refine' in_two ?k1 ?k2 ?_; (case k1 => exact (News.get (by k_asm) (by k_mem))); (case k2 => assumption)))
  k_with "compareOp NotIn str ref" => (k_here; k_dflt (refine' notin_two ?k1 ?k2 ?_; (case k1 => exact (News.get (by k_asm) (by k_mem))); (case k2 => assumption)))
  k_with "subscriptTail Name Slice str ref" => (k_here; (with_reducible show wpAny _ _ (subscriptTail _ (Expr.Slice (some _) (some _) none _) _ _) _ _ _); (with_reducible rename Fr _ _ _ _ => F'); (with_reducible rename News _ _ _ _ => N'); (refine slice_strN_ss (hsz := ?hsz) (s := ⟨_, _, _, _, _⟩) F' N' ?_); (case hsz => (have h9 := (‹At _ _ _›).small; rw [PySem.sizeLine_eq]; omega)); intro _ _ _ _ _; (try k_sweep))
  k_with "subscriptTail Attribute Slice str ref" => (k_here; (with_reducible show wpAny _ _ (subscriptTail _ (Expr.Slice (some _) (some _) none _) _ _) _ _ _); (with_reducible rename Fr _ _ _ _ => F'); (with_reducible rename News _ _ _ _ => N'); (refine slice_strN_ss (hsz := ?hsz) (s := ⟨_, _, _, _, _⟩) F' N' ?_); (case hsz => (have h9 := (‹At _ _ _›).small; rw [PySem.sizeLine_eq]; omega)); intro _ _ _ _ _; (try k_sweep))
  trivial
noncomputable def skipR (S : Str) (r : List Nat) : List Nat × List Nat := match r with
  | [] => ([], [])
  | c :: r1 => if Txt.contains S ⟨#[c]⟩ then ([c], r1) else ([], c :: r1)
theorem nil_str : Str.ofString "" = ⟨([] : List Nat).toArray⟩ := by decide +kernel
theorem skip_gen {S : Str} {ts : Tok} {sg r1 : List Nat}
  (B : Below A₀ base outer h₀) (F : Fr h₀ L s.heap m) (X : (hd.heap_1 w.params).In h₀)
  (N : News h₀ L s.heap ((x, instObj 153 dx) :: (dx, scD h1 h2 k1 k2 t1 t2 T p) :: rest))
  (Tp : Top view theLoose mean mg mb h₀) (hk : cs.kind = .function)
  (hdp : dp + 4 < recursionLimit) (hun : un + 32 < cLine)
  (hxd : x ≠ dx) (hrest : ∀ q ∈ rest, q.1 ≠ dx) (hA : At T p r) (hb : skipR S r = (sg, r1))
  (hret : ∀ (p' : Int) (t t2' : Tok) (h' : Heap) (tk' : Nat), At T p' r1 → Fr h₀ L h' m → News h₀ L h' ((x, instObj 153 dx) :: (dx, scD h1 h2 k1 k2 t1 t2' T p') :: rest) → Q (.str ⟨sg.toArray⟩ t) { s with heap := h', toks := tk' }) :
  wpAny (model prog w) (ktrTop dp un gd cn cs L a ccd cl outer) (call (.ref 143) [.ref x, .str S ts]) Q E s := by
  cases r with
  | nil =>
    cases hb
    exact skip_no B F X N Tp hk hdp hun hA rfl fun t h' tk' F' N' => by rw [nil_str]; exact hret _ _ _ _ _ hA F' N'
  | cons c r =>
    cases hc : Txt.contains S ⟨#[c]⟩ with
    | false =>
      simp only [skipR, hc] at hb
      cases hb
      exact skip_no B F X N Tp hk hdp hun hA hc fun t h' tk' F' N' => by rw [nil_str]; exact hret _ _ _ _ _ hA F' N'
    | true =>
      simp only [skipR, hc] at hb
      cases hb
      exact skip_yes B F X N Tp hk hdp hun hxd hrest hA hc fun t t2' h' tk' A' F' N' => hret _ _ _ _ _ A' F' N'
/-- what an exponent says -/
def ExpIs (r : List Nat) (e : Int) (r4 : List Nat) : Prop :=
  (oneOf (Str.ofString "eE") r = false ∧ e = 0 ∧ r4 = r) ∨
  (∃ c rr ds, r = c :: rr ∧ oneOf (Str.ofString "eE") (c :: rr) = true ∧ oneOf (Str.ofString "+-") rr = false ∧ rr.takeWhile isDig = ds ∧ rr.dropWhile isDig = r4 ∧ (∀ c ∈ ds, isDig c = true) ∧ wholeL ds 0 = e ∧ (ds == []) = false ∧ ds.length < 9 ∧ e < 300) ∨
  (∃ c rr ds v, r = c :: 45 :: rr ∧ oneOf (Str.ofString "eE") (c :: 45 :: rr) = true ∧ rr.takeWhile isDig = ds ∧ rr.dropWhile isDig = r4 ∧ (∀ c ∈ ds, isDig c = true) ∧ wholeL ds 0 = v ∧ (ds == []) = false ∧ ds.length < 9 ∧ v < 300 ∧ -v = e)
theorem rexp_gen {e : Int} {r4 : List Nat}
  (B : Below A₀ base outer h₀) (F : Fr h₀ L s.heap m) (X : (hd.heap_1 w.params).In h₀)
  (N : News h₀ L s.heap ((x, instObj 153 dx) :: (dx, scD h1 h2 k1 k2 t1 t2 T p) :: rest))
  (Tp : Top view theLoose mean mg mb h₀) (hk : cs.kind = .function)
  (hdp : dp + 8 < recursionLimit) (hun : un + 64 < cLine)
  (hxd : x ≠ dx) (hrest : ∀ q ∈ rest, q.1 ≠ dx) (hA : At T p r) (he : ExpIs r e r4)
  (hret : ∀ (p' : Int) (t t2' : Tok) (h' : Heap) (tk' : Nat), At T p' r4 → Fr h₀ L h' m → News h₀ L h' ((x, instObj 153 dx) :: (dx, scD h1 h2 k1 k2 t1 t2' T p') :: rest) → Q (.int e t) { s with heap := h', toks := tk' }) :
  wpAny (model prog w) (ktrTop dp un gd cn cs L a ccd cl outer) (call (.ref 171) [.ref x]) Q E s := by
  rcases he with ⟨h1, rfl, rfl⟩ | ⟨c, rr, ds, rfl, h1, h2, h3, h4, h5, h6, h7, h8, h9⟩ | ⟨c, rr, ds, v, rfl, h1, h2, h3, h4, h5, h6, h7, h8, rfl⟩
  · exact rexp_no B F X N Tp hk hdp hun hA h1 fun t h' tk' F' N' => hret _ _ _ _ _ hA F' N'
  · exact rexp_pos B F X N Tp hk hdp hun hxd hrest hA h1 h2 h3 h4 h5 h6 h7 h8 h9 fun p' t t2' h' tk' A' F' N' => hret _ _ _ _ _ A' F' N'
  · exact rexp_neg B F X N Tp hk hdp hun hxd hrest hA h1 h2 h3 h4 h5 h6 h7 h8 fun p' t t2' h' tk' A' F' N' => hret _ _ _ _ _ A' F' N'
def DotIs (r2 ds2 r3 : List Nat) : Prop := (skipR (Str.ofString ".") r2 = ([], r2) ∧ ds2 = [] ∧ r3 = r2) ∨ ∃ rr, skipR (Str.ofString ".") r2 = ([46], rr) ∧ rr.takeWhile isDig = ds2 ∧ rr.dropWhile isDig = r3
theorem kw_decimal_2 : True := by
  k_with "call ref" => (k_here; (with_reducible show wpAny _ _ (call (Value.ref 143) _) _ _ _); k_dflt (refine' skip_gen ?k1 ?k2 ?k3 ?k4 ?k5 ?kK ?kd ?ku ?x0 ?x1 ?x2 ?x3 ?_; (case k1 => k_asm); (case k2 => k_asm); (case k3 => k_asm); (case k4 => first | k_asm | exact News.rot1 (by k_asm) | exact News.rot2 (by k_asm) | exact News.rot3 (by k_asm)); (case k5 => k_asm); (case kK => first | exact rfl | assumption); (case kd => (first | exact rm2 (by assumption) (by exact rfl) | exact rm1 (by assumption) (by exact rfl) | exact rm3 (by assumption) (by exact rfl) | exact rm0 (by assumption) | ktr_room)); (case ku => (first | exact rm2 (by assumption) (by exact rfl) | exact rm1 (by assumption) (by exact rfl) | exact rm3 (by assumption) (by exact rfl) | exact rm0 (by assumption) | ktr_units)); (case x0 => first | assumption | k_ne); (case x1 => k_all); (case x2 => first | assumption | exact At.next (by assumption) | exact At.back (by assumption) | exact At.next (At.next (by assumption))); (case x3 => assumption); k_whole); intro p9 t9 t8 h9 tk9 A9 F9 N9; (try k_sweep))
  k_with "call ref" => (k_here; (with_reducible show wpAny _ _ (call (Value.ref 171) _) _ _ _); k_dflt (refine' rexp_gen ?k1 ?k2 ?k3 ?k4 ?k5 ?kK ?kd ?ku ?x0 ?x1 ?x2 ?x3 ?_; (case k1 => k_asm); (case k2 => k_asm); (case k3 => k_asm); (case k4 => first | k_asm | exact News.rot1 (by k_asm) | exact News.rot2 (by k_asm) | exact News.rot3 (by k_asm)); (case k5 => k_asm); (case kK => first | exact rfl | assumption); (case kd => (first | exact rm2 (by assumption) (by exact rfl) | exact rm1 (by assumption) (by exact rfl) | exact rm3 (by assumption) (by exact rfl) | exact rm0 (by assumption) | ktr_room)); (case ku => (first | exact rm2 (by assumption) (by exact rfl) | exact rm1 (by assumption) (by exact rfl) | exact rm3 (by assumption) (by exact rfl) | exact rm0 (by assumption) | ktr_units)); (case x0 => first | assumption | k_ne); (case x1 => k_all); (case x2 => first | assumption | exact At.next (by assumption) | exact At.back (by assumption) | exact At.next (At.next (by assumption))); (case x3 => assumption); k_whole); intro p9 t9 t8 h9 tk9 A9 F9 N9; (try k_sweep))
  k_with "call ref" => (k_here; (with_reducible show wpAny _ _ (call (Value.ref 150) _) _ _ _); k_dflt (refine' ndigits_spec ?k1 ?k2 ?k3 ?k4 ?k5 ?kK ?kd ?ku ?x0 ?x1 ?x2 ?x3 ?x4 ?_; (case k1 => k_asm); (case k2 => k_asm); (case k3 => k_asm); (case k4 => first | k_asm | exact News.rot1 (by k_asm) | exact News.rot2 (by k_asm) | exact News.rot3 (by k_asm)); (case k5 => k_asm); (case kK => first | exact rfl | assumption); (case kd => (first | exact rm2 (by assumption) (by exact rfl) | exact rm1 (by assumption) (by exact rfl) | exact rm3 (by assumption) (by exact rfl) | exact rm0 (by assumption) | ktr_room)); (case ku => (first | exact rm2 (by assumption) (by exact rfl) | exact rm1 (by assumption) (by exact rfl) | exact rm3 (by assumption) (by exact rfl) | exact rm0 (by assumption) | ktr_units)); (case x0 => first | assumption | k_ne); (case x1 => k_all); (case x2 => first | assumption | exact At.next (by assumption) | exact At.back (by assumption) | exact At.next (At.next (by assumption))); (case x3 => assumption); (case x4 => assumption); k_whole); intro p9 t9 t8 h9 tk9 A9 F9 N9; (try k_sweep))
  k_with "call ref" => (k_here; (with_reducible show wpAny _ _ (call (Value.ref 164) _) _ _ _); k_dflt (refine' whole_spec ?k1 ?k2 ?k3 ?k4 ?k5 ?kK ?kd ?ku ?x0 ?x1 ?_; (case k1 => k_asm); (case k2 => k_asm); (case k3 => k_asm); (case k4 => first | k_asm | exact News.rot1 (by k_asm) | exact News.rot2 (by k_asm) | exact News.rot3 (by k_asm)); (case k5 => k_asm); (case kK => first | exact rfl | assumption); (case kd => (first | exact rm2 (by assumption) (by exact rfl) | exact rm1 (by assumption) (by exact rfl) | exact rm3 (by assumption) (by exact rfl) | exact rm0 (by assumption) | ktr_room)); (case ku => (first | exact rm2 (by assumption) (by exact rfl) | exact rm1 (by assumption) (by exact rfl) | exact rm3 (by assumption) (by exact rfl) | exact rm0 (by assumption) | ktr_units)); (case x0 => assumption); (case x1 => assumption); k_whole); intro t9 h9 tk9 F9 N9; (try k_sweep))
  k_with "call ref" => (k_here; (with_reducible show wpAny _ _ (call (Value.ref 115) _) _ _ _); k_dflt (refine' fraction_spec ?k1 ?k2 ?k3 ?k4 ?k5 ?kK ?kd ?ku ?x0 ?x1 ?x2 ?x3 ?_; (case k1 => k_asm); (case k2 => k_asm); (case k3 => k_asm); (case k4 => k_asm); (case k5 => k_asm); (case kK => first | exact rfl | assumption); (case kd => (first | exact rm2 (by assumption) (by exact rfl) | exact rm1 (by assumption) (by exact rfl) | exact rm3 (by assumption) (by exact rfl) | exact rm0 (by assumption) | ktr_room)); (case ku => (first | exact rm2 (by assumption) (by exact rfl) | exact rm1 (by assumption) (by exact rfl) | exact rm3 (by assumption) (by exact rfl) | exact rm0 (by assumption) | ktr_units)); (case x0 => first | omega | decide); (case x1 => assumption); (case x2 => first | omega | decide); (case x3 => first | omega | decide); k_whole); intro d9 ta9 tb9 h9 tk9 F9 N9 l9; (try k_sweep))
  k_with "binaryOp Add str str" => (k_here; refine addS_is (by assumption) (by first | decide | (show Array.size _ < _; simp; omega)) ?_; intro _ _)
  k_with "binaryOp Sub int int" => (k_here; refine subI_is (by assumption) ?_; intro _ _)
  k_with "compareOp Lt int int" => (k_here; refine lt_end (by assumption) ?_)
  k_with "call builtin:max" => (k_here; (with_reducible rename News _ _ _ _ => N'); (with_reducible rename Fr _ _ _ _ => F'); refine max_is (by assumption) rfl F' N' ?_; (clear N' F'); intro _ _ _ _ _; (try k_sweep))
  k_with "binaryOp Pow int int" => (k_here; refine pow_is (by assumption) (by assumption) (by omega) (by decide) ?_; intro _ _)
  k_with "binaryOp Mult int int" => (k_here; refine mul_is (by assumption) (by first | exact IntMulOk.of_right (intBits_le_64 (by omega) (by omega)) | exact IntMulOk.of_left (intBits_le_64 (by omega) (by omega))) ?_; intro _ _)
  k_with "compareOp GtE int int" => (k_here; refine ge_is (by assumption) ?_)
  k_with "compareOp Gt int int" => (k_here; refine gt_is (by assumption) ?_)
  k_with "binaryOp Sub int int" => (k_here; refine subI_is (by assumption) ?_; intro _ _)
  k_with "call ref" => (k_here; (with_reducible show wpAny _ _ (call (Value.ref 153) _) _ _ _); refine Halt.out ?_)
  k_with "exec If" => (k_here; (with_reducible rename Stop 1 => stop9); clear stop9; refine Halt.out ?_)
  k_with "eval IfExp" => (k_here; (with_reducible rename Stop 2 => stop9); clear stop9; refine Halt.out ?_)
  k_with "isTrue BoolOp" => (k_here; (with_reducible rename Stop 3 => stop9); clear stop9; refine Halt.out ?_)
  trivial
end
section
variable {ts : Tok}
set_option linter.unusedVariables false in
theorem dec_spec {w0 sg r1 ds1 r2 ds2 r3 ds : List Nat} {e n n2 ex m1 m2 P Bt v tp y z sv gg va vb : Int} {sb : Bool}
  (B : Below A₀ base outer h₀) (F : Fr h₀ L s.heap m) (X : (hd.heap_1 w.params).In h₀)
  (N : News h₀ L s.heap rest)
  (Tp : Top view theLoose mean mg mb h₀) (hk : cs.kind = .function)
  (hdp : dp + 14 < recursionLimit) (hun : un + 112 < cLine)
  (hA : At T 0 w0) (c1 : skipR (Str.ofString "+-") w0 = (sg, r1)) (c2 : r1.takeWhile isDig = ds1) (c3 : r1.dropWhile isDig = r2) (c4 : DotIs r2 ds2 r3)
  (c5 : (⟨ds1.toArray⟩ : Str) ++ ⟨ds2.toArray⟩ = ⟨ds.toArray⟩) (c6 : (ds == []) = false) (c7 : ∀ c ∈ ds, isDig c = true) (c8 : (ds.length : Int) = n) (c9 : n < 9) (d1 : (ds2.length : Int) = n2) (d0 : n2 < 9) (d2 : ExpIs r3 e [])
  (d3 : e - n2 = ex) (d4 : (if ex > 0 then ex else 0) = m1) (d5 : (if -ex > 0 then -ex else 0) = m2) (d6 : (10 : Int) ^ m1.toNat = P) (d7 : (10 : Int) ^ m2.toNat = Bt) (d8 : wholeL ds 0 = v) (d9 : v * P = tp)
  (f0 : 0 ≤ m1) (f1 : 0 ≤ m2) (f2 : m1 < 9) (f3 : m2 < 9) (f4 : 0 ≤ P) (f5 : P < 1000000000) (f6 : 0 < Bt) (f7 : Bt < 1000000000) (f8 : 0 ≤ tp) (f9 : tp < 1000000000)
  (g0 : 1000000000000000000000000000000000000000000000000000000000000 * Bt = y) (g1 : decide (tp ≥ y) = false) (g2 : tp * 1000000000000000000000000000000000000000000000000000000000000 = z) (g3 : z = 0 ∨ z ≥ Bt)
  (g4 : (sg == (Str.ofString "-").cps.toList) = sb) (g5 : (if sb = true then -tp else tp) = sv) (g6 : ∃ n, Bt.toNat < n ∧ gcdL n (if sv < 0 then -sv else sv) Bt = gg) (g7 : 0 < gg) (g8 : gg < 1000000000)
  (g9 : sv.fdiv gg = va) (e0 : Bt.fdiv gg = vb)
  (hret : ∀ (d : Addr) (ta tb : Tok) (h' : Heap) (tk' : Nat), Fr h₀ L h' m → News h₀ L h' ((d, tupO [.int va ta, .int vb tb]) :: rest) → (∀ q ∈ rest, q.1 < d) → Q (.ref d) { s with heap := h', toks := tk' }) :
  wpAny (model prog w) (ktrTop dp un gd cn cs L a ccd cl outer) (call (.ref 178) [.str T ts]) Q E s := by
  have k1' : ((⟨ds.toArray⟩ : Str).cps.toList == (Str.ofString "").cps.toList) = false := by
    have : (Str.ofString "").cps.toList = [] := by decide +kernel
    rw [this]; exact c6
  have k2' : ((⟨ds.toArray⟩ : Str).length : Int) = n := by rw [← c8]; simp [Str.length]
  have k3' : ((⟨ds2.toArray⟩ : Str).length : Int) = n2 := by rw [← d1]; simp [Str.length]
  have k4' : ((⟨sg.toArray⟩ : Str).cps.toList == (Str.ofString "-").cps.toList) = sb := g4
  have k5' : ds.length < 9 := by omega
  refine wpAny_call ?_
  k_dflt (refine' code_def (binds := [(Str.ofString "text", .str T ts)]) ?k1 ?k2 ?k3 ?k4 ?k5 ?kA ?kF ?kK ?k6 ?k7 ?k8 ?k9 ?kB ?_ ?c2 ?c3 ?c4 ?c5; (case kA => exact rfl); (case kF => exact rfl); (case kK => assumption); (case k1 => k_asm); (case k2 => k_asm); (case k3 => k_asm); (case k4 => k_asm); (case k5 => k_asm); (case k6 => k_is); (case k7 => k_is); (case k8 => (first | exact rm2 (by assumption) (by exact rfl) | exact rm1 (by assumption) (by exact rfl) | exact rm3 (by assumption) (by exact rfl) | exact rm0 (by assumption) | ktr_room)); (case k9 => first | exact BindsTo.of_eq rfl | exact binds_K (by k_in) rfl (by k_is) rfl rfl rfl); (case c5 => decide); (case kB => exact locs rfl); (case c2 => exact rfl); (case c3 => exact rfl); (case c4 => exact rfl); k_whole; intro g L' h' FG F1 N1 B1 X1 T1; (try k_fold))
  replace F1 := fr_of1 F1
  k_steps
  refine Halt.mk ?_
  (with_reducible rename Fr _ _ _ _ => F2)
  (with_reducible rename News _ _ _ _ => N2)
  k_dflt (refine' make_number ?k1 ?k2 ?k3 ?k4 ?k5 ?kK ?kd ?ku ?_; (case k1 => exact B1); (case k2 => exact F2); (case k3 => exact X1); (case k4 => exact N2); (case k5 => exact T1); (case kK => exact rfl); (case kd => (first | exact rm2 (by assumption) (by exact rfl) | exact rm1 (by assumption) (by exact rfl) | exact rm3 (by assumption) (by exact rfl) | exact rm0 (by assumption) | ktr_room)); (case ku => (first | exact rm2 (by assumption) (by exact rfl) | exact rm1 (by assumption) (by exact rfl) | exact rm3 (by assumption) (by exact rfl) | exact rm0 (by assumption) | ktr_units)); k_whole)
  intro x dx h1 h2 k1 k2 t2 h3 tk3 F3 N3 hxd hrest hlt
  clear F2 N2
  have hrest' := fun q hq => Nat.ne_of_lt (hrest q hq)
  try k_sweep
  have st1 : Stop 1 := trivial
  k_steps
  refine Halt.mk ?_
  (with_reducible rename Fr _ _ _ _ => F4)
  (with_reducible rename At _ _ _ => A4)
  refine cutX (fun m' n' => ∃ p' t2', n' = ((x, instObj 153 dx) :: (dx, scD h1 h2 k1 k2 ts t2' T p') :: rest) ∧ At T p' r3 ∧ ∃ tx tg tw tp', m' (Str.ofString "text") = some (.str T tx) ∧ m' (Str.ofString "reader") = some (.ref x) ∧ m' (Str.ofString "sign") = some (.str ⟨sg.toArray⟩ tg) ∧ m' (Str.ofString "whole") = some (.str ⟨ds1.toArray⟩ tw) ∧ m' (Str.ofString "parts") = some (.str ⟨ds2.toArray⟩ tp')) F4 ?_ ?_
  · rcases c4 with ⟨c41, rfl, rfl⟩ | ⟨rr, c41, c42, c43⟩
    · have ee : (([] : List Nat) == (Str.ofString "").cps.toList) = true := by decide +kernel
      k_steps
      ((with_reducible rename News _ _ _ _ => N9); first | exact ⟨rfl, _, _, _, _, rfl, (by assumption), N9, _, _, rfl, (by assumption), _, _, _, _, rfl, rfl, rfl, rfl, (by first | exact rfl | (rw [← nil_str]; exact rfl))⟩ | exact ⟨rfl, _, _, _, _, rfl, (by assumption), (News.tl N9), _, _, rfl, (by assumption), _, _, _, _, rfl, rfl, rfl, rfl, (by first | exact rfl | (rw [← nil_str]; exact rfl))⟩ | exact ⟨rfl, _, _, _, _, rfl, (by assumption), (News.pick1 N9), _, _, rfl, (by assumption), _, _, _, _, rfl, rfl, rfl, rfl, (by first | exact rfl | (rw [← nil_str]; exact rfl))⟩ | exact ⟨rfl, _, _, _, _, rfl, (by assumption), (News.pick2 N9), _, _, rfl, (by assumption), _, _, _, _, rfl, rfl, rfl, rfl, (by first | exact rfl | (rw [← nil_str]; exact rfl))⟩ | exact ⟨rfl, _, _, _, _, rfl, (by assumption), (News.pick3 N9), _, _, rfl, (by assumption), _, _, _, _, rfl, rfl, rfl, rfl, (by first | exact rfl | (rw [← nil_str]; exact rfl))⟩)
    · have ee : (([46] : List Nat) == (Str.ofString "").cps.toList) = false := by decide +kernel
      k_steps
      ((with_reducible rename News _ _ _ _ => N9); first | exact ⟨rfl, _, _, _, _, rfl, (by assumption), N9, _, _, rfl, (by assumption), _, _, _, _, rfl, rfl, rfl, rfl, (by first | exact rfl | (rw [← nil_str]; exact rfl))⟩ | exact ⟨rfl, _, _, _, _, rfl, (by assumption), (News.tl N9), _, _, rfl, (by assumption), _, _, _, _, rfl, rfl, rfl, rfl, (by first | exact rfl | (rw [← nil_str]; exact rfl))⟩ | exact ⟨rfl, _, _, _, _, rfl, (by assumption), (News.pick1 N9), _, _, rfl, (by assumption), _, _, _, _, rfl, rfl, rfl, rfl, (by first | exact rfl | (rw [← nil_str]; exact rfl))⟩ | exact ⟨rfl, _, _, _, _, rfl, (by assumption), (News.pick2 N9), _, _, rfl, (by assumption), _, _, _, _, rfl, rfl, rfl, rfl, (by first | exact rfl | (rw [← nil_str]; exact rfl))⟩ | exact ⟨rfl, _, _, _, _, rfl, (by assumption), (News.pick3 N9), _, _, rfl, (by assumption), _, _, _, _, rfl, rfl, rfl, rfl, (by first | exact rfl | (rw [← nil_str]; exact rfl))⟩)
  · rintro m' n' h' tk' F5 N5 ⟨p', t2', rfl, A5, tx, tg, tw, tp', m1', m2', m3', m4', m5'⟩
    clear F4
    have st3 : Stop 3 := trivial
    k_steps
    refine Halt.mk ?_
    (with_reducible rename Fr _ _ _ _ => F6)
    (with_reducible rename News _ _ _ _ => N6)
    refine cutB false F6 N6 ?_ ?_
    · k_steps
      all_goals exact ⟨rfl, _, _, rfl, by assumption, by assumption⟩
    · intro h' tk' F7 N7
      clear F6 N6
      have st2 : Stop 2 := trivial
      k_steps
      refine Halt.mk ?_
      (with_reducible rename Fr _ _ _ _ => F8)
      (with_reducible rename News _ _ _ _ => N8)
      refine cutV (fun u => ∃ t, u = .int sv t) F8 N8 ?_ ?_
      · cases sb
        · k_steps
          exact ⟨_, _, rfl, by assumption, by assumption, _, by rw [← g5]; rfl⟩
        · k_steps
          exact ⟨_, _, rfl, by assumption, by assumption, _, by rw [← g5]; rfl⟩
      · rintro _ h' tk' F9 N9 ⟨t, rfl⟩
        clear F8 N8
        k_steps
        (with_reducible rename News h₀ _ _ _ => N9)
        subst g9 e0
        exact hret _ _ _ _ _ (by assumption) (News.drop3 N9) (fun q hq => (by assumption : ∀ q ∈ _ :: _ :: _ :: rest, q.1 < _) q (.tail _ (.tail _ (.tail _ hq))))
/-- a number word of a value -/
inductive DecF (w0 : List Nat) (va vb : Int) : Prop
  | mk {sg r1 ds1 r2 ds2 r3 ds : List Nat} {e n n2 ex m1 m2 P Bt v tp y z sv gg : Int} {sb : Bool} (c1 : skipR (Str.ofString "+-") w0 = (sg, r1)) (c2 : r1.takeWhile isDig = ds1) (c3 : r1.dropWhile isDig = r2) (c4 : DotIs r2 ds2 r3)
  (c5 : (⟨ds1.toArray⟩ : Str) ++ ⟨ds2.toArray⟩ = ⟨ds.toArray⟩) (c6 : (ds == []) = false) (c7 : ∀ c ∈ ds, isDig c = true) (c8 : (ds.length : Int) = n) (c9 : n < 9) (d1 : (ds2.length : Int) = n2) (d0 : n2 < 9) (d2 : ExpIs r3 e [])
  (d3 : e - n2 = ex) (d4 : (if ex > 0 then ex else 0) = m1) (d5 : (if -ex > 0 then -ex else 0) = m2) (d6 : (10 : Int) ^ m1.toNat = P) (d7 : (10 : Int) ^ m2.toNat = Bt) (d8 : wholeL ds 0 = v) (d9 : v * P = tp)
  (f0 : 0 ≤ m1) (f1 : 0 ≤ m2) (f2 : m1 < 9) (f3 : m2 < 9) (f4 : 0 ≤ P) (f5 : P < 1000000000) (f6 : 0 < Bt) (f7 : Bt < 1000000000) (f8 : 0 ≤ tp) (f9 : tp < 1000000000)
  (g0 : 1000000000000000000000000000000000000000000000000000000000000 * Bt = y) (g1 : decide (tp ≥ y) = false) (g2 : tp * 1000000000000000000000000000000000000000000000000000000000000 = z) (g3 : z = 0 ∨ z ≥ Bt)
  (g4 : (sg == (Str.ofString "-").cps.toList) = sb) (g5 : (if sb = true then -tp else tp) = sv) (g6 : ∃ n, Bt.toNat < n ∧ gcdL n (if sv < 0 then -sv else sv) Bt = gg) (g7 : 0 < gg) (g8 : gg < 1000000000)
  (g9 : sv.fdiv gg = va) (e0 : Bt.fdiv gg = vb) : DecF w0 va vb
theorem dec_f {w0 : List Nat} {va vb : Int}
  (B : Below A₀ base outer h₀) (F : Fr h₀ L s.heap m) (X : (hd.heap_1 w.params).In h₀)
  (N : News h₀ L s.heap rest)
  (Tp : Top view theLoose mean mg mb h₀) (hk : cs.kind = .function)
  (hdp : dp + 14 < recursionLimit) (hun : un + 112 < cLine)
  (hA : At T 0 w0) (hf : DecF w0 va vb)
  (hret : ∀ (d : Addr) (ta tb : Tok) (h' : Heap) (tk' : Nat), Fr h₀ L h' m → News h₀ L h' ((d, tupO [.int va ta, .int vb tb]) :: rest) → (∀ q ∈ rest, q.1 < d) → Q (.ref d) { s with heap := h', toks := tk' }) :
  wpAny (model prog w) (ktrTop dp un gd cn cs L a ccd cl outer) (call (.ref 178) [.str T ts]) Q E s := by
  obtain ⟨c1, c2, c3, c4, c5, c6, c7, c8, c9, d1, d0, d2, d3, d4, d5, d6, d7, d8, d9, f0, f1, f2, f3, f4, f5, f6, f7, f8, f9, g0, g1, g2, g3, g4, g5, g6, g7, g8, g9, e0⟩ := hf
  exact dec_spec B F X N Tp hk hdp hun hA c1 c2 c3 c4 c5 c6 c7 c8 c9 d1 d0 d2 d3 d4 d5 d6 d7 d8 d9 f0 f1 f2 f3 f4 f5 f6 f7 f8 f9 g0 g1 g2 g3 g4 g5 g6 g7 g8 g9 e0 hret
end
theorem off_digits : True := by
  w_top off
  k_with_none
  trivial
section
theorem kw_digits_1 : True := by
  k_with "ne" => (refine neN ?_; (try dsimp only); first | assumption | exact Ne.symm (by assumption) | exact Nat.ne_of_gt (by assumption) | exact Nat.ne_of_lt (by assumption) | exact lt_1 (by assumption) (by k_mem) | exact lt_2 (by assumption) (by k_mem) | exact Nat.ne_of_gt (And.left (by assumption)) | exact Nat.ne_of_lt (And.left (by assumption)) | exact Nat.ne_of_gt (And.left (And.right (by assumption))) | exact Nat.ne_of_lt (And.left (And.right (by assumption))) | exact Nat.ne_of_gt (And.left (And.right (And.right (by assumption)))) | exact Nat.ne_of_lt (And.left (And.right (And.right (by assumption)))) | exact Nat.ne_of_gt (And.left (And.right (And.right (And.right (by assumption))))) | exact Nat.ne_of_lt (And.left (And.right (And.right (And.right (by assumption))))) | exact Nat.ne_of_gt (And.left (And.right (And.right (And.right (And.right (by assumption)))))) | exact Nat.ne_of_lt (And.left (And.right (And.right (And.right (And.right (by assumption)))))) | exact Nat.ne_of_gt (And.left (And.right (And.right (And.right (And.right (And.right (by assumption))))))) | exact Nat.ne_of_lt (And.left (And.right (And.right (And.right (And.right (And.right (by assumption))))))))
  k_with "newTuple" => (k_here; k_dflt (refine' kup_newTuple ?F ?N ?_ ?z; (case F => k_asm); (case N => k_asm); (case z => kmk_size)); intro D9 h9 F9 N9 u9; (try k_sweep))
  k_with "newList" => (k_here; k_dflt (refine' newList_K ?k1 ?k2 ?_; (case k1 => k_asm); (case k2 => k_asm); k_whole); intro D9 h9 F9 N9 u9; (try k_sweep))
  k_with "execs cons" => (k_here; refine wpAny_execs_cons ?_; k_fold)
  k_with "eval Tuple" => (k_here; k_fold)
  k_with "eval List" => (k_here; k_fold)
  k_with "eval Call Attribute" => (k_here; k_fold)
  k_with "eval Call" => (k_here; k_fold)
  k_with "exec While BoolOp cons nil" => refine Halt.out ?_
  k_with "exec While Compare cons nil" => refine Halt.out ?_
  k_with "exec While Call cons nil" => refine Halt.out ?_
  k_with "eval Name" => (k_here; k_dflt (refine' ld ?k1 ?k2 ?_; (case k1 => k_asm); (case k2 => first | exact rfl | assumption); k_whole))
  k_with "call builtin:len" => (k_here; first | (refine len_is (by assumption) (by omega) ?_; intro _ _) | (refine PySem.P.len_str (by have h9 := (‹At _ _ _›).small; omega) ?_))
  k_with "subscriptTail" => (k_here; (with_reducible show wpAny _ _ (subscriptTail _ _ (Value.str _ _) (Value.int _ _)) _ _ _); k_dflt (refine' item_at ?k1 ?_ ?k2 ?k3; (case k1 => assumption); (case k2 => with_unfolding_all rfl); (case k3 => intro _; with_unfolding_all rfl)); intro _ _)
  k_with "binaryOp Add int int" => (k_here; refine addI ?_; intro _ _)
  k_with "binaryOp Sub int int" => (k_here; refine subI ?_; intro _ _)
  k_with "compareOp In str str" => (k_here; refine in_is (by assumption) ?_)
  k_with "compareOp NotIn str str" => (k_here; refine notin_is (by assumption) ?_)
  k_with "compareOp Eq str str" => (k_here; refine eqs_is (by assumption) ?_)
  k_with "compareOp NotEq str str" => (k_here; refine nes_is (by assumption) ?_)
  k_with "binaryOp FloorDiv int int" => (k_here; refine fdivI (by omega) (by omega) ?_; intro _ _)
  k_with "binaryOp Mod int int" => (k_here; refine fmodI (by omega) ?_; intro _ _)
  k_with "compareOp Eq int int" => (k_here; refine eqi_is (by assumption) ?_)
  k_with "compareOp In str ref" => (k_here; k_dflt (refine' in_two ?k1 ?k2 ?_; (case k1 => exact (News.get (by k_asm) (by k_mem))); (case k2 => assumption)))
  k_with "compareOp NotIn str ref" => (k_here; k_dflt (refine' notin_two ?k1 ?k2 ?_; (case k1 => exact (News.get (by k_asm) (by k_mem))); (case k2 => assumption)))
  k_with "subscriptTail Name Slice str ref" => (k_here; (with_reducible show wpAny _ _ (subscriptTail _ (Expr.Slice (some _) (some _) none _) _ _) _ _ _); (with_reducible rename Fr _ _ _ _ => F'); (with_reducible rename News _ _ _ _ => N'); (refine slice_strN_ss (hsz := ?hsz) (s := ⟨_, _, _, _, _⟩) F' N' ?_); (case hsz => (have h9 := (‹At _ _ _›).small; rw [PySem.sizeLine_eq]; omega)); intro _ _ _ _ _; (try k_sweep))
  k_with "subscriptTail Attribute Slice str ref" => (k_here; (with_reducible show wpAny _ _ (subscriptTail _ (Expr.Slice (some _) (some _) none _) _ _) _ _ _); (with_reducible rename Fr _ _ _ _ => F'); (with_reducible rename News _ _ _ _ => N'); (refine slice_strN_ss (hsz := ?hsz) (s := ⟨_, _, _, _, _⟩) F' N' ?_); (case hsz => (have h9 := (‹At _ _ _›).small; rw [PySem.sizeLine_eq]; omega)); intro _ _ _ _ _; (try k_sweep))
  k_with "call ref" => (k_here; (with_reducible show wpAny _ _ (call (Value.ref 206) _) _ _ _); k_dflt (refine' peek_c ?k1 ?k2 ?k3 ?k4 ?k5 ?kK ?kd ?ku ?x0 ?_; (case k1 => k_asm); (case k2 => k_asm); (case k3 => k_asm); (case k4 => first | k_asm | exact News.rot1 (by k_asm) | exact News.rot2 (by k_asm) | exact News.rot3 (by k_asm)); (case k5 => k_asm); (case kK => first | exact rfl | assumption); (case kd => (first | exact rm2 (by assumption) (by exact rfl) | exact rm1 (by assumption) (by exact rfl) | exact rm3 (by assumption) (by exact rfl) | exact rm0 (by assumption) | ktr_room)); (case ku => (first | exact rm2 (by assumption) (by exact rfl) | exact rm1 (by assumption) (by exact rfl) | exact rm3 (by assumption) (by exact rfl) | exact rm0 (by assumption) | ktr_units)); (case x0 => first | assumption | exact At.next (by assumption) | exact At.back (by assumption)); k_whole); intro t9 h9 tk9 F9 N9; (try k_sweep))
  k_with "call ref" => (k_here; (with_reducible show wpAny _ _ (call (Value.ref 206) _) _ _ _); k_dflt (refine' peek_n ?k1 ?k2 ?k3 ?k4 ?k5 ?kK ?kd ?ku ?x0 ?_; (case k1 => k_asm); (case k2 => k_asm); (case k3 => k_asm); (case k4 => first | k_asm | exact News.rot1 (by k_asm) | exact News.rot2 (by k_asm) | exact News.rot3 (by k_asm)); (case k5 => k_asm); (case kK => first | exact rfl | assumption); (case kd => (first | exact rm2 (by assumption) (by exact rfl) | exact rm1 (by assumption) (by exact rfl) | exact rm3 (by assumption) (by exact rfl) | exact rm0 (by assumption) | ktr_room)); (case ku => (first | exact rm2 (by assumption) (by exact rfl) | exact rm1 (by assumption) (by exact rfl) | exact rm3 (by assumption) (by exact rfl) | exact rm0 (by assumption) | ktr_units)); (case x0 => first | assumption | exact At.next (by assumption) | exact At.back (by assumption)); k_whole); intro t9 h9 tk9 F9 N9; (try k_sweep))
  k_with "call ref" => (k_here; (with_reducible show wpAny _ _ (call (Value.ref 220) _) _ _ _); k_dflt (refine' spaces_spec ?k1 ?k2 ?k3 ?k4 ?k5 ?kK ?kd ?ku ?x0 ?x1 ?x2 ?x3 ?_; (case k1 => k_asm); (case k2 => k_asm); (case k3 => k_asm); (case k4 => first | k_asm | exact News.rot1 (by k_asm) | exact News.rot2 (by k_asm) | exact News.rot3 (by k_asm)); (case k5 => k_asm); (case kK => first | exact rfl | assumption); (case kd => (first | exact rm2 (by assumption) (by exact rfl) | exact rm1 (by assumption) (by exact rfl) | exact rm3 (by assumption) (by exact rfl) | exact rm0 (by assumption) | ktr_room)); (case ku => (first | exact rm2 (by assumption) (by exact rfl) | exact rm1 (by assumption) (by exact rfl) | exact rm3 (by assumption) (by exact rfl) | exact rm0 (by assumption) | ktr_units)); (case x0 => first | assumption | k_ne); (case x1 => k_all); (case x2 => first | assumption | exact At.next (by assumption) | exact At.back (by assumption)); (case x3 => first | assumption | exact rfl); k_whole); intro p9 t9 h9 tk9 A9 F9 N9; (try k_sweep))
  trivial
theorem digits_spec {r1 : List Nat} {n : Int}
  (B : Below A₀ base outer h₀) (F : Fr h₀ L s.heap m) (X : (hd.heap_1 w.params).In h₀)
  (N : News h₀ L s.heap ((x, instObj 272 dx) :: (dx, scD h1 h2 k1 k2 t1 t2 T p) :: rest))
  (Tp : Top view theLoose mean mg mb h₀) (hk : cs.kind = .function)
  (hdp : dp + 2 < recursionLimit) (hun : un + 16 < cLine)
  (hxd : x ≠ dx) (hrest : ∀ q ∈ rest, q.1 ≠ dx) (hA : At T p r) (hr1 : r.dropWhile isDig = r1) (hn : (r.length : Int) - r1.length = n)
  (hret : ∀ (p' : Int) (t t2' : Tok) (h' : Heap) (tk' : Nat), At T p' r1 → Fr h₀ L h' m → News h₀ L h' ((x, instObj 272 dx) :: (dx, scD h1 h2 k1 k2 t1 t2' T p') :: rest) → Q (.int n t) { s with heap := h', toks := tk' }) :
  wpAny (model prog w) (ktrTop dp un gd cn cs L a ccd cl outer) (call (.ref 241) [.ref x]) Q E s := by
  subst hr1
  refine wpAny_call ?_
  k_dflt (refine' code_def (binds := [(Str.ofString "self", .ref x)]) ?k1 ?k2 ?k3 ?k4 ?k5 ?kA ?kF ?kK ?k6 ?k7 ?k8 ?k9 ?kB ?_ ?c2 ?c3 ?c4 ?c5; (case kA => exact rfl); (case kF => exact rfl); (case kK => assumption); (case k1 => k_asm); (case k2 => k_asm); (case k3 => k_asm); (case k4 => k_asm); (case k5 => k_asm); (case k6 => k_is); (case k7 => k_is); (case k8 => (first | exact rm2 (by assumption) (by exact rfl) | exact rm1 (by assumption) (by exact rfl) | exact rm3 (by assumption) (by exact rfl) | exact rm0 (by assumption) | ktr_room)); (case k9 => first | exact BindsTo.of_eq rfl | exact binds_K (by k_in) rfl (by k_is) rfl rfl rfl); (case c5 => decide); (case kB => exact locs rfl); (case c2 => exact rfl); (case c3 => exact rfl); (case c4 => exact rfl); k_whole; intro g L' h' FG F1 N1 B1 X1 T1; (try k_fold))
  replace F1 := fr_of1 F1
  k_steps
  refine Halt.mk ?_
  refine While_inv2 (fun nn m₁ nx => ∃ (q : Int) (t2' : Tok) (r' : List Nat), nx = ((x, instObj 272 dx) :: (dx, scD h1 h2 k1 k2 t1 t2' T q) :: rest) ∧ m₁ = (fun y => if y = Str.ofString "begin" then some (.int p t2) else if y = Str.ofString "self" then some (.ref x) else none) ∧ At T q r' ∧ r'.dropWhile isDig = r.dropWhile isDig ∧ nn = r'.length) (by assumption) (by assumption) ⟨p, t2, r, rfl, rfl, hA, rfl, rfl⟩ ?_ ?_
  rotate_left
  · passes_own
  · rintro nn m₁ nx hh tk F2 N2 ⟨q, t2', r', rfl, rfl, hA', hr', rfl⟩
    k_fold
    cases r' with
    | nil =>
      have e1 := hA'.eq
      k_steps
      rw [List.dropWhile_nil] at hr'
      have hz : q - p = n := by have l1 := hA.len; have l2 := hA'.len; rw [← hn, ← hr']; omega
      rw [hz]
      exact hret q _ t2' _ _ (hr' ▸ hA') (by assumption) (by assumption)
    | cons c r' =>
      have e1 := hA'.lt
      have e2 := dig_in c
      cases hb : isDig c <;> rw [hb] at e2
      · k_steps
        rw [List.dropWhile_cons, hb] at hr'
        have hz : q - p = n := by have l1 := hA.len; have l2 := hA'.len; have hr2 : c :: r' = r.dropWhile isDig := hr'; rw [← hn, ← hr2]; omega
        rw [hz]
        exact hret q _ t2' _ _ (hr' ▸ hA') (by assumption) (by assumption)
      · k_steps
        rw [List.dropWhile_cons, hb] at hr'
        exact ⟨_, _, _, _, r'.length, rfl, by assumption, by assumption, Nat.lt_succ_self _, q + 1, _, r', rfl, rfl, hA'.next, hr', rfl⟩
end
theorem off_expo : True := by
  w_top off
  k_with_none
  trivial
section
theorem kw_expo_1 : True := by
  k_with "ne" => (refine neN ?_; (try dsimp only); first | assumption | exact Ne.symm (by assumption) | exact Nat.ne_of_gt (by assumption) | exact Nat.ne_of_lt (by assumption) | exact lt_1 (by assumption) (by k_mem) | exact lt_2 (by assumption) (by k_mem) | exact Nat.ne_of_gt (And.left (by assumption)) | exact Nat.ne_of_lt (And.left (by assumption)) | exact Nat.ne_of_gt (And.left (And.right (by assumption))) | exact Nat.ne_of_lt (And.left (And.right (by assumption))) | exact Nat.ne_of_gt (And.left (And.right (And.right (by assumption)))) | exact Nat.ne_of_lt (And.left (And.right (And.right (by assumption)))) | exact Nat.ne_of_gt (And.left (And.right (And.right (And.right (by assumption))))) | exact Nat.ne_of_lt (And.left (And.right (And.right (And.right (by assumption))))) | exact Nat.ne_of_gt (And.left (And.right (And.right (And.right (And.right (by assumption)))))) | exact Nat.ne_of_lt (And.left (And.right (And.right (And.right (And.right (by assumption)))))) | exact Nat.ne_of_gt (And.left (And.right (And.right (And.right (And.right (And.right (by assumption))))))) | exact Nat.ne_of_lt (And.left (And.right (And.right (And.right (And.right (And.right (by assumption))))))))
  k_with "newTuple" => (k_here; k_dflt (refine' kup_newTuple ?F ?N ?_ ?z; (case F => k_asm); (case N => k_asm); (case z => kmk_size)); intro D9 h9 F9 N9 u9; (try k_sweep))
  k_with "newList" => (k_here; k_dflt (refine' newList_K ?k1 ?k2 ?_; (case k1 => k_asm); (case k2 => k_asm); k_whole); intro D9 h9 F9 N9 u9; (try k_sweep))
  k_with "execs cons" => (k_here; refine wpAny_execs_cons ?_; k_fold)
  k_with "eval Tuple" => (k_here; k_fold)
  k_with "eval List" => (k_here; k_fold)
  k_with "eval Call Attribute" => (k_here; k_fold)
  k_with "eval Call" => (k_here; k_fold)
  k_with "exec While BoolOp cons nil" => refine Halt.out ?_
  k_with "exec While Compare cons nil" => refine Halt.out ?_
  k_with "exec While Call cons nil" => refine Halt.out ?_
  k_with "eval Name" => (k_here; k_dflt (refine' ld ?k1 ?k2 ?_; (case k1 => k_asm); (case k2 => first | exact rfl | assumption); k_whole))
  k_with "call builtin:len" => (k_here; first | (refine len_is (by assumption) (by omega) ?_; intro _ _) | (refine PySem.P.len_str (by have h9 := (‹At _ _ _›).small; omega) ?_))
  k_with "subscriptTail" => (k_here; (with_reducible show wpAny _ _ (subscriptTail _ _ (Value.str _ _) (Value.int _ _)) _ _ _); k_dflt (refine' item_at ?k1 ?_ ?k2 ?k3; (case k1 => assumption); (case k2 => with_unfolding_all rfl); (case k3 => intro _; with_unfolding_all rfl)); intro _ _)
  k_with "binaryOp Add int int" => (k_here; refine addI ?_; intro _ _)
  k_with "binaryOp Sub int int" => (k_here; refine subI ?_; intro _ _)
  k_with "compareOp In str str" => (k_here; refine in_is (by assumption) ?_)
  k_with "compareOp NotIn str str" => (k_here; refine notin_is (by assumption) ?_)
  k_with "compareOp Eq str str" => (k_here; refine eqs_is (by assumption) ?_)
  k_with "compareOp NotEq str str" => (k_here; refine nes_is (by assumption) ?_)
  k_with "binaryOp FloorDiv int int" => (k_here; refine fdivI (by omega) (by omega) ?_; intro _ _)
  k_with "binaryOp Mod int int" => (k_here; refine fmodI (by omega) ?_; intro _ _)
  k_with "compareOp Eq int int" => (k_here; refine eqi_is (by assumption) ?_)
  k_with "compareOp In str ref" => (k_here; k_dflt (refine' in_two ?k1 ?k2 ?_; (case k1 => exact (News.get (by k_asm) (by k_mem))); (case k2 => assumption)))
  k_with "compareOp NotIn str ref" => (k_here; k_dflt (refine' notin_two ?k1 ?k2 ?_; (case k1 => exact (News.get (by k_asm) (by k_mem))); (case k2 => assumption)))
  k_with "subscriptTail Name Slice str ref" => (k_here; (with_reducible show wpAny _ _ (subscriptTail _ (Expr.Slice (some _) (some _) none _) _ _) _ _ _); (with_reducible rename Fr _ _ _ _ => F'); (with_reducible rename News _ _ _ _ => N'); (refine slice_strN_ss (hsz := ?hsz) (s := ⟨_, _, _, _, _⟩) F' N' ?_); (case hsz => (have h9 := (‹At _ _ _›).small; rw [PySem.sizeLine_eq]; omega)); intro _ _ _ _ _; (try k_sweep))
  k_with "subscriptTail Attribute Slice str ref" => (k_here; (with_reducible show wpAny _ _ (subscriptTail _ (Expr.Slice (some _) (some _) none _) _ _) _ _ _); (with_reducible rename Fr _ _ _ _ => F'); (with_reducible rename News _ _ _ _ => N'); (refine slice_strN_ss (hsz := ?hsz) (s := ⟨_, _, _, _, _⟩) F' N' ?_); (case hsz => (have h9 := (‹At _ _ _›).small; rw [PySem.sizeLine_eq]; omega)); intro _ _ _ _ _; (try k_sweep))
  k_with "call ref" => (k_here; (with_reducible show wpAny _ _ (call (Value.ref 206) _) _ _ _); k_dflt (refine' peek_c ?k1 ?k2 ?k3 ?k4 ?k5 ?kK ?kd ?ku ?x0 ?_; (case k1 => k_asm); (case k2 => k_asm); (case k3 => k_asm); (case k4 => first | k_asm | exact News.rot1 (by k_asm) | exact News.rot2 (by k_asm) | exact News.rot3 (by k_asm)); (case k5 => k_asm); (case kK => first | exact rfl | assumption); (case kd => (first | exact rm2 (by assumption) (by exact rfl) | exact rm1 (by assumption) (by exact rfl) | exact rm3 (by assumption) (by exact rfl) | exact rm0 (by assumption) | ktr_room)); (case ku => (first | exact rm2 (by assumption) (by exact rfl) | exact rm1 (by assumption) (by exact rfl) | exact rm3 (by assumption) (by exact rfl) | exact rm0 (by assumption) | ktr_units)); (case x0 => first | assumption | exact At.next (by assumption) | exact At.back (by assumption)); k_whole); intro t9 h9 tk9 F9 N9; (try k_sweep))
  k_with "call ref" => (k_here; (with_reducible show wpAny _ _ (call (Value.ref 206) _) _ _ _); k_dflt (refine' peek_n ?k1 ?k2 ?k3 ?k4 ?k5 ?kK ?kd ?ku ?x0 ?_; (case k1 => k_asm); (case k2 => k_asm); (case k3 => k_asm); (case k4 => first | k_asm | exact News.rot1 (by k_asm) | exact News.rot2 (by k_asm) | exact News.rot3 (by k_asm)); (case k5 => k_asm); (case kK => first | exact rfl | assumption); (case kd => (first | exact rm2 (by assumption) (by exact rfl) | exact rm1 (by assumption) (by exact rfl) | exact rm3 (by assumption) (by exact rfl) | exact rm0 (by assumption) | ktr_room)); (case ku => (first | exact rm2 (by assumption) (by exact rfl) | exact rm1 (by assumption) (by exact rfl) | exact rm3 (by assumption) (by exact rfl) | exact rm0 (by assumption) | ktr_units)); (case x0 => first | assumption | exact At.next (by assumption) | exact At.back (by assumption)); k_whole); intro t9 h9 tk9 F9 N9; (try k_sweep))
  k_with "call ref" => (k_here; (with_reducible show wpAny _ _ (call (Value.ref 220) _) _ _ _); k_dflt (refine' spaces_spec ?k1 ?k2 ?k3 ?k4 ?k5 ?kK ?kd ?ku ?x0 ?x1 ?x2 ?x3 ?_; (case k1 => k_asm); (case k2 => k_asm); (case k3 => k_asm); (case k4 => first | k_asm | exact News.rot1 (by k_asm) | exact News.rot2 (by k_asm) | exact News.rot3 (by k_asm)); (case k5 => k_asm); (case kK => first | exact rfl | assumption); (case kd => (first | exact rm2 (by assumption) (by exact rfl) | exact rm1 (by assumption) (by exact rfl) | exact rm3 (by assumption) (by exact rfl) | exact rm0 (by assumption) | ktr_room)); (case ku => (first | exact rm2 (by assumption) (by exact rfl) | exact rm1 (by assumption) (by exact rfl) | exact rm3 (by assumption) (by exact rfl) | exact rm0 (by assumption) | ktr_units)); (case x0 => first | assumption | k_ne); (case x1 => k_all); (case x2 => first | assumption | exact At.next (by assumption) | exact At.back (by assumption)); (case x3 => first | assumption | exact rfl); k_whole); intro p9 t9 h9 tk9 A9 F9 N9; (try k_sweep))
  k_with "call ref" => (k_here; (with_reducible show wpAny _ _ (call (Value.ref 241) _) _ _ _); k_dflt (refine' digits_spec ?k1 ?k2 ?k3 ?k4 ?k5 ?kK ?kd ?ku ?x0 ?x1 ?x2 ?x3 ?x4 ?_; (case k1 => k_asm); (case k2 => k_asm); (case k3 => k_asm); (case k4 => first | k_asm | exact News.rot1 (by k_asm) | exact News.rot2 (by k_asm) | exact News.rot3 (by k_asm)); (case k5 => k_asm); (case kK => first | exact rfl | assumption); (case kd => (first | exact rm2 (by assumption) (by exact rfl) | exact rm1 (by assumption) (by exact rfl) | exact rm3 (by assumption) (by exact rfl) | exact rm0 (by assumption) | ktr_room)); (case ku => (first | exact rm2 (by assumption) (by exact rfl) | exact rm1 (by assumption) (by exact rfl) | exact rm3 (by assumption) (by exact rfl) | exact rm0 (by assumption) | ktr_units)); (case x0 => first | assumption | k_ne); (case x1 => k_all); (case x2 => first | assumption | exact At.next (by assumption) | exact At.back (by assumption) | exact At.next (At.next (by assumption))); (case x3 => first | assumption | exact rfl); (case x4 => assumption); k_whole); intro p9 t9 t8 h9 tk9 A9 F9 N9; (try k_sweep))
  trivial
/-- a sign is passed over -/
noncomputable def signOff (r : List Nat) : List Nat := match r with
  | [] => []
  | d :: r3 => if 43 = d ∨ 45 = d then r3 else d :: r3
/-- what is left behind an exponent, if there is one -/
noncomputable def expOf (r : List Nat) : List Nat := match r with
  | [] => []
  | c :: r1 => if 101 = c ∨ 69 = c then (if (signOff r1).dropWhile isDig = signOff r1 then c :: r1 else (signOff r1).dropWhile isDig) else c :: r1
theorem dw_lt {f : Nat → Bool} {l : List Nat} (h : l.dropWhile f ≠ l) : (l.dropWhile f).length < l.length := by
  have hs := (List.dropWhile_suffix f : l.dropWhile f <:+ l)
  rcases Nat.lt_or_ge (l.dropWhile f).length l.length with q | q
  · exact q
  · exact absurd (hs.eq_of_length_le q) h
theorem exponent_spec {r1 : List Nat}
  (B : Below A₀ base outer h₀) (F : Fr h₀ L s.heap m) (X : (hd.heap_1 w.params).In h₀)
  (N : News h₀ L s.heap ((x, instObj 272 dx) :: (dx, scD h1 h2 k1 k2 t1 t2 T p) :: rest))
  (Tp : Top view theLoose mean mg mb h₀) (hk : cs.kind = .function)
  (hdp : dp + 4 < recursionLimit) (hun : un + 32 < cLine)
  (hxd : x ≠ dx) (hrest : ∀ q ∈ rest, q.1 ≠ dx) (hA : At T p r) (hr1 : expOf r = r1)
  (hret : ∀ (p' : Int) (t2' : Tok) (h' : Heap) (tk' : Nat), At T p' r1 → Fr h₀ L h' m → News h₀ L h' ((x, instObj 272 dx) :: (dx, scD h1 h2 k1 k2 t1 t2' T p') :: rest) → Q .none { s with heap := h', toks := tk' }) :
  wpAny (model prog w) (ktrTop dp un gd cn cs L a ccd cl outer) (call (.ref 248) [.ref x]) Q E s := by
  have e0 := eE_in0
  have e2 := pm_in0
  refine wpAny_call ?_
  k_dflt (refine' code_def (binds := [(Str.ofString "self", .ref x)]) ?k1 ?k2 ?k3 ?k4 ?k5 ?kA ?kF ?kK ?k6 ?k7 ?k8 ?k9 ?kB ?_ ?c2 ?c3 ?c4 ?c5; (case kA => exact rfl); (case kF => exact rfl); (case kK => assumption); (case k1 => k_asm); (case k2 => k_asm); (case k3 => k_asm); (case k4 => k_asm); (case k5 => k_asm); (case k6 => k_is); (case k7 => k_is); (case k8 => (first | exact rm2 (by assumption) (by exact rfl) | exact rm1 (by assumption) (by exact rfl) | exact rm3 (by assumption) (by exact rfl) | exact rm0 (by assumption) | ktr_room)); (case k9 => first | exact BindsTo.of_eq rfl | exact binds_K (by k_in) rfl (by k_is) rfl rfl rfl); (case c5 => decide); (case kB => exact locs rfl); (case c2 => exact rfl); (case c3 => exact rfl); (case c4 => exact rfl); k_whole; intro g L' h' FG F1 N1 B1 X1 T1; (try k_fold))
  replace F1 := fr_of1 F1
  cases r with
  | nil =>
    have h9 : [] = r1 := hr1
    subst h9
    k_steps
    ((with_reducible rename News _ _ _ _ => N9); first | exact hret _ _ _ _ (by first | assumption | exact At.next (by assumption) | exact At.next (At.next (by assumption)) | exact At.back (by assumption)) (by assumption) N9 | exact hret _ _ _ _ (by first | assumption | exact At.next (by assumption) | exact At.next (At.next (by assumption)) | exact At.back (by assumption)) (by assumption) (News.tl N9) | exact hret _ _ _ _ (by first | assumption | exact At.next (by assumption) | exact At.next (At.next (by assumption)) | exact At.back (by assumption)) (by assumption) (News.pick1 N9) | exact hret _ _ _ _ (by first | assumption | exact At.next (by assumption) | exact At.next (At.next (by assumption)) | exact At.back (by assumption)) (by assumption) (News.pick2 N9) | exact hret _ _ _ _ (by first | assumption | exact At.next (by assumption) | exact At.next (At.next (by assumption)) | exact At.back (by assumption)) (by assumption) (News.pick3 N9))
  | cons c r3 =>
    have e3 := eE_in c
    simp only [expOf] at hr1
    by_cases hc : 101 = c ∨ 69 = c
    · rw [decide_eq_true hc] at e3
      rw [if_pos hc] at hr1
      cases r3 with
      | nil =>
        have h9 : c :: [] = r1 := hr1
        have hn : (([] : List Nat).length : Int) - ([] : List Nat).length = 0 := by simp
        subst h9
        k_steps
        ((with_reducible rename News _ _ _ _ => N9); first | exact hret _ _ _ _ (by first | assumption | exact At.next (by assumption) | exact At.next (At.next (by assumption)) | exact At.back (by assumption)) (by assumption) N9 | exact hret _ _ _ _ (by first | assumption | exact At.next (by assumption) | exact At.next (At.next (by assumption)) | exact At.back (by assumption)) (by assumption) (News.tl N9) | exact hret _ _ _ _ (by first | assumption | exact At.next (by assumption) | exact At.next (At.next (by assumption)) | exact At.back (by assumption)) (by assumption) (News.pick1 N9) | exact hret _ _ _ _ (by first | assumption | exact At.next (by assumption) | exact At.next (At.next (by assumption)) | exact At.back (by assumption)) (by assumption) (News.pick2 N9) | exact hret _ _ _ _ (by first | assumption | exact At.next (by assumption) | exact At.next (At.next (by assumption)) | exact At.back (by assumption)) (by assumption) (News.pick3 N9))
      | cons d r4 =>
        have e4 := pm_in d
        simp only [signOff] at hr1
        by_cases hd : 43 = d ∨ 45 = d
        · rw [decide_eq_true hd] at e4
          simp only [if_pos hd] at hr1
          by_cases hw : r4.dropWhile isDig = r4
          · rw [if_pos hw] at hr1
            subst hr1
            have hn : ((r4).length : Int) - ((r4).dropWhile isDig).length = 0 := by rw [hw]; omega
            rw [hw] at hn
            k_steps
            ((with_reducible rename News _ _ _ _ => N9); first | exact hret _ _ _ _ (by first | assumption | exact At.next (by assumption) | exact At.next (At.next (by assumption)) | exact At.back (by assumption)) (by assumption) N9 | exact hret _ _ _ _ (by first | assumption | exact At.next (by assumption) | exact At.next (At.next (by assumption)) | exact At.back (by assumption)) (by assumption) (News.tl N9) | exact hret _ _ _ _ (by first | assumption | exact At.next (by assumption) | exact At.next (At.next (by assumption)) | exact At.back (by assumption)) (by assumption) (News.pick1 N9) | exact hret _ _ _ _ (by first | assumption | exact At.next (by assumption) | exact At.next (At.next (by assumption)) | exact At.back (by assumption)) (by assumption) (News.pick2 N9) | exact hret _ _ _ _ (by first | assumption | exact At.next (by assumption) | exact At.next (At.next (by assumption)) | exact At.back (by assumption)) (by assumption) (News.pick3 N9))
          · rw [if_neg hw] at hr1
            subst hr1
            have l1 := dw_lt hw
            obtain ⟨n, hn, h0⟩ : ∃ n : Int, ((r4).length : Int) - ((r4).dropWhile isDig).length = n ∧ decide (n = 0) = false := ⟨_, rfl, decide_eq_false (by omega)⟩
            k_steps
            ((with_reducible rename News _ _ _ _ => N9); first | exact hret _ _ _ _ (by first | assumption | exact At.next (by assumption) | exact At.next (At.next (by assumption)) | exact At.back (by assumption)) (by assumption) N9 | exact hret _ _ _ _ (by first | assumption | exact At.next (by assumption) | exact At.next (At.next (by assumption)) | exact At.back (by assumption)) (by assumption) (News.tl N9) | exact hret _ _ _ _ (by first | assumption | exact At.next (by assumption) | exact At.next (At.next (by assumption)) | exact At.back (by assumption)) (by assumption) (News.pick1 N9) | exact hret _ _ _ _ (by first | assumption | exact At.next (by assumption) | exact At.next (At.next (by assumption)) | exact At.back (by assumption)) (by assumption) (News.pick2 N9) | exact hret _ _ _ _ (by first | assumption | exact At.next (by assumption) | exact At.next (At.next (by assumption)) | exact At.back (by assumption)) (by assumption) (News.pick3 N9))
        · rw [decide_eq_false hd] at e4
          simp only [if_neg hd] at hr1
          by_cases hw : (d :: r4).dropWhile isDig = d :: r4
          · rw [if_pos hw] at hr1
            subst hr1
            have hn : ((d :: r4).length : Int) - ((d :: r4).dropWhile isDig).length = 0 := by rw [hw]; omega
            rw [hw] at hn
            k_steps
            ((with_reducible rename News _ _ _ _ => N9); first | exact hret _ _ _ _ (by first | assumption | exact At.next (by assumption) | exact At.next (At.next (by assumption)) | exact At.back (by assumption)) (by assumption) N9 | exact hret _ _ _ _ (by first | assumption | exact At.next (by assumption) | exact At.next (At.next (by assumption)) | exact At.back (by assumption)) (by assumption) (News.tl N9) | exact hret _ _ _ _ (by first | assumption | exact At.next (by assumption) | exact At.next (At.next (by assumption)) | exact At.back (by assumption)) (by assumption) (News.pick1 N9) | exact hret _ _ _ _ (by first | assumption | exact At.next (by assumption) | exact At.next (At.next (by assumption)) | exact At.back (by assumption)) (by assumption) (News.pick2 N9) | exact hret _ _ _ _ (by first | assumption | exact At.next (by assumption) | exact At.next (At.next (by assumption)) | exact At.back (by assumption)) (by assumption) (News.pick3 N9))
          · rw [if_neg hw] at hr1
            subst hr1
            have l1 := dw_lt hw
            obtain ⟨n, hn, h0⟩ : ∃ n : Int, ((d :: r4).length : Int) - ((d :: r4).dropWhile isDig).length = n ∧ decide (n = 0) = false := ⟨_, rfl, decide_eq_false (by omega)⟩
            k_steps
            ((with_reducible rename News _ _ _ _ => N9); first | exact hret _ _ _ _ (by first | assumption | exact At.next (by assumption) | exact At.next (At.next (by assumption)) | exact At.back (by assumption)) (by assumption) N9 | exact hret _ _ _ _ (by first | assumption | exact At.next (by assumption) | exact At.next (At.next (by assumption)) | exact At.back (by assumption)) (by assumption) (News.tl N9) | exact hret _ _ _ _ (by first | assumption | exact At.next (by assumption) | exact At.next (At.next (by assumption)) | exact At.back (by assumption)) (by assumption) (News.pick1 N9) | exact hret _ _ _ _ (by first | assumption | exact At.next (by assumption) | exact At.next (At.next (by assumption)) | exact At.back (by assumption)) (by assumption) (News.pick2 N9) | exact hret _ _ _ _ (by first | assumption | exact At.next (by assumption) | exact At.next (At.next (by assumption)) | exact At.back (by assumption)) (by assumption) (News.pick3 N9))
    · rw [decide_eq_false hc] at e3
      rw [if_neg hc] at hr1
      subst hr1
      k_steps
      ((with_reducible rename News _ _ _ _ => N9); first | exact hret _ _ _ _ (by first | assumption | exact At.next (by assumption) | exact At.next (At.next (by assumption)) | exact At.back (by assumption)) (by assumption) N9 | exact hret _ _ _ _ (by first | assumption | exact At.next (by assumption) | exact At.next (At.next (by assumption)) | exact At.back (by assumption)) (by assumption) (News.tl N9) | exact hret _ _ _ _ (by first | assumption | exact At.next (by assumption) | exact At.next (At.next (by assumption)) | exact At.back (by assumption)) (by assumption) (News.pick1 N9) | exact hret _ _ _ _ (by first | assumption | exact At.next (by assumption) | exact At.next (At.next (by assumption)) | exact At.back (by assumption)) (by assumption) (News.pick2 N9) | exact hret _ _ _ _ (by first | assumption | exact At.next (by assumption) | exact At.next (At.next (by assumption)) | exact At.back (by assumption)) (by assumption) (News.pick3 N9))
end
theorem off_flag : True := by
  w_top off
  k_with_none
  trivial
section
theorem kw_flag_1 : True := by
  k_with "ne" => (refine neN ?_; (try dsimp only); first | assumption | exact Ne.symm (by assumption) | exact Nat.ne_of_gt (by assumption) | exact Nat.ne_of_lt (by assumption) | exact lt_1 (by assumption) (by k_mem) | exact lt_2 (by assumption) (by k_mem) | exact Nat.ne_of_gt (And.left (by assumption)) | exact Nat.ne_of_lt (And.left (by assumption)) | exact Nat.ne_of_gt (And.left (And.right (by assumption))) | exact Nat.ne_of_lt (And.left (And.right (by assumption))) | exact Nat.ne_of_gt (And.left (And.right (And.right (by assumption)))) | exact Nat.ne_of_lt (And.left (And.right (And.right (by assumption)))) | exact Nat.ne_of_gt (And.left (And.right (And.right (And.right (by assumption))))) | exact Nat.ne_of_lt (And.left (And.right (And.right (And.right (by assumption))))) | exact Nat.ne_of_gt (And.left (And.right (And.right (And.right (And.right (by assumption)))))) | exact Nat.ne_of_lt (And.left (And.right (And.right (And.right (And.right (by assumption)))))) | exact Nat.ne_of_gt (And.left (And.right (And.right (And.right (And.right (And.right (by assumption))))))) | exact Nat.ne_of_lt (And.left (And.right (And.right (And.right (And.right (And.right (by assumption))))))))
  k_with "newTuple" => (k_here; k_dflt (refine' kup_newTuple ?F ?N ?_ ?z; (case F => k_asm); (case N => k_asm); (case z => kmk_size)); intro D9 h9 F9 N9 u9; (try k_sweep))
  k_with "newList" => (k_here; k_dflt (refine' newList_K ?k1 ?k2 ?_; (case k1 => k_asm); (case k2 => k_asm); k_whole); intro D9 h9 F9 N9 u9; (try k_sweep))
  k_with "execs cons" => (k_here; refine wpAny_execs_cons ?_; k_fold)
  k_with "eval Tuple" => (k_here; k_fold)
  k_with "eval List" => (k_here; k_fold)
  k_with "eval Call Attribute" => (k_here; k_fold)
  k_with "eval Call" => (k_here; k_fold)
  k_with "exec While BoolOp cons nil" => refine Halt.out ?_
  k_with "exec While Compare cons nil" => refine Halt.out ?_
  k_with "exec While Call cons nil" => refine Halt.out ?_
  k_with "eval Name" => (k_here; k_dflt (refine' ld ?k1 ?k2 ?_; (case k1 => k_asm); (case k2 => first | exact rfl | assumption); k_whole))
  k_with "call builtin:len" => (k_here; first | (refine len_is (by assumption) (by omega) ?_; intro _ _) | (refine PySem.P.len_str (by have h9 := (‹At _ _ _›).small; omega) ?_))
  k_with "subscriptTail" => (k_here; (with_reducible show wpAny _ _ (subscriptTail _ _ (Value.str _ _) (Value.int _ _)) _ _ _); k_dflt (refine' item_at ?k1 ?_ ?k2 ?k3; (case k1 => assumption); (case k2 => with_unfolding_all rfl); (case k3 => intro _; with_unfolding_all rfl)); intro _ _)
  k_with "binaryOp Add int int" => (k_here; refine addI ?_; intro _ _)
  k_with "binaryOp Sub int int" => (k_here; refine subI ?_; intro _ _)
  k_with "compareOp In str str" => (k_here; refine in_is (by assumption) ?_)
  k_with "compareOp NotIn str str" => (k_here; refine notin_is (by assumption) ?_)
  k_with "compareOp Eq str str" => (k_here; refine eqs_is (by assumption) ?_)
  k_with "compareOp NotEq str str" => (k_here; refine nes_is (by assumption) ?_)
  k_with "binaryOp FloorDiv int int" => (k_here; refine fdivI (by omega) (by omega) ?_; intro _ _)
  k_with "binaryOp Mod int int" => (k_here; refine fmodI (by omega) ?_; intro _ _)
  k_with "compareOp Eq int int" => (k_here; refine eqi_is (by assumption) ?_)
  k_with "compareOp In str ref" => (k_here; k_dflt (refine' in_two ?k1 ?k2 ?_; (case k1 => exact (News.get (by k_asm) (by k_mem))); (case k2 => assumption)))
  k_with "compareOp NotIn str ref" => (k_here; k_dflt (refine' notin_two ?k1 ?k2 ?_; (case k1 => exact (News.get (by k_asm) (by k_mem))); (case k2 => assumption)))
  k_with "subscriptTail Name Slice str ref" => (k_here; (with_reducible show wpAny _ _ (subscriptTail _ (Expr.Slice (some _) (some _) none _) _ _) _ _ _); (with_reducible rename Fr _ _ _ _ => F'); (with_reducible rename News _ _ _ _ => N'); (refine slice_strN_ss (hsz := ?hsz) (s := ⟨_, _, _, _, _⟩) F' N' ?_); (case hsz => (have h9 := (‹At _ _ _›).small; rw [PySem.sizeLine_eq]; omega)); intro _ _ _ _ _; (try k_sweep))
  k_with "subscriptTail Attribute Slice str ref" => (k_here; (with_reducible show wpAny _ _ (subscriptTail _ (Expr.Slice (some _) (some _) none _) _ _) _ _ _); (with_reducible rename Fr _ _ _ _ => F'); (with_reducible rename News _ _ _ _ => N'); (refine slice_strN_ss (hsz := ?hsz) (s := ⟨_, _, _, _, _⟩) F' N' ?_); (case hsz => (have h9 := (‹At _ _ _›).small; rw [PySem.sizeLine_eq]; omega)); intro _ _ _ _ _; (try k_sweep))
  k_with "call ref" => (k_here; (with_reducible show wpAny _ _ (call (Value.ref 206) _) _ _ _); k_dflt (refine' peek_c ?k1 ?k2 ?k3 ?k4 ?k5 ?kK ?kd ?ku ?x0 ?_; (case k1 => k_asm); (case k2 => k_asm); (case k3 => k_asm); (case k4 => first | k_asm | exact News.rot1 (by k_asm) | exact News.rot2 (by k_asm) | exact News.rot3 (by k_asm)); (case k5 => k_asm); (case kK => first | exact rfl | assumption); (case kd => (first | exact rm2 (by assumption) (by exact rfl) | exact rm1 (by assumption) (by exact rfl) | exact rm3 (by assumption) (by exact rfl) | exact rm0 (by assumption) | ktr_room)); (case ku => (first | exact rm2 (by assumption) (by exact rfl) | exact rm1 (by assumption) (by exact rfl) | exact rm3 (by assumption) (by exact rfl) | exact rm0 (by assumption) | ktr_units)); (case x0 => first | assumption | exact At.next (by assumption) | exact At.back (by assumption)); k_whole); intro t9 h9 tk9 F9 N9; (try k_sweep))
  k_with "call ref" => (k_here; (with_reducible show wpAny _ _ (call (Value.ref 206) _) _ _ _); k_dflt (refine' peek_n ?k1 ?k2 ?k3 ?k4 ?k5 ?kK ?kd ?ku ?x0 ?_; (case k1 => k_asm); (case k2 => k_asm); (case k3 => k_asm); (case k4 => first | k_asm | exact News.rot1 (by k_asm) | exact News.rot2 (by k_asm) | exact News.rot3 (by k_asm)); (case k5 => k_asm); (case kK => first | exact rfl | assumption); (case kd => (first | exact rm2 (by assumption) (by exact rfl) | exact rm1 (by assumption) (by exact rfl) | exact rm3 (by assumption) (by exact rfl) | exact rm0 (by assumption) | ktr_room)); (case ku => (first | exact rm2 (by assumption) (by exact rfl) | exact rm1 (by assumption) (by exact rfl) | exact rm3 (by assumption) (by exact rfl) | exact rm0 (by assumption) | ktr_units)); (case x0 => first | assumption | exact At.next (by assumption) | exact At.back (by assumption)); k_whole); intro t9 h9 tk9 F9 N9; (try k_sweep))
  k_with "call ref" => (k_here; (with_reducible show wpAny _ _ (call (Value.ref 220) _) _ _ _); k_dflt (refine' spaces_spec ?k1 ?k2 ?k3 ?k4 ?k5 ?kK ?kd ?ku ?x0 ?x1 ?x2 ?x3 ?_; (case k1 => k_asm); (case k2 => k_asm); (case k3 => k_asm); (case k4 => first | k_asm | exact News.rot1 (by k_asm) | exact News.rot2 (by k_asm) | exact News.rot3 (by k_asm)); (case k5 => k_asm); (case kK => first | exact rfl | assumption); (case kd => (first | exact rm2 (by assumption) (by exact rfl) | exact rm1 (by assumption) (by exact rfl) | exact rm3 (by assumption) (by exact rfl) | exact rm0 (by assumption) | ktr_room)); (case ku => (first | exact rm2 (by assumption) (by exact rfl) | exact rm1 (by assumption) (by exact rfl) | exact rm3 (by assumption) (by exact rfl) | exact rm0 (by assumption) | ktr_units)); (case x0 => first | assumption | k_ne); (case x1 => k_all); (case x2 => first | assumption | exact At.next (by assumption) | exact At.back (by assumption)); (case x3 => first | assumption | exact rfl); k_whole); intro p9 t9 h9 tk9 A9 F9 N9; (try k_sweep))
  k_with "call ref" => (k_here; (with_reducible show wpAny _ _ (call (Value.ref 213) _) _ _ _); k_dflt (refine' fault_spec ?k1 ?k2 ?k3 ?k4 ?k5 ?kK ?kd ?ku  ?_; (case k1 => k_asm); (case k2 => k_asm); (case k3 => k_asm); (case k4 => first | k_asm | exact News.rot1 (by k_asm) | exact News.rot2 (by k_asm) | exact News.rot3 (by k_asm)); (case k5 => k_asm); (case kK => first | exact rfl | assumption); (case kd => (first | exact rm2 (by assumption) (by exact rfl) | exact rm1 (by assumption) (by exact rfl) | exact rm3 (by assumption) (by exact rfl) | exact rm0 (by assumption) | ktr_room)); (case ku => (first | exact rm2 (by assumption) (by exact rfl) | exact rm1 (by assumption) (by exact rfl) | exact rm3 (by assumption) (by exact rfl) | exact rm0 (by assumption) | ktr_units)); k_whole); intro e9 h9 tk9 R9; (try k_sweep))
  k_with "leaving ref" => (k_here; (refine gone_on (by assumption) (by assumption) ?_); intro h9 G9; (try dsimp only))
  trivial
noncomputable def flagR (r : List Nat) : Option (Int × List Nat) := match r with
  | [] => none
  | c :: r1 => if c = 48 then some (0, r1) else if c = 49 then some (1, r1) else none
theorem zero_eq (c : Nat) : same1 c (Str.ofString "0") = decide (c = 48) := same1_is (by decide +kernel) c
theorem one_eq (c : Nat) : same1 c (Str.ofString "1") = decide (c = 49) := same1_is (by decide +kernel) c
theorem flag_ok {v : Int} {r1 : List Nat}
  (B : Below A₀ base outer h₀) (F : Fr h₀ L s.heap m) (X : (hd.heap_1 w.params).In h₀)
  (N : News h₀ L s.heap ((x, instObj 272 dx) :: (dx, scD h1 h2 k1 k2 t1 t2 T p) :: rest))
  (Tp : Top view theLoose mean mg mb h₀) (hk : cs.kind = .function)
  (hdp : dp + 8 < recursionLimit) (hun : un + 64 < cLine)
  (hxd : x ≠ dx) (hrest : ∀ q ∈ rest, q.1 ≠ dx) (hA : At T p r) (hr1 : flagR r = some (v, r1))
  (hret : ∀ (p' : Int) (t t2' : Tok) (h' : Heap) (tk' : Nat), At T p' r1 → Fr h₀ L h' m → News h₀ L h' ((x, instObj 272 dx) :: (dx, scD h1 h2 k1 k2 t1 t2' T p') :: rest) → Q (.int v t) { s with heap := h', toks := tk' }) :
  wpAny (model prog w) (ktrTop dp un gd cn cs L a ccd cl outer) (call (.ref 262) [.ref x]) Q E s := by
  refine wpAny_call ?_
  k_dflt (refine' code_def (binds := [(Str.ofString "self", .ref x)]) ?k1 ?k2 ?k3 ?k4 ?k5 ?kA ?kF ?kK ?k6 ?k7 ?k8 ?k9 ?kB ?_ ?c2 ?c3 ?c4 ?c5; (case kA => exact rfl); (case kF => exact rfl); (case kK => assumption); (case k1 => k_asm); (case k2 => k_asm); (case k3 => k_asm); (case k4 => k_asm); (case k5 => k_asm); (case k6 => k_is); (case k7 => k_is); (case k8 => (first | exact rm2 (by assumption) (by exact rfl) | exact rm1 (by assumption) (by exact rfl) | exact rm3 (by assumption) (by exact rfl) | exact rm0 (by assumption) | ktr_room)); (case k9 => first | exact BindsTo.of_eq rfl | exact binds_K (by k_in) rfl (by k_is) rfl rfl rfl); (case c5 => decide); (case kB => exact locs rfl); (case c2 => exact rfl); (case c3 => exact rfl); (case c4 => exact rfl); k_whole; intro g L' h' FG F1 N1 B1 X1 T1; (try k_fold))
  replace F1 := fr_of1 F1
  cases r with
  | nil => cases hr1
  | cons c r3 =>
    have e1 := zero_eq c
    have e2 := one_eq c
    simp only [flagR] at hr1
    by_cases h48 : c = 48
    · rw [if_pos h48] at hr1
      cases hr1
      simp only [h48, decide_true] at e1 e2
      subst h48
      k_steps
      ((with_reducible rename News _ _ _ _ => N9); first | exact hret _ _ _ _ _ (by first | assumption | exact At.next (by assumption) | exact At.next (At.next (by assumption)) | exact At.back (by assumption)) (by assumption) N9 | exact hret _ _ _ _ _ (by first | assumption | exact At.next (by assumption) | exact At.next (At.next (by assumption)) | exact At.back (by assumption)) (by assumption) (News.tl N9) | exact hret _ _ _ _ _ (by first | assumption | exact At.next (by assumption) | exact At.next (At.next (by assumption)) | exact At.back (by assumption)) (by assumption) (News.pick1 N9) | exact hret _ _ _ _ _ (by first | assumption | exact At.next (by assumption) | exact At.next (At.next (by assumption)) | exact At.back (by assumption)) (by assumption) (News.pick2 N9) | exact hret _ _ _ _ _ (by first | assumption | exact At.next (by assumption) | exact At.next (At.next (by assumption)) | exact At.back (by assumption)) (by assumption) (News.pick3 N9))
    · rw [if_neg h48] at hr1
      by_cases h49 : c = 49
      · rw [if_pos h49] at hr1
        cases hr1
        subst h49
        k_steps
        ((with_reducible rename News _ _ _ _ => N9); first | exact hret _ _ _ _ _ (by first | assumption | exact At.next (by assumption) | exact At.next (At.next (by assumption)) | exact At.back (by assumption)) (by assumption) N9 | exact hret _ _ _ _ _ (by first | assumption | exact At.next (by assumption) | exact At.next (At.next (by assumption)) | exact At.back (by assumption)) (by assumption) (News.tl N9) | exact hret _ _ _ _ _ (by first | assumption | exact At.next (by assumption) | exact At.next (At.next (by assumption)) | exact At.back (by assumption)) (by assumption) (News.pick1 N9) | exact hret _ _ _ _ _ (by first | assumption | exact At.next (by assumption) | exact At.next (At.next (by assumption)) | exact At.back (by assumption)) (by assumption) (News.pick2 N9) | exact hret _ _ _ _ _ (by first | assumption | exact At.next (by assumption) | exact At.next (At.next (by assumption)) | exact At.back (by assumption)) (by assumption) (News.pick3 N9))
      · rw [if_neg h49] at hr1
        cases hr1
theorem flag_bad
  (B : Below A₀ base outer h₀) (F : Fr h₀ L s.heap m) (X : (hd.heap_1 w.params).In h₀)
  (N : News h₀ L s.heap ((x, instObj 272 dx) :: (dx, scD h1 h2 k1 k2 t1 t2 T p) :: rest))
  (Tp : Top view theLoose mean mg mb h₀) (hk : cs.kind = .function)
  (hdp : dp + 8 < recursionLimit) (hun : un + 64 < cLine)
  (hA : At T p r) (hr1 : flagR r = none)
  (hE : ∀ (e : Addr) (h' : Heap) (tk' : Nat), Thrown base h₀ L m (envX cn cs L a ccd cl :: outer) e p ((x, instObj 272 dx) :: (dx, scD h1 h2 k1 k2 t1 t2 T p) :: rest) h' → E (.ref e) { s with heap := h', toks := tk' }) :
  wpAny (model prog w) (ktrTop dp un gd cn cs L a ccd cl outer) (call (.ref 262) [.ref x]) Q E s := by
  have e3 : same0 (Str.ofString "0") = false := by decide +kernel
  have e4 : same0 (Str.ofString "1") = false := by decide +kernel
  refine wpAny_call ?_
  k_dflt (refine' code_def (binds := [(Str.ofString "self", .ref x)]) ?k1 ?k2 ?k3 ?k4 ?k5 ?kA ?kF ?kK ?k6 ?k7 ?k8 ?k9 ?kB ?_ ?c2 ?c3 ?c4 ?c5; (case kA => exact rfl); (case kF => exact rfl); (case kK => assumption); (case k1 => k_asm); (case k2 => k_asm); (case k3 => k_asm); (case k4 => k_asm); (case k5 => k_asm); (case k6 => k_is); (case k7 => k_is); (case k8 => (first | exact rm2 (by assumption) (by exact rfl) | exact rm1 (by assumption) (by exact rfl) | exact rm3 (by assumption) (by exact rfl) | exact rm0 (by assumption) | ktr_room)); (case k9 => first | exact BindsTo.of_eq rfl | exact binds_K (by k_in) rfl (by k_is) rfl rfl rfl); (case c5 => decide); (case kB => exact locs rfl); (case c2 => exact rfl); (case c3 => exact rfl); (case c4 => exact rfl); k_whole; intro g L' h' FG F1 N1 B1 X1 T1; (try k_fold))
  replace F1 := fr_of1 F1
  cases r with
  | nil =>
    k_steps
    exact hE _ _ _ ⟨_, FG, (by first | assumption | exact Gone.mono (by assumption) (fun q hq => .tail _ hq))⟩
  | cons c r3 =>
    have e1 := zero_eq c
    have e2 := one_eq c
    simp only [flagR] at hr1
    by_cases h48 : c = 48
    · rw [if_pos h48] at hr1
      cases hr1
    · rw [if_neg h48] at hr1
      by_cases h49 : c = 49
      · rw [if_pos h49] at hr1
        cases hr1
      · rw [decide_eq_false h48] at e1
        rw [decide_eq_false h49] at e2
        k_steps
        exact hE _ _ _ ⟨_, FG, (by first | assumption | exact Gone.mono (by assumption) (fun q hq => .tail _ hq))⟩
end
theorem off_number : True := by
  w_top off
  k_with_none
  trivial
section
theorem kw_number_1 : True := by
  k_with "ne" => (refine neN ?_; (try dsimp only); first | assumption | exact Ne.symm (by assumption) | exact Nat.ne_of_gt (by assumption) | exact Nat.ne_of_lt (by assumption) | exact lt_1 (by assumption) (by k_mem) | exact lt_2 (by assumption) (by k_mem) | exact Nat.ne_of_gt (And.left (by assumption)) | exact Nat.ne_of_lt (And.left (by assumption)) | exact Nat.ne_of_gt (And.left (And.right (by assumption))) | exact Nat.ne_of_lt (And.left (And.right (by assumption))) | exact Nat.ne_of_gt (And.left (And.right (And.right (by assumption)))) | exact Nat.ne_of_lt (And.left (And.right (And.right (by assumption)))) | exact Nat.ne_of_gt (And.left (And.right (And.right (And.right (by assumption))))) | exact Nat.ne_of_lt (And.left (And.right (And.right (And.right (by assumption))))) | exact Nat.ne_of_gt (And.left (And.right (And.right (And.right (And.right (by assumption)))))) | exact Nat.ne_of_lt (And.left (And.right (And.right (And.right (And.right (by assumption)))))) | exact Nat.ne_of_gt (And.left (And.right (And.right (And.right (And.right (And.right (by assumption))))))) | exact Nat.ne_of_lt (And.left (And.right (And.right (And.right (And.right (And.right (by assumption))))))))
  k_with "newTuple" => (k_here; k_dflt (refine' kup_newTuple ?F ?N ?_ ?z; (case F => k_asm); (case N => k_asm); (case z => kmk_size)); intro D9 h9 F9 N9 u9; (try k_sweep))
  k_with "newList" => (k_here; k_dflt (refine' newList_K ?k1 ?k2 ?_; (case k1 => k_asm); (case k2 => k_asm); k_whole); intro D9 h9 F9 N9 u9; (try k_sweep))
  k_with "execs cons" => (k_here; refine wpAny_execs_cons ?_; k_fold)
  k_with "eval Tuple" => (k_here; k_fold)
  k_with "eval List" => (k_here; k_fold)
  k_with "eval Call Attribute" => (k_here; k_fold)
  k_with "eval Call" => (k_here; k_fold)
  k_with "exec While BoolOp cons nil" => refine Halt.out ?_
  k_with "exec While Compare cons nil" => refine Halt.out ?_
  k_with "exec While Call cons nil" => refine Halt.out ?_
  k_with "eval Name" => (k_here; k_dflt (refine' ld ?k1 ?k2 ?_; (case k1 => k_asm); (case k2 => first | exact rfl | assumption); k_whole))
  k_with "call builtin:len" => (k_here; first | (refine len_is (by assumption) (by omega) ?_; intro _ _) | (refine PySem.P.len_str (by have h9 := (‹At _ _ _›).small; omega) ?_))
  k_with "subscriptTail" => (k_here; (with_reducible show wpAny _ _ (subscriptTail _ _ (Value.str _ _) (Value.int _ _)) _ _ _); k_dflt (refine' item_at ?k1 ?_ ?k2 ?k3; (case k1 => assumption); (case k2 => with_unfolding_all rfl); (case k3 => intro _; with_unfolding_all rfl)); intro _ _)
  k_with "binaryOp Add int int" => (k_here; refine addI ?_; intro _ _)
  k_with "binaryOp Sub int int" => (k_here; refine subI ?_; intro _ _)
  k_with "compareOp In str str" => (k_here; refine in_is (by assumption) ?_)
  k_with "compareOp NotIn str str" => (k_here; refine notin_is (by assumption) ?_)
  k_with "compareOp Eq str str" => (k_here; refine eqs_is (by assumption) ?_)
  k_with "compareOp NotEq str str" => (k_here; refine nes_is (by assumption) ?_)
  k_with "binaryOp FloorDiv int int" => (k_here; refine fdivI (by omega) (by omega) ?_; intro _ _)
  k_with "binaryOp Mod int int" => (k_here; refine fmodI (by omega) ?_; intro _ _)
  k_with "compareOp Eq int int" => (k_here; refine eqi_is (by assumption) ?_)
  k_with "compareOp In str ref" => (k_here; k_dflt (refine' in_two ?k1 ?k2 ?_; (case k1 => exact (News.get (by k_asm) (by k_mem))); (case k2 => assumption)))
  k_with "compareOp NotIn str ref" => (k_here; k_dflt (refine' notin_two ?k1 ?k2 ?_; (case k1 => exact (News.get (by k_asm) (by k_mem))); (case k2 => assumption)))
  k_with "subscriptTail Name Slice str ref" => (k_here; (with_reducible show wpAny _ _ (subscriptTail _ (Expr.Slice (some _) (some _) none _) _ _) _ _ _); (with_reducible rename Fr _ _ _ _ => F'); (with_reducible rename News _ _ _ _ => N'); (refine slice_strN_ss (hsz := ?hsz) (s := ⟨_, _, _, _, _⟩) F' N' ?_); (case hsz => (have h9 := (‹At _ _ _›).small; rw [PySem.sizeLine_eq]; omega)); intro _ _ _ _ _; (try k_sweep))
  k_with "subscriptTail Attribute Slice str ref" => (k_here; (with_reducible show wpAny _ _ (subscriptTail _ (Expr.Slice (some _) (some _) none _) _ _) _ _ _); (with_reducible rename Fr _ _ _ _ => F'); (with_reducible rename News _ _ _ _ => N'); (refine slice_strN_ss (hsz := ?hsz) (s := ⟨_, _, _, _, _⟩) F' N' ?_); (case hsz => (have h9 := (‹At _ _ _›).small; rw [PySem.sizeLine_eq]; omega)); intro _ _ _ _ _; (try k_sweep))
  k_with "call ref" => (k_here; (with_reducible show wpAny _ _ (call (Value.ref 206) _) _ _ _); k_dflt (refine' peek_spec ?k1 ?k2 ?k3 ?k4 ?k5 ?kK ?kd ?ku ?x0 ?_; (case k1 => k_asm); (case k2 => k_asm); (case k3 => k_asm); (case k4 => first | k_asm | exact News.rot1 (by k_asm) | exact News.rot2 (by k_asm) | exact News.rot3 (by k_asm)); (case k5 => k_asm); (case kK => first | exact rfl | assumption); (case kd => (first | exact rm2 (by assumption) (by exact rfl) | exact rm1 (by assumption) (by exact rfl) | exact rm3 (by assumption) (by exact rfl) | exact rm0 (by assumption) | ktr_room)); (case ku => (first | exact rm2 (by assumption) (by exact rfl) | exact rm1 (by assumption) (by exact rfl) | exact rm3 (by assumption) (by exact rfl) | exact rm0 (by assumption) | ktr_units)); (case x0 => first | assumption | exact At.next (by assumption) | exact At.back (by assumption) | exact At.next (At.next (by assumption))); k_whole); intro t9 h9 tk9 F9 N9; (try k_sweep))
  k_with "call ref" => (k_here; (with_reducible show wpAny _ _ (call (Value.ref 220) _) _ _ _); k_dflt (refine' spaces_spec ?k1 ?k2 ?k3 ?k4 ?k5 ?kK ?kd ?ku ?x0 ?x1 ?x2 ?x3 ?_; (case k1 => k_asm); (case k2 => k_asm); (case k3 => k_asm); (case k4 => first | k_asm | exact News.rot1 (by k_asm) | exact News.rot2 (by k_asm) | exact News.rot3 (by k_asm)); (case k5 => k_asm); (case kK => first | exact rfl | assumption); (case kd => (first | exact rm2 (by assumption) (by exact rfl) | exact rm1 (by assumption) (by exact rfl) | exact rm3 (by assumption) (by exact rfl) | exact rm0 (by assumption) | ktr_room)); (case ku => (first | exact rm2 (by assumption) (by exact rfl) | exact rm1 (by assumption) (by exact rfl) | exact rm3 (by assumption) (by exact rfl) | exact rm0 (by assumption) | ktr_units)); (case x0 => first | assumption | k_ne); (case x1 => k_all); (case x2 => first | assumption | exact At.next (by assumption) | exact At.back (by assumption)); (case x3 => first | assumption | exact rfl); k_whole); intro p9 t9 h9 tk9 A9 F9 N9; (try k_sweep))
  k_with "call ref" => (k_here; (with_reducible show wpAny _ _ (call (Value.ref 241) _) _ _ _); k_dflt (refine' digits_spec ?k1 ?k2 ?k3 ?k4 ?k5 ?kK ?kd ?ku ?x0 ?x1 ?x2 ?x3 ?x4 ?_; (case k1 => k_asm); (case k2 => k_asm); (case k3 => k_asm); (case k4 => first | k_asm | exact News.rot1 (by k_asm) | exact News.rot2 (by k_asm) | exact News.rot3 (by k_asm)); (case k5 => k_asm); (case kK => first | exact rfl | assumption); (case kd => (first | exact rm2 (by assumption) (by exact rfl) | exact rm1 (by assumption) (by exact rfl) | exact rm3 (by assumption) (by exact rfl) | exact rm0 (by assumption) | ktr_room)); (case ku => (first | exact rm2 (by assumption) (by exact rfl) | exact rm1 (by assumption) (by exact rfl) | exact rm3 (by assumption) (by exact rfl) | exact rm0 (by assumption) | ktr_units)); (case x0 => first | assumption | k_ne); (case x1 => k_all); (case x2 => first | assumption | exact At.next (by assumption) | exact At.back (by assumption) | exact At.next (At.next (by assumption))); (case x3 => first | assumption | exact rfl); (case x4 => assumption); k_whole); intro p9 t9 t8 h9 tk9 A9 F9 N9; (try k_sweep))
  k_with "exec If" => (k_here; (with_reducible rename Stop 1 => stop9); clear stop9; refine Halt.out ?_)
  k_with "call ref" => (k_here; (with_reducible show wpAny _ _ (call (Value.ref 213) _) _ _ _); k_dflt (refine' fault_spec ?k1 ?k2 ?k3 ?k4 ?k5 ?kK ?kd ?ku  ?_; (case k1 => k_asm); (case k2 => k_asm); (case k3 => k_asm); (case k4 => first | k_asm | exact News.rot1 (by k_asm) | exact News.rot2 (by k_asm) | exact News.rot3 (by k_asm)); (case k5 => k_asm); (case kK => first | exact rfl | assumption); (case kd => (first | exact rm2 (by assumption) (by exact rfl) | exact rm1 (by assumption) (by exact rfl) | exact rm3 (by assumption) (by exact rfl) | exact rm0 (by assumption) | ktr_room)); (case ku => (first | exact rm2 (by assumption) (by exact rfl) | exact rm1 (by assumption) (by exact rfl) | exact rm3 (by assumption) (by exact rfl) | exact rm0 (by assumption) | ktr_units)); k_whole); intro e9 h9 tk9 R9; (try k_sweep))
  k_with "leaving ref" => (k_here; (refine gone_on (by assumption) (by assumption) ?_); intro h9 G9; (try dsimp only))
  k_with "call ref" => (k_here; (with_reducible show wpAny _ _ (call (Value.ref 248) _) _ _ _); k_dflt (refine' exponent_spec ?k1 ?k2 ?k3 ?k4 ?k5 ?kK ?kd ?ku ?x0 ?x1 ?x2 ?x3 ?_; (case k1 => k_asm); (case k2 => k_asm); (case k3 => k_asm); (case k4 => first | k_asm | exact News.rot1 (by k_asm) | exact News.rot2 (by k_asm) | exact News.rot3 (by k_asm)); (case k5 => k_asm); (case kK => first | exact rfl | assumption); (case kd => (first | exact rm2 (by assumption) (by exact rfl) | exact rm1 (by assumption) (by exact rfl) | exact rm3 (by assumption) (by exact rfl) | exact rm0 (by assumption) | ktr_room)); (case ku => (first | exact rm2 (by assumption) (by exact rfl) | exact rm1 (by assumption) (by exact rfl) | exact rm3 (by assumption) (by exact rfl) | exact rm0 (by assumption) | ktr_units)); (case x0 => first | assumption | k_ne); (case x1 => k_all); (case x2 => first | assumption | exact At.next (by assumption) | exact At.back (by assumption) | exact At.next (At.next (by assumption))); (case x3 => assumption); k_whole); intro p9 t9 h9 tk9 A9 F9 N9; (try k_sweep))
  k_with "call ref" => (k_here; (with_reducible show wpAny _ _ (call (Value.ref 178) _) _ _ _); refine Halt.out ?_)
  trivial
theorem At.sub {T : Str} {z : Int} {r : List Nat} (h : At T z r) (k : Nat) : At ⟨(r.take k).toArray⟩ 0 (r.take k) := by
  have h1 := h.len
  have h0 := h.nn
  have hs := h.small
  refine ⟨Int.le_refl _, by simp, by simp [Str.length], ?_, fun c hc => h.mem (List.mem_of_mem_take (i := k) (by simpa using hc))⟩
  simp only [Str.length, List.size_toArray, List.length_take]
  omega
noncomputable abbrev peekS (r : List Nat) : Str := ⟨(r.take 1).toArray⟩
theorem number_bad {r1 r2 r3 : List Nat} {n nn : Int} {b1 b2 : Bool}
  (B : Below A₀ base outer h₀) (F : Fr h₀ L s.heap m) (X : (hd.heap_1 w.params).In h₀)
  (N : News h₀ L s.heap ((x, instObj 272 dx) :: (dx, scD h1 h2 k1 k2 t1 t2 T p) :: rest))
  (Tp : Top view theLoose mean mg mb h₀) (hk : cs.kind = .function)
  (hdp : dp + 16 < recursionLimit) (hun : un + 128 < cLine)
  (hxd : x ≠ dx) (hrest : ∀ q ∈ rest, q.1 ≠ dx) (hA : At T p r)
  (a1 : ((Str.ofString "+" == peekS r) || (Str.ofString "-" == peekS r)) = b1) (a2 : (b1 = false ∧ r1 = r) ∨ (b1 = true ∧ ∃ c, r = c :: r1))
  (a3 : r1.dropWhile isDig = r2) (a4 : (r1.length : Int) - r2.length = n) (a5 : ((peekS r2).cps.toList == (Str.ofString ".").cps.toList) = b2)
  (a6 : (b2 = false ∧ r3 = r2 ∧ nn = n) ∨ (b2 = true ∧ ∃ c rr2 n3, r2 = c :: rr2 ∧ rr2.dropWhile isDig = r3 ∧ (rr2.length : Int) - r3.length = n3 ∧ n + n3 = nn)) (a7 : decide (nn = 0) = true)
  (hE : ∀ (e : Addr) (t2' : Tok) (h' : Heap) (tk' : Nat), Thrown base h₀ L m (envX cn cs L a ccd cl :: outer) e p ((x, instObj 272 dx) :: (dx, scD h1 h2 k1 k2 t1 t2' T p) :: rest) h' → E (.ref e) { s with heap := h', toks := tk' }) :
  wpAny (model prog w) (ktrTop dp un gd cn cs L a ccd cl outer) (call (.ref 255) [.ref x]) Q E s := by
  refine wpAny_call ?_
  k_dflt (refine' code_def (binds := [(Str.ofString "self", .ref x)]) ?k1 ?k2 ?k3 ?k4 ?k5 ?kA ?kF ?kK ?k6 ?k7 ?k8 ?k9 ?kB ?_ ?c2 ?c3 ?c4 ?c5; (case kA => exact rfl); (case kF => exact rfl); (case kK => assumption); (case k1 => k_asm); (case k2 => k_asm); (case k3 => k_asm); (case k4 => k_asm); (case k5 => k_asm); (case k6 => k_is); (case k7 => k_is); (case k8 => (first | exact rm2 (by assumption) (by exact rfl) | exact rm1 (by assumption) (by exact rfl) | exact rm3 (by assumption) (by exact rfl) | exact rm0 (by assumption) | ktr_room)); (case k9 => first | exact BindsTo.of_eq rfl | exact binds_K (by k_in) rfl (by k_is) rfl rfl rfl); (case c5 => decide); (case kB => exact locs rfl); (case c2 => exact rfl); (case c3 => exact rfl); (case c4 => exact rfl); k_whole; intro g L' h' FG F1 N1 B1 X1 T1; (try k_fold))
  replace F1 := fr_of1 F1
  have st1 : Stop 1 := trivial
  k_steps
  refine Halt.mk ?_
  (with_reducible rename Fr g _ _ _ => F4)
  refine cutX (fun m' n' => ∃ p' t2', n' = ((x, instObj 272 dx) :: (dx, scD h1 h2 k1 k2 t1 t2' T p') :: rest) ∧ At T p' r1 ∧ ∃ tb, m' (Str.ofString "self") = some (.ref x) ∧ m' (Str.ofString "begin") = some (.int p tb)) F4 ?_ ?_
  · rcases a2 with ⟨rfl, rfl⟩ | ⟨rfl, c, rfl⟩
    · k_steps
      ((with_reducible rename News _ _ _ _ => N9); first | exact ⟨rfl, _, _, _, _, rfl, (by assumption), N9, _, _, rfl, (by first | assumption | exact At.next (by assumption) | exact At.next (At.next (by assumption)) | exact At.back (by assumption)), _, rfl, rfl⟩ | exact ⟨rfl, _, _, _, _, rfl, (by assumption), (News.tl N9), _, _, rfl, (by first | assumption | exact At.next (by assumption) | exact At.next (At.next (by assumption)) | exact At.back (by assumption)), _, rfl, rfl⟩ | exact ⟨rfl, _, _, _, _, rfl, (by assumption), (News.pick1 N9), _, _, rfl, (by first | assumption | exact At.next (by assumption) | exact At.next (At.next (by assumption)) | exact At.back (by assumption)), _, rfl, rfl⟩ | exact ⟨rfl, _, _, _, _, rfl, (by assumption), (News.pick2 N9), _, _, rfl, (by first | assumption | exact At.next (by assumption) | exact At.next (At.next (by assumption)) | exact At.back (by assumption)), _, rfl, rfl⟩ | exact ⟨rfl, _, _, _, _, rfl, (by assumption), (News.pick3 N9), _, _, rfl, (by first | assumption | exact At.next (by assumption) | exact At.next (At.next (by assumption)) | exact At.back (by assumption)), _, rfl, rfl⟩)
    · k_steps
      ((with_reducible rename News _ _ _ _ => N9); first | exact ⟨rfl, _, _, _, _, rfl, (by assumption), N9, _, _, rfl, (by first | assumption | exact At.next (by assumption) | exact At.next (At.next (by assumption)) | exact At.back (by assumption)), _, rfl, rfl⟩ | exact ⟨rfl, _, _, _, _, rfl, (by assumption), (News.tl N9), _, _, rfl, (by first | assumption | exact At.next (by assumption) | exact At.next (At.next (by assumption)) | exact At.back (by assumption)), _, rfl, rfl⟩ | exact ⟨rfl, _, _, _, _, rfl, (by assumption), (News.pick1 N9), _, _, rfl, (by first | assumption | exact At.next (by assumption) | exact At.next (At.next (by assumption)) | exact At.back (by assumption)), _, rfl, rfl⟩ | exact ⟨rfl, _, _, _, _, rfl, (by assumption), (News.pick2 N9), _, _, rfl, (by first | assumption | exact At.next (by assumption) | exact At.next (At.next (by assumption)) | exact At.back (by assumption)), _, rfl, rfl⟩ | exact ⟨rfl, _, _, _, _, rfl, (by assumption), (News.pick3 N9), _, _, rfl, (by first | assumption | exact At.next (by assumption) | exact At.next (At.next (by assumption)) | exact At.back (by assumption)), _, rfl, rfl⟩)
  rintro m5 n5 h5 tk5 F5 N5 ⟨p5, t5, rfl, A5, tb, m51, m52⟩
  clear F4
  have st1 : Stop 1 := trivial
  k_steps
  refine Halt.mk ?_
  (with_reducible rename Fr g _ _ _ => F6)
  refine cutX (fun m' n' => ∃ p' t2', n' = ((x, instObj 272 dx) :: (dx, scD h1 h2 k1 k2 t1 t2' T p') :: rest) ∧ At T p' r3 ∧ ∃ tb tn, m' (Str.ofString "self") = some (.ref x) ∧ m' (Str.ofString "begin") = some (.int p tb) ∧ m' (Str.ofString "many") = some (.int nn tn)) F6 ?_ ?_
  · rcases a6 with ⟨rfl, rfl, rfl⟩ | ⟨rfl, c, rr2, n3, rfl, c1, c2, c3⟩
    · k_steps
      ((with_reducible rename News _ _ _ _ => N9); first | exact ⟨rfl, _, _, _, _, rfl, (by assumption), N9, _, _, rfl, (by first | assumption | exact At.next (by assumption) | exact At.next (At.next (by assumption)) | exact At.back (by assumption)), _, _, (by first | exact rfl | assumption), (by first | exact rfl | assumption), (by first | exact rfl | assumption)⟩ | exact ⟨rfl, _, _, _, _, rfl, (by assumption), (News.tl N9), _, _, rfl, (by first | assumption | exact At.next (by assumption) | exact At.next (At.next (by assumption)) | exact At.back (by assumption)), _, _, (by first | exact rfl | assumption), (by first | exact rfl | assumption), (by first | exact rfl | assumption)⟩ | exact ⟨rfl, _, _, _, _, rfl, (by assumption), (News.pick1 N9), _, _, rfl, (by first | assumption | exact At.next (by assumption) | exact At.next (At.next (by assumption)) | exact At.back (by assumption)), _, _, (by first | exact rfl | assumption), (by first | exact rfl | assumption), (by first | exact rfl | assumption)⟩ | exact ⟨rfl, _, _, _, _, rfl, (by assumption), (News.pick2 N9), _, _, rfl, (by first | assumption | exact At.next (by assumption) | exact At.next (At.next (by assumption)) | exact At.back (by assumption)), _, _, (by first | exact rfl | assumption), (by first | exact rfl | assumption), (by first | exact rfl | assumption)⟩ | exact ⟨rfl, _, _, _, _, rfl, (by assumption), (News.pick3 N9), _, _, rfl, (by first | assumption | exact At.next (by assumption) | exact At.next (At.next (by assumption)) | exact At.back (by assumption)), _, _, (by first | exact rfl | assumption), (by first | exact rfl | assumption), (by first | exact rfl | assumption)⟩)
    · subst c3
      k_steps
      ((with_reducible rename News _ _ _ _ => N9); first | exact ⟨rfl, _, _, _, _, rfl, (by assumption), N9, _, _, rfl, (by first | assumption | exact At.next (by assumption) | exact At.next (At.next (by assumption)) | exact At.back (by assumption)), _, _, (by first | exact rfl | assumption), (by first | exact rfl | assumption), (by first | exact rfl | assumption)⟩ | exact ⟨rfl, _, _, _, _, rfl, (by assumption), (News.tl N9), _, _, rfl, (by first | assumption | exact At.next (by assumption) | exact At.next (At.next (by assumption)) | exact At.back (by assumption)), _, _, (by first | exact rfl | assumption), (by first | exact rfl | assumption), (by first | exact rfl | assumption)⟩ | exact ⟨rfl, _, _, _, _, rfl, (by assumption), (News.pick1 N9), _, _, rfl, (by first | assumption | exact At.next (by assumption) | exact At.next (At.next (by assumption)) | exact At.back (by assumption)), _, _, (by first | exact rfl | assumption), (by first | exact rfl | assumption), (by first | exact rfl | assumption)⟩ | exact ⟨rfl, _, _, _, _, rfl, (by assumption), (News.pick2 N9), _, _, rfl, (by first | assumption | exact At.next (by assumption) | exact At.next (At.next (by assumption)) | exact At.back (by assumption)), _, _, (by first | exact rfl | assumption), (by first | exact rfl | assumption), (by first | exact rfl | assumption)⟩ | exact ⟨rfl, _, _, _, _, rfl, (by assumption), (News.pick3 N9), _, _, rfl, (by first | assumption | exact At.next (by assumption) | exact At.next (At.next (by assumption)) | exact At.back (by assumption)), _, _, (by first | exact rfl | assumption), (by first | exact rfl | assumption), (by first | exact rfl | assumption)⟩)
  rintro m6 n6 h6 tk6 F7 N7 ⟨p6, t6, rfl, A6, tb6, tn6, m61, m62, m63⟩
  clear F6
  k_steps
  exact hE _ _ _ _ ⟨_, FG, (by first | assumption | exact Gone.mono (by assumption) (fun q hq => .tail _ hq))⟩
def stops (rr : List Nat) : Prop := ∀ c ∈ rr.head?, isDig c = false ∧ c ≠ 46 ∧ c ≠ 101 ∧ c ≠ 69
theorem number_ok {w0 r1 r2 r3 rr : List Nat} {n nn va vb : Int} {b1 b2 : Bool}
  (B : Below A₀ base outer h₀) (F : Fr h₀ L s.heap m) (X : (hd.heap_1 w.params).In h₀)
  (N : News h₀ L s.heap ((x, instObj 272 dx) :: (dx, scD h1 h2 k1 k2 t1 t2 T p) :: rest))
  (Tp : Top view theLoose mean mg mb h₀) (hk : cs.kind = .function)
  (hdp : dp + 32 < recursionLimit) (hun : un + 256 < cLine)
  (hxd : x ≠ dx) (hrest : ∀ q ∈ rest, q.1 ≠ dx) (hA : At T p r)
  (a1 : ((Str.ofString "+" == peekS r) || (Str.ofString "-" == peekS r)) = b1) (a2 : (b1 = false ∧ r1 = r) ∨ (b1 = true ∧ ∃ c, r = c :: r1))
  (a3 : r1.dropWhile isDig = r2) (a4 : (r1.length : Int) - r2.length = n) (a5 : ((peekS r2).cps.toList == (Str.ofString ".").cps.toList) = b2)
  (a6 : (b2 = false ∧ r3 = r2 ∧ nn = n) ∨ (b2 = true ∧ ∃ c rr2 n3, r2 = c :: rr2 ∧ rr2.dropWhile isDig = r3 ∧ (rr2.length : Int) - r3.length = n3 ∧ n + n3 = nn)) (a7 : decide (nn = 0) = false) (a8 : expOf r3 = rr) (a9 : r.take (r.length - rr.length) = w0) (b3 : rr.length ≤ r.length) (hf : DecF w0 va vb)
  (hret : ∀ (d : Addr) (ta tb : Tok) (p' : Int) (t2' : Tok) (h' : Heap) (tk' : Nat), At T p' rr → Fr h₀ L h' m → News h₀ L h' ((d, tupO [.int va ta, .int vb tb]) :: ((x, instObj 272 dx) :: (dx, scD h1 h2 k1 k2 t1 t2' T p') :: rest)) → (∀ q ∈ ((x, instObj 272 dx) :: (dx, scD h1 h2 k1 k2 t1 t2' T p') :: rest), q.1 < d) → Q (.ref d) { s with heap := h', toks := tk' }) :
  wpAny (model prog w) (ktrTop dp un gd cn cs L a ccd cl outer) (call (.ref 255) [.ref x]) Q E s := by
  refine wpAny_call ?_
  k_dflt (refine' code_def (binds := [(Str.ofString "self", .ref x)]) ?k1 ?k2 ?k3 ?k4 ?k5 ?kA ?kF ?kK ?k6 ?k7 ?k8 ?k9 ?kB ?_ ?c2 ?c3 ?c4 ?c5; (case kA => exact rfl); (case kF => exact rfl); (case kK => assumption); (case k1 => k_asm); (case k2 => k_asm); (case k3 => k_asm); (case k4 => k_asm); (case k5 => k_asm); (case k6 => k_is); (case k7 => k_is); (case k8 => (first | exact rm2 (by assumption) (by exact rfl) | exact rm1 (by assumption) (by exact rfl) | exact rm3 (by assumption) (by exact rfl) | exact rm0 (by assumption) | ktr_room)); (case k9 => first | exact BindsTo.of_eq rfl | exact binds_K (by k_in) rfl (by k_is) rfl rfl rfl); (case c5 => decide); (case kB => exact locs rfl); (case c2 => exact rfl); (case c3 => exact rfl); (case c4 => exact rfl); k_whole; intro g L' h' FG F1 N1 B1 X1 T1; (try k_fold))
  replace F1 := fr_of1 F1
  have st1 : Stop 1 := trivial
  k_steps
  refine Halt.mk ?_
  (with_reducible rename Fr g _ _ _ => F4)
  refine cutX (fun m' n' => ∃ p' t2', n' = ((x, instObj 272 dx) :: (dx, scD h1 h2 k1 k2 t1 t2' T p') :: rest) ∧ At T p' r1 ∧ ∃ tb, m' (Str.ofString "self") = some (.ref x) ∧ m' (Str.ofString "begin") = some (.int p tb)) F4 ?_ ?_
  · rcases a2 with ⟨rfl, rfl⟩ | ⟨rfl, c, rfl⟩
    · k_steps
      ((with_reducible rename News _ _ _ _ => N9); first | exact ⟨rfl, _, _, _, _, rfl, (by assumption), N9, _, _, rfl, (by first | assumption | exact At.next (by assumption) | exact At.next (At.next (by assumption)) | exact At.back (by assumption)), _, rfl, rfl⟩ | exact ⟨rfl, _, _, _, _, rfl, (by assumption), (News.tl N9), _, _, rfl, (by first | assumption | exact At.next (by assumption) | exact At.next (At.next (by assumption)) | exact At.back (by assumption)), _, rfl, rfl⟩ | exact ⟨rfl, _, _, _, _, rfl, (by assumption), (News.pick1 N9), _, _, rfl, (by first | assumption | exact At.next (by assumption) | exact At.next (At.next (by assumption)) | exact At.back (by assumption)), _, rfl, rfl⟩ | exact ⟨rfl, _, _, _, _, rfl, (by assumption), (News.pick2 N9), _, _, rfl, (by first | assumption | exact At.next (by assumption) | exact At.next (At.next (by assumption)) | exact At.back (by assumption)), _, rfl, rfl⟩ | exact ⟨rfl, _, _, _, _, rfl, (by assumption), (News.pick3 N9), _, _, rfl, (by first | assumption | exact At.next (by assumption) | exact At.next (At.next (by assumption)) | exact At.back (by assumption)), _, rfl, rfl⟩)
    · k_steps
      ((with_reducible rename News _ _ _ _ => N9); first | exact ⟨rfl, _, _, _, _, rfl, (by assumption), N9, _, _, rfl, (by first | assumption | exact At.next (by assumption) | exact At.next (At.next (by assumption)) | exact At.back (by assumption)), _, rfl, rfl⟩ | exact ⟨rfl, _, _, _, _, rfl, (by assumption), (News.tl N9), _, _, rfl, (by first | assumption | exact At.next (by assumption) | exact At.next (At.next (by assumption)) | exact At.back (by assumption)), _, rfl, rfl⟩ | exact ⟨rfl, _, _, _, _, rfl, (by assumption), (News.pick1 N9), _, _, rfl, (by first | assumption | exact At.next (by assumption) | exact At.next (At.next (by assumption)) | exact At.back (by assumption)), _, rfl, rfl⟩ | exact ⟨rfl, _, _, _, _, rfl, (by assumption), (News.pick2 N9), _, _, rfl, (by first | assumption | exact At.next (by assumption) | exact At.next (At.next (by assumption)) | exact At.back (by assumption)), _, rfl, rfl⟩ | exact ⟨rfl, _, _, _, _, rfl, (by assumption), (News.pick3 N9), _, _, rfl, (by first | assumption | exact At.next (by assumption) | exact At.next (At.next (by assumption)) | exact At.back (by assumption)), _, rfl, rfl⟩)
  rintro m5 n5 h5 tk5 F5 N5 ⟨p5, t5, rfl, A5, tb, m51, m52⟩
  clear F4
  have st1 : Stop 1 := trivial
  k_steps
  refine Halt.mk ?_
  (with_reducible rename Fr g _ _ _ => F6)
  refine cutX (fun m' n' => ∃ p' t2', n' = ((x, instObj 272 dx) :: (dx, scD h1 h2 k1 k2 t1 t2' T p') :: rest) ∧ At T p' r3 ∧ ∃ tb tn, m' (Str.ofString "self") = some (.ref x) ∧ m' (Str.ofString "begin") = some (.int p tb) ∧ m' (Str.ofString "many") = some (.int nn tn)) F6 ?_ ?_
  · rcases a6 with ⟨rfl, rfl, rfl⟩ | ⟨rfl, c, rr2, n3, rfl, c1, c2, c3⟩
    · k_steps
      ((with_reducible rename News _ _ _ _ => N9); first | exact ⟨rfl, _, _, _, _, rfl, (by assumption), N9, _, _, rfl, (by first | assumption | exact At.next (by assumption) | exact At.next (At.next (by assumption)) | exact At.back (by assumption)), _, _, (by first | exact rfl | assumption), (by first | exact rfl | assumption), (by first | exact rfl | assumption)⟩ | exact ⟨rfl, _, _, _, _, rfl, (by assumption), (News.tl N9), _, _, rfl, (by first | assumption | exact At.next (by assumption) | exact At.next (At.next (by assumption)) | exact At.back (by assumption)), _, _, (by first | exact rfl | assumption), (by first | exact rfl | assumption), (by first | exact rfl | assumption)⟩ | exact ⟨rfl, _, _, _, _, rfl, (by assumption), (News.pick1 N9), _, _, rfl, (by first | assumption | exact At.next (by assumption) | exact At.next (At.next (by assumption)) | exact At.back (by assumption)), _, _, (by first | exact rfl | assumption), (by first | exact rfl | assumption), (by first | exact rfl | assumption)⟩ | exact ⟨rfl, _, _, _, _, rfl, (by assumption), (News.pick2 N9), _, _, rfl, (by first | assumption | exact At.next (by assumption) | exact At.next (At.next (by assumption)) | exact At.back (by assumption)), _, _, (by first | exact rfl | assumption), (by first | exact rfl | assumption), (by first | exact rfl | assumption)⟩ | exact ⟨rfl, _, _, _, _, rfl, (by assumption), (News.pick3 N9), _, _, rfl, (by first | assumption | exact At.next (by assumption) | exact At.next (At.next (by assumption)) | exact At.back (by assumption)), _, _, (by first | exact rfl | assumption), (by first | exact rfl | assumption), (by first | exact rfl | assumption)⟩)
    · subst c3
      k_steps
      ((with_reducible rename News _ _ _ _ => N9); first | exact ⟨rfl, _, _, _, _, rfl, (by assumption), N9, _, _, rfl, (by first | assumption | exact At.next (by assumption) | exact At.next (At.next (by assumption)) | exact At.back (by assumption)), _, _, (by first | exact rfl | assumption), (by first | exact rfl | assumption), (by first | exact rfl | assumption)⟩ | exact ⟨rfl, _, _, _, _, rfl, (by assumption), (News.tl N9), _, _, rfl, (by first | assumption | exact At.next (by assumption) | exact At.next (At.next (by assumption)) | exact At.back (by assumption)), _, _, (by first | exact rfl | assumption), (by first | exact rfl | assumption), (by first | exact rfl | assumption)⟩ | exact ⟨rfl, _, _, _, _, rfl, (by assumption), (News.pick1 N9), _, _, rfl, (by first | assumption | exact At.next (by assumption) | exact At.next (At.next (by assumption)) | exact At.back (by assumption)), _, _, (by first | exact rfl | assumption), (by first | exact rfl | assumption), (by first | exact rfl | assumption)⟩ | exact ⟨rfl, _, _, _, _, rfl, (by assumption), (News.pick2 N9), _, _, rfl, (by first | assumption | exact At.next (by assumption) | exact At.next (At.next (by assumption)) | exact At.back (by assumption)), _, _, (by first | exact rfl | assumption), (by first | exact rfl | assumption), (by first | exact rfl | assumption)⟩ | exact ⟨rfl, _, _, _, _, rfl, (by assumption), (News.pick3 N9), _, _, rfl, (by first | assumption | exact At.next (by assumption) | exact At.next (At.next (by assumption)) | exact At.back (by assumption)), _, _, (by first | exact rfl | assumption), (by first | exact rfl | assumption), (by first | exact rfl | assumption)⟩)
  rintro m6 n6 h6 tk6 F7 N7 ⟨p6, t6, rfl, A6, tb6, tn6, m61, m62, m63⟩
  clear F6
  k_steps
  refine Halt.mk ?_
  (with_reducible rename Fr g _ _ _ => F8)
  (with_reducible rename News g _ _ _ => N8)
  (with_reducible rename At T _ rr => A8)
  have l1 := hA.len
  have l2 := A8.len
  rw [hA.slice A8 (by omega)]
  have A0 := hA.sub (r.length - rr.length)
  rw [a9] at A0 ⊢
  k_dflt (refine' dec_f ?k1 ?k2 ?k3 ?k4 ?k5 ?kK ?kd ?ku ?x0 ?x1 ?_; (case k1 => exact B1); (case k2 => exact F8); (case k3 => exact X1); (case k4 => exact N8); (case k5 => exact T1); (case kK => exact rfl); (case kd => (first | exact rm2 (by assumption) (by exact rfl) | exact rm1 (by assumption) (by exact rfl) | exact rm3 (by assumption) (by exact rfl) | exact rm0 (by assumption) | ktr_room)); (case ku => (first | exact rm2 (by assumption) (by exact rfl) | exact rm1 (by assumption) (by exact rfl) | exact rm3 (by assumption) (by exact rfl) | exact rm0 (by assumption) | ktr_units)); (case x0 => exact A0); (case x1 => exact hf); k_whole)
  intro d ta9 tb9 h9 tk9 F9 N9 l9
  clear F8 N8
  try k_sweep
  k_steps
  exact hret _ _ _ _ _ _ _ A8 (by assumption) (by assumption) l9
/-- a number stands ahead of rr -/
inductive NumF (r rr : List Nat) (va vb : Int) : Prop
  | mk {w0 r1 r2 r3 : List Nat} {n nn : Int} {b1 b2 : Bool} (a1 : ((Str.ofString "+" == peekS r) || (Str.ofString "-" == peekS r)) = b1) (a2 : (b1 = false ∧ r1 = r) ∨ (b1 = true ∧ ∃ c, r = c :: r1))
  (a3 : r1.dropWhile isDig = r2) (a4 : (r1.length : Int) - r2.length = n) (a5 : ((peekS r2).cps.toList == (Str.ofString ".").cps.toList) = b2)
  (a6 : (b2 = false ∧ r3 = r2 ∧ nn = n) ∨ (b2 = true ∧ ∃ c rr2 n3, r2 = c :: rr2 ∧ rr2.dropWhile isDig = r3 ∧ (rr2.length : Int) - r3.length = n3 ∧ n + n3 = nn)) (a7 : decide (nn = 0) = false) (a8 : expOf r3 = rr) (a9 : r.take (r.length - rr.length) = w0) (b3 : rr.length ≤ r.length) (hf : DecF w0 va vb) : NumF r rr va vb
inductive BadF (r : List Nat) : Prop
  | mk {r1 r2 r3 : List Nat} {n nn : Int} {b1 b2 : Bool} (a1 : ((Str.ofString "+" == peekS r) || (Str.ofString "-" == peekS r)) = b1) (a2 : (b1 = false ∧ r1 = r) ∨ (b1 = true ∧ ∃ c, r = c :: r1))
  (a3 : r1.dropWhile isDig = r2) (a4 : (r1.length : Int) - r2.length = n) (a5 : ((peekS r2).cps.toList == (Str.ofString ".").cps.toList) = b2)
  (a6 : (b2 = false ∧ r3 = r2 ∧ nn = n) ∨ (b2 = true ∧ ∃ c rr2 n3, r2 = c :: rr2 ∧ rr2.dropWhile isDig = r3 ∧ (rr2.length : Int) - r3.length = n3 ∧ n + n3 = nn)) (a7 : decide (nn = 0) = true) : BadF r
theorem num_f {rr : List Nat} {va vb : Int}
  (B : Below A₀ base outer h₀) (F : Fr h₀ L s.heap m) (X : (hd.heap_1 w.params).In h₀)
  (N : News h₀ L s.heap ((x, instObj 272 dx) :: (dx, scD h1 h2 k1 k2 t1 t2 T p) :: rest))
  (Tp : Top view theLoose mean mg mb h₀) (hk : cs.kind = .function)
  (hdp : dp + 32 < recursionLimit) (hun : un + 256 < cLine)
  (hxd : x ≠ dx) (hrest : ∀ q ∈ rest, q.1 ≠ dx) (hA : At T p r) (hf : NumF r rr va vb)
  (hret : ∀ (d : Addr) (ta tb : Tok) (p' : Int) (t2' : Tok) (h' : Heap) (tk' : Nat), At T p' rr → Fr h₀ L h' m → News h₀ L h' ((d, tupO [.int va ta, .int vb tb]) :: ((x, instObj 272 dx) :: (dx, scD h1 h2 k1 k2 t1 t2' T p') :: rest)) → (∀ q ∈ ((x, instObj 272 dx) :: (dx, scD h1 h2 k1 k2 t1 t2' T p') :: rest), q.1 < d) → Q (.ref d) { s with heap := h', toks := tk' }) :
  wpAny (model prog w) (ktrTop dp un gd cn cs L a ccd cl outer) (call (.ref 255) [.ref x]) Q E s := by
  obtain ⟨a1, a2, a3, a4, a5, a6, a7, a8, a9, b3, hf⟩ := hf
  exact number_ok B F X N Tp hk hdp hun hxd hrest hA a1 a2 a3 a4 a5 a6 a7 a8 a9 b3 hf hret
theorem num_bad
  (B : Below A₀ base outer h₀) (F : Fr h₀ L s.heap m) (X : (hd.heap_1 w.params).In h₀)
  (N : News h₀ L s.heap ((x, instObj 272 dx) :: (dx, scD h1 h2 k1 k2 t1 t2 T p) :: rest))
  (Tp : Top view theLoose mean mg mb h₀) (hk : cs.kind = .function)
  (hdp : dp + 16 < recursionLimit) (hun : un + 128 < cLine)
  (hxd : x ≠ dx) (hrest : ∀ q ∈ rest, q.1 ≠ dx) (hA : At T p r) (hf : BadF r)
  (hE : ∀ (e : Addr) (t2' : Tok) (h' : Heap) (tk' : Nat), Thrown base h₀ L m (envX cn cs L a ccd cl :: outer) e p ((x, instObj 272 dx) :: (dx, scD h1 h2 k1 k2 t1 t2' T p) :: rest) h' → E (.ref e) { s with heap := h', toks := tk' }) :
  wpAny (model prog w) (ktrTop dp un gd cn cs L a ccd cl outer) (call (.ref 255) [.ref x]) Q E s := by
  obtain ⟨a1, a2, a3, a4, a5, a6, a7⟩ := hf
  exact number_bad B F X N Tp hk hdp hun hxd hrest hA a1 a2 a3 a4 a5 a6 a7 hE
end
theorem off_words : True := by
  w_top off
  k_with_none
  trivial
section
theorem decF_0 : DecF [48] (0) 1 :=
  .mk (w0 := [48]) (sg := []) (r1 := [48]) (ds1 := [48]) (r2 := []) (ds2 := []) (r3 := []) (ds := [48]) (e := 0) (n := 1) (n2 := 0) (ex := 0) (m1 := 0) (m2 := 0) (P := 1) (Bt := 1) (v := 0) (tp := 0) (y := 1000000000000000000000000000000000000000000000000000000000000) (z := 0) (sv := 0) (gg := 1) (sb := false)
    (by decide +kernel) (by decide +kernel) (by decide +kernel) (.inl ⟨by decide +kernel, by decide +kernel, by decide +kernel⟩) (by decide +kernel) (by decide +kernel) (by decide +kernel) (by decide +kernel) (by decide +kernel) (by decide +kernel) (by decide +kernel) (.inl ⟨by decide +kernel, by decide +kernel, by decide +kernel⟩) (by decide +kernel) (by decide +kernel) (by decide +kernel) (by decide +kernel) (by decide +kernel) (by decide +kernel) (by decide +kernel) (by decide +kernel) (by decide +kernel) (by decide +kernel) (by decide +kernel) (by decide +kernel) (by decide +kernel) (by decide +kernel) (by decide +kernel) (by decide +kernel) (by decide +kernel) (by decide +kernel) (by decide +kernel) (by decide +kernel) (by omega) (by decide +kernel) (by decide +kernel) ⟨2, by decide +kernel, by decide +kernel⟩ (by decide +kernel) (by decide +kernel) (by decide +kernel) (by decide +kernel)
theorem decF_1 : DecF [45, 49, 46, 53] (-3) 2 :=
  .mk (w0 := [45, 49, 46, 53]) (sg := [45]) (r1 := [49, 46, 53]) (ds1 := [49]) (r2 := [46, 53]) (ds2 := [53]) (r3 := []) (ds := [49, 53]) (e := 0) (n := 2) (n2 := 1) (ex := -1) (m1 := 0) (m2 := 1) (P := 1) (Bt := 10) (v := 15) (tp := 15) (y := 10000000000000000000000000000000000000000000000000000000000000) (z := 15000000000000000000000000000000000000000000000000000000000000) (sv := -15) (gg := 5) (sb := true)
    (by decide +kernel) (by decide +kernel) (by decide +kernel) (.inr ⟨[53], by decide +kernel, by decide +kernel, by decide +kernel⟩) (by decide +kernel) (by decide +kernel) (by decide +kernel) (by decide +kernel) (by decide +kernel) (by decide +kernel) (by decide +kernel) (.inl ⟨by decide +kernel, by decide +kernel, by decide +kernel⟩) (by decide +kernel) (by decide +kernel) (by decide +kernel) (by decide +kernel) (by decide +kernel) (by decide +kernel) (by decide +kernel) (by decide +kernel) (by decide +kernel) (by decide +kernel) (by decide +kernel) (by decide +kernel) (by decide +kernel) (by decide +kernel) (by decide +kernel) (by decide +kernel) (by decide +kernel) (by decide +kernel) (by decide +kernel) (by decide +kernel) (by omega) (by decide +kernel) (by decide +kernel) ⟨11, by decide +kernel, by decide +kernel⟩ (by decide +kernel) (by decide +kernel) (by decide +kernel) (by decide +kernel)
theorem decF_2 : DecF [46, 50, 53] (1) 4 :=
  .mk (w0 := [46, 50, 53]) (sg := []) (r1 := [46, 50, 53]) (ds1 := []) (r2 := [46, 50, 53]) (ds2 := [50, 53]) (r3 := []) (ds := [50, 53]) (e := 0) (n := 2) (n2 := 2) (ex := -2) (m1 := 0) (m2 := 2) (P := 1) (Bt := 100) (v := 25) (tp := 25) (y := 100000000000000000000000000000000000000000000000000000000000000) (z := 25000000000000000000000000000000000000000000000000000000000000) (sv := 25) (gg := 25) (sb := false)
    (by decide +kernel) (by decide +kernel) (by decide +kernel) (.inr ⟨[50, 53], by decide +kernel, by decide +kernel, by decide +kernel⟩) (by decide +kernel) (by decide +kernel) (by decide +kernel) (by decide +kernel) (by decide +kernel) (by decide +kernel) (by decide +kernel) (.inl ⟨by decide +kernel, by decide +kernel, by decide +kernel⟩) (by decide +kernel) (by decide +kernel) (by decide +kernel) (by decide +kernel) (by decide +kernel) (by decide +kernel) (by decide +kernel) (by decide +kernel) (by decide +kernel) (by decide +kernel) (by decide +kernel) (by decide +kernel) (by decide +kernel) (by decide +kernel) (by decide +kernel) (by decide +kernel) (by decide +kernel) (by decide +kernel) (by decide +kernel) (by decide +kernel) (by omega) (by decide +kernel) (by decide +kernel) ⟨101, by decide +kernel, by decide +kernel⟩ (by decide +kernel) (by decide +kernel) (by decide +kernel) (by decide +kernel)
theorem decF_3 : DecF [49, 101, 50] (100) 1 :=
  .mk (w0 := [49, 101, 50]) (sg := []) (r1 := [49, 101, 50]) (ds1 := [49]) (r2 := [101, 50]) (ds2 := []) (r3 := [101, 50]) (ds := [49]) (e := 2) (n := 1) (n2 := 0) (ex := 2) (m1 := 2) (m2 := 0) (P := 100) (Bt := 1) (v := 1) (tp := 100) (y := 1000000000000000000000000000000000000000000000000000000000000) (z := 100000000000000000000000000000000000000000000000000000000000000) (sv := 100) (gg := 1) (sb := false)
    (by decide +kernel) (by decide +kernel) (by decide +kernel) (.inl ⟨by decide +kernel, by decide +kernel, by decide +kernel⟩) (by decide +kernel) (by decide +kernel) (by decide +kernel) (by decide +kernel) (by decide +kernel) (by decide +kernel) (by decide +kernel) (.inr (.inl ⟨101, [50], [50], by decide +kernel, by decide +kernel, by decide +kernel, by decide +kernel, by decide +kernel, by decide +kernel, by decide +kernel, by decide +kernel, by decide +kernel, by decide +kernel⟩)) (by decide +kernel) (by decide +kernel) (by decide +kernel) (by decide +kernel) (by decide +kernel) (by decide +kernel) (by decide +kernel) (by decide +kernel) (by decide +kernel) (by decide +kernel) (by decide +kernel) (by decide +kernel) (by decide +kernel) (by decide +kernel) (by decide +kernel) (by decide +kernel) (by decide +kernel) (by decide +kernel) (by decide +kernel) (by decide +kernel) (by omega) (by decide +kernel) (by decide +kernel) ⟨2, by decide +kernel, by decide +kernel⟩ (by decide +kernel) (by decide +kernel) (by decide +kernel) (by decide +kernel)
theorem decF_4 : DecF [43, 55] (7) 1 :=
  .mk (w0 := [43, 55]) (sg := [43]) (r1 := [55]) (ds1 := [55]) (r2 := []) (ds2 := []) (r3 := []) (ds := [55]) (e := 0) (n := 1) (n2 := 0) (ex := 0) (m1 := 0) (m2 := 0) (P := 1) (Bt := 1) (v := 7) (tp := 7) (y := 1000000000000000000000000000000000000000000000000000000000000) (z := 7000000000000000000000000000000000000000000000000000000000000) (sv := 7) (gg := 1) (sb := false)
    (by decide +kernel) (by decide +kernel) (by decide +kernel) (.inl ⟨by decide +kernel, by decide +kernel, by decide +kernel⟩) (by decide +kernel) (by decide +kernel) (by decide +kernel) (by decide +kernel) (by decide +kernel) (by decide +kernel) (by decide +kernel) (.inl ⟨by decide +kernel, by decide +kernel, by decide +kernel⟩) (by decide +kernel) (by decide +kernel) (by decide +kernel) (by decide +kernel) (by decide +kernel) (by decide +kernel) (by decide +kernel) (by decide +kernel) (by decide +kernel) (by decide +kernel) (by decide +kernel) (by decide +kernel) (by decide +kernel) (by decide +kernel) (by decide +kernel) (by decide +kernel) (by decide +kernel) (by decide +kernel) (by decide +kernel) (by decide +kernel) (by omega) (by decide +kernel) (by decide +kernel) ⟨2, by decide +kernel, by decide +kernel⟩ (by decide +kernel) (by decide +kernel) (by decide +kernel) (by decide +kernel)
theorem decF_5 : DecF [51, 48] (30) 1 :=
  .mk (w0 := [51, 48]) (sg := []) (r1 := [51, 48]) (ds1 := [51, 48]) (r2 := []) (ds2 := []) (r3 := []) (ds := [51, 48]) (e := 0) (n := 2) (n2 := 0) (ex := 0) (m1 := 0) (m2 := 0) (P := 1) (Bt := 1) (v := 30) (tp := 30) (y := 1000000000000000000000000000000000000000000000000000000000000) (z := 30000000000000000000000000000000000000000000000000000000000000) (sv := 30) (gg := 1) (sb := false)
    (by decide +kernel) (by decide +kernel) (by decide +kernel) (.inl ⟨by decide +kernel, by decide +kernel, by decide +kernel⟩) (by decide +kernel) (by decide +kernel) (by decide +kernel) (by decide +kernel) (by decide +kernel) (by decide +kernel) (by decide +kernel) (.inl ⟨by decide +kernel, by decide +kernel, by decide +kernel⟩) (by decide +kernel) (by decide +kernel) (by decide +kernel) (by decide +kernel) (by decide +kernel) (by decide +kernel) (by decide +kernel) (by decide +kernel) (by decide +kernel) (by decide +kernel) (by decide +kernel) (by decide +kernel) (by decide +kernel) (by decide +kernel) (by decide +kernel) (by decide +kernel) (by decide +kernel) (by decide +kernel) (by decide +kernel) (by decide +kernel) (by omega) (by decide +kernel) (by decide +kernel) ⟨2, by decide +kernel, by decide +kernel⟩ (by decide +kernel) (by decide +kernel) (by decide +kernel) (by decide +kernel)
theorem decF_6 : DecF [45, 50, 69, 45, 49] (-1) 5 :=
  .mk (w0 := [45, 50, 69, 45, 49]) (sg := [45]) (r1 := [50, 69, 45, 49]) (ds1 := [50]) (r2 := [69, 45, 49]) (ds2 := []) (r3 := [69, 45, 49]) (ds := [50]) (e := -1) (n := 1) (n2 := 0) (ex := -1) (m1 := 0) (m2 := 1) (P := 1) (Bt := 10) (v := 2) (tp := 2) (y := 10000000000000000000000000000000000000000000000000000000000000) (z := 2000000000000000000000000000000000000000000000000000000000000) (sv := -2) (gg := 2) (sb := true)
    (by decide +kernel) (by decide +kernel) (by decide +kernel) (.inl ⟨by decide +kernel, by decide +kernel, by decide +kernel⟩) (by decide +kernel) (by decide +kernel) (by decide +kernel) (by decide +kernel) (by decide +kernel) (by decide +kernel) (by decide +kernel) (.inr (.inr ⟨69, [49], [49], 1, by decide +kernel, by decide +kernel, by decide +kernel, by decide +kernel, by decide +kernel, by decide +kernel, by decide +kernel, by decide +kernel, by decide +kernel, by decide +kernel⟩)) (by decide +kernel) (by decide +kernel) (by decide +kernel) (by decide +kernel) (by decide +kernel) (by decide +kernel) (by decide +kernel) (by decide +kernel) (by decide +kernel) (by decide +kernel) (by decide +kernel) (by decide +kernel) (by decide +kernel) (by decide +kernel) (by decide +kernel) (by decide +kernel) (by decide +kernel) (by decide +kernel) (by decide +kernel) (by decide +kernel) (by omega) (by decide +kernel) (by decide +kernel) ⟨11, by decide +kernel, by decide +kernel⟩ (by decide +kernel) (by decide +kernel) (by decide +kernel) (by decide +kernel)
theorem decF_7 : DecF [52, 46] (4) 1 :=
  .mk (w0 := [52, 46]) (sg := []) (r1 := [52, 46]) (ds1 := [52]) (r2 := [46]) (ds2 := []) (r3 := []) (ds := [52]) (e := 0) (n := 1) (n2 := 0) (ex := 0) (m1 := 0) (m2 := 0) (P := 1) (Bt := 1) (v := 4) (tp := 4) (y := 1000000000000000000000000000000000000000000000000000000000000) (z := 4000000000000000000000000000000000000000000000000000000000000) (sv := 4) (gg := 1) (sb := false)
    (by decide +kernel) (by decide +kernel) (by decide +kernel) (.inr ⟨[], by decide +kernel, by decide +kernel, by decide +kernel⟩) (by decide +kernel) (by decide +kernel) (by decide +kernel) (by decide +kernel) (by decide +kernel) (by decide +kernel) (by decide +kernel) (.inl ⟨by decide +kernel, by decide +kernel, by decide +kernel⟩) (by decide +kernel) (by decide +kernel) (by decide +kernel) (by decide +kernel) (by decide +kernel) (by decide +kernel) (by decide +kernel) (by decide +kernel) (by decide +kernel) (by decide +kernel) (by decide +kernel) (by decide +kernel) (by decide +kernel) (by decide +kernel) (by decide +kernel) (by decide +kernel) (by decide +kernel) (by decide +kernel) (by decide +kernel) (by decide +kernel) (by omega) (by decide +kernel) (by decide +kernel) ⟨2, by decide +kernel, by decide +kernel⟩ (by decide +kernel) (by decide +kernel) (by decide +kernel) (by decide +kernel)
theorem decF_8 : DecF [49] (1) 1 :=
  .mk (w0 := [49]) (sg := []) (r1 := [49]) (ds1 := [49]) (r2 := []) (ds2 := []) (r3 := []) (ds := [49]) (e := 0) (n := 1) (n2 := 0) (ex := 0) (m1 := 0) (m2 := 0) (P := 1) (Bt := 1) (v := 1) (tp := 1) (y := 1000000000000000000000000000000000000000000000000000000000000) (z := 1000000000000000000000000000000000000000000000000000000000000) (sv := 1) (gg := 1) (sb := false)
    (by decide +kernel) (by decide +kernel) (by decide +kernel) (.inl ⟨by decide +kernel, by decide +kernel, by decide +kernel⟩) (by decide +kernel) (by decide +kernel) (by decide +kernel) (by decide +kernel) (by decide +kernel) (by decide +kernel) (by decide +kernel) (.inl ⟨by decide +kernel, by decide +kernel, by decide +kernel⟩) (by decide +kernel) (by decide +kernel) (by decide +kernel) (by decide +kernel) (by decide +kernel) (by decide +kernel) (by decide +kernel) (by decide +kernel) (by decide +kernel) (by decide +kernel) (by decide +kernel) (by decide +kernel) (by decide +kernel) (by decide +kernel) (by decide +kernel) (by decide +kernel) (by decide +kernel) (by decide +kernel) (by decide +kernel) (by decide +kernel) (by omega) (by decide +kernel) (by decide +kernel) ⟨2, by decide +kernel, by decide +kernel⟩ (by decide +kernel) (by decide +kernel) (by decide +kernel) (by decide +kernel)
theorem decF_9 : DecF [50] (2) 1 :=
  .mk (w0 := [50]) (sg := []) (r1 := [50]) (ds1 := [50]) (r2 := []) (ds2 := []) (r3 := []) (ds := [50]) (e := 0) (n := 1) (n2 := 0) (ex := 0) (m1 := 0) (m2 := 0) (P := 1) (Bt := 1) (v := 2) (tp := 2) (y := 1000000000000000000000000000000000000000000000000000000000000) (z := 2000000000000000000000000000000000000000000000000000000000000) (sv := 2) (gg := 1) (sb := false)
    (by decide +kernel) (by decide +kernel) (by decide +kernel) (.inl ⟨by decide +kernel, by decide +kernel, by decide +kernel⟩) (by decide +kernel) (by decide +kernel) (by decide +kernel) (by decide +kernel) (by decide +kernel) (by decide +kernel) (by decide +kernel) (.inl ⟨by decide +kernel, by decide +kernel, by decide +kernel⟩) (by decide +kernel) (by decide +kernel) (by decide +kernel) (by decide +kernel) (by decide +kernel) (by decide +kernel) (by decide +kernel) (by decide +kernel) (by decide +kernel) (by decide +kernel) (by decide +kernel) (by decide +kernel) (by decide +kernel) (by decide +kernel) (by decide +kernel) (by decide +kernel) (by decide +kernel) (by decide +kernel) (by decide +kernel) (by decide +kernel) (by omega) (by decide +kernel) (by decide +kernel) ⟨2, by decide +kernel, by decide +kernel⟩ (by decide +kernel) (by decide +kernel) (by decide +kernel) (by decide +kernel)
theorem decF_10 : DecF [51] (3) 1 :=
  .mk (w0 := [51]) (sg := []) (r1 := [51]) (ds1 := [51]) (r2 := []) (ds2 := []) (r3 := []) (ds := [51]) (e := 0) (n := 1) (n2 := 0) (ex := 0) (m1 := 0) (m2 := 0) (P := 1) (Bt := 1) (v := 3) (tp := 3) (y := 1000000000000000000000000000000000000000000000000000000000000) (z := 3000000000000000000000000000000000000000000000000000000000000) (sv := 3) (gg := 1) (sb := false)
    (by decide +kernel) (by decide +kernel) (by decide +kernel) (.inl ⟨by decide +kernel, by decide +kernel, by decide +kernel⟩) (by decide +kernel) (by decide +kernel) (by decide +kernel) (by decide +kernel) (by decide +kernel) (by decide +kernel) (by decide +kernel) (.inl ⟨by decide +kernel, by decide +kernel, by decide +kernel⟩) (by decide +kernel) (by decide +kernel) (by decide +kernel) (by decide +kernel) (by decide +kernel) (by decide +kernel) (by decide +kernel) (by decide +kernel) (by decide +kernel) (by decide +kernel) (by decide +kernel) (by decide +kernel) (by decide +kernel) (by decide +kernel) (by decide +kernel) (by decide +kernel) (by decide +kernel) (by decide +kernel) (by decide +kernel) (by decide +kernel) (by omega) (by decide +kernel) (by decide +kernel) ⟨2, by decide +kernel, by decide +kernel⟩ (by decide +kernel) (by decide +kernel) (by decide +kernel) (by decide +kernel)
theorem decF_11 : DecF [52] (4) 1 :=
  .mk (w0 := [52]) (sg := []) (r1 := [52]) (ds1 := [52]) (r2 := []) (ds2 := []) (r3 := []) (ds := [52]) (e := 0) (n := 1) (n2 := 0) (ex := 0) (m1 := 0) (m2 := 0) (P := 1) (Bt := 1) (v := 4) (tp := 4) (y := 1000000000000000000000000000000000000000000000000000000000000) (z := 4000000000000000000000000000000000000000000000000000000000000) (sv := 4) (gg := 1) (sb := false)
    (by decide +kernel) (by decide +kernel) (by decide +kernel) (.inl ⟨by decide +kernel, by decide +kernel, by decide +kernel⟩) (by decide +kernel) (by decide +kernel) (by decide +kernel) (by decide +kernel) (by decide +kernel) (by decide +kernel) (by decide +kernel) (.inl ⟨by decide +kernel, by decide +kernel, by decide +kernel⟩) (by decide +kernel) (by decide +kernel) (by decide +kernel) (by decide +kernel) (by decide +kernel) (by decide +kernel) (by decide +kernel) (by decide +kernel) (by decide +kernel) (by decide +kernel) (by decide +kernel) (by decide +kernel) (by decide +kernel) (by decide +kernel) (by decide +kernel) (by decide +kernel) (by decide +kernel) (by decide +kernel) (by decide +kernel) (by decide +kernel) (by omega) (by decide +kernel) (by decide +kernel) ⟨2, by decide +kernel, by decide +kernel⟩ (by decide +kernel) (by decide +kernel) (by decide +kernel) (by decide +kernel)
theorem decF_12 : DecF [53] (5) 1 :=
  .mk (w0 := [53]) (sg := []) (r1 := [53]) (ds1 := [53]) (r2 := []) (ds2 := []) (r3 := []) (ds := [53]) (e := 0) (n := 1) (n2 := 0) (ex := 0) (m1 := 0) (m2 := 0) (P := 1) (Bt := 1) (v := 5) (tp := 5) (y := 1000000000000000000000000000000000000000000000000000000000000) (z := 5000000000000000000000000000000000000000000000000000000000000) (sv := 5) (gg := 1) (sb := false)
    (by decide +kernel) (by decide +kernel) (by decide +kernel) (.inl ⟨by decide +kernel, by decide +kernel, by decide +kernel⟩) (by decide +kernel) (by decide +kernel) (by decide +kernel) (by decide +kernel) (by decide +kernel) (by decide +kernel) (by decide +kernel) (.inl ⟨by decide +kernel, by decide +kernel, by decide +kernel⟩) (by decide +kernel) (by decide +kernel) (by decide +kernel) (by decide +kernel) (by decide +kernel) (by decide +kernel) (by decide +kernel) (by decide +kernel) (by decide +kernel) (by decide +kernel) (by decide +kernel) (by decide +kernel) (by decide +kernel) (by decide +kernel) (by decide +kernel) (by decide +kernel) (by decide +kernel) (by decide +kernel) (by decide +kernel) (by decide +kernel) (by omega) (by decide +kernel) (by decide +kernel) ⟨2, by decide +kernel, by decide +kernel⟩ (by decide +kernel) (by decide +kernel) (by decide +kernel) (by decide +kernel)
theorem decF_13 : DecF [54] (6) 1 :=
  .mk (w0 := [54]) (sg := []) (r1 := [54]) (ds1 := [54]) (r2 := []) (ds2 := []) (r3 := []) (ds := [54]) (e := 0) (n := 1) (n2 := 0) (ex := 0) (m1 := 0) (m2 := 0) (P := 1) (Bt := 1) (v := 6) (tp := 6) (y := 1000000000000000000000000000000000000000000000000000000000000) (z := 6000000000000000000000000000000000000000000000000000000000000) (sv := 6) (gg := 1) (sb := false)
    (by decide +kernel) (by decide +kernel) (by decide +kernel) (.inl ⟨by decide +kernel, by decide +kernel, by decide +kernel⟩) (by decide +kernel) (by decide +kernel) (by decide +kernel) (by decide +kernel) (by decide +kernel) (by decide +kernel) (by decide +kernel) (.inl ⟨by decide +kernel, by decide +kernel, by decide +kernel⟩) (by decide +kernel) (by decide +kernel) (by decide +kernel) (by decide +kernel) (by decide +kernel) (by decide +kernel) (by decide +kernel) (by decide +kernel) (by decide +kernel) (by decide +kernel) (by decide +kernel) (by decide +kernel) (by decide +kernel) (by decide +kernel) (by decide +kernel) (by decide +kernel) (by decide +kernel) (by decide +kernel) (by decide +kernel) (by decide +kernel) (by omega) (by decide +kernel) (by decide +kernel) ⟨2, by decide +kernel, by decide +kernel⟩ (by decide +kernel) (by decide +kernel) (by decide +kernel) (by decide +kernel)
end
theorem off_words2 : True := by
  w_top off
  k_with_none
  trivial
section
theorem stops_dw {rr : List Nat} (h : stops rr) : rr.dropWhile isDig = rr := by
  cases rr with
  | nil => rfl
  | cons c r => rw [List.dropWhile_cons, (h c rfl).1]; rfl
theorem stops_peek {rr : List Nat} (h : stops rr) : ((peekS rr).cps.toList == (Str.ofString ".").cps.toList) = false := by
  cases rr with
  | nil => decide +kernel
  | cons c r =>
    have := dot_eq c
    rw [decide_eq_false (h c rfl).2.1] at this
    exact this
theorem stops_exp {rr : List Nat} (h : stops rr) : expOf rr = rr := by
  cases rr with
  | nil => rfl
  | cons c r =>
    have h1 := (h c rfl).2.2
    show (if 101 = c ∨ 69 = c then _ else _) = _
    rw [if_neg]
    rintro (h | h)
    · exact h1.1 h.symm
    · exact h1.2 h.symm
theorem stops_ne (c : Nat) (r : List Nat) : r ≠ c :: r := fun h => by have := congrArg List.length h; simp at this
theorem take_word (w rr : List Nat) : (w ++ rr).take ((w ++ rr).length - rr.length) = w := by simp
theorem badF_0 : BadF [] :=
  .mk (r1 := []) (r2 := []) (r3 := []) (n := 0) (nn := 0) (b1 := false) (b2 := false) (by decide +kernel) (.inl ⟨rfl, rfl⟩) rfl (by decide) (by decide +kernel) (.inl ⟨rfl, rfl, rfl⟩) (by decide)
theorem badF_1 : BadF [45, 122] :=
  .mk (r1 := [122]) (r2 := [122]) (r3 := [122]) (n := 0) (nn := 0) (b1 := true) (b2 := false) (by decide +kernel) (.inr ⟨rfl, _, rfl⟩) (by decide) (by decide) (by decide +kernel) (.inl ⟨rfl, rfl, rfl⟩) (by decide)
theorem numF_0 {rr : List Nat} (h : stops rr) : NumF (48 :: rr) rr (0) 1 :=
  .mk (w0 := [48]) (r1 := 48 :: rr) (r2 := rr) (r3 := rr) (n := 1) (nn := 1) (b1 := false) (b2 := false)
    (by exact (by decide +kernel : ((Str.ofString "+" == (⟨#[48]⟩ : Str)) || (Str.ofString "-" == ⟨#[48]⟩)) = false)) (.inl ⟨rfl, rfl⟩) (stops_dw h) (by (try simp only [List.length_cons]); omega) (stops_peek h) (.inl ⟨rfl, rfl, rfl⟩) (by decide) (stops_exp h) (take_word [48] rr) (by (try simp only [List.length_cons]); omega) decF_0
theorem numF_1 {rr : List Nat} (h : stops rr) : NumF (45 :: 49 :: 46 :: 53 :: rr) rr (-3) 2 :=
  .mk (w0 := [45, 49, 46, 53]) (r1 := 49 :: 46 :: 53 :: rr) (r2 := 46 :: 53 :: rr) (r3 := rr) (n := 1) (nn := 2) (b1 := true) (b2 := true)
    (by exact (by decide +kernel : ((Str.ofString "+" == (⟨#[45]⟩ : Str)) || (Str.ofString "-" == ⟨#[45]⟩)) = true)) (.inr ⟨rfl, _, rfl⟩) (by rfl) (by (try simp only [List.length_cons]); omega) (by exact (by decide +kernel : ((⟨#[46]⟩ : Str).cps.toList == (Str.ofString ".").cps.toList) = true)) (.inr ⟨rfl, 46, 53 :: rr, 1, rfl, (stops_dw h), (by (try simp only [List.length_cons]); omega), by decide⟩) (by decide) (stops_exp h) (take_word [45, 49, 46, 53] rr) (by (try simp only [List.length_cons]); omega) decF_1
theorem numF_2 {rr : List Nat} (h : stops rr) : NumF (46 :: 50 :: 53 :: rr) rr (1) 4 :=
  .mk (w0 := [46, 50, 53]) (r1 := 46 :: 50 :: 53 :: rr) (r2 := 46 :: 50 :: 53 :: rr) (r3 := rr) (n := 0) (nn := 2) (b1 := false) (b2 := true)
    (by exact (by decide +kernel : ((Str.ofString "+" == (⟨#[46]⟩ : Str)) || (Str.ofString "-" == ⟨#[46]⟩)) = false)) (.inl ⟨rfl, rfl⟩) (by rfl) (by (try simp only [List.length_cons]); omega) (by exact (by decide +kernel : ((⟨#[46]⟩ : Str).cps.toList == (Str.ofString ".").cps.toList) = true)) (.inr ⟨rfl, 46, 50 :: 53 :: rr, 2, rfl, (stops_dw h), (by (try simp only [List.length_cons]); omega), by decide⟩) (by decide) (stops_exp h) (take_word [46, 50, 53] rr) (by (try simp only [List.length_cons]); omega) decF_2
theorem numF_3 {rr : List Nat} (h : stops rr) : NumF (49 :: 101 :: 50 :: rr) rr (100) 1 :=
  .mk (w0 := [49, 101, 50]) (r1 := 49 :: 101 :: 50 :: rr) (r2 := 101 :: 50 :: rr) (r3 := 101 :: 50 :: rr) (n := 1) (nn := 1) (b1 := false) (b2 := false)
    (by exact (by decide +kernel : ((Str.ofString "+" == (⟨#[49]⟩ : Str)) || (Str.ofString "-" == ⟨#[49]⟩)) = false)) (.inl ⟨rfl, rfl⟩) (by rfl) (by (try simp only [List.length_cons]); omega) (by exact (by decide +kernel : ((⟨#[101]⟩ : Str).cps.toList == (Str.ofString ".").cps.toList) = false)) (.inl ⟨rfl, rfl, rfl⟩) (by decide) (by have h1 := stops_dw h; simp [expOf, signOff, isDig, List.dropWhile_cons, h1, stops_ne]) (take_word [49, 101, 50] rr) (by (try simp only [List.length_cons]); omega) decF_3
theorem numF_4 {rr : List Nat} (h : stops rr) : NumF (43 :: 55 :: rr) rr (7) 1 :=
  .mk (w0 := [43, 55]) (r1 := 55 :: rr) (r2 := rr) (r3 := rr) (n := 1) (nn := 1) (b1 := true) (b2 := false)
    (by exact (by decide +kernel : ((Str.ofString "+" == (⟨#[43]⟩ : Str)) || (Str.ofString "-" == ⟨#[43]⟩)) = true)) (.inr ⟨rfl, _, rfl⟩) (stops_dw h) (by (try simp only [List.length_cons]); omega) (stops_peek h) (.inl ⟨rfl, rfl, rfl⟩) (by decide) (stops_exp h) (take_word [43, 55] rr) (by (try simp only [List.length_cons]); omega) decF_4
theorem numF_5 {rr : List Nat} (h : stops rr) : NumF (51 :: 48 :: rr) rr (30) 1 :=
  .mk (w0 := [51, 48]) (r1 := 51 :: 48 :: rr) (r2 := rr) (r3 := rr) (n := 2) (nn := 2) (b1 := false) (b2 := false)
    (by exact (by decide +kernel : ((Str.ofString "+" == (⟨#[51]⟩ : Str)) || (Str.ofString "-" == ⟨#[51]⟩)) = false)) (.inl ⟨rfl, rfl⟩) (stops_dw h) (by (try simp only [List.length_cons]); omega) (stops_peek h) (.inl ⟨rfl, rfl, rfl⟩) (by decide) (stops_exp h) (take_word [51, 48] rr) (by (try simp only [List.length_cons]); omega) decF_5
theorem numF_6 {rr : List Nat} (h : stops rr) : NumF (45 :: 50 :: 69 :: 45 :: 49 :: rr) rr (-1) 5 :=
  .mk (w0 := [45, 50, 69, 45, 49]) (r1 := 50 :: 69 :: 45 :: 49 :: rr) (r2 := 69 :: 45 :: 49 :: rr) (r3 := 69 :: 45 :: 49 :: rr) (n := 1) (nn := 1) (b1 := true) (b2 := false)
    (by exact (by decide +kernel : ((Str.ofString "+" == (⟨#[45]⟩ : Str)) || (Str.ofString "-" == ⟨#[45]⟩)) = true)) (.inr ⟨rfl, _, rfl⟩) (by rfl) (by (try simp only [List.length_cons]); omega) (by exact (by decide +kernel : ((⟨#[69]⟩ : Str).cps.toList == (Str.ofString ".").cps.toList) = false)) (.inl ⟨rfl, rfl, rfl⟩) (by decide) (by have h1 := stops_dw h; simp [expOf, signOff, isDig, List.dropWhile_cons, h1, stops_ne]) (take_word [45, 50, 69, 45, 49] rr) (by (try simp only [List.length_cons]); omega) decF_6
theorem numF_7 {rr : List Nat} (h : stops rr) : NumF (52 :: 46 :: rr) rr (4) 1 :=
  .mk (w0 := [52, 46]) (r1 := 52 :: 46 :: rr) (r2 := 46 :: rr) (r3 := rr) (n := 1) (nn := 1) (b1 := false) (b2 := true)
    (by exact (by decide +kernel : ((Str.ofString "+" == (⟨#[52]⟩ : Str)) || (Str.ofString "-" == ⟨#[52]⟩)) = false)) (.inl ⟨rfl, rfl⟩) (by rfl) (by (try simp only [List.length_cons]); omega) (by exact (by decide +kernel : ((⟨#[46]⟩ : Str).cps.toList == (Str.ofString ".").cps.toList) = true)) (.inr ⟨rfl, 46, rr, 0, rfl, (stops_dw h), (by (try simp only [List.length_cons]); omega), by decide⟩) (by decide) (stops_exp h) (take_word [52, 46] rr) (by (try simp only [List.length_cons]); omega) decF_7
theorem numF_8 {rr : List Nat} (h : stops rr) : NumF (49 :: rr) rr (1) 1 :=
  .mk (w0 := [49]) (r1 := 49 :: rr) (r2 := rr) (r3 := rr) (n := 1) (nn := 1) (b1 := false) (b2 := false)
    (by exact (by decide +kernel : ((Str.ofString "+" == (⟨#[49]⟩ : Str)) || (Str.ofString "-" == ⟨#[49]⟩)) = false)) (.inl ⟨rfl, rfl⟩) (stops_dw h) (by (try simp only [List.length_cons]); omega) (stops_peek h) (.inl ⟨rfl, rfl, rfl⟩) (by decide) (stops_exp h) (take_word [49] rr) (by (try simp only [List.length_cons]); omega) decF_8
theorem numF_9 {rr : List Nat} (h : stops rr) : NumF (50 :: rr) rr (2) 1 :=
  .mk (w0 := [50]) (r1 := 50 :: rr) (r2 := rr) (r3 := rr) (n := 1) (nn := 1) (b1 := false) (b2 := false)
    (by exact (by decide +kernel : ((Str.ofString "+" == (⟨#[50]⟩ : Str)) || (Str.ofString "-" == ⟨#[50]⟩)) = false)) (.inl ⟨rfl, rfl⟩) (stops_dw h) (by (try simp only [List.length_cons]); omega) (stops_peek h) (.inl ⟨rfl, rfl, rfl⟩) (by decide) (stops_exp h) (take_word [50] rr) (by (try simp only [List.length_cons]); omega) decF_9
theorem numF_10 {rr : List Nat} (h : stops rr) : NumF (51 :: rr) rr (3) 1 :=
  .mk (w0 := [51]) (r1 := 51 :: rr) (r2 := rr) (r3 := rr) (n := 1) (nn := 1) (b1 := false) (b2 := false)
    (by exact (by decide +kernel : ((Str.ofString "+" == (⟨#[51]⟩ : Str)) || (Str.ofString "-" == ⟨#[51]⟩)) = false)) (.inl ⟨rfl, rfl⟩) (stops_dw h) (by (try simp only [List.length_cons]); omega) (stops_peek h) (.inl ⟨rfl, rfl, rfl⟩) (by decide) (stops_exp h) (take_word [51] rr) (by (try simp only [List.length_cons]); omega) decF_10
theorem numF_11 {rr : List Nat} (h : stops rr) : NumF (52 :: rr) rr (4) 1 :=
  .mk (w0 := [52]) (r1 := 52 :: rr) (r2 := rr) (r3 := rr) (n := 1) (nn := 1) (b1 := false) (b2 := false)
    (by exact (by decide +kernel : ((Str.ofString "+" == (⟨#[52]⟩ : Str)) || (Str.ofString "-" == ⟨#[52]⟩)) = false)) (.inl ⟨rfl, rfl⟩) (stops_dw h) (by (try simp only [List.length_cons]); omega) (stops_peek h) (.inl ⟨rfl, rfl, rfl⟩) (by decide) (stops_exp h) (take_word [52] rr) (by (try simp only [List.length_cons]); omega) decF_11
theorem numF_12 {rr : List Nat} (h : stops rr) : NumF (53 :: rr) rr (5) 1 :=
  .mk (w0 := [53]) (r1 := 53 :: rr) (r2 := rr) (r3 := rr) (n := 1) (nn := 1) (b1 := false) (b2 := false)
    (by exact (by decide +kernel : ((Str.ofString "+" == (⟨#[53]⟩ : Str)) || (Str.ofString "-" == ⟨#[53]⟩)) = false)) (.inl ⟨rfl, rfl⟩) (stops_dw h) (by (try simp only [List.length_cons]); omega) (stops_peek h) (.inl ⟨rfl, rfl, rfl⟩) (by decide) (stops_exp h) (take_word [53] rr) (by (try simp only [List.length_cons]); omega) decF_12
theorem numF_13 {rr : List Nat} (h : stops rr) : NumF (54 :: rr) rr (6) 1 :=
  .mk (w0 := [54]) (r1 := 54 :: rr) (r2 := rr) (r3 := rr) (n := 1) (nn := 1) (b1 := false) (b2 := false)
    (by exact (by decide +kernel : ((Str.ofString "+" == (⟨#[54]⟩ : Str)) || (Str.ofString "-" == ⟨#[54]⟩)) = false)) (.inl ⟨rfl, rfl⟩) (stops_dw h) (by (try simp only [List.length_cons]); omega) (stops_peek h) (.inl ⟨rfl, rfl, rfl⟩) (by decide) (stops_exp h) (take_word [54] rr) (by (try simp only [List.length_cons]); omega) decF_13
end
theorem off_groupd : True := by
  w_top off
  k_with_none
  trivial
section
def Few (n : Int) : Prop := 0 ≤ n ∧ n < 9
theorem in_twoI {w : World} {prog : Program} {A : Around} {E : Value → Shared → Prop} {s : Shared} {Q : Value → Shared → Prop} {l : Addr} {x a b : Int} {t ta tb : Tok} {v : Bool} (hl : s.heap.get? l = some { cls := .type "tuple", data := .seq [Value.int a ta, .int b tb].toArray }) (hb : (a == x || b == x) = v) (h : Q (.bool v) s) :
    wpAny (model prog w) A (compareOp .In (.int x t) (.ref l)) Q E s :=
  in_tuple_ints (ns := [a, b]) ⟨_, hl, rfl, _, rfl⟩ (.cons _ _ (.cons _ _ .nil)) (by
    have e : ([a, b].any (· == x)) = v := by rw [← hb]; simp
    rw [e]; exact h)
inductive Item (fl : Bool) (r : List Nat) (d : Dat) (r2 : List Nat) : Prop
  | num (a b : Int) : fl = false → NumF r r2 a b → d = .tuple [.int a, .int b] → Item fl r d r2
  | flag (v : Int) : fl = true → flagR r = some (v, r2) → d = .int v → Item fl r d r2
inductive NoItem (fl : Bool) (r : List Nat) : Prop
  | num : fl = false → BadF r → NoItem fl r
  | flag : fl = true → flagR r = none → NoItem fl r
noncomputable def sepAt (i : Nat) (r : List Nat) : List Nat := if i = 0 then r else (sepOf r).2
noncomputable def flAt (arc : Bool) (i : Nat) : Bool := arc && (i == 3 || i == 4)
inductive GAny (arc : Bool) : Nat → Nat → List Nat → Option (List Dat) → List Nat → Prop
  | nil {i : Nat} {r : List Nat} : GAny arc 0 i r (some []) r
  | here {i k : Nat} {r : List Nat} : NoItem (flAt arc i) (sepAt i r) → GAny arc (k + 1) i r none (sepAt i r)
  | next {i k : Nat} {r r1 r2 : List Nat} {d : Dat} {o : Option (List Dat)} : Item (flAt arc i) (sepAt i r) d r1 → GAny arc k (i + 1) r1 o r2 → GAny arc (k + 1) i r (o.map (d :: ·)) r2
theorem tup_is {w : World} {prog : Program} {A : Around} {E : Value → Shared → Prop} {s : Shared} {Q : Value → Shared → Prop} {news : Led} {l : Addr} {vs : List Value} {nn : Nat} (F : Fr h₀ L s.heap m) (N : News h₀ L s.heap news) (hm : (l, W.listOf vs.toArray nn) ∈ news) (hsz : vs.length < 1000)
    (h : ∀ d h', Fr h₀ L h' m → News h₀ L h' ((d, tupO vs) :: news) → (∀ q ∈ news, q.1 < d) → Q (.ref d) { s with heap := h' }) : wpAny (model prog w) A (call (.type "tuple") [.ref l]) Q E s :=
  call_tuple_list (items := vs.toArray) ⟨_, N.get hm, rfl, _, rfl⟩ (fun h' hk => h _ _ ((F.grownK hk).push _) (News.push (F.grownK hk) (N.grown hk) _) fun q hq => Heap.lt_size ((N.grown hk) q hq).1) (by rw [PySem.sizeLine_eq]; simp; omega)
theorem sep_g {r2 : List Nat}
  (B : Below A₀ base outer h₀) (F : Fr h₀ L s.heap m) (X : (hd.heap_1 w.params).In h₀)
  (N : News h₀ L s.heap ((x, instObj 272 dx) :: (dx, scD h1 h2 k1 k2 t1 t2 T p) :: rest))
  (Tp : Top view theLoose mean mg mb h₀) (hk : cs.kind = .function)
  (hdp : dp + 4 < recursionLimit) (hun : un + 32 < cLine)
  (hxd : x ≠ dx) (hrest : ∀ q ∈ rest, q.1 ≠ dx) (hA : At T p r) (hS : (sepOf r).2 = r2)
  (hret : ∀ (b : Bool) (p' : Int) (t2' : Tok) (h' : Heap) (tk' : Nat), At T p' r2 → Fr h₀ L h' m → News h₀ L h' ((x, instObj 272 dx) :: (dx, scD h1 h2 k1 k2 t1 t2' T p') :: rest) → Q (.bool b) { s with heap := h', toks := tk' }) :
  wpAny (model prog w) (ktrTop dp un gd cn cs L a ccd cl outer) (call (.ref 227) [.ref x]) Q E s := sep_spec B F X N Tp hk hdp hun hxd hrest hA (b := (sepOf r).1) (r2 := r2) (by rw [← hS]) (hret _)
theorem range_rest {A : Around} {env : Env} {y : Str} {body : List Stmt} {QF : Flow → Shared → Prop} {I : Addr} {a : Int} {n : Nat} (J : Nat → Nat → (Str → Option Value) → Led → Prop)
    (done : ∀ i m news h tk, J 0 i m news → Fr h₀ env.locals h m → News h₀ env.locals h news → QF .next { s with heap := h, toks := tk })
    (turn : ∀ k i m news t h tk, i + (k + 1) = n → J (k + 1) i m news → Fr h₀ env.locals h (fun z => if z = y then some (.int (a + (i : Int)) t) else m z) →
      News h₀ env.locals h ((I, itR (a + ((i + 1 : Nat) : Int)) ((n : Int) - ((i + 1 : Nat) : Int))) :: news) →
      wpAny (model prog w) A (execs body env) (UnrPost h₀ env.locals { s with heap := h, toks := tk } I (itR (a + ((i + 1 : Nat) : Int)) ((n : Int) - ((i + 1 : Nat) : Int))) (J k (i + 1)) QF) E { s with heap := h, toks := tk }) :
    ∀ k i m news, i + k = n → J k i m news → RangeRest prog w A E h₀ env y body QF s I a n k i m news
  | 0, i, m, news, _, hJ => RangeRest.zero fun h tk F N => done i m news h tk hJ F N
  | k + 1, i, m, news, hi, hJ => RangeRest.succ fun t h tk F N => wpAny_mono (turn k i m news t h tk hi hJ F N) (fun f s₂ p => by
      cases f with
      | next =>
        obtain ⟨h', tk', m', news', e, F', N', ho, hJ'⟩ := p
        exact ⟨h', tk', m', news', e, F', N', ho, range_rest J done turn k (i + 1) m' news' (by omega) hJ'⟩
      | cont =>
        obtain ⟨h', tk', m', news', e, F', N', ho, hJ'⟩ := p
        exact ⟨h', tk', m', news', e, F', N', ho, range_rest J done turn k (i + 1) m' news' (by omega) hJ'⟩
      | brk => exact p
      | ret v => exact p) fun _ _ e => e

def GJ (I x dx : Addr) (h1 h2 : Int) (k1 k2 t1 : Tok) (T : Str) (c : Nat) (arc : Bool) (kk : Nat) (o : Option (List Dat)) (r2 : List Nat) (rest : Led) (k i : Nat) (m' : Str → Option Value) (n' : Led) : Prop :=
  ∃ (l : Addr) (p1 : Int) (t1' tc : Tok) (r1 : List Nat) (vs : List Value) (dsd : List Dat) (extra : Led) (o1 : Option (List Dat)), n' = (l, W.listOf vs.toArray i) :: (x, instObj 272 dx) :: (dx, scD h1 h2 k1 k2 t1 t1' T p1) :: (extra ++ rest) ∧ vs.length = i ∧ i + k = kk ∧ DatAll extra vs dsd ∧ At T p1 r1 ∧
    GAny arc k i r1 o1 r2 ∧ o = o1.map (dsd ++ ·) ∧ (x < l ∧ dx < l ∧ ∀ b ∈ rest, b.1 < l) ∧ (∀ q ∈ extra, x < q.1 ∧ dx < q.1 ∧ ∀ b ∈ rest, b.1 < q.1) ∧ (∀ q ∈ extra, l < q.1) ∧ (∀ q ∈ n', q.1 ≠ I) ∧ m' (Str.ofString "scanner") = some (.ref x) ∧ m' (Str.ofString "letter") = some (.str ⟨#[c]⟩ tc) ∧ m' (Str.ofString "found") = some (.ref l)
section
variable {g : Heap} {L' : Addr} {I l d : Addr} {it : Obj} {p9 : Int} {t9 tc : Tok} {c kk k i : Nat} {arc : Bool} {o o2 : Option (List Dat)} {r1 r2 : List Nat} {extra : Led} {vs : List Value} {dsd : List Dat} {s' : Shared} {h' : Heap} {tk' : Nat} {m' : Str → Option Value} {QF : Flow → Shared → Prop}
theorem perm_num {A X D I l : Addr × Obj} {extra rest : Led} {q : Addr × Obj} (h : q ∈ I :: l :: X :: D :: ((A :: extra) ++ rest)) : q ∈ A :: X :: D :: I :: l :: (extra ++ rest) := by
  simp only [List.mem_cons, List.mem_append, List.cons_append] at h ⊢
  rcases h with h | h | h | h | h | h | h <;> simp [h]
theorem perm_flag {X D I l : Addr × Obj} {extra rest : Led} {q : Addr × Obj} (h : q ∈ I :: l :: X :: D :: (extra ++ rest)) : q ∈ X :: D :: I :: l :: (extra ++ rest) := by
  simp only [List.mem_cons, List.mem_append] at h ⊢
  rcases h with h | h | h | h | h | h <;> simp [h]
theorem fin_num {a b : Int} {ta tb : Tok} (F : Fr g L' h' m') (N : News g L' h' ((d, tupO [.int a ta, .int b tb]) :: (x, instObj 272 dx) :: (dx, scD h1 h2 k1 k2 t1 t9 T p9) :: (I, it) :: (l, W.listOf (vs.toArray.push (.ref d)) (i + 1)) :: (extra ++ rest)))
    (l9 : ∀ q ∈ (x, instObj 272 dx) :: (dx, scD h1 h2 k1 k2 t1 t9 T p9) :: (I, it) :: (l, W.listOf vs.toArray i) :: (extra ++ rest), q.1 < d) (hvl : vs.length = i) (hik : i + (k + 1) = kk) (hvs : DatAll extra vs dsd) (hA : At T p9 r1) (hG : GAny arc k (i + 1) r1 o2 r2)
    (ho : o = (o2.map (Dat.tuple [.int a, .int b] :: ·)).map (dsd ++ ·)) (hl : x < l ∧ dx < l ∧ ∀ b ∈ rest, b.1 < l) (hfr : ∀ q ∈ extra, x < q.1 ∧ dx < q.1 ∧ ∀ b ∈ rest, b.1 < q.1) (hfl : ∀ q ∈ extra, l < q.1) (hxI : x ≠ I) (hdI : dx ≠ I) (hlI : l ≠ I) (hrI : ∀ q ∈ extra ++ rest, q.1 ≠ I)
    (m1 : m' (Str.ofString "scanner") = some (.ref x)) (m2 : m' (Str.ofString "letter") = some (.str ⟨#[c]⟩ tc)) (m3 : m' (Str.ofString "found") = some (.ref l)) :
    UnrPost g L' s' I it (GJ I x dx h1 h2 k1 k2 t1 T c arc kk o r2 rest k (i + 1)) QF .next { s' with heap := h', toks := tk' } := by
  have hdn : ∀ q ∈ (d, tupO [.int a ta, .int b tb]) :: extra, x < q.1 ∧ dx < q.1 ∧ ∀ b ∈ rest, b.1 < q.1 := by
    intro q hq
    rcases List.mem_cons.mp hq with rfl | hq
    · exact ⟨l9 _ (.head _), l9 _ (.tail _ (.head _)), fun b hb => l9 b (.tail _ (.tail _ (.tail _ (.tail _ (List.mem_append_right _ hb)))))⟩
    · exact hfr q hq
  have hId : I < d := l9 _ (.tail _ (.tail _ (.head _)))
  have eL : W.listOf (vs.toArray.push (.ref d)) (i + 1) = W.listOf (vs ++ [Value.ref d]).toArray (i + 1) := by simp
  rw [eL] at N
  have hoff : ∀ q ∈ (l, W.listOf (vs ++ [Value.ref d]).toArray (i + 1)) :: (x, instObj 272 dx) :: (dx, scD h1 h2 k1 k2 t1 t9 T p9) :: (((d, tupO [.int a ta, .int b tb]) :: extra) ++ rest), q.1 ≠ I := by
    intro q hq
    rcases List.mem_cons.mp hq with rfl | hq
    · exact hlI
    rcases List.mem_cons.mp hq with rfl | hq
    · exact hxI
    rcases List.mem_cons.mp hq with rfl | hq
    · exact hdI
    rcases List.mem_cons.mp hq with rfl | hq
    · exact Nat.ne_of_gt hId
    · exact hrI q hq
  refine ⟨h', tk', m', (l, W.listOf (vs ++ [Value.ref d]).toArray (i + 1)) :: (x, instObj 272 dx) :: (dx, scD h1 h2 k1 k2 t1 t9 T p9) :: (((d, tupO [.int a ta, .int b tb]) :: extra) ++ rest), rfl, F, fun q hq => N q (perm_num hq), hoff, ?_⟩
  exact ⟨l, p9, t9, tc, r1, _, dsd ++ [.tuple [.int a, .int b]], _, o2, rfl, by simp [hvl], by omega, DatAll.append (DatAll.mono (fun q hq => .tail _ hq) hvs) (.one (.tuple (.head _) (.cons (.int _ _) (.cons (.int _ _) .nil)))), hA, hG, by rw [ho]; cases o2 <;> simp, hl, hdn, (fun q hq => by
    rcases List.mem_cons.mp hq with rfl | hq
    · exact l9 _ (.tail _ (.tail _ (.tail _ (.head _))))
    · exact hfl q hq), hoff, m1, m2, m3⟩
theorem fin_flag {v : Int} {tv : Tok} (F : Fr g L' h' m') (N : News g L' h' ((x, instObj 272 dx) :: (dx, scD h1 h2 k1 k2 t1 t9 T p9) :: (I, it) :: (l, W.listOf (vs.toArray.push (.int v tv)) (i + 1)) :: (extra ++ rest)))
    (hvl : vs.length = i) (hik : i + (k + 1) = kk) (hvs : DatAll extra vs dsd) (hA : At T p9 r1) (hG : GAny arc k (i + 1) r1 o2 r2)
    (ho : o = (o2.map (Dat.int v :: ·)).map (dsd ++ ·)) (hl : x < l ∧ dx < l ∧ ∀ b ∈ rest, b.1 < l) (hfr : ∀ q ∈ extra, x < q.1 ∧ dx < q.1 ∧ ∀ b ∈ rest, b.1 < q.1) (hfl : ∀ q ∈ extra, l < q.1) (hxI : x ≠ I) (hdI : dx ≠ I) (hlI : l ≠ I) (hrI : ∀ q ∈ extra ++ rest, q.1 ≠ I)
    (m1 : m' (Str.ofString "scanner") = some (.ref x)) (m2 : m' (Str.ofString "letter") = some (.str ⟨#[c]⟩ tc)) (m3 : m' (Str.ofString "found") = some (.ref l)) :
    UnrPost g L' s' I it (GJ I x dx h1 h2 k1 k2 t1 T c arc kk o r2 rest k (i + 1)) QF .next { s' with heap := h', toks := tk' } := by
  have eL : W.listOf (vs.toArray.push (.int v tv)) (i + 1) = W.listOf (vs ++ [Value.int v tv]).toArray (i + 1) := by simp
  rw [eL] at N
  have hoff : ∀ q ∈ (l, W.listOf (vs ++ [Value.int v tv]).toArray (i + 1)) :: (x, instObj 272 dx) :: (dx, scD h1 h2 k1 k2 t1 t9 T p9) :: (extra ++ rest), q.1 ≠ I := by
    intro q hq
    rcases List.mem_cons.mp hq with rfl | hq
    · exact hlI
    rcases List.mem_cons.mp hq with rfl | hq
    · exact hxI
    rcases List.mem_cons.mp hq with rfl | hq
    · exact hdI
    · exact hrI q hq
  refine ⟨h', tk', m', (l, W.listOf (vs ++ [Value.int v tv]).toArray (i + 1)) :: (x, instObj 272 dx) :: (dx, scD h1 h2 k1 k2 t1 t9 T p9) :: (extra ++ rest), rfl, F, fun q hq => N q (perm_flag hq), hoff, ?_⟩
  exact ⟨l, p9, t9, tc, r1, _, dsd ++ [.int v], _, o2, rfl, by simp [hvl], by omega, DatAll.append hvs (.one (.int _ _)), hA, hG, by rw [ho]; cases o2 <;> simp, hl, hfr, hfl, hoff, m1, m2, m3⟩
end
end
theorem off_group : True := by
  w_top off
  k_with_none
  trivial
section
theorem kw_group_1 : True := by
  k_with "ne" => (refine neN ?_; (try dsimp only); first | assumption | exact Ne.symm (by assumption) | exact Nat.ne_of_gt (by assumption) | exact Nat.ne_of_lt (by assumption) | exact lt_1 (by assumption) (by k_mem) | exact lt_2 (by assumption) (by k_mem) | exact Nat.ne_of_gt (And.left (by assumption)) | exact Nat.ne_of_lt (And.left (by assumption)) | exact Nat.ne_of_gt (And.left (And.right (by assumption))) | exact Nat.ne_of_lt (And.left (And.right (by assumption))) | exact Nat.ne_of_gt (And.left (And.right (And.right (by assumption)))) | exact Nat.ne_of_lt (And.left (And.right (And.right (by assumption)))) | exact Nat.ne_of_gt (And.left (And.right (And.right (And.right (by assumption))))) | exact Nat.ne_of_lt (And.left (And.right (And.right (And.right (by assumption))))) | exact Nat.ne_of_gt (And.left (And.right (And.right (And.right (And.right (by assumption)))))) | exact Nat.ne_of_lt (And.left (And.right (And.right (And.right (And.right (by assumption)))))) | exact Nat.ne_of_gt (And.left (And.right (And.right (And.right (And.right (And.right (by assumption))))))) | exact Nat.ne_of_lt (And.left (And.right (And.right (And.right (And.right (And.right (by assumption))))))))
  k_with "newTuple" => (k_here; k_dflt (refine' kup_newTuple ?F ?N ?_ ?z; (case F => k_asm); (case N => k_asm); (case z => kmk_size)); intro D9 h9 F9 N9 u9; (try k_sweep))
  k_with "newList" => (k_here; k_dflt (refine' newList_K ?k1 ?k2 ?_; (case k1 => k_asm); (case k2 => k_asm); k_whole); intro D9 h9 F9 N9 u9; (try k_sweep))
  k_with "execs cons" => (k_here; refine wpAny_execs_cons ?_; k_fold)
  k_with "eval Tuple" => (k_here; k_fold)
  k_with "eval List" => (k_here; k_fold)
  k_with "eval Call Attribute" => (k_here; k_fold)
  k_with "eval Call" => (k_here; k_fold)
  k_with "exec While BoolOp cons nil" => refine Halt.out ?_
  k_with "exec While Compare cons nil" => refine Halt.out ?_
  k_with "exec While Call cons nil" => refine Halt.out ?_
  k_with "eval Name" => (k_here; k_dflt (refine' ld ?k1 ?k2 ?_; (case k1 => k_asm); (case k2 => first | exact rfl | assumption); k_whole))
  k_with "call builtin:len" => (k_here; first | (refine len_is (by assumption) (by omega) ?_; intro _ _) | (refine PySem.P.len_str (by have h9 := (‹At _ _ _›).small; omega) ?_))
  k_with "subscriptTail" => (k_here; (with_reducible show wpAny _ _ (subscriptTail _ _ (Value.str _ _) (Value.int _ _)) _ _ _); k_dflt (refine' item_at ?k1 ?_ ?k2 ?k3; (case k1 => assumption); (case k2 => with_unfolding_all rfl); (case k3 => intro _; with_unfolding_all rfl)); intro _ _)
  k_with "binaryOp Add int int" => (k_here; refine addI ?_; intro _ _)
  k_with "binaryOp Sub int int" => (k_here; refine subI ?_; intro _ _)
  k_with "compareOp In str str" => (k_here; refine in_is (by assumption) ?_)
  k_with "compareOp NotIn str str" => (k_here; refine notin_is (by assumption) ?_)
  k_with "compareOp Eq str str" => (k_here; refine eqs_is (by assumption) ?_)
  k_with "compareOp NotEq str str" => (k_here; refine nes_is (by assumption) ?_)
  k_with "binaryOp FloorDiv int int" => (k_here; refine fdivI (by omega) (by omega) ?_; intro _ _)
  k_with "binaryOp Mod int int" => (k_here; refine fmodI (by omega) ?_; intro _ _)
  k_with "compareOp Eq int int" => (k_here; refine eqi_is (by assumption) ?_)
  k_with "compareOp In str ref" => (k_here; k_dflt (refine' in_two ?k1 ?k2 ?_; (case k1 => exact (News.get (by k_asm) (by k_mem))); (case k2 => assumption)))
  k_with "compareOp NotIn str ref" => (k_here; k_dflt (refine' notin_two ?k1 ?k2 ?_; (case k1 => exact (News.get (by k_asm) (by k_mem))); (case k2 => assumption)))
  k_with "subscriptTail Name Slice str ref" => (k_here; (with_reducible show wpAny _ _ (subscriptTail _ (Expr.Slice (some _) (some _) none _) _ _) _ _ _); (with_reducible rename Fr _ _ _ _ => F'); (with_reducible rename News _ _ _ _ => N'); (refine slice_strN_ss (hsz := ?hsz) (s := ⟨_, _, _, _, _⟩) F' N' ?_); (case hsz => (have h9 := (‹At _ _ _›).small; rw [PySem.sizeLine_eq]; omega)); intro _ _ _ _ _; (try k_sweep))
  k_with "subscriptTail Attribute Slice str ref" => (k_here; (with_reducible show wpAny _ _ (subscriptTail _ (Expr.Slice (some _) (some _) none _) _ _) _ _ _); (with_reducible rename Fr _ _ _ _ => F'); (with_reducible rename News _ _ _ _ => N'); (refine slice_strN_ss (hsz := ?hsz) (s := ⟨_, _, _, _, _⟩) F' N' ?_); (case hsz => (have h9 := (‹At _ _ _›).small; rw [PySem.sizeLine_eq]; omega)); intro _ _ _ _ _; (try k_sweep))
  k_with "call ref" => (k_here; (with_reducible show wpAny _ _ (call (Value.ref 21) _) _ _ _); k_dflt (refine' many_spec ?k1 ?k2 ?k3 ?k4 ?k5 ?kK ?kd ?ku ?x0 ?x1 ?_; (case k1 => k_asm); (case k2 => k_asm); (case k3 => k_asm); (case k4 => k_asm); (case k5 => k_asm); (case kK => first | exact rfl | assumption); (case kd => (first | exact rm2 (by assumption) (by exact rfl) | exact rm1 (by assumption) (by exact rfl) | exact rm3 (by assumption) (by exact rfl) | exact rm0 (by assumption) | ktr_room)); (case ku => (first | exact rm2 (by assumption) (by exact rfl) | exact rm1 (by assumption) (by exact rfl) | exact rm3 (by assumption) (by exact rfl) | exact rm0 (by assumption) | ktr_units)); (case x0 => assumption); (case x1 => assumption); k_whole); intro t9 h9 tk9 F9 N9; (try k_sweep))
  k_with "exec For Name Call cons nil" => (k_here; (with_reducible show wpAny _ _ (exec (Stmt.For _ _ _ [] _) _) _ _ _); (rename Fr _ _ _ _ => lF'); (with_unfolding_all refine' For_invVF lF' ?k1 ?k2 ?_; (case k1 => exact rfl); (case k2 => exact rfl); k_whole))
  k_with "pyIter ref" => refine Halt.out ?_
  k_with "exec If" => (k_here; (with_reducible rename Stop 1 => stop9); clear stop9; refine Halt.out ?_)
  k_with "isTrue BoolOp" => (k_here; (with_reducible rename Stop 3 => stop9); clear stop9; refine Halt.out ?_)
  k_with "compareOp In int ref" => (k_here; k_dflt (refine' in_twoI ?k1 ?k2 ?_; (case k1 => exact (News.get (by k_asm) (by k_mem))); (case k2 => assumption)))
  k_with "compareOp Gt int int" => (k_here; refine gt_is (by assumption) ?_)
  k_with "call builtin:list.append" => (k_here; (with_reducible show wpAny _ _ (call (Value.builtin _) [Value.ref _, _]) _ _ _); k_dflt (refine' append_K ?k1 ?k2 ?k3 ?_ ?z; (case k1 => k_asm); (case k2 => k_asm); (case k3 => k_upd); (case z => (rw [PySem.sizeLine_eq]; omega)); k_whole); intro h' F' N'; (try k_sweep))
  k_with "call ref" => (k_here; (with_reducible show wpAny _ _ (call (Value.ref 227) _) _ _ _); k_dflt (refine' sep_g ?k1 ?k2 ?k3 ?k4 ?k5 ?kK ?kd ?ku ?x0 ?x1 ?x2 ?x3 ?_; (case k1 => k_asm); (case k2 => k_asm); (case k3 => k_asm); (case k4 => first | k_asm | exact News.rot1 (by k_asm) | exact News.rot2 (by k_asm) | exact News.rot3 (by k_asm)); (case k5 => k_asm); (case kK => first | exact rfl | assumption); (case kd => (first | exact rm2 (by assumption) (by exact rfl) | exact rm1 (by assumption) (by exact rfl) | exact rm3 (by assumption) (by exact rfl) | exact rm0 (by assumption) | ktr_room)); (case ku => (first | exact rm2 (by assumption) (by exact rfl) | exact rm1 (by assumption) (by exact rfl) | exact rm3 (by assumption) (by exact rfl) | exact rm0 (by assumption) | ktr_units)); (case x0 => first | assumption | k_ne); (case x1 => k_all); (case x2 => first | assumption | exact At.next (by assumption) | exact At.back (by assumption) | exact At.next (At.next (by assumption))); (case x3 => assumption); k_whole); intro b9 p9 t9 h9 tk9 A9 F9 N9; (try k_sweep))
  k_with "call ref" => (k_here; (with_reducible show wpAny _ _ (call (Value.ref 255) _) _ _ _); k_dflt (refine' num_f ?k1 ?k2 ?k3 ?k4 ?k5 ?kK ?kd ?ku ?x0 ?x1 ?x2 ?x3 ?_; (case k1 => k_asm); (case k2 => k_asm); (case k3 => k_asm); (case k4 => first | k_asm | exact News.rot1 (by k_asm) | exact News.rot2 (by k_asm) | exact News.rot3 (by k_asm)); (case k5 => k_asm); (case kK => first | exact rfl | assumption); (case kd => (first | exact rm2 (by assumption) (by exact rfl) | exact rm1 (by assumption) (by exact rfl) | exact rm3 (by assumption) (by exact rfl) | exact rm0 (by assumption) | ktr_room)); (case ku => (first | exact rm2 (by assumption) (by exact rfl) | exact rm1 (by assumption) (by exact rfl) | exact rm3 (by assumption) (by exact rfl) | exact rm0 (by assumption) | ktr_units)); (case x0 => first | assumption | k_ne); (case x1 => k_all); (case x2 => first | assumption | exact At.next (by assumption) | exact At.back (by assumption) | exact At.next (At.next (by assumption))); (case x3 => assumption); k_whole); intro d9 ta9 tb9 p9 t9 h9 tk9 A9 F9 N9 l9; (have m9 := Nat.ne_of_gt (l9 _ (.tail _ (.tail _ (.tail _ (.head _)))))); (try dsimp only at m9); (try k_sweep))
  k_with "call ref" => (k_here; (with_reducible show wpAny _ _ (call (Value.ref 255) _) _ _ _); k_dflt (refine' num_bad ?k1 ?k2 ?k3 ?k4 ?k5 ?kK ?kd ?ku ?x0 ?x1 ?x2 ?x3 ?_; (case k1 => k_asm); (case k2 => k_asm); (case k3 => k_asm); (case k4 => first | k_asm | exact News.rot1 (by k_asm) | exact News.rot2 (by k_asm) | exact News.rot3 (by k_asm)); (case k5 => k_asm); (case kK => first | exact rfl | assumption); (case kd => (first | exact rm2 (by assumption) (by exact rfl) | exact rm1 (by assumption) (by exact rfl) | exact rm3 (by assumption) (by exact rfl) | exact rm0 (by assumption) | ktr_room)); (case ku => (first | exact rm2 (by assumption) (by exact rfl) | exact rm1 (by assumption) (by exact rfl) | exact rm3 (by assumption) (by exact rfl) | exact rm0 (by assumption) | ktr_units)); (case x0 => first | assumption | k_ne); (case x1 => k_all); (case x2 => first | assumption | exact At.next (by assumption) | exact At.back (by assumption) | exact At.next (At.next (by assumption))); (case x3 => assumption); k_whole); intro e9 t9 h9 tk9 R9; (try k_sweep))
  k_with "call ref" => (k_here; (with_reducible show wpAny _ _ (call (Value.ref 262) _) _ _ _); k_dflt (refine' flag_ok ?k1 ?k2 ?k3 ?k4 ?k5 ?kK ?kd ?ku ?x0 ?x1 ?x2 ?x3 ?_; (case k1 => k_asm); (case k2 => k_asm); (case k3 => k_asm); (case k4 => first | k_asm | exact News.rot1 (by k_asm) | exact News.rot2 (by k_asm) | exact News.rot3 (by k_asm)); (case k5 => k_asm); (case kK => first | exact rfl | assumption); (case kd => (first | exact rm2 (by assumption) (by exact rfl) | exact rm1 (by assumption) (by exact rfl) | exact rm3 (by assumption) (by exact rfl) | exact rm0 (by assumption) | ktr_room)); (case ku => (first | exact rm2 (by assumption) (by exact rfl) | exact rm1 (by assumption) (by exact rfl) | exact rm3 (by assumption) (by exact rfl) | exact rm0 (by assumption) | ktr_units)); (case x0 => first | assumption | k_ne); (case x1 => k_all); (case x2 => first | assumption | exact At.next (by assumption) | exact At.back (by assumption) | exact At.next (At.next (by assumption))); (case x3 => assumption); k_whole); intro p9 t9 t8 h9 tk9 A9 F9 N9; (try k_sweep))
  k_with "call ref" => (k_here; (with_reducible show wpAny _ _ (call (Value.ref 262) _) _ _ _); k_dflt (refine' flag_bad ?k1 ?k2 ?k3 ?k4 ?k5 ?kK ?kd ?ku ?x0 ?x1 ?_; (case k1 => k_asm); (case k2 => k_asm); (case k3 => k_asm); (case k4 => first | k_asm | exact News.rot1 (by k_asm) | exact News.rot2 (by k_asm) | exact News.rot3 (by k_asm)); (case k5 => k_asm); (case kK => first | exact rfl | assumption); (case kd => (first | exact rm2 (by assumption) (by exact rfl) | exact rm1 (by assumption) (by exact rfl) | exact rm3 (by assumption) (by exact rfl) | exact rm0 (by assumption) | ktr_room)); (case ku => (first | exact rm2 (by assumption) (by exact rfl) | exact rm1 (by assumption) (by exact rfl) | exact rm3 (by assumption) (by exact rfl) | exact rm0 (by assumption) | ktr_units)); (case x0 => first | assumption | exact At.next (by assumption) | exact At.back (by assumption) | exact At.next (At.next (by assumption))); (case x1 => assumption); k_whole); intro e9 h9 tk9 R9; (try k_sweep))
  k_with "leaving ref" => (k_here; (refine gone_on (by assumption) (by assumption) ?_); intro h9 G9; (try dsimp only))
  k_with "call type:tuple" => (k_here; (with_reducible show wpAny _ _ (call (Value.type _) [Value.ref _]) _ _ _); k_dflt (refine' tup_is ?k1 ?k2 ?k3 ?k4 ?_; (case k1 => k_asm); (case k2 => k_asm); (case k3 => first | exact .head _ | exact .tail _ (.head _)); (case k4 => omega); k_whole); intro d9 h9 F9 N9 l9; (try k_sweep))
  trivial
theorem range_small {n : Int} (h : Few n) : Builtin.Range.small 0 n 1 = true := few9 (P := fun n => Builtin.Range.small 0 n 1 = true) (by decide +kernel) h
theorem range_size {n : Int} (h : Few n) : Builtin.Range.rangeSize 0 n 1 = n := few9 (P := fun n => Builtin.Range.rangeSize 0 n 1 = n) (by decide +kernel) h
theorem allLt_get {d : Addr} : ∀ {l : Led}, AllLt d l → ∀ {q : Addr × Obj}, q ∈ l → q.1 < d
  | [], _, _, h => nomatch h
  | _ :: _, ⟨h1, h2⟩, _, h => by
    rcases List.mem_cons.mp h with rfl | h
    · exact h1
    · exact allLt_get h2 h
theorem rot_i {h : Heap} {a b X D : Addr × Obj} {rest : Led} (N : News h₀ L h (a :: b :: X :: D :: rest)) : News h₀ L h (X :: D :: a :: b :: rest) := News.rot2 N
theorem group_spec {c u : Nat} {n : Int} {kk : Nat} {ts : Tok} {arc : Bool} {o : Option (List Dat)} {r2 : List Nat}
  (B : Below A₀ base outer h₀) (F : Fr h₀ L s.heap m) (X : (hd.heap_1 w.params).In h₀)
  (N : News h₀ L s.heap ((x, instObj 272 dx) :: (dx, scD h1 h2 k1 k2 t1 t2 T p) :: rest))
  (Tp : Top view theLoose mean mg mb h₀) (hk : cs.kind = .function)
  (hdp : dp + 40 < recursionLimit) (hun : un + 320 < cLine)
 (hxd : x ≠ dx) (hrest : ∀ q ∈ rest, q.1 ≠ dx) (hA : At T p r) (e1 : Txt.upper ⟨#[c]⟩ = ⟨#[u]⟩) (e2 : PySem.Spec.lookup (.str ⟨#[u]⟩) [(PyData.str (Str.ofString "M"), PyData.int 2), (PyData.str (Str.ofString "L"), PyData.int 2), (PyData.str (Str.ofString "H"), PyData.int 1), (PyData.str (Str.ofString "V"), PyData.int 1), (PyData.str (Str.ofString "C"), PyData.int 6), (PyData.str (Str.ofString "S"), PyData.int 4), (PyData.str (Str.ofString "Q"), PyData.int 4), (PyData.str (Str.ofString "T"), PyData.int 2), (PyData.str (Str.ofString "A"), PyData.int 7), (PyData.str (Str.ofString "Z"), PyData.int 0)] = some (.int n)) (hn : (kk : Int) = n) (hk9 : Few n)
  (e3 : Txt.contains (Str.ofString "Aa") ⟨#[c]⟩ = arc) (hG : GAny arc kk 0 r o r2)
  (hret : ∀ (d : Addr) (ds : List Dat) (vs : List Value) (nn : Nat) (new : Led) (p' : Int) (t2' : Tok) (h' : Heap) (tk' : Nat), o = some ds → At T p' r2 → Fr h₀ L h' m → News h₀ L h' ((x, instObj 272 dx) :: (dx, scD h1 h2 k1 k2 t1 t2' T p') :: (d, ⟨.type "tuple", none, .seq vs.toArray nn, #[]⟩) :: (new ++ rest)) → DatAll new vs ds →
    (∀ q ∈ (d, (⟨.type "tuple", none, .seq vs.toArray nn, #[]⟩ : Obj)) :: new, x < q.1 ∧ dx < q.1 ∧ ∀ b ∈ rest, b.1 < q.1) → Q (.ref d) { s with heap := h', toks := tk' })
  (hE : ∀ (p' : Int) (t2' : Tok) (e : Addr) (h' : Heap) (tk' : Nat), o = none → At T p' r2 → Thrown base h₀ L m (envX cn cs L a ccd cl :: outer) e p' ((x, instObj 272 dx) :: (dx, scD h1 h2 k1 k2 t1 t2' T p') :: rest) h' → E (.ref e) { s with heap := h', toks := tk' }) :
  wpAny (model prog w) (ktrTop dp un gd cn cs L a ccd cl outer) (call (.ref 35) [.ref x, .str ⟨#[c]⟩ ts]) Q E s := by
  refine wpAny_call ?_
  k_dflt (refine' code_def (binds := [(Str.ofString "scanner", .ref x), (Str.ofString "letter", .str ⟨#[c]⟩ ts)]) ?k1 ?k2 ?k3 ?k4 ?k5 ?kA ?kF ?kK ?k6 ?k7 ?k8 ?k9 ?kB ?_ ?c2 ?c3 ?c4 ?c5; (case kA => exact rfl); (case kF => exact rfl); (case kK => assumption); (case k1 => k_asm); (case k2 => k_asm); (case k3 => k_asm); (case k4 => k_asm); (case k5 => k_asm); (case k6 => k_is); (case k7 => k_is); (case k8 => (first | exact rm2 (by assumption) (by exact rfl) | exact rm1 (by assumption) (by exact rfl) | exact rm3 (by assumption) (by exact rfl) | exact rm0 (by assumption) | ktr_room)); (case k9 => first | exact BindsTo.of_eq rfl | exact binds_K (by k_in) rfl (by k_is) rfl rfl rfl); (case c5 => decide); (case kB => exact locs rfl); (case c2 => exact rfl); (case c3 => exact rfl); (case c4 => exact rfl); k_whole; intro g L' h' FG F1 N1 B1 X1 T1; (try k_fold))
  replace F1 := fr_of2 F1
  k_steps
  refine Halt.mk ?_
  (with_reducible rename IsRange _ _ _ _ _ _ _ _ => R2)
  (with_reducible rename Fr g _ _ _ => F2)
  (rename News g _ _ ((_, W.listOf _ _) :: _) => N2)
  have hsm := range_small hk9
  have hrs : Builtin.Range.rangeSize 0 n 1 = (kk : Int) := by rw [range_size hk9]; exact hn.symm
  with_reducible show wpAny _ _ (pyIter (Value.ref _)) (fun it s₂ => LoopAtV _ _ _ _ _ _ _ _ _ it s₂) _ _
  refine iter_rangeUnr (n := kk) rfl R2 hsm hrs F2 N2 fun I hI => ?_
  refine range_rest (GJ I x dx h1 h2 k1 k2 t1 T c arc kk o r2 rest) ?_ ?_ kk 0 _ _ (by omega) ?_
  · rintro i m3 nx h3 tk3 ⟨l, p1, t1', tc, r1, vs, dsd, extra, o1, rfl, hvl, hik2, hvs, A1, hG1, ho1, ⟨hl1, hl2, hl3⟩, hfr, hfl, hoff, hm1, hm2, hm3⟩ F3 N3
    clear F2 N2
    have hk8 : vs.length < 9 := by have := hk9.2; omega
    k_steps
    (with_reducible rename News h₀ _ _ _ => N9)
    cases hG1
    exact hret _ dsd vs 0 extra p1 t1' _ _ (by rw [ho1]; simp) A1 (by assumption) (News.sub N9 fun q hq => by simp only [List.mem_cons, List.mem_append] at hq ⊢; rcases hq with h | h | h | h | h <;> simp [h]) hvs (fun q hq => by
      rcases List.mem_cons.mp hq with rfl | hq
      · have l9 := (by assumption : ∀ q ∈ (l, W.listOf vs.toArray i) :: _, q.1 < _)
        exact ⟨l9 _ (.tail _ (.head _)), l9 _ (.tail _ (.tail _ (.head _))), fun b hb => l9 b (.tail _ (.tail _ (.tail _ (List.mem_append_right _ hb))))⟩
      · exact hfr q hq)
  · rintro k i m3 nx t3 h3 tk3 hik ⟨l, p1, t1', tc, r1, vs, dsd, extra, o1, rfl, hvl, hik2, hvs, A1, hG1, ho1, ⟨hl1, hl2, hl3⟩, hfr, hfl, hoff, hm1, hm2, hm3⟩ F3 N3
    clear F2 N2
    have hk8 : vs.length < 9 := by have := hk9.2; omega
    have hdI : dx ≠ I := hoff _ (.tail _ (.tail _ (.head _)))
    have hrest2 : ∀ q ∈ (I, itR (0 + ((i + 1 : Nat) : Int)) ((kk : Int) - ((i + 1 : Nat) : Int))) :: (l, W.listOf vs.toArray i) :: (extra ++ rest), q.1 ≠ dx := by
      intro q hq
      rcases List.mem_cons.mp hq with rfl | hq
      · exact hdI.symm
      rcases List.mem_cons.mp hq with rfl | hq
      · exact Nat.ne_of_gt hl2
      rcases List.mem_append.mp hq with hq | hq
      · exact Nat.ne_of_gt (hfr q hq).2.1
      · exact hrest q hq
    have st1 : Stop 1 := trivial
    k_steps
    refine Halt.mk ?_
    refine cutX (fun m' n' => ∃ p2 t2', n' = (x, instObj 272 dx) :: (dx, scD h1 h2 k1 k2 t1 t2' T p2) :: (I, itR (0 + ((i + 1 : Nat) : Int)) ((kk : Int) - ((i + 1 : Nat) : Int))) :: (l, W.listOf vs.toArray i) :: (extra ++ rest) ∧ At T p2 (sepAt i r1) ∧ m' (Str.ofString "scanner") = some (.ref x) ∧ m' (Str.ofString "letter") = some (.str ⟨#[c]⟩ tc) ∧ m' (Str.ofString "found") = some (.ref l) ∧ ∃ t, m' (Str.ofString "place") = some (.int (0 + (i : Int)) t)) F3 ?_ ?_
    · rcases Nat.eq_zero_or_pos i with h0 | h0
      · subst h0
        have hgt : decide ((0 : Int) + ((0 : Nat) : Int) > 0) = false := by decide
        k_steps
        (with_reducible rename News g _ _ _ => N9)
        exact ⟨rfl, _, _, _, _, rfl, (by assumption), rot_i N9, _, _, rfl, A1, (by first | exact rfl | assumption), (by first | exact rfl | assumption), (by first | exact rfl | assumption), _, rfl⟩
      · have hgt : decide ((0 : Int) + (i : Int) > 0) = true := decide_eq_true (by omega)
        have hse : (sepOf r1).2 = sepAt i r1 := by rw [sepAt, if_neg (by omega)]
        k_steps
        (with_reducible rename News g _ _ _ => N9)
        exact ⟨rfl, _, _, _, _, rfl, (by assumption), N9, _, _, rfl, (by assumption), (by first | exact rfl | assumption), (by first | exact rfl | assumption), (by first | exact rfl | assumption), _, rfl⟩
    rintro m5 n5 h5 tk5 F5 N5 ⟨p5, t5, rfl, A5, m51, m52, m53, t6, m54⟩
    clear F3 N3
    have st3 : Stop 3 := trivial
    k_steps
    refine Halt.mk ?_
    have hpl : ((3 : Int) == 0 + (i : Int) || (4 : Int) == 0 + (i : Int)) = (i == 3 || i == 4) := by
      rw [Bool.eq_iff_iff]; simp; omega
    refine cutB (flAt arc i) F5 N5 ?_ ?_
    · cases arc
      · k_steps
        exact ⟨rfl, _, _, rfl, by assumption, by assumption⟩
      · k_steps
        all_goals exact ⟨by simp [flAt, *], _, _, rfl, by assumption, by first | assumption | exact News.tl (by assumption)⟩
    intro h6 tk6 F6 N6
    clear F5 N5
    have hlI : l ≠ I := hoff _ (.head _)
    have hxI : x ≠ I := hoff _ (.tail _ (.head _))
    have z1 : @LT.lt Nat _ x l := hl1
    have z2 : @LT.lt Nat _ dx l := hl2
    have z3 : @Ne Nat l I := hlI
    have hlr : ∀ q ∈ extra ++ rest, q.1 ≠ l := fun q hq => by
      rcases List.mem_append.mp hq with hq | hq
      · exact Nat.ne_of_gt (hfl q hq)
      · exact Nat.ne_of_lt (hl3 q hq)
    have hrI : ∀ q ∈ extra ++ rest, q.1 ≠ I := fun q hq => hoff _ (.tail _ (.tail _ (.tail _ hq)))
    cases hG1 with
    | here hno =>
      rcases hno with ⟨hf, hb⟩ | ⟨hf, hb⟩
      · rw [hf]
        k_steps
        exact hE _ _ _ _ _ (by rw [ho1]; rfl) A5 ⟨_, FG, Gone.mono (by assumption) (fun q hq => by
          rcases List.mem_cons.mp hq with rfl | hq
          · exact .head _
          rcases List.mem_cons.mp hq with rfl | hq
          · exact .tail _ (.head _)
          exact .tail _ (.tail _ (.tail _ (.tail _ (List.mem_append_right _ hq)))))⟩
      · rw [hf]
        k_steps
        exact hE _ _ _ _ _ (by rw [ho1]; rfl) A5 ⟨_, FG, Gone.mono (by assumption) (fun q hq => by
          rcases List.mem_cons.mp hq with rfl | hq
          · exact .head _
          rcases List.mem_cons.mp hq with rfl | hq
          · exact .tail _ (.head _)
          exact .tail _ (.tail _ (.tail _ (.tail _ (List.mem_append_right _ hq)))))⟩
    | next hit hG2 =>
      rcases hit with ⟨a', b', hf, hn', rfl⟩ | ⟨v, hf, hfg, rfl⟩
      · rw [hf]
        k_steps
        exact fin_num (QF := fun _ _ => True) (by assumption) (by assumption) (by assumption) hvl hik2 hvs (by assumption) hG2 ho1 ⟨hl1, hl2, hl3⟩ hfr hfl hxI hdI hlI hrI m51 m52 m53
      · rw [hf]
        k_steps
        exact fin_flag (QF := fun _ _ => True) (by assumption) (by assumption) hvl hik2 hvs (by assumption) hG2 ho1 ⟨hl1, hl2, hl3⟩ hfr hfl hxI hdI hlI hrI m51 m52 m53
  · have l1 := (allLt_of (by assumption : ∀ q ∈ (x, instObj 272 dx) :: (dx, _) :: rest, q.1 < _) : x < _ ∧ dx < _ ∧ AllLt _ rest)
    exact ⟨_, p, t2, _, r, [], [], [], o, rfl, rfl, by omega, .nil, hA, hG, by simp, ⟨l1.1, l1.2.1, fun b hb => allLt_get l1.2.2 hb⟩, fun q hq => (nomatch hq), fun q hq => (nomatch hq), fun q hq => Nat.ne_of_lt (hI q hq), rfl, rfl, rfl⟩
end
theorem off_behind : True := by
  w_top off
  k_with_none
  trivial
section
theorem kw_behind_1 : True := by
  k_with "ne" => (refine neN ?_; (try dsimp only); first | assumption | exact Ne.symm (by assumption) | exact Nat.ne_of_gt (by assumption) | exact Nat.ne_of_lt (by assumption) | exact lt_1 (by assumption) (by k_mem) | exact lt_2 (by assumption) (by k_mem) | exact Nat.ne_of_gt (And.left (by assumption)) | exact Nat.ne_of_lt (And.left (by assumption)) | exact Nat.ne_of_gt (And.left (And.right (by assumption))) | exact Nat.ne_of_lt (And.left (And.right (by assumption))) | exact Nat.ne_of_gt (And.left (And.right (And.right (by assumption)))) | exact Nat.ne_of_lt (And.left (And.right (And.right (by assumption)))) | exact Nat.ne_of_gt (And.left (And.right (And.right (And.right (by assumption))))) | exact Nat.ne_of_lt (And.left (And.right (And.right (And.right (by assumption))))) | exact Nat.ne_of_gt (And.left (And.right (And.right (And.right (And.right (by assumption)))))) | exact Nat.ne_of_lt (And.left (And.right (And.right (And.right (And.right (by assumption)))))) | exact Nat.ne_of_gt (And.left (And.right (And.right (And.right (And.right (And.right (by assumption))))))) | exact Nat.ne_of_lt (And.left (And.right (And.right (And.right (And.right (And.right (by assumption))))))))
  k_with "newTuple" => (k_here; k_dflt (refine' kup_newTuple ?F ?N ?_ ?z; (case F => k_asm); (case N => k_asm); (case z => kmk_size)); intro D9 h9 F9 N9 u9; (try k_sweep))
  k_with "newList" => (k_here; k_dflt (refine' newList_K ?k1 ?k2 ?_; (case k1 => k_asm); (case k2 => k_asm); k_whole); intro D9 h9 F9 N9 u9; (try k_sweep))
  k_with "execs cons" => (k_here; refine wpAny_execs_cons ?_; k_fold)
  k_with "eval Tuple" => (k_here; k_fold)
  k_with "eval List" => (k_here; k_fold)
  k_with "eval Call Attribute" => (k_here; k_fold)
  k_with "eval Call" => (k_here; k_fold)
  k_with "exec While BoolOp cons nil" => refine Halt.out ?_
  k_with "exec While Compare cons nil" => refine Halt.out ?_
  k_with "exec While Call cons nil" => refine Halt.out ?_
  k_with "eval Name" => (k_here; k_dflt (refine' ld ?k1 ?k2 ?_; (case k1 => k_asm); (case k2 => first | exact rfl | assumption); k_whole))
  k_with "call builtin:len" => (k_here; first | (refine len_is (by assumption) (by omega) ?_; intro _ _) | (refine PySem.P.len_str (by have h9 := (‹At _ _ _›).small; omega) ?_))
  k_with "subscriptTail" => (k_here; (with_reducible show wpAny _ _ (subscriptTail _ _ (Value.str _ _) (Value.int _ _)) _ _ _); k_dflt (refine' item_at ?k1 ?_ ?k2 ?k3; (case k1 => assumption); (case k2 => with_unfolding_all rfl); (case k3 => intro _; with_unfolding_all rfl)); intro _ _)
  k_with "binaryOp Add int int" => (k_here; refine addI ?_; intro _ _)
  k_with "binaryOp Sub int int" => (k_here; refine subI ?_; intro _ _)
  k_with "compareOp In str str" => (k_here; refine in_is (by assumption) ?_)
  k_with "compareOp NotIn str str" => (k_here; refine notin_is (by assumption) ?_)
  k_with "compareOp Eq str str" => (k_here; refine eqs_is (by assumption) ?_)
  k_with "compareOp NotEq str str" => (k_here; refine nes_is (by assumption) ?_)
  k_with "binaryOp FloorDiv int int" => (k_here; refine fdivI (by omega) (by omega) ?_; intro _ _)
  k_with "binaryOp Mod int int" => (k_here; refine fmodI (by omega) ?_; intro _ _)
  k_with "compareOp Eq int int" => (k_here; refine eqi_is (by assumption) ?_)
  k_with "compareOp In str ref" => (k_here; k_dflt (refine' in_two ?k1 ?k2 ?_; (case k1 => exact (News.get (by k_asm) (by k_mem))); (case k2 => assumption)))
  k_with "compareOp NotIn str ref" => (k_here; k_dflt (refine' notin_two ?k1 ?k2 ?_; (case k1 => exact (News.get (by k_asm) (by k_mem))); (case k2 => assumption)))
  k_with "subscriptTail Name Slice str ref" => (k_here; (with_reducible show wpAny _ _ (subscriptTail _ (Expr.Slice (some _) (some _) none _) _ _) _ _ _); (with_reducible rename Fr _ _ _ _ => F'); (with_reducible rename News _ _ _ _ => N'); (refine slice_strN_ss (hsz := ?hsz) (s := ⟨_, _, _, _, _⟩) F' N' ?_); (case hsz => (have h9 := (‹At _ _ _›).small; rw [PySem.sizeLine_eq]; omega)); intro _ _ _ _ _; (try k_sweep))
  k_with "subscriptTail Attribute Slice str ref" => (k_here; (with_reducible show wpAny _ _ (subscriptTail _ (Expr.Slice (some _) (some _) none _) _ _) _ _ _); (with_reducible rename Fr _ _ _ _ => F'); (with_reducible rename News _ _ _ _ => N'); (refine slice_strN_ss (hsz := ?hsz) (s := ⟨_, _, _, _, _⟩) F' N' ?_); (case hsz => (have h9 := (‹At _ _ _›).small; rw [PySem.sizeLine_eq]; omega)); intro _ _ _ _ _; (try k_sweep))
  k_with "getMethod ref" => (k_here; (with_reducible rename Stop 15 => stop9); clear stop9; refine Halt.out ?_)
  k_with "call builtin:dict.get" => (k_here; k_dflt (first
  | (refine kt_get2_thereS (by assumption) (by assumption) (by k_flat) ?_; intro v' hv'; (obtain ⟨_, h9⟩ := PyProof.V.Flat.str_inv hv'; subst h9; clear hv'))
  | (refine kt_get2_noneS (by assumption) (by assumption) (by k_flat) ?_; intro v' hv'; (obtain ⟨_, h9⟩ := PyProof.V.Flat.str_inv hv'; subst h9; clear hv'))))
  trivial
theorem behind_some {c : Nat} {v : Str} {ts : Tok}
  (B : Below A₀ base outer h₀) (F : Fr h₀ L s.heap m) (X : (hd.heap_1 w.params).In h₀)
  (N : News h₀ L s.heap rest)
  (Tp : Top view theLoose mean mg mb h₀) (hk : cs.kind = .function)
  (hdp : dp + 4 < recursionLimit) (hun : un + 32 < cLine)
 (e2 : PySem.Spec.lookup (.str ⟨#[c]⟩) [(PyData.str (Str.ofString "M"), PyData.str (Str.ofString "L")), (PyData.str (Str.ofString "m"), PyData.str (Str.ofString "l"))] = some (.str v))
  (hret : ∀ (t : Tok) (h' : Heap) (tk' : Nat), Fr h₀ L h' m → News h₀ L h' rest → Q (.str v t) { s with heap := h', toks := tk' }) :
  wpAny (model prog w) (ktrTop dp un gd cn cs L a ccd cl outer) (call (.ref 28) [.str ⟨#[c]⟩ ts]) Q E s := by
  have st : Stop 15 := trivial
  refine wpAny_call ?_
  k_dflt (refine' code_def (binds := [(Str.ofString "letter", .str ⟨#[c]⟩ ts)]) ?k1 ?k2 ?k3 ?k4 ?k5 ?kA ?kF ?kK ?k6 ?k7 ?k8 ?k9 ?kB ?_ ?c2 ?c3 ?c4 ?c5; (case kA => exact rfl); (case kF => exact rfl); (case kK => assumption); (case k1 => k_asm); (case k2 => k_asm); (case k3 => k_asm); (case k4 => k_asm); (case k5 => k_asm); (case k6 => k_is); (case k7 => k_is); (case k8 => (first | exact rm2 (by assumption) (by exact rfl) | exact rm1 (by assumption) (by exact rfl) | exact rm3 (by assumption) (by exact rfl) | exact rm0 (by assumption) | ktr_room)); (case k9 => first | exact BindsTo.of_eq rfl | exact binds_K (by k_in) rfl (by k_is) rfl rfl rfl); (case c5 => decide); (case kB => exact locs rfl); (case c2 => exact rfl); (case c3 => exact rfl); (case c4 => exact rfl); k_whole; intro g L' h' FG F1 N1 B1 X1 T1; (try k_fold))
  replace F1 := fr_of1 F1
  k_steps
  refine Halt.mk ?_
  (with_reducible rename News _ _ _ _ => N3)
  (with_reducible rename Obj.IsDictOf _ _ _ => D3)
  (with_reducible rename PyProof.V.FlatPairs _ _ _ => D4)
  have D5 : TabAt (strKind prog w) PyData.str _ _ [(PyData.str (Str.ofString "M"), PyData.str (Str.ofString "L")), (PyData.str (Str.ofString "m"), PyData.str (Str.ofString "l"))] := TabAt.ofNews N3 (.head _) (by assumption) D3 D4
  replace N3 := News.tl N3
  clear D3 D4
  k_steps
  ((with_reducible rename News _ _ _ _ => N9); first | exact hret _ _ _ (by assumption) N9 | exact hret _ _ _ (by assumption) (News.tl N9) | exact hret _ _ _ (by assumption) (News.pick1 N9) | exact hret _ _ _ (by assumption) (News.pick2 N9) | exact hret _ _ _ (by assumption) (News.pick3 N9))

theorem behind_none {c : Nat} {v : Str} {ts : Tok}
  (B : Below A₀ base outer h₀) (F : Fr h₀ L s.heap m) (X : (hd.heap_1 w.params).In h₀)
  (N : News h₀ L s.heap rest)
  (Tp : Top view theLoose mean mg mb h₀) (hk : cs.kind = .function)
  (hdp : dp + 4 < recursionLimit) (hun : un + 32 < cLine)
 (e2 : PySem.Spec.lookup (.str ⟨#[c]⟩) [(PyData.str (Str.ofString "M"), PyData.str (Str.ofString "L")), (PyData.str (Str.ofString "m"), PyData.str (Str.ofString "l"))] = none)
  (hret : ∀ (t : Tok) (h' : Heap) (tk' : Nat), Fr h₀ L h' m → News h₀ L h' rest → Q (.str ⟨#[c]⟩ t) { s with heap := h', toks := tk' }) :
  wpAny (model prog w) (ktrTop dp un gd cn cs L a ccd cl outer) (call (.ref 28) [.str ⟨#[c]⟩ ts]) Q E s := by
  have st : Stop 15 := trivial
  refine wpAny_call ?_
  k_dflt (refine' code_def (binds := [(Str.ofString "letter", .str ⟨#[c]⟩ ts)]) ?k1 ?k2 ?k3 ?k4 ?k5 ?kA ?kF ?kK ?k6 ?k7 ?k8 ?k9 ?kB ?_ ?c2 ?c3 ?c4 ?c5; (case kA => exact rfl); (case kF => exact rfl); (case kK => assumption); (case k1 => k_asm); (case k2 => k_asm); (case k3 => k_asm); (case k4 => k_asm); (case k5 => k_asm); (case k6 => k_is); (case k7 => k_is); (case k8 => (first | exact rm2 (by assumption) (by exact rfl) | exact rm1 (by assumption) (by exact rfl) | exact rm3 (by assumption) (by exact rfl) | exact rm0 (by assumption) | ktr_room)); (case k9 => first | exact BindsTo.of_eq rfl | exact binds_K (by k_in) rfl (by k_is) rfl rfl rfl); (case c5 => decide); (case kB => exact locs rfl); (case c2 => exact rfl); (case c3 => exact rfl); (case c4 => exact rfl); k_whole; intro g L' h' FG F1 N1 B1 X1 T1; (try k_fold))
  replace F1 := fr_of1 F1
  k_steps
  refine Halt.mk ?_
  (with_reducible rename News _ _ _ _ => N3)
  (with_reducible rename Obj.IsDictOf _ _ _ => D3)
  (with_reducible rename PyProof.V.FlatPairs _ _ _ => D4)
  have D5 : TabAt (strKind prog w) PyData.str _ _ [(PyData.str (Str.ofString "M"), PyData.str (Str.ofString "L")), (PyData.str (Str.ofString "m"), PyData.str (Str.ofString "l"))] := TabAt.ofNews N3 (.head _) (by assumption) D3 D4
  replace N3 := News.tl N3
  clear D3 D4
  k_steps
  ((with_reducible rename News _ _ _ _ => N9); first | exact hret _ _ _ (by assumption) N9 | exact hret _ _ _ (by assumption) (News.tl N9) | exact hret _ _ _ (by assumption) (News.pick1 N9) | exact hret _ _ _ (by assumption) (News.pick2 N9) | exact hret _ _ _ (by assumption) (News.pick3 N9))
end
theorem off_command : True := by
  w_top off
  k_with_none
  trivial
section
theorem kw_command_1 : True := by
  k_with "ne" => (refine neN ?_; (try dsimp only); first | assumption | exact Ne.symm (by assumption) | exact Nat.ne_of_gt (by assumption) | exact Nat.ne_of_lt (by assumption) | exact lt_1 (by assumption) (by k_mem) | exact lt_2 (by assumption) (by k_mem) | exact Nat.ne_of_gt (And.left (by assumption)) | exact Nat.ne_of_lt (And.left (by assumption)) | exact Nat.ne_of_gt (And.left (And.right (by assumption))) | exact Nat.ne_of_lt (And.left (And.right (by assumption))) | exact Nat.ne_of_gt (And.left (And.right (And.right (by assumption)))) | exact Nat.ne_of_lt (And.left (And.right (And.right (by assumption)))) | exact Nat.ne_of_gt (And.left (And.right (And.right (And.right (by assumption))))) | exact Nat.ne_of_lt (And.left (And.right (And.right (And.right (by assumption))))) | exact Nat.ne_of_gt (And.left (And.right (And.right (And.right (And.right (by assumption)))))) | exact Nat.ne_of_lt (And.left (And.right (And.right (And.right (And.right (by assumption)))))) | exact Nat.ne_of_gt (And.left (And.right (And.right (And.right (And.right (And.right (by assumption))))))) | exact Nat.ne_of_lt (And.left (And.right (And.right (And.right (And.right (And.right (by assumption))))))))
  k_with "newTuple" => (k_here; k_dflt (refine' kup_newTuple ?F ?N ?_ ?z; (case F => k_asm); (case N => k_asm); (case z => kmk_size)); intro D9 h9 F9 N9 u9; (try k_sweep))
  k_with "newList" => (k_here; k_dflt (refine' newList_K ?k1 ?k2 ?_; (case k1 => k_asm); (case k2 => k_asm); k_whole); intro D9 h9 F9 N9 u9; (try k_sweep))
  k_with "execs cons" => (k_here; refine wpAny_execs_cons ?_; k_fold)
  k_with "eval Tuple" => (k_here; k_fold)
  k_with "eval List" => (k_here; k_fold)
  k_with "eval Call Attribute" => (k_here; k_fold)
  k_with "eval Call" => (k_here; k_fold)
  k_with "exec While BoolOp cons nil" => refine Halt.out ?_
  k_with "exec While Compare cons nil" => refine Halt.out ?_
  k_with "exec While Call cons nil" => refine Halt.out ?_
  k_with "eval Name" => (k_here; k_dflt (refine' ld ?k1 ?k2 ?_; (case k1 => k_asm); (case k2 => first | exact rfl | assumption); k_whole))
  k_with "call builtin:len" => (k_here; first | (refine len_is (by assumption) (by omega) ?_; intro _ _) | (refine PySem.P.len_str (by have h9 := (‹At _ _ _›).small; omega) ?_))
  k_with "subscriptTail" => (k_here; (with_reducible show wpAny _ _ (subscriptTail _ _ (Value.str _ _) (Value.int _ _)) _ _ _); k_dflt (refine' item_at ?k1 ?_ ?k2 ?k3; (case k1 => assumption); (case k2 => with_unfolding_all rfl); (case k3 => intro _; with_unfolding_all rfl)); intro _ _)
  k_with "binaryOp Add int int" => (k_here; refine addI ?_; intro _ _)
  k_with "binaryOp Sub int int" => (k_here; refine subI ?_; intro _ _)
  k_with "compareOp In str str" => (k_here; refine in_is (by assumption) ?_)
  k_with "compareOp NotIn str str" => (k_here; refine notin_is (by assumption) ?_)
  k_with "compareOp Eq str str" => (k_here; refine eqs_is (by assumption) ?_)
  k_with "compareOp NotEq str str" => (k_here; refine nes_is (by assumption) ?_)
  k_with "binaryOp FloorDiv int int" => (k_here; refine fdivI (by omega) (by omega) ?_; intro _ _)
  k_with "binaryOp Mod int int" => (k_here; refine fmodI (by omega) ?_; intro _ _)
  k_with "compareOp Eq int int" => (k_here; refine eqi_is (by assumption) ?_)
  k_with "compareOp In str ref" => (k_here; k_dflt (refine' in_two ?k1 ?k2 ?_; (case k1 => exact (News.get (by k_asm) (by k_mem))); (case k2 => assumption)))
  k_with "compareOp NotIn str ref" => (k_here; k_dflt (refine' notin_two ?k1 ?k2 ?_; (case k1 => exact (News.get (by k_asm) (by k_mem))); (case k2 => assumption)))
  k_with "subscriptTail Name Slice str ref" => (k_here; (with_reducible show wpAny _ _ (subscriptTail _ (Expr.Slice (some _) (some _) none _) _ _) _ _ _); (with_reducible rename Fr _ _ _ _ => F'); (with_reducible rename News _ _ _ _ => N'); (refine slice_strN_ss (hsz := ?hsz) (s := ⟨_, _, _, _, _⟩) F' N' ?_); (case hsz => (have h9 := (‹At _ _ _›).small; rw [PySem.sizeLine_eq]; omega)); intro _ _ _ _ _; (try k_sweep))
  k_with "subscriptTail Attribute Slice str ref" => (k_here; (with_reducible show wpAny _ _ (subscriptTail _ (Expr.Slice (some _) (some _) none _) _ _) _ _ _); (with_reducible rename Fr _ _ _ _ => F'); (with_reducible rename News _ _ _ _ => N'); (refine slice_strN_ss (hsz := ?hsz) (s := ⟨_, _, _, _, _⟩) F' N' ?_); (case hsz => (have h9 := (‹At _ _ _›).small; rw [PySem.sizeLine_eq]; omega)); intro _ _ _ _ _; (try k_sweep))
  k_with "call ref" => (k_here; (with_reducible show wpAny _ _ (call (Value.ref 206) _) _ _ _); k_dflt (refine' peek_c ?k1 ?k2 ?k3 ?k4 ?k5 ?kK ?kd ?ku ?x0 ?_; (case k1 => k_asm); (case k2 => k_asm); (case k3 => k_asm); (case k4 => first | k_asm | exact News.rot1 (by k_asm) | exact News.rot2 (by k_asm) | exact News.rot3 (by k_asm)); (case k5 => k_asm); (case kK => first | exact rfl | assumption); (case kd => (first | exact rm2 (by assumption) (by exact rfl) | exact rm1 (by assumption) (by exact rfl) | exact rm3 (by assumption) (by exact rfl) | exact rm0 (by assumption) | ktr_room)); (case ku => (first | exact rm2 (by assumption) (by exact rfl) | exact rm1 (by assumption) (by exact rfl) | exact rm3 (by assumption) (by exact rfl) | exact rm0 (by assumption) | ktr_units)); (case x0 => first | assumption | exact At.next (by assumption) | exact At.back (by assumption)); k_whole); intro t9 h9 tk9 F9 N9; (try k_sweep))
  k_with "call ref" => (k_here; (with_reducible show wpAny _ _ (call (Value.ref 206) _) _ _ _); k_dflt (refine' peek_n ?k1 ?k2 ?k3 ?k4 ?k5 ?kK ?kd ?ku ?x0 ?_; (case k1 => k_asm); (case k2 => k_asm); (case k3 => k_asm); (case k4 => first | k_asm | exact News.rot1 (by k_asm) | exact News.rot2 (by k_asm) | exact News.rot3 (by k_asm)); (case k5 => k_asm); (case kK => first | exact rfl | assumption); (case kd => (first | exact rm2 (by assumption) (by exact rfl) | exact rm1 (by assumption) (by exact rfl) | exact rm3 (by assumption) (by exact rfl) | exact rm0 (by assumption) | ktr_room)); (case ku => (first | exact rm2 (by assumption) (by exact rfl) | exact rm1 (by assumption) (by exact rfl) | exact rm3 (by assumption) (by exact rfl) | exact rm0 (by assumption) | ktr_units)); (case x0 => first | assumption | exact At.next (by assumption) | exact At.back (by assumption)); k_whole); intro t9 h9 tk9 F9 N9; (try k_sweep))
  k_with "call ref" => (k_here; (with_reducible show wpAny _ _ (call (Value.ref 220) _) _ _ _); k_dflt (refine' spaces_spec ?k1 ?k2 ?k3 ?k4 ?k5 ?kK ?kd ?ku ?x0 ?x1 ?x2 ?x3 ?_; (case k1 => k_asm); (case k2 => k_asm); (case k3 => k_asm); (case k4 => first | k_asm | exact News.rot1 (by k_asm) | exact News.rot2 (by k_asm) | exact News.rot3 (by k_asm)); (case k5 => k_asm); (case kK => first | exact rfl | assumption); (case kd => (first | exact rm2 (by assumption) (by exact rfl) | exact rm1 (by assumption) (by exact rfl) | exact rm3 (by assumption) (by exact rfl) | exact rm0 (by assumption) | ktr_room)); (case ku => (first | exact rm2 (by assumption) (by exact rfl) | exact rm1 (by assumption) (by exact rfl) | exact rm3 (by assumption) (by exact rfl) | exact rm0 (by assumption) | ktr_units)); (case x0 => first | assumption | k_ne); (case x1 => k_all); (case x2 => first | assumption | exact At.next (by assumption) | exact At.back (by assumption)); (case x3 => first | assumption | exact rfl); k_whole); intro p9 t9 h9 tk9 A9 F9 N9; (try k_sweep))
  k_with "call ref" => (k_here; (with_reducible show wpAny _ _ (call (Value.ref 213) _) _ _ _); k_dflt (refine' fault_spec ?k1 ?k2 ?k3 ?k4 ?k5 ?kK ?kd ?ku  ?_; (case k1 => k_asm); (case k2 => k_asm); (case k3 => k_asm); (case k4 => first | k_asm | exact News.rot1 (by k_asm) | exact News.rot2 (by k_asm) | exact News.rot3 (by k_asm)); (case k5 => k_asm); (case kK => first | exact rfl | assumption); (case kd => (first | exact rm2 (by assumption) (by exact rfl) | exact rm1 (by assumption) (by exact rfl) | exact rm3 (by assumption) (by exact rfl) | exact rm0 (by assumption) | ktr_room)); (case ku => (first | exact rm2 (by assumption) (by exact rfl) | exact rm1 (by assumption) (by exact rfl) | exact rm3 (by assumption) (by exact rfl) | exact rm0 (by assumption) | ktr_units)); k_whole); intro e9 h9 tk9 R9; (try k_sweep))
  k_with "leaving ref" => (k_here; (refine gone_on (by assumption) (by assumption) ?_); intro h9 G9; (try dsimp only))
  k_with "exec If" => (k_here; (with_reducible rename Stop 1 => stop9); clear stop9; refine Halt.out ?_)
  k_with "compareOp GtE int int" => (k_here; refine ge_is (by assumption) ?_)
  trivial
noncomputable def isLet (c : Nat) : Bool := [77, 109, 76, 108, 72, 104, 86, 118, 67, 99, 83, 115, 81, 113, 84, 116, 65, 97, 90, 122].contains c
theorem let_in (c : Nat) : Txt.contains (Str.ofString "MmLlHhVvCcSsQqTtAaZz") ⟨#[c]⟩ = isLet c := in1 (by decide +kernel) c
theorem over_spec {b : Bool}
  (B : Below A₀ base outer h₀) (F : Fr h₀ L s.heap m) (X : (hd.heap_1 w.params).In h₀)
  (N : News h₀ L s.heap ((x, instObj 272 dx) :: (dx, scD h1 h2 k1 k2 t1 t2 T p) :: rest))
  (Tp : Top view theLoose mean mg mb h₀) (hk : cs.kind = .function)
  (hdp : dp + 2 < recursionLimit) (hun : un + 16 < cLine)
  (hb : decide (p ≥ (T.length : Int)) = b) (hA : At T p r)
  (hret : ∀ (h' : Heap) (tk' : Nat), Fr h₀ L h' m → News h₀ L h' ((x, instObj 272 dx) :: (dx, scD h1 h2 k1 k2 t1 t2 T p) :: rest) → Q (.bool b) { s with heap := h', toks := tk' }) :
  wpAny (model prog w) (ktrTop dp un gd cn cs L a ccd cl outer) (call (.ref 199) [.ref x]) Q E s := by
  refine wpAny_call ?_
  k_dflt (refine' code_def (binds := [(Str.ofString "self", .ref x)]) ?k1 ?k2 ?k3 ?k4 ?k5 ?kA ?kF ?kK ?k6 ?k7 ?k8 ?k9 ?kB ?_ ?c2 ?c3 ?c4 ?c5; (case kA => exact rfl); (case kF => exact rfl); (case kK => assumption); (case k1 => k_asm); (case k2 => k_asm); (case k3 => k_asm); (case k4 => k_asm); (case k5 => k_asm); (case k6 => k_is); (case k7 => k_is); (case k8 => (first | exact rm2 (by assumption) (by exact rfl) | exact rm1 (by assumption) (by exact rfl) | exact rm3 (by assumption) (by exact rfl) | exact rm0 (by assumption) | ktr_room)); (case k9 => first | exact BindsTo.of_eq rfl | exact binds_K (by k_in) rfl (by k_is) rfl rfl rfl); (case c5 => decide); (case kB => exact locs rfl); (case c2 => exact rfl); (case c3 => exact rfl); (case c4 => exact rfl); k_whole; intro g L' h' FG F1 N1 B1 X1 T1; (try k_fold))
  replace F1 := fr_of1 F1
  k_steps
  exact hret _ _ (by assumption) (by assumption)
theorem kw_command_2 : True := by
  k_with "call ref" => (k_here; (with_reducible show wpAny _ _ (call (Value.ref 199) _) _ _ _); k_dflt (refine' over_spec ?k1 ?k2 ?k3 ?k4 ?k5 ?kK ?kd ?ku ?x0 ?x1 ?_; (case k1 => k_asm); (case k2 => k_asm); (case k3 => k_asm); (case k4 => first | k_asm | exact News.rot1 (by k_asm) | exact News.rot2 (by k_asm) | exact News.rot3 (by k_asm)); (case k5 => k_asm); (case kK => first | exact rfl | assumption); (case kd => (first | exact rm2 (by assumption) (by exact rfl) | exact rm1 (by assumption) (by exact rfl) | exact rm3 (by assumption) (by exact rfl) | exact rm0 (by assumption) | ktr_room)); (case ku => (first | exact rm2 (by assumption) (by exact rfl) | exact rm1 (by assumption) (by exact rfl) | exact rm3 (by assumption) (by exact rfl) | exact rm0 (by assumption) | ktr_units)); (case x0 => first | exact decide_eq_true (by omega) | exact decide_eq_false (by omega)); (case x1 => assumption); k_whole); intro h9 tk9 F9 N9; (try k_sweep))
  trivial
theorem command_none
  (B : Below A₀ base outer h₀) (F : Fr h₀ L s.heap m) (X : (hd.heap_1 w.params).In h₀)
  (N : News h₀ L s.heap ((x, instObj 272 dx) :: (dx, scD h1 h2 k1 k2 t1 t2 T p) :: rest))
  (Tp : Top view theLoose mean mg mb h₀) (hk : cs.kind = .function)
  (hdp : dp + 8 < recursionLimit) (hun : un + 64 < cLine)
  (hxd : x ≠ dx) (hrest : ∀ q ∈ rest, q.1 ≠ dx) (hA : At T p r) (hr : r.dropWhile isBl = [])
  (hret : ∀ (p' : Int) (t2' : Tok) (h' : Heap) (tk' : Nat), At T p' [] → Fr h₀ L h' m → News h₀ L h' ((x, instObj 272 dx) :: (dx, scD h1 h2 k1 k2 t1 t2' T p') :: rest) → Q .none { s with heap := h', toks := tk' }) :
  wpAny (model prog w) (ktrTop dp un gd cn cs L a ccd cl outer) (call (.ref 269) [.ref x]) Q E s := by
  refine wpAny_call ?_
  k_dflt (refine' code_def (binds := [(Str.ofString "self", .ref x)]) ?k1 ?k2 ?k3 ?k4 ?k5 ?kA ?kF ?kK ?k6 ?k7 ?k8 ?k9 ?kB ?_ ?c2 ?c3 ?c4 ?c5; (case kA => exact rfl); (case kF => exact rfl); (case kK => assumption); (case k1 => k_asm); (case k2 => k_asm); (case k3 => k_asm); (case k4 => k_asm); (case k5 => k_asm); (case k6 => k_is); (case k7 => k_is); (case k8 => (first | exact rm2 (by assumption) (by exact rfl) | exact rm1 (by assumption) (by exact rfl) | exact rm3 (by assumption) (by exact rfl) | exact rm0 (by assumption) | ktr_room)); (case k9 => first | exact BindsTo.of_eq rfl | exact binds_K (by k_in) rfl (by k_is) rfl rfl rfl); (case c5 => decide); (case kB => exact locs rfl); (case c2 => exact rfl); (case c3 => exact rfl); (case c4 => exact rfl); k_whole; intro g L' h' FG F1 N1 B1 X1 T1; (try k_fold))
  replace F1 := fr_of1 F1
  have st1 : Stop 1 := trivial
  k_steps
  refine Halt.mk ?_
  (with_reducible rename At T _ [] => A8)
  have l1 := A8.eq
  k_steps
  ((with_reducible rename News _ _ _ _ => N9); first | exact hret _ _ _ _ (by first | assumption | exact At.next (by assumption) | exact At.next (At.next (by assumption)) | exact At.back (by assumption)) (by assumption) N9 | exact hret _ _ _ _ (by first | assumption | exact At.next (by assumption) | exact At.next (At.next (by assumption)) | exact At.back (by assumption)) (by assumption) (News.tl N9) | exact hret _ _ _ _ (by first | assumption | exact At.next (by assumption) | exact At.next (At.next (by assumption)) | exact At.back (by assumption)) (by assumption) (News.pick1 N9) | exact hret _ _ _ _ (by first | assumption | exact At.next (by assumption) | exact At.next (At.next (by assumption)) | exact At.back (by assumption)) (by assumption) (News.pick2 N9) | exact hret _ _ _ _ (by first | assumption | exact At.next (by assumption) | exact At.next (At.next (by assumption)) | exact At.back (by assumption)) (by assumption) (News.pick3 N9))
theorem command_ok {c : Nat} {r2 : List Nat}
  (B : Below A₀ base outer h₀) (F : Fr h₀ L s.heap m) (X : (hd.heap_1 w.params).In h₀)
  (N : News h₀ L s.heap ((x, instObj 272 dx) :: (dx, scD h1 h2 k1 k2 t1 t2 T p) :: rest))
  (Tp : Top view theLoose mean mg mb h₀) (hk : cs.kind = .function)
  (hdp : dp + 8 < recursionLimit) (hun : un + 64 < cLine)
  (hxd : x ≠ dx) (hrest : ∀ q ∈ rest, q.1 ≠ dx) (hA : At T p r) (hr : r.dropWhile isBl = c :: r2) (hc : isLet c = true)
  (hret : ∀ (p' : Int) (t t2' : Tok) (h' : Heap) (tk' : Nat), At T p' r2 → At T (p' - 1) (c :: r2) → Fr h₀ L h' m → News h₀ L h' ((x, instObj 272 dx) :: (dx, scD h1 h2 k1 k2 t1 t2' T p') :: rest) → Q (.str ⟨#[c]⟩ t) { s with heap := h', toks := tk' }) :
  wpAny (model prog w) (ktrTop dp un gd cn cs L a ccd cl outer) (call (.ref 269) [.ref x]) Q E s := by
  have e1 := let_in c
  rw [hc] at e1
  refine wpAny_call ?_
  k_dflt (refine' code_def (binds := [(Str.ofString "self", .ref x)]) ?k1 ?k2 ?k3 ?k4 ?k5 ?kA ?kF ?kK ?k6 ?k7 ?k8 ?k9 ?kB ?_ ?c2 ?c3 ?c4 ?c5; (case kA => exact rfl); (case kF => exact rfl); (case kK => assumption); (case k1 => k_asm); (case k2 => k_asm); (case k3 => k_asm); (case k4 => k_asm); (case k5 => k_asm); (case k6 => k_is); (case k7 => k_is); (case k8 => (first | exact rm2 (by assumption) (by exact rfl) | exact rm1 (by assumption) (by exact rfl) | exact rm3 (by assumption) (by exact rfl) | exact rm0 (by assumption) | ktr_room)); (case k9 => first | exact BindsTo.of_eq rfl | exact binds_K (by k_in) rfl (by k_is) rfl rfl rfl); (case c5 => decide); (case kB => exact locs rfl); (case c2 => exact rfl); (case c3 => exact rfl); (case c4 => exact rfl); k_whole; intro g L' h' FG F1 N1 B1 X1 T1; (try k_fold))
  replace F1 := fr_of1 F1
  have st1 : Stop 1 := trivial
  k_steps
  refine Halt.mk ?_
  (with_reducible rename At T _ (c :: r2) => A8)
  have l1 := A8.lt
  k_steps
  exact hret _ _ _ _ _ A8.next A8.back (by assumption) (by assumption)
theorem command_bad {c : Nat} {r2 : List Nat}
  (B : Below A₀ base outer h₀) (F : Fr h₀ L s.heap m) (X : (hd.heap_1 w.params).In h₀)
  (N : News h₀ L s.heap ((x, instObj 272 dx) :: (dx, scD h1 h2 k1 k2 t1 t2 T p) :: rest))
  (Tp : Top view theLoose mean mg mb h₀) (hk : cs.kind = .function)
  (hdp : dp + 8 < recursionLimit) (hun : un + 64 < cLine)
  (hxd : x ≠ dx) (hrest : ∀ q ∈ rest, q.1 ≠ dx) (hA : At T p r) (hr : r.dropWhile isBl = c :: r2) (hc : isLet c = false)
  (hE : ∀ (p' : Int) (t2' : Tok) (e : Addr) (h' : Heap) (tk' : Nat), At T p' (c :: r2) → Thrown base h₀ L m (envX cn cs L a ccd cl :: outer) e p' ((x, instObj 272 dx) :: (dx, scD h1 h2 k1 k2 t1 t2' T p') :: rest) h' → E (.ref e) { s with heap := h', toks := tk' }) :
  wpAny (model prog w) (ktrTop dp un gd cn cs L a ccd cl outer) (call (.ref 269) [.ref x]) Q E s := by
  have e1 := let_in c
  rw [hc] at e1
  refine wpAny_call ?_
  k_dflt (refine' code_def (binds := [(Str.ofString "self", .ref x)]) ?k1 ?k2 ?k3 ?k4 ?k5 ?kA ?kF ?kK ?k6 ?k7 ?k8 ?k9 ?kB ?_ ?c2 ?c3 ?c4 ?c5; (case kA => exact rfl); (case kF => exact rfl); (case kK => assumption); (case k1 => k_asm); (case k2 => k_asm); (case k3 => k_asm); (case k4 => k_asm); (case k5 => k_asm); (case k6 => k_is); (case k7 => k_is); (case k8 => (first | exact rm2 (by assumption) (by exact rfl) | exact rm1 (by assumption) (by exact rfl) | exact rm3 (by assumption) (by exact rfl) | exact rm0 (by assumption) | ktr_room)); (case k9 => first | exact BindsTo.of_eq rfl | exact binds_K (by k_in) rfl (by k_is) rfl rfl rfl); (case c5 => decide); (case kB => exact locs rfl); (case c2 => exact rfl); (case c3 => exact rfl); (case c4 => exact rfl); k_whole; intro g L' h' FG F1 N1 B1 X1 T1; (try k_fold))
  replace F1 := fr_of1 F1
  have st1 : Stop 1 := trivial
  k_steps
  refine Halt.mk ?_
  (with_reducible rename At T _ (c :: r2) => A8)
  have l1 := A8.lt
  k_steps
  exact hE _ _ _ _ _ (by assumption) ⟨_, FG, (by first | assumption | exact Gone.mono (by assumption) (fun q hq => .tail _ hq))⟩
end
theorem off_intod : True := by
  w_top off
  k_with_none
  trivial
section
inductive LF (c kk : Nat) (arc : Bool) : Prop
  | mk (u : Nat) (n : Int) : Txt.upper ⟨#[c]⟩ = ⟨#[u]⟩ → PySem.Spec.lookup (.str ⟨#[u]⟩) [(PyData.str (Str.ofString "M"), PyData.int 2), (PyData.str (Str.ofString "L"), PyData.int 2), (PyData.str (Str.ofString "H"), PyData.int 1), (PyData.str (Str.ofString "V"), PyData.int 1), (PyData.str (Str.ofString "C"), PyData.int 6), (PyData.str (Str.ofString "S"), PyData.int 4), (PyData.str (Str.ofString "Q"), PyData.int 4), (PyData.str (Str.ofString "T"), PyData.int 2), (PyData.str (Str.ofString "A"), PyData.int 7), (PyData.str (Str.ofString "Z"), PyData.int 0)] = some (.int n) → (kk : Int) = n → Few n → Txt.contains (Str.ofString "Aa") ⟨#[c]⟩ = arc → LF c kk arc
noncomputable def behindC (c : Nat) : Nat := if c = 77 then 76 else if c = 109 then 108 else c
inductive More (kk : Nat) (arc : Bool) : Nat → List Nat → List (List Dat) → Bool → List Nat → Prop
  | stop {k : Nat} {r r1 : List Nat} : sepOf r = (false, r1) → looksOf r1 = false → More kk arc k r [] true r1
  | comma {k : Nat} {r r1 : List Nat} : sepOf r = (true, r1) → looksOf r1 = false → More kk arc k r [] false r1
  | fail {k : Nat} {b : Bool} {r r1 rb : List Nat} : sepOf r = (b, r1) → looksOf r1 = true → GAny arc kk 0 r1 none rb → More kk arc k r [] false rb
  | next {k : Nat} {b ok : Bool} {r r1 r2 r3 : List Nat} {ds : List Dat} {gs : List (List Dat)} : sepOf r = (b, r1) → looksOf r1 = true → GAny arc kk 0 r1 (some ds) r2 → More kk arc k r2 gs ok r3 → More kk arc (k + 1) r (ds :: gs) ok r3
abbrev Ent := Nat × List Dat
noncomputable def isMm (c : Nat) : Bool := [77, 109].contains c
noncomputable def isZz (c : Nat) : Bool := [90, 122].contains c
mutual
inductive Cmd : Nat → Bool → List Nat → List Ent → Bool → List Nat → Prop
  | done {k : Nat} {e : Bool} {r : List Nat} : r.dropWhile isBl = [] → Cmd k e r [] true []
  | noLetter {k : Nat} {e : Bool} {r r1 : List Nat} {c : Nat} : r.dropWhile isBl = c :: r1 → isLet c = false → Cmd k e r [] false (c :: r1)
  | letter {k : Nat} {e ok : Bool} {r r1 rf : List Nat} {c : Nat} {es : List Ent} : r.dropWhile isBl = c :: r1 → isLet c = true → Body k e c r1 es ok rf → Cmd k e r es ok rf
inductive Body : Nat → Bool → Nat → List Nat → List Ent → Bool → List Nat → Prop
  | noMove {k c : Nat} {r : List Nat} : isMm c = false → Body k true c r [] false (c :: r)
  | close {k c : Nat} {e ok : Bool} {r rf : List Nat} {es : List Ent} : (e && !isMm c) = false → isZz c = true → Cmd k false r es ok rf → Body (k + 1) e c r ((c, []) :: es) ok rf
  | bad1 {k c kk : Nat} {e arc : Bool} {r rb : List Nat} : (e && !isMm c) = false → isZz c = false → LF c kk arc → GAny arc kk 0 (r.dropWhile isBl) none rb → Body k e c r [] false rb
  | badM {k j c kk : Nat} {e arc : Bool} {r r2 rb : List Nat} {ds : List Dat} {gs : List (List Dat)} : (e && !isMm c) = false → isZz c = false → LF c kk arc → LF (behindC c) kk arc → GAny arc kk 0 (r.dropWhile isBl) (some ds) r2 → More kk arc j r2 gs false rb → Body k e c r ((c, ds) :: gs.map fun g => (behindC c, g)) false rb
  | go {k j c kk : Nat} {e arc ok : Bool} {r r2 r3 rf : List Nat} {ds : List Dat} {gs : List (List Dat)} {es : List Ent} : (e && !isMm c) = false → isZz c = false → LF c kk arc → LF (behindC c) kk arc → GAny arc kk 0 (r.dropWhile isBl) (some ds) r2 → More kk arc j r2 gs true r3 → Cmd k false r3 es ok rf → Body (k + 1) e c r (((c, ds) :: gs.map fun g => (behindC c, g)) ++ es) ok rf
end
noncomputable def entD (q : Ent) : Dat := .tuple [.str ⟨#[q.1]⟩, .tuple q.2]
theorem item_ok {fl : Bool} {r r2 : List Nat} {d : Dat} (h : Item fl r d r2) : kqdOk 6 d = true := by
  rcases h with ⟨a, b, _, _, rfl⟩ | ⟨v, _, _, rfl⟩ <;> rfl
theorem any_ok {arc : Bool} {k i : Nat} {r r2 : List Nat} {o : Option (List Dat)} (h : GAny arc k i r o r2) : ∀ ds, o = some ds → ∀ d ∈ ds, kqdOk 6 d = true := by
  induction h with
  | nil => intro ds h; cases h; intro d hd; cases hd
  | here _ => intro ds h; cases h
  | @next i k r r1 r2 d o hi _ ih =>
    intro ds h
    cases o with
    | none => cases h
    | some es =>
      cases h
      intro d' hd
      rcases List.mem_cons.mp hd with rfl | hd
      · exact item_ok hi
      · exact ih es rfl d' hd
theorem ent_ok {c : Nat} {ds : List Dat} (hc : c < 128) (h : ∀ d ∈ ds, kqdOk 6 d = true) : kqdOk 8 (entD (c, ds)) = true := by
  show (([.str ⟨#[c]⟩, .tuple ds] : List Dat).all (kqdOk 7)) = true
  have h1 : kqdOk 7 (.str ⟨#[c]⟩) = true := by show PyData.strOk ⟨#[c]⟩ = true; simp [PyData.strOk]; omega
  have h2 : kqdOk 7 (.tuple ds) = true := by show ds.all (kqdOk 6) = true; simpa using h
  simp [h1, h2]
theorem mm_in (c : Nat) : Txt.contains (Str.ofString "Mm") ⟨#[c]⟩ = isMm c := in1 (by decide +kernel) c
theorem zz_in (c : Nat) : Txt.contains (Str.ofString "Zz") ⟨#[c]⟩ = isZz c := in1 (by decide +kernel) c
open Classical in
theorem found_nil {A : Around} {fa l : Addr} {news n₁ : Led} {vs : List Value} {nn nl : Nat} {ds : List Dat} {b : Bool} (N : News h₀ L s.heap news) (ma : (fa, W.listOf vs.toArray nn) ∈ news) (Da : DatAll n₁ vs ds) (sa : ∀ p ∈ n₁, p ∈ news)
    (mb : (l, W.listOf #[] nl) ∈ news) (ha : ∀ d ∈ ds, kqdOk 8 d = true) (hb : ds.isEmpty = b) (hu : A.units + 64 < cLine) (h : Q (.bool b) s) : wpAny (model prog w) A (compareOp .Eq (.ref fa) (.ref l)) Q E s :=
  kqd_eq (ys := []) (es := []) (n₂ := []) N ma rfl rfl Da sa mb rfl rfl .nil (fun _ h => nomatch h) ha (fun _ h => nomatch h) hu (by
    have : decide (ds = []) = b := by rw [← hb]; cases ds <;> simp
    rw [this]; exact h)
end
theorem off_intoc : True := by
  w_top off
  k_with_none
  trivial
section
def HeadS (T : Str) (p : Int) (e : Bool) (es : List Ent) (ok : Bool) (rf : List Nat) (v : Value) (n : Nat) : Prop :=
  (v = .none ∧ es = [] ∧ ok = true ∧ rf = [] ∧ At T p [] ∧ n = 0) ∨ (∃ c t r k, v = .str ⟨#[c]⟩ t ∧ isLet c = true ∧ At T p r ∧ At T (p - 1) (c :: r) ∧ Body k e c r es ok rf ∧ n = k + 1)
theorem cmd_call {k : Nat} {e ok : Bool} {es : List Ent} {rf : List Nat}
  (B : Below A₀ base outer h₀) (F : Fr h₀ L s.heap m) (X : (hd.heap_1 w.params).In h₀)
  (N : News h₀ L s.heap ((x, instObj 272 dx) :: (dx, scD h1 h2 k1 k2 t1 t2 T p) :: rest))
  (Tp : Top view theLoose mean mg mb h₀) (hk : cs.kind = .function)
  (hdp : dp + 8 < recursionLimit) (hun : un + 64 < cLine)
  (hxd : x ≠ dx) (hrest : ∀ q ∈ rest, q.1 ≠ dx) (hA : At T p r) (hC : Cmd k e r es ok rf)
  (hret : ∀ (p' : Int) (v : Value) (t2' : Tok) (n : Nat) (h' : Heap) (tk' : Nat), HeadS T p' e es ok rf v n → n ≤ k + 1 → Fr h₀ L h' m → News h₀ L h' ((x, instObj 272 dx) :: (dx, scD h1 h2 k1 k2 t1 t2' T p') :: rest) → Q v { s with heap := h', toks := tk' })
  (hE : ∀ (p' : Int) (t2' : Tok) (e : Addr) (h' : Heap) (tk' : Nat), ok = false → es = [] → At T p' rf → Thrown base h₀ L m (envX cn cs L a ccd cl :: outer) e p' ((x, instObj 272 dx) :: (dx, scD h1 h2 k1 k2 t1 t2' T p') :: rest) h' → E (.ref e) { s with heap := h', toks := tk' }) :
  wpAny (model prog w) (ktrTop dp un gd cn cs L a ccd cl outer) (call (.ref 269) [.ref x]) Q E s := by
  cases hC with
  | done hd => exact command_none B F X N Tp hk hdp hun hxd hrest hA hd fun p' t2' h' tk' A' F' N' => hret _ _ _ 0 _ _ (.inl ⟨rfl, rfl, rfl, rfl, A', rfl⟩) (Nat.zero_le _) F' N'
  | noLetter hd hc => exact command_bad B F X N Tp hk hdp hun hxd hrest hA hd hc fun p' t2' e h' tk' A' R' => hE _ _ _ _ _ rfl rfl A' R'
  | letter hd hc hb => exact command_ok B F X N Tp hk hdp hun hxd hrest hA hd hc fun p' t t2' h' tk' A' A2 F' N' => hret _ _ _ _ _ _ (.inr ⟨_, _, _, _, rfl, hc, A', A2, hb, rfl⟩) (Nat.le_refl _) F' N'
theorem ne_cons {fa dx : Addr} {o : Obj} {tl : Led} (hfd : fa ≠ dx) (htd : ∀ q ∈ tl, q.1 ≠ dx) : ∀ q ∈ (fa, o) :: tl, q.1 ≠ dx := by
  intro q hq
  rcases List.mem_cons.mp hq with rfl | hq
  · exact hfd
  · exact htd q hq
theorem group_ok {c : Nat} {kk : Nat} {ts : Tok} {arc : Bool} {ds : List Dat} {r2 : List Nat}
  (B : Below A₀ base outer h₀) (F : Fr h₀ L s.heap m) (X : (hd.heap_1 w.params).In h₀)
  (N : News h₀ L s.heap ((x, instObj 272 dx) :: (dx, scD h1 h2 k1 k2 t1 t2 T p) :: rest))
  (Tp : Top view theLoose mean mg mb h₀) (hk : cs.kind = .function)
  (hdp : dp + 40 < recursionLimit) (hun : un + 320 < cLine)
 (hxd : x ≠ dx) (hrest : ∀ q ∈ rest, q.1 ≠ dx) (hA : At T p r) (hL : LF c kk arc) (hG : GAny arc kk 0 r (some ds) r2)
  (hret : ∀ (d : Addr) (vs : List Value) (nn : Nat) (new : Led) (p' : Int) (t2' : Tok) (h' : Heap) (tk' : Nat), At T p' r2 → Fr h₀ L h' m → News h₀ L h' ((x, instObj 272 dx) :: (dx, scD h1 h2 k1 k2 t1 t2' T p') :: (d, ⟨.type "tuple", none, .seq vs.toArray nn, #[]⟩) :: (new ++ rest)) → DatAll new vs ds →
    (∀ q ∈ (d, (⟨.type "tuple", none, .seq vs.toArray nn, #[]⟩ : Obj)) :: new, x < q.1 ∧ dx < q.1 ∧ ∀ b ∈ rest, b.1 < q.1) → Q (.ref d) { s with heap := h', toks := tk' }) :
  wpAny (model prog w) (ktrTop dp un gd cn cs L a ccd cl outer) (call (.ref 35) [.ref x, .str ⟨#[c]⟩ ts]) Q E s := by
  obtain ⟨u, n, e1, e2, hn, hf, e3⟩ := hL
  exact group_spec B F X N Tp hk hdp hun hxd hrest hA e1 e2 hn hf e3 hG (fun d ds' vs nn new p' t2' h' tk' ho A' F' N' D' f' => by cases ho; exact hret d vs nn new p' t2' h' tk' A' F' N' D' f') (fun _ _ _ _ _ ho => by cases ho)
theorem group_no {c : Nat} {kk : Nat} {ts : Tok} {arc : Bool} {r2 : List Nat}
  (B : Below A₀ base outer h₀) (F : Fr h₀ L s.heap m) (X : (hd.heap_1 w.params).In h₀)
  (N : News h₀ L s.heap ((x, instObj 272 dx) :: (dx, scD h1 h2 k1 k2 t1 t2 T p) :: rest))
  (Tp : Top view theLoose mean mg mb h₀) (hk : cs.kind = .function)
  (hdp : dp + 40 < recursionLimit) (hun : un + 320 < cLine)
 (hxd : x ≠ dx) (hrest : ∀ q ∈ rest, q.1 ≠ dx) (hA : At T p r) (hL : LF c kk arc) (hG : GAny arc kk 0 r none r2)
  (hE : ∀ (p' : Int) (t2' : Tok) (e : Addr) (h' : Heap) (tk' : Nat), At T p' r2 → Thrown base h₀ L m (envX cn cs L a ccd cl :: outer) e p' ((x, instObj 272 dx) :: (dx, scD h1 h2 k1 k2 t1 t2' T p') :: rest) h' → E (.ref e) { s with heap := h', toks := tk' }) :
  wpAny (model prog w) (ktrTop dp un gd cn cs L a ccd cl outer) (call (.ref 35) [.ref x, .str ⟨#[c]⟩ ts]) Q E s := by
  obtain ⟨u, n, e1, e2, hn, hf, e3⟩ := hL
  exact group_spec B F X N Tp hk hdp hun hxd hrest hA e1 e2 hn hf e3 hG (fun _ _ _ _ _ _ _ _ _ ho => by cases ho) (fun p' t2' e h' tk' _ => hE p' t2' e h' tk')
end
theorem off_intoj : True := by
  w_top off
  k_with_none
  trivial
section
def IJ (T : Str) (x dx fa : Addr) (h1 h2 : Int) (k1 k2 t1 : Tok) (ds : List Dat) (tl : Led) (es : List Ent) (ok : Bool) (rf : List Nat) (n : Nat) (m₁ : Str → Option Value) (nx : Led) : Prop :=
  ∃ (p1 : Int) (t2' : Tok) (vs1 : List Value) (nn1 : Nat) (ds1 : List Dat) (tl1 : Led) (es1 : List Ent) (v1 : Value), nx = (x, instObj 272 dx) :: (dx, scD h1 h2 k1 k2 t1 t2' T p1) :: (fa, W.listOf vs1.toArray nn1) :: tl1 ∧ DatAll tl1 vs1 ds1 ∧ (∀ d ∈ ds1, kqdOk 8 d = true) ∧
    (∀ q ∈ tl1, q.1 ≠ x) ∧ (∀ q ∈ tl1, q.1 ≠ dx) ∧ (∀ q ∈ tl1, q.1 ≠ fa) ∧ (∀ q ∈ tl, q ∈ tl1) ∧ ds ++ es.map entD = ds1 ++ es1.map entD ∧ ds1.length + es1.length < 1000 ∧ HeadS T p1 ds1.isEmpty es1 ok rf v1 n ∧
    m₁ (Str.ofString "scanner") = some (.ref x) ∧ m₁ (Str.ofString "found") = some (.ref fa) ∧ m₁ (Str.ofString "letter") = some v1
/-- behind a command: what the next one meets -/
def CJ (T : Str) (x dx fa : Addr) (h1 h2 : Int) (k1 k2 t1 : Tok) (ds : List Dat) (tl : Led) (es : List Ent) (ok : Bool) (rf : List Nat) (n : Nat) (m₁ : Str → Option Value) (nx : Led) : Prop :=
  ∃ (p1 : Int) (t2' : Tok) (vs1 : List Value) (nn1 : Nat) (ds1 : List Dat) (tl1 : Led) (es1 : List Ent) (r1 : List Nat) (k : Nat), nx = (x, instObj 272 dx) :: (dx, scD h1 h2 k1 k2 t1 t2' T p1) :: (fa, W.listOf vs1.toArray nn1) :: tl1 ∧ DatAll tl1 vs1 ds1 ∧ (∀ d ∈ ds1, kqdOk 8 d = true) ∧
    (∀ q ∈ tl1, q.1 ≠ x) ∧ (∀ q ∈ tl1, q.1 ≠ dx) ∧ (∀ q ∈ tl1, q.1 ≠ fa) ∧ (∀ q ∈ tl, q ∈ tl1) ∧ ds ++ es.map entD = ds1 ++ es1.map entD ∧ ds1.length + es1.length < 1000 ∧ At T p1 r1 ∧ Cmd k ds1.isEmpty r1 es1 ok rf ∧ k + 1 < n ∧
    m₁ (Str.ofString "scanner") = some (.ref x) ∧ m₁ (Str.ofString "found") = some (.ref fa)

theorem body_close {k c : Nat} {e ok : Bool} {r rf : List Nat} {es : List Ent} (h : Body k e c r es ok rf) (hb : (e && !isMm c) = false) (hz : isZz c = true) : ∃ k' es', k = k' + 1 ∧ es = (c, []) :: es' ∧ Cmd k' false r es' ok rf := by
  cases h with
  | noMove hm => rw [hm] at hb; cases hb
  | close _ _ hC => exact ⟨_, _, rfl, rfl, hC⟩
  | bad1 _ hz' => rw [hz] at hz'; cases hz'
  | badM _ hz' => rw [hz] at hz'; cases hz'
  | go _ hz' => rw [hz] at hz'; cases hz'
theorem body_grp {k c : Nat} {e ok : Bool} {r rf : List Nat} {es : List Ent} (h : Body k e c r es ok rf) (hb : (e && !isMm c) = false) (hz : isZz c = false) :
    (∃ kk arc, LF c kk arc ∧ GAny arc kk 0 (r.dropWhile isBl) none rf ∧ es = [] ∧ ok = false) ∨
    (∃ kk arc ds r2 j gs okm r3 esR, LF c kk arc ∧ LF (behindC c) kk arc ∧ GAny arc kk 0 (r.dropWhile isBl) (some ds) r2 ∧ More kk arc j r2 gs okm r3 ∧ es = ((c, ds) :: gs.map fun g => (behindC c, g)) ++ esR ∧
      (okm = true → ∃ k', k' + 1 = k ∧ Cmd k' false r3 esR ok rf) ∧ (okm = false → ok = false ∧ esR = [] ∧ rf = r3)) := by
  cases h with
  | noMove hm => rw [hm] at hb; cases hb
  | close _ hz' => rw [hz] at hz'; cases hz'
  | bad1 _ _ hL hG => exact .inl ⟨_, _, hL, hG, rfl, rfl⟩
  | badM _ _ hL hL2 hG hM => exact .inr ⟨_, _, _, _, _, _, _, _, [], hL, hL2, hG, hM, by simp, (fun h => by cases h), fun _ => ⟨rfl, rfl, rfl⟩⟩
  | go _ _ hL hL2 hG hM hC => exact .inr ⟨_, _, _, _, _, _, _, _, _, hL, hL2, hG, hM, rfl, fun _ => ⟨_, rfl, hC⟩, fun h => by cases h⟩
theorem let_lt {c : Nat} (h : isLet c = true) : c < 128 :=
  (by decide +kernel : ∀ c ∈ [77, 109, 76, 108, 72, 104, 86, 118, 67, 99, 83, 115, 81, 113, 84, 116, 65, 97, 90, 122], c < 128) c (List.contains_iff_mem.mp h)
theorem behind_lt {c : Nat} (h : isLet c = true) : behindC c < 128 := by
  have := let_lt h
  unfold behindC
  split
  · omega
  · split <;> omega
/-- what stands of the list of the found -/
structure FSt (x dx fa : Addr) (tl : Led) (vs1 : List Value) (ds1 : List Dat) (tl1 : Led) : Prop where
  dat : DatAll tl1 vs1 ds1
  ok : ∀ d ∈ ds1, kqdOk 8 d = true
  nx : ∀ q ∈ tl1, q.1 ≠ x
  nd : ∀ q ∈ tl1, q.1 ≠ dx
  nf : ∀ q ∈ tl1, q.1 ≠ fa
  sub : ∀ q ∈ tl, q ∈ tl1
theorem FSt.add {fa d : Addr} {tl tl1 tl' : Led} {vs1 : List Value} {ds1 gs : List Dat} {c : Nat} {tc : Tok} {v : Value} (S : FSt x dx fa tl vs1 ds1 tl1) (hs : ∀ q ∈ tl1, q ∈ tl') (hv : DatIn tl' v (.tuple gs)) (hg : ∀ d ∈ gs, kqdOk 6 d = true) (hc : c < 128)
    (nx : ∀ q ∈ tl', q.1 ≠ x) (nd : ∀ q ∈ tl', q.1 ≠ dx) (nf : ∀ q ∈ tl', q.1 ≠ fa) (dx' : d ≠ x) (dd : d ≠ dx) (df : d ≠ fa) :
    FSt x dx fa tl (vs1 ++ [.ref d]) (ds1 ++ [entD (c, gs)]) ((d, tupO [.str ⟨#[c]⟩ tc, v]) :: tl') := by
  refine ⟨DatAll.append (DatAll.mono (fun q hq => .tail _ (hs q hq)) S.dat) (.one (.tuple (.head _) (.cons (.str _ _) (.cons (DatIn.mono (fun q hq => .tail _ hq) hv) .nil)))), ?_, ne_cons dx' nx, ne_cons dd nd, ne_cons df nf, fun q hq => .tail _ (hs q (S.sub q hq))⟩
  intro e he
  rcases List.mem_append.mp he with he | he
  · exact S.ok e he
  · rw [List.mem_singleton.mp he]; exact ent_ok hc hg
theorem allLt_ne {d a : Addr} {l : Led} (h : ∀ q ∈ l, q.1 < d) : ∀ q ∈ l, q.1 ≠ d := fun q hq => Nat.ne_of_lt (h q hq)
section
variable {g : Heap} {L' : Addr} {fa d e : Addr} {h' : Heap} {tk' : Nat} {m' : Str → Option Value} {s3 : Shared} {p9 : Int} {t9 tc : Tok} {vs1 : List Value} {ds ds1 gs : List Dat} {tl tl1 : Led} {es es2 : List Ent} {c n k nn2 : Nat} {ok : Bool} {rf r9 : List Nat}
theorem fin_close (F : Fr g L' h' m') (N : News g L' h' ((d, tupO [.str ⟨#[c]⟩ tc, .ref e]) :: (e, tupO []) :: (x, instObj 272 dx) :: (dx, scD h1 h2 k1 k2 t1 t9 T p9) :: (fa, W.listOf (vs1.toArray.push (.ref d)) nn2) :: tl1))
    (le : @LT.lt Nat _ x e ∧ @LT.lt Nat _ dx e ∧ @LT.lt Nat _ fa e ∧ AllLt e tl1) (ld : @LT.lt Nat _ e d ∧ @LT.lt Nat _ x d ∧ @LT.lt Nat _ dx d ∧ @LT.lt Nat _ fa d ∧ AllLt d tl1) (S : FSt x dx fa tl vs1 ds1 tl1) (hc : c < 128)
    (heq : ds ++ es.map entD = ds1 ++ ((c, []) :: es2).map entD) (hsz : ds1.length + ((c, ([] : List Dat)) :: es2).length < 1000) (hA : At T p9 r9) (hC : Cmd k false r9 es2 ok rf) (hk : k + 1 < n) (m1 : m' (Str.ofString "scanner") = some (.ref x)) (m2 : m' (Str.ofString "found") = some (.ref fa)) :
    MidX g L' s3 (CJ T x dx fa h1 h2 k1 k2 t1 ds tl es ok rf n) .next { s3 with heap := h', toks := tk' } := by
  have S2 := S.add (tl' := (e, tupO []) :: tl1) (d := d) (tc := tc) (v := .ref e) (gs := []) (fun q hq => .tail _ hq) (.tuple (.head _) .nil) (fun _ h => nomatch h) hc (ne_cons (Nat.ne_of_gt le.1) S.nx) (ne_cons (Nat.ne_of_gt le.2.1) S.nd) (ne_cons (Nat.ne_of_gt le.2.2.1) S.nf) (Nat.ne_of_gt ld.2.1) (Nat.ne_of_gt ld.2.2.1) (Nat.ne_of_gt ld.2.2.2.1)
  have eL : W.listOf (vs1.toArray.push (.ref d)) nn2 = W.listOf (vs1 ++ [Value.ref d]).toArray nn2 := by simp
  rw [eL] at N
  have e3 : (ds1 ++ [entD (c, [])]).isEmpty = false := by cases ds1 <;> rfl
  refine ⟨rfl, m', (x, instObj 272 dx) :: (dx, scD h1 h2 k1 k2 t1 t9 T p9) :: (fa, W.listOf (vs1 ++ [Value.ref d]).toArray nn2) :: ((d, tupO [.str ⟨#[c]⟩ tc, .ref e]) :: (e, tupO []) :: tl1), h', tk', rfl, F, News.sub N fun q hq => ?_, _, _, _, _, _, _, es2, r9, k, rfl, S2.dat, S2.ok, S2.nx, S2.nd, S2.nf, S2.sub, ?_, ?_, hA, ?_, hk, m1, m2⟩
  · simp only [List.mem_cons] at hq ⊢
    rcases hq with h | h | h | h | h | h <;> simp [h]
  · rw [heq]; simp
  · simp only [List.length_append, List.length_cons, List.length_nil] at hsz ⊢; omega
  · rw [e3]; exact hC
end

def MJ (T : Str) (x dx fa : Addr) (h1 h2 : Int) (k1 k2 t1 : Tok) (ds : List Dat) (tl : Led) (es esR : List Ent) (c' kk : Nat) (arc okm : Bool) (r3 : List Nat) (n : Nat) (m₁ : Str → Option Value) (nx : Led) : Prop :=
  ∃ (p1 : Int) (t2' tq : Tok) (vs1 : List Value) (nn1 : Nat) (ds1 : List Dat) (tl1 : Led) (gs : List (List Dat)) (r1 : List Nat), nx = (x, instObj 272 dx) :: (dx, scD h1 h2 k1 k2 t1 t2' T p1) :: (fa, W.listOf vs1.toArray nn1) :: tl1 ∧ FSt x dx fa tl vs1 ds1 tl1 ∧ ds1.isEmpty = false ∧ At T p1 r1 ∧ More kk arc n r1 gs okm r3 ∧
    ds ++ es.map entD = ds1 ++ (gs.map fun g => (c', g)).map entD ++ esR.map entD ∧ ds1.length + gs.length + esR.length < 1000 ∧
    m₁ (Str.ofString "scanner") = some (.ref x) ∧ m₁ (Str.ofString "found") = some (.ref fa) ∧ m₁ (Str.ofString "letter") = some (.str ⟨#[c']⟩ tq)
section
variable {g : Heap} {L' : Addr} {fa d e : Addr} {h' : Heap} {tk' : Nat} {m' : Str → Option Value} {s3 : Shared} {p9 : Int} {t9 tc tq : Tok} {vs1 : List Value} {ds ds1 gds : List Dat} {gs : List (List Dat)} {tl tl1 tl2 : Led} {es esR : List Ent} {c c' n k nn2 kk j : Nat} {ok arc okm : Bool} {rf r9 r3 : List Nat}
theorem grp_fs {dg : Addr} {og ofd : Obj} {vsg : List Value} {nng : Nat} {newg : Led} (ho : og = ⟨.type "tuple", none, .seq vsg.toArray nng, #[]⟩) (N : News g L' h' ((x, instObj 272 dx) :: (dx, scD h1 h2 k1 k2 t1 t9 T p9) :: (dg, og) :: (newg ++ ((fa, ofd) :: tl1)))) (D : DatAll newg vsg gds)
    (fr : ∀ q ∈ (dg, og) :: newg, x < q.1 ∧ dx < q.1 ∧ ∀ b ∈ (fa, ofd) :: tl1, b.1 < q.1) (nx : ∀ q ∈ tl1, q.1 ≠ x) (nd : ∀ q ∈ tl1, q.1 ≠ dx) (nf : ∀ q ∈ tl1, q.1 ≠ fa) :
    ∃ tl2 : Led, News g L' h' ((x, instObj 272 dx) :: (dx, scD h1 h2 k1 k2 t1 t9 T p9) :: (fa, ofd) :: tl2) ∧ DatIn tl2 (.ref dg) (.tuple gds) ∧ (∀ q ∈ tl1, q ∈ tl2) ∧ (∀ q ∈ tl2, q.1 ≠ x) ∧ (∀ q ∈ tl2, q.1 ≠ dx) ∧ (∀ q ∈ tl2, q.1 ≠ fa) := by
  subst ho
  refine ⟨(dg, ⟨.type "tuple", none, .seq vsg.toArray nng, #[]⟩) :: (newg ++ tl1), News.sub N fun q hq => ?_, .tuple (.head _) (DatAll.mono (fun q hq => .tail _ (List.mem_append_left _ hq)) D), fun q hq => .tail _ (List.mem_append_right _ hq), ?_, ?_, ?_⟩
  · simp only [List.mem_cons, List.mem_append] at hq ⊢
    rcases hq with h | h | h | h | h | h <;> simp [h]
  all_goals
    intro q hq
    rw [← List.cons_append] at hq
    rcases List.mem_append.mp hq with hq | hq
    · first | exact Nat.ne_of_gt (fr q hq).1 | exact Nat.ne_of_gt (fr q hq).2.1 | exact Nat.ne_of_gt ((fr q hq).2.2 _ (.head _))
    · first | exact nx q hq | exact nd q hq | exact nf q hq
theorem mj_on (_ : Fr g L' h' m') (N : News g L' h' ((d, tupO [.str ⟨#[c]⟩ tc, .ref e]) :: (x, instObj 272 dx) :: (dx, scD h1 h2 k1 k2 t1 t9 T p9) :: (fa, W.listOf (vs1.toArray.push (.ref d)) nn2) :: tl2))
    (ld : @LT.lt Nat _ x d ∧ @LT.lt Nat _ dx d ∧ @LT.lt Nat _ fa d ∧ AllLt d tl2) (S : FSt x dx fa tl vs1 ds1 tl1) (hs : ∀ q ∈ tl1, q ∈ tl2) (hv : DatIn tl2 (.ref e) (.tuple gds)) (hg : ∀ d ∈ gds, kqdOk 6 d = true) (hc : c < 128)
    (nx : ∀ q ∈ tl2, q.1 ≠ x) (nd : ∀ q ∈ tl2, q.1 ≠ dx) (nf : ∀ q ∈ tl2, q.1 ≠ fa)
    (heq : ds ++ es.map entD = ds1 ++ [entD (c, gds)] ++ (gs.map fun g => (c', g)).map entD ++ esR.map entD) (hsz : ds1.length + 1 + gs.length + esR.length < 1000) (hA : At T p9 r9) (hM : More kk arc j r9 gs okm r3)
    (m1 : m' (Str.ofString "scanner") = some (.ref x)) (m2 : m' (Str.ofString "found") = some (.ref fa)) (m3 : m' (Str.ofString "letter") = some (.str ⟨#[c']⟩ tq)) :
    ∃ nx, News g L' h' nx ∧ MJ T x dx fa h1 h2 k1 k2 t1 ds tl es esR c' kk arc okm r3 j m' nx := by
  have S2 := S.add (tl' := tl2) (d := d) (tc := tc) hs hv hg hc nx nd nf (Nat.ne_of_gt ld.1) (Nat.ne_of_gt ld.2.1) (Nat.ne_of_gt ld.2.2.1)
  have eL : W.listOf (vs1.toArray.push (.ref d)) nn2 = W.listOf (vs1 ++ [Value.ref d]).toArray nn2 := by simp
  rw [eL] at N
  refine ⟨(x, instObj 272 dx) :: (dx, scD h1 h2 k1 k2 t1 t9 T p9) :: (fa, W.listOf (vs1 ++ [Value.ref d]).toArray nn2) :: ((d, tupO [.str ⟨#[c]⟩ tc, .ref e]) :: tl2), News.sub N fun q hq => ?_, _, _, tq, _, _, _, _, gs, r9, rfl, S2, by cases ds1 <;> rfl, hA, hM, heq, ?_, m1, m2, m3⟩
  · simp only [List.mem_cons] at hq ⊢
    rcases hq with h | h | h | h | h <;> simp [h]
  · simp only [List.length_append, List.length_cons, List.length_nil]; omega
end
theorem behind_spec {c : Nat} {ts : Tok}
  (B : Below A₀ base outer h₀) (F : Fr h₀ L s.heap m) (X : (hd.heap_1 w.params).In h₀)
  (N : News h₀ L s.heap rest)
  (Tp : Top view theLoose mean mg mb h₀) (hk : cs.kind = .function)
  (hdp : dp + 4 < recursionLimit) (hun : un + 32 < cLine)

  (hret : ∀ (t : Tok) (h' : Heap) (tk' : Nat), Fr h₀ L h' m → News h₀ L h' rest → Q (.str ⟨#[behindC c]⟩ t) { s with heap := h', toks := tk' }) :
  wpAny (model prog w) (ktrTop dp un gd cn cs L a ccd cl outer) (call (.ref 28) [.str ⟨#[c]⟩ ts]) Q E s := by
  by_cases h1 : c = 77
  · subst h1
    exact behind_some B F X N Tp hk hdp hun (v := ⟨#[76]⟩) (by rfl) hret
  · by_cases h2 : c = 109
    · subst h2
      exact behind_some B F X N Tp hk hdp hun (v := ⟨#[108]⟩) (by rfl) hret
    · refine behind_none B F X N Tp hk hdp hun (v := ⟨#[]⟩) ?_ (fun t h' tk' F' N' => ?_)
      · have n1 : Str.ofString "M" ≠ ⟨#[c]⟩ := fun h => h1 (by have := lit1 (S := Str.ofString "M") (d := 77) (by decide +kernel) c; rw [h] at this; simp at this; exact this.symm)
        have n2 : Str.ofString "m" ≠ ⟨#[c]⟩ := fun h => h2 (by have := lit1 (S := Str.ofString "m") (d := 109) (by decide +kernel) c; rw [h] at this; simp at this; exact this.symm)
        simp only [PySem.Spec.lookup, PyProof.V.same_str, decide_eq_false n1, decide_eq_false n2]
        rfl
      · have : behindC c = c := by simp [behindC, h1, h2]
        rw [this] at hret
        exact hret t h' tk' F' N'
end
theorem off_into : True := by
  w_top off
  k_with_none
  trivial
section
theorem kw_into_1 : True := by
  k_with "ne" => (refine neN ?_; (try dsimp only); first | assumption | exact Ne.symm (by assumption) | exact Nat.ne_of_gt (by assumption) | exact Nat.ne_of_lt (by assumption) | exact lt_1 (by assumption) (by k_mem) | exact lt_2 (by assumption) (by k_mem) | exact Nat.ne_of_gt (And.left (by assumption)) | exact Nat.ne_of_lt (And.left (by assumption)) | exact Nat.ne_of_gt (And.left (And.right (by assumption))) | exact Nat.ne_of_lt (And.left (And.right (by assumption))) | exact Nat.ne_of_gt (And.left (And.right (And.right (by assumption)))) | exact Nat.ne_of_lt (And.left (And.right (And.right (by assumption)))) | exact Nat.ne_of_gt (And.left (And.right (And.right (And.right (by assumption))))) | exact Nat.ne_of_lt (And.left (And.right (And.right (And.right (by assumption))))) | exact Nat.ne_of_gt (And.left (And.right (And.right (And.right (And.right (by assumption)))))) | exact Nat.ne_of_lt (And.left (And.right (And.right (And.right (And.right (by assumption)))))) | exact Nat.ne_of_gt (And.left (And.right (And.right (And.right (And.right (And.right (by assumption))))))) | exact Nat.ne_of_lt (And.left (And.right (And.right (And.right (And.right (And.right (by assumption))))))))
  k_with "newTuple" => (k_here; k_dflt (refine' kup_newTuple ?F ?N ?_ ?z; (case F => k_asm); (case N => k_asm); (case z => kmk_size)); intro D9 h9 F9 N9 u9; (try k_sweep))
  k_with "newList" => (k_here; k_dflt (refine' newList_K ?k1 ?k2 ?_; (case k1 => k_asm); (case k2 => k_asm); k_whole); intro D9 h9 F9 N9 u9; (try k_sweep))
  k_with "execs cons" => (k_here; refine wpAny_execs_cons ?_; k_fold)
  k_with "eval Tuple" => (k_here; k_fold)
  k_with "eval List" => (k_here; k_fold)
  k_with "eval Call Attribute" => (k_here; k_fold)
  k_with "eval Call" => (k_here; k_fold)
  k_with "exec While BoolOp cons nil" => refine Halt.out ?_
  k_with "exec While Compare cons nil" => refine Halt.out ?_
  k_with "exec While Call cons nil" => refine Halt.out ?_
  k_with "eval Name" => (k_here; k_dflt (refine' ld ?k1 ?k2 ?_; (case k1 => k_asm); (case k2 => first | exact rfl | assumption); k_whole))
  k_with "call builtin:len" => (k_here; first | (refine len_is (by assumption) (by omega) ?_; intro _ _) | (refine PySem.P.len_str (by have h9 := (‹At _ _ _›).small; omega) ?_))
  k_with "subscriptTail" => (k_here; (with_reducible show wpAny _ _ (subscriptTail _ _ (Value.str _ _) (Value.int _ _)) _ _ _); k_dflt (refine' item_at ?k1 ?_ ?k2 ?k3; (case k1 => assumption); (case k2 => with_unfolding_all rfl); (case k3 => intro _; with_unfolding_all rfl)); intro _ _)
  k_with "binaryOp Add int int" => (k_here; refine addI ?_; intro _ _)
  k_with "binaryOp Sub int int" => (k_here; refine subI ?_; intro _ _)
  k_with "compareOp In str str" => (k_here; refine in_is (by assumption) ?_)
  k_with "compareOp NotIn str str" => (k_here; refine notin_is (by assumption) ?_)
  k_with "compareOp Eq str str" => (k_here; refine eqs_is (by assumption) ?_)
  k_with "compareOp NotEq str str" => (k_here; refine nes_is (by assumption) ?_)
  k_with "binaryOp FloorDiv int int" => (k_here; refine fdivI (by omega) (by omega) ?_; intro _ _)
  k_with "binaryOp Mod int int" => (k_here; refine fmodI (by omega) ?_; intro _ _)
  k_with "compareOp Eq int int" => (k_here; refine eqi_is (by assumption) ?_)
  k_with "compareOp In str ref" => (k_here; k_dflt (refine' in_two ?k1 ?k2 ?_; (case k1 => exact (News.get (by k_asm) (by k_mem))); (case k2 => assumption)))
  k_with "compareOp NotIn str ref" => (k_here; k_dflt (refine' notin_two ?k1 ?k2 ?_; (case k1 => exact (News.get (by k_asm) (by k_mem))); (case k2 => assumption)))
  k_with "subscriptTail Name Slice str ref" => (k_here; (with_reducible show wpAny _ _ (subscriptTail _ (Expr.Slice (some _) (some _) none _) _ _) _ _ _); (with_reducible rename Fr _ _ _ _ => F'); (with_reducible rename News _ _ _ _ => N'); (refine slice_strN_ss (hsz := ?hsz) (s := ⟨_, _, _, _, _⟩) F' N' ?_); (case hsz => (have h9 := (‹At _ _ _›).small; rw [PySem.sizeLine_eq]; omega)); intro _ _ _ _ _; (try k_sweep))
  k_with "subscriptTail Attribute Slice str ref" => (k_here; (with_reducible show wpAny _ _ (subscriptTail _ (Expr.Slice (some _) (some _) none _) _ _) _ _ _); (with_reducible rename Fr _ _ _ _ => F'); (with_reducible rename News _ _ _ _ => N'); (refine slice_strN_ss (hsz := ?hsz) (s := ⟨_, _, _, _, _⟩) F' N' ?_); (case hsz => (have h9 := (‹At _ _ _›).small; rw [PySem.sizeLine_eq]; omega)); intro _ _ _ _ _; (try k_sweep))
  k_with "newTuple" => (k_here; k_dflt (refine' kup_newTuple ?F ?N ?_ ?z; (case F => k_asm); (case N => k_asm); (case z => kmk_size)); intro D9 h9 F9 N9 u9; (try k_lt u9); (try k_sweep))
  k_with "newList" => (k_here; k_dflt (refine' newList_K ?k1 ?k2 ?_; (case k1 => k_asm); (case k2 => k_asm); k_whole); intro D9 h9 F9 N9 u9; (try k_lt u9); (try k_sweep))
  k_with "isTrue BoolOp" => (k_here; (with_reducible rename Stop 3 => stop9); clear stop9; refine Halt.out ?_)
  k_with "exec If" => (k_here; (with_reducible rename Stop 1 => stop9); clear stop9; refine Halt.out ?_)
  k_with "call ref" => (k_here; (with_reducible show wpAny _ _ (call (Value.ref 269) _) _ _ _); refine Halt.out ?_)
  k_with "call ref" => (k_here; (with_reducible show wpAny _ _ (call (Value.ref 35) _) _ _ _); refine Halt.out ?_)
  k_with "compareOp Eq ref ref" => (k_here; (with_reducible rename Stop 7 => stop9); clear stop9; refine Halt.out ?_)
  k_with "call builtin:list.append" => (k_here; (with_reducible show wpAny _ _ (call (Value.builtin _) [Value.ref _, _]) _ _ _); k_dflt (refine' append_K ?k1 ?k2 ?k3 ?_ ?z; (case k1 => k_asm); (case k2 => k_asm); (case k3 => k_upd); (case z => (rw [PySem.sizeLine_eq, List.size_toArray]; omega)); k_whole); intro h' F' N'; (try k_sweep))
  k_with "call ref" => (k_here; (with_reducible show wpAny _ _ (call (Value.ref 220) _) _ _ _); k_dflt (refine' spaces_spec ?k1 ?k2 ?k3 ?k4 ?k5 ?kK ?kd ?ku ?x0 ?x1 ?x2 ?x3 ?_; (case k1 => k_asm); (case k2 => k_asm); (case k3 => k_asm); (case k4 => first | k_asm | exact News.rot1 (by k_asm) | exact News.rot2 (by k_asm) | exact News.rot3 (by k_asm)); (case k5 => k_asm); (case kK => first | exact rfl | assumption); (case kd => (first | exact rm2 (by assumption) (by exact rfl) | exact rm1 (by assumption) (by exact rfl) | exact rm3 (by assumption) (by exact rfl) | exact rm0 (by assumption) | ktr_room)); (case ku => (first | exact rm2 (by assumption) (by exact rfl) | exact rm1 (by assumption) (by exact rfl) | exact rm3 (by assumption) (by exact rfl) | exact rm0 (by assumption) | ktr_units)); (case x0 => first | assumption | k_ne); (case x1 => k_all); (case x2 => first | assumption | exact At.next (by assumption) | exact At.back (by assumption)); (case x3 => first | assumption | exact rfl); k_whole); intro p9 t9 h9 tk9 A9 F9 N9; (try k_sweep))
  k_with "call ref" => (k_here; (with_reducible show wpAny _ _ (call (Value.ref 28) _) _ _ _); k_dflt (refine' behind_spec ?k1 ?k2 ?k3 ?k4 ?k5 ?kK ?kd ?ku  ?_; (case k1 => k_asm); (case k2 => k_asm); (case k3 => k_asm); (case k4 => k_asm); (case k5 => k_asm); (case kK => first | exact rfl | assumption); (case kd => (first | exact rm2 (by assumption) (by exact rfl) | exact rm1 (by assumption) (by exact rfl) | exact rm3 (by assumption) (by exact rfl) | exact rm0 (by assumption) | ktr_room)); (case ku => (first | exact rm2 (by assumption) (by exact rfl) | exact rm1 (by assumption) (by exact rfl) | exact rm3 (by assumption) (by exact rfl) | exact rm0 (by assumption) | ktr_units)); k_whole); intro t9 h9 tk9 F9 N9; (try k_sweep))
  k_with "call ref" => (k_here; (with_reducible show wpAny _ _ (call (Value.ref 42) _) _ _ _); k_dflt (refine' goes_yes ?k1 ?k2 ?k3 ?k4 ?k5 ?kK ?kd ?ku ?x0 ?x1 ?x2 ?x3 ?x4 ?_; (case k1 => k_asm); (case k2 => k_asm); (case k3 => k_asm); (case k4 => first | k_asm | exact News.rot1 (by k_asm) | exact News.rot2 (by k_asm) | exact News.rot3 (by k_asm)); (case k5 => k_asm); (case kK => first | exact rfl | assumption); (case kd => (first | exact rm2 (by assumption) (by exact rfl) | exact rm1 (by assumption) (by exact rfl) | exact rm3 (by assumption) (by exact rfl) | exact rm0 (by assumption) | ktr_room)); (case ku => (first | exact rm2 (by assumption) (by exact rfl) | exact rm1 (by assumption) (by exact rfl) | exact rm3 (by assumption) (by exact rfl) | exact rm0 (by assumption) | ktr_units)); (case x0 => first | assumption | k_ne); (case x1 => k_all); (case x2 => first | assumption | exact At.next (by assumption) | exact At.back (by assumption) | exact At.next (At.next (by assumption))); (case x3 => assumption); (case x4 => assumption); k_whole); intro p9 t9 h9 tk9 A9 F9 N9; (try k_sweep))
  k_with "call ref" => (k_here; (with_reducible show wpAny _ _ (call (Value.ref 42) _) _ _ _); k_dflt (refine' goes_no ?k1 ?k2 ?k3 ?k4 ?k5 ?kK ?kd ?ku ?x0 ?x1 ?x2 ?x3 ?x4 ?_; (case k1 => k_asm); (case k2 => k_asm); (case k3 => k_asm); (case k4 => first | k_asm | exact News.rot1 (by k_asm) | exact News.rot2 (by k_asm) | exact News.rot3 (by k_asm)); (case k5 => k_asm); (case kK => first | exact rfl | assumption); (case kd => (first | exact rm2 (by assumption) (by exact rfl) | exact rm1 (by assumption) (by exact rfl) | exact rm3 (by assumption) (by exact rfl) | exact rm0 (by assumption) | ktr_room)); (case ku => (first | exact rm2 (by assumption) (by exact rfl) | exact rm1 (by assumption) (by exact rfl) | exact rm3 (by assumption) (by exact rfl) | exact rm0 (by assumption) | ktr_units)); (case x0 => first | assumption | k_ne); (case x1 => k_all); (case x2 => first | assumption | exact At.next (by assumption) | exact At.back (by assumption) | exact At.next (At.next (by assumption))); (case x3 => assumption); (case x4 => assumption); k_whole); intro p9 t9 h9 tk9 A9 F9 N9; (try k_sweep))
  k_with "call ref" => (k_here; (with_reducible show wpAny _ _ (call (Value.ref 42) _) _ _ _); k_dflt (refine' goes_bad ?k1 ?k2 ?k3 ?k4 ?k5 ?kK ?kd ?ku ?x0 ?x1 ?x2 ?x3 ?x4 ?_; (case k1 => k_asm); (case k2 => k_asm); (case k3 => k_asm); (case k4 => first | k_asm | exact News.rot1 (by k_asm) | exact News.rot2 (by k_asm) | exact News.rot3 (by k_asm)); (case k5 => k_asm); (case kK => first | exact rfl | assumption); (case kd => (first | exact rm2 (by assumption) (by exact rfl) | exact rm1 (by assumption) (by exact rfl) | exact rm3 (by assumption) (by exact rfl) | exact rm0 (by assumption) | ktr_room)); (case ku => (first | exact rm2 (by assumption) (by exact rfl) | exact rm1 (by assumption) (by exact rfl) | exact rm3 (by assumption) (by exact rfl) | exact rm0 (by assumption) | ktr_units)); (case x0 => first | assumption | k_ne); (case x1 => k_all); (case x2 => first | assumption | exact At.next (by assumption) | exact At.back (by assumption) | exact At.next (At.next (by assumption))); (case x3 => assumption); (case x4 => assumption); k_whole); intro p9 t9 e9 h9 tk9 A9 R9; (try k_sweep))
  k_with "call ref" => (k_here; (with_reducible show wpAny _ _ (call (Value.ref 213) _) _ _ _); k_dflt (refine' fault_spec ?k1 ?k2 ?k3 ?k4 ?k5 ?kK ?kd ?ku  ?_; (case k1 => k_asm); (case k2 => k_asm); (case k3 => k_asm); (case k4 => first | k_asm | exact News.rot1 (by k_asm) | exact News.rot2 (by k_asm) | exact News.rot3 (by k_asm)); (case k5 => k_asm); (case kK => first | exact rfl | assumption); (case kd => (first | exact rm2 (by assumption) (by exact rfl) | exact rm1 (by assumption) (by exact rfl) | exact rm3 (by assumption) (by exact rfl) | exact rm0 (by assumption) | ktr_room)); (case ku => (first | exact rm2 (by assumption) (by exact rfl) | exact rm1 (by assumption) (by exact rfl) | exact rm3 (by assumption) (by exact rfl) | exact rm0 (by assumption) | ktr_units)); k_whole); intro e9 h9 tk9 R9; (try k_sweep))
  k_with "leaving ref" => (k_here; (refine gone_on (by assumption) (by assumption) ?_); intro h9 G9; (try dsimp only))
  trivial
theorem into_spec {fa : Addr} {vs : List Value} {nn : Nat} {ds : List Dat} {tl : Led} {es : List Ent} {ok : Bool} {rf : List Nat} {k : Nat}
  (B : Below A₀ base outer h₀) (F : Fr h₀ L s.heap m) (X : (hd.heap_1 w.params).In h₀)
  (N : News h₀ L s.heap ((x, instObj 272 dx) :: (dx, scD h1 h2 k1 k2 t1 t2 T p) :: (fa, W.listOf vs.toArray nn) :: tl))
  (Tp : Top view theLoose mean mg mb h₀) (hk : cs.kind = .function)
  (hdp : dp + 60 < recursionLimit) (hun : un + 480 < cLine)
 (hxd : x ≠ dx) (hfx : fa ≠ x) (hfd : fa ≠ dx) (htx : ∀ q ∈ tl, q.1 ≠ x) (htd : ∀ q ∈ tl, q.1 ≠ dx) (htf : ∀ q ∈ tl, q.1 ≠ fa) (hA : At T p r) (hC : Cmd k ds.isEmpty r es ok rf)
  (hD : DatAll tl vs ds) (hok : ∀ d ∈ ds, kqdOk 8 d = true) (hsz : ds.length + es.length < 1000)
  (hret : ∀ (p' : Int) (t2' : Tok) (vs' : List Value) (nn' : Nat) (tl' : Led) (h' : Heap) (tk' : Nat), ok = true → At T p' rf → Fr h₀ L h' m → News h₀ L h' ((x, instObj 272 dx) :: (dx, scD h1 h2 k1 k2 t1 t2' T p') :: (fa, W.listOf vs'.toArray nn') :: tl') → DatAll tl' vs' (ds ++ es.map entD) → (∀ q ∈ tl, q ∈ tl') → (∀ d ∈ ds ++ es.map entD, kqdOk 8 d = true) → Q .none { s with heap := h', toks := tk' })
  (hE : ∀ (p' : Int) (t2' : Tok) (e : Addr) (vs' : List Value) (nn' : Nat) (tl' : Led) (h' : Heap) (tk' : Nat), ok = false → At T p' rf → Thrown base h₀ L m (envX cn cs L a ccd cl :: outer) e p' ((x, instObj 272 dx) :: (dx, scD h1 h2 k1 k2 t1 t2' T p') :: (fa, W.listOf vs'.toArray nn') :: tl') h' → DatAll tl' vs' (ds ++ es.map entD) → (∀ q ∈ tl, q ∈ tl') → (∀ d ∈ ds ++ es.map entD, kqdOk 8 d = true) → E (.ref e) { s with heap := h', toks := tk' }) :
  wpAny (model prog w) (ktrTop dp un gd cn cs L a ccd cl outer) (call (.ref 49) [.ref x, .ref fa]) Q E s := by
  refine wpAny_call ?_
  k_dflt (refine' code_def (binds := [(Str.ofString "scanner", .ref x), (Str.ofString "found", .ref fa)]) ?k1 ?k2 ?k3 ?k4 ?k5 ?kA ?kF ?kK ?k6 ?k7 ?k8 ?k9 ?kB ?_ ?c2 ?c3 ?c4 ?c5; (case kA => exact rfl); (case kF => exact rfl); (case kK => assumption); (case k1 => k_asm); (case k2 => k_asm); (case k3 => k_asm); (case k4 => k_asm); (case k5 => k_asm); (case k6 => k_is); (case k7 => k_is); (case k8 => (first | exact rm2 (by assumption) (by exact rfl) | exact rm1 (by assumption) (by exact rfl) | exact rm3 (by assumption) (by exact rfl) | exact rm0 (by assumption) | ktr_room)); (case k9 => first | exact BindsTo.of_eq rfl | exact binds_K (by k_in) rfl (by k_is) rfl rfl rfl); (case c5 => decide); (case kB => exact locs rfl); (case c2 => exact rfl); (case c3 => exact rfl); (case c4 => exact rfl); k_whole; intro g L' h' FG F1 N1 B1 X1 T1; (try k_fold))
  replace F1 := fr_of2 F1
  k_steps
  refine Halt.mk ?_
  (with_reducible rename Fr g _ _ _ => F2)
  (with_reducible rename News g _ _ _ => N2)
  k_dflt (refine' cmd_call ?k1 ?k2 ?k3 ?k4 ?k5 ?kK ?kd ?ku ?x0 ?x1 ?x2 ?x3 ?_ ?_; (case k1 => exact B1); (case k2 => exact F2); (case k3 => exact X1); (case k4 => exact N2); (case k5 => exact T1); (case kK => exact rfl); (case kd => (first | exact rm2 (by assumption) (by exact rfl) | exact rm1 (by assumption) (by exact rfl) | exact rm3 (by assumption) (by exact rfl) | exact rm0 (by assumption) | ktr_room)); (case ku => (first | exact rm2 (by assumption) (by exact rfl) | exact rm1 (by assumption) (by exact rfl) | exact rm3 (by assumption) (by exact rfl) | exact rm0 (by assumption) | ktr_units)); (case x0 => exact hxd); (case x1 => exact ne_cons hfd htd); (case x2 => exact hA); (case x3 => exact hC); k_whole)
  rotate_left
  · intro p' t2' e' h' tk' ho he A' R'
    subst he
    k_steps
    exact hE _ _ _ _ _ tl _ _ ho A' ⟨_, FG, (by assumption)⟩ (by simpa using hD) (fun _ h => h) (by simpa using hok)
  intro p' v t2' n0 h' tk' H0 hn0 F3 N3
  clear F2 N2
  k_steps
  refine Halt.mk ?_
  (with_reducible rename Fr g _ _ _ => F4)
  (with_reducible rename News g _ _ _ => N4)
  refine While_inv2 (IJ T x dx fa h1 h2 k1 k2 t1 ds tl es ok rf) F4 N4 ⟨p', t2', vs, nn, ds, tl, es, v, rfl, hD, hok, htx, htd, htf, fun _ h => h, rfl, hsz, H0, rfl, rfl, rfl⟩ ?_ ?_
  rotate_left
  · passes_own
  clear F4 N4 H0
  rintro n m1 nx hh tk F2 N2 ⟨p1, t1', vs1, nn1, ds1, tl1, es1, v1, rfl, hD1, hok1, hx1, hd1, hf1, hsub, heq, hsz1, H1, q1, q2, q3⟩
  rcases H1 with ⟨rfl, rfl, rfl, rfl, A1, rfl⟩ | ⟨c, tc, r1, k1', rfl, hlet, A1, A1b, hB, rfl⟩
  · k_steps
    simp only [List.map_nil, List.append_nil] at heq
    subst heq
    exact hret _ _ vs1 nn1 tl1 _ _ rfl A1 (by assumption) (by assumption) (by simpa using hD1) hsub (by simpa using hok1)
  · have e2 := mm_in c
    have e3 := zz_in c
    generalize he : ds1.isEmpty = e1 at hB
    have st3 : Stop 3 := trivial
    k_steps
    refine Halt.mk ?_
    refine cutB (e1 && !isMm c) F2 N2 ?_ ?_
    · have st7 : Stop 7 := trivial
      k_steps
      refine Halt.mk ?_
      (with_reducible rename News _ _ _ _ => N9)
      refine found_nil N9 (.tail _ (.tail _ (.tail _ (.head _)))) hD1 (fun q hq => .tail _ (.tail _ (.tail _ (.tail _ hq)))) (.head _) hok1 he (by first | ke_room | (first | exact rm2 (by assumption) (by exact rfl) | exact rm1 (by assumption) (by exact rfl) | exact rm3 (by assumption) (by exact rfl) | exact rm0 (by assumption) | ktr_units)) ?_
      cases e1
      · k_steps
        exact ⟨by simp, _, _, rfl, by assumption, News.tl N9⟩
      · cases hm : isMm c <;> rw [hm] at e2
        all_goals k_steps
        all_goals exact ⟨by simp, _, _, rfl, by assumption, News.tl N9⟩
    · intro h3 tk3 F3 N3
      clear F2 N2
      have z1 : @Ne Nat fa x := hfx
      have z2 : @Ne Nat fa dx := hfd
      have hv1 : vs1.length < 1000 := by have := hD1.length; omega
      have hre1 : ∀ q ∈ (fa, W.listOf vs1.toArray nn1) :: tl1, q.1 ≠ dx := ne_cons hfd hd1
      cases hbb : (e1 && !isMm c) with
      | true =>
        cases hB with
        | noMove hm =>
          k_steps
          exact hE _ _ _ vs1 nn1 tl1 _ _ rfl A1b ⟨_, FG, (by assumption)⟩ (by rw [heq]; simpa using hD1) hsub (by rw [heq]; simpa using hok1)
        | close hmm => rw [hmm] at hbb; cases hbb
        | bad1 hmm => rw [hmm] at hbb; cases hbb
        | badM hmm => rw [hmm] at hbb; cases hbb
        | go hmm => rw [hmm] at hbb; cases hbb
      | false =>
        have st1 : Stop 1 := trivial
        k_steps
        refine Halt.mk ?_
        refine cutX (CJ T x dx fa h1 h2 k1 k2 t1 ds tl es ok rf (k1' + 1)) F3 ?_ ?_
        · cases hz : isZz c with
          | true =>
            obtain ⟨k2', es2, rfl, rfl, hC'⟩ := body_close hB hbb hz
            rw [hz] at e3
            k_steps
            exact fin_close (by assumption) (by assumption) (by assumption) (by assumption) ⟨hD1, hok1, hx1, hd1, hf1, hsub⟩ (let_lt hlet) heq hsz1 A1 hC' (by omega) q1 q2
          | false =>
            rw [hz] at e3
            rcases body_grp hB hbb hz with ⟨kk, arc, hL, hG, rfl, rfl⟩ | ⟨kk, arc, gds, r2, j, gs, okm, r3, esR, hL, hL2, hG, hM, rfl, hT, hFl⟩
            · k_steps
              refine Halt.mk ?_
              (with_reducible rename Fr g _ _ _ => F4)
              (with_reducible rename News g _ _ _ => N4)
              (with_reducible rename At T _ (List.dropWhile _ _) => A4)
              k_dflt (refine' group_no ?k1 ?k2 ?k3 ?k4 ?k5 ?kK ?kd ?ku ?x0 ?x1 ?x2 ?x3 ?x4 ?_; (case k1 => exact B1); (case k2 => exact F4); (case k3 => exact X1); (case k4 => exact N4); (case k5 => exact T1); (case kK => exact rfl); (case kd => (first | exact rm2 (by assumption) (by exact rfl) | exact rm1 (by assumption) (by exact rfl) | exact rm3 (by assumption) (by exact rfl) | exact rm0 (by assumption) | ktr_room)); (case ku => (first | exact rm2 (by assumption) (by exact rfl) | exact rm1 (by assumption) (by exact rfl) | exact rm3 (by assumption) (by exact rfl) | exact rm0 (by assumption) | ktr_units)); (case x0 => exact hxd); (case x1 => exact ne_cons hfd hd1); (case x2 => exact A4); (case x3 => exact hL); (case x4 => exact hG); k_whole)
              intro p5 t5 e5 h5 tk5 A5 R5
              k_steps
              exact hE _ _ _ vs1 nn1 tl1 _ _ rfl A5 ⟨_, FG, (by assumption)⟩ (by rw [heq]; simpa using hD1) hsub (by rw [heq]; simpa using hok1)
            · k_steps
              refine Halt.mk ?_
              (with_reducible rename Fr g _ _ _ => F4)
              (with_reducible rename News g _ _ _ => N4)
              (with_reducible rename At T _ (List.dropWhile _ _) => A4)
              k_dflt (refine' group_ok ?k1 ?k2 ?k3 ?k4 ?k5 ?kK ?kd ?ku ?x0 ?x1 ?x2 ?x3 ?x4 ?_; (case k1 => exact B1); (case k2 => exact F4); (case k3 => exact X1); (case k4 => exact N4); (case k5 => exact T1); (case kK => exact rfl); (case kd => (first | exact rm2 (by assumption) (by exact rfl) | exact rm1 (by assumption) (by exact rfl) | exact rm3 (by assumption) (by exact rfl) | exact rm0 (by assumption) | ktr_room)); (case ku => (first | exact rm2 (by assumption) (by exact rfl) | exact rm1 (by assumption) (by exact rfl) | exact rm3 (by assumption) (by exact rfl) | exact rm0 (by assumption) | ktr_units)); (case x0 => exact hxd); (case x1 => exact ne_cons hfd hd1); (case x2 => exact A4); (case x3 => exact hL); (case x4 => exact hG); k_whole)
              intro dg vsg nng newg p5 t5 h5 tk5 A5 F5 N5 D5 fr5
              obtain ⟨tl2, N6, hv2, hs2, nx2, nd2, nf2⟩ := grp_fs rfl N5 D5 fr5 hx1 hd1 hf1
              clear N5 fr5 F4 N4
              k_steps
              refine Halt.mk ?_
              (with_reducible rename Fr g _ _ _ => F7)
              (rename News g _ _ ((_, tupO _) :: _) => N7)
              obtain ⟨nx0, N8, J8⟩ := mj_on (es := es) (ds := ds) (esR := esR) (gs := gs) (c' := behindC c) (kk := kk) (arc := arc) (okm := okm) (r3 := r3) (j := j) F7 N7 (by assumption) ⟨hD1, hok1, hx1, hd1, hf1, hsub⟩ hs2 hv2 (any_ok hG _ rfl) (let_lt hlet) nx2 nd2 nf2 (by rw [heq]; simp) (by simp at hsz1; omega) A5 hM (by exact q1) (by exact q2) (by exact rfl)
              clear N7
              refine While_inv2 (MJ T x dx fa h1 h2 k1 k2 t1 ds tl es esR (behindC c) kk arc okm r3) F7 N8 J8 ?_ ?_
              rotate_left
              · passes_own
              rintro n8 m8 nx8 h8 tk8 F8 N8 ⟨p9, t9, tq9, vs9, nn9, ds9, tl9, gs9, r9, rfl, S9, hem9, A9, hM9, heq9, hsz9, u1, u2, u3⟩
              clear F7
              have hre9 : ∀ q ∈ (fa, W.listOf vs9.toArray nn9) :: tl9, q.1 ≠ dx := ne_cons hfd S9.nd
              cases hM9 with
              | stop hs hl =>
                obtain ⟨k2', hk2, hC2⟩ := hT rfl
                k_steps
                (with_reducible rename News g _ _ _ => N9)
                exact ⟨rfl, _, _, _, _, rfl, (by assumption), N9, _, _, vs9, nn9, ds9, tl9, esR, _, k2', rfl, S9.dat, S9.ok, S9.nx, S9.nd, S9.nf, S9.sub, (by rw [heq9]; simp), (by simp at hsz9; omega), (by assumption), (by rw [hem9]; exact hC2), (by omega), u1, u2⟩
              | comma hs hl =>
                obtain ⟨ho, hee, hr⟩ := hFl rfl
                k_steps
                exact hE _ _ _ vs9 nn9 tl9 _ _ ho (by rw [hr]; assumption) ⟨_, FG, (by assumption)⟩ (by rw [heq9, hee]; simpa using S9.dat) S9.sub (by rw [heq9, hee]; simpa using S9.ok)
              | fail hs hl hG9 =>
                obtain ⟨ho, hee, hr⟩ := hFl rfl
                k_steps
                refine Halt.mk ?_
                (with_reducible rename Fr g _ _ _ => F4)
                (with_reducible rename News g _ _ _ => N4)
                (with_reducible rename At T _ _ => A4)
                k_dflt (refine' group_no ?k1 ?k2 ?k3 ?k4 ?k5 ?kK ?kd ?ku ?x0 ?x1 ?x2 ?x3 ?x4 ?_; (case k1 => exact B1); (case k2 => exact F4); (case k3 => exact X1); (case k4 => exact N4); (case k5 => exact T1); (case kK => exact rfl); (case kd => (first | exact rm2 (by assumption) (by exact rfl) | exact rm1 (by assumption) (by exact rfl) | exact rm3 (by assumption) (by exact rfl) | exact rm0 (by assumption) | ktr_room)); (case ku => (first | exact rm2 (by assumption) (by exact rfl) | exact rm1 (by assumption) (by exact rfl) | exact rm3 (by assumption) (by exact rfl) | exact rm0 (by assumption) | ktr_units)); (case x0 => exact hxd); (case x1 => exact hre9); (case x2 => exact A4); (case x3 => exact hL2); (case x4 => exact hG9); k_whole)
                intro p5 t5 e5 h5 tk5 A5 R5
                k_steps
                exact hE _ _ _ vs9 nn9 tl9 _ _ ho (by rw [hr]; assumption) ⟨_, FG, (by assumption)⟩ (by rw [heq9, hee]; simpa using S9.dat) S9.sub (by rw [heq9, hee]; simpa using S9.ok)
              | next hs hl hG9 hM9 =>
                have hv9 : vs9.length < 1000 := by have := S9.dat.length; omega
                k_steps
                refine Halt.mk ?_
                (with_reducible rename Fr g _ _ _ => F4)
                (with_reducible rename News g _ _ _ => N4)
                (with_reducible rename At T _ _ => A4)
                k_dflt (refine' group_ok ?k1 ?k2 ?k3 ?k4 ?k5 ?kK ?kd ?ku ?x0 ?x1 ?x2 ?x3 ?x4 ?_; (case k1 => exact B1); (case k2 => exact F4); (case k3 => exact X1); (case k4 => exact N4); (case k5 => exact T1); (case kK => exact rfl); (case kd => (first | exact rm2 (by assumption) (by exact rfl) | exact rm1 (by assumption) (by exact rfl) | exact rm3 (by assumption) (by exact rfl) | exact rm0 (by assumption) | ktr_room)); (case ku => (first | exact rm2 (by assumption) (by exact rfl) | exact rm1 (by assumption) (by exact rfl) | exact rm3 (by assumption) (by exact rfl) | exact rm0 (by assumption) | ktr_units)); (case x0 => exact hxd); (case x1 => exact hre9); (case x2 => exact A4); (case x3 => exact hL2); (case x4 => exact hG9); k_whole)
                intro dg vsg nng newg p5 t5 h5 tk5 A5 F5 N5 D5 fr5
                obtain ⟨tl2, N6, hv2, hs2, nx2, nd2, nf2⟩ := grp_fs rfl N5 D5 fr5 S9.nx S9.nd S9.nf
                clear N5 fr5 F4 N4
                k_steps
                (with_reducible rename Fr g _ _ _ => F7)
                (rename News g _ _ ((_, tupO _) :: _) => N7)
                obtain ⟨nx0, N8, J8⟩ := mj_on (es := es) (ds := ds) (esR := esR) (c' := behindC c) (kk := kk) (arc := arc) (okm := okm) (r3 := r3) F7 N7 (by assumption) S9 hs2 hv2 (any_ok hG9 _ rfl) (behind_lt hlet) nx2 nd2 nf2 (by rw [heq9]; simp) (by simp at hsz9; omega) A5 hM9 (by exact u1) (by exact u2) (by exact u3)
                exact ⟨_, _, _, nx0, _, rfl, F7, N8, Nat.lt_succ_self _, J8⟩
        · rintro m5 n5 h5 tk5 F5 N5 ⟨p5, t5, vs5, nn5, ds5, tl5, es5, r5, k5, rfl, hD5, hok5, hx5, hd5, hf5, hsub5, heq5, hsz5, A5, hC5, hk5, m51, m52⟩
          k_steps
          refine Halt.mk ?_
          (with_reducible rename Fr g _ _ _ => F6)
          (with_reducible rename News g _ _ _ => N6)
          k_dflt (refine' cmd_call ?k1 ?k2 ?k3 ?k4 ?k5 ?kK ?kd ?ku ?x0 ?x1 ?x2 ?x3 ?_ ?_; (case k1 => exact B1); (case k2 => exact F6); (case k3 => exact X1); (case k4 => exact N6); (case k5 => exact T1); (case kK => exact rfl); (case kd => (first | exact rm2 (by assumption) (by exact rfl) | exact rm1 (by assumption) (by exact rfl) | exact rm3 (by assumption) (by exact rfl) | exact rm0 (by assumption) | ktr_room)); (case ku => (first | exact rm2 (by assumption) (by exact rfl) | exact rm1 (by assumption) (by exact rfl) | exact rm3 (by assumption) (by exact rfl) | exact rm0 (by assumption) | ktr_units)); (case x0 => exact hxd); (case x1 => exact ne_cons hfd hd5); (case x2 => exact A5); (case x3 => exact hC5); k_whole)
          · intro p6 v6 t6 n6 h6 tk6 H6 hn6 F7 N7
            k_steps
            exact ⟨_, _, _, _, n6, rfl, by assumption, by assumption, by omega, p6, t6, vs5, nn5, ds5, tl5, es5, v6, rfl, hD5, hok5, hx5, hd5, hf5, hsub5, heq5, hsz5, H6, (by first | exact rfl | assumption), (by first | exact rfl | assumption), rfl⟩
          · intro p6 t6 e6 h6 tk6 ho he A6 R6
            subst he
            k_steps
            exact hE _ _ _ vs5 nn5 tl5 _ _ ho A6 ⟨_, FG, (by assumption)⟩ (by rw [heq5]; simpa using hD5) hsub5 (by rw [heq5]; simpa using hok5)
end
theorem off_caught : True := by
  w_top off
  k_with_none
  trivial
section
section
variable {w : World} {prog : Program} {mean : ExcName → Option Value} {mg mb : Str → Option Value} {A₀ : Around} {base g G : Heap} {outer : List Env} {L a e : Addr} {m : Str → Option Value} {name : Str} {scope : Scope} {cd : Value} {news : Led} {z : Int}
  {s' : Shared} {Q : Flow → Shared → Prop} {E : Value → Shared → Prop} {x n : Str} {np pos : Pos} {b₀ : Stmt} {suite : List Stmt} {rest : List ExceptHandler}
/-- a PathFault is caught by name -/
theorem caught_pf (R : Gone base G (envOf name scope L a cd :: outer) e z news s'.heap) (F : Fr g L G m) (K : Below A₀ base outer g) (XB : (hd.heap_1 w.params).In base) (TB : Top view theLoose mean mg mb base)
    (D : KtsDicts (outer.filterMap (·.frame)) g)
    (ex : nsIn (hd.heap_1 w.params) mainGlobals x = some (some (.ref 98))) (q : ktsIn (hd.heap_1 w.params) 98 "BaseException" = true)
    (k : ∀ h' g' tk oe vs d hs1 hs2 t1 t2 ta tb msg, KtsTurn (outer.filterMap (·.frame)) g g' → Fr g' L h' (fun y => if y = n then some (.ref e) else m y) → News g' L h' ((e, oe) :: (d, pfD hs1 hs2 t1 t2 ta tb msg z) :: news) → oe.cls = .ref 98 → oe.dict = some d → oe.data = .fields vs →
      Below A₀ base outer g' → (hd.heap_1 w.params).In g' → Top view theLoose mean mg mb g' → KtsDicts (outer.filterMap (·.frame)) g' →
      wpAny (model prog w) ((A₀.deeper (envOf name scope L a cd)).mark (some (.ref e))) (execs (b₀ :: suite) (envOf name scope L a cd))
        (fun f s₄ => wpAny (model prog w) (A₀.deeper (envOf name scope L a cd)) (do bindName (envOf name scope L a cd) n .none; unbindBehindTheSuite (envOf name scope L a cd) n pos) (fun _ s₅ => Q f s₅) E s₄)
        (AsSuiteRaised (model prog w) ((A₀.deeper (envOf name scope L a cd)).mark (some (.ref e))) (envOf name scope L a cd) n pos (notedBy (model prog w) ((A₀.deeper (envOf name scope L a cd)).mark (some (.ref e))) (envOf name scope L a cd) (cameBackBy (model prog w) (A₀.deeper (envOf name scope L a cd)) (envOf name scope L a cd) E)))
        { s' with heap := h', toks := tk })
    (hk : scope.kind = .function) (hlo : (envOf name scope L a cd).kindOf n = some .local) (hx : (envOf name scope L a cd).kindOf x = some .globalImplicit) (hdb : (x == ("__debug__" : Str)) = false) :
    wpAny (model prog w) (A₀.deeper (envOf name scope L a cd)) (noteFrame (.ref e) (envOf name scope L a cd))
      (fun _ s₂ => wpAny (model prog w) (A₀.deeper (envOf name scope L a cd)) (setFlight (.ref e) none) (fun _ s₃ =>
        wpAny (model prog w) (A₀.deeper (envOf name scope L a cd)) (handleBy (.ref e) (envOf name scope L a cd) (.ExceptHandler (some (.Name x np)) (some n) (b₀ :: suite) pos :: rest)) Q E s₃) E s₂) E s' := by
  obtain ⟨⟨B, a0, d, hs1, hs2, t1, t2, ta, tb, msg, hB, hBG, hl, hfl⟩, hsm⟩ := R
  have hL : B.get? L = none := (hfl.frames.mem (b := L) (List.mem_filterMap.mpr ⟨_, .head _, rfl⟩)).1
  refine fly_note (Around.frames_deeper K.stack) rfl hfl fun h₄ R₄ sm₄ => ?_
  refine fly_turn (f := none) rfl R₄ fun h₅ R₅ sm₅' => ?_
  have sm₅ := sm₄.trans sm₅'
  obtain ⟨g₅, T₅, F₅, K₅⟩ := kts_ground K F hBG R₅.keep (hsm.trans sm₅)
  have X₅ := XB.keeps K₅.stays
  have P₅ : TopRead view theLoose mg mb g₅ := topRead_of (TB.keeps K₅.stays)
  obtain ⟨oe₅, vs₅, T₅', oT₅, ts₅, he₅, hc₅, _⟩ := R₅.there
  obtain ⟨nm, q', N, bs, bm, hdct, sn, sub, ab, col, dd, k0, k1, k2, k3, k5, newId, hC, hbase, hbT⟩ := kts_cls X₅ q
  have hC₅ := F₅.keep _ _ hC
  refine wpAny_handleBy_cons (codeAny_handlers_test (name_K F₅ X₅ P₅ ex ?_ hk hx hdb)) (by intro q; cases q)
  refine wpAny_excMatches_sub_self hC₅ he₅ hc₅ hbase (codeAny_handlers_suite_as ?_)
  refine fly_turn (f := none) rfl R₅ fun h₆ R₆ sm₆ => ?_
  obtain ⟨g₆, T₆, F₆, K₆⟩ := kts_ground K F hBG R₆.keep ((hsm.trans sm₅).trans sm₆)
  obtain ⟨oe, vs, T, oT, ts, hoe, hoec, hoedd, hoed, _⟩ := R₆.there
  have ne₆ : g₆.get? e = none := T₆.none_ _ (kts_fresh F hBG R₆.new fun o ho mm => by
    obtain ⟨_, o', ho', hdd⟩ := K.frames.mem mm
    rw [ho] at ho'
    cases ho'
    obtain ⟨sl, hs⟩ := ((hsm.trans sm₅).trans sm₆) _ _ (F.keep _ _ ho) hdd
    rw [hoe] at hs
    cases hs
    exact hdd _ hoed)
  have N₆ := News.more F₆ News.nil hoe (fun es n q => by rw [hoed] at q; cases q) ne₆
  have Nl : News g₆ L h₆ ((d, pfD hs1 hs2 t1 t2 ta tb msg z) :: news) := fun q hq => ⟨R₆.keep _ _ (hl q hq).1, (fun z => by have := (hl q hq).1; rw [z, hL] at this; cases this), T₆.none_ _ (kts_none F.keep (hl q hq).2.1)⟩
  refine stN F₆ (news := _ ++ ((d, pfD hs1 hs2 t1 t2 ta tb msg z) :: news)) (fun q hq => (List.mem_append.mp hq).elim (N₆ q) (Nl q)) (fun h₇ F₇ N₇ => ?_) hk hlo
  exact k h₇ g₆ _ oe vs d hs1 hs2 t1 t2 ta tb msg T₆ F₇ N₇ hoec hoedd hoed K₆ (XB.keeps K₆.stays) (TB.keeps K₆.stays) (D.turn T₆)
end
end
theorem off_excget : True := by
  w_top off
  k_with_none
  trivial
section
section
variable {w : World} {prog : Program} {A : Around} {E : Value → Shared → Prop} {s : Shared} {e : Addr} {ox : Obj} {od : Option Obj} {name : Str} {expr : Bool} {Q : Value → Shared → Prop}
theorem pf_ga : findIn (hd.heap_1 w.params) (.ref 98) "__getattribute__" = some (some (.builtin "BaseException.__getattribute__")) := by rfl
theorem pf_noga : findIn (hd.heap_1 w.params) (.ref 98) "__getattr__" = some none := by rfl
theorem exc_get {v : Value} (X : (hd.heap_1 w.params).In s.heap) (I : InstAt s.heap e ox 98 od) (hf : findObj (hd.heap_1 w.params) 98 od name = some (.value v)) (hh : handedIn v = true) (h : Q v { s with toks := s.toks + 1 }) :
    wpAny (model prog w) A (getAttr (.ref e) name expr) Q E s := by
  obtain ⟨hp, g, d, t, os⟩ := s
  have L0 := I.type (M := model prog w)
  have L1 := looks_findIn (M := model prog w) X (pf_ga (w := w))
  have L2 := looks_findIn (M := model prog w) X (pf_noga (w := w))
  have L3 := looks_find (M := model prog w) X I hf
  unfold getAttr getAttrBy
  refine wpAny_bind (wpAny_mkText (wpAny_holding (wpAny_bind (L0.at (wpAny_bind (L1.at ?_))))))
  have hx2 : (Value.builtin "BaseException.__getattribute__" == Value.builtin "object.__getattribute__") = false := by decide +kernel
  have hx1 : (onTheHeap (Value.ref 98) && Value.builtin "BaseException.__getattribute__" == Value.builtin "object.__getattribute__") = false := by rw [hx2]; rfl
  dsimp only
  rw [hx1]
  unfold getAttrByItsOwn hookBefore
  repeat (first | refine wpAny_bind (L2.at ?_) | wp_step)
  have hxe : (expr && onTheHeap (Value.builtin "BaseException.__getattribute__")) = false := by cases expr <;> rfl
  rw [hxe, if_neg (by decide)]
  have FB := PySem.F.excAttr_ValueError
  have f3 := FB.ga.bind (.ref e)
  repeat (any_goals (first | assumption | wp_step))
  have hc : clsIn (hd.heap_1 w.params) 98 = some { name := Str.ofString "PathFault", bases := [.ref 66], mro := .ref 98 :: pfBm, ns := 97, qualname := Str.ofString "PathFault" } := by rfl
  have sub : Looks (model prog w) hp (isInstance (.ref e) (.type "BaseException")) true := I.type.andThen (looks_mroIn X (by unfold mroIn; rw [hc]; rfl))
  have hk : builtinKind "BaseException.__getattribute__" = some .slot := by decide +kernel
  have hsplit : splitId "BaseException.__getattribute__" = some ("BaseException", "__getattribute__") := by decide +kernel
  refine codeAny_call_builtin FB.ga.plain PySem.F.entry_bexc_ga (@check_slot (model prog w) _ _ _ "BaseException.__getattribute__" "BaseException" "__getattribute__" (.ref e) [.str name t] [] _ hk hsplit sub (PySem.F.args_bexc_ga (.ref e) (.str name t)) ?_)
  unfold Builtin.«object.__getattribute__»
  repeat (any_goals (first | assumption | refine wpAny_bind (L0.at ?_) | refine wpAny_bind (L3.at ?_) | wp_step))
  show wpAny _ _ (handedOut v) _ _ _
  rw [handedOut_of hh]; exact wpAny_pure h
end
end
theorem off_lread : True := by
  w_top off
  k_with_none
  trivial
section
theorem list_is {news : Led} {l : Addr} {vs : List Value} {nn : Nat} (F : Fr h₀ L s.heap m) (N : News h₀ L s.heap news) (hm : (l, W.listOf vs.toArray nn) ∈ news) (hsz : vs.length < 1000)
    (h : ∀ d c' h', Fr h₀ L h' m → News h₀ L h' ((d, W.listOf vs.toArray c') :: news) → (∀ q ∈ news, q.1 < d) → Q (.ref d) { s with heap := h' }) : wpAny (model prog w) A₀ (call (.type "list") [.ref l]) Q E s :=
  call_list_seq l (.inl rfl) (N.get hm) rfl rfl (fun h' c' hk hg => h _ c' h' (F.grownK hk) (fun q hq => by
    rcases List.mem_cons.mp hq with rfl | hq
    · exact ⟨hg, Nat.ne_of_gt F.ns.lt, next_is_new F⟩
    · exact (N.grown hk) q hq) fun q hq => Heap.lt_size (N q hq).1) (by rw [PySem.sizeLine_eq, List.size_toArray]; omega)
theorem kw_lread_1 : True := by
  k_with "ne" => (refine neN ?_; (try dsimp only); first | assumption | exact Ne.symm (by assumption) | exact Nat.ne_of_gt (by assumption) | exact Nat.ne_of_lt (by assumption) | exact lt_1 (by assumption) (by k_mem) | exact lt_2 (by assumption) (by k_mem) | exact Nat.ne_of_gt (And.left (by assumption)) | exact Nat.ne_of_lt (And.left (by assumption)) | exact Nat.ne_of_gt (And.left (And.right (by assumption))) | exact Nat.ne_of_lt (And.left (And.right (by assumption))) | exact Nat.ne_of_gt (And.left (And.right (And.right (by assumption)))) | exact Nat.ne_of_lt (And.left (And.right (And.right (by assumption)))) | exact Nat.ne_of_gt (And.left (And.right (And.right (And.right (by assumption))))) | exact Nat.ne_of_lt (And.left (And.right (And.right (And.right (by assumption))))) | exact Nat.ne_of_gt (And.left (And.right (And.right (And.right (And.right (by assumption)))))) | exact Nat.ne_of_lt (And.left (And.right (And.right (And.right (And.right (by assumption)))))) | exact Nat.ne_of_gt (And.left (And.right (And.right (And.right (And.right (And.right (by assumption))))))) | exact Nat.ne_of_lt (And.left (And.right (And.right (And.right (And.right (And.right (by assumption))))))))
  k_with "newTuple" => (k_here; k_dflt (refine' kup_newTuple ?F ?N ?_ ?z; (case F => k_asm); (case N => k_asm); (case z => kmk_size)); intro D9 h9 F9 N9 u9; (try k_sweep))
  k_with "newList" => (k_here; k_dflt (refine' newList_K ?k1 ?k2 ?_; (case k1 => k_asm); (case k2 => k_asm); k_whole); intro D9 h9 F9 N9 u9; (try k_sweep))
  k_with "execs cons" => (k_here; refine wpAny_execs_cons ?_; k_fold)
  k_with "eval Tuple" => (k_here; k_fold)
  k_with "eval List" => (k_here; k_fold)
  k_with "eval Call Attribute" => (k_here; k_fold)
  k_with "eval Call" => (k_here; k_fold)
  k_with "exec While BoolOp cons nil" => refine Halt.out ?_
  k_with "exec While Compare cons nil" => refine Halt.out ?_
  k_with "exec While Call cons nil" => refine Halt.out ?_
  k_with "eval Name" => (k_here; k_dflt (refine' ld ?k1 ?k2 ?_; (case k1 => k_asm); (case k2 => first | exact rfl | assumption); k_whole))
  k_with "call builtin:len" => (k_here; first | (refine len_is (by assumption) (by omega) ?_; intro _ _) | (refine PySem.P.len_str (by have h9 := (‹At _ _ _›).small; omega) ?_))
  k_with "subscriptTail" => (k_here; (with_reducible show wpAny _ _ (subscriptTail _ _ (Value.str _ _) (Value.int _ _)) _ _ _); k_dflt (refine' item_at ?k1 ?_ ?k2 ?k3; (case k1 => assumption); (case k2 => with_unfolding_all rfl); (case k3 => intro _; with_unfolding_all rfl)); intro _ _)
  k_with "binaryOp Add int int" => (k_here; refine addI ?_; intro _ _)
  k_with "binaryOp Sub int int" => (k_here; refine subI ?_; intro _ _)
  k_with "compareOp In str str" => (k_here; refine in_is (by assumption) ?_)
  k_with "compareOp NotIn str str" => (k_here; refine notin_is (by assumption) ?_)
  k_with "compareOp Eq str str" => (k_here; refine eqs_is (by assumption) ?_)
  k_with "compareOp NotEq str str" => (k_here; refine nes_is (by assumption) ?_)
  k_with "binaryOp FloorDiv int int" => (k_here; refine fdivI (by omega) (by omega) ?_; intro _ _)
  k_with "binaryOp Mod int int" => (k_here; refine fmodI (by omega) ?_; intro _ _)
  k_with "compareOp Eq int int" => (k_here; refine eqi_is (by assumption) ?_)
  k_with "compareOp In str ref" => (k_here; k_dflt (refine' in_two ?k1 ?k2 ?_; (case k1 => exact (News.get (by k_asm) (by k_mem))); (case k2 => assumption)))
  k_with "compareOp NotIn str ref" => (k_here; k_dflt (refine' notin_two ?k1 ?k2 ?_; (case k1 => exact (News.get (by k_asm) (by k_mem))); (case k2 => assumption)))
  k_with "subscriptTail Name Slice str ref" => (k_here; (with_reducible show wpAny _ _ (subscriptTail _ (Expr.Slice (some _) (some _) none _) _ _) _ _ _); (with_reducible rename Fr _ _ _ _ => F'); (with_reducible rename News _ _ _ _ => N'); (refine slice_strN_ss (hsz := ?hsz) (s := ⟨_, _, _, _, _⟩) F' N' ?_); (case hsz => (have h9 := (‹At _ _ _›).small; rw [PySem.sizeLine_eq]; omega)); intro _ _ _ _ _; (try k_sweep))
  k_with "subscriptTail Attribute Slice str ref" => (k_here; (with_reducible show wpAny _ _ (subscriptTail _ (Expr.Slice (some _) (some _) none _) _ _) _ _ _); (with_reducible rename Fr _ _ _ _ => F'); (with_reducible rename News _ _ _ _ => N'); (refine slice_strN_ss (hsz := ?hsz) (s := ⟨_, _, _, _, _⟩) F' N' ?_); (case hsz => (have h9 := (‹At _ _ _›).small; rw [PySem.sizeLine_eq]; omega)); intro _ _ _ _ _; (try k_sweep))
  k_with "call ref" => (k_here; (with_reducible show wpAny _ _ (call (Value.ref 272) _) _ _ _); refine Halt.out ?_)
  k_with "call ref" => (k_here; (with_reducible show wpAny _ _ (call (Value.ref 49) _) _ _ _); refine Halt.out ?_)
  k_with "call type:list" => (k_here; (with_reducible rename Stop 6 => stop9); clear stop9; refine Halt.out ?_)
  k_with "getAttr ref" => (k_here; (with_reducible rename Stop 18 => stop9); clear stop9; refine Halt.out ?_)
  trivial
theorem lread_spec {ts : Tok} {ah : Addr} {vs : List Value} {nn : Nat}
  (B : Below A₀ base [] h₀) (F : Fr h₀ L s.heap m) (X : (hd.heap_1 w.params).In h₀)
  (N : News h₀ L s.heap ((ah, W.listOf vs.toArray nn) :: rest))
  (Tp : Top view theLoose mean mg mb h₀) (hk : cs.kind = .function) (XB : (hd.heap_1 w.params).In base) (TB : Top view theLoose mean mg mb base)
  {ds : List Dat} {es : List Ent} {ok : Bool} {rf : List Nat} {k : Nat} (hA0 : At T 0 r) (hC : Cmd k ds.isEmpty r es ok rf) (hD : DatAll rest vs ds) (hok : ∀ d ∈ ds, kqdOk 8 d = true) (hsz : ds.length + es.length < 1000) (hdp : dp + 80 < recursionLimit) (hun : un + 640 < cLine)
  (hret : ∀ (D fa : Addr) (p' : Int) (tq : Tok) (pl : Value) (vs' : List Value) (nn' : Nat) (tl' : Led) (h' : Heap) (tk' : Nat), Fr h₀ L h' m → News h₀ L h' ((D, tupO [.ref fa, pl, .int p' tq]) :: (fa, W.listOf vs'.toArray nn') :: tl') → DatAll tl' vs' (ds ++ es.map entD) → (∀ q ∈ (ah, W.listOf vs.toArray nn) :: rest, q ∈ tl') →
    (∀ d ∈ ds ++ es.map entD, kqdOk 8 d = true) → At T p' rf → ((ok = true ∧ pl = .none) ∨ (ok = false ∧ ∃ t, pl = .int p' t)) → Q (.ref D) { s with heap := h', toks := tk' }) :
  wpAny (model prog w) (ktrTop dp un gd cn cs L a ccd [] []) (call (.ref 311) [.str T ts, .ref ah]) Q E s := by
  have hvs : vs.length < 1000 := by have := hD.length; omega
  refine wpAny_call ?_
  k_dflt (refine' code_defS0 (binds := [(Str.ofString "text", .str T ts), (Str.ofString "ahead", .ref ah)]) ?k1 ?k2 ?k3 ?k4 ?k5 ?kA ?k6 ?k7 ?k8 ?k9 ?kB ?_ ?cK ?c2 ?c3 ?c4 ?c5; (case kA => exact rfl); (case k1 => k_asm); (case k2 => k_asm); (case k3 => k_asm); (case k4 => k_asm); (case k5 => k_asm); (case k6 => k_is); (case k7 => k_is); (case k8 => (first | exact rm2 (by assumption) (by exact rfl) | exact rm1 (by assumption) (by exact rfl) | exact rm3 (by assumption) (by exact rfl) | exact rm0 (by assumption) | ktr_room)); (case k9 => first | exact BindsTo.of_eq rfl | exact binds_K (by k_in) rfl (by k_is) rfl rfl rfl); (case kB => exact locs rfl); (case cK => assumption); (case c2 => exact rfl); (case c3 => exact rfl); (case c4 => exact rfl); (case c5 => decide); k_whole; intro g L' h' FG F1 N1 B1 X1 T1 D1; (try dsimp only); (try k_fold))
  replace F1 := fr_of2 F1
  k_steps
  refine Halt.mk ?_
  (with_reducible rename Fr g _ _ _ => F2)
  (with_reducible rename News g _ _ _ => N2)
  k_dflt (refine' make_scanner ?k1 ?k2 ?k3 ?k4 ?k5 ?kK ?kd ?ku  ?_; (case k1 => exact B1); (case k2 => exact F2); (case k3 => exact X1); (case k4 => exact N2); (case k5 => exact T1); (case kK => exact rfl); (case kd => (first | exact rm2 (by assumption) (by exact rfl) | exact rm1 (by assumption) (by exact rfl) | exact rm3 (by assumption) (by exact rfl) | exact rm0 (by assumption) | ktr_room)); (case ku => (first | exact rm2 (by assumption) (by exact rfl) | exact rm1 (by assumption) (by exact rfl) | exact rm3 (by assumption) (by exact rfl) | exact rm0 (by assumption) | ktr_units));  k_whole)
  intro x dx i1 i2 j1 j2 u2 h2 tk2 F3 N3 hxd hl1 hl2
  clear F2 N2
  have st6 : Stop 6 := trivial
  k_steps
  refine Halt.mk ?_
  (with_reducible rename Fr g _ _ _ => F4)
  (with_reducible rename News g _ _ _ => N4)
  with_reducible show wpAny _ _ (call (Value.type _) [Value.ref _]) _ _ _
  refine list_is F4 N4 (.tail _ (.tail _ (.head _))) hvs ?_
  intro fa c1 h4 F5 N5 hl3
  clear F4 N4
  k_steps
  refine Halt.mk ?_
  (with_reducible rename Fr g _ _ _ => F6)
  (with_reducible rename News g _ _ _ => N6)
  have N7 : News g L' _ ((x, instObj 272 dx) :: (dx, scD i1 i2 j1 j2 ts u2 T 0) :: (fa, W.listOf vs.toArray c1) :: (ah, W.listOf vs.toArray nn) :: rest) := News.sub N6 fun q hq => by
    simp only [List.mem_cons] at hq ⊢
    rcases hq with h | h | h | h | h <;> simp [h]
  have hfx : fa ≠ x := Nat.ne_of_gt (hl3 _ (.head _))
  have hfd : fa ≠ dx := Nat.ne_of_gt (hl3 _ (.tail _ (.head _)))
  have htf : ∀ q ∈ (ah, W.listOf vs.toArray nn) :: rest, q.1 ≠ fa := fun q hq => Nat.ne_of_lt (hl3 q (.tail _ (.tail _ hq)))
  have htd : ∀ q ∈ (ah, W.listOf vs.toArray nn) :: rest, q.1 ≠ dx := fun q hq => Nat.ne_of_lt (hl1 q hq)
  have htx : ∀ q ∈ (ah, W.listOf vs.toArray nn) :: rest, q.1 ≠ x := fun q hq => Nat.ne_of_lt (Nat.lt_trans (hl1 q hq) hl2)
  clear N6
  k_dflt (refine' into_spec ?k1 ?k2 ?k3 ?k4 ?k5 ?kK ?kd ?ku ?x0 ?x1 ?x2 ?x3 ?x4 ?x5 ?x6 ?x7 ?x8 ?x9 ?x10 ?_ ?_; (case k1 => exact B1); (case k2 => exact F6); (case k3 => exact X1); (case k4 => exact N7); (case k5 => exact T1); (case kK => exact rfl); (case kd => (first | exact rm2 (by assumption) (by exact rfl) | exact rm1 (by assumption) (by exact rfl) | exact rm3 (by assumption) (by exact rfl) | exact rm0 (by assumption) | ktr_room)); (case ku => (first | exact rm2 (by assumption) (by exact rfl) | exact rm1 (by assumption) (by exact rfl) | exact rm3 (by assumption) (by exact rfl) | exact rm0 (by assumption) | ktr_units)); (case x0 => exact hxd); (case x1 => exact hfx); (case x2 => exact hfd); (case x3 => exact htx); (case x4 => exact htd); (case x5 => exact htf); (case x6 => exact hA0); (case x7 => exact hC); (case x8 => exact DatAll.mono (fun q hq => .tail _ hq) hD); (case x9 => exact hok); (case x10 => exact hsz); k_whole)
  · intro p' t2' vs' nn' tl' h' tk' ho A' F8 N8 D8 hs8 ok8
    k_steps
    (with_reducible rename News h₀ _ _ ((_, _) :: _) => N9)
    exact hret _ fa p' t2' .none vs' nn' tl' _ _ (by assumption) (News.sub N9 fun q hq => by
      simp only [List.mem_cons] at hq ⊢
      rcases hq with h | h | h <;> simp [h]) D8 hs8 ok8 A' (.inl ⟨ho, rfl⟩)
  · intro p' t2' e vs' nn' tl' h' tk' ho A' R8 D8 hs8 ok8
    k_steps
    obtain ⟨g2, F9, R9⟩ := R8
    k_dflt (refine' caught_pf R9 F9 B1 XB TB D1 ?ex ?q ?_ rfl rfl rfl (by decide); (case ex => k_is); (case q => exact rfl); k_whole)
    intro h9 g9 tk9 oe ve d q1 q2 q3 q4 q5 q6 msg T9 F10 N10 c1' c2' c3' B9 X9 P9 D9
    have I9 : InstAt h9 e oe 98 (some (pfD q1 q2 q3 q4 q5 q6 msg p')) := ⟨N10.get (.head _), c1', by unfold notCls; rw [c3'], by rw [c2']; exact N10.get (.tail _ (.head _))⟩
    have st8 : Stop 18 := trivial
    k_steps
    refine Halt.mk ?_
    refine exc_get (X9.keeps F10.keep) I9 (v := .int p' q6) (by rfl) rfl ?_
    k_steps
    (with_reducible rename News h₀ _ _ ((_, _) :: _) => N9)
    exact hret _ fa p' t2' (.int p' q6) vs' nn' tl' _ _ (by assumption) (News.sub N9 fun q hq => by
      simp only [List.mem_cons] at hq ⊢
      rcases hq with h | h | h <;> simp [h]) D8 hs8 ok8 A' (.inr ⟨ho, _, rfl⟩)
end
theorem off_take : True := by
  w_top off
  k_with_none
  trivial
section
theorem kw_take_1 : True := by
  k_with "ne" => (refine neN ?_; (try dsimp only); first | assumption | exact Ne.symm (by assumption) | exact Nat.ne_of_gt (by assumption) | exact Nat.ne_of_lt (by assumption) | exact lt_1 (by assumption) (by k_mem) | exact lt_2 (by assumption) (by k_mem) | exact Nat.ne_of_gt (And.left (by assumption)) | exact Nat.ne_of_lt (And.left (by assumption)) | exact Nat.ne_of_gt (And.left (And.right (by assumption))) | exact Nat.ne_of_lt (And.left (And.right (by assumption))) | exact Nat.ne_of_gt (And.left (And.right (And.right (by assumption)))) | exact Nat.ne_of_lt (And.left (And.right (And.right (by assumption)))) | exact Nat.ne_of_gt (And.left (And.right (And.right (And.right (by assumption))))) | exact Nat.ne_of_lt (And.left (And.right (And.right (And.right (by assumption))))) | exact Nat.ne_of_gt (And.left (And.right (And.right (And.right (And.right (by assumption)))))) | exact Nat.ne_of_lt (And.left (And.right (And.right (And.right (And.right (by assumption)))))) | exact Nat.ne_of_gt (And.left (And.right (And.right (And.right (And.right (And.right (by assumption))))))) | exact Nat.ne_of_lt (And.left (And.right (And.right (And.right (And.right (And.right (by assumption))))))))
  k_with "newTuple" => (k_here; k_dflt (refine' kup_newTuple ?F ?N ?_ ?z; (case F => k_asm); (case N => k_asm); (case z => kmk_size)); intro D9 h9 F9 N9 u9; (try k_sweep))
  k_with "newList" => (k_here; k_dflt (refine' newList_K ?k1 ?k2 ?_; (case k1 => k_asm); (case k2 => k_asm); k_whole); intro D9 h9 F9 N9 u9; (try k_sweep))
  k_with "execs cons" => (k_here; refine wpAny_execs_cons ?_; k_fold)
  k_with "eval Tuple" => (k_here; k_fold)
  k_with "eval List" => (k_here; k_fold)
  k_with "eval Call Attribute" => (k_here; k_fold)
  k_with "eval Call" => (k_here; k_fold)
  k_with "exec While BoolOp cons nil" => refine Halt.out ?_
  k_with "exec While Compare cons nil" => refine Halt.out ?_
  k_with "exec While Call cons nil" => refine Halt.out ?_
  k_with "eval Name" => (k_here; k_dflt (refine' ld ?k1 ?k2 ?_; (case k1 => k_asm); (case k2 => first | exact rfl | assumption); k_whole))
  k_with "call builtin:len" => (k_here; first | (refine len_is (by assumption) (by omega) ?_; intro _ _) | (refine PySem.P.len_str (by have h9 := (‹At _ _ _›).small; omega) ?_))
  k_with "subscriptTail" => (k_here; (with_reducible show wpAny _ _ (subscriptTail _ _ (Value.str _ _) (Value.int _ _)) _ _ _); k_dflt (refine' item_at ?k1 ?_ ?k2 ?k3; (case k1 => assumption); (case k2 => with_unfolding_all rfl); (case k3 => intro _; with_unfolding_all rfl)); intro _ _)
  k_with "binaryOp Add int int" => (k_here; refine addI ?_; intro _ _)
  k_with "binaryOp Sub int int" => (k_here; refine subI ?_; intro _ _)
  k_with "compareOp In str str" => (k_here; refine in_is (by assumption) ?_)
  k_with "compareOp NotIn str str" => (k_here; refine notin_is (by assumption) ?_)
  k_with "compareOp Eq str str" => (k_here; refine eqs_is (by assumption) ?_)
  k_with "compareOp NotEq str str" => (k_here; refine nes_is (by assumption) ?_)
  k_with "binaryOp FloorDiv int int" => (k_here; refine fdivI (by omega) (by omega) ?_; intro _ _)
  k_with "binaryOp Mod int int" => (k_here; refine fmodI (by omega) ?_; intro _ _)
  k_with "compareOp Eq int int" => (k_here; refine eqi_is (by assumption) ?_)
  k_with "compareOp In str ref" => (k_here; k_dflt (refine' in_two ?k1 ?k2 ?_; (case k1 => exact (News.get (by k_asm) (by k_mem))); (case k2 => assumption)))
  k_with "compareOp NotIn str ref" => (k_here; k_dflt (refine' notin_two ?k1 ?k2 ?_; (case k1 => exact (News.get (by k_asm) (by k_mem))); (case k2 => assumption)))
  k_with "subscriptTail Name Slice str ref" => (k_here; (with_reducible show wpAny _ _ (subscriptTail _ (Expr.Slice (some _) (some _) none _) _ _) _ _ _); (with_reducible rename Fr _ _ _ _ => F'); (with_reducible rename News _ _ _ _ => N'); (refine slice_strN_ss (hsz := ?hsz) (s := ⟨_, _, _, _, _⟩) F' N' ?_); (case hsz => (have h9 := (‹At _ _ _›).small; rw [PySem.sizeLine_eq]; omega)); intro _ _ _ _ _; (try k_sweep))
  k_with "subscriptTail Attribute Slice str ref" => (k_here; (with_reducible show wpAny _ _ (subscriptTail _ (Expr.Slice (some _) (some _) none _) _ _) _ _ _); (with_reducible rename Fr _ _ _ _ => F'); (with_reducible rename News _ _ _ _ => N'); (refine slice_strN_ss (hsz := ?hsz) (s := ⟨_, _, _, _, _⟩) F' N' ?_); (case hsz => (have h9 := (‹At _ _ _›).small; rw [PySem.sizeLine_eq]; omega)); intro _ _ _ _ _; (try k_sweep))
  trivial
def Src (a b : Int) : Prop := 0 ≤ a ∧ 0 ≤ b ∧ b < 2147483648
def Pick (v top : Int) : Prop := 0 ≤ v ∧ v < top
def SmallI (n : Int) : Prop := 0 < n ∧ n < 1000
theorem fm_nn (x : Int) : 0 ≤ x.fmod 2147483647 := Int.fmod_nonneg_of_pos _ (by decide)
theorem fm_lt (x : Int) : x.fmod 2147483647 < 2147483647 := Int.fmod_lt_of_pos _ (by decide)
theorem mul_sq {x : Int} {t u : Tok} (h : ∀ t' tk, Q (.int (x.fmod 2147483647 * x.fmod 2147483647) t') { s with toks := tk }) :
    wpAny (model prog w) A₀ (binaryOp .Mult (.int (x.fmod 2147483647) t) (.int (x.fmod 2147483647) u)) Q E s :=
  mul_is rfl (IntMulOk.of_right (intBits_le_64 (by have := fm_nn x; omega) (by have := fm_lt x; omega))) h
theorem kw_take_2 : True := by
  k_with "binaryOp Mult int int" => (k_here; refine mul_sq ?_; intro _ _)
  trivial
theorem take_spec {so : Addr} {sa sb top : Int} {ta tb tt : Tok} {nn : Nat}
  (B : Below A₀ base outer h₀) (F : Fr h₀ L s.heap m) (X : (hd.heap_1 w.params).In h₀)
  (N : News h₀ L s.heap ((so, W.listOf [Value.int sa ta, Value.int sb tb].toArray nn) :: rest))
  (Tp : Top view theLoose mean mg mb h₀) (hk : cs.kind = .function)
  (hdp : dp + 4 < recursionLimit) (hun : un + 32 < cLine)
 (hs : ∀ q ∈ rest, q.1 ≠ so) (hS : Src sa sb) (hT : SmallI top)
  (hret : ∀ (v a' b' : Int) (tv ta' tb' : Tok) (h' : Heap) (tk' : Nat), Pick v top → Src a' b' → Fr h₀ L h' m → News h₀ L h' ((so, W.listOf [Value.int a' ta', Value.int b' tb'].toArray nn) :: rest) → Q (.int v tv) { s with heap := h', toks := tk' }) :
  wpAny (model prog w) (ktrTop dp un gd cn cs L a ccd cl outer) (call (.ref 290) [.ref so, .int top tt]) Q E s := by
  refine wpAny_call ?_
  k_dflt (refine' code_def (binds := [(Str.ofString "source", .ref so), (Str.ofString "top", .int top tt)]) ?k1 ?k2 ?k3 ?k4 ?k5 ?kA ?kF ?kK ?k6 ?k7 ?k8 ?k9 ?kB ?_ ?c2 ?c3 ?c4 ?c5; (case kA => exact rfl); (case kF => exact rfl); (case kK => assumption); (case k1 => k_asm); (case k2 => k_asm); (case k3 => k_asm); (case k4 => k_asm); (case k5 => k_asm); (case k6 => k_is); (case k7 => k_is); (case k8 => (first | exact rm2 (by assumption) (by exact rfl) | exact rm1 (by assumption) (by exact rfl) | exact rm3 (by assumption) (by exact rfl) | exact rm0 (by assumption) | ktr_room)); (case k9 => first | exact BindsTo.of_eq rfl | exact binds_K (by k_in) rfl (by k_is) rfl rfl rfl); (case c5 => decide); (case kB => exact locs rfl); (case c2 => exact rfl); (case c3 => exact rfl); (case c4 => exact rfl); k_whole; intro g L' h' FG F1 N1 B1 X1 T1; (try k_fold))
  replace F1 := fr_of2 F1
  have hS2 := hS
  obtain ⟨s1, s2, s3⟩ := hS2
  obtain ⟨s4, s5⟩ := hT
  k_steps
  · exact hret _ _ _ _ _ _ _ _ ⟨Int.fmod_nonneg_of_pos _ s4, Int.fmod_lt_of_pos _ s4⟩ ⟨by have := Int.fdiv_nonneg s1 (Int.le_of_lt s4); exact this, s2, s3⟩ (by assumption) (by assumption)
  · exact hret _ _ _ _ _ _ _ _ ⟨Int.fmod_nonneg_of_pos _ s4, Int.fmod_lt_of_pos _ s4⟩ ⟨s1, by have := fm_nn ([sa, sb].getD (Int.toNat 1) 0 * 39373 + 7); exact this, by have := fm_lt ([sa, sb].getD (Int.toNat 1) 0 * 39373 + 7); exact Int.lt_trans this (by decide)⟩ (by assumption) (by assumption)
end
theorem off_one : True := by
  w_top off
  k_with_none
  trivial
section
theorem News.s1 {h₀ h : Heap} {L : Addr} {A S : Addr × Obj} {rest : Led} (N : News h₀ L h (A :: S :: rest)) : News h₀ L h (S :: A :: rest) :=
  News.sub N fun p hp => by simp only [List.mem_cons] at hp ⊢; rcases hp with h | h | h <;> simp [h]
theorem News.s2 {h₀ h : Heap} {L : Addr} {A B S : Addr × Obj} {rest : Led} (N : News h₀ L h (A :: B :: S :: rest)) : News h₀ L h (S :: A :: B :: rest) :=
  News.sub N fun p hp => by simp only [List.mem_cons] at hp ⊢; rcases hp with h | h | h | h <;> simp [h]
theorem News.nth {h₀ h : Heap} {L : Addr} {l : Led} {q : Addr × Obj} (N : News h₀ L h l) (n : Nat) (hn : l[n]? = some q) : News h₀ L h (q :: l.eraseIdx n) :=
  News.sub N fun p hp => by
    rcases List.mem_cons.mp hp with rfl | hp
    · exact List.mem_of_getElem? hn
    · exact List.mem_of_mem_eraseIdx hp
theorem ne_cons' {fa dx : Addr} {o : Obj} {tl : Led} (hfd : @Ne Nat fa dx) (htd : ∀ q ∈ tl, q.1 ≠ dx) : ∀ q ∈ (fa, o) :: tl, q.1 ≠ dx := by
  intro q hq
  rcases List.mem_cons.mp hq with rfl | hq
  · exact hfd
  · exact htd q hq
theorem allLtG {d : Addr} : ∀ {l : Led}, AllLt d l → ∀ {q : Addr × Obj}, q ∈ l → q.1 < d
  | [], _, _, h => nomatch h
  | _ :: _, ⟨h1, h2⟩, _, h => by
    rcases List.mem_cons.mp h with rfl | h
    · exact h1
    · exact allLtG h2 h
theorem News.s3 {h₀ h : Heap} {L : Addr} {A B C S : Addr × Obj} {rest : Led} (N : News h₀ L h (A :: B :: C :: S :: rest)) : News h₀ L h (S :: A :: B :: C :: rest) :=
  News.sub N fun p hp => by simp only [List.mem_cons] at hp ⊢; rcases hp with h | h | h | h | h <;> simp [h]
theorem lenL_is {news : Led} {l : Addr} {vs : List Value} {nn : Nat} (N : News h₀ L s.heap news) (hm : (l, W.listOf vs.toArray nn) ∈ news) (hsz : SmallI vs.length)
    (h : ∀ t' tk, Q (.int vs.length t') { s with toks := tk }) : wpAny (model prog w) A₀ (call (.builtin "len") [.ref l]) Q E s :=
  len_list (News.isList N hm) (by have := hsz.2; rw [List.size_toArray]; omega) (by rw [List.size_toArray]; exact h _ _)
theorem item_is {news : Led} {value slice : PySem.Expr} {l : Addr} {vs : List Value} {nn : Nat} {k : Int} {u : Tok} (N : News h₀ L s.heap news) (hm : (l, W.listOf vs.toArray nn) ∈ news) (hsz : SmallI vs.length) (hk : Pick k vs.length) (h : ∀ v, v ∈ vs → Q v s)
    (hs : subscripted slice false (.ref l) (.int k u) = operate [.ref l, .int k u] (getItem (.ref l) (.int k u)) := by with_unfolding_all rfl) :
    wpAny (model prog w) A₀ (subscriptTail value slice (.ref l) (.int k u)) Q E s := by
  have hl := News.isList N hm
  obtain ⟨h0, h1⟩ := hk
  have h2 := hsz.2
  have hlt : k.toNat < vs.length := by omega
  have hx : vs.toArray[k.toNat]? = some (vs[k.toNat]) := by simp [hlt]
  exact tail_any hl.typeIs slot_list_getitem.lookup (wpAny_getItem_list hl h0 (by omega) hx (h _ (List.getElem_mem _))) hs
theorem item_pick {y : Str} {k : Int} (hk : Pick k y.length) : ∃ c, c ∈ y.cps.toList ∧ Txt.item y k = ⟨#[c]⟩ := by
  obtain ⟨h0, h2⟩ := hk
  have hlt : k.toNat < y.cps.size := by have : y.length = y.cps.size := rfl; omega
  have hg : y.cps[k.toNat]? = some (y.cps[k.toNat]) := by simp [hlt]
  refine ⟨y.cps[k.toNat], Array.mem_toList_iff.mpr (Array.getElem_mem _), ?_⟩
  unfold Txt.item Txt.charAt seqIndex?
  have h1 : ¬ (k < 0) := by omega
  simp [h0, h1, h2, hg]
theorem itemS_is {y : Str} {k yl : Int} {value slice : PySem.Expr} {t u : Tok} (hy : (y.length : Int) = yl) (hT : SmallI yl) (hk : Pick k yl) (h : ∀ c t' tk, c ∈ y.cps.toList → Q (.str ⟨#[c]⟩ t') { s with toks := tk })
    (hs : subscripted slice false (.str y t) (.int k u) = operate [.str y t, .int k u] (getItem (.str y t) (.int k u)) := by with_unfolding_all rfl)
    (ht : ∀ r, letTemporaryGo value (.str y t) r = pure () := by intro _; with_unfolding_all rfl) :
    wpAny (model prog w) A₀ (subscriptTail value slice (.str y t) (.int k u)) Q E s := by
  subst hy
  obtain ⟨c, hc, e⟩ := item_pick hk
  exact item_str (fitsSsize_of (N := 9223372036854775808) (by have := hk.1; omega) (by have := hk.2; have := hT.2; omega) (Int.le_refl _)) (by have := hk.1; omega) hk.2 (fun _ => by rw [e]; exact h _ _ _ hc) hs ht
theorem kw_one_1 : True := by
  k_with "ne" => (refine neN ?_; (try dsimp only); first | assumption | exact Ne.symm (by assumption) | exact Nat.ne_of_gt (by assumption) | exact Nat.ne_of_lt (by assumption) | exact lt_1 (by assumption) (by k_mem) | exact lt_2 (by assumption) (by k_mem) | exact Nat.ne_of_gt (And.left (by assumption)) | exact Nat.ne_of_lt (And.left (by assumption)) | exact Nat.ne_of_gt (And.left (And.right (by assumption))) | exact Nat.ne_of_lt (And.left (And.right (by assumption))) | exact Nat.ne_of_gt (And.left (And.right (And.right (by assumption)))) | exact Nat.ne_of_lt (And.left (And.right (And.right (by assumption)))) | exact Nat.ne_of_gt (And.left (And.right (And.right (And.right (by assumption))))) | exact Nat.ne_of_lt (And.left (And.right (And.right (And.right (by assumption))))) | exact Nat.ne_of_gt (And.left (And.right (And.right (And.right (And.right (by assumption)))))) | exact Nat.ne_of_lt (And.left (And.right (And.right (And.right (And.right (by assumption)))))) | exact Nat.ne_of_gt (And.left (And.right (And.right (And.right (And.right (And.right (by assumption))))))) | exact Nat.ne_of_lt (And.left (And.right (And.right (And.right (And.right (And.right (by assumption))))))))
  k_with "newTuple" => (k_here; k_dflt (refine' kup_newTuple ?F ?N ?_ ?z; (case F => k_asm); (case N => k_asm); (case z => kmk_size)); intro D9 h9 F9 N9 u9; (try k_sweep))
  k_with "newList" => (k_here; k_dflt (refine' newList_K ?k1 ?k2 ?_; (case k1 => k_asm); (case k2 => k_asm); k_whole); intro D9 h9 F9 N9 u9; (try k_sweep))
  k_with "execs cons" => (k_here; refine wpAny_execs_cons ?_; k_fold)
  k_with "eval Tuple" => (k_here; k_fold)
  k_with "eval List" => (k_here; k_fold)
  k_with "eval Call Attribute" => (k_here; k_fold)
  k_with "eval Call" => (k_here; k_fold)
  k_with "exec While BoolOp cons nil" => refine Halt.out ?_
  k_with "exec While Compare cons nil" => refine Halt.out ?_
  k_with "exec While Call cons nil" => refine Halt.out ?_
  k_with "eval Name" => (k_here; k_dflt (refine' ld ?k1 ?k2 ?_; (case k1 => k_asm); (case k2 => first | exact rfl | assumption); k_whole))
  k_with "call builtin:len" => (k_here; first | (refine len_is (by assumption) (by omega) ?_; intro _ _) | (refine PySem.P.len_str (by have h9 := (‹At _ _ _›).small; omega) ?_))
  k_with "subscriptTail" => (k_here; (with_reducible show wpAny _ _ (subscriptTail _ _ (Value.str _ _) (Value.int _ _)) _ _ _); k_dflt (refine' item_at ?k1 ?_ ?k2 ?k3; (case k1 => assumption); (case k2 => with_unfolding_all rfl); (case k3 => intro _; with_unfolding_all rfl)); intro _ _)
  k_with "binaryOp Add int int" => (k_here; refine addI ?_; intro _ _)
  k_with "binaryOp Sub int int" => (k_here; refine subI ?_; intro _ _)
  k_with "compareOp In str str" => (k_here; refine in_is (by assumption) ?_)
  k_with "compareOp NotIn str str" => (k_here; refine notin_is (by assumption) ?_)
  k_with "compareOp Eq str str" => (k_here; refine eqs_is (by assumption) ?_)
  k_with "compareOp NotEq str str" => (k_here; refine nes_is (by assumption) ?_)
  k_with "binaryOp FloorDiv int int" => (k_here; refine fdivI (by omega) (by omega) ?_; intro _ _)
  k_with "binaryOp Mod int int" => (k_here; refine fmodI (by omega) ?_; intro _ _)
  k_with "compareOp Eq int int" => (k_here; refine eqi_is (by assumption) ?_)
  k_with "compareOp In str ref" => (k_here; k_dflt (refine' in_two ?k1 ?k2 ?_; (case k1 => exact (News.get (by k_asm) (by k_mem))); (case k2 => assumption)))
  k_with "compareOp NotIn str ref" => (k_here; k_dflt (refine' notin_two ?k1 ?k2 ?_; (case k1 => exact (News.get (by k_asm) (by k_mem))); (case k2 => assumption)))
  k_with "subscriptTail Name Slice str ref" => (k_here; (with_reducible show wpAny _ _ (subscriptTail _ (Expr.Slice (some _) (some _) none _) _ _) _ _ _); (with_reducible rename Fr _ _ _ _ => F'); (with_reducible rename News _ _ _ _ => N'); (refine slice_strN_ss (hsz := ?hsz) (s := ⟨_, _, _, _, _⟩) F' N' ?_); (case hsz => (have h9 := (‹At _ _ _›).small; rw [PySem.sizeLine_eq]; omega)); intro _ _ _ _ _; (try k_sweep))
  k_with "subscriptTail Attribute Slice str ref" => (k_here; (with_reducible show wpAny _ _ (subscriptTail _ (Expr.Slice (some _) (some _) none _) _ _) _ _ _); (with_reducible rename Fr _ _ _ _ => F'); (with_reducible rename News _ _ _ _ => N'); (refine slice_strN_ss (hsz := ?hsz) (s := ⟨_, _, _, _, _⟩) F' N' ?_); (case hsz => (have h9 := (‹At _ _ _›).small; rw [PySem.sizeLine_eq]; omega)); intro _ _ _ _ _; (try k_sweep))
  k_with "call ref" => (k_here; (with_reducible show wpAny _ _ (call (Value.ref 290) _) _ _ _); k_dflt (refine' take_spec ?k1 ?k2 ?k3 ?k4 ?k5 ?kK ?kd ?ku ?x0 ?x1 ?x2 ?_; (case k1 => k_asm); (case k2 => k_asm); (case k3 => k_asm); (case k4 => first | k_asm | exact News.s1 (by k_asm) | exact News.s2 (by k_asm) | exact News.s3 (by k_asm)); (case k5 => k_asm); (case kK => first | exact rfl | assumption); (case kd => (first | exact rm2 (by assumption) (by exact rfl) | exact rm1 (by assumption) (by exact rfl) | exact rm3 (by assumption) (by exact rfl) | exact rm0 (by assumption) | ktr_room)); (case ku => (first | exact rm2 (by assumption) (by exact rfl) | exact rm1 (by assumption) (by exact rfl) | exact rm3 (by assumption) (by exact rfl) | exact rm0 (by assumption) | ktr_units)); (case x0 => first | assumption | k_ne | ((repeat (refine ne_cons' (by omega) ?_)); assumption)); (case x1 => assumption); (case x2 => first | assumption | exact ⟨by decide, by decide⟩); k_whole); intro v9 a9 b9 u9 u8 u7 h9 tk9 P9 S9 F9 N9; (try k_sweep))
  k_with "call builtin:len" => (k_here; (with_reducible show wpAny _ _ (call (Value.builtin _) [Value.ref _]) _ _ _); k_dflt (refine' lenL_is ?k2 ?k3 ?k4 ?_; (case k2 => k_asm); (case k3 => first | exact .head _ | exact .tail _ (.head _) | k_mem); (case k4 => first | assumption | omega); k_whole); intro _ _)
  k_with "subscriptTail" => (k_here; (with_reducible show wpAny _ _ (subscriptTail _ _ (Value.ref _) (Value.int _ _)) _ _ _); k_dflt (refine' item_is ?k1 ?k2 ?k3 ?k4 ?_ ?k6; (case k1 => k_asm); (case k2 => first | exact .head _ | exact .tail _ (.head _)); (case k3 => assumption); (case k4 => assumption); (case k6 => with_unfolding_all rfl); k_whole); intro _ _)
  k_with "subscriptTail" => (k_here; (with_reducible show wpAny _ _ (subscriptTail _ _ (Value.str _ _) (Value.int _ _)) _ _ _); k_dflt (refine' itemS_is ?k1 ?k2 ?k3 ?_ ?k5 ?k6; (case k1 => assumption); (case k2 => assumption); (case k3 => assumption); (case k5 => with_unfolding_all rfl); (case k6 => intro _; with_unfolding_all rfl); k_whole); intro _ _ _ _)
  trivial
theorem one_list {so li : Addr} {sa sb : Int} {ta tb : Tok} {nn n2 : Nat} {vs : List Value} {P : Led → Value → Prop}
  (B : Below A₀ base outer h₀) (F : Fr h₀ L s.heap m) (X : (hd.heap_1 w.params).In h₀)
  (N : News h₀ L s.heap ((so, W.listOf [Value.int sa ta, Value.int sb tb].toArray nn) :: (li, W.listOf vs.toArray n2) :: rest))
  (Tp : Top view theLoose mean mg mb h₀) (hk : cs.kind = .function)
  (hdp : dp + 8 < recursionLimit) (hun : un + 64 < cLine)
 (hs : ∀ q ∈ (li, W.listOf vs.toArray n2) :: rest, q.1 ≠ so) (hS : Src sa sb) (hT : SmallI vs.length) (hv : ∀ v ∈ vs, P rest v)
  (hret : ∀ (v : Value) (a' b' : Int) (ta' tb' : Tok) (h' : Heap) (tk' : Nat), P rest v → Src a' b' → Fr h₀ L h' m → News h₀ L h' ((so, W.listOf [Value.int a' ta', Value.int b' tb'].toArray nn) :: (li, W.listOf vs.toArray n2) :: rest) → Q v { s with heap := h', toks := tk' }) :
  wpAny (model prog w) (ktrTop dp un gd cn cs L a ccd cl outer) (call (.ref 297) [.ref so, .ref li]) Q E s := by
  refine wpAny_call ?_
  k_dflt (refine' code_def (binds := [(Str.ofString "source", .ref so), (Str.ofString "things", .ref li)]) ?k1 ?k2 ?k3 ?k4 ?k5 ?kA ?kF ?kK ?k6 ?k7 ?k8 ?k9 ?kB ?_ ?c2 ?c3 ?c4 ?c5; (case kA => exact rfl); (case kF => exact rfl); (case kK => assumption); (case k1 => k_asm); (case k2 => k_asm); (case k3 => k_asm); (case k4 => k_asm); (case k5 => k_asm); (case k6 => k_is); (case k7 => k_is); (case k8 => (first | exact rm2 (by assumption) (by exact rfl) | exact rm1 (by assumption) (by exact rfl) | exact rm3 (by assumption) (by exact rfl) | exact rm0 (by assumption) | ktr_room)); (case k9 => first | exact BindsTo.of_eq rfl | exact binds_K (by k_in) rfl (by k_is) rfl rfl rfl); (case c5 => decide); (case kB => exact locs rfl); (case c2 => exact rfl); (case c3 => exact rfl); (case c4 => exact rfl); k_whole; intro g L' h' FG F1 N1 B1 X1 T1; (try k_fold))
  replace F1 := fr_of2 F1
  k_steps
  exact hret _ _ _ _ _ _ _ (hv _ (by assumption)) (by assumption) (by assumption) (by assumption)
theorem one_str {so : Addr} {sa sb : Int} {ta tb ty : Tok} {nn : Nat} {y : Str}
  (B : Below A₀ base outer h₀) (F : Fr h₀ L s.heap m) (X : (hd.heap_1 w.params).In h₀)
  (N : News h₀ L s.heap ((so, W.listOf [Value.int sa ta, Value.int sb tb].toArray nn) :: rest))
  (Tp : Top view theLoose mean mg mb h₀) (hk : cs.kind = .function)
  (hdp : dp + 8 < recursionLimit) (hun : un + 64 < cLine)
 (hs : ∀ q ∈ rest, q.1 ≠ so) (hS : Src sa sb) {yl : Int} (hy : (y.length : Int) = yl) (hT : SmallI yl)
  (hret : ∀ (c : Nat) (t : Tok) (a' b' : Int) (ta' tb' : Tok) (h' : Heap) (tk' : Nat), c ∈ y.cps.toList → Src a' b' → Fr h₀ L h' m → News h₀ L h' ((so, W.listOf [Value.int a' ta', Value.int b' tb'].toArray nn) :: rest) → Q (.str ⟨#[c]⟩ t) { s with heap := h', toks := tk' }) :
  wpAny (model prog w) (ktrTop dp un gd cn cs L a ccd cl outer) (call (.ref 297) [.ref so, .str y ty]) Q E s := by
  refine wpAny_call ?_
  k_dflt (refine' code_def (binds := [(Str.ofString "source", .ref so), (Str.ofString "things", .str y ty)]) ?k1 ?k2 ?k3 ?k4 ?k5 ?kA ?kF ?kK ?k6 ?k7 ?k8 ?k9 ?kB ?_ ?c2 ?c3 ?c4 ?c5; (case kA => exact rfl); (case kF => exact rfl); (case kK => assumption); (case k1 => k_asm); (case k2 => k_asm); (case k3 => k_asm); (case k4 => k_asm); (case k5 => k_asm); (case k6 => k_is); (case k7 => k_is); (case k8 => (first | exact rm2 (by assumption) (by exact rfl) | exact rm1 (by assumption) (by exact rfl) | exact rm3 (by assumption) (by exact rfl) | exact rm0 (by assumption) | ktr_room)); (case k9 => first | exact BindsTo.of_eq rfl | exact binds_K (by k_in) rfl (by k_is) rfl rfl rfl); (case c5 => decide); (case kB => exact locs rfl); (case c2 => exact rfl); (case c3 => exact rfl); (case c4 => exact rfl); k_whole; intro g L' h' FG F1 N1 B1 X1 T1; (try k_fold))
  replace F1 := fr_of2 F1
  have hT2 := hT.2
  k_steps
  exact hret _ _ _ _ _ _ _ _ (by assumption) (by assumption) (by assumption) (by assumption)
end
theorem off_spelw : True := by
  w_top off
  k_with_none
  trivial
section
theorem kw_spelw_1 : True := by
  k_with "ne" => (refine neN ?_; (try dsimp only); first | assumption | exact Ne.symm (by assumption) | exact Nat.ne_of_gt (by assumption) | exact Nat.ne_of_lt (by assumption) | exact lt_1 (by assumption) (by k_mem) | exact lt_2 (by assumption) (by k_mem) | exact Nat.ne_of_gt (And.left (by assumption)) | exact Nat.ne_of_lt (And.left (by assumption)) | exact Nat.ne_of_gt (And.left (And.right (by assumption))) | exact Nat.ne_of_lt (And.left (And.right (by assumption))) | exact Nat.ne_of_gt (And.left (And.right (And.right (by assumption)))) | exact Nat.ne_of_lt (And.left (And.right (And.right (by assumption)))) | exact Nat.ne_of_gt (And.left (And.right (And.right (And.right (by assumption))))) | exact Nat.ne_of_lt (And.left (And.right (And.right (And.right (by assumption))))) | exact Nat.ne_of_gt (And.left (And.right (And.right (And.right (And.right (by assumption)))))) | exact Nat.ne_of_lt (And.left (And.right (And.right (And.right (And.right (by assumption)))))) | exact Nat.ne_of_gt (And.left (And.right (And.right (And.right (And.right (And.right (by assumption))))))) | exact Nat.ne_of_lt (And.left (And.right (And.right (And.right (And.right (And.right (by assumption))))))))
  k_with "newTuple" => (k_here; k_dflt (refine' kup_newTuple ?F ?N ?_ ?z; (case F => k_asm); (case N => k_asm); (case z => kmk_size)); intro D9 h9 F9 N9 u9; (try k_sweep))
  k_with "newList" => (k_here; k_dflt (refine' newList_K ?k1 ?k2 ?_; (case k1 => k_asm); (case k2 => k_asm); k_whole); intro D9 h9 F9 N9 u9; (try k_sweep))
  k_with "execs cons" => (k_here; refine wpAny_execs_cons ?_; k_fold)
  k_with "eval Tuple" => (k_here; k_fold)
  k_with "eval List" => (k_here; k_fold)
  k_with "eval Call Attribute" => (k_here; k_fold)
  k_with "eval Call" => (k_here; k_fold)
  k_with "exec While BoolOp cons nil" => refine Halt.out ?_
  k_with "exec While Compare cons nil" => refine Halt.out ?_
  k_with "exec While Call cons nil" => refine Halt.out ?_
  k_with "eval Name" => (k_here; k_dflt (refine' ld ?k1 ?k2 ?_; (case k1 => k_asm); (case k2 => first | exact rfl | assumption); k_whole))
  k_with "call builtin:len" => (k_here; first | (refine len_is (by assumption) (by omega) ?_; intro _ _) | (refine PySem.P.len_str (by have h9 := (‹At _ _ _›).small; omega) ?_))
  k_with "subscriptTail" => (k_here; (with_reducible show wpAny _ _ (subscriptTail _ _ (Value.str _ _) (Value.int _ _)) _ _ _); k_dflt (refine' item_at ?k1 ?_ ?k2 ?k3; (case k1 => assumption); (case k2 => with_unfolding_all rfl); (case k3 => intro _; with_unfolding_all rfl)); intro _ _)
  k_with "binaryOp Add int int" => (k_here; refine addI ?_; intro _ _)
  k_with "binaryOp Sub int int" => (k_here; refine subI ?_; intro _ _)
  k_with "compareOp In str str" => (k_here; refine in_is (by assumption) ?_)
  k_with "compareOp NotIn str str" => (k_here; refine notin_is (by assumption) ?_)
  k_with "compareOp Eq str str" => (k_here; refine eqs_is (by assumption) ?_)
  k_with "compareOp NotEq str str" => (k_here; refine nes_is (by assumption) ?_)
  k_with "binaryOp FloorDiv int int" => (k_here; refine fdivI (by omega) (by omega) ?_; intro _ _)
  k_with "binaryOp Mod int int" => (k_here; refine fmodI (by omega) ?_; intro _ _)
  k_with "compareOp Eq int int" => (k_here; refine eqi_is (by assumption) ?_)
  k_with "compareOp In str ref" => (k_here; k_dflt (refine' in_two ?k1 ?k2 ?_; (case k1 => exact (News.get (by k_asm) (by k_mem))); (case k2 => assumption)))
  k_with "compareOp NotIn str ref" => (k_here; k_dflt (refine' notin_two ?k1 ?k2 ?_; (case k1 => exact (News.get (by k_asm) (by k_mem))); (case k2 => assumption)))
  k_with "subscriptTail Name Slice str ref" => (k_here; (with_reducible show wpAny _ _ (subscriptTail _ (Expr.Slice (some _) (some _) none _) _ _) _ _ _); (with_reducible rename Fr _ _ _ _ => F'); (with_reducible rename News _ _ _ _ => N'); (refine slice_strN_ss (hsz := ?hsz) (s := ⟨_, _, _, _, _⟩) F' N' ?_); (case hsz => (have h9 := (‹At _ _ _›).small; rw [PySem.sizeLine_eq]; omega)); intro _ _ _ _ _; (try k_sweep))
  k_with "subscriptTail Attribute Slice str ref" => (k_here; (with_reducible show wpAny _ _ (subscriptTail _ (Expr.Slice (some _) (some _) none _) _ _) _ _ _); (with_reducible rename Fr _ _ _ _ => F'); (with_reducible rename News _ _ _ _ => N'); (refine slice_strN_ss (hsz := ?hsz) (s := ⟨_, _, _, _, _⟩) F' N' ?_); (case hsz => (have h9 := (‹At _ _ _›).small; rw [PySem.sizeLine_eq]; omega)); intro _ _ _ _ _; (try k_sweep))
  trivial
theorem word_is {env : Env} {y : Str} {a b : Int} {n1 n2 n3 n4 n5 : Nat} {q1 q2 q3 q4 q5  : Pos} {news : Led} (F : Fr h₀ L s.heap m) (N : News h₀ L s.heap news)
  (h : ∀ (d i : Addr) (u1 u2 u3 : Tok) (h' : Heap) (tk' : Nat), Fr h₀ L h' m → News h₀ L h' ((d, tupO [.str y u1, .ref i]) :: (i, tupO [.int a u2, .int b u3]) :: news) → (∀ q ∈ news, q.1 < i ∧ q.1 < d) → @LT.lt Nat _ i d → Q (.ref d) { s with heap := h', toks := tk' }) :
  wpAny (model prog w) A₀ (eval (.Tuple [.Constant (.str y) n1 q1, .Tuple [.Constant (.int a) n2 q2, .Constant (.int b) n3 q3] n4 q4] n5 q5) env) Q E s := by
  k_steps
  (with_reducible rename News _ _ _ _ => N2)
  (with_reducible rename News _ _ _ ((_, _) :: news) => N1)
  exact h _ _ _ _ _ _ _ (by assumption) N2 (fun q hq => ⟨Heap.lt_size (N q hq).1, Heap.lt_size (N1 q (.tail _ hq)).1⟩) (Heap.lt_size (N1 _ (.head _)).1)

theorem word_neg {env : Env} {y : Str} {a b : Int} {n1 n2 n3 n4 n5 : Nat} {q1 q2 q3 q4 q5 q6 : Pos} {news : Led} (F : Fr h₀ L s.heap m) (N : News h₀ L s.heap news)
  (h : ∀ (d i : Addr) (u1 u2 u3 : Tok) (h' : Heap) (tk' : Nat), Fr h₀ L h' m → News h₀ L h' ((d, tupO [.str y u1, .ref i]) :: (i, tupO [.int (-a) u2, .int b u3]) :: news) → (∀ q ∈ news, q.1 < i ∧ q.1 < d) → @LT.lt Nat _ i d → Q (.ref d) { s with heap := h', toks := tk' }) :
  wpAny (model prog w) A₀ (eval (.Tuple [.Constant (.str y) n1 q1, .Tuple [.UnaryOp .USub (.Constant (.int a) n2 q2) q6, .Constant (.int b) n3 q3] n4 q4] n5 q5) env) Q E s := by
  k_steps
  (with_reducible rename News _ _ _ _ => N2)
  (with_reducible rename News _ _ _ ((_, _) :: news) => N1)
  exact h _ _ _ _ _ _ _ (by assumption) N2 (fun q hq => ⟨Heap.lt_size (N q hq).1, Heap.lt_size (N1 q (.tail _ hq)).1⟩) (Heap.lt_size (N1 _ (.head _)).1)
end
theorem off_spel : True := by
  w_top off
  k_with_none
  trivial
section
theorem kw_spel_1 : True := by
  k_with "ne" => (refine neN ?_; (try dsimp only); first | assumption | exact Ne.symm (by assumption) | exact Nat.ne_of_gt (by assumption) | exact Nat.ne_of_lt (by assumption) | exact lt_1 (by assumption) (by k_mem) | exact lt_2 (by assumption) (by k_mem) | exact Nat.ne_of_gt (And.left (by assumption)) | exact Nat.ne_of_lt (And.left (by assumption)) | exact Nat.ne_of_gt (And.left (And.right (by assumption))) | exact Nat.ne_of_lt (And.left (And.right (by assumption))) | exact Nat.ne_of_gt (And.left (And.right (And.right (by assumption)))) | exact Nat.ne_of_lt (And.left (And.right (And.right (by assumption)))) | exact Nat.ne_of_gt (And.left (And.right (And.right (And.right (by assumption))))) | exact Nat.ne_of_lt (And.left (And.right (And.right (And.right (by assumption))))) | exact Nat.ne_of_gt (And.left (And.right (And.right (And.right (And.right (by assumption)))))) | exact Nat.ne_of_lt (And.left (And.right (And.right (And.right (And.right (by assumption)))))) | exact Nat.ne_of_gt (And.left (And.right (And.right (And.right (And.right (And.right (by assumption))))))) | exact Nat.ne_of_lt (And.left (And.right (And.right (And.right (And.right (And.right (by assumption))))))))
  k_with "newTuple" => (k_here; k_dflt (refine' kup_newTuple ?F ?N ?_ ?z; (case F => k_asm); (case N => k_asm); (case z => kmk_size)); intro D9 h9 F9 N9 u9; (try k_sweep))
  k_with "newList" => (k_here; k_dflt (refine' newList_K ?k1 ?k2 ?_; (case k1 => k_asm); (case k2 => k_asm); k_whole); intro D9 h9 F9 N9 u9; (try k_sweep))
  k_with "execs cons" => (k_here; refine wpAny_execs_cons ?_; k_fold)
  k_with "eval Tuple" => (k_here; k_fold)
  k_with "eval List" => (k_here; k_fold)
  k_with "eval Call Attribute" => (k_here; k_fold)
  k_with "eval Call" => (k_here; k_fold)
  k_with "exec While BoolOp cons nil" => refine Halt.out ?_
  k_with "exec While Compare cons nil" => refine Halt.out ?_
  k_with "exec While Call cons nil" => refine Halt.out ?_
  k_with "eval Name" => (k_here; k_dflt (refine' ld ?k1 ?k2 ?_; (case k1 => k_asm); (case k2 => first | exact rfl | assumption); k_whole))
  k_with "call builtin:len" => (k_here; first | (refine len_is (by assumption) (by omega) ?_; intro _ _) | (refine PySem.P.len_str (by have h9 := (‹At _ _ _›).small; omega) ?_))
  k_with "subscriptTail" => (k_here; (with_reducible show wpAny _ _ (subscriptTail _ _ (Value.str _ _) (Value.int _ _)) _ _ _); k_dflt (refine' item_at ?k1 ?_ ?k2 ?k3; (case k1 => assumption); (case k2 => with_unfolding_all rfl); (case k3 => intro _; with_unfolding_all rfl)); intro _ _)
  k_with "binaryOp Add int int" => (k_here; refine addI ?_; intro _ _)
  k_with "binaryOp Sub int int" => (k_here; refine subI ?_; intro _ _)
  k_with "compareOp In str str" => (k_here; refine in_is (by assumption) ?_)
  k_with "compareOp NotIn str str" => (k_here; refine notin_is (by assumption) ?_)
  k_with "compareOp Eq str str" => (k_here; refine eqs_is (by assumption) ?_)
  k_with "compareOp NotEq str str" => (k_here; refine nes_is (by assumption) ?_)
  k_with "binaryOp FloorDiv int int" => (k_here; refine fdivI (by omega) (by omega) ?_; intro _ _)
  k_with "binaryOp Mod int int" => (k_here; refine fmodI (by omega) ?_; intro _ _)
  k_with "compareOp Eq int int" => (k_here; refine eqi_is (by assumption) ?_)
  k_with "compareOp In str ref" => (k_here; k_dflt (refine' in_two ?k1 ?k2 ?_; (case k1 => exact (News.get (by k_asm) (by k_mem))); (case k2 => assumption)))
  k_with "compareOp NotIn str ref" => (k_here; k_dflt (refine' notin_two ?k1 ?k2 ?_; (case k1 => exact (News.get (by k_asm) (by k_mem))); (case k2 => assumption)))
  k_with "subscriptTail Name Slice str ref" => (k_here; (with_reducible show wpAny _ _ (subscriptTail _ (Expr.Slice (some _) (some _) none _) _ _) _ _ _); (with_reducible rename Fr _ _ _ _ => F'); (with_reducible rename News _ _ _ _ => N'); (refine slice_strN_ss (hsz := ?hsz) (s := ⟨_, _, _, _, _⟩) F' N' ?_); (case hsz => (have h9 := (‹At _ _ _›).small; rw [PySem.sizeLine_eq]; omega)); intro _ _ _ _ _; (try k_sweep))
  k_with "subscriptTail Attribute Slice str ref" => (k_here; (with_reducible show wpAny _ _ (subscriptTail _ (Expr.Slice (some _) (some _) none _) _ _) _ _ _); (with_reducible rename Fr _ _ _ _ => F'); (with_reducible rename News _ _ _ _ => N'); (refine slice_strN_ss (hsz := ?hsz) (s := ⟨_, _, _, _, _⟩) F' N' ?_); (case hsz => (have h9 := (‹At _ _ _›).small; rw [PySem.sizeLine_eq]; omega)); intro _ _ _ _ _; (try k_sweep))
  k_with "call ref" => (k_here; (with_reducible show wpAny _ _ (call (Value.ref 297) _) _ _ _); refine Halt.out ?_)
  k_with "eval Tuple" => (k_here; (with_reducible show wpAny _ _ (eval (PySem.Expr.Tuple [PySem.Expr.Constant (PySem.Const.str _) _ _, PySem.Expr.Tuple [PySem.Expr.Constant (PySem.Const.int _) _ _, PySem.Expr.Constant (PySem.Const.int _) _ _] _ _] _ _) _) _ _ _); k_dflt (refine' word_is ?k1 ?k2 ?_; (case k1 => k_asm); (case k2 => k_asm)); intro d9 i9 u9 u8 u7 h9 tk9 F9 N9 l9 l8; (try k_sweep))
  k_with "eval Tuple" => (k_here; (with_reducible show wpAny _ _ (eval (PySem.Expr.Tuple [PySem.Expr.Constant (PySem.Const.str _) _ _, PySem.Expr.Tuple [PySem.Expr.UnaryOp _ _ _, PySem.Expr.Constant (PySem.Const.int _) _ _] _ _] _ _) _) _ _ _); k_dflt (refine' word_neg ?k1 ?k2 ?_; (case k1 => k_asm); (case k2 => k_asm)); intro d9 i9 u9 u8 u7 h9 tk9 F9 N9 l9 l8; (try k_sweep))
  trivial
def Spelled (y : Str) (a b : Int) : Prop := (y, a, b) ∈ ([(Str.ofString "0", 0, 1), (Str.ofString "-1.5", -3, 2), (Str.ofString ".25", 1, 4), (Str.ofString "1e2", 100, 1), (Str.ofString "+7", 7, 1), (Str.ofString "30", 30, 1), (Str.ofString "-2E-1", -1, 5), (Str.ofString "4.", 4, 1)] : List (Str × Int × Int))
theorem lt_i {l : Led} {a b c : Addr} {o : Obj} (h : ∀ q ∈ l, q.1 < a ∧ q.1 < b) (hq : (c, o) ∈ l) : @Ne Nat a c := Nat.ne_of_gt (h _ hq).1
theorem lt_d {l : Led} {a b c : Addr} {o : Obj} (h : ∀ q ∈ l, q.1 < a ∧ q.1 < b) (hq : (c, o) ∈ l) : @Ne Nat b c := Nat.ne_of_gt (h _ hq).2
theorem lt_sub {l r : Led} {a b : Addr} (h : ∀ q ∈ l, q.1 < a ∧ q.1 < b) (hs : ∀ q ∈ r, q ∈ l) : ∀ q ∈ r, q.1 < a ∧ q.1 < b := fun q hq => h q (hs q hq)
theorem ne_led {h : Heap} {l : Led} {so : Addr} {o : Obj} {n : Nat} (_ : News h₀ L h l) (_ : l[n]? = some (so, o)) (hn : ∀ q ∈ l.eraseIdx n, q.1 ≠ so) : ∀ q ∈ l.eraseIdx n, q.1 ≠ so := hn
def SpP (so : Addr) (rest0 : Led) (tl : Led) (v : Value) : Prop := ∃ (d i : Addr) (y : Str) (na nb : Int) (ty na' nb' : Tok), v = .ref d ∧ (d, tupO [.str y ty, .ref i]) ∈ tl ∧ (i, tupO [.int na na', .int nb nb']) ∈ tl ∧ Spelled y na nb ∧ (∃ o, ∀ q ∈ (so, o) :: rest0, q.1 < i ∧ q.1 < d) ∧ @LT.lt Nat _ i d ∧ ∀ q ∈ rest0, q ∈ tl
theorem spelled_spec {so : Addr} {sa sb : Int} {ta tb : Tok} {nn : Nat}
  (B : Below A₀ base outer h₀) (F : Fr h₀ L s.heap m) (X : (hd.heap_1 w.params).In h₀)
  (N : News h₀ L s.heap ((so, W.listOf [Value.int sa ta, Value.int sb tb].toArray nn) :: rest))
  (Tp : Top view theLoose mean mg mb h₀) (hk : cs.kind = .function)
  (hdp : dp + 16 < recursionLimit) (hun : un + 128 < cLine)
 (hs : ∀ q ∈ rest, q.1 ≠ so) (hS : Src sa sb)
  (hret : ∀ (d i : Addr) (y : Str) (na nb a' b' : Int) (ty na' nb' ta' tb' : Tok) (h' : Heap) (tk' : Nat), Spelled y na nb → Src a' b' → Fr h₀ L h' m → News h₀ L h' ((so, W.listOf [Value.int a' ta', Value.int b' tb'].toArray nn) :: (d, tupO [.str y ty, .ref i]) :: (i, tupO [.int na na', .int nb nb']) :: rest) → @LT.lt Nat _ so i → @LT.lt Nat _ so d → @LT.lt Nat _ i d → AllLt i rest → AllLt d rest → Q (.ref d) { s with heap := h', toks := tk' }) :
  wpAny (model prog w) (ktrTop dp un gd cn cs L a ccd cl outer) (call (.ref 304) [.ref so]) Q E s := by
  refine wpAny_call ?_
  k_dflt (refine' code_def (binds := [(Str.ofString "source", .ref so)]) ?k1 ?k2 ?k3 ?k4 ?k5 ?kA ?kF ?kK ?k6 ?k7 ?k8 ?k9 ?kB ?_ ?c2 ?c3 ?c4 ?c5; (case kA => exact rfl); (case kF => exact rfl); (case kK => assumption); (case k1 => k_asm); (case k2 => k_asm); (case k3 => k_asm); (case k4 => k_asm); (case k5 => k_asm); (case k6 => k_is); (case k7 => k_is); (case k8 => (first | exact rm2 (by assumption) (by exact rfl) | exact rm1 (by assumption) (by exact rfl) | exact rm3 (by assumption) (by exact rfl) | exact rm0 (by assumption) | ktr_room)); (case k9 => first | exact BindsTo.of_eq rfl | exact binds_K (by k_in) rfl (by k_is) rfl rfl rfl); (case c5 => decide); (case kB => exact locs rfl); (case c2 => exact rfl); (case c3 => exact rfl); (case c4 => exact rfl); k_whole; intro g L' h' FG F1 N1 B1 X1 T1; (try k_fold))
  replace F1 := fr_of1 F1
  k_steps
  refine Halt.mk ?_
  (with_reducible rename Fr g _ _ _ => F2); (with_reducible rename News g _ _ _ => N2)
  have hns := ne_led (n := 17) N2 rfl (by
    dsimp only [List.eraseIdx]
    repeat (first | exact hs | (refine ne_cons' (by first | exact lt_i (by assumption) (by k_mem) | exact lt_d (by assumption) (by k_mem) | exact lt_1 (by assumption) (by k_mem) | omega) ?_)))
  replace N2 := News.nth N2 17 rfl
  dsimp only [List.eraseIdx] at N2 hns
  k_dflt (refine' one_list (P := SpP so rest) ?k1 ?k2 ?k3 ?k4 ?k5 ?kK ?kd ?ku ?x0 ?x1 ?x2 ?x3 ?_; (case k1 => exact B1); (case k2 => exact F2); (case k3 => exact X1); (case k4 => exact N2); (case k5 => exact T1); (case kK => exact rfl); (case kd => (first | exact rm2 (by assumption) (by exact rfl) | exact rm1 (by assumption) (by exact rfl) | exact rm3 (by assumption) (by exact rfl) | exact rm0 (by assumption) | ktr_room)); (case ku => (first | exact rm2 (by assumption) (by exact rfl) | exact rm1 (by assumption) (by exact rfl) | exact rm3 (by assumption) (by exact rfl) | exact rm0 (by assumption) | ktr_units)); (case x0 => exact hns); (case x1 => exact hS); (case x2 => exact ⟨by simp, by simp⟩); (case x3 => (intro v hv; simp only [List.mem_cons, List.not_mem_nil, or_false] at hv; rcases hv with rfl | rfl | rfl | rfl | rfl | rfl | rfl | rfl; (· exact ⟨_, _, _, _, _, _, _, _, rfl, by k_mem, by k_mem, (by unfold Spelled; exact .head _), ⟨_, lt_sub (by assumption) (fun q hq => (by repeat (first | exact hq | refine List.Mem.tail _ ?_)))⟩, by assumption, fun q hq => (by repeat (first | exact hq | refine List.Mem.tail _ ?_))⟩); (· exact ⟨_, _, _, _, _, _, _, _, rfl, by k_mem, by k_mem, (by unfold Spelled; exact .tail _ (.head _)), ⟨_, lt_sub (by assumption) (fun q hq => (by repeat (first | exact hq | refine List.Mem.tail _ ?_)))⟩, by assumption, fun q hq => (by repeat (first | exact hq | refine List.Mem.tail _ ?_))⟩); (· exact ⟨_, _, _, _, _, _, _, _, rfl, by k_mem, by k_mem, (by unfold Spelled; exact .tail _ (.tail _ (.head _))), ⟨_, lt_sub (by assumption) (fun q hq => (by repeat (first | exact hq | refine List.Mem.tail _ ?_)))⟩, by assumption, fun q hq => (by repeat (first | exact hq | refine List.Mem.tail _ ?_))⟩); (· exact ⟨_, _, _, _, _, _, _, _, rfl, by k_mem, by k_mem, (by unfold Spelled; exact .tail _ (.tail _ (.tail _ (.head _)))), ⟨_, lt_sub (by assumption) (fun q hq => (by repeat (first | exact hq | refine List.Mem.tail _ ?_)))⟩, by assumption, fun q hq => (by repeat (first | exact hq | refine List.Mem.tail _ ?_))⟩); (· exact ⟨_, _, _, _, _, _, _, _, rfl, by k_mem, by k_mem, (by unfold Spelled; exact .tail _ (.tail _ (.tail _ (.tail _ (.head _))))), ⟨_, lt_sub (by assumption) (fun q hq => (by repeat (first | exact hq | refine List.Mem.tail _ ?_)))⟩, by assumption, fun q hq => (by repeat (first | exact hq | refine List.Mem.tail _ ?_))⟩); (· exact ⟨_, _, _, _, _, _, _, _, rfl, by k_mem, by k_mem, (by unfold Spelled; exact .tail _ (.tail _ (.tail _ (.tail _ (.tail _ (.head _)))))), ⟨_, lt_sub (by assumption) (fun q hq => (by repeat (first | exact hq | refine List.Mem.tail _ ?_)))⟩, by assumption, fun q hq => (by repeat (first | exact hq | refine List.Mem.tail _ ?_))⟩); (· exact ⟨_, _, _, _, _, _, _, _, rfl, by k_mem, by k_mem, (by unfold Spelled; exact .tail _ (.tail _ (.tail _ (.tail _ (.tail _ (.tail _ (.head _))))))), ⟨_, lt_sub (by assumption) (fun q hq => (by repeat (first | exact hq | refine List.Mem.tail _ ?_)))⟩, by assumption, fun q hq => (by repeat (first | exact hq | refine List.Mem.tail _ ?_))⟩); (· exact ⟨_, _, _, _, _, _, _, _, rfl, by k_mem, by k_mem, (by unfold Spelled; exact .tail _ (.tail _ (.tail _ (.tail _ (.tail _ (.tail _ (.tail _ (.head _)))))))), ⟨_, lt_sub (by assumption) (fun q hq => (by repeat (first | exact hq | refine List.Mem.tail _ ?_)))⟩, by assumption, fun q hq => (by repeat (first | exact hq | refine List.Mem.tail _ ?_))⟩))); k_whole)
  intro v a' b' ta' tb' h' tk' hP S9 F9 N9
  obtain ⟨d, i, y, na, nb, ty, na', nb', rfl, q1, q2, q3, ⟨o, q4⟩, q6, q8⟩ := hP
  k_steps
  (with_reducible rename News h₀ _ _ _ => N5)
  refine hret d i y na nb a' b' ty na' nb' ta' tb' _ _ q3 S9 (by assumption) (News.sub N5 fun p hp => ?_) (q4 _ (.head _)).1 (q4 _ (.head _)).2 q6 (allLt_of fun q hq => (q4 q (.tail _ hq)).1) (allLt_of fun q hq => (q4 q (.tail _ hq)).2)
  rcases List.mem_cons.mp hp with rfl | hp
  · exact .head _
  rcases List.mem_cons.mp hp with rfl | hp
  · exact .tail _ (.tail _ q1)
  rcases List.mem_cons.mp hp with rfl | hp
  · exact .tail _ (.tail _ q2)
  exact .tail _ (.tail _ (q8 _ hp))
end
theorem off_lgroupd : True := by
  w_top off
  k_with_none
  trivial
section
noncomputable abbrev mkS (w : List Nat) : Str := ⟨w.toArray⟩
inductive ItemW (fl : Bool) (w : List Nat) (d : Dat) : Prop
  | num (a b : Int) : fl = false → Spelled (mkS w) a b → d = .tuple [.int a, .int b] → ItemW fl w d
  | flag (v : Int) (k : Nat) : fl = true → v = k → k < 2 → w = [48 + k] → d = .int v → ItemW fl w d
inductive GTc (arc : Bool) : Nat → Nat → List (List Nat) → List Dat → Prop
  | nil {i : Nat} : GTc arc 0 i [] []
  | cons {k i : Nat} {w : List Nat} {ws : List (List Nat)} {d : Dat} {ds : List Dat} : ItemW (flAt arc i) w d → GTc arc k (i + 1) ws ds → GTc arc (k + 1) i (w :: ws) (d :: ds)
theorem GTc.snoc {arc : Bool} {w : List Nat} {d : Dat} : ∀ {k i : Nat} {ws : List (List Nat)} {ds : List Dat}, GTc arc k i ws ds → ItemW (flAt arc (i + k)) w d → GTc arc (k + 1) i (ws ++ [w]) (ds ++ [d]) := by
  intro k i ws ds h
  induction h with
  | nil => intro h; exact .cons h .nil
  | @cons k i w' ws d' ds hi _ ih =>
    intro h
    refine .cons hi (ih ?_)
    have e : i + 1 + k = i + (k + 1) := by omega
    rw [e]; exact h
theorem GTc.len {arc : Bool} {k i : Nat} {ws : List (List Nat)} {ds : List Dat} (h : GTc arc k i ws ds) : ws.length = k ∧ ds.length = k := by
  induction h with
  | nil => exact ⟨rfl, rfl⟩
  | cons _ _ ih => exact ⟨by simp [ih.1], by simp [ih.2]⟩
theorem spelled_list {y : Str} {a b : Int} (h : Spelled y a b) : ∃ w : List Nat, y = mkS w ∧ w.length ≤ 5 := by
  refine ⟨y.cps.toList, rfl, ?_⟩
  simp only [Spelled, List.mem_cons, List.not_mem_nil, or_false, Prod.mk.injEq] at h
  rcases h with ⟨rfl, _⟩ | ⟨rfl, _⟩ | ⟨rfl, _⟩ | ⟨rfl, _⟩ | ⟨rfl, _⟩ | ⟨rfl, _⟩ | ⟨rfl, _⟩ | ⟨rfl, _⟩ <;> decide +kernel
theorem ItemW.len {fl : Bool} {w : List Nat} {d : Dat} (h : ItemW fl w d) : w.length ≤ 5 := by
  rcases h with ⟨a, b, _, h, _⟩ | ⟨v, k, _, _, _, rfl, _⟩
  · obtain ⟨w', e, h⟩ := spelled_list h
    injection e with e
    have : w = w' := by simpa using e
    rw [this]; exact h
  · simp
theorem GTc.sum {arc : Bool} {k i : Nat} {ws : List (List Nat)} {ds : List Dat} (h : GTc arc k i ws ds) : ((ws.map mkS).map (·.length)).sum ≤ 5 * k := by
  induction h with
  | nil => simp
  | @cons k i w ws d ds hi _ ih =>
    have h1 := hi.len
    have h2 : (mkS w).length = w.length := by simp [Str.length]
    simp only [List.map_cons, List.sum_cons]
    rw [h2]
    omega
theorem strsAre_snoc {v : Value} {y : Str} {t : Tok} (hv : v = .str y t) : ∀ {vs : List Value} {ys : List Str}, StrsAre vs ys → StrsAre (vs ++ [v]) (ys ++ [y]) := by
  subst hv
  intro vs ys h
  induction h with
  | nil => exact .cons _ _ .nil
  | cons z u _ ih => exact .cons _ _ ih
theorem str_flag {v : Int} {t : Tok} (hv : Pick v 2) (h : ∀ t' tk, Q (.str (mkS [48 + v.toNat]) t') { s with toks := tk }) : wpAny (model prog w) A₀ (call (.type "str") [.int v t]) Q E s := by
  obtain ⟨h1, h2⟩ := hv
  have : v = 0 ∨ v = 1 := by omega
  rcases this with rfl | rfl
  · refine PySem.P.str_of_int (by decide) ?_
    have e : (toString (0 : Int) : Str) = mkS [48 + (0 : Int).toNat] := by decide +kernel
    rw [e]; exact h _ _
  · refine PySem.P.str_of_int (by decide) ?_
    have e : (toString (1 : Int) : Str) = mkS [48 + (1 : Int).toNat] := by decide +kernel
    rw [e]; exact h _ _
theorem join_lw {news : Led} {wl : Addr} {vw : List Value} {ys : List Str} {n2 : Nat} {gp : Str} {tg : Tok} (N : News h₀ L s.heap news) (hm : (wl, W.listOf vw.toArray n2) ∈ news) (hi : StrsAre vw ys) (hg : gp.length ≤ 16) (hw : (ys.map (·.length)).sum + ys.length ≤ 1048576)
    (h : ∀ t' k, Q (.str (Str.join gp ys) t') { s with toks := k }) : wpAny (model prog w) A₀ (call (.builtin "str.join") [.str gp tg, .ref wl]) Q E s :=
  join_listW (News.isList N hm) (by simpa using hi) hg hw (fun t' k => by rw [show Txt.join gp ys = Str.join gp ys from StrLaws.glued_eq_join gp ys]; exact h t' k)
structure LK (so nl wl : Addr) (rest extra : Led) : Prop where
  sn : @LT.lt Nat _ so nl
  sw : @LT.lt Nat _ so wl
  nw : @LT.lt Nat _ nl wl
  rn : ∀ q ∈ rest, q.1 < nl
  rw : ∀ q ∈ rest, q.1 < wl
  ew : ∀ q ∈ extra, wl < q.1
theorem LK.ns {so nl wl : Addr} {rest extra : Led} (K : LK so nl wl rest extra) (hs : ∀ q ∈ rest, q.1 ≠ so) : ∀ q ∈ extra ++ rest, q.1 ≠ so := by
  intro q hq
  rcases List.mem_append.mp hq with hq | hq
  · exact Nat.ne_of_gt (Nat.lt_trans K.sw (K.ew q hq))
  · exact hs q hq
theorem LK.nn {so nl wl : Addr} {rest extra : Led} (K : LK so nl wl rest extra) : ∀ q ∈ extra ++ rest, q.1 ≠ nl := by
  intro q hq
  rcases List.mem_append.mp hq with hq | hq
  · exact Nat.ne_of_gt (Nat.lt_trans K.nw (K.ew q hq))
  · exact Nat.ne_of_lt (K.rn q hq)
theorem LK.nW {so nl wl : Addr} {rest extra : Led} (K : LK so nl wl rest extra) : ∀ q ∈ extra ++ rest, q.1 ≠ wl := by
  intro q hq
  rcases List.mem_append.mp hq with hq | hq
  · exact Nat.ne_of_gt (K.ew q hq)
  · exact Nat.ne_of_lt (K.rw q hq)
def LJ (I so : Addr) (nn : Nat) (gp : Str) (n : Int) (arc : Bool) (kk : Nat) (rest : Led) (k i : Nat) (m' : Str → Option Value) (n' : Led) : Prop :=
  ∃ (sa sb : Int) (ta tb tg tn : Tok) (nl wl : Addr) (vs vw : List Value) (ws : List (List Nat)) (ds : List Dat) (extra : Led), n' = (so, W.listOf [Value.int sa ta, Value.int sb tb].toArray nn) :: (nl, W.listOf vs.toArray i) :: (wl, W.listOf vw.toArray i) :: (extra ++ rest) ∧ Src sa sb ∧ i + k = kk ∧ vs.length = i ∧ vw.length = i ∧
    DatAll extra vs ds ∧ GTc arc i 0 ws ds ∧ StrsAre vw (ws.map mkS) ∧ LK so nl wl rest extra ∧ (∀ q ∈ n', q.1 ≠ I) ∧
    m' (Str.ofString "source") = some (.ref so) ∧ m' (Str.ofString "gap") = some (.str gp tg) ∧ m' (Str.ofString "many") = some (.int n tn) ∧ m' (Str.ofString "numbers") = some (.ref nl) ∧ m' (Str.ofString "words") = some (.ref wl)
theorem fin_lg {so nl wl D d9 : Addr} {extra : Led} {o1 o2 o3 o4 o5 : Obj} (K : LK so nl wl rest extra) (l9 : ∀ q ∈ (so, o1) :: (nl, o2) :: (wl, o3) :: (extra ++ rest), q.1 < d9) (lD : AllLt D ((d9, o4) :: (so, o1) :: (nl, o2) :: (wl, o3) :: (extra ++ rest))) :
    ∀ q ∈ (D, o5) :: (d9, o4) :: extra, so < q.1 ∧ ∀ b ∈ rest, b.1 < q.1 := by
  intro q hq
  rcases List.mem_cons.mp hq with rfl | hq
  · exact ⟨lD.2.1, fun b hb => allLtG lD (.tail _ (.tail _ (.tail _ (.tail _ (List.mem_append_right _ hb)))))⟩
  rcases List.mem_cons.mp hq with rfl | hq
  · exact ⟨l9 _ (.head _), fun b hb => l9 _ (.tail _ (.tail _ (.tail _ (List.mem_append_right _ hb))))⟩
  · exact ⟨Nat.lt_trans K.sw (K.ew q hq), fun b hb => Nat.lt_trans (K.rw b hb) (K.ew q hq)⟩
theorem drop2 {h : Heap} {S D : Addr × Obj} {l : Led} (N : News h₀ L h (S :: D :: l)) : News h₀ L h (S :: l) :=
  News.sub N fun p hp => by
    rcases List.mem_cons.mp hp with rfl | hp
    · exact .head _
    · exact .tail _ (.tail _ hp)
theorem lg_end {h : Heap} {D d S A B : Addr × Obj} {ex l : Led} (N : News h₀ L h (D :: d :: S :: A :: B :: (ex ++ l))) : News h₀ L h (S :: D :: d :: (ex ++ l)) :=
  News.sub N fun p hp => by simp only [List.mem_cons] at hp ⊢; rcases hp with h | h | h | h <;> simp [h]
section
variable {g : Heap} {L' : Addr} {I so nl wl d e : Addr} {it : Obj} {sa sb n : Int} {ta tb tg tn : Tok} {nn kk k i : Nat} {gp : Str} {arc : Bool} {extra : Led} {vs vw : List Value} {ws : List (List Nat)} {ds : List Dat} {s' : Shared} {h' : Heap} {tk' : Nat} {m' : Str → Option Value} {QF : Flow → Shared → Prop}
theorem fin_ln {w : List Nat} {dd : Dat} {v : Value} {tw : Tok} {ex2 : Led} (F : Fr g L' h' m') (N : News g L' h' ((so, W.listOf [Value.int sa ta, Value.int sb tb].toArray nn) :: (ex2 ++ ((I, it) :: (nl, W.listOf (vs.toArray.push v) (i + 1)) :: (wl, W.listOf (vw.toArray.push (.str (mkS w) tw)) (i + 1)) :: (extra ++ rest)))))
    (hx : ∀ q ∈ ex2, I < q.1 ∧ wl < q.1) (hS : Src sa sb) (hik : i + (k + 1) = kk) (hvl : vs.length = i) (hwl : vw.length = i) (hD : DatAll extra vs ds) (hd : DatIn ex2 v dd) (hG : GTc arc i 0 ws ds) (hi : ItemW (flAt arc i) w dd) (hW : StrsAre vw (ws.map mkS)) (K : LK so nl wl rest extra)
    (hsI : so ≠ I) (hnI : nl ≠ I) (hwI : wl ≠ I) (hrI : ∀ q ∈ extra ++ rest, q.1 ≠ I)
    (m1 : m' (Str.ofString "source") = some (.ref so)) (m2 : m' (Str.ofString "gap") = some (.str gp tg)) (m3 : m' (Str.ofString "many") = some (.int n tn)) (m4 : m' (Str.ofString "numbers") = some (.ref nl)) (m5 : m' (Str.ofString "words") = some (.ref wl)) :
    UnrPost g L' s' I it (LJ I so nn gp n arc kk rest k (i + 1)) QF .next { s' with heap := h', toks := tk' } := by
  have e1 : W.listOf (vs.toArray.push v) (i + 1) = W.listOf (vs ++ [v]).toArray (i + 1) := by simp
  have e2 : W.listOf (vw.toArray.push (.str (mkS w) tw)) (i + 1) = W.listOf (vw ++ [Value.str (mkS w) tw]).toArray (i + 1) := by simp
  rw [e1, e2] at N
  have hoff : ∀ q ∈ (so, W.listOf [Value.int sa ta, Value.int sb tb].toArray nn) :: (nl, W.listOf (vs ++ [v]).toArray (i + 1)) :: (wl, W.listOf (vw ++ [Value.str (mkS w) tw]).toArray (i + 1)) :: ((ex2 ++ extra) ++ rest), q.1 ≠ I := by
    refine ne_cons' hsI (ne_cons' hnI (ne_cons' hwI ?_))
    intro q hq
    rw [List.append_assoc] at hq
    rcases List.mem_append.mp hq with hq | hq
    · exact Nat.ne_of_gt (hx q hq).1
    · exact hrI q hq
  refine ⟨h', tk', m', (so, W.listOf [Value.int sa ta, Value.int sb tb].toArray nn) :: (nl, W.listOf (vs ++ [v]).toArray (i + 1)) :: (wl, W.listOf (vw ++ [Value.str (mkS w) tw]).toArray (i + 1)) :: ((ex2 ++ extra) ++ rest), rfl, F, News.sub N fun q hq => ?_, hoff, ?_⟩
  · simp only [List.mem_cons, List.mem_append] at hq ⊢
    rcases hq with h | h | h | h | (h | h) | h <;> simp [h]
  · exact ⟨sa, sb, ta, tb, tg, tn, nl, wl, _, _, ws ++ [w], ds ++ [dd], ex2 ++ extra, rfl, hS, by omega, by simp [hvl], by simp [hwl], DatAll.append (DatAll.mono (fun q hq => List.mem_append_right _ hq) hD) (.one (DatIn.mono (fun q hq => List.mem_append_left _ hq) hd)), hG.snoc (by rw [Nat.zero_add]; exact hi), (by rw [List.map_append]; exact strsAre_snoc rfl hW), ⟨K.sn, K.sw, K.nw, K.rn, K.rw, fun q hq => by
      rcases List.mem_append.mp hq with hq | hq
      · exact (hx q hq).2
      · exact K.ew q hq⟩, hoff, m1, m2, m3, m4, m5⟩
end
end
theorem off_lgroup : True := by
  w_top off
  k_with_none
  trivial
section
theorem kw_lgroup_1 : True := by
  k_with "ne" => (refine neN ?_; (try dsimp only); first | assumption | exact Ne.symm (by assumption) | exact Nat.ne_of_gt (by assumption) | exact Nat.ne_of_lt (by assumption) | exact lt_1 (by assumption) (by k_mem) | exact lt_2 (by assumption) (by k_mem) | exact Nat.ne_of_gt (And.left (by assumption)) | exact Nat.ne_of_lt (And.left (by assumption)) | exact Nat.ne_of_gt (And.left (And.right (by assumption))) | exact Nat.ne_of_lt (And.left (And.right (by assumption))) | exact Nat.ne_of_gt (And.left (And.right (And.right (by assumption)))) | exact Nat.ne_of_lt (And.left (And.right (And.right (by assumption)))) | exact Nat.ne_of_gt (And.left (And.right (And.right (And.right (by assumption))))) | exact Nat.ne_of_lt (And.left (And.right (And.right (And.right (by assumption))))) | exact Nat.ne_of_gt (And.left (And.right (And.right (And.right (And.right (by assumption)))))) | exact Nat.ne_of_lt (And.left (And.right (And.right (And.right (And.right (by assumption)))))) | exact Nat.ne_of_gt (And.left (And.right (And.right (And.right (And.right (And.right (by assumption))))))) | exact Nat.ne_of_lt (And.left (And.right (And.right (And.right (And.right (And.right (by assumption))))))))
  k_with "newTuple" => (k_here; k_dflt (refine' kup_newTuple ?F ?N ?_ ?z; (case F => k_asm); (case N => k_asm); (case z => kmk_size)); intro D9 h9 F9 N9 u9; (try k_sweep))
  k_with "newList" => (k_here; k_dflt (refine' newList_K ?k1 ?k2 ?_; (case k1 => k_asm); (case k2 => k_asm); k_whole); intro D9 h9 F9 N9 u9; (try k_sweep))
  k_with "execs cons" => (k_here; refine wpAny_execs_cons ?_; k_fold)
  k_with "eval Tuple" => (k_here; k_fold)
  k_with "eval List" => (k_here; k_fold)
  k_with "eval Call Attribute" => (k_here; k_fold)
  k_with "eval Call" => (k_here; k_fold)
  k_with "exec While BoolOp cons nil" => refine Halt.out ?_
  k_with "exec While Compare cons nil" => refine Halt.out ?_
  k_with "exec While Call cons nil" => refine Halt.out ?_
  k_with "eval Name" => (k_here; k_dflt (refine' ld ?k1 ?k2 ?_; (case k1 => k_asm); (case k2 => first | exact rfl | assumption); k_whole))
  k_with "call builtin:len" => (k_here; first | (refine len_is (by assumption) (by omega) ?_; intro _ _) | (refine PySem.P.len_str (by have h9 := (‹At _ _ _›).small; omega) ?_))
  k_with "subscriptTail" => (k_here; (with_reducible show wpAny _ _ (subscriptTail _ _ (Value.str _ _) (Value.int _ _)) _ _ _); k_dflt (refine' item_at ?k1 ?_ ?k2 ?k3; (case k1 => assumption); (case k2 => with_unfolding_all rfl); (case k3 => intro _; with_unfolding_all rfl)); intro _ _)
  k_with "binaryOp Add int int" => (k_here; refine addI ?_; intro _ _)
  k_with "binaryOp Sub int int" => (k_here; refine subI ?_; intro _ _)
  k_with "compareOp In str str" => (k_here; refine in_is (by assumption) ?_)
  k_with "compareOp NotIn str str" => (k_here; refine notin_is (by assumption) ?_)
  k_with "compareOp Eq str str" => (k_here; refine eqs_is (by assumption) ?_)
  k_with "compareOp NotEq str str" => (k_here; refine nes_is (by assumption) ?_)
  k_with "binaryOp FloorDiv int int" => (k_here; refine fdivI (by omega) (by omega) ?_; intro _ _)
  k_with "binaryOp Mod int int" => (k_here; refine fmodI (by omega) ?_; intro _ _)
  k_with "compareOp Eq int int" => (k_here; refine eqi_is (by assumption) ?_)
  k_with "compareOp In str ref" => (k_here; k_dflt (refine' in_two ?k1 ?k2 ?_; (case k1 => exact (News.get (by k_asm) (by k_mem))); (case k2 => assumption)))
  k_with "compareOp NotIn str ref" => (k_here; k_dflt (refine' notin_two ?k1 ?k2 ?_; (case k1 => exact (News.get (by k_asm) (by k_mem))); (case k2 => assumption)))
  k_with "subscriptTail Name Slice str ref" => (k_here; (with_reducible show wpAny _ _ (subscriptTail _ (Expr.Slice (some _) (some _) none _) _ _) _ _ _); (with_reducible rename Fr _ _ _ _ => F'); (with_reducible rename News _ _ _ _ => N'); (refine slice_strN_ss (hsz := ?hsz) (s := ⟨_, _, _, _, _⟩) F' N' ?_); (case hsz => (have h9 := (‹At _ _ _›).small; rw [PySem.sizeLine_eq]; omega)); intro _ _ _ _ _; (try k_sweep))
  k_with "subscriptTail Attribute Slice str ref" => (k_here; (with_reducible show wpAny _ _ (subscriptTail _ (Expr.Slice (some _) (some _) none _) _ _) _ _ _); (with_reducible rename Fr _ _ _ _ => F'); (with_reducible rename News _ _ _ _ => N'); (refine slice_strN_ss (hsz := ?hsz) (s := ⟨_, _, _, _, _⟩) F' N' ?_); (case hsz => (have h9 := (‹At _ _ _›).small; rw [PySem.sizeLine_eq]; omega)); intro _ _ _ _ _; (try k_sweep))
  k_with "newTuple" => (k_here; k_dflt (refine' kup_newTuple ?F ?N ?_ ?z; (case F => k_asm); (case N => k_asm); (case z => kmk_size)); intro D9 h9 F9 N9 u9; (try k_lt u9); (try k_sweep))
  k_with "newList" => (k_here; k_dflt (refine' newList_K ?k1 ?k2 ?_; (case k1 => k_asm); (case k2 => k_asm); k_whole); intro D9 h9 F9 N9 u9; (try k_lt u9); (try k_sweep))
  k_with "call builtin:str.upper" => (k_here; (show wpAny _ _ (call (Value.builtin "str.upper") [Value.str _ _]) _ _ _); (refine upper_is (by assumption) ?_); intro _ _)
  k_with "getItem ref str" => (k_here; refine tab_item (by assumption) (by assumption) ?_; intro _ _)
  k_with "exec For Name Call cons nil" => (k_here; (with_reducible show wpAny _ _ (exec (Stmt.For _ _ _ [] _) _) _ _ _); (rename Fr _ _ _ _ => lF'); (with_unfolding_all refine' For_invVF lF' ?k1 ?k2 ?_; (case k1 => exact rfl); (case k2 => exact rfl); k_whole))
  k_with "pyIter ref" => refine Halt.out ?_
  k_with "eval Call Attribute" => (k_here; (with_reducible rename Stop 5 => stop9); clear stop9; refine Halt.out ?_)
  k_with "isTrue BoolOp" => (k_here; (with_reducible rename Stop 3 => stop9); clear stop9; refine Halt.out ?_)
  k_with "compareOp In int ref" => (k_here; k_dflt (refine' in_twoI ?k1 ?k2 ?_; (case k1 => exact (News.get (by k_asm) (by k_mem))); (case k2 => assumption)))
  k_with "compareOp Gt int int" => (k_here; refine gt_is (by assumption) ?_)
  k_with "call builtin:list.append" => (k_here; (with_reducible show wpAny _ _ (call (Value.builtin _) [Value.ref _, _]) _ _ _); k_dflt (refine' append_K ?k1 ?k2 ?k3 ?_ ?z; (case k1 => k_asm); (case k2 => k_asm); (case k3 => k_upd); (case z => (rw [PySem.sizeLine_eq]; omega)); k_whole); intro h' F' N'; (try k_sweep))
  k_with "call builtin:list.append" => (k_here; (with_reducible show wpAny _ _ (call (Value.builtin _) [Value.ref _, _]) _ _ _); k_dflt (refine' append_K ?k1 ?k2 ?k3 ?_ ?z; (case k1 => k_asm); (case k2 => k_asm); (case k3 => k_upd); (case z => (rw [PySem.sizeLine_eq, List.size_toArray]; omega)); k_whole); intro h' F' N'; (try k_sweep))
  k_with "call ref" => (k_here; (with_reducible show wpAny _ _ (call (Value.ref 304) _) _ _ _); k_dflt (refine' spelled_spec ?k1 ?k2 ?k3 ?k4 ?k5 ?kK ?kd ?ku ?x0 ?x1 ?_; (case k1 => k_asm); (case k2 => k_asm); (case k3 => k_asm); (case k4 => first | k_asm | exact News.s1 (by k_asm) | exact News.s2 (by k_asm) | exact News.s3 (by k_asm)); (case k5 => k_asm); (case kK => first | exact rfl | assumption); (case kd => (first | exact rm2 (by assumption) (by exact rfl) | exact rm1 (by assumption) (by exact rfl) | exact rm3 (by assumption) (by exact rfl) | exact rm0 (by assumption) | ktr_room)); (case ku => (first | exact rm2 (by assumption) (by exact rfl) | exact rm1 (by assumption) (by exact rfl) | exact rm3 (by assumption) (by exact rfl) | exact rm0 (by assumption) | ktr_units)); (case x0 => first | assumption | k_ne | ((repeat (refine ne_cons' (by omega) ?_)); assumption)); (case x1 => assumption); k_whole); intro d9 i9 y9 na9 nb9 a9 b9 ty9 tn9 tm9 ta9 tb9 h9 tk9 Y9 S9 F9 N9 l9 l8 l7 l6 l5; (try k_sweep); (try simp only [AllLt] at l6 l5))
  k_with "call ref" => (k_here; (with_reducible show wpAny _ _ (call (Value.ref 290) _) _ _ _); k_dflt (refine' take_spec ?k1 ?k2 ?k3 ?k4 ?k5 ?kK ?kd ?ku ?x0 ?x1 ?x2 ?_; (case k1 => k_asm); (case k2 => k_asm); (case k3 => k_asm); (case k4 => first | k_asm | exact News.s1 (by k_asm) | exact News.s2 (by k_asm) | exact News.s3 (by k_asm)); (case k5 => k_asm); (case kK => first | exact rfl | assumption); (case kd => (first | exact rm2 (by assumption) (by exact rfl) | exact rm1 (by assumption) (by exact rfl) | exact rm3 (by assumption) (by exact rfl) | exact rm0 (by assumption) | ktr_room)); (case ku => (first | exact rm2 (by assumption) (by exact rfl) | exact rm1 (by assumption) (by exact rfl) | exact rm3 (by assumption) (by exact rfl) | exact rm0 (by assumption) | ktr_units)); (case x0 => first | assumption | k_ne | ((repeat (refine ne_cons' (by omega) ?_)); assumption)); (case x1 => assumption); (case x2 => first | assumption | exact ⟨by decide, by decide⟩); k_whole); intro v9 a9 b9 u9 u8 u7 h9 tk9 P9 S9 F9 N9; (try k_sweep))
  k_with "call type:tuple" => (k_here; (with_reducible show wpAny _ _ (call (Value.type _) [Value.ref _]) _ _ _); k_dflt (refine' tup_is ?k1 ?k2 ?k3 ?k4 ?_; (case k1 => k_asm); (case k2 => k_asm); (case k3 => first | exact .head _ | exact .tail _ (.head _)); (case k4 => omega); k_whole); intro d9 h9 F9 N9 l9; (try k_sweep))
  k_with "call type:str" => (k_here; refine str_flag (by assumption) ?_; intro _ _)
  k_with "call builtin:str.join" => (k_here; (with_reducible show wpAny _ _ (call (Value.builtin _) [Value.str _ _, Value.ref _]) _ _ _); k_dflt (refine' join_lw ?k1 ?k2 ?k3 ?k4 ?k5 ?_; (case k1 => k_asm); (case k2 => k_mem); (case k3 => assumption); (case k4 => assumption); (case k5 => assumption); k_whole); intro _ _)
  trivial
theorem ln_start {h : Heap} {D wl nl S : Addr × Obj} {rest : Led} (N : News h₀ L h (D :: wl :: nl :: S :: rest)) : News h₀ L h (S :: nl :: wl :: rest) :=
  News.sub N fun p hp => by simp only [List.mem_cons] at hp ⊢; rcases hp with h | h | h | h <;> simp [h]
theorem lgroup_spec {so : Addr} {sa sb : Int} {ta tb ts tg : Tok} {nn c u kk : Nat} {n : Int} {arc : Bool} {gp : Str}
  (B : Below A₀ base outer h₀) (F : Fr h₀ L s.heap m) (X : (hd.heap_1 w.params).In h₀)
  (N : News h₀ L s.heap ((so, W.listOf [Value.int sa ta, Value.int sb tb].toArray nn) :: rest))
  (Tp : Top view theLoose mean mg mb h₀) (hk : cs.kind = .function)
  (hdp : dp + 40 < recursionLimit) (hun : un + 320 < cLine)
 (hs : ∀ q ∈ rest, q.1 ≠ so) (hS : Src sa sb) (e1 : Txt.upper ⟨#[c]⟩ = ⟨#[u]⟩) (e2 : PySem.Spec.lookup (.str ⟨#[u]⟩) [(PyData.str (Str.ofString "M"), PyData.int 2), (PyData.str (Str.ofString "L"), PyData.int 2), (PyData.str (Str.ofString "H"), PyData.int 1), (PyData.str (Str.ofString "V"), PyData.int 1), (PyData.str (Str.ofString "C"), PyData.int 6), (PyData.str (Str.ofString "S"), PyData.int 4), (PyData.str (Str.ofString "Q"), PyData.int 4), (PyData.str (Str.ofString "T"), PyData.int 2), (PyData.str (Str.ofString "A"), PyData.int 7)] = some (.int n)) (hn : (kk : Int) = n) (hk9 : Few n) (e7 : decide (n = 7) = arc) (hg : gp.length ≤ 16)
  (hret : ∀ (d t : Addr) (vs : List Value) (ws : List (List Nat)) (ds : List Dat) (n2 : Nat) (new : Led) (a' b' : Int) (tw ta' tb' : Tok) (h' : Heap) (tk' : Nat), GTc arc kk 0 ws ds → DatAll new vs ds → Src a' b' → Fr h₀ L h' m → News h₀ L h' ((so, W.listOf [Value.int a' ta', Value.int b' tb'].toArray nn) :: (d, tupO [.ref t, .str (Str.join gp (ws.map mkS)) tw]) :: (t, ⟨.type "tuple", none, .seq vs.toArray n2, #[]⟩) :: (new ++ rest)) →
    (∀ q ∈ (d, tupO [.ref t, .str (Str.join gp (ws.map mkS)) tw]) :: (t, (⟨.type "tuple", none, .seq vs.toArray n2, #[]⟩ : Obj)) :: new, so < q.1 ∧ ∀ b ∈ rest, b.1 < q.1) → Q (.ref d) { s with heap := h', toks := tk' }) :
  wpAny (model prog w) (ktrTop dp un gd cn cs L a ccd cl outer) (call (.ref 318) [.ref so, .str ⟨#[c]⟩ ts, .str gp tg]) Q E s := by
  have st5 : Stop 5 := trivial
  refine wpAny_call ?_
  k_dflt (refine' code_def (binds := [(Str.ofString "source", .ref so), (Str.ofString "letter", .str ⟨#[c]⟩ ts), (Str.ofString "gap", .str gp tg)]) ?k1 ?k2 ?k3 ?k4 ?k5 ?kA ?kF ?kK ?k6 ?k7 ?k8 ?k9 ?kB ?_ ?c2 ?c3 ?c4 ?c5; (case kA => exact rfl); (case kF => exact rfl); (case kK => assumption); (case k1 => k_asm); (case k2 => k_asm); (case k3 => k_asm); (case k4 => k_asm); (case k5 => k_asm); (case k6 => k_is); (case k7 => k_is); (case k8 => (first | exact rm2 (by assumption) (by exact rfl) | exact rm1 (by assumption) (by exact rfl) | exact rm3 (by assumption) (by exact rfl) | exact rm0 (by assumption) | ktr_room)); (case k9 => first | exact BindsTo.of_eq rfl | exact binds_K (by k_in) rfl (by k_is) rfl rfl rfl); (case c5 => decide); (case kB => exact locs rfl); (case c2 => exact rfl); (case c3 => exact rfl); (case c4 => exact rfl); k_whole; intro g L' h' FG F1 N1 B1 X1 T1; (try k_fold))
  replace F1 := fr_of3 F1
  k_steps
  refine Halt.mk ?_
  (with_reducible rename News _ _ _ _ => N3)
  (with_reducible rename Obj.IsDictOf _ _ _ => D3)
  (with_reducible rename PyProof.V.FlatPairs _ _ _ => D4)
  have D5 : TabAt (strKind prog w) PyData.str _ _ [(PyData.str (Str.ofString "M"), PyData.int 2), (PyData.str (Str.ofString "L"), PyData.int 2), (PyData.str (Str.ofString "H"), PyData.int 1), (PyData.str (Str.ofString "V"), PyData.int 1), (PyData.str (Str.ofString "C"), PyData.int 6), (PyData.str (Str.ofString "S"), PyData.int 4), (PyData.str (Str.ofString "Q"), PyData.int 4), (PyData.str (Str.ofString "T"), PyData.int 2), (PyData.str (Str.ofString "A"), PyData.int 7)] := TabAt.ofNews N3 (.head _) (by assumption) D3 D4
  replace N3 := News.tl N3
  clear D3 D4
  k_steps
  refine Halt.mk ?_
  (with_reducible rename IsRange _ _ _ _ _ _ _ _ => R2)
  (with_reducible rename Fr g _ _ _ => F2); (with_reducible rename News g _ _ _ => N2)
  replace N2 := ln_start N2
  (repeat ((with_reducible rename _ ∧ _ => z); (have z1 := z.1); (have z2 := z.2); clear z))
  have hsm := range_small hk9
  have hrs : Builtin.Range.rangeSize 0 n 1 = (kk : Int) := by rw [range_size hk9]; exact hn.symm
  have hkk9 : kk < 9 := by have := hk9.2; omega
  with_reducible show wpAny _ _ (pyIter (Value.ref _)) (fun it s₂ => LoopAtV _ _ _ _ _ _ _ _ _ it s₂) _ _
  refine iter_rangeUnr (n := kk) rfl R2 hsm hrs F2 N2 fun I hI => ?_
  refine range_rest (LJ I so nn gp n arc kk rest) ?_ ?_ kk 0 _ _ (by omega) ?_
  rotate_left 2
  · exact ⟨sa, sb, ta, tb, tg, _, _, _, [], [], [], [], [], rfl, hS, by omega, rfl, rfl, .nil, .nil, .nil, ⟨by omega, by omega, by omega, fun q hq => allLtG (by assumption) hq, fun q hq => allLtG (by assumption) hq, fun q hq => nomatch hq⟩, fun q hq => Nat.ne_of_lt (hI q hq), rfl, rfl, rfl, rfl, rfl⟩
  · rintro i m3 nx h3 tk3 ⟨sa3, sb3, ta3, tb3, tg3, tn3, nl, wl, vs, vw, ws, ds, extra, rfl, S3, hik2, hvl, hwl, D3, G3, W3, K3, hoff, u1, u2, u3, u4, u5⟩ F3 N3
    clear F2 N2
    have hk8 : vs.length < 9 := by omega
    have hw8 : ((ws.map mkS).map (·.length)).sum + (ws.map mkS).length ≤ 1048576 := by have := G3.sum; have := G3.len.1; simp only [List.length_map]; omega
    k_steps
    obtain rfl : i = kk := by omega
    (with_reducible rename News h₀ _ _ _ => N5)
    exact hret _ _ vs ws ds 0 extra sa3 sb3 _ ta3 tb3 _ _ G3 D3 S3 (by assumption) (lg_end N5) (fin_lg K3 (by assumption) (by assumption))
  · rintro k i m3 nx t3 h3 tk3 hik ⟨sa3, sb3, ta3, tb3, tg3, tn3, nl, wl, vs, vw, ws, ds, extra, rfl, S3, hik2, hvl, hwl, D3, G3, W3, K3, hoff, u1, u2, u3, u4, u5⟩ F3 N3
    clear F2 N2
    have hk8 : vs.length < 9 := by omega
    have hw8 : vw.length < 9 := by omega
    have z1 := K3.sn
    have z2 := K3.sw
    have z3 := K3.nw
    have z4 : @Ne Nat so I := hoff _ (.head _)
    have z5 : @Ne Nat nl I := hoff _ (.tail _ (.head _))
    have z6 : @Ne Nat wl I := hoff _ (.tail _ (.tail _ (.head _)))
    have z7 := K3.ns hs
    have z8 := K3.nn
    have z9 := K3.nW
    have zI : ∀ q ∈ extra ++ rest, q.1 ≠ I := fun q hq => hoff _ (.tail _ (.tail _ (.tail _ hq)))
    have st3 : Stop 3 := trivial
    k_steps
    refine Halt.mk ?_
    have hpl : ((3 : Int) == 0 + (i : Int) || (4 : Int) == 0 + (i : Int)) = (i == 3 || i == 4) := by
      rw [Bool.eq_iff_iff]; simp; omega
    (with_reducible rename Fr g _ _ _ => F2); (with_reducible rename News g _ _ _ => N2)
    refine cutB (flAt arc i) F2 N2 ?_ ?_
    · cases arc
      · k_steps
        exact ⟨rfl, _, _, rfl, by assumption, by assumption⟩
      · k_steps
        all_goals exact ⟨by simp [flAt, *], _, _, rfl, by assumption, by first | assumption | exact News.tl (by assumption)⟩
    intro h6 tk6 F6 N6
    clear F2 N2
    cases hf : flAt arc i
    · k_steps
      (with_reducible rename Fr g _ _ _ => F5)
      (with_reducible rename News g _ _ _ => N5)
      (with_reducible rename Spelled _ _ _ => Y5)
      have Y6 := spelled_list Y5
      obtain ⟨w9, rfl, _⟩ := Y6
      (repeat ((with_reducible rename _ ∧ _ => z); (have z1 := z.1); (have z2 := z.2); clear z))
      exact fin_ln (QF := fun _ _ => True) (dd := .tuple [.int _, .int _]) (ex2 := [(_, _)]) F5 (drop2 N5) (fun q hq => by rw [List.mem_singleton.mp hq]; exact ⟨by assumption, by assumption⟩) (by assumption) hik hvl hwl D3 (.tuple (.head _) (.cons (.int _ _) (.cons (.int _ _) .nil))) G3 (.num _ _ hf Y5 rfl) W3 K3 z4 z5 z6 zI (by exact u1) (by exact u2) (by exact u3) (by exact u4) (by exact u5)
    · k_steps
      (with_reducible rename Fr g _ _ _ => F5)
      (with_reducible rename News g _ _ _ => N5)
      (with_reducible rename Pick _ 2 => P5)
      exact fin_ln (QF := fun _ _ => True) (dd := .int _) (ex2 := []) F5 (drop2 (drop2 N5)) (fun q hq => nomatch hq) (by assumption) hik hvl hwl D3 (.int _ _) G3 (.flag _ _ hf (by have := P5.1; omega) (by have := P5.1; have := P5.2; omega) rfl rfl) W3 K3 z4 z5 z6 zI (by exact u1) (by exact u2) (by exact u3) (by exact u4) (by exact u5)
end
theorem off_lwritd : True := by
  w_top off
  k_with_none
  trivial
section
def AmongS (ls : List Str) (_ : Led) (v : Value) : Prop := ∃ g t, v = .str g t ∧ g ∈ ls
/-- the letters of a group: the number of its numbers -/
inductive LG (c kk : Nat) (arc : Bool) : Prop
  | mk (u : Nat) (n : Int) : Txt.upper ⟨#[c]⟩ = ⟨#[u]⟩ → PySem.Spec.lookup (.str ⟨#[u]⟩) [(PyData.str (Str.ofString "M"), PyData.int 2), (PyData.str (Str.ofString "L"), PyData.int 2), (PyData.str (Str.ofString "H"), PyData.int 1), (PyData.str (Str.ofString "V"), PyData.int 1), (PyData.str (Str.ofString "C"), PyData.int 6), (PyData.str (Str.ofString "S"), PyData.int 4), (PyData.str (Str.ofString "Q"), PyData.int 4), (PyData.str (Str.ofString "T"), PyData.int 2), (PyData.str (Str.ofString "A"), PyData.int 7)] = some (.int n) → (kk : Int) = n → Few n → decide (n = 7) = arc → LG c kk arc
inductive Writ (c : Nat) : List Ent → Str → Prop
  | close (bh : Str) : isZz c = true → bh ∈ [Str.ofString "", Str.ofString " ", Str.ofString "\n"] → Writ c [(c, [])] (⟨#[c]⟩ ++ bh)
  | one (kk : Nat) (arc : Bool) (gp lg bh : Str) (ws : List (List Nat)) (ds : List Dat) : isZz c = false → LG c kk arc → GTc arc kk 0 ws ds → gp ∈ [Str.ofString " ", Str.ofString ",", Str.ofString " ,\t", Str.ofString "\r\n"] → lg ∈ [Str.ofString "", Str.ofString " "] → bh ∈ [Str.ofString "", Str.ofString " ", Str.ofString "\n"] → Writ c [(c, ds)] (⟨#[c]⟩ ++ lg ++ Str.join gp (ws.map mkS) ++ bh)
  | two (kk : Nat) (arc : Bool) (gp lg bh : Str) (ws ws2 : List (List Nat)) (ds ds2 : List Dat) : isZz c = false → LG c kk arc → GTc arc kk 0 ws ds → GTc arc kk 0 ws2 ds2 → gp ∈ [Str.ofString " ", Str.ofString ",", Str.ofString " ,\t", Str.ofString "\r\n"] → lg ∈ [Str.ofString "", Str.ofString " "] → bh ∈ [Str.ofString "", Str.ofString " ", Str.ofString "\n"] → Writ c [(c, ds), (behindC c, ds2)] (⟨#[c]⟩ ++ lg ++ Str.join gp (ws.map mkS) ++ gp ++ Str.join gp (ws2.map mkS) ++ bh)
theorem bls_len {g : Str} (h : g ∈ [Str.ofString "", Str.ofString " ", Str.ofString "\n"]) : g.length ≤ 3 := by
  simp only [List.mem_cons, List.not_mem_nil, or_false] at h
  rcases h with rfl | rfl | rfl <;> decide +kernel
theorem gaps_len {g : Str} (h : g ∈ [Str.ofString " ", Str.ofString ",", Str.ofString " ,\t", Str.ofString "\r\n"]) : g.length ≤ 3 := by
  simp only [List.mem_cons, List.not_mem_nil, or_false] at h
  rcases h with rfl | rfl | rfl | rfl <;> decide +kernel
theorem lgs_len {g : Str} (h : g ∈ [Str.ofString "", Str.ofString " "]) : g.length ≤ 3 := by
  simp only [List.mem_cons, List.not_mem_nil, or_false] at h
  rcases h with rfl | rfl <;> decide +kernel
theorem join_len (gp : Str) (ys : List Str) (hg : gp.length ≤ 3) : (Str.join gp ys).length ≤ (ys.map (·.length)).sum + ys.length * 3 := by
  cases ys with
  | nil => exact Nat.zero_le _
  | cons a l =>
    have := len_join_cons gp a l
    rw [this]
    have : l.length * gp.length ≤ l.length * 3 := Nat.mul_le_mul_left _ hg
    simp only [List.length_cons]
    omega
theorem gtc_join {arc : Bool} {k i : Nat} {ws : List (List Nat)} {ds : List Dat} {gp : Str} (h : GTc arc k i ws ds) (hk : k < 9) (hg : gp.length ≤ 3) : (Str.join gp (ws.map mkS)).length ≤ 72 := by
  have h1 := join_len gp (ws.map mkS) hg
  have h2 := h.sum
  have h3 := h.len.1
  rw [List.length_map] at h1
  omega
theorem up_nil {so : Addr} : ∀ q ∈ ([] : Led), so < q.1 ∧ ∀ b ∈ rest, b.1 < q.1 := fun q hq => nomatch hq
theorem up_cons {so d : Addr} {o : Obj} {tl : Led} (h1 : @LT.lt Nat _ so d) (h2 : AllLt d rest) (h3 : ∀ q ∈ tl, so < q.1 ∧ ∀ b ∈ rest, b.1 < q.1) : ∀ q ∈ (d, o) :: tl, so < q.1 ∧ ∀ b ∈ rest, b.1 < q.1 := by
  intro q hq
  rcases List.mem_cons.mp hq with rfl | hq
  · exact ⟨h1, fun b hb => allLtG h2 hb⟩
  · exact h3 q hq
theorem allLt_r {d : Addr} : ∀ {a b : Led}, AllLt d (a ++ b) → AllLt d b
  | [], _, h => h
  | _ :: _, _, h => allLt_r h.2
theorem w_end1 {h : Heap} {D S Dt l D1 d1 t : Addr × Obj} {new : Led} (N : News h₀ L h (D :: S :: Dt :: l :: D1 :: d1 :: t :: (new ++ rest))) : News h₀ L h (S :: D :: l :: ((D1 :: t :: new) ++ rest)) :=
  News.sub N fun p hp => by simp only [List.mem_cons, List.cons_append] at hp ⊢; rcases hp with h | h | h | h | h | h <;> simp [h]
theorem w_mid {h : Heap} {S d2 t2 Dt l D1 d1 t : Addr × Obj} {new new2 : Led} (N : News h₀ L h (S :: d2 :: t2 :: (new2 ++ (Dt :: l :: D1 :: d1 :: t :: (new ++ rest))))) : News h₀ L h (S :: d2 :: t2 :: l :: D1 :: t :: ((new2 ++ new) ++ rest)) :=
  News.sub N fun p hp => by simp only [List.mem_cons, List.mem_append] at hp ⊢; rcases hp with h | h | h | h | h | h | (h | h) | h <;> simp [h]
theorem w_end2 {h : Heap} {D S d9 lx D1 d2 t2 l D3 t : Addr × Obj} {new new2 : Led} (N : News h₀ L h (D :: d9 :: lx :: D1 :: S :: d2 :: t2 :: l :: D3 :: t :: ((new2 ++ new) ++ rest))) : News h₀ L h (S :: D :: d9 :: ((D1 :: t2 :: D3 :: t :: (new2 ++ new)) ++ rest)) :=
  News.sub N fun p hp => by simp only [List.mem_cons, List.mem_append, List.cons_append] at hp ⊢; rcases hp with h | h | h | h | h | h | h | h <;> simp [h]
theorem ne_keep {h : Heap} {so : Addr} {o : Obj} {LL : Led} (_ : News h₀ L h ((so, o) :: LL)) (hn : ∀ q ∈ LL, q.1 ≠ so) : ∀ q ∈ LL, q.1 ≠ so := hn
theorem addT {x y : Str} {t u : Tok} (hs : (x ++ y).length < 1000000) (h : ∀ t' tk, Q (.str (x ++ y) t') { s with toks := tk }) : wpAny (model prog w) A₀ (binaryOp .Add (.str x t) (.str y u)) Q E s :=
  addS_is rfl hs h
theorem cat_is {news : Led} {l b : Addr} {vs ws : List Value} {n1 n2 : Nat} (F : Fr h₀ L s.heap m) (N : News h₀ L s.heap news) (hm1 : (l, W.listOf vs.toArray n1) ∈ news) (hm2 : (b, W.listOf ws.toArray n2) ∈ news) (hsz : vs.length + ws.length < 1000)
    (h : ∀ d h', Fr h₀ L h' m → News h₀ L h' ((d, W.listOf (vs ++ ws).toArray 0) :: news) → AllLt d news → Q (.ref d) { s with heap := h' }) : wpAny (model prog w) A₀ (binaryOp .Add (.ref l) (.ref b)) Q E s :=
  add_lists F N (News.isList N hm1) (News.isList N hm2) (fun h' F' N' => h _ h' F' N' (allLt_of fun q hq => Heap.lt_size (N q hq).1)) (by rw [PySem.sizeLine_eq]; omega)
end
theorem off_lend : True := by
  w_top off
  k_with_none
  trivial
section
theorem kw_lend_1 : True := by
  k_with "ne" => (refine neN ?_; (try dsimp only); first | assumption | exact Ne.symm (by assumption) | exact Nat.ne_of_gt (by assumption) | exact Nat.ne_of_lt (by assumption) | exact lt_1 (by assumption) (by k_mem) | exact lt_2 (by assumption) (by k_mem) | exact Nat.ne_of_gt (And.left (by assumption)) | exact Nat.ne_of_lt (And.left (by assumption)) | exact Nat.ne_of_gt (And.left (And.right (by assumption))) | exact Nat.ne_of_lt (And.left (And.right (by assumption))) | exact Nat.ne_of_gt (And.left (And.right (And.right (by assumption)))) | exact Nat.ne_of_lt (And.left (And.right (And.right (by assumption)))) | exact Nat.ne_of_gt (And.left (And.right (And.right (And.right (by assumption))))) | exact Nat.ne_of_lt (And.left (And.right (And.right (And.right (by assumption))))) | exact Nat.ne_of_gt (And.left (And.right (And.right (And.right (And.right (by assumption)))))) | exact Nat.ne_of_lt (And.left (And.right (And.right (And.right (And.right (by assumption)))))) | exact Nat.ne_of_gt (And.left (And.right (And.right (And.right (And.right (And.right (by assumption))))))) | exact Nat.ne_of_lt (And.left (And.right (And.right (And.right (And.right (And.right (by assumption))))))))
  k_with "newTuple" => (k_here; k_dflt (refine' kup_newTuple ?F ?N ?_ ?z; (case F => k_asm); (case N => k_asm); (case z => kmk_size)); intro D9 h9 F9 N9 u9; (try k_sweep))
  k_with "newList" => (k_here; k_dflt (refine' newList_K ?k1 ?k2 ?_; (case k1 => k_asm); (case k2 => k_asm); k_whole); intro D9 h9 F9 N9 u9; (try k_sweep))
  k_with "execs cons" => (k_here; refine wpAny_execs_cons ?_; k_fold)
  k_with "eval Tuple" => (k_here; k_fold)
  k_with "eval List" => (k_here; k_fold)
  k_with "eval Call Attribute" => (k_here; k_fold)
  k_with "eval Call" => (k_here; k_fold)
  k_with "exec While BoolOp cons nil" => refine Halt.out ?_
  k_with "exec While Compare cons nil" => refine Halt.out ?_
  k_with "exec While Call cons nil" => refine Halt.out ?_
  k_with "eval Name" => (k_here; k_dflt (refine' ld ?k1 ?k2 ?_; (case k1 => k_asm); (case k2 => first | exact rfl | assumption); k_whole))
  k_with "call builtin:len" => (k_here; first | (refine len_is (by assumption) (by omega) ?_; intro _ _) | (refine PySem.P.len_str (by have h9 := (‹At _ _ _›).small; omega) ?_))
  k_with "subscriptTail" => (k_here; (with_reducible show wpAny _ _ (subscriptTail _ _ (Value.str _ _) (Value.int _ _)) _ _ _); k_dflt (refine' item_at ?k1 ?_ ?k2 ?k3; (case k1 => assumption); (case k2 => with_unfolding_all rfl); (case k3 => intro _; with_unfolding_all rfl)); intro _ _)
  k_with "binaryOp Add int int" => (k_here; refine addI ?_; intro _ _)
  k_with "binaryOp Sub int int" => (k_here; refine subI ?_; intro _ _)
  k_with "compareOp In str str" => (k_here; refine in_is (by assumption) ?_)
  k_with "compareOp NotIn str str" => (k_here; refine notin_is (by assumption) ?_)
  k_with "compareOp Eq str str" => (k_here; refine eqs_is (by assumption) ?_)
  k_with "compareOp NotEq str str" => (k_here; refine nes_is (by assumption) ?_)
  k_with "binaryOp FloorDiv int int" => (k_here; refine fdivI (by omega) (by omega) ?_; intro _ _)
  k_with "binaryOp Mod int int" => (k_here; refine fmodI (by omega) ?_; intro _ _)
  k_with "compareOp Eq int int" => (k_here; refine eqi_is (by assumption) ?_)
  k_with "compareOp In str ref" => (k_here; k_dflt (refine' in_two ?k1 ?k2 ?_; (case k1 => exact (News.get (by k_asm) (by k_mem))); (case k2 => assumption)))
  k_with "compareOp NotIn str ref" => (k_here; k_dflt (refine' notin_two ?k1 ?k2 ?_; (case k1 => exact (News.get (by k_asm) (by k_mem))); (case k2 => assumption)))
  k_with "subscriptTail Name Slice str ref" => (k_here; (with_reducible show wpAny _ _ (subscriptTail _ (Expr.Slice (some _) (some _) none _) _ _) _ _ _); (with_reducible rename Fr _ _ _ _ => F'); (with_reducible rename News _ _ _ _ => N'); (refine slice_strN_ss (hsz := ?hsz) (s := ⟨_, _, _, _, _⟩) F' N' ?_); (case hsz => (have h9 := (‹At _ _ _›).small; rw [PySem.sizeLine_eq]; omega)); intro _ _ _ _ _; (try k_sweep))
  k_with "subscriptTail Attribute Slice str ref" => (k_here; (with_reducible show wpAny _ _ (subscriptTail _ (Expr.Slice (some _) (some _) none _) _ _) _ _ _); (with_reducible rename Fr _ _ _ _ => F'); (with_reducible rename News _ _ _ _ => N'); (refine slice_strN_ss (hsz := ?hsz) (s := ⟨_, _, _, _, _⟩) F' N' ?_); (case hsz => (have h9 := (‹At _ _ _›).small; rw [PySem.sizeLine_eq]; omega)); intro _ _ _ _ _; (try k_sweep))
  k_with "call ref" => (k_here; (with_reducible show wpAny _ _ (call (Value.ref 297) _) _ _ _); refine Halt.out ?_)
  trivial
def Ending (y : Str) (pl : Int) (es : List Ent) : Prop := (y, pl, es) ∈ ([(Str.ofString "x", 0, []), (Str.ofString "H3 , z", 5, [(72, [.tuple [.int 3, .int 1]])]), (Str.ofString "L 4", 3, []), (Str.ofString "L 4 5 6", 7, [(76, [.tuple [.int 4, .int 1], .tuple [.int 5, .int 1]])]), (Str.ofString "A1 1 0 2 1 5 5", 7, []), (Str.ofString "t", 1, []), (Str.ofString "m4 5-z", 4, [(109, [.tuple [.int 4, .int 1], .tuple [.int 5, .int 1]])])] : List (Str × Int × List Ent))
theorem datStr {l : Led} {y z : Str} {t : Tok} (h : y = z) : DatIn l (.str y t) (.str z) := h ▸ .str _ _
def EndP (rest0 : Led) (tl : Led) (v : Value) : Prop := ∃ (d kl : Addr) (y : Str) (pl : Int) (ty tp : Tok) (es : List Ent) (vs : List Value) (n2 : Nat), v = .ref d ∧ (d, tupO [.str y ty, .int pl tp, .ref kl]) ∈ tl ∧ (kl, W.listOf vs.toArray n2) ∈ tl ∧ Ending y pl es ∧ DatAll tl vs (es.map entD) ∧ ∀ q ∈ rest0, q ∈ tl
theorem end_N {h : Heap} {S Y p1 p2 : Addr × Obj} {T9 : Led} (N : News h₀ L h (S :: Y :: T9)) (q1 : p1 ∈ T9) (q2 : p2 ∈ T9) : News h₀ L h (S :: p1 :: p2 :: Y :: T9) := News.sub N fun p hp => by
  rcases List.mem_cons.mp hp with rfl | hp
  · exact .head _
  rcases List.mem_cons.mp hp with rfl | hp
  · exact .tail _ (.tail _ q1)
  rcases List.mem_cons.mp hp with rfl | hp
  · exact .tail _ (.tail _ q2)
  exact .tail _ hp
theorem end_ne {so : Addr} {Y p1 p2 : Addr × Obj} {T9 : Led} (hns : ∀ q ∈ Y :: T9, q.1 ≠ so) (q1 : p1 ∈ T9) (q2 : p2 ∈ T9) : ∀ q ∈ p1 :: p2 :: Y :: T9, q.1 ≠ so := by
  intro q hq
  rcases List.mem_cons.mp hq with rfl | hq
  · exact hns _ (.tail _ q1)
  rcases List.mem_cons.mp hq with rfl | hq
  · exact hns _ (.tail _ q2)
  exact hns _ hq
theorem lend_spec {so : Addr} {sa sb : Int} {ta tb : Tok} {nn : Nat}
  (B : Below A₀ base outer h₀) (F : Fr h₀ L s.heap m) (X : (hd.heap_1 w.params).In h₀)
  (N : News h₀ L s.heap ((so, W.listOf [Value.int sa ta, Value.int sb tb].toArray nn) :: rest))
  (Tp : Top view theLoose mean mg mb h₀) (hk : cs.kind = .function)
  (hdp : dp + 16 < recursionLimit) (hun : un + 128 < cLine)
 (hs : ∀ q ∈ rest, q.1 ≠ so) (hS : Src sa sb)
  (hret : ∀ (d kl : Addr) (y : Str) (pl a' b' : Int) (ty tp ta' tb' : Tok) (es : List Ent) (vs : List Value) (n2 : Nat) (tl : Led) (h' : Heap) (tk' : Nat), Ending y pl es → DatAll tl vs (es.map entD) → (∀ q ∈ rest, q ∈ tl) → Src a' b' → Fr h₀ L h' m → News h₀ L h' ((so, W.listOf [Value.int a' ta', Value.int b' tb'].toArray nn) :: (d, tupO [.str y ty, .int pl tp, .ref kl]) :: (kl, W.listOf vs.toArray n2) :: tl) → (∀ q ∈ (d, tupO [.str y ty, .int pl tp, .ref kl]) :: (kl, W.listOf vs.toArray n2) :: tl, q.1 ≠ so) → Q (.ref d) { s with heap := h', toks := tk' }) :
  wpAny (model prog w) (ktrTop dp un gd cn cs L a ccd cl outer) (call (.ref 332) [.ref so]) Q E s := by
  refine wpAny_call ?_
  k_dflt (refine' code_def (binds := [(Str.ofString "source", .ref so)]) ?k1 ?k2 ?k3 ?k4 ?k5 ?kA ?kF ?kK ?k6 ?k7 ?k8 ?k9 ?kB ?_ ?c2 ?c3 ?c4 ?c5; (case kA => exact rfl); (case kF => exact rfl); (case kK => assumption); (case k1 => k_asm); (case k2 => k_asm); (case k3 => k_asm); (case k4 => k_asm); (case k5 => k_asm); (case k6 => k_is); (case k7 => k_is); (case k8 => (first | exact rm2 (by assumption) (by exact rfl) | exact rm1 (by assumption) (by exact rfl) | exact rm3 (by assumption) (by exact rfl) | exact rm0 (by assumption) | ktr_room)); (case k9 => first | exact BindsTo.of_eq rfl | exact binds_K (by k_in) rfl (by k_is) rfl rfl rfl); (case c5 => decide); (case kB => exact locs rfl); (case c2 => exact rfl); (case c3 => exact rfl); (case c4 => exact rfl); k_whole; intro g L' h' FG F1 N1 B1 X1 T1; (try k_fold))
  replace F1 := fr_of1 F1
  k_steps
  refine Halt.mk ?_
  (with_reducible rename Fr g _ _ _ => F2); (with_reducible rename News g _ _ _ => N2)
  have hns := ne_led (n := 23) N2 rfl (by
    dsimp only [List.eraseIdx]
    repeat (first | exact hs | (refine ne_cons' (by exact lt_1 (by assumption) (by k_mem)) ?_)))
  replace N2 := News.nth N2 23 rfl
  dsimp only [List.eraseIdx] at N2 hns
  k_dflt (refine' one_list (P := EndP rest) ?k1 ?k2 ?k3 ?k4 ?k5 ?kK ?kd ?ku ?x0 ?x1 ?x2 ?x3 ?_; (case k1 => exact B1); (case k2 => exact F2); (case k3 => exact X1); (case k4 => exact N2); (case k5 => exact T1); (case kK => exact rfl); (case kd => (first | exact rm2 (by assumption) (by exact rfl) | exact rm1 (by assumption) (by exact rfl) | exact rm3 (by assumption) (by exact rfl) | exact rm0 (by assumption) | ktr_room)); (case ku => (first | exact rm2 (by assumption) (by exact rfl) | exact rm1 (by assumption) (by exact rfl) | exact rm3 (by assumption) (by exact rfl) | exact rm0 (by assumption) | ktr_units)); (case x0 => exact hns); (case x1 => exact hS); (case x2 => exact ⟨by simp, by simp⟩); (case x3 => (intro v hv; simp only [List.mem_cons, List.not_mem_nil, or_false] at hv; rcases hv with rfl | rfl | rfl | rfl | rfl | rfl | rfl; (· exact ⟨_, _, _, _, _, _, [], [], _, rfl, by k_mem, by k_mem, (by unfold Ending; exact .head _), .nil, fun q hq => (by repeat (first | exact hq | refine List.Mem.tail _ ?_))⟩); (· exact ⟨_, _, _, _, _, _, [(72, [.tuple [.int 3, .int 1]])], [_], _, rfl, by k_mem, by k_mem, (by unfold Ending; exact .tail _ (.head _)), .cons (.tuple (by k_mem) (.cons (datStr (by decide +kernel)) (.cons (.tuple (by k_mem) (.cons (.tuple (by k_mem) (.cons (.int _ _) (.cons (.int _ _) .nil))) .nil)) .nil))) .nil, fun q hq => (by repeat (first | exact hq | refine List.Mem.tail _ ?_))⟩); (· exact ⟨_, _, _, _, _, _, [], [], _, rfl, by k_mem, by k_mem, (by unfold Ending; exact .tail _ (.tail _ (.head _))), .nil, fun q hq => (by repeat (first | exact hq | refine List.Mem.tail _ ?_))⟩); (· exact ⟨_, _, _, _, _, _, [(76, [.tuple [.int 4, .int 1], .tuple [.int 5, .int 1]])], [_], _, rfl, by k_mem, by k_mem, (by unfold Ending; exact .tail _ (.tail _ (.tail _ (.head _)))), .cons (.tuple (by k_mem) (.cons (datStr (by decide +kernel)) (.cons (.tuple (by k_mem) (.cons (.tuple (by k_mem) (.cons (.int _ _) (.cons (.int _ _) .nil))) (.cons (.tuple (by k_mem) (.cons (.int _ _) (.cons (.int _ _) .nil))) .nil))) .nil))) .nil, fun q hq => (by repeat (first | exact hq | refine List.Mem.tail _ ?_))⟩); (· exact ⟨_, _, _, _, _, _, [], [], _, rfl, by k_mem, by k_mem, (by unfold Ending; exact .tail _ (.tail _ (.tail _ (.tail _ (.head _))))), .nil, fun q hq => (by repeat (first | exact hq | refine List.Mem.tail _ ?_))⟩); (· exact ⟨_, _, _, _, _, _, [], [], _, rfl, by k_mem, by k_mem, (by unfold Ending; exact .tail _ (.tail _ (.tail _ (.tail _ (.tail _ (.head _)))))), .nil, fun q hq => (by repeat (first | exact hq | refine List.Mem.tail _ ?_))⟩); (· exact ⟨_, _, _, _, _, _, [(109, [.tuple [.int 4, .int 1], .tuple [.int 5, .int 1]])], [_], _, rfl, by k_mem, by k_mem, (by unfold Ending; exact .tail _ (.tail _ (.tail _ (.tail _ (.tail _ (.tail _ (.head _))))))), .cons (.tuple (by k_mem) (.cons (datStr (by decide +kernel)) (.cons (.tuple (by k_mem) (.cons (.tuple (by k_mem) (.cons (.int _ _) (.cons (.int _ _) .nil))) (.cons (.tuple (by k_mem) (.cons (.int _ _) (.cons (.int _ _) .nil))) .nil))) .nil))) .nil, fun q hq => (by repeat (first | exact hq | refine List.Mem.tail _ ?_))⟩))); k_whole)
  intro v a' b' ta' tb' h' tk' hP S9 F9 N9
  obtain ⟨d, kl, y, pl, ty, tp, es, vs, n2, rfl, q1, q2, q3, q4, q5⟩ := hP
  k_steps
  (with_reducible rename News h₀ _ _ _ => N5)
  exact hret d kl y pl a' b' ty tp ta' tb' es vs n2 _ _ _ q3 (DatAll.mono (fun q hq => .tail _ hq) q4) (fun q hq => .tail _ (q5 q hq)) S9 (by assumption) (end_N N5 q1 q2) (end_ne hns q1 q2)
end
theorem off_plain : True := by
  w_top off
  k_with_none
  trivial
section
theorem cps_app (x y : Str) : (x ++ y).cps.toList = x.cps.toList ++ y.cps.toList := by
  show (x.cps ++ y.cps).toList = _
  simp
/-- the first sign of a number -/
def NumC (c : Nat) : Prop := isNum c = true ∧ isBl c = false ∧ c ≠ 44
theorem spell_w {w : List Nat} {a b : Int} (h : Spelled (mkS w) a b) :
    (w, a, b) ∈ ([([48], 0, 1), ([45, 49, 46, 53], -3, 2), ([46, 50, 53], 1, 4), ([49, 101, 50], 100, 1), ([43, 55], 7, 1), ([51, 48], 30, 1), ([45, 50, 69, 45, 49], -1, 5), ([52, 46], 4, 1)] : List (List Nat × Int × Int)) := by
  have key : ∀ {t : Str} {l : List Nat}, t.cps.toList = l → mkS w = t → w = l := by
    rintro t l rfl rfl
    simp
  simp only [Spelled, List.mem_cons, List.not_mem_nil, or_false, Prod.mk.injEq] at h ⊢
  rcases h with ⟨h, h2⟩ | ⟨h, h2⟩ | ⟨h, h2⟩ | ⟨h, h2⟩ | ⟨h, h2⟩ | ⟨h, h2⟩ | ⟨h, h2⟩ | ⟨h, h2⟩
  · exact .inl ⟨key (by decide +kernel) h, h2⟩
  · exact .inr (.inl ⟨key (by decide +kernel) h, h2⟩)
  · exact .inr (.inr (.inl ⟨key (by decide +kernel) h, h2⟩))
  · exact .inr (.inr (.inr (.inl ⟨key (by decide +kernel) h, h2⟩)))
  · exact .inr (.inr (.inr (.inr (.inl ⟨key (by decide +kernel) h, h2⟩))))
  · exact .inr (.inr (.inr (.inr (.inr (.inl ⟨key (by decide +kernel) h, h2⟩)))))
  · exact .inr (.inr (.inr (.inr (.inr (.inr (.inl ⟨key (by decide +kernel) h, h2⟩))))))
  · exact .inr (.inr (.inr (.inr (.inr (.inr (.inr ⟨key (by decide +kernel) h, h2⟩))))))
theorem spell_num {w : List Nat} {a b : Int} (h : Spelled (mkS w) a b) {rr : List Nat} (hr : stops rr) : NumF (w ++ rr) rr a b := by
  have h := spell_w h
  simp only [List.mem_cons, List.not_mem_nil, or_false, Prod.mk.injEq] at h
  rcases h with ⟨rfl, rfl, rfl⟩ | ⟨rfl, rfl, rfl⟩ | ⟨rfl, rfl, rfl⟩ | ⟨rfl, rfl, rfl⟩ | ⟨rfl, rfl, rfl⟩ | ⟨rfl, rfl, rfl⟩ | ⟨rfl, rfl, rfl⟩ | ⟨rfl, rfl, rfl⟩
  · exact numF_0 hr
  · exact numF_1 hr
  · exact numF_2 hr
  · exact numF_3 hr
  · exact numF_4 hr
  · exact numF_5 hr
  · exact numF_6 hr
  · exact numF_7 hr
theorem spell_head {w : List Nat} {a b : Int} (h : Spelled (mkS w) a b) : (∃ c r, w = c :: r ∧ NumC c) ∧ ∀ x ∈ w, x < 128 := by
  have h := spell_w h
  simp only [List.mem_cons, List.not_mem_nil, or_false, Prod.mk.injEq] at h
  rcases h with ⟨rfl, _⟩ | ⟨rfl, _⟩ | ⟨rfl, _⟩ | ⟨rfl, _⟩ | ⟨rfl, _⟩ | ⟨rfl, _⟩ | ⟨rfl, _⟩ | ⟨rfl, _⟩
  all_goals exact ⟨⟨_, _, rfl, by decide, by decide, by decide⟩, by decide⟩
theorem item_head {fl : Bool} {w : List Nat} {d : Dat} (h : ItemW fl w d) : (∃ c r, w = c :: r ∧ NumC c) ∧ ∀ x ∈ w, x < 128 := by
  rcases h with ⟨a, b, _, h, _⟩ | ⟨v, k, _, _, hk, rfl, _⟩
  · exact spell_head h
  · have : k = 0 ∨ k = 1 := by omega
    rcases this with rfl | rfl
    all_goals exact ⟨⟨_, _, rfl, by decide, by decide, by decide⟩, by decide⟩
theorem item_any {fl : Bool} {w : List Nat} {d : Dat} (h : ItemW fl w d) {rr : List Nat} (hr : stops rr) : Item fl (w ++ rr) d rr := by
  rcases h with ⟨a, b, hf, h, rfl⟩ | ⟨v, k, hf, rfl, hk, rfl, rfl⟩
  · exact .num a b hf (spell_num h hr) rfl
  · have : k = 0 ∨ k = 1 := by omega
    rcases this with rfl | rfl
    · exact .flag _ hf rfl rfl
    · exact .flag _ hf rfl rfl
/-! the gaps -/
noncomputable def gapsL : List (List Nat) := [[32], [44], [32, 44, 9], [13, 10]]
theorem gap_l {gp : Str} (h : gp ∈ [Str.ofString " ", Str.ofString ",", Str.ofString " ,\t", Str.ofString "\r\n"]) : gp.cps.toList ∈ gapsL := by
  simp only [List.mem_cons, List.not_mem_nil, or_false] at h
  rcases h with rfl | rfl | rfl | rfl <;> decide +kernel
theorem drop_bl {c : Nat} {r : List Nat} (hc : isBl c = false) : (c :: r).dropWhile isBl = c :: r := by rw [List.dropWhile_cons, hc]; rfl
theorem drop_b1 {c : Nat} {r : List Nat} (hc : isBl c = true) : (c :: r).dropWhile isBl = r.dropWhile isBl := by rw [List.dropWhile_cons, hc]; rfl
theorem gap_sep {gl r : List Nat} {c : Nat} (h : gl ∈ gapsL) (hc : isBl c = false) (h4 : c ≠ 44) : ∃ b, sepOf (gl ++ c :: r) = (b, c :: r) := by
  have e0 := drop_bl (r := r) hc
  simp only [gapsL, List.mem_cons, List.not_mem_nil, or_false] at h
  rcases h with rfl | rfl | rfl | rfl
  · refine ⟨false, ?_⟩
    unfold sepOf
    rw [show [32] ++ c :: r = 32 :: c :: r from rfl, drop_b1 (by decide), e0]
    simp [h4]
  · refine ⟨true, ?_⟩
    unfold sepOf
    rw [show [44] ++ c :: r = 44 :: c :: r from rfl, drop_bl (by decide)]
    simp [e0]
  · refine ⟨true, ?_⟩
    unfold sepOf
    rw [show [32, 44, 9] ++ c :: r = 32 :: 44 :: 9 :: c :: r from rfl, drop_b1 (by decide), drop_bl (by decide)]
    show (if 44 = 44 then (true, (9 :: c :: r).dropWhile isBl) else _) = _
    rw [drop_b1 (by decide), e0]; rfl
  · refine ⟨false, ?_⟩
    unfold sepOf
    rw [show [13, 10] ++ c :: r = 13 :: 10 :: c :: r from rfl, drop_b1 (by decide), drop_b1 (by decide), e0]
    simp [h4]
theorem gap_stops {gl r : List Nat} (h : gl ∈ gapsL) : stops (gl ++ r) := by
  simp only [gapsL, List.mem_cons, List.not_mem_nil, or_false] at h
  rcases h with rfl | rfl | rfl | rfl
  all_goals
    intro c hc
    cases hc
    decide
theorem gap_128 {gl : List Nat} (h : gl ∈ gapsL) : ∀ x ∈ gl, x < 128 := by
  simp only [gapsL, List.mem_cons, List.not_mem_nil, or_false] at h
  rcases h with rfl | rfl | rfl | rfl <;> decide
noncomputable def tailL (gl : List Nat) : List (List Nat) → List Nat
  | [] => []
  | w :: ws => gl ++ (w ++ tailL gl ws)
noncomputable def joinL (gl : List Nat) : List (List Nat) → List Nat
  | [] => []
  | w :: ws => w ++ tailL gl ws
theorem join_l (gp : Str) : ∀ (ws : List (List Nat)), (Str.join gp (ws.map mkS)).cps.toList = joinL gp.cps.toList ws
  | [] => by simp [Str.join, joinL]; rfl
  | [w] => by simp [Str.join, joinL, tailL]
  | w :: v :: ws => by
    have ih := join_l gp (v :: ws)
    have e : Str.join gp ((w :: v :: ws).map mkS) = mkS w ++ gp ++ Str.join gp ((v :: ws).map mkS) := rfl
    rw [e, cps_app, cps_app, ih]
    simp [joinL, tailL]
theorem tail_stops {gl : List Nat} {ws : List (List Nat)} {rr : List Nat} (hg : gl ∈ gapsL) (hr : stops rr) : stops (tailL gl ws ++ rr) := by
  cases ws with
  | nil => exact hr
  | cons w ws =>
    rw [tailL, List.append_assoc]
    exact gap_stops hg
theorem gany_tail {arc : Bool} {gl rr : List Nat} (hg : gl ∈ gapsL) (hr : stops rr) {k i : Nat} {ws : List (List Nat)} {ds : List Dat} (h : GTc arc k i ws ds) : 1 ≤ i → GAny arc k i (tailL gl ws ++ rr) (some ds) rr := by
  induction h with
  | nil => intro _; exact .nil
  | @cons k i w ws d ds hi hG ih =>
    intro h1
    obtain ⟨⟨c, r, rfl, hc1, hc2, hc3⟩, _⟩ := item_head hi
    have hs : sepAt i (tailL gl ((c :: r) :: ws) ++ rr) = (c :: r) ++ (tailL gl ws ++ rr) := by
      rw [sepAt, if_neg (by omega), tailL]
      obtain ⟨b, e⟩ := gap_sep (r := r ++ (tailL gl ws ++ rr)) hg hc2 hc3
      have e2 : gl ++ (c :: r ++ tailL gl ws) ++ rr = gl ++ c :: (r ++ (tailL gl ws ++ rr)) := by simp
      rw [e2, e]
      rfl
    have hit := item_any hi (tail_stops (ws := ws) hg hr)
    rw [← hs] at hit
    exact GAny.next (o := some ds) hit (ih (by omega))
theorem gany_join {arc : Bool} {gl rr : List Nat} (hg : gl ∈ gapsL) (hr : stops rr) {k : Nat} {ws : List (List Nat)} {ds : List Dat} (h : GTc arc k 0 ws ds) : GAny arc k 0 (joinL gl ws ++ rr) (some ds) rr := by
  cases h with
  | nil => exact .nil
  | @cons k i w ws d ds hi hG =>
    have hit := item_any hi (tail_stops (ws := ws) hg hr)
    have e : joinL gl (w :: ws) ++ rr = sepAt 0 (w ++ (tailL gl ws ++ rr)) := by simp [sepAt, joinL]
    have e2 : joinL gl (w :: ws) ++ rr = w ++ (tailL gl ws ++ rr) := by simp [joinL]
    rw [e2]
    exact GAny.next (o := some ds) hit (gany_tail hg hr hG (by omega))
theorem join_head {arc : Bool} {gl : List Nat} {k : Nat} {ws : List (List Nat)} {ds : List Dat} (h : GTc arc k 0 ws ds) (hk : 0 < k) : ∃ c r, joinL gl ws = c :: r ∧ NumC c := by
  cases h with
  | nil => omega
  | @cons k i w ws d ds hi hG =>
    obtain ⟨⟨c, r, rfl, hc⟩, _⟩ := item_head hi
    exact ⟨c, _, rfl, hc⟩
theorem tail_128 {arc : Bool} {gl : List Nat} (hg : gl ∈ gapsL) {k i : Nat} {ws : List (List Nat)} {ds : List Dat} (h : GTc arc k i ws ds) : ∀ x ∈ tailL gl ws, x < 128 := by
  induction h with
  | nil => intro x hx; cases hx
  | @cons k i w ws d ds hi hG ih =>
    intro x hx
    rw [tailL, List.mem_append, List.mem_append] at hx
    rcases hx with hx | hx | hx
    · exact gap_128 hg x hx
    · exact (item_head hi).2 x hx
    · exact ih x hx
theorem join_128 {arc : Bool} {gl : List Nat} (hg : gl ∈ gapsL) {k i : Nat} {ws : List (List Nat)} {ds : List Dat} (h : GTc arc k i ws ds) : ∀ x ∈ joinL gl ws, x < 128 := by
  cases h with
  | nil => intro x hx; cases hx
  | @cons k i w ws d ds hi hG =>
    intro x hx
    rw [joinL, List.mem_append] at hx
    rcases hx with hx | hx
    · exact (item_head hi).2 x hx
    · exact tail_128 hg hG x hx
/-! the blanks -/
def Blank (bl : List Nat) : Prop := ∀ x ∈ bl, isBl x = true
theorem bl_drop {bl r : List Nat} (h : Blank bl) : (bl ++ r).dropWhile isBl = r.dropWhile isBl := by
  induction bl with
  | nil => rfl
  | cons c bl ih =>
    rw [List.cons_append, drop_b1 (h c (.head _))]
    exact ih fun x hx => h x (.tail _ hx)
theorem bl_128 {bl : List Nat} (h : Blank bl) : ∀ x ∈ bl, x < 128 := by
  intro x hx
  have := h x hx
  simp [isBl] at this
  omega
theorem bls_bl {g : Str} (h : g ∈ [Str.ofString "", Str.ofString " ", Str.ofString "\n"]) : Blank g.cps.toList := by
  simp only [List.mem_cons, List.not_mem_nil, or_false] at h
  rcases h with rfl | rfl | rfl <;> (unfold Blank; decide +kernel)
theorem lgs_bl {g : Str} (h : g ∈ [Str.ofString "", Str.ofString " "]) : Blank g.cps.toList := by
  simp only [List.mem_cons, List.not_mem_nil, or_false] at h
  rcases h with rfl | rfl <;> (unfold Blank; decide +kernel)
/-- what may stand behind a command -/
def Good (rr : List Nat) : Prop := rr = [] ∨ ∃ c r, rr = c :: r ∧ isBl c = false ∧ isNum c = false ∧ isDig c = false ∧ c ≠ 44 ∧ c ≠ 46 ∧ c ≠ 101 ∧ c ≠ 69
theorem good_let {c : Nat} {r : List Nat} (h : isLet c = true ∨ c = 120) : Good (c :: r) := by
  refine .inr ⟨c, r, rfl, ?_⟩
  have h' : c ∈ [77, 109, 76, 108, 72, 104, 86, 118, 67, 99, 83, 115, 81, 113, 84, 116, 65, 97, 90, 122, 120] := by
    rcases h with h | rfl
    · exact List.mem_append_left [120] (List.contains_iff_mem.mp h)
    · decide
  exact (by decide +kernel : ∀ c ∈ [77, 109, 76, 108, 72, 104, 86, 118, 67, 99, 83, 115, 81, 113, 84, 116, 65, 97, 90, 122, 120], isBl c = false ∧ isNum c = false ∧ isDig c = false ∧ c ≠ 44 ∧ c ≠ 46 ∧ c ≠ 101 ∧ c ≠ 69) c h'
theorem good_stops {bl rr : List Nat} (hb : Blank bl) (h : Good rr) : stops (bl ++ rr) := by
  cases bl with
  | nil =>
    rcases h with rfl | ⟨c, r, rfl, h1, h2, h3, h4, h5, h6, h7⟩
    · intro c hc; cases hc
    · intro d hd
      cases hd
      exact ⟨h3, h5, h6, h7⟩
  | cons c bl =>
    intro d hd
    cases hd
    have := hb c (.head _)
    simp [isBl] at this
    rcases this with rfl | rfl | rfl | rfl | rfl <;> decide
theorem good_drop {bl rr : List Nat} (hb : Blank bl) (h : Good rr) : (bl ++ rr).dropWhile isBl = rr := by
  rw [bl_drop hb]
  rcases h with rfl | ⟨c, r, rfl, h1, _⟩
  · rfl
  · exact drop_bl h1
theorem good_sep {bl rr : List Nat} (hb : Blank bl) (h : Good rr) : sepOf (bl ++ rr) = (false, rr) ∧ looksOf rr = false := by
  unfold sepOf
  rw [good_drop hb h]
  rcases h with rfl | ⟨c, r, rfl, h1, h2, h3, h4, h5, h6, h7⟩
  · exact ⟨rfl, rfl⟩
  · exact ⟨by simp [h4], h2⟩
theorem cmd_drop {k : Nat} {e ok : Bool} {r r' rf : List Nat} {es : List Ent} (h : Cmd k e r es ok rf) (hd : r'.dropWhile isBl = r.dropWhile isBl) : Cmd k e r' es ok rf := by
  cases h with
  | done h => exact .done (hd.trans h)
  | noLetter h h2 => exact .noLetter (hd.trans h) h2
  | letter h h2 h3 => exact .letter (hd.trans h) h2 h3
end
theorem off_plain2 : True := by
  w_top off
  k_with_none
  trivial
section
theorem lf_77 : LF 77 2 false := .mk 77 2 (by decide +kernel) (by rfl) rfl ⟨by decide, by decide⟩ (by decide +kernel)
theorem lg_77 : LG 77 2 false := .mk 77 2 (by decide +kernel) (by rfl) rfl ⟨by decide, by decide⟩ (by decide)
theorem lf_109 : LF 109 2 false := .mk 77 2 (by decide +kernel) (by rfl) rfl ⟨by decide, by decide⟩ (by decide +kernel)
theorem lg_109 : LG 109 2 false := .mk 77 2 (by decide +kernel) (by rfl) rfl ⟨by decide, by decide⟩ (by decide)
theorem lf_76 : LF 76 2 false := .mk 76 2 (by decide +kernel) (by rfl) rfl ⟨by decide, by decide⟩ (by decide +kernel)
theorem lg_76 : LG 76 2 false := .mk 76 2 (by decide +kernel) (by rfl) rfl ⟨by decide, by decide⟩ (by decide)
theorem lf_108 : LF 108 2 false := .mk 76 2 (by decide +kernel) (by rfl) rfl ⟨by decide, by decide⟩ (by decide +kernel)
theorem lg_108 : LG 108 2 false := .mk 76 2 (by decide +kernel) (by rfl) rfl ⟨by decide, by decide⟩ (by decide)
theorem lf_72 : LF 72 1 false := .mk 72 1 (by decide +kernel) (by rfl) rfl ⟨by decide, by decide⟩ (by decide +kernel)
theorem lg_72 : LG 72 1 false := .mk 72 1 (by decide +kernel) (by rfl) rfl ⟨by decide, by decide⟩ (by decide)
theorem lf_104 : LF 104 1 false := .mk 72 1 (by decide +kernel) (by rfl) rfl ⟨by decide, by decide⟩ (by decide +kernel)
theorem lg_104 : LG 104 1 false := .mk 72 1 (by decide +kernel) (by rfl) rfl ⟨by decide, by decide⟩ (by decide)
theorem lf_86 : LF 86 1 false := .mk 86 1 (by decide +kernel) (by rfl) rfl ⟨by decide, by decide⟩ (by decide +kernel)
theorem lg_86 : LG 86 1 false := .mk 86 1 (by decide +kernel) (by rfl) rfl ⟨by decide, by decide⟩ (by decide)
theorem lf_118 : LF 118 1 false := .mk 86 1 (by decide +kernel) (by rfl) rfl ⟨by decide, by decide⟩ (by decide +kernel)
theorem lg_118 : LG 118 1 false := .mk 86 1 (by decide +kernel) (by rfl) rfl ⟨by decide, by decide⟩ (by decide)
theorem lf_67 : LF 67 6 false := .mk 67 6 (by decide +kernel) (by rfl) rfl ⟨by decide, by decide⟩ (by decide +kernel)
theorem lg_67 : LG 67 6 false := .mk 67 6 (by decide +kernel) (by rfl) rfl ⟨by decide, by decide⟩ (by decide)
theorem lf_99 : LF 99 6 false := .mk 67 6 (by decide +kernel) (by rfl) rfl ⟨by decide, by decide⟩ (by decide +kernel)
theorem lg_99 : LG 99 6 false := .mk 67 6 (by decide +kernel) (by rfl) rfl ⟨by decide, by decide⟩ (by decide)
theorem lf_83 : LF 83 4 false := .mk 83 4 (by decide +kernel) (by rfl) rfl ⟨by decide, by decide⟩ (by decide +kernel)
theorem lg_83 : LG 83 4 false := .mk 83 4 (by decide +kernel) (by rfl) rfl ⟨by decide, by decide⟩ (by decide)
theorem lf_115 : LF 115 4 false := .mk 83 4 (by decide +kernel) (by rfl) rfl ⟨by decide, by decide⟩ (by decide +kernel)
theorem lg_115 : LG 115 4 false := .mk 83 4 (by decide +kernel) (by rfl) rfl ⟨by decide, by decide⟩ (by decide)
theorem lf_81 : LF 81 4 false := .mk 81 4 (by decide +kernel) (by rfl) rfl ⟨by decide, by decide⟩ (by decide +kernel)
theorem lg_81 : LG 81 4 false := .mk 81 4 (by decide +kernel) (by rfl) rfl ⟨by decide, by decide⟩ (by decide)
theorem lf_113 : LF 113 4 false := .mk 81 4 (by decide +kernel) (by rfl) rfl ⟨by decide, by decide⟩ (by decide +kernel)
theorem lg_113 : LG 113 4 false := .mk 81 4 (by decide +kernel) (by rfl) rfl ⟨by decide, by decide⟩ (by decide)
theorem lf_84 : LF 84 2 false := .mk 84 2 (by decide +kernel) (by rfl) rfl ⟨by decide, by decide⟩ (by decide +kernel)
theorem lg_84 : LG 84 2 false := .mk 84 2 (by decide +kernel) (by rfl) rfl ⟨by decide, by decide⟩ (by decide)
theorem lf_116 : LF 116 2 false := .mk 84 2 (by decide +kernel) (by rfl) rfl ⟨by decide, by decide⟩ (by decide +kernel)
theorem lg_116 : LG 116 2 false := .mk 84 2 (by decide +kernel) (by rfl) rfl ⟨by decide, by decide⟩ (by decide)
theorem lf_65 : LF 65 7 true := .mk 65 7 (by decide +kernel) (by rfl) rfl ⟨by decide, by decide⟩ (by decide +kernel)
theorem lg_65 : LG 65 7 true := .mk 65 7 (by decide +kernel) (by rfl) rfl ⟨by decide, by decide⟩ (by decide)
theorem lf_97 : LF 97 7 true := .mk 65 7 (by decide +kernel) (by rfl) rfl ⟨by decide, by decide⟩ (by decide +kernel)
theorem lg_97 : LG 97 7 true := .mk 65 7 (by decide +kernel) (by rfl) rfl ⟨by decide, by decide⟩ (by decide)
theorem lf_of {c : Nat} (h : isLet c = true) (hz : isZz c = false) : ∃ kk arc, LG c kk arc ∧ LF c kk arc ∧ LF (behindC c) kk arc ∧ 0 < kk := by
  have : c = 77 ∨ c = 109 ∨ c = 76 ∨ c = 108 ∨ c = 72 ∨ c = 104 ∨ c = 86 ∨ c = 118 ∨ c = 67 ∨ c = 99 ∨ c = 83 ∨ c = 115 ∨ c = 81 ∨ c = 113 ∨ c = 84 ∨ c = 116 ∨ c = 65 ∨ c = 97 ∨ c = 90 ∨ c = 122 := by
    have h' := List.contains_iff_mem.mp h
    simpa only [List.mem_cons, List.not_mem_nil, or_false] using h'
  rcases this with rfl | rfl | rfl | rfl | rfl | rfl | rfl | rfl | rfl | rfl | rfl | rfl | rfl | rfl | rfl | rfl | rfl | rfl | rfl | rfl
  · exact ⟨2, _, lg_77, lf_77, lf_76, by decide⟩
  · exact ⟨2, _, lg_109, lf_109, lf_108, by decide⟩
  · exact ⟨2, _, lg_76, lf_76, lf_76, by decide⟩
  · exact ⟨2, _, lg_108, lf_108, lf_108, by decide⟩
  · exact ⟨1, _, lg_72, lf_72, lf_72, by decide⟩
  · exact ⟨1, _, lg_104, lf_104, lf_104, by decide⟩
  · exact ⟨1, _, lg_86, lf_86, lf_86, by decide⟩
  · exact ⟨1, _, lg_118, lf_118, lf_118, by decide⟩
  · exact ⟨6, _, lg_67, lf_67, lf_67, by decide⟩
  · exact ⟨6, _, lg_99, lf_99, lf_99, by decide⟩
  · exact ⟨4, _, lg_83, lf_83, lf_83, by decide⟩
  · exact ⟨4, _, lg_115, lf_115, lf_115, by decide⟩
  · exact ⟨4, _, lg_81, lf_81, lf_81, by decide⟩
  · exact ⟨4, _, lg_113, lf_113, lf_113, by decide⟩
  · exact ⟨2, _, lg_84, lf_84, lf_84, by decide⟩
  · exact ⟨2, _, lg_116, lf_116, lf_116, by decide⟩
  · exact ⟨7, _, lg_65, lf_65, lf_65, by decide⟩
  · exact ⟨7, _, lg_97, lf_97, lf_97, by decide⟩
  · cases hz
  · cases hz
theorem lg_det {c kk kk' : Nat} {arc arc' : Bool} (h : LG c kk arc) (h' : LG c kk' arc') : kk = kk' ∧ arc = arc' := by
  obtain ⟨u, n, e1, e2, e3, _, e4⟩ := h
  obtain ⟨u', n', f1, f2, f3, _, f4⟩ := h'
  rw [e1] at f1
  injection f1 with f1
  have hu : u = u' := by simpa using f1
  subst hu
  rw [e2] at f2
  injection f2 with f2
  injection f2 with f2
  subst f2
  exact ⟨by omega, by rw [← e4, ← f4]⟩
theorem writ_cmd {c : Nat} {es : List Ent} {Y : Str} (hW : Writ c es Y) (hl : isLet c = true) {e : Bool} (hm : (e && !isMm c) = false) {rr : List Nat} (hg : Good rr) {k : Nat} {es' : List Ent} {ok : Bool} {rf : List Nat} (hC : Cmd k false rr es' ok rf) :
    ∃ k', Cmd k' e (Y.cps.toList ++ rr) (es ++ es') ok rf := by
  have hcb : isBl c = false := by
    rcases good_let (r := []) (.inl hl) with h | ⟨d, r, h, h1, _⟩
    · cases h
    · cases h; exact h1
  have e1 : (⟨#[c]⟩ : Str).cps.toList = [c] := rfl
  rcases hW with ⟨bh, hz, hb⟩ | ⟨kk, arc, gp, lg, bh, ws, ds, hz, hL, hG, hgp, hlg, hbh⟩ | ⟨kk, arc, gp, lg, bh, ws, ws2, ds, ds2, hz, hL, hG, hG2, hgp, hlg, hbh⟩
  · have e2 : (⟨#[c]⟩ ++ bh : Str).cps.toList ++ rr = c :: (bh.cps.toList ++ rr) := by rw [cps_app, e1]; rfl
    rw [e2]
    exact ⟨_, .letter (drop_bl hcb) hl (.close hm hz (cmd_drop hC (bl_drop (bls_bl hb))))⟩
  · obtain ⟨kk', arc', hL', hF, hF2, hk⟩ := lf_of hl hz
    obtain ⟨rfl, rfl⟩ := lg_det hL hL'
    have hgl := gap_l hgp
    have hst := good_stops (bls_bl hbh) hg
    have g1 := gany_join hgl hst hG
    obtain ⟨d, r, ed, hd⟩ := join_head (gl := gp.cps.toList) hG hk
    have e2 : (⟨#[c]⟩ ++ lg ++ Str.join gp (ws.map mkS) ++ bh : Str).cps.toList ++ rr = c :: (lg.cps.toList ++ (joinL gp.cps.toList ws ++ (bh.cps.toList ++ rr))) := by
      rw [cps_app, cps_app, cps_app, e1, join_l]; simp
    have e3 : (lg.cps.toList ++ (joinL gp.cps.toList ws ++ (bh.cps.toList ++ rr))).dropWhile isBl = joinL gp.cps.toList ws ++ (bh.cps.toList ++ rr) := by
      rw [bl_drop (lgs_bl hlg), ed]
      exact drop_bl hd.2.1
    rw [e2]
    have gs := good_sep (bls_bl hbh) hg
    rw [← e3] at g1
    exact ⟨_, .letter (drop_bl hcb) hl (.go (j := 0) (gs := []) hm hz hF hF2 g1 (.stop gs.1 gs.2) hC)⟩
  · obtain ⟨kk', arc', hL', hF, hF2, hk⟩ := lf_of hl hz
    obtain ⟨rfl, rfl⟩ := lg_det hL hL'
    have hgl := gap_l hgp
    have hst := good_stops (bls_bl hbh) hg
    have g2 := gany_join hgl hst hG2
    obtain ⟨d2, r2, ed2, hd2⟩ := join_head (gl := gp.cps.toList) hG2 hk
    have g1 := gany_join hgl (gap_stops (r := joinL gp.cps.toList ws2 ++ (bh.cps.toList ++ rr)) hgl) hG
    obtain ⟨d, r, ed, hd⟩ := join_head (gl := gp.cps.toList) hG hk
    have e2 : (⟨#[c]⟩ ++ lg ++ Str.join gp (ws.map mkS) ++ gp ++ Str.join gp (ws2.map mkS) ++ bh : Str).cps.toList ++ rr = c :: (lg.cps.toList ++ (joinL gp.cps.toList ws ++ (gp.cps.toList ++ (joinL gp.cps.toList ws2 ++ (bh.cps.toList ++ rr))))) := by
      rw [cps_app, cps_app, cps_app, cps_app, cps_app, e1, join_l, join_l]; simp
    have e3 : (lg.cps.toList ++ (joinL gp.cps.toList ws ++ (gp.cps.toList ++ (joinL gp.cps.toList ws2 ++ (bh.cps.toList ++ rr))))).dropWhile isBl = joinL gp.cps.toList ws ++ (gp.cps.toList ++ (joinL gp.cps.toList ws2 ++ (bh.cps.toList ++ rr))) := by
      rw [bl_drop (lgs_bl hlg), ed]
      exact drop_bl hd.2.1
    rw [e2]
    have gs := good_sep (bls_bl hbh) hg
    rw [← e3] at g1
    obtain ⟨b, es2⟩ := gap_sep (r := r2 ++ (bh.cps.toList ++ rr)) hgl hd2.2.1 hd2.2.2
    rw [ed2] at g2 g1 ⊢
    exact ⟨_, .letter (drop_bl hcb) hl (.go (j := 1) (gs := [ds2]) hm hz hF hF2 g1 (.next es2 hd2.1 g2 (.stop gs.1 gs.2)) hC)⟩
end
theorem off_plain3 : True := by
  w_top off
  k_with_none
  trivial
section
noncomputable abbrev qn (a b : Int) : Dat := .tuple [.int a, .int b]
theorem sn : stops [] := by intro c hc; cases hc
theorem ss (r : List Nat) : stops (32 :: r) := by intro c hc; cases hc; decide
theorem sz (r : List Nat) : stops (45 :: r) := by intro c hc; cases hc; decide
/-! the endings -/
theorem e_x {k : Nat} : Cmd k false [120] [] false [120] := .noLetter (by decide) (by decide)
theorem e_H : ∃ k, Cmd k false [72, 51, 32, 44, 32, 122] [(72, [qn 3 1])] false [122] := by
  have g1 : GAny false 1 0 [51, 32, 44, 32, 122] (some [qn 3 1]) [32, 44, 32, 122] := .next (o := some []) (.num 3 1 rfl (numF_10 (ss _)) rfl) .nil
  exact ⟨0, .letter (c := 72) (r1 := [51, 32, 44, 32, 122]) (by decide) (by decide) (.badM (j := 0) (gs := []) (by decide) (by decide) lf_72 lf_72 g1 (.comma (r1 := [122]) (by decide) (by decide)))⟩
theorem e_L1 : ∃ k, Cmd k false [76, 32, 52] [] false [] := by
  have g1 : GAny false 2 0 [52] (Option.map (qn 4 1 :: ·) none) [] := .next (r1 := []) (.num 4 1 rfl (numF_11 sn) rfl) (.here (.num rfl badF_0))
  exact ⟨0, .letter (c := 76) (r1 := [32, 52]) (by decide) (by decide) (.bad1 (by decide) (by decide) lf_76 g1)⟩
theorem e_L2 : ∃ k, Cmd k false [76, 32, 52, 32, 53, 32, 54] [(76, [qn 4 1, qn 5 1])] false [] := by
  have g1 : GAny false 2 0 [52, 32, 53, 32, 54] (some [qn 4 1, qn 5 1]) [32, 54] := .next (o := some [qn 5 1]) (r1 := [32, 53, 32, 54]) (.num 4 1 rfl (numF_11 (ss _)) rfl) (.next (o := some []) (r1 := [32, 54]) (.num 5 1 rfl (numF_12 (ss _)) rfl) .nil)
  have g2 : GAny false 2 0 [54] (Option.map (qn 6 1 :: ·) none) [] := .next (r1 := []) (.num 6 1 rfl (numF_13 sn) rfl) (.here (.num rfl badF_0))
  exact ⟨0, .letter (c := 76) (r1 := [32, 52, 32, 53, 32, 54]) (by decide) (by decide) (.badM (j := 0) (gs := []) (by decide) (by decide) lf_76 lf_76 g1 (.fail (b := false) (r1 := [54]) (by decide) (by decide) g2))⟩
theorem e_A : ∃ k, Cmd k false [65, 49, 32, 49, 32, 48, 32, 50, 32, 49, 32, 53, 32, 53] [] false [50, 32, 49, 32, 53, 32, 53] := by
  have g1 : GAny true 7 0 [49, 32, 49, 32, 48, 32, 50, 32, 49, 32, 53, 32, 53] (Option.map (qn 1 1 :: ·) (Option.map (qn 1 1 :: ·) (Option.map (qn 0 1 :: ·) none))) [50, 32, 49, 32, 53, 32, 53] :=
    .next (r1 := [32, 49, 32, 48, 32, 50, 32, 49, 32, 53, 32, 53]) (.num 1 1 rfl (numF_8 (ss _)) rfl) (.next (r1 := [32, 48, 32, 50, 32, 49, 32, 53, 32, 53]) (.num 1 1 rfl (numF_8 (ss _)) rfl) (.next (r1 := [32, 50, 32, 49, 32, 53, 32, 53]) (.num 0 1 rfl (numF_0 (ss _)) rfl)
      (.here (r := [32, 50, 32, 49, 32, 53, 32, 53]) (.flag rfl (by decide)))))
  exact ⟨0, .letter (c := 65) (r1 := [49, 32, 49, 32, 48, 32, 50, 32, 49, 32, 53, 32, 53]) (by decide) (by decide) (.bad1 (by decide) (by decide) lf_65 g1)⟩
theorem e_t : ∃ k, Cmd k false [116] [] false [] :=
  ⟨0, .letter (c := 116) (r1 := []) (by decide) (by decide) (.bad1 (by decide) (by decide) lf_116 (.here (r := []) (.num rfl badF_0)))⟩
theorem e_m : ∃ k, Cmd k false [109, 52, 32, 53, 45, 122] [(109, [qn 4 1, qn 5 1])] false [45, 122] := by
  have g1 : GAny false 2 0 [52, 32, 53, 45, 122] (some [qn 4 1, qn 5 1]) [45, 122] := .next (o := some [qn 5 1]) (r1 := [32, 53, 45, 122]) (.num 4 1 rfl (numF_11 (ss _)) rfl) (.next (o := some []) (r1 := [45, 122]) (.num 5 1 rfl (numF_12 (sz _)) rfl) .nil)
  exact ⟨0, .letter (c := 109) (r1 := [52, 32, 53, 45, 122]) (by decide) (by decide) (.badM (j := 0) (gs := []) (by decide) (by decide) lf_109 lf_108 g1 (.fail (b := false) (r1 := [45, 122]) (by decide) (by decide) (.here (r := [45, 122]) (.num rfl badF_1))))⟩
structure EndF (y : Str) (pl : Int) (es : List Ent) : Prop where
  cmd : ∃ k rf, Cmd k false y.cps.toList es false rf ∧ (rf.length : Int) + pl = y.length
  good : Good y.cps.toList
  asc : ∀ x ∈ y.cps.toList, x < 128
  len : y.length ≤ 20
  few : es.length ≤ 1
  nn : 0 ≤ pl
theorem endF_of {y : Str} {pl : Int} {es : List Ent} (l rf : List Nat) (hl : y.cps.toList = l) (hc : ∃ k, Cmd k false l es false rf) (h1 : (rf.length : Int) + pl = l.length) (h2 : ∃ c r, l = c :: r ∧ (isLet c = true ∨ c = 120)) (h3 : ∀ x ∈ l, x < 128) (h4 : l.length ≤ 20) (h5 : es.length ≤ 1) (h6 : 0 ≤ pl) : EndF y pl es := by
  subst hl
  obtain ⟨k, hc⟩ := hc
  obtain ⟨c, r, h2, h2'⟩ := h2
  have e : y.length = y.cps.toList.length := by simp [Str.length]
  exact ⟨⟨k, rf, hc, by rw [e]; exact h1⟩, by rw [h2]; exact good_let h2', h3, by rw [e]; exact h4, h5, h6⟩
theorem end_f {y : Str} {pl : Int} {es : List Ent} (h : Ending y pl es) : EndF y pl es := by
  unfold Ending at h
  simp only [List.mem_cons, List.not_mem_nil, or_false, Prod.mk.injEq] at h
  rcases h with ⟨rfl, rfl, rfl⟩ | ⟨rfl, rfl, rfl⟩ | ⟨rfl, rfl, rfl⟩ | ⟨rfl, rfl, rfl⟩ | ⟨rfl, rfl, rfl⟩ | ⟨rfl, rfl, rfl⟩ | ⟨rfl, rfl, rfl⟩
  · exact endF_of _ _ (by decide +kernel) ⟨0, e_x⟩ (by decide) ⟨_, _, rfl, by decide⟩ (by decide) (by decide) (by decide) (by decide)
  · exact endF_of _ _ (by decide +kernel) e_H (by decide) ⟨_, _, rfl, by decide⟩ (by decide) (by decide) (by decide) (by decide)
  · exact endF_of _ _ (by decide +kernel) e_L1 (by decide) ⟨_, _, rfl, by decide⟩ (by decide) (by decide) (by decide) (by decide)
  · exact endF_of _ _ (by decide +kernel) e_L2 (by decide) ⟨_, _, rfl, by decide⟩ (by decide) (by decide) (by decide) (by decide)
  · exact endF_of _ _ (by decide +kernel) e_A (by decide) ⟨_, _, rfl, by decide⟩ (by decide) (by decide) (by decide) (by decide)
  · exact endF_of _ _ (by decide +kernel) e_t (by decide) ⟨_, _, rfl, by decide⟩ (by decide) (by decide) (by decide) (by decide)
  · exact endF_of _ _ (by decide +kernel) e_m (by decide) ⟨_, _, rfl, by decide⟩ (by decide) (by decide) (by decide) (by decide)
/-! the first text -/
noncomputable abbrev firstE : List Ent := [(77, [qn 1 1, qn 2 1]), (76, [qn 3 1, qn 4 1])]
theorem first_cmd : ∃ k, Cmd k true (Str.ofString "M1 2 3 4").cps.toList firstE true [] := by
  have e : (Str.ofString "M1 2 3 4").cps.toList = [77, 49, 32, 50, 32, 51, 32, 52] := by decide +kernel
  rw [e]
  have g1 : GAny false 2 0 [49, 32, 50, 32, 51, 32, 52] (some [qn 1 1, qn 2 1]) [32, 51, 32, 52] := .next (o := some [qn 2 1]) (r1 := [32, 50, 32, 51, 32, 52]) (.num 1 1 rfl (numF_8 (ss _)) rfl) (.next (o := some []) (r1 := [32, 51, 32, 52]) (.num 2 1 rfl (numF_9 (ss _)) rfl) .nil)
  have g2 : GAny false 2 0 [51, 32, 52] (some [qn 3 1, qn 4 1]) [] := .next (o := some [qn 4 1]) (r1 := [32, 52]) (.num 3 1 rfl (numF_10 (ss _)) rfl) (.next (o := some []) (r1 := []) (.num 4 1 rfl (numF_11 sn) rfl) .nil)
  exact ⟨_, .letter (c := 77) (r1 := [49, 32, 50, 32, 51, 32, 52]) (by decide) (by decide) (.go (k := 0) (j := 1) (gs := [[qn 3 1, qn 4 1]]) (es := []) (r3 := []) (by decide) (by decide) lf_77 lf_76 g1 (.next (b := false) (r1 := [51, 32, 52]) (by decide) (by decide) g2 (.stop (by decide) (by decide))) (.done rfl))⟩
/-! the last text -/
theorem last_cmd {bl r : List Nat} {c : Nat} (hb : Blank bl) (hc : isLet c = true) (hm : isMm c = false) : ∃ k, Cmd k true (bl ++ c :: r) [] false (c :: r) := by
  have hcb : isBl c = false := by
    rcases good_let (r := []) (.inl hc) with h | ⟨d, r, h, h1, _⟩
    · cases h
    · cases h; exact h1
  exact ⟨0, .letter (r1 := r) ((bl_drop hb).trans (drop_bl hcb)) hc (.noMove hm)⟩
/-! the text of the law -/
theorem gtc_ok {arc : Bool} {k i : Nat} {ws : List (List Nat)} {ds : List Dat} (h : GTc arc k i ws ds) : ∀ d ∈ ds, kqdOk 6 d = true := by
  induction h with
  | nil => intro d hd; cases hd
  | @cons k i w ws d ds hi hG ih =>
    intro d' hd
    rcases List.mem_cons.mp hd with rfl | hd
    · rcases hi with ⟨a, b, _, _, rfl⟩ | ⟨v, k, _, _, _, _, rfl⟩ <;> rfl
    · exact ih d' hd
theorem writ_ok {c : Nat} {es : List Ent} {Y : Str} (hW : Writ c es Y) (hl : isLet c = true) : ∀ d ∈ es.map entD, kqdOk 8 d = true := by
  intro d hd
  rcases hW with ⟨bh, hz, hb⟩ | ⟨kk, arc, gp, lg, bh, ws, ds, hz, hL, hG, hgp, hlg, hbh⟩ | ⟨kk, arc, gp, lg, bh, ws, ws2, ds, ds2, hz, hL, hG, hG2, hgp, hlg, hbh⟩
  · simp only [List.map_cons, List.map_nil, List.mem_singleton] at hd
    subst hd
    exact ent_ok (let_lt hl) (fun _ h => nomatch h)
  · simp only [List.map_cons, List.map_nil, List.mem_singleton] at hd
    subst hd
    exact ent_ok (let_lt hl) (gtc_ok hG)
  · simp only [List.map_cons, List.map_nil, List.mem_cons, List.not_mem_nil, or_false] at hd
    rcases hd with rfl | rfl
    · exact ent_ok (let_lt hl) (gtc_ok hG)
    · exact ent_ok (behind_lt hl) (gtc_ok hG2)
theorem writ_few {c : Nat} {es : List Ent} {Y : Str} (hW : Writ c es Y) : es.length ≤ 2 ∧ es.isEmpty = false := by
  rcases hW with ⟨bh, hz, hb⟩ | ⟨kk, arc, gp, lg, bh, ws, ds, hz, hL, hG, hgp, hlg, hbh⟩ | ⟨kk, arc, gp, lg, bh, ws, ws2, ds, ds2, hz, hL, hG, hG2, hgp, hlg, hbh⟩
  all_goals exact ⟨by simp, rfl⟩
theorem app128 {x y : Str} (h1 : ∀ c ∈ x.cps.toList, c < 128) (h2 : ∀ c ∈ y.cps.toList, c < 128) : ∀ c ∈ (x ++ y).cps.toList, c < 128 := by
  intro c hc
  rw [cps_app, List.mem_append] at hc
  exact hc.elim (h1 c) (h2 c)
theorem writ_128 {c : Nat} {es : List Ent} {Y : Str} (hW : Writ c es Y) (hl : isLet c = true) : (∀ x ∈ Y.cps.toList, x < 128) ∧ ∃ r, Y.cps.toList = c :: r := by
  have e1 : (⟨#[c]⟩ : Str).cps.toList = [c] := rfl
  have h1 : ∀ x ∈ (⟨#[c]⟩ : Str).cps.toList, x < 128 := by
    intro x hx
    rw [e1, List.mem_singleton] at hx
    subst hx; exact let_lt hl
  have hJ : ∀ {gp : Str} {arc : Bool} {kk : Nat} {ws : List (List Nat)} {ds : List Dat}, gp ∈ [Str.ofString " ", Str.ofString ",", Str.ofString " ,\t", Str.ofString "\r\n"] → GTc arc kk 0 ws ds → ∀ x ∈ (Str.join gp (ws.map mkS)).cps.toList, x < 128 := by
    intro gp arc kk ws ds hg hG x hx
    rw [join_l] at hx
    exact join_128 (gap_l hg) hG x hx
  rcases hW with ⟨bh, hz, hb⟩ | ⟨kk, arc, gp, lg, bh, ws, ds, hz, hL, hG, hgp, hlg, hbh⟩ | ⟨kk, arc, gp, lg, bh, ws, ws2, ds, ds2, hz, hL, hG, hG2, hgp, hlg, hbh⟩
  · exact ⟨app128 h1 (bl_128 (bls_bl hb)), _, by rw [cps_app, e1]; rfl⟩
  · exact ⟨app128 (app128 (app128 h1 (bl_128 (lgs_bl hlg))) (hJ hgp hG)) (bl_128 (bls_bl hbh)), _, by rw [cps_app, cps_app, cps_app, e1]; rfl⟩
  · exact ⟨app128 (app128 (app128 (app128 (app128 h1 (bl_128 (lgs_bl hlg))) (hJ hgp hG)) (gap_128 (gap_l hgp))) (hJ hgp hG2)) (bl_128 (bls_bl hbh)), _, by rw [cps_app, cps_app, cps_app, cps_app, cps_app, e1]; rfl⟩
noncomputable abbrev bl0 : List Str := [Str.ofString "", Str.ofString " ", Str.ofString "\x0c\n"]
theorem bl0_bl {g : Str} (h : g ∈ bl0) : Blank g.cps.toList ∧ g.length ≤ 3 := by
  simp only [bl0, List.mem_cons, List.not_mem_nil, or_false] at h
  rcases h with rfl | rfl | rfl <;> (unfold Blank; decide +kernel)
inductive Scr (e : Bool) : Nat → List Ent → Str → Prop
  | nil (b : Str) : b ∈ bl0 → Scr e 0 [] b
  | snoc {n c : Nat} {es es1 : List Ent} {Y Y1 : Str} : Scr e n es Y → Writ c es1 Y1 → Y1.length < 200 → isLet c = true → ((e && es.isEmpty) && !isMm c) = false → Scr e (n + 1) (es ++ es1) (Y ++ Y1)
theorem emp_app {es es1 : List Ent} (h : es1.isEmpty = false) : (es ++ es1).isEmpty = false := by
  cases es <;> cases es1 <;> simp_all
theorem Scr.cmd {e : Bool} {n : Nat} {es : List Ent} {Y : Str} (h : Scr e n es Y) : ∀ {rr : List Nat} {k : Nat} {es' : List Ent} {ok : Bool} {rf : List Nat}, Good rr → Cmd k (e && es.isEmpty) rr es' ok rf → ∃ k', Cmd k' e (Y.cps.toList ++ rr) (es ++ es') ok rf := by
  induction h with
  | nil b hb =>
    intro rr k es' ok rf hg hC
    simp only [List.isEmpty_nil, Bool.and_true] at hC
    exact ⟨k, cmd_drop hC (bl_drop (bl0_bl hb).1)⟩
  | @snoc n c es es1 Y Y1 hS hW _ hl hm ih =>
    intro rr k es' ok rf hg hC
    rw [emp_app (writ_few hW).2, Bool.and_false] at hC
    obtain ⟨k', hC'⟩ := writ_cmd hW hl hm hg hC
    obtain ⟨r, hr⟩ := (writ_128 hW hl).2
    obtain ⟨k2, hC2⟩ := ih (rr := Y1.cps.toList ++ rr) (by rw [hr]; exact good_let (.inl hl)) hC'
    refine ⟨k2, ?_⟩
    rw [cps_app, List.append_assoc, List.append_assoc]
    exact hC2
structure ScrF (n : Nat) (es : List Ent) (Y : Str) : Prop where
  asc : ∀ x ∈ Y.cps.toList, x < 128
  len : Y.length ≤ 3 + 200 * n
  few : es.length ≤ 2 * n
  ok : ∀ d ∈ es.map entD, kqdOk 8 d = true
  emp : 0 < n → es.isEmpty = false
theorem Scr.facts {e : Bool} {n : Nat} {es : List Ent} {Y : Str} (h : Scr e n es Y) : ScrF n es Y := by
  induction h with
  | nil b hb => exact ⟨bl_128 (bl0_bl hb).1, (bl0_bl hb).2, Nat.le_refl _, (fun _ h => nomatch h), (fun h => absurd h (by decide))⟩
  | @snoc n c es es1 Y Y1 hS hW hY hl hm ih =>
    have w1 := writ_few hW
    refine ⟨app128 ih.asc (writ_128 hW hl).1, ?_, ?_, ?_, fun _ => emp_app w1.2⟩
    · have := ih.len
      rw [PySem.Str.length_append]; omega
    · have := ih.few
      have := w1.1
      rw [List.length_append]; omega
    · intro d hd
      rw [List.map_append, List.mem_append] at hd
      exact hd.elim (ih.ok d) (writ_ok hW hl d)
theorem at0 {T : Str} (h1 : T.length < 100000) (h2 : ∀ c ∈ T.cps.toList, c < 128) : At T 0 T.cps.toList :=
  ⟨by decide, rfl, by simp [Str.length], h1, h2⟩
end
theorem off_pool : True := by
  w_top off
  k_with_none
  trivial
section
theorem kw_pool_1 : True := by
  k_with "ne" => (refine neN ?_; (try dsimp only); first | assumption | exact Ne.symm (by assumption) | exact Nat.ne_of_gt (by assumption) | exact Nat.ne_of_lt (by assumption) | exact lt_1 (by assumption) (by k_mem) | exact lt_2 (by assumption) (by k_mem) | exact Nat.ne_of_gt (And.left (by assumption)) | exact Nat.ne_of_lt (And.left (by assumption)) | exact Nat.ne_of_gt (And.left (And.right (by assumption))) | exact Nat.ne_of_lt (And.left (And.right (by assumption))) | exact Nat.ne_of_gt (And.left (And.right (And.right (by assumption)))) | exact Nat.ne_of_lt (And.left (And.right (And.right (by assumption)))) | exact Nat.ne_of_gt (And.left (And.right (And.right (And.right (by assumption))))) | exact Nat.ne_of_lt (And.left (And.right (And.right (And.right (by assumption))))) | exact Nat.ne_of_gt (And.left (And.right (And.right (And.right (And.right (by assumption)))))) | exact Nat.ne_of_lt (And.left (And.right (And.right (And.right (And.right (by assumption)))))) | exact Nat.ne_of_gt (And.left (And.right (And.right (And.right (And.right (And.right (by assumption))))))) | exact Nat.ne_of_lt (And.left (And.right (And.right (And.right (And.right (And.right (by assumption))))))))
  k_with "newTuple" => (k_here; k_dflt (refine' kup_newTuple ?F ?N ?_ ?z; (case F => k_asm); (case N => k_asm); (case z => kmk_size)); intro D9 h9 F9 N9 u9; (try k_sweep))
  k_with "newList" => (k_here; k_dflt (refine' newList_K ?k1 ?k2 ?_; (case k1 => k_asm); (case k2 => k_asm); k_whole); intro D9 h9 F9 N9 u9; (try k_sweep))
  k_with "execs cons" => (k_here; refine wpAny_execs_cons ?_; k_fold)
  k_with "eval Tuple" => (k_here; k_fold)
  k_with "eval List" => (k_here; k_fold)
  k_with "eval Call Attribute" => (k_here; k_fold)
  k_with "eval Call" => (k_here; k_fold)
  k_with "exec While BoolOp cons nil" => refine Halt.out ?_
  k_with "exec While Compare cons nil" => refine Halt.out ?_
  k_with "exec While Call cons nil" => refine Halt.out ?_
  k_with "eval Name" => (k_here; k_dflt (refine' ld ?k1 ?k2 ?_; (case k1 => k_asm); (case k2 => first | exact rfl | assumption); k_whole))
  k_with "call builtin:len" => (k_here; first | (refine len_is (by assumption) (by omega) ?_; intro _ _) | (refine PySem.P.len_str (by have h9 := (‹At _ _ _›).small; omega) ?_))
  k_with "subscriptTail" => (k_here; (with_reducible show wpAny _ _ (subscriptTail _ _ (Value.str _ _) (Value.int _ _)) _ _ _); k_dflt (refine' item_at ?k1 ?_ ?k2 ?k3; (case k1 => assumption); (case k2 => with_unfolding_all rfl); (case k3 => intro _; with_unfolding_all rfl)); intro _ _)
  k_with "binaryOp Add int int" => (k_here; refine addI ?_; intro _ _)
  k_with "binaryOp Sub int int" => (k_here; refine subI ?_; intro _ _)
  k_with "compareOp In str str" => (k_here; refine in_is (by assumption) ?_)
  k_with "compareOp NotIn str str" => (k_here; refine notin_is (by assumption) ?_)
  k_with "compareOp Eq str str" => (k_here; refine eqs_is (by assumption) ?_)
  k_with "compareOp NotEq str str" => (k_here; refine nes_is (by assumption) ?_)
  k_with "binaryOp FloorDiv int int" => (k_here; refine fdivI (by omega) (by omega) ?_; intro _ _)
  k_with "binaryOp Mod int int" => (k_here; refine fmodI (by omega) ?_; intro _ _)
  k_with "compareOp Eq int int" => (k_here; refine eqi_is (by assumption) ?_)
  k_with "compareOp In str ref" => (k_here; k_dflt (refine' in_two ?k1 ?k2 ?_; (case k1 => exact (News.get (by k_asm) (by k_mem))); (case k2 => assumption)))
  k_with "compareOp NotIn str ref" => (k_here; k_dflt (refine' notin_two ?k1 ?k2 ?_; (case k1 => exact (News.get (by k_asm) (by k_mem))); (case k2 => assumption)))
  k_with "subscriptTail Name Slice str ref" => (k_here; (with_reducible show wpAny _ _ (subscriptTail _ (Expr.Slice (some _) (some _) none _) _ _) _ _ _); (with_reducible rename Fr _ _ _ _ => F'); (with_reducible rename News _ _ _ _ => N'); (refine slice_strN_ss (hsz := ?hsz) (s := ⟨_, _, _, _, _⟩) F' N' ?_); (case hsz => (have h9 := (‹At _ _ _›).small; rw [PySem.sizeLine_eq]; omega)); intro _ _ _ _ _; (try k_sweep))
  k_with "subscriptTail Attribute Slice str ref" => (k_here; (with_reducible show wpAny _ _ (subscriptTail _ (Expr.Slice (some _) (some _) none _) _ _) _ _ _); (with_reducible rename Fr _ _ _ _ => F'); (with_reducible rename News _ _ _ _ => N'); (refine slice_strN_ss (hsz := ?hsz) (s := ⟨_, _, _, _, _⟩) F' N' ?_); (case hsz => (have h9 := (‹At _ _ _›).small; rw [PySem.sizeLine_eq]; omega)); intro _ _ _ _ _; (try k_sweep))
  trivial
theorem pool_src (c x : Int) (p : Bool) : Src ((if -1 - c > c then -1 - c else c) * (if p = true then 1 else 0)) (x.fmod 2147483647) := by
  refine ⟨?_, fm_nn x, Int.lt_trans (fm_lt x) (by decide)⟩
  have h : 0 ≤ (if -1 - c > c then -1 - c else c) := by split <;> omega
  cases p
  · simp
  · simpa using h
theorem pool_spec {sc : Addr} {vs : List Value} {ns : List Int}
  (B : Below A₀ base outer h₀) (F : Fr h₀ L s.heap m) (X : (hd.heap_1 w.params).In h₀)
  (N : News h₀ L s.heap rest)
  (Tp : Top view theLoose mean mg mb h₀) (hk : cs.kind = .function)
  (hdp : dp + 4 < recursionLimit) (hun : un + 32 < cLine)
 (hl : h₀.IsList sc vs.toArray) (hi : IntsAre vs ns) (hn : ns.length < 1000)
  (hret : ∀ (so : Addr) (a' b' : Int) (ta tb : Tok) (nn : Nat) (h' : Heap) (tk' : Nat), Src a' b' → Fr h₀ L h' m → News h₀ L h' ((so, W.listOf [Value.int a' ta, Value.int b' tb].toArray nn) :: rest) → (∀ q ∈ rest, q.1 < so) → Q (.ref so) { s with heap := h', toks := tk' }) :
  wpAny (model prog w) (ktrTop dp un gd cn cs L a ccd cl outer) (call (.ref 283) [.ref sc]) Q E s := by
  refine wpAny_call ?_
  k_dflt (refine' code_def (binds := [(Str.ofString "script", .ref sc)]) ?k1 ?k2 ?k3 ?k4 ?k5 ?kA ?kF ?kK ?k6 ?k7 ?k8 ?k9 ?kB ?_ ?c2 ?c3 ?c4 ?c5; (case kA => exact rfl); (case kF => exact rfl); (case kK => assumption); (case k1 => k_asm); (case k2 => k_asm); (case k3 => k_asm); (case k4 => k_asm); (case k5 => k_asm); (case k6 => k_is); (case k7 => k_is); (case k8 => (first | exact rm2 (by assumption) (by exact rfl) | exact rm1 (by assumption) (by exact rfl) | exact rm3 (by assumption) (by exact rfl) | exact rm0 (by assumption) | ktr_room)); (case k9 => first | exact BindsTo.of_eq rfl | exact binds_K (by k_in) rfl (by k_is) rfl rfl rfl); (case c5 => decide); (case kB => exact locs rfl); (case c2 => exact rfl); (case c3 => exact rfl); (case c4 => exact rfl); k_whole; intro g L' h' FG F1 N1 B1 X1 T1; (try k_fold))
  replace F1 := fr_of1 F1
  have hl2 : g.IsList sc vs.toArray := let ⟨o, ho, r⟩ := hl; ⟨o, FG.keep _ _ ho, r⟩
  clear hl
  k_steps
  all_goals exact hret _ _ _ _ _ _ _ _ (pool_src _ _ _) (by assumption) (by assumption) (by assumption)
end
theorem off_lwrit : True := by
  w_top off
  k_with_none
  trivial
section
theorem kw_lwrit_1 : True := by
  k_with "ne" => (refine neN ?_; (try dsimp only); first | assumption | exact Ne.symm (by assumption) | exact Nat.ne_of_gt (by assumption) | exact Nat.ne_of_lt (by assumption) | exact lt_1 (by assumption) (by k_mem) | exact lt_2 (by assumption) (by k_mem) | exact Nat.ne_of_gt (And.left (by assumption)) | exact Nat.ne_of_lt (And.left (by assumption)) | exact Nat.ne_of_gt (And.left (And.right (by assumption))) | exact Nat.ne_of_lt (And.left (And.right (by assumption))) | exact Nat.ne_of_gt (And.left (And.right (And.right (by assumption)))) | exact Nat.ne_of_lt (And.left (And.right (And.right (by assumption)))) | exact Nat.ne_of_gt (And.left (And.right (And.right (And.right (by assumption))))) | exact Nat.ne_of_lt (And.left (And.right (And.right (And.right (by assumption))))) | exact Nat.ne_of_gt (And.left (And.right (And.right (And.right (And.right (by assumption)))))) | exact Nat.ne_of_lt (And.left (And.right (And.right (And.right (And.right (by assumption)))))) | exact Nat.ne_of_gt (And.left (And.right (And.right (And.right (And.right (And.right (by assumption))))))) | exact Nat.ne_of_lt (And.left (And.right (And.right (And.right (And.right (And.right (by assumption))))))))
  k_with "newTuple" => (k_here; k_dflt (refine' kup_newTuple ?F ?N ?_ ?z; (case F => k_asm); (case N => k_asm); (case z => kmk_size)); intro D9 h9 F9 N9 u9; (try k_sweep))
  k_with "newList" => (k_here; k_dflt (refine' newList_K ?k1 ?k2 ?_; (case k1 => k_asm); (case k2 => k_asm); k_whole); intro D9 h9 F9 N9 u9; (try k_sweep))
  k_with "execs cons" => (k_here; refine wpAny_execs_cons ?_; k_fold)
  k_with "eval Tuple" => (k_here; k_fold)
  k_with "eval List" => (k_here; k_fold)
  k_with "eval Call Attribute" => (k_here; k_fold)
  k_with "eval Call" => (k_here; k_fold)
  k_with "exec While BoolOp cons nil" => refine Halt.out ?_
  k_with "exec While Compare cons nil" => refine Halt.out ?_
  k_with "exec While Call cons nil" => refine Halt.out ?_
  k_with "eval Name" => (k_here; k_dflt (refine' ld ?k1 ?k2 ?_; (case k1 => k_asm); (case k2 => first | exact rfl | assumption); k_whole))
  k_with "call builtin:len" => (k_here; first | (refine len_is (by assumption) (by omega) ?_; intro _ _) | (refine PySem.P.len_str (by have h9 := (‹At _ _ _›).small; omega) ?_))
  k_with "subscriptTail" => (k_here; (with_reducible show wpAny _ _ (subscriptTail _ _ (Value.str _ _) (Value.int _ _)) _ _ _); k_dflt (refine' item_at ?k1 ?_ ?k2 ?k3; (case k1 => assumption); (case k2 => with_unfolding_all rfl); (case k3 => intro _; with_unfolding_all rfl)); intro _ _)
  k_with "binaryOp Add int int" => (k_here; refine addI ?_; intro _ _)
  k_with "binaryOp Sub int int" => (k_here; refine subI ?_; intro _ _)
  k_with "compareOp In str str" => (k_here; refine in_is (by assumption) ?_)
  k_with "compareOp NotIn str str" => (k_here; refine notin_is (by assumption) ?_)
  k_with "compareOp Eq str str" => (k_here; refine eqs_is (by assumption) ?_)
  k_with "compareOp NotEq str str" => (k_here; refine nes_is (by assumption) ?_)
  k_with "binaryOp FloorDiv int int" => (k_here; refine fdivI (by omega) (by omega) ?_; intro _ _)
  k_with "binaryOp Mod int int" => (k_here; refine fmodI (by omega) ?_; intro _ _)
  k_with "compareOp Eq int int" => (k_here; refine eqi_is (by assumption) ?_)
  k_with "compareOp In str ref" => (k_here; k_dflt (refine' in_two ?k1 ?k2 ?_; (case k1 => exact (News.get (by k_asm) (by k_mem))); (case k2 => assumption)))
  k_with "compareOp NotIn str ref" => (k_here; k_dflt (refine' notin_two ?k1 ?k2 ?_; (case k1 => exact (News.get (by k_asm) (by k_mem))); (case k2 => assumption)))
  k_with "subscriptTail Name Slice str ref" => (k_here; (with_reducible show wpAny _ _ (subscriptTail _ (Expr.Slice (some _) (some _) none _) _ _) _ _ _); (with_reducible rename Fr _ _ _ _ => F'); (with_reducible rename News _ _ _ _ => N'); (refine slice_strN_ss (hsz := ?hsz) (s := ⟨_, _, _, _, _⟩) F' N' ?_); (case hsz => (have h9 := (‹At _ _ _›).small; rw [PySem.sizeLine_eq]; omega)); intro _ _ _ _ _; (try k_sweep))
  k_with "subscriptTail Attribute Slice str ref" => (k_here; (with_reducible show wpAny _ _ (subscriptTail _ (Expr.Slice (some _) (some _) none _) _ _) _ _ _); (with_reducible rename Fr _ _ _ _ => F'); (with_reducible rename News _ _ _ _ => N'); (refine slice_strN_ss (hsz := ?hsz) (s := ⟨_, _, _, _, _⟩) F' N' ?_); (case hsz => (have h9 := (‹At _ _ _›).small; rw [PySem.sizeLine_eq]; omega)); intro _ _ _ _ _; (try k_sweep))
  k_with "newTuple" => (k_here; k_dflt (refine' kup_newTuple ?F ?N ?_ ?z; (case F => k_asm); (case N => k_asm); (case z => kmk_size)); intro D9 h9 F9 N9 u9; (try k_lt u9); (try k_sweep))
  k_with "newList" => (k_here; k_dflt (refine' newList_K ?k1 ?k2 ?_; (case k1 => k_asm); (case k2 => k_asm); k_whole); intro D9 h9 F9 N9 u9; (try k_lt u9); (try k_sweep))
  k_with "call ref" => (k_here; (with_reducible show wpAny _ _ (call (Value.ref 297) _) _ _ _); refine Halt.out ?_)
  k_with "call ref" => (k_here; (with_reducible show wpAny _ _ (call (Value.ref 318) _) _ _ _); refine Halt.out ?_)
  k_with "exec If" => (k_here; (with_reducible rename Stop 1 => stop9); clear stop9; refine Halt.out ?_)
  k_with "eval IfExp" => (k_here; (with_reducible rename Stop 2 => stop9); clear stop9; refine Halt.out ?_)
  k_with "binaryOp Add str str" => (k_here; refine addT (by simp only [PySem.Str.length_append]; omega) ?_; intro _ _)
  k_with "binaryOp Add ref ref" => (k_here; (with_reducible show wpAny _ _ (binaryOp _ (Value.ref _) (Value.ref _)) _ _ _); k_dflt (refine' cat_is ?k1 ?k2 ?k3 ?k4 ?k5 ?_; (case k1 => k_asm); (case k2 => k_asm); (case k3 => k_mem); (case k4 => k_mem); (case k5 => first | assumption | omega | (simp only [List.length_cons, List.length_nil]; omega)); k_whole); intro d9 h9 F9 N9 l9; (try simp only [AllLt] at l9); (try k_sweep))
  k_with "call ref" => (k_here; (with_reducible show wpAny _ _ (call (Value.ref 290) _) _ _ _); k_dflt (refine' take_spec ?k1 ?k2 ?k3 ?k4 ?k5 ?kK ?kd ?ku ?x0 ?x1 ?x2 ?_; (case k1 => k_asm); (case k2 => k_asm); (case k3 => k_asm); (case k4 => first | k_asm | exact News.s1 (by k_asm) | exact News.s2 (by k_asm) | exact News.s3 (by k_asm)); (case k5 => k_asm); (case kK => first | exact rfl | assumption); (case kd => (first | exact rm2 (by assumption) (by exact rfl) | exact rm1 (by assumption) (by exact rfl) | exact rm3 (by assumption) (by exact rfl) | exact rm0 (by assumption) | ktr_room)); (case ku => (first | exact rm2 (by assumption) (by exact rfl) | exact rm1 (by assumption) (by exact rfl) | exact rm3 (by assumption) (by exact rfl) | exact rm0 (by assumption) | ktr_units)); (case x0 => first | assumption | k_ne | ((repeat (refine ne_cons' (by omega) ?_)); assumption)); (case x1 => assumption); (case x2 => first | assumption | exact ⟨by decide, by decide⟩); k_whole); intro v9 a9 b9 u9 u8 u7 h9 tk9 P9 S9 F9 N9; (try k_sweep))
  trivial
theorem lwrit_spec {so : Addr} {sa sb : Int} {ta tb ts : Tok} {nn c : Nat}
  (B : Below A₀ base outer h₀) (F : Fr h₀ L s.heap m) (X : (hd.heap_1 w.params).In h₀)
  (N : News h₀ L s.heap ((so, W.listOf [Value.int sa ta, Value.int sb tb].toArray nn) :: rest))
  (Tp : Top view theLoose mean mg mb h₀) (hk : cs.kind = .function)
  (hdp : dp + 60 < recursionLimit) (hun : un + 480 < cLine)
 (hs : ∀ q ∈ rest, q.1 ≠ so) (hS : Src sa sb) (hc : isLet c = true) (hL : isZz c = false → ∃ kk arc, LG c kk arc)
  (hret : ∀ (D rl : Addr) (es : List Ent) (Y : Str) (vs : List Value) (n2 : Nat) (tl : Led) (a' b' : Int) (ty ta' tb' : Tok) (h' : Heap) (tk' : Nat), Writ c es Y → Y.length < 200 → DatAll tl vs (es.map entD) → Src a' b' → Fr h₀ L h' m → News h₀ L h' ((so, W.listOf [Value.int a' ta', Value.int b' tb'].toArray nn) :: (D, tupO [.ref rl, .str Y ty]) :: (rl, W.listOf vs.toArray n2) :: (tl ++ rest)) →
    (∀ q ∈ (D, tupO [.ref rl, .str Y ty]) :: (rl, W.listOf vs.toArray n2) :: tl, so < q.1 ∧ ∀ b ∈ rest, b.1 < q.1) → Q (.ref D) { s with heap := h', toks := tk' }) :
  wpAny (model prog w) (ktrTop dp un gd cn cs L a ccd cl outer) (call (.ref 325) [.ref so, .str ⟨#[c]⟩ ts]) Q E s := by
  refine wpAny_call ?_
  k_dflt (refine' code_def (binds := [(Str.ofString "source", .ref so), (Str.ofString "letter", .str ⟨#[c]⟩ ts)]) ?k1 ?k2 ?k3 ?k4 ?k5 ?kA ?kF ?kK ?k6 ?k7 ?k8 ?k9 ?kB ?_ ?c2 ?c3 ?c4 ?c5; (case kA => exact rfl); (case kF => exact rfl); (case kK => assumption); (case k1 => k_asm); (case k2 => k_asm); (case k3 => k_asm); (case k4 => k_asm); (case k5 => k_asm); (case k6 => k_is); (case k7 => k_is); (case k8 => (first | exact rm2 (by assumption) (by exact rfl) | exact rm1 (by assumption) (by exact rfl) | exact rm3 (by assumption) (by exact rfl) | exact rm0 (by assumption) | ktr_room)); (case k9 => first | exact BindsTo.of_eq rfl | exact binds_K (by k_in) rfl (by k_is) rfl rfl rfl); (case c5 => decide); (case kB => exact locs rfl); (case c2 => exact rfl); (case c3 => exact rfl); (case c4 => exact rfl); k_whole; intro g L' h' FG F1 N1 B1 X1 T1; (try k_fold))
  replace F1 := fr_of2 F1
  have e3 := zz_in c
  k_steps
  refine Halt.mk ?_
  (with_reducible rename Fr g _ _ _ => F2); (with_reducible rename News g _ _ _ => N2)
  replace N2 := News.s1 N2
  (repeat ((with_reducible rename _ ∧ _ => z); (have z1 := z.1); (have z2 := z.2); clear z))
  k_dflt (refine' one_list (P := AmongS [Str.ofString "", Str.ofString " ", Str.ofString "\n"]) ?k1 ?k2 ?k3 ?k4 ?k5 ?kK ?kd ?ku ?x0 ?x1 ?x2 ?x3 ?_; (case k1 => exact B1); (case k2 => exact F2); (case k3 => exact X1); (case k4 => exact N2); (case k5 => exact T1); (case kK => exact rfl); (case kd => (first | exact rm2 (by assumption) (by exact rfl) | exact rm1 (by assumption) (by exact rfl) | exact rm3 (by assumption) (by exact rfl) | exact rm0 (by assumption) | ktr_room)); (case ku => (first | exact rm2 (by assumption) (by exact rfl) | exact rm1 (by assumption) (by exact rfl) | exact rm3 (by assumption) (by exact rfl) | exact rm0 (by assumption) | ktr_units)); (case x0 => (repeat (refine ne_cons' (by first | exact lt_1 (by assumption) (by k_mem) | omega) ?_)); first | assumption | exact fun _ h => nomatch h); (case x1 => exact hS); (case x2 => exact ⟨by simp, by simp⟩); (case x3 => (intro v hv; simp only [List.mem_cons, List.not_mem_nil, or_false] at hv; rcases hv with rfl | rfl | rfl; all_goals exact ⟨_, _, rfl, by simp⟩)); k_whole)
  rintro v a1 b1 ta1 tb1 h1 tk1 ⟨bh, tbh, rfl, hbh⟩ S1 F3 N3
  have lbh := bls_len hbh
  replace N3 := drop2 N3
  clear F2 N2
  have hc1 : (⟨#[c]⟩ : Str).length = 1 := rfl
  cases hz : isZz c
  rotate_left
  · rw [hz] at e3
    k_steps
    (with_reducible rename News h₀ _ _ _ => N5)
    (repeat ((with_reducible rename _ ∧ _ => z); (have z1 := z.1); (have z2 := z.2); clear z))
    refine hret _ _ [(c, [])] _ _ 0 [(_, _), (_, _)] _ _ _ _ _ _ _ (.close bh hz hbh) (by simp only [PySem.Str.length_append]; omega) (.one (.tuple (.head _) (.cons (.str _ _) (.cons (.tuple (.tail _ (.head _)) .nil) .nil)))) S1 (by assumption) (News.nth N5 4 rfl) ?_
    ((repeat (refine up_cons (by omega) (by first | assumption | exact allLt_r (by assumption)) ?_)); first | exact up_nil | assumption)
  · rw [hz] at e3
    obtain ⟨kk, arc, hLG⟩ := hL hz
    k_steps
    refine Halt.mk ?_
    (with_reducible rename Fr g _ _ _ => F2); (with_reducible rename News g _ _ _ => N2)
    replace N2 := News.s1 N2
    k_dflt (refine' one_list (P := AmongS [Str.ofString " ", Str.ofString ",", Str.ofString " ,\t", Str.ofString "\r\n"]) ?k1 ?k2 ?k3 ?k4 ?k5 ?kK ?kd ?ku ?x0 ?x1 ?x2 ?x3 ?_; (case k1 => exact B1); (case k2 => exact F2); (case k3 => exact X1); (case k4 => exact N2); (case k5 => exact T1); (case kK => exact rfl); (case kd => (first | exact rm2 (by assumption) (by exact rfl) | exact rm1 (by assumption) (by exact rfl) | exact rm3 (by assumption) (by exact rfl) | exact rm0 (by assumption) | ktr_room)); (case ku => (first | exact rm2 (by assumption) (by exact rfl) | exact rm1 (by assumption) (by exact rfl) | exact rm3 (by assumption) (by exact rfl) | exact rm0 (by assumption) | ktr_units)); (case x0 => (repeat (refine ne_cons' (by first | exact lt_1 (by assumption) (by k_mem) | omega) ?_)); first | assumption | exact fun _ h => nomatch h); (case x1 => exact S1); (case x2 => exact ⟨by simp, by simp⟩); (case x3 => (intro v hv; simp only [List.mem_cons, List.not_mem_nil, or_false] at hv; rcases hv with rfl | rfl | rfl | rfl; all_goals exact ⟨_, _, rfl, by simp⟩)); k_whole)
    rintro v a2 b2 ta2 tb2 h2 tk2 ⟨gp, tgp, rfl, hgp⟩ S2 F4 N4
    have lgp := gaps_len hgp
    replace N4 := drop2 N4
    clear F2 N2
    have hLG2 := hLG
    obtain ⟨u, n, e1, e2, hn, hk9, e7⟩ := hLG2
    k_steps
    refine Halt.mk ?_
    (with_reducible rename Fr g _ _ _ => F2); (with_reducible rename News g _ _ _ => N2)
    k_dflt (refine' lgroup_spec ?k1 ?k2 ?k3 ?k4 ?k5 ?kK ?kd ?ku ?x0 ?x1 ?x2 ?x3 ?x4 ?x5 ?x6 ?x7 ?_; (case k1 => exact B1); (case k2 => exact F2); (case k3 => exact X1); (case k4 => exact N2); (case k5 => exact T1); (case kK => exact rfl); (case kd => (first | exact rm2 (by assumption) (by exact rfl) | exact rm1 (by assumption) (by exact rfl) | exact rm3 (by assumption) (by exact rfl) | exact rm0 (by assumption) | ktr_room)); (case ku => (first | exact rm2 (by assumption) (by exact rfl) | exact rm1 (by assumption) (by exact rfl) | exact rm3 (by assumption) (by exact rfl) | exact rm0 (by assumption) | ktr_units)); (case x0 => exact hs); (case x1 => exact S2); (case x2 => exact e1); (case x3 => exact e2); (case x4 => exact hn); (case x5 => exact hk9); (case x6 => exact e7); (case x7 => omega); k_whole)
    intro d1 t1' vs1 ws1 ds1 n3 new1 a3 b3 tw3 ta3 tb3 h3 tk3 G3 D3 S3 F5 N5 U3
    clear F2 N2
    have lj1 := gtc_join G3 (by have := hk9.2; omega) lgp
    have u31 : @LT.lt Nat _ so d1 := (U3 _ (.head _)).1
    have u32 : @LT.lt Nat _ so t1' := (U3 _ (.tail _ (.head _))).1
    have u33 : ∀ q ∈ new1 ++ rest, q.1 ≠ so := fun q hq => by
      rcases List.mem_append.mp hq with hq | hq
      · exact Nat.ne_of_gt (U3 q (.tail _ (.tail _ hq))).1
      · exact hs q hq
    k_steps
    refine Halt.mk ?_
    (with_reducible rename Fr g _ _ _ => F2); (with_reducible rename News g _ _ _ => N2)
    replace N2 := News.nth N2 3 rfl
    dsimp only [List.eraseIdx] at N2
    k_dflt (refine' one_list (P := AmongS [Str.ofString "", Str.ofString " "]) ?k1 ?k2 ?k3 ?k4 ?k5 ?kK ?kd ?ku ?x0 ?x1 ?x2 ?x3 ?_; (case k1 => exact B1); (case k2 => exact F2); (case k3 => exact X1); (case k4 => exact N2); (case k5 => exact T1); (case kK => exact rfl); (case kd => (first | exact rm2 (by assumption) (by exact rfl) | exact rm1 (by assumption) (by exact rfl) | exact rm3 (by assumption) (by exact rfl) | exact rm0 (by assumption) | ktr_room)); (case ku => (first | exact rm2 (by assumption) (by exact rfl) | exact rm1 (by assumption) (by exact rfl) | exact rm3 (by assumption) (by exact rfl) | exact rm0 (by assumption) | ktr_units)); (case x0 => (repeat (refine ne_cons' (by first | exact lt_1 (by assumption) (by k_mem) | omega) ?_)); first | assumption | exact fun _ h => nomatch h); (case x1 => exact S3); (case x2 => exact ⟨by simp, by simp⟩); (case x3 => (intro v hv; simp only [List.mem_cons, List.not_mem_nil, or_false] at hv; rcases hv with rfl | rfl; all_goals exact ⟨_, _, rfl, by simp⟩)); k_whole)
    rintro v a4 b4 ta4 tb4 h4 tk4 ⟨lg, tlg, rfl, hlg⟩ S4 F6 N6
    have llg := lgs_len hlg
    replace N6 := drop2 N6
    clear F2 N2
    k_steps
    rotate_left
    · (with_reducible rename News h₀ _ _ _ => N7)
      (with_reducible rename Src _ _ => S7)
      (repeat ((with_reducible rename _ ∧ _ => z); (have z1 := z.1); (have z2 := z.2); clear z))
      refine hret _ _ [(c, ds1)] _ _ 0 ((_, _) :: (_, _) :: new1) _ _ _ _ _ _ _ (.one kk arc gp lg bh ws1 ds1 hz hLG G3 hgp hlg hbh) (by simp only [PySem.Str.length_append]; omega) (.one (.tuple (.head _) (.cons (.str _ _) (.cons (.tuple (.tail _ (.head _)) (DatAll.mono (fun q hq => .tail _ (.tail _ hq)) D3)) .nil)))) S7 (by assumption) (w_end1 N7) ?_
      (repeat (refine up_cons (by omega) (by first | assumption | exact allLt_r (by assumption)) ?_))
      exact fun q hq => U3 q (.tail _ hq)
    · refine Halt.mk ?_
      (with_reducible rename Fr g _ _ _ => F2); (with_reducible rename News g _ _ _ => N2)
      (with_reducible rename Src _ _ => S7)
      k_dflt (refine' lgroup_spec ?k1 ?k2 ?k3 ?k4 ?k5 ?kK ?kd ?ku ?x0 ?x1 ?x2 ?x3 ?x4 ?x5 ?x6 ?x7 ?_; (case k1 => exact B1); (case k2 => exact F2); (case k3 => exact X1); (case k4 => exact N2); (case k5 => exact T1); (case kK => exact rfl); (case kd => (first | exact rm2 (by assumption) (by exact rfl) | exact rm1 (by assumption) (by exact rfl) | exact rm3 (by assumption) (by exact rfl) | exact rm0 (by assumption) | ktr_room)); (case ku => (first | exact rm2 (by assumption) (by exact rfl) | exact rm1 (by assumption) (by exact rfl) | exact rm3 (by assumption) (by exact rfl) | exact rm0 (by assumption) | ktr_units)); (case x0 => (repeat (refine ne_cons' (by first | exact lt_1 (by assumption) (by k_mem) | omega) ?_)); first | assumption | exact fun _ h => nomatch h); (case x1 => exact S7); (case x2 => exact e1); (case x3 => exact e2); (case x4 => exact hn); (case x5 => exact hk9); (case x6 => exact e7); (case x7 => omega); k_whole)
      intro d2 t2' vs2 ws2 ds2 n4 new2 a5 b5 tw5 ta5 tb5 h5 tk5 G5 D5 S5 F7 N7 U5
      clear F2 N2
      replace N7 := w_mid N7
      have lj2 := gtc_join G5 (by have := hk9.2; omega) lgp
      have u51 : @LT.lt Nat _ so d2 := (U5 _ (.head _)).1
      have u52 : @LT.lt Nat _ so t2' := (U5 _ (.tail _ (.head _))).1
      have st2 : Stop 2 := trivial
      k_steps
      refine Halt.mk ?_
      (with_reducible rename Fr g _ _ _ => F2); (with_reducible rename News g _ _ _ => N2)
      refine cutV (fun v => ∃ t, v = .str ⟨#[behindC c]⟩ t) F2 N2 ?_ ?_
      · have e5 : same1 c (Str.ofString "M") = decide (c = 77) := same1_is (by decide +kernel) c
        have e6 : same1 c (Str.ofString "m") = decide (c = 109) := same1_is (by decide +kernel) c
        by_cases h1 : c = 77
        · rw [decide_eq_true h1] at e5
          have e7' : (⟨#[behindC c]⟩ : Str) = Str.ofString "L" := by subst h1; decide +kernel
          k_steps
          exact ⟨_, _, rfl, by assumption, by assumption, _, by rw [e7']⟩
        · rw [decide_eq_false h1] at e5
          by_cases h2 : c = 109
          · rw [decide_eq_true h2] at e6
            have e7' : (⟨#[behindC c]⟩ : Str) = Str.ofString "l" := by subst h2; decide +kernel
            k_steps
            exact ⟨_, _, rfl, by assumption, by assumption, _, by rw [e7']⟩
          · rw [decide_eq_false h2] at e6
            have e7' : behindC c = c := by simp [behindC, h1, h2]
            k_steps
            exact ⟨_, _, rfl, by assumption, by assumption, _, by rw [e7']⟩
      rintro v h8 tk8 F8 N8 ⟨tv8, rfl⟩
      clear F2 N2
      k_steps
      (with_reducible rename News h₀ _ _ _ => N9)
      (repeat ((with_reducible rename _ ∧ _ => z); (have z1 := z.1); (have z2 := z.2); clear z))
      refine hret _ _ [(c, ds1), (behindC c, ds2)] _ _ 0 ((_, _) :: (_, _) :: (_, _) :: (_, _) :: (new2 ++ new1)) _ _ _ _ _ _ _ (.two kk arc gp lg bh ws1 ws2 ds1 ds2 hz hLG G3 G5 hgp hlg hbh) (by simp only [PySem.Str.length_append]; omega) (show DatAll _ _ ([entD (c, ds1)] ++ [entD (behindC c, ds2)]) from DatAll.append (.one (.tuple (.tail _ (.tail _ (.head _))) (.cons (.str _ _) (.cons (.tuple (.tail _ (.tail _ (.tail _ (.head _)))) (DatAll.mono (fun q hq => .tail _ (.tail _ (.tail _ (.tail _ (List.mem_append_right _ hq))))) D3)) .nil)))) (.one (.tuple (.head _) (.cons (.str _ _) (.cons (.tuple (.tail _ (.head _)) (DatAll.mono (fun q hq => .tail _ (.tail _ (.tail _ (.tail _ (List.mem_append_left _ hq))))) D5)) .nil))))) S5 (by assumption) (w_end2 N9) ?_
      (repeat (refine up_cons (by omega) (by first | assumption | exact allLt_r (by assumption)) ?_))
      intro q hq
      rcases List.mem_cons.mp hq with rfl | hq
      · exact ⟨(U5 _ (.tail _ (.head _))).1, fun b hb => (U5 _ (.tail _ (.head _))).2 b (.tail _ (.tail _ (.tail _ (.tail _ (.tail _ (List.mem_append_right _ hb))))))⟩
      rcases List.mem_cons.mp hq with rfl | hq
      · exact ⟨by assumption, fun b hb => allLtG (allLt_r (by assumption)) hb⟩
      rcases List.mem_cons.mp hq with rfl | hq
      · exact U3 _ (.tail _ (.head _))
      rcases List.mem_append.mp hq with hq | hq
      · exact ⟨(U5 q (.tail _ (.tail _ hq))).1, fun b hb => (U5 q (.tail _ (.tail _ hq))).2 b (.tail _ (.tail _ (.tail _ (.tail _ (.tail _ (List.mem_append_right _ hb))))))⟩
      · exact U3 q (.tail _ (.tail _ hq))
end
theorem off_lawd : True := by
  w_top off
  k_with_none
  trivial
section
def LawQ (s₁ : Shared) (f : Flow) (s' : Shared) : Prop := f = .ret (.bool true) ∧ ∃ h tk L m, s' = { s₁ with heap := h, toks := tk } ∧ Fr s₁.heap L h m
theorem law_mono {M : Model} {A : Around} {x : Sem Flow} {Q : Flow → Shared → Prop} {E : Value → Shared → Prop} {s s₁ : Shared} {h : Heap} {L : Addr} {m : Str → Option Value} (_ : Fr s₁.heap L h m) (h1 : wpAny M A x (LawQ s₁) (fun _ _ => False) s) (h2 : ∀ f s', LawQ s₁ f s' → Q f s') : wpAny M A x Q E s :=
  wpAny_mono h1 h2 fun _ _ h => h.elim
theorem below_of {h : Heap} (_ : Fr h₀ L h m) : Below callerA h₀ [] h₀ := below_caller h₀
theorem loose_is : looseW view [Str.ofString "MOST_VALUE", Str.ofString "fraction"] = theLoose := by rfl
theorem dat_ne {news : Led} {v u : Value} {d : Dat} (N : News h₀ L s.heap news) (Dv : DatIn news v d) (Du : DatIn news u d) (hk : kqdOk 10 d = true) (hu : A₀.units + 64 < cLine) (h : Q (.bool false) s) : wpAny (model prog w) A₀ (compareOp .NotEq v u) Q E s := by
  obtain ⟨as, ra⟩ := kqd_in N 10 Dv hk
  obtain ⟨bs, rb⟩ := kqd_in N 10 Du hk
  have la := kqd_lay 10 d hk
  have hs : SeqAt.shaped (kqdP d) = true := by unfold SeqAt.shaped; rw [la.1, Bool.true_and]; exact decide_eq_true (Nat.le_trans la.2 (by decide))
  refine ne_dataH ra rb hs hs hu ?_
  rw [(kqd_eqv 10 d d 10 hk hk).mpr rfl]
  exact h
theorem dat_eq {news : Led} {v u : Value} {d : Dat} (N : News h₀ L s.heap news) (Dv : DatIn news v d) (Du : DatIn news u d) (hk : kqdOk 10 d = true) (hu : A₀.units + 64 < cLine) (h : Q (.bool true) s) : wpAny (model prog w) A₀ (compareOp .Eq v u) Q E s := by
  obtain ⟨as, ra⟩ := kqd_in N 10 Dv hk
  obtain ⟨bs, rb⟩ := kqd_in N 10 Du hk
  have la := kqd_lay 10 d hk
  have hs : SeqAt.shaped (kqdP d) = true := by unfold SeqAt.shaped; rw [la.1, Bool.true_and]; exact decide_eq_true (Nat.le_trans la.2 (by decide))
  refine eq_dataH ra rb hs hs hu ?_
  rw [(kqd_eqv 10 d d 10 hk hk).mpr rfl]
  exact h
theorem kq_res {ds : List Dat} {z : Int} (h : ∀ d ∈ ds, kqdOk 8 d = true) : kqdOk 10 (.tuple [.list ds, .none, .int z]) = true := by
  show (([.list ds, .none, .int z] : List Dat).all (kqdOk 9)) = true
  have h2 : kqdOk 9 (.list ds) = true := by show ds.all (kqdOk 8) = true; simpa using h
  simp only [List.all_cons, List.all_nil, h2, Bool.true_and, Bool.and_true]; rfl
theorem kq_res2 {ds : List Dat} {z y : Int} (h : ∀ d ∈ ds, kqdOk 8 d = true) : kqdOk 10 (.tuple [.list ds, .int y, .int z]) = true := by
  show (([.list ds, .int y, .int z] : List Dat).all (kqdOk 9)) = true
  have h2 : kqdOk 9 (.list ds) = true := by show ds.all (kqdOk 8) = true; simpa using h
  simp only [List.all_cons, List.all_nil, h2, Bool.true_and, Bool.and_true]; rfl
noncomputable abbrev bl1 : List Str := [Str.ofString "", Str.ofString " ", Str.ofString "\n\t"]
theorem bl1_bl {g : Str} (h : g ∈ bl1) : Blank g.cps.toList ∧ g.length ≤ 3 := by
  simp only [bl1, List.mem_cons, List.not_mem_nil, or_false] at h
  rcases h with rfl | rfl | rfl <;> (unfold Blank; decide +kernel)
theorem last_lets : (∀ c ∈ (Str.ofString "LlHhVvCcSsQqTtAaZz").cps.toList, isLet c = true ∧ isMm c = false) ∧ ((Str.ofString "LlHhVvCcSsQqTtAaZz").length : Int) = 18 := by decide +kernel
theorem last_text {bl : Str} {c : Nat} : (bl ++ ⟨#[c]⟩ ++ Str.ofString "1 2").cps.toList = bl.cps.toList ++ c :: [49, 32, 50] := by
  have e : (Str.ofString "1 2").cps.toList = [49, 32, 50] := by decide +kernel
  have e1 : (⟨#[c]⟩ : Str).cps.toList = [c] := rfl
  rw [cps_app, cps_app, e, e1]; simp
theorem law_re2 {h : Heap} {S d kl ah du : Addr × Obj} {tl R : Led} (N : News h₀ L h (S :: d :: kl :: tl)) (hs : ∀ q ∈ ah :: du :: R, q ∈ tl) : News h₀ L h (S :: d :: kl :: ah :: du :: tl) :=
  News.sub N fun p hp => by
    simp only [List.mem_cons] at hp ⊢
    rcases hp with h | h | h | h | h | h
    · simp [h]
    · simp [h]
    · simp [h]
    · exact .inr (.inr (.inr (h ▸ hs _ (.head _))))
    · exact .inr (.inr (.inr (h ▸ hs _ (.tail _ (.head _)))))
    · simp [h]
theorem law_re3 {h : Heap} {D fa du kl : Addr × Obj} {tl : Led} (N : News h₀ L h (D :: fa :: tl)) (h1 : du ∈ tl) (h2 : kl ∈ tl) : News h₀ L h (D :: fa :: du :: kl :: tl) :=
  News.sub N fun p hp => by
    simp only [List.mem_cons] at hp ⊢
    rcases hp with h | h | h | h | h
    · simp [h]
    · simp [h]
    · exact .inr (.inr (h ▸ h1))
    · exact .inr (.inr (h ▸ h2))
    · simp [h]
theorem t6 {a b c d e f q : Addr × Obj} {tl : Led} (h : q ∈ tl) : q ∈ a :: b :: c :: d :: e :: f :: tl := .tail _ (.tail _ (.tail _ (.tail _ (.tail _ (.tail _ h)))))
theorem cat_dat {LL R tl : Led} {vsD vs6 : List Value} {ds : List Dat} {es es6 : List Ent} (hD : ∀ q ∈ R, q ∈ LL) (h6 : ∀ q ∈ tl, q ∈ LL) (DD : DatAll R vsD (ds ++ es.map entD)) (D6 : DatAll tl vs6 (es6.map entD)) : DatAll LL (vsD ++ vs6) (ds ++ (es ++ es6).map entD) := by
  rw [List.map_append, ← List.append_assoc]
  exact DatAll.append (DatAll.mono hD DD) (DatAll.mono h6 D6)
theorem one128 {c : Nat} (h : isLet c = true) : ∀ x ∈ (⟨#[c]⟩ : Str).cps.toList, x < 128 := by
  intro x hx
  have e1 : (⟨#[c]⟩ : Str).cps.toList = [c] := rfl
  rw [e1, List.mem_singleton] at hx
  subst hx; exact let_lt h
theorem upto_take {vs : List Value} {y : Int} (h : 0 ≤ y) : (slicePick vs.toArray none (some y) none).toList = vs.take y.toNat := by
  obtain ⟨k, rfl⟩ := Int.eq_ofNat_of_zero_le h
  have e : sliceBounds none (some (k : Int)) none vs.toArray.size = (((0 : Nat) : Int), ((min k vs.toArray.size : Nat) : Int), 1) := by
    simp only [sliceBounds, Option.getD_none, show (1 : Int) > 0 by decide, if_true, if_neg (Int.not_lt.mpr (Int.natCast_nonneg k)), natMin]
    rw [Int.max_eq_right (natMin k _ ▸ Int.natCast_nonneg _)]
    rfl
  rw [kmk_pick_nat _ e]
  show ((vs.drop 0).take (min k vs.toArray.size - 0)) = _
  rw [List.drop_zero, Nat.sub_zero, List.size_toArray, kmk_take_min, Int.toNat_natCast]
theorem slice_up {value slice : PySem.Expr} {news : Led} {l : Addr} {vs : List Value} {nn : Nat} {y : Int} {t : Tok} (F : Fr h₀ L s.heap m) (N : News h₀ L s.heap news) (hm : (l, W.listOf vs.toArray nn) ∈ news) (hy : 0 ≤ y) (hz : vs.length < 1000)
    (h : ∀ D h', Fr h₀ L h' m → News h₀ L h' ((D, W.listOf (vs.take y.toNat).toArray 0) :: news) → AllLt D news → Q (.ref D) { s with heap := h' })
    (hs : subscripted slice false (.ref l) (.ref s.heap.objs.size) = operate [.ref s.heap.objs.size, .ref l] (getItem (.ref l) (.ref s.heap.objs.size))) (ht : ∀ r, letTemporaryGo value (.ref l) r = pure ()) :
    wpAny (model prog w) A₀ (subscriptTail value slice (.ref l) (.ref s.heap.objs.size)) Q E { s with heap := s.heap.push { cls := .type "slice", data := .fields #[.none, .int y t, .none] } } :=
  kmk_slice_lit F N (News.isList N hm) .none (.int _ _) (upto_take hy) (fun D h' F' N' l1 => h D h' F' N' (allLt_of l1)) hs ht (by rw [PySem.sizeLine_eq, List.size_toArray]; omega)
theorem dat_take {l : Led} : ∀ {vs : List Value} {ds : List Dat} (n : Nat), DatAll l vs ds → DatAll l (vs.take n) (ds.take n)
  | _, _, 0, _ => .nil
  | _, _, _ + 1, .nil => .nil
  | _, _, n + 1, .cons h r => .cons h (dat_take n r)
noncomputable abbrev aheadD : List Dat := [entD (77, [qn 1 1, qn 2 1]), entD (122, [])]
theorem ahead_ok {n : Nat} : (aheadD.take n).length ≤ 2 ∧ ∀ d ∈ aheadD.take n, kqdOk 8 d = true :=
  ⟨by rw [List.length_take]; exact Nat.min_le_right _ _, fun d hd => (by decide +kernel : ∀ d ∈ aheadD, kqdOk 8 d = true) d (List.mem_of_mem_take hd)⟩
theorem pack {h : Heap} {LL : Led} {ah so : Addr} {os : Obj} {vs : List Value} {ds : List Dat} {n2 : Nat} (N : News h₀ L h ((ah, W.listOf vs.toArray n2) :: (so, os) :: LL)) (hD : DatAll LL vs ds) (hne : ∀ q ∈ LL, q.1 ≠ so) (hah : @Ne Nat ah so) :
    ∃ R, News h₀ L h ((so, os) :: (ah, W.listOf vs.toArray n2) :: R) ∧ DatAll R vs ds ∧ ∀ q ∈ (ah, W.listOf vs.toArray n2) :: R, q.1 ≠ so := ⟨LL, News.s1 N, hD, ne_cons' hah hne⟩
theorem law_pack2 {h : Heap} {Dt : Addr × Obj} {du so ah : Addr} {o os oa : Obj} {R : Led} (N : News h₀ L h (Dt :: (du, o) :: (so, os) :: (ah, oa) :: R)) (l9 : ∀ q ∈ (so, os) :: (ah, oa) :: R, q.1 < du) (ne : ∀ q ∈ (ah, oa) :: R, q.1 ≠ so) :
    News h₀ L h ((so, os) :: (ah, oa) :: (du, o) :: R) ∧ ∀ q ∈ (ah, oa) :: (du, o) :: R, q.1 ≠ so :=
  ⟨News.sub N fun p hp => by simp only [List.mem_cons] at hp ⊢; rcases hp with h | h | h | h <;> simp [h],
   ne_cons' (ne _ (.head _)) (ne_cons' (Nat.ne_of_gt (l9 _ (.head _))) fun q hq => ne q (.tail _ hq))⟩
def LawJ (I so ah : Addr) (nn nA : Nat) (vsA : List Value) (dsA : List Dat) (kk : Nat) (k i : Nat) (m' : Str → Option Value) (n' : Led) : Prop :=
  ∃ (sa sb : Int) (ta tb tY : Tok) (du : Addr) (vsD : List Value) (nD : Nat) (R : Led) (es : List Ent) (Y : Str), n' = (so, W.listOf [Value.int sa ta, Value.int sb tb].toArray nn) :: (ah, W.listOf vsA.toArray nA) :: (du, W.listOf vsD.toArray nD) :: R ∧ Src sa sb ∧ i + k = kk ∧ DatAll R vsA dsA ∧ DatAll R vsD (dsA ++ es.map entD) ∧
    (∀ q ∈ (ah, W.listOf vsA.toArray nA) :: (du, W.listOf vsD.toArray nD) :: R, q.1 ≠ so) ∧ (∀ q ∈ n', q.1 ≠ I) ∧ Scr dsA.isEmpty i es Y ∧
    m' (Str.ofString "source") = some (.ref so) ∧ m' (Str.ofString "ahead") = some (.ref ah) ∧ m' (Str.ofString "text") = some (.str Y tY) ∧ m' (Str.ofString "due") = some (.ref du)
theorem emp_and {ds : List Dat} {es : List Ent} : (ds ++ es.map entD).isEmpty = (ds.isEmpty && es.isEmpty) := by
  cases ds <;> cases es <;> rfl
def LetsOK (b : Bool) (y : Str) (yl : Int) : Prop := (∀ c ∈ y.cps.toList, isLet c = true ∧ (b && !isMm c) = false) ∧ (y.length : Int) = yl ∧ SmallI yl
theorem lets_two : LetsOK true (Str.ofString "Mm") 2 := ⟨by decide +kernel, by decide +kernel, by decide, by decide⟩
theorem lets_all : LetsOK false (Str.ofString "MmLlHhVvCcSsQqTtAaAaZz") 22 := ⟨by decide +kernel, by decide +kernel, by decide, by decide⟩
theorem law_re {h : Heap} {S D rl Ix ah du : Addr × Obj} {tl R : Led} (N : News h₀ L h (S :: D :: rl :: (tl ++ (Ix :: ah :: du :: R)))) : News h₀ L h (S :: D :: rl :: Ix :: ah :: du :: (tl ++ R)) :=
  News.sub N fun p hp => by simp only [List.mem_cons, List.mem_append] at hp ⊢; rcases hp with h | h | h | h | h | h | h | h <;> simp [h]
section
variable {g : Heap} {L' : Addr} {I so ah du d9 : Addr} {it od : Obj} {sa sb : Int} {ta tb tY : Tok} {nn nA nD n2 kk k i c : Nat} {R tl : Led} {vsA vsD vs1 : List Value} {dsA : List Dat} {es es1 : List Ent} {Y Y1 : Str} {s' : Shared} {h' : Heap} {tk' : Nat} {m' : Str → Option Value} {QF : Flow → Shared → Prop}
theorem law_turn {Dt Dx rlx : Addr × Obj} (F : Fr g L' h' m') (N : News g L' h' (Dt :: (d9, W.listOf (vsD ++ vs1).toArray 0) :: (so, W.listOf [Value.int sa ta, Value.int sb tb].toArray nn) :: Dx :: rlx :: (I, it) :: (ah, W.listOf vsA.toArray nA) :: (du, od) :: (tl ++ R)))
    (l9 : @LT.lt Nat _ so d9 ∧ @LT.lt Nat _ I d9) (hS : Src sa sb) (hik : i + (k + 1) = kk) (DA : DatAll R vsA dsA) (DD : DatAll R vsD (dsA ++ es.map entD)) (D1 : DatAll tl vs1 (es1.map entD)) (hne : ∀ q ∈ (ah, W.listOf vsA.toArray nA) :: (du, od) :: R, q.1 ≠ so)
    (hsI : so ≠ I) (hoff : ∀ q ∈ (ah, W.listOf vsA.toArray nA) :: (du, od) :: R, q.1 ≠ I) (U : ∀ q ∈ tl, so < q.1 ∧ ∀ b ∈ (I, it) :: (ah, W.listOf vsA.toArray nA) :: (du, od) :: R, b.1 < q.1) (hY : Scr dsA.isEmpty i es Y) (hW : Writ c es1 Y1) (hl : Y1.length < 200) (hc : isLet c = true) (hm : ((dsA.isEmpty && es.isEmpty) && !isMm c) = false)
    (m1 : m' (Str.ofString "source") = some (.ref so)) (m2 : m' (Str.ofString "ahead") = some (.ref ah)) (m3 : m' (Str.ofString "text") = some (.str (Y ++ Y1) tY)) (m4 : m' (Str.ofString "due") = some (.ref d9)) :
    UnrPost g L' s' I it (LawJ I so ah nn nA vsA dsA kk k (i + 1)) QF .next { s' with heap := h', toks := tk' } := by
  have hoff2 : ∀ q ∈ (so, W.listOf [Value.int sa ta, Value.int sb tb].toArray nn) :: (ah, W.listOf vsA.toArray nA) :: (d9, W.listOf (vsD ++ vs1).toArray 0) :: (tl ++ R), q.1 ≠ I := by
    refine ne_cons' hsI (ne_cons' (hoff _ (.head _)) (ne_cons' (Nat.ne_of_gt l9.2) ?_))
    intro q hq
    rcases List.mem_append.mp hq with hq | hq
    · exact Nat.ne_of_gt ((U q hq).2 _ (.head _))
    · exact hoff _ (.tail _ (.tail _ hq))
  refine ⟨h', tk', m', (so, W.listOf [Value.int sa ta, Value.int sb tb].toArray nn) :: (ah, W.listOf vsA.toArray nA) :: (d9, W.listOf (vsD ++ vs1).toArray 0) :: (tl ++ R), rfl, F, News.sub N fun q hq => ?_, hoff2, ?_⟩
  · simp only [List.mem_cons, List.mem_append] at hq ⊢
    rcases hq with h | h | h | h | h <;> simp [h]
  · refine ⟨sa, sb, ta, tb, tY, d9, vsD ++ vs1, 0, tl ++ R, es ++ es1, Y ++ Y1, rfl, hS, by omega, DatAll.mono (fun q hq => List.mem_append_right _ hq) DA, ?_, ne_cons' (hne _ (.head _)) (ne_cons' (Nat.ne_of_gt l9.1) ?_), hoff2, .snoc hY hW hl hc hm, m1, m2, m3, m4⟩
    · rw [List.map_append, ← List.append_assoc]
      exact DatAll.append (DatAll.mono (fun q hq => List.mem_append_right _ hq) DD) (DatAll.mono (fun q hq => List.mem_append_left _ hq) D1)
    · intro q hq
      rcases List.mem_append.mp hq with hq | hq
      · exact Nat.ne_of_gt (U q hq).1
      · exact hne _ (.tail _ (.tail _ hq))
end
end
theorem off_law : True := by
  w_top off
  k_with_none
  trivial
section
theorem kw_law_1 : True := by
  k_with "ne" => (refine neN ?_; (try dsimp only); first | assumption | exact Ne.symm (by assumption) | exact Nat.ne_of_gt (by assumption) | exact Nat.ne_of_lt (by assumption) | exact lt_1 (by assumption) (by k_mem) | exact lt_2 (by assumption) (by k_mem) | exact Nat.ne_of_gt (And.left (by assumption)) | exact Nat.ne_of_lt (And.left (by assumption)) | exact Nat.ne_of_gt (And.left (And.right (by assumption))) | exact Nat.ne_of_lt (And.left (And.right (by assumption))) | exact Nat.ne_of_gt (And.left (And.right (And.right (by assumption)))) | exact Nat.ne_of_lt (And.left (And.right (And.right (by assumption)))) | exact Nat.ne_of_gt (And.left (And.right (And.right (And.right (by assumption))))) | exact Nat.ne_of_lt (And.left (And.right (And.right (And.right (by assumption))))) | exact Nat.ne_of_gt (And.left (And.right (And.right (And.right (And.right (by assumption)))))) | exact Nat.ne_of_lt (And.left (And.right (And.right (And.right (And.right (by assumption)))))) | exact Nat.ne_of_gt (And.left (And.right (And.right (And.right (And.right (And.right (by assumption))))))) | exact Nat.ne_of_lt (And.left (And.right (And.right (And.right (And.right (And.right (by assumption))))))))
  k_with "newTuple" => (k_here; k_dflt (refine' kup_newTuple ?F ?N ?_ ?z; (case F => k_asm); (case N => k_asm); (case z => kmk_size)); intro D9 h9 F9 N9 u9; (try k_sweep))
  k_with "newList" => (k_here; k_dflt (refine' newList_K ?k1 ?k2 ?_; (case k1 => k_asm); (case k2 => k_asm); k_whole); intro D9 h9 F9 N9 u9; (try k_sweep))
  k_with "execs cons" => (k_here; refine wpAny_execs_cons ?_; k_fold)
  k_with "eval Tuple" => (k_here; k_fold)
  k_with "eval List" => (k_here; k_fold)
  k_with "eval Call Attribute" => (k_here; k_fold)
  k_with "eval Call" => (k_here; k_fold)
  k_with "exec While BoolOp cons nil" => refine Halt.out ?_
  k_with "exec While Compare cons nil" => refine Halt.out ?_
  k_with "exec While Call cons nil" => refine Halt.out ?_
  k_with "eval Name" => (k_here; k_dflt (refine' ld ?k1 ?k2 ?_; (case k1 => k_asm); (case k2 => first | exact rfl | assumption); k_whole))
  k_with "call builtin:len" => (k_here; first | (refine len_is (by assumption) (by omega) ?_; intro _ _) | (refine PySem.P.len_str (by have h9 := (‹At _ _ _›).small; omega) ?_))
  k_with "subscriptTail" => (k_here; (with_reducible show wpAny _ _ (subscriptTail _ _ (Value.str _ _) (Value.int _ _)) _ _ _); k_dflt (refine' item_at ?k1 ?_ ?k2 ?k3; (case k1 => assumption); (case k2 => with_unfolding_all rfl); (case k3 => intro _; with_unfolding_all rfl)); intro _ _)
  k_with "binaryOp Add int int" => (k_here; refine addI ?_; intro _ _)
  k_with "binaryOp Sub int int" => (k_here; refine subI ?_; intro _ _)
  k_with "compareOp In str str" => (k_here; refine in_is (by assumption) ?_)
  k_with "compareOp NotIn str str" => (k_here; refine notin_is (by assumption) ?_)
  k_with "compareOp Eq str str" => (k_here; refine eqs_is (by assumption) ?_)
  k_with "compareOp NotEq str str" => (k_here; refine nes_is (by assumption) ?_)
  k_with "binaryOp FloorDiv int int" => (k_here; refine fdivI (by omega) (by omega) ?_; intro _ _)
  k_with "binaryOp Mod int int" => (k_here; refine fmodI (by omega) ?_; intro _ _)
  k_with "compareOp Eq int int" => (k_here; refine eqi_is (by assumption) ?_)
  k_with "compareOp In str ref" => (k_here; k_dflt (refine' in_two ?k1 ?k2 ?_; (case k1 => exact (News.get (by k_asm) (by k_mem))); (case k2 => assumption)))
  k_with "compareOp NotIn str ref" => (k_here; k_dflt (refine' notin_two ?k1 ?k2 ?_; (case k1 => exact (News.get (by k_asm) (by k_mem))); (case k2 => assumption)))
  k_with "subscriptTail Name Slice str ref" => (k_here; (with_reducible show wpAny _ _ (subscriptTail _ (Expr.Slice (some _) (some _) none _) _ _) _ _ _); (with_reducible rename Fr _ _ _ _ => F'); (with_reducible rename News _ _ _ _ => N'); (refine slice_strN_ss (hsz := ?hsz) (s := ⟨_, _, _, _, _⟩) F' N' ?_); (case hsz => (have h9 := (‹At _ _ _›).small; rw [PySem.sizeLine_eq]; omega)); intro _ _ _ _ _; (try k_sweep))
  k_with "subscriptTail Attribute Slice str ref" => (k_here; (with_reducible show wpAny _ _ (subscriptTail _ (Expr.Slice (some _) (some _) none _) _ _) _ _ _); (with_reducible rename Fr _ _ _ _ => F'); (with_reducible rename News _ _ _ _ => N'); (refine slice_strN_ss (hsz := ?hsz) (s := ⟨_, _, _, _, _⟩) F' N' ?_); (case hsz => (have h9 := (‹At _ _ _›).small; rw [PySem.sizeLine_eq]; omega)); intro _ _ _ _ _; (try k_sweep))
  k_with "call ref" => (k_here; (with_reducible show wpAny _ _ (call (Value.ref 283) _) _ _ _); refine Halt.out ?_)
  k_with "call ref" => (k_here; (with_reducible show wpAny _ _ (call (Value.ref 290) _) _ _ _); refine Halt.out ?_)
  k_with "call ref" => (k_here; (with_reducible show wpAny _ _ (call (Value.ref 297) _) _ _ _); refine Halt.out ?_)
  k_with "call ref" => (k_here; (with_reducible show wpAny _ _ (call (Value.ref 304) _) _ _ _); refine Halt.out ?_)
  k_with "call ref" => (k_here; (with_reducible show wpAny _ _ (call (Value.ref 311) _) _ _ _); refine Halt.out ?_)
  k_with "call ref" => (k_here; (with_reducible show wpAny _ _ (call (Value.ref 318) _) _ _ _); refine Halt.out ?_)
  k_with "call ref" => (k_here; (with_reducible show wpAny _ _ (call (Value.ref 325) _) _ _ _); refine Halt.out ?_)
  k_with "call ref" => (k_here; (with_reducible show wpAny _ _ (call (Value.ref 332) _) _ _ _); refine Halt.out ?_)
  k_with "subscriptTail" => (k_here; (with_reducible rename Stop 9 => stop9); clear stop9; refine Halt.out ?_)
  k_with "subscriptTail List Slice" => (k_here; (with_reducible rename Stop 9 => stop9); clear stop9; refine Halt.out ?_)
  k_with "subscriptTail List Slice ref ref" => (k_here; (with_reducible rename Stop 9 => stop9); clear stop9; refine Halt.out ?_)
  k_with "compareOp NotEq ref ref" => (k_here; (with_reducible rename Stop 17 => stop9); clear stop9; refine Halt.out ?_)
  k_with "compareOp Eq ref ref" => (k_here; (with_reducible rename Stop 8 => stop9); clear stop9; refine Halt.out ?_)
  k_with "eval IfExp" => (k_here; (with_reducible rename Stop 2 => stop9); clear stop9; refine Halt.out ?_)
  k_with "binaryOp Add str str" => (k_here; refine addT (by simp only [PySem.Str.length_append]; omega) ?_; intro _ _)
  k_with "binaryOp Add ref ref" => (k_here; (with_reducible show wpAny _ _ (binaryOp _ (Value.ref _) (Value.ref _)) _ _ _); k_dflt (refine' cat_is ?k1 ?k2 ?k3 ?k4 ?k5 ?_; (case k1 => k_asm); (case k2 => k_asm); (case k3 => k_mem); (case k4 => k_mem); (case k5 => first | assumption | omega | (simp only [List.length_cons, List.length_nil]; omega)); k_whole); intro d9 h9 F9 N9 l9; (try simp only [AllLt] at l9); (try k_sweep))
  k_with "call ref" => (k_here; (with_reducible show wpAny _ _ (call (Value.ref 290) _) _ _ _); k_dflt (refine' take_spec ?k1 ?k2 ?k3 ?k4 ?k5 ?kK ?kd ?ku ?x0 ?x1 ?x2 ?_; (case k1 => k_asm); (case k2 => k_asm); (case k3 => k_asm); (case k4 => first | k_asm | exact News.s1 (by k_asm) | exact News.s2 (by k_asm) | exact News.s3 (by k_asm)); (case k5 => k_asm); (case kK => first | exact rfl | assumption); (case kd => (first | exact rm2 (by assumption) (by exact rfl) | exact rm1 (by assumption) (by exact rfl) | exact rm3 (by assumption) (by exact rfl) | exact rm0 (by assumption) | ktr_room)); (case ku => (first | exact rm2 (by assumption) (by exact rfl) | exact rm1 (by assumption) (by exact rfl) | exact rm3 (by assumption) (by exact rfl) | exact rm0 (by assumption) | ktr_units)); (case x0 => first | assumption | k_ne | ((repeat (refine ne_cons' (by omega) ?_)); assumption)); (case x1 => assumption); (case x2 => first | assumption | exact ⟨by decide, by decide⟩); k_whole); intro v9 a9 b9 u9 u8 u7 h9 tk9 P9 S9 F9 N9; (try k_sweep))
  k_with "call type:list" => (k_here; (with_reducible show wpAny _ _ (call (Value.type _) [Value.ref _]) _ _ _); k_dflt (refine' list_is ?k1 ?k2 ?k3 ?k4 ?_; (case k1 => k_asm); (case k2 => k_asm); (case k3 => k_mem); (case k4 => assumption); k_whole); intro d9 c9 h9 F9 N9 l9; (try k_sweep))
  k_with "exec For Name Call cons nil" => (k_here; (with_reducible show wpAny _ _ (exec (Stmt.For _ _ _ [] _) _) _ _ _); (rename Fr _ _ _ _ => lF'); (with_unfolding_all refine' For_invVF lF' ?k1 ?k2 ?_; (case k1 => exact rfl); (case k2 => exact rfl); k_whole))
  k_with "pyIter ref" => refine Halt.out ?_
  trivial
theorem law_holds : PySem.Challenge.rw_xm0731_01.Holds := hd (by
  k_go0
  all_goals (try k_fold)
  (with_reducible rename Fr _ _ _ _ => F0)
  refine law_mono F0 ?_ ?_
  rotate_left
  · rintro f s' ⟨rfl, h9, tk9, L9, m9, rfl, F9⟩
    clear F0
    dsimp only
    k_steps
  k_steps
  refine Halt.mk ?_
  (with_reducible rename Fr _ _ _ _ => F2); (with_reducible rename News _ _ _ _ => N2)
  replace F2 := fr_of1 (k := Str.ofString "script") F2
  (with_reducible rename Frag.In _ _ => X1)
  (with_reducible rename Top _ _ _ _ _ _ => T1)
  (with_reducible rename Heap.IsList _ _ _ => HL)
  (with_reducible rename IntsAre _ _ => HI)
  rw [loose_is] at T1
  have B1 := below_of F2
  obtain ⟨k1, hC1⟩ := first_cmd
  k_dflt (refine' lread_spec (ds := []) (es := firstE) ?k1 ?k2 ?k3 ?k4 ?k5 ?kK ?k6 ?k7 ?x0 ?x1 ?x2 ?x3 ?x4 ?kd ?ku ?_; (case k1 => exact B1); (case k2 => exact F2); (case k3 => exact X1); (case k4 => exact N2); (case k5 => exact T1); (case kK => exact rfl); (case k6 => exact X1); (case k7 => exact T1); (case x0 => exact at0 (by decide +kernel) (by decide +kernel)); (case x1 => exact hC1); (case x2 => exact .nil); (case x3 => exact fun _ h => nomatch h); (case x4 => decide); (case kd => (first | exact rm2 (by assumption) (by exact rfl) | exact rm1 (by assumption) (by exact rfl) | exact rm3 (by assumption) (by exact rfl) | exact rm0 (by assumption) | ktr_room)); (case ku => (first | exact rm2 (by assumption) (by exact rfl) | exact rm1 (by assumption) (by exact rfl) | exact rm3 (by assumption) (by exact rfl) | exact rm0 (by assumption) | ktr_units)); k_whole)
  intro D fa p1 tq1 pl1 vs1 nn1 tl1 h1 tk1 F3 N3 D3 sub3 ok3 A3 hpl
  rcases hpl with ⟨_, rfl⟩ | ⟨h, _⟩
  rotate_left
  · cases h
  have hp1 : p1 = 8 := A3.eq.trans (by decide +kernel)
  subst hp1
  have st7 : Stop 17 := trivial
  clear F2 N2
  k_steps
  refine Halt.mk ?_
  (with_reducible rename Fr _ _ _ _ => F2); (with_reducible rename News _ _ _ _ => N2)
  refine dat_ne (d := .tuple [.list (firstE.map entD), .none, .int 8]) N2 (.tuple (by k_mem) (.cons (.list (by k_mem) (DatAll.mono (fun q hq => by simp only [List.mem_cons]; simp [hq]) D3)) (.cons .none (.cons (.int _ _) .nil))))
    (.tuple (.head _) (.cons (.list (by k_mem) (.cons (.tuple (by k_mem) (.cons (datStr (by decide +kernel)) (.cons (.tuple (by k_mem) (.cons (.tuple (by k_mem) (.cons (.int _ _) (.cons (.int _ _) .nil))) (.cons (.tuple (by k_mem) (.cons (.int _ _) (.cons (.int _ _) .nil))) .nil))) .nil)))
      (.cons (.tuple (by k_mem) (.cons (datStr (by decide +kernel)) (.cons (.tuple (by k_mem) (.cons (.tuple (by k_mem) (.cons (.int _ _) (.cons (.int _ _) .nil))) (.cons (.tuple (by k_mem) (.cons (.int _ _) (.cons (.int _ _) .nil))) .nil))) .nil))) .nil))) (.cons .none (.cons (.int _ _) .nil)))) (by decide +kernel) (by first | ke_room | (first | exact rm2 (by assumption) (by exact rfl) | exact rm1 (by assumption) (by exact rfl) | exact rm3 (by assumption) (by exact rfl) | exact rm0 (by assumption) | ktr_units)) ?_
  replace N2 := News.sub (news := []) N2 (fun p hp => nomatch hp)
  clear D3 sub3 ok3 A3
  k_steps
  refine Halt.mk ?_
  (with_reducible rename Fr _ _ _ _ => F2); (with_reducible rename News _ _ _ _ => N2)
  k_dflt (refine' pool_spec ?k1 ?k2 ?k3 ?k4 ?k5 ?kK ?kd ?ku ?x0 ?x1 ?x2 ?_; (case k1 => exact B1); (case k2 => exact F2); (case k3 => exact X1); (case k4 => exact N2); (case k5 => exact T1); (case kK => exact rfl); (case kd => (first | exact rm2 (by assumption) (by exact rfl) | exact rm1 (by assumption) (by exact rfl) | exact rm3 (by assumption) (by exact rfl) | exact rm0 (by assumption) | ktr_room)); (case ku => (first | exact rm2 (by assumption) (by exact rfl) | exact rm1 (by assumption) (by exact rfl) | exact rm3 (by assumption) (by exact rfl) | exact rm0 (by assumption) | ktr_units)); (case x0 => exact HL); (case x1 => exact HI); (case x2 => omega); k_whole)
  intro so a0 b0 ta0 tb0 nn0 h2 tk2 S0 F4 N4 l4
  clear F2 N2
  k_steps
  refine Halt.mk ?_
  (with_reducible rename Fr _ _ _ _ => F2); (with_reducible rename News _ _ _ _ => N2)
  replace N2 := News.nth N2 7 rfl
  dsimp only [List.eraseIdx] at N2
  k_dflt (refine' take_spec ?k1 ?k2 ?k3 ?k4 ?k5 ?kK ?kd ?ku ?x0 ?x1 ?x2 ?_; (case k1 => exact B1); (case k2 => exact F2); (case k3 => exact X1); (case k4 => exact N2); (case k5 => exact T1); (case kK => exact rfl); (case kd => (first | exact rm2 (by assumption) (by exact rfl) | exact rm1 (by assumption) (by exact rfl) | exact rm3 (by assumption) (by exact rfl) | exact rm0 (by assumption) | ktr_room)); (case ku => (first | exact rm2 (by assumption) (by exact rfl) | exact rm1 (by assumption) (by exact rfl) | exact rm3 (by assumption) (by exact rfl) | exact rm0 (by assumption) | ktr_units)); (case x0 => (repeat (refine ne_cons' (by first | exact lt_1 (by assumption) (by k_mem) | omega) ?_)); first | assumption | exact fun _ h => nomatch h); (case x1 => exact S0); (case x2 => exact ⟨by decide, by decide⟩); k_whole)
  intro v1 a1 b1 tv1 ta1 tb1 h3 tk3 P1 S1 F5 N5
  clear F2 N2
  have st9 : Stop 9 := trivial
  k_steps
  refine Halt.mk ?_
  (with_reducible rename Fr _ _ _ _ => F2); (with_reducible rename News _ _ _ _ => N2)
  (with_reducible show wpAny _ _ (subscriptTail _ (PySem.Expr.Slice _ _ none _) (Value.ref _) (Value.ref _)) _ _ _)
  refine kba_turn (value' := PySem.Expr.Name (PySem.Str.ofString "_") ⟨0, 0, 0, 0⟩) (fun _ => rfl) ?_
  k_dflt (refine' slice_up F2 N2 (.tail _ (.head _)) P1.1 (by simp) ?_ ?s ?t; (case s => with_unfolding_all rfl); (case t => (intro _; with_unfolding_all rfl)))
  intro ah h4 F6 N6 l6
  obtain ⟨R, N7, DA, ne7⟩ := pack N6 (dat_take (ds := aheadD) _ (.cons (.tuple (by k_mem) (.cons (datStr (by decide +kernel)) (.cons (.tuple (by k_mem) (.cons (.tuple (by k_mem) (.cons (.int _ _) (.cons (.int _ _) .nil))) (.cons (.tuple (by k_mem) (.cons (.int _ _) (.cons (.int _ _) .nil))) .nil))) .nil))) (.cons (.tuple (by k_mem) (.cons (datStr (by decide +kernel)) (.cons (.tuple (by k_mem) .nil) .nil))) .nil))) (by simp only [AllLt] at l6; (repeat (refine ne_cons' (by first | exact lt_1 (by assumption) (by k_mem) | omega) ?_)); first | assumption | exact fun _ h => nomatch h) (by simp only [AllLt] at l6; omega)
  generalize hvs : List.take v1.toNat _ = vsA at N7 DA ne7
  have hok := ahead_ok (n := v1.toNat)
  generalize hds : List.take v1.toNat aheadD = dsA at DA hok
  clear N6 l6 F2 N2 hvs hds
  have hvA : vsA.length < 1000 := by have := DA.length; have := hok.1; omega
  k_steps
  refine Halt.mk ?_
  (with_reducible rename Fr _ _ _ _ => F2); (with_reducible rename News _ _ _ _ => N2)
  replace N2 := News.s1 N2
  k_dflt (refine' one_list (P := AmongS bl0) ?k1 ?k2 ?k3 ?k4 ?k5 ?kK ?kd ?ku ?x0 ?x1 ?x2 ?x3 ?_; (case k1 => exact B1); (case k2 => exact F2); (case k3 => exact X1); (case k4 => exact N2); (case k5 => exact T1); (case kK => exact rfl); (case kd => (first | exact rm2 (by assumption) (by exact rfl) | exact rm1 (by assumption) (by exact rfl) | exact rm3 (by assumption) (by exact rfl) | exact rm0 (by assumption) | ktr_room)); (case ku => (first | exact rm2 (by assumption) (by exact rfl) | exact rm1 (by assumption) (by exact rfl) | exact rm3 (by assumption) (by exact rfl) | exact rm0 (by assumption) | ktr_units)); (case x0 => (repeat (refine ne_cons' (by first | exact lt_1 (by assumption) (by k_mem) | omega) ?_)); first | assumption | exact fun _ h => nomatch h); (case x1 => exact S1); (case x2 => exact ⟨by simp, by simp⟩); (case x3 => (intro v hv; simp only [List.mem_cons, List.not_mem_nil, or_false] at hv; rcases hv with rfl | rfl | rfl; all_goals exact ⟨_, _, rfl, by simp⟩)); k_whole)
  rintro v a2 b2 ta2 tb2 h5 tk5 ⟨Y0, tY0, rfl, hY0⟩ S2 F8 N8
  replace N8 := drop2 N8
  clear F2 N2
  k_steps
  refine Halt.mk ?_
  (with_reducible rename Fr _ _ _ _ => F2); (with_reducible rename News _ _ _ _ => N2)
  have N3 := law_pack2 N2 (by assumption) ne7
  obtain ⟨N3, ne8⟩ := N3
  k_dflt (refine' take_spec ?k1 ?k2 ?k3 ?k4 ?k5 ?kK ?kd ?ku ?x0 ?x1 ?x2 ?_; (case k1 => exact B1); (case k2 => exact F2); (case k3 => exact X1); (case k4 => exact N3); (case k5 => exact T1); (case kK => exact rfl); (case kd => (first | exact rm2 (by assumption) (by exact rfl) | exact rm1 (by assumption) (by exact rfl) | exact rm3 (by assumption) (by exact rfl) | exact rm0 (by assumption) | ktr_room)); (case ku => (first | exact rm2 (by assumption) (by exact rfl) | exact rm1 (by assumption) (by exact rfl) | exact rm3 (by assumption) (by exact rfl) | exact rm0 (by assumption) | ktr_units)); (case x0 => exact ne8); (case x1 => exact S2); (case x2 => exact ⟨by decide, by decide⟩); k_whole)
  intro v2 a3 b3 tv3 ta3 tb3 h6 tk6 P2 S3 F9 N9
  clear F2 N2 N3
  k_steps
  refine Halt.mk ?_
  (with_reducible rename IsRange _ _ _ _ _ _ _ _ => R2)
  (with_reducible rename Fr _ _ _ _ => F2); (with_reducible rename News _ _ _ _ => N2)
  obtain ⟨kk, hkk⟩ : ∃ kk : Nat, (kk : Int) = 1 + v2 := ⟨(1 + v2).toNat, by have := P2.1; omega⟩
  have hk9 : Few (1 + v2) := ⟨by have := P2.1; omega, by have := P2.2; omega⟩
  have hkk4 : kk < 4 ∧ 0 < kk := ⟨by have := P2.2; omega, by have := P2.1; omega⟩
  have hsm := range_small hk9
  have hrs : Builtin.Range.rangeSize 0 (1 + v2) 1 = (kk : Int) := by rw [range_size hk9]; exact hkk.symm
  with_reducible show wpAny _ _ (pyIter (Value.ref _)) (fun it s₂ => LoopAtV _ _ _ _ _ _ _ _ _ it s₂) _ _
  refine iter_rangeUnr (n := kk) rfl R2 hsm hrs F2 N2 fun I hI => ?_
  refine range_rest (LawJ I so ah nn0 0 vsA dsA kk) ?_ ?_ kk 0 _ _ (by omega) ?_
  rotate_left 2
  · exact ⟨a3, b3, ta3, tb3, tY0, _, _, _, R, [], Y0, rfl, S3, by omega, DA, (by simpa using DA), ne8, fun q hq => Nat.ne_of_lt (hI q hq), .nil Y0 hY0, rfl, rfl, rfl, rfl⟩
  · rintro i m3 nx h3 tk3 ⟨sa4, sb4, ta4, tb4, tY4, du, vsD, nD, R4, es4, Y4, rfl, S4, hik, DA4, DD4, ne4, off4, hY4, u1, u2, u3, u4⟩ F3 N3
    clear F2 N2
    have hF4 := hY4.facts
    have hemp := hF4.emp (by omega)
    have okD : ∀ d ∈ dsA ++ es4.map entD, kqdOk 8 d = true := fun d hd => (List.mem_append.mp hd).elim (hok.2 d) (hF4.ok d)
    have hfew := hF4.few
    have hl4 := hF4.len
    obtain ⟨ly, hly⟩ : ∃ ly : Int, (Y4.length : Int) = ly := ⟨_, rfl⟩
    obtain ⟨k4, hC4⟩ := hY4.cmd (rr := []) (k := 0) (es' := []) (ok := true) (rf := []) (.inl rfl) (.done rfl)
    rw [List.append_nil, List.append_nil] at hC4
    k_steps
    refine Halt.mk ?_
    (with_reducible rename Fr _ _ _ _ => F2); (with_reducible rename News _ _ _ _ => N2)
    replace N2 := News.s1 N2
    k_dflt (refine' lread_spec (ds := dsA) (es := es4) ?k1 ?k2 ?k3 ?k4 ?k5 ?kK ?k6 ?k7 ?x0 ?x1 ?x2 ?x3 ?x4 ?kd ?ku ?_; (case k1 => exact B1); (case k2 => exact F2); (case k3 => exact X1); (case k4 => exact N2); (case k5 => exact T1); (case kK => exact rfl); (case k6 => exact X1); (case k7 => exact T1); (case x0 => exact at0 (by omega) hF4.asc); (case x1 => exact hC4); (case x2 => exact DatAll.mono (fun q hq => .tail _ (.tail _ hq)) DA4); (case x3 => exact hok.2); (case x4 => omega); (case kd => (first | exact rm2 (by assumption) (by exact rfl) | exact rm1 (by assumption) (by exact rfl) | exact rm3 (by assumption) (by exact rfl) | exact rm0 (by assumption) | ktr_room)); (case ku => (first | exact rm2 (by assumption) (by exact rfl) | exact rm1 (by assumption) (by exact rfl) | exact rm3 (by assumption) (by exact rfl) | exact rm0 (by assumption) | ktr_units)); k_whole)
    intro D5 fa5 p5 tq5 pl5 vs5 nn5 tl5 h5 tk5 F5 N5 D5' sub5 ok5 A5 hpl5
    rcases hpl5 with ⟨_, rfl⟩ | ⟨h, _⟩
    rotate_left
    · cases h
    have hp5 : p5 = ly := A5.eq.trans hly
    subst hp5
    have st7 : Stop 17 := trivial
    clear F2 N2
    k_steps
    refine Halt.mk ?_
    (with_reducible rename Fr _ _ _ _ => F2); (with_reducible rename News _ _ _ _ => N2)
    refine dat_ne (d := .tuple [.list (dsA ++ es4.map entD), .none, .int p5]) N2 (.tuple (by k_mem) (.cons (.list (by k_mem) (DatAll.mono (fun q hq => by simp only [List.mem_cons]; simp [hq]) D5')) (.cons .none (.cons (.int _ _) .nil))))
      (.tuple (.head _) (.cons (.list (.tail _ (.tail _ (.tail _ (sub5 _ (.tail _ (.tail _ (.head _))))))) (DatAll.mono (fun q hq => .tail _ (.tail _ (.tail _ (sub5 _ (.tail _ (.tail _ (.tail _ hq))))))) DD4)) (.cons .none (.cons (.int _ _) .nil)))) (kq_res okD) (by first | ke_room | (first | exact rm2 (by assumption) (by exact rfl) | exact rm1 (by assumption) (by exact rfl) | exact rm3 (by assumption) (by exact rfl) | exact rm0 (by assumption) | ktr_units)) ?_
    replace N2 := News.s1 (News.sub (news := (ah, W.listOf vsA.toArray 0) :: (so, W.listOf [Value.int sa4 ta4, Value.int sb4 tb4].toArray nn0) :: (du, W.listOf vsD.toArray nD) :: R4) N2 (fun p hp => .tail _ (.tail _ (.tail _ (sub5 p hp)))))
    clear D5' sub5 ok5 A5
    k_steps
    refine Halt.mk ?_
    (with_reducible rename Fr _ _ _ _ => F2); (with_reducible rename News _ _ _ _ => N2)
    k_dflt (refine' lend_spec ?k1 ?k2 ?k3 ?k4 ?k5 ?kK ?kd ?ku ?x0 ?x1 ?_; (case k1 => exact B1); (case k2 => exact F2); (case k3 => exact X1); (case k4 => exact N2); (case k5 => exact T1); (case kK => exact rfl); (case kd => (first | exact rm2 (by assumption) (by exact rfl) | exact rm1 (by assumption) (by exact rfl) | exact rm3 (by assumption) (by exact rfl) | exact rm0 (by assumption) | ktr_room)); (case ku => (first | exact rm2 (by assumption) (by exact rfl) | exact rm1 (by assumption) (by exact rfl) | exact rm3 (by assumption) (by exact rfl) | exact rm0 (by assumption) | ktr_units)); (case x0 => exact ne4); (case x1 => exact S4); k_whole)
    intro d6 kl6 y6 pl6 a6 b6 ty6 tp6 ta6 tb6 es6 vs6 n6 tl6 h6 tk6 hE6 D6 sub6 S6 F6 N6 ne6
    have hE := end_f hE6
    have hy6 := hE.len
    have hf6 := hE.few
    have hn6 := hE.nn
    have hcat : vsD.length + vs6.length < 1000 := by
      have q1 := DD4.length
      have q2 := D6.length
      have q5 := hok.1
      simp only [List.length_append, List.length_map] at q1 q2
      omega
    obtain ⟨ke, rfe, hCe, hle⟩ := hE.cmd
    obtain ⟨k7, hC7⟩ := hY4.cmd (rr := y6.cps.toList) (k := ke) hE.good (by rw [hemp, Bool.and_false]; exact hCe)
    rw [← cps_app] at hC7
    replace N6 := law_re2 N6 sub6
    clear F2 N2
    k_steps
    refine Halt.mk ?_
    (with_reducible rename Fr _ _ _ _ => F2); (with_reducible rename News _ _ _ _ => N2)
    replace N2 := News.nth N2 3 rfl
    dsimp only [List.eraseIdx] at N2
    k_dflt (refine' lread_spec (ds := dsA) (es := es4 ++ es6) ?k1 ?k2 ?k3 ?k4 ?k5 ?kK ?k6 ?k7 ?x0 ?x1 ?x2 ?x3 ?x4 ?kd ?ku ?_; (case k1 => exact B1); (case k2 => exact F2); (case k3 => exact X1); (case k4 => exact N2); (case k5 => exact T1); (case kK => exact rfl); (case k6 => exact X1); (case k7 => exact T1); (case x0 => exact at0 (by rw [PySem.Str.length_append]; omega) (app128 hF4.asc hE.asc)); (case x1 => exact hC7); (case x2 => exact DatAll.mono (fun q hq => .tail _ (.tail _ (.tail _ (.tail _ (sub6 _ (.tail _ (.tail _ hq))))))) DA4); (case x3 => exact hok.2); (case x4 => (rw [List.length_append]; omega)); (case kd => (first | exact rm2 (by assumption) (by exact rfl) | exact rm1 (by assumption) (by exact rfl) | exact rm3 (by assumption) (by exact rfl) | exact rm0 (by assumption) | ktr_room)); (case ku => (first | exact rm2 (by assumption) (by exact rfl) | exact rm1 (by assumption) (by exact rfl) | exact rm3 (by assumption) (by exact rfl) | exact rm0 (by assumption) | ktr_units)); k_whole)
    intro D7 fa7 p7 tq7 pl7 vs7 nn7 tl7 h7 tk7 F7 N7 D7' sub7 ok7 A7 hpl7
    rcases hpl7 with ⟨h, _⟩ | ⟨_, tp7, rfl⟩
    · cases h
    have hp7 : p7 = p5 + pl6 := by
      have q1 := A7.len
      rw [PySem.Str.length_append] at q1
      push_cast at q1
      omega
    subst hp7
    have w6 : ∀ q ∈ tl6, q ∈ tl7 := fun q hq => sub7 q (.tail _ (.tail _ (.tail _ (.tail _ (.tail _ hq)))))
    have w4 : ∀ q ∈ R4, q ∈ tl7 := fun q hq => w6 q (sub6 q (.tail _ (.tail _ hq)))
    have wS := sub7 _ (.tail _ (.head _))
    replace N7 := law_re3 N7 (sub7 _ (.tail _ (.tail _ (.tail _ (.tail _ (.head _)))))) (sub7 _ (.tail _ (.tail _ (.tail _ (.head _)))))
    have st7 : Stop 17 := trivial
    clear F2 N2
    k_steps
    refine Halt.mk ?_
    (with_reducible rename Fr _ _ _ _ => F2); (with_reducible rename News _ _ _ _ => N2)
    refine dat_ne (d := .tuple [.list (dsA ++ (es4 ++ es6).map entD), .int (p5 + pl6), .int (p5 + pl6)]) N2 (.tuple (by k_mem) (.cons (.list (by k_mem) (DatAll.mono (fun q hq => by simp only [List.mem_cons]; simp [hq]) D7')) (.cons (.int _ _) (.cons (.int _ _) .nil))))
      (.tuple (.head _) (.cons (.list (.tail _ (.head _)) (cat_dat (fun q hq => t6 (w4 q hq)) (fun q hq => t6 (w6 q hq)) DD4 D6)) (.cons (.int _ _) (.cons (.int _ _) .nil)))) (kq_res2 ok7) (by first | ke_room | (first | exact rm2 (by assumption) (by exact rfl) | exact rm1 (by assumption) (by exact rfl) | exact rm3 (by assumption) (by exact rfl) | exact rm0 (by assumption) | ktr_units)) ?_
    replace N2 := News.sub (news := (so, W.listOf [Value.int a6 ta6, Value.int b6 tb6].toArray nn0) :: []) N2 (fun p hp => by rw [List.mem_singleton.mp hp]; exact t6 wS)
    clear D7' sub7 ok7 A7
    k_steps
    refine Halt.mk ?_
    (with_reducible rename Fr _ _ _ _ => F2); (with_reducible rename News _ _ _ _ => N2)
    replace N2 := News.s1 N2
    k_dflt (refine' one_list (P := AmongS bl1) ?k1 ?k2 ?k3 ?k4 ?k5 ?kK ?kd ?ku ?x0 ?x1 ?x2 ?x3 ?_; (case k1 => exact B1); (case k2 => exact F2); (case k3 => exact X1); (case k4 => exact N2); (case k5 => exact T1); (case kK => exact rfl); (case kd => (first | exact rm2 (by assumption) (by exact rfl) | exact rm1 (by assumption) (by exact rfl) | exact rm3 (by assumption) (by exact rfl) | exact rm0 (by assumption) | ktr_room)); (case ku => (first | exact rm2 (by assumption) (by exact rfl) | exact rm1 (by assumption) (by exact rfl) | exact rm3 (by assumption) (by exact rfl) | exact rm0 (by assumption) | ktr_units)); (case x0 => (repeat (refine ne_cons' (by first | exact lt_1 (by assumption) (by k_mem) | omega) ?_)); first | assumption | exact fun _ h => nomatch h); (case x1 => exact S6); (case x2 => exact ⟨by simp, by simp⟩); (case x3 => (intro v hv; simp only [List.mem_cons, List.not_mem_nil, or_false] at hv; rcases hv with rfl | rfl | rfl; all_goals exact ⟨_, _, rfl, by simp⟩)); k_whole)
    rintro v a8 b8 ta8 tb8 h8 tk8 ⟨bl, tbl, rfl, hbl⟩ S8 F8 N8
    replace N8 := drop2 N8
    have hbl' := bl1_bl hbl
    have hbl2 := hbl'.2
    obtain ⟨lb, hlb⟩ : ∃ lb : Int, (bl.length : Int) = lb := ⟨_, rfl⟩
    clear F2 N2
    k_steps
    refine Halt.mk ?_
    (with_reducible rename Fr _ _ _ _ => F2); (with_reducible rename News _ _ _ _ => N2)
    k_dflt (refine' one_str ?k1 ?k2 ?k3 ?k4 ?k5 ?kK ?kd ?ku ?x0 ?x1 ?x2 ?x3 ?_; (case k1 => exact B1); (case k2 => exact F2); (case k3 => exact X1); (case k4 => exact N2); (case k5 => exact T1); (case kK => exact rfl); (case kd => (first | exact rm2 (by assumption) (by exact rfl) | exact rm1 (by assumption) (by exact rfl) | exact rm3 (by assumption) (by exact rfl) | exact rm0 (by assumption) | ktr_room)); (case ku => (first | exact rm2 (by assumption) (by exact rfl) | exact rm1 (by assumption) (by exact rfl) | exact rm3 (by assumption) (by exact rfl) | exact rm0 (by assumption) | ktr_units)); (case x0 => exact fun _ h => nomatch h); (case x1 => exact S8); (case x2 => exact last_lets.2); (case x3 => exact ⟨by decide, by decide⟩); k_whole)
    intro c tc a9 b9 ta9 tb9 h9 tk9 hc S9 F9 N9
    have hcl := last_lets.1 c hc
    have hc1 : (⟨#[c]⟩ : Str).length = 1 := rfl
    have h12 : (Str.ofString "1 2").length = 3 := by decide +kernel
    obtain ⟨k9, hC9⟩ := last_cmd (r := [49, 32, 50]) hbl'.1 hcl.1 hcl.2
    rw [← last_text] at hC9
    clear F2 N2
    k_steps
    refine Halt.mk ?_
    (with_reducible rename Fr _ _ _ _ => F2); (with_reducible rename News _ _ _ _ => N2)
    k_dflt (refine' lread_spec (ds := []) (es := []) ?k1 ?k2 ?k3 ?k4 ?k5 ?kK ?k6 ?k7 ?x0 ?x1 ?x2 ?x3 ?x4 ?kd ?ku ?_; (case k1 => exact B1); (case k2 => exact F2); (case k3 => exact X1); (case k4 => exact N2); (case k5 => exact T1); (case kK => exact rfl); (case k6 => exact X1); (case k7 => exact T1); (case x0 => exact at0 (by simp only [PySem.Str.length_append]; omega) (app128 (app128 (bl_128 hbl'.1) (one128 hcl.1)) (by decide +kernel))); (case x1 => exact hC9); (case x2 => exact .nil); (case x3 => exact fun _ h => nomatch h); (case x4 => decide); (case kd => (first | exact rm2 (by assumption) (by exact rfl) | exact rm1 (by assumption) (by exact rfl) | exact rm3 (by assumption) (by exact rfl) | exact rm0 (by assumption) | ktr_room)); (case ku => (first | exact rm2 (by assumption) (by exact rfl) | exact rm1 (by assumption) (by exact rfl) | exact rm3 (by assumption) (by exact rfl) | exact rm0 (by assumption) | ktr_units)); k_whole)
    intro D9 fa9 p9 tq9 pl9 vs9 nn9 tl9 h10 tk10 F10 N10 D9' sub9 ok9 A9 hpl9
    rcases hpl9 with ⟨h, _⟩ | ⟨_, tp9, rfl⟩
    · cases h
    have hp9 : p9 = lb := by
      have q1 := A9.len
      simp only [PySem.Str.length_append, List.length_cons, List.length_nil] at q1
      omega
    subst hp9
    have st8 : Stop 8 := trivial
    clear F2 N2
    k_steps
    refine Halt.mk ?_
    (with_reducible rename Fr _ _ _ _ => F2); (with_reducible rename News _ _ _ _ => N2)
    refine dat_eq (d := .tuple [.list [], .int p9, .int p9]) N2 (.tuple (by k_mem) (.cons (.list (by k_mem) (DatAll.mono (fun q hq => by simp only [List.mem_cons]; simp [hq]) D9')) (.cons (.int _ _) (.cons (.int _ _) .nil))))
      (.tuple (.head _) (.cons (.list (vs := []) (.tail _ (.head _)) .nil) (.cons (.int _ _) (.cons (.int _ _) .nil)))) (by rfl) (by first | ke_room | (first | exact rm2 (by assumption) (by exact rfl) | exact rm1 (by assumption) (by exact rfl) | exact rm3 (by assumption) (by exact rfl) | exact rm0 (by assumption) | ktr_units)) ?_
    k_steps
    exact ⟨rfl, _, _, _, _, rfl, by assumption⟩
  · rintro k i m3 nx t3 h3 tk3 hik2 ⟨sa4, sb4, ta4, tb4, tY4, du, vsD, nD, R4, es4, Y4, rfl, S4, hik, DA4, DD4, ne4, off4, hY4, u1, u2, u3, u4⟩ F3 N3
    clear F2 N2
    have st2 : Stop 2 := trivial
    have st8 : Stop 8 := trivial
    have hF4 := hY4.facts
    have okD : ∀ d ∈ dsA ++ es4.map entD, kqdOk 8 d = true := fun d hd => (List.mem_append.mp hd).elim (hok.2 d) (hF4.ok d)
    k_steps
    refine Halt.mk ?_
    (with_reducible rename Fr _ _ _ _ => F2); (with_reducible rename News _ _ _ _ => N2)
    refine cutV (fun v => ∃ t y yl, v = .str y t ∧ LetsOK (dsA.isEmpty && es4.isEmpty) y yl) F2 N2 ?_ ?_
    · k_steps
      refine Halt.mk ?_
      (with_reducible rename News _ _ _ _ => N9)
      refine found_nil N9 (by k_mem) DD4 (fun q hq => by simp only [List.mem_cons]; simp [hq]) (.head _) okD emp_and (by first | ke_room | (first | exact rm2 (by assumption) (by exact rfl) | exact rm1 (by assumption) (by exact rfl) | exact rm3 (by assumption) (by exact rfl) | exact rm0 (by assumption) | ktr_units)) ?_
      generalize (dsA.isEmpty && es4.isEmpty) = b9
      cases b9
      · k_steps
        (with_reducible rename News _ _ _ _ => N8)
        exact ⟨_, _, rfl, by assumption, News.tl N8, _, _, 22, rfl, lets_all⟩
      · k_steps
        (with_reducible rename News _ _ _ _ => N8)
        exact ⟨_, _, rfl, by assumption, News.tl N8, _, _, 2, rfl, lets_two⟩
    · rintro v h5 tk5 F5 N5 ⟨ty, y, yl, rfl, hL⟩
      clear F2 N2
      have hsI : so ≠ I := off4 _ (.head _)
      have hs2 : ∀ q ∈ (I, itR (0 + ((i + 1 : Nat) : Int)) ((kk : Int) - ((i + 1 : Nat) : Int))) :: (ah, W.listOf vsA.toArray 0) :: (du, W.listOf vsD.toArray nD) :: R4, q.1 ≠ so := ne_cons' hsI.symm ne4
      k_steps
      refine Halt.mk ?_
      (with_reducible rename Fr _ _ _ _ => F2); (with_reducible rename News _ _ _ _ => N2)
      replace N2 := News.s1 N2
      k_dflt (refine' one_str ?k1 ?k2 ?k3 ?k4 ?k5 ?kK ?kd ?ku ?x0 ?x1 ?x2 ?x3 ?_; (case k1 => exact B1); (case k2 => exact F2); (case k3 => exact X1); (case k4 => exact N2); (case k5 => exact T1); (case kK => exact rfl); (case kd => (first | exact rm2 (by assumption) (by exact rfl) | exact rm1 (by assumption) (by exact rfl) | exact rm3 (by assumption) (by exact rfl) | exact rm0 (by assumption) | ktr_room)); (case ku => (first | exact rm2 (by assumption) (by exact rfl) | exact rm1 (by assumption) (by exact rfl) | exact rm3 (by assumption) (by exact rfl) | exact rm0 (by assumption) | ktr_units)); (case x0 => exact hs2); (case x1 => exact S4); (case x2 => exact hL.2.1); (case x3 => exact hL.2.2); k_whole)
      intro c tc a5 b5 ta5 tb5 h6 tk6 hc S5 F6 N6
      clear F2 N2
      k_steps
      refine Halt.mk ?_
      (with_reducible rename Fr _ _ _ _ => F2); (with_reducible rename News _ _ _ _ => N2)
      k_dflt (refine' lwrit_spec ?k1 ?k2 ?k3 ?k4 ?k5 ?kK ?kd ?ku ?x0 ?x1 ?x2 ?x3 ?_; (case k1 => exact B1); (case k2 => exact F2); (case k3 => exact X1); (case k4 => exact N2); (case k5 => exact T1); (case kK => exact rfl); (case kd => (first | exact rm2 (by assumption) (by exact rfl) | exact rm1 (by assumption) (by exact rfl) | exact rm3 (by assumption) (by exact rfl) | exact rm0 (by assumption) | ktr_room)); (case ku => (first | exact rm2 (by assumption) (by exact rfl) | exact rm1 (by assumption) (by exact rfl) | exact rm3 (by assumption) (by exact rfl) | exact rm0 (by assumption) | ktr_units)); (case x0 => exact hs2); (case x1 => exact S5); (case x2 => exact (hL.1 c hc).1); (case x3 => exact fun hz => let ⟨kk, arc, h, _⟩ := lf_of (hL.1 c hc).1 hz; ⟨kk, arc, h⟩); k_whole)
      intro D rl es1 Y1 vs1 n2 tl a6 b6 ty6 ta6 tb6 h7 tk7 hW hY1 D1 S6 F7 N7 U7
      replace N7 := law_re N7
      have hvD : vsD.length + vs1.length < 1000 := by
        have q1 := DD4.length
        have q2 := D1.length
        have q3 := (writ_few hW).1
        have q4 := hF4.few
        have q5 := hok.1
        simp only [List.length_append, List.length_map] at q1 q2
        omega
      have hlY : Y4.length + Y1.length < 10000 := by have := hF4.len; omega
      clear F2 N2
      k_steps
      (with_reducible rename Fr _ _ _ _ => F9)
      (with_reducible rename News _ _ _ _ => N9)
      (repeat ((with_reducible rename _ ∧ _ => z); (have z1 := z.1); (have z2 := z.2); clear z))
      exact law_turn (QF := fun _ _ => True) F9 N9 ⟨by assumption, by assumption⟩ S6 hik2 DA4 DD4 D1 ne4 hsI (fun q hq => off4 q (.tail _ hq)) (fun q hq => U7 q (.tail _ (.tail _ hq))) hY4 hW hY1 (hL.1 c hc).1 (hL.1 c hc).2 (by exact u1) (by exact u2) (by rfl) (by rfl))
end
end Mine
theorem PySem.Challenge.cw_xm0731_01_holds : PySem.Challenge.rw_xm0731_01.Holds :=
  Mine.law_holds
