import PyProof.Rows.All
import Wide.All
import OpenK.AllK
import Wide.FinOn
import Lean
import PySem.Challenge.RW_pq0218_01
set_option Elab.async false
set_option linter.unusedSimpArgs false
set_option linter.unusedVariables false
set_option maxRecDepth 100000
set_option maxHeartbeats 8000000
set_option exponentiation.threshold 9000
set_option genSizeOf false
set_option genInjectivity false
namespace Mine
open PySem PySem.W PyProof.Rows
/-! the head: the top's run, on trees -/
/-- the text that is looked at: all but the stores of names -/
noncomputable def vw : Program := { PySem.Challenge.pw_pq0218_01 with main := { PySem.Challenge.pw_pq0218_01.main with body := PySem.Challenge.pw_pq0218_01.main.body.filter fun st => match st with | .Assign _ _ _ => false | _ => true } }
noncomputable def xt (s : Shared) : Bool := xlAt vw [] s && recOk [] s
noncomputable def topRunG (good : Thread → Bool) (st : SharedT → Thread → Option (SharedT × Thread)) : Nat → SharedT → Thread → Option SharedT
  | 0, _, _ => none
  | n + 1, s, t => match through t with
    | true => some s
    | false => match good t with
      | false => none
      | true => match st s t with
        | some (s', t') => topRunG good st n s' t'
        | none => none
theorem topRun_of {tb : String → Option Builtin} {p : Program} {w : World} {n₀ : Nat} {ann : Option Value} {n : Nat} {s s' : SharedT} {t : Thread} (h : topRunG (stepOk n₀ ann) (stepT (denote tb) p w) n s t = some s') : topRun tb p w n₀ ann n s.abs t = some s'.abs := by
  induction n generalizing s t with
  | zero => cases h
  | succ n ih =>
    unfold topRunG at h
    unfold topRun
    cases he : through t with
    | true => rw [he] at h; cases h; rfl
    | false =>
      rw [he] at h
      cases hk : stepOk n₀ ann t with
      | false => rw [hk] at h; cases h
      | true =>
        rw [hk] at h
        cases hs : stepT (denote tb) p w s t with
        | none => rw [hs] at h; cases h
        | some r => obtain ⟨s₂, t₂⟩ := r; rw [hs] at h; rw [stepT_spec hs]; exact ih h
/-- the tree of a list -/
noncomputable def grow : BT → Nat → List Obj → BT
  | t, _, [] => t
  | t, n, o :: r => grow (t.ins n o) (n + 1) r
noncomputable def bootN (P : Params) : Nat := (boot_heap P).objs.size
noncomputable def bt (P : Params) : BT := grow .nil 0 (boot_heap P).objs.toList
noncomputable def bl (P : Params) : Life := (boot_heap P).life
noncomputable def s0 (w : World) (os : OsState) : SharedT := ⟨bt w.params, bootN w.params, bl w.params, #[], boot_drawn, boot_toks, os⟩
theorem bt_abs (P : Params) : absHeap (bt P) (bootN P) (bl P) = boot_heap P := by kernel_rfl
theorem ann_none (P : Params) : (boot_heap P).nsMap mainGlobals "__annotations__" = some (.ref 6) := by kernel_rfl
theorem core (w : World) (os : OsState) : ((topRunG (stepOk (bootN w.params) (some (.ref 6))) (stepT (denote treeTable) PySem.Challenge.pw_pq0218_01 w) 3800 (s0 w os) (topStub PySem.Challenge.pw_pq0218_01)).map fun s =>
    (staticsOk (importedModules PySem.Challenge.pw_pq0218_01.main.body) (boot_heap w.params) s.abs.heap && namesBound PySem.Challenge.pw_pq0218_01 s.abs.heap && gensDone s.abs && laidKept (boot_heap w.params) s.abs.heap,
     openSeen vw [] (importedModules PySem.Challenge.pw_pq0218_01.main.body) xt true s.abs)) = some (true, openGood vw []) := by
  rw [PySem.W.Fast.te6613529449190102663, PySem.W.Fast.te10156331382660048174, PySem.W.Fast.te11892475500146522536, PySem.W.Fast.te14364793385576792824]
  kernel_rfl
theorem said : OpenLaw.wellSaid PySem.Challenge.rw_pq0218_01 = true := by
  rw [PySem.W.Fast.te9446332074065402090]
  delta PySem.W.Fast.tw9446332074065402090
  repeat' (with_reducible refine look_both ?_ ?_)
  all_goals (try (delta PySem.W.Fast.tw17960256430627541270; repeat' (with_reducible refine look_both ?_ ?_)))
  all_goals (try (delta PySem.W.Fast.tw2436336058641802641; repeat' (with_reducible refine look_both ?_ ?_)))
  all_goals (try (delta PySem.W.Fast.tw12908688711261696721; repeat' (with_reducible refine look_both ?_ ?_)))
  all_goals decide +kernel
theorem bt_absS (w : World) (os : OsState) : (s0 w os).abs = ⟨boot_heap w.params, #[], boot_drawn, boot_toks, os⟩ := congrArg (fun h => Shared.mk h #[] boot_drawn boot_toks os) (bt_abs w.params)
theorem boot_ns (P : Params) : (boot_heap P).isNs mainGlobals = true := by kernel_rfl
theorem boot_opens : opening PySem.Challenge.pw_pq0218_01 = plainProg PySem.Challenge.pw_pq0218_01.main.scope.names := by kernel_rfl
theorem boot_fence : ∀ s, fenceModules? PySem.Challenge.pw_pq0218_01 s = some s := fun s => by rfl
theorem left_of {p q : Program} {loose : List Str} {Xt : Shared → Bool} {N : Nat} {n₀ : Params → Nat} {ann : Option Value} {S : World → OsState → SharedT} {B : Params → Heap} {dr : Drawn} {tk : Nat}
    (hb : ∀ w : World, (fencedOpening treeTable p w N).map (fun s => (s.heap, s.gens, s.drawn, s.toks)) = some (B w.params, Array.mk [], dr, tk)) (ha : ∀ w os, (S w os).abs = ⟨B w.params, Array.mk [], dr, tk, os⟩)
    (hn : ∀ P, (B P).isNs mainGlobals = true) (hs : ∀ P, (B P).objs.size = n₀ P) (hann : ∀ P, (B P).nsMap mainGlobals "__annotations__" = ann)
    (core : ∀ (w : World) (os : OsState), ((topRunG (stepOk (n₀ w.params) ann) (stepT (denote treeTable) p w) N (S w os) (topStub p)).map fun s =>
      (staticsOk (importedModules p.main.body) (B w.params) s.abs.heap && namesBound p s.abs.heap && gensDone s.abs && laidKept (B w.params) s.abs.heap, openSeen q loose (importedModules p.main.body) Xt true s.abs)) = some (true, openGood q loose)) :
    LeftO p q loose Xt Hook.none.obs Hook.none.val N := fun w => by
  obtain ⟨s, h1, h2⟩ := Option.map_eq_some_iff.mp (hb w)
  unfold openEnds
  rw [h1]
  obtain ⟨h, g, d, k, os⟩ := s
  cases h2
  obtain ⟨s1, e1, e2⟩ := Option.map_eq_some_iff.mp (core w os)
  have r := topRun_of e1
  rw [ha] at r
  obtain ⟨e3, e4⟩ := Prod.mk.inj e2
  show (topFrom treeTable p w N ⟨B w.params, Array.mk [], _, _, os⟩).map _ = _
  unfold topFrom
  rw [show ((B w.params).isNs mainGlobals && (Array.mk [] : Array GenState).size == 0) = true by rw [hn]; rfl]
  show ((topRun treeTable p w (B w.params).objs.size ((B w.params).nsMap mainGlobals "__annotations__") N _ _).bind _).map _ = _
  rw [hs, hann, r]
  show (match staticsOk (importedModules p.main.body) (B w.params) s1.abs.heap && namesBound p s1.abs.heap && gensDone s1.abs && laidKept (B w.params) s1.abs.heap with
      | true => some s1.abs
      | false => none).map _ = _
  rw [e3]
  exact congrArg (fun z => some (z, ())) e4
theorem left : LeftO PySem.Challenge.pw_pq0218_01 vw [] xt Hook.none.obs Hook.none.val 3800 :=
  left_of (boot_open boot_opens rfl boot_fence) bt_absS boot_ns (fun _ => rfl) ann_none core
end Mine
namespace Mine
theorem o0 {a0 : Int} (h0 : (a0 ≤ (1000000 : Int))) : (a0 ≤ (16777216 : Int)) := by lia
theorem o1 {a0 : Int} (h0 : (a0 ≤ (1000000 : Int))) : (a0 ≤ (1152921504606846975 : Int)) := by lia
theorem o2 {a0 : Int} (h0 : (a0 ≤ (1000000 : Int))) (h1 : ((-(1000000 : Int)) ≤ a0)) : (((-(9223372036854775808 : Int)) ≤ a0) ∧ (a0 < (9223372036854775808 : Int))) := by omega
theorem o3 {a0 : Int} (h0 : (¬ ((0 : Int) ≤ a0))) : (a0 < (0 : Int)) := by exact Int.lt_of_not_ge h0
theorem o4 {a0 : Int} (h0 : (¬ ((0 : Int) ≤ a0))) : (a0 < ((2 : Int) ^ (63 : Nat))) := by lia
theorem o5 {a0 : Int} {a1 : Nat} (h0 : (a1 ≤ (1000000 : Nat))) (h1 : ((-((a1 : Nat) : Int)) ≤ a0)) : ((-((2 : Int) ^ (63 : Nat))) ≤ a0) := by lia
theorem o6 {a0 : Int} {a1 : Nat} (h0 : (a1 ≤ (1000000 : Nat))) (h1 : ((Int.toNat a0) < a1)) : (a0 < ((2 : Int) ^ (63 : Nat))) := by lia
theorem o7 {a0 : Int} (h0 : ((0 : Int) ≤ a0)) : ((-((2 : Int) ^ (63 : Nat))) ≤ a0) := by lia
theorem o8 {a0 : Nat} {a1 : Int} (h0 : (¬ ((Int.toNat a1) < a0))) : (a0 ≤ (Int.toNat a1)) := by exact Nat.le_of_not_lt h0
theorem o9 {a0 : Nat} (h0 : (a0 < (9000 : Nat))) : ((a0 + (64 : Nat)) < (9900 : Nat)) := by lia
theorem o10 {a0 : Int} {a1 : Nat} (h0 : ((Int.toNat a0) < a1)) (h1 : (¬ (a0 < (0 : Int)))) : (((0 : Int) ≤ a0) ∧ (a0 < ((a1 : Nat) : Int))) := by simp_all
theorem o11 {a0 : Int} (h0 : ((0 : Int) ≤ a0)) : (¬ (a0 < (0 : Int))) := by exact Int.not_lt_of_ge h0
theorem o12 {a0 : Nat} {a1 : Nat} {a2 : Nat} (h0 : (a2 ≤ a1)) (h1 : (a2 = a0)) : (a0 ≤ a1) := by exact le_of_eq_of_le (id (Eq.symm h1)) h0
theorem o13 {a0 : Nat} {a1 : Nat} (h0 : (a1 < (64 : Nat))) (h1 : (a0 = a1)) : (a0 < (64 : Nat)) := by exact lt_of_eq_of_lt h1 h0
theorem o14 {a0 : Nat} (h0 : (a0 ≤ (1000000 : Nat))) : (((a0 : Nat) : Int) < (9223372036854775808 : Int)) := by lia
theorem o15 {a0 : Nat} {a1 : Int} {a2 : Nat} (h0 : (a0 = a2)) : ((a0 - (Int.toNat (-a1))) = (Int.toNat ((-(((Int.toNat (-a1)) : Nat) : Int)) + ((a2 : Nat) : Int)))) := by lia
theorem o16 {a0 : Int} (h0 : (¬ ((0 : Int) ≤ a0))) : ((1 : Nat) ≤ (Int.toNat (-a0))) := by lia
theorem o17 {a0 : Int} (h0 : (¬ ((0 : Int) ≤ a0))) : (a0 = (-(((Int.toNat (-a0)) : Nat) : Int))) := by grind
theorem o18 {a0 : Int} (h0 : (a0 ≤ (1000000 : Int))) : ((Int.toNat (a0 - (0 : Int))) ≤ (1000000 : Nat)) := by simp_all
theorem o19 {a0 : Int} (h0 : (a0 ≤ (1000000 : Int))) : ((a0 + ((-(1 : Int)) + (1 : Int))) ≤ (10000000 : Int)) := by lia
theorem o20 {a0 : Int} (h0 : ((-(1000000 : Int)) ≤ a0)) : ((-(10000000 : Int)) ≤ (a0 + ((-(1 : Int)) + (1 : Int)))) := by lia
theorem o21 {a0 : Int} {a1 : Int} (h0 : (a0 ≤ (1000000 : Int))) (h1 : ((-(1000000 : Int)) ≤ a1)) : ((((Int.toNat (a0 - a1)) : Nat) : Int) ≤ (10000000 : Int)) := by lia
theorem o22 {a0 : Int} {a1 : Int} : ((-(10000000 : Int)) ≤ (((Int.toNat (a0 - a1)) : Nat) : Int)) := by exact Int.neg_ofNat_le_natCast 10000000 (a0 - a1).toNat
theorem o23 : ((-(1 : Int)) ≤ (10000000 : Int)) := by simp
theorem o24 : ((-(10000000 : Int)) ≤ (-(1 : Int))) := by constructor <;> omega
theorem o25 {a0 : Int} (h0 : (a0 ≤ (1000000 : Int))) : (a0 ≤ (10000000 : Int)) := by lia
theorem o26 {a0 : Int} (h0 : ((-(1000000 : Int)) ≤ a0)) : ((-(10000000 : Int)) ≤ a0) := by lia
theorem o27 {a0 : Int} (h0 : (a0 ≤ (1000000 : Int))) : ((a0 + ((1 : Int) - (1 : Int))) ≤ (10000000 : Int)) := by lia
theorem o28 {a0 : Int} (h0 : ((-(1000000 : Int)) ≤ a0)) : ((-(10000000 : Int)) ≤ (a0 + ((1 : Int) - (1 : Int)))) := by lia
theorem o29 {a0 : Int} {a1 : Int} (h0 : ((-(1000000 : Int)) ≤ a1)) (h1 : (a0 ≤ (1000000 : Int))) : ((((Int.toNat (a0 - a1)) : Nat) : Int) ≤ (10000000 : Int)) := by lia
theorem o30 : ((1 : Int) ≤ (10000000 : Int)) := by simp
theorem o31 : ((-(10000000 : Int)) ≤ (1 : Int)) := by simp
theorem o32 {a0 : Int} (h0 : ((-(10000000 : Int)) ≤ a0)) (h1 : (a0 ≤ (10000000 : Int))) : (((-((2 : Int) ^ (63 : Nat))) ≤ a0) ∧ (a0 < ((2 : Int) ^ (63 : Nat)))) := by constructor <;> lia
theorem o33 {a0 : Nat} {a1 : Nat} : (((((a0 : Nat) : Int) + (1 : Int)) + ((a1 : Nat) : Int)) = (((a0 : Nat) : Int) + (((a1 : Nat) : Int) + (1 : Int)))) := by omega
theorem o34 {a0 : Nat} {a1 : Nat} {a2 : Nat} (h0 : (a0 ≤ a2)) (h1 : (a2 ≤ a1)) : (a0 ≤ a1) := by exact Nat.le_trans h0 h1
theorem o35 {a0 : Nat} {a1 : Nat} (h0 : (a0 ≤ a1)) (h1 : (¬ (a0 < a1))) : (a0 = a1) := by lia
theorem o36 {a0 : Nat} {a1 : Nat} (h0 : (a1 < a0)) : (((a0 + (1 : Nat)) - (a1 + (1 : Nat))) < ((a0 + (1 : Nat)) - a1)) := by apply Nat.sub_lt_left_of_lt_add <;> lia
theorem o37 {a0 : Nat} {a1 : Nat} {a2 : Nat} {a3 : Nat} (h0 : (a2 ≤ a1)) (h1 : (a2 = a3)) (h2 : (a0 = a3)) : ((a0 + (1 : Nat)) ≤ (a1 + (1 : Nat))) := by simp_all
theorem o38 {a0 : Nat} {a1 : Nat} {a2 : Nat} {a3 : Nat} (h0 : (a2 < a3)) (h1 : (a0 ≤ (a2 + (1 : Nat)))) (h2 : (a3 ≤ a1)) : (a0 ≤ a1) := by lia
theorem o39 {a0 : Nat} {a1 : Nat} (h0 : (((a0 : Nat) : Int) < ((a1 : Nat) : Int))) : (a0 < a1) := by exact Int.ofNat_lt.mp h0
theorem o40 {a0 : Nat} {a1 : Nat} {a2 : Nat} (h0 : (a2 < a1)) (h1 : (a0 = a2)) : ((a0 + (1 : Nat)) ≤ a1) := by exact le_of_eq_of_le (congrFun (congrArg HAdd.hAdd h1) 1) h0
theorem o41 {a0 : Int} (h0 : ((a0 = (1 : Int)) ∨ (a0 = (2 : Int)))) : (a0 < (3 : Int)) := by lia
theorem o42 {a0 : Int} (h0 : ((a0 = (1 : Int)) ∨ (a0 = (2 : Int)))) : (a0 < ((2 : Int) ^ (63 : Nat))) := by lia
theorem o43 {a0 : Int} {a1 : Nat} {a2 : Nat} (h0 : (a0 < ((a2 : Nat) : Int))) (h1 : (a1 = a2)) : (a0 < ((a1 : Nat) : Int)) := by exact lt_of_lt_of_eq h0 (congrArg Nat.cast (id (Eq.symm h1)))
theorem o44 {a0 : Int} {a1 : Nat} {a2 : Nat} (h0 : (a0 < ((a1 : Nat) : Int))) (h1 : (a2 = a1)) (h2 : (a2 ≤ (1000000 : Nat))) : (a0 < ((2 : Int) ^ (63 : Nat))) := by lia
theorem o45 {a0 : Nat} {a1 : Nat} (h0 : (((a0 + ((3 : Nat) * (a1 + (1 : Nat)))) + (3 : Nat)) < (9000 : Nat))) : ((a0 + (3 : Nat)) < (9000 : Nat)) := by lia
theorem o46 {a0 : Nat} {a1 : Nat} (h0 : (((a0 + ((3 : Nat) * (a1 + (1 : Nat)))) + (3 : Nat)) < (9000 : Nat))) : ((((a0 + (3 : Nat)) + ((3 : Nat) * a1)) + (3 : Nat)) < (9000 : Nat)) := by lia
theorem o47 {a0 : Nat} {a1 : Nat} (h0 : ((a0 + (a1 + (1 : Nat))) < (1000 : Nat))) : (((a0 + (1 : Nat)) + a1) < (1000 : Nat)) := by lia
theorem o48 {a0 : Nat} {a1 : Nat} (h0 : ((a0 + (a1 + (1 : Nat))) < (1000 : Nat))) : (a0 < (1000 : Nat)) := by exact Nat.lt_of_add_right_lt h0
theorem o49 {a0 : Nat} {a1 : Nat} (h0 : (a0 ≤ a1)) : (((a0 : Nat) : Int) ≤ ((a1 : Nat) : Int)) := by exact Int.ofNat_le.mpr h0
theorem o50 {a0 : Nat} {a1 : Nat} (h0 : (a1 ≤ a0)) : ((-((a0 : Nat) : Int)) ≤ ((a1 : Nat) : Int)) := by exact Int.neg_natCast_le_natCast a0 a1
theorem o51 {a0 : Int} {a1 : Nat} {a2 : Int} (h0 : ((Int.natAbs a2) < a1)) (h1 : ((0 : Int) ≤ a0)) (h2 : (a0 < a2)) : ((Int.natAbs a0) < a1) := by grind
theorem o52 {a0 : Int} {a1 : Int} (h0 : ((0 : Int) ≤ a1)) (h1 : (a1 < a0)) : (a0 ≠ (0 : Int)) := by lia
theorem o53 {a0 : Int} {a1 : Int} (h0 : (a0 ≤ a1)) (h1 : (a0 ≠ a1)) : ((a0 + (1 : Int)) ≤ a1) := by lia
theorem o54 {a0 : Int} {a1 : Int} (h0 : (a0 < a1)) : (a0 < (a1 + (1 : Int))) := by lia
theorem o55 {a0 : Int} {a1 : Int} (h0 : (a1 ≤ a0)) (h1 : (a1 ≠ a0)) : ((Int.toNat (a0 - (a1 + (1 : Int)))) < (Int.toNat (a0 - a1))) := by lia
theorem o56 {a0 : Int} {a1 : Int} {a2 : Int} (h0 : (a2 < a1)) (h1 : (a0 ≤ a2)) : (a0 < a1) := by exact Int.lt_of_le_of_lt h1 h0
theorem o57 {a0 : Int} {a1 : Int} (h0 : ((1 : Int) ≤ a1)) (h1 : (a1 < a0)) : ((2 : Int) ≤ a0) := by exact Int.lt_of_le_of_lt h0 h1
theorem o58 {a0 : Int} {a1 : Int} (h0 : (a0 < a1)) : ((a0 + (1 : Int)) ≤ a1) := by exact Int.add_one_le_of_lt h0
theorem o59 {a0 : Int} : (a0 < (a0 + (1 : Int))) := by exact Int.lt_succ a0
theorem o60 {a0 : Int} (h0 : ((1 : Int) ≤ a0)) (h1 : ((2 : Int) > (a0 + (1 : Int)))) : ((2 : Int) = (a0 + (1 : Int))) := by lia
theorem o61 {a0 : Int} : ((a0 + (1 : Int)) = (a0 + (1 : Int))) := by constructor <;> omega
theorem o62 {a0 : Int} (h0 : ((2 : Int) ≤ a0)) : ((0 : Int) ≤ a0) := by lia
theorem o63 {a0 : Int} {a1 : Int} (h0 : (¬ (a1 < a0))) : (a0 ≤ a1) := by exact Int.not_lt.mp h0
theorem o64 {a0 : Int} {a1 : Int} (h0 : (a0 < (a0 * a1))) (h1 : ((a0 * a1) ≤ (a0 * (1 : Int)))) : False := by grind
theorem o65 {a0 : Int} (h0 : (¬ ((2 : Int) ≤ a0))) : (a0 ≤ (1 : Int)) := by exact Int.not_lt.mp h0
theorem o66 {a0 : Int} (h0 : ((2 : Int) ≤ a0)) (h1 : (¬ (a0 = (2 : Int)))) : ((2 : Int) < a0) := by exact Std.lt_of_le_of_ne h0 fun (a : 2 = a0) ↦ h1 (id (Eq.symm a))
theorem o67 : ((2 : Int) ≤ (2 : Int)) := by exact Int.le_refl 2
theorem o68 {a0 : Int} {a1 : Int} (h0 : (a0 < (a1 + (2 : Int)))) (h1 : (¬ (a0 < a1))) (h2 : (¬ (a0 = a1))) : (a0 = (a1 + (1 : Int))) := by lia
theorem o69 {a0 : Int} (h0 : ((a0 = (2 : Int)) ∨ ((a0 % (2 : Int)) = (1 : Int)))) (h1 : (¬ (a0 = (2 : Int)))) : (((a0 + (2 : Int)) = (2 : Int)) ∨ (((a0 + (2 : Int)) % (2 : Int)) = (1 : Int))) := by simp_all
theorem o70 {a0 : Int} {a1 : Int} (h0 : (a0 < a1)) : ((a0 + (2 : Int)) ≤ (a1 + (2 : Int))) := by lia
theorem o71 {a0 : Int} (h0 : ((2 : Int) ≤ a0)) : ((2 : Int) ≤ (a0 + (2 : Int))) := by lia
theorem o72 {a0 : Int} {a1 : Int} (h0 : (a1 < a0)) : ((Int.toNat ((a0 + (3 : Int)) - (a1 + (2 : Int)))) < (Int.toNat ((a0 + (3 : Int)) - a1))) := by omega
theorem o73 {a0 : Int} (h0 : ((2 : Int) ≤ a0)) (h1 : (a0 < (3 : Int))) : (a0 = (2 : Int)) := by lia
theorem o74 : (((3 : Int) = (2 : Int)) ∨ (((3 : Int) % (2 : Int)) = (1 : Int))) := by exact Or.inr rfl
theorem o75 {a0 : Int} (h0 : ((2 : Int) < a0)) : ((3 : Int) ≤ (a0 + (2 : Int))) := by lia
theorem o76 : ((2 : Int) ≤ (3 : Int)) := by simp
theorem o77 {a0 : Int} (h0 : ((2 : Int) < a0)) : ((Int.toNat ((a0 + (3 : Int)) - (3 : Int))) < (Int.toNat ((a0 + (3 : Int)) - (2 : Int)))) := by grind
theorem o78 {a0 : Int} {a1 : Int} (h0 : ((2 : Int) ≤ a0)) (h1 : ((a0 * a0) ≤ a1)) (h2 : (((2 : Int) * a0) ≤ (a0 * a0))) : (a0 < a1) := by lia
theorem o79 {a0 : Int} (h0 : ((a0 = (2 : Int)) ∨ ((a0 % (2 : Int)) = (1 : Int)))) : (a0 ≠ (0 : Int)) := by lia
theorem o80 {a0 : Int} {a1 : Int} (h0 : (a1 < ((2 : Int) ^ (40 : Nat)))) (h1 : ((2 : Int) ≤ a0)) (h2 : (a0 ≤ (a1 + (2 : Int)))) : ((Int.natAbs a0) < ((2 : Nat) ^ (60 : Nat))) := by grind
theorem o81 {a0 : Int} {a1 : Int} {a2 : Int} {a3 : Int} (h0 : ((a0 + (a2 * a3)) = a1)) : (a0 = (a1 - (a2 * a3))) := by lia
theorem o82 {a0 : Int} {a1 : Int} {a2 : Nat} (h0 : ((Int.natAbs (((2 : Int) * a1) + (2 : Int))) < a2)) (h1 : ((0 : Int) ≤ a0)) (h2 : (a0 < a1)) : ((Int.natAbs ((a0 + a1) + (2 : Int))) < a2) := by lia
theorem o83 {a0 : Int} {a1 : Int} (h0 : ((0 : Int) ≤ a1)) (h1 : (a1 < a0)) : ((0 : Int) ≤ a0) := by lia
theorem o84 {a0 : Int} {a1 : Int} (h0 : ((((Int.natAbs a0) : Nat) : Int) ≤ (a1 + (1 : Int)))) : ((((Int.natAbs a0) : Nat) : Int) ≤ (a1 + (1 : Int))) := by omega
theorem o85 {a0 : Int} {a1 : Int} {a2 : Int} {a3 : Int} {a4 : Nat} (h0 : (((a0 * a1) + (a2 * a3)) = ((a4 : Nat) : Int))) : (((a0 * a1) + (a2 * a3)) = ((a4 : Nat) : Int)) := by omega
theorem o86 {a0 : Int} (h0 : ((0 : Int) ≤ a0)) : (a0 = (((Int.natAbs a0) : Nat) : Int)) := by exact Int.eq_natAbs_of_nonneg h0
theorem o87 {a0 : Int} {a1 : Int} {a2 : Int} (h0 : ((a0 - (a1 * a2)) < a2)) (h1 : ((0 : Int) ≤ (a0 - (a1 * a2)))) : ((Int.natAbs (a0 - (a1 * a2))) < (Int.natAbs a2)) := by exact Int.natAbs_lt_natAbs_of_nonneg_of_lt h1 h0
theorem o88 {a0 : Int} {a1 : Int} {a2 : Int} (h0 : ((0 : Int) ≤ a0)) (h1 : (a0 ≤ (a1 + a2))) : ((((Int.natAbs a0) : Nat) : Int) ≤ ((a1 + a2) + (2 : Int))) := by lia
theorem o89 {a0 : Int} {a1 : Int} {a2 : Int} {a3 : Int} (h0 : ((((Int.natAbs a3) : Nat) : Int) ≤ (a2 + (1 : Int)))) (h1 : ((((Int.natAbs a0) : Nat) : Int) ≤ (a1 + (1 : Int)))) : ((((Int.natAbs a0) : Nat) : Int) ≤ ((a1 + a2) + (2 : Int))) := by lia
theorem o90 {a0 : Int} {a1 : Int} {a2 : Int} {a3 : Int} (h0 : ((((Int.natAbs a0) : Nat) : Int) ≤ (a2 + (1 : Int)))) (h1 : ((((Int.natAbs a3) : Nat) : Int) ≤ (a1 + (1 : Int)))) : ((((Int.natAbs a0) : Nat) : Int) ≤ ((a1 + a2) + (2 : Int))) := by lia
theorem o91 {a0 : Int} {a1 : Int} {a2 : Int} {a3 : Int} (h0 : ((0 : Int) ≤ a0)) (h1 : (a0 ≤ a3)) (h2 : (a3 ≤ (a1 + a2))) : ((((Int.natAbs a0) : Nat) : Int) ≤ ((a1 + a2) + (2 : Int))) := by lia
theorem o92 {a0 : Int} {a1 : Int} (h0 : ((0 : Int) ≤ a1)) : (a0 ≤ (a1 + a0)) := by exact Int.le_add_of_nonneg_left h0
theorem o93 {a0 : Int} {a1 : Int} (h0 : ((0 : Int) < a1)) : (a0 ≤ (a0 + a1)) := by omega
theorem o94 {a0 : Int} (h0 : ((0 : Int) ≤ a0)) : ((((Int.natAbs (1 : Int)) : Nat) : Int) ≤ (a0 + (1 : Int))) := by exact Int.le_add_of_nonneg_left h0
theorem o95 {a0 : Int} (h0 : ((0 : Int) < a0)) : ((((Int.natAbs (0 : Int)) : Nat) : Int) ≤ (a0 + (1 : Int))) := by lia
theorem o96 {a0 : Int} (h0 : ((0 : Int) ≤ a0)) : ((((Int.natAbs (0 : Int)) : Nat) : Int) ≤ (a0 + (1 : Int))) := by exact Int.le_add_one h0
theorem o97 {a0 : Int} (h0 : ((0 : Int) < a0)) : ((((Int.natAbs (1 : Int)) : Nat) : Int) ≤ (a0 + (1 : Int))) := by exact Int.le_add_one h0
theorem o98 {a0 : Int} {a1 : Int} : ((((0 : Int) * a0) + ((1 : Int) * a1)) = a1) := by omega
theorem o99 {a0 : Int} {a1 : Int} : ((((1 : Int) * a0) + ((0 : Int) * a1)) = a0) := by omega
theorem o100 {a0 : Int} (h0 : ((0 : Int) < a0)) : ((0 : Int) ≤ a0) := by exact Int.le_of_lt h0
theorem o101 {a0 : Int} {a1 : Nat} {a2 : Int} {a3 : Int} (h0 : ((Int.natAbs ((a2 + a3) + (2 : Int))) < a1)) (h1 : ((((Int.natAbs a0) : Nat) : Int) ≤ ((a2 + a3) + (2 : Int)))) : ((Int.natAbs a0) < a1) := by lia
theorem o102 {a0 : Int} {a1 : Int} (h0 : ((0 : Int) ≤ a0)) (h1 : (a0 < a1)) : ((Int.natAbs a0) < (Int.natAbs a1)) := by exact Int.natAbs_lt_natAbs_of_nonneg_of_lt h0 h1
theorem o103 {a0 : Int} (h0 : ((0 : Int) ≤ a0)) (h1 : (a0 ≠ (0 : Int))) : ((0 : Int) < a0) := by exact Std.lt_of_le_of_ne h0 (id (Ne.symm h1))
theorem o104 {a0 : Int} (h0 : (a0 < (0 : Int))) : ((0 : Int) ≤ (-a0)) := by omega
theorem o105 {a0 : Int} (h0 : (¬ (a0 < (0 : Int)))) : ((0 : Int) ≤ a0) := by exact Int.not_lt.mp h0
theorem o106 {a0 : Int} {a1 : Int} {a2 : Int} {a3 : Int} {a4 : Int} {a5 : Int} (h0 : ((a0 - (a1 * a2)) = a5)) (h1 : (a5 < a2)) (h2 : (a2 ≤ (a3 + a4))) : ((a0 - (a1 * a2)) ≤ (a3 + a4)) := by lia
theorem o107 {a0 : Int} {a1 : Int} {a2 : Int} {a3 : Int} (h0 : ((a0 - (a1 * a2)) = a3)) (h1 : (a3 < a2)) : ((a0 - (a1 * a2)) < a2) := by exact lt_of_eq_of_lt h0 h1
theorem o108 {a0 : Int} {a1 : Int} {a2 : Int} {a3 : Int} (h0 : ((((Int.natAbs (a0 - (a1 * a2))) : Nat) : Int) ≤ a3)) : ((((Int.natAbs (a0 - (a1 * a2))) : Nat) : Int) ≤ (a3 + (1 : Int))) := by exact Int.le_add_one h0
theorem o109 {a0 : Int} {a1 : Int} {a2 : Int} {a3 : Int} (h0 : ((a0 - (a1 * a2)) = a3)) (h1 : ((0 : Int) ≤ a3)) : ((0 : Int) ≤ (a0 - (a1 * a2))) := by exact le_of_le_of_eq h1 (id (Eq.symm h0))
theorem o110 {a0 : Int} {a1 : Int} {a2 : Int} {a3 : Int} (h0 : ((a1 - (a0 * a2)) = a3)) (h1 : ((0 : Int) ≤ a3)) (h2 : ((a0 * (1 : Int)) ≤ (a0 * a2))) : (a0 ≤ a1) := by lia
theorem o111 {a0 : Int} {a1 : Int} (h0 : ((0 : Int) ≤ a1)) (h1 : (a1 < a0)) : ((1 : Int) ≤ a0) := by exact Int.lt_of_le_of_lt h0 h1
theorem o112 {a0 : Int} {a1 : Int} {a2 : Int} {a3 : Int} (h0 : ((a3 + (a1 * a2)) = a0)) : ((a0 - (a1 * a2)) = a3) := by lia
theorem o113 {a0 : Int} (h0 : (a0 ≠ (0 : Int))) (h1 : ((0 : Int) ≤ a0)) : ((0 : Int) < a0) := by exact Std.lt_of_le_of_ne h1 (id (Ne.symm h0))
theorem o114 {a0 : Int} {a1 : Int} {a2 : Int} {a3 : Int} {a4 : Int} {a5 : Int} (h0 : ((((((Int.natAbs (a0 - (a1 * a2))) : Nat) : Int) * a4) + ((((Int.natAbs a2) : Nat) : Int) * (a5 - (a1 * a4)))) ≤ a3)) (h1 : ((0 : Int) ≤ ((((Int.natAbs a2) : Nat) : Int) * (a5 - (a1 * a4))))) (h2 : (((((Int.natAbs (a0 - (a1 * a2))) : Nat) : Int) * (1 : Int)) ≤ ((((Int.natAbs (a0 - (a1 * a2))) : Nat) : Int) * a4))) : ((((Int.natAbs (a0 - (a1 * a2))) : Nat) : Int) ≤ a3) := by omega
theorem o115 {a0 : Int} {a1 : Int} {a2 : Int} : ((0 : Int) ≤ (((Int.natAbs (a0 - (a1 * a2))) : Nat) : Int)) := by exact Int.natCast_nonneg (a0 - a1 * a2).natAbs
theorem o116 {a0 : Int} (h0 : ((0 : Int) < a0)) : ((1 : Int) ≤ a0) := by exact Int.le_of_sub_one_lt h0
theorem o117 {a0 : Int} : ((0 : Int) ≤ (((Int.natAbs a0) : Nat) : Int)) := by exact Int.natCast_nonneg a0.natAbs
theorem o118 {a0 : Int} {a1 : Int} {a2 : Int} {a3 : Int} {a4 : Int} {a5 : Int} (h0 : ((((((Int.natAbs a2) : Nat) : Int) * a4) + ((((Int.natAbs a0) : Nat) : Int) * a3)) ≤ a5)) (h1 : (((((Int.natAbs (a0 - (a1 * a2))) : Nat) : Int) * a3) ≤ (((((Int.natAbs a0) : Nat) : Int) + (a1 * (((Int.natAbs a2) : Nat) : Int))) * a3))) (h2 : (((((((Int.natAbs a0) : Nat) : Int) + (a1 * (((Int.natAbs a2) : Nat) : Int))) * a3) + ((((Int.natAbs a2) : Nat) : Int) * (a4 - (a1 * a3)))) = (((((Int.natAbs a2) : Nat) : Int) * a4) + ((((Int.natAbs a0) : Nat) : Int) * a3)))) : ((((((Int.natAbs (a0 - (a1 * a2))) : Nat) : Int) * a3) + ((((Int.natAbs a2) : Nat) : Int) * (a4 - (a1 * a3)))) ≤ a5) := by omega
theorem o119 {a0 : Int} {a1 : Int} {a2 : Int} (h0 : ((Int.natAbs (a0 - (a1 * a2))) ≤ ((Int.natAbs a0) + ((Int.natAbs a1) * (Int.natAbs a2))))) (h1 : (((((Int.natAbs a1) * (Int.natAbs a2)) : Nat) : Int) = (a1 * (((Int.natAbs a2) : Nat) : Int)))) : ((((Int.natAbs (a0 - (a1 * a2))) : Nat) : Int) ≤ ((((Int.natAbs a0) : Nat) : Int) + (a1 * (((Int.natAbs a2) : Nat) : Int)))) := by lia
theorem o120 {a0 : Int} (h0 : ((0 : Int) ≤ a0)) : ((((Int.natAbs a0) : Nat) : Int) = a0) := by exact Int.natAbs_of_nonneg h0
theorem o121 {a0 : Int} {a1 : Int} {a2 : Int} (h0 : ((0 : Int) ≤ a1)) : ((Int.natAbs (a0 - (a1 * a2))) ≤ ((Int.natAbs a0) + (Int.natAbs (a1 * a2)))) := by exact Int.natAbs_sub_le a0 (a1 * a2)
theorem o122 {a0 : Int} (h0 : ((0 : Int) < a0)) : (a0 ≠ (0 : Int)) := by exact Int.ne_of_gt h0
theorem o123 {a0 : Int} (h0 : (a0 ≠ (0 : Int))) : ((Int.natAbs a0) ≠ (0 : Nat)) := by omega
theorem o124 {a0 : Nat} (h0 : (a0 < (8000 : Nat))) : ((a0 + (1 : Nat)) ≤ (8000 : Nat)) := by exact Nat.succ_le_of_lt h0
theorem o125 {a0 : Int} {a1 : Nat} (h0 : ((Int.natAbs a0) < a1)) : ((0 : Nat) ≤ (8000 : Nat)) := by exact Nat.zero_le 8000
theorem o126 {a0 : Int} {a1 : Int} (h0 : ((0 : Int) ≤ a0)) (h1 : (a0 < a1)) : (((0 : Int) ≤ a0) ∧ (a0 ≤ a1)) := by constructor <;> lia
theorem o127 {a0 : Int} {a1 : Int} {a2 : Int} (h0 : ((a0 - a1) = (a2 * (0 : Int)))) : (a0 = a1) := by lia
theorem o128 {a0 : Int} {a1 : Int} {a2 : Int} {a3 : Int} (h0 : ((0 : Int) ≤ a1)) (h1 : (a2 < a3)) (h2 : (a2 = (a1 + (a3 * a0)))) (h3 : ((a3 * (1 : Int)) ≤ (a3 * a0))) : (a0 = (0 : Int)) := by lia
theorem o129 {a0 : Int} {a1 : Int} {a2 : Int} {a3 : Int} (h0 : (a1 < a2)) (h1 : ((0 : Int) ≤ a3)) (h2 : ((a3 - a1) = (a2 * a0))) (h3 : ((a2 * a0) ≤ (a2 * (-(1 : Int))))) : (a0 = (0 : Int)) := by lia
theorem o130 {a0 : Int} (h0 : (a0 < (0 : Int))) : (a0 ≤ (-(1 : Int))) := by lia
theorem o131 {a0 : Int} {a1 : Int} {a2 : Int} {a3 : Int} (h0 : (a0 = (a1 + (a2 * a3)))) : ((a0 - a1) = (a2 * a3)) := by lia
theorem o132 : ((0 : Int) < (1 : Int)) := by exact Int.one_pos
theorem o133 : (((0 : Int) ≤ (0 : Int)) ∧ ((0 : Int) ≤ (1 : Int))) := by decide
theorem o134 {a0 : Int} {a1 : Int} (h0 : ((0 : Int) ≤ a1)) (h1 : (a1 < a0)) : ((0 : Int) < a0) := by exact Int.lt_of_le_of_lt h0 h1
theorem o135 {a0 : Int} {a1 : Nat} {a2 : Int} {a3 : Nat} (h0 : ((((Int.natAbs a0) : Nat) : Int) ≤ (a2 + (1 : Int)))) (h1 : ((Int.natAbs a2) < a3)) (h2 : (a1 = (a3 * (2 : Nat)))) : ((Int.natAbs a0) < a1) := by lia
theorem o136 {a0 : Int} {a1 : Int} {a2 : Nat} {a3 : Int} {a4 : Int} {a5 : Nat} (h0 : ((0 : Int) ≤ a1)) (h1 : (a1 ≤ a3)) (h2 : ((0 : Int) ≤ a0)) (h3 : (a0 ≤ a4)) (h4 : ((Int.natAbs a3) < a5)) (h5 : ((Int.natAbs a4) < a5)) (h6 : (a2 = (a5 * (2 : Nat)))) : ((Int.natAbs (a0 - a1)) < a2) := by grind
theorem o137 {a0 : Int} {a1 : Int} (h0 : ((0 : Int) < (a0 * a1))) : ((a0 * a1) ≠ (0 : Int)) := by exact Int.ne_of_gt h0
theorem o138 {a0 : Int} {a1 : Int} {a2 : Nat} {a3 : Nat} {a4 : Nat} (h0 : ((Int.natAbs a0) < a3)) (h1 : ((Int.natAbs a1) < a3)) (h2 : (a2 = (a3 * a4))) (h3 : ((a3 * (3 : Nat)) ≤ (a3 * a4))) : ((Int.natAbs ((a0 + a1) + (2 : Int))) < a2) := by omega
theorem o139 {a0 : Int} (h0 : (a0 ≠ (0 : Int))) : (a0 ≠ (0 : Int)) := by omega
theorem o140 {a0 : Int} (h0 : (a0 ≠ (0 : Int))) : ((-a0) ≠ (0 : Int)) := by simp_all
theorem o141 {a0 : Int} {a1 : Nat} (h0 : ((Int.natAbs a0) < a1)) : ((Int.natAbs (-a0)) < a1) := by simp_all
theorem o142 {a0 : Nat} {a1 : Nat} (h0 : (a1 ≤ (1000 : Nat))) (h1 : (a0 ≤ (1000 : Nat))) : ((a0 + a1) ≤ (1000000 : Nat)) := by lia
theorem o143 {a0 : Nat} (h0 : (a0 ≤ (1000 : Nat))) : (((-(((1000000 : Nat) : Nat) : Int)) ≤ ((a0 : Nat) : Int)) ∧ (((a0 : Nat) : Int) ≤ (((1000000 : Nat) : Nat) : Int))) := by constructor <;> lia
theorem o144 {a0 : Nat} (h0 : ((0 : Nat) < a0)) : ((0 : Nat) < a0) := by omega
theorem o145 {a0 : Nat} {a1 : Nat} (h0 : (¬ (((a1 : Nat) : Int) < ((a0 : Nat) : Int)))) : (a0 ≤ a1) := by simp_all
theorem o146 {a0 : Nat} {a1 : Nat} (h0 : (a0 ≤ (1000 : Nat))) (h1 : (a1 ≤ (1000 : Nat))) : (((-(((1000000 : Nat) : Nat) : Int)) ≤ (((max a0 a1) : Nat) : Int)) ∧ ((((max a0 a1) : Nat) : Int) ≤ (((1000000 : Nat) : Nat) : Int))) := by constructor <;> lia
theorem o147 {a0 : Nat} {a1 : Nat} (h0 : (((a0 : Nat) : Int) > ((a1 : Nat) : Int))) : (((a0 : Nat) : Int) = (((max a1 a0) : Nat) : Int)) := by lia
theorem o148 {a0 : Nat} {a1 : Nat} (h0 : (¬ (((a1 : Nat) : Int) > ((a0 : Nat) : Int)))) : (((a0 : Nat) : Int) = (((max a0 a1) : Nat) : Int)) := by simp_all
theorem o149 {a0 : Nat} : ((0 : Int) < (((a0 + (1 : Nat)) : Nat) : Int)) := by exact Int.ofNat_succ_pos a0
theorem o150 {a0 : Nat} {a1 : Nat} (h0 : ((a0 + (1 : Nat)) ≤ a1)) : (((((a0 + (1 : Nat)) : Nat) : Int) - (1 : Int)) = ((a0 : Nat) : Int)) := by simp
theorem o151 {a0 : Nat} : ((0 : Int) ≤ ((a0 : Nat) : Int)) := by exact Int.natCast_nonneg a0
theorem o152 {a0 : Nat} (h0 : ((0 : Nat) < a0)) : ((a0 - (1 : Nat)) < a0) := by exact Nat.sub_one_lt_of_lt h0
theorem o153 {a0 : Nat} (h0 : ((0 : Nat) < a0)) : ((Int.toNat ((-(1 : Int)) + ((a0 : Nat) : Int))) = (a0 - (1 : Nat))) := by lia
theorem o154 {a0 : Nat} (h0 : ((0 : Nat) < a0)) : ((1 : Int) ≤ ((a0 : Nat) : Int)) := by exact Int.ofNat_lt.mpr h0
theorem o155 {a0 : Nat} (h0 : ((0 : Nat) < a0)) : (¬ ((0 : Int) ≤ (-(1 : Int)))) := by decide
theorem o156 {a0 : Nat} {a1 : Nat} (h0 : (a0 < a1)) : ((0 : Int) ≤ ((a0 : Nat) : Int)) := by exact Int.natCast_nonneg a0
theorem o157 {a0 : Nat} {a1 : Nat} (h0 : ((a0 + (1 : Nat)) ≤ a1)) : ((a0 + (1 : Nat)) ≤ a1) := by omega
theorem o158 {a0 : Int} {a1 : Int} : ((a0 - a1) = (a0 + (-a1))) := by constructor <;> omega
theorem o159 {a0 : Int} {a1 : Int} (h0 : ((a0 - a1) = (0 : Int))) : (a0 = a1) := by exact Int.eq_of_sub_eq_zero h0
theorem o160 {a0 : Nat} {a1 : Nat} {a2 : Nat} (h0 : (((a1 - (1 : Nat)) + (a2 - (1 : Nat))) < a0)) (h1 : ((a0 + (1 : Nat)) ≤ (a1 + a2))) : ((a0 - (1 : Nat)) = ((a1 - (1 : Nat)) + (a2 - (1 : Nat)))) := by omega
theorem o161 {a0 : Nat} {a1 : Nat} {a2 : Nat} (h0 : (((a1 - (1 : Nat)) + (a2 - (1 : Nat))) < a0)) (h1 : ((a0 + (1 : Nat)) ≤ (a1 + a2))) : ((a0 + (1 : Nat)) = (a1 + a2)) := by lia
theorem o162 {a0 : Nat} {a1 : Nat} {a2 : Nat} (h0 : (¬ ((a2 + (1 : Nat)) ≤ (a0 + a1)))) : ((a0 + a1) ≤ ((a2 - (1 : Nat)) + (1 : Nat))) := by lia
theorem o163 {a0 : Nat} {a1 : Nat} {a2 : Nat} (h0 : (¬ (((a1 - (1 : Nat)) + (a2 - (1 : Nat))) < a0))) : (a0 ≤ ((a1 - (1 : Nat)) + (a2 - (1 : Nat)))) := by exact Nat.le_of_not_lt h0
theorem o164 {a0 : Nat} (h0 : ((0 : Nat) < a0)) : (a0 = ((a0 - (1 : Nat)) + (1 : Nat))) := by lia
theorem o165 {a0 : Nat} {a1 : Nat} : (((a0 + (1 : Nat)) + a1) = ((a0 + a1) + (1 : Nat))) := by exact Nat.add_right_comm a0 1 a1
theorem o166 {a0 : Nat} {a1 : Nat} {a2 : Nat} (h0 : (a0 = (a2 + (1 : Nat)))) : (a0 ≤ ((a1 + (1 : Nat)) + a2)) := by lia
theorem o167 {a0 : Nat} {a1 : Nat} {a2 : Nat} (h0 : (((a0 + (1 : Nat)) + a1) ≤ ((a2 + (1 : Nat)) + (1 : Nat)))) : ((a0 + a1) ≤ (a2 + (1 : Nat))) := by lia
theorem o168 {a0 : Nat} {a1 : Nat} {a2 : Nat} (h0 : (((a2 + (1 : Nat)) + a0) ≤ (a1 + (1 : Nat)))) : (a0 ≤ a1) := by lia
theorem o169 {a0 : Nat} (h0 : (((a0 - (1 : Nat)) + (1 : Nat)) ≤ (a0 - (1 : Nat)))) : False := by lia
theorem o170 {a0 : Int} {a1 : Int} (h0 : ((a0 + (-a1)) = (0 : Int))) : (a0 = a1) := by exact Int.eq_of_sub_eq_zero h0
theorem o171 {a0 : Int} {a1 : Int} (h0 : ((0 : Int) ≤ a1)) : ((a0 + (-a0)) = (0 : Int)) := by exact Int.add_right_neg a0
theorem o172 {a0 : Int} {a1 : Int} {a2 : Int} (h0 : ((max a1 (1 : Int)) ≤ a2)) (h1 : (a2 = (0 : Int))) : (a0 = (0 : Int)) := by omega
theorem o173 {a0 : Int} {a1 : Int} (h0 : ((max a0 (1 : Int)) ≤ a1)) : (a0 ≤ a1) := by omega
theorem o174 {a0 : Int} {a1 : Int} (h0 : (((((Int.natAbs a0) : Nat) : Int) + (1 : Int)) ≤ a1)) (h1 : ((Int.natAbs a1) ≤ (Int.natAbs a0))) : False := by lia
theorem o175 {a0 : Int} (h0 : (¬ (a0 = (0 : Int)))) : ((0 : Nat) < (Int.natAbs a0)) := by exact Int.natAbs_pos.mpr h0
theorem o176 {a0 : Int} {a1 : Int} {a2 : Int} (h0 : ((a0 + (a1 * a2)) = (0 : Int))) : (a0 = (-(a1 * a2))) := by lia
theorem o177 {a0 : Int} {a1 : Int} {a2 : Int} (h0 : ((max a2 ((((Int.natAbs a0) : Nat) : Int) + (1 : Int))) = a1)) : (((((Int.natAbs a0) : Nat) : Int) + (1 : Int)) ≤ a1) := by lia
theorem o178 {a0 : Int} {a1 : Int} : (a0 ≤ (max a0 ((((Int.natAbs a1) : Nat) : Int) + (1 : Int)))) := by exact Int.le_max_left a0 (↑a1.natAbs + 1)
theorem o179 {a0 : Nat} {a1 : Nat} {a2 : Nat} (h0 : (¬ (a1 < (max a2 a0)))) : (a0 ≤ a1) := by grind
theorem o180 {a0 : Nat} {a1 : Nat} {a2 : Nat} (h0 : (¬ (a1 < (max a0 a2)))) : (a0 ≤ a1) := by grind
theorem o181 {a0 : Nat} {a1 : Nat} {a2 : Nat} (h0 : (¬ (a2 < (max a0 a1)))) : ((max a0 a1) ≤ a2) := by exact Nat.le_of_not_lt h0
theorem o182 {a0 : Nat} {a1 : Nat} {a2 : Nat} {a3 : Nat} (h0 : ((a0 + a2) = (a3 + (1 : Nat)))) (h1 : (a3 ≤ a1)) (h2 : (¬ (a1 = a3))) : (a0 ≤ (a1 - a2)) := by lia
theorem o183 {a0 : Nat} {a1 : Nat} {a2 : Nat} (h0 : (a0 ≤ (a2 + (1 : Nat)))) (h1 : (a2 ≤ a1)) (h2 : (¬ (a1 = a2))) : (a0 ≤ a1) := by lia
theorem o184 {a0 : Int} {a1 : Int} : (((a0 * a1) - (a0 * a1)) = (0 : Int)) := by exact Int.sub_self (a0 * a1)
theorem o185 {a0 : Nat} {a1 : Nat} {a2 : Nat} (h0 : ((a2 + a1) = (a0 + (1 : Nat)))) : ((a0 - a1) = (a2 - (1 : Nat))) := by lia
theorem o186 {a0 : Nat} {a1 : Nat} {a2 : Nat} (h0 : ((0 : Nat) < a2)) (h1 : ((a2 + a1) = (a0 + (1 : Nat)))) : (¬ (a0 < a1)) := by lia
theorem o187 {a0 : Nat} {a1 : Nat} : ((a0 + a1) ≤ (a1 + a0)) := by lia
theorem o188 {a0 : Nat} {a1 : Nat} (h0 : (¬ (a1 ≤ a0))) : (a0 ≤ (a1 - (1 : Nat))) := by omega
theorem o189 {a0 : Int} {a1 : Int} : ((a0 + (-a1)) = (a0 - a1)) := by constructor <;> omega
theorem o190 {a0 : Int} {a1 : Int} {a2 : Nat} (h0 : ((Int.natAbs a0) < a2)) (h1 : ((Int.natAbs a1) < a2)) : ((Int.natAbs (a0 + (-a1))) < (a2 * (2 : Nat))) := by omega
theorem o191 {a0 : Nat} {a1 : Nat} (h0 : ((((a0 : Nat) : Int) - ((a1 : Nat) : Int)) = (((a0 - a1) : Nat) : Int))) : (a0 = (a1 + (a0 - a1))) := by lia
theorem o192 {a0 : Nat} {a1 : Nat} {a2 : Nat} (h0 : (((a2 - a1) * a0) ≤ ((a2 - a1) * (a0 + (1 : Nat))))) (h1 : (((a1 * (a0 + (1 : Nat))) + ((a2 - a1) * (a0 + (1 : Nat)))) = (a2 * (a0 + (1 : Nat))))) (h2 : ((a2 * (a0 + (1 : Nat))) ≤ ((5 : Nat) * (a0 + (1 : Nat))))) : (((a0 + (a1 * (a0 + (1 : Nat)))) + (((a2 - a1) * a0) + (1 : Nat))) ≤ ((a0 + ((5 : Nat) * (a0 + (1 : Nat)))) + (1 : Nat))) := by lia
theorem o193 {a0 : Nat} {a1 : Nat} (h0 : (¬ (((a1 : Nat) : Int) ≤ ((a0 : Nat) : Int)))) : (a0 < a1) := by simp_all
theorem o194 {a0 : Nat} {a1 : Nat} (h0 : ((a0 + (a1 * (a0 + (1 : Nat)))) ≤ ((600 : Nat) + ((5 : Nat) * (601 : Nat))))) : ((a0 + (a1 * (a0 + (1 : Nat)))) ≤ (8000 : Nat)) := by grind
theorem o195 {a0 : Nat} {a1 : Nat} {a2 : Nat} (h0 : (((a0 - a1) * a2) ≤ ((5 : Nat) * (600 : Nat)))) : ((((a0 - a1) * a2) + (1 : Nat)) ≤ (8000 : Nat)) := by lia
theorem o196 {a0 : Nat} {a1 : Nat} {a2 : Nat} {a3 : Nat} (h0 : (a1 ≤ (5 : Nat))) (h1 : (¬ (((a2 : Nat) : Int) ≤ ((a3 : Nat) : Int)))) (h2 : (((a1 + (1 : Nat)) - a2) = a0)) : (a0 ≤ (5 : Nat)) := by omega
theorem o197 {a0 : Nat} {a1 : Nat} (h0 : ((((a1 : Nat) : Int) - ((a0 : Nat) : Int)) = (((a1 - a0) : Nat) : Int))) : ((a0 + (a1 - a0)) = a1) := by lia
theorem o198 {a0 : Nat} : (a0 ≤ (a0 + (1 : Nat))) := by exact Nat.le_add_right a0 1
theorem o199 {a0 : Nat} {a1 : Nat} {a2 : Nat} {a3 : Nat} {a4 : Nat} (h0 : (a2 ≤ (5 : Nat))) (h1 : (¬ (((a3 : Nat) : Int) ≤ ((a4 : Nat) : Int)))) (h2 : (((a2 + (1 : Nat)) - a3) = a0)) : ((a0 - a1) ≤ (5 : Nat)) := by omega
theorem o200 {a0 : Nat} {a1 : Nat} {a2 : Nat} {a3 : Nat} (h0 : (a2 ≤ (5 : Nat))) (h1 : (((a2 + (1 : Nat)) - a3) = a0)) : ((a0 - a1) ≤ (100 : Nat)) := by omega
theorem o201 {a0 : Nat} {a1 : Nat} (h0 : ((a0 + (a1 * (a0 + (1 : Nat)))) ≤ ((600 : Nat) + ((5 : Nat) * (601 : Nat))))) : (a0 ≤ (8000 : Nat)) := by lia
theorem o202 {a0 : Nat} {a1 : Nat} {a2 : Nat} (h0 : (a2 ≤ ((a0 + (1 : Nat)) - a1))) : ((((((a0 + (1 : Nat)) - a1) : Nat) : Int) - ((a2 : Nat) : Int)) = (((((a0 + (1 : Nat)) - a1) - a2) : Nat) : Int)) := by exact Eq.symm (Int.ofNat_sub h0)
theorem o203 {a0 : Nat} {a1 : Nat} {a2 : Nat} : (((((((a0 + (1 : Nat)) - a1) : Nat) : Int) - ((a2 : Nat) : Int)) - (1 : Int)) = (((((a0 + (1 : Nat)) - a1) : Nat) : Int) - (((a2 + (1 : Nat)) : Nat) : Int))) := by lia
theorem o204 {a0 : Nat} {a1 : Nat} {a2 : Nat} {a3 : Nat} (h0 : (a2 ≤ a3)) (h1 : ((a3 + a0) ≤ a1)) : ((a0 + (1 : Nat)) ≤ ((a1 + (1 : Nat)) - a2)) := by lia
theorem o205 {a0 : Nat} {a1 : Nat} {a2 : Nat} {a3 : Nat} {a4 : Nat} (h0 : (a3 ≤ (5 : Nat))) (h1 : (a2 ≤ (5 : Nat))) (h2 : ((a1 + a4) ≤ a3)) (h3 : (a0 ≤ a2)) : ((a0 + (a1 - a2)) ≤ (1000 : Nat)) := by lia
theorem o206 {a0 : Nat} {a1 : Nat} {a2 : Nat} (h0 : (a1 ≤ (5 : Nat))) (h1 : ((a0 + a2) ≤ a1)) : (a0 ≤ (1000 : Nat)) := by lia
theorem o207 {a0 : Nat} {a1 : Nat} {a2 : Nat} {a3 : Nat} (h0 : (a2 ≤ (5 : Nat))) (h1 : ((a0 + a3) ≤ a2)) : ((a0 - a1) ≤ (1000 : Nat)) := by lia
theorem o208 {a0 : Nat} {a1 : Nat} {a2 : Nat} {a3 : Nat} (h0 : (a2 ≤ (5 : Nat))) (h1 : ((a0 + a3) ≤ a2)) : (((1 : Nat) + (a0 - a1)) ≤ (1000 : Nat)) := by lia
theorem o209 {a0 : Nat} {a1 : Nat} (h0 : (a1 ≤ (5 : Nat))) (h1 : (a0 ≤ a1)) : (a0 ≤ (1000 : Nat)) := by lia
theorem o210 {a0 : Nat} {a1 : Nat} (h0 : (a1 ≤ a0)) : ((((a0 : Nat) : Int) - ((a1 : Nat) : Int)) = (((a0 - a1) : Nat) : Int)) := by exact Eq.symm (Int.ofNat_sub h0)
theorem o211 {a0 : Nat} {a1 : Nat} (h0 : (((a0 : Nat) : Int) ≤ ((a1 : Nat) : Int))) : (a0 ≤ a1) := by exact Int.ofNat_le.mp h0
theorem o212 {a0 : Nat} {a1 : Nat} (h0 : (a0 ≤ (600 : Nat))) (h1 : ((a1 * (a0 + (1 : Nat))) ≤ ((5 : Nat) * (601 : Nat)))) : ((a0 + (a1 * (a0 + (1 : Nat)))) ≤ ((600 : Nat) + ((5 : Nat) * (601 : Nat)))) := by exact Nat.add_le_add h0 h1
theorem o213 {a0 : Nat} (h0 : (a0 ≤ (600 : Nat))) : ((a0 + (1 : Nat)) ≤ (601 : Nat)) := by exact Nat.lt_succ_of_le h0
theorem o214 {a0 : Nat} {a1 : Nat} {a2 : Nat} (h0 : (a1 ≤ (5 : Nat))) (h1 : ((a2 + a0) ≤ a1)) : (a0 ≤ (5 : Nat)) := by lia
theorem o215 {a0 : Nat} {a1 : Nat} : ((0 : Nat) ≤ ((a0 + (1 : Nat)) - a1)) := by exact Nat.zero_le (a0 + 1 - a1)
theorem o216 {a0 : Nat} : (a0 ≤ (a0 + ((0 : Nat) * (a0 + (1 : Nat))))) := by exact Nat.le_add_right a0 (0 * (a0 + 1))
theorem o217 {a0 : Nat} : ((a0 + (0 : Nat)) ≤ a0) := by constructor <;> omega
theorem o218 {a0 : Nat} {a1 : Nat} (h0 : (((((a0 : Nat) : Int) - ((a1 : Nat) : Int)) + (1 : Int)) > (0 : Int))) : (((((a0 : Nat) : Int) - ((a1 : Nat) : Int)) + (1 : Int)) = ((((a0 + (1 : Nat)) - a1) : Nat) : Int)) := by lia
theorem o219 {a0 : Nat} {a1 : Nat} (h0 : (¬ (((((a0 : Nat) : Int) - ((a1 : Nat) : Int)) + (1 : Int)) > (0 : Int)))) : ((0 : Int) = ((((a0 + (1 : Nat)) - a1) : Nat) : Int)) := by omega
theorem o220 {a0 : Nat} {a1 : Nat} : ((((a0 * a1) + a1) + (1 : Nat)) = (((a0 * a1) + (1 : Nat)) + a1)) := by exact Nat.add_right_comm (a0 * a1) a1 1
theorem o221 {a0 : Nat} {a1 : Nat} (h0 : ((((a0 : Nat) : Int) * ((a1 : Nat) : Int)) ≤ ((8000 : Int) * (100 : Int)))) : ((((a0 : Nat) : Int) * ((a1 : Nat) : Int)) ≤ ((2 : Int) ^ (27 : Nat))) := by lia
theorem o222 : ((0 : Int) ≤ (8000 : Int)) := by simp
theorem o223 {a0 : Nat} (h0 : (a0 ≤ (100 : Nat))) : (((a0 : Nat) : Int) ≤ (100 : Int)) := by exact Int.ofNat_le.mpr h0
theorem o224 {a0 : Nat} (h0 : (a0 ≤ (8000 : Nat))) : (((a0 : Nat) : Int) ≤ (8000 : Int)) := by exact Int.ofNat_le.mpr h0
theorem o225 {a0 : Nat} {a1 : Nat} : ((a0 + (a1 * (a0 + (1 : Nat)))) ≤ ((a0 + (a1 * (a0 + (1 : Nat)))) + a0)) := by exact Nat.le_add_right (a0 + a1 * (a0 + 1)) a0
theorem o226 {a0 : Nat} {a1 : Nat} {a2 : Nat} {a3 : Nat} {a4 : Nat} {a5 : Nat} {a6 : Nat} (h0 : (a3 ≤ a4)) (h1 : ((0 : Nat) < a3)) (h2 : (a0 ≤ a5)) (h3 : (a1 ≤ (((0 : Nat) + (1 : Nat)) + (a4 - a3)))) (h4 : (a5 ≤ a2)) (h5 : ((a4 + a6) ≤ a2)) : ((max a0 a1) ≤ a2) := by lia
theorem o227 {a0 : Nat} {a1 : Nat} {a2 : Nat} {a3 : Nat} {a4 : Nat} (h0 : (a3 ≤ a4)) (h1 : ((0 : Nat) < a3)) (h2 : (a0 ≤ (a4 - (1 : Nat)))) (h3 : ((a4 + a1) ≤ a2)) : ((a0 + (a1 + (1 : Nat))) ≤ a2) := by lia
theorem o228 {a0 : Nat} {a1 : Nat} (h0 : (a0 ≤ a1)) (h1 : ((0 : Nat) < a0)) : ((a0 + (a1 - a0)) = ((a1 - (1 : Nat)) + (1 : Nat))) := by grind
theorem o229 {a0 : Nat} : (a0 ≤ ((a0 - (1 : Nat)) + (1 : Nat))) := by omega
theorem o230 {a0 : Nat} {a1 : Nat} : ((a0 + ((a1 * (a0 + (1 : Nat))) + (a0 + (1 : Nat)))) = (((a0 + (a1 * (a0 + (1 : Nat)))) + a0) + (1 : Nat))) := by lia
theorem o231 {a0 : Nat} {a1 : Nat} {a2 : Nat} (h0 : (a2 ≤ a1)) (h1 : ((0 : Nat) < a2)) (h2 : (a0 ≤ (a1 - (1 : Nat)))) : (a0 < a1) := by lia
theorem o232 {a0 : Nat} {a1 : Nat} (h0 : (¬ (((a0 : Nat) : Int) ≤ ((a1 : Nat) : Int)))) : (¬ (a0 ≤ a1)) := by simp_all
theorem o233 {a0 : Nat} {a1 : Nat} {a2 : Nat} {a3 : Nat} {a4 : Nat} (h0 : (a3 ≤ (8 : Nat))) (h1 : (a2 ≤ (8 : Nat))) (h2 : ((a1 + a4) ≤ a3)) (h3 : (a0 ≤ a2)) : ((a0 + (a1 - a2)) ≤ (1000 : Nat)) := by lia
theorem o234 {a0 : Nat} {a1 : Nat} {a2 : Nat} (h0 : (a1 ≤ (8 : Nat))) (h1 : ((a0 + a2) ≤ a1)) : (a0 ≤ (1000 : Nat)) := by lia
theorem o235 {a0 : Nat} {a1 : Nat} {a2 : Nat} {a3 : Nat} (h0 : (a2 ≤ (8 : Nat))) (h1 : ((a0 + a3) ≤ a2)) : ((a0 - a1) ≤ (1000 : Nat)) := by lia
theorem o236 {a0 : Nat} (h0 : (a0 ≤ (850 : Nat))) : (a0 ≤ (8000 : Nat)) := by lia
theorem o237 {a0 : Nat} {a1 : Nat} {a2 : Nat} {a3 : Nat} {a4 : Nat} (h0 : ((a0 + a3) ≤ a4)) (h1 : (((a1 : Nat) : Int) ≤ ((a0 : Nat) : Int))) (h2 : (a2 = ((a4 + (1 : Nat)) - a1))) : ((a0 - a1) < a2) := by apply Nat.sub_lt_left_of_lt_add <;> lia
theorem o238 {a0 : Nat} {a1 : Nat} {a2 : Nat} (h0 : ((a0 + (a1 * (a2 + (1 : Nat)))) ≤ ((850 : Nat) + ((8 : Nat) * (851 : Nat))))) : ((a0 + (a1 * (a2 + (1 : Nat)))) ≤ (8000 : Nat)) := by grind
theorem o239 {a0 : Int} {a1 : Nat} {a2 : Int} (h0 : (((Int.natAbs a0) * (Int.natAbs a2)) < a1)) (h1 : (((Int.natAbs a0) * (1 : Nat)) ≤ ((Int.natAbs a0) * (Int.natAbs a2)))) : ((Int.natAbs a0) < a1) := by lia
theorem o240 {a0 : Int} (h0 : (a0 ≠ (0 : Int))) : ((1 : Nat) ≤ (Int.natAbs a0)) := by exact Int.natAbs_pos.mpr h0
theorem o241 {a0 : Nat} {a1 : Nat} {a2 : Nat} (h0 : (a0 ≤ (850 : Nat))) (h1 : ((a1 * (a2 + (1 : Nat))) ≤ ((8 : Nat) * (851 : Nat)))) : ((a0 + (a1 * (a2 + (1 : Nat)))) ≤ ((850 : Nat) + ((8 : Nat) * (851 : Nat)))) := by exact Nat.add_le_add h0 h1
theorem o242 {a0 : Nat} (h0 : (a0 ≤ (850 : Nat))) : ((a0 + (1 : Nat)) ≤ (851 : Nat)) := by exact Nat.lt_succ_of_le h0
theorem o243 {a0 : Nat} {a1 : Nat} {a2 : Nat} (h0 : (a1 ≤ (8 : Nat))) (h1 : ((a2 + a0) ≤ a1)) : (a0 ≤ (8 : Nat)) := by lia
theorem o244 {a0 : Int} {a1 : Int} : (a0 = (((0 : Int) * a1) + a0)) := by simp
theorem o245 {a0 : Nat} {a1 : Nat} : (a0 ≤ (a0 + ((0 : Nat) * (a1 + (1 : Nat))))) := by exact Nat.le_add_right a0 (0 * (a1 + 1))
theorem o246 {a0 : Nat} {a1 : Nat} (h0 : (a0 ≤ (8 : Nat))) : (((a0 + (1 : Nat)) - a1) ≤ (1000000 : Nat)) := by omega
theorem o247 {a0 : Nat} {a1 : Nat} {a2 : Nat} (h0 : ((a1 + (1 : Nat)) = (a2 + a0))) (h1 : ((0 : Nat) < a2)) : (a0 ≤ a1) := by lia
theorem o248 {a0 : Nat} {a1 : Nat} (h0 : (a1 ≤ a0)) : (((a0 - a1) + a1) ≤ a0) := by simp_all
theorem o249 {a0 : Nat} {a1 : Nat} {a2 : Nat} {a3 : Nat} (h0 : (a3 ≤ (a2 - (1 : Nat)))) (h1 : ((a0 + a1) ≤ a3)) : ((a0 + a1) ≤ a2) := by omega
theorem o250 {a0 : Nat} {a1 : Nat} {a2 : Nat} {a3 : Nat} (h0 : ((0 : Nat) < a2)) (h1 : (a3 ≤ (a1 - (1 : Nat)))) (h2 : ((a0 + a2) ≤ a3)) : (¬ (a0 = (a1 - a2))) := by omega
theorem o251 {a0 : Nat} {a1 : Nat} {a2 : Nat} : ((a0 + (a1 * (a2 + (1 : Nat)))) ≤ ((a0 + (a1 * (a2 + (1 : Nat)))) + a2)) := by exact Nat.le_add_right (a0 + a1 * (a2 + 1)) a2
theorem o252 {a0 : Nat} {a1 : Nat} {a2 : Nat} {a3 : Nat} {a4 : Nat} (h0 : (a1 ≤ a0)) (h1 : ((a0 + a3) ≤ a4)) (h2 : (a2 = ((a4 + (1 : Nat)) - a1))) : ((a0 - a1) < a2) := by apply Nat.sub_lt_left_of_lt_add <;> lia
theorem o253 {a0 : Nat} {a1 : Nat} {a2 : Nat} : ((a0 + ((a1 * (a2 + (1 : Nat))) + (a2 + (1 : Nat)))) = (((a0 + (a1 * (a2 + (1 : Nat)))) + a2) + (1 : Nat))) := by lia
theorem o254 {a0 : Int} {a1 : Int} {a2 : Int} {a3 : Int} {a4 : Nat} (h0 : ((0 : Nat) < a4)) : ((a0 + (a1 * a2)) = ((a3 + (a1 * a2)) + (a0 - a3))) := by lia
theorem o255 {a0 : Nat} {a1 : Nat} (h0 : (a0 < a1)) : (a0 < a1) := by omega
theorem o256 {a0 : Int} {a1 : Int} (h0 : (a1 < ((2 : Int) ^ (20 : Nat)))) (h1 : ((0 : Int) ≤ a0)) (h2 : (a0 < a1)) : ((Int.natAbs a0) < ((2 : Nat) ^ (30 : Nat))) := by lia
theorem o257 {a0 : Int} (h0 : ((0 : Int) ≤ a0)) (h1 : (a0 < ((2 : Int) ^ (20 : Nat)))) : ((Int.natAbs a0) < ((2 : Nat) ^ (30 : Nat))) := by lia
theorem o258 {a0 : Nat} {a1 : Nat} (h0 : (a0 ≤ a1)) (h1 : ((a1 - (1 : Nat)) < a0)) : (a0 = a1) := by lia
theorem o259 (h0 : ((0 : Int) = (1 : Int))) : False := by simp_all
theorem o260 {a0 : Nat} {a1 : Nat} (h0 : (¬ ((a1 - (1 : Nat)) < a0))) : (a0 ≤ (a1 - (1 : Nat))) := by exact Nat.le_of_not_lt h0
theorem o261 {a0 : Int} (h0 : ((2 : Int) ≤ a0)) : (((0 : Int) ≤ (1 : Int)) ∧ ((1 : Int) < a0)) := by constructor <;> lia
theorem o262 {a0 : Int} (h0 : ((2 : Int) ≤ a0)) : ((0 : Int) < a0) := by exact Int.le_of_lt h0
theorem o263 {a0 : Int} (h0 : ((2 : Int) ≤ a0)) : ((((Int.toNat a0) : Nat) : Int) = a0) := by grind
theorem o264 {a0 : Int} (h0 : ((0 : Int) < a0)) : ((((Int.toNat a0) : Nat) : Int) = a0) := by grind
theorem o265 {a0 : Int} (h0 : (a0 < ((2 : Int) ^ (20 : Nat)))) (h1 : ((2 : Int) ≤ a0)) : ((Int.natAbs (((2 : Int) * a0) + (2 : Int))) < ((2 : Nat) ^ (30 : Nat))) := by grind
theorem o266 {a0 : Nat} {a1 : Int} {a2 : Int} (h0 : (a2 < a1)) (h1 : (((a0 : Nat) : Int) ≤ a2)) : (((a0 : Nat) : Int) < a1) := by exact Int.lt_of_le_of_lt h1 h0
theorem o267 {a0 : Nat} (h0 : ((0 : Nat) < a0)) (h1 : (¬ (a0 = (1 : Nat)))) : ((2 : Int) ≤ ((a0 : Nat) : Int)) := by lia
theorem o268 {a0 : Int} {a1 : Int} {a2 : Int} (h0 : (a2 < a1)) (h1 : ((0 : Int) ≤ a0)) (h2 : (a0 < a2)) : (((0 : Int) ≤ a0) ∧ (a0 < a1)) := by constructor <;> lia
theorem o269 {a0 : Int} {a1 : Int} {a2 : Int} (h0 : (a0 = (a1 + (a2 * (0 : Int))))) : (a0 = a1) := by simp_all
theorem o270 {a0 : Int} {a1 : Int} {a2 : Int} {a3 : Int} (h0 : (a1 < a2)) (h1 : ((0 : Int) ≤ a3)) (h2 : (a1 = (a3 + (a2 * a0)))) (h3 : ((a2 * (1 : Int)) ≤ (a2 * a0))) : (a0 = (0 : Int)) := by lia
theorem o271 {a0 : Int} {a1 : Int} {a2 : Int} {a3 : Int} (h0 : ((0 : Int) ≤ a1)) (h1 : (a2 < a3)) (h2 : (a1 = (a2 + (a3 * a0)))) (h3 : ((a3 * a0) ≤ (a3 * (-(1 : Int))))) : (a0 = (0 : Int)) := by lia
theorem o272 {a0 : Nat} {a1 : Nat} {a2 : Nat} (h0 : (¬ (a2 < (a0 - (1 : Nat))))) : ((min (a0 - (1 : Nat)) a1) ≤ a2) := by grind
theorem o273 {a0 : Nat} {a1 : Nat} (h0 : (¬ (a1 < (a0 - (1 : Nat))))) : (((0 : Nat) + a0) ≤ (a1 + (1 : Nat))) := by simp_all
theorem o274 {a0 : Nat} {a1 : Nat} {a2 : Nat} (h0 : ((0 : Nat) < a1)) (h1 : (a0 ≤ (min (a1 - (1 : Nat)) a2))) : (a0 < a1) := by grind
theorem o275 {a0 : Int} {a1 : Int} (h0 : ((0 : Int) ≤ a1)) (h1 : (a1 < a0)) : (((0 : Int) ≤ (0 : Int)) ∧ ((0 : Int) < a0)) := by constructor <;> lia
theorem o276 {a0 : Nat} (h0 : ((0 : Nat) < a0)) : ((((a0 : Nat) : Int) - (1 : Int)) = (((a0 - (1 : Nat)) : Nat) : Int)) := by lia
theorem o277 {a0 : Nat} {a1 : Nat} {a2 : Nat} (h0 : ((a0 + (1 : Nat)) ≤ ((a1 + (1 : Nat)) - a2))) : (a0 ≤ ((a1 + (1 : Nat)) - a2)) := by exact Nat.le_of_lt h0
theorem o278 {a0 : Nat} {a1 : Nat} (h0 : (a0 ≤ a1)) (h1 : (¬ (a0 = a1))) : (a0 < a1) := by exact Nat.lt_of_le_of_ne h0 h1
theorem o279 {a0 : Nat} {a1 : Nat} (h0 : (¬ (a1 < a0))) : (a0 ≤ a1) := by exact Nat.le_of_not_lt h0
theorem o280 {a0 : Nat} {a1 : Nat} {a2 : Nat} {a3 : Nat} {a4 : Nat} (h0 : ((a0 + (1 : Nat)) ≤ ((a3 + (1 : Nat)) - a4))) (h1 : (a2 = a3)) (h2 : (a1 < a4)) : ((a0 + a1) < a2) := by omega
theorem o281 {a0 : Nat} {a1 : Nat} (h0 : (a0 < a1)) : ((a0 + (1 : Nat)) ≤ a1) := by exact Nat.succ_le_of_lt h0
theorem o282 {a0 : Int} {a1 : Int} {a2 : Int} (h0 : (a2 < a1)) (h1 : (a0 < a2)) : (a0 < a1) := by exact Int.lt_trans h1 h0
theorem o283 {a0 : Int} (h0 : ((0 : Int) ≤ a0)) : ((0 : Int) ≤ a0) := by omega
theorem o284 {a0 : Nat} {a1 : Nat} : ((((a0 : Nat) : Int) + ((a1 : Nat) : Int)) = (((a0 + a1) : Nat) : Int)) := by constructor <;> omega
theorem o285 {a0 : Nat} {a1 : Nat} : (¬ ((a0 ≤ a1) ∧ (a1 < (a0 + (0 : Nat))))) := by simp
theorem o286 {a0 : Nat} : ((0 : Nat) ≤ a0) := by exact Nat.zero_le a0
theorem o287 {a0 : Int} (h0 : ((0 : Int) < a0)) : ((0 : Int) < a0) := by omega
theorem o288 {a0 : Nat} {a1 : Nat} {a2 : Nat} {a3 : Nat} (h0 : (a1 = ((a2 + (1 : Nat)) - a3))) (h1 : ((a0 + (1 : Nat)) ≤ ((a2 + (1 : Nat)) - a3))) : (a0 < a1) := by exact Nat.lt_of_lt_of_eq h1 (id (Eq.symm h0))
theorem o289 {a0 : Nat} {a1 : Nat} {a2 : Nat} {a3 : Nat} (h0 : ((0 : Nat) < a1)) (h1 : ((a0 + (1 : Nat)) ≤ ((a3 + (1 : Nat)) - a1))) (h2 : (a2 = a3)) : (((a0 + a1) - (1 : Nat)) < a2) := by omega
theorem o290 {a0 : Nat} {a1 : Nat} (h0 : ((0 : Nat) < a1)) : (((((a0 : Nat) : Int) + ((a1 : Nat) : Int)) - (1 : Int)) = ((((a0 + a1) - (1 : Nat)) : Nat) : Int)) := by lia
theorem o291 {a0 : Nat} {a1 : Nat} {a2 : Nat} (h0 : ((((a0 + (1 : Nat)) - a2) + a2) ≤ (a1 + (1 : Nat)))) : (a0 ≤ a1) := by omega
theorem o292 {a0 : Nat} {a1 : Nat} {a2 : Nat} (h0 : (a2 < ((a0 + (1 : Nat)) - a1))) : (((((a0 : Nat) : Int) - ((a1 : Nat) : Int)) - ((a2 : Nat) : Int)) = ((((((a0 + (1 : Nat)) - a1) : Nat) : Int) - (1 : Int)) - ((a2 : Nat) : Int))) := by lia
theorem o293 {a0 : Nat} {a1 : Nat} : ((Int.toNat ((((a0 : Nat) : Int) - ((a1 : Nat) : Int)) - (-(1 : Int)))) = ((a0 + (1 : Nat)) - a1)) := by lia
theorem o294 {a0 : Nat} {a1 : Nat} (h0 : (a0 ≤ (100 : Nat))) : ((Int.toNat ((((a0 : Nat) : Int) - ((a1 : Nat) : Int)) - (-(1 : Int)))) ≤ (1000000 : Nat)) := by lia
theorem o295 : (((-(((1000000 : Nat) : Nat) : Int)) ≤ (-(1 : Int))) ∧ ((-(1 : Int)) ≤ (((1000000 : Nat) : Nat) : Int))) := by decide
theorem o296 {a0 : Nat} {a1 : Nat} (h0 : (a0 ≤ (100 : Nat))) (h1 : (a1 ≤ (100 : Nat))) : (((-(((1000000 : Nat) : Nat) : Int)) ≤ (((a0 : Nat) : Int) - ((a1 : Nat) : Int))) ∧ ((((a0 : Nat) : Int) - ((a1 : Nat) : Int)) ≤ (((1000000 : Nat) : Nat) : Int))) := by constructor <;> lia
theorem o297 {a0 : Nat} {a1 : Nat} (h0 : (a0 ≤ (100 : Nat))) : (((a0 + (1 : Nat)) - a1) ≤ (1000000 : Nat)) := by omega
theorem o298 {a0 : Int} (h0 : ((2 : Int) ≤ a0)) : (a0 ≠ (0 : Int)) := by lia
theorem o299 {a0 : Nat} {a1 : Nat} {a2 : Nat} (h0 : (¬ (a1 = (a0 + a2)))) (h1 : (¬ ((a0 ≤ a1) ∧ (a1 < (a0 + a2))))) : (¬ ((a0 ≤ a1) ∧ (a1 < (a0 + (a2 + (1 : Nat)))))) := by lia
theorem o300 {a0 : Nat} {a1 : Nat} {a2 : Nat} (h0 : (a0 ≤ a1)) (h1 : (a1 < (a0 + a2))) : ((a0 ≤ a1) ∧ (a1 < (a0 + (a2 + (1 : Nat))))) := by constructor <;> lia
theorem o301 {a0 : Nat} {a1 : Nat} {a2 : Nat} (h0 : ((a1 + a0) < a2)) : (a0 = ((a1 + a0) - a1)) := by exact Nat.eq_sub_of_add_eq' rfl
theorem o302 {a0 : Nat} {a1 : Nat} {a2 : Nat} (h0 : ((a0 + a1) < a2)) : (¬ ((a0 ≤ (a0 + a1)) ∧ ((a0 + a1) < (a0 + a1)))) := by simp
theorem o303 {a0 : Nat} {a1 : Nat} {a2 : Nat} (h0 : ((a0 + a1) < a2)) : ((a0 ≤ (a0 + a1)) ∧ ((a0 + a1) < (a0 + (a1 + (1 : Nat))))) := by simp
theorem o304 {a0 : Nat} {a1 : Nat} {a2 : Nat} (h0 : ((a0 + a1) ≤ (a2 + (1 : Nat)))) (h1 : (¬ (a2 = ((a0 + a1) - (1 : Nat))))) : (((a0 + (1 : Nat)) + a1) ≤ (a2 + (1 : Nat))) := by lia
theorem o305 : ((0 : Int) ≤ (0 : Int)) := by exact Int.zero_le_ofNat 0
theorem o306 {a0 : Nat} {a1 : Nat} {a2 : Nat} (h0 : ((a0 + a2) ≤ (a1 + (1 : Nat)))) (h1 : (¬ (a1 = ((a0 + a2) - (1 : Nat))))) : (¬ ((a0 ≤ a1) ∧ (a1 < (a0 + a2)))) := by lia
theorem o307 {a0 : Nat} {a1 : Nat} : ((((a0 + a1) - (1 : Nat)) - a0) = (a1 - (1 : Nat))) := by lia
theorem o308 {a0 : Nat} {a1 : Nat} (h0 : ((0 : Nat) < a1)) : ((a0 ≤ ((a0 + a1) - (1 : Nat))) ∧ (((a0 + a1) - (1 : Nat)) < (a0 + a1))) := by constructor <;> omega
theorem o309 {a0 : Int} {a1 : Int} {a2 : Int} : (a0 = ((a0 - (a1 * (0 : Int))) + (a2 * (0 : Int)))) := by simp
theorem o310 {a0 : Nat} {a1 : Nat} {a2 : Nat} (h0 : (¬ (a1 < (a2 + a0)))) : (a0 ≤ (a1 - a2)) := by omega
theorem o311 {a0 : Nat} {a1 : Nat} {a2 : Nat} (h0 : (¬ (a1 < (a0 + a2)))) : (¬ ((a0 ≤ a1) ∧ (a1 < (a0 + a2)))) := by simp_all
theorem o312 {a0 : Nat} {a1 : Nat} {a2 : Nat} (h0 : (¬ (a1 < a0))) (h1 : (a1 < (a0 + a2))) : ((a0 ≤ a1) ∧ (a1 < (a0 + a2))) := by simp_all
theorem o313 {a0 : Nat} {a1 : Nat} {a2 : Nat} (h0 : (a1 < a0)) : (¬ ((a0 ≤ a1) ∧ (a1 < (a0 + a2)))) := by lia
theorem o314 {a0 : Nat} : ((((((a0 + (1 : Nat)) : Nat) : Int) - (1 : Int)) - (((0 : Nat) : Nat) : Int)) = ((a0 : Nat) : Int)) := by omega
theorem o315 {a0 : Nat} {a1 : Nat} {a2 : Nat} (h0 : (a2 ≤ a1)) (h1 : (a0 < a2)) : (a0 < a1) := by exact Nat.lt_of_lt_of_le h1 h0
theorem o316 {a0 : Nat} {a1 : Nat} (h0 : (a1 ≤ (100 : Nat))) (h1 : (a0 = a1)) : (a0 ≤ (100 : Nat)) := by exact le_of_eq_of_le h1 h0
theorem o317 {a0 : Int} (h0 : (a0 ≠ (0 : Int))) (h1 : ((0 : Int) = a0)) : False := by exact (fun {a : Prop} (h : ¬a) ↦ (iff_false_intro h).mp) h0 (id (Eq.symm h1))
theorem o318 {a0 : Nat} {a1 : Nat} (h0 : (a0 = a1)) (h1 : (a1 ≤ (100 : Nat))) : (a0 ≤ (100 : Nat)) := by exact le_of_eq_of_le h0 h1
theorem o319 {a0 : Nat} {a1 : Nat} (h0 : (a0 < a1)) (h1 : (a1 ≤ (100 : Nat))) : (a0 ≤ (100 : Nat)) := by lia
theorem o320 {a0 : Int} (h0 : ((0 : Int) < a0)) : (¬ (a0 = (0 : Int))) := by exact Int.ne_of_gt h0
theorem o321 {a0 : Int} : ((a0 * (-(1 : Int))) = (-a0)) := by exact Int.mul_neg_one a0
theorem o322 {a0 : Int} (h0 : ((0 : Int) < a0)) : ((-a0) ≠ (0 : Int)) := by omega
theorem o323 {a0 : Int} {a1 : Nat} {a2 : Int} (h0 : ((Int.natAbs a0) ≤ (Int.natAbs a2))) (h1 : ((Int.natAbs a2) < a1)) : ((Int.natAbs a0) < a1) := by exact Nat.lt_of_le_of_lt h0 h1
theorem o324 {a0 : Int} (h0 : (a0 ≠ (0 : Int))) : ((0 : Nat) < (Int.natAbs a0)) := by exact Int.natAbs_pos.mpr h0
theorem o325 {a0 : Nat} {a1 : Int} (h0 : ((0 : Int) ≤ a1)) : ((0 : Int) ≤ ((a0 : Nat) : Int)) := by exact Int.natCast_nonneg a0
theorem o326 {a0 : Int} (h0 : ((0 : Int) ≤ a0)) (h1 : (¬ ((0 : Int) < a0))) : (a0 = (0 : Int)) := by lia
theorem o327 {a0 : Nat} {a1 : Nat} {a2 : Nat} (h0 : (a0 ≤ a2)) (h1 : (¬ ((a1 + (1 : Nat)) < a2))) (h2 : (¬ ((a1 + (1 : Nat)) = a2))) : (a0 ≤ (a1 - (a2 - a0))) := by lia
theorem o328 {a0 : Nat} {a1 : Nat} (h0 : (¬ ((a1 + (1 : Nat)) < a0))) (h1 : (¬ ((a1 + (1 : Nat)) = a0))) : (a0 ≤ a1) := by lia
theorem o329 {a0 : Nat} {a1 : Nat} {a2 : Nat} (h0 : (a2 ≤ a1)) (h1 : ((a0 + (1 : Nat)) = a1)) : ((a0 - (a1 - a2)) = (a2 - (1 : Nat))) := by lia
theorem o330 {a0 : Nat} {a1 : Nat} (h0 : ((a0 + (1 : Nat)) = a1)) : (a0 = (a1 - (1 : Nat))) := by exact Nat.eq_sub_of_add_eq h0
theorem o331 {a0 : Nat} {a1 : Nat} {a2 : Nat} (h0 : (a1 ≤ a0)) (h1 : (¬ ((a2 + (1 : Nat)) < a0))) : (¬ (((a0 - a1) ≤ a2) ∧ (a2 < ((a0 - a1) + (a1 - (1 : Nat)))))) := by omega
theorem o332 {a0 : Nat} {a1 : Nat} {a2 : Nat} (h0 : (¬ (a2 < (a0 - a1)))) (h1 : ((a2 + (1 : Nat)) < a0)) : (((a0 - a1) ≤ a2) ∧ (a2 < ((a0 - a1) + (a1 - (1 : Nat))))) := by constructor <;> omega
theorem o333 {a0 : Int} {a1 : Int} : ((a0 * a1) = ((a0 * a1) - (0 : Int))) := by exact Eq.symm (Int.sub_zero (a0 * a1))
theorem o334 {a0 : Nat} {a1 : Nat} {a2 : Nat} (h0 : ((0 : Nat) < a2)) (h1 : (a0 < (a1 - a2))) : ((a0 + (1 : Nat)) < a1) := by omega
theorem o335 {a0 : Nat} {a1 : Nat} {a2 : Nat} (h0 : (a2 < (a0 - a1))) : (¬ (((a0 - a1) ≤ a2) ∧ (a2 < ((a0 - a1) + (a1 - (1 : Nat)))))) := by lia
theorem o336 {a0 : Nat} {a1 : Nat} {a2 : Nat} (h0 : (a1 = (a2 - (1 : Nat)))) (h1 : (a0 ≤ (a2 - (1 : Nat)))) (h2 : (¬ (a0 = (a2 - (1 : Nat))))) : (a0 < a1) := by lia
theorem o337 {a0 : Nat} {a1 : Nat} {a2 : Nat} (h0 : (a0 = (a2 - (1 : Nat)))) (h1 : (¬ (a1 < (a2 - (1 : Nat))))) : (a0 ≤ a1) := by simp_all
theorem o338 {a0 : Nat} {a1 : Nat} (h0 : (a0 < (a1 - (1 : Nat)))) : ((a0 + (1 : Nat)) ≤ (a1 - (1 : Nat))) := by exact Nat.succ_le_of_lt h0
theorem o339 {a0 : Nat} {a1 : Nat} {a2 : Nat} {a3 : Nat} (h0 : (a1 ≤ a0)) (h1 : (a3 = (a0 - (1 : Nat)))) (h2 : (a2 < (a1 - (1 : Nat)))) : (((a0 - a1) + a2) < a3) := by omega
theorem o340 {a0 : Nat} (h0 : (a0 ≤ (600 : Nat))) : (a0 ≤ (8000 : Nat)) := by lia
theorem o341 {a0 : Nat} {a1 : Nat} {a2 : Nat} : ((((a0 : Nat) : Int) + (((a1 - a2) : Nat) : Int)) = ((((a1 - a2) + a0) : Nat) : Int)) := by lia
theorem o342 {a0 : Nat} {a1 : Nat} (h0 : (a0 < (a1 - (1 : Nat)))) : ((a0 + (1 : Nat)) < a1) := by exact Nat.add_lt_of_lt_sub h0
theorem o343 {a0 : Nat} {a1 : Nat} {a2 : Nat} (h0 : (a1 = (a2 - (1 : Nat)))) (h1 : (a0 < (a2 - (1 : Nat)))) : (a0 < a1) := by exact Nat.lt_of_lt_of_eq h1 (id (Eq.symm h0))
theorem o344 {a0 : Nat} {a1 : Nat} {a2 : Nat} : (¬ (((a0 - a1) ≤ a2) ∧ (a2 < ((a0 - a1) + (0 : Nat))))) := by simp
theorem o345 {a0 : Nat} : ((0 : Nat) ≤ (a0 - (1 : Nat))) := by exact Nat.zero_le (a0 - 1)
theorem o346 {a0 : Nat} {a1 : Nat} (h0 : (a0 ≤ (600 : Nat))) (h1 : ((a0 + (a1 * (a0 + (1 : Nat)))) ≤ (a0 + ((5 : Nat) * (a0 + (1 : Nat)))))) : ((a0 + (a1 * (a0 + (1 : Nat)))) ≤ (8000 : Nat)) := by lia
theorem o347 {a0 : Nat} {a1 : Nat} (h0 : ((a1 * (a0 + (1 : Nat))) ≤ ((5 : Nat) * (a0 + (1 : Nat))))) : ((a0 + (a1 * (a0 + (1 : Nat)))) ≤ (a0 + ((5 : Nat) * (a0 + (1 : Nat))))) := by simp_all
theorem o348 {a0 : Nat} {a1 : Nat} (h0 : (¬ ((a1 + (1 : Nat)) < a0))) : (a0 ≤ (a1 + (1 : Nat))) := by exact Nat.le_of_not_lt h0
theorem o349 {a0 : Nat} {a1 : Nat} (h0 : ((a0 + (1 : Nat)) < a1)) : (a0 < (a1 - (1 : Nat))) := by exact Nat.lt_sub_of_add_lt h0
theorem o350 {a0 : Nat} : ((Int.toNat ((-(1 : Int)) + ((a0 : Nat) : Int))) = (a0 - (1 : Nat))) := by lia
theorem o351 {a0 : Int} {a1 : Nat} {a2 : Int} (h0 : (((Int.natAbs a2) * (Int.natAbs a0)) < a1)) (h1 : (((1 : Nat) * (Int.natAbs a0)) ≤ ((Int.natAbs a2) * (Int.natAbs a0)))) : ((Int.natAbs a0) < a1) := by lia
theorem o352 {a0 : Int} {a1 : Int} (h0 : (a0 = (a0 * a1))) : ((a0 * a1) = (a0 * (1 : Int))) := by lia
theorem o353 {a0 : Int} (h0 : ((0 : Int) < a0)) : ((((Int.natAbs a0) : Nat) : Int) = a0) := by lia
theorem o354 {a0 : Int} (h0 : ((0 : Int) < a0)) : ((((Int.natAbs (-a0)) : Nat) : Int) = a0) := by grind
theorem o355 {a0 : Int} {a1 : Int} {a2 : Int} (h0 : (a1 = (-(a2 * a0)))) (h1 : (¬ ((0 : Int) < a1))) (h2 : ((a2 * a0) < (0 : Int))) : ((0 : Int) < a0) := by simp_all
theorem o356 {a0 : Int} {a1 : Int} {a2 : Int} (h0 : (a1 = ((-a2) * (0 : Int)))) (h1 : (a1 ≠ (0 : Int))) : ((0 : Int) < a0) := by simp_all
theorem o357 {a0 : Int} {a1 : Int} {a2 : Int} (h0 : (a1 = (a2 * a0))) (h1 : ((0 : Int) < a1)) (h2 : ((a2 * a0) < (0 : Int))) : ((0 : Int) < a0) := by grind
theorem o358 {a0 : Int} {a1 : Int} {a2 : Int} (h0 : (a1 = (a2 * (0 : Int)))) (h1 : (a1 ≠ (0 : Int))) : ((0 : Int) < a0) := by simp_all
theorem o359 {a0 : Int} {a1 : Int} : (((1 : Int) * (a0 * a1)) = (a0 * a1)) := by exact Int.one_mul (a0 * a1)
theorem o360 {a0 : Int} {a1 : Int} {a2 : Int} {a3 : Int} (h0 : ((a2 * a0) = (a3 * a1))) (h1 : ((0 : Int) < (a3 * a1))) (h2 : ((a2 * a0) < (0 : Int))) : (a0 = a1) := by lia
theorem o361 {a0 : Int} {a1 : Int} {a2 : Int} {a3 : Int} (h0 : ((a2 * a0) = (a3 * a1))) (h1 : ((0 : Int) < (a2 * a0))) (h2 : ((a3 * a1) < (0 : Int))) : (a0 = a1) := by lia
theorem o362 {a0 : Int} {a1 : Int} {a2 : Int} {a3 : Int} (h0 : ((a2 * a3) = (a0 * a1))) : ((a0 * a1) = (a2 * a3)) := by simp_all
theorem o363 {a0 : Nat} {a1 : Nat} {a2 : Nat} (h0 : (a1 ≤ a2)) (h1 : ((a1 + (1 : Nat)) = (a0 + a2))) (h2 : ((0 : Nat) < a0)) : (a0 = (1 : Nat)) := by lia
theorem o364 {a0 : Int} {a1 : Int} {a2 : Int} {a3 : Int} {a4 : Int} {a5 : Int} (h0 : (((a2 * a3) + (a0 * a1)) = (a4 * a5))) : (((a0 * a1) + (a2 * a3)) = (a4 * a5)) := by lia
theorem o365 {a0 : Nat} {a1 : Nat} (h0 : (¬ ((1 : Int) < ((a0 : Nat) : Int)))) (h1 : ((0 : Nat) < a1)) : (a0 ≤ a1) := by lia
theorem o366 {a0 : Nat} (h0 : (a0 < (2 : Nat))) : (((3 : Nat) - (a0 + (1 : Nat))) < ((3 : Nat) - a0)) := by apply Nat.sub_lt_left_of_lt_add <;> lia
theorem o367 {a0 : Nat} {a1 : Nat} (h0 : (a0 ≤ (5 : Nat))) : ((a0 - a1) ≤ (100 : Nat)) := by lia
theorem o368 {a0 : Nat} (h0 : (a0 ≤ (4 : Nat))) : (a0 < (1000000 : Nat)) := by lia
theorem o369 {a0 : Nat} (h0 : (a0 ≤ (474 : Nat))) : (a0 ≤ (600 : Nat)) := by lia
theorem o370 {a0 : Nat} {a1 : Nat} (h0 : (a0 ≤ a1)) (h1 : (a1 ≤ (5 : Nat))) : (a0 ≤ (5 : Nat)) := by exact Nat.le_trans h0 h1
theorem o371 : ((12 : Nat) ≤ (474 : Nat)) := by exact Nat.le_of_ble_eq_true rfl
theorem o372 : ((78 : Nat) ≤ (474 : Nat)) := by exact Nat.le_of_ble_eq_true rfl
theorem o373 : ((474 : Nat) ≤ (474 : Nat)) := by constructor <;> omega
theorem o374 {a0 : Nat} {a1 : Nat} (h0 : (((a0 : Nat) : Int) < ((a1 : Nat) : Int))) : (a0 ≤ a1) := by lia
theorem o375 {a0 : Int} {a1 : Int} (h0 : (((1 : Nat) * (Int.natAbs a0)) ≤ ((Int.natAbs a1) * (Int.natAbs a0)))) : ((Int.natAbs a0) ≤ ((Int.natAbs a1) * (Int.natAbs a0))) := by simp_all
theorem o376 {a0 : Nat} {a1 : Nat} {a2 : Nat} {a3 : Nat} {a4 : Nat} (h0 : (a0 < a2)) (h1 : (a2 < a3)) (h2 : (a3 ≤ a4)) (h3 : (a4 ≤ (a1 + (2 : Nat)))) : (a0 ≤ a1) := by lia
theorem o377 {a0 : Nat} {a1 : Nat} {a2 : Nat} (h0 : (a1 < a0)) (h1 : (a2 ≤ a1)) (h2 : ((0 : Nat) < a2)) : ((2 : Nat) ≤ a0) := by lia
theorem o378 {a0 : Nat} {a1 : Nat} (h0 : (((a0 + (1 : Nat)) - a1) = (2 : Nat))) : (a0 = (a1 + (1 : Nat))) := by grind
theorem o379 {a0 : Nat} {a1 : Nat} (h0 : (((a0 + (1 : Nat)) - a1) = (1 : Nat))) : (a0 = a1) := by lia
theorem o380 {a0 : Nat} {a1 : Nat} {a2 : Nat} {a3 : Nat} {a4 : Nat} (h0 : (a2 < a1)) (h1 : (a3 ≤ a2)) (h2 : (a1 < a0)) (h3 : (a0 ≤ a4)) (h4 : (a4 ≤ (a3 + (2 : Nat)))) : (((a0 + (1 : Nat)) - a1) = (2 : Nat)) := by lia
theorem o381 {a0 : Nat} {a1 : Nat} (h0 : (a1 ≤ a0)) (h1 : ((a0 - a1) = (0 : Nat))) : (((a0 + (1 : Nat)) - a1) = (1 : Nat)) := by grind
theorem o382 {a0 : Nat} {a1 : Nat} {a2 : Nat} {a3 : Nat} {a4 : Nat} (h0 : (a2 < a3)) (h1 : (a4 ≤ a2)) (h2 : (a3 < a1)) (h3 : (a0 ≤ (a4 + (2 : Nat)))) : ((a0 - a1) = (0 : Nat)) := by lia
theorem o383 {a0 : Nat} (h0 : (a0 = (0 : Nat))) : ((12 : Nat) ≤ (474 : Nat)) := by exact Nat.le_of_ble_eq_true rfl
theorem o384 : ((2 : Nat) ≤ (2 : Nat)) := by constructor <;> omega
theorem o385 {a0 : Nat} {a1 : Nat} {a2 : Nat} (h0 : (a1 ≤ (5 : Nat))) (h1 : (a2 ≤ a1)) (h2 : (a0 < a2)) : (a0 ≤ (5 : Nat)) := by lia
theorem o386 {a0 : Nat} {a1 : Nat} (h0 : (a0 < a1)) : (a0 ≤ a1) := by exact Nat.le_of_lt h0
theorem o387 : ((1 : Nat) ≤ (2 : Nat)) := by exact Nat.le_of_ble_eq_true rfl
theorem o388 {a0 : Nat} {a1 : Nat} (h0 : (a1 ≤ (5 : Nat))) (h1 : (a0 ≤ a1)) : (a0 ≤ (5 : Nat)) := by exact Nat.le_trans h1 h0
theorem o389 : ((0 : Nat) ≤ (2 : Nat)) := by exact Nat.zero_le 2
theorem o390 {a0 : Nat} {a1 : Nat} {a2 : Nat} (h0 : (a1 = (a2 + (2 : Nat)))) (h1 : (a0 ≤ (a2 + (1 : Nat)))) : (a0 < a1) := by lia
theorem o391 {a0 : Nat} {a1 : Nat} {a2 : Nat} (h0 : (a0 = (a2 + (2 : Nat)))) (h1 : ((a2 + (1 : Nat)) ≤ a1)) (h2 : (¬ (a1 = (a2 + (1 : Nat))))) (h3 : (¬ (a1 = (a2 + (2 : Nat))))) : ((a0 + (1 : Nat)) ≤ a1) := by lia
theorem o392 {a0 : Nat} {a1 : Nat} {a2 : Nat} (h0 : (a0 = (a2 + (2 : Nat)))) (h1 : ((a2 + (1 : Nat)) ≤ a1)) (h2 : (¬ (a1 = (a2 + (1 : Nat))))) : (a0 ≤ a1) := by lia
theorem o393 {a0 : Nat} {a1 : Nat} {a2 : Nat} {a3 : Nat} (h0 : (a0 = (a2 + (1 : Nat)))) (h1 : (a2 = (a3 + (2 : Nat)))) (h2 : ((a3 + (1 : Nat)) ≤ a1)) (h3 : (¬ (a1 = (a3 + (1 : Nat))))) (h4 : (¬ (a1 = (a3 + (2 : Nat))))) : (a0 ≤ a1) := by lia
theorem o394 {a0 : Nat} {a1 : Nat} {a2 : Nat} {a3 : Nat} {a4 : Nat} (h0 : (a0 = a2)) (h1 : (a2 = (a3 + (1 : Nat)))) (h2 : (a3 = (a4 + (2 : Nat)))) (h3 : ((a4 + (1 : Nat)) ≤ a1)) (h4 : (¬ (a1 = (a4 + (1 : Nat))))) (h5 : (¬ (a1 = (a4 + (2 : Nat))))) : (a0 ≤ a1) := by lia
theorem o395 {a0 : Nat} {a1 : Nat} (h0 : (a0 = (a1 + (2 : Nat)))) : (a0 ≤ (a1 + (2 : Nat))) := by exact Nat.le_of_eq h0
theorem o396 {a0 : Nat} {a1 : Nat} {a2 : Nat} {a3 : Nat} (h0 : (a1 = (a2 + (1 : Nat)))) (h1 : (a2 = (a3 + (2 : Nat)))) (h2 : (a0 ≤ (a3 + (2 : Nat)))) : (a0 < a1) := by lia
theorem o397 {a0 : Nat} {a1 : Nat} {a2 : Nat} {a3 : Nat} (h0 : (a0 = (a2 + (1 : Nat)))) (h1 : (a2 = (a3 + (2 : Nat)))) (h2 : ((a3 + (2 : Nat)) ≤ a1)) (h3 : (¬ (a1 = (a3 + (2 : Nat))))) : (a0 ≤ a1) := by lia
theorem o398 {a0 : Nat} {a1 : Nat} {a2 : Nat} {a3 : Nat} {a4 : Nat} (h0 : (a0 = a2)) (h1 : (a2 = (a3 + (1 : Nat)))) (h2 : (a3 = (a4 + (2 : Nat)))) (h3 : ((a4 + (2 : Nat)) ≤ a1)) (h4 : (¬ (a1 = (a4 + (2 : Nat))))) : (a0 ≤ a1) := by lia
theorem o399 {a0 : Nat} {a1 : Nat} (h0 : (a1 = (a0 + (1 : Nat)))) : (a0 < a1) := by simp_all
theorem o400 {a0 : Nat} {a1 : Nat} (h0 : (a1 = (a0 + (2 : Nat)))) : ((a0 + (1 : Nat)) = (a1 - (1 : Nat))) := by simp_all
theorem o401 {a0 : Nat} {a1 : Nat} {a2 : Nat} {a3 : Nat} (h0 : (a1 = a2)) (h1 : (a2 = (a3 + (1 : Nat)))) (h2 : (a3 = (a0 + (2 : Nat)))) : ((a0 + (2 : Nat)) = (a1 - (1 : Nat))) := by simp_all
theorem o402 {a0 : Nat} {a1 : Nat} {a2 : Nat} (h0 : (a1 = (a2 + (1 : Nat)))) (h1 : (a2 = (a0 + (2 : Nat)))) : ((a0 + (2 : Nat)) = (a1 - (1 : Nat))) := by simp_all
theorem o403 {a0 : Nat} (h0 : ((2 : Nat) ≤ a0)) : (a0 = ((a0 - (2 : Nat)) + (2 : Nat))) := by simp_all
theorem o404 {a0 : Nat} : (¬ ((((a0 + (1 : Nat)) : Nat) : Int) = (0 : Int))) := by omega
theorem o405 {a0 : Nat} (h0 : ((a0 + (1 : Nat)) ≤ (100 : Nat))) : (a0 ≤ (100 : Nat)) := by exact Nat.le_of_lt h0
theorem o406 {a0 : Nat} : (((((a0 + (1 : Nat)) : Nat) : Int) - (1 : Int)) = ((a0 : Nat) : Int)) := by simp
theorem o407 : ((12 : Nat) ≤ (8000 : Nat)) := by exact Nat.le_of_ble_eq_true rfl
theorem o408 : ((77 : Nat) ≤ (8000 : Nat)) := by exact Nat.le_of_ble_eq_true rfl
theorem o409 : ((467 : Nat) ≤ (8000 : Nat)) := by exact Nat.le_of_ble_eq_true rfl
theorem o410 : ((2807 : Nat) ≤ (8000 : Nat)) := by exact Nat.le_of_ble_eq_true rfl
theorem o411 {a0 : Nat} (h0 : ((0 : Nat) < a0)) : (((a0 : Nat) : Int) ≠ (0 : Int)) := by exact Int.natAbs_pos.mp h0
theorem o412 {a0 : Nat} (h0 : (a0 ≤ (600 : Nat))) : ((a0 + ((5 : Nat) * (a0 + (1 : Nat)))) ≤ (8000 : Nat)) := by lia
theorem o413 {a0 : Nat} {a1 : Nat} {a2 : Nat} (h0 : (a1 ≤ a2)) (h1 : ((a2 + a0) ≤ (a1 + (2 : Nat)))) : ((a0 = (0 : Nat)) ∨ ((a0 = (1 : Nat)) ∨ (a0 = (2 : Nat)))) := by lia
theorem o414 {a0 : Int} (h0 : ((0 : Int) < a0)) : ((0 : Nat) < (Int.natAbs a0)) := by grind
theorem o415 {a0 : Nat} {a1 : Nat} {a2 : Nat} {a3 : Nat} (h0 : (a0 < a3)) (h1 : ((a3 + a1) ≤ (a2 + (2 : Nat)))) : ((a0 + (a1 + (1 : Nat))) ≤ (a2 + (2 : Nat))) := by lia
theorem o416 {a0 : Nat} {a1 : Nat} {a2 : Nat} (h0 : (a1 ≤ a2)) (h1 : ((a2 + a0) ≤ (a1 + (2 : Nat)))) : ((a0 + (1 : Nat)) ≤ (3 : Nat)) := by lia
theorem o417 {a0 : Nat} {a1 : Nat} (h0 : (a0 < a1)) (h1 : (a1 ≤ (5 : Nat))) : (a0 ≤ (5 : Nat)) := by lia
theorem o418 {a0 : Nat} : ((a0 = (1 : Nat)) ↔ (((a0 : Nat) : Int) = (1 : Int))) := by constructor <;> lia
theorem o419 {a0 : Nat} {a1 : Nat} (h0 : (a1 = a0)) (h1 : (¬ ((1 : Nat) < a1))) (h2 : ((0 : Nat) < a1)) : (a0 = (1 : Nat)) := by lia
theorem o420 {a0 : Nat} (h0 : (¬ ((1 : Nat) < a0))) : (¬ ((1 : Int) < ((a0 : Nat) : Int))) := by lia
theorem o421 {a0 : Nat} (h0 : ((1 : Nat) < a0)) : ((1 : Int) < ((a0 : Nat) : Int)) := by exact Int.lt_of_toNat_lt h0
theorem o422 {a0 : Int} (h0 : ((((Int.natAbs a0) : Nat) : Int) = (1 : Int))) (h1 : ((0 : Int) < a0)) : (a0 = (1 : Int)) := by omega
theorem o423 {a0 : Int} {a1 : Int} {a2 : Int} {a3 : Int} {a4 : Int} (h0 : ((109 : Int) ≤ a2)) (h1 : (((2 : Int) * a3) ≤ a2)) (h2 : ((Int.natAbs a4) ≤ (54 : Nat))) (h3 : ((a3 - a4) = (a2 * (a0 + a1)))) (h4 : ((a2 * (1 : Int)) ≤ (a2 * (a0 + a1)))) : ((a0 + a1) = (0 : Int)) := by omega
theorem o424 {a0 : Int} {a1 : Int} (h0 : ((0 : Int) < (a0 + a1))) : ((1 : Int) ≤ (a0 + a1)) := by exact Int.le_of_sub_one_lt h0
theorem o425 {a0 : Int} {a1 : Int} {a2 : Int} {a3 : Int} {a4 : Int} (h0 : ((109 : Int) ≤ a2)) (h1 : ((-a2) < ((2 : Int) * a3))) (h2 : ((Int.natAbs a4) ≤ (54 : Nat))) (h3 : ((a3 - a4) = (a2 * (a0 + a1)))) (h4 : ((a2 * (a0 + a1)) ≤ (a2 * (-(1 : Int))))) : ((a0 + a1) = (0 : Int)) := by lia
theorem o426 {a0 : Int} {a1 : Int} (h0 : ((a0 + a1) < (0 : Int))) : ((a0 + a1) ≤ (-(1 : Int))) := by exact (fun {a b : Int} ↦ Int.add_le_zero_iff_le_neg.mp) h0
theorem o427 {a0 : Int} {a1 : Nat} {a2 : Int} {a3 : Int} (h0 : ((-a2) < ((2 : Int) * a0))) (h1 : (((2 : Int) * a0) ≤ a2)) (h2 : (a2 < a3)) (h3 : (((a1 : Nat) : Int) = a3)) : ((Int.natAbs a0) < a1) := by lia
theorem o428 {a0 : Int} (h0 : ((0 : Int) < a0)) : ((a0 < (0 : Int)) → (a0 = (0 : Int))) := by omega
theorem o429 {a0 : Int} {a1 : Int} (h0 : (¬ (a1 < ((2 : Int) * a0)))) : (((2 : Int) * a0) ≤ a1) := by exact Int.not_lt.mp h0
theorem o430 {a0 : Int} {a1 : Int} (h0 : ((0 : Int) < a0)) (h1 : ((0 : Int) ≤ a1)) : ((-a0) < ((2 : Int) * a1)) := by lia
theorem o431 {a0 : Int} {a1 : Int} {a2 : Int} {a3 : Int} (h0 : (a1 = (a0 + (a2 * a3)))) : (a0 = (a1 + (-(a2 * a3)))) := by lia
theorem o432 {a0 : Int} {a1 : Int} (h0 : (a0 < a1)) (h1 : (a1 < ((2 : Int) * a0))) : (((2 : Int) * (a0 - a1)) ≤ a1) := by lia
theorem o433 {a0 : Int} {a1 : Int} (h0 : (a0 < ((2 : Int) * a1))) : ((-a0) < ((2 : Int) * (a1 - a0))) := by lia
theorem o434 {a0 : Int} {a1 : Int} {a2 : Int} {a3 : Int} (h0 : (a2 = (a0 + (a1 * a3)))) : ((a0 - a1) = (a2 + ((-(a1 * a3)) - (a1 * (1 : Int))))) := by lia
theorem o435 {a0 : Int} {a1 : Int} (h0 : ((a0 + (1 : Int)) ≤ a1)) : (a0 < a1) := by exact Int.lt_of_add_one_le h0
theorem o436 {a0 : Int} {a1 : Int} (h0 : ((a0 + (1 : Int)) ≤ a1)) : (a0 ≤ a1) := by exact Int.le_of_lt h0
theorem o437 {a0 : Int} (h0 : (a0 < (128 : Int))) : (a0 ≤ ((2 : Int) ^ (7 : Nat))) := by exact Int.le_of_lt h0
theorem o438 {a0 : Int} (h0 : ((2 : Int) ≤ a0)) : ((Int.toNat ((7 : Int) * (a0 + (1 : Int)))) = ((Int.toNat ((7 : Int) * a0)) + (7 : Nat))) := by lia
theorem o439 {a0 : Int} {a1 : Int} : ((0 : Int) = ((0 : Int) + ((a0 * a1) * (0 : Int)))) := by simp
theorem o440 {a0 : Nat} {a1 : Nat} {a2 : Nat} {a3 : Nat} (h0 : (a2 = a3)) (h1 : (a2 = a0)) (h2 : (¬ (a1 < a3))) : (a0 ≤ a1) := by simp_all
theorem o441 {a0 : Nat} {a1 : Nat} {a2 : Nat} (h0 : (a0 = a2)) (h1 : (¬ (a1 < a2))) : (a0 ≤ a1) := by simp_all
theorem o442 {a0 : Nat} {a1 : Nat} {a2 : Nat} {a3 : Nat} (h0 : (a0 = a2)) (h1 : (a3 = a2)) (h2 : (a3 = a1)) : (a0 = a1) := by simp_all
theorem o443 {a0 : Nat} {a1 : Nat} {a2 : Nat} (h0 : (a2 = a0)) (h1 : (a2 = a1)) : (a0 = a1) := by simp_all
theorem o444 {a0 : Int} {a1 : Int} (h0 : ((0 : Int) < (a0 * a1))) : (((0 : Int) ≤ (0 : Int)) ∧ ((0 : Int) < (a0 * a1))) := by simp_all
theorem o445 {a0 : Nat} {a1 : Nat} (h0 : (a0 = a1)) (h1 : (a1 ≤ (5 : Nat))) : (a0 ≤ (5 : Nat)) := by exact le_of_eq_of_le h0 h1
theorem o446 {a0 : Nat} {a1 : Nat} {a2 : Nat} (h0 : (a1 = a2)) (h1 : (a0 ≤ a2)) : (a0 ≤ a1) := by exact le_of_le_of_eq h1 (id (Eq.symm h0))
theorem o447 {a0 : Nat} (h0 : ((0 : Nat) = a0)) (h1 : ((0 : Nat) < a0)) : False := by simp_all
theorem o448 {a0 : Int} : (a0 ≤ a0) := by exact Int.le_refl a0
theorem o449 {a0 : Int} {a1 : Int} {a2 : Int} {a3 : Int} {a4 : Int} (h0 : ((a0 - a1) = ((a2 * a3) * a4))) : (a0 = (a1 + ((a2 * a3) * a4))) := by lia
theorem o450 {a0 : Int} (h0 : (a0 < (128 : Int))) (h1 : (((2 : Int) ^ (7 : Nat)) ≤ ((2 : Int) ^ (Int.toNat ((7 : Int) * (a0 + (1 : Int))))))) : (a0 < ((2 : Int) ^ (Int.toNat ((7 : Int) * (a0 + (1 : Int)))))) := by exact Int.lt_of_lt_of_le h0 h1
theorem o451 {a0 : Int} (h0 : ((2 : Int) ≤ a0)) : ((7 : Nat) ≤ (Int.toNat ((7 : Int) * (a0 + (1 : Int))))) := by lia
theorem o452 {a0 : Int} {a1 : Int} {a2 : Int} (h0 : (a0 ≤ a2)) (h1 : (a2 ≤ a1)) : (a0 ≤ a1) := by exact Int.le_trans h0 h1
theorem o453 {a0 : Int} {a1 : Int} (h0 : (a0 ≤ a1)) : ((Int.toNat ((7 : Int) * a0)) ≤ (Int.toNat ((7 : Int) * a1))) := by omega
theorem o454 {a0 : Nat} {a1 : Nat} (h0 : (a1 ≤ a0)) (h1 : (a0 ≤ a1)) : (a0 = a1) := by exact Nat.le_antisymm h1 h0
theorem o455 {a0 : Int} {a1 : Int} {a2 : Int} (h0 : ((a0 - (1 : Int)) = (a1 * a2))) : (a0 = ((1 : Int) + (a1 * a2))) := by lia
theorem o456 {a0 : Nat} {a1 : Nat} (h0 : (a0 = a1)) : (a0 ≤ a1) := by exact Nat.le_of_eq h0
theorem o457 {a0 : Nat} {a1 : Nat} {a2 : Nat} {a3 : Nat} (h0 : (a1 = (a2 + (1 : Nat)))) (h1 : ((0 : Nat) < a0)) (h2 : (((a0 - (1 : Nat)) + a2) < a3)) (h3 : (a3 ≤ a1)) : (a0 = (1 : Nat)) := by grind
theorem o458 {a0 : Nat} {a1 : Nat} {a2 : Nat} {a3 : Nat} (h0 : (a0 = (a2 + (1 : Nat)))) (h1 : (((a3 - (1 : Nat)) + a2) < a1)) : (a0 ≤ a1) := by lia
theorem o459 {a0 : Nat} {a1 : Nat} {a2 : Nat} (h0 : (¬ (((a1 - (1 : Nat)) + a2) < a0))) : (a0 ≤ ((a1 - (1 : Nat)) + a2)) := by exact Nat.le_of_not_lt h0
theorem o460 {a0 : Int} {a1 : Int} (h0 : (a0 < a1)) (h1 : (a1 ≤ a0)) : False := by lia
theorem o461 {a0 : Int} (h0 : ((0 : Int) ≤ a0)) (h1 : (¬ (a0 = (0 : Int)))) : ((0 : Int) < a0) := by exact Std.lt_of_le_of_ne h0 fun (a : 0 = a0) ↦ h1 (id (Eq.symm a))
theorem o462 {a0 : Int} {a1 : Int} {a2 : Int} {a3 : Int} (h0 : (a1 = (a0 + (a2 * a3)))) : (a0 = (a1 - (a2 * a3))) := by simp_all
theorem o463 {a0 : Int} {a1 : Int} (h0 : (a1 ≤ (113 : Int))) (h1 : (a0 ≤ a1)) : ((Int.toNat ((7 : Int) * (a0 + (1 : Int)))) ≤ (850 : Nat)) := by lia
theorem o464 {a0 : Nat} {a1 : Nat} (h0 : (a0 = a1)) (h1 : (a1 ≤ (5 : Nat))) : (a0 ≤ (8 : Nat)) := by lia
theorem o465 {a0 : Nat} (h0 : (a0 ≤ (5 : Nat))) : (a0 ≤ (8 : Nat)) := by lia
theorem o466 {a0 : Int} {a1 : Int} (h0 : (a1 ≤ (113 : Int))) (h1 : (a0 ≤ a1)) : ((Int.toNat ((7 : Int) * (a0 + (1 : Int)))) ≤ (8000 : Nat)) := by lia
theorem o467 {a0 : Int} {a1 : Nat} {a2 : Int} (h0 : (a0 < a2)) (h1 : ((0 : Int) < a0)) (h2 : (((a1 : Nat) : Int) = a2)) : ((Int.natAbs a0) < a1) := by grind
theorem o468 {a0 : Nat} {a1 : Nat} {a2 : Int} {a3 : Nat} (h0 : (¬ (a3 < a0))) (h1 : (¬ (((a3 : Nat) : Int) = ((a0 : Nat) : Int)))) (h2 : (a3 = a1)) (h3 : (a1 ≤ a0)) : ((a0 = a1) ∧ ((109 : Int) ≤ a2)) := by lia
theorem o469 {a0 : Int} : (a0 ≤ (a0 + (1 : Int))) := by exact Int.le.intro 1 rfl
theorem o470 {a0 : Int} {a1 : Int} {a2 : Int} (h0 : ((109 : Int) ≤ a2)) (h1 : (a1 = a2)) (h2 : (((1 : Int) * a1) ≤ (a0 * a1))) : ((109 : Int) ≤ (a0 * a1)) := by lia
theorem o471 {a0 : Nat} {a1 : Nat} {a2 : Int} {a3 : Int} {a4 : Nat} {a5 : Nat} (h0 : ((a2 = a3) → (a4 = a1))) (h1 : (a4 = a5)) (h2 : (a0 = a5)) (h3 : (a2 = a3)) : (a0 = a1) := by lia
theorem o472 {a0 : Int} {a1 : Int} (h0 : (a1 ≤ (113 : Int))) (h1 : (a0 ≤ a1)) : (a0 < (128 : Int)) := by lia
theorem o473 {a0 : Nat} (h0 : (a0 ≤ (5 : Nat))) : (a0 ≤ (1000 : Nat)) := by lia
theorem o474 {a0 : Nat} {a1 : Nat} (h0 : (a1 = a0)) : (a0 ≤ a1) := by exact Nat.le_of_eq (id (Eq.symm h0))
theorem o475 {a0 : Int} {a1 : Int} (h0 : (a1 ≤ (113 : Int))) (h1 : (a0 ≤ a1)) (h2 : ((2 : Int) ≤ a0)) : ((Int.natAbs a0) < ((2 : Nat) ^ (2500 : Nat))) := by grind
theorem o476 {a0 : Int} {a1 : Nat} {a2 : Int} {a3 : Nat} (h0 : (a0 < a2)) (h1 : ((0 : Int) < a0)) (h2 : (((a3 : Nat) : Int) = a2)) (h3 : (a3 ≤ a1)) : ((Int.natAbs a0) < a1) := by lia
theorem o477 {a0 : Int} {a1 : Int} (h0 : (a1 ≤ (113 : Int))) (h1 : (a0 ≤ a1)) : ((Int.toNat ((7 : Int) * a0)) ≤ (2500 : Nat)) := by lia
theorem o478 {a0 : Int} {a1 : Int} (h0 : (a1 ≤ (113 : Int))) (h1 : (a0 ≤ a1)) (h2 : ((2 : Int) ≤ a0)) : ((Int.natAbs a0) < ((2 : Nat) ^ (20 : Nat))) := by grind
theorem o479 {a0 : Int} {a1 : Int} (h0 : (a1 ≤ (113 : Int))) (h1 : (a0 ≤ a1)) : ((Int.toNat ((7 : Int) * a0)) ≤ (800 : Nat)) := by lia
theorem o480 {a0 : Nat} {a1 : Nat} (h0 : (((a0 : Nat) : Int) = ((a1 : Nat) : Int))) : (a0 = a1) := by exact Int.ofNat.inj h0
theorem o481 {a0 : Nat} {a1 : Nat} (h0 : (a0 < a1)) : (((a0 : Nat) : Int) < ((a1 : Nat) : Int)) := by exact Int.ofNat_lt.mpr h0
theorem o482 {a0 : Int} {a1 : Int} (h0 : ((109 : Int) ≤ a1)) (h1 : (a0 = a1)) : ((109 : Int) ≤ a0) := by exact le_of_le_of_eq h0 (id (Eq.symm h1))
theorem o483 {a0 : Nat} (h0 : (¬ (a0 = (1 : Nat)))) : (¬ (((a0 : Nat) : Int) = (1 : Int))) := by exact Nat.ToInt.of_diseq rfl rfl h0
theorem o484 {a0 : Nat} (h0 : (a0 = (1 : Nat))) : (((a0 : Nat) : Int) = (1 : Int)) := by exact congrArg Nat.cast h0
theorem o485 {a0 : Nat} {a1 : Nat} (h0 : ((0 : Nat) < a0)) (h1 : (a1 = (1 : Nat))) (h2 : (a0 ≤ a1)) : (a0 = (1 : Nat)) := by lia
theorem o486 {a0 : Nat} (h0 : (a0 ≤ (5 : Nat))) : (a0 ≤ (100 : Nat)) := by lia
theorem o487 {a0 : Int} {a1 : Int} (h0 : (a1 ≤ (113 : Int))) (h1 : (a0 ≤ a1)) : (a0 < ((2 : Int) ^ (20 : Nat))) := by lia
theorem o488 {a0 : Int} {a1 : Int} {a2 : Int} (h0 : (a2 ≤ a0)) (h1 : (a2 ≠ a0)) (h2 : (a2 < a1)) : ((Int.toNat (a0 - a1)) < (Int.toNat (a0 - a2))) := by lia
theorem o489 {a0 : Int} (h0 : (a0 ≤ (113 : Int))) : (a0 < ((2 : Int) ^ (40 : Nat))) := by lia
theorem o490 {a0 : Int} {a1 : Int} (h0 : (a0 ≤ a1)) (h1 : (a0 ≠ a1)) : (a0 < a1) := by exact Std.lt_of_le_of_ne h0 h1
theorem o491 {a0 : Int} (h0 : ((2 : Int) ≤ a0)) : ((1 : Int) ≤ a0) := by exact Int.le_of_lt h0
theorem o492 {a0 : Int} {a1 : Int} (h0 : ((109 : Int) ≤ a0)) (h1 : (a0 ≤ a1)) (h2 : (a1 ≤ (2 : Int))) : False := by lia
theorem o493 {a0 : Int} {a1 : Nat} (h0 : (((a1 : Nat) : Int) = a0)) (h1 : (a0 ≤ (2 : Int))) : ((Int.natAbs a0) < ((2 : Nat) ^ (60 : Nat))) := by omega
theorem o494 {a0 : Int} {a1 : Int} {a2 : Int} (h0 : (((1 : Int) * a0) = (a1 * a2))) : (a0 = (a1 * a2)) := by simp_all
theorem o495 {a0 : Int} : (((1 : Int) * a0) = a0) := by exact Int.one_mul a0
theorem o496 {a0 : Int} (h0 : ((Int.natAbs a0) ≤ (54 : Nat))) : ((Int.natAbs a0) < ((2 : Nat) ^ (12 : Nat))) := by lia
theorem o497 {a0 : Nat} {a1 : Nat} {a2 : Nat} {a3 : Nat} {a4 : Nat} (h0 : (((a0 + a1) - (1 : Nat)) = a3)) (h1 : (a4 = a3)) (h2 : (¬ (a2 < a4))) : ((a0 + a1) ≤ (a2 + (1 : Nat))) := by omega
theorem o498 {a0 : Nat} {a1 : Nat} {a2 : Nat} {a3 : Nat} {a4 : Nat} (h0 : ((0 : Nat) < a2)) (h1 : (((a1 + a2) - (1 : Nat)) = a3)) (h2 : (a0 = a4)) (h3 : (a4 = a3)) : ((a0 + (1 : Nat)) = (a1 + a2)) := by lia
theorem o499 {a0 : Nat} {a1 : Nat} (h0 : (a0 < (a1 + (1 : Nat)))) (h1 : (¬ (a0 < a1))) : (a0 = a1) := by exact Nat.eq_of_lt_succ_of_not_lt h0 h1
theorem o500 {a0 : Nat} {a1 : Nat} {a2 : Nat} (h0 : (a1 = a2)) (h1 : (a0 < a2)) : (a0 < a1) := by exact Nat.lt_of_lt_of_eq h1 (id (Eq.symm h0))
theorem o501 {a0 : Nat} {a1 : Nat} {a2 : Nat} {a3 : Nat} {a4 : Nat} {a5 : Nat} (h0 : (((a0 + (1 : Nat)) - a3) = a1)) (h1 : ((min (a0 + (1 : Nat)) a4) = a5)) (h2 : (a2 < (a5 - a1))) : ((a0 - (a1 + a2)) < a3) := by omega
theorem o502 {a0 : Nat} {a1 : Nat} {a2 : Nat} {a3 : Nat} {a4 : Nat} (h0 : ((min (a3 + (1 : Nat)) a2) = a4)) (h1 : (a1 < (a4 - a0))) : ((a0 + a1) < a2) := by omega
theorem o503 {a0 : Nat} {a1 : Nat} {a2 : Nat} {a3 : Nat} {a4 : Nat} (h0 : ((min (a0 + (1 : Nat)) a3) = a4)) (h1 : (a2 < (a4 - a1))) : ((((a0 : Nat) : Int) - (((a1 : Nat) : Int) + ((a2 : Nat) : Int))) = (((a0 - (a1 + a2)) : Nat) : Int)) := by lia
theorem o504 {a0 : Nat} {a1 : Nat} : ((Int.toNat (((a0 : Nat) : Int) - ((a1 : Nat) : Int))) = (a0 - a1)) := by exact Int.toNat_sub a0 a1
theorem o505 {a0 : Nat} {a1 : Nat} {a2 : Nat} {a3 : Nat} (h0 : (a2 ≤ (5 : Nat))) (h1 : (((a2 + a1) - (1 : Nat)) = a3)) (h2 : (a0 < a3)) : (((-(((1000000 : Nat) : Nat) : Int)) ≤ ((((a0 + (1 : Nat)) - a1) : Nat) : Int)) ∧ ((((((a0 + (1 : Nat)) - a1) : Nat) : Int) ≤ (((1000000 : Nat) : Nat) : Int)) ∧ (((-(((1000000 : Nat) : Nat) : Int)) ≤ (((min (a0 + (1 : Nat)) a2) : Nat) : Int)) ∧ (((((min (a0 + (1 : Nat)) a2) : Nat) : Int) ≤ (((1000000 : Nat) : Nat) : Int)) ∧ ((Int.toNat ((((min (a0 + (1 : Nat)) a2) : Nat) : Int) - ((((a0 + (1 : Nat)) - a1) : Nat) : Int))) ≤ (1000000 : Nat)))))) := by constructor <;> omega
theorem o506 {a0 : Nat} {a1 : Nat} {a2 : Nat} (h0 : (a1 < (a2 + (1 : Nat)))) (h1 : ((min (a2 + (1 : Nat)) a0) ≤ a1)) : (a0 ≤ a1) := by lia
theorem o507 {a0 : Nat} {a1 : Nat} {a2 : Nat} (h0 : (a2 < ((a1 + (1 : Nat)) - a0))) : (a0 ≤ (a1 - a2)) := by omega
theorem o508 {a0 : Nat} {a1 : Nat} {a2 : Nat} {a3 : Nat} (h0 : (((a2 + a1) - (1 : Nat)) = a3)) (h1 : (a0 < a3)) : (((a0 + (1 : Nat)) - a1) ≤ (min (a0 + (1 : Nat)) a2)) := by omega
theorem o509 {a0 : Nat} {a1 : Nat} : ((min (a0 + (1 : Nat)) a1) ≤ (a0 + (1 : Nat))) := by exact Nat.min_le_left (a0 + 1) a1
theorem o510 {a0 : Nat} {a1 : Nat} {a2 : Nat} {a3 : Nat} {a4 : Nat} (h0 : (a1 ≤ (5 : Nat))) (h1 : (a2 ≤ (5 : Nat))) (h2 : (((a1 + a2) - (1 : Nat)) = a3)) (h3 : (a4 ≤ a3)) (h4 : (a0 = a4)) : (a0 < (1000000 : Nat)) := by omega
theorem o511 {a0 : Nat} {a1 : Nat} (h0 : ((((a0 : Nat) : Int) - (1 : Int)) < ((a1 : Nat) : Int))) : (((((a0 : Nat) : Int) - (1 : Int)) + (1 : Int)) = (((min (a1 + (1 : Nat)) a0) : Nat) : Int)) := by grind
theorem o512 {a0 : Nat} {a1 : Nat} (h0 : (¬ ((((a1 : Nat) : Int) - (1 : Int)) < ((a0 : Nat) : Int)))) : ((((a0 : Nat) : Int) + (1 : Int)) = (((min (a0 + (1 : Nat)) a1) : Nat) : Int)) := by grind
theorem o513 {a0 : Nat} {a1 : Nat} {a2 : Nat} (h0 : (a1 ≤ (5 : Nat))) (h1 : (a2 ≤ (5 : Nat))) (h2 : (((a1 + a2) - (1 : Nat)) = a0)) : (((-(((1000000 : Nat) : Nat) : Int)) ≤ ((a0 : Nat) : Int)) ∧ (((a0 : Nat) : Int) ≤ (((1000000 : Nat) : Nat) : Int))) := by omega
theorem o514 {a0 : Nat} {a1 : Nat} {a2 : Nat} : ((a0 + a1) ≤ ((a0 + a1) + a2)) := by exact Nat.le_add_right (a0 + a1) a2
theorem o515 {a0 : Nat} {a1 : Nat} {a2 : Nat} {a3 : Nat} (h0 : (a2 < a3)) : (((a0 + a1) + a2) < ((a0 + a1) + a3)) := by exact Nat.add_lt_add_left h0 (a0 + a1)
theorem o516 {a0 : Nat} {a1 : Nat} {a2 : Nat} {a3 : Nat} (h0 : (a0 < a1)) : (a0 < ((a1 + a2) + a3)) := by lia
theorem o517 {a0 : Nat} {a1 : Nat} {a2 : Nat} (h0 : ((a1 + a2) ≤ a0)) : (a0 = ((a1 + a2) + (a0 - (a1 + a2)))) := by exact Eq.symm (Nat.add_sub_of_le h0)
theorem o518 {a0 : Nat} {a1 : Nat} (h0 : (a1 ≤ a0)) : (a0 = (a1 + (a0 - a1))) := by exact Eq.symm (Nat.add_sub_of_le h0)
theorem o519 {a0 : Nat} (h0 : (a0 ≤ (2 : Nat))) : ((a0 - (1 : Nat)) ≤ (2 : Nat)) := by omega
theorem o520 {a0 : Nat} {a1 : Int} (h0 : (a1 < ((2 : Int) + (1 : Int)))) (h1 : (a0 = (Int.toNat a1))) : (a0 ≤ (2 : Nat)) := by lia
theorem o521 {a0 : Int} (h0 : ((0 : Int) ≤ a0)) (h1 : (a0 < (((2 : Int) * (3 : Int)) + (1 : Int)))) : (((-(3 : Int)) ≤ (a0 - (3 : Int))) ∧ ((a0 - (3 : Int)) ≤ (3 : Int))) := by constructor <;> lia
theorem o522 {a0 : Int} (h0 : ((0 : Int) ≤ a0)) (h1 : (a0 < ((2 : Int) + (1 : Int)))) : (((-(((1000000 : Nat) : Nat) : Int)) ≤ a0) ∧ (a0 ≤ (((1000000 : Nat) : Nat) : Int))) := by omega
theorem o523 {a0 : Int} {a1 : Nat} (h0 : (¬ (a0 < ((a1 : Nat) : Int)))) : ((0 : Int) ≤ a0) := by lia
theorem o524 {a0 : Nat} : ((0 : Int) ≤ (((a0 : Nat) : Int) + (1 : Int))) := by constructor <;> omega
theorem o525 {a0 : Int} (h0 : ((0 : Int) ≤ a0)) (h1 : (a0 < (4294967296 : Int))) : ((Int.natAbs a0) < ((2 : Nat) ^ (60 : Nat))) := by lia
theorem o526 {a0 : Int} {a1 : Int} {a2 : Int} {a3 : Int} (h0 : (a1 = (a0 - (a2 * a3)))) : (a0 = (a1 + (a2 * a3))) := by simp_all
theorem o527 {a0 : Int} {a1 : Int} (h0 : (((Int.natAbs a0) * (Int.natAbs (a1 - a0))) ≤ (3 : Nat))) (h1 : (((4 : Nat) * (1 : Nat)) ≤ ((Int.natAbs a0) * (Int.natAbs (a1 - a0))))) : False := by lia
theorem o528 {a0 : Int} {a1 : Int} (h0 : ((a1 ≠ a0) ∨ ((Int.natAbs a1) ≤ (3 : Nat)))) (h1 : (¬ ((Int.natAbs a1) ≤ (3 : Nat)))) : ((1 : Nat) ≤ (Int.natAbs (a0 - a1))) := by grind
theorem o529 {a0 : Int} (h0 : (¬ ((Int.natAbs a0) ≤ (3 : Nat)))) : ((4 : Nat) ≤ (Int.natAbs a0)) := by exact Nat.lt_of_not_le h0
theorem o530 {a0 : Int} (h0 : ((a0 = (1 : Int)) ∨ (a0 = (-(1 : Int))))) : ((Int.natAbs a0) ≤ (30 : Nat)) := by omega
theorem o531 {a0 : Int} (h0 : ((Int.natAbs a0) ≤ (3 : Nat))) : ((Int.natAbs a0) ≤ (30 : Nat)) := by lia
theorem o532 {a0 : Int} (h0 : ((a0 = (1 : Int)) ∨ (a0 = (-(1 : Int))))) : ((Int.natAbs a0) ≤ (1 : Nat)) := by omega
theorem o533 {a0 : Int} {a1 : Int} {a2 : Nat} {a3 : Nat} (h0 : ((Int.natAbs a0) ≤ a2)) (h1 : ((Int.natAbs a1) ≤ a3)) : ((Int.natAbs (a0 + a1)) ≤ (a2 + a3)) := by omega
theorem o534 {a0 : Int} {a1 : Int} {a2 : Nat} {a3 : Nat} (h0 : ((Int.natAbs a0) ≤ a2)) (h1 : ((Int.natAbs a1) ≤ a3)) : ((Int.natAbs (a0 - a1)) ≤ (a2 + a3)) := by omega
theorem o535 {a0 : Nat} {a1 : Nat} (h0 : (a0 = (a0 * a1))) : ((a0 * a1) = (a0 * (1 : Nat))) := by lia
theorem o536 {a0 : Int} {a1 : Int} (h0 : ((109 : Int) ≤ a0)) (h1 : (a1 ≤ (3 : Int))) (h2 : (a0 ≤ a1)) : False := by lia
theorem o537 {a0 : Int} {a1 : Int} {a2 : Int} (h0 : (a1 = (a2 * a0))) (h1 : (((1 : Int) * a0) ≤ (a2 * a0))) (h2 : (a1 = (1 : Int))) : (a0 ≤ (2 : Int)) := by lia
theorem o538 {a0 : Int} {a1 : Int} {a2 : Int} (h0 : (a1 = (a2 * a0))) (h1 : (((1 : Int) * a0) ≤ (a2 * a0))) (h2 : (a1 = (2 : Int))) : (a0 ≤ (2 : Int)) := by simp_all
theorem o539 {a0 : Nat} {a1 : Nat} {a2 : Nat} (h0 : ((0 : Nat) < a1)) (h1 : (a2 ≤ (3 : Nat))) (h2 : ((a2 + (1 : Nat)) = (a0 + a1))) : (a0 ≤ (3 : Nat)) := by lia
theorem o540 {a0 : Nat} {a1 : Nat} {a2 : Nat} (h0 : (a1 ≤ (3 : Nat))) (h1 : ((a1 + (1 : Nat)) = (a0 + a2))) : (a0 ≤ (5 : Nat)) := by lia
theorem o541 {a0 : Nat} {a1 : Nat} {a2 : Nat} {a3 : Nat} {a4 : Nat} (h0 : ((a0 + (1 : Nat)) = (a2 + a3))) (h1 : ((0 : Nat) < a4)) (h2 : (a3 ≤ (3 : Nat))) (h3 : ((a1 + (1 : Nat)) = (a2 + a4))) : (a0 ≤ (a1 + (2 : Nat))) := by lia
theorem o542 {a0 : Nat} {a1 : Nat} {a2 : Nat} (h0 : ((a0 + (1 : Nat)) = (a1 + a2))) (h1 : (a1 ≤ (3 : Nat))) (h2 : (a2 ≤ (3 : Nat))) : (a0 ≤ (5 : Nat)) := by lia
theorem o543 {a0 : Int} {a1 : Int} (h0 : (a0 ≤ a1)) (h1 : (a1 = (1 : Int))) : (a0 ≤ (3 : Int)) := by lia
theorem o544 {a0 : Int} {a1 : Int} (h0 : (a0 ≤ a1)) (h1 : (a1 = (2 : Int))) : (a0 ≤ (3 : Int)) := by lia
theorem o545 {a0 : Int} (h0 : ((0 : Int) < a0)) : ((((((Int.natAbs a0) * (1 : Nat)) : Nat) : Int) * (1 : Int)) = a0) := by lia
theorem o546 {a0 : Int} {a1 : Int} (h0 : (((Int.natAbs a1) * (Int.natAbs a0)) ≤ (3 : Nat))) (h1 : (((1 : Nat) * (Int.natAbs a0)) ≤ ((Int.natAbs a1) * (Int.natAbs a0)))) : ((Int.natAbs a0) ≤ (3 : Nat)) := by lia
theorem o547 {a0 : Int} (h0 : (a0 = (1 : Int))) : (a0 ≠ (0 : Int)) := by simp_all
theorem o548 {a0 : Int} (h0 : (a0 = (-(1 : Int)))) : (a0 ≠ (0 : Int)) := by simp_all
theorem o549 {a0 : Int} (h0 : (a0 = (1 : Int))) : ((0 : Int) < a0) := by simp_all
theorem o550 {a0 : Int} (h0 : (a0 = (2 : Int))) : ((0 : Int) < a0) := by simp_all
theorem o551 {a0 : Nat} {a1 : Nat} (h0 : ((0 : Nat) < a0)) (h1 : ((0 : Nat) < a1)) (h2 : ((1 : Nat) = (a0 + a1))) : False := by lia
theorem o552 {a0 : Nat} {a1 : Nat} {a2 : Nat} (h0 : ((a0 + (1 : Nat)) = (a1 + a2))) (h1 : ((0 : Nat) < a1)) (h2 : ((0 : Nat) < a2)) : ((a0 - (1 : Nat)) = ((a1 - (1 : Nat)) + (a2 - (1 : Nat)))) := by lia
theorem o553 {a0 : Int} {a1 : Int} {a2 : Int} (h0 : (a0 ≠ (0 : Int))) (h1 : ((Int.natAbs a0) ≤ (1008 : Nat))) (h2 : (a0 = ((109 : Int) * a1))) (h3 : (a0 = ((113 : Int) * a2))) : False := by lia
theorem o554 {a0 : Nat} (h0 : ((2 : Int) ≤ ((a0 : Nat) : Int))) : ((2 : Nat) ≤ a0) := by exact Int.ofNat_le.mp h0
theorem o555 {a0 : Nat} (h0 : (((a0 : Nat) : Int) < (101 : Int))) : (a0 < (101 : Nat)) := by exact Int.ofNat_lt.mp h0
theorem o556 {a0 : Nat} (h0 : (((a0 : Nat) : Int) < (113 : Int))) : (a0 < (113 : Nat)) := by exact Int.ofNat_lt.mp h0
theorem o557 {a0 : Nat} (h0 : (((a0 : Nat) : Int) < (109 : Int))) : (a0 < (109 : Nat)) := by exact Int.ofNat_lt.mp h0
theorem o558 {a0 : Int} {a1 : Int} (h0 : ((0 : Int) = (a0 - a1))) : (a0 = a1) := by exact Int.eq_of_sub_eq_zero (id (Eq.symm h0))
theorem o559 {a0 : Int} {a1 : Int} {a2 : Int} {a3 : Nat} {a4 : Nat} {a5 : Nat} (h0 : ((Int.natAbs ((a0 * a1) + a2)) ≤ ((a4 * a5) + (a3 * (a4 * a5))))) : ((Int.natAbs ((a0 * a1) + a2)) ≤ ((a3 * (a4 * a5)) + (a4 * a5))) := by grind
theorem o560 {a0 : Nat} {a1 : Nat} (h0 : ((0 : Nat) < a0)) (h1 : (((2 : Nat) * a0) ≤ (a1 * a0))) : (a0 < (a1 * a0)) := by lia
theorem o561 {a0 : Nat} (h0 : ((2 : Int) ≤ ((a0 : Nat) : Int))) : (((a0 : Nat) : Int) ≠ (0 : Int)) := by lia
theorem o562 {a0 : Nat} (h0 : ((0 : Nat) < a0)) (h1 : (¬ (a0 = (1 : Nat)))) : ((2 : Nat) ≤ a0) := by omega
theorem o563 {a0 : Nat} (h0 : ((2 : Nat) ≤ a0)) : ((2 : Int) ≤ ((a0 : Nat) : Int)) := by exact Int.ofNat_le.mpr h0
theorem o564 {a0 : Int} (h0 : ((2 : Int) ≤ a0)) (h1 : (a0 ≤ (1 : Int))) : False := by lia
theorem o565 {a0 : Int} (h0 : ((0 : Int) < a0)) (h1 : (a0 ≤ (1 : Int))) : (a0 = (1 : Int)) := by exact Int.le_antisymm h1 h0
theorem o566 {a0 : Int} (h0 : ((0 : Int) ≤ a0)) (h1 : (a0 < (5 : Int))) : ((a0 = (0 : Int)) ∨ ((a0 = (1 : Int)) ∨ ((a0 = (2 : Int)) ∨ ((a0 = (3 : Int)) ∨ (a0 = (4 : Int)))))) := by omega
theorem o567 {a0 : Int} (h0 : ((7 : Int) = ((2 : Int) * a0))) : False := by lia
theorem o568 {a0 : Int} (h0 : ((7 : Int) = ((3 : Int) * a0))) : False := by lia
theorem o569 {a0 : Int} (h0 : ((7 : Int) = ((4 : Int) * a0))) : False := by lia
theorem o570 {a0 : Int} (h0 : ((7 : Int) = ((5 : Int) * a0))) : False := by lia
theorem o571 {a0 : Int} (h0 : ((7 : Int) = ((6 : Int) * a0))) : False := by lia
theorem o572 {a0 : Int} (h0 : ((2 : Int) ≤ a0)) (h1 : (a0 < (7 : Int))) : ((a0 = (2 : Int)) ∨ ((a0 = (3 : Int)) ∨ ((a0 = (4 : Int)) ∨ ((a0 = (5 : Int)) ∨ (a0 = (6 : Int)))))) := by lia
theorem o573 {a0 : Int} (h0 : ((5 : Int) = ((2 : Int) * a0))) : False := by lia
theorem o574 {a0 : Int} (h0 : ((5 : Int) = ((3 : Int) * a0))) : False := by lia
theorem o575 {a0 : Int} (h0 : ((5 : Int) = ((4 : Int) * a0))) : False := by lia
theorem o576 {a0 : Int} (h0 : ((2 : Int) ≤ a0)) (h1 : (a0 < (5 : Int))) : ((a0 = (2 : Int)) ∨ ((a0 = (3 : Int)) ∨ (a0 = (4 : Int)))) := by lia
theorem o577 {a0 : Int} (h0 : ((3 : Int) = ((2 : Int) * a0))) : False := by lia
theorem o578 {a0 : Int} (h0 : ((-(3 : Int)) ≤ a0)) (h1 : (a0 ≤ (3 : Int))) : ((Int.natAbs a0) ≤ (3 : Nat)) := by lia
theorem o579 {a0 : Nat} (h0 : (a0 ≤ (2 : Nat))) : (a0 ≤ (2 : Nat)) := by omega
theorem o580 {a0 : Nat} {a1 : Nat} {a2 : Nat} (h0 : (a1 ≤ (5 : Nat))) (h1 : (a2 ≤ a1)) (h2 : (a0 = a2)) : (a0 ≤ (8 : Nat)) := by lia
theorem o581 {a0 : Nat} (h0 : (a0 ≤ (2 : Nat))) : ((a0 + (1 : Nat)) < (64 : Nat)) := by lia
theorem o582 {a0 : Int} {a1 : Int} (h0 : (a1 ≤ a0)) : (¬ (a0 < a1)) := by exact Int.not_lt_of_ge h0
theorem o583 {a0 : Nat} (h0 : (a0 ≤ (1 : Nat))) : (¬ ((1 : Int) < ((a0 : Nat) : Int))) := by lia
theorem o584 {a0 : Int} {a1 : Int} (h0 : (a1 < a0)) : (a0 ≠ a1) := by exact Int.ne_of_gt h0
theorem o585 {a0 : Int} {a1 : Int} (h0 : (a0 < a1)) : (a0 ≤ a1) := by exact Int.le_of_lt h0
theorem o586 {a0 : Nat} (h0 : (a0 ≤ (3 : Nat))) : (a0 ≤ (8 : Nat)) := by lia
theorem o587 {a0 : Nat} {a1 : Nat} {a2 : Int} (h0 : ((Int.natAbs a2) < a1)) (h1 : (a0 ≤ (Int.natAbs a2))) : ((Int.natAbs ((a0 : Nat) : Int)) < a1) := by exact Nat.lt_of_le_of_lt h1 h0
theorem o588 {a0 : Int} {a1 : Int} (h0 : ((109 : Int) ≤ a1)) (h1 : (a0 ≤ (101 : Int))) : (a0 ≤ a1) := by lia
theorem o589 {a0 : Int} (h0 : (a0 = (2 : Int))) : (a0 ≠ (0 : Int)) := by simp_all
theorem o590 {a0 : Nat} (h0 : (a0 ≤ (3 : Nat))) : (a0 ≤ (5 : Nat)) := by lia
theorem o591 {a0 : Int} (h0 : ((0 : Int) ≤ a0)) (h1 : (a0 < (2 : Int))) : (((((2 : Int) * a0) - (1 : Int)) = (1 : Int)) ∨ ((((2 : Int) * a0) - (1 : Int)) = (-(1 : Int)))) := by lia
theorem o592 {a0 : Int} (h0 : ((0 : Int) ≤ a0)) : ((0 : Int) < ((1 : Int) + a0)) := by exact Int.lt_add_of_neg_add_lt h0
theorem o593 {a0 : Int} (h0 : ((0 : Int) ≤ a0)) (h1 : (a0 < (2 : Int))) : ((((1 : Int) + a0) = (1 : Int)) ∨ (((1 : Int) + a0) = (2 : Int))) := by lia
theorem o594 {a0 : Int} (h0 : ((0 : Int) ≤ a0)) (h1 : (a0 < (2 : Int))) : ((Int.natAbs (((2 : Int) * a0) - (1 : Int))) ≤ (3 : Nat)) := by omega
theorem o595 {a0 : Int} (h0 : ((0 : Int) ≤ a0)) (h1 : (a0 < (3 : Int))) : ((Int.natAbs ((1 : Int) + a0)) ≤ (3 : Nat)) := by lia
theorem o596 {a0 : Int} (h0 : ((0 : Int) ≤ a0)) (h1 : (a0 < (2 : Int))) : ((Int.natAbs ((1 : Int) + a0)) ≤ (3 : Nat)) := by lia
theorem o597 {a0 : Int} (h0 : ((0 : Int) ≤ a0)) (h1 : (a0 < (2 : Int))) : ((Int.natAbs a0) < ((2 : Nat) ^ (60 : Nat))) := by lia
theorem o598 {a0 : Nat} {a1 : Nat} {a2 : Nat} (h0 : (a0 < a1)) (h1 : (a2 < a0)) : (((a0 < a1) ∧ (a2 < a1)) ∧ (a2 < a0)) := by constructor <;> omega
theorem o599 {a0 : Nat} (h0 : (a0 ≤ (2 : Nat))) : (a0 ≤ (999999 : Nat)) := by lia
theorem o600 {a0 : Nat} : ((min (40 : Nat) a0) ≤ (63 : Nat)) := by lia
theorem o601 {a0 : Nat} : ((a0 + (2 : Nat)) ≠ (a0 + (1 : Nat))) := by exact Ne.symm (Nat.ne_add_one (a0 + 1))
theorem o602 {a0 : Nat} {a1 : Nat} (h0 : (a0 < a1)) : (a0 ≤ (a1 + (2 : Nat))) := by lia
end Mine
namespace Mine
open PySem
/-! A small evaluator over the program's own syntax: values as plain data. -/
inductive D where
  | none
  | bool (b : Bool)
  | int (i : Int)
  | list (ds : List D)
  | tuple (ds : List D)
  | rng (a z : Int)
  | box
noncomputable abbrev PEnv := Str → Option D
noncomputable def upd (e : PEnv) (x : Str) (d : D) : PEnv := fun y => if y = x then some d else e y
noncomputable def del (e : PEnv) (x : Str) : PEnv := fun y => if y = x then none else e y
theorem upd_self {e : PEnv} {x : Str} {d : D} : upd e x d x = some d := if_pos rfl
theorem upd_ne {e : PEnv} {x y : Str} {d : D} (h : y ≠ x) : upd e x d y = e y := if_neg h
theorem upd_none {e : PEnv} {x y : Str} {d : D} (h : upd e x d y = none) : e y = none := by
  by_cases q : y = x
  · rw [q, upd_self] at h; cases h
  · rwa [upd_ne q] at h
theorem upd_some {e : PEnv} {x y : Str} {d d' : D} (h : upd e x d y = some d') : (y = x ∧ d = d') ∨ (y ≠ x ∧ e y = some d') := by
  by_cases q : y = x
  · rw [q, upd_self] at h; exact .inl ⟨q, Option.some.inj h⟩
  · rw [upd_ne q] at h; exact .inr ⟨q, h⟩
noncomputable def updAll (e : PEnv) : List Str → List D → Option PEnv
  | [], ds => (match ds with
    | [] => some e
    | _ :: _ => none)
  | x :: xs, ds => match ds with
    | [] => none
    | d :: ds => updAll (upd e x d) xs ds
theorem ofString_inj {a b : String} : (Str.ofString a = Str.ofString b) ↔ a = b := by
  constructor
  · intro h
    rw [Str.ofString_eq_toList, Str.ofString_eq_toList] at h
    have h1 : (a.toList.map Char.toNat).toArray = (b.toList.map Char.toNat).toArray := congrArg Str.cps h
    have h2 : a.toList.map Char.toNat = b.toList.map Char.toNat := by simpa using h1
    have h3 : ∀ (l₁ l₂ : List Char), l₁.map Char.toNat = l₂.map Char.toNat → l₁ = l₂ := by
      intro l₁
      induction l₁ with
      | nil => intro l₂ h; cases l₂ with
        | nil => rfl
        | cons c t => simp at h
      | cons c t ih => intro l₂ h; cases l₂ with
        | nil => simp at h
        | cons c' t' =>
          simp only [List.map_cons, List.cons.injEq] at h
          rw [ih t' h.2, show c = c' from by
            have : c.val = c'.val := UInt32.toNat_inj.mp h.1
            exact Char.ext this]
    exact String.ext (h3 _ _ h2)
  · rintro rfl; rfl
theorem ofString_beq {a b : String} : (Str.ofString a == Str.ofString b) = (a == b) := by
  by_cases h : a = b
  · subst h; simp
  · have h' : Str.ofString a ≠ Str.ofString b := fun x => h (ofString_inj.mp x)
    rw [beq_eq_false_iff_ne.mpr h', beq_eq_false_iff_ne.mpr h]
noncomputable def toInts : List D → Option (List Int)
  | [] => some []
  | .int i :: r => (toInts r).map (i :: ·)
  | _ :: _ => none
theorem toInts_map (xs : List Int) : toInts (xs.map .int) = some xs := by
  induction xs with
  | nil => rfl
  | cons x r ih => simp [toInts, ih]
theorem toInts_eq : ∀ {ds : List D} {xs : List Int}, toInts ds = some xs → ds = xs.map .int
  | [], xs, h => by simp [toInts] at h; subst h; rfl
  | .int i :: r, xs, h => by
    simp only [toInts, Option.map_eq_some_iff] at h
    obtain ⟨ys, h1, rfl⟩ := h
    simp [toInts_eq h1]
  | .none :: _, _, h => by simp [toInts] at h
  | .bool _ :: _, _, h => by simp [toInts] at h
  | .list _ :: _, _, h => by simp [toInts] at h
  | .tuple _ :: _, _, h => by simp [toInts] at h
  | .box :: _, _, h => by simp [toInts] at h
  | .rng _ _ :: _, _, h => by simp [toInts] at h
/-- the size that the model asks of a product -/
noncomputable def MulOk (a b : Int) : Prop := IntMulOk a b
noncomputable def DivOk (b : Int) : Prop := b ≠ 0 ∧ b.natAbs.log2 < 9000
noncomputable def PowOk (a n : Int) : Prop := 0 ≤ n ∧ (Builtin.Int.intBits a : Int) * n ≤ 2 ^ 27
noncomputable def lim : Nat := 1000000
/-- a value by its kind -/
noncomputable def onI {α : Type} (d : D) (f : Int → Option α) : Option α := match d with
  | .int a => f a
  | _ => none
noncomputable def onL {α : Type} (d : D) (f : List D → Option α) : Option α := match d with
  | .list ds => f ds
  | _ => none
noncomputable def onIL {α : Type} (d : D) (f : Int → Option α) (g : List D → Option α) : Option α := match d with
  | .int a => f a
  | .list ds => g ds
  | _ => none
noncomputable def onO {α : Type} (ds : List D) (f : D → Option α) : Option α := match ds with
  | [] => none
  | d :: r => match r with
    | [] => f d
    | _ :: _ => none
noncomputable def isNone : D → Bool
  | .none => true
  | _ => false
theorem onI_some {α : Type} {d : D} {f : Int → Option α} {r : α} (h : onI d f = some r) : ∃ a, d = .int a ∧ f a = some r := by
  cases d with
  | int a => exact ⟨a, rfl, h⟩
  | _ => cases h
theorem onL_some {α : Type} {d : D} {f : List D → Option α} {r : α} (h : onL d f = some r) : ∃ a, d = .list a ∧ f a = some r := by
  cases d with
  | list a => exact ⟨a, rfl, h⟩
  | _ => cases h
theorem onIL_some {α : Type} {d : D} {f : Int → Option α} {g : List D → Option α} {r : α} (h : onIL d f g = some r) : (∃ a, d = .int a ∧ f a = some r) ∨ ∃ a, d = .list a ∧ g a = some r := by
  cases d with
  | int a => exact .inl ⟨a, rfl, h⟩
  | list a => exact .inr ⟨a, rfl, h⟩
  | _ => cases h
theorem onO_some {α : Type} {ds : List D} {f : D → Option α} {r : α} (h : onO ds f = some r) : ∃ d, ds = [d] ∧ f d = some r := by
  cases ds with
  | nil => cases h
  | cons d q =>
    cases q with
    | nil => exact ⟨d, rfl, h⟩
    | cons _ _ => cases h
theorem ite_some {α : Type} {p : Prop} {_ : Decidable p} {a r : α} (h : (if p then some a else none) = some r) : p ∧ a = r := by
  by_cases q : p
  · rw [if_pos q] at h; exact ⟨q, Option.some.inj h⟩
  · rw [if_neg q] at h; cases h
theorem ite_none {α : Type} {p : Prop} {_ : Decidable p} {a r : α} (h : (if p then none else some a) = some r) : ¬ p ∧ a = r := by
  by_cases q : p
  · rw [if_pos q] at h; cases h
  · rw [if_neg q] at h; exact ⟨q, Option.some.inj h⟩
open Classical in
noncomputable def binop (op : Operator) (d₁ d₂ : D) : Option D := match op with
  | .Add => onIL d₁ (fun a => onI d₂ fun b => some (.int (a + b))) fun ds => onL d₂ fun es => if ds.length + es.length ≤ lim then some (.list (ds ++ es)) else none
  | .Sub => onI d₁ fun a => onI d₂ fun b => some (.int (a - b))
  | .Mult => onIL d₁ (fun a => onI d₂ fun b => if MulOk a b then some (.int (a * b)) else none) fun ds => onO ds fun d => onI d fun a => onI d₂ fun n => if -(lim : Int) ≤ n ∧ n ≤ lim then some (.list (List.replicate n.toNat (.int a))) else none
  | .FloorDiv => onI d₁ fun a => onI d₂ fun b => if DivOk b then some (.int (a.fdiv b)) else none
  | .Mod => onI d₁ fun a => onI d₂ fun b => if b = 0 then none else some (.int (a.fmod b))
  | .Pow => onI d₁ fun a => onI d₂ fun n => if PowOk a n then some (.int (a ^ n.toNat)) else none
  | _ => none
noncomputable def cmpL (ds es : List D) (f : List Int → List Int → Bool) : Option Bool := (toInts ds).bind fun xs => (toInts es).bind fun ys => some (f xs ys)
theorem cmpL_some {ds es : List D} {f : List Int → List Int → Bool} {r : Bool} (h : cmpL ds es f = some r) : ∃ xs ys : List Int, ds = xs.map .int ∧ es = ys.map .int ∧ f xs ys = r := by
  obtain ⟨xs, e1, h⟩ := Option.bind_eq_some_iff.mp h
  obtain ⟨ys, e2, h⟩ := Option.bind_eq_some_iff.mp h
  exact ⟨xs, ys, toInts_eq e1, toInts_eq e2, Option.some.inj h⟩
theorem cmpL_ints {xs ys : List Int} {f : List Int → List Int → Bool} : cmpL (xs.map .int) (ys.map .int) f = some (f xs ys) := by
  unfold cmpL
  rw [toInts_map, toInts_map]
  rfl
noncomputable def cmp (op : CmpOp) (d₁ d₂ : D) : Option Bool := match op with
  | .Is => if isNone d₂ = true then some (isNone d₁) else none
  | .IsNot => if isNone d₂ = true then some (!isNone d₁) else none
  | .Eq => onIL d₁ (fun a => onI d₂ fun b => some (decide (a = b))) fun ds => onL d₂ fun es => cmpL ds es fun xs ys => decide (xs = ys)
  | .NotEq => onIL d₁ (fun a => onI d₂ fun b => some (decide (a ≠ b))) fun ds => onL d₂ fun es => cmpL ds es fun xs ys => decide (xs ≠ ys)
  | .Lt => onI d₁ fun a => onI d₂ fun b => some (decide (a < b))
  | .LtE => onI d₁ fun a => onI d₂ fun b => some (decide (a ≤ b))
  | .Gt => onI d₁ fun a => onI d₂ fun b => some (decide (b < a))
  | .GtE => onI d₁ fun a => onI d₂ fun b => some (decide (b ≤ a))
  | _ => none
/-- an item by an int place, Python's way -/
noncomputable def pick (ds : List D) (i : Int) : Option D :=
  if 0 ≤ i then ds[i.toNat]? else if -(ds.length : Int) ≤ i then ds[(i + ds.length).toNat]? else none
noncomputable def upto (ds : List D) (k : Int) : List D := if 0 ≤ k then ds.take k.toNat else ds.take (k + ds.length).toNat
noncomputable def bltNames : List Str := ["len", "abs", "max", "min", "sum", "sorted", "list", "range", "enumerate"]
noncomputable def blt1 (f : Str) (ds : List D) : Option D :=
  if f = "len" then some (.int ds.length)
  else if f = "list" then some (.list ds)
  else if f = "sum" then (toInts ds).bind fun xs => some (.int xs.sum)
  else if f = "sorted" then (toInts ds).bind fun xs => if xs.length < 64 ∧ xs.Pairwise (fun a b => b ≤ a) then some (.list (xs.reverse.map .int)) else none
  else none
noncomputable def blt2 (f : Str) (a b : Int) : Option D :=
  if f = "max" then some (.int (if b > a then b else a))
  else if f = "min" then some (.int (if b < a then b else a))
  else if f = "range" then (if -(lim : Int) ≤ a ∧ a ≤ lim ∧ -(lim : Int) ≤ b ∧ b ≤ lim ∧ (b - a).toNat ≤ lim then some (.rng a b) else none)
  else none
noncomputable def blt (f : Str) (ds : List D) : Option D := match ds with
  | [] => none
  | d :: r => match r with
    | [] => onIL d (fun a => if f = "abs" then some (.int (if a < 0 then -a else a)) else none) (blt1 f)
    | d' :: q => match q with
      | [] => onI d fun a => onI d' fun b => blt2 f a b
      | _ :: _ => none
inductive Blt (f : Str) : List D → D → Prop
  | abs (a : Int) : f = "abs" → Blt f [.int a] (.int (if a < 0 then -a else a))
  | one (es : List D) (r : D) : blt1 f es = some r → Blt f [.list es] r
  | two (a b : Int) (r : D) : blt2 f a b = some r → Blt f [.int a, .int b] r
theorem blt_some {f : Str} {ds : List D} {r : D} (h : blt f ds = some r) : Blt f ds r := by
  cases ds with
  | nil => cases h
  | cons d q =>
    cases q with
    | nil =>
      rcases onIL_some h with ⟨a, rfl, h⟩ | ⟨es, rfl, h⟩
      · obtain ⟨h1, rfl⟩ := ite_some h
        exact .abs a h1
      · exact .one es _ h
    | cons d' q =>
      cases q with
      | nil =>
        obtain ⟨a, rfl, h⟩ := onI_some h
        obtain ⟨b, rfl, h⟩ := onI_some h
        exact .two a b _ h
      | cons _ _ => cases h
theorem ite_or {α : Type} {p : Prop} {_ : Decidable p} {a b : Option α} {r : α} (h : (if p then a else b) = some r) : (p ∧ a = some r) ∨ (¬ p ∧ b = some r) := by
  by_cases q : p
  · rw [if_pos q] at h; exact .inl ⟨q, h⟩
  · rw [if_neg q] at h; exact .inr ⟨q, h⟩
noncomputable def tupsFrom (i : Nat) : List D → List D
  | [] => []
  | d :: ds => .tuple [.int i, d] :: tupsFrom (i + 1) ds
noncomputable abbrev sml (a : Int) : Prop := -(lim : Int) ≤ a ∧ a ≤ lim
/-- what a for goes over -/
noncomputable def itr (f : Str) (ds : List D) : Option (List D) := match ds with
  | [] => none
  | d :: r => match r with
    | [] => onIL d (fun n => if f = "range" ∧ sml n then some ((List.range n.toNat).map fun (i : Nat) => .int (i : Int)) else none) fun es => if f = "enumerate" then some (tupsFrom 0 es) else none
    | d' :: q => match q with
      | [] => onI d fun a => onI d' fun z => if f = "range" ∧ sml a ∧ sml z ∧ (z - a).toNat ≤ lim then some ((List.range (z - a).toNat).map fun (i : Nat) => .int (a + (i : Int))) else none
      | d2 :: p => match p with
        | [] => onI d fun a => onI d' fun z => onI d2 fun s => if f = "range" ∧ s = -1 ∧ sml a ∧ sml z ∧ (a - z).toNat ≤ lim then some ((List.range (a - z).toNat).map fun (i : Nat) => .int (a - (i : Int))) else none
        | _ :: _ => none
inductive Itr (f : Str) : List D → List D → Prop
  | one (n : Int) : f = "range" ∧ sml n → Itr f [.int n] ((List.range n.toNat).map fun (i : Nat) => .int (i : Int))
  | enum (xs : List D) : f = "enumerate" → Itr f [.list xs] (tupsFrom 0 xs)
  | two (a z : Int) : f = "range" ∧ sml a ∧ sml z ∧ (z - a).toNat ≤ lim → Itr f [.int a, .int z] ((List.range (z - a).toNat).map fun (i : Nat) => .int (a + (i : Int)))
  | three (a z s : Int) : f = "range" ∧ s = -1 ∧ sml a ∧ sml z ∧ (a - z).toNat ≤ lim → Itr f [.int a, .int z, .int s] ((List.range (a - z).toNat).map fun (i : Nat) => .int (a - (i : Int)))
theorem itr_some {f : Str} {ds es : List D} (h : itr f ds = some es) : Itr f ds es := by
  cases ds with
  | nil => cases h
  | cons d q =>
    cases q with
    | nil =>
      rcases onIL_some h with ⟨a, rfl, h⟩ | ⟨xs, rfl, h⟩
      · obtain ⟨h1, rfl⟩ := ite_some h
        exact .one a h1
      · obtain ⟨h1, rfl⟩ := ite_some h
        exact .enum xs h1
    | cons d' q =>
      cases q with
      | nil =>
        obtain ⟨a, rfl, h⟩ := onI_some h
        obtain ⟨b, rfl, h⟩ := onI_some h
        obtain ⟨h1, rfl⟩ := ite_some h
        exact .two a b h1
      | cons d2 q =>
        cases q with
        | nil =>
          obtain ⟨a, rfl, h⟩ := onI_some h
          obtain ⟨b, rfl, h⟩ := onI_some h
          obtain ⟨e, rfl, h⟩ := onI_some h
          obtain ⟨h1, rfl⟩ := ite_some h
          exact .three a b e h1
        | cons _ _ => cases h
noncomputable def free (csc : Scope) (ρ : PEnv) : PEnv := fun x => if csc.names.lookup x = some .free then ρ x else none
/-- a comprehension's own scope fits the def's -/
noncomputable def compOk (sc csc : Scope) : Bool := csc.kind == .function && csc.names.lookup ("__debug__" : Str) == none && csc.names.lookup ("__classdict__" : Str) == none && csc.names.all (fun y => y.2 != .cell && (y.2 != .free || sc.names.lookup y.1 == some .cell) && (y.2 != .local || csc.names.lookup y.1 == some .local))
noncomputable def locIn (sc : Scope) (x : Str) : Bool := match sc.names.lookup x with
  | some .local => true
  | some .cell => true
  | _ => false
noncomputable def bind2 (sc : Scope) (O : List Str) (xs : List Str) (d : D) (ρ : PEnv) : Option PEnv := match d with
  | .tuple ds => match xs with
    | [] => none
    | x :: xs => match xs with
      | [] => none
      | y :: xs => match xs with
        | _ :: _ => none
        | [] => match ds with
          | [] => none
          | d :: ds => match ds with
            | [] => none
            | d' :: ds => match ds with
              | _ :: _ => none
              | [] => if (locIn sc x && locIn sc y && !O.contains x && !O.contains y && x != y) = true then some (upd (upd ρ x d) y d') else none
  | _ => none
inductive Bind2 (sc : Scope) (O : List Str) (ρ : PEnv) : List Str → D → PEnv → Prop
  | mk (x y : Str) (d1 d2 : D) : (locIn sc x && locIn sc y && !O.contains x && !O.contains y && x != y) = true → Bind2 sc O ρ [x, y] (.tuple [d1, d2]) (upd (upd ρ x d1) y d2)
theorem bind2_some {sc : Scope} {O xs : List Str} {d : D} {ρ ρ' : PEnv} (h : bind2 sc O xs d ρ = some ρ') : Bind2 sc O ρ xs d ρ' := by
  cases d with
  | tuple ds =>
    cases xs with
    | nil => cases h
    | cons x xs =>
      cases xs with
      | nil => cases h
      | cons y xs =>
        cases xs with
        | cons _ _ => cases h
        | nil =>
          cases ds with
          | nil => cases h
          | cons d1 ds =>
            cases ds with
            | nil => cases h
            | cons d2 ds =>
              cases ds with
              | cons _ _ => cases h
              | nil =>
                obtain ⟨h1, rfl⟩ := ite_some h
                exact .mk x y d1 d2 h1
  | _ => cases h
/-- what is asked of an expression's shape -/
inductive V
  | name (x : Str)
  | tup (es : List Expr)
  | call (f : Expr)
  | own
  | sub (i : Expr)
  | slice
  | star
  | other
noncomputable def view : Expr → V
  | .Name x _ => .name x
  | .Tuple es _ _ => .tup es
  | .Call f _ _ _ => .call f
  | .List _ _ => .own
  | .ListComp _ _ _ _ => .own
  | .BinOp _ _ _ _ => .own
  | .Subscript _ i _ => .sub i
  | .Slice _ _ _ _ => .slice
  | .Starred _ _ => .star
  | _ => .other
inductive IsV : Expr → V → Prop
  | name (x : Str) (p : Pos) : IsV (.Name x p) (.name x)
  | tup (es : List Expr) (k : Nat) (p : Pos) : IsV (.Tuple es k p) (.tup es)
  | call (f : Expr) (as : List Expr) (ks : List Keyword) (p : Pos) : IsV (.Call f as ks p) (.call f)
  | sub (v i : Expr) (p : Pos) : IsV (.Subscript v i p) (.sub i)
  | slice (a b c : Option Expr) (p : Pos) : IsV (.Slice a b c p) .slice
  | own (e : Expr) : IsV e .own
  | star (e : Expr) : IsV e .star
  | other (e : Expr) : IsV e .other
theorem view_is (e : Expr) : IsV e (view e) := by
  cases e with
  | Name => exact .name _ _
  | Tuple => exact .tup _ _ _
  | Call => exact .call _ _ _ _
  | List => exact .own _
  | ListComp => exact .own _
  | BinOp => exact .own _
  | Subscript => exact .sub _ _ _
  | Slice => exact .slice _ _ _ _
  | Starred => exact .star _
  | _ => exact .other _
noncomputable def V.name? : V → Option Str
  | .name x => some x
  | _ => none
noncomputable def V.tup? : V → Option (List Expr)
  | .tup es => some es
  | _ => none
noncomputable def V.sub? : V → Option Expr
  | .sub i => some i
  | _ => none
noncomputable def V.slc : V → Bool
  | .slice => true
  | _ => false
theorem V.name_some {v : V} {x : Str} (h : v.name? = some x) : v = .name x := by
  cases v with
  | name y => cases h; rfl
  | _ => cases h
theorem V.tup_some {v : V} {x : List Expr} (h : v.tup? = some x) : v = .tup x := by
  cases v with
  | tup y => cases h; rfl
  | _ => cases h
theorem V.sub_some {v : V} {x : Expr} (h : v.sub? = some x) : v = .sub x := by
  cases v with
  | sub y => cases h; rfl
  | _ => cases h
theorem V.slc_true {v : V} (h : v.slc = true) : v = .slice := by
  cases v with
  | slice => rfl
  | _ => cases h
noncomputable def asName (e : Expr) : Option Str := (view e).name?
theorem asName_some {e : Expr} {x : Str} (h : asName e = some x) : ∃ p, e = .Name x p := by
  have q := view_is e
  rw [V.name_some h] at q
  cases q
  exact ⟨_, rfl⟩
noncomputable def namesOf : List Expr → Option (List Str)
  | [] => some []
  | e :: es => (asName e).bind fun x => (namesOf es).map (x :: ·)
theorem names_cons {e : Expr} {es : List Expr} {xs : List Str} (h : namesOf (e :: es) = some xs) : ∃ x p ys, e = .Name x p ∧ namesOf es = some ys ∧ xs = x :: ys := by
  obtain ⟨x, e1, h⟩ := Option.bind_eq_some_iff.mp h
  obtain ⟨p, rfl⟩ := asName_some e1
  obtain ⟨ys, e2, h⟩ := Option.map_eq_some_iff.mp h
  exact ⟨x, p, ys, rfl, e2, h.symm⟩
theorem names_nil {es : List Expr} (h : namesOf es = some []) : es = [] := by
  cases es with
  | nil => rfl
  | cons e es => obtain ⟨_, _, _, _, _, q⟩ := names_cons h; cases q
noncomputable def asTup (e : Expr) : Option (List Expr) := (view e).tup?
theorem asTup_some {e : Expr} {es : List Expr} (h : asTup e = some es) : ∃ k p, e = .Tuple es k p := by
  have q := view_is e
  rw [V.tup_some h] at q
  cases q
  exact ⟨_, _, rfl⟩
theorem names_two {es : List Expr} {x y : Str} (h : namesOf es = some [x, y]) : ∃ p q, es = [.Name x p, .Name y q] := by
  cases es with
  | nil => cases h
  | cons e es =>
    obtain ⟨x', p, ys, rfl, h, q⟩ := names_cons h
    cases q
    cases es with
    | nil => cases h
    | cons e es =>
      obtain ⟨y', p', ys, rfl, h, q⟩ := names_cons h
      cases q
      rw [names_nil h]
      exact ⟨p, p', rfl⟩
noncomputable def bindT (sc : Scope) (O : List Str) (e : Expr) (d : D) (ρ : PEnv) : Option PEnv := match asName e with
  | some x => if (locIn sc x && !O.contains x) = true then some (upd ρ x d) else none
  | none => (asTup e).bind fun es => (namesOf es).bind fun xs => bind2 sc O xs d ρ
inductive BindT (sc : Scope) (O : List Str) (ρ : PEnv) : Expr → D → PEnv → Prop
  | name (x : Str) (p : Pos) (d : D) : (locIn sc x && !O.contains x) = true → BindT sc O ρ (.Name x p) d (upd ρ x d)
  | tup (x y : Str) (px py p : Pos) (k : Nat) (d1 d2 : D) : (locIn sc x && locIn sc y && !O.contains x && !O.contains y && x != y) = true → BindT sc O ρ (.Tuple [.Name x px, .Name y py] k p) (.tuple [d1, d2]) (upd (upd ρ x d1) y d2)
theorem bindT_some {sc : Scope} {O : List Str} {e : Expr} {d : D} {ρ ρ' : PEnv} (h : bindT sc O e d ρ = some ρ') : BindT sc O ρ e d ρ' := by
  unfold bindT at h
  cases q : asName e with
  | some x =>
    rw [q] at h
    obtain ⟨p, rfl⟩ := asName_some q
    obtain ⟨h1, rfl⟩ := ite_some h
    exact .name x p d h1
  | none =>
    rw [q] at h
    obtain ⟨es, e1, h2⟩ := Option.bind_eq_some_iff.mp h
    obtain ⟨k, p, rfl⟩ := asTup_some e1
    obtain ⟨xs, e2, h3⟩ := Option.bind_eq_some_iff.mp h2
    cases bind2_some h3 with
    | mk x y d1 d2 h1 =>
      obtain ⟨px, py, rfl⟩ := names_two e2
      exact .tup x y px py p k d1 d2 h1
noncomputable def isSlc (e : Expr) : Bool := (view e).slc
theorem isSlc_true {e : Expr} (h : isSlc e = true) : ∃ a b c p, e = .Slice a b c p := by
  have q := view_is e
  rw [V.slc_true h] at q
  cases q
  exact ⟨_, _, _, _, rfl⟩
noncomputable def asSub (e : Expr) : Option Expr := (view e).sub?
theorem asSub_some {e i : Expr} (h : asSub e = some i) : ∃ v p, e = .Subscript v i p := by
  have q := view_is e
  rw [V.sub_some h] at q
  cases q
  exact ⟨_, _, rfl⟩
noncomputable def isSlice (e : Expr) : Bool := match asSub e with
  | some i => isSlc i
  | none => false
theorem isSlice_true {e : Expr} (h : isSlice e = true) : ∃ v i q, e = .Subscript v i q ∧ isSlc i = true := by
  unfold isSlice at h
  cases q : asSub e with
  | some i =>
    rw [q] at h
    obtain ⟨v, p, e1⟩ := asSub_some q
    exact ⟨v, i, p, e1, h⟩
  | none => rw [q] at h; cases h
noncomputable def isTup (e : Expr) : Bool := (asTup e).isSome
noncomputable def V.call? : V → Option Expr
  | .call f => some f
  | _ => none
noncomputable def isEnum (e : Expr) : Bool := match (view e).call? with
  | some f => (match asName f with
    | some x => x == "enumerate"
    | none => false)
  | none => false
noncomputable def tgOk (it tg : Expr) : Bool := match asName tg with
  | some _ => !isEnum it
  | none => isTup tg && isEnum it
theorem tgOk_n {it tg : Expr} (h : tgOk it tg = true) (hn : isEnum it = false) : ∃ x p, tg = .Name x p := by
  unfold tgOk at h
  rw [hn, Bool.and_false] at h
  cases q : asName tg with
  | some x => exact ⟨x, asName_some q⟩
  | none => rw [q] at h; cases h
theorem tgOk_t {it tg : Expr} (h : tgOk it tg = true) (hn : isEnum it = true) : ∃ es k p, tg = .Tuple es k p := by
  unfold tgOk at h
  rw [hn, Bool.and_true] at h
  cases q : asName tg with
  | some x => rw [q] at h; cases h
  | none =>
    rw [q] at h
    obtain ⟨es, h⟩ := Option.isSome_iff_exists.mp h
    exact ⟨es, asTup_some h⟩
noncomputable def getAt (d : D) (i : Int) (b : List D) : Option D := match d with
  | .list ds => pick ds i
  | .tuple ds => pick ds i
  | .box => if 0 ≤ i then b[i.toNat]? else none
  | _ => none
noncomputable def isFresh (e : Expr) : Bool := match view e with
  | .own => true
  | .call f => (match asName f with
    | some x => x == "list"
    | none => false)
  | .sub i => isSlc i
  | _ => false
noncomputable def isList : D → Bool
  | .list _ => true
  | _ => false
noncomputable def putAt (ds : List D) (i : Int) (d : D) : Option (List D) := if 0 ≤ i ∧ i < ds.length then some (ds.set i.toNat d) else none
end Mine

namespace Mine
open PySem PySem.Calls PyProof.Rows
/-! The evaluator's word holds of the model's run. -/
mutual
inductive VR (h : Heap) (M : Addr → Prop) (B : Addr) : Value → D → Prop
  | none : VR h M B .none .none
  | bool (t : Bool) : VR h M B (.bool t) (.bool t)
  | int (i : Int) (t : Tok) : VR h M B (.int i t) (.int i)
  | list {a : Addr} {vs : List Value} {ds : List D} : ¬ M a → h.IsList a vs.toArray → vs.length ≤ lim → VRs h M B vs ds → VR h M B (.ref a) (.list ds)
  | tuple {a : Addr} {vs : List Value} {ds : List D} : ¬ M a → IsTup h a vs.toArray → vs.length ≤ lim → VRs h M B vs ds → VR h M B (.ref a) (.tuple ds)
  | rng {a : Addr} {lo hi : Int} {t u v : Tok} : ¬ M a → IsRange h a lo hi 1 t u v → -(lim : Int) ≤ lo ∧ lo ≤ lim ∧ -(lim : Int) ≤ hi ∧ hi ≤ lim ∧ (hi - lo).toNat ≤ lim → VR h M B (.ref a) (.rng lo hi)
  | box : VR h M B (.ref B) .box
inductive VRs (h : Heap) (M : Addr → Prop) (B : Addr) : List Value → List D → Prop
  | nil : VRs h M B [] []
  | cons {v : Value} {vs : List Value} {d : D} {ds : List D} : VR h M B v d → VRs h M B vs ds → VRs h M B (v :: vs) (d :: ds)
end
theorem VRs.ind {h : Heap} {M : Addr → Prop} {B : Addr} {P : List Value → List D → Prop} (h0 : P [] []) (h1 : ∀ v vs d ds, VR h M B v d → VRs h M B vs ds → P vs ds → P (v :: vs) (d :: ds)) {vs : List Value} {ds : List D} (r : VRs h M B vs ds) : P vs ds :=
  VRs.rec (motive_1 := fun _ _ _ => True) (motive_2 := fun vs ds _ => P vs ds) trivial (fun _ => trivial) (fun _ _ => trivial) (fun _ _ _ _ _ => trivial) (fun _ _ _ _ _ => trivial) (fun _ _ _ => trivial) trivial h0 (fun q r _ ih => h1 _ _ _ _ q r ih) r
theorem VR.mono {h h' : Heap} {M M' : Addr → Prop} {B : Addr} (hs : ∀ a o, ¬ M a → h.get? a = some o → ¬ M' a ∧ h'.get? a = some o) {v : Value} {d : D} (x : VR h M B v d) : VR h' M' B v d :=
  VR.rec (motive_1 := fun v d _ => VR h' M' B v d) (motive_2 := fun vs ds _ => VRs h' M' B vs ds) .none .bool .int
    (fun hm hl hn _ ih => .list (let ⟨o, ho, _⟩ := hl; (hs _ o hm ho).1) (hl.at fun o e => (hs _ o hm e).2) hn ih) (fun hm hl hn _ ih => .tuple (let ⟨o, ho, _⟩ := hl; (hs _ o hm ho).1) (let ⟨o, ho, q⟩ := hl; ⟨o, (hs _ o hm ho).2, q⟩) hn ih)
    (fun hm hr hl => .rng (hs _ _ hm hr).1 (hs _ _ hm hr).2 hl) .box .nil (fun _ _ i1 i2 => .cons i1 i2) x
theorem VRs.mono {h h' : Heap} {M M' : Addr → Prop} {B : Addr} (hs : ∀ a o, ¬ M a → h.get? a = some o → ¬ M' a ∧ h'.get? a = some o) {vs : List Value} {ds : List D} (r : VRs h M B vs ds) : VRs h' M' B vs ds := r.ind .nil fun _ _ _ _ h1 _ ih => .cons (h1.mono hs) ih
theorem VR.int_inv {h : Heap} {M : Addr → Prop} {B : Addr} {v : Value} {i : Int} (x : VR h M B v (.int i)) : ∃ t, v = .int i t := by cases x; exact ⟨_, rfl⟩
theorem VR.bool_inv {h : Heap} {M : Addr → Prop} {B : Addr} {v : Value} {t : Bool} (x : VR h M B v (.bool t)) : v = .bool t := by cases x; rfl
theorem VR.list_inv {h : Heap} {M : Addr → Prop} {B : Addr} {v : Value} {ds : List D} (x : VR h M B v (.list ds)) : ∃ a vs, v = .ref a ∧ ¬ M a ∧ h.IsList a (List.toArray vs) ∧ vs.length ≤ lim ∧ VRs h M B vs ds := by cases x with | list m l n r => exact ⟨_, _, rfl, m, l, n, r⟩
theorem VR.tup_inv {h : Heap} {M : Addr → Prop} {B : Addr} {v : Value} {ds : List D} (x : VR h M B v (.tuple ds)) : ∃ a vs, v = .ref a ∧ ¬ M a ∧ IsTup h a (List.toArray vs) ∧ vs.length ≤ lim ∧ VRs h M B vs ds := by cases x with | tuple m l n r => exact ⟨_, _, rfl, m, l, n, r⟩
theorem VR.box_inv {h : Heap} {M : Addr → Prop} {B : Addr} {v : Value} (x : VR h M B v .box) : v = .ref B := by cases x; rfl
theorem VRs.nil_inv {h : Heap} {M : Addr → Prop} {B : Addr} {vs : List Value} (x : VRs h M B vs []) : vs = [] := by cases x; rfl
theorem VRs.cons_inv {h : Heap} {M : Addr → Prop} {B : Addr} {vs : List Value} {d : D} {ds : List D} (x : VRs h M B vs (d :: ds)) : ∃ v ws, vs = v :: ws ∧ VR h M B v d ∧ VRs h M B ws ds := by cases x with | cons a b => exact ⟨_, _, rfl, a, b⟩
theorem VRs.one_inv {h : Heap} {M : Addr → Prop} {B : Addr} {vs : List Value} {d : D} (x : VRs h M B vs [d]) : ∃ v, vs = [v] ∧ VR h M B v d := by
  obtain ⟨v, ws, rfl, a, b⟩ := x.cons_inv
  exact ⟨v, by rw [b.nil_inv], a⟩
theorem VRs.two_inv {h : Heap} {M : Addr → Prop} {B : Addr} {vs : List Value} {d d' : D} (x : VRs h M B vs [d, d']) : ∃ v v', vs = [v, v'] ∧ VR h M B v d ∧ VR h M B v' d' := by
  obtain ⟨v, ws, rfl, a, b⟩ := x.cons_inv
  obtain ⟨v', rfl, b'⟩ := b.one_inv
  exact ⟨v, v', rfl, a, b'⟩
theorem VRs.length {h : Heap} {M : Addr → Prop} {B : Addr} {vs : List Value} {ds : List D} (r : VRs h M B vs ds) : vs.length = ds.length := r.ind (P := fun vs ds => vs.length = ds.length) rfl fun _ _ _ _ _ _ ih => congrArg (· + 1) ih
theorem VRs.get {h : Heap} {M : Addr → Prop} {B : Addr} {vs : List Value} {ds : List D} (r : VRs h M B vs ds) : ∀ {i : Nat} {d : D}, ds[i]? = some d → ∃ v, vs[i]? = some v ∧ VR h M B v d :=
  r.ind (P := fun vs ds => ∀ {i : Nat} {d : D}, ds[i]? = some d → ∃ v, vs[i]? = some v ∧ VR h M B v d) (fun e => nomatch (show (none : Option D) = some _ from e)) fun v vs d ds h1 _ ih i d' e => by
    cases i with
    | zero => cases e; exact ⟨_, rfl, h1⟩
    | succ i => exact ih e
theorem VRs.append {h : Heap} {M : Addr → Prop} {B : Addr} {vs ws : List Value} {ds es : List D} (r : VRs h M B vs ds) (q : VRs h M B ws es) : VRs h M B (vs ++ ws) (ds ++ es) := r.ind (P := fun vs ds => VRs h M B (vs ++ ws) (ds ++ es)) q fun _ _ _ _ h1 _ ih => .cons h1 ih
theorem VRs.take {h : Heap} {M : Addr → Prop} {B : Addr} {vs : List Value} {ds : List D} (r : VRs h M B vs ds) : ∀ k, VRs h M B (vs.take k) (ds.take k) :=
  r.ind (P := fun vs ds => ∀ k, VRs h M B (vs.take k) (ds.take k)) (fun k => by rw [List.take_nil, List.take_nil]; exact .nil) fun _ _ _ _ h1 _ ih k => by
    cases k with
    | zero => exact .nil
    | succ k => exact .cons h1 (ih k)
theorem VRs.drop {h : Heap} {M : Addr → Prop} {B : Addr} {vs : List Value} {ds : List D} (r : VRs h M B vs ds) : ∀ k, VRs h M B (vs.drop k) (ds.drop k) :=
  r.ind (P := fun vs ds => ∀ k, VRs h M B (vs.drop k) (ds.drop k)) (fun k => by rw [List.drop_nil, List.drop_nil]; exact .nil) fun _ _ _ _ h1 r ih k => by
    cases k with
    | zero => exact .cons h1 r
    | succ k => exact ih k
theorem VRs.rev {h : Heap} {M : Addr → Prop} {B : Addr} {vs : List Value} {ds : List D} (r : VRs h M B vs ds) : VRs h M B vs.reverse ds.reverse :=
  r.ind (P := fun vs ds => VRs h M B vs.reverse ds.reverse) .nil fun _ _ _ _ h1 _ ih => by rw [List.reverse_cons, List.reverse_cons]; exact ih.append (.cons h1 .nil)
theorem VRs.set {h : Heap} {M : Addr → Prop} {B : Addr} {v : Value} {d : D} (hv : VR h M B v d) {vs : List Value} {ds : List D} (r : VRs h M B vs ds) : ∀ k, VRs h M B (vs.set k v) (ds.set k d) :=
  r.ind (P := fun vs ds => ∀ k, VRs h M B (vs.set k v) (ds.set k d)) (fun _ => .nil) fun _ _ _ _ h1 r ih k => by
    cases k with
    | zero => exact .cons hv r
    | succ k => exact .cons h1 (ih k)
theorem VRs.replicate {h : Heap} {M : Addr → Prop} {B : Addr} {v : Value} {d : D} (hv : VR h M B v d) (k : Nat) : VRs h M B (List.replicate k v) (List.replicate k d) := Nat.rec .nil (fun _ ih => .cons hv ih) k
theorem VRs.ints {h : Heap} {M : Addr → Prop} {B : Addr} {vs : List Value} {xs : List Int} (r : VRs h M B vs (xs.map .int)) : IntsAre vs xs := by
  induction xs generalizing vs with
  | nil => rw [r.nil_inv]; exact .nil
  | cons x xs ih =>
    obtain ⟨v, ws, rfl, a, b⟩ := r.cons_inv
    obtain ⟨t, rfl⟩ := a.int_inv
    exact .cons x t (ih b)
theorem VRs.ofInts {h : Heap} {M : Addr → Prop} {B : Addr} {vs : List Value} {xs : List Int} (r : IntsAre vs xs) : VRs h M B vs (xs.map .int) := by
  induction r with
  | nil => exact .nil
  | cons n t _ ih => exact .cons (.int n t) ih
/-- what the run stands on: the program's own top, and the one box -/
structure Cx where
  prog : Program
  w : World
  mg : Str → Option Value
  mb : Str → Option Value
  hT : Heap
  B : Addr
  SL : Addr
  xs : List Int
structure Cx.Ok (c : Cx) : Prop where
  g : c.hT.Ns mainGlobals c.mg
  b : c.hT.Ns builtinsNs c.mb
  nolimit : c.hT.NoLimit
  hB : c.hT.get? c.B = none
  blt : ∀ x ∈ bltNames, c.mg x = none ∧ c.mb x = bootBuiltins x
  script : ∃ vs, c.hT.IsList c.SL (List.toArray vs) ∧ IntsAre vs c.xs ∧ vs.length ≤ lim
noncomputable abbrev NoE : Value → Shared → Prop := fun _ _ => False
noncomputable def KX (B : Addr) (h h' : Heap) : Prop := ∀ a o, a ≠ B → h.get? a = some o → h'.get? a = some o
theorem KX.refl {B : Addr} {h : Heap} : KX B h h := fun _ _ _ e => e
theorem KX.trans {B : Addr} {h h' h'' : Heap} (x : KX B h h') (y : KX B h' h'') : KX B h h'' := fun a o n e => y a o n (x a o n e)
theorem KX.of {B : Addr} {h h' : Heap} (x : ∀ a o, h.get? a = some o → h'.get? a = some o) : KX B h h' := fun a o _ e => x a o e
theorem KX.push {B : Addr} {h : Heap} (o : Obj) : KX B h (h.push o) := fun _ _ _ e => Heap.get?_push_of_some _ e
noncomputable def BoxR (c : Cx) (h : Heap) (b : List D) : Prop :=
  ∃ (i k : Int) (t u : Tok) (n : Nat), b = [.list (c.xs.map .int), .int i, .int k] ∧ h.get? c.B = some { cls := .type "list", data := .seq #[.ref c.SL, .int i t, .int k u] n }
/-- the addresses that may be turned: none of the program's own -/
structure MOk (c : Cx) (h : Heap) (M : Addr → Prop) : Prop where
  box : M c.B
  live : ∀ a, M a → ∃ o, h.get? a = some o
  low : ∀ a, M a → c.hT.get? a = none
noncomputable def Slot (h : Heap) (env : Env) (x : Str) (v : Value) : Prop :=
  (env.kindOf x = some .local ∧ ∃ m, h.Ns env.locals m ∧ m x = some v) ∨
  ((env.kindOf x = some .cell ∨ env.kindOf x = some .free) ∧ ∃ a, env.cells.lookup x = some a ∧ h.IsCell a (some v))
/-- a list of the def's own -/
noncomputable def OwnV (h : Heap) (M : Addr → Prop) (B : Addr) (v : Value) (d : D) : Prop :=
  ∃ a vs n ds, v = .ref a ∧ d = .list ds ∧ h.get? a = some { cls := .type "list", data := .seq (List.toArray vs) n } ∧ VRs h M B vs ds ∧ vs.length ≤ lim ∧ a ≠ B
/-- the frame's own places may be stored into -/
structure Wr (sc : Scope) (env : Env) (M : Addr → Prop) (h : Heap) : Prop where
  ns : ∃ m, h.Ns env.locals m
  mL : M env.locals
  cells : ∀ x a, env.cells.lookup x = some a → (∃ v, h.IsCell a v) ∧ M a
  apart : ∀ x y a, env.cells.lookup x = some a → env.cells.lookup y = some a → x = y
  loc : ∀ x, locIn sc x = true → env.kindOf x = some .local ∨ (env.kindOf x = some .cell ∧ ∃ a, env.cells.lookup x = some a)
structure Rd (c : Cx) (sc : Scope) (O : List Str) (env : Env) (M : Addr → Prop) (ρ : PEnv) (b : List D) (h : Heap) : Prop where
  kind : env.scope.kind = .function
  glob : env.globals = mainGlobals
  bi : env.builtins = builtinsNs
  gl : ∀ x, sc.names.lookup x = some .globalImplicit → env.kindOf x = some .globalImplicit
  nd : sc.names.lookup ("__debug__" : Str) = none ∧ sc.names.lookup ("__classdict__" : Str) = none
  dom : ∀ x d, ρ x = some d → x ≠ "__debug__" ∧ x ≠ "__classdict__"
  cl : ∀ x, sc.names.lookup x = some .cell → env.kindOf x = some .cell ∧ (env.cells.lookup x).isSome = true
  base : ∀ a o, c.hT.get? a = some o → h.get? a = some o
  m : MOk c h M
  vars : ∀ x d, ρ x = some d → ∃ v, Slot h env x v ∧ (O.contains x = false → VR h M c.B v d) ∧ (O.contains x = true → OwnV h M c.B v d)
  box : BoxR c h b
  wr : Wr sc env M h
theorem ne_of_kinds {h : Heap} {a b : Addr} {o : Obj} {T : String} {xs : Array Value} {n : Nat} (ha : h.get? a = some o) (hb : h.get? b = some { cls := .type T, data := .seq xs n }) (hd : ∀ ys k, o.data ≠ .seq ys k) : a ≠ b := by
  rintro rfl
  rw [ha] at hb
  cases Option.some.inj hb
  exact hd _ _ rfl
theorem Slot.keep {B : Addr} {h h' : Heap} {env : Env} {x : Str} {v : Value} (q : Slot h env x v) (hB : ∃ T xs n, h.get? B = some { cls := .type T, data := .seq xs n }) (k : KX B h h') : Slot h' env x v := by
  obtain ⟨T, xs, n, hB⟩ := hB
  rcases q with ⟨q1, m, hn, hm⟩ | ⟨q1, a, ha, o, ho, hd⟩
  · refine .inl ⟨q1, m, hn.at' fun o e => k _ o ?_ e, hm⟩
    obtain ⟨o', es, ep, ho', hd', _⟩ := hn
    exact ne_of_kinds ho' hB (by intro ys k; rw [hd']; intro h; cases h)
  · exact .inr ⟨q1, a, ha, o, k _ o (ne_of_kinds ho hB (by intro ys k; rw [hd]; intro h; cases h)) ho, hd⟩
theorem VR.keepX {c : Cx} {h h' : Heap} {M : Addr → Prop} {v : Value} {d : D} (q : VR h M c.B v d) (hB : M c.B) (k : KX c.B h h') : VR h' M c.B v d :=
  q.mono fun a o hm e => ⟨hm, k a o (fun q => hm (q ▸ hB)) e⟩
theorem VRs.keepX {c : Cx} {h h' : Heap} {M : Addr → Prop} {v : List Value} {d : List D} (q : VRs h M c.B v d) (hB : M c.B) (k : KX c.B h h') : VRs h' M c.B v d :=
  q.mono fun a o hm e => ⟨hm, k a o (fun q => hm (q ▸ hB)) e⟩
theorem OwnV.keepX {c : Cx} {h h' : Heap} {M : Addr → Prop} {v : Value} {d : D} (q : OwnV h M c.B v d) (hB : M c.B) (k : KX c.B h h') : OwnV h' M c.B v d := by
  obtain ⟨a, vs, n, ds, h1, h2, h3, h4, h5, h6⟩ := q
  exact ⟨a, vs, n, ds, h1, h2, k _ _ h6 h3, h4.keepX hB k, h5, h6⟩
theorem BoxR.seq {c : Cx} {h : Heap} {b : List D} (x : BoxR c h b) : ∃ T xs n, h.get? c.B = some { cls := .type T, data := .seq xs n } := let ⟨_, _, _, _, n, _, e⟩ := x; ⟨_, _, n, e⟩
theorem BoxR.keep {c : Cx} {h h' : Heap} {b : List D} (x : BoxR c h b) (k : ∀ a o, h.get? a = some o → h'.get? a = some o) : BoxR c h' b := by
  obtain ⟨i, k', t, u, n, e, q⟩ := x
  exact ⟨i, k', t, u, n, e, k _ _ q⟩
theorem MOk.to {c : Cx} {h h' : Heap} {M : Addr → Prop} {b : List D} (m : MOk c h M) (k : KX c.B h h') (x : BoxR c h' b) : MOk c h' M where
  box := m.box
  live := fun a hm => by
    by_cases q : a = c.B
    · obtain ⟨T, xs, n, e⟩ := x.seq; exact ⟨_, q ▸ e⟩
    · obtain ⟨o, e⟩ := m.live a hm; exact ⟨o, k a o q e⟩
  low := m.low
section
variable {c : Cx} {sc : Scope} {env : Env} {M : Addr → Prop}
theorem Ns.kind {h : Heap} {a : Addr} {m : Str → Option Value} (x : h.Ns a m) : ∃ o es ep, h.get? a = some o ∧ o.data = .dict es ep := let ⟨o, es, ep, h1, h2, _⟩ := x; ⟨o, es, ep, h1, h2⟩
theorem Wr.keep {h h' : Heap} {b : List D} (w : Wr sc env M h) (k : KX c.B h h') (x : BoxR c h b) : Wr sc env M h' where
  ns := by
    obtain ⟨m, hn⟩ := w.ns
    obtain ⟨o, es, ep, ho, hd⟩ := Ns.kind hn
    obtain ⟨T, xs, n, e⟩ := x.seq
    exact ⟨m, hn.at' fun o e' => k _ o (ne_of_kinds ho e (by intro ys q; rw [hd]; intro h; cases h)) e'⟩
  mL := w.mL
  cells := fun y a ha => by
    obtain ⟨⟨v, o, ho, hd⟩, hm⟩ := w.cells y a ha
    obtain ⟨T, xs, n, e⟩ := x.seq
    exact ⟨⟨v, o, k _ o (ne_of_kinds ho e (by intro ys q; rw [hd]; intro h; cases h)) ho, hd⟩, hm⟩
  apart := w.apart
  loc := w.loc
end
section
variable {c : Cx} {sc : Scope} {O : List Str} {env : Env} {M : Addr → Prop} {ρ : PEnv} {b b' : List D} {h h' : Heap}
theorem Rd.to (R : Rd c sc O env M ρ b h) (ok : c.Ok) (k : KX c.B h h') (x : BoxR c h' b') : Rd c sc O env M ρ b' h' where
  kind := R.kind
  glob := R.glob
  bi := R.bi
  gl := R.gl
  nd := R.nd
  dom := R.dom
  cl := R.cl
  base := fun a o e => k a o (fun q => by rw [q, ok.hB] at e; cases e) (R.base a o e)
  m := R.m.to k x
  vars := fun x d e => by
    obtain ⟨v, h1, h2, h3⟩ := R.vars x d e
    exact ⟨v, h1.keep R.box.seq k, fun q => (h2 q).keepX R.m.box k, fun q => (h3 q).keepX R.m.box k⟩
  box := x
  wr := R.wr.keep k R.box
end
/-- a list made anew -/
noncomputable def NewL (h h' : Heap) (M : Addr → Prop) (B : Addr) (v : Value) (ds : List D) : Prop :=
  ∃ a vs n, v = .ref a ∧ h.get? a = none ∧ h'.get? a = some { cls := .type "list", data := .seq (List.toArray vs) n } ∧ VRs h' (fun b => M b ∨ b = a) B vs ds ∧ vs.length ≤ lim
noncomputable def Post (c : Cx) (M : Addr → Prop) (s : Shared) (d : D) (b' : List D) (fr : Prop) (Q : Value → Shared → Prop) : Prop :=
  ∀ v h' tk', KX c.B s.heap h' → BoxR c h' b' → VR h' M c.B v d → (fr → ∀ ds, d = .list ds → NewL s.heap h' M c.B v ds) → Q v { s with heap := h', toks := tk' }
/-- a call of a def of the program's -/
noncomputable def CallP (c : Cx) (A : Around) (f : Str) (args : List D) (b : List D) (P : D → List D → Prop) : Prop :=
  ∃ fa fo fd, c.mg f = some (.ref fa) ∧ c.hT.get? fa = some fo ∧ fo.data = .func fd ∧ ∀ (s : Shared) (M : Addr → Prop) (vs : List Value) (Q : Value → Shared → Prop),
    (∀ a o, c.hT.get? a = some o → s.heap.get? a = some o) → MOk c s.heap M → BoxR c s.heap b → VRs s.heap M c.B vs args →
    (∀ d b', P d b' → Post c M s d b' False Q) → wpAny (model c.prog c.w) A (call (.ref fa) vs) Q NoE s
structure AOk (A : Around) : Prop where
  hh : A.handled = none
  un : A.units < 9000
end Mine

namespace Mine
open PySem PySem.Calls PyProof.Rows
theorem size_none (h : Heap) : h.get? h.objs.size = none := by
  cases e : h.get? h.objs.size with
  | none => rfl
  | some o => exact absurd (Heap.lt_size e) (Nat.lt_irrefl _)
theorem lim_le : lim ≤ sizeLine := by decide
section
variable {c : Cx} {M : Addr → Prop} {s : Shared} {d : D} {b b' b₁ : List D} {fr : Prop} {Q : Value → Shared → Prop} {h₁ : Heap} {t₁ : Nat}
theorem MOk.new {h : Heap} (m : MOk c h M) : ¬ M h.objs.size := fun q => by
  obtain ⟨o, e⟩ := m.live _ q; rw [size_none] at e; cases e
theorem NewL.back {h h' : Heap} {v : Value} {ds : List D} (x : NewL h₁ h' M c.B v ds) (k : KX c.B h h₁) (y : BoxR c h₁ b₁) : NewL h h' M c.B v ds := by
  obtain ⟨a, vs, n, rfl, h1, h2, h3, h4⟩ := x
  refine ⟨a, vs, n, rfl, ?_, h2, h3, h4⟩
  cases e : h.get? a with
  | none => rfl
  | some o =>
    by_cases q : a = c.B
    · obtain ⟨T, xs, n, e'⟩ := y.seq; rw [q, e'] at h1; cases h1
    · rw [k _ _ q e] at h1; cases h1
theorem Post.from (P : Post c M s d b' fr Q) (k : KX c.B s.heap h₁) (x : BoxR c h₁ b₁) : Post c M { s with heap := h₁, toks := t₁ } d b' fr Q :=
  fun v h' tk' k' x' r n => P v h' tk' (k.trans k') x' r fun q ds e => (n q ds e).back k x
theorem Post.weak {fr' : Prop} (P : Post c M s d b' fr Q) (w : fr → fr') : Post c M s d b' fr' Q := fun v h' tk' k x r n => P v h' tk' k x r fun q => n (w q)
theorem VRs.push {h : Heap} {o : Obj} {vs : List Value} {ds : List D} (r : VRs h M c.B vs ds) : VRs (h.push o) M c.B vs ds := r.mono fun _ _ hm e => ⟨hm, Heap.get?_push_of_some _ e⟩
theorem Post.newList {vs : List Value} {ds : List D} (P : Post c M s (.list ds) b fr Q) (m : MOk c s.heap M) (x : BoxR c s.heap b) (r : VRs s.heap M c.B vs ds) (hn : vs.length ≤ lim) :
    Q (.ref s.heap.objs.size) { s with heap := s.heap.push { cls := .type "list", data := .seq vs.toArray } } := by
  refine P _ _ s.toks (KX.push _) (x.keep fun _ _ e => Heap.get?_push_of_some _ e) (.list m.new ⟨_, Heap.get?_push_size _ rfl, rfl, 0, rfl⟩ hn r.push) fun _ ds' e => ?_
  cases e
  exact ⟨_, vs, 0, rfl, size_none _, Heap.get?_push_size _ rfl, r.mono fun a o hm e => ⟨fun q => q.elim hm fun q => (by rw [q, size_none] at e; cases e), Heap.get?_push_of_some _ e⟩, hn⟩
theorem Post.newTuple {vs : List Value} {ds : List D} (P : Post c M s (.tuple ds) b fr Q) (m : MOk c s.heap M) (x : BoxR c s.heap b) (r : VRs s.heap M c.B vs ds) (hn : vs.length ≤ lim) :
    Q (.ref s.heap.objs.size) { s with heap := s.heap.push { cls := .type "tuple", data := .seq vs.toArray } } := by
  refine P _ _ s.toks (KX.push _) (x.keep fun _ _ e => Heap.get?_push_of_some _ e) (.tuple m.new ⟨_, Heap.get?_push_size _ rfl, rfl, 0, rfl⟩ hn r.push) fun _ ds' e => ?_
  cases e
theorem Post.tok {i : Int} (P : Post c M s (.int i) b fr Q) (x : BoxR c s.heap b) (t tk : Tok) : Q (.int i t) { s with toks := tk } :=
  P _ s.heap _ KX.refl x (.int i t) fun _ _ e => nomatch e
theorem Post.bool {t : Bool} (P : Post c M s (.bool t) b fr Q) (x : BoxR c s.heap b) : Q (.bool t) s :=
  P _ s.heap s.toks KX.refl x (.bool t) fun _ _ e => nomatch e
theorem Post.none (P : Post c M s .none b fr Q) (x : BoxR c s.heap b) : Q .none s :=
  P _ s.heap s.toks KX.refl x .none fun _ _ e => nomatch e
end
section
variable {prog : Program} {w : World} {A : Around} {E : Value → Shared → Prop} {s : Shared} {Q : Value → Shared → Prop}
theorem add_H {l b : Addr} {vs ws : List Value} (hl : s.heap.IsList l vs.toArray) (hb : s.heap.IsList b ws.toArray)
    (h : Q (.ref s.heap.objs.size) { s with heap := s.heap.push { cls := .type "list", data := .seq (vs ++ ws).toArray } }) (hsz : vs.length + ws.length ≤ sizeLine) :
    wpAny (model prog w) A (binaryOp .Add (.ref l) (.ref b)) Q E s := by
  obtain ⟨⟨cls, dd, data, sl⟩, ho, hc, n, hd⟩ := id hl
  obtain ⟨⟨cls2, dd2, data2, sl2⟩, ho2, hc2, n2, hd2⟩ := id hb
  simp only at hc hd hc2 hd2
  subst hc hd hc2 hd2
  have e : vs.toArray ++ ws.toArray = (vs ++ ws).toArray := by simp
  refine concat_meets ⟨_, ho, rfl⟩ ⟨_, ho2, rfl⟩ noFill_list_add seq_list_add PySem.F.slot_list_add PySem.F.entry_list_add (PySem.F.args_list_add_2 _ _) (list_addW l b vs.toArray ws.toArray n n2 dd dd2 sl sl2 (by simpa using hsz)) ⟨ho, ho2, ?_⟩
  rw [e]
  exact h
theorem foldl_rep (v : Value) : ∀ (k : Nat) (acc : Array Value), List.foldl (fun x1 x2 => x1 ++ x2) acc (List.replicate k #[v]) = acc ++ (List.replicate k v).toArray
  | 0, acc => by simp
  | k + 1, acc => by
    rw [List.replicate_succ, List.foldl_cons, foldl_rep v k]
    apply Array.ext'
    simp [List.replicate_succ]
theorem mul_H {l : Addr} {v : Value} {x : Int} {u : Tok} (hl : s.heap.IsList l [v].toArray) (hlo : -(lim : Int) ≤ x) (hx : x ≤ lim)
    (h : Q (.ref s.heap.objs.size) { s with heap := s.heap.push { cls := .type "list", data := .seq (List.replicate x.toNat v).toArray } }) :
    wpAny (model prog w) A (binaryOp .Mult (.ref l) (.int x u)) Q E s := by
  obtain ⟨⟨cls, d, data, sl⟩, ho, hcl, k, hd⟩ := id hl
  simp only at hcl hd
  subst hcl hd
  have hx' : x ≤ 1000000 := hx
  have hlo' : -(1000000 : Int) ≤ x := hlo
  have e : List.foldl (fun x1 x2 => x1 ++ x2) #[] (List.replicate (if [v].toArray.isEmpty = true then 0 else x.toNat) [v].toArray) = (List.replicate x.toNat v).toArray := by
    rw [if_neg (by simp)]
    have := foldl_rep v x.toNat #[]
    simpa using this
  refine wpAny_binaryOp_repeat_ref (T := "list") (U := "int") (by decide) ⟨_, ho, rfl⟩ (fun s' => typeIs_int s' x u) noFill_list_mul F.fills_int_mul F.slot_int_rmul repeat_list F.slot_int_index.lookup
    (call_meets F.slot_int_rmul (typeIs_int s x u) F.entry_int_rmul (F.args_int_rmul_2 _ _) (lm_int_rmul_list_any x u l [v].toArray k d sl)
      ⟨ho, rfl, ⟨_, ho, rfl⟩, call_meets F.slot_list_mul ⟨_, ho, rfl⟩ F.entry_list_mul (F.args_list_mul_2 _ _)
        (lm_list_mul_any l [v].toArray k d sl x u (by simp [Builtin.List.listFitsIndex]; exact o2 hx' hlo') (by simp; exact o1 hx') (by simp [Builtin.List.listTooLong, sizeLine]; exact o0 hx'))
        ⟨ho, ?_⟩⟩)
  rw [e]
  exact h
end
section
variable {c : Cx} {A : Around} {M : Addr → Prop} {s : Shared} {d₁ d₂ d : D} {v₁ v₂ : Value} {b : List D} {Q : Value → Shared → Prop}
theorem binop_snd (ha : AOk A) {op : Operator} (h : binop op d₁ d₂ = some d) (m : MOk c s.heap M) (x : BoxR c s.heap b) (r₁ : VR s.heap M c.B v₁ d₁) (r₂ : VR s.heap M c.B v₂ d₂)
    {fr : Prop} (P : Post c M s d b fr Q) : wpAny (model c.prog c.w) A (binaryOp op v₁ v₂) Q NoE s := by
  cases op with
  | Add =>
    rcases onIL_some h with ⟨a, rfl, h⟩ | ⟨ds, rfl, h⟩
    · obtain ⟨b, rfl, h⟩ := onI_some h
      cases h
      obtain ⟨t, rfl⟩ := r₁.int_inv
      obtain ⟨u, rfl⟩ := r₂.int_inv
      exact PySem.P.add_int (P.tok x _ _)
    · obtain ⟨es, rfl, h⟩ := onL_some h
      obtain ⟨hm, rfl⟩ := ite_some h
      obtain ⟨a₁, vs₁, rfl, m₁, l₁, n₁, q₁⟩ := r₁.list_inv
      obtain ⟨a₂, vs₂, rfl, m₂, l₂, n₂, q₂⟩ := r₂.list_inv
      have hq : _ := q₁.append q₂
      have hl := hq.length
      exact add_H l₁ l₂ (P.newList m x hq (by rw [hl, List.length_append]; exact hm)) (Nat.le_trans (by rw [← List.length_append, hl, List.length_append]; exact hm) lim_le)
  | Sub =>
    obtain ⟨a, rfl, h⟩ := onI_some h
    obtain ⟨b, rfl, h⟩ := onI_some h
    cases h
    obtain ⟨t, rfl⟩ := r₁.int_inv
    obtain ⟨u, rfl⟩ := r₂.int_inv
    exact PySem.P.sub_int (P.tok x _ _)
  | Mult =>
    rcases onIL_some h with ⟨a, rfl, h⟩ | ⟨ds, rfl, h⟩
    · obtain ⟨b, rfl, h⟩ := onI_some h
      obtain ⟨hm, rfl⟩ := ite_some h
      obtain ⟨t, rfl⟩ := r₁.int_inv
      obtain ⟨u, rfl⟩ := r₂.int_inv
      exact PySem.P.mul_int (P.tok x _ _) hm
    · obtain ⟨e, rfl, h⟩ := onO_some h
      obtain ⟨a, rfl, h⟩ := onI_some h
      obtain ⟨n, rfl, h⟩ := onI_some h
      obtain ⟨hm, rfl⟩ := ite_some h
      obtain ⟨u, rfl⟩ := r₂.int_inv
      obtain ⟨a₁, vs₁, rfl, m₁, l₁, n₁, q₁⟩ := r₁.list_inv
      obtain ⟨v, rfl, h1⟩ := q₁.one_inv
      refine mul_H l₁ hm.1 hm.2 (P.newList m x (VRs.replicate h1 _) ?_)
      rw [List.length_replicate]
      exact Int.toNat_le.mpr hm.2
  | FloorDiv =>
    obtain ⟨a, rfl, h⟩ := onI_some h
    obtain ⟨b, rfl, h⟩ := onI_some h
    obtain ⟨hm, rfl⟩ := ite_some h
    obtain ⟨t, rfl⟩ := r₁.int_inv
    obtain ⟨u, rfl⟩ := r₂.int_inv
    exact floordiv_int hm.1 (P.tok x _ _) (.inl (PyProof.noPylong_of_log2 hm.2))
  | Mod =>
    obtain ⟨a, rfl, h⟩ := onI_some h
    obtain ⟨b, rfl, h⟩ := onI_some h
    obtain ⟨hm, rfl⟩ := ite_none h
    obtain ⟨t, rfl⟩ := r₁.int_inv
    obtain ⟨u, rfl⟩ := r₂.int_inv
    exact mod_int' hm (P.tok x _ _)
  | Pow =>
    obtain ⟨a, rfl, h⟩ := onI_some h
    obtain ⟨b, rfl, h⟩ := onI_some h
    obtain ⟨hm, rfl⟩ := ite_some h
    obtain ⟨t, rfl⟩ := r₁.int_inv
    obtain ⟨u, rfl⟩ := r₂.int_inv
    exact pow_int hm.1 hm.2 (P.tok x _ _)
  | _ => cases h
end
end Mine

namespace Mine
open PySem PySem.Calls PyProof.Rows
noncomputable def BRv (h : Heap) (M : Addr → Prop) (B : Addr) (v : Value) (d : D) : Prop := VR h M B v d ∨ OwnV h M B v d
theorem BRv.list_inv {h : Heap} {M : Addr → Prop} {B : Addr} {v : Value} {ds : List D} (x : BRv h M B v (.list ds)) : ∃ a vs, v = .ref a ∧ h.IsList a (List.toArray vs) ∧ VRs h M B vs ds ∧ vs.length ≤ lim := by
  rcases x with x | ⟨a, vs, n, ds', h1, h2, h3, h4, h5, _⟩
  · obtain ⟨a, vs, e, _, l, n, r⟩ := x.list_inv
    exact ⟨a, vs, e, l, r, n⟩
  · cases h2; exact ⟨a, vs, h1, ⟨_, h3, rfl, n, rfl⟩, h4, h5⟩
theorem BRv.isNone {h : Heap} {M : Addr → Prop} {B : Addr} {v : Value} {d : D} (x : BRv h M B v d) : isNone d = (v == .none) := by
  rcases x with x | ⟨a, vs, n, ds', h1, h2, h3, h4, h5, _⟩
  · cases x <;> rfl
  · subst h1 h2; rfl
theorem BRv.int_inv {h : Heap} {M : Addr → Prop} {B : Addr} {v : Value} {i : Int} (x : BRv h M B v (.int i)) : ∃ t, v = .int i t := by
  rcases x with x | ⟨a, vs, n, ds', h1, h2, h3, h4, h5, _⟩
  · exact x.int_inv
  · cases h2
theorem BRv.vr {h : Heap} {M : Addr → Prop} {B : Addr} {v : Value} {d : D} (x : BRv h M B v d) (hd : ∀ ds, d ≠ .list ds) : VR h M B v d := by
  rcases x with x | ⟨a, vs, n, ds', h1, h2, h3, h4, h5, _⟩
  · exact x
  · exact absurd h2 (hd _)
theorem BRv.keepX {c : Cx} {h h' : Heap} {M : Addr → Prop} {v : Value} {d : D} (q : BRv h M c.B v d) (hB : M c.B) (k : KX c.B h h') : BRv h' M c.B v d :=
  q.imp (fun x => x.keepX hB k) fun x => x.keepX hB k
theorem slicePick_rev (items : Array Value) : slicePick items none none (some (-1)) = items.toList.reverse.toArray := W.krv_pick items
theorem seqIndex_pos {k : Int} {n : Nat} (h0 : 0 ≤ k) (h1 : k.toNat < n) : seqIndex? k n = some k.toNat := by
  unfold seqIndex?
  have e : ¬ k < 0 := by exact o11 h0
  simp only [e, if_false]
  rw [if_pos (by simp only [Bool.and_eq_true, decide_eq_true_eq]; exact o10 h1 e)]
theorem subscripted_ops (slice : Expr) (o i : Value) : ∃ ops, subscripted slice false o i = operate ops (getItem o i) := by
  cases slice with
  | Slice a b st p => cases st <;> exact ⟨_, rfl⟩
  | _ => exact ⟨_, rfl⟩
section
variable {c : Cx} {A : Around} {M : Addr → Prop} {s : Shared} {d₁ d₂ d : D} {v₁ v₂ : Value} {b : List D} {Q : Value → Shared → Prop}
theorem cmp_snd (ha : AOk A) {op : CmpOp} {r : Bool} (h : cmp op d₁ d₂ = some r) (r₁ : BRv s.heap M c.B v₁ d₁) (r₂ : BRv s.heap M c.B v₂ d₂) (P : Q (.bool r) s) :
    wpAny (model c.prog c.w) A (compareOp op v₁ v₂) Q NoE s := by
  have hu : A.units + 64 < cLine := by have := ha.un; show A.units + 64 < 9900; exact o9 this
  cases op with
  | Is =>
    obtain ⟨h1, rfl⟩ := ite_some h
    rw [r₂.isNone] at h1
    rw [eq_of_beq h1]
    exact PySem.is_none (by rw [← r₁.isNone]; exact P)
  | IsNot =>
    obtain ⟨h1, rfl⟩ := ite_some h
    rw [r₂.isNone] at h1
    rw [eq_of_beq h1]
    exact PySem.isNot_none (by rw [← r₁.isNone]; exact P)
  | Eq =>
    rcases onIL_some h with ⟨a, rfl, h⟩ | ⟨ds, rfl, h⟩
    · obtain ⟨b, rfl, h⟩ := onI_some h
      cases h
      obtain ⟨t, rfl⟩ := r₁.int_inv
      obtain ⟨u, rfl⟩ := r₂.int_inv
      exact PySem.P.eq_int P
    · obtain ⟨es, rfl, h⟩ := onL_some h
      obtain ⟨xs, ys, rfl, rfl, rfl⟩ := cmpL_some h
      obtain ⟨a₁, vs₁, rfl, l₁, q₁, _⟩ := r₁.list_inv
      obtain ⟨a₂, vs₂, rfl, l₂, q₂, _⟩ := r₂.list_inv
      exact W.eq_intsK l₁ q₁.ints l₂ q₂.ints hu P
  | NotEq =>
    rcases onIL_some h with ⟨a, rfl, h⟩ | ⟨ds, rfl, h⟩
    · obtain ⟨b, rfl, h⟩ := onI_some h
      cases h
      obtain ⟨t, rfl⟩ := r₁.int_inv
      obtain ⟨u, rfl⟩ := r₂.int_inv
      exact PySem.P.ne_int (by rw [show (a != b) = decide (a ≠ b) from (decide_not ..).symm]; exact P)
    · obtain ⟨es, rfl, h⟩ := onL_some h
      obtain ⟨xs, ys, rfl, rfl, rfl⟩ := cmpL_some h
      obtain ⟨a₁, vs₁, rfl, l₁, q₁, _⟩ := r₁.list_inv
      obtain ⟨a₂, vs₂, rfl, l₂, q₂, _⟩ := r₂.list_inv
      exact W.ne_intsK l₁ q₁.ints l₂ q₂.ints hu (by simpa using P)
  | Lt =>
    obtain ⟨a, rfl, h⟩ := onI_some h
    obtain ⟨b, rfl, h⟩ := onI_some h
    cases h
    obtain ⟨t, rfl⟩ := r₁.int_inv
    obtain ⟨u, rfl⟩ := r₂.int_inv
    exact PySem.P.lt_int P
  | LtE =>
    obtain ⟨a, rfl, h⟩ := onI_some h
    obtain ⟨b, rfl, h⟩ := onI_some h
    cases h
    obtain ⟨t, rfl⟩ := r₁.int_inv
    obtain ⟨u, rfl⟩ := r₂.int_inv
    exact PySem.P.le_int P
  | Gt =>
    obtain ⟨a, rfl, h⟩ := onI_some h
    obtain ⟨b, rfl, h⟩ := onI_some h
    cases h
    obtain ⟨t, rfl⟩ := r₁.int_inv
    obtain ⟨u, rfl⟩ := r₂.int_inv
    exact PySem.P.gt_int P
  | GtE =>
    obtain ⟨a, rfl, h⟩ := onI_some h
    obtain ⟨b, rfl, h⟩ := onI_some h
    cases h
    obtain ⟨t, rfl⟩ := r₁.int_inv
    obtain ⟨u, rfl⟩ := r₂.int_inv
    exact PySem.P.ge_int P
  | _ => cases h
theorem pick_snd {ds : List D} {vs : List Value} {k : Int} (h : pick ds k = some d) (r : VRs s.heap M c.B vs ds) (hn : vs.length ≤ lim) :
    ∃ v j, VR s.heap M c.B v d ∧ vs[j]? = some v ∧ seqIndex? k vs.length = some j ∧ -(2 ^ 63) ≤ k ∧ k < 2 ^ 63 ∧ ((0 ≤ k ∧ j = k.toNat) ∨ (k < 0 ∧ -(vs.length : Int) ≤ k ∧ j = (k + vs.length).toNat)) := by
  have hl := r.length
  have hn' : vs.length ≤ 1000000 := hn
  clear hn
  unfold pick at h
  split at h
  · rename_i h0
    obtain ⟨v, hv, hr⟩ := r.get h
    have hlt : k.toNat < vs.length := by
      by_cases q : k.toNat < vs.length
      · exact q
      · rw [List.getElem?_eq_none (by exact o8 q)] at hv; cases hv
    exact ⟨v, _, hr, hv, seqIndex_pos h0 hlt, by exact o7 h0, by exact o6 hn' hlt, .inl ⟨h0, rfl⟩⟩
  · split at h
    · rename_i h0 h1
      obtain ⟨v, hv, hr⟩ := r.get h
      rw [← hl] at hv h1
      exact ⟨v, _, hr, hv, seqIndex_neg (by exact o3 h0) h1, by exact o5 hn' h1, by exact o4 h0, .inr ⟨by exact o3 h0, h1, rfl⟩⟩
    · cases h
theorem getItem_list_snd {ds : List D} {a : Addr} {vs : List Value} {k : Int} {t : Tok} (h : pick ds k = some d) (hl : s.heap.IsList a vs.toArray) (r : VRs s.heap M c.B vs ds) (hn : vs.length ≤ lim)
    (P : ∀ v, VR s.heap M c.B v d → Q v s) : wpAny (model c.prog c.w) A (getItem (.ref a) (.int k t)) Q NoE s := by
  obtain ⟨v, j, hr, hv, _, hlo, hhi, hj⟩ := pick_snd h r hn
  rcases hj with ⟨h0, rfl⟩ | ⟨h0, h1, rfl⟩
  · exact wpAny_getItem_list hl h0 hhi (by simpa using hv) (P v hr)
  · exact wpAny_getItem_list_neg hl h0 (by simpa using h1) hlo (by simpa using hv) (P v hr)
theorem getAt_snd {value slice : Expr} {k : Int} {t : Tok} (ok : c.Ok) (h : getAt d₁ k b = some d) (m : MOk c s.heap M) (base : ∀ a o, c.hT.get? a = some o → s.heap.get? a = some o) (x : BoxR c s.heap b) (r₁ : BRv s.heap M c.B v₁ d₁)
    {fr : Prop} (P : Post c M s d b fr Q) (hf : ¬ fr) : wpAny (model c.prog c.w) A (subscriptTail value slice v₁ (.int k t)) Q NoE s := by
  obtain ⟨ops, hs⟩ := subscripted_ops slice v₁ (.int k t)
  have P' : ∀ v, VR s.heap M c.B v d → Q v s := fun v hv => P v s.heap s.toks KX.refl x hv fun q => absurd q hf
  cases d₁ with
  | list ds =>
    obtain ⟨a, vs, rfl, l, q, hn⟩ := r₁.list_inv
    exact tail_any l.typeIs slot_list_getitem.lookup (getItem_list_snd h l q hn P') hs
  | tuple ds =>
    obtain ⟨a, vs, rfl, hm, hl, hn, hr⟩ := (r₁.vr nofun).tup_inv
    obtain ⟨v, j, hr, hv, hj, hlo, hhi, _⟩ := pick_snd h hr hn
    exact tail_any hl.typeIs slot_tuple_getitem.lookup (getItem_tuple hl hlo hhi (by simpa using hj) (by simpa using hv) (P' v hr)) hs
  | box =>
    rw [(r₁.vr nofun).box_inv] at hs ⊢
    rcases ite_or h with ⟨h0, h⟩ | ⟨_, h⟩
    · obtain ⟨i, k', t', u', n, rfl, hB⟩ := x
      obtain ⟨vs, hSL, hvs, hnn⟩ := ok.script
      have hSL' : s.heap.IsList c.SL vs.toArray := hSL.at fun o e => base _ o e
      have hl : s.heap.IsList c.B #[.ref c.SL, .int i t', .int k' u'] := ⟨_, hB, rfl, n, rfl⟩
      have hSM : ¬ M c.SL := fun q => by
        have := m.low _ q
        obtain ⟨o, ho, _⟩ := hSL
        rw [ho] at this; cases this
      have vr : VRs s.heap M c.B [.ref c.SL, .int i t', .int k' u'] [.list (c.xs.map .int), .int i, .int k'] :=
        .cons (.list hSM hSL' hnn (VRs.ofInts hvs)) (.cons (.int _ _) (.cons (.int _ _) .nil))
      exact tail_any hl.typeIs slot_list_getitem.lookup (getItem_list_snd (ds := [.list (c.xs.map .int), .int i, .int k']) (by unfold pick; rw [if_pos h0]; exact h) (vs := [.ref c.SL, .int i t', .int k' u']) hl vr (by show 3 ≤ lim; decide) P') hs
    · cases h
  | _ => cases h
end
end Mine

namespace Mine
open PySem PySem.Calls PyProof.Rows
theorem Obj.seqAt {h : Heap} {a : Addr} {vs : List Value} (l : h.IsList a vs.toArray) : ∃ o n, h.get? a = some o ∧ o.cls = .type "list" ∧ o.data = .seq vs.toArray n := let ⟨o, h1, h2, n, h3⟩ := l; ⟨o, n, h1, h2, h3⟩
noncomputable def bval (f : Str) : Value :=
  if f = "list" then .type "list" else if f = "range" then .type "range" else if f = "enumerate" then .type "enumerate"
  else if f = "len" then .builtin "len" else if f = "abs" then .builtin "abs" else if f = "max" then .builtin "max"
  else if f = "min" then .builtin "min" else if f = "sum" then .builtin "sum" else .builtin "sorted"
theorem bval_list : bval "list" = .type "list" := rfl
theorem bval_range : bval "range" = .type "range" := rfl
theorem bval_enumerate : bval "enumerate" = .type "enumerate" := rfl
theorem bval_len : bval "len" = .builtin "len" := rfl
theorem bval_abs : bval "abs" = .builtin "abs" := rfl
theorem bval_max : bval "max" = .builtin "max" := rfl
theorem bval_min : bval "min" = .builtin "min" := rfl
theorem bval_sum : bval "sum" = .builtin "sum" := rfl
theorem bval_sorted : bval "sorted" = .builtin "sorted" := rfl
theorem boot_bval : ∀ x ∈ bltNames, bootBuiltins x = some (bval x) := by
  intro x hx
  simp only [bltNames, List.mem_cons, List.mem_nil_iff, or_false] at hx
  rcases hx with rfl | rfl | rfl | rfl | rfl | rfl | rfl | rfl | rfl
  · rw [bval_len]; exact PySem.boot_len
  · rw [bval_abs]; exact PyProof.Rows.boot_abs
  · rw [bval_max]; exact PyProof.Rows.boot_max
  · rw [bval_min]; exact PyProof.Rows.boot_min
  · rw [bval_sum]; exact PyProof.Rows.boot_sum
  · rw [bval_sorted]; exact PyProof.Rows.boot_sorted
  · rw [bval_list]; exact PyProof.Rows.boot_list
  · rw [bval_range]; exact PyProof.Rows.boot_range
  · rw [bval_enumerate]; exact PyProof.Rows.boot_enumerate
section
variable {c : Cx} {A : Around} {M : Addr → Prop} {s : Shared} {d : D} {ds : List D} {vs : List Value} {b : List D} {Q : Value → Shared → Prop} {fr : Prop}
theorem sorted_rev {xs ys : List Int} (hp : ys.Perm xs) (hs : ys.Pairwise (· ≤ ·)) (hd : xs.Pairwise fun a b => b ≤ a) : ys = xs.reverse := by
  have hr : xs.reverse.Pairwise (· ≤ ·) := List.pairwise_reverse.mpr hd
  exact List.Perm.eq_of_pairwise (fun a b _ _ h1 h2 => Int.le_antisymm h1 h2) hs hr (hp.trans (List.reverse_perm xs).symm)
theorem len_snd {v : Value} {d₁ : D} (h : blt "len" [d₁] = some d) (x : BoxR c s.heap b) (r : BRv s.heap M c.B v d₁) (P : Post c M s d b fr Q) :
    wpAny (model c.prog c.w) A (call (.builtin "len") [v]) Q NoE s := by
  rcases onIL_some (show onIL d₁ (fun a => if ("len" : Str) = "abs" then some (.int (if a < 0 then -a else a)) else none) (blt1 "len") = some d from h) with ⟨i, rfl, h2⟩ | ⟨es, rfl, h2⟩
  · exact absurd (ite_some h2).1 (by decide)
  · have h3 : some (D.int es.length) = some d := h2
    cases h3
    obtain ⟨a, vs, rfl, l, q, hn⟩ := r.list_inv
    have hn' : vs.length ≤ 1000000 := hn
    refine call_len_list l (by simp; exact o14 hn') ?_
    have := P.tok x (s.toks + 1) (s.toks + 1 + 1)
    rw [← q.length] at this
    exact this
theorem list_snd {v : Value} {ds : List D} (x : BoxR c s.heap b) (m : MOk c s.heap M) (r : BRv s.heap M c.B v (.list ds)) (P : Post c M s (.list ds) b fr Q) :
    wpAny (model c.prog c.w) A (call (.type "list") [v]) Q NoE s := by
  obtain ⟨a, vs, rfl, l, q, hn⟩ := r.list_inv
  obtain ⟨o, n, ho, hc, hd⟩ := Obj.seqAt l
  refine call_list_seq a (.inl rfl) ho hc hd (fun h' c' hk hD => ?_) (by simp; exact Nat.le_trans hn lim_le)
  refine P _ _ s.toks (KX.of hk) (x.keep hk) (.list m.new ⟨_, hD, rfl, c', rfl⟩ hn (q.mono fun _ _ hm e => ⟨hm, hk _ _ e⟩)) fun _ ds' e => ?_
  cases e
  exact ⟨_, vs, c', rfl, size_none _, hD, q.mono fun _ _ hm e => ⟨fun q => q.elim hm fun q => (by rw [q, size_none] at e; cases e), hk _ _ e⟩, hn⟩
theorem sum_snd (ha : AOk A) {v : Value} {xs : List Int} (x : BoxR c s.heap b) (r : VR s.heap M c.B v (.list (xs.map .int))) (P : Post c M s (.int xs.sum) b fr Q) : wpAny (model c.prog c.w) A (call (.builtin "sum") [v]) Q NoE s := by
  obtain ⟨a, vs, rfl, _, l, hn, q⟩ := r.list_inv
  have hq := q.ints
  obtain ⟨ys, hys⟩ := hq.allInts.items
  rw [hys] at l
  have hnum : xs.sum = preSum (numAt ys) ys.size := by
    rw [preSum_eq, List.take_of_length_le (by simp)]
    have := hq.numsOf
    rw [← nums_intItems, ← hys]
    simp [this]
  refine sum_intListG ha.hh l fun h' tk t' hk => ?_
  rw [hnum] at P
  exact P _ h' tk (KX.of hk) (x.keep hk) (.int _ t') fun _ _ e => nomatch e
theorem sorted_snd {v : Value} {xs : List Int} (x : BoxR c s.heap b) (m : MOk c s.heap M) (r : VR s.heap M c.B v (.list (xs.map .int))) (hl : xs.length < 64) (hd : xs.Pairwise fun a b => b ≤ a) (P : Post c M s (.list (xs.reverse.map .int)) b fr Q) (hnf : ¬ fr) : wpAny (model c.prog c.w) A (call (.builtin "sorted") [v]) Q NoE s := by
  obtain ⟨a, vs, rfl, _, l, hn, q⟩ := r.list_inv
  have hq := q.ints
  have hlen := hq.length
  refine sorted_ints l hq (by exact o13 hl hlen) fun out ns' a1 a2 a3 => ?_
  obtain ⟨e, he⟩ := sortedAll_at s.heap _ out
  have e1 := sorted_rev a2 a3 hd
  have hol : out.toList.length ≤ lim := by
    have h1 := a1.length
    have h3 : out.toList.length = ns'.length := h1
    have h2 := a2.length_eq
    have h4 : (64 : Nat) ≤ lim := by decide
    rw [h3, h2]
    exact o12 hn hlen
  refine P _ _ s.toks (KX.of fun _ _ => sortedAll_old) (x.keep fun _ _ => sortedAll_old) (.list ?_ ⟨_, he, rfl, e, by simp⟩ hol (e1 ▸ VRs.ofInts a1)) fun q => absurd q hnf
  intro q
  obtain ⟨o, ho⟩ := m.live _ q
  exact absurd (Nat.lt_of_succ_lt (Heap.lt_size ho)) (Nat.lt_irrefl _)
theorem blt1_snd (ha : AOk A) {f : Str} {v : Value} {es : List D} (h : blt1 f es = some d) (hf : f ≠ "len") (x : BoxR c s.heap b) (m : MOk c s.heap M) (r : VR s.heap M c.B v (.list es)) (P : Post c M s d b fr Q) (hfr : fr → f = "list") :
    wpAny (model c.prog c.w) A (call (bval f) [v]) Q NoE s := by
  rcases ite_or h with ⟨e, _⟩ | ⟨_, h1⟩
  · exact absurd e hf
  rcases ite_or h1 with ⟨e, h2⟩ | ⟨hnl, h2⟩
  · cases h2
    rw [e]
    exact list_snd x m (.inl r) P
  rcases ite_or h2 with ⟨e, h3⟩ | ⟨_, h3⟩
  · obtain ⟨xs, hx, h4⟩ := Option.bind_eq_some_iff.mp h3
    rw [toInts_eq hx] at r
    cases h4
    rw [e]
    exact sum_snd ha x r P
  rcases ite_or h3 with ⟨e, h4⟩ | ⟨_, h4⟩
  · obtain ⟨xs, hx, h5⟩ := Option.bind_eq_some_iff.mp h4
    rw [toInts_eq hx] at r
    obtain ⟨hg, rfl⟩ := ite_some h5
    rw [e]
    exact sorted_snd x m r hg.1 hg.2 P fun q => hnl (hfr q)
  · cases h4
theorem blt2_snd (ha : AOk A) {f : Str} {i j : Int} {t u : Tok} (h : blt2 f i j = some d) (x : BoxR c s.heap b) (m : MOk c s.heap M) (P : Post c M s d b fr Q) : wpAny (model c.prog c.w) A (call (bval f) [.int i t, .int j u]) Q NoE s := by
  rcases ite_or h with ⟨e, h1⟩ | ⟨_, h1⟩
  · cases h1
    rw [e]
    refine max_two_ints ha.hh fun h' tk hk => P _ h' tk (KX.of hk) (x.keep hk) ?_ fun _ _ e => nomatch e
    split <;> exact .int _ _
  rcases ite_or h1 with ⟨e, h2⟩ | ⟨_, h2⟩
  · cases h2
    rw [e]
    refine min_two_ints ha.hh fun h' tk hk => P _ h' tk (KX.of hk) (x.keep hk) ?_ fun _ _ e => nomatch e
    split <;> exact .int _ _
  rcases ite_or h2 with ⟨e, h3⟩ | ⟨_, h3⟩
  · obtain ⟨hg, rfl⟩ := ite_some h3
    rw [e]
    exact call_range_2 (P _ _ (s.toks + 1) (KX.push _) (x.keep fun _ _ e => Heap.get?_push_of_some _ e) (.rng m.new (Heap.get?_push_size _ rfl) hg) fun _ _ e => nomatch e)
  · cases h3
theorem blt_snd (ha : AOk A) {f : Str} (h : blt f ds = some d) (hf : f ≠ "len") (x : BoxR c s.heap b) (m : MOk c s.heap M) (r : VRs s.heap M c.B vs ds) (P : Post c M s d b fr Q) (hfr : fr → f = "list") :
    wpAny (model c.prog c.w) A (call (bval f) vs) Q NoE s := by
  cases blt_some h with
  | abs a e =>
    subst e
    obtain ⟨v, rfl, r1⟩ := r.one_inv
    obtain ⟨t, rfl⟩ := r1.int_inv
    exact call_abs_int fun u tk => P.tok x u tk
  | one es _ h1 =>
    obtain ⟨v, rfl, r1⟩ := r.one_inv
    exact blt1_snd ha h1 hf x m r1 P hfr
  | two i j _ h1 =>
    obtain ⟨v, v', rfl, r1, r2⟩ := r.two_inv
    obtain ⟨t, rfl⟩ := r1.int_inv
    obtain ⟨u, rfl⟩ := r2.int_inv
    exact blt2_snd ha h1 x m P
end
end Mine

namespace Mine
open PySem PySem.Calls PyProof.Rows
noncomputable def UR (h : Heap) (M : Addr → Prop) (B : Addr) (v : Value) (d : D) : Prop :=
  ∃ T vals ds, v = .ref T ∧ d = .tuple ds ∧ h.IsTuple T (List.toArray vals) ∧ VRs h M B vals ds
/-- what pyIter hands on: an iterator that gives these items, one by one -/
structure IterOK (c : Cx) (A : Around) (M : Addr → Prop) (tg : Expr) (ds : List D) (h0 h2 : Heap) (I : Addr) (fp wr : List Addr) (P Md : Nat → Value → Heap → Prop) (St : Nat → Heap → Prop) : Prop where
  K : W.KTurns c.prog c.w A tg I fp wr ds.length P Md St
  st : St 0 h2
  self : ∀ i (s : Shared) (Q : Value → Shared → Prop) (E : Value → Shared → Prop), St i s.heap → Q (.ref I) s → wpAny (model c.prog c.w) A (pyIter (.ref I)) Q E s
  new : ∀ b ∈ wr, h0.get? b = none
  kind : ∀ i h, St i h → ∀ b ∈ wr, ∃ o vs, h.get? b = some o ∧ o.data = .fields vs
  fix : ∀ b ∈ fp, b ∈ wr ∨ (¬ M b ∧ ∃ o, h2.get? b = some o)
  small : ds.length ≤ lim
  val : ∀ (i : Nat) (v : Value) (h : Heap) (d : D) (M' : Addr → Prop), ds[i]? = some d → P i v h → (∀ a o, ¬ M a → a ∉ wr → h2.get? a = some o → h.get? a = some o) →
    (∀ a, M' a → M a ∨ a ∈ wr ∨ h2.get? a = none) → if isTup tg then UR h M' c.B v d else VR h M' c.B v d
theorem starEach_of {e : Expr} {es : List Expr} {env : Env} (h : ∀ x p, e ≠ .Starred x p) : starEach (e :: es) env = (false, eval e env) :: starEach es env := by
  cases e <;> first | rfl | exact absurd rfl (h _ _)
noncomputable def nst (e : Expr) : Bool := match view e with
  | .star => false
  | _ => true
theorem nst_ne {e : Expr} (h : nst e = true) : ∀ x p, e ≠ .Starred x p := by rintro x p rfl; cases h
section
variable {c : Cx} {A : Around} {sc : Scope} {O : List Str} {ρ : PEnv} {b b' : List D} {d : D} {env : Env} {M : Addr → Prop} {s : Shared} {Q : Value → Shared → Prop}
theorem load_snd {x : Str} {pos : Pos} {v : Value} (R : Rd c sc O env M ρ b s.heap) (q : Slot s.heap env x v) (hx : ρ x = some d) (P : Q v s) : wpAny (model c.prog c.w) A (eval (.Name x pos) env) Q NoE s := by
  have hd := R.dom x d hx
  have h1 : (x == ("__debug__" : Str)) = false := beq_eq_false_iff_ne.mpr hd.1
  have h2 : (x == ("__classdict__" : Str)) = false := beq_eq_false_iff_ne.mpr hd.2
  rcases q with ⟨hk, m, hn, hv⟩ | ⟨hk | hk, a, ha, hc⟩
  · exact wpAny_Name (wpAny_loadName_local R.kind hk hn hv P) h1
  · exact wpAny_Name (wpAny_loadName_cell R.kind hk ha hc P) h1
  · exact wpAny_Name (wpAny_loadName_free R.kind hk ha hc P h2) h1
theorem global_ne (R : Rd c sc O env M ρ b s.heap) {f : Str} (h : sc.names.lookup f = some .globalImplicit) : (f == ("__debug__" : Str)) = false :=
  beq_eq_false_iff_ne.mpr fun q => by rw [q, R.nd.1] at h; cases h
theorem name_fn (ok : c.Ok) (R : Rd c sc O env M ρ b s.heap) {f : Str} {pos : Pos} {fa : Addr} (h : sc.names.lookup f = some .globalImplicit) (hf : c.mg f = some (.ref fa)) (P : Q (.ref fa) s) :
    wpAny (model c.prog c.w) A (eval (.Name f pos) env) Q NoE s := by
  have hg : s.heap.Ns env.globals c.mg := by rw [R.glob]; exact ok.g.keeps R.base
  exact Name_function_global R.kind (R.gl f h) (loadGlobal_global hg hf P) (global_ne R h)
theorem name_blt (ok : c.Ok) (R : Rd c sc O env M ρ b s.heap) {f : Str} {pos : Pos} (h : sc.names.lookup f = some .globalImplicit) (hf : f ∈ bltNames) (P : Q (bval f) s) :
    wpAny (model c.prog c.w) A (eval (.Name f pos) env) Q NoE s := by
  have hg : s.heap.Ns env.globals c.mg := by rw [R.glob]; exact ok.g.keeps R.base
  have hb : s.heap.Ns env.builtins c.mb := by rw [R.bi]; exact ok.b.keeps R.base
  obtain ⟨h1, h2⟩ := ok.blt f hf
  exact Name_function_global R.kind (R.gl f h) (loadGlobal_builtin hg h1 hb (h2.trans (boot_bval f hf)) P) (global_ne R h)
theorem callWith_bval {f : Str} {pos : Pos} {e : Expr} {rest : List Expr} (hf : f ∈ bltNames) (he : ∀ x p, e ≠ .Starred x p) (hr : (backTo pos (starEach rest env)).any (·.1) = false)
    (h : wpAny (model c.prog c.w) A (spliced (backTo pos (starEach (e :: rest) env))) (fun vs s₁ => wpAny (model c.prog c.w) A (call (bval f) vs) Q NoE s₁) NoE s) :
    wpAny (model c.prog c.w) A (callWith pos (bval f) [] (backTo pos (starEach (e :: rest) env)) []) Q NoE s := by
  have hs := starEach_of (es := rest) (env := env) he
  simp only [bltNames, List.mem_cons, List.mem_nil_iff, or_false] at hf
  rcases hf with rfl | rfl | rfl | rfl | rfl | rfl | rfl | rfl | rfl
  · rw [bval_len] at h ⊢; exact callWith_builtin1 h hs hr
  · rw [bval_abs] at h ⊢; exact callWith_builtin1 h hs hr
  · rw [bval_max] at h ⊢; exact callWith_builtin1 h hs hr
  · rw [bval_min] at h ⊢; exact callWith_builtin1 h hs hr
  · rw [bval_sum] at h ⊢; exact callWith_builtin1 h hs hr
  · rw [bval_sorted] at h ⊢; exact callWith_builtin1 h hs hr
  · rw [bval_list] at h ⊢; exact callWith_type1 h hs hr
  · rw [bval_range] at h ⊢; exact callWith_type1 h hs hr
  · rw [bval_enumerate] at h ⊢; exact callWith_type1 h hs hr
theorem slice_snd {value slice : Expr} {v vl vu vst : Value} {ds es : List D} {lo hi st : Option Int} {b : List D} {fr : Prop} {Q : Value → Shared → Prop}
    (m : MOk c s.heap M) (x : BoxR c s.heap b) (r : BRv s.heap M c.B v (.list ds)) (pl : IsPart vl lo) (pu : IsPart vu hi) (ps : IsPart vst st) (h0 : st ≠ some 0)
    (hp : ∀ vs, VRs s.heap M c.B vs ds → vs.length ≤ lim → ∃ ws, slicePick vs.toArray lo hi st = ws.toArray ∧ VRs s.heap M c.B ws es ∧ ws.length ≤ lim)
    (P : Post c M s (.list es) b fr Q) :
    wpAny (model c.prog c.w) A (subscriptTail value slice v (.ref s.heap.objs.size)) Q NoE { s with heap := s.heap.push { cls := .type "slice", data := .fields #[vl, vu, vst] } } := by
  obtain ⟨a, vs, rfl, l, q, hn⟩ := r.list_inv
  obtain ⟨ws, e, hw, hwn⟩ := hp vs q hn
  obtain ⟨ops, hs⟩ := subscripted_ops slice (.ref a) (.ref s.heap.objs.size)
  refine tail_any (Heap.IsList.typeIs (s := { s with heap := s.heap.push { cls := .type "slice", data := .fields #[vl, vu, vst] } }) (l.push _)) slot_list_getitem.lookup
    (wpAny_getItem_list_slice (l.push _) (Heap.IsSliceOf.new ..) pl pu ps h0 ?_ (by simp; exact Nat.le_trans hn lim_le)) hs
  rw [e]
  have k : KX c.B s.heap (s.heap.push { cls := .type "slice", data := .fields #[vl, vu, vst] }) := KX.push _
  have x2 : BoxR c (s.heap.push { cls := .type "slice", data := .fields #[vl, vu, vst] }) b := x.keep fun _ _ e => Heap.get?_push_of_some _ e
  exact (P.from (t₁ := s.toks) k x2).newList (s := { s with heap := s.heap.push { cls := .type "slice", data := .fields #[vl, vu, vst] } }) (m.to k x2) x2 hw.push hwn
theorem nst_any (pos : Pos) : ∀ (es : List Expr), es.all nst = true → (backTo pos (starEach es env)).any (·.1) = false
  | [], _ => rfl
  | e :: es, h => by
    simp only [List.all_cons, Bool.and_eq_true] at h
    rw [starEach_of (nst_ne h.1)]
    show (false || _) = false
    rw [Bool.false_or]
    exact nst_any pos es h.2
end
/-! what is said of a part of the text: from every frame that is as told, its run ends, and what it hands on is as P says -/
section
variable (c : Cx) (A : Around) (sc : Scope) (O : List Str)
noncomputable def EV (e : Expr) (ρ : PEnv) (b : List D) (P : D → List D → Prop) : Prop := c.Ok → AOk A → ∀ env M s Q, Rd c sc O env M ρ b s.heap →
  (∀ d b', P d b' → Post c M s d b' (isFresh e = true) Q) → wpAny (model c.prog c.w) A (eval e env) Q NoE s
noncomputable def EB (e : Expr) (ρ : PEnv) (b : List D) (P : D → List D → Prop) : Prop := c.Ok → AOk A → ∀ env M s Q, Rd c sc O env M ρ b s.heap →
  (∀ d b', P d b' → ∀ v h' tk', KX c.B s.heap h' → BoxR c h' b' → BRv h' M c.B v d → Q v { s with heap := h', toks := tk' }) → wpAny (model c.prog c.w) A (eval e env) Q NoE s
noncomputable def ES (es : List Expr) (ρ : PEnv) (b : List D) (P : List D → List D → Prop) : Prop := c.Ok → AOk A → ∀ env M s Q pos, Rd c sc O env M ρ b s.heap →
  (∀ ds b', P ds b' → ∀ vs h' tk', KX c.B s.heap h' → BoxR c h' b' → VRs h' M c.B vs ds → Q vs { s with heap := h', toks := tk' }) → wpAny (model c.prog c.w) A (spliced (backTo pos (starEach es env))) Q NoE s
noncomputable def EA (es : List Expr) (ρ : PEnv) (b : List D) (P : Bool → List D → Prop) : Prop := c.Ok → AOk A → ∀ env M s Q pos, Rd c sc O env M ρ b s.heap →
  (∀ t b', P t b' → ∀ h' tk', KX c.B s.heap h' → BoxR c h' b' → Q (.bool t) { s with heap := h', toks := tk' }) → wpAny (model c.prog c.w) A (eval (.BoolOp .And es pos) env) Q NoE s
noncomputable def EI (e : Expr) (ρ : PEnv) (b : List D) (P : List D → List D → Prop) : Prop := c.Ok → AOk A → ∀ env M s Q tg, tgOk e tg = true → Rd c sc O env M ρ b s.heap →
  (∀ ds b', P ds b' → ∀ h' tk' I fp wr Pv Md St, KX c.B s.heap h' → BoxR c h' b' → IterOK c A M tg ds s.heap h' I fp wr Pv Md St → Q (.ref I) { s with heap := h', toks := tk' }) →
  wpAny (model c.prog c.w) A (eval e env) (fun xv s₁ => wpAny (model c.prog c.w) A (pyIter xv) Q NoE s₁) NoE s
noncomputable def TS (e : Expr) (ρ : PEnv) (b : List D) (P : Bool → List D → Prop) : Prop := c.Ok → AOk A → ∀ env M s Q, Rd c sc O env M ρ b s.heap →
  (∀ t b', P t b' → ∀ h' tk', KX c.B s.heap h' → BoxR c h' b' → Q t { s with heap := h', toks := tk' }) → wpAny (model c.prog c.w) A (isTrue e env (eval e env)) Q NoE s
noncomputable def TA (es : List Expr) (ρ : PEnv) (b : List D) (P : Bool → List D → Prop) : Prop := c.Ok → AOk A → ∀ env M s Q pos whole, Rd c sc O env M ρ b s.heap →
  (∀ t b', P t b' → ∀ h' tk', KX c.B s.heap h' → BoxR c h' b' → Q t { s with heap := h', toks := tk' }) → wpAny (model c.prog c.w) A (isTrue (.BoolOp .And es pos) env whole) Q NoE s
noncomputable def TO (es : List Expr) (ρ : PEnv) (b : List D) (P : Bool → List D → Prop) : Prop := c.Ok → AOk A → ∀ env M s Q pos whole, Rd c sc O env M ρ b s.heap →
  (∀ t b', P t b' → ∀ h' tk', KX c.B s.heap h' → BoxR c h' b' → Q t { s with heap := h', toks := tk' }) → wpAny (model c.prog c.w) A (isTrue (.BoolOp .Or es pos) env whole) Q NoE s
end
/-- a partial function's word -/
noncomputable def Op {α : Type} (o : Option α) (P : α → Prop) : Prop := ∃ a, o = some a ∧ P a
/-- a fork -/
noncomputable def Br (t : Bool) (X Y : Prop) : Prop := (t = true → X) ∧ (t = false → Y)
theorem Br.t {t : Bool} {X Y : Prop} (e : t = true) (h : X) : Br t X Y := ⟨fun _ => h, fun q => (by rw [e] at q; cases q)⟩
theorem Br.f {t : Bool} {X Y : Prop} (e : t = false) (h : Y) : Br t X Y := ⟨fun q => (by rw [e] at q; cases q), fun _ => h⟩
section
variable {c : Cx} {A : Around} {sc : Scope} {O : List Str} {ρ : PEnv} {b : List D} {P : D → List D → Prop} {PS : List D → List D → Prop} {PT : Bool → List D → Prop} {e l r x y t v i : Expr} {es args : List Expr} {pos q pf : Pos}
theorem r_int {n : Int} {k : Nat} (h : P (.int n) b) : EV c A sc O (.Constant (.int n) k pos) ρ b P := fun _ _ _ _ _ _ R g => wpAny_Constant_int ((g _ _ h).tok R.box _ _)
theorem r_none {k : Nat} (h : P .none b) : EV c A sc O (.Constant .none k pos) ρ b P := fun _ _ _ _ _ _ R g => wpAny_Constant_none ((g _ _ h).none R.box)
theorem r_bool {n : Bool} {k : Nat} (h : P (.bool n) b) : EV c A sc O (.Constant (.bool n) k pos) ρ b P := fun _ _ _ _ _ _ R g => wpAny_Constant_bool ((g _ _ h).bool R.box)
theorem r_name {n : Str} {d : D} (ho : O.contains n = false) (hd : ρ n = some d) (h : P d b) : EV c A sc O (.Name n pos) ρ b P := fun _ _ _ _ s _ R g => by
  obtain ⟨w, q, h3, h4⟩ := R.vars n d hd
  exact load_snd R q hd (g _ _ h w s.heap s.toks KX.refl R.box (h3 ho) fun q => nomatch (show false = true from q))
theorem r_bin {op : Operator} (h : EV c A sc O l ρ b fun d₁ b₁ => EV c A sc O r ρ b₁ fun d₂ b₂ => Op (binop op d₁ d₂) fun d => P d b₂) : EV c A sc O (.BinOp l op r pos) ρ b P := fun ok ha env M s Q R g => by
  refine wpAny_BinOp (h ok ha env M s _ R fun d₁ b₁ h₁ v h' tk' k x r1 _ => ?_)
  refine h₁ ok ha env M { s with heap := h', toks := tk' } _ (R.to ok k x) fun d₂ b₂ h₂ v2 h'' tk'' k2 x2 r2 _ => ?_
  obtain ⟨d3, h3, hP⟩ := h₂
  exact binop_snd (s := { s with heap := h'', toks := tk'' }) ha h3 ((R.m.to k x).to k2 x2) x2 (r1.keepX R.m.box k2) r2 ((g _ _ hP).from (k.trans k2) x2)
theorem r_neg (h : EV c A sc O e ρ b fun d b' => ∃ n, d = .int n ∧ P (.int (-n)) b') : EV c A sc O (.UnaryOp .USub e pos) ρ b P := fun ok ha env M s Q R g => by
  refine UnaryOp_ (h ok ha env M s _ R fun d b' h₁ v h' tk' k x r _ => ?_)
  obtain ⟨n, rfl, hP⟩ := h₁
  obtain ⟨t, rfl⟩ := r.int_inv
  exact PySem.P.neg_int (((g _ _ hP).from (t₁ := tk') k x).tok (s := { s with heap := h', toks := tk' }) x _ _)
theorem b_name {n : Str} {d : D} (hd : ρ n = some d) (h : P d b) : EB c A sc O (.Name n pos) ρ b P := fun _ _ _ _ s _ R g => by
  obtain ⟨w, q, h3, h4⟩ := R.vars n d hd
  refine load_snd R q hd (g _ _ h w s.heap s.toks KX.refl R.box ?_)
  cases ho : O.contains n with
  | false => exact .inl (h3 ho)
  | true => exact .inr (h4 ho)
theorem b_ev (h : EV c A sc O e ρ b P) : EB c A sc O e ρ b P := fun ok ha env M s _ R g => h ok ha env M s _ R fun d b' hP v h' tk' k x r _ => g d b' hP v h' tk' k x (.inl r)
theorem r_cmp {op : CmpOp} (hm : behindInMarks op r = false) (h : EB c A sc O l ρ b fun d₁ b₁ => EB c A sc O r ρ b₁ fun d₂ b₂ => Op (cmp op d₁ d₂) fun t => P (.bool t) b₂) : EV c A sc O (.Compare l [op] [r] pos) ρ b P := fun ok ha env M s Q R g => by
  refine wpAny_Compare1 (h ok ha env M s _ R fun d₁ b₁ h₁ v h' tk' k x r₁ => ?_) hm
  refine h₁ ok ha env M { s with heap := h', toks := tk' } _ (R.to ok k x) fun d₂ b₂ h₂ v2 h'' tk'' k2 x2 r2 => ?_
  obtain ⟨t, h3, hP⟩ := h₂
  exact cmp_snd (M := M) (s := { s with heap := h'', toks := tk'' }) ha h3 (r₁.keepX R.m.box k2) r2 (((g _ _ hP).from (t₁ := tk'') (k.trans k2) x2).bool (s := { s with heap := h'', toks := tk'' }) x2)
theorem r_and (h : EA c A sc O es ρ b fun t b' => P (.bool t) b') : EV c A sc O (.BoolOp .And es pos) ρ b P := fun ok ha env M s _ R g =>
  h ok ha env M s _ pos R fun t b' hP h' tk' k x => g _ _ hP _ _ _ k x (.bool t) fun _ _ e => nomatch e
theorem a_one (h : EV c A sc O e ρ b fun d b' => ∃ t, d = .bool t ∧ PT t b') : EA c A sc O [e] ρ b PT := fun ok ha env M s _ pos R g => by
  refine BoolOp_one (h ok ha env M s _ R fun d b' h₁ v h' tk' k x r _ => ?_)
  obtain ⟨t, rfl, hP⟩ := h₁
  cases r.bool_inv
  exact g _ _ hP h' tk' k x
theorem a_cons {e2 : Expr} (h : EV c A sc O e ρ b fun d b₁ => ∃ t, d = .bool t ∧ Br t (EA c A sc O (e2 :: es) ρ b₁ PT) (PT false b₁)) : EA c A sc O (e :: e2 :: es) ρ b PT := fun ok ha env M s _ pos R g => by
  refine BoolOp_and (h ok ha env M s _ R fun d b₁ h₁ v h' tk' k x r _ => ?_)
  obtain ⟨t, rfl, hP⟩ := h₁
  cases r.bool_inv
  refine wpAny_truthy_bool ?_
  cases t with
  | true => exact hP.1 rfl ok ha env M { s with heap := h', toks := tk' } _ pos (R.to ok k x) fun t b2 hP h'' tk'' k2 x2 => g _ _ hP _ _ (k.trans k2) x2
  | false => exact g _ _ (hP.2 rfl) h' tk' k x
theorem r_ite (h : TS c A sc O t ρ b fun u b₁ => Br u (EV c A sc O x ρ b₁ P) (EV c A sc O y ρ b₁ P)) : EV c A sc O (.IfExp t x y pos) ρ b P := fun ok ha env M s _ R g => by
  refine IfExp_ (h ok ha env M s _ R fun u b₁ h₁ h' tk' k x => ?_)
  cases u with
  | true => exact h₁.1 rfl ok ha env M { s with heap := h', toks := tk' } _ (R.to ok k x) fun d b' hP => ((g _ _ hP).from k x).weak fun q => nomatch (show false = true from q)
  | false => exact h₁.2 rfl ok ha env M { s with heap := h', toks := tk' } _ (R.to ok k x) fun d b' hP => ((g _ _ hP).from k x).weak fun q => nomatch (show false = true from q)
theorem r_tup {kk : Nat} (h : ES c A sc O es ρ b fun ds b' => ds.length ≤ lim ∧ P (.tuple ds) b') : EV c A sc O (.Tuple es kk pos) ρ b P := fun ok ha env M s _ R g => by
  refine wpAny_Tuple (h ok ha env M s _ pos R fun ds b' h₁ vs h' tk' k x r => ?_)
  have hn : vs.length ≤ lim := by rw [r.length]; exact h₁.1
  exact ⟨Nat.le_trans hn lim_le, ((g _ _ h₁.2).from (t₁ := tk') k x).newTuple (s := { s with heap := h', toks := tk' }) (R.m.to k x) x r hn⟩
theorem r_list (h : ES c A sc O es ρ b fun ds b' => ds.length ≤ lim ∧ P (.list ds) b') : EV c A sc O (.List es pos) ρ b P := fun ok ha env M s _ R g => by
  refine wpAny_List (h ok ha env M s _ pos R fun ds b' h₁ vs h' tk' k x r => ?_)
  have hn : vs.length ≤ lim := by rw [r.length]; exact h₁.1
  exact ⟨Nat.le_trans hn lim_le, ((g _ _ h₁.2).from (t₁ := tk') k x).newList (s := { s with heap := h', toks := tk' }) (R.m.to k x) x r hn⟩
theorem s_nil (h : PS [] b) : ES c A sc O [] ρ b PS := fun _ _ _ _ s _ _ R g => wpAny_items_nil (g _ _ h [] s.heap s.toks KX.refl R.box .nil)
theorem s_cons (hn : nst e = true) (h : EV c A sc O e ρ b fun d b₁ => ES c A sc O es ρ b₁ fun ds b₂ => PS (d :: ds) b₂) : ES c A sc O (e :: es) ρ b PS := fun ok ha env M s _ pos R g => by
  refine wpAny_items_cons (h ok ha env M s _ R fun d b₁ h₁ v h' tk' k x r _ => ?_) (starEach_of (nst_ne hn))
  refine h₁ ok ha env M { s with heap := h', toks := tk' } _ pos (R.to ok k x) fun ds b₂ hP vs h'' tk'' k2 x2 r2 => ?_
  exact g _ _ hP _ _ _ (k.trans k2) x2 (.cons (r.keepX R.m.box k2) r2)
theorem r_len (hg : sc.names.lookup ("len" : Str) = some .globalImplicit) (hn : nst e = true) (h : EB c A sc O e ρ b fun d b' => Op (blt "len" [d]) fun r => P r b') : EV c A sc O (.Call (.Name "len" pf) [e] [] pos) ρ b P := fun ok ha env M s _ R g => by
  refine Call_ (name_blt ok R hg (by simp [bltNames]) (callWith_bval (by simp [bltNames]) (nst_ne hn) rfl ?_))
  refine wpAny_items_cons ?_ (starEach_of (nst_ne hn))
  refine h ok ha env M s _ R fun d b' h₁ v h' tk' k x r => ?_
  refine wpAny_items_nil ?_
  obtain ⟨d2, h2, hP⟩ := h₁
  rw [bval_len]
  exact len_snd (M := M) (s := { s with heap := h', toks := tk' }) h2 x r ((g _ _ hP).from k x)
theorem r_blt {f : Str} (hg : sc.names.lookup f = some .globalImplicit) (hb : (bltNames.contains f && !(f == ("len" : Str))) = true) (hn : (e :: es).all nst = true) (h : ES c A sc O (e :: es) ρ b fun ds b' => Op (blt f ds) fun r => P r b') : EV c A sc O (.Call (.Name f pf) (e :: es) [] pos) ρ b P := fun ok ha env M s _ R g => by
  simp only [Bool.and_eq_true, Bool.not_eq_true', beq_eq_false_iff_ne, ne_eq, List.contains_iff_mem] at hb
  simp only [List.all_cons, Bool.and_eq_true] at hn
  refine Call_ (name_blt ok R hg hb.1 (callWith_bval hb.1 (nst_ne hn.1) (nst_any pos _ hn.2) ?_))
  refine h ok ha env M s _ pos R fun ds b' h₁ vs h' tk' k x r => ?_
  obtain ⟨d2, h2, hP⟩ := h₁
  exact blt_snd (M := M) (s := { s with heap := h', toks := tk' }) ha h2 hb.2 x (R.m.to k x) r ((g _ _ hP).from k x) fun q => eq_of_beq q
noncomputable def IsDef (c : Cx) (f : Str) : Prop := ∃ fa fo fd, c.mg f = some (.ref fa) ∧ c.hT.get? fa = some fo ∧ fo.data = .func fd
theorem r_call {f : Str} (hd : IsDef c f) (hg : sc.names.lookup f = some .globalImplicit) (hb : (f == ("list" : Str)) = false) (hn : (e :: es).all nst = true) (h : ES c A sc O (e :: es) ρ b fun ds b' => CallP c A f ds b' P) : EV c A sc O (.Call (.Name f pf) (e :: es) [] pos) ρ b P := fun ok ha env M s _ R g => by
  simp only [List.all_cons, Bool.and_eq_true] at hn
  obtain ⟨fa, fo, fd, hm, ho, hd⟩ := hd
  refine Call_ (name_fn ok R hg hm (callWith_def hd ?_ (starEach_of (nst_ne hn.1))))
  refine h ok ha env M s _ pos R fun ds b' h₁ vs h' tk' k x r => ?_
  obtain ⟨fa', fo', fd', hm', ho', hd', hc⟩ := h₁
  rw [hm] at hm'
  cases hm'
  have R' := R.to ok k x
  refine ⟨R'.base _ _ ho, hc _ M vs _ R'.base R'.m x r fun d b2 hP => ((g _ _ hP).from k x).weak fun q => ?_⟩
  have q : (f == ("list" : Str)) = true := q
  rw [hb] at q; cases q
theorem r_sub (hf : isFresh (.Subscript v i pos) = false) (h : EB c A sc O v ρ b fun d₁ b₁ => EV c A sc O i ρ b₁ fun d₂ b₂ => ∃ k, d₂ = .int k ∧ Op (getAt d₁ k b₂) fun d => P d b₂) : EV c A sc O (.Subscript v i pos) ρ b P := fun ok ha env M s _ R g => by
  refine Subscript_ (h ok ha env M s _ R fun d₁ b₁ h₁ w h' tk' k x r => ?_)
  refine h₁ ok ha env M { s with heap := h', toks := tk' } _ (R.to ok k x) fun d₂ b₂ h₂ v2 h'' tk'' k2 x2 r2 _ => ?_
  obtain ⟨n, rfl, d3, h3, hP⟩ := h₂
  obtain ⟨t, rfl⟩ := r2.int_inv
  have R2 := (R.to ok k x).to ok k2 x2
  exact getAt_snd (s := { s with heap := h'', toks := tk'' }) ok h3 R2.m R2.base x2 (r.keepX R.m.box k2) ((g _ _ hP).from (k.trans k2) x2) (by rw [hf]; exact Bool.false_ne_true)
theorem r_upto {p : Pos} (h : EB c A sc O v ρ b fun d₁ b₁ => EV c A sc O i ρ b₁ fun d₂ b₂ => ∃ ds k, d₁ = .list ds ∧ d₂ = .int k ∧ P (.list (upto ds k)) b₂) : EV c A sc O (.Subscript v (.Slice none (some i) none p) pos) ρ b P := fun ok ha env M s _ R g => by
  refine Subscript_ (h ok ha env M s _ R fun d₁ b₁ h₁ w h' tk' k x r => ?_)
  refine wpAny_Slice (wpAny_pure ?_)
  show wpAny _ _ (eval i env) _ _ _
  refine h₁ ok ha env M { s with heap := h', toks := tk' } _ (R.to ok k x) fun d₂ b₂ h₂ v2 h'' tk'' k2 x2 r2 _ => ?_
  obtain ⟨ds, k0, rfl, rfl, hP⟩ := h₂
  refine wpAny_pure ?_
  obtain ⟨t, rfl⟩ := r2.int_inv
  refine slice_snd (s := { s with heap := h'', toks := tk'' }) (es := upto ds k0) ((R.m.to k x).to k2 x2) x2 (r.keepX R.m.box k2) .none (.int k0 t) .none (by simp) (fun vs hv hn => ?_) ((g _ _ hP).from (k.trans k2) x2)
  have hl := hv.length
  unfold upto
  split
  · rename_i h0
    obtain ⟨j, rfl⟩ := Int.eq_ofNat_of_zero_le h0
    refine ⟨vs.take j, ?_, hv.take _, by rw [List.length_take]; exact Nat.le_trans (Nat.min_le_right _ _) hn⟩
    rw [slicePick_upto' vs.toArray j]
  · rename_i h0
    refine ⟨vs.take (k0 + ds.length).toNat, ?_, hv.take _, by rw [List.length_take]; exact Nat.le_trans (Nat.min_le_right _ _) hn⟩
    have e : k0 = -(((-k0).toNat : Nat) : Int) := by exact o17 h0
    rw [e, slicePick_butLast vs.toArray _ (by exact o16 h0)]
    congr 2
    simp only [List.size_toArray]
    exact o15 hl
theorem r_from {p : Pos} (h : EB c A sc O v ρ b fun d₁ b₁ => EV c A sc O i ρ b₁ fun d₂ b₂ => ∃ ds k, d₁ = .list ds ∧ d₂ = .int k ∧ 0 ≤ k ∧ P (.list (ds.drop k.toNat)) b₂) : EV c A sc O (.Subscript v (.Slice (some i) none none p) pos) ρ b P := fun ok ha env M s _ R g => by
  refine Subscript_ (h ok ha env M s _ R fun d₁ b₁ h₁ w h' tk' k x r => ?_)
  refine wpAny_Slice ?_
  show wpAny _ _ (eval i env) _ _ _
  refine h₁ ok ha env M { s with heap := h', toks := tk' } _ (R.to ok k x) fun d₂ b₂ h₂ v2 h'' tk'' k2 x2 r2 _ => ?_
  obtain ⟨ds, k0, rfl, rfl, h0, hP⟩ := h₂
  refine wpAny_pure (wpAny_pure ?_)
  obtain ⟨t, rfl⟩ := r2.int_inv
  refine slice_snd (s := { s with heap := h'', toks := tk'' }) (es := ds.drop k0.toNat) ((R.m.to k x).to k2 x2) x2 (r.keepX R.m.box k2) (.int k0 t) .none .none (by simp) (fun vs hv hn => ?_) ((g _ _ hP).from (k.trans k2) x2)
  obtain ⟨j, rfl⟩ := Int.eq_ofNat_of_zero_le h0
  refine ⟨vs.drop j, ?_, hv.drop _, by rw [List.length_drop]; exact Nat.le_trans (Nat.sub_le _ _) hn⟩
  rw [slicePick_from' vs.toArray j]
theorem r_rev {p : Pos} (h : EB c A sc O v ρ b fun d₁ b₁ => EV c A sc O i ρ b₁ fun d₂ b₂ => ∃ ds, d₁ = .list ds ∧ d₂ = .int (-1) ∧ P (.list ds.reverse) b₂) : EV c A sc O (.Subscript v (.Slice none none (some i) p) pos) ρ b P := fun ok ha env M s _ R g => by
  refine Subscript_ (h ok ha env M s _ R fun d₁ b₁ h₁ w h' tk' k x r => ?_)
  refine wpAny_Slice (wpAny_pure (wpAny_pure ?_))
  show wpAny _ _ (eval i env) _ _ _
  refine h₁ ok ha env M { s with heap := h', toks := tk' } _ (R.to ok k x) fun d₂ b₂ h₂ v2 h'' tk'' k2 x2 r2 _ => ?_
  obtain ⟨ds, rfl, rfl, hP⟩ := h₂
  obtain ⟨t, rfl⟩ := r2.int_inv
  refine slice_snd (s := { s with heap := h'', toks := tk'' }) (es := ds.reverse) ((R.m.to k x).to k2 x2) x2 (r.keepX R.m.box k2) .none .none (.int (-1) t) (by simp) (fun vs hv hn => ?_) ((g _ _ hP).from (k.trans k2) x2)
  exact ⟨vs.reverse, by rw [slicePick_rev], hv.rev, by rw [List.length_reverse]; exact hn⟩
theorem r_count {o : Expr} {apos : Pos} (hs : isSlice o = true) (hp : (apos.endLine == pos.line) = true) (hn : nst y = true)
    (h : EV c A sc O o ρ b fun d₁ b₁ => ∃ xs : List Int, d₁ = .list (xs.map .int) ∧ EV c A sc O y ρ b₁ fun d₂ b₂ => ∃ k, d₂ = .int k ∧ P (.int (xs.count k)) b₂) : EV c A sc O (.Call (.Attribute o "count" apos) [y] [] pos) ρ b P := fun ok ha env M s _ R g => by
  obtain ⟨v, i, p', rfl, hi⟩ := isSlice_true hs
  have hfr : isFresh (.Subscript v i p') = true := hi
  have he : eval (.Call (.Attribute (.Subscript v i p') "count" apos) [y] [] pos) env = (do
          let ov ← eval (.Subscript v i p') env
          standAt apos.atName
          let (f, first) ← holding [ov] (getMethod ov "count" (do return (← importBound (.Subscript v i p') env).getD true))
          callWith pos f first (backTo pos (starEach [y] env)) []) := by
    have hmp : ∀ few, methodCallPos few (.Subscript v i p') env apos pos = pure pos := fun few => by
      unfold methodCallPos
      rw [hp, Bool.or_true, if_pos rfl]
    show (do
      let ov ← eval (.Subscript v i p') env
      standAt apos.atName
      methodCall (.Subscript v i p') "count" apos pos env ov 1 (backTo pos (starEach [y] env)) []) = _
    unfold methodCall
    simp only [hmp, pure_bind]
    rw [starEach_of (nst_ne hn)]
    rfl
  refine MethodCall_ (h ok ha env M s _ R fun d₁ b₁ h₁ v h' tk' k x r nw => ?_) he
  obtain ⟨xs, rfl, h₁⟩ := h₁
  obtain ⟨a, vs, n', rfl, _, hget, hvs', hn'⟩ := nw hfr _ rfl
  have hvs : VRs h' M c.B vs (xs.map .int) := hvs'.mono fun a o hm e => ⟨fun q => hm (.inl q), e⟩
  have hl : h'.IsList a vs.toArray := ⟨_, hget, rfl, n', rfl⟩
  refine getMethod_list_of (s := { s with heap := h', toks := tk' }) PySem.F.slot_list_count PySem.F.type_list_count hl ⟨_, hget, rfl⟩ ?_
  refine callWith_method1 ?_ (starEach_of (nst_ne hn))
  refine wpAny_items_cons ?_ (starEach_of (nst_ne hn))
  refine h₁ ok ha env M { s with heap := h', toks := tk' } _ (R.to ok k x) fun d₂ b₂ h₂ v2 h'' tk'' k2 x2 r2 _ => ?_
  refine wpAny_items_nil ?_
  obtain ⟨n, rfl, hP⟩ := h₂
  obtain ⟨t, rfl⟩ := r2.int_inv
  have hB : a ≠ c.B := by
    rintro rfl
    obtain ⟨i0, k0, t0, u0, n0, _, hb⟩ := x
    obtain ⟨_, _, e, hm, _⟩ := r.list_inv
    cases e
    exact hm R.m.box
  have hl2 : h''.IsList a vs.toArray := hl.at fun o e => k2 a o hB e
  have hvs2 := hvs.keepX R.m.box k2
  refine count_list_ints (s := { s with heap := h'', toks := tk'' }) hl2 hvs2.ints ?_
  exact ((g _ _ hP).from (t₁ := tk'') (k.trans k2) x2).tok (s := { s with heap := h'', toks := tk'' }) x2 _ _
/-! tests -/
theorem t_cmp {op : CmpOp} (hm : behindInMarks op r = false) (h : EB c A sc O l ρ b fun d₁ b₁ => EB c A sc O r ρ b₁ fun d₂ b₂ => Op (cmp op d₁ d₂) fun t => PT t b₂) : TS c A sc O (.Compare l [op] [r] pos) ρ b PT := fun ok ha env M s _ R g => by
  refine wpAny_isTrue_Compare1 (h ok ha env M s _ R fun d₁ b₁ h₁ v h' tk' k x r₁ => ?_) hm
  refine h₁ ok ha env M { s with heap := h', toks := tk' } _ (R.to ok k x) fun d₂ b₂ h₂ v2 h'' tk'' k2 x2 r2 => ?_
  obtain ⟨t, h3, hP⟩ := h₂
  refine cmp_snd (M := M) (s := { s with heap := h'', toks := tk'' }) ha h3 (r₁.keepX R.m.box k2) r2 ?_
  exact wpAny_truthy_bool (g _ _ hP _ _ (k.trans k2) x2)
theorem t_not (h : TS c A sc O e ρ b fun t b' => PT (!t) b') : TS c A sc O (.UnaryOp .Not e pos) ρ b PT := fun ok ha env M s _ R g => isTrue_not (h ok ha env M s _ R fun t b' hP h' tk' k x => g _ _ hP _ _ k x)
theorem t_and (h : TA c A sc O es ρ b PT) : TS c A sc O (.BoolOp .And es pos) ρ b PT := fun ok ha env M s _ R g => h ok ha env M s _ pos _ R g
theorem t_or (h : TO c A sc O es ρ b PT) : TS c A sc O (.BoolOp .Or es pos) ρ b PT := fun ok ha env M s _ R g => h ok ha env M s _ pos _ R g
theorem t_ev (he : ∀ env, isTrue e env (eval e env) = (do let v ← eval e env; standAt e.pos; holding [v] (truthy v))) (h : EV c A sc O e ρ b fun d b' => ∃ t, d = .bool t ∧ PT t b') : TS c A sc O e ρ b PT := fun ok ha env M s _ R g => by
  refine isTrue_plain (h ok ha env M s _ R fun d b' h₁ v h' tk' k x r _ => ?_) (he env)
  obtain ⟨t, rfl, hP⟩ := h₁
  cases r.bool_inv
  exact wpAny_truthy_bool (g _ _ hP _ _ k x)
theorem ta_nil (h : PT true b) : TA c A sc O [] ρ b PT := fun _ _ _ _ s _ _ _ R g => isTrue_and_nil (g _ _ h s.heap s.toks KX.refl R.box)
theorem ta_cons (h : TS c A sc O e ρ b fun t b₁ => Br t (TA c A sc O es ρ b₁ PT) (PT false b₁)) : TA c A sc O (e :: es) ρ b PT := fun ok ha env M s _ pos whole R g => by
  refine isTrue_and (h ok ha env M s _ R fun t b₁ h₁ h' tk' k x => ?_)
  cases t with
  | true => rw [if_pos rfl]; exact h₁.1 rfl ok ha env M { s with heap := h', toks := tk' } _ pos whole (R.to ok k x) fun t b2 hP h'' tk'' k2 x2 => g _ _ hP _ _ (k.trans k2) x2
  | false => rw [if_neg (by decide)]; exact g _ _ (h₁.2 rfl) _ _ k x
theorem to_nil (h : PT false b) : TO c A sc O [] ρ b PT := fun _ _ _ _ s _ _ _ R g => isTrue_or_nil (g _ _ h s.heap s.toks KX.refl R.box)
theorem to_cons (h : TS c A sc O e ρ b fun t b₁ => Br t (PT true b₁) (TO c A sc O es ρ b₁ PT)) : TO c A sc O (e :: es) ρ b PT := fun ok ha env M s _ pos whole R g => by
  refine isTrue_or (h ok ha env M s _ R fun t b₁ h₁ h' tk' k x => ?_)
  cases t with
  | true => rw [if_pos rfl]; exact g _ _ (h₁.1 rfl) _ _ k x
  | false => rw [if_neg (by decide)]; exact h₁.2 rfl ok ha env M { s with heap := h', toks := tk' } _ pos whole (R.to ok k x) fun t b2 hP h'' tk'' k2 x2 => g _ _ hP _ _ (k.trans k2) x2
end
end Mine

namespace Mine
open PySem PySem.Calls PyProof.Rows
theorem tgOk_go {e tg : Expr} (h : tgOk e tg = true) (hn : isEnum e = false) {M : Model} {A : Around} {s : Shared} {it v : Value} {Q : Unit → Shared → Prop} {E : Value → Shared → Prop} (q : Q () s) : wpAny M A (letOwnedTupleGo tg it v) Q E s := by
  obtain ⟨x, p, rfl⟩ := tgOk_n h hn
  exact wpAny_pure q
theorem tgOk_name {e tg : Expr} (h : tgOk e tg = true) (hn : isEnum e = false) : isTup tg = false := by
  obtain ⟨x, p, rfl⟩ := tgOk_n h hn
  rfl
section
variable {c : Cx} {A : Around} {M : Addr → Prop} {h0 h2 : Heap}
/-- an iterator of a list -/
theorem IterOK.list (ha : AOk A) {e tg : Expr} (htg : tgOk e tg = true) (hn : isEnum e = false) {l : Addr} {vs : List Value} {ds : List D} (m : MOk c h0 M) (hl : h0.IsList l vs.toArray) (hm : ¬ M l) (q : VRs h0 M c.B vs ds) (hsz : vs.length ≤ lim) :
    IterOK c A M tg ds h0 (h0.push { cls := .type "list_iterator", data := .fields #[.ref l, .int 0 0] }) h0.objs.size [h0.objs.size, l] [h0.objs.size] (fun i v _ => vs.toArray[i]? = some v)
      (fun i v h => vs.toArray[i]? = some v ∧ (h.IsListIter h0.objs.size l (i + 1) ∧ h.IsList l vs.toArray)) (fun i h => h.IsListIter h0.objs.size l i ∧ h.IsList l vs.toArray) where
  K := by
    obtain ⟨o, ho, _⟩ := id hl
    have hne : l ≠ h0.objs.size := Nat.ne_of_lt (Heap.lt_size ho)
    have W := W.KTurns.ofWalks (target := tg) (Walks.list (prog := c.prog) (w := c.w) ha.hh h0.objs.size l hne vs.toArray) (fun i v s Q E _ q => tgOk_go htg hn q)
    rw [show vs.toArray.size = ds.length from by simp [q.length]] at W
    exact W
  st := ⟨⟨_, Heap.get?_push_size _ rfl, rfl, rfl⟩, hl.push _⟩
  self := fun i s Q E st h => wpAny_pyIter_listiter st.1 h
  new := fun b hb => by simp at hb; subst hb; exact size_none _
  kind := fun i h st b hb => by simp at hb; subst hb; obtain ⟨o, ho, _, hd⟩ := st.1; exact ⟨o, _, ho, hd⟩
  fix := fun b hb => by
    simp at hb
    rcases hb with rfl | rfl
    · exact .inl (by simp)
    · obtain ⟨o, ho, _⟩ := hl; exact .inr ⟨hm, o, Heap.get?_push_of_some _ ho⟩
  small := by rw [← q.length]; exact hsz
  val := fun i v h d M' hd hP hk hM' => by
    rw [tgOk_name htg hn]
    obtain ⟨v', hv', hr⟩ := q.get hd
    have : v = v' := by
      have e : vs[i]? = some v := by simpa using hP
      rw [e] at hv'; exact Option.some.inj hv'
    subst this
    show VR h _ c.B v d
    refine hr.mono fun a o hm' ea => ?_
    have hne : a ≠ h0.objs.size := Nat.ne_of_lt (Heap.lt_size ea)
    refine ⟨fun q => ?_, hk a o hm' (by simpa using hne) (Heap.get?_push_of_some _ ea)⟩
    rcases hM' a q with q | q | q
    · exact hm' q
    · exact hne (by simpa using q)
    · rw [Heap.get?_push_of_some _ ea] at q; cases q
/-- an iterator of a range by c, n items from a on -/
theorem IterOK.range (ha : AOk A) {e tg : Expr} (htg : tgOk e tg = true) (hn : isEnum e = false) {a st : Int} {n : Nat} {ds : List D} (hlen : ds.length = n) (hsz : n ≤ lim) (hit : IsRangeIter h2 I a n st) (hnew : h0.get? I = none)
    (hd : ∀ (i : Nat) (d : D), ds[i]? = some d → d = .int (a + i * st)) :
    IterOK c A M tg ds h0 h2 I [I] [I] (fun i v _ => ∃ t, v = .int (a + i * st) t)
      (fun i v h => (∃ t, v = .int (a + i * st) t) ∧ IsRangeIter h I (a + ((i + 1 : Nat) : Nat) * st) ((n : Int) - ((i + 1 : Nat) : Nat)) st) (fun i h => IsRangeIter h I (a + (i : Nat) * st) ((n : Int) - (i : Nat)) st) where
  K := by
    have W := W.KTurns.ofWalks (target := tg) (Walks.range (prog := c.prog) (w := c.w) ha.hh I a st n) (fun i v s Q E _ q => tgOk_go htg hn q)
    rw [← hlen] at W ⊢
    exact W
  st := by simpa using hit
  self := fun i s Q E st h => wpAny_pyIter_rangeiter st h
  new := fun b hb => by simp at hb; subst hb; exact hnew
  kind := fun i h st b hb => by simp at hb; subst hb; exact ⟨_, _, st, rfl⟩
  fix := fun b hb => .inl hb
  small := by rw [hlen]; exact hsz
  val := fun i v h d M' hd' hP hk hM' => by
    rw [tgOk_name htg hn]
    obtain ⟨t, rfl⟩ := hP
    rw [hd i d hd']
    exact VR.int _ _
theorem tupsFrom_get : ∀ {ds : List D} {k i : Nat} {d : D}, (tupsFrom k ds)[i]? = some d → ∃ x, ds[i]? = some x ∧ d = .tuple [.int ((k + i : Nat) : Int), x]
  | [], k, i, d, h => by simp [tupsFrom] at h
  | x :: ds, k, 0, d, h => by simp [tupsFrom] at h; subst h; exact ⟨x, rfl, rfl⟩
  | x :: ds, k, i + 1, d, h => by
    simp [tupsFrom] at h
    obtain ⟨y, h1, h2⟩ := tupsFrom_get h
    exact ⟨y, by simpa using h1, by rw [h2]; congr 3; push_cast; exact o33⟩
theorem tupsFrom_length : ∀ (ds : List D) (k : Nat), (tupsFrom k ds).length = ds.length
  | [], _ => rfl
  | _ :: ds, k => by simp [tupsFrom, tupsFrom_length ds]
theorem IterOK.enum (ha : AOk A) {es : List Expr} {kk : Nat} {p : Pos} {l : Addr} {vs : List Value} {ds : List D} (hl : h0.IsList l vs.toArray) (hm : ¬ M l) (q : VRs h0 M c.B vs ds) (hsz : vs.length ≤ lim)
    (hE : IsEnum h2 (h0.objs.size + 1) h0.objs.size 0 .none) (hI : h2.IsListIter h0.objs.size l 0) (hk2 : ∀ b o, h0.get? b = some o → h2.get? b = some o) :
    ∃ P Md St, IterOK c A M (.Tuple es kk p) (tupsFrom 0 ds) h0 h2 (h0.objs.size + 1) [h0.objs.size + 1, h0.objs.size, l] [h0.objs.size + 1, h0.objs.size] P Md St := by
  obtain ⟨o, ho, _⟩ := id hl
  have hlt : l < h0.objs.size := Heap.lt_size ho
  have hne : h0.get? (h0.objs.size + 1) = none := by
    cases e : h0.get? (h0.objs.size + 1) with
    | none => rfl
    | some o => exact absurd (Nat.lt_of_succ_lt (Heap.lt_size e)) (Nat.lt_irrefl _)
  have Wt := (WalksT.enumerate (prog := c.prog) (w := c.w) ha.hh (h0.objs.size + 1) h0.objs.size l (Nat.ne_of_gt (Nat.lt_succ_self _)) (Nat.ne_of_lt (Nat.lt_succ_of_lt hlt)) (Nat.ne_of_lt hlt) vs.toArray)
  have KT := W.KTurns.ofWalksU (elts := es) (k := kk) (pos := p) Wt.toU
  rw [show vs.toArray.size = (tupsFrom 0 ds).length from by rw [tupsFrom_length]; simp [q.length]] at KT
  refine ⟨_, _, _, KT, ⟨⟨.none, hE⟩, hI, hl.at fun o e => hk2 _ o e⟩, Wt.self, fun b hb => ?_, fun i h st b hb => ?_, fun b hb => ?_, by rw [tupsFrom_length, ← q.length]; exact hsz, fun i v h d M' hd hP hk hM' => ?_⟩
  · simp at hb
    rcases hb with rfl | rfl
    · exact hne
    · exact size_none _
  · simp at hb
    obtain ⟨⟨old, h1⟩, h2, h3⟩ := st
    rcases hb with rfl | rfl
    · exact ⟨_, _, h1, rfl⟩
    · obtain ⟨o, ho, _, hd⟩ := h2; exact ⟨o, _, ho, hd⟩
  · simp at hb
    rcases hb with rfl | rfl | rfl
    · exact .inl (by simp)
    · exact .inl (by simp)
    · exact .inr ⟨hm, o, hk2 _ _ ho⟩
  · show UR h _ c.B v d
    obtain ⟨T, vals, rfl, ⟨t, x, hx, rfl⟩, hT⟩ := hP
    obtain ⟨dx, hdx, rfl⟩ := tupsFrom_get hd
    obtain ⟨v', hv', hr⟩ := q.get hdx
    have : x = v' := by
      have e : vs[i]? = some x := by simpa using hx
      rw [e] at hv'; exact Option.some.inj hv'
    subst this
    refine ⟨T, [.int i t, x], [.int i, dx], rfl, by simp, hT, .cons (.int _ _) (.cons (hr.mono fun a o hm' ea => ?_) .nil)⟩
    have hlt : a < h0.objs.size := Heap.lt_size ea
    have hw : a ∉ [h0.objs.size + 1, h0.objs.size] := by
      simp only [List.mem_cons, List.mem_nil_iff, or_false]
      rintro (e | e)
      · rw [e] at hlt; exact absurd (Nat.lt_of_succ_lt hlt) (Nat.lt_irrefl _)
      · rw [e] at hlt; exact absurd hlt (Nat.lt_irrefl _)
    refine ⟨fun q => ?_, hk a o hm' hw (hk2 _ _ ea)⟩
    rcases hM' a q with q | q | q
    · exact hm' q
    · exact hw q
    · rw [hk2 _ _ ea] at q; cases q
theorem small_of {a z s : Int} (ha : sml a) (hz : sml z) (hs : s = 1 ∨ s = -1) : Builtin.Range.small a z s = true := by
  have h1 : -1000000 ≤ a ∧ a ≤ 1000000 := ha
  have h2 : -1000000 ≤ z ∧ z ≤ 1000000 := hz
  have fit : ∀ x : Int, -10000000 ≤ x → x ≤ 10000000 → Builtin.Range.rangeFitsLong x = true := fun x h1 h2 => by
    unfold Builtin.Range.rangeFitsLong
    simp only [Bool.and_eq_true, decide_eq_true_eq]
    exact o32 h1 h2
  unfold Builtin.Range.small
  rcases hs with rfl | rfl
  · rw [PyProof.Rows.rangeSize_nat]
    rw [fit a (by exact o26 h1.1) (by exact o25 h1.2), fit z (by exact o26 h2.1) (by exact o25 h2.2), fit 1 (by exact o31) (by exact o30), fit _ (by exact o22) (by exact o29 h1.1 h2.2)]
    rw [if_pos (by decide), fit _ (by exact o28 h2.1) (by exact o27 h2.2)]
    simp
  · rw [W.rangeSize_downNat]
    rw [fit a (by exact o26 h1.1) (by exact o25 h1.2), fit z (by exact o26 h2.1) (by exact o25 h2.2), fit (-1) (by exact o24) (by exact o23), fit _ (by exact o22) (by exact o21 h1.2 h2.1)]
    rw [if_neg (by decide), fit _ (by exact o20 h2.1) (by exact o19 h2.2)]
    simp
theorem range_get {f : Nat → D} {n i : Nat} {d : D} (h : ((List.range n).map f)[i]? = some d) : d = f i := by
  rw [List.getElem?_map] at h
  obtain ⟨j, hj, rfl⟩ := Option.map_eq_some_iff.mp h
  obtain ⟨_, rfl⟩ := List.getElem?_eq_some_iff.mp hj
  rw [List.getElem_range]
theorem range_iter (ha : AOk A) {e tg : Expr} (htg : tgOk e tg = true) (hen : isEnum e = false) {s : Shared} {b : List D} {es : List D} {Q : Value → Shared → Prop} (x : BoxR c s.heap b) {h' : Heap} {tk' : Nat} {a z st : Int} {t u v : Tok} (hR : IsRange h' s.heap.objs.size a z st t u v)
    (hk' : ∀ b o, s.heap.get? b = some o → h'.get? b = some o) (ha' : sml a) (hz' : sml z) (hst : st = 1 ∨ st = -1) {k : Nat} (hsz : Builtin.Range.rangeSize a z st = k) (hlen : es.length = k) (hlim : k ≤ lim) (hitems : ∀ (i : Nat) (d : D), es[i]? = some d → d = .int (a + i * st))
    (P : ∀ h' tk' I fp wr P Md St, KX c.B s.heap h' → BoxR c h' b → IterOK c A M tg es s.heap h' I fp wr P Md St → Q (.ref I) { s with heap := h', toks := tk' }) : wpAny (model c.prog c.w) A (pyIter (.ref s.heap.objs.size)) Q NoE { s with heap := h', toks := tk' } := by
  refine wpAny_pyIter_range (s := { s with heap := h', toks := tk' }) hR (small_of ha' hz' hst) ?_
  refine P _ tk' _ [h'.objs.size] [h'.objs.size] _ _ _ (KX.of fun a o e => Heap.get?_push_of_some _ (hk' a o e)) (x.keep fun a o e => Heap.get?_push_of_some _ (hk' a o e))
    (IterOK.range ha htg hen (I := h'.objs.size) (a := a) (st := st) hlen hlim ?_ ?_ hitems)
  · rw [hsz]; exact Heap.get?_push_size _ rfl
  · cases q : s.heap.get? h'.objs.size with
    | none => rfl
    | some o => exact absurd (Heap.lt_size (hk' _ _ q)) (Nat.lt_irrefl _)
theorem map_len {f : Nat → D} {n : Nat} : ((List.range n).map f).length = n := by rw [List.length_map, List.length_range]
theorem itr_snd (ok : c.Ok) (ha : AOk A) {e tg : Expr} {f : Str} {pf pos : Pos} {args : List Expr} (he : e = .Call (.Name f pf) args [] pos) (htg : tgOk e tg = true) {s : Shared} {b : List D} {vs : List Value} {ds es : List D} {Q : Value → Shared → Prop}
    (h : itr f ds = some es) (m : MOk c s.heap M) (x : BoxR c s.heap b) (r : VRs s.heap M c.B vs ds)
    (P : ∀ h' tk' I fp wr P Md St, KX c.B s.heap h' → BoxR c h' b → IterOK c A M tg es s.heap h' I fp wr P Md St → Q (.ref I) { s with heap := h', toks := tk' }) :
    wpAny (model c.prog c.w) A (call (bval f) vs) (fun xv s₁ => wpAny (model c.prog c.w) A (pyIter xv) Q NoE s₁) NoE s := by
  have kp : ∀ (o : Obj) b o', s.heap.get? b = some o' → (s.heap.push o).get? b = some o' := fun o b o' e => Heap.get?_push_of_some _ e
  cases itr_some h with
  | one n hg =>
    obtain ⟨e1, hn⟩ := hg
    subst e1 he
    obtain ⟨v, rfl, r1⟩ := r.one_inv
    obtain ⟨t, rfl⟩ := r1.int_inv
    have hn' : -1000000 ≤ n ∧ n ≤ 1000000 := hn
    exact call_range_1 (range_iter ha htg rfl x (z := n) (st := 1) (Heap.get?_push_size _ rfl) (kp _) (by decide) hn (.inl rfl) (PyProof.Rows.rangeSize_nat ..) (by rw [map_len, Int.sub_zero]) (by unfold lim; exact o18 hn'.2) (fun i d hd => by rw [range_get hd]; simp) P)
  | two a z hg =>
    obtain ⟨e1, h1, h2, h3⟩ := hg
    subst e1 he
    obtain ⟨v, v', rfl, r1, r2⟩ := r.two_inv
    obtain ⟨t, rfl⟩ := r1.int_inv
    obtain ⟨u, rfl⟩ := r2.int_inv
    exact call_range_2 (range_iter ha htg rfl x (Heap.get?_push_size _ rfl) (kp _) h1 h2 (.inl rfl) (PyProof.Rows.rangeSize_nat ..) map_len h3 (fun i d hd => by rw [range_get hd, Int.mul_one]) P)
  | three a z st hg =>
    obtain ⟨e1, rfl, h1, h2, h3⟩ := hg
    subst e1 he
    obtain ⟨v, ws, rfl, r1, r2⟩ := r.cons_inv
    obtain ⟨v', v2, rfl, r2, r3⟩ := r2.two_inv
    obtain ⟨t, rfl⟩ := r1.int_inv
    obtain ⟨u, rfl⟩ := r2.int_inv
    obtain ⟨w, rfl⟩ := r3.int_inv
    exact call_range_3 (by decide) (range_iter ha htg rfl x (Heap.get?_push_size _ rfl) (kp _) h1 h2 (.inr rfl) (W.rangeSize_downNat ..) map_len h3 (fun i d hd => by rw [range_get hd, Int.mul_neg, Int.mul_one]; rfl) P) (.inl (PyProof.noPylong_of_log2 (by decide)))
  | enum xs hg =>
    subst hg he
    obtain ⟨es', kk, p, rfl⟩ := tgOk_t htg rfl
    obtain ⟨v, rfl, r1⟩ := r.one_inv
    obtain ⟨l', vs', rfl, hm, l, hn, q⟩ := r1.list_inv
    refine call_enumerate_list l fun h' hE hI hz hk => ?_
    refine wpAny_pyIter_enum (s := { s with heap := h' }) hE ?_
    obtain ⟨P', Md, St, it⟩ := IterOK.enum (c := c) (M := M) ha (es := es') (kk := kk) (p := p) l hm q hn hE hI hk
    exact P h' s.toks _ _ _ _ _ _ (KX.of hk) (x.keep hk) it
end
section
variable {c : Cx} {A : Around}
theorem iter_list {e tg : Expr} {M : Addr → Prop} {s : Shared} {v : Value} {ds : List D} {b : List D} {Q : Value → Shared → Prop} (ha : AOk A) (htg : tgOk e tg = true) (hn : isEnum e = false) (m : MOk c s.heap M) (x : BoxR c s.heap b) (r : VR s.heap M c.B v (.list ds))
    (P : ∀ h' tk' I fp wr P Md St, KX c.B s.heap h' → BoxR c h' b → IterOK c A M tg ds s.heap h' I fp wr P Md St → Q (.ref I) { s with heap := h', toks := tk' }) : wpAny (model c.prog c.w) A (pyIter v) Q NoE s := by
  obtain ⟨l', vs, rfl, hm, l, hsz, q⟩ := r.list_inv
  exact wpAny_pyIter_list l (P _ s.toks _ _ _ _ _ _ (KX.push _) (x.keep fun _ _ e => Heap.get?_push_of_some _ e) (IterOK.list ha htg hn m l hm q hsz))
theorem iter_rng {e tg : Expr} {M : Addr → Prop} {s : Shared} {v : Value} {a z : Int} {b : List D} {Q : Value → Shared → Prop} (ha : AOk A) (htg : tgOk e tg = true) (hn : isEnum e = false) (x : BoxR c s.heap b) (r : VR s.heap M c.B v (.rng a z))
    (P : ∀ h' tk' I fp wr P Md St, KX c.B s.heap h' → BoxR c h' b → IterOK c A M tg ((List.range (z - a).toNat).map fun (i : Nat) => .int (a + (i : Int))) s.heap h' I fp wr P Md St → Q (.ref I) { s with heap := h', toks := tk' }) : wpAny (model c.prog c.w) A (pyIter v) Q NoE s := by
  cases r with | rng hm hR hl =>
  obtain ⟨h1, h2, h3, h4, h5⟩ := hl
  refine wpAny_pyIter_range hR (small_of ⟨h1, h2⟩ ⟨h3, h4⟩ (.inl rfl)) ?_
  refine P _ s.toks _ [s.heap.objs.size] [s.heap.objs.size] _ _ _ (KX.push _) (x.keep fun a o e => Heap.get?_push_of_some _ e)
    (IterOK.range ha htg hn (I := s.heap.objs.size) (a := a) (st := 1) (n := (z - a).toNat) map_len h5 ?_ (size_none _) fun i d hd => by rw [range_get hd, Int.mul_one])
  have e := PyProof.Rows.rangeSize_nat a z
  rw [← e]; exact Heap.get?_push_size _ rfl
theorem IterOK.back {M : Addr → Prop} {tg : Expr} {ds : List D} {h0 h1 h2 : Heap} {I : Addr} {fp wr : List Addr} {P Md : Nat → Value → Heap → Prop} {St : Nat → Heap → Prop} {b : List D} (x : IterOK c A M tg ds h1 h2 I fp wr P Md St) (k : KX c.B h0 h1) (y : BoxR c h1 b) : IterOK c A M tg ds h0 h2 I fp wr P Md St := by
  refine { x with new := fun a ha => ?_ }
  have h1 := x.new a ha
  cases e : h0.get? a with
  | none => rfl
  | some o =>
    by_cases q : a = c.B
    · obtain ⟨T, xs, n, e'⟩ := y.seq; rw [q, e'] at h1; cases h1
    · rw [k _ _ q e] at h1; cases h1
/-- what a list or a range gives, one by one -/
noncomputable def asItems : D → Option (List D)
  | .list ds => some ds
  | .rng a z => some ((List.range (z - a).toNat).map fun (i : Nat) => .int (a + (i : Int)))
  | _ => none
variable {sc : Scope} {O : List Str} {ρ : PEnv} {b : List D} {PS : List D → List D → Prop} {e : Expr} {es : List Expr} {pos pf : Pos}
theorem i_ev (hn : isEnum e = false) (h : EV c A sc O e ρ b fun d b' => Op (asItems d) fun ds => PS ds b') : EI c A sc O e ρ b PS := fun ok ha env M s Q tg htg R g => by
  refine h ok ha env M s _ R fun d b' h₁ v h' tk' k x r _ => ?_
  obtain ⟨ds, h2, hP⟩ := h₁
  cases d with
  | list xs =>
    cases h2
    refine iter_list (s := { s with heap := h', toks := tk' }) ha htg hn (R.m.to k x) x r fun h'' tk'' I fp wr P' Md St k2 x2 it => ?_
    exact g _ _ hP _ _ _ _ _ _ _ _ (k.trans k2) x2 (it.back k x)
  | rng a z =>
    cases h2
    refine iter_rng (s := { s with heap := h', toks := tk' }) ha htg hn x r fun h'' tk'' I fp wr P' Md St k2 x2 it => ?_
    exact g _ _ hP _ _ _ _ _ _ _ _ (k.trans k2) x2 (it.back k x)
  | _ => cases h2
theorem i_call {f : Str} (hg : sc.names.lookup f = some .globalImplicit) (hb : bltNames.contains f = true) (hn : (e :: es).all nst = true) (h : ES c A sc O (e :: es) ρ b fun ds b' => Op (itr f ds) fun its => PS its b') : EI c A sc O (.Call (.Name f pf) (e :: es) [] pos) ρ b PS := fun ok ha env M s Q tg htg R g => by
  simp only [List.all_cons, Bool.and_eq_true] at hn
  have hb' : f ∈ bltNames := by simpa using hb
  refine Call_ (name_blt ok R hg hb' (callWith_bval hb' (nst_ne hn.1) (nst_any pos _ hn.2) ?_))
  refine h ok ha env M s _ pos R fun ds b' h₁ vs h' tk' k x r => ?_
  obtain ⟨its, h2, hP⟩ := h₁
  refine itr_snd (s := { s with heap := h', toks := tk' }) ok ha rfl htg h2 (R.m.to k x) x r fun h'' tk'' I fp wr P' Md St k2 x2 it => ?_
  exact g _ _ hP _ _ _ _ _ _ _ _ (k.trans k2) x2 (it.back k x)
end
end Mine

namespace Mine
open PySem PySem.Calls PyProof.Rows
noncomputable def Xc (sc : Scope) (env : Env) (a : Addr) : Prop := a = env.locals ∨ ∃ x, locIn sc x = true ∧ env.kindOf x = some .cell ∧ env.cells.lookup x = some a
/-- all is kept but the frame's own places -/
noncomputable def KA (sc : Scope) (env : Env) (h h' : Heap) : Prop := ∀ a o, ¬ Xc sc env a → h.get? a = some o → h'.get? a = some o
theorem KA.trans {sc : Scope} {env : Env} {h h' h'' : Heap} (x : KA sc env h h') (y : KA sc env h' h'') : KA sc env h h'' := fun a o n e => y a o n (x a o n e)
theorem KA.of {sc : Scope} {env : Env} {h h' : Heap} (x : ∀ a o, h.get? a = some o → h'.get? a = some o) : KA sc env h h' := fun a o _ e => x a o e
/-- the names xs were stored, and nothing else was turned -/
structure Stored (sc : Scope) (env : Env) (M : Addr → Prop) (xs : List Str) (h h' : Heap) : Prop where
  k : KA sc env h h'
  seq : ∀ a o ys n, o.data = .seq ys n → h.get? a = some o → h'.get? a = some o
  fld : ∀ a o vs, o.data = .fields vs → h.get? a = some o → h'.get? a = some o
  al : ∀ a o, h.get? a = some o → ∃ o', h'.get? a = some o'
  sl : ∀ y w, y ∉ xs → Slot h env y w → Slot h' env y w
  km : ∀ a o, ¬ M a → h.get? a = some o → h'.get? a = some o
theorem Stored.trans {sc : Scope} {env : Env} {M : Addr → Prop} {xs ys : List Str} {h h' h'' : Heap} (x : Stored sc env M xs h h') (y : Stored sc env M ys h' h'') : Stored sc env M (ys ++ xs) h h'' where
  k := x.k.trans y.k
  seq := fun a o zs n d e => y.seq a o zs n d (x.seq a o zs n d e)
  fld := fun a o vs d e => y.fld a o vs d (x.fld a o vs d e)
  al := fun a o e => let ⟨o', e'⟩ := x.al a o e; y.al a o' e'
  sl := fun z w hz q => y.sl z w (fun q => hz (List.mem_append_left _ q)) (x.sl z w (fun q => hz (List.mem_append_right _ q)) q)
  km := fun a o n e => y.km a o n (x.km a o n e)
theorem Stored.of {sc : Scope} {env : Env} {M : Addr → Prop} {h h' : Heap} (x : ∀ a o, h.get? a = some o → h'.get? a = some o) : Stored sc env M [] h h' where
  k := KA.of x
  seq := fun a o _ _ _ e => x a o e
  fld := fun a o _ _ e => x a o e
  al := fun a o e => ⟨o, x a o e⟩
  sl := fun y w _ q => by
    rcases q with ⟨q1, m, hn, hm⟩ | ⟨q1, a, ha, hc⟩
    · exact .inl ⟨q1, m, hn.keeps x, hm⟩
    · exact .inr ⟨q1, a, ha, hc.keeps x⟩
  km := fun a o _ e => x a o e
section
variable {c : Cx} {A : Around} {sc : Scope} {O : List Str} {env : Env} {M : Addr → Prop} {ρ ρ' : PEnv} {b : List D} {d : D} {s : Shared} {Q : Unit → Shared → Prop}
theorem store_raw {x : Str} {v : Value} (kind : env.scope.kind = .function) (W : Wr sc env M s.heap) (hx : locIn sc x = true)
    (P : ∀ h' tk', Stored sc env M [x] s.heap h' → Slot h' env x v → Wr sc env M h' → Q () { s with heap := h', toks := tk' }) :
    wpAny (model c.prog c.w) A (storeName env x v) Q NoE s := by
  rcases W.loc x hx with hk | ⟨hk, a, ha⟩
  · obtain ⟨m, hn⟩ := W.ns
    obtain ⟨oL, es, ep, hoL, hdL⟩ := Ns.kind hn
    refine wpAny_storeName_local hk hn (fun h' hn' hs' => ?_) (by rw [kind]; rfl)
    have ne : ∀ a o, s.heap.get? a = some o → (∀ es ep, o.data ≠ .dict es ep) → a ≠ env.locals := fun a o h1 h2 q => by
      rw [q, hoL] at h1; cases Option.some.inj h1; exact h2 _ _ hdL
    have kp : ∀ a o, a ≠ env.locals → s.heap.get? a = some o → h'.get? a = some o := fun a o n e => (hs'.2 a n).trans e
    refine P h' _ ⟨fun a o n e => kp a o (fun q => n (.inl q)) e, fun a o ys n d e => kp a o (ne a o e (by intro es ep q; rw [d] at q; cases q)) e, fun a o vs d e => kp a o (ne a o e (by intro es ep q; rw [d] at q; cases q)) e,
      fun a o e => ?_, fun y w hy q => ?_, fun a o n e => kp a o (fun q => n (q ▸ W.mL)) e⟩ (.inl ⟨hk, _, hn', by simp⟩) ⟨⟨_, hn'⟩, W.mL, fun y a e => ?_, W.apart, W.loc⟩
    · by_cases q : a = env.locals
      · obtain ⟨o', _, _, e', _⟩ := hn'; exact ⟨o', q ▸ e'⟩
      · exact ⟨o, kp a o q e⟩
    · have hy' : y ≠ x := by simpa using hy
      rcases q with ⟨h1, m', hn2, hm2⟩ | ⟨h1, a, ha, o, ho', hd'⟩
      · have : m' y = m y := by
          obtain ⟨o1, es1, ep1, g1, d1, _, f1⟩ := hn
          obtain ⟨o2, es2, ep2, g2, d2, _, f2⟩ := hn2
          rw [g1] at g2; cases Option.some.inj g2
          rw [d1] at d2; cases d2
          rw [← f1, ← f2]
        exact .inl ⟨h1, _, hn', by simp [hy', ← this, hm2]⟩
      · exact .inr ⟨h1, a, ha, o, kp a o (ne a o ho' (by intro es ep q; rw [hd'] at q; cases q)) ho', hd'⟩
    · obtain ⟨⟨w, o, ho', hd'⟩, hm⟩ := W.cells y a e
      exact ⟨⟨w, o, kp a o (ne a o ho' (by intro es ep q; rw [hd'] at q; cases q)) ho', hd'⟩, hm⟩
  · obtain ⟨⟨v₀, o₀, ho₀, hd₀⟩, hMa⟩ := W.cells x a ha
    refine wpAny_storeName_cell kind hk ha ⟨o₀, ho₀, hd₀⟩ fun h' hv' hs' => ?_
    have ne : ∀ a' o, s.heap.get? a' = some o → (∀ v, o.data ≠ .cell v) → a' ≠ a := fun a' o h1 h2 q => by
      rw [q, ho₀] at h1; cases Option.some.inj h1; exact h2 _ hd₀
    have kp : ∀ a' o, a' ≠ a → s.heap.get? a' = some o → h'.get? a' = some o := fun a' o n e => (hs'.2 a' n).trans e
    obtain ⟨m, hn⟩ := W.ns
    obtain ⟨oL, es, ep, hoL, hdL⟩ := Ns.kind hn
    have hLne : env.locals ≠ a := ne _ _ hoL (by intro v q; rw [hdL] at q; cases q)
    have hn' : h'.Ns env.locals m := hn.at' fun o e => kp _ o hLne e
    refine P h' s.toks ⟨fun a' o n e => kp a' o (fun q => n (.inr ⟨x, hx, hk, q ▸ ha⟩)) e, fun a' o ys n d e => kp a' o (ne a' o e (by intro v q; rw [d] at q; cases q)) e, fun a' o vs d e => kp a' o (ne a' o e (by intro v q; rw [d] at q; cases q)) e,
      fun a' o e => ?_, fun y w hy q => ?_, fun a' o n e => kp a' o (fun q => n (q ▸ hMa)) e⟩ (.inr ⟨.inl hk, a, ha, hv'⟩) ⟨⟨_, hn'⟩, W.mL, fun y a' e => ?_, W.apart, W.loc⟩
    · by_cases q : a' = a
      · obtain ⟨o', e', _⟩ := hv'; exact ⟨o', q ▸ e'⟩
      · exact ⟨o, kp a' o q e⟩
    · have hy' : y ≠ x := by simpa using hy
      rcases q with ⟨h1, m', hn2, hm2⟩ | ⟨h1, a', ha', o, ho', hd'⟩
      · exact .inl ⟨h1, m', hn2.at' fun o e => kp _ o hLne e, hm2⟩
      · exact .inr ⟨h1, a', ha', o, kp a' o (fun q => hy' (W.apart y x a (q ▸ ha') ha)) ho', hd'⟩
    · by_cases q : a' = a
      · subst q; exact ⟨⟨_, hv'⟩, hMa⟩
      · obtain ⟨⟨w, o, ho', hd'⟩, hm⟩ := W.cells y a' e
        exact ⟨⟨w, o, kp a' o q ho', hd'⟩, hm⟩
theorem VR.stored {xs : List Str} {h h' : Heap} (st : Stored sc env M xs h h') {v : Value} {d : D} (q : VR h M c.B v d) : VR h' M c.B v d := q.mono fun a o hm e => ⟨hm, st.km a o hm e⟩
theorem VRs.stored {xs : List Str} {h h' : Heap} (st : Stored sc env M xs h h') {v : List Value} {d : List D} (q : VRs h M c.B v d) : VRs h' M c.B v d := q.mono fun a o hm e => ⟨hm, st.km a o hm e⟩
theorem OwnV.stored {xs : List Str} {h h' : Heap} (st : Stored sc env M xs h h') {v : Value} {d : D} (q : OwnV h M c.B v d) : OwnV h' M c.B v d := by
  obtain ⟨a, vs, n, ds, e1, e2, e3, e4, e5, e6⟩ := q
  exact ⟨a, vs, n, ds, e1, e2, st.seq _ _ _ _ rfl e3, e4.stored st, e5, e6⟩
theorem BoxR.stored {xs : List Str} {h h' : Heap} (st : Stored sc env M xs h h') (q : BoxR c h b) : BoxR c h' b := by
  obtain ⟨i, k, t, u, n, e1, e2⟩ := q
  exact ⟨i, k, t, u, n, e1, st.seq _ _ _ _ rfl e2⟩
theorem MOk.stored {xs : List Str} {h h' : Heap} (st : Stored sc env M xs h h') (m : MOk c h M) : MOk c h' M := ⟨m.box, fun a hm => let ⟨o, e⟩ := m.live a hm; st.al a o e, m.low⟩
theorem locIn_ne {x : Str} (nd : sc.names.lookup ("__debug__" : Str) = none ∧ sc.names.lookup ("__classdict__" : Str) = none) (hx : locIn sc x = true) : x ≠ "__debug__" ∧ x ≠ "__classdict__" := by
  constructor
  · rintro rfl; simp [locIn, nd.1] at hx
  · rintro rfl; simp [locIn, nd.2] at hx
theorem Rd.stored {x : Str} {v : Value} {h h' : Heap} (R : Rd c sc O env M ρ b h) (hx : locIn sc x = true) (ho : O.contains x = false) (st : Stored sc env M [x] h h') (sl : Slot h' env x v) (W : Wr sc env M h') (r : VR h M c.B v d) :
    Rd c sc O env M (upd ρ x d) b h' where
  kind := R.kind
  glob := R.glob
  bi := R.bi
  gl := R.gl
  nd := R.nd
  dom := fun y d' e => by
    rcases upd_some e with ⟨rfl, _⟩ | ⟨_, e⟩
    · exact locIn_ne R.nd hx
    · exact R.dom y d' e
  cl := R.cl
  base := fun a o e => st.km a o (fun q => by have := R.m.low a q; rw [e] at this; cases this) (R.base a o e)
  m := R.m.stored st
  vars := fun y d' e => by
    rcases upd_some e with ⟨rfl, rfl⟩ | ⟨q, e⟩
    · exact ⟨v, sl, fun _ => r.stored st, fun q => by rw [ho] at q; cases q⟩
    · obtain ⟨w, h1, h2, h3⟩ := R.vars y d' e
      exact ⟨w, st.sl y w (fun h => q (List.mem_singleton.mp h)) h1, fun q => (h2 q).stored st, fun q => (h3 q).stored st⟩
  box := R.box.stored st
  wr := W
theorem Rd.grow {h h' : Heap} (ok : c.Ok) (R : Rd c sc O env M ρ b h) (k : ∀ a o, h.get? a = some o → h'.get? a = some o) : Rd c sc O env M ρ b h' := R.to ok (KX.of k) (R.box.keep k)
theorem ext_new {h h' : Heap} (x : Heap.ExtBut h.objs.size h h') : ∀ a o, h.get? a = some o → h'.get? a = some o := fun a o e => x a o (Nat.ne_of_lt (Heap.lt_size e)) e
/-- a for's target, or a comprehension's -/
noncomputable def AP (c : Cx) (sc : Scope) (O : List Str) (env : Env) (M : Addr → Prop) (ρ : PEnv) (b : List D) (s : Shared) (Q : Unit → Shared → Prop) (ρ' : PEnv) : Prop :=
  ∀ h' tk' xs, (∀ x ∈ xs, O.contains x = false ∧ locIn sc x = true) → (∀ x, ρ' x = none → ρ x = none) → (∀ x, x ∉ xs → ρ' x = ρ x) → Stored sc env M xs s.heap h' → Rd c sc O env M ρ' b h' → Q () { s with heap := h', toks := tk' }
theorem assign_name {x : Str} {p : Pos} {v : Value} (hx : (locIn sc x && !O.contains x) = true) (R : Rd c sc O env M ρ b s.heap) (r : VR s.heap M c.B v d) (P : AP c sc O env M ρ b s Q (upd ρ x d)) : wpAny (model c.prog c.w) A (assign (.Name x p) env v) Q NoE s := by
  obtain ⟨h1, h2⟩ := (Bool.and_eq_true _ _).mp hx
  have h2 : O.contains x = false := by simpa using h2
  exact PyProof.Rows.assign_Name (store_raw R.kind R.wr h1 fun h' tk' st sl W => P h' tk' [x] (fun y hy => by rw [List.mem_singleton.mp hy]; exact ⟨h2, h1⟩) (fun y e => upd_none e) (fun y hy => upd_ne fun q => hy (List.mem_singleton.mpr q)) st (R.stored h1 h2 st sl W r))
theorem assign_two (ok : c.Ok) (ha : AOk A) {x y : Str} {px py p : Pos} {kk : Nat} {d1 d2 : D} {v : Value} (hx : (locIn sc x && locIn sc y && !O.contains x && !O.contains y && x != y) = true) (R : Rd c sc O env M ρ b s.heap) (r : UR s.heap M c.B v (.tuple [d1, d2]))
    (P : AP c sc O env M ρ b s Q (upd (upd ρ x d1) y d2)) : wpAny (model c.prog c.w) A (assign (.Tuple [.Name x px, .Name y py] kk p) env v) Q NoE s := by
  simp only [Bool.and_eq_true, Bool.not_eq_true'] at hx
  obtain ⟨⟨⟨⟨h1, h2⟩, h3⟩, h4⟩, h5⟩ := hx
  obtain ⟨T, vals, ds, rfl, e2, hT, q⟩ := r
  cases e2
  obtain ⟨v1, v2, rfl, q1, q3⟩ := q.two_inv
  refine wpAny_assign_Tuple ha.hh hT rfl rfl fun h₁ hx₁ => ?_
  have k1 := ext_new hx₁
  have R1 := R.grow ok k1
  have s1 : Stored sc env M [] s.heap h₁ := Stored.of k1
  show wpAny _ A (do holding [v2] (assign (.Name x px) env v1); do holding [] (assign (.Name y py) env v2); pure ()) _ _ _
  refine wpAny_bind (wpAny_holding (PyProof.Rows.assign_Name (store_raw (s := { s with heap := h₁ }) R1.kind R1.wr h1 fun h₂ t₂ s2 l2 W2 => ?_)))
  have R2 := R1.stored (d := d1) h1 h3 s2 l2 W2 (q1.stored s1)
  refine wpAny_bind (wpAny_holding (PyProof.Rows.assign_Name (store_raw (s := { s with heap := h₂, toks := t₂ }) R2.kind R2.wr h2 fun h₃ t₃ s3 l3 W3 => ?_)))
  have R3 := R2.stored (d := d2) h2 h4 s3 l3 W3 ((q3.stored s1).stored s2)
  refine wpAny_pure (P _ _ [y, x] (fun z hz => ?_) (fun z e => upd_none (upd_none e)) (fun z hz => ?_) ((s1.trans s2).trans s3) R3)
  · rcases List.mem_cons.mp hz with rfl | hz
    · exact ⟨h4, h2⟩
    · rw [List.mem_singleton.mp hz]; exact ⟨h3, h1⟩
  · rw [upd_ne (y := z) (x := y) fun q => hz (by rw [q]; exact .head _), upd_ne (y := z) (x := x) fun q => hz (List.mem_cons_of_mem _ (List.mem_singleton.mpr q))]
theorem assign_snd (ok : c.Ok) (ha : AOk A) {tg : Expr} {v : Value} (h : bindT sc O tg d ρ = some ρ') (R : Rd c sc O env M ρ b s.heap) (r : if isTup tg then UR s.heap M c.B v d else VR s.heap M c.B v d)
    (P : AP c sc O env M ρ b s Q ρ') : wpAny (model c.prog c.w) A (assign tg env v) Q NoE s := by
  cases bindT_some h with
  | name x p _ hx => exact assign_name hx R r P
  | tup x y px py p k d1 d2 hx => exact assign_two ok ha hx R r P
end
end Mine

namespace Mine
open PySem PySem.Calls PyProof.Rows
theorem wpE {α : Type} {M : Model} {A : Around} {t : Sem α} {Q : α → Shared → Prop} {E : Value → Shared → Prop} {s : Shared} (h : wpAny M A t Q NoE s) : wpAny M A t Q E s := wpAny_mono h (fun _ _ q => q) fun _ _ q => q.elim
theorem lookup_relabel {env : Env} : ∀ {names : List (Str × NameKind)} {x : Str},
    (names.map fun (n, k) => if (k == NameKind.free && env.scope.kind == .function && env.kindOf n == some .cell) then (n, NameKind.cell) else (n, k)).lookup x =
      (names.lookup x).map fun k => if (k == NameKind.free && env.scope.kind == .function && env.kindOf x == some .cell) then NameKind.cell else k
  | [], x => rfl
  | (n, k) :: r, x => by
    have ih := @lookup_relabel env r x
    show List.lookup x ((if (k == NameKind.free && env.scope.kind == .function && env.kindOf n == some .cell) = true then (n, NameKind.cell) else (n, k)) :: _) = _
    cases hx : x == n with
    | true =>
      have : x = n := eq_of_beq hx
      subst this
      simp only [List.lookup_cons, beq_self_eq_true, Option.map_some]
      split <;> simp [List.lookup_cons]
    | false =>
      simp only [List.lookup_cons, hx]
      rw [← ih]
      split <;> simp [List.lookup_cons, hx]
theorem closure_go {env : Env} : ∀ (l : List (Str × NameKind)) (cs : List (Str × Addr)), (∀ y ∈ l, y.2 = .free → (env.cells.lookup y.1).isSome = true) →
    ∃ cl, (forIn l cs (fun (y : Str × NameKind) r => if (y.2 == .free) = true then (do let a ← cellOf env y.1; pure (ForInStep.yield ((y.1, a) :: r))) else pure (ForInStep.yield r)) : Sem (List (Str × Addr))) = pure cl ∧
      (∀ y ∈ l, y.2 = .free → cl.lookup y.1 = env.cells.lookup y.1) ∧ (∀ x a, cl.lookup x = some a → env.cells.lookup x = some a ∨ cs.lookup x = some a) ∧ (∀ x, cs.lookup x = env.cells.lookup x → cl.lookup x = env.cells.lookup x)
  | [], cs, _ => ⟨cs, by rw [List.forIn_nil], by simp, fun x a h => .inr h, fun x h => h⟩
  | (n, k) :: l, cs, h => by
    by_cases hk : k = .free
    · subst hk
      have h0 := h (n, .free) (by simp) rfl
      obtain ⟨a, ha⟩ := Option.isSome_iff_exists.mp h0
      obtain ⟨cl, e, h1, h2, h3⟩ := closure_go l ((n, a) :: cs) fun y hy => h y (List.mem_cons_of_mem _ hy)
      have hc : cellOf env n = pure a := by unfold cellOf; simp only at ha; rw [ha]
      refine ⟨cl, ?_, fun y hy hf => ?_, fun x a' hx => ?_, fun x hx => h3 x ?_⟩
      · rw [List.forIn_cons]
        simp only [beq_self_eq_true, if_true, hc, pure_bind]
        exact e
      · rcases List.mem_cons.mp hy with rfl | hy
        · exact h3 n (by simp only [List.lookup_cons, beq_self_eq_true]; exact ha.symm)
        · exact h1 y hy hf
      · rcases h2 x a' hx with q | q
        · exact .inl q
        · simp only [List.lookup_cons] at q
          split at q
          · rename_i hb
            cases eq_of_beq hb
            cases q
            exact .inl ha
          · exact .inr q
      · simp only [List.lookup_cons]
        split
        · rename_i hb
          cases eq_of_beq hb
          exact ha.symm
        · exact hx
    · obtain ⟨cl, e, h1, h2, h3⟩ := closure_go l cs fun y hy => h y (List.mem_cons_of_mem _ hy)
      refine ⟨cl, ?_, fun y hy hf => ?_, h2, h3⟩
      · rw [List.forIn_cons]
        have hb : (k == NameKind.free) = false := beq_eq_false_iff_ne.mpr hk
        simp only [hb, Bool.false_eq_true, if_false, pure_bind]
        exact e
      · rcases List.mem_cons.mp hy with rfl | hy
        · exact absurd hf hk
        · exact h1 y hy hf
theorem lookup_mem {x : Str} {k : NameKind} : ∀ {l : List (Str × NameKind)}, l.lookup x = some k → (x, k) ∈ l
  | (n, k') :: l, h => by
    simp only [List.lookup_cons] at h
    split at h
    · rename_i hb; cases eq_of_beq hb; cases h; exact .head _
    · exact .tail _ (lookup_mem h)
section
variable {c : Cx} {A : Around} {sc csc : Scope} {O : List Str} {env : Env} {M M' : Addr → Prop} {ρ : PEnv} {b b₁ : List D} {h h₁ : Heap} {C : Addr} {cl : List (Str × Addr)}
structure CompOk (sc csc : Scope) : Prop where
  kind : csc.kind = .function
  nd : csc.names.lookup ("__debug__" : Str) = none ∧ csc.names.lookup ("__classdict__" : Str) = none
  nocell : ∀ y ∈ csc.names, y.2 ≠ .cell
  fr : ∀ y ∈ csc.names, y.2 = .free → sc.names.lookup y.1 = some .cell
  lo : ∀ y ∈ csc.names, y.2 = .local → csc.names.lookup y.1 = some .local
theorem CompOk.of (hh : compOk sc csc = true) : CompOk sc csc := by
  unfold compOk at hh
  simp only [Bool.and_eq_true, beq_iff_eq, List.all_eq_true, bne_iff_ne, ne_eq, Bool.or_eq_true] at hh
  obtain ⟨⟨⟨h1, h2⟩, h3⟩, h4⟩ := hh
  exact ⟨h1, ⟨h2, h3⟩, fun y hy => (h4 y hy).1.1, fun y hy hf => ((h4 y hy).1.2).resolve_left fun q => q hf, fun y hy hf => ((h4 y hy).2).resolve_left fun q => q hf⟩
theorem closure_snd (ok : CompOk sc csc) (R : Rd c sc O env M ρ b h) : ∃ cl, closureFor csc env = pure cl ∧ (∀ x, csc.names.lookup x = some .free → cl.lookup x = env.cells.lookup x) ∧ (∀ x a, cl.lookup x = some a → env.cells.lookup x = some a) := by
  obtain ⟨cl, e, h1, h2, _⟩ := closure_go (env := env) csc.names [] fun y hy hf => (R.cl _ (ok.fr y hy hf)).2
  refine ⟨cl, ?_, fun x hx => h1 (x, .free) (lookup_mem hx) rfl, fun x a hx => (h2 x a hx).resolve_right (by simp)⟩
  unfold closureFor
  have e2 : ∀ (l : List (Str × NameKind)) (cs : List (Str × Addr)), (forIn l cs (fun x r => match x with
      | (name, kind) => if (kind == NameKind.free) = true then (do let a ← cellOf env name; pure (ForInStep.yield ((name, a) :: r))) else pure (ForInStep.yield r)) : Sem (List (Str × Addr))) =
      forIn l cs (fun (y : Str × NameKind) r => if (y.2 == .free) = true then (do let a ← cellOf env y.1; pure (ForInStep.yield ((y.1, a) :: r))) else pure (ForInStep.yield r)) := fun l cs => rfl
  have e3 : ∀ (m : Sem (List (Str × Addr))), m = pure cl → (m >>= fun cs => pure cs) = pure cl := fun m h => by subst h; rfl
  exact e3 _ ((e2 _ _).trans e)
theorem comp_kind (R : Rd c sc O env M ρ b₁ h₁) (x : Str) : (compEnvC csc cl C env).kindOf x = (csc.names.lookup x).map fun k => if (k == NameKind.free && env.scope.kind == .function && env.kindOf x == some .cell) then NameKind.cell else k := lookup_relabel
theorem comp_loc (hc : CompOk sc csc) (R : Rd c sc O env M ρ b₁ h₁) {x : Str} (hx : locIn csc x = true) : (compEnvC csc cl C env).kindOf x = some .local := by
  have : csc.names.lookup x = some .local := by
    unfold locIn at hx
    split at hx
    · rename_i e; exact e
    · rename_i e; exact absurd rfl (hc.nocell _ (lookup_mem e))
    · cases hx
  rw [comp_kind R, this]; rfl
theorem comp_Xc (hc : CompOk sc csc) (R : Rd c sc O env M ρ b₁ h₁) {a : Addr} (hx : Xc csc (compEnvC csc cl C env) a) : a = C := by
  rcases hx with q | ⟨y, h1, h2, _⟩
  · exact q
  · rw [comp_loc hc R h1] at h2; cases h2
theorem comp_Wr (hc : CompOk sc csc) (R : Rd c sc O env M ρ b₁ h₁) (hcl : ∀ x a, cl.lookup x = some a → env.cells.lookup x = some a) (k : KX c.B h₁ h)
    (hM : ∀ a, M a → M' a) (hC : M' C) (hn : ∃ m, h.Ns C m) : Wr csc (compEnvC csc cl C env) M' h where
  ns := hn
  mL := hC
  cells := fun y a e => by
    have W' := R.wr.keep k R.box
    obtain ⟨q, hm⟩ := W'.cells y a (hcl y a e)
    exact ⟨q, hM _ hm⟩
  apart := fun x y a h1 h2 => R.wr.apart x y a (hcl _ _ h1) (hcl _ _ h2)
  loc := fun y hy => .inl (comp_loc hc R hy)
theorem comp_Rd (ok : c.Ok) (hc : CompOk sc csc) (R : Rd c sc O env M ρ b₁ h₁) (hcl : ∀ x, csc.names.lookup x = some .free → cl.lookup x = env.cells.lookup x) (k : KX c.B h₁ h) (x : BoxR c h b)
    (hM : ∀ a, M a → M' a) (hM' : ∀ a, M' a → M a ∨ h₁.get? a = none) (live : ∀ a, M' a → ∃ o, h.get? a = some o)
    (hcl2 : ∀ x a, cl.lookup x = some a → env.cells.lookup x = some a) (hC : M' C) (hn : ∃ m, h.Ns C m) : Rd c csc O (compEnvC csc cl C env) M' (free csc ρ) b h where
  kind := hc.kind
  glob := R.glob
  bi := R.bi
  gl := fun y e => by rw [comp_kind R, e]; rfl
  nd := hc.nd
  dom := fun y d e => by
    unfold free at e
    split at e
    · exact R.dom y d e
    · cases e
  cl := fun y e => absurd rfl (hc.nocell _ (lookup_mem e))
  base := (R.to ok k x).base
  m := ⟨hM _ R.m.box, live, fun a hm => (hM' a hm).elim (R.m.low a) fun q => by
    cases e : c.hT.get? a with
    | none => rfl
    | some o => rw [R.base _ _ e] at q; cases q⟩
  vars := fun y d e => by
    unfold free at e
    split at e
    · rename_i hf
      obtain ⟨v, h1, h2, h3⟩ := R.vars y d e
      obtain ⟨hkc, _⟩ := R.cl y (hc.fr (y, .free) (lookup_mem hf) rfl)
      have h1' := h1.keep R.box.seq k
      have vm : ∀ {v d}, VR h₁ M c.B v d → VR h M' c.B v d := fun q => q.mono fun a o hm e => ⟨fun q => (hM' a q).elim hm fun q => (by rw [e] at q; cases q), k a o (fun q => hm (q ▸ R.m.box)) e⟩
      refine ⟨v, ?_, fun q => vm (h2 q), fun q => ?_⟩
      · rcases h1' with ⟨q, _⟩ | ⟨_, a, ha, hv⟩
        · rw [hkc] at q; cases q
        · refine .inr ⟨.inl ?_, a, (hcl y hf).trans ha, hv⟩
          rw [comp_kind R, hf]
          simp [hkc, R.kind]
      · obtain ⟨a, vs, n, ds, e1, e2, e3, e4, e5, e6⟩ := h3 q
        exact ⟨a, vs, n, ds, e1, e2, k _ _ e6 e3, e4.mono fun a o hm e => ⟨fun q => (hM' a q).elim hm fun q => (by rw [e] at q; cases q), k a o (fun q => hm (q ▸ R.m.box)) e⟩, e5, e6⟩
    · cases e
  box := x
  wr := comp_Wr hc R hcl2 k hM hC hn
end
section
variable {prog : Program} {w : World} {A : Around} {R : Result → Shared → Prop} {s : Shared}
theorem compLoop_go {elt target iter : Expr} {ifs : List Expr} {scope : Scope} {pos : Pos} {it acc : Value} {env : Env} (I : Nat → Shared → Prop)
    (turn : ∀ n s, I n s → wpAny (model prog w) A (pyNext it) (fun r s₁ => match r with
      | none => R (.ok .next) s₁
      | some v => wpAny (model prog w) A (letOwnedTupleGo target it v) (fun _ s₁' => wpAny (model prog w) A (assign target env v) (fun _ s₂ =>
          wpAny (model prog w) A (forIn ifs true fun c r => if r = true then do let ok ← isTrue c env (eval c env); pure (ForInStep.yield ok) else pure (ForInStep.yield r)) (fun ok s₃ =>
            if ok = true then wpAny (model prog w) A (eval elt env) (fun x s₄ =>
              wpAny (model prog w) A (call (.builtin "list.append") [acc, x]) (fun _ s₅ => ∃ m, m < n ∧ I m s₅) NoE s₄) NoE s₃
            else ∃ m, m < n ∧ I m s₃) NoE s₂) NoE s₁') NoE s₁) NoE s)
    (n : Nat) (h : I n s) :
    codeAny (model prog w) A (.compLoop (.ListComp elt [⟨target, iter, ifs, 0⟩] scope pos) 0 it acc env) R s := by
  refine codeAny_loop rfl I (fun n s hI => ?_) n h
  show wpAny _ A ((compTurn (.ListComp elt [⟨target, iter, ifs, 0⟩] scope pos) 0 it acc env).onRaise (fun x => do noteFrame x env; theTreesLotGoes x)) _ _ s
  refine wpAny_noted (wpE ?_)
  rw [compTurn_list]
  refine wpAny_bind (wpAny_standAt (wpAny_bind (wpAny_mono (turn n s hI) (fun r s₁ h₁ => ?_) fun _ _ h' => h')))
  cases r with
  | none => exact wpAny_pure h₁
  | some v =>
    refine wpAny_bind (wpAny_mono h₁ (fun _ s₁' h₁' => ?_) fun _ _ h' => h')
    refine wpAny_bind (wpAny_mono h₁' (fun _ s₂ h₂ => wpAny_bind (wpAny_mono h₂ (fun ok s₃ h₃ => ?_) fun _ _ h' => h')) fun _ _ h' => h')
    cases ok with
    | false => exact wpAny_pure ⟨rfl, h₃⟩
    | true =>
      exact wpAny_bind (wpAny_bind (wpAny_mono h₃ (fun x s₄ h₄ => wpAny_bind (wpAny_mono h₄ (fun _ s₅ h₅ => wpAny_pure (wpAny_pure ⟨rfl, h₅⟩)) fun _ _ h' => h')) fun _ _ h' => h'))
end
end Mine

namespace Mine
open PySem PySem.Calls PyProof.Rows
section
variable (c : Cx) (A : Around) (csc : Scope) (O : List Str)
noncomputable def TF (ifs : List Expr) (ρ : PEnv) (b : List D) (P : Bool → List D → Prop) : Prop := match ifs with
  | [] => P true b
  | [t] => TS c A csc O t ρ b P
  | _ => False
/-- the turns of a comprehension -/
noncomputable def CL (tg elt : Expr) (ifs : List Expr) (ρ : PEnv) : List D → List D → (List D → List D → Prop) → Prop
  | [], b, P => P [] b
  | d :: ds, b, P => Op (bindT csc O tg d ρ) fun ρ' => TF c A csc O ifs ρ' b fun t b₁ => Br t (EV c A csc O elt ρ' b₁ fun r b₂ => CL tg elt ifs ρ ds b₂ fun rs b₃ => P (r :: rs) b₃) (CL tg elt ifs ρ ds b₁ P)
end
section
variable {c : Cx} {A : Around}
/-- what a comprehension hands on -/
structure CompEnd (c : Cx) (s : Shared) (M : Addr → Prop) (ds : List D) (b' : List D) (C Dd : Addr) (h₁ : Heap) : Prop where
  ns : ∃ m, h₁.Ns C m
  C0 : s.heap.get? C = none
  D0 : s.heap.get? Dd = none
  CM : ¬ M C
  k : KX c.B s.heap h₁
  x : BoxR c h₁ b'
  l : ∃ vs n, h₁.get? Dd = some { cls := .type "list", data := .seq (List.toArray vs) n } ∧ VRs h₁ M c.B vs ds ∧ vs.length ≤ lim ∧ VRs h₁ (fun a => M a ∨ a = C ∨ a = Dd) c.B vs ds
theorem comp_core (ok : c.Ok) (ha : AOk A) {sc csc : Scope} {O : List Str} {elt tg iter : Expr} {ifs : List Expr} {pos : Pos} {ρ : PEnv} {b : List D} {PL : List D → List D → Prop} {env : Env} {M : Addr → Prop} {s : Shared} {Q : Value → Shared → Prop}
    (hcc : (compOk sc csc && tgOk iter tg) = true) (hset : ∀ env x, foldedSetIterable iter env x = pure x) (hEI : EI c A sc O iter ρ b fun items b₁ => CL c A csc O tg elt ifs (free csc ρ) items b₁ PL) (R : Rd c sc O env M ρ b s.heap) (use : Option (Value → Sem Unit)) (pos' : Pos)
    (P : ∀ ds b', PL ds b' → ∀ h₁ tk₁ C Dd, CompEnd c s M ds b' C Dd h₁ → compPost (model c.prog c.w) A NoE use Q (.ref Dd) C (.ok .next) { s with heap := h₁, toks := tk₁ }) :
    wpAny (model c.prog c.w) A (comprehension (.ListComp elt [⟨tg, iter, ifs, 0⟩] csc pos) csc env pos' (newList []) false (eval iter env) use) Q NoE s := by
  simp only [Bool.and_eq_true] at hcc
  obtain ⟨hco, htg⟩ := hcc
  have hc := CompOk.of hco
  obtain ⟨cl, hclos, hcl1, hcl2⟩ := closure_snd (csc := csc) hc R
  refine wpAny_comprehension_free (use := use) rfl (hset env) hclos hc.kind hc.lo ?_
  refine hEI ok ha env M s _ tg htg R fun items b1 h2 hE tkE I fp wr Pv Md St kE xE it => ?_
  refine wpAny_newObj_type (wpAny_newFunctionEnv hc.nocell (by intro y hy; simp at hy) (fun hF hnsF hsbF => ?_) hc.kind)
  dsimp only at hnsF hsbF ⊢
  generalize hH2 : hE.push { cls := .type "list", dict := none, data := .seq ([] : List Value).toArray } = H2 at hnsF hsbF ⊢
  have hC : H2.objs.size = hE.objs.size + 1 := by rw [← hH2, Heap.size_push]
  have hDC : hE.objs.size ≠ H2.objs.size := by rw [hC]; exact Nat.ne_of_lt (Nat.lt_succ_self _)
  have below : ∀ b, b < hE.objs.size → b ≠ H2.objs.size ∧ b ≠ hE.objs.size := fun b hb => ⟨by rw [hC]; exact Nat.ne_of_lt (Nat.lt_succ_of_lt hb), Nat.ne_of_lt hb⟩
  have old : ∀ b o, hE.get? b = some o → hF.get? b = some o := fun b o e => hsbF.extBut b o (below b (Heap.lt_size e)).1 (Heap.get?_push_of_some _ (hH2 ▸ Heap.get?_push_of_some _ e))
  have hacc : hF.PlainList hE.objs.size #[] := ⟨_, hsbF.extBut _ _ hDC (Heap.get?_push_of_some _ (hH2 ▸ Heap.get?_push_size _ rfl))⟩
  have freshE : ∀ a, hE.objs.size ≤ a → hE.get? a = none := fun a ha => by
    cases e : hE.get? a with
    | none => rfl
    | some o' => exact absurd (Heap.lt_size e) (Nat.not_lt.mpr ha)
  have hBE : ∃ o, hE.get? c.B = some o := by obtain ⟨T, xs, n, e⟩ := xE.seq; exact ⟨_, e⟩
  have fresh0 : ∀ a, hE.get? a = none → s.heap.get? a = none := fun a ha => by
    cases e : s.heap.get? a with
    | none => rfl
    | some o =>
      by_cases q : a = c.B
      · obtain ⟨o', e'⟩ := hBE; rw [q, e'] at ha; cases ha
      · rw [kE _ _ q e] at ha; cases ha
  have hD0 : hE.get? hE.objs.size = none := freshE _ (Nat.le_refl _)
  have hC0 : hE.get? H2.objs.size = none := freshE _ (by rw [hC]; exact Nat.le_succ _)
  generalize hE.objs.size = Dd at hacc hDC hD0 ⊢
  generalize H2.objs.size = Cc at hnsF hsbF hDC hC0 ⊢
  -- the places that may be turned in here
  let M' : Addr → Prop := fun a => M a ∨ a = Cc ∨ a = Dd ∨ a ∈ wr
  have hM : ∀ a, M a → M' a := fun a h => .inl h
  have hM' : ∀ a, M' a → M a ∨ s.heap.get? a = none := fun a h => by
    rcases h with h | rfl | rfl | h
    · exact .inl h
    · exact .inr (fresh0 _ hC0)
    · exact .inr (fresh0 _ hD0)
    · exact .inr (it.new a h)
  have hME : ∀ a, M' a → M a ∨ a ∈ wr ∨ hE.get? a = none := fun a h => by
    rcases h with h | rfl | rfl | h
    · exact .inl h
    · exact .inr (.inr hC0)
    · exact .inr (.inr hD0)
    · exact .inr (.inl h)
  have hBwr : c.B ∉ wr := fun q => by
    have := it.new _ q
    obtain ⟨T, xs, n, e⟩ := R.box.seq
    rw [e] at this; cases this
  have hDwr : Dd ∉ wr := fun q => by
    obtain ⟨o, vs, e, _⟩ := it.kind 0 _ it.st _ q
    rw [hD0] at e; cases e
  have hCwr : Cc ∉ wr := fun q => by
    obtain ⟨o, vs, e, _⟩ := it.kind 0 _ it.st _ q
    rw [hC0] at e; cases e
  -- the loop
  let J : Nat → List D → List D → Heap → Prop := fun i done bi h => St i h ∧ (∀ a o, a ≠ c.B → a ∉ wr → hE.get? a = some o → h.get? a = some o) ∧ BoxR c h bi ∧
    (∃ vs nn, h.get? Dd = some { cls := .type "list", data := .seq (List.toArray vs) nn } ∧ VRs h M' c.B vs done ∧ vs.length ≤ i) ∧ (∃ m, h.Ns Cc m)
  have frame : ∀ {i done bi h}, J i done bi h → KX c.B s.heap h ∧ (∀ a, M' a → ∃ o, h.get? a = some o) := by
    intro i done bi h hJ
    obtain ⟨st, kk, xx, ⟨vs, nn, hd, _⟩, ⟨m, hn⟩⟩ := hJ
    refine ⟨fun a o q e => kk a o q (fun q' => by rw [it.new _ q'] at e; cases e) (kE _ _ q e), fun a hm => ?_⟩
    by_cases q : a = c.B
    · obtain ⟨T, xs, n, e⟩ := xx.seq; exact ⟨_, q ▸ e⟩
    rcases hm with hm | rfl | rfl | hm
    · obtain ⟨o, e⟩ := R.m.live a hm
      exact ⟨o, kk a o q (fun q' => by rw [it.new _ q'] at e; cases e) (kE _ _ q e)⟩
    · obtain ⟨o, _, _, e, _⟩ := hn; exact ⟨o, e⟩
    · exact ⟨_, hd⟩
    · obtain ⟨o, vs, e, _⟩ := it.kind _ _ st _ hm; exact ⟨o, e⟩
  have cRd : ∀ {i done bi h}, J i done bi h → Rd c csc O (compEnvC csc cl Cc env) M' (free csc ρ) bi h := fun hJ =>
    comp_Rd ok hc R hcl1 (frame hJ).1 hJ.2.2.1 hM hM' (frame hJ).2 hcl2 (.inr (.inl rfl)) hJ.2.2.2.2
  have loop : codeAny (model c.prog c.w) A (.compLoop (.ListComp elt [⟨tg, iter, ifs, 0⟩] csc pos) 0 (.ref I) (.ref Dd) (compEnvC csc cl Cc env)) (compPost (model c.prog c.w) A NoE use Q (.ref Dd) Cc)
      { s with heap := hF, toks := tkE + ([] : List (Str × Value)).length } := by
    refine compLoop_go (fun k s' => ∃ h tk i done bi, s' = { s with heap := h, toks := tk } ∧ J i done bi h ∧ CL c A csc O tg elt ifs (free csc ρ) (items.drop i) bi (fun rest b₂ => PL (done ++ rest) b₂) ∧ i ≤ items.length ∧ k = items.length + 1 - i) ?_ (items.length + 1)
      ⟨hF, _, 0, [], b1, rfl, ⟨?_, fun a o q1 q2 e => old a o e, xE.keep old, ⟨[], _, hacc.choose_spec, .nil, Nat.le_refl _⟩, ⟨_, hnsF⟩⟩, by simpa using h2, Nat.zero_le _, rfl⟩
    · rintro k s' ⟨h, tk, i, done, bi, rfl, hJ, hgo, hi, rfl⟩
      obtain ⟨st, kk, xx, hacc', hns'⟩ := id hJ
      -- what a step of the iterator keeps
      have step : ∀ {h' : Heap} {j : Nat}, St j h' → (∀ a o, a ∉ wr → h.get? a = some o → h'.get? a = some o) → J j done bi h' ∨ ¬ (i ≤ j) := by
        intro h' j st' k'
        by_cases hij : i ≤ j
        · refine .inl ⟨st', fun a o q1 q2 e => k' a o q2 (kk a o q1 q2 e), ?_, ?_, ?_⟩
          · obtain ⟨i0, k0, t, u, n0, e1, e2⟩ := xx
            exact ⟨i0, k0, t, u, n0, e1, k' _ _ hBwr e2⟩
          · obtain ⟨vs, nn, e, q, hl⟩ := hacc'
            exact ⟨vs, nn, k' _ _ hDwr e, q.mono fun a o hm e => ⟨hm, k' a o (fun q => hm (.inr (.inr (.inr q)))) e⟩, Nat.le_trans hl hij⟩
          · obtain ⟨m, hn⟩ := hns'; exact ⟨m, hn.at' fun o e => k' _ o hCwr e⟩
        · exact .inr hij
      by_cases hlt : i < items.length
      · obtain ⟨d0, hd0⟩ : ∃ d0, items[i]? = some d0 := ⟨_, List.getElem?_eq_getElem hlt⟩
        have hdrop : items.drop i = d0 :: items.drop (i + 1) := by
          rw [List.drop_eq_getElem_cons hlt]
          congr 1
          rw [List.getElem?_eq_getElem hlt] at hd0
          exact Option.some.inj hd0
        rw [hdrop] at hgo
        obtain ⟨ρ', hb, ht⟩ := hgo
        refine it.K.item i _ _ _ hlt st fun v h₁ tk₁ hMd hk₁ => ?_
        refine it.K.go i v _ _ _ hMd fun h₂ hP hst₂ hk₂ => ?_
        have k₂ : ∀ a o, a ∉ wr → h.get? a = some o → h₂.get? a = some o := fun a o q e => hk₂ a o q (hk₁ a o q e)
        have J₂ : J (i + 1) done bi h₂ := (step hst₂ k₂).resolve_right fun q => q (Nat.le_succ _)
        refine assign_snd (s := { s with heap := h₂, toks := tk₁ }) ok ha hb (cRd J₂) (it.val i v h₂ d0 M' hd0 hP (fun a o hm hw e => J₂.2.1 a o (fun q => hm (q ▸ R.m.box)) hw e) hME) fun h₃ t₃ xs₃ _ _ _ stA R₃ => ?_
        have k₃ : ∀ a o, a ≠ Cc → h₂.get? a = some o → h₃.get? a = some o := fun a o q e => stA.k a o (fun q' => q (comp_Xc hc R q')) e
        -- what holds as long as only the box is turned
        have Jgo : ∀ {h' : Heap} {bj : List D}, KX c.B h₃ h' → BoxR c h' bj → J (i + 1) done bj h' := by
          intro h' bj kx x'
          obtain ⟨st2, kk2, xx2, ⟨vs, nn, e, q, hl⟩, hns2⟩ := id J₂
          have kcomb : ∀ a o, a ≠ c.B → a ≠ Cc → h₂.get? a = some o → h'.get? a = some o := fun a o q1 q2 e => kx a o q1 (k₃ a o q2 e)
          have hDB : Dd ≠ c.B := fun q => by obtain ⟨o, e⟩ := hBE; rw [← q, hD0] at e; cases e
          refine ⟨?_, fun a o q1 q2 e => kcomb a o q1 (fun q => by rw [q, hC0] at e; cases e) (kk2 a o q1 q2 e), x', ⟨vs, nn, kcomb _ _ hDB hDC e, q.mono fun a o hm e => ⟨hm, kcomb a o (fun q => hm (q ▸ hM _ R.m.box)) (fun q => hm (.inr (.inl q))) e⟩, hl⟩, ?_⟩
          · refine it.K.frame _ _ _ st2 fun a ha o e => ?_
            rcases it.fix a ha with q | ⟨q, o', e'⟩
            · refine kcomb a o (fun q' => hBwr (q' ▸ q)) (fun q' => hCwr (q' ▸ q)) e
            · exact kcomb a o (fun q' => q (q' ▸ R.m.box)) (fun q' => by rw [q', hC0] at e'; cases e') e
          · obtain ⟨m, hn⟩ := R₃.wr.ns
            obtain ⟨T, xs, n0, e0⟩ := R₃.box.seq
            obtain ⟨o', es, ep, ho', hd'⟩ := Ns.kind hn
            exact ⟨m, hn.at' fun o e => kx _ o (ne_of_kinds ho' e0 (by intro ys q; rw [hd']; intro h; cases h)) e⟩
        have test : wpAny (model c.prog c.w) A (forIn ifs true fun c_1 r => if r = true then do let ok ← isTrue c_1 (compEnvC csc cl Cc env) (eval c_1 (compEnvC csc cl Cc env)); pure (ForInStep.yield ok) else pure (ForInStep.yield r))
            (fun okk s₃ => ∃ h' tk' bt, s₃ = { s with heap := h', toks := tk' } ∧ KX c.B h₃ h' ∧ BoxR c h' bt ∧ Br okk (EV c A csc O elt ρ' bt fun r b₂ => CL c A csc O tg elt ifs (free csc ρ) (items.drop (i + 1)) b₂ fun rs b₃ => PL (done ++ r :: rs) b₃) (CL c A csc O tg elt ifs (free csc ρ) (items.drop (i + 1)) bt fun rest b₂ => PL (done ++ rest) b₂)) NoE { s with heap := h₃, toks := t₃ } := by
          match ifs, ht with
          | [], ht => exact wpAny_tests_nil ⟨_, _, _, rfl, KX.refl, R₃.box, ht⟩
          | [t], ht =>
            exact wpAny_tests_one (ht ok ha _ _ { s with heap := h₃, toks := t₃ } _ R₃ fun t1 bt hP h' tk' k x => ⟨_, _, _, rfl, k, x, hP⟩)
          | _ :: _ :: _, ht => exact ht.elim
        refine wpAny_mono test (fun okk s₃ hq => ?_) fun _ _ q => q
        obtain ⟨h₄, t₄, bt, rfl, k₄, x₄, hel⟩ := hq
        cases okk with
        | true =>
          rw [if_pos rfl]
          refine hel.1 rfl ok ha _ M' { s with heap := h₄, toks := t₄ } _ (R₃.to ok k₄ x₄) fun de be hgo' y h₅ t₅ k₅ x₅ r₅ _ => ?_
          have J₅ := Jgo (k₄.trans k₅) x₅
          obtain ⟨st5, kk5, xx5, ⟨vs, nn, e5, q5, hl5⟩, hns5⟩ := id J₅
          have hsm := it.small
          refine wpAny_list_append_plain (s := { s with heap := h₅, toks := t₅ }) ⟨nn, e5⟩ (fun h₆ hl₆ hs₆ => ?_) (Nat.le_trans (by simp; exact o38 hlt hl5 hsm) lim_le)
          refine ⟨items.length + 1 - (i + 1), by exact o36 hlt, h₆, t₅, i + 1, done ++ [de], be, rfl, ⟨?_, ?_, ?_, ?_, ?_⟩, by simpa using hgo', hlt, rfl⟩
          · refine it.K.frame _ _ _ st5 fun a ha o e => ?_
            rcases it.fix a ha with q | ⟨q, o', e'⟩
            · exact hs₆.extBut a o (fun q' => hDwr (q' ▸ q)) e
            · exact hs₆.extBut a o (fun q' => by rw [q', hD0] at e'; cases e') e
          · exact fun a o q1 q2 e => hs₆.extBut a o (fun q => by rw [q, hD0] at e; cases e) (kk5 a o q1 q2 e)
          · obtain ⟨i0, k0, t, u, n0, e1, e2⟩ := xx5
            exact ⟨i0, k0, t, u, n0, e1, hs₆.extBut _ _ (fun q => by obtain ⟨o, e⟩ := hBE; rw [q, hD0] at e; cases e) e2⟩
          · obtain ⟨n6, e6⟩ := hl₆
            refine ⟨vs ++ [y], n6, by simpa using e6, (q5.append (.cons r₅ .nil)).mono fun a o hm e => ⟨hm, hs₆.extBut a o (fun q => hm (.inr (.inr (.inl q)))) e⟩, ?_⟩
            obtain ⟨vs0, _, _, q0, hl0⟩ := hacc'
            have e1 := q0.length
            have e2 := q5.length
            rw [List.length_append, List.length_singleton]
            exact o37 hl0 e1 e2
          · obtain ⟨m, hn⟩ := hns5
            exact ⟨m, hn.sameBut hs₆ (Ne.symm hDC)⟩
        | false =>
          rw [if_neg (by decide)]
          exact ⟨items.length + 1 - (i + 1), by exact o36 hlt, h₄, t₄, i + 1, done, _, rfl, Jgo k₄ x₄, hel.2 rfl, hlt, rfl⟩
      · have hin : i = items.length := by exact o35 hi hlt
        subst hin
        refine it.K.done _ _ _ st fun h₁ tk₁ hk₁ => ?_
        rw [List.drop_length] at hgo
        have hgo : PL (done ++ []) bi := hgo
        rw [List.append_nil] at hgo
        obtain ⟨m, hn⟩ := hns'
        obtain ⟨vs, nn, eD, q, hl⟩ := hacc'
        have hsm := it.small
        have k9 : ∀ a o, a ∉ wr → h.get? a = some o → h₁.get? a = some o := fun a o q1 e => hk₁ a o q1 e
        have e9 := k9 _ _ hDwr eD
        have qA : VRs h₁ (fun a => M a ∨ a = Cc ∨ a = Dd) c.B vs done := q.mono fun a o hm e => ⟨fun q => hm (q.elim (fun q => hM _ q) fun q => q.elim (fun q => .inr (.inl q)) fun q => .inr (.inr (.inl q))), k9 a o (fun q => hm (.inr (.inr (.inr q)))) e⟩
        have q9 : VRs h₁ M c.B vs done := q.mono fun a o hm e => ⟨fun q => hm (hM _ q), k9 a o (fun q => hm (.inr (.inr (.inr q)))) e⟩
        have hlim : vs.length ≤ lim := by exact o34 hl hsm
        refine P _ _ hgo h₁ tk₁ Cc Dd ⟨⟨m, hn.at' fun o e => hk₁ _ o hCwr e⟩, fresh0 _ hC0, fresh0 _ hD0, fun q => ?_, fun a o q1 e => ?_, ?_, ⟨vs, nn, e9, q9, hlim, qA⟩⟩
        · obtain ⟨o, e⟩ := R.m.live _ q
          rw [fresh0 _ hC0] at e; cases e
        · have eE := kE a o q1 e
          have hw : a ∉ wr := fun q' => by rw [it.new _ q'] at e; cases e
          exact k9 a o hw (kk a o q1 hw eE)
        · obtain ⟨i0, k0, t, u, n0, e1, e2⟩ := xx
          exact ⟨i0, k0, t, u, n0, e1, k9 _ _ hBwr e2⟩
    · exact it.K.frame _ _ _ it.st fun a ha o e => old a o e
  exact codeAny_compStart_list loop (it.self 0 _ _ _ (it.K.frame _ _ _ it.st fun a ha o e => old a o e) loop)
theorem r_comp {sc csc : Scope} {O : List Str} {elt tg iter : Expr} {ifs : List Expr} {pos : Pos} {ρ : PEnv} {b : List D} {P : D → List D → Prop} (hcc : (compOk sc csc && tgOk iter tg) = true) (hset : ∀ env x, foldedSetIterable iter env x = pure x)
    (h : EI c A sc O iter ρ b fun items b₁ => CL c A csc O tg elt ifs (free csc ρ) items b₁ fun ds b₂ => P (.list ds) b₂) : EV c A sc O (.ListComp elt [⟨tg, iter, ifs, 0⟩] csc pos) ρ b P := fun ok ha env M s Q R g => by
  have q := comp_core ok ha (s := s) (Q := Q) (pos := pos) hcc hset h R none (firstIterPos [⟨tg, iter, ifs, 0⟩] pos) fun ds b' hP h₁ tk₁ C Dd E => by
    obtain ⟨m, hn⟩ := E.ns
    refine ⟨m, hn, fun h₉ hs₉ => ?_⟩
    have hCB : c.B ≠ C := fun q => by
      obtain ⟨T, xs, n, e⟩ := R.box.seq
      rw [q, E.C0] at e; cases e
    obtain ⟨vs, nn, e1, q1, hl, q2⟩ := E.l
    have hCD : Dd ≠ C := fun q => by
      obtain ⟨o, _, _, e, hd, _⟩ := hn
      rw [← q, e1] at e; cases Option.some.inj e; cases hd
    have k9 : ∀ a o, a ≠ C → h₁.get? a = some o → h₉.get? a = some o := fun a o q e => hs₉.extBut a o q e
    have hMD : ¬ M Dd := fun q => by
      obtain ⟨o, e⟩ := R.m.live _ q
      rw [E.D0] at e; cases e
    have e9 := k9 _ _ hCD e1
    have q9 : VRs h₉ (fun b => M b ∨ b = Dd) c.B vs ds := q2.mono fun a o hm e => ⟨fun q => hm (q.imp id fun q => .inr q), k9 a o (fun q => hm (.inr (.inl q))) e⟩
    refine g _ _ hP (.ref Dd) h₉ tk₁ (fun a o q e => k9 a o (fun q => by rw [q, E.C0] at e; cases e) (E.k a o q e)) ?_ (.list hMD ⟨_, e9, rfl, nn, rfl⟩ hl (q9.mono fun a o hm e => ⟨fun q => hm (.inl q), e⟩)) fun _ ds' e => ?_
    · obtain ⟨i0, k0, t, u, n0, f1, f2⟩ := E.x
      exact ⟨i0, k0, t, u, n0, f1, k9 _ _ hCB f2⟩
    · cases e
      exact ⟨Dd, vs, nn, rfl, E.D0, e9, q9, hl⟩
  rw [eval_ListComp]
  exact q
end
end Mine

namespace Mine
open PySem PySem.Calls PyProof.Rows
inductive Fl where
  | next
  | ret (d : D)
/-- all that may be turned: what is given, and the def's own lists -/
noncomputable def Mo (O : List Str) (Mx : Addr → Prop) (oa : Str → Addr) (ρ : PEnv) : Addr → Prop := fun a => Mx a ∨ ∃ x, O.contains x = true ∧ ρ x ≠ none ∧ oa x = a
structure Sx (c : Cx) (sc : Scope) (O : List Str) (env : Env) (Mx : Addr → Prop) (oa : Str → Addr) (ρ : PEnv) (b : List D) (h : Heap) : Prop where
  rd : Rd c sc O env (Mo O Mx oa ρ) ρ b h
  own : ∀ x d, O.contains x = true → ρ x = some d → Slot h env x (.ref (oa x)) ∧ ∃ vs n ds, d = .list ds ∧ h.get? (oa x) = some { cls := .type "list", data := .seq (List.toArray vs) n } ∧
    VRs h (Mo O Mx oa ρ) c.B vs ds ∧ vs.length ≤ lim
  nx : ∀ x, O.contains x = true → ρ x ≠ none → ¬ Mx (oa x)
  inj : ∀ x y, O.contains x = true → O.contains y = true → ρ x ≠ none → ρ y ≠ none → oa x = oa y → x = y
  mB : Mx c.B
  mL : Mx env.locals
  mC : ∀ x a, env.cells.lookup x = some a → Mx a
structure KS (c : Cx) (sc : Scope) (O : List Str) (env : Env) (ρ : PEnv) (oa : Str → Addr) (h h' : Heap) : Prop where
  kp : ∀ a o, a ≠ c.B → ¬ Xc sc env a → (∀ x, O.contains x = true → ρ x ≠ none → oa x ≠ a) → h.get? a = some o → h'.get? a = some o
  al : ∀ a o, h.get? a = some o → ∃ o', h'.get? a = some o'
/-- the own lists are the old ones or new ones -/
noncomputable def OwnEv (O : List Str) (h : Heap) (ρ : PEnv) (oa : Str → Addr) (ρ' : PEnv) (oa' : Str → Addr) : Prop :=
  ∀ x, O.contains x = true → ρ' x ≠ none → (∃ y, O.contains y = true ∧ ρ y ≠ none ∧ oa' x = oa y) ∨ h.get? (oa' x) = none
noncomputable def StOut (c : Cx) (sc : Scope) (O : List Str) (env : Env) (Mx : Addr → Prop) (oa : Str → Addr) (ρ : PEnv) (h : Heap) (fl : Fl) (ρ' : PEnv) (b' : List D) (flv : Flow) (h' : Heap) : Prop :=
  KS c sc O env ρ oa h h' ∧ match fl with
    | .next => flv = .next ∧ ∃ oa', OwnEv O h ρ oa ρ' oa' ∧ Sx c sc O env Mx oa' ρ' b' h'
    | .ret d => ∃ v, flv = .ret v ∧ VR h' Mx c.B v d ∧ BoxR c h' b'
section
variable {c : Cx} {A : Around} {sc : Scope} {O : List Str} {env : Env} {Mx : Addr → Prop} {oa oa' oa'' : Str → Addr} {ρ ρ' ρ'' : PEnv} {b b' : List D} {d : D} {h h' h'' : Heap} {x : Str} {v : Value}
theorem OwnEv.refl : OwnEv O h ρ oa ρ oa := fun x h1 h2 => .inl ⟨x, h1, h2, rfl⟩
theorem KS.refl : KS c sc O env ρ oa h h := ⟨fun _ _ _ _ _ e => e, fun a o e => ⟨o, e⟩⟩
theorem KS.trans (k : KS c sc O env ρ oa h h') (k' : KS c sc O env ρ' oa' h' h'') (ev : OwnEv O h ρ oa ρ' oa') : KS c sc O env ρ oa h h'' where
  kp := fun a o h1 h2 h3 e => k'.kp a o h1 h2 (fun x hx hr q => by
    rcases ev x hx hr with ⟨y, hy1, hy2, hy3⟩ | hn
    · exact h3 y hy1 hy2 (hy3.symm.trans q)
    · rw [q, e] at hn; cases hn) (k.kp a o h1 h2 h3 e)
  al := fun a o e => let ⟨o', e'⟩ := k.al a o e; k'.al a o' e'
theorem OwnEv.trans (ev : OwnEv O h ρ oa ρ' oa') (ev' : OwnEv O h' ρ' oa' ρ'' oa'') (k : ∀ a o, h.get? a = some o → ∃ o', h'.get? a = some o') : OwnEv O h ρ oa ρ'' oa'' := fun x hx hr => by
  rcases ev' x hx hr with ⟨y, h1, h2, h3⟩ | hn
  · rcases ev y h1 h2 with ⟨z, g1, g2, g3⟩ | hn
    · exact .inl ⟨z, g1, g2, h3.trans g3⟩
    · exact .inr (h3 ▸ hn)
  · refine .inr ?_
    cases e : h.get? (oa'' x) with
    | none => rfl
    | some o => obtain ⟨o', e'⟩ := k _ _ e; rw [e'] at hn; cases hn
theorem KS.ofX (k : KX c.B h h') (y : BoxR c h' b') : KS c sc O env ρ oa h h' where
  kp := fun a o h1 _ _ e => k a o h1 e
  al := fun a o e => by
    by_cases q : a = c.B
    · obtain ⟨T, xs, n, e'⟩ := y.seq; exact ⟨_, q ▸ e'⟩
    · exact ⟨o, k a o q e⟩
theorem KS.ofStored {M : Addr → Prop} {xs : List Str} (st : Stored sc env M xs h h') : KS c sc O env ρ oa h h' := ⟨fun a o _ h2 _ e => st.k a o h2 e, st.al⟩
/-- through an expression -/
theorem Sx.expr (ok : c.Ok) (S : Sx c sc O env Mx oa ρ b h) (k : KX c.B h h') (y : BoxR c h' b') : Sx c sc O env Mx oa ρ b' h' where
  rd := S.rd.to ok k y
  own := fun x d hx e => by
    obtain ⟨sl, vs, n, ds, rfl, h1, h2, h3⟩ := S.own x d hx e
    have hne : oa x ≠ c.B := fun q => S.nx x hx (by rw [e]; simp) (q ▸ S.mB)
    exact ⟨sl.keep S.rd.box.seq k, vs, n, ds, rfl, k _ _ hne h1, h2.keepX S.rd.m.box k, h3⟩
  nx := S.nx
  inj := S.inj
  mB := S.mB
  mL := S.mL
  mC := S.mC
theorem Wr.mono {M M' : Addr → Prop} (W : Wr sc env M h) (mL : M' env.locals) (mC : ∀ x a, env.cells.lookup x = some a → M' a) : Wr sc env M' h :=
  ⟨W.ns, mL, fun x a e => ⟨(W.cells x a e).1, mC x a e⟩, W.apart, W.loc⟩
/-- at a return the own lists are plain values -/
theorem Sx.frozen (S : Sx c sc O env Mx oa ρ b h) : Rd c sc [] env Mx ρ b h where
  kind := S.rd.kind
  glob := S.rd.glob
  bi := S.rd.bi
  gl := S.rd.gl
  nd := S.rd.nd
  dom := S.rd.dom
  cl := S.rd.cl
  base := S.rd.base
  m := ⟨S.mB, fun a hm => S.rd.m.live a (.inl hm), fun a hm => S.rd.m.low a (.inl hm)⟩
  vars := fun x d e => by
    have sub : ∀ {vs ds}, VRs h (Mo O Mx oa ρ) c.B vs ds → VRs h Mx c.B vs ds := fun q => q.mono fun a o hm e => ⟨fun q => hm (.inl q), e⟩
    cases ho : O.contains x with
    | false =>
      obtain ⟨v, h1, h2, _⟩ := S.rd.vars x d e
      exact ⟨v, h1, fun _ => (h2 ho).mono fun a o hm e => ⟨fun q => hm (.inl q), e⟩, fun q => by simp at q⟩
    | true =>
      obtain ⟨sl, vs, n, ds, rfl, h1, h2, h3⟩ := S.own x d ho e
      exact ⟨_, sl, fun _ => .list (S.nx x ho (by rw [e]; simp)) ⟨_, h1, rfl, n, rfl⟩ h3 (sub h2), fun q => by simp at q⟩
  box := S.rd.box
  wr := S.rd.wr.mono S.mL S.mC
theorem Mo_upd (ho : O.contains x = false) : Mo O Mx oa (upd ρ x d) = Mo O Mx oa ρ := by
  funext a
  apply propext
  unfold Mo
  refine or_congr Iff.rfl ⟨fun ⟨y, h1, h2, h3⟩ => ⟨y, h1, ?_, h3⟩, fun ⟨y, h1, h2, h3⟩ => ⟨y, h1, ?_, h3⟩⟩
  · have : y ≠ x := fun q => by rw [q, ho] at h1; cases h1
    unfold upd at h2; rw [if_neg this] at h2; exact h2
  · have : y ≠ x := fun q => by rw [q, ho] at h1; cases h1
    unfold upd; rw [if_neg this]; exact h2
/-- a name that holds no own list is stored -/
theorem Sx.store (S : Sx c sc O env Mx oa ρ b h) (hx : locIn sc x = true) (ho : O.contains x = false) (st : Stored sc env (Mo O Mx oa ρ) [x] h h') (sl : Slot h' env x v) (W : Wr sc env (Mo O Mx oa ρ) h') (r : VR h (Mo O Mx oa ρ) c.B v d) :
    Sx c sc O env Mx oa (upd ρ x d) b h' := by
  have hM := Mo_upd (Mx := Mx) (oa := oa) (ρ := ρ) (d := d) ho
  have up : ∀ {y}, O.contains y = true → upd ρ x d y = ρ y := fun {y} hy => by
    have : y ≠ x := fun q => by rw [q, ho] at hy; cases hy
    unfold upd; rw [if_neg this]
  refine ⟨?_, fun y d' hy e => ?_, fun y hy e => ?_, fun y z hy hz e1 e2 q => ?_, S.mB, S.mL, S.mC⟩
  · rw [hM]; exact S.rd.stored hx ho st sl W r
  · rw [up hy] at e
    obtain ⟨sl, vs, n, ds, rfl, h1, h2, h3⟩ := S.own y d' hy e
    have : y ≠ x := fun q => by rw [q, ho] at hy; cases hy
    rw [hM]
    exact ⟨st.sl y _ (by simpa using this) sl, vs, n, ds, rfl, st.seq _ _ _ _ rfl h1, h2.stored st, h3⟩
  · rw [up hy] at e; exact S.nx y hy e
  · rw [up hy] at e1; rw [up hz] at e2; exact S.inj y z hy hz e1 e2 q
/-- more names of no own lists are stored (a for's target) -/
theorem Sx.storedAll {xs : List Str} (S : Sx c sc O env Mx oa ρ b h) (hxs : ∀ x ∈ xs, O.contains x = false ∧ locIn sc x = true) (st : Stored sc env (Mo O Mx oa ρ) xs h h') (hρ : ∀ x, x ∉ xs → ρ' x = ρ x)
    (R : Rd c sc O env (Mo O Mx oa ρ) ρ' b h') : Sx c sc O env Mx oa ρ' b h' := by
  have up : ∀ {y}, O.contains y = true → ρ' y = ρ y := fun {y} hy => hρ y fun q => by rw [(hxs y q).1] at hy; cases hy
  have hM : Mo O Mx oa ρ' = Mo O Mx oa ρ := by
    funext a
    apply propext
    exact or_congr Iff.rfl ⟨fun ⟨y, h1, h2, h3⟩ => ⟨y, h1, up h1 ▸ h2, h3⟩, fun ⟨y, h1, h2, h3⟩ => ⟨y, h1, (up h1).symm ▸ h2, h3⟩⟩
  refine ⟨by rw [hM]; exact R, fun y d' hy e => ?_, fun y hy e => ?_, fun y z hy hz e1 e2 q => ?_, S.mB, S.mL, S.mC⟩
  · rw [up hy] at e
    obtain ⟨sl, vs, n, ds, rfl, h1, h2, h3⟩ := S.own y d' hy e
    rw [hM]
    exact ⟨st.sl y _ (fun q => by rw [(hxs y q).1] at hy; cases hy) sl, vs, n, ds, rfl, st.seq _ _ _ _ rfl h1, h2.stored st, h3⟩
  · rw [up hy] at e; exact S.nx y hy e
  · rw [up hy] at e1; rw [up hz] at e2; exact S.inj y z hy hz e1 e2 q
/-- a new list waits to become an own one -/
theorem Sx.pend (ok : c.Ok) {a : Addr} {o : Obj} (S : Sx c sc O env Mx oa ρ b h) (k : KX c.B h h') (y : BoxR c h' b') (h0 : h.get? a = none) (h1 : h'.get? a = some o) : Sx c sc O env (fun e => Mx e ∨ e = a) oa ρ b' h' := by
  have S' := S.expr ok k y
  have low : c.hT.get? a = none := by
    cases e : c.hT.get? a with
    | none => rfl
    | some o => rw [S.rd.base _ _ e] at h0; cases h0
  have hsub : ∀ e, Mo O (fun e => Mx e ∨ e = a) oa ρ e → Mo O Mx oa ρ e ∨ e = a := fun e q => by
    rcases q with (q | q) | q
    · exact .inl (.inl q)
    · exact .inr q
    · exact .inl (.inr q)
  have vm : ∀ {v d}, VR h (Mo O Mx oa ρ) c.B v d → VR h' (Mo O (fun e => Mx e ∨ e = a) oa ρ) c.B v d := fun q => q.mono fun e o hm g =>
    ⟨fun q => (hsub e q).elim hm fun q => (by rw [q, h0] at g; cases g), k e o (fun q => hm (q ▸ S.rd.m.box)) g⟩
  have vms : ∀ {v d}, VRs h (Mo O Mx oa ρ) c.B v d → VRs h' (Mo O (fun e => Mx e ∨ e = a) oa ρ) c.B v d := fun q => q.mono fun e o hm g =>
    ⟨fun q => (hsub e q).elim hm fun q => (by rw [q, h0] at g; cases g), k e o (fun q => hm (q ▸ S.rd.m.box)) g⟩
  refine ⟨{ kind := S'.rd.kind, glob := S'.rd.glob, bi := S'.rd.bi, gl := S'.rd.gl, nd := S'.rd.nd, dom := S'.rd.dom, cl := S'.rd.cl, base := S'.rd.base, box := y
            m := ⟨.inl (.inl S.mB), fun e hm => (hsub e hm).elim (S'.rd.m.live e) fun q => ⟨o, q ▸ h1⟩, fun e hm => (hsub e hm).elim (S'.rd.m.low e) fun q => q ▸ low⟩
            vars := fun x d e => by
              obtain ⟨v, g1, g2, g3⟩ := S.rd.vars x d e
              refine ⟨v, g1.keep S.rd.box.seq k, fun q => vm (g2 q), fun q => ?_⟩
              obtain ⟨a', vs, n, ds, e1, e2, e3, e4, e5, e6⟩ := g3 q
              exact ⟨a', vs, n, ds, e1, e2, k _ _ e6 e3, vms e4, e5, e6⟩
            wr := S'.rd.wr.mono (.inl (.inl S.mL)) fun x a e => .inl (.inl (S.mC x a e)) }, fun x d hx e => ?_, fun x hx e => ?_, S.inj, .inl S.mB, .inl S.mL, fun x a e => .inl (S.mC x a e)⟩
  · obtain ⟨sl, vs, n, ds, rfl, g1, g2, g3⟩ := S.own x d hx e
    have hne : oa x ≠ c.B := fun q => S.nx x hx (by rw [e]; simp) (q ▸ S.mB)
    exact ⟨sl.keep S.rd.box.seq k, vs, n, ds, rfl, k _ _ hne g1, vms g2, g3⟩
  · rintro (q | q)
    · exact S.nx x hx e q
    · obtain ⟨d, hd⟩ := Option.ne_none_iff_exists'.mp e
      obtain ⟨_, vs, n, ds, _, g1, _⟩ := S.own x d hx hd
      rw [q, h0] at g1; cases g1
/-- the waiting list becomes a name's own -/
theorem Sx.storeOwn {a : Addr} {vs : List Value} {n : Nat} {ds : List D} (S : Sx c sc O env (fun e => Mx e ∨ e = a) oa ρ b h) (hB : Mx c.B) (hL : Mx env.locals) (hC : ∀ x a, env.cells.lookup x = some a → Mx a) (ha : ¬ Mx a) (hx : locIn sc x = true) (ho : O.contains x = true)
    (hg : h.get? a = some { cls := .type "list", data := .seq (List.toArray vs) n }) (hv : VRs h (Mo O (fun e => Mx e ∨ e = a) oa ρ) c.B vs ds) (hl : vs.length ≤ lim)
    (st : Stored sc env (Mo O (fun e => Mx e ∨ e = a) oa ρ) [x] h h') (sl : Slot h' env x (.ref a)) (W : Wr sc env (Mo O (fun e => Mx e ∨ e = a) oa ρ) h') :
    Sx c sc O env Mx (fun y => if y = x then a else oa y) (upd ρ x (.list ds)) b h' := by
  have hsub : ∀ e, Mo O Mx (fun y => if y = x then a else oa y) (upd ρ x (.list ds)) e → Mo O (fun e => Mx e ∨ e = a) oa ρ e := fun e q => by
    rcases q with q | ⟨y, h1, h2, h3⟩
    · exact .inl (.inl q)
    · dsimp only at h3
      by_cases hy : y = x
      · rw [if_pos hy] at h3; exact .inl (.inr h3.symm)
      · rw [if_neg hy] at h3
        unfold upd at h2; rw [if_neg hy] at h2
        exact .inr ⟨y, h1, h2, h3⟩
  have vm : ∀ {v d}, VR h (Mo O (fun e => Mx e ∨ e = a) oa ρ) c.B v d → VR h' (Mo O Mx (fun y => if y = x then a else oa y) (upd ρ x (.list ds))) c.B v d := fun q => q.mono fun e o hm g => ⟨fun q => hm (hsub e q), st.km e o hm g⟩
  have vms : ∀ {v d}, VRs h (Mo O (fun e => Mx e ∨ e = a) oa ρ) c.B v d → VRs h' (Mo O Mx (fun y => if y = x then a else oa y) (upd ρ x (.list ds))) c.B v d := fun q => q.mono fun e o hm g => ⟨fun q => hm (hsub e q), st.km e o hm g⟩
  have hownx : O.contains x = true ∧ upd ρ x (.list ds) x ≠ none := ⟨ho, by simp [upd]⟩
  have ownd : ∀ y d, O.contains y = true → upd ρ x (.list ds) y = some d → Slot h' env y (.ref (if y = x then a else oa y)) ∧ ∃ vs n ds', d = .list ds' ∧ h'.get? (if y = x then a else oa y) = some { cls := .type "list", data := .seq (List.toArray vs) n } ∧
      VRs h' (Mo O Mx (fun y => if y = x then a else oa y) (upd ρ x (.list ds))) c.B vs ds' ∧ vs.length ≤ lim := fun y d hy e => by
    by_cases q : y = x
    · subst q
      simp only [upd, if_true] at e
      cases e
      rw [if_pos rfl]
      exact ⟨sl, vs, n, ds, rfl, st.seq _ _ _ _ rfl hg, vms hv, hl⟩
    · rw [if_neg q]
      unfold upd at e; rw [if_neg q] at e
      obtain ⟨sl', vs', n', ds', rfl, g1, g2, g3⟩ := S.own y d hy e
      exact ⟨st.sl y _ (by simpa using q) sl', vs', n', ds', rfl, st.seq _ _ _ _ rfl g1, vms g2, g3⟩
  refine ⟨{ kind := S.rd.kind, glob := S.rd.glob, bi := S.rd.bi, gl := S.rd.gl, nd := S.rd.nd, cl := S.rd.cl, box := S.rd.box.stored st
            dom := fun y d e => by
              unfold upd at e
              split at e
              · rename_i q; subst q; exact locIn_ne S.rd.nd hx
              · exact S.rd.dom y d e
            base := fun e o g => st.km e o (fun q => by have := S.rd.m.low e q; rw [g] at this; cases this) (S.rd.base e o g)
            m := ⟨.inl hB, fun e hm => let ⟨o, g⟩ := S.rd.m.live e (hsub e hm); st.al e o g, fun e hm => S.rd.m.low e (hsub e hm)⟩
            vars := fun y d e => by
              cases hy : O.contains y with
              | true =>
                obtain ⟨g0, vs', n', ds', rfl, g1, g2, g3⟩ := ownd y d hy e
                refine ⟨_, g0, fun q => by simp at q, fun _ => ⟨_, vs', n', ds', rfl, rfl, g1, g2, g3, fun q => ?_⟩⟩
                by_cases hyx : y = x
                · rw [if_pos hyx] at q; exact ha (q ▸ hB)
                · rw [if_neg hyx] at q
                  unfold upd at e; rw [if_neg hyx] at e
                  exact S.nx y hy (by rw [e]; simp) (.inl (q ▸ hB))
              | false =>
                have hyx : y ≠ x := fun q => by rw [q, ho] at hy; cases hy
                unfold upd at e; rw [if_neg hyx] at e
                obtain ⟨w, g1, g2, _⟩ := S.rd.vars y d e
                exact ⟨w, st.sl y _ (by simpa using hyx) g1, fun q => vm (g2 hy), fun q => by simp at q⟩
            wr := W.mono (.inl hL) fun x a e => .inl (hC x a e) }, ownd, fun y hy e => ?_, fun y z hy hz e1 e2 q => ?_, hB, hL, hC⟩
  · by_cases hyx : y = x
    · rw [if_pos hyx]; exact ha
    · rw [if_neg hyx]
      unfold upd at e; rw [if_neg hyx] at e
      exact fun q => S.nx y hy e (.inl q)
  · by_cases hyx : y = x
    · by_cases hzx : z = x
      · rw [hyx, hzx]
      · exfalso
        simp only [if_pos hyx, if_neg hzx] at q
        unfold upd at e2; rw [if_neg hzx] at e2
        exact S.nx z hz e2 (.inr q.symm)
    · by_cases hzx : z = x
      · exfalso
        simp only [if_neg hyx, if_pos hzx] at q
        unfold upd at e1; rw [if_neg hyx] at e1
        exact S.nx y hy e1 (.inr q)
      · simp only [if_neg hyx, if_neg hzx] at q
        unfold upd at e1 e2; rw [if_neg hyx] at e1; rw [if_neg hzx] at e2
        exact S.inj y z hy hz e1 e2 q
end
end Mine

namespace Mine
open PySem PySem.Calls PyProof.Rows
/-- nothing was turned but the box and the frame's own places -/
structure K0 (c : Cx) (sc : Scope) (env : Env) (h h' : Heap) : Prop where
  kp : ∀ a o, a ≠ c.B → ¬ Xc sc env a → h.get? a = some o → h'.get? a = some o
  al : ∀ a o, h.get? a = some o → ∃ o', h'.get? a = some o'
/-- lists that wait to become own ones -/
noncomputable def Pd (O : List Str) (ts : List (Str × Value × D)) (e : Addr) : Prop := ∃ t ∈ ts, O.contains t.1 = true ∧ t.2.1 = .ref e
/-- a value that waits for its name -/
noncomputable def Wt (O : List Str) (h : Heap) (M : Addr → Prop) (B : Addr) (t : Str × Value × D) : Prop :=
  (O.contains t.1 = false → VR h M B t.2.1 t.2.2) ∧ (O.contains t.1 = true → ∃ a vs n ds, t.2.1 = .ref a ∧ t.2.2 = .list ds ∧ h.get? a = some { cls := .type "list", data := .seq (List.toArray vs) n } ∧ VRs h M B vs ds ∧ vs.length ≤ lim)
noncomputable def upds (ρ : PEnv) : List (Str × Value × D) → PEnv
  | [] => ρ
  | t :: ts => upds (upd ρ t.1 t.2.2) ts
section
variable {c : Cx} {A : Around} {sc : Scope} {O : List Str} {env : Env} {Mx M M' : Addr → Prop} {oa oa' oa'' : Str → Addr} {ρ ρ' ρ'' : PEnv} {b b' : List D} {d : D} {h h' h'' : Heap} {x : Str} {v : Value}
theorem K0.refl : K0 c sc env h h := ⟨fun _ _ _ _ e => e, fun a o e => ⟨o, e⟩⟩
theorem K0.trans (k : K0 c sc env h h') (k' : K0 c sc env h' h'') : K0 c sc env h h'' :=
  ⟨fun a o h1 h2 e => k'.kp a o h1 h2 (k.kp a o h1 h2 e), fun a o e => let ⟨o', e'⟩ := k.al a o e; k'.al a o' e'⟩
theorem K0.ofX (k : KX c.B h h') (y : BoxR c h' b') : K0 c sc env h h' := ⟨fun a o h1 _ e => k a o h1 e, fun a o e => by
    by_cases q : a = c.B
    · obtain ⟨T, xs, n, e'⟩ := y.seq; exact ⟨_, q ▸ e'⟩
    · exact ⟨o, k a o q e⟩⟩
theorem K0.of (k : ∀ a o, h.get? a = some o → h'.get? a = some o) : K0 c sc env h h' := ⟨fun a o _ _ e => k a o e, fun a o e => ⟨o, k a o e⟩⟩
theorem K0.ofStored {xs : List Str} (st : Stored sc env M xs h h') : K0 c sc env h h' := ⟨fun a o _ h2 e => st.k a o h2 e, st.al⟩
theorem K0.ks (k : K0 c sc env h h') : KS c sc O env ρ oa h h' := ⟨fun a o h1 h2 _ e => k.kp a o h1 h2 e, k.al⟩
theorem K0.none (k : K0 c sc env h h') {a : Addr} (e : h'.get? a = none) : h.get? a = none := by
  cases e0 : h.get? a with
  | none => rfl
  | some o => obtain ⟨o', e'⟩ := k.al a o e0; rw [e] at e'; cases e'
theorem Wt.mono (hs : ∀ a o, ¬ M a → h.get? a = some o → ¬ M' a ∧ h'.get? a = some o) (hl : ∀ a o ys n, o.data = .seq ys n → a ≠ c.B → h.get? a = some o → h'.get? a = some o) {t : Str × Value × D}
    (hB : ∀ a, O.contains t.1 = true → t.2.1 = .ref a → a ≠ c.B) (w : Wt O h M c.B t) : Wt O h' M' c.B t :=
  ⟨fun q => (w.1 q).mono hs, fun q => by
    obtain ⟨a, vs, n, ds, e1, e2, e3, e4, e5⟩ := w.2 q
    exact ⟨a, vs, n, ds, e1, e2, hl _ _ _ _ rfl (hB a q e1) e3, e4.mono hs, e5⟩⟩
theorem Pd_cons_out {t : Str × Value × D} {ts : List (Str × Value × D)} (ho : O.contains t.1 = false) : Pd O (t :: ts) = Pd O ts := by
  funext e
  apply propext
  constructor
  · rintro ⟨u, hu, h1, h2⟩
    rcases List.mem_cons.mp hu with rfl | hu
    · rw [ho] at h1; cases h1
    · exact ⟨u, hu, h1, h2⟩
  · rintro ⟨u, hu, h1, h2⟩; exact ⟨u, List.mem_cons_of_mem _ hu, h1, h2⟩
theorem Pd_cons_own {t : Str × Value × D} {ts : List (Str × Value × D)} {a : Addr} (ho : O.contains t.1 = true) (ha : t.2.1 = .ref a) : (fun e => Mx e ∨ Pd O (t :: ts) e) = fun e => (Mx e ∨ Pd O ts e) ∨ e = a := by
  funext e
  apply propext
  constructor
  · rintro (q | ⟨u, hu, h1, h2⟩)
    · exact .inl (.inl q)
    · rcases List.mem_cons.mp hu with rfl | hu
      · rw [ha] at h2; cases h2; exact .inr rfl
      · exact .inl (.inr ⟨u, hu, h1, h2⟩)
  · rintro ((q | ⟨u, hu, h1, h2⟩) | rfl)
    · exact .inl q
    · exact .inr ⟨u, List.mem_cons_of_mem _ hu, h1, h2⟩
    · exact .inr ⟨t, .head _, ho, ha⟩
theorem Mo_own_sub {a : Addr} : ∀ e, Mo O Mx (fun y => if y = x then a else oa y) (upd ρ x d) e → Mo O (fun e => Mx e ∨ e = a) oa ρ e := fun e q => by
  rcases q with q | ⟨y, h1, h2, h3⟩
  · exact .inl (.inl q)
  · dsimp only at h3
    by_cases hy : y = x
    · rw [if_pos hy] at h3; exact .inl (.inr h3.symm)
    · rw [if_neg hy] at h3
      unfold upd at h2; rw [if_neg hy] at h2
      exact .inr ⟨y, h1, h2, h3⟩
/-- the waiting values are stored, one behind the other -/
theorem storeAll : ∀ (ts : List (Str × Value × D)) (oa : Str → Addr) (ρ : PEnv) (s : Shared) (Q : Unit → Shared → Prop) (fs : List (Value → Sem Unit)),
    Sx c sc O env (fun e => Mx e ∨ Pd O ts e) oa ρ b s.heap → Mx c.B → Mx env.locals → (∀ x a, env.cells.lookup x = some a → Mx a) →
    (∀ t ∈ ts, locIn sc t.1 = true) → (ts.map (·.1)).Nodup → (∀ t ∈ ts, Wt O s.heap (Mo O (fun e => Mx e ∨ Pd O ts e) oa ρ) c.B t) →
    (∀ t ∈ ts, O.contains t.1 = true → ∀ a, t.2.1 = .ref a → ¬ Mx a) → ts.Pairwise (fun (t u : Str × Value × D) => O.contains t.1 = true → O.contains u.1 = true → t.2.1 ≠ u.2.1) →
    fs.length = ts.length → (∀ (i : Nat) (f : Value → Sem Unit) (t : Str × Value × D), fs[i]? = some f → ts[i]? = some t → ∀ (s : Shared) Q, wpAny (model c.prog c.w) A (storeName env t.1 t.2.1) Q NoE s → wpAny (model c.prog c.w) A (f t.2.1) Q NoE s) →
    (∀ h' tk' oa', K0 c sc env s.heap h' → (∀ x, O.contains x = true → x ∉ ts.map (·.1) → oa' x = oa x) → (∀ t ∈ ts, O.contains t.1 = true → t.2.1 = .ref (oa' t.1)) → Sx c sc O env Mx oa' (upds ρ ts) b h' → Q () { s with heap := h', toks := tk' }) →
    wpAny (model c.prog c.w) A (assignInOrder fs (ts.map (·.2.1))) Q NoE s
  | [], oa, ρ, s, Q, fs, S, mB, mL, mC, _, _, _, _, _, hfs, _, P => by
    cases fs with
    | cons _ _ => simp at hfs
    | nil =>
      have e : (fun e => Mx e ∨ Pd O [] e) = Mx := by
        funext e; apply propext
        exact ⟨fun q => q.elim id fun ⟨_, hu, _⟩ => by simp at hu, .inl⟩
      rw [e] at S
      exact wpAny_pure (P s.heap s.toks oa K0.refl (fun _ _ _ => rfl) (fun t ht => by simp at ht) S)
  | t :: ts, oa, ρ, s, Q, fs, S, mB, mL, mC, hl, hn, hw, hM, hp, hfs, hf, P => by
    cases fs with
    | nil => simp at hfs
    | cons f fs =>
      obtain ⟨x, v, d⟩ := t
      have hx : locIn sc x = true := hl (x, v, d) (.head _)
      have hn' := List.nodup_cons.mp hn
      have hp' := List.pairwise_cons.mp hp
      have hw0 := hw (x, v, d) (.head _)
      refine wpAny_bind (wpAny_holding (hf 0 f (x, v, d) rfl rfl _ _ ?_))
      refine store_raw S.rd.kind S.rd.wr hx fun h₁ tk₁ st sl W => ?_
      cases ho : O.contains x with
      | false =>
        have ePd := Pd_cons_out (t := (x, v, d)) (ts := ts) ho
        rw [ePd] at S st W hw0
        have S1 := S.store hx ho st sl W (hw0.1 ho)
        refine storeAll ts oa (upd ρ x d) { s with heap := h₁, toks := tk₁ } Q fs S1 mB mL mC (fun t ht => hl t (List.mem_cons_of_mem _ ht)) hn'.2 (fun t ht => ?_) (fun t ht => hM t (List.mem_cons_of_mem _ ht)) hp'.2 (by simpa using hfs)
          (fun i f t h1 h2 => hf (i + 1) f t (by simpa using h1) (by simpa using h2)) fun h' tk' oa' k ho1 ho2 S' => ?_
        · have w0 := hw t (List.mem_cons_of_mem _ ht)
          rw [ePd] at w0
          rw [Mo_upd ho]
          exact w0.mono (c := c) (fun a o hm e => ⟨hm, st.km a o hm e⟩) (fun a o ys n d _ e => st.seq a o ys n d e) fun a q e q' => hM t (List.mem_cons_of_mem _ ht) q a e (q' ▸ mB)
        · refine P h' tk' oa' ((K0.ofStored st).trans k) (fun y hy hny => ho1 y hy fun q => hny (List.mem_cons_of_mem _ q)) (fun t ht hto => ?_) S'
          rcases List.mem_cons.mp ht with rfl | ht
          · rw [ho] at hto; cases hto
          · exact ho2 t ht hto
      | true =>
        obtain ⟨a, vs, n, ds, e1, e2, e3, e4, e5⟩ := hw0.2 ho
        dsimp only at e1 e2
        subst e1 e2
        have eM := Pd_cons_own (Mx := Mx) (t := (x, .ref a, .list ds)) (ts := ts) ho rfl
        rw [eM] at S st W e4
        have hna : ¬ Mx a := hM (x, .ref a, .list ds) (.head _) ho a rfl
        have hnp : ¬ Pd O ts a := fun ⟨u, hu, h1, h2⟩ => hp'.1 u hu ho h1 h2.symm
        have S1 := S.storeOwn (.inl mB) (.inl mL) (fun x a e => .inl (mC x a e)) (fun q => q.elim hna hnp) hx ho e3 e4 e5 st sl W
        refine storeAll ts _ (upd ρ x (.list ds)) { s with heap := h₁, toks := tk₁ } Q fs S1 mB mL mC (fun t ht => hl t (List.mem_cons_of_mem _ ht)) hn'.2 (fun t ht => ?_) (fun t ht => hM t (List.mem_cons_of_mem _ ht)) hp'.2 (by simpa using hfs)
          (fun i f t h1 h2 => hf (i + 1) f t (by simpa using h1) (by simpa using h2)) fun h' tk' oa' k ho1 ho2 S' => ?_
        · have w0 := hw t (List.mem_cons_of_mem _ ht)
          rw [eM] at w0
          exact w0.mono (c := c) (fun a o hm e => ⟨fun q => hm (Mo_own_sub a q), st.km a o hm e⟩) (fun a o ys n d _ e => st.seq a o ys n d e) fun a q e q' => hM t (List.mem_cons_of_mem _ ht) q a e (q' ▸ mB)
        · refine P h' tk' oa' ((K0.ofStored st).trans k) (fun y hy hny => ?_) (fun t ht hto => ?_) S'
          · rw [ho1 y hy fun q => hny (List.mem_cons_of_mem _ q)]
            have : y ≠ x := fun q => hny (by simp [q])
            simp [this]
          · rcases List.mem_cons.mp ht with rfl | ht
            · dsimp only
              rw [ho1 x ho hn'.1]; simp
            · exact ho2 t ht hto
end
/-- the values of a tuple that is made to be stored at once -/
noncomputable def EP (c : Cx) (A : Around) (sc : Scope) (O xs : List Str) (es : List Expr) (ρ : PEnv) (b : List D) (P : List D → List D → Prop) : Prop := c.Ok → AOk A → ∀ env Mx oa s Q pos, Sx c sc O env Mx oa ρ b s.heap →
  (∀ ds b', P ds b' → ∀ ts h' tk', ts.map (·.1) = xs → ts.map (·.2.2) = ds → KX c.B s.heap h' → BoxR c h' b' → Sx c sc O env (fun e => Mx e ∨ Pd O ts e) oa ρ b' h' → (∀ t ∈ ts, Wt O h' (Mo O (fun e => Mx e ∨ Pd O ts e) oa ρ) c.B t) →
    (∀ t ∈ ts, O.contains t.1 = true → ∀ a, t.2.1 = .ref a → s.heap.get? a = none) → ts.Pairwise (fun (t u : Str × Value × D) => O.contains t.1 = true → O.contains u.1 = true → t.2.1 ≠ u.2.1) →
    Q (ts.map (·.2.1)) { s with heap := h', toks := tk' }) →
  wpAny (model c.prog c.w) A (spliced (backTo pos (starEach es env))) Q NoE s
section
variable {c : Cx} {A : Around} {sc : Scope} {O xs : List Str} {ρ : PEnv} {b : List D} {P : List D → List D → Prop} {x : Str} {e : Expr} {es : List Expr}
theorem p_nil (h : P [] b) : EP c A sc O [] [] ρ b P := fun ok ha env Mx oa s Q pos SX g => by
  have e : (fun e => Mx e ∨ Pd O [] e) = Mx := by
    funext e; apply propext
    exact ⟨fun q => q.elim id fun ⟨_, hu, _⟩ => by simp at hu, .inl⟩
  exact wpAny_items_nil (g _ _ h [] s.heap s.toks rfl rfl KX.refl SX.rd.box (by rw [e]; exact SX) (fun t ht => by simp at ht) (fun t ht => by simp at ht) .nil)
theorem p_cons (hn : (nst e && (!O.contains x || isFresh e)) = true) (h : EV c A sc O e ρ b fun d b₁ => (!O.contains x || isList d) = true ∧ EP c A sc O xs es ρ b₁ fun ds b₂ => P (d :: ds) b₂) : EP c A sc O (x :: xs) (e :: es) ρ b P := fun ok ha env Mx oa s Q pos SX g => by
  simp only [Bool.and_eq_true, Bool.or_eq_true, Bool.not_eq_true'] at hn
  obtain ⟨hn, hfr⟩ := hn
  refine wpAny_items_cons ?_ (starEach_of (nst_ne hn))
  refine h ok ha env _ s _ SX.rd fun d1 b1 hP v h₁ tk₁ k x₁ r nl => ?_
  obtain ⟨hil, hP⟩ := hP
  simp only [Bool.or_eq_true, Bool.not_eq_true'] at hil
  have SX1 := SX.expr ok k x₁
  have back : ∀ a, h₁.get? a = none → s.heap.get? a = none := fun a q => (K0.ofX (sc := sc) (env := env) k x₁).none q
  cases hx : O.contains x with
  | false =>
    refine hP ok ha env Mx oa { s with heap := h₁, toks := tk₁ } _ pos SX1 fun ds2 b2 hP2 ts h₂ tk₂ e1 e2 k₂ x₂ SX2 w2 f2 p2 => ?_
    have ePd := Pd_cons_out (t := (x, v, d1)) (ts := ts) hx
    refine g _ _ hP2 ((x, v, d1) :: ts) h₂ tk₂ (by simp [e1]) (by simp [e2]) (k.trans k₂) x₂ (by rw [ePd]; exact SX2) (fun t ht => ?_) (fun t ht hto a ha => ?_) (List.pairwise_cons.mpr ⟨fun u hu q => (by rw [hx] at q; cases q), p2⟩)
    · rw [ePd]
      rcases List.mem_cons.mp ht with rfl | ht
      · refine ⟨fun _ => r.mono fun a o hm e => ⟨fun q => ?_, k₂ a o (fun q => hm (q ▸ SX.rd.m.box)) e⟩, fun q => by rw [hx] at q; cases q⟩
        rcases q with (q | ⟨u, hu, q1, q2⟩) | q
        · exact hm (.inl q)
        · have := f2 u hu q1 a q2; dsimp only at this; rw [e] at this; cases this
        · exact hm (.inr q)
      · exact w2 t ht
    · rcases List.mem_cons.mp ht with rfl | ht
      · rw [hx] at hto; cases hto
      · exact back a (f2 t ht hto a ha)
  | true =>
    rw [hx] at hil hfr
    simp only [Bool.true_eq_false, false_or] at hil hfr
    obtain ⟨ds', rfl⟩ : ∃ ds', d1 = .list ds' := by cases d1 <;> simp [isList] at hil <;> exact ⟨_, rfl⟩
    obtain ⟨a, vs, m, rfl, q1, q2, q3, q4⟩ := nl hfr ds' rfl
    have SX1 := SX.pend ok k x₁ q1 q2
    refine hP ok ha env _ oa { s with heap := h₁, toks := tk₁ } _ pos SX1 fun ds2 b2 hP2 ts h₂ tk₂ e1 e2 k₂ x₂ SX2 w2 f2 p2 => ?_
    have eM : (fun e => Mx e ∨ Pd O ((x, .ref a, .list ds') :: ts) e) = fun e => (Mx e ∨ e = a) ∨ Pd O ts e := by
      rw [Pd_cons_own hx rfl]
      funext e; apply propext
      exact ⟨fun q => q.elim (fun q => q.elim (fun q => .inl (.inl q)) .inr) (fun q => .inl (.inr q)), fun q => q.elim (fun q => q.elim (fun q => .inl (.inl q)) .inr) (fun q => .inl (.inr q))⟩
    refine g _ _ hP2 ((x, .ref a, .list ds') :: ts) h₂ tk₂ (by simp [e1]) (by simp [e2]) (k.trans k₂) x₂ (by rw [eM]; exact SX2) (fun t ht => ?_) (fun t ht hto a' ha => ?_) (List.pairwise_cons.mpr ⟨fun u hu _ q q' => ?_, p2⟩)
    · rw [eM]
      rcases List.mem_cons.mp ht with rfl | ht
      · refine ⟨fun q => (by rw [hx] at q; cases q), fun _ => ⟨a, vs, m, ds', rfl, rfl, ?_, ?_, q4⟩⟩
        · refine k₂ _ _ (fun q => ?_) q2
          obtain ⟨o, e⟩ := SX.rd.m.live _ SX.rd.m.box
          rw [q, e] at q1; cases q1
        · refine q3.mono fun e o hm g => ⟨fun q => ?_, k₂ e o (fun q => hm (.inl (q ▸ SX.rd.m.box))) g⟩
          rcases q with ((q | q) | ⟨u, hu, g1, g2⟩) | q
          · exact hm (.inl (.inl q))
          · exact hm (.inr q)
          · have := f2 u hu g1 e g2; dsimp only at this; rw [g] at this; cases this
          · exact hm (.inl (.inr q))
      · exact w2 t ht
    · rcases List.mem_cons.mp ht with rfl | ht
      · cases ha; exact q1
      · exact back a' (f2 t ht hto a' ha)
    · have := f2 u hu q a q'.symm
      dsimp only at this; rw [q2] at this; cases this
end
end Mine

namespace Mine
open PySem PySem.Calls PyProof.Rows
section
variable {prog : Program} {w : World} {A : Around} {E : Value → Shared → Prop} {s : Shared}
theorem mapSeq_plain (f : Array Value → Array Value) (its : Array Value) (n : Nat) :
    ∃ n', Obj.mapSeq f { cls := .type "list", data := .seq its n } = { cls := .type "list", data := .seq (f its) n' } := by
  exact ⟨_, rfl⟩
theorem setItem_own {l : Addr} {vs : List Value} {n : Nat} {k : Int} {t : Tok} {v : Value} {Q : Unit → Shared → Prop} (ho : s.heap.get? l = some { cls := .type "list", data := .seq vs.toArray n })
    (h0 : 0 ≤ k) (hfit : k < 2 ^ 63) (hn : k < vs.length)
    (hQ : ∀ h' n', h'.get? l = some { cls := .type "list", data := .seq (vs.set k.toNat v).toArray n' } → Heap.SameBut l s.heap h' → Q () { s with heap := h' }) :
    wpAny (model prog w) A (setItem (.ref l) (.int k t) v) Q E s := by
  have hl : s.heap.IsList l vs.toArray := ⟨_, ho, rfl, _, rfl⟩
  unfold setItem
  try with_reducible refine wpAny_holding ?_
  first | refine wpAny_bind (wpAny_pure ?_) | skip
  refine wpAny_bind (wpAny_sequenceKey hl.typeIs (by decide) ?_)
  refine wpAny_bind (wpAny_callSpecial?_slot (name := Str.ofString "__setitem__") hl.typeIs slot_list_setitem
    (wpAny_call_entry slot_list_setitem hl.typeIs entry_list_setitem ?_ (args_list_setitem _ _ _)))
  show wpAny _ _ (Builtin.List.listSubscript? (.int k t) >>= _) _ _ s
  refine wpAny_bind (wpAny_listSubscript_int (fitsIndex_of h0 hfit) ?_)
  clear hfit
  obtain ⟨j, rfl⟩ := Int.eq_ofNat_of_zero_le h0
  have hj : j < vs.toArray.size := by simp; exact o39 hn
  have hx' : vs.toArray[j]? = some vs.toArray[j] := Array.getElem?_eq_getElem hj
  show wpAny _ _ ((seqItemAt l j >>= fun r => pure (r.map (j, ·))) >>= _) _ _ s
  refine wpAny_bind (wpAny_bind (wpAny_seqItemAt ho rfl (wpAny_pure ?_)))
  rw [hx']
  show wpAny _ _ (setSeqItemAt l j v >>= _) _ _ s
  obtain ⟨n', hm⟩ := mapSeq_plain (·.setIfInBounds j v) vs.toArray n
  have hfin : (s.heap.update l (Obj.mapSeq (·.setIfInBounds j v))).get? l = some { cls := .type "list", data := .seq (vs.set j v).toArray n' } := by
    rw [Heap.get?_update_self _ ho (by rw [hm]; rfl), hm]
    simp
  refine wpAny_bind (wpAny_setSeqItemAt ho rfl ?_)
  first
    | exact wpAny_bind (wpAny_pure (wpAny_pure ⟨.none, rfl, wpAny_pure (hQ _ _ hfin (Heap.SameBut.update ..))⟩))
    | exact wpAny_pure ⟨.none, rfl, wpAny_pure (hQ _ _ hfin (Heap.SameBut.update ..))⟩
end
theorem names_filter {g : Str → Pos → Bool} : ∀ {es : List Expr} {xs : List Str}, namesOf es = some xs →
    (es.filterMap fun e => match e with | .Name id pos => if g id pos then some id else none | _ => none).length ≤ es.length ∧
    ((es.filterMap fun e => match e with | .Name id pos => if g id pos then some id else none | _ => none).length = es.length →
      (es.filterMap fun e => match e with | .Name id pos => if g id pos then some id else none | _ => none) = xs ∧ ∀ x ∈ xs, ∃ p, g x p = true)
  | [], xs, h => by cases h; exact ⟨Nat.le_refl _, fun _ => ⟨rfl, fun _ q => nomatch q⟩⟩
  | e :: es, xs, h => by
    obtain ⟨x, p, ys, rfl, h2, rfl⟩ := names_cons h
    obtain ⟨h3, h4⟩ := names_filter (g := g) h2
    simp only [List.filterMap_cons]
    cases hg : g x p with
    | false =>
      simp only [Bool.false_eq_true, if_false]
      exact ⟨Nat.le_succ_of_le h3, fun q => by rw [List.length_cons] at q; omega⟩
    | true =>
      simp only [if_true]
      refine ⟨Nat.succ_le_succ h3, fun q => ?_⟩
      obtain ⟨q1, q2⟩ := h4 (by simpa using q)
      refine ⟨by rw [q1], fun y hy => ?_⟩
      rcases List.mem_cons.mp hy with rfl | hy
      · exact ⟨p, hg⟩
      · exact q2 y hy
theorem assignEach_names {env : Env} : ∀ {es : List Expr} {xs : List Str}, namesOf es = some xs → (assignEach es env).length = xs.length ∧ (assignEach es env).findIdx? (·.1) = none ∧
    ∀ (i : Nat) (f : Value → Sem Unit) x, ((assignEach es env).map (·.2))[i]? = some f → xs[i]? = some x → ∃ p, f = assign (.Name x p) env
  | [], xs, h => by cases h; exact ⟨rfl, rfl, fun i f x h1 _ => nomatch (show (none : Option (Value → Sem Unit)) = some f from h1)⟩
  | e :: es, xs, h => by
    obtain ⟨x, p, ys, rfl, h2, rfl⟩ := names_cons h
    obtain ⟨h3, h4, h5⟩ := assignEach_names (env := env) h2
    have e : assignEach (.Name x p :: es) env = (false, assign (.Name x p) env) :: assignEach es env := rfl
    rw [e]
    refine ⟨by simp [h3], by simp [List.findIdx?_cons, h4], fun i f y h1 h2 => ?_⟩
    cases i with
    | zero => simp at h1 h2; subst h2; exact ⟨p, h1.symm⟩
    | succ i => exact h5 i f y (by simpa using h1) (by simpa using h2)
theorem swapped_of {ts vs : List Expr} {k kv : Nat} {tp vp : Pos} {xs : List Str} {env : Env} (h : namesOf ts = some xs) (hc : vs.all (constantsAlone 8) = false) :
    swappedStores [.Tuple ts k tp] (.Tuple vs kv vp) env = pure none ∨ swappedStores [.Tuple ts k tp] (.Tuple vs kv vp) env = pure (some xs) := by
  unfold swappedStores
  dsimp only
  split
  · exact .inl rfl
  split
  · exact .inl rfl
  split
  · exact .inl rfl
  rename_i hl
  split
  · exact .inl rfl
  rw [hc, if_neg (by decide)]
  right
  have key := (names_filter (g := fun id pos => env.kindOf id == some .local && pos.line == (Option.map (fun x => x.pos.line) ts.head?).getD 0) h).2
  simp only [Bool.or_eq_true, bne_iff_ne, ne_eq, not_or, Decidable.not_not] at hl
  exact congrArg (fun z => (pure (some z) : Sem (Option (List Str)))) (key hl.1).1
section
variable {c : Cx} {A : Around} {sc : Scope} {O : List Str} {env : Env} {Mx M M' : Addr → Prop} {oa oa' oa'' : Str → Addr} {ρ ρ' ρ'' : PEnv} {b b' : List D} {d : D} {h h' h'' : Heap} {x : Str} {v : Value}
theorem upds_out : ∀ (ts : List (Str × Value × D)) (ρ : PEnv) (y : Str), y ∉ ts.map (·.1) → upds ρ ts y = ρ y
  | [], _, _, _ => rfl
  | t :: ts, ρ, y, h => by
    have h1 : y ≠ t.1 := fun q => h (by simp [q])
    have h2 : y ∉ ts.map (·.1) := fun q => h (by rw [List.map_cons]; exact List.mem_cons_of_mem _ q)
    rw [show upds ρ (t :: ts) = upds (upd ρ t.1 t.2.2) ts from rfl, upds_out ts _ y h2]
    unfold upd; rw [if_neg h1]
theorem upds_in : ∀ (ts : List (Str × Value × D)) (ρ : PEnv), (ts.map (·.1)).Nodup → ∀ t ∈ ts, upds ρ ts t.1 = some t.2.2
  | [], _, _, _, ht => by simp at ht
  | u :: ts, ρ, hn, t, ht => by
    have hn' := List.nodup_cons.mp hn
    rw [show upds ρ (u :: ts) = upds (upd ρ u.1 u.2.2) ts from rfl]
    rcases List.mem_cons.mp ht with rfl | ht
    · rw [upds_out ts _ _ hn'.1]; unfold upd; rw [if_pos rfl]
    · exact upds_in ts _ hn'.2 t ht
theorem upds_reverse (ts : List (Str × Value × D)) (ρ : PEnv) (hn : (ts.map (·.1)).Nodup) : upds ρ ts.reverse = upds ρ ts := by
  funext y
  have hn' : (ts.reverse.map (·.1)).Nodup := by rw [List.map_reverse]; exact List.pairwise_reverse.mpr (hn.imp fun q => Ne.symm q)
  by_cases hy : y ∈ ts.map (·.1)
  · obtain ⟨t, ht, rfl⟩ := List.mem_map.mp hy
    rw [upds_in _ _ hn t ht, upds_in _ _ hn' t (List.mem_reverse.mpr ht)]
  · rw [upds_out _ _ _ hy, upds_out _ _ _ (by rw [List.map_reverse]; simpa using hy)]
theorem updAll_upds : ∀ (ts : List (Str × Value × D)) (ρ : PEnv), updAll ρ (ts.map (·.1)) (ts.map (·.2.2)) = some (upds ρ ts)
  | [], _ => rfl
  | t :: ts, ρ => by
    simp only [List.map_cons, updAll]
    exact updAll_upds ts _
theorem Pd_reverse (ts : List (Str × Value × D)) : Pd O ts.reverse = Pd O ts := by
  funext e; apply propext
  simp [Pd]
/-- what all stores of a statement come to -/
theorem stored_out {ts : List (Str × Value × D)} (k : K0 c sc env h h') (ho1 : ∀ x, O.contains x = true → x ∉ ts.map (·.1) → oa' x = oa x) (ho2 : ∀ t ∈ ts, O.contains t.1 = true → t.2.1 = .ref (oa' t.1))
    (hf : ∀ t ∈ ts, O.contains t.1 = true → ∀ a, t.2.1 = .ref a → h.get? a = none) (S : Sx c sc O env Mx oa' (upds ρ ts) b' h') : StOut c sc O env Mx oa ρ h .next (upds ρ ts) b' .next h' := by
  refine ⟨k.ks, rfl, oa', fun x hx hr => ?_, S⟩
  by_cases hm : x ∈ ts.map (·.1)
  · obtain ⟨t, ht, rfl⟩ := List.mem_map.mp hm
    exact .inr (hf t ht hx _ (ho2 t ht hx))
  · rw [upds_out _ _ _ hm] at hr
    exact .inl ⟨x, hx, hr, ho1 x hx hm⟩
end
end Mine

namespace Mine
open PySem PySem.Calls PyProof.Rows
noncomputable def NoDict (o : Obj) : Prop := ∀ es ep, o.data ≠ .dict es ep
theorem NoDict.seq {o : Obj} {ys : Array Value} {n : Nat} (h : o.data = .seq ys n) : NoDict o := fun es ep q => by rw [h] at q; cases q
theorem VR.monoSeq {h h' : Heap} {M M' : Addr → Prop} {B : Addr} (hs : ∀ a o, NoDict o → ¬ M a → h.get? a = some o → ¬ M' a ∧ h'.get? a = some o) {v : Value} {d : D} (x : VR h M B v d) : VR h' M' B v d :=
  VR.rec (motive_1 := fun v d _ => VR h' M' B v d) (motive_2 := fun vs ds _ => VRs h' M' B vs ds) .none .bool .int
    (fun hm hl hn _ ih => .list (let ⟨o, ho, _, _, hd⟩ := hl; (hs _ o (.seq hd) hm ho).1) (let ⟨o, ho, hc, n, hd⟩ := hl; ⟨o, (hs _ o (.seq hd) hm ho).2, hc, n, hd⟩) hn ih)
    (fun hm hl hn _ ih => .tuple (let ⟨o, ho, _, _, hd⟩ := hl; (hs _ o (.seq hd) hm ho).1) (let ⟨o, ho, hc, n, hd⟩ := hl; ⟨o, (hs _ o (.seq hd) hm ho).2, hc, n, hd⟩) hn ih)
    (fun hm hr hl => .rng (hs _ _ (by intro es ep q; cases q) hm hr).1 (hs _ _ (by intro es ep q; cases q) hm hr).2 hl) .box .nil (fun _ _ i1 i2 => .cons i1 i2) x
theorem VRs.monoSeq {h h' : Heap} {M M' : Addr → Prop} {B : Addr} (hs : ∀ a o, NoDict o → ¬ M a → h.get? a = some o → ¬ M' a ∧ h'.get? a = some o) {vs : List Value} {ds : List D} (r : VRs h M B vs ds) : VRs h' M' B vs ds := r.ind .nil fun _ _ _ _ h1 _ ih => .cons (h1.monoSeq hs) ih
section
variable {c : Cx} {A : Around} {sc : Scope} {O : List Str} {env : Env} {Mx Mx' M M' : Addr → Prop} {oa oa' oa'' : Str → Addr} {ρ ρ' ρ'' : PEnv} {b b' : List D} {d : D} {h h' h'' : Heap} {x y : Str} {v : Value}
theorem Slot.kept {a : Addr} (q : Slot h env x v) (k : ∀ e o, e ≠ a → h.get? e = some o → h'.get? e = some o) (hL : env.locals ≠ a) (hC : ∀ y e, env.cells.lookup y = some e → e ≠ a) : Slot h' env x v := by
  rcases q with ⟨q1, m, hn, hm⟩ | ⟨q1, e, he, o, ho, hd⟩
  · exact .inl ⟨q1, m, hn.at' fun o e => k _ o hL e, hm⟩
  · exact .inr ⟨q1, e, he, o, k _ o (hC x e he) ho, hd⟩
theorem Wr.kept {a : Addr} (W : Wr sc env M h) (k : ∀ e o, e ≠ a → h.get? e = some o → h'.get? e = some o) (hL : env.locals ≠ a) (hC : ∀ y e, env.cells.lookup y = some e → e ≠ a) : Wr sc env M h' where
  ns := let ⟨m, hn⟩ := W.ns; ⟨m, hn.at' fun o e => k _ o hL e⟩
  mL := W.mL
  cells := fun y e he => let ⟨⟨v, o, ho, hd⟩, hm⟩ := W.cells y e he; ⟨⟨v, o, k _ o (hC y e he) ho, hd⟩, hm⟩
  apart := W.apart
  loc := W.loc
/-- a comprehension's own place is let go -/
theorem Sx.but {C : Addr} (S : Sx c sc O env Mx oa ρ b h) (hk : ∃ o es ep, h.get? C = some o ∧ o.data = .dict es ep) (hM : ¬ Mo O Mx oa ρ C) (hT : c.hT.get? C = none)
    (k : ∀ a o, a ≠ C → h.get? a = some o → h'.get? a = some o) : Sx c sc O env Mx oa ρ b h' := by
  obtain ⟨oC, es, ep, hC, hCd⟩ := hk
  have ks : ∀ a o, NoDict o → h.get? a = some o → h'.get? a = some o := fun a o hd e => k a o (fun q => by rw [q, hC] at e; cases Option.some.inj e; exact hd _ _ hCd) e
  have vm : ∀ {v d}, VR h (Mo O Mx oa ρ) c.B v d → VR h' (Mo O Mx oa ρ) c.B v d := fun q => q.monoSeq fun a o hd hm e => ⟨hm, ks a o hd e⟩
  have vms : ∀ {v d}, VRs h (Mo O Mx oa ρ) c.B v d → VRs h' (Mo O Mx oa ρ) c.B v d := fun q => q.monoSeq fun a o hd hm e => ⟨hm, ks a o hd e⟩
  have neM : ∀ a, Mo O Mx oa ρ a → a ≠ C := fun a hm q => hM (q ▸ hm)
  have hL : env.locals ≠ C := neM _ (.inl S.mL)
  have hCl : ∀ y e, env.cells.lookup y = some e → e ≠ C := fun y e q => neM _ (.inl (S.mC y e q))
  have own : ∀ x d, O.contains x = true → ρ x = some d → Slot h' env x (.ref (oa x)) ∧ ∃ vs n ds, d = .list ds ∧ h'.get? (oa x) = some { cls := .type "list", data := .seq (List.toArray vs) n } ∧
    VRs h' (Mo O Mx oa ρ) c.B vs ds ∧ vs.length ≤ lim := fun x d hx e => by
      obtain ⟨sl, vs, n, ds, rfl, h1, h2, h3⟩ := S.own x d hx e
      exact ⟨sl.kept k hL hCl, vs, n, ds, rfl, ks _ _ (.seq rfl) h1, vms h2, h3⟩
  refine ⟨{ kind := S.rd.kind, glob := S.rd.glob, bi := S.rd.bi, gl := S.rd.gl, nd := S.rd.nd, dom := S.rd.dom, cl := S.rd.cl
            base := fun a o e => k a o (fun q => by rw [q, hT] at e; cases e) (S.rd.base a o e)
            m := ⟨S.rd.m.box, fun a hm => let ⟨o, e⟩ := S.rd.m.live a hm; ⟨o, k a o (neM a hm) e⟩, S.rd.m.low⟩
            vars := fun x d e => by
              obtain ⟨v, h1, h2, h3⟩ := S.rd.vars x d e
              refine ⟨v, h1.kept k hL hCl, fun q => vm (h2 q), fun q => ?_⟩
              obtain ⟨a, vs, n, ds, e1, e2, e3, e4, e5, e6⟩ := h3 q
              exact ⟨a, vs, n, ds, e1, e2, ks _ _ (.seq rfl) e3, vms e4, e5, e6⟩
            box := let ⟨i, k', t, u, n, e, q⟩ := S.rd.box; ⟨i, k', t, u, n, e, ks _ _ (.seq rfl) q⟩
            wr := S.rd.wr.kept k hL hCl }, own, S.nx, S.inj, S.mB, S.mL, S.mC⟩
/-- new places that something else turns -/
theorem Sx.more {W : Addr → Prop} (ok : c.Ok) (S : Sx c sc O env Mx oa ρ b h) (k : KX c.B h h') (y : BoxR c h' b') (h0 : ∀ a, W a → h.get? a = none) (h1 : ∀ a, W a → ∃ o, h'.get? a = some o) : Sx c sc O env (fun e => Mx e ∨ W e) oa ρ b' h' := by
  have S' := S.expr ok k y
  have low : ∀ a, W a → c.hT.get? a = none := fun a hw => by
    cases e : c.hT.get? a with
    | none => rfl
    | some o => have := h0 a hw; rw [S.rd.base _ _ e] at this; cases this
  have hsub : ∀ e, Mo O (fun e => Mx e ∨ W e) oa ρ e → Mo O Mx oa ρ e ∨ W e := fun e q => by
    rcases q with (q | q) | q
    · exact .inl (.inl q)
    · exact .inr q
    · exact .inl (.inr q)
  have vm : ∀ {v d}, VR h (Mo O Mx oa ρ) c.B v d → VR h' (Mo O (fun e => Mx e ∨ W e) oa ρ) c.B v d := fun q => q.mono fun e o hm g =>
    ⟨fun q => (hsub e q).elim hm fun q => (by rw [h0 e q] at g; cases g), k e o (fun q => hm (q ▸ S.rd.m.box)) g⟩
  have vms : ∀ {v d}, VRs h (Mo O Mx oa ρ) c.B v d → VRs h' (Mo O (fun e => Mx e ∨ W e) oa ρ) c.B v d := fun q => q.mono fun e o hm g =>
    ⟨fun q => (hsub e q).elim hm fun q => (by rw [h0 e q] at g; cases g), k e o (fun q => hm (q ▸ S.rd.m.box)) g⟩
  refine ⟨{ kind := S'.rd.kind, glob := S'.rd.glob, bi := S'.rd.bi, gl := S'.rd.gl, nd := S'.rd.nd, dom := S'.rd.dom, cl := S'.rd.cl, base := S'.rd.base, box := y
            m := ⟨.inl (.inl S.mB), fun e hm => (hsub e hm).elim (S'.rd.m.live e) (h1 e), fun e hm => (hsub e hm).elim (S'.rd.m.low e) (low e)⟩
            vars := fun x d e => by
              obtain ⟨v, g1, g2, g3⟩ := S.rd.vars x d e
              refine ⟨v, g1.keep S.rd.box.seq k, fun q => vm (g2 q), fun q => ?_⟩
              obtain ⟨a', vs, n, ds, e1, e2, e3, e4, e5, e6⟩ := g3 q
              exact ⟨a', vs, n, ds, e1, e2, k _ _ e6 e3, vms e4, e5, e6⟩
            wr := S'.rd.wr.mono (.inl (.inl S.mL)) fun x a e => .inl (.inl (S.mC x a e)) }, fun x d hx e => ?_, fun x hx e => ?_, S.inj, .inl S.mB, .inl S.mL, fun x a e => .inl (S.mC x a e)⟩
  · obtain ⟨sl, vs, n, ds, rfl, g1, g2, g3⟩ := S.own x d hx e
    have hne : oa x ≠ c.B := fun q => S.nx x hx (by rw [e]; simp) (q ▸ S.mB)
    exact ⟨sl.keep S.rd.box.seq k, vs, n, ds, rfl, k _ _ hne g1, vms g2, g3⟩
  · rintro (q | q)
    · exact S.nx x hx e q
    · obtain ⟨d, hd⟩ := Option.ne_none_iff_exists'.mp e
      obtain ⟨_, vs, n, ds, _, g1, _⟩ := S.own x d hx hd
      rw [h0 _ q] at g1; cases g1
/-- an own list is given away -/
theorem Sx.gone (S : Sx c sc O env Mx oa ρ b h) (y : Str) : Sx c sc O env Mx oa (del ρ y) b h := by
  have dl : ∀ {x d}, del ρ y x = some d → x ≠ y ∧ ρ x = some d := fun {x d} e => by
    unfold del at e
    split at e
    · cases e
    · rename_i q; exact ⟨q, e⟩
  have dn : ∀ {x}, del ρ y x ≠ none → ρ x ≠ none := fun {x} e => by
    obtain ⟨d, hd⟩ := Option.ne_none_iff_exists'.mp e
    rw [(dl hd).2]; simp
  have hs : ∀ a, Mo O Mx oa (del ρ y) a → Mo O Mx oa ρ a := fun a q => q.imp id fun ⟨x, h1, h2, h3⟩ => ⟨x, h1, dn h2, h3⟩
  have vm : ∀ {v d}, VR h (Mo O Mx oa ρ) c.B v d → VR h (Mo O Mx oa (del ρ y)) c.B v d := fun q => q.mono fun a o hm e => ⟨fun q => hm (hs a q), e⟩
  have vms : ∀ {v d}, VRs h (Mo O Mx oa ρ) c.B v d → VRs h (Mo O Mx oa (del ρ y)) c.B v d := fun q => q.mono fun a o hm e => ⟨fun q => hm (hs a q), e⟩
  refine ⟨{ kind := S.rd.kind, glob := S.rd.glob, bi := S.rd.bi, gl := S.rd.gl, nd := S.rd.nd, cl := S.rd.cl, base := S.rd.base
            dom := fun x d e => S.rd.dom x d (dl e).2
            m := ⟨.inl S.mB, fun a hm => S.rd.m.live a (hs a hm), fun a hm => S.rd.m.low a (hs a hm)⟩
            vars := fun x d e => by
              obtain ⟨v, h1, h2, h3⟩ := S.rd.vars x d (dl e).2
              refine ⟨v, h1, fun q => vm (h2 q), fun q => ?_⟩
              obtain ⟨a, vs, n, ds, e1, e2, e3, e4, e5, e6⟩ := h3 q
              exact ⟨a, vs, n, ds, e1, e2, e3, vms e4, e5, e6⟩
            box := S.rd.box
            wr := S.rd.wr.mono (.inl S.mL) fun x a e => .inl (S.mC x a e) }, fun x d hx e => ?_, fun x hx e q => S.nx x hx (dn e) q, fun x z hx hz e1 e2 q => S.inj x z hx hz (dn e1) (dn e2) q, S.mB, S.mL, S.mC⟩
  obtain ⟨sl, vs, n, ds, rfl, h1, h2, h3⟩ := S.own x d hx (dl e).2
  exact ⟨sl, vs, n, ds, rfl, h1, vms h2, h3⟩
theorem Sx.given (S : Sx c sc O env Mx oa ρ b h) (ho : O.contains y = true) (e : ρ y = some d) : VR h (Mo O Mx oa (Mine.del ρ y)) c.B (.ref (oa y)) d := by
  obtain ⟨sl, vs, n, ds, rfl, h1, h2, h3⟩ := S.own y d ho e
  have hne : ρ y ≠ none := by rw [e]; simp
  refine .list (fun q => ?_) ⟨_, h1, rfl, n, rfl⟩ h3 (h2.mono fun a o hm e => ⟨fun q => hm ?_, e⟩)
  · rcases q with q | ⟨x, q1, q2, q3⟩
    · exact S.nx y ho hne q
    · unfold Mine.del at q2
      split at q2
      · exact q2 rfl
      · rename_i q4; exact q4 (S.inj x y q1 ho q2 hne q3)
  · refine q.imp id fun ⟨x, q1, q2, q3⟩ => ⟨x, q1, ?_, q3⟩
    unfold Mine.del at q2
    split at q2
    · exact absurd rfl q2
    · exact q2
/-- an own list is turned -/
theorem Sx.turn {vs' : List Value} {n' : Nat} {ds ds' : List D} (S : Sx c sc O env Mx oa ρ b h) (ho : O.contains x = true) (e : ρ x = some (.list ds)) (k : ∀ a o, a ≠ oa x → h.get? a = some o → h'.get? a = some o)
    (h1 : h'.get? (oa x) = some { cls := .type "list", data := .seq (List.toArray vs') n' }) (h2 : VRs h (Mo O Mx oa ρ) c.B vs' ds') (h3 : vs'.length ≤ lim) : Sx c sc O env Mx oa (upd ρ x (.list ds')) b h' := by
  have hne : ρ x ≠ none := by rw [e]; simp
  have un : ∀ {y}, upd ρ x (.list ds') y ≠ none ↔ ρ y ≠ none := fun {y} => by
    unfold upd
    split
    · rename_i q; subst q; exact ⟨fun _ => hne, fun _ => by simp⟩
    · exact Iff.rfl
  have hMo : Mo O Mx oa (upd ρ x (.list ds')) = Mo O Mx oa ρ := by
    funext a; apply propext
    exact or_congr Iff.rfl ⟨fun ⟨y, q1, q2, q3⟩ => ⟨y, q1, un.mp q2, q3⟩, fun ⟨y, q1, q2, q3⟩ => ⟨y, q1, un.mpr q2, q3⟩⟩
  have hMx : Mo O Mx oa ρ (oa x) := .inr ⟨x, ho, hne, rfl⟩
  have kM : ∀ a o, ¬ Mo O Mx oa ρ a → h.get? a = some o → h'.get? a = some o := fun a o hm e => k a o (fun q => hm (q ▸ hMx)) e
  have vm : ∀ {v d}, VR h (Mo O Mx oa ρ) c.B v d → VR h' (Mo O Mx oa ρ) c.B v d := fun q => q.mono fun a o hm e => ⟨hm, kM a o hm e⟩
  have vms : ∀ {v d}, VRs h (Mo O Mx oa ρ) c.B v d → VRs h' (Mo O Mx oa ρ) c.B v d := fun q => q.mono fun a o hm e => ⟨hm, kM a o hm e⟩
  have hL : env.locals ≠ oa x := fun q => S.nx x ho hne (q ▸ S.mL)
  have hCl : ∀ y e, env.cells.lookup y = some e → e ≠ oa x := fun y e q q' => S.nx x ho hne (q' ▸ S.mC y e q)
  have hB : c.B ≠ oa x := fun q => S.nx x ho hne (q ▸ S.mB)
  have own : ∀ y d, O.contains y = true → upd ρ x (.list ds') y = some d → Slot h' env y (.ref (oa y)) ∧ ∃ vs n ds, d = .list ds ∧ h'.get? (oa y) = some { cls := .type "list", data := .seq (List.toArray vs) n } ∧
      VRs h' (Mo O Mx oa ρ) c.B vs ds ∧ vs.length ≤ lim := fun y d hy q => by
    unfold upd at q
    split at q
    · rename_i q'; subst q'; cases q
      exact ⟨(S.own _ _ ho e).1.kept k hL hCl, vs', n', ds', rfl, h1, vms h2, h3⟩
    · rename_i q'
      obtain ⟨sl, vs, n, ds, rfl, g1, g2, g3⟩ := S.own y d hy q
      exact ⟨sl.kept k hL hCl, vs, n, ds, rfl, k _ _ (fun q4 => q' (S.inj y x hy ho (by rw [q]; simp) hne q4)) g1, vms g2, g3⟩
  refine ⟨by
    rw [hMo]
    exact { kind := S.rd.kind, glob := S.rd.glob, bi := S.rd.bi, gl := S.rd.gl, nd := S.rd.nd, cl := S.rd.cl
            dom := fun y d q => by
              unfold upd at q
              split at q
              · rename_i q'; subst q'; exact S.rd.dom _ _ e
              · exact S.rd.dom y d q
            base := fun a o q => kM a o (fun q' => by have := S.rd.m.low a q'; rw [q] at this; cases this) (S.rd.base a o q)
            m := ⟨S.rd.m.box, fun a hm => by
              by_cases q : a = oa x
              · exact ⟨_, q ▸ h1⟩
              · obtain ⟨o, q'⟩ := S.rd.m.live a hm; exact ⟨o, k a o q q'⟩, S.rd.m.low⟩
            vars := fun y d q => by
              cases hy : O.contains y with
              | true =>
                obtain ⟨sl, vs, n, ds, rfl, g1, g2, g3⟩ := own y d hy q
                exact ⟨_, sl, fun q => by simp at q, fun _ => ⟨_, vs, n, ds, rfl, rfl, g1, g2, g3, fun q' => by
                  have := S.nx y hy (un.mp (by rw [q]; simp))
                  exact this (q' ▸ S.mB)⟩⟩
              | false =>
                have hyx : y ≠ x := fun q => by rw [q, ho] at hy; cases hy
                unfold upd at q; rw [if_neg hyx] at q
                obtain ⟨w, g1, g2, _⟩ := S.rd.vars y d q
                exact ⟨w, g1.kept k hL hCl, fun _ => vm (g2 hy), fun q => by simp at q⟩
            box := let ⟨i, k', t, u, n, e, q⟩ := S.rd.box; ⟨i, k', t, u, n, e, k _ _ hB q⟩
            wr := S.rd.wr.kept k hL hCl }, fun y d hy q => by rw [hMo]; exact own y d hy q, fun y hy q => S.nx y hy (un.mp q), fun y z hy hz q1 q2 q => S.inj y z hy hz (un.mp q1) (un.mp q2) q, S.mB, S.mL, S.mC⟩
end
end Mine

namespace Mine
open PySem PySem.Calls PyProof.Rows
/-- a comprehension's own place may be let go behind the store -/
noncomputable def Goes (M : Addr → Prop) (h h₂ h₃ : Heap) : Prop :=
  h₃ = h₂ ∨ ∃ C, h.get? C = none ∧ ¬ M C ∧ (∃ o es ep, h₂.get? C = some o ∧ o.data = .dict es ep) ∧ ∀ a o, a ≠ C → h₂.get? a = some o → h₃.get? a = some o
section
variable {c : Cx} {A : Around} {sc : Scope} {O : List Str} {env : Env} {Mx Mx' M M' : Addr → Prop} {oa oa' oa'' : Str → Addr} {ρ ρ' ρ'' : PEnv} {b b' : List D} {d : D} {h h' h'' h₁ h₂ h₃ : Heap} {x y : Str} {v : Value}
theorem Sx.goes (S : Sx c sc O env Mx oa ρ b h₂) (base : ∀ a o, c.hT.get? a = some o → h.get? a = some o) (g : Goes M h h₂ h₃) (sub : ∀ a, Mo O Mx oa ρ a → h.get? a = none → M a ∨ ∃ o ys n, h₂.get? a = some o ∧ o.data = .seq ys n) : Sx c sc O env Mx oa ρ b h₃ := by
  rcases g with rfl | ⟨C, h0, hM, hk, k⟩
  · exact S
  · refine S.but hk (fun q => ?_) ?_ k
    · rcases sub C q h0 with q | ⟨o, ys, n, q1, q2⟩
      · exact hM q
      · obtain ⟨o', es, ep, e1, e2⟩ := hk
        rw [q1] at e1; cases Option.some.inj e1; rw [q2] at e2; cases e2
    · cases e : c.hT.get? C with
      | none => rfl
      | some o => rw [base _ _ e] at h0; cases h0
theorem Goes.k0 (g : Goes M h h₂ h₃) (k : K0 c sc env h h₂) : K0 c sc env h h₃ := by
  rcases g with rfl | ⟨C, h0, hM, hk, kk⟩
  · exact k
  · have ne : ∀ a o, h.get? a = some o → a ≠ C := fun a o e q => by rw [q, h0] at e; cases e
    exact ⟨fun a o q1 q2 e => kk a o (ne a o e) (k.kp a o q1 q2 e), fun a o e => let ⟨o', e'⟩ := k.al a o e; ⟨o', kk a o' (ne a o e) e'⟩⟩
/-- what a name is given -/
noncomputable abbrev NGoes (c : Cx) (sc : Scope) (env : Env) (M : Addr → Prop) (x : Str) (e : Expr) (s : Shared) (Mv : Value → Addr → Prop) (Q : Flow → Shared → Prop) (d : D) (b' : List D) : Prop :=
  ∀ (v : Value) (h₁ : Heap) (tk₁ : Tok), KX c.B s.heap h₁ → BoxR c h₁ b' → VR h₁ M c.B v d → (isFresh e = true → ∀ ds, d = .list ds → NewL s.heap h₁ M c.B v ds) →
      ∀ (h₂ : Heap) (tk₂ : Tok) (h₃ : Heap), Stored sc env (Mv v) [x] h₁ h₂ → Slot h₂ env x v → Wr sc env (Mv v) h₂ → Goes M s.heap h₂ h₃ → Q .next { s with heap := h₃, toks := tk₂ }
theorem name_store (ok : c.Ok) (ha : AOk A) {e : Expr} {p pos : Pos} {s : Shared} {Q : Flow → Shared → Prop} {P : D → List D → Prop} (hs : ∀ env, swapsWith e (some (.Name x p)) pos.line env = pure false) (h : EV c A sc O e ρ b P) (R : Rd c sc O env M ρ b s.heap) (hx : locIn sc x = true) (Mv : Value → Addr → Prop) (hMv : ∀ v a, M a → Mv v a)
    (g : ∀ d b', P d b' → NGoes c sc env M x e s Mv Q d b') : wpAny (model c.prog c.w) A (exec (.Assign [.Name x p] e pos) env) Q NoE s := by
  refine wpAny_Assign_Name ?_ (hs env)
  refine h ok ha env M s _ R fun d b' hP v h₁ tk₁ k x₁ r nl => ?_
  have W₁ : Wr sc env (Mv v) h₁ := (R.wr.keep k R.box).mono (hMv _ _ R.wr.mL) fun x a e => hMv _ _ (R.wr.cells x a e).2
  exact store_raw R.kind W₁ hx fun h₂ tk₂ st sl W => g d b' hP v h₁ tk₁ k x₁ r nl h₂ tk₂ h₂ st sl W (.inl rfl)
theorem comp_store (ok : c.Ok) (ha : AOk A) {csc : Scope} {elt tg iter : Expr} {ifs : List Expr} {p pos cpos : Pos} {s : Shared} {Q : Flow → Shared → Prop} {P : D → List D → Prop} (hcc : (compOk sc csc && tgOk iter tg) = true) (hset : ∀ env x, foldedSetIterable iter env x = pure x)
    (h : EI c A sc O iter ρ b fun items b₁ => CL c A csc O tg elt ifs (free csc ρ) items b₁ fun ds b₂ => P (.list ds) b₂) (R : Rd c sc O env M ρ b s.heap) (hx : locIn sc x = true) (Mv : Value → Addr → Prop) (hMv : ∀ v a, M a → Mv v a)
    (g : ∀ d b', P d b' → NGoes c sc env M x (.ListComp elt [⟨tg, iter, ifs, 0⟩] csc cpos) s Mv Q d b') : wpAny (model c.prog c.w) A (exec (.Assign [.Name x p] (.ListComp elt [⟨tg, iter, ifs, 0⟩] csc cpos) pos) env) Q NoE s := by
  obtain ⟨t, ht⟩ : ∃ t, swapsWith (.ListComp elt [⟨tg, iter, ifs, 0⟩] csc cpos) (some (.Name x p)) pos.line env = pure t := ⟨_, rfl⟩
  cases t with
  | false =>
    refine wpAny_Assign_Name ?_ ht
    refine r_comp hcc hset h ok ha env M s _ R fun d b' hP v h₁ tk₁ k x₁ r nl => ?_
    have W₁ : Wr sc env (Mv v) h₁ := (R.wr.keep k R.box).mono (hMv _ _ R.wr.mL) fun x a e => hMv _ _ (R.wr.cells x a e).2
    exact store_raw R.kind W₁ hx fun h₂ tk₂ st sl W => g d b' hP v h₁ tk₁ k x₁ r nl h₂ tk₂ h₂ st sl W (.inl rfl)
  | true =>
    rw [exec_Assign_Name_used _ _ _ _ ht]
    refine wpAny_bind (wpAny_standAt (wpAny_bind ?_))
    have q := comp_core ok ha (s := s) (Q := fun _ s' => Q .next s') (pos := cpos) hcc hset h R (some (assign (.Name x p) env)) (firstIterPos [⟨tg, iter, ifs, 0⟩] cpos) fun ds b' hP h₁ tk₁ C Dd E => by
      refine PyProof.Rows.assign_Name ?_
      have W₁ : Wr sc env (Mv (.ref Dd)) h₁ := (R.wr.keep E.k R.box).mono (hMv _ _ R.wr.mL) fun x a e => hMv _ _ (R.wr.cells x a e).2
      refine store_raw (s := { s with heap := h₁, toks := tk₁ }) R.kind W₁ hx fun h₂ tk₂ st sl W => ?_
      obtain ⟨m, hn⟩ := E.ns
      have hX : ¬ Xc sc env C := fun q => by
        have : M C := by
          rcases q with rfl | ⟨y, _, _, q⟩
          · exact R.wr.mL
          · exact (R.wr.cells y C q).2
        exact E.CM this
      have hn₂ : h₂.Ns C m := hn.at' fun o e => st.k C o hX e
      refine ⟨m, hn₂, fun h₃ hs => ?_⟩
      obtain ⟨vs, nn, e1, q1, hl, q2⟩ := E.l
      have hMD : ¬ M Dd := fun q => by
        obtain ⟨o, e⟩ := R.m.live _ q
        rw [E.D0] at e; cases e
      obtain ⟨oC, es, ep, eC, dC⟩ := Ns.kind hn₂
      refine g _ _ hP (.ref Dd) h₁ tk₁ E.k E.x (.list hMD ⟨_, e1, rfl, nn, rfl⟩ hl q1) (fun _ ds' e => ?_) h₂ tk₂ h₃ st sl W (.inr ⟨C, E.C0, E.CM, ⟨oC, es, ep, eC, dC⟩, fun a o q e => hs.extBut a o q e⟩)
      cases e
      exact ⟨Dd, vs, nn, rfl, E.D0, e1, q2.mono fun a o hm e => ⟨fun q => hm (q.imp id .inr), e⟩, hl⟩
    show wpAny _ A (evalThenUse (.ListComp elt [⟨tg, iter, ifs, 0⟩] csc cpos) env (assign (.Name x p) env)) _ _ s
    have e1 : evalThenUse (.ListComp elt [⟨tg, iter, ifs, 0⟩] csc cpos) env (assign (.Name x p) env) = (do
      let _ ← comprehension (.ListComp elt [⟨tg, iter, ifs, 0⟩] csc cpos) csc env (firstIterPos [⟨tg, iter, ifs, 0⟩] cpos) (newList []) false (eval iter env) (some (assign (.Name x p) env))
      pure ()) := rfl
    rw [e1]
    exact wpAny_bind (wpAny_mono q (fun _ _ h => wpAny_pure (wpAny_pure h)) fun _ _ h => h)
/-- a plain name's -/
theorem plain_goes (ok : c.Ok) {s : Shared} {e : Expr} {Q : Flow → Shared → Prop} (SX : Sx c sc O env Mx oa ρ b s.heap) (hx : locIn sc x = true) (ho : O.contains x = false)
    (P : ∀ flv h' tk', StOut c sc O env Mx oa ρ s.heap .next (upd ρ x d) b' flv h' → Q flv { s with heap := h', toks := tk' }) : NGoes c sc env (Mo O Mx oa ρ) x e s (fun _ => Mo O Mx oa ρ) Q d b' := fun v h₁ tk₁ k x₁ r nl h₂ tk₂ h₃ st sl W g => by
  have S₂ := (SX.expr ok k x₁).store hx ho st sl W r
  have S₃ := S₂.goes SX.rd.base g (fun a q e => .inl (by rw [Mo_upd ho] at q; exact q))
  refine P _ _ _ ⟨(g.k0 ((K0.ofX k x₁).trans (K0.ofStored st))).ks, rfl, oa, fun y hy hr => .inl ⟨y, hy, ?_, rfl⟩, S₃⟩
  have : y ≠ x := fun q => by rw [q, ho] at hy; cases hy
  unfold upd at hr; rw [if_neg this] at hr; exact hr
/-- an own name's -/
theorem own_goes (ok : c.Ok) {s : Shared} {e : Expr} {Q : Flow → Shared → Prop} (SX : Sx c sc O env Mx oa ρ b s.heap) (hx : locIn sc x = true) (ho : O.contains x = true) (hf : isFresh e = true) (hl : isList d = true)
    (P : ∀ flv h' tk', StOut c sc O env Mx oa ρ s.heap .next (upd ρ x d) b' flv h' → Q flv { s with heap := h', toks := tk' }) : NGoes c sc env (Mo O Mx oa ρ) x e s (fun v a => Mo O (fun e => Mx e ∨ v = .ref e) oa ρ a) Q d b' := fun v h₁ tk₁ k x₁ r nl h₂ tk₂ h₃ st sl W g => by
  obtain ⟨ds, rfl⟩ : ∃ ds', d = .list ds' := by cases d <;> simp [isList] at hl <;> exact ⟨_, rfl⟩
  obtain ⟨a, vs, m, rfl, q1, q2, q3, q4⟩ := nl hf ds rfl
  have eM : (fun e => Mx e ∨ Value.ref a = .ref e) = fun e => Mx e ∨ e = a := by
    funext e; apply propext
    exact or_congr Iff.rfl ⟨fun q => by cases q; rfl, fun q => by rw [q]⟩
  have st : Stored sc env (Mo O (fun e => Mx e ∨ Value.ref a = .ref e) oa ρ) [x] h₁ h₂ := st
  have W : Wr sc env (Mo O (fun e => Mx e ∨ Value.ref a = .ref e) oa ρ) h₂ := W
  rw [eM] at st W
  have S₁ := SX.pend ok k x₁ q1 q2
  have hna : ¬ Mx a := fun q => by
    obtain ⟨o, e⟩ := SX.rd.m.live a (.inl q)
    rw [q1] at e; cases e
  have q3' : VRs h₁ (Mo O (fun e => Mx e ∨ e = a) oa ρ) c.B vs ds := q3.mono fun e o hm g => ⟨fun q => hm (by
    rcases q with (q | q) | q
    · exact .inl (.inl q)
    · exact .inr q
    · exact .inl (.inr q)), g⟩
  have S₂ := S₁.storeOwn SX.mB SX.mL SX.mC hna hx ho q2 q3' q4 st sl W
  have S₃ := S₂.goes SX.rd.base g (fun e q h0 => by
    rcases Mo_own_sub e q with (q | q) | q
    · exact .inl (.inl q)
    · exact .inr ⟨_, _, _, q ▸ st.seq _ _ _ _ rfl q2, rfl⟩
    · exact .inl (.inr q))
  refine P _ _ _ ⟨(g.k0 ((K0.ofX k x₁).trans (K0.ofStored st))).ks, rfl, _, fun y hy hr => ?_, S₃⟩
  by_cases q : y = x
  · rw [if_pos q]; exact .inr q1
  · rw [if_neg q]
    unfold upd at hr; rw [if_neg q] at hr
    exact .inl ⟨y, hy, hr, rfl⟩
/-- a name is given another name's value; an own list is given away -/
theorem name_move {p q pos : Pos} {s : Shared} {Q : Flow → Shared → Prop} (h : ρ y = some d) (SX : Sx c sc O env Mx oa ρ b s.heap) (hx : locIn sc x = true) (ho : O.contains x = false)
    (P : ∀ flv h' tk', StOut c sc O env Mx oa ρ s.heap .next (upd (if O.contains y then del ρ y else ρ) x d) b flv h' → Q flv { s with heap := h', toks := tk' }) : wpAny (model c.prog c.w) A (exec (.Assign [.Name x p] (.Name y q) pos) env) Q NoE s := by
  refine wpAny_Assign_Name ?_
  have fin : ∀ {v : Value} {ρ₁ : PEnv}, Slot s.heap env y v → Sx c sc O env Mx oa ρ₁ b s.heap → VR s.heap (Mo O Mx oa ρ₁) c.B v d → (∀ z, ρ₁ z ≠ none → ρ z ≠ none) → (if O.contains y then del ρ y else ρ) = ρ₁ → 
      wpAny (model c.prog c.w) A (eval (.Name y q) env) (fun v s₁ => wpAny (model c.prog c.w) A (storeName env x v) (fun _ => Q .next) NoE s₁) NoE s := fun {v ρ₁} sl S₁ r hr hρ => by
    refine load_snd SX.rd sl h (store_raw SX.rd.kind S₁.rd.wr hx fun h₂ tk₂ st sl W => ?_)
    have S₂ := S₁.store hx ho st sl W r
    rw [hρ] at P
    refine P _ _ _ ⟨(K0.ofStored st).ks, rfl, oa, fun z hz q => .inl ⟨z, hz, ?_, rfl⟩, S₂⟩
    have : z ≠ x := fun q => by rw [q, ho] at hz; cases hz
    unfold upd at q; rw [if_neg this] at q; exact hr z q
  cases hy : O.contains y with
  | false =>
    obtain ⟨v, h1, h2, _⟩ := SX.rd.vars y d h
    exact fin h1 SX (h2 hy) (fun _ q => q) (by rw [hy]; rfl)
  | true =>
    refine fin (SX.own y d hy h).1 (SX.gone y) (SX.given hy h) (fun z q q' => q ?_) (by rw [hy]; rfl)
    unfold del; split
    · rfl
    · exact q'
end
end Mine

namespace Mine
open PySem PySem.Calls PyProof.Rows
section
variable {c : Cx} {A : Around} {sc : Scope} {O : List Str} {env : Env} {Mx Mx' M M' : Addr → Prop} {oa oa' oa'' : Str → Addr} {ρ ρ' ρ'' : PEnv} {b b' : List D} {d : D} {h h' h'' h₁ h₂ h₃ : Heap} {x y : Str} {v : Value}
/-- a tuple's items are stored into names -/
theorem tuple_stores (ok : c.Ok) {xs : List Str} {ts : List (Str × Value × D)} {s s₀ : Shared} {Q : Flow → Shared → Prop} (SX : Sx c sc O env Mx oa ρ b s₀.heap) (hxs : ∀ x ∈ xs, locIn sc x = true) (hn : xs.Nodup) (ex : ts.map (·.1) = xs)
    (k : K0 c sc env s₀.heap s.heap) (S : Sx c sc O env (fun e => Mx e ∨ Pd O ts e) oa ρ b' s.heap) (hw : ∀ t ∈ ts, Wt O s.heap (Mo O (fun e => Mx e ∨ Pd O ts e) oa ρ) c.B t)
    (hf : ∀ t ∈ ts, O.contains t.1 = true → ∀ a, t.2.1 = .ref a → s₀.heap.get? a = none) (hp : ts.Pairwise (fun (t u : Str × Value × D) => O.contains t.1 = true → O.contains u.1 = true → t.2.1 ≠ u.2.1))
    {s₁ : Shared} (es : s₁ = { s with heap := s₁.heap, toks := s₁.toks }) (e0 : s = { s₀ with heap := s.heap, toks := s.toks }) (he : ∀ a o, s.heap.get? a = some o → s₁.heap.get? a = some o)
    (P : ∀ flv h' tk', StOut c sc O env Mx oa ρ s₀.heap .next (upds ρ ts) b' flv h' → Q flv { s₀ with heap := h', toks := tk' }) :
    (∀ fs : List (Value → Sem Unit), fs.length = xs.length → (∀ (i : Nat) (f : Value → Sem Unit) x, fs[i]? = some f → xs[i]? = some x → ∃ p, f = assign (.Name x p) env) →
      wpAny (model c.prog c.w) A (assignInOrder fs (ts.map (·.2.1))) (fun _ => Q .next) NoE s₁) ∧
    wpAny (model c.prog c.w) A (assignInOrder (xs.reverse.map fun n => bindName env n) (ts.map (·.2.1)).reverse) (fun _ => Q .next) NoE s₁ := by
  have k₁ : KX c.B s.heap s₁.heap := fun a o _ e => he a o e
  have x₁ : BoxR c s₁.heap b' := S.rd.box.keep he
  have S₁ := S.expr ok k₁ x₁
  have hw₁ : ∀ t ∈ ts, Wt O s₁.heap (Mo O (fun e => Mx e ∨ Pd O ts e) oa ρ) c.B t := fun t ht => by
    refine (hw t ht).mono (c := c) (fun a o hm e => ⟨hm, he a o e⟩) (fun a o _ _ _ _ e => he a o e) fun a q e q' => ?_
    have := hf t ht q a e
    obtain ⟨T, ys, nn, e'⟩ := SX.rd.box.seq
    rw [q', e'] at this; cases this
  have hM : ∀ t ∈ ts, O.contains t.1 = true → ∀ a, t.2.1 = .ref a → ¬ Mx a := fun t ht hto a e q => by
    obtain ⟨o, e'⟩ := SX.rd.m.live a (.inl q)
    rw [hf t ht hto a e] at e'; cases e'
  have hl : ∀ t ∈ ts, locIn sc t.1 = true := fun t ht => hxs _ (ex ▸ List.mem_map_of_mem (f := (·.1)) ht)
  have hn' : (ts.map (·.1)).Nodup := ex ▸ hn
  have fin : ∀ h' tk' oa', K0 c sc env s₁.heap h' → (∀ x, O.contains x = true → x ∉ ts.map (·.1) → oa' x = oa x) → (∀ t ∈ ts, O.contains t.1 = true → t.2.1 = .ref (oa' t.1)) → Sx c sc O env Mx oa' (upds ρ ts) b' h' → Q .next { s₁ with heap := h', toks := tk' } := fun h' tk' oa' k' ho1 ho2 S' => by
    have := P .next h' tk' (stored_out ((k.trans (K0.of he)).trans k') ho1 ho2 hf S')
    rw [es, e0]; exact this
  refine ⟨fun fs hl' hfs => ?_, ?_⟩
  · refine storeAll ts oa ρ s₁ _ fs S₁ SX.mB SX.mL SX.mC hl hn' hw₁ hM hp (by rw [hl', ← ex, List.length_map]) (fun i f t h1 h2 s Q h => ?_) fin
    obtain ⟨p, rfl⟩ := hfs i f t.1 h1 (by rw [← ex, List.getElem?_map, h2]; rfl)
    exact PyProof.Rows.assign_Name h
  · have em : (ts.map (·.2.1)).reverse = ts.reverse.map (·.2.1) := (List.map_reverse).symm
    rw [em]
    have hw₂ := hw₁
    have S₂ := S₁
    rw [← Pd_reverse (O := O) ts] at hw₂ S₂
    have hn'' : (ts.reverse.map (·.1)).Nodup := by rw [List.map_reverse]; exact List.pairwise_reverse.mpr (hn'.imp fun q => Ne.symm q)
    refine storeAll ts.reverse oa ρ s₁ _ _ S₂ SX.mB SX.mL SX.mC (fun t ht => hl t (List.mem_reverse.mp ht)) hn'' (fun t ht => hw₂ t (List.mem_reverse.mp ht)) (fun t ht => hM t (List.mem_reverse.mp ht))
      (List.pairwise_reverse.mpr (hp.imp fun q h1 h2 e => q h2 h1 e.symm)) (by simp [← ex]) (fun i f t h1 h2 s Q h => ?_) fun h' tk' oa' k' ho1 ho2 S' => ?_
    · have h3 : xs.reverse[i]? = some t.1 := by rw [← ex, ← List.map_reverse, List.getElem?_map, h2]; rfl
      rw [List.getElem?_map, h3] at h1
      cases h1
      exact wpAny_bindName h
    · rw [upds_reverse ts ρ hn'] at S'
      exact fin h' tk' oa' k' (fun x hx q => ho1 x hx fun q' => q (by rw [List.map_reverse] at q'; exact List.mem_reverse.mp q')) (fun t ht => ho2 t (List.mem_reverse.mpr ht)) S'
theorem tuple_snd (ok : c.Ok) (ha : AOk A) {ts vs : List Expr} {k kv : Nat} {tp vp pos : Pos} {xs : List Str} {s : Shared} {Q : Flow → Shared → Prop} {Pt : List D → List D → Prop} (hts : namesOf ts = some xs) (hxs : xs.all (locIn sc) = true) (hn : xs.Nodup)
    (hc : vs.all (constantsAlone 8) = false) (h : EP c A sc O xs vs ρ b Pt) (hlen : xs.length ≤ lim) (SX : Sx c sc O env Mx oa ρ b s.heap)
    (P : ∀ ds b', Pt ds b' → ∀ ρ', updAll ρ xs ds = some ρ' → ∀ flv h' tk', StOut c sc O env Mx oa ρ s.heap .next ρ' b' flv h' → Q flv { s with heap := h', toks := tk' }) : wpAny (model c.prog c.w) A (exec (.Assign [.Tuple ts k tp] (.Tuple vs kv vp) pos) env) Q NoE s := by
  have hxs' : ∀ x ∈ xs, locIn sc x = true := List.all_eq_true.mp hxs
  have work : ∀ (R : Value → Shared → Prop), (∀ b' ts' h₁ tk₁, Pt (ts'.map (·.2.2)) b' → ts'.map (·.1) = xs → K0 c sc env s.heap h₁ → Sx c sc O env (fun e => Mx e ∨ Pd O ts' e) oa ρ b' h₁ → (∀ t ∈ ts', Wt O h₁ (Mo O (fun e => Mx e ∨ Pd O ts' e) oa ρ) c.B t) →
      (∀ t ∈ ts', O.contains t.1 = true → ∀ a, t.2.1 = .ref a → s.heap.get? a = none) → ts'.Pairwise (fun (t u : Str × Value × D) => O.contains t.1 = true → O.contains u.1 = true → t.2.1 ≠ u.2.1) →
      R (.ref h₁.objs.size) { s with heap := h₁.push { cls := .type "tuple", data := .seq (ts'.map (·.2.1)).toArray }, toks := tk₁ }) →
      wpAny (model c.prog c.w) A (eval (.Tuple vs kv vp) env) R NoE s := fun R hR => by
    refine wpAny_Tuple (h ok ha env Mx oa s _ vp SX fun ds b' hP ts' h₁ tk₁ e1 e2 k₁ x₁ S₁ w₁ f₁ p₁ => ⟨?_, ?_⟩)
    · refine Nat.le_trans ?_ lim_le
      rw [List.length_map, ← List.length_map (as := ts') (f := (·.1)), e1]; exact hlen
    · subst e2
      exact hR b' ts' h₁ tk₁ hP e1 (.ofX k₁ x₁) S₁ w₁ f₁ p₁
  have hP : ∀ {b' ts'}, Pt (ts'.map (·.2.2)) b' → ts'.map (·.1) = xs → ∀ flv h' tk', StOut c sc O env Mx oa ρ s.heap .next (upds ρ ts') b' flv h' → Q flv { s with heap := h', toks := tk' } := fun {b' ts'} hp e => P _ _ hp _ (e ▸ updAll_upds ts' ρ)
  have tupAt : ∀ (h₁ : Heap) (l : List Value), IsTup (h₁.push { cls := .type "tuple", data := .seq l.toArray }) h₁.objs.size l.toArray := fun h₁ l => ⟨_, Heap.get?_push_size _ rfl, rfl, 0, rfl⟩
  rcases swapped_of (env := env) (k := k) (kv := kv) (tp := tp) (vp := vp) hts hc with hw | hw
  · refine PyProof.Rows.Assign_Tuple (work _ fun b' ts' h₁ tk₁ hp e1 k₁ S₁ w₁ f₁ p₁ => ?_) (by rfl) hw
    obtain ⟨hl, hstar, hfs⟩ := assignEach_names (env := env) hts
    refine wpAny_assign_Tuple ha.hh (s := { s with heap := _, toks := tk₁ }) (tupAt h₁ _) ?_ hstar fun h₂ he => ?_
    · rw [hl, ← e1]; simp
    · exact (tuple_stores ok (s := { s with heap := h₁, toks := tk₁ }) (s₁ := { s with heap := h₂, toks := tk₁ }) SX hxs' hn e1 k₁ S₁ w₁ f₁ p₁ rfl rfl (fun a o e => ext_new he a o (Heap.get?_push_of_some _ e)) (hP hp e1)).1 _ (by simpa using hl) hfs
  · refine PyProof.Rows.Assign_Tuple_swapped (names := xs) (work _ fun b' ts' h₁ tk₁ hp e1 k₁ S₁ w₁ f₁ p₁ => ?_) (by rfl) hw
    have hlen : xs.length = (ts'.map (·.2.1)).toArray.size := by rw [← e1]; simp
    rw [hlen]
    refine unpackItems_tuple ha.hh (s := { s with heap := _, toks := tk₁ }) (tupAt h₁ _) fun h₂ he => ?_
    exact (tuple_stores ok (s := { s with heap := h₁, toks := tk₁ }) (s₁ := { s with heap := h₂, toks := tk₁ }) SX hxs' hn e1 k₁ S₁ w₁ f₁ p₁ rfl rfl (fun a o e => ext_new he a o (Heap.get?_push_of_some _ e)) (hP hp e1)).2
theorem swapsSole_tup {ts : List Expr} {k : Nat} {tp : Pos} {e : Expr} {l : Nat} : swapsWithSole [.Tuple ts k tp] e l env = pure false := by cases e <;> rfl
theorem swapped_tup {ts : List Expr} {k : Nat} {tp : Pos} {e : Expr} (h : ∀ vs k p, e ≠ .Tuple vs k p) : swappedStores [.Tuple ts k tp] e env = pure none := by
  cases e <;> first | rfl | exact absurd rfl (h _ _ _)
theorem zip3 : ∀ {xs : List Str} {ds : List D} {vs : List Value}, xs.length = ds.length → VRs h M c.B vs ds →
    ∃ ts : List (Str × Value × D), ts.map (·.1) = xs ∧ ts.map (·.2.1) = vs ∧ ts.map (·.2.2) = ds ∧ ∀ t ∈ ts, VR h M c.B t.2.1 t.2.2 := fun {xs ds vs} hl r => by
  induction xs generalizing ds vs with
  | nil => cases r with
    | nil => exact ⟨[], rfl, rfl, rfl, fun t ht => (List.not_mem_nil ht).elim⟩
    | cons _ _ => cases hl
  | cons x xs ih => cases r with
    | nil => cases hl
    | cons h1 r =>
      obtain ⟨ts, e1, e2, e3, q⟩ := ih (Nat.succ.inj hl) r
      exact ⟨(x, _, _) :: ts, congrArg _ e1, congrArg _ e2, congrArg _ e3, List.forall_mem_cons.mpr ⟨h1, q⟩⟩
/-- a tuple that something hands over is taken apart -/
theorem unpack_snd (ok : c.Ok) (ha : AOk A) {ts : List Expr} {k : Nat} {tp pos : Pos} {e : Expr} {xs : List Str} {s : Shared} {Q : Flow → Shared → Prop} {Pt : List D → List D → Prop} (hts : namesOf ts = some xs) (hxs : xs.all (locIn sc) = true) (hn : xs.Nodup) (ho : xs.all (fun x => !O.contains x) = true)
    (he : ∀ vs k p, e ≠ .Tuple vs k p) (h : EV c A sc O e ρ b fun d b' => ∃ ds, d = .tuple ds ∧ xs.length = ds.length ∧ Pt ds b') (SX : Sx c sc O env Mx oa ρ b s.heap)
    (P : ∀ ds b', Pt ds b' → ∀ ρ', updAll ρ xs ds = some ρ' → ∀ flv h' tk', StOut c sc O env Mx oa ρ s.heap .next ρ' b' flv h' → Q flv { s with heap := h', toks := tk' }) : wpAny (model c.prog c.w) A (exec (.Assign [.Tuple ts k tp] e pos) env) Q NoE s := by
  have hxs' : ∀ x ∈ xs, locIn sc x = true := List.all_eq_true.mp hxs
  have ho' : ∀ x ∈ xs, O.contains x = false := fun x hx => by simpa using List.all_eq_true.mp ho x hx
  refine PyProof.Rows.Assign_Tuple (h ok ha env _ s _ SX.rd fun d b' hP v h₁ tk₁ k₁ x₁ r nl => ?_) swapsSole_tup (swapped_tup he)
  clear nl
  obtain ⟨ds, rfl, hlen', hP⟩ := hP
  cases r with
  | tuple hm ht hlen q =>
  rename_i a vs
  obtain ⟨ts', e1, e2, e3, q'⟩ := zip3 hlen' q
  have hno : ∀ t ∈ ts', O.contains t.1 = false := fun t ht => ho' _ (e1 ▸ List.mem_map_of_mem (f := (·.1)) ht)
  have eM : (fun e => Mx e ∨ Pd O ts' e) = Mx := by
    funext e; apply propext
    exact ⟨fun q => q.elim id fun ⟨t, ht, q1, _⟩ => (by rw [hno t ht] at q1; cases q1), .inl⟩
  obtain ⟨hl, hstar, hfs⟩ := assignEach_names (env := env) hts
  subst e2 e3
  refine wpAny_assign_Tuple ha.hh (s := { s with heap := h₁, toks := tk₁ }) ht ?_ hstar fun h₂ he => ?_
  · rw [hl, ← e1]; simp
  · exact (tuple_stores ok (ts := ts') (s := { s with heap := h₁, toks := tk₁ }) (s₁ := { s with heap := h₂, toks := tk₁ }) SX hxs' hn e1 (.ofX k₁ x₁) (by rw [eM]; exact SX.expr ok k₁ x₁)
      (fun t ht => by rw [eM]; exact ⟨fun _ => q' t ht, fun q => (by rw [hno t ht] at q; cases q)⟩) (fun t ht q => by rw [hno t ht] at q; cases q)
      (List.pairwise_of_forall_mem_list fun t ht u _ q => by rw [hno t ht] at q; cases q) rfl rfl (fun a o e => ext_new he a o e) (P _ _ hP _ (e1 ▸ updAll_upds ts' ρ))).1 _ (by simpa using hl) hfs
end
end Mine

namespace Mine
open PySem PySem.Calls PyProof.Rows
noncomputable def isSl : Expr → Bool
  | .Slice _ _ _ _ => true
  | _ => false
section
variable {c : Cx} {A : Around} {sc : Scope} {O : List Str} {env : Env} {Mx Mx' M M' : Addr → Prop} {oa oa' oa'' : Str → Addr} {ρ ρ' ρ'' : PEnv} {b b' b1 b2 : List D} {d : D} {h h' h'' h₁ h₂ h₃ : Heap} {x y : Str} {v : Value}
theorem putAt_inv {ds ds' : List D} {k : Int} (h : putAt ds k d = some ds') : 0 ≤ k ∧ k < ds.length ∧ ds' = ds.set k.toNat d := by
  unfold putAt at h
  split at h
  · rename_i q; cases h; exact ⟨q.1, q.2, rfl⟩
  · cases h
/-- an own list's item is stored -/
theorem Sx.put {ds ds' : List D} {k : Int} {t : Tok} {s : Shared} {Q : Unit → Shared → Prop} (S : Sx c sc O env Mx oa ρ b s.heap) (ho : O.contains x = true) (e : ρ x = some (.list ds)) (r : VR s.heap (Mo O Mx oa ρ) c.B v d) (hp : putAt ds k d = some ds')
    (P : ∀ h', (∀ a o, a ≠ oa x → s.heap.get? a = some o → h'.get? a = some o) → (∃ o, h'.get? (oa x) = some o) → Sx c sc O env Mx oa (upd ρ x (.list ds')) b h' → Q () { s with heap := h' }) :
    wpAny (model c.prog c.w) A (setItem (.ref (oa x)) (.int k t) v) Q NoE s := by
  obtain ⟨h0, h1, rfl⟩ := putAt_inv hp
  obtain ⟨_, vs, m, ds0, e0, g1, g2, g3⟩ := S.own x _ ho e
  cases e0
  have hl := g2.length
  have hb : k < 2 ^ 63 := by
    have : vs.length ≤ 1000000 := g3
    clear g3
    exact o44 h1 hl this
  refine setItem_own g1 h0 hb (by exact o43 h1 hl) fun h' n' e' hs => ?_
  have k' : ∀ a o, a ≠ oa x → s.heap.get? a = some o → h'.get? a = some o := fun a o q e => hs.extBut a o q e
  exact P h' k' ⟨_, e'⟩ (S.turn ho e k' e' (g2.set r _) (by simpa using g3))
/-- the own list's turn, as a statement's end -/
theorem own_out {ds : List D} (S₀ : Sx c sc O env Mx oa ρ b h) (k₀ : K0 c sc env h h₁) (ho : O.contains x = true) (hne : ρ x ≠ none) (k : ∀ a o, a ≠ oa x → h₁.get? a = some o → h'.get? a = some o) (l : ∃ o, h'.get? (oa x) = some o)
    (S : Sx c sc O env Mx oa (upd ρ x (.list ds)) b' h') : StOut c sc O env Mx oa ρ h .next (upd ρ x (.list ds)) b' .next h' := by
  refine ⟨⟨fun a o q1 q2 q3 e => k a o (fun q => q3 x ho hne q.symm) (k₀.kp a o q1 q2 e), fun a o e => ?_⟩, rfl, oa, fun y hy hr => .inl ⟨y, hy, ?_, rfl⟩, S⟩
  · obtain ⟨o', e'⟩ := k₀.al a o e
    by_cases q : a = oa x
    · exact q ▸ l
    · exact ⟨o', k a o' q e'⟩
  · unfold upd at hr
    split at hr
    · rename_i q; subst q; exact hne
    · exact hr
theorem sub_own (ok : c.Ok) (ha : AOk A) {i e : Expr} {p q pos : Pos} {s : Shared} {Q : Flow → Shared → Prop} {ds : List D} {Pt : List D → List D → Prop} (h : EV c A sc O e ρ b fun d b1 => EV c A sc O i ρ b1 fun dk b2 => ∃ k, dk = .int k ∧ Op (putAt ds k d) fun ds' => Pt ds' b2)
    (SX : Sx c sc O env Mx oa ρ b s.heap) (ho : O.contains x = true) (ex : ρ x = some (.list ds))
    (P : ∀ ds' b2, Pt ds' b2 → ∀ flv h' tk', StOut c sc O env Mx oa ρ s.heap .next (upd ρ x (.list ds')) b2 flv h' → Q flv { s with heap := h', toks := tk' }) : wpAny (model c.prog c.w) A (exec (.Assign [.Subscript (.Name x p) i q] e pos) env) Q NoE s := by
  have hsw : swapsWith e (some (.Subscript (.Name x p) i q)) pos.line env = pure false := by cases e <;> rfl
  refine wpAny_Assign_Subscript ?_ hsw
  refine h ok ha env _ s _ SX.rd fun d b1 h2 v h₁ tk₁ k₁ x₁ r₁ _ => ?_
  have S₁ := SX.expr ok k₁ x₁
  refine load_snd (s := { s with heap := h₁, toks := tk₁ }) S₁.rd (S₁.own x _ ho ex).1 ex ?_
  refine h2 ok ha env _ { s with heap := h₁, toks := tk₁ } _ S₁.rd fun dk b2 hk iv h₂ tk₂ k₂ x₂ r₂ _ => ?_
  have S₂ := S₁.expr ok k₂ x₂
  obtain ⟨k, rfl, ds', hp, hP⟩ := hk
  obtain ⟨t, rfl⟩ := r₂.int_inv
  refine S₂.put (s := { s with heap := h₂, toks := tk₂ }) ho ex (r₁.keepX S₁.rd.m.box k₂) hp fun h' k' l S' => ?_
  exact P _ _ hP _ _ _ (own_out SX ((K0.ofX k₁ x₁).trans (K0.ofX k₂ x₂)) ho (by rw [ex]; simp) k' l S')
theorem sub_box (ok : c.Ok) (ha : AOk A) {i e : Expr} {p q pos : Pos} {s : Shared} {Q : Flow → Shared → Prop} {Pt : List D → Prop} (h : EV c A sc O e ρ b fun d b1 => EV c A sc O i ρ b1 fun dk b2 => ∃ j k, d = .int j ∧ dk = .int k ∧ (k = 1 ∨ k = 2) ∧ Op (putAt b2 k (.int j)) Pt)
    (SX : Sx c sc O env Mx oa ρ b s.heap) (ho : O.contains x = false) (ex : ρ x = some .box)
    (P : ∀ b', Pt b' → ∀ flv h' tk', StOut c sc O env Mx oa ρ s.heap .next ρ b' flv h' → Q flv { s with heap := h', toks := tk' }) : wpAny (model c.prog c.w) A (exec (.Assign [.Subscript (.Name x p) i q] e pos) env) Q NoE s := by
  have hsw : swapsWith e (some (.Subscript (.Name x p) i q)) pos.line env = pure false := by cases e <;> rfl
  refine wpAny_Assign_Subscript ?_ hsw
  refine h ok ha env _ s _ SX.rd fun d b1 h2 v h₁ tk₁ k₁ x₁ r₁ _ => ?_
  have S₁ := SX.expr ok k₁ x₁
  obtain ⟨w, sl, hw, _⟩ := S₁.rd.vars x _ ex
  refine load_snd (s := { s with heap := h₁, toks := tk₁ }) S₁.rd sl ex ?_
  refine h2 ok ha env _ { s with heap := h₁, toks := tk₁ } _ S₁.rd fun dk b2 hk iv h₂ tk₂ k₂ x₂ r₂ _ => ?_
  have S₂ := S₁.expr ok k₂ x₂
  obtain ⟨j, k, rfl, rfl, hk, b', hp, hP⟩ := hk
  obtain ⟨t, rfl⟩ := r₂.int_inv
  obtain ⟨u, rfl⟩ := r₁.int_inv
  have hw' := hw ho
  cases hw'
  obtain ⟨i0, k0, t0, u0, m0, eb, eB⟩ := x₂
  obtain ⟨p0, p1, rfl⟩ := putAt_inv hp
  refine setItem_own (s := { s with heap := h₂, toks := tk₂ }) (vs := [.ref c.SL, .int i0 t0, .int k0 u0]) eB p0 (by exact o42 hk) (by simp; exact o41 hk) fun h' n' e' hs => ?_
  have k' : KX c.B h₂ h' := fun a o q e => hs.extBut a o q e
  have x' : BoxR c h' (b2.set k.toNat (.int j)) := by
    subst eb
    rcases hk with rfl | rfl
    · exact ⟨j, k0, u, u0, n', rfl, e'⟩
    · exact ⟨i0, j, t0, u, n', rfl, e'⟩
  have S' := S₂.expr ok k' x'
  exact P _ hP _ _ _ ⟨(KS.ofX ((k₁.trans k₂).trans k') x'), rfl, oa, OwnEv.refl, S'⟩
theorem loadName_snd {s : Shared} {Q : Value → Shared → Prop} (R : Rd c sc O env M ρ b s.heap) (q : Slot s.heap env x v) (hx : ρ x = some d) (P : Q v s) : wpAny (model c.prog c.w) A (loadName env x) Q NoE s := by
  have hd := R.dom x d hx
  have h2 : (x == ("__classdict__" : Str)) = false := beq_eq_false_iff_ne.mpr hd.2
  rcases q with ⟨hk, m, hn, hv⟩ | ⟨hk | hk, a, ha, hc⟩
  · exact wpAny_loadName_local R.kind hk hn hv P
  · exact wpAny_loadName_cell R.kind hk ha hc P
  · exact wpAny_loadName_free R.kind hk ha hc P h2
theorem inplace_snd {op : Operator} (hop : (op == .Add || op == .Sub) = true) {a e : Int} {t u : Tok} {s : Shared} {Q : Value → Shared → Prop} (h : binop op (.int a) (.int e) = some d) (P : ∀ i t tk, d = .int i → Q (.int i t) { s with toks := tk }) :
    wpAny (model c.prog c.w) A (inplaceOp op (.int a t) (.int e u)) Q NoE s := by
  simp only [Bool.or_eq_true, beq_iff_eq] at hop
  rcases hop with rfl | rfl
  · simp only [binop] at h; cases h
    exact PyProof.Rows.iadd_int (P _ _ _ rfl)
  · simp only [binop] at h; cases h
    exact PyProof.Rows.isub_int (P _ _ _ rfl)
theorem aug_name (ok : c.Ok) (ha : AOk A) {e : Expr} {op : Operator} {p pos : Pos} {s : Shared} {Q : Flow → Shared → Prop} {a : Int} {Pt : D → List D → Prop} (hop : (op == .Add || op == .Sub) = true) (ex : ρ x = some (.int a)) (h : EV c A sc O e ρ b fun dj b' => ∃ j, dj = .int j ∧ Op (binop op (.int a) (.int j)) fun d => Pt d b')
    (SX : Sx c sc O env Mx oa ρ b s.heap) (hx : locIn sc x = true) (ho : O.contains x = false)
    (P : ∀ d b', Pt d b' → ∀ flv h' tk', StOut c sc O env Mx oa ρ s.heap .next (upd ρ x d) b' flv h' → Q flv { s with heap := h', toks := tk' }) : wpAny (model c.prog c.w) A (exec (.AugAssign (.Name x p) op e pos) env) Q NoE s := by
  obtain ⟨w, sl, hw, _⟩ := SX.rd.vars x _ ex
  obtain ⟨t, rfl⟩ := (hw ho).int_inv
  refine wpAny_AugAssign_Name (loadName_snd SX.rd sl ex ?_)
  refine h ok ha env _ s _ SX.rd fun dj b' hj v h₁ tk₁ k₁ x₁ r₁ _ => ?_
  obtain ⟨j, rfl, d, hb, hP⟩ := hj
  obtain ⟨u, rfl⟩ := r₁.int_inv
  have S₁ := SX.expr ok k₁ x₁
  refine inplace_snd (s := { s with heap := h₁, toks := tk₁ }) hop hb fun i t' tk₂ hd => ?_
  subst hd
  refine store_raw (s := { s with heap := h₁, toks := tk₂ }) S₁.rd.kind S₁.rd.wr hx fun h₂ tk₃ st sl W => ?_
  have S₂ := S₁.store hx ho st sl W (.int i t')
  refine P _ _ hP _ _ _ ⟨((K0.ofX k₁ x₁).trans (K0.ofStored st)).ks, rfl, oa, fun y hy hr => .inl ⟨y, hy, ?_, rfl⟩, S₂⟩
  have : y ≠ x := fun q => by rw [q, ho] at hy; cases hy
  unfold upd at hr; rw [if_neg this] at hr; exact hr
theorem aug_sub (ok : c.Ok) (ha : AOk A) {i e : Expr} {p q pos : Pos} {s : Shared} {Q : Flow → Shared → Prop} {ds : List D} {Pt : List D → List D → Prop} (hsi : isSl i = false) (h : EV c A sc O i ρ b fun dk b1 => ∃ k a, dk = .int k ∧ pick ds k = some (.int a) ∧ EV c A sc O e ρ b1 fun dj b2 => ∃ j, dj = .int j ∧ Op (putAt ds k (.int (a - j))) fun ds' => Pt ds' b2)
    (SX : Sx c sc O env Mx oa ρ b s.heap) (ho : O.contains x = true) (ex : ρ x = some (.list ds))
    (P : ∀ ds' b2, Pt ds' b2 → ∀ flv h' tk', StOut c sc O env Mx oa ρ s.heap .next (upd ρ x (.list ds')) b2 flv h' → Q flv { s with heap := h', toks := tk' }) : wpAny (model c.prog c.w) A (exec (.AugAssign (.Subscript (.Name x p) i q) .Sub e pos) env) Q NoE s := by
  have hsl : ∀ ov iv new, augStore i ov iv new = (do holding [new, ov, iv] (setItem ov iv new); release [new, ov, iv] []; pure .next) := by
    intro ov iv new
    cases i with
    | Slice => cases hsi
    | _ => rfl
  refine wpAny_AugAssign_Subscript_any ?_ hsl
  refine load_snd SX.rd (SX.own x _ ho ex).1 ex ?_
  refine h ok ha env _ s _ SX.rd fun dk b1 hk iv h₁ tk₁ k₁ x₁ r₁ _ => ?_
  obtain ⟨k, a, rfl, h2, h3⟩ := hk
  have S₁ := SX.expr ok k₁ x₁
  obtain ⟨t, rfl⟩ := r₁.int_inv
  obtain ⟨_, vs, m, ds0, e0, g1, g2, g3⟩ := S₁.own x _ ho ex
  cases e0
  refine getItem_list_snd (s := { s with heap := h₁, toks := tk₁ }) h2 ⟨_, g1, rfl, m, rfl⟩ g2 g3 fun w rw_ => ?_
  obtain ⟨t1, rfl⟩ := rw_.int_inv
  refine h3 ok ha env _ { s with heap := h₁, toks := tk₁ } _ S₁.rd fun dj b2 hj v h₂ tk₂ k₂ x₂ r₂ _ => ?_
  obtain ⟨j, rfl, ds', hp, hP⟩ := hj
  have S₂ := S₁.expr ok k₂ x₂
  obtain ⟨u, rfl⟩ := r₂.int_inv
  refine PyProof.Rows.isub_int ?_
  refine S₂.put (s := { s with heap := h₂, toks := tk₂ + 1 }) ho ex (.int (a - j) _) hp fun h' k' l S' => ?_
  exact P _ _ hP _ _ _ (own_out SX ((K0.ofX k₁ x₁).trans (K0.ofX k₂ x₂)) ho (by rw [ex]; simp) k' l S')
theorem append_snd (ok : c.Ok) (ha : AOk A) {e : Expr} {p apos pos spos : Pos} {s : Shared} {Q : Flow → Shared → Prop} {ds : List D} {Pt : D → List D → Prop} (hpos : (apos.endLine == pos.line) = true) (hst : nst e = true) (h : EV c A sc O e ρ b Pt)
    (SX : Sx c sc O env Mx oa ρ b s.heap) (ho : O.contains x = true) (ex : ρ x = some (.list ds)) (hl : ds.length < lim)
    (P : ∀ d b', Pt d b' → ∀ flv h' tk', StOut c sc O env Mx oa ρ s.heap .next (upd ρ x (.list (ds ++ [d]))) b' flv h' → Q flv { s with heap := h', toks := tk' }) : wpAny (model c.prog c.w) A (exec (.Expr (.Call (.Attribute (.Name x p) "append" apos) [e] [] pos) spos) env) Q NoE s := by
  have hns := nst_ne hst
  have he : eval (.Call (.Attribute (.Name x p) "append" apos) [e] [] pos) env = (do
      let ov ← eval (.Name x p) env
      standAt apos.atName
      let (f, first) ← holding [ov] (getMethod ov "append" (do return (← importBound (.Name x p) env).getD true))
      callWith pos f first (backTo pos (starEach [e] env)) []) := by
    have hmp : ∀ few, methodCallPos few (.Name x p) env apos pos = pure pos := fun few => by
      unfold methodCallPos
      rw [hpos, Bool.or_true, if_pos rfl]
    show (do
      let ov ← eval (.Name x p) env
      standAt apos.atName
      methodCall (.Name x p) "append" apos pos env ov 1 (backTo pos (starEach [e] env)) []) = _
    unfold methodCall
    simp only [hmp, pure_bind]
    rw [starEach_of hns]
    rfl
  have hi : interactive env = false := by unfold interactive; rw [SX.rd.kind]; rfl
  refine wpAny_Expr ?_ hi (by rfl)
  obtain ⟨sl, vs, m, ds0, e0, g1, g2, g3⟩ := SX.own x _ ho ex
  cases e0
  refine MethodCall_ (load_snd SX.rd sl ex ?_) he
  refine getMethod_list_append g1 rfl rfl ?_
  refine callWith_method1 ?_ (starEach_of hns)
  refine wpAny_items_cons ?_ (starEach_of hns)
  refine h ok ha env _ s _ SX.rd fun d b' hP v h₁ tk₁ k₁ x₁ r₁ _ => ?_
  refine wpAny_items_nil ?_
  have S₁ := SX.expr ok k₁ x₁
  obtain ⟨_, vs, m, ds0, e0, g1, g2, g3⟩ := S₁.own x _ ho ex
  cases e0
  have hl' := g2.length
  refine wpAny_list_append_plain (s := { s with heap := h₁, toks := tk₁ }) ⟨m, g1⟩ (fun h' hpl hs => ?_) (Nat.le_trans (by simpa using g3) lim_le)
  obtain ⟨n', e'⟩ := hpl
  have k' : ∀ a o, a ≠ oa x → h₁.get? a = some o → h'.get? a = some o := fun a o q e => hs.extBut a o q e
  exact P _ _ hP _ _ _ (own_out SX (K0.ofX k₁ x₁) ho (by rw [ex]; simp) k' ⟨_, e'⟩ (S₁.turn (vs' := vs ++ [v]) ho ex k' (by simpa using e') (g2.append (.cons r₁ .nil)) (by simp; exact o40 hl hl')))
theorem call_stmt (ok : c.Ok) (ha : AOk A) {f : Str} {args : List Expr} {pf pc pos : Pos} {s : Shared} {Q : Flow → Shared → Prop} {Pt : List D → Prop} (h : EV c A sc O (.Call (.Name f pf) args [] pc) ρ b fun d b' => d = .none ∧ Pt b')
    (SX : Sx c sc O env Mx oa ρ b s.heap)
    (P : ∀ b', Pt b' → ∀ flv h' tk', StOut c sc O env Mx oa ρ s.heap .next ρ b' flv h' → Q flv { s with heap := h', toks := tk' }) : wpAny (model c.prog c.w) A (exec (.Expr (.Call (.Name f pf) args [] pc) pos) env) Q NoE s := by
  have hi : interactive env = false := by unfold interactive; rw [SX.rd.kind]; rfl
  refine wpAny_Expr ?_ hi (by rfl)
  refine h ok ha env _ s _ SX.rd fun d b' hP v h₁ tk₁ k₁ x₁ r₁ _ => ?_
  obtain ⟨rfl, hP⟩ := hP
  cases r₁
  exact P _ hP _ _ _ ⟨.ofX k₁ x₁, rfl, oa, OwnEv.refl, SX.expr ok k₁ x₁⟩
end
end Mine

namespace Mine
open PySem PySem.Calls PyProof.Rows
section
variable {c : Cx} {A : Around} {sc : Scope} {O : List Str} {env : Env} {Mx Mx' M M' : Addr → Prop} {oa oa' oa'' : Str → Addr} {ρ ρ' ρ'' : PEnv} {b b' b1 b2 : List D} {d : D} {h h' h'' h₁ h₂ h₃ : Heap} {x y : Str} {v : Value}
/-- something of no own of ours is turned -/
theorem Sx.turned {W : Addr → Prop} (S : Sx c sc O env Mx oa ρ b h) (sub : ∀ a, W a → Mx a) (hB : ¬ W c.B) (hL : ¬ W env.locals) (hC : ∀ y e, env.cells.lookup y = some e → ¬ W e)
    (k : ∀ a o, ¬ W a → h.get? a = some o → h'.get? a = some o) (al : ∀ a, W a → ∃ o, h'.get? a = some o) : Sx c sc O env Mx oa ρ b h' := by
  have kM : ∀ a o, ¬ Mo O Mx oa ρ a → h.get? a = some o → h'.get? a = some o := fun a o hm e => k a o (fun q => hm (.inl (sub a q))) e
  have vm : ∀ {v d}, VR h (Mo O Mx oa ρ) c.B v d → VR h' (Mo O Mx oa ρ) c.B v d := fun q => q.mono fun a o hm e => ⟨hm, kM a o hm e⟩
  have vms : ∀ {v d}, VRs h (Mo O Mx oa ρ) c.B v d → VRs h' (Mo O Mx oa ρ) c.B v d := fun q => q.mono fun a o hm e => ⟨hm, kM a o hm e⟩
  have ksl : ∀ {x v}, Slot h env x v → Slot h' env x v := fun {x v} q => by
    rcases q with ⟨q1, m, hn, hm⟩ | ⟨q1, e, he, o, ho, hd⟩
    · exact .inl ⟨q1, m, hn.at' fun o e => k _ o hL e, hm⟩
    · exact .inr ⟨q1, e, he, o, k _ o (hC x e he) ho, hd⟩
  have own : ∀ x d, O.contains x = true → ρ x = some d → Slot h' env x (.ref (oa x)) ∧ ∃ vs n ds, d = .list ds ∧ h'.get? (oa x) = some { cls := .type "list", data := .seq (List.toArray vs) n } ∧
    VRs h' (Mo O Mx oa ρ) c.B vs ds ∧ vs.length ≤ lim := fun x d hx e => by
      obtain ⟨sl, vs, n, ds, rfl, h1, h2, h3⟩ := S.own x d hx e
      exact ⟨ksl sl, vs, n, ds, rfl, k _ _ (fun q => S.nx x hx (by rw [e]; simp) (sub _ q)) h1, vms h2, h3⟩
  refine ⟨{ kind := S.rd.kind, glob := S.rd.glob, bi := S.rd.bi, gl := S.rd.gl, nd := S.rd.nd, dom := S.rd.dom, cl := S.rd.cl
            base := fun a o e => kM a o (fun q => by have := S.rd.m.low a q; rw [e] at this; cases this) (S.rd.base a o e)
            m := ⟨S.rd.m.box, fun a hm => by
              by_cases q : W a
              · exact al a q
              · obtain ⟨o, e⟩ := S.rd.m.live a hm; exact ⟨o, k a o q e⟩, S.rd.m.low⟩
            vars := fun x d e => by
              cases hx : O.contains x with
              | true =>
                obtain ⟨sl, vs, n, ds, rfl, g1, g2, g3⟩ := own x d hx e
                exact ⟨_, sl, fun q => by simp at q, fun _ => ⟨_, vs, n, ds, rfl, rfl, g1, g2, g3, fun q' => S.nx x hx (by rw [e]; simp) (q' ▸ S.mB)⟩⟩
              | false =>
                obtain ⟨v, h1, h2, _⟩ := S.rd.vars x d e
                exact ⟨v, ksl h1, fun _ => vm (h2 hx), fun q => by simp at q⟩
            box := let ⟨i, k', t, u, n, e, q⟩ := S.rd.box; ⟨i, k', t, u, n, e, k _ _ hB q⟩
            wr := { ns := let ⟨m, hn⟩ := S.rd.wr.ns; ⟨m, hn.at' fun o e => k _ o hL e⟩
                    mL := S.rd.wr.mL
                    cells := fun y e he => let ⟨⟨v, o, ho, hd⟩, hm⟩ := S.rd.wr.cells y e he; ⟨⟨v, o, k _ o (hC y e he) ho, hd⟩, hm⟩
                    apart := S.rd.wr.apart
                    loc := S.rd.wr.loc } }, own, S.nx, S.inj, S.mB, S.mL, S.mC⟩
/-- what else was turned is let go -/
theorem Sx.drop {W : Addr → Prop} (S : Sx c sc O env (fun e => Mx e ∨ W e) oa ρ b h) (hB : Mx c.B) (hL : Mx env.locals) (hC : ∀ x a, env.cells.lookup x = some a → Mx a) (hM : ∀ a, Mo O Mx oa ρ a → ¬ W a) (hT : ∀ a, W a → c.hT.get? a = none)
    (k : ∀ a o, ¬ W a → h.get? a = some o → h'.get? a = some o) : Sx c sc O env Mx oa ρ b h' := by
  have hs : ∀ a, Mo O Mx oa ρ a → Mo O (fun e => Mx e ∨ W e) oa ρ a := fun a q => q.imp .inl id
  have nW : ∀ a, ¬ Mo O (fun e => Mx e ∨ W e) oa ρ a → ¬ W a := fun a q q' => q (.inl (.inr q'))
  have vm : ∀ {v d}, VR h (Mo O (fun e => Mx e ∨ W e) oa ρ) c.B v d → VR h' (Mo O Mx oa ρ) c.B v d := fun q => q.mono fun a o hm e => ⟨fun q => hm (hs a q), k a o (nW a hm) e⟩
  have vms : ∀ {v d}, VRs h (Mo O (fun e => Mx e ∨ W e) oa ρ) c.B v d → VRs h' (Mo O Mx oa ρ) c.B v d := fun q => q.mono fun a o hm e => ⟨fun q => hm (hs a q), k a o (nW a hm) e⟩
  have wL : ¬ W env.locals := hM _ (.inl hL)
  have wC : ∀ y e, env.cells.lookup y = some e → ¬ W e := fun y e q => hM _ (.inl (hC y e q))
  have ksl : ∀ {x v}, Slot h env x v → Slot h' env x v := fun {x v} q => by
    rcases q with ⟨q1, m, hn, hm⟩ | ⟨q1, e, he, o, ho, hd⟩
    · exact .inl ⟨q1, m, hn.at' fun o e => k _ o wL e, hm⟩
    · exact .inr ⟨q1, e, he, o, k _ o (wC x e he) ho, hd⟩
  have own : ∀ x d, O.contains x = true → ρ x = some d → Slot h' env x (.ref (oa x)) ∧ ∃ vs n ds, d = .list ds ∧ h'.get? (oa x) = some { cls := .type "list", data := .seq (List.toArray vs) n } ∧
    VRs h' (Mo O Mx oa ρ) c.B vs ds ∧ vs.length ≤ lim := fun x d hx e => by
      obtain ⟨sl, vs, n, ds, rfl, h1, h2, h3⟩ := S.own x d hx e
      exact ⟨ksl sl, vs, n, ds, rfl, k _ _ (hM _ (.inr ⟨x, hx, by rw [e]; simp, rfl⟩)) h1, vms h2, h3⟩
  refine ⟨{ kind := S.rd.kind, glob := S.rd.glob, bi := S.rd.bi, gl := S.rd.gl, nd := S.rd.nd, dom := S.rd.dom, cl := S.rd.cl
            base := fun a o e => k a o (fun q => by rw [hT a q] at e; cases e) (S.rd.base a o e)
            m := ⟨.inl hB, fun a hm => let ⟨o, e⟩ := S.rd.m.live a (hs a hm); ⟨o, k a o (hM a hm) e⟩, fun a hm => S.rd.m.low a (hs a hm)⟩
            vars := fun x d e => by
              cases hx : O.contains x with
              | true =>
                obtain ⟨sl, vs, n, ds, rfl, g1, g2, g3⟩ := own x d hx e
                exact ⟨_, sl, fun q => by simp at q, fun _ => ⟨_, vs, n, ds, rfl, rfl, g1, g2, g3, fun q' => S.nx x hx (by rw [e]; simp) (q' ▸ .inl hB)⟩⟩
              | false =>
                obtain ⟨v, h1, h2, _⟩ := S.rd.vars x d e
                exact ⟨v, ksl h1, fun _ => vm (h2 hx), fun q => by simp at q⟩
            box := let ⟨i, k', t, u, n, e, q⟩ := S.rd.box; ⟨i, k', t, u, n, e, k _ _ (hM _ (.inl hB)) q⟩
            wr := { ns := let ⟨m, hn⟩ := S.rd.wr.ns; ⟨m, hn.at' fun o e => k _ o wL e⟩
                    mL := .inl hL
                    cells := fun y e he => let ⟨⟨v, o, ho, hd⟩, hm⟩ := S.rd.wr.cells y e he; ⟨⟨v, o, k _ o (wC y e he) ho, hd⟩, .inl (hC y e he)⟩
                    apart := S.rd.wr.apart
                    loc := S.rd.wr.loc } }, own, fun x hx e q => S.nx x hx e (.inl q), S.inj, hB, hL, hC⟩
theorem Xc_Mx (hL : Mx env.locals) (hC : ∀ x a, env.cells.lookup x = some a → Mx a) {a : Addr} (h : Xc sc env a) : Mx a := by
  rcases h with rfl | ⟨y, _, _, q⟩
  · exact hL
  · exact hC y a q
end
/-- a statement from every frame that is as told: its run ends, and what it leaves is as P says -/
noncomputable def XS (c : Cx) (A : Around) (sc : Scope) (O : List Str) (st : Stmt) (ρ : PEnv) (b : List D) (P : Fl → PEnv → List D → Prop) : Prop := c.Ok → AOk A → ∀ env Mx oa s Q, Sx c sc O env Mx oa ρ b s.heap →
  (∀ fl ρ' b', P fl ρ' b' → ∀ flv h' tk', StOut c sc O env Mx oa ρ s.heap fl ρ' b' flv h' → Q flv { s with heap := h', toks := tk' }) → wpAny (model c.prog c.w) A (exec st env) Q NoE s
noncomputable def XL (c : Cx) (A : Around) (sc : Scope) (O : List Str) (sts : List Stmt) (ρ : PEnv) (b : List D) (P : Fl → PEnv → List D → Prop) : Prop := c.Ok → AOk A → ∀ env Mx oa s Q, Sx c sc O env Mx oa ρ b s.heap →
  (∀ fl ρ' b', P fl ρ' b' → ∀ flv h' tk', StOut c sc O env Mx oa ρ s.heap fl ρ' b' flv h' → Q flv { s with heap := h', toks := tk' }) → wpAny (model c.prog c.w) A (execs sts env) Q NoE s
/-- what comes behind a statement -/
noncomputable def Aft (X : PEnv → List D → Prop) (P : Fl → PEnv → List D → Prop) : Fl → PEnv → List D → Prop
  | .next => X
  | .ret d => P (.ret d)
/-- the turns of a for -/
noncomputable def FG (c : Cx) (A : Around) (sc : Scope) (O : List Str) (tg : Expr) (body : List Stmt) (P : Fl → PEnv → List D → Prop) : List D → PEnv → List D → Prop
  | [], ρ, b => P .next ρ b
  | d :: ds, ρ, b => Op (bindT sc O tg d ρ) fun ρ' => XL c A sc O body ρ' b (Aft (FG c A sc O tg body P ds) P)
section
variable {c : Cx} {A : Around} {sc : Scope} {O : List Str} {ρ : PEnv} {b : List D} {P : Fl → PEnv → List D → Prop}
theorem x_while {t : Expr} {body : List Stmt} {pos : Pos} (I : Nat → PEnv → List D → Prop) (k : Nat) (h : I k ρ b)
    (hs : ∀ k ρ b, I k ρ b → TS c A sc O t ρ b fun u b₁ => Br u (XL c A sc O body ρ b₁ (Aft (fun ρ' b' => ∃ k', k' < k ∧ I k' ρ' b') P)) (P .next ρ b₁)) : XS c A sc O (.While t body [] pos) ρ b P := fun ok ha env Mx oa s Q SX g => by
  refine wpAny_While (codeAny_whileLoop (fun k s' => ∃ h tk ρi bi oai, s' = { s with heap := h, toks := tk } ∧ KS c sc O env ρ oa s.heap h ∧ OwnEv O s.heap ρ oa ρi oai ∧ Sx c sc O env Mx oai ρi bi h ∧ I k ρi bi)
    ?_ k ⟨s.heap, s.toks, ρ, b, oa, rfl, KS.refl, OwnEv.refl, SX, h⟩)
  rintro k s' ⟨h, tk, ρi, bi, oai, rfl, ks, ow, Si, hI⟩
  refine wpE (hs k ρi bi hI ok ha env _ _ _ Si.rd fun t1 bt ht h₁ tk₁ k₁ x₁ => ?_)
  have S₁ := Si.expr ok k₁ x₁
  have ks₁ : KS c sc O env ρ oa s.heap h₁ := ks.trans ((K0.ofX k₁ x₁).ks (O := O) (ρ := ρi) (oa := oai)) ow
  cases t1 with
  | false => exact wpAny_execs_nil (g .next _ _ (ht.2 rfl) .next _ _ ⟨ks₁, rfl, oai, ow, S₁⟩)
  | true =>
    simp only [if_true]
    refine wpE (ht.1 rfl ok ha env Mx oai { s with heap := h₁, toks := tk₁ } _ S₁ fun fl1 ρ1 b1 he flv h₂ tk₂ so => ?_)
    obtain ⟨ks₂, so⟩ := so
    have ks₃ := ks₁.trans ks₂ ow
    cases fl1 with
    | next =>
      obtain ⟨rfl, oa2, ow2, S₂⟩ := so
      obtain ⟨k', hk, he⟩ := he
      exact ⟨k', hk, h₂, tk₂, ρ1, b1, oa2, rfl, ks₃, ow.trans ow2 ks₁.al, S₂, he⟩
    | ret d =>
      obtain ⟨v, rfl, r, xx⟩ := so
      exact g _ _ _ he (.ret v) _ _ ⟨ks₃, v, rfl, r, xx⟩
theorem x_for {tg it : Expr} {body : List Stmt} {pos : Pos} (htg : tgOk it tg = true) (hset : ∀ env x, foldedSetIterable it env x = pure x)
    (h : EI c A sc O it ρ b fun items b₁ => FG c A sc O tg body P items ρ b₁) : XS c A sc O (.For tg it body [] pos) ρ b P := fun ok ha env Mx oa s Q SX g => by
  refine wpAny_For ?_ (hset env)
  refine h ok ha env _ s _ tg htg SX.rd fun items b1 hF hE tkE I fp wr Pv Md St kE xE itk => ?_
  have S₀ := SX.more (W := (· ∈ wr)) ok kE xE itk.new fun a ha => let ⟨o, _, e, _⟩ := itk.kind 0 _ itk.st a ha; ⟨o, e⟩
  have kE0 : K0 c sc env s.heap hE := K0.ofX kE xE
  have nB : c.B ∉ wr := fun q => by
    have := itk.new _ q
    obtain ⟨T, xs, n, e⟩ := SX.rd.box.seq
    rw [e] at this; cases this
  have nL : env.locals ∉ wr := fun q => by
    have := itk.new _ q
    obtain ⟨o, e⟩ := SX.rd.m.live _ (.inl SX.mL)
    rw [e] at this; cases this
  have nC : ∀ y e, env.cells.lookup y = some e → e ∉ wr := fun y e q q' => by
    have := itk.new _ q'
    obtain ⟨o, e⟩ := SX.rd.m.live _ (.inl (SX.mC y e q))
    rw [e] at this; cases this
  let J : Nat → PEnv → List D → (Str → Addr) → Heap → Prop := fun i ρi bi oai h => St i h ∧ (∀ a o, ¬ Mo O Mx oa ρ a → a ∉ wr → hE.get? a = some o → h.get? a = some o) ∧ (∀ a o, hE.get? a = some o → ∃ o', h.get? a = some o') ∧
    KS c sc O env ρ oa s.heap h ∧ OwnEv O hE ρ oa ρi oai ∧ Sx c sc O env (fun e => Mx e ∨ e ∈ wr) oai ρi bi h
  have hME : ∀ {ρi oai}, OwnEv O hE ρ oa ρi oai → ∀ a, Mo O (fun e => Mx e ∨ e ∈ wr) oai ρi a → Mo O Mx oa ρ a ∨ a ∈ wr ∨ hE.get? a = none := fun {ρi oai} ow a q => by
    rcases q with (q | q) | ⟨x, q1, q2, q3⟩
    · exact .inl (.inl q)
    · exact .inr (.inl q)
    · rcases ow x q1 q2 with ⟨y, y1, y2, y3⟩ | q4
      · exact .inl (.inr ⟨y, y1, y2, y3.symm.trans q3⟩)
      · exact .inr (.inr (q3 ▸ q4))
  have notM : ∀ {ρi oai}, OwnEv O hE ρ oa ρi oai → ∀ a o, ¬ Mo O Mx oa ρ a → a ∉ wr → hE.get? a = some o → ¬ Mo O (fun e => Mx e ∨ e ∈ wr) oai ρi a := fun ow a o q1 q2 e q => by
    rcases hME ow a q with q | q | q
    · exact q1 q
    · exact q2 q
    · rw [e] at q; cases q
  have owS : ∀ {ρi oai}, OwnEv O hE ρ oa ρi oai → OwnEv O s.heap ρ oa ρi oai := fun ow x hx hr => (ow x hx hr).imp id fun q => kE0.none q
  refine codeAny_forLoop_any (fun k s' => ∃ h tk i ρi bi oai, s' = { s with heap := h, toks := tk } ∧ J i ρi bi oai h ∧ FG c A sc O tg body P (items.drop i) ρi bi ∧ i ≤ items.length ∧ k = items.length + 1 - i) ?_ (items.length + 1)
    ⟨hE, tkE, 0, ρ, b1, oa, rfl, ⟨itk.st, fun _ _ _ _ e => e, fun a o e => ⟨o, e⟩, kE0.ks, OwnEv.refl, S₀⟩, hF, Nat.zero_le _, rfl⟩
  rintro k s' ⟨h, tk, i, ρi, bi, oai, rfl, ⟨st, kk, al, ks, ow, Si⟩, hgo, hil, rfl⟩
  -- the iterator's step
  have step : ∀ {h' : Heap}, (∀ a o, a ∉ wr → h.get? a = some o → h'.get? a = some o) → (∀ a ∈ wr, ∃ o, h'.get? a = some o) →
      (∀ a o, ¬ Mo O Mx oa ρ a → a ∉ wr → hE.get? a = some o → h'.get? a = some o) ∧ (∀ a o, hE.get? a = some o → ∃ o', h'.get? a = some o') ∧ KS c sc O env ρ oa s.heap h' ∧ Sx c sc O env (fun e => Mx e ∨ e ∈ wr) oai ρi bi h' := fun {h'} k' live => by
    refine ⟨fun a o q1 q2 e => k' a o q2 (kk a o q1 q2 e), fun a o e => ?_, ⟨fun a o q1 q2 q3 e => ?_, fun a o e => ?_⟩, Si.turned (W := (· ∈ wr)) (fun a q => .inr q) nB nL nC k' live⟩
    · obtain ⟨o', e'⟩ := al a o e
      by_cases q : a ∈ wr
      · exact live a q
      · exact ⟨o', k' a o' q e'⟩
    · exact k' a o (fun q => by rw [itk.new a q] at e; cases e) (ks.kp a o q1 q2 q3 e)
    · obtain ⟨o', e'⟩ := ks.al a o e
      exact ⟨o', k' a o' (fun q => by rw [itk.new a q] at e; cases e) e'⟩
  by_cases hlt : i < items.length
  · obtain ⟨d0, hd0⟩ : ∃ d0, items[i]? = some d0 := ⟨_, List.getElem?_eq_getElem hlt⟩
    have hdrop : items.drop i = d0 :: items.drop (i + 1) := by
      rw [List.drop_eq_getElem_cons hlt]
      congr 1
      rw [List.getElem?_eq_getElem hlt] at hd0
      exact Option.some.inj hd0
    rw [hdrop] at hgo
    obtain ⟨ρb, hb, hg⟩ := hgo
    refine wpE (itk.K.item i _ _ _ hlt st fun v h₁ tk₁ hMd hk₁ => ?_)
    refine wpE (itk.K.go i v _ _ _ hMd fun h₂ hP hst₂ hk₂ => ?_)
    have k₂ : ∀ a o, a ∉ wr → h.get? a = some o → h₂.get? a = some o := fun a o q e => hk₂ a o q (hk₁ a o q e)
    obtain ⟨kk₂, al₂, ks₂, S₂⟩ := step k₂ fun a q => let ⟨o, _, e, _⟩ := itk.kind _ _ hst₂ a q; ⟨o, e⟩
    refine wpE (assign_snd (s := { s with heap := h₂, toks := tk₁ }) ok ha hb S₂.rd (itk.val i v h₂ d0 _ hd0 hP kk₂ (hME ow)) fun h₃ t₃ xs hxs _ hρ stA R₃ => ?_)
    have S₃ := S₂.storedAll hxs stA hρ R₃
    have ρo : ∀ x, O.contains x = true → ρb x = ρi x := fun x hx => hρ x fun q => by rw [(hxs x q).1] at hx; cases hx
    have ow₃ : OwnEv O hE ρ oa ρb oai := fun x hx hr => ow x hx (by rw [← ρo x hx]; exact hr)
    have kk₃ : ∀ a o, ¬ Mo O Mx oa ρ a → a ∉ wr → hE.get? a = some o → h₃.get? a = some o := fun a o q1 q2 e => stA.km a o (notM ow a o q1 q2 e) (kk₂ a o q1 q2 e)
    have al₃ : ∀ a o, hE.get? a = some o → ∃ o', h₃.get? a = some o' := fun a o e => let ⟨o', e'⟩ := al₂ a o e; stA.al a o' e'
    have ks₃ : KS c sc O env ρ oa s.heap h₃ := ks₂.trans (KS.ofStored stA (O := O) (ρ := ρi) (oa := oai)) (owS ow)
    refine wpE (hg ok ha env _ oai { s with heap := h₃, toks := t₃ } _ S₃ fun fl1 ρ1 b1' hgo flv h₄ t₄ so => ?_)
    obtain ⟨ks4, so⟩ := so
    have ks₄ : KS c sc O env ρ oa s.heap h₄ := ks₃.trans ks4 (owS ow₃)
    cases fl1 with
    | ret d =>
      obtain ⟨v', rfl, r, xx⟩ := so
      exact g _ _ _ hgo (.ret v') _ _ ⟨ks₄, v', rfl, r.mono fun a o hm e => ⟨fun q => hm (.inl q), e⟩, xx⟩
    | next =>
      obtain ⟨rfl, oa4, ow4, S₄⟩ := so
      have ow₄ : OwnEv O hE ρ oa ρ1 oa4 := ow₃.trans ow4 al₃
      have kB : ∀ a o, ¬ Mo O (fun e => Mx e ∨ e ∈ wr) oai ρb a → h₃.get? a = some o → h₄.get? a = some o := fun a o q e =>
        ks4.kp a o (fun q' => q (.inl (.inl (q' ▸ SX.mB)))) (fun q' => q (.inl (.inl (Xc_Mx SX.mL SX.mC q')))) (fun x q1 q2 q3 => q (.inr ⟨x, q1, q2, q3⟩)) e
      refine ⟨items.length + 1 - (i + 1), by exact o36 hlt, h₄, t₄, i + 1, ρ1, b1', oa4, rfl, ⟨?_, fun a o q1 q2 e => kB a o (notM ow₃ a o q1 q2 e) (kk₃ a o q1 q2 e), fun a o e => ?_, ks₄, ow₄, S₄⟩, hgo, hlt, rfl⟩
      · refine itk.K.frame _ _ _ hst₂ fun a ha o e => ?_
        have key : a ≠ c.B ∧ ¬ Xc sc env a ∧ (∀ x, O.contains x = true → ρi x ≠ none → oai x ≠ a) := by
          rcases itk.fix a ha with q | ⟨q, o', e'⟩
          · refine ⟨fun q' => nB (q' ▸ q), fun q' => ?_, fun x x1 x2 x3 => Si.nx x x1 x2 (x3 ▸ .inr q)⟩
            rcases q' with rfl | ⟨y, _, _, q'⟩
            · exact nL q
            · exact nC y a q' q
          · have hn : a ∈ wr ∨ a ∉ wr := Classical.em _
            rcases hn with hn | hn
            · refine ⟨fun q' => nB (q' ▸ hn), fun q' => ?_, fun x x1 x2 x3 => Si.nx x x1 x2 (x3 ▸ .inr hn)⟩
              rcases q' with rfl | ⟨y, _, _, q'⟩
              · exact nL hn
              · exact nC y a q' hn
            · have := notM ow a o' q hn e'
              exact ⟨fun q' => this (.inl (.inl (q' ▸ SX.mB))), fun q' => this (.inl (.inl (Xc_Mx SX.mL SX.mC q'))), fun x x1 x2 x3 => this (.inr ⟨x, x1, x2, x3⟩)⟩
        refine ks4.kp a o key.1 key.2.1 (fun x x1 x2 x3 => key.2.2 x x1 (by rw [← ρo x x1]; exact x2) x3) (stA.k a o key.2.1 e)
      · obtain ⟨o', e'⟩ := al₃ a o e; exact ks4.al a o' e'
  · have hin : i = items.length := by exact o35 hil hlt
    subst hin
    refine wpE (itk.K.done _ _ _ st fun h₁ tk₁ hk₁ => ?_)
    rw [List.drop_length] at hgo
    have nM : ∀ a, Mo O Mx oai ρi a → a ∉ wr := fun a q q' => by
      rcases q with q | ⟨x, x1, x2, x3⟩
      · obtain ⟨o, e⟩ := SX.rd.m.live a (.inl q)
        rw [itk.new a q'] at e; cases e
      · exact Si.nx x x1 x2 (x3 ▸ .inr q')
    have S₁ := Si.drop (h' := h₁) (W := (· ∈ wr)) SX.mB SX.mL SX.mC nM (fun a q => by
        cases e : c.hT.get? a with
        | none => rfl
        | some o => have := itk.new a q; rw [SX.rd.base _ _ e] at this; cases this) hk₁
    refine wpAny_execs_nil (g _ _ _ hgo .next _ _ ⟨⟨fun a o q1 q2 q3 e => ?_, fun a o e => ?_⟩, rfl, oai, owS ow, S₁⟩)
    · exact hk₁ a o (fun q => by rw [itk.new a q] at e; cases e) (ks.kp a o q1 q2 q3 e)
    · obtain ⟨o', e'⟩ := ks.al a o e
      exact ⟨o', hk₁ a o' (fun q => by rw [itk.new a q] at e; cases e) e'⟩
end
end Mine

namespace Mine
open PySem PySem.Calls PyProof.Rows
noncomputable def isComp : Expr → Bool
  | .ListComp _ _ _ _ => true
  | .SetComp _ _ _ _ => true
  | .DictComp _ _ _ _ _ => true
  | _ => false
theorem swaps_plain {e : Expr} {x : Str} {p : Pos} {n : Nat} (h : isComp e = false) (env : Env) : swapsWith e (some (.Name x p)) n env = pure false := by cases e <;> first | rfl | cases h
theorem TF_mono {c : Cx} {A : Around} {csc : Scope} {O : List Str} {ifs : List Expr} {ρ : PEnv} {b : List D} {P P' : Bool → List D → Prop} (w : ∀ t b', P t b' → P' t b') (h : TF c A csc O ifs ρ b P) : TF c A csc O ifs ρ b P' := by
  unfold TF at h ⊢
  split at h
  · exact w _ _ h
  · exact fun ok ha env M s Q R g => h ok ha env M s Q R fun t b' hP => g t b' (w _ _ hP)
  · exact h
theorem CL_mono {c : Cx} {A : Around} {csc : Scope} {O : List Str} {tg elt : Expr} {ifs : List Expr} {ρ : PEnv} : ∀ {items b} {P P' : List D → List D → Prop}, (∀ ds b', P ds b' → P' ds b') → CL c A csc O tg elt ifs ρ items b P → CL c A csc O tg elt ifs ρ items b P'
  | [], _, _, _, w, h => w _ _ h
  | _ :: _, _, _, _, w, ⟨ρ', e, h⟩ => ⟨ρ', e, TF_mono (fun _ _ q => ⟨fun u ok ha env M s Q R g => q.1 u ok ha env M s Q R fun d b' hc => g d b' (CL_mono (fun _ _ hP => w _ _ hP) hc), fun u => CL_mono w (q.2 u)⟩) h⟩
section
variable {c : Cx} {A : Around} {sc : Scope} {O : List Str} {ρ : PEnv} {b : List D} {P : Fl → PEnv → List D → Prop} {x y : Str} {e i t : Expr} {p q pos : Pos} {ds : List D}
theorem l_nil (h : P .next ρ b) : XL c A sc O [] ρ b P := fun _ _ _ _ oa s _ SX g => wpAny_execs_nil (g _ _ _ h .next _ s.toks ⟨KS.refl, rfl, oa, OwnEv.refl, SX⟩)
theorem out_trans {env : Env} {Mx : Addr → Prop} {oa oa1 : Str → Addr} {ρ1 ρ' : PEnv} {b' : List D} {h h₁ h' : Heap} {fl : Fl} {flv : Flow} (ks : KS c sc O env ρ oa h h₁) (ow : OwnEv O h ρ oa ρ1 oa1) (so : StOut c sc O env Mx oa1 ρ1 h₁ fl ρ' b' flv h') : StOut c sc O env Mx oa ρ h fl ρ' b' flv h' := by
  obtain ⟨ks2, so2⟩ := so
  refine ⟨ks.trans ks2 ow, ?_⟩
  cases fl with
  | ret d => exact so2
  | next =>
    obtain ⟨rfl, oa2, ow2, S2⟩ := so2
    exact ⟨rfl, oa2, ow.trans ow2 ks.al, S2⟩
theorem l_cons {st : Stmt} {sts : List Stmt} (h : XS c A sc O st ρ b (Aft (fun ρ' b' => XL c A sc O sts ρ' b' P) P)) : XL c A sc O (st :: sts) ρ b P := fun ok ha env Mx oa s Q SX g => by
  refine wpAny_execs_cons (h ok ha env Mx oa s _ SX fun fl ρ1 b1 h1 flv h₁ tk₁ so => ?_)
  cases fl with
  | ret d =>
    obtain ⟨ks, v, rfl, r, x⟩ := so
    exact g _ _ _ h1 (.ret v) _ _ ⟨ks, v, rfl, r, x⟩
  | next =>
    obtain ⟨ks, rfl, oa1, ow, S1⟩ := so
    exact h1 ok ha env Mx oa1 { s with heap := h₁, toks := tk₁ } _ S1 fun fl ρ' b' hP flv h₂ tk₂ so2 => g _ _ _ hP flv h₂ tk₂ (out_trans ks ow so2)
theorem x_ret (h : EV c A sc [] e ρ b fun d b' => P (.ret d) ρ b') : XS c A sc O (.Return (some e) pos) ρ b P := fun ok ha env Mx oa s Q SX g =>
  wpAny_Return_some (h ok ha env _ s _ SX.frozen fun d b' hP v h' tk' k x r _ => g _ _ _ hP _ _ _ ⟨.ofX k x, v, rfl, r, x⟩)
theorem x_set (hx : (locIn sc x && !O.contains x && !isComp e) = true) (h : EV c A sc O e ρ b fun d b' => P .next (upd ρ x d) b') : XS c A sc O (.Assign [.Name x p] e pos) ρ b P := fun ok ha env Mx oa s Q SX g => by
  simp only [Bool.and_eq_true, Bool.not_eq_true'] at hx
  exact name_store ok ha (swaps_plain hx.2) h SX.rd hx.1.1 _ (fun _ _ q => q) fun d b' hP => plain_goes ok SX hx.1.1 hx.1.2 (g _ _ _ hP)
theorem x_own (hx : (locIn sc x && O.contains x && !isComp e && isFresh e) = true) (h : EV c A sc O e ρ b fun d b' => isList d = true ∧ P .next (upd ρ x d) b') : XS c A sc O (.Assign [.Name x p] e pos) ρ b P := fun ok ha env Mx oa s Q SX g => by
  simp only [Bool.and_eq_true, Bool.not_eq_true'] at hx
  exact name_store ok ha (swaps_plain hx.1.2) h SX.rd hx.1.1.1 (fun v a => Mo O (fun e => Mx e ∨ v = .ref e) oa ρ a) (fun _ _ q => q.imp .inl id) fun d b' hP => own_goes ok SX hx.1.1.1 hx.1.1.2 hx.2 hP.1 (g _ _ _ hP.2)
theorem x_setc {csc : Scope} {elt tg iter : Expr} {ifs : List Expr} {cpos : Pos} (hx : (locIn sc x && !O.contains x && compOk sc csc && tgOk iter tg) = true) (hset : ∀ env x, foldedSetIterable iter env x = pure x)
    (h : EI c A sc O iter ρ b fun items b₁ => CL c A csc O tg elt ifs (free csc ρ) items b₁ fun ds b₂ => P .next (upd ρ x (.list ds)) b₂) : XS c A sc O (.Assign [.Name x p] (.ListComp elt [⟨tg, iter, ifs, 0⟩] csc cpos) pos) ρ b P := fun ok ha env Mx oa s Q SX g => by
  simp only [Bool.and_eq_true, Bool.not_eq_true'] at hx
  exact comp_store (P := fun d b₂ => ∃ ds, d = .list ds ∧ P .next (upd ρ x (.list ds)) b₂) ok ha (by rw [hx.1.2, hx.2]; rfl) hset (fun ok ha env M s Q tg htg R g' => h ok ha env M s Q tg htg R fun ds b' hc => g' ds b' (CL_mono (fun ds b₂ hP => ⟨ds, rfl, hP⟩) hc)) SX.rd hx.1.1.1 _ (fun _ _ q => q) fun d b' ⟨ds, e, hP⟩ => plain_goes ok SX hx.1.1.1 hx.1.1.2 (by rw [e]; exact g _ _ _ hP)
theorem x_ownc {csc : Scope} {elt tg iter : Expr} {ifs : List Expr} {cpos : Pos} (hx : (locIn sc x && O.contains x && compOk sc csc && tgOk iter tg) = true) (hset : ∀ env x, foldedSetIterable iter env x = pure x)
    (h : EI c A sc O iter ρ b fun items b₁ => CL c A csc O tg elt ifs (free csc ρ) items b₁ fun ds b₂ => P .next (upd ρ x (.list ds)) b₂) : XS c A sc O (.Assign [.Name x p] (.ListComp elt [⟨tg, iter, ifs, 0⟩] csc cpos) pos) ρ b P := fun ok ha env Mx oa s Q SX g => by
  simp only [Bool.and_eq_true, Bool.not_eq_true'] at hx
  exact comp_store (P := fun d b₂ => ∃ ds, d = .list ds ∧ P .next (upd ρ x (.list ds)) b₂) ok ha (by rw [hx.1.2, hx.2]; rfl) hset (fun ok ha env M s Q tg htg R g' => h ok ha env M s Q tg htg R fun ds b' hc => g' ds b' (CL_mono (fun ds b₂ hP => ⟨ds, rfl, hP⟩) hc)) SX.rd hx.1.1.1 (fun v a => Mo O (fun e => Mx e ∨ v = .ref e) oa ρ a) (fun _ _ q => q.imp .inl id) fun d b' ⟨ds, e, hP⟩ => by
    subst e
    exact own_goes ok SX hx.1.1.1 hx.1.1.2 rfl rfl (g _ _ _ hP)
theorem x_move {d : D} (hx : (locIn sc x && !O.contains x) = true) (hy : ρ y = some d) (h : P .next (upd (if O.contains y then del ρ y else ρ) x d) b) : XS c A sc O (.Assign [.Name x p] (.Name y q) pos) ρ b P := fun ok ha env Mx oa s Q SX g => by
  simp only [Bool.and_eq_true, Bool.not_eq_true'] at hx
  exact name_move hy SX hx.1 hx.2 (g _ _ _ h)
theorem x_tup {ts vs : List Expr} {k kv : Nat} {tp vp : Pos} {xs : List Str} (hts : namesOf ts = some xs) (hx : (xs.all (locIn sc) && decide xs.Nodup && !vs.all (constantsAlone 8) && Nat.ble xs.length lim) = true)
    (h : EP c A sc O xs vs ρ b fun ds b' => Op (updAll ρ xs ds) fun ρ' => P .next ρ' b') : XS c A sc O (.Assign [.Tuple ts k tp] (.Tuple vs kv vp) pos) ρ b P := fun ok ha env Mx oa s Q SX g => by
  simp only [Bool.and_eq_true, Bool.not_eq_true', decide_eq_true_eq, Nat.ble_eq] at hx
  exact tuple_snd ok ha hts hx.1.1.1 hx.1.1.2 hx.1.2 h hx.2 SX fun ds b' ⟨ρ1, e1, hP⟩ ρ' e => by
    rw [e] at e1; cases e1
    exact g _ _ _ hP
theorem x_unp {ts : List Expr} {k : Nat} {tp : Pos} {xs : List Str} (hts : namesOf ts = some xs) (hx : (xs.all (locIn sc) && decide xs.Nodup && xs.all (fun x => !O.contains x) && !isTup e) = true)
    (h : EV c A sc O e ρ b fun d b' => ∃ ds, d = .tuple ds ∧ xs.length = ds.length ∧ Op (updAll ρ xs ds) fun ρ' => P .next ρ' b') : XS c A sc O (.Assign [.Tuple ts k tp] e pos) ρ b P := fun ok ha env Mx oa s Q SX g => by
  simp only [Bool.and_eq_true, Bool.not_eq_true', decide_eq_true_eq] at hx
  exact unpack_snd ok ha hts hx.1.1.1 hx.1.1.2 hx.1.2 (fun vs k p e => by rw [e] at hx; cases hx.2) h SX fun ds b' ⟨ρ1, e1, hP⟩ ρ' e => by
    rw [e] at e1; cases e1
    exact g _ _ _ hP
theorem x_put (ho : O.contains x = true) (ex : ρ x = some (.list ds)) (h : EV c A sc O e ρ b fun d b1 => EV c A sc O i ρ b1 fun dk b2 => ∃ k, dk = .int k ∧ Op (putAt ds k d) fun ds' => P .next (upd ρ x (.list ds')) b2) :
    XS c A sc O (.Assign [.Subscript (.Name x p) i q] e pos) ρ b P := fun ok ha _ _ _ _ _ SX g => sub_own ok ha h SX ho ex fun _ _ hP => g _ _ _ hP
theorem x_box (ho : O.contains x = false) (ex : ρ x = some .box) (h : EV c A sc O e ρ b fun d b1 => EV c A sc O i ρ b1 fun dk b2 => ∃ j k, d = .int j ∧ dk = .int k ∧ (k = 1 ∨ k = 2) ∧ Op (putAt b2 k (.int j)) fun b' => P .next ρ b') :
    XS c A sc O (.Assign [.Subscript (.Name x p) i q] e pos) ρ b P := fun ok ha _ _ _ _ _ SX g => sub_box ok ha h SX ho ex fun _ hP => g _ _ _ hP
theorem x_aug {op : Operator} {a : Int} (hx : (locIn sc x && !O.contains x && (op == .Add || op == .Sub)) = true) (ex : ρ x = some (.int a)) (h : EV c A sc O e ρ b fun dj b' => ∃ j, dj = .int j ∧ Op (binop op (.int a) (.int j)) fun d => P .next (upd ρ x d) b') :
    XS c A sc O (.AugAssign (.Name x p) op e pos) ρ b P := fun ok ha _ _ _ _ _ SX g => by
  simp only [Bool.and_eq_true, Bool.not_eq_true'] at hx
  exact aug_name ok ha hx.2 ex h SX hx.1.1 hx.1.2 fun _ _ hP => g _ _ _ hP
theorem x_augs (ho : (O.contains x && !isSl i) = true) (ex : ρ x = some (.list ds)) (h : EV c A sc O i ρ b fun dk b1 => ∃ k a, dk = .int k ∧ pick ds k = some (.int a) ∧ EV c A sc O e ρ b1 fun dj b2 => ∃ j, dj = .int j ∧ Op (putAt ds k (.int (a - j))) fun ds' => P .next (upd ρ x (.list ds')) b2) :
    XS c A sc O (.AugAssign (.Subscript (.Name x p) i q) .Sub e pos) ρ b P := fun ok ha _ _ _ _ _ SX g => by
  simp only [Bool.and_eq_true, Bool.not_eq_true'] at ho
  exact aug_sub ok ha ho.2 h SX ho.1 ex fun _ _ hP => g _ _ _ hP
theorem x_app {apos spos : Pos} (ho : (O.contains x && (apos.endLine == pos.line) && nst e) = true) (ex : ρ x = some (.list ds)) (hl : ds.length < lim) (h : EV c A sc O e ρ b fun d b' => P .next (upd ρ x (.list (ds ++ [d]))) b') :
    XS c A sc O (.Expr (.Call (.Attribute (.Name x p) "append" apos) [e] [] pos) spos) ρ b P := fun ok ha _ _ _ _ _ SX g => by
  simp only [Bool.and_eq_true] at ho
  exact append_snd ok ha ho.1.2 ho.2 h SX ho.1.1 ex hl fun _ _ hP => g _ _ _ hP
theorem x_do {f : Str} {args : List Expr} {pf pc : Pos} (h : EV c A sc O (.Call (.Name f pf) args [] pc) ρ b fun d b' => d = .none ∧ P .next ρ b') : XS c A sc O (.Expr (.Call (.Name f pf) args [] pc) pos) ρ b P := fun ok ha _ _ _ _ _ SX g =>
  call_stmt ok ha h SX fun _ hP => g _ _ _ hP
theorem x_if {l r : List Stmt} (h : TS c A sc O t ρ b fun u b₁ => Br u (XL c A sc O l ρ b₁ P) (XL c A sc O r ρ b₁ P)) : XS c A sc O (.If t l r pos) ρ b P := fun ok ha env Mx oa s Q SX g => by
  refine wpAny_If (h ok ha env _ s _ SX.rd fun u b₁ hu h₁ tk₁ k₁ x₁ => ?_)
  have S₁ := SX.expr ok k₁ x₁
  have out : ∀ fl ρ' b', P fl ρ' b' → ∀ flv h' tk', StOut c sc O env Mx oa ρ h₁ fl ρ' b' flv h' → Q flv { s with heap := h', toks := tk' } := fun fl ρ' b' hP flv h' tk' so =>
    g _ _ _ hP flv h' tk' (out_trans (K0.ofX k₁ x₁).ks OwnEv.refl so)
  cases u with
  | true => exact hu.1 rfl ok ha env Mx oa { s with heap := h₁, toks := tk₁ } _ S₁ out
  | false => exact hu.2 rfl ok ha env Mx oa { s with heap := h₁, toks := tk₁ } _ S₁ out
end
end Mine

namespace Mine
open PySem PySem.Calls PyProof.Rows
/-- a def's arguments are bound one by one -/
noncomputable def BindOk (name : Str) (params : Arguments) (body : List Stmt) (scope : Scope) (xs : List Str) : Prop := ∀ (vs : List Value) (pm code doc : Value), vs.length = xs.length → bindArgs (docDef name params body scope pm code doc) ⟨vs, []⟩ = pure (xs.zip vs)
theorem len_cons {vs : List Value} {n : Nat} (h : vs.length = n + 1) : ∃ a ws, vs = a :: ws ∧ ws.length = n := by
  cases vs with
  | nil => cases h
  | cons a ws => exact ⟨a, ws, rfl, Nat.succ.inj h⟩
theorem len_nil {vs : List Value} (h : vs.length = 0) : vs = [] := List.length_eq_zero_iff.mp h
section
variable {name : Str} {params : Arguments} {body : List Stmt} {scope : Scope} {x y z w : Str}
theorem bindA1 (h : ∀ a pm code doc, bindArgs (docDef name params body scope pm code doc) ⟨[a], []⟩ = pure [(x, a)]) : BindOk name params body scope [x] := fun vs pm code doc hl => by
  obtain ⟨a, v0, rfl, h0⟩ := len_cons hl
  obtain rfl := len_nil h0
  exact h a pm code doc
theorem bindA2 (h : ∀ a b pm code doc, bindArgs (docDef name params body scope pm code doc) ⟨[a, b], []⟩ = pure [(x, a), (y, b)]) : BindOk name params body scope [x, y] := fun vs pm code doc hl => by
  obtain ⟨a, v0, rfl, h0⟩ := len_cons hl
  obtain ⟨b, v1, rfl, h1⟩ := len_cons h0
  obtain rfl := len_nil h1
  exact h a b pm code doc
theorem bindA3 (h : ∀ a b c pm code doc, bindArgs (docDef name params body scope pm code doc) ⟨[a, b, c], []⟩ = pure [(x, a), (y, b), (z, c)]) : BindOk name params body scope [x, y, z] := fun vs pm code doc hl => by
  obtain ⟨a, v0, rfl, h0⟩ := len_cons hl
  obtain ⟨b, v1, rfl, h1⟩ := len_cons h0
  obtain ⟨c, v2, rfl, h2⟩ := len_cons h1
  obtain rfl := len_nil h2
  exact h a b c pm code doc
theorem bindA4 (h : ∀ a b c d pm code doc, bindArgs (docDef name params body scope pm code doc) ⟨[a, b, c, d], []⟩ = pure [(x, a), (y, b), (z, c), (w, d)]) : BindOk name params body scope [x, y, z, w] := fun vs pm code doc hl => by
  obtain ⟨a, v0, rfl, h0⟩ := len_cons hl
  obtain ⟨b, v1, rfl, h1⟩ := len_cons h0
  obtain ⟨c, v2, rfl, h2⟩ := len_cons h1
  obtain ⟨d, v3, rfl, h3⟩ := len_cons h2
  obtain rfl := len_nil h3
  exact h a b c d pm code doc
end
theorem cells_has : ∀ {names : List (Str × NameKind)} {n : Nat} {acc : List (Str × Addr)} {x : Str}, ((x, NameKind.cell) ∈ names ∨ (acc.lookup x).isSome = true) → ((cellsFrom n names acc).lookup x).isSome = true
  | [], n, acc, x, h => by
    rcases h with h | h
    · simp at h
    · exact h
  | (y, k) :: r, n, acc, x, h => by
    unfold cellsFrom
    split
    · refine cells_has ?_
      by_cases q : x = y
      · subst q; exact .inr (by simp [List.lookup_cons])
      · rcases h with h | h
        · rcases List.mem_cons.mp h with q' | q'
          · cases q'; exact absurd rfl q
          · exact .inl q'
        · refine .inr ?_
          rw [List.lookup_cons]
          rw [beq_eq_false_iff_ne.mpr q]
          exact h
    · rename_i hk
      refine cells_has ?_
      rcases h with h | h
      · rcases List.mem_cons.mp h with q | q
        · cases q; simp at hk
        · exact .inl q
      · exact .inr h
section
variable {c : Cx} {A : Around} {h h' : Heap} {M Mx : Addr → Prop}
theorem bind_vals {kindOf : Str → Option NameKind} {xs : List Str} {ds : List D} {vs : List Value} {ρ ρ0 : PEnv} {m cm : Str → Option Value} (hu : updAll ρ xs ds = some ρ0) (r : VRs h M c.B vs ds) (hn : xs.Nodup)
    (hx : ∀ x d, ρ x = some d → x ∉ xs → ∃ v, VR h M c.B v d ∧ (kindOf x = some .local → m x = some v) ∧ (kindOf x ≠ some .local → cm x = some v)) (hd : ∀ x d, ρ x = some d → x ∉ xs) :
    ∀ x d, ρ0 x = some d → ∃ v, VR h M c.B v d ∧ (kindOf x = some .local → bindL kindOf (xs.zip vs) m x = some v) ∧ (kindOf x ≠ some .local → bindC kindOf (xs.zip vs) cm x = some v) := by
  induction xs generalizing ds vs ρ m cm with
  | nil =>
    cases ds with
    | cons _ _ => cases hu
    | nil =>
      cases hu
      exact fun x d e => hx x d e nofun
  | cons y xs ih =>
    cases ds with
    | nil => cases hu
    | cons dy ds =>
      obtain ⟨vy, vs, rfl, h1, r⟩ := r.cons_inv
      have hn' := List.nodup_cons.mp hn
      refine ih (m := if kindOf y = some .local then fun z => if z = y then some vy else m z else m) (cm := if kindOf y = some .local then cm else fun z => if z = y then some vy else cm z) hu r hn'.2 (fun z d' q hz => ?_) (fun z d' q hz => ?_)
      · rcases upd_some q with ⟨rfl, rfl⟩ | ⟨q', q⟩
        · refine ⟨vy, h1, fun q => ?_, fun q => ?_⟩
          · rw [if_pos q, if_pos rfl]
          · rw [if_neg q, if_pos rfl]
        · obtain ⟨v, g1, g2, g3⟩ := hx z d' q fun h => (List.mem_cons.mp h).elim q' hz
          refine ⟨v, g1, fun q4 => ?_, fun q4 => ?_⟩
          · split
            · exact (if_neg q').trans (g2 q4)
            · exact g2 q4
          · split
            · exact g3 q4
            · exact (if_neg q').trans (g3 q4)
      · rcases upd_some q with ⟨rfl, _⟩ | ⟨_, q⟩
        · exact hn'.1 hz
        · exact hd z d' q (List.mem_cons_of_mem _ hz)
theorem updAll_dom {xs : List Str} {ds : List D} {ρ ρ0 : PEnv} (hu : updAll ρ xs ds = some ρ0) : ∀ x d, ρ0 x = some d → x ∈ xs ∨ ρ x = some d := by
  induction xs generalizing ds ρ with
  | nil =>
    cases ds with
    | cons _ _ => cases hu
    | nil => cases hu; exact fun x d e => .inr e
  | cons y xs ih =>
    cases ds with
    | nil => cases hu
    | cons dy ds =>
      intro x d e
      rcases ih hu x d e with q | q
      · exact .inl (List.mem_cons_of_mem _ q)
      · rcases upd_some q with ⟨rfl, _⟩ | ⟨_, q⟩
        · exact .inl (.head _)
        · exact .inr q
theorem updAll_len {xs : List Str} {ds : List D} {ρ ρ0 : PEnv} (hu : updAll ρ xs ds = some ρ0) : xs.length = ds.length := by
  induction xs generalizing ds ρ with
  | nil =>
    cases ds with
    | cons _ _ => cases hu
    | nil => rfl
  | cons y xs ih =>
    cases ds with
    | nil => cases hu
    | cons dy ds => exact congrArg (· + 1) (ih hu)
/-- what a frame begins with -/
theorem Sx.start {sc : Scope} {O : List Str} {env : Env} {xs : List Str} {args b : List D} {vs : List Value} {ρ0 : PEnv} {s s₁ : Shared} (ok : c.Ok) (hsc : env.scope = sc) (hg : env.globals = mainGlobals) (hb : env.builtins = builtinsNs) (hcells : env.cells = cellsFrom (env.locals + 1) sc.names []) (hL : env.locals = s.heap.objs.size)
    (kind : sc.kind = .function) (nd : sc.names.lookup ("__debug__" : Str) = none ∧ sc.names.lookup ("__classdict__" : Str) = none) (hxs : ∀ x ∈ xs, locIn sc x = true) (hn : xs.Nodup) (hO : ∀ x ∈ xs, O.contains x = false)
    (base : ∀ a o, c.hT.get? a = some o → s.heap.get? a = some o) (m : MOk c s.heap M) (x : BoxR c s.heap b) (r : VRs s.heap M c.B vs args) (hu : updAll (fun _ => none) xs args = some ρ0)
    (I : InCallC s env.locals (bindL env.kindOf (xs.zip vs) fun _ => none) env.cells (bindC env.kindOf (xs.zip vs) fun _ => none) s₁) :
    Sx c sc O env (fun a => M a ∨ s.heap.get? a = none ∧ (a = env.locals ∨ ∃ y, env.cells.lookup y = some a)) (fun _ => 0) ρ0 b s₁.heap := by
  have keep := I.toInCall.keep
  have hk : ∀ y, env.kindOf y = sc.names.lookup y := fun y => by unfold Env.kindOf; rw [hsc]
  have none_ge : ∀ a, s.heap.objs.size ≤ a → s.heap.get? a = none := fun a ha => by
    cases e : s.heap.get? a with
    | none => rfl
    | some o => exact absurd (Heap.lt_size e) (Nat.not_lt.mpr ha)
  have nL : s.heap.get? env.locals = none := none_ge _ (by rw [hL]; exact Nat.le_refl _)
  have nC : ∀ y a, env.cells.lookup y = some a → s.heap.get? a = none := fun y a e => none_ge a (by
    have := I.above y a (mem_of_lookup e)
    rw [hL] at this; exact Nat.le_of_lt this)
  have hMo : Mo O (fun a => M a ∨ s.heap.get? a = none ∧ (a = env.locals ∨ ∃ y, env.cells.lookup y = some a)) (fun _ => 0) ρ0 = fun a => M a ∨ s.heap.get? a = none ∧ (a = env.locals ∨ ∃ y, env.cells.lookup y = some a) := by
    funext a; apply propext
    refine ⟨fun q => q.elim id fun ⟨y, q1, q2, _⟩ => ?_, .inl⟩
    obtain ⟨d, hd⟩ := Option.ne_none_iff_exists'.mp q2
    rcases updAll_dom hu y d hd with q | q
    · rw [hO y q] at q1; cases q1
    · cases q
  have ow : ∀ y d, O.contains y = true → ρ0 y = some d → False := fun y d q1 q2 => by
    rcases updAll_dom hu y d q2 with q | q
    · rw [hO y q] at q1; cases q1
    · cases q
  have fit : ∀ y, locIn sc y = true → env.kindOf y = some .local ∨ (env.kindOf y = some .cell ∧ ∃ a, env.cells.lookup y = some a) := fun y hy => by
    rw [hk y]
    unfold locIn at hy
    split at hy
    · rename_i e; exact .inl e
    · rename_i e
      refine .inr ⟨e, Option.isSome_iff_exists.mp ?_⟩
      rw [hcells]
      exact cells_has (.inl (lookup_mem e))
    · cases hy
  refine ⟨?_, fun y d q1 q2 => (ow y d q1 q2).elim, fun y q1 q2 => (ow y _ q1 (Option.ne_none_iff_exists'.mp q2).choose_spec).elim, fun y z q1 _ q2 => (ow y _ q1 (Option.ne_none_iff_exists'.mp q2).choose_spec).elim, .inl m.box, .inr ⟨nL, .inl rfl⟩, fun y a e => .inr ⟨nC y a e, .inr ⟨y, e⟩⟩⟩
  rw [hMo]
  exact {
    kind := by rw [hsc]; exact kind
    glob := hg
    bi := hb
    gl := fun y e => by rw [hk y]; exact e
    nd := nd
    dom := fun y d e => by
      rcases updAll_dom hu y d e with q | q
      · exact locIn_ne nd (hxs y q)
      · cases q
    cl := fun y e => by
      refine ⟨by rw [hk y]; exact e, ?_⟩
      rw [hcells]
      exact cells_has (.inl (lookup_mem e))
    base := fun a o e => keep a o (base a o e)
    m := ⟨.inl m.box, fun a hm => by
        rcases hm with hm | ⟨_, rfl | ⟨y, e⟩⟩
        · obtain ⟨o, e⟩ := m.live a hm; exact ⟨o, keep a o e⟩
        · obtain ⟨o, _, _, e, _⟩ := I.toInCall.ns; exact ⟨o, e⟩
        · obtain ⟨o, e, _⟩ := I.cell y a e; exact ⟨o, e⟩, fun a hm => by
        rcases hm with hm | ⟨hn, _⟩
        · exact m.low a hm
        · cases e : c.hT.get? a with
          | none => rfl
          | some o => rw [base a o e] at hn; cases hn⟩
    vars := fun y d e => by
      obtain ⟨v, g1, g2, g3⟩ := bind_vals (kindOf := env.kindOf) (m := fun _ => none) (cm := fun _ => none) hu r hn (fun _ _ q => by cases q) (fun _ _ q => by cases q) y d e
      refine ⟨v, ?_, fun _ => g1.mono fun a o hm e => ⟨fun q => q.elim hm fun q => (by rw [e] at q; cases q.1), keep a o e⟩, fun q => (ow y d q e).elim⟩
      have hy : y ∈ xs := (updAll_dom hu y d e).resolve_right fun q => by cases q
      rcases fit y (hxs y hy) with q | ⟨q, a, ha⟩
      · exact .inl ⟨q, _, I.toInCall.ns, g2 q⟩
      · refine .inr ⟨.inl q, a, ha, ?_⟩
        have := I.cell y a ha
        rwa [g3 (by rw [q]; decide)] at this
    box := x.keep keep
    wr := { ns := ⟨_, I.toInCall.ns⟩
            mL := .inr ⟨nL, .inl rfl⟩
            cells := fun y a e => ⟨⟨_, I.cell y a e⟩, .inr ⟨nC y a e, .inr ⟨y, e⟩⟩⟩
            apart := fun y z a e1 e2 => name_of_addr I.apart (mem_of_lookup e1) (mem_of_lookup e2)
            loc := fit } }
noncomputable def fv : Fl → D
  | .ret d => d
  | .next => .none
/-- a def's end -/
noncomputable def Ret (P : D → List D → Prop) : Fl → PEnv → List D → Prop := fun fl _ b => P (fv fl) b
/-- room for k calls yet -/
structure AD (A : Around) (k : Nat) : Prop where
  hh : A.handled = none
  d : A.depth + k < 1000
  u : A.units + 3 * k + 3 < 9000
/-- one def, by what is said of its body -/
theorem def_snd {name : Str} {params : Arguments} {body : List Stmt} {sc : Scope} {xs O : List Str} {args b : List D} {ρ0 : PEnv} {k : Nat} {P : D → List D → Prop} (ok : c.Ok)
    (hfn : ∃ a o pm code doc, c.mg name = some (.ref a) ∧ c.hT.get? a = some o ∧ o.data = .func (docDef name params body sc pm code doc) ∧ c.hT.CodeRec code name)
    (hbind : BindOk name params body sc xs) (hco : sc.isCoroutine = false) (hgen : sc.isGenerator = false)
    (kind : sc.kind = .function) (nd : sc.names.lookup ("__debug__" : Str) = none ∧ sc.names.lookup ("__classdict__" : Str) = none) (hxs : ∀ x ∈ xs, locIn sc x = true) (hn : xs.Nodup) (hO : ∀ x ∈ xs, O.contains x = false)
    (hA : AD A (k + 1)) (hu : updAll (fun _ => none) xs args = some ρ0) (h : ∀ A', AD A' k → XL c A' sc O body ρ0 b (Ret P)) :
    CallP c A name args b P := by
  obtain ⟨a, o, pm, code, doc, e1, e2, e3, e4⟩ := hfn
  refine ⟨a, o, _, e1, e2, e3, fun s M vs Q base m x r P => ?_⟩
  obtain ⟨a1, a2, a3⟩ := hA
  have hl : vs.length = xs.length := by rw [r.length, updAll_len hu]
  refine wpAny_call (codeAny_call_cells (binds := xs.zip vs) (by show A.depth < 1000; exact o48 a2) (base _ _ e2) e3 (ok.nolimit.keeps base) (e4.keeps base) rfl (hbind vs _ _ _ hl) rfl (fun y hy => ?_) (fun s₁ I => ?_) hco hgen kind)
  · have hy' : y.1 ∈ xs := (List.of_mem_zip (a := y.1) (b := y.2) hy).1
    have := hxs _ hy'
    unfold locIn at this
    split at this
    · rename_i e; exact .inl e
    · rename_i e; exact .inr ⟨e, cells_has (.inl (lookup_mem e))⟩
    · cases this
  · have S := Sx.start (env := callEnvC (docDef name params body sc pm code doc) s.heap.objs.size a) (O := O) ok rfl rfl rfl rfl rfl kind nd hxs hn hO base m x r hu I
    obtain ⟨h₁, tk₁, rfl⟩ := I.toInCall.same
    have keep := I.toInCall.keep
    refine wpE (h (A.deeper (callEnvC (docDef name params body sc pm code doc) s.heap.objs.size a)) ⟨a1, by show A.depth + 1 + k < 1000; exact o47 a2, by show A.units + 3 + 3 * k + 3 < 9000; exact o46 a3⟩ ok ⟨a1, by show A.units + 3 < 9000; exact o45 a3⟩ _ _ _ { s with heap := h₁, toks := tk₁ } _ S fun fl ρ' b' hP flv h₂ tk₂ so => ?_)
    obtain ⟨ks, so⟩ := so
    have ne : ∀ e o, s.heap.get? e = some o → ¬ Xc sc (callEnvC (docDef name params body sc pm code doc) s.heap.objs.size a) e := fun e o q q' => by
      rcases q' with rfl | ⟨y, _, _, q'⟩
      · exact absurd (Heap.lt_size q) (Nat.lt_irrefl _)
      · have := I.above y e (mem_of_lookup q')
        exact absurd (Heap.lt_size q) (Nat.not_lt.mpr (Nat.le_of_lt this))
    have kx : KX c.B s.heap h₂ := fun e o q q' => ks.kp e o q (ne e o q') (fun y hy hr _ => by
      obtain ⟨d, hd⟩ := Option.ne_none_iff_exists'.mp hr
      rcases updAll_dom hu y d hd with q | q
      · rw [hO y q] at hy; cases hy
      · cases q) (keep e o q')
    cases fl with
    | ret d =>
      obtain ⟨v, rfl, rr, xx⟩ := so
      exact P _ _ hP v h₂ tk₂ kx xx (rr.mono fun e o hm q => ⟨fun q' => hm (.inl q'), q⟩) fun q => q.elim
    | next =>
      obtain ⟨rfl, oa, _, S'⟩ := so
      exact P _ _ hP .none h₂ tk₂ kx S'.rd.box .none fun q => q.elim
structure Fn where
  name : Str
  params : Arguments
  xs : List Str
  body : List Stmt
  sc : Scope
  O : List Str
noncomputable def fnOk (F : Fn) : Bool := !F.sc.isCoroutine && !F.sc.isGenerator && F.sc.kind == .function && F.sc.names.lookup ("__debug__" : Str) == none && F.sc.names.lookup ("__classdict__" : Str) == none && F.xs.all (locIn F.sc) && decide F.xs.Nodup && F.xs.all (fun x => !F.O.contains x)
theorem fnOk_inv {F : Fn} (h : fnOk F = true) : F.sc.isCoroutine = false ∧ F.sc.isGenerator = false ∧ F.sc.kind = .function ∧ F.sc.names.lookup ("__debug__" : Str) = none ∧ F.sc.names.lookup ("__classdict__" : Str) = none ∧ (∀ x ∈ F.xs, locIn F.sc x = true) ∧ F.xs.Nodup ∧ ∀ x ∈ F.xs, F.O.contains x = false := by
  unfold fnOk at h
  simp only [Bool.and_eq_true, Bool.not_eq_true', beq_iff_eq, decide_eq_true_eq, List.all_eq_true] at h
  obtain ⟨⟨⟨⟨⟨⟨⟨a6, a7⟩, a8⟩, a9⟩, a10⟩, a11⟩, a12⟩, a13⟩ := h
  exact ⟨a6, a7, a8, a9, a10, a11, a12, a13⟩
/-- the defs stand -/
noncomputable def DefsOk (c : Cx) (fs : List Fn) : Prop := ∀ F ∈ fs, ∃ a o pm code doc, c.mg F.name = some (.ref a) ∧ c.hT.get? a = some o ∧ o.data = .func (docDef F.name F.params F.body F.sc pm code doc) ∧ c.hT.CodeRec code F.name
theorem enter {fs : List Fn} (ok : c.Ok) (DD : DefsOk c fs) (F : Fn) {args b : List D} {ρ0 : PEnv} {k : Nat} {P : D → List D → Prop} (hm : F ∈ fs) (h1 : fnOk F = true) (hb : BindOk F.name F.params F.body F.sc F.xs) (hA : AD A (k + 1)) (hu : updAll (fun _ => none) F.xs args = some ρ0) (h : ∀ A', AD A' k → XL c A' F.sc F.O F.body ρ0 b (Ret P)) :
    CallP c A F.name args b P := by
  obtain ⟨a6, a7, a8, a9, a10, a11, a12, a13⟩ := fnOk_inv h1
  exact def_snd ok (DD F hm) hb a6 a7 a8 ⟨a9, a10⟩ a11 a12 a13 hA hu h
theorem DefsOk.has {fs : List Fn} (DD : DefsOk c fs) {f : Str} (h : (fs.any fun F => F.name == f) = true) : IsDef c f := by
  obtain ⟨F, h1, h2⟩ := List.any_eq_true.mp h
  obtain ⟨a, o, _, _, _, e1, e2, e3, _⟩ := DD F h1
  exact eq_of_beq h2 ▸ ⟨a, o, _, e1, e2, e3⟩
end
end Mine

namespace Mine
open PySem PySem.Calls PyProof.Rows
section
variable {c : Cx} {A : Around} {sc : Scope} {O : List Str} {ρ : PEnv} {b : List D} {P : Fl → PEnv → List D → Prop} {x y : Str} {e i t : Expr} {p q pos : Pos} {ds : List D} {sts : List Stmt}
theorem l_ret (h : EV c A sc [] e ρ b fun d b' => P (.ret d) ρ b') : XL c A sc O (.Return (some e) pos :: sts) ρ b P := l_cons (x_ret h)
theorem l_set (hx : (locIn sc x && !O.contains x && !isComp e) = true) (h : EV c A sc O e ρ b fun d b' => XL c A sc O sts (upd ρ x d) b' P) : XL c A sc O (.Assign [.Name x p] e pos :: sts) ρ b P := l_cons (x_set hx h)
theorem l_own (hx : (locIn sc x && O.contains x && !isComp e && isFresh e) = true) (h : EV c A sc O e ρ b fun d b' => isList d = true ∧ XL c A sc O sts (upd ρ x d) b' P) : XL c A sc O (.Assign [.Name x p] e pos :: sts) ρ b P := l_cons (x_own hx h)
theorem l_setc {csc : Scope} {elt tg iter : Expr} {ifs : List Expr} {cpos : Pos} (hx : (locIn sc x && !O.contains x && compOk sc csc && tgOk iter tg) = true) (hset : ∀ env x, foldedSetIterable iter env x = pure x)
    (h : EI c A sc O iter ρ b fun items b₁ => CL c A csc O tg elt ifs (free csc ρ) items b₁ fun ds b₂ => XL c A sc O sts (upd ρ x (.list ds)) b₂ P) : XL c A sc O (.Assign [.Name x p] (.ListComp elt [⟨tg, iter, ifs, 0⟩] csc cpos) pos :: sts) ρ b P := l_cons (x_setc hx hset h)
theorem l_ownc {csc : Scope} {elt tg iter : Expr} {ifs : List Expr} {cpos : Pos} (hx : (locIn sc x && O.contains x && compOk sc csc && tgOk iter tg) = true) (hset : ∀ env x, foldedSetIterable iter env x = pure x)
    (h : EI c A sc O iter ρ b fun items b₁ => CL c A csc O tg elt ifs (free csc ρ) items b₁ fun ds b₂ => XL c A sc O sts (upd ρ x (.list ds)) b₂ P) : XL c A sc O (.Assign [.Name x p] (.ListComp elt [⟨tg, iter, ifs, 0⟩] csc cpos) pos :: sts) ρ b P := l_cons (x_ownc hx hset h)
theorem l_move {d : D} (hx : (locIn sc x && !O.contains x) = true) (hy : ρ y = some d) (h : XL c A sc O sts (upd (if O.contains y then del ρ y else ρ) x d) b P) : XL c A sc O (.Assign [.Name x p] (.Name y q) pos :: sts) ρ b P := l_cons (x_move hx hy h)
theorem l_tup {ts vs : List Expr} {k kv : Nat} {tp vp : Pos} (xs : List Str) (hts : namesOf ts = some xs) (hx : (xs.all (locIn sc) && decide xs.Nodup && !vs.all (constantsAlone 8) && Nat.ble xs.length lim) = true)
    (h : EP c A sc O xs vs ρ b fun ds b' => Op (updAll ρ xs ds) fun ρ' => XL c A sc O sts ρ' b' P) : XL c A sc O (.Assign [.Tuple ts k tp] (.Tuple vs kv vp) pos :: sts) ρ b P := l_cons (x_tup hts hx h)
theorem l_unp {ts : List Expr} {k : Nat} {tp : Pos} (xs : List Str) (hts : namesOf ts = some xs) (hx : (xs.all (locIn sc) && decide xs.Nodup && xs.all (fun x => !O.contains x) && !isTup e) = true)
    (h : EV c A sc O e ρ b fun d b' => ∃ ds, d = .tuple ds ∧ xs.length = ds.length ∧ Op (updAll ρ xs ds) fun ρ' => XL c A sc O sts ρ' b' P) : XL c A sc O (.Assign [.Tuple ts k tp] e pos :: sts) ρ b P := l_cons (x_unp hts hx h)
theorem l_put (ho : O.contains x = true) (ex : ρ x = some (.list ds)) (h : EV c A sc O e ρ b fun d b1 => EV c A sc O i ρ b1 fun dk b2 => ∃ k, dk = .int k ∧ Op (putAt ds k d) fun ds' => XL c A sc O sts (upd ρ x (.list ds')) b2 P) :
    XL c A sc O (.Assign [.Subscript (.Name x p) i q] e pos :: sts) ρ b P := l_cons (x_put ho ex h)
theorem l_box (ho : O.contains x = false) (ex : ρ x = some .box) (h : EV c A sc O e ρ b fun d b1 => EV c A sc O i ρ b1 fun dk b2 => ∃ j k, d = .int j ∧ dk = .int k ∧ (k = 1 ∨ k = 2) ∧ Op (putAt b2 k (.int j)) fun b' => XL c A sc O sts ρ b' P) :
    XL c A sc O (.Assign [.Subscript (.Name x p) i q] e pos :: sts) ρ b P := l_cons (x_box ho ex h)
theorem l_aug {op : Operator} {a : Int} (hx : (locIn sc x && !O.contains x && (op == .Add || op == .Sub)) = true) (ex : ρ x = some (.int a)) (h : EV c A sc O e ρ b fun dj b' => ∃ j, dj = .int j ∧ Op (binop op (.int a) (.int j)) fun d => XL c A sc O sts (upd ρ x d) b' P) :
    XL c A sc O (.AugAssign (.Name x p) op e pos :: sts) ρ b P := l_cons (x_aug hx ex h)
theorem l_augs (ho : (O.contains x && !isSl i) = true) (ex : ρ x = some (.list ds)) (h : EV c A sc O i ρ b fun dk b1 => ∃ k a, dk = .int k ∧ pick ds k = some (.int a) ∧ EV c A sc O e ρ b1 fun dj b2 => ∃ j, dj = .int j ∧ Op (putAt ds k (.int (a - j))) fun ds' => XL c A sc O sts (upd ρ x (.list ds')) b2 P) :
    XL c A sc O (.AugAssign (.Subscript (.Name x p) i q) .Sub e pos :: sts) ρ b P := l_cons (x_augs ho ex h)
theorem l_app {apos spos : Pos} (ho : (O.contains x && (apos.endLine == pos.line) && nst e) = true) (ex : ρ x = some (.list ds)) (hl : ds.length < lim) (h : EV c A sc O e ρ b fun d b' => XL c A sc O sts (upd ρ x (.list (ds ++ [d]))) b' P) :
    XL c A sc O (.Expr (.Call (.Attribute (.Name x p) "append" apos) [e] [] pos) spos :: sts) ρ b P := l_cons (x_app ho ex hl h)
theorem l_do {f : Str} {args : List Expr} {pf pc : Pos} (h : EV c A sc O (.Call (.Name f pf) args [] pc) ρ b fun d b' => d = .none ∧ XL c A sc O sts ρ b' P) : XL c A sc O (.Expr (.Call (.Name f pf) args [] pc) pos :: sts) ρ b P := l_cons (x_do h)
theorem l_if {l r : List Stmt} (h : TS c A sc O t ρ b fun u b₁ => Br u (XL c A sc O l ρ b₁ (Aft (fun ρ' b' => XL c A sc O sts ρ' b' P) P)) (XL c A sc O r ρ b₁ (Aft (fun ρ' b' => XL c A sc O sts ρ' b' P) P))) : XL c A sc O (.If t l r pos :: sts) ρ b P := l_cons (x_if h)
theorem l_if_0 {l : List Stmt} (h : TS c A sc O t ρ b fun u b₁ => Br u (XL c A sc O l ρ b₁ (Aft (fun ρ' b' => XL c A sc O sts ρ' b' P) P)) (XL c A sc O sts ρ b₁ P)) : XL c A sc O (.If t l [] pos :: sts) ρ b P := l_if fun ok ha env M s Q R g => h ok ha env M s Q R fun u b' hu => g u b' ⟨hu.1, fun q => l_nil (hu.2 q)⟩
theorem aft_l {sts : List Stmt} (h : XL c A sc O sts ρ b P) : Aft (fun ρ' b' => XL c A sc O sts ρ' b' P) P .next ρ b := h
theorem aft_r {X : PEnv → List D → Prop} {d : D} (h : P (.ret d) ρ b) : Aft X P (.ret d) ρ b := h
theorem ret {P : D → List D → Prop} {d : D} (h : P d b) : Ret P (.ret d) ρ b := h
theorem ret_n {P : D → List D → Prop} (h : P .none b) : Ret P .next ρ b := h
theorem l_tup2 {vs : List Expr} {k kv : Nat} {tp vp p1 p2 : Pos} {x y : Str} (hx : ([x, y].all (locIn sc) && decide [x, y].Nodup && !vs.all (constantsAlone 8)) = true)
    (h : EP c A sc O [x, y] vs ρ b fun ds b' => Op (updAll ρ [x, y] ds) fun ρ' => XL c A sc O sts ρ' b' P) : XL c A sc O (.Assign [.Tuple [.Name x p1, .Name y p2] k tp] (.Tuple vs kv vp) pos :: sts) ρ b P := l_tup _ rfl (by rw [hx]; rfl) h
theorem l_tup3 {vs : List Expr} {k kv : Nat} {tp vp p1 p2 p3 : Pos} {x y z : Str} (hx : ([x, y, z].all (locIn sc) && decide [x, y, z].Nodup && !vs.all (constantsAlone 8)) = true)
    (h : EP c A sc O [x, y, z] vs ρ b fun ds b' => Op (updAll ρ [x, y, z] ds) fun ρ' => XL c A sc O sts ρ' b' P) : XL c A sc O (.Assign [.Tuple [.Name x p1, .Name y p2, .Name z p3] k tp] (.Tuple vs kv vp) pos :: sts) ρ b P := l_tup _ rfl (by rw [hx]; rfl) h
theorem l_tup4 {vs : List Expr} {k kv : Nat} {tp vp p1 p2 p3 p4 : Pos} {x y z w : Str} (hx : ([x, y, z, w].all (locIn sc) && decide [x, y, z, w].Nodup && !vs.all (constantsAlone 8)) = true)
    (h : EP c A sc O [x, y, z, w] vs ρ b fun ds b' => Op (updAll ρ [x, y, z, w] ds) fun ρ' => XL c A sc O sts ρ' b' P) : XL c A sc O (.Assign [.Tuple [.Name x p1, .Name y p2, .Name z p3, .Name w p4] k tp] (.Tuple vs kv vp) pos :: sts) ρ b P := l_tup _ rfl (by rw [hx]; rfl) h
theorem l_unp2 {k : Nat} {tp p1 p2 : Pos} {x y : Str} (hx : ([x, y].all (locIn sc) && decide [x, y].Nodup && [x, y].all (fun x => !O.contains x) && !isTup e) = true)
    (h : EV c A sc O e ρ b fun d b' => ∃ ds, d = .tuple ds ∧ [x, y].length = ds.length ∧ Op (updAll ρ [x, y] ds) fun ρ' => XL c A sc O sts ρ' b' P) : XL c A sc O (.Assign [.Tuple [.Name x p1, .Name y p2] k tp] e pos :: sts) ρ b P := l_unp _ rfl hx h
theorem l_unp3 {k : Nat} {tp p1 p2 p3 : Pos} {x y z : Str} (hx : ([x, y, z].all (locIn sc) && decide [x, y, z].Nodup && [x, y, z].all (fun x => !O.contains x) && !isTup e) = true)
    (h : EV c A sc O e ρ b fun d b' => ∃ ds, d = .tuple ds ∧ [x, y, z].length = ds.length ∧ Op (updAll ρ [x, y, z] ds) fun ρ' => XL c A sc O sts ρ' b' P) : XL c A sc O (.Assign [.Tuple [.Name x p1, .Name y p2, .Name z p3] k tp] e pos :: sts) ρ b P := l_unp _ rfl hx h
theorem k_u2 {X : PEnv → Prop} {x y : Str} {d d' : D} (h : X (upd (upd ρ x d) y d')) : Op (updAll ρ [x, y] [d, d']) X := ⟨_, rfl, h⟩
theorem k_u3 {X : PEnv → Prop} {x y z : Str} {d d' d2 : D} (h : X (upd (upd (upd ρ x d) y d') z d2)) : Op (updAll ρ [x, y, z] [d, d', d2]) X := ⟨_, rfl, h⟩
theorem k_u4 {X : PEnv → Prop} {x y z w : Str} {d d' d2 d3 : D} (h : X (upd (upd (upd (upd ρ x d) y d') z d2) w d3)) : Op (updAll ρ [x, y, z, w] [d, d', d2, d3]) X := ⟨_, rfl, h⟩
theorem l_while {α : Type} (m : α → Nat) (I : α → PEnv → List D → Prop) (a : α) (h : I a ρ b) {body : List Stmt}
    (hs : ∀ a ρ b, I a ρ b → TS c A sc O t ρ b fun u b₁ => Br u (XL c A sc O body ρ b₁ (Aft (fun ρ' b' => ∃ a', m a' < m a ∧ I a' ρ' b') P)) (XL c A sc O sts ρ b₁ P)) : XL c A sc O (.While t body [] pos :: sts) ρ b P :=
  l_cons (x_while (fun n ρ b => ∃ a, m a = n ∧ I a ρ b) (m a) ⟨a, rfl, h⟩ fun n ρ b ⟨a, e, h⟩ ok ha env M s Q R g => hs a ρ b h ok ha env M s Q R fun u b' q => g u b'
    ⟨fun e1 ok ha env Mx oa s Q SX g => q.1 e1 ok ha env Mx oa s Q SX fun fl ρ' b' hf => g fl ρ' b' (by
      cases fl with
      | next => obtain ⟨a', h1, h2⟩ := hf; exact ⟨m a', e ▸ h1, a', rfl, h2⟩
      | ret d => exact hf), q.2⟩)
theorem l_for {tg it : Expr} {body : List Stmt} (htg : tgOk it tg = true) (hset : ∀ env x, foldedSetIterable it env x = pure x)
    (h : EI c A sc O it ρ b fun items b₁ => FG c A sc O tg body (Aft (fun ρ b => XL c A sc O sts ρ b P) P) items ρ b₁) : XL c A sc O (.For tg it body [] pos :: sts) ρ b P := l_cons (x_for htg hset h)
theorem fg {tg : Expr} {body : List Stmt} (I : List D → PEnv → List D → Prop) (step : ∀ d ds ρ b, I (d :: ds) ρ b → Op (bindT sc O tg d ρ) fun ρ' => XL c A sc O body ρ' b (Aft (I ds) P)) (done : ∀ ρ b, I [] ρ b → XL c A sc O sts ρ b P)
    {items : List D} (h : I items ρ b) : FG c A sc O tg body (Aft (fun ρ b => XL c A sc O sts ρ b P) P) items ρ b := by
  induction items generalizing ρ b with
  | nil => exact done _ _ h
  | cons d ds ih =>
    obtain ⟨ρ', e, q⟩ := step d ds ρ b h
    refine ⟨ρ', e, fun ok ha env Mx oa s Q SX g => q ok ha env Mx oa s Q SX fun fl ρ' b' hf => g fl ρ' b' ?_⟩
    cases fl with
    | next => exact ih hf
    | ret d => exact hf
/-! forks and plain steps -/
theorem br_d {p : Prop} [Decidable p] {X Y : Prop} (h1 : p → X) (h2 : ¬ p → Y) : Br (decide p) X Y := ⟨fun q => h1 (of_decide_eq_true q), fun q => h2 (of_decide_eq_false q)⟩
theorem br_dt {p : Prop} [Decidable p] {X Y : Prop} (h1 : p) (h : X) : Br (decide p) X Y := br_d (fun _ => h) fun q => (q h1).elim
theorem br_df {p : Prop} [Decidable p] {X Y : Prop} (h1 : ¬ p) (h : Y) : Br (decide p) X Y := br_d (fun q => (h1 q).elim) fun _ => h
theorem br_n {t : Bool} {X Y : Prop} (h : Br t Y X) : Br (!t) X Y := by
  cases t
  · exact ⟨fun _ => h.2 rfl, fun q => (nomatch q)⟩
  · exact ⟨fun q => (nomatch q), fun _ => h.1 rfl⟩
theorem br_1 {X Y : Prop} (h : X) : Br true X Y := Br.t rfl h
theorem br_0 {X Y : Prop} (h : Y) : Br false X Y := Br.f rfl h
variable {u v : Int} {R : D → Prop} {T : Bool → Prop}
theorem k_b1 {R : PEnv → Prop} {d : D} (hx : (locIn sc x && !O.contains x) = true) (h : R (upd ρ x d)) : Op (bindT sc O (.Name x p) d ρ) R := ⟨_, if_pos hx, h⟩
theorem k_b2 {R : PEnv → Prop} {d d' : D} {p1 : Pos} {k : Nat} (hx : (locIn sc x && locIn sc y && !O.contains x && !O.contains y && x != y) = true) (h : R (upd (upd ρ x d) y d')) : Op (bindT sc O (.Tuple [.Name x p, .Name y q] k p1) (.tuple [d, d']) ρ) R := ⟨_, if_pos hx, h⟩
end
end Mine

namespace Mine
open PySem PySem.Calls PyProof.Rows
/-! what has one value and leaves the box as it is: said without a continuation -/
section
variable (c : Cx) (A : Around) (sc : Scope) (O : List Str) (ρ : PEnv) (b : List D)
noncomputable def E1 (e : Expr) (d : D) : Prop := EV c A sc O e ρ b fun d' b' => d' = d ∧ b' = b
noncomputable def B1 (e : Expr) (d : D) : Prop := EB c A sc O e ρ b fun d' b' => d' = d ∧ b' = b
noncomputable def S1 (es : List Expr) (ds : List D) : Prop := ES c A sc O es ρ b fun d' b' => d' = ds ∧ b' = b
noncomputable def T1 (e : Expr) (t : Bool) : Prop := TS c A sc O e ρ b fun d' b' => d' = t ∧ b' = b
noncomputable def I1 (e : Expr) (ds : List D) : Prop := EI c A sc O e ρ b fun d' b' => d' = ds ∧ b' = b
noncomputable def P1 (xs : List Str) (es : List Expr) (ds : List D) : Prop := EP c A sc O xs es ρ b fun d' b' => d' = ds ∧ b' = b
end
noncomputable def C1 (c : Cx) (A : Around) (f : Str) (args : List D) (b : List D) (d : D) : Prop := CallP c A f args b fun d' b' => d' = d ∧ b' = b
section
variable {c : Cx} {A : Around} {sc : Scope} {O : List Str} {ρ : PEnv} {b : List D} {P : D → List D → Prop} {PS : List D → List D → Prop} {PT : Bool → List D → Prop} {d d₁ d₂ dx dy : D} {ds : List D} {u v : Int} {t : Bool} {p q : Prop} {ip : Decidable p} {iq : Decidable q} {e l r x y i tt : Expr} {es : List Expr} {pos pf : Pos} {n : Str} {f : Str} {sts : List Stmt} {PF : Fl → PEnv → List D → Prop} {X : PEnv → Prop}
theorem v_of (h : E1 c A sc O ρ b e d) (hP : P d b) : EV c A sc O e ρ b P := fun ok ha env M s Q R g => h ok ha env M s Q R fun _ _ ⟨e1, e2⟩ => e1 ▸ e2 ▸ g _ _ hP
theorem vb_of (h : B1 c A sc O ρ b e d) (hP : P d b) : EB c A sc O e ρ b P := fun ok ha env M s Q R g => h ok ha env M s Q R fun _ _ ⟨e1, e2⟩ => e1 ▸ e2 ▸ g _ _ hP
theorem vs_of (h : S1 c A sc O ρ b es ds) (hP : PS ds b) : ES c A sc O es ρ b PS := fun ok ha env M s Q pos R g => h ok ha env M s Q pos R fun _ _ ⟨e1, e2⟩ => e1 ▸ e2 ▸ g _ _ hP
theorem vt_of (h : T1 c A sc O ρ b e t) (hP : PT t b) : TS c A sc O e ρ b PT := fun ok ha env M s Q R g => h ok ha env M s Q R fun _ _ ⟨e1, e2⟩ => e1 ▸ e2 ▸ g _ _ hP
theorem vi_of (h : I1 c A sc O ρ b e ds) (hP : PS ds b) : EI c A sc O e ρ b PS := fun ok ha env M s Q tg htg R g => h ok ha env M s Q tg htg R fun _ _ ⟨e1, e2⟩ => e1 ▸ e2 ▸ g _ _ hP
theorem vp_of {xs : List Str} (h : P1 c A sc O ρ b xs es ds) (hP : PS ds b) : EP c A sc O xs es ρ b PS := fun ok ha env Mx oa s Q pos SX g => h ok ha env Mx oa s Q pos SX fun _ _ ⟨e1, e2⟩ => e1 ▸ e2 ▸ g _ _ hP
theorem e_int {z : Int} {k : Nat} : E1 c A sc O ρ b (.Constant (.int z) k pos) (.int z) := r_int ⟨rfl, rfl⟩
theorem e_none {k : Nat} : E1 c A sc O ρ b (.Constant .none k pos) .none := r_none ⟨rfl, rfl⟩
theorem e_bool {z : Bool} {k : Nat} : E1 c A sc O ρ b (.Constant (.bool z) k pos) (.bool z) := r_bool ⟨rfl, rfl⟩
theorem e_name (hd : ρ n = some d) (ho : O.contains n = false) : E1 c A sc O ρ b (.Name n pos) d := r_name ho hd ⟨rfl, rfl⟩
theorem b1_n (hd : ρ n = some d) : B1 c A sc O ρ b (.Name n pos) d := b_name hd ⟨rfl, rfl⟩
theorem b1_e (h : E1 c A sc O ρ b e d) : B1 c A sc O ρ b e d := b_ev h
theorem e_bin {op : Operator} (h1 : E1 c A sc O ρ b l d₁) (h2 : E1 c A sc O ρ b r d₂) (h3 : binop op d₁ d₂ = some d) : E1 c A sc O ρ b (.BinOp l op r pos) d := r_bin (v_of h1 (v_of h2 ⟨_, h3, rfl, rfl⟩))
theorem e_add (h1 : E1 c A sc O ρ b l (.int u)) (h2 : E1 c A sc O ρ b r (.int v)) : E1 c A sc O ρ b (.BinOp l .Add r pos) (.int (u + v)) := e_bin h1 h2 rfl
theorem e_subt (h1 : E1 c A sc O ρ b l (.int u)) (h2 : E1 c A sc O ρ b r (.int v)) : E1 c A sc O ρ b (.BinOp l .Sub r pos) (.int (u - v)) := e_bin h1 h2 rfl
theorem e_mul (h1 : E1 c A sc O ρ b l (.int u)) (h2 : E1 c A sc O ρ b r (.int v)) (hm : MulOk u v) : E1 c A sc O ρ b (.BinOp l .Mult r pos) (.int (u * v)) := e_bin h1 h2 (if_pos hm)
theorem e_div (h1 : E1 c A sc O ρ b l (.int u)) (h2 : E1 c A sc O ρ b r (.int v)) (hm : DivOk v) : E1 c A sc O ρ b (.BinOp l .FloorDiv r pos) (.int (u.fdiv v)) := e_bin h1 h2 (if_pos hm)
theorem e_mod (h1 : E1 c A sc O ρ b l (.int u)) (h2 : E1 c A sc O ρ b r (.int v)) (hm : v ≠ 0) : E1 c A sc O ρ b (.BinOp l .Mod r pos) (.int (u.fmod v)) := e_bin h1 h2 (if_neg hm)
theorem e_pow (h1 : E1 c A sc O ρ b l (.int u)) (h2 : E1 c A sc O ρ b r (.int v)) (hm : PowOk u v) : E1 c A sc O ρ b (.BinOp l .Pow r pos) (.int (u ^ v.toNat)) := e_bin h1 h2 (if_pos hm)
theorem e_cat {es' : List D} (h1 : E1 c A sc O ρ b l (.list ds)) (h2 : E1 c A sc O ρ b r (.list es')) (hm : ds.length + es'.length ≤ lim) : E1 c A sc O ρ b (.BinOp l .Add r pos) (.list (ds ++ es')) := e_bin h1 h2 (if_pos hm)
theorem e_rep (h1 : E1 c A sc O ρ b l (.list [.int u])) (h2 : E1 c A sc O ρ b r (.int v)) (hm : -(lim : Int) ≤ v ∧ v ≤ lim) : E1 c A sc O ρ b (.BinOp l .Mult r pos) (.list (List.replicate v.toNat (.int u))) := e_bin h1 h2 (if_pos hm)
theorem e_repn {m : Nat} (h1 : E1 c A sc O ρ b l (.list [.int u])) (h2 : E1 c A sc O ρ b r (.int v)) (hv : v = (m : Int)) (hm : m ≤ lim) : E1 c A sc O ρ b (.BinOp l .Mult r pos) (.list ((List.replicate m u).map .int)) := by
  subst hv
  rw [List.map_replicate]
  exact e_rep (u := u) (v := (m : Int)) h1 h2 ⟨by exact o50 hm, by exact o49 hm⟩
theorem e_neg (h : E1 c A sc O ρ b e (.int u)) : E1 c A sc O ρ b (.UnaryOp .USub e pos) (.int (-u)) := r_neg (v_of h ⟨_, rfl, rfl, rfl⟩)
theorem e_cmp {op : CmpOp} (h1 : B1 c A sc O ρ b l d₁) (h2 : B1 c A sc O ρ b r d₂) (hm : behindInMarks op r = false) (h3 : cmp op d₁ d₂ = some t) : E1 c A sc O ρ b (.Compare l [op] [r] pos) (.bool t) := r_cmp hm (vb_of h1 (vb_of h2 ⟨_, h3, rfl, rfl⟩))
theorem e_and2 {u : Bool} (h1 : E1 c A sc O ρ b l (.bool t)) (h2 : t = true → E1 c A sc O ρ b r (.bool u)) : E1 c A sc O ρ b (.BoolOp .And [l, r] pos) (.bool (t && u)) := r_and (a_cons (v_of h1 ⟨_, rfl, fun q => a_one (v_of (h2 q) ⟨_, rfl, by rw [q]; exact ⟨rfl, rfl⟩⟩), fun q => by rw [q]; exact ⟨rfl, rfl⟩⟩))
theorem e_ite (h : T1 c A sc O ρ b tt (decide p)) (h1 : p → E1 c A sc O ρ b x dx) (h2 : ¬ p → E1 c A sc O ρ b y dy) : E1 c A sc O ρ b (.IfExp tt x y pos) (if p then dx else dy) := r_ite (vt_of h (br_d (fun q => by rw [if_pos q]; exact h1 q) fun q => by rw [if_neg q]; exact h2 q))
theorem e_ite_t (h : T1 c A sc O ρ b tt t) (ht : t = true) (h1 : E1 c A sc O ρ b x d) : E1 c A sc O ρ b (.IfExp tt x y pos) d := r_ite (vt_of h (Br.t ht h1))
theorem e_ite_f (h : T1 c A sc O ρ b tt t) (ht : t = false) (h1 : E1 c A sc O ρ b y d) : E1 c A sc O ρ b (.IfExp tt x y pos) d := r_ite (vt_of h (Br.f ht h1))
theorem e_itp (h : T1 c A sc O ρ b tt (decide p)) (hp : p) (h1 : E1 c A sc O ρ b x d) : E1 c A sc O ρ b (.IfExp tt x y pos) d := e_ite_t h (decide_eq_true hp) h1
theorem e_itn (h : T1 c A sc O ρ b tt (decide p)) (hp : ¬ p) (h1 : E1 c A sc O ρ b y d) : E1 c A sc O ρ b (.IfExp tt x y pos) d := e_ite_f h (decide_eq_false hp) h1
theorem e_itb (h : T1 c A sc O ρ b tt (decide p)) (h1 : E1 c A sc O ρ b x dx) (h2 : E1 c A sc O ρ b y dy) : E1 c A sc O ρ b (.IfExp tt x y pos) (if p then dx else dy) := e_ite h (fun _ => h1) fun _ => h2
theorem e_iti (h : T1 c A sc O ρ b tt (decide p)) (h1 : E1 c A sc O ρ b x (.int u)) (h2 : E1 c A sc O ρ b y (.int v)) : E1 c A sc O ρ b (.IfExp tt x y pos) (.int (if p then u else v)) := by
  have := e_itb (pos := pos) h h1 h2
  rwa [← apply_ite D.int] at this
theorem s1_nil : S1 c A sc O ρ b [] [] := s_nil ⟨rfl, rfl⟩
theorem s1_cons (hn : nst e = true) (h : E1 c A sc O ρ b e d) (h2 : S1 c A sc O ρ b es ds) : S1 c A sc O ρ b (e :: es) (d :: ds) := s_cons hn (v_of h (vs_of h2 ⟨rfl, rfl⟩))
theorem e_tup {k : Nat} (h : S1 c A sc O ρ b es ds) (hl : Nat.ble ds.length lim = true) : E1 c A sc O ρ b (.Tuple es k pos) (.tuple ds) := r_tup (vs_of h ⟨Nat.le_of_ble_eq_true hl, rfl, rfl⟩)
theorem e_lst (h : S1 c A sc O ρ b es ds) (hl : Nat.ble ds.length lim = true) : E1 c A sc O ρ b (.List es pos) (.list ds) := r_list (vs_of h ⟨Nat.le_of_ble_eq_true hl, rfl, rfl⟩)
theorem e_len (hg : sc.names.lookup ("len" : Str) = some .globalImplicit) (hn : nst e = true) (h : B1 c A sc O ρ b e (.list ds)) : E1 c A sc O ρ b (.Call (.Name "len" pf) [e] [] pos) (.int ds.length) := r_len hg hn (vb_of h ⟨_, rfl, rfl, rfl⟩)
theorem e_blt (hg : sc.names.lookup f = some .globalImplicit) (hb : (bltNames.contains f && !(f == ("len" : Str))) = true) (hn : (e :: es).all nst = true) (h : S1 c A sc O ρ b (e :: es) ds) (h2 : blt f ds = some d) : E1 c A sc O ρ b (.Call (.Name f pf) (e :: es) [] pos) d := r_blt hg hb hn (vs_of h ⟨_, h2, rfl, rfl⟩)
theorem v_call (hd : IsDef c f) (hg : sc.names.lookup f = some .globalImplicit) (hb : (f == ("list" : Str)) = false) (hn : (e :: es).all nst = true) (h : S1 c A sc O ρ b (e :: es) ds) (h2 : CallP c A f ds b P) : EV c A sc O (.Call (.Name f pf) (e :: es) [] pos) ρ b P := r_call hd hg hb hn (vs_of h h2)
theorem e_call (hd : IsDef c f) (hg : sc.names.lookup f = some .globalImplicit) (hb : (f == ("list" : Str)) = false) (hn : (e :: es).all nst = true) (h : S1 c A sc O ρ b (e :: es) ds) (h2 : C1 c A f ds b d) : E1 c A sc O ρ b (.Call (.Name f pf) (e :: es) [] pos) d := v_call hd hg hb hn h h2
theorem e_sub (h1 : B1 c A sc O ρ b x d₁) (h2 : E1 c A sc O ρ b i (.int v)) (hf : isFresh (.Subscript x i pos) = false) (h3 : getAt d₁ v b = some d) : E1 c A sc O ρ b (.Subscript x i pos) d := r_sub hf (vb_of h1 (v_of h2 ⟨_, rfl, _, h3, rfl, rfl⟩))
theorem e_upto {p : Pos} (h1 : B1 c A sc O ρ b x (.list ds)) (h2 : E1 c A sc O ρ b i (.int v)) : E1 c A sc O ρ b (.Subscript x (.Slice none (some i) none p) pos) (.list (upto ds v)) := r_upto (vb_of h1 (v_of h2 ⟨_, _, rfl, rfl, rfl, rfl⟩))
theorem e_from {p : Pos} (h1 : B1 c A sc O ρ b x (.list ds)) (h2 : E1 c A sc O ρ b i (.int v)) (h0 : 0 ≤ v) : E1 c A sc O ρ b (.Subscript x (.Slice (some i) none none p) pos) (.list (ds.drop v.toNat)) := r_from (vb_of h1 (v_of h2 ⟨_, _, rfl, rfl, h0, rfl, rfl⟩))
theorem e_rev {p : Pos} (h1 : B1 c A sc O ρ b x (.list ds)) (h2 : E1 c A sc O ρ b i (.int (-1))) : E1 c A sc O ρ b (.Subscript x (.Slice none none (some i) p) pos) (.list ds.reverse) := r_rev (vb_of h1 (v_of h2 ⟨_, rfl, rfl, rfl, rfl⟩))
theorem e_count {xs : List Int} {apos : Pos} (hs : isSlice x = true) (hp : (apos.endLine == pos.line) = true) (hn : nst y = true) (h1 : E1 c A sc O ρ b x (.list (xs.map .int))) (h2 : E1 c A sc O ρ b y (.int v)) : E1 c A sc O ρ b (.Call (.Attribute x "count" apos) [y] [] pos) (.int (xs.count v)) :=
  r_count hs hp hn (v_of h1 ⟨_, rfl, v_of h2 ⟨_, rfl, rfl, rfl⟩⟩)
/-! tests -/
theorem t1_cmp {op : CmpOp} (h1 : B1 c A sc O ρ b l d₁) (h2 : B1 c A sc O ρ b r d₂) (hm : behindInMarks op r = false) (h3 : cmp op d₁ d₂ = some t) : T1 c A sc O ρ b (.Compare l [op] [r] pos) t := t_cmp hm (vb_of h1 (vb_of h2 ⟨_, h3, rfl, rfl⟩))
theorem t1_and2 (h1 : T1 c A sc O ρ b l (decide p)) (h2 : p → T1 c A sc O ρ b r (decide q)) : T1 c A sc O ρ b (.BoolOp .And [l, r] pos) (decide (p ∧ q)) := t_and (ta_cons (vt_of h1 (br_d (fun w => ta_cons (vt_of (h2 w) (br_d (fun w2 => ta_nil ⟨by simp [w, w2], rfl⟩) fun w2 => ⟨by simp [w2], rfl⟩))) fun w => ⟨by simp [w], rfl⟩)))
theorem t1_and0 {r : List Expr} (h1 : T1 c A sc O ρ b l (decide p)) (hp : ¬ p) : T1 c A sc O ρ b (.BoolOp .And (l :: r) pos) false := t_and (ta_cons (vt_of h1 (br_df hp ⟨rfl, rfl⟩)))
theorem t1_or2 (h1 : T1 c A sc O ρ b l (decide p)) (h2 : ¬ p → T1 c A sc O ρ b r (decide q)) : T1 c A sc O ρ b (.BoolOp .Or [l, r] pos) (decide (p ∨ q)) := t_or (to_cons (vt_of h1 (br_d (fun w => ⟨by simp [w], rfl⟩) fun w => to_cons (vt_of (h2 w) (br_d (fun w2 => ⟨by simp [w2], rfl⟩) fun w2 => to_nil ⟨by simp [w, w2], rfl⟩)))))
/-! what is gone over -/
theorem i1_ev (hn : isEnum e = false) (h : E1 c A sc O ρ b e d) (h2 : asItems d = some ds) : I1 c A sc O ρ b e ds := i_ev hn (v_of h ⟨_, h2, rfl, rfl⟩)
theorem i1_call {is : List D} (hg : sc.names.lookup f = some .globalImplicit) (hb : bltNames.contains f = true) (hn : (e :: es).all nst = true) (h : S1 c A sc O ρ b (e :: es) ds) (h2 : itr f ds = some is) : I1 c A sc O ρ b (.Call (.Name f pf) (e :: es) [] pos) is := i_call hg hb hn (vs_of h ⟨_, h2, rfl, rfl⟩)
theorem cl_map {csc : Scope} {elt tg : Expr} {ρ₀ : PEnv} {α : Type} {f g : α → D} : ∀ {xs : List α} {P : List D → List D → Prop}, (∀ x ∈ xs, Op (bindT csc O tg (f x) ρ₀) fun ρ' => E1 c A csc O ρ' b elt (g x)) → P (xs.map g) b → CL c A csc O tg elt [] ρ₀ (xs.map f) b P
  | [], _, _, hP => hP
  | x :: xs, P, h, hP => let ⟨ρ', e1, h1⟩ := h x (.head _); ⟨ρ', e1, br_1 (v_of h1 (cl_map (fun y hy => h y (.tail _ hy)) hP))⟩
theorem cl_mi {csc : Scope} {elt tg : Expr} {ρ₀ : PEnv} {α : Type} {f : α → D} {g : α → Int} {xs : List α} {P : List D → List D → Prop} (h : ∀ x ∈ xs, Op (bindT csc O tg (f x) ρ₀) fun ρ' => E1 c A csc O ρ' b elt (.int (g x))) (hP : P ((xs.map g).map .int) b) : CL c A csc O tg elt [] ρ₀ (xs.map f) b P :=
  cl_map (g := fun x => .int (g x)) h (by rw [List.map_map] at hP; exact hP)
theorem cl_rel {csc : Scope} {elt tg : Expr} {ρ₀ : PEnv} {α : Type} {f : α → D} {Rel : α → Int → Prop} {xs : List α} {P : List D → List D → Prop} (h : ∀ x ∈ xs, Op (bindT csc O tg (f x) ρ₀) fun ρ' => EV c A csc O elt ρ' b fun d b' => b' = b ∧ ∃ v, d = .int v ∧ Rel x v)
    (hP : ∀ ys : List Int, ys.length = xs.length → (∀ (i : Nat) x, xs[i]? = some x → ∃ y, ys[i]? = some y ∧ Rel x y) → P (ys.map .int) b) : CL c A csc O tg elt [] ρ₀ (xs.map f) b P := by
  induction xs generalizing P with
  | nil => exact hP [] rfl fun i x e => by simp at e
  | cons x xs ih =>
    obtain ⟨ρ', e1, h1⟩ := h x (.head _)
    refine ⟨ρ', e1, br_1 fun ok ha env M s Q R g => h1 ok ha env M s Q R fun d b' hd => ?_⟩
    obtain ⟨eb, v, ed, hv⟩ := hd
    subst eb ed
    exact g _ _ (ih (fun y hy => h y (.tail _ hy)) fun ys hl hr => hP (v :: ys) (congrArg (· + 1) hl) fun i y e => by
      cases i with
      | zero => cases e; exact ⟨v, rfl, hv⟩
      | succ i => exact hr i y e)
theorem e_comp {csc : Scope} {elt tg iter : Expr} {α : Type} {f g : α → D} {xs : List α} (hcc : (compOk sc csc && tgOk iter tg) = true) (hset : ∀ env x, foldedSetIterable iter env x = pure x) (h : I1 c A sc O ρ b iter (xs.map f))
    (h2 : ∀ x ∈ xs, Op (bindT csc O tg (f x) (free csc ρ)) fun ρ' => E1 c A csc O ρ' b elt (g x)) : E1 c A sc O ρ b (.ListComp elt [⟨tg, iter, [], 0⟩] csc pos) (.list (xs.map g)) := r_comp hcc hset (vi_of h (cl_map (P := fun ds b₂ => D.list ds = .list (xs.map g) ∧ b₂ = b) h2 ⟨rfl, rfl⟩))
theorem e_ci {csc : Scope} {elt tg iter : Expr} {α : Type} {f : α → D} {g : α → Int} {xs : List α} (hcc : (compOk sc csc && tgOk iter tg) = true) (hset : ∀ env x, foldedSetIterable iter env x = pure x) (h : I1 c A sc O ρ b iter (xs.map f))
    (h2 : ∀ x ∈ xs, Op (bindT csc O tg (f x) (free csc ρ)) fun ρ' => E1 c A csc O ρ' b elt (.int (g x))) : E1 c A sc O ρ b (.ListComp elt [⟨tg, iter, [], 0⟩] csc pos) (.list ((xs.map g).map .int)) := by
  rw [List.map_map]; exact e_comp hcc hset h h2
/-! values that are stored at once -/
theorem p1_nil : P1 c A sc O ρ b [] [] [] := p_nil ⟨rfl, rfl⟩
theorem p1_cons {xs : List Str} (hn : (nst e && (!O.contains n || isFresh e)) = true) (h : E1 c A sc O ρ b e d) (ho : (!O.contains n || isList d) = true) (h2 : P1 c A sc O ρ b xs es ds) : P1 c A sc O ρ b (n :: xs) (e :: es) (d :: ds) := p_cons hn (v_of h ⟨ho, vp_of h2 ⟨rfl, rfl⟩⟩)
/-! statements -/
theorem m_ret (h : E1 c A sc [] ρ b e d) (hP : PF (.ret d) ρ b) : XL c A sc O (.Return (some e) pos :: sts) ρ b PF := l_ret (v_of h hP)
variable {z w z' w' : Str} {pp qq : Pos}
theorem m_set (hx : (locIn sc z && !O.contains z && !isComp e) = true) (h : E1 c A sc O ρ b e d) (h2 : XL c A sc O sts (upd ρ z d) b PF) : XL c A sc O (.Assign [.Name z pp] e pos :: sts) ρ b PF := l_set hx (v_of h h2)
theorem m_own (hx : (locIn sc z && O.contains z && !isComp e && isFresh e) = true) (h : E1 c A sc O ρ b e d) (hd : isList d = true) (h2 : XL c A sc O sts (upd ρ z d) b PF) : XL c A sc O (.Assign [.Name z pp] e pos :: sts) ρ b PF := l_own hx (v_of h ⟨hd, h2⟩)
theorem m_tup2 {vs : List Expr} {k kv : Nat} {tp vp p1 p2 : Pos} (hx : ([z, w].all (locIn sc) && decide [z, w].Nodup && !vs.all (constantsAlone 8)) = true) (h : P1 c A sc O ρ b [z, w] vs [d₁, d₂]) (h2 : XL c A sc O sts (upd (upd ρ z d₁) w d₂) b PF) :
    XL c A sc O (.Assign [.Tuple [.Name z p1, .Name w p2] k tp] (.Tuple vs kv vp) pos :: sts) ρ b PF := l_tup2 hx (vp_of h (k_u2 h2))
theorem m_tup3 {vs : List Expr} {k kv : Nat} {tp vp p1 p2 p3 : Pos} (hx : ([z, w, z'].all (locIn sc) && decide [z, w, z'].Nodup && !vs.all (constantsAlone 8)) = true) (h : P1 c A sc O ρ b [z, w, z'] vs [d₁, d₂, dx]) (h2 : XL c A sc O sts (upd (upd (upd ρ z d₁) w d₂) z' dx) b PF) :
    XL c A sc O (.Assign [.Tuple [.Name z p1, .Name w p2, .Name z' p3] k tp] (.Tuple vs kv vp) pos :: sts) ρ b PF := l_tup3 hx (vp_of h (k_u3 h2))
theorem m_tup4 {vs : List Expr} {k kv : Nat} {tp vp p1 p2 p3 p4 : Pos} (hx : ([z, w, z', w'].all (locIn sc) && decide [z, w, z', w'].Nodup && !vs.all (constantsAlone 8)) = true) (h : P1 c A sc O ρ b [z, w, z', w'] vs [d₁, d₂, dx, dy]) (h2 : XL c A sc O sts (upd (upd (upd (upd ρ z d₁) w d₂) z' dx) w' dy) b PF) :
    XL c A sc O (.Assign [.Tuple [.Name z p1, .Name w p2, .Name z' p3, .Name w' p4] k tp] (.Tuple vs kv vp) pos :: sts) ρ b PF := l_tup4 hx (vp_of h (k_u4 h2))
theorem m_put {k : Int} {ds' : List D} (ex : ρ z = some (.list ds)) (ho : O.contains z = true) (h : E1 c A sc O ρ b e d) (h2 : E1 c A sc O ρ b i (.int k)) (h3 : putAt ds k d = some ds') (h4 : XL c A sc O sts (upd ρ z (.list ds')) b PF) :
    XL c A sc O (.Assign [.Subscript (.Name z pp) i qq] e pos :: sts) ρ b PF := l_put ho ex (v_of h (v_of h2 ⟨_, rfl, _, h3, h4⟩))
theorem m_inc (ex : ρ z = some (.int u)) (hx : (locIn sc z && !O.contains z && (Operator.Add == .Add || Operator.Add == .Sub)) = true) (h : E1 c A sc O ρ b e (.int v)) (h2 : XL c A sc O sts (upd ρ z (.int (u + v))) b PF) :
    XL c A sc O (.AugAssign (.Name z pp) .Add e pos :: sts) ρ b PF := l_aug hx ex (v_of h ⟨_, rfl, _, rfl, h2⟩)
theorem m_dec (ex : ρ z = some (.int u)) (hx : (locIn sc z && !O.contains z && (Operator.Sub == .Add || Operator.Sub == .Sub)) = true) (h : E1 c A sc O ρ b e (.int v)) (h2 : XL c A sc O sts (upd ρ z (.int (u - v))) b PF) :
    XL c A sc O (.AugAssign (.Name z pp) .Sub e pos :: sts) ρ b PF := l_aug hx ex (v_of h ⟨_, rfl, _, rfl, h2⟩)
theorem m_augs {k a j : Int} {ds' : List D} (ex : ρ z = some (.list ds)) (ho : (O.contains z && !isSl i) = true) (h : E1 c A sc O ρ b i (.int k)) (hk : pick ds k = some (.int a)) (h2 : E1 c A sc O ρ b e (.int j)) (h3 : putAt ds k (.int (a - j)) = some ds') (h4 : XL c A sc O sts (upd ρ z (.list ds')) b PF) :
    XL c A sc O (.AugAssign (.Subscript (.Name z pp) i qq) .Sub e pos :: sts) ρ b PF := l_augs ho ex (v_of h ⟨_, _, rfl, hk, v_of h2 ⟨_, rfl, _, h3, h4⟩⟩)
theorem m_app {apos spos : Pos} (ex : ρ z = some (.list ds)) (ho : (O.contains z && (apos.endLine == pos.line) && nst e) = true) (hl : ds.length < lim) (h : E1 c A sc O ρ b e d) (h2 : XL c A sc O sts (upd ρ z (.list (ds ++ [d]))) b PF) :
    XL c A sc O (.Expr (.Call (.Attribute (.Name z pp) "append" apos) [e] [] pos) spos :: sts) ρ b PF := l_app ho ex hl (v_of h h2)
theorem m_do {args : List Expr} {pf pc : Pos} (h : E1 c A sc O ρ b (.Call (.Name f pf) args [] pc) .none) (h2 : XL c A sc O sts ρ b PF) : XL c A sc O (.Expr (.Call (.Name f pf) args [] pc) pos :: sts) ρ b PF := l_do (v_of h ⟨rfl, h2⟩)
theorem m_if0 {L : List Stmt} (h : T1 c A sc O ρ b tt (decide p)) (h1 : p → XL c A sc O L ρ b (Aft (fun ρ' b' => XL c A sc O sts ρ' b' PF) PF)) (h2 : ¬ p → XL c A sc O sts ρ b PF) : XL c A sc O (.If tt L [] pos :: sts) ρ b PF := l_if_0 (vt_of h (br_d h1 h2))
theorem m_if_t {L R : List Stmt} (h : T1 c A sc O ρ b tt t) (ht : t = true) (h1 : XL c A sc O L ρ b (Aft (fun ρ' b' => XL c A sc O sts ρ' b' PF) PF)) : XL c A sc O (.If tt L R pos :: sts) ρ b PF := l_if (vt_of h (Br.t ht h1))
theorem m_ifp {L R : List Stmt} (h : T1 c A sc O ρ b tt (decide p)) (hp : p) (h1 : XL c A sc O L ρ b (Aft (fun ρ' b' => XL c A sc O sts ρ' b' PF) PF)) : XL c A sc O (.If tt L R pos :: sts) ρ b PF := m_if_t h (decide_eq_true hp) h1
theorem m_ifn0 {L : List Stmt} (h : T1 c A sc O ρ b tt (decide p)) (hp : ¬ p) (h1 : XL c A sc O sts ρ b PF) : XL c A sc O (.If tt L [] pos :: sts) ρ b PF := l_if_0 (vt_of h (br_df hp h1))
theorem m_if_f0 {L : List Stmt} (h : T1 c A sc O ρ b tt t) (ht : t = false) (h1 : XL c A sc O sts ρ b PF) : XL c A sc O (.If tt L [] pos :: sts) ρ b PF := l_if_0 (vt_of h (Br.f ht h1))
theorem m_test {X Y : List D → Prop} (h : T1 c A sc O ρ b tt (decide p)) (h1 : p → X b) (h2 : ¬ p → Y b) : TS c A sc O tt ρ b fun u b₁ => Br u (X b₁) (Y b₁) := vt_of h (br_d h1 h2)
theorem l_if_inv {L : List Stmt} (I : PEnv → Prop) (h : TS c A sc O tt ρ b fun u b₁ => Br u (XL c A sc O L ρ b₁ (Aft (fun ρ' b' => b' = b ∧ I ρ') PF)) (b₁ = b ∧ I ρ)) (h2 : ∀ ρ', I ρ' → XL c A sc O sts ρ' b PF) : XL c A sc O (.If tt L [] pos :: sts) ρ b PF :=
  l_if_0 fun ok ha env M s Q R g => h ok ha env M s Q R fun u b' hu => g u b' ⟨fun e ok ha env Mx oa s Q SX g => hu.1 e ok ha env Mx oa s Q SX fun fl ρ' b2 hf => g fl ρ' b2 (by
    cases fl with
    | next => obtain ⟨rfl, hi⟩ := hf; exact h2 ρ' hi
    | ret d => exact hf), fun e => by obtain ⟨e1, hi⟩ := hu.2 e; subst e1; exact h2 ρ hi⟩
theorem m_for {tg it : Expr} {body : List Stmt} (htg : tgOk it tg = true) (hset : ∀ env x, foldedSetIterable it env x = pure x) (h : I1 c A sc O ρ b it ds) (h2 : FG c A sc O tg body (Aft (fun ρ b => XL c A sc O sts ρ b PF) PF) ds ρ b) : XL c A sc O (.For tg it body [] pos :: sts) ρ b PF :=
  l_for htg hset (vi_of h h2)
theorem cmp_eql {xs ys : List Int} : cmp .Eq (.list (xs.map .int)) (.list (ys.map .int)) = some (decide (xs = ys)) := cmpL_ints
theorem cmp_nel {xs ys : List Int} : cmp .NotEq (.list (xs.map .int)) (.list (ys.map .int)) = some (decide (xs ≠ ys)) := cmpL_ints
theorem cmp_ne0 {xs : List Int} : cmp .NotEq (.list (xs.map .int)) (.list []) = some (decide (xs ≠ [])) := cmp_nel (ys := [])
theorem cmp_is : cmp .Is d .none = some (isNone d) := rfl
theorem cmp_isn : cmp .IsNot d .none = some (!isNone d) := rfl
theorem blt_sum {xs : List Int} : blt "sum" [.list (xs.map .int)] = some (.int xs.sum) := by
  show (toInts (xs.map .int)).bind (fun xs => some (D.int xs.sum)) = _
  rw [toInts_map]
  rfl
theorem itr_1 (h : sml u) : itr "range" [.int u] = some ((List.range u.toNat).map fun (i : Nat) => .int (i : Int)) := if_pos ⟨rfl, h⟩
theorem itr_3 (h : sml u ∧ sml v ∧ (u - v).toNat ≤ lim) : itr "range" [.int u, .int v, .int (-1)] = some ((List.range (u - v).toNat).map fun (i : Nat) => .int (u - (i : Int))) := if_pos ⟨rfl, rfl, h⟩
theorem itr_e : itr "enumerate" [.list ds] = some (tupsFrom 0 ds) := rfl
end
end Mine

namespace Mine
open PySem PySem.Calls PyProof.Rows
noncomputable def r_gcd : {r : Arguments × List Stmt × Scope // PySem.Challenge.pw_pq0218_01.theDef "gcd" = some r} := ⟨_, rfl⟩
noncomputable abbrev f_gcd : Fn := ⟨"gcd", r_gcd.1.1, ["a", "b"], r_gcd.1.2.1, r_gcd.1.2.2, []⟩
noncomputable def r_gcd_all : {r : Arguments × List Stmt × Scope // PySem.Challenge.pw_pq0218_01.theDef "gcd_all" = some r} := ⟨_, rfl⟩
noncomputable abbrev f_gcd_all : Fn := ⟨"gcd_all", r_gcd_all.1.1, ["numbers"], r_gcd_all.1.2.1, r_gcd_all.1.2.2, []⟩
noncomputable def r_extended : {r : Arguments × List Stmt × Scope // PySem.Challenge.pw_pq0218_01.theDef "extended" = some r} := ⟨_, rfl⟩
noncomputable abbrev f_extended : Fn := ⟨"extended", r_extended.1.1, ["a", "b"], r_extended.1.2.1, r_extended.1.2.2, []⟩
noncomputable def r_inverse_mod : {r : Arguments × List Stmt × Scope // PySem.Challenge.pw_pq0218_01.theDef "inverse_mod" = some r} := ⟨_, rfl⟩
noncomputable abbrev f_inverse_mod : Fn := ⟨"inverse_mod", r_inverse_mod.1.1, ["a", "m"], r_inverse_mod.1.2.1, r_inverse_mod.1.2.2, []⟩
noncomputable def r_least_divisor : {r : Arguments × List Stmt × Scope // PySem.Challenge.pw_pq0218_01.theDef "least_divisor" = some r} := ⟨_, rfl⟩
noncomputable abbrev f_least_divisor : Fn := ⟨"least_divisor", r_least_divisor.1.1, ["n", "begin"], r_least_divisor.1.2.1, r_least_divisor.1.2.2, []⟩
noncomputable def r_is_prime : {r : Arguments × List Stmt × Scope // PySem.Challenge.pw_pq0218_01.theDef "is_prime" = some r} := ⟨_, rfl⟩
noncomputable abbrev f_is_prime : Fn := ⟨"is_prime", r_is_prime.1.1, ["n"], r_is_prime.1.2.1, r_is_prime.1.2.2, []⟩
noncomputable def r_next_prime : {r : Arguments × List Stmt × Scope // PySem.Challenge.pw_pq0218_01.theDef "next_prime" = some r} := ⟨_, rfl⟩
noncomputable abbrev f_next_prime : Fn := ⟨"next_prime", r_next_prime.1.1, ["n"], r_next_prime.1.2.1, r_next_prime.1.2.2, []⟩
noncomputable def r_chinese_two : {r : Arguments × List Stmt × Scope // PySem.Challenge.pw_pq0218_01.theDef "chinese_two" = some r} := ⟨_, rfl⟩
noncomputable abbrev f_chinese_two : Fn := ⟨"chinese_two", r_chinese_two.1.1, ["one", "other"], r_chinese_two.1.2.1, r_chinese_two.1.2.2, []⟩
noncomputable def r_chinese : {r : Arguments × List Stmt × Scope // PySem.Challenge.pw_pq0218_01.theDef "chinese" = some r} := ⟨_, rfl⟩
noncomputable abbrev f_chinese : Fn := ⟨"chinese", r_chinese.1.1, ["pairs"], r_chinese.1.2.1, r_chinese.1.2.2, []⟩
noncomputable def r_symmetric : {r : Arguments × List Stmt × Scope // PySem.Challenge.pw_pq0218_01.theDef "symmetric" = some r} := ⟨_, rfl⟩
noncomputable abbrev f_symmetric : Fn := ⟨"symmetric", r_symmetric.1.1, ["a", "m"], r_symmetric.1.2.1, r_symmetric.1.2.2, []⟩
noncomputable def r_mtrim : {r : Arguments × List Stmt × Scope // PySem.Challenge.pw_pq0218_01.theDef "mtrim" = some r} := ⟨_, rfl⟩
noncomputable abbrev f_mtrim : Fn := ⟨"mtrim", r_mtrim.1.1, ["a"], r_mtrim.1.2.1, r_mtrim.1.2.2, []⟩
noncomputable def r_mscale : {r : Arguments × List Stmt × Scope // PySem.Challenge.pw_pq0218_01.theDef "mscale" = some r} := ⟨_, rfl⟩
noncomputable abbrev f_mscale : Fn := ⟨"mscale", r_mscale.1.1, ["a", "number", "p"], r_mscale.1.2.1, r_mscale.1.2.2, []⟩
noncomputable def r_mdivmod : {r : Arguments × List Stmt × Scope // PySem.Challenge.pw_pq0218_01.theDef "mdivmod" = some r} := ⟨_, rfl⟩
noncomputable abbrev f_mdivmod : Fn := ⟨"mdivmod", r_mdivmod.1.1, ["a", "b", "p"], r_mdivmod.1.2.1, r_mdivmod.1.2.2, ["rest", "quotient"]⟩
noncomputable def r_mrest : {r : Arguments × List Stmt × Scope // PySem.Challenge.pw_pq0218_01.theDef "mrest" = some r} := ⟨_, rfl⟩
noncomputable abbrev f_mrest : Fn := ⟨"mrest", r_mrest.1.1, ["a", "b", "p"], r_mrest.1.2.1, r_mrest.1.2.2, []⟩
noncomputable def r_mmonic : {r : Arguments × List Stmt × Scope // PySem.Challenge.pw_pq0218_01.theDef "mmonic" = some r} := ⟨_, rfl⟩
noncomputable abbrev f_mmonic : Fn := ⟨"mmonic", r_mmonic.1.1, ["a", "p"], r_mmonic.1.2.1, r_mmonic.1.2.2, []⟩
noncomputable def r_mgcd : {r : Arguments × List Stmt × Scope // PySem.Challenge.pw_pq0218_01.theDef "mgcd" = some r} := ⟨_, rfl⟩
noncomputable abbrev f_mgcd : Fn := ⟨"mgcd", r_mgcd.1.1, ["a", "b", "p"], r_mgcd.1.2.1, r_mgcd.1.2.2, []⟩
noncomputable def r_ztrim : {r : Arguments × List Stmt × Scope // PySem.Challenge.pw_pq0218_01.theDef "ztrim" = some r} := ⟨_, rfl⟩
noncomputable abbrev f_ztrim : Fn := ⟨"ztrim", r_ztrim.1.1, ["row"], r_ztrim.1.2.1, r_ztrim.1.2.2, []⟩
noncomputable def r_zlead : {r : Arguments × List Stmt × Scope // PySem.Challenge.pw_pq0218_01.theDef "zlead" = some r} := ⟨_, rfl⟩
noncomputable abbrev f_zlead : Fn := ⟨"zlead", r_zlead.1.1, ["p"], r_zlead.1.2.1, r_zlead.1.2.2, []⟩
noncomputable def r_zadd : {r : Arguments × List Stmt × Scope // PySem.Challenge.pw_pq0218_01.theDef "zadd" = some r} := ⟨_, rfl⟩
noncomputable abbrev f_zadd : Fn := ⟨"zadd", r_zadd.1.1, ["a", "b"], r_zadd.1.2.1, r_zadd.1.2.2, []⟩
noncomputable def r_zneg : {r : Arguments × List Stmt × Scope // PySem.Challenge.pw_pq0218_01.theDef "zneg" = some r} := ⟨_, rfl⟩
noncomputable abbrev f_zneg : Fn := ⟨"zneg", r_zneg.1.1, ["p"], r_zneg.1.2.1, r_zneg.1.2.2, []⟩
noncomputable def r_zsub : {r : Arguments × List Stmt × Scope // PySem.Challenge.pw_pq0218_01.theDef "zsub" = some r} := ⟨_, rfl⟩
noncomputable abbrev f_zsub : Fn := ⟨"zsub", r_zsub.1.1, ["a", "b"], r_zsub.1.2.1, r_zsub.1.2.2, []⟩
noncomputable def r_zscale : {r : Arguments × List Stmt × Scope // PySem.Challenge.pw_pq0218_01.theDef "zscale" = some r} := ⟨_, rfl⟩
noncomputable abbrev f_zscale : Fn := ⟨"zscale", r_zscale.1.1, ["p", "k"], r_zscale.1.2.1, r_zscale.1.2.2, []⟩
noncomputable def r_zraise : {r : Arguments × List Stmt × Scope // PySem.Challenge.pw_pq0218_01.theDef "zraise" = some r} := ⟨_, rfl⟩
noncomputable abbrev f_zraise : Fn := ⟨"zraise", r_zraise.1.1, ["p", "many"], r_zraise.1.2.1, r_zraise.1.2.2, []⟩
noncomputable def r_zcontent : {r : Arguments × List Stmt × Scope // PySem.Challenge.pw_pq0218_01.theDef "zcontent" = some r} := ⟨_, rfl⟩
noncomputable abbrev f_zcontent : Fn := ⟨"zcontent", r_zcontent.1.1, ["p"], r_zcontent.1.2.1, r_zcontent.1.2.2, []⟩
noncomputable def r_zdivided : {r : Arguments × List Stmt × Scope // PySem.Challenge.pw_pq0218_01.theDef "zdivided" = some r} := ⟨_, rfl⟩
noncomputable abbrev f_zdivided : Fn := ⟨"zdivided", r_zdivided.1.1, ["p", "k"], r_zdivided.1.2.1, r_zdivided.1.2.2, []⟩
noncomputable def r_zprimitive : {r : Arguments × List Stmt × Scope // PySem.Challenge.pw_pq0218_01.theDef "zprimitive" = some r} := ⟨_, rfl⟩
noncomputable abbrev f_zprimitive : Fn := ⟨"zprimitive", r_zprimitive.1.1, ["p"], r_zprimitive.1.2.1, r_zprimitive.1.2.2, []⟩
noncomputable def r_zmod : {r : Arguments × List Stmt × Scope // PySem.Challenge.pw_pq0218_01.theDef "zmod" = some r} := ⟨_, rfl⟩
noncomputable abbrev f_zmod : Fn := ⟨"zmod", r_zmod.1.1, ["p", "m"], r_zmod.1.2.1, r_zmod.1.2.2, []⟩
noncomputable def r_check_bottom : {r : Arguments × List Stmt × Scope // PySem.Challenge.pw_pq0218_01.theDef "check_bottom" = some r} := ⟨_, rfl⟩
noncomputable abbrev f_check_bottom : Fn := ⟨"check_bottom", r_check_bottom.1.1, ["p"], r_check_bottom.1.2.1, r_check_bottom.1.2.2, []⟩
noncomputable def r_zexact : {r : Arguments × List Stmt × Scope // PySem.Challenge.pw_pq0218_01.theDef "zexact" = some r} := ⟨_, rfl⟩
noncomputable abbrev f_zexact : Fn := ⟨"zexact", r_zexact.1.1, ["a", "b"], r_zexact.1.2.1, r_zexact.1.2.2, ["found"]⟩
noncomputable def r_zdivides : {r : Arguments × List Stmt × Scope // PySem.Challenge.pw_pq0218_01.theDef "zdivides" = some r} := ⟨_, rfl⟩
noncomputable abbrev f_zdivides : Fn := ⟨"zdivides", r_zdivides.1.1, ["b", "a"], r_zdivides.1.2.1, r_zdivides.1.2.2, []⟩
noncomputable def r_pseudo : {r : Arguments × List Stmt × Scope // PySem.Challenge.pw_pq0218_01.theDef "pseudo" = some r} := ⟨_, rfl⟩
noncomputable abbrev f_pseudo : Fn := ⟨"pseudo", r_pseudo.1.1, ["a", "b"], r_pseudo.1.2.1, r_pseudo.1.2.2, []⟩
noncomputable def r_zpseudo_rest : {r : Arguments × List Stmt × Scope // PySem.Challenge.pw_pq0218_01.theDef "zpseudo_rest" = some r} := ⟨_, rfl⟩
noncomputable abbrev f_zpseudo_rest : Fn := ⟨"zpseudo_rest", r_zpseudo_rest.1.1, ["a", "b"], r_zpseudo_rest.1.2.1, r_zpseudo_rest.1.2.2, []⟩
noncomputable def r_image : {r : Arguments × List Stmt × Scope // PySem.Challenge.pw_pq0218_01.theDef "image" = some r} := ⟨_, rfl⟩
noncomputable abbrev f_image : Fn := ⟨"image", r_image.1.1, ["a", "b", "front", "p"], r_image.1.2.1, r_image.1.2.2, []⟩
noncomputable def r_joined : {r : Arguments × List Stmt × Scope // PySem.Challenge.pw_pq0218_01.theDef "joined" = some r} := ⟨_, rfl⟩
noncomputable abbrev f_joined : Fn := ⟨"joined", r_joined.1.1, ["one", "m", "other", "p"], r_joined.1.2.1, r_joined.1.2.2, []⟩
noncomputable def r_symmetric_of : {r : Arguments × List Stmt × Scope // PySem.Challenge.pw_pq0218_01.theDef "symmetric_of" = some r} := ⟨_, rfl⟩
noncomputable abbrev f_symmetric_of : Fn := ⟨"symmetric_of", r_symmetric_of.1.1, ["p", "m"], r_symmetric_of.1.2.1, r_symmetric_of.1.2.2, []⟩
noncomputable def r_is_common : {r : Arguments × List Stmt × Scope // PySem.Challenge.pw_pq0218_01.theDef "is_common" = some r} := ⟨_, rfl⟩
noncomputable abbrev f_is_common : Fn := ⟨"is_common", r_is_common.1.1, ["candidate", "a", "b"], r_is_common.1.2.1, r_is_common.1.2.2, []⟩
noncomputable def r_primitive_gcd : {r : Arguments × List Stmt × Scope // PySem.Challenge.pw_pq0218_01.theDef "primitive_gcd" = some r} := ⟨_, rfl⟩
noncomputable abbrev f_primitive_gcd : Fn := ⟨"primitive_gcd", r_primitive_gcd.1.1, ["a", "b", "first_prime"], r_primitive_gcd.1.2.1, r_primitive_gcd.1.2.2, []⟩
noncomputable def r_zgcd_modular : {r : Arguments × List Stmt × Scope // PySem.Challenge.pw_pq0218_01.theDef "zgcd_modular" = some r} := ⟨_, rfl⟩
noncomputable abbrev f_zgcd_modular : Fn := ⟨"zgcd_modular", r_zgcd_modular.1.1, ["a", "b", "first_prime"], r_zgcd_modular.1.2.1, r_zgcd_modular.1.2.2, []⟩
noncomputable def r_next_height : {r : Arguments × List Stmt × Scope // PySem.Challenge.pw_pq0218_01.theDef "next_height" = some r} := ⟨_, rfl⟩
noncomputable abbrev f_next_height : Fn := ⟨"next_height", r_next_height.1.1, ["front", "step", "height"], r_next_height.1.2.1, r_next_height.1.2.2, []⟩
noncomputable def r_subresultants : {r : Arguments × List Stmt × Scope // PySem.Challenge.pw_pq0218_01.theDef "subresultants" = some r} := ⟨_, rfl⟩
noncomputable abbrev f_subresultants : Fn := ⟨"subresultants", r_subresultants.1.1, ["a", "b"], r_subresultants.1.2.1, r_subresultants.1.2.2, ["row"]⟩
noncomputable def r_zgcd : {r : Arguments × List Stmt × Scope // PySem.Challenge.pw_pq0218_01.theDef "zgcd" = some r} := ⟨_, rfl⟩
noncomputable abbrev f_zgcd : Fn := ⟨"zgcd", r_zgcd.1.1, ["a", "b"], r_zgcd.1.2.1, r_zgcd.1.2.2, []⟩
noncomputable def r_zcoprime : {r : Arguments × List Stmt × Scope // PySem.Challenge.pw_pq0218_01.theDef "zcoprime" = some r} := ⟨_, rfl⟩
noncomputable abbrev f_zcoprime : Fn := ⟨"zcoprime", r_zcoprime.1.1, ["a", "b"], r_zcoprime.1.2.1, r_zcoprime.1.2.2, []⟩
noncomputable def r_law_take : {r : Arguments × List Stmt × Scope // PySem.Challenge.pw_pq0218_01.theDef "_law_take" = some r} := ⟨_, rfl⟩
noncomputable abbrev f_law_take : Fn := ⟨"_law_take", r_law_take.1.1, ["box", "many"], r_law_take.1.2.1, r_law_take.1.2.2, []⟩
noncomputable def r_law_row : {r : Arguments × List Stmt × Scope // PySem.Challenge.pw_pq0218_01.theDef "_law_row" = some r} := ⟨_, rfl⟩
noncomputable abbrev f_law_row : Fn := ⟨"_law_row", r_law_row.1.1, ["box", "most", "high"], r_law_row.1.2.1, r_law_row.1.2.2, []⟩
noncomputable def r_law_times : {r : Arguments × List Stmt × Scope // PySem.Challenge.pw_pq0218_01.theDef "_law_times" = some r} := ⟨_, rfl⟩
noncomputable abbrev f_law_times : Fn := ⟨"_law_times", r_law_times.1.1, ["left", "right"], r_law_times.1.2.1, r_law_times.1.2.2, ["found"]⟩
noncomputable def r_law_part : {r : Arguments × List Stmt × Scope // PySem.Challenge.pw_pq0218_01.theDef "_law_part" = some r} := ⟨_, rfl⟩
noncomputable abbrev f_law_part : Fn := ⟨"_law_part", r_law_part.1.1, ["one", "other"], r_law_part.1.2.1, r_law_part.1.2.2, []⟩
noncomputable def r_law_bare : {r : Arguments × List Stmt × Scope // PySem.Challenge.pw_pq0218_01.theDef "_law_bare" = some r} := ⟨_, rfl⟩
noncomputable abbrev f_law_bare : Fn := ⟨"_law_bare", r_law_bare.1.1, ["row"], r_law_bare.1.2.1, r_law_bare.1.2.2, []⟩
noncomputable def r_law_rest : {r : Arguments × List Stmt × Scope // PySem.Challenge.pw_pq0218_01.theDef "_law_rest" = some r} := ⟨_, rfl⟩
noncomputable abbrev f_law_rest : Fn := ⟨"_law_rest", r_law_rest.1.1, ["top", "bottom"], r_law_rest.1.2.1, r_law_rest.1.2.2, ["found"]⟩
noncomputable def r_law_common : {r : Arguments × List Stmt × Scope // PySem.Challenge.pw_pq0218_01.theDef "_law_common" = some r} := ⟨_, rfl⟩
noncomputable abbrev f_law_common : Fn := ⟨"_law_common", r_law_common.1.1, ["one", "other"], r_law_common.1.2.1, r_law_common.1.2.2, []⟩
theorem b_gcd : BindOk "gcd" r_gcd.1.1 r_gcd.1.2.1 r_gcd.1.2.2 ["a", "b"] := bindA2 fun _ _ _ _ _ => by kernel_rfl
theorem b_gcd_all : BindOk "gcd_all" r_gcd_all.1.1 r_gcd_all.1.2.1 r_gcd_all.1.2.2 ["numbers"] := bindA1 fun _ _ _ _ => by kernel_rfl
theorem b_extended : BindOk "extended" r_extended.1.1 r_extended.1.2.1 r_extended.1.2.2 ["a", "b"] := bindA2 fun _ _ _ _ _ => by kernel_rfl
theorem b_inverse_mod : BindOk "inverse_mod" r_inverse_mod.1.1 r_inverse_mod.1.2.1 r_inverse_mod.1.2.2 ["a", "m"] := bindA2 fun _ _ _ _ _ => by kernel_rfl
theorem b_least_divisor : BindOk "least_divisor" r_least_divisor.1.1 r_least_divisor.1.2.1 r_least_divisor.1.2.2 ["n", "begin"] := bindA2 fun _ _ _ _ _ => by kernel_rfl
theorem b_is_prime : BindOk "is_prime" r_is_prime.1.1 r_is_prime.1.2.1 r_is_prime.1.2.2 ["n"] := bindA1 fun _ _ _ _ => by kernel_rfl
theorem b_next_prime : BindOk "next_prime" r_next_prime.1.1 r_next_prime.1.2.1 r_next_prime.1.2.2 ["n"] := bindA1 fun _ _ _ _ => by kernel_rfl
theorem b_chinese_two : BindOk "chinese_two" r_chinese_two.1.1 r_chinese_two.1.2.1 r_chinese_two.1.2.2 ["one", "other"] := bindA2 fun _ _ _ _ _ => by kernel_rfl
theorem b_chinese : BindOk "chinese" r_chinese.1.1 r_chinese.1.2.1 r_chinese.1.2.2 ["pairs"] := bindA1 fun _ _ _ _ => by kernel_rfl
theorem b_symmetric : BindOk "symmetric" r_symmetric.1.1 r_symmetric.1.2.1 r_symmetric.1.2.2 ["a", "m"] := bindA2 fun _ _ _ _ _ => by kernel_rfl
theorem b_mtrim : BindOk "mtrim" r_mtrim.1.1 r_mtrim.1.2.1 r_mtrim.1.2.2 ["a"] := bindA1 fun _ _ _ _ => by kernel_rfl
theorem b_mscale : BindOk "mscale" r_mscale.1.1 r_mscale.1.2.1 r_mscale.1.2.2 ["a", "number", "p"] := bindA3 fun _ _ _ _ _ _ => by kernel_rfl
theorem b_mdivmod : BindOk "mdivmod" r_mdivmod.1.1 r_mdivmod.1.2.1 r_mdivmod.1.2.2 ["a", "b", "p"] := bindA3 fun _ _ _ _ _ _ => by kernel_rfl
theorem b_mrest : BindOk "mrest" r_mrest.1.1 r_mrest.1.2.1 r_mrest.1.2.2 ["a", "b", "p"] := bindA3 fun _ _ _ _ _ _ => by kernel_rfl
theorem b_mmonic : BindOk "mmonic" r_mmonic.1.1 r_mmonic.1.2.1 r_mmonic.1.2.2 ["a", "p"] := bindA2 fun _ _ _ _ _ => by kernel_rfl
theorem b_mgcd : BindOk "mgcd" r_mgcd.1.1 r_mgcd.1.2.1 r_mgcd.1.2.2 ["a", "b", "p"] := bindA3 fun _ _ _ _ _ _ => by kernel_rfl
theorem b_ztrim : BindOk "ztrim" r_ztrim.1.1 r_ztrim.1.2.1 r_ztrim.1.2.2 ["row"] := bindA1 fun _ _ _ _ => by kernel_rfl
theorem b_zlead : BindOk "zlead" r_zlead.1.1 r_zlead.1.2.1 r_zlead.1.2.2 ["p"] := bindA1 fun _ _ _ _ => by kernel_rfl
theorem b_zadd : BindOk "zadd" r_zadd.1.1 r_zadd.1.2.1 r_zadd.1.2.2 ["a", "b"] := bindA2 fun _ _ _ _ _ => by kernel_rfl
theorem b_zneg : BindOk "zneg" r_zneg.1.1 r_zneg.1.2.1 r_zneg.1.2.2 ["p"] := bindA1 fun _ _ _ _ => by kernel_rfl
theorem b_zsub : BindOk "zsub" r_zsub.1.1 r_zsub.1.2.1 r_zsub.1.2.2 ["a", "b"] := bindA2 fun _ _ _ _ _ => by kernel_rfl
theorem b_zscale : BindOk "zscale" r_zscale.1.1 r_zscale.1.2.1 r_zscale.1.2.2 ["p", "k"] := bindA2 fun _ _ _ _ _ => by kernel_rfl
theorem b_zraise : BindOk "zraise" r_zraise.1.1 r_zraise.1.2.1 r_zraise.1.2.2 ["p", "many"] := bindA2 fun _ _ _ _ _ => by kernel_rfl
theorem b_zcontent : BindOk "zcontent" r_zcontent.1.1 r_zcontent.1.2.1 r_zcontent.1.2.2 ["p"] := bindA1 fun _ _ _ _ => by kernel_rfl
theorem b_zdivided : BindOk "zdivided" r_zdivided.1.1 r_zdivided.1.2.1 r_zdivided.1.2.2 ["p", "k"] := bindA2 fun _ _ _ _ _ => by kernel_rfl
theorem b_zprimitive : BindOk "zprimitive" r_zprimitive.1.1 r_zprimitive.1.2.1 r_zprimitive.1.2.2 ["p"] := bindA1 fun _ _ _ _ => by kernel_rfl
theorem b_zmod : BindOk "zmod" r_zmod.1.1 r_zmod.1.2.1 r_zmod.1.2.2 ["p", "m"] := bindA2 fun _ _ _ _ _ => by kernel_rfl
theorem b_check_bottom : BindOk "check_bottom" r_check_bottom.1.1 r_check_bottom.1.2.1 r_check_bottom.1.2.2 ["p"] := bindA1 fun _ _ _ _ => by kernel_rfl
theorem b_zexact : BindOk "zexact" r_zexact.1.1 r_zexact.1.2.1 r_zexact.1.2.2 ["a", "b"] := bindA2 fun _ _ _ _ _ => by kernel_rfl
theorem b_zdivides : BindOk "zdivides" r_zdivides.1.1 r_zdivides.1.2.1 r_zdivides.1.2.2 ["b", "a"] := bindA2 fun _ _ _ _ _ => by kernel_rfl
theorem b_pseudo : BindOk "pseudo" r_pseudo.1.1 r_pseudo.1.2.1 r_pseudo.1.2.2 ["a", "b"] := bindA2 fun _ _ _ _ _ => by kernel_rfl
theorem b_zpseudo_rest : BindOk "zpseudo_rest" r_zpseudo_rest.1.1 r_zpseudo_rest.1.2.1 r_zpseudo_rest.1.2.2 ["a", "b"] := bindA2 fun _ _ _ _ _ => by kernel_rfl
theorem b_image : BindOk "image" r_image.1.1 r_image.1.2.1 r_image.1.2.2 ["a", "b", "front", "p"] := bindA4 fun _ _ _ _ _ _ _ => by kernel_rfl
theorem b_joined : BindOk "joined" r_joined.1.1 r_joined.1.2.1 r_joined.1.2.2 ["one", "m", "other", "p"] := bindA4 fun _ _ _ _ _ _ _ => by kernel_rfl
theorem b_symmetric_of : BindOk "symmetric_of" r_symmetric_of.1.1 r_symmetric_of.1.2.1 r_symmetric_of.1.2.2 ["p", "m"] := bindA2 fun _ _ _ _ _ => by kernel_rfl
theorem b_is_common : BindOk "is_common" r_is_common.1.1 r_is_common.1.2.1 r_is_common.1.2.2 ["candidate", "a", "b"] := bindA3 fun _ _ _ _ _ _ => by kernel_rfl
theorem b_primitive_gcd : BindOk "primitive_gcd" r_primitive_gcd.1.1 r_primitive_gcd.1.2.1 r_primitive_gcd.1.2.2 ["a", "b", "first_prime"] := bindA3 fun _ _ _ _ _ _ => by kernel_rfl
theorem b_zgcd_modular : BindOk "zgcd_modular" r_zgcd_modular.1.1 r_zgcd_modular.1.2.1 r_zgcd_modular.1.2.2 ["a", "b", "first_prime"] := bindA3 fun _ _ _ _ _ _ => by kernel_rfl
theorem b_next_height : BindOk "next_height" r_next_height.1.1 r_next_height.1.2.1 r_next_height.1.2.2 ["front", "step", "height"] := bindA3 fun _ _ _ _ _ _ => by kernel_rfl
theorem b_subresultants : BindOk "subresultants" r_subresultants.1.1 r_subresultants.1.2.1 r_subresultants.1.2.2 ["a", "b"] := bindA2 fun _ _ _ _ _ => by kernel_rfl
theorem b_zgcd : BindOk "zgcd" r_zgcd.1.1 r_zgcd.1.2.1 r_zgcd.1.2.2 ["a", "b"] := bindA2 fun _ _ _ _ _ => by kernel_rfl
theorem b_zcoprime : BindOk "zcoprime" r_zcoprime.1.1 r_zcoprime.1.2.1 r_zcoprime.1.2.2 ["a", "b"] := bindA2 fun _ _ _ _ _ => by kernel_rfl
theorem b_law_take : BindOk "_law_take" r_law_take.1.1 r_law_take.1.2.1 r_law_take.1.2.2 ["box", "many"] := bindA2 fun _ _ _ _ _ => by kernel_rfl
theorem b_law_row : BindOk "_law_row" r_law_row.1.1 r_law_row.1.2.1 r_law_row.1.2.2 ["box", "most", "high"] := bindA3 fun _ _ _ _ _ _ => by kernel_rfl
theorem b_law_times : BindOk "_law_times" r_law_times.1.1 r_law_times.1.2.1 r_law_times.1.2.2 ["left", "right"] := bindA2 fun _ _ _ _ _ => by kernel_rfl
theorem b_law_part : BindOk "_law_part" r_law_part.1.1 r_law_part.1.2.1 r_law_part.1.2.2 ["one", "other"] := bindA2 fun _ _ _ _ _ => by kernel_rfl
theorem b_law_bare : BindOk "_law_bare" r_law_bare.1.1 r_law_bare.1.2.1 r_law_bare.1.2.2 ["row"] := bindA1 fun _ _ _ _ => by kernel_rfl
theorem b_law_rest : BindOk "_law_rest" r_law_rest.1.1 r_law_rest.1.2.1 r_law_rest.1.2.2 ["top", "bottom"] := bindA2 fun _ _ _ _ _ => by kernel_rfl
theorem b_law_common : BindOk "_law_common" r_law_common.1.1 r_law_common.1.2.1 r_law_common.1.2.2 ["one", "other"] := bindA2 fun _ _ _ _ _ => by kernel_rfl
noncomputable def fns : List Fn := [f_gcd, f_gcd_all, f_extended, f_inverse_mod, f_least_divisor, f_is_prime, f_next_prime, f_chinese_two, f_chinese, f_symmetric, f_mtrim, f_mscale, f_mdivmod, f_mrest, f_mmonic, f_mgcd, f_ztrim, f_zlead, f_zadd, f_zneg, f_zsub, f_zscale, f_zraise, f_zcontent, f_zdivided, f_zprimitive, f_zmod, f_check_bottom, f_zexact, f_zdivides, f_pseudo, f_zpseudo_rest, f_image, f_joined, f_symmetric_of, f_is_common, f_primitive_gcd, f_zgcd_modular, f_next_height, f_subresultants, f_zgcd, f_zcoprime, f_law_take, f_law_row, f_law_times, f_law_part, f_law_bare, f_law_rest, f_law_common]
theorem fns_ok : ∀ F ∈ fns, fnOk F = true := by decide +kernel
section
variable {c : Cx} {A : Around} {b : List D} {k : Nat} {P : D → List D → Prop}
noncomputable abbrev Defs (c : Cx) : Prop := DefsOk c fns
theorem enterF (F : Fn) (hm : F ∈ fns) (hb : BindOk F.name F.params F.body F.sc F.xs) (ok : c.Ok) (DD : Defs c) (hA : AD A (k + 1)) {args : List D} {ρ0 : PEnv} (hu : updAll (fun _ => none) F.xs args = some ρ0) (h : ∀ A, AD A k → XL c A F.sc F.O F.body ρ0 b (Ret P)) : CallP c A F.name args b P := enter ok DD F hm (fns_ok F hm) hb hA hu h
theorem m_gcd : f_gcd ∈ fns := (.head _)
theorem m_gcd_all : f_gcd_all ∈ fns := (.tail _ (.head _))
theorem m_extended : f_extended ∈ fns := (.tail _ (.tail _ (.head _)))
theorem m_inverse_mod : f_inverse_mod ∈ fns := (.tail _ (.tail _ (.tail _ (.head _))))
theorem m_least_divisor : f_least_divisor ∈ fns := (.tail _ (.tail _ (.tail _ (.tail _ (.head _)))))
theorem m_is_prime : f_is_prime ∈ fns := (.tail _ (.tail _ (.tail _ (.tail _ (.tail _ (.head _))))))
theorem m_next_prime : f_next_prime ∈ fns := (.tail _ (.tail _ (.tail _ (.tail _ (.tail _ (.tail _ (.head _)))))))
theorem m_chinese_two : f_chinese_two ∈ fns := (.tail _ (.tail _ (.tail _ (.tail _ (.tail _ (.tail _ (.tail _ (.head _))))))))
theorem m_chinese : f_chinese ∈ fns := (.tail _ (.tail _ (.tail _ (.tail _ (.tail _ (.tail _ (.tail _ (.tail _ (.head _)))))))))
theorem m_symmetric : f_symmetric ∈ fns := (.tail _ (.tail _ (.tail _ (.tail _ (.tail _ (.tail _ (.tail _ (.tail _ (.tail _ (.head _))))))))))
theorem m_mtrim : f_mtrim ∈ fns := (.tail _ (.tail _ (.tail _ (.tail _ (.tail _ (.tail _ (.tail _ (.tail _ (.tail _ (.tail _ (.head _)))))))))))
theorem m_mscale : f_mscale ∈ fns := (.tail _ (.tail _ (.tail _ (.tail _ (.tail _ (.tail _ (.tail _ (.tail _ (.tail _ (.tail _ (.tail _ (.head _))))))))))))
theorem m_mdivmod : f_mdivmod ∈ fns := (.tail _ (.tail _ (.tail _ (.tail _ (.tail _ (.tail _ (.tail _ (.tail _ (.tail _ (.tail _ (.tail _ (.tail _ (.head _)))))))))))))
theorem m_mrest : f_mrest ∈ fns := (.tail _ (.tail _ (.tail _ (.tail _ (.tail _ (.tail _ (.tail _ (.tail _ (.tail _ (.tail _ (.tail _ (.tail _ (.tail _ (.head _))))))))))))))
theorem m_mmonic : f_mmonic ∈ fns := (.tail _ (.tail _ (.tail _ (.tail _ (.tail _ (.tail _ (.tail _ (.tail _ (.tail _ (.tail _ (.tail _ (.tail _ (.tail _ (.tail _ (.head _)))))))))))))))
theorem m_mgcd : f_mgcd ∈ fns := (.tail _ (.tail _ (.tail _ (.tail _ (.tail _ (.tail _ (.tail _ (.tail _ (.tail _ (.tail _ (.tail _ (.tail _ (.tail _ (.tail _ (.tail _ (.head _))))))))))))))))
theorem m_ztrim : f_ztrim ∈ fns := (.tail _ (.tail _ (.tail _ (.tail _ (.tail _ (.tail _ (.tail _ (.tail _ (.tail _ (.tail _ (.tail _ (.tail _ (.tail _ (.tail _ (.tail _ (.tail _ (.head _)))))))))))))))))
theorem m_zlead : f_zlead ∈ fns := (.tail _ (.tail _ (.tail _ (.tail _ (.tail _ (.tail _ (.tail _ (.tail _ (.tail _ (.tail _ (.tail _ (.tail _ (.tail _ (.tail _ (.tail _ (.tail _ (.tail _ (.head _))))))))))))))))))
theorem m_zadd : f_zadd ∈ fns := (.tail _ (.tail _ (.tail _ (.tail _ (.tail _ (.tail _ (.tail _ (.tail _ (.tail _ (.tail _ (.tail _ (.tail _ (.tail _ (.tail _ (.tail _ (.tail _ (.tail _ (.tail _ (.head _)))))))))))))))))))
theorem m_zneg : f_zneg ∈ fns := (.tail _ (.tail _ (.tail _ (.tail _ (.tail _ (.tail _ (.tail _ (.tail _ (.tail _ (.tail _ (.tail _ (.tail _ (.tail _ (.tail _ (.tail _ (.tail _ (.tail _ (.tail _ (.tail _ (.head _))))))))))))))))))))
theorem m_zsub : f_zsub ∈ fns := (.tail _ (.tail _ (.tail _ (.tail _ (.tail _ (.tail _ (.tail _ (.tail _ (.tail _ (.tail _ (.tail _ (.tail _ (.tail _ (.tail _ (.tail _ (.tail _ (.tail _ (.tail _ (.tail _ (.tail _ (.head _)))))))))))))))))))))
theorem m_zscale : f_zscale ∈ fns := (.tail _ (.tail _ (.tail _ (.tail _ (.tail _ (.tail _ (.tail _ (.tail _ (.tail _ (.tail _ (.tail _ (.tail _ (.tail _ (.tail _ (.tail _ (.tail _ (.tail _ (.tail _ (.tail _ (.tail _ (.tail _ (.head _))))))))))))))))))))))
theorem m_zraise : f_zraise ∈ fns := (.tail _ (.tail _ (.tail _ (.tail _ (.tail _ (.tail _ (.tail _ (.tail _ (.tail _ (.tail _ (.tail _ (.tail _ (.tail _ (.tail _ (.tail _ (.tail _ (.tail _ (.tail _ (.tail _ (.tail _ (.tail _ (.tail _ (.head _)))))))))))))))))))))))
theorem m_zcontent : f_zcontent ∈ fns := (.tail _ (.tail _ (.tail _ (.tail _ (.tail _ (.tail _ (.tail _ (.tail _ (.tail _ (.tail _ (.tail _ (.tail _ (.tail _ (.tail _ (.tail _ (.tail _ (.tail _ (.tail _ (.tail _ (.tail _ (.tail _ (.tail _ (.tail _ (.head _))))))))))))))))))))))))
theorem m_zdivided : f_zdivided ∈ fns := (.tail _ (.tail _ (.tail _ (.tail _ (.tail _ (.tail _ (.tail _ (.tail _ (.tail _ (.tail _ (.tail _ (.tail _ (.tail _ (.tail _ (.tail _ (.tail _ (.tail _ (.tail _ (.tail _ (.tail _ (.tail _ (.tail _ (.tail _ (.tail _ (.head _)))))))))))))))))))))))))
theorem m_zprimitive : f_zprimitive ∈ fns := (.tail _ (.tail _ (.tail _ (.tail _ (.tail _ (.tail _ (.tail _ (.tail _ (.tail _ (.tail _ (.tail _ (.tail _ (.tail _ (.tail _ (.tail _ (.tail _ (.tail _ (.tail _ (.tail _ (.tail _ (.tail _ (.tail _ (.tail _ (.tail _ (.tail _ (.head _))))))))))))))))))))))))))
theorem m_zmod : f_zmod ∈ fns := (.tail _ (.tail _ (.tail _ (.tail _ (.tail _ (.tail _ (.tail _ (.tail _ (.tail _ (.tail _ (.tail _ (.tail _ (.tail _ (.tail _ (.tail _ (.tail _ (.tail _ (.tail _ (.tail _ (.tail _ (.tail _ (.tail _ (.tail _ (.tail _ (.tail _ (.tail _ (.head _)))))))))))))))))))))))))))
theorem m_check_bottom : f_check_bottom ∈ fns := (.tail _ (.tail _ (.tail _ (.tail _ (.tail _ (.tail _ (.tail _ (.tail _ (.tail _ (.tail _ (.tail _ (.tail _ (.tail _ (.tail _ (.tail _ (.tail _ (.tail _ (.tail _ (.tail _ (.tail _ (.tail _ (.tail _ (.tail _ (.tail _ (.tail _ (.tail _ (.tail _ (.head _))))))))))))))))))))))))))))
theorem m_zexact : f_zexact ∈ fns := (.tail _ (.tail _ (.tail _ (.tail _ (.tail _ (.tail _ (.tail _ (.tail _ (.tail _ (.tail _ (.tail _ (.tail _ (.tail _ (.tail _ (.tail _ (.tail _ (.tail _ (.tail _ (.tail _ (.tail _ (.tail _ (.tail _ (.tail _ (.tail _ (.tail _ (.tail _ (.tail _ (.tail _ (.head _)))))))))))))))))))))))))))))
theorem m_zdivides : f_zdivides ∈ fns := (.tail _ (.tail _ (.tail _ (.tail _ (.tail _ (.tail _ (.tail _ (.tail _ (.tail _ (.tail _ (.tail _ (.tail _ (.tail _ (.tail _ (.tail _ (.tail _ (.tail _ (.tail _ (.tail _ (.tail _ (.tail _ (.tail _ (.tail _ (.tail _ (.tail _ (.tail _ (.tail _ (.tail _ (.tail _ (.head _))))))))))))))))))))))))))))))
theorem m_pseudo : f_pseudo ∈ fns := (.tail _ (.tail _ (.tail _ (.tail _ (.tail _ (.tail _ (.tail _ (.tail _ (.tail _ (.tail _ (.tail _ (.tail _ (.tail _ (.tail _ (.tail _ (.tail _ (.tail _ (.tail _ (.tail _ (.tail _ (.tail _ (.tail _ (.tail _ (.tail _ (.tail _ (.tail _ (.tail _ (.tail _ (.tail _ (.tail _ (.head _)))))))))))))))))))))))))))))))
theorem m_zpseudo_rest : f_zpseudo_rest ∈ fns := (.tail _ (.tail _ (.tail _ (.tail _ (.tail _ (.tail _ (.tail _ (.tail _ (.tail _ (.tail _ (.tail _ (.tail _ (.tail _ (.tail _ (.tail _ (.tail _ (.tail _ (.tail _ (.tail _ (.tail _ (.tail _ (.tail _ (.tail _ (.tail _ (.tail _ (.tail _ (.tail _ (.tail _ (.tail _ (.tail _ (.tail _ (.head _))))))))))))))))))))))))))))))))
theorem m_image : f_image ∈ fns := (.tail _ (.tail _ (.tail _ (.tail _ (.tail _ (.tail _ (.tail _ (.tail _ (.tail _ (.tail _ (.tail _ (.tail _ (.tail _ (.tail _ (.tail _ (.tail _ (.tail _ (.tail _ (.tail _ (.tail _ (.tail _ (.tail _ (.tail _ (.tail _ (.tail _ (.tail _ (.tail _ (.tail _ (.tail _ (.tail _ (.tail _ (.tail _ (.head _)))))))))))))))))))))))))))))))))
theorem m_joined : f_joined ∈ fns := (.tail _ (.tail _ (.tail _ (.tail _ (.tail _ (.tail _ (.tail _ (.tail _ (.tail _ (.tail _ (.tail _ (.tail _ (.tail _ (.tail _ (.tail _ (.tail _ (.tail _ (.tail _ (.tail _ (.tail _ (.tail _ (.tail _ (.tail _ (.tail _ (.tail _ (.tail _ (.tail _ (.tail _ (.tail _ (.tail _ (.tail _ (.tail _ (.tail _ (.head _))))))))))))))))))))))))))))))))))
theorem m_symmetric_of : f_symmetric_of ∈ fns := (.tail _ (.tail _ (.tail _ (.tail _ (.tail _ (.tail _ (.tail _ (.tail _ (.tail _ (.tail _ (.tail _ (.tail _ (.tail _ (.tail _ (.tail _ (.tail _ (.tail _ (.tail _ (.tail _ (.tail _ (.tail _ (.tail _ (.tail _ (.tail _ (.tail _ (.tail _ (.tail _ (.tail _ (.tail _ (.tail _ (.tail _ (.tail _ (.tail _ (.tail _ (.head _)))))))))))))))))))))))))))))))))))
theorem m_is_common : f_is_common ∈ fns := (.tail _ (.tail _ (.tail _ (.tail _ (.tail _ (.tail _ (.tail _ (.tail _ (.tail _ (.tail _ (.tail _ (.tail _ (.tail _ (.tail _ (.tail _ (.tail _ (.tail _ (.tail _ (.tail _ (.tail _ (.tail _ (.tail _ (.tail _ (.tail _ (.tail _ (.tail _ (.tail _ (.tail _ (.tail _ (.tail _ (.tail _ (.tail _ (.tail _ (.tail _ (.tail _ (.head _))))))))))))))))))))))))))))))))))))
theorem m_primitive_gcd : f_primitive_gcd ∈ fns := (.tail _ (.tail _ (.tail _ (.tail _ (.tail _ (.tail _ (.tail _ (.tail _ (.tail _ (.tail _ (.tail _ (.tail _ (.tail _ (.tail _ (.tail _ (.tail _ (.tail _ (.tail _ (.tail _ (.tail _ (.tail _ (.tail _ (.tail _ (.tail _ (.tail _ (.tail _ (.tail _ (.tail _ (.tail _ (.tail _ (.tail _ (.tail _ (.tail _ (.tail _ (.tail _ (.tail _ (.head _)))))))))))))))))))))))))))))))))))))
theorem m_zgcd_modular : f_zgcd_modular ∈ fns := (.tail _ (.tail _ (.tail _ (.tail _ (.tail _ (.tail _ (.tail _ (.tail _ (.tail _ (.tail _ (.tail _ (.tail _ (.tail _ (.tail _ (.tail _ (.tail _ (.tail _ (.tail _ (.tail _ (.tail _ (.tail _ (.tail _ (.tail _ (.tail _ (.tail _ (.tail _ (.tail _ (.tail _ (.tail _ (.tail _ (.tail _ (.tail _ (.tail _ (.tail _ (.tail _ (.tail _ (.tail _ (.head _))))))))))))))))))))))))))))))))))))))
theorem m_next_height : f_next_height ∈ fns := (.tail _ (.tail _ (.tail _ (.tail _ (.tail _ (.tail _ (.tail _ (.tail _ (.tail _ (.tail _ (.tail _ (.tail _ (.tail _ (.tail _ (.tail _ (.tail _ (.tail _ (.tail _ (.tail _ (.tail _ (.tail _ (.tail _ (.tail _ (.tail _ (.tail _ (.tail _ (.tail _ (.tail _ (.tail _ (.tail _ (.tail _ (.tail _ (.tail _ (.tail _ (.tail _ (.tail _ (.tail _ (.tail _ (.head _)))))))))))))))))))))))))))))))))))))))
theorem m_subresultants : f_subresultants ∈ fns := (.tail _ (.tail _ (.tail _ (.tail _ (.tail _ (.tail _ (.tail _ (.tail _ (.tail _ (.tail _ (.tail _ (.tail _ (.tail _ (.tail _ (.tail _ (.tail _ (.tail _ (.tail _ (.tail _ (.tail _ (.tail _ (.tail _ (.tail _ (.tail _ (.tail _ (.tail _ (.tail _ (.tail _ (.tail _ (.tail _ (.tail _ (.tail _ (.tail _ (.tail _ (.tail _ (.tail _ (.tail _ (.tail _ (.tail _ (.head _))))))))))))))))))))))))))))))))))))))))
theorem m_zgcd : f_zgcd ∈ fns := (.tail _ (.tail _ (.tail _ (.tail _ (.tail _ (.tail _ (.tail _ (.tail _ (.tail _ (.tail _ (.tail _ (.tail _ (.tail _ (.tail _ (.tail _ (.tail _ (.tail _ (.tail _ (.tail _ (.tail _ (.tail _ (.tail _ (.tail _ (.tail _ (.tail _ (.tail _ (.tail _ (.tail _ (.tail _ (.tail _ (.tail _ (.tail _ (.tail _ (.tail _ (.tail _ (.tail _ (.tail _ (.tail _ (.tail _ (.tail _ (.head _)))))))))))))))))))))))))))))))))))))))))
theorem m_zcoprime : f_zcoprime ∈ fns := (.tail _ (.tail _ (.tail _ (.tail _ (.tail _ (.tail _ (.tail _ (.tail _ (.tail _ (.tail _ (.tail _ (.tail _ (.tail _ (.tail _ (.tail _ (.tail _ (.tail _ (.tail _ (.tail _ (.tail _ (.tail _ (.tail _ (.tail _ (.tail _ (.tail _ (.tail _ (.tail _ (.tail _ (.tail _ (.tail _ (.tail _ (.tail _ (.tail _ (.tail _ (.tail _ (.tail _ (.tail _ (.tail _ (.tail _ (.tail _ (.tail _ (.head _))))))))))))))))))))))))))))))))))))))))))
theorem m_law_take : f_law_take ∈ fns := (.tail _ (.tail _ (.tail _ (.tail _ (.tail _ (.tail _ (.tail _ (.tail _ (.tail _ (.tail _ (.tail _ (.tail _ (.tail _ (.tail _ (.tail _ (.tail _ (.tail _ (.tail _ (.tail _ (.tail _ (.tail _ (.tail _ (.tail _ (.tail _ (.tail _ (.tail _ (.tail _ (.tail _ (.tail _ (.tail _ (.tail _ (.tail _ (.tail _ (.tail _ (.tail _ (.tail _ (.tail _ (.tail _ (.tail _ (.tail _ (.tail _ (.tail _ (.head _)))))))))))))))))))))))))))))))))))))))))))
theorem m_law_row : f_law_row ∈ fns := (.tail _ (.tail _ (.tail _ (.tail _ (.tail _ (.tail _ (.tail _ (.tail _ (.tail _ (.tail _ (.tail _ (.tail _ (.tail _ (.tail _ (.tail _ (.tail _ (.tail _ (.tail _ (.tail _ (.tail _ (.tail _ (.tail _ (.tail _ (.tail _ (.tail _ (.tail _ (.tail _ (.tail _ (.tail _ (.tail _ (.tail _ (.tail _ (.tail _ (.tail _ (.tail _ (.tail _ (.tail _ (.tail _ (.tail _ (.tail _ (.tail _ (.tail _ (.tail _ (.head _))))))))))))))))))))))))))))))))))))))))))))
theorem m_law_times : f_law_times ∈ fns := (.tail _ (.tail _ (.tail _ (.tail _ (.tail _ (.tail _ (.tail _ (.tail _ (.tail _ (.tail _ (.tail _ (.tail _ (.tail _ (.tail _ (.tail _ (.tail _ (.tail _ (.tail _ (.tail _ (.tail _ (.tail _ (.tail _ (.tail _ (.tail _ (.tail _ (.tail _ (.tail _ (.tail _ (.tail _ (.tail _ (.tail _ (.tail _ (.tail _ (.tail _ (.tail _ (.tail _ (.tail _ (.tail _ (.tail _ (.tail _ (.tail _ (.tail _ (.tail _ (.tail _ (.head _)))))))))))))))))))))))))))))))))))))))))))))
theorem m_law_part : f_law_part ∈ fns := (.tail _ (.tail _ (.tail _ (.tail _ (.tail _ (.tail _ (.tail _ (.tail _ (.tail _ (.tail _ (.tail _ (.tail _ (.tail _ (.tail _ (.tail _ (.tail _ (.tail _ (.tail _ (.tail _ (.tail _ (.tail _ (.tail _ (.tail _ (.tail _ (.tail _ (.tail _ (.tail _ (.tail _ (.tail _ (.tail _ (.tail _ (.tail _ (.tail _ (.tail _ (.tail _ (.tail _ (.tail _ (.tail _ (.tail _ (.tail _ (.tail _ (.tail _ (.tail _ (.tail _ (.tail _ (.head _))))))))))))))))))))))))))))))))))))))))))))))
theorem m_law_bare : f_law_bare ∈ fns := (.tail _ (.tail _ (.tail _ (.tail _ (.tail _ (.tail _ (.tail _ (.tail _ (.tail _ (.tail _ (.tail _ (.tail _ (.tail _ (.tail _ (.tail _ (.tail _ (.tail _ (.tail _ (.tail _ (.tail _ (.tail _ (.tail _ (.tail _ (.tail _ (.tail _ (.tail _ (.tail _ (.tail _ (.tail _ (.tail _ (.tail _ (.tail _ (.tail _ (.tail _ (.tail _ (.tail _ (.tail _ (.tail _ (.tail _ (.tail _ (.tail _ (.tail _ (.tail _ (.tail _ (.tail _ (.tail _ (.head _)))))))))))))))))))))))))))))))))))))))))))))))
theorem m_law_rest : f_law_rest ∈ fns := (.tail _ (.tail _ (.tail _ (.tail _ (.tail _ (.tail _ (.tail _ (.tail _ (.tail _ (.tail _ (.tail _ (.tail _ (.tail _ (.tail _ (.tail _ (.tail _ (.tail _ (.tail _ (.tail _ (.tail _ (.tail _ (.tail _ (.tail _ (.tail _ (.tail _ (.tail _ (.tail _ (.tail _ (.tail _ (.tail _ (.tail _ (.tail _ (.tail _ (.tail _ (.tail _ (.tail _ (.tail _ (.tail _ (.tail _ (.tail _ (.tail _ (.tail _ (.tail _ (.tail _ (.tail _ (.tail _ (.tail _ (.head _))))))))))))))))))))))))))))))))))))))))))))))))
theorem m_law_common : f_law_common ∈ fns := (.tail _ (.tail _ (.tail _ (.tail _ (.tail _ (.tail _ (.tail _ (.tail _ (.tail _ (.tail _ (.tail _ (.tail _ (.tail _ (.tail _ (.tail _ (.tail _ (.tail _ (.tail _ (.tail _ (.tail _ (.tail _ (.tail _ (.tail _ (.tail _ (.tail _ (.tail _ (.tail _ (.tail _ (.tail _ (.tail _ (.tail _ (.tail _ (.tail _ (.tail _ (.tail _ (.tail _ (.tail _ (.tail _ (.tail _ (.tail _ (.tail _ (.tail _ (.tail _ (.tail _ (.tail _ (.tail _ (.tail _ (.tail _ (.head _)))))))))))))))))))))))))))))))))))))))))))))))))
end
end Mine

namespace Mine
open PySem PySem.Calls PyProof.Rows
/- the walk -/
local macro_rules | `(tactic| wtm_at "w") => `(tactic| first
  | ((guard_target = XL _ _ _ _ _ _ _ _); first | ((with_reducible apply m_ret)) | ((with_reducible apply m_set); (rfl)) | ((with_reducible apply m_tup2); (rfl)) | ((with_reducible apply m_tup3); (rfl)) | ((with_reducible apply m_tup4); (rfl)) | ((with_reducible apply m_inc); (first | rfl | assumption); (rfl)) | ((with_reducible apply m_dec); (first | rfl | assumption); (rfl)) | ((with_reducible apply m_own); (rfl)) | ((with_reducible apply m_put); (first | rfl | assumption); (rfl)) | ((with_reducible apply m_do)) | ((with_reducible apply l_nil)) | ((with_reducible apply m_for); (rfl); (exact fun _ _ => rfl)) | ((with_reducible apply m_augs); (first | rfl | assumption); (rfl)) | ((with_reducible apply m_app); (first | rfl | assumption); (rfl)))
  | ((guard_target = E1 _ _ _ _ _ _ _ _); first | ((with_reducible apply e_name); (first | rfl | assumption); (rfl)) | ((with_reducible apply e_int)) | ((with_reducible apply e_add)) | ((with_reducible apply e_subt)) | ((with_reducible apply e_mul)) | ((with_reducible apply e_mod)) | ((with_reducible apply e_div)) | ((with_reducible apply e_len); (rfl); (rfl)) | ((with_reducible apply e_blt); (rfl); (rfl); (rfl)) | ((with_reducible apply e_call); (exact DefsOk.has (by assumption) (by kernel_rfl)); (rfl); (rfl); (rfl)) | ((with_reducible apply e_upto)) | ((with_reducible apply e_from)) | ((with_reducible apply e_rev)) | ((with_reducible apply e_sub)) | ((with_reducible apply e_comp); (rfl); (exact fun _ _ => rfl)) | ((with_reducible apply e_none)) | ((with_reducible apply e_bool)) | ((with_reducible apply e_neg)) | ((with_reducible apply e_cmp)) | ((with_reducible apply e_tup)) | ((with_reducible apply e_lst)) | ((with_reducible apply e_count); (rfl); (rfl); (rfl)))
  | ((guard_target = B1 _ _ _ _ _ _ _ _); first | ((with_reducible apply b1_n); (first | rfl | assumption)) | ((with_reducible apply b1_e)))
  | ((guard_target = S1 _ _ _ _ _ _ _ _); first | ((with_reducible apply s1_nil)) | ((with_reducible apply s1_cons); (rfl)))
  | ((guard_target = P1 _ _ _ _ _ _ _ _ _); first | ((with_reducible apply p1_cons); (rfl)) | ((with_reducible apply p1_nil)))
  | ((guard_target = T1 _ _ _ _ _ _ _ _); first | ((with_reducible apply t1_cmp)))
  | ((guard_target = I1 _ _ _ _ _ _ _ _); first | ((with_reducible apply i1_call); (rfl); (rfl); (rfl)) | ((with_reducible apply i1_ev); (rfl)))
  | ((guard_target = Op _ _); first | ((with_reducible apply k_b1); (rfl)) | ((with_reducible apply k_b2); (rfl)))
  | ((guard_target = Aft _ _ _ _ _); first | ((with_reducible apply aft_l)) | ((with_reducible apply aft_r)))
  | ((guard_target = Ret _ _ _ _); first | ((with_reducible apply ret)) | ((with_reducible apply ret_n)))
  | ((guard_target = Eq (α := Option _) _ _); first | rfl | assumption | exact cmp_eql | exact cmp_nel | exact cmp_ne0 | exact cmp_is | exact cmp_isn | exact blt_sum | (refine itr_1 ?_) | (refine itr_3 ?_))
  | ((guard_target = Eq (α := Bool) _ _); rfl)
  | ((guard_target = MulOk _ _); assumption)
  | ((guard_target = DivOk _); assumption)
  | ((guard_target = Ne _ _); assumption)
  | ((guard_target = Not _); assumption)
  | ((guard_target = @LE.le Int _ _ _); assumption)
  | ((guard_target = @LT.lt Int _ _ _); assumption)
  | ((guard_target = @Eq Int _ _); first | rfl | assumption))
/- so much -/
open PySem PySem.Calls PyProof.Rows
/-! numbers -/
noncomputable def big : Nat := 2 ^ 8000
noncomputable abbrev Ok (x : Int) : Prop := x.natAbs < big
theorem ok_iff {x : Int} : Ok x ↔ x.natAbs < 2 ^ 8000 := Iff.rfl
theorem bits_of {x : Int} (h : Ok x) : Builtin.Int.intBits x ≤ 8000 := by
  unfold Builtin.Int.intBits
  split
  · exact o125 h
  · rename_i h0
    have h0' : x.natAbs ≠ 0 := by simpa using h0
    have := (Nat.log2_lt h0').mpr (ok_iff.mp h)
    exact o124 this
theorem mulOk {a b : Int} (ha : Ok a) (hb : Ok b) : MulOk a b := PySem.IntMulOk.of_bits (Nat.le_trans (bits_of ha) (by decide)) (Nat.le_trans (bits_of hb) (by decide))
theorem divOk {b : Int} (h0 : b ≠ 0) (hb : Ok b) : DivOk b := ⟨h0, Nat.lt_of_lt_of_le ((Nat.log2_lt (by exact o123 h0)).mpr (ok_iff.mp hb)) (by decide)⟩
theorem gcd_step (x y : Int) (hx : 0 ≤ x) (hy : 0 ≤ y) : Int.gcd y (x.fmod y) = Int.gcd x y := by
  rw [Int.fmod_eq_emod_of_nonneg _ hy]
  obtain ⟨m, rfl⟩ := Int.eq_ofNat_of_zero_le hx
  obtain ⟨n, rfl⟩ := Int.eq_ofNat_of_zero_le hy
  show Nat.gcd n (m % n) = Nat.gcd m n
  rw [Nat.gcd_comm m n, Nat.gcd_rec n m, Nat.gcd_comm]
theorem fmod_lt (x : Int) {y : Int} (hy : 0 < y) : 0 ≤ x.fmod y ∧ x.fmod y < y := by
  rw [Int.fmod_eq_emod_of_nonneg _ (by exact o100 hy)]
  exact ⟨Int.emod_nonneg _ (by exact o122 hy), Int.emod_lt_of_pos _ hy⟩
theorem ok_of_lt {x y : Int} (h : x.natAbs ≤ y.natAbs) (hy : Ok y) : Ok x := Nat.lt_of_le_of_lt h hy
theorem ok_pow {x : Int} (k : Nat) (hk : k ≤ 8000) (h : x.natAbs < 2 ^ k) : Ok x := ok_iff.mpr <| Nat.lt_of_lt_of_le h (Nat.pow_le_pow_right (by decide) hk)
/-- the two rows of Euclid's steps -/
structure ExtI (a m p0 p1 p2 q0 q1 q2 : Int) : Prop where
  hp : 0 ≤ p0
  hq : 0 ≤ q0
  ep : p1 * a + p2 * m = p0
  eq : q1 * a + q2 * m = q0
  g : Int.gcd p0 q0 = Int.gcd a m
  b1 : (q1.natAbs : Int) * p0 + (p1.natAbs : Int) * q0 ≤ m
  b2 : (q2.natAbs : Int) * p0 + (p2.natAbs : Int) * q0 ≤ a
  c1 : (p1.natAbs : Int) ≤ m + 1
  c2 : (p2.natAbs : Int) ≤ a + 1
  d1 : (q1.natAbs : Int) ≤ m + 1
  d2 : (q2.natAbs : Int) ≤ a + 1
  e0 : p0 ≤ a + m
  f0 : q0 ≤ a + m
theorem nab (x t y : Int) (ht : 0 ≤ t) : ((x - t * y).natAbs : Int) ≤ x.natAbs + t * y.natAbs := by
  have h1 : (x - t * y).natAbs ≤ x.natAbs + (t * y).natAbs := by exact o121 ht
  rw [Int.natAbs_mul] at h1
  have h2 : ((t.natAbs * y.natAbs : Nat) : Int) = t * y.natAbs := by rw [Int.natCast_mul]; congr 1; exact o120 ht
  exact o119 h1 h2
theorem step_b {x y t X Y M : Int} (ht : 0 ≤ t) (hY : 0 < Y) (hr : 0 ≤ X - t * Y) (h : (y.natAbs : Int) * X + (x.natAbs : Int) * Y ≤ M) :
    ((x - t * y).natAbs : Int) * Y + (y.natAbs : Int) * (X - t * Y) ≤ M ∧ ((x - t * y).natAbs : Int) ≤ M := by
  have h1 := Int.mul_le_mul_of_nonneg_right (nab x t y ht) (Int.le_of_lt hY)
  have h2 : ((x.natAbs : Int) + t * y.natAbs) * Y + (y.natAbs : Int) * (X - t * Y) = (y.natAbs : Int) * X + (x.natAbs : Int) * Y := by grind
  have h3 : ((x - t * y).natAbs : Int) * Y + (y.natAbs : Int) * (X - t * Y) ≤ M := by exact o118 h h1 h2
  refine ⟨h3, ?_⟩
  have h4 : 0 ≤ (y.natAbs : Int) * (X - t * Y) := Int.mul_nonneg (by exact o117) hr
  have h5 : ((x - t * y).natAbs : Int) * 1 ≤ ((x - t * y).natAbs : Int) * Y := Int.mul_le_mul_of_nonneg_left (by exact o116 hY) (by exact o115)
  exact o114 h3 h4 h5
theorem ExtI.step {a m p0 p1 p2 q0 q1 q2 : Int} (h : ExtI a m p0 p1 p2 q0 q1 q2) (h0 : q0 ≠ 0) :
    ExtI a m q0 q1 q2 (p0 - p0.fdiv q0 * q0) (p1 - p0.fdiv q0 * q1) (p2 - p0.fdiv q0 * q2) ∧ p0 - p0.fdiv q0 * q0 < q0 ∧ 0 ≤ p0.fdiv q0 ∧ p0.fdiv q0 ≤ p0 := by
  have hq : 0 < q0 := by have := h.hq; exact o113 h0 this
  have hm : p0 - p0.fdiv q0 * q0 = p0.fmod q0 := by have := Int.fmod_add_fdiv_mul p0 q0; exact o112 this
  have ht : 0 ≤ p0.fdiv q0 := Int.fdiv_nonneg h.hp h.hq
  have hr := fmod_lt p0 hq
  have htp : p0.fdiv q0 ≤ p0 := by
    have h5 : p0.fdiv q0 * 1 ≤ p0.fdiv q0 * q0 := Int.mul_le_mul_of_nonneg_left (by exact o111 hr.1 hr.2) ht
    exact o110 hm hr.1 h5
  have B1 := step_b ht hq (by exact o109 hm hr.1) h.b1
  have B2 := step_b ht hq (by exact o109 hm hr.1) h.b2
  have := h.c1; have := h.c2
  refine ⟨⟨h.hq, by exact o109 hm hr.1, h.eq, ?_, ?_, B1.1, B2.1, h.d1, h.d2, by exact o108 B1.2, by exact o108 B2.2, h.f0, ?_⟩, by exact o107 hm hr.2, ht, htp⟩
  · have e1 := h.ep; have e2 := h.eq; grind
  · rw [hm, gcd_step _ _ h.hp h.hq, h.g]
  · have := h.f0; exact o106 hm hr.2 this
section
variable {c : Cx} (ok : c.Ok) (DD : Defs c) {A : Around} {k : Nat} {bx : List D} {P : D → List D → Prop}
include ok DD
theorem gcd_spec (hA : AD A (k + 1)) (a b : Int) (h : P (.int (Int.gcd a b)) bx) : CallP c A "gcd" [.int a, .int b] bx P := by
  refine enterF f_gcd m_gcd b_gcd ok DD hA rfl fun A hA => ?_; dsimp only [f_gcd, r_gcd]
  (repeat' wtm_at "w")
  refine l_while (fun (y : Int) => y.natAbs) (fun y ρ b' => b' = bx ∧ ∃ x : Int, 0 ≤ x ∧ 0 ≤ y ∧ ρ "a" = some (.int x) ∧ ρ "b" = some (.int y) ∧ Int.gcd x y = Int.gcd a b) (if b < 0 then -b else b) ?_ ?_
  · exact ⟨rfl, if a < 0 then -a else a, by split <;> (first | exact o104 (by assumption) | exact o105 (by assumption)), by split <;> (first | exact o104 (by assumption) | exact o105 (by assumption)), rfl, rfl, by split <;> split <;> simp⟩
  rintro y ρ b' ⟨rfl, x, hx, hy, ha, hb, hg⟩
  refine m_test (by (repeat' wtm_at "w")) (fun h0 => ?_) fun h0 => ?_
  · have := fmod_lt x (y := y) (by exact o103 hy h0)
    (repeat' wtm_at "w")
    exact ⟨x.fmod y, by exact o102 this.1 this.2, rfl, y, hy, this.1, rfl, rfl, (gcd_step x y hx hy).trans hg⟩
  · (repeat' wtm_at "w")
    have h0 : y = 0 := Decidable.of_not_not h0
    subst h0
    have e : x = Int.gcd a b := by rw [← hg]; simp; exact o86 hx
    rw [e]
    exact h
noncomputable def gcdFrom (g : Int) (xs : List Int) : Int := xs.foldl (fun g x => (Int.gcd g x : Int)) g
noncomputable def gcdAll (xs : List Int) : Int := gcdFrom 0 xs
theorem gcd_all_spec (hA : AD A (k + 2)) (xs : List Int) (h : P (.int (gcdAll xs)) bx) : CallP c A "gcd_all" [.list (xs.map .int)] bx P := by
  refine enterF f_gcd_all m_gcd_all b_gcd_all ok DD hA rfl fun A hA => ?_; dsimp only [f_gcd_all, r_gcd_all]
  (repeat' wtm_at "w")
  refine fg (fun ds ρ b' => b' = bx ∧ ∃ (ys : List Int) (g : Int), ds = ys.map .int ∧ ρ "found" = some (.int g) ∧ gcdFrom g ys = gcdAll xs) ?_ ?_ ?_
  rotate_right
  · exact ⟨rfl, xs, 0, rfl, rfl, rfl⟩
  · rintro x ds ρ b' ⟨rfl, ys, g, hds, hf, hg⟩
    cases ys with
    | nil => cases hds
    | cons y ys =>
      cases hds
      (repeat' (first | ((guard_target = C1 _ _ _ _ _ _); first | (refine gcd_spec ok DD hA _ _ ⟨rfl, rfl⟩)) | wtm_at "w"))
      exact ⟨rfl, ys, _, rfl, rfl, hg⟩
  · rintro ρ b' ⟨rfl, ys, g, hds, hf, hg⟩
    cases ys with
    | cons y ys => cases hds
    | nil =>
      (repeat' wtm_at "w")
      rw [show g = _ from hg]
      exact h
theorem extended_spec (hA : AD A (k + 1)) (a m : Int) (ha : 0 ≤ a) (hm : 0 < m) (ho : Ok (a + m + 2))
    (h : ∀ s t : Int, s * a + t * m = Int.gcd a m → (s.natAbs : Int) ≤ m + 1 → (t.natAbs : Int) ≤ a + 1 → P (.tuple [.int (Int.gcd a m), .int s, .int t]) bx) : CallP c A "extended" [.int a, .int m] bx P := by
  have okl : ∀ x : Int, (x.natAbs : Int) ≤ a + m + 2 → Ok x := fun x hx => by
    have h1 : Ok (a + m + 2) := ho
    unfold Ok at h1 ⊢
    exact o101 ho hx
  refine enterF f_extended m_extended b_extended ok DD hA rfl fun A hA => ?_; dsimp only [f_extended, r_extended]
  (repeat' wtm_at "w")
  refine l_while (fun (y : Int) => y.natAbs) (fun y ρ b' => b' = bx ∧ ∃ p0 p1 p2 q1 q2 : Int, ρ "one" = some (.tuple [.int p0, .int p1, .int p2]) ∧ ρ "other" = some (.tuple [.int y, .int q1, .int q2]) ∧ ExtI a m p0 p1 p2 y q1 q2) m ?_ ?_
  · exact ⟨rfl, a, 1, 0, 0, 1, rfl, rfl, ⟨ha, by exact o100 hm, by exact o99, by exact o98, rfl, by simp, by simp, by exact o97 hm, by exact o96 ha, by exact o95 hm, by exact o94 ha, by exact o93 hm, by exact o92 ha⟩⟩
  rintro y ρ b' ⟨rfl, p0, p1, p2, q1, q2, h1, h2, hI⟩
  refine m_test (by (repeat' wtm_at "w")) (fun h0 => ?_) fun h0 => ?_
  · have hs := hI.step h0
    have hp := hI.hp; have hq := hI.hq; have he := hI.e0; have hf := hI.f0; have hd1 := hI.d1; have hd2 := hI.d2
    have ot := okl (p0.fdiv y) (by exact o91 hs.2.2.1 hs.2.2.2 he)
    have m0 := mulOk ot (okl y (by exact o88 hq hf))
    have m1 := mulOk ot (okl q1 (by exact o90 hd1 hd2))
    have m2 := mulOk ot (okl q2 (by exact o89 hd1 hd2))
    have d0 := divOk h0 (okl y (by exact o88 hq hf))
    (repeat' wtm_at "w")
    exact ⟨p0 - p0.fdiv y * y, by have := hs.1.hq; exact o87 hs.2.1 this, rfl, y, q1, q2, _, _, rfl, rfl, hs.1⟩
  · have h0 : y = 0 := Decidable.of_not_not h0
    subst h0
    have e : p0 = Int.gcd a m := by rw [← hI.g]; have := hI.hp; simp; exact o86 this
    have := hI.ep; have := hI.c1; have := hI.c2; have := hI.hp
    have hp0 := hI.hp
    (repeat' (first | ((guard_target = E1 _ _ _ _ _ _ _ _); first | (apply e_itp (p := 0 ≤ p0))) | wtm_at "w"))
    cases e
    exact h p1 p2 (by exact o85 (by assumption)) (by exact o84 (by assumption)) (by exact o84 (by assumption))
theorem inverse_none_or (hA : AD A (k + 2)) (a m : Int) (ha : 0 ≤ a) (hm : 0 < m) (ho : Ok (2 * m + 2)) (hg : Int.gcd a m = 1)
    (h : ∀ u : Int, 0 ≤ u → u < m → (∃ k, u * a = 1 + k * m) → P (.int u) bx) : CallP c A "inverse_mod" [.int a, .int m] bx P := by
  have hf := fmod_lt a hm
  have h0 : m ≠ 0 := by exact o52 hf.1 hf.2
  have hg' : Int.gcd (a.fmod m) m = 1 := by
    rw [Int.gcd_comm, gcd_step a m ha (by exact o83 hf.1 hf.2), hg]
  refine enterF f_inverse_mod m_inverse_mod b_inverse_mod ok DD hA rfl fun A hA => ?_; dsimp only [f_inverse_mod, r_inverse_mod]
  refine l_unp3 rfl (v_call (ds := [.int (a.fmod m), .int m]) (DD.has (by kernel_rfl)) rfl rfl rfl (by (repeat' wtm_at "w")) (extended_spec ok DD hA _ _ hf.1 hm (by unfold Ok at ho ⊢; exact o82 ho hf.1 hf.2) fun s t h1 h2 h3 => ⟨_, rfl, rfl, k_u3 ?_⟩))
  rw [hg'] at h1 ⊢
  (repeat' (first | ((guard_target = E1 _ _ _ _ _ _ _ _); first | (apply e_itp (p := ((1 : Nat) : Int) = 1))) | wtm_at "w"))
  refine h _ (fmod_lt s hm).1 (fmod_lt s hm).2 ?_
  have e1 := Int.fmod_add_fdiv_mul s m
  have e2 := Int.fmod_add_fdiv_mul a m
  refine ⟨s * a.fdiv m - t - s.fdiv m * a, ?_⟩
  have e3 : s.fmod m = s - s.fdiv m * m := by exact o81 e1
  have e4 : a.fmod m = a - a.fdiv m * m := by exact o81 e2
  rw [e4] at h1
  rw [e3]
  grind
end
noncomputable def PrimeI (p : Int) : Prop := 2 ≤ p ∧ ∀ d : Int, 2 ≤ d → d < p → ¬ d ∣ p
section
variable {c : Cx} (ok : c.Ok) (DD : Defs c) {A : Around} {k : Nat} {bx : List D} {P : D → List D → Prop}
include ok DD
theorem least_divisor_spec (hA : AD A (k + 1)) (n : Int) (hn : 2 ≤ n) (ho : n < 2 ^ 40) (h : ∀ r : Int, (r = n ↔ PrimeI n) → P (.int r) bx) : CallP c A "least_divisor" [.int n, .int 2] bx P := by
  refine enterF f_least_divisor m_least_divisor b_least_divisor ok DD hA rfl fun A hA => ?_; dsimp only [f_least_divisor, r_least_divisor]
  (repeat' wtm_at "w")
  refine l_while (fun (y : Int) => (n + 3 - y).toNat) (fun y ρ b' => b' = bx ∧ 2 ≤ y ∧ y ≤ n + 2 ∧ ρ "n" = some (.int n) ∧ ρ "found" = some (.int y) ∧ (∀ d : Int, 2 ≤ d → d < y → ¬ d ∣ n) ∧ (y = 2 ∨ y % 2 = 1)) 2 ?_ ?_
  · exact ⟨rfl, by exact o67, by exact o71 hn, rfl, rfl, by omega, .inl rfl⟩
  rintro y ρ b' ⟨rfl, hy, hyn, h1, h2, hd, ho2⟩
  have m0 : MulOk y y := mulOk (ok_pow 60 (by decide) (by exact o80 ho hy hyn)) (ok_pow 60 (by decide) (by exact o80 ho hy hyn))
  have hy0 : y ≠ 0 := by exact o79 ho2
  refine m_test (by (repeat' wtm_at "w")) (fun h3 => ?_) fun h3 => ?_
  · have hyl : y < n := by
      have h5 : 2 * y ≤ y * y := Int.mul_le_mul_of_nonneg_right hy (by exact o62 hy)
      exact o78 hy h3 h5
    refine m_if0 (by (repeat' wtm_at "w")) (fun h4 => ?_) fun h4 => ?_
    · (repeat' wtm_at "w")
      refine h _ ⟨fun e => by omega, fun hp => ?_⟩
      exact absurd (Int.dvd_of_fmod_eq_zero h4) (hp.2 y hy hyl)
    · have hnd : ¬ y ∣ n := fun q => h4 (Int.fmod_eq_zero_of_dvd q)
      by_cases h6 : y = 2
      · subst h6
        (repeat' (first | ((guard_target = E1 _ _ _ _ _ _ _ _); first | (apply e_itp (p := (2 : Int) = 2))) | wtm_at "w"))
        refine ⟨3, by exact o77 hyl, rfl, by exact o76, by exact o75 hyl, h1, rfl, fun d q1 q2 => ?_, by exact o74⟩
        have : d = 2 := by exact o73 q1 q2
        subst this; exact hnd
      · (repeat' (first | ((guard_target = E1 _ _ _ _ _ _ _ _); first | (apply e_itn (p := y = 2))) | wtm_at "w"))
        refine ⟨y + 2, by exact o72 hyl, rfl, by exact o71 hy, by exact o70 hyl, h1, rfl, fun d q1 q2 q3 => ?_, by exact o69 ho2 h6⟩
        by_cases q4 : d < y
        · exact hd d q1 q4 q3
        · by_cases q5 : d = y
          · subst q5; exact hnd q3
          · have : d = y + 1 := by exact o68 q2 q4 q5
            subst this
            have h2n : ¬ (2 : Int) ∣ n := hd 2 (by exact o67) (by exact o66 hy h6)
            exact h2n (Int.dvd_trans (by omega) q3)
  · (repeat' wtm_at "w")
    refine h _ ⟨fun _ => ⟨hn, fun e q1 q2 q3 => ?_⟩, fun _ => rfl⟩
    obtain ⟨k, rfl⟩ := q3
    have hk : 2 ≤ k := by
      apply Classical.byContradiction; intro q
      have hk1 : k ≤ 1 := by exact o65 q
      have : e * k ≤ e * 1 := Int.mul_le_mul_of_nonneg_left hk1 (by exact o62 q1)
      exact o64 q2 this
    by_cases q4 : e < y
    · exact hd e q1 q4 ⟨k, rfl⟩
    · by_cases q5 : k < y
      · exact hd k hk q5 ⟨e, Int.mul_comm e k⟩
      · have h5 : y * y ≤ e * k := Int.mul_le_mul (by exact o63 q4) (by exact o63 q5) (by exact o62 hy) (by exact o62 q1)
        exact h3 h5
theorem is_prime_spec (hA : AD A (k + 2)) (n : Int) (hn : 2 ≤ n) (ho : n < 2 ^ 40) (h : ∀ t : Bool, (t = true ↔ PrimeI n) → P (.bool t) bx) : CallP c A "is_prime" [.int n] bx P := by
  refine enterF f_is_prime m_is_prime b_is_prime ok DD hA rfl fun A hA => ?_; dsimp only [f_is_prime, r_is_prime]
  refine l_ret (r_and (a_cons (v_of (by (repeat' wtm_at "w")) ⟨_, rfl, br_dt hn (a_one ?_)⟩)))
  refine r_cmp rfl (b_ev (v_call (DD.has (by kernel_rfl)) rfl rfl rfl (by (repeat' wtm_at "w")) (least_divisor_spec ok DD hA n hn ho fun r hr => ?_)))
  refine vb_of (by (repeat' wtm_at "w")) ⟨_, rfl, _, rfl, ?_⟩
  exact h _ (by simpa using hr)
theorem next_prime_spec (hA : AD A (k + 3)) (n : Int) (z : Int) (hn : 1 ≤ n) (ho : n < z) (hz : z < 2 ^ 40) (hp : PrimeI z) (h : ∀ r : Int, n < r → r ≤ z → PrimeI r → P (.int r) bx) : CallP c A "next_prime" [.int n] bx P := by
  have hm : (if 2 > n + 1 then 2 else n + 1) = n + 1 := by split <;> (first | exact o60 hn (by assumption) | exact o61)
  have hm' : some (D.int (if 2 > n + 1 then 2 else n + 1)) = some (D.int (n + 1)) := by rw [hm]
  refine enterF f_next_prime m_next_prime b_next_prime ok DD hA rfl fun A hA => ?_; dsimp only [f_next_prime, r_next_prime]
  (repeat' wtm_at "w")
  refine l_while (fun (y : Int) => (z - y).toNat) (fun y ρ b' => b' = bx ∧ n < y ∧ y ≤ z ∧ ρ "found" = some (.int y)) (n + 1) ?_ ?_
  · exact ⟨rfl, by exact o59, by exact o58 ho, hm'⟩
  rintro y ρ b' ⟨rfl, hy, hyn, h1⟩
  refine t_not (t_ev (fun _ => rfl) (v_call (DD.has (by kernel_rfl)) rfl rfl rfl (by (repeat' wtm_at "w")) (is_prime_spec ok DD hA y (by exact o57 hn hy) (by exact o56 hz hyn) fun t ht => ⟨_, rfl, br_n ⟨fun q => ?_, fun q => ?_⟩⟩)))
  · (repeat' wtm_at "w")
    exact h _ hy hyn (ht.mp q)
  · have hne : y ≠ z := by rintro rfl; rw [ht.mpr hp] at q; cases q
    (repeat' wtm_at "w")
    exact ⟨y + 1, by exact o55 hyn hne, rfl, by exact o54 hy, by exact o53 hyn hne, rfl⟩
theorem symmetric_spec (hA : AD A (k + 1)) (a m : Int) (hm : 0 < m) (ho : Ok m) (h : P (.int (if m < 2 * a.fmod m then a.fmod m - m else a.fmod m)) bx) : CallP c A "symmetric" [.int a, .int m] bx P := by
  have hf := fmod_lt a hm
  have h0 : m ≠ 0 := by exact o52 hf.1 hf.2
  have m0 : MulOk 2 (a.fmod m) := mulOk (ok_pow 60 (by decide) (by decide)) (by unfold Ok at ho ⊢; exact o51 ho hf.1 hf.2)
  refine enterF f_symmetric m_symmetric b_symmetric ok DD hA rfl fun A hA => ?_; dsimp only [f_symmetric, r_symmetric]
  (repeat' (first | ((guard_target = E1 _ _ _ _ _ _ _ _); first | (apply e_iti (p := m < 2 * a.fmod m))) | wtm_at "w"))
  exact h
end

open PySem PySem.Calls PyProof.Rows
/-- numbers that leave room for products -/
noncomputable abbrev Ok3 (x : Int) : Prop := x.natAbs < 2 ^ 2500
theorem Ok3.ok {x : Int} (h : Ok3 x) : Ok x := ok_pow 2500 (by decide) h
theorem natAbs_mul_lt {a b : Int} {m n : Nat} (ha : a.natAbs < 2 ^ m) (hb : b.natAbs < 2 ^ n) : (a * b).natAbs < 2 ^ (m + n) := by
  rw [Int.natAbs_mul, Nat.pow_add]
  exact Nat.mul_lt_mul'' ha hb
section
variable {c : Cx} (ok : c.Ok) (DD : Defs c) {A : Around} {k : Nat} {bx : List D} {P : D → List D → Prop}
include ok DD
theorem chinese_two_spec (hA : AD A (k + 2)) (a m b p : Int) (ha : 0 ≤ a ∧ a ≤ m) (hm : 0 < m) (hp : 0 < p) (hb : 0 ≤ b ∧ b ≤ p) (om : Ok3 m) (op : Ok3 p) (hg : Int.gcd m p = 1)
    (h : ∀ r : Int, 0 ≤ r → r < m * p → (∃ k, r = a + m * k) → (∃ k, r = b + p * k) → P (.tuple [.int r, .int (m * p)]) bx) : CallP c A "chinese_two" [.tuple [.int a, .int m], .tuple [.int b, .int p]] bx P := by
  have hmp : 0 < m * p := Int.mul_pos hm hp
  have oo : Ok (m + p + 2) := ok_pow 2600 (by decide) (by
    have h1 : m.natAbs < 2 ^ 2500 := om
    have h2 : p.natAbs < 2 ^ 2500 := op
    have h3 : (2 : Nat) ^ 2600 = 2 ^ 2500 * 2 ^ 100 := by rw [← Nat.pow_add]
    have h4 : 2 ^ 2500 * 3 ≤ (2 : Nat) ^ 2500 * 2 ^ 100 := Nat.mul_le_mul_left _ (by decide)
    have h5 : (2 : Nat) ≤ 2 ^ 2500 := by decide +kernel
    exact o138 h1 h2 h3 h4)
  refine enterF f_chinese_two m_chinese_two b_chinese_two ok DD hA rfl fun A hA => ?_; dsimp only [f_chinese_two, r_chinese_two]
  refine l_unp3 rfl (v_call (ds := [.int m, .int p]) (DD.has (by kernel_rfl)) rfl rfl rfl (by (repeat' wtm_at "w")) (extended_spec ok DD hA m p (by exact o100 hm) hp oo fun s t h1 h2 h3 => ⟨_, rfl, rfl, k_u3 ?_⟩))
  rw [hg] at h1 ⊢
  have z : (m.fdiv ((1 : Nat) : Int) * p) ≠ 0 := by rw [show m.fdiv ((1 : Nat) : Int) = m by simp]; exact o137 hmp
  have f1 : ∀ x : Int, x.fmod ((1 : Nat) : Int) = 0 := fun x => by simp
  have f2 : ∀ x : Int, x.fdiv ((1 : Nat) : Int) = x := fun x => by simp
  have n1 : ((1 : Nat) : Int) ≠ 0 := by decide
  have ba : (b - a).natAbs < 2 ^ 2501 := by
    have h1 : m.natAbs < 2 ^ 2500 := om
    have h2 : p.natAbs < 2 ^ 2500 := op
    have h3 : (2 : Nat) ^ 2501 = 2 ^ 2500 * 2 := by rw [Nat.pow_succ]
    exact o136 ha.1 ha.2 hb.1 hb.2 om op h3
  have sl : s.natAbs < 2 ^ 2501 := by
    have h2 : p.natAbs < 2 ^ 2500 := op
    have h3 : (2 : Nat) ^ 2501 = 2 ^ 2500 * 2 := by rw [Nat.pow_succ]
    have h5 : (2 : Nat) ≤ 2 ^ 2500 := by decide +kernel
    exact o135 (by assumption) h2 h3
  have sb := natAbs_mul_lt sl ba
  have o1 : DivOk ((1 : Nat) : Int) := divOk (by decide) (ok_pow 60 (by decide) (by decide))
  have m1 : MulOk (m.fdiv ((1 : Nat) : Int)) p := by rw [f2]; exact mulOk om.ok op.ok
  have m2 : MulOk s ((b - a).fdiv ((1 : Nat) : Int)) := by rw [f2]; exact mulOk (ok_pow 2501 (by decide) sl) (ok_pow 2501 (by decide) ba)
  have m3 : MulOk m (s * ((b - a).fdiv ((1 : Nat) : Int))) := by rw [f2]; exact mulOk om.ok (ok_pow _ (by decide) sb)
  refine m_ifn0 (p := (b - a).fmod ((1 : Nat) : Int) ≠ 0) (by (repeat' wtm_at "w")) (fun q => q (f1 _)) ?_
  (repeat' wtm_at "w")
  rw [f2, f2]
  have e1 := Int.fmod_add_fdiv_mul (a + m * (s * (b - a))) (m * p)
  exact h _ (fmod_lt _ hmp).1 (fmod_lt _ hmp).2 ⟨s * (b - a) - (a + m * (s * (b - a))).fdiv (m * p) * p, by grind⟩ ⟨-(t * (b - a)) - (a + m * (s * (b - a))).fdiv (m * p) * m, by grind⟩
theorem chinese_spec (hA : AD A (k + 3)) (a m b p : Int) (ha : 0 ≤ a ∧ a < m) (hp : 0 < p) (hb : 0 ≤ b ∧ b < p) (om : Ok3 m) (op : Ok3 p) (hg : Int.gcd m p = 1)
    (h : ∀ r : Int, 0 ≤ r → r < m * p → (∃ k, r = a + m * k) → (∃ k, r = b + p * k) → P (.tuple [.int r, .int (m * p)]) bx) : CallP c A "chinese" [.list [.tuple [.int a, .int m], .tuple [.int b, .int p]]] bx P := by
  have hm : 0 < m := by exact o134 ha.1 ha.2
  refine enterF f_chinese m_chinese b_chinese ok DD hA rfl fun A hA => ?_; dsimp only [f_chinese, r_chinese]
  (repeat' wtm_at "w")
  refine ⟨_, rfl, l_if_0 (vt_of (by (repeat' wtm_at "w")) (br_1 (l_set rfl (v_call (ds := [.tuple [.int 0, .int 1], .tuple [.int a, .int m]]) (DD.has (by kernel_rfl)) rfl rfl rfl (by (repeat' wtm_at "w")) (chinese_two_spec ok DD hA 0 1 a m (by exact o133) (by exact o132) hm (by exact o126 ha.1 ha.2) (by show (1 : Int).natAbs < 2 ^ 2500; exact Nat.lt_of_lt_of_le (by decide : (1 : Int).natAbs < 2 ^ 1) (Nat.pow_le_pow_right (by decide) (by decide))) om (by simp) fun r0 h0 h1 h2 h3 => ?_)))))⟩
  obtain ⟨k1, h3⟩ := h3
  have hr : r0 = a := by
    rw [Int.one_mul] at h1
    have h4 : r0 - a = m * k1 := by exact o131 h3
    have : k1 = 0 := by
      rcases Int.lt_trichotomy k1 0 with q | q | q
      · have : m * k1 ≤ m * (-1) := Int.mul_le_mul_of_nonneg_left (by exact o130 q) (by exact o83 h0 h1)
        exact o129 ha.2 h0 h4 this
      · exact q
      · have : m * 1 ≤ m * k1 := Int.mul_le_mul_of_nonneg_left (by exact o116 q) (by exact o83 h0 h1)
        exact o128 ha.1 h1 h3 this
    subst this
    exact o127 h4
  subst hr
  rw [Int.one_mul]
  refine l_nil (l_nil ⟨_, rfl, l_if_0 (vt_of (by (repeat' wtm_at "w")) (br_1 (l_set rfl (v_call (ds := [.tuple [.int r0, .int m], .tuple [.int b, .int p]]) (DD.has (by kernel_rfl)) rfl rfl rfl (by (repeat' wtm_at "w")) (chinese_two_spec ok DD hA r0 m b p (by exact o126 ha.1 ha.2) hm hp (by exact o126 hb.1 hb.2) om op hg fun r h0 h1 h2 h3 => ?_)))))⟩)
  refine l_nil (l_nil ?_)
  show XL _ _ _ _ _ _ _ _
  (repeat' wtm_at "w")
  exact h r h0 h1 h2 h3
end

open PySem PySem.Calls PyProof.Rows
/-! polynomials as lists of ints, the lowest first -/
noncomputable def trim : List Int → List Int
  | [] => []
  | c :: p => match trim p with
    | [] => if c = 0 then [] else [c]
    | d :: q => c :: d :: q
noncomputable def lc (p : List Int) : Int := p.getLastD 0
theorem trim_zero : ∀ p : List Int, trim (p ++ [0]) = trim p
  | [] => rfl
  | c :: p => by simp [trim, trim_zero p]
theorem trim_ne {c : Int} (h : c ≠ 0) : ∀ p : List Int, trim (p ++ [c]) = p ++ [c]
  | [] => by simp [trim, h]
  | d :: p => by
    simp only [List.cons_append, trim, trim_ne h p]
    cases p <;> rfl
theorem take_snoc {p : List Int} {k : Nat} (h : k < p.length) : p.take (k + 1) = p.take k ++ [p[k]] := by simp [List.take_append_getElem]
theorem trim_length : ∀ p : List Int, (trim p).length ≤ p.length
  | [] => Nat.le_refl _
  | c :: p => by
    have := trim_length p
    unfold trim
    split
    · split <;> simp
    · rename_i h; rw [h] at this; simp at this ⊢; exact o157 this
theorem pick_nat {xs : List Int} {k : Nat} (h : k < xs.length) : pick (xs.map .int) (k : Int) = some (.int xs[k]) := by
  unfold pick
  rw [if_pos (by exact o156 h)]
  simp [h]
theorem pick_last {xs : List Int} (h : xs ≠ []) : pick (xs.map .int) (-1) = some (.int (lc xs)) := by
  unfold pick
  have hl := List.length_pos_iff.mpr h
  rw [if_neg (by exact o155 hl), if_pos (by simp; exact o154 hl)]
  have : ((-1 : Int) + ((xs.map D.int).length : Nat)).toNat = xs.length - 1 := by simp; exact o153 hl
  rw [this]
  unfold lc
  rw [List.getLastD_eq_getLast?, List.getLast?_eq_getElem?]
  simp
  rw [List.getElem?_eq_getElem (by exact o152 hl)]
  simp
theorem upto_nat {xs : List Int} {k : Nat} : upto (xs.map .int) (k : Int) = (xs.take k).map .int := by
  unfold upto
  rw [if_pos (by exact o151)]
  simp
section
variable {c : Cx} (ok : c.Ok) (DD : Defs c) {A : Around} {k : Nat} {bx : List D} {P : D → List D → Prop}
include ok DD
theorem mtrim_spec (hA : AD A (k + 1)) (xs : List Int) (h : P (.list ((trim xs).map .int)) bx) : CallP c A "mtrim" [.list (xs.map .int)] bx P := by
  refine enterF f_mtrim m_mtrim b_mtrim ok DD hA rfl fun A hA => ?_; dsimp only [f_mtrim, r_mtrim]
  (repeat' wtm_at "w")
  refine l_while (fun (k : Nat) => k) (fun k ρ b' => b' = bx ∧ k ≤ xs.length ∧ ρ "a" = some (.list (xs.map .int)) ∧ ρ "many" = some (.int k) ∧ trim (xs.take k) = trim xs) xs.length ?_ ?_
  · exact ⟨rfl, Nat.le_refl _, rfl, by rw [← List.length_map (as := xs) D.int]; rfl, by rw [List.take_length]⟩
  rintro k ρ b' ⟨rfl, hk, h1, h2, h3⟩
  cases k with
  | zero =>
    refine vt_of (t1_and0 (p := (0 : Int) < ((0 : Nat) : Int)) (by (repeat' wtm_at "w")) (by decide)) (br_0 ?_)
    have e0 : trim xs = [] := h3.symm
    rw [e0] at h
    (repeat' wtm_at "w")
    exact h
  | succ k =>
    have e1 : ((k + 1 : Nat) : Int) - 1 = (k : Nat) := by exact o150 hk
    have e2 := pick_nat (xs := xs) (k := k) hk
    have e3 := take_snoc (p := xs) (k := k) hk
    have e4 : (0 : Int) < ((k + 1 : Nat) : Int) := by exact o149
    rw [e3] at h3
    have e5 : pick (xs.map .int) (((k + 1 : Nat) : Int) - 1) = some (.int xs[k]) := e1 ▸ e2
    refine m_test (t1_and2 (p := (0 : Int) < ((k + 1 : Nat) : Int)) (q := xs[k] = 0) (by (repeat' wtm_at "w")) fun _ => by (repeat' wtm_at "w")) (fun h0 => ?_) fun h0 => ?_
    · have h0 := h0.2
      (repeat' wtm_at "w")
      rw [h0, trim_zero] at h3
      exact ⟨k, Nat.lt_succ_self _, rfl, Nat.le_of_lt hk, h1, congrArg (fun z => some (D.int z)) e1, h3⟩
    · have h0 : xs[k] ≠ 0 := fun q => h0 ⟨e4, q⟩
      rw [trim_ne h0, ← e3] at h3
      rw [← h3, ← upto_nat] at h
      (repeat' wtm_at "w")
      exact h
theorem ztrim_spec (hA : AD A (k + 1)) (xs : List Int) (h : P (.list ((trim xs).map .int)) bx) : CallP c A "ztrim" [.list (xs.map .int)] bx P := by
  refine enterF f_ztrim m_ztrim b_ztrim ok DD hA rfl fun A hA => ?_; dsimp only [f_ztrim, r_ztrim]
  (repeat' wtm_at "w")
  refine l_while (fun (k : Nat) => k) (fun k ρ b' => b' = bx ∧ k ≤ xs.length ∧ ρ "row" = some (.list (xs.map .int)) ∧ ρ "size" = some (.int k) ∧ trim (xs.take k) = trim xs) xs.length ?_ ?_
  · exact ⟨rfl, Nat.le_refl _, rfl, by rw [← List.length_map (as := xs) D.int]; rfl, by rw [List.take_length]⟩
  rintro k ρ b' ⟨rfl, hk, h1, h2, h3⟩
  cases k with
  | zero =>
    refine vt_of (t1_and0 (p := (0 : Int) < ((0 : Nat) : Int)) (by (repeat' wtm_at "w")) (by decide)) (br_0 ?_)
    have e0 : trim xs = [] := h3.symm
    rw [e0] at h
    (repeat' wtm_at "w")
    exact h
  | succ k =>
    have e1 : ((k + 1 : Nat) : Int) - 1 = (k : Nat) := by exact o150 hk
    have e2 := pick_nat (xs := xs) (k := k) hk
    have e3 := take_snoc (p := xs) (k := k) hk
    have e4 : (0 : Int) < ((k + 1 : Nat) : Int) := by exact o149
    rw [e3] at h3
    have e5 : pick (xs.map .int) (((k + 1 : Nat) : Int) - 1) = some (.int xs[k]) := e1 ▸ e2
    refine m_test (t1_and2 (p := (0 : Int) < ((k + 1 : Nat) : Int)) (q := xs[k] = 0) (by (repeat' wtm_at "w")) fun _ => by (repeat' wtm_at "w")) (fun h0 => ?_) fun h0 => ?_
    · have h0 := h0.2
      (repeat' wtm_at "w")
      rw [h0, trim_zero] at h3
      exact ⟨k, Nat.lt_succ_self _, rfl, Nat.le_of_lt hk, h1, congrArg (fun z => some (D.int z)) e1, h3⟩
    · have h0 : xs[k] ≠ 0 := fun q => h0 ⟨e4, q⟩
      rw [trim_ne h0, ← e3] at h3
      rw [← h3, ← upto_nat] at h
      (repeat' wtm_at "w")
      exact h
theorem zlead_spec (hA : AD A (k + 1)) (xs : List Int) (h : P (.int (lc xs)) bx) : CallP c A "zlead" [.list (xs.map .int)] bx P := by
  refine enterF f_zlead m_zlead b_zlead ok DD hA rfl fun A hA => ?_; dsimp only [f_zlead, r_zlead]
  by_cases h0 : xs = []
  · subst h0
    have hl : ¬ (0 : Int) < ((([] : List Int).map D.int).length : Nat) := by decide
    (repeat' (first | ((guard_target = E1 _ _ _ _ _ _ _ _); first | (apply e_itn)) | wtm_at "w"))
    exact h
  · have hl : (0 : Int) < ((xs.map D.int).length : Nat) := by have := List.length_pos_iff.mpr h0; simp; exact o144 this
    have e := pick_last h0
    (repeat' (first | ((guard_target = E1 _ _ _ _ _ _ _ _); first | (apply e_itp)) | wtm_at "w"))
    exact h
theorem zneg_spec (hA : AD A (k + 1)) (xs : List Int) (h : P (.list ((xs.map (- ·)).map .int)) bx) : CallP c A "zneg" [.list (xs.map .int)] bx P := by
  refine enterF f_zneg m_zneg b_zneg ok DD hA rfl fun A hA => ?_; dsimp only [f_zneg, r_zneg]
  refine m_ret (e_ci rfl (fun _ _ => rfl) (by (repeat' wtm_at "w")) fun x hx => ?_) (ret h)
  (repeat' wtm_at "w")
end
noncomputable def cf (p : List Int) (n : Nat) : Int := p.getD n 0
noncomputable def addL (a b : List Int) : List Int := (List.range (max a.length b.length)).map fun i => cf a i + cf b i
theorem cf_pick {xs : List Int} {i : Nat} (h : i < xs.length) : pick (xs.map .int) (i : Int) = some (.int (cf xs i)) := by
  rw [pick_nat h]; simp [h, cf]
theorem cf_out {xs : List Int} {i : Nat} (h : xs.length ≤ i) : cf xs i = 0 := by simp [cf, h]
section
variable {c : Cx} (ok : c.Ok) (DD : Defs c) {A : Around} {k : Nat} {bx : List D} {P : D → List D → Prop}
include ok DD
theorem zadd_spec (hA : AD A (k + 2)) (a b : List Int) (ha : a.length ≤ 1000) (hb : b.length ≤ 1000) (h : P (.list ((trim (addL a b)).map .int)) bx) : CallP c A "zadd" [.list (a.map .int), .list (b.map .int)] bx P := by
  have hm : (if ((b.map D.int).length : Int) > ((a.map D.int).length : Int) then ((b.map D.int).length : Int) else ((a.map D.int).length : Int)) = ((max a.length b.length : Nat) : Int) := by
    simp only [List.length_map]; split <;> (first | exact o147 (by assumption) | exact o148 (by assumption))
  refine enterF f_zadd m_zadd b_zadd ok DD hA rfl fun A hA => ?_; dsimp only [f_zadd, r_zadd]
  refine m_set rfl (by (repeat' wtm_at "w")) ?_
  rw [hm]
  have e : (List.range (max a.length b.length)).map (fun i => D.int (cf a i + cf b i)) = (addL a b).map .int := by simp [addL]
  refine m_ret (e_call (ds := [.list ((addL a b).map .int)]) (DD.has (by kernel_rfl)) rfl rfl rfl (s1_cons (by rfl) ?_ s1_nil) (ztrim_spec ok DD hA _ ⟨rfl, rfl⟩)) (ret h)
  rw [← e]
  refine e_comp (f := fun (i : Nat) => .int (i : Int)) (g := fun i => .int (cf a i + cf b i)) rfl (fun _ _ => rfl) (i1_call rfl rfl rfl (by (repeat' wtm_at "w")) (itr_1 (u := ((max a.length b.length : Nat) : Int)) (by unfold sml lim; exact o146 ha hb))) fun i hi => k_b1 rfl ?_
  have hl : ∀ x : List Int, ((x.map D.int).length : Int) = x.length := fun x => by simp
  have key : ∀ x : List Int, (if (i : Int) < ((x.map D.int).length : Int) then cf x i else 0) = cf x i := fun x => by
    split
    · rfl
    · rename_i q; rw [hl] at q; rw [cf_out (by exact o145 q)]
  have pk : ∀ x : List Int, (i : Int) < ((x.map D.int).length : Int) → pick (x.map .int) (i : Int) = some (.int (cf x i)) := fun x q => cf_pick (by rw [hl] at q; exact o39 q)
  rw [← key a, ← key b]
  refine e_add ?_ ?_
  · refine (apply_ite D.int ((i : Int) < ((a.map D.int).length : Int)) (cf a i) 0) ▸ e_ite (by (repeat' wtm_at "w")) (fun q => ?_) fun _ => e_int
    have := pk a q
    (repeat' wtm_at "w")
  · refine (apply_ite D.int ((i : Int) < ((b.map D.int).length : Int)) (cf b i) 0) ▸ e_ite (by (repeat' wtm_at "w")) (fun q => ?_) fun _ => e_int
    have := pk b q
    (repeat' wtm_at "w")
theorem zsub_spec (hA : AD A (k + 3)) (a b : List Int) (ha : a.length ≤ 1000) (hb : b.length ≤ 1000) (h : P (.list ((trim (addL a (b.map (- ·)))).map .int)) bx) : CallP c A "zsub" [.list (a.map .int), .list (b.map .int)] bx P := by
  refine enterF f_zsub m_zsub b_zsub ok DD hA rfl fun A hA => ?_; dsimp only [f_zsub, r_zsub]
  (repeat' (first | ((guard_target = C1 _ _ _ _ _ _); first | (refine zneg_spec ok DD hA _ ⟨rfl, rfl⟩) | (refine zadd_spec ok DD hA _ _ ha (by rw [List.length_map]; exact hb) ⟨rfl, rfl⟩)) | wtm_at "w"))
  exact h
end
noncomputable def scaleL (p : List Int) (k : Int) : List Int := if k = 0 then [] else p.map (· * k)
section
variable {c : Cx} (ok : c.Ok) (DD : Defs c) {A : Around} {k : Nat} {bx : List D} {P : D → List D → Prop}
include ok DD
theorem zscale_spec (hA : AD A (k + 1)) (p : List Int) (m : Int) (hp : ∀ x ∈ p, Ok x) (hk : Ok m) (h : P (.list ((scaleL p m).map .int)) bx) : CallP c A "zscale" [.list (p.map .int), .int m] bx P := by
  refine enterF f_zscale m_zscale b_zscale ok DD hA rfl fun A hA => ?_; dsimp only [f_zscale, r_zscale]
  by_cases h0 : m = 0
  · rw [scaleL, if_pos h0] at h
    have h1 : ¬ m ≠ 0 := fun q => q h0
    (repeat' (first | ((guard_target = E1 _ _ _ _ _ _ _ _); first | (apply e_itn)) | wtm_at "w"))
    exact h
  · rw [scaleL, if_neg h0] at h
    refine m_ret (e_itp (by (repeat' wtm_at "w")) h0 (e_ci rfl (fun _ _ => rfl) (by (repeat' wtm_at "w")) fun x hx => ?_)) (ret h)
    have := mulOk (hp x hx) hk
    (repeat' wtm_at "w")
end
noncomputable def raiseL (p : List Int) (n : Nat) : List Int := if p = [] then [] else List.replicate n 0 ++ p
section
variable {c : Cx} (ok : c.Ok) (DD : Defs c) {A : Around} {k : Nat} {bx : List D} {P : D → List D → Prop}
include ok DD
theorem zraise_spec (hA : AD A (k + 1)) (p : List Int) (n : Nat) (hp : p.length ≤ 1000) (hn : n ≤ 1000) (h : P (.list ((raiseL p n).map .int)) bx) : CallP c A "zraise" [.list (p.map .int), .int n] bx P := by
  refine enterF f_zraise m_zraise b_zraise ok DD hA rfl fun A hA => ?_; dsimp only [f_zraise, r_zraise]
  by_cases h0 : p = []
  · subst h0
    have hl : ¬ (0 : Int) < ((([] : List Int).map D.int).length : Nat) := by decide
    (repeat' (first | ((guard_target = E1 _ _ _ _ _ _ _ _); first | (apply e_itn)) | wtm_at "w"))
    exact h
  · have hl : (0 : Int) < ((p.map D.int).length : Nat) := by have := List.length_pos_iff.mpr h0; simp; exact o144 this
    rw [raiseL, if_neg h0, List.map_append, List.map_replicate] at h
    refine m_ret (e_itp (by (repeat' wtm_at "w")) hl (e_cat (e_rep (by (repeat' wtm_at "w")) (by (repeat' wtm_at "w")) ?_) (by (repeat' wtm_at "w")) ?_)) (ret h)
    · unfold lim; exact o143 hn
    · simp [lim]; exact o142 hp hn
theorem zcontent_spec (hA : AD A (k + 3)) (p : List Int) (h : P (.int (gcdAll p)) bx) : CallP c A "zcontent" [.list (p.map .int)] bx P := by
  refine enterF f_zcontent m_zcontent b_zcontent ok DD hA rfl fun A hA => ?_; dsimp only [f_zcontent, r_zcontent]
  (repeat' (first | ((guard_target = C1 _ _ _ _ _ _); first | (refine gcd_all_spec ok DD hA _ ⟨rfl, rfl⟩)) | wtm_at "w"))
  exact h
theorem zdivided_spec (hA : AD A (k + 1)) (p : List Int) (m : Int) (h0 : m ≠ 0) (hk : Ok m) (h : P (.list ((p.map (·.fdiv m)).map .int)) bx) : CallP c A "zdivided" [.list (p.map .int), .int m] bx P := by
  refine enterF f_zdivided m_zdivided b_zdivided ok DD hA rfl fun A hA => ?_; dsimp only [f_zdivided, r_zdivided]
  have d0 := divOk h0 hk
  refine m_ret (e_ci rfl (fun _ _ => rfl) (by (repeat' wtm_at "w")) fun x hx => ?_) (ret h)
  (repeat' wtm_at "w")
end
noncomputable def primL (p : List Int) : List Int := if p = [] then [] else p.map (·.fdiv (if 0 < lc p then gcdAll p else -gcdAll p))
section
variable {c : Cx} (ok : c.Ok) (DD : Defs c) {A : Around} {k : Nat} {bx : List D} {P : D → List D → Prop}
include ok DD
theorem zprimitive_spec (hA : AD A (k + 4)) (p : List Int) (h0 : p ≠ [] → gcdAll p ≠ 0) (hk : Ok (gcdAll p)) (h : P (.list ((primL p).map .int)) bx) : CallP c A "zprimitive" [.list (p.map .int)] bx P := by
  refine enterF f_zprimitive m_zprimitive b_zprimitive ok DD hA rfl fun A hA => ?_; dsimp only [f_zprimitive, r_zprimitive]
  by_cases hp : p = []
  · subst hp
    refine m_if_t (t := true) (by (repeat' wtm_at "w")) rfl ?_
    (repeat' wtm_at "w")
    exact h
  · have hl : ¬ ((p.map D.int).length : Int) = 0 := by simp [hp]
    have hg := h0 hp
    have hk' : Ok (-gcdAll p) := by unfold Ok at hk ⊢; exact o141 hk
    have e := pick_last hp
    rw [primL, if_neg hp] at h
    refine m_ifn0 (by (repeat' wtm_at "w")) hl ?_
    have d : (if 0 < lc p then gcdAll p else -gcdAll p) ≠ 0 ∧ Ok (if 0 < lc p then gcdAll p else -gcdAll p) := by split <;> exact ⟨by (first | exact o139 hg | exact o140 hg), ‹_›⟩
    (repeat' (first | ((guard_target = E1 _ _ _ _ _ _ _ _); first | (apply e_iti)) | ((guard_target = C1 _ _ _ _ _ _); first | (refine zcontent_spec ok DD hA _ ⟨rfl, rfl⟩) | (refine zdivided_spec ok DD hA _ _ d.1 d.2 ⟨rfl, rfl⟩)) | wtm_at "w"))
    exact h
end
noncomputable def modL (p : List Int) (m : Int) : List Int := trim (p.map (·.fmod m))
section
variable {c : Cx} (ok : c.Ok) (DD : Defs c) {A : Around} {k : Nat} {bx : List D} {P : D → List D → Prop}
include ok DD
theorem zmod_spec (hA : AD A (k + 2)) (p : List Int) (m : Int) (h0 : m ≠ 0) (h : P (.list ((modL p m).map .int)) bx) : CallP c A "zmod" [.list (p.map .int), .int m] bx P := by
  refine enterF f_zmod m_zmod b_zmod ok DD hA rfl fun A hA => ?_; dsimp only [f_zmod, r_zmod]
  unfold modL at h
  refine m_ret (e_call (ds := [.list ((p.map (·.fmod m)).map .int)]) (DD.has (by kernel_rfl)) rfl rfl rfl (s1_cons (by rfl) ?_ s1_nil) (ztrim_spec ok DD hA _ ⟨rfl, rfl⟩)) (ret h)
  refine e_ci rfl (fun _ _ => rfl) (by (repeat' wtm_at "w")) fun x hx => ?_
  (repeat' wtm_at "w")
end


/-! plain polynomials -/
noncomputable def pe : List Int → Int → Int
  | [], _ => 0
  | c :: p, x => c + x * pe p x
noncomputable abbrev Nrm (p : List Int) : Prop := trim p = p
noncomputable def addS : List Int → List Int → List Int
  | [], q => q
  | p, [] => p
  | a :: p, b :: q => (a + b) :: addS p q
noncomputable def mulL : List Int → List Int → List Int
  | [], _ => []
  | c :: p, q => addS (q.map (c * ·)) (0 :: mulL p q)
theorem cf_nil (n : Nat) : cf [] n = 0 := by simp [cf]
theorem cf_cons_zero (c : Int) (p : List Int) : cf (c :: p) 0 = c := by simp [cf]
theorem cf_cons_succ (c : Int) (p : List Int) (n : Nat) : cf (c :: p) (n + 1) = cf p n := by simp [cf]
theorem cf_map {f : Int → Int} (h : f 0 = 0) (p : List Int) (n : Nat) : cf (p.map f) n = f (cf p n) := by
  simp only [cf, List.getD_eq_getElem?_getD, List.getElem?_map]
  cases p[n]? with
  | none => simp [h]
  | some a => simp
theorem cf_trim : ∀ (p : List Int) (n : Nat), cf (trim p) n = cf p n
  | [], n => rfl
  | c :: p, n => by
    have ih := cf_trim p
    unfold trim
    split
    · rename_i e
      rw [e] at ih
      split
      · rename_i h
        subst h
        cases n with
        | zero => simp [cf]
        | succ n => rw [cf_nil, cf_cons_succ, ← ih n, cf_nil]
      · cases n with
        | zero => simp [cf]
        | succ n => rw [cf_cons_succ, cf_cons_succ, ← ih n]
    · rename_i e
      rw [e] at ih
      cases n with
      | zero => simp [cf]
      | succ n => rw [cf_cons_succ, cf_cons_succ, ← ih n]
theorem pe_cf : ∀ {p q : List Int}, (∀ n, cf p n = cf q n) → ∀ x, pe p x = pe q x
  | [], [], _, _ => rfl
  | [], b :: q, h, x => by
    have h0 := h 0
    have ih := pe_cf (p := []) (q := q) (fun n => by have := h (n + 1); rw [cf_nil, cf_cons_succ] at this; rw [cf_nil, this]) x
    simp only [cf_nil, cf_cons_zero] at h0
    simp [pe, ← h0, ← ih]
  | a :: p, [], h, x => by
    have h0 := h 0
    have ih := pe_cf (p := p) (q := []) (fun n => by have := h (n + 1); rw [cf_nil, cf_cons_succ] at this; rw [cf_nil, this]) x
    simp only [cf_nil, cf_cons_zero] at h0
    simp [pe, h0, ih]
  | a :: p, b :: q, h, x => by
    have h0 := h 0
    have ih := pe_cf (p := p) (q := q) (fun n => by have := h (n + 1); rwa [cf_cons_succ, cf_cons_succ] at this) x
    simp only [cf_cons_zero] at h0
    simp [pe, h0, ih]
theorem pe_trim (p : List Int) (x : Int) : pe (trim p) x = pe p x := pe_cf (cf_trim p) x
theorem cf_addS : ∀ (p q : List Int) (n : Nat), cf (addS p q) n = cf p n + cf q n
  | [], q, n => by simp [addS, cf_nil]
  | a :: p, [], n => by simp [addS, cf_nil]
  | a :: p, b :: q, 0 => by simp [addS, cf_cons_zero]
  | a :: p, b :: q, n + 1 => by simp [addS, cf_cons_succ, cf_addS p q n]
theorem pe_addS : ∀ (p q : List Int) (x : Int), pe (addS p q) x = pe p x + pe q x
  | [], q, x => by simp [addS, pe]
  | a :: p, [], x => by simp [addS, pe]
  | a :: p, b :: q, x => by simp only [addS, pe, pe_addS p q x]; grind
theorem cf_addL (p q : List Int) (n : Nat) : cf (addL p q) n = cf p n + cf q n := by
  by_cases h : n < max p.length q.length
  · rw [show cf (addL p q) n = (addL p q).getD n 0 from rfl]
    unfold addL
    simp [h]
  · rw [cf_out (xs := addL p q) (by unfold addL; simp; exact o181 h), cf_out (xs := p) (by exact o180 h), cf_out (xs := q) (by exact o179 h)]; rfl
theorem pe_addL (p q : List Int) (x : Int) : pe (addL p q) x = pe p x + pe q x := by
  rw [← pe_addS]; exact pe_cf (fun n => by rw [cf_addL, cf_addS]) x
theorem pe_map_mul (k : Int) : ∀ (p : List Int) (x : Int), pe (p.map (k * ·)) x = k * pe p x
  | [], x => by simp [pe]
  | c :: p, x => by simp only [List.map_cons, pe, pe_map_mul k p x]; grind
theorem pe_map_mul' (k : Int) : ∀ (p : List Int) (x : Int), pe (p.map (· * k)) x = pe p x * k
  | [], x => by simp [pe]
  | c :: p, x => by simp only [List.map_cons, pe, pe_map_mul' k p x]; grind
theorem pe_neg : ∀ (p : List Int) (x : Int), pe (p.map (- ·)) x = - pe p x
  | [], x => by simp [pe]
  | c :: p, x => by simp only [List.map_cons, pe, pe_neg p x]; grind
theorem pe_scale (p : List Int) (k x : Int) : pe (scaleL p k) x = pe p x * k := by
  unfold scaleL
  split
  · rename_i h; subst h; simp [pe]
  · exact pe_map_mul' k p x
theorem pe_rep (p : List Int) (x : Int) : ∀ n, pe (List.replicate n 0 ++ p) x = x ^ n * pe p x
  | 0 => by simp
  | n + 1 => by simp only [List.replicate_succ, List.cons_append, pe, pe_rep p x n]; grind
theorem pe_raise (p : List Int) (n : Nat) (x : Int) : pe (raiseL p n) x = x ^ n * pe p x := by
  unfold raiseL
  split
  · rename_i h; subst h; simp [pe]
  · exact pe_rep p x n
theorem pe_mul : ∀ (p q : List Int) (x : Int), pe (mulL p q) x = pe p x * pe q x
  | [], q, x => by simp [mulL, pe]
  | c :: p, q, x => by simp only [mulL, pe_addS, pe_map_mul, pe, pe_mul p q x]; grind
/-- a polynomial that is 0 at all great places is 0 -/
theorem cf_of_zero : ∀ (p : List Int) (N : Int), (∀ x, N ≤ x → pe p x = 0) → ∀ n, cf p n = 0
  | [], _, _, n => cf_nil n
  | c :: p, N, h, n => by
    have hc : c = 0 := by
      have h1 := h (max N (c.natAbs + 1)) (by exact o178)
      simp only [pe] at h1
      generalize hX : max N ((c.natAbs : Int) + 1) = X at h1
      have hX' : (c.natAbs : Int) + 1 ≤ X := by exact o177 hX
      have hd : X ∣ c := ⟨-pe p X, by rw [Int.mul_neg]; exact o176 h1⟩
      apply Classical.byContradiction
      intro q
      have := Nat.le_of_dvd (by exact o175 q) (Int.natAbs_dvd_natAbs.mpr hd)
      exact o174 hX' this
    subst hc
    have ih := cf_of_zero p (max N 1) (fun x hx => by
      have h1 := h x (by exact o173 hx)
      simp only [pe, Int.zero_add] at h1
      rcases Int.mul_eq_zero.mp h1 with q | q
      · exact o172 hx q
      · exact q)
    cases n with
    | zero => simp [cf]
    | succ n => rw [cf_cons_succ]; exact ih n
theorem cf_of_pe {p q : List Int} (h : ∀ x, pe p x = pe q x) (n : Nat) : cf p n = cf q n := by
  have h1 := cf_of_zero (addS p (q.map (- ·))) 0 (fun x _ => by rw [pe_addS, pe_neg, h x]; exact o171 (by assumption)) n
  rw [cf_addS, cf_map (by simp)] at h1
  exact o170 h1
theorem eq_of_cf : ∀ {p q : List Int}, Nrm p → Nrm q → (∀ n, cf p n = cf q n) → p = q := by
  have key : ∀ p q : List Int, (∀ n, cf p n = cf q n) → trim p = trim q := by
    intro p
    induction p with
    | nil =>
      intro q
      induction q with
      | nil => intro _; rfl
      | cons b q ih =>
        intro h
        have h0 : b = 0 := by have := h 0; rw [cf_nil, cf_cons_zero] at this; exact this.symm
        have := ih (fun n => by have := h (n + 1); rwa [cf_cons_succ, cf_nil] at this)
        subst h0
        simp only [trim] at this ⊢
        rw [← this]; rfl
    | cons a p ih =>
      intro q h
      cases q with
      | nil =>
        have h0 : a = 0 := by have := h 0; rwa [cf_nil, cf_cons_zero] at this
        have := ih [] (fun n => by have := h (n + 1); rwa [cf_cons_succ, cf_nil] at this)
        subst h0
        simp only [trim] at this ⊢
        rw [this]; rfl
      | cons b q =>
        have h0 : a = b := by have := h 0; rwa [cf_cons_zero, cf_cons_zero] at this
        have := ih q (fun n => by have := h (n + 1); rwa [cf_cons_succ, cf_cons_succ] at this)
        subst h0
        simp only [trim, this]
  intro p q hp hq h
  rw [← hp, ← hq]
  exact key p q h
theorem eq_of_pe {p q : List Int} (hp : Nrm p) (hq : Nrm q) (h : ∀ x, pe p x = pe q x) : p = q := eq_of_cf hp hq (cf_of_pe h)
theorem trim_trim (p : List Int) : Nrm (trim p) := by
  induction p with
  | nil => rfl
  | cons c p ih =>
    unfold Nrm at ih ⊢
    cases e : trim p with
    | nil =>
      have e1 : trim (c :: p) = if c = 0 then [] else [c] := by simp only [trim, e]
      rw [e1]
      split
      · rfl
      · rename_i h; simp [trim, h]
    | cons d q =>
      have e1 : trim (c :: p) = c :: d :: q := by simp only [trim, e]
      rw [e] at ih
      rw [e1]
      show (match trim (d :: q) with | [] => if c = 0 then [] else [c] | d :: q => c :: d :: q) = _
      rw [ih]
/-! degrees -/
theorem nrm_last {p : List Int} (h : Nrm p) (h0 : p ≠ []) : cf p (p.length - 1) = lc p ∧ lc p ≠ 0 := by
  have hl := List.length_pos_iff.mpr h0
  have e1 : cf p (p.length - 1) = lc p := by
    unfold cf lc
    rw [List.getLastD_eq_getLast?, List.getLast?_eq_getElem?]
    simp
  refine ⟨e1, fun hz => ?_⟩
  have e2 : p = p.dropLast ++ [lc p] := by
    have := List.dropLast_concat_getLast h0
    have e3 : p.getLast h0 = lc p := by unfold lc; rw [List.getLastD_eq_getLast?, List.getLast?_eq_some_getLast h0]; rfl
    rw [e3] at this; exact this.symm
  have h2 := h
  unfold Nrm at h2
  rw [e2, hz, trim_zero] at h2
  have := trim_length p.dropLast
  rw [h2] at this
  simp at this
  exact o169 this
theorem nrm_of_last {p : List Int} (h : lc p ≠ 0) : Nrm p := by
  have h0 : p ≠ [] := by rintro rfl; simp [lc] at h
  have e2 : p = p.dropLast ++ [lc p] := by
    have := List.dropLast_concat_getLast h0
    have e3 : p.getLast h0 = lc p := by unfold lc; rw [List.getLastD_eq_getLast?, List.getLast?_eq_some_getLast h0]; rfl
    rw [e3] at this; exact this.symm
  unfold Nrm
  rw [e2]
  exact trim_ne h _
theorem cf_mul_out : ∀ (p q : List Int) (n : Nat), p.length + q.length ≤ n + 1 → cf (mulL p q) n = 0
  | [], q, n, h => by simp [mulL, cf_nil]
  | c :: p, q, n, h => by
    simp only [List.length_cons] at h
    simp only [mulL, cf_addS, cf_map (f := (c * ·)) (by simp)]
    rw [cf_out (xs := q) (by exact o168 h)]
    cases n with
    | zero => simp [cf_cons_zero]
    | succ n => rw [cf_cons_succ, cf_mul_out p q n (by exact o167 h)]; simp
theorem cf_mul_top : ∀ (p q : List Int) (m n : Nat), p.length = m + 1 → q.length = n + 1 → cf (mulL p q) (m + n) = cf p m * cf q n
  | [], q, m, n, h, _ => by simp at h
  | [c], q, 0, n, h, h' => by
    simp only [mulL, cf_addS, cf_map (f := (c * ·)) (by simp), cf_cons_zero, Nat.zero_add]
    cases n with
    | zero => simp [cf_cons_zero]
    | succ n => rw [cf_cons_succ, cf_nil]; simp
  | [c], q, m + 1, n, h, h' => by simp at h
  | c :: d :: p, q, 0, n, h, h' => by simp at h
  | c :: d :: p, q, m + 1, n, h, h' => by
    rw [mulL, cf_addS, cf_map (f := (c * ·)) (by simp), cf_out (xs := q) (by exact o166 h'), show m + 1 + n = (m + n) + 1 by exact o165, cf_cons_succ, cf_cons_succ, cf_mul_top (d :: p) q m n (by simpa using h) h']
    simp
/-- a product's length and lead -/
theorem mul_len {p q r : List Int} (hp : Nrm p) (hq : Nrm q) (hr : Nrm r) (p0 : p ≠ []) (q0 : q ≠ []) (h : ∀ x, pe p x * pe q x = pe r x) : r.length + 1 = p.length + q.length ∧ lc r = lc p * lc q ∧ r ≠ [] := by
  have hpl := List.length_pos_iff.mpr p0
  have hql := List.length_pos_iff.mpr q0
  have hc : ∀ n, cf r n = cf (mulL p q) n := cf_of_pe fun x => by rw [pe_mul, h x]
  have e1 := nrm_last hp p0
  have e2 := nrm_last hq q0
  have top := cf_mul_top p q (p.length - 1) (q.length - 1) (by exact o164 hpl) (by exact o164 hql)
  rw [e1.1, e2.1, ← hc] at top
  have hne : lc p * lc q ≠ 0 := Int.mul_ne_zero e1.2 e2.2
  have hlen : p.length - 1 + (q.length - 1) < r.length := by
    apply Classical.byContradiction
    intro q'
    rw [cf_out (by exact o163 q')] at top
    exact hne top.symm
  have r0 : r ≠ [] := by rintro rfl; simp at hlen
  have e3 := nrm_last hr r0
  have hle : r.length + 1 ≤ p.length + q.length := by
    apply Classical.byContradiction
    intro q'
    have := hc (r.length - 1)
    rw [e3.1, cf_mul_out p q _ (by exact o162 q')] at this
    exact e3.2 this
  refine ⟨by exact o161 hlen hle, ?_, r0⟩
  rw [← e3.1, ← top]
  congr 1
  exact o160 hlen hle
theorem pe_zero {p : List Int} (hp : Nrm p) (h : ∀ x, pe p x = 0) : p = [] := eq_of_pe hp rfl (fun x => by rw [h x]; rfl)
/-- what is left behind a division is one -/
theorem rest_unique {b r r' : List Int} {Q : List Int} (hb : Nrm b) (hr : Nrm r) (hr' : Nrm r') (h1 : r.length < b.length) (h2 : r'.length < b.length) (h : ∀ x, pe r x - pe r' x = pe Q x * pe b x) : r = r' := by
  have b0 : b ≠ [] := by rintro rfl; simp at h1
  by_cases hQ : trim Q = []
  · refine eq_of_pe hr hr' fun x => ?_
    have := h x
    rw [← pe_trim Q, hQ] at this
    simp [pe] at this
    exact o159 this
  · have hD : ∀ x, pe (trim Q) x * pe b x = pe (trim (addL r (r'.map (- ·)))) x := fun x => by
      rw [pe_trim, pe_trim, pe_addL, pe_neg, ← h x]; exact o158
    have := mul_len (trim_trim Q) hb (trim_trim _) hQ b0 hD
    have h3 := trim_length (addL r (r'.map (- ·)))
    have h4 : (addL r (r'.map (- ·))).length = max r.length r'.length := by simp [addL]
    have h5 := List.length_pos_iff.mpr hQ
    omega

open PySem PySem.Calls PyProof.Rows
/-! sizes -/
noncomputable abbrev Bn (k : Nat) (p : List Int) : Prop := ∀ n, (cf p n).natAbs < 2 ^ k
theorem Bn.mono {j k : Nat} {p : List Int} (h : Bn j p) (hjk : j ≤ k) : Bn k p := fun n => Nat.lt_of_lt_of_le (h n) (Nat.pow_le_pow_right (by decide) hjk)
theorem mem_cf {p : List Int} {x : Int} (h : x ∈ p) : ∃ n, cf p n = x := by
  obtain ⟨n, hn, rfl⟩ := List.getElem_of_mem h
  exact ⟨n, by simp [cf, hn]⟩
theorem Bn.ok {k : Nat} {p : List Int} (h : Bn k p) (hk : k ≤ 8000) : ∀ x ∈ p, Ok x := fun x hx => by
  obtain ⟨n, rfl⟩ := mem_cf hx
  exact ok_pow k hk (h n)
theorem Bn.lc {k : Nat} {p : List Int} (h : Bn k p) : (Mine.lc p).natAbs < 2 ^ k := by
  by_cases h0 : p = []
  · subst h0
    have := h 0
    rw [cf_nil] at this
    exact this
  · have e : cf p (p.length - 1) = Mine.lc p := by
      unfold cf Mine.lc
      rw [List.getLastD_eq_getLast?, List.getLast?_eq_getElem?]
      simp
    rw [← e]; exact h _
theorem Bn.ok_lc {k : Nat} {p : List Int} (h : Bn k p) (hk : k ≤ 8000) : Ok (Mine.lc p) := ok_pow k hk h.lc
theorem Bn.nil (k : Nat) : Bn k [] := fun n => by rw [cf_nil]; exact Nat.two_pow_pos k
theorem cf_scale (p : List Int) (k : Int) (n : Nat) : cf (scaleL p k) n = cf p n * k := by
  unfold scaleL
  split
  · rename_i h; subst h; simp [cf_nil]
  · exact cf_map (f := (· * k)) (by simp) p n
theorem cf_rep (p : List Int) : ∀ (m n : Nat), cf (List.replicate m 0 ++ p) n = if n < m then 0 else cf p (n - m)
  | 0, n => by simp
  | m + 1, 0 => by simp [List.replicate_succ, cf_cons_zero]
  | m + 1, n + 1 => by
    rw [List.replicate_succ, List.cons_append, cf_cons_succ, cf_rep p m n]
    simp [Nat.succ_sub_succ]
theorem cf_raise (p : List Int) (m n : Nat) : cf (raiseL p m) n = if n < m then 0 else cf p (n - m) := by
  unfold raiseL
  split
  · rename_i h; subst h; simp [cf_nil]
  · exact cf_rep p m n
theorem Bn.scale {j m : Nat} {p : List Int} {k : Int} (h : Bn j p) (hk : k.natAbs < 2 ^ m) : Bn (j + m) (scaleL p k) := fun n => by
  rw [cf_scale]; exact natAbs_mul_lt (h n) hk
theorem Bn.raise {j : Nat} {p : List Int} (h : Bn j p) (m : Nat) : Bn j (raiseL p m) := fun n => by
  rw [cf_raise]
  split
  · exact Nat.two_pow_pos j
  · exact h _
theorem Bn.sub {j : Nat} {p q : List Int} (h : Bn j p) (h' : Bn j q) : Bn (j + 1) (trim (addL p (q.map (- ·)))) := fun n => by
  rw [cf_trim, cf_addL, cf_map (by simp)]
  have := h n; have := h' n
  rw [Nat.pow_succ]
  exact o190 (by assumption) this
theorem cf_sub (p q : List Int) (n : Nat) : cf (trim (addL p (q.map (- ·)))) n = cf p n - cf q n := by
  rw [cf_trim, cf_addL, cf_map (by simp)]; exact o189
theorem pe_sub (p q : List Int) (x : Int) : pe (trim (addL p (q.map (- ·)))) x = pe p x - pe q x := by
  rw [pe_trim, pe_addL, pe_neg]; exact o189
theorem length_le_of_cf {p : List Int} {m : Nat} (hp : Nrm p) (h : ∀ n, m ≤ n → cf p n = 0) : p.length ≤ m := by
  apply Classical.byContradiction
  intro q
  have h0 : p ≠ [] := by rintro rfl; simp at q
  have := nrm_last hp h0
  exact this.2 (this.1 ▸ h _ (by exact o188 q))
theorem length_scale (p : List Int) (k : Int) : (scaleL p k).length ≤ p.length := by
  unfold scaleL; split <;> simp
theorem length_raise (p : List Int) (n : Nat) : (raiseL p n).length ≤ p.length + n := by
  unfold raiseL; split
  · rename_i h; subst h; simp
  · simp; exact o187
theorem nrm_scale {p : List Int} (hp : Nrm p) {k : Int} : Nrm (scaleL p k) := by
  by_cases h : k = 0
  · unfold scaleL; rw [if_pos h]; rfl
  by_cases h0 : p = []
  · subst h0; unfold scaleL; rw [if_neg h]; rfl
  · refine nrm_of_last ?_
    have := (nrm_last hp h0)
    have e : lc (scaleL p k) = lc p * k := by
      have e1 : scaleL p k = p.map (· * k) := by unfold scaleL; rw [if_neg h]
      rw [e1]
      unfold lc
      rw [List.getLastD_eq_getLast?, List.getLastD_eq_getLast?, List.getLast?_map]
      cases p.getLast? <;> simp
    rw [e]
    exact Int.mul_ne_zero this.2 h
theorem lc_scale (p : List Int) {k : Int} (h : k ≠ 0) : lc (scaleL p k) = lc p * k := by
  have e1 : scaleL p k = p.map (· * k) := by unfold scaleL; rw [if_neg h]
  rw [e1]
  unfold lc
  rw [List.getLastD_eq_getLast?, List.getLastD_eq_getLast?, List.getLast?_map]
  cases p.getLast? <;> simp
theorem scale_length (p : List Int) {k : Int} (h : k ≠ 0) : (scaleL p k).length = p.length := by
  unfold scaleL; rw [if_neg h]; simp
/-- one step of a division: the top goes -/
theorem step_len {R b : List Int} {v : Int} {n m : Nat} (hR : R.length ≤ m + 1) (hb : b.length + n = m + 1) (hb0 : b ≠ []) (hc : cf R m = lc b * v) : (trim (addL R ((raiseL (scaleL b v) n).map (- ·)))).length ≤ m := by
  refine length_le_of_cf (trim_trim _) fun i hi => ?_
  rw [cf_sub, cf_raise, cf_scale]
  have hl := List.length_pos_iff.mpr hb0
  by_cases q : i = m
  · subst q
    rw [if_neg (by exact o186 hl hb), hc]
    have e : cf b (i - n) = lc b := by
      have e : cf b (b.length - 1) = lc b := by
        unfold cf Mine.lc
        rw [List.getLastD_eq_getLast?, List.getLast?_eq_getElem?]
        simp
      rw [← e]; congr 1; exact o185 hb
    rw [e]; exact o184
  · rw [cf_out (xs := R) (by exact o183 hR hi q)]
    split
    · rfl
    · rw [cf_out (xs := b) (by exact o182 hb hi q)]; simp
section
variable {c : Cx} (ok : c.Ok) (DD : Defs c) {A : Around} {k : Nat} {bx : List D} {P : D → List D → Prop}
include ok DD
theorem check_bottom_spec (hA : AD A (k + 1)) (p : List Int) (h0 : p ≠ []) (h : P .none bx) : CallP c A "check_bottom" [.list (p.map .int)] bx P := by
  have hl : ¬ ((p.map D.int).length : Int) = 0 := by simp [h0]
  refine enterF f_check_bottom m_check_bottom b_check_bottom ok DD hA rfl fun A hA => ?_; dsimp only [f_check_bottom, r_check_bottom]
  refine m_ifn0 (by (repeat' wtm_at "w")) hl ?_
  (repeat' wtm_at "w")
  exact h
end

open PySem PySem.Calls PyProof.Rows
theorem cf_last {p : List Int} : cf p (p.length - 1) = lc p := by
  unfold cf Mine.lc
  rw [List.getLastD_eq_getLast?, List.getLast?_eq_getElem?]
  simp
theorem one_bn {x : Int} {k : Nat} (h : x.natAbs < 2 ^ k) : Bn k [x] := fun n => by
  cases n with
  | zero => rw [cf_cons_zero]; exact h
  | succ n => rw [cf_cons_succ, cf_nil]; exact Nat.two_pow_pos k
structure PsI (a b : List Int) (k j : Nat) (R F : List Int) : Prop where
  nr : Nrm R
  len : R.length + j ≤ a.length
  bn : Bn (k + j * (k + 1)) R
  fl : F.length ≤ a.length
  fb : Bn (k + j * (k + 1)) F
  id : ∃ Q, ∀ x, lc b ^ j * pe a x = pe Q x * pe b x + pe R x
theorem PsI.less {a b : List Int} {R : List Int} (b0 : b ≠ []) (hl : b.length ≤ R.length) :
    (trim (addL (scaleL R (lc b)) ((raiseL (scaleL b (lc R)) (R.length - b.length)).map (- ·)))).length < R.length := by
  have hbl := List.length_pos_iff.mpr b0
  have := step_len (R := scaleL R (lc b)) (b := b) (v := lc R) (n := R.length - b.length) (m := R.length - 1) (Nat.le_trans (length_scale _ _) (by exact o229)) (by exact o228 hl hbl) b0 (by rw [cf_scale, cf_last, Int.mul_comm])
  exact o231 hl hbl this
theorem PsI.step {a b : List Int} {k j : Nat} {R F : List Int} (hb : Nrm b) (b0 : b ≠ []) (bb : Bn k b) (h : PsI a b k j R F) (hl : b.length ≤ R.length) :
    PsI a b k (j + 1) (trim (addL (scaleL R (lc b)) ((raiseL (scaleL b (lc R)) (R.length - b.length)).map (- ·)))) (trim (addL (scaleL F (lc b)) ((raiseL [- lc R] (R.length - b.length)).map (- ·)))) := by
  have hbl := List.length_pos_iff.mpr b0
  have e : k + (j + 1) * (k + 1) = (k + j * (k + 1) + k) + 1 := by rw [Nat.succ_mul]; exact o230
  have hlr := h.bn.lc
  refine ⟨trim_trim _, ?_, ?_, ?_, ?_, ?_⟩
  · have := step_len (R := scaleL R (lc b)) (b := b) (v := lc R) (n := R.length - b.length) (m := R.length - 1) (Nat.le_trans (length_scale _ _) (by exact o229)) (by exact o228 hl hbl) b0 (by rw [cf_scale, cf_last, Int.mul_comm])
    have := h.len
    exact o227 hl hbl (by assumption) this
  · rw [e]
    refine Bn.sub (h.bn.scale bb.lc) (Bn.raise ?_ _)
    rw [Nat.add_comm]; exact bb.scale hlr
  · refine Nat.le_trans (trim_length _) ?_
    have := length_scale F (lc b); have := length_raise [- lc R] (R.length - b.length); have := h.fl; have := h.len
    simp only [addL, List.length_map, List.length_range, List.length_cons, List.length_nil] at *
    exact o226 hl hbl (by assumption) (by assumption) (by assumption) this
  · rw [e]
    refine Bn.sub (h.fb.scale bb.lc) (Bn.raise (Bn.mono (one_bn (k := k + j * (k + 1)) (by rw [Int.natAbs_neg]; exact hlr)) (by exact o225)) _)
  · obtain ⟨Q, hQ⟩ := h.id
    refine ⟨addL (scaleL Q (lc b)) (raiseL [lc R] (R.length - b.length)), fun x => ?_⟩
    rw [pe_sub, pe_scale, pe_raise, pe_scale, pe_addL, pe_scale, pe_raise, Int.pow_succ]
    have := hQ x
    simp only [pe]
    grind
theorem powOk_of {x : Int} {k n : Nat} (hx : x.natAbs < 2 ^ k) (hk : k ≤ 8000) (hn : n ≤ 100) : PowOk x (n : Int) := by
  refine ⟨by exact o151, ?_⟩
  have := bits_of (ok_pow k hk hx)
  have h1 : ((Builtin.Int.intBits x : Nat) : Int) * (n : Int) ≤ 8000 * 100 := Int.mul_le_mul (by exact o224 this) (by exact o223 hn) (by exact o151) (by exact o222)
  exact o221 h1
theorem natAbs_pow_lt {x : Int} {k : Nat} (hx : x.natAbs < 2 ^ k) : ∀ n : Nat, (x ^ n).natAbs < 2 ^ (n * k + 1)
  | 0 => by simp
  | n + 1 => by
    have := natAbs_mul_lt (natAbs_pow_lt hx n) hx
    rw [Int.pow_succ, Nat.succ_mul]
    rw [show n * k + k + 1 = n * k + 1 + k by exact o220]
    exact this
section
variable {c : Cx} (ok : c.Ok) (DD : Defs c) {A : Around} {e : Nat} {bx : List D} {P : D → List D → Prop}
include ok DD
theorem pseudo_spec (hA : AD A (e + 4)) (a b : List Int) (k : Nat) (ha : Nrm a) (hb : Nrm b) (b0 : b ≠ []) (la : a.length ≤ 5) (lb : b.length ≤ 5) (hk : k ≤ 600) (ba : Bn k a) (bb : Bn k b)
    (h : ∀ f r : List Int, Nrm r → r.length < b.length → Bn (k + 5 * (k + 1) + 1) r → (∃ Q, ∀ x, lc b ^ (a.length + 1 - b.length) * pe a x = pe Q x * pe b x + pe r x) → P (.tuple [.list (f.map .int), .list (r.map .int), .int ((a.length + 1 - b.length : Nat) : Int)]) bx) :
    CallP c A "pseudo" [.list (a.map .int), .list (b.map .int)] bx P := by
  have hlen : ∀ x : List Int, ((x.map D.int).length : Int) = x.length := fun x => by simp
  have hm : (if (((a.map D.int).length : Int) - ((b.map D.int).length : Int) + 1) > 0 then (((a.map D.int).length : Int) - ((b.map D.int).length : Int) + 1) else 0) = ((a.length + 1 - b.length : Nat) : Int) := by
    rw [hlen, hlen]; split <;> (first | exact o218 (by assumption) | exact o219 (by assumption))
  have hlb := nrm_last hb b0
  have hbl := List.length_pos_iff.mpr b0
  refine enterF f_pseudo m_pseudo b_pseudo ok DD hA rfl fun A hA => ?_; dsimp only [f_pseudo, r_pseudo]
  refine m_do (by (repeat' (first | ((guard_target = C1 _ _ _ _ _ _); first | (refine check_bottom_spec ok DD hA _ b0 ⟨rfl, rfl⟩)) | wtm_at "w"))) (m_set rfl (by (repeat' wtm_at "w")) ?_)
  rw [hm]
  refine m_tup4 rfl (by (repeat' (first | ((guard_target = C1 _ _ _ _ _ _); first | (refine zlead_spec ok DD hA _ ⟨rfl, rfl⟩)) | wtm_at "w"))) ?_
  refine l_while (fun (R : List Int) => R.length) (fun R ρ b' => b' = bx ∧ ∃ (j : Nat) (F : List Int), PsI a b k j R F ∧ j ≤ a.length + 1 - b.length ∧ ρ "b" = some (.list (b.map .int)) ∧ ρ "rest" = some (.list (R.map .int)) ∧ ρ "found" = some (.list (F.map .int)) ∧
    ρ "left" = some (.int ((a.length + 1 - b.length : Nat) - (j : Nat) : Int)) ∧ ρ "first" = some (.int (lc b)) ∧ ρ "many" = some (.int ((a.length + 1 - b.length : Nat) : Int))) a ?_ ?_
  · exact ⟨rfl, 0, [], ⟨ha, by exact o217, ba.mono (by exact o216), Nat.zero_le _, Bn.nil _, [], fun x => by simp [pe]⟩, by exact o215, rfl, rfl, rfl, congrArg (fun z => some (D.int z)) (Int.sub_zero _).symm, rfl, rfl⟩
  rintro R ρ b' ⟨rfl, j, F, hI, hj, h1, h2, h3, h4, h5, h6⟩
  have jk : k + j * (k + 1) ≤ 600 + 5 * 601 := by
    have : j * (k + 1) ≤ 5 * 601 := Nat.mul_le_mul (by have := hI.len; exact o214 la this) (by exact o213 hk)
    exact o212 hk this
  refine m_test (by (repeat' wtm_at "w")) (fun hl => ?_) fun hl => ?_ <;> rw [hlen, hlen] at hl
  · have hl : b.length ≤ R.length := by exact o211 hl
    have R0 : R ≠ [] := by rintro rfl; simp at hl; exact b0 hl
    have hs := hI.step hb b0 bb hl
    have e1 : ((R.map D.int).length : Int) - ((b.map D.int).length : Int) = ((R.length - b.length : Nat) : Int) := by rw [hlen, hlen]; exact o210 hl
    have o1 : Ok (lc b) := bb.ok_lc (by exact o201 jk)
    have o2 : Ok (lc R) := hI.bn.ok_lc (by exact o194 jk)
    have hrl := hI.len
    have pl := pick_last R0
    have hfl := hI.fl
    refine m_tup2 rfl (by (repeat' wtm_at "w")) ?_
    rw [e1]
    refine m_set rfl (by (repeat' (first | ((guard_target = C1 _ _ _ _ _ _); first | (refine zscale_spec ok DD hA _ _ (hI.fb.ok (by exact o194 jk)) o1 ⟨rfl, rfl⟩) | (refine zraise_spec ok DD hA [- lc R] _ (by simp) (by omega) ⟨rfl, rfl⟩) | (refine zsub_spec ok DD hA _ _ (Nat.le_trans (length_scale _ _) (by exact o209 la hfl)) (Nat.le_trans (length_raise _ _) (by simp; exact o208 la hrl)) ⟨rfl, rfl⟩)) | wtm_at "w"))) ?_
    refine m_set rfl (by (repeat' (first | ((guard_target = C1 _ _ _ _ _ _); first | (refine zscale_spec ok DD hA R _ (hI.bn.ok (by exact o194 jk)) o1 ⟨rfl, rfl⟩) | (refine zscale_spec ok DD hA b _ (bb.ok (by exact o201 jk)) o2 ⟨rfl, rfl⟩) | (refine zraise_spec ok DD hA _ _ (Nat.le_trans (length_scale _ _) (by omega)) (by exact o207 la hrl) ⟨rfl, rfl⟩) | (refine zsub_spec ok DD hA _ _ (Nat.le_trans (length_scale _ _) (by exact o206 la hrl)) (Nat.le_trans (length_raise _ _) (by have := length_scale b (lc R); exact o205 la lb hrl this)) ⟨rfl, rfl⟩)) | wtm_at "w"))) ?_
    (repeat' wtm_at "w")
    exact ⟨_, PsI.less (a := a) b0 hl, rfl, j + 1, _, hs, by exact o204 hl hrl, h1, rfl, rfl, congrArg (fun z => some (D.int z)) (by exact o203), h5, h6⟩
  · have hsub : ((a.length + 1 - b.length : Nat) : Int) - (j : Nat) = ((a.length + 1 - b.length - j : Nat) : Int) := by exact o202 hj
    rw [hsub] at h4
    generalize hM : a.length + 1 - b.length = M at *
    have p0 := powOk_of (x := lc b) (k := k) (n := M - j) bb.lc (by exact o201 jk) (by exact o200 la hM)
    have pl := natAbs_pow_lt (x := lc b) bb.lc (M - j)
    have q1 : (M - j) * k ≤ 5 * 600 := Nat.mul_le_mul (by exact o199 la hl hM) hk
    have q2 : (M - j) * k ≤ (M - j) * (k + 1) := Nat.mul_le_mul_left _ (by exact o198)
    have q3 : j * (k + 1) + (M - j) * (k + 1) = M * (k + 1) := by rw [← Nat.add_mul]; congr 1; exact o197 hsub
    have q4 : M * (k + 1) ≤ 5 * (k + 1) := Nat.mul_le_mul_right _ (by exact o196 la hl hM)
    have om : Ok (lc b ^ (M - j)) := ok_pow _ (by exact o195 q1) pl
    refine m_set rfl (e_pow (by (repeat' wtm_at "w")) (by (repeat' wtm_at "w")) p0) ?_
    (repeat' (first | ((guard_target = C1 _ _ _ _ _ _); first | (refine zscale_spec ok DD hA F _ (hI.fb.ok (by exact o194 jk)) om ⟨rfl, rfl⟩) | (refine zscale_spec ok DD hA R _ (hI.bn.ok (by exact o194 jk)) om ⟨rfl, rfl⟩)) | wtm_at "w"))
    refine h _ _ (nrm_scale hI.nr) (Nat.lt_of_le_of_lt (length_scale _ _) (by exact o193 hl)) ((hI.bn.scale pl).mono (by exact o192 q2 q3 q4)) ?_
    obtain ⟨Q, hQ⟩ := hI.id
    refine ⟨scaleL Q (lc b ^ (M - j)), fun x => ?_⟩
    rw [pe_scale, Int.toNat_natCast, pe_scale, show M = j + (M - j) by exact o191 hsub, Int.pow_add]
    have := hQ x
    simp only [Nat.add_sub_cancel_left]
    grind
theorem zpseudo_spec (hA : AD A (e + 5)) (a b : List Int) (k : Nat) (ha : Nrm a) (hb : Nrm b) (b0 : b ≠ []) (la : a.length ≤ 5) (lb : b.length ≤ 5) (hk : k ≤ 600) (ba : Bn k a) (bb : Bn k b)
    (h : ∀ r : List Int, Nrm r → r.length < b.length → Bn (k + 5 * (k + 1) + 1) r → (∃ Q, ∀ x, lc b ^ (a.length + 1 - b.length) * pe a x = pe Q x * pe b x + pe r x) → P (.list (r.map .int)) bx) :
    CallP c A "zpseudo_rest" [.list (a.map .int), .list (b.map .int)] bx P := by
  refine enterF f_zpseudo_rest m_zpseudo_rest b_zpseudo_rest ok DD hA rfl fun A hA => ?_; dsimp only [f_zpseudo_rest, r_zpseudo_rest]
  refine l_ret (r_sub rfl (b_ev (v_call (ds := [.list (a.map .int), .list (b.map .int)]) (DD.has (by kernel_rfl)) rfl rfl rfl (by (repeat' wtm_at "w")) (pseudo_spec ok DD hA a b k ha hb b0 la lb hk ba bb fun f r n1 n2 n3 n4 => v_of e_int ⟨_, rfl, _, rfl, h r n1 n2 n3 n4⟩))))
end

open PySem PySem.Calls PyProof.Rows
theorem putAt_nat {xs : List Int} {i : Nat} {v : Int} (h : i < xs.length) : putAt (xs.map .int) (i : Int) (.int v) = some ((xs.set i v).map .int) := by
  unfold putAt
  rw [if_pos (by simp; exact o255 h)]
  simp [List.map_set]
theorem pe_set (v x : Int) : ∀ (F : List Int) (i : Nat), i < F.length → pe (F.set i v) x = pe F x + (v - cf F i) * x ^ i
  | [], i, h => by simp at h
  | c :: F, 0, h => by simp [pe, cf_cons_zero]; exact o254 h
  | c :: F, i + 1, h => by
    rw [List.set_cons_succ, pe, pe_set v x F i (by simpa using h), pe, cf_cons_succ, Int.pow_succ]
    grind
theorem cf_set (v : Int) : ∀ (F : List Int) (i n : Nat), i < F.length → cf (F.set i v) n = if n = i then v else cf F n
  | [], i, n, h => by simp at h
  | c :: F, 0, 0, h => by simp [cf_cons_zero]
  | c :: F, 0, n + 1, h => by simp [cf_cons_succ]
  | c :: F, i + 1, 0, h => by simp [cf_cons_zero]
  | c :: F, i + 1, n + 1, h => by
    rw [List.set_cons_succ, cf_cons_succ, cf_cons_succ, cf_set v F i n (by simpa using h)]
    simp
theorem cf_zeros (m n : Nat) : cf (List.replicate m 0) n = 0 := by
  simp [cf, List.getD_eq_getElem?_getD, List.getElem?_replicate]
  split <;> rfl
theorem pe_zeros (m : Nat) (x : Int) : pe (List.replicate m 0) x = 0 := by
  rw [pe_cf (q := []) (fun n => by rw [cf_zeros, cf_nil])]; rfl
structure ExI (a b : List Int) (k kb j : Nat) (R F : List Int) : Prop where
  nr : Nrm R
  len : R.length + j ≤ a.length
  bn : Bn (k + j * (kb + 1)) R
  fl : F.length = a.length + 1 - b.length
  z : ∀ i, i + b.length ≤ R.length → cf F i = 0
  id : ∀ x, pe a x = pe F x * pe b x + pe R x
theorem ExI.step {a b : List Int} {k kb j : Nat} {R F : List Int} {t : Int} (hb : Nrm b) (b0 : b ≠ []) (bb : Bn kb b) (h : ExI a b k kb j R F) (hl : b.length ≤ R.length) (ht : lc R = t * lc b) :
    ExI a b k kb (j + 1) (trim (addL R ((raiseL (scaleL b t) (R.length - b.length)).map (- ·)))) (F.set (R.length - b.length) t) ∧
      (trim (addL R ((raiseL (scaleL b t) (R.length - b.length)).map (- ·)))).length < R.length := by
  have hbl := List.length_pos_iff.mpr b0
  have e : k + (j + 1) * (kb + 1) = (k + j * (kb + 1) + kb) + 1 := by rw [Nat.succ_mul]; exact o253
  have hlb := nrm_last hb b0
  have htb : t.natAbs < 2 ^ (k + j * (kb + 1)) := by
    have h1 := h.bn.lc
    rw [ht, Int.natAbs_mul] at h1
    have h2 : t.natAbs * 1 ≤ t.natAbs * (lc b).natAbs := Nat.mul_le_mul_left _ (by exact o240 hlb.2)
    exact o239 h1 h2
  have sl := step_len (R := R) (b := b) (v := t) (n := R.length - b.length) (m := R.length - 1) (by exact o229) (by exact o228 hl hbl) b0 (by rw [cf_last, ht, Int.mul_comm])
  have hlen := h.len
  have hfl := h.fl
  have hi : R.length - b.length < F.length := by exact o252 hl hlen hfl
  refine ⟨⟨trim_trim _, by exact o227 hl hbl sl hlen, ?_, by rw [List.length_set]; exact hfl, fun i hi' => ?_, fun x => ?_⟩, by exact o231 hl hbl sl⟩
  · rw [e]
    refine Bn.sub (h.bn.mono (by exact o251)) (Bn.raise ?_ _)
    rw [Nat.add_comm]; exact bb.scale htb
  · rw [cf_set _ _ _ _ hi, if_neg (by exact o250 hbl sl hi')]
    exact h.z i (by exact o249 sl hi')
  · rw [pe_sub, pe_raise, pe_scale, pe_set _ _ _ _ hi, h.z _ (by exact o248 hl)]
    have := h.id x
    grind
theorem ExI.divides {a b : List Int} {k kb j : Nat} {R F q : List Int} (hb : Nrm b) (b0 : b ≠ []) (h : ExI a b k kb j R F) (R0 : R ≠ []) (hq : ∀ x, pe a x = pe q x * pe b x) : b.length ≤ R.length ∧ ∃ t, lc R = t * lc b := by
  have hD : ∀ x, pe (trim (addL q (F.map (- ·)))) x * pe b x = pe R x := fun x => by
    rw [pe_sub]
    have := h.id x; have := hq x
    grind
  by_cases z : trim (addL q (F.map (- ·))) = []
  · exfalso
    refine R0 (pe_zero h.nr fun x => ?_)
    rw [← hD x, z]; simp [pe]
  · have := mul_len (trim_trim _) hb h.nr z b0 hD
    have h5 := List.length_pos_iff.mpr z
    exact ⟨by exact o247 this.1 h5, _, this.2.1⟩
section
variable {c : Cx} (ok : c.Ok) (DD : Defs c) {A : Around} {e : Nat} {bx : List D} {P : D → List D → Prop}
include ok DD
theorem zexact_spec (hA : AD A (e + 4)) (a b : List Int) (k kb : Nat) (ha : Nrm a) (hb : Nrm b) (b0 : b ≠ []) (la : a.length ≤ 8) (lb : b.length ≤ 8) (hk : k ≤ 850) (hkb : kb ≤ 850) (ba : Bn k a) (bb : Bn kb b)
    (h1 : ∀ q, Nrm q → (∀ x, pe a x = pe q x * pe b x) → P (.list (q.map .int)) bx) (h2 : (¬ ∃ q, ∀ x, pe a x = pe q x * pe b x) → P .none bx) :
    CallP c A "zexact" [.list (a.map .int), .list (b.map .int)] bx P := by
  have hlen : ∀ x : List Int, ((x.map D.int).length : Int) = x.length := fun x => by simp
  have hm : (if (((a.map D.int).length : Int) - ((b.map D.int).length : Int) + 1) > 0 then (((a.map D.int).length : Int) - ((b.map D.int).length : Int) + 1) else 0) = ((a.length + 1 - b.length : Nat) : Int) := by
    rw [hlen, hlen]; split <;> (first | exact o218 (by assumption) | exact o219 (by assumption))
  have hlb := nrm_last hb b0
  have hbl := List.length_pos_iff.mpr b0
  refine enterF f_zexact m_zexact b_zexact ok DD hA rfl fun A hA => ?_; dsimp only [f_zexact, r_zexact]
  refine m_do (by (repeat' (first | ((guard_target = C1 _ _ _ _ _ _); first | (refine check_bottom_spec ok DD hA _ b0 ⟨rfl, rfl⟩)) | wtm_at "w"))) (m_tup2 rfl (p1_cons (by rfl) (by (repeat' wtm_at "w")) rfl (p1_cons (by rfl) (e_repn (by (repeat' wtm_at "w")) (by (repeat' wtm_at "w")) hm (by unfold lim; exact o246 la)) rfl p1_nil)) ?_)
  refine l_while (fun (R : List Int) => R.length) (fun R ρ b' => b' = bx ∧ ∃ (j : Nat) (F : List Int), ExI a b k kb j R F ∧ ρ "b" = some (.list (b.map .int)) ∧ ρ "rest" = some (.list (R.map .int)) ∧ ρ "found" = some (.list (F.map .int))) a ?_ ?_
  · exact ⟨rfl, 0, List.replicate (a.length + 1 - b.length) 0, ⟨ha, by exact o217, ba.mono (by exact o245), List.length_replicate .., fun i _ => cf_zeros _ _, fun x => by rw [pe_zeros]; exact o244⟩, rfl, rfl, rfl⟩
  rintro R ρ b' ⟨rfl, j, F, hI, g1, g2, g3⟩
  have hrl := hI.len
  have jk : k + j * (kb + 1) ≤ 850 + 8 * 851 := by
    have : j * (kb + 1) ≤ 8 * 851 := Nat.mul_le_mul (by exact o243 la hrl) (by exact o242 hkb)
    exact o241 hk this
  refine m_test (by (repeat' wtm_at "w")) (fun hl => ?_) fun hl => ?_ <;> rw [hlen, hlen] at hl
  · have hl : b.length ≤ R.length := by exact o211 hl
    have R0 : R ≠ [] := by rintro rfl; simp at hl; exact b0 hl
    have e1 : ((R.map D.int).length : Int) - ((b.map D.int).length : Int) = ((R.length - b.length : Nat) : Int) := by rw [hlen, hlen]; exact o210 hl
    have pR := pick_last R0
    have pb := pick_last b0
    have n0 := hlb.2
    refine m_if0 (by (repeat' wtm_at "w")) (fun hmod => ?_) fun hmod => ?_
    · (repeat' wtm_at "w")
      refine h2 fun ⟨q, hq⟩ => ?_
      obtain ⟨_, t, ht⟩ := hI.divides hb b0 R0 hq
      exact hmod (Int.fmod_eq_zero_of_dvd ⟨t, by rw [ht, Int.mul_comm]⟩)
    · have hmod := Decidable.of_not_not hmod
      obtain ⟨t, ht⟩ : ∃ t, lc R = t * lc b := by
        obtain ⟨t, ht⟩ := Int.dvd_of_fmod_eq_zero hmod
        exact ⟨t, by rw [ht, Int.mul_comm]⟩
      have hdiv : (lc R).fdiv (lc b) = t := by rw [ht]; exact Int.mul_fdiv_cancel _ hlb.2
      have hs := hI.step hb b0 bb hl ht
      have o1 : Ok (lc b) := bb.ok_lc (by exact o236 hkb)
      have htb : t.natAbs < 2 ^ (k + j * (kb + 1)) := by
        have h1 := hI.bn.lc
        rw [ht, Int.natAbs_mul] at h1
        have h2 : t.natAbs * 1 ≤ t.natAbs * (lc b).natAbs := Nat.mul_le_mul_left _ (by exact o240 n0)
        exact o239 h1 h2
      have o2 : Ok t := ok_pow _ (by exact o238 jk) htb
      have d1 := divOk hlb.2 o1
      have pa := putAt_nat (xs := F) (i := R.length - b.length) (v := t) (by have := hI.fl; exact o237 hrl (by assumption) this)
      refine m_tup2 rfl (by (repeat' wtm_at "w")) ?_
      rw [hdiv, e1]
      refine m_put g3 rfl (by (repeat' wtm_at "w")) (by (repeat' wtm_at "w")) pa ?_
      (repeat' (first | ((guard_target = C1 _ _ _ _ _ _); first | (refine zscale_spec ok DD hA b _ (bb.ok (by exact o236 hkb)) o2 ⟨rfl, rfl⟩) | (refine zraise_spec ok DD hA _ _ (Nat.le_trans (length_scale _ _) (by omega)) (by exact o235 la hrl) ⟨rfl, rfl⟩) | (refine zsub_spec ok DD hA _ _ (by exact o234 la hrl) (Nat.le_trans (length_raise _ _) (by have := length_scale b t; exact o233 la lb hrl this)) ⟨rfl, rfl⟩)) | wtm_at "w"))
      exact ⟨_, hs.2, rfl, j + 1, _, hs.1, g1, rfl, rfl⟩
  · have hl' : ¬ b.length ≤ R.length := by exact o232 hl
    by_cases R0 : R = []
    · subst R0
      have z0 : ((([] : List Int).map D.int).length : Int) = 0 := rfl
      (repeat' (first | ((guard_target = E1 _ _ _ _ _ _ _ _); first | (apply e_itp)) | ((guard_target = C1 _ _ _ _ _ _); first | (refine ztrim_spec ok DD hA _ ⟨rfl, rfl⟩)) | wtm_at "w"))
      refine h1 _ (trim_trim _) fun x => ?_
      have := hI.id x
      simp [pe] at this
      rw [pe_trim]; exact this
    · have z0 : ¬ ((R.map D.int).length : Int) = 0 := by simp [R0]
      (repeat' (first | ((guard_target = E1 _ _ _ _ _ _ _ _); first | (apply e_itn)) | wtm_at "w"))
      exact h2 fun ⟨q, hq⟩ => hl' (hI.divides hb b0 R0 hq).1
theorem zdivides_spec (hA : AD A (e + 5)) (a b : List Int) (k kb : Nat) (ha : Nrm a) (hb : Nrm b) (b0 : b ≠ []) (la : a.length ≤ 8) (lb : b.length ≤ 8) (hk : k ≤ 850) (hkb : kb ≤ 850) (ba : Bn k a) (bb : Bn kb b)
    (h : ∀ t : Bool, (t = true ↔ ∃ q, Nrm q ∧ ∀ x, pe a x = pe q x * pe b x) → P (.bool t) bx) : CallP c A "zdivides" [.list (b.map .int), .list (a.map .int)] bx P := by
  refine enterF f_zdivides m_zdivides b_zdivides ok DD hA rfl fun A hA => ?_; dsimp only [f_zdivides, r_zdivides]
  refine l_ret (r_cmp rfl (b_ev (v_call (ds := [.list (a.map .int), .list (b.map .int)]) (DD.has (by kernel_rfl)) rfl rfl rfl (by (repeat' wtm_at "w")) (zexact_spec ok DD hA a b k kb ha hb b0 la lb hk hkb ba bb (fun q h1 h2 => vb_of (b1_e e_none) ⟨_, cmp_isn, ?_⟩) fun h2 => vb_of (b1_e e_none) ⟨_, cmp_isn, ?_⟩))))
  · exact h true ⟨fun _ => ⟨q, h1, h2⟩, fun _ => rfl⟩
  · exact h false ⟨nofun, fun ⟨q, _, hq⟩ => (h2 ⟨q, hq⟩).elim⟩
theorem is_common_spec (hA : AD A (e + 6)) (c' a b : List Int) (k kc : Nat) (ha : Nrm a) (hb : Nrm b) (hc : Nrm c') (c0 : c' ≠ []) (la : a.length ≤ 8) (lb : b.length ≤ 8) (lcl : c'.length ≤ 8) (hk : k ≤ 850) (hkc : kc ≤ 850) (ba : Bn k a) (bb : Bn k b) (bc : Bn kc c')
    (h : ∀ t : Bool, (t = true ↔ (∃ q, Nrm q ∧ ∀ x, pe a x = pe q x * pe c' x) ∧ ∃ q, Nrm q ∧ ∀ x, pe b x = pe q x * pe c' x) → P (.bool t) bx) : CallP c A "is_common" [.list (c'.map .int), .list (a.map .int), .list (b.map .int)] bx P := by
  refine enterF f_is_common m_is_common b_is_common ok DD hA rfl fun A hA => ?_; dsimp only [f_is_common, r_is_common]
  refine l_ret (r_and (a_cons (v_call (ds := [.list (c'.map .int), .list (a.map .int)]) (DD.has (by kernel_rfl)) rfl rfl rfl (by (repeat' wtm_at "w")) (zdivides_spec ok DD hA a c' k kc ha hc c0 la lcl hk hkc ba bc fun t1 g1 => ⟨_, rfl, fun q => a_one (v_call (ds := [.list (c'.map .int), .list (b.map .int)]) (DD.has (by kernel_rfl)) rfl rfl rfl (by (repeat' wtm_at "w")) (zdivides_spec ok DD hA b c' k kc hb hc c0 lb lcl hk hkc bb bc fun t2 g2 => ⟨_, rfl, ?_⟩)), fun q => ?_⟩))))
  · exact h _ ⟨fun q2 => ⟨g1.mp q, g2.mp q2⟩, fun q2 => g2.mpr q2.2⟩
  · exact h _ ⟨nofun, fun q2 => (by rw [g1.mpr q2.1] at q; cases q)⟩
end

open PySem PySem.Calls PyProof.Rows
/-! polynomials modulo a prime -/
noncomputable def Cg (p : Int) (f g : Int → Int) : Prop := ∃ W, ∀ x, f x = g x + p * pe W x
noncomputable abbrev Red (p : Int) (a : List Int) : Prop := ∀ n, 0 ≤ cf a n ∧ cf a n < p
theorem Cg.of_eq {p : Int} {f g : Int → Int} (h : ∀ x, f x = g x) : Cg p f g := ⟨[], fun x => by rw [h x]; simp [pe]⟩
theorem Cg.symm {p : Int} {f g : Int → Int} (h : Cg p f g) : Cg p g f := let ⟨W, hW⟩ := h; ⟨W.map (- ·), fun x => by rw [pe_neg]; have := hW x; grind⟩
theorem Cg.trans {p : Int} {f g k : Int → Int} (h : Cg p f g) (h' : Cg p g k) : Cg p f k := let ⟨W, hW⟩ := h; let ⟨V, hV⟩ := h'; ⟨addL W V, fun x => by rw [pe_addL, hW x, hV x]; grind⟩
theorem Cg.cf {p : Int} {a b : List Int} (h : Cg p (pe a) (pe b)) (n : Nat) : ∃ w, Mine.cf a n = Mine.cf b n + p * w := by
  obtain ⟨W, hW⟩ := h
  refine ⟨Mine.cf W n, ?_⟩
  have := cf_of_pe (p := a) (q := addS b (W.map (p * ·))) (fun x => by rw [pe_addS, pe_map_mul, hW x]) n
  rw [this, cf_addS, cf_map (by simp)]
theorem fmod_eq (a p : Int) : a = a.fmod p + p * a.fdiv p := by have := Int.fmod_add_fdiv_mul a p; grind
theorem cg_fmod (p : Int) (f : Int → Int) (h0 : f 0 = 0) (a : List Int) : Cg p (pe (a.map f)) (pe (a.map fun x => (f x).fmod p)) := by
  refine ⟨a.map fun x => (f x).fdiv p, fun x => ?_⟩
  induction a with
  | nil => simp [pe]
  | cons c a ih =>
    simp only [List.map_cons, pe, ih]
    have := fmod_eq (f c) p
    grind
theorem red_trim {p : Int} {a : List Int} (h : Red p a) : Red p (trim a) := fun n => by rw [cf_trim]; exact h n
theorem red_map {p : Int} (hp : 0 < p) (f : Int → Int) (h0 : f 0 = 0) (a : List Int) : Red p (a.map fun x => (f x).fmod p) := fun n => by
  rw [cf_map (f := fun x => (f x).fmod p) (by simp [h0])]
  exact fmod_lt _ hp
/-- reduced and congruent is equal -/
theorem red_eq {p x y w : Int} (hx : 0 ≤ x ∧ x < p) (hy : 0 ≤ y ∧ y < p) (h : x = y + p * w) : x = y := by
  have : w = 0 := by
    rcases Int.lt_trichotomy w 0 with q | q | q
    · have : p * w ≤ p * (-1) := Int.mul_le_mul_of_nonneg_left (by exact o130 q) (by exact o83 hx.1 hx.2)
      exact o271 hx.1 hy.2 h this
    · exact q
    · have : p * 1 ≤ p * w := Int.mul_le_mul_of_nonneg_left (by exact o116 q) (by exact o83 hx.1 hx.2)
      exact o270 hx.2 hy.1 h this
  subst this
  exact o269 h
theorem red_ok {p : Int} {a : List Int} (h : Red p a) (hp : p < 2 ^ 20) : ∀ x ∈ a, 0 ≤ x ∧ x < 2 ^ 20 := fun x hx => by
  obtain ⟨n, rfl⟩ := mem_cf hx
  have := h n; exact o268 hp this.1 this.2
noncomputable def mscaleL (a : List Int) (k p : Int) : List Int := trim (a.map fun x => (x * k).fmod p)
section
variable {c : Cx} (ok : c.Ok) (DD : Defs c) {A : Around} {e : Nat} {bx : List D} {P : D → List D → Prop}
include ok DD
theorem mscale_spec (hA : AD A (e + 2)) (a : List Int) (k p : Int) (hp : 0 < p) (ha : ∀ x ∈ a, Ok x) (hk : Ok k) (h : P (.list ((mscaleL a k p).map .int)) bx) : CallP c A "mscale" [.list (a.map .int), .int k, .int p] bx P := by
  have p0 : p ≠ 0 := by exact o122 hp
  refine enterF f_mscale m_mscale b_mscale ok DD hA rfl fun A hA => ?_; dsimp only [f_mscale, r_mscale]
  unfold mscaleL at h
  refine m_ret (e_call (ds := [.list ((a.map fun x => (x * k).fmod p).map .int)]) (DD.has (by kernel_rfl)) rfl rfl rfl (s1_cons (by rfl) ?_ s1_nil) (mtrim_spec ok DD hA _ ⟨rfl, rfl⟩)) (ret h)
  refine e_ci rfl (fun _ _ => rfl) (by (repeat' wtm_at "w")) fun x hx => ?_
  have := mulOk (ha x hx) hk
  (repeat' wtm_at "w")
end
theorem mscale_cg (a : List Int) (k p : Int) : Cg p (pe (mscaleL a k p)) (fun x => k * pe a x) := by
  refine Cg.trans (Cg.of_eq (pe_trim _)) (Cg.trans (cg_fmod p (· * k) (by simp) a).symm (Cg.of_eq fun x => by rw [pe_map_mul']; grind))
theorem mscale_red {p : Int} (hp : 0 < p) (a : List Int) (k : Int) : Red p (mscaleL a k p) := red_trim (red_map hp (· * k) (by simp) a)
theorem gcd_prime {p a : Int} (hp : PrimeI p) (h0 : 0 < a) (h1 : a < p) : Int.gcd a p = 1 := by
  have hd := Int.gcd_dvd_left a p
  have hd' := Int.gcd_dvd_right a p
  have hpos : 0 < Int.gcd a p := Int.gcd_pos_of_ne_zero_left _ (by exact o122 h0)
  have hle : (Int.gcd a p : Int) ≤ a := Int.le_of_dvd h0 hd
  apply Classical.byContradiction
  intro q
  exact hp.2 (Int.gcd a p) (by exact o267 hpos q) (by exact o266 h1 hle) hd'
section
variable {c : Cx} (ok : c.Ok) (DD : Defs c) {A : Around} {e : Nat} {bx : List D} {P : D → List D → Prop}
include ok DD
theorem inv_spec (hA : AD A (e + 2)) (a p : Int) (hp : PrimeI p) (hs : p < 2 ^ 20) (h0 : 0 < a) (h1 : a < p) (h : ∀ u : Int, 0 ≤ u → u < p → (∃ k, u * a = 1 + k * p) → P (.int u) bx) : CallP c A "inverse_mod" [.int a, .int p] bx P := by
  have := hp.1
  exact inverse_none_or ok DD hA a p (by exact o100 h0) (by exact o262 this) (ok_pow 30 (by decide) (by exact o265 hs this)) (gcd_prime hp h0 h1) h
end
theorem bez (m n : Nat) : ∃ s t : Int, s * m + t * n = Nat.gcd m n := by
  induction m, n using Nat.gcd.induction with
  | H0 n => exact ⟨0, 1, by simp⟩
  | H1 m n h ih =>
    obtain ⟨s, t, e⟩ := ih
    refine ⟨t - s * ((n / m : Nat) : Int), s, ?_⟩
    rw [Nat.gcd_rec m n, ← e]
    have h1 : ((n % m : Nat) : Int) + (m : Int) * ((n / m : Nat) : Int) = n := by rw [← Int.natCast_mul, ← Int.natCast_add, Nat.mod_add_div]
    rw [← h1]
    grind
theorem inv_ex (a p : Int) (hp : PrimeI p) (h0 : 0 < a) (h1 : a < p) : ∃ u : Int, 0 ≤ u ∧ u < p ∧ ∃ k, u * a = 1 + k * p := by
  have hp2 := hp.1
  have hg := gcd_prime hp h0 h1
  obtain ⟨s, t, e⟩ := bez a.toNat p.toNat
  have ea : (a.toNat : Int) = a := by exact o264 h0
  have ep : (p.toNat : Int) = p := by exact o263 hp2
  have eg : Nat.gcd a.toNat p.toNat = 1 := by rw [← hg, ← Int.gcd_natCast_natCast, ea, ep]
  rw [ea, ep, eg] at e
  refine ⟨s.fmod p, (fmod_lt s (by exact o262 hp2)).1, (fmod_lt s (by exact o262 hp2)).2, - t - s.fdiv p * a, ?_⟩
  have e1 := Int.fmod_add_fdiv_mul s p
  have e2 : s.fmod p = s - s.fdiv p * p := by exact o81 e1
  rw [e2]
  grind
/-- a monic image -/
structure MonI (p : Int) (a d : List Int) : Prop where
  n : Nrm d
  r : Red p d
  l : d.length = a.length
  m : a ≠ [] → lc d = 1 ∧ (∃ u : Int, Cg p (pe d) (fun x => u * pe a x)) ∧ ∃ v : Int, Cg p (pe a) (fun x => v * pe d x)
theorem monI (a : List Int) (p u : Int) (hp : PrimeI p) (ha : Nrm a) (hr : Red p a) (h : a ≠ []) (hk : ∃ k, u * lc a = 1 + k * p) : MonI p a (mscaleL a u p) := by
  have hp2 := hp.1
  have hl := List.length_pos_iff.mpr h
  have hla := nrm_last ha h
  obtain ⟨k, hk⟩ := hk
  have hcg := mscale_cg a u p
  have hred := mscale_red (p := p) (by exact o262 hp2) a u
  have hcf : ∀ n, cf (mscaleL a u p) n = (cf a n * u).fmod p := fun n => by
    unfold mscaleL
    rw [cf_trim, cf_map (f := fun x => (x * u).fmod p) (by simp)]
  have h1 : cf (mscaleL a u p) (a.length - 1) = 1 := by
    rw [hcf, hla.1]
    have e2 : lc a * u = 1 + k * p := by rw [Int.mul_comm]; exact hk
    have e3 := fmod_eq (lc a * u) p
    exact red_eq (fmod_lt _ (by exact o262 hp2)) (by exact o261 hp2) (w := k - (lc a * u).fdiv p) (by grind)
  have hlen : (mscaleL a u p).length = a.length := by
    have h2 : (mscaleL a u p).length ≤ a.length := length_le_of_cf (trim_trim _) fun n hn => by rw [hcf, cf_out hn]; simp
    have h3 : a.length - 1 < (mscaleL a u p).length := by
      apply Classical.byContradiction
      intro q
      rw [cf_out (by exact o260 q)] at h1
      exact o259 h1
    exact o258 h2 h3
  refine ⟨trim_trim _, hred, hlen, fun _ => ⟨?_, ⟨u, hcg⟩, lc a, ?_⟩⟩
  · rw [← cf_last, hlen]; exact h1
  · obtain ⟨W, hW⟩ := hcg
    refine ⟨addL (a.map ((-k) * ·)) (W.map ((-lc a) * ·)), fun x => ?_⟩
    have := hW x
    rw [pe_addL, pe_map_mul, pe_map_mul]
    dsimp only at this ⊢
    grind
section
variable {c : Cx} (ok : c.Ok) (DD : Defs c) {A : Around} {e : Nat} {bx : List D} {P : D → List D → Prop}
include ok DD
theorem mmonic_spec (hA : AD A (e + 3)) (a : List Int) (p : Int) (hp : PrimeI p) (hs : p < 2 ^ 20) (ha : Nrm a) (hr : Red p a) (h : ∀ d : List Int, MonI p a d → P (.list (d.map .int)) bx) : CallP c A "mmonic" [.list (a.map .int), .int p] bx P := by
  have hp2 := hp.1
  refine enterF f_mmonic m_mmonic b_mmonic ok DD hA rfl fun A hA => ?_; dsimp only [f_mmonic, r_mmonic]
  by_cases h0 : a = []
  · subst h0
    have hl : ¬ (0 : Int) < ((([] : List Int).map D.int).length : Nat) := by decide
    (repeat' (first | ((guard_target = E1 _ _ _ _ _ _ _ _); first | (apply e_itn)) | wtm_at "w"))
    exact h [] ⟨rfl, hr, rfl, fun h => absurd rfl h⟩
  · have hl : (0 : Int) < ((a.map D.int).length : Nat) := by have := List.length_pos_iff.mpr h0; simp; exact o144 this
    have hla := nrm_last ha h0
    have hrl : 0 ≤ lc a ∧ lc a < p := hla.1 ▸ hr _
    have pl := pick_last h0
    refine l_ret (r_ite (vt_of (by (repeat' wtm_at "w")) (br_dt hl (r_call (DD.has (by kernel_rfl)) rfl rfl rfl (s_cons (by rfl) (v_of (by (repeat' wtm_at "w")) (s_cons (by rfl) (v_call (ds := [.int (lc a), .int p]) (DD.has (by kernel_rfl)) rfl rfl rfl (by (repeat' wtm_at "w")) (inv_spec ok DD hA (lc a) p hp hs (by exact o113 hla.2 hrl.1) hrl.2 fun u u0 u1 hk => vs_of (ds := [.int p]) (by (repeat' wtm_at "w"))
      (mscale_spec ok DD hA a u p (by exact o134 hrl.1 hrl.2) (fun x hx => ok_pow 30 (by decide) (by have := red_ok hr hs x hx; exact o257 this.1 this.2)) (ok_pow 30 (by decide) (by exact o256 hs u0 u1)) (h _ (monI a p u hp ha hr h0 hk))))))))))))
end

open PySem PySem.Calls PyProof.Rows
noncomputable def desc (m : Nat) : List D := (List.range m).map fun (i : Nat) => .int ((m : Int) - 1 - (i : Int))
theorem desc_succ (m : Nat) : desc (m + 1) = .int m :: desc m := by
  unfold desc
  rw [List.range_succ_eq_map]
  simp only [List.map_cons, List.map_map]
  congr 1
  · congr 1; exact o314
  · refine List.map_congr_left fun i _ => ?_
    simp only [Function.comp]
    congr 1; omega
/-- the row after the inner turns up to s -/
structure InI (b R R' : List Int) (at_ s : Nat) (v p : Int) : Prop where
  len : R'.length = R.length
  co : ∀ i, cf R' i = if at_ ≤ i ∧ i < at_ + s then (cf R i - v * cf b (i - at_)).fmod p else cf R i
structure MdI (a b : List Int) (p : Int) (m : Nat) (R : List Int) : Prop where
  len : R.length = a.length
  red : Red p R
  top : ∀ i, m + b.length ≤ i + 1 → cf R i = 0
  cg : ∃ Q, Cg p (pe a) (fun x => pe Q x * pe b x + pe R x)
theorem cg_of_cf {p : Int} {a b : List Int} (h : ∀ n, ∃ w, cf a n = cf b n + p * w) : Cg p (pe a) (pe b) := by
  let f : Nat → Int := fun n => Classical.choose (h n)
  have hf : ∀ n, cf a n = cf b n + p * f n := fun n => Classical.choose_spec (h n)
  let N := max a.length b.length
  refine ⟨(List.range N).map f, fun x => ?_⟩
  rw [pe_cf (p := a) (q := addS b (((List.range N).map f).map (p * ·))) (fun n => ?_) x, pe_addS, pe_map_mul]
  rw [cf_addS, cf_map (by simp)]
  by_cases hn : n < N
  · rw [hf n]
    congr 2
    unfold cf
    simp [hn]
  · rw [cf_out (xs := a) (by omega), cf_out (xs := b) (by omega), cf_out (xs := (List.range N).map f) (by simp; exact o279 hn)]
    simp
theorem MdI.step {a b : List Int} {p u v : Int} {m : Nat} {R R' : List Int} (hp : 0 < p) (hb : Nrm b) (b0 : b ≠ []) (h : MdI a b p (m + 1) R) (hu : ∃ k, u * lc b = 1 + k * p)
    (hv : v = (cf R (m + b.length - 1) * u).fmod p) (hI : InI b R R' m b.length v p ∨ (v = 0 ∧ R' = R)) : MdI a b p m R' := by
  have hbl := List.length_pos_iff.mpr b0
  obtain ⟨k, hk⟩ := hu
  have e1 := fmod_eq (cf R (m + b.length - 1) * u) p
  rw [← hv] at e1
  rcases hI with hI | ⟨hv0, rfl⟩
  · have hcf : ∀ i, ∃ w, cf R' i = (cf R i - v * (if i < m then 0 else cf b (i - m))) + p * w := fun i => by
      rw [hI.co i]
      by_cases q1 : i < m
      · rw [if_neg (by exact o313 q1), if_pos q1]; exact ⟨0, by exact o309⟩
      · rw [if_neg q1]
        by_cases q2 : i < m + b.length
        · rw [if_pos (by exact o312 q1 q2)]
          have := fmod_eq (cf R i - v * cf b (i - m)) p
          exact ⟨-(cf R i - v * cf b (i - m)).fdiv p, by grind⟩
        · rw [if_neg (by exact o311 q2), cf_out (xs := b) (by exact o310 q2)]; exact ⟨0, by exact o309⟩
    refine ⟨hI.len.trans h.len, fun i => ?_, fun i hi => ?_, ?_⟩
    · rw [hI.co i]
      split
      · exact fmod_lt _ hp
      · exact h.red i
    · by_cases q : i = m + b.length - 1
      · subst q
        rw [hI.co, if_pos (by exact o308 hbl)]
        have e2 : cf b (m + b.length - 1 - m) = lc b := by rw [← cf_last (p := b)]; congr 1; exact o307
        rw [e2]
        generalize cf R (m + b.length - 1) = t at *
        have e3 := fmod_eq (t - v * lc b) p
        exact red_eq (fmod_lt _ hp) ⟨by exact o305, hp⟩ (w := t.fdiv p * 0 - t * k + (t * u).fdiv p * lc b - (t - v * lc b).fdiv p) (by grind)
      · rw [hI.co, if_neg (by exact o306 hi q)]
        exact h.top i (by exact o304 hi q)
    · obtain ⟨Q, hQ⟩ := h.cg
      have c1 : Cg p (pe R') (pe (trim (addL R ((raiseL (scaleL b v) m).map (- ·))))) := cg_of_cf fun n => by
        obtain ⟨w, hw⟩ := hcf n
        refine ⟨w, ?_⟩
        rw [hw, cf_sub, cf_raise, cf_scale]
        split <;> grind
      obtain ⟨V, hV⟩ := hQ
      obtain ⟨W, hW⟩ := c1
      refine ⟨addL Q (raiseL [v] m), addL V (W.map (- ·)), fun x => ?_⟩
      have h1 := hV x
      have h2 := hW x
      rw [pe_sub, pe_raise, pe_scale] at h2
      dsimp only at h1 ⊢
      rw [pe_addL, pe_addL, pe_neg, pe_raise]
      simp only [pe]
      grind
  · refine ⟨h.len, h.red, fun i hi => ?_, h.cg⟩
    by_cases q : i = m + b.length - 1
    · subst q
      generalize ht : cf R' (m + b.length - 1) = t at *
      have := h.red (m + b.length - 1)
      rw [ht] at this
      exact red_eq this ⟨by exact o305, hp⟩ (w := (t * u).fdiv p * lc b - t * k) (by grind)
    · exact h.top i (by exact o304 hi q)
theorem tups_drop (b : List Int) (s : Nat) (h : s < b.length) : tupsFrom s ((b.drop s).map D.int) = .tuple [.int s, .int (cf b s)] :: tupsFrom (s + 1) ((b.drop (s + 1)).map .int) := by
  have e : b.drop s = b[s] :: b.drop (s + 1) := List.drop_eq_getElem_cons h
  have e2 : cf b s = b[s] := by simp [cf, h]
  rw [e, List.map_cons, tupsFrom, e2]
theorem tups_end (b : List Int) (s : Nat) (h : b.length ≤ s) : tupsFrom s ((b.drop s).map D.int) = [] := by
  rw [List.drop_eq_nil_of_le h]; rfl
theorem InI.step {b R R' : List Int} {m s : Nat} {v p : Int} (h : InI b R R' m s v p) (hs : m + s < R.length) : InI b R (R'.set (m + s) ((cf R' (m + s) - v * cf b s).fmod p)) m (s + 1) v p := by
  refine ⟨by rw [List.length_set]; exact h.len, fun i => ?_⟩
  rw [cf_set _ _ _ _ (by rw [h.len]; exact hs)]
  by_cases q : i = m + s
  · subst q
    rw [if_pos rfl, if_pos (by exact o303 hs), h.co, if_neg (by exact o302 hs)]
    congr 3; congr 1; exact o301 hs
  · rw [if_neg q, h.co]
    by_cases q2 : m ≤ i ∧ i < m + s
    · rw [if_pos q2, if_pos (by exact o300 q2.1 q2.2)]
    · rw [if_neg q2, if_neg (by exact o299 q q2)]
section
variable {c : Cx} (ok : c.Ok) (DD : Defs c) {A : Around} {e : Nat} {bx : List D} {P : D → List D → Prop}
include ok DD
theorem mdivmod_spec (hA : AD A (e + 3)) (a b : List Int) (p : Int) (hp : PrimeI p) (hs : p < 2 ^ 20) (hb : Nrm b) (b0 : b ≠ []) (ra : Red p a) (rb : Red p b) (la : a.length ≤ 100) (lb : b.length ≤ 100)
    (h : ∀ q r : List Int, Nrm r → Red p r → r.length < b.length → (∃ Q, Cg p (pe a) (fun x => pe Q x * pe b x + pe r x)) → P (.tuple [.list (q.map .int), .list (r.map .int)]) bx) : CallP c A "mdivmod" [.list (a.map .int), .list (b.map .int), .int p] bx P := by
  have hp2 := hp.1
  have p0 : p ≠ 0 := by exact o298 hp2
  have hbl := List.length_pos_iff.mpr b0
  have hlb := nrm_last hb b0
  have hrl : 0 ≤ lc b ∧ lc b < p := hlb.1 ▸ rb _
  have hlen : ∀ x : List Int, ((x.map D.int).length : Int) = x.length := fun x => by simp
  have mk : ∀ x y : Int, 0 ≤ x → x < 2 ^ 20 → 0 ≤ y → y < 2 ^ 20 → MulOk x y := fun x y h1 h2 h3 h4 => mulOk (ok_pow 30 (by decide) (by exact o257 h1 h2)) (ok_pow 30 (by decide) (by exact o257 h3 h4))
  have hm : (if (((a.map D.int).length : Int) - ((b.map D.int).length : Int) + 1) > 0 then (((a.map D.int).length : Int) - ((b.map D.int).length : Int) + 1) else 0) = ((a.length + 1 - b.length : Nat) : Int) := by
    rw [hlen, hlen]; split <;> (first | exact o218 (by assumption) | exact o219 (by assumption))
  have pb := pick_last b0
  refine enterF f_mdivmod m_mdivmod b_mdivmod ok DD hA rfl fun A hA => ?_; dsimp only [f_mdivmod, r_mdivmod]
  refine m_tup2 rfl (p1_cons (by rfl) (by (repeat' wtm_at "w")) rfl (p1_cons (by rfl) (e_repn (by (repeat' wtm_at "w")) (by (repeat' wtm_at "w")) hm (by unfold lim; exact o297 la)) rfl p1_nil)) ?_
  refine l_set rfl (v_call (ds := [.int (lc b), .int p]) (DD.has (by kernel_rfl)) rfl rfl rfl (by (repeat' wtm_at "w")) (inv_spec ok DD hA (lc b) p hp hs (by exact o113 hlb.2 hrl.1) hrl.2 fun u u0 u1 hu => ?_))
  refine m_for rfl (fun _ _ => rfl) (i1_call rfl rfl rfl (by (repeat' wtm_at "w")) (itr_3 (u := ((a.map D.int).length : Int) - ((b.map D.int).length : Int)) (v := -1) (by rw [hlen, hlen]; exact ⟨by unfold sml lim; exact o296 la lb, by unfold sml lim; exact o295, by unfold lim; exact o294 la⟩))) ?_
  have hd : (List.range (((a.map D.int).length : Int) - ((b.map D.int).length : Int) - -1).toNat).map (fun (i : Nat) => D.int (((a.map D.int).length : Int) - ((b.map D.int).length : Int) - (i : Int))) = desc (a.length + 1 - b.length) := by
    unfold desc
    rw [hlen, hlen, show ((a.length : Int) - (b.length : Int) - -1).toNat = a.length + 1 - b.length by exact o293]
    refine List.map_congr_left fun i hi => ?_
    have := List.mem_range.mp hi
    congr 1; exact o292 this
  rw [hd]
  refine fg (fun ds ρ b' => b' = bx ∧ ∃ (m : Nat) (R q : List Int), ds = desc m ∧ MdI a b p m R ∧ m ≤ a.length + 1 - b.length ∧ q.length = a.length + 1 - b.length ∧ ρ "b" = some (.list (b.map .int)) ∧ ρ "p" = some (.int p) ∧
    ρ "turn" = some (.int u) ∧ ρ "rest" = some (.list (R.map .int)) ∧ ρ "quotient" = some (.list (q.map .int))) ?_ ?_ ?_
  rotate_right
  · exact ⟨rfl, _, a, List.replicate (a.length + 1 - b.length) 0, rfl, ⟨rfl, ra, fun i hi => cf_out (by exact o291 hi), [], [], fun x => by simp [pe]⟩, Nat.le_refl _, List.length_replicate .., rfl, rfl, rfl, rfl, rfl⟩
  · rintro x ds ρ b' ⟨rfl, m, R, q, hds, hI, hm, hq, h1, h2, h3, h4, h5⟩
    cases m with
    | zero => cases hds
    | succ m =>
      rw [desc_succ] at hds
      cases hds
      have hRl := hI.len
      have e1 : (m : Int) + ((b.map D.int).length : Int) - 1 = ((m + b.length - 1 : Nat) : Int) := by rw [hlen]; exact o290 hbl
      have e2 : pick (R.map .int) ((m : Int) + ((b.map D.int).length : Int) - 1) = _ := e1 ▸ cf_pick (xs := R) (i := m + b.length - 1) (by exact o289 hbl hm hRl)
      have hr0 := hI.red (m + b.length - 1)
      have e3 := mk (cf R (m + b.length - 1)) u (by exact o283 hr0.1) (by exact o282 hs hr0.2) (by exact o283 u0) (by exact o282 hs u1)
      have e4 := putAt_nat (xs := q) (i := m) (v := (cf R (m + b.length - 1) * u).fmod p) (by exact o288 hq hm)
      have hf := fmod_lt (cf R (m + b.length - 1) * u) (y := p) (by exact o134 u0 u1)
      refine k_b1 rfl (m_set rfl (by (repeat' wtm_at "w")) ?_)
      generalize hv : (cf R (m + b.length - 1) * u).fmod p = v at *
      refine m_put h5 rfl (by (repeat' wtm_at "w")) (by (repeat' wtm_at "w")) e4 ?_
      by_cases v0 : v = 0
      · subst v0
        refine m_ifn0 (p := (0 : Int) ≠ 0) (by (repeat' wtm_at "w")) (fun q => q rfl) (l_nil ?_)
        exact ⟨rfl, m, R, q.set m 0, rfl, hI.step (by exact o287 hf.2) hb b0 hu hv.symm (.inr ⟨rfl, rfl⟩), by exact o277 hm, by rw [List.length_set]; exact hq, h1, h2, h3, h4, rfl⟩
      · refine m_ifp (by (repeat' wtm_at "w")) v0 (m_for rfl (fun _ _ => rfl) (by (repeat' wtm_at "w")) ?_)
        refine fg (fun ds ρ b'' => b'' = b' ∧ ∃ (s : Nat) (R' : List Int), ds = tupsFrom s ((b.drop s).map .int) ∧ s ≤ b.length ∧ InI b R R' m s v p ∧ (∀ i, 0 ≤ cf R' i ∧ cf R' i < p) ∧ ρ "b" = some (.list (b.map .int)) ∧ ρ "p" = some (.int p) ∧
          ρ "turn" = some (.int u) ∧ ρ "at" = some (.int m) ∧ ρ "number" = some (.int v) ∧ ρ "rest" = some (.list (R'.map .int)) ∧ ρ "quotient" = some (.list ((q.set m v).map .int))) ?_ ?_ ?_
        rotate_right
        · exact ⟨rfl, 0, R, rfl, by exact o286, ⟨rfl, fun i => by rw [if_neg (by exact o285)]⟩, hI.red, h1, h2, h3, rfl, rfl, h4, rfl⟩
        · rintro x ds ρ' b'' ⟨rfl, s, R', hds, hsl, hN, hred, g1, g2, g3, g4, g5, g6, g7⟩
          by_cases hlt : s < b.length
          · rw [tups_drop b s hlt] at hds
            cases hds
            have f1 : (m : Int) + (s : Int) = ((m + s : Nat) : Int) := by exact o284
            have f2 : pick (R'.map .int) ((m : Int) + (s : Int)) = _ := f1 ▸ cf_pick (xs := R') (i := m + s) (by rw [hN.len]; exact o280 hm hRl hlt)
            have f3 := mk v (cf b s) (by exact o283 hf.1) (by exact o282 hs hf.2) (rb s).1 (by have := rb s; exact o282 hs this.2)
            have f4 : putAt (R'.map .int) ((m : Int) + (s : Int)) _ = _ := f1 ▸ putAt_nat (xs := R') (i := m + s) (v := (cf R' (m + s) - v * cf b s).fmod p) (by rw [hN.len]; exact o280 hm hRl hlt)
            have hN' := hN.step (by exact o280 hm hRl hlt)
            refine k_b2 rfl (m_put g6 rfl (by (repeat' wtm_at "w")) (by (repeat' wtm_at "w")) f4 (l_nil ?_))
            refine ⟨rfl, s + 1, _, rfl, by exact o281 hlt, hN', fun i => ?_, g1, g2, g3, g4, g5, rfl, g7⟩
            rw [cf_set _ _ _ _ (by rw [hN.len]; exact o280 hm hRl hlt)]
            split
            · exact fmod_lt _ (by exact o134 hf.1 hf.2)
            · exact hred i
          · rw [tups_end b s (by exact o279 hlt)] at hds; cases hds
        · rintro ρ' b'' ⟨rfl, s, R', hds, hsl, hN, hred, g1, g2, g3, g4, g5, g6, g7⟩
          have hs' : s = b.length := by
            apply Classical.byContradiction; intro q'
            rw [tups_drop b s (by exact o278 hsl q')] at hds; cases hds
          subst hs'
          refine l_nil (l_nil ?_)
          exact ⟨rfl, m, R', q.set m v, rfl, hI.step (by exact o134 hf.1 hf.2) hb b0 hu hv.symm (.inl hN), by exact o277 hm, by rw [List.length_set]; exact hq, g1, g2, g3, g6, g7⟩
  · rintro ρ b' ⟨rfl, m, R, q, hds, hI, hm, hq, h1, h2, h3, h4, h5⟩
    cases m with
    | succ m => rw [desc_succ] at hds; cases hds
    | zero =>
      have hup : upto (R.map .int) (((b.map D.int).length : Int) - 1) = (R.take (b.length - 1)).map .int := by
        rw [hlen, show ((b.length : Int) - 1) = ((b.length - 1 : Nat) : Int) by exact o276 hbl, upto_nat]
      (repeat' (first | ((guard_target = C1 _ _ _ _ _ _); first | (refine mtrim_spec ok DD hA _ ⟨rfl, rfl⟩)) | ((guard_target = C1 _ _ _ _ _ _); rw [hup]; exact mtrim_spec ok DD hA _ ⟨rfl, rfl⟩) | wtm_at "w"))
      refine h _ _ (trim_trim _) (fun n => ?_) ?_ ?_
      · rw [cf_trim]
        by_cases q1 : n < b.length - 1
        · have : cf (R.take (b.length - 1)) n = cf R n := by simp [cf, List.getElem?_take, q1]
          rw [this]; exact hI.red n
        · rw [cf_out (by simp; exact o272 q1)]; exact o275 hrl.1 hrl.2
      · have := trim_length (R.take (b.length - 1))
        simp at this
        exact o274 hbl this
      · obtain ⟨Q, hQ⟩ := hI.cg
        refine ⟨Q, Cg.trans hQ (Cg.of_eq fun x => ?_)⟩
        rw [pe_trim, pe_cf (p := R) (q := R.take (b.length - 1)) fun n => ?_]
        by_cases q1 : n < b.length - 1
        · simp [cf, List.getElem?_take, q1]
        · rw [hI.top n (by exact o273 q1), cf_out (xs := R.take _) (by simp; exact o272 q1)]
end

open PySem PySem.Calls PyProof.Rows
section
variable {c : Cx} (ok : c.Ok) (DD : Defs c) {A : Around} {e : Nat} {bx : List D} {P : D → List D → Prop}
include ok DD
theorem mrest_spec (hA : AD A (e + 4)) (a b : List Int) (p : Int) (hp : PrimeI p) (hs : p < 2 ^ 20) (hb : Nrm b) (b0 : b ≠ []) (ra : Red p a) (rb : Red p b) (la : a.length ≤ 100) (lb : b.length ≤ 100)
    (h : ∀ r : List Int, Nrm r → Red p r → r.length < b.length → (∃ Q, Cg p (pe a) (fun x => pe Q x * pe b x + pe r x)) → P (.list (r.map .int)) bx) : CallP c A "mrest" [.list (a.map .int), .list (b.map .int), .int p] bx P := by
  refine enterF f_mrest m_mrest b_mrest ok DD hA rfl fun A hA => ?_; dsimp only [f_mrest, r_mrest]
  refine l_ret (r_sub rfl (b_ev (v_call (ds := [.list (a.map .int), .list (b.map .int), .int p]) (DD.has (by kernel_rfl)) rfl rfl rfl (by (repeat' wtm_at "w")) (mdivmod_spec ok DD hA a b p hp hs hb b0 ra rb la lb fun q r n1 n2 n3 n4 => v_of e_int ⟨_, rfl, _, rfl, h r n1 n2 n3 n4⟩))))
end
/-- two pairs that give each other -/
structure MgI (a b : List Int) (p : Int) (A B : List Int) : Prop where
  na : Nrm A
  nb : Nrm B
  ra : Red p A
  rb : Red p B
  la : A.length ≤ 100
  lb : B.length ≤ 100
  ne : (a ≠ [] ∨ b ≠ []) → (A ≠ [] ∨ B ≠ [])
  i1 : ∃ U V, Cg p (pe A) (fun x => pe U x * pe a x + pe V x * pe b x)
  i2 : ∃ U V, Cg p (pe B) (fun x => pe U x * pe a x + pe V x * pe b x)
  j1 : ∃ U V, Cg p (pe a) (fun x => pe U x * pe A x + pe V x * pe B x)
  j2 : ∃ U V, Cg p (pe b) (fun x => pe U x * pe A x + pe V x * pe B x)
theorem MgI.step {a b : List Int} {p : Int} {A B r : List Int} (h : MgI a b p A B) (B0 : B ≠ []) (nr : Nrm r) (rr : Red p r) (lr : r.length < B.length) (hq : ∃ Q, Cg p (pe A) (fun x => pe Q x * pe B x + pe r x)) : MgI a b p B r := by
  obtain ⟨Q, X, hX⟩ := hq
  refine ⟨h.nb, nr, h.rb, rr, h.lb, by have := h.lb; exact o319 lr this, fun _ => .inl B0, h.i2, ?_, ?_, ?_⟩
  · obtain ⟨U, V, W, hW⟩ := h.i1
    obtain ⟨U', V', W', hW'⟩ := h.i2
    refine ⟨addL U ((mulL Q U').map (- ·)), addL V ((mulL Q V').map (- ·)), addL (addL W (X.map (- ·))) ((mulL Q W').map (- ·)), fun x => ?_⟩
    have h1 := hX x; have h2 := hW x; have h3 := hW' x
    dsimp only at h1 h2 h3 ⊢
    simp only [pe_addL, pe_neg, pe_mul]
    grind
  · obtain ⟨U, V, W, hW⟩ := h.j1
    refine ⟨addL (mulL U Q) V, U, addL W (mulL U X), fun x => ?_⟩
    have h1 := hX x; have h2 := hW x
    dsimp only at h1 h2 ⊢
    simp only [pe_addL, pe_neg, pe_mul]
    grind
  · obtain ⟨U, V, W, hW⟩ := h.j2
    refine ⟨addL (mulL U Q) V, U, addL W (mulL U X), fun x => ?_⟩
    have h1 := hX x; have h2 := hW x
    dsimp only at h1 h2 ⊢
    simp only [pe_addL, pe_neg, pe_mul]
    grind
section
variable {c : Cx} (ok : c.Ok) (DD : Defs c) {A : Around} {e : Nat} {bx : List D} {P : D → List D → Prop}
include ok DD
theorem mgcd_spec (hA : AD A (e + 5)) (a b : List Int) (p : Int) (hp : PrimeI p) (hs : p < 2 ^ 20) (ha : Nrm a) (hb : Nrm b) (ra : Red p a) (rb : Red p b) (la : a.length ≤ 100) (lb : b.length ≤ 100) (h0 : a ≠ [] ∨ b ≠ [])
    (h : ∀ d : List Int, Nrm d → Red p d → d ≠ [] → lc d = 1 → d.length ≤ 100 → (∃ U V, Cg p (pe d) (fun x => pe U x * pe a x + pe V x * pe b x)) → (∃ X, Cg p (pe a) (fun x => pe X x * pe d x)) → (∃ X, Cg p (pe b) (fun x => pe X x * pe d x)) → P (.list (d.map .int)) bx) :
    CallP c A "mgcd" [.list (a.map .int), .list (b.map .int), .int p] bx P := by
  refine enterF f_mgcd m_mgcd b_mgcd ok DD hA rfl fun A hA => ?_; dsimp only [f_mgcd, r_mgcd]
  refine l_while (fun (B : List Int) => B.length) (fun B ρ b' => b' = bx ∧ ∃ A : List Int, MgI a b p A B ∧ ρ "a" = some (.list (A.map .int)) ∧ ρ "b" = some (.list (B.map .int)) ∧ ρ "p" = some (.int p)) b ?_ ?_
  · exact ⟨rfl, a, ⟨ha, hb, ra, rb, la, lb, id, ⟨[1], [], [], fun x => by simp [pe]⟩, ⟨[], [1], [], fun x => by simp [pe]⟩, ⟨[1], [], [], fun x => by simp [pe]⟩, ⟨[], [1], [], fun x => by simp [pe]⟩⟩, rfl, rfl, rfl⟩
  rintro B ρ b' ⟨rfl, A', hI, h1, h2, h3⟩
  refine m_test (by (repeat' wtm_at "w")) (fun hl => ?_) fun hl => ?_
  · have B0 : B ≠ [] := by rintro rfl; exact absurd hl (by decide)
    refine l_tup2 rfl (p_cons rfl (v_of (by (repeat' wtm_at "w")) ⟨rfl, p_cons rfl (v_call (ds := [.list (A'.map .int), .list (B.map .int), .int p]) (DD.has (by kernel_rfl)) rfl rfl rfl (by (repeat' wtm_at "w")) (mrest_spec ok DD hA A' B p hp hs hI.nb B0 hI.ra hI.rb hI.la hI.lb fun r nr rr lr hq => ⟨rfl, p_nil (k_u2 (l_nil ?_))⟩))⟩))
    exact ⟨r, lr, rfl, B, hI.step B0 nr rr lr hq, rfl, rfl, h3⟩
  · have B0 : B = [] := by
      apply Classical.byContradiction; intro q
      have := List.length_pos_iff.mpr q
      exact hl (by simp; exact o144 this)
    subst B0
    have A0 : A' ≠ [] := (hI.ne h0).resolve_right (fun q => q rfl)
    refine l_ret (v_call (ds := [.list (A'.map .int), .int p]) (DD.has (by kernel_rfl)) rfl rfl rfl (by (repeat' wtm_at "w")) (mmonic_spec ok DD hA A' p hp hs hI.na hI.ra fun d hd => ?_))
    obtain ⟨nc, rc, lc', hc⟩ := hd
    obtain ⟨c1, ⟨u, hu⟩, v, hv⟩ := hc A0
    have c0 : d ≠ [] := by rintro rfl; simp at lc'; exact A0 (List.length_eq_zero_iff.mp lc'.symm)
    refine h d nc rc c0 c1 (by have := hI.la; exact o318 lc' this) ?_ ?_ ?_
    · obtain ⟨U, V, W, hW⟩ := hI.i1
      obtain ⟨X, hX⟩ := hu
      refine ⟨U.map (u * ·), V.map (u * ·), addL X (W.map (u * ·)), fun x => ?_⟩
      have h1 := hW x; have h2 := hX x
      dsimp only at h1 h2 ⊢
      simp only [pe_addL, pe_map_mul]
      grind
    · obtain ⟨U, V, W, hW⟩ := hI.j1
      obtain ⟨X, hX⟩ := hv
      refine ⟨U.map (v * ·), addL W (mulL U X), fun x => ?_⟩
      have h1 := hW x; have h2 := hX x
      dsimp only at h1 h2 ⊢
      simp only [pe_addL, pe_map_mul, pe_mul, pe] at h1 ⊢
      grind
    · obtain ⟨U, V, W, hW⟩ := hI.j2
      obtain ⟨X, hX⟩ := hv
      refine ⟨U.map (v * ·), addL W (mulL U X), fun x => ?_⟩
      have h1 := hW x; have h2 := hX x
      dsimp only at h1 h2 ⊢
      simp only [pe_addL, pe_map_mul, pe_mul, pe] at h1 ⊢
      grind
end
theorem modL_cg (a : List Int) (p : Int) : Cg p (pe (modL a p)) (pe a) :=
  Cg.trans (Cg.of_eq (pe_trim _)) (Cg.trans (cg_fmod p (fun x => x) rfl a).symm (Cg.of_eq fun x => by simp))
theorem modL_red {p : Int} (hp : 0 < p) (a : List Int) : Red p (modL a p) := red_trim (red_map hp (fun x => x) rfl a)
section
variable {c : Cx} (ok : c.Ok) (DD : Defs c) {A : Around} {e : Nat} {bx : List D} {P : D → List D → Prop}
include ok DD
/-- the image of the gcd at a prime -/
theorem image_spec (hA : AD A (e + 6)) (a b : List Int) (front p : Int) (hp : PrimeI p) (hs : p < 2 ^ 20) (la : a.length ≤ 100) (lb : b.length ≤ 100) (h0 : modL a p ≠ [] ∨ modL b p ≠ []) (hf : front.fmod p ≠ 0) (ho : Ok front)
    (h : ∀ f : List Int, Nrm f → Red p f → f ≠ [] → lc f = front.fmod p → f.length ≤ 100 → (∃ U V, Cg p (pe f) (fun x => pe U x * pe a x + pe V x * pe b x)) → (∃ X, Cg p (pe a) (fun x => pe X x * pe f x)) → (∃ X, Cg p (pe b) (fun x => pe X x * pe f x)) → P (.list (f.map .int)) bx) :
    CallP c A "image" [.list (a.map .int), .list (b.map .int), .int front, .int p] bx P := by
  have hp2 := hp.1
  have p0 : p ≠ 0 := by exact o298 hp2
  have hfm := fmod_lt front (y := p) (by exact o262 hp2)
  refine enterF f_image m_image b_image ok DD hA rfl fun A hA => ?_; dsimp only [f_image, r_image]
  refine l_ret (r_call (DD.has (by kernel_rfl)) rfl rfl rfl (s_cons rfl (v_call (ds := [.list ((modL a p).map .int), .list ((modL b p).map .int), .int p]) (DD.has (by kernel_rfl)) rfl rfl rfl (by (repeat' (first | ((guard_target = C1 _ _ _ _ _ _); first | (refine zmod_spec ok DD hA _ _ p0 ⟨rfl, rfl⟩)) | wtm_at "w")))
    (mgcd_spec ok DD hA (modL a p) (modL b p) p hp hs (trim_trim _) (trim_trim _) (modL_red (by exact o262 hp2) a) (modL_red (by exact o262 hp2) b) (Nat.le_trans (trim_length _) (by simpa using la)) (Nat.le_trans (trim_length _) (by simpa using lb)) h0 fun d nc rc c0 c1 cl hU hX hY =>
    vs_of (ds := [.int (front.fmod p), .int p]) (by (repeat' wtm_at "w")) (mscale_spec ok DD hA d (front.fmod p) p (by exact o262 hp2) (fun x hx => ok_pow 30 (by decide) (by have := red_ok rc hs x hx; exact o257 this.1 this.2)) (ok_pow 30 (by decide) (by exact o256 hs hfm.1 hfm.2)) ?_)))))
  obtain ⟨U, V, W, hW⟩ := hU
  obtain ⟨X, Wx, hX⟩ := hX
  obtain ⟨Y, Wy, hY⟩ := hY
  obtain ⟨v, v0, v1, k, hk⟩ := inv_ex (front.fmod p) p hp (by exact o113 hf hfm.1) hfm.2
  obtain ⟨G, hG⟩ := mscale_cg d (front.fmod p) p
  have hcf : ∀ n, cf (mscaleL d (front.fmod p) p) n = (cf d n * front.fmod p).fmod p := fun n => by
    unfold mscaleL
    rw [cf_trim, cf_map (f := fun x => (x * front.fmod p).fmod p) (by simp)]
  have hcl := List.length_pos_iff.mpr c0
  have h1 : cf (mscaleL d (front.fmod p) p) (d.length - 1) = front.fmod p := by
    rw [hcf, cf_last, c1, Int.one_mul, Int.fmod_eq_emod_of_nonneg _ (by exact o83 v0 v1)]
    exact Int.emod_eq_of_lt hfm.1 hfm.2
  have hlen : (mscaleL d (front.fmod p) p).length = d.length := by
    have h2 : (mscaleL d (front.fmod p) p).length ≤ d.length := length_le_of_cf (trim_trim _) fun n hn => by rw [hcf, cf_out hn]; simp
    have h3 : d.length - 1 < (mscaleL d (front.fmod p) p).length := by
      apply Classical.byContradiction
      intro q
      rw [cf_out (by exact o260 q)] at h1
      exact o317 hf h1
    exact o258 h2 h3
  obtain ⟨Ma, hMa⟩ := modL_cg a p
  obtain ⟨Mb, hMb⟩ := modL_cg b p
  refine h (mscaleL d (front.fmod p) p) (trim_trim _) (mscale_red (by exact o134 v0 v1) _ _) (fun q => by rw [q] at hlen; simp at hlen; exact c0 (List.length_eq_zero_iff.mp hlen.symm)) (by rw [← cf_last, hlen]; exact h1) (by exact o316 cl hlen) ?_ ?_ ?_
  · generalize front.fmod p = t at *
    refine ⟨U.map (t * ·), V.map (t * ·), addL (addL G (W.map (t * ·))) (addL (mulL (U.map (t * ·)) Ma) (mulL (V.map (t * ·)) Mb)), fun x => ?_⟩
    have h1 := hG x; have h2 := hW x; have h3 := hMa x; have h4 := hMb x
    dsimp only at h1 h2 h3 h4 ⊢
    simp only [pe_addL, pe_map_mul, pe_mul]
    grind
  · generalize front.fmod p = t at *
    refine ⟨X.map (v * ·), addL (addL Wx (Ma.map (- ·))) (addL (mulL (X.map (v * ·)) (G.map (- ·))) (mulL X (d.map ((-k) * ·)))), fun x => ?_⟩
    have h1 := hG x; have h2 := hX x; have h3 := hMa x
    dsimp only at h1 h2 h3 ⊢
    simp only [pe_addL, pe_map_mul, pe_mul, pe_neg]
    grind
  · generalize front.fmod p = t at *
    refine ⟨Y.map (v * ·), addL (addL Wy (Mb.map (- ·))) (addL (mulL (Y.map (v * ·)) (G.map (- ·))) (mulL Y (d.map ((-k) * ·)))), fun x => ?_⟩
    have h1 := hG x; have h2 := hY x; have h3 := hMb x
    dsimp only at h1 h2 h3 ⊢
    simp only [pe_addL, pe_map_mul, pe_mul, pe_neg]
    grind
end
theorem tups_range (b : List Int) : tupsFrom 0 (b.map D.int) = (List.range b.length).map fun (i : Nat) => .tuple [.int i, .int (cf b i)] := by
  have key : ∀ (b : List Int) (k : Nat), tupsFrom k (b.map D.int) = (List.range b.length).map fun (i : Nat) => .tuple [.int ((k + i : Nat) : Int), .int (cf b i)] := by
    intro b
    induction b with
    | nil => intro k; rfl
    | cons c b ih =>
      intro k
      rw [List.map_cons, tupsFrom, ih (k + 1), List.length_cons, List.range_succ_eq_map, List.map_cons, List.map_map]
      congr 1
      refine List.map_congr_left fun i _ => ?_
      simp only [Function.comp, cf_cons_succ]
      congr 3
      omega
  have := key b 0
  simpa using this
section
variable {c : Cx} (ok : c.Ok) (DD : Defs c) {A : Around} {e : Nat} {bx : List D} {P : D → List D → Prop}
include ok DD
theorem joined_spec (hA : AD A (e + 4)) (one other : List Int) (m p : Int) (hm : 0 < m) (hp : 0 < p) (om : Ok3 m) (op : Ok3 p) (hg : Int.gcd m p = 1) (ro : Red m one) (rr : Red p other) (hl : one.length ≤ other.length) (ll : one.length ≤ 1000)
    (h : ∀ R : List Int, R.length = one.length → (∀ i, i < one.length → 0 ≤ cf R i ∧ cf R i < m * p ∧ (∃ k, cf R i = cf one i + m * k) ∧ ∃ k, cf R i = cf other i + p * k) → P (.list (R.map .int)) bx) :
    CallP c A "joined" [.list (one.map .int), .int m, .list (other.map .int), .int p] bx P := by
  refine enterF f_joined m_joined b_joined ok DD hA rfl fun A hA => ?_; dsimp only [f_joined, r_joined]
  refine l_ret (r_comp rfl (fun _ _ => rfl) (vi_of (ds := (List.range one.length).map fun (i : Nat) => .tuple [.int i, .int (cf one i)]) (tups_range one ▸ (by (repeat' wtm_at "w"))) (cl_rel (Rel := fun (i : Nat) (r : Int) => 0 ≤ r ∧ r < m * p ∧ (∃ k, r = cf one i + m * k) ∧ ∃ k, r = cf other i + p * k) (fun i hi => k_b2 rfl ?_) fun ys hl hr => ?_)))
  · have hi' := List.mem_range.mp hi
    have e1 := cf_pick (xs := other) (i := i) (by exact o315 hl hi')
    refine r_sub rfl (b_ev (v_call (ds := [.list [.tuple [.int (cf one i), .int m], .tuple [.int (cf other i), .int p]]]) (DD.has (by kernel_rfl)) rfl rfl rfl (by (repeat' wtm_at "w")) (chinese_spec ok DD hA (cf one i) m (cf other i) p (ro i) hp (rr i) om op hg fun r q1 q2 q3 q4 => v_of e_int ⟨_, rfl, _, rfl, rfl, r, rfl, q1, q2, q3, q4⟩)))
  · refine h ys (by rw [hl, List.length_range]) fun i hi => ?_
    obtain ⟨y, e1, e2⟩ := hr i i (by simp [hi])
    have e : cf ys i = y := by simp [cf, e1]
    rw [e]
    exact e2
end
noncomputable def symI (m a : Int) : Int := if m < 2 * a.fmod m then a.fmod m - m else a.fmod m
section
variable {c : Cx} (ok : c.Ok) (DD : Defs c) {A : Around} {e : Nat} {bx : List D} {P : D → List D → Prop}
include ok DD
theorem symmetric_of_spec (hA : AD A (e + 2)) (a : List Int) (m : Int) (hm : 0 < m) (ho : Ok m) (h : P (.list ((trim (a.map (symI m))).map .int)) bx) : CallP c A "symmetric_of" [.list (a.map .int), .int m] bx P := by
  refine enterF f_symmetric_of m_symmetric_of b_symmetric_of ok DD hA rfl fun A hA => ?_; dsimp only [f_symmetric_of, r_symmetric_of]
  refine m_ret (e_call (ds := [.list ((a.map (symI m)).map .int)]) (DD.has (by kernel_rfl)) rfl rfl rfl (s1_cons (by rfl) ?_ s1_nil) (ztrim_spec ok DD hA _ ⟨rfl, rfl⟩)) (ret h)
  refine e_ci rfl (fun _ _ => rfl) (by (repeat' wtm_at "w")) fun x hx => ?_
  (repeat' (first | ((guard_target = C1 _ _ _ _ _ _); first | (refine symmetric_spec ok DD hA _ _ hm ho ⟨rfl, rfl⟩)) | wtm_at "w"))
end

open PySem PySem.Calls PyProof.Rows
section
variable {c : Cx} (ok : c.Ok) (DD : Defs c) {A : Around} {e : Nat} {bx : List D} {P : D → List D → Prop}
include ok DD
theorem law_part_spec (hA : AD A (e + 1)) (a b : Int) (h : P (.int (Int.gcd a b)) bx) : CallP c A "_law_part" [.int a, .int b] bx P := by
  refine enterF f_law_part m_law_part b_law_part ok DD hA rfl fun A hA => ?_; dsimp only [f_law_part, r_law_part]
  (repeat' wtm_at "w")
  refine l_while (fun (y : Int) => y.natAbs) (fun y ρ b' => b' = bx ∧ ∃ x : Int, 0 ≤ x ∧ 0 ≤ y ∧ ρ "one" = some (.int x) ∧ ρ "other" = some (.int y) ∧ Int.gcd x y = Int.gcd a b) (if b < 0 then -b else b) ?_ ?_
  · exact ⟨rfl, if a < 0 then -a else a, by split <;> (first | exact o104 (by assumption) | exact o105 (by assumption)), by split <;> (first | exact o104 (by assumption) | exact o105 (by assumption)), rfl, rfl, by split <;> split <;> simp⟩
  rintro y ρ b' ⟨rfl, x, hx, hy, ha, hb, hg⟩
  refine m_test (by (repeat' wtm_at "w")) (fun h0 => ?_) fun h0 => ?_
  · have := fmod_lt x h0
    have h1 : y ≠ 0 := by exact o122 h0
    (repeat' wtm_at "w")
    exact ⟨x.fmod y, by exact o102 this.1 this.2, rfl, y, hy, this.1, rfl, rfl, (gcd_step x y hx hy).trans hg⟩
  · (repeat' wtm_at "w")
    have h0 : y = 0 := by exact o326 hy h0
    subst h0
    have e : x = Int.gcd a b := by rw [← hg]; simp; exact o86 hx
    rw [e]
    exact h
end
/-! the content -/
theorem gcdFrom_dvd : ∀ (xs : List Int) (g d : Int), d ∣ gcdFrom g xs ↔ d ∣ g ∧ ∀ x ∈ xs, d ∣ x
  | [], g, d => by simp [gcdFrom]
  | y :: xs, g, d => by
    show d ∣ gcdFrom (Int.gcd g y) xs ↔ _
    rw [gcdFrom_dvd xs (Int.gcd g y) d]
    have : d ∣ (Int.gcd g y : Int) ↔ d ∣ g ∧ d ∣ y := Int.dvd_coe_gcd_iff
    rw [this]
    constructor
    · rintro ⟨⟨h1, h2⟩, h3⟩
      exact ⟨h1, fun x hx => (List.mem_cons.mp hx).elim (fun e => e ▸ h2) (h3 x)⟩
    · rintro ⟨h1, h2⟩
      exact ⟨⟨h1, h2 y (.head _)⟩, fun x hx => h2 x (List.mem_cons_of_mem _ hx)⟩
theorem gcdAll_dvd (xs : List Int) (d : Int) : d ∣ gcdAll xs ↔ ∀ x ∈ xs, d ∣ x := by
  unfold gcdAll
  rw [gcdFrom_dvd]
  simp
theorem gcdFrom_nonneg : ∀ (xs : List Int) (g : Int), 0 ≤ g → 0 ≤ gcdFrom g xs
  | [], g, h => h
  | y :: xs, g, _ => gcdFrom_nonneg xs (Int.gcd g y) (by exact o325 (by assumption))
theorem gcdAll_nonneg (xs : List Int) : 0 ≤ gcdAll xs := gcdFrom_nonneg xs 0 (by decide)
theorem lc_mem {p : List Int} (h : p ≠ []) : lc p ∈ p := by
  unfold lc
  rw [List.getLastD_eq_getLast?, List.getLast?_eq_some_getLast h]
  exact List.getLast_mem h
theorem gcdAll_pos {p : List Int} (hp : Nrm p) (h : p ≠ []) : 0 < gcdAll p := by
  have h1 := gcdAll_nonneg p
  have h2 := (gcdAll_dvd p (gcdAll p)).mp (Int.dvd_refl _) (lc p) (lc_mem h)
  have h3 := nrm_last hp h
  have : gcdAll p ≠ 0 := fun e => h3.2 (by rw [e] at h2; exact Int.zero_dvd.mp h2)
  exact o103 h1 this
theorem gcdAll_le {p : List Int} {k : Nat} (hp : Nrm p) (h : Bn k p) : (gcdAll p).natAbs < 2 ^ k := by
  by_cases h0 : p = []
  · subst h0; exact Nat.two_pow_pos k
  · have h2 := (gcdAll_dvd p (gcdAll p)).mp (Int.dvd_refl _) (lc p) (lc_mem h0)
    have h3 := nrm_last hp h0
    have := Nat.le_of_dvd (by exact o324 h3.2) (Int.natAbs_dvd_natAbs.mpr h2)
    have := h.lc
    exact o323 (by assumption) this
theorem bareL {p : List Int} (h : p ≠ []) (hp : Nrm p) (s : Int) (hs : s = if 0 < lc p then 1 else -1) : p.map (fun x => x.fdiv (gcdAll p) * s) = primL p := by
  have g1 := gcdAll_pos hp h
  have hdv := (gcdAll_dvd p (gcdAll p)).mp (Int.dvd_refl _)
  rw [primL, if_neg h]
  refine List.map_congr_left fun x hx => ?_
  obtain ⟨t, ht⟩ := hdv x hx
  have e1 : x.fdiv (gcdAll p) = t := by rw [ht, Int.mul_fdiv_cancel_left _ (by exact o122 g1)]
  rw [e1, hs]
  by_cases q : 0 < lc p
  · rw [if_pos q, if_pos q, e1, Int.mul_one]
  · rw [if_neg q, if_neg q, ht, show gcdAll p * t = -gcdAll p * -t by grind, Int.mul_fdiv_cancel_left _ (by exact o322 g1)]
    exact o321
section
variable {c : Cx} (ok : c.Ok) (DD : Defs c) {A : Around} {e : Nat} {bx : List D} {P : D → List D → Prop}
include ok DD
theorem law_bare_spec (hA : AD A (e + 2)) (p : List Int) (hp : Nrm p) (hb : Bn 8000 p) (h : P (.tuple [.list ((primL p).map .int), .int (gcdAll p)]) bx) : CallP c A "_law_bare" [.list (p.map .int)] bx P := by
  refine enterF f_law_bare m_law_bare b_law_bare ok DD hA rfl fun A hA => ?_; dsimp only [f_law_bare, r_law_bare]
  (repeat' wtm_at "w")
  refine fg (fun ds ρ b' => b' = bx ∧ ρ "row" = some (.list (p.map .int)) ∧ ∃ (ys : List Int) (g : Int), ds = ys.map .int ∧ ρ "content" = some (.int g) ∧ gcdFrom g ys = gcdAll p) ?_ ?_ ?_
  rotate_right
  · exact ⟨rfl, rfl, p, 0, rfl, rfl, rfl⟩
  · rintro x ds ρ b' ⟨rfl, hr, ys, g, hds, hf, hg⟩
    cases ys with
    | nil => cases hds
    | cons y ys =>
      cases hds
      (repeat' (first | ((guard_target = C1 _ _ _ _ _ _); first | (refine law_part_spec ok DD hA _ _ ⟨rfl, rfl⟩)) | wtm_at "w"))
      exact ⟨rfl, hr, ys, _, rfl, rfl, hg⟩
  · rintro ρ b' ⟨rfl, hr, ys, g, hds, hf, hg⟩
    cases ys with
    | cons y ys => cases hds
    | nil =>
      have hg' : g = gcdAll p := hg
      subst hg'
      by_cases h0 : p = []
      · subst h0
        refine m_ifp (by (repeat' wtm_at "w")) rfl ?_
        (repeat' wtm_at "w")
        exact h
      · have g0 := gcdAll_pos hp h0
        have g1 : ¬ gcdAll p = 0 := by exact o320 g0
        have og : Ok (gcdAll p) := ok_pow 8000 (by decide) (gcdAll_le hp hb)
        have dg := divOk g1 og
        have hdv := (gcdAll_dvd p (gcdAll p)).mp (Int.dvd_refl _)
        have pl := pick_last h0
        rw [← bareL h0 hp _ rfl] at h
        refine m_ifn0 (by (repeat' wtm_at "w")) g1 (m_set rfl (e_iti (by (repeat' wtm_at "w")) (by (repeat' wtm_at "w")) (by (repeat' wtm_at "w"))) ?_)
        refine m_ret (e_tup (s1_cons (by rfl) (e_ci (g := fun (x : Int) => x.fdiv (gcdAll p) * if 0 < lc p then 1 else -1) rfl (fun _ _ => rfl) (by (repeat' wtm_at "w")) fun x hx => ?_) (by (repeat' wtm_at "w"))) rfl) (ret h)
        have m1 : MulOk (x.fdiv (gcdAll p)) (if 0 < lc p then 1 else -1) := mulOk (by
          have h1 := hb.ok (Nat.le_refl _) x hx
          refine Nat.lt_of_le_of_lt ?_ h1
          obtain ⟨t, ht⟩ := hdv x hx
          rw [ht, Int.mul_fdiv_cancel_left _ g1, Int.natAbs_mul]
          exact Nat.le_mul_of_pos_left _ (by exact o175 g1)) (ok_pow 60 (by decide) (by split <;> decide))
        refine k_b1 rfl (e_mul (e_div (by (repeat' wtm_at "w")) (e_name hf rfl) dg) (by (repeat' wtm_at "w")) m1)
end

open PySem PySem.Calls PyProof.Rows
theorem upto_neg1 (xs : List Int) : upto (xs.map .int) (-1) = (xs.dropLast).map .int := by
  unfold upto
  rw [if_neg (by decide), ← List.map_take, List.dropLast_eq_take]
  congr 2
  simp
  exact o350
theorem cf_dropLast (xs : List Int) (i : Nat) : cf xs.dropLast i = if i + 1 < xs.length then cf xs i else 0 := by
  by_cases h : i + 1 < xs.length
  · rw [if_pos h]
    simp [cf, List.getElem?_dropLast]
    rw [if_pos (by exact o349 h)]
  · rw [if_neg h, cf_out (by simp; exact o348 h)]
theorem trim_drop {xs : List Int} (h : xs ≠ []) (h0 : lc xs = 0) : trim xs.dropLast = trim xs := by
  have e2 : xs = xs.dropLast ++ [lc xs] := by
    have := List.dropLast_concat_getLast h
    have e3 : xs.getLast h = lc xs := by unfold lc; rw [List.getLastD_eq_getLast?, List.getLast?_eq_some_getLast h]; rfl
    rw [e3] at this; exact this.symm
  conv => rhs; rw [e2, h0, trim_zero]
/-- the row after the inner turns up to s -/
structure InZ (b R R' : List Int) (m s : Nat) (v : Int) : Prop where
  len : R'.length = R.length
  co : ∀ i, cf R' i = if m ≤ i ∧ i < m + s then cf R i - cf b (i - m) * v else cf R i
theorem InZ.step {b R R' : List Int} {m s : Nat} {v : Int} (h : InZ b R R' m s v) (hs : m + s < R.length) : InZ b R (R'.set (m + s) (cf R' (m + s) - cf b s * v)) m (s + 1) v := by
  refine ⟨by rw [List.length_set]; exact h.len, fun i => ?_⟩
  rw [cf_set _ _ _ _ (by rw [h.len]; exact hs)]
  by_cases q : i = m + s
  · subst q
    rw [if_pos rfl, if_pos (by exact o303 hs), h.co, if_neg (by exact o302 hs)]
    congr 3; exact o301 hs
  · rw [if_neg q, h.co]
    by_cases q2 : m ≤ i ∧ i < m + s
    · rw [if_pos q2, if_pos (by exact o300 q2.1 q2.2)]
    · rw [if_neg q2, if_neg (by exact o299 q q2)]
section
variable {c : Cx} (ok : c.Ok) (DD : Defs c) {A : Around} {e : Nat} {bx : List D} {P : D → List D → Prop}
include ok DD
theorem law_rest_spec (hA : AD A (e + 1)) (a b : List Int) (k : Nat) (ha : Nrm a) (hb : Nrm b) (b0 : b ≠ []) (la : a.length ≤ 5) (lb : b.length ≤ 5) (hk : k ≤ 600) (ba : Bn k a) (bb : Bn k b)
    (h : ∀ r : List Int, Nrm r → r.length < b.length → Bn (k + 5 * (k + 1)) r → (∃ j Q, ∀ x, lc b ^ j * pe a x = pe Q x * pe b x + pe r x) → P (.list (r.map .int)) bx) : CallP c A "_law_rest" [.list (a.map .int), .list (b.map .int)] bx P := by
  have hlen : ∀ x : List Int, ((x.map D.int).length : Int) = x.length := fun x => by simp
  have hlb := nrm_last hb b0
  have hbl := List.length_pos_iff.mpr b0
  refine enterF f_law_rest m_law_rest b_law_rest ok DD hA rfl fun A hA => ?_; dsimp only [f_law_rest, r_law_rest]
  refine l_while (fun (R : List Int) => R.length) (fun R ρ b' => b' = bx ∧ ∃ (j : Nat) (F : List Int), PsI a b k j R F ∧ ρ "bottom" = some (.list (b.map .int)) ∧ ρ "top" = some (.list (R.map .int))) a ?_ ?_
  · exact ⟨rfl, 0, [], ⟨ha, by exact o217, ba.mono (by exact o216), Nat.zero_le _, Bn.nil _, [], fun x => by simp [pe]⟩, rfl, rfl⟩
  rintro R ρ b' ⟨rfl, j, F, hI, h1, h2⟩
  have hlR := hI.len
  have jk : k + j * (k + 1) ≤ k + 5 * (k + 1) := by
    have : j * (k + 1) ≤ 5 * (k + 1) := Nat.mul_le_mul_right _ (by exact o214 la hlR)
    exact o347 this
  refine m_test (by (repeat' wtm_at "w")) (fun hl => ?_) fun hl => ?_ <;> rw [hlen, hlen] at hl
  · have hl : b.length ≤ R.length := by exact o211 hl
    have R0 : R ≠ [] := by rintro rfl; simp at hl; exact b0 hl
    have hs := hI.step hb b0 bb hl
    have hless := PsI.less (a := a) b0 hl
    have o1 : Ok (lc b) := bb.ok_lc (by exact o340 hk)
    have o2 : Ok (lc R) := hI.bn.ok_lc (by exact o346 hk jk)
    have e1 : ((R.map D.int).length : Int) - ((b.map D.int).length : Int) = ((R.length - b.length : Nat) : Int) := by rw [hlen, hlen]; exact o210 hl
    have pR := pick_last R0
    have pb := pick_last b0
    refine m_tup2 rfl (by (repeat' wtm_at "w")) ?_
    rw [e1]
    generalize hF0 : R.dropLast.map (· * lc b) = F0
    have lF0 : F0.length = R.length - 1 := by rw [← hF0]; simp
    have cF0 : ∀ i, cf F0 i = if i + 1 < R.length then cf R i * lc b else 0 := fun i => by
      rw [← hF0, cf_map (f := (· * lc b)) (by simp), cf_dropLast]
      split <;> simp
    have lb' : b.dropLast.length = b.length - 1 := by simp
    refine l_ownc rfl (fun _ _ => rfl) (vi_of (ds := (R.dropLast).map .int) (upto_neg1 R ▸ (by (repeat' wtm_at "w"))) (cl_mi (g := (· * lc b)) (fun x hx => ?_) ?_))
    · have m1 : MulOk x (lc b) := mulOk (hI.bn.ok (by exact o346 hk jk) x (List.dropLast_subset _ hx)) o1
      (repeat' wtm_at "w")
    rw [hF0]
    refine m_for rfl (fun _ _ => rfl) (i1_call (ds := [.list (b.dropLast.map .int)]) rfl rfl rfl (upto_neg1 b ▸ (by (repeat' wtm_at "w"))) itr_e) ?_
    refine fg (fun ds ρ b'' => b'' = b' ∧ ∃ (s : Nat) (R' : List Int), ds = tupsFrom s ((b.dropLast.drop s).map .int) ∧ s ≤ b.length - 1 ∧ InZ b F0 R' (R.length - b.length) s (lc R) ∧ ρ "bottom" = some (.list (b.map .int)) ∧
      ρ "shift" = some (.int ((R.length - b.length : Nat) : Int)) ∧ ρ "front" = some (.int (lc R)) ∧ ρ "found" = some (.list (R'.map .int))) ?_ ?_ ?_
    rotate_right
    · exact ⟨rfl, 0, F0, rfl, by exact o345, ⟨rfl, fun i => by rw [if_neg (by exact o344)]⟩, h1, rfl, rfl, rfl⟩
    · rintro x ds ρ' b'' ⟨rfl, s, R', hds, hsl, hN, g1, g2, g3, g4⟩
      by_cases hlt : s < b.length - 1
      · rw [tups_drop b.dropLast s (by exact o343 lb' hlt)] at hds
        cases hds
        have cb : cf b.dropLast s = cf b s := by rw [cf_dropLast, if_pos (by exact o342 hlt)]
        rw [cb]
        have f1 : (s : Int) + ((R.length - b.length : Nat) : Int) = ((R.length - b.length + s : Nat) : Int) := by exact o341
        have f2 : pick (R'.map .int) ((s : Int) + ((R.length - b.length : Nat) : Int)) = _ := f1 ▸ cf_pick (xs := R') (i := R.length - b.length + s) (by rw [hN.len]; exact o339 hl lF0 hlt)
        have f3 : MulOk (cf b s) (lc R) := mulOk (ok_pow k (by exact o340 hk) (bb s)) o2
        have f4 : putAt (R'.map .int) ((s : Int) + ((R.length - b.length : Nat) : Int)) _ = _ := f1 ▸ putAt_nat (xs := R') (i := R.length - b.length + s) (v := cf R' (R.length - b.length + s) - cf b s * lc R) (by rw [hN.len]; exact o339 hl lF0 hlt)
        have hN' := hN.step (by exact o339 hl lF0 hlt)
        refine k_b2 rfl (m_augs g4 rfl (by (repeat' wtm_at "w")) f2 (by (repeat' wtm_at "w")) f4 (l_nil ?_))
        exact ⟨rfl, s + 1, _, rfl, by exact o338 hlt, hN', g1, g2, g3, rfl⟩
      · rw [tups_end b.dropLast s (by exact o337 lb' hlt)] at hds; cases hds
    rintro ρ' b'' ⟨rfl, s, R', hds, hsl, hN, g1, g2, g3, g4⟩
    have hs' : s = b.length - 1 := by
      apply Classical.byContradiction; intro q'
      rw [tups_drop b.dropLast s (by exact o336 lb' hsl q')] at hds; cases hds
    subst hs'
    have key : trim R' = trim (addL (scaleL R (lc b)) ((raiseL (scaleL b (lc R)) (R.length - b.length)).map (- ·))) := by
      refine eq_of_cf (trim_trim _) (trim_trim _) fun i => ?_
      rw [cf_trim, cf_sub, cf_raise, cf_scale, cf_scale, hN.co, cF0]
      by_cases q1 : i < R.length - b.length
      · rw [if_neg (by exact o335 q1), if_pos (by exact o334 hbl q1), if_pos q1]; exact o333
      · rw [if_neg q1]
        by_cases q2 : i + 1 < R.length
        · rw [if_pos (by exact o332 q1 q2), if_pos q2]
        · rw [if_neg (by exact o331 hl q2), if_neg q2]
          by_cases q3 : i + 1 = R.length
          · have x1 : cf R i = lc R := by rw [← cf_last (p := R)]; congr 1; exact o330 q3
            have x2 : cf b (i - (R.length - b.length)) = lc b := by rw [← cf_last (p := b)]; congr 1; exact o329 hl q3
            rw [x1, x2]; grind
          · rw [cf_out (xs := R) (by exact o328 q2 q3), cf_out (xs := b) (by exact o327 hl q2 q3)]; simp
    refine l_while (fun (xs : List Int) => xs.length) (fun xs ρ b3 => b3 = b'' ∧ trim xs = trim R' ∧ ρ "bottom" = some (.list (b.map .int)) ∧ ρ "found" = some (.list (xs.map .int))) R' ⟨rfl, rfl, g1, g4⟩ ?_
    rintro xs ρ3 b3 ⟨rfl, t1, t2, t3⟩
    rw [key] at t1
    by_cases x0 : xs = []
    · subst x0
      have t1' : [] = _ := t1
      rw [← t1'] at hs hless
      refine vt_of (t1_and0 (p := ([] : List Int) ≠ []) (by (repeat' wtm_at "w")) (fun q => q rfl)) (br_0 ?_)
      refine l_move rfl t3 (l_nil ?_)
      exact ⟨[], hless, rfl, _, _, hs, t2, rfl⟩
    · have pl := pick_last x0
      refine m_test (t1_and2 (p := xs ≠ []) (q := lc xs = 0) (by (repeat' wtm_at "w")) fun _ => by (repeat' wtm_at "w")) (fun y0 => ?_) fun y0 => ?_
      · have e3 := upto_neg1 xs
        have hl0 := List.length_pos_iff.mpr x0
        refine m_own (d := .list (xs.dropLast.map .int)) rfl (by rw [← e3]; (repeat' wtm_at "w")) rfl (l_nil ?_)
        exact ⟨xs.dropLast, by simp; exact o152 hl0, rfl, by rw [trim_drop x0 y0.2, t1, key], t2, rfl⟩
      · have n1 : Nrm xs := nrm_of_last fun q => y0 ⟨x0, q⟩
        have t1' : xs = _ := n1.symm.trans t1
        rw [← t1'] at hs hless
        refine l_move rfl t3 (l_nil ?_)
        exact ⟨xs, hless, rfl, _, _, hs, t2, rfl⟩
  · (repeat' wtm_at "w")
    exact h R hI.nr (by exact o193 hl) (hI.bn.mono jk) ⟨j, hI.id⟩
end


/-! gcds, up to numbers -/
structure GI (a b G : List Int) : Prop where
  da : ∃ (k : Int) (H : List Int), k ≠ 0 ∧ ∀ x, k * pe a x = pe H x * pe G x
  db : ∃ (k : Int) (H : List Int), k ≠ 0 ∧ ∀ x, k * pe b x = pe H x * pe G x
  bz : ∃ (r : Int) (U V : List Int), r ≠ 0 ∧ ∀ x, pe U x * pe a x + pe V x * pe b x = r * pe G x
noncomputable def Sim (a b : List Int) : Prop := ∃ k h : Int, k ≠ 0 ∧ h ≠ 0 ∧ ∀ x, k * pe a x = h * pe b x
structure Gp (G : List Int) : Prop where
  one : gcdAll G = 1
  pos : 0 < lc G
theorem Gp.nrm {G : List Int} (h : Gp G) : Nrm G := nrm_of_last (by have := h.pos; exact o122 this)
theorem Gp.ne {G : List Int} (h : Gp G) : G ≠ [] := by rintro rfl; have := h.pos; simp [lc] at this
theorem Sim.symm {a b : List Int} (s : Sim a b) : Sim b a := let ⟨k, h, k0, h0, e⟩ := s; ⟨h, k, h0, k0, fun x => (e x).symm⟩
theorem Sim.trans {a b c : List Int} (s : Sim a b) (t : Sim b c) : Sim a c := by
  obtain ⟨k, h, k0, h0, e⟩ := s
  obtain ⟨k', h', k0', h0', e'⟩ := t
  refine ⟨k * k', h * h', Int.mul_ne_zero k0 k0', Int.mul_ne_zero h0 h0', fun x => ?_⟩
  have := e x; have := e' x
  grind
theorem GI.swap {a b G : List Int} (h : GI a b G) : GI b a G :=
  ⟨h.db, h.da, let ⟨r, U, V, h0, e⟩ := h.bz; ⟨r, V, U, h0, fun x => by have := e x; exact o364 this⟩⟩
theorem GI.step {a b c G Q : List Int} {m : Int} (h : GI a b G) (hm : m ≠ 0) (e : ∀ x, m * pe a x = pe Q x * pe b x + pe c x) : GI b c G := by
  obtain ⟨k1, H1, n1, e1⟩ := h.da
  obtain ⟨k2, H2, n2, e2⟩ := h.db
  obtain ⟨r, U, V, r0, e3⟩ := h.bz
  refine ⟨h.db, ⟨k1 * k2, addL (H1.map ((k2 * m) * ·)) ((mulL Q H2).map ((-k1) * ·)), Int.mul_ne_zero n1 n2, fun x => ?_⟩, ⟨m * r, addL (mulL U Q) (V.map (m * ·)), U, Int.mul_ne_zero hm r0, fun x => ?_⟩⟩
  · have := e x; have := e1 x; have := e2 x
    rw [pe_addL, pe_map_mul, pe_map_mul, pe_mul]
    grind
  · have := e x; have := e3 x
    rw [pe_addL, pe_map_mul, pe_mul]
    grind
theorem GI.sim {a a' b G : List Int} (s : Sim a a') (h : GI a b G) : GI a' b G := by
  obtain ⟨k1, H1, n1, e1⟩ := h.da
  obtain ⟨r, U, V, r0, e3⟩ := h.bz
  obtain ⟨k, h', k0, h0, e⟩ := s
  refine ⟨⟨k1 * h', H1.map (k * ·), Int.mul_ne_zero n1 h0, fun x => ?_⟩, h.db, ⟨k * r, U.map (h' * ·), V.map (k * ·), Int.mul_ne_zero k0 r0, fun x => ?_⟩⟩
  · have := e x; have := e1 x
    rw [pe_map_mul]
    grind
  · have := e x; have := e3 x
    rw [pe_map_mul, pe_map_mul]
    grind
theorem GI.sim2 {a b b' G : List Int} (s : Sim b b') (h : GI a b G) : GI a b' G := (h.swap.sim s).swap
theorem div_len {a G H : List Int} {k : Int} (hk : k ≠ 0) (ha : Nrm a) (a0 : a ≠ []) (hG : Nrm G) (G0 : G ≠ []) (e : ∀ x, k * pe a x = pe H x * pe G x) :
    a.length + 1 = (trim H).length + G.length ∧ k * lc a = lc (trim H) * lc G ∧ trim H ≠ [] := by
  have H0 : trim H ≠ [] := fun q => a0 (pe_zero ha fun x => by
    have := e x
    rw [← pe_trim H, q] at this
    simp only [pe, Int.zero_mul] at this
    rcases Int.mul_eq_zero.mp this with q | q
    · exact absurd q hk
    · exact q)
  have := mul_len (trim_trim H) hG (nrm_scale ha (k := k)) H0 G0 (fun x => by rw [pe_trim, pe_scale, ← e x, Int.mul_comm])
  rw [scale_length _ hk, lc_scale _ hk] at this
  exact ⟨this.1, by rw [Int.mul_comm]; exact this.2.1, H0⟩
theorem len_one {H : List Int} (hH : Nrm H) (h : H.length = 1) : ∃ c, c ≠ 0 ∧ H = [c] := by
  obtain ⟨c, rfl⟩ := List.length_eq_one_iff.mp h
  refine ⟨c, ?_, rfl⟩
  have := (nrm_last hH (by simp)).2
  simpa [lc] using this
theorem GI.le {a b G : List Int} (h : GI a b G) (hG : Nrm G) (G0 : G ≠ []) (ha : Nrm a) (a0 : a ≠ []) : G.length ≤ a.length := by
  obtain ⟨k, H, k0, e⟩ := h.da
  have := div_len k0 ha a0 hG G0 e
  have := List.length_pos_iff.mpr this.2.2
  exact o247 (by first | exact And.left (by assumption) | exact And.right (by assumption)) this
theorem GI.sim_of {a b G : List Int} (h : GI a b G) (hG : Nrm G) (G0 : G ≠ []) (ha : Nrm a) (a0 : a ≠ []) (hl : a.length ≤ G.length) : Sim a G := by
  obtain ⟨k, H, k0, e⟩ := h.da
  have d := div_len k0 ha a0 hG G0 e
  have := List.length_pos_iff.mpr d.2.2
  obtain ⟨c, c0, hc⟩ := len_one (trim_trim H) (by exact o363 hl d.1 this)
  refine ⟨k, c, k0, c0, fun x => ?_⟩
  rw [e x, ← pe_trim H, hc]; simp [pe]
/-- the end of the turns -/
theorem GI.last {a G : List Int} (h : GI a [] G) (hG : Nrm G) (G0 : G ≠ []) (ha : Nrm a) : a ≠ [] ∧ Sim a G := by
  obtain ⟨r, U, V, r0, e⟩ := h.bz
  have e' : ∀ x, r * pe G x = pe U x * pe a x := fun x => by have := e x; simp [pe] at this; exact o362 this
  have a0 : a ≠ [] := by
    rintro rfl
    refine G0 (pe_zero hG fun x => ?_)
    have := e' x
    simp only [pe, Int.mul_zero] at this
    exact (Int.mul_eq_zero.mp this).resolve_left r0
  have d := div_len r0 hG G0 ha a0 e'
  have := List.length_pos_iff.mpr d.2.2
  exact ⟨a0, h.sim_of hG G0 ha a0 (by exact o247 d.1 this)⟩
theorem Sim.len {a b : List Int} (s : Sim a b) (ha : Nrm a) (hb : Nrm b) : a.length = b.length := by
  obtain ⟨k, h, k0, h0, e⟩ := s
  have := eq_of_pe (nrm_scale ha (k := k)) (nrm_scale hb (k := h)) (fun x => by rw [pe_scale, pe_scale, Int.mul_comm, e x, Int.mul_comm])
  have := congrArg List.length this
  rwa [scale_length _ k0, scale_length _ h0] at this
/-! contents -/
theorem gcdFrom_scale (h : Int) : ∀ (xs : List Int) (g : Int), gcdFrom (h.natAbs * g) (xs.map (· * h)) = h.natAbs * gcdFrom g xs
  | [], g => rfl
  | x :: xs, g => by
    have e : ((Int.gcd (h.natAbs * g) (x * h) : Nat) : Int) = h.natAbs * (Int.gcd g x : Nat) := by
      have : Int.gcd (h.natAbs * g) (x * h) = h.natAbs * Int.gcd g x := by
        unfold Int.gcd
        rw [Int.natAbs_mul, Int.natAbs_mul, Int.natAbs_natCast, Nat.mul_comm x.natAbs, Nat.gcd_mul_left]
      rw [this]; simp
    show gcdFrom (Int.gcd (h.natAbs * g) (x * h)) (xs.map (· * h)) = _
    rw [e, gcdFrom_scale h xs]
    rfl
theorem gcdAll_scale {h : Int} (h0 : h ≠ 0) (p : List Int) : gcdAll (scaleL p h) = h.natAbs * gcdAll p := by
  have := gcdFrom_scale h p 0
  rw [Int.mul_zero] at this
  unfold scaleL
  rw [if_neg h0]
  exact this
theorem Gp.eq {q G : List Int} (hq : Gp q) (hG : Gp G) (s : Sim q G) : q = G := by
  obtain ⟨k, h, k0, h0, e⟩ := s
  have es := eq_of_pe (nrm_scale hq.nrm (k := k)) (nrm_scale hG.nrm (k := h)) (fun x => by rw [pe_scale, pe_scale, Int.mul_comm, e x, Int.mul_comm])
  have e1 := congrArg gcdAll es
  rw [gcdAll_scale k0, gcdAll_scale h0, hq.one, hG.one] at e1
  have e2 := congrArg lc es
  rw [lc_scale _ k0, lc_scale _ h0] at e2
  have kh : k = h := by
    have := hq.pos; have := hG.pos
    rcases Int.lt_trichotomy 0 k with p | p | p <;> rcases Int.lt_trichotomy 0 h with p' | p' | p' <;> try omega
    · have := Int.mul_pos hq.pos p; have := Int.mul_neg_of_pos_of_neg hG.pos p'; exact o361 e2 (by assumption) this
    · have := Int.mul_pos hG.pos p'; have := Int.mul_neg_of_pos_of_neg hq.pos p; exact o360 e2 (by assumption) this
  subst kh
  exact eq_of_pe hq.nrm hG.nrm fun x => Int.eq_of_mul_eq_mul_left k0 (e x)
noncomputable def conK (p : List Int) : Int := if 0 < lc p then gcdAll p else -gcdAll p
theorem conK_ne {p : List Int} (hp : Nrm p) (h : p ≠ []) : conK p ≠ 0 := by
  have := gcdAll_pos hp h
  unfold conK; split <;> (first | exact o122 this | exact o322 this)
theorem primL_cf {p : List Int} (hp : Nrm p) (h : p ≠ []) (n : Nat) : cf p n = conK p * cf (primL p) n := by
  have h0 := gcdAll_pos hp h
  have hk := conK_ne hp h
  have hdv := (gcdAll_dvd p (gcdAll p)).mp (Int.dvd_refl _)
  have hd : conK p ∣ cf p n := by
    have : gcdAll p ∣ cf p n := by
      by_cases hn : n < p.length
      · refine hdv _ ?_
        have : cf p n = p[n] := by simp [cf, hn]
        rw [this]; exact List.getElem_mem hn
      · rw [cf_out (by exact o279 hn)]; exact Int.dvd_zero _
    unfold conK
    split
    · exact this
    · exact Int.neg_dvd.mpr this
  have e : primL p = p.map (·.fdiv (conK p)) := by unfold primL conK; rw [if_neg h]
  rw [e, cf_map (f := (·.fdiv (conK p))) (by simp)]
  obtain ⟨t, ht⟩ := hd
  rw [ht, Int.mul_fdiv_cancel_left _ hk]
theorem pe_of_cf_mul {p q : List Int} {k : Int} (h : ∀ n, cf p n = k * cf q n) (x : Int) : pe p x = k * pe q x := by
  rw [← pe_map_mul]
  exact pe_cf (fun n => by rw [h n, cf_map (f := (k * ·)) (by simp)]) x
theorem primL_pe {p : List Int} (hp : Nrm p) (h : p ≠ []) (x : Int) : pe p x = conK p * pe (primL p) x := pe_of_cf_mul (primL_cf hp h) x
theorem primL_length (p : List Int) : (primL p).length = p.length := by
  unfold primL; split
  · rename_i h; subst h; rfl
  · simp
theorem primL_sim {p : List Int} (hp : Nrm p) (h : p ≠ []) : Sim p (primL p) := ⟨1, conK p, by decide, conK_ne hp h, fun x => by rw [primL_pe hp h]; exact o359⟩
theorem primL_ne {p : List Int} (h : p ≠ []) : primL p ≠ [] := fun q => by
  have := primL_length p
  rw [q] at this
  exact h (List.length_eq_zero_iff.mp this.symm)
theorem primL_gp {p : List Int} (hp : Nrm p) (h : p ≠ []) : Gp (primL p) := by
  have hk := conK_ne hp h
  have h0 := gcdAll_pos hp h
  have e1 : lc p = conK p * lc (primL p) := by
    rw [← cf_last, ← cf_last, primL_length, primL_cf hp h]
  have n0 := (nrm_last hp h).2
  have pos : 0 < lc (primL p) := by
    by_cases q : 0 < lc p
    · have e2 : conK p = gcdAll p := by unfold conK; rw [if_pos q]
      rw [e2] at e1
      rcases Int.lt_trichotomy 0 (lc (primL p)) with p' | p' | p'
      · exact p'
      · rw [← p'] at e1; exact o358 e1 n0
      · have := Int.mul_neg_of_pos_of_neg h0 p'; exact o357 e1 q this
    · have e2 : conK p = -gcdAll p := by unfold conK; rw [if_neg q]
      rw [e2] at e1
      rcases Int.lt_trichotomy 0 (lc (primL p)) with p' | p' | p'
      · exact p'
      · rw [← p'] at e1; exact o356 e1 n0
      · have := Int.mul_neg_of_pos_of_neg h0 p'
        rw [Int.neg_mul] at e1; exact o355 e1 q this
  have nq : Nrm (primL p) := nrm_of_last (by exact o122 pos)
  have es : p = scaleL (primL p) (conK p) := eq_of_pe hp (nrm_scale nq) fun x => by rw [pe_scale, primL_pe hp h, Int.mul_comm]
  have e3 : gcdAll p = (conK p).natAbs * gcdAll (primL p) := by
    conv => lhs; rw [es]
    exact gcdAll_scale hk _
  have e4 : ((conK p).natAbs : Int) = gcdAll p := by unfold conK; split <;> (first | exact o353 h0 | exact o354 h0)
  rw [e4] at e3
  refine ⟨?_, pos⟩
  have : gcdAll p * gcdAll (primL p) = gcdAll p * 1 := by exact o352 e3
  exact Int.eq_of_mul_eq_mul_left (by exact o122 h0) this
theorem prim_of_sim {p G : List Int} (hp : Nrm p) (h : p ≠ []) (hG : Gp G) (s : Sim p G) : primL p = G :=
  (primL_gp hp h).eq hG ((primL_sim hp h).symm.trans s)
theorem primL_bn {p : List Int} {k : Nat} (hp : Nrm p) (h : p ≠ []) (hb : Bn k p) : Bn k (primL p) := fun n => by
  have := hb n
  rw [primL_cf hp h, Int.natAbs_mul] at this
  have hk := conK_ne hp h
  have h2 : 1 * (cf (primL p) n).natAbs ≤ (conK p).natAbs * (cf (primL p) n).natAbs := Nat.mul_le_mul_right _ (by exact o240 hk)
  exact o351 this h2
theorem GI.prim {a b G : List Int} (h : GI a b G) (ha : Nrm a) (a0 : a ≠ []) (hb : Nrm b) (b0 : b ≠ []) : GI (primL a) (primL b) G :=
  (h.sim (primL_sim ha a0)).sim2 (primL_sim hb b0)

open PySem PySem.Calls PyProof.Rows
noncomputable abbrev L (x : List Int) : D := .list (x.map .int)
theorem e_eq {c : Cx} {A : Around} {sc : Scope} {O : List Str} {ρ : PEnv} {b : List D} {e : Expr} {d d' : D} (h : E1 c A sc O ρ b e d) (q : d = d') : E1 c A sc O ρ b e d' := q ▸ h
section
variable {c : Cx} (ok : c.Ok) (DD : Defs c) {A : Around} {e : Nat} {bx : List D} {P : D → List D → Prop}
include ok DD
theorem next_height_spec (hA : AD A (e + 1)) (f : Int) (n k : Nat) (hn : n ≤ 100) (hk : k ≤ 8000) (hf : f.natAbs < 2 ^ k) (h : P (.int (f ^ n)) bx) : CallP c A "next_height" [.int f, .int (n : Nat), .int 1] bx P := by
  refine enterF f_next_height m_next_height b_next_height ok DD hA rfl fun A hA => ?_; dsimp only [f_next_height, r_next_height]
  cases n with
  | zero =>
    rw [Int.pow_zero] at h
    refine m_ifp (p := ((0 : Nat) : Int) = 0) (by (repeat' wtm_at "w")) rfl ?_
    (repeat' wtm_at "w")
    exact h
  | succ n =>
    have p0 := powOk_of (x := f) (k := k) (n := n + 1) hf hk hn
    have e1 : ((n + 1 : Nat) : Int) - 1 = (n : Nat) := by exact o406
    have p1 : PowOk 1 (((n + 1 : Nat) : Int) - 1) := e1 ▸ powOk_of (x := 1) (k := 1) (n := n) (by decide) (by decide) (by exact o405 hn)
    have e2 : ¬ ((n + 1 : Nat) : Int) = 0 := by exact o404
    have o1 : DivOk (1 ^ (((n + 1 : Nat) : Int) - 1).toNat) := by rw [Int.one_pow]; exact divOk (by decide) (ok_pow 60 (by decide) (by decide))
    have e3 : (f ^ ((n + 1 : Nat) : Int).toNat).fdiv (1 ^ (((n + 1 : Nat) : Int) - 1).toNat) = f ^ (n + 1) := by rw [Int.one_pow, Int.toNat_natCast]; simp
    rw [← e3] at h
    refine m_ifn0 (by (repeat' wtm_at "w")) e2 (m_ret (e_div (e_pow (by (repeat' wtm_at "w")) (by (repeat' wtm_at "w")) p0) (e_pow (by (repeat' wtm_at "w")) (by (repeat' wtm_at "w")) p1) o1) (ret h))
end
/-- the one division of the subresultants that is not by one -/
theorem sub_exact {a b r r2 Q Q2 : List Int} (ha : Nrm a) (hb : Nrm b) (hr : Nrm r) (hr2 : Nrm r2) (l1 : a.length = b.length) (l2 : b.length = r.length + 1) (l3 : 2 ≤ r.length) (l4 : r2.length < r.length)
    (e1 : ∀ x, lc b * pe a x = pe Q x * pe b x + pe r x) (e2 : ∀ x, lc r ^ 2 * pe b x = pe Q2 x * pe r x + pe r2 x) : ∃ E : List Int, ∀ n, cf r2 n = lc b * cf E n := by
  obtain ⟨N, hN⟩ : ∃ N, r.length = N + 2 := ⟨r.length - 2, by exact o403 l3⟩
  have cb : cf b (N + 2) = lc b := by rw [← cf_last (p := b)]; congr 1; exact o402 l2 hN
  have ca : cf a (N + 2) = lc a := by rw [← cf_last (p := a)]; congr 1; exact o401 l1 l2 hN
  have cr : cf r (N + 1) = lc r := by rw [← cf_last (p := r)]; congr 1; exact o400 hN
  have w : r = trim (addL (a.map (lc b * ·)) ((b.map (lc a * ·)).map (- ·))) := by
    refine rest_unique (b := b) (Q := addL [lc a] (Q.map (- ·))) hb hr (trim_trim _) (by exact o399 l2) ?_ fun x => ?_
    · have := length_le_of_cf (p := trim (addL (a.map (lc b * ·)) ((b.map (lc a * ·)).map (- ·)))) (m := N + 2) (trim_trim _) fun n hn => by
        rw [cf_sub, cf_map (f := (lc b * ·)) (by simp), cf_map (f := (lc a * ·)) (by simp)]
        by_cases q : n = N + 2
        · subst q; rw [ca, cb]; grind
        · rw [cf_out (xs := a) (by exact o398 l1 l2 hN hn q), cf_out (xs := b) (by exact o397 l2 hN hn q)]; simp
      exact o396 l2 hN this
    · rw [pe_sub, pe_map_mul, pe_map_mul, pe_addL, pe_neg]
      have := e1 x
      simp only [pe]
      grind
  have cfr : ∀ n, cf r n = lc b * cf a n - lc a * cf b n := fun n => by
    conv => lhs; rw [w]
    rw [cf_sub, cf_map (f := (lc b * ·)) (by simp), cf_map (f := (lc a * ·)) (by simp)]
  have per : ∀ x, pe r x = lc b * pe a x - lc a * pe b x := fun x => by
    conv => lhs; rw [w]
    rw [pe_sub, pe_map_mul, pe_map_mul]
  have rho : lc r = lc b * cf a (N + 1) - lc a * cf b (N + 1) := by rw [← cr, cfr]
  let E := addL ((addL (b.map (cf a (N + 1) * ·)) (a.map ((-cf b (N + 1)) * ·))).map (lc r * ·)) (addL (r.map (cf r N * ·)) ((0 :: r).map ((-lc r) * ·)))
  have cE : ∀ n, cf E n = lc r * (cf a (N + 1) * cf b n + (-cf b (N + 1)) * cf a n) + (cf r N * cf r n + (-lc r) * cf (0 :: r) n) := fun n => by
    show cf (addL _ _) n = _
    rw [cf_addL, cf_addL, cf_map (f := (lc r * ·)) (by simp), cf_addL, cf_map (f := (cf a (N + 1) * ·)) (by simp), cf_map (f := ((-cf b (N + 1)) * ·)) (by simp), cf_map (f := (cf r N * ·)) (by simp), cf_map (f := ((-lc r) * ·)) (by simp)]
  have pE : ∀ x, pe E x = lc r * (cf a (N + 1) * pe b x + (-cf b (N + 1)) * pe a x) + (cf r N * pe r x + (-lc r) * (x * pe r x)) := fun x => by
    show pe (addL _ _) x = _
    rw [pe_addL, pe_addL, pe_map_mul, pe_addL, pe_map_mul, pe_map_mul, pe_map_mul, pe_map_mul]
    simp only [pe, Int.zero_add]
  have key : r2 = trim (E.map (lc b * ·)) := by
    refine rest_unique (b := r) (Q := addL [lc r * (cf b (N + 1)) - lc b * cf r N, lc b * lc r] (Q2.map (- ·))) hr hr2 (trim_trim _) l4 ?_ fun x => ?_
    · have := length_le_of_cf (p := trim (E.map (lc b * ·))) (m := N + 1) (trim_trim _) fun n hn => by
        rw [cf_trim, cf_map (f := (lc b * ·)) (by simp), cE]
        by_cases q : n = N + 1
        · subst q; rw [cf_cons_succ, cr]; grind
        · by_cases q : n = N + 2
          · subst q; rw [cf_cons_succ, ca, cb, cr, cf_out (xs := r) (i := N + 2) (by exact o395 hN)]; grind
          · rw [cf_out (xs := a) (i := n) (by exact o394 l1 l2 hN hn (by assumption) q), cf_out (xs := b) (i := n) (by exact o393 l2 hN hn (by assumption) q), cf_out (xs := r) (i := n) (by exact o392 hN hn (by assumption)), cf_out (xs := 0 :: r) (i := n) (by simp; exact o391 hN hn (by assumption) q)]; simp
      exact o390 hN this
    · rw [pe_trim, pe_map_mul, pE, pe_addL, pe_neg]
      have h2 := e2 x; have h3 := per x
      simp only [pe]
      grind
  refine ⟨E, fun n => ?_⟩
  rw [key, cf_trim, cf_map (f := (lc b * ·)) (by simp)]
structure SubH (a0 b0 G : List Int) : Prop where
  na : Nrm a0
  nb : Nrm b0
  n0 : b0 ≠ []
  l : b0.length ≤ a0.length
  l5 : a0.length ≤ 5
  lg : a0.length ≤ G.length + 2
  g : Gp G
  gi : GI a0 b0 G
  ba : Bn 12 a0
  bb : Bn 12 b0
structure SubR1 (a0 b0 r : List Int) : Prop where
  nr : Nrm r
  r0 : r ≠ []
  lr : r.length < b0.length
  br : Bn 78 r
  e : ∃ Q, ∀ x, lc b0 ^ (a0.length + 1 - b0.length) * pe a0 x = pe Q x * pe b0 x + pe r x
inductive SubI (a0 b0 G : List Int) : Nat → List (List Int) → List Int → List Int → Int → Int → Prop
  | p0 : SubI a0 b0 G 0 [a0, b0] a0 b0 1 1
  | p1 (r : List Int) (h : SubR1 a0 b0 r) : SubI a0 b0 G 1 [a0, b0, r] b0 r (lc b0) (lc b0 ^ (a0.length - b0.length))
  | p2 (r s : List Int) (f h : Int) (h1 : SubR1 a0 b0 r) (ns : Nrm s) (s0 : s ≠ []) (ls : s.length < r.length) (bs : Bn 474 s) (gi : GI r s G) (sg : s.length ≤ G.length) : SubI a0 b0 G 2 [a0, b0, r, s] r s f h
noncomputable def kk (n : Nat) : Nat := if n = 0 then 12 else if n = 1 then 78 else 474
structure SubF (G : List Int) (n : Nat) (a b : List Int) : Prop where
  na : Nrm a
  nb : Nrm b
  n0 : b ≠ []
  l : b.length ≤ a.length
  l5 : a.length ≤ 5
  gi : GI a b G
  ba : Bn (kk n) a
  bb : Bn (kk n) b
  n2 : n ≤ 2
theorem SubH.gi1 {a0 b0 G r : List Int} (H : SubH a0 b0 G) (h : SubR1 a0 b0 r) : GI b0 r G := by
  obtain ⟨Q, e⟩ := h.e
  exact H.gi.step (Int.pow_ne_zero (nrm_last H.nb H.n0).2) e
theorem SubI.facts {a0 b0 G a b : List Int} {n : Nat} {rows : List (List Int)} {f h : Int} (H : SubH a0 b0 G) (I : SubI a0 b0 G n rows a b f h) : SubF G n a b := by
  have := H.l5; have := H.l
  cases I with
  | p0 => exact ⟨H.na, H.nb, H.n0, H.l, H.l5, H.gi, H.ba, H.bb, by exact o389⟩
  | p1 _ h1 => exact ⟨H.nb, h1.nr, h1.r0, by have := h1.lr; exact o386 this, by exact o388 (by assumption) this, H.gi1 h1, H.bb.mono (by simp [kk]), h1.br, by exact o387⟩
  | p2 r s f h h1 ns s0 ls bs gi sg => exact ⟨h1.nr, ns, s0, by exact o386 ls, by have := h1.lr; exact o385 (by assumption) (by assumption) this, gi, h1.br.mono (by simp [kk]), bs, by exact o384⟩
/-- what stands at the end -/
structure SubR (G : List Int) (rows : List (List Int)) : Prop where
  shape : (∃ a b, rows = [a, b] ∧ b.length ≤ a.length) ∨ (∃ a b r, rows = [a, b, r] ∧ b.length ≤ a.length ∧ r.length < b.length) ∨ (∃ a b r s, rows = [a, b, r, s] ∧ b.length ≤ a.length ∧ r.length < b.length ∧ s.length < r.length)
  last : ∃ l, rows.getLast? = some l ∧ Nrm l ∧ l ≠ [] ∧ Sim l G ∧ Bn 474 l
theorem SubI.done {a0 b0 G a b : List Int} {n : Nat} {rows : List (List Int)} {f h : Int} (H : SubH a0 b0 G) (I : SubI a0 b0 G n rows a b f h) (s : Sim b G) : SubR G rows := by
  have F := I.facts H
  have lb : rows.getLast? = some b := by cases I <;> rfl
  refine ⟨?_, b, lb, F.nb, F.n0, s, F.bb.mono (by unfold kk; split <;> (try split) <;> (first | exact o383 (by assumption) | exact o372 | exact o373))⟩
  cases I with
  | p0 => exact .inl ⟨_, _, rfl, H.l⟩
  | p1 _ h1 => exact .inr (.inl ⟨_, _, _, rfl, H.l, h1.lr⟩)
  | p2 r s f h h1 ns s0 ls bs gi sg => exact .inr (.inr ⟨_, _, _, _, rfl, H.l, h1.lr, ls⟩)
theorem map_fdiv_cf {r E : List Int} {β : Int} (hβ : β ≠ 0) (h : ∀ n, cf r n = β * cf E n) (n : Nat) : cf r n = β * cf (r.map (·.fdiv β)) n := by
  rw [cf_map (f := (·.fdiv β)) (by simp), h n, Int.mul_fdiv_cancel_left _ hβ]
theorem SubI.step {a0 b0 G a b r : List Int} {n : Nat} {rows : List (List Int)} {f h : Int} (H : SubH a0 b0 G) (I : SubI a0 b0 G n rows a b f h) (nr : Nrm r) (r0 : r ≠ []) (lr : r.length < b.length)
    (br : Bn (kk n + 5 * (kk n + 1) + 1) r) (e : ∃ Q, ∀ x, lc b ^ (a.length + 1 - b.length) * pe a x = pe Q x * pe b x + pe r x) :
    h = 1 ∧ f ≠ 0 ∧ f.natAbs < 2 ^ 12 ∧ n < 2 ∧ SubI a0 b0 G (n + 1) (rows ++ [r.map (·.fdiv f)]) b (r.map (·.fdiv f)) (lc b) (lc b ^ (a.length - b.length)) := by
  have F := I.facts H
  obtain ⟨Q, e⟩ := e
  have gr : GI b r G := F.gi.step (Int.pow_ne_zero (nrm_last F.nb F.n0).2) e
  have lg := gr.swap.le H.g.nrm H.g.ne nr r0
  cases I with
  | p0 =>
    refine ⟨rfl, by decide, by decide, by decide, ?_⟩
    have e1 : r.map (·.fdiv 1) = r := by simp
    rw [e1]
    exact .p1 r ⟨nr, r0, lr, br, Q, e⟩
  | p1 _ h1 =>
    have := h1.lr; have := H.l; have := H.lg
    have ll : a0.length - b0.length = 0 := by exact o382 lr lg (by assumption) this
    obtain ⟨Q1, e1⟩ := h1.e
    have lb := nrm_last H.nb H.n0
    have q1 : a0.length + 1 - b0.length = 1 := by exact o381 (by assumption) ll
    have q2 : b0.length + 1 - b.length = 2 := by exact o380 lr lg (by assumption) (by assumption) this
    rw [q1, Int.pow_one] at e1
    rw [q2] at e
    have lG := List.length_pos_iff.mpr H.g.ne
    obtain ⟨E, hE⟩ := sub_exact (a := a0) (b := b0) (r := b) (r2 := r) H.na H.nb h1.nr nr (by exact o379 q1) (by exact o378 q2) (by exact o377 lr lg lG) lr (fun x => e1 x) e
    have hq := map_fdiv_cf lb.2 hE
    have nq : Nrm (r.map (·.fdiv (lc b0))) := by
      refine nrm_of_last fun q => (nrm_last nr r0).2 ?_
      have := hq (r.length - 1)
      rw [cf_last, show r.length - 1 = (r.map (·.fdiv (lc b0))).length - 1 by simp, cf_last, q] at this
      simpa using this
    have pq := pe_of_cf_mul hq
    refine ⟨by rw [ll, Int.pow_zero], lb.2, H.bb.lc, by decide, .p2 b _ _ _ h1 nq (by simpa using r0) (by simpa using lr) ?_ ?_ (by simp; exact o376 lr (by assumption) (by assumption) this)⟩
    · intro n
      have h2 := br n
      rw [hq n, Int.natAbs_mul] at h2
      have h3 : 1 * (cf (r.map (·.fdiv (lc b0))) n).natAbs ≤ (lc b0).natAbs * (cf (r.map (·.fdiv (lc b0))) n).natAbs := Nat.mul_le_mul_right _ (by have := lb.2; exact o240 this)
      exact Nat.lt_of_le_of_lt (by exact o375 h3) h2
    · exact gr.sim2 ⟨1, lc b0, by decide, lb.2, fun x => by rw [pq]; exact o359⟩
  | p2 r' s f h h1 ns s0 ls bs gi sg => omega
section
variable {c : Cx} (ok : c.Ok) (DD : Defs c) {A : Around} {e : Nat} {bx : List D} {P : D → List D → Prop}
include ok DD
theorem subresultants_spec (hA : AD A (e + 6)) (a b G : List Int) (ha : Nrm a) (hb : Nrm b) (a0 : a ≠ []) (b0 : b ≠ []) (la : a.length ≤ 5) (lb : b.length ≤ 5) (lga : a.length ≤ G.length + 2) (lgb : b.length ≤ G.length + 2)
    (g : Gp G) (gi : GI a b G) (ba : Bn 12 a) (bb : Bn 12 b) (h : ∀ rows, SubR G rows → P (.list (rows.map L)) bx) : CallP c A "subresultants" [L a, L b] bx P := by
  have hlen : ∀ x : List Int, ((x.map D.int).length : Int) = x.length := fun x => by simp
  refine enterF f_subresultants m_subresultants b_subresultants ok DD hA rfl fun A hA => ?_; dsimp only [f_subresultants, r_subresultants]
  refine l_if_inv (fun ρ' => ∃ hi lo, SubH hi lo G ∧ ρ' "a" = some (.list (hi.map .int)) ∧ ρ' "b" = some (.list (lo.map .int))) (m_test (by (repeat' wtm_at "w")) (fun hlt => ?_) fun hlt => ⟨rfl, ?_⟩) fun ρ' hI => ?_
  · rw [hlen, hlen] at hlt
    (repeat' wtm_at "w")
    exact ⟨rfl, b, a, ⟨hb, ha, a0, by exact o374 hlt, lb, lgb, g, gi.swap, bb, ba⟩, rfl, rfl⟩
  · rw [hlen, hlen] at hlt
    exact ⟨a, b, ⟨ha, hb, b0, by exact o145 hlt, la, lga, g, gi, ba, bb⟩, rfl, rfl⟩
  obtain ⟨hi, lo, H, g1, g2⟩ := hI
  (repeat' wtm_at "w")
  refine l_while (fun (n : Nat) => 3 - n) (fun n ρ b' => b' = bx ∧ ∃ rows x y f h, SubI hi lo G n rows x y f h ∧ ρ "a" = some (.list (x.map .int)) ∧ ρ "b" = some (.list (y.map .int)) ∧ ρ "row" = some (.list (rows.map L)) ∧ ρ "front" = some (.int f) ∧ ρ "height" = some (.int h)) 0 ?_ ?_
  · exact ⟨rfl, _, _, _, _, _, .p0, g1, g2, rfl, rfl, rfl⟩
  rintro n ρ b' ⟨rfl, rows, x, y, f, ht, I, h1, h2, h3, h4, h5⟩
  have F := I.facts H
  have rl : rows.length ≤ 4 := by cases I <;> simp
  have fl := F.l; have fl5 := F.l5
  refine m_test (by (repeat' wtm_at "w")) (fun hl => ?_) fun hl => ?_ <;> rw [hlen] at hl
  · have kb : kk n ≤ 474 := by unfold kk; split <;> (try split) <;> (first | exact o371 | exact o372 | exact o373)
    have eL : ((x.map D.int).length : Int) - ((y.map D.int).length : Int) = ((x.length - y.length : Nat) : Int) := by rw [hlen, hlen]; exact o210 fl
    refine m_set rfl (by (repeat' wtm_at "w")) ?_
    rw [eL]
    refine l_set rfl (v_call (ds := [.list (x.map .int), .list (y.map .int)]) (DD.has (by kernel_rfl)) rfl rfl rfl (by (repeat' wtm_at "w")) (zpseudo_spec ok DD hA x y (kk n) F.na F.nb F.n0 F.l5 (by exact o370 fl fl5) (by exact o369 kb) F.ba F.bb fun r nr lr br hq => ?_))
    by_cases r0 : r = []
    · subst r0
      obtain ⟨Q, hQ⟩ := hq
      have s := (F.gi.step (Int.pow_ne_zero (nrm_last F.nb F.n0).2) hQ).last H.g.nrm H.g.ne F.nb
      refine m_ifp (p := (((([] : List Int).map D.int).length : Nat) : Int) = 0) (by (repeat' wtm_at "w")) rfl ?_
      (repeat' wtm_at "w")
      exact h _ (I.done H s.2)
    · obtain ⟨rfl, f0, fb, n2, I'⟩ := I.step H nr r0 lr br hq
      have okf : Ok f := ok_pow 12 (by decide) fb
      have p1 := powOk_of (x := 1) (k := 1) (n := x.length - y.length) (by decide) (by decide) (by exact o367 fl5)
      have q1 : (1 : Int) ^ ((x.length - y.length : Nat) : Int).toNat = 1 := Int.one_pow
      have m1 : MulOk f (1 ^ ((x.length - y.length : Nat) : Int).toNat) := by rw [q1]; exact mulOk okf (ok_pow 60 (by decide) (by decide))
      have em : D.int (f * 1 ^ ((x.length - y.length : Nat) : Int).toNat) = .int f := by rw [q1, Int.mul_one]
      have rlim : (rows.map L).length < lim := by rw [List.length_map]; unfold lim; exact o368 rl
      refine m_ifn0 (p := ((r.map D.int).length : Int) = 0) (by (repeat' wtm_at "w")) (by simpa using r0) (m_tup2 rfl (p1_cons (by rfl) (by (repeat' wtm_at "w")) rfl (p1_cons (by rfl) (e_call (ds := [.list (r.map .int), .int f]) (DD.has (by kernel_rfl)) rfl rfl rfl
        (s1_cons rfl (by (repeat' wtm_at "w")) (s1_cons rfl (e_eq (e_mul (e_name h4 rfl) (e_pow (e_name h5 rfl) (e_name rfl rfl) p1) m1) em) s1_nil)) (zdivided_spec ok DD hA r f f0 okf ⟨rfl, rfl⟩)) rfl p1_nil)) (m_app h3 rfl rlim (by (repeat' wtm_at "w")) ?_))
      (repeat' (first | ((guard_target = C1 _ _ _ _ _ _); first | (refine zlead_spec ok DD hA _ ⟨rfl, rfl⟩) | (refine next_height_spec ok DD hA _ _ 474 (by exact o367 fl5) (by decide) (Bn.lc (F.bb.mono kb)) ⟨rfl, rfl⟩)) | wtm_at "w"))
      exact ⟨n + 1, by exact o366 n2, rfl, _, _, _, _, _, I', rfl, rfl, by simp [L, upd, ofString_inj], rfl, rfl⟩
  · (repeat' wtm_at "w")
    have hy := List.length_pos_iff.mpr F.n0
    have hG := List.length_pos_iff.mpr H.g.ne
    exact h _ (I.done H (F.gi.swap.sim_of H.g.nrm H.g.ne F.nb F.n0 (by exact o365 hl hG)))
end

open PySem PySem.Calls PyProof.Rows
theorem Gp.len1 {G : List Int} (h : Gp G) (l : G.length = 1) : G = [1] := by
  obtain ⟨c, rfl⟩ := List.length_eq_one_iff.mp l
  have h1 := h.one; have h2 := h.pos
  simp [gcdAll, gcdFrom] at h1
  simp [lc] at h2
  congr 1; exact o422 h1 h2
theorem gcdAll_ok {p : List Int} {k : Nat} (hp : Nrm p) (hk : k ≤ 8000) (hb : Bn k p) : Ok (gcdAll p) := ok_pow k hk (gcdAll_le hp hb)
section
variable {c : Cx} (ok : c.Ok) (DD : Defs c) {A : Around} {e : Nat} {bx : List D} {P : D → List D → Prop}
include ok DD
theorem prim_spec (hA : AD A (e + 4)) (p : List Int) (k : Nat) (hk : k ≤ 8000) (hp : Nrm p) (hb : Bn k p) (h : P (L (primL p)) bx) : CallP c A "zprimitive" [L p] bx P :=
  zprimitive_spec ok DD hA p (fun h => by have := gcdAll_pos hp h; exact o122 this) (gcdAll_ok hp hk hb) h
end
theorem primL_ok {p : List Int} {k : Nat} (hp : Nrm p) (hk : k ≤ 8000) (hb : Bn k p) : ∀ x ∈ primL p, Ok x := by
  by_cases h : p = []
  · subst h; intro x hx; cases hx
  · exact (primL_bn hp h hb).ok hk
noncomputable def onlyL (a b : List Int) : List Int := if a = [] then b else a
theorem ite_only (a b : List Int) : (if ((a.map D.int).length : Int) = 0 then L b else L a) = L (onlyL a b) := by
  unfold onlyL
  by_cases h : a = []
  · subst h; rfl
  · rw [if_neg h, if_neg (by simpa using h)]
theorem only_h {a b : List Int} {p : List Int → Prop} (ha : p a) (hb : p b) : p (onlyL a b) := by
  unfold onlyL; split <;> assumption
theorem nil_or {a b : List Int} : (((a.map D.int).length : Int) = 0 ∨ ((b.map D.int).length : Int) = 0) ↔ (a = [] ∨ b = []) := by simp
section
variable {c : Cx} (ok : c.Ok) (DD : Defs c) {A : Around} {e : Nat} {bx : List D} {P : D → List D → Prop}
include ok DD
theorem zgcd_nil (hA : AD A (e + 7)) (a b : List Int) (ha : Nrm a) (hb : Nrm b) (h : a = [] ∨ b = []) (ba : Bn 12 a) (bb : Bn 12 b) (hP : P (L (scaleL (primL (onlyL a b)) (gcdAll (onlyL a b)))) bx) : CallP c A "zgcd" [L a, L b] bx P := by
  refine enterF f_zgcd m_zgcd b_zgcd ok DD hA rfl fun A hA => ?_; dsimp only [f_zgcd, r_zgcd]
  refine m_ifp (t1_or2 (by (repeat' wtm_at "w")) fun _ => by (repeat' wtm_at "w")) (nil_or.mpr h) (m_set rfl (e_itb (by (repeat' wtm_at "w")) (by (repeat' wtm_at "w")) (by (repeat' wtm_at "w"))) ?_)
  rw [ite_only]
  have no := only_h ha hb
  have bo := only_h ba bb
  generalize onlyL a b = o at *
  (repeat' (first | ((guard_target = C1 _ _ _ _ _ _); first | (refine prim_spec ok DD hA _ 12 (by decide) no bo ⟨rfl, rfl⟩) | (refine zcontent_spec ok DD hA _ ⟨rfl, rfl⟩) | (refine zscale_spec ok DD hA _ _ (primL_ok no (by decide) bo) (gcdAll_ok no (by decide) bo) ⟨rfl, rfl⟩)) | wtm_at "w"))
  exact hP
end
theorem pick_neg1 {rows : List (List Int)} {l : List Int} (h : rows.getLast? = some l) : pick (rows.map L) (-1) = some (L l) := by
  have h0 : rows ≠ [] := by rintro rfl; cases h
  have hl := List.length_pos_iff.mpr h0
  unfold pick
  rw [if_neg (by exact o155 hl), if_pos (by simp; exact o154 hl)]
  have : ((-1 : Int) + ((rows.map L).length : Nat)).toNat = rows.length - 1 := by simp; exact o153 hl
  rw [this, List.getElem?_map, ← List.getLast?_eq_getElem?, h]
  rfl
noncomputable def GHyp (a b G : List Int) (k : Nat) : Prop := Nrm a ∧ Nrm b ∧ a ≠ [] ∧ b ≠ [] ∧ a.length ≤ 5 ∧ b.length ≤ 5 ∧ a.length ≤ G.length + 2 ∧ b.length ≤ G.length + 2 ∧ Gp G ∧ GI a b G ∧ Bn k a ∧ Bn k b
theorem GHyp.swap {a b G : List Int} {k : Nat} (h : GHyp a b G k) : GHyp b a G k := by
  obtain ⟨h1, h2, h3, h4, h5, h6, h7, h8, h9, h10, h11, h12⟩ := h
  exact ⟨h2, h1, h4, h3, h6, h5, h8, h7, h9, h10.swap, h12, h11⟩
section
variable {c : Cx} (ok : c.Ok) (DD : Defs c) {A : Around} {e : Nat} {bx : List D} {P : D → List D → Prop}
include ok DD
theorem zgcd_spec (hA : AD A (e + 7)) (a b G : List Int) (h : GHyp a b G 12) (hP : P (L (scaleL G (Int.gcd (gcdAll a) (gcdAll b)))) bx) : CallP c A "zgcd" [L a, L b] bx P := by
  obtain ⟨ha, hb, a0, b0, la, lb, lga, lgb, g, gi, ba, bb⟩ := h
  have pa := gcdAll_pos ha a0
  have hn : 0 < Int.gcd (gcdAll a) (gcdAll b) := Int.gcd_pos_of_ne_zero_left _ (by exact o122 pa)
  have hle : Int.gcd (gcdAll a) (gcdAll b) ≤ (gcdAll a).natAbs := Nat.le_of_dvd (by exact o414 pa) (Int.natAbs_dvd_natAbs.mpr (Int.gcd_dvd_left (gcdAll a) (gcdAll b)))
  have hok : Ok ((Int.gcd (gcdAll a) (gcdAll b) : Nat) : Int) := ok_of_lt (y := gcdAll a) (by simpa using hle) (gcdAll_ok ha (by decide) ba)
  generalize hN : Int.gcd (gcdAll a) (gcdAll b) = N at *
  refine enterF f_zgcd m_zgcd b_zgcd ok DD hA rfl fun A hA => ?_; dsimp only [f_zgcd, r_zgcd]
  refine m_ifn0 (t1_or2 (by (repeat' wtm_at "w")) fun _ => by (repeat' wtm_at "w")) (fun q => (nil_or.mp q).elim a0 b0) (m_set rfl (by (repeat' (first | ((guard_target = C1 _ _ _ _ _ _); first | (refine gcd_spec ok DD hA _ _ ⟨rfl, rfl⟩) | (refine zcontent_spec ok DD hA _ ⟨rfl, rfl⟩)) | wtm_at "w"))) ?_)
  rw [hN]
  refine l_set rfl (r_sub rfl (b_ev (v_call (ds := [L (primL a), L (primL b)]) (DD.has (by kernel_rfl)) rfl rfl rfl (by (repeat' (first | ((guard_target = C1 _ _ _ _ _ _); first | (refine prim_spec ok DD hA _ 12 (by decide) (by assumption) (by assumption) ⟨rfl, rfl⟩)) | wtm_at "w"))) (subresultants_spec ok DD hA (primL a) (primL b) G (primL_gp ha a0).nrm (primL_gp hb b0).nrm (primL_ne a0) (primL_ne b0)
    (by rw [primL_length]; exact la) (by rw [primL_length]; exact lb) (by rw [primL_length]; exact lga) (by rw [primL_length]; exact lgb) g (gi.prim ha a0 hb b0) (primL_bn ha a0 ba) (primL_bn hb b0 bb) fun rows R => ?_))))
  obtain ⟨l, e1, nl, l0, sl, bl⟩ := R.last
  refine v_of (e_neg e_int) ⟨_, rfl, _, pick_neg1 e1, ?_⟩
  have e2 := prim_of_sim nl l0 g sl
  have gb : Bn 474 G := e2 ▸ primL_bn nl l0 bl
  have ll := sl.len nl g.nrm
  have hN0 : (N : Int) ≠ 0 := by exact o411 hn
  by_cases h1 : 1 < l.length
  · have h1' : (1 : Int) < ((l.map D.int).length : Int) := by rw [List.length_map]; exact o421 h1
    rw [← e2] at hP gb
    refine m_ret (e_itp (by (repeat' wtm_at "w")) h1' (by (repeat' (first | ((guard_target = C1 _ _ _ _ _ _); first | (refine prim_spec ok DD hA _ 474 (by decide) nl bl ⟨rfl, rfl⟩) | (refine zscale_spec ok DD hA _ _ (gb.ok (by decide)) hok ⟨rfl, rfl⟩)) | wtm_at "w")))) (ret hP)
  · have h1' : ¬ (1 : Int) < ((l.map D.int).length : Int) := by rw [List.length_map]; exact o420 h1
    have hl0 := List.length_pos_iff.mpr l0
    have e3 := g.len1 (by exact o419 ll h1 hl0)
    subst e3
    rw [show scaleL [1] (N : Int) = [(N : Int)] by unfold scaleL; rw [if_neg hN0]; simp] at hP
    change P (.list [.int (N : Int)]) bx at hP
    refine m_ret (e_itn (by (repeat' wtm_at "w")) h1' (by (repeat' wtm_at "w"))) (ret hP)
theorem zcoprime_spec (hA : AD A (e + 8)) (a b G : List Int) (h : GHyp a b G 12) (hP : P (.bool (decide (G.length = 1))) bx) : CallP c A "zcoprime" [L a, L b] bx P := by
  have hp := gcdAll_pos h.1 h.2.2.1
  have hn : 0 < Int.gcd (gcdAll a) (gcdAll b) := Int.gcd_pos_of_ne_zero_left _ (by exact o122 hp)
  have e : (scaleL G ((Int.gcd (gcdAll a) (gcdAll b) : Nat) : Int)).length = G.length := scale_length _ (by exact o411 hn)
  have e2 : decide (G.length = 1) = decide ((((scaleL G ((Int.gcd (gcdAll a) (gcdAll b) : Nat) : Int)).map D.int).length : Int) = 1) := decide_eq_decide.mpr (by rw [List.length_map, e]; exact o418)
  rw [e2] at hP
  refine enterF f_zcoprime m_zcoprime b_zcoprime ok DD hA rfl fun A hA => ?_; dsimp only [f_zcoprime, r_zcoprime]
  (repeat' (first | ((guard_target = C1 _ _ _ _ _ _); first | (refine zgcd_spec ok DD hA _ _ G h ⟨rfl, rfl⟩)) | wtm_at "w"))
  exact hP
end
theorem scale_mul1 (G : List Int) {n : Int} (h : n ≠ 0) : scaleL G n = G.map (· * n) := by unfold scaleL; rw [if_neg h]
noncomputable def k4 (i : Nat) : Nat := if i = 0 then 12 else if i = 1 then 77 else if i = 2 then 467 else 2807
structure LcI (G : List Int) (i : Nat) (a b : List Int) : Prop where
  na : Nrm a
  nb : Nrm b
  la : a.length ≤ 5
  lb : b.length ≤ 5
  li : b = [] ∨ b.length + i ≤ G.length + 2
  gi : GI a b G
  pa : a ≠ [] → Gp a
  pb : b ≠ [] → Gp b
  ba : Bn (k4 i) a
  bb : Bn (k4 i) b
  ii : i ≤ 3
theorem k4_mono (i : Nat) : k4 i ≤ k4 (i + 1) := by
  unfold k4
  repeat' split
  all_goals omega
theorem primL_bn' {p : List Int} {k : Nat} (hp : Nrm p) (hb : Bn k p) : Bn k (primL p) := by
  by_cases h : p = []
  · subst h; exact Bn.nil k
  · exact primL_bn hp h hb
theorem primL_nrm {p : List Int} (hp : Nrm p) : Nrm (primL p) := by
  by_cases h : p = []
  · subst h; rfl
  · exact (primL_gp hp h).nrm
theorem LcI.step {G a b r : List Int} {i : Nat} (g : Gp G) (I : LcI G i a b) (b0 : b ≠ []) (nr : Nrm r) (lr : r.length < b.length) (br : Bn (k4 i + 5 * (k4 i + 1)) r) (e : ∃ j Q, ∀ x, lc b ^ j * pe a x = pe Q x * pe b x + pe r x) : LcI G (i + 1) b (primL r) := by
  obtain ⟨j, Q, e⟩ := e
  have gr : GI b r G := I.gi.step (Int.pow_ne_zero (nrm_last I.nb b0).2) e
  have lg := I.gi.swap.le g.nrm g.ne I.nb b0
  have li := I.li.resolve_left b0
  have lb := I.lb
  have hk : k4 i + 5 * (k4 i + 1) ≤ k4 (i + 1) := by
    have : i = 0 ∨ i = 1 ∨ i = 2 := by exact o413 lg li
    rcases this with rfl | rfl | rfl <;> simp [k4]
  refine ⟨I.nb, primL_nrm nr, lb, by rw [primL_length]; exact o417 lr lb, ?_, ?_, I.pb, fun q => ?_, I.bb.mono (k4_mono i), primL_bn' nr (br.mono hk), by exact o416 lg li⟩
  · rw [primL_length]
    by_cases r0 : r = []
    · subst r0; exact .inl rfl
    · exact .inr (by exact o415 lr li)
  · by_cases r0 : r = []
    · subst r0; exact gr
    · exact gr.sim2 (primL_sim nr r0)
  · refine primL_gp nr ?_
    rintro rfl; exact q rfl
section
variable {c : Cx} (ok : c.Ok) (DD : Defs c) {A : Around} {e : Nat} {bx : List D} {P : D → List D → Prop}
include ok DD
theorem law_common_spec (hA : AD A (e + 3)) (a b G : List Int) (h : GHyp a b G 12) (hP : P (L (scaleL G (Int.gcd (gcdAll a) (gcdAll b)))) bx) : CallP c A "_law_common" [L a, L b] bx P := by
  obtain ⟨ha, hb, a0, b0, la, lb, lga, lgb, g, gi, ba, bb⟩ := h
  have pa := gcdAll_pos ha a0
  have hn : 0 < Int.gcd (gcdAll a) (gcdAll b) := Int.gcd_pos_of_ne_zero_left _ (by exact o122 pa)
  have hle : Int.gcd (gcdAll a) (gcdAll b) ≤ (gcdAll a).natAbs := Nat.le_of_dvd (by exact o414 pa) (Int.natAbs_dvd_natAbs.mpr (Int.gcd_dvd_left (gcdAll a) (gcdAll b)))
  have hok : Ok ((Int.gcd (gcdAll a) (gcdAll b) : Nat) : Int) := ok_of_lt (y := gcdAll a) (by simpa using hle) (gcdAll_ok ha (by decide) ba)
  generalize hN : Int.gcd (gcdAll a) (gcdAll b) = N at *
  refine enterF f_law_common m_law_common b_law_common ok DD hA rfl fun A hA => ?_; dsimp only [f_law_common, r_law_common]
  refine l_unp2 rfl (v_of (by (repeat' (first | ((guard_target = C1 _ _ _ _ _ _); first | (refine law_bare_spec ok DD hA _ ha (ba.mono (by decide)) ⟨rfl, rfl⟩)) | wtm_at "w"))) ⟨_, rfl, rfl, k_u2 (l_unp2 rfl (v_of (by (repeat' (first | ((guard_target = C1 _ _ _ _ _ _); first | (refine law_bare_spec ok DD hA _ hb (bb.mono (by decide)) ⟨rfl, rfl⟩)) | wtm_at "w"))) ⟨_, rfl, rfl, k_u2 (m_set rfl (by (repeat' (first | ((guard_target = C1 _ _ _ _ _ _); first | (refine law_part_spec ok DD hA _ _ ⟨rfl, rfl⟩)) | wtm_at "w"))) ?_)⟩))⟩)
  rw [hN]
  refine l_while (fun (p : Nat × List Int) => p.2.length) (fun p ρ b' => b' = bx ∧ ∃ x, LcI G p.1 x p.2 ∧ ρ "left" = some (L x) ∧ ρ "right" = some (L p.2) ∧ ρ "content" = some (.int N)) (0, primL b)
    ⟨rfl, primL a, ⟨primL_nrm ha, primL_nrm hb, by rw [primL_length]; exact la, by rw [primL_length]; exact lb, .inr (by rw [primL_length]; exact lgb), gi.prim ha a0 hb b0, fun _ => primL_gp ha a0, fun _ => primL_gp hb b0, primL_bn' ha ba, primL_bn' hb bb, Nat.zero_le _⟩, rfl, rfl, rfl⟩ ?_
  rintro ⟨i, y⟩ ρ b' ⟨rfl, x, I, h1, h2, h3⟩
  dsimp only at I h2 ⊢
  refine m_test (by (repeat' wtm_at "w")) (fun y0 => ?_) fun y0 => ?_
  · have lg := I.gi.swap.le g.nrm g.ne I.nb y0
    have li := I.li.resolve_left y0
    have hk : k4 i ≤ 600 := by
      have : i = 0 ∨ i = 1 ∨ i = 2 := by exact o413 lg li
      rcases this with rfl | rfl | rfl <;> simp [k4]
    refine l_tup2 rfl (p_cons rfl (v_of (by (repeat' wtm_at "w")) ⟨rfl, p_cons rfl (r_sub rfl (b_ev (r_call (DD.has (by kernel_rfl)) rfl rfl rfl (s_cons rfl (v_call (ds := [L x, L y]) (DD.has (by kernel_rfl)) rfl rfl rfl (by (repeat' wtm_at "w")) (law_rest_spec ok DD hA x y (k4 i) I.na I.nb y0 I.la I.lb hk I.ba I.bb
      fun r nr lr br hq => s_nil (law_bare_spec ok DD hA r nr (br.mono (by exact o412 hk)) (v_of e_int ⟨_, rfl, _, rfl, rfl, p_nil (k_u2 (l_nil ?_))⟩))))))))⟩))
    exact ⟨(i + 1, primL r), by dsimp only; rw [primL_length]; exact lr, rfl, y, I.step g y0 nr lr br hq, rfl, rfl, h3⟩
  · have y0 := Decidable.of_not_not y0
    subst y0
    have gl := I.gi.last g.nrm g.ne I.na
    have e1 := (I.pa gl.1).eq g gl.2
    subst e1
    have hN0 : (N : Int) ≠ 0 := by exact o411 hn
    have hk : k4 i ≤ 8000 := by unfold k4; repeat' split
                                all_goals (first | exact o407 | exact o408 | exact o409 | exact o410)
    rw [scale_mul1 _ hN0] at hP
    refine m_ret (e_ci (g := fun n => n * (N : Int)) rfl (fun _ _ => rfl) (by (repeat' wtm_at "w")) fun n hx => k_b1 rfl (e_mul (by (repeat' wtm_at "w")) (e_name h3 rfl) (mulOk (I.ba.ok hk n hx) hok))) (ret hP)
end

open PySem PySem.Calls PyProof.Rows
/-! images modulo a prime, plainly -/
theorem euclid {p x y : Int} (hp : PrimeI p) (h : p ∣ x * y) : p ∣ x ∨ p ∣ y := by
  have hp2 := hp.1
  by_cases hx : p ∣ x
  · exact .inl hx
  · refine .inr ?_
    have e1 := fmod_eq x p
    have hf := fmod_lt x (y := p) (by exact o262 hp2)
    have h0 : x.fmod p ≠ 0 := fun q => hx (Int.dvd_of_fmod_eq_zero q)
    have g := gcd_prime hp (a := x.fmod p) (by exact o103 hf.1 h0) hf.2
    have h1 : p ∣ x.fmod p * y := by
      have : x.fmod p * y = x * y - p * (x.fdiv p * y) := by
        have : x.fmod p = x - p * x.fdiv p := by exact o462 e1
        rw [this]; grind
      rw [this]
      exact Int.dvd_sub h ⟨_, rfl⟩
    have h2 : (p.natAbs) ∣ (x.fmod p).natAbs * y.natAbs := by rw [← Int.natAbs_mul]; exact Int.natAbs_dvd_natAbs.mpr h1
    have h3 : Nat.Coprime p.natAbs (x.fmod p).natAbs := by
      have : Nat.gcd (x.fmod p).natAbs p.natAbs = 1 := g
      rw [Nat.coprime_iff_gcd_eq_one, Nat.gcd_comm]; exact this
    exact Int.natAbs_dvd_natAbs.mp (h3.dvd_of_dvd_mul_left h2)
theorem cg_dvd {p : Int} {a b : List Int} (h : Cg p (pe a) (pe b)) {n : Nat} (q : p ∣ cf a n) : p ∣ cf b n := by
  obtain ⟨w, hw⟩ := h.cf n
  have : cf b n = cf a n - p * w := by exact o462 hw
  rw [this]
  exact Int.dvd_sub q ⟨w, rfl⟩
theorem red_dvd {p x : Int} (h : 0 ≤ x ∧ x < p) (q : p ∣ x) : x = 0 := by
  apply Classical.byContradiction
  intro h0
  have := Int.le_of_dvd (by exact o461 h.1 h0) q
  exact o460 h.2 this
theorem mod_top {p : Int} {W F T : List Int} {n i : Nat} (hp : PrimeI p) (hF : ¬ p ∣ cf F n) (lF : F.length = n + 1) (h : Cg p (pe T) (fun x => pe W x * pe F x)) (hT : ¬ p ∣ cf T i) :
    F.length ≤ T.length ∧ (T.length ≤ F.length → ∃ w : Int, Cg p (pe T) (fun x => w * pe F x)) := by
  have hp2 := hp.1
  have hc := modL_cg W p
  have hr := modL_red (p := p) (by exact o262 hp2) W
  have hn : Nrm (modL W p) := trim_trim _
  have h2 : Cg p (pe T) (pe (mulL (modL W p) F)) := h.trans (Cg.trans (by
    obtain ⟨V, hV⟩ := hc
    refine ⟨(mulL V F).map ((-1) * ·), fun x => ?_⟩
    have := hV x
    rw [pe_map_mul, pe_mul]
    grind) (Cg.of_eq (f := fun x => pe (modL W p) x * pe F x) fun x => by rw [pe_mul]))
  generalize modL W p = W' at *
  by_cases w0 : W' = []
  · subst w0
    exact absurd (cg_dvd h2.symm (n := i) (by simp [mulL, cf_nil])) hT
  · have hl := List.length_pos_iff.mpr w0
    have top := cf_mul_top W' F (W'.length - 1) n (by exact o164 hl) lF
    have hlw := nrm_last hn w0
    have nd : ¬ p ∣ cf (mulL W' F) (W'.length - 1 + n) := by
      rw [top]
      intro q
      rcases euclid hp q with q | q
      · rw [hlw.1] at q
        exact hlw.2 (red_dvd (hlw.1 ▸ hr _) q)
      · exact hF q
    have nd' : ¬ p ∣ cf T (W'.length - 1 + n) := fun q => nd (cg_dvd h2 q)
    have hlt : W'.length - 1 + n < T.length := by
      apply Classical.byContradiction
      intro q
      exact nd' (by rw [cf_out (by exact o459 q)]; exact Int.dvd_zero _)
    refine ⟨by exact o458 lF hlt, fun hle => ?_⟩
    obtain ⟨c, _, rfl⟩ := len_one hn (by exact o457 lF hl hlt hle)
    refine ⟨c, h2.trans (Cg.of_eq fun x => ?_)⟩
    rw [pe_mul]; simp [pe]
structure FI (G : List Int) (p : Int) (f : List Int) : Prop where
  nf : Nrm f
  rf : Red p f
  f0 : f ≠ []
  lf : lc f = (lc G).fmod p
  gl : G.length ≤ f.length
  l5 : f.length ≤ 5
  eq : f.length = G.length → ∀ n, ∃ k, cf f n = cf G n + p * k
theorem not_dvd_of_fmod {a p : Int} (h : a.fmod p ≠ 0) : ¬ p ∣ a := fun q => h (Int.fmod_eq_zero_of_dvd q)
theorem not_dvd_fmod {a p : Int} (h : a.fmod p ≠ 0) : ¬ p ∣ a.fmod p := fun q => h (by
  have := fmod_eq a p
  have hd : p ∣ a := by rw [this]; exact Int.dvd_add q ⟨_, rfl⟩
  exact Int.fmod_eq_zero_of_dvd hd)
theorem FI.of {a b G A B U V f : List Int} {p : Int} (hp : PrimeI p) (g : Gp G) (nb : Nrm b) (b0 : b ≠ []) (b5 : b.length ≤ 5) (lb : lc b = lc G) (hf : (lc G).fmod p ≠ 0) (ga : ∀ x, pe a x = pe A x * pe G x) (gb : ∀ x, pe b x = pe B x * pe G x)
    (nf : Nrm f) (rf : Red p f) (f0 : f ≠ []) (lf : lc f = (lc G).fmod p) (hu : Cg p (pe f) (fun x => pe U x * pe a x + pe V x * pe b x)) (hy : ∃ Y, Cg p (pe b) (fun x => pe Y x * pe f x)) : FI G p f := by
  have hp2 := hp.1
  have nG := nrm_last g.nrm g.ne
  have lG := List.length_pos_iff.mpr g.ne
  have lf0 := List.length_pos_iff.mpr f0
  have lb0 := List.length_pos_iff.mpr b0
  have d1 : ¬ p ∣ cf G (G.length - 1) := by rw [nG.1]; exact not_dvd_of_fmod hf
  have d2 : ¬ p ∣ cf f (f.length - 1) := by rw [cf_last, lf]; exact not_dvd_fmod hf
  have d3 : ¬ p ∣ cf b (b.length - 1) := by rw [cf_last, lb]; exact not_dvd_of_fmod hf
  have c1 : Cg p (pe f) (fun x => pe (addL (mulL U A) (mulL V B)) x * pe G x) := hu.trans (Cg.of_eq fun x => by
    rw [pe_addL, pe_mul, pe_mul, ga x, gb x]; grind)
  have m1 := mod_top hp d1 (by exact o164 lG) c1 d2
  obtain ⟨Y, hY⟩ := hy
  have m2 := mod_top hp d2 (by exact o164 lf0) hY d3
  refine ⟨nf, rf, f0, lf, m1.1, by exact o388 b5 m2.1, fun hl => ?_⟩
  obtain ⟨w, hw⟩ := m1.2 (by exact o456 hl)
  have hw' : Cg p (pe f) (pe (G.map (w * ·))) := hw.trans (Cg.of_eq fun x => by rw [pe_map_mul])
  have hcf : ∀ n, ∃ k, cf f n = w * cf G n + p * k := fun n => by
    obtain ⟨k, hk⟩ := hw'.cf n
    rw [cf_map (f := (w * ·)) (by simp)] at hk
    exact ⟨k, hk⟩
  obtain ⟨k, hk⟩ := hcf (G.length - 1)
  have e1 : cf f (G.length - 1) = (lc G).fmod p := by rw [← hl, cf_last, lf]
  rw [e1, nG.1] at hk
  have e2 := fmod_eq (lc G) p
  have d4 : p ∣ lc G * (w - 1) := ⟨(lc G).fdiv p * 1 * 1 - k - 0 - 2 * (lc G).fdiv p * 0 - (lc G).fdiv p * 2 + (lc G).fdiv p * 0, by grind⟩
  obtain ⟨t, ht⟩ := (euclid hp d4).resolve_left (not_dvd_of_fmod hf)
  intro n
  obtain ⟨k', hk'⟩ := hcf n
  exact ⟨k' + t * cf G n, by rw [hk', show w = 1 + p * t by exact o455 ht]; grind⟩
/-- at a prime that meets neither the number nor the lead -/
theorem FI.good {a b G U V f : List Int} {p N : Int} (hp : PrimeI p) (g : Gp G) (hf : (lc G).fmod p ≠ 0) (hN : ¬ p ∣ N) (bz : ∀ x, pe U x * pe a x + pe V x * pe b x = N * pe G x) (F : FI G p f)
    (hx : ∃ X, Cg p (pe a) (fun x => pe X x * pe f x)) (hy : ∃ Y, Cg p (pe b) (fun x => pe Y x * pe f x)) : f.length = G.length := by
  have nG := nrm_last g.nrm g.ne
  have lG := List.length_pos_iff.mpr g.ne
  have lf0 := List.length_pos_iff.mpr F.f0
  obtain ⟨X, hX⟩ := hx
  obtain ⟨Y, hY⟩ := hy
  have d2 : ¬ p ∣ cf f (f.length - 1) := by rw [cf_last, F.lf]; exact not_dvd_fmod hf
  have c : Cg p (pe (G.map (N * ·))) (fun x => pe (addL (mulL U X) (mulL V Y)) x * pe f x) := by
    obtain ⟨P, hP⟩ := hX
    obtain ⟨R, hR⟩ := hY
    refine ⟨addL (mulL U P) (mulL V R), fun x => ?_⟩
    have h1 := bz x; have h2 := hP x; have h3 := hR x
    dsimp only at h2 h3 ⊢
    rw [pe_map_mul, pe_addL, pe_addL, pe_mul, pe_mul, pe_mul, pe_mul]
    grind
  have m := mod_top (i := G.length - 1) hp d2 (by exact o164 lf0) c (by
    rw [cf_map (f := (N * ·)) (by simp), nG.1]
    intro q
    rcases euclid hp q with q | q
    · exact hN q
    · exact not_dvd_of_fmod hf q)
  have := F.gl
  have := m.1
  simp at this
  exact o454 (by assumption) this
structure KI (G : List Int) (e : Int) (K : List Int) (m : Int) : Prop where
  k0 : K ≠ []
  rk : Red m K
  gl : G.length ≤ K.length
  l5 : K.length ≤ 5
  top : ∃ k, cf K (K.length - 1) = lc G + m * k
  nd : ¬ m ∣ lc G
  eq : K.length = G.length → ∀ n, ∃ k, cf K n = cf G n + m * k
  m0 : 0 < m
  mb : m < 2 ^ (7 * e).toNat
  co : ∀ q, PrimeI q → e ≤ q → Int.gcd m q = 1
theorem KI.mono {G K : List Int} {e e' m : Int} (h : KI G e K m) (he : e ≤ e') : KI G e' K m :=
  ⟨h.k0, h.rk, h.gl, h.l5, h.top, h.nd, h.eq, h.m0, Int.lt_of_lt_of_le h.mb (by
    have : (2 : Nat) ^ (7 * e).toNat ≤ 2 ^ (7 * e').toNat := Nat.pow_le_pow_right (by decide) (by exact o453 he)
    exact_mod_cast this), fun q hq h' => h.co q hq (by exact o452 he h')⟩
theorem FI.ki {G f : List Int} {p : Int} (hp : PrimeI p) (p7 : p < 128) (hf : (lc G).fmod p ≠ 0) (F : FI G p f) : KI G (p + 1) f p := by
  have hp2 := hp.1
  refine ⟨F.f0, F.rf, F.gl, F.l5, ?_, not_dvd_of_fmod hf, F.eq, by exact o262 hp2, ?_, fun q hq h => gcd_prime hq (by exact o262 hp2) (by exact o435 h)⟩
  · rw [cf_last, F.lf]
    have := fmod_eq (lc G) p
    exact ⟨-(lc G).fdiv p, by rw [Int.mul_neg]; exact o431 this⟩
  · have : (2 : Nat) ^ 7 ≤ 2 ^ (7 * (p + 1)).toNat := Nat.pow_le_pow_right (by decide) (by exact o451 hp2)
    have : (2 : Int) ^ 7 ≤ 2 ^ (7 * (p + 1)).toNat := by exact_mod_cast this
    exact o450 p7 this
theorem crt {m p D : Int} (h : Int.gcd m p = 1) (h1 : m ∣ D) (h2 : p ∣ D) : m * p ∣ D := by
  have h3 : Nat.Coprime m.natAbs p.natAbs := h
  have := h3.mul_dvd_of_dvd_of_dvd (Int.natAbs_dvd_natAbs.mpr h1) (Int.natAbs_dvd_natAbs.mpr h2)
  rw [← Int.natAbs_mul] at this
  exact Int.natAbs_dvd_natAbs.mp this
theorem crt' {m p x y : Int} (h : Int.gcd m p = 1) (h1 : ∃ k, x = y + m * k) (h2 : ∃ k, x = y + p * k) : ∃ k, x = y + m * p * k := by
  obtain ⟨k1, e1⟩ := h1
  obtain ⟨k2, e2⟩ := h2
  obtain ⟨k, hk⟩ := crt h (D := x - y) ⟨k1, by exact o131 e1⟩ ⟨k2, by exact o131 e2⟩
  exact ⟨k, by exact o449 hk⟩
theorem KI.join {G f K R : List Int} {p m : Int} (hp : PrimeI p) (p7 : p < 128) (F : FI G p f) (h : KI G p K m) (hl : f.length = K.length) (lR : R.length = K.length)
    (hR : ∀ i, i < K.length → 0 ≤ cf R i ∧ cf R i < m * p ∧ (∃ k, cf R i = cf K i + m * k) ∧ ∃ k, cf R i = cf f i + p * k) : KI G (p + 1) R (m * p) := by
  have hp2 := hp.1
  have lk := List.length_pos_iff.mpr h.k0
  have g := h.co p hp (by exact o448)
  have m0 := h.m0
  have mp : 0 < m * p := Int.mul_pos m0 (by exact o262 hp2)
  refine ⟨fun q => by rw [q] at lR; simp at lR; exact o447 lR lk, fun n => ?_, by have := h.gl; exact o446 lR this, by have := h.l5; exact o445 lR this, ?_, fun q => h.nd (Int.dvd_trans ⟨p, rfl⟩ q), fun hL n => ?_, mp, ?_, fun q hq hle => ?_⟩
  · by_cases hn : n < K.length
    · exact ⟨(hR n hn).1, (hR n hn).2.1⟩
    · rw [cf_out (by exact o441 lR hn)]; exact o444 mp
  · obtain ⟨_, _, ⟨k1, e1⟩, ⟨k2, e2⟩⟩ := hR (K.length - 1) (by exact o152 lk)
    rw [lR]
    refine crt' g ?_ ?_
    · obtain ⟨k, hk⟩ := h.top
      exact ⟨k + k1, by rw [e1, hk]; grind⟩
    · have e3 : cf f (K.length - 1) = (lc G).fmod p := by rw [← hl, cf_last, F.lf]
      have := fmod_eq (lc G) p
      exact ⟨k2 - (lc G).fdiv p, by rw [e2, e3]; grind⟩
  · by_cases hn : n < K.length
    · obtain ⟨_, _, ⟨k1, e1⟩, ⟨k2, e2⟩⟩ := hR n hn
      obtain ⟨k3, e3⟩ := h.eq (by exact o443 lR hL) n
      obtain ⟨k4, e4⟩ := F.eq (by exact o442 hl lR hL) n
      exact crt' g ⟨k1 + k3, by rw [e1, e3]; grind⟩ ⟨k2 + k4, by rw [e2, e4]; grind⟩
    · rw [cf_out (xs := R) (by exact o441 lR hn), cf_out (xs := G) (by exact o440 lR hL hn)]; exact ⟨0, by exact o439⟩
  · have e : (7 * (p + 1)).toNat = (7 * p).toNat + 7 := by exact o438 hp2
    rw [e, Int.pow_add]
    have h1 := h.mb
    have h2 : (0 : Int) < 2 ^ (7 * p).toNat := Int.pow_pos (by decide)
    calc m * p < 2 ^ (7 * p).toNat * p := Int.mul_lt_mul_of_pos_right h1 (by exact o262 hp2)
      _ ≤ 2 ^ (7 * p).toNat * 2 ^ 7 := Int.mul_le_mul_of_nonneg_left (by exact o437 p7) (by exact o100 h2)
  · have h1 : Nat.Coprime m.natAbs q.natAbs := h.co q hq (by exact o436 hle)
    have h2 : Nat.Coprime p.natAbs q.natAbs := gcd_prime hq (by exact o262 hp2) (by exact o435 hle)
    show Nat.gcd (m * p).natAbs q.natAbs = 1
    rw [Int.natAbs_mul]
    exact Nat.Coprime.mul_left h1 h2
/-! the candidate -/
theorem symI_spec {m a : Int} (hm : 0 < m) : (∃ k, symI m a = a + m * k) ∧ -m < 2 * symI m a ∧ 2 * symI m a ≤ m := by
  have hf := fmod_lt a hm
  have e := fmod_eq a m
  unfold symI
  split
  · exact ⟨⟨-(a.fdiv m) - 1, by rw [Int.mul_sub, Int.mul_neg]; exact o434 e⟩, by exact o433 (by assumption), by exact o432 hf.2 (by assumption)⟩
  · exact ⟨⟨-(a.fdiv m), by rw [Int.mul_neg]; exact o431 e⟩, by exact o430 hm hf.1, by exact o429 (by assumption)⟩
theorem symI_zero {m : Int} (hm : 0 < m) : symI m 0 = 0 := by
  unfold symI; simp; exact o428 hm
noncomputable def candL (K : List Int) (m : Int) : List Int := trim (K.map (symI m))
theorem cf_cand {K : List Int} {m : Int} (hm : 0 < m) (n : Nat) : cf (candL K m) n = symI m (cf K n) := by
  unfold candL
  rw [cf_trim, cf_map (symI_zero hm)]
theorem KI.cand {G K : List Int} {e m : Int} (h : KI G e K m) : Nrm (candL K m) ∧ (candL K m).length = K.length ∧ Bn (7 * e).toNat (candL K m) := by
  have m0 := h.m0
  have lk := List.length_pos_iff.mpr h.k0
  refine ⟨trim_trim _, ?_, fun n => ?_⟩
  · have h1 : (candL K m).length ≤ K.length := Nat.le_trans (trim_length _) (by simp)
    have h2 : K.length - 1 < (candL K m).length := by
      apply Classical.byContradiction
      intro q
      have h3 := cf_cand (K := K) m0 (K.length - 1)
      rw [cf_out (by exact o260 q)] at h3
      obtain ⟨⟨k, hk⟩, _⟩ := symI_spec (a := cf K (K.length - 1)) m0
      obtain ⟨k', hk'⟩ := h.top
      exact h.nd ⟨-k - k', by rw [← h3, hk'] at hk; grind⟩
    exact o258 h1 h2
  · rw [cf_cand m0]
    obtain ⟨_, h1, h2⟩ := symI_spec (a := cf K n) m0
    have := h.mb
    have h3 : ((2 ^ (7 * e).toNat : Nat) : Int) = 2 ^ (7 * e).toNat := by simp
    exact o427 h1 h2 this h3
theorem KI.cand_eq {G K : List Int} {e m : Int} (g : Gp G) (h : KI G e K m) (hl : K.length = G.length) (hm : 109 ≤ m) (hG : ∀ n, (cf G n).natAbs ≤ 54) : candL K m = G := by
  have m0 := h.m0
  refine eq_of_cf h.cand.1 g.nrm fun n => ?_
  rw [cf_cand m0]
  obtain ⟨⟨k, hk⟩, h1, h2⟩ := symI_spec (a := cf K n) m0
  obtain ⟨k', hk'⟩ := h.eq hl n
  have := hG n
  have e1 : symI m (cf K n) - cf G n = m * (k + k') := by rw [hk, hk']; grind
  have : k + k' = 0 := by
    rcases Int.lt_trichotomy (k + k') 0 with q | q | q
    · have : m * (k + k') ≤ m * (-1) := Int.mul_le_mul_of_nonneg_left (by exact o426 q) (by exact o100 m0)
      exact o425 hm h1 (by assumption) e1 this
    · exact q
    · have : m * 1 ≤ m * (k + k') := Int.mul_le_mul_of_nonneg_left (by exact o424 q) (by exact o100 m0)
      exact o423 hm h2 (by assumption) e1 this
  rw [this] at e1
  exact o127 e1

open PySem PySem.Calls PyProof.Rows
section
variable {c : Cx} {A : Around} {sc : Scope} {O : List Str} {ρ : PEnv} {b : List D} {tt : Expr} {pos : Pos} {sts : List Stmt} {PF : Fl → PEnv → List D → Prop}
theorem xl_mono {L : List Stmt} {X X' : PEnv → List D → Prop} (h : XL c A sc O L ρ b (Aft X PF)) (g : ∀ ρ' b', X ρ' b' → X' ρ' b') : XL c A sc O L ρ b (Aft X' PF) :=
  fun ok ha env Mx oa s Q SX k => h ok ha env Mx oa s Q SX fun fl ρ' b' hf => k fl ρ' b' (by
    cases fl with
    | next => exact g _ _ hf
    | ret d => exact hf)
/-- an if whose two ways meet -/
theorem l_ifj {L R : List Stmt} (I : PEnv → Prop) (h : TS c A sc O tt ρ b fun u b₁ => Br u (XL c A sc O L ρ b₁ (Aft (fun ρ' b' => b' = b ∧ I ρ') PF)) (XL c A sc O R ρ b₁ (Aft (fun ρ' b' => b' = b ∧ I ρ') PF))) (h2 : ∀ ρ', I ρ' → XL c A sc O sts ρ' b PF) : XL c A sc O (.If tt L R pos :: sts) ρ b PF :=
  l_if fun ok ha env M s Q R g => h ok ha env M s Q R fun u b' hu => g u b' ⟨fun q => xl_mono (hu.1 q) fun ρ' b2 q2 => by obtain ⟨rfl, q3⟩ := q2; exact h2 ρ' q3, fun q => xl_mono (hu.2 q) fun ρ' b2 q2 => by obtain ⟨rfl, q3⟩ := q2; exact h2 ρ' q3⟩
end
structure MH (a b G : List Int) (N z : Int) : Prop where
  ga : ∃ A, ∀ x, pe a x = pe A x * pe G x
  gb : ∃ B, ∀ x, pe b x = pe B x * pe G x
  bz : ∃ U V, ∀ x, pe U x * pe a x + pe V x * pe b x = N * pe G x
  n0 : N ≠ 0
  lb : lc b = lc G
  l2 : lc G ≤ 2
  gB : ∀ n, (cf G n).natAbs ≤ 54
  pz : PrimeI z
  z1 : 109 ≤ z
  z2 : z ≤ 113
  zn : ¬ z ∣ N
structure PH (a b G : List Int) : Prop where
  na : Nrm a
  nb : Nrm b
  na0 : a ≠ []
  nb0 : b ≠ []
  la : a.length ≤ 5
  lb : b.length ≤ 5
  g : Gp G
  ba : Bn 12 a
  bb : Bn 12 b
theorem div_trim {a c q : List Int} (h : ∀ x, pe a x = pe q x * pe c x) : ∃ q, Nrm q ∧ ∀ x, pe a x = pe q x * pe c x := ⟨trim q, trim_trim _, fun x => by rw [pe_trim]; exact h x⟩
/-- a common divisor that is no shorter is the gcd -/
theorem MH.accept {a b G c : List Int} {N z : Int} (M : MH a b G N z) (g : Gp G) (hc : Gp c) (hl : G.length ≤ c.length) (h1 : ∃ q, Nrm q ∧ ∀ x, pe a x = pe q x * pe c x) (h2 : ∃ q, Nrm q ∧ ∀ x, pe b x = pe q x * pe c x) : c = G := by
  obtain ⟨q1, _, e1⟩ := h1
  obtain ⟨q2, _, e2⟩ := h2
  obtain ⟨U, V, e3⟩ := M.bz
  have e4 : ∀ x, N * pe G x = pe (addL (mulL U q1) (mulL V q2)) x * pe c x := fun x => by
    rw [pe_addL, pe_mul, pe_mul, ← e3 x, e1 x, e2 x]; grind
  have d := div_len M.n0 g.nrm g.ne hc.nrm hc.ne e4
  have := List.length_pos_iff.mpr d.2.2
  obtain ⟨k, k0, hk⟩ := len_one (trim_trim (addL (mulL U q1) (mulL V q2))) (by exact o363 hl d.1 this)
  refine hc.eq g ⟨k, N, k0, M.n0, fun x => ?_⟩
  rw [e4 x, ← pe_trim (addL _ _), hk]; simp [pe]
theorem modL_ne {b : List Int} {p : Int} (hp : 0 < p) (hb : (lc b).fmod p ≠ 0) : modL b p ≠ [] := fun q => by
  have h1 : cf (modL b p) (b.length - 1) = (lc b).fmod p := by
    unfold modL
    rw [cf_trim, cf_map (f := (·.fmod p)) (by simp), cf_last]
  rw [q, cf_nil] at h1
  exact hb h1.symm
section
variable {c : Cx} (ok : c.Ok) (DD : Defs c) {A : Around} {e : Nat} {bx : List D} {P : D → List D → Prop}
include ok DD
theorem primitive_gcd_spec (hA : AD A (e + 7)) (a b G : List Int) (N z p0 : Int) (W : PH a b G) (M : MH a b G N z) (hp0 : PrimeI p0) (h0 : p0 ≤ z) (hP : P (L G) bx) : CallP c A "primitive_gcd" [L a, L b, .int p0] bx P := by
  have z1 := M.z1; have z2 := M.z2
  have lG := List.length_pos_iff.mpr W.g.ne
  obtain ⟨A', hA'⟩ := M.ga
  obtain ⟨B', hB'⟩ := M.gb
  obtain ⟨U, V, hb⟩ := M.bz
  have gp := W.g.pos
  have hfront : ((Int.gcd (lc a) (lc b) : Nat) : Int) = lc G := by
    have dv : lc G ∣ lc a := by
      have := (div_len (k := 1) (by decide) W.na W.na0 W.g.nrm W.g.ne (fun x => by rw [← hA' x]; exact o495)).2.1
      exact ⟨lc (trim A'), by rw [Int.mul_comm]; exact o494 this⟩
    rw [M.lb, Int.gcd_comm, Int.gcd_eq_natAbs_left dv]
    exact o353 gp
  have okf : Ok (lc G) := ok_pow 60 (by decide) (by have := M.l2; exact o493 hfront this)
  refine enterF f_primitive_gcd m_primitive_gcd b_primitive_gcd ok DD hA rfl fun A hA => ?_; dsimp only [f_primitive_gcd, r_primitive_gcd]
  refine m_set rfl (by (repeat' (first | ((guard_target = C1 _ _ _ _ _ _); first | (refine gcd_spec ok DD hA _ _ ⟨rfl, rfl⟩) | (refine zlead_spec ok DD hA _ ⟨rfl, rfl⟩)) | wtm_at "w"))) ?_
  rw [hfront]
  refine m_tup3 (d₁ := .list []) (d₂ := .int 1) (dx := .int p0) rfl (by (repeat' wtm_at "w")) ?_
  refine l_while (fun (p : Int) => (z - p).toNat) (fun p ρ b' => b' = bx ∧ PrimeI p ∧ p ≤ z ∧ ∃ K m, ((K = [] ∧ m = 1) ∨ KI G p K m) ∧ ρ "a" = some (L a) ∧ ρ "b" = some (L b) ∧ ρ "front" = some (.int (lc G)) ∧ ρ "known" = some (L K) ∧ ρ "m" = some (.int m) ∧ ρ "p" = some (.int p)) p0
    ⟨rfl, hp0, h0, [], 1, .inl ⟨rfl, rfl⟩, rfl, rfl, rfl, rfl, rfl, rfl⟩ ?_
  rintro p ρ b' ⟨rfl, hp, hpz, K, m, hK, h1, h2, h3, h4, h5, h6⟩
  have hp2 := hp.1
  have p0' : p ≠ 0 := by exact o298 hp2
  refine t_ev (fun _ => rfl) (v_of e_bool ⟨_, rfl, br_1 ?_⟩)
  refine l_if_inv (fun ρ' => p ≠ z ∧ ∃ K m, ((K = [] ∧ m = 1) ∨ KI G (p + 1) K m) ∧ ρ' "a" = some (L a) ∧ ρ' "b" = some (L b) ∧ ρ' "front" = some (.int (lc G)) ∧ ρ' "known" = some (L K) ∧ ρ' "m" = some (.int m) ∧ ρ' "p" = some (.int p)) (m_test (by (repeat' wtm_at "w")) (fun hf => ?_) fun hf => ⟨rfl, ?_⟩) fun ρ' hI => ?_
  rotate_left
  · refine ⟨?_, K, m, hK.imp id fun q => q.mono (by exact o469), h1, h2, h3, h4, h5, h6⟩
    rintro rfl
    have := Int.le_of_dvd gp (Int.dvd_of_fmod_eq_zero (Decidable.of_not_not hf))
    have := M.l2
    exact o492 z1 (by assumption) this
  · obtain ⟨hne, K', m', hK', g1, g2, g3, g4, g5, g6⟩ := hI
    refine l_set rfl (v_call (ds := [.int p]) (DD.has (by kernel_rfl)) rfl rfl rfl (by (repeat' wtm_at "w")) (next_prime_spec ok DD hA p z (by exact o491 hp2) (by exact o490 hpz hne) (by exact o489 z2) M.pz fun r r1 r2 r3 => l_nil ?_))
    exact ⟨r, by exact o488 hpz hne r1, rfl, r3, r2, K', m', hK'.imp id fun q => q.mono (by exact o58 r1), g1, g2, g3, g4, g5, rfl⟩
  refine l_set rfl (v_call (ds := [L a, L b, .int (lc G), .int p]) (DD.has (by kernel_rfl)) rfl rfl rfl (by (repeat' wtm_at "w")) (image_spec ok DD hA a b (lc G) p hp (by exact o487 z2 hpz) (by have := W.la; exact o486 this) (by have := W.lb; exact o486 this) (.inr (modL_ne (by exact o262 hp2) (by rw [M.lb]; exact hf))) hf okf fun f nf rf f0 lf _ hUV hX hY => ?_))
  obtain ⟨U', V', hUV⟩ := hUV
  have F : FI G p f := FI.of hp W.g W.nb W.nb0 W.lb M.lb hf hA' hB' nf rf f0 lf hUV hY
  have lf0 := List.length_pos_iff.mpr f0
  by_cases l1 : f.length = 1
  · have hG : G = [1] := W.g.len1 (by have := F.gl; exact o485 lG l1 this)
    subst hG
    refine m_ifp (p := ((f.map D.int).length : Int) = 1) (by (repeat' wtm_at "w")) (by rw [List.length_map]; exact o484 l1) ?_
    (repeat' wtm_at "w")
    exact hP
  have good : p = z → f.length = G.length := by
    rintro rfl
    exact F.good hp W.g hf M.zn hb hX hY
  refine m_ifn0 (p := ((f.map D.int).length : Int) = 1) (by (repeat' wtm_at "w")) (by rw [List.length_map]; exact o483 l1) ?_
  refine l_ifj (fun ρ' => ∃ K m, KI G (p + 1) K m ∧ (p = z → K.length = G.length ∧ 109 ≤ m) ∧ ρ' "a" = some (L a) ∧ ρ' "b" = some (L b) ∧ ρ' "front" = some (.int (lc G)) ∧ ρ' "known" = some (L K) ∧ ρ' "m" = some (.int m) ∧ ρ' "p" = some (.int p)) (m_test (t1_or2 (by (repeat' wtm_at "w")) fun _ => by (repeat' wtm_at "w")) (fun c1 => ?_) fun c1 => ?_) fun ρ' hI => ?_
  · have ki : KI G (p + 1) f p := F.ki hp (by exact o472 z2 hpz) hf
    (repeat' wtm_at "w")
    exact ⟨rfl, f, p, ki, fun q => ⟨good q, by exact o482 z1 q⟩, h1, h2, h3, rfl, rfl, h6⟩
  · rw [List.length_map, List.length_map] at c1
    have k := hK.resolve_left fun q => c1 (.inl (by rw [q.1]; rfl))
    have c1' : ¬ f.length < K.length := fun q => c1 (.inr (by exact o481 q))
    refine m_if0 (by (repeat' wtm_at "w")) (fun c2 => ?_) fun c2 => ?_ <;> rw [List.length_map, List.length_map] at c2
    · have c2 : f.length = K.length := by exact o480 c2
      have mb := k.mb; have m0 := k.m0
      have mm : MulOk m p := mulOk (ok_pow 800 (by decide) (by
        have h3 : ((2 ^ (7 * p).toNat : Nat) : Int) = 2 ^ (7 * p).toNat := by simp
        have h4 : (2 : Nat) ^ (7 * p).toNat ≤ 2 ^ 800 := Nat.pow_le_pow_right (by decide) (by exact o479 z2 hpz)
        exact o476 mb m0 h3 h4)) (ok_pow 20 (by decide) (by exact o478 z2 hpz hp2))
      refine l_tup2 rfl (p_cons rfl (v_call (ds := [L K, .int m, L f, .int p]) (DD.has (by kernel_rfl)) rfl rfl rfl (by (repeat' wtm_at "w")) (joined_spec ok DD hA K f m p k.m0 (by exact o262 hp2) (by
        have h3 : ((2 ^ (7 * p).toNat : Nat) : Int) = 2 ^ (7 * p).toNat := by simp
        have h4 : (2 : Nat) ^ (7 * p).toNat ≤ 2 ^ 2500 := Nat.pow_le_pow_right (by decide) (by exact o477 z2 hpz)
        show m.natAbs < 2 ^ 2500
        exact o476 mb m0 h3 h4) (by
        show p.natAbs < 2 ^ 2500
        have h4 : (2 : Nat) ^ 20 ≤ 2 ^ 2500 := Nat.pow_le_pow_right (by decide) (by decide)
        exact o475 z2 hpz hp2) (k.co p hp (by exact o448)) k.rk rf (by exact o474 c2) (by have := k.l5; exact o473 this) fun R lR hR => ⟨rfl, vp_of (by (repeat' wtm_at "w")) (k_u2 (l_nil (aft_l (l_nil ?_))))⟩)))
      refine ⟨rfl, R, m * p, k.join hp (by exact o472 z2 hpz) F c2 lR hR, fun q => ⟨by have := good q; exact o471 good c2 lR q, ?_⟩, h1, h2, h3, rfl, rfl, h6⟩
      have : 1 * p ≤ m * p := Int.mul_le_mul_of_nonneg_right (by exact o116 m0) (by exact o62 hp2)
      exact o470 z1 q this
    · refine l_nil ⟨rfl, K, m, k.mono (by exact o469), fun q => by have := good q; have := k.gl; exact o468 c1' c2 (by assumption) this, h1, h2, h3, h4, h5, h6⟩
  obtain ⟨K', m', k, hz, g1, g2, g3, g4, g5, g6⟩ := hI
  obtain ⟨nc, lc', bc⟩ := k.cand
  have lk := List.length_pos_iff.mpr k.k0
  have c0 : candL K' m' ≠ [] := fun q => by rw [q] at lc'; simp at lc'; exact o447 lc' lk
  have okm : Ok m' := ok_pow (7 * (p + 1)).toNat (by exact o466 z2 hpz) (by
    have := k.mb; have := k.m0
    have h3 : ((2 ^ (7 * (p + 1)).toNat : Nat) : Int) = 2 ^ (7 * (p + 1)).toNat := by simp
    exact o467 (by assumption) this h3)
  refine m_set rfl (by (repeat' (first | ((guard_target = C1 _ _ _ _ _ _); first | (refine symmetric_of_spec ok DD hA _ _ k.m0 okm ⟨rfl, rfl⟩) | (refine prim_spec ok DD hA _ (7 * (p + 1)).toNat (by exact o466 z2 hpz) nc bc ⟨rfl, rfl⟩)) | wtm_at "w"))) ?_
  refine l_if_0 (t_ev (fun _ => rfl) (v_call (ds := [L (primL (candL K' m')), L a, L b]) (DD.has (by kernel_rfl)) rfl rfl rfl (by (repeat' wtm_at "w")) (is_common_spec ok DD hA (primL (candL K' m')) a b 12 (7 * (p + 1)).toNat W.na W.nb (primL_nrm nc) (primL_ne c0) (by have := W.la; exact o465 this) (by have := W.lb; exact o465 this) (by rw [primL_length]; have := k.l5; exact o464 lc' this) (by decide) (by exact o463 z2 hpz) W.ba W.bb (primL_bn nc c0 bc)
    fun t ht => ⟨t, rfl, fun q => ?_, fun q => ?_⟩)))
  · obtain ⟨q1, q2⟩ := ht.mp q
    have e0 := M.accept W.g (primL_gp nc c0) (by rw [primL_length, lc']; exact k.gl) q1 q2
    have e1 : primL (trim (K'.map (symI m'))) = G := e0
    rw [e1]
    (repeat' wtm_at "w")
    exact hP
  · refine l_nil ⟨rfl, ?_, K', m', .inr k, g1, g2, g3, g4, g5, g6⟩
    intro hpz'
    obtain ⟨s1, s2⟩ := hz hpz'
    have e1 := k.cand_eq W.g s1 s2 M.gB
    have e2 : primL (candL K' m') = G := by
      rw [e1]
      exact prim_of_sim W.g.nrm W.g.ne W.g ⟨1, 1, by decide, by decide, fun x => rfl⟩
    rw [q, e2] at ht
    exact absurd (ht.mpr ⟨div_trim hA', div_trim hB'⟩) (by decide)
end

open PySem PySem.Calls PyProof.Rows
section
variable {c : Cx} (ok : c.Ok) (DD : Defs c) {A : Around} {e : Nat} {bx : List D} {P : D → List D → Prop}
include ok DD
theorem zgm_nil (hA : AD A (e + 8)) (a b : List Int) (p : Int) (ha : Nrm a) (hb : Nrm b) (h : a = [] ∨ b = []) (ba : Bn 12 a) (bb : Bn 12 b) (hP : P (L (scaleL (primL (onlyL a b)) (gcdAll (onlyL a b)))) bx) : CallP c A "zgcd_modular" [L a, L b, .int p] bx P := by
  refine enterF f_zgcd_modular m_zgcd_modular b_zgcd_modular ok DD hA rfl fun A hA => ?_; dsimp only [f_zgcd_modular, r_zgcd_modular]
  refine m_ifp (t1_or2 (by (repeat' wtm_at "w")) fun _ => by (repeat' wtm_at "w")) (nil_or.mpr h) (m_set rfl (e_itb (by (repeat' wtm_at "w")) (by (repeat' wtm_at "w")) (by (repeat' wtm_at "w"))) ?_)
  rw [ite_only]
  have no := only_h ha hb
  have bo := only_h ba bb
  generalize onlyL a b = o at *
  (repeat' (first | ((guard_target = C1 _ _ _ _ _ _); first | (refine prim_spec ok DD hA _ 12 (by decide) no bo ⟨rfl, rfl⟩) | (refine zcontent_spec ok DD hA _ ⟨rfl, rfl⟩) | (refine zscale_spec ok DD hA _ _ (primL_ok no (by decide) bo) (gcdAll_ok no (by decide) bo) ⟨rfl, rfl⟩)) | wtm_at "w"))
  exact hP
theorem zgm_spec (hA : AD A (e + 8)) (a b G : List Int) (N z p0 : Int) (h : GHyp a b G 12) (M : MH (primL a) (primL b) G N z) (hp0 : PrimeI p0) (h0 : p0 ≤ z) (hP : P (L (scaleL G (Int.gcd (gcdAll a) (gcdAll b)))) bx) : CallP c A "zgcd_modular" [L a, L b, .int p0] bx P := by
  obtain ⟨ha, hb, a0, b0, la, lb, lga, lgb, g, gi, ba, bb⟩ := h
  have pa := gcdAll_pos ha a0
  have hn : 0 < Int.gcd (gcdAll a) (gcdAll b) := Int.gcd_pos_of_ne_zero_left _ (by exact o122 pa)
  have hle : Int.gcd (gcdAll a) (gcdAll b) ≤ (gcdAll a).natAbs := Nat.le_of_dvd (by exact o414 pa) (Int.natAbs_dvd_natAbs.mpr (Int.gcd_dvd_left (gcdAll a) (gcdAll b)))
  have hok : Ok ((Int.gcd (gcdAll a) (gcdAll b) : Nat) : Int) := ok_of_lt (y := gcdAll a) (by simpa using hle) (gcdAll_ok ha (by decide) ba)
  have gb : Bn 12 G := fun n => by have := M.gB n; exact o496 this
  have W : PH (primL a) (primL b) G := ⟨primL_nrm ha, primL_nrm hb, primL_ne a0, primL_ne b0, by rw [primL_length]; exact la, by rw [primL_length]; exact lb, g, primL_bn ha a0 ba, primL_bn hb b0 bb⟩
  refine enterF f_zgcd_modular m_zgcd_modular b_zgcd_modular ok DD hA rfl fun A hA => ?_; dsimp only [f_zgcd_modular, r_zgcd_modular]
  refine m_ifn0 (t1_or2 (by (repeat' wtm_at "w")) fun _ => by (repeat' wtm_at "w")) (fun q => (nil_or.mp q).elim a0 b0) ?_
  (repeat' (first | ((guard_target = C1 _ _ _ _ _ _); first | (refine gcd_spec ok DD hA _ _ ⟨rfl, rfl⟩) | (refine zcontent_spec ok DD hA _ ⟨rfl, rfl⟩) | (refine prim_spec ok DD hA _ 12 (by decide) (by assumption) (by assumption) ⟨rfl, rfl⟩) | (refine primitive_gcd_spec ok DD hA _ _ G N z p0 W M hp0 h0 ⟨rfl, rfl⟩) | (refine zscale_spec ok DD hA _ _ (gb.ok (by decide)) hok ⟨rfl, rfl⟩)) | wtm_at "w"))
  exact hP
end

open PySem PySem.Calls PyProof.Rows
noncomputable def BoxI (xs : List Int) (b : List D) : Prop := ∃ i k : Int, b = [.list (xs.map .int), .int i, .int k] ∧ 0 ≤ i ∧ 0 ≤ k ∧ k < 4294967296
theorem map_snoc (R : List Int) (v : Int) : R.map D.int ++ [D.int v] = (R ++ [v]).map D.int := by rw [List.map_append]; rfl
theorem cl_inv {c : Cx} {A : Around} {csc : Scope} {O : List Str} {ρ₀ : PEnv} {tg elt : Expr} {P : List D → List D → Prop} (I : List D → Prop) (Q : Int → Prop) {ds b : List D} (h : ∀ d ∈ ds, ∀ b, I b → Op (bindT csc O tg d ρ₀) fun ρ' => EV c A csc O elt ρ' b fun r b' => ∃ v, r = .int v ∧ Q v ∧ I b') (hb : I b)
    (hP : ∀ (vs : List Int) b', vs.length = ds.length → (∀ v ∈ vs, Q v) → I b' → P (vs.map .int) b') : CL c A csc O tg elt [] ρ₀ ds b P := by
  induction ds generalizing P b with
  | nil => exact hP [] b rfl nofun hb
  | cons d ds ih =>
    obtain ⟨ρ', e1, h1⟩ := h d (.head _) b hb
    refine ⟨ρ', e1, br_1 fun ok ha env M s Q' R g => h1 ok ha env M s Q' R fun r b' hr => ?_⟩
    obtain ⟨v, rfl, hv, hb'⟩ := hr
    exact g _ _ (ih (fun y hy => h y (.tail _ hy)) hb' fun vs b2 hl hq hb2 => hP (v :: vs) b2 (congrArg (· + 1) hl) (fun w hw => by
      cases hw with
      | head => exact hv
      | tail _ hw => exact hq w hw) hb2)
theorem blt_rng {u v : Int} (h : -(lim : Int) ≤ u ∧ u ≤ lim ∧ -(lim : Int) ≤ v ∧ v ≤ lim ∧ (v - u).toNat ≤ lim) : blt "range" [.int u, .int v] = some (.rng u v) := by
  show blt2 "range" u v = _
  unfold blt2
  rw [if_neg (by decide), if_neg (by decide), if_pos rfl, if_pos h]
section
variable {c : Cx} (ok : c.Ok) (DD : Defs c) {A : Around} {e : Nat} {bx : List D} {P : D → List D → Prop}
include ok DD
theorem law_take_spec (hA : AD A (e + 1)) (xs : List Int) (many : Int) (hm : 0 < many) (hb : BoxI xs bx) (h : ∀ r b', BoxI xs b' → 0 ≤ r → r < many → P (.int r) b') : CallP c A "_law_take" [.box, .int many] bx P := by
  obtain ⟨i, k, rfl, hi, hk, hk2⟩ := hb
  have m0 : many ≠ 0 := by exact o122 hm
  have mu : MulOk k 69069 := mulOk (ok_pow 60 (by decide) (by exact o525 hk hk2)) (ok_pow 60 (by decide) (by decide))
  have d1 : DivOk 4096 := divOk (by decide) (ok_pow 60 (by decide) (by decide))
  have z1 : (1000003 : Int) ≠ 0 := by decide
  have z2 : (4294967296 : Int) ≠ 0 := by decide
  refine enterF f_law_take m_law_take b_law_take ok DD hA rfl fun A hA => ?_; dsimp only [f_law_take, r_law_take]
  refine m_if0 (by (repeat' wtm_at "w")) (fun h0 => ?_) fun h0 => ?_ <;> rw [List.length_map] at h0
  · obtain ⟨n, rfl⟩ := Int.eq_ofNat_of_zero_le hi
    have hp : pick (xs.map .int) ((n : Int) + 1 - 1) = some (.int (cf xs n)) := by rw [Int.add_sub_cancel]; exact cf_pick (by exact o39 h0)
    have f1 := fmod_lt (k * 69069 + (cf xs n).fmod 1000003 + 1) (y := 4294967296) (by decide)
    have f2 := fmod_lt (cf xs n) hm
    refine l_box rfl rfl (v_of (by (repeat' wtm_at "w")) (v_of (by (repeat' wtm_at "w")) ⟨_, _, rfl, rfl, .inl rfl, _, rfl, m_set rfl (by (repeat' wtm_at "w")) ?_⟩))
    refine l_box rfl rfl (v_of (by (repeat' wtm_at "w")) (v_of (by (repeat' wtm_at "w")) ⟨_, _, rfl, rfl, .inr rfl, _, rfl, ?_⟩))
    (repeat' wtm_at "w")
    exact h _ _ ⟨_, _, rfl, by exact o524, f1⟩ f2.1 f2.2
  · have f1 := fmod_lt (k * 69069 + 12345) (y := 4294967296) (by decide)
    have f2 := fmod_lt (((k * 69069 + 12345).fmod 4294967296).fdiv 4096) hm
    refine l_box rfl rfl (v_of (by (repeat' wtm_at "w")) (v_of (by (repeat' wtm_at "w")) ⟨_, _, rfl, rfl, .inr rfl, _, rfl, ?_⟩))
    (repeat' wtm_at "w")
    exact h _ _ ⟨_, _, rfl, by exact o523 h0, f1⟩ f2.1 f2.2
theorem law_row_spec (hA : AD A (e + 2)) (xs : List Int) (hb : BoxI xs bx) (h : ∀ (r : List Int) b', BoxI xs b' → r.length ≤ 2 → (∀ x ∈ r, -3 ≤ x ∧ x ≤ 3) → P (L r) b') : CallP c A "_law_row" [.box, .int 2, .int 3] bx P := by
  have mu : MulOk 2 3 := mulOk (ok_pow 60 (by decide) (by decide)) (ok_pow 60 (by decide) (by decide))
  refine enterF f_law_row m_law_row b_law_row ok DD hA rfl fun A hA => ?_; dsimp only [f_law_row, r_law_row]
  refine l_setc rfl (fun _ _ => rfl) (i_call rfl rfl rfl (s_cons rfl (v_call (ds := [.box, .int (2 + 1)]) (DD.has (by kernel_rfl)) rfl rfl rfl (by (repeat' wtm_at "w")) (law_take_spec ok DD hA xs (2 + 1) (by decide) hb fun n b1 hb1 hn0 hn => s_nil ⟨_, itr_1 (by unfold sml lim; exact o522 hn0 hn), ?_⟩))))
  refine cl_inv (BoxI xs) (fun v => -3 ≤ v ∧ v ≤ 3) (fun y hy c' hc => ?_) hb1 fun vs b2 hl hvs hb2 => ?_
  · obtain ⟨i, _, rfl⟩ := List.mem_map.mp hy
    refine k_b1 rfl (r_bin (v_call (ds := [.box, .int (2 * 3 + 1)]) (DD.has (by kernel_rfl)) rfl rfl rfl (by (repeat' wtm_at "w")) (law_take_spec ok DD hA xs (2 * 3 + 1) (by decide) hc fun t c2 hc2 ht0 ht => v_of (e_name rfl rfl) ⟨_, rfl, _, rfl, by exact o521 ht0 ht, hc2⟩)))
  · rw [List.length_map, List.length_range] at hl
    refine l_while (fun (r : List Int) => r.length) (fun r ρ b' => b' = b2 ∧ r.length ≤ 2 ∧ (∀ x ∈ r, -3 ≤ x ∧ x ≤ 3) ∧ ρ "row" = some (L r)) vs ⟨rfl, by exact o520 hn hl, hvs, rfl⟩ ?_
    rintro r ρ b' ⟨rfl, h1, h2, h3⟩
    refine m_test (t1_and2 (p := r ≠ []) (q := lc r = 0) (by (repeat' wtm_at "w")) fun r0 => by have pl := pick_last r0; (repeat' wtm_at "w")) (fun y0 => ?_) fun y0 => ?_
    · have hl0 := List.length_pos_iff.mpr y0.1
      refine m_set (d := .list (r.dropLast.map .int)) rfl (by rw [← upto_neg1 r]; (repeat' wtm_at "w")) (l_nil ?_)
      exact ⟨r.dropLast, by rw [List.length_dropLast]; exact o152 hl0, rfl, by rw [List.length_dropLast]; exact o519 h1, fun x hx => h2 x (List.dropLast_subset _ hx), rfl⟩
    · (repeat' wtm_at "w")
      exact h r _ hb2 h1 h2
end
/-! products -/
theorem cf_mul_sum : ∀ (p q : List Int) (n : Nat), cf (mulL p q) n = ((List.range (n + 1)).map fun i => cf p i * cf q (n - i)).sum
  | [], q, n => by
    have : ((List.range (n + 1)).map fun i => cf [] i * cf q (n - i)) = (List.range (n + 1)).map fun _ => (0 : Int) := List.map_congr_left fun i _ => by rw [cf_nil]; simp
    rw [this]
    have z : ∀ m, ((List.range m).map fun _ => (0 : Int)).sum = 0 := fun m => by
      induction m with
      | zero => rfl
      | succ m ih => rw [List.range_succ, List.map_append, List.sum_append, ih]; rfl
    rw [z]; simp [mulL, cf_nil]
  | c :: p, q, n => by
    rw [mulL, cf_addS, cf_map (f := (c * ·)) (by simp), List.range_succ_eq_map, List.map_cons, List.sum_cons, cf_cons_zero, Nat.sub_zero]
    congr 1
    cases n with
    | zero => simp [cf_cons_zero]
    | succ n =>
      rw [cf_cons_succ, cf_mul_sum p q n, List.map_map]
      congr 1
      refine List.map_congr_left fun i _ => ?_
      simp only [Function.comp, cf_cons_succ, Nat.succ_sub_succ]
theorem sum_zero {f : Nat → Int} : ∀ {l : List Nat}, (∀ i ∈ l, f i = 0) → (l.map f).sum = 0
  | [], _ => rfl
  | a :: l, h => by
    rw [List.map_cons, List.sum_cons, h a (.head _), sum_zero fun i hi => h i (List.mem_cons_of_mem _ hi)]; rfl
theorem sum_part {f : Nat → Int} {a z n : Nat} (hz : z ≤ n) (haz : a ≤ z) (h : ∀ i, i < n → (i < a ∨ z ≤ i) → f i = 0) : ((List.range n).map f).sum = ((List.range (z - a)).map fun i => f (a + i)).sum := by
  obtain ⟨u, rfl⟩ : ∃ u, z = a + u := ⟨z - a, by exact o518 haz⟩
  obtain ⟨v, rfl⟩ : ∃ v, n = a + u + v := ⟨n - (a + u), by exact o517 hz⟩
  rw [List.range_add, List.range_add, List.map_append, List.map_append, List.sum_append, List.sum_append, List.map_map, List.map_map]
  rw [sum_zero (f := f) (l := List.range a) fun i hi => h i (by have := List.mem_range.mp hi; exact o516 this) (.inl (List.mem_range.mp hi))]
  rw [sum_zero (f := f ∘ fun x => a + u + x) (l := List.range v) fun i hi => h (a + u + i) (by have := List.mem_range.mp hi; exact o515 this) (.inr (by exact o514))]
  rw [Nat.add_sub_cancel_left]
  simp only [Int.zero_add, Int.add_zero, Function.comp]
  rfl
section
variable {c : Cx} (ok : c.Ok) (DD : Defs c) {A : Around} {e : Nat} {bx : List D} {P : D → List D → Prop}
include ok DD
theorem law_times_spec (hA : AD A (e + 1)) (a b : List Int) (a0 : a ≠ []) (b0 : b ≠ []) (la : a.length ≤ 5) (lb : b.length ≤ 5) (ba : Bn 12 a) (bb : Bn 12 b)
    (h : ∀ r : List Int, r.length + 1 = a.length + b.length → (∀ n, cf r n = cf (mulL a b) n) → P (L r) bx) : CallP c A "_law_times" [L a, L b] bx P := by
  have hla := List.length_pos_iff.mpr a0
  have hlb := List.length_pos_iff.mpr b0
  have es : ((a.map D.int).length : Int) + ((b.map D.int).length : Int) - 1 = ((a.length + b.length - 1 : Nat) : Int) := by rw [List.length_map, List.length_map]; exact o290 hlb
  refine enterF f_law_times m_law_times b_law_times ok DD hA rfl fun A hA => ?_; dsimp only [f_law_times, r_law_times]
  refine m_set rfl (e_itp (t1_and2 (p := a ≠ []) (q := b ≠ []) (by (repeat' wtm_at "w")) fun _ => by (repeat' wtm_at "w")) ⟨a0, b0⟩ (by (repeat' wtm_at "w"))) ?_
  rw [es]
  generalize hT : a.length + b.length - 1 = T
  refine m_own rfl (e_lst s1_nil rfl) rfl (m_for rfl (fun _ _ => rfl) (i1_call rfl rfl rfl (by (repeat' wtm_at "w")) (itr_1 (by unfold sml lim; exact o513 la lb hT))) ?_)
  rw [Int.toNat_natCast]
  refine fg (fun ds ρ b' => b' = bx ∧ ∃ (s : Nat) (R : List Int), ds = ((List.range T).drop s).map (fun (i : Nat) => .int (i : Int)) ∧ s ≤ T ∧ R.length = s ∧ (∀ i, i < s → cf R i = cf (mulL a b) i) ∧
    ρ "left" = some (L a) ∧ ρ "right" = some (L b) ∧ ρ "found" = some (L R)) ?_ ?_ ⟨rfl, 0, [], rfl, by exact o286, rfl, nofun, rfl, rfl, rfl⟩
  · rintro x ds ρ b' ⟨rfl, s, R, hds, hs, hR, hc, h1, h2, h3⟩
    by_cases hlt : s < T
    · have e0 : (List.range T).drop s = s :: (List.range T).drop (s + 1) := by
        rw [List.drop_eq_getElem_cons (by simpa using hlt)]; simp
      rw [e0, List.map_cons] at hds
      cases hds
      have emax : D.int (if (s : Int) - ((b.map D.int).length : Int) + 1 > 0 then (s : Int) - ((b.map D.int).length : Int) + 1 else 0) = .int ((s + 1 - b.length : Nat) : Int) := by rw [List.length_map]; congr 1; split <;> (first | exact o218 (by assumption) | exact o219 (by assumption))
      have emin : D.int ((if ((a.map D.int).length : Int) - 1 < (s : Int) then ((a.map D.int).length : Int) - 1 else (s : Int)) + 1) = .int ((min (s + 1) a.length : Nat) : Int) := by rw [List.length_map]; congr 1; split <;> (first | exact o511 (by assumption) | exact o512 (by assumption))
      have rl : (R.map D.int).length < lim := by rw [List.length_map]; unfold lim; exact o510 la lb hT hs hR
      have hsum : cf (mulL a b) s = ((List.range (min (s + 1) a.length - (s + 1 - b.length))).map fun i => cf a (s + 1 - b.length + i) * cf b (s - (s + 1 - b.length + i))).sum := by
        rw [cf_mul_sum]
        refine sum_part (f := fun i => cf a i * cf b (s - i)) (by exact o509) (by exact o508 hT hlt) fun i hi hq => ?_
        rcases hq with hq | hq
        · rw [cf_out (xs := b) (i := s - i) (by exact o507 hq)]; simp
        · rw [cf_out (xs := a) (i := i) (by exact o506 hi hq)]; simp
      have brg : blt "range" [.int ((s + 1 - b.length : Nat) : Int), .int ((min (s + 1) a.length : Nat) : Int)] = _ := blt_rng (by unfold lim; exact o505 la hT hlt)
      refine k_b1 rfl (m_set rfl (e_blt rfl rfl rfl (s1_cons rfl (e_eq (by (repeat' wtm_at "w")) emax) (s1_cons rfl (e_eq (by (repeat' wtm_at "w")) emin) s1_nil)) brg) ?_)
      generalize hA' : s + 1 - b.length = A' at *
      generalize hZ : min (s + 1) a.length = Z at *
      have eZ : ((Z : Int) - (A' : Int)).toNat = Z - A' := by exact o504
      have ai : asItems (.rng A' Z) = some ((List.range (Z - A')).map fun (i : Nat) => .int ((A' : Int) + (i : Int))) := by rw [← eZ]; rfl
      refine m_app h3 rfl rl (e_blt rfl rfl rfl (s1_cons rfl (e_ci (g := fun i => cf a (A' + i) * cf b (s - (A' + i))) (xs := List.range (Z - A')) rfl (fun _ _ => rfl) (i1_ev rfl (e_name rfl rfl) ai) fun i hi => k_b1 rfl ?_) s1_nil) blt_sum) (l_nil ?_)
      · have hi' := List.mem_range.mp hi
        have q1 : (A' : Int) + (i : Int) = ((A' + i : Nat) : Int) := by exact o284
        have q2 : (s : Int) - ((A' : Int) + (i : Int)) = ((s - (A' + i) : Nat) : Int) := by exact o503 hZ hi'
        have p1 : pick (a.map D.int) ((A' : Int) + (i : Int)) = _ := q1 ▸ cf_pick (xs := a) (i := A' + i) (by exact o502 hZ hi')
        have p2 : pick (b.map D.int) ((s : Int) - ((A' : Int) + (i : Int))) = _ := q2 ▸ cf_pick (xs := b) (i := s - (A' + i)) (by exact o501 hA' hZ hi')
        have m := mulOk (ok_pow 12 (by decide) (ba (A' + i))) (ok_pow 12 (by decide) (bb (s - (A' + i))))
        (repeat' wtm_at "w")
      · refine ⟨rfl, s + 1, R ++ [cf (mulL a b) s], rfl, by exact o281 hlt, by rw [List.length_append, hR]; rfl, fun i hi => ?_, h1, h2, by rw [hsum]; exact congrArg (fun z => some (D.list z)) (map_snoc R _)⟩
        by_cases q : i < s
        · rw [← hc i q]
          simp [cf, List.getElem?_append_left (show i < R.length by exact o500 hR q)]
        · have : i = s := by exact o499 hi q
          subst this
          simp [cf, hR]
    · rw [List.drop_eq_nil_of_le (by simp; exact o279 hlt)] at hds; cases hds
  · rintro ρ b' ⟨rfl, s, R, hds, hs, hR, hc, h1, h2, h3⟩
    have hsT : s = T := by
      apply Classical.byContradiction; intro q
      rw [List.drop_eq_getElem_cons (by simp; exact o278 hs q)] at hds; cases hds
    (repeat' wtm_at "w")
    refine h R (by exact o498 hlb hT hR hsT) fun n => ?_
    by_cases hn : n < s
    · exact hc n hn
    · rw [cf_out (by exact o441 hR hn), cf_mul_out _ _ _ (by exact o497 hT hsT hn)]
end


/-! the two others: their gcd, by cases -/
structure GD (A B g A1 B1 : List Int) (N : Int) : Prop where
  gl : lc g = 1
  g3 : g.length ≤ 3
  gb : ∀ n, (cf g n).natAbs ≤ 3
  ea : ∀ x, pe A x = pe A1 x * pe g x
  eb : ∀ x, pe B x = pe B1 x * pe g x
  bz : ∃ U V, ∀ x, pe U x * pe A1 x + pe V x * pe B1 x = N
  n0 : N ≠ 0
  nb : N.natAbs ≤ 1008
  b1 : ∀ n, (cf A1 n).natAbs ≤ 30
  b2 : ∀ n, (cf B1 n).natAbs ≤ 30
theorem mulb {x y : Int} {X Y : Nat} (hx : x.natAbs ≤ X) (hy : y.natAbs ≤ Y) : (x * y).natAbs ≤ X * Y := by
  rw [Int.natAbs_mul]; exact Nat.mul_le_mul hx hy
theorem cf_le_of {p : List Int} {k : Nat} (h : ∀ x ∈ p, x.natAbs ≤ k) (n : Nat) : (cf p n).natAbs ≤ k := by
  by_cases hn : n < p.length
  · have : cf p n = p[n] := by simp [cf, hn]
    rw [this]; exact h _ (List.getElem_mem hn)
  · rw [cf_out (by exact o279 hn)]; simp
theorem dvd_root {r0 r1 p0 p1 : Int} (h1 : r1 ≠ 0) (h : r0 * r0 - r0 * r1 * p1 + r1 * r1 * p0 = 0) : r1 ∣ r0 := by
  obtain ⟨u, hu⟩ := Int.gcd_dvd_left r0 r1
  obtain ⟨w, hw⟩ := Int.gcd_dvd_right r0 r1
  have hd : 0 < Int.gcd r0 r1 := Int.gcd_pos_of_ne_zero_right _ h1
  have hg : Int.gcd u w = 1 := by
    have e : Int.gcd ((Int.gcd r0 r1 : Int) * u) ((Int.gcd r0 r1 : Int) * w) = Int.gcd r0 r1 * Int.gcd u w := by rw [Int.gcd_mul_left]; simp
    rw [← hu, ← hw] at e
    exact Nat.eq_of_mul_eq_mul_left hd (by exact o535 e)
  generalize (Int.gcd r0 r1 : Int) = d at *
  have d0 : d ≠ 0 := by rintro rfl; simp at hw; exact h1 hw
  have e : u * u = w * (u * p1 - w * p0) := by
    have : d * d * (u * u) = d * d * (w * (u * p1 - w * p0)) := by rw [hu, hw] at h; grind
    exact Int.eq_of_mul_eq_mul_left (Int.mul_ne_zero d0 d0) this
  have hwu : w ∣ u * u := ⟨_, e⟩
  have c : Nat.Coprime w.natAbs u.natAbs := by
    show Nat.gcd w.natAbs u.natAbs = 1
    rw [Nat.gcd_comm]; exact hg
  have h2 : w.natAbs ∣ u.natAbs := c.dvd_of_dvd_mul_left (by rw [← Int.natAbs_mul]; exact Int.natAbs_dvd_natAbs.mpr hwu)
  have h3 : w ∣ u := Int.natAbs_dvd_natAbs.mp h2
  obtain ⟨t, ht⟩ := h3
  exact ⟨t, by rw [hu, hw, ht]; grind⟩
theorem nab_sub {p t : Int} {j k : Nat} (h : p.natAbs ≤ j) (h2 : t.natAbs ≤ k) : (p - t).natAbs ≤ j + k := by exact o534 h h2
theorem nab_add {p t : Int} {j k : Nat} (h : p.natAbs ≤ j) (h2 : t.natAbs ≤ k) : (p + t).natAbs ≤ j + k := by exact o533 h h2
theorem nab_one {b : Int} (h : b = 1 ∨ b = -1) : b.natAbs ≤ 1 := by exact o532 h
theorem cfl1 {a : Int} {k : Nat} (h : a.natAbs ≤ k) : ∀ n, (cf [a] n).natAbs ≤ k := cf_le_of (by simpa using h)
theorem cfl2 {a b : Int} {k : Nat} (h : a.natAbs ≤ k) (h2 : b.natAbs ≤ k) : ∀ n, (cf [a, b] n).natAbs ≤ k := cf_le_of (by simpa using ⟨h, h2⟩)
theorem cfl3 {a b c : Int} {k : Nat} (h : a.natAbs ≤ k) (h2 : b.natAbs ≤ k) (h3 : c.natAbs ≤ k) : ∀ n, (cf [a, b, c] n).natAbs ≤ k := cf_le_of (by simpa using ⟨h, h2, h3⟩)
theorem up {x : Int} {j k : Nat} (h : x.natAbs ≤ j) (hk : j ≤ k) : x.natAbs ≤ k := Nat.le_trans h hk
theorem pe3 {A : List Int} (h : A.length ≤ 3) (x : Int) : pe A x = cf A 0 + cf A 1 * x + cf A 2 * (x * x) := by
  match A, h with
  | [], _ => simp [pe, cf_nil]
  | [a], _ => simp [pe, cf]
  | [a, b], _ => simp [pe, cf]; grind
  | [a, b, c], _ => simp [pe, cf]; grind
theorem gd1 {A : List Int} {b0 : Int} (bA : ∀ n, (cf A n).natAbs ≤ 3) (hb : b0 = 1 ∨ b0 = -1) : GD A [b0] [1] A [b0] 1 := by
  refine ⟨by simp [lc], by simp, cf_le_of (by simp), fun x => by simp [pe], fun x => by simp [pe], ⟨[], [b0], fun x => ?_⟩, by decide, by decide, fun n => by have := bA n; exact o531 this, cf_le_of ?_⟩
  · simp [pe]; rcases hb with rfl | rfl <;> rfl
  · simp; exact o530 hb
theorem gd2 {A : List Int} {b0 b1 : Int} (lA : A.length ≤ 3) (bA : ∀ n, (cf A n).natAbs ≤ 3) (hb : b1 = 1 ∨ b1 = -1) (h0 : b0.natAbs ≤ 3) : ∃ g A1 B1 N, GD A [b0, b1] g A1 B1 N := by
  have pA := fun x => pe3 (A := A) lA x
  have q0 := bA 0; have q1 := bA 1; have q2 := bA 2
  generalize cf A 0 = a0 at *
  generalize cf A 1 = a1 at *
  generalize cf A 2 = a2 at *
  have s2 : b1 * b1 = 1 := by rcases hb with rfl | rfl <;> rfl
  obtain ⟨r, hr⟩ : ∃ r, r = -(b0 * b1) := ⟨_, rfl⟩
  have rb : r.natAbs ≤ 3 := by
    rw [hr, Int.natAbs_neg]; exact mulb (X := 3) (Y := 1) h0 (nab_one hb)
  have m1 := mulb q1 rb
  have m2 := mulb q2 rb
  have m3 := mulb q2 (mulb rb rb)
  by_cases v : a0 + a1 * r + a2 * (r * r) = 0
  · refine ⟨[-r, 1], [a1 + a2 * r, a2], [b1], 1, by simp [lc], by simp, cfl2 (by rw [Int.natAbs_neg]; exact rb) (by decide), fun x => ?_, fun x => ?_, ⟨[], [b1], fun x => by simp [pe]; exact s2⟩, by decide, by decide, cfl2 (up (nab_add q1 m2) (by decide)) (up q2 (by decide)), cfl1 (up (nab_one hb) (by decide))⟩
    · rw [pA]; simp only [pe]; clear m1 m2 m3; grind
    · simp only [pe]; clear m1 m2 m3; grind
  · refine ⟨[1], A, [b0, b1], a0 + a1 * r + a2 * (r * r), by simp [lc], by simp, cf_le_of (by simp), fun x => by simp [pe], fun x => by simp [pe], ⟨[1], [-((a1 + a2 * r) * b1), -(a2 * b1)], fun x => ?_⟩, v, up (nab_add (nab_add q0 m1) m3) (by decide), fun n => up (bA n) (by decide), cfl2 (up h0 (by decide)) (up (nab_one hb) (by decide))⟩
    rw [pA]; simp only [pe]; clear m1 m2 m3 v; grind
theorem alg_t {a2 p1 t r1 s x : Int} : (s * (t * (p1 - t))) + x * (s * p1 + x * (s + x * 0)) = (s * (p1 - t) + x * (s + x * 0)) * (t + x * (1 + x * 0)) := by grind
theorem alg_a {a2 p1 t r1 x : Int} : (r1 * t + a2 * (t * (p1 - t))) + (r1 + a2 * p1) * x + a2 * (x * x) = (a2 * (p1 - t) + r1 + x * (a2 + x * 0)) * (t + x * (1 + x * 0)) := by grind
theorem alg_u {a2 p1 t r1 s x : Int} (h : s * s = 1) : (1 + x * 0) * (a2 * (p1 - t) + r1 + x * (a2 + x * 0)) + (-(a2 * s) + x * 0) * (s * (p1 - t) + x * (s + x * 0)) = r1 := by
  have : (-(a2 * s) + x * 0) * (s * (p1 - t) + x * (s + x * 0)) = -(a2 * (s * s) * ((p1 - t) + x)) := by grind
  rw [this, h]; grind
theorem alg_n {a2 p0 p1 r0 r1 s x : Int} (h : s * s = 1) : (r0 - r1 * p1 + x * (-r1 + x * 0)) * ((r0 + a2 * p0) + (r1 + a2 * p1) * x + a2 * (x * x)) + (s * (r1 * r1 + a2 * (r1 * p1 - r0)) + x * (s * (a2 * r1) + x * 0)) * ((s * p0) + x * (s * p1 + x * (s + x * 0))) = r0 * r0 - r0 * r1 * p1 + r1 * r1 * p0 := by
  have : (s * (r1 * r1 + a2 * (r1 * p1 - r0)) + x * (s * (a2 * r1) + x * 0)) * ((s * p0) + x * (s * p1 + x * (s + x * 0))) = s * s * (((r1 * r1 + a2 * (r1 * p1 - r0)) + x * (a2 * r1)) * (p0 + x * p1 + x * x)) := by grind
  rw [this, h]; grind
theorem small_t {p0 p1 t : Int} (bp0 : p0.natAbs ≤ 3) (bp1 : p1.natAbs ≤ 3) (e2 : p0 = t * (p1 - t)) (z : t ≠ p1 ∨ t.natAbs ≤ 3) : t.natAbs ≤ 3 := by
  apply Classical.byContradiction
  intro q
  have q4 : 4 ≤ t.natAbs := by exact o529 q
  have w2 : t.natAbs * (p1 - t).natAbs ≤ 3 := by rw [← Int.natAbs_mul, ← e2]; exact bp0
  have w3 : 4 * 1 ≤ t.natAbs * (p1 - t).natAbs := Nat.mul_le_mul q4 (by exact o528 z q)
  exact o527 w2 w3
theorem gd3 {A : List Int} {b0 b1 b2 : Int} (lA : A.length ≤ 3) (A0 : A ≠ []) (nA : Nrm A) (bA : ∀ n, (cf A n).natAbs ≤ 3) (hb : b2 = 1 ∨ b2 = -1) (h0 : b0.natAbs ≤ 3) (h1 : b1.natAbs ≤ 3) : ∃ g A1 B1 N, GD A [b0, b1, b2] g A1 B1 N := by
  have pA := fun x => pe3 (A := A) lA x
  have q0 := bA 0; have q1 := bA 1; have q2 := bA 2
  have nz : ¬ (cf A 0 = 0 ∧ cf A 1 = 0 ∧ cf A 2 = 0) := fun ⟨z0, z1, z2⟩ => A0 (pe_zero nA fun x => by rw [pA, z0, z1, z2]; simp)
  generalize cf A 0 = a0 at *
  generalize cf A 1 = a1 at *
  generalize cf A 2 = a2 at *
  have s2 : b2 * b2 = 1 := by rcases hb with rfl | rfl <;> rfl
  obtain ⟨p1, hp1⟩ : ∃ p, p = b2 * b1 := ⟨_, rfl⟩
  obtain ⟨p0, hp0⟩ : ∃ p, p = b2 * b0 := ⟨_, rfl⟩
  have bp1 : p1.natAbs ≤ 3 := by rw [hp1]; exact mulb (X := 1) (Y := 3) (nab_one hb) h1
  have bp0 : p0.natAbs ≤ 3 := by rw [hp0]; exact mulb (X := 1) (Y := 3) (nab_one hb) h0
  have e1 : b1 = b2 * p1 := by rw [hp1]; grind
  have e0 : b0 = b2 * p0 := by rw [hp0]; grind
  obtain ⟨r1, hr1⟩ : ∃ r, r = a1 - a2 * p1 := ⟨_, rfl⟩
  obtain ⟨r0, hr0⟩ : ∃ r, r = a0 - a2 * p0 := ⟨_, rfl⟩
  have m1 := mulb q2 bp1
  have m0 := mulb q2 bp0
  have br1 : r1.natAbs ≤ 12 := by rw [hr1]; exact nab_sub q1 m1
  have br0 : r0.natAbs ≤ 12 := by rw [hr0]; exact nab_sub q0 m0
  have bB : ∀ n, (cf [b0, b1, b2] n).natAbs ≤ 30 := cfl3 (up h0 (by decide)) (up h1 (by decide)) (up (nab_one hb) (by decide))
  have bA' : ∀ n, (cf A n).natAbs ≤ 30 := fun n => up (bA n) (by decide)
  clear m1 m0
  by_cases z1 : r1 = 0
  · by_cases z0 : r0 = 0
    · refine ⟨[p0, p1, 1], [a2], [b2], 1, by simp [lc], by simp, cfl3 bp0 bp1 (by decide), fun x => ?_, fun x => ?_, ⟨[], [b2], fun x => by simp [pe]; exact s2⟩, by decide, by decide, cfl1 (up q2 (by decide)), cfl1 (up (nab_one hb) (by decide))⟩
      · rw [pA]; simp only [pe]; grind
      · simp only [pe]; grind
    · refine ⟨[1], A, [b0, b1, b2], r0, by simp [lc], by simp, cf_le_of (by simp), fun x => by simp [pe], fun x => by simp [pe], ⟨[1], [-(a2 * b2)], fun x => ?_⟩, z0, up br0 (by decide), bA', bB⟩
      rw [pA]; simp only [pe]; grind
  · have k1 := mulb br0 br0
    have k2 := mulb (mulb br0 br1) bp1
    have k3 := mulb (mulb br1 br1) bp0
    have ea1 : a1 = r1 + a2 * p1 := by exact o526 hr1
    have ea0 : a0 = r0 + a2 * p0 := by exact o526 hr0
    clear hp1 hp0 hr1 hr0 nz bA' bB
    subst e1 e0 ea1 ea0
    by_cases zN : r0 * r0 - r0 * r1 * p1 + r1 * r1 * p0 = 0
    · obtain ⟨t, rfl⟩ := dvd_root z1 zN
      have e2 : p0 = t * (p1 - t) := by
        have : (r1 * r1) * p0 = (r1 * r1) * (t * (p1 - t)) := by clear k1 k2 k3 bp0 bp1 br0 br1 q0 q1 q2 h0 h1 hb pA bA s2; grind
        exact Int.eq_of_mul_eq_mul_left (Int.mul_ne_zero z1 z1) this
      have bt : t.natAbs ≤ 3 := small_t bp0 bp1 e2 (Classical.or_iff_not_imp_left.mpr fun q => by rw [Classical.not_not.mp q]; exact bp1)
      have k4 := mulb q2 (nab_sub bp1 bt)
      have k5 := mulb (nab_one hb) (nab_sub bp1 bt)
      subst e2
      refine ⟨[t, 1], [a2 * (p1 - t) + r1, a2], [b2 * (p1 - t), b2], r1, by simp [lc], by simp, cfl2 bt (by decide), fun x => ?_, fun x => ?_, ⟨[1], [-(a2 * b2)], fun x => ?_⟩, z1, up br1 (by decide), cfl2 (up (nab_add k4 br1) (by decide)) (up q2 (by decide)), cfl2 (up k5 (by decide)) (up (nab_one hb) (by decide))⟩
      · rw [pA]; exact alg_a
      · exact alg_t (a2 := 0) (r1 := 0)
      · exact alg_u s2
    · refine ⟨[1], A, [b2 * p0, b2 * p1, b2], r0 * r0 - r0 * r1 * p1 + r1 * r1 * p0, by simp [lc], by simp, cf_le_of (by simp), fun x => by simp [pe], fun x => by simp [pe], ⟨[r0 - r1 * p1, -r1], [b2 * (r1 * r1 + a2 * (r1 * p1 - r0)), b2 * (a2 * r1)], fun x => ?_⟩, zN, up (nab_add (nab_sub k1 k2) k3) (by decide), fun n => up (bA n) (by decide), cfl3 (up h0 (by decide)) (up h1 (by decide)) (up (nab_one hb) (by decide))⟩
      rw [pA]; exact alg_n s2
theorem gd_all {A B : List Int} (lA : A.length ≤ 3) (A0 : A ≠ []) (nA : Nrm A) (bA : ∀ n, (cf A n).natAbs ≤ 3) (lB : B.length ≤ 3) (B0 : B ≠ []) (bB : ∀ n, (cf B n).natAbs ≤ 3) (hb : lc B = 1 ∨ lc B = -1) : ∃ g A1 B1 N, GD A B g A1 B1 N := by
  match B, lB, B0 with
  | [b0], _, _ => exact ⟨_, _, _, _, gd1 bA (by simpa [lc] using hb)⟩
  | [b0, b1], _, _ => exact gd2 lA bA (by simpa [lc] using hb) (by simpa [cf] using bB 0)
  | [b0, b1, b2], _, _ => exact gd3 lA A0 nA bA (by simpa [lc] using hb) (by simpa [cf] using bB 0) (by simpa [cf] using bB 1)


theorem cf_modL (p : List Int) (m : Int) (n : Nat) : cf (modL p m) n = (cf p n).fmod m := by
  unfold modL; rw [cf_trim, cf_map (f := (·.fmod m)) (by simp)]
theorem modL_nil_dvd {p : List Int} {m : Int} (h : modL p m = []) (n : Nat) : m ∣ cf p n := by
  have := cf_modL p m n
  rw [h, cf_nil] at this
  exact Int.dvd_of_fmod_eq_zero this.symm
theorem unit_dvd {p g : List Int} {d : Int} (hd : 0 < d) (lg : lc g = 1) (h : ∀ n, d ∣ cf (mulL p g) n) (n : Nat) : d ∣ cf p n := by
  by_cases w0 : modL p d = []
  · exact modL_nil_dvd w0 n
  · exfalso
    have g0 : g ≠ [] := by rintro rfl; simp [lc] at lg
    have hg := List.length_pos_iff.mpr g0
    have hl := List.length_pos_iff.mpr w0
    have hr := modL_red hd p
    have hn : Nrm (modL p d) := trim_trim _
    obtain ⟨V, hV⟩ := modL_cg p d
    have c : Cg d (pe (mulL (modL p d) g)) (pe (mulL p g)) := ⟨mulL V g, fun x => by rw [pe_mul, pe_mul, pe_mul, hV x]; grind⟩
    have top := cf_mul_top (modL p d) g ((modL p d).length - 1) (g.length - 1) (by exact o164 hl) (by exact o164 hg)
    have e := nrm_last hn w0
    rw [cf_last, cf_last, lg, Int.mul_one] at top
    have := cg_dvd c.symm (h ((modL p d).length - 1 + (g.length - 1)))
    rw [top] at this
    exact e.2 (red_dvd (e.1 ▸ hr _) this)
theorem dvd_all {p : List Int} {d : Int} (h : ∀ n, d ∣ cf p n) : d ∣ gcdAll p := (gcdAll_dvd p d).mpr fun x hx => by
  obtain ⟨n, rfl⟩ := mem_cf hx; exact h n
theorem all_dvd {p : List Int} {d : Int} (h : d ∣ gcdAll p) (n : Nat) : d ∣ cf p n := by
  by_cases hn : n < p.length
  · have : cf p n = p[n] := by simp [cf, hn]
    rw [this]; exact (gcdAll_dvd p d).mp h _ (List.getElem_mem hn)
  · rw [cf_out (by exact o279 hn)]; exact Int.dvd_zero _
theorem gp_mul {p g : List Int} (hp : Gp p) (lg : lc g = 1) : Gp (trim (mulL p g)) ∧ lc (trim (mulL p g)) = lc p ∧ (trim (mulL p g)).length + 1 = p.length + g.length := by
  have ng : Nrm g := nrm_of_last (by exact o547 lg)
  have g0 : g ≠ [] := by rintro rfl; simp [lc] at lg
  have m := mul_len hp.nrm ng (trim_trim (mulL p g)) hp.ne g0 (fun x => by rw [pe_trim, pe_mul])
  rw [lg, Int.mul_one] at m
  refine ⟨⟨?_, by rw [m.2.1]; exact hp.pos⟩, m.2.1, m.1⟩
  have d0 := gcdAll_pos (trim_trim (mulL p g)) m.2.2
  have h1 := dvd_all (unit_dvd d0 lg fun n => by rw [← cf_trim]; exact all_dvd (Int.dvd_refl _) n)
  rw [hp.one] at h1
  have := Int.le_of_dvd (by decide) h1
  exact o565 d0 this
/-! Gauss -/
theorem gauss_prime {p : Int} {G H : List Int} (hp : PrimeI p) (g : Gp G) (h : ∀ n, p ∣ cf (mulL H G) n) (n : Nat) : p ∣ cf H n := by
  have hp2 := hp.1
  have F0 : modL G p ≠ [] := fun q => by
    have := dvd_all (fun n => modL_nil_dvd q n)
    rw [g.one] at this
    have := Int.le_of_dvd (by decide) this
    exact o564 hp2 this
  have hF := List.length_pos_iff.mpr F0
  have nG' : Nrm (modL G p) := trim_trim _
  have nF := nrm_last nG' F0
  have rF := modL_red (p := p) (by exact o262 hp2) G
  have d1 : ¬ p ∣ cf (modL G p) ((modL G p).length - 1) := fun q => nF.2 (by
    have := red_dvd (rF _) q
    rwa [nF.1] at this)
  by_cases w0 : modL H p = []
  · exact modL_nil_dvd w0 n
  · exfalso
    have hl := List.length_pos_iff.mpr w0
    have nH' : Nrm (modL H p) := trim_trim _
    have nH := nrm_last nH' w0
    have rH := modL_red (p := p) (by exact o262 hp2) H
    obtain ⟨V, hV⟩ := modL_cg G p
    obtain ⟨W, hW⟩ := modL_cg H p
    have c : Cg p (pe (mulL (modL H p) (modL G p))) (pe (mulL H G)) := ⟨addL (mulL W (modL G p)) (mulL H V), fun x => by rw [pe_mul, pe_mul, pe_addL, pe_mul, pe_mul, hV x, hW x]; grind⟩
    have top := cf_mul_top (modL H p) (modL G p) ((modL H p).length - 1) ((modL G p).length - 1) (by exact o164 hl) (by exact o164 hF)
    have := cg_dvd c.symm (h ((modL H p).length - 1 + ((modL G p).length - 1)))
    rw [top] at this
    rcases euclid hp this with q | q
    · exact nH.2 (by have := red_dvd (rH _) q; rwa [nH.1] at this)
    · exact d1 q
theorem prime_factor : ∀ e : Nat, 2 ≤ e → ∃ p : Nat, PrimeI p ∧ p ∣ e := by
  intro e
  induction e using Nat.strongRecOn with
  | _ e ih =>
    intro he
    by_cases h : PrimeI e
    · exact ⟨e, h, Nat.dvd_refl _⟩
    · have : ∃ d : Int, 2 ≤ d ∧ d < e ∧ d ∣ e := by
        apply Classical.byContradiction
        intro q
        exact h ⟨by exact o563 he, fun d h1 h2 h3 => q ⟨d, h1, h2, h3⟩⟩
      obtain ⟨d, h1, h2, h3⟩ := this
      obtain ⟨k, rfl⟩ := Int.eq_ofNat_of_zero_le (show 0 ≤ d by exact o62 h1)
      obtain ⟨p, hp, hd⟩ := ih k (by exact o39 h2) (by exact o554 h1)
      exact ⟨p, hp, Nat.dvd_trans hd (Int.natCast_dvd_natCast.mp h3)⟩
theorem gauss {G : List Int} (g : Gp G) : ∀ e : Nat, 0 < e → ∀ H : List Int, (∀ n, (e : Int) ∣ cf (mulL H G) n) → ∀ n, (e : Int) ∣ cf H n := by
  intro e
  induction e using Nat.strongRecOn with
  | _ e ih =>
    intro he H h n
    by_cases h1 : e = 1
    · subst h1; exact Int.one_dvd _
    · obtain ⟨p, hp, e', rfl⟩ := prime_factor e (by exact o562 he h1)
      have hp2 := hp.1
      have p0 : (p : Int) ≠ 0 := by exact o561 hp2
      have hH := gauss_prime hp g (H := H) (fun n => Int.dvd_trans ⟨(e' : Int), by simp⟩ (h n))
      have hc : ∀ n, cf H n = p * cf (H.map (·.fdiv p)) n := fun n => by
        rw [cf_map (f := (·.fdiv (p : Int))) (by simp)]
        obtain ⟨t, ht⟩ := hH n
        rw [ht, Int.mul_fdiv_cancel_left _ p0]
      have hm : ∀ n, cf (mulL H G) n = p * cf (mulL (H.map (·.fdiv p)) G) n := fun n => by
        rw [← cf_map (f := ((p : Int) * ·)) (by simp)]
        refine cf_of_pe (fun x => ?_) n
        rw [pe_map_mul, pe_mul, pe_mul, pe_of_cf_mul hc]; grind
      have e0 : 0 < e' := by rcases Nat.eq_zero_or_pos e' with q | q; (subst q; simp at he); exact q
      have hlt : e' < p * e' := by
        have : 2 * e' ≤ p * e' := Nat.mul_le_mul_right _ (by exact o554 hp2)
        exact o560 e0 this
      have := ih e' hlt e0 (H.map (·.fdiv p)) (fun n => by
        obtain ⟨t, ht⟩ := h n
        rw [hm n] at ht
        refine ⟨t, Int.eq_of_mul_eq_mul_left p0 ?_⟩
        rw [ht]; simp; grind) n
      obtain ⟨t, ht⟩ := this
      exact ⟨t, by rw [hc n, ht]; simp; grind⟩
theorem quot {a G H : List Int} (ha : Nrm a) (a0 : a ≠ []) (g : Gp G) (h : ∀ x, pe a x = pe H x * pe G x) : ∃ A, ∀ x, pe (primL a) x = pe A x * pe G x := by
  have k0 := conK_ne ha a0
  have hcf : ∀ n, cf (mulL H G) n = conK a * cf (primL a) n := fun n => by
    rw [← primL_cf ha a0]
    exact (cf_of_pe (fun x => by rw [pe_mul, h x]) n).symm
  have hd := gauss g (conK a).natAbs (by exact o324 k0) H (fun n => by
    rw [Int.natAbs_dvd]; exact ⟨_, hcf n⟩)
  refine ⟨H.map (·.fdiv (conK a)), fun x => ?_⟩
  have hc : ∀ n, cf H n = conK a * cf (H.map (·.fdiv (conK a))) n := fun n => by
    rw [cf_map (f := (·.fdiv (conK a))) (by simp)]
    obtain ⟨t, ht⟩ := Int.natAbs_dvd.mp (hd n)
    rw [ht, Int.mul_fdiv_cancel_left _ k0]
  have h1 := primL_pe ha a0 x
  rw [h x, pe_of_cf_mul hc] at h1
  exact Int.eq_of_mul_eq_mul_left k0 (by rw [← h1]; grind)
theorem mul_bd (P Q : Nat) : ∀ (p q : List Int), (∀ n, (cf p n).natAbs ≤ P) → (∀ n, (cf q n).natAbs ≤ Q) → ∀ n, (cf (mulL p q) n).natAbs ≤ p.length * (P * Q)
  | [], q, _, _, n => by simp [mulL, cf_nil]
  | c :: p, q, hp, hq, n => by
    have h1 : (c * cf q n).natAbs ≤ P * Q := mulb (by simpa [cf] using hp 0) (hq n)
    have h2 : (cf (0 :: mulL p q) n).natAbs ≤ p.length * (P * Q) := by
      cases n with
      | zero => simp [cf]
      | succ n => rw [cf_cons_succ]; exact mul_bd P Q p q (fun n => by have := hp (n + 1); rwa [cf_cons_succ] at this) hq n
    rw [mulL, cf_addS, cf_map (f := (c * ·)) (by simp), List.length_cons, Nat.succ_mul]
    have := nab_add h1 h2
    exact o559 this
theorem pe_cancel {p q r : List Int} (hr : Nrm r) (r0 : r ≠ []) (h : ∀ x, pe p x * pe r x = pe q x * pe r x) (x : Int) : pe p x = pe q x := by
  by_cases d : trim (addL p (q.map (- ·))) = []
  · have := pe_sub p q x
    rw [d] at this
    simp [pe] at this
    exact o558 this
  · exact absurd rfl (mul_len (trim_trim _) hr (r := []) rfl d r0 (fun x => by rw [pe_sub]; have := h x; simp only [pe]; grind)).2.2
theorem prime109 : PrimeI 109 := ⟨by decide, fun d h1 h2 h3 => by
  obtain ⟨k, rfl⟩ := Int.eq_ofNat_of_zero_le (show 0 ≤ d by exact o62 h1)
  have h4 : k ∣ 109 := Int.natCast_dvd_natCast.mp h3
  have : ∀ k : Nat, k < 109 → 2 ≤ k → ¬ k ∣ 109 := by decide +kernel
  exact this k (by exact o557 h2) (by exact o554 h1) h4⟩
theorem prime113 : PrimeI 113 := ⟨by decide, fun d h1 h2 h3 => by
  obtain ⟨k, rfl⟩ := Int.eq_ofNat_of_zero_le (show 0 ≤ d by exact o62 h1)
  have h4 : k ∣ 113 := Int.natCast_dvd_natCast.mp h3
  have : ∀ k : Nat, k < 113 → 2 ≤ k → ¬ k ∣ 113 := by decide +kernel
  exact this k (by exact o556 h2) (by exact o554 h1) h4⟩
theorem prime101 : PrimeI 101 := ⟨by decide, fun d h1 h2 h3 => by
  obtain ⟨k, rfl⟩ := Int.eq_ofNat_of_zero_le (show 0 ≤ d by exact o62 h1)
  have h4 : k ∣ 101 := Int.natCast_dvd_natCast.mp h3
  have : ∀ k : Nat, k < 101 → 2 ≤ k → ¬ k ∣ 101 := by decide +kernel
  exact this k (by exact o555 h2) (by exact o554 h1) h4⟩
theorem pick_z {N : Int} (n0 : N ≠ 0) (nb : N.natAbs ≤ 1008) : ∃ z : Int, PrimeI z ∧ 109 ≤ z ∧ z ≤ 113 ∧ ¬ z ∣ N := by
  by_cases h : (109 : Int) ∣ N
  · refine ⟨113, prime113, by decide, by decide, fun h2 => ?_⟩
    obtain ⟨k, hk⟩ := h
    obtain ⟨j, hj⟩ := h2
    exact o553 n0 nb hk hj
  · exact ⟨109, prime109, by decide, by decide, h⟩
structure Ini (s A B : List Int) : Prop where
  s0 : s ≠ []
  ls : s.length ≤ 3
  bs : ∀ n, (cf s n).natAbs ≤ 3
  ps : lc s = 1 ∨ lc s = 2
  A0 : A ≠ []
  lA : A.length ≤ 3
  bA : ∀ n, (cf A n).natAbs ≤ 3
  pA : 0 < lc A
  B0 : B ≠ []
  lB : B.length ≤ 3
  bB : ∀ n, (cf B n).natAbs ≤ 3
  pB : lc B = 1 ∨ lc B = -1
theorem le_bn {p : List Int} {j k : Nat} (h : ∀ n, (cf p n).natAbs ≤ j) (hk : j < 2 ^ k) : Bn k p := fun n => Nat.lt_of_le_of_lt (h n) hk
theorem nrm_prod {p q r : List Int} (hp : lc p ≠ 0) (hq : lc q ≠ 0) (lr : r.length + 1 = p.length + q.length) (h : ∀ n, cf r n = cf (mulL p q) n) : Nrm r ∧ r ≠ [] ∧ lc r = lc p * lc q := by
  have p0 : p ≠ [] := by rintro rfl; simp [lc] at hp
  have q0 : q ≠ [] := by rintro rfl; simp [lc] at hq
  have := List.length_pos_iff.mpr p0
  have := List.length_pos_iff.mpr q0
  have e : lc r = lc p * lc q := by
    rw [← cf_last, h, show r.length - 1 = (p.length - 1) + (q.length - 1) by exact o552 lr (by assumption) this, cf_mul_top p q _ _ (by exact o164 (by assumption)) (by exact o164 this), cf_last, cf_last]
  exact ⟨nrm_of_last (by rw [e]; exact Int.mul_ne_zero hp hq), by rintro rfl; simp at lr; exact o551 (by assumption) this lr, e⟩
theorem gp_one : Gp [1] := ⟨by decide, by decide⟩
theorem plain {s A B l r : List Int} (I : Ini s A B) (ll : l.length + 1 = s.length + A.length) (cl : ∀ n, cf l n = cf (mulL s A) n) (lr : r.length + 1 = s.length + B.length) (cr : ∀ n, cf r n = cf (mulL s B) n) :
    ∃ (G A1 B1 : List Int) (N z : Int), GHyp l r G 12 ∧ MH (primL l) (primL r) G N z ∧ GHyp A1 B1 [1] 12 ∧
      (∃ q, ∀ x, pe (scaleL G (Int.gcd (gcdAll l) (gcdAll r))) x = pe q x * pe (primL s) x) ∧
      (∀ x, pe l x = pe A1 x * pe (scaleL G (Int.gcd (gcdAll l) (gcdAll r))) x) ∧ (∀ x, pe r x = pe B1 x * pe (scaleL G (Int.gcd (gcdAll l) (gcdAll r))) x) := by
  have lsp : 0 < lc s := by rcases I.ps with q | q <;> (first | exact o549 q | exact o550 q)
  have lAn : lc A ≠ 0 := by have := I.pA; exact o122 this
  have lBn : lc B ≠ 0 := by rcases I.pB with q | q <;> (first | exact o547 q | exact o548 q)
  have ns : Nrm s := nrm_of_last (by exact o122 lsp)
  have nA : Nrm A := nrm_of_last lAn
  have nB : Nrm B := nrm_of_last lBn
  obtain ⟨g, A1, B1, N, gd⟩ := gd_all I.lA I.A0 nA I.bA I.lB I.B0 I.bB I.pB
  obtain ⟨nl, l0, lcl⟩ := nrm_prod (by exact o122 lsp) lAn ll cl
  obtain ⟨nr, r0, lcr⟩ := nrm_prod (by exact o122 lsp) lBn lr cr
  have pl : ∀ x, pe l x = pe s x * pe A x := fun x => by rw [pe_cf cl, pe_mul]
  have pr : ∀ x, pe r x = pe s x * pe B x := fun x => by rw [pe_cf cr, pe_mul]
  have ng : Nrm g := nrm_of_last (by have := gd.gl; exact o547 this)
  have g0 : g ≠ [] := by rintro rfl; have := gd.gl; simp [lc] at this
  have hs1 := primL_gp ns I.s0
  have ck : conK s = gcdAll s := by unfold conK; rw [if_pos lsp]
  have c0 := gcdAll_pos ns I.s0
  have ps : ∀ x, pe s x = gcdAll s * pe (primL s) x := fun x => by rw [← ck]; exact primL_pe ns I.s0 x
  obtain ⟨gG, lcG, lG⟩ := gp_mul hs1 gd.gl
  have pG : ∀ x, pe (trim (mulL (primL s) g)) x = pe (primL s) x * pe g x := fun x => by rw [pe_trim, pe_mul]
  have gB : ∀ n, (cf (trim (mulL (primL s) g)) n).natAbs ≤ 27 := fun n => by
    rw [cf_trim]
    have b1 : ∀ n, (cf (primL s) n).natAbs ≤ 3 := fun n => by
      have := I.bs n
      rw [primL_cf ns I.s0, Int.natAbs_mul] at this
      have hk := conK_ne ns I.s0
      have h2 : 1 * (cf (primL s) n).natAbs ≤ (conK s).natAbs * (cf (primL s) n).natAbs := Nat.mul_le_mul_right _ (by exact o240 hk)
      exact o546 this h2
    have := mul_bd 3 3 (primL s) g b1 gd.gb n
    have h3 : (primL s).length * (3 * 3) ≤ 3 * (3 * 3) := Nat.mul_le_mul_right _ (by rw [primL_length]; exact I.ls)
    exact Nat.le_trans this h3
  rw [primL_length] at lG
  have lg := List.length_pos_iff.mpr g0
  have lls := I.ls; have llA := I.lA; have llB := I.lB
  generalize hG : trim (mulL (primL s) g) = G at *
  -- the second's primitive part
  obtain ⟨σ, hσ, hσ2⟩ : ∃ σ : Int, lc B = σ ∧ σ * σ = 1 := ⟨lc B, rfl, by rcases I.pB with q | q <;> rw [q] <;> rfl⟩
  have σ0 : σ ≠ 0 := by rintro rfl; simp at hσ2
  have lcB' : lc (scaleL B σ) = 1 := by rw [lc_scale _ σ0, hσ, hσ2]
  obtain ⟨gW, lcW, lW⟩ := gp_mul hs1 lcB'
  have pW : ∀ x, pe (trim (mulL (primL s) (scaleL B σ))) x = pe (primL s) x * (pe B x * σ) := fun x => by rw [pe_trim, pe_mul, pe_scale]
  generalize hW : trim (mulL (primL s) (scaleL B σ)) = W at *
  have er : r = scaleL W (gcdAll s * σ) := eq_of_pe nr (nrm_scale gW.nrm) fun x => by
    rw [pe_scale, pW, pr, ps]; grind
  have cσ : gcdAll s * σ ≠ 0 := Int.mul_ne_zero (by exact o122 c0) σ0
  have simr : Sim r W := ⟨1, gcdAll s * σ, by decide, cσ, fun x => by rw [er, pe_scale]; grind⟩
  have primr : primL r = W := prim_of_sim nr r0 gW simr
  have gr : gcdAll r = gcdAll s := by
    rw [er, gcdAll_scale cσ, gW.one, Int.natAbs_mul]
    have : σ.natAbs = 1 := by rcases I.pB with q | q <;> (rw [← hσ, q]; rfl)
    rw [this]; exact o545 c0
  have gl : ((Int.gcd (gcdAll l) (gcdAll r) : Nat) : Int) = gcdAll s := by
    rw [gr]
    have dv : gcdAll s ∣ gcdAll l := dvd_all fun n => by
      rw [cl]
      have : cf (mulL s A) n = gcdAll s * cf (mulL (primL s) A) n := by
        rw [← cf_map (f := (gcdAll s * ·)) (by simp)]
        exact cf_of_pe (fun x => by rw [pe_map_mul, pe_mul, pe_mul, ps]; grind) n
      rw [this]; exact ⟨_, rfl⟩
    rw [Int.gcd_comm, Int.gcd_eq_natAbs_left dv]
    exact o353 c0
  rw [gl]
  have plG : ∀ x, pe l x = pe (A1.map (gcdAll s * ·)) x * pe G x := fun x => by rw [pl, ps, gd.ea, pe_map_mul, pG]; grind
  have prG : ∀ x, pe r x = pe (B1.map (gcdAll s * ·)) x * pe G x := fun x => by rw [pr, ps, gd.eb, pe_map_mul, pG]; grind
  obtain ⟨U, V, bz⟩ := gd.bz
  have bn : ∀ {p q : List Int}, p.length ≤ 3 → (∀ n, (cf p n).natAbs ≤ 3) → (∀ n, (cf q n).natAbs ≤ 3) → ∀ n, (cf (mulL p q) n).natAbs ≤ 27 := fun hp h1 h2 n =>
    Nat.le_trans (mul_bd 3 3 _ _ h1 h2 n) (Nat.le_trans (Nat.mul_le_mul_right _ hp) (by decide))
  have gi : GI l r G := ⟨⟨1, A1.map (gcdAll s * ·), by decide, fun x => by rw [Int.one_mul]; exact plG x⟩, ⟨1, B1.map (gcdAll s * ·), by decide, fun x => by rw [Int.one_mul]; exact prG x⟩, gcdAll s * N, U, V, Int.mul_ne_zero (by exact o122 c0) gd.n0, fun x => by
    have := bz x
    rw [plG, prG, pe_map_mul, pe_map_mul]; grind⟩
  obtain ⟨z, pz, z1, z2, zn⟩ := pick_z gd.n0 gd.nb
  have cs3 : gcdAll s ≤ 3 := by
    have h1 : gcdAll s ∣ lc s := by rw [← cf_last]; exact all_dvd (Int.dvd_refl _) _
    have := Int.le_of_dvd lsp h1
    rcases I.ps with q | q <;> (first | exact o543 this q | exact o544 this q)
  have trimA : trim A1 ≠ [] := (div_len (k := 1) (by decide) nA I.A0 ng g0 (fun x => by rw [← gd.ea x]; exact o495)).2.2
  have trimB : trim B1 ≠ [] := (div_len (k := 1) (by decide) nB I.B0 ng g0 (fun x => by rw [← gd.eb x]; exact o495)).2.2
  have lenA := (div_len (k := 1) (by decide) nA I.A0 ng g0 (fun x => by rw [← gd.ea x]; exact o495)).1
  have lenB := (div_len (k := 1) (by decide) nB I.B0 ng g0 (fun x => by rw [← gd.eb x]; exact o495)).1
  refine ⟨G, trim A1, trim B1, gcdAll s * N, z, ⟨nl, nr, l0, r0, by exact o542 ll lls llA, by exact o542 lr lls llB, by exact o541 ll lg llA lG, by exact o541 lr lg llB lG, gG, gi, le_bn (fun n => by rw [cl]; exact bn lls I.bs I.bA n) (by decide), le_bn (fun n => by rw [cr]; exact bn lls I.bs I.bB n) (by decide)⟩,
    ⟨quot nl l0 gG plG, quot nr r0 gG prG, ?_, Int.mul_ne_zero (by exact o122 c0) gd.n0, by rw [primr, lcW, lcG], ?_, fun n => Nat.le_trans (gB n) (by decide), pz, z1, z2, fun q => ?_⟩,
    ⟨trim_trim _, trim_trim _, trimA, trimB, by exact o540 llA lenA, by exact o540 llB lenB, by simp; exact o539 lg llA lenA, by simp; exact o539 lg llB lenB, gp_one, ⟨⟨1, trim A1, by decide, fun x => by simp [pe]⟩, ⟨1, trim B1, by decide, fun x => by simp [pe]⟩, N, U, V, gd.n0, fun x => by rw [pe_trim, pe_trim, bz x]; simp [pe]⟩, le_bn (fun n => by rw [cf_trim]; exact gd.b1 n) (by decide), le_bn (fun n => by rw [cf_trim]; exact gd.b2 n) (by decide)⟩,
    ⟨g.map (gcdAll s * ·), fun x => by rw [pe_scale, pG, pe_map_mul]; grind⟩, fun x => by rw [pe_trim, pe_scale, pG, pl, ps, gd.ea]; grind, fun x => by rw [pe_trim, pe_scale, pG, pr, ps, gd.eb]; grind⟩
  · refine ⟨U.map (conK l * ·), V.map (conK r * ·), fun x => ?_⟩
    have h1 := primL_pe nl l0 x
    have h2 := primL_pe nr r0 x
    rw [plG, pe_map_mul] at h1
    rw [prG, pe_map_mul] at h2
    rw [pe_map_mul, pe_map_mul]
    have := bz x
    grind
  · rw [lcG]
    have h1 : lc s = gcdAll s * lc (primL s) := by
      rw [← ck, ← cf_last, ← cf_last, primL_length, primL_cf ns I.s0]
    have h2 : 1 * lc (primL s) ≤ gcdAll s * lc (primL s) := Int.mul_le_mul_of_nonneg_right (by exact o116 c0) (by have := hs1.pos; exact o100 this)
    rcases I.ps with q | q <;> (first | exact o537 h1 h2 q | exact o538 h1 h2 q)
  · rcases euclid pz q with q | q
    · have := Int.le_of_dvd c0 q; exact o536 z1 cs3 this
    · exact zn q

open PySem PySem.Calls PyProof.Rows
section
variable {c : Cx} (ok : c.Ok) (DD : Defs c) {A : Around} {e : Nat} {bx : List D} {P : D → List D → Prop}
include ok DD
theorem law_common_nil (hA : AD A (e + 3)) (a : List Int) (ha : Nrm a) (a0 : a ≠ []) (ba : Bn 12 a) (hP : P (L (scaleL (primL a) (gcdAll a))) bx) : CallP c A "_law_common" [L a, .list []] bx P := by
  have g0 := gcdAll_pos ha a0
  have e0 : ((Int.gcd (gcdAll a) 0 : Nat) : Int) = gcdAll a := by rw [Int.gcd_zero_right]; exact o353 g0
  have hok := gcdAll_ok ha (by decide) ba
  have hN0 : gcdAll a ≠ 0 := by exact o122 g0
  rw [scale_mul1 _ hN0] at hP
  refine enterF f_law_common m_law_common b_law_common ok DD hA rfl fun A hA => ?_; dsimp only [f_law_common, r_law_common]
  refine l_unp2 rfl (v_of (by (repeat' (first | ((guard_target = C1 _ _ _ _ _ _); first | (refine law_bare_spec ok DD hA _ ha (ba.mono (by decide)) ⟨rfl, rfl⟩)) | wtm_at "w"))) ⟨_, rfl, rfl, k_u2 (l_unp2 rfl (v_of (d := .tuple [.list [], .int 0]) (e_call (ds := [.list []]) (DD.has (by kernel_rfl)) rfl rfl rfl (by (repeat' wtm_at "w")) (law_bare_spec ok DD hA [] rfl (Bn.nil _) ⟨rfl, rfl⟩)) ⟨_, rfl, rfl, k_u2 (m_set rfl (by (repeat' (first | ((guard_target = C1 _ _ _ _ _ _); first | (refine law_part_spec ok DD hA _ _ ⟨rfl, rfl⟩)) | wtm_at "w"))) ?_)⟩))⟩)
  rw [e0]
  refine l_while (fun (p : Nat) => 0) (fun p ρ b' => b' = bx ∧ ρ "left" = some (L (primL a)) ∧ ρ "right" = some (.list []) ∧ ρ "content" = some (.int (gcdAll a))) 0 ⟨rfl, rfl, rfl, rfl⟩ ?_
  rintro i ρ b' ⟨rfl, h1, h2, h3⟩
  refine m_test (p := ([] : List Int) ≠ []) (by (repeat' wtm_at "w")) (fun q => (q rfl).elim) fun _ => ?_
  refine m_ret (e_ci (g := fun n => n * gcdAll a) rfl (fun _ _ => rfl) (by (repeat' wtm_at "w")) fun n hx => k_b1 rfl (e_mul (by (repeat' wtm_at "w")) (e_name h3 rfl) (mulOk (primL_ok ha (by decide) ba n hx) hok))) (ret hP)
end
noncomputable def r_law : {r : Arguments × List Stmt × Scope // PySem.Challenge.pw_pq0218_01.theDef "law" = some r} := ⟨_, rfl⟩
noncomputable abbrev f_law : Fn := ⟨"law", r_law.1.1, ["script"], r_law.1.2.1, r_law.1.2.2, []⟩
theorem ini_s {r : List Int} {t : Int} (h1 : r.length ≤ 2) (h2 : ∀ x ∈ r, -3 ≤ x ∧ x ≤ 3) (ht : t.natAbs ≤ 3) : r ++ [t] ≠ [] ∧ (r ++ [t]).length ≤ 3 ∧ (∀ n, (cf (r ++ [t]) n).natAbs ≤ 3) ∧ lc (r ++ [t]) = t := by
  refine ⟨by simp, by simp; exact o579 h1, cf_le_of fun x hx => ?_, by simp [lc]⟩
  rcases List.mem_append.mp hx with q | q
  · have := h2 x q; exact o578 this.1 this.2
  · rw [List.mem_singleton.mp q]; exact ht
theorem prime_pick {t : Int} (h0 : 0 ≤ t) (h5 : t < 5) : ∃ p : Int, pick [.int 2, .int 3, .int 5, .int 7, .int 101] t = some (.int p) ∧ PrimeI p ∧ p ≤ 101 := by
  have p2 : PrimeI 2 := ⟨by decide, fun d h1 h2 => by omega⟩
  have p3 : PrimeI 3 := ⟨by decide, fun d h1 h2 h3 => by
    obtain ⟨k, hk⟩ := h3
    have : d = 2 := by exact o73 h1 h2
    rcases this with rfl
    exact o577 hk⟩
  have p5 : PrimeI 5 := ⟨by decide, fun d h1 h2 h3 => by
    obtain ⟨k, hk⟩ := h3
    have : d = 2 ∨ d = 3 ∨ d = 4 := by exact o576 h1 h2
    rcases this with rfl | rfl | rfl <;> (first | exact o573 hk | exact o574 hk | exact o575 hk)⟩
  have p7 : PrimeI 7 := ⟨by decide, fun d h1 h2 h3 => by
    obtain ⟨k, hk⟩ := h3
    have : d = 2 ∨ d = 3 ∨ d = 4 ∨ d = 5 ∨ d = 6 := by exact o572 h1 h2
    rcases this with rfl | rfl | rfl | rfl | rfl <;> (first | exact o567 hk | exact o568 hk | exact o569 hk | exact o570 hk | exact o571 hk)⟩
  have : t = 0 ∨ t = 1 ∨ t = 2 ∨ t = 3 ∨ t = 4 := by exact o566 h0 h5
  rcases this with rfl | rfl | rfl | rfl | rfl
  · exact ⟨2, rfl, p2, by decide⟩
  · exact ⟨3, rfl, p3, by decide⟩
  · exact ⟨5, rfl, p5, by decide⟩
  · exact ⟨7, rfl, p7, by decide⟩
  · exact ⟨101, rfl, prime101, by decide⟩

open PySem PySem.Calls PyProof.Rows
section
variable {c : Cx} {A : Around} {sc : Scope} {O : List Str} {ρ : PEnv} {b : List D} {l m r : Expr} {pos : Pos} {p q w : Prop} {ip : Decidable p} {iq : Decidable q} {iw : Decidable w} {t : Bool}
theorem t1_or3f (h1 : T1 c A sc O ρ b l (decide p)) (hp : ¬ p) (h2 : T1 c A sc O ρ b m (decide q)) (hq : ¬ q) (h3 : T1 c A sc O ρ b r (decide w)) (hw : ¬ w) : T1 c A sc O ρ b (.BoolOp .Or [l, m, r] pos) false :=
  t_or (to_cons (vt_of h1 (br_df hp (to_cons (vt_of h2 (br_df hq (to_cons (vt_of h3 (br_df hw (to_nil ⟨rfl, rfl⟩))))))))))
theorem e_and3 (h1 : E1 c A sc O ρ b l (.bool true)) (h2 : E1 c A sc O ρ b m (.bool true)) (h3 : E1 c A sc O ρ b r (.bool t)) : E1 c A sc O ρ b (.BoolOp .And [l, m, r] pos) (.bool t) :=
  r_and (a_cons (v_of h1 ⟨_, rfl, br_1 (a_cons (v_of h2 ⟨_, rfl, br_1 (a_one (v_of h3 ⟨_, rfl, rfl, rfl⟩))⟩))⟩))
theorem cl_no {csc : Scope} {elt tg tst : Expr} {ρ₀ : PEnv} {P : List D → List D → Prop} : ∀ {ds : List D}, (∀ d ∈ ds, Op (bindT csc O tg d ρ₀) fun ρ' => T1 c A csc O ρ' b tst false) → P [] b → CL c A csc O tg elt [tst] ρ₀ ds b P
  | [], _, hP => hP
  | d :: ds, h, hP => let ⟨ρ', e1, h1⟩ := h d (.head _); ⟨ρ', e1, vt_of h1 (br_0 (cl_no (fun y hy => h y (.tail _ hy)) hP))⟩
end
theorem row_snoc {r : List Int} {t : Int} (h : r.length ≤ 2) : binop .Add (L r) (.list [.int t]) = some (L (r ++ [t])) := by
  have e : L (r ++ [t]) = .list (r.map .int ++ [.int t]) := by simp [L]
  rw [e]
  exact if_pos (by simp [lim]; exact o599 h)
theorem cmp_eq0 {xs : List Int} : cmp .Eq (.list (xs.map .int)) (.list []) = some (decide (xs = [])) := cmp_eql (ys := [])
theorem blt_sorted {xs : List Int} (h : xs.length < 64) (hp : xs.Pairwise (fun a b => b ≤ a)) : blt "sorted" [.list (xs.map .int)] = some (.list (xs.reverse.map .int)) := by
  show (toInts (xs.map .int)).bind _ = _
  rw [toInts_map]
  exact if_pos ⟨h, hp⟩
theorem SubR.sizes {G : List Int} {rows : List (List Int)} (R : SubR G rows) : ∃ (x y : Int) (t : List Int), rows.map (fun r => (r.length : Int)) = x :: y :: t ∧ y ≤ x ∧ (y :: t).Pairwise (fun a b => b < a) ∧ t.length ≤ 2 := by
  rcases R.shape with ⟨x, y, rfl, h1⟩ | ⟨x, y, w, rfl, h1, h2⟩ | ⟨x, y, w, v, rfl, h1, h2, h3⟩
  · exact ⟨_, _, _, rfl, by dsimp only; exact o49 h1, by simp, by simp⟩
  · exact ⟨_, _, _, rfl, by dsimp only; exact o49 h1, by simp; exact o255 h2, by simp⟩
  · exact ⟨_, _, _, rfl, by dsimp only; exact o49 h1, by simp; exact o598 h2 h3, by simp⟩
section
variable {c : Cx} (ok : c.Ok) (DD : Defs c) {A : Around} {e : Nat} {bx : List D}
include ok DD
theorem law_body (hA : AD A (e + 8)) (xs : List Int) (hb : BoxI xs bx) {ρ : PEnv} (hρ : ρ "box" = some .box) : XL c A f_law.sc [] (f_law.body.drop 1) ρ bx (Ret fun d _ => d = .bool true) := by
  dsimp only [f_law, r_law, List.drop_succ_cons, List.drop_zero]
  refine l_set rfl (r_bin (v_call (ds := [.box, .int 2, .int 3]) (DD.has (by kernel_rfl)) rfl rfl rfl (by (repeat' wtm_at "w")) (law_row_spec ok DD hA xs hb fun r1 b1 hb1 l1 v1 => r_list (s_cons rfl (r_bin (v_of e_int (v_call (ds := [.box, .int 2]) (DD.has (by kernel_rfl)) rfl rfl rfl (by (repeat' wtm_at "w")) (law_take_spec ok DD hA xs 2 (by decide) hb1 fun t1 b2 hb2 s1 s1' => ⟨_, rfl, s_nil ⟨Nat.le_of_ble_eq_true rfl, _, row_snoc l1, ?_⟩⟩))))))))
  refine l_tup2 rfl (p_cons rfl (r_bin (v_call (ds := [.box, .int 2, .int 3]) (DD.has (by kernel_rfl)) rfl rfl rfl (by (repeat' wtm_at "w")) (law_row_spec ok DD hA xs hb2 fun r2 b3 hb3 l2 v2 => r_list (s_cons rfl (r_bin (v_of e_int (v_call (ds := [.box, .int 3]) (DD.has (by kernel_rfl)) rfl rfl rfl (by (repeat' wtm_at "w")) (law_take_spec ok DD hA xs 3 (by decide) hb3 fun t2 b4 hb4 s2 s2' => ⟨_, rfl, s_nil ⟨Nat.le_of_ble_eq_true rfl, _, row_snoc l2, rfl,
    p_cons rfl (r_bin (v_call (ds := [.box, .int 2, .int 3]) (DD.has (by kernel_rfl)) rfl rfl rfl (by (repeat' wtm_at "w")) (law_row_spec ok DD hA xs hb4 fun r3 b5 hb5 l3 v3 => r_list (s_cons rfl (r_bin (r_bin (v_of e_int (v_call (ds := [.box, .int 2]) (DD.has (by kernel_rfl)) rfl rfl rfl (by (repeat' wtm_at "w")) (law_take_spec ok DD hA xs 2 (by decide) hb5 fun t3 b6 hb6 s3 s3' =>
      ⟨_, if_pos (mulOk (ok_pow 60 (by decide) (by decide)) (ok_pow 60 (by decide) (by exact o597 s3 s3'))), v_of e_int ⟨_, rfl, s_nil ⟨Nat.le_of_ble_eq_true rfl, _, row_snoc l3, rfl, p_nil (k_u2 ?_)⟩⟩⟩)))))))))⟩⟩)))))))))
  obtain ⟨a1, a2, a3, a4⟩ := ini_s (t := 1 + t1) l1 v1 (by exact o596 s1 s1')
  obtain ⟨c1, c2, c3, c4⟩ := ini_s (t := 1 + t2) l2 v2 (by exact o595 s2 s2')
  obtain ⟨d1, d2, d3, d4⟩ := ini_s (t := 2 * t3 - 1) l3 v3 (by exact o594 s3 s3')
  have I : Ini (r1 ++ [1 + t1]) (r2 ++ [1 + t2]) (r3 ++ [2 * t3 - 1]) := ⟨a1, a2, a3, by rw [a4]; exact o593 s1 s1', c1, c2, c3, by rw [c4]; exact o592 s2, d1, d2, d3, by rw [d4]; exact o591 s3 s3'⟩
  generalize r1 ++ [1 + t1] = s at *
  generalize r2 ++ [1 + t2] = A' at *
  generalize r3 ++ [2 * t3 - 1] = B at *
  refine l_tup2 rfl (p_cons rfl (v_call (ds := [L s, L A']) (DD.has (by kernel_rfl)) rfl rfl rfl (by (repeat' wtm_at "w")) (law_times_spec ok DD hA s A' I.s0 I.A0 (by exact o590 a2) (by exact o590 c2) (le_bn I.bs (by decide)) (le_bn I.bA (by decide)) fun l ll cl => ⟨rfl, p_cons rfl (v_call (ds := [L s, L B]) (DD.has (by kernel_rfl)) rfl rfl rfl (by (repeat' wtm_at "w"))
    (law_times_spec ok DD hA s B I.s0 I.B0 (by exact o590 a2) (by exact o590 d2) (le_bn I.bs (by decide)) (le_bn I.bB (by decide)) fun r lr cr => ⟨rfl, p_nil (k_u2 ?_)⟩))⟩)))
  obtain ⟨G, GA, GB, N, z, H, M, H1, dv, el, er⟩ := plain I ll cl lr cr
  have zz := M.z1
  have HH := H
  obtain ⟨nl, nr, l0, r0, l5, r5, lg, rg, g, gi, bl, br⟩ := H
  refine l_if_0 (t_cmp rfl (b_ev (v_call (ds := [.box, .int 8]) (DD.has (by kernel_rfl)) rfl rfl rfl (by (repeat' wtm_at "w")) (law_take_spec ok DD hA xs 8 (by decide) hb6 fun t4 b7 hb7 s4 s4' => vb_of (b1_e e_int) ⟨_, rfl, br_d (fun h7 => ?_) fun h7 => ?_⟩))))
  · refine m_set rfl (e_lst s1_nil rfl) (l_nil (aft_l (l_set rfl (r_sub rfl (vb_of (b1_e (by (repeat' wtm_at "w"))) (v_call (ds := [.box, .int 5]) (DD.has (by kernel_rfl)) rfl rfl rfl (by (repeat' wtm_at "w")) (law_take_spec ok DD hA xs 5 (by decide) hb7 fun t5 b8 hb8 s5 s5' => ?_)))))))
    obtain ⟨p, ep, hp, hp1⟩ := prime_pick s5 s5'
    refine ⟨_, rfl, _, ep, ?_⟩
    have o1 : onlyL l [] = l := by unfold onlyL; rw [if_neg l0]
    have o2 : onlyL [] l = l := if_pos rfl
    have f1 : C1 c A "_law_common" [L l, .list []] b8 (L (scaleL (primL l) (gcdAll l))) := law_common_nil ok DD hA l nl l0 bl ⟨rfl, rfl⟩
    have f2 : C1 c A "zgcd" [L l, .list []] b8 (L (scaleL (primL l) (gcdAll l))) := zgcd_nil ok DD hA l [] nl rfl (.inr rfl) bl (Bn.nil _) (by rw [o1]; exact ⟨rfl, rfl⟩)
    have f3 : C1 c A "zgcd" [.list [], L l] b8 (L (scaleL (primL l) (gcdAll l))) := zgcd_nil ok DD hA [] l rfl nl (.inl rfl) (Bn.nil _) bl (by rw [o2]; exact ⟨rfl, rfl⟩)
    have f4 : C1 c A "zgcd_modular" [L l, .list [], .int p] b8 (L (scaleL (primL l) (gcdAll l))) := zgm_nil ok DD hA l [] p nl rfl (.inr rfl) bl (Bn.nil _) (by rw [o1]; exact ⟨rfl, rfl⟩)
    have f5 : C1 c A "zgcd" [.list [], .list []] b8 (.list []) := zgcd_nil ok DD hA [] [] rfl rfl (.inl rfl) (Bn.nil _) (Bn.nil _) ⟨rfl, rfl⟩
    have f6 : C1 c A "zgcd_modular" [.list [], L l, .int p] b8 (L (scaleL (primL l) (gcdAll l))) := zgm_nil ok DD hA [] l p rfl nl (.inl rfl) (Bn.nil _) bl (by rw [o2]; exact ⟨rfl, rfl⟩)
    generalize scaleL (primL l) (gcdAll l) = due at *
    refine m_set rfl (by (repeat' (first | ((guard_target = C1 _ _ _ _ _ _); first | (exact f1)) | wtm_at "w"))) (m_if_f0 (t1_or3f (p := due ≠ due) (q := due ≠ due) (w := due ≠ due) (by (repeat' (first | ((guard_target = C1 _ _ _ _ _ _); first | (exact f2)) | wtm_at "w"))) (fun q => q rfl) (by (repeat' (first | ((guard_target = C1 _ _ _ _ _ _); first | (exact f3)) | wtm_at "w"))) (fun q => q rfl) (by (repeat' (first | ((guard_target = C1 _ _ _ _ _ _); first | (exact f4)) | wtm_at "w"))) fun q => q rfl) rfl ?_)
    refine m_ifp (p := ([] : List Int) = []) (by (repeat' wtm_at "w")) rfl ?_
    refine m_ret (e_and2 (t := decide (([] : List Int) = [])) (u := decide (due = due)) (by (repeat' (first | ((guard_target = C1 _ _ _ _ _ _); first | (exact f5)) | wtm_at "w"))) fun _ => by (repeat' (first | ((guard_target = C1 _ _ _ _ _ _); first | (exact f6)) | wtm_at "w"))) (aft_r (ret ?_))
    simp
  · refine l_set rfl (r_sub rfl (vb_of (b1_e (by (repeat' wtm_at "w"))) (v_call (ds := [.box, .int 5]) (DD.has (by kernel_rfl)) rfl rfl rfl (by (repeat' wtm_at "w")) (law_take_spec ok DD hA xs 5 (by decide) hb7 fun t5 b8 hb8 s5 s5' => ?_))))
    obtain ⟨p, ep, hp, hp1⟩ := prime_pick s5 s5'
    refine ⟨_, rfl, _, ep, ?_⟩
    have ns : Nrm s := nrm_of_last (by rcases I.ps with q | q <;> (first | exact o547 q | exact o589 q))
    have f1 : C1 c A "_law_common" [L l, L r] b8 _ := law_common_spec ok DD hA l r G HH ⟨rfl, rfl⟩
    have f2 : C1 c A "zgcd" [L l, L r] b8 _ := zgcd_spec ok DD hA l r G HH ⟨rfl, rfl⟩
    have f3 : C1 c A "zgcd" [L r, L l] b8 _ := zgcd_spec ok DD hA r l G HH.swap ⟨rfl, rfl⟩
    rw [Int.gcd_comm] at f3
    have f4 : C1 c A "zgcd_modular" [L l, L r, .int p] b8 _ := zgm_spec ok DD hA l r G N z p HH M hp (by exact o588 zz hp1) ⟨rfl, rfl⟩
    have pa := gcdAll_pos nl l0
    have hn : 0 < Int.gcd (gcdAll l) (gcdAll r) := Int.gcd_pos_of_ne_zero_left _ (by exact o122 pa)
    have hle : Int.gcd (gcdAll l) (gcdAll r) ≤ (gcdAll l).natAbs := Nat.le_of_dvd (by exact o414 pa) (Int.natAbs_dvd_natAbs.mpr (Int.gcd_dvd_left (gcdAll l) (gcdAll r)))
    have hlt := gcdAll_le nl bl
    generalize Int.gcd (gcdAll l) (gcdAll r) = n at *
    have n0 : (n : Int) ≠ 0 := by exact o411 hn
    have nd : Nrm (scaleL G n) := nrm_scale g.nrm
    have ld : (scaleL G n).length = G.length := scale_length _ n0
    have d0 : scaleL G n ≠ [] := fun q => by rw [q] at ld; exact g.ne (List.length_eq_zero_iff.mp ld.symm)
    have bd : Bn 18 (scaleL G n) := (le_bn (k := 6) M.gB (by decide)).scale (m := 12) (by exact o587 hlt hle)
    have lG := gi.le g.nrm g.ne nl l0
    have lim4 := I.ls
    generalize scaleL G n = due at *
    refine m_set rfl (by (repeat' (first | ((guard_target = C1 _ _ _ _ _ _); first | (exact f1)) | wtm_at "w"))) (m_if_f0 (t1_or3f (p := due ≠ due) (q := due ≠ due) (w := due ≠ due) (by (repeat' (first | ((guard_target = C1 _ _ _ _ _ _); first | (exact f2)) | wtm_at "w"))) (fun q => q rfl) (by (repeat' (first | ((guard_target = C1 _ _ _ _ _ _); first | (exact f3)) | wtm_at "w"))) (fun q => q rfl) (by (repeat' (first | ((guard_target = C1 _ _ _ _ _ _); first | (exact f4)) | wtm_at "w"))) fun q => q rfl) rfl ?_)
    refine m_ifn0 (p := r = []) (t1_cmp (b1_n rfl) (b1_e (e_lst s1_nil rfl)) rfl cmp_eq0) r0 ?_
    refine l_if_0 (t_cmp rfl (b_ev (v_call (ds := [L due, L (primL s)]) (DD.has (by kernel_rfl)) rfl rfl rfl (by (repeat' (first | ((guard_target = C1 _ _ _ _ _ _); first | (refine law_bare_spec ok DD hA _ ns (le_bn I.bs (by decide)) ⟨rfl, rfl⟩)) | wtm_at "w"))) (zexact_spec ok DD hA due (primL s) 18 12 nd (primL_nrm ns) (primL_ne I.s0) (by exact o580 l5 lG ld) (by rw [primL_length]; exact o586 lim4) (by decide) (by decide) bd (primL_bn' ns (le_bn I.bs (by decide)))
      (fun q _ _ => vb_of (b1_e e_none) ⟨_, cmp_is, br_0 ?_⟩) fun hn => (hn dv).elim))))
    refine l_set rfl (v_call (ds := [L l, L r]) (DD.has (by kernel_rfl)) rfl rfl rfl (by (repeat' wtm_at "w")) (subresultants_spec ok DD hA l r G nl nr l0 r0 l5 r5 lg rg g gi bl br fun rows R => ?_))
    obtain ⟨x, y, t, hsz, hyx, hpw, ht⟩ := R.sizes
    refine l_setc rfl (fun _ _ => rfl) (vi_of (ds := rows.map L) (by (repeat' wtm_at "w")) (cl_mi (g := fun x => (x.length : Int)) (fun x hx => k_b1 rfl (e_eq (by (repeat' wtm_at "w")) (by rw [List.length_map]))) ?_))
    rw [hsz]
    have hpw2 : (y :: t).Pairwise (fun a b => b ≤ a) := hpw.imp fun h => by exact o585 h
    have hnd : (y :: t).Nodup := hpw.imp fun h => by exact o584 h
    refine l_setc rfl (fun _ _ => rfl) (vi_of (ds := (x :: y :: t).map .int) (by (repeat' wtm_at "w")) (cl_no (fun d hd => ?_) ?_))
    · obtain ⟨v, _, rfl⟩ := List.mem_map.mp hd
      have hc := List.nodup_iff_count.mp hnd v
      refine k_b1 rfl (t1_cmp (b1_e (e_count (xs := y :: t) rfl rfl rfl (e_eq (e_from (b1_n rfl) e_int (by decide)) rfl) (e_name rfl rfl))) (b1_e e_int) rfl ?_)
      show some (decide (1 < (((y :: t).count v : Nat) : Int))) = some false
      rw [decide_eq_false (by exact o583 hc)]
    refine m_if_f0 (t1_or3f (p := x < y) (q := (y :: t) ≠ (y :: t)) (w := ([] : List Int) ≠ []) (by (repeat' wtm_at "w")) (by exact o582 hyx) (t1_cmp (b1_e (e_eq (d' := L (y :: t)) (e_from (b1_n rfl) e_int (by decide)) rfl)) (b1_e (e_eq (d' := L (y :: t)) (e_rev (b1_e (e_blt rfl rfl rfl (s1_cons rfl (e_eq (d' := L (y :: t)) (e_from (b1_n rfl) e_int (by decide)) rfl) s1_nil) (blt_sorted (by simp; exact o581 ht) hpw2))) (e_neg e_int)) (by rw [← List.map_reverse, List.reverse_reverse]))) rfl cmp_nel) (fun q => q rfl) (by (repeat' wtm_at "w")) fun q => q rfl) rfl ?_
    refine l_set rfl (r_tup (s_cons rfl (v_call (ds := [L l, L due]) (DD.has (by kernel_rfl)) rfl rfl rfl (by (repeat' wtm_at "w")) (zexact_spec ok DD hA l due 12 18 nl nd d0 (by exact o465 l5) (by exact o580 l5 lG ld) (by decide) (by decide) bl bd
      (fun q2 n2 e2 => s_cons rfl (v_call (ds := [L r, L due]) (DD.has (by kernel_rfl)) rfl rfl rfl (by (repeat' wtm_at "w")) (zexact_spec ok DD hA r due 12 18 nr nd d0 (by exact o465 r5) (by exact o580 l5 lG ld) (by decide) (by decide) br bd (fun q3 n3 e3 => s_nil ⟨Nat.le_of_ble_eq_true rfl, ?_⟩) fun hn => (hn ⟨_, er⟩).elim)))
      fun hn => (hn ⟨_, el⟩).elim))))
    have eq2 : q2 = GA := eq_of_pe n2 H1.1 (pe_cancel nd d0 fun x => by rw [← e2 x, el x])
    have eq3 : q3 = GB := eq_of_pe n3 H1.2.1 (pe_cancel nd d0 fun x => by rw [← e3 x, er x])
    subst eq2 eq3
    refine m_ret (e_and3 (by (repeat' wtm_at "w")) (by (repeat' wtm_at "w")) (by (repeat' (first | ((guard_target = C1 _ _ _ _ _ _); first | (refine zcoprime_spec ok DD hA _ _ [1] H1 ⟨rfl, rfl⟩)) | wtm_at "w")))) (ret ?_)
    rfl
end

open PySem PySem.Calls PyProof.Rows
/-- a heap, all but what is wanted put away -/
noncomputable def onlyH (h : Heap) (p : Nat → Bool) : Heap := ⟨h.objs.mapIdx fun i o => if p i then o else { o with data := .freed }, h.life⟩
theorem onlyH_get {h : Heap} {p : Nat → Bool} {a : Addr} (hp : p a = true) : (onlyH h p).get? a = h.get? a := by
  unfold onlyH Heap.get?
  simp only [Array.getElem?_mapIdx]
  cases h.objs[a]? with
  | none => rfl
  | some o => simp [hp]
theorem onlyH_none {h : Heap} {p : Nat → Bool} {a : Addr} (hp : p a = false) : (onlyH h p).get? a = none := by
  unfold onlyH Heap.get?
  simp only [Array.getElem?_mapIdx]
  cases h.objs[a]? with
  | none => rfl
  | some o => simp [hp]
section
variable {prog : Program} {w : World} {A : Around} {env : Env} {s : Shared}
theorem load_slot {x : Str} {pos : Pos} {v : Value} {Q : Value → Shared → Prop} {E : Value → Shared → Prop} (kind : env.scope.kind = .function) (q : Slot s.heap env x v) (h1 : (x == ("__debug__" : Str)) = false) (h2 : (x == ("__classdict__" : Str)) = false) (P : Q v s) :
    wpAny (model prog w) A (eval (.Name x pos) env) Q E s := by
  rcases q with ⟨hk, m, hn, hv⟩ | ⟨hk | hk, a, ha, hc⟩
  · exact wpAny_Name (wpAny_loadName_local kind hk hn hv P) h1
  · exact wpAny_Name (wpAny_loadName_cell kind hk ha hc P) h1
  · exact wpAny_Name (wpAny_loadName_free kind hk ha hc P h2) h1
theorem slice_raw {value slice : Expr} {a : Addr} {vs : List Value} {k : Nat} {t : Tok} {Q : Value → Shared → Prop} (l : s.heap.IsList a vs.toArray) (hn : vs.length ≤ lim)
    (P : Q (.ref (s.heap.push { cls := .type "slice", data := .fields #[.none, .int k t, .none] }).objs.size) { s with heap := (s.heap.push { cls := .type "slice", data := .fields #[.none, .int k t, .none] }).push { cls := .type "list", data := .seq (vs.take k).toArray } }) :
    wpAny (model prog w) A (subscriptTail value slice (.ref a) (.ref s.heap.objs.size)) Q NoE { s with heap := s.heap.push { cls := .type "slice", data := .fields #[.none, .int k t, .none] } } := by
  obtain ⟨ops, hs⟩ := subscripted_ops slice (.ref a) (.ref s.heap.objs.size)
  refine tail_any (Heap.IsList.typeIs (s := { s with heap := s.heap.push { cls := .type "slice", data := .fields #[.none, .int k t, .none] } }) (l.push _)) slot_list_getitem.lookup
    (wpAny_getItem_list_slice (l.push _) (Heap.IsSliceOf.new ..) .none (.int k t) .none (by simp) ?_ (by simp; exact Nat.le_trans hn lim_le)) hs
  rw [slicePick_upto' vs.toArray k]
  exact P
noncomputable def boxH (h : Heap) (a : Addr) (vs : List Value) (t t' u : Tok) : Heap :=
  ((h.push { cls := .type "slice", data := .fields #[.none, .int 40 t, .none] }).push { cls := .type "list", data := .seq (vs.take 40).toArray }).push { cls := .type "list", data := .seq #[.ref (h.objs.size + 1), .int 0 t', .int 6 u] }
theorem push_size (h : Heap) (o : Obj) : (h.push o).objs.size = h.objs.size + 1 := by
  cases h; simp [Heap.push]
theorem box_stmt {sc : Scope} {M : Addr → Prop} {a : Addr} {vs : List Value} {p1 p2 p3 p4 p5 p6 p7 p8 p9 : Pos} {Q : Flow → Shared → Prop} (kind : env.scope.kind = .function) (W : ∀ h' : Heap, (∀ b o, s.heap.get? b = some o → h'.get? b = some o) → Wr sc env M h') (hx : locIn sc "box" = true)
    (q : Slot s.heap env "script" (.ref a)) (l : s.heap.IsList a vs.toArray) (hn : vs.length ≤ lim)
    (P : ∀ t t' u h' tk', Stored sc env M ["box"] (boxH s.heap a vs t t' u) h' → Slot h' env "box" (.ref (s.heap.objs.size + 2)) → Wr sc env M h' → Q .next { s with heap := h', toks := tk' }) :
    wpAny (model prog w) A (exec (.Assign [.Name "box" p1] (.List [.Subscript (.Name "script" p2) (.Slice none (some (.Constant (.int 40) 0 p3)) none p4) p5, .Constant (.int 0) 0 p6, .Constant (.int 6) 0 p7] p8) p9) env) Q NoE s := by
  refine wpAny_Assign_Name ?_ rfl
  refine wpAny_List ?_
  refine wpAny_items_cons ?_
  refine Subscript_ ?_
  refine load_slot kind q (by decide) (by decide) ?_
  refine wpAny_Slice ?_
  refine wpAny_pure ?_
  show wpAny _ _ (eval (.Constant (.int 40) 0 p3) env) _ _ _
  refine wpAny_Constant_int ?_
  refine wpAny_pure ?_
  refine slice_raw (s := { s with toks := s.toks + 1 }) (k := 40) l hn ?_
  refine wpAny_items_cons ?_
  refine wpAny_Constant_int ?_
  refine wpAny_items_cons ?_
  refine wpAny_Constant_int ?_
  refine wpAny_items_nil ?_
  refine ⟨by simp; decide, ?_⟩
  refine store_raw (c := ⟨prog, w, fun _ => none, fun _ => none, {}, 0, 0, []⟩) (sc := sc) (M := M) kind (W _ ?_) hx fun h' tk' st sl W' => ?_
  · intro b o e
    exact Heap.get?_push_of_some _ (Heap.get?_push_of_some _ (Heap.get?_push_of_some _ e))
  · refine P (s.toks) (s.toks + 1) (s.toks + 1 + 1) h' tk' ?_ ?_ W'
    · unfold boxH
      rw [← push_size s.heap { cls := .type "slice", data := .fields #[.none, .int 40 s.toks, .none] }]
      exact st
    · have e : s.heap.objs.size + 2 = ((s.heap.push { cls := .type "slice", data := .fields #[.none, .int 40 s.toks, .none] }).push { cls := .type "list", data := .seq (vs.take 40).toArray }).objs.size := by rw [push_size, push_size]
      rw [e]
      exact sl
end

open PySem PySem.Calls PyProof.Rows
theorem b_law : BindOk "law" r_law.1.1 r_law.1.2.1 r_law.1.2.2 ["script"] := bindA1 fun _ _ _ _ => by kernel_rfl
theorem law_ok : fnOk f_law = true := by decide +kernel
theorem ints_take : ∀ {vs : List Value} {xs : List Int}, IntsAre vs xs → ∀ k, IntsAre (vs.take k) (xs.take k)
  | _, _, h, 0 => by simpa using IntsAre.nil
  | _, _, .nil, k + 1 => .nil
  | _, _, .cons n t r, k + 1 => .cons n t (ints_take r k)
theorem ints_length : ∀ {vs : List Value} {xs : List Int}, IntsAre vs xs → vs.length = xs.length
  | _, _, .nil => rfl
  | _, _, .cons n t r => by simp [ints_length r]
theorem law_run {prog : Program} {w : World} {mg mb : Str → Option Value} {s : Shared} {fa a : Addr} {o : Obj} {pm code doc : Value} {vs : List Value} {xs : List Int} {R : Result → Shared → Prop}
    (g : s.heap.Ns mainGlobals mg) (b : s.heap.Ns builtinsNs mb) (nolimit : s.heap.NoLimit) (blt : ∀ x ∈ bltNames, mg x = none ∧ mb x = bootBuiltins x)
    (hfs : ∀ F ∈ fns, ∃ a o pm code doc, mg F.name = some (.ref a) ∧ s.heap.get? a = some o ∧ o.data = .func (docDef F.name F.params F.body F.sc pm code doc) ∧ s.heap.CodeRec code F.name)
    (ho : s.heap.get? fa = some o) (hd : o.data = .func (docDef "law" f_law.params f_law.body f_law.sc pm code doc)) (hcd : s.heap.CodeRec code "law")
    (hl : s.heap.IsList a vs.toArray) (hI : IntsAre vs xs) (hn : vs.length ≤ 63)
    (P : ∀ h' tk', (∀ b o, s.heap.get? b = some o → h'.get? b = some o) → R (.ok (.ret (.bool true))) { s with heap := h', toks := tk' }) :
    codeAny (model prog w) callerA (.call (.ref fa) ⟨[.ref a], []⟩) R s := by
  obtain ⟨a6, a7, a8, a9, a10, _, _, _⟩ := fnOk_inv law_ok
  have kscript : f_law.sc.names.lookup ("script" : Str) = some .local := by decide +kernel
  have kbox : locIn f_law.sc ("box" : Str) = true := by decide +kernel
  have hxs : f_law.xs = [("script" : Str)] := rfl
  have hO : f_law.O = [] := rfl
  refine codeAny_call_cells (binds := [(("script" : Str), .ref a)]) (by decide) ho hd nolimit hcd rfl (b_law [.ref a] _ _ _ rfl) rfl (fun y hy => ?_) (fun s₁ I => ?_) a6 a7 a8
  · have : y = (("script" : Str), Value.ref a) := by simpa using hy
    subst this
    exact .inl kscript
  refine wpE ?_
  obtain ⟨env, henv⟩ : ∃ e, e = callEnvC (docDef "law" f_law.params f_law.body f_law.sc pm code doc) s.heap.objs.size fa := ⟨_, rfl⟩
  have hsc : env.scope = f_law.sc := by rw [henv]; rfl
  have hg : env.globals = mainGlobals := by rw [henv]; rfl
  have hbi : env.builtins = builtinsNs := by rw [henv]; rfl
  have hcells : env.cells = cellsFrom (env.locals + 1) f_law.sc.names [] := by rw [henv]; rfl
  have hL : env.locals = s.heap.objs.size := by rw [henv]; rfl
  rw [← henv] at I ⊢
  obtain ⟨h₁, tk₁, rfl⟩ := I.toInCall.same
  have keep := I.toInCall.keep
  have hk : ∀ y, env.kindOf y = f_law.sc.names.lookup y := fun y => by unfold Env.kindOf; rw [hsc]
  have kind : env.scope.kind = .function := by rw [hsc]; exact a8
  have slot : Slot h₁ env "script" (.ref a) := by
    refine .inl ⟨(hk _).trans kscript, _, I.toInCall.ns, ?_⟩
    simp [bindL, (hk _).trans kscript]
  have Llt : env.locals < h₁.objs.size := by
    obtain ⟨o', _, _, e', _⟩ := I.toInCall.ns
    exact Heap.lt_size e'
  have Clt : ∀ y e, env.cells.lookup y = some e → e < h₁.objs.size ∧ env.locals < e := fun y e q => by
    obtain ⟨o', e', _⟩ := I.cell y e q
    exact ⟨Heap.lt_size e', I.above y e (mem_of_lookup q)⟩
  have fit : ∀ y, locIn f_law.sc y = true → env.kindOf y = some .local ∨ (env.kindOf y = some .cell ∧ ∃ a, env.cells.lookup y = some a) := fun y hy => by
    rw [hk y]
    unfold locIn at hy
    split at hy
    · rename_i e; exact .inl e
    · rename_i e
      refine .inr ⟨e, Option.isSome_iff_exists.mp ?_⟩
      rw [hcells]
      exact cells_has (.inl (lookup_mem e))
    · cases hy
  let Mx : Addr → Prop := fun x => x = env.locals ∨ (∃ y, env.cells.lookup y = some x) ∨ x = h₁.objs.size + 2
  have W : ∀ h' : Heap, (∀ b o, h₁.get? b = some o → h'.get? b = some o) → Wr f_law.sc env Mx h' := fun h' k =>
    { ns := ⟨_, I.toInCall.ns.keeps k⟩
      mL := .inl rfl
      cells := fun y a e => ⟨⟨_, (I.cell y a e).keeps k⟩, .inr (.inl ⟨y, e⟩)⟩
      apart := fun y z a e1 e2 => name_of_addr I.apart (mem_of_lookup e1) (mem_of_lookup e2)
      loc := fit }
  obtain ⟨p1, p2, p3, p4, p5, p6, p7, p8, p9, hbody⟩ : ∃ p1 p2 p3 p4 p5 p6 p7 p8 p9, f_law.body = Stmt.Assign [.Name "box" p1] (.List [.Subscript (.Name "script" p2) (.Slice none (some (.Constant (.int 40) 0 p3)) none p4) p5, .Constant (.int 0) 0 p6, .Constant (.int 6) 0 p7] p8) p9 :: f_law.body.drop 1 :=
    ⟨_, _, _, _, _, _, _, _, _, rfl⟩
  show wpAny _ _ (execs f_law.body env) _ _ _
  rw [hbody]
  refine wpAny_execs_cons (box_stmt (s := { s with heap := h₁, toks := tk₁ }) (sc := f_law.sc) (M := Mx) kind W kbox slot (hl.at fun o e => keep _ o e) (Nat.le_trans hn (by decide)) fun t t' u h' tk' st sl W' => ?_)
  have hs1 : s.heap.objs.size < h₁.objs.size := hL ▸ Llt
  have base : ∀ b o, s.heap.get? b = some o → h'.get? b = some o := fun b o e => by
    have hb := Heap.lt_size e
    refine st.k b o (fun q => ?_) (Heap.get?_push_of_some _ (Heap.get?_push_of_some _ (Heap.get?_push_of_some _ (keep b o e))))
    rcases q with q | ⟨y, _, _, q⟩
    · rw [q, hL] at hb; exact absurd hb (Nat.lt_irrefl _)
    · have := (Clt y b q).2
      rw [hL] at this
      exact absurd hb (Nat.not_lt.mpr (Nat.le_of_lt this))
  have gB : h'.get? (h₁.objs.size + 2) = some { cls := .type "list", data := .seq #[.ref (h₁.objs.size + 1), .int 0 t', .int 6 u] } := by
    refine st.seq _ _ _ _ rfl ?_
    unfold boxH
    have e : h₁.objs.size + 2 = ((h₁.push { cls := .type "slice", data := .fields #[.none, .int 40 t, .none] }).push { cls := .type "list", data := .seq (vs.take 40).toArray }).objs.size := by rw [push_size, push_size]
    rw [e]
    exact Heap.get?_push_size _ rfl
  have gS : h'.get? (h₁.objs.size + 1) = some { cls := .type "list", data := .seq (vs.take 40).toArray } := by
    refine st.seq _ _ _ _ rfl ?_
    unfold boxH
    have e : h₁.objs.size + 1 = (h₁.push { cls := .type "slice", data := .fields #[.none, .int 40 t, .none] }).objs.size := by rw [push_size]
    rw [e]
    exact Heap.get?_push_of_some _ (Heap.get?_push_size _ rfl)
  let p : Nat → Bool := fun i => decide (i < s.heap.objs.size) || i == h₁.objs.size + 1
  have p_old : ∀ e : Nat, e < s.heap.objs.size → p e = true := fun e q => by simp [p, q]
  have p_new : ∀ e : Nat, s.heap.objs.size ≤ e → e ≠ h₁.objs.size + 1 → p e = false := fun e q q2 => by
    show (decide (e < s.heap.objs.size) || e == h₁.objs.size + 1) = false
    simp [q2]; exact q
  have pS : p (h₁.objs.size + 1) = true := by simp [p]
  have pB : p (h₁.objs.size + 2) = false := p_new _ (by exact o602 hs1) (by exact o601)
  have hk' : ∀ b o, s.heap.get? b = some o → (onlyH h' p).get? b = some o := fun b o e => by
    rw [onlyH_get (p_old b (Heap.lt_size e))]; exact base b o e
  let c : Cx := { prog := prog, w := w, mg := mg, mb := mb, hT := onlyH h' p, B := h₁.objs.size + 2, SL := h₁.objs.size + 1, xs := xs.take 40 }
  have lt40 : (vs.take 40).length ≤ lim := Nat.le_trans (by simp; exact o600) (show 63 ≤ lim by decide)
  have ok : c.Ok :=
    { g := g.keeps hk'
      b := b.keeps hk'
      nolimit := nolimit.keeps hk'
      hB := onlyH_none pB
      blt := blt
      script := ⟨vs.take 40, ⟨_, (onlyH_get pS).trans gS, rfl, 0, rfl⟩, ints_take hI 40, lt40⟩ }
  have DD : Defs c := fun F hF => by
    obtain ⟨a, o, pm, code, doc, e1, e2, e3, e4⟩ := hfs F hF
    exact ⟨a, o, pm, code, doc, e1, hk' _ _ e2, e3, e4.keeps hk'⟩
  let b0 : List D := [.list ((xs.take 40).map .int), .int 0, .int 6]
  let ρ0 : PEnv := upd (fun _ => none) "box" .box
  have hM : Mo [] Mx (fun _ => 0) ρ0 = Mx := by
    funext x; apply propext; simp [Mo]
  have x0 : BoxR c h' b0 := ⟨0, 6, t', u, 0, rfl, gB⟩
  have S : Sx c f_law.sc [] env Mx (fun _ => 0) ρ0 b0 h' := by
    refine ⟨?_, fun y d q => by simp at q, fun y q => by simp at q, fun y z q => by simp at q, .inr (.inr rfl), .inl rfl, fun y e q => .inr (.inl ⟨y, q⟩)⟩
    rw [hM]
    exact
      { kind := kind
        glob := hg
        bi := hbi
        gl := fun y e => by rw [hk y]; exact e
        nd := ⟨a9, a10⟩
        dom := fun y d e => by
          have : y = "box" := by
            apply Classical.byContradiction
            intro q
            simp [ρ0, upd, q] at e
          subst this
          exact ⟨by simp [ofString_inj], by simp [ofString_inj]⟩
        cl := fun y e => by
          refine ⟨by rw [hk y]; exact e, ?_⟩
          rw [hcells]
          exact cells_has (.inl (lookup_mem e))
        base := fun b o e => by
          by_cases q : p b = true
          · rw [← onlyH_get q]; exact e
          · rw [show c.hT = onlyH h' p from rfl, onlyH_none (by simpa using q)] at e; cases e
        m := ⟨.inr (.inr rfl), fun e he => by
            rcases he with rfl | ⟨y, q⟩ | rfl
            · obtain ⟨m, hn'⟩ := W'.ns; obtain ⟨o', _, _, e', _⟩ := hn'; exact ⟨o', e'⟩
            · obtain ⟨⟨v, o', e', _⟩, _⟩ := W'.cells y e q; exact ⟨o', e'⟩
            · exact ⟨_, gB⟩, fun e he => onlyH_none (by
            rcases he with rfl | ⟨y, q⟩ | rfl
            · exact p_new _ (Nat.le_of_eq hL.symm) (Nat.ne_of_lt (Nat.lt_succ_of_lt Llt))
            · exact p_new _ (Nat.le_of_lt (hL ▸ (Clt y e q).2)) (Nat.ne_of_lt (Nat.lt_succ_of_lt (Clt y e q).1))
            · exact pB)⟩
        vars := fun y d e => by
          have : y = "box" := by
            apply Classical.byContradiction
            intro q
            simp [ρ0, upd, q] at e
          subst this
          have : d = .box := by simpa [ρ0, upd] using e.symm
          subst this
          exact ⟨_, sl, fun _ => .box, fun q => by simp at q⟩
        box := x0
        wr := W' }
  have hA : AD (callerA.deeper env) (0 + 8) := ⟨rfl, by show callerA.depth + 1 + 8 < 1000; decide, by show callerA.units + 3 + 3 * 8 + 3 < 9000; decide⟩
  refine law_body (e := 0) (bx := b0) ok DD hA (xs.take 40) ⟨0, 6, rfl, by decide, by decide, by decide⟩ (ρ := ρ0) rfl ok ⟨rfl, by show callerA.units + 3 < 9000; decide⟩ env Mx (fun _ => 0) { s with heap := h', toks := tk' } _ S fun fl ρ' b' hf flv h'' tk'' so => ?_
  cases fl with
  | next => cases hf
  | ret d =>
  have hf : d = .bool true := hf
  subst hf
  obtain ⟨ks, v, rfl, r, _⟩ := so
  have hv := r.bool_inv
  subst hv
  refine P h'' tk'' fun e o q => ?_
  have hb := Heap.lt_size q
  refine ks.kp e o (fun q' => ?_) (fun q' => ?_) (fun y q => by simp at q) (base e o q)
  · have h3 : e = h₁.objs.size + 2 := q'
    rw [h3] at hb
    exact absurd (Nat.lt_trans hb hs1) (by omega)
  · rcases q' with q' | ⟨y, _, _, q'⟩
    · rw [q', hL] at hb; exact absurd hb (Nat.lt_irrefl _)
    · have := (Clt y e q').2
      rw [hL] at this
      exact absurd hb (Nat.not_lt.mpr (Nat.le_of_lt this))

end Mine
namespace Mine
open PySem PySem.W PyProof.Rows
theorem recs : (recsOf vw).filterMap (fun d => if d.name == ("_law_worth" : Str) then none else some (d.name, d.params, d.body, d.scope)) = (fns ++ [f_law]).map (fun F => (F.name, F.params, F.body, F.sc)) := by kernel_rfl
theorem rec_of {F : Fn} (hF : F ∈ fns ++ [f_law]) : ∃ d ∈ recsOf vw, d.name = F.name ∧ d.params = F.params ∧ d.body = F.body ∧ d.scope = F.sc := by
  have h : (F.name, F.params, F.body, F.sc) ∈ (fns ++ [f_law]).map (fun F => (F.name, F.params, F.body, F.sc)) := List.mem_map.mpr ⟨F, hF, rfl⟩
  rw [← recs] at h
  obtain ⟨d, hd, e⟩ := List.mem_filterMap.mp h
  split at e
  · cases e
  · have e := Option.some.inj e
    exact ⟨d, hd, congrArg (·.1) e, congrArg (·.2.1) e, congrArg (·.2.2.1) e, congrArg (·.2.2.2) e⟩
theorem blt_names : ∀ x ∈ bltNames, x ∉ startupNames ∧ x ∉ looseW vw [] ∧ x ∉ (recsOf vw).map (·.name) ∧ x ∉ (litsOf vw).map (·.1) ∧ x ∉ (clssOf vw (looseW vw [])).map (·.name) ∧ x ≠ "__name__" := by decide +kernel
end Mine
open PySem PySem.W PyProof.Rows
theorem PySem.Challenge.cw_pq0218_01_holds : PySem.Challenge.rw_pq0218_01.Holds := by
  refine holds_law Mine.said fun said => ?_
  refine holds_open (q := Mine.vw) (loose := []) (Xt := Mine.xt) (XP := XL Mine.vw []) (Yf := Hook.none.obs) (Ya := Hook.none.val) (YP := Hook.none.says) (N := 3800) Mine.left Hook.none.of Hook.none.keeps (fun s e => xl_of s (Bool.and_eq_true_iff.mp e).1) XL.keeps (by rfl) (by rfl) (by rfl)
    (fun s e => recFacts_of (Bool.and_eq_true_iff.mp e).2) (by rfl) said (by decide +kernel) ⟨rfl, rfl, rfl, rfl, rfl, by decide +kernel⟩ ?hw ?hc
  case hw => w_witness2
  intro w s₀ s₁ mg mb G Y fa o pm cd doc dV kV ho hd' hcd hD hmg hg args vals as hpre hlay hrd hwl hlo
  have X := (Ground.X G).1
  have V := (Ground.X G).2
  refine Ground.open G ?_
  intro T B D TE TW
  try (refine guard_noD D (by decide +kernel) ?_; clear D)
  obtain ⟨_, _, M⟩ := bmod_of_top T
  have TA := at_of_top T
  try (obtain ⟨_, _, he, B0⟩ := based_of_top T rfl hmg ho hd'; have he' : cd = _ := he; subst he'; clear he)
  wrow_args hpre hlay hrd hwl hlo
  all_goals (
    first | refine PySem.W.callC_kw (enter_call ?_) | refine enter_call ?_ 
    w_top on
    rename_i hL ra w1 r0 hI hr hc1 hc2
    try refine codeAny_mono ?_ (fun _ _ g => GoodW.toG g)
    have hmg' : mg ("law" : Str) = some (.ref fa) := hmg
    have hfs : ∀ F ∈ Mine.fns ++ [Mine.f_law], ∃ a o pm code doc, mg F.name = some (.ref a) ∧ s₁.heap.get? a = some o ∧ o.data = .func (Calls.docDef F.name F.params F.body F.sc pm code doc) ∧ s₁.heap.CodeRec code F.name := fun F hF => by
      obtain ⟨d, hd, e1, e2, e3, e4⟩ := Mine.rec_of hF
      have := T.fn d hd
      rw [e1, e2, e3, e4] at this
      exact this
    obtain ⟨fa', o', pm', code', doc', g1, g2, g3, g4⟩ := hfs Mine.f_law (by simp)
    have hfa : fa' = fa := by
      have : mg ("law" : Str) = some (.ref fa') := g1
      rw [hmg'] at this
      exact (Value.ref.inj (Option.some.inj this)).symm
    subst hfa
    refine Mine.law_run T.g T.b T.nolimit (fun x hx => ?blt) (fun F hF => hfs F (List.mem_append_left _ hF)) g2 g3 g4 hL hI ?hn (fun h' tk' hk => ?P)
    case blt =>
      obtain ⟨a1, a2, a3, a4, a5, a6⟩ := Mine.blt_names x hx
      exact ⟨T.free x a1 a2 a3 a4 a5, T.builtins x a6⟩
    case hn =>
      rw [Mine.ints_length hI]
      omega
    case P =>
      refine ⟨.inl ⟨.bool true, .bool true, [], rfl, ?_, .bool true, ?_, ?_⟩, hk, rfl, hg⟩
      · intro cls; rfl
      · wrow_post
      · intro _; exact ⟨.nil, fun a ha => nomatch ha⟩)
