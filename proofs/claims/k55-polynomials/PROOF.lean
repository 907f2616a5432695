import PyProof.Rows.All
import Wide.All
import OpenK.AllK
import Wide.FinOn
import HandS.ForMost
import HandS.ForExc
import HandS.Wide
import HandS.ExcInit
import HandS.ExcField
import HandS.ClsMeth
import HandS.IsInst
import HandS.FStr
import HandS.OwnEq
import HandS.Zip
import HandS.Flow
import HandS.DictComp
import HandS.Nested
import HandS.SlotsOwn
import HandS.Steps
import HandS.Style
import HandS.Text
import HandS.Codes
import HandS.Dict
import HandS.Iter
import HandS.More
import HandS.Finally
import HandS.Conv
import HandS.WordsDict
import HandS.Strs
import HandS.SortOrd
import HandS.IterVal
import HandS.TupAny
import HandS.Star
import HandS.TryOnly
import HandS.ExcValue
import HandS.Small
import KE.KExcSuper
import KE.KOpsOwn
import KE.KCallOwn
import KE.KEqDict
import KE.KDictList
import KE.KSortTupAny
import PyProof.Rows.SortShellAny
import KE.GoesEnum
import PyProof.InstNe
import KE.KEqNest
import KE.KFmtOwn
import KE.GoesZip
import KE.KDictZip
import KE.GoesMore
import PyProof.NoPylong
import PyProof.Rows.TupMore
import KE.RegKIsAll
import KE.RegKSuper
import KE.RegKTryMore
import KE.OsRunLaw
import PySem.Challenge.RW_waysofmaking_k55_polynomials
set_option Elab.async false
set_option linter.all false
section
set_option maxRecDepth 100000
set_option maxHeartbeats 0
/-! The constants W1.pre.heap_N, W1.pre.view_N (the written part of the head's heap, the view of the top), laid ahead of all else. The theorem itself says True; what the head leaves to be shown here stands in no proof: the law's proof runs the top by W1.hdR and names the constants alone. -/
def W1.laid : Prop := True
theorem W1.laid_of (_ : PySem.Challenge.rw_waysofmaking_k55_polynomials.Holds) : W1.laid = True := rfl
open PySem PySem.W PyProof.Rows in
set_option maxRecDepth 100000 in
set_option maxHeartbeats 0 in
theorem W1.pre : W1.laid := by
  simp (config := { failIfUnchanged := false }) (disch := (w_on; o_law; k_headL)) only [W1.laid_of]
  exact True.intro

namespace W1
open PySem PySem.W PySem.Calls PyProof.Rows HeadRun
/-! ### the run of the top, part by part -/
def hdA : List Addr := [2, 3, 15, 17, 18, 20, 21, 22, 29, 30, 31, 32, 35, 38, 43, 44, 46, 47, 49, 50, 51, 52, 53, 56, 59, 64, 65, 67, 68, 70, 71, 72, 73, 74, 77, 79, 80, 82, 83, 84, 87, 88, 89, 91, 92, 94, 95, 103, 105, 106, 108, 109, 110, 112, 113, 115, 116, 117, 118, 119, 120, 122, 123, 125, 126, 127, 128, 129, 130, 132, 133, 135, 136, 137, 139, 140, 142, 143, 144, 146, 147, 149, 150, 151, 153, 154, 156, 157, 158, 160, 161, 163, 164, 165, 167, 168, 170, 171, 172, 174, 175, 177, 178, 179, 181, 182, 184, 185, 186, 188, 189, 191, 192, 193, 194, 195, 196, 197, 200, 202, 203, 205, 206, 207, 209, 210, 212, 213, 221, 223, 224, 226, 227, 228, 231, 232, 233, 234, 235, 236, 238, 239, 241, 242, 243, 245, 246, 248, 249, 250, 253, 254, 255, 258, 259, 260, 263, 264, 265, 268, 269, 270, 272, 273, 275, 276, 277, 279, 280, 282, 283, 284, 286, 287, 289, 290, 291, 294, 295, 296, 297, 298, 299, 300, 303, 305, 306, 308, 309, 310, 313, 314, 315, 317, 318, 320, 321, 322, 324, 325, 327, 328, 329, 331, 332, 334, 335, 336, 338, 339, 341, 342, 343, 345, 346, 348, 349, 350, 352, 353, 355, 356, 357, 359, 360, 362, 363, 364, 366, 367, 369, 370, 371, 373, 374, 376, 377, 378, 381, 382, 383, 385, 386, 388, 389, 390, 392, 393, 395, 396, 397, 400, 401, 402, 405, 406, 407, 409, 410, 412, 413, 414, 417, 418, 419, 421, 422, 424, 425]
abbrev hdL : List PySem.Str := [Str.ofString "Ratio", Str.ofString "Poly"]
theorem hdE : ∀ P, hdA = (W1.pre.heap_39 P).map (·.1) := fun P => by kernel_rfl
theorem hdN (P : Params) : (W1.pre.heap_39 P).length = 269 := by kernel_rfl
theorem hdP0 (w : World) (os : OsState) : (endF (stepQ (denQ tabQ) PySem.Challenge.pw_waysofmaking_k55_polynomials w) 6204 PySem.Challenge.pw_waysofmaking_k55_polynomials w os).map (fun s => (((W1.pre.heap_39 w.params).drop 0).take 128).map fun x => getT s x.1) = some ((((W1.pre.heap_39 w.params).drop 0).take 128).map fun x => some x.2) := by kernel_rfl
theorem hdP1 (w : World) (os : OsState) : (endF (stepQ (denQ tabQ) PySem.Challenge.pw_waysofmaking_k55_polynomials w) 6204 PySem.Challenge.pw_waysofmaking_k55_polynomials w os).map (fun s => (((W1.pre.heap_39 w.params).drop 128).take 128).map fun x => getT s x.1) = some ((((W1.pre.heap_39 w.params).drop 128).take 128).map fun x => some x.2) := by kernel_rfl
theorem hdP2 (w : World) (os : OsState) : (endF (stepQ (denQ tabQ) PySem.Challenge.pw_waysofmaking_k55_polynomials w) 6204 PySem.Challenge.pw_waysofmaking_k55_polynomials w os).map (fun s => (((W1.pre.heap_39 w.params).drop 256).take 128).map fun x => getT s x.1) = some ((((W1.pre.heap_39 w.params).drop 256).take 128).map fun x => some x.2) := by kernel_rfl
theorem hdK (w : World) (os : OsState) : (endF (stepQ (denQ tabQ) PySem.Challenge.pw_waysofmaking_k55_polynomials w) 6204 PySem.Challenge.pw_waysofmaking_k55_polynomials w os).map (fun s => looksF PySem.Challenge.pw_waysofmaking_k55_polynomials (boot_heap w.params) s.abs) = some true := by kernel_rfl
theorem hdS0 (w : World) (os : OsState) : (endF (stepQ (denQ tabQ) PySem.Challenge.pw_waysofmaking_k55_polynomials w) 6204 PySem.Challenge.pw_waysofmaking_k55_polynomials w os).map (fun s => (seenQ W1.pre.view_39 W1.hdL (importedModules PySem.Challenge.pw_waysofmaking_k55_polynomials.main.body) (fun s => xlAt W1.pre.view_39 [] s && recOk (OpenRow.toRowW (OpenLaw.row PySem.Challenge.rw_waysofmaking_k55_polynomials)).records s) s.abs).1) = some (expectedOf W1.pre.view_39) := by kernel_rfl
theorem hdS1 (w : World) (os : OsState) : (endF (stepQ (denQ tabQ) PySem.Challenge.pw_waysofmaking_k55_polynomials w) 6204 PySem.Challenge.pw_waysofmaking_k55_polynomials w os).map (fun s => (seenQ W1.pre.view_39 W1.hdL (importedModules PySem.Challenge.pw_waysofmaking_k55_polynomials.main.body) (fun s => xlAt W1.pre.view_39 [] s && recOk (OpenRow.toRowW (OpenLaw.row PySem.Challenge.rw_waysofmaking_k55_polynomials)).records s) s.abs).2.1) = some bltViewBooted := by kernel_rfl
theorem hdS2 (w : World) (os : OsState) : (endF (stepQ (denQ tabQ) PySem.Challenge.pw_waysofmaking_k55_polynomials w) 6204 PySem.Challenge.pw_waysofmaking_k55_polynomials w os).map (fun s => (seenQ W1.pre.view_39 W1.hdL (importedModules PySem.Challenge.pw_waysofmaking_k55_polynomials.main.body) (fun s => xlAt W1.pre.view_39 [] s && recOk (OpenRow.toRowW (OpenLaw.row PySem.Challenge.rw_waysofmaking_k55_polynomials)).records s) s.abs).2.2.1) = some true := by kernel_rfl
theorem hdS3 (w : World) (os : OsState) : (endF (stepQ (denQ tabQ) PySem.Challenge.pw_waysofmaking_k55_polynomials w) 6204 PySem.Challenge.pw_waysofmaking_k55_polynomials w os).map (fun s => (seenQ W1.pre.view_39 W1.hdL (importedModules PySem.Challenge.pw_waysofmaking_k55_polynomials.main.body) (fun s => xlAt W1.pre.view_39 [] s && recOk (OpenRow.toRowW (OpenLaw.row PySem.Challenge.rw_waysofmaking_k55_polynomials)).records s) s.abs).2.2.2.1) = some true := by kernel_rfl
theorem hdS4 (w : World) (os : OsState) : (endF (stepQ (denQ tabQ) PySem.Challenge.pw_waysofmaking_k55_polynomials w) 6204 PySem.Challenge.pw_waysofmaking_k55_polynomials w os).map (fun s => (seenQ W1.pre.view_39 W1.hdL (importedModules PySem.Challenge.pw_waysofmaking_k55_polynomials.main.body) (fun s => xlAt W1.pre.view_39 [] s && recOk (OpenRow.toRowW (OpenLaw.row PySem.Challenge.rw_waysofmaking_k55_polynomials)).records s) s.abs).2.2.2.2.1) = some (pinGoodD (drecsOf W1.pre.view_39)) := by kernel_rfl
theorem hdS5 (w : World) (os : OsState) : (endF (stepQ (denQ tabQ) PySem.Challenge.pw_waysofmaking_k55_polynomials w) 6204 PySem.Challenge.pw_waysofmaking_k55_polynomials w os).map (fun s => (seenQ W1.pre.view_39 W1.hdL (importedModules PySem.Challenge.pw_waysofmaking_k55_polynomials.main.body) (fun s => xlAt W1.pre.view_39 [] s && recOk (OpenRow.toRowW (OpenLaw.row PySem.Challenge.rw_waysofmaking_k55_polynomials)).records s) s.abs).2.2.2.2.2.1) = some (plainGoodE W1.pre.view_39 (looseW W1.pre.view_39 W1.hdL)) := by kernel_rfl
theorem hdS6 (w : World) (os : OsState) : (endF (stepQ (denQ tabQ) PySem.Challenge.pw_waysofmaking_k55_polynomials w) 6204 PySem.Challenge.pw_waysofmaking_k55_polynomials w os).map (fun s => (seenQ W1.pre.view_39 W1.hdL (importedModules PySem.Challenge.pw_waysofmaking_k55_polynomials.main.body) (fun s => xlAt W1.pre.view_39 [] s && recOk (OpenRow.toRowW (OpenLaw.row PySem.Challenge.rw_waysofmaking_k55_polynomials)).records s) s.abs).2.2.2.2.2.2.1) = some (plainGoodD W1.pre.view_39 W1.hdL) := by kernel_rfl
theorem hdS7 (w : World) (os : OsState) : (endF (stepQ (denQ tabQ) PySem.Challenge.pw_waysofmaking_k55_polynomials w) 6204 PySem.Challenge.pw_waysofmaking_k55_polynomials w os).map (fun s => (seenQ W1.pre.view_39 W1.hdL (importedModules PySem.Challenge.pw_waysofmaking_k55_polynomials.main.body) (fun s => xlAt W1.pre.view_39 [] s && recOk (OpenRow.toRowW (OpenLaw.row PySem.Challenge.rw_waysofmaking_k55_polynomials)).records s) s.abs).2.2.2.2.2.2.2.1) = some (wideGood W1.pre.view_39) := by kernel_rfl
theorem hdS8 (w : World) (os : OsState) : (endF (stepQ (denQ tabQ) PySem.Challenge.pw_waysofmaking_k55_polynomials w) 6204 PySem.Challenge.pw_waysofmaking_k55_polynomials w os).map (fun s => (seenQ W1.pre.view_39 W1.hdL (importedModules PySem.Challenge.pw_waysofmaking_k55_polynomials.main.body) (fun s => xlAt W1.pre.view_39 [] s && recOk (OpenRow.toRowW (OpenLaw.row PySem.Challenge.rw_waysofmaking_k55_polynomials)).records s) s.abs).2.2.2.2.2.2.2.2) = some (clsGoodW W1.pre.view_39 W1.hdL) := by kernel_rfl
theorem hd_at {A : Type} {x : Option A} {α : Type} {f : A → α} {a : α} {s : A} (h : x.map f = some a) (e : x = some s) : f s = a := by
  rw [e] at h
  exact Option.some.inj h
theorem hd_parts {α β : Type} {n : Nat} (hn : 0 < n) {f g : α → β} : ∀ (m : Nat) (K : List α), K.length ≤ m * n → (∀ j, j < m → ((K.drop (j * n)).take n).map f = ((K.drop (j * n)).take n).map g) → K.map f = K.map g
  | 0, K, hl, _ => by
    rw [Nat.zero_mul] at hl
    rw [List.length_eq_zero_iff.mp (Nat.le_zero.mp hl), List.map_nil, List.map_nil]
  | m + 1, K, hl, h => by
    have h0 := h 0 (Nat.succ_pos m)
    rw [Nat.zero_mul, List.drop_zero] at h0
    have h1 := hd_parts hn m (K.drop n) (by rw [List.length_drop]; rw [Nat.succ_mul] at hl; omega) fun j hj => by
      have e2 : (K.drop n).drop (j * n) = K.drop ((j + 1) * n) := by
        rw [List.drop_drop, show n + j * n = (j + 1) * n by rw [Nat.succ_mul, Nat.add_comm]]
      exact e2 ▸ h (j + 1) (Nat.succ_lt_succ hj)
    have e : K = K.take n ++ K.drop n := (List.take_append_drop n K).symm
    rw [e, List.map_append, List.map_append, h0, h1]
theorem hd_join {A α β : Type} {x : Option A} {f : A → α} {g : A → β} {K : List (Nat × Obj)} {as : List Nat} {m : Nat} {t : A → Nat → Option Obj} {a : α} {b : β} (h1 : x.map f = some a) (h2 : ∀ s, x = some s → g s = b)
    (h3 : ∀ j, j < m → x.map (fun s => ((K.drop (j * 128)).take 128).map fun y => t s y.1) = some (((K.drop (j * 128)).take 128).map fun y => some y.2)) (hl : K.length ≤ m * 128) (ea : as = K.map (·.1)) : x.map (fun s => (f s, g s, as.map (t s))) = some (a, b, K.map fun y => some y.2) := by
  cases e : x with
  | none =>
    rw [e] at h1
    cases h1
  | some s =>
    have e1 := hd_at h1 e
    have e2 := h2 s e
    have e3 : as.map (t s) = K.map fun y => some y.2 := by
      rw [ea, List.map_map]
      exact hd_parts (f := t s ∘ fun y : Nat × Obj => y.1) (by decide) m K hl fun j hj => hd_at (x := x) (f := fun s => ((K.drop (j * 128)).take 128).map (t s ∘ fun y : Nat × Obj => y.1)) (h3 j hj) e
    show some (f s, g s, as.map (t s)) = _
    rw [e1, e2, e3]
theorem hdS (w : World) (os : OsState) (s : SharedT) (e : (endF (stepQ (denQ tabQ) PySem.Challenge.pw_waysofmaking_k55_polynomials w) 6204 PySem.Challenge.pw_waysofmaking_k55_polynomials w os) = some s) : (seenQ W1.pre.view_39 W1.hdL (importedModules PySem.Challenge.pw_waysofmaking_k55_polynomials.main.body) (fun s => xlAt W1.pre.view_39 [] s && recOk (OpenRow.toRowW (OpenLaw.row PySem.Challenge.rw_waysofmaking_k55_polynomials)).records s) s.abs) = openGood W1.pre.view_39 W1.hdL := by
  have e0 := hd_at (hdS0 w os) e
  have e1 := hd_at (hdS1 w os) e
  have e2 := hd_at (hdS2 w os) e
  have e3 := hd_at (hdS3 w os) e
  have e4 := hd_at (hdS4 w os) e
  have e5 := hd_at (hdS5 w os) e
  have e6 := hd_at (hdS6 w os) e
  have e7 := hd_at (hdS7 w os) e
  have e8 := hd_at (hdS8 w os) e
  clear e
  show _ = ((expectedOf W1.pre.view_39), bltViewBooted, true, true, (pinGoodD (drecsOf W1.pre.view_39)), (plainGoodE W1.pre.view_39 (looseW W1.pre.view_39 W1.hdL)), (plainGoodD W1.pre.view_39 W1.hdL), (wideGood W1.pre.view_39), (clsGoodW W1.pre.view_39 W1.hdL))
  generalize (seenQ W1.pre.view_39 W1.hdL (importedModules PySem.Challenge.pw_waysofmaking_k55_polynomials.main.body) (fun s => xlAt W1.pre.view_39 [] s && recOk (OpenRow.toRowW (OpenLaw.row PySem.Challenge.rw_waysofmaking_k55_polynomials)).records s) s.abs) = z at e0 e1 e2 e3 e4 e5 e6 e7 e8 ⊢
  obtain ⟨z0, z1, z2, z3, z4, z5, z6, z7, z8⟩ := z
  rw [← e0, ← e1, ← e4, ← e5, ← e6, ← e7, ← e8]
  rw [show z2 = true from e2, show z3 = true from e3]
theorem hdR : LeftO PySem.Challenge.pw_waysofmaking_k55_polynomials W1.pre.view_39 W1.hdL (fun s => xlAt W1.pre.view_39 [] s && recOk (OpenRow.toRowW (OpenLaw.row PySem.Challenge.rw_waysofmaking_k55_polynomials)).records s) (Hook.obs (kHook W1.pre.heap_39 W1.hdA W1.hdE)) (Hook.val (kHook W1.pre.heap_39 W1.hdA W1.hdE)) 6904 true :=
  HeadRun.left_oneK (M := 6204) (by kernel_rfl) (by rfl) (fun s => by kernel_rfl) (by rfl) fun w os =>
    hd_join (m := 3) (hdK w os) (hdS w os) (fun j hj => match j, hj with
      | 0, _ => hdP0 w os
      | 1, _ => hdP1 w os
      | 2, _ => hdP2 w os
      | j + 3, h => absurd h (by omega)) (by rw [hdN]; decide) (hdE w.params)
end W1

end
set_option Elab.async false
set_option linter.all false
set_option maxRecDepth 100000
set_option maxHeartbeats 2000000
namespace W1
open PySem PySem.Spec PyProof.Rows L2

/-! ### what is known of values -/
structure Rl where
  r : V → Hp → Prop
  mo : ∀ v H H', Same H H' → r v H → r v H'
structure Ol where
  c : HO → Hp → Prop
  mo : ∀ o H H', Same H H' → c o H → c o H'
abbrev Ty := List (Option Rl)
abbrev Ow := List (Addr × Ol)
abbrev Er := Value → Option Addr → Hp → Prop
abbrev Out := Except Er Rl

def All2 : List Rl → List V → Hp → Prop
  | [], [], _ => True
  | R :: Rs, v :: vs, H => R.r v H ∧ All2 Rs vs H
  | _, _, _ => False
theorem All2.up : ∀ {Rs : List Rl} {vs : List V} {H H' : Hp}, Same H H' → All2 Rs vs H → All2 Rs vs H'
  | [], [], _, _, _, _ => trivial
  | R :: _, _ :: _, _, _, e, ⟨a, b⟩ => ⟨R.mo _ _ _ e a, All2.up e b⟩
  | [], _ :: _, _, _, _, h => h.elim
  | _ :: _, [], _, _, _, h => h.elim
theorem All2.len : ∀ {Rs : List Rl} {vs : List V} {H : Hp}, All2 Rs vs H → Rs.length = vs.length
  | [], [], _, _ => rfl
  | _ :: _, _ :: _, _, ⟨_, b⟩ => by rw [List.length_cons, List.length_cons, All2.len b]
  | [], _ :: _, _, h => h.elim
  | _ :: _, [], _, h => h.elim
theorem All2.get : ∀ {Rs : List Rl} {vs : List V} {H : Hp} {i : Nat} {R : Rl}, All2 Rs vs H → Rs[i]? = some R → ∃ v, vs[i]? = some v ∧ R.r v H
  | [], _, _, i, _, _, e => by simp at e
  | R :: _, v :: _, _, 0, _, ⟨a, _⟩, e => by
    have e' : R = _ := Option.some.inj e
    subst e'
    exact ⟨v, rfl, a⟩
  | _ :: _, _ :: _, _, i + 1, _, ⟨_, b⟩, e => All2.get (i := i) b e
  | _ :: _, [], _, _, _, h, _ => h.elim
theorem All2.app : ∀ {Rs Ss : List Rl} {vs ws : List V} {H : Hp}, All2 Rs vs H → All2 Ss ws H → All2 (Rs ++ Ss) (vs ++ ws) H
  | [], _, [], _, _, _, h => h
  | _ :: _, _, _ :: _, _, _, ⟨a, b⟩, h => ⟨a, All2.app b h⟩
  | [], _, _ :: _, _, _, h, _ => h.elim
  | _ :: _, _, [], _, _, h, _ => h.elim

structure Slots (ρ : Ty) (σ : L2.St) (G : Hp) : Prop where
  len : σ.length = ρ.length
  at_ : ∀ (i : Nat) (R : Rl), ρ[i]? = some (some R) → ∃ v, σ[i]? = some (some v) ∧ R.r v G
theorem Slots.up {ρ : Ty} {σ : L2.St} {G G' : Hp} (s : Slots ρ σ G) (e : Same G G') : Slots ρ σ G' :=
  ⟨s.len, fun i R h => let ⟨v, a, b⟩ := s.at_ i R h; ⟨v, a, R.mo _ _ _ e b⟩⟩
theorem Slots.set {ρ : Ty} {σ : L2.St} {G : Hp} (s : Slots ρ σ G) (i : Nat) {R : Rl} {v : V} (h : R.r v G) : Slots (ρ.set i (some R)) (σ.set i (some v)) G := by
  refine ⟨by rw [List.length_set, List.length_set]; exact s.len, fun j S e => ?_⟩
  by_cases hj : i = j
  · subst hj
    by_cases hi : i < ρ.length
    · rw [List.getElem?_set_self hi] at e
      cases e
      exact ⟨v, List.getElem?_set_self (by rw [s.len]; exact hi), h⟩
    · rw [List.getElem?_eq_none (by rw [List.length_set]; omega)] at e
      cases e
  · rw [List.getElem?_set_ne hj] at e
    obtain ⟨w, a, b⟩ := s.at_ j S e
    exact ⟨w, by rw [List.getElem?_set_ne hj]; exact a, b⟩
theorem Slots.gone {ρ : Ty} {σ : L2.St} {G : Hp} (s : Slots ρ σ G) (i : Nat) : Slots (ρ.set i none) (σ.set i none) G := by
  refine ⟨by rw [List.length_set, List.length_set]; exact s.len, fun j S e => ?_⟩
  by_cases hj : i = j
  · subst hj
    by_cases hi : i < ρ.length
    · rw [List.getElem?_set_self hi] at e
      cases e
    · rw [List.getElem?_eq_none (by rw [List.length_set]; omega)] at e
      cases e
  · rw [List.getElem?_set_ne hj] at e
    obtain ⟨w, a, b⟩ := s.at_ j S e
    exact ⟨w, by rw [List.getElem?_set_ne hj]; exact a, b⟩

/-! ### the frame of a body -/
structure Fx where
  X : Cx
  G0 : Hp
  H0 : Hp
  M : List Addr
  W : WX
  tk : Takes X W
structure At (F : Fx) (ω : Ow) (G H : Hp) : Prop where
  gg : Same F.G0 G
  hh : ∀ a o, a ∉ F.M → F.H0 a = some o → H a = some o
  gh : Same G H
  fr : ∀ a, F.H0 a ≠ none → F.G0 a = none → G a = none
  mm : ∀ a ∈ F.M, H a ≠ none
  ow : ∀ p ∈ ω, G p.1 = none ∧ (F.H0 p.1 = none ∨ p.1 ∈ F.M) ∧ ∃ o, H p.1 = some o ∧ p.2.c o G
  nd : (ω.map (·.1)).Nodup
/-- a further step of a callee, or of an allocation -/
structure Step (G H G' H' : Hp) : Prop where
  gg : Same G G'
  hh : Same H H'
  gh : Same G' H'
  fr : ∀ a, H a ≠ none → G a = none → G' a = none
theorem At.step {F : Fx} {ω : Ow} {G H G' H' : Hp} (a : At F ω G H) (s : Step G H G' H') : At F ω G' H' where
  gg := a.gg.trans s.gg
  hh := fun b o hb e => s.hh b o (a.hh b o hb e)
  gh := s.gh
  fr := fun b h1 h2 => s.fr b (by
    by_cases hb : b ∈ F.M
    · exact a.mm b hb
    · cases e : F.H0 b with
      | none => exact absurd e h1
      | some o => rw [a.hh b o hb e]; simp) (a.fr b h1 h2)
  mm := fun b hb => by
    cases e : H b with
    | none => exact absurd e (a.mm b hb)
    | some o => rw [s.hh b o e]; simp
  ow := fun p hp => by
    obtain ⟨g, h0, o, ho, hc⟩ := a.ow p hp
    exact ⟨s.fr _ (by rw [ho]; simp) g, h0, o, s.hh _ _ ho, p.2.mo _ _ _ s.gg hc⟩
  nd := a.nd
theorem Step.refl {G H : Hp} (h : Same G H) : Step G H G H := ⟨Same.refl _, Same.refl _, h, fun _ _ e => e⟩
theorem Step.new {G H : Hp} {p : Addr} {o : HO} (h : Same G H) (hp : H p = none) : Step G H (upd G p o) (upd H p o) := by
  have hg : G p = none := h.free hp
  refine ⟨fun a u e => ?_, fun a u e => ?_, fun a u e => ?_, fun a h1 h2 => ?_⟩
  · rw [upd_ne (ne_of_none e hg)]; exact e
  · rw [upd_ne (ne_of_none e hp)]; exact e
  · by_cases ha : a = p
    · subst ha; rw [upd_same] at e ⊢; exact e
    · rw [upd_ne ha] at e ⊢; exact h _ _ e
  · by_cases ha : a = p
    · subst ha; exact absurd hp h1
    · rw [upd_ne ha]; exact h2
/-- a new object that G does not see -/
theorem Step.hid {G H : Hp} {p : Addr} {o : HO} (h : Same G H) (hp : H p = none) : Step G H G (upd H p o) := by
  refine ⟨Same.refl _, fun a u e => ?_, fun a u e => ?_, fun a _ h2 => h2⟩
  · rw [upd_ne (ne_of_none e hp)]; exact e
  · rw [upd_ne (ne_of_none (h _ _ e) hp)]; exact h _ _ e
theorem Step.trans {G H G1 H1 G2 H2 : Hp} (a : Step G H G1 H1) (b : Step G1 H1 G2 H2) : Step G H G2 H2 :=
  ⟨a.gg.trans b.gg, a.hh.trans b.hh, b.gh, fun x h1 h2 => b.fr x (by
    cases e : H x with
    | none => exact absurd e h1
    | some o => rw [a.hh x o e]; simp) (a.fr x h1 h2)⟩

/-! ### the weakest wishes -/
section
variable (X : Cx)
def EW (e : Expr) : TE := fun σ H Q => ∀ pins s, Inv X pins σ H s → wpAny (model X.prog X.w) X.A (eval e X.env) (EP X pins σ Q) X.xe s
def TW (e : Expr) : TT := fun σ H Q => ∀ pins s, Inv X pins σ H s → wpAny (model X.prog X.w) X.A (isTrue e X.env (eval e X.env)) (TP X pins σ Q) X.xe s
def AW (es : List Expr) : TA := fun σ H Q => ∀ pos pins s, Inv X pins σ H s → wpAny (model X.prog X.w) X.A (spliced (backTo pos (starEach es X.env))) (AP X pins σ Q) X.xe s
def SW (st : Stmt) : TS := fun D σ H => ∀ pins s, Inv X pins σ H s → wpAny (model X.prog X.w) X.A (exec st X.env) (SP X pins D) X.xe s
def BW (st : List Stmt) : TS := fun D σ H => ∀ pins s, Inv X pins σ H s → wpAny (model X.prog X.w) X.A (execs st X.env) (SP X pins D) X.xe s
end
section
variable {X : Cx}
theorem pe_w {e : Expr} : PE X e (EW X e) := ⟨fun pins s _ _ _ I h => h pins s I⟩
theorem pt_w {e : Expr} : PT X e (TW X e) := ⟨fun pins s _ _ _ I h => h pins s I⟩
theorem pa_w {es : List Expr} : PA X es (AW X es) := ⟨fun pos pins s _ _ _ I h => h pos pins s I⟩
theorem ps_w {st : Stmt} : PS X st (SW X st) := ⟨fun pins s _ _ _ I h => h pins s I⟩
theorem pss_w {st : List Stmt} : PSs X st (BW X st) := ⟨fun pins s _ _ _ I h => h pins s I⟩
theorem ew_of {e : Expr} {t : TE} (h : PE X e t) {σ : L2.St} {H : Hp} {Q : VK} (q : t σ H Q) : EW X e σ H Q := fun pins s I => h.run pins s σ H Q I q
theorem tw_of {e : Expr} {t : TT} (h : PT X e t) {σ : L2.St} {H : Hp} {Q : Bool → Hp → Prop} (q : t σ H Q) : TW X e σ H Q := fun pins s I => h.run pins s σ H Q I q
theorem aw_of {es : List Expr} {t : TA} (h : PA X es t) {σ : L2.St} {H : Hp} {Q : List V → Hp → Prop} (q : t σ H Q) : AW X es σ H Q := fun pos pins s I => h.run pos pins s σ H Q I q
theorem sw_of {st : Stmt} {t : TS} (h : PS X st t) {D : Ends} {σ : L2.St} {H : Hp} (q : t D σ H) : SW X st D σ H := fun pins s I => h.run pins s σ H D I q
theorem bw_of {st : List Stmt} {t : TS} (h : PSs X st t) {D : Ends} {σ : L2.St} {H : Hp} (q : t D σ H) : BW X st D σ H := fun pins s I => h.run pins s σ H D I q
end

/-! ### what an expression gives -/
def ER (F : Fx) (ρ : Ty) (ω : Ow) (e : Expr) (R : Rl) (ω' : Ow) : Prop :=
  ∀ σ G H, At F ω G H → Slots ρ σ G → ∀ Q : VK, (∀ v G2 H2, Same G G2 → At F ω' G2 H2 → R.r v G2 → Q v H2) → EW F.X e σ H Q
def TR (F : Fx) (ρ : Ty) (ω : Ow) (e : Expr) (b : Bool) (ω' : Ow) : Prop :=
  ∀ σ G H, At F ω G H → Slots ρ σ G → ∀ Q : Bool → Hp → Prop, (∀ G2 H2, Same G G2 → At F ω' G2 H2 → Q b H2) → TW F.X e σ H Q
def AR (F : Fx) (ρ : Ty) (ω : Ow) (es : List Expr) (Rs : List Rl) (ω' : Ow) : Prop :=
  ∀ σ G H, At F ω G H → Slots ρ σ G → ∀ Q : List V → Hp → Prop, (∀ vs G2 H2, Same G G2 → At F ω' G2 H2 → All2 Rs vs G2 → Q vs H2) → AW F.X es σ H Q
/-- it raises -/
def EX (F : Fx) (ρ : Ty) (ω : Ow) (e : Expr) (P : Er) (ω' : Ow) : Prop :=
  ∀ σ G H, At F ω G H → Slots ρ σ G → (∀ cls d G2 H2, Same G G2 → At F ω' G2 H2 → P cls d G2 → F.W cls d σ H2) → EW F.X e σ H (fun _ _ => False)
end W1
set_option maxRecDepth 100000
set_option maxHeartbeats 2000000
namespace W1
open PySem PySem.Spec PyProof.Rows L2

/-! ### relations -/
def rEqV (x : V) : Rl := ⟨fun v _ => v = x, fun _ _ _ _ h => h⟩
abbrev rInt (i : Int) : Rl := rEqV (.int i)
abbrev rBool (b : Bool) : Rl := rEqV (.bl b)
abbrev rStr (x : Str) : Rl := rEqV (.str x)
abbrev rNon : Rl := rEqV .non
abbrev rRef (p : Addr) : Rl := rEqV (.ref p)
def rLst (Rs : List Rl) : Rl := ⟨fun v H => ∃ p vs, v = .ref p ∧ H p = some (.lst vs) ∧ All2 Rs vs H, fun _ _ _ e ⟨p, vs, a, b, c⟩ => ⟨p, vs, a, e _ _ b, c.up e⟩⟩
theorem sameT {K : PySem.W.Frag} {H H' : Hp} {a : Addr} {xs : List V} (e : Same H H') (h : SqT K H a xs) : SqT K H' a xs := by
  rcases h with (h | ⟨o, h⟩) | h
  · exact .inl (.inl (e _ _ h))
  · exact .inl (.inr ⟨o, e _ _ h⟩)
  · exact .inr h
def rTup (Rs : List Rl) : Rl := ⟨fun v H => ∃ p vs, v = .ref p ∧ H p = some (.tup vs) ∧ All2 Rs vs H, fun _ _ _ e ⟨p, vs, a, b, c⟩ => ⟨p, vs, a, e _ _ b, c.up e⟩⟩
/-- named things, in order -/
def NR {κ : Type} : List (κ × Rl) → List (κ × V) → Hp → Prop
  | [], [], _ => True
  | (k, R) :: Rs, (k', v) :: vs, H => k = k' ∧ R.r v H ∧ NR Rs vs H
  | _, _, _ => False
theorem NR.up {κ : Type} : ∀ {Rs : List (κ × Rl)} {vs : List (κ × V)} {H H' : Hp}, Same H H' → NR Rs vs H → NR Rs vs H'
  | [], [], _, _, _, _ => trivial
  | (_, R) :: _, (_, _) :: _, _, _, e, ⟨k, a, b⟩ => ⟨k, R.mo _ _ _ e a, NR.up e b⟩
  | [], _ :: _, _, _, _, h => h.elim
  | _ :: _, [], _, _, _, h => h.elim
theorem NR.look : ∀ {Rs : List (Str × Rl)} {vs : List (Str × V)} {H : Hp} {f : Str} {R : Rl}, NR Rs vs H → Rs.lookup f = some R → ∃ v, vs.lookup f = some v ∧ R.r v H
  | [], _, _, _, _, _, e => by cases e
  | (k, S) :: Rs, (k', v) :: vs, H, f, R, ⟨hk, a, b⟩, e => by
    subst hk
    by_cases h : f = k
    · subst h
      rw [List.lookup_cons_self] at e
      cases e
      exact ⟨v, List.lookup_cons_self, a⟩
    · have hb : (f == k) = false := by simpa using h
      rw [List.lookup_cons, hb] at e
      obtain ⟨w, x, y⟩ := NR.look b e
      exact ⟨w, by rw [List.lookup_cons, hb]; exact x, y⟩
  | _ :: _, [], _, _, _, h, _ => h.elim
theorem NR.lookN : ∀ {Rs : List (Str × Rl)} {vs : List (Str × V)} {H : Hp} {f : Str}, NR Rs vs H → Rs.lookup f = none → vs.lookup f = none
  | [], [], _, _, _, _ => rfl
  | (k, S) :: Rs, (k', v) :: vs, H, f, ⟨hk, a, b⟩, e => by
    subst hk
    by_cases h : f = k
    · subst h
      rw [List.lookup_cons_self] at e
      cases e
    · have hb : (f == k) = false := by simpa using h
      rw [List.lookup_cons, hb] at e ⊢
      exact NR.lookN b e
  | [], _ :: _, _, _, h, _ => h.elim
  | _ :: _, [], _, _, h, _ => h.elim
def rIns (C : Addr) (fs : List (Str × Rl)) : Rl := ⟨fun v H => ∃ p dx vs, v = .ref p ∧ H p = some (.ins C dx vs) ∧ NR fs vs H, fun _ _ _ e ⟨p, dx, vs, a, b, c⟩ => ⟨p, dx, vs, a, e _ _ b, c.up e⟩⟩

/-! ### operators -/
/-- a two-place operation -/
def Bop (F : Fx) (ω : Ow) (f : Value → Value → Sem Value) (A B R : Rl) : Prop :=
  ∃ r : R2, OpR F.X f r ∧ ∀ x y G H, At F ω G H → A.r x G → B.r y G → ∀ Q : VK, (∀ v G2 H2, Same G G2 → At F ω G2 H2 → R.r v G2 → Q v H2) → r x y H Q
def Uop (F : Fx) (ω : Ow) (f : Value → Sem Value) (A R : Rl) : Prop :=
  ∃ r : V → Hp → VK → Prop, UnR F.X f r ∧ ∀ x G H, At F ω G H → A.r x G → ∀ Q : VK, (∀ v G2 H2, Same G G2 → At F ω G2 H2 → R.r v G2 → Q v H2) → r x H Q
def Cop (F : Fx) (ω : Ow) (f : Value) (As : List Rl) (R : Rl) : Prop :=
  ∃ r : List V → Hp → VK → Prop, CallR F.X f r ∧ ∀ xs G H, At F ω G H → All2 As xs G → ∀ Q : VK, (∀ v G2 H2, Same G G2 → At F ω G2 H2 → R.r v G2 → Q v H2) → r xs H Q
def Iop (F : Fx) (ω : Ow) (A B R : Rl) : Prop :=
  ∃ r : R2, IxR F.X r ∧ ∀ x y G H, At F ω G H → A.r x G → B.r y G → ∀ Q : VK, (∀ v G2 H2, Same G G2 → At F ω G2 H2 → R.r v G2 → Q v H2) → r x y H Q
section
variable {F : Fx} {ρ : Ty} {ω w1 w2 w3 : Ow} {a b c e : Expr} {A B C R S : Rl} {pos p : Pos} {x : Str}
theorem er_eq (h : ER F ρ ω e R w1) (k : R = S) : ER F ρ ω e S w1 := k ▸ h
theorem er_var (i : Nat) (h : ρ[i]? = some (some R)) (hN : F.X.N[i]? = some x := by rfl) (hv : Vis F.X.env.scope x := by first | exact Or.inl rfl | exact Or.inr (Or.inl rfl) | exact Or.inr (Or.inr rfl))
    (hd : (x == ("__debug__" : Str)) = false := by decide) (hcd : (x == ("__classdict__" : Str)) = false := by decide) : ER F ρ ω (.Name x pos) R ω := fun σ G H at_ sl Q q => by
  obtain ⟨v, h1, h2⟩ := sl.at_ i R h
  exact ew_of (pe_var hN hv hd hcd) ⟨v, h1, q v G H (Same.refl _) at_ h2⟩
theorem er_int {i : Int} {j : Nat} : ER F ρ ω (.Constant (.int i) j pos) (rInt i) ω := fun σ G H at_ sl Q q => ew_of pe_int (q _ G H (Same.refl _) at_ rfl)
theorem er_str {i : Str} {j : Nat} : ER F ρ ω (.Constant (.str i) j pos) (rStr i) ω := fun σ G H at_ sl Q q => ew_of pe_str (q _ G H (Same.refl _) at_ rfl)
theorem er_glob {v : V} {u : Value} (hg : Gl F.X x) (hm : F.X.mg x = some u) (r : RelV v u) (hd : (x == ("__debug__" : Str)) = false := by decide) : ER F ρ ω (.Name x pos) (rEqV v) ω :=
  fun σ G H at_ sl Q q => ew_of (pe_glob hg hm r hd) (q _ G H (Same.refl _) at_ rfl)
theorem er_bin {op : Operator} (ha : ER F ρ ω a A w1) (hb : ER F ρ w1 b B w2) (h : Bop F w2 (binaryOp op) A B R) : ER F ρ ω (.BinOp a op b pos) R w2 := fun σ G H at_ sl Q q => by
  obtain ⟨r, ho, k⟩ := h
  refine ew_of (pe_op ho pe_w pe_w) (ha σ G H at_ sl _ fun x G1 H1 s1 at1 rx => hb σ G1 H1 at1 (sl.up s1) _ fun y G2 H2 s2 at2 ry => ?_)
  exact k x y G2 H2 at2 (A.mo _ _ _ s2 rx) ry Q fun v G3 H3 s3 at3 rv => q v G3 H3 ((s1.trans s2).trans s3) at3 rv
theorem er_un {op : UnaryOp} (ha : ER F ρ ω a A w1) (h : Uop F w1 (unaryOp op) A R) : ER F ρ ω (.UnaryOp op a pos) R w1 := fun σ G H at_ sl Q q => by
  obtain ⟨r, ho, k⟩ := h
  refine ew_of (pe_un ho pe_w) (ha σ G H at_ sl _ fun x G1 H1 s1 at1 rx => ?_)
  exact k x G1 H1 at1 rx Q fun v G3 H3 s3 at3 rv => q v G3 H3 (s1.trans s3) at3 rv
theorem er_cmp {op : CmpOp} (ha : ER F ρ ω a A w1) (hb : ER F ρ w1 b B w2) (h : Bop F w2 (compareOp op) A B R) (hm : behindInMarks op b = false := by first | exact nomark _ | rfl) : ER F ρ ω (.Compare a [op] [b] pos) R w2 := fun σ G H at_ sl Q q => by
  obtain ⟨r, ho, k⟩ := h
  refine ew_of (pe_cmpR ho pe_w pe_w hm) (ha σ G H at_ sl _ fun x G1 H1 s1 at1 rx => hb σ G1 H1 at1 (sl.up s1) _ fun y G2 H2 s2 at2 ry => ?_)
  exact k x y G2 H2 at2 (A.mo _ _ _ s2 rx) ry Q fun v G3 H3 s3 at3 rv => q v G3 H3 ((s1.trans s2).trans s3) at3 rv
theorem tr_cmp {op : CmpOp} {k : Bool} (ha : ER F ρ ω a A w1) (hb : ER F ρ w1 b B w2) (h : Bop F w2 (compareOp op) A B (rBool k)) (hm : behindInMarks op b = false := by first | exact nomark _ | rfl) : TR F ρ ω (.Compare a [op] [b] pos) k w2 := fun σ G H at_ sl Q q => by
  obtain ⟨r, ho, k'⟩ := h
  refine tw_of (pt_cmpR ho pe_w pe_w hm) (ha σ G H at_ sl _ fun x G1 H1 s1 at1 rx => hb σ G1 H1 at1 (sl.up s1) _ fun y G2 H2 s2 at2 ry => ?_)
  exact k' x y G2 H2 at2 (A.mo _ _ _ s2 rx) ry _ fun v G3 H3 s3 at3 rv => ⟨k, rv, q G3 H3 ((s1.trans s2).trans s3) at3⟩
theorem tr_val {k : Bool} (h : ER F ρ ω e (rBool k) w1) (he : ∀ whole, isTrue e F.X.env whole = (do let v ← whole; standAt e.pos; holding [v] (truthy v)) := by intro _; rfl) : TR F ρ ω e k w1 := fun σ G H at_ sl Q q =>
  tw_of (pt_val pe_w he) (h σ G H at_ sl _ fun v G2 H2 s a r => ⟨k, r, q G2 H2 s a⟩)
theorem tr_truth {k : Bool} (h : ER F ρ ω e R w1) (ht : ∀ v G H, At F w1 G H → R.r v G → TruV F.X.K v H k) (he : ∀ whole, isTrue e F.X.env whole = (do let v ← whole; standAt e.pos; holding [v] (truthy v)) := by intro _; rfl) : TR F ρ ω e k w1 := fun σ G H at_ sl Q q =>
  tw_of (pt_truth pe_w he) (h σ G H at_ sl _ fun v G2 H2 s a r => ⟨k, ht v G2 H2 a r, q G2 H2 s a⟩)
theorem tr_not {k : Bool} (h : TR F ρ ω e k w1) : TR F ρ ω (.UnaryOp .Not e pos) (!k) w1 := fun σ G H at_ sl Q q => tw_of (pt_not pt_w) (h σ G H at_ sl _ fun G2 H2 s a => q G2 H2 s a)
theorem tr_to {k k' : Bool} (h : TR F ρ ω e k w1) (z : k = k') : TR F ρ ω e k' w1 := z ▸ h
/-- what comes of the words and, or, if: behind the first operand nothing owned changes -/
def PWR (F : Fx) (ρ : Ty) (ω : Ow) (e : Expr) (k : Bool) (w1 : Ow) : Prop := ∃ t, PW F.X e t ∧ ∀ σ G H, At F ω G H → Slots ρ σ G → ∀ Q : Bool → Hp → Prop, (∀ G2 H2, Same G G2 → At F w1 G2 H2 → Q k H2) → t σ H Q
theorem PWR.tr {k : Bool} (h : PWR F ρ ω e k w1) : TR F ρ ω e k w1 := fun σ G H at_ sl Q q => by
  obtain ⟨t, hp, hk⟩ := h
  exact tw_of hp.pt (hk σ G H at_ sl Q q)
theorem tr_and1 {k : Bool} (h : TR F ρ ω e k w1) : PWR F ρ ω (.BoolOp .And [e] pos) k w1 := ⟨_, pw_and1 pt_w, h⟩
theorem tr_or1 {k : Bool} (h : TR F ρ ω e k w1) : PWR F ρ ω (.BoolOp .Or [e] pos) k w1 := ⟨_, pw_or1 pt_w, h⟩
theorem tr_and {k m : Bool} {rest : List Expr} (h : TR F ρ ω a k w1) (g : k = true → PWR F ρ w1 (.BoolOp .And (b :: rest) pos) m w1) : PWR F ρ ω (.BoolOp .And (a :: b :: rest) pos) (k && m) w1 := by
  cases k with
  | true =>
    obtain ⟨t, hp, hk⟩ := g rfl
    exact ⟨_, pw_and pt_w hp, fun σ G H at_ sl Q q => h σ G H at_ sl _ fun G2 H2 s a => iteT (hk σ G2 H2 a (sl.up s) Q fun G3 H3 s3 a3 => q G3 H3 (s.trans s3) a3)⟩
  | false => exact ⟨_, pw_and (tB' := fun _ _ _ => False) pt_w ⟨fun _ _ _ _ _ _ _ h => h.elim⟩, fun σ G H at_ sl Q q => h σ G H at_ sl _ fun G2 H2 s a => iteF (q G2 H2 s a)⟩
theorem tr_or {k m : Bool} {rest : List Expr} (h : TR F ρ ω a k w1) (g : k = false → PWR F ρ w1 (.BoolOp .Or (b :: rest) pos) m w1) : PWR F ρ ω (.BoolOp .Or (a :: b :: rest) pos) (k || m) w1 := by
  cases k with
  | false =>
    obtain ⟨t, hp, hk⟩ := g rfl
    exact ⟨_, pw_or pt_w hp, fun σ G H at_ sl Q q => h σ G H at_ sl _ fun G2 H2 s a => iteF (hk σ G2 H2 a (sl.up s) Q fun G3 H3 s3 a3 => q G3 H3 (s.trans s3) a3)⟩
  | true => exact ⟨_, pw_or (tB' := fun _ _ _ => False) pt_w ⟨fun _ _ _ _ _ _ _ h => h.elim⟩, fun σ G H at_ sl Q q => h σ G H at_ sl _ fun G2 H2 s a => iteT (q G2 H2 s a)⟩
theorem er_one {op} (h : ER F ρ ω e R w1) : ER F ρ ω (.BoolOp op [e] pos) R w1 := fun σ G H at_ sl Q q => ew_of (pe_one pe_w) (h σ G H at_ sl Q q)
theorem er_and {k m : Bool} {rest : List Expr} (h : ER F ρ ω a (rBool k) w1) (g : k = true → ER F ρ w1 (.BoolOp .And (b :: rest) pos) (rBool m) w1) : ER F ρ ω (.BoolOp .And (a :: b :: rest) pos) (rBool (k && m)) w1 := fun σ G H at_ sl Q q => by
  refine ew_of (pe_and pe_w pe_w) (h σ G H at_ sl _ fun v G2 H2 s a r => ⟨k, r, ?_⟩)
  cases k with
  | true => exact iteT (g rfl σ G2 H2 a (sl.up s) Q fun v G3 H3 s3 a3 r3 => q v G3 H3 (s.trans s3) a3 r3)
  | false => exact iteF (q _ G2 H2 s a rfl)
theorem er_ifx {k : Bool} (h : TR F ρ ω c k w1) (h1 : k = true → ER F ρ w1 a R w2) (h2 : k = false → ER F ρ w1 b R w2) : ER F ρ ω (.IfExp c a b pos) R w2 := fun σ G H at_ sl Q q => by
  refine ew_of (pe_ifExp pt_w pe_w pe_w) (h σ G H at_ sl _ fun G2 H2 s a => ?_)
  cases k with
  | true => exact iteT (h1 rfl σ G2 H2 a (sl.up s) Q fun v G3 H3 s3 a3 r3 => q v G3 H3 (s.trans s3) a3 r3)
  | false => exact iteF (h2 rfl σ G2 H2 a (sl.up s) Q fun v G3 H3 s3 a3 r3 => q v G3 H3 (s.trans s3) a3 r3)
theorem er_fld {C : Addr} {fs : List (Str × Rl)} {f : Str} (h : ER F ρ ω e (rIns C fs) w1) (hc : Cls F.X.K C) (hn : NoAttr F.X.K C f) (hl : fs.lookup f = some R) (hb : attributeBase e f F.X.env (eval e F.X.env) = eval e F.X.env := by rfl) :
    ER F ρ ω (.Attribute e f pos) R w1 := fun σ G H at_ sl Q q => by
  refine ew_of (pe_fld pe_w hb) (h σ G H at_ sl _ fun v G2 H2 s a r => ?_)
  obtain ⟨p, dx, vs, rfl, h1, h2⟩ := r
  obtain ⟨w, h3, h4⟩ := h2.look hl
  exact ⟨p, C, dx, vs, w, rfl, a.gh _ _ h1, hc, hn, h3, q w G2 H2 s a h4⟩
theorem ar_nil : AR F ρ ω [] [] ω := fun σ G H at_ sl Q q => aw_of pa_nil (q [] G H (Same.refl _) at_ trivial)
theorem ar_cons {es : List Expr} {Rs : List Rl} (h : ER F ρ ω e R w1) (hr : AR F ρ w1 es Rs w2) (hs : starEach (e :: es) F.X.env = (false, eval e F.X.env) :: starEach es F.X.env := by rfl) : AR F ρ ω (e :: es) (R :: Rs) w2 := fun σ G H at_ sl Q q => by
  refine aw_of (pa_cons pe_w pa_w hs) (h σ G H at_ sl _ fun v G2 H2 s a r => hr σ G2 H2 a (sl.up s) _ fun vs G3 H3 s3 a3 r3 => q _ G3 H3 (s.trans s3) a3 ⟨R.mo _ _ _ s3 r, r3⟩)
theorem er_lst {es : List Expr} {Rs : List Rl} (h : AR F ρ ω es Rs w1) (hz : Rs.length ≤ 1000) : ER F ρ ω (.List es pos) (rLst Rs) w1 := fun σ G H at_ sl Q q => by
  refine ew_of (pe_lst pa_w) (h σ G H at_ sl _ fun vs G2 H2 s a r => ⟨Nat.le_of_lt (small1000 (by rw [← r.len]; exact hz)), fun p hp => ?_⟩)
  have st := Step.new (o := .lst vs) a.gh hp
  exact q _ _ _ (s.trans st.gg) (a.step st) ⟨p, vs, rfl, upd_same, r.up st.gg⟩
theorem er_tup {es : List Expr} {Rs : List Rl} {j : Nat} (h : AR F ρ ω es Rs w1) (hz : Rs.length ≤ 1000) : ER F ρ ω (.Tuple es j pos) (rTup Rs) w1 := fun σ G H at_ sl Q q => by
  refine ew_of (pe_tup pa_w) (h σ G H at_ sl _ fun vs G2 H2 s a r => ⟨Nat.le_of_lt (small1000 (by rw [← r.len]; exact hz)), fun p hp => ?_⟩)
  have st := Step.new (o := .tup vs) a.gh hp
  exact q _ _ _ (s.trans st.gg) (a.step st) ⟨p, vs, rfl, upd_same, r.up st.gg⟩
theorem er_ix (ha : ER F ρ ω a A w1) (hb : ER F ρ w1 b B w2) (h : Iop F w2 A B R) (hs : PlainIx b := by exact fun _ _ => rfl) : ER F ρ ω (.Subscript a b pos) R w2 := fun σ G H at_ sl Q q => by
  obtain ⟨r, ho, k⟩ := h
  refine ew_of (pe_ix ho pe_w pe_w hs) (ha σ G H at_ sl _ fun x G1 H1 s1 at1 rx => hb σ G1 H1 at1 (sl.up s1) _ fun y G2 H2 s2 at2 ry => ?_)
  exact k x y G2 H2 at2 (A.mo _ _ _ s2 rx) ry Q fun v G3 H3 s3 at3 rv => q v G3 H3 ((s1.trans s2).trans s3) at3 rv
theorem er_callB {id : String} {As : List Rl} {es : List Expr} (hc : Cop F w1 (.builtin id) As R) (hg : Gl F.X x) (hm : F.X.mg x = none) (hv : bootBuiltins x = some (.builtin id)) (ha : AR F ρ ω (e :: es) As w1) (hn : x ≠ "__name__" := by decide) (hdb : (x == ("__debug__" : Str)) = false := by decide)
    (he : starEach (e :: es) F.X.env = (false, eval e F.X.env) :: starEach es F.X.env := by rfl) (hpl : (backTo pos (starEach es F.X.env)).any (·.1) = false := by rfl) : ER F ρ ω (.Call (.Name x p) (e :: es) [] pos) R w1 := fun σ G H at_ sl Q q => by
  obtain ⟨r, ho, k⟩ := hc
  refine ew_of (pe_callB ho hg hm hv pa_w hn hdb he hpl) (ha σ G H at_ sl _ fun vs G2 H2 s a r => ?_)
  exact k vs G2 H2 a r Q fun v G3 H3 s3 a3 r3 => q v G3 H3 (s.trans s3) a3 r3
theorem er_callTy {id : String} {As : List Rl} {es : List Expr} (hc : Cop F w1 (.type id) As R) (hg : Gl F.X x) (hm : F.X.mg x = none) (hv : bootBuiltins x = some (.type id)) (ha : AR F ρ ω (e :: es) As w1) (hn : x ≠ "__name__" := by decide) (hdb : (x == ("__debug__" : Str)) = false := by decide)
    (he : starEach (e :: es) F.X.env = (false, eval e F.X.env) :: starEach es F.X.env := by rfl) (hpl : (backTo pos (starEach es F.X.env)).any (·.1) = false := by rfl) : ER F ρ ω (.Call (.Name x p) (e :: es) [] pos) R w1 := fun σ G H at_ sl Q q => by
  obtain ⟨r, ho, k⟩ := hc
  refine ew_of (pe_callTy ho hg hm hv pa_w hn hdb he hpl) (ha σ G H at_ sl _ fun vs G2 H2 s a r => ?_)
  exact k vs G2 H2 a r Q fun v G3 H3 s3 a3 r3 => q v G3 H3 (s.trans s3) a3 r3
end
end W1
set_option maxRecDepth 100000
set_option maxHeartbeats 2000000
namespace W1
open PySem PySem.Spec PyProof.Rows L2

section
variable {F : Fx} {ω : Ow} {A B R : Rl}
theorem bop_of {f : Value → Value → Sem Value} {r : R2} {x y z : V} (ho : OpR F.X f r) (h : ∀ (H : Hp) (Q : VK), Q z H → r x y H Q) : Bop F ω f (rEqV x) (rEqV y) (rEqV z) :=
  ⟨r, ho, fun x' y' G H at_ hx hy Q q => by
    have e1 : x' = x := hx
    have e2 : y' = y := hy
    subst e1 e2
    exact h H Q (q z G H (Same.refl _) at_ rfl)⟩
theorem uop_of {f : Value → Sem Value} {r : V → Hp → VK → Prop} {x z : V} (ho : UnR F.X f r) (h : ∀ (H : Hp) (Q : VK), Q z H → r x H Q) : Uop F ω f (rEqV x) (rEqV z) :=
  ⟨r, ho, fun x' G H at_ hx Q q => by
    have e1 : x' = x := hx
    subst e1
    exact h H Q (q z G H (Same.refl _) at_ rfl)⟩
theorem cop_of1 {f : Value} {r : List V → Hp → VK → Prop} {x z : V} (ho : CallR F.X f r) (h : ∀ (H : Hp) (Q : VK), Q z H → r [x] H Q) : Cop F ω f [rEqV x] (rEqV z) :=
  ⟨r, ho, fun xs G H at_ hx Q q => by
    match xs, hx with
    | [x'], ⟨e, _⟩ =>
      have e1 : x' = x := e
      subst e1
      exact h H Q (q z G H (Same.refl _) at_ rfl)⟩
theorem cop_of2 {f : Value} {r : List V → Hp → VK → Prop} {x y z : V} (ho : CallR F.X f r) (h : ∀ (H : Hp) (Q : VK), Q z H → r [x, y] H Q) : Cop F ω f [rEqV x, rEqV y] (rEqV z) :=
  ⟨r, ho, fun xs G H at_ hx Q q => by
    match xs, hx with
    | [x', y'], ⟨e, e', _⟩ =>
      have e1 : x' = x := e
      have e2 : y' = y := e'
      subst e1 e2
      exact h H Q (q z G H (Same.refl _) at_ rfl)⟩
/-! ints -/
theorem op_mulZ {X : Cx} : OpR X (binaryOp .Mult) (rI IntMulOk fun i j => .int (i * j)) := opI fun _ _ _ _ _ _ _ hc q => mul_int q hc
def CDivZ (_ j : Int) : Prop := j ≠ 0 ∧ j.natAbs.log2 < 9000
theorem op_fdivZ {X : Cx} : OpR X (binaryOp .FloorDiv) (rI CDivZ fun i j => .int (i.fdiv j)) := opI fun _ _ _ _ _ _ _ hc q => floordiv_int hc.1 q (.inl (PyProof.noPylong_of_log2 hc.2))
theorem bop_add {i j : Int} : Bop F ω (binaryOp .Add) (rInt i) (rInt j) (rInt (i + j)) := bop_of op_add fun _ _ q => ⟨i, j, rfl, rfl, q⟩
theorem bop_sub {i j : Int} : Bop F ω (binaryOp .Sub) (rInt i) (rInt j) (rInt (i - j)) := bop_of op_sub fun _ _ q => ⟨i, j, rfl, rfl, q⟩
theorem bop_mul {i j : Int} (h : IntMulOk i j) : Bop F ω (binaryOp .Mult) (rInt i) (rInt j) (rInt (i * j)) := bop_of op_mulZ fun _ _ q => ⟨i, j, rfl, rfl, h, q⟩
theorem bop_fdiv {i j : Int} (h : CDivZ i j) : Bop F ω (binaryOp .FloorDiv) (rInt i) (rInt j) (rInt (i.fdiv j)) := bop_of op_fdivZ fun _ _ q => ⟨i, j, rfl, rfl, h, q⟩
theorem bop_mod {i j : Int} (h : j ≠ 0) : Bop F ω (binaryOp .Mod) (rInt i) (rInt j) (rInt (i.fmod j)) := bop_of op_modN fun _ _ q => ⟨i, j, rfl, rfl, h, q⟩
theorem bop_pow {i j : Int} (h : CPow i j) : Bop F ω (binaryOp .Pow) (rInt i) (rInt j) (rInt (i ^ j.toNat)) := bop_of op_pow fun _ _ q => ⟨i, j, rfl, rfl, h, q⟩
theorem bop_lt {i j : Int} : Bop F ω (compareOp .Lt) (rInt i) (rInt j) (rBool (decide (i < j))) := bop_of op_lt fun _ _ q => ⟨i, j, rfl, rfl, q⟩
theorem bop_le {i j : Int} : Bop F ω (compareOp .LtE) (rInt i) (rInt j) (rBool (decide (i ≤ j))) := bop_of op_le fun _ _ q => ⟨i, j, rfl, rfl, q⟩
theorem bop_ge {i j : Int} : Bop F ω (compareOp .GtE) (rInt i) (rInt j) (rBool (decide (j ≤ i))) := bop_of op_ge fun _ _ q => ⟨i, j, rfl, rfl, q⟩
theorem bop_eq {x y : V} (h : scal x y = true) : Bop F ω (compareOp .Eq) (rEqV x) (rEqV y) (rBool (decide (x = y))) := bop_of op_eq fun _ _ q => ⟨h, q⟩
theorem bop_ne {x y : V} (h : scal x y = true) : Bop F ω (compareOp .NotEq) (rEqV x) (rEqV y) (rBool (!decide (x = y))) := bop_of op_ne fun _ _ q => ⟨h, q⟩
theorem dec_i {i j : Int} : decide (V.int i = V.int j) = decide (i = j) := by
  by_cases h : i = j
  · subst h; simp
  · rw [decide_eq_false h, decide_eq_false (fun e => h (V.int.inj e))]
theorem bop_eqI {i j : Int} : Bop F ω (compareOp .Eq) (rInt i) (rInt j) (rBool (decide (i = j))) := by rw [← dec_i]; exact bop_eq rfl
theorem bop_neI {i j : Int} : Bop F ω (compareOp .NotEq) (rInt i) (rInt j) (rBool (!decide (i = j))) := by rw [← dec_i]; exact bop_ne rfl
theorem uop_neg {i : Int} : Uop F ω (unaryOp .USub) (rInt i) (rInt (-i)) := uop_of un_neg fun _ _ q => ⟨i, rfl, q⟩
theorem cop_abs {i : Int} : Cop F ω (.builtin "abs") [rInt i] (rInt (if i < 0 then -i else i)) := cop_of1 call_abs fun _ _ q => ⟨i, rfl, q⟩
theorem cop_int {i : Int} : Cop F ω (.type "int") [rInt i] (rInt i) := cop_of1 call_int1 fun _ _ q => .inl ⟨i, rfl, q⟩
theorem cop_bool {i : Int} : Cop F ω (.type "bool") [rInt i] (rBool (i != 0)) := cop_of1 call_bool1 fun _ _ q => .inl ⟨i, rfl, q⟩
/-! lists -/
theorem all1 {R : Rl} {vs : List V} {H : Hp} (h : All2 [R] vs H) : ∃ v, vs = [v] ∧ R.r v H := by
  match vs, h with
  | [v], ⟨a, _⟩ => exact ⟨v, rfl, a⟩
theorem all2 {R S : Rl} {vs : List V} {H : Hp} (h : All2 [R, S] vs H) : ∃ v w, vs = [v, w] ∧ R.r v H ∧ S.r w H := by
  match vs, h with
  | [v, w], ⟨a, b, _⟩ => exact ⟨v, w, rfl, a, b⟩
theorem cop_lenL {Rs : List Rl} : Cop F ω (.builtin "len") [rLst Rs] (rInt (Rs.length : Int)) := by
  refine ⟨_, call_len_seq, fun xs G H at_ hx Q q => ?_⟩
  obtain ⟨x, rfl, p, vs, rfl, h1, h2⟩ := all1 hx
  have e2 : (vs.length : Int) = (Rs.length : Int) := by rw [h2.len]
  refine ⟨p, vs, rfl, .inl (SqL.of (at_.gh _ _ h1)), ?_⟩
  exact q _ G H (Same.refl _) at_ (congrArg V.int e2)
theorem cop_lenT {Rs : List Rl} : Cop F ω (.builtin "len") [rTup Rs] (rInt (Rs.length : Int)) := by
  refine ⟨_, call_len_seq, fun xs G H at_ hx Q q => ?_⟩
  obtain ⟨x, rfl, p, vs, rfl, h1, h2⟩ := all1 hx
  have e2 : (vs.length : Int) = (Rs.length : Int) := by rw [h2.len]
  refine ⟨p, vs, rfl, .inr (SqT.of (at_.gh _ _ h1)), ?_⟩
  exact q _ G H (Same.refl _) at_ (congrArg V.int e2)
theorem iop_L {Rs : List Rl} {i : Int} {n : Nat} (e : ixN Rs.length i = some n) (h : Rs[n]? = some R) : Iop F ω (rLst Rs) (rInt i) R :=
  ⟨_, ix_list, fun x y G H at_ hx hy Q q => by
    obtain ⟨p, vs, rfl, h1, h2⟩ := hx
    obtain ⟨v, h3, h4⟩ := h2.get h
    have e2 : y = V.int i := hy
    refine ⟨p, vs, i, v, rfl, e2, SqL.of (at_.gh _ _ h1), ?_, q v G H (Same.refl _) at_ h4⟩
    unfold atI
    rw [← h2.len, e]
    exact h3⟩
theorem iop_T {Rs : List Rl} {i : Int} {n : Nat} (e : ixN Rs.length i = some n) (h : Rs[n]? = some R) : Iop F ω (rTup Rs) (rInt i) R :=
  ⟨_, ix_tup, fun x y G H at_ hx hy Q q => by
    obtain ⟨p, vs, rfl, h1, h2⟩ := hx
    obtain ⟨v, h3, h4⟩ := h2.get h
    have e2 : y = V.int i := hy
    refine ⟨p, vs, i, v, rfl, e2, SqT.of (at_.gh _ _ h1), ?_, q v G H (Same.refl _) at_ h4⟩
    unfold atI
    rw [← h2.len, e]
    exact h3⟩
end

end W1
set_option maxRecDepth 100000
set_option maxHeartbeats 2000000
namespace W1
open PySem PySem.Spec PyProof.Rows L2

/-! ### what may come behind -/
structure Kn where
  nx : Ty → Ow → Prop := fun _ _ => False
  rt : Rl → Ow → Prop := fun _ _ => False
  bk : Ty → Ow → Prop := fun _ _ => False
  ct : Ty → Ow → Prop := fun _ _ => False
  ex : Ty → Ow → Er → Prop := fun _ _ _ => False
structure Post (F : Fx) (K : Kn) (D : Ends) (G : Hp) : Prop where
  nx : ∀ ρ ω, K.nx ρ ω → ∀ σ G' H', Same G G' → At F ω G' H' → Slots ρ σ G' → D.nx σ H'
  rt : ∀ R ω, K.rt R ω → ∀ v G' H', Same G G' → At F ω G' H' → R.r v G' → D.rt v H'
  bk : ∀ ρ ω, K.bk ρ ω → ∀ σ G' H', Same G G' → At F ω G' H' → Slots ρ σ G' → D.bk σ H'
  ct : ∀ ρ ω, K.ct ρ ω → ∀ σ G' H', Same G G' → At F ω G' H' → Slots ρ σ G' → D.ct σ H'
  ex : ∀ ρ ω P, K.ex ρ ω P → ∀ cls d σ G' H', Same G G' → At F ω G' H' → Slots ρ σ G' → P cls d G' → F.W cls d σ H'
theorem Post.up {F : Fx} {K : Kn} {D : Ends} {G G1 : Hp} (p : Post F K D G) (e : Same G G1) : Post F K D G1 where
  nx := fun ρ ω k σ G' H' s => p.nx ρ ω k σ G' H' (e.trans s)
  rt := fun R ω k v G' H' s => p.rt R ω k v G' H' (e.trans s)
  bk := fun ρ ω k σ G' H' s => p.bk ρ ω k σ G' H' (e.trans s)
  ct := fun ρ ω k σ G' H' s => p.ct ρ ω k σ G' H' (e.trans s)
  ex := fun ρ ω P k cls d σ G' H' s => p.ex ρ ω P k cls d σ G' H' (e.trans s)
def HB (F : Fx) (ρ : Ty) (ω : Ow) (sts : List Stmt) (K : Kn) : Prop :=
  ∀ σ G H D, At F ω G H → Slots ρ σ G → Post F K D G → BW F.X sts D σ H
section
variable {F : Fx} {ρ : Ty} {ω w1 w2 : Ow} {K : Kn} {rest : List Stmt} {st : Stmt} {e c : Expr} {R : Rl} {pos p : Pos} {x : Str}
theorem hb_nil (h : K.nx ρ ω) : HB F ρ ω [] K := fun σ G H D at_ sl ps => bw_of pss_nil (ps.nx ρ ω h σ G H (Same.refl _) at_ sl)
/-- one statement, then the rest -/
theorem hb_cons (h : ∀ σ G H D, At F ω G H → Slots ρ σ G → Post F K D G → SW F.X st { D with nx := BW F.X rest D } σ H) : HB F ρ ω (st :: rest) K := fun σ G H D at_ sl ps =>
  bw_of (pss_cons ps_w pss_w) (h σ G H D at_ sl ps)
theorem hb_set (i : Nat) (he : ER F ρ ω e R w1) (h : HB F (ρ.set i (some R)) w1 rest K) (hN : F.X.N.Nodup) (hi : F.X.N[i]? = some x := by rfl) (hx : Loc F.X.env.scope x := by first | exact Or.inl rfl | exact Or.inr rfl)
    (hs : swapsWith e (some (.Name x p)) pos.line F.X.env = pure false := by rfl) (hf : F.X.fn x = true ∨ F.X.env.scope.names.lookup x = some .local := by first | exact .inl rfl | exact .inr rfl | assumption) :
    HB F ρ ω (.Assign [.Name x p] e pos :: rest) K := hb_cons fun σ G H D at_ sl ps =>
  sw_of (ps_set hN hi hx pe_w hs hf) (he σ G H at_ sl _ fun v G2 H2 s a r => h _ G2 H2 D a ((sl.up s).set i r) (ps.up s))
theorem hb_ret (he : ER F ρ ω e R w1) (h : K.rt R w1) : HB F ρ ω (.Return (some e) pos :: rest) K := hb_cons fun σ G H D at_ sl ps =>
  sw_of (ps_ret pe_w) (he σ G H at_ sl _ fun v G2 H2 s a r => ps.rt R w1 h v G2 H2 s a r)
theorem pe_x {X : Cx} {e : Expr} {t : TE} : PE X e (fun σ H _ => EW X e σ H fun _ _ => False) := ⟨fun pins s σ H Q I z => thn (z pins s I) fun _ _ ⟨_, _, _, _, q⟩ => q.elim⟩
theorem hb_retX {P : Er} (he : EX F ρ ω e P w1) (h : K.ex ρ w1 P) : HB F ρ ω (.Return (some e) pos :: rest) K := hb_cons fun σ G H D at_ sl ps =>
  sw_of (ps_ret (pe_x (t := fun _ _ _ => True))) (he σ G H at_ sl fun cls d G2 H2 s a r => ps.ex ρ w1 P h cls d σ G2 H2 s a (sl.up s) r)
theorem hb_expr (he : ER F ρ ω e R w1) (h : HB F ρ w1 rest K) (hs : swapsWith e none pos.line F.X.env = pure false := by rfl) : HB F ρ ω (.Expr e pos :: rest) K := hb_cons fun σ G H D at_ sl ps =>
  sw_of (ps_expr pe_w hs) (he σ G H at_ sl _ fun v G2 H2 s a r => h _ G2 H2 D a (sl.up s) (ps.up s))
/-- behind: the rest -/
def Kn.then (K : Kn) (F : Fx) (rest : List Stmt) : Kn := { K with nx := fun ρ ω => HB F ρ ω rest K }
theorem Post.then {D : Ends} {G : Hp} (ps : Post F K D G) : Post F (K.then F rest) { D with nx := BW F.X rest D } G :=
  ⟨fun ρ ω k σ G' H' s a sl => k σ G' H' D a sl (ps.up s), ps.rt, ps.bk, ps.ct, ps.ex⟩
theorem hb_if {b : Bool} {th el : List Stmt} (hc : TR F ρ ω c b w1) (h1 : b = true → HB F ρ w1 th (K.then F rest)) (h2 : b = false → HB F ρ w1 el (K.then F rest)) : HB F ρ ω (.If c th el pos :: rest) K := hb_cons fun σ G H D at_ sl ps =>
  sw_of (ps_if pt_w pss_w pss_w) (hc σ G H at_ sl _ fun G2 H2 s a => by
    cases b with
    | true => exact iteT (h1 rfl σ G2 H2 _ a (sl.up s) (ps.up s).then)
    | false => exact iteF (h2 rfl σ G2 H2 _ a (sl.up s) (ps.up s).then))
/-- loops -/
def Kn.loop (K : Kn) (F : Fx) (rest : List Stmt) (N : Ty → Ow → Prop) : Kn := { nx := N, ct := N, bk := fun ρ ω => HB F ρ ω rest K, rt := K.rt, ex := K.ex }
theorem hb_while {body : List Stmt} (I : Nat → Ty → Ow → Prop) (m0 : Nat) (h0 : I m0 ρ ω)
    (hs : ∀ m ρ ω, I m ρ ω → ∃ b w1, TR F ρ ω c b w1 ∧ (b = true → HB F ρ w1 body (K.loop F rest fun ρ' ω' => ∃ m', m' < m ∧ I m' ρ' ω')) ∧ (b = false → HB F ρ w1 rest K))
    (hp : PassesOwn (model F.X.prog F.X.w) F.X.A F.X.env F.X.xe) : HB F ρ ω (.While c body [] pos :: rest) K := hb_cons fun σ G H D at_ sl ps => by
  refine sw_of (ps_while hp pt_w pss_w) ⟨fun m σ H => ∃ ρ ω G, I m ρ ω ∧ At F ω G H ∧ Slots ρ σ G ∧ Post F K D G, ⟨m0, ρ, ω, G, h0, at_, sl, ps⟩, ?_⟩
  rintro m σ1 H1 ⟨ρ1, ω1, G1, i1, a1, sl1, ps1⟩
  obtain ⟨b, w1, hc, ht, hf⟩ := hs m ρ1 ω1 i1
  refine hc σ1 G1 H1 a1 sl1 _ fun G2 H2 s2 a2 => ?_
  cases b with
  | true =>
    refine iteT ⟨fun σ' H' => ∃ m', m' < m ∧ ∃ ρ ω G, I m' ρ ω ∧ At F ω G H' ∧ Slots ρ σ' G ∧ Post F K D G, fun σ' H' z => z, ?_⟩
    refine ht rfl σ1 G2 H2 _ a2 (sl1.up s2) ⟨fun ρ ω ⟨m', l, i'⟩ σ' G' H' s a sl => ⟨m', l, ρ, ω, G', i', a, sl, (ps1.up s2).up s⟩, (ps1.up s2).rt, fun ρ ω k σ' G' H' s a sl => k σ' G' H' D a sl ((ps1.up s2).up s), fun ρ ω ⟨m', l, i'⟩ σ' G' H' s a sl => ⟨m', l, ρ, ω, G', i', a, sl, (ps1.up s2).up s⟩, (ps1.up s2).ex⟩
  | false => exact iteF (hf rfl σ1 G2 H2 D a2 (sl1.up s2) (ps1.up s2))
end

/-! ### what a loop walks -/
structure Yld (J : It) (Rs : List Rl) (G : Hp) : Prop where
  go : ∀ i G' H', Same G G' → Same G' H' → i < Rs.length → J.go i H'
  stop : ∀ G' H', Same G G' → Same G' H' → J.stop Rs.length H'
  yld : ∀ (i : Nat) (R : Rl) G' H' x H'', Same G G' → Same G' H' → Rs[i]? = some R → J.yld i H' x H'' → ∃ G'', Step G' H' G'' H'' ∧ R.r x G''
theorem Yld.up {J : It} {Rs : List Rl} {G G1 : Hp} (y : Yld J Rs G) (e : Same G G1) : Yld J Rs G1 :=
  ⟨fun i G' H' s => y.go i G' H' (e.trans s), fun G' H' s => y.stop G' H' (e.trans s), fun i R G' H' x H'' s => y.yld i R G' H' x H'' (e.trans s)⟩
def IT (F : Fx) (ρ : Ty) (ω : Ow) (tg it : Expr) (Rs : List Rl) (w1 : Ow) : Prop :=
  ∃ wi, PI F.X tg it wi ∧ ∀ σ G H, At F ω G H → Slots ρ σ G → ∀ R : It → Hp → Prop, (∀ J G2 H2, Same G G2 → At F w1 G2 H2 → Yld J Rs G2 → R J H2) → wi σ H R
/-- what a target does to the slots -/
def GE (g : TG) (ρ : Ty) (S : Rl) (ρ' : Ty) : Prop :=
  ∀ v σ G H (Q : L2.St → Hp → Prop), Same G H → Slots ρ σ G → S.r v G → (∀ σ', Slots ρ' σ' G → Q σ' H) → g v σ H Q
def GEs (g : TGs) (ρ : Ty) (Rs : List Rl) (ρ' : Ty) : Prop :=
  ∀ vs σ G H (Q : L2.St → Hp → Prop), Same G H → Slots ρ σ G → All2 Rs vs G → (∀ σ', Slots ρ' σ' G → Q σ' H) → g vs σ H Q
section
variable {F : Fx} {X : Cx} {ρ ρ1 ρ2 : Ty} {ω w1 w2 : Ow} {K : Kn} {rest : List Stmt} {e e2 it tg : Expr} {R S : Rl} {pos p : Pos} {x : Str} {Rs Ss : List Rl}
theorem ge_name {i : Nat} : GE (gName i) ρ S (ρ.set i (some S)) := fun v σ G H Q s sl r q => q _ (sl.set i r)
theorem ges_nil : GEs gNil ρ [] ρ := fun vs σ G H Q s sl r q => by
  match vs, r with
  | [], _ => exact ⟨rfl, q _ sl⟩
theorem ges_cons {g : TG} {gs : TGs} (h1 : GE g ρ R ρ1) (h2 : GEs gs ρ1 Rs ρ2) : GEs (gCons g gs) ρ (R :: Rs) ρ2 := fun vs σ G H Q s sl r q => by
  match vs, r with
  | v :: vs, ⟨r1, r2⟩ => exact ⟨v, vs, rfl, h1 v σ G H _ s sl r1 fun σ' sl' => h2 vs σ' G H Q s sl' r2 q⟩
theorem ge_tup {K : PySem.W.Frag} {n : Nat} {gs : TGs} (h : GEs gs ρ Rs ρ1) (hl : Rs.length = n) : GE (gTup K n gs) ρ (rTup Rs) ρ1 := fun v σ G H Q s sl r q => by
  obtain ⟨a, vs, rfl, h1, h2⟩ := r
  exact ⟨a, vs, rfl, SqT.of (s _ _ h1), by rw [← h2.len]; exact hl, h vs σ G H Q s sl h2 q⟩
theorem hb_asg {g : TG} (he : ER F ρ ω e R w1) (pg : PG F.X tg g) (hg : GE g ρ R ρ1) (h : HB F ρ1 w1 rest K) (hs : swapsWithSole [tg] e pos.line F.X.env = pure false := by rfl) (hw : swappedStores [tg] e F.X.env = pure none := by rfl)
    (h1 : (assignEach [tg] F.X.env).map (·.2) = [assign tg F.X.env] := by rfl) : HB F ρ ω (.Assign [tg] e pos :: rest) K := hb_cons fun σ G H D at_ sl ps =>
  sw_of (ps_asg pe_w pg hs hw h1) (he σ G H at_ sl _ fun v G2 H2 s a r => hg v σ G2 H2 _ a.gh (sl.up s) r fun σ' sl' => h σ' G2 H2 D a sl' (ps.up s))
/-- a, b = e1, e2 -/
theorem hb_par {x y : Str} {a b : Expr} {px py pt : Pos} {kt k2 pt2} (i j : Nat) (ha : AR F ρ ω [a, b] [R, S] w1) (h : HB F ((ρ.set i (some R)).set j (some S)) w1 rest K) (hN : F.X.N.Nodup) (hij : i ≠ j := by decide) (hi : F.X.N[i]? = some x := by rfl) (hj : F.X.N[j]? = some y := by rfl)
    (hx : F.X.env.scope.names.lookup x = some .local := by rfl) (hy : F.X.env.scope.names.lookup y = some .local := by rfl) (hc : F.X.calm = true := by rfl)
    (hw : swappedStores [.Tuple [.Name x px, .Name y py] kt pt] (.Tuple [a, b] k2 pt2) F.X.env = pure (some [x, y]) := by rfl)
    (hs : swapsWithSole [.Tuple [.Name x px, .Name y py] kt pt] (.Tuple [a, b] k2 pt2) pos.line F.X.env = pure false := by rfl) :
    HB F ρ ω (.Assign [.Tuple [.Name x px, .Name y py] kt pt] (.Tuple [a, b] k2 pt2) pos :: rest) K := hb_cons fun σ G H D at_ sl ps => by
  refine sw_of (ps_par hc hN hi hj hij hx hy pa_w hw hs) (ha σ G H at_ sl _ fun vs G2 H2 s a r => ?_)
  obtain ⟨v, w, rfl, r1, r2⟩ := all2 r
  exact ⟨v, w, rfl, h _ G2 H2 D a (((sl.up s).set i r1).set j r2) (ps.up s)⟩
/-! lists, tuples, ranges, pairs -/
theorem it_lst (he : ER F ρ ω it (rLst Rs) w1) : IT F ρ ω tg it Rs w1 := ⟨_, pi_list pe_w, fun σ G H at_ sl R k => he σ G H at_ sl _ fun v G2 H2 s a r => by
  obtain ⟨a', vs, rfl, h1, h2⟩ := r
  refine ⟨a', rfl, ⟨vs, SqL.of (a.gh _ _ h1)⟩, k _ G2 H2 s a ⟨fun i G' H' s1 s2 hi => ⟨vs, vs[i]'(by rw [← h2.len]; exact hi), SqL.of (s2 _ _ (s1 _ _ h1)), List.getElem?_eq_getElem _⟩, fun G' H' s1 s2 => ⟨vs, SqL.of (s2 _ _ (s1 _ _ h1)), by rw [h2.len]; exact Nat.le_refl _⟩, fun i R G' H' x H'' s1 s2 hR y => ?_⟩⟩
  obtain ⟨rfl, y⟩ := y
  obtain ⟨v, hv, rv⟩ := h2.get hR
  have e := y vs (SqL.of (s2 _ _ (s1 _ _ h1)))
  rw [hv] at e
  cases e
  exact ⟨G', Step.refl s2, R.mo _ _ _ s1 rv⟩⟩
theorem it_tup (he : ER F ρ ω it (rTup Rs) w1) : IT F ρ ω tg it Rs w1 := ⟨_, pi_tup pe_w, fun σ G H at_ sl R k => he σ G H at_ sl _ fun v G2 H2 s a r => by
  obtain ⟨a', vs, rfl, h1, h2⟩ := r
  refine ⟨a', rfl, ⟨vs, SqT.of (a.gh _ _ h1)⟩, k _ G2 H2 s a ⟨fun i G' H' s1 s2 hi => ⟨vs, vs[i]'(by rw [← h2.len]; exact hi), SqT.of (s2 _ _ (s1 _ _ h1)), List.getElem?_eq_getElem _⟩, fun G' H' s1 s2 => ⟨vs, SqT.of (s2 _ _ (s1 _ _ h1)), by rw [h2.len]; exact Nat.le_refl _⟩, fun i R G' H' x H'' s1 s2 hR y => ?_⟩⟩
  obtain ⟨rfl, y⟩ := y
  obtain ⟨v, hv, rv⟩ := h2.get hR
  have e := y vs (SqT.of (s2 _ _ (s1 _ _ h1)))
  rw [hv] at e
  cases e
  exact ⟨G', Step.refl s2, R.mo _ _ _ s1 rv⟩⟩
def rng (lo : Int) (n : Nat) : List Rl := (List.range n).map fun (k : Nat) => rInt (lo + (k : Int))
theorem rng_len {lo : Int} {n : Nat} : (rng lo n).length = n := by unfold rng; rw [List.length_map, List.length_range]
theorem yld_rng {lo : Int} {n : Nat} {G : Hp} : Yld (Itr lo n) (rng lo n) G :=
  ⟨fun i _ _ _ _ hi => by rw [rng_len] at hi; exact hi, fun _ _ _ _ => by rw [rng_len]; exact Nat.le_refl n, fun i R G' H' x H'' s1 s2 hR y => by
    obtain ⟨rfl, rfl⟩ := y
    unfold rng at hR
    rw [List.getElem?_map] at hR
    cases h : (List.range n)[i]? with
    | none => rw [h] at hR; cases hR
    | some k =>
      rw [h] at hR
      have ek : k = i := by
        obtain ⟨hl, e⟩ := List.getElem?_eq_some_iff.mp h
        rw [List.getElem_range] at e
        exact e.symm
      subst ek
      cases hR
      exact ⟨G', Step.refl s2, rfl⟩⟩
theorem it_rng1 {n : Int} (he : AR F ρ ω [e] [rInt n] w1) (hg : Gl F.X "range") (hm : F.X.mg "range" = none) (hn : -(2 ^ 62) ≤ n ∧ n < 2 ^ 62) (hs : starEach [e] F.X.env = [(false, eval e F.X.env)] := by rfl) : IT F ρ ω tg (.Call (.Name "range" p) [e] [] pos) (rng 0 n.toNat) w1 :=
  ⟨_, pi_range1 hg hm pa_w hs, fun σ G H at_ sl R k => he σ G H at_ sl _ fun v G2 H2 s a r => by
    obtain ⟨y, rfl, ey⟩ := all1 r
    cases (show y = V.int n from ey)
    exact ⟨n, rfl, hn.1, hn.2, k _ G2 H2 s a yld_rng⟩⟩
theorem it_rng2 {m n : Int} (he : AR F ρ ω [e, e2] [rInt m, rInt n] w1) (hg : Gl F.X "range") (hm : F.X.mg "range" = none) (hn : -(2 ^ 62) ≤ m ∧ m < 2 ^ 62 ∧ -(2 ^ 62) ≤ n ∧ n < 2 ^ 62)
    (hs : starEach [e, e2] F.X.env = [(false, eval e F.X.env), (false, eval e2 F.X.env)] := by rfl) (hs2 : starEach [e2] F.X.env = [(false, eval e2 F.X.env)] := by rfl) : IT F ρ ω tg (.Call (.Name "range" p) [e, e2] [] pos) (rng m (n - m).toNat) w1 :=
  ⟨_, pi_range2 hg hm pa_w hs hs2, fun σ G H at_ sl R k => he σ G H at_ sl _ fun v G2 H2 s a r => by
    obtain ⟨y, z, rfl, ey, ez⟩ := all2 r
    cases (show y = V.int m from ey)
    cases (show z = V.int n from ez)
    exact ⟨m, n, rfl, hn, k _ G2 H2 s a yld_rng⟩⟩
/-- the loop -/
theorem hb_for {g : TG} {body : List Stmt} (hit : IT F ρ ω tg it Rs w1) (I : Nat → Ty → Ow → Prop) (h0 : I 0 ρ w1)
    (hs : ∀ (k : Nat) ρ ω (S : Rl), Rs[k]? = some S → I k ρ ω → ∃ ρ', GE g ρ S ρ' ∧ HB F ρ' ω body (K.loop F rest (I (k + 1)))) (hd : ∀ ρ ω, I Rs.length ρ ω → HB F ρ ω rest K)
    (hp : PassesOwn (model F.X.prog F.X.w) F.X.A F.X.env F.X.xe) (hpg : PG F.X tg g) (hc : F.X.calm = true := by rfl)
    (hfs : ∀ z, foldedSetIterable it F.X.env z = pure z := by intro _; rfl) : HB F ρ ω (.For tg it body [] pos :: rest) K := hb_cons fun σ G H D at_ sl ps => by
  obtain ⟨wi, hpi, hwi⟩ := hit
  refine sw_of (ps_for hp hc hpi hpg pss_w hfs) (hwi σ G H at_ sl _ fun J G2 H2 s2 a2 y2 => ?_)
  refine ⟨fun i m σ H => m = Rs.length - i ∧ i ≤ Rs.length ∧ ∃ ρ ω G, I i ρ ω ∧ At F ω G H ∧ Slots ρ σ G ∧ Same G2 G ∧ Post F K D G, ⟨Rs.length, by simp, Nat.zero_le _, ρ, w1, G2, h0, a2, sl.up s2, Same.refl _, ps.up s2⟩, ?_⟩
  rintro i m σ1 H1 ⟨rfl, hi, ρ1, ω1, G1, i1, a1, sl1, s1, ps1⟩
  by_cases hlt : i < Rs.length
  · refine .inr ⟨y2.go i G1 H1 s1 a1.gh hlt, fun σ' H' => ∃ ρ ω G, I (i + 1) ρ ω ∧ At F ω G H' ∧ Slots ρ σ' G ∧ Same G2 G ∧ Post F K D G, fun σ' H' z => ⟨Rs.length - (i + 1), by omega, rfl, hlt, z⟩, fun x H' y => ?_⟩
    obtain ⟨G3, st, rx⟩ := y2.yld i Rs[i] G1 H1 x H' s1 a1.gh (List.getElem?_eq_getElem hlt) y
    obtain ⟨ρ', ga, hb⟩ := hs i ρ1 ω1 Rs[i] (List.getElem?_eq_getElem hlt) i1
    have a3 := a1.step st
    refine ga x σ1 G3 H' _ a3.gh (sl1.up st.gg) rx fun σ2 sl2 => ?_
    have ps3 := ps1.up st.gg
    have s3 : Same G2 G3 := s1.trans st.gg
    exact hb σ2 G3 H' _ a3 sl2 ⟨fun ρ ω i' σ' G' H' s a sl => ⟨ρ, ω, G', i', a, sl, s3.trans s, ps3.up s⟩, ps3.rt, fun ρ ω k' σ' G' H' s a sl => k' σ' G' H' D a sl (ps3.up s), fun ρ ω i' σ' G' H' s a sl => ⟨ρ, ω, G', i', a, sl, s3.trans s, ps3.up s⟩, ps3.ex⟩
  · have e : i = Rs.length := by omega
    subst e
    exact .inl ⟨y2.stop G1 H1 s1 a1.gh, hd ρ1 ω1 i1 σ1 G1 H1 D a1 sl1 ps1⟩
end
end W1
set_option maxRecDepth 100000
set_option maxHeartbeats 2000000
namespace W1
open PySem PySem.Spec PyProof.Rows L2

/-! ### promises -/
/-- what is owned, in a heap -/
def Has (ω : Ow) (G H : Hp) : Prop := ∀ p ∈ ω, G p.1 = none ∧ ∃ o, H p.1 = some o ∧ p.2.c o G
structure StepM (M : List Addr) (G H G' H' : Hp) : Prop where
  gg : Same G G'
  hh : ∀ a o, a ∉ M → H a = some o → H' a = some o
  gh : Same G' H'
  fr : ∀ a, H a ≠ none → G a = none → G' a = none
abbrev Pre := List Rl → Ow → Out → Ow → Prop
def keys (ω : Ow) : List Addr := ω.map (·.1)
/-- a def's promise: from the relations of the arguments and what is handed over, what comes out and what becomes of what was handed over -/
def spM (pre : Pre) : Sp := fun vs H Q E => ∃ Rs ω o ω' G, pre Rs ω o ω' ∧ Same G H ∧ All2 Rs vs G ∧ Has ω G H ∧ (keys ω).Nodup ∧ keys ω' = keys ω ∧
  (match o with
    | .ok R => ∀ v G' H', StepM (keys ω) G H G' H' → Has ω' G' H' → R.r v G' → Q v H'
    | .error P => ∀ cls d G' H', StepM (keys ω) G H G' H' → Has ω' G' H' → P cls d G' → E cls d H')
/-- what a body is to come to -/
def Kf (o : Out) (ω' : Ow) : Kn where
  nx := fun _ w => ∃ R w0, o = .ok R ∧ (∀ G, R.r .non G) ∧ w = ω' ++ w0
  rt := fun S w => ∃ R w0, o = .ok R ∧ (∀ v G, S.r v G → R.r v G) ∧ w = ω' ++ w0
  ex := fun _ w P => ∃ P' w0, o = .error P' ∧ (∀ cls d G, P cls d G → P' cls d G) ∧ w = ω' ++ w0
theorem Has.left {ω w : Ow} {G H : Hp} (h : Has (ω ++ w) G H) : Has ω G H := fun p hp => h p (List.mem_append_left _ hp)
theorem At.has {F : Fx} {ω : Ow} {G H : Hp} (a : At F ω G H) : Has ω G H := fun p hp => let ⟨x, _, z⟩ := a.ow p hp; ⟨x, z⟩
theorem At.stepM {F : Fx} {wc wc' w : Ow} {G H G' H' : Hp} (a : At F (wc ++ w) G H) (s : StepM (keys wc) G H G' H') (h : Has wc' G' H') (hk : keys wc' = keys wc) : At F (wc' ++ w) G' H' := by
  have own : ∀ b ∈ keys wc, G b = none ∧ (F.H0 b = none ∨ b ∈ F.M) ∧ H b ≠ none := fun b hb => by
    obtain ⟨p, hp, e⟩ := List.mem_map.mp hb
    obtain ⟨x, y, o, z, _⟩ := a.ow p (List.mem_append_left _ hp)
    exact ⟨by rw [← e]; exact x, by rw [← e]; exact y, by rw [← e, z]; simp⟩
  have nd := a.nd
  rw [List.map_append] at nd
  have kk : ∀ b, b ∈ keys wc → H' b ≠ none := fun b hb => by
    rw [← hk] at hb
    obtain ⟨p, hp, e⟩ := List.mem_map.mp hb
    obtain ⟨_, o, z, _⟩ := h p hp
    rw [← e, z]
    simp
  refine ⟨a.gg.trans s.gg, fun b o hb e => ?_, s.gh, fun b h1 h2 => ?_, fun b hb => ?_, fun p hp => ?_, ?_⟩
  · refine s.hh b o (fun hm => ?_) (a.hh b o hb e)
    rcases (own b hm).2.1 with z | z
    · rw [z] at e; cases e
    · exact hb z
  · refine s.fr b ?_ (a.fr b h1 h2)
    by_cases hb : b ∈ F.M
    · exact a.mm b hb
    · cases e : F.H0 b with
      | none => exact absurd e h1
      | some o => rw [a.hh b o hb e]; simp
  · by_cases hm : b ∈ keys wc
    · exact kk b hm
    · cases e : H b with
      | none => exact absurd e (a.mm b hb)
      | some o => rw [s.hh b o hm e]; simp
  · rcases List.mem_append.mp hp with hp | hp
    · obtain ⟨x, o, y, z⟩ := h p hp
      refine ⟨x, ?_, o, y, z⟩
      have hm : p.1 ∈ keys wc := by rw [← hk]; exact List.mem_map_of_mem hp
      exact (own p.1 hm).2.1
    · obtain ⟨x, y, o, z, c⟩ := a.ow p (List.mem_append_right _ hp)
      have hm : p.1 ∉ keys wc := fun hm => by
        have := (List.nodup_append.mp nd).2.2 p.1 hm p.1 (List.mem_map_of_mem hp)
        exact this rfl
      exact ⟨s.fr p.1 (by rw [z]; simp) x, y, o, s.hh _ _ hm z, p.2.mo _ _ _ s.gg c⟩
  · rw [List.map_append]
    show (keys wc' ++ keys w).Nodup
    rw [hk]
    exact nd
/-- a body keeps the promise -/
theorem fn_ok {P : Program} {w : World} {K : PySem.W.Frag} {mg : Str → Option Value} {base : Heap} {x qual : Str} {st : Stmt} {f : Addr} {fd : FuncData} {N ps : List Str} {k : Nat} {pre : Pre} (Fn : Fun K x qual st f fd) (S : FnScope N ps (defScope st))
    (hl : ∀ Rs ω o ω', pre Rs ω o ω' → Rs.length = ps.length)
    (hb : ∀ (cdv : Value) (A : Around) (outer : List Env) (s : Shared) (H : Hp) (E : XK) (F : Fx), Room k (A.deeper (envOfC qual (defScope st) s.heap.objs.size f cdv)) → F.X = cxOf (L2.CX P w) P w K mg base N qual (defScope st) f cdv A outer s H E →
      ∀ Rs ω o ω', pre Rs ω o ω' → HB F (Rs.map some ++ List.replicate (N.length - Rs.length) none) ω (defBody st) (Kf o ω')) : FnOk P w K mg base (L2.CX P w) (k + 1) f fd ps (spM pre) := by
  refine Fn.okX S (fun vs H Q E h => ?_) (fun cdv A outer s H vs Q E hr h => ?_)
  · obtain ⟨Rs, ω, o, ω', G, hp, _, h2, _⟩ := h
    rw [← h2.len]
    exact hl _ _ _ _ hp
  · obtain ⟨Rs, ω, o, ω', G, hp, hgh, hv, hhas, hnd, hk, hq⟩ := h
    have tk : Takes (cxOf (L2.CX P w) P w K mg base N qual (defScope st) f cdv A outer s H E) (fun cls d _ H => E cls d H) := takes_of rfl rfl rfl rfl
    refine ⟨_, pss_w, hb cdv A outer s H E ⟨cxOf (L2.CX P w) P w K mg base N qual (defScope st) f cdv A outer s H E, G, H, keys ω, fun cls d _ H => E cls d H, tk⟩ hr rfl Rs ω o ω' hp (L2.start N vs) G H _ ?_ ?_ ?_⟩
    · exact ⟨Same.refl _, fun a o _ e => e, hgh, fun a _ e => e, fun a ha => by
        obtain ⟨p, hp, e⟩ := List.mem_map.mp ha
        obtain ⟨_, o, z, _⟩ := hhas p hp
        rw [← e, z]
        simp, fun p hp => let ⟨x, z⟩ := hhas p hp; ⟨x, .inr (List.mem_map_of_mem hp), z⟩, hnd⟩
    · unfold L2.start
      have e := hv.len
      refine ⟨by simp [e], fun i R hi => ?_⟩
      by_cases h : i < Rs.length
      · rw [List.getElem?_append_left (by simpa using h), List.getElem?_map] at hi
        cases h1 : Rs[i]? with
        | none => rw [h1] at hi; cases hi
        | some R' =>
          rw [h1] at hi
          cases hi
          obtain ⟨v, h2, h3⟩ := hv.get h1
          exact ⟨v, by rw [List.getElem?_append_left (by rw [List.length_map, ← e]; exact h), List.getElem?_map, h2]; rfl, h3⟩
      · rw [List.getElem?_append_right (by simpa using h), List.getElem?_replicate] at hi
        split at hi <;> cases hi
    · have fin : ∀ {w0 : Ow} {G' H' : Hp}, At ⟨cxOf (L2.CX P w) P w K mg base N qual (defScope st) f cdv A outer s H E, G, H, keys ω, fun cls d _ H => E cls d H, tk⟩ (ω' ++ w0) G' H' → StepM (keys ω) G H G' H' ∧ Has ω' G' H' :=
        fun a => ⟨⟨a.gg, a.hh, a.gh, a.fr⟩, a.has.left⟩
      refine ⟨fun ρ w1 hk σ G' H' s a sl => ?_, fun R w1 hk v G' H' s a r => ?_, fun _ _ hk => hk.elim, fun _ _ hk => hk.elim, fun ρ w1 P' hk cls d σ G' H' s a sl hP => ?_⟩
      · obtain ⟨R, w0, rfl, h1, rfl⟩ := hk
        obtain ⟨h2, h3⟩ := fin a
        exact hq _ _ _ h2 h3 (h1 _)
      · obtain ⟨R', w0, rfl, h1, rfl⟩ := hk
        obtain ⟨h2, h3⟩ := fin a
        exact hq _ _ _ h2 h3 (h1 _ _ r)
      · obtain ⟨P'', w0, rfl, h1, rfl⟩ := hk
        obtain ⟨h2, h3⟩ := fin a
        exact hq _ _ _ _ h2 h3 (h1 _ _ _ hP)
/-- asking it -/
theorem sp_ok {F : Fx} {pre : Pre} {Rs : List Rl} {wc wc' w : Ow} {R : Rl} {vs : List V} {G H : Hp} {Q : VK} {E : XK} (at_ : At F (wc ++ w) G H) (hv : All2 Rs vs G) (hp : pre Rs wc (.ok R) wc') (hk : keys wc' = keys wc)
    (q : ∀ v G2 H2, Same G G2 → At F (wc' ++ w) G2 H2 → R.r v G2 → Q v H2) : spM pre vs H Q E :=
  ⟨Rs, wc, .ok R, wc', G, hp, at_.gh, hv, at_.has.left, by have := at_.nd; rw [List.map_append] at this; exact (List.nodup_append.mp this).1, hk, fun v G' H' s h r => q v G' H' s.gg (at_.stepM s h hk) r⟩
theorem sp_er {F : Fx} {pre : Pre} {Rs : List Rl} {wc wc' w : Ow} {P : Er} {vs : List V} {G H : Hp} {Q : VK} {E : XK} (at_ : At F (wc ++ w) G H) (hv : All2 Rs vs G) (hp : pre Rs wc (.error P) wc') (hk : keys wc' = keys wc)
    (q : ∀ cls d G2 H2, Same G G2 → At F (wc' ++ w) G2 H2 → P cls d G2 → E cls d H2) : spM pre vs H Q E :=
  ⟨Rs, wc, .error P, wc', G, hp, at_.gh, hv, at_.has.left, by have := at_.nd; rw [List.map_append] at this; exact (List.nodup_append.mp this).1, hk, fun cls d G' H' s h r => q cls d G' H' s.gg (at_.stepM s h hk) r⟩

/-! ### calls, at the slots -/
section
variable {X : Cx} {CX : CXT} {k : Nat} {f C g pc : Addr} {fd : FuncData} {ps : List Str} {sp : Sp} {E : L2.St → XK} {x m : Str} {p pos apos : Pos} {e o : Expr} {es : List Expr} {ta : TE} {t : TA}
def tMethS (C : Addr) (m : Str) (sp : Sp) (E : L2.St → XK) (ta : TE) (t : TA) : TE := fun σ H Q => ta σ H fun x H1 => ∃ a dx fs, x = .ref a ∧ H1 a = some (.ins C dx fs) ∧ fs.lookup m = none ∧ t σ H1 fun vs H2 => sp (x :: vs) H2 Q (E σ)
def tMakeS (C : Addr) (sp : Sp) (E : L2.St → XK) (t : TA) : TE := fun σ H Q => t σ H fun vs H1 => ∀ x dx, H1 x = none → H1 dx = none → dx ≠ x →
  sp (.ref x :: vs) (upd (upd H1 dx (.own x)) x (.ins C dx [])) (fun v H2 => v = .non ∧ Q (.ref x) H2) (E σ)
theorem pe_methS {pl : Sem Bool} (he : PE X o ta) (c : Cls X.K C) (hm : Meth X.K C m f) (F : FnOk X.prog X.w X.K X.mg X.base CX k f fd ps sp) (hr : Room k X.A) (hb : Binds X.K fd ps []) (hx : ∀ σ, PassesAt CX X σ (E σ)) (ha : PA X (e :: es) t)
    (hst : starEach (e :: es) X.env = (false, eval e X.env) :: starEach es X.env := by rfl) (hpl : (backTo pos (starEach es X.env)).any (·.1) = false := by rfl)
    (ht : eval (.Call (.Attribute o m apos) (e :: es) [] pos) X.env = (do
      let ov ← eval o X.env
      standAt apos.atName
      let (f, first) ← holding [ov] (getMethod ov m pl)
      callWith pos f first (backTo pos (starEach (e :: es) X.env)) (backToKw pos (keywordEach [] X.env))) := by rfl) :
    PE X (.Call (.Attribute o m apos) (e :: es) [] pos) (tMethS C m sp E ta t) := by
  refine ⟨fun pins s σ H Q I h => ?_⟩
  refine PySem.W.methodCall_KW (pl := pl) (thn (he.run pins s σ H _ I h) fun u s1 ⟨x, H1, I1, rx, a, dx, fs, ex, ea, l, q⟩ => ?_) ht
  subst ex
  obtain rfl : u = Value.ref a := rx
  refine getmeth_ok I1 ea c hm l ?_
  refine PySem.W.callWith_K (first := [.ref a]) (h₀ := X.base) I.ok.mod.kin hm.kp (thn (ha.run pos pins s1 σ H1 _ I1 q) fun us s2 ⟨vs, H2, I2, r, q2⟩ => ⟨I2.kIn, ?_⟩) hst hpl
  exact run_fnS (us := .ref a :: us) (vs := .ref a :: vs) F hr hb (hx σ) I2 (.cons rfl r) q2
theorem pe_methS0 {pl : Sem Bool} (he : PE X o ta) (c : Cls X.K C) (hm : Meth X.K C m f) (F : FnOk X.prog X.w X.K X.mg X.base CX k f fd ps sp) (hr : Room k X.A) (hb : Binds X.K fd ps []) (hx : ∀ σ, PassesAt CX X σ (E σ))
    (ht : eval (.Call (.Attribute o m apos) [] [] pos) X.env = (do
      let ov ← eval o X.env
      standAt apos.atName
      let (f, first) ← holding [ov] (getMethod ov m pl)
      callWith pos f first (backTo pos (starEach [] X.env)) (backToKw pos (keywordEach [] X.env))) := by rfl) :
    PE X (.Call (.Attribute o m apos) [] [] pos) (tMethS C m sp E ta tNil) := by
  refine ⟨fun pins s σ H Q I h => ?_⟩
  refine PySem.W.methodCall_KW (pl := pl) (thn (he.run pins s σ H _ I h) fun u s1 ⟨x, H1, I1, rx, a, dx, fs, ex, ea, l, q⟩ => ?_) ht
  subst ex
  obtain rfl : u = Value.ref a := rx
  refine getmeth_ok I1 ea c hm l ?_
  exact PySem.W.callWith_K0 (first := [.ref a]) I1.kIn hm.kp (run_fnS (us := [.ref a]) (vs := [.ref a]) F hr hb (hx σ) I1 (.cons rfl .nil) q)
theorem run_makeS {pins : List (Addr × Obj)} {σ : L2.St} {H : Hp} {s : Shared} {Q : VK} {us : List Value} {vs : List V} (M : Mk X.K C f) (F : FnOk X.prog X.w X.K X.mg X.base CX k f fd ps sp) (hr : Room (k + 1) X.A) (hb : Binds X.K fd ps [])
    (hx : PassesAt CX X σ (E σ)) (I : Inv X pins σ H s) (r : Vals vs us)
    (h : ∀ x dx, H x = none → H dx = none → dx ≠ x → sp (.ref x :: vs) (upd (upd H dx (.own x)) x (.ins C dx [])) (fun v H2 => v = .non ∧ Q (.ref x) H2) (E σ)) :
    wpAny (model X.prog X.w) X.A (call (.ref C) us) (EP X pins σ Q) X.xe s := by
  have hq := h (s.heap.objs.size + 1) s.heap.objs.size (I.hok.fresh (Nat.le_succ _)) (I.hok.fresh (Nat.le_refl _)) (Nat.ne_of_lt (Nat.lt_succ_self _))
  have I2 := Inv.made (C := C) I
  have r2 : Vals (V.ref (s.heap.objs.size + 1) :: vs) (Value.ref (s.heap.objs.size + 1) :: us) := .cons rfl r
  have hl : (Value.ref (s.heap.objs.size + 1) :: us).length = ps.length := by
    have e := r2.length
    rw [F.len _ _ _ _ hq] at e
    exact e.symm
  have hbb := hb _ (Value.ref (s.heap.objs.size + 1) :: us) I2.kIn (by rw [List.append_nil]; exact hl)
  rw [List.append_nil] at hbb
  refine wpAny_call (make_map (f := f) I.kIn M.makes M.init (beq_iff_eq.mp M.fn) (codeAny_mono (F.run _ X.stack _ _ ⟨Value.ref (s.heap.objs.size + 1) :: us, []⟩ (Value.ref (s.heap.objs.size + 1) :: us) _ _ (E σ) (hr.make C us [])
    (I2.env0.make C us []) hbb r2 hq) fun r s' hq' => ?_))
  cases r with
  | error e => exact hx pins _ _ e s' I2 hq'
  | ok fl =>
    cases fl with
    | ret u =>
      obtain ⟨v, H', I3, rv, ev, q3⟩ := I2.after hq'
      subst ev
      exact ⟨rv, ⟨V.ref (s.heap.objs.size + 1), H', I3, rfl, q3⟩⟩
    | next => exact False.elim hq'
    | brk => exact False.elim hq'
    | cont => exact False.elim hq'
theorem pe_makeS (M : Mk X.K C f) (F : FnOk X.prog X.w X.K X.mg X.base CX k f fd ps sp) (hr : Room (k + 1) X.A) (hg : Gl X x) (hm : X.mg x = some (.ref C)) (hb : Binds X.K fd ps []) (hx : ∀ σ, PassesAt CX X σ (E σ))
    (ha : PA X (e :: es) t) (hdb : (x == ("__debug__" : Str)) = false := by decide) (he : starEach (e :: es) X.env = (false, eval e X.env) :: starEach es X.env := by rfl) (hpl : (backTo pos (starEach es X.env)).any (·.1) = false := by rfl) :
    PE X (.Call (.Name x p) (e :: es) [] pos) (tMakeS C sp E t) := by
  refine ⟨fun pins s σ H Q I h => ?_⟩
  refine wpAny_Call_Name_kw (ld_glob I hg hm ?_ hdb)
  refine PySem.W.callWith_K (h₀ := X.base) I.ok.mod.kin M.kp (thn (ha.run pos pins s σ H _ I h) fun us s1 ⟨vs, H1, I1, r, q⟩ => ⟨I1.kIn, ?_⟩) he hpl
  exact run_makeS M F hr hb (hx σ) I1 r q
end
end W1
set_option maxRecDepth 100000
set_option maxHeartbeats 2000000
namespace W1
open PySem PySem.Spec PyProof.Rows L2

section
variable {F : Fx} {ρ : Ty} {ω w w1 w2 wc wc' : Ow} {e o : Expr} {es : List Expr} {R S : Rl} {Rs : List Rl} {P : Er} {pos p apos : Pos} {x m : Str} {k : Nat} {f C g pc : Addr} {fd : FuncData} {ps : List Str} {pre : Pre}
theorem passW : ∀ σ, PassesAt (L2.CX F.X.prog F.X.w) F.X σ (WE F.W σ) := fun σ => passAt F.tk σ
/-- f(..) -/
theorem er_call (ha : AR F ρ ω (e :: es) Rs (wc ++ w)) (hp : pre Rs wc (.ok R) wc') (hk : keys wc' = keys wc) (Fn : FnOk F.X.prog F.X.w F.X.K F.X.mg F.X.base (L2.CX F.X.prog F.X.w) k f fd ps (spM pre)) (hr : Room k F.X.A) (hm : F.X.mg x = some (.ref f))
    (hkp : PySem.W.keepIn F.X.K (.ref f) = true) (hb : Binds F.X.K fd ps []) (hg : Gl F.X x := by rfl) (hdb : (x == ("__debug__" : Str)) = false := by decide) (he : starEach (e :: es) F.X.env = (false, eval e F.X.env) :: starEach es F.X.env := by rfl) (hpl : (backTo pos (starEach es F.X.env)).any (·.1) = false := by rfl) :
    ER F ρ ω (.Call (.Name x p) (e :: es) [] pos) R (wc' ++ w) := fun σ G H at_ sl Q q =>
  ew_of (pe_callS Fn hr hg hm hkp hb passW pa_w hdb he hpl) (ha σ G H at_ sl _ fun vs G2 H2 s a r => sp_ok a r hp hk fun v G3 H3 s3 a3 r3 => q v G3 H3 (s.trans s3) a3 r3)
theorem ex_call (ha : AR F ρ ω (e :: es) Rs (wc ++ w)) (hp : pre Rs wc (.error P) wc') (hk : keys wc' = keys wc) (Fn : FnOk F.X.prog F.X.w F.X.K F.X.mg F.X.base (L2.CX F.X.prog F.X.w) k f fd ps (spM pre)) (hr : Room k F.X.A) (hm : F.X.mg x = some (.ref f))
    (hkp : PySem.W.keepIn F.X.K (.ref f) = true) (hb : Binds F.X.K fd ps []) (hg : Gl F.X x := by rfl) (hdb : (x == ("__debug__" : Str)) = false := by decide) (he : starEach (e :: es) F.X.env = (false, eval e F.X.env) :: starEach es F.X.env := by rfl) (hpl : (backTo pos (starEach es F.X.env)).any (·.1) = false := by rfl) :
    EX F ρ ω (.Call (.Name x p) (e :: es) [] pos) P (wc' ++ w) := fun σ G H at_ sl q =>
  ew_of (pe_callS Fn hr hg hm hkp hb passW pa_w hdb he hpl) (ha σ G H at_ sl _ fun vs G2 H2 s a r => sp_er a r hp hk fun cls d G3 H3 s3 a3 r3 => q cls d G3 H3 (s.trans s3) a3 r3)
/-- o.m(..) -/
theorem er_meth {fs : List (Str × Rl)} {pl : Sem Bool} (ho : ER F ρ ω o (rIns C fs) w1) (hno : fs.lookup m = none) (ha : AR F ρ w1 (e :: es) Rs (wc ++ w)) (hp : pre (rIns C fs :: Rs) wc (.ok R) wc') (hk : keys wc' = keys wc)
    (Fn : FnOk F.X.prog F.X.w F.X.K F.X.mg F.X.base (L2.CX F.X.prog F.X.w) k f fd ps (spM pre)) (hr : Room k F.X.A) (hc : Cls F.X.K C) (hm : Meth F.X.K C m f) (hb : Binds F.X.K fd ps [])
    (hst : starEach (e :: es) F.X.env = (false, eval e F.X.env) :: starEach es F.X.env := by rfl) (hpl : (backTo pos (starEach es F.X.env)).any (·.1) = false := by rfl)
    (ht : eval (.Call (.Attribute o m apos) (e :: es) [] pos) F.X.env = (do
      let ov ← eval o F.X.env
      standAt apos.atName
      let (f, first) ← holding [ov] (getMethod ov m pl)
      callWith pos f first (backTo pos (starEach (e :: es) F.X.env)) (backToKw pos (keywordEach [] F.X.env))) := by rfl) :
    ER F ρ ω (.Call (.Attribute o m apos) (e :: es) [] pos) R (wc' ++ w) := fun σ G H at_ sl Q q => by
  refine ew_of (pe_methS pe_w hc hm Fn hr hb passW pa_w hst hpl ht) (ho σ G H at_ sl _ fun v G1 H1 s1 a1 r1 => ?_)
  obtain ⟨a, dx, vs, rfl, h1, h2⟩ := id r1
  refine ⟨a, dx, vs, rfl, a1.gh _ _ h1, h2.lookN hno, ha σ G1 H1 a1 (sl.up s1) _ fun us G2 H2 s2 a2 r2 => ?_⟩
  exact sp_ok (Rs := rIns C fs :: Rs) a2 ⟨(rIns C fs).mo _ _ _ s2 r1, r2⟩ hp hk fun v G3 H3 s3 a3 r3 => q v G3 H3 ((s1.trans s2).trans s3) a3 r3
theorem er_meth0 {fs : List (Str × Rl)} {pl : Sem Bool} (ho : ER F ρ ω o (rIns C fs) (wc ++ w)) (hno : fs.lookup m = none) (hp : pre [rIns C fs] wc (.ok R) wc') (hk : keys wc' = keys wc)
    (Fn : FnOk F.X.prog F.X.w F.X.K F.X.mg F.X.base (L2.CX F.X.prog F.X.w) k f fd ps (spM pre)) (hr : Room k F.X.A) (hc : Cls F.X.K C) (hm : Meth F.X.K C m f) (hb : Binds F.X.K fd ps [])
    (ht : eval (.Call (.Attribute o m apos) [] [] pos) F.X.env = (do
      let ov ← eval o F.X.env
      standAt apos.atName
      let (f, first) ← holding [ov] (getMethod ov m pl)
      callWith pos f first (backTo pos (starEach [] F.X.env)) (backToKw pos (keywordEach [] F.X.env))) := by rfl) :
    ER F ρ ω (.Call (.Attribute o m apos) [] [] pos) R (wc' ++ w) := fun σ G H at_ sl Q q => by
  refine ew_of (pe_methS0 pe_w hc hm Fn hr hb passW ht) (ho σ G H at_ sl _ fun v G1 H1 s1 a1 r1 => ?_)
  obtain ⟨a, dx, vs, rfl, h1, h2⟩ := id r1
  exact ⟨a, dx, vs, rfl, a1.gh _ _ h1, h2.lookN hno, sp_ok (Rs := [rIns C fs]) a1 ⟨r1, trivial⟩ hp hk fun v G3 H3 s3 a3 r3 => q v G3 H3 (s1.trans s3) a3 r3⟩
/-- an instance that is being made -/
def oIns (C : Addr) (fs : List (Str × Rl)) : Ol := ⟨fun o G => ∃ dx vs, o = .ins C dx vs ∧ NR fs vs G, fun _ _ _ e ⟨dx, vs, a, b⟩ => ⟨dx, vs, a, b.up e⟩⟩
/-- what is owned no more -/
theorem At.pub {F : Fx} {q : Addr} {O : Ol} {w : Ow} {G H : Hp} {o : HO} (a : At F ((q, O) :: w) G H) (ho : H q = some o) (hq : F.H0 q = none) : At F w (upd G q o) H := by
  have hg : G q = none := (a.ow _ List.mem_cons_self).1
  have sg : Same G (upd G q o) := fun b u e => by rw [upd_ne (ne_of_none e hg)]; exact e
  have nd := List.nodup_cons.mp a.nd
  refine ⟨a.gg.trans sg, a.hh, fun b u e => ?_, fun b h1 h2 => ?_, a.mm, fun p hp => ?_, nd.2⟩
  · by_cases hb : b = q
    · subst hb
      rw [upd_same] at e
      cases e
      exact ho
    · rw [upd_ne hb] at e
      exact a.gh _ _ e
  · rw [upd_ne (fun z => h1 (by rw [z]; exact hq))]
    exact a.fr b h1 h2
  · obtain ⟨x, y, u, z, c⟩ := a.ow p (List.mem_cons_of_mem _ hp)
    have ne : p.1 ≠ q := fun z => nd.1 (List.mem_map.mpr ⟨p, hp, z⟩)
    exact ⟨by rw [upd_ne ne]; exact x, y, u, z, p.2.mo _ _ _ sg c⟩
/-- a new thing that is owned -/
theorem At.own {F : Fx} {q : Addr} {O : Ol} {w : Ow} {G H : Hp} {o : HO} (a : At F w G H) (hq : H q = none) (hc : O.c o G) : At F ((q, O) :: w) G (upd H q o) := by
  have hg : G q = none := a.gh.free hq
  have st := Step.hid (o := o) a.gh hq
  have a' := a.step st
  have hM : q ∉ F.M := fun hm => a.mm q hm hq
  have h0 : F.H0 q = none := by
    cases e : F.H0 q with
    | none => rfl
    | some u => rw [a.hh q u hM e] at hq; cases hq
  refine ⟨a'.gg, a'.hh, a'.gh, a'.fr, a'.mm, fun p hp => ?_, List.nodup_cons.mpr ⟨fun hm => ?_, a.nd⟩⟩
  · rcases List.mem_cons.mp hp with rfl | hp
    · exact ⟨hg, .inl h0, o, upd_same, hc⟩
    · exact a'.ow p hp
  · obtain ⟨p, hp, e⟩ := List.mem_map.mp hm
    obtain ⟨_, _, u, z, _⟩ := a.ow p hp
    rw [e, hq] at z
    cases z
theorem At.own0 {F : Fx} {q : Addr} {O : Ol} {w : Ow} {G H : Hp} (a : At F ((q, O) :: w) G H) (hM : q ∉ F.M) : F.H0 q = none := ((a.ow _ List.mem_cons_self).2.1).resolve_right hM
/-- C(..) -/
theorem er_make {fs : List (Str × Rl)} (ha : AR F ρ ω (e :: es) Rs w) (hp : ∀ q, pre (rRef q :: Rs) [(q, oIns C [])] (.ok rNon) [(q, oIns C fs)]) (Fn : FnOk F.X.prog F.X.w F.X.K F.X.mg F.X.base (L2.CX F.X.prog F.X.w) k f fd ps (spM pre)) (hr : Room (k + 1) F.X.A) (M : Mk F.X.K C f)
    (hm : F.X.mg x = some (.ref C)) (hb : Binds F.X.K fd ps []) (hg : Gl F.X x := by rfl) (hdb : (x == ("__debug__" : Str)) = false := by decide) (he : starEach (e :: es) F.X.env = (false, eval e F.X.env) :: starEach es F.X.env := by rfl) (hpl : (backTo pos (starEach es F.X.env)).any (·.1) = false := by rfl) :
    ER F ρ ω (.Call (.Name x p) (e :: es) [] pos) (rIns C fs) w := fun σ G H at_ sl Q q => by
  refine ew_of (pe_makeS M Fn hr hg hm hb passW pa_w hdb he hpl) (ha σ G H at_ sl _ fun vs G1 H1 s1 a1 r1 => fun y dx hy hdx hne => ?_)
  have a2 : At F w G1 (upd H1 dx (.own y)) := a1.step (Step.hid a1.gh hdx)
  have hy2 : upd H1 dx (.own y) y = none := by rw [upd_ne (Ne.symm hne)]; exact hy
  have a3 : At F ([(y, oIns C [])] ++ w) G1 (upd (upd H1 dx (.own y)) y (.ins C dx [])) := a2.own hy2 ⟨dx, [], rfl, trivial⟩
  have hM : y ∉ F.M := fun hm => a2.mm y hm hy2
  refine sp_ok (Rs := rRef y :: Rs) (wc := [(y, oIns C [])]) a3 ⟨rfl, r1⟩ (hp y) rfl fun v G3 H3 s3 a4 r3 => ⟨r3, ?_⟩
  obtain ⟨_, _, ob, h1, dx', vs', e1, h2⟩ := a4.ow (y, oIns C fs) List.mem_cons_self
  subst e1
  have a5 : At F w (upd G3 y (.ins C dx' vs')) H3 := At.pub (q := y) a4 h1 (At.own0 a4 hM)
  have sg : Same G3 (upd G3 y (.ins C dx' vs')) := fun b u e => by rw [upd_ne (ne_of_none e (a4.ow (y, oIns C fs) List.mem_cons_self).1)]; exact e
  exact q _ _ _ ((s1.trans s3).trans sg) a5 ⟨y, dx', vs', rfl, upd_same, h2.up sg⟩
theorem ex_make (ha : AR F ρ ω (e :: es) Rs w) (hp : ∀ q, ∃ O, pre (rRef q :: Rs) [(q, oIns C [])] (.error P) [(q, O)]) (Fn : FnOk F.X.prog F.X.w F.X.K F.X.mg F.X.base (L2.CX F.X.prog F.X.w) k f fd ps (spM pre)) (hr : Room (k + 1) F.X.A) (M : Mk F.X.K C f)
    (hm : F.X.mg x = some (.ref C)) (hb : Binds F.X.K fd ps []) (hg : Gl F.X x := by rfl) (hdb : (x == ("__debug__" : Str)) = false := by decide) (he : starEach (e :: es) F.X.env = (false, eval e F.X.env) :: starEach es F.X.env := by rfl) (hpl : (backTo pos (starEach es F.X.env)).any (·.1) = false := by rfl)
    (hP : ∀ cls d G G', Same G G' → P cls d G → P cls d G') :
    EX F ρ ω (.Call (.Name x p) (e :: es) [] pos) P w := fun σ G H at_ sl q => by
  refine ew_of (pe_makeS M Fn hr hg hm hb passW pa_w hdb he hpl) (ha σ G H at_ sl _ fun vs G1 H1 s1 a1 r1 => fun y dx hy hdx hne => ?_)
  have a2 : At F w G1 (upd H1 dx (.own y)) := a1.step (Step.hid a1.gh hdx)
  have hy2 : upd H1 dx (.own y) y = none := by rw [upd_ne (Ne.symm hne)]; exact hy
  have a3 : At F ([(y, oIns C [])] ++ w) G1 (upd (upd H1 dx (.own y)) y (.ins C dx [])) := a2.own hy2 ⟨dx, [], rfl, trivial⟩
  have hM : y ∉ F.M := fun hm => a2.mm y hm hy2
  obtain ⟨O, hp'⟩ := hp y
  refine sp_er (Rs := rRef y :: Rs) (wc := [(y, oIns C [])]) a3 ⟨rfl, r1⟩ hp' rfl fun cls d G3 H3 s3 a4 r3 => ?_
  obtain ⟨hg0, _, ob, h1, _⟩ := a4.ow (y, O) List.mem_cons_self
  have a5 : At F w (upd G3 y ob) H3 := At.pub (q := y) a4 h1 (At.own0 a4 hM)
  have sg : Same G3 (upd G3 y ob) := fun b u e => by rw [upd_ne (ne_of_none e hg0)]; exact e
  exact q cls d _ _ ((s1.trans s3).trans sg) a5 (hP _ _ _ _ sg r3)
/-- a field of what is owned: stored -/
def putR (f : Str) (R : Rl) : List (Str × Rl) → List (Str × Rl)
  | [] => [(f, R)]
  | (g, S) :: r => if g = f then (f, R) :: r else (g, S) :: putR f R r
theorem NR.put {f : Str} {R : Rl} {v : V} {H : Hp} (h : R.r v H) : ∀ {fs : List (Str × Rl)} {vs : List (Str × V)}, NR fs vs H → NR (putR f R fs) (putF f v vs) H
  | [], [], _ => ⟨rfl, h, trivial⟩
  | (g, S) :: fs, (g', u) :: vs, ⟨e, a, b⟩ => by
    subst e
    unfold putR putF
    by_cases hg : g = f
    · rw [if_pos hg, if_pos hg]
      exact ⟨hg ▸ rfl, h, b⟩
    · rw [if_neg hg, if_neg hg]
      exact ⟨rfl, a, NR.put h b⟩
  | [], _ :: _, h => h.elim
  | _ :: _, [], h => h.elim
theorem NR.len {κ : Type} : ∀ {fs : List (κ × Rl)} {vs : List (κ × V)} {H : Hp}, NR fs vs H → fs.length = vs.length
  | [], [], _, _ => rfl
  | _ :: _, _ :: _, _, ⟨_, _, b⟩ => by rw [List.length_cons, List.length_cons, NR.len b]
  | [], _ :: _, _, h => h.elim
  | _ :: _, [], _, h => h.elim
/-- what is owned at q changes -/
theorem At.chg {F : Fx} {q : Addr} {O O' : Ol} {w : Ow} {G H : Hp} {o : HO} (a : At F ((q, O) :: w) G H) (hc : O'.c o G) : At F ((q, O') :: w) G (upd H q o) := by
  obtain ⟨hg, hM, ob, h1, _⟩ := a.ow _ List.mem_cons_self
  have nd := List.nodup_cons.mp a.nd
  refine ⟨a.gg, fun b u hb e => ?_, fun b u e => ?_, a.fr, fun b hb => ?_, fun p hp => ?_, a.nd⟩
  · rw [upd_ne (fun z => ?_)]
    · exact a.hh b u hb e
    · rcases hM with z' | z'
      · rw [z, z'] at e; cases e
      · exact hb (z ▸ z')
  · rw [upd_ne (ne_of_none e hg)]
    exact a.gh _ _ e
  · by_cases z : b = q
    · rw [z, upd_same]; simp
    · rw [upd_ne z]; exact a.mm b hb
  · rcases List.mem_cons.mp hp with rfl | hp
    · exact ⟨hg, hM, o, upd_same, hc⟩
    · obtain ⟨x, y, u, z, c⟩ := a.ow p (List.mem_cons_of_mem _ hp)
      have ne : p.1 ≠ q := fun z => nd.1 (List.mem_map.mpr ⟨p, hp, z⟩)
      exact ⟨x, y, u, by rw [upd_ne ne]; exact z, c⟩
theorem hb_fld {K : Kn} {rest : List Stmt} {q : Addr} {fs : List (Str × Rl)} {f : Str} {pos' : Pos} (hv : ER F ρ ω e R w1) (ho : ER F ρ w1 o (rRef q) ((q, oIns C fs) :: w2)) (hc : Cls F.X.K C) (hn : NoAttr F.X.K C f) (h : HB F ρ ((q, oIns C (putR f R fs)) :: w2) rest K) (hl : fs.length < 1000 := by decide)
    (hs : swapsWith e (some (.Attribute o f pos')) pos.line F.X.env = pure false := by rfl) : HB F ρ ω (.Assign [.Attribute o f pos'] e pos :: rest) K := hb_cons fun σ G H D at_ sl ps => by
  refine sw_of (ps_fld pe_w pe_w hs) (hv σ G H at_ sl _ fun v G1 H1 s1 a1 r1 => ho σ G1 H1 a1 (sl.up s1) _ fun u G2 H2 s2 a2 r2 => ?_)
  have r2' : u = V.ref q := r2
  subst r2'
  obtain ⟨_, _, ob, h1, dx, vs, e1, h2⟩ := a2.ow (q, oIns C fs) List.mem_cons_self
  subst e1
  refine ⟨q, C, dx, vs, rfl, h1, hc, hn, by rw [← h2.len]; exact hl, ?_⟩
  have s12 := s1.trans s2
  exact h σ G2 _ D (a2.chg ⟨dx, _, rfl, h2.put (R.mo _ _ _ s2 r1)⟩) (sl.up s12) (ps.up s12)
end
end W1
set_option maxRecDepth 100000
set_option maxHeartbeats 2000000
namespace W1
open PySem PySem.Spec PyProof.Rows L2 NdefX

/-! ### an own error whose __init__ says super().__init__(text) -/
/-- the def at f -/
abbrev supF (qual : Str) (st : Stmt) (cc cd : Addr) : NF := ⟨"__init__", qual, defArgs st, defBody st, defScope st, [("__class__", cc)], cd⟩
/-- what the written part says of the class at C, its __init__ at f, the cell at cc, the code at cd -/
structure SupC (P : Program) (K : PySem.W.Frag) (mg : Str → Option Value) (x qual : Str) (st : Stmt) (C f cc cd : Addr) : Prop where
  ox : OexC K C
  gC : mg x = some (.ref C)
  iC : PySem.W.findIn K (.ref C) "__init__" = some (some (.ref f))
  tI : PySem.W.typeIn K (.ref f) = some (.type "function")
  fn : ∃ oc od doc pm ctv osl, K.lookup f = some ⟨oc, od, .func ((supF qual st cc cd).fd doc pm ctv), osl⟩
  hcd : PySem.W.codeIn K (.ref cd) qual = true
  code : ∃ ccl cdd vs ccs file tf, K.lookup cd = some ⟨ccl, cdd, .fields vs, ccs⟩ ∧ vs[2]? = some (.str file tf) ∧ (P.main.file == file) = true
  cell : ∃ cl cld csl, K.lookup cc = some ⟨cl, cld, .cell (some (.ref C)), csl⟩
  sub : PySem.W.mroIn K C (.ref C) = some true
  nsup : mg "super" = none
  sup : PySem.W.ks_superIn K C C "__init__" = some (some (.builtin "ValueError.__init__"))
  subV : PySem.W.subIn K (.ref C) (.type "ValueError") = some true
  opq : PySem.W.nsIn K cStatics "thirdparty.any" = some none
  top : (P.main.scope.names.lookup ("super" : Str)).isSome = false
  te : PySem.W.exmOne K (.ref C) (.ref C) = some true
section
variable {X : Cx} {pins : List (Addr × Obj)} {σ : L2.St} {H : Hp} {s : Shared}
theorem ld_var {E : Value → Shared → Prop} {i : Nat} {x : Str} {v : V} {Q : Value → Shared → Prop} (I : Inv X pins σ H s) (hN : X.N[i]? = some x) (hv : Vis X.env.scope x) (hσ : σ[i]? = some (some v)) (hcd : (x == ("__classdict__" : Str)) = false)
    (h : ∀ u, RelV v u → Q u s) : wpAny (model X.prog X.w) X.A (loadName X.env x) Q E s := by
  obtain ⟨m, hn, hl⟩ := I.loc
  obtain ⟨u, r, l⟩ := hl i x v hN hσ hv
  rcases l with ⟨hk, hm⟩ | ⟨hk, c, hc, hcell⟩
  · exact wpAny_loadName_local I.ok.kind hk hn hm (h u r)
  · rcases hk with hk | hk
    · exact wpAny_loadName_cell I.ok.kind hk hc hcell (h u r)
    · exact wpAny_loadName_free I.ok.kind hk hc hcell (h u r) hcd
/-- super() in such a body: the object of it -/
theorem super_made {x qual : Str} {st : Stmt} {C f cc cd a : Addr} {p0 p1 : Pos} {body : List Stmt} {whole : Sem Value} {Q : Value → Shared → Prop} {E : Value → Shared → Prop} {ar : Arg} (T : SupC X.prog X.K X.mg x qual st C f cc cd) (I : Inv X pins σ H s)
    (ea : H a = some (exo a C none)) (h0 : σ[0]? = some (some (.ref a))) (hN : X.N[0]? = some ar.arg) (hv : Vis X.env.scope ar.arg) (hn1 : (ar.arg == ("__classdict__" : Str)) = false)
    (hks : X.env.kindOf "super" = some .globalImplicit) (hkc : X.env.kindOf "__class__" = some .free) (hfu : X.env.func = some f) (hco : X.env.code = .ref cd) (hcl : X.env.cells.lookup ("__class__" : Str) = some cc)
    (hp : ((defArgs st).posonlyargs ++ (defArgs st).args).head? = some ar)
    (h : ∀ s', Inv X ((s.heap.objs.size, PySem.W.ks_superObj C a C) :: pins) σ H s' → Q (.ref s.heap.objs.size) s') :
    PySem.wpAt (model X.prog X.w) X.A (.func body X.env) (attributeBase (.Call (.Name "super" p0) [] [] p1) "__init__" X.env whole) Q E s := by
  obtain ⟨oc, od, doc, pm, ctv, osl, hf⟩ := T.fn
  obtain ⟨ccl, cdd, vs, ccs, file, tf, hcode, hvs, hfile⟩ := T.code
  obtain ⟨ct, cld, csl, hcell⟩ := T.cell
  obtain ⟨nm, q, N, bs, bm, sn, sub, ab, col, dd, k0, k1, k2, k3, k5, hC, hbm⟩ := T.ox.cls
  have hclI : PySem.W.clsIn X.K C = some { name := nm, bases := bs, mro := .ref C :: bm, ns := N, qualname := q, hasDict := true, slotNames := sn, subclasses := sub, abstract := ab, collection := col, hasDel := false } := by unfold PySem.W.clsIn; rw [hC] <;> rfl
  obtain ⟨t1, hx⟩ := exo_at I.hok ea
  refine ks_wpAt_super_base (attr := "__init__") hks hkc (by decide +kernel) hfu (I.kIn _ _ hf) rfl hp hco (I.kIn _ _ hcode) rfl hvs hfile T.top ?_
  refine PySem.W.ks_loadName_global I.ok.kind hks ?_
  obtain ⟨mb, h1, h2⟩ := I.mod.blt
  refine Calls.loadGlobal_builtin (by rw [I.ok.glob]; exact I.mod.glob.keeps I.bk) T.nsup (by rw [I.ok.blt]; exact h1.keeps I.bk) ((h2 _ (by decide +kernel)).trans (by decide +kernel : bootBuiltins "super" = some (.type "super"))) ⟨rfl, ?_⟩
  refine wpAny_loadName_free I.ok.kind hkc hcl ⟨_, I.kIn _ _ hcell, rfl⟩ ?_
  refine ld_var I hN hv h0 hn1 fun u ru => ?_
  obtain rfl : u = Value.ref a := ru
  obtain ⟨hp', g, d, t, os⟩ := s
  refine ks_wpAny_isType_cls (I.kIn _ _ hC) rfl ⟨rfl, ?_⟩
  refine ks_wpAny_call_super (I.kIn _ _ hC) rfl hx rfl (fun c z => nomatch z) (PySem.W.looks_mroIn I.kIn T.sub) (fun h' e k => ?_)
  exact h _ (ClX.pin_new I k (Nat.le_refl _) e (fun v z => nomatch z))
/-- .__init__ of it, called: the exception's texts are laid anew -/
theorem super_init {x qual : Str} {st : Stmt} {C f cc cd a so : Addr} {pos : Pos} {e : Expr} {es : List Expr} {ta : TA} {pl : Sem Bool} {Q : Value → Shared → Prop} (T : SupC X.prog X.K X.mg x qual st C f cc cd) (I : Inv X ((so, PySem.W.ks_superObj C a C) :: pins) σ H s)
    (ea : H a = some (exo a C none)) (ha : PA X (e :: es) ta) (q : ta σ H fun vs H1 => vs.length ≤ 1000 ∧ H1 a = some (exo a C none) ∧ ∀ s', Inv X pins σ H1 s' → Q .none s')
    (he : starEach (e :: es) X.env = (false, eval e X.env) :: starEach es X.env) (hpl : (backTo pos (starEach es X.env)).any (·.1) = false) :
    wpAny (model X.prog X.w) X.A (getMethod (.ref so) "__init__" pl) (fun fx s₂ => wpAny (model X.prog X.w) X.A (callWith pos fx.1 fx.2 (backTo pos (starEach (e :: es) X.env)) []) Q X.xe s₂) X.xe s := by
  obtain ⟨nm, q', N, bs, bm, sn, sub, ab, col, dd, k0, k1, k2, k3, k5, hC, hbm⟩ := T.ox.cls
  have hclI : PySem.W.clsIn X.K C = some { name := nm, bases := bs, mro := .ref C :: bm, ns := N, qualname := q', hasDict := true, slotNames := sn, subclasses := sub, abstract := ab, collection := col, hasDel := false } := by unfold PySem.W.clsIn; rw [hC] <;> rfl
  obtain ⟨t1, hx⟩ := exo_at I.hok ea
  have hso := ClX.pin_at I
  have sup := T.sup
  unfold PySem.W.ks_superIn at sup
  rw [hclI] at sup
  have J : PySem.W.InstAt s.heap a { cls := .ref C, dict := none, data := .fields #[.ref t1, .none, .none, .none, .bool false, .none] } C none := ⟨hx, rfl, rfl, trivial⟩
  have naC : a ≠ C := fun z => by
    have := I.kIn _ _ hC
    rw [← z, hx] at this
    cases this
  have hI : PySem.W.Looks (model X.prog X.w) s.heap (isInstance (.ref a) (.type "ValueError")) true := J.type.andThen (PySem.W.looks_subIn I.kIn T.subV)
  obtain ⟨hp, g, d, t, os⟩ := s
  refine PySem.W.kxs_getMethod PySem.W.kxs_ValueError hso (PySem.W.looks_opaque I.kIn T.opq) (l₀ := .ref C :: bm) ?_ rfl I.kIn sup hI naC (by decide +kernel) ?_
  · exact fun A Q E s k q => wpAny_bind ((PySem.W.looks_clsIn I.kIn hclI) A _ E s k (wpAny_pure q))
  · have I1 := ClX.pin_new (t' := t + 1) (h' := hp.push (PySem.W.kxs_mw "ValueError.__init__" a)) (a := hp.objs.size) (o := PySem.W.kxs_mw "ValueError.__init__" a) I (fun b u z => Heap.get?_push_of_some _ z) (Nat.le_refl _) (Heap.get?_push_at rfl rfl) (fun v z => nomatch z)
    have hq1 : wpAny (model X.prog X.w) X.A (spliced (backTo pos (starEach (e :: es) X.env))) (fun us s₁ => PySem.W.KxsAt "ValueError.__init__" hp.objs.size a s₁.heap ∧ wpAny (model X.prog X.w) X.A (call (.ref hp.objs.size) us) Q X.xe s₁) X.xe ⟨hp.push (PySem.W.kxs_mw "ValueError.__init__" a), g, d, t + 1, os⟩ := by
      refine thn (ha.run pos _ _ σ H _ I1 q) fun us s1 ⟨vs, H1, I2, r, hlen, ea1, q1⟩ => ⟨ClX.pin_at I2, ?_⟩
      have hu := ClX.pin_at I2
      obtain ⟨t2, hx2⟩ := exo_at I2.hok ea1
      have hz : us.length ≤ sizeLine := by
        rw [← r.length]
        exact Nat.le_of_lt (small1000 hlen)
      obtain ⟨h2, g2, d2, tk2, os2⟩ := s1
      refine wpAny_call (codeAny_of_tree ?_)
      show wpAny _ X.A.in1 (callAny (.ref hp.objs.size) ⟨us, []⟩) _ _ _
      simp only [callAny]
      refine wpAny_bind (wpAny_load hu ?_)
      simp only [PySem.W.kxs_mw, show (Value.type "method-wrapper" == Value.type "method" || Value.type "method-wrapper" == Value.type "builtin_function_or_method" || Value.type "method-wrapper" == Value.type "method-wrapper") = true by decide, if_true]
      refine PySem.W.KFB.if_so (by decide) ?_
      refine wpAny_bind (PySem.W.check_bound_init F.excBase_ValueError.toExcCallFacts (I2.kIn _ _ hC) hx2 rfl ?_)
      refine wpAny_bind (wpAny_pure (wpAny_pure ?_))
      refine ⟨plainId_quiet F.excBase_ValueError.init.plain _, codeAny_builtin F.excBase_ValueError.initEntry ?_⟩
      refine PySem.W.exc_init_tree (cls := .ref C) (t0 := t2) (dv := none) (c2 := .none) (c3 := .none) (b4 := .bool false) hx2 hz fun h3 k e3 t3 => ?_
      have J3 := (ClX.unpin (ClX.unpin I2)).write (t' := tk2) (x := a) (e := a) (o := exo a C none) (by rw [ea1]; exact True.intro) (.inl rfl) k ⟨_, e3⟩ (exo_ok e3)
      have eu : upd H1 a (exo a C none) = H1 := by
        funext b
        by_cases hb : b = a
        · rw [hb, upd_same, ea1]
        · rw [upd_ne hb]
      rw [eu] at J3
      exact q1 _ J3
    rw [he] at hq1 ⊢
    exact PySem.W.kxs_callWith (i := "ValueError.__init__") (x := a) (first := []) (by show (false || (backTo pos (starEach es X.env)).any (·.1)) = false; rw [hpl]; rfl) (Calls.evalArgs_plain hq1)
end
end W1
set_option maxRecDepth 100000
set_option maxHeartbeats 2000000
namespace W1
open PySem PySem.Spec PyProof.Rows L2 NdefX
section
variable {P : Program} {w : World} {K : PySem.W.Frag} {mg : Str → Option Value} {base : Heap}
/-- such a def keeps its promise -/
theorem fn_sup {x qual : Str} {st : Stmt} {C f cc cd : Addr} {N ps : List Str} {k : Nat} {sp : Sp} {ar : Arg} {p0 p1 p2 p3 p4 : Pos} {e : Expr} {es : List Expr} {rest : List Stmt} (T : SupC P K mg x qual st C f cc cd)
    (S : NScope N ps ["__class__"] (defScope st)) (hst : defBody st = .Expr (.Call (.Attribute (.Call (.Name "super" p0) [] [] p1) "__init__" p2) (e :: es) [] p3) p4 :: rest)
    (hp : ((defArgs st).posonlyargs ++ (defArgs st).args).head? = some ar) (hN : N[0]? = some ar.arg) (hn1 : (ar.arg == ("__classdict__" : Str)) = false) (hpa : ar.arg ∈ ps)
    (hks : (defScope st).names.lookup ("super" : Str) = some .globalImplicit)
    (len : ∀ vs H Q E, sp vs H Q E → vs.length = ps.length)
    (pl : ∀ env : Env, env.scope = defScope st → ∃ pl : Sem Bool, eval (.Call (.Attribute (.Call (.Name "super" p0) [] [] p1) "__init__" p2) (e :: es) [] p3) env = (do
      let ov ← attributeBase (.Call (.Name "super" p0) [] [] p1) "__init__" env (eval (.Call (.Name "super" p0) [] [] p1) env)
      standAt p2.atName
      let (f, first) ← holding [ov] (getMethod ov "__init__" pl)
      callWith p3 f first (backTo p3 (starEach (e :: es) env)) []))
    (hsw : ∀ env : Env, env.scope = defScope st → swapsWith (.Call (.Attribute (.Call (.Name "super" p0) [] [] p1) "__init__" p2) (e :: es) [] p3) none p4.line env = pure false)
    (hse : ∀ env : Env, env.scope = defScope st → starEach (e :: es) env = (false, eval e env) :: starEach es env ∧ (backTo p3 (starEach es env)).any (·.1) = false)
    (hbody : ∀ (A : Around) (outer : List Env) (s : Shared) (H : Hp) (vs : List V) (Q : VK) (E : XK), Room k (A.deeper (envF (supF qual st cc cd) f s.heap.objs.size)) → sp vs H Q E →
      ∃ a ta t, vs[0]? = some (.ref a) ∧ H a = some (exo a C none) ∧ PA (ncx (L2.CX P w) P w K mg base N (supF qual st cc cd) f A outer s H E) (e :: es) ta ∧ PSs (ncx (L2.CX P w) P w K mg base N (supF qual st cc cd) f A outer s H E) rest t ∧
        ta (startF N vs [none]) H fun us H1 => us.length ≤ 1000 ∧ H1 a = some (exo a C none) ∧ t { nx := fun _ H' => Q .non H', rt := Q } (startF N vs [none]) H1) :
    ∃ fd, (∃ doc pm ctv, fd = (supF qual st cc cd).fd doc pm ctv) ∧ FnOk P w K mg base (L2.CX P w) (k + 1) f fd ps sp := by
  obtain ⟨oc, od, doc, pm, ctv, osl, lk⟩ := T.fn
  refine ⟨_, ⟨doc, pm, ctv, rfl⟩, len, fun A outer s H args us vs Q E hr e0 hb r hsp => ?_⟩
  have KX : K.In s.heap := e0.mod.kin.keeps fun b o e => (e0.bs b o e).1
  have hl := len _ _ _ _ hsp
  have lim : s.heap.NoLimit := e0.mod.nolimit.keeps fun b o e => (e0.bs b o e).1
  obtain ⟨ct, cld, csl, hcell⟩ := T.cell
  refine ks_codeAny_call_defAt (body := defBody st) hr.depth (KX _ _ lk) rfl lim (PySem.W.codeRec_of KX T.hcd) rfl hb S.nocell (fun ⟨n, _⟩ hy => S.par n (List.of_mem_zip hy).1) (fun h₁ hns kp => ?_) S.co S.gen S.kind
  show PySem.wpAt (model P w) (A.deeper (envF (supF qual st cc cd) f s.heap.objs.size)) (.func (defBody st) (envF (supF qual st cc cd) f s.heap.objs.size)) (execs (defBody st) (envF (supF qual st cc cd) f s.heap.objs.size)) _ _ _
  have hcc : H cc = none := (e0.bs cc _ (e0.mod.kin _ _ hcell)).2
  have Cs : CellsAt (supF qual st cc cd).cl ["__class__"] [none] s.heap H := by
    refine ⟨rfl, fun y c h => ?_, fun y z c h1 h2 => ?_, fun i y h => ?_⟩
    · have h' : [(("__class__" : Str), cc)].lookup y = some c := h
      by_cases hy : y = "__class__"
      · subst hy
        rw [List.lookup_cons_self] at h'
        cases h'
        exact ⟨hcc, _, _, KX _ _ hcell, rfl⟩
      · rw [List.lookup_cons, show (y == ("__class__" : Str)) = false by simpa using hy] at h'
        cases h'
    · have k1 : ∀ {y : Str}, [(("__class__" : Str), cc)].lookup y = some c → y = "__class__" := fun {y} h => by
        by_cases hy : y = "__class__"
        · exact hy
        · rw [List.lookup_cons, show (y == ("__class__" : Str)) = false by simpa using hy] at h
          cases h
      rw [k1 h1, k1 h2]
    · match i, h with
      | 0, h =>
        cases h
        exact ⟨cc, List.lookup_cons_self, fun v z => by cases z⟩
      | i + 1, h => simp at h
  have I := inv_startN (CX := L2.CX P w) (f := f) (E := E) (tk := s.toks + (ps.zip us).length) S hr.hd e0 hl r Cs hns kp
  obtain ⟨a, ta, t, hv0, ea, hpa1, hrest, hq⟩ := hbody A outer s H vs Q E (hr.deeper _) hsp
  obtain ⟨pl', hpl'⟩ := pl (envF (supF qual st cc cd) f s.heap.objs.size) rfl
  obtain ⟨hse1, hse2⟩ := hse (envF (supF qual st cc cd) f s.heap.objs.size) rfl
  have hσ : (startF N vs [none])[0]? = some (some (V.ref a)) := by
    unfold startF
    have : 0 < vs.length := by
      cases vs with
      | nil => cases hv0
      | cons _ _ => exact Nat.zero_lt_succ _
    rw [List.getElem?_append_left (by rw [List.length_map]; exact this), List.getElem?_map, hv0]
    rfl
  have fin : ∀ {σ' : L2.St} {H' : Hp} {v : V} {u : Value} {s' : Shared}, Inv (ncx (L2.CX P w) P w K mg base N (supF qual st cc cd) f A outer s H E) [] σ' H' s' → L2.RelV v u → Q v H' → CE outer P w H s Q u s' :=
    fun {σ' H' v u s'} J rv q => ⟨v, H', J.os, J.bare, J.base, J.hok, rv, q⟩
  have endR : ∀ fl s', SP (ncx (L2.CX P w) P w K mg base N (supF qual st cc cd) f A outer s H E) [] { nx := fun _ H' => Q .non H', rt := Q } fl s' → CR (L2.CX P w) outer P w H s Q E (.ok (.ret (match fl with | .ret v => v | _ => .none))) s' := fun fl s' hs => by
    cases fl with
    | ret u =>
      obtain ⟨v, σ', H', J, rv, q⟩ := hs
      exact fin J rv q
    | next =>
      obtain ⟨σ', H', J, q⟩ := hs
      exact fin (v := V.non) (u := Value.none) J rfl q
    | brk =>
      obtain ⟨_, _, _, q⟩ := hs
      exact False.elim q
    | cont =>
      obtain ⟨_, _, _, q⟩ := hs
      exact False.elim q
  rw [hst]
  refine ks_wpAt_execs_cons (ks_wpAt_Expr_any ?_ (by simp [interactive, S.kind]) (hsw _ rfl))
  refine ks_wpAt_MethodCall (pl := pl') ?_ hpl'
  refine super_made (X := ncx (L2.CX P w) P w K mg base N (supF qual st cc cd) f A outer s H E) (ar := ar) T I ea hσ hN (Or.inl (S.par _ hpa)) hn1 hks (S.frk _ List.mem_cons_self) rfl rfl List.lookup_cons_self hp fun s1 I1 => ?_
  have hpa2 : PA (ncx (L2.CX P w) P w K mg base N (supF qual st cc cd) f A outer s H E) (e :: es) (fun σ' H' Q' => (σ' = startF N vs [none] ∧ H' = H) ∧ ∀ us H1, (us.length ≤ 1000 ∧ H1 a = some (exo a C none) ∧ t { nx := fun _ H' => Q .non H', rt := Q } (startF N vs [none]) H1) → Q' us H1) :=
    ⟨fun pos pins s σ' H' Q' I z => by
      obtain ⟨⟨rfl, rfl⟩, k⟩ := z
      exact thn (hpa1.run pos pins s _ _ _ I hq) fun us s' ⟨vs', H2, I2, r2, q2⟩ => ⟨vs', H2, I2, r2, k vs' H2 q2⟩⟩
  refine super_init (X := ncx (L2.CX P w) P w K mg base N (supF qual st cc cd) f A outer s H E) T I1 ea hpa2 ⟨⟨rfl, rfl⟩, fun us H1 ⟨h1, h2, h3⟩ => ⟨h1, h2, fun s2 I2 => ?_⟩⟩ hse1 hse2
  refine wpAt_of_wpAny (wpAny_mono (hrest.run [] s2 _ H1 _ I2 h3) (fun fl s' hs => endR fl s' hs) fun e s' hs => hs)
end
end W1
set_option maxRecDepth 100000
set_option maxHeartbeats 2000000
namespace W1
open PySem PySem.Spec PyProof.Rows L2 NdefX

/-- the promise of such an __init__: the one field is stored -/
def spErr (C : Addr) (fld : Str) (Pr : Rl) : Sp := fun vs H Q _ => ∃ a v, vs = [.ref a, v] ∧ H a = some (exo a C none) ∧ Pr.r v H ∧
  ∀ H' d, H d = none → d ≠ a → H' a = some (exo a C (some d)) → H' d = some (exd d [(fld, v)]) → (∀ b o, b ≠ a → H b = some o → H' b = some o) → Q .non H'
/-- an expression that gives some text -/
def Txt1 (X : Cx) (e : Expr) (i : Nat) (Pr : Rl) : Prop := ∃ te, PE X e te ∧ ∀ σ H v, σ[i]? = some (some v) → Pr.r v H → ∀ Q : VK, (∀ y H', Same H H' → Q y H') → te σ H Q
section
variable {P : Program} {w : World} {K : PySem.W.Frag} {mg : Str → Option Value} {base : Heap}
theorem ok_err {x qual y fld : Str} {st : Stmt} {C f cc cd : Addr} {k : Nat} {Pr : Rl} {p0 p1 p2 p3 p4 p5 p6 p7 p8 ps1 ps2 : Pos} {an1 an2 : Option Expr} {e : Expr} (T : SupC P K mg x qual st C f cc cd)
    (S : NScope ([("self" : Str), y, "__class__"] : List Str) ([("self" : Str), y] : List Str) ["__class__"] (defScope st))
    (hst : defBody st = [.Expr (.Call (.Attribute (.Call (.Name "super" p0) [] [] p1) "__init__" p2) [e] [] p3) p4, .Assign [.Attribute (.Name "self" p5) fld p6] (.Name y p7) p8])
    (hp : ((defArgs st).posonlyargs ++ (defArgs st).args).head? = some ⟨"self", an1, ps1⟩) (hks : (defScope st).names.lookup ("super" : Str) = some .globalImplicit) (hno : PySem.W.findIn K (.ref C) fld = some none)
    (hd1 : (y == ("__debug__" : Str)) = false) (hd2 : (y == ("__classdict__" : Str)) = false)
    (pl : ∀ env : Env, env.scope = defScope st → ∃ pl : Sem Bool, eval (.Call (.Attribute (.Call (.Name "super" p0) [] [] p1) "__init__" p2) [e] [] p3) env = (do
      let ov ← attributeBase (.Call (.Name "super" p0) [] [] p1) "__init__" env (eval (.Call (.Name "super" p0) [] [] p1) env)
      standAt p2.atName
      let (f, first) ← holding [ov] (getMethod ov "__init__" pl)
      callWith p3 f first (backTo p3 (starEach [e] env)) []))
    (hsw : ∀ env : Env, env.scope = defScope st → swapsWith (.Call (.Attribute (.Call (.Name "super" p0) [] [] p1) "__init__" p2) [e] [] p3) none p4.line env = pure false)
    (hsw2 : ∀ env : Env, swapsWith (.Name y p7) (some (.Attribute (.Name "self" p5) fld p6)) p8.line env = pure false)
    (hse : ∀ env : Env, env.scope = defScope st → starEach [e] env = (false, eval e env) :: starEach [] env ∧ (backTo p3 (starEach [] env)).any (·.1) = false)
    (htx : ∀ X : Cx, X.K = K → X.mg = mg → X.base = base → X.prog = P → X.w = w → X.N = ([("self" : Str), y, "__class__"] : List Str) → X.env.scope = defScope st → Room k X.A → X.calm = true → Txt1 X e 1 Pr) :
    ∃ fd, (∃ doc pm ctv, fd = (supF qual st cc cd).fd doc pm ctv) ∧ FnOk P w K mg base (L2.CX P w) (k + 1) f fd ([("self" : Str), y] : List Str) (spErr C fld Pr) := by
  refine fn_sup (N := ([("self" : Str), y, "__class__"] : List Str)) (ps := ([("self" : Str), y] : List Str)) T S hst hp rfl (show (("self" : Str) == ("__classdict__" : Str)) = false by decide +kernel) List.mem_cons_self hks (fun vs H Q E h => ?_) pl hsw hse (fun A outer s H vs Q E hr h => ?_)
  · obtain ⟨a, v, rfl, _⟩ := h
    rfl
  · obtain ⟨a, v, rfl, ea, hpr, hq⟩ := h
    obtain ⟨te, hte, htk⟩ := htx (ncx (L2.CX P w) P w K mg base ([("self" : Str), y, "__class__"] : List Str) (supF qual st cc cd) f A outer s H E) rfl rfl rfl rfl rfl rfl rfl hr rfl
    have hs : Loc (defScope st) "self" := .inl (S.par _ List.mem_cons_self)
    have hy : Loc (defScope st) y := .inl (S.par _ (List.mem_cons_of_mem _ List.mem_cons_self))
    refine ⟨a, _, _, rfl, ea, pa_cons hte pa_nil (hse _ rfl).1, pss_one (ps_ost (pe_var (i := 0) rfl (Or.inl (S.par _ List.mem_cons_self))) (pe_var (i := 1) rfl (Or.inl (S.par _ (List.mem_cons_of_mem _ List.mem_cons_self))) hd1 hd2) (hsw2 _)), ?_⟩
    refine htk _ _ v rfl hpr _ fun z H1 s1 => ⟨by show 1 ≤ 1000; decide, s1 _ _ ea, v, rfl, .ref a, rfl, a, C, rfl, T.ox, hno, .inl ⟨s1 _ _ ea, fun d hd hne => ?_⟩⟩
    refine hq _ d (s1.free hd) hne upd_same (by rw [upd_ne hne, upd_same]) fun b o hb e => ?_
    rw [upd_ne hb, upd_ne (ne_of_none (s1 _ _ e) hd)]
    exact s1 _ _ e
end
/-- the error as it flies: its one field -/
def erF (C : Addr) (fld : Str) (R : Rl) : Er := fun cls d G => cls = .ref C ∧ ∃ dd v, d = some dd ∧ G dd = some (.xd [(fld, v)]) ∧ R.r v G
theorem erF_mo {C : Addr} {fld : Str} {R : Rl} : ∀ cls d G G', Same G G' → erF C fld R cls d G → erF C fld R cls d G' := fun cls d G G' s ⟨a, dd, v, b, c, e⟩ => ⟨a, dd, v, b, s _ _ c, R.mo _ _ _ s e⟩
section
variable {F : Fx} {ρ : Ty} {ω w1 : Ow} {K : Kn} {rest : List Stmt} {e : Expr} {R Pr : Rl} {pos pos' p : Pos} {x y qual fld : Str} {st : Stmt} {C f cc cd : Addr} {fd : FuncData} {k : Nat}
theorem hb_raise (ha : AR F ρ ω [e] [R] w1) (hx : K.ex ρ w1 (erF C fld R)) (hPr : ∀ v G, R.r v G → Pr.r v G) (T : SupC F.X.prog F.X.K F.X.mg x qual st C f cc cd) (Fn : FnOk F.X.prog F.X.w F.X.K F.X.mg F.X.base (L2.CX F.X.prog F.X.w) k f fd ([("self" : Str), y] : List Str) (spErr C fld Pr))
    (hr : Room (k + 1) F.X.A) (hb : Binds F.X.K fd ([("self" : Str), y] : List Str) []) (hg : Gl F.X x := by rfl) (hc : F.X.calm = true := by rfl) (hdb : (x == ("__debug__" : Str)) = false := by decide)
    (he : starEach [e] F.X.env = (false, eval e F.X.env) :: starEach [] F.X.env := by rfl) (hpl : (backTo pos (starEach [] F.X.env)).any (·.1) = false := by rfl) :
    HB F ρ ω (.Raise (some (.Call (.Name x p) [e] [] pos)) none pos' :: rest) K := hb_cons fun σ G H D at_ sl ps => by
  refine sw_of (ps_raise hc F.tk (pmk_oex T.ox T.iC T.tI Fn hr hb .nil passL hg T.gC pa_w hdb he hpl)) (ha σ G H at_ sl _ fun vs G1 H1 s1 a1 r1 => ?_)
  obtain ⟨v, rfl, rv⟩ := all1 r1
  refine ⟨by show 1 ≤ 1000; decide, fun a hna => ?_⟩
  have hg0 : G1 a = none := a1.gh.free hna
  have sa : Same G1 (upd H1 a (exo a C none)) := fun b o z => by rw [upd_ne (ne_of_none z hg0)]; exact a1.gh _ _ z
  refine ⟨a, v, rfl, upd_same, Pr.mo _ _ _ sa (hPr _ _ rv), fun H' d hd hne h1 h2 h3 => ⟨rfl, d, _, h1, h2, ?_, ?_⟩⟩
  · rw [upd_ne hne] at hd
    exact hd
  · rw [upd_ne hne] at hd
    have hgd : G1 d = none := a1.gh.free hd
    have st : Step G1 H1 (upd G1 d (.xd [(fld, v)])) (upd (del H' a) d (.xd [(fld, v)])) := by
      refine ⟨fun b o z => by rw [upd_ne (ne_of_none z hgd)]; exact z, fun b o z => ?_, fun b o z => ?_, fun b z1 z2 => ?_⟩
      · have ba : b ≠ a := ne_of_none z hna
        rw [upd_ne (ne_of_none z hd), del_ne ba]
        exact h3 b o ba (by rw [upd_ne ba]; exact z)
      · by_cases hb : b = d
        · subst hb
          rw [upd_same] at z ⊢
          exact z
        · rw [upd_ne hb] at z ⊢
          have ba : b ≠ a := ne_of_none z hg0
          rw [del_ne ba]
          exact h3 b o ba (by rw [upd_ne ba]; exact a1.gh _ _ z)
      · rw [upd_ne (fun z => z1 (by rw [z]; exact hd))]
        exact z2
    exact ps.ex ρ w1 _ hx _ _ σ _ _ (s1.trans st.gg) (a1.step st) (sl.up (s1.trans st.gg)) ⟨rfl, d, v, rfl, upd_same, R.mo _ _ _ st.gg rv⟩
end
/-! ### what an f-string tells: some text -/
def prInt : Rl := ⟨fun v _ => ∃ i : Int, v = .int i ∧ i.natAbs.log2 < 1920, fun _ _ _ _ h => h⟩
def prStr : Rl := ⟨fun v _ => ∃ z : Str, v = .str z ∧ z.length ≤ 100000, fun _ _ _ _ h => h⟩
theorem strlen_app (a b : Str) : (a ++ b).length = a.length + b.length := by
  show (a.cps ++ b.cps).size = a.cps.size + b.cps.size
  rw [Array.size_append]
theorem fmt_int {X : Cx} {e : Expr} {i : Nat} {pos : Pos} {x : Str} (hN : X.N[i]? = some x) (hv : Vis X.env.scope x) (hd : (x == ("__debug__" : Str)) = false) (hcd : (x == ("__classdict__" : Str)) = false) {p1 : Pos} :
    ∃ te, PE X (.FormattedValue (.Name x p1) (-1) none pos) te ∧ ∀ σ H v, σ[i]? = some (some v) → (prInt.r v H ∨ prStr.r v H) → ∀ Q : VK, (∀ y : Str, y.length ≤ 101000 → Q (.str y) H) → te σ H Q :=
  ⟨_, pe_fmt (pe_var hN hv hd hcd), fun σ H v h1 h2 Q q => ⟨v, h1, by
    rcases h2 with ⟨n, rfl, h2⟩ | ⟨z, rfl, h2⟩
    · exact .inr ⟨n, rfl, h2, q _ (Nat.le_trans (int_text_len_1921 h2) (by decide))⟩
    · exact .inl ⟨z, rfl, Nat.le_trans h2 (by decide), q z (Nat.le_trans h2 (by decide))⟩⟩⟩
theorem empty_app (a : Str) : (Str.empty ++ a).length = a.length := by
  rw [strlen_app]
  exact Nat.zero_add _
/-- f"{x} .." -/
theorem txt_fc {X : Cx} {i : Nat} {x t : Str} {p1 p2 p3 p4 : Pos} {j : Nat} (hN : X.N[i]? = some x) (hv : Vis X.env.scope x) (hd : (x == ("__debug__" : Str)) = false) (hcd : (x == ("__classdict__" : Str)) = false) (ht : t.length ≤ 1000) {Pr : Rl} (hPr : ∀ v H, Pr.r v H → prInt.r v H ∨ prStr.r v H) :
    Txt1 X (.JoinedStr [.FormattedValue (.Name x p1) (-1) none p2, .Constant (.str t) j p3] p4) i Pr := by
  obtain ⟨te, h1, h2⟩ := fmt_int (X := X) (e := .Name x p1) (pos := p2) (p1 := p1) hN hv hd hcd
  refine ⟨_, pe_joined (.cons h1 (.cons pe_str .nil)), fun σ H v h3 h4 Q q => ?_⟩
  refine h2 σ H v h3 (hPr _ _ h4) _ fun y hy => ⟨y, rfl, ?_, t, rfl, ?_, q _ _ (Same.refl _)⟩
  · rw [empty_app]
    exact Nat.le_trans hy (by decide)
  · rw [strlen_app, empty_app]
    exact Nat.le_trans (Nat.add_le_add hy ht) (by decide)
end W1
set_option maxRecDepth 100000
set_option maxHeartbeats 2000000
namespace W1
open PySem PySem.Spec PyProof.Rows L2

/-! ### an own class's operators -/
structure OwnM (K : PySem.W.Frag) (C : Addr) (dn : Str) (g : Addr) : Prop where
  at_ : PySem.W.findIn K (.ref C) dn = some (some (.ref g))
  fn : PySem.W.isFn K (.ref g) = true
structure ClsX (K : PySem.W.Frag) (C : Addr) : Prop where
  cls : Cls K C
  first : PySem.W.selfFirst K C = true
  ca : PySem.W.findIn K (.ref C) "__class__" = some (some (.builtin "object.__class__"))
  cn : PySem.W.specialIn K (.builtin "object.__class__") "__get__" = some (some (.builtin "getset_descriptor.__get__"))
  ct : PySem.W.takesIn K (.builtin "object.__class__") = some true
  cm : PySem.W.mroIn K C (.type "object") = some true
section
variable {X : Cx} {pins : List (Addr × Obj)} {σ : L2.St} {H : Hp} {s : Shared} {a C dx g k : Nat} {fs : List (Str × V)} {fd : FuncData} {ps : List Str} {sp : Sp} {E : Value → Shared → Prop}
theorem inst_at (I : Inv X pins σ H s) (e : H a = some (.ins C dx fs)) : ∃ od, PySem.W.InstAt s.heap a (PySem.W.instObj C dx) C (some od) := by
  obtain ⟨mA, O, _, _, _, _⟩ := ins_get I.hok e
  obtain ⟨od, J, _⟩ := O.look
  exact ⟨od, J⟩
/-- a callee that raises nothing, below the running body -/
theorem run_below {A : Around} {Q : VK} {us : List Value} {vs : List V} (F : FnOk X.prog X.w X.K X.mg X.base (L2.CX X.prog X.w) k g fd ps sp) (hr : Room k A) (e0 : Env0 X.prog X.w X.K X.mg X.base A X.stack s H) (hb : Binds X.K fd ps []) (I : Inv X pins σ H s) (r : Vals vs us) (h : sp vs H Q E0)
    (E : Value → Shared → Prop) : wpAny (model X.prog X.w) A (call (.ref g) us) (EP X pins σ Q) E s := by
  have hl : us.length = ps.length := by rw [← r.length]; exact F.len _ _ _ _ h
  have b := hb s us I.kIn (by rw [List.append_nil]; exact hl)
  rw [List.append_nil] at b
  refine wpAny_call (codeAny_mono (F.run A X.stack s H ⟨us, []⟩ us vs Q E0 hr e0 b r h) fun r s' hq => ?_)
  cases r with
  | error e =>
    obtain ⟨_, _, _, _, _, _, _, _, _, _, _, _, z⟩ := hq
    exact z.elim
  | ok fl =>
    cases fl with
    | ret u => exact I.after hq
    | next => exact False.elim hq
    | brk => exact False.elim hq
    | cont => exact False.elim hq
/-- a op b, two instances of the class at C -/
def rOwn2 (C : Addr) (sp : Sp) : R2 := fun x y H Q => ∃ a dx vs b dy ws, x = .ref a ∧ y = .ref b ∧ H a = some (.ins C dx vs) ∧ H b = some (.ins C dy ws) ∧ sp [x, y] H Q E0
theorem op_own2 {op : Operator} (c : ClsX X.K C) (m : OwnM X.K C (PySem.dunder op.info.2) g) (F : FnOk X.prog X.w X.K X.mg X.base (L2.CX X.prog X.w) k g fd ps sp) (hr : Room k X.A) (hb : Binds X.K fd ps []) : OpR X (binaryOp op) (rOwn2 C sp) := by
  intro pins s σ H x y v u Q I rx ry h
  obtain ⟨a, dx, vs, b, dy, ws, rfl, rfl, ha, hb', q⟩ := h
  cases (show v = Value.ref a from rx)
  cases (show u = Value.ref b from ry)
  obtain ⟨od, J⟩ := inst_at I ha
  obtain ⟨od', J'⟩ := inst_at I hb'
  obtain ⟨mm, hF⟩ := I.fr
  refine PySem.W.binop_K hF I.ok.mod.kin J J'.type c.first m.at_ m.fn ?_
  refine wpAny_mono (run_below (us := [.ref a, .ref b]) (vs := [.ref a, .ref b]) F hr I.env0 hb I (.cons rfl (.cons rfl .nil)) q _) (fun w s' z => ?_) fun _ _ x => x
  obtain ⟨z', H', I', rz, qz⟩ := z
  exact SlX.cmpback rz ⟨z', H', I', rz, qz⟩
/-- -a -/
def rOwn1 (C : Addr) (sp : Sp) : V → Hp → VK → Prop := fun x H Q => ∃ a dx vs, x = .ref a ∧ H a = some (.ins C dx vs) ∧ sp [x] H Q E0
theorem op_own1 (m : OwnM X.K C "__neg__" g) (F : FnOk X.prog X.w X.K X.mg X.base (L2.CX X.prog X.w) k g fd ps sp) (hr : Room k X.A) (hb : Binds X.K fd ps []) : UnR X (unaryOp .USub) (rOwn1 C sp) := by
  intro pins s σ H x v Q I rx h
  obtain ⟨a, dx, vs, rfl, ha, q⟩ := h
  cases (show v = Value.ref a from rx)
  obtain ⟨od, J⟩ := inst_at I ha
  obtain ⟨mm, hF⟩ := I.fr
  exact PySem.W.ksp_neg hF I.ok.mod.kin J m.at_ m.fn (run_below (us := [.ref a]) (vs := [.ref a]) F hr I.env0 hb I (.cons rfl .nil) q _)
/-- a == y by an own def; the type of y is no class below C -/
inductive TyE (K : PySem.W.Frag) (H : Hp) : V → Value → Prop where
  | int (i : Int) : TyE K H (.int i) (.type "int")
  | str (z : Str) : TyE K H (.str z) (.type "str")
  | bl (b : Bool) : TyE K H (.bl b) (.type "bool")
  | non : TyE K H .non (.type "NoneType")
  | ins {b D dy : Addr} {ws : List (Str × V)} (h : H b = some (.ins D dy ws)) : TyE K H (.ref b) (.ref D)
  | lst {b : Addr} {xs : List V} (h : H b = some (.lst xs)) : TyE K H (.ref b) (.type "list")
  | tup {b : Addr} {xs : List V} (h : H b = some (.tup xs)) : TyE K H (.ref b) (.type "tuple")
theorem tye_looks {y : V} {u t : Value} (I : Inv X pins σ H s) (r : RelV y u) (h : TyE X.K H y t) : PySem.W.Looks (model X.prog X.w) s.heap (typeOf u) t := by
  cases h with
  | int i => obtain ⟨tk, rfl⟩ := r; exact PySem.W.Looks.of_pure rfl
  | str z => obtain ⟨tk, rfl⟩ := r; exact PySem.W.Looks.of_pure rfl
  | bl b => cases (show u = Value.bool b from r); exact PySem.W.Looks.of_pure rfl
  | non => cases (show u = Value.none from r); exact PySem.W.Looks.of_pure rfl
  | @ins b D dy ws h =>
    cases (show u = Value.ref b from r)
    obtain ⟨od', J'⟩ := inst_at I h
    exact J'.type
  | @lst b xs h =>
    cases (show u = Value.ref b from r)
    obtain ⟨_, its, n, _, e⟩ := (show ObjOk X.prog X.w H s.heap b (.lst xs) from I.hok b _ h)
    exact fun A Q E s k q => wpAny_typeOf_ref (k _ _ e) q
  | @tup b xs h =>
    cases (show u = Value.ref b from r)
    obtain ⟨_, its, _, o, e, c, _⟩ := (show ObjOk X.prog X.w H s.heap b (.tup xs) from I.hok b _ h)
    exact fun A Q E s k q => wpAny_typeOf_ref (k _ _ e) (by rw [c]; exact q)
def rOwnE (K : PySem.W.Frag) (C : Addr) (sp : Sp) : R2 := fun x y H Q => ∃ a dx vs t, x = .ref a ∧ H a = some (.ins C dx vs) ∧ TyE K H y t ∧ PySem.W.notFirst K C t = true ∧ sp [x, y] H Q E0
theorem rc_own {A : Around} {Q : VK} {a : Addr} {y : V} {u t : Value} (m : OwnM X.K C "__eq__" g) (F : FnOk X.prog X.w X.K X.mg X.base (L2.CX X.prog X.w) k g fd ps sp) (hr : Room k A) (e0 : Env0 X.prog X.w X.K X.mg X.base A X.stack s H) (hb : Binds X.K fd ps []) (I : Inv X pins σ H s)
    (ha : H a = some (.ins C dx fs)) (ry : RelV y u) (ty : TyE X.K H y t) (hn : PySem.W.notFirst X.K C t = true) (q : sp [.ref a, y] H Q E0) (E : Value → Shared → Prop) : wpAny (model X.prog X.w) A (richCompare .Eq (.ref a) u) (EP X pins σ Q) E s := by
  obtain ⟨od, J⟩ := inst_at I ha
  obtain ⟨mm, hF⟩ := I.fr
  refine PySem.W.cmp_K (op := .Eq) hr.units0 hF I.ok.mod.kin J (tye_looks I ry ty) hn m.at_ m.fn ?_
  refine wpAny_mono (run_below (us := [.ref a, u]) (vs := [.ref a, y]) F hr e0 hb I (.cons rfl (.cons ry .nil)) q _) (fun w s' z => ?_) fun _ _ x => x
  obtain ⟨z', H', I', rz, qz⟩ := z
  exact SlX.cmpback rz ⟨z', H', I', rz, qz⟩
theorem op_ownE (m : OwnM X.K C "__eq__" g) (F : FnOk X.prog X.w X.K X.mg X.base (L2.CX X.prog X.w) k g fd ps sp) (hr : Room k X.A) (hb : Binds X.K fd ps []) : OpR X (compareOp .Eq) (rOwnE X.K C sp) := by
  intro pins s σ H x y v u Q I rx ry h
  obtain ⟨a, dx, vs, t, rfl, ha, ty, hn, q⟩ := h
  cases (show v = Value.ref a from rx)
  show wpAny _ _ (richCompare .Eq (.ref a) u) _ _ _
  exact rc_own m F hr I.env0 hb I ha ry ty hn q _
/-- bool(a), if a: by an own __bool__ -/
theorem truthy_own {A : Around} {a : Addr} {Q : Bool → Hp → Prop} (m : OwnM X.K C "__bool__" g) (F : FnOk X.prog X.w X.K X.mg X.base (L2.CX X.prog X.w) k g fd ps sp) (hr : Room k A) (e0 : Env0 X.prog X.w X.K X.mg X.base A X.stack s H) (hb : Binds X.K fd ps []) (I : Inv X pins σ H s)
    (ha : H a = some (.ins C dx fs)) (q : sp [.ref a] H (fun v H' => ∃ b, v = .bl b ∧ Q b H') E0) (E : Value → Shared → Prop) : wpAny (model X.prog X.w) A (truthy (.ref a)) (TP X pins σ Q) E s := by
  obtain ⟨od, J⟩ := inst_at I ha
  obtain ⟨mm, hF⟩ := I.fr
  refine PySem.W.truthy_K hF I.ok.mod.kin J m.at_ m.fn ?_
  refine wpAny_mono (run_below (us := [.ref a]) (vs := [.ref a]) F hr e0 hb I (.cons rfl .nil) q _) (fun w s' z => ?_) fun _ _ x => x
  obtain ⟨z', H', I', rz, b, ez, qz⟩ := z
  subst ez
  cases (show w = Value.bool b from rz)
  exact ⟨H', I', qz⟩
def rOwnB (C : Addr) (sp : Sp) : List V → Hp → VK → Prop := fun xs H Q => ∃ a dx vs, xs = [.ref a] ∧ H a = some (.ins C dx vs) ∧ sp [.ref a] H (fun v H' => ∃ b, v = .bl b ∧ Q (.bl b) H') E0
theorem bool_own {A : Around} {Q : Value → Shared → Prop} {E : Value → Shared → Prop} {prog : Program} {w : World} {x : Addr} {s : Shared} (h : wpAny (model prog w) A.in1.in1 (truthy (.ref x)) (fun b s₁ => Q (.bool b) s₁) E s) : wpAny (model prog w) A (call (.type "bool") [.ref x]) Q E s := by
  refine ks_callType_codesW (T := "bool") (Bi := Builtin.«object.__init__») (Q₁ := fun r s₁ => ∃ b, r = Value.bool b ∧ Q r s₁) PySem.F.called_bool (wpAny_of_eq (PySem.F.typeCall_bool_1 _)) PySem.F.entry_object_init ?_ ?_
  · refine codeAny_of_tree ?_
    show wpAny _ A.in1.in1 (do checkBuiltinCall "bool.__new__" ⟨[.type "bool", .ref x], []⟩; again (.builtin "bool.__new__" ⟨[.type "bool", .ref x], []⟩)) _ _ s
    refine wpAny_bind (wpAny_of_eq (PySem.F.newCall_bool_1 _) (wpAny_pure ⟨plainId_quiet (by decide +kernel) _, codeAny_builtin PySem.F.entry_bool_new ?_⟩))
    rw [Around.under_plainId (by decide +kernel) _]
    have f1 := F.conv_sub_bool
    have h2 : ∀ {Q' : Bool → Shared → Prop}, (∀ b s₁, Q (.bool b) s₁ → Q' b s₁) → wpAny (model prog w) A.in1.in1 (truthy (.ref x)) Q' E s := fun k => wpAny_mono h k fun _ _ z => z
    obtain ⟨hp, g, d, tk, os⟩ := s
    repeat (any_goals (first | assumption | (with_reducible refine h2 fun b s₁ hq => ?_) | wp_step))
    all_goals first | exact ⟨_, rfl, hq⟩ | skip
  · rintro obj s₁ ⟨b, rfl, hq⟩
    exact ⟨by first | exact typeIs_bool _ _ | rfl, PySem.F.args_object_init_2 _ _, object_init_meets PySem.F.called_bool.init.lookup PySem.F.called_bool.made (by decide) prog w A.in1 _ s₁ ⟨by first | exact typeIs_bool _ _ | rfl, rfl, hq⟩⟩
theorem call_ownB (m : OwnM X.K C "__bool__" g) (F : FnOk X.prog X.w X.K X.mg X.base (L2.CX X.prog X.w) k g fd ps sp) (hr : Room (k + 2) X.A) (hb : Binds X.K fd ps []) : CallR X (.type "bool") (rOwnB C sp) := by
  intro pins s σ H xs us Q I r h
  obtain ⟨a, dx, vs, rfl, ha, q⟩ := h
  obtain ⟨u, rfl, ru⟩ := vals1 r
  cases (show u = Value.ref a from ru)
  refine bool_own (wpAny_mono (truthy_own (Q := fun b H' => Q (.bl b) H') m F (show Room k X.A.in1.in1 from (show Room (k + 1) X.A.in1 from hr.in1).in1) I.env0.in1.in1 hb I ha q _) (fun b s' z => ?_) fun _ _ x => x)
  obtain ⟨H', I', qz⟩ := z
  exact ⟨.bl b, H', I', rfl, qz⟩
/-- a test that is such an object -/
theorem pt_own {e : Expr} {te : TE} (he : PE X e te) (m : OwnM X.K C "__bool__" g) (F : FnOk X.prog X.w X.K X.mg X.base (L2.CX X.prog X.w) k g fd ps sp) (hr : Room k X.A) (hb : Binds X.K fd ps [])
    (hw : ∀ whole, isTrue e X.env whole = (do let v ← whole; standAt e.pos; holding [v] (truthy v)) := by intro _; rfl) :
    PT X e (fun σ H Q => te σ H fun x H1 => ∃ a dx vs, x = .ref a ∧ H1 a = some (.ins C dx vs) ∧ sp [.ref a] H1 (fun v H' => ∃ b, v = .bl b ∧ Q b H') E0) := by
  refine ⟨fun pins s σ H Q I h => ?_⟩
  refine isTrue_plain (thn (he.run pins s σ H _ I h) fun v s1 ⟨x, H1, I1, r1, a, dx, vs, ex, ha, q⟩ => ?_) (hw _)
  subst ex
  cases (show v = Value.ref a from r1)
  exact truthy_own m F hr I1.env0 hb I1 ha q _
/-- C.m(..), m a classmethod -/
def tCMethS (C : Addr) (sp : Sp) (E : L2.St → XK) (ta : TE) (t : TA) : TE := fun σ H Q => ta σ H fun x H1 => x = .ref C ∧ t σ H1 fun vs H2 => sp (.ref C :: vs) H2 Q (E σ)
theorem pe_cmethS {o e : Expr} {es : List Expr} {m : Str} {apos pos : Pos} {ta : TE} {t : TA} {pl : Sem Bool} {mc : Value} {p : Addr} {CX : CXT} {E : L2.St → XK} (he : PE X o ta) (r : ClX.CRead X.K C mc) (c : ClX.CMet X.K C mc m p g) (F : FnOk X.prog X.w X.K X.mg X.base CX k g fd ps sp) (hr : Room k X.A) (hb : Binds X.K fd ps [])
    (hx : ∀ σ, PassesAt CX X σ (E σ)) (ha : PA X (e :: es) t)
    (hst : starEach (e :: es) X.env = (false, eval e X.env) :: starEach es X.env := by rfl) (hpl : (backTo pos (starEach es X.env)).any (·.1) = false := by rfl)
    (ht : eval (.Call (.Attribute o m apos) (e :: es) [] pos) X.env = (do
      let ov ← eval o X.env
      standAt apos.atName
      let (f, first) ← holding [ov] (getMethod ov m pl)
      callWith pos f first (backTo pos (starEach (e :: es) X.env)) (backToKw pos (keywordEach [] X.env))) := by rfl) :
    PE X (.Call (.Attribute o m apos) (e :: es) [] pos) (tCMethS C sp E ta t) := by
  refine ⟨fun pins s σ H Q I h => ?_⟩
  refine PySem.W.methodCall_KW (pl := pl) (thn (he.run pins s σ H _ I h) fun u s1 ⟨x, H1, I1, rx, ex, q⟩ => ?_) ht
  subst ex
  obtain rfl : u = Value.ref C := rx
  refine ClX.getmethcm_ok I1 r c fun s2 I2 => ?_
  refine ClX.callwith_cm I2 (ClX.base_none I1 (Nat.le_refl _)) c.fi (thn (ha.run pos _ s2 σ H1 _ I2 q) fun us s3 ⟨vs, H2, I3, rv, q2⟩ => ⟨⟨ClX.pin_at I3, I3.kIn⟩, ?_⟩) hst hpl
  have hl : (Value.ref C :: us).length = ps.length := by
    have e := (show Vals (V.ref C :: vs) (Value.ref C :: us) from .cons rfl rv).length
    rw [← e]
    exact F.len _ _ _ _ q2
  have b := hb s3 (Value.ref C :: us) I3.kIn (by rw [List.append_nil]; exact hl)
  rw [List.append_nil] at b
  have z : wpAny (model X.prog X.w) X.A (call (.ref s1.heap.objs.size) us) (EP X ((s1.heap.objs.size, PySem.W.methodObj (.ref g) (.ref C)) :: pins) σ Q) X.xe s3 := by
    refine wpAny_call (PySem.W.method_call (ClX.pin_at I3) (codeAny_mono (F.run X.A X.stack s3 H2 ⟨.ref C :: us, []⟩ (.ref C :: us) (.ref C :: vs) Q (E σ) hr I3.env0 b (.cons rfl rv) q2) fun r s' hq => ?_))
    cases r with
    | error e => exact hx σ _ H2 s3 e s' I3 hq
    | ok fl =>
      cases fl with
      | ret u => exact I3.after hq
      | next => exact False.elim hq
      | brk => exact False.elim hq
      | cont => exact False.elim hq
  exact thn z fun _ _ y => ClX.unpinE y
end

section
variable {F : Fx} {ρ : Ty} {ω w w1 w2 wc wc' : Ow} {e o : Expr} {es : List Expr} {A B R S : Rl} {Rs : List Rl} {P : Er} {pos p apos : Pos} {x m : Str} {k : Nat} {f C g pc : Addr} {fd : FuncData} {ps : List Str} {pre : Pre} {fs gs : List (Str × Rl)} {b : Bool}
theorem mk1 {v : V} {H : Hp} (h : R.r v H) : All2 [R] [v] H := ⟨h, trivial⟩
theorem mk2 {u v : V} {H : Hp} (h : R.r u H) (h' : S.r v H) : All2 [R, S] [u, v] H := ⟨h, h', trivial⟩
theorem mkc {v : V} {vs : List V} {H : Hp} (h : R.r v H) (h' : All2 Rs vs H) : All2 (R :: Rs) (v :: vs) H := ⟨h, h'⟩
theorem sp_ok0 {vs : List V} {G H : Hp} {Q : VK} (at_ : At F w G H) (hv : All2 Rs vs G) (hp : pre Rs [] (.ok R) []) (q : ∀ v G2 H2, Same G G2 → At F w G2 H2 → R.r v G2 → Q v H2) {E : XK} : spM pre vs H Q E := sp_ok (wc := []) (w := w) at_ hv hp rfl q
theorem bop_own {op : Operator} (hp : pre [rIns C fs, rIns C gs] [] (.ok R) []) (Fn : FnOk F.X.prog F.X.w F.X.K F.X.mg F.X.base (L2.CX F.X.prog F.X.w) k g fd ps (spM pre)) (c : ClsX F.X.K C) (m : OwnM F.X.K C (PySem.dunder op.info.2) g) (hr : Room k F.X.A) (hb : Binds F.X.K fd ps []) :
    Bop F w (binaryOp op) (rIns C fs) (rIns C gs) R := ⟨_, op_own2 c m Fn hr hb, fun x y G H at_ hx hy Q q => by
  obtain ⟨a, dx, vs, rfl, h1, h2⟩ := id hx
  obtain ⟨b, dy, ws, rfl, h3, h4⟩ := id hy
  exact ⟨a, dx, vs, b, dy, ws, rfl, rfl, at_.gh _ _ h1, at_.gh _ _ h3, sp_ok0 at_ (mk2 hx hy) hp q⟩⟩
theorem uop_own (hp : pre [rIns C fs] [] (.ok R) []) (Fn : FnOk F.X.prog F.X.w F.X.K F.X.mg F.X.base (L2.CX F.X.prog F.X.w) k g fd ps (spM pre)) (m : OwnM F.X.K C "__neg__" g) (hr : Room k F.X.A) (hb : Binds F.X.K fd ps []) :
    Uop F w (unaryOp .USub) (rIns C fs) R := ⟨_, op_own1 m Fn hr hb, fun x G H at_ hx Q q => by
  obtain ⟨a, dx, vs, rfl, h1, h2⟩ := id hx
  exact ⟨a, dx, vs, rfl, at_.gh _ _ h1, sp_ok0 at_ (mk1 hx) hp q⟩⟩
/-- the type of what is compared with -/
def TyR (K : PySem.W.Frag) (B : Rl) (t : Value) : Prop := ∀ v G H, Same G H → B.r v G → TyE K H v t
theorem tyr_ins {K : PySem.W.Frag} : TyR K (rIns C fs) (.ref C) := fun v G H s h => by
  obtain ⟨a, dx, vs, rfl, h1, h2⟩ := h
  exact .ins (s _ _ h1)
theorem tyr_lst {K : PySem.W.Frag} {Rs : List Rl} : TyR K (rLst Rs) (.type "list") := fun v G H s h => by
  obtain ⟨a, vs, rfl, h1, h2⟩ := h
  exact .lst (s _ _ h1)
theorem bop_ownE {t : Value} (hp : pre [rIns C fs, B] [] (.ok R) []) (ht : TyR F.X.K B t) (hn : PySem.W.notFirst F.X.K C t = true) (Fn : FnOk F.X.prog F.X.w F.X.K F.X.mg F.X.base (L2.CX F.X.prog F.X.w) k g fd ps (spM pre)) (m : OwnM F.X.K C "__eq__" g) (hr : Room k F.X.A) (hb : Binds F.X.K fd ps []) :
    Bop F w (compareOp .Eq) (rIns C fs) B R := ⟨_, op_ownE m Fn hr hb, fun x y G H at_ hx hy Q q => by
  obtain ⟨a, dx, vs, rfl, h1, h2⟩ := id hx
  exact ⟨a, dx, vs, t, rfl, at_.gh _ _ h1, ht y G H at_.gh hy, hn, sp_ok0 at_ (mk2 hx hy) hp q⟩⟩
theorem cop_ownB (hp : pre [rIns C fs] [] (.ok (rBool b)) []) (Fn : FnOk F.X.prog F.X.w F.X.K F.X.mg F.X.base (L2.CX F.X.prog F.X.w) k g fd ps (spM pre)) (m : OwnM F.X.K C "__bool__" g) (hr : Room (k + 2) F.X.A) (hb : Binds F.X.K fd ps []) :
    Cop F w (.type "bool") [rIns C fs] (rBool b) := ⟨_, call_ownB m Fn hr hb, fun xs G H at_ hx Q q => by
  obtain ⟨x, rfl, hx1⟩ := all1 hx
  obtain ⟨a, dx, vs, rfl, h1, h2⟩ := id hx1
  exact ⟨a, dx, vs, rfl, at_.gh _ _ h1, sp_ok0 (Rs := [rIns C fs]) at_ (mk1 hx1) hp fun v G2 H2 s a2 r => ⟨b, r, q _ G2 H2 s a2 rfl⟩⟩⟩
theorem tr_own (he : ER F ρ ω e (rIns C fs) w) (hp : pre [rIns C fs] [] (.ok (rBool b)) []) (Fn : FnOk F.X.prog F.X.w F.X.K F.X.mg F.X.base (L2.CX F.X.prog F.X.w) k g fd ps (spM pre)) (m : OwnM F.X.K C "__bool__" g) (hr : Room k F.X.A) (hb : Binds F.X.K fd ps [])
    (hw : ∀ whole, isTrue e F.X.env whole = (do let v ← whole; standAt e.pos; holding [v] (truthy v)) := by intro _; rfl) : TR F ρ ω e b w := fun σ G H at_ sl Q q => by
  refine tw_of (pt_own pe_w m Fn hr hb hw) (he σ G H at_ sl _ fun v G2 H2 s a r => ?_)
  obtain ⟨x, dx, vs, rfl, h1, h2⟩ := id r
  exact ⟨x, dx, vs, rfl, a.gh _ _ h1, sp_ok0 (Rs := [rIns C fs]) a (mk1 r) hp fun v G3 H3 s3 a3 r3 => ⟨b, r3, q G3 H3 (s.trans s3) a3⟩⟩
theorem er_cmeth {mc : Value} {pl : Sem Bool} (ho : ER F ρ ω o (rRef C) w1) (ha : AR F ρ w1 (e :: es) Rs w) (hp : pre (rRef C :: Rs) [] (.ok R) []) (Fn : FnOk F.X.prog F.X.w F.X.K F.X.mg F.X.base (L2.CX F.X.prog F.X.w) k g fd ps (spM pre)) (hr : Room k F.X.A) (r : ClX.CRead F.X.K C mc) (c : ClX.CMet F.X.K C mc m pc g) (hb : Binds F.X.K fd ps [])
    (hst : starEach (e :: es) F.X.env = (false, eval e F.X.env) :: starEach es F.X.env := by rfl) (hpl : (backTo pos (starEach es F.X.env)).any (·.1) = false := by rfl)
    (ht : eval (.Call (.Attribute o m apos) (e :: es) [] pos) F.X.env = (do
      let ov ← eval o F.X.env
      standAt apos.atName
      let (f, first) ← holding [ov] (getMethod ov m pl)
      callWith pos f first (backTo pos (starEach (e :: es) F.X.env)) (backToKw pos (keywordEach [] F.X.env))) := by rfl) : ER F ρ ω (.Call (.Attribute o m apos) (e :: es) [] pos) R w := fun σ G H at_ sl Q q => by
  refine ew_of (pe_cmethS pe_w r c Fn hr hb passW pa_w hst hpl ht) (ho σ G H at_ sl _ fun v G1 H1 s1 a1 r1 => ⟨r1, ha σ G1 H1 a1 (sl.up s1) _ fun vs G2 H2 s2 a2 r2 => ?_⟩)
  exact sp_ok0 (Rs := rRef C :: Rs) a2 (mkc rfl r2) hp fun v G3 H3 s3 a3 r3 => q v G3 H3 ((s1.trans s2).trans s3) a3 r3
/-- isinstance(x, C) -/
theorem cop_isIns (c : ClsX F.X.K C) : Cop F w (.builtin "isinstance") [rIns C fs, rRef C] (rBool true) := ⟨_, call_isi, fun xs G H at_ hx Q q => by
  obtain ⟨x, y, rfl, hx1, hy⟩ := all2 hx
  cases (show y = V.ref C from hy)
  obtain ⟨a, dx, vs, rfl, h1, h2⟩ := id hx1
  exact ⟨_, _, .ref C, .ref C, true, rfl, .own C, .base (.ins (at_.gh _ _ h1) c.cls c.ca c.cn c.ct c.cm), (by unfold PySem.W.kitOne; rw [if_pos (by simp)]), q _ G H (Same.refl _) at_ rfl⟩⟩
theorem cop_isNot {t : V} {tv : Value} (ht : (∃ i, t = .int i ∧ tv = .type "int") ∨ (∃ z, t = .str z ∧ tv = .type "str") ∨ (∃ k, t = .bl k ∧ tv = .type "bool") ∨ (t = .non ∧ tv = .type "NoneType")) (hk : PySem.W.kitOne F.X.K tv (.ref C) = some b) : Cop F w (.builtin "isinstance") [rEqV t, rRef C] (rBool b) := ⟨_, call_isi, fun xs G H at_ hx Q q => by
  obtain ⟨x, y, rfl, hx1, hy⟩ := all2 hx
  cases (show y = V.ref C from hy)
  cases (show x = t from hx1)
  refine ⟨_, _, tv, .ref C, b, rfl, .own C, .base ?_, hk, q _ G H (Same.refl _) at_ rfl⟩
  rcases ht with ⟨i, rfl, rfl⟩ | ⟨z, rfl, rfl⟩ | ⟨z, rfl, rfl⟩ | ⟨rfl, rfl⟩
  · exact .int i
  · exact .str z
  · exact .bl z
  · exact .non⟩
theorem cop_isLst {Rs : List Rl} (hk : PySem.W.kitOne F.X.K (.type "list") (.ref C) = some b) : Cop F w (.builtin "isinstance") [rLst Rs, rRef C] (rBool b) := ⟨_, call_isi, fun xs G H at_ hx Q q => by
  obtain ⟨x, y, rfl, hx1, hy⟩ := all2 hx
  cases (show y = V.ref C from hy)
  obtain ⟨a, vs, rfl, h1, h2⟩ := id hx1
  exact ⟨_, _, .type "list", .ref C, b, rfl, .own C, .base (.lst (at_.gh _ _ h1)), hk, q _ G H (Same.refl _) at_ rfl⟩⟩
end
end W1
set_option maxRecDepth 100000
set_option maxHeartbeats 2000000
namespace W1
open PySem PySem.Spec PyProof.Rows L2

/-! ### list comprehensions -/
def wipeT (ρ : Ty) : List Nat → Ty
  | [] => ρ
  | v :: vs => (wipeT ρ vs).set v none
theorem Slots.wipe {ρ : Ty} {σ : L2.St} {G : Hp} (s : Slots ρ σ G) : ∀ vs : List Nat, Slots (wipeT ρ vs) (L2.wipe σ vs) G
  | [] => s
  | v :: vs => (Slots.wipe s vs).gone v
/-- a comprehension's target -/
def GEw (g : TG) (vs : List Nat) (ρ : Ty) (S : Rl) (ρ' : Ty) : Prop :=
  ∀ v σ G H (Q : L2.St → Hp → Prop), Same G H → Slots ρ σ G → S.r v G → (∀ σ2, L2.wipe σ2 vs = L2.wipe σ vs → Slots ρ' σ2 G → Q σ2 H) → g v (L2.wipe σ vs) H Q
theorem gew_name {i : Nat} {ρ : Ty} {S : Rl} : GEw (gName i) [i] ρ S ((ρ.set i none).set i (some S)) := fun v σ G H Q s sl r q =>
  q _ (by show ((σ.set i none).set i (some v)).set i none = σ.set i none; rw [List.set_set, List.set_set]) ((sl.gone i).set i r)
def oL (Rs : List Rl) : Ol := ⟨fun o G => ∃ vs, o = .lst vs ∧ All2 Rs vs G, fun _ _ _ e ⟨vs, a, b⟩ => ⟨vs, a, b.up e⟩⟩
/-- a block's context -/
abbrev blkF (F : Fx) (s : Shared) (H : Hp) (scope : Scope) (C : Addr) (cl : List (Str × Addr)) (fp : List Addr) : Fx :=
  ⟨F.X.blk s H scope (compEnvC scope cl C F.X.env) fp, F.G0, F.H0, F.M, fun _ _ _ _ => False, fun _ _ ⟨_, _, _, _, _, _, _, _, _, _, _, _, _, _, _, _, z⟩ => z.elim⟩
theorem At.to {F F' : Fx} {ω : Ow} {G H : Hp} (a : At F ω G H) (h1 : F'.G0 = F.G0 := by rfl) (h2 : F'.H0 = F.H0 := by rfl) (h3 : F'.M = F.M := by rfl) : At F' ω G H := by
  obtain ⟨X, G0, H0, M, W, tk⟩ := F
  obtain ⟨X', G0', H0', M', W', tk'⟩ := F'
  dsimp only at h1 h2 h3
  subst h1 h2 h3
  exact ⟨a.gg, a.hh, a.gh, a.fr, a.mm, a.ow, a.nd⟩
section
variable {F : Fx} {ρ : Ty} {ω w1 : Ow} {tg it elt c : Expr} {pos spos : Pos} {scope : Scope} {own : List (Str × Nat)} {g : TG} {ifs : List Expr} {α : Type}
theorem lc_gen {xs : List α} {A B : α → Rl} {p : α → Bool} {wi : TI} {tt : TT} {ρ' : α → Ty}
    (hwi : ∀ σ G H, At F ω G H → Slots ρ σ G → ∀ R : It → Hp → Prop, (∀ J G2 H2, Same G G2 → At F w1 G2 H2 → Yld J (xs.map A) G2 → R J H2) → wi σ H R) (hz : xs.length ≤ 100000)
    (hge : ∀ (i : Nat) a, xs[i]? = some a → GEw g (own.map (·.2)) ρ (A a) (ρ' a))
    (htt : ∀ (i : Nat) a, xs[i]? = some a → ∀ d σ2 G H, At F (d :: w1) G H → Slots (ρ' a) σ2 G → ∀ Q : Bool → Hp → Prop, (∀ G3 H3, Same G G3 → At F (d :: w1) G3 H3 → Q (p a) H3) → tt σ2 H Q)
    (he : ∀ (i : Nat) a, xs[i]? = some a → p a = true → ∀ s H0 C cl fp d, ER (blkF F s H0 scope C cl fp) (ρ' a) (d :: w1) elt (B a) (d :: w1))
    {σ : L2.St} {G H : Hp} (at_ : At F ω G H) (sl : Slots ρ σ G) {Q : VK} (q : ∀ v G2 H2, Same G G2 → At F w1 G2 H2 → (rLst ((xs.filter p).map B)).r v G2 → Q v H2) :
    tLc wi g tt (fun σ H Q => ∀ s H0 C cl fp, EW (F.X.blk s H0 scope (compEnvC scope cl C F.X.env) fp) elt σ H Q) (own.map (·.2)) σ H Q := by
  refine hwi σ G H at_ sl _ fun J G2 H2 s2 a2 y2 => fun D hD => ?_
  have hM : D ∉ F.M := fun hm => a2.mm D hm hD
  refine ⟨fun i m H => m = xs.length - i ∧ i ≤ xs.length ∧ ∃ G, At F ((D, oL (((xs.take i).filter p).map B)) :: w1) G H ∧ Same G2 G, ⟨xs.length, by simp, Nat.zero_le _, G2, a2.own hD ⟨[], rfl, trivial⟩, Same.refl _⟩, ?_⟩
  rintro i m H1 ⟨rfl, hi, G1, a1, s1⟩
  have hlen : (xs.map A).length = xs.length := List.length_map _
  by_cases hlt : i < xs.length
  · have hgo : xs[i]? = some xs[i] := List.getElem?_eq_getElem hlt
    have htake : xs.take (i + 1) = xs.take i ++ [xs[i]] := by rw [List.take_add_one, hgo]; rfl
    refine .inr ⟨y2.go i G1 H1 s1 a1.gh (by rw [hlen]; exact hlt), fun H' => ∃ G, At F ((D, oL (((xs.take (i + 1)).filter p).map B)) :: w1) G H' ∧ Same G2 G, fun H' z => ⟨xs.length - (i + 1), by omega, rfl, hlt, z⟩, fun x H' y => ?_⟩
    obtain ⟨G3, st, rx⟩ := y2.yld i (A xs[i]) G1 H1 x H' s1 a1.gh (by rw [List.getElem?_map, hgo]; rfl) y
    have a3 := a1.step st
    have s3 := s1.trans st.gg
    refine hge i _ hgo x σ G3 H' _ a3.gh ((sl.up s2).up s3) rx fun σ2 hw sl2 => ⟨hw, htt i _ hgo _ σ2 G3 H' a3 sl2 _ fun G4 H4 s4 a4 => ?_⟩
    cases hp : p xs[i] with
    | false =>
      refine iteF ⟨G4, ?_, s3.trans s4⟩
      rw [htake, List.filter_append, List.filter_cons, hp]
      simp only [Bool.false_eq_true, if_false, List.filter_nil, List.append_nil]
      exact a4
    | true =>
      refine iteT fun s H0 C cl fp => he i _ hgo hp s H0 C cl fp _ σ2 G4 H4 a4.to (sl2.up s4) _ fun v G5 H5 s5 a5' r5 => ?_
      have a5 : At F ((D, oL (((xs.take i).filter p).map B)) :: w1) G5 H5 := a5'.to
      obtain ⟨_, _, o, h1, vs, rfl, h2⟩ := a5.ow _ List.mem_cons_self
      have hl2 : vs.length ≤ xs.length := by
        rw [← h2.len, List.length_map]
        exact Nat.le_trans (List.length_filter_le _ _) (List.length_take_le _ _ |> fun z => Nat.le_trans z hi)
      refine ⟨vs, h1, Nat.lt_of_le_of_lt (Nat.le_trans hl2 hz) (by decide), G5, ?_, (s3.trans s4).trans s5⟩
      rw [htake, List.filter_append, List.filter_cons, hp]
      simp only [if_true, List.filter_nil, List.map_append, List.map_cons, List.map_nil]
      exact a5.chg ⟨_, rfl, h2.app (mk1 r5)⟩
  · have e : i = xs.length := by omega
    subst e
    refine .inl ⟨by have := y2.stop G1 H1 s1 a1.gh; rw [hlen] at this; exact this, ?_⟩
    rw [List.take_length] at a1
    obtain ⟨hg0, _, o, h1, vs, rfl, h2⟩ := a1.ow _ List.mem_cons_self
    have a5 := a1.pub h1 (At.own0 a1 hM)
    have sg : Same G1 (upd G1 D (.lst vs)) := fun b u e => by rw [upd_ne (ne_of_none e hg0)]; exact e
    exact q _ _ _ ((s2.trans s1).trans sg) a5 ⟨D, vs, rfl, upd_same, h2.up sg⟩
theorem filt_true {xs : List α} : xs.filter (fun _ => true) = xs := by
  induction xs with
  | nil => rfl
  | cons a l ih => rw [List.filter_cons, if_pos rfl, ih]
/-- [elt for tg in it] -/
theorem er_lc {xs : List α} {A B : α → Rl} {ρ' : α → Ty} (hit : IT F ρ ω tg it (xs.map A) w1) (hz : xs.length ≤ 100000) (own : List (Str × Nat)) (ok : BlkOk F.X.N F.X.env.scope scope own)
    (hpg : ∀ (s : Shared) (H : Hp) (C : Addr) (cl : List (Str × Addr)) (fp : List Addr), PG (F.X.blk s H scope (compEnvC scope cl C F.X.env) fp) tg g) (hge : ∀ (i : Nat) a, xs[i]? = some a → GEw g (own.map (·.2)) ρ (A a) (ρ' a))
    (he : ∀ (i : Nat) a, xs[i]? = some a → ∀ s H0 C cl fp d, ER (blkF F s H0 scope C cl fp) (ρ' a) (d :: w1) elt (B a) (d :: w1))
    (hN : F.X.N.Nodup) (hc : F.X.calm = true := by rfl) (hs : ∀ z, foldedSetIterable it F.X.env z = pure z := by intro _; rfl) : ER F ρ ω (.ListComp elt [⟨tg, it, [], 0⟩] scope pos) (rLst (xs.map B)) w1 := fun σ G H at_ sl Q q => by
  obtain ⟨wi, hpi, hwi⟩ := hit
  refine ew_of (pe_lc hc hN hpi ok hpg (fun _ _ _ _ _ => pts_nil) (te := fun σ H Q => ∀ s H0 C cl fp, EW (F.X.blk s H0 scope (compEnvC scope cl C F.X.env) fp) elt σ H Q) (fun _ _ _ _ _ => ⟨fun pins s σ H Q I h => h _ _ _ _ _ pins s I⟩) hs) ?_
  refine lc_gen (p := fun _ => true) (tt := tYes) hwi hz hge (fun i a h d σ2 G H a1 s1 Q q => q G H (Same.refl _) a1) (fun i a h _ => he i a h) at_ sl fun v G2 H2 s2 a2 r2 => q v G2 H2 s2 a2 ?_
  rw [filt_true] at r2
  exact r2
/-- [elt for tg in it if c] -/
theorem er_lcf {xs : List α} {A B : α → Rl} {p : α → Bool} {ρ' : α → Ty} (hit : IT F ρ ω tg it (xs.map A) w1) (hz : xs.length ≤ 100000) (own : List (Str × Nat)) (ok : BlkOk F.X.N F.X.env.scope scope own)
    (hpg : ∀ (s : Shared) (H : Hp) (C : Addr) (cl : List (Str × Addr)) (fp : List Addr), PG (F.X.blk s H scope (compEnvC scope cl C F.X.env) fp) tg g) (hge : ∀ (i : Nat) a, xs[i]? = some a → GEw g (own.map (·.2)) ρ (A a) (ρ' a))
    (ht : ∀ (i : Nat) a, xs[i]? = some a → ∀ s H0 C cl fp d, TR (blkF F s H0 scope C cl fp) (ρ' a) (d :: w1) c (p a) (d :: w1))
    (he : ∀ (i : Nat) a, xs[i]? = some a → p a = true → ∀ s H0 C cl fp d, ER (blkF F s H0 scope C cl fp) (ρ' a) (d :: w1) elt (B a) (d :: w1))
    (hN : F.X.N.Nodup) (hc : F.X.calm = true := by rfl) (hs : ∀ z, foldedSetIterable it F.X.env z = pure z := by intro _; rfl) : ER F ρ ω (.ListComp elt [⟨tg, it, [c], 0⟩] scope pos) (rLst ((xs.filter p).map B)) w1 := fun σ G H at_ sl Q q => by
  obtain ⟨wi, hpi, hwi⟩ := hit
  refine ew_of (pe_lc hc hN hpi ok hpg (fun _ _ _ _ _ => pts_one (t := fun σ H Q => ∀ s H0 C cl fp, TW (F.X.blk s H0 scope (compEnvC scope cl C F.X.env) fp) c σ H Q) ⟨fun pins s σ H Q I h => h _ _ _ _ _ pins s I⟩) (te := fun σ H Q => ∀ s H0 C cl fp, EW (F.X.blk s H0 scope (compEnvC scope cl C F.X.env) fp) elt σ H Q) (fun _ _ _ _ _ => ⟨fun pins s σ H Q I h => h _ _ _ _ _ pins s I⟩) hs) ?_
  exact lc_gen hwi hz hge (fun i a h d σ2 G H a1 s1 Q q => fun s H0 C cl fp => ht i a h s H0 C cl fp d σ2 G H a1.to s1 Q fun G3 H3 s3 a3 => q G3 H3 s3 a3.to) (fun i a h hp => he i a h hp) at_ sl q
/-- y = [..] -/
theorem hb_setLc {K : Kn} {rest : List Stmt} {y : Str} {py : Pos} {xs : List α} {A B : α → Rl} {ρ' : α → Ty} (j : Nat) (hit : IT F ρ ω tg it (xs.map A) w1) (hz : xs.length ≤ 100000) (own : List (Str × Nat)) (ok : BlkOk F.X.N F.X.env.scope scope own)
    (hpg : ∀ (s : Shared) (H : Hp) (C : Addr) (cl : List (Str × Addr)) (fp : List Addr), PG (F.X.blk s H scope (compEnvC scope cl C F.X.env) fp) tg g) (hge : ∀ (i : Nat) a, xs[i]? = some a → GEw g (own.map (·.2)) ρ (A a) (ρ' a))
    (he : ∀ (i : Nat) a, xs[i]? = some a → ∀ s H0 C cl fp d, ER (blkF F s H0 scope C cl fp) (ρ' a) (d :: w1) elt (B a) (d :: w1)) (h : HB F (ρ.set j (some (rLst (xs.map B)))) w1 rest K)
    (hN : F.X.N.Nodup) (hsw : swapsWith (.ListComp elt [⟨tg, it, [], 0⟩] scope pos) (some (.Name y py)) spos.line F.X.env = pure true) (hc : F.X.calm = true := by rfl) (hy : F.X.N[j]? = some y := by rfl) (hyl : F.X.env.scope.names.lookup y = some .local := by rfl) (hs : ∀ z, foldedSetIterable it F.X.env z = pure z := by intro _; rfl) :
    HB F ρ ω (.Assign [.Name y py] (.ListComp elt [⟨tg, it, [], 0⟩] scope pos) spos :: rest) K := hb_cons fun σ G H D at_ sl ps => by
  obtain ⟨wi, hpi, hwi⟩ := hit
  refine sw_of (ps_setLc hc hN hy hyl hsw hpi ok hpg (fun _ _ _ _ _ => pts_nil) (te := fun σ H Q => ∀ s H0 C cl fp, EW (F.X.blk s H0 scope (compEnvC scope cl C F.X.env) fp) elt σ H Q) (fun _ _ _ _ _ => ⟨fun pins s σ H Q I h => h _ _ _ _ _ pins s I⟩) hs) ?_
  refine lc_gen (p := fun _ => true) (tt := tYes) hwi hz hge (fun i a h d σ2 G H a1 s1 Q q => q G H (Same.refl _) a1) (fun i a h _ => he i a h) at_ sl fun v G2 H2 s2 a2 r2 => ?_
  rw [filt_true] at r2
  exact h _ G2 H2 D a2 ((sl.up s2).set j r2) (ps.up s2)
end
end W1
set_option maxRecDepth 100000
set_option maxHeartbeats 2000000
namespace W1Q
open PySem PySem.SeqAt
open AutoSeq1 (wpAny_loadPart')
open MeetsSeq MeetsSeq2 MeetsSeq3 SeqRoads2

/-- all of k answers from the i-th on -/
def allFrom (e : Nat → Bool) : Nat → Nat → Bool
  | _, 0 => true
  | i, k + 1 => e i && allFrom e (i + 1) k
abbrev lstO (items : Array Value) (n : Nat) : Obj := { cls := .type "list", data := .seq items n }
theorem past {xs : Array Value} {i : Nat} (h : xs.size ≤ i) : xs[((i : Nat) : Int).toNat]? = none := Array.getElem?_eq_none h
theorem here {xs : Array Value} {i : Nat} (h : i < xs.size) : xs[((i : Nat) : Int).toNat]? = some xs[i] := Array.getElem?_eq_getElem h
section
variable {prog : Program} {w : World} {A : Around} {R : Result → Shared → Prop} {l b : Addr} {e : Nat → Bool} {I : Nat → Shared → Prop}
/-- two lists at l and b of N items each; whatever a comparison changes keeps I -/
def Two (prog : Program) (w : World) (A : Around) (E : Value → Shared → Prop) (l b : Addr) (N : Nat) (e : Nat → Bool) (I : Nat → Shared → Prop) : Prop :=
  ∀ i s, I i s → ∃ (xs ys : Array Value) (m n : Nat), s.heap.get? l = some (lstO xs m) ∧ s.heap.get? b = some (lstO ys n) ∧ xs.size = N ∧ ys.size = N ∧
    ∀ (h1 : i < xs.size) (h2 : i < ys.size), wpAny (model prog w) A (eqBool xs[i] ys[i]) (fun r s' => r = e i ∧ I (i + 1) s') E s
/-- the two comparisons, by one bit: false is ==, true is != -/
def bit (neg : Bool) : Int := if neg then 3 else 2
/-- the comparison's loop, both kinds at once; k items are left -/
theorem cmp_go (neg : Bool) {N : Nat} (T : Two prog w A.in1 (fun v s' => R (.error v) s') l b N e I) : ∀ (k i : Nat), i + k = N → ∀ s, I i s → (∀ j s', I j s' → R (.ok (.ret (.bool (neg != allFrom e i k)))) s') →
    wpAny (model prog w) A.in1 (Builtin.«list.__eq__.loop» ⟨[.ref l, .ref b, rawInt i, rawInt (bit neg)], []⟩) (GQ.FinOf prog w A R) (fun v s' => R (.error v) s') s
  | 0, i, hk, s, h, fin => by
    obtain ⟨xs, ys, m, n, gx, gy, zx, zy, -⟩ := T i s h
    have last := fin i s h
    cases s
    cases neg
    all_goals
      wp_walk using wpAny_loadPart' gx, wpAny_loadPart' gy
      rw [past (by omega : xs.size ≤ i), past (by omega : ys.size ≤ i)]
      wp_walk using wpAny_loadPart' gx, wpAny_loadPart' gy
    · show R (.ok (.ret (.bool (xs.size == ys.size)))) _
      rw [zx, zy, beq_self_eq_true]
      exact last
    · show R (.ok (.ret (.bool (xs.size != ys.size)))) _
      rw [zx, zy, bne_self_eq_false]
      exact last
  | k + 1, i, hk, s, h, fin => by
    obtain ⟨xs, ys, m, n, gx, gy, zx, zy, ask⟩ := T i s h
    have ix : i < xs.size := by omega
    have iy : i < ys.size := by omega
    have asked := ask ix iy
    have goes : e i = true → ∀ s2, I (i + 1) s2 → wpAny (model prog w) A.in1 (Builtin.«list.__eq__.loop» ⟨[.ref l, .ref b, rawInt ((i + 1 : Nat) : Int), rawInt (bit neg)], []⟩) (GQ.FinOf prog w A R) (fun v s' => R (.error v) s') s2 := fun he s2 h2 =>
      cmp_go neg T k (i + 1) (by omega) s2 h2 fun j s' z => by
        have := fin j s' z
        rw [allFrom, he, Bool.true_and] at this
        exact this
    have ends : e i = false → ∀ s2, I (i + 1) s2 → R (.ok (.ret (.bool neg))) s2 := fun he s2 h2 => by
      have := fin _ s2 h2
      rw [allFrom, he, Bool.false_and, Bool.bne_false] at this
      exact this
    have read2 : ∀ s2, I (i + 1) s2 → ∃ (us vs : Array Value) (m' n' : Nat), s2.heap.get? l = some (lstO us m') ∧ s2.heap.get? b = some (lstO vs n') ∧ i < us.size ∧ i < vs.size := fun s2 h2 => by
      obtain ⟨us, vs, m', n', g1, g2, z1, z2, -⟩ := T _ s2 h2
      exact ⟨us, vs, m', n', g1, g2, by omega, by omega⟩
    clear ask fin h
    cases s
    cases neg
    all_goals
      wp_walk using wpAny_loadPart' gx, wpAny_loadPart' gy
      rw [here ix, here iy]
      refine wpAny_bind (wpAny_mono asked (fun r s2 got => ?_) fun _ _ x => x)
      obtain ⟨rfl, h2⟩ := got
      obtain ⟨us, vs, m', n', g1, g2, j1, j2⟩ := read2 s2 h2
      cases he : e i
    all_goals first
      | (have fine := ends he s2 h2
         cases s2
         wp_walk using wpAny_loadPart' g1, wpAny_loadPart' g2
         rw [here j1, here j2]
         wp_walk
         exact fine)
      | (have next := goes he s2 h2
         cases s2
         wp_walk
         refine ⟨plainId_quiet plain_eq_loop _, codeAny_builtin entry_eq_loop ?_⟩
         rw [Around.under_plainId plain_eq_loop _]
         exact next)
end
section
variable {prog : Program} {w : World} {A : Around} {E : Value → Shared → Prop} {s : Shared} {l b : Addr} {e : Nat → Bool} {I : Nat → Shared → Prop} {Q : Value → Shared → Prop}
/-- what the loop says, as the whole comparison's word -/
theorem cmp_whole (neg : Bool) {N : Nat} (T : Two prog w A.in1 E l b N e I) (h : I 0 s) (fin : ∀ j s', I j s' → Q (.bool (neg != allFrom e 0 N)) s') :
    wpAny (model prog w) A.in1 (Builtin.«list.__eq__.loop» ⟨[.ref l, .ref b, rawInt (0 : Nat), rawInt (bit neg)], []⟩) (GQ.FinOf prog w A (wants (fun v s' => v ≠ .notImplemented ∧ Q v s') E)) (fun v s' => wants (fun v s' => v ≠ .notImplemented ∧ Q v s') E (.error v) s') s :=
  cmp_go neg T N 0 (Nat.zero_add N) s h fun j s' z => ⟨Value.noConfusion, fin j s' z⟩
/-- the call up to the loop, both kinds -/
theorem cmp_call (neg : Bool) {xs ys : Array Value} {m n : Nat} (gx : s.heap.get? l = some (lstO xs m)) (gy : s.heap.get? b = some (lstO ys n)) (sz : xs.size = ys.size)
    (h : wpAny (model prog w) A.in1 (Builtin.«list.__eq__.loop» ⟨[.ref l, .ref b, rawInt (0 : Nat), rawInt (bit neg)], []⟩) (GQ.FinOf prog w A (wants (fun v s' => v ≠ .notImplemented ∧ Q v s') E)) (fun v s' => wants (fun v s' => v ≠ .notImplemented ∧ Q v s') E (.error v) s') s) (hu : A.units < cLine) :
    wpAny (model prog w) A (richCompare (if neg then .NotEq else .Eq) (.ref l) (.ref b)) Q E s := by
  have same : ¬ (xs.size != ys.size) = true := by rw [sz, bne_self_eq_false]; exact Bool.false_ne_true
  have sub := AutoSeq1.sub_list_list
  cases neg
  · refine wpAny_richCompare_same_room ⟨_, gx, rfl⟩ ⟨_, gy, rfl⟩ F.slot_list_eq (GQ.call_here F.slot_list_eq ⟨_, gx, rfl⟩ F.entry_list_eq (F.args_list_eq_2 _ _) ?_) hu
    cases s
    wp_walk using wpAny_loadPart' gx, wpAny_loadPart' gy
    refine ⟨plainId_quiet plain_eq_loop _, codeAny_builtin entry_eq_loop ?_⟩
    rw [Around.under_plainId plain_eq_loop _]
    exact h
  · refine wpAny_richCompare_same_room ⟨_, gx, rfl⟩ ⟨_, gy, rfl⟩ F.slot_list_ne (GQ.call_here F.slot_list_ne ⟨_, gx, rfl⟩ F.entry_list_ne (F.args_list_ne_2 _ _) ?_) hu
    cases s
    wp_walk using wpAny_loadPart' gx, wpAny_loadPart' gy
    refine ⟨plainId_quiet plain_eq_loop _, codeAny_builtin entry_eq_loop ?_⟩
    rw [Around.under_plainId plain_eq_loop _]
    exact h
/-- lists of unlike lengths -/
theorem cmp_unlike (neg : Bool) {xs ys : Array Value} {m n : Nat} (gx : s.heap.get? l = some (lstO xs m)) (gy : s.heap.get? b = some (lstO ys n)) (sz : xs.size ≠ ys.size) (q : Q (.bool neg) s) (hu : A.units < cLine) :
    wpAny (model prog w) A (richCompare (if neg then .NotEq else .Eq) (.ref l) (.ref b)) Q E s := by
  have differ : (xs.size != ys.size) = true := bne_iff_ne.mpr sz
  have sub := AutoSeq1.sub_list_list
  cases neg
  · refine wpAny_richCompare_same_room ⟨_, gx, rfl⟩ ⟨_, gy, rfl⟩ F.slot_list_eq (GQ.call_here F.slot_list_eq ⟨_, gx, rfl⟩ F.entry_list_eq (F.args_list_eq_2 _ _) ?_) hu
    cases s
    wp_walk using wpAny_loadPart' gx, wpAny_loadPart' gy
    exact ⟨Value.noConfusion, q⟩
  · refine wpAny_richCompare_same_room ⟨_, gx, rfl⟩ ⟨_, gy, rfl⟩ F.slot_list_ne (GQ.call_here F.slot_list_ne ⟨_, gx, rfl⟩ F.entry_list_ne (F.args_list_ne_2 _ _) ?_) hu
    cases s
    wp_walk using wpAny_loadPart' gx, wpAny_loadPart' gy
    exact ⟨Value.noConfusion, q⟩
theorem rc_any (neg : Bool) (hu : A.units < cLine) {N : Nat} (T : Two prog w A.in1 E l b N e I) (h : I 0 s) (fin : ∀ j s', I j s' → Q (.bool (neg != allFrom e 0 N)) s') : wpAny (model prog w) A (richCompare (if neg then .NotEq else .Eq) (.ref l) (.ref b)) Q E s := by
  obtain ⟨xs, ys, m, n, gx, gy, zx, zy, -⟩ := T 0 s h
  exact cmp_call neg gx gy (zx.trans zy.symm) (cmp_whole neg T h fin) hu
theorem rc_list (hu : A.units < cLine) {N : Nat} (T : Two prog w A.in1 E l b N e I) (h : I 0 s) (fin : ∀ j s', I j s' → Q (.bool (allFrom e 0 N)) s') : wpAny (model prog w) A (richCompare .Eq (.ref l) (.ref b)) Q E s :=
  rc_any false hu T h fun j s' z => by rw [Bool.false_bne]; exact fin j s' z
theorem rcn_list (hu : A.units < cLine) {N : Nat} (T : Two prog w A.in1 E l b N e I) (h : I 0 s) (fin : ∀ j s', I j s' → Q (.bool (!allFrom e 0 N)) s') : wpAny (model prog w) A (richCompare .NotEq (.ref l) (.ref b)) Q E s :=
  rc_any true hu T h fun j s' z => by rw [Bool.true_bne]; exact fin j s' z
theorem rc_listL (hu : A.units < cLine) {xs ys : Array Value} {m n : Nat} (gx : s.heap.get? l = some (lstO xs m)) (gy : s.heap.get? b = some (lstO ys n)) (sz : xs.size ≠ ys.size) (q : Q (.bool false) s) : wpAny (model prog w) A (richCompare .Eq (.ref l) (.ref b)) Q E s := cmp_unlike false gx gy sz q hu
theorem rcn_listL (hu : A.units < cLine) {xs ys : Array Value} {m n : Nat} (gx : s.heap.get? l = some (lstO xs m)) (gy : s.heap.get? b = some (lstO ys n)) (sz : xs.size ≠ ys.size) (q : Q (.bool true) s) : wpAny (model prog w) A (richCompare .NotEq (.ref l) (.ref b)) Q E s := cmp_unlike true gx gy sz q hu
end
end W1Q
set_option maxRecDepth 100000
set_option maxHeartbeats 2000000
namespace W1
open PySem PySem.Spec PyProof.Rows L2

/-! ### == inside built-ins -/
structure Below (X : Cx) (n : Nat) (A : Around) : Prop where
  room : Room n A
  fr : A.frames = X.A.frames
theorem Below.in1 {X : Cx} {n : Nat} {A : Around} (s : Below X (n + 1) A) : Below X n A.in1 := ⟨s.room.in1, s.fr⟩
theorem Below.mono {X : Cx} {n m : Nat} {A : Around} (s : Below X n A) (h : m ≤ n) : Below X m A := ⟨s.room.mono h, s.fr⟩
theorem Below.env {X : Cx} {n : Nat} {A : Around} {pins : List (Addr × Obj)} {σ : L2.St} {H : Hp} {s : Shared} (b : Below X n A) (I : Inv X pins σ H s) : Env0 X.prog X.w X.K X.mg X.base A X.stack s H := by
  have e := I.env0
  exact ⟨by rw [b.fr]; exact e.frames, e.mod, e.bs, e.bsz, e.funs, e.frf, e.hok, e.bare⟩
def EqB (X : Cx) (n : Nat) (A B : Rl) (b : Bool) : Prop :=
  ∀ (A' : Around) (pins : List (Addr × Obj)) (s : Shared) (σ : L2.St) (G H : Hp) (x y : V) (u v : Value) (E : Value → Shared → Prop), Below X n A' → Inv X pins σ H s → RelV x u → RelV y v → Same G H → A.r x G → B.r y G →
    wpAny (model X.prog X.w) A' (eqBool u v) (fun r s' => r = b ∧ ∃ G' H', Inv X pins σ H' s' ∧ Step G H G' H') E s
section
variable {X : Cx} {n k : Nat} {A B R : Rl} {b : Bool} {C g : Addr} {fd : FuncData} {ps : List Str} {pre : Pre} {fs gs : List (Str × Rl)}
theorem eqb_val {x y : V} (hx : flatV x = true) (hy : flatV y = true) : EqB X 0 (rEqV x) (rEqV y) (eqV x y) := by
  intro A' pins s σ G H x' y' u v E bl I rx ry sg ax ay
  cases (show x' = x from ax)
  cases (show y' = y from ay)
  exact eqAt_V (A := A') (s := s) rx ry hx hy X.prog X.w E _ ⟨rfl, G, H, I, Step.refl sg⟩
theorem EqB.mono {m : Nat} (h : EqB X n A B b) (hn : n ≤ m) : EqB X m A B b := fun A' pins s σ G H x y u v E bl => h A' pins s σ G H x y u v E (bl.mono hn)
theorem eqb_own (hp : pre [rIns C fs, rIns C gs] [] (.ok (rBool b)) []) (hid : ∀ a G, (rIns C fs).r (.ref a) G → (rIns C gs).r (.ref a) G → b = true) (hn : PySem.W.notFirst X.K C (.ref C) = true) (Fn : FnOk X.prog X.w X.K X.mg X.base (L2.CX X.prog X.w) k g fd ps (spM pre))
    (m : OwnM X.K C "__eq__" g) (hb : Binds X.K fd ps []) : EqB X k (rIns C fs) (rIns C gs) b := by
  intro A' pins s σ G H x y u v E bl I rx ry sg ax ay
  obtain ⟨a, dx, vs, rfl, h1, h2⟩ := id ax
  obtain ⟨c, dy, ws, rfl, h3, h4⟩ := id ay
  cases (show u = Value.ref a from rx)
  cases (show v = Value.ref c from ry)
  by_cases hac : a = c
  · subst hac
    have e := hid a G ax ay
    subst e
    unfold eqBool
    refine wpAny_holding ?_
    refine wpAny_ite_split (fun _ => wpAny_bind (wpAny_rule (wpAny_pure ?_))) (fun h => absurd (beq_self_eq_true _) h)
    exact ⟨rfl, G, H, I, Step.refl sg⟩
  · refine GQ.eqBool_refG hac ?_
    have st0 : At ⟨X, G, H, [], fun _ _ _ _ => False, takes0⟩ [] G H := ⟨Same.refl _, fun _ _ _ e => e, sg, fun _ _ e => e, fun _ h => by simp at h, fun _ h => by simp at h, by simp⟩
    refine wpAny_mono (rc_own (A := A') (Q := fun v H' => v = .bl b ∧ ∃ G', Step G H G' H') (y := .ref c) (t := .ref C) m Fn bl.room (bl.env I) hb I (sg _ _ h1) ry (.ins (sg _ _ h3)) hn ?_ E) (fun w s' z => ?_) fun _ _ x => x
    · exact sp_ok0 (Rs := [rIns C fs, rIns C gs]) st0 (mk2 ax ay) hp fun v G2 H2 s2 a2 r2 => ⟨r2, G2, ⟨s2, fun a o e => a2.hh a o (by simp) e, a2.gh, a2.fr⟩⟩
    · obtain ⟨z', H', I', rz, ez, G', st⟩ := z
      subst ez
      exact ⟨b, rz, rfl, G', H', I', st⟩
theorem getOf {Rs : List Rl} {vs : List V} {its : List Value} {H : Hp} (h : All2 Rs vs H) (r : Vals vs its) {i : Nat} (h1 : i < its.toArray.size) : ∃ R v, Rs[i]? = some R ∧ R.r v H ∧ RelV v its.toArray[i] := by
  have hi : i < its.length := by simpa using h1
  have hv : i < vs.length := by rw [r.length]; exact hi
  have hr : i < Rs.length := by rw [h.len]; exact hv
  obtain ⟨v, e1, e2⟩ := h.get (List.getElem?_eq_getElem hr)
  obtain ⟨u, e3, e4⟩ := r.get e1
  rw [List.getElem?_eq_getElem hi] at e3
  cases e3
  exact ⟨_, v, List.getElem?_eq_getElem hr, e2, by simpa using e4⟩
/-- lists: what stays through the turns -/
def LoopW (X : Cx) (pins : List (Addr × Obj)) (σ : L2.St) (G H : Hp) (s' : Shared) : Prop := ∃ G' H', Inv X pins σ H' s' ∧ Step G H G' H'
theorem lst_obj {pins : List (Addr × Obj)} {σ : L2.St} {H : Hp} {s : Shared} {p : Addr} {vs : List V} (I : Inv X pins σ H s) (h : H p = some (.lst vs)) : ∃ its nn, Vals vs its ∧ s.heap.get? p = some (W1Q.lstO its.toArray nn) := by
  obtain ⟨z, its, nn, r, e⟩ := (show ObjOk X.prog X.w H s.heap p (.lst vs) from I.hok p _ h)
  exact ⟨its, nn, r, e⟩
theorem two_of {Rs Ss : List Rl} {e : Nat → Bool} {A' : Around} {E : Value → Shared → Prop} {pins : List (Addr × Obj)} {σ : L2.St} {G H : Hp} {p q : Addr} {vs ws : List V}
    (he : ∀ (i : Nat) R S, Rs[i]? = some R → Ss[i]? = some S → EqB X n R S (e i)) (bl : Below X n A') (hp : H p = some (.lst vs)) (hq : H q = some (.lst ws)) (h1 : All2 Rs vs G) (h2 : All2 Ss ws G) (hsz : Rs.length = Ss.length) :
    W1Q.Two X.prog X.w A' E p q Rs.length e (fun _ s' => LoopW X pins σ G H s') := fun i s' ⟨G1, H1, I1, st1⟩ => by
  obtain ⟨its, nn, r1, o1⟩ := lst_obj I1 (st1.hh _ _ hp)
  obtain ⟨its2, nn2, r2, o2⟩ := lst_obj I1 (st1.hh _ _ hq)
  have l1 := h1.len
  have l2 := h2.len
  have l3 := r1.length
  have l4 := r2.length
  refine ⟨_, _, _, _, o1, o2, by simp only [List.size_toArray]; omega, by simp only [List.size_toArray]; omega, fun hi1 hi2 => ?_⟩
  obtain ⟨R, v, hR, rv, ru⟩ := getOf (h1.up st1.gg) r1 hi1
  obtain ⟨S, w, hS, rw', rx⟩ := getOf (h2.up st1.gg) r2 hi2
  refine wpAny_mono (he i R S hR hS A' pins s' σ G1 H1 v w _ _ E bl I1 ru rx st1.gh rv rw') (fun r s2 z => ?_) fun _ _ x => x
  obtain ⟨hr, G2, H2, I2, st2⟩ := z
  exact ⟨hr, G2, H2, I2, st1.trans st2⟩
/-- == of two lists -/
theorem rcl {Rs Ss : List Rl} {e : Nat → Bool} {A' : Around} {E : Value → Shared → Prop} {pins : List (Addr × Obj)} {s : Shared} {σ : L2.St} {G H : Hp} {p q : Addr} {vs ws : List V} {Q : Value → Shared → Prop}
    (he : ∀ (i : Nat) R S, Rs[i]? = some R → Ss[i]? = some S → EqB X n R S (e i)) (bl : Below X (n + 1) A') (I : Inv X pins σ H s) (sg : Same G H) (hp : G p = some (.lst vs)) (hq : G q = some (.lst ws)) (h1 : All2 Rs vs G) (h2 : All2 Ss ws G)
    (hQ : ∀ s', LoopW X pins σ G H s' → Q (.bool (decide (Rs.length = Ss.length) && W1Q.allFrom e 0 Rs.length)) s') : wpAny (model X.prog X.w) A' (richCompare .Eq (.ref p) (.ref q)) Q E s := by
  have st0 : LoopW X pins σ G H s := ⟨G, H, I, Step.refl sg⟩
  by_cases hsz : Rs.length = Ss.length
  · rw [decide_eq_true hsz, Bool.true_and] at hQ
    exact W1Q.rc_list bl.room.units0 (two_of (pins := pins) (σ := σ) he bl.in1 (sg _ _ hp) (sg _ _ hq) h1 h2 hsz) st0 fun j s' z => hQ s' z
  · rw [decide_eq_false hsz, Bool.false_and] at hQ
    obtain ⟨its, nn, r1, o1⟩ := lst_obj I (sg _ _ hp)
    obtain ⟨its2, nn2, r2, o2⟩ := lst_obj I (sg _ _ hq)
    have l1 := h1.len
    have l2 := h2.len
    have l3 := r1.length
    have l4 := r2.length
    exact W1Q.rc_listL bl.room.units0 o1 o2 (by simp only [List.size_toArray]; omega) (hQ s st0)
theorem rcnl {Rs Ss : List Rl} {e : Nat → Bool} {A' : Around} {E : Value → Shared → Prop} {pins : List (Addr × Obj)} {s : Shared} {σ : L2.St} {G H : Hp} {p q : Addr} {vs ws : List V} {Q : Value → Shared → Prop}
    (he : ∀ (i : Nat) R S, Rs[i]? = some R → Ss[i]? = some S → EqB X n R S (e i)) (bl : Below X (n + 1) A') (I : Inv X pins σ H s) (sg : Same G H) (hp : G p = some (.lst vs)) (hq : G q = some (.lst ws)) (h1 : All2 Rs vs G) (h2 : All2 Ss ws G)
    (hQ : ∀ s', LoopW X pins σ G H s' → Q (.bool (!(decide (Rs.length = Ss.length) && W1Q.allFrom e 0 Rs.length))) s') : wpAny (model X.prog X.w) A' (richCompare .NotEq (.ref p) (.ref q)) Q E s := by
  have st0 : LoopW X pins σ G H s := ⟨G, H, I, Step.refl sg⟩
  by_cases hsz : Rs.length = Ss.length
  · rw [decide_eq_true hsz, Bool.true_and] at hQ
    exact W1Q.rcn_list bl.room.units0 (two_of (pins := pins) (σ := σ) he bl.in1 (sg _ _ hp) (sg _ _ hq) h1 h2 hsz) st0 fun j s' z => hQ s' z
  · rw [decide_eq_false hsz, Bool.false_and] at hQ
    obtain ⟨its, nn, r1, o1⟩ := lst_obj I (sg _ _ hp)
    obtain ⟨its2, nn2, r2, o2⟩ := lst_obj I (sg _ _ hq)
    have l1 := h1.len
    have l2 := h2.len
    have l3 := r1.length
    have l4 := r2.length
    exact W1Q.rcn_listL bl.room.units0 o1 o2 (by simp only [List.size_toArray]; omega) (hQ s st0)
theorem eqb_lst {Rs Ss : List Rl} {e : Nat → Bool} (he : ∀ (i : Nat) R S, Rs[i]? = some R → Ss[i]? = some S → EqB X n R S (e i)) (hid : ∀ a G, (rLst Rs).r (.ref a) G → (rLst Ss).r (.ref a) G → (decide (Rs.length = Ss.length) && W1Q.allFrom e 0 Rs.length) = true) :
    EqB X (n + 1) (rLst Rs) (rLst Ss) (decide (Rs.length = Ss.length) && W1Q.allFrom e 0 Rs.length) := by
  intro A' pins s σ G H x y u v E bl I rx ry sg ax ay
  obtain ⟨p, vs, rfl, h1, h2⟩ := id ax
  obtain ⟨q, ws, rfl, h3, h4⟩ := id ay
  cases (show u = Value.ref p from rx)
  cases (show v = Value.ref q from ry)
  by_cases hac : p = q
  · subst hac
    rw [hid p G ax ay]
    unfold eqBool
    refine wpAny_holding ?_
    refine wpAny_ite_split (fun _ => wpAny_bind (wpAny_rule (wpAny_pure ?_))) (fun h => absurd (beq_self_eq_true _) h)
    exact ⟨rfl, G, H, I, Step.refl sg⟩
  · refine GQ.eqBool_refG hac ?_
    exact rcl he bl I sg h1 h3 h2 h4 fun s' ⟨G', H', I', st⟩ => ⟨_, rfl, rfl, G', H', I', st⟩
end
/-! ### as operators -/
section
variable {F : Fx} {ω w : Ow} {A B R : Rl} {n : Nat}
/-- a rule by what it does -/
theorem bop_sem {f : Value → Value → Sem Value} (h : ∀ pins s σ G H x y u v Q, Inv F.X pins σ H s → RelV x u → RelV y v → Same G H → A.r x G → B.r y G → (∀ z G' H', Step G H G' H' → R.r z G' → Q z H') → wpAny (model F.X.prog F.X.w) F.X.A (f u v) (EP F.X pins σ Q) F.X.xe s) : Bop F w f A B R :=
  ⟨fun x y H Q => ∃ G, Same G H ∧ A.r x G ∧ B.r y G ∧ ∀ z G' H', Step G H G' H' → R.r z G' → Q z H', fun pins s σ H x y v u Q I rx ry ⟨G, sg, ax, ay, q⟩ => h pins s σ G H x y v u Q I rx ry sg ax ay q,
    fun x y G H at_ ax ay Q q => ⟨G, at_.gh, ax, ay, fun z G' H' st rz => q z G' H' st.gg (at_.step st) rz⟩⟩
theorem bop_eqL {Rs Ss : List Rl} {e : Nat → Bool} (he : ∀ (i : Nat) R S, Rs[i]? = some R → Ss[i]? = some S → EqB F.X n R S (e i)) (hr : Room (n + 1) F.X.A) : Bop F w (compareOp .Eq) (rLst Rs) (rLst Ss) (rBool (decide (Rs.length = Ss.length) && W1Q.allFrom e 0 Rs.length)) :=
  bop_sem fun pins s σ G H x y u v Q I rx ry sg ax ay q => by
    obtain ⟨p, vs, rfl, h1, h2⟩ := id ax
    obtain ⟨p2, ws, rfl, h3, h4⟩ := id ay
    cases (show u = Value.ref p from rx)
    cases (show v = Value.ref p2 from ry)
    show wpAny _ _ (richCompare .Eq (.ref p) (.ref p2)) _ _ _
    exact rcl he ⟨hr, rfl⟩ I sg h1 h3 h2 h4 fun s' ⟨G', H', I', st⟩ => ⟨V.bl _, H', I', rfl, q _ G' H' st rfl⟩
theorem bop_neL {Rs Ss : List Rl} {e : Nat → Bool} (he : ∀ (i : Nat) R S, Rs[i]? = some R → Ss[i]? = some S → EqB F.X n R S (e i)) (hr : Room (n + 1) F.X.A) : Bop F w (compareOp .NotEq) (rLst Rs) (rLst Ss) (rBool (!(decide (Rs.length = Ss.length) && W1Q.allFrom e 0 Rs.length))) :=
  bop_sem fun pins s σ G H x y u v Q I rx ry sg ax ay q => by
    obtain ⟨p, vs, rfl, h1, h2⟩ := id ax
    obtain ⟨p2, ws, rfl, h3, h4⟩ := id ay
    cases (show u = Value.ref p from rx)
    cases (show v = Value.ref p2 from ry)
    show wpAny _ _ (richCompare .NotEq (.ref p) (.ref p2)) _ _ _
    exact rcnl he ⟨hr, rfl⟩ I sg h1 h3 h2 h4 fun s' ⟨G', H', I', st⟩ => ⟨V.bl _, H', I', rfl, q _ G' H' st rfl⟩
end
end W1
set_option maxRecDepth 100000
set_option maxHeartbeats 2000000
namespace W1
open PySem PySem.Spec PyProof.Rows L2

/-! ### new things that are owned -/
def EN (F : Fx) (ρ : Ty) (ω : Ow) (e : Expr) (O : Ol) (ω' : Ow) : Prop :=
  ∀ σ G H, At F ω G H → Slots ρ σ G → ∀ Q : VK, (∀ q G2 H2, q ∉ F.M → Same G G2 → At F ((q, O) :: ω') G2 H2 → Q (.ref q) H2) → EW F.X e σ H Q
abbrev PreN := List Rl → Ow → Ol → Ow → Prop
/-- a promise of a new thing -/
def spN (pre : PreN) : Sp := fun vs H Q E => ∃ Rs ω O ω' G, pre Rs ω O ω' ∧ Same G H ∧ All2 Rs vs G ∧ Has ω G H ∧ (keys ω).Nodup ∧ keys ω' = keys ω ∧
  ∀ q G' H', H q = none → StepM (keys ω) G H G' H' → Has ((q, O) :: ω') G' H' → Q (.ref q) H'
def KfN (O : Ol) (ω' : Ow) : Kn where
  rt := fun S w => ∃ q w0, (∀ v G, S.r v G → v = .ref q) ∧ q ∉ keys ω' ∧ w = (q, O) :: (ω' ++ w0)
theorem Has.up {ω : Ow} {G H : Hp} {a : Addr} {O : Ol} (h : Has ((a, O) :: ω) G H) : Has ω G H := fun p hp => h p (List.mem_cons_of_mem _ hp)
theorem Has.some {ω : Ow} {G H : Hp} (h : Has ω G H) {b : Addr} (hb : b ∈ keys ω) : H b ≠ none := by
  obtain ⟨p, hp, e⟩ := List.mem_map.mp hb
  obtain ⟨_, o, z, _⟩ := h p hp
  rw [← e, z]
  simp
theorem At.newcall {F : Fx} {wc wc' w : Ow} {O : Ol} {q : Addr} {G H G' H' : Hp} (a : At F (wc ++ w) G H) (s : StepM (keys wc) G H G' H') (hq : H q = none) (h : Has ((q, O) :: wc') G' H') (hk : keys wc' = keys wc) : q ∉ F.M ∧ At F ((q, O) :: (wc' ++ w)) G' H' := by
  have a' := a.stepM s h.up hk
  have hM : q ∉ F.M := fun hm => a.mm q hm hq
  have h0 : F.H0 q = none := by
    cases e : F.H0 q with
    | none => rfl
    | some u => rw [a.hh q u hM e] at hq; cases hq
  refine ⟨hM, a'.gg, a'.hh, a'.gh, a'.fr, a'.mm, fun p hp => ?_, List.nodup_cons.mpr ⟨fun hm => ?_, a'.nd⟩⟩
  · rcases List.mem_cons.mp hp with rfl | hp
    · obtain ⟨x, z⟩ := h _ List.mem_cons_self
      exact ⟨x, .inl h0, z⟩
    · exact a'.ow p hp
  · have hm' : q ∈ keys (wc ++ w) := by
      have e : keys (wc' ++ w) = keys (wc ++ w) := by unfold keys at hk ⊢; rw [List.map_append, List.map_append, hk]
      rw [← e]
      exact hm
    exact a.has.some hm' hq
theorem fn_okN {P : Program} {w : World} {K : PySem.W.Frag} {mg : Str → Option Value} {base : Heap} {x qual : Str} {st : Stmt} {f : Addr} {fd : FuncData} {N ps : List Str} {k : Nat} {pre : PreN} (Fn : Fun K x qual st f fd) (S : FnScope N ps (defScope st))
    (hl : ∀ Rs ω o ω', pre Rs ω o ω' → Rs.length = ps.length)
    (hb : ∀ (cdv : Value) (A : Around) (outer : List Env) (s : Shared) (H : Hp) (E : XK) (F : Fx), Room k (A.deeper (envOfC qual (defScope st) s.heap.objs.size f cdv)) → F.X = cxOf (L2.CX P w) P w K mg base N qual (defScope st) f cdv A outer s H E →
      ∀ Rs ω o ω', pre Rs ω o ω' → HB F (Rs.map some ++ List.replicate (N.length - Rs.length) none) ω (defBody st) (KfN o ω')) : FnOk P w K mg base (L2.CX P w) (k + 1) f fd ps (spN pre) := by
  refine Fn.okX S (fun vs H Q E h => ?_) (fun cdv A outer s H vs Q E hr h => ?_)
  · obtain ⟨Rs, ω, o, ω', G, hp, _, h2, _⟩ := h
    rw [← h2.len]
    exact hl _ _ _ _ hp
  · obtain ⟨Rs, ω, o, ω', G, hp, hgh, hv, hhas, hnd, hk, hq⟩ := h
    have tk : Takes (cxOf (L2.CX P w) P w K mg base N qual (defScope st) f cdv A outer s H E) (fun cls d _ H => E cls d H) := takes_of rfl rfl rfl rfl
    refine ⟨_, pss_w, hb cdv A outer s H E ⟨cxOf (L2.CX P w) P w K mg base N qual (defScope st) f cdv A outer s H E, G, H, keys ω, fun cls d _ H => E cls d H, tk⟩ hr rfl Rs ω o ω' hp (L2.start N vs) G H _ ?_ ?_ ?_⟩
    · exact ⟨Same.refl _, fun a o _ e => e, hgh, fun a _ e => e, fun a ha => hhas.some ha, fun p hp => let ⟨x, z⟩ := hhas p hp; ⟨x, .inr (List.mem_map_of_mem hp), z⟩, hnd⟩
    · unfold L2.start
      have e := hv.len
      refine ⟨by simp [e], fun i R hi => ?_⟩
      by_cases h : i < Rs.length
      · rw [List.getElem?_append_left (by simpa using h), List.getElem?_map] at hi
        cases h1 : Rs[i]? with
        | none => rw [h1] at hi; cases hi
        | some R' =>
          rw [h1] at hi
          cases hi
          obtain ⟨v, h2, h3⟩ := hv.get h1
          exact ⟨v, by rw [List.getElem?_append_left (by rw [List.length_map, ← e]; exact h), List.getElem?_map, h2]; rfl, h3⟩
      · rw [List.getElem?_append_right (by simpa using h), List.getElem?_replicate] at hi
        split at hi <;> cases hi
    · refine ⟨fun _ _ hk => hk.elim, fun R w1 hr' v G' H' s a r => ?_, fun _ _ hk => hk.elim, fun _ _ hk => hk.elim, fun _ _ _ hk => hk.elim⟩
      obtain ⟨q, w0, h1, h2, rfl⟩ := hr'
      cases h1 v G' r
      have hM : q ∉ keys ω := by rw [← hk]; exact h2
      have a' : At _ (((q, o) :: ω') ++ w0) G' H' := a
      exact hq q G' H' (At.own0 a hM) ⟨a.gg, a.hh, a.gh, a.fr⟩ a'.has.left
theorem All2.set : ∀ {Rs : List Rl} {vs : List V} {H : Hp} {R : Rl} {v : V} (j : Nat), All2 Rs vs H → R.r v H → All2 (Rs.set j R) (vs.set j v) H
  | [], [], _, _, _, _, _, _ => trivial
  | _ :: _, _ :: _, _, _, _, 0, h, r => ⟨r, h.2⟩
  | _ :: _, _ :: _, _, _, _, j + 1, h, r => ⟨h.1, All2.set j h.2 r⟩
  | [], _ :: _, _, _, _, _, h, _ => h.elim
  | _ :: _, [], _, _, _, _, h, _ => h.elim
section
variable {F : Fx} {ρ ρ1 : Ty} {ω w w1 w2 w3 wc wc' : Ow} {e o ix : Expr} {es : List Expr} {R S : Rl} {Rs : List Rl} {O : Ol} {pos p apos : Pos} {x m : Str} {k : Nat} {f : Addr} {fd : FuncData} {ps : List Str} {pre : PreN} {K : Kn} {rest : List Stmt} {q : Addr}
theorem en_lst (h : AR F ρ ω es Rs w1) (hz : Rs.length ≤ 1000) : EN F ρ ω (.List es pos) (oL Rs) w1 := fun σ G H at_ sl Q q => by
  refine ew_of (pe_lst pa_w) (h σ G H at_ sl _ fun vs G2 H2 s a r => ⟨Nat.le_of_lt (small1000 (by rw [← r.len]; exact hz)), fun p hp => ?_⟩)
  exact q p G2 _ (fun hm => a.mm p hm hp) s (a.own hp ⟨vs, rfl, r⟩)
theorem en_call (ha : AR F ρ ω (e :: es) Rs (wc ++ w)) (hp : pre Rs wc O wc') (hk : keys wc' = keys wc) (Fn : FnOk F.X.prog F.X.w F.X.K F.X.mg F.X.base (L2.CX F.X.prog F.X.w) k f fd ps (spN pre)) (hr : Room k F.X.A) (hm : F.X.mg x = some (.ref f))
    (hkp : PySem.W.keepIn F.X.K (.ref f) = true) (hb : Binds F.X.K fd ps []) (hg : Gl F.X x := by rfl) (hdb : (x == ("__debug__" : Str)) = false := by decide) (he : starEach (e :: es) F.X.env = (false, eval e F.X.env) :: starEach es F.X.env := by rfl) (hpl : (backTo pos (starEach es F.X.env)).any (·.1) = false := by rfl) :
    EN F ρ ω (.Call (.Name x p) (e :: es) [] pos) O (wc' ++ w) := fun σ G H at_ sl Q q =>
  ew_of (pe_callS (E := WE F.W) Fn hr hg hm hkp hb passW pa_w hdb he hpl) (ha σ G H at_ sl _ fun vs G2 H2 s a r => ⟨Rs, wc, O, wc', G2, hp, a.gh, r, a.has.left, by have := a.nd; rw [List.map_append] at this; exact (List.nodup_append.mp this).1, hk, fun q' G' H' hq st hh => by
    obtain ⟨hM, a3⟩ := a.newcall st hq hh hk
    exact q q' G' H' hM (s.trans st.gg) a3⟩)
/-- x = a new thing -/
theorem hb_setN (i : Nat) (he : EN F ρ ω e O w1) (h : ∀ q, q ∉ F.M → HB F (ρ.set i (some (rRef q))) ((q, O) :: w1) rest K) (hN : F.X.N.Nodup) (hi : F.X.N[i]? = some x := by rfl) (hx : Loc F.X.env.scope x := by first | exact Or.inl rfl | exact Or.inr rfl)
    (hs : swapsWith e (some (.Name x p)) pos.line F.X.env = pure false := by rfl) (hf : F.X.fn x = true ∨ F.X.env.scope.names.lookup x = some .local := by first | exact .inl rfl | exact .inr rfl | assumption) :
    HB F ρ ω (.Assign [.Name x p] e pos :: rest) K := hb_cons fun σ G H D at_ sl ps =>
  sw_of (ps_set hN hi hx pe_w hs hf) (he σ G H at_ sl _ fun q G2 H2 hM s a => h q hM _ G2 H2 D a ((sl.up s).set i rfl) (ps.up s))
theorem hb_retO (he : EN F ρ ω e O w1) (h : ∀ q, q ∉ F.M → K.rt (rRef q) ((q, O) :: w1)) : HB F ρ ω (.Return (some e) pos :: rest) K := hb_cons fun σ G H D at_ sl ps =>
  sw_of (ps_ret pe_w) (he σ G H at_ sl _ fun q G2 H2 hM s a => ps.rt _ _ (h q hM) _ G2 H2 s a rfl)
/-- what is owned is owned no more -/
theorem hb_pub (i : Nat) (hi : ρ[i]? = some (some (rRef q))) (hM : q ∉ F.M) (hO : ∀ o G, G q = some o → O.c o G → R.r (.ref q) G) (h : HB F (ρ.set i (some R)) w rest K) : HB F ρ ((q, O) :: w) rest K := fun σ G H D at_ sl ps => by
  obtain ⟨hg0, _, o, h1, h2⟩ := at_.ow _ List.mem_cons_self
  have a := at_.pub h1 (At.own0 at_ hM)
  have sg : Same G (upd G q o) := fun b u e => by rw [upd_ne (ne_of_none e hg0)]; exact e
  obtain ⟨v, hv, rv⟩ := sl.at_ i _ hi
  cases (show v = V.ref q from rv)
  have sl2 := (sl.up sg).set i (R := R) (v := .ref q) (hO o _ upd_same (O.mo _ _ _ sg h2))
  have e : σ.set i (some (V.ref q)) = σ := by
    refine List.ext_getElem? fun j => ?_
    by_cases hj : i = j
    · subst hj
      rw [hv]
      exact List.getElem?_set_self (by
        cases Nat.lt_or_ge i σ.length with
        | inl z => exact z
        | inr z => rw [List.getElem?_eq_none z] at hv; cases hv)
    · rw [List.getElem?_set_ne hj]
  rw [e] at sl2
  exact h σ _ H D a sl2 (ps.up sg)
theorem pub_lst : ∀ o G, G q = some o → (oL Rs).c o G → (rLst Rs).r (.ref q) G := fun o G h ⟨vs, e, h2⟩ => ⟨q, vs, rfl, by rw [h, e], h2⟩
/-- l[i] of an owned list -/
theorem er_ixO {i : Int} {n : Nat} (ha : ER F ρ ω o (rRef q) w1) (hb : ER F ρ w1 ix (rInt i) w2) (hm : (q, oL Rs) ∈ w2) (hn : ixN Rs.length i = some n) (hR : Rs[n]? = some R) (hs : PlainIx ix := by exact fun _ _ => rfl) : ER F ρ ω (.Subscript o ix pos) R w2 := fun σ G H at_ sl Q k => by
  refine ew_of (pe_ix ix_list pe_w pe_w hs) (ha σ G H at_ sl _ fun x G1 H1 s1 at1 rx => hb σ G1 H1 at1 (sl.up s1) _ fun y G2 H2 s2 at2 ry => ?_)
  obtain ⟨_, _, ob, h1, vs, e1, h2⟩ := at2.ow _ hm
  subst e1
  obtain ⟨v, h3, h4⟩ := h2.get hR
  refine ⟨q, vs, i, v, rx, ry, SqL.of h1, ?_, k v G2 H2 (s1.trans s2) at2 h4⟩
  unfold atI
  rw [← h2.len, hn]
  exact h3
/-- l[i] = e -/
theorem hb_sub {i : Int} {n : Nat} {p2 : Pos} (he : ER F ρ ω e R w1) (ho : ER F ρ w1 o (rRef q) w2) (hi : ER F ρ w2 ix (rInt i) ((q, oL Rs) :: w3)) (hn : ixN Rs.length i = some n) (h : HB F ρ ((q, oL (Rs.set n R)) :: w3) rest K)
    (ha : ∀ v, assign (.Subscript o ix p2) F.X.env v = (do
      let ov ← holding [v] (eval o F.X.env)
      let iv ← holding [v, ov] (eval ix F.X.env)
      standAt p2
      holding [v, ov, iv] (setItem ov iv v)
      release [v, ov, iv] []) := by intro _; rfl)
    (hs : swapsWithSole [.Subscript o ix p2] e pos.line F.X.env = pure false := by rfl) (hw : swappedStores [.Subscript o ix p2] e F.X.env = pure none := by rfl) (h1 : (assignEach [.Subscript o ix p2] F.X.env).map (·.2) = [assign (.Subscript o ix p2) F.X.env] := by rfl) :
    HB F ρ ω (.Assign [.Subscript o ix p2] e pos :: rest) K := hb_cons fun σ G H D at_ sl ps => by
  refine sw_of (ps_asg pe_w (pg_sub pe_w pe_w set_list ha) hs hw h1) (he σ G H at_ sl _ fun v G1 H1 s1 a1 r1 => ho σ G1 H1 a1 (sl.up s1) _ fun x G2 H2 s2 a2 r2 => hi σ G2 H2 a2 ((sl.up s1).up s2) _ fun y G3 H3 s3 a3 r3 => ?_)
  obtain ⟨_, _, ob, h1', vs, e1, h2⟩ := a3.ow _ List.mem_cons_self
  subst e1
  refine ⟨q, vs, i, n, r2, r3, h1', by rw [← h2.len]; exact hn, ?_⟩
  have s13 := (s1.trans s2).trans s3
  exact h σ G3 _ D (a3.chg ⟨_, rfl, h2.set n (R.mo _ _ _ (s2.trans s3) r1)⟩) (sl.up s13) (ps.up s13)
/-- l.append(e) -/
theorem hb_append (ho : ER F ρ ω o (rRef q) w1) (hm : (q, oL Rs) ∈ w1) (ha : AR F ρ w1 [e] [R] ((q, oL Rs) :: w2)) (hz : Rs.length ≤ 100000) (h : HB F ρ ((q, oL (Rs ++ [R])) :: w2) rest K)
    (hsw : swapsWith (.Call (.Attribute o "append" apos) [e] [] p) none pos.line F.X.env = pure false := by rfl)
    (hbase : attributeBase o "append" F.X.env (eval o F.X.env) = eval o F.X.env := by rfl)
    (hfew : ((backTo p (starEach [e] F.X.env)).all (fun x => !x.1) && (backToKw p (keywordEach [] F.X.env)).all (fun x => x.1.isSome)
      && decide ([e].length + ([] : List Keyword).length + (if ([] : List Keyword).isEmpty then 0 else 1) < 30)) = true := by rfl)
    (hline : (apos.endLine == p.line) = true := by rfl) (hs : starEach [e] F.X.env = (false, eval e F.X.env) :: starEach [] F.X.env := by rfl) (hplain : (backTo p (starEach [] F.X.env)).any (·.1) = false := by rfl) :
    HB F ρ ω (.Expr (.Call (.Attribute o "append" apos) [e] [] p) pos :: rest) K := hb_cons fun σ G H D at_ sl ps => by
  refine sw_of (ps_expr (pe_bm (T := "list") PySem.F.plainAttrs_list PySem.F.slot_list_append PySem.F.type_list_append mt_append pe_w pa_w hbase hfew hline hs hplain) hsw) (ho σ G H at_ sl _ fun x G1 H1 s1 a1 r1 => ?_)
  cases (show x = V.ref q from r1)
  obtain ⟨_, _, ob, h1', vs, e1, h2⟩ := a1.ow _ hm
  subst e1
  refine ⟨.inl ⟨rfl, vs, SqL.of h1'⟩, ha σ G1 H1 a1 (sl.up s1) _ fun us G2 H2 s2 a2 r2 => ?_⟩
  obtain ⟨v, rfl, rv⟩ := all1 r2
  obtain ⟨_, _, ob, h3, ws, e3, h4⟩ := a2.ow _ List.mem_cons_self
  subst e3
  refine ⟨q, ws, v, rfl, rfl, h3, Nat.lt_of_le_of_lt (by rw [← h4.len]; exact hz) (by decide), ?_⟩
  have s12 := s1.trans s2
  exact h σ G2 _ D (a2.chg ⟨_, rfl, h4.app (mk1 rv)⟩) (sl.up s12) (ps.up s12)
/-! the script -/
def rScr (K : PySem.W.Frag) (xs : List V) : Rl := ⟨fun v H => ∃ a, v = .ref a ∧ SqL K H a xs, fun v H H' e ⟨a, h1, h2⟩ => ⟨a, h1, by
  rcases h2 with (h2 | ⟨o, h2⟩) | h2
  · exact .inl (.inl (e _ _ h2))
  · exact .inl (.inr ⟨o, e _ _ h2⟩)
  · exact .inr h2⟩⟩
theorem sql_up {K : PySem.W.Frag} {a : Addr} {xs : List V} {G H : Hp} (e : Same G H) (h : SqL K G a xs) : SqL K H a xs := by
  obtain ⟨b, h1, h2⟩ := (rScr K xs).mo (.ref a) G H e ⟨a, rfl, h⟩
  cases h1
  exact h2
theorem cop_lenS {xs : List V} : Cop F ω (.builtin "len") [rScr F.X.K xs] (rInt (xs.length : Int)) := by
  refine ⟨_, call_len_seq, fun us G H at_ hx Q q => ?_⟩
  obtain ⟨x, rfl, p, rfl, h1⟩ := all1 hx
  exact ⟨p, xs, rfl, .inl (sql_up at_.gh h1), q _ G H (Same.refl _) at_ rfl⟩
theorem iop_S {xs : List V} {i : Int} {v : V} (h : atI xs i = some v) : Iop F ω (rScr F.X.K xs) (rInt i) (rEqV v) :=
  ⟨_, ix_list, fun x y G H at_ hx hy Q q => by
    obtain ⟨p, rfl, h1⟩ := hx
    exact ⟨p, xs, i, v, rfl, hy, sql_up at_.gh h1, h, q v G H (Same.refl _) at_ rfl⟩⟩
/-! [..] * n, tuple(..) -/
theorem all2_flat {H : Hp} {Rs : List Rl} {vs : List V} (h : All2 Rs vs H) : ∀ n, All2 (List.replicate n Rs).flatten (List.replicate n vs).flatten H
  | 0 => trivial
  | n + 1 => by rw [List.replicate_succ, List.replicate_succ, List.flatten_cons, List.flatten_cons]; exact h.app (all2_flat h n)
theorem bop_rep {k : Int} (h1 : -(2 ^ 63) ≤ k) (h2 : k < 2 ^ 63) (hz : Rs.length * k.toNat ≤ 100000) : Bop F ω (binaryOp .Mult) (rLst Rs) (rInt k) (rLst (List.replicate k.toNat Rs).flatten) :=
  ⟨_, op_rep, fun x y G H at_ hx hy Q q => by
    obtain ⟨l, vs, rfl, e1, e2⟩ := hx
    refine ⟨l, k, vs, rfl, hy, at_.gh _ _ e1, h1, h2, Nat.le_trans (by rw [← e2.len]; exact hz) (by decide), fun p hp => ?_⟩
    have st := Step.new (o := .lst (List.replicate k.toNat vs).flatten) at_.gh hp
    exact q _ _ _ st.gg (at_.step st) ⟨p, _, rfl, upd_same, (all2_flat e2 _).up st.gg⟩⟩
theorem cop_tupL : Cop F ω (.type "tuple") [rLst Rs] (rTup Rs) := ⟨_, call_tuple_of, fun xs G H at_ hx Q q => by
  obtain ⟨x, rfl, p, vs, rfl, h1, h2⟩ := all1 hx
  refine ⟨p, vs, rfl, .inl ⟨SqL.of (at_.gh _ _ h1), fun l hl => ?_⟩⟩
  have st := Step.new (o := .tup vs) at_.gh hl
  exact q _ _ _ st.gg (at_.step st) ⟨l, vs, rfl, upd_same, h2.up st.gg⟩⟩
/-! a, b = a list -/
end
/-! ### try -/
/-- a caught exception, with its one field -/
def rExc (a dd : Addr) (fld : Str) (R : Rl) : Rl := ⟨fun v G => v = .ref a ∧ ∃ w, G dd = some (.xd [(fld, w)]) ∧ R.r w G, fun _ _ _ e ⟨h1, w, h2, h3⟩ => ⟨h1, w, e _ _ h2, R.mo _ _ _ e h3⟩⟩
/-- in the suite -/
structure InSuite (F F' : Fx) (a : Addr) (cls : Value) (d : Option Addr) : Prop where
  h : ∃ oe pn, F'.X = F.X.suite a ((a, oe) :: pn) ∧ Zc cls d oe ∧ ∃ vs, oe.data = .fields vs
  g0 : F'.G0 = F.G0
  h0 : F'.H0 = F.H0
  m : F'.M = F.M
structure InTry (F F' : Fx) : Prop where
  h : ∃ pn xe, F'.X = F.X.tr pn xe ∧ PassesOwn (model F.X.prog F.X.w) F.X.A F.X.env xe
  g0 : F'.G0 = F.G0
  h0 : F'.H0 = F.H0
  m : F'.M = F.M
/-- behind the suite of 'except C as n', n in slot i -/
def Kn.suite (K : Kn) (F : Fx) (rest : List Stmt) (i : Nat) : Kn :=
  { nx := fun ρ ω => HB F (ρ.set i none) ω rest K, rt := K.rt, bk := fun ρ ω => K.bk (ρ.set i none) ω, ct := fun ρ ω => K.ct (ρ.set i none) ω }
def Kn.try_ (K : Kn) (F : Fx) (rest : List Stmt) (i : Nat) (c : Value) (suite : List Stmt) : Kn :=
  { nx := fun ρ ω => HB F ρ ω rest K, rt := K.rt, bk := K.bk, ct := K.ct, ex := fun ρ ω P =>
      (∃ C fld R, (∀ cls d G, P cls d G → erF C fld R cls d G) ∧ PySem.W.exmOne F.X.K (.ref C) c = some true ∧ ∀ a dd F', InSuite F F' a (.ref C) (some dd) → HB F' (ρ.set i (some (rExc a dd fld R))) ω suite (K.suite F rest i)) ∨
      ((∀ cls d G, P cls d G → PySem.W.exmOne F.X.K cls c = some false) ∧ K.ex ρ ω P) }
section
variable {F : Fx} {ρ : Ty} {ω w1 : Ow} {K : Kn} {rest body suite : List Stmt} {b₀ : Stmt} {x n : Str} {c : Value} {np pos pos' : Pos}
theorem hb_try_as (i : Nat) (hb : ∀ F', InTry F F' → HB F' ρ ω body (K.try_ F rest i c (b₀ :: suite))) (hs : F.X.stack = F.X.env :: F.X.outer) (hf : F.X.env.frame = some F.X.env.locals) (hN : F.X.N.Nodup) (hc : Names F.X x c)
    (hi : F.X.N[i]? = some n := by rfl) (hln : F.X.env.kindOf n = some .local := by rfl) :
    HB F ρ ω (.Try body [.ExceptHandler (some (.Name x np)) (some n) (b₀ :: suite) pos'] [] [] pos :: rest) K := hb_cons fun σ G H D at_ sl ps => by
  refine sw_of (ps_try_as hs hf hN hi hln hc F.tk (tb := fun W D σ H => ∀ pn xe, Takes (F.X.tr pn xe) W → PassesOwn (model F.X.prog F.X.w) F.X.A F.X.env xe → BW (F.X.tr pn xe) body D σ H) (ts := fun a cls d D σ H => ∀ oe pn, Zc cls d oe → (∃ vs, oe.data = .fields vs) → BW (F.X.suite a ((a, oe) :: pn)) (b₀ :: suite) D σ H)
    (fun W pn xe tk pa => ⟨fun pins s σ H D I h => h pn xe tk pa pins s I⟩) (fun a oe cls d pn z hd => ⟨fun pins s σ H D I h => h oe pn z hd pins s I⟩)) ?_
  intro pn xe tk pa
  refine hb ⟨F.X.tr pn xe, F.G0, F.H0, F.M, _, tk⟩ ⟨⟨pn, xe, rfl, pa⟩, rfl, rfl, rfl⟩ σ G H _ at_.to sl ⟨fun ρ ω k σ' G' H' s a sl => k σ' G' H' D a.to sl (ps.up s), fun R ω k v G' H' s a r => ps.rt R ω k v G' H' s a.to r, fun ρ ω k σ' G' H' s a sl => ps.bk ρ ω k σ' G' H' s a.to sl, fun ρ ω k σ' G' H' s a sl => ps.ct ρ ω k σ' G' H' s a.to sl, fun ρ ω P k cls d σ' G' H' s a sl hP => ?_⟩
  rcases k with ⟨C, fld, R, k1, k2, k3⟩ | ⟨k1, k2⟩
  · obtain ⟨rfl, dd, v, rfl, e1, e2⟩ := k1 _ _ _ hP
    refine ⟨true, k2, fun _ ax hna oe pn' z hd => ?_, fun z => by cases z⟩
    refine k3 ax dd ⟨F.X.suite ax ((ax, oe) :: pn'), F.G0, F.H0, F.M, fun _ _ _ _ => False, fun _ _ ⟨_, _, _, _, _, _, _, _, _, _, _, _, _, _, _, _, z⟩ => z.elim⟩ ⟨⟨oe, pn', rfl, z, hd⟩, rfl, rfl, rfl⟩ _ G' H' _ a.to (sl.set i ⟨rfl, v, e1, e2⟩) ?_
    exact ⟨fun ρ ω k σ' G2 H2 s2 a sl => k _ G2 H2 D a.to (sl.gone i) (ps.up (s.trans s2)), fun R ω k v G2 H2 s2 a r => ps.rt R ω k v G2 H2 (s.trans s2) a.to r, fun ρ ω k σ' G2 H2 s2 a sl => ps.bk _ ω k _ G2 H2 (s.trans s2) a.to (sl.gone i), fun ρ ω k σ' G2 H2 s2 a sl => ps.ct _ ω k _ G2 H2 (s.trans s2) a.to (sl.gone i), fun _ _ _ k => k.elim⟩
  · exact ⟨false, k1 _ _ _ hP, fun z => absurd z Bool.false_ne_true, fun _ => ps.ex ρ ω P k2 cls d σ' G' H' s a.to sl hP⟩
end
section
variable {F F' : Fx} {ρ : Ty} {ω w1 : Ow} {e : Expr} {R : Rl} {a C dd : Addr} {fld : Str} {pos : Pos}
/-- e.f of the caught one -/
theorem er_xf (S : InSuite F F' a (.ref C) (some dd)) (T : XfC F.X.K C) (hno : PySem.W.findIn F.X.K (.ref C) fld = some none) (he : ER F' ρ ω e (rExc a dd fld R) w1) (hb : attributeBase e fld F.X.env (eval e F.X.env) = eval e F.X.env := by rfl) : ER F' ρ ω (.Attribute e fld pos) R w1 := fun σ G H at_ sl Q q => by
  obtain ⟨oe, pn, hX, hz, hd⟩ := S.h
  have z := fun te h => ew_of (X := F.X.suite a ((a, oe) :: pn)) (pe_xf (pn := pn) (te := te) (pos := pos) T hno hz hd h hb) (σ := σ) (H := H) (Q := Q)
  rw [← hX] at z
  refine z _ pe_w (he σ G H at_ sl _ fun v G2 H2 s a r => ?_)
  obtain ⟨rfl, w, h1, h2⟩ := r
  exact ⟨rfl, rfl, dd, _, w, rfl, a.gh _ _ h1, List.lookup_cons_self, q w G2 H2 s a h2⟩
end
end W1
set_option maxRecDepth 100000
set_option maxHeartbeats 2000000
namespace W1
open PySem PySem.Spec PyProof.Rows L2

/-! ### known defs, in one word each -/
section
variable (P : Program) (w : World) (K : PySem.W.Frag) (mg : Str → Option Value) (base : Heap)
/-- a def at the top -/
def Kf1 (x : Str) (k : Nat) (pre : Pre) : Prop := ∃ f fd ps, mg x = some (.ref f) ∧ PySem.W.keepIn K (.ref f) = true ∧ Binds K fd ps [] ∧ FnOk P w K mg base (L2.CX P w) k f fd ps (spM pre)
def KfN1 (x : Str) (k : Nat) (pre : PreN) : Prop := ∃ f fd ps, mg x = some (.ref f) ∧ PySem.W.keepIn K (.ref f) = true ∧ Binds K fd ps [] ∧ FnOk P w K mg base (L2.CX P w) k f fd ps (spN pre)
/-- a method -/
def Km (C : Addr) (m : Str) (k : Nat) (pre : Pre) : Prop := ∃ f fd ps, Meth K C m f ∧ Binds K fd ps [] ∧ FnOk P w K mg base (L2.CX P w) k f fd ps (spM pre)
/-- an operator's method -/
def Ko (C : Addr) (m : Str) (k : Nat) (pre : Pre) : Prop := ∃ f fd ps, OwnM K C m f ∧ Binds K fd ps [] ∧ FnOk P w K mg base (L2.CX P w) k f fd ps (spM pre)
/-- a class that is called -/
def Kc (C : Addr) (x : Str) (k : Nat) (pre : Pre) : Prop := ∃ f fd ps, mg x = some (.ref C) ∧ Mk K C f ∧ Binds K fd ps [] ∧ FnOk P w K mg base (L2.CX P w) k f fd ps (spM pre)
/-- a classmethod -/
def Kcm (C : Addr) (m : Str) (k : Nat) (pre : Pre) : Prop := ∃ f fd ps mc pc, ClX.CRead K C mc ∧ ClX.CMet K C mc m pc f ∧ Binds K fd ps [] ∧ FnOk P w K mg base (L2.CX P w) k f fd ps (spM pre)
/-- an error class of one field -/
def Ke (C : Addr) (x fld : Str) (k : Nat) (Pr : Rl) : Prop := ∃ y qual st f cc cd fd, SupC P K mg x qual st C f cc cd ∧ Binds K fd ([("self" : Str), y] : List Str) [] ∧ FnOk P w K mg base (L2.CX P w) k f fd ([("self" : Str), y] : List Str) (spErr C fld Pr)
end
section
variable {F : Fx} {ρ : Ty} {ω w w1 w2 wc wc' : Ow} {e o a b : Expr} {es : List Expr} {R S : Rl} {Rs : List Rl} {P : Er} {pos p apos pos' : Pos} {x m fld : Str} {k : Nat} {C : Addr} {pre : Pre} {fs gs : List (Str × Rl)} {O : Ol} {K : Kn} {rest : List Stmt} {t : Bool}
theorem er_fn (T : Kf1 F.X.prog F.X.w F.X.K F.X.mg F.X.base x k pre) (hr : Room k F.X.A) (ha : AR F ρ ω (e :: es) Rs (wc ++ w)) (hp : pre Rs wc (.ok R) wc') (hk : keys wc' = keys wc := by rfl)
    (hg : Gl F.X x := by rfl) (hdb : (x == ("__debug__" : Str)) = false := by decide) (he : starEach (e :: es) F.X.env = (false, eval e F.X.env) :: starEach es F.X.env := by rfl) (hpl : (backTo pos (starEach es F.X.env)).any (·.1) = false := by rfl) :
    ER F ρ ω (.Call (.Name x p) (e :: es) [] pos) R (wc' ++ w) := by
  obtain ⟨f, fd, ps, h1, h2, h3, h4⟩ := T
  exact er_call ha hp hk h4 hr h1 h2 h3 hg hdb he hpl
theorem er_fn0 (T : Kf1 F.X.prog F.X.w F.X.K F.X.mg F.X.base x k pre) (hr : Room k F.X.A) (ha : AR F ρ ω (e :: es) Rs w) (hp : pre Rs [] (.ok R) [])
    (hg : Gl F.X x := by rfl) (hdb : (x == ("__debug__" : Str)) = false := by decide) (he : starEach (e :: es) F.X.env = (false, eval e F.X.env) :: starEach es F.X.env := by rfl) (hpl : (backTo pos (starEach es F.X.env)).any (·.1) = false := by rfl) :
    ER F ρ ω (.Call (.Name x p) (e :: es) [] pos) R w := er_fn (wc := []) (wc' := []) T hr ha hp rfl hg hdb he hpl
theorem ex_fn0 (T : Kf1 F.X.prog F.X.w F.X.K F.X.mg F.X.base x k pre) (hr : Room k F.X.A) (ha : AR F ρ ω (e :: es) Rs w) (hp : pre Rs [] (.error P) [])
    (hg : Gl F.X x := by rfl) (hdb : (x == ("__debug__" : Str)) = false := by decide) (he : starEach (e :: es) F.X.env = (false, eval e F.X.env) :: starEach es F.X.env := by rfl) (hpl : (backTo pos (starEach es F.X.env)).any (·.1) = false := by rfl) :
    EX F ρ ω (.Call (.Name x p) (e :: es) [] pos) P w := by
  obtain ⟨f, fd, ps, h1, h2, h3, h4⟩ := T
  exact ex_call (wc := []) (wc' := []) ha hp rfl h4 hr h1 h2 h3 hg hdb he hpl
theorem en_fn {pre : PreN} (T : KfN1 F.X.prog F.X.w F.X.K F.X.mg F.X.base x k pre) (hr : Room k F.X.A) (ha : AR F ρ ω (e :: es) Rs (wc ++ w)) (hp : pre Rs wc O wc') (hk : keys wc' = keys wc := by rfl)
    (hg : Gl F.X x := by rfl) (hdb : (x == ("__debug__" : Str)) = false := by decide) (he : starEach (e :: es) F.X.env = (false, eval e F.X.env) :: starEach es F.X.env := by rfl) (hpl : (backTo pos (starEach es F.X.env)).any (·.1) = false := by rfl) :
    EN F ρ ω (.Call (.Name x p) (e :: es) [] pos) O (wc' ++ w) := by
  obtain ⟨f, fd, ps, h1, h2, h3, h4⟩ := T
  exact en_call ha hp hk h4 hr h1 h2 h3 hg hdb he hpl
theorem er_m {pl : Sem Bool} (T : Km F.X.prog F.X.w F.X.K F.X.mg F.X.base C m k pre) (hc : Cls F.X.K C) (hr : Room k F.X.A) (ho : ER F ρ ω o (rIns C fs) w1) (ha : AR F ρ w1 (e :: es) Rs w) (hp : pre (rIns C fs :: Rs) [] (.ok R) []) (hno : fs.lookup m = none := by rfl)
    (hst : starEach (e :: es) F.X.env = (false, eval e F.X.env) :: starEach es F.X.env := by rfl) (hpl : (backTo pos (starEach es F.X.env)).any (·.1) = false := by rfl)
    (ht : eval (.Call (.Attribute o m apos) (e :: es) [] pos) F.X.env = (do
      let ov ← eval o F.X.env
      standAt apos.atName
      let (f, first) ← holding [ov] (getMethod ov m pl)
      callWith pos f first (backTo pos (starEach (e :: es) F.X.env)) (backToKw pos (keywordEach [] F.X.env))) := by rfl) :
    ER F ρ ω (.Call (.Attribute o m apos) (e :: es) [] pos) R w := by
  obtain ⟨f, fd, ps, h1, h2, h3⟩ := T
  exact er_meth (wc := []) (wc' := []) ho hno ha hp rfl h3 hr hc h1 h2 hst hpl ht
theorem er_m0 {pl : Sem Bool} (T : Km F.X.prog F.X.w F.X.K F.X.mg F.X.base C m k pre) (hc : Cls F.X.K C) (hr : Room k F.X.A) (ho : ER F ρ ω o (rIns C fs) w) (hp : pre [rIns C fs] [] (.ok R) []) (hno : fs.lookup m = none := by rfl)
    (ht : eval (.Call (.Attribute o m apos) [] [] pos) F.X.env = (do
      let ov ← eval o F.X.env
      standAt apos.atName
      let (f, first) ← holding [ov] (getMethod ov m pl)
      callWith pos f first (backTo pos (starEach [] F.X.env)) (backToKw pos (keywordEach [] F.X.env))) := by rfl) :
    ER F ρ ω (.Call (.Attribute o m apos) [] [] pos) R w := by
  obtain ⟨f, fd, ps, h1, h2, h3⟩ := T
  exact er_meth0 (wc := []) (wc' := []) ho hno hp rfl h3 hr hc h1 h2 ht
theorem er_c {fs : List (Str × Rl)} (T : Kc F.X.prog F.X.w F.X.K F.X.mg F.X.base C x k pre) (hr : Room (k + 1) F.X.A) (ha : AR F ρ ω (e :: es) Rs w) (hp : ∀ q, pre (rRef q :: Rs) [(q, oIns C [])] (.ok rNon) [(q, oIns C fs)])
    (hg : Gl F.X x := by rfl) (hdb : (x == ("__debug__" : Str)) = false := by decide) (he : starEach (e :: es) F.X.env = (false, eval e F.X.env) :: starEach es F.X.env := by rfl) (hpl : (backTo pos (starEach es F.X.env)).any (·.1) = false := by rfl) :
    ER F ρ ω (.Call (.Name x p) (e :: es) [] pos) (rIns C fs) w := by
  obtain ⟨f, fd, ps, h1, h2, h3, h4⟩ := T
  exact er_make ha hp h4 hr h2 h1 h3 hg hdb he hpl
theorem ex_c (T : Kc F.X.prog F.X.w F.X.K F.X.mg F.X.base C x k pre) (hr : Room (k + 1) F.X.A) (ha : AR F ρ ω (e :: es) Rs w) (hp : ∀ q, ∃ O, pre (rRef q :: Rs) [(q, oIns C [])] (.error P) [(q, O)]) (hP : ∀ cls d G G', Same G G' → P cls d G → P cls d G')
    (hg : Gl F.X x := by rfl) (hdb : (x == ("__debug__" : Str)) = false := by decide) (he : starEach (e :: es) F.X.env = (false, eval e F.X.env) :: starEach es F.X.env := by rfl) (hpl : (backTo pos (starEach es F.X.env)).any (·.1) = false := by rfl) :
    EX F ρ ω (.Call (.Name x p) (e :: es) [] pos) P w := by
  obtain ⟨f, fd, ps, h1, h2, h3, h4⟩ := T
  exact ex_make ha hp h4 hr h2 h1 h3 hg hdb he hpl hP
theorem er_cm {pl : Sem Bool} (T : Kcm F.X.prog F.X.w F.X.K F.X.mg F.X.base C m k pre) (hr : Room k F.X.A) (ho : ER F ρ ω o (rRef C) w1) (ha : AR F ρ w1 (e :: es) Rs w) (hp : pre (rRef C :: Rs) [] (.ok R) [])
    (hst : starEach (e :: es) F.X.env = (false, eval e F.X.env) :: starEach es F.X.env := by rfl) (hpl : (backTo pos (starEach es F.X.env)).any (·.1) = false := by rfl)
    (ht : eval (.Call (.Attribute o m apos) (e :: es) [] pos) F.X.env = (do
      let ov ← eval o F.X.env
      standAt apos.atName
      let (f, first) ← holding [ov] (getMethod ov m pl)
      callWith pos f first (backTo pos (starEach (e :: es) F.X.env)) (backToKw pos (keywordEach [] F.X.env))) := by rfl) : ER F ρ ω (.Call (.Attribute o m apos) (e :: es) [] pos) R w := by
  obtain ⟨f, fd, ps, mc, pc, h1, h2, h3, h4⟩ := T
  exact er_cmeth ho ha hp h4 hr h1 h2 h3 hst hpl ht
theorem bop_o {op : Operator} (T : Ko F.X.prog F.X.w F.X.K F.X.mg F.X.base C (PySem.dunder op.info.2) k pre) (c : ClsX F.X.K C) (hr : Room k F.X.A) (hp : pre [rIns C fs, rIns C gs] [] (.ok R) []) : Bop F w (binaryOp op) (rIns C fs) (rIns C gs) R := by
  obtain ⟨f, fd, ps, h1, h2, h3⟩ := T
  exact bop_own hp h3 c h1 hr h2
theorem uop_o (T : Ko F.X.prog F.X.w F.X.K F.X.mg F.X.base C "__neg__" k pre) (hr : Room k F.X.A) (hp : pre [rIns C fs] [] (.ok R) []) : Uop F w (unaryOp .USub) (rIns C fs) R := by
  obtain ⟨f, fd, ps, h1, h2, h3⟩ := T
  exact uop_own hp h3 h1 hr h2
theorem bop_oE {B : Rl} {t : Value} (T : Ko F.X.prog F.X.w F.X.K F.X.mg F.X.base C "__eq__" k pre) (hr : Room k F.X.A) (hp : pre [rIns C fs, B] [] (.ok R) []) (ht : TyR F.X.K B t) (hn : PySem.W.notFirst F.X.K C t = true) : Bop F w (compareOp .Eq) (rIns C fs) B R := by
  obtain ⟨f, fd, ps, h1, h2, h3⟩ := T
  exact bop_ownE hp ht hn h3 h1 hr h2
theorem cop_oB (T : Ko F.X.prog F.X.w F.X.K F.X.mg F.X.base C "__bool__" k pre) (hr : Room (k + 2) F.X.A) (hp : pre [rIns C fs] [] (.ok (rBool t)) []) : Cop F w (.type "bool") [rIns C fs] (rBool t) := by
  obtain ⟨f, fd, ps, h1, h2, h3⟩ := T
  exact cop_ownB hp h3 h1 hr h2
theorem tr_o (T : Ko F.X.prog F.X.w F.X.K F.X.mg F.X.base C "__bool__" k pre) (hr : Room k F.X.A) (he : ER F ρ ω e (rIns C fs) w) (hp : pre [rIns C fs] [] (.ok (rBool t)) [])
    (hw : ∀ whole, isTrue e F.X.env whole = (do let v ← whole; standAt e.pos; holding [v] (truthy v)) := by intro _; rfl) : TR F ρ ω e t w := by
  obtain ⟨f, fd, ps, h1, h2, h3⟩ := T
  exact tr_own he hp h3 h1 hr h2 hw
theorem eqb_o (T : Ko F.X.prog F.X.w F.X.K F.X.mg F.X.base C "__eq__" k pre) (hp : pre [rIns C fs, rIns C gs] [] (.ok (rBool t)) []) (hid : ∀ a G, (rIns C fs).r (.ref a) G → (rIns C gs).r (.ref a) G → t = true) (hn : PySem.W.notFirst F.X.K C (.ref C) = true) : EqB F.X k (rIns C fs) (rIns C gs) t := by
  obtain ⟨f, fd, ps, h1, h2, h3⟩ := T
  exact eqb_own hp hid hn h3 h1 h2
theorem hb_err {Pr : Rl} (T : Ke F.X.prog F.X.w F.X.K F.X.mg F.X.base C x fld k Pr) (hr : Room (k + 1) F.X.A) (ha : AR F ρ ω [e] [R] w1) (hx : K.ex ρ w1 (erF C fld R)) (hPr : ∀ v G, R.r v G → Pr.r v G)
    (hg : Gl F.X x := by rfl) (hc : F.X.calm = true := by rfl) (hdb : (x == ("__debug__" : Str)) = false := by decide)
    (he : starEach [e] F.X.env = (false, eval e F.X.env) :: starEach [] F.X.env := by rfl) (hpl : (backTo pos (starEach [] F.X.env)).any (·.1) = false := by rfl) :
    HB F ρ ω (.Raise (some (.Call (.Name x p) [e] [] pos)) none pos' :: rest) K := by
  obtain ⟨y, qual, st, f, cc, cd, fd, h1, h2, h3⟩ := T
  exact hb_raise ha hx hPr h1 h3 hr h2 hg hc hdb he hpl
end
end W1
set_option maxRecDepth 100000
set_option maxHeartbeats 2000000
namespace W1
open PySem PySem.Spec PyProof.Rows L2

/-! ### fractions -/
theorem gcd_step (a b : Nat) (h : b ≠ 0) : Int.gcd (b : Int) ((a % b : Nat) : Int) = Int.gcd (a : Int) (b : Int) := by
  show Nat.gcd b (a % b) = Nat.gcd a b
  rw [Nat.gcd_comm a b, Nat.gcd_rec b a, Nat.gcd_comm]
theorem fmod_nat (a b : Nat) : (a : Int).fmod (b : Int) = ((a % b : Nat) : Int) := by
  rw [Int.fmod_eq_emod_of_nonneg _ (Int.natCast_nonneg b)]
  rfl
theorem abs_nat (a : Int) : (if a < 0 then -a else a) = (a.natAbs : Int) := by
  by_cases h : a < 0
  · rw [if_pos h]; omega
  · rw [if_neg h]; omega
/-- the divisor that __init__ takes -/
def dvs (t b : Int) : Int := if b < 0 then -(Int.gcd t b : Int) else (Int.gcd t b : Int)
theorem dvs_ne {t b : Int} (h : b ≠ 0) : dvs t b ≠ 0 := by
  have : Int.gcd t b ≠ 0 := fun e => h (Int.gcd_eq_zero_iff.mp e).2
  unfold dvs
  split <;> omega
theorem dvs_top {t b : Int} (h : b ≠ 0) : t.fdiv (dvs t b) = (Rat.divInt t b).num := by
  have hd := dvs_ne (t := t) h
  obtain ⟨u, hu⟩ : ((Int.gcd t b : Int)) ∣ t := Int.gcd_dvd_left t b
  have hg : (Int.gcd t b : Int) ≠ 0 := by
    have : Int.gcd t b ≠ 0 := fun e => h (Int.gcd_eq_zero_iff.mp e).2
    omega
  rw [Rat.num_divInt, Int.gcd_comm b t]
  generalize hG : (Int.gcd t b : Int) = g at *
  unfold dvs
  rw [hG]
  by_cases hb : b < 0
  · rw [if_pos hb, Int.sign_eq_neg_one_of_neg hb, hu, show g * u = (-g) * (-u) by rw [Int.neg_mul_neg], Int.mul_fdiv_cancel_left _ (by omega), show -1 * (-g * -u) = g * (-u) by rw [Int.neg_mul_neg, Int.mul_neg]; omega, Int.mul_ediv_cancel_left _ hg]
  · rw [if_neg hb, Int.sign_eq_one_of_pos (by omega), hu, Int.mul_fdiv_cancel_left _ hg, Int.one_mul, Int.mul_ediv_cancel_left _ hg]
theorem dvs_bot {t b : Int} (h : b ≠ 0) : b.fdiv (dvs t b) = ((Rat.divInt t b).den : Int) := by
  have hd := dvs_ne (t := t) h
  obtain ⟨u, hu⟩ : ((Int.gcd t b : Int)) ∣ b := Int.gcd_dvd_right t b
  have hg : (0 : Int) < (Int.gcd t b : Int) := by
    have : Int.gcd t b ≠ 0 := fun e => h (Int.gcd_eq_zero_iff.mp e).2
    omega
  rw [Rat.den_divInt, if_neg h, Int.gcd_comm b t]
  generalize hG : Int.gcd t b = g at *
  have e : (b.natAbs / g : Nat) = u.natAbs := by
    rw [hu, Int.natAbs_mul, Int.natAbs_natCast, Nat.mul_div_cancel_left _ (by omega)]
  rw [e]
  unfold dvs
  rw [hG]
  by_cases hb : b < 0
  · have hu0 : u < 0 := by
      rcases Int.lt_or_le u 0 with z | z
      · exact z
      · have := Int.mul_nonneg (Int.le_of_lt hg) z
        omega
    rw [if_pos hb, hu, show (g : Int) * u = (-(g : Int)) * (-u) by rw [Int.neg_mul_neg], Int.mul_fdiv_cancel_left _ (by omega)]
    omega
  · have hu0 : 0 ≤ u := by
      rcases Int.lt_or_le u 0 with z | z
      · have := Int.mul_neg_of_pos_of_neg hg z
        omega
      · exact z
    rw [if_neg hb, hu, Int.mul_fdiv_cancel_left _ (by omega)]
    omega
/-- not too great -/
def Sz (n : Nat) (q : Rat) : Prop := q.num.natAbs < 2 ^ n ∧ q.den < 2 ^ n
theorem Sz.mono {m n : Nat} {q : Rat} (h : Sz m q) (l : m ≤ n) : Sz n q :=
  ⟨Nat.lt_of_lt_of_le h.1 (Nat.pow_le_pow_right (by decide) l), Nat.lt_of_lt_of_le h.2 (Nat.pow_le_pow_right (by decide) l)⟩
theorem mul_lt2 {a b m n : Nat} (ha : a < 2 ^ m) (hb : b < 2 ^ n) : a * b < 2 ^ (m + n) := by
  rw [Nat.pow_add]
  exact Nat.mul_lt_mul'' ha hb
theorem sz_divInt {n : Nat} {t b : Int} (h : b ≠ 0) (h1 : t.natAbs < 2 ^ n) (h2 : b.natAbs < 2 ^ n) : Sz n (Rat.divInt t b) := by
  constructor
  · rw [Rat.num_divInt, Int.natAbs_ediv_of_dvd]
    · refine Nat.lt_of_le_of_lt (Nat.div_le_self _ _) ?_
      rw [Int.natAbs_mul]
      have : b.sign.natAbs = 1 := Int.natAbs_sign_of_ne_zero h
      rw [this, Nat.one_mul]
      exact h1
    · exact Int.dvd_mul_of_dvd_right (Int.gcd_dvd_right b t)
  · rw [Rat.den_divInt, if_neg h]
    exact Nat.lt_of_le_of_lt (Nat.div_le_self _ _) h2
theorem add_lt2 {a b m n k : Nat} (ha : a < 2 ^ m) (hb : b < 2 ^ n) (h1 : m < k) (h2 : n < k) : a + b < 2 ^ k := by
  have e : 2 ^ k = 2 ^ (k - 1) + 2 ^ (k - 1) := by
    obtain ⟨j, rfl⟩ : ∃ j, k = j + 1 := ⟨k - 1, by omega⟩
    rw [Nat.pow_succ, Nat.add_sub_cancel]
    omega
  have h3 : 2 ^ m ≤ 2 ^ (k - 1) := Nat.pow_le_pow_right (by decide) (by omega)
  have h4 : 2 ^ n ≤ 2 ^ (k - 1) := Nat.pow_le_pow_right (by decide) (by omega)
  omega
theorem divInt_add (p q : Rat) : Rat.divInt (p.num * q.den + q.num * p.den) (p.den * q.den) = p + q := by
  have h1 : (p.den : Int) ≠ 0 := Int.natCast_ne_zero.mpr p.den_nz
  have h2 : (q.den : Int) ≠ 0 := Int.natCast_ne_zero.mpr q.den_nz
  rw [← Rat.divInt_add_divInt _ _ h1 h2, Rat.num_divInt_den, Rat.num_divInt_den]
theorem divInt_sub (p q : Rat) : Rat.divInt (p.num * q.den - q.num * p.den) (p.den * q.den) = p - q := by
  rw [Rat.sub_eq_add_neg, ← divInt_add, Rat.neg_num, Rat.neg_den, Int.neg_mul]
  rfl
theorem divInt_mul (p q : Rat) : Rat.divInt (p.num * q.num) (p.den * q.den) = p * q := by
  rw [← Rat.divInt_mul_divInt, Rat.num_divInt_den, Rat.num_divInt_den]
theorem divInt_neg (p : Rat) : Rat.divInt (-p.num) p.den = -p := by
  rw [← Rat.neg_divInt, Rat.num_divInt_den]
theorem divInt_quo (p q : Rat) : Rat.divInt (p.num * q.den) (p.den * q.num) = p / q := by
  rw [← Rat.divInt_mul_divInt, Rat.num_divInt_den, Rat.div_def, Rat.inv_def]
theorem sz_int {n : Nat} {q : Rat} (h : Sz n q) : (q.den : Int).natAbs < 2 ^ n := by rw [Int.natAbs_natCast]; exact h.2
theorem sz_add {m n k : Nat} {p q : Rat} (hp : Sz m p) (hq : Sz n q) (h : m + n < k) : Sz k (p + q) := by
  rw [← divInt_add]
  have h1 : (p.den : Int) ≠ 0 := Int.natCast_ne_zero.mpr p.den_nz
  have h2 : (q.den : Int) ≠ 0 := Int.natCast_ne_zero.mpr q.den_nz
  refine sz_divInt (Int.mul_ne_zero h1 h2) ?_ ?_
  · refine Nat.lt_of_le_of_lt (Int.natAbs_add_le _ _) ?_
    rw [Int.natAbs_mul, Int.natAbs_mul]
    exact add_lt2 (mul_lt2 hp.1 (sz_int hq)) (mul_lt2 hq.1 (sz_int hp)) h (by omega)
  · rw [Int.natAbs_mul]
    exact Nat.lt_trans (mul_lt2 (sz_int hp) (sz_int hq)) (Nat.pow_lt_pow_right (by decide) h)
theorem sz_neg {n : Nat} {p : Rat} (hp : Sz n p) : Sz n (-p) := by
  refine ⟨?_, ?_⟩
  · rw [Rat.neg_num, Int.natAbs_neg]; exact hp.1
  · rw [Rat.neg_den]; exact hp.2
theorem sz_mul {m n k : Nat} {p q : Rat} (hp : Sz m p) (hq : Sz n q) (h : m + n ≤ k) : Sz k (p * q) := by
  rw [← divInt_mul]
  have h1 : (p.den : Int) ≠ 0 := Int.natCast_ne_zero.mpr p.den_nz
  have h2 : (q.den : Int) ≠ 0 := Int.natCast_ne_zero.mpr q.den_nz
  refine Sz.mono (sz_divInt (n := m + n) (Int.mul_ne_zero h1 h2) ?_ ?_) h
  · rw [Int.natAbs_mul]
    exact mul_lt2 hp.1 hq.1
  · rw [Int.natAbs_mul]
    exact mul_lt2 (sz_int hp) (sz_int hq)
theorem log2_of {a n : Nat} (h : a < 2 ^ n) (hn : n ≤ 9000) : a.log2 < 9000 ∨ a.log2 < 9000 := by
  left
  rcases Nat.eq_zero_or_pos a with e | e
  · subst e; decide
  · exact Nat.lt_of_lt_of_le ((Nat.log2_lt (by omega)).mpr h) hn
theorem bits_of {a : Int} {n : Nat} (h : a.natAbs < 2 ^ n) (hn : n ≤ 9000) : Builtin.Int.intBits a ≤ 2 ^ 20 := by
  unfold Builtin.Int.intBits
  have := (log2_of h hn).elim id id
  split <;> omega
theorem mulok {a b : Int} {m n : Nat} (ha : a.natAbs < 2 ^ m) (hb : b.natAbs < 2 ^ n) (hm : m ≤ 9000 := by decide) (hn : n ≤ 9000 := by decide) : IntMulOk a b := IntMulOk.of_bits (bits_of ha hm) (bits_of hb hn)
theorem divok {a : Int} {n : Nat} {i : Int} (h0 : a ≠ 0) (ha : a.natAbs < 2 ^ n) (hn : n ≤ 9000 := by decide) : CDivZ i a := ⟨h0, (log2_of ha hn).elim id id⟩
end W1
set_option maxRecDepth 100000
set_option maxHeartbeats 2000000
namespace W1
open PySem PySem.Spec PyProof.Rows L2

/-! ### texts, slices, more of lists -/
/-- a part of a slice -/
def PR (F : Fx) (ρ : Ty) (ω : Ow) (e : Option Expr) (v : Option Int) (ω' : Ow) : Prop :=
  ∃ t, PO F.X e t ∧ ∀ σ G H, At F ω G H → Slots ρ σ G → ∀ Q : Option Int → Hp → Prop, (∀ G2 H2, Same G G2 → At F ω' G2 H2 → Q v H2) → t σ H Q
def Sop (F : Fx) (ω : Ow) (A : Rl) (lo hi : Option Int) (R : Rl) : Prop :=
  ∃ r, L2.SlR F.X r ∧ ∀ x G H, At F ω G H → A.r x G → ∀ Q : VK, (∀ v G2 H2, Same G G2 → At F ω G2 H2 → R.r v G2 → Q v H2) → r x lo hi H Q
def cutR (Rs : List Rl) (lo hi : Option Int) : List Rl := (Rs.drop (HT.sIx Rs.length 0 lo)).take (HT.sIx Rs.length Rs.length hi - HT.sIx Rs.length 0 lo)
theorem All2.drop : ∀ {Rs : List Rl} {vs : List V} {H : Hp} (n : Nat), All2 Rs vs H → All2 (Rs.drop n) (vs.drop n) H
  | _, _, _, 0, h => h
  | [], [], _, _ + 1, _ => trivial
  | _ :: _, _ :: _, _, n + 1, h => All2.drop n h.2
  | [], _ :: _, _, _ + 1, h => h.elim
  | _ :: _, [], _, _ + 1, h => h.elim
theorem All2.take : ∀ {Rs : List Rl} {vs : List V} {H : Hp} (n : Nat), All2 Rs vs H → All2 (Rs.take n) (vs.take n) H
  | _, _, _, 0, _ => trivial
  | [], [], _, _ + 1, _ => trivial
  | _ :: _, _ :: _, _, n + 1, h => ⟨h.1, All2.take n h.2⟩
  | [], _ :: _, _, _ + 1, h => h.elim
  | _ :: _, [], _, _ + 1, h => h.elim
theorem All2.rev : ∀ {Rs : List Rl} {vs : List V} {H : Hp}, All2 Rs vs H → All2 Rs.reverse vs.reverse H
  | [], [], _, _ => trivial
  | _ :: _, _ :: _, _, h => by rw [List.reverse_cons, List.reverse_cons]; exact (All2.rev h.2).app ⟨h.1, trivial⟩
  | [], _ :: _, _, h => h.elim
  | _ :: _, [], _, h => h.elim
theorem vals_all2 {H : Hp} : ∀ (xs : List V), All2 (xs.map rEqV) xs H
  | [] => trivial
  | _ :: xs => ⟨rfl, vals_all2 xs⟩
section
variable {F : Fx} {ρ : Ty} {ω w w1 w2 w3 : Ow} {e o a b lo hi : Expr} {es : List Expr} {A R S : Rl} {As Rs Ss : List Rl} {pos p apos p2 p3 : Pos} {m : Str} {z y : Str} {T id : String} {v u : Option Int}
/-! slices -/
theorem pr_none : PR F ρ ω none none ω := ⟨_, po_none, fun σ G H at_ sl Q q => q G H (Same.refl _) at_⟩
theorem pr_some {i : Int} (h : ER F ρ ω e (rInt i) w1) : PR F ρ ω (some e) (some i) w1 := ⟨_, po_some pe_w, fun σ G H at_ sl Q q => h σ G H at_ sl _ fun v G2 H2 s a r => ⟨i, r, q G2 H2 s a⟩⟩
theorem er_slice {lo hi : Option Expr} (ho : ER F ρ ω o A w1) (hl : PR F ρ w1 lo v w2) (hh : PR F ρ w2 hi u w3) (h : Sop F w3 A v u R) : ER F ρ ω (.Subscript o (.Slice lo hi none p2) pos) R w3 := fun σ G H at_ sl Q q => by
  obtain ⟨r, hr, k⟩ := h
  obtain ⟨tl, htl, hl⟩ := hl
  obtain ⟨th, hth, hh⟩ := hh
  refine ew_of (pe_slice hr pe_w htl hth) (ho σ G H at_ sl _ fun x G1 H1 s1 a1 r1 => hl σ G1 H1 a1 (sl.up s1) _ fun G2 H2 s2 a2 => hh σ G2 H2 a2 ((sl.up s1).up s2) _ fun G3 H3 s3 a3 => ?_)
  exact k x G3 H3 a3 (A.mo _ _ _ (s2.trans s3) r1) Q fun v G4 H4 s4 a4 r4 => q v G4 H4 (((s1.trans s2).trans s3).trans s4) a4 r4
theorem sop_L : Sop F w (rLst Rs) v u (rLst (cutR Rs v u)) := ⟨_, sl_list, fun x G H at_ hx Q q => by
  obtain ⟨p, vs, rfl, h1, h2⟩ := hx
  refine ⟨p, vs, rfl, SqL.of (at_.gh _ _ h1), fun l hl => ?_⟩
  have st := Step.new (o := .lst (cutV vs v u)) at_.gh hl
  refine q _ _ _ st.gg (at_.step st) ⟨l, _, rfl, upd_same, ?_⟩
  unfold cutR cutV
  rw [h2.len]
  exact ((h2.drop _).take _).up st.gg⟩
theorem sop_S {xs : List V} : Sop F w (rScr F.X.K xs) v u (rLst ((cutV xs v u).map rEqV)) := ⟨_, sl_list, fun x G H at_ hx Q q => by
  obtain ⟨p, rfl, h1⟩ := hx
  refine ⟨p, xs, rfl, sql_up at_.gh h1, fun l hl => ?_⟩
  have st := Step.new (o := .lst (cutV xs v u)) at_.gh hl
  exact q _ _ _ st.gg (at_.step st) ⟨l, _, rfl, upd_same, vals_all2 _⟩⟩
theorem er_revL {k : Nat} {p1 p2 p3 pos : Pos} (ho : ER F ρ ω o (rLst Rs) w1) : ER F ρ ω (.Subscript o (.Slice none none (some (.UnaryOp .USub (.Constant (.int 1) k p1) p2)) p3) pos) (rLst Rs.reverse) w1 := fun σ G H at_ sl Q q => by
  refine ew_of (pe_revL pe_w) (ho σ G H at_ sl _ fun x G1 H1 s1 a1 r1 => ?_)
  obtain ⟨p, vs, rfl, h1, h2⟩ := r1
  refine ⟨p, vs, rfl, SqL.of (a1.gh _ _ h1), fun l hl => ?_⟩
  have st := Step.new (o := .lst vs.reverse) a1.gh hl
  exact q _ _ _ (s1.trans st.gg) (a1.step st) ⟨l, _, rfl, upd_same, h2.rev.up st.gg⟩
/-! operators and builtins -/
theorem bop_cat (hz : Rs.length + Ss.length ≤ 100000) : Bop F w (binaryOp .Add) (rLst Rs) (rLst Ss) (rLst (Rs ++ Ss)) := ⟨_, op_cat, fun x y G H at_ hx hy Q q => by
  obtain ⟨l, vs, rfl, e1, e2⟩ := hx
  obtain ⟨m, ws, rfl, e3, e4⟩ := hy
  refine ⟨l, m, vs, ws, rfl, rfl, at_.gh _ _ e1, at_.gh _ _ e3, Nat.le_trans (by rw [← e2.len, ← e4.len]; exact hz) (by decide), fun p hp => ?_⟩
  have st := Step.new (o := .lst (vs ++ ws)) at_.gh hp
  exact q _ _ _ st.gg (at_.step st) ⟨p, _, rfl, upd_same, (e2.app e4).up st.gg⟩⟩
theorem cop_max2 {i j : Int} (hc : F.X.calm = true) : Cop F w (.builtin "max") [rInt i, rInt j] (rInt (if j > i then j else i)) := cop_of2 (call_max2 hc) fun _ _ q => ⟨i, j, rfl, q⟩
theorem cop_listL : Cop F w (.type "list") [rLst Rs] (rLst Rs) := ⟨_, call_list_of, fun xs G H at_ hx Q q => by
  obtain ⟨x, rfl, p, vs, rfl, h1, h2⟩ := all1 hx
  refine ⟨p, vs, rfl, .inl (SqL.of (at_.gh _ _ h1)), fun l hl => ?_⟩
  have st := Step.new (o := .lst vs) at_.gh hl
  exact q _ _ _ st.gg (at_.step st) ⟨l, _, rfl, upd_same, h2.up st.gg⟩⟩
end
/-! str(x) by an own def -/
section
variable {X : Cx} {C g k : Nat} {fd : FuncData} {ps : List Str} {sp : Sp}
end
section
variable {F : Fx} {w : Ow} {C : Addr} {k : Nat} {pre : Pre} {fs : List (Str × Rl)} {z : Str}
end
end W1
set_option maxRecDepth 100000
set_option maxHeartbeats 2000000
namespace W1
open PySem PySem.Spec PyProof.Rows L2 TL NumText

/-! ### words of digits -/
/-! cut at the slashes -/
/-! the text of a number, read -/
end W1
set_option maxRecDepth 100000
set_option maxHeartbeats 2000000
set_option exponentiation.threshold 20000
namespace W1
open PySem PySem.Spec PyProof.Rows L2 TL NumText

/-! ### the common draws -/
theorem lt9000 {a n : Nat} (h : a < 2 ^ n) (hn : n ≤ 9000) : a < 2 ^ 9000 := Nat.lt_of_lt_of_le h (Nat.pow_le_pow_right (by decide) hn)
/-! texts and their signs -/
/-! f"{e1}..{e2}" of ints -/
section
variable {F : Fx} {ρ : Ty} {ω w w1 w2 : Ow} {a b : Expr} {i j : Int} {t : Str} {p1 p2 p3 p4 : Pos} {k : Nat} {c : Nat} {z : Str}
end
section
variable {F : Fx} {w : Ow} {Rs : List Rl}
/-- l != [] -/
theorem bop_neE (hr : Room 1 F.X.A) : Bop F w (compareOp .NotEq) (rLst Rs) (rLst []) (rBool (!decide (Rs = []))) := by
  have h := bop_neL (F := F) (w := w) (Rs := Rs) (Ss := []) (e := fun _ => true) (n := 0) (fun i R S _ h2 => by simp at h2) hr
  cases Rs with
  | nil => exact h
  | cons a l => exact h
end
end W1
set_option maxRecDepth 100000
set_option maxHeartbeats 2000000
set_option exponentiation.threshold 20000
namespace W1
open PySem PySem.Spec PyProof.Rows L2 TL NumText

/-! ### dicts: owned ones change, others are frozen for good -/
def valR (fs : List (Key × Rl)) (k : Key) : Option Rl := (fs.find? fun kv => decide (kv.1 = k)).map (·.2)
def putKR (fs : List (Key × Rl)) (k : Key) (R : Rl) : List (Key × Rl) := if (fs.any fun kv => decide (kv.1 = k)) = true then fs.map (fun kv => if kv.1 = k then (kv.1, R) else kv) else fs ++ [(k, R)]
theorem NR.val {k : Key} {H : Hp} : ∀ {fs : List (Key × Rl)} {vs : List (Key × V)}, NR fs vs H → (∀ R, valR fs k = some R → ∃ v, valV vs k = some v ∧ R.r v H) ∧ (valR fs k = none → valV vs k = none)
  | [], [], _ => ⟨fun R e => (by cases e), fun _ => rfl⟩
  | (j, S) :: fs, (j', v) :: vs, ⟨e, a, b⟩ => by
    subst e
    have ih := NR.val (k := k) b
    unfold valR valV at *
    rw [List.find?_cons, List.find?_cons]
    by_cases h : j = k
    · simp only [h, decide_true]
      refine ⟨fun R e => ⟨v, rfl, ?_⟩, fun e => (by cases e)⟩
      cases e
      exact a
    · simp only [h, decide_false]
      exact ih
  | [], _ :: _, h => h.elim
  | _ :: _, [], h => h.elim
theorem NR.any {k : Key} {H : Hp} : ∀ {fs : List (Key × Rl)} {vs : List (Key × V)}, NR fs vs H → (fs.any fun kv => decide (kv.1 = k)) = (vs.any fun kv => decide (kv.1 = k))
  | [], [], _ => rfl
  | (j, S) :: fs, (j', v) :: vs, ⟨e, a, b⟩ => by
    subst e
    rw [List.any_cons, List.any_cons, NR.any b]
  | [], _ :: _, h => h.elim
  | _ :: _, [], h => h.elim
theorem NR.app {κ : Type} {H : Hp} : ∀ {fs gs : List (κ × Rl)} {vs ws : List (κ × V)}, NR fs vs H → NR gs ws H → NR (fs ++ gs) (vs ++ ws) H
  | [], _, [], _, _, h => h
  | (_, _) :: _, _, (_, _) :: _, _, ⟨e, a, b⟩, h => ⟨e, a, NR.app b h⟩
  | [], _, _ :: _, _, h, _ => h.elim
  | _ :: _, _, [], _, h, _ => h.elim
theorem NR.putK {k : Key} {R : Rl} {v : V} {H : Hp} {fs : List (Key × Rl)} {vs : List (Key × V)} (h : NR fs vs H) (r : R.r v H) : NR (putKR fs k R) (L2.putK vs k v) H := by
  unfold putKR L2.putK
  rw [h.any]
  split
  · have go : ∀ {fs : List (Key × Rl)} {vs : List (Key × V)}, NR fs vs H → NR (fs.map fun kv => if kv.1 = k then (kv.1, R) else kv) (vs.map fun kv => if kv.1 = k then (kv.1, v) else kv) H := by
      intro fs
      induction fs with
      | nil =>
        intro vs h
        cases vs with
        | nil => exact trivial
        | cons _ _ => exact h.elim
      | cons x fs ih =>
        intro vs h
        cases vs with
        | nil => exact h.elim
        | cons y vs =>
          obtain ⟨j, S⟩ := x
          obtain ⟨j', u⟩ := y
          obtain ⟨e, a, b⟩ := h
          subst e
          rw [List.map_cons, List.map_cons]
          by_cases hj : j = k
          · simp only [hj, if_true]
            exact ⟨rfl, r, ih b⟩
          · simp only [hj, if_false]
            exact ⟨rfl, a, ih b⟩
    exact go h
  · exact h.app ⟨rfl, r, trivial⟩
theorem NR.keys {κ : Type} {H : Hp} : ∀ {fs : List (κ × Rl)} {vs : List (κ × V)}, NR fs vs H → vs.map (·.1) = fs.map (·.1)
  | [], [], _ => rfl
  | (j, S) :: fs, (j', v) :: vs, ⟨e, a, b⟩ => by
    subst e
    rw [List.map_cons, List.map_cons, NR.keys b]
  | [], _ :: _, h => h.elim
  | _ :: _, [], h => h.elim
def oD (fs : List (Key × Rl)) : Ol := ⟨fun o G => ∃ vs, o = .dK vs ∧ NR fs vs G, fun _ _ _ e ⟨vs, a, b⟩ => ⟨vs, a, b.up e⟩⟩
def rDct (fs : List (Key × Rl)) : Rl := ⟨fun v H => ∃ p od vs, v = .ref p ∧ H p = some (.frz od (.dK vs)) ∧ NR fs vs H, fun _ _ _ e ⟨p, od, vs, a, b, c⟩ => ⟨p, od, vs, a, e _ _ b, c.up e⟩⟩
section
variable {X : Cx} {e : Expr} {st : List Stmt} {σ : L2.St} {H : Hp} {d : Addr} {u : HO} {D : Ends} {Q : VK}
end
section
variable {F : Fx} {ρ ρ1 : Ty} {ω w w1 w2 w3 : Ow} {e o ix a b : Expr} {A R S : Rl} {Rs : List Rl} {O : Ol} {pos p apos p2 : Pos} {K : Kn} {rest : List Stmt} {q : Addr} {fs : List (Key × Rl)} {k : Key} {n : Nat}
end
end W1
set_option maxRecDepth 100000
set_option maxHeartbeats 2000000
set_option exponentiation.threshold 20000
namespace W1
open PySem PySem.Spec PyProof.Rows L2 TL NumText

/-! ### new things, to stay as they are -/
section
variable {F : Fx} {ρ : Ty} {ω w w1 : Ow} {e : Expr} {fs : List (Key × Rl)} {Rs : List Rl}
/-- a new list is published -/
theorem er_pubL (h : EN F ρ ω e (oL Rs) w1) : ER F ρ ω e (rLst Rs) w1 := fun σ G H at_ sl Q z =>
  h σ G H at_ sl _ fun q G2 H2 hM s2 a2 => by
    obtain ⟨hg0, _, o, h1, vs, rfl, h2⟩ := a2.ow _ List.mem_cons_self
    have sg : Same G2 (upd G2 q (.lst vs)) := fun b u e => by rw [upd_ne (ne_of_none e hg0)]; exact e
    exact z _ _ _ (s2.trans sg) (At.pub a2 h1 (At.own0 a2 hM)) ⟨q, vs, rfl, upd_same, h2.up sg⟩
end
/-! ### dict comprehensions -/
section
variable {F : Fx} {ρ : Ty} {ω w1 : Ow} {tg it kx vx c : Expr} {pos spos : Pos} {scope : Scope} {own : List (Str × Nat)} {g : TG} {ifs : List Expr} {α : Type}
end
end W1
set_option maxRecDepth 100000
set_option maxHeartbeats 2000000
set_option exponentiation.threshold 20000
namespace W1
open PySem PySem.Spec PyProof.Rows L2 TL NumText

/-! ### names in order -/
def leS (a b : Str) : Bool := decide (tl a ≤ tl b)
def srt (xs : List Str) : List Str := xs.mergeSort leS
theorem srt_perm (xs : List Str) : (srt xs).Perm xs := List.mergeSort_perm xs leS
section
variable {F : Fx} {w : Ow} {A : Rl} {xs : List Str}
end
end W1
set_option maxRecDepth 100000
set_option maxHeartbeats 2000000
set_option exponentiation.threshold 20000
namespace W1
open PySem PySem.Spec PyProof.Rows L2 TL NumText

/-! ### == of dicts whose values are plain -/
section
variable {X : Cx}
end
section
variable {F : Fx} {w : Ow} {A B : Rl} {ks ls : List (Key × V)} {n : Nat}
end
end W1
set_option maxRecDepth 100000
set_option maxHeartbeats 2000000
set_option exponentiation.threshold 20000
namespace W1
open PySem PySem.Spec PyProof.Rows L2 TL NumText

/-! ### several clauses, each with its name -/
structure AsC where
  c : Value
  i : Nat
  ts : Addr → Value → Option Addr → TS
inductive AsOk (X : Cx) : List ExceptHandler → List AsC → Prop
  | nil : AsOk X [] []
  | cons {x n : Str} {c : Value} {i : Nat} {ts : Addr → Value → Option Addr → TS} {b₀ : Stmt} {sts : List Stmt} {p p' : Pos} {hds : List ExceptHandler} {l : List AsC} (ni : X.N[i]? = some n) (lo : X.env.kindOf n = some .local) (nm : Names X x c)
      (su : ∀ (a : Addr) (oe : Obj) (cls : Value) (d : Option Addr) (pn : List (Addr × Obj)), Zc cls d oe → (∃ vs, oe.data = .fields vs) → PSs (X.suite a ((a, oe) :: pn)) (b₀ :: sts) (ts a cls d)) (r : AsOk X hds l) :
      AsOk X (.ExceptHandler (some (.Name x p)) (some n) (b₀ :: sts) p' :: hds) (⟨c, i, ts⟩ :: l)
section
variable {X : Cx} {body : List Stmt} {h₀ : ExceptHandler} {hds : List ExceptHandler} {l : List AsC} {pos : Pos} {tb : WX → TS} {W : WX}
end
end W1
set_option maxRecDepth 100000
set_option maxHeartbeats 2000000
set_option exponentiation.threshold 20000
namespace W1
open PySem PySem.Spec PyProof.Rows L2 TL NumText

/-- a clause: the class's name, the class, the slot, its name, the suite -/
structure Cla where
  x : Str
  c : Value
  i : Nat
  n : Str
  b₀ : Stmt
  sts : List Stmt
  p : Pos
  p' : Pos
def Cla.hd (z : Cla) : ExceptHandler := .ExceptHandler (some (.Name z.x z.p)) (some z.n) (z.b₀ :: z.sts) z.p'
section
variable {F : Fx} {ρ : Ty} {ω : Ow} {K : Kn} {rest body : List Stmt} {pos : Pos}
end
end W1
set_option maxRecDepth 100000
set_option maxHeartbeats 2000000
set_option exponentiation.threshold 20000
namespace W1
open PySem PySem.Spec PyProof.Rows L2 TL NumText

/-! ### what is only known to be there: opened -/
section
variable {F : Fx} {ρ ρ' : Ty} {ω w w1 w2 : Ow} {e a b : Expr} {R S : Rl} {K : Kn} {rest : List Stmt} {q : Addr} {O O' : Ol} {α β : Type} {pos : Pos}
end
end W1
set_option maxRecDepth 100000
set_option maxHeartbeats 2000000
set_option exponentiation.threshold 20000
namespace W1
open PySem PySem.Spec PyProof.Rows L2 TL NumText

/-! ### len(d), d.clear() -/
section
variable {F : Fx} {ρ : Ty} {ω w w1 w2 : Ow} {o : Expr} {A : Rl} {fs : List (Key × Rl)} {K : Kn} {rest : List Stmt} {q : Addr} {pos p apos : Pos}
end
end W1
set_option maxRecDepth 100000
set_option maxHeartbeats 2000000
set_option exponentiation.threshold 20000
namespace W1
open PySem PySem.Spec PyProof.Rows L2 TL NumText

/-! ### f-strings, part by part: z is all that is told -/
section
variable {F : Fx} {ρ : Ty} {ω w w1 w2 : Ow} {e v1 v2 : Expr} {es : List Expr} {y z : Str} {i : Int} {k : Nat} {pos : Pos}
end
end W1
set_option maxRecDepth 100000
set_option maxHeartbeats 2000000
namespace W1
open PySem PySem.Spec PyProof.Rows L2
section
variable {F : Fx} {ρ : Ty} {ω w wc wc' : Ow} {e : Expr} {es : List Expr} {Rs : List Rl} {P : Er} {pos p : Pos} {x : Str} {k : Nat} {C : Addr} {pre : Pre}
/-- C(..), with owned things handed over -/
theorem er_cW {fs : List (Str × Rl)} (T : Kc F.X.prog F.X.w F.X.K F.X.mg F.X.base C x k pre) (hr : Room (k + 1) F.X.A) (ha : AR F ρ ω (e :: es) Rs (wc ++ w)) (hp : ∀ q, pre (rRef q :: Rs) ((q, oIns C []) :: wc) (.ok rNon) ((q, oIns C fs) :: wc')) (hk : keys wc' = keys wc := by rfl)
    (hg : Gl F.X x := by rfl) (hdb : (x == ("__debug__" : Str)) = false := by decide) (he : starEach (e :: es) F.X.env = (false, eval e F.X.env) :: starEach es F.X.env := by rfl) (hpl : (backTo pos (starEach es F.X.env)).any (·.1) = false := by rfl) :
    ER F ρ ω (.Call (.Name x p) (e :: es) [] pos) (rIns C fs) (wc' ++ w) := fun σ G H at_ sl Q q => by
  obtain ⟨f, fd, ps, hm, M, hb, Fn⟩ := T
  refine ew_of (pe_makeS M Fn hr hg hm hb passW pa_w hdb he hpl) (ha σ G H at_ sl _ fun vs G1 H1 s1 a1 r1 => fun y dx hy hdx hne => ?_)
  have a2 : At F (wc ++ w) G1 (upd H1 dx (.own y)) := a1.step (Step.hid a1.gh hdx)
  have hy2 : upd H1 dx (.own y) y = none := by rw [upd_ne (Ne.symm hne)]; exact hy
  have a3 : At F (((y, oIns C []) :: wc) ++ w) G1 (upd (upd H1 dx (.own y)) y (.ins C dx [])) := a2.own hy2 ⟨dx, [], rfl, trivial⟩
  have hM : y ∉ F.M := fun hm => a2.mm y hm hy2
  have hk2 : keys ((y, oIns C fs) :: wc') = keys ((y, oIns C []) :: wc) := by
    unfold keys at hk ⊢
    rw [List.map_cons, List.map_cons, hk]
  refine sp_ok (Rs := rRef y :: Rs) (wc := (y, oIns C []) :: wc) a3 ⟨rfl, r1⟩ (hp y) hk2 fun v G3 H3 s3 a4 r3 => ⟨r3, ?_⟩
  obtain ⟨_, _, ob, h1, dx', vs', e1, h2⟩ := a4.ow (y, oIns C fs) List.mem_cons_self
  subst e1
  have a5 : At F (wc' ++ w) (upd G3 y (.ins C dx' vs')) H3 := At.pub (q := y) a4 h1 (At.own0 a4 hM)
  have sg : Same G3 (upd G3 y (.ins C dx' vs')) := fun b u e => by rw [upd_ne (ne_of_none e (a4.ow (y, oIns C fs) List.mem_cons_self).1)]; exact e
  exact q _ _ _ ((s1.trans s3).trans sg) a5 ⟨y, dx', vs', rfl, upd_same, h2.up sg⟩
end
end W1
set_option maxRecDepth 100000
set_option maxHeartbeats 2000000
namespace W1
open PySem PySem.Spec PyProof.Rows L2 NdefX TL NumText

/-! ### helpers for the walk by tactics -/
theorem At.perm {F : Fx} {ω ω' : Ow} {G H : Hp} (h : ω.Perm ω') (a : At F ω G H) : At F ω' G H :=
  ⟨a.gg, a.hh, a.gh, a.fr, a.mm, fun p hp => a.ow p (h.mem_iff.mpr hp), (h.map _).nodup_iff.mp a.nd⟩
theorem perm_at {w : Ow} {i : Nat} {z z' : Addr × Ol} (h : w[i]? = some z) : w.Perm (z :: w.eraseIdx i) ∧ (z' :: w.eraseIdx i).Perm (w.set i z') := by
  induction w generalizing i with
  | nil => simp at h
  | cons a l ih =>
    cases i with
    | zero =>
      simp at h
      subst h
      exact ⟨List.Perm.refl _, List.Perm.refl _⟩
    | succ i =>
      simp only [List.getElem?_cons_succ] at h
      obtain ⟨h1, h2⟩ := ih h
      simp only [List.eraseIdx_cons_succ, List.set_cons_succ]
      exact ⟨(List.Perm.cons a h1).trans (List.Perm.swap _ _ _), (List.Perm.swap _ _ _).trans (List.Perm.cons a h2)⟩
section
variable {F : Fx} {ρ : Ty} {ω w w1 w2 w3 wc wc' : Ow} {a b c e o : Expr} {es : List Expr} {A B R S : Rl} {Rs As : List Rl} {P : Er} {pos p apos : Pos} {x m : Str} {k : Nat} {C q : Addr} {pre : Pre} {O O' : Ol} {fs : List (Str × Rl)}
theorem er_perm (h : ER F ρ ω e R w1) (p : w1.Perm w2) : ER F ρ ω e R w2 := fun σ G H at_ sl Q z => h σ G H at_ sl Q fun v G2 H2 s a r => z v G2 H2 s (a.perm p) r
theorem ar_perm (h : AR F ρ ω es Rs w1) (p : w1.Perm w2) : AR F ρ ω es Rs w2 := fun σ G H at_ sl Q z => h σ G H at_ sl Q fun v G2 H2 s a r => z v G2 H2 s (a.perm p) r
theorem er_v (i : Nat) (hN : F.X.N[i]? = some x) (h : ρ[i]? = some (some R)) (hv : Vis F.X.env.scope x := by first | exact Or.inl rfl | exact Or.inr (Or.inl rfl) | exact Or.inr (Or.inr rfl))
    (hd : (x == ("__debug__" : Str)) = false := by decide) (hcd : (x == ("__classdict__" : Str)) = false := by decide) : ER F ρ ω (.Name x pos) R ω := er_var i h hN hv hd hcd
theorem er_gC (hm : F.X.mg x = some (.ref C)) (hg : Gl F.X x := by rfl) (hd : (x == ("__debug__" : Str)) = false := by decide) : ER F ρ ω (.Name x pos) (rRef C) ω := er_glob (v := .ref C) hg hm rfl hd
theorem er_bA {id : String} (ha : AR F ρ ω (e :: es) As w1) (hm : F.X.mg x = none) (hv : bootBuiltins x = some (.builtin id)) (hc : Cop F w1 (.builtin id) As R) (hg : Gl F.X x := by rfl) (hn : x ≠ "__name__" := by decide) (hdb : (x == ("__debug__" : Str)) = false := by decide)
    (he : starEach (e :: es) F.X.env = (false, eval e F.X.env) :: starEach es F.X.env := by rfl) (hpl : (backTo pos (starEach es F.X.env)).any (·.1) = false := by rfl) : ER F ρ ω (.Call (.Name x p) (e :: es) [] pos) R w1 := er_callB hc hg hm hv ha hn hdb he hpl
theorem er_tA {id : String} (ha : AR F ρ ω (e :: es) As w1) (hm : F.X.mg x = none) (hv : bootBuiltins x = some (.type id)) (hc : Cop F w1 (.type id) As R) (hg : Gl F.X x := by rfl) (hn : x ≠ "__name__" := by decide) (hdb : (x == ("__debug__" : Str)) = false := by decide)
    (he : starEach (e :: es) F.X.env = (false, eval e F.X.env) :: starEach es F.X.env := by rfl) (hpl : (backTo pos (starEach es F.X.env)).any (·.1) = false := by rfl) : ER F ρ ω (.Call (.Name x p) (e :: es) [] pos) R w1 := er_callTy hc hg hm hv ha hn hdb he hpl
/-- a def of no own things -/
theorem er_fA (T : Kf1 F.X.prog F.X.w F.X.K F.X.mg F.X.base x k pre) (hr : Room k F.X.A) (ha : AR F ρ ω (e :: es) Rs w) (hp : pre Rs [] (.ok R) [])
    (hg : Gl F.X x := by rfl) (hdb : (x == ("__debug__" : Str)) = false := by decide) (he : starEach (e :: es) F.X.env = (false, eval e F.X.env) :: starEach es F.X.env := by rfl) (hpl : (backTo pos (starEach es F.X.env)).any (·.1) = false := by rfl) :
    ER F ρ ω (.Call (.Name x p) (e :: es) [] pos) R w := er_fn0 T hr ha hp hg hdb he hpl
/-- a def to which the i-th own thing is handed over -/
theorem er_f1 (i : Nat) (T : Kf1 F.X.prog F.X.w F.X.K F.X.mg F.X.base x k pre) (hr : Room k F.X.A) (ha : AR F ρ ω (e :: es) Rs w) (hi : w[i]? = some (q, O)) (hp : pre Rs [(q, O)] (.ok R) [(q, O')])
    (hg : Gl F.X x := by rfl) (hdb : (x == ("__debug__" : Str)) = false := by decide) (he : starEach (e :: es) F.X.env = (false, eval e F.X.env) :: starEach es F.X.env := by rfl) (hpl : (backTo pos (starEach es F.X.env)).any (·.1) = false := by rfl) :
    ER F ρ ω (.Call (.Name x p) (e :: es) [] pos) R (w.set i (q, O')) :=
  er_perm (er_fn (wc := [(q, O)]) (wc' := [(q, O')]) (w := w.eraseIdx i) T hr (ar_perm ha (perm_at (z' := (q, O)) hi).1) hp rfl hg hdb he hpl) (perm_at hi).2
/-- a new thing from a def -/
theorem en_fA {pre : PreN} (T : KfN1 F.X.prog F.X.w F.X.K F.X.mg F.X.base x k pre) (hr : Room k F.X.A) (ha : AR F ρ ω (e :: es) Rs w) (hp : pre Rs [] O [])
    (hg : Gl F.X x := by rfl) (hdb : (x == ("__debug__" : Str)) = false := by decide) (he : starEach (e :: es) F.X.env = (false, eval e F.X.env) :: starEach es F.X.env := by rfl) (hpl : (backTo pos (starEach es F.X.env)).any (·.1) = false := by rfl) :
    EN F ρ ω (.Call (.Name x p) (e :: es) [] pos) O w := en_fn (wc := []) (wc' := []) T hr ha hp rfl hg hdb he hpl
theorem en_perm (h : EN F ρ ω e O w1) (p : w1.Perm w2) : EN F ρ ω e O w2 := fun σ G H at_ sl Q z => h σ G H at_ sl Q fun v G2 H2 hM s a => z v G2 H2 hM s (a.perm (List.Perm.cons _ p))
theorem en_f1 {pre : PreN} {q : Addr} {O1 O' : Ol} (i : Nat) (T : KfN1 F.X.prog F.X.w F.X.K F.X.mg F.X.base x k pre) (hr : Room k F.X.A) (ha : AR F ρ ω (e :: es) Rs w) (hi : w[i]? = some (q, O1)) (hp : pre Rs [(q, O1)] O [(q, O')])
    (hg : Gl F.X x := by rfl) (hdb : (x == ("__debug__" : Str)) = false := by decide) (he : starEach (e :: es) F.X.env = (false, eval e F.X.env) :: starEach es F.X.env := by rfl) (hpl : (backTo pos (starEach es F.X.env)).any (·.1) = false := by rfl) :
    EN F ρ ω (.Call (.Name x p) (e :: es) [] pos) O (w.set i (q, O')) :=
  en_perm (en_fn (wc := [(q, O1)]) (wc' := [(q, O')]) (w := w.eraseIdx i) T hr (ar_perm ha (perm_at (z' := (q, O1)) hi).1) hp rfl hg hdb he hpl) (perm_at hi).2
theorem hb_setA {K : Kn} {rest : List Stmt} (i : Nat) (hi : F.X.N[i]? = some x) (he : ER F ρ ω e R w1) (h : HB F (ρ.set i (some R)) w1 rest K) (hN : F.X.N.Nodup := by assumption) (hx : Loc F.X.env.scope x := by first | exact Or.inl rfl | exact Or.inr rfl)
    (hs : swapsWith e (some (.Name x p)) pos.line F.X.env = pure false := by rfl) (hf : F.X.fn x = true ∨ F.X.env.scope.names.lookup x = some .local := by first | exact .inl rfl | exact .inr rfl | assumption) :
    HB F ρ ω (.Assign [.Name x p] e pos :: rest) K := hb_set i he h hN hi hx hs hf
theorem hb_setNA {K : Kn} {rest : List Stmt} (i : Nat) (hi : F.X.N[i]? = some x) (he : EN F ρ ω e O w1) (h : ∀ q, q ∉ F.M → HB F (ρ.set i (some (rRef q))) ((q, O) :: w1) rest K) (hN : F.X.N.Nodup := by assumption) (hx : Loc F.X.env.scope x := by first | exact Or.inl rfl | exact Or.inr rfl)
    (hs : swapsWith e (some (.Name x p)) pos.line F.X.env = pure false := by rfl) (hf : F.X.fn x = true ∨ F.X.env.scope.names.lookup x = some .local := by first | exact .inl rfl | exact .inr rfl | assumption) :
    HB F ρ ω (.Assign [.Name x p] e pos :: rest) K := hb_setN i he h hN hi hx hs hf
end
theorem rng_map {lo : Int} {n : Nat} : rng lo n = (List.range n).map fun (k : Nat) => rInt (lo + (k : Int)) := rfl
end W1
set_option maxRecDepth 100000
set_option maxHeartbeats 2000000
namespace W1Q
open PySem

section
variable {M : Model} {A : Around} {E : Value → Shared → Prop} {s : Shared}
end
section
variable {prog : Program} {w : World} {K : Type} [DecidableEq K] {knd : KeyKind prog w K} {A : Around} {E : Value → Shared → Prop}
/-- what one turn of the merge does -/
abbrev turn (d o : Addr) (ep : Nat) : Nat → PUnit → Sem (ForInStep PUnit) := fun i _ => do
  let here ← dictEntries o
  match here[i]? with
  | some e => do
    holding [e.key, e.val] (if false = true then do
        let f ← dictFind d e.key e.hash
        if f.isSome = true then do
            rule "dict.merge.duplicate-key"
            let x ← newExc (.type "KeyError") [e.key]
            let r ← (raiseNew x : Sem Unit)
            dictPut d e.hash e.key e.val
          else dictPut d e.hash e.key e.val
      else dictPut d e.hash e.key e.val)
    let now ← dictEpoch o
    if (now != ep) = true then do
        (unsupported "dict.changed-during-merge" : Sem Unit)
        pure (ForInStep.yield PUnit.unit)
      else pure (ForInStep.yield PUnit.unit)
  | _ => do
    (unsupported "dict.changed-during-merge" : Sem Unit)
    pure (ForInStep.yield PUnit.unit)
end
end W1Q
set_option maxRecDepth 100000
set_option maxHeartbeats 2000000
namespace W1
open PySem PySem.Spec PyProof.Rows L2 NdefX TL NumText

/-! ### {**a, **b} -/
section
variable {X : Cx} {pins : List (Addr × Obj)} {σ : L2.St} {H : Hp} {s : Shared} {A : Around} {E : Value → Shared → Prop}
end
/-! ### dicts that are handed in -/
def DIn (A : Rl) (w : Ow) (fs : List (Key × Rl)) : Prop := A = rDct fs ∨ ∃ q, A = rRef q ∧ (q, oD fs) ∈ w
def mergeR (fs gs : List (Key × Rl)) : List (Key × Rl) := gs.foldl (fun acc kv => putKR acc kv.1 kv.2) fs
theorem NR.merge {H : Hp} : ∀ {gs fs : List (Key × Rl)} {ws vs : List (Key × V)}, NR fs vs H → NR gs ws H → NR (mergeR fs gs) (mergeK vs ws) H
  | [], _, [], _, h, _ => h
  | (_, R) :: gs, fs, (_, v) :: ws, vs, h, ⟨e, a, b⟩ => by
    subst e
    exact NR.merge (gs := gs) (ws := ws) (h.putK a) b
  | [], _, _ :: _, _, _, h => h.elim
  | _ :: _, _, [], _, _, h => h.elim
section
variable {F : Fx} {ρ : Ty} {ω w w1 w2 : Ow} {a b e : Expr} {A B R : Rl} {fs gs : List (Key × Rl)} {pos : Pos} {z : Addr × Ol}
theorem At.drop {G H : Hp} (h : At F (z :: w) G H) : At F w G H := ⟨h.gg, h.hh, h.gh, h.fr, h.mm, fun p hp => h.ow p (List.mem_cons_of_mem _ hp), (List.nodup_cons.mp h.nd).2⟩
theorem DIn.mem (h : DIn A w fs) (k : ∀ z ∈ w, z ∈ w1) : DIn A w1 fs := by
  rcases h with rfl | ⟨q, rfl, h⟩
  · exact .inl rfl
  · exact .inr ⟨q, rfl, k _ h⟩
theorem DIn.cons (h : DIn A w fs) : DIn A (z :: w) fs := h.mem fun _ k => List.mem_cons_of_mem _ k
theorem DIn.ne {p : Addr} {O : Ol} {G H : Hp} {x : V} (h : DIn A w fs) (at_ : At F ((p, O) :: w) G H) (hx : A.r x G) : ∃ q vs, x = .ref q ∧ p ≠ q ∧ Rd H q (.dK vs) ∧ NR fs vs G := by
  have hp := (at_.ow _ List.mem_cons_self).1
  rcases h with rfl | ⟨q, rfl, h⟩
  · obtain ⟨q, od, vs, rfl, h1, h2⟩ := hx
    exact ⟨q, vs, rfl, fun e => (by rw [e, h1] at hp; cases hp), .inr ⟨od, at_.gh _ _ h1⟩, h2⟩
  · obtain ⟨_, _, o, h1, vs, rfl, h2⟩ := at_.ow _ (List.mem_cons_of_mem _ h)
    have nd := (List.nodup_cons.mp at_.nd).1
    exact ⟨q, vs, hx, fun e => nd (e ▸ List.mem_map_of_mem (f := (·.1)) h), .inl h1, h2⟩
end
end W1
set_option maxRecDepth 100000
set_option maxHeartbeats 2000000
namespace W1
open PySem PySem.Spec PyProof.Rows L2 NdefX TL NumText

/-! ### amounts: names to ints -/
abbrev Am := List (Str × Int)
def fsA (am : Am) : List (Key × Rl) := am.map fun p => (Sum.inr p.1, rInt p.2)
def valA (am : Am) (g : Str) : Int := ((am.find? fun p => decide (p.1 = g)).map (·.2)).getD 0
def namesA (am : Am) : List Str := am.map (·.1)
theorem valR_An {am : Am} {g : Str} (h : g ∉ namesA am) : valR (fsA am) (.inr g) = none ∧ valA am g = 0 := by
  induction am with
  | nil => exact ⟨rfl, rfl⟩
  | cons p am ih =>
    obtain ⟨n, i⟩ := p
    have hn : ¬ n = g := fun z => h (z ▸ List.mem_cons_self)
    obtain ⟨h1, h2⟩ := ih fun z => h (List.mem_cons_of_mem _ z)
    unfold valR fsA valA at *
    rw [List.map_cons, List.find?_cons, List.find?_cons]
    have e1 : decide ((Sum.inr n : Key) = Sum.inr g) = false := decide_eq_false fun z => hn (Sum.inr.inj z)
    simp only [e1, hn, decide_false]
    exact ⟨h1, h2⟩
/-- a dict that is handed in: frozen, or owned -/
def DVar (A : Rl) (w : Ow) (fs : List (Key × Rl)) : Prop := (A = rDct fs ∧ w = []) ∨ ∃ q, A = rRef q ∧ w = [(q, oD fs)]
theorem bt_list : bootBuiltins "list" = some (.type "list") := by decide +kernel
section
variable {F : Fx} {ρ : Ty} {ω w : Ow} {e : Expr} {A : Rl} {am : Am} {p1 p2 pos1 pos2 : Pos}
end
/-! ### what is lent -/
def Sub (wc w : Ow) : Prop := ∃ r, w.Perm (wc ++ r)
theorem Sub.nil {w : Ow} : Sub [] w := ⟨w, List.Perm.refl _⟩
theorem Sub.refl {w : Ow} : Sub w w := ⟨[], by rw [List.append_nil]⟩
theorem Sub.app {a b : Ow} : Sub a (a ++ b) := ⟨b, List.Perm.refl _⟩
theorem Sub.cons {a w : Ow} {z : Addr × Ol} (h : Sub a w) : Sub a (z :: w) := by
  obtain ⟨r, p⟩ := h
  exact ⟨z :: r, (List.Perm.cons z p).trans List.perm_middle.symm⟩
theorem Sub.one {w : Ow} {z : Addr × Ol} (h : z ∈ w) : Sub [z] w := by
  obtain ⟨s, t, rfl⟩ := List.append_of_mem h
  exact ⟨s ++ t, List.perm_middle⟩
theorem Sub.both {a w : Ow} {z : Addr × Ol} (h : Sub a w) : Sub (z :: a) (z :: w) := by
  obtain ⟨r, p⟩ := h
  exact ⟨r, List.Perm.cons z p⟩
theorem Sub.ins {a w : Ow} {z : Addr × Ol} {i : Nat} (hi : w[i]? = some z) (h : Sub a (w.eraseIdx i)) : Sub (z :: a) w := by
  obtain ⟨r, p⟩ := h
  exact ⟨r, (perm_at (z' := z) hi).1.trans (List.Perm.cons z p)⟩
theorem DVar.sub {A : Rl} {wc w : Ow} {fs : List (Key × Rl)} (h : DVar A wc fs) (k : ∀ z ∈ wc, z ∈ w) : Sub wc w := by
  rcases h with ⟨_, rfl⟩ | ⟨q, _, rfl⟩
  · exact Sub.nil
  · exact Sub.one (k _ List.mem_cons_self)
section
variable {F : Fx} {ρ : Ty} {ω w w1 w2 w3 wc wc' : Ow} {a b c e o : Expr} {es : List Expr} {A B R S : Rl} {Rs As : List Rl} {P : Er} {pos p apos : Pos} {x m : Str} {k : Nat} {C q : Addr} {pre : Pre} {O O' : Ol} {fs : List (Str × Rl)} {K : Kn} {rest : List Stmt}
theorem er_cS (T : Kc F.X.prog F.X.w F.X.K F.X.mg F.X.base C x k pre) (hr : Room (k + 1) F.X.A) (ha : AR F ρ ω (e :: es) Rs w) (hs : Sub wc w) (hp : ∀ q, pre (rRef q :: Rs) ((q, oIns C []) :: wc) (.ok rNon) ((q, oIns C fs) :: wc))
    (hg : Gl F.X x := by rfl) (hdb : (x == ("__debug__" : Str)) = false := by decide) (he : starEach (e :: es) F.X.env = (false, eval e F.X.env) :: starEach es F.X.env := by rfl) (hpl : (backTo pos (starEach es F.X.env)).any (·.1) = false := by rfl) :
    ER F ρ ω (.Call (.Name x p) (e :: es) [] pos) (rIns C fs) w := by
  obtain ⟨r, pm⟩ := hs
  exact er_perm (er_cW T hr (ar_perm ha pm) hp rfl hg hdb he hpl) pm.symm
/-! ### what is given, by what holds of it -/
def EG (F : Fx) (ρ : Ty) (ω : Ow) (e : Expr) (Φ : Rl → Ow → Prop) : Prop :=
  ∀ σ G H, At F ω G H → Slots ρ σ G → ∀ Q : VK, (∀ v G2 H2 R w, Φ R w → Same G G2 → At F w G2 H2 → R.r v G2 → Q v H2) → EW F.X e σ H Q
def AG (F : Fx) (ρ : Ty) (ω : Ow) (es : List Expr) (Φ : List Rl → Ow → Prop) : Prop :=
  ∀ σ G H, At F ω G H → Slots ρ σ G → ∀ Q : List V → Hp → Prop, (∀ vs G2 H2 Rs w, Φ Rs w → Same G G2 → At F w G2 H2 → All2 Rs vs G2 → Q vs H2) → AW F.X es σ H Q
variable {Φ : Rl → Ow → Prop} {Ψ : List Rl → Ow → Prop}
theorem eg_er (h : ER F ρ ω e R w) (k : Φ R w) : EG F ρ ω e Φ := fun σ G H at_ sl Q q => h σ G H at_ sl Q fun v G2 H2 s a r => q v G2 H2 R w k s a r
theorem eg_en (h : EN F ρ ω e O w) (k : ∀ q, q ∉ F.M → Φ (rRef q) ((q, O) :: w)) : EG F ρ ω e Φ := fun σ G H at_ sl Q z => h σ G H at_ sl Q fun q G2 H2 hM s a => z _ G2 H2 _ _ (k q hM) s a rfl
theorem ag_nil (k : Ψ [] ω) : AG F ρ ω [] Ψ := fun σ G H at_ sl Q q => aw_of pa_nil (q [] G H [] ω k (Same.refl _) at_ trivial)
theorem ag_cons (h : EG F ρ ω e Φ) (hr : ∀ R w, Φ R w → AG F ρ w es fun Rs w' => Ψ (R :: Rs) w') (hs : starEach (e :: es) F.X.env = (false, eval e F.X.env) :: starEach es F.X.env := by rfl) : AG F ρ ω (e :: es) Ψ := fun σ G H at_ sl Q q =>
  aw_of (pa_cons pe_w pa_w hs) (h σ G H at_ sl _ fun v G2 H2 R w k s a r => hr R w k σ G2 H2 a (sl.up s) _ fun vs G3 H3 Rs w' k3 s3 a3 r3 => q _ G3 H3 (R :: Rs) w' k3 (s.trans s3) a3 ⟨R.mo _ _ _ s3 r, r3⟩)
/-- a list that stays as it is -/
theorem eg_lst (h : AG F ρ ω es fun Rs w => Rs.length ≤ 1000 ∧ Φ (rLst Rs) w) : EG F ρ ω (.List es pos) Φ := fun σ G H at_ sl Q q => by
  refine ew_of (pe_lst pa_w) (h σ G H at_ sl _ fun vs G2 H2 Rs w k s a r => ⟨Nat.le_of_lt (small1000 (by rw [← r.len]; exact k.1)), fun p hp => ?_⟩)
  have st := Step.new (o := .lst vs) a.gh hp
  exact q _ _ _ _ _ k.2 (s.trans st.gg) (a.step st) ⟨p, vs, rfl, upd_same, r.up st.gg⟩
theorem hb_setG (i : Nat) (hi : F.X.N[i]? = some x) (he : EG F ρ ω e Φ) (h : ∀ R w, Φ R w → HB F (ρ.set i (some R)) w rest K) (hN : F.X.N.Nodup := by assumption) (hx : Loc F.X.env.scope x := by first | exact Or.inl rfl | exact Or.inr rfl)
    (hs : swapsWith e (some (.Name x p)) pos.line F.X.env = pure false := by rfl) (hf : F.X.fn x = true ∨ F.X.env.scope.names.lookup x = some .local := by first | exact .inl rfl | exact .inr rfl | assumption) :
    HB F ρ ω (.Assign [.Name x p] e pos :: rest) K := hb_cons fun σ G H D at_ sl ps =>
  sw_of (ps_set hN hi hx pe_w hs hf) (he σ G H at_ sl _ fun v G2 H2 R w k s a r => h R w k _ G2 H2 D a ((sl.up s).set i r) (ps.up s))
theorem hb_drop {z : Addr × Ol} (h : HB F ρ w rest K) : HB F ρ (z :: w) rest K := fun σ G H D at_ sl ps => h σ G H D at_.drop sl ps
/-! ### a op b op' c -/
end
/-! ### dicts of plain values -/
end W1
set_option maxRecDepth 100000
set_option maxHeartbeats 2000000
namespace W1S
open PySem PySem.Spec PyProof.Rows L2

/-! ### a set of texts, by its entries -/
def nameOf (e : Int × Value) : Str := match e.2 with | .str x _ => x | _ => Str.empty
def IsTxt (w : World) (e : Int × Value) : Prop := ∃ x u, e = (hashStr w x, Value.str x u)
structure Fine (w : World) (es : Array (Int × Value)) (t : SetTable) (xs : List Str) : Prop where
  txt : ∀ e ∈ es.toList, IsTxt w e
  once : (es.toList.map nameOf).Nodup
  mem : ∀ x, x ∈ es.toList.map nameOf ↔ x ∈ xs
  few : es.size ≤ xs.length
  fits : t.fits es.size = true
  ris : Ris t.place.toList
  led : w.params.followText "set-order" = true ∨ t.led = true
section
variable {P : Program} {w : World} {es es' : Array (Int × Value)} {t t' : SetTable} {xs : List Str} {x : Str} {u : Tok}
theorem Fine.hit (f : Fine w es t xs) : x ∈ xs ↔ ∃ e ∈ es.toList, (PySem.strKind P w).is x e.2 = true := by
  rw [← f.mem, List.mem_map]
  refine exists_congr fun e => and_congr_right fun he => ?_
  obtain ⟨y, u, rfl⟩ := f.txt e he
  show y = x ↔ (Value.str y u).isStrOf x = true
  constructor
  · rintro rfl
    exact strKind_is P w y u
  · intro z
    obtain ⟨u', h⟩ := Value.isStrOf_shape z
    injection h
/-- the same entries in another order, under another table -/
theorem Fine.again (f : Fine w es t xs) (pm : es'.toList.Perm es.toList) (fits : t'.fits es'.size = true) (ris : Ris t'.place.toList) (led : t'.led = t.led) : Fine w es' t' xs where
  txt := fun e he => f.txt e (pm.mem_iff.mp he)
  once := (pm.map nameOf).nodup_iff.mpr f.once
  mem := fun x => (pm.map nameOf).mem_iff.trans (f.mem x)
  few := by rw [← Array.length_toList, pm.length_eq, Array.length_toList]; exact f.few
  fits := fits
  ris := ris
  led := by rw [led]; exact f.led
end
/-- the set of the texts xs, at a -/
def SetS (w : World) (h : Heap) (a : Addr) (xs : List Str) : Prop := ∃ o es ep t, h.get? a = some o ∧ o.ExactSet ∧ o.data = .set es ep t ∧ Fine w es t xs
section
variable {P : Program} {w : World} {A : Around} {E : Value → Shared → Prop} {s : Shared} {a : Addr} {xs : List Str}
theorem SetS.at {h h' : Heap} (S : SetS w h a xs) (k : ∀ o, h.get? a = some o → h'.get? a = some o) : SetS w h' a xs := by
  obtain ⟨o, es, ep, t, g, r⟩ := S
  exact ⟨o, es, ep, t, k o g, r⟩
end
end W1S
set_option maxRecDepth 100000
set_option maxHeartbeats 4000000
namespace W1S
open PySem PySem.Spec PyProof.Rows L2
section
variable {P : Program} {w : World} {A : Around} {E : Value → Shared → Prop} {s : Shared}
end
end W1S
set_option maxRecDepth 100000
set_option maxHeartbeats 4000000
namespace W1S
open PySem PySem.Spec PyProof.Rows L2
section
variable {P : Program} {w : World} {A : Around} {E : Value → Shared → Prop} {s : Shared}
end
end W1S
set_option maxRecDepth 100000
set_option maxHeartbeats 4000000
namespace W1S
open PySem PySem.Spec PyProof.Rows L2 TL
section
variable {P : Program} {w : World} {A : Around} {E : Value → Shared → Prop} {s : Shared}
/-- what stays while something is gathered -/
structure Kept (s s1 : Shared) : Prop where
  heap : ∀ b o, s.heap.get? b = some o → s1.heap.get? b = some o
  size : s.heap.objs.size ≤ s1.heap.objs.size
  gens : s1.gens = s.gens
  os : s1.os = s.os
end
/-! ### as calls over the layer -/
section
variable {X : Cx}
end
end W1S
namespace W1
open PySem PySem.Spec PyProof.Rows L2 NdefX TL NumText
section
variable {F : Fx} {ω w : Ow} {xs : List Str}
end
end W1
set_option maxRecDepth 100000
set_option maxHeartbeats 4000000
namespace W1S
open PySem PySem.Spec PyProof.Rows L2 TL
section
variable {prog : Program} {w : World} {A : Around} {E : Value → Shared → Prop} {s : Shared} {K : Type} [DecidableEq K] {knd : KeyKind prog w K}
end
section
variable {X : Cx}
end
end W1S
namespace W1
open PySem PySem.Spec PyProof.Rows L2 NdefX TL NumText
end W1
set_option maxRecDepth 100000
set_option maxHeartbeats 2000000
namespace W1
open PySem PySem.Spec PyProof.Rows L2 NdefX TL NumText

/-! ### freezing what others hold -/
def Fz (q : Addr) (fs : List (Key × Rl)) (G : Hp) : Prop := ∃ od vs, G q = some (.frz od (.dK vs)) ∧ NR fs vs G
def Tr (q : Addr) (fs : List (Key × Rl)) (R R' : Rl) : Prop := ∀ v G, Fz q fs G → R.r v G → R'.r v G
def TrO (q : Addr) (fs : List (Key × Rl)) (O O' : Ol) : Prop := ∀ o G, Fz q fs G → O.c o G → O'.c o G
inductive TrL (q : Addr) (fs : List (Key × Rl)) : List Rl → List Rl → Prop where
  | nil : TrL q fs [] []
  | cons {R R' : Rl} {Rs Rs' : List Rl} (h : Tr q fs R R') (t : TrL q fs Rs Rs') : TrL q fs (R :: Rs) (R' :: Rs')
inductive TrS (q : Addr) (fs : List (Key × Rl)) : Ty → Ty → Prop where
  | nil : TrS q fs [] []
  | gone {ρ ρ' : Ty} {R : Option Rl} (t : TrS q fs ρ ρ') : TrS q fs (R :: ρ) (Option.none :: ρ')
  | held {ρ ρ' : Ty} {R R' : Rl} (h : Tr q fs R R') (t : TrS q fs ρ ρ') : TrS q fs (Option.some R :: ρ) (Option.some R' :: ρ')
inductive TrW (q : Addr) (fs : List (Key × Rl)) : Ow → Ow → Prop where
  | nil : TrW q fs [] []
  | cons {p : Addr} {O O' : Ol} {w w' : Ow} (h : TrO q fs O O') (t : TrW q fs w w') : TrW q fs ((p, O) :: w) ((p, O') :: w')
section
variable {q : Addr} {fs : List (Key × Rl)} {R : Rl} {O : Ol} {Rs Rs' : List Rl} {ρ ρ' : Ty} {w w' : Ow}
theorem Tr.same : Tr q fs R R := fun _ _ _ h => h
theorem TrO.same : TrO q fs O O := fun _ _ _ h => h
theorem Tr.ref : Tr q fs (rRef q) (rDct fs) := fun v G ⟨od, vs, a, b⟩ e => ⟨q, od, vs, e, a, b⟩
theorem TrL.all (t : TrL q fs Rs Rs') : ∀ {vs : List V} {G : Hp}, Fz q fs G → All2 Rs vs G → All2 Rs' vs G := by
  induction t with
  | nil => intro vs G _ h; exact h
  | cons h t ih =>
    intro vs G z a
    match vs, a with
    | v :: vs, ⟨a1, a2⟩ => exact ⟨h v G z a1, ih z a2⟩
theorem Tr.lst (t : TrL q fs Rs Rs') : Tr q fs (rLst Rs) (rLst Rs') := fun v G z ⟨p, vs, a, b, c⟩ => ⟨p, vs, a, b, t.all z c⟩
theorem TrO.lst (t : TrL q fs Rs Rs') : TrO q fs (oL Rs) (oL Rs') := fun o G z ⟨vs, a, c⟩ => ⟨vs, a, t.all z c⟩
theorem TrL.refl : ∀ {Rs : List Rl}, TrL q fs Rs Rs
  | [] => .nil
  | _ :: _ => .cons Tr.same TrL.refl
theorem TrW.refl : ∀ {w : Ow}, TrW q fs w w
  | [] => .nil
  | _ :: _ => .cons TrO.same TrW.refl
theorem TrS.refl : ∀ {ρ : Ty}, TrS q fs ρ ρ
  | [] => .nil
  | none :: _ => .gone TrS.refl
  | some _ :: _ => .held Tr.same TrS.refl
theorem TrS.at (t : TrS q fs ρ ρ') : ρ.length = ρ'.length ∧ ∀ (i : Nat) R', ρ'[i]? = some (some R') → ∃ R, ρ[i]? = some (some R) ∧ Tr q fs R R' := by
  induction t with
  | nil => exact ⟨rfl, fun i R' e => by simp at e⟩
  | gone t ih =>
    refine ⟨by rw [List.length_cons, List.length_cons, ih.1], fun i R' e => ?_⟩
    cases i with
    | zero => cases e
    | succ i => exact ih.2 i R' e
  | held h t ih =>
    refine ⟨by rw [List.length_cons, List.length_cons, ih.1], fun i R' e => ?_⟩
    cases i with
    | zero =>
      cases e
      exact ⟨_, rfl, h⟩
    | succ i => exact ih.2 i R' e
theorem TrW.at (t : TrW q fs w w') : keys w = keys w' ∧ ∀ p ∈ w', ∃ O, (p.1, O) ∈ w ∧ TrO q fs O p.2 := by
  induction t with
  | nil => exact ⟨rfl, fun p h => by cases h⟩
  | @cons p O O' w w' h t ih =>
    refine ⟨by unfold keys at ih ⊢; rw [List.map_cons, List.map_cons, ih.1], fun z hz => ?_⟩
    rcases List.mem_cons.mp hz with rfl | hz
    · exact ⟨O, List.mem_cons_self, h⟩
    · obtain ⟨O2, h1, h2⟩ := ih.2 z hz
      exact ⟨O2, List.mem_cons_of_mem _ h1, h2⟩
end
section
variable {F : Fx} {ρ ρ' : Ty} {ω w w' w1 w2 : Ow} {e a b o : Expr} {es : List Expr} {R : Rl} {Rs As : List Rl} {O : Ol} {q : Addr} {fs : List (Key × Rl)} {K : Kn} {rest : List Stmt} {pos p : Pos} {x : Str}
/-! ### a new thing from a built-in, from a method -/
def CopN (F : Fx) (ω : Ow) (f : Value) (As : List Rl) (O : Ol) : Prop :=
  ∃ r : List V → Hp → VK → Prop, CallR F.X f r ∧ ∀ xs G H, At F ω G H → All2 As xs G → ∀ Q : VK, (∀ q G2 H2, q ∉ F.M → Same G G2 → At F ((q, O) :: ω) G2 H2 → Q (.ref q) H2) → r xs H Q
def Kmn (P : Program) (w : World) (K : PySem.W.Frag) (mg : Str → Option Value) (base : Heap) (C : Addr) (m : Str) (k : Nat) (pre : PreN) : Prop := ∃ f fd ps, Meth K C m f ∧ Binds K fd ps [] ∧ FnOk P w K mg base (L2.CX P w) k f fd ps (spN pre)
theorem en_m0 {C : Addr} {m : Str} {k : Nat} {pre : PreN} {gs : List (Str × Rl)} {apos : Pos} {pl : Sem Bool} (T : Kmn F.X.prog F.X.w F.X.K F.X.mg F.X.base C m k pre) (hc : Cls F.X.K C) (hr : Room k F.X.A) (ho : ER F ρ ω o (rIns C gs) w) (hp : pre [rIns C gs] [] O []) (hno : gs.lookup m = none := by rfl)
    (ht : eval (.Call (.Attribute o m apos) [] [] pos) F.X.env = (do
      let ov ← eval o F.X.env
      standAt apos.atName
      let (f, first) ← holding [ov] (getMethod ov m pl)
      callWith pos f first (backTo pos (starEach [] F.X.env)) (backToKw pos (keywordEach [] F.X.env))) := by rfl) :
    EN F ρ ω (.Call (.Attribute o m apos) [] [] pos) O w := fun σ G H at_ sl Q q => by
  obtain ⟨f, fd, ps, hm, hb, Fn⟩ := T
  refine ew_of (pe_methS0 (E := WE F.W) pe_w hc hm Fn hr hb passW ht) (ho σ G H at_ sl _ fun v G1 H1 s1 a1 r1 => ?_)
  obtain ⟨a, dx, vs, rfl, h1, h2⟩ := id r1
  refine ⟨a, dx, vs, rfl, a1.gh _ _ h1, h2.lookN hno, [rIns C gs], [], O, [], G1, hp, a1.gh, ⟨r1, trivial⟩, fun _ h => (by cases h), List.nodup_nil, rfl, fun q2 G2 H2 hq st hh => ?_⟩
  obtain ⟨hM, a3⟩ := At.newcall (wc := []) (wc' := []) (w := w) a1 st hq hh rfl
  exact q q2 G2 H2 hM (s1.trans st.gg) a3
/-! ### a comprehension whose elements may make new things -/
variable {tg it elt : Expr} {scope : Scope} {S : Rl}
end
/-! ### == of dicts inside lists -/
end W1
set_option maxRecDepth 100000
set_option maxHeartbeats 2000000
namespace W1
open PySem PySem.Spec PyProof.Rows L2 TL NumText

/-! ### data, compared whole -/
section
variable {K : PySem.W.Frag} {A : Rl} {As : List Rl} {d e : PyData} {ds : List PyData}
end
section
variable {F : Fx} {w : Ow} {A B : Rl} {d e : PyData} {n : Nat}
end
/-! ### a text, some times over -/
/-! ### range by steps, enumerate -/
theorem fits {i : Int} (h1 : -2000000 ≤ i) (h2 : i ≤ 2000000) : Builtin.Range.rangeFitsLong i = true := by
  unfold Builtin.Range.rangeFitsLong
  rw [decide_eq_true (by omega), decide_eq_true (by omega)]
  rfl
section
variable {F : Fx} {ρ ρ1 : Ty} {ω w1 : Ow} {tg e e2 e3 : Expr} {pos p : Pos} {Rs : List Rl} {R : Rl}
/-- the things with their numbers -/
def numR (Rs : List Rl) : List Rl := Rs.zipIdx.map fun p => rTup [rInt (p.2 : Int), p.1]
theorem numR_len : (numR Rs).length = Rs.length := by unfold numR; rw [List.length_map, List.length_zipIdx]
theorem numR_get {i : Nat} {S : Rl} (h : (numR Rs)[i]? = some S) : ∃ R, Rs[i]? = some R ∧ S = rTup [rInt (i : Int), R] := by
  unfold numR at h
  rw [List.getElem?_map, List.getElem?_zipIdx] at h
  cases e : Rs[i]? with
  | none => rw [e] at h; cases h
  | some R =>
    rw [e] at h
    cases h
    exact ⟨R, rfl, by show rTup [rInt ((0 + i : Nat) : Int), R] = _; rw [Nat.zero_add]⟩
end
/-! ### l += a list, l an owned one; len of an owned one -/
section
variable {X : Cx}
end
end W1
set_option maxRecDepth 100000
set_option maxHeartbeats 2000000
namespace W1
open PySem PySem.Spec PyProof.Rows L2 TL NumText

/-! ### sorted, of any length -/
/-! ### sorted pairs of a name and a number -/
def shP : Nat → Bool := fun i => i == 0
def keyP (p : Str × Int) : List (Int ⊕ List Nat) := [.inr (tl p.1), .inl p.2]
/-- such a pair in the heap -/
def IsP (h : Heap) (u : Value) (p : Str × Int) : Prop := ∃ t o t1 t2 n, u = .ref t ∧ h.get? t = some o ∧ o.cls = .type "tuple" ∧ o.data = .seq #[.str p.1 t1, .int p.2 t2] n
theorem IsP.key {h : Heap} {u : Value} {p : Str × Int} (k : IsP h u p) : tupKey h shP u = some (keyP p) := by
  obtain ⟨t, o, t1, t2, n, rfl, ho, hc, hd⟩ := k
  unfold tupKey
  simp only [ho, hd, tupItems, shP]
  rfl
theorem IsP.up {h h' : Heap} {u : Value} {p : Str × Int} (k : IsP h u p) (s : ∀ b o, h.get? b = some o → o.cls = .type "tuple" → h'.get? b = some o) : IsP h' u p := by
  obtain ⟨t, o, t1, t2, n, e, ho, hc, hd⟩ := k
  exact ⟨t, o, t1, t2, n, e, s _ _ ho hc, hc, hd⟩
/-! ### lists that are owned: len, a text's split as one, += -/
section
variable {F : Fx} {ρ : Ty} {ω w w1 w2 : Ow} {e o : Expr} {es : List Expr} {A R : Rl} {As Rs Ss : List Rl} {K : Kn} {rest : List Stmt} {q : Addr} {pos p apos : Pos} {x : Str} {y z : Str}
theorem cop_lenO (h : (q, oL Rs) ∈ w) : Cop F w (.builtin "len") [rRef q] (rInt (Rs.length : Int)) := by
  refine ⟨_, call_len_seq, fun xs G H at_ hx Q k => ?_⟩
  obtain ⟨v, rfl, hv⟩ := all1 hx
  cases (show v = V.ref q from hv)
  obtain ⟨_, _, o, h1, vs, rfl, h2⟩ := at_.ow _ h
  have e2 : (vs.length : Int) = (Rs.length : Int) := by rw [h2.len]
  exact ⟨q, vs, rfl, .inl (SqL.of h1), k _ G H (Same.refl _) at_ (congrArg V.int e2)⟩
end
end W1
set_option maxRecDepth 100000
set_option maxHeartbeats 2000000
namespace W1
open PySem PySem.Spec PyProof.Rows L2 TL NumText

/-! ### a comprehension that carries a state from turn to turn: tested, then made -/
section
variable {F : Fx} {ρ : Ty} {ω w w1 w2 : Ow} {e o it elt c : Expr} {es : List Expr} {A R : Rl} {As Rs Ss : List Rl} {K : Kn} {rest : List Stmt} {q : Addr} {pos p apos spos py : Pos} {x y : Str} {scope : Scope} {α β γ : Type}
/-! ### l += a list; a split that is owned -/
end
end W1
set_option maxRecDepth 100000
set_option maxHeartbeats 2000000
namespace W1
open PySem PySem.Spec PyProof.Rows L2 TL NumText
section
variable {F : Fx} {ρ : Ty} {ω w1 w2 : Ow} {a b : Expr} {A : Rl} {fs : List (Key × Rl)} {k : Key} {n : Nat} {pos : Pos}
end
end W1
set_option maxRecDepth 100000
set_option maxHeartbeats 2000000
namespace W1
open PySem PySem.Spec PyProof.Rows L2 TL NumText
/-! ### what raises inside: arguments, a if c else b -/
section
variable {F : Fx} {ρ : Ty} {ω w w1 w2 : Ow} {a b c e : Expr} {es : List Expr} {R : Rl} {P : Er} {pos p : Pos} {x : Str} {k : Nat} {C : Addr} {pre : Pre}
end
/-! ### cut at a sign, or at some -/
end W1
set_option maxRecDepth 100000
set_option maxHeartbeats 2000000
namespace W1
open PySem PySem.Spec PyProof.Rows L2 TL NumText
/-! ### a comprehension over pairs -/
theorem gew_tup2 {K : PySem.W.Frag} {i j : Nat} {ρ : Ty} {R S : Rl} : GEw (gTup K 2 (gCons (gName i) (gCons (gName j) gNil))) [i, j] ρ (rTup [R, S]) ((((ρ.set j none).set i none).set i (some R)).set j (some S)) := fun v σ G H Q s sl r q => by
  obtain ⟨a, vs, rfl, h1, h2⟩ := r
  obtain ⟨x, y, rfl, hx, hy⟩ := all2 h2
  refine ⟨a, [x, y], rfl, SqT.of (s _ _ h1), rfl, x, [y], rfl, y, [], rfl, rfl, q _ ?_ ((((sl.gone j).gone i).set i hx).set j hy)⟩
  show (((((σ.set j none).set i none).set i (some x)).set j (some y)).set j none).set i none = (σ.set j none).set i none
  by_cases e : i = j
  · subst e
    simp only [List.set_set]
  · simp only [List.set_set, List.set_comm (i := i) (j := j) _ _ e]
/-! ### a thing that is known by a property -/
section
variable {F : Fx} {ρ : Ty} {ω w : Ow} {K : Kn} {rest : List Stmt} {L : Nat}
end
/-! ### lengths and signs of what is cut and joined -/
end W1
set_option maxRecDepth 100000
set_option maxHeartbeats 2000000
namespace W1
open PySem PySem.Spec PyProof.Rows L2

/-! ### promises of several new things -/
abbrev OutG := Except (Er × Ow) (Rl → Ow → Prop)
abbrev PreG := List Rl → Ow → OutG → Prop
def Fresh (ω ω' : Ow) (H : Hp) : Prop := (keys ω').Nodup ∧ (∀ a ∈ keys ω, a ∈ keys ω') ∧ ∀ a ∈ keys ω', a ∈ keys ω ∨ H a = none
def spG (pre : PreG) : Sp := fun vs H Q E => ∃ Rs ω o G, pre Rs ω o ∧ Same G H ∧ All2 Rs vs G ∧ Has ω G H ∧ (keys ω).Nodup ∧
  (match o with
    | .ok Φ => ∀ R ω' v G' H', Φ R ω' → Fresh ω ω' H → StepM (keys ω) G H G' H' → Has ω' G' H' → R.r v G' → Q v H'
    | .error P => keys P.2 = keys ω ∧ ∀ cls d G' H', StepM (keys ω) G H G' H' → Has P.2 G' H' → P.1 cls d G' → E cls d H')
section
variable {F : Fx} {w wc : Ow} {pre : PreG} {Rs : List Rl} {Φ : Rl → Ow → Prop} {vs : List V} {G H : Hp} {Q : VK} {E : XK}
end
section
variable (P : Program) (w : World) (K : PySem.W.Frag) (mg : Str → Option Value) (base : Heap)
def KfG1 (x : Str) (k : Nat) (pre : PreG) : Prop := ∃ f fd ps, mg x = some (.ref f) ∧ PySem.W.keepIn K (.ref f) = true ∧ Binds K fd ps [] ∧ FnOk P w K mg base (L2.CX P w) k f fd ps (spG pre)
end
section
variable {F : Fx} {ρ : Ty} {ω w w1 w2 wc wc' : Ow} {e o : Expr} {es : List Expr} {R S : Rl} {Rs : List Rl} {P : Er} {pos p apos : Pos} {x m : Str} {k : Nat} {C q : Addr} {pre : PreG} {fs : List (Str × Rl)} {Φ : Rl → Ow → Prop} {K : Kn} {rest : List Stmt} {O : Ol}
/-- what a field holds is owned no more -/
theorem NR.chg {f : Str} {A B : Rl} {H : Hp} (hAB : ∀ v, A.r v H → B.r v H) : ∀ {fs : List (Str × Rl)} {vs : List (Str × V)}, fs.lookup f = some A → NR fs vs H → NR (putR f B fs) vs H
  | [], _, e, _ => by cases e
  | (g, S) :: fs, (g', u) :: vs, e, ⟨e1, a, b⟩ => by
    subst e1
    unfold putR
    by_cases hg : g = f
    · subst hg
      rw [List.lookup_cons_self] at e
      cases e
      rw [if_pos rfl]
      exact ⟨rfl, hAB _ a, b⟩
    · have hb : (f == g) = false := by simpa using fun z => hg z.symm
      rw [List.lookup_cons, hb] at e
      rw [if_neg hg]
      exact ⟨rfl, a, NR.chg hAB e b⟩
  | _ :: _, [], _, h => h.elim
end
section
variable {F : Fx} {ρ : Ty} {ω w w1 w2 wc wc' : Ow} {e o : Expr} {es : List Expr} {R S : Rl} {Rs : List Rl} {P : Er} {pos p apos : Pos} {x m : Str} {k : Nat} {C q : Addr} {pre : Pre} {fs : List (Str × Rl)} {K : Kn} {rest : List Stmt} {O : Ol}
end
end W1
set_option maxRecDepth 100000
set_option maxHeartbeats 2000000
namespace W1
open PySem PySem.Spec PyProof.Rows L2 NdefX
def top (i : Nat) : Stmt := PySem.Challenge.pw_waysofmaking_k55_polynomials.main.body.getD i (.Pass ⟨0, 0, 0, 0⟩)
abbrev s_BadNumber___init__ : Stmt := inClass (top 3) 0
abbrev P_BadNumber___init__ : List Str := ["self", "n"]
theorem c_BadNumber___init__ : NScope (["self", "n", "__class__"] : List Str) P_BadNumber___init__ ["__class__"] (defScope s_BadNumber___init__) := nscope_by (by decide +kernel)
abbrev s_common : Stmt := top 7
abbrev N_common : List Str := ["a", "b", "one", "other"]
abbrev P_common : List Str := ["a", "b"]
theorem c_common : FnScope N_common P_common (defScope s_common) := ⟨rfl, rfl, rfl, by decide +kernel, rfl, by decide +kernel, by decide +kernel⟩
abbrev s_Ratio___init__ : Stmt := inClass (top 10) 0
abbrev N_Ratio___init__ : List Str := ["self", "top", "bottom", "divisor"]
abbrev P_Ratio___init__ : List Str := ["self", "top", "bottom"]
theorem c_Ratio___init__ : FnScope N_Ratio___init__ P_Ratio___init__ (defScope s_Ratio___init__) := ⟨rfl, rfl, rfl, by decide +kernel, rfl, by decide +kernel, by decide +kernel⟩
abbrev s_Ratio_whole : Stmt := inClass (top 10) 1
abbrev N_Ratio_whole : List Str := ["cls", "n"]
abbrev P_Ratio_whole : List Str := ["cls", "n"]
theorem c_Ratio_whole : FnScope N_Ratio_whole P_Ratio_whole (defScope s_Ratio_whole) := ⟨rfl, rfl, rfl, by decide +kernel, rfl, by decide +kernel, by decide +kernel⟩
abbrev s_Ratio___add__ : Stmt := inClass (top 10) 3
abbrev N_Ratio___add__ : List Str := ["self", "other"]
abbrev P_Ratio___add__ : List Str := ["self", "other"]
theorem c_Ratio___add__ : FnScope N_Ratio___add__ P_Ratio___add__ (defScope s_Ratio___add__) := ⟨rfl, rfl, rfl, by decide +kernel, rfl, by decide +kernel, by decide +kernel⟩
abbrev s_Ratio___sub__ : Stmt := inClass (top 10) 4
abbrev N_Ratio___sub__ : List Str := ["self", "other"]
abbrev P_Ratio___sub__ : List Str := ["self", "other"]
theorem c_Ratio___sub__ : FnScope N_Ratio___sub__ P_Ratio___sub__ (defScope s_Ratio___sub__) := ⟨rfl, rfl, rfl, by decide +kernel, rfl, by decide +kernel, by decide +kernel⟩
abbrev s_Ratio___neg__ : Stmt := inClass (top 10) 5
abbrev N_Ratio___neg__ : List Str := ["self"]
abbrev P_Ratio___neg__ : List Str := ["self"]
theorem c_Ratio___neg__ : FnScope N_Ratio___neg__ P_Ratio___neg__ (defScope s_Ratio___neg__) := ⟨rfl, rfl, rfl, by decide +kernel, rfl, by decide +kernel, by decide +kernel⟩
abbrev s_Ratio___mul__ : Stmt := inClass (top 10) 6
abbrev N_Ratio___mul__ : List Str := ["self", "other"]
abbrev P_Ratio___mul__ : List Str := ["self", "other"]
theorem c_Ratio___mul__ : FnScope N_Ratio___mul__ P_Ratio___mul__ (defScope s_Ratio___mul__) := ⟨rfl, rfl, rfl, by decide +kernel, rfl, by decide +kernel, by decide +kernel⟩
abbrev s_Ratio___eq__ : Stmt := inClass (top 10) 7
abbrev N_Ratio___eq__ : List Str := ["self", "other"]
abbrev P_Ratio___eq__ : List Str := ["self", "other"]
theorem c_Ratio___eq__ : FnScope N_Ratio___eq__ P_Ratio___eq__ (defScope s_Ratio___eq__) := ⟨rfl, rfl, rfl, by decide +kernel, rfl, by decide +kernel, by decide +kernel⟩
abbrev s_Ratio___bool__ : Stmt := inClass (top 10) 8
abbrev N_Ratio___bool__ : List Str := ["self"]
abbrev P_Ratio___bool__ : List Str := ["self"]
theorem c_Ratio___bool__ : FnScope N_Ratio___bool__ P_Ratio___bool__ (defScope s_Ratio___bool__) := ⟨rfl, rfl, rfl, by decide +kernel, rfl, by decide +kernel, by decide +kernel⟩
abbrev s_Ratio_quotient : Stmt := inClass (top 10) 10
abbrev N_Ratio_quotient : List Str := ["self", "other"]
abbrev P_Ratio_quotient : List Str := ["self", "other"]
theorem c_Ratio_quotient : FnScope N_Ratio_quotient P_Ratio_quotient (defScope s_Ratio_quotient) := ⟨rfl, rfl, rfl, by decide +kernel, rfl, by decide +kernel, by decide +kernel⟩
abbrev s_total : Stmt := top 11
abbrev N_total : List Str := ["ratios", "found", "ratio"]
abbrev P_total : List Str := ["ratios"]
theorem c_total : FnScope N_total P_total (defScope s_total) := ⟨rfl, rfl, rfl, by decide +kernel, rfl, by decide +kernel, by decide +kernel⟩
abbrev s_trimmed : Stmt := top 13
abbrev N_trimmed : List Str := ["numbers", "found"]
abbrev P_trimmed : List Str := ["numbers"]
theorem c_trimmed : FnScope N_trimmed P_trimmed (defScope s_trimmed) := ⟨rfl, rfl, rfl, by decide +kernel, rfl, by decide +kernel, by decide +kernel⟩
abbrev s_Poly___init__ : Stmt := inClass (top 14) 0
abbrev N_Poly___init__ : List Str := ["self", "coefficients"]
abbrev P_Poly___init__ : List Str := ["self", "coefficients"]
theorem c_Poly___init__ : FnScope N_Poly___init__ P_Poly___init__ (defScope s_Poly___init__) := ⟨rfl, rfl, rfl, by decide +kernel, rfl, by decide +kernel, by decide +kernel⟩
abbrev s_Poly_whole : Stmt := inClass (top 14) 1
abbrev s_Poly___eq__ : Stmt := inClass (top 14) 2
abbrev N_Poly___eq__ : List Str := ["self", "other"]
abbrev P_Poly___eq__ : List Str := ["self", "other"]
theorem c_Poly___eq__ : FnScope N_Poly___eq__ P_Poly___eq__ (defScope s_Poly___eq__) := ⟨rfl, rfl, rfl, by decide +kernel, rfl, by decide +kernel, by decide +kernel⟩
abbrev s_Poly___bool__ : Stmt := inClass (top 14) 3
abbrev N_Poly___bool__ : List Str := ["self"]
abbrev P_Poly___bool__ : List Str := ["self"]
theorem c_Poly___bool__ : FnScope N_Poly___bool__ P_Poly___bool__ (defScope s_Poly___bool__) := ⟨rfl, rfl, rfl, by decide +kernel, rfl, by decide +kernel, by decide +kernel⟩
abbrev s_Poly___add__ : Stmt := inClass (top 14) 4
abbrev N_Poly___add__ : List Str := ["self", "other", "size", "at"]
abbrev P_Poly___add__ : List Str := ["self", "other"]
theorem c_Poly___add__ : FnScope N_Poly___add__ P_Poly___add__ (defScope s_Poly___add__) := ⟨rfl, rfl, rfl, by decide +kernel, rfl, by decide +kernel, by decide +kernel⟩
abbrev s_Poly___sub__ : Stmt := inClass (top 14) 5
abbrev N_Poly___sub__ : List Str := ["self", "other", "size", "at"]
abbrev P_Poly___sub__ : List Str := ["self", "other"]
theorem c_Poly___sub__ : FnScope N_Poly___sub__ P_Poly___sub__ (defScope s_Poly___sub__) := ⟨rfl, rfl, rfl, by decide +kernel, rfl, by decide +kernel, by decide +kernel⟩
abbrev s_Poly___neg__ : Stmt := inClass (top 14) 6
abbrev N_Poly___neg__ : List Str := ["self", "part"]
abbrev P_Poly___neg__ : List Str := ["self"]
theorem c_Poly___neg__ : FnScope N_Poly___neg__ P_Poly___neg__ (defScope s_Poly___neg__) := ⟨rfl, rfl, rfl, by decide +kernel, rfl, by decide +kernel, by decide +kernel⟩
abbrev s_Poly___mul__ : Stmt := inClass (top 14) 7
abbrev N_Poly___mul__ : List Str := ["self", "other", "size", "at"]
abbrev P_Poly___mul__ : List Str := ["self", "other"]
theorem c_Poly___mul__ : FnScope N_Poly___mul__ P_Poly___mul__ (defScope s_Poly___mul__) := ⟨rfl, rfl, rfl, by decide +kernel, rfl, by decide +kernel, by decide +kernel⟩
abbrev s_Poly_coefficients : Stmt := inClass (top 14) 8
abbrev N_Poly_coefficients : List Str := ["self"]
abbrev P_Poly_coefficients : List Str := ["self"]
theorem c_Poly_coefficients : FnScope N_Poly_coefficients P_Poly_coefficients (defScope s_Poly_coefficients) := ⟨rfl, rfl, rfl, by decide +kernel, rfl, by decide +kernel, by decide +kernel⟩
abbrev s_Poly_degree : Stmt := inClass (top 14) 9
abbrev N_Poly_degree : List Str := ["self"]
abbrev P_Poly_degree : List Str := ["self"]
theorem c_Poly_degree : FnScope N_Poly_degree P_Poly_degree (defScope s_Poly_degree) := ⟨rfl, rfl, rfl, by decide +kernel, rfl, by decide +kernel, by decide +kernel⟩
abbrev s_Poly_value : Stmt := inClass (top 14) 10
abbrev N_Poly_value : List Str := ["self", "number", "found", "part"]
abbrev P_Poly_value : List Str := ["self", "number"]
theorem c_Poly_value : FnScope N_Poly_value P_Poly_value (defScope s_Poly_value) := ⟨rfl, rfl, rfl, by decide +kernel, rfl, by decide +kernel, by decide +kernel⟩
abbrev s_Poly_slope : Stmt := inClass (top 14) 11
abbrev N_Poly_slope : List Str := ["self", "at", "part"]
abbrev P_Poly_slope : List Str := ["self"]
theorem c_Poly_slope : FnScope N_Poly_slope P_Poly_slope (defScope s_Poly_slope) := ⟨rfl, rfl, rfl, by decide +kernel, rfl, by decide +kernel, by decide +kernel⟩
abbrev s_part_of : Stmt := top 15
abbrev N_part_of : List Str := ["parts", "at"]
abbrev P_part_of : List Str := ["parts", "at"]
theorem c_part_of : FnScope N_part_of P_part_of (defScope s_part_of) := ⟨rfl, rfl, rfl, by decide +kernel, rfl, by decide +kernel, by decide +kernel⟩
abbrev s_product_part : Stmt := top 16
abbrev N_product_part : List Str := ["first", "second", "at", "place", "part"]
abbrev P_product_part : List Str := ["first", "second", "at"]
theorem c_product_part : FnScope N_product_part P_product_part (defScope s_product_part) := ⟨rfl, rfl, rfl, by decide +kernel, rfl, by decide +kernel, by decide +kernel⟩
abbrev s_divided : Stmt := top 17
abbrev N_divided : List Str := ["first", "second", "rest", "found", "factor", "step"]
abbrev P_divided : List Str := ["first", "second"]
theorem c_divided : FnScope N_divided P_divided (defScope s_divided) := ⟨rfl, rfl, rfl, by decide +kernel, rfl, by decide +kernel, by decide +kernel⟩
abbrev s_common_divisor : Stmt := top 18
abbrev N_common_divisor : List Str := ["first", "second", "one", "other"]
abbrev P_common_divisor : List Str := ["first", "second"]
theorem c_common_divisor : FnScope N_common_divisor P_common_divisor (defScope s_common_divisor) := ⟨rfl, rfl, rfl, by decide +kernel, rfl, by decide +kernel, by decide +kernel⟩
abbrev s__law_cell : Stmt := top 20
abbrev N__law_cell : List Str := ["_law_script", "_law_k"]
abbrev P__law_cell : List Str := ["_law_script", "_law_k"]
theorem c__law_cell : FnScope N__law_cell P__law_cell (defScope s__law_cell) := ⟨rfl, rfl, rfl, by decide +kernel, rfl, by decide +kernel, by decide +kernel⟩
abbrev s__law_pool : Stmt := top 21
abbrev N__law_pool : List Str := ["_law_cell_here"]
abbrev P__law_pool : List Str := ["_law_cell_here"]
theorem c__law_pool : FnScope N__law_pool P__law_pool (defScope s__law_pool) := ⟨rfl, rfl, rfl, by decide +kernel, rfl, by decide +kernel, by decide +kernel⟩
abbrev s__law_take : Stmt := top 22
abbrev N__law_take : List Str := ["_law_pool_here", "_law_limit", "_law_digit", "_law_made"]
abbrev P__law_take : List Str := ["_law_pool_here", "_law_limit"]
theorem c__law_take : FnScope N__law_take P__law_take (defScope s__law_take) := ⟨rfl, rfl, rfl, by decide +kernel, rfl, by decide +kernel, by decide +kernel⟩
abbrev s__law_shuffled : Stmt := top 23
abbrev N__law_shuffled : List Str := ["_law_pool_here", "_law_items", "_law_left", "_law_told", "_law_k"]
abbrev P__law_shuffled : List Str := ["_law_pool_here", "_law_items"]
theorem c__law_shuffled : FnScope N__law_shuffled P__law_shuffled (defScope s__law_shuffled) := ⟨rfl, rfl, rfl, by decide +kernel, rfl, by decide +kernel, by decide +kernel⟩
abbrev s__law_row : Stmt := top 24
abbrev N__law_row : List Str := ["_law_pool_here", "_law_most", "_law_row_here", "_law_k"]
abbrev P__law_row : List Str := ["_law_pool_here", "_law_most"]
theorem c__law_row : FnScope N__law_row P__law_row (defScope s__law_row) := ⟨rfl, rfl, rfl, by decide +kernel, rfl, by decide +kernel, by decide +kernel⟩
abbrev s__law_cut : Stmt := top 25
abbrev N__law_cut : List Str := ["_law_row_here"]
abbrev P__law_cut : List Str := ["_law_row_here"]
theorem c__law_cut : FnScope N__law_cut P__law_cut (defScope s__law_cut) := ⟨rfl, rfl, rfl, by decide +kernel, rfl, by decide +kernel, by decide +kernel⟩
abbrev s__law_at_place : Stmt := top 26
abbrev N__law_at_place : List Str := ["_law_row_here", "_law_k"]
abbrev P__law_at_place : List Str := ["_law_row_here", "_law_k"]
theorem c__law_at_place : FnScope N__law_at_place P__law_at_place (defScope s__law_at_place) := ⟨rfl, rfl, rfl, by decide +kernel, rfl, by decide +kernel, by decide +kernel⟩
abbrev s__law_sum : Stmt := top 27
abbrev N__law_sum : List Str := ["_law_one", "_law_other", "_law_sign", "_law_many", "_law_k"]
abbrev P__law_sum : List Str := ["_law_one", "_law_other", "_law_sign"]
theorem c__law_sum : FnScope N__law_sum P__law_sum (defScope s__law_sum) := ⟨rfl, rfl, rfl, by decide +kernel, rfl, by decide +kernel, by decide +kernel⟩
abbrev s__law_times : Stmt := top 28
abbrev N__law_times : List Str := ["_law_one", "_law_other", "_law_found", "_law_k", "_law_j"]
abbrev P__law_times : List Str := ["_law_one", "_law_other"]
theorem c__law_times : FnScope N__law_times P__law_times (defScope s__law_times) := ⟨rfl, rfl, rfl, by decide +kernel, rfl, by decide +kernel, by decide +kernel⟩
abbrev s__law_value : Stmt := top 29
abbrev N__law_value : List Str := ["_law_row_here", "_law_number", "_law_found", "_law_part"]
abbrev P__law_value : List Str := ["_law_row_here", "_law_number"]
theorem c__law_value : FnScope N__law_value P__law_value (defScope s__law_value) := ⟨rfl, rfl, rfl, by decide +kernel, rfl, by decide +kernel, by decide +kernel⟩
abbrev s__law_rest : Stmt := top 30
abbrev N__law_rest : List Str := ["_law_one", "_law_other", "_law_rest_here", "_law_factor", "_law_shift", "_law_part"]
abbrev P__law_rest : List Str := ["_law_one", "_law_other"]
theorem c__law_rest : FnScope N__law_rest P__law_rest (defScope s__law_rest) := ⟨rfl, rfl, rfl, by decide +kernel, rfl, by decide +kernel, by decide +kernel⟩
abbrev s__law_divisor : Stmt := top 31
abbrev N__law_divisor : List Str := ["_law_one", "_law_other", "_law_part"]
abbrev P__law_divisor : List Str := ["_law_one", "_law_other"]
theorem c__law_divisor : FnScope N__law_divisor P__law_divisor (defScope s__law_divisor) := ⟨rfl, rfl, rfl, by decide +kernel, rfl, by decide +kernel, by decide +kernel⟩
abbrev s__law_divided : Stmt := top 32
abbrev N__law_divided : List Str := ["_law_first", "_law_second", "_law_found", "_law_rest_here", "e"]
abbrev P__law_divided : List Str := ["_law_first", "_law_second"]
theorem c__law_divided : FnScope N__law_divided P__law_divided (defScope s__law_divided) := ⟨rfl, rfl, rfl, by decide +kernel, rfl, by decide +kernel, by decide +kernel⟩
abbrev s__law_look : Stmt := top 33
abbrev N__law_look : List Str := ["_law_which", "_law_polys", "_law_rows", "_law_number", "_law_one", "_law_other", "_law_row_here", "_law_more", "_law_told", "_law_due", "_law_both", "_law_slope", "_law_k", "_law_found", "_law_rest_here"]
abbrev P__law_look : List Str := ["_law_which", "_law_polys", "_law_rows", "_law_number"]
theorem c__law_look : FnScope N__law_look P__law_look (defScope s__law_look) := ⟨rfl, rfl, rfl, by decide +kernel, rfl, by decide +kernel, by decide +kernel⟩
abbrev s_law : Stmt := top 34
abbrev N_law : List Str := ["_law_script", "_law_cell_here", "_law_pool_here", "_law_drawn", "_law_part", "_law_rows", "_law_polys", "_law_number", "_law_which", "_law_few"]
abbrev P_law : List Str := ["_law_script"]
theorem c_law : FnScope N_law P_law (defScope s_law) := ⟨rfl, rfl, rfl, by decide +kernel, rfl, by decide +kernel, by decide +kernel⟩
end W1
set_option maxRecDepth 100000
set_option maxHeartbeats 2000000
namespace W1
open PySem PySem.Spec PyProof.Rows L2 NdefX

/-! ### the fractions' defs -/
/-- a promise by data: nothing handed over -/
def pOk {α : Type} (D : α → Prop) (A : α → List Rl) (R : α → Rl) : Pre := fun Rs w o w' => ∃ a, D a ∧ Rs = A a ∧ w = [] ∧ w' = [] ∧ o = .ok (R a)
def pEr {α : Type} (D : α → Prop) (A : α → List Rl) (P : α → Er) : Pre := fun Rs w o w' => ∃ a, D a ∧ Rs = A a ∧ w = [] ∧ w' = [] ∧ o = .error (P a)
def pOr (p q : Pre) : Pre := fun Rs w o w' => p Rs w o w' ∨ q Rs w o w'
section
variable {α : Type} {D : α → Prop} {A : α → List Rl} {R : α → Rl} {P : α → Er}
theorem pok (a : α) (h : D a) : pOk D A R (A a) [] (.ok (R a)) [] := ⟨a, h, rfl, rfl, rfl, rfl⟩
end
theorem bt_abs : bootBuiltins "abs" = some (.builtin "abs") := by decide +kernel
theorem bt_len : bootBuiltins "len" = some (.builtin "len") := by decide +kernel
theorem bt_isi : bootBuiltins "isinstance" = some (.builtin "isinstance") := by decide +kernel
theorem bt_int : bootBuiltins "int" = some (.type "int") := by decide +kernel
theorem bt_bool : bootBuiltins "bool" = some (.type "bool") := by decide +kernel
theorem bt_tup : bootBuiltins "tuple" = some (.type "tuple") := by decide +kernel
def pCommon : Pre := pOk (α := Int × Int) (fun _ => True) (fun a => [rInt a.1, rInt a.2]) (fun a => rInt (Int.gcd a.1 a.2 : Int))
section
variable {P : Program} {w : World} {K : PySem.W.Frag} {mg : Str → Option Value} {base : Heap}
theorem kf_common {f : Addr} {fd : FuncData} (Fn : Fun K "common" "common" s_common f fd) (abs : mg "abs" = none) : FnOk P w K mg base (L2.CX P w) 1 f fd P_common (spM pCommon) := by
  refine fn_ok Fn c_common (fun _ _ _ _ ⟨a, _, h, _⟩ => by rw [h]; rfl) ?_
  rintro cdv A outer s H E ⟨_, G0, H0, M, W, tk⟩ hr rfl Rs ω o ω' ⟨⟨a, b⟩, -, rfl, rfl, rfl, rfl⟩
  refine hb_par 2 3 (ar_cons (er_callB cop_abs rfl abs bt_abs (ar_cons (er_var 0 rfl) ar_nil)) (ar_cons (er_callB cop_abs rfl abs bt_abs (ar_cons (er_var 1 rfl) ar_nil)) ar_nil)) ?_ c_common.nd
  rw [abs_nat, abs_nat]
  refine hb_while (fun m ρ ω => ∃ x y : Nat, m = y ∧ ω = [] ∧ Int.gcd (x : Int) (y : Int) = Int.gcd a b ∧ ρ = [some (rInt a), some (rInt b), some (rInt x), some (rInt y)]) b.natAbs ⟨a.natAbs, b.natAbs, rfl, rfl, by simp [Int.gcd], rfl⟩ ?_ (passes_of rfl)
  rintro m ρ ω ⟨x, y, rfl, rfl, hg, rfl⟩
  refine ⟨_, _, tr_cmp (er_var 3 rfl) er_int bop_neI, fun hb => ?_, fun hb => ?_⟩
  · have hy : m ≠ 0 := by simpa using hb
    refine hb_par 2 3 (ar_cons (er_var 3 rfl) (ar_cons (er_bin (er_var 2 rfl) (er_var 3 rfl) (bop_mod (by omega))) ar_nil)) (hb_nil ?_) c_common.nd
    rw [fmod_nat]
    exact ⟨x % m, Nat.mod_lt _ (by omega), m, x % m, rfl, rfl, by rw [gcd_step _ _ hy]; exact hg, rfl⟩
  · have hy : m = 0 := by simpa using hb
    subst hy
    refine hb_ret (er_var 2 rfl) ⟨_, _, rfl, fun v G h => ?_, rfl⟩
    rw [show v = V.int (x : Int) from h]
    show V.int (x : Int) = V.int (Int.gcd a b : Int)
    rw [← hg]
    simp
end
end W1
set_option maxRecDepth 100000
set_option maxHeartbeats 2000000
namespace W1
open PySem PySem.Spec PyProof.Rows L2 NdefX

def rRat (C : Addr) (q : Rat) : Rl := rIns C [("top", rInt q.num), ("bottom", rInt (q.den : Int))]
def small (q : Rat) : Prop := Sz 4000 q
theorem small.t {q : Rat} (h : small q) : q.num.natAbs < 2 ^ 4000 := h.1
theorem small.b {q : Rat} (h : small q) : (q.den : Int).natAbs < 2 ^ 4000 := sz_int h
theorem den_ne {q : Rat} : (q.den : Int) ≠ 0 := Int.natCast_ne_zero.mpr q.den_nz
/-- what the written part says of the fractions' class, at C, and of the error, at B -/
structure RatX (K : PySem.W.Frag) (mg : Str → Option Value) (C : Addr) : Prop where
  cx : ClsX K C
  nT : NoAttr K C "top"
  nB : NoAttr K C "bottom"
  gC : mg "Ratio" = some (.ref C)
  nf : PySem.W.notFirst K C (.ref C) = true
  nfI : PySem.W.notFirst K C (.type "int") = true
  nfS : PySem.W.notFirst K C (.type "str") = true
  ksI : PySem.W.kitOne K (.type "int") (.ref C) = some false
  ksS : PySem.W.kitOne K (.type "str") (.ref C) = some false
  isi : mg "isinstance" = none
  bool : mg "bool" = none
  len : mg "len" = none
def pInit (C B : Addr) : Pre := fun Rs w o w' => ∃ (q : Addr) (t b : Int), Rs = [rRef q, rInt t, rInt b] ∧ w = [(q, oIns C [])] ∧
  ((b ≠ 0 ∧ b.natAbs < 2 ^ 9000 ∧ w' = [(q, oIns C [("top", rInt (Rat.divInt t b).num), ("bottom", rInt ((Rat.divInt t b).den : Int))])] ∧ o = .ok rNon) ∨ (b = 0 ∧ w' = [(q, oIns C [])] ∧ o = .error (erF B "n" (rInt 0))))
section
variable {P : Program} {w : World} {K : PySem.W.Frag} {mg : Str → Option Value} {base : Heap} {C B : Addr}
end
end W1
set_option maxRecDepth 100000
set_option maxHeartbeats 2000000
set_option exponentiation.threshold 20000
namespace W1
open PySem PySem.Spec PyProof.Rows L2 NdefX

section
variable {F : Fx} {ρ : Ty} {ω w w1 w2 : Ow} {e o a b : Expr} {C B : Addr} {pos p : Pos} {t u : Int} {q : Rat}
theorem er_top (X : RatX F.X.K F.X.mg C) (h : ER F ρ ω e (rRat C q) w) (hb : attributeBase e "top" F.X.env (eval e F.X.env) = eval e F.X.env := by rfl) : ER F ρ ω (.Attribute e "top" pos) (rInt q.num) w := er_fld h X.cx.cls X.nT rfl hb
theorem er_bot (X : RatX F.X.K F.X.mg C) (h : ER F ρ ω e (rRat C q) w) (hb : attributeBase e "bottom" F.X.env (eval e F.X.env) = eval e F.X.env := by rfl) : ER F ρ ω (.Attribute e "bottom" pos) (rInt (q.den : Int)) w := er_fld h X.cx.cls X.nB rfl hb
end
def p2 (C : Addr) (f : Rat → Rat → Rl) : Pre := pOk (α := Rat × Rat) (fun a => small a.1 ∧ small a.2) (fun a => [rRat C a.1, rRat C a.2]) (fun a => f a.1 a.2)
def pAdd (C : Addr) : Pre := p2 C fun p q => rRat C (p + q)
def pSub (C : Addr) : Pre := p2 C fun p q => rRat C (p - q)
def pMul (C : Addr) : Pre := p2 C fun p q => rRat C (p * q)
def pUnder (C : Addr) : Pre := p2 C fun p q => rBool (decide (p < q))
def pNeg (C : Addr) : Pre := pOk (α := Rat) small (fun a => [rRat C a]) (fun a => rRat C (-a))
def pBool (C : Addr) : Pre := pOk (α := Rat) (fun _ => True) (fun a => [rRat C a]) (fun a => rBool (a.num != 0))
def pWhole (C : Addr) : Pre := pOk (α := Int) (fun _ => True) (fun a => [rRef C, rInt a]) (fun a => rRat C (a : Rat))
def pQuo (C B : Addr) : Pre := pOr (pOk (α := Rat × Rat) (fun a => small a.1 ∧ small a.2 ∧ a.2.num ≠ 0) (fun a => [rRat C a.1, rRat C a.2]) (fun a => rRat C (a.1 / a.2)))
  (pEr (α := Rat × Rat) (fun a => small a.1 ∧ small a.2 ∧ a.2.num = 0) (fun a => [rRat C a.1, rRat C a.2]) (fun a => erF B "n" (rInt 0)))
def pEq (C : Addr) : Pre := pOr (pOk (α := Rat × Rat) (fun _ => True) (fun a => [rRat C a.1, rRat C a.2]) (fun a => rBool (decide (a.1 = a.2))))
  (pOr (pOk (α := Rat × Int) (fun _ => True) (fun a => [rRat C a.1, rInt a.2]) (fun a => rBool false)) (pOk (α := Rat × Str) (fun _ => True) (fun a => [rRat C a.1, rStr a.2]) (fun a => rBool false)))
theorem divInt_int (n : Int) : Rat.divInt n 1 = (n : Rat) := by
  have := Rat.num_divInt_den (n : Rat)
  simpa using this
theorem small.mt {p q : Rat} (hp : small p) (hq : small q) : IntMulOk p.num q.den := mulok hp.t hq.b
theorem small.mb {p q : Rat} (hp : small p) (hq : small q) : IntMulOk p.den q.den := mulok hp.b hq.b
theorem small.dd {p q : Rat} (hp : small p) (hq : small q) : ((p.den : Int) * q.den).natAbs < 2 ^ 9000 := by
  rw [Int.natAbs_mul]
  exact Nat.lt_of_lt_of_le (mul_lt2 hp.b hq.b) (Nat.pow_le_pow_right (by decide) (by decide))
theorem rat_eq_dec (p q : Rat) : (decide (p.num = q.num) && decide ((p.den : Int) = q.den)) = decide (p = q) := by
  by_cases h : p = q
  · subst h; simp
  · have : ¬ (p.num = q.num ∧ (p.den : Int) = q.den) := fun ⟨h1, h2⟩ => h (Rat.ext h1 (by omega))
    rw [decide_eq_false h]
    by_cases h1 : p.num = q.num
    · have h2 : ¬ (p.den : Int) = q.den := fun z => this ⟨h1, z⟩
      rw [decide_eq_false h2, Bool.and_false]
    · rw [decide_eq_false h1, Bool.false_and]
section
variable {P : Program} {w : World} {K : PySem.W.Frag} {mg : Str → Option Value} {base : Heap} {C B f : Addr} {fd : FuncData}
theorem kf_bool (Fn : Fun K "__bool__" "Ratio.__bool__" s_Ratio___bool__ f fd) (X : RatX K mg C) : FnOk P w K mg base (L2.CX P w) 5 f fd P_Ratio___bool__ (spM (pBool C)) := by
  refine fn_ok Fn c_Ratio___bool__ (fun _ _ _ _ ⟨_, _, h, _⟩ => by rw [h]; rfl) ?_
  rintro cdv A outer s H E ⟨_, G0, H0, M, W, tk⟩ hr rfl Rs ω o ω' ⟨p, -, rfl, rfl, rfl, rfl⟩
  exact hb_ret (er_callTy cop_bool rfl X.bool bt_bool (ar_cons (er_top X (er_var 0 rfl)) ar_nil)) ⟨_, [], rfl, fun _ _ h => h, rfl⟩
theorem kf_eq (Fn : Fun K "__eq__" "Ratio.__eq__" s_Ratio___eq__ f fd) (X : RatX K mg C) : FnOk P w K mg base (L2.CX P w) 5 f fd P_Ratio___eq__ (spM (pEq C)) := by
  refine fn_ok Fn c_Ratio___eq__ (fun _ _ _ _ h => by rcases h with ⟨_, _, h, _⟩ | ⟨_, _, h, _⟩ | ⟨_, _, h, _⟩ <;> rw [h] <;> rfl) ?_
  rintro cdv A outer s H E ⟨_, G0, H0, M, W, tk⟩ hr rfl Rs ω o ω' (⟨⟨p, q⟩, -, rfl, rfl, rfl, rfl⟩ | ⟨⟨p, q⟩, -, rfl, rfl, rfl, rfl⟩ | ⟨⟨p, q⟩, -, rfl, rfl, rfl, rfl⟩)
  · refine hb_ret (er_and (er_callB (cop_isIns X.cx) rfl X.isi bt_isi (ar_cons (er_var 1 rfl) (ar_cons (er_glob rfl X.gC rfl) ar_nil))) fun _ => er_and (er_cmp (er_top X (er_var 0 rfl)) (er_top X (er_var 1 rfl)) bop_eqI) fun _ => er_one (er_cmp (er_bot X (er_var 0 rfl)) (er_bot X (er_var 1 rfl)) bop_eqI)) ⟨_, [], rfl, fun v G h => ?_, rfl⟩
    rw [show v = V.bl _ from h]
    show V.bl _ = V.bl (decide (p = q))
    rw [← rat_eq_dec, Bool.true_and]
  · refine hb_ret (er_and (m := false) (er_callB (cop_isNot (.inl ⟨q, rfl, rfl⟩) X.ksI) rfl X.isi bt_isi (ar_cons (er_var 1 rfl) (ar_cons (er_glob rfl X.gC rfl) ar_nil))) fun z => Bool.noConfusion z) ⟨_, [], rfl, fun v G h => h, rfl⟩
  · refine hb_ret (er_and (m := false) (er_callB (cop_isNot (.inr (.inl ⟨q, rfl, rfl⟩)) X.ksS) rfl X.isi bt_isi (ar_cons (er_var 1 rfl) (ar_cons (er_glob rfl X.gC rfl) ar_nil))) fun z => Bool.noConfusion z) ⟨_, [], rfl, fun v G h => h, rfl⟩
end
end W1
set_option maxRecDepth 100000
set_option maxHeartbeats 2000000
set_option exponentiation.threshold 20000
namespace W1
open PySem PySem.Spec PyProof.Rows L2 NdefX

/-- a list or a tuple -/
def rSeq (b : Bool) (Rs : List Rl) : Rl := if b then rLst Rs else rTup Rs
section
variable {F : Fx} {ρ : Ty} {ω w w1 : Ow} {e tg it : Expr} {Rs : List Rl} {R : Rl} {b : Bool} {i : Int} {n : Nat}
theorem it_Rq (he : ER F ρ ω it (rSeq b Rs) w1) : IT F ρ ω tg it Rs w1 := by
  cases b
  · exact it_tup he
  · exact it_lst he
end
def sumR (qs : List Rat) : Rat := qs.foldl (· + ·) 0
theorem fold_take {α β : Type} (f : β → α → β) (z : β) (xs : List α) (k : Nat) (a : α) (h : xs[k]? = some a) : (xs.take (k + 1)).foldl f z = f ((xs.take k).foldl f z) a := by
  rw [List.take_add_one, h, List.foldl_append]
  rfl
theorem map_get {α β : Type} {f : α → β} {xs : List α} {k : Nat} {S : β} (h : (xs.map f)[k]? = some S) : ∃ a, xs[k]? = some a ∧ S = f a := by
  rw [List.getElem?_map] at h
  cases e : xs[k]? with
  | none => rw [e] at h; cases h
  | some a => rw [e] at h; cases h; exact ⟨a, rfl, rfl⟩
theorem mem_get {α : Type} {xs : List α} {k : Nat} {a : α} (h : xs[k]? = some a) : a ∈ xs := List.mem_of_getElem? h
section
variable {C B : Addr} {p q : Rat}
theorem pBoolOk : pBool C [rRat C p] [] (.ok (rBool (p.num != 0))) [] := ⟨p, trivial, rfl, rfl, rfl, rfl⟩
theorem pWholeOk {n : Int} : pWhole C [rRef C, rInt n] [] (.ok (rRat C (n : Rat))) [] := ⟨n, trivial, rfl, rfl, rfl, rfl⟩
theorem pEqOk : pEq C [rRat C p, rRat C q] [] (.ok (rBool (decide (p = q)))) [] := .inl ⟨(p, q), trivial, rfl, rfl, rfl, rfl⟩
end
section
variable {P : Program} {w : World} {K : PySem.W.Frag} {mg : Str → Option Value} {base : Heap} {C B f : Addr} {fd : FuncData}
end
end W1
set_option maxRecDepth 100000
set_option maxHeartbeats 2000000
set_option exponentiation.threshold 20000
namespace W1
open PySem PySem.Spec PyProof.Rows L2 NdefX TL NumText

/-! ### names and amounts -/
abbrev lets : Str := Str.ofString "abcdefghijklmnopqrstuvwxyz"
abbrev sigs : Str := Str.ofString "abcdefghijklmnopqrstuvwxyz0123456789"
def isLet (c : Nat) : Bool := decide (c ∈ tl lets)
def isSig (c : Nat) : Bool := decide (c ∈ tl sigs)
def nameL (l : List Nat) : Bool := match l with | [] => false | c :: r => decide ((c :: r).length ≤ 8) && isLet c && (c :: r).all isSig
section
variable {P : Program} {w : World} {K : PySem.W.Frag} {mg : Str → Option Value} {base : Heap} {f : Addr} {fd : FuncData} {tk1 tk2 tk3 : Tok}
end
end W1
set_option maxRecDepth 100000
set_option maxHeartbeats 2000000
set_option exponentiation.threshold 20000
namespace W1
open PySem PySem.Spec PyProof.Rows L2 NdefX TL NumText

def chkL (am : Am) : List Str → Option (Sum Str Int)
  | [] => none
  | g :: r => if nameL (tl g) = true then (if valA am g < 0 then some (.inr (valA am g)) else chkL am r) else some (.inl g)
def AmOk (am : Am) : Prop := am.length < 64 ∧ ∀ p ∈ am, p.1.length ≤ 640 ∧ p.2.natAbs.log2 < 1920
theorem srt_mem {xs : List Str} {g : Str} (h : g ∈ srt xs) : g ∈ xs := (srt_perm xs).mem_iff.mp h
section
variable {P : Program} {w : World} {K : PySem.W.Frag} {mg : Str → Option Value} {base : Heap} {N B f : Addr} {fd : FuncData}
end
end W1
set_option maxRecDepth 100000
set_option maxHeartbeats 2000000
set_option exponentiation.threshold 20000
namespace W1
open PySem PySem.Spec PyProof.Rows L2 NdefX TL NumText

def keptL (am : Am) : List Str := (srt (namesA am)).filter fun g => decide (0 < valA am g)
def keptA (am : Am) : Am := (keptL am).map fun g => (g, valA am g)
section
variable {P : Program} {w : World} {K : PySem.W.Frag} {mg : Str → Option Value} {base : Heap} {f : Addr} {fd : FuncData}
end
end W1
set_option maxRecDepth 100000
set_option maxHeartbeats 2000000
set_option exponentiation.threshold 20000
namespace W1
open PySem PySem.Spec PyProof.Rows L2 NdefX TL NumText
/-! ### ways -/
def wayF (t : Am) (h : Int) (m : Am) : List (Str × Rl) := [("inputs", rDct (fsA (keptA t))), ("hours", rInt h), ("outputs", rDct (fsA (keptA m)))]
def rWay (W : Addr) (t : Am) (h : Int) (m : Am) : Rl := rIns W (wayF t h m)
def wayE (t : Am) (h : Int) (m : Am) : Option (Sum Str Int) :=
  match chkL t (srt (namesA t)) with
  | some x => some x
  | none => match chkL m (srt (namesA m)) with
    | some x => some x
    | none => if h < 1 then some (.inr h) else if keptA m = [] then some (.inr 0) else none
structure AmG (am : Am) : Prop where
  ok : AmOk am
  nd : (namesA am).Nodup
structure WayX (K : PySem.W.Frag) (mg : Str → Option Value) (W : Addr) : Prop where
  cx : ClsX K W
  ni : NoAttr K W "inputs"
  nh : NoAttr K W "hours"
  no : NoAttr K W "outputs"
  gW : mg "Way" = some (.ref W)
  nf : PySem.W.notFirst K W (.ref W) = true
section
variable {P : Program} {w : World} {K : PySem.W.Frag} {mg : Str → Option Value} {base : Heap} {W N B f : Addr} {fd : FuncData}
end
end W1
set_option maxRecDepth 100000
set_option maxHeartbeats 2000000
set_option exponentiation.threshold 20000
namespace W1
open PySem PySem.Spec PyProof.Rows L2 NdefX TL NumText
/-! ### what a way tells -/
def putA (am : Am) (k : Str) (v : Int) : Am := if (am.any fun p => decide (p.1 = k)) = true then am.map (fun p => if p.1 = k then (p.1, v) else p) else am ++ [(k, v)]
def mergeA (a b : Am) : Am := b.foldl (fun acc p => putA acc p.1 p.2) a
theorem names_put (am : Am) (k : Str) (v : Int) : namesA (putA am k v) = if k ∈ namesA am then namesA am else namesA am ++ [k] := by
  have e : (am.any fun p => decide (p.1 = k)) = true ↔ k ∈ namesA am := by
    rw [List.any_eq_true]
    constructor
    · rintro ⟨p, hp, h⟩
      exact List.mem_map.mpr ⟨p, hp, of_decide_eq_true h⟩
    · intro h
      obtain ⟨p, hp, rfl⟩ := List.mem_map.mp h
      exact ⟨p, hp, decide_eq_true rfl⟩
  unfold putA
  by_cases h : k ∈ namesA am
  · rw [if_pos (e.mpr h), if_pos h]
    unfold namesA
    rw [List.map_map]
    apply List.map_congr_left
    intro p _
    show (if p.1 = k then (p.1, v) else p).1 = p.1
    split <;> rfl
  · rw [if_neg (fun z => h (e.mp z)), if_neg h]
    unfold namesA
    rw [List.map_append]
    rfl
theorem names_merge : ∀ (b a : Am), (namesA a).Nodup → (namesA (mergeA a b)).Nodup ∧ ∀ g, g ∈ namesA (mergeA a b) ↔ g ∈ namesA a ∨ g ∈ namesA b
  | [], a, h => ⟨h, fun g => ⟨.inl, fun z => z.elim id fun y => by cases y⟩⟩
  | p :: b, a, h => by
    have h1 : (namesA (putA a p.1 p.2)).Nodup ∧ ∀ g, g ∈ namesA (putA a p.1 p.2) ↔ g ∈ namesA a ∨ g = p.1 := by
      rw [names_put]
      split
      · next hm => exact ⟨h, fun g => ⟨.inl, fun z => z.elim id fun y => y ▸ hm⟩⟩
      · next hm => exact ⟨List.nodup_append.mpr ⟨h, by simp, fun x hx y hy => by rw [List.mem_singleton.mp hy]; exact fun e => hm (e ▸ hx)⟩, fun g => by rw [List.mem_append, List.mem_singleton]⟩
    obtain ⟨h2, h3⟩ := names_merge b (putA a p.1 p.2) h1.1
    refine ⟨h2, fun g => (h3 g).trans ?_⟩
    rw [h1.2]
    show _ ↔ g ∈ namesA a ∨ g ∈ p.1 :: namesA b
    rw [List.mem_cons, or_assoc]
def goodsW (t m : Am) : List Str := srt (namesA (mergeA (mergeA [] (keptA t)) (keptA m)))
abbrev sp : Str := Str.ofString " "
structure TxtOk (am : Am) : Prop where
  len : am.length ≤ 8
  nm : ∀ p ∈ am, p.1.length ≤ 640
  sz : ∀ g, (valA am g).natAbs.log2 < 1920
section
variable (W : Addr)
end
section
variable {P : Program} {w : World} {K : PySem.W.Frag} {mg : Str → Option Value} {base : Heap} {W N B f : Addr} {fd : FuncData}
end
end W1
set_option maxRecDepth 100000
set_option maxHeartbeats 2000000
set_option exponentiation.threshold 20000
namespace W1
open PySem PySem.Spec PyProof.Rows L2 NdefX TL NumText
section
variable {F : Fx} {ρ : Ty} {w w1 : Ow} {A B : Rl} {a b : Am} {n : Nat} {e tg it : Expr}
end
section
variable {P : Program} {w : World} {K : PySem.W.Frag} {mg : Str → Option Value} {base : Heap} {W N B f : Addr} {fd : FuncData}
end
end W1
set_option maxRecDepth 100000
set_option maxHeartbeats 2000000
set_option exponentiation.threshold 20000
namespace W1
open PySem PySem.Spec PyProof.Rows L2 ItX
/-! ### iteration by an own __iter__ that hands back the iterator of a tuple -/
/-- the iterator at it, of the tuple at t, not yet turned -/
def hoT (t it : Addr) : HO := .ext fun h => h.IsTupleIter it t 0
/-- what the field's tuple is -/
def FldT (K : PySem.W.Frag) (C : Addr) (fld : Str) (H : Hp) (a t : Addr) (xs : List V) : Prop := ∃ dx fs, H a = some (.ins C dx fs) ∧ fs.lookup fld = some (.ref t) ∧ SqT K H t xs
/-- __iter__ hands back an iterator of the field's tuple, one that has just come -/
def IterOk (P : Program) (w : World) (K : PySem.W.Frag) (mg : Str → Option Value) (base : Heap) (C g : Addr) (fld : Str) (k : Nat) : Prop :=
  ∀ (A : Around) (outer : List Env) (s : Shared) (H : Hp) (a t : Addr) (xs : List V), Room k A → Env0 P w K mg base A outer s H → FldT K C fld H a t xs →
    codeAny (model P w) A (.call (.ref g) ⟨[.ref a], []⟩) (CR (L2.CX P w) outer P w H s (fun v H' => ∃ it, v = .ref it ∧ H it = none ∧ s.heap.objs.size ≤ it ∧ H' = upd H it (hoT t it)) fun _ _ _ => False) s
structure ItM (K : PySem.W.Frag) (C g : Addr) : Prop where
  it : PySem.W.findIn K (.ref C) "__iter__" = some (some (.ref g))
  fn : PySem.W.isFn K (.ref g) = true
section
variable {X : Cx} {C g : Addr} {fld : Str} {k : Nat} {fd : FuncData} {ps : List Str}
end
section
variable {F : Fx} {ρ : Ty} {ω w1 : Ow} {tg it : Expr} {C g : Addr} {fld : Str} {k : Nat} {fs : List (Str × Rl)} {Rs : List Rl}
end
end W1
set_option maxRecDepth 100000
set_option maxHeartbeats 2000000
set_option exponentiation.threshold 20000
namespace W1
open PySem PySem.Spec PyProof.Rows L2
/-! ### enumerate of a tuple -/
abbrev enumO (it : Addr) : Obj := { cls := .type "enumerate", data := .fields #[.none, .bool false, .ref it, rawInt 0, .none, .none] }
set_option maxHeartbeats 4000000 in
theorem enum_new {v : Value} {o : Obj} {Hs : Heap → Prop} (B : Begins v o Hs) : Meets (Builtin.«enumerate.__new__» ⟨[.type "enumerate", v], []⟩) (fun _ R s => Hs s.heap ∧ R (.ok (.ret (.ref (s.heap.push o).objs.size))) { s with heap := (s.heap.push o).push (enumO s.heap.objs.size) }) :=
  .of_wp fun prog w A R s ⟨h1, h⟩ => by
    obtain ⟨hp, g, d, tk, os⟩ := s
    have kind := sub_enumerate
    have first : ∀ {A' : Around} {E : Value → Shared → Prop} {Q : Value → Shared → Prop}, Q (.ref hp.objs.size) ⟨hp.push o, g, d, tk, os⟩ → wpAny (model prog w) A' (pyIter v) Q E ⟨hp, g, d, tk, os⟩ := fun q => B.iter prog w _ _ ⟨hp, g, d, tk, os⟩ _ h1 q
    wp_walk using first
    refine wpAny_stack_any fun st => wpAny_pure ?_
    split
    · rename_i c _ _ _ _ _
      cases (c == Value.type "enumerate") <;> wp_walk using first <;> exact ⟨_, rfl, h⟩
    · wp_walk using first
      exact ⟨_, rfl, h⟩
theorem call_enumT {prog : Program} {w : World} {A : Around} {E : Value → Shared → Prop} {s : Shared} {t : Addr} {items : Array Value} {Q : Value → Shared → Prop} (ht : s.heap.IsTuple t items)
    (q : Q (.ref (s.heap.objs.size + 1)) { s with heap := (s.heap.push { cls := .type "tuple_iterator", data := .fields #[.ref t, .int 0 0] }).push (enumO s.heap.objs.size) }) : wpAny (model prog w) A (call (.type "enumerate") [.ref t]) Q E s := by
  refine callType_new F.called_enumerate (by decide) (F.typeCall_enumerate_1 _) (F.newCall_enumerate_1 _) (fun obj => F.args_object_init_2 obj _) F.entry_enumerate_new (enum_new (begins_tuple t items)) ⟨ht, ?_⟩
  have hz : (s.heap.push { cls := .type "tuple_iterator", data := .fields #[.ref t, .int 0 0] }).objs.size = s.heap.objs.size + 1 := Heap.size_push ..
  show _ ∧ _
  rw [hz]
  have := Heap.get?_push_size (s.heap.push { cls := .type "tuple_iterator", data := .fields #[.ref t, .int 0 0] }) (o := enumO s.heap.objs.size) rfl
  rw [hz] at this
  exact ⟨⟨_, this, rfl⟩, q⟩
/-- the tuple at t, each item in a new pair -/
def Ien (K : PySem.W.Frag) (t : Addr) : It :=
  ⟨fun i H => ∃ (xs : List V) (x : V), SqT K H t xs ∧ xs[i]? = some x, fun i H v H' => ∃ T x, v = .ref T ∧ H T = none ∧ H' = upd H T (.tup [.int (i : Nat), x]) ∧ ∀ xs, SqT K H t xs → xs[i]? = some x, fun i H => ∃ xs : List V, SqT K H t xs ∧ xs.length ≤ i⟩
def EnSt (t e it : Addr) (i : Nat) (h : Heap) : Prop := (∃ old, IsEnum h e it (i : Int) old) ∧ h.IsTupleIter it t i ∧ e ≠ it
theorem turn_enT {P : Program} {w : World} {K : PySem.W.Frag} {elts : List Expr} {kk : Nat} {tpos : Pos} (t e it : Addr) : Turn P w K (.Tuple elts kk tpos) (Ien K t) [e, it] e (EnSt t e it) where
  mem := List.mem_cons_self
  obj := fun i h ⟨⟨old, h1⟩, ⟨o, h2, h3, h4⟩, _⟩ b hb => by
    rcases List.mem_cons.mp hb with rfl | hb
    · exact ⟨_, h1, fun v q => nomatch q⟩
    · rw [List.mem_singleton.mp hb]
      exact ⟨o, h2, fun v q => by rw [h4] at q; cases q⟩
  keep := fun i h h' ⟨⟨old, h1⟩, h2, h3⟩ k => ⟨⟨old, k e (by simp) _ h1⟩, h2.at fun o q => k it (by simp) o q, h3⟩
  item := by
    rintro X rfl rfl rfl hc i pins s σ H E I hf ⟨⟨old, he⟩, hit, hne⟩ ⟨xs, x, hq, hx⟩
    obtain ⟨its, rv, tp, hz⟩ := I.tuple hq
    obtain ⟨u, hu, ru⟩ := rv.get hx
    have tp : s.heap.IsTuple t its.toArray := tp
    obtain ⟨ot, gt, ct, _⟩ := id tp
    obtain ⟨oi, gi, ci, _⟩ := id hit
    have t1 : t ≠ it := fun z => by
      rw [z, gi] at gt
      cases gt
      rw [ci] at ct
      exact absurd ct (by decide)
    have t2 : e ∉ [it, t] := fun z => by
      rcases List.mem_cons.mp z with z | z
      · exact hne z
      · rw [← List.mem_singleton.mp z] at gt
        have gt' : s.heap.get? e = some ot := gt
        have he' : s.heap.get? e = some _ := he
        rw [he'] at gt'
        cases gt'
        have ct : Value.type "enumerate" = Value.type "tuple" := ct
        exact absurd ct (by decide)
    have lt : i < its.toArray.size := by
      rw [List.size_toArray]
      exact (List.getElem?_eq_some_iff.mp hu).1
    have D := Draws.tuple (prog := X.prog) (w := X.w) (A := X.A.in1) (show X.A.in1.handled = none from I.ok.hd hc) it t t1 its.toArray
    refine wpAny_pyNext_enum_itemD D he ⟨hit, tp⟩ lt hne t2 fun x' h' tk hx' out st hT hsz hk => ?_
    have ex : x' = u := by
      have : its[i]? = some x' := by simpa using hx'
      rw [hu] at this
      exact (Option.some.inj this).symm
    subst ex
    have hel : e < s.heap.objs.size := Heap.lt_size he
    have hil : it < s.heap.objs.size := Heap.lt_size gi
    refine ⟨_, rfl, wpAny_letOwnedTupleGo_enum (s := { s with heap := h', toks := tk + 1 }) out fun h2 he2 sb => ?_⟩
    have hT2 : h2.get? s.heap.objs.size = some { cls := .type "tuple", data := .seq #[.int i tk, x'] } := (sb.2 _ (Nat.ne_of_gt hel)).trans hT
    have I1 : Inv X pins σ (upd H s.heap.objs.size (.tup [.int (i : Nat), x])) { s with heap := h2, toks := tk + 1 } :=
      I.turnedNew (ch := [e, it]) (fun b ob hb q => (sb.2 b fun z => hb (by simp [z])).trans (hk b ob (fun z => hb (by simp [z])) (fun z => hb (by simp [z])) q)) hf (Nat.le_refl _) ⟨by show 2 ≤ sizeLine; decide, [.int i tk, x'], .cons ⟨_, rfl⟩ (.cons ru .nil), ⟨_, hT2, rfl, _, rfl⟩⟩
    refine ⟨.ref s.heap.objs.size, _, I1, rfl, ⟨_, x, rfl, I.hok.fresh (Nat.le_refl _), rfl, fun ys hy => by rw [I.tuple_inj hy hq]; exact hx⟩, ⟨⟨x', ?_⟩, st.1.at fun o q => (sb.2 it (Ne.symm hne)).trans q, hne⟩, fun b hb => ?_⟩
    · rw [show ((i + 1 : Nat) : Int) = (i : Int) + 1 by omega]
      exact he2
    · have : b < s.heap.objs.size := by
        rcases List.mem_cons.mp hb with rfl | hb
        · exact hel
        · rw [List.mem_singleton.mp hb]; exact hil
      rw [upd_ne (Nat.ne_of_lt this)]
      exact (hf b hb).1
  done := by
    rintro X rfl rfl rfl hc i pins s σ H E I hf ⟨⟨old, he⟩, hit, hne⟩ ⟨xs, hq, hx⟩
    obtain ⟨its, rv, tp, hz⟩ := I.tuple hq
    have tp : s.heap.IsTuple t its.toArray := tp
    obtain ⟨ot, gt, ct, _⟩ := id tp
    obtain ⟨oi, gi, ci, _⟩ := id hit
    obtain ⟨f0, f1, f2, f3, f4, f5⟩ := hf it (by simp)
    have no : its.toArray[i]? = none := by
      have := rv.length
      simp
      omega
    unfold pyNext
    refine wpAny_bind (wpAny_attempt (wpAny_callSpecial?_slot (name := Str.ofString "__next__") ⟨_, he, rfl⟩ F.slot_enumerate_next (wpAny_call_entry F.slot_enumerate_next ⟨_, he, rfl⟩ F.entry_enumerate_next ?_ (F.args_enumerate_next_1 _))))
    show wpAny _ _ (field (.ref e) 2 >>= _) _ _ _
    refine wpAny_bind (wpAny_field he rfl (x := .ref it) rfl (wpAny_bind (wpAny_nextOf_tuple_end (show X.A.in1.handled = none from I.ok.hd hc) hit tp no fun h' x eb ⟨o, ho, hcl⟩ => ?_)))
    exact wpAny_bind (wpAny_isInstance (T := "StopIteration") (b := true) ⟨o, ho, hcl⟩ isSubtype_stop (wpAny_pure ⟨rfl, I.turned (t' := s.toks) (fun b o hb q => eb b o hb q) f0 f1 f3 f4 f5⟩))
  self := fun A i s Q E ⟨⟨_, he⟩, _⟩ h => wpAny_pyIter_enum he h
def iEnT (K : PySem.W.Frag) (ta : TA) : TI := fun σ H R => ta σ H fun vs H1 => ∃ a xs, vs = [V.ref a] ∧ SqT K H1 a xs ∧ R (Ien K a) H1
theorem pi_enT {X : Cx} {e : Expr} {ta : TA} {p pos tpos : Pos} {elts : List Expr} {kk : Nat} (hg : Gl X "enumerate") (hm : X.mg "enumerate" = none) (ha : PA X [e] ta) (hs : starEach [e] X.env = [(false, eval e X.env)] := by rfl) : PI X (.Tuple elts kk tpos) (.Call (.Name "enumerate" p) [e] [] pos) (iEnT X.K ta) := by
  refine ⟨fun pins s σ H R I h => Call_ (ld_blt I hg hm boot_enumerate (PyProof.Rows.callWith_type1 (thn (ha.run pos pins s σ H _ I h) fun us s1 ⟨vs, H1, I1, r1, q1⟩ => ?_) hs rfl))⟩
  obtain ⟨t, xs, rfl, hq, q⟩ := q1
  obtain ⟨u, rfl, ru⟩ := vals1 r1
  cases ru
  obtain ⟨its, rv, tp, hz⟩ := I1.tuple hq
  have size : (s1.heap.push { cls := .type "tuple_iterator", data := .fields #[.ref t, .int 0 0] }).objs.size = s1.heap.objs.size + 1 := Heap.size_push ..
  have he : IsEnum ((s1.heap.push { cls := .type "tuple_iterator", data := .fields #[.ref t, .int 0 0] }).push (enumO s1.heap.objs.size)) (s1.heap.objs.size + 1) s1.heap.objs.size 0 .none := by
    have := Heap.get?_push_size (s1.heap.push { cls := .type "tuple_iterator", data := .fields #[.ref t, .int 0 0] }) (o := enumO s1.heap.objs.size) rfl
    rw [size] at this
    exact this
  refine call_enumT (show s1.heap.IsTuple t its.toArray from tp) (wpAny_pyIter_enum (s := { s1 with heap := (s1.heap.push { cls := .type "tuple_iterator", data := .fields #[.ref t, .int 0 0] }).push (enumO s1.heap.objs.size) }) he ?_)
  refine ⟨s1.heap.objs.size + 1, [s1.heap.objs.size + 1, s1.heap.objs.size], _, _, H1, rfl, I1.kept (t' := s1.toks) fun b o z => Heap.get?_push_of_some _ (Heap.get?_push_of_some _ z), turn_enT t _ _, ⟨⟨.none, he⟩, ⟨_, Heap.get?_push_of_some _ (Heap.get?_push_size _ rfl), rfl, rfl⟩, Nat.succ_ne_self _⟩, fun b hb => ?_, q⟩
  have le : s1.heap.objs.size ≤ b := by
    rcases List.mem_cons.mp hb with rfl | hb
    · omega
    · rw [List.mem_singleton.mp hb]; exact Nat.le_refl _
  exact I1.fpOk le (I1.hok.fresh le)
theorem yld_numT {Rs : List Rl} {K : PySem.W.Frag} {a : Addr} {vs : List V} {G : Hp} (h1 : SqT K G a vs) (h2 : All2 Rs vs G) : Yld (Ien K a) (numR Rs) G where
  go := fun i G' H' s1 s2 hi => by
    rw [numR_len, h2.len] at hi
    exact ⟨vs, vs[i], sameT (s1.trans s2) h1, List.getElem?_eq_getElem hi⟩
  stop := fun G' H' s1 s2 => ⟨vs, sameT (s1.trans s2) h1, by rw [numR_len, h2.len]; exact Nat.le_refl _⟩
  yld := fun i S G' H' x H'' s1 s2 hS y => by
    obtain ⟨T, u, rfl, hT, rfl, hu⟩ := y
    obtain ⟨R, hR, rfl⟩ := numR_get hS
    obtain ⟨v, hv, rv⟩ := h2.get hR
    have e := hu vs (sameT (s1.trans s2) h1)
    rw [hv] at e
    cases e
    have st := Step.new (o := .tup [.int (i : Nat), u]) s2 hT
    exact ⟨_, st, T, _, rfl, upd_same, mk2 rfl (R.mo _ _ _ (s1.trans st.gg) rv)⟩
section
variable {F : Fx} {ρ : Ty} {ω w1 : Ow} {e : Expr} {pos p : Pos} {Rs : List Rl}
theorem it_enumT {elts : List Expr} {kk : Nat} {tpos : Pos} (he : AR F ρ ω [e] [rTup Rs] w1) (hg : Gl F.X "enumerate") (hm : F.X.mg "enumerate" = none) (hs : starEach [e] F.X.env = [(false, eval e F.X.env)] := by rfl) :
    IT F ρ ω (.Tuple elts kk tpos) (.Call (.Name "enumerate" p) [e] [] pos) (numR Rs) w1 := ⟨_, pi_enT hg hm pa_w hs, fun σ G H at_ sl R k => he σ G H at_ sl _ fun vs G2 H2 s a r => by
  obtain ⟨x, rfl, t, us, rfl, h1, h2⟩ := all1 r
  exact ⟨t, us, rfl, SqT.of (a.gh _ _ h1), k _ G2 H2 s a (yld_numT (SqT.of h1) h2)⟩⟩
end
end W1
set_option maxRecDepth 100000
set_option maxHeartbeats 4000000
set_option exponentiation.threshold 20000
namespace W1S
open PySem PySem.Spec PyProof.Rows L2 TL
section
variable {prog : Program} {w : World} {A : Around} {E : Value → Shared → Prop} {s : Shared}
end
end W1S
namespace W1
open PySem PySem.Spec PyProof.Rows L2 NdefX TL NumText
/-! ### a sequence: a list or a tuple of ours, or a list that somebody still holds -/
def SVar (A : Rl) (w : Ow) (Rs : List Rl) : Prop := (A = rLst Rs ∧ w = []) ∨ (A = rTup Rs ∧ w = []) ∨ ∃ q, A = rRef q ∧ w = [(q, oL Rs)]
def IsSq (F : Fx) (A : Rl) (w : Ow) (Rs : List Rl) : Prop := ∀ x G H, At F w G H → A.r x G → ∃ p vs, x = .ref p ∧ (SqL F.X.K H p vs ∨ SqT F.X.K H p vs) ∧ All2 Rs vs G
section
variable {F : Fx} {w wc : Ow} {A B : Rl} {Rs : List Rl} {xs : List Str} {g : Str} {v u : Option Int}
theorem isq_L : IsSq F (rLst Rs) w Rs := fun x G H at_ ⟨p, vs, a, b, c⟩ => ⟨p, vs, a, .inl (SqL.of (at_.gh _ _ b)), c⟩
theorem isq_T : IsSq F (rTup Rs) w Rs := fun x G H at_ ⟨p, vs, a, b, c⟩ => ⟨p, vs, a, .inr (SqT.of (at_.gh _ _ b)), c⟩
theorem isq_O {q : Addr} (h : (q, oL Rs) ∈ w) : IsSq F (rRef q) w Rs := fun x G H at_ hx => by
  cases (show x = V.ref q from hx)
  obtain ⟨_, _, o, h1, vs, rfl, h2⟩ := at_.ow _ h
  exact ⟨q, vs, rfl, .inl (SqL.of h1), h2⟩
theorem SVar.isq (h : SVar A wc Rs) (k : ∀ z ∈ wc, z ∈ w) : IsSq F A w Rs := by
  rcases h with ⟨rfl, rfl⟩ | ⟨rfl, rfl⟩ | ⟨q, rfl, rfl⟩
  · exact isq_L
  · exact isq_T
  · exact isq_O (k _ (List.mem_singleton.mpr rfl))
end
end W1
set_option maxRecDepth 100000
set_option maxHeartbeats 4000000
set_option exponentiation.threshold 20000
namespace W1
open PySem PySem.Spec PyProof.Rows L2 NdefX TL NumText
/-! ### loops over a sequence that somebody may still hold -/
/-- as Yld, where what is owned is as P says -/
structure YldP (F : Fx) (P : Ow → Prop) (J : It) (Rs : List Rl) (G : Hp) : Prop where
  go : ∀ i w G' H', P w → Same G G' → At F w G' H' → i < Rs.length → J.go i H'
  stop : ∀ w G' H', P w → Same G G' → At F w G' H' → J.stop Rs.length H'
  yld : ∀ (i : Nat) (R : Rl) w G' H' x H'', P w → Same G G' → At F w G' H' → Rs[i]? = some R → J.yld i H' x H'' → ∃ G'', Step G' H' G'' H'' ∧ R.r x G''
section
variable {F : Fx} {P : Ow → Prop} {ρ ρ1 : Ty} {ω w w1 wc : Ow} {tg it e : Expr} {Rs : List Rl} {A R : Rl} {K : Kn} {rest body : List Stmt} {pos p : Pos}
end
end W1
set_option maxRecDepth 100000
set_option maxHeartbeats 4000000
set_option exponentiation.threshold 20000
namespace W1
open PySem PySem.Spec PyProof.Rows L2 NdefX TL NumText
/-! ### a book, and what is wrong with what it is made of -/
abbrev Wy := Am × Int × Am
abbrev rWy (W : Addr) (y : Wy) : Rl := rWay W y.1 y.2.1 y.2.2
abbrev gWy (y : Wy) : List Str := goodsW y.1 y.2.2
structure WyOk (y : Wy) : Prop where
  few : y.1.length + y.2.2.length < 60
  nm : ∀ g ∈ gWy y, g.length ≤ 640
inductive BE where
  | num (n : Int) | name (z : Str) | twice (z : Str) | unk (z : Str)
/-- the names, one behind the other; s: those before -/
def gErr : List Str → List Str → Option BE
  | _, [] => none
  | s, g :: r => if nameL (tl g) = true then (if g ∈ s then some (.twice g) else gErr (s ++ [g]) r) else some (.name g)
def lost (gs : List Str) (y : Wy) : Option Str := (gWy y).find? fun g => !decide (g ∈ gs)
def wErr (gs : List Str) : List Wy → Option BE
  | [] => none
  | y :: r => match lost gs y with
    | some g => some (.unk g)
    | none => wErr gs r
def bErr (gs : List Str) (ys : List Wy) : Option BE :=
  if 1 ≤ gs.length ∧ gs.length ≤ 4 then match gErr [] gs with
    | some e => some e
    | none => if 1 ≤ ys.length ∧ ys.length ≤ 8 then wErr gs ys else some (.num ys.length)
  else some (.num gs.length)
def bookF (W : Addr) (gs : List Str) (ys : List Wy) : List (Str × Rl) := [("names", rTup ((srt gs).map rStr)), ("ways", rTup (ys.map (rWy W)))]
def rBook (C W : Addr) (gs : List Str) (ys : List Wy) : Rl := rIns C (bookF W gs ys)
structure BookX (K : PySem.W.Frag) (mg : Str → Option Value) (C : Addr) : Prop where
  cx : ClsX K C
  nn : NoAttr K C "names"
  nw : NoAttr K C "ways"
  gC : mg "Book" = some (.ref C)
  nf : PySem.W.notFirst K C (.ref C) = true
section
variable {P : Program} {w : World} {K : PySem.W.Frag} {mg : Str → Option Value} {base : Heap} {W C M N D U f : Addr} {fd : FuncData}
end
end W1
set_option maxRecDepth 100000
set_option maxHeartbeats 4000000
set_option exponentiation.threshold 20000
namespace W1
open PySem PySem.Spec PyProof.Rows L2 NdefX TL NumText
/-! ### Book(goods, ways) -/
section
variable {P : Program} {w : World} {K : PySem.W.Frag} {mg : Str → Option Value} {base : Heap} {W C M N D U f : Addr} {fd : FuncData} {tk1 tk2 : Tok}
end
end W1
set_option maxRecDepth 100000
set_option maxHeartbeats 4000000
set_option exponentiation.threshold 20000
namespace W1
open PySem PySem.Spec PyProof.Rows L2
/-! ### o != p by the default, from an own __eq__ -/
structure NeM (K : PySem.W.Frag) (C : Addr) : Prop where
  ne : PySem.W.findIn K (.ref C) "__ne__" = some (some (.builtin "object.__ne__"))
  ob : PySem.W.mroIn K C (.type "object") = some true
theorem ty_ne : typeOf (.builtin "object.__ne__") = pure (.type "wrapper_descriptor") := by show builtinType _ = _; rw [builtinType_eq_fast]; kernel_rfl
theorem plain_ne : plainId "object.__ne__" = true := by decide +kernel
section
variable {X : Cx} {pins : List (Addr × Obj)} {σ : L2.St} {H : Hp} {s : Shared} {A : Around} {E : Value → Shared → Prop} {C g a : Addr} {k : Nat} {fd : FuncData} {ps : List Str} {sp : Sp} {fs : List (Str × V)} {dx : Addr}
/-- a special method that is a built-in's slot -/
theorem bound_slot {M : Model} {K : PySem.W.Frag} {x : Addr} {ox : Obj} {od : Option Obj} {name : Str} {id : String} {args : List Value} {Q : Option Value → Shared → Prop} (K0 : K.In s.heap) (J : PySem.W.InstAt s.heap x ox C od) (hs : PySem.W.findIn K (.ref C) name = some (some (.builtin id))) (ty : typeOf (.builtin id) = pure (.type "wrapper_descriptor"))
    (h : wpAny M A (call (.builtin id) (.ref x :: args)) (fun v => Q (some v)) E s) : wpAny M A (callSpecialIfBound? (.ref x) name args) Q E s := by
  have bd : bindSpecial (.builtin id) (.ref x) = pure (.builtin id, [.ref x]) := by
    unfold bindSpecial
    rw [ty]
    rfl
  have fin : wpAny M A (call (.builtin id) ([.ref x] ++ args) >>= fun v => pure (some v)) Q E s := wpAny_bind (wpAny_mono h (fun v s' z => wpAny_pure z) fun _ _ z => z)
  simp only [callSpecialIfBound?, bindSpecialIfBound?]
  refine wpAny_holding (wpAny_bind (wpAny_bind (wpAny_bind (J.type.here ((PySem.W.looks_findIn K0 hs).here ?_)))))
  simp only [bd]
  refine wpAny_bind (wpAny_askSetting (wpAny_ite ?_))
  split
  · exact wpAny_bind (wpAny_pure (wpAny_pure fin))
  · exact wpAny_tryCatch (wpAny_bind (wpAny_pure (wpAny_pure fin)))
theorem objNe_of {prog : Program} {w : World} {A : Around} {E : Value → Shared → Prop} {s : Shared} {a : Addr} {b : Value} {Q : Fin → Shared → Prop} (hu : A.units < cLine)
    (h : wpAny (model prog w) A (callSpecialIfBound? (.ref a) "__eq__" [b]) (fun r s' => ∃ v, r = some (.bool v) ∧ Q (.done (.ret (.bool (!v)))) s') E s) : wpAny (model prog w) A (Builtin.«object.__ne__» ⟨[.ref a, b], []⟩) Q E s := by
  unfold Builtin.«object.__ne__»
  refine wpAny_bind (wpAny_of_eq (a := (Value.ref a, [b])) (by first | rfl | kernel_rfl!) ?_)
  refine wpAny_bind (wpAny_cRoomFor hu ?_)
  refine wpAny_bind (wpAny_mono h (fun r s' z => ?_) fun _ _ x => x)
  obtain ⟨v, rfl, q⟩ := z
  exact wpAny_bind (wpAny_truthy_bool (wpAny_pure q))
theorem ne_own {Q : VK} {b : V} {u t : Value} (m : OwnM X.K C "__eq__" g) (n : NeM X.K C) (F : FnOk X.prog X.w X.K X.mg X.base (L2.CX X.prog X.w) k g fd ps sp) (hr : Room (k + 1) A) (e0 : Env0 X.prog X.w X.K X.mg X.base A X.stack s H) (hb : Binds X.K fd ps []) (I : Inv X pins σ H s)
    (ha : H a = some (.ins C dx fs)) (ry : RelV b u) (ty : TyE X.K H b t) (hn : PySem.W.notFirst X.K C t = true) (q : sp [.ref a, b] H (fun v H' => ∃ r, v = .bl r ∧ Q (.bl (!r)) H') E0) : wpAny (model X.prog X.w) A (richCompare .NotEq (.ref a) u) (EP X pins σ Q) E s := by
  obtain ⟨od, J⟩ := inst_at I ha
  obtain ⟨mm, hF⟩ := I.fr
  have K0 : X.K.In s.heap := I.kIn
  have isob : PySem.W.Looks (model X.prog X.w) s.heap (isInstance (.ref a) (.type "object")) true := J.type.andThen (PySem.W.looks_mroIn K0 n.ob)
  have room : A.in1.units < cLine := hr.in1.units0
  have one : wpAny (model X.prog X.w) A (tryCompare (.ref a) "__ne__" u) (fun r s' => ∃ v, r = some v ∧ EP X pins σ Q v s') E s := by
    unfold tryCompare
    refine wpAny_bind (bound_slot K0 J n.ne ty_ne (wpAny_call (codeAny_call_builtin plain_ne PySem.F.cmpEntry_ne (PySem.W.check_slot PySem.F.cmpKind_ne PySem.F.cmpSplit_ne isob (PySem.F.cmpArgs_ne _ _) ?_))))
    refine objNe_of (b := u) room ?_
    refine PySem.W.ifBound_K (args := [u]) K0 J m.at_ m.fn (wpAny_mono (run_below (us := [.ref a, u]) (vs := [.ref a, b]) F hr.in1 e0.in1 hb I (.cons rfl (.cons ry .nil)) q _) (fun v s' z => ?_) fun _ _ x => x)
    obtain ⟨z', H', I', rz, r, rfl, qz⟩ := z
    cases (show v = Value.bool r from rz)
    exact ⟨r, rfl, wpAny_pure ⟨_, rfl, .bl (!r), H', I', rfl, qz⟩⟩
  unfold richCompare
  simp only [oneThing_ref]
  refine wpAny_holding (wpAny_bind (wpAny_cRoomFor hr.units0 ?_))
  refine wpAny_bind (J.type.here (wpAny_bind ((tye_looks I ry ty).here ?_)))
  split
  · rename_i z
    have e : PySem.W.subIn X.K t (.ref C) = some false := by
      rcases Bool.or_eq_true_iff.mp hn with e | e
      · rw [beq_iff_eq.mp e] at z; simp at z
      · exact beq_iff_eq.mp e
    refine wpAny_bind ((PySem.W.looks_subIn K0 e).here ?_)
    simp only [Bool.false_eq_true, if_false]
    refine wpAny_bind (wpAny_mono one (fun r s' z => ?_) fun _ _ x => x)
    obtain ⟨v, rfl, hq⟩ := z
    exact wpAny_pure hq
  · refine wpAny_bind (wpAny_pure ?_)
    simp only [Bool.false_eq_true, if_false]
    refine wpAny_bind (wpAny_mono one (fun r s' z => ?_) fun _ _ x => x)
    obtain ⟨v, rfl, hq⟩ := z
    exact wpAny_pure hq
def rOwnN (K : PySem.W.Frag) (C : Addr) (sp : Sp) : R2 := fun x y H Q => ∃ a dx vs t, x = .ref a ∧ H a = some (.ins C dx vs) ∧ TyE K H y t ∧ PySem.W.notFirst K C t = true ∧ sp [x, y] H (fun v H' => ∃ r, v = .bl r ∧ Q (.bl (!r)) H') E0
theorem op_ownN (m : OwnM X.K C "__eq__" g) (n : NeM X.K C) (Fn : FnOk X.prog X.w X.K X.mg X.base (L2.CX X.prog X.w) k g fd ps sp) (hr : Room (k + 1) X.A) (hb : Binds X.K fd ps []) : OpR X (compareOp .NotEq) (rOwnN X.K C sp) := by
  intro pins s σ H x y v u Q I rx ry ⟨a, dx, vs, t, ex, ha, ty, hn, q⟩
  subst ex
  cases (show v = Value.ref a from rx)
  show wpAny _ _ (richCompare .NotEq (.ref a) u) _ _ _
  exact ne_own m n Fn hr I.env0 hb I ha ry ty hn q
end
section
variable {F : Fx} {w : Ow} {C : Addr} {k n : Nat} {pre : Pre} {fs : List (Str × Rl)} {B : Rl} {r : Bool}
theorem bop_oN {t : Value} (T : Ko F.X.prog F.X.w F.X.K F.X.mg F.X.base C "__eq__" k pre) (nm : NeM F.X.K C) (hr : Room (k + 1) F.X.A) (hp : pre [rIns C fs, B] [] (.ok (rBool r)) []) (ht : TyR F.X.K B t) (hn : PySem.W.notFirst F.X.K C t = true) : Bop F w (compareOp .NotEq) (rIns C fs) B (rBool (!r)) := by
  obtain ⟨f, fd, ps, h1, h2, h3⟩ := T
  refine ⟨_, op_ownN h1 nm h3 hr h2, fun x y G H at_ hx hy Q q => ?_⟩
  obtain ⟨a, dx, vs, rfl, e1, e2⟩ := id hx
  exact ⟨a, dx, vs, t, rfl, at_.gh _ _ e1, ht y G H at_.gh hy, hn, sp_ok0 at_ (mk2 hx hy) hp fun v G2 H2 s a r2 => ⟨r, r2, q _ G2 H2 s a rfl⟩⟩
end
end W1
/-! ### == of two tuples of like length, items by what is known of each pair -/
namespace W1Q
open PySem PySem.SeqAt
open AutoSeq1 (wpAny_loadPart')
open MeetsSeq MeetsSeq2 MeetsSeq3 SeqRoads2
section
variable {prog : Program} {w : World} {A : Around} {R : Result → Shared → Prop} {l b : Addr} {e : Nat → Bool} {I : Nat → Shared → Prop}
end
end W1Q
set_option maxRecDepth 100000
set_option maxHeartbeats 4000000
set_option exponentiation.threshold 20000
namespace W1
open PySem PySem.Spec PyProof.Rows L2
section
variable {X : Cx} {n : Nat}
theorem tup_obj {pins : List (Addr × Obj)} {σ : L2.St} {H : Hp} {s : Shared} {p : Addr} {vs : List V} (I : Inv X pins σ H s) (h : H p = some (.tup vs)) : ∃ its nn dd sl, Vals vs its ∧ s.heap.get? p = some { cls := .type "tuple", dict := dd, data := .seq its.toArray nn, slots := sl } := by
  obtain ⟨z, its, r, o, e, hc, nn, hd⟩ := (show ObjOk X.prog X.w H s.heap p (.tup vs) from I.hok p _ h)
  obtain ⟨c, dd, da, sl⟩ := o
  obtain rfl : c = _ := hc
  obtain rfl : da = _ := hd
  exact ⟨its, nn, dd, sl, r, e⟩
end
end W1
set_option maxRecDepth 100000
set_option maxHeartbeats 2000000
set_option exponentiation.threshold 20000
namespace W1
open PySem PySem.Spec PyProof.Rows L2 NdefX TL NumText
/-! ### the law's draws -/
abbrev Pool := Int × Int × Bool
def oPool (s : Pool) : Ol := oL [rInt s.1, rInt s.2.1, rBool s.2.2]
def drS (s : Pool) (L : Int) : Pool := (if s.2.2 then s.1.fdiv L else s.1, s.2.1 + 1, s.2.2)
def atS (ns : List Int) (k : Nat) : Int := ns.getD k 0
def pAt (K : PySem.W.Frag) : Pre := pOk (α := List Int × Nat) (fun _ => True) (fun a => [rScr K (a.1.map V.int), rInt a.2]) (fun a => rInt (atS a.1 a.2))
theorem ixN_at {n : Nat} {k : Nat} (h : k < n) : ixN n (k : Int) = some k := by
  unfold ixN
  rw [if_pos (Int.natCast_nonneg k), if_pos (by omega)]
  simp
theorem mod_lt {m : Int} : (m.fmod 2147483647).natAbs < 2 ^ 64 := by
  have h1 := Int.fmod_nonneg_of_pos m (show (0 : Int) < 2147483647 by decide)
  have h2 := Int.fmod_lt_of_pos m (show (0 : Int) < 2147483647 by decide)
  have : (2 : Nat) ^ 64 = 18446744073709551616 := by decide
  omega
section
variable {F : Fx} {ρ : Ty} {ω w1 : Ow} {K : Kn} {rest body : List Stmt} {tg it : Expr} {pos : Pos} {α β : Type}
end
section
variable {P : Program} {w : World} {K : PySem.W.Frag} {mg : Str → Option Value} {base : Heap} {C B f : Addr} {fd : FuncData}
end
end W1
set_option maxRecDepth 100000
set_option maxHeartbeats 2000000
set_option exponentiation.threshold 20000
namespace W1
open PySem PySem.Spec PyProof.Rows L2 NdefX TL NumText
/-! ### the law's good, amounts_of -/
section
variable {F : Fx} {ρ : Ty} {ω w w1 : Ow} {K : Kn} {rest body : List Stmt} {tg it e : Expr} {pos p : Pos} {α β : Type} {Rs : List Rl} {P : Er}
theorem bop_eqE (hr : Room 1 F.X.A) : Bop F w (compareOp .Eq) (rLst Rs) (rLst []) (rBool (decide (Rs = []))) := by
  have h := bop_eqL (F := F) (w := w) (Rs := Rs) (Ss := []) (e := fun _ => true) (n := 0) (fun i R S _ h2 => by simp at h2) hr
  cases Rs with
  | nil => exact h
  | cons a l => exact h
end
/-- amounts of names drawn -/
structure AmI (ns : List Str) (am : Am) : Prop where
  nd : (namesA am).Nodup
  sub : ∀ g ∈ namesA am, g ∈ ns
  ok : ∀ p ∈ am, 0 ≤ p.2 ∧ p.2 ≤ 10 ^ 20
theorem mem_putA {am : Am} {k : Str} {v : Int} {p : Str × Int} (h : p ∈ putA am k v) : p ∈ am ∨ p = (k, v) := by
  unfold putA at h
  split at h
  · obtain ⟨q, hq, rfl⟩ := List.mem_map.mp h
    by_cases e : q.1 = k
    · rw [if_pos e, e]; exact .inr rfl
    · rw [if_neg e]; exact .inl hq
  · rcases List.mem_append.mp h with h | h
    · exact .inl h
    · exact .inr (List.mem_singleton.mp h)
theorem AmI.put {ns : List Str} {am : Am} {k : Str} {v : Int} (h : AmI ns am) (hk : k ∈ ns) (hv : 0 ≤ v ∧ v ≤ 10 ^ 20) : AmI ns (putA am k v) := by
  refine ⟨?_, fun g hg => ?_, fun p hp => ?_⟩
  · rw [names_put]
    split
    · exact h.nd
    · rename_i e
      refine List.nodup_append.mpr ⟨h.nd, by simp, fun a ha b hb => ?_⟩
      rw [List.mem_singleton.mp hb]
      exact fun z => e (z ▸ ha)
  · rw [names_put] at hg
    split at hg
    · exact h.sub _ hg
    · rcases List.mem_append.mp hg with hg | hg
      · exact h.sub _ hg
      · rw [List.mem_singleton.mp hg]; exact hk
  · rcases mem_putA hp with hp | rfl
    · exact h.ok _ hp
    · exact hv
theorem AmI.nil {ns : List Str} : AmI ns [] := ⟨List.nodup_nil, fun _ h => (by cases h), fun _ h => (by cases h)⟩
theorem sub_len {α : Type} [DecidableEq α] : ∀ {l ns : List α}, l.Nodup → (∀ g ∈ l, g ∈ ns) → l.length ≤ ns.length
  | [], _, _, _ => Nat.zero_le _
  | a :: l, ns, h, k => by
    have h2 := List.nodup_cons.mp h
    have ih := sub_len (ns := ns.erase a) h2.2 fun g hg => (List.mem_erase_of_ne (show g ≠ a from fun z => h2.1 (z ▸ hg))).mpr (k g (List.mem_cons_of_mem _ hg))
    have ha := k a List.mem_cons_self
    rw [List.length_erase_of_mem ha] at ih
    have := List.length_pos_of_mem ha
    rw [List.length_cons]
    omega
theorem AmI.len {ns : List Str} {am : Am} (h : AmI ns am) : am.length ≤ ns.length := by
  have := sub_len h.nd h.sub
  unfold namesA at this
  rw [List.length_map] at this
  exact this
end W1
set_option maxRecDepth 100000
set_option maxHeartbeats 2000000
set_option exponentiation.threshold 20000
namespace W1
open PySem PySem.Spec PyProof.Rows L2 NdefX TL NumText
/-! ### comparing what is owned -/
theorem Step.wide {G H H' : Hp} (sg : Same G H) (hh : Same H H') : Step G H (fun a => if H a = none then H' a else G a) H' where
  gg := fun a o e => by
    show (if H a = none then H' a else G a) = some o
    rw [if_neg (by rw [sg a o e]; simp)]
    exact e
  hh := hh
  gh := fun a o e => by
    have e : (if H a = none then H' a else G a) = some o := e
    by_cases h : H a = none
    · rw [if_pos h] at e; exact e
    · rw [if_neg h] at e; exact hh _ _ (sg _ _ e)
  fr := fun a h1 h2 => by
    show (if H a = none then H' a else G a) = none
    rw [if_neg h1]
    exact h2
section
variable {F : Fx} {ω w : Ow} {A B A' B' R : Rl} {n : Nat} {q : Addr} {b : Bool}
theorem bop_semH {f : Value → Value → Sem Value} (hA : ∀ x G H, At F w G H → A.r x G → A'.r x H) (hB : ∀ x G H, At F w G H → B.r x G → B'.r x H)
    (h : ∀ pins s σ G H x y u v Q, Inv F.X pins σ H s → RelV x u → RelV y v → Same G H → A'.r x G → B'.r y G → (∀ z G' H', Step G H G' H' → (rBool b).r z G' → Q z H') → wpAny (model F.X.prog F.X.w) F.X.A (f u v) (EP F.X pins σ Q) F.X.xe s) : Bop F w f A B (rBool b) :=
  ⟨fun x y H Q => A'.r x H ∧ B'.r y H ∧ ∀ H', Same H H' → Q (V.bl b) H', fun pins s σ H x y v u Q I rx ry ⟨ax, ay, q⟩ => h pins s σ H H x y v u Q I rx ry (Same.refl _) ax ay fun z G' H' st rz => by
      cases (show z = V.bl b from rz)
      exact q H' st.hh,
    fun x y G H at_ ax ay Q q => ⟨hA x G H at_ ax, hB y G H at_ ay, fun H' sh => q _ _ H' (Step.wide at_.gh sh).gg (at_.step (Step.wide at_.gh sh)) rfl⟩⟩
end
/-! ### what is kept, what is told -/
theorem names_kept {am : Am} {g : Str} : g ∈ namesA (keptA am) ↔ g ∈ namesA am ∧ 0 < valA am g := by
  unfold keptA namesA
  rw [List.map_map, show ((fun x : Str × Int => x.1) ∘ fun g => (g, valA am g)) = id from rfl, List.map_id]
  unfold keptL
  rw [List.mem_filter, (srt_perm _).mem_iff, decide_eq_true_iff]
  rfl
end W1
set_option maxRecDepth 100000
set_option maxHeartbeats 2000000
set_option exponentiation.threshold 20000
namespace W1
open PySem PySem.Spec PyProof.Rows L2 NdefX TL NumText
/-! ### the law's same -/
end W1
set_option maxRecDepth 100000
set_option maxHeartbeats 4000000
set_option exponentiation.threshold 20000
namespace W1
open PySem PySem.Spec PyProof.Rows L2 NdefX TL NumText
/-! ### what a book tells -/
structure WyG (y : Wy) : Prop where
  ok : WyOk y
  g1 : AmG y.1
  g2 : AmG y.2.2
  c1 : chkL y.1 (srt (namesA y.1)) = none
  c2 : chkL y.2.2 (srt (namesA y.2.2)) = none
end W1
set_option maxRecDepth 100000
set_option maxHeartbeats 4000000
set_option exponentiation.threshold 20000
namespace W1
open PySem PySem.Spec PyProof.Rows L2 NdefX TL NumText
/-! ### == of tuples of texts -/
end W1
set_option maxRecDepth 100000
set_option maxHeartbeats 4000000
set_option exponentiation.threshold 20000
namespace W1
open PySem PySem.Spec PyProof.Rows L2 NdefX TL NumText
/-! ### len, iteration, ==, way, check_good, net -/
def wy0 : Wy := ([], 1, [])
section
variable (C W : Addr)
def pBLen : Pre := fun Rs w o w' => ∃ gs ys, Rs = [rBook C W gs ys] ∧ w = [] ∧ w' = [] ∧ o = .ok (rInt ((ys.length : Nat) : Int))
def netW (y : Wy) (g : Str) : Int := valA (keptA y.2.2) g - valA (keptA y.1) g
def pBNet (U V : Addr) : Pre := fun Rs w o w' => ∃ gs ys i g, i.natAbs.log2 < 1920 ∧ g.length ≤ 640 ∧ Rs = [rBook C W gs ys, rInt i, rStr g] ∧ w = [] ∧ w' = [] ∧
  o = (if 0 ≤ i ∧ i < ys.length then (if g ∈ gs then .ok (rInt (netW (ys.getD i.toNat wy0) g)) else .error (erF U "name" (rStr g))) else .error (erF V "at" (rInt i)))
end
section
variable {P : Program} {w : World} {K : PySem.W.Frag} {mg : Str → Option Value} {base : Heap} {W C M N D U V f : Addr} {fd : FuncData}
end
end W1
set_option maxRecDepth 100000
set_option maxHeartbeats 4000000
set_option exponentiation.threshold 20000
namespace W1
open PySem PySem.Spec PyProof.Rows L2 NdefX TL NumText
theorem srt_mem_iff {gs : List Str} {g : Str} : g ∈ srt gs ↔ g ∈ gs := (srt_perm gs).mem_iff
section
variable {P : Program} {w : World} {K : PySem.W.Frag} {mg : Str → Option Value} {base : Heap} {W C M N D U V f : Addr} {fd : FuncData}
end
end W1
set_option maxRecDepth 100000
set_option maxHeartbeats 4000000
set_option exponentiation.threshold 20000
namespace W1
open PySem PySem.Spec PyProof.Rows L2 NdefX TL NumText
/-! ### joint, makers -/
section
variable (C W : Addr)
end
section
variable {P : Program} {w : World} {K : PySem.W.Frag} {mg : Str → Option Value} {base : Heap} {W C M N D U V f : Addr} {fd : FuncData}
end
end W1
set_option maxRecDepth 100000
set_option maxHeartbeats 4000000
set_option exponentiation.threshold 20000
namespace W1
open PySem PySem.Spec PyProof.Rows L2 NdefX TL NumText
/-! ### [*a, ..], books made of books -/
section
variable {F : Fx} {ρ : Ty} {ω w1 w2 : Ow} {e : Expr} {es : List Expr} {A : Rl} {Rs Ss : List Rl} {p : Pos}
theorem ar_star (he : ER F ρ ω e A w1) (hA : IsSq F A w1 Rs) (hr : AR F ρ w1 es Ss w2) (hs : starEach (.Starred e p :: es) F.X.env = (true, eval e F.X.env) :: starEach es F.X.env := by rfl) : AR F ρ ω (.Starred e p :: es) (Rs ++ Ss) w2 := fun σ G H at_ sl Q q => by
  refine aw_of (StX.pa_star pe_w pa_w hs) (he σ G H at_ sl _ fun v G1 H1 s1 a1 r1 => ?_)
  obtain ⟨t, vs, rfl, h1, h2⟩ := hA v G1 H1 a1 r1
  exact ⟨t, vs, rfl, h1.symm, hr σ G1 H1 a1 (sl.up s1) _ fun us G2 H2 s2 a2 r2 => q _ G2 H2 (s1.trans s2) a2 ((h2.up s2).app r2)⟩
end
structure BkOk (gs : List Str) (ys : List Wy) : Prop where
  nm : ∀ g ∈ gs, g.length ≤ 640
  ok : ∀ y ∈ ys, WyOk y
  lg : gs.length ≤ 1000
  ly : ys.length ≤ 1000
section
variable {C W M N D U V : Addr}
end
section
variable {F : Fx} {ρ : Ty} {ω : Ow} {e1 e2 : Expr} {A1 A2 : Rl} {gs : List Str} {ys : List Wy} {C W M N D U : Addr} {rest : List Stmt} {p pos pos' : Pos}
end
section
variable {P : Program} {w : World} {K : PySem.W.Frag} {mg : Str → Option Value} {base : Heap} {W C M N D U V f : Addr} {fd : FuncData} {tk2 : Tok}
end
end W1
set_option maxRecDepth 100000
set_option maxHeartbeats 4000000
set_option exponentiation.threshold 20000
namespace W1
open PySem PySem.Spec PyProof.Rows L2 NdefX TL NumText
/-! ### only -/
section
variable {P : Program} {w : World} {K : PySem.W.Frag} {mg : Str → Option Value} {base : Heap} {W C M N D U V f : Addr} {fd : FuncData}
end
end W1
set_option maxRecDepth 100000
set_option maxHeartbeats 4000000
set_option exponentiation.threshold 20000
namespace W1
open PySem PySem.Spec PyProof.Rows L2 NdefX TL NumText
/-! ### pop, insert, clear of an owned list -/
section
variable {F : Fx} {ρ : Ty} {ω w w1 w2 : Ow} {o e e2 : Expr} {es : List Expr} {A R : Rl} {Rs : List Rl} {q : Addr} {K : Kn} {rest : List Stmt} {p apos pos : Pos} {O : Ol}
theorem All2.erase : ∀ {Rs : List Rl} {vs : List V} {H : Hp} (n : Nat), All2 Rs vs H → All2 (Rs.eraseIdx n) (vs.eraseIdx n) H
  | [], [], _, _, h => h
  | _ :: _, _ :: _, _, 0, ⟨_, h⟩ => h
  | _ :: _, _ :: _, _, n + 1, ⟨a, h⟩ => ⟨a, All2.erase n h⟩
  | [], _ :: _, _, _, h => h.elim
  | _ :: _, [], _, _, h => h.elim
theorem seq_in {i : Int} {n : Nat} (h0 : 0 ≤ i) (h1 : i < (n : Int)) : seqIndex? i n = some i.toNat := by
  unfold seqIndex?
  first
    | (rw [if_neg (by omega)]; simp; omega)
    | (simp; omega)
theorem er_popAt {i : Int} {k : Nat} (ho : ER F ρ ω o (rRef q) w1) (ha : ER F ρ w1 e (rInt i) ((q, oL Rs) :: w2)) (hm : (q, oL Rs) ∈ w1) (h0 : 0 ≤ i) (h1 : i < 2 ^ 62) (hk : seqIndex? i Rs.length = some k) (hR : Rs[k]? = some R)
    (hbase : attributeBase o "pop" F.X.env (eval o F.X.env) = eval o F.X.env := by rfl)
    (hfew : ((backTo p (starEach [e] F.X.env)).all (fun x => !x.1) && (backToKw p (keywordEach [] F.X.env)).all (fun x => x.1.isSome) && decide ([e].length + ([] : List Keyword).length + (if ([] : List Keyword).isEmpty then 0 else 1) < 30)) = true := by rfl)
    (hline : (apos.endLine == p.line) = true := by rfl) (hs : starEach [e] F.X.env = (false, eval e F.X.env) :: starEach [] F.X.env := by rfl) (hplain : (backTo p (starEach [] F.X.env)).any (·.1) = false := by rfl) :
    ER F ρ ω (.Call (.Attribute o "pop" apos) [e] [] p) R ((q, oL (Rs.eraseIdx k)) :: w2) := fun σ G H at_ sl Q r => by
  have ha2 : AR F ρ w1 [e] [rInt i] ((q, oL Rs) :: w2) := ar_cons ha ar_nil hs
  refine ew_of (pe_bm (T := "list") PySem.F.plainAttrs_list PySem.F.slot_list_pop PySem.F.type_list_pop mt_popAt pe_w pa_w hbase hfew hline hs hplain) (ho σ G H at_ sl _ fun x G1 H1 s1 a1 r1 => ?_)
  cases (show x = V.ref q from r1)
  obtain ⟨_, _, ob, h1', vs, e1, _⟩ := a1.ow _ hm
  subst e1
  refine ⟨.inl ⟨rfl, vs, SqL.of h1'⟩, ha2 σ G1 H1 a1 (sl.up s1) _ fun us G2 H2 s2 a2 r2 => ?_⟩
  obtain ⟨v, rfl, rv⟩ := all1 r2
  cases (show v = V.int i from rv)
  obtain ⟨_, _, ob, h3, ws, e3, h4⟩ := a2.ow _ List.mem_cons_self
  subst e3
  obtain ⟨y, hy, ry⟩ := h4.get hR
  refine ⟨q, ws, i, k, y, rfl, rfl, h3, by omega, by omega, ?_, hy, r y G2 _ (s1.trans s2) (a2.chg ⟨_, rfl, h4.erase k⟩) ry⟩
  rw [← h4.len]
  exact hk
end
end W1
set_option maxRecDepth 100000
set_option maxHeartbeats 4000000
set_option exponentiation.threshold 20000
namespace W1
open PySem PySem.Spec PyProof.Rows L2 NdefX TL NumText
/-! ### a comprehension as a new list; makers as a new list -/
section
variable {F : Fx} {ρ : Ty} {ω w1 : Ow} {tg it elt c : Expr} {pos spos : Pos} {scope : Scope} {own : List (Str × Nat)} {g : TG} {ifs : List Expr} {α : Type}
end
section
variable {P : Program} {w : World} {K : PySem.W.Frag} {mg : Str → Option Value} {base : Heap} {W C M N D U V f : Addr} {fd : FuncData}
end
end W1
set_option maxRecDepth 100000
set_option maxHeartbeats 4000000
set_option exponentiation.threshold 20000
namespace W1
open PySem PySem.Spec PyProof.Rows L2 NdefX TL NumText
/-! ### the law's names -/
abbrev menuN : List Str := [Str.ofString "a", Str.ofString "b", Str.ofString "c", Str.ofString "x1", Str.ofString "x10", Str.ofString "y", Str.ofString "abcdefgh", Str.ofString "d9"]
structure Goods (gs : List Str) : Prop where
  nd : gs.Nodup
  sub : ∀ g ∈ gs, g ∈ menuN
section
variable {P : Program} {w : World} {K : PySem.W.Frag} {mg : Str → Option Value} {base : Heap} {f : Addr} {fd : FuncData}
end
end W1
set_option maxRecDepth 100000
set_option maxHeartbeats 2000000
set_option exponentiation.threshold 20000
namespace W1
open PySem PySem.Spec PyProof.Rows L2 NdefX TL NumText
/-! ### amounts drawn -/
section
variable {P : Program} {w : World} {K : PySem.W.Frag} {mg : Str → Option Value} {base : Heap} {W N B f : Addr} {fd : FuncData}
end
end W1
set_option maxRecDepth 100000
set_option maxHeartbeats 4000000
set_option exponentiation.threshold 20000
namespace W1
open PySem PySem.Spec PyProof.Rows L2 NdefX TL NumText
/-! ### a row -/
section
variable {P : Program} {w : World} {K : PySem.W.Frag} {mg : Str → Option Value} {base : Heap} {f : Addr} {fd : FuncData}
end
end W1
set_option maxRecDepth 100000
set_option maxHeartbeats 4000000
set_option exponentiation.threshold 20000
namespace W1
open PySem PySem.Spec PyProof.Rows L2 NdefX TL NumText
section
variable {P : Program} {w : World} {K : PySem.W.Frag} {mg : Str → Option Value} {base : Heap} {f : Addr} {fd : FuncData}
end
end W1
set_option maxRecDepth 100000
set_option maxHeartbeats 4000000
set_option exponentiation.threshold 20000
namespace W1
open PySem PySem.Spec PyProof.Rows L2 NdefX TL NumText
/-! ### a book, or what is wrong -/
/-- the four classes of errors: each is taken by its own clause alone -/
structure Err4 (K : PySem.W.Frag) (mg : Str → Option Value) (M N D U : Addr) : Prop where
  gM : mg "BadNumber" = some (.ref M)
  gN : mg "BadName" = some (.ref N)
  gD : mg "DuplicateName" = some (.ref D)
  gU : mg "UnknownName" = some (.ref U)
  xM : XfC K M
  xN : XfC K N
  xD : XfC K D
  xU : XfC K U
  nM : PySem.W.findIn K (.ref M) "n" = some none
  nN : PySem.W.findIn K (.ref N) "name" = some none
  nD : PySem.W.findIn K (.ref D) "name" = some none
  nU : PySem.W.findIn K (.ref U) "name" = some none
  tMM : PySem.W.exmOne K (.ref M) (.ref M) = some true
  tNN : PySem.W.exmOne K (.ref N) (.ref N) = some true
  tDD : PySem.W.exmOne K (.ref D) (.ref D) = some true
  tUU : PySem.W.exmOne K (.ref U) (.ref U) = some true
  tNM : PySem.W.exmOne K (.ref N) (.ref M) = some false
  tDM : PySem.W.exmOne K (.ref D) (.ref M) = some false
  tDN : PySem.W.exmOne K (.ref D) (.ref N) = some false
  tUM : PySem.W.exmOne K (.ref U) (.ref M) = some false
  tUN : PySem.W.exmOne K (.ref U) (.ref N) = some false
  tUD : PySem.W.exmOne K (.ref U) (.ref D) = some false
section
variable {P : Program} {w : World} {K : PySem.W.Frag} {mg : Str → Option Value} {base : Heap} {W C M N D U f : Addr} {fd : FuncData}
end
end W1
set_option maxRecDepth 100000
set_option maxHeartbeats 4000000
set_option exponentiation.threshold 20000
namespace W1
open PySem PySem.Spec PyProof.Rows L2 NdefX TL NumText
/-! ### one way more, some ways -/
section
variable {P : Program} {w : World} {K : PySem.W.Frag} {mg : Str → Option Value} {base : Heap} {W C M N D U V f : Addr} {fd : FuncData}
end
end W1
set_option maxRecDepth 100000
set_option maxHeartbeats 4000000
set_option exponentiation.threshold 20000
namespace W1
open PySem PySem.Spec PyProof.Rows L2 NdefX TL NumText
/-- BadWay beside BadNumber -/
structure ErrV (K : PySem.W.Frag) (mg : Str → Option Value) (M V : Addr) : Prop where
  gV : mg "BadWay" = some (.ref V)
  xV : XfC K V
  nV : PySem.W.findIn K (.ref V) "at" = some none
  tVV : PySem.W.exmOne K (.ref V) (.ref V) = some true
  tVM : PySem.W.exmOne K (.ref V) (.ref M) = some false
section
variable {P : Program} {w : World} {K : PySem.W.Frag} {mg : Str → Option Value} {base : Heap} {W C M N D U V f : Addr} {fd : FuncData}
end
end W1
set_option maxRecDepth 100000
set_option maxHeartbeats 4000000
set_option exponentiation.threshold 20000
namespace W1
open PySem PySem.Spec PyProof.Rows L2 NdefX TL NumText
/-! ### a comprehension over three names of a list of three -/
end W1
set_option maxRecDepth 100000
set_option maxHeartbeats 4000000
set_option exponentiation.threshold 20000
namespace W1
open PySem PySem.Spec PyProof.Rows L2 NdefX TL NumText
/-- a row that makes a way -/
structure RwOk (y : Wy) : Prop where
  g1 : AmG y.1
  g2 : AmG y.2.2
  hh : y.2.1.natAbs.log2 < 1920
  ok : wayE y.1 y.2.1 y.2.2 = none
section
variable {P : Program} {w : World} {K : PySem.W.Frag} {mg : Str → Option Value} {base : Heap} {W C M N D U V f : Addr} {fd : FuncData}
end
end W1
set_option maxRecDepth 100000
set_option maxHeartbeats 4000000
set_option exponentiation.threshold 20000
namespace W1
open PySem PySem.Spec PyProof.Rows L2 NdefX TL NumText
section
variable {F : Fx} {ρ : Ty} {ω w w1 w2 : Ow} {a b c e : Expr} {es : List Expr} {A R S : Rl} {K : Kn} {rest : List Stmt} {pos : Pos} {x y z : Str} {k : Nat} {Φ : Rl → Ow → Prop} {Ψ : List Rl → Ow → Prop}
theorem hb_ifJ {th : List Stmt} {b : Bool} (J : Ty → Ow → Prop) (hc : TR F ρ ω c b w1) (h1 : b = true → HB F ρ w1 th { K with nx := J }) (h2 : b = false → J ρ w1) (hr : ∀ ρ' w', J ρ' w' → HB F ρ' w' rest K) : HB F ρ ω (.If c th [] pos :: rest) K :=
  hb_if hc (fun e => fun σ G H D at_ sl ps => h1 e σ G H D at_ sl ⟨fun ρ' w' k => ps.nx ρ' w' (hr ρ' w' k), ps.rt, ps.bk, ps.ct, ps.ex⟩) fun e => hb_nil (hr _ _ (h2 e))
end
section
variable {F : Fx} {ρ : Ty} {ω w w1 w2 w3 : Ow} {e o ix it elt : Expr} {R S : Rl} {Rs : List Rl} {K : Kn} {rest : List Stmt} {pos p spos py : Pos} {x y : Str} {q : Addr} {Φ : Rl → Ow → Prop} {scope : Scope}
end
theorem rng_get {lo : Int} {n k : Nat} {S : Rl} (h : (rng lo n)[k]? = some S) : k < n ∧ S = rInt (lo + k) := by
  unfold rng at h
  obtain ⟨j, hj, rfl⟩ := map_get h
  obtain ⟨hl, e⟩ := List.getElem?_eq_some_iff.mp hj
  rw [List.getElem_range] at e
  rw [List.length_range] at hl
  subst e
  exact ⟨hl, rfl⟩
theorem AmI.val {ns : List Str} {am : Am} (h : AmI ns am) (g : Str) : 0 ≤ valA am g := by
  unfold valA
  cases e : am.find? fun p => decide (p.1 = g) with
  | none => decide
  | some p => exact (h.ok p (List.mem_of_find?_eq_some e)).1
theorem chk_none {am : Am} : ∀ {l : List Str}, (∀ g ∈ l, nameL (tl g) = true ∧ 0 ≤ valA am g) → chkL am l = none
  | [], _ => rfl
  | a :: l, h => by
    have h1 := h a List.mem_cons_self
    unfold chkL
    rw [if_pos h1.1, if_neg (by omega)]
    exact chk_none fun g hg => h g (List.mem_cons_of_mem _ hg)
theorem small_log {i : Int} (h : i.natAbs ≤ 10 ^ 20) : i.natAbs.log2 < 1920 := by
  rcases Nat.eq_zero_or_pos i.natAbs with z | z
  · rw [z]; decide
  · have h2 : i.natAbs < 2 ^ 67 := Nat.lt_of_le_of_lt h (by decide)
    exact Nat.lt_trans ((Nat.log2_lt (by omega)).mpr h2) (by decide)
def Sh (n : Nat) (d : PyData) : Prop := d.canLay0 = true ∧ d.depth ≤ n
theorem Sh.up {m n : Nat} {d : PyData} (h : Sh m d) (l : m ≤ n) : Sh n d := ⟨h.1, Nat.le_trans h.2 l⟩
theorem Sh.ok {n : Nat} {d : PyData} (h : Sh n d) (l : n ≤ 64) : SeqAt.shaped d = true := by
  unfold SeqAt.shaped
  rw [h.1, decide_eq_true (Nat.le_trans h.2 l)]; rfl
/-! ### {k: v}, {k: v, l: z}; a list behind a list that makes things -/
section
variable {F : Fx} {ρ : Ty} {ω w w1 w2 w3 w4 : Ow} {a b c d : Expr} {R S : Rl} {As : List Rl} {pos : Pos} {k l : Key} {Φ : Rl → Ow → Prop}
end
/-! ### a pool of which no more is known -/
/-! ### rows that make ways -/
structure RwG (y : Wy) : Prop where
  rw : RwOk y
  wy : WyOk y
/-- a row of goods that are drawn -/
structure RowK (gs : List Str) (y : Wy) : Prop where
  it : AmI gs y.1
  im : AmI gs y.2.2
  h1 : 1 ≤ y.2.1
  h2 : y.2.1 ≤ 100
  pos : ∃ g ∈ gs, 0 < valA y.2.2 g
theorem menu_name : ∀ g ∈ menuN, nameL (tl g) = true := by
  have : (menuN.all fun g => nameL (tl g)) = true := by decide +kernel
  exact fun g hg => List.all_eq_true.mp this g hg
theorem menu_len : ∀ g ∈ menuN, g.length ≤ 640 := by
  have : (menuN.all fun g => decide (g.length ≤ 640)) = true := by decide +kernel
  exact fun g hg => of_decide_eq_true (List.all_eq_true.mp this g hg)
theorem mem_goodsW {t m : Am} {g : Str} : g ∈ goodsW t m ↔ g ∈ namesA (keptA t) ∨ g ∈ namesA (keptA m) := by
  unfold goodsW
  rw [srt_mem_iff]
  have h0 : (namesA ([] : Am)).Nodup := List.nodup_nil
  obtain ⟨h1, h2⟩ := names_merge (keptA t) [] h0
  rw [(names_merge (keptA m) _ h1).2, h2]
  simp [namesA]
theorem am_big {gs : List Str} {am : Am} (G : Goods gs) (h : AmI gs am) : AmG am := by
  have hl := h.len
  have h8 : gs.length ≤ 8 := sub_len G.nd G.sub
  refine ⟨⟨by omega, fun p hp => ⟨menu_len _ (G.sub _ (h.sub _ (List.mem_map_of_mem hp))), ?_⟩⟩, h.nd⟩
  have := h.ok p hp
  exact small_log (by omega)
theorem am_chk {gs : List Str} {am : Am} (G : Goods gs) (h : AmI gs am) : chkL am (srt (namesA am)) = none := chk_none fun g hg => ⟨menu_name g (G.sub _ (h.sub g (srt_mem hg))), h.val g⟩
theorem kept_ne2 {am : Am} {g : Str} (h : 0 < valA am g) : keptA am ≠ [] := fun e => by
  have hm : g ∈ namesA am := by
    by_cases z : g ∈ namesA am
    · exact z
    · have := (valR_An z).2
      omega
  have : g ∈ namesA (keptA am) := names_kept.mpr ⟨hm, h⟩
  rw [e] at this
  cases this
theorem RowK.way {gs : List Str} {y : Wy} (G : Goods gs) (r : RowK gs y) : wayE y.1 y.2.1 y.2.2 = none := by
  obtain ⟨g, hg, hp⟩ := r.pos
  unfold wayE
  rw [am_chk G r.it]
  dsimp only
  rw [am_chk G r.im]
  dsimp only
  rw [if_neg (by have := r.h1; omega), if_neg (kept_ne2 hp)]
theorem RowK.subg {gs : List Str} {y : Wy} (r : RowK gs y) : ∀ g ∈ gWy y, g ∈ gs := fun g hg => by
  rcases mem_goodsW.mp hg with h | h
  · exact r.it.sub _ (names_kept.mp h).1
  · exact r.im.sub _ (names_kept.mp h).1
theorem RowK.g {gs : List Str} {y : Wy} (G : Goods gs) (r : RowK gs y) : RwG y := by
  have h8 : gs.length ≤ 8 := sub_len G.nd G.sub
  have l1 := r.it.len
  have l2 := r.im.len
  refine ⟨⟨am_big G r.it, am_big G r.im, small_log ?_, r.way G⟩, ⟨by omega, fun g hg => menu_len _ (G.sub _ (r.subg g hg))⟩⟩
  have h1 := r.h1
  have h2 := r.h2
  omega
end W1
set_option maxRecDepth 100000
set_option maxHeartbeats 4000000
set_option exponentiation.threshold 20000
namespace W1
open PySem PySem.Spec PyProof.Rows L2 NdefX TL NumText
/-! ### rows drawn -/
structure RowsK (gs : List Str) (ys : List Wy) : Prop where
  l1 : 1 ≤ ys.length
  l8 : ys.length ≤ 8
  row : ∀ y ∈ ys, RowK gs y
section
variable {P : Program} {w : World} {K : PySem.W.Frag} {mg : Str → Option Value} {base : Heap} {f : Addr} {fd : FuncData}
end
end W1
set_option maxRecDepth 100000
set_option maxHeartbeats 4000000
set_option exponentiation.threshold 20000
namespace W1
open PySem PySem.Spec PyProof.Rows L2 NdefX TL NumText
/-! ### a book that fits its rows; the five questions -/
structure FitB (gs : List Str) (ys : List Wy) : Prop where
  ok : bErr gs ys = none
  rw : ∀ y ∈ ys, RwG y
  nm : ∀ g ∈ gs, g.length ≤ 640
theorem FitB.gs {gs : List Str} {ys : List Wy} (h : FitB gs ys) : (1 ≤ gs.length ∧ gs.length ≤ 4) ∧ gErr [] gs = none ∧ (1 ≤ ys.length ∧ ys.length ≤ 8) ∧ wErr gs ys = none := by
  have e := h.ok
  unfold bErr at e
  split at e
  · rename_i h1
    refine ⟨h1, ?_⟩
    split at e
    · cases e
    · rename_i h2
      refine ⟨h2, ?_⟩
      split at e
      · rename_i h3
        exact ⟨h3, e⟩
      · cases e
  · cases e
theorem gErr_ok : ∀ {gs s : List Str}, gErr s gs = none → s.Nodup → (s ++ gs).Nodup ∧ ∀ g ∈ gs, nameL (tl g) = true
  | [], s, _, hs => ⟨by rw [List.append_nil]; exact hs, fun _ h => (by cases h)⟩
  | g :: r, s, e, hs => by
    unfold gErr at e
    split at e
    · rename_i hn
      split at e
      · cases e
      · rename_i hm
        obtain ⟨h1, h2⟩ := gErr_ok (gs := r) (s := s ++ [g]) e (List.nodup_append.mpr ⟨hs, by simp, fun a ha b hb => by rw [List.mem_singleton.mp hb]; exact fun z => hm (z ▸ ha)⟩)
        rw [List.append_assoc] at h1
        refine ⟨h1, fun x hx => ?_⟩
        rcases List.mem_cons.mp hx with rfl | hx
        · exact hn
        · exact h2 x hx
    · cases e
theorem gErr_of : ∀ {gs s : List Str}, (s ++ gs).Nodup → (∀ g ∈ gs, nameL (tl g) = true) → gErr s gs = none
  | [], _, _, _ => rfl
  | g :: r, s, h, hn => by
    unfold gErr
    rw [if_pos (hn g List.mem_cons_self)]
    have hm : g ∉ s := fun z => by
      have := (List.nodup_append.mp h).2.2 g z g List.mem_cons_self
      exact this rfl
    rw [if_neg hm]
    exact gErr_of (by rw [List.append_assoc]; exact h) fun x hx => hn x (List.mem_cons_of_mem _ hx)
theorem wErr_ok {gs : List Str} : ∀ {ys : List Wy}, wErr gs ys = none ↔ ∀ y ∈ ys, ∀ g ∈ gWy y, g ∈ gs
  | [] => ⟨fun _ _ h => (by cases h), fun _ => rfl⟩
  | y :: r => by
    have ih := wErr_ok (gs := gs) (ys := r)
    have key : lost gs y = none ↔ ∀ g ∈ gWy y, g ∈ gs := by
      unfold lost
      rw [List.find?_eq_none]
      constructor
      · intro h g hg
        have := h g hg
        simpa using this
      · intro h g hg
        simpa using h g hg
    unfold wErr
    cases c : lost gs y with
    | some g =>
      constructor
      · intro e; cases e
      · intro h
        rw [key.mpr (h y List.mem_cons_self)] at c
        cases c
    | none =>
      dsimp only
      rw [ih]
      constructor
      · intro h z hz
        rcases List.mem_cons.mp hz with rfl | hz
        · exact key.mp c
        · exact h z hz
      · intro h z hz
        exact h z (List.mem_cons_of_mem _ hz)
theorem bErr_of {gs : List Str} {ys : List Wy} (h1 : 1 ≤ gs.length ∧ gs.length ≤ 4) (hd : gs.Nodup) (hn : ∀ g ∈ gs, nameL (tl g) = true) (h2 : 1 ≤ ys.length ∧ ys.length ≤ 8) (hw : ∀ y ∈ ys, ∀ g ∈ gWy y, g ∈ gs) : bErr gs ys = none := by
  unfold bErr
  rw [if_pos h1, gErr_of (s := []) hd hn]
  dsimp only
  rw [if_pos h2]
  exact wErr_ok.mpr hw
theorem FitB.nd {gs : List Str} {ys : List Wy} (h : FitB gs ys) : gs.Nodup := (gErr_ok h.gs.2.1 List.nodup_nil).1
theorem FitB.nice {gs : List Str} {ys : List Wy} (h : FitB gs ys) : ∀ g ∈ gs, nameL (tl g) = true := (gErr_ok h.gs.2.1 List.nodup_nil).2
theorem FitB.has {gs : List Str} {ys : List Wy} (h : FitB gs ys) : ∀ y ∈ ys, ∀ g ∈ gWy y, g ∈ gs := wErr_ok.mp h.gs.2.2.2
theorem FitB.bk {gs : List Str} {ys : List Wy} (h : FitB gs ys) : BkOk gs ys := ⟨h.nm, fun y hy => (h.rw y hy).wy, by have := h.gs; omega, by have := h.gs; omega⟩
/-- some of the rows, the names in whatever order -/
theorem FitB.sub {gs gs2 : List Str} {ys zs : List Wy} (h : FitB gs ys) (hp : gs2.Perm gs) (hz : ∀ y ∈ zs, y ∈ ys) (h1 : 1 ≤ zs.length) (h8 : zs.length ≤ 8) : FitB gs2 zs := by
  have hg := h.gs
  refine ⟨bErr_of ?_ (hp.nodup_iff.mpr h.nd) (fun g hg => h.nice g (hp.mem_iff.mp hg)) ⟨h1, h8⟩ (fun y hy g hg => hp.mem_iff.mpr (h.has y (hz y hy) g hg)), fun y hy => h.rw y (hz y hy), fun g hg => h.nm g (hp.mem_iff.mp hg)⟩
  rw [hp.length_eq]
  exact hg.1
inductive Ans where
  | way (y : Wy) | int (i : Int) | intl (l : List Int) | book (gs : List Str) (ys : List Wy) | eway (i : Int) | eunk (g : Str) | enum (i : Int)
structure AskOk (wh : Nat) (i : Int) (g : Str) : Prop where
  hw : wh < 5
  hi : i.natAbs ≤ 10 ^ 20
  hg : g.length ≤ 640
section
variable {P : Program} {w : World} {K : PySem.W.Frag} {mg : Str → Option Value} {base : Heap} {W C M N D U V f : Addr} {fd : FuncData}
end
end W1
set_option maxRecDepth 100000
set_option maxHeartbeats 4000000
/-! ### two dicts that are alike, where a comparison may run own code -/
namespace W1Q
open PySem PySem.Spec PyProof.Rows
section
variable {prog : Program} {w : World} {K : Type} [DecidableEq K] {knd : KeyKind prog w K} {A : Around} {E : Value → Shared → Prop}
/-- what two dicts hold, and what stays while they are compared -/
structure Alike (prog : Program) (w : World) {K : Type} [DecidableEq K] (knd : KeyKind prog w K) (A : Around) (E : Value → Shared → Prop) (a b : Addr) (J : Shared → Prop) (oa ob : Obj) (es fs : Array DictEntry) (ep fp : Nat) (ka kb : List (K × Value)) : Prop where
  na : (a == sysModules) = false
  nb : (b == sysModules) = false
  da : oa.data = .dict es ep
  db : ob.data = .dict fs fp
  k1 : KeysOf knd es
  k2 : KeysOf knd fs
  p1 : Pairs knd es.toList ka
  p2 : Pairs knd fs.toList kb
  at_ : ∀ s, J s → s.heap.get? a = some oa ∧ s.heap.get? b = some ob
  hl : ka.length = kb.length
  eq : ∀ s (i : Nat) k v, J s → ka[i]? = some (k, v) → ∃ y, valueAt kb k = some y ∧ wpAny (model prog w) A (eqBool v y) (fun r s' => r = true ∧ J s') E s
end
end W1Q
set_option maxRecDepth 100000
set_option maxHeartbeats 4000000
set_option exponentiation.threshold 20000
namespace W1
open PySem PySem.Spec PyProof.Rows L2 NdefX TL NumText
/-! ### == and != of dicts that are alike, by own comparisons of what they hold -/
theorem NR.at_ {κ : Type} {H : Hp} : ∀ {fs : List (κ × Rl)} {vs : List (κ × V)} {i : Nat} {k : κ} {v : V}, NR fs vs H → vs[i]? = some (k, v) → ∃ R, fs[i]? = some (k, R) ∧ R.r v H
  | [], [], i, _, _, _, e => by simp at e
  | (k0, R) :: fs, (k1, x) :: vs, 0, k, v, ⟨hk, h, _⟩, e => by
    cases (Option.some.inj e)
    subst hk
    exact ⟨R, rfl, h⟩
  | (_, _) :: fs, (_, _) :: vs, i + 1, k, v, ⟨_, _, t⟩, e => NR.at_ (i := i) t e
  | [], _ :: _, _, _, _, h, _ => h.elim
  | _ :: _, [], _, _, _, h, _ => h.elim
section
variable {X : Cx} {n : Nat} {fs gs : List (Key × Rl)}
end
section
variable {F : Fx} {w : Ow} {A B : Rl} {n : Nat} {fs gs : List (Key × Rl)}
end
end W1
set_option maxRecDepth 100000
set_option maxHeartbeats 4000000
set_option exponentiation.threshold 20000
namespace W1
open PySem PySem.Spec PyProof.Rows L2 NdefX TL NumText
section
variable {P : Program} {w : World} {K : PySem.W.Frag} {mg : Str → Option Value} {base : Heap} {C B D f : Addr} {fd : FuncData}
end
/-! ### {x}, x an instance with an own __str__ -/
section
variable {X : Cx} {C g k : Nat} {fd : FuncData} {ps : List Str} {sp : Sp}
end
/-- what is looked up of a class whose instances are put in texts -/
structure FmtX (K : PySem.W.Frag) (C : Addr) : Prop where
  fm : PySem.W.findIn K (.ref C) "__format__" = some (some (.builtin "object.__format__"))
  ob : PySem.W.mroIn K C (.type "object") = some true
end W1
set_option maxRecDepth 100000
set_option maxHeartbeats 4000000
/-! ### zip of two sequences, each with its own kind of iterator -/
namespace W1
open PySem PySem.Spec PyProof.Rows L2
/-- a source: what it holds, how its iterator stands -/
structure Src (P : Program) (w : World) (K : PySem.W.Frag) (a it : Addr) (sq : Hp → List V → Prop) (st : Nat → Heap → Prop) : Prop where
  obj : ∀ i h, st i h → ∃ o, h.get? it = some o ∧ ∀ v, o.data ≠ .cell v
  keep : ∀ i h h', st i h → (∀ o, h.get? it = some o → h'.get? it = some o) → st i h'
  inj : ∀ (X : Cx) pins σ H s xs ys, X.K = K → Inv X pins σ H s → sq H xs → sq H ys → xs = ys
  draw : ∀ (X : Cx) pins σ H s xs, X.prog = P → X.w = w → X.K = K → X.calm = true → Inv X pins σ H s → sq H xs → a ≠ it → ∃ its : Array Value, its.size = xs.length ∧ (∀ (i : Nat) x, xs[i]? = some x → ∃ u, its[i]? = some u ∧ RelV x u) ∧
    ∃ St, Draws P w X.A.in1 it [it, a] its.size (fun i v => its[i]? = some v) St ∧ (∀ i, st i s.heap → St i s.heap) ∧ ∀ i h, St i h → st i h
end W1
set_option maxRecDepth 100000
set_option maxHeartbeats 4000000
/-! ### zip(l, o), o with an own __iter__ -/
namespace W1
open PySem PySem.Spec PyProof.Rows L2
end W1
set_option maxRecDepth 100000
set_option maxHeartbeats 4000000
namespace W1
open PySem PySem.Spec PyProof.Rows L2 ItX
section
variable {X : Cx} {pins : List (Addr × Obj)} {σ : L2.St} {H : Hp} {s : Shared} {C g a b t k kk : Nat} {fld : Str} {ys : List V} {elts : List Expr} {tpos : Pos} {o1 : Obj} {sq1 : Hp → List V → Prop} {st1 : Nat → Heap → Prop} {R : It → Hp → Prop}
end
end W1
set_option maxRecDepth 100000
set_option maxHeartbeats 4000000
set_option exponentiation.threshold 20000
namespace W1
open PySem PySem.Spec PyProof.Rows L2 NdefX TL NumText
/-! ### loops over zip -/
section
variable {F : Fx} {ρ : Ty} {ω w1 : Ow} {e e2 : Expr} {pos p tpos : Pos} {Rs Ss : List Rl} {C g k : Nat} {fld : Str} {fs : List (Str × Rl)} {elts : List Expr} {kk : Nat} {b : Bool}
end
end W1
set_option maxRecDepth 100000
set_option maxHeartbeats 4000000
set_option exponentiation.threshold 20000
namespace W1
open PySem PySem.Spec PyProof.Rows L2 NdefX TL NumText
/-! ### fractions: lists and dicts of them -/
abbrev Dm := List (Str × Rat)
def fsQ (R : Addr) (dm : Dm) : List (Key × Rl) := dm.map fun p => (Sum.inr p.1, rRat R p.2)
def namesQ (dm : Dm) : List Str := dm.map (·.1)
def valQ (dm : Dm) (g : Str) : Rat := ((dm.find? fun p => decide (p.1 = g)).map (·.2)).getD 0
theorem eqb_rat {F : Fx} {R : Addr} {p : Rat} (T : Ko F.X.prog F.X.w F.X.K F.X.mg F.X.base R "__eq__" 5 (pEq R)) (hn : PySem.W.notFirst F.X.K R (.ref R) = true) : EqB F.X 5 (rRat R p) (rRat R p) true := by
  have h := eqb_o (F := F) (t := decide (p = p)) T (pEqOk (p := p) (q := p)) (fun _ _ _ _ => decide_eq_true rfl) hn
  rw [decide_eq_true rfl] at h
  exact h
/-! sizes -/
theorem sz_sum {m : Nat} : ∀ (l : List Rat) {a : Nat} {z : Rat}, (∀ q ∈ l, Sz m q) → Sz a z → Sz (a + (m + 1) * l.length) (l.foldl (· + ·) z)
  | [], a, z, _, hz => hz
  | q :: l, a, z, h, hz => by
    have h1 : Sz (a + (m + 1)) (z + q) := sz_add hz (h q List.mem_cons_self) (by omega)
    have := sz_sum l (fun x hx => h x (List.mem_cons_of_mem _ hx)) h1
    refine this.mono ?_
    rw [List.length_cons, Nat.mul_add]
    omega
theorem sz_zero : Sz 1 0 := by
  refine ⟨?_, ?_⟩ <;> decide
theorem sz_one : Sz 1 (1 : Rat) ↔ True := by
  refine ⟨fun _ => trivial, fun _ => ⟨?_, ?_⟩⟩ <;> decide
theorem sz_intR {n : Nat} {i : Int} (h : i.natAbs < 2 ^ n) (h1 : 1 ≤ n) : Sz n (i : Rat) := by
  refine ⟨by simpa using h, ?_⟩
  show (i : Rat).den < 2 ^ n
  rw [show (i : Rat).den = 1 from rfl]
  exact Nat.lt_of_lt_of_le (by decide : 1 < 2 ^ 1) (Nat.pow_le_pow_right (by decide) h1)
section
variable {F : Fx} {ρ : Ty} {ω w w1 : Ow} {e : Expr} {pos p tpos : Pos} {Rs : List Rl} {elts : List Expr} {kk : Nat} {b : Bool} {A B : Rl} {n : Nat}
/-- lists that hold alike things -/
theorem isl_L : ∀ x G H, At F w G H → (rLst Rs).r x G → (rLst Rs).r x H := fun x G H at_ h => (rLst Rs).mo _ _ _ at_.gh h
end
/-! ### the program's plans -/
/-- what is known of the class of fractions -/
structure RtX (P : Program) (w : World) (K : PySem.W.Frag) (mg : Str → Option Value) (base : Heap) (R M : Addr) : Prop where
  X : RatX K mg R
  Tq : Kc P w K mg base R "Ratio" 3 (pInit R M)
  Tw : Kcm P w K mg base R "whole" 5 (pWhole R)
  Ta : Ko P w K mg base R "__add__" 5 (pAdd R)
  Tm : Ko P w K mg base R "__mul__" 5 (pMul R)
  Te : Ko P w K mg base R "__eq__" 5 (pEq R)
  Tu : Km P w K mg base R "under" 5 (pUnder R)
def planE (n : Nat) (qs : List Rat) : Option (Int ⊕ Rat) := if qs.length = n then (qs.find? fun q => decide (q < 0)).map .inr else some (.inl qs.length)
def pAmount (R : Addr) : Pre := fun Rs w o w' => ∃ dm g, Rs = [rDct (fsQ R dm), rStr g] ∧ w = [] ∧ w' = [] ∧ o = .ok (rRat R (valQ dm g))
section
variable {P : Program} {w : World} {K : PySem.W.Frag} {mg : Str → Option Value} {base : Heap} {W C M R U V f gi : Addr} {fd : FuncData}
end
end W1
set_option maxRecDepth 100000
set_option maxHeartbeats 4000000
set_option exponentiation.threshold 20000
namespace W1
open PySem PySem.Spec PyProof.Rows L2 NdefX TL NumText
/-! ### leaves, hours_of, added, scaled, summed -/
section
variable {F : Fx} {ρ : Ty} {ω w1 : Ow} {tg it elt c : Expr} {pos spos : Pos} {scope : Scope} {own : List (Str × Nat)} {g : TG} {ifs : List Expr} {α : Type}
end
/-- a plan that a book takes -/
structure PlanOk (gs : List Str) (ys : List Wy) (qs : List Rat) : Prop where
  nd : gs.Nodup
  nm : ∀ g ∈ gs, g.length ≤ 640
  lg : gs.length ≤ 1000
  ly : ys.length ≤ 8
  len : qs.length = ys.length
  pos : ∀ q ∈ qs, ¬ q < 0
  sz : ∀ q ∈ qs, Sz 30 q
  net : ∀ y ∈ ys, ∀ g, (netW y g).natAbs < 2 ^ 70
  hrs : ∀ y ∈ ys, y.2.1.natAbs < 2 ^ 70
theorem PlanOk.e {gs : List Str} {ys : List Wy} {qs : List Rat} (h : PlanOk gs ys qs) : planE ys.length qs = none := by
  unfold planE
  rw [if_pos h.len, List.find?_eq_none.mpr fun x hx => by simpa using h.pos x hx]
  rfl
section
variable {P : Program} {w : World} {K : PySem.W.Frag} {mg : Str → Option Value} {base : Heap} {W C M R U V f gi : Addr} {fd : FuncData}
end
end W1
set_option maxRecDepth 100000
set_option maxHeartbeats 4000000
set_option exponentiation.threshold 20000
namespace W1
open PySem PySem.Spec PyProof.Rows L2 NdefX TL NumText
/-! ### the law's demands -/
def putQ (dm : Dm) (k : Str) (v : Rat) : Dm := if k ∈ namesQ dm then dm.map (fun p => if p.1 = k then (p.1, v) else p) else dm ++ [(k, v)]
theorem names_putQ (dm : Dm) (k : Str) (v : Rat) : namesQ (putQ dm k v) = if k ∈ namesQ dm then namesQ dm else namesQ dm ++ [k] := by
  unfold putQ
  split
  · unfold namesQ
    rw [List.map_map]
    apply List.map_congr_left
    intro p _
    show (if p.1 = k then (p.1, v) else p).1 = p.1
    split <;> rfl
  · unfold namesQ
    rw [List.map_append]
    rfl
/-- a demand of few names -/
structure DmOk (n : Nat) (dm : Dm) : Prop where
  nd : (namesQ dm).Nodup
  sz : ∀ p ∈ dm, Sz 100 p.2
  ln : dm.length ≤ n
theorem DmOk.nil : DmOk 0 [] := ⟨List.nodup_nil, fun _ h => (by cases h), Nat.le_refl _⟩
theorem DmOk.put {n : Nat} {dm : Dm} {k : Str} {v : Rat} (h : DmOk n dm) (hv : Sz 100 v) : DmOk (n + 1) (putQ dm k v) := by
  refine ⟨?_, fun p hp => ?_, ?_⟩
  · rw [names_putQ]
    split
    · exact h.nd
    · next hm => exact List.nodup_append.mpr ⟨h.nd, by simp, fun x hx y hy => by rw [List.mem_singleton.mp hy]; exact fun e => hm (e ▸ hx)⟩
  · unfold putQ at hp
    split at hp
    · obtain ⟨q, hq, rfl⟩ := List.mem_map.mp hp
      show Sz 100 (if q.1 = k then (q.1, v) else q).2
      split
      · exact hv
      · exact h.sz q hq
    · rcases List.mem_append.mp hp with hp | hp
      · exact h.sz p hp
      · rw [List.mem_singleton.mp hp]; exact hv
  · have := h.ln
    unfold putQ
    split
    · rw [List.length_map]; omega
    · rw [List.length_append, List.length_singleton]; omega
theorem DmOk.mono {m n : Nat} {dm : Dm} (h : DmOk m dm) (l : m ≤ n) : DmOk n dm := ⟨h.nd, h.sz, Nat.le_trans h.ln l⟩
theorem DmOk.small {n : Nat} {dm : Dm} (h : DmOk n dm) : ∀ p ∈ dm, small p.2 := fun p hp => (h.sz p hp).mono (by decide)
section
variable {P : Program} {w : World} {K : PySem.W.Frag} {mg : Str → Option Value} {base : Heap} {W C M R U V f gi : Addr} {fd : FuncData}
end
end W1
set_option maxRecDepth 100000
set_option maxHeartbeats 4000000
set_option exponentiation.threshold 20000
namespace W1
open PySem PySem.Spec PyProof.Rows L2 NdefX TL NumText
/-! ### any, values -/
section
variable {F : Fx} {ρ : Ty} {ω w w1 : Ow} {tg it e : Expr} {fs : List (Key × Rl)} {apos cpos : Pos}
end
/-! ### what a demand lacks -/
structure BkQ (gs : List Str) (ys : List Wy) : Prop where
  G : Goods gs
  h0 : 0 < gs.length
  h4 : gs.length ≤ 4
  R : RowsK gs ys
def dmE (gs : List Str) (dm : Dm) : List Str → Option (Str ⊕ Rat)
  | [] => none
  | g :: r => if g ∈ gs then (if valQ dm g < 0 then some (.inr (valQ dm g)) else dmE gs dm r) else some (.inl g)
def demE (gs : List Str) (dm : Dm) : Option (Str ⊕ Rat) := dmE gs dm (srt (namesQ dm))
def errD (M U R : Addr) : Str ⊕ Rat → Er
  | .inl g => erF U "name" (rStr g)
  | .inr q => erF M "n" (rRat R q)
/-- a demand's names and numbers are of no great size -/
structure DmS (dm : Dm) : Prop where
  ok : DmOk 60 dm
  nm : ∀ g ∈ namesQ dm, g.length ≤ 640
def pChkD (C W M U R : Addr) : Pre := fun Rs w o w' => ∃ gs ys dm, DmS dm ∧ Rs = [rBook C W gs ys, rDct (fsQ R dm)] ∧ w = [] ∧ w' = [] ∧ o = (match demE gs dm with | none => .ok rNon | some x => .error (errD M U R x))
section
variable {P : Program} {w : World} {K : PySem.W.Frag} {mg : Str → Option Value} {base : Heap} {W C M R U V f gi : Addr} {fd : FuncData}
end
end W1
set_option maxRecDepth 100000
set_option maxHeartbeats 4000000
set_option exponentiation.threshold 20000
namespace W1
open PySem PySem.Spec PyProof.Rows L2 NdefX TL NumText
/-! ### a comprehension that stays owned, a slice as a new list, x != [] -/
section
variable {F : Fx} {ρ : Ty} {ω w w1 w2 w3 : Ow} {e o ix it elt : Expr} {R S A : Rl} {Rs : List Rl} {K : Kn} {rest : List Stmt} {pos p spos py p2 : Pos} {x y : Str} {q : Addr} {Φ : Rl → Ow → Prop} {scope : Scope} {v u : Option Int}
end
/-! ### plans drawn -/
structure QsD (n : Nat) (qs : List Rat) : Prop where
  sz : ∀ q ∈ qs, Sz 4 q
  ln : qs.length ≤ n
section
variable {P : Program} {w : World} {K : PySem.W.Frag} {mg : Str → Option Value} {base : Heap} {W C M R U V f gi : Addr} {fd : FuncData}
end
end W1
set_option maxRecDepth 100000
set_option maxHeartbeats 4000000
set_option exponentiation.threshold 20000
namespace W1
open PySem PySem.Spec PyProof.Rows L2 NdefX TL NumText
/-! ### demands and prices drawn -/
structure DmU (n : Nat) (dm : Dm) : Prop where
  ok : DmOk n dm
  nm : ∀ g ∈ namesQ dm, g.length ≤ 640
theorem DmU.put {n : Nat} {dm : Dm} {k : Str} {v : Rat} (h : DmU n dm) (hv : Sz 100 v) (hk : k.length ≤ 640) : DmU (n + 1) (putQ dm k v) := by
  refine ⟨h.ok.put hv, fun g hg => ?_⟩
  rw [names_putQ] at hg
  split at hg
  · exact h.nm g hg
  · rcases List.mem_append.mp hg with hg | hg
    · exact h.nm g hg
    · rw [List.mem_singleton.mp hg]; exact hk
theorem DmU.mono {m n : Nat} {dm : Dm} (h : DmU m dm) (l : m ≤ n) : DmU n dm := ⟨h.ok.mono l, h.nm⟩
theorem DmU.s {n : Nat} {dm : Dm} (h : DmU n dm) (l : n ≤ 60) : DmS dm := ⟨h.ok.mono l, h.nm⟩
section
variable {P : Program} {w : World} {K : PySem.W.Frag} {mg : Str → Option Value} {base : Heap} {W C M R U V f gi : Addr} {fd : FuncData}
end
end W1
namespace LP

/-! ### sums -/
def sumN : Nat → (Nat → Rat) → Rat
  | 0, _ => 0
  | n + 1, f => sumN n f + f n
theorem sumN_zero : ∀ {n : Nat} {f : Nat → Rat}, (∀ i, i < n → f i = 0) → sumN n f = 0
  | 0, _, _ => rfl
  | n + 1, f, h => by
    unfold sumN
    rw [sumN_zero (n := n) fun i hi => h i (by omega), h n (by omega)]
    grind
theorem sumN_add : ∀ {n : Nat} {f g : Nat → Rat}, sumN n (fun i => f i + g i) = sumN n f + sumN n g
  | 0, _, _ => by unfold sumN; grind
  | n + 1, f, g => by
    unfold sumN
    rw [sumN_add (n := n)]
    grind
theorem sumN_mul (c : Rat) : ∀ {n : Nat} {f : Nat → Rat}, sumN n (fun i => c * f i) = c * sumN n f
  | 0, _ => by unfold sumN; grind
  | n + 1, f => by
    unfold sumN
    rw [sumN_mul c (n := n)]
    grind
theorem sumN_one : ∀ {n r : Nat} {f : Nat → Rat}, r < n → (∀ i, i < n → i ≠ r → f i = 0) → sumN n f = f r
  | n + 1, r, f, hr, h => by
    unfold sumN
    by_cases e : r = n
    · subst e
      rw [sumN_zero fun i hi => h i (by omega) (by omega)]
      grind
    · rw [sumN_one (n := n) (r := r) (by omega) fun i hi hn => h i (by omega) hn, h n (by omega) (by omega)]
      grind
/-! ### sheets -/
structure Sht where
  T : Nat → Nat → Rat
  g : Nat → Rat
  B : Nat → Nat
/-- the rows of A, the goal, how many columns there are ahead of the slacks, how many rows -/
structure Dat where
  A : Nat → Nat → Rat
  g0 : Nat → Rat
  m : Nat
  n : Nat
abbrev Dat.N (d : Dat) : Nat := d.m + d.n
def InV (d : Dat) (v : Nat → Rat) : Prop := ∀ j, j ≤ d.N → v j = sumN d.n fun k => v (d.m + k) * d.A k j
def turn (S : Sht) (r c : Nat) : Sht where
  T := fun i j => if i = r then S.T r j / S.T r c else S.T i j - S.T i c * (S.T r j / S.T r c)
  g := fun j => S.g j - S.g c * (S.T r j / S.T r c)
  B := fun i => if i = r then c else S.B i
structure Tab (d : Dat) (S : Sht) : Prop where
  rows : ∀ i, i < d.n → InV d (S.T i)
  goal : InV d fun j => S.g j - d.g0 j
  span : ∀ v, InV d v → ∀ j, j ≤ d.N → v j = sumN d.n fun i => v (S.B i) * S.T i j
  idm : ∀ i k, i < d.n → k < d.n → S.T i (S.B k) = if i = k then 1 else 0
  gz : ∀ k, k < d.n → S.g (S.B k) = 0
  bl : ∀ i, i < d.n → S.B i < d.N
section
variable {d : Dat} {S : Sht}
theorem InV.add {v w : Nat → Rat} (a : Rat) (hv : InV d v) (hw : InV d w) : InV d fun j => v j + a * w j := fun j hj => by
  have e : (fun k => (v (d.m + k) + a * w (d.m + k)) * d.A k j) = fun k => v (d.m + k) * d.A k j + a * (w (d.m + k) * d.A k j) := by
    funext k; grind
  show v j + a * w j = sumN d.n fun k => (v (d.m + k) + a * w (d.m + k)) * d.A k j
  rw [e, sumN_add, sumN_mul, ← hv j hj, ← hw j hj]
theorem InV.scale {v : Nat → Rat} (a : Rat) (hv : InV d v) : InV d fun j => a * v j := fun j hj => by
  have e : (fun k => (a * v (d.m + k)) * d.A k j) = fun k => a * (v (d.m + k) * d.A k j) := by
    funext k; grind
  show a * v j = sumN d.n fun k => (a * v (d.m + k)) * d.A k j
  rw [e, sumN_mul, ← hv j hj]
theorem InV.eq {v w : Nat → Rat} (h : ∀ j, v j = w j) (hv : InV d v) : InV d w := (funext h : v = w) ▸ hv
theorem Tab.uni (t : Tab d S) {v : Nat → Rat} (hv : InV d v) (h : ∀ k, k < d.n → v (S.B k) = 0) {j : Nat} (hj : j ≤ d.N) : v j = 0 := by
  rw [t.span v hv j hj, sumN_zero]
  intro i hi
  rw [h i hi]; grind
theorem Tab.inj (t : Tab d S) {i k : Nat} (hi : i < d.n) (hk : k < d.n) (e : S.B i = S.B k) : i = k := by
  have a := t.idm i k hi hk
  rw [← e, t.idm i i hi hi] at a
  by_cases h : i = k
  · exact h
  · rw [if_pos rfl, if_neg h] at a
    exact absurd a (by grind)
theorem Tab.turn (t : Tab d S) {r c : Nat} (hr : r < d.n) (hc : c < d.N) (hp : S.T r c ≠ 0) : Tab d (turn S r c) where
  rows := fun i hi => by
    by_cases h : i = r
    · subst h
      refine InV.eq (fun j => ?_) ((t.rows i hi).scale (1 / S.T i c))
      show 1 / S.T i c * S.T i j = if i = i then S.T i j / S.T i c else _
      rw [if_pos rfl]
      grind
    · refine InV.eq (fun j => ?_) ((t.rows i hi).add (-(S.T i c / S.T r c)) (t.rows r hr))
      show S.T i j + -(S.T i c / S.T r c) * S.T r j = if i = r then _ else _
      rw [if_neg h]
      grind
  goal := by
    refine InV.eq (fun j => ?_) (t.goal.add (-(S.g c / S.T r c)) (t.rows r hr))
    show S.g j - d.g0 j + -(S.g c / S.T r c) * S.T r j = S.g j - S.g c * (S.T r j / S.T r c) - d.g0 j
    grind
  span := fun v hv j hj => by
    have e1 := t.span v hv j hj
    have e2 := t.span v hv c (Nat.le_of_lt hc)
    -- the sum without row r
    have key : ∀ j, (sumN d.n fun i => v ((LP.turn S r c).B i) * (LP.turn S r c).T i j) = v c * (S.T r j / S.T r c) + ((sumN d.n fun i => v (S.B i) * S.T i j) - v (S.B r) * S.T r j) - (S.T r j / S.T r c) * ((sumN d.n fun i => v (S.B i) * S.T i c) - v (S.B r) * S.T r c) := by
      intro j
      have a : (fun i => v ((LP.turn S r c).B i) * (LP.turn S r c).T i j) = fun i => ((v (S.B i) * S.T i j) + (-(S.T r j / S.T r c)) * (v (S.B i) * S.T i c)) + (if i = r then v c * (S.T r j / S.T r c) - v (S.B r) * S.T r j + (S.T r j / S.T r c) * (v (S.B r) * S.T r c) else 0) := by
        funext i
        show v (if i = r then c else S.B i) * (if i = r then S.T r j / S.T r c else S.T i j - S.T i c * (S.T r j / S.T r c)) = _
        by_cases h : i = r
        · subst h
          rw [if_pos rfl, if_pos rfl, if_pos rfl]
          grind
        · rw [if_neg h, if_neg h, if_neg h]
          grind
      rw [a, sumN_add, sumN_add, sumN_mul, sumN_one (r := r) (f := fun i => if i = r then v c * (S.T r j / S.T r c) - v (S.B r) * S.T r j + (S.T r j / S.T r c) * (v (S.B r) * S.T r c) else 0) hr (fun i _ hn => if_neg hn), if_pos rfl]
      grind
    rw [key j, ← e1, ← e2]
    grind
  idm := fun i k hi hk => by
    show (if i = r then S.T r (if k = r then c else S.B k) / S.T r c else S.T i (if k = r then c else S.B k) - S.T i c * (S.T r (if k = r then c else S.B k) / S.T r c)) = _
    have a := t.idm i k hi hk
    have b := t.idm r k hr hk
    by_cases h : i = r
    · subst h
      by_cases h2 : k = i
      · subst h2
        rw [if_pos rfl, if_pos rfl, if_pos rfl]
        grind
      · have h3 : i ≠ k := fun z => h2 z.symm
        rw [if_pos rfl, if_neg h2, if_neg h3, a, if_neg h3]
        grind
    · by_cases h2 : k = r
      · subst h2
        rw [if_neg h, if_pos rfl, if_neg h]
        grind
      · have h3 : r ≠ k := fun z => h2 z.symm
        rw [if_neg h, if_neg h2, a, b, if_neg h3]
        grind
  gz := fun k hk => by
    show S.g (if k = r then c else S.B k) - S.g c * (S.T r (if k = r then c else S.B k) / S.T r c) = 0
    by_cases h2 : k = r
    · subst h2
      rw [if_pos rfl]
      grind
    · have h3 : r ≠ k := fun z => h2 z.symm
      rw [if_neg h2, t.gz k hk, t.idm r k hr hk, if_neg h3]
      grind
  bl := fun i hi => by
    show (if i = r then c else S.B i) < d.N
    by_cases h : i = r
    · rw [if_pos h]; exact hc
    · rw [if_neg h]; exact t.bl i hi
end
end LP
namespace LP

/-! ### a walk over sheets ends -/
theorem div_nn {a b : Rat} (ha : 0 ≤ a) (hb : 0 ≤ b) : 0 ≤ a / b := by
  rw [Rat.div_def]
  by_cases z : b = 0
  · rw [z, Rat.inv_zero, Rat.mul_zero]; exact Rat.le_refl
  · exact Rat.mul_nonneg ha (Rat.le_of_lt (Rat.inv_pos.mpr (by grind)))
structure Bland (d : Dat) (S : Sht) (r c : Nat) : Prop where
  hr : r < d.n
  hc : c < d.N
  neg : S.g c < 0
  first : ∀ k, k < c → 0 ≤ S.g k
  pos : 0 < S.T r c
  min : ∀ i, i < d.n → 0 < S.T i c → S.T r d.N / S.T r c < S.T i d.N / S.T i c ∨ (S.T r d.N / S.T r c = S.T i d.N / S.T i c ∧ S.B r ≤ S.B i)
def Feas (d : Dat) (S : Sht) : Prop := ∀ i, i < d.n → 0 ≤ S.T i d.N
theorem Feas.turn {d : Dat} {S : Sht} {r c : Nat} (f : Feas d S) (b : Bland d S r c) : Feas d (turn S r c) := fun i hi => by
  have hp := b.pos
  have hq : 0 ≤ S.T r d.N / S.T r c := by
    have := f r b.hr
    exact div_nn this (Rat.le_of_lt hp)
  show 0 ≤ if i = r then S.T r d.N / S.T r c else S.T i d.N - S.T i c * (S.T r d.N / S.T r c)
  by_cases h : i = r
  · rw [if_pos h]; exact hq
  · rw [if_neg h]
    by_cases hz : 0 < S.T i c
    · have hle : S.T r d.N / S.T r c ≤ S.T i d.N / S.T i c := by
        rcases b.min i hi hz with h | ⟨h, _⟩
        · exact Rat.le_of_lt h
        · rw [h]; exact Rat.le_refl
      have h2 : S.T i c * (S.T r d.N / S.T r c) ≤ S.T i c * (S.T i d.N / S.T i c) := Rat.mul_le_mul_of_nonneg_left hle (Rat.le_of_lt hz)
      have h3 : S.T i c * (S.T i d.N / S.T i c) = S.T i d.N := by
        have : S.T i c ≠ 0 := by grind
        grind
      grind
    · have h4 : S.T i c ≤ 0 := by grind
      have h5 : 0 ≤ (-(S.T i c)) * (S.T r d.N / S.T r c) := Rat.mul_nonneg (by grind) hq
      have := f i hi
      grind

/-- n numbers below N as one -/
def code (N : Nat) (B : Nat → Nat) : Nat → Nat
  | 0 => 0
  | n + 1 => code N B n * N + B n
section
variable {d : Dat} {S : Nat → Sht} {r c : Nat → Nat}
end
end LP
namespace LP

/-! ### how large the numbers of a sheet are -/
/-- all numbers of the sheet are whole ones over one D, and none of these is above M -/
def Cd (d : Dat) (S : Sht) (M : Nat) : Prop :=
  ∃ D : Int, 0 < D ∧ D.natAbs ≤ M ∧ (∀ i j, i < d.n → j ≤ d.N → ∃ z : Int, S.T i j * (D : Rat) = (z : Rat) ∧ z.natAbs ≤ M) ∧ (∀ j, j ≤ d.N → ∃ z : Int, S.g j * (D : Rat) = (z : Rat) ∧ z.natAbs ≤ M)
theorem Cd.mono {d : Dat} {S : Sht} {M M' : Nat} (h : Cd d S M) (k : M ≤ M') : Cd d S M' := by
  obtain ⟨D, a, b, c, e⟩ := h
  refine ⟨D, a, Nat.le_trans b k, fun i j hi hj => ?_, fun j hj => ?_⟩
  · obtain ⟨z, z1, z2⟩ := c i j hi hj
    exact ⟨z, z1, Nat.le_trans z2 k⟩
  · obtain ⟨z, z1, z2⟩ := e j hj
    exact ⟨z, z1, Nat.le_trans z2 k⟩
theorem two_sq {a b c e : Int} {s : Int} {M : Nat} (hs : s = 1 ∨ s = -1) (ha : a.natAbs ≤ M) (hb : b.natAbs ≤ M) (hc : c.natAbs ≤ M) (he : e.natAbs ≤ M) : (a * b * s - c * e * s).natAbs ≤ 2 * (M * M) := by
  have h1 : (a * b * s).natAbs ≤ M * M := by
    rw [Int.natAbs_mul, Int.natAbs_mul]
    rcases hs with rfl | rfl
    · rw [show Int.natAbs 1 = 1 from rfl, Nat.mul_one]; exact Nat.mul_le_mul ha hb
    · rw [show Int.natAbs (-1) = 1 from rfl, Nat.mul_one]; exact Nat.mul_le_mul ha hb
  have h2 : (c * e * s).natAbs ≤ M * M := by
    rw [Int.natAbs_mul, Int.natAbs_mul]
    rcases hs with rfl | rfl
    · rw [show Int.natAbs 1 = 1 from rfl, Nat.mul_one]; exact Nat.mul_le_mul hc he
    · rw [show Int.natAbs (-1) = 1 from rfl, Nat.mul_one]; exact Nat.mul_le_mul hc he
  omega
theorem one_sq {a b : Int} {s : Int} {M : Nat} (hs : s = 1 ∨ s = -1) (ha : a.natAbs ≤ M) (hb : b.natAbs ≤ M) : (a * b * s).natAbs ≤ 2 * (M * M) := by
  have := two_sq (c := 0) (e := 0) hs ha hb (Nat.zero_le _) (Nat.zero_le _)
  rw [Int.zero_mul, Int.zero_mul, Int.sub_zero] at this
  exact this
theorem Cd.turn {d : Dat} {S : Sht} {M r c : Nat} (h : Cd d S M) (hr : r < d.n) (hc : c < d.N) (hp : S.T r c ≠ 0) : Cd d (turn S r c) (2 * (M * M)) := by
  obtain ⟨D, D0, DM, hT, hg⟩ := h
  obtain ⟨p, p1, p2⟩ := hT r c hr (Nat.le_of_lt hc)
  have Dq : (D : Rat) ≠ 0 := by
    intro z
    have : D = 0 := by exact_mod_cast z
    omega
  have pq : (p : Rat) ≠ 0 := by
    rw [← p1]
    intro z
    rcases Rat.mul_eq_zero.mp z with y | y
    · exact hp y
    · exact Dq y
  have pz : p ≠ 0 := fun z => pq (by rw [z]; rfl)
  obtain ⟨s, hs, hsp⟩ : ∃ s : Int, (s = 1 ∨ s = -1) ∧ 0 < p * s := by
    by_cases y : 0 < p
    · exact ⟨1, .inl rfl, by omega⟩
    · exact ⟨-1, .inr rfl, by omega⟩
  have s2 : (s : Rat) * (s : Rat) = 1 := by
    rcases hs with rfl | rfl
    · decide +kernel
    · decide +kernel
  refine ⟨D * p * s, ?_, one_sq hs DM p2, fun i j hi hj => ?_, fun j hj => ?_⟩
  · rw [Int.mul_assoc]; exact Int.mul_pos D0 hsp
  · obtain ⟨zr, a1, a2⟩ := hT r j hr hj
    obtain ⟨zi, b1, b2⟩ := hT i j hi hj
    obtain ⟨zc, c1, c2⟩ := hT i c hi (Nat.le_of_lt hc)
    show ∃ z : Int, (if i = r then S.T r j / S.T r c else S.T i j - S.T i c * (S.T r j / S.T r c)) * ((D * p * s : Int) : Rat) = _ ∧ _
    by_cases e : i = r
    · refine ⟨zr * D * s, ?_, one_sq hs a2 DM⟩
      rw [if_pos e, Rat.intCast_mul, Rat.intCast_mul, Rat.intCast_mul, Rat.intCast_mul, ← a1, ← p1]
      grind
    · refine ⟨zi * p * s - zc * zr * s, ?_, two_sq hs b2 p2 c2 a2⟩
      rw [if_neg e, Rat.intCast_sub, Rat.intCast_mul, Rat.intCast_mul, Rat.intCast_mul, Rat.intCast_mul, Rat.intCast_mul, Rat.intCast_mul, ← a1, ← b1, ← c1, ← p1]
      grind
  · obtain ⟨zr, a1, a2⟩ := hT r j hr hj
    obtain ⟨zi, b1, b2⟩ := hg j hj
    obtain ⟨zc, c1, c2⟩ := hg c (Nat.le_of_lt hc)
    refine ⟨zi * p * s - zc * zr * s, ?_, two_sq hs b2 p2 c2 a2⟩
    show (S.g j - S.g c * (S.T r j / S.T r c)) * ((D * p * s : Int) : Rat) = _
    rw [Rat.intCast_sub, Rat.intCast_mul, Rat.intCast_mul, Rat.intCast_mul, Rat.intCast_mul, Rat.intCast_mul, Rat.intCast_mul, ← a1, ← b1, ← c1, ← p1]
    grind
/-- the first sheet -/
def sh0 (d : Dat) : Sht := ⟨d.A, d.g0, fun i => d.m + i⟩
structure DatOk (d : Dat) : Prop where
  idA : ∀ k i, k < d.n → i < d.n → d.A k (d.m + i) = if k = i then 1 else 0
  gz : ∀ i, i ≤ d.n → d.g0 (d.m + i) = 0
theorem tab0 {d : Dat} (h : DatOk d) : Tab d (sh0 d) where
  rows := fun i hi j hj => by
    show d.A i j = sumN d.n fun k => d.A i (d.m + k) * d.A k j
    rw [sumN_one hi (fun k hk hn => by rw [h.idA i k hi hk, if_neg (fun z => hn z.symm)]; grind), h.idA i i hi hi, if_pos rfl]
    grind
  goal := fun j hj => by
    show d.g0 j - d.g0 j = sumN d.n fun k => (d.g0 (d.m + k) - d.g0 (d.m + k)) * d.A k j
    rw [sumN_zero fun k _ => by grind]
    grind
  span := fun v hv j hj => hv j hj
  idm := fun i k hi hk => h.idA i k hi hk
  gz := fun k hk => h.gz k (Nat.le_of_lt hk)
  bl := fun i hi => by
    show d.m + i < d.m + d.n
    omega
def grown : Nat → Nat → Nat
  | 0, M => M
  | x + 1, M => 2 * (grown x M * grown x M)
theorem grown_up {M : Nat} (x : Nat) : grown x M ≤ grown (x + 1) M := by
  show grown x M ≤ 2 * (grown x M * grown x M)
  have := Nat.le_mul_self (grown x M)
  omega
theorem reach {d : Dat} {S : Sht} {M : Nat} (ok : DatOk d) (h0 : Cd d (sh0 d) M) (t : Tab d S) : ∀ x, x ≤ d.m → ∃ Z, Tab d Z ∧ Cd d Z (grown x M) ∧ ∀ i, i < d.n → (S.B i < x ∨ d.m ≤ S.B i) → ∃ k, k < d.n ∧ Z.B k = S.B i
  | 0, _ => ⟨sh0 d, tab0 ok, h0, fun i hi h => by
      have := t.bl i hi
      refine ⟨S.B i - d.m, ?_, ?_⟩
      · have : S.B i < d.m + d.n := this
        omega
      · show d.m + (S.B i - d.m) = S.B i
        omega⟩
  | x + 1, hx => by
    obtain ⟨Z, tz, cz, hz⟩ := reach ok h0 t x (by omega)
    by_cases ex : ∃ i0, i0 < d.n ∧ S.B i0 = x
    · obtain ⟨i0, hi0, e0⟩ := ex
      by_cases ez : ∃ k, k < d.n ∧ Z.B k = x
      · refine ⟨Z, tz, cz.mono (grown_up x), fun i hi h => ?_⟩
        by_cases y : S.B i = x
        · rw [y]; exact ez
        · exact hz i hi (by omega)
      · -- a row to turn at
        have hr : ∃ r, r < d.n ∧ Z.T r x ≠ 0 ∧ ∀ i, i < d.n → Z.B r ≠ S.B i := by
          by_cases y : ∃ r, r < d.n ∧ Z.T r x ≠ 0 ∧ ∀ i, i < d.n → Z.B r ≠ S.B i
          · exact y
          · have hxN : x ≤ d.N := by show x ≤ d.m + d.n; omega
            have a := tz.span _ (t.rows i0 hi0) x hxN
            rw [sumN_zero] at a
            · have b := t.idm i0 i0 hi0 hi0
              rw [e0, if_pos rfl] at b
              rw [b] at a
              exact absurd a (by grind)
            · intro r hr
              by_cases q : ∃ i, i < d.n ∧ Z.B r = S.B i
              · obtain ⟨i, hi, e⟩ := q
                have ne : i0 ≠ i := fun z => ez ⟨r, hr, by rw [e, ← z, e0]⟩
                rw [e, t.idm i0 i hi0 hi, if_neg ne]
                grind
              · have : Z.T r x = 0 := by
                  by_cases p : Z.T r x = 0
                  · exact p
                  · exact absurd ⟨r, hr, p, fun i hi e => q ⟨i, hi, e⟩⟩ y
                rw [this]
                grind
        obtain ⟨r, hr, hp, hn⟩ := hr
        have hxN : x < d.N := by show x < d.m + d.n; omega
        refine ⟨turn Z r x, tz.turn hr hxN hp, cz.turn hr hxN hp, fun i hi h => ?_⟩
        by_cases y : S.B i = x
        · exact ⟨r, hr, by show (if r = r then x else Z.B r) = _; rw [if_pos rfl, y]⟩
        · obtain ⟨k, hk, e⟩ := hz i hi (by omega)
          refine ⟨k, hk, ?_⟩
          show (if k = r then x else Z.B k) = _
          rw [if_neg (fun z => hn i hi (by rw [← z, e])), e]
    · exact ⟨Z, tz, cz.mono (grown_up x), fun i hi h => hz i hi (by
        have : S.B i ≠ x := fun z => ex ⟨i, hi, z⟩
        omega)⟩
/-- all sheets that turns lead to -/
theorem Tab.cd {d : Dat} {S : Sht} {M : Nat} (ok : DatOk d) (h0 : Cd d (sh0 d) M) (t : Tab d S) : Cd d S (grown d.m M) := by
  obtain ⟨Z, tz, ⟨D, D0, DM, hT, hg⟩, hz⟩ := reach ok h0 t d.m (Nat.le_refl _)
  have hz : ∀ i, i < d.n → ∃ k, k < d.n ∧ Z.B k = S.B i := fun i hi => hz i hi (by omega)
  refine ⟨D, D0, DM, fun i j hi hj => ?_, fun j hj => ?_⟩
  · obtain ⟨k, hk, e⟩ := hz i hi
    have hv : InV d fun j => S.T i j - Z.T k j := by
      refine InV.eq (fun j => ?_) ((t.rows i hi).add (-1) (tz.rows k hk))
      show S.T i j + -1 * Z.T k j = S.T i j - Z.T k j
      grind
    have := t.uni hv (fun i' hi' => by
      obtain ⟨k', hk', e'⟩ := hz i' hi'
      show S.T i (S.B i') - Z.T k (S.B i') = 0
      rw [t.idm i i' hi hi', ← e', tz.idm k k' hk hk']
      by_cases y : i = i'
      · have : k = k' := tz.inj hk hk' (by rw [e, e', y])
        rw [if_pos y, if_pos this]; grind
      · have : k ≠ k' := fun z => y (t.inj hi hi' (by rw [← e, ← e', z]))
        rw [if_neg y, if_neg this]; grind) hj
    have h' : S.T i j - Z.T k j = 0 := this
    have h2 : S.T i j = Z.T k j := by grind
    rw [h2]
    exact hT k j hk hj
  · have hv : InV d fun j => S.g j - Z.g j := by
      refine InV.eq (fun j => ?_) (t.goal.add (-1) tz.goal)
      show S.g j - d.g0 j + -1 * (Z.g j - d.g0 j) = S.g j - Z.g j
      grind
    have := t.uni hv (fun i' hi' => by
      obtain ⟨k', hk', e'⟩ := hz i' hi'
      show S.g (S.B i') - Z.g (S.B i') = 0
      rw [t.gz i' hi', ← e', tz.gz k' hk']
      grind) hj
    have h' : S.g j - Z.g j = 0 := this
    have h2 : S.g j = Z.g j := by grind
    rw [h2]
    exact hg j hj
end LP
namespace LP

/-! ### the walk over sheets as a function -/
def ent (d : Dat) (S : Sht) : Option Nat := (List.range d.N).find? fun c => decide (S.g c < 0)
def better (N : Nat) (S : Sht) (c k : Nat) (f : Option Nat) (b : Rat) : Bool :=
  match f with
  | none => true
  | some r => decide (S.T k N / S.T k c < b) || (decide (S.T k N / S.T k c = b) && decide (S.B k < S.B r))
def leaF (N : Nat) (S : Sht) (c : Nat) : Nat → Option Nat × Rat
  | 0 => (none, 0)
  | k + 1 => if 0 < S.T k c ∧ better N S c k (leaF N S c k).1 (leaF N S c k).2 = true then (some k, S.T k N / S.T k c) else leaF N S c k
def lea (d : Dat) (S : Sht) (c : Nat) : Option Nat := (leaF d.N S c d.n).1
/-- one step, or none -/
def stp (d : Dat) (S : Sht) : Option Sht := (ent d S).bind fun c => (lea d S c).map fun r => turn S r c
def seqS (d : Dat) : Nat → Sht
  | 0 => sh0 d
  | t + 1 => (stp d (seqS d t)).getD (seqS d t)
structure DatF (d : Dat) : Prop where
  ok : DatOk d
  feas : ∀ k, k < d.n → 0 ≤ d.A k d.N
open Classical in
noncomputable def fin (d : Dat) : Sht := if h : ∃ t, stp d (seqS d t) = none then seqS d (Classical.choose h) else sh0 d
/-! ### what the end shows -/
/-- the numbers of the columns at the corner -/
def xv (d : Dat) (S : Sht) (j : Nat) : Rat := sumN d.n fun i => if S.B i = j then S.T i d.N else 0
def yv (d : Dat) (S : Sht) (k : Nat) : Rat := S.g (d.m + k)
def rv (d : Dat) (S : Sht) (c j : Nat) : Rat := (if j = c then 1 else 0) + sumN d.n fun i => if S.B i = j then -S.T i c else 0
section
variable {d : Dat} {S : Sht}
end
end LP
set_option maxRecDepth 100000
set_option maxHeartbeats 4000000
set_option exponentiation.threshold 20000
namespace W1
open PySem PySem.Spec PyProof.Rows L2 NdefX TL NumText LP
/-! ### sheets as the program holds them -/
def rowL (R : Addr) (N : Nat) (f : Nat → Rat) : List Rl := (List.range (N + 1)).map fun j => rRat R (f j)
def linesL (R : Addr) (d : Dat) (S : Sht) : List Rl := (List.range d.n).map fun i => rLst (rowL R d.N (S.T i))
def basisL (d : Dat) (S : Sht) : List Rl := (List.range d.n).map fun i => rInt ((S.B i : Nat) : Int)
def shF (R : Addr) (d : Dat) (S : Sht) (pb : Addr) : List (Str × Rl) :=
  [("columns", rInt ((d.m : Nat) : Int)), ("count", rInt ((d.n : Nat) : Int)), ("lines", rLst (linesL R d S)), ("goal", rLst (rowL R d.N S.g)), ("basis", rRef pb)]
structure ShS (d : Dat) (S : Sht) : Prop where
  T : ∀ i j, i < d.n → j ≤ d.N → Sz 1300 (S.T i j)
  g : ∀ j, j ≤ d.N → Sz 1300 (S.g j)
structure Dm1 (d : Dat) : Prop where
  hm : d.m ≤ 100
  hn : d.n ≤ 100
def rOI : Option Nat → Rl
  | none => rNon
  | some c => rInt ((c : Nat) : Int)
structure ShX (K : PySem.W.Frag) (mg : Str → Option Value) (C : Addr) : Prop where
  cl : Cls K C
  gC : mg "Sheet" = some (.ref C)
  n1 : NoAttr K C "columns"
  n2 : NoAttr K C "count"
  n3 : NoAttr K C "lines"
  n4 : NoAttr K C "goal"
  n5 : NoAttr K C "basis"
theorem frac_small {z D : Int} {M n : Nat} {q : Rat} (h : q * (D : Rat) = (z : Rat)) (h0 : 0 < D) (hD : D.natAbs ≤ M) (hz : z.natAbs ≤ M) (hM : M < 2 ^ n) : Sz n q := by
  have hq : q = Rat.divInt z D := by
    have hne : (D : Rat) ≠ 0 := by
      intro e
      have : D = 0 := by exact_mod_cast e
      omega
    rw [Rat.divInt_eq_div, ← h]
    grind
  rw [hq]
  exact sz_divInt (by omega) (Nat.lt_of_le_of_lt hz hM) (Nat.lt_of_le_of_lt hD hM)
theorem shs_of {d : Dat} {S : Sht} {M : Nat} (h : Cd d S M) (hM : M < 2 ^ 1300) : ShS d S := by
  obtain ⟨D, D0, DM, hT, hg⟩ := h
  refine ⟨fun i j hi hj => ?_, fun j hj => ?_⟩
  · obtain ⟨z, z1, z2⟩ := hT i j hi hj
    exact frac_small z1 D0 DM z2 hM
  · obtain ⟨z, z1, z2⟩ := hg j hj
    exact frac_small z1 D0 DM z2 hM
section
variable {F : Fx} {w : Ow} {n i : Nat} {A : Nat → Rl}
end
end W1
set_option maxRecDepth 100000
set_option maxHeartbeats 1000000
set_option exponentiation.threshold 20000
namespace W1
open PySem PySem.Spec PyProof.Rows L2 NdefX TL NumText LP
/-! ### which column enters, which row leaves -/
structure ShG (P : Program) (w : World) (K : PySem.W.Frag) (mg : Str → Option Value) (base : Heap) (C R M : Addr) : Prop where
  X : RtX P w K mg base R M
  SX : ShX K mg C
  Tq : Km P w K mg base R "quotient" 5 (pQuo R M)
  Ts : Ko P w K mg base R "__sub__" 5 (pSub R)
  Tn : Ko P w K mg base R "__neg__" 5 (pNeg R)
  len : mg "len" = none
  rg : mg "range" = none
  en : mg "enumerate" = none
  zp : mg "zip" = none
  int : mg "int" = none
section
variable {P : Program} {w : World} {K : PySem.W.Frag} {mg : Str → Option Value} {base : Heap} {C M R f : Addr} {fd : FuncData}
end
end W1
set_option maxRecDepth 100000
set_option maxHeartbeats 1000000
set_option exponentiation.threshold 20000
namespace W1
open PySem PySem.Spec PyProof.Rows L2 NdefX TL NumText LP
/-! ### one turn -/
section
variable {P : Program} {w : World} {K : PySem.W.Frag} {mg : Str → Option Value} {base : Heap} {C M R f : Addr} {fd : FuncData}
end
end W1
set_option maxRecDepth 100000
set_option maxHeartbeats 1000000
set_option exponentiation.threshold 20000
namespace W1
open PySem PySem.Spec PyProof.Rows L2 NdefX TL NumText LP
/-! ### more lists that are owned -/
section
variable {F : Fx} {ρ : Ty} {ω w w1 w2 w3 : Ow} {a b o : Expr} {Rs : List Rl} {pos p2 : Pos} {v u : Option Int}
theorem en_rep {k : Int} (ha : ER F ρ ω a (rLst Rs) w1) (hb : ER F ρ w1 b (rInt k) w2) (h1 : -(2 ^ 63) ≤ k) (h2 : k < 2 ^ 63) (hz : Rs.length * k.toNat ≤ 100000) : EN F ρ ω (.BinOp a .Mult b pos) (oL (List.replicate k.toNat Rs).flatten) w2 := fun σ G H at_ sl Q q => by
  refine ew_of (pe_op op_rep pe_w pe_w) (ha σ G H at_ sl _ fun x G1 H1 s1 a1 hx => hb σ G1 H1 a1 (sl.up s1) _ fun y G2 H2 s2 a2 hy => ?_)
  obtain ⟨l, vs, rfl, e1, e2⟩ := (rLst Rs).mo _ _ _ s2 hx
  exact ⟨l, k, vs, rfl, hy, a2.gh _ _ e1, h1, h2, Nat.le_trans (by rw [← e2.len]; exact hz) (by decide), fun p hp => q p G2 _ (fun hm => a2.mm p hm hp) (s1.trans s2) (a2.own hp ⟨_, rfl, all2_flat e2 _⟩)⟩
end
section
variable {F : Fx} {ρ : Ty} {ω w1 wc wc' : Ow} {e o : Expr} {es : List Expr} {R : Rl} {Rs : List Rl} {pos apos : Pos} {m : Str} {k : Nat} {C q : Addr} {pre : Pre} {fs : List (Str × Rl)}
theorem hb_retOk {K : Kn} {rest : List Stmt} {O : Ol} (he : EN F ρ ω e O w1) (h : ∀ q, q ∉ F.M → q ∉ keys w1 → K.rt (rRef q) ((q, O) :: w1)) : HB F ρ ω (.Return (some e) pos :: rest) K := hb_cons fun σ G H D at_ sl ps =>
  sw_of (ps_ret pe_w) (he σ G H at_ sl _ fun q G2 H2 hM s a => ps.rt _ _ (h q hM (List.nodup_cons.mp a.nd).1) _ G2 H2 s a rfl)
end
/-! ### to the end -/
def FinOk (d : Dat) : Prop := DatF d ∧ ∃ M, Cd d (sh0 d) M ∧ grown d.m M < 2 ^ 1300
theorem FinOk.sz {d : Dat} (h : FinOk d) {S : Sht} (t : Tab d S) : ShS d S := by
  obtain ⟨h, M, c, hM⟩ := h
  exact shs_of (t.cd h.ok c) hM
def pSolve (C R : Addr) : Pre := fun Rs w o w' => ∃ d q pb, Dm1 d ∧ FinOk d ∧ Rs = [rRef q] ∧ w = [(q, oIns C (shF R d (sh0 d) pb)), (pb, oL (basisL d (sh0 d)))] ∧ w' = [(q, oIns C (shF R d (fin d) pb)), (pb, oL (basisL d (fin d)))] ∧ o = .ok (rOI (ent d (fin d)))
def pPoint (C R : Addr) : Pre := fun Rs w o w' => ∃ d S q pb, Dm1 d ∧ ShS d S ∧ Tab d S ∧ Rs = [rRef q] ∧ w = [(q, oIns C (shF R d S pb)), (pb, oL (basisL d S))] ∧ w' = [(q, oIns C (shF R d S pb)), (pb, oL (basisL d S))] ∧ o = .ok (rLst ((List.range d.m).map fun j => rRat R (xv d S j)))
def pRay (C R : Addr) : Pre := fun Rs w o w' => ∃ d S q pb c, Dm1 d ∧ ShS d S ∧ Tab d S ∧ c < d.N ∧ (∀ i, i < d.n → S.B i ≠ c) ∧ Rs = [rRef q, rInt ((c : Nat) : Int)] ∧ w = [(q, oIns C (shF R d S pb)), (pb, oL (basisL d S))] ∧ w' = [(q, oIns C (shF R d S pb)), (pb, oL (basisL d S))] ∧ o = .ok (rLst ((List.range d.m).map fun j => rRat R (rv d S c j)))
def pMult (C R : Addr) : PreN := fun Rs w O w' => ∃ d S q pb, Rs = [rRef q] ∧ w = [(q, oIns C (shF R d S pb)), (pb, oL (basisL d S))] ∧ w' = [(q, oIns C (shF R d S pb)), (pb, oL (basisL d S))] ∧ O = oL ((List.range d.n).map fun k => rRat R (yv d S k))
section
variable {P : Program} {w : World} {K : PySem.W.Frag} {mg : Str → Option Value} {base : Heap} {C M R f : Addr} {fd : FuncData}
end
end W1
set_option maxRecDepth 100000
set_option maxHeartbeats 1000000
set_option exponentiation.threshold 20000
namespace W1
open PySem PySem.Spec PyProof.Rows L2 NdefX TL NumText LP
section
variable {F : Fx} {ρ : Ty} {ω w1 : Ow} {tg it elt c : Expr} {pos spos : Pos} {scope : Scope} {own : List (Str × Nat)} {g : TG} {ifs : List Expr} {α : Type}
end
section
variable {P : Program} {w : World} {K : PySem.W.Frag} {mg : Str → Option Value} {base : Heap} {C M R f : Addr} {fd : FuncData}
end
end W1
set_option maxRecDepth 100000
set_option maxHeartbeats 1000000
set_option exponentiation.threshold 20000
namespace W1
open PySem PySem.Spec PyProof.Rows L2 NdefX TL NumText LP
/-! ### a sheet is made -/
def datOf (a : Nat → Nat → Rat) (h gl : Nat → Rat) (m n : Nat) : Dat :=
  ⟨fun k j => if j < m then a k j else if j < m + n then (if j - m = k then 1 else 0) else h k, fun j => if j < m then -gl j else 0, m, n⟩
structure IniOk (a : Nat → Nat → Rat) (h gl : Nat → Rat) (m n : Nat) : Prop where
  hm : m ≤ 100
  hn : n ≤ 100
  sg : ∀ j, j < m → small (gl j)
section
variable {P : Program} {w : World} {K : PySem.W.Frag} {mg : Str → Option Value} {base : Heap} {C M R f : Addr} {fd : FuncData}
end
end W1
set_option maxRecDepth 100000
set_option maxHeartbeats 1000000
set_option exponentiation.threshold 20000
/-! ### dict(zip(a, b)) of a tuple and a list -/
namespace W1Z
open PySem
section
variable {prog : Program} {w : World} {A : Around} {E : Value → Shared → Prop} {s : Shared} {y TI TO T p q : Addr} {f1 f2 : List Addr} {m1 m2 j : Nat} {P1 P2 : Nat → Value → Prop} {St1 St2 : Nat → Heap → Prop} {fl : Bool} {oT : Obj}
end
end W1Z
set_option maxRecDepth 100000
set_option maxHeartbeats 1000000
set_option exponentiation.threshold 20000
namespace W1
open PySem PySem.Spec PyProof.Rows L2 NdefX TL NumText LP
/-! ### dict(zip(names, things)) -/
section
variable {F : Fx} {ρ : Ty} {ω w1 : Ow} {e1 e2 : Expr} {x z : Str} {p0 p1 pos pos1 : Pos}
end
end W1
set_option maxRecDepth 100000
set_option maxHeartbeats 1000000
set_option exponentiation.threshold 20000
namespace W1
open PySem PySem.Spec PyProof.Rows L2 NdefX TL NumText LP
/-! ### dicts that anybody may hold, frozen or not; an error that holds a dict -/
section
variable {F : Fx} {ρ : Ty} {ω w w1 : Ow} {e : Expr} {fs : List (Key × Rl)}
end
/-- the promise of such an __init__: the one field holds a copy -/
def spErrD (C : Addr) (fld : Str) : Sp := fun vs H Q _ => ∃ a p kvs, vs = [.ref a, .ref p] ∧ H a = some (exo a C none) ∧ Rd H p (.dK kvs) ∧
  ∀ H' t d od, H t = none → t ≠ a → H d = none → d ≠ a → d ≠ t → H' a = some (exo a C (some d)) → H' d = some (exd d [(fld, .ref t)]) → H' t = some (.frz od (.dK kvs)) → (∀ b o, b ≠ a → H b = some o → H' b = some o) → Q .non H'
section
variable {P : Program} {w : World} {K : PySem.W.Frag} {mg : Str → Option Value} {base : Heap}
end
section
variable {F : Fx} {ρ : Ty} {ω w1 : Ow} {K : Kn} {rest : List Stmt} {e : Expr} {A : Rl} {pos pos' p : Pos} {x y qual fld : Str} {st : Stmt} {C f cc cd : Addr} {fd : FuncData} {k : Nat} {fs : List (Key × Rl)}
end
section
variable (P : Program) (w : World) (K : PySem.W.Frag) (mg : Str → Option Value) (base : Heap)
/-- an error class whose one field is a copy of a dict -/
def KeD (C : Addr) (x fld : Str) (k : Nat) : Prop := ∃ y qual st f cc cd fd, SupC P K mg x qual st C f cc cd ∧ Binds K fd ([("self" : Str), y] : List Str) [] ∧ FnOk P w K mg base (L2.CX P w) k f fd ([("self" : Str), y] : List Str) (spErrD C fld)
end
section
variable {F : Fx} {ρ : Ty} {ω w1 : Ow} {K : Kn} {rest : List Stmt} {e : Expr} {A : Rl} {pos pos' p : Pos} {x fld : Str} {C : Addr} {k : Nat} {fs : List (Key × Rl)}
end
end W1
set_option maxRecDepth 100000
set_option maxHeartbeats 1000000
set_option exponentiation.threshold 20000
namespace W1
open PySem PySem.Spec PyProof.Rows L2 NdefX TL NumText LP
/-! ### a book's sheet, solved -/
def nmAt (gs : List Str) (j : Nat) : Str := (srt gs).getD j Str.empty
def lpD (gs : List Str) (ys : List Wy) (h : Nat → Rat) (gl : Str → Rat) : Dat := datOf (fun i j => ((netW (ys.getD i wy0) (nmAt gs j) : Int) : Rat)) h (fun j => gl (nmAt gs j)) gs.length ys.length
/-- what the walks of a book's sheet ask of it -/
structure BkL (gs : List Str) (ys : List Wy) : Prop where
  nd : gs.Nodup
  nm : ∀ g ∈ gs, g.length ≤ 640
  h4 : gs.length ≤ 4
  h8 : ys.length ≤ 8
def pSheetOf (S C W R : Addr) : PreG := fun Rs w o => ∃ gs ys h dm, BkL gs ys ∧ (∀ g, small (valQ dm g)) ∧ Rs = [rBook C W gs ys, rLst ((List.range ys.length).map fun i => rRat R (h i)), rDct (fsQ R dm)] ∧ w = [] ∧
  o = .ok fun A w' => ∃ q pb, A = rRef q ∧ w' = [(q, oIns S (shF R (lpD gs ys h (valQ dm)) (sh0 (lpD gs ys h (valQ dm))) pb)), (pb, oL (basisL (lpD gs ys h (valQ dm)) (sh0 (lpD gs ys h (valQ dm)))))]
structure BkG (P : Program) (w : World) (K : PySem.W.Frag) (mg : Str → Option Value) (base : Heap) (S C W R M U V : Addr) : Prop where
  G : ShG P w K mg base S R M
  BX : BookX K mg C
  Tl : Ko P w K mg base C "__len__" 1 (pBLen C W)
  Tn : Km P w K mg base C "net" 4 (pBNet C W U V)
  Ta : Kf1 P w K mg base "amount" 6 (pAmount R)
section
variable {P : Program} {w : World} {K : PySem.W.Frag} {mg : Str → Option Value} {base : Heap} {S C W M N U V R f : Addr} {fd : FuncData}
end
end W1
set_option maxRecDepth 100000
set_option maxHeartbeats 1000000
set_option exponentiation.threshold 20000
namespace W1
open PySem PySem.Spec PyProof.Rows L2 NdefX TL NumText LP
section
variable {F : Fx} {ρ : Ty} {ω : Ow} {es : List Expr} {pos : Pos} {j : Nat} {Φ : Rl → Ow → Prop}
end
/-! ### the greatest worth, and who shows it -/
structure SvG (P : Program) (w : World) (K : PySem.W.Frag) (mg : Str → Option Value) (base : Heap) (S C W R M N U V : Addr) : Prop where
  B : BkG P w K mg base S C W R M U V
  Tso : KfG1 P w K mg base "sheet_of" 8 (pSheetOf S C W R)
  Tsv : Km P w K mg base S "solve" 7 (pSolve S R)
  Tm : Kmn P w K mg base S "multipliers" 1 (pMult S R)
  Tp : Km P w K mg base S "point" 6 (pPoint S R)
  Tr : Km P w K mg base S "ray" 6 (pRay S R)
  Te : KeD P w K mg base N "NoPlan" "prices" 1
  di : mg "dict" = none
section
variable {P : Program} {w : World} {K : PySem.W.Frag} {mg : Str → Option Value} {base : Heap} {S C W M N U V R f : Addr} {fd : FuncData}
end
end W1
set_option maxRecDepth 100000
set_option maxHeartbeats 1000000
set_option exponentiation.threshold 20000
namespace W1
open PySem PySem.Spec PyProof.Rows L2 NdefX TL NumText LP
/-! ### try .. except C: without a name; more on what is given by what holds of it -/
section
variable {F : Fx} {ρ : Ty} {ω w1 : Ow} {K : Kn} {rest body suite : List Stmt} {b₀ : Stmt} {x : Str} {c : Value} {np pos pos' : Pos}
variable {e a b : Expr} {Φ : Rl → Ow → Prop} {S B : Rl} {w w2 : Ow} {p : Pos}
end
/-! ### the least hours of a demand -/
structure CkG (P : Program) (w : World) (K : PySem.W.Frag) (mg : Str → Option Value) (base : Heap) (S C W R M N U V gi : Addr) : Prop where
  Z : SvG P w K mg base S C W R M N U V
  WX : WayX K mg W
  Im : ItM K C gi
  Ti : IterOk P w K mg base C gi "ways" 1
  Td : Kf1 P w K mg base "check_demand" 6 (pChkD C W M U R)
section
variable {P : Program} {w : World} {K : PySem.W.Frag} {mg : Str → Option Value} {base : Heap} {S C W M N U V R f gi : Addr} {fd : FuncData}
end
end W1
set_option maxRecDepth 100000
set_option maxHeartbeats 2000000
set_option exponentiation.threshold 20000
namespace W1
open PySem PySem.Spec PyProof.Rows L2 TL NumText
/-! ### several clauses, some with a name, some without -/
structure AsN where
  c : Value
  i : Option Nat
  ts : Addr → Value → Option Addr → TS
inductive AsOkN (X : Cx) : List ExceptHandler → List AsN → Prop
  | nil : AsOkN X [] []
  | cons {x n : Str} {c : Value} {i : Nat} {ts : Addr → Value → Option Addr → TS} {b₀ : Stmt} {sts : List Stmt} {p p' : Pos} {hds : List ExceptHandler} {l : List AsN} (ni : X.N[i]? = some n) (lo : X.env.kindOf n = some .local) (nm : Names X x c)
      (su : ∀ (a : Addr) (oe : Obj) (cls : Value) (d : Option Addr) (pn : List (Addr × Obj)), Zc cls d oe → (∃ vs, oe.data = .fields vs) → PSs (X.suite a ((a, oe) :: pn)) (b₀ :: sts) (ts a cls d)) (r : AsOkN X hds l) :
      AsOkN X (.ExceptHandler (some (.Name x p)) (some n) (b₀ :: sts) p' :: hds) (⟨c, some i, ts⟩ :: l)
  | bare {x : Str} {c : Value} {ts : Addr → Value → Option Addr → TS} {b₀ : Stmt} {sts : List Stmt} {p p' : Pos} {hds : List ExceptHandler} {l : List AsN} (nm : Names X x c)
      (su : ∀ (a : Addr) (oe : Obj) (cls : Value) (d : Option Addr) (pn : List (Addr × Obj)), Zc cls d oe → (∃ vs, oe.data = .fields vs) → PSs (X.suite a ((a, oe) :: pn)) (b₀ :: sts) (ts a cls d)) (r : AsOkN X hds l) :
      AsOkN X (.ExceptHandler (some (.Name x p)) none (b₀ :: sts) p' :: hds) (⟨c, none, ts⟩ :: l)
section
variable {X : Cx} {body : List Stmt} {h₀ : ExceptHandler} {hds : List ExceptHandler} {l : List AsN} {pos : Pos} {tb : WX → TS} {W : WX}
end
/-- a clause: with the slot and the name, or without -/
structure ClN where
  x : Str
  c : Value
  n : Option (Nat × Str)
  b₀ : Stmt
  sts : List Stmt
  p : Pos
  p' : Pos
def ClN.hd (z : ClN) : ExceptHandler := .ExceptHandler (some (.Name z.x z.p)) (z.n.map (·.2)) (z.b₀ :: z.sts) z.p'
section
variable {F : Fx} {ρ : Ty} {ω : Ow} {K : Kn} {rest body : List Stmt} {pos : Pos}
end
end W1
set_option maxRecDepth 100000
set_option maxHeartbeats 2000000
set_option exponentiation.threshold 20000
namespace W1
open PySem PySem.Spec PyProof.Rows L2 TL NumText
/-! ### own errors without field: C() as a value, and raised -/
section
variable {X : Cx} {p pos : Pos}
end
end W1
set_option maxRecDepth 100000
set_option maxHeartbeats 2000000
set_option exponentiation.threshold 20000
namespace W1
open PySem PySem.Spec PyProof.Rows L2 NdefX TL NumText
/-! ### raise C(), an own error without field -/
def er0 (C : Addr) : Er := fun cls d _ => cls = .ref C ∧ d = none
section
variable {P : Program} {w : World} {K : PySem.W.Frag} {mg : Str → Option Value} {base : Heap}
end
section
variable (P : Program) (w : World) (K : PySem.W.Frag) (mg : Str → Option Value) (base : Heap)
end
section
variable {F : Fx} {ρ : Ty} {ω : Ow} {K : Kn} {rest : List Stmt} {pos pos' p : Pos} {x : Str} {C : Addr} {k : Nat}
end
end W1
set_option maxRecDepth 100000
set_option maxHeartbeats 2000000
set_option exponentiation.threshold 20000
namespace W1
open PySem PySem.Spec PyProof.Rows L2 NdefX TL NumText
/-! ### list(d.values()) of a dict that stays -/
section
variable {X : Cx} {e : Expr} {td : TE} {p apos cpos pos : Pos}
end
end W1
set_option maxRecDepth 100000
set_option maxHeartbeats 1000000
namespace W1
open PySem PySem.Spec PyProof.Rows L2 NdefX TL NumText
/-! ### an owned dict lent for one expression -/
def del (G : Hp) (q : Addr) : Hp := fun a => if a = q then none else G a
theorem del_ne {G : Hp} {q a : Addr} (h : a ≠ q) : del G q a = G a := if_neg h
theorem del_same {G : Hp} {q : Addr} : del G q q = none := if_pos rfl
/-- what does not look at a dict -/
def LocR (R : Rl) : Prop := ∀ v G q od vs, G q = some (.frz od (.dK vs)) → R.r v G → R.r v (del G q)
def LocO (O : Ol) : Prop := ∀ o G q od vs, G q = some (.frz od (.dK vs)) → O.c o G → O.c o (del G q)
section
variable {F : Fx} {ρ : Ty} {w : Ow} {e : Expr} {R : Rl} {q : Addr} {fs : List (Key × Rl)} {G H G2 H2 : Hp} {od : Obj} {vs : List (Key × V)}
theorem At.back (a : At F ((q, oD fs) :: w) G H) (h0 : F.H0 q = none) (h2 : NR fs vs G) (s : Same (upd G q (.frz od (.dK vs))) G2) (b : At F w G2 H2) (lw : ∀ p ∈ w, LocO p.2) : Same G (del G2 q) ∧ At F ((q, oD fs) :: w) (del G2 q) (upd H2 q (.dK vs)) := by
  have hg : G q = none := (a.ow _ List.mem_cons_self).1
  have g2 : G2 q = some (.frz od (.dK vs)) := s _ _ upd_same
  have sd : Same G (del G2 q) := fun c u e => by
    have hc : c ≠ q := ne_of_none e hg
    rw [del_ne hc]
    exact s _ _ (by rw [upd_ne hc]; exact e)
  have nd := List.nodup_cons.mp a.nd
  refine ⟨sd, a.gg.trans sd, fun c u hc e => ?_, fun c u e => ?_, fun c k1 k2 => ?_, fun c hc => ?_, fun p hp => ?_, a.nd⟩
  · rw [upd_ne (fun z => by rw [z, h0] at e; cases e)]
    exact b.hh c u hc e
  · by_cases hc : c = q
    · rw [hc, del_same] at e; cases e
    · rw [del_ne hc] at e
      rw [upd_ne hc]
      exact b.gh _ _ e
  · by_cases hc : c = q
    · rw [hc]; exact del_same
    · rw [del_ne hc]; exact b.fr c k1 k2
  · by_cases hq : c = q
    · rw [hq, upd_same]; exact fun z => by cases z
    · rw [upd_ne hq]; exact b.mm c hc
  · rcases List.mem_cons.mp hp with rfl | hp
    · exact ⟨del_same, .inl h0, _, upd_same, vs, rfl, h2.up sd⟩
    · obtain ⟨x1, x2, o, x3, x4⟩ := b.ow p hp
      have hc : p.1 ≠ q := fun z => nd.1 (z ▸ List.mem_map.mpr ⟨p, hp, rfl⟩)
      exact ⟨by rw [del_ne hc]; exact x1, x2, o, by rw [upd_ne hc]; exact x3, lw p hp _ _ _ _ _ g2 x4⟩
end
theorem NR.del {κ : Type} {q : Addr} {od : Obj} {us : List (Key × V)} : ∀ {Rs : List (κ × Rl)} {vs : List (κ × V)} {G : Hp}, (∀ p ∈ Rs, LocR p.2) → G q = some (.frz od (.dK us)) → NR Rs vs G → NR Rs vs (del G q)
  | [], [], _, _, _, _ => trivial
  | (k, R) :: Rs, (k', v) :: vs, G, l, g, h => ⟨h.1, l _ List.mem_cons_self _ _ _ _ _ g h.2.1, NR.del (fun p hp => l p (List.mem_cons_of_mem _ hp)) g h.2.2⟩
  | [], _ :: _, _, _, _, h => h.elim
  | _ :: _, [], _, _, _, h => h.elim
end W1
set_option maxRecDepth 100000
set_option maxHeartbeats 1000000
namespace W1
open PySem PySem.Spec PyProof.Rows L2 NdefX TL NumText
section
variable {F : Fx} {ρ : Ty} {w w2 : Ow} {e : Expr} {R : Rl} {O : Ol} {q : Addr} {fs : List (Key × Rl)} {G H G2 H2 : Hp} {od : Obj} {vs : List (Key × V)}
end
end W1
set_option maxRecDepth 100000
set_option maxHeartbeats 2000000
set_option exponentiation.threshold 20000
namespace W1
open PySem PySem.Spec PyProof.Rows L2 NdefX TL NumText LP
/-! ### and, or, whose later operands change what is owned -/
section
variable {F : Fx} {ρ ρ1 : Ty} {ω w1 w2 : Ow} {a b e o tg : Expr} {R : Rl} {Rs : List Rl} {pos p apos : Pos} {K : Kn} {rest : List Stmt} {q : Addr} {Φ : Rl → Ow → Prop} {x : Str}
theorem tr_andF {es : List Expr} (h : TR F ρ ω a false w1) : PWR F ρ ω (.BoolOp .And (a :: b :: es) pos) false w1 :=
  ⟨_, pw_and (tB' := fun _ _ _ => False) pt_w ⟨fun _ _ _ _ _ _ _ h => h.elim⟩, fun σ G H at_ sl Q q => h σ G H at_ sl _ fun G2 H2 s a => iteF (q G2 H2 s a)⟩
theorem tr_andT {m : Bool} {es : List Expr} (h : TR F ρ ω a true w1) (g : PWR F ρ w1 (.BoolOp .And (b :: es) pos) m w2) : PWR F ρ ω (.BoolOp .And (a :: b :: es) pos) m w2 := by
  obtain ⟨t, hp, hk⟩ := g
  exact ⟨_, pw_and pt_w hp, fun σ G H at_ sl Q q => h σ G H at_ sl _ fun G2 H2 s a => iteT (hk σ G2 H2 a (sl.up s) Q fun G3 H3 s3 a3 => q G3 H3 (s.trans s3) a3)⟩
/-! ### a target of several names, l.append(..), of what is known by what holds of it -/
end
/-! ### a pool, of which is only known how often it was drawn from -/
end W1
set_option maxRecDepth 100000
set_option maxHeartbeats 2000000
set_option exponentiation.threshold 20000
namespace W1
open PySem PySem.Spec PyProof.Rows L2 NdefX TL NumText
/-! ### == of two dicts that hold unlike many -/
section
variable {prog : Program} {w : World} {A : Around} {E : Value → Shared → Prop}
end
section
variable {F : Fx} {w : Ow} {A B : Rl} {n : Nat} {fs gs : List (Key × Rl)}
end
end W1
set_option maxRecDepth 100000
set_option maxHeartbeats 1000000
namespace W1
open PySem PySem.Spec PyProof.Rows L2 NdefX
/-! ### whole division by a number of any size: the heap at the law's entry, pinned -/
section
variable {h : Heap} {K E : PySem.W.Frag} {a : Addr} {o : Obj}
theorem look_app (e : (K ++ E).lookup a = some o) : K.lookup a = some o ∨ E.lookup a = some o := by
  induction K with
  | nil => exact .inr e
  | cons p r ih =>
    obtain ⟨b, x⟩ := p
    simp only [List.cons_append, List.lookup_cons] at e ⊢
    cases q : a == b with
    | true => rw [q] at e; exact .inl e
    | false => rw [q] at e; exact ih e
theorem look_fst (e : K.lookup a = some o) : (K ++ E).lookup a = some o := by
  induction K with
  | nil => cases e
  | cons p r ih =>
    obtain ⟨b, x⟩ := p
    simp only [List.cons_append, List.lookup_cons] at e ⊢
    cases q : a == b with
    | true => rw [q] at e; exact e
    | false => rw [q] at e; exact ih e
theorem look_snd (n : K.lookup a = none) : (K ++ E).lookup a = E.lookup a := by
  induction K with
  | nil => rfl
  | cons p r ih =>
    obtain ⟨b, x⟩ := p
    simp only [List.cons_append, List.lookup_cons] at n ⊢
    cases q : a == b with
    | true => rw [q] at n; cases n
    | false => rw [q] at n; exact ih n
theorem look_in (hE : ∀ p ∈ E, h.get? p.1 = some p.2) (e : E.lookup a = some o) : (a, o) ∈ E := by
  induction E with
  | nil => cases e
  | cons p r ih =>
    obtain ⟨b, x⟩ := p
    simp only [List.lookup_cons] at e
    cases q : a == b with
    | true =>
      rw [q] at e
      cases e
      rw [beq_iff_eq.mp q]
      exact List.mem_cons_self
    | false => rw [q] at e; exact List.mem_cons_of_mem _ (ih (fun p hp => hE p (List.mem_cons_of_mem _ hp)) e)
theorem look_of (hE : ∀ p ∈ E, h.get? p.1 = some p.2) (m : (a, o) ∈ E) : E.lookup a = some o := by
  induction E with
  | nil => cases m
  | cons p r ih =>
    obtain ⟨b, x⟩ := p
    simp only [List.lookup_cons]
    cases q : a == b with
    | true =>
      have e1 := hE _ m
      have e2 := hE _ (List.mem_cons_self (a := (b, x)) (l := r))
      have ab := beq_iff_eq.mp q
      subst ab
      exact e2.symm.trans e1
    | false =>
      rcases List.mem_cons.mp m with z | z
      · cases z
        rw [beq_self_eq_true] at q
        cases q
      · exact ih (fun p hp => hE p (List.mem_cons_of_mem _ hp)) z
end
/-- the four things that tell that nobody looks on -/
theorem seer_pins {h : Heap} (S : h.NoSeer) : ∃ E : PySem.W.Frag, (∀ p ∈ E, h.get? p.1 = some p.2) ∧ (∀ p ∈ E, (∃ es n, p.2.data = .dict es n) ∨ p.2.cls = .type "module") ∧
    ∀ b : Heap, E.In b → (∃ mb, b.Ns builtinsNs mb ∧ ∀ x : Str, x ≠ "__name__" → mb x = bootBuiltins x) → b.NoSeer := by
  obtain ⟨mc, ⟨oc, ec, nc, gc, dc, kc, fc⟩, c1, c2⟩ := S.statics
  obtain ⟨mm, ⟨om, em, nm, gm, dm, km, fm⟩, m1⟩ := S.mods
  obtain ⟨mg, bm, ob, ⟨og, eg, ng, gg, dg, kg, fg⟩, b1, b2, b3, b4⟩ := S.main
  have all : ∀ p ∈ ([(cStatics, oc), (sysModules, om), (mainGlobals, og), (bm, ob)] : PySem.W.Frag), h.get? p.1 = some p.2 := fun p hp => by
    simp only [List.mem_cons, List.not_mem_nil, or_false] at hp
    rcases hp with rfl | rfl | rfl | rfl
    · exact gc
    · exact gm
    · exact gg
    · exact b2
  refine ⟨_, all, fun p hp => ?_, fun b inb imp => ?_⟩
  · simp only [List.mem_cons, List.not_mem_nil, or_false] at hp
    rcases hp with rfl | rfl | rfl | rfl
    · exact .inl ⟨_, _, dc⟩
    · exact .inl ⟨_, _, dm⟩
    · exact .inl ⟨_, _, dg⟩
    · exact .inr b3
  · have at_ : ∀ a o, (a, o) ∈ ([(cStatics, oc), (sysModules, om), (mainGlobals, og), (bm, ob)] : PySem.W.Frag) → b.get? a = some o := fun a o m => inb a o (look_of all m)
    exact ⟨⟨mc, ⟨oc, ec, nc, at_ _ _ (by simp), dc, kc, fc⟩, c1, c2⟩, ⟨mm, ⟨om, em, nm, at_ _ _ (by simp), dm, km, fm⟩, m1⟩, imp, ⟨mg, bm, ob, ⟨og, eg, ng, at_ _ _ (by simp), dg, kg, fg⟩, b1, at_ _ _ (by simp), b3, b4⟩⟩
/-- the law's promise, its base without one who looks on -/
theorem walk_seer {l : PySem.W.OpenLaw} {n k : Nat} {q : Program} {loose : List Str} {XP : (Str → Option Value) → Heap → Prop} {YP : World → Heap → Prop} {d : DefRec} {K : Params → PySem.W.Frag} {CX : World → CXT} {sp : World → Sp} {x : Str} (im : importsNone q = true)
    (hn : l.most = some n) (hn2 : n ≤ sizeLine) (hdf : d.params.defaults = []) (hr : Room k callerA) (hY : ∀ (w : World) (h : Heap), YP w h → (K w.params).In h)
    (F : ∀ (w : World) (mg : Str → Option Value) (fa : Addr) (h : Heap), (K w.params).In h → h.Ns mainGlobals mg → mg d.name = some (.ref fa) → ∃ fd : FuncData, (∀ (s : Shared) (u : Value), BindsTo s fd ⟨[u], []⟩ [(x, u)]) ∧
      ∀ b : Heap, (K w.params).In b → b.Ns mainGlobals mg → b.NoSeer → FnOk l.prog w (K w.params) mg b (CX w) k fa fd [x] (sp w))
    (hsp : ∀ (w : World) (H : Hp) (a : Addr) (ns : List Int), ns.length ≤ n → Only H → SqL (K w.params) H a (ns.map V.int) → sp w [.ref a] H (fun v _ => v = .bl true) fun _ _ _ => False)
    (hCX : ∀ (w : World) (H : Hp) (s : Shared) (e : Value) (s' : Shared), CX w [] H s (fun _ _ _ => False) e s' → False) :
    PySem.W.WalkO q loose XP YP l.row.toRowW d [] (fun f vs => PySem.call f vs) := by
  apply Att.attach_call hn hdf
  intro w t0 t1 m1 m2 fa ob pm cdv dv sc us is Gd Yh e1 e2 e3 e4 e5 e6 e7 e8
  have kx := hY w _ Yh
  have ns := Gd.T.seer im
  obtain ⟨E, pin, kind, back⟩ := seer_pins ns
  obtain ⟨fd, bd, prom⟩ := F w m1 fa _ kx Gd.T.g e4
  have both : (K w.params ++ E).In t1.heap := fun b u e => (look_app e).elim (kx b u) fun e => pin (b, u) (look_in pin e)
  have one : ∀ {b : Heap}, (K w.params ++ E).In b → (K w.params).In b := fun z b u e => z b u (look_fst e)
  have two : ∀ {b : Heap}, (K w.params ++ E).In b → E.In b := fun z b u e => by
    refine z b u ?_
    cases r : (K w.params).lookup b with
    | none => rw [look_snd r]; exact e
    | some v =>
      have a1 := kx b v r
      have a2 := pin (b, u) (look_in pin e)
      have a3 : v = u := Option.some.inj (a1.symm.trans a2)
      rw [← a3]
      exact look_fst r
  refine law_call (K := K w.params ++ E) both Gd.T.g Gd.T.b Gd.T.builtins Gd.T.nolimit e8 e5 e6 (Nat.le_trans e7 hn2) hr (fun b kb nb => ?_) bd (fun H ho hs => hsp w H sc is e7 ho ?_) fun H e s' => hCX w H t1 e s'
  · refine ⟨(prom t1.heap kx Gd.T.g ns).len, fun A outer s H args us vs Q X rm en bs vv q => ?_⟩
    have md := en.mod
    exact (prom b (one kb) nb (back b (two kb) md.blt)).run A outer s H args us vs Q X rm ⟨en.frames, ⟨one md.kin, md.glob, md.blt, md.nolimit⟩, en.bs, en.bsz, en.funs, en.frf, en.hok, en.bare⟩ bs vv q
  · rcases hs with z | ⟨u, its, m, z, c1, c2, c3, c4, c5⟩
    · exact .inl z
    · rcases look_app z with z | z
      · exact .inr ⟨u, its, m, z, c1, c2, c3, c4, c5⟩
      · rcases kind _ (look_in pin z) with ⟨es, j, z2⟩ | z2
        · have z3 : u.data = .dict es j := z2
          rw [z3] at c3
          cases c3
        · have z3 : u.cls = .type "module" := z2
          rw [z3] at c1
          exact absurd (Value.type.inj c1) (by decide)
structure SeerX (X : Cx) : Prop where
  ns : X.base.NoSeer
  tree : X.prog.given.tree = none
  stk : X.stack = X.env :: X.outer
  gen : X.env.scope.isGenerator = false
  co : X.env.scope.isCoroutine = false
  dp : X.A.depth + 3 * 34 + 5 < recursionLimit
theorem op_fdivP {X : Cx} (S : SeerX X) : OpR X (binaryOp .FloorDiv) (rI (fun _ j => j ≠ 0) fun i j => .int (i.fdiv j)) := by
  intro pins s σ H x y v u Q I rx ry h
  rcases h with ⟨i, j, e1, e2, nz, q⟩
  subst e1 e2
  rcases rx with ⟨t1, e1⟩
  rcases ry with ⟨t2, e2⟩
  subst e1 e2
  refine floordiv_int nz ?_ (.inr (PylongRoom.of I.nolimit ?_ (SeerAt.of (S.ns.keeps I.bk) S.tree (I.ok.frames.trans (congrArg some S.stk)) S.gen S.co I.ok.blt I.ok.glob)))
  · exact ⟨V.int (i.fdiv j), H, Inv.tok I _, ⟨_, rfl⟩, q⟩
  · show X.A.depth + 100 < recursionLimit
    have := S.dp
    omega
theorem bop_fdivP {F : Fx} {ω : Ow} {i j : Int} (S : SeerX F.X) (h : j ≠ 0) : Bop F ω (binaryOp .FloorDiv) (rInt i) (rInt j) (rInt (i.fdiv j)) := bop_of (op_fdivP S) fun _ _ q => ⟨i, j, rfl, rfl, h, q⟩
end W1
set_option maxRecDepth 100000
set_option maxHeartbeats 2000000
set_option exponentiation.threshold 20000
namespace W1
open PySem PySem.Spec PyProof.Rows L2 NdefX
/-! ### numbers of up to 2 ^ 23 bits -/
@[irreducible] def bigN : Nat := 8388608
theorem bigN_le : bigN + bigN ≤ 134217728 := by
  unfold bigN
  decide
theorem bits_big {a : Int} (h : a.natAbs < 2 ^ bigN) : Builtin.Int.intBits a ≤ bigN := by
  unfold Builtin.Int.intBits
  split
  · exact Nat.zero_le _
  · rename_i hne
    have h0 : a.natAbs ≠ 0 := fun z => hne (by simpa using Int.natAbs_eq_zero.mp z)
    exact (Nat.log2_lt h0).mpr h
theorem mulokW {a b : Int} (ha : a.natAbs < 2 ^ bigN) (hb : b.natAbs < 2 ^ bigN) : IntMulOk a b := IntMulOk.of_le (bits_big ha) (bits_big hb) bigN_le
def big (q : Rat) : Prop := Sz bigN q
theorem big.t {q : Rat} (h : big q) : q.num.natAbs < 2 ^ bigN := h.1
theorem big.b {q : Rat} (h : big q) : (q.den : Int).natAbs < 2 ^ bigN := sz_int h
theorem big.mt {p q : Rat} (hp : big p) (hq : big q) : IntMulOk p.num q.den := mulokW hp.t hq.b
theorem big.mb {p q : Rat} (hp : big p) (hq : big q) : IntMulOk p.den q.den := mulokW hp.b hq.b
def pInitW (C B : Addr) : Pre := fun Rs w o w' => ∃ (q : Addr) (t b : Int), Rs = [rRef q, rInt t, rInt b] ∧ w = [(q, oIns C [])] ∧
  ((b ≠ 0 ∧ w' = [(q, oIns C [("top", rInt (Rat.divInt t b).num), ("bottom", rInt ((Rat.divInt t b).den : Int))])] ∧ o = .ok rNon) ∨ (b = 0 ∧ w' = [(q, oIns C [])] ∧ o = .error (erF B "n" (rInt 0))))
section
variable {P : Program} {w : World} {K : PySem.W.Frag} {mg : Str → Option Value} {base : Heap} {C B : Addr}
theorem kf_initW {f : Addr} {fd : FuncData} (Fn : Fun K "__init__" "Ratio.__init__" s_Ratio___init__ f fd) (X : RatX K mg C) (S : base.NoSeer) (ht : P.given.tree = none) (Tc : Kf1 P w K mg base "common" 1 pCommon) (Te : Ke P w K mg base B "BadNumber" "n" 1 prInt) :
    FnOk P w K mg base (L2.CX P w) 35 f fd P_Ratio___init__ (spM (pInitW C B)) := by
  refine fn_ok Fn c_Ratio___init__ (fun _ _ _ _ ⟨q, t, b, h, _⟩ => by rw [h]; rfl) ?_
  rintro cdv A outer s H E ⟨_, G0, H0, M, W, tk⟩ hr rfl Rs ω o ω' ⟨q, t, b, rfl, rfl, h⟩
  refine hb_if (tr_cmp (er_var 2 rfl) er_int bop_eqI) (fun hb => ?_) (fun hb => ?_)
  · have hb0 : b = 0 := by simpa using hb
    rcases h with ⟨h, _⟩ | ⟨_, rfl, rfl⟩
    · exact absurd hb0 h
    · exact hb_err Te (hr.mono (by decide)) (ar_cons er_int ar_nil) ⟨_, [], rfl, fun _ _ _ h => h, rfl⟩ fun v G h => ⟨0, h, by decide⟩
  · have hb0 : b ≠ 0 := by simpa using hb
    rcases h with ⟨_, rfl, rfl⟩ | ⟨h, _⟩
    · refine hb_nil ?_
      refine hb_set 3 (er_fn0 Tc (hr.mono (by decide)) (ar_cons (er_var 1 rfl) (ar_cons (er_var 2 rfl) ar_nil)) (pok (t, b) trivial)) ?_ c_Ratio___init__.nd
      have go : ∀ {d : Int}, d = dvs t b → HB ⟨_, G0, H0, M, W, tk⟩ [some (rRef q), some (rInt t), some (rInt b), some (rInt d)] [(q, oIns C [])] ((defBody s_Ratio___init__).drop 3) (Kf (.ok rNon) [(q, oIns C [("top", rInt (Rat.divInt t b).num), ("bottom", rInt ((Rat.divInt t b).den : Int))])]) := fun {d} hd => by
        subst hd
        have hk : ∀ {F : Fx}, F.X = cxOf (L2.CX P w) P w K mg base N_Ratio___init__ "Ratio.__init__" (defScope s_Ratio___init__) f cdv A outer s H E → ∀ (i : Int) {ω : Ow}, Bop F ω (binaryOp .FloorDiv) (rInt i) (rInt (dvs t b)) (rInt (i.fdiv (dvs t b))) := fun {F} e i ω => bop_fdivP (by rw [e]; exact ⟨S, ht, rfl, rfl, rfl, hr.dp⟩) (dvs_ne hb0)
        refine hb_fld (w2 := []) (er_bin (er_var 1 rfl) (er_var 3 rfl) (hk rfl t)) (er_var 0 rfl) X.cx.cls X.nT ?_
        refine hb_fld (w2 := []) (er_bin (er_var 2 rfl) (er_var 3 rfl) (hk rfl b)) (er_var 0 rfl) X.cx.cls X.nB (hb_nil ?_) (hl := by show 1 < 1000; decide)
        refine ⟨rNon, [], rfl, fun _ => rfl, ?_⟩
        rw [dvs_top hb0, dvs_bot hb0]
        rfl
      refine hb_if (tr_cmp (er_var 2 rfl) er_int bop_lt) (fun hn => ?_) (fun hn => ?_)
      · have hn0 : b < 0 := by simpa using hn
        exact hb_set 3 (er_un (er_var 3 rfl) uop_neg) (hb_nil (go (by unfold dvs; rw [if_pos hn0]))) c_Ratio___init__.nd
      · have hn0 : ¬ b < 0 := by simpa using hn
        exact hb_nil (go (by unfold dvs; rw [if_neg hn0]))
    · exact absurd h hb0
end
section
variable {F : Fx} {ρ : Ty} {ω w w1 w2 : Ow} {e o a b : Expr} {C B : Addr} {pos p : Pos} {t u : Int} {q : Rat}
theorem er_ratioW (T : Kc F.X.prog F.X.w F.X.K F.X.mg F.X.base C "Ratio" 35 (pInitW C B)) (hr : Room 36 F.X.A) (ha : AR F ρ ω [a, b] [rInt t, rInt u] w) (hq : Rat.divInt t u = q) (h0 : u ≠ 0) (hg : Gl F.X "Ratio" := by rfl)
    (he : starEach [a, b] F.X.env = (false, eval a F.X.env) :: starEach [b] F.X.env := by rfl) (hpl : (backTo pos (starEach [b] F.X.env)).any (·.1) = false := by rfl) :
    ER F ρ ω (.Call (.Name "Ratio" p) [a, b] [] pos) (rRat C q) w := by
  subst hq
  exact er_c T hr ha (fun q => ⟨q, t, u, rfl, rfl, .inl ⟨h0, rfl, rfl⟩⟩) hg (by decide) he hpl
theorem ex_ratioW (T : Kc F.X.prog F.X.w F.X.K F.X.mg F.X.base C "Ratio" 35 (pInitW C B)) (hr : Room 36 F.X.A) (ha : AR F ρ ω [a, b] [rInt t, rInt u] w) (h0 : u = 0) (hg : Gl F.X "Ratio" := by rfl)
    (he : starEach [a, b] F.X.env = (false, eval a F.X.env) :: starEach [b] F.X.env := by rfl) (hpl : (backTo pos (starEach [b] F.X.env)).any (·.1) = false := by rfl) :
    EX F ρ ω (.Call (.Name "Ratio" p) [a, b] [] pos) (erF B "n" (rInt 0)) w :=
  ex_c T hr ha (fun q => ⟨_, q, t, u, rfl, rfl, .inr ⟨h0, rfl, rfl⟩⟩) erF_mo hg (by decide) he hpl
end
def p2W (C : Addr) (f : Rat → Rat → Rl) : Pre := pOk (α := Rat × Rat) (fun a => big a.1 ∧ big a.2) (fun a => [rRat C a.1, rRat C a.2]) (fun a => f a.1 a.2)
def pAddW (C : Addr) : Pre := p2W C fun p q => rRat C (p + q)
def pSubW (C : Addr) : Pre := p2W C fun p q => rRat C (p - q)
def pMulW (C : Addr) : Pre := p2W C fun p q => rRat C (p * q)
def pNegW (C : Addr) : Pre := pOk (α := Rat) big (fun a => [rRat C a]) (fun a => rRat C (-a))
def pQuoW (C B : Addr) : Pre := pOr (pOk (α := Rat × Rat) (fun a => big a.1 ∧ big a.2 ∧ a.2.num ≠ 0) (fun a => [rRat C a.1, rRat C a.2]) (fun a => rRat C (a.1 / a.2)))
  (pEr (α := Rat × Rat) (fun a => big a.1 ∧ big a.2 ∧ a.2.num = 0) (fun a => [rRat C a.1, rRat C a.2]) (fun a => erF B "n" (rInt 0)))
section
variable {P : Program} {w : World} {K : PySem.W.Frag} {mg : Str → Option Value} {base : Heap} {C B f : Addr} {fd : FuncData}
theorem kf_addW (Fn : Fun K "__add__" "Ratio.__add__" s_Ratio___add__ f fd) (X : RatX K mg C) (T : Kc P w K mg base C "Ratio" 35 (pInitW C B)) : FnOk P w K mg base (L2.CX P w) 37 f fd P_Ratio___add__ (spM (pAddW C)) := by
  refine fn_ok Fn c_Ratio___add__ (fun _ _ _ _ ⟨_, _, h, _⟩ => by rw [h]; rfl) ?_
  rintro cdv A outer s H E ⟨_, G0, H0, M, W, tk⟩ hr rfl Rs ω o ω' ⟨⟨p, q⟩, ⟨hp, hq⟩, rfl, rfl, rfl, rfl⟩
  refine hb_ret (er_ratioW T hr (ar_cons (er_bin (er_bin (er_top X (er_var 0 rfl)) (er_bot X (er_var 1 rfl)) (bop_mul (hp.mt hq))) (er_bin (er_top X (er_var 1 rfl)) (er_bot X (er_var 0 rfl)) (bop_mul (hq.mt hp))) bop_add)
    (ar_cons (er_bin (er_bot X (er_var 0 rfl)) (er_bot X (er_var 1 rfl)) (bop_mul (hp.mb hq))) ar_nil)) (divInt_add p q) (Int.mul_ne_zero den_ne den_ne)) ⟨_, [], rfl, fun _ _ h => h, rfl⟩
theorem kf_subW (Fn : Fun K "__sub__" "Ratio.__sub__" s_Ratio___sub__ f fd) (X : RatX K mg C) (T : Kc P w K mg base C "Ratio" 35 (pInitW C B)) : FnOk P w K mg base (L2.CX P w) 37 f fd P_Ratio___sub__ (spM (pSubW C)) := by
  refine fn_ok Fn c_Ratio___sub__ (fun _ _ _ _ ⟨_, _, h, _⟩ => by rw [h]; rfl) ?_
  rintro cdv A outer s H E ⟨_, G0, H0, M, W, tk⟩ hr rfl Rs ω o ω' ⟨⟨p, q⟩, ⟨hp, hq⟩, rfl, rfl, rfl, rfl⟩
  refine hb_ret (er_ratioW T hr (ar_cons (er_bin (er_bin (er_top X (er_var 0 rfl)) (er_bot X (er_var 1 rfl)) (bop_mul (hp.mt hq))) (er_bin (er_top X (er_var 1 rfl)) (er_bot X (er_var 0 rfl)) (bop_mul (hq.mt hp))) bop_sub)
    (ar_cons (er_bin (er_bot X (er_var 0 rfl)) (er_bot X (er_var 1 rfl)) (bop_mul (hp.mb hq))) ar_nil)) (divInt_sub p q) (Int.mul_ne_zero den_ne den_ne)) ⟨_, [], rfl, fun _ _ h => h, rfl⟩
theorem kf_mulW (Fn : Fun K "__mul__" "Ratio.__mul__" s_Ratio___mul__ f fd) (X : RatX K mg C) (T : Kc P w K mg base C "Ratio" 35 (pInitW C B)) : FnOk P w K mg base (L2.CX P w) 37 f fd P_Ratio___mul__ (spM (pMulW C)) := by
  refine fn_ok Fn c_Ratio___mul__ (fun _ _ _ _ ⟨_, _, h, _⟩ => by rw [h]; rfl) ?_
  rintro cdv A outer s H E ⟨_, G0, H0, M, W, tk⟩ hr rfl Rs ω o ω' ⟨⟨p, q⟩, ⟨hp, hq⟩, rfl, rfl, rfl, rfl⟩
  refine hb_ret (er_ratioW T hr (ar_cons (er_bin (er_top X (er_var 0 rfl)) (er_top X (er_var 1 rfl)) (bop_mul (mulokW hp.t hq.t)))
    (ar_cons (er_bin (er_bot X (er_var 0 rfl)) (er_bot X (er_var 1 rfl)) (bop_mul (hp.mb hq))) ar_nil)) (divInt_mul p q) (Int.mul_ne_zero den_ne den_ne)) ⟨_, [], rfl, fun _ _ h => h, rfl⟩
theorem kf_negW (Fn : Fun K "__neg__" "Ratio.__neg__" s_Ratio___neg__ f fd) (X : RatX K mg C) (T : Kc P w K mg base C "Ratio" 35 (pInitW C B)) : FnOk P w K mg base (L2.CX P w) 37 f fd P_Ratio___neg__ (spM (pNegW C)) := by
  refine fn_ok Fn c_Ratio___neg__ (fun _ _ _ _ ⟨_, _, h, _⟩ => by rw [h]; rfl) ?_
  rintro cdv A outer s H E ⟨_, G0, H0, M, W, tk⟩ hr rfl Rs ω o ω' ⟨p, hp, rfl, rfl, rfl, rfl⟩
  exact hb_ret (er_ratioW T hr (ar_cons (er_un (er_top X (er_var 0 rfl)) uop_neg) (ar_cons (er_bot X (er_var 0 rfl)) ar_nil)) (divInt_neg p) den_ne) ⟨_, [], rfl, fun _ _ h => h, rfl⟩
theorem kf_wholeW (Fn : Fun K "whole" "Ratio.whole" s_Ratio_whole f fd) (X : RatX K mg C) (T : Kc P w K mg base C "Ratio" 35 (pInitW C B)) : FnOk P w K mg base (L2.CX P w) 37 f fd P_Ratio_whole (spM (pWhole C)) := by
  refine fn_ok Fn c_Ratio_whole (fun _ _ _ _ ⟨_, _, h, _⟩ => by rw [h]; rfl) ?_
  rintro cdv A outer s H E ⟨_, G0, H0, M, W, tk⟩ hr rfl Rs ω o ω' ⟨n, -, rfl, rfl, rfl, rfl⟩
  exact hb_ret (er_ratioW T hr (ar_cons (er_var 1 rfl) (ar_cons er_int ar_nil)) (divInt_int n) (by decide)) ⟨_, [], rfl, fun _ _ h => h, rfl⟩
theorem kf_quoW (Fn : Fun K "quotient" "Ratio.quotient" s_Ratio_quotient f fd) (X : RatX K mg C) (T : Kc P w K mg base C "Ratio" 35 (pInitW C B)) : FnOk P w K mg base (L2.CX P w) 37 f fd P_Ratio_quotient (spM (pQuoW C B)) := by
  refine fn_ok Fn c_Ratio_quotient (fun _ _ _ _ h => by rcases h with ⟨_, _, h, _⟩ | ⟨_, _, h, _⟩ <;> rw [h] <;> rfl) ?_
  rintro cdv A outer s H E ⟨_, G0, H0, M, W, tk⟩ hr rfl Rs ω o ω' (⟨⟨p, q⟩, ⟨hp, hq, h0⟩, rfl, rfl, rfl, rfl⟩ | ⟨⟨p, q⟩, ⟨hp, hq, h0⟩, rfl, rfl, rfl, rfl⟩)
  · refine hb_ret (er_ratioW T hr (ar_cons (er_bin (er_top X (er_var 0 rfl)) (er_bot X (er_var 1 rfl)) (bop_mul (hp.mt hq)))
      (ar_cons (er_bin (er_bot X (er_var 0 rfl)) (er_top X (er_var 1 rfl)) (bop_mul (mulokW hp.b hq.t))) ar_nil)) (divInt_quo p q) (Int.mul_ne_zero den_ne h0)) ⟨_, [], rfl, fun _ _ h => h, rfl⟩
  · refine hb_retX (ex_ratioW T hr (ar_cons (er_bin (er_top X (er_var 0 rfl)) (er_bot X (er_var 1 rfl)) (bop_mul (hp.mt hq)))
      (ar_cons (er_bin (er_bot X (er_var 0 rfl)) (er_top X (er_var 1 rfl)) (bop_mul (mulokW hp.b hq.t))) ar_nil)) ?_) ⟨_, [], rfl, fun _ _ _ h => h, rfl⟩
    show (p.den : Int) * q.num = 0
    rw [show q.num = 0 from h0, Int.mul_zero]
end
def pTotalW (C : Addr) : Pre := pOk (α := Bool × List Rat) (fun a => (∀ q ∈ a.2, big q) ∧ ∀ k, big (sumR (a.2.take k))) (fun a => [rSeq a.1 (a.2.map (rRat C))]) (fun a => rRat C (sumR a.2))
section
variable {C B : Addr} {p q : Rat}
theorem pAddOkW (hp : big p) (hq : big q) : pAddW C [rRat C p, rRat C q] [] (.ok (rRat C (p + q))) [] := ⟨(p, q), ⟨hp, hq⟩, rfl, rfl, rfl, rfl⟩
theorem pSubOkW (hp : big p) (hq : big q) : pSubW C [rRat C p, rRat C q] [] (.ok (rRat C (p - q))) [] := ⟨(p, q), ⟨hp, hq⟩, rfl, rfl, rfl, rfl⟩
theorem pMulOkW (hp : big p) (hq : big q) : pMulW C [rRat C p, rRat C q] [] (.ok (rRat C (p * q))) [] := ⟨(p, q), ⟨hp, hq⟩, rfl, rfl, rfl, rfl⟩
theorem pNegOkW (hp : big p) : pNegW C [rRat C p] [] (.ok (rRat C (-p))) [] := ⟨p, hp, rfl, rfl, rfl, rfl⟩
theorem pQuoOkW (hp : big p) (hq : big q) (h : q.num ≠ 0) : pQuoW C B [rRat C p, rRat C q] [] (.ok (rRat C (p / q))) [] := .inl ⟨(p, q), ⟨hp, hq, h⟩, rfl, rfl, rfl, rfl⟩
theorem pTotalOkW {b : Bool} {qs : List Rat} (h1 : ∀ q ∈ qs, big q) (h2 : ∀ k, big (sumR (qs.take k))) : pTotalW C [rSeq b (qs.map (rRat C))] [] (.ok (rRat C (sumR qs))) [] := ⟨(b, qs), ⟨h1, h2⟩, rfl, rfl, rfl, rfl⟩
end
section
variable {P : Program} {w : World} {K : PySem.W.Frag} {mg : Str → Option Value} {base : Heap} {C B f : Addr} {fd : FuncData}
theorem kf_totalW (Fn : Fun K "total" "total" s_total f fd) (X : RatX K mg C) (Tw : Kcm P w K mg base C "whole" 37 (pWhole C)) (Ta : Ko P w K mg base C "__add__" 37 (pAddW C)) : FnOk P w K mg base (L2.CX P w) 39 f fd P_total (spM (pTotalW C)) := by
  refine fn_ok Fn c_total (fun _ _ _ _ ⟨_, _, h, _⟩ => by rw [h]; rfl) ?_
  rintro cdv A outer s H E ⟨_, G0, H0, M, W, tk⟩ hr rfl Rs ω o ω' ⟨⟨b, qs⟩, ⟨h1, h2⟩, rfl, rfl, rfl, rfl⟩
  refine hb_set 1 (er_cm Tw (hr.mono (by decide)) (er_glob rfl X.gC rfl) (ar_cons er_int ar_nil) (pok (0 : Int) trivial)) ?_ c_total.nd
  refine hb_for (it_Rq (er_var 0 rfl)) (fun k ρ ω => ω = [] ∧ ∃ z, ρ = [some (rSeq b (qs.map (rRat C))), some (rRat C (sumR (qs.take k))), z]) ⟨rfl, none, ?_⟩ ?_ ?_ (passes_of rfl) (pg_name (i := 2) c_total.nd rfl (Or.inl rfl))
  · rfl
  · rintro k ρ ω S hS ⟨rfl, z, rfl⟩
    obtain ⟨q, hq, rfl⟩ := map_get hS
    refine ⟨_, ge_name, ?_⟩
    refine hb_set 1 (er_bin (er_var 1 rfl) (er_var 2 rfl) (bop_o Ta X.cx (hr.mono (by decide)) (pAddOkW (h2 k) (h1 q (mem_get hq))))) (hb_nil ?_) c_total.nd
    refine ⟨rfl, some (rRat C q), ?_⟩
    unfold sumR
    rw [fold_take _ _ _ _ _ hq]
    rfl
  · rintro ρ ω ⟨rfl, z, rfl⟩
    refine hb_ret (er_var 1 rfl) ⟨_, [], rfl, fun v G h => ?_, rfl⟩
    rw [List.length_map, List.take_length] at h
    exact h
end
end W1
set_option maxRecDepth 100000
set_option maxHeartbeats 2000000
/-! ### t[::-1] of a tuple; bool(t) -/
namespace W1T
open PySem PySem.Spec PyProof.Rows
section
variable {prog : Program} {w : World} {A : Around} {E : Value → Shared → Prop} {s : Shared}
theorem back_ends {n : Nat} : Builtin.Slice.sliceAdjust none none (-1) (n : Int) = ((n : Int) - 1, -1) := by
  simp [Builtin.Slice.sliceAdjust]
theorem back_many {n : Nat} : Builtin.Slice.slicePlaces ((n : Int) - 1) (-1) (-1) = n := by
  have h : ¬ ((-1 : Int) > 0) := by decide
  simp only [Builtin.Slice.slicePlaces, h, if_false]
  split
  · have : ((n : Int) - 1 - -1 - 1) / - -1 + 1 = (n : Int) := by
      have : (- -1 : Int) = 1 := by decide
      rw [this, Int.ediv_one]
      omega
    rw [this]
    omega
  · omega
theorem back_pick (xs : List Value) : (List.range xs.length).filterMap (fun (k : Nat) => xs.toArray[((xs.length : Int) - 1 + (k : Int) * -1).toNat]?) = xs.reverse := by
  have e : ∀ k ∈ List.range xs.length, xs.toArray[((xs.length : Int) - 1 + (k : Int) * -1).toNat]? = some (xs.reverse.getD k .none) := fun k hk => by
    have hl := List.mem_range.mp hk
    rw [show ((xs.length : Int) - 1 + (k : Int) * -1).toNat = xs.length - 1 - k by omega, List.getElem?_toArray]
    rw [List.getD_eq_getElem?_getD, List.getElem?_reverse hl, List.getElem?_eq_getElem (by omega)]
    rfl
  have key : ∀ (l : List Nat) (f : Nat → Option Value) (g : Nat → Value), (∀ k ∈ l, f k = some (g k)) → l.filterMap f = l.map g := fun l f g h => by
    induction l with
    | nil => rfl
    | cons a t ih => rw [List.filterMap_cons, h a List.mem_cons_self, List.map_cons, ih fun k hk => h k (List.mem_cons_of_mem _ hk)]
  rw [key _ _ (fun k => xs.reverse.getD k .none) e]
  refine List.ext_getElem? fun i => ?_
  rw [List.getElem?_map]
  by_cases hi : i < xs.length
  · rw [List.getElem?_range hi, List.getElem?_eq_getElem (by rw [List.length_reverse]; exact hi)]
    show some (xs.reverse.getD i .none) = _
    rw [List.getD_eq_getElem?_getD, List.getElem?_eq_getElem (by rw [List.length_reverse]; exact hi)]
    rfl
  · rw [List.getElem?_eq_none (by rw [List.length_range]; omega), List.getElem?_eq_none (by rw [List.length_reverse]; omega)]
    rfl
theorem back_slice {a : Addr} {n : Nat} {t : Tok} {Q : Int × Int × Nat → Shared → Prop} (hs : s.heap.IsSliceOf a .none .none (.int (-1) t)) (h : Q ((n : Int) - 1, -1, n) s) :
    wpAny (model prog w) A (Builtin.Slice.sliceApplied (.ref a) (pure (n : Int))) Q E s := by
  obtain ⟨o, ho, hc, hd⟩ := id hs
  have f : ∀ {i : Nat} {v : Value} {R : Value → Shared → Prop}, (#[Value.none, .none, .int (-1) t] : Array Value)[i]? = some v → R v s → wpAny (model prog w) A (field (.ref a) i) R E s := fun {i v R} e q => wpAny_field ho hd e q
  unfold Builtin.Slice.sliceApplied
  refine wpAny_bind (m := Builtin.Slice.sliceFields (.ref a)) ?_
  unfold Builtin.Slice.sliceFields
  refine wpAny_bind (f rfl (wpAny_bind (f rfl (wpAny_bind (f rfl (wpAny_pure ?_))))))
  refine wpAny_bind (slicePart_int (i := -1) ?_)
  rw [if_neg (show ¬ (((some (-1 : Int)).getD 1 == 0) = true) by decide)]
  refine wpAny_bind (slicePart_none (wpAny_bind (slicePart_none (wpAny_bind (wpAny_pure ?_)))))
  show wpAny _ _ (match Builtin.Slice.sliceAdjust none none (-1) (n : Int) with | (lo, hi) => pure (lo, (-1 : Int), Builtin.Slice.slicePlaces lo hi (-1))) _ _ s
  rw [back_ends]
  show wpAny _ _ (pure ((n : Int) - 1, (-1 : Int), Builtin.Slice.slicePlaces ((n : Int) - 1) (-1) (-1))) _ _ s
  rw [back_many]
  exact wpAny_pure h
theorem back_item {a b : Addr} {xs : List Value} {t : Tok} {Q : Value → Shared → Prop} (ht : IsTup s.heap a xs.toArray) (hs : s.heap.IsSliceOf b .none .none (.int (-1) t)) (hz : xs.length ≤ sizeLine)
    (h : Q (.ref s.heap.objs.size) { s with heap := s.heap.push { cls := .type "tuple", data := .seq xs.reverse.toArray } }) : wpAny (model prog w) A (getItem (.ref a) (.ref b)) Q E s := by
  have ok : sizeOk (.seq xs.reverse.toArray) := by
    show xs.reverse.toArray.size ≤ sizeLine
    rw [List.size_toArray, List.length_reverse]
    exact hz
  obtain ⟨o, ho, hc, hd⟩ := id hs
  unfold getItem
  try with_reducible refine wpAny_holding ?_
  first | refine wpAny_bind (wpAny_pure ?_) | skip
  refine wpAny_bind (wpAny_sequenceKey ht.typeIs (by decide) (wpAny_bind (wpAny_callSpecial?_slot (name := Str.ofString "__getitem__") ht.typeIs slot_tuple_getitem (wpAny_call_entry slot_tuple_getitem ht.typeIs entry_tuple_getitem ?_ (args_tuple_getitem _ _)))))
  show wpAny _ _ (Builtin.Tuple.tupleItemsOf (.ref a) >>= _) _ _ s
  refine wpAny_bind (tupleItemsOf_ ht (wpAny_bind (wpAny_typeOf (T := "slice") ⟨o, ho, hc⟩ ?_)))
  rw [if_pos (by decide)]
  have sz : xs.toArray.size = xs.length := List.size_toArray
  rw [sz]
  refine wpAny_bind (back_slice hs ?_)
  show wpAny _ _ (if (((xs.length : Int) - 1 == 0 && (-1 : Int) == 1 && xs.length == xs.length) = true) then _ else _) _ _ s
  rw [if_neg (by simp), back_pick]
  first
    | exact wpAny_bind (m := Builtin.Tuple.tupleExact _) (wpAny_newObj_type (wpAny_pure ⟨_, rfl, wpAny_pure h⟩) ok)
    | exact wpAny_bind (m := Builtin.Tuple.tupleExact _) (wpAny_newObj_type (wpAny_bind (wpAny_pure (wpAny_pure ⟨_, rfl, wpAny_pure h⟩))) ok)
    | exact wpAny_bind (wpAny_bind (m := Builtin.Tuple.tupleExact _) (wpAny_newObj_type (wpAny_pure (wpAny_pure ⟨_, rfl, wpAny_pure h⟩)) ok))
    | exact wpAny_bind (wpAny_bind (m := Builtin.Tuple.tupleExact _) (wpAny_newObj_type (wpAny_pure ⟨_, rfl, wpAny_pure h⟩) ok))
theorem bool_tup (a : Addr) (items : Array Value) (hz : (items.size : Int) < 2 ^ 63) :
    Meets (Builtin.«bool.__new__» ⟨[.type "bool", .ref a], []⟩) (fun _ R s => IsTup s.heap a items ∧ R (.ok (.ret (.bool (!items.isEmpty)))) { s with toks := s.toks + 1 + 1 }) :=
  Meets.of_wp fun prog w A R s hs => by
    obtain ⟨ht, hR⟩ := hs
    obtain ⟨hp, g, d, tk, os⟩ := s
    have f1 := F.conv_sub_bool
    repeat (any_goals (first | assumption | (with_reducible refine truthy_tuple ht hz ?_) | wp_step))
    all_goals first | exact ⟨_, rfl, hR⟩ | exact hR | skip
end
end W1T
namespace W1
open PySem PySem.Spec PyProof.Rows L2 NdefX
theorem call_boolT {X : Cx} : CallR X (.type "bool") (fun xs H Q => ∃ (a : Addr) (zs : List V), xs = [.ref a] ∧ SqT X.K H a zs ∧ Q (.bl (!zs.isEmpty)) H) := by
  intro pins s σ H xs us Q I r h
  rcases h with ⟨a, zs, e1, hq, q⟩
  subst e1
  obtain rfl := Vals.ref1 r
  obtain ⟨its, rv, tu, hz⟩ := I.tuple hq
  have hl := line63
  have hlen := rv.length
  refine call_bool_1 (W1T.bool_tup a its.toArray (by simp only [List.size_toArray]; omega)) ⟨tu, rfl, ?_⟩
  exact ⟨V.bl (!zs.isEmpty), H, Inv.tok I _, by rw [isEmpty_of rv]; rfl, q⟩
theorem cop_boolT {F : Fx} {w : Ow} {Rs : List Rl} : Cop F w (.type "bool") [rTup Rs] (rBool (!decide (Rs = []))) := ⟨_, call_boolT, fun xs G H at_ hx Q q => by
  obtain ⟨x, rfl, p, vs, rfl, h1, h2⟩ := all1 hx
  refine ⟨p, vs, rfl, SqT.of (at_.gh _ _ h1), q _ G H (Same.refl _) at_ ?_⟩
  have l := h2.len
  show V.bl (!vs.isEmpty) = V.bl (!decide (Rs = []))
  cases Rs with
  | nil =>
    cases vs with
    | nil => rfl
    | cons a b => simp at l
  | cons R Rs =>
    cases vs with
    | nil => simp at l
    | cons a b => rfl⟩
def tRevT (K : PySem.W.Frag) (te : TE) : TE := fun σ H Q => te σ H fun x H1 => ∃ a xs, x = .ref a ∧ SqT K H1 a xs ∧ ∀ p, H1 p = none → Q (.ref p) (upd H1 p (.tup xs.reverse))
theorem pe_revT {X : Cx} {e : Expr} {te : TE} {k : Nat} {p1 p2 p3 pos : Pos} (he : PE X e te) : PE X (.Subscript e (.Slice none none (some (.UnaryOp .USub (.Constant (.int 1) k p1) p2)) p3) pos) (tRevT X.K te) := by
  constructor
  intro pins s σ H Q I h
  refine Subscript_ (thn (he.run pins s σ H _ I h) fun v s1 ⟨x, H1, I1, r1, q1⟩ => ?_)
  rcases q1 with ⟨a, xs, ex, hx, q⟩
  subst ex
  cases (show v = Value.ref a from r1)
  have st : PO X (some (.UnaryOp .USub (.Constant (.int 1) k p1) p2)) (tPart (tUn (rU fun i => .int (-i)) (tC (.int 1)))) := po_some (pe_un un_neg pe_int)
  refine wpAny_Slice (thn (po_none.run pins s1 σ H1 (fun o H2 => o = none ∧ H2 = H1) I1 ⟨rfl, rfl⟩) fun v1 s2 ⟨l, H2, I2, z1, y1, y2⟩ => thn (po_none.run pins s2 σ H2 (fun o H3 => o = none ∧ H3 = H2) I2 ⟨rfl, rfl⟩) fun v2 s3 ⟨u, H3, I3, z2, y3, y4⟩ => thn (st.run pins s3 σ H3 (fun o H4 => o = some (-1) ∧ H4 = H3) I3 ⟨1, rfl, -1, rfl, rfl, rfl⟩) fun v3 s4 ⟨o, H4, I4, z3, y5, y6⟩ => ?_)
  subst y1 y2 y3 y4 y5 y6
  cases z1
  cases z2
  obtain ⟨t, rfl⟩ : ∃ t, v3 = .int (-1) t := by
    cases z3
    exact ⟨_, rfl⟩
  have I5 : Inv X pins σ H4 { s4 with heap := s4.heap.push { cls := .type "slice", data := .fields #[.none, .none, .int (-1) t] } } := I4.kept (t' := s4.toks) fun b ob q => Heap.get?_push_of_some _ q
  obtain ⟨its, r, tu, hz⟩ := I5.tuple hx
  have hlen := r.length
  show wpAny (model X.prog X.w) X.A (subscriptTail e (.Slice none none (some (.UnaryOp .USub (.Constant (.int 1) k p1) p2)) p3) (.ref a) (.ref s4.heap.objs.size)) (EP X pins σ Q) X.xe { s4 with heap := s4.heap.push { cls := .type "slice", data := .fields #[.none, .none, .int (-1) t] } }
  refine tail_any (ops := [.ref a, .ref s4.heap.objs.size]) tu.typeIs slot_tuple_getitem.lookup (W1T.back_item tu (Heap.IsSliceOf.new _ _ _ _) (by omega) ?_) (by with_unfolding_all rfl)
  refine ⟨.ref _, _, I5.laid (t' := s4.toks) (o := .tup xs.reverse) (fun b ob q => Heap.get?_push_of_some _ q) (Nat.le_refl _) ?_, rfl, q _ (I5.hok.fresh (Nat.le_refl _))⟩
  exact ⟨by rw [List.length_reverse]; exact hz, _, r.reverse, IsTup.new _ _⟩
theorem er_revT {F : Fx} {ρ : Ty} {ω w1 : Ow} {o : Expr} {Rs : List Rl} {k : Nat} {p1 p2 p3 pos : Pos} (ho : ER F ρ ω o (rTup Rs) w1) : ER F ρ ω (.Subscript o (.Slice none none (some (.UnaryOp .USub (.Constant (.int 1) k p1) p2)) p3) pos) (rTup Rs.reverse) w1 := fun σ G H at_ sl Q q => by
  refine ew_of (pe_revT pe_w) (ho σ G H at_ sl _ fun x G1 H1 s1 a1 r1 => ?_)
  obtain ⟨p, vs, rfl, h1, h2⟩ := r1
  refine ⟨p, vs, rfl, SqT.of (a1.gh _ _ h1), fun l hl => ?_⟩
  have st := Step.new (o := .tup vs.reverse) a1.gh hl
  exact q _ _ _ (s1.trans st.gg) (a1.step st) ⟨l, _, rfl, upd_same, h2.rev.up st.gg⟩
theorem copN_listT {F : Fx} {w : Ow} {Rs : List Rl} : CopN F w (.type "list") [rTup Rs] (oL Rs) := ⟨_, call_list_of, fun xs G H at_ hx Q q => by
  obtain ⟨x, rfl, p, vs, rfl, h1, h2⟩ := all1 hx
  exact ⟨p, vs, rfl, .inr (SqT.of (at_.gh _ _ h1)), fun l hl => q l _ _ (fun hm => at_.mm l hm hl) (Same.refl _) (at_.own hl ⟨_, rfl, h2⟩)⟩⟩
end W1
set_option maxRecDepth 100000
set_option maxHeartbeats 1000000
namespace W1
/-! ### polynomials as lists of coefficients -/
def trimQ (xs : List Rat) : List Rat := (xs.reverse.dropWhile fun q => decide (q = 0)).reverse
theorem trim_zero (xs : List Rat) : trimQ (xs ++ [0]) = trimQ xs := by
  unfold trimQ
  rw [List.reverse_append]
  show ((0 :: xs.reverse).dropWhile _).reverse = _
  rw [List.dropWhile_cons, if_pos (decide_eq_true rfl)]
theorem trim_last {q : Rat} (h : q ≠ 0) (xs : List Rat) : trimQ (xs ++ [q]) = xs ++ [q] := by
  unfold trimQ
  rw [List.reverse_append]
  show ((q :: xs.reverse).dropWhile _).reverse = _
  rw [List.dropWhile_cons, if_neg (by simpa using h), List.reverse_cons, List.reverse_reverse]
def co (xs : List Rat) (k : Nat) : Rat := xs.getD k 0
theorem co_out {xs : List Rat} {k : Nat} (h : xs.length ≤ k) : co xs k = 0 := by
  unfold co
  rw [List.getD_eq_getElem?_getD, List.getElem?_eq_none h]
  rfl
theorem co_in {xs : List Rat} {k : Nat} (h : k < xs.length) : xs[k]? = some (co xs k) := by
  unfold co
  rw [List.getD_eq_getElem?_getD, List.getElem?_eq_getElem h]
  rfl
theorem co_get {xs : List Rat} {k : Nat} {q : Rat} (h : xs[k]? = some q) : co xs k = q := by
  unfold co
  rw [List.getD_eq_getElem?_getD, h]
  rfl
theorem co_nil {k : Nat} : co [] k = 0 := co_out (Nat.zero_le _)
theorem co_app {xs ys : List Rat} {k : Nat} : co (xs ++ ys) k = if k < xs.length then co xs k else co ys (k - xs.length) := by
  unfold co
  rw [List.getD_eq_getElem?_getD]
  split
  · rename_i h
    rw [List.getElem?_append_left h, List.getD_eq_getElem?_getD]
  · rename_i h
    rw [List.getElem?_append_right (by omega), List.getD_eq_getElem?_getD]
theorem co_map {n k : Nat} {f : Nat → Rat} (h : n ≤ k → f k = 0) : co ((List.range n).map f) k = f k := by
  by_cases hk : k < n
  · refine co_get ?_
    rw [List.getElem?_map, List.getElem?_range hk]
    rfl
  · rw [co_out (by rw [List.length_map, List.length_range]; omega), h (by omega)]
theorem len_ind {p : List Rat → Prop} (h0 : p []) (h1 : ∀ ys q, p ys → p (ys ++ [q])) : ∀ xs, p xs := by
  have key : ∀ (n : Nat) (xs : List Rat), xs.length = n → p xs := by
    intro n
    induction n with
    | zero => intro xs h; rw [List.length_eq_zero_iff.mp h]; exact h0
    | succ n ih =>
      intro xs h
      rcases List.eq_nil_or_concat xs with rfl | ⟨ys, q, rfl⟩
      · exact h0
      · rw [List.concat_eq_append] at h ⊢
        refine h1 ys q (ih ys ?_)
        rw [List.length_append, List.length_singleton] at h
        omega
  exact fun xs => key _ xs rfl
theorem trim_co (xs : List Rat) : ∀ k, co (trimQ xs) k = co xs k := by
  refine len_ind (p := fun xs => ∀ k, co (trimQ xs) k = co xs k) (fun k => rfl) (fun ys q ih k => ?_) xs
  by_cases h : q = 0
  · subst h
    rw [trim_zero, ih, co_app]
    split
    · rfl
    · rename_i hk
      rw [co_out (by omega)]
      cases hz : k - ys.length with
      | zero => rfl
      | succ j => exact (co_out (by rw [List.length_singleton]; omega)).symm
  · rw [trim_last h]
theorem trim_le (xs : List Rat) : (trimQ xs).length ≤ xs.length := by
  refine len_ind (p := fun xs => (trimQ xs).length ≤ xs.length) (Nat.le_refl _) (fun ys q ih => ?_) xs
  by_cases h : q = 0
  · subst h
    rw [trim_zero, List.length_append]
    omega
  · rw [trim_last h]
    exact Nat.le_refl _
theorem trim_top (xs : List Rat) : trimQ xs ≠ [] → co xs ((trimQ xs).length - 1) ≠ 0 := by
  refine len_ind (p := fun xs => trimQ xs ≠ [] → co xs ((trimQ xs).length - 1) ≠ 0) (fun h => absurd rfl h) (fun ys q ih => ?_) xs
  by_cases h : q = 0
  · subst h
    rw [trim_zero]
    intro hn
    have l := trim_le ys
    have l1 : 0 < (trimQ ys).length := List.length_pos_iff.mpr hn
    rw [co_app, if_pos (by omega)]
    exact ih hn
  · rw [trim_last h]
    intro _
    rw [co_app, List.length_append, List.length_singleton, if_neg (by omega)]
    have : ys.length + 1 - 1 - ys.length = 0 := by omega
    rw [this]
    exact h
/-- no zeros at the end -/
def Can (xs : List Rat) : Prop := trimQ xs = xs
theorem can_top {xs : List Rat} (h : Can xs) (hn : xs ≠ []) : co xs (xs.length - 1) ≠ 0 := by
  have := trim_top xs
  rw [h] at this
  exact this hn
theorem co_ext {a b : List Rat} (ha : Can a) (hb : Can b) (h : ∀ k, co a k = co b k) : a = b := by
  have le : ∀ {a b : List Rat}, Can a → (∀ k, co a k = co b k) → a.length ≤ b.length := fun {a b} ha h => by
    refine Nat.le_of_not_lt fun hl => ?_
    have hn : a ≠ [] := fun z => by rw [z] at hl; exact Nat.not_lt_zero _ hl
    refine can_top ha hn ?_
    rw [h]
    exact co_out (by omega)
  have l1 := le ha h
  have l2 := le hb fun k => (h k).symm
  refine List.ext_getElem? fun k => ?_
  by_cases hk : k < a.length
  · rw [co_in hk, co_in (by omega), h]
  · rw [List.getElem?_eq_none (by omega), List.getElem?_eq_none (by omega)]
theorem can_trim (xs : List Rat) : Can (trimQ xs) := by
  unfold Can
  refine len_ind (p := fun xs => trimQ (trimQ xs) = trimQ xs) rfl (fun ys q ih => ?_) xs
  by_cases h : q = 0
  · subst h
    rw [trim_zero, ih]
  · rw [trim_last h, trim_last h]
theorem trim_congr {a b : List Rat} (h : ∀ k, co a k = co b k) : trimQ a = trimQ b := co_ext (can_trim a) (can_trim b) fun k => by rw [trim_co, trim_co, h]
theorem trim_short {xs : List Rat} {m : Nat} (h : ∀ k, m ≤ k → co xs k = 0) : (trimQ xs).length ≤ m := by
  refine Nat.le_of_not_lt fun hl => ?_
  have hn : trimQ xs ≠ [] := fun z => by rw [z] at hl; exact Nat.not_lt_zero _ hl
  exact trim_top xs hn (h _ (by omega))
/-! ### sums, differences, products -/
def plusL (a b : List Rat) : List Rat := (List.range (max a.length b.length)).map fun k => co a k + co b k
def minusL (a b : List Rat) : List Rat := (List.range (max a.length b.length)).map fun k => co a k - co b k
def oppL (a : List Rat) : List Rat := a.map fun q => -q
def prodL (a b : List Rat) (k : Nat) : List Rat := (List.range (min (k + 1) a.length)).map fun i => co a i * co b (k - i)
def mulL (a b : List Rat) : List Rat := (List.range (a.length + b.length)).map fun k => sumR (prodL a b k)
theorem add_co {a b : List Rat} {k : Nat} : co (plusL a b) k = co a k + co b k := co_map fun h => by rw [co_out (by omega), co_out (by omega), Rat.add_zero]
theorem sub_co {a b : List Rat} {k : Nat} : co (minusL a b) k = co a k - co b k := co_map fun h => by rw [co_out (by omega), co_out (by omega), Rat.sub_eq_add_neg, Rat.neg_zero, Rat.add_zero]
theorem neg_co {a : List Rat} {k : Nat} : co (oppL a) k = -co a k := by
  unfold oppL
  by_cases h : k < a.length
  · refine co_get ?_
    rw [List.getElem?_map, co_in h]
    rfl
  · rw [co_out (by rw [List.length_map]; omega), co_out (by omega), Rat.neg_zero]
/-- a sum of the first n -/
def sgN : Nat → (Nat → Rat) → Rat
  | 0, _ => 0
  | n + 1, f => sgN n f + f n
theorem sumR_snoc {l : List Rat} {q : Rat} : sumR (l ++ [q]) = sumR l + q := by
  unfold sumR
  rw [List.foldl_append]
  rfl
theorem sumR_N {n : Nat} {f : Nat → Rat} : sumR ((List.range n).map f) = sgN n f := by
  induction n with
  | zero => rfl
  | succ n ih => rw [List.range_succ, List.map_append, List.map_cons, List.map_nil, sumR_snoc, ih]; rfl
theorem sgN_congr {n : Nat} {f g : Nat → Rat} (h : ∀ i, i < n → f i = g i) : sgN n f = sgN n g := by
  induction n with
  | zero => rfl
  | succ n ih =>
    show sgN n f + f n = sgN n g + g n
    rw [ih fun i hi => h i (by omega), h n (by omega)]
theorem sgN_zero {n : Nat} {f : Nat → Rat} (h : ∀ i, i < n → f i = 0) : sgN n f = 0 := by
  induction n with
  | zero => rfl
  | succ n ih =>
    show sgN n f + f n = 0
    rw [ih fun i hi => h i (by omega), h n (by omega), Rat.add_zero]
theorem sgN_more {m n : Nat} {f : Nat → Rat} (hl : m ≤ n) (h : ∀ i, m ≤ i → i < n → f i = 0) : sgN n f = sgN m f := by
  induction n with
  | zero =>
    rw [Nat.le_zero.mp hl]
  | succ n ih =>
    by_cases e : m = n + 1
    · rw [e]
    · show sgN n f + f n = _
      rw [ih (by omega) fun i h1 h2 => h i h1 (by omega), h n (by omega) (by omega), Rat.add_zero]
theorem sgN_add {n : Nat} {f g : Nat → Rat} : sgN n (fun i => f i + g i) = sgN n f + sgN n g := by
  induction n with
  | zero => exact (Rat.add_zero 0).symm
  | succ n ih =>
    show sgN n (fun i => f i + g i) + (f n + g n) = (sgN n f + f n) + (sgN n g + g n)
    rw [ih, Rat.add_assoc, Rat.add_assoc, ← Rat.add_assoc (sgN n g), Rat.add_comm (sgN n g) (f n), Rat.add_assoc]
theorem sgN_front {n : Nat} {f : Nat → Rat} : sgN (n + 1) f = f 0 + sgN n fun i => f (i + 1) := by
  induction n with
  | zero =>
    show 0 + f 0 = f 0 + 0
    rw [Rat.zero_add, Rat.add_zero]
  | succ n ih =>
    show sgN (n + 1) f + f (n + 1) = f 0 + (sgN n (fun i => f (i + 1)) + f (n + 1))
    rw [ih, Rat.add_assoc]
theorem sgN_rev {n : Nat} : ∀ {f : Nat → Rat}, sgN (n + 1) f = sgN (n + 1) fun i => f (n - i) := by
  induction n with
  | zero => intro f; rfl
  | succ n ih =>
    intro f
    rw [sgN_front (n := n + 1) (f := fun i => f (n + 1 - i))]
    show sgN (n + 1) f + f (n + 1) = f (n + 1 - 0) + _
    rw [ih (f := f), Rat.add_comm]
    congr 1
    exact sgN_congr fun i hi => by
      show f (n - i) = f (n + 1 - (i + 1))
      congr 1
      omega
/-- the k-th coefficient of a product -/
def cv (f g : Nat → Rat) (k : Nat) : Rat := sgN (k + 1) fun i => f i * g (k - i)
theorem cv_comm {f g : Nat → Rat} {k : Nat} : cv f g k = cv g f k := by
  unfold cv
  rw [sgN_rev]
  refine sgN_congr fun i hi => ?_
  show f (k - i) * g (k - (k - i)) = g i * f (k - i)
  rw [show k - (k - i) = i by omega, Rat.mul_comm]
theorem cv_addl {f g h : Nat → Rat} {k : Nat} : cv (fun i => f i + g i) h k = cv f h k + cv g h k := by
  unfold cv
  rw [← sgN_add]
  exact sgN_congr fun i _ => Rat.add_mul _ _ _
theorem cv_congr {f f' g g' : Nat → Rat} {k : Nat} (h1 : ∀ i, f i = f' i) (h2 : ∀ i, g i = g' i) : cv f g k = cv f' g' k := sgN_congr fun i _ => by rw [h1, h2]
theorem prod_cv {a b : List Rat} {k : Nat} : sumR (prodL a b k) = cv (co a) (co b) k := by
  unfold prodL cv
  rw [sumR_N]
  exact (sgN_more (Nat.min_le_left _ _) fun i h1 h2 => by rw [co_out (xs := a) (by omega), Rat.zero_mul]).symm
theorem cv_out {a b : List Rat} {k : Nat} (h : a.length + b.length ≤ k) : cv (co a) (co b) k = 0 := sgN_zero fun i hi => by
  by_cases h1 : i < a.length
  · rw [co_out (xs := b) (by omega), Rat.mul_zero]
  · rw [co_out (xs := a) (by omega), Rat.zero_mul]
theorem mul_co {a b : List Rat} {k : Nat} : co (mulL a b) k = cv (co a) (co b) k := by
  rw [← prod_cv]
  exact co_map fun h => by rw [prod_cv, cv_out h]
end W1
set_option maxRecDepth 100000
set_option maxHeartbeats 1000000
namespace W1
/-! ### values -/
def ev : List Rat → Rat → Rat
  | [], _ => 0
  | c :: t, x => ev t x * x + c
theorem ev_snoc0 {xs : List Rat} {x : Rat} : ev (xs ++ [0]) x = ev xs x := by
  induction xs with
  | nil =>
    show 0 * x + 0 = 0
    rw [Rat.zero_mul, Rat.add_zero]
  | cons c t ih =>
    show ev (t ++ [0]) x * x + c = ev t x * x + c
    rw [ih]
theorem ev_trim (xs : List Rat) {x : Rat} : ev (trimQ xs) x = ev xs x := by
  refine len_ind (p := fun xs => ev (trimQ xs) x = ev xs x) rfl (fun ys q ih => ?_) xs
  by_cases h : q = 0
  · subst h
    rw [trim_zero, ih, ev_snoc0]
  · rw [trim_last h]
theorem ev_congr {a b : List Rat} {x : Rat} (h : ∀ k, co a k = co b k) : ev a x = ev b x := by
  rw [← ev_trim a, ← ev_trim b, trim_congr h]
theorem co_zero {c : Rat} {t : List Rat} : co (c :: t) 0 = c := rfl
theorem co_succ {c : Rat} {t : List Rat} {k : Nat} : co (c :: t) (k + 1) = co t k := rfl
def addS : List Rat → List Rat → List Rat
  | [], b => b
  | a, [] => a
  | c :: s, d :: t => (c + d) :: addS s t
theorem addS_co : ∀ {a b : List Rat} (k : Nat), co (addS a b) k = co a k + co b k
  | [], b, k => by
    rw [co_nil, Rat.zero_add]
    rfl
  | c :: s, [], k => by
    rw [co_nil, Rat.add_zero]
    rfl
  | c :: s, d :: t, 0 => rfl
  | c :: s, d :: t, k + 1 => addS_co (a := s) (b := t) k
theorem addS_ev : ∀ {a b : List Rat} {x : Rat}, ev (addS a b) x = ev a x + ev b x
  | [], b, x => by
    show ev b x = 0 + ev b x
    rw [Rat.zero_add]
  | c :: s, [], x => by
    show ev (c :: s) x = ev (c :: s) x + 0
    rw [Rat.add_zero]
  | c :: s, d :: t, x => by
    show ev (addS s t) x * x + (c + d) = (ev s x * x + c) + (ev t x * x + d)
    rw [addS_ev (a := s) (b := t), Rat.add_mul, Rat.add_assoc, Rat.add_assoc, ← Rat.add_assoc (ev t x * x) c d, Rat.add_comm (ev t x * x) c, Rat.add_assoc]
def scaleS (c : Rat) (b : List Rat) : List Rat := b.map (c * ·)
theorem scale_co {c : Rat} {b : List Rat} {k : Nat} : co (scaleS c b) k = c * co b k := by
  unfold scaleS
  by_cases h : k < b.length
  · refine co_get ?_
    rw [List.getElem?_map, co_in h]
    rfl
  · rw [co_out (by rw [List.length_map]; omega), co_out (by omega), Rat.mul_zero]
theorem scale_ev {c : Rat} {b : List Rat} {x : Rat} : ev (scaleS c b) x = c * ev b x := by
  induction b with
  | nil => exact (Rat.mul_zero c).symm
  | cons d t ih =>
    show ev (scaleS c t) x * x + c * d = c * (ev t x * x + d)
    rw [ih, Rat.mul_add, Rat.mul_assoc]
def mulS : List Rat → List Rat → List Rat
  | [], _ => []
  | c :: t, b => addS (scaleS c b) (0 :: mulS t b)
theorem cv_cons {c : Rat} {t b : List Rat} {k : Nat} : cv (co (c :: t)) (co b) (k + 1) = c * co b (k + 1) + cv (co t) (co b) k := by
  unfold cv
  rw [sgN_front]
  show c * co b (k + 1) + sgN (k + 1) (fun i => co t i * co b (k + 1 - (i + 1))) = _
  congr 1
  exact sgN_congr fun i hi => by rw [Nat.add_sub_add_right]
theorem mulS_co : ∀ {a b : List Rat} (k : Nat), co (mulS a b) k = cv (co a) (co b) k
  | [], b, k => by
    show co [] k = _
    rw [co_nil]
    exact (sgN_zero fun i hi => by rw [co_nil, Rat.zero_mul]).symm
  | c :: t, b, 0 => by
    show co (addS (scaleS c b) (0 :: mulS t b)) 0 = 0 + c * co b 0
    rw [addS_co, scale_co, co_zero, Rat.add_zero, Rat.zero_add]
  | c :: t, b, k + 1 => by
    show co (addS (scaleS c b) (0 :: mulS t b)) (k + 1) = _
    rw [addS_co, scale_co, co_succ, cv_cons, mulS_co (a := t) (b := b) k]
theorem mulS_ev : ∀ {a b : List Rat} {x : Rat}, ev (mulS a b) x = ev a x * ev b x
  | [], b, x => (Rat.zero_mul _).symm
  | c :: t, b, x => by
    show ev (addS (scaleS c b) (0 :: mulS t b)) x = (ev t x * x + c) * ev b x
    rw [addS_ev, scale_ev]
    show c * ev b x + (ev (mulS t b) x * x + 0) = _
    rw [mulS_ev (a := t) (b := b), Rat.add_zero, Rat.add_mul, Rat.add_comm, Rat.mul_assoc, Rat.mul_assoc, Rat.mul_comm (ev b x) x]
/-- (one * other + one)(x) -/
theorem both_ev {a b : List Rat} {x : Rat} : ev (trimQ (plusL (trimQ (mulL a b)) a)) x = ev a x * ev b x + ev a x := by
  rw [ev_trim, ← mulS_ev, ← addS_ev]
  refine ev_congr fun k => ?_
  rw [add_co, addS_co, trim_co, mul_co, mulS_co]
theorem mul_comm_T {a b : List Rat} : trimQ (mulL a b) = trimQ (mulL b a) := trim_congr fun k => by rw [mul_co, mul_co, cv_comm]
/-- Horner's fold -/
theorem ev_fold {xs : List Rat} {x : Rat} : xs.reverse.foldl (fun a c => a * x + c) 0 = ev xs x := by
  induction xs with
  | nil => rfl
  | cons c t ih =>
    rw [List.reverse_cons, List.foldl_append, ih]
    rfl
/-! ### division -/
def fac (r s : List Rat) : Rat := co r (r.length - 1) / co s (s.length - 1)
/-- f * x ^ d -/
def mono (d : Nat) (f : Rat) : List Rat := List.replicate d 0 ++ [f]
theorem mono_co {d : Nat} {f : Rat} {k : Nat} : co (mono d f) k = if k = d then f else 0 := by
  unfold mono
  rw [co_app, List.length_replicate]
  split
  · rename_i h
    rw [if_neg (by omega)]
    exact co_get (by rw [List.getElem?_replicate, if_pos h])
  · rename_i h
    split
    · rename_i e
      rw [e, Nat.sub_self]
      rfl
    · exact co_out (by rw [List.length_singleton]; omega)
theorem sgN_one {n d : Nat} {f : Nat → Rat} (hd : d < n) (h : ∀ i, i < n → i ≠ d → f i = 0) : sgN n f = f d := by
  rw [sgN_more (m := d + 1) (by omega) fun i h1 h2 => h i h2 (by omega)]
  show sgN d f + f d = f d
  rw [sgN_zero fun i hi => h i (by omega) (by omega), Rat.zero_add]
theorem cv_mono {d : Nat} {f : Rat} {s : List Rat} {k : Nat} : cv (co (mono d f)) (co s) k = if d ≤ k then f * co s (k - d) else 0 := by
  unfold cv
  split
  · rename_i h
    rw [sgN_one (d := d) (by omega) fun i h1 h2 => by rw [mono_co, if_neg h2, Rat.zero_mul], mono_co, if_pos rfl]
  · rename_i h
    exact sgN_zero fun i hi => by rw [mono_co, if_neg (by omega), Rat.zero_mul]
/-- the rest behind one step -/
def stepL (r s : List Rat) : List Rat := mono (r.length - s.length) (fac r s)
def restL (r s : List Rat) : List Rat := trimQ (minusL r (trimQ (mulL (stepL r s) s)))
theorem rest_co {r s : List Rat} {k : Nat} : co (restL r s) k = co r k - (if r.length - s.length ≤ k then fac r s * co s (k - (r.length - s.length)) else 0) := by
  unfold restL stepL
  rw [trim_co, sub_co, trim_co, mul_co, cv_mono]
theorem div_mul {p q : Rat} (h : q ≠ 0) : p / q * q = p := by
  rw [Rat.div_def, Rat.mul_assoc, Rat.inv_mul_cancel q h, Rat.mul_one]
theorem rest_lt {r s : List Rat} (hs : co s (s.length - 1) ≠ 0) (h1 : 1 ≤ s.length) (hl : s.length ≤ r.length) : (restL r s).length < r.length := by
  have key : (restL r s).length ≤ r.length - 1 := by
    refine trim_short fun k hk => ?_
    rw [sub_co, trim_co, mul_co]
    unfold stepL
    rw [cv_mono, if_pos (by omega)]
    by_cases e : k = r.length - 1
    · rw [e, show r.length - 1 - (r.length - s.length) = s.length - 1 by omega]
      unfold fac
      rw [div_mul hs, Rat.sub_eq_add_neg, Rat.add_neg_cancel]
    · rw [co_out (xs := r) (by omega), co_out (xs := s) (by omega), Rat.mul_zero, Rat.sub_eq_add_neg, Rat.neg_zero, Rat.add_zero]
  omega
def divF : Nat → List Rat → List Rat → List Rat → List Rat × List Rat
  | 0, f, r, _ => (f, r)
  | n + 1, f, r, s => if s.length ≤ r.length then divF n (trimQ (plusL f (stepL r s))) (restL r s) s else (f, r)
theorem divF_stop {n : Nat} {f r s : List Rat} (h : r.length < s.length) : divF n f r s = (f, r) := by
  cases n with
  | zero => rfl
  | succ n =>
    unfold divF
    rw [if_neg (by omega)]
def remQ (r s : List Rat) : List Rat := (divF r.length [] r s).2
def quoQ (r s : List Rat) : List Rat := (divF r.length [] r s).1
theorem divF_can : ∀ {n : Nat} {f r s : List Rat}, Can r → Can (divF n f r s).2
  | 0, f, r, s, h => h
  | n + 1, f, r, s, h => by
    unfold divF
    split
    · exact divF_can (can_trim _)
    · exact h
theorem divF_lt : ∀ {n : Nat} {f r s : List Rat}, co s (s.length - 1) ≠ 0 → 1 ≤ s.length → r.length ≤ n → (divF n f r s).2.length < s.length
  | 0, f, r, s, _, h1, h2 => by
    show r.length < s.length
    omega
  | n + 1, f, r, s, hs, h1, h2 => by
    unfold divF
    split
    · rename_i h
      have := rest_lt (r := r) hs h1 h
      exact divF_lt hs h1 (by omega)
    · show r.length < s.length
      omega
theorem rem_lt {r s : List Rat} (hs : co s (s.length - 1) ≠ 0) (h1 : 1 ≤ s.length) : (remQ r s).length < s.length := divF_lt hs h1 (Nat.le_refl _)
/-- f * s + r is kept -/
theorem divF_sum : ∀ {n : Nat} {f r s : List Rat} (k : Nat), cv (co (divF n f r s).1) (co s) k + co (divF n f r s).2 k = cv (co f) (co s) k + co r k
  | 0, f, r, s, k => rfl
  | n + 1, f, r, s, k => by
    unfold divF
    split
    · rw [divF_sum (n := n) k]
      have e1 : cv (co (trimQ (plusL f (stepL r s)))) (co s) k = cv (co f) (co s) k + cv (co (stepL r s)) (co s) k := by
        rw [← cv_addl]
        exact cv_congr (fun i => by rw [trim_co, add_co]) fun _ => rfl
      have e2 : co (restL r s) k = co r k - cv (co (stepL r s)) (co s) k := by
        unfold restL
        rw [trim_co, sub_co, trim_co, mul_co]
      rw [e1, e2, Rat.sub_eq_add_neg, Rat.add_assoc, ← Rat.add_assoc (cv (co (stepL r s)) (co s) k), Rat.add_comm (cv (co (stepL r s)) (co s) k) (co r k), Rat.add_assoc, Rat.add_neg_cancel, Rat.add_zero]
    · rfl
theorem quo_sum {r s : List Rat} (hr : Can r) : trimQ (plusL (trimQ (mulL (quoQ r s) s)) (remQ r s)) = r := by
  refine (trim_congr (b := r) fun k => ?_).trans hr
  rw [add_co, trim_co, mul_co]
  have h := divF_sum (n := r.length) (f := []) (r := r) (s := s) k
  have h0 : cv (co []) (co s) k = 0 := sgN_zero fun i hi => by rw [co_nil, Rat.zero_mul]
  rw [h0, Rat.zero_add] at h
  exact h
/-- the law's own rest -/
theorem rest_law {r s : List Rat} : trimQ ((List.range (max r.length ((List.replicate (r.length - s.length) 0 ++ s.map fun q => q * fac r s)).length)).map fun k => co r k + co (List.replicate (r.length - s.length) 0 ++ s.map fun q => q * fac r s) k * ((-1 : Int) : Rat)) = restL r s := by
  refine co_ext (can_trim _) (can_trim _) fun k => ?_
  rw [rest_co, trim_co, co_map fun h => by rw [co_out (by omega), co_out (by omega), Rat.zero_mul, Rat.add_zero], co_app, List.length_replicate]
  have e : ∀ q : Rat, q * ((-1 : Int) : Rat) = -q := fun q => by
    rw [show (((-1 : Int) : Rat)) = -1 by rfl, Rat.mul_neg, Rat.mul_one]
  rw [e, Rat.sub_eq_add_neg]
  congr 2
  split
  · rename_i h
    rw [if_neg (by omega)]
    exact co_get (by rw [List.getElem?_replicate, if_pos h])
  · rename_i h
    rw [if_pos (by omega)]
    by_cases hk : k - (r.length - s.length) < s.length
    · exact co_get (by rw [List.getElem?_map, co_in hk, Rat.mul_comm]; rfl)
    · rw [co_out (by rw [List.length_map]; omega), co_out (xs := s) (by omega), Rat.mul_zero]
/-! ### common divisors -/
def gcdF : Nat → List Rat → List Rat → List Rat
  | 0, a, _ => a
  | n + 1, a, b => if b = [] then a else gcdF n b (remQ a b)
def gcdQ (a b : List Rat) : List Rat := gcdF (b.length + 1) a b
theorem gcd_one {a : List Rat} : trimQ (mulL a [1 / co a (a.length - 1)]) = trimQ (a.map fun q => q / co a (a.length - 1)) := by
  refine trim_congr fun k => ?_
  rw [mul_co, cv_comm]
  have e1 : ∀ i, co [1 / co a (a.length - 1)] i = co (mono 0 (1 / co a (a.length - 1))) i := fun _ => rfl
  rw [cv_congr e1 fun _ => rfl, cv_mono, if_pos (Nat.zero_le _), Nat.sub_zero]
  by_cases hk : k < a.length
  · rw [co_get (xs := a.map _) (q := co a k / co a (a.length - 1)) (by rw [List.getElem?_map, co_in hk]; rfl), Rat.div_def, Rat.div_def, Rat.one_mul, Rat.mul_comm]
  · rw [co_out (xs := a.map _) (by rw [List.length_map]; omega), co_out (xs := a) (k := k) (by omega), Rat.mul_zero]
end W1
set_option maxRecDepth 100000
set_option maxHeartbeats 1000000
namespace W1
/-! ### sizes: one denominator for all coefficients -/
def Cd (B : Nat) (xs : List Rat) : Prop := ∃ d : Int, d ≠ 0 ∧ d.natAbs < 2 ^ B ∧ ∀ k, ∃ n : Int, n.natAbs < 2 ^ B ∧ co xs k * (d : Rat) = (n : Rat)
theorem cast_ne {d : Int} (h : d ≠ 0) : (d : Rat) ≠ 0 := fun z => h (Rat.intCast_inj.mp (z.trans Rat.intCast_zero.symm))
theorem of_mul {q : Rat} {n d : Int} (h0 : d ≠ 0) (h : q * (d : Rat) = (n : Rat)) : q = Rat.divInt n d := by
  rw [Rat.divInt_eq_div, ← h, Rat.div_def, Rat.mul_assoc, Rat.mul_inv_cancel _ (cast_ne h0), Rat.mul_one]
theorem sz_of {B : Nat} {q : Rat} {n d : Int} (h0 : d ≠ 0) (h : q * (d : Rat) = (n : Rat)) (hn : n.natAbs < 2 ^ B) (hd : d.natAbs < 2 ^ B) : Sz B q := by
  rw [of_mul h0 h]
  exact sz_divInt h0 hn hd
theorem pow_up {m n : Nat} (h : m ≤ n) : 2 ^ m ≤ 2 ^ n := Nat.pow_le_pow_right (by decide) h
theorem Cd.mono {A B : Nat} {xs : List Rat} (h : Cd A xs) (l : A ≤ B) : Cd B xs := by
  obtain ⟨d, h0, h1, h2⟩ := h
  exact ⟨d, h0, Nat.lt_of_lt_of_le h1 (pow_up l), fun k => let ⟨n, h3, h4⟩ := h2 k; ⟨n, Nat.lt_of_lt_of_le h3 (pow_up l), h4⟩⟩
theorem Cd.sz {B : Nat} {xs : List Rat} (h : Cd B xs) (k : Nat) : Sz B (co xs k) := by
  obtain ⟨d, h0, h1, h2⟩ := h
  obtain ⟨n, h3, h4⟩ := h2 k
  exact sz_of h0 h4 h3 h1
theorem Cd.co {B : Nat} {xs ys : List Rat} (h : Cd B xs) (e : ∀ k, W1.co xs k = W1.co ys k) : Cd B ys := by
  obtain ⟨d, h0, h1, h2⟩ := h
  exact ⟨d, h0, h1, fun k => let ⟨n, h3, h4⟩ := h2 k; ⟨n, h3, by rw [← e]; exact h4⟩⟩
theorem abs_mul2 {a b : Int} {A B : Nat} (ha : a.natAbs < 2 ^ A) (hb : b.natAbs < 2 ^ B) : (a * b).natAbs < 2 ^ (A + B) := by
  rw [Int.natAbs_mul]
  exact mul_lt2 ha hb
theorem cast_mul {a b : Int} : ((a * b : Int) : Rat) = (a : Rat) * (b : Rat) := Rat.intCast_mul a b
/-- the parts of one step: r over d, its top n; s over e, its top m -/
theorem fac_eq {p q x : Rat} {d e n m j : Int} (hp : p * (d : Rat) = (n : Rat)) (hq : q * (e : Rat) = (m : Rat)) (hx : x * (e : Rat) = (j : Rat)) (hq0 : q ≠ 0) : p / q * x * ((d * m : Int) : Rat) = ((n * j : Int) : Rat) := by
  rw [cast_mul, cast_mul, ← hp, ← hq, ← hx, Rat.div_def]
  have sw : ∀ a b c : Rat, a * b * c = a * c * b := fun a b c => by rw [Rat.mul_assoc, Rat.mul_comm b c, ← Rat.mul_assoc]
  have e1 : p * q⁻¹ * x * ((d : Rat) * (q * (e : Rat))) = p * (d : Rat) * (x * (e : Rat)) * (q * q⁻¹) := by
    simp only [← Rat.mul_assoc]
    rw [sw p q⁻¹ x, sw (p * x) q⁻¹ d, sw (p * x * d) q⁻¹ q, sw (p * x * d * q) q⁻¹ e, sw p d x, sw (p * x * d) e q]
  rw [e1, Rat.mul_inv_cancel q hq0, Rat.mul_one]
structure StZ (A B : Nat) (r s : List Rat) : Prop where
  c : Sz (A + B) (fac r s)
  cs : ∀ k, Sz (A + B) (fac r s * co s k)
  rr : Cd (A + B + 1) (restL r s)
theorem step_sz {A B : Nat} {r s : List Rat} (hr : Cd A r) (hs : Cd B s) (h0 : co s (s.length - 1) ≠ 0) : StZ A B r s := by
  obtain ⟨d, d0, d1, d2⟩ := hr
  obtain ⟨e, e0, e1, e2⟩ := hs
  obtain ⟨n, n1, n2⟩ := d2 (r.length - 1)
  obtain ⟨m, m1, m2⟩ := e2 (s.length - 1)
  have m0 : m ≠ 0 := fun z => by
    rw [z] at m2
    have := Rat.mul_eq_zero.mp (m2.trans Rat.intCast_zero)
    rcases this with h | h
    · exact h0 h
    · exact cast_ne e0 h
  have dm : d * m ≠ 0 := Int.mul_ne_zero d0 m0
  have dz : (d * m).natAbs < 2 ^ (A + B) := abs_mul2 d1 m1
  have one : (1 : Rat) * (e : Rat) = (e : Rat) := Rat.one_mul _
  have part : ∀ k, ∃ j : Int, j.natAbs < 2 ^ B ∧ fac r s * co s k * ((d * m : Int) : Rat) = ((n * j : Int) : Rat) := fun k => by
    obtain ⟨j, j1, j2⟩ := e2 k
    exact ⟨j, j1, fac_eq n2 m2 j2 h0⟩
  refine ⟨?_, fun k => ?_, ⟨d * m, dm, Nat.lt_of_lt_of_le dz (pow_up (by omega)), fun k => ?_⟩⟩
  · have h := fac_eq n2 m2 one h0
    rw [Rat.mul_one] at h
    exact sz_of dm h (abs_mul2 n1 e1) dz
  · obtain ⟨j, j1, j2⟩ := part k
    exact sz_of dm j2 (abs_mul2 n1 j1) dz
  · obtain ⟨u, u1, u2⟩ := d2 k
    have top : co r k * ((d * m : Int) : Rat) = ((u * m : Int) : Rat) := by
      rw [cast_mul, cast_mul, ← u2, Rat.mul_assoc]
    have two : (2 : Nat) ^ (A + B + 1) = 2 ^ (A + B) + 2 ^ (A + B) := by rw [Nat.pow_succ, Nat.mul_two]
    have um := abs_mul2 u1 m1
    rw [rest_co]
    split
    · obtain ⟨j, j1, j2⟩ := part (k - (r.length - s.length))
      have nj := abs_mul2 n1 j1
      refine ⟨u * m - n * j, ?_, ?_⟩
      · rw [two]; omega
      · rw [Rat.sub_eq_add_neg, Rat.add_mul, Rat.neg_mul, top, j2, Rat.intCast_sub, Rat.sub_eq_add_neg]
    · refine ⟨u * m, by rw [two]; omega, ?_⟩
      rw [Rat.sub_eq_add_neg, Rat.neg_zero, Rat.add_zero, top]
theorem sz0 : Sz 1 (0 : Rat) := by
  refine ⟨?_, ?_⟩ <;> decide
/-- what one step wants of sizes -/
structure StB (f r s : List Rat) : Prop where
  br : ∀ k, big (co r k)
  bs : ∀ k, big (co s k)
  bc : big (fac r s)
  bcs : ∀ k, big (fac r s * co s k)
  bf : ∀ k, big (co f k)
def DivB : Nat → List Rat → List Rat → List Rat → Prop
  | 0, _, _, _ => True
  | n + 1, f, r, s => s.length ≤ r.length → StB f r s ∧ DivB n (trimQ (plusL f (stepL r s))) (restL r s) s
theorem divB {B M : Nat} {s : List Rat} (hs : Cd B s) (h0 : co s (s.length - 1) ≠ 0) (h1 : 1 ≤ s.length) (hM : M + B ≤ bigN) : ∀ (n A : Nat) (f r : List Rat), Cd A r → (s.length ≤ r.length → A + (r.length + 1 - s.length) * (B + 1) ≤ M) → A ≤ M → (∀ k, k + s.length ≤ r.length → co f k = 0) → (∀ k, Sz (M + B) (co f k)) →
    DivB n f r s ∧ Cd M (divF n f r s).2 ∧ ∀ k, Sz (M + B) (co (divF n f r s).1 k) := by
  intro n
  induction n with
  | zero =>
    intro A f r hr _ hA _ hf
    exact ⟨trivial, hr.mono hA, hf⟩
  | succ n ih =>
    intro A f r hr hb hA hz hf
    by_cases hl : s.length ≤ r.length
    · have Z := step_sz hr hs h0
      have lt := rest_lt (r := r) h0 h1 hl
      have hb := hb hl
      have up : ∀ {k : Nat} {q : Rat}, Sz k q → k ≤ M + B → big q := fun h l => h.mono (Nat.le_trans l hM)
      have e1 : r.length + 1 - s.length = (r.length - s.length) + 1 := by omega
      rw [e1, Nat.succ_mul] at hb
      have hm : (r.length - s.length) * (B + 1) + (A + B + 1) ≤ M := by omega
      have cof : ∀ k, co (trimQ (plusL f (stepL r s))) k = if k = r.length - s.length then fac r s else co f k := fun k => by
        rw [trim_co, add_co]
        unfold stepL
        rw [mono_co]
        split
        · rename_i e
          rw [hz k (by omega), Rat.zero_add]
        · rw [Rat.add_zero]
      have next := ih (A + B + 1) (trimQ (plusL f (stepL r s))) (restL r s) Z.rr (fun hl2 => by
        have : ((restL r s).length + 1 - s.length) * (B + 1) ≤ (r.length - s.length) * (B + 1) := Nat.mul_le_mul_right _ (by omega)
        omega) (by omega) (fun k hk => by rw [cof, if_neg (by omega)]; exact hz k (by omega)) (fun k => by
        rw [cof]
        split
        · exact Z.c.mono (by omega)
        · exact hf k)
      refine ⟨fun _ => ⟨⟨fun k => up (hr.sz k) (by omega), fun k => up (hs.sz k) (by omega), up Z.c (by omega), fun k => up (Z.cs k) (by omega), fun k => up (hf k) (Nat.le_refl _)⟩, next.1⟩, ?_⟩
      unfold divF
      rw [if_pos hl]
      exact next.2
    · refine ⟨fun z => absurd z hl, ?_⟩
      unfold divF
      rw [if_neg hl]
      exact ⟨hr.mono hA, hf⟩
theorem divB0 {B M : Nat} {r s : List Rat} (hs : Cd B s) (h0 : co s (s.length - 1) ≠ 0) (h1 : 1 ≤ s.length) (hM : M + B ≤ bigN) (hr : Cd B r) (hb : s.length ≤ r.length → B + (r.length + 1 - s.length) * (B + 1) ≤ M) (hBM : B ≤ M) :
    DivB r.length [] r s ∧ Cd M (remQ r s) ∧ ∀ k, Sz (M + B) (co (quoQ r s) k) :=
  divB hs h0 h1 hM r.length B [] r hr hb hBM (fun k _ => co_nil) fun k => by
    rw [co_nil]
    exact sz0.mono (by
      have : 1 ≤ M + B := by
        refine Nat.le_of_not_lt fun z => ?_
        have hB : B = 0 := by omega
        obtain ⟨d, d0, d1, _⟩ := hr
        rw [hB] at d1
        have : d.natAbs = 0 := by simpa using d1
        exact d0 (Int.natAbs_eq_zero.mp this)
      omega)
def GcdB : Nat → List Rat → List Rat → Prop
  | 0, _, _ => True
  | n + 1, a, b => b ≠ [] → DivB a.length [] a b ∧ GcdB n b (remQ a b)
theorem three_pow : ∀ d : Nat, d + 3 ≤ 3 ^ (d + 1)
  | 0 => by decide
  | d + 1 => by
    have := three_pow d
    rw [Nat.pow_succ]
    omega
def topZ : Nat := 6000000
theorem topZ_le : topZ + topZ / 3 ≤ bigN := by
  unfold topZ bigN
  decide
theorem gcdB : ∀ (n : Nat) (s : Nat) (a b : List Rat), Can a → Can b → b.length < a.length → Cd s a → Cd s b → (s + 1) * 3 ^ a.length ≤ topZ → GcdB n a b ∧ ∃ S, Cd S (gcdF n a b) ∧ S + S ≤ bigN := by
  intro n
  induction n with
  | zero =>
    intro s a b ca cb hl ha hb hz
    refine ⟨trivial, s, ha, ?_⟩
    have h3 : 3 ≤ 3 ^ a.length := Nat.le_trans (by decide : 3 ≤ 3 ^ 1) (Nat.pow_le_pow_right (by decide) (by omega))
    have := Nat.mul_le_mul_left (s + 1) h3
    have := topZ_le
    omega
  | succ n ih =>
    intro s a b ca cb hl ha hb hz
    have h3 : 3 ≤ 3 ^ a.length := Nat.le_trans (by decide : 3 ≤ 3 ^ 1) (Nat.pow_le_pow_right (by decide) (by omega))
    have h33 := Nat.mul_le_mul_left (s + 1) h3
    have tz := topZ_le
    by_cases hn : b = []
    · refine ⟨fun z => absurd hn z, s, ?_, by omega⟩
      unfold gcdF
      rw [if_pos hn]
      exact ha
    · have b1 : 1 ≤ b.length := List.length_pos_iff.mpr hn
      have t0 := can_top cb hn
      obtain ⟨d, hd⟩ : ∃ d, a.length = b.length + (d + 1) := ⟨a.length - b.length - 1, by omega⟩
      have e1 : a.length + 1 - b.length = d + 2 := by omega
      have hM : (s + (d + 2) * (s + 1) + 1) * 3 ^ b.length ≤ topZ := by
        have q1 : s + (d + 2) * (s + 1) + 1 = (s + 1) * (d + 3) := by
          rw [Nat.mul_comm (s + 1) (d + 3), Nat.succ_mul (d + 2) (s + 1)]
          omega
        rw [q1, Nat.mul_assoc]
        refine Nat.le_trans (Nat.mul_le_mul_left _ ?_) hz
        rw [hd, Nat.pow_add, Nat.mul_comm (3 ^ b.length)]
        exact Nat.mul_le_mul_right _ (three_pow d)
      have hb3 : 3 ≤ 3 ^ b.length := Nat.le_trans (by decide : 3 ≤ 3 ^ 1) (Nat.pow_le_pow_right (by decide) b1)
      have hM3 := Nat.mul_le_mul_left (s + (d + 2) * (s + 1) + 1) hb3
      obtain ⟨d1, d2, _⟩ := divB0 (M := s + (d + 2) * (s + 1)) hb t0 b1 (by omega) ha (fun _ => by rw [e1]; exact Nat.le_refl _) (Nat.le_add_right _ _)
      have lt := rem_lt (r := a) t0 b1
      obtain ⟨g1, g2⟩ := ih (s + (d + 2) * (s + 1)) b (remQ a b) cb (divF_can ca) lt (hb.mono (Nat.le_add_right _ _)) d2 hM
      refine ⟨fun _ => ⟨d1, g1⟩, ?_⟩
      unfold gcdF
      rw [if_neg hn]
      exact g2
/-- the first division too -/
theorem gcd_ok {a b : List Rat} (ca : Can a) (cb : Can b) (la : a.length ≤ 9) (lb : b.length ≤ 9) (ha : Cd 141 a) (hb : Cd 141 b) (n : Nat) : GcdB n a b ∧ ∃ S, Cd S (gcdF n a b) ∧ S + S ≤ bigN := by
  have tz := topZ_le
  have tv : topZ = 6000000 := rfl
  have p9 : ∀ {k : Nat}, k ≤ 9 → 3 ^ k ≤ 19683 := fun h => Nat.le_trans (Nat.pow_le_pow_right (by decide) h) (by decide)
  by_cases h : b.length < a.length
  · exact gcdB n 141 a b ca cb h ha hb (by have := p9 la; omega)
  cases n with
  | zero => exact ⟨trivial, 141, ha, by omega⟩
  | succ n =>
    by_cases hn : b = []
    · refine ⟨fun z => absurd hn z, 141, ?_, by omega⟩
      unfold gcdF
      rw [if_pos hn]
      exact ha
    · have b1 : 1 ≤ b.length := List.length_pos_iff.mpr hn
      have t0 := can_top cb hn
      obtain ⟨d1, d2, _⟩ := divB0 (M := 283) hb t0 b1 (by omega) ha (fun hl => by
        have e1 : a.length + 1 - b.length = 1 := by omega
        rw [e1]
        decide) (by decide)
      have lt := rem_lt (r := a) t0 b1
      obtain ⟨g1, g2⟩ := gcdB n 283 b (remQ a b) cb (divF_can ca) lt (hb.mono (by decide)) d2 (by have := p9 lb; omega)
      refine ⟨fun _ => ⟨d1, g1⟩, ?_⟩
      unfold gcdF
      rw [if_neg hn]
      exact g2
end W1
set_option maxRecDepth 100000
set_option maxHeartbeats 4000000
set_option exponentiation.threshold 20000
namespace W1
open PySem PySem.Spec PyProof.Rows L2 NdefX TL NumText
section
variable {F : Fx} {ρ : Ty} {ω w w1 : Ow} {a b e : Expr} {es : List Expr} {As Rs : List Rl} {O : Ol} {K : Kn} {rest : List Stmt} {pos p : Pos} {x y : Str} {Ψ : List Rl → Ow → Prop}
theorem en_tA {id : String} (ha : AR F ρ ω (e :: es) As w1) (hm : F.X.mg x = none) (hv : bootBuiltins x = some (.type id)) (hc : CopN F w1 (.type id) As O) (hg : Gl F.X x := by rfl) (hn : x ≠ "__name__" := by decide) (hdb : (x == ("__debug__" : Str)) = false := by decide)
    (he : starEach (e :: es) F.X.env = (false, eval e F.X.env) :: starEach es F.X.env := by rfl) (hpl : (backTo pos (starEach es F.X.env)).any (·.1) = false := by rfl) : EN F ρ ω (.Call (.Name x p) (e :: es) [] pos) O w1 := fun σ G H at_ sl Q q => by
  obtain ⟨r, ho, k⟩ := hc
  refine ew_of (pe_callTy ho hg hm hv pa_w hn hdb he hpl) (ha σ G H at_ sl _ fun vs G2 H2 s2 a2 r2 => ?_)
  exact k vs G2 H2 a2 r2 Q fun v G3 H3 hM s3 a3 => q v G3 H3 hM (s2.trans s3) a3
theorem copN_listL : CopN F w (.type "list") [rLst Rs] (oL Rs) := ⟨_, call_list_of, fun xs G H at_ hx Q q => by
  obtain ⟨x, rfl, p, vs, rfl, h1, h2⟩ := all1 hx
  exact ⟨p, vs, rfl, .inl (SqL.of (at_.gh _ _ h1)), fun l hl => q l _ _ (fun hm => at_.mm l hm hl) (Same.refl _) (at_.own hl ⟨_, rfl, h2⟩)⟩⟩
end
section
variable {F : Fx} {ρ : Ty} {ω w3 : Ow} {e x1 y1 x2 y2 : Expr} {R1 R2 : Rl} {Rs : List Rl} {pos p1 p2 tp : Pos} {kk : Nat} {q : Addr} {i j : Int} {n m : Nat} {K : Kn} {rest : List Stmt} {w : Ow}
theorem tr_lstE (h : ER F ρ ω e (rLst Rs) w) (he : ∀ whole, isTrue e F.X.env whole = (do let v ← whole; standAt e.pos; holding [v] (truthy v)) := by intro _; rfl) : TR F ρ ω e (!decide (Rs = [])) w := tr_truth h (fun v G H at_ r => by
  obtain ⟨p, vs, rfl, h1, h2⟩ := r
  have : (!decide (Rs = [])) = !vs.isEmpty := by
    cases Rs with
    | nil => cases vs with
      | nil => rfl
      | cons v l => exact h2.elim
    | cons R l => cases vs with
      | nil => exact h2.elim
      | cons v l' => simp
  rw [this]
  exact .inl ⟨vs, SqL.of (at_.gh _ _ h1), rfl⟩) he
end
section
variable {F : Fx} {ρ : Ty} {ω w w1 : Ow} {a b e : Expr} {es : List Expr} {As Rs : List Rl} {O : Ol} {K : Kn} {rest : List Stmt} {pos p : Pos} {x y : Str} {Ψ : List Rl → Ow → Prop}
end
section
variable {F : Fx} {ρ : Ty} {ω w w1 : Ow} {o e : Expr} {R : Rl} {q : Addr} {Φ Ψ : Rl → Ow → Prop} {α β : Type} {p2 pos : Pos}
end
end W1
namespace W1Q
open PySem PySem.SeqAt
open AutoSeq1 (wpAny_loadPart')
open MeetsSeq MeetsSeq2 MeetsSeq3 SeqRoads2
section
variable {prog : Program} {w : World} {A : Around} {R : Result → Shared → Prop} {l b : Addr} {e : Nat → Bool} {I : Nat → Shared → Prop}
theorem tup_goU {xs ys : Array Value} {m n : Nat} {dx dy : Option Addr} {sx sy : Array (Option Value)} {s : Shared} (gx : s.heap.get? l = some { cls := .type "tuple", dict := dx, data := .seq xs m, slots := sx }) (gy : s.heap.get? b = some { cls := .type "tuple", dict := dy, data := .seq ys n, slots := sy })
    (T : ∀ i (h1 : i < xs.size) (h2 : i < ys.size) s, I i s → wpAny (model prog w) A.in1 (eqBool xs[i] ys[i]) (fun r s' => r = e i ∧ I (i + 1) s') (fun v s' => R (.error v) s') s)
    (h : I 0 s) (fin : ∀ j s', I j s' → R (.ok (.ret (.bool (allFrom e 0 (min xs.size ys.size) && decide (xs.size = ys.size))))) s') :
    wpAny (model prog w) A.in1 (Builtin.«tuple.__eq__» ⟨[.ref l, .ref b], []⟩) (GQ.FinOf prog w A R) (fun v s' => R (.error v) s') s := by
  have kind := AutoSeq1.sub_tuple_tuple
  have both : (xs.toList.zip ys.toList).length = min xs.size ys.size := by simp
  have start := h
  obtain ⟨hp, g, d, tk, os⟩ := s
  wp_walk using wpAny_loadPart' gx, wpAny_loadPart' gy, wpAny_forIn_list _ (fun rest b s' => b.1 = none ∧ ∃ i k, i + k = min xs.size ys.size ∧ rest = (xs.toList.zip ys.toList).drop i ∧ I i s' ∧ ∀ j s', I j s' → R (.ok (.ret (.bool (allFrom e i k && decide (xs.size = ys.size))))) s') _
  case turn =>
    rintro ⟨y, x⟩ rest b s' ⟨hb, i, k, ik, hz, hI, hR⟩
    have lt : i < (xs.toList.zip ys.toList).length := Decidable.byContradiction fun z => by
      rw [List.drop_of_length_le (by omega)] at hz
      cases hz
    have h1 : i < xs.size := by omega
    have h2 : i < ys.size := by omega
    rw [List.drop_eq_getElem_cons lt, List.cons.injEq] at hz
    obtain ⟨hyx, hrest⟩ := hz
    obtain rfl : y = xs[i] := by simpa using congrArg Prod.fst hyx
    obtain rfl : x = ys[i] := by simpa using congrArg Prod.snd hyx
    obtain ⟨k, rfl⟩ : ∃ k', k = k' + 1 := ⟨k - 1, by omega⟩
    have hR : ∀ j s', I j s' → R (.ok (.ret (.bool ((e i && allFrom e (i + 1) k) && decide (xs.size = ys.size))))) s' := hR
    refine wpAny_bind (wpAny_mono (T i h1 h2 s' hI) (fun r s2 z => ?_) fun _ _ x => x)
    obtain ⟨rfl, hI2⟩ := z
    cases hy : e i with
    | true =>
      rw [hy, Bool.true_and] at hR
      wp_walk
      exact ⟨rfl, i + 1, k, by omega, hrest, hI2, hR⟩
    | false =>
      rw [hy, Bool.false_and, Bool.false_and] at hR
      have := hR _ _ hI2
      wp_walk
      exact this
  case fin =>
    rintro ⟨b1, b2⟩ s' ⟨hb, i, k, ik, hz, hI, hR⟩
    simp only at hb
    subst hb
    have k0 : k = 0 := by
      have : (xs.toList.zip ys.toList).length ≤ i := Decidable.byContradiction fun z => by
        rw [List.drop_eq_getElem_cons (by omega)] at hz
        cases hz
      omega
    subst k0
    have this : R (.ok (.ret (.bool (decide (xs.size = ys.size))))) s' := by
      have := hR _ _ hI
      rwa [show allFrom e i 0 = true from rfl, Bool.true_and] at this
    wp_walk
    have h2 : R (.ok (.ret (.bool (xs.size == ys.size)))) s' := by
      rw [show (xs.size == ys.size) = decide (xs.size = ys.size) by rw [Bool.eq_iff_iff]; simp]
      exact this
    first | exact h2 | (simp [Builtin.Tuple.tupleCompareSizes]; exact h2)
  case h =>
    exact ⟨rfl, 0, min xs.size ys.size, by omega, rfl, start, fin⟩
end
end W1Q
namespace W1
open PySem PySem.Spec PyProof.Rows L2 NdefX TL NumText
theorem bop_eqTU {F : Fx} {w : Ow} {Rs Ss : List Rl} {e : Nat → Bool} (he : ∀ (i : Nat) R S, Rs[i]? = some R → Ss[i]? = some S → EqB F.X n R S (e i)) (hr : Room (n + 1) F.X.A) : Bop F w (compareOp .Eq) (rTup Rs) (rTup Ss) (rBool (W1Q.allFrom e 0 (min Rs.length Ss.length) && decide (Rs.length = Ss.length))) :=
  bop_sem fun pins s σ G H x y u v Q I rx ry sg ax ay q => by
    obtain ⟨p, vs, rfl, h1, h2⟩ := id ax
    obtain ⟨p2, ws, rfl, h3, h4⟩ := id ay
    cases (show u = Value.ref p from rx)
    cases (show v = Value.ref p2 from ry)
    obtain ⟨its, nn, dd, sl, r1, o1⟩ := tup_obj I (sg _ _ h1)
    obtain ⟨its2, nn2, dd2, sl2, r2, o2⟩ := tup_obj I (sg _ _ h3)
    have l1 := h2.len
    have l2 := h4.len
    have l3 := r1.length
    have l4 := r2.length
    have bl : Below F.X n F.X.A.in1 := (⟨hr, rfl⟩ : Below F.X (n + 1) F.X.A).in1
    show wpAny _ _ (richCompare .Eq (.ref p) (.ref p2)) _ _ _
    refine wpAny_richCompare_same_room (op := .Eq) ⟨_, o1, rfl⟩ ⟨_, o2, rfl⟩ PySem.F.slot_tuple_eq (GQ.call_here PySem.F.slot_tuple_eq ⟨_, o1, rfl⟩ PySem.F.entry_tuple_eq (PySem.F.args_tuple_eq_2 _ _) ?_) hr.units0
    refine W1Q.tup_goU (e := e) (I := fun _ s' => LoopW F.X pins σ G H s') o1 o2 (fun i a1 a2 s' ⟨G1, H1, I1, st1⟩ => ?_) ⟨G, H, I, Step.refl sg⟩ fun j s' ⟨G', H', I', st⟩ => ?_
    · obtain ⟨R, v, hR, rv, ru⟩ := getOf (h2.up st1.gg) r1 a1
      obtain ⟨S, w', hS, rw', rx⟩ := getOf (h4.up st1.gg) r2 a2
      refine wpAny_mono (he i R S hR hS F.X.A.in1 pins s' σ G1 H1 v w' _ _ _ bl I1 ru rx st1.gh rv rw') (fun r s2 z => ?_) fun _ _ x => x
      obtain ⟨hr, G2, H2, I2, st2⟩ := z
      exact ⟨hr, G2, H2, I2, st1.trans st2⟩
    · rw [show its.toArray.size = Rs.length by simp only [List.size_toArray]; omega, show its2.toArray.size = Ss.length by simp only [List.size_toArray]; omega]
      exact ⟨(fun z => nomatch z), V.bl _, H', I', rfl, q _ G' H' st rfl⟩
theorem cop_listIs {F : Fx} {w : Ow} {A : Rl} {Rs : List Rl} (h : IsSq F A w Rs) : Cop F w (.type "list") [A] (rLst Rs) := ⟨_, call_list_of, fun xs G H at_ hx Q q => by
  obtain ⟨x, rfl, hx1⟩ := all1 hx
  obtain ⟨p, vs, rfl, h1, h2⟩ := h x G H at_ hx1
  refine ⟨p, vs, rfl, h1, fun l hl => ?_⟩
  have st := Step.new (o := .lst vs) at_.gh hl
  exact q _ _ _ st.gg (at_.step st) ⟨l, vs, rfl, upd_same, h2.up st.gg⟩⟩
theorem rat_idQ {R a : Addr} {p q : Rat} {G : Hp} (h1 : (rRat R p).r (.ref a) G) (h2 : (rRat R q).r (.ref a) G) : p = q := by
  obtain ⟨p0, dx, vs, e, e1, r1⟩ := h1
  obtain ⟨p', dx', ws, e', e2, r2⟩ := h2
  cases e
  cases e'
  rw [e1] at e2
  cases e2
  have two : ∀ {f : Str} {i j : Int}, ([("top", rInt p.num), ("bottom", rInt (p.den : Int))] : List (Str × Rl)).lookup f = some (rInt i) → ([("top", rInt q.num), ("bottom", rInt (q.den : Int))] : List (Str × Rl)).lookup f = some (rInt j) → i = j := fun {f i j} hR hS => by
    obtain ⟨v, l1, q1⟩ := r1.look hR
    obtain ⟨v', l2, q2⟩ := r2.look hS
    rw [l1] at l2
    cases l2
    exact V.int.inj ((show v = V.int i from q1).symm.trans q2)
  have a1 := two (f := "top") rfl rfl
  have a2 := two (f := "bottom") rfl rfl
  exact Rat.ext a1 (Int.ofNat.inj a2)
theorem eqb_ratD {F : Fx} {R : Addr} {p q : Rat} (T : Ko F.X.prog F.X.w F.X.K F.X.mg F.X.base R "__eq__" 5 (pEq R)) (hn : PySem.W.notFirst F.X.K R (.ref R) = true) : EqB F.X 5 (rRat R p) (rRat R q) (decide (p = q)) :=
  eqb_o (F := F) (t := decide (p = q)) T pEqOk (fun _ _ h1 h2 => decide_eq_true (rat_idQ h1 h2)) hn
theorem all_dec {e : Nat → Bool} {xs ys : List Rat} (he : ∀ (i : Nat) x y, xs[i]? = some x → ys[i]? = some y → e i = decide (x = y)) : (W1Q.allFrom e 0 (min xs.length ys.length) && decide (xs.length = ys.length)) = decide (xs = ys) := by
  have key : ∀ (k i : Nat) (xs ys : List Rat), (∀ (j : Nat) x y, xs[j]? = some x → ys[j]? = some y → e (i + j) = decide (x = y)) → k = min xs.length ys.length → (W1Q.allFrom e i k && decide (xs.length = ys.length)) = decide (xs = ys) := by
    intro k
    induction k with
    | zero =>
      intro i xs ys _ hk
      show (true && decide (xs.length = ys.length)) = decide (xs = ys)
      rw [Bool.true_and]
      refine decide_eq_decide.mpr ⟨fun h => ?_, fun h => by rw [h]⟩
      have h1 : xs.length = 0 := by omega
      have h2 : ys.length = 0 := by omega
      rw [List.length_eq_zero_iff.mp h1, List.length_eq_zero_iff.mp h2]
    | succ k ih =>
      intro i xs ys h hk
      match xs, ys with
      | x :: xs, y :: ys =>
        have h0 := h 0 x y rfl rfl
        have hr := ih (i + 1) xs ys (fun j a b ha hb => by rw [Nat.add_assoc, Nat.add_comm 1 j]; exact h (j + 1) a b ha hb) (by simp only [List.length_cons] at hk; omega)
        show ((e i && W1Q.allFrom e (i + 1) k) && decide ((x :: xs).length = (y :: ys).length)) = _
        have e1 : decide ((x :: xs).length = (y :: ys).length) = decide (xs.length = ys.length) := decide_eq_decide.mpr (by simp)
        rw [e1, Bool.and_assoc, hr, show e i = decide (x = y) from h0]
        by_cases hxy : x = y <;> by_cases hs : xs = ys <;> simp [hxy, hs]
      | [], ys => simp at hk
      | x :: xs, [] => simp at hk
  exact key _ 0 xs ys (fun j x y ha hb => by rw [Nat.zero_add]; exact he j x y ha hb) rfl
theorem bop_eqTQ {F : Fx} {w : Ow} {R : Addr} {xs ys : List Rat} (T : Ko F.X.prog F.X.w F.X.K F.X.mg F.X.base R "__eq__" 5 (pEq R)) (hn : PySem.W.notFirst F.X.K R (.ref R) = true) (hr : Room 6 F.X.A) : Bop F w (compareOp .Eq) (rTup (xs.map (rRat R))) (rTup (ys.map (rRat R))) (rBool (decide (xs = ys))) := by
  have h := bop_eqTU (F := F) (w := w) (n := 5) (Rs := xs.map (rRat R)) (Ss := ys.map (rRat R)) (e := fun i => decide (xs[i]? = ys[i]?)) (fun i A B hA hB => by
    obtain ⟨x, hx, rfl⟩ := map_get hA
    obtain ⟨y, hy, rfl⟩ := map_get hB
    have e : decide (xs[i]? = ys[i]?) = decide (x = y) := decide_eq_decide.mpr (by rw [hx, hy]; exact ⟨Option.some.inj, congrArg some⟩)
    rw [e]
    exact eqb_ratD T hn) hr
  rw [List.length_map, List.length_map, all_dec (xs := xs) (ys := ys) (fun i x y hx hy => decide_eq_decide.mpr (by rw [hx, hy]; exact ⟨Option.some.inj, congrArg some⟩))] at h
  exact h
end W1
namespace W1
open PySem PySem.Spec PyProof.Rows L2 NdefX TL NumText
/-! ### a classmethod with a star parameter -/
def stSp (n : Nat) (pre : Pre) : Sp := fun vs H Q E => ∃ ws rest : List V, vs = ws ++ rest ∧ ws.length = n ∧ rest.length ≤ sizeLine ∧ ∀ p, H p = none → spM pre (ws ++ [V.ref p]) (upd H p (.tup rest)) Q E
theorem fn_okS {P : Program} {w : World} {K : PySem.W.Frag} {mg : Str → Option Value} {base : Heap} {x qual : Str} {st : Stmt} {f : Addr} {fd : FuncData} {N ps : List Str} {pv : Str} {k : Nat} {pre : Pre} (Fn : Fun K x qual st f fd) (S : FnScope N (ps ++ [pv]) (defScope st))
    (hbd : ∀ (kV doc pm : Value) (an : Option Addr) (cdv ct : Value) (us rest : List Value), us.length = ps.length → bindArgs (PySem.W.fnOf x qual (defArgs st) (defBody st) (defScope st) .none kV doc pm an cdv ct) ⟨us ++ rest, []⟩ = (newTuple rest >>= fun t => pure (ps.zip us ++ [(pv, t)])))
    (hb : ∀ (cdv : Value) (A : Around) (outer : List Env) (s : Shared) (H : Hp) (E : XK) (F : Fx), Room k (A.deeper (envOfC qual (defScope st) s.heap.objs.size f cdv)) → F.X = cxOf (L2.CX P w) P w K mg base N qual (defScope st) f cdv A outer s H E →
      ∀ Rs ω o ω', pre Rs ω o ω' → HB F (Rs.map some ++ List.replicate (N.length - Rs.length) none) ω (defBody st) (Kf o ω')) : FnR P w K mg base (L2.CX P w) (k + 1) f (stSp ps.length pre) := by
  obtain ⟨oc, od, kV, doc, pm, an, cdv, ct, osl, rfl, lk, hcd⟩ := Fn.ex
  refine StX.fn_star lk hcd S StX.cxUp (hbd kV doc pm an cdv ct) (sp := spM pre) fun A outer s H vs Q E hr h => ?_
  obtain ⟨Rs, ω, o, ω', G, hp, hgh, hv, hhas, hnd, hk, hq⟩ := h
  have tk : Takes (cxOf (L2.CX P w) P w K mg base N qual (defScope st) f cdv A outer s H E) (fun cls d _ H => E cls d H) := takes_of rfl rfl rfl rfl
  refine ⟨_, pss_w, hb cdv A outer s H E ⟨cxOf (L2.CX P w) P w K mg base N qual (defScope st) f cdv A outer s H E, G, H, keys ω, fun cls d _ H => E cls d H, tk⟩ hr rfl Rs ω o ω' hp (L2.start N vs) G H _ ?_ ?_ ?_⟩
  · exact ⟨Same.refl _, fun a o _ e => e, hgh, fun a _ e => e, fun a ha => by
      obtain ⟨p, hp, e⟩ := List.mem_map.mp ha
      obtain ⟨_, o, z, _⟩ := hhas p hp
      rw [← e, z]
      simp, fun p hp => let ⟨x, z⟩ := hhas p hp; ⟨x, .inr (List.mem_map_of_mem hp), z⟩, hnd⟩
  · unfold L2.start
    have e := hv.len
    refine ⟨by simp [e], fun i R hi => ?_⟩
    by_cases h : i < Rs.length
    · rw [List.getElem?_append_left (by simpa using h), List.getElem?_map] at hi
      cases h1 : Rs[i]? with
      | none => rw [h1] at hi; cases hi
      | some R' =>
        rw [h1] at hi
        cases hi
        obtain ⟨v, h2, h3⟩ := hv.get h1
        exact ⟨v, by rw [List.getElem?_append_left (by rw [List.length_map, ← e]; exact h), List.getElem?_map, h2]; rfl, h3⟩
    · rw [List.getElem?_append_right (by simpa using h), List.getElem?_replicate] at hi
      split at hi <;> cases hi
  · have fin : ∀ {w0 : Ow} {G' H' : Hp}, At ⟨cxOf (L2.CX P w) P w K mg base N qual (defScope st) f cdv A outer s H E, G, H, keys ω, fun cls d _ H => E cls d H, tk⟩ (ω' ++ w0) G' H' → StepM (keys ω) G H G' H' ∧ Has ω' G' H' :=
      fun a => ⟨⟨a.gg, a.hh, a.gh, a.fr⟩, a.has.left⟩
    refine ⟨fun ρ w1 hk σ G' H' s a sl => ?_, fun R w1 hk v G' H' s a r => ?_, fun _ _ hk => hk.elim, fun _ _ hk => hk.elim, fun ρ w1 P' hk cls d σ G' H' s a sl hP => ?_⟩
    · obtain ⟨R, w0, rfl, h1, rfl⟩ := hk
      obtain ⟨h2, h3⟩ := fin a
      exact hq _ _ _ h2 h3 (h1 _)
    · obtain ⟨R', w0, rfl, h1, rfl⟩ := hk
      obtain ⟨h2, h3⟩ := fin a
      exact hq _ _ _ h2 h3 (h1 _ _ r)
    · obtain ⟨P'', w0, rfl, h1, rfl⟩ := hk
      obtain ⟨h2, h3⟩ := fin a
      exact hq _ _ _ _ h2 h3 (h1 _ _ _ hP)
section
variable {X : Cx} {CX : CXT} {k : Nat} {C p g : Addr} {mc : Value} {sp : Sp} {E : L2.St → XK} {o e : Expr} {es : List Expr} {m : Str} {pos apos : Pos} {ta : TE} {t : TA} {pl : Sem Bool}
theorem run_cmR {pins : List (Addr × Obj)} {σ : L2.St} {H : Hp} {s : Shared} {Q : VK} {us : List Value} {vs : List V} {q : Addr} (F : FnR X.prog X.w X.K X.mg X.base CX k g sp) (hr : Room k X.A) (hx : PassesAt CX X σ (E σ)) (I : Inv X ((q, PySem.W.methodObj (.ref g) (.ref C)) :: pins) σ H s)
    (r : Vals vs us) (h : sp (.ref C :: vs) H Q (E σ)) : wpAny (model X.prog X.w) X.A (call (.ref q) us) (EP X pins σ Q) X.xe s := by
  have z : wpAny (model X.prog X.w) X.A (call (.ref q) us) (EP X ((q, PySem.W.methodObj (.ref g) (.ref C)) :: pins) σ Q) X.xe s := by
    refine wpAny_call (PySem.W.method_call (ClX.pin_at I) (codeAny_mono (F X.A X.stack s H (.ref C :: us) (.ref C :: vs) Q (E σ) hr I.env0 (.cons rfl r) h) fun r s' hq => ?_))
    cases r with
    | error e => exact hx _ H s e s' I hq
    | ok fl =>
      cases fl with
      | ret u => exact I.after hq
      | next => exact False.elim hq
      | brk => exact False.elim hq
      | cont => exact False.elim hq
  exact thn z fun _ _ y => ClX.unpinE y
theorem pe_cmR (he : PE X o ta) (r : ClX.CRead X.K C mc) (c : ClX.CMet X.K C mc m p g) (F : FnR X.prog X.w X.K X.mg X.base CX k g sp) (hr : Room k X.A) (hx : ∀ σ, PassesAt CX X σ (E σ)) (ha : PA X (e :: es) t)
    (hst : starEach (e :: es) X.env = (false, eval e X.env) :: starEach es X.env := by rfl) (hpl : (backTo pos (starEach es X.env)).any (·.1) = false := by rfl)
    (ht : eval (.Call (.Attribute o m apos) (e :: es) [] pos) X.env = (do
      let ov ← eval o X.env
      standAt apos.atName
      let (f, first) ← holding [ov] (getMethod ov m pl)
      callWith pos f first (backTo pos (starEach (e :: es) X.env)) (backToKw pos (keywordEach [] X.env))) := by rfl) :
    PE X (.Call (.Attribute o m apos) (e :: es) [] pos) (tCMethS C sp E ta t) := by
  refine ⟨fun pins s σ H Q I h => ?_⟩
  refine PySem.W.methodCall_KW (pl := pl) (thn (he.run pins s σ H _ I h) fun u s1 ⟨x, H1, I1, rx, ex, q⟩ => ?_) ht
  subst ex
  obtain rfl : u = Value.ref C := rx
  refine ClX.getmethcm_ok I1 r c fun s2 I2 => ?_
  exact ClX.callwith_cm I2 (ClX.base_none I1 (Nat.le_refl _)) c.fi (thn (ha.run pos _ s2 σ H1 _ I2 q) fun us s3 ⟨vs, H2, I3, rv, q2⟩ => ⟨⟨ClX.pin_at I3, I3.kIn⟩, run_cmR F hr (hx σ) I3 rv q2⟩) hst hpl
theorem pe_cmR0 (he : PE X o ta) (r : ClX.CRead X.K C mc) (c : ClX.CMet X.K C mc m p g) (F : FnR X.prog X.w X.K X.mg X.base CX k g sp) (hr : Room k X.A) (hx : ∀ σ, PassesAt CX X σ (E σ))
    (ht : eval (.Call (.Attribute o m apos) [] [] pos) X.env = (do
      let ov ← eval o X.env
      standAt apos.atName
      let (f, first) ← holding [ov] (getMethod ov m pl)
      callWith pos f first (backTo pos (starEach [] X.env)) (backToKw pos (keywordEach [] X.env))) := by rfl) :
    PE X (.Call (.Attribute o m apos) [] [] pos) (tCMethS C sp E ta tNil) := by
  refine ⟨fun pins s σ H Q I h => ?_⟩
  refine PySem.W.methodCall_KW (pl := pl) (thn (he.run pins s σ H _ I h) fun u s1 ⟨x, H1, I1, rx, ex, q⟩ => ?_) ht
  subst ex
  obtain rfl : u = Value.ref C := rx
  refine ClX.getmethcm_ok I1 r c fun s2 I2 => ?_
  exact PySem.W.callWith_M0 (first := []) ⟨ClX.pin_at I2, I2.kIn⟩ c.fi (run_cmR (vs := []) F hr (hx σ) I2 .nil q)
end
def Kcs (P : Program) (w : World) (K : PySem.W.Frag) (mg : Str → Option Value) (base : Heap) (C : Addr) (m : Str) (k : Nat) (pre : Pre) : Prop := ∃ f mc pc, ClX.CRead K C mc ∧ ClX.CMet K C mc m pc f ∧ FnR P w K mg base (L2.CX P w) k f (stSp 1 pre)
section
variable {F : Fx} {ρ : Ty} {ω w w1 : Ow} {o e : Expr} {es : List Expr} {R : Rl} {Rs : List Rl} {pos apos : Pos} {m : Str} {k : Nat} {C : Addr} {pre : Pre}
theorem st_ok {vs : List V} {G H : Hp} {Q : VK} {E : XK} (at_ : At F w G H) (hv : All2 Rs vs G) (hz : Rs.length ≤ 1000) (hp : pre [rRef C, rTup Rs] [] (.ok R) []) (q : ∀ v G2 H2, Same G G2 → At F w G2 H2 → R.r v G2 → Q v H2) : stSp 1 pre (.ref C :: vs) H Q E := by
  refine ⟨[.ref C], vs, rfl, rfl, Nat.le_of_lt (small1000 (by rw [← hv.len]; exact hz)), fun p hn => ?_⟩
  have st := Step.new (o := .tup vs) at_.gh hn
  exact sp_ok0 (Rs := [rRef C, rTup Rs]) (at_.step st) (mk2 rfl ⟨p, vs, rfl, upd_same, hv.up st.gg⟩) hp fun v G3 H3 s3 a3 r3 => q v G3 H3 (st.gg.trans s3) a3 r3
theorem er_cmS {pl : Sem Bool} (T : Kcs F.X.prog F.X.w F.X.K F.X.mg F.X.base C m k pre) (hr : Room k F.X.A) (ho : ER F ρ ω o (rRef C) w1) (ha : AR F ρ w1 (e :: es) Rs w) (hz : Rs.length ≤ 1000) (hp : pre [rRef C, rTup Rs] [] (.ok R) [])
    (hst : starEach (e :: es) F.X.env = (false, eval e F.X.env) :: starEach es F.X.env := by rfl) (hpl : (backTo pos (starEach es F.X.env)).any (·.1) = false := by rfl)
    (ht : eval (.Call (.Attribute o m apos) (e :: es) [] pos) F.X.env = (do
      let ov ← eval o F.X.env
      standAt apos.atName
      let (f, first) ← holding [ov] (getMethod ov m pl)
      callWith pos f first (backTo pos (starEach (e :: es) F.X.env)) (backToKw pos (keywordEach [] F.X.env))) := by rfl) : ER F ρ ω (.Call (.Attribute o m apos) (e :: es) [] pos) R w := fun σ G H at_ sl Q q => by
  obtain ⟨f, mc, pc, r, c, Fr⟩ := T
  refine ew_of (pe_cmR (E := WE F.W) pe_w r c Fr hr passW pa_w hst hpl ht) (ho σ G H at_ sl _ fun v G1 H1 s1 a1 r1 => ⟨r1, ha σ G1 H1 a1 (sl.up s1) _ fun vs G2 H2 s2 a2 r2 => ?_⟩)
  exact st_ok a2 r2 hz hp fun v G3 H3 s3 a3 r3 => q v G3 H3 ((s1.trans s2).trans s3) a3 r3
theorem er_cmS0 {pl : Sem Bool} (T : Kcs F.X.prog F.X.w F.X.K F.X.mg F.X.base C m k pre) (hr : Room k F.X.A) (ho : ER F ρ ω o (rRef C) w) (hp : pre [rRef C, rTup []] [] (.ok R) [])
    (ht : eval (.Call (.Attribute o m apos) [] [] pos) F.X.env = (do
      let ov ← eval o F.X.env
      standAt apos.atName
      let (f, first) ← holding [ov] (getMethod ov m pl)
      callWith pos f first (backTo pos (starEach [] F.X.env)) (backToKw pos (keywordEach [] F.X.env))) := by rfl) : ER F ρ ω (.Call (.Attribute o m apos) [] [] pos) R w := fun σ G H at_ sl Q q => by
  obtain ⟨f, mc, pc, r, c, Fr⟩ := T
  refine ew_of (pe_cmR0 (E := WE F.W) pe_w r c Fr hr passW ht) (ho σ G H at_ sl _ fun v G1 H1 s1 a1 r1 => ⟨r1, ?_⟩)
  exact st_ok (Rs := []) a1 trivial (Nat.zero_le _) hp fun v G3 H3 s3 a3 r3 => q v G3 H3 (s1.trans s3) a3 r3
end
end W1
set_option maxRecDepth 100000
set_option maxHeartbeats 4000000
set_option exponentiation.threshold 20000
namespace W1
open PySem PySem.Spec PyProof.Rows L2 NdefX TL NumText
/-! ### a pool with a counter: draws -/
def absI (c : Int) : Int := if c < 0 then -c else c
def plS (c : Int) : Pool := (absI c, 0, decide (10 ^ 18 ≤ absI c))
def tkM (s : Pool) : Int := ((((s.1.fmod 2147483647 * 48271 + (s.2.1 + 1) * 69621 + 11) ^ 5).fmod 2147483647 * 40692 + (s.2.1 + 1) * 16811 + 7) ^ 3).fmod 2147483629
def tkR (s : Pool) (L : Int) : Int := if s.2.2 then s.1.fmod L else ((tkM s).fdiv 32).fmod L
/-- how often it was drawn from -/
def PlB (n : Nat) (s : Pool) : Prop := 0 ≤ s.2.1 ∧ s.2.1 ≤ (n : Int)
theorem PlB.mono {m n : Nat} {s : Pool} (h : PlB m s) (l : m ≤ n) : PlB n s := ⟨h.1, by have := h.2; omega⟩
theorem PlB.dr {n : Nat} {s : Pool} {L : Int} (h : PlB n s) : PlB (n + 1) (drS s L) := ⟨by have := h.1; show 0 ≤ s.2.1 + 1; omega, by have := h.2; show s.2.1 + 1 ≤ _; omega⟩
theorem PlB.new {c : Int} : PlB 0 (plS c) := ⟨Int.le_refl _, Int.le_refl _⟩
theorem tkR_lt {s : Pool} {L : Int} (h : 0 < L) : 0 ≤ tkR s L ∧ tkR s L < L := by
  unfold tkR
  split <;> exact ⟨Int.fmod_nonneg_of_pos _ h, Int.fmod_lt_of_pos _ h⟩
def pPool : PreN := fun Rs w O w' => ∃ c : Int, Rs = [rInt c] ∧ w = [] ∧ w' = [] ∧ O = oPool (plS c)
def pTake : Pre := fun Rs w o w' => ∃ (q : Addr) (s : Pool) (L : Int), 0 < L ∧ L.natAbs < 2 ^ 9000 ∧ PlB 1000000 s ∧ Rs = [rRef q, rInt L] ∧ w = [(q, oPool s)] ∧ w' = [(q, oPool (drS s L))] ∧ o = .ok (rInt (tkR s L))
theorem takeOk {q : Addr} {s : Pool} {L : Int} {n : Nat} (b : PlB n s) (h : 0 < L := by decide) (h2 : L.natAbs < 2 ^ 64 := by decide) (hn : n ≤ 1000000 := by omega) : pTake [rRef q, rInt L] [(q, oPool s)] (.ok (rInt (tkR s L))) [(q, oPool (drS s L))] := ⟨q, s, L, h, lt9000 h2 (by decide), b.mono hn, rfl, rfl, rfl, rfl⟩
theorem pool1 {a b : Int} (hb : 0 ≤ b ∧ b ≤ 1000000) : (a.fmod 2147483647 * 48271 + (b + 1) * 69621 + 11).natAbs < 2 ^ 64 := by
  have h1 := Int.fmod_nonneg_of_pos a (show (0 : Int) < 2147483647 by decide)
  have h2 := Int.fmod_lt_of_pos a (show (0 : Int) < 2147483647 by decide)
  have : (2 : Nat) ^ 64 = 18446744073709551616 := by decide
  omega
theorem pool2 {a b : Int} (hb : 0 ≤ b ∧ b ≤ 1000000) : (a.fmod 2147483647 * 40692 + (b + 1) * 16811 + 7).natAbs < 2 ^ 64 := by
  have h1 := Int.fmod_nonneg_of_pos a (show (0 : Int) < 2147483647 by decide)
  have h2 := Int.fmod_lt_of_pos a (show (0 : Int) < 2147483647 by decide)
  have : (2 : Nat) ^ 64 = 18446744073709551616 := by decide
  omega
section
variable {P : Program} {w : World} {K : PySem.W.Frag} {mg : Str → Option Value} {base : Heap} {C B f : Addr} {fd : FuncData}
theorem kf_cell (Fn : Fun K "_law_cell" "_law_cell" s__law_cell f fd) (len : mg "len" = none) : FnOk P w K mg base (L2.CX P w) 1 f fd P__law_cell (spM (pAt K)) := by
  refine fn_ok Fn c__law_cell (fun _ _ _ _ ⟨_, _, h, _⟩ => by rw [h]; rfl) ?_
  rintro cdv A outer s H E ⟨_, G0, H0, M, W, tk⟩ hr rfl Rs ω o ω' ⟨⟨ns, k⟩, -, rfl, rfl, rfl, rfl⟩
  refine hb_if (tr_cmp (er_var 1 rfl) (er_callB cop_lenS rfl len bt_len (ar_cons (er_var 0 rfl) ar_nil)) bop_lt) (fun hb => ?_) (fun hb => hb_nil ?_)
  · have h : k < ns.length := by
      have e : (k : Int) < ((ns.map V.int).length : Int) := of_decide_eq_true hb
      rw [List.length_map] at e
      omega
    refine hb_ret (er_ix (er_var 0 rfl) (er_var 1 rfl) (iop_S (v := .int (atS ns k)) ?_)) ⟨_, [], rfl, fun _ _ h => h, rfl⟩
    unfold atI
    rw [List.length_map, ixN_at h]
    show (ns.map V.int)[k]? = _
    rw [List.getElem?_map, List.getElem?_eq_getElem h]
    unfold atS
    rw [List.getD_eq_getElem?_getD, List.getElem?_eq_getElem h]
    rfl
  · have h : ns.length ≤ k := by
      have e : ¬ (k : Int) < ((ns.map V.int).length : Int) := of_decide_eq_false hb
      rw [List.length_map] at e
      omega
    refine hb_ret er_int ⟨_, [], rfl, fun v G z => ?_, rfl⟩
    show v = V.int (atS ns k)
    unfold atS
    rw [List.getD_eq_getElem?_getD, List.getElem?_eq_none h]
    exact z
theorem kf_pool (Fn : Fun K "_law_pool" "_law_pool" s__law_pool f fd) (abs_ : mg "abs" = none) : FnOk P w K mg base (L2.CX P w) 1 f fd P__law_pool (spN pPool) := by
  refine fn_okN Fn c__law_pool (fun _ _ _ _ ⟨_, h, _⟩ => by rw [h]; rfl) ?_
  rintro cdv A outer s H E ⟨_, G0, H0, M, W, tk⟩ hr rfl Rs ω o ω' ⟨c, rfl, rfl, rfl, rfl⟩
  have ab : ∀ {p q : Pos} {F : Fx} {ρ : Ty} {ω : Ow}, True := fun {_ _ _ _ _} => trivial
  refine hb_retO (en_lst (Rs := [rInt (absI c), rInt 0, rBool (decide (10 ^ 18 ≤ absI c))]) (ar_cons (er_bA (ar_cons (er_v 0 rfl rfl) ar_nil) abs_ bt_abs cop_abs) (ar_cons er_int (ar_cons (er_cmp (er_bA (ar_cons (er_v 0 rfl rfl) ar_nil) abs_ bt_abs cop_abs) (er_bin er_int er_int (bop_pow ⟨by decide, by decide, by decide⟩)) bop_ge) ar_nil))) (Nat.le_of_ble_eq_true rfl)) fun q hM => ⟨q, [], fun _ _ h => h, List.not_mem_nil, rfl⟩
theorem kf_take (Fn : Fun K "_law_take" "_law_take" s__law_take f fd) (int : mg "int" = none) : FnOk P w K mg base (L2.CX P w) 1 f fd P__law_take (spM pTake) := by
  refine fn_ok Fn c__law_take (fun _ _ _ _ ⟨_, _, _, _, _, _, h, _⟩ => by rw [h]; rfl) ?_
  rintro cdv A outer s H E ⟨_, G0, H0, M, W, tk⟩ hr rfl Rs ω o ω' ⟨q, ⟨c, n, g⟩, L, h0, hz, hb, rfl, rfl, rfl, rfl⟩
  have nd := c__law_take.nd
  have hb' : 0 ≤ n ∧ n ≤ 1000000 := ⟨hb.1, hb.2⟩
  refine hb_sub (w3 := []) (er_bin (er_ixO (er_v 0 rfl rfl) er_int List.mem_cons_self rfl rfl) er_int bop_add) (er_v 0 rfl rfl) er_int rfl ?_
  refine hb_if (tr_val (er_ixO (er_v 0 rfl rfl) er_int List.mem_cons_self rfl rfl)) (fun hg => ?_) (fun hg => hb_nil ?_)
  · have hg' : g = true := hg
    subst hg'
    refine hb_setA 2 rfl (er_bin (er_tA (ar_cons (er_ixO (er_v 0 rfl rfl) er_int List.mem_cons_self rfl rfl) ar_nil) int bt_int cop_int) (er_v 1 rfl rfl) (bop_mod (by omega))) ?_
    refine hb_sub (w3 := []) (er_bin (er_tA (ar_cons (er_ixO (er_v 0 rfl rfl) er_int List.mem_cons_self rfl rfl) ar_nil) int bt_int cop_int) (er_v 1 rfl rfl) (bop_fdiv (divok (n := 9000) (by omega) hz))) (er_v 0 rfl rfl) er_int rfl ?_
    exact hb_ret (er_v 2 rfl rfl) ⟨_, [], rfl, fun _ _ h => h, rfl⟩
  · have hg' : g = false := hg
    subst hg'
    refine hb_setA (R := rInt ((((c.fmod 2147483647 * 48271 + (n + 1) * 69621 + 11) ^ 5).fmod 2147483647))) 3 rfl (er_bin (er_bin (er_tA (ar_cons (er_bin (er_bin (er_bin (er_bin (er_tA (ar_cons (er_ixO (er_v 0 rfl rfl) er_int List.mem_cons_self rfl rfl) ar_nil) int bt_int cop_int) er_int (bop_mod (by decide))) er_int (bop_mul (IntMulOk.of_right (by decide)))) (er_bin (er_ixO (er_v 0 rfl rfl) er_int List.mem_cons_self rfl rfl) er_int (bop_mul (IntMulOk.of_right (by decide)))) bop_add) er_int bop_add) ar_nil) int bt_int cop_int) er_int (bop_pow ⟨by decide, by decide, pool1 hb'⟩)) er_int (bop_mod (by decide))) ?_
    refine hb_setA (R := rInt (tkM (c, n, false))) 3 rfl (er_bin (er_bin (er_tA (ar_cons (er_bin (er_bin (er_bin (er_v 3 rfl rfl) er_int (bop_mul (IntMulOk.of_right (by decide)))) (er_bin (er_ixO (er_v 0 rfl rfl) er_int List.mem_cons_self rfl rfl) er_int (bop_mul (IntMulOk.of_right (by decide)))) bop_add) er_int bop_add) ar_nil) int bt_int cop_int) er_int (bop_pow ⟨by decide, by decide, pool2 hb'⟩)) er_int (bop_mod (by decide))) ?_
    exact hb_ret (er_bin (er_bin (er_v 3 rfl rfl) er_int (bop_fdiv ⟨by decide, by decide⟩)) (er_v 1 rfl rfl) (bop_mod (by omega))) ⟨_, [], rfl, fun _ _ h => h, rfl⟩
end
/-! ### a list in a drawn order -/
def shG {α : Type} : Nat → Pool → List α → List α
  | 0, _, _ => []
  | n + 1, s, l => (match l[(tkR s l.length).toNat]? with | some a => [a] | none => []) ++ shG n (drS s l.length) (l.eraseIdx (tkR s l.length).toNat)
def shS : Nat → Pool → Nat → Pool
  | 0, s, _ => s
  | n + 1, s, k => shS n (drS s k) (k - 1)
theorem erase_mapK {α β : Type} {f : α → β} : ∀ (l : List α) (i : Nat), (l.map f).eraseIdx i = (l.eraseIdx i).map f
  | [], _ => rfl
  | _ :: _, 0 => rfl
  | a :: l, i + 1 => by rw [List.map_cons, List.eraseIdx_cons_succ, List.eraseIdx_cons_succ, List.map_cons, erase_mapK l i]
theorem shG_map {α β : Type} {A : α → β} : ∀ (n : Nat) (s : Pool) (l : List α), shG n s (l.map A) = (shG n s l).map A
  | 0, _, _ => rfl
  | n + 1, s, l => by
    unfold shG
    rw [List.length_map, List.getElem?_map, List.map_append, erase_mapK, shG_map n]
    cases l[(tkR s l.length).toNat]? <;> rfl
theorem erase_permK {α : Type} {l : List α} {i : Nat} {a : α} (h : l[i]? = some a) : (a :: l.eraseIdx i).Perm l := by
  induction l generalizing i with
  | nil => simp at h
  | cons b l ih =>
    cases i with
    | zero => simp at h; subst h; exact List.Perm.refl _
    | succ i =>
      simp only [List.getElem?_cons_succ] at h
      exact (List.Perm.swap _ _ _).trans (List.Perm.cons b (ih h))
theorem shG_succ {α : Type} {n : Nat} {s : Pool} {l : List α} {a : α} (h : l[(tkR s l.length).toNat]? = some a) : shG (n + 1) s l = a :: shG n (drS s l.length) (l.eraseIdx (tkR s l.length).toNat) := by
  rw [shG, h]
  rfl
theorem shG_perm {α : Type} : ∀ (n : Nat) (s : Pool) (l : List α), l.length = n → (shG n s l).Perm l
  | 0, _, l, h => by rw [List.length_eq_zero_iff.mp h]; exact List.Perm.refl _
  | n + 1, s, l, h => by
    have hd := tkR_lt (s := s) (L := (l.length : Int)) (by omega)
    have hl : (tkR s l.length).toNat < l.length := by omega
    unfold shG
    rw [List.getElem?_eq_getElem hl]
    refine List.Perm.trans (List.Perm.cons _ (shG_perm n (drS s l.length) _ ?_)) (erase_permK (List.getElem?_eq_getElem hl))
    rw [List.length_eraseIdx_of_lt hl]
    omega
def pShuf : Pre := fun Rs w o w' => ∃ (q : Addr) (s : Pool) (As : List Rl) (m : Nat), PlB m s ∧ m + As.length ≤ 1000000 ∧ As.length ≤ 1000 ∧ Rs = [rRef q, rLst As] ∧ w = [(q, oPool s)] ∧ w' = [(q, oPool (shS As.length s As.length))] ∧ o = .ok (rLst (shG As.length s As))
theorem shufOk {α : Type} {A : α → Rl} {q : Addr} {s : Pool} {xs : List α} {n m : Nat} (hl : xs.length = n) (hb : PlB m s) (h1 : m + n ≤ 1000000) (h2 : n ≤ 1000) : pShuf [rRef q, rLst (xs.map A)] [(q, oPool s)] (.ok (rLst ((shG n s xs).map A))) [(q, oPool (shS n s n))] := by
  subst hl
  exact ⟨q, s, xs.map A, m, hb, by rw [List.length_map]; exact h1, by rw [List.length_map]; exact h2, rfl, rfl, by rw [List.length_map], by rw [List.length_map, shG_map]⟩
section
variable {P : Program} {w : World} {K : PySem.W.Frag} {mg : Str → Option Value} {base : Heap} {C B f : Addr} {fd : FuncData}
theorem kf_shuf (Fn : Fun K "_law_shuffled" "_law_shuffled" s__law_shuffled f fd) (Tt : Kf1 P w K mg base "_law_take" 1 pTake) (len : mg "len" = none) (ls : mg "list" = none) (rg : mg "range" = none) : FnOk P w K mg base (L2.CX P w) 2 f fd P__law_shuffled (spM pShuf) := by
  refine fn_ok Fn c__law_shuffled (fun _ _ _ _ ⟨_, _, _, _, _, _, _, h, _⟩ => by rw [h]; rfl) ?_
  rintro cdv A outer s0 H E ⟨_, G0, H0, M, W, tk⟩ hr rfl Rs ω o ω' ⟨q, s, As, m, hb, hm, hz, rfl, rfl, rfl, rfl⟩
  have nd := c__law_shuffled.nd
  refine hb_setNA 2 rfl (en_tA (ar_cons (er_v 1 rfl rfl) ar_nil) ls bt_list copN_listL) fun ql hql => ?_
  refine hb_setNA 3 rfl (en_lst (Rs := []) ar_nil (Nat.zero_le _)) fun qt hqt => ?_
  refine hb_for (it_rng1 (n := (As.length : Int)) (ar_cons (er_bA (ar_cons (er_v 1 rfl rfl) ar_nil) len bt_len cop_lenL) ar_nil) rfl rg (by omega)) (fun k ρ w => ∃ T L s1 z n, k + n = As.length ∧ L.length = n ∧ T.length = k ∧ PlB (m + k) s1 ∧ T ++ shG n s1 L = shG As.length s As ∧ shS n s1 n = shS As.length s As.length ∧ ρ = [some (rRef q), some (rLst As), some (rRef ql), some (rRef qt), z] ∧ w = [(qt, oL T), (ql, oL L), (q, oPool s1)])
    ⟨[], As, s, none, As.length, by omega, rfl, rfl, hb, rfl, rfl, rfl, rfl⟩ ?_ ?_ (passes_of rfl) (pg_name (i := 4) nd rfl (Or.inl rfl))
  · rintro k ρ w S hS ⟨T, L, s1, z, n, hk, hl, ht, hp, e1, e2, rfl, rfl⟩
    obtain ⟨hk1, rfl⟩ := rng_get hS
    have hk1 : k < As.length := by omega
    obtain ⟨n, rfl⟩ : ∃ n', n = n' + 1 := ⟨n - 1, by omega⟩
    have hd := tkR_lt (s := s1) (L := (L.length : Int)) (by omega)
    have hil : (tkR s1 L.length).toNat < L.length := by omega
    obtain ⟨B, hB⟩ : ∃ B, L[(tkR s1 L.length).toNat]? = some B := ⟨_, List.getElem?_eq_getElem hil⟩
    refine ⟨_, ge_name, ?_⟩
    refine hb_append (R := B) (w2 := [(ql, oL (L.eraseIdx (tkR s1 L.length).toNat)), (q, oPool (drS s1 L.length))]) (er_v 3 rfl rfl) List.mem_cons_self (ar_cons (er_perm (er_popAt (i := tkR s1 L.length) (w2 := [(qt, oL T), (q, oPool (drS s1 L.length))]) (er_v 2 rfl rfl) (er_perm (er_f1 2 Tt hr (ar_cons (er_v 0 rfl rfl) (ar_cons (er_bA (ar_cons (er_v 2 rfl rfl) ar_nil) len bt_len (cop_lenO (List.mem_cons_of_mem _ List.mem_cons_self))) ar_nil)) rfl (takeOk hp (by omega) (Nat.lt_of_le_of_lt (show _ ≤ 1000 by omega) (by decide)) (by omega))) (List.Perm.swap _ _ _)) (List.mem_cons_of_mem _ List.mem_cons_self) hd.1 (by omega) (seq_in hd.1 (by omega)) hB) (List.Perm.swap _ _ _)) ar_nil) (by omega) ?_
    refine hb_nil ⟨T ++ [B], L.eraseIdx (tkR s1 L.length).toNat, drS s1 L.length, _, n, by omega, by rw [List.length_eraseIdx_of_lt hil]; omega, by rw [List.length_append, ht]; rfl, hp.dr, ?_, ?_, rfl, rfl⟩
    · rw [← e1, shG_succ hB, List.append_assoc]
      rfl
    · rw [← e2]
      show _ = shS n (drS s1 ((n + 1 : Nat) : Int)) (n + 1 - 1)
      rw [hl]
      rfl
  · rintro ρ w ⟨T, L, s1, z, n, hk, hl, ht, hp, e1, e2, rfl, rfl⟩
    rw [rng_len] at hk
    have hn : n = 0 := by omega
    subst hn
    have eT : T = shG As.length s As := by rw [← e1]; exact (List.append_nil _).symm
    have eS : s1 = shS As.length s As.length := e2
    subst eT eS
    refine hb_pub 3 rfl hqt pub_lst ?_
    exact hb_ret (er_perm (er_v 3 rfl rfl) (List.Perm.swap _ _ _)) ⟨_, [(ql, oL L)], rfl, fun v G h => h, rfl⟩
end
end W1
set_option maxRecDepth 100000
set_option maxHeartbeats 4000000
set_option exponentiation.threshold 20000
namespace W1
open PySem PySem.Spec PyProof.Rows L2 NdefX TL NumText
structure PolyX (K : PySem.W.Frag) (mg : Str → Option Value) (Po : Addr) : Prop where
  cx : ClsX K Po
  nP : NoAttr K Po "parts"
  gP : mg "Poly" = some (.ref Po)
  nf : PySem.W.notFirst K Po (.ref Po) = true
def polyF (R : Addr) (qs : List Rat) : List (Str × Rl) := [("parts", rTup ((trimQ qs).map (rRat R)))]
abbrev rPoly (Po R : Addr) (qs : List Rat) : Rl := rIns Po (polyF R qs)
def pTrim (R : Addr) : Pre := fun Rs w o w' => ∃ A qs, SVar A w (qs.map (rRat R)) ∧ qs.length ≤ 1000 ∧ Rs = [A] ∧ w' = w ∧ o = .ok (rTup ((trimQ qs).map (rRat R)))
def pPInit (Po R : Addr) : Pre := fun Rs w o w' => ∃ q A qs w1, SVar A w1 (qs.map (rRat R)) ∧ qs.length ≤ 1000 ∧ Rs = [rRef q, A] ∧ w = (q, oIns Po []) :: w1 ∧ w' = (q, oIns Po (polyF R qs)) :: w1 ∧ o = .ok rNon
def pPEq (Po R : Addr) : Pre := fun Rs w o w' => w = [] ∧ w' = [] ∧ ∃ xs, ((∃ ys, Rs = [rPoly Po R xs, rPoly Po R ys] ∧ o = .ok (rBool (decide (trimQ xs = trimQ ys)))) ∨ (∃ i, Rs = [rPoly Po R xs, rInt i] ∧ o = .ok (rBool false)) ∨ (∃ Ss, Rs = [rPoly Po R xs, rLst Ss] ∧ o = .ok (rBool false)))
theorem cut_last {α : Type} {f : α → Rl} {ys : List α} {q : α} : cutR ((ys ++ [q]).map f) none (some (-1)) = ys.map f := by
  unfold cutR
  rw [HT.sIx_none, List.length_map, List.length_append, List.length_singleton]
  have e : HT.sIx (ys.length + 1) (ys.length + 1) (some (-1)) = ys.length := by
    first
      | (unfold HT.sIx; simp; omega)
      | (unfold HT.sIx; simp)
  rw [e, List.drop_zero, Nat.sub_zero, List.map_append, List.take_append_of_le_length (by rw [List.length_map]; exact Nat.le_refl _), List.take_of_length_le (by rw [List.length_map]; exact Nat.le_refl _)]
section
variable {P : Program} {w : World} {K : PySem.W.Frag} {mg : Str → Option Value} {base : Heap} {Po R M f : Addr} {fd : FuncData}
theorem kf_trim (Fn : Fun K "trimmed" "trimmed" s_trimmed f fd) (X : RatX K mg R) (Tb : Ko P w K mg base R "__bool__" 5 (pBool R)) (ls : mg "list" = none) (tu : mg "tuple" = none) : FnOk P w K mg base (L2.CX P w) 6 f fd P_trimmed (spM (pTrim R)) := by
  refine fn_ok Fn c_trimmed (fun _ _ _ _ ⟨_, _, _, _, h, _⟩ => by rw [h]; rfl) ?_
  rintro cdv A outer s H E ⟨_, G0, H0, M', W', tk⟩ hr rfl Rs ω o ω' ⟨A1, qs, v1, hz, rfl, rfl, rfl⟩
  have nd := c_trimmed.nd
  refine hb_setA (R := rLst (qs.map (rRat R))) (w1 := ω') 1 rfl (er_tA (ar_cons (er_v 0 rfl rfl) ar_nil) ls bt_list (cop_listIs (v1.isq fun _ h => h))) ?_
  refine hb_while (fun m ρ w => ∃ xs : List Rat, m = xs.length ∧ trimQ xs = trimQ qs ∧ w = ω' ∧ ρ = [some A1, some (rLst (xs.map (rRat R)))]) qs.length ⟨qs, rfl, rfl, rfl, rfl⟩ ?_ (passes_of rfl)
  rintro m ρ w ⟨xs, rfl, ht, rfl, rfl⟩
  rcases List.eq_nil_or_concat xs with rfl | ⟨ys, q, rfl⟩
  · refine ⟨false, w, tr_to (PWR.tr (tr_and (k := false) (m := false) (tr_to (tr_lstE (er_v 1 rfl rfl)) rfl) fun z => Bool.noConfusion z)) rfl, fun z => Bool.noConfusion z, fun _ => ?_⟩
    refine hb_ret (er_tA (ar_cons (er_v 1 rfl rfl) ar_nil) tu bt_tup cop_tupL) ⟨_, [], rfl, fun v G h => ?_, (List.append_nil _).symm⟩
    rw [← ht]
    exact h
  · have ix : ∀ {F : Fx} {w : Ow}, Iop F w (rLst ((ys ++ [q]).map (rRat R))) (rInt (-1)) (rRat R q) := fun {F w} => iop_L (n := ys.length) (by
      unfold ixN
      rw [List.length_map, List.length_append, List.length_singleton]
      simp
      omega) (by rw [List.map_append, List.getElem?_append_right (by rw [List.length_map]; exact Nat.le_refl _), List.length_map, Nat.sub_self]; rfl)
    rw [List.concat_eq_append] at ht ⊢
    refine ⟨!(q.num != 0), w, tr_to (PWR.tr (tr_and (k := true) (m := !(q.num != 0)) (tr_to (tr_lstE (er_v 1 rfl rfl)) ?_) fun _ => tr_and1 (tr_not (tr_o Tb (hr.mono (by decide)) (er_ix (er_v 1 rfl rfl) (er_un er_int uop_neg) ix) pBoolOk)))) (Bool.true_and _), fun hb => ?_, fun hb => ?_⟩
    · rw [decide_eq_false (by simp)]
      rfl
    · have h0 : q = 0 := Rat.num_eq_zero.mp (by simpa using hb)
      subst h0
      refine hb_setA (R := rLst (ys.map (rRat R))) (w1 := w) 1 rfl (er_eq (er_slice (er_v 1 rfl rfl) pr_none (pr_some (er_un er_int uop_neg)) sop_L) (congrArg rLst cut_last)) (hb_nil ⟨ys.length, ?_, ys, rfl, ?_, rfl, rfl⟩)
      · rw [List.length_append, List.length_singleton]; omega
      · rw [← ht, trim_zero]
    · have h0 : q ≠ 0 := fun z => by rw [z] at hb; exact Bool.noConfusion hb
      refine hb_ret (er_tA (ar_cons (er_v 1 rfl rfl) ar_nil) tu bt_tup cop_tupL) ⟨_, [], rfl, fun v G h => ?_, (List.append_nil _).symm⟩
      rw [← ht, trim_last h0]
      exact h
theorem kf_pinit (Fn : Fun K "__init__" "Poly.__init__" s_Poly___init__ f fd) (Y : PolyX K mg Po) (Tt : Kf1 P w K mg base "trimmed" 6 (pTrim R)) : FnOk P w K mg base (L2.CX P w) 7 f fd P_Poly___init__ (spM (pPInit Po R)) := by
  refine fn_ok Fn c_Poly___init__ (fun _ _ _ _ ⟨_, _, _, _, _, _, h, _⟩ => by rw [h]; rfl) ?_
  rintro cdv A outer s H E ⟨_, G0, H0, M', W', tk⟩ hr rfl Rs ω o ω' ⟨q, A1, qs, w1, v1, hz, rfl, rfl, rfl, rfl⟩
  refine hb_fld (R := rTup ((trimQ qs).map (rRat R))) (w2 := w1) (er_perm (er_fn (wc := w1) (wc' := w1) (w := [(q, oIns Po [])]) Tt hr (ar_perm (ar_cons (er_v 1 rfl rfl) ar_nil) (List.perm_append_singleton _ _).symm) ⟨A1, qs, v1, hz, rfl, rfl, rfl⟩) (List.perm_append_singleton _ _)) (er_v 0 rfl rfl) Y.cx.cls Y.nP ?_
  exact hb_nil ⟨rNon, [], rfl, fun _ => rfl, (List.append_nil _).symm⟩
theorem kf_peq (Fn : Fun K "__eq__" "Poly.__eq__" s_Poly___eq__ f fd) (Y : PolyX K mg Po) (Te : Ko P w K mg base R "__eq__" 5 (pEq R)) (hn : PySem.W.notFirst K R (.ref R) = true) (ii : mg "isinstance" = none) (ki : PySem.W.kitOne K (.type "int") (.ref Po) = some false) (kl : PySem.W.kitOne K (.type "list") (.ref Po) = some false) : FnOk P w K mg base (L2.CX P w) 7 f fd P_Poly___eq__ (spM (pPEq Po R)) := by
  refine fn_ok Fn c_Poly___eq__ (fun _ _ _ _ ⟨_, _, _, h⟩ => by rcases h with ⟨_, h, _⟩ | ⟨_, h, _⟩ | ⟨_, h, _⟩ <;> rw [h] <;> rfl) ?_
  rintro cdv A outer s H E ⟨_, G0, H0, M', W', tk⟩ hr rfl Rs ω o ω' ⟨rfl, rfl, xs, ho⟩
  rcases ho with ⟨ys, rfl, rfl⟩ | ⟨i, rfl, rfl⟩ | ⟨Ss, rfl, rfl⟩
  · exact hb_ret (er_and (k := true) (m := decide (trimQ xs = trimQ ys)) (er_bA (ar_cons (er_v 1 rfl rfl) (ar_cons (er_gC Y.gP) ar_nil)) ii bt_isi (cop_isIns Y.cx)) fun _ => er_one (er_cmp (er_fld (er_v 0 rfl rfl) Y.cx.cls Y.nP rfl) (er_fld (er_v 1 rfl rfl) Y.cx.cls Y.nP rfl) (bop_eqTQ Te hn hr))) ⟨_, [], rfl, fun v G h => h, rfl⟩
  · exact hb_ret (er_and (k := false) (m := false) (er_bA (ar_cons (er_v 1 rfl rfl) (ar_cons (er_gC Y.gP) ar_nil)) ii bt_isi (cop_isNot (.inl ⟨i, rfl, rfl⟩) ki)) fun z => Bool.noConfusion z) ⟨_, [], rfl, fun v G h => h, rfl⟩
  · exact hb_ret (er_and (k := false) (m := false) (er_bA (ar_cons (er_v 1 rfl rfl) (ar_cons (er_gC Y.gP) ar_nil)) ii bt_isi (cop_isLst kl)) fun z => Bool.noConfusion z) ⟨_, [], rfl, fun v G h => h, rfl⟩
end
abbrev N_PolyW : List Str := ["cls", "numbers", "number"]
theorem c_PolyW : FnScope N_PolyW ([("cls" : Str)] ++ [("numbers" : Str)]) (defScope s_Poly_whole) := ⟨rfl, rfl, rfl, by decide +kernel, rfl, by decide +kernel, by decide +kernel⟩
def intsQ (ns : List Int) : List Rat := ns.map fun n : Int => (n : Rat)
def pWholeP (Po R : Addr) : Pre := fun Rs w o w' => ∃ ns : List Int, ns.length ≤ 100 ∧ Rs = [rRef Po, rTup (ns.map rInt)] ∧ w = [] ∧ w' = [] ∧ o = .ok (rPoly Po R (intsQ ns))
section
variable {P : Program} {w : World} {K : PySem.W.Frag} {mg : Str → Option Value} {base : Heap} {Po R M f : Addr} {fd : FuncData}
theorem kf_pwhole (Fn : Fun K "whole" "Poly.whole" s_Poly_whole f fd) (Y : PolyX K mg Po) (X : RatX K mg R) (Tw : Kcm P w K mg base R "whole" 37 (pWhole R)) (Ti : Kc P w K mg base Po "Poly" 7 (pPInit Po R)) : FnR P w K mg base (L2.CX P w) 38 f (stSp 1 (pWholeP Po R)) := by
  refine fn_okS (ps := ["cls"]) (pv := "numbers") Fn c_PolyW (fun kV doc pm an cdv ct => StX.bind_star1 (B := fun us => bindArgs (PySem.W.fnOf "whole" "Poly.whole" (defArgs s_Poly_whole) (defBody s_Poly_whole) (defScope s_Poly_whole) .none kV doc pm an cdv ct) ⟨us, []⟩) (p1 := "cls") (pv := "numbers") (fun a => rfl) (fun a r rs => rfl)) ?_
  rintro cdv A outer s H E ⟨_, G0, H0, M', W', tk⟩ hr rfl Rs ω o ω' ⟨ns, hz, rfl, rfl, rfl, rfl⟩
  have nd := c_PolyW.nd
  refine hb_ret (R := rPoly Po R (intsQ ns)) (er_cS (wc := []) (fs := polyF R (intsQ ns)) Ti (hr.mono (by decide)) (ar_cons (R := rLst ((intsQ ns).map (rRat R))) (er_eq (er_lc (xs := ns) (A := rInt) (B := fun n : Int => rRat R (n : Rat)) (it_tup (er_v 1 rfl rfl)) (by omega) [("number", 2)] (blkOk_by (N := N_PolyW) (sc := defScope s_Poly_whole) (by decide +kernel)) (fun _ _ _ _ _ => pg_name (i := 2) nd rfl (Or.inl rfl)) (fun i n h => gew_name) (fun i n hi s1 H1 cc cl fp d => er_cm Tw hr (er_gC X.gC) (ar_cons (er_v 2 rfl rfl) ar_nil) (pWholeOk (n := n))) nd) ?_) ar_nil) Sub.nil fun q => ⟨q, _, intsQ ns, [], .inl ⟨rfl, rfl⟩, ?_, rfl, rfl, rfl, rfl⟩) ⟨_, [], rfl, fun v G h => h, rfl⟩
  · unfold intsQ
    rw [List.map_map]
    rfl
  · unfold intsQ
    rw [List.length_map]
    omega
end
/-! ### what a polynomial's methods want -/
abbrev rPl (Po R : Addr) (a : List Rat) : Rl := rIns Po [("parts", rTup (a.map (rRat R)))]
structure PwX (P : Program) (w : World) (K : PySem.W.Frag) (mg : Str → Option Value) (base : Heap) (Po R M : Addr) : Prop where
  X : RatX K mg R
  Y : PolyX K mg Po
  Tr : Kc P w K mg base R "Ratio" 35 (pInitW R M)
  Tw : Kcm P w K mg base R "whole" 37 (pWhole R)
  Ta : Ko P w K mg base R "__add__" 37 (pAddW R)
  Ts : Ko P w K mg base R "__sub__" 37 (pSubW R)
  Tm : Ko P w K mg base R "__mul__" 37 (pMulW R)
  Tn : Ko P w K mg base R "__neg__" 37 (pNegW R)
  Tq : Km P w K mg base R "quotient" 37 (pQuoW R M)
  Te : Ko P w K mg base R "__eq__" 5 (pEq R)
  Tb : Ko P w K mg base R "__bool__" 5 (pBool R)
  To : Kf1 P w K mg base "total" 39 (pTotalW R)
  Tp : Kc P w K mg base Po "Poly" 7 (pPInit Po R)
  len : mg "len" = none
  mx : mg "max" = none
  rg : mg "range" = none
  en : mg "enumerate" = none
  ls : mg "list" = none
  bo : mg "bool" = none
theorem bt_max : bootBuiltins "max" = some (.builtin "max") := by decide +kernel
theorem len_map {α β : Type} {f : α → β} {xs : List α} : (((xs.map f).length : Nat) : Int) = ((xs.length : Nat) : Int) := by rw [List.length_map]
theorem co_at {a : List Rat} {k : Nat} {R : Addr} (h : k < a.length) : (a.map (rRat R))[k]? = some (rRat R (co a k)) := by
  rw [List.getElem?_map, co_in h]
  rfl
def pPart (R : Addr) : Pre := fun Rs w o w' => ∃ (a : List Rat) (k : Nat), Rs = [rTup (a.map (rRat R)), rInt ((k : Nat) : Int)] ∧ w = [] ∧ w' = [] ∧ o = .ok (rRat R (co a k))
/-- sums of products -/
structure MulOk (a b : List Rat) : Prop where
  ba : ∀ k, big (co a k)
  bb : ∀ k, big (co b k)
  bp : ∀ k, ∀ q ∈ prodL a b k, big q
  bs : ∀ k n, big (sumR ((prodL a b k).take n))
def pPPr (R : Addr) : Pre := fun Rs w o w' => ∃ (a b : List Rat) (k : Nat), MulOk a b ∧ a.length ≤ 400 ∧ Rs = [rTup (a.map (rRat R)), rTup (b.map (rRat R)), rInt ((k : Nat) : Int)] ∧ w = [] ∧ w' = [] ∧ o = .ok (rRat R (sumR (prodL a b k)))
theorem filt_range {k : Nat} : ∀ n : Nat, (List.range n).filter (fun i => decide (((i : Nat) : Int) ≤ ((k : Nat) : Int))) = List.range (min (k + 1) n)
  | 0 => by rw [Nat.min_zero]; rfl
  | n + 1 => by
    rw [List.range_succ, List.filter_append, filt_range n, List.filter_cons, List.filter_nil]
    by_cases h : n ≤ k
    · rw [if_pos (decide_eq_true (by omega)), Nat.min_eq_right (by omega), Nat.min_eq_right (by omega), List.range_succ]
    · rw [if_neg (by simp; omega), List.append_nil, Nat.min_eq_left (by omega), Nat.min_eq_left (by omega)]
theorem zip_range {a : List Rat} : a.zipIdx = (List.range a.length).map fun i => (co a i, i) := by
  refine List.ext_getElem? fun i => ?_
  rw [List.getElem?_map, List.getElem?_zipIdx]
  by_cases h : i < a.length
  · rw [co_in h, List.getElem?_range h]
    simp
  · rw [List.getElem?_eq_none (by omega), List.getElem?_eq_none (by rw [List.length_range]; omega)]
    rfl
theorem prod_zip {a b : List Rat} {k : Nat} : ((a.zipIdx.filter fun p => decide (((p.2 : Nat) : Int) ≤ ((k : Nat) : Int))).map fun p => p.1 * co b (k - p.2)) = prodL a b k := by
  rw [zip_range, List.filter_map, List.map_map]
  unfold prodL
  show ((List.range a.length).filter (fun i => decide (((i : Nat) : Int) ≤ ((k : Nat) : Int)))).map _ = _
  rw [filt_range]
  rfl
section
variable {F : Fx} {ρ : Ty} {ω w1 : Ow} {e : Expr} {pos p : Pos} {R : Addr} {a : List Rat} {elts : List Expr} {kk : Nat} {tpos : Pos}
theorem it_enumQ (he : AR F ρ ω [e] [rTup (a.map (rRat R))] w1) (hg : Gl F.X "enumerate") (hm : F.X.mg "enumerate" = none) (hs : starEach [e] F.X.env = [(false, eval e F.X.env)] := by rfl) :
    IT F ρ ω (.Tuple elts kk tpos) (.Call (.Name "enumerate" p) [e] [] pos) (a.zipIdx.map fun p => rTup [rInt ((p.2 : Nat) : Int), rRat R p.1]) w1 := by
  have h := it_enumT (elts := elts) (kk := kk) (tpos := tpos) (p := p) (pos := pos) he hg hm hs
  have e : numR (a.map (rRat R)) = a.zipIdx.map fun p => rTup [rInt ((p.2 : Nat) : Int), rRat R p.1] := by
    unfold numR
    rw [List.zipIdx_map, List.map_map]
    rfl
  rw [e] at h
  exact h
end
theorem rngN {n : Nat} : rng 0 ((n : Nat) : Int).toNat = (List.range n).map fun j : Nat => rInt (0 + (j : Int)) := by rw [rng_map, Int.toNat_natCast]
section
variable {P : Program} {w : World} {K : PySem.W.Frag} {mg : Str → Option Value} {base : Heap} {Po R M f : Addr} {fd : FuncData}
theorem kf_part (Fn : Fun K "part_of" "part_of" s_part_of f fd) (Z : PwX P w K mg base Po R M) : FnOk P w K mg base (L2.CX P w) 38 f fd P_part_of (spM (pPart R)) := by
  refine fn_ok Fn c_part_of (fun _ _ _ _ ⟨_, _, h, _⟩ => by rw [h]; rfl) ?_
  rintro cdv A outer s H E ⟨_, G0, H0, M', W', tk⟩ hr rfl Rs ω o ω' ⟨a, k, rfl, rfl, rfl, rfl⟩
  refine hb_ret (er_ifx (k := decide (((k : Nat) : Int) < ((a.length : Nat) : Int))) (tr_cmp (er_v 1 rfl rfl) (er_eq (er_bA (ar_cons (er_v 0 rfl rfl) ar_nil) Z.len bt_len cop_lenT) (congrArg rInt len_map)) bop_lt) (fun hb => ?_) (fun hb => ?_)) ⟨_, [], rfl, fun v G h => h, rfl⟩
  · have h : k < a.length := by have := of_decide_eq_true hb; omega
    exact er_ix (er_v 0 rfl rfl) (er_v 1 rfl rfl) (iop_T (n := k) (ixN_at (by rw [List.length_map]; exact h)) (co_at h))
  · have h : a.length ≤ k := by have := of_decide_eq_false hb; omega
    rw [co_out h]
    exact er_eq (er_cm Z.Tw hr (er_gC Z.X.gC) (ar_cons er_int ar_nil) (pWholeOk (n := 0))) (congrArg (rRat R) Rat.intCast_zero)
theorem kf_ppr (Fn : Fun K "product_part" "product_part" s_product_part f fd) (Z : PwX P w K mg base Po R M) (Tt : Kf1 P w K mg base "part_of" 38 (pPart R)) : FnOk P w K mg base (L2.CX P w) 40 f fd P_product_part (spM (pPPr R)) := by
  refine fn_ok Fn c_product_part (fun _ _ _ _ ⟨_, _, _, _, _, h, _⟩ => by rw [h]; rfl) ?_
  rintro cdv A outer s H E ⟨_, G0, H0, M', W', tk⟩ hr rfl Rs ω o ω' ⟨a, b, k, ok, la, rfl, rfl, rfl, rfl⟩
  have nd := c_product_part.nd
  have r37 := hr.mono (show 37 ≤ 39 by decide)
  have r38 := hr.mono (show 38 ≤ 39 by decide)
  refine hb_ret (er_fA Z.To hr (ar_cons (R := rLst ((prodL a b k).map (rRat R))) (er_eq (er_lcf (xs := a.zipIdx) (A := fun p => rTup [rInt ((p.2 : Nat) : Int), rRat R p.1]) (B := fun p => rRat R (p.1 * co b (k - p.2))) (p := fun p => decide (((p.2 : Nat) : Int) ≤ ((k : Nat) : Int))) (it_enumQ (ar_cons (er_v 0 rfl rfl) ar_nil) rfl Z.en) (by rw [List.length_zipIdx]; omega) [("place", 3), ("part", 4)] (blkOk_by (N := N_product_part) (sc := defScope s_product_part) (by decide +kernel)) (fun _ _ _ _ _ => pg_tup rfl (pgs_cons (pg_name (i := 3) nd rfl (by first | exact Or.inl rfl | exact Or.inr rfl)) (pgs_cons (pg_name (i := 4) nd rfl (by first | exact Or.inl rfl | exact Or.inr rfl)) pgs_nil))) (fun i p hp => gew_tup2)
      (fun i p hp s H0 cc cl' fp d => tr_cmp (er_v 3 rfl rfl) (er_v 2 rfl rfl) bop_le) (fun i p hp ht s H0 cc cl' fp d => ?_) nd) ?_) ar_nil) (pTotalOkW (b := true) (ok.bp k) (ok.bs k))) ⟨_, [], rfl, fun v G h => h, rfl⟩
  · have hl : p.2 ≤ k := by have := of_decide_eq_true ht; omega
    have pc : p.1 = co a p.2 := by
      rw [zip_range] at hp
      obtain ⟨j, -, rfl⟩ := map_get hp
      rfl
    have pb : big p.1 := by rw [pc]; exact ok.ba _
    exact er_bin (er_v 4 rfl rfl) (er_fA Tt r38 (ar_cons (er_v 1 rfl rfl) (ar_cons (er_eq (S := rInt (((k - p.2 : Nat) : Nat) : Int)) (er_bin (er_v 2 rfl rfl) (er_v 3 rfl rfl) bop_sub) (congrArg rInt (by omega))) ar_nil)) ⟨b, k - p.2, rfl, rfl, rfl, rfl⟩) (bop_o Z.Tm Z.X.cx r37 (pMulOkW pb (ok.bb _)))
  · rw [← prod_zip, List.map_map]
    rfl
end
/-! ### sums, differences, products -/
def pPTwo (Po R : Addr) (g : List Rat → List Rat → List Rat) : Pre := fun Rs w o w' => ∃ a b : List Rat, (∀ k, big (co a k)) ∧ (∀ k, big (co b k)) ∧ a.length ≤ 400 ∧ b.length ≤ 400 ∧ Rs = [rPl Po R a, rPl Po R b] ∧ w = [] ∧ w' = [] ∧ o = .ok (rPl Po R (trimQ (g a b)))
def pPNeg (Po R : Addr) : Pre := fun Rs w o w' => ∃ a : List Rat, (∀ k, big (co a k)) ∧ a.length ≤ 400 ∧ Rs = [rPl Po R a] ∧ w = [] ∧ w' = [] ∧ o = .ok (rPl Po R (trimQ (oppL a)))
def pPMul (Po R : Addr) : Pre := fun Rs w o w' => ∃ a b : List Rat, MulOk a b ∧ a.length ≤ 400 ∧ b.length ≤ 400 ∧ Rs = [rPl Po R a, rPl Po R b] ∧ w = [] ∧ w' = [] ∧ o = .ok (rPl Po R (trimQ (mulL a b)))
section
variable {P : Program} {w : World} {K : PySem.W.Frag} {mg : Str → Option Value} {base : Heap} {Po R M f : Addr} {fd : FuncData}
/-- Poly(list) -/
theorem er_poly {F : Fx} {ρ : Ty} {ω w1 : Ow} {e : Expr} {p pos : Pos} {xs : List Rat} (T : Kc F.X.prog F.X.w F.X.K F.X.mg F.X.base Po "Poly" 7 (pPInit Po R)) (hr : Room 8 F.X.A) (ha : AR F ρ ω [e] [rLst (xs.map (rRat R))] w1) (hz : xs.length ≤ 1000) (hg : Gl F.X "Poly" := by rfl)
    (he : starEach [e] F.X.env = (false, eval e F.X.env) :: starEach [] F.X.env := by rfl) (hpl : (backTo pos (starEach [] F.X.env)).any (·.1) = false := by rfl) : ER F ρ ω (.Call (.Name "Poly" p) [e] [] pos) (rPl Po R (trimQ xs)) w1 :=
  er_cS (wc := []) (fs := polyF R xs) T hr ha Sub.nil (fun y => ⟨y, _, xs, [], .inl ⟨rfl, rfl⟩, hz, rfl, rfl, rfl, rfl⟩) (hg := hg) (he := he) (hpl := hpl)
theorem kf_padd (Fn : Fun K "__add__" "Poly.__add__" s_Poly___add__ f fd) (Z : PwX P w K mg base Po R M) (Tt : Kf1 P w K mg base "part_of" 38 (pPart R)) : FnOk P w K mg base (L2.CX P w) 39 f fd P_Poly___add__ (spM (pPTwo Po R plusL)) := by
  refine fn_ok Fn c_Poly___add__ (fun _ _ _ _ ⟨_, _, _, _, _, _, h, _⟩ => by rw [h]; rfl) ?_
  rintro cdv A outer s H E ⟨_, G0, H0, M', W', tk⟩ hr rfl Rs ω o ω' ⟨a, b, ba, bb, la, lb, rfl, rfl, rfl, rfl⟩
  have nd := c_Poly___add__.nd
  have cl := Z.Y.cx.cls
  have np := Z.Y.nP
  have r37 := hr.mono (show 37 ≤ 38 by decide)
  refine hb_setA (R := rInt (((max a.length b.length : Nat) : Nat) : Int)) (w1 := []) 2 rfl (er_eq (er_bA (ar_cons (er_bA (ar_cons (er_fld (er_v 0 rfl rfl) cl np rfl) ar_nil) Z.len bt_len cop_lenT) (ar_cons (er_bA (ar_cons (er_fld (er_v 1 rfl rfl) cl np rfl) ar_nil) Z.len bt_len cop_lenT) ar_nil)) Z.mx bt_max (cop_max2 rfl)) (congrArg rInt (by rw [len_map, len_map]; split <;> omega))) ?_
  refine hb_ret (er_poly (xs := plusL a b) Z.Tp (hr.mono (by decide)) (ar_cons (er_eq (er_lc (xs := List.range (max a.length b.length)) (A := fun j : Nat => rInt (0 + (j : Int))) (B := fun j : Nat => rRat R (co a j + co b j)) (by rw [← rngN]; exact it_rng1 (ar_cons (er_v 2 rfl rfl) ar_nil) rfl Z.rg (by omega)) (by rw [List.length_range]; omega) [("at", 3)] (blkOk_by (N := N_Poly___add__) (sc := defScope s_Poly___add__) (by decide +kernel)) (fun _ _ _ _ _ => pg_name (i := 3) nd rfl (by first | exact Or.inl rfl | exact Or.inr rfl)) (fun i g h => gew_name) (fun i j hj s1 H1 cc cl' fp d => er_bin (er_fA Tt hr (ar_cons (er_fld (er_v 0 rfl rfl) cl np rfl) (ar_cons (er_eq (er_v 3 rfl rfl) (congrArg rInt (Int.zero_add _))) ar_nil)) ⟨a, j, rfl, rfl, rfl, rfl⟩) (er_fA Tt hr (ar_cons (er_fld (er_v 1 rfl rfl) cl np rfl) (ar_cons (er_eq (er_v 3 rfl rfl) (congrArg rInt (Int.zero_add _))) ar_nil)) ⟨b, j, rfl, rfl, rfl, rfl⟩) (bop_o Z.Ta Z.X.cx r37 (pAddOkW (ba j) (bb j)))) nd) (by unfold plusL; rw [List.map_map]; rfl)) ar_nil) (by unfold plusL; rw [List.length_map, List.length_range]; omega)) ⟨_, [], rfl, fun v G h => h, rfl⟩
theorem kf_psub (Fn : Fun K "__sub__" "Poly.__sub__" s_Poly___sub__ f fd) (Z : PwX P w K mg base Po R M) (Tt : Kf1 P w K mg base "part_of" 38 (pPart R)) : FnOk P w K mg base (L2.CX P w) 39 f fd P_Poly___sub__ (spM (pPTwo Po R minusL)) := by
  refine fn_ok Fn c_Poly___sub__ (fun _ _ _ _ ⟨_, _, _, _, _, _, h, _⟩ => by rw [h]; rfl) ?_
  rintro cdv A outer s H E ⟨_, G0, H0, M', W', tk⟩ hr rfl Rs ω o ω' ⟨a, b, ba, bb, la, lb, rfl, rfl, rfl, rfl⟩
  have nd := c_Poly___sub__.nd
  have cl := Z.Y.cx.cls
  have np := Z.Y.nP
  have r37 := hr.mono (show 37 ≤ 38 by decide)
  refine hb_setA (R := rInt (((max a.length b.length : Nat) : Nat) : Int)) (w1 := []) 2 rfl (er_eq (er_bA (ar_cons (er_bA (ar_cons (er_fld (er_v 0 rfl rfl) cl np rfl) ar_nil) Z.len bt_len cop_lenT) (ar_cons (er_bA (ar_cons (er_fld (er_v 1 rfl rfl) cl np rfl) ar_nil) Z.len bt_len cop_lenT) ar_nil)) Z.mx bt_max (cop_max2 rfl)) (congrArg rInt (by rw [len_map, len_map]; split <;> omega))) ?_
  refine hb_ret (er_poly (xs := minusL a b) Z.Tp (hr.mono (by decide)) (ar_cons (er_eq (er_lc (xs := List.range (max a.length b.length)) (A := fun j : Nat => rInt (0 + (j : Int))) (B := fun j : Nat => rRat R (co a j - co b j)) (by rw [← rngN]; exact it_rng1 (ar_cons (er_v 2 rfl rfl) ar_nil) rfl Z.rg (by omega)) (by rw [List.length_range]; omega) [("at", 3)] (blkOk_by (N := N_Poly___sub__) (sc := defScope s_Poly___sub__) (by decide +kernel)) (fun _ _ _ _ _ => pg_name (i := 3) nd rfl (by first | exact Or.inl rfl | exact Or.inr rfl)) (fun i g h => gew_name) (fun i j hj s1 H1 cc cl' fp d => er_bin (er_fA Tt hr (ar_cons (er_fld (er_v 0 rfl rfl) cl np rfl) (ar_cons (er_eq (er_v 3 rfl rfl) (congrArg rInt (Int.zero_add _))) ar_nil)) ⟨a, j, rfl, rfl, rfl, rfl⟩) (er_fA Tt hr (ar_cons (er_fld (er_v 1 rfl rfl) cl np rfl) (ar_cons (er_eq (er_v 3 rfl rfl) (congrArg rInt (Int.zero_add _))) ar_nil)) ⟨b, j, rfl, rfl, rfl, rfl⟩) (bop_o Z.Ts Z.X.cx r37 (pSubOkW (ba j) (bb j)))) nd) (by unfold minusL; rw [List.map_map]; rfl)) ar_nil) (by unfold minusL; rw [List.length_map, List.length_range]; omega)) ⟨_, [], rfl, fun v G h => h, rfl⟩
theorem kf_pneg (Fn : Fun K "__neg__" "Poly.__neg__" s_Poly___neg__ f fd) (Z : PwX P w K mg base Po R M) : FnOk P w K mg base (L2.CX P w) 38 f fd P_Poly___neg__ (spM (pPNeg Po R)) := by
  refine fn_ok Fn c_Poly___neg__ (fun _ _ _ _ ⟨_, _, _, h, _⟩ => by rw [h]; rfl) ?_
  rintro cdv A outer s H E ⟨_, G0, H0, M', W', tk⟩ hr rfl Rs ω o ω' ⟨a, ba, la, rfl, rfl, rfl, rfl⟩
  have nd := c_Poly___neg__.nd
  have cl := Z.Y.cx.cls
  have np := Z.Y.nP
  refine hb_ret (er_poly (xs := oppL a) Z.Tp (hr.mono (by decide)) (ar_cons (er_eq (er_lc (xs := a) (A := rRat R) (B := fun q => rRat R (-q)) (it_tup (er_fld (er_v 0 rfl rfl) cl np rfl)) (by omega) [("part", 1)] (blkOk_by (N := N_Poly___neg__) (sc := defScope s_Poly___neg__) (by decide +kernel)) (fun _ _ _ _ _ => pg_name (i := 1) nd rfl (by first | exact Or.inl rfl | exact Or.inr rfl)) (fun i g h => gew_name) (fun i q hq s1 H1 cc cl' fp d => er_un (er_v 1 rfl rfl) (uop_o Z.Tn hr (pNegOkW (by rw [← co_get hq]; exact ba i)))) nd) (by unfold oppL; rw [List.map_map]; rfl)) ar_nil) (by unfold oppL; rw [List.length_map]; omega)) ⟨_, [], rfl, fun v G h => h, rfl⟩
theorem kf_pmul (Fn : Fun K "__mul__" "Poly.__mul__" s_Poly___mul__ f fd) (Z : PwX P w K mg base Po R M) (Tt : Kf1 P w K mg base "product_part" 40 (pPPr R)) : FnOk P w K mg base (L2.CX P w) 41 f fd P_Poly___mul__ (spM (pPMul Po R)) := by
  refine fn_ok Fn c_Poly___mul__ (fun _ _ _ _ ⟨_, _, _, _, _, h, _⟩ => by rw [h]; rfl) ?_
  rintro cdv A outer s H E ⟨_, G0, H0, M', W', tk⟩ hr rfl Rs ω o ω' ⟨a, b, ok, la, lb, rfl, rfl, rfl, rfl⟩
  have nd := c_Poly___mul__.nd
  have cl := Z.Y.cx.cls
  have np := Z.Y.nP
  refine hb_setA (R := rInt (((a.length + b.length : Nat) : Nat) : Int)) (w1 := []) 2 rfl (er_eq (er_bin (er_bA (ar_cons (er_fld (er_v 0 rfl rfl) cl np rfl) ar_nil) Z.len bt_len cop_lenT) (er_bA (ar_cons (er_fld (er_v 1 rfl rfl) cl np rfl) ar_nil) Z.len bt_len cop_lenT) bop_add) (congrArg rInt (by rw [len_map, len_map]; omega))) ?_
  refine hb_ret (er_poly (xs := mulL a b) Z.Tp (hr.mono (by decide)) (ar_cons (er_eq (er_lc (xs := List.range (a.length + b.length)) (A := fun j : Nat => rInt (0 + (j : Int))) (B := fun j : Nat => rRat R (sumR (prodL a b j))) (by rw [← rngN]; exact it_rng1 (ar_cons (er_v 2 rfl rfl) ar_nil) rfl Z.rg (by omega)) (by rw [List.length_range]; omega) [("at", 3)] (blkOk_by (N := N_Poly___mul__) (sc := defScope s_Poly___mul__) (by decide +kernel)) (fun _ _ _ _ _ => pg_name (i := 3) nd rfl (by first | exact Or.inl rfl | exact Or.inr rfl)) (fun i g h => gew_name) (fun i j hj s1 H1 cc cl' fp d => er_fA Tt hr (ar_cons (er_fld (er_v 0 rfl rfl) cl np rfl) (ar_cons (er_fld (er_v 1 rfl rfl) cl np rfl) (ar_cons (er_eq (er_v 3 rfl rfl) (congrArg rInt (Int.zero_add _))) ar_nil))) ⟨a, b, j, ok, la, rfl, rfl, rfl, rfl⟩) nd) (by unfold mulL; rw [List.map_map]; rfl)) ar_nil) (by unfold mulL; rw [List.length_map, List.length_range]; omega)) ⟨_, [], rfl, fun v G h => h, rfl⟩
end
end W1
set_option maxRecDepth 100000
set_option maxHeartbeats 4000000
set_option exponentiation.threshold 20000
namespace W1
open PySem PySem.Spec PyProof.Rows L2 NdefX TL NumText
def pPCoef (Po R : Addr) : PreN := fun Rs w O w' => ∃ a : List Rat, Rs = [rPl Po R a] ∧ w = [] ∧ w' = [] ∧ O = oL (a.map (rRat R))
def pPDeg (Po R : Addr) : Pre := fun Rs w o w' => ∃ a : List Rat, Rs = [rPl Po R a] ∧ w = [] ∧ w' = [] ∧ o = .ok (rInt (((a.length : Nat) : Int) - 1))
def pPBool (Po R : Addr) : Pre := fun Rs w o w' => ∃ a : List Rat, Rs = [rPl Po R a] ∧ w = [] ∧ w' = [] ∧ o = .ok (rBool (!decide (a = [])))
/-- Horner's first n -/
def hv (a : List Rat) (x : Rat) (n : Nat) : Rat := (a.reverse.take n).foldl (fun z c => z * x + c) 0
structure ValOk (a : List Rat) (x : Rat) : Prop where
  bx : big x
  ba : ∀ k, big (co a k)
  bm : ∀ n, big (hv a x n)
  bh : ∀ n, big (hv a x n * x)
def pPVal (Po R : Addr) : Pre := fun Rs w o w' => ∃ (a : List Rat) (x : Rat), ValOk a x ∧ Rs = [rPl Po R a, rRat R x] ∧ w = [] ∧ w' = [] ∧ o = .ok (rRat R (ev a x))
def slopeL (a : List Rat) : List Rat := (a.zipIdx.map fun p => p.1 * (((p.2 : Nat) : Int) : Rat)).drop 1
def pPSlo (Po R : Addr) : Pre := fun Rs w o w' => ∃ a : List Rat, (∀ k, big (co a k)) ∧ a.length ≤ 400 ∧ Rs = [rPl Po R a] ∧ w = [] ∧ w' = [] ∧ o = .ok (rPl Po R (trimQ (slopeL a)))
theorem cut1 {α : Type} {f : α → Rl} {xs : List α} : cutR (xs.map f) (some 1) none = (xs.drop 1).map f := by
  unfold cutR
  rw [HT.sIx_none, show (some (1 : Int)) = some ((1 : Nat) : Int) from rfl, HT.sIx_nat, List.length_map]
  cases xs with
  | nil => rfl
  | cons a t =>
    rw [Nat.min_eq_left (by rw [List.length_cons]; omega), List.take_of_length_le (by rw [List.length_drop, List.length_map]; exact Nat.le_refl _), List.map_drop]
theorem big_nat {n : Nat} (h : n ≤ 400) : big (((n : Nat) : Int) : Rat) := (sz_intR (n := 10) (i := ((n : Nat) : Int)) (by rw [Int.natAbs_natCast]; exact Nat.lt_of_le_of_lt h (by decide)) (by decide)).mono (by unfold bigN; decide)
theorem big1 : big 1 := (sz_one.mpr trivial).mono (by unfold bigN; decide)
theorem big0 : big 0 := sz_zero.mono (by unfold bigN; decide)
section
variable {P : Program} {w : World} {K : PySem.W.Frag} {mg : Str → Option Value} {base : Heap} {Po R M f : Addr} {fd : FuncData}
theorem kf_pcoef (Fn : Fun K "coefficients" "Poly.coefficients" s_Poly_coefficients f fd) (Z : PwX P w K mg base Po R M) : FnOk P w K mg base (L2.CX P w) 1 f fd P_Poly_coefficients (spN (pPCoef Po R)) := by
  refine fn_okN Fn c_Poly_coefficients (fun _ _ _ _ ⟨_, h, _⟩ => by rw [h]; rfl) ?_
  rintro cdv A outer s H E ⟨_, G0, H0, M', W', tk⟩ hr rfl Rs ω o ω' ⟨a, rfl, rfl, rfl, rfl⟩
  exact hb_retO (en_tA (ar_cons (er_fld (er_v 0 rfl rfl) Z.Y.cx.cls Z.Y.nP rfl) ar_nil) Z.ls bt_list copN_listT) fun q hM => ⟨q, [], fun _ _ h => h, List.not_mem_nil, rfl⟩
theorem kf_pdeg (Fn : Fun K "degree" "Poly.degree" s_Poly_degree f fd) (Z : PwX P w K mg base Po R M) : FnOk P w K mg base (L2.CX P w) 1 f fd P_Poly_degree (spM (pPDeg Po R)) := by
  refine fn_ok Fn c_Poly_degree (fun _ _ _ _ ⟨_, h, _⟩ => by rw [h]; rfl) ?_
  rintro cdv A outer s H E ⟨_, G0, H0, M', W', tk⟩ hr rfl Rs ω o ω' ⟨a, rfl, rfl, rfl, rfl⟩
  exact hb_ret (er_eq (er_bin (er_bA (ar_cons (er_fld (er_v 0 rfl rfl) Z.Y.cx.cls Z.Y.nP rfl) ar_nil) Z.len bt_len cop_lenT) er_int bop_sub) (congrArg rInt (by rw [len_map]))) ⟨_, [], rfl, fun v G h => h, rfl⟩
theorem kf_pbool (Fn : Fun K "__bool__" "Poly.__bool__" s_Poly___bool__ f fd) (Z : PwX P w K mg base Po R M) : FnOk P w K mg base (L2.CX P w) 1 f fd P_Poly___bool__ (spM (pPBool Po R)) := by
  refine fn_ok Fn c_Poly___bool__ (fun _ _ _ _ ⟨_, h, _⟩ => by rw [h]; rfl) ?_
  rintro cdv A outer s H E ⟨_, G0, H0, M', W', tk⟩ hr rfl Rs ω o ω' ⟨a, rfl, rfl, rfl, rfl⟩
  exact hb_ret (er_eq (er_tA (ar_cons (er_fld (er_v 0 rfl rfl) Z.Y.cx.cls Z.Y.nP rfl) ar_nil) Z.bo bt_bool cop_boolT) (congrArg rBool (by congr 1; exact decide_eq_decide.mpr List.map_eq_nil_iff))) ⟨_, [], rfl, fun v G h => h, rfl⟩
theorem kf_pval (Fn : Fun K "value" "Poly.value" s_Poly_value f fd) (Z : PwX P w K mg base Po R M) : FnOk P w K mg base (L2.CX P w) 38 f fd P_Poly_value (spM (pPVal Po R)) := by
  refine fn_ok Fn c_Poly_value (fun _ _ _ _ ⟨_, _, _, h, _⟩ => by rw [h]; rfl) ?_
  rintro cdv A outer s H E ⟨_, G0, H0, M', W', tk⟩ hr rfl Rs ω o ω' ⟨a, x, ok, rfl, rfl, rfl, rfl⟩
  have nd := c_Poly_value.nd
  refine hb_setA (R := rRat R 0) (w1 := []) 2 rfl (er_eq (er_cm Z.Tw hr (er_gC Z.X.gC) (ar_cons er_int ar_nil) (pWholeOk (n := 0))) (congrArg (rRat R) Rat.intCast_zero)) ?_
  refine hb_for (it_tup (Rs := a.reverse.map (rRat R)) (er_eq (er_revT (er_fld (er_v 0 rfl rfl) Z.Y.cx.cls Z.Y.nP rfl)) (congrArg rTup List.map_reverse.symm))) (fun k ρ ω => ω = [] ∧ ∃ z, ρ = [some (rPl Po R a), some (rRat R x), some (rRat R (hv a x k)), z]) ⟨rfl, none, rfl⟩ ?_ ?_ (passes_of rfl) (pg_name (i := 3) nd rfl (by first | exact Or.inl rfl | exact Or.inr rfl))
  · rintro k ρ ω S hS ⟨rfl, z, rfl⟩
    obtain ⟨q, hq, rfl⟩ := map_get hS
    refine ⟨_, ge_name, ?_⟩
    have bq : big q := by
      have hm := List.mem_reverse.mp (List.mem_of_getElem? hq)
      obtain ⟨i, hi, e⟩ := List.getElem_of_mem hm
      rw [← e, ← co_get (List.getElem?_eq_getElem hi)]
      exact ok.ba i
    refine hb_setA (R := rRat R (hv a x k * x + q)) (w1 := []) 2 rfl (er_bin (er_bin (er_v 2 rfl rfl) (er_v 1 rfl rfl) (bop_o Z.Tm Z.X.cx hr (pMulOkW (ok.bm k) ok.bx))) (er_v 3 rfl rfl) (bop_o Z.Ta Z.X.cx hr (pAddOkW (ok.bh k) bq))) (hb_nil ⟨rfl, some (rRat R q), ?_⟩)
    show _ = [some (rPl Po R a), some (rRat R x), some (rRat R (hv a x (k + 1))), some (rRat R q)]
    unfold hv
    rw [fold_take _ _ _ _ _ hq]
    rfl
  · rintro ρ ω ⟨rfl, z, rfl⟩
    refine hb_ret (er_v 2 rfl rfl) ⟨_, [], rfl, fun v G h => ?_, rfl⟩
    rw [← ev_fold]
    rw [List.length_map] at h
    unfold hv at h
    rw [List.take_length] at h
    exact h
theorem kf_pslo (Fn : Fun K "slope" "Poly.slope" s_Poly_slope f fd) (Z : PwX P w K mg base Po R M) : FnOk P w K mg base (L2.CX P w) 38 f fd P_Poly_slope (spM (pPSlo Po R)) := by
  refine fn_ok Fn c_Poly_slope (fun _ _ _ _ ⟨_, _, _, h, _⟩ => by rw [h]; rfl) ?_
  rintro cdv A outer s H E ⟨_, G0, H0, M', W', tk⟩ hr rfl Rs ω o ω' ⟨a, ba, la, rfl, rfl, rfl, rfl⟩
  have nd := c_Poly_slope.nd
  have cl := Z.Y.cx.cls
  have np := Z.Y.nP
  refine hb_ret (er_poly (xs := slopeL a) Z.Tp (hr.mono (by decide)) (ar_cons (er_eq (er_slice (er_lc (xs := a.zipIdx) (A := fun p => rTup [rInt ((p.2 : Nat) : Int), rRat R p.1]) (B := fun p => rRat R (p.1 * (((p.2 : Nat) : Int) : Rat))) (it_enumQ (ar_cons (er_fld (er_v 0 rfl rfl) cl np rfl) ar_nil) rfl Z.en) (by rw [List.length_zipIdx]; omega) [("at", 1), ("part", 2)] (blkOk_by (N := N_Poly_slope) (sc := defScope s_Poly_slope) (by decide +kernel)) (fun _ _ _ _ _ => pg_tup rfl (pgs_cons (pg_name (i := 1) nd rfl (by first | exact Or.inl rfl | exact Or.inr rfl)) (pgs_cons (pg_name (i := 2) nd rfl (by first | exact Or.inl rfl | exact Or.inr rfl)) pgs_nil))) (fun i p hp => gew_tup2) (fun i p hp s1 H1 cc cl' fp d => ?_) nd) (pr_some er_int) pr_none sop_L) ?_) ar_nil) (by unfold slopeL; rw [List.length_drop, List.length_map, List.length_zipIdx]; omega)) ⟨_, [], rfl, fun v G h => h, rfl⟩
  · rw [zip_range] at hp
    obtain ⟨j, hj, rfl⟩ := map_get hp
    have hj := List.mem_range.mp (List.mem_of_getElem? hj)
    exact er_bin (er_v 2 rfl rfl) (er_cm Z.Tw hr (er_gC Z.X.gC) (ar_cons (er_v 1 rfl rfl) ar_nil) (pWholeOk (n := ((j : Nat) : Int)))) (bop_o Z.Tm Z.X.cx hr (pMulOkW (ba j) (big_nat (by omega))))
  · unfold slopeL
    rw [← cut1 (f := rRat R), List.map_map]
    rfl
end
/-! ### division -/
def pDiv (Po R M : Addr) : Pre := fun Rs w o w' => ∃ a b : List Rat, Rs = [rPl Po R a, rPl Po R b] ∧ w = [] ∧ w' = [] ∧ a.length ≤ 400 ∧ b.length ≤ 400 ∧
  ((b = [] ∧ o = .error (erF M "n" (rInt 0))) ∨ (b ≠ [] ∧ co b (b.length - 1) ≠ 0 ∧ DivB a.length [] a b ∧ o = .ok (rTup [rPl Po R (quoQ a b), rPl Po R (remQ a b)])))
theorem sgN_take {n m : Nat} {f : Nat → Rat} : sumR (((List.range n).map f).take m) = sgN (min m n) f := by
  rw [← List.map_take, List.take_range, sumR_N]
theorem sgN_part {n d : Nat} {f : Nat → Rat} (h : ∀ i, i ≠ d → f i = 0) : sgN n f = 0 ∨ sgN n f = f d := by
  by_cases hd : d < n
  · exact .inr (sgN_one hd fun i _ hi => h i hi)
  · exact .inl (sgN_zero fun i hi => h i (by omega))
theorem step_mul {f r s : List Rat} (Z : StB f r s) : MulOk (stepL r s) s := by
  have cm : ∀ k, co (stepL r s) k = if k = r.length - s.length then fac r s else 0 := fun k => by
    unfold stepL
    exact mono_co
  have pr : ∀ k i, big (co (stepL r s) i * co s (k - i)) := fun k i => by
    rw [cm]
    split
    · exact Z.bcs _
    · rw [Rat.zero_mul]; exact big0
  refine ⟨fun k => ?_, Z.bs, fun k q hq => ?_, fun k n => ?_⟩
  · rw [cm]
    split
    · exact Z.bc
    · exact big0
  · unfold prodL at hq
    obtain ⟨i, -, rfl⟩ := List.mem_map.mp hq
    exact pr k i
  · unfold prodL
    rw [sgN_take]
    rcases sgN_part (n := min n (min (k + 1) (stepL r s).length)) (d := r.length - s.length) (f := fun i => co (stepL r s) i * co s (k - i)) (fun i hi => by rw [cm, if_neg hi, Rat.zero_mul]) with h | h
    · rw [h]; exact big0
    · rw [h]; exact pr k _
theorem MulOk.congr {a a2 b b2 : List Rat} (h : MulOk a b) (e1 : ∀ k, co a k = co a2 k) (e2 : ∀ k, co b k = co b2 k) : MulOk a2 b2 := by
  have tk : ∀ k n, ∃ m, sumR ((prodL a2 b2 k).take n) = sumR ((prodL a b k).take m) := fun k n => by
    unfold prodL
    rw [sgN_take]
    have f : ∀ i, co a2 i * co b2 (k - i) = co a i * co b (k - i) := fun i => by rw [← e1, ← e2]
    have t0 : ∀ m, sumR (((List.range (min (k + 1) a.length)).map fun i => co a i * co b (k - i)).take m) = sgN (min m (min (k + 1) a.length)) fun i => co a i * co b (k - i) := fun m => sgN_take
    by_cases hl : min n (min (k + 1) a2.length) ≤ min (k + 1) a.length
    · refine ⟨min n (min (k + 1) a2.length), ?_⟩
      rw [t0, Nat.min_eq_left hl]
      exact sgN_congr fun i _ => f i
    · refine ⟨min (k + 1) a.length, ?_⟩
      rw [t0, Nat.min_self, sgN_congr (g := fun i => co a i * co b (k - i)) fun i _ => f i]
      exact sgN_more (by omega) fun i h1 h2 => by rw [co_out (xs := a) (by omega), Rat.zero_mul]
  refine ⟨fun k => by rw [← e1]; exact h.ba k, fun k => by rw [← e2]; exact h.bb k, fun k q hq => ?_, fun k n => ?_⟩
  · unfold prodL at hq
    obtain ⟨i, hi, rfl⟩ := List.mem_map.mp hq
    rw [← e1, ← e2]
    by_cases hi2 : i < min (k + 1) a.length
    · exact h.bp k _ (List.mem_map.mpr ⟨i, List.mem_range.mpr hi2, rfl⟩)
    · have := List.mem_range.mp hi
      rw [co_out (xs := a) (by omega), Rat.zero_mul]
      exact big0
  · obtain ⟨m, e⟩ := tk k n
    rw [e]
    exact h.bs k m
/-- [x] * n -/
theorem er_repR {F : Fx} {ρ : Ty} {ω : Ow} {x e : Expr} {p1 pos : Pos} {A : Rl} {n : Nat} (hx : ER F ρ ω x A ω) (he : ER F ρ ω e (rInt ((n : Nat) : Int)) ω) (hn : n ≤ 1000) (hs : starEach [x] F.X.env = (false, eval x F.X.env) :: starEach [] F.X.env := by rfl) : ER F ρ ω (.BinOp (.List [x] p1) .Mult e pos) (rLst (List.replicate n A)) ω := by
  refine er_eq (er_bin (er_lst (Rs := [A]) (ar_cons hx ar_nil hs) (by show 1 ≤ 1000; decide)) he (bop_rep (k := ((n : Nat) : Int)) (by omega) (by omega) (by show 1 * ((n : Nat) : Int).toNat ≤ 100000; rw [Int.toNat_natCast]; omega))) ?_
  rw [Int.toNat_natCast]
  congr 1
  clear hn he
  induction n with
  | zero => rfl
  | succ n ih => rw [List.replicate_succ, List.replicate_succ, List.flatten_cons, ih]; rfl
theorem len_mono {d : Nat} {f : Rat} : (mono d f).length = d + 1 := by
  unfold mono
  rw [List.length_append, List.length_replicate, List.length_singleton]
section
variable {P : Program} {w : World} {K : PySem.W.Frag} {mg : Str → Option Value} {base : Heap} {Po R M f : Addr} {fd : FuncData}
/-- the methods -/
structure PmX (P : Program) (w : World) (K : PySem.W.Frag) (mg : Str → Option Value) (base : Heap) (Po R M : Addr) : Prop where
  Z : PwX P w K mg base Po R M
  Tb : Ko P w K mg base Po "__bool__" 1 (pPBool Po R)
  Td : Km P w K mg base Po "degree" 1 (pPDeg Po R)
  Ta : Ko P w K mg base Po "__add__" 39 (pPTwo Po R plusL)
  Ts : Ko P w K mg base Po "__sub__" 39 (pPTwo Po R minusL)
  Tm : Ko P w K mg base Po "__mul__" 41 (pPMul Po R)
  Te : Ke P w K mg base M "BadNumber" "n" 1 prInt
theorem kf_div (Fn : Fun K "divided" "divided" s_divided f fd) (Y : PmX P w K mg base Po R M) : FnOk P w K mg base (L2.CX P w) 42 f fd P_divided (spM (pDiv Po R M)) := by
  refine fn_ok Fn c_divided (fun _ _ _ _ ⟨_, _, h, _⟩ => by rw [h]; rfl) ?_
  rintro cdv A outer s H E ⟨_, G0, H0, M', W', tk⟩ hr rfl Rs ω o ω' ⟨a, b, rfl, rfl, rfl, la, lb, ho⟩
  have nd := c_divided.nd
  have Z := Y.Z
  have cl := Z.Y.cx.cls
  have np := Z.Y.nP
  have r1 := hr.mono (show 1 ≤ 41 by decide)
  have r8 := hr.mono (show 8 ≤ 41 by decide)
  have r37 := hr.mono (show 37 ≤ 41 by decide)
  have r39 := hr.mono (show 39 ≤ 41 by decide)
  rcases ho with ⟨rfl, rfl⟩ | ⟨hn, t0, ok, rfl⟩
  · refine hb_if (b := true) (w1 := []) (tr_to (tr_not (tr_o Y.Tb r1 (er_v 1 rfl rfl) ⟨_, rfl, rfl, rfl, rfl⟩)) rfl) (fun _ => ?_) (fun z => Bool.noConfusion z)
    exact hb_err Y.Te (hr.mono (by decide)) (ar_cons er_int ar_nil) ⟨_, [], rfl, fun _ _ _ h => h, rfl⟩ fun v G h => ⟨0, h, by decide⟩
  have b1 : 1 ≤ b.length := List.length_pos_iff.mpr hn
  refine hb_if (b := false) (w1 := []) (tr_to (tr_not (tr_o Y.Tb r1 (er_v 1 rfl rfl) ⟨_, rfl, rfl, rfl, rfl⟩)) (by rw [decide_eq_false hn]; rfl)) (fun z => Bool.noConfusion z) (fun _ => hb_nil ?_)
  refine hb_par (R := rPl Po R a) (S := rPl Po R []) (w1 := []) 2 3 (ar_cons (er_v 0 rfl rfl) (ar_cons (er_poly (xs := []) Z.Tp r8 (ar_cons (er_lst (Rs := []) ar_nil (Nat.zero_le _)) ar_nil) (Nat.zero_le _)) ar_nil)) ?_ nd
  refine hb_while (fun m ρ w => ∃ f r z4 z5, r.length ≤ m ∧ DivB m f r b ∧ divF m f r b = divF a.length [] a b ∧ r.length ≤ a.length ∧ f.length ≤ a.length ∧ w = [] ∧ ρ = [some (rPl Po R a), some (rPl Po R b), some (rPl Po R r), some (rPl Po R f), z4, z5]) a.length ⟨[], a, none, none, Nat.le_refl _, ok, rfl, Nat.le_refl _, Nat.zero_le _, rfl, rfl⟩ ?_ (passes_of rfl)
  rintro m ρ w ⟨f, r, z4, z5, hm, hB, hF, lr, lf, rfl, rfl⟩
  refine ⟨decide (((b.length : Nat) : Int) - 1 ≤ ((r.length : Nat) : Int) - 1), [], tr_cmp (er_m0 Y.Td cl r1 (er_v 2 rfl rfl) ⟨_, rfl, rfl, rfl, rfl⟩) (er_m0 Y.Td cl r1 (er_v 1 rfl rfl) ⟨_, rfl, rfl, rfl, rfl⟩) bop_ge, fun hb => ?_, fun hb => ?_⟩
  · have hl : b.length ≤ r.length := by have := of_decide_eq_true hb; omega
    obtain ⟨m, rfl⟩ : ∃ j, m = j + 1 := ⟨m - 1, by omega⟩
    obtain ⟨Q, hB'⟩ := hB hl
    have lt := rest_lt (r := r) t0 b1 hl
    have hF' : divF m (trimQ (plusL f (stepL r b))) (restL r b) b = divF a.length [] a b := by
      rw [← hF]
      conv => rhs; unfold divF
      rw [if_pos hl]
    have num : (co b (b.length - 1)).num ≠ 0 := fun z => t0 (Rat.num_eq_zero.mp z)
    have ix : ∀ {F : Fx} {w : Ow} {xs : List Rat}, 1 ≤ xs.length → Iop F w (rTup (xs.map (rRat R))) (rInt (-1)) (rRat R (co xs (xs.length - 1))) := fun {F w xs} h => iop_T (n := xs.length - 1) (by
      unfold ixN
      rw [List.length_map, if_neg (by decide), if_pos (by omega)]
      congr 1
      omega) (co_at (by omega))
    refine hb_setA (R := rRat R (fac r b)) (w1 := []) 4 rfl (er_m Z.Tq Z.X.cx.cls r37 (er_ix (er_fld (er_v 2 rfl rfl) cl np rfl) (er_un er_int uop_neg) (ix (by omega))) (ar_cons (er_ix (er_fld (er_v 1 rfl rfl) cl np rfl) (er_un er_int uop_neg) (ix b1)) ar_nil) (pQuoOkW (Q.br _) (Q.bs _) num)) ?_
    have er0 : rLst (List.replicate (r.length - b.length) (rRat R 0) ++ [rRat R (fac r b)]) = rLst ((stepL r b).map (rRat R)) := by
      unfold stepL mono
      rw [List.map_append, List.map_replicate]
      rfl
    have es : trimQ (stepL r b) = stepL r b ∨ True := .inr trivial
    refine hb_setA (R := rPl Po R (trimQ (stepL r b))) (w1 := []) 5 rfl (er_poly (xs := stepL r b) Z.Tp r8 (ar_cons (er_eq (er_lst (ar_star (Rs := List.replicate (r.length - b.length) (rRat R 0)) (Ss := [rRat R (fac r b)]) (er_repR (n := r.length - b.length) (er_eq (er_cm Z.Tw r37 (er_gC Z.X.gC) (ar_cons er_int ar_nil) (pWholeOk (n := 0))) (congrArg (rRat R) Rat.intCast_zero)) (er_eq (er_bin (er_m0 Y.Td cl r1 (er_v 2 rfl rfl) ⟨_, rfl, rfl, rfl, rfl⟩) (er_m0 Y.Td cl r1 (er_v 1 rfl rfl) ⟨_, rfl, rfl, rfl, rfl⟩) bop_sub) (congrArg rInt (show _ = (((r.length - b.length : Nat) : Nat) : Int) by omega))) (by omega)) isq_L (ar_cons (er_v 4 rfl rfl) ar_nil)) (by rw [List.length_append, List.length_replicate]; show _ + 1 ≤ 1000; omega)) er0) ar_nil) (by unfold stepL; rw [len_mono]; omega)) ?_
    have ls : (stepL r b).length ≤ r.length := by unfold stepL; rw [len_mono]; omega
    have lt2 : (trimQ (stepL r b)).length ≤ r.length := Nat.le_trans (trim_le _) ls
    have SM := step_mul Q
    have SM2 : MulOk (trimQ (stepL r b)) b := SM.congr (fun k => (trim_co _ k).symm) fun _ => rfl
    have em : trimQ (mulL (trimQ (stepL r b)) b) = trimQ (mulL (stepL r b) b) := trim_congr fun k => by rw [mul_co, mul_co]; exact cv_congr (fun i => trim_co _ i) fun _ => rfl
    have ea : trimQ (plusL f (trimQ (stepL r b))) = trimQ (plusL f (stepL r b)) := trim_congr fun k => by rw [add_co, add_co, trim_co]
    have bm : ∀ k, big (co (trimQ (mulL (stepL r b) b)) k) := fun k => by
      rw [trim_co, mul_co]
      unfold stepL
      rw [cv_mono]
      split
      · exact Q.bcs _
      · exact big0
    have lm : (trimQ (mulL (stepL r b) b)).length ≤ 800 := by
      refine Nat.le_trans (trim_le _) ?_
      unfold mulL
      rw [List.length_map, List.length_range]
      omega
    have lm2 : (trimQ (mulL (stepL r b) b)).length ≤ r.length := trim_short fun k hk => by
      rw [mul_co]
      unfold stepL
      rw [cv_mono]
      split
      · rw [co_out (xs := b) (by omega), Rat.mul_zero]
      · rfl
    refine hb_par (R := rPl Po R (trimQ (plusL f (stepL r b)))) (S := rPl Po R (restL r b)) (w1 := []) 3 2 (ar_cons (er_eq (er_bin (er_v 3 rfl rfl) (er_v 5 rfl rfl) (bop_o Y.Ta Z.Y.cx r39 ⟨f, trimQ (stepL r b), Q.bf, SM2.ba, by omega, by omega, rfl, rfl, rfl, rfl⟩)) (congrArg (rPl Po R) ea)) (ar_cons (er_eq (er_bin (er_v 2 rfl rfl) (er_eq (er_bin (er_v 5 rfl rfl) (er_v 1 rfl rfl) (bop_o Y.Tm Z.Y.cx hr ⟨trimQ (stepL r b), b, SM2, by omega, by omega, rfl, rfl, rfl, rfl⟩)) (congrArg (rPl Po R) em)) (bop_o Y.Ts Z.Y.cx r39 ⟨r, trimQ (mulL (stepL r b) b), Q.br, bm, by omega, by omega, rfl, rfl, rfl, rfl⟩)) rfl) ar_nil)) (hb_nil ⟨m, Nat.lt_succ_self m, _, _, _, _, by omega, hB', hF', by omega, ?_, rfl, rfl⟩) nd
    refine Nat.le_trans (trim_le _) ?_
    unfold plusL
    rw [List.length_map, List.length_range]
    omega
  · have hl : r.length < b.length := by have := of_decide_eq_false hb; omega
    rw [divF_stop hl] at hF
    refine hb_ret (er_tup (Rs := [rPl Po R f, rPl Po R r]) (ar_cons (er_v 3 rfl rfl) (ar_cons (er_v 2 rfl rfl) ar_nil)) (by show 2 ≤ 1000; decide)) ⟨_, [], rfl, fun v G h => ?_, rfl⟩
    have e1 : quoQ a b = f := by unfold quoQ; rw [← hF]
    have e2 : remQ a b = r := by unfold remQ; rw [← hF]
    rw [e1, e2]
    exact h
end
/-! ### common divisors -/
theorem gcdF_can : ∀ {n : Nat} {a b : List Rat}, Can a → Can b → Can (gcdF n a b)
  | 0, a, b, h, _ => h
  | n + 1, a, b, h, h2 => by
    unfold gcdF
    split
    · exact h
    · exact gcdF_can h2 (divF_can h)
def normQ (g : List Rat) : List Rat := trimQ (g.map fun q => q / co g (g.length - 1))
theorem norm_mul {g : List Rat} (hn : g ≠ []) (hc : Can g) : trimQ (mulL g (trimQ [1 / co g (g.length - 1)])) = normQ g := by
  unfold normQ
  rw [← gcd_one]
  exact trim_congr fun k => by rw [mul_co, mul_co]; exact cv_congr (fun _ => rfl) fun i => trim_co _ i
theorem norm_ok {g : List Rat} {S : Nat} (hn : g ≠ []) (hc : Can g) (hs : Cd S g) (hS : S + S ≤ bigN) : big (1 / co g (g.length - 1)) ∧ MulOk g (trimQ [1 / co g (g.length - 1)]) := by
  have t0 := can_top hc hn
  obtain ⟨d, d0, d1, d2⟩ := hs
  obtain ⟨m, m1, m2⟩ := d2 (g.length - 1)
  have m0 : m ≠ 0 := fun z => by
    rw [z] at m2
    rcases Rat.mul_eq_zero.mp (m2.trans Rat.intCast_zero) with h | h
    · exact t0 h
    · exact cast_ne d0 h
  have up : ∀ {q : Rat}, Sz S q → big q := fun h => h.mono (by omega)
  have inv : (1 / co g (g.length - 1)) * (m : Rat) = (d : Rat) := by
    rw [← m2, ← Rat.mul_assoc, div_mul t0, Rat.one_mul]
  have b1 : big (1 / co g (g.length - 1)) := up (sz_of m0 inv d1 m1)
  have bg : ∀ k, big (co g k) := fun k => by
    obtain ⟨n, n1, n2⟩ := d2 k
    exact up (sz_of d0 n2 n1 d1)
  have pr : ∀ k, big (co g k * (1 / co g (g.length - 1))) := fun k => by
    obtain ⟨n, n1, n2⟩ := d2 k
    have e : co g k * (1 / co g (g.length - 1)) * (m : Rat) = (n : Rat) := by rw [Rat.mul_assoc, inv, n2]
    exact up (sz_of m0 e n1 m1)
  refine ⟨b1, MulOk.congr (a := g) (b := mono 0 (1 / co g (g.length - 1))) ?_ (fun _ => rfl) fun k => (trim_co _ k).symm⟩
  have term : ∀ k i, big (co g i * co (mono 0 (1 / co g (g.length - 1))) (k - i)) := fun k i => by
    rw [mono_co]
    split
    · exact pr i
    · rw [Rat.mul_zero]; exact big0
  refine ⟨bg, fun k => ?_, fun k q hq => ?_, fun k n => ?_⟩
  · rw [mono_co]
    split
    · exact b1
    · exact big0
  · unfold prodL at hq
    obtain ⟨i, -, rfl⟩ := List.mem_map.mp hq
    exact term k i
  · unfold prodL
    rw [sgN_take]
    have z : ∀ i, i < min n (min (k + 1) g.length) → i ≠ k → co g i * co (mono 0 (1 / co g (g.length - 1))) (k - i) = 0 := fun i hi hk => by rw [mono_co, if_neg (by omega), Rat.mul_zero]
    by_cases hk : k < min n (min (k + 1) g.length)
    · rw [sgN_one hk z]; exact term k k
    · rw [sgN_zero fun i hi => z i hi (by omega)]; exact big0
def pGcd (Po R : Addr) : Pre := fun Rs w o w' => ∃ a b : List Rat, Can a ∧ Can b ∧ a.length ≤ 9 ∧ b.length ≤ 9 ∧ Cd 141 a ∧ Cd 141 b ∧ Rs = [rPl Po R a, rPl Po R b] ∧ w = [] ∧ w' = [] ∧ o = .ok (rPl Po R (normQ (gcdQ a b)))
section
variable {P : Program} {w : World} {K : PySem.W.Frag} {mg : Str → Option Value} {base : Heap} {Po R M f : Addr} {fd : FuncData}
theorem kf_gcd (Fn : Fun K "common_divisor" "common_divisor" s_common_divisor f fd) (Y : PmX P w K mg base Po R M) (Td : Kf1 P w K mg base "divided" 42 (pDiv Po R M)) : FnOk P w K mg base (L2.CX P w) 43 f fd P_common_divisor (spM (pGcd Po R)) := by
  refine fn_ok Fn c_common_divisor (fun _ _ _ _ ⟨_, _, _, _, _, _, _, _, h, _⟩ => by rw [h]; rfl) ?_
  rintro cdv A outer s H E ⟨_, G0, H0, M', W', tk⟩ hr rfl Rs ω o ω' ⟨a, b, ca, cb, la, lb, za, zb, rfl, rfl, rfl, rfl⟩
  have nd := c_common_divisor.nd
  have Z := Y.Z
  have cl := Z.Y.cx.cls
  have np := Z.Y.nP
  have r1 := hr.mono (show 1 ≤ 42 by decide)
  have r8 := hr.mono (show 8 ≤ 42 by decide)
  have r37 := hr.mono (show 37 ≤ 42 by decide)
  have r41 := hr.mono (show 41 ≤ 42 by decide)
  obtain ⟨gB, S, gS, hS⟩ := gcd_ok ca cb la lb za zb (b.length + 1)
  have gc := gcdF_can (n := b.length + 1) ca cb
  refine hb_par (R := rPl Po R a) (S := rPl Po R b) (w1 := []) 2 3 (ar_cons (er_v 0 rfl rfl) (ar_cons (er_v 1 rfl rfl) ar_nil)) ?_ nd
  refine hb_while (fun m ρ w => ∃ x y, y.length + 1 ≤ m ∧ GcdB m x y ∧ gcdF m x y = gcdF (b.length + 1) a b ∧ Can x ∧ Can y ∧ x.length ≤ 9 ∧ y.length ≤ 9 ∧ w = [] ∧ ρ = [some (rPl Po R a), some (rPl Po R b), some (rPl Po R x), some (rPl Po R y)]) (b.length + 1) ⟨a, b, Nat.le_refl _, gB, rfl, ca, cb, la, lb, rfl, rfl⟩ ?_ (passes_of rfl)
  rintro m ρ w ⟨x, y, hm, hB, hF, cx, cy, lx, ly, rfl, rfl⟩
  refine ⟨!decide (y = []), [], tr_o Y.Tb r1 (er_v 3 rfl rfl) ⟨_, rfl, rfl, rfl, rfl⟩, fun hb => ?_, fun hb => ?_⟩
  · have hn : y ≠ [] := fun z => by rw [z] at hb; exact Bool.noConfusion hb
    obtain ⟨m, rfl⟩ : ∃ j, m = j + 1 := ⟨m - 1, by omega⟩
    obtain ⟨dB, gB'⟩ := hB hn
    have y1 : 1 ≤ y.length := List.length_pos_iff.mpr hn
    have t0 := can_top cy hn
    have lt := rem_lt (r := x) t0 y1
    have hF' : gcdF m y (remQ x y) = gcdF (b.length + 1) a b := by
      rw [← hF]
      conv => rhs; unfold gcdF
      rw [if_neg hn]
    refine hb_par (R := rPl Po R y) (S := rPl Po R (remQ x y)) (w1 := []) 2 3 (ar_cons (er_v 3 rfl rfl) (ar_cons (er_ix (A := rTup [rPl Po R (quoQ x y), rPl Po R (remQ x y)]) (er_fA Td hr (ar_cons (er_v 2 rfl rfl) (ar_cons (er_v 3 rfl rfl) ar_nil)) ⟨x, y, rfl, rfl, rfl, by omega, by omega, .inr ⟨hn, t0, dB, rfl⟩⟩) er_int (iop_T (n := 1) rfl rfl)) ar_nil)) (hb_nil ⟨m, Nat.lt_succ_self m, _, _, by omega, gB', hF', cy, divF_can cx, ly, by omega, rfl, rfl⟩) nd
  · have hy : y = [] := by
      refine Classical.byContradiction fun z => ?_
      rw [decide_eq_false z] at hb
      exact Bool.noConfusion hb
    have e : x = gcdF (b.length + 1) a b := by
      rw [← hF]
      cases m with
      | zero => rfl
      | succ m =>
        unfold gcdF
        rw [if_pos hy]
    have eg : gcdQ a b = x := e.symm
    rw [eg]
    rw [← e] at gS gc
    by_cases hx : x = []
    · subst hx
      refine hb_if (b := true) (w1 := []) (tr_to (tr_not (tr_o Y.Tb r1 (er_v 2 rfl rfl) ⟨_, rfl, rfl, rfl, rfl⟩)) rfl) (fun _ => ?_) (fun z => Bool.noConfusion z)
      exact hb_ret (er_v 2 rfl rfl) ⟨_, [], rfl, fun v G h => h, rfl⟩
    · obtain ⟨b1, mo⟩ := norm_ok hx gc gS hS
      have t0 := can_top gc hx
      have x1 : 1 ≤ x.length := List.length_pos_iff.mpr hx
      have num : (co x (x.length - 1)).num ≠ 0 := fun z => t0 (Rat.num_eq_zero.mp z)
      refine hb_if (b := false) (w1 := []) (tr_to (tr_not (tr_o Y.Tb r1 (er_v 2 rfl rfl) ⟨_, rfl, rfl, rfl, rfl⟩)) (by rw [decide_eq_false hx]; rfl)) (fun z => Bool.noConfusion z) (fun _ => hb_nil ?_)
      have ix : ∀ {F : Fx} {w : Ow}, Iop F w (rTup (x.map (rRat R))) (rInt (-1)) (rRat R (co x (x.length - 1))) := fun {F w} => iop_T (n := x.length - 1) (by
        unfold ixN
        rw [List.length_map, if_neg (by decide), if_pos (by omega)]
        congr 1
        omega) (co_at (by omega))
      refine hb_ret (er_eq (er_bin (er_v 2 rfl rfl) (er_poly (xs := [1 / co x (x.length - 1)]) Z.Tp r8 (ar_cons (er_lst (Rs := [rRat R (1 / co x (x.length - 1))]) (ar_cons (er_m Z.Tq Z.X.cx.cls r37 (er_eq (er_cm Z.Tw r37 (er_gC Z.X.gC) (ar_cons er_int ar_nil) (pWholeOk (n := 1))) (congrArg (rRat R) Rat.intCast_one)) (ar_cons (er_ix (er_fld (er_v 2 rfl rfl) cl np rfl) (er_un er_int uop_neg) ix) ar_nil) (pQuoOkW big1 (mo.ba _) num)) ar_nil) (by show 1 ≤ 1000; decide)) ar_nil) (by show 1 ≤ 1000; decide)) (bop_o Y.Tm Z.Y.cx r41 ⟨x, _, mo, by omega, Nat.le_trans (trim_le _) (by show 1 ≤ 400; decide), rfl, rfl, rfl, rfl⟩)) (congrArg (rPl Po R) (norm_mul hx gc))) ⟨_, [], rfl, fun v G h => h, rfl⟩
end
end W1
set_option maxRecDepth 100000
set_option maxHeartbeats 1000000
namespace W1
/-! ### sizes for the law's looks -/
theorem big_of {n : Nat} {q : Rat} (h : Sz n q) (l : n ≤ 8000000) : big q := h.mono (by unfold bigN; omega)
theorem sz_pre {m : Nat} (l : List Rat) (h : ∀ q ∈ l, Sz m q) (n : Nat) : Sz (1 + (m + 1) * l.length) (sumR (l.take n)) := by
  have hs := sz_sum (m := m) (l.take n) (fun q hq => h q (List.mem_of_mem_take hq)) (z := 0) sz_zero
  refine hs.mono ?_
  have : (m + 1) * (l.take n).length ≤ (m + 1) * l.length := Nat.mul_le_mul_left _ (by rw [List.length_take]; omega)
  omega
theorem prod_sz {m n : Nat} {a b : List Rat} (ha : ∀ k, Sz m (co a k)) (hb : ∀ k, Sz n (co b k)) (k : Nat) : ∀ q ∈ prodL a b k, Sz (m + n) q := fun q hq => by
  unfold prodL at hq
  obtain ⟨i, -, rfl⟩ := List.mem_map.mp hq
  exact sz_mul (ha i) (hb _) (Nat.le_refl _)
theorem prod_len {a b : List Rat} {k : Nat} : (prodL a b k).length ≤ a.length := by
  unfold prodL
  rw [List.length_map, List.length_range]
  omega
theorem conv_sz {m n : Nat} {a b : List Rat} (ha : ∀ k, Sz m (co a k)) (hb : ∀ k, Sz n (co b k)) (la : a.length ≤ 20) (k j : Nat) : Sz (1 + (m + n + 1) * 20) (sumR ((prodL a b k).take j)) := by
  refine (sz_pre _ (prod_sz ha hb k) j).mono ?_
  have : (m + n + 1) * (prodL a b k).length ≤ (m + n + 1) * 20 := Nat.mul_le_mul_left _ (Nat.le_trans prod_len la)
  omega
theorem mulOk_of {m n : Nat} {a b : List Rat} (ha : ∀ k, Sz m (co a k)) (hb : ∀ k, Sz n (co b k)) (la : a.length ≤ 20) (h : 1 + (m + n + 1) * 20 ≤ 8000000) : MulOk a b :=
  ⟨fun k => big_of (ha k) (by omega), fun k => big_of (hb k) (by omega), fun k q hq => big_of (prod_sz ha hb k q hq) (by omega), fun k j => big_of (conv_sz ha hb la k j) h⟩
theorem mul_sz {m n : Nat} {a b : List Rat} (ha : ∀ k, Sz m (co a k)) (hb : ∀ k, Sz n (co b k)) (la : a.length ≤ 20) (k : Nat) : Sz (1 + (m + n + 1) * 20) (co (mulL a b) k) := by
  rw [mul_co, ← prod_cv]
  have h := conv_sz ha hb la k (prodL a b k).length
  rw [List.take_length] at h
  exact h
theorem plus_sz {m n : Nat} {a b : List Rat} (ha : ∀ k, Sz m (co a k)) (hb : ∀ k, Sz n (co b k)) (k : Nat) : Sz (m + n + 1) (co (plusL a b) k) := by
  rw [add_co]
  exact sz_add (ha k) (hb k) (by omega)
theorem trim_sz {m : Nat} {a : List Rat} (ha : ∀ k, Sz m (co a k)) (k : Nat) : Sz m (co (trimQ a) k) := by
  rw [trim_co]
  exact ha k
theorem horner_sz {u v : Nat} {x : Rat} (hx : Sz u x) : ∀ (l : List Rat) (p : Nat) (z : Rat), Sz p z → (∀ q ∈ l, Sz v q) → Sz (p + l.length * (u + v + 1)) (l.foldl (fun z c => z * x + c) z)
  | [], p, z, hz, _ => by rw [List.length_nil, Nat.zero_mul]; exact hz
  | c :: l, p, z, hz, h => by
    have h1 : Sz (p + u + v + 1) (z * x + c) := sz_add (sz_mul hz hx (Nat.le_refl _)) (h c List.mem_cons_self) (by omega)
    refine (horner_sz hx l _ _ h1 fun q hq => h q (List.mem_cons_of_mem _ hq)).mono ?_
    rw [List.length_cons, Nat.succ_mul]
    omega
theorem mem_sz {v : Nat} {a : List Rat} (ha : ∀ k, Sz v (co a k)) : ∀ q ∈ a, Sz v q := fun q hq => by
  obtain ⟨i, hi, e⟩ := List.getElem_of_mem hq
  rw [← e, ← co_get (List.getElem?_eq_getElem hi)]
  exact ha i
theorem hv_sz {u v : Nat} {a : List Rat} {x : Rat} (ha : ∀ k, Sz v (co a k)) (hx : Sz u x) (la : a.length ≤ 30) (n : Nat) : Sz (1 + 30 * (u + v + 1)) (hv a x n) := by
  unfold hv
  refine (horner_sz hx (a.reverse.take n) 1 0 sz_zero fun q hq => mem_sz ha q (List.mem_reverse.mp (List.mem_of_mem_take hq))).mono ?_
  have : (a.reverse.take n).length * (u + v + 1) ≤ 30 * (u + v + 1) := Nat.mul_le_mul_right _ (by rw [List.length_take, List.length_reverse]; omega)
  omega
theorem valOk_of {u v : Nat} {a : List Rat} {x : Rat} (ha : ∀ k, Sz v (co a k)) (hx : Sz u x) (la : a.length ≤ 30) (h : 1 + 30 * (u + v + 1) + u ≤ 8000000) : ValOk a x :=
  ⟨big_of hx (by omega), fun k => big_of (ha k) (by omega), fun n => big_of (hv_sz ha hx la n) (by omega), fun n => big_of (sz_mul (hv_sz ha hx la n) hx (Nat.le_refl _)) h⟩
theorem ev_sz {u v : Nat} {a : List Rat} {x : Rat} (ha : ∀ k, Sz v (co a k)) (hx : Sz u x) (la : a.length ≤ 30) : Sz (1 + 30 * (u + v + 1)) (ev a x) := by
  have h := hv_sz ha hx la a.reverse.length
  unfold hv at h
  rw [List.take_length, ev_fold] at h
  exact h
theorem quo_len : ∀ {n : Nat} {f r s : List Rat} {m : Nat}, r.length ≤ m → f.length ≤ m → co s (s.length - 1) ≠ 0 → 1 ≤ s.length → (divF n f r s).1.length ≤ m
  | 0, f, r, s, m, _, h, _, _ => h
  | n + 1, f, r, s, m, hr, hf, h0, h1 => by
    unfold divF
    split
    · rename_i hl
      have lt := rest_lt (r := r) h0 h1 hl
      refine quo_len (by omega) ?_ h0 h1
      refine Nat.le_trans (trim_le _) ?_
      unfold plusL stepL
      rw [List.length_map, List.length_range, len_mono]
      omega
    · exact hf
/-- sums along the rows: the law's own products -/
def pq (a b : List Rat) (k n : Nat) : Rat := sgN k fun i => if i ≤ n then co a i * co b (n - i) else 0
theorem pq_full {a b : List Rat} {n : Nat} : pq a b a.length n = co (mulL a b) n := by
  rw [mul_co]
  unfold pq cv
  by_cases h : a.length ≤ n + 1
  · rw [sgN_more h fun i h1 h2 => by rw [co_out (xs := a) (by omega), Rat.zero_mul]]
    exact sgN_congr fun i hi => by rw [if_pos (by omega)]
  · rw [sgN_more (m := n + 1) (by omega) fun i h1 h2 => by rw [if_neg (by omega)]]
    exact sgN_congr fun i hi => by rw [if_pos (by omega)]
theorem sgN_sz {m : Nat} {f : Nat → Rat} (h : ∀ i, Sz m (f i)) : ∀ n, Sz (1 + (m + 1) * n) (sgN n f)
  | 0 => by rw [Nat.mul_zero]; exact sz_zero
  | n + 1 => by
    have h1 := sgN_sz h n
    refine (sz_add h1 (h n) (Nat.lt_succ_self _) : Sz (1 + (m + 1) * n + m + 1) (sgN n f + f n)).mono ?_
    rw [Nat.mul_succ]
    omega
theorem pq_sz {m n : Nat} {a b : List Rat} (ha : ∀ k, Sz m (co a k)) (hb : ∀ k, Sz n (co b k)) {k : Nat} (hk : k ≤ 20) (j : Nat) : Sz (1 + (m + n + 2) * 20) (pq a b k j) := by
  unfold pq
  refine (sgN_sz (m := m + n + 1) (fun i => ?_) k).mono ?_
  · split
    · exact (sz_mul (ha i) (hb _) (Nat.le_refl _)).mono (by omega)
    · exact sz_zero.mono (by omega)
  · have : (m + n + 1 + 1) * k ≤ (m + n + 2) * 20 := Nat.mul_le_mul_left _ hk
    omega
end W1
set_option maxRecDepth 100000
set_option maxHeartbeats 4000000
set_option exponentiation.threshold 20000
namespace W1
open PySem PySem.Spec PyProof.Rows L2 NdefX TL NumText
section
variable {tg it elt : Expr} {scope : Scope} {S : Rl} {Φ Ψ : Rl → Ow → Prop} {K : Kn} {rest : List Stmt}
def RdL (F : Fx) (A : Rl) (w : Ow) (Rs : List Rl) : Prop := ∀ x G H, At F w G H → A.r x G → ∃ p vs, x = .ref p ∧ H p = some (.lst vs) ∧ All2 Rs vs G
theorem rdl_L : RdL F (rLst Rs) w Rs := fun x G H at_ ⟨p, vs, a, b, c⟩ => ⟨p, vs, a, at_.gh _ _ b, c⟩
theorem rdl_O (h : (q, oL Rs) ∈ w) : RdL F (rRef q) w Rs := fun x G H at_ hx => by
  cases (show x = L2.V.ref q from hx)
  obtain ⟨_, _, o, h1, vs, rfl, h2⟩ := at_.ow _ h
  exact ⟨q, vs, rfl, h1, h2⟩
theorem en_catI {A B : Rl} (ha : ER F ρ ω a A w1) (hb : ER F ρ w1 b B w2) (hA : RdL F A w2 Rs) (hB : RdL F B w2 Ss) (hz : Rs.length + Ss.length ≤ 100000) : EN F ρ ω (.BinOp a .Add b pos) (oL (Rs ++ Ss)) w2 := fun σ G H at_ sl Q z => by
  refine ew_of (pe_op op_cat pe_w pe_w) (ha σ G H at_ sl _ fun x G1 H1 s1 a1 hx => hb σ G1 H1 a1 (sl.up s1) _ fun y G2 H2 s2 a2 hy => ?_)
  obtain ⟨l, vs, rfl, e1, e2⟩ := hA x G2 H2 a2 (A.mo _ _ _ s2 hx)
  obtain ⟨m, ws, rfl, e3, e4⟩ := hB y G2 H2 a2 hy
  exact ⟨l, m, vs, ws, rfl, rfl, e1, e3, Nat.le_trans (by rw [← e2.len, ← e4.len]; exact hz) (by decide), fun p hp => z p G2 _ (fun hm => a2.mm p hm hp) (s1.trans s2) (a2.own hp ⟨_, rfl, e2.app e4⟩)⟩
end
structure ErQ (K : PySem.W.Frag) (mg : Str → Option Value) (M : Addr) (nm fld : Str) : Prop where
  g : mg nm = some (.ref M)
  x : XfC K M
  n : PySem.W.findIn K (.ref M) fld = some none
  t : PySem.W.exmOne K (.ref M) (.ref M) = some true
/-! ### rules: list(x), owned; x.pop(); lists of fractions compared -/
section
variable {F : Fx} {ρ : Ty} {ω w w1 w2 : Ow} {o : Expr} {p apos : Pos} {A B R : Rl} {Rs Ss : List Rl} {q : Addr} {n : Nat}
theorem copN_listIs (h : IsSq F A w Rs) : CopN F w (.type "list") [A] (oL Rs) := ⟨_, call_list_of, fun xs G H at_ hx Q q => by
  obtain ⟨x, rfl, hx1⟩ := all1 hx
  obtain ⟨p, vs, rfl, h1, h2⟩ := h x G H at_ hx1
  exact ⟨p, vs, rfl, h1, fun l hl => q l _ _ (fun hm => at_.mm l hm hl) (Same.refl _) (at_.own hl ⟨_, rfl, h2⟩)⟩⟩
theorem All2.init : ∀ {Rs : List Rl} {vs : List V} {H : Hp}, All2 Rs vs H → All2 Rs.dropLast vs.dropLast H
  | [], [], _, _ => trivial
  | [_], [_], _, _ => trivial
  | _ :: b :: t, _ :: d :: u, _, h => ⟨h.1, All2.init (Rs := b :: t) (vs := d :: u) h.2⟩
  | [], _ :: _, _, h => h.elim
  | _ :: _, [], _, h => h.elim
  | [_], _ :: _ :: _, _, h => h.2.elim
  | _ :: _ :: _, [_], _, h => h.2.elim
theorem er_popE (ho : ER F ρ ω o (rRef q) ((q, oL Rs) :: w2)) (hR : Rs[Rs.length - 1]? = some R) (hbase : attributeBase o "pop" F.X.env (eval o F.X.env) = eval o F.X.env := by rfl) (hline : (apos.endLine == p.line) = true := by rfl) :
    ER F ρ ω (.Call (.Attribute o "pop" apos) [] [] p) R ((q, oL Rs.dropLast) :: w2) := fun σ G H at_ sl Q r => by
  refine ew_of (pe_bm0 (T := "list") PySem.F.plainAttrs_list PySem.F.slot_list_pop PySem.F.type_list_pop mt_pop pe_w hbase hline) (ho σ G H at_ sl _ fun x G1 H1 s1 a1 r1 => ?_)
  cases (show x = V.ref q from r1)
  obtain ⟨_, _, ob, h1', vs, e1, h2⟩ := a1.ow _ List.mem_cons_self
  subst e1
  obtain ⟨y, hy, ry⟩ := h2.get hR
  refine ⟨.inl ⟨rfl, vs, SqL.of h1'⟩, q, vs, y, rfl, rfl, h1', by rw [← h2.len]; exact hy, r y G1 _ s1 (a1.chg ⟨_, rfl, All2.init h2⟩) ry⟩
theorem bop_neG {b : Nat → Bool} (he : ∀ (i : Nat) R S, Rs[i]? = some R → Ss[i]? = some S → EqB F.X n R S (b i)) (hA : ∀ x G H, At F w G H → A.r x G → (rLst Rs).r x H) (hB : ∀ x G H, At F w G H → B.r x G → (rLst Ss).r x H) (hr : Room (n + 1) F.X.A) :
    Bop F w (compareOp .NotEq) A B (rBool (!(decide (Rs.length = Ss.length) && W1Q.allFrom b 0 Rs.length))) := by
  refine bop_semH hA hB fun pins s σ G H x y u v Q I rx ry sg ax ay q => ?_
  obtain ⟨p, vs, rfl, h1, h2⟩ := id ax
  obtain ⟨p2, ws, rfl, h3, h4⟩ := id ay
  cases (show u = Value.ref p from rx)
  cases (show v = Value.ref p2 from ry)
  exact rcnl he ⟨hr, rfl⟩ I sg h1 h3 h2 h4 fun s' ⟨G', H', I', st⟩ => ⟨V.bl _, H', I', rfl, q _ G' H' st rfl⟩
end
end W1
set_option maxRecDepth 100000
set_option maxHeartbeats 4000000
set_option exponentiation.threshold 20000
namespace W1
open PySem PySem.Spec PyProof.Rows L2 NdefX TL NumText
section
variable {F : Fx} {w : Ow} {q : Addr} {Rs : List Rl} {fs : List (Key × Rl)} {U : String} {t : Value} {b : Bool}
theorem isl_O (h : (q, oL Rs) ∈ w) : ∀ x G H, At F w G H → (rRef q).r x G → (rLst Rs).r x H := fun x G H at_ hx => by
  cases (show x = V.ref q from hx)
  obtain ⟨_, _, o, ho, vs, rfl, h2⟩ := at_.ow _ h
  exact ⟨q, vs, rfl, ho, h2.up at_.gh⟩
end
theorem hb_ndk {F : Fx} {ρ : Ty} {ω : Ow} {rest : List Stmt} {Kx : Kn} (h : (ω.map (·.1)).Nodup → HB F ρ ω rest Kx) : HB F ρ ω rest Kx := fun σ G H D at_ sl ps => h at_.nd σ G H D at_ sl ps
def pCut (R : Addr) : PreN := fun Rs w O w' => ∃ (A : Rl) (xs : List Rat), SVar A w (xs.map (rRat R)) ∧ Rs = [A] ∧ w' = w ∧ O = oL ((trimQ xs).map (rRat R))
def pAtP (R : Addr) : Pre := fun Rs w o w' => ∃ (a : List Rat) (k : Nat), Rs = [rLst (a.map (rRat R)), rInt ((k : Nat) : Int)] ∧ w = [] ∧ w' = [] ∧ o = .ok (rRat R (co a k))
def sumG (a b : List Rat) (s : Int) : List Rat := (List.range (max a.length b.length)).map fun k => co a k + co b k * (s : Rat)
structure SumOk (a b : List Rat) (s : Int) : Prop where
  ba : ∀ k, big (co a k)
  bb : ∀ k, big (co b k)
  bs : big (s : Rat)
  bm : ∀ k, big (co b k * (s : Rat))
def pSumL (R : Addr) : PreN := fun Rs w O w' => ∃ (a b : List Rat) (s : Int), SumOk a b s ∧ a.length ≤ 400 ∧ b.length ≤ 400 ∧ Rs = [rLst (a.map (rRat R)), rLst (b.map (rRat R)), rInt s] ∧ w = [] ∧ w' = [] ∧ O = oL ((trimQ (sumG a b s)).map (rRat R))
def pValL (R : Addr) : Pre := fun Rs w o w' => ∃ (a : List Rat) (x : Rat), ValOk a x ∧ Rs = [rLst (a.map (rRat R)), rRat R x] ∧ w = [] ∧ w' = [] ∧ o = .ok (rRat R (ev a x))
section
variable {P : Program} {w : World} {K : PySem.W.Frag} {mg : Str → Option Value} {base : Heap} {Po R M f : Addr} {fd : FuncData}
theorem kf_cut (Fn : Fun K "_law_cut" "_law_cut" s__law_cut f fd) (Z : PwX P w K mg base Po R M) : FnOk P w K mg base (L2.CX P w) 38 f fd P__law_cut (spN (pCut R)) := by
  refine fn_okN Fn c__law_cut (fun _ _ _ _ ⟨_, _, _, h, _⟩ => by rw [h]; rfl) ?_
  rintro cdv A outer s H E ⟨_, G0, H0, M', W', tk⟩ hr rfl Rs ω o ω' ⟨A1, xs, v1, rfl, rfl, rfl⟩
  have nd := c__law_cut.nd
  have r1 := hr.mono (show 1 ≤ 37 by decide)
  have r5 := hr.mono (show 5 ≤ 37 by decide)
  refine hb_setNA 0 rfl (en_tA (ar_cons (er_v 0 rfl rfl) ar_nil) Z.ls bt_list (copN_listIs (v1.isq fun _ h => h))) fun q hq => ?_
  refine hb_while (fun m ρ w => ∃ ys : List Rat, m = ys.length ∧ trimQ ys = trimQ xs ∧ ρ = [some (rRef q)] ∧ w = (q, oL (ys.map (rRat R))) :: ω') xs.length ⟨xs, rfl, rfl, rfl, rfl⟩ ?_ (passes_of rfl)
  rintro m ρ w ⟨ys, rfl, ht, rfl, rfl⟩
  have fin : ∀ zs : List Rat, trimQ xs = zs → HB ⟨_, G0, H0, M', W', tk⟩ [some (rRef q)] ((q, oL (zs.map (rRat R))) :: ω') ((defBody s__law_cut).drop 2) (KfN (oL ((trimQ xs).map (rRat R))) ω') := fun zs e => hb_ndk fun hnd => hb_ret (er_v 0 rfl rfl) ⟨q, [], fun _ _ h => h, (List.nodup_cons.mp hnd).1, by rw [e, List.append_nil]⟩
  rcases List.eq_nil_or_concat ys with rfl | ⟨zs, c, rfl⟩
  · refine ⟨false, _, tr_to (PWR.tr (tr_and (k := false) (m := false) (tr_to (tr_cmp (er_v 0 rfl rfl) (er_lst (Rs := []) ar_nil (Nat.zero_le _)) (bop_neG (b := fun _ => true) (Rs := []) (Ss := []) (n := 0) (fun i R S h => by simp at h) (isl_O List.mem_cons_self) (fun x G H a h => isl_L x G H a h) r1)) rfl) fun z => Bool.noConfusion z)) rfl, fun z => Bool.noConfusion z, fun _ => ?_⟩
    exact fin [] ht.symm
  · rw [List.concat_eq_append] at ht ⊢
    refine ⟨decide (c = 0), _, tr_to (PWR.tr (tr_and (k := true) (m := decide (c = 0)) (tr_to (tr_cmp (er_v 0 rfl rfl) (er_lst (Rs := []) ar_nil (Nat.zero_le _)) (bop_neG (b := fun _ => true) (Rs := (zs ++ [c]).map (rRat R)) (Ss := []) (n := 0) (fun i R S _ h => by simp at h) (isl_O List.mem_cons_self) (fun x G H a h => isl_L x G H a h) r1)) (by rw [decide_eq_false (by simp)]; rfl)) fun _ => tr_and1 (tr_cmp (er_ixO (R := rRat R c) (n := zs.length) (er_v 0 rfl rfl) (er_un er_int uop_neg) List.mem_cons_self (by
      unfold ixN
      rw [List.length_map, List.length_append, List.length_singleton]
      simp
      omega) (by rw [List.map_append, List.getElem?_append_right (by rw [List.length_map]; exact Nat.le_refl _), List.length_map, Nat.sub_self]; rfl)) (er_eq (er_cm Z.Tw hr (er_gC Z.X.gC) (ar_cons er_int ar_nil) (pWholeOk (n := 0))) (congrArg (rRat R) Rat.intCast_zero)) (bop_oE Z.Te r5 pEqOk tyr_ins Z.X.nf)))) (Bool.true_and _), fun hb => ?_, fun hb => ?_⟩
    · have h0 : c = 0 := of_decide_eq_true hb
      subst h0
      have ed : ((zs ++ [(0 : Rat)]).map (rRat R)).dropLast = zs.map (rRat R) := by rw [List.map_append]; exact List.dropLast_concat
      refine hb_expr (R := rRat R 0) (w1 := (q, oL ((zs ++ [(0 : Rat)]).map (rRat R)).dropLast) :: ω') (er_popE (er_v 0 rfl rfl) (by rw [List.length_map, List.length_append, List.length_singleton, Nat.add_sub_cancel, List.map_append, List.getElem?_append_right (by rw [List.length_map]; exact Nat.le_refl _), List.length_map, Nat.sub_self]; rfl)) ?_
      rw [ed]
      refine hb_nil ⟨zs.length, ?_, zs, rfl, ?_, rfl, rfl⟩
      · rw [List.length_append, List.length_singleton]; omega
      · rw [← ht, trim_zero]
    · have h0 : c ≠ 0 := of_decide_eq_false hb
      exact fin _ (by rw [← ht, trim_last h0])
theorem kf_atp (Fn : Fun K "_law_at_place" "_law_at_place" s__law_at_place f fd) (Z : PwX P w K mg base Po R M) : FnOk P w K mg base (L2.CX P w) 38 f fd P__law_at_place (spM (pAtP R)) := by
  refine fn_ok Fn c__law_at_place (fun _ _ _ _ ⟨_, _, h, _⟩ => by rw [h]; rfl) ?_
  rintro cdv A outer s H E ⟨_, G0, H0, M', W', tk⟩ hr rfl Rs ω o ω' ⟨a, k, rfl, rfl, rfl, rfl⟩
  refine hb_ret (er_ifx (k := decide (((k : Nat) : Int) < ((a.length : Nat) : Int))) (tr_cmp (er_v 1 rfl rfl) (er_eq (er_bA (ar_cons (er_v 0 rfl rfl) ar_nil) Z.len bt_len cop_lenL) (congrArg rInt len_map)) bop_lt) (fun hb => ?_) (fun hb => ?_)) ⟨_, [], rfl, fun v G h => h, rfl⟩
  · have h : k < a.length := by have := of_decide_eq_true hb; omega
    exact er_ix (er_v 0 rfl rfl) (er_v 1 rfl rfl) (iop_L (n := k) (ixN_at (by rw [List.length_map]; exact h)) (co_at h))
  · have h : a.length ≤ k := by have := of_decide_eq_false hb; omega
    rw [co_out h]
    exact er_eq (er_cm Z.Tw hr (er_gC Z.X.gC) (ar_cons er_int ar_nil) (pWholeOk (n := 0))) (congrArg (rRat R) Rat.intCast_zero)
theorem kf_suml (Fn : Fun K "_law_sum" "_law_sum" s__law_sum f fd) (Z : PwX P w K mg base Po R M) (Tc : KfN1 P w K mg base "_law_cut" 38 (pCut R)) (Ta : Kf1 P w K mg base "_law_at_place" 38 (pAtP R)) : FnOk P w K mg base (L2.CX P w) 39 f fd P__law_sum (spN (pSumL R)) := by
  refine fn_okN Fn c__law_sum (fun _ _ _ _ ⟨_, _, _, _, _, _, h, _⟩ => by rw [h]; rfl) ?_
  rintro cdv A outer s H E ⟨_, G0, H0, M', W', tk⟩ hr rfl Rs ω o ω' ⟨a, b, sg, ok, la, lb, rfl, rfl, rfl, rfl⟩
  have nd := c__law_sum.nd
  have r37 := hr.mono (show 37 ≤ 38 by decide)
  refine hb_setA (R := rInt (((max a.length b.length : Nat) : Nat) : Int)) (w1 := []) 3 rfl (er_eq (er_bA (ar_cons (er_bA (ar_cons (er_v 0 rfl rfl) ar_nil) Z.len bt_len cop_lenL) (ar_cons (er_bA (ar_cons (er_v 1 rfl rfl) ar_nil) Z.len bt_len cop_lenL) ar_nil)) Z.mx bt_max (cop_max2 rfl)) (congrArg rInt (by rw [len_map, len_map]; split <;> omega))) ?_
  refine hb_retO (en_fA Tc hr (ar_cons (R := rLst ((sumG a b sg).map (rRat R))) (er_eq (er_lc (xs := List.range (max a.length b.length)) (A := fun j : Nat => rInt (0 + (j : Int))) (B := fun j : Nat => rRat R (co a j + co b j * (sg : Rat))) (by rw [← rngN]; exact it_rng1 (ar_cons (er_v 3 rfl rfl) ar_nil) rfl Z.rg (by omega)) (by rw [List.length_range]; omega) [("_law_k", 4)] (blkOk_by (N := N__law_sum) (sc := defScope s__law_sum) (by decide +kernel)) (fun _ _ _ _ _ => pg_name (i := 4) nd rfl (by first | exact Or.inl rfl | exact Or.inr rfl)) (fun i g h => gew_name) (fun i j hj s1 H1 cc cl' fp d => er_bin (er_fA Ta hr (ar_cons (er_v 0 rfl rfl) (ar_cons (er_eq (er_v 4 rfl rfl) (congrArg rInt (Int.zero_add _))) ar_nil)) ⟨a, j, rfl, rfl, rfl, rfl⟩) (er_bin (er_fA Ta hr (ar_cons (er_v 1 rfl rfl) (ar_cons (er_eq (er_v 4 rfl rfl) (congrArg rInt (Int.zero_add _))) ar_nil)) ⟨b, j, rfl, rfl, rfl, rfl⟩) (er_cm Z.Tw r37 (er_gC Z.X.gC) (ar_cons (er_v 2 rfl rfl) ar_nil) (pWholeOk (n := sg))) (bop_o Z.Tm Z.X.cx r37 (pMulOkW (ok.bb j) ok.bs))) (bop_o Z.Ta Z.X.cx r37 (pAddOkW (ok.ba j) (ok.bm j)))) nd) (by unfold sumG; rw [List.map_map]; rfl)) ar_nil) ⟨_, sumG a b sg, .inl ⟨rfl, rfl⟩, rfl, rfl, rfl⟩) fun q hM => ⟨q, [], fun _ _ h => h, List.not_mem_nil, rfl⟩
theorem kf_vall (Fn : Fun K "_law_value" "_law_value" s__law_value f fd) (Z : PwX P w K mg base Po R M) : FnOk P w K mg base (L2.CX P w) 38 f fd P__law_value (spM (pValL R)) := by
  refine fn_ok Fn c__law_value (fun _ _ _ _ ⟨_, _, _, h, _⟩ => by rw [h]; rfl) ?_
  rintro cdv A outer s H E ⟨_, G0, H0, M', W', tk⟩ hr rfl Rs ω o ω' ⟨a, x, ok, rfl, rfl, rfl, rfl⟩
  have nd := c__law_value.nd
  refine hb_setA (R := rRat R 0) (w1 := []) 2 rfl (er_eq (er_cm Z.Tw hr (er_gC Z.X.gC) (ar_cons er_int ar_nil) (pWholeOk (n := 0))) (congrArg (rRat R) Rat.intCast_zero)) ?_
  refine hb_for (it_lst (Rs := a.reverse.map (rRat R)) (er_eq (er_revL (er_tA (ar_cons (er_v 0 rfl rfl) ar_nil) Z.ls bt_list cop_listL)) (congrArg rLst List.map_reverse.symm))) (fun k ρ ω => ω = [] ∧ ∃ z, ρ = [some (rLst (a.map (rRat R))), some (rRat R x), some (rRat R (hv a x k)), z]) ⟨rfl, none, rfl⟩ ?_ ?_ (passes_of rfl) (pg_name (i := 3) nd rfl (by first | exact Or.inl rfl | exact Or.inr rfl))
  · rintro k ρ ω S hS ⟨rfl, z, rfl⟩
    obtain ⟨q, hq, rfl⟩ := map_get hS
    refine ⟨_, ge_name, ?_⟩
    have bq : big q := by
      have hm := List.mem_reverse.mp (List.mem_of_getElem? hq)
      obtain ⟨i, hi, e⟩ := List.getElem_of_mem hm
      rw [← e, ← co_get (List.getElem?_eq_getElem hi)]
      exact ok.ba i
    refine hb_setA (R := rRat R (hv a x k * x + q)) (w1 := []) 2 rfl (er_bin (er_bin (er_v 2 rfl rfl) (er_v 1 rfl rfl) (bop_o Z.Tm Z.X.cx hr (pMulOkW (ok.bm k) ok.bx))) (er_v 3 rfl rfl) (bop_o Z.Ta Z.X.cx hr (pAddOkW (ok.bh k) bq))) (hb_nil ⟨rfl, some (rRat R q), ?_⟩)
    show _ = [some (rLst (a.map (rRat R))), some (rRat R x), some (rRat R (hv a x (k + 1))), some (rRat R q)]
    unfold hv
    rw [fold_take _ _ _ _ _ hq]
    rfl
  · rintro ρ ω ⟨rfl, z, rfl⟩
    refine hb_ret (er_v 2 rfl rfl) ⟨_, [], rfl, fun v G h => ?_, rfl⟩
    rw [← ev_fold]
    rw [List.length_map] at h
    unfold hv at h
    rw [List.take_length] at h
    exact h
/-! ### products by rows -/
structure TimOk (a b : List Rat) : Prop where
  ba : ∀ k, big (co a k)
  bb : ∀ k, big (co b k)
  bp : ∀ k n, big (co a k * co b n)
  bs : ∀ k n, k ≤ a.length → big (pq a b k n)
def pTim (R : Addr) : PreN := fun Rs w O w' => ∃ a b : List Rat, TimOk a b ∧ a.length ≤ 400 ∧ b.length ≤ 400 ∧ Rs = [rLst (a.map (rRat R)), rLst (b.map (rRat R))] ∧ w = [] ∧ w' = [] ∧ O = oL ((trimQ (mulL a b)).map (rRat R))
/-- behind k rows and j more -/
def pqJ (a b : List Rat) (k j n : Nat) : Rat := if k ≤ n ∧ n - k < j then pq a b (k + 1) n else pq a b k n
def tmL (a b : List Rat) (k j : Nat) : List Rat := (List.range (a.length + b.length)).map (pqJ a b k j)
theorem tm_zero {a b : List Rat} {k : Nat} : tmL a b k 0 = (List.range (a.length + b.length)).map (pq a b k) := by
  unfold tmL
  refine List.map_congr_left fun n _ => ?_
  unfold pqJ
  rw [if_neg (by omega)]
theorem tm_row {a b : List Rat} {k : Nat} : tmL a b k b.length = tmL a b (k + 1) 0 := by
  rw [tm_zero]
  unfold tmL
  refine List.map_congr_left fun n _ => ?_
  unfold pqJ
  split
  · rfl
  · rename_i h
    show pq a b k n = pq a b k n + (if k ≤ n then co a k * co b (n - k) else 0)
    split
    · rw [co_out (xs := b) (by omega), Rat.mul_zero, Rat.add_zero]
    · rw [Rat.add_zero]
theorem tm_step {a b : List Rat} {k j : Nat} (hk : k < a.length) (hj : j < b.length) : (tmL a b k j).set (k + j) (pq a b k (k + j) + co a k * co b j) = tmL a b k (j + 1) := by
  unfold tmL
  refine List.ext_getElem? fun n => ?_
  rw [List.getElem?_set, List.length_map, List.length_range, List.getElem?_map, List.getElem?_map]
  by_cases hn : n < a.length + b.length
  · rw [List.getElem?_range hn]
    by_cases e : k + j = n
    · subst e
      rw [if_pos rfl, if_pos hn]
      show some _ = some (pqJ a b k (j + 1) (k + j))
      unfold pqJ
      rw [if_pos ⟨by omega, by omega⟩]
      show some _ = some (pq a b k (k + j) + (if k ≤ k + j then co a k * co b (k + j - k) else 0))
      rw [if_pos (by omega), show k + j - k = j by omega]
    · rw [if_neg e]
      show some (pqJ a b k j n) = some (pqJ a b k (j + 1) n)
      unfold pqJ
      by_cases h : k ≤ n ∧ n - k < j
      · rw [if_pos h, if_pos ⟨h.1, by omega⟩]
      · rw [if_neg h, if_neg (by omega)]
  · rw [List.getElem?_eq_none (by rw [List.length_range]; omega), if_neg (by omega)]
    rfl
theorem tm_end {a b : List Rat} : tmL a b a.length 0 = mulL a b := by
  rw [tm_zero]
  unfold mulL
  refine List.map_congr_left fun n _ => ?_
  rw [pq_full, mul_co, prod_cv]
theorem tm_get {a b : List Rat} {k j n : Nat} (hn : n < a.length + b.length) : (tmL a b k j)[n]? = some (pqJ a b k j n) := by
  unfold tmL
  rw [List.getElem?_map, List.getElem?_range hn]
  rfl
theorem tm_len {a b : List Rat} {k j : Nat} : (tmL a b k j).length = a.length + b.length := by
  unfold tmL
  rw [List.length_map, List.length_range]
theorem kf_tim (Fn : Fun K "_law_times" "_law_times" s__law_times f fd) (Z : PwX P w K mg base Po R M) (Tc : KfN1 P w K mg base "_law_cut" 38 (pCut R)) : FnOk P w K mg base (L2.CX P w) 39 f fd P__law_times (spN (pTim R)) := by
  refine fn_okN Fn c__law_times (fun _ _ _ _ ⟨_, _, _, _, _, h, _⟩ => by rw [h]; rfl) ?_
  rintro cdv A outer s H E ⟨_, G0, H0, M', W', tk⟩ hr rfl Rs ω o ω' ⟨a, b, ok, la, lb, rfl, rfl, rfl, rfl⟩
  have nd := c__law_times.nd
  have r37 := hr.mono (show 37 ≤ 38 by decide)
  have e0 : (List.replicate ((((a.length + b.length : Nat) : Nat) : Int)).toNat [rRat R 0]).flatten = (tmL a b 0 0).map (rRat R) := by
    rw [Int.toNat_natCast, tm_zero, List.map_map]
    have e1 : ∀ n : Nat, (List.replicate n [rRat R 0]).flatten = (List.range n).map (rRat R ∘ pq a b 0) := fun n => by
      induction n with
      | zero => rfl
      | succ n ih =>
        rw [List.replicate_succ', List.flatten_append, ih, List.range_succ, List.map_append]
        rfl
    exact e1 _
  refine hb_setNA 2 rfl (en_rep (Rs := [rRat R 0]) (k := (((a.length + b.length : Nat) : Nat) : Int)) (er_lst (Rs := [rRat R 0]) (ar_cons (er_eq (er_cm Z.Tw r37 (er_gC Z.X.gC) (ar_cons er_int ar_nil) (pWholeOk (n := 0))) (congrArg (rRat R) Rat.intCast_zero)) ar_nil) (by show 1 ≤ 1000; decide)) (er_eq (er_bin (er_bA (ar_cons (er_v 0 rfl rfl) ar_nil) Z.len bt_len cop_lenL) (er_bA (ar_cons (er_v 1 rfl rfl) ar_nil) Z.len bt_len cop_lenL) bop_add) (congrArg rInt (by rw [len_map, len_map]; omega))) (by omega) (by omega) (by show 1 * ((((a.length + b.length : Nat) : Nat) : Int)).toNat ≤ 100000; rw [Int.toNat_natCast]; omega)) fun q hq => ?_
  rw [e0]
  refine hb_for (it_rng1 (n := ((a.length : Nat) : Int)) (ar_cons (er_eq (er_bA (ar_cons (er_v 0 rfl rfl) ar_nil) Z.len bt_len cop_lenL) (congrArg rInt len_map)) ar_nil) rfl Z.rg (by omega)) (fun k ρ w => ∃ z3 z4, k ≤ a.length ∧ ρ = [some (rLst (a.map (rRat R))), some (rLst (b.map (rRat R))), some (rRef q), z3, z4] ∧ w = [(q, oL ((tmL a b k 0).map (rRat R)))]) ⟨_, _, Nat.zero_le _, rfl, rfl⟩ ?_ ?_ (passes_of rfl) (pg_name (i := 3) nd rfl (by first | exact Or.inl rfl | exact Or.inr rfl))
  · rintro k ρ w S hS ⟨z3, z4, hk0, rfl, rfl⟩
    obtain ⟨hk, rfl⟩ := rng_get hS
    have hk : k < a.length := by omega
    rw [show (0 : Int) + (k : Int) = ((k : Nat) : Int) by omega]
    refine ⟨_, ge_name, ?_⟩
    refine hb_for (it_rng1 (n := ((b.length : Nat) : Int)) (ar_cons (er_eq (er_bA (ar_cons (er_v 1 rfl rfl) ar_nil) Z.len bt_len cop_lenL) (congrArg rInt len_map)) ar_nil) rfl Z.rg (by omega)) (fun j ρ w => ∃ z4, j ≤ b.length ∧ ρ = [some (rLst (a.map (rRat R))), some (rLst (b.map (rRat R))), some (rRef q), some (rInt ((k : Nat) : Int)), z4] ∧ w = [(q, oL ((tmL a b k j).map (rRat R)))]) ⟨_, Nat.zero_le _, rfl, rfl⟩ ?_ ?_ (passes_of rfl) (pg_name (i := 4) nd rfl (by first | exact Or.inl rfl | exact Or.inr rfl))
    · rintro j ρ w S hS ⟨z4, hj0, rfl, rfl⟩
      obtain ⟨hj, rfl⟩ := rng_get hS
      have hj : j < b.length := by omega
      rw [show (0 : Int) + (j : Int) = ((j : Nat) : Int) by omega]
      refine ⟨_, ge_name, ?_⟩
      have lt : k + j < a.length + b.length := by omega
      have old : pqJ a b k j (k + j) = pq a b k (k + j) := by unfold pqJ; rw [if_neg (by omega)]
      have ei : ∀ {F : Fx} {ρ : Ty} {w : Ow}, True := fun {_ _ _} => trivial
      refine hb_sub (i := ((k + j : Nat) : Int)) (n := k + j) (R := rRat R (pq a b k (k + j) + co a k * co b j)) (w3 := []) (er_bin (er_ixO (R := rRat R (pq a b k (k + j))) (i := ((k + j : Nat) : Int)) (n := k + j) (er_v 2 rfl rfl) (er_eq (er_bin (er_v 3 rfl rfl) (er_v 4 rfl rfl) bop_add) (congrArg rInt (by omega))) List.mem_cons_self (ixN_at (by rw [List.length_map, tm_len]; exact lt)) (by rw [List.getElem?_map, tm_get lt, old]; rfl)) (er_bin (er_ix (er_v 0 rfl rfl) (er_v 3 rfl rfl) (iop_L (n := k) (ixN_at (by rw [List.length_map]; exact hk)) (co_at hk))) (er_ix (er_v 1 rfl rfl) (er_v 4 rfl rfl) (iop_L (n := j) (ixN_at (by rw [List.length_map]; exact hj)) (co_at hj))) (bop_o Z.Tm Z.X.cx r37 (pMulOkW (ok.ba k) (ok.bb j)))) (bop_o Z.Ta Z.X.cx r37 (pAddOkW (ok.bs k _ hk0) (ok.bp k j)))) (er_v 2 rfl rfl) (er_eq (er_bin (er_v 3 rfl rfl) (er_v 4 rfl rfl) bop_add) (congrArg rInt (by omega))) (ixN_at (by rw [List.length_map, tm_len]; exact lt)) (hb_nil ⟨_, by omega, rfl, ?_⟩)
      rw [← tm_step hk hj, List.map_set]
    · rintro ρ w ⟨z4, hj, rfl, rfl⟩
      rw [rng_len, Int.toNat_natCast, tm_row]
      exact hb_nil ⟨_, _, by omega, rfl, rfl⟩
  rintro ρ w ⟨z3, z4, hk, rfl, rfl⟩
  rw [rng_len, Int.toNat_natCast, tm_end]
  exact hb_retOk (en_fn (wc := [(q, oL ((mulL a b).map (rRat R)))]) (wc' := [(q, oL ((mulL a b).map (rRat R)))]) (w := []) Tc hr (ar_cons (er_v 2 rfl rfl) ar_nil) ⟨_, mulL a b, .inr (.inr ⟨q, rfl, rfl⟩), rfl, rfl, rfl⟩ rfl) fun q2 hM hk => ⟨q2, [(q, oL ((mulL a b).map (rRat R)))], fun _ _ h => h, List.not_mem_nil, rfl⟩
end
end W1
set_option maxRecDepth 100000
set_option maxHeartbeats 4000000
set_option exponentiation.threshold 20000
namespace W1
open PySem PySem.Spec PyProof.Rows L2 NdefX TL NumText
section
variable {F : Fx} {ρ : Ty} {ω w1 : Ow} {K : Kn} {rest : List Stmt} {e tg : Expr} {pos : Pos}
theorem hb_asgX {P : Er} {g : TG} (he : EX F ρ ω e P w1) (pg : PG F.X tg g) (h : K.ex ρ w1 P) (hs : swapsWithSole [tg] e pos.line F.X.env = pure false := by rfl) (hw : swappedStores [tg] e F.X.env = pure none := by rfl)
    (h1 : (assignEach [tg] F.X.env).map (·.2) = [assign tg F.X.env] := by rfl) : HB F ρ ω (.Assign [tg] e pos :: rest) K := hb_cons fun σ G H D at_ sl ps =>
  sw_of (ps_asg (pe_x (t := fun _ _ _ => True)) pg hs hw h1) (he σ G H at_ sl fun cls d G2 H2 s a r => ps.ex ρ w1 P h cls d σ G2 H2 s a (sl.up s) r)
end
def pRest (R : Addr) : Pre := fun Rs w o w' => ∃ a b : List Rat, Can a ∧ co b (b.length - 1) ≠ 0 ∧ DivB a.length [] a b ∧ a.length ≤ 400 ∧ b.length ≤ 400 ∧ Rs = [rLst (a.map (rRat R)), rLst (b.map (rRat R))] ∧ w = [] ∧ w' = [] ∧ o = .ok (rLst ((remQ a b).map (rRat R)))
def pDvs (R : Addr) : Pre := fun Rs w o w' => ∃ a b : List Rat, Can a ∧ Can b ∧ a.length ≤ 9 ∧ b.length ≤ 9 ∧ Cd 141 a ∧ Cd 141 b ∧ Rs = [rLst (a.map (rRat R)), rLst (b.map (rRat R))] ∧ w = [] ∧ w' = [] ∧ o = .ok (rLst (((gcdQ a b).map fun q => q / co (gcdQ a b) ((gcdQ a b).length - 1)).map (rRat R)))
def pLdv (Po R M : Addr) : Pre := fun Rs w o w' => ∃ a b : List Rat, Rs = [rPl Po R a, rPl Po R b] ∧ w = [] ∧ w' = [] ∧ a.length ≤ 400 ∧ b.length ≤ 400 ∧
  ((b = [] ∧ o = .ok (rLst [rStr "number", rInt 0])) ∨ (co b (b.length - 1) ≠ 0 ∧ DivB a.length [] a b ∧ o = .ok (rLst [rPl Po R (quoQ a b), rPl Po R (remQ a b)])))
theorem big_neg1 {q : Rat} (h : big q) : big (q * ((-1 : Int) : Rat)) := by
  rw [show (((-1 : Int) : Rat)) = -1 by rfl, Rat.mul_neg, Rat.mul_one]
  exact sz_neg h
theorem big_m1 : big ((-1 : Int) : Rat) := by
  rw [show (((-1 : Int) : Rat)) = -1 by rfl]
  exact sz_neg big1
theorem top_ne {b : List Rat} (h : co b (b.length - 1) ≠ 0) : b ≠ [] := fun z => h (by rw [z]; rfl)
abbrev shL (r s : List Rat) : List Rat := List.replicate (r.length - s.length) 0 ++ s.map fun q => q * fac r s
theorem sh_ok {f r s : List Rat} (Q : StB f r s) : SumOk r (shL r s) (-1) := by
  have b1 : ∀ k, big (co (shL r s) k) := fun k => by
    rw [co_app, List.length_replicate]
    split
    · rename_i h
      rw [co_get (by rw [List.getElem?_replicate, if_pos h])]
      exact big0
    · by_cases hk : k - (r.length - s.length) < s.length
      · rw [co_get (xs := s.map _) (q := co s (k - (r.length - s.length)) * fac r s) (by rw [List.getElem?_map, co_in hk]; rfl), Rat.mul_comm]
        exact Q.bcs _
      · rw [co_out (xs := s.map _) (by rw [List.length_map]; omega)]
        exact big0
  exact ⟨Q.br, b1, big_m1, fun k => big_neg1 (b1 k)⟩
theorem sh_len {r s : List Rat} (h : s.length ≤ r.length) : (shL r s).length = r.length := by
  rw [List.length_append, List.length_replicate, List.length_map]
  omega
theorem sh_sum {r s : List Rat} : trimQ (sumG r (shL r s) (-1)) = restL r s := rest_law
section
variable {P : Program} {w : World} {K : PySem.W.Frag} {mg : Str → Option Value} {base : Heap} {Po R M f : Addr} {fd : FuncData}
theorem ix_top {F : Fx} {w : Ow} {xs : List Rat} (h : 1 ≤ xs.length) : Iop F w (rLst (xs.map (rRat R))) (rInt (-1)) (rRat R (co xs (xs.length - 1))) := iop_L (n := xs.length - 1) (by
  unfold ixN
  rw [List.length_map, if_neg (by decide), if_pos (by omega)]
  congr 1
  omega) (co_at (by omega))
theorem kf_rest (Fn : Fun K "_law_rest" "_law_rest" s__law_rest f fd) (Z : PwX P w K mg base Po R M) (Tc : KfN1 P w K mg base "_law_cut" 38 (pCut R)) (Tl : KfN1 P w K mg base "_law_sum" 39 (pSumL R)) : FnOk P w K mg base (L2.CX P w) 40 f fd P__law_rest (spM (pRest R)) := by
  refine fn_ok Fn c__law_rest (fun _ _ _ _ ⟨_, _, _, _, _, _, _, h, _⟩ => by rw [h]; rfl) ?_
  rintro cdv A outer s H E ⟨_, G0, H0, M', W', tk⟩ hr rfl Rs ω o ω' ⟨a, b, ca, t0, ok, la, lb, rfl, rfl, rfl, rfl⟩
  have nd := c__law_rest.nd
  have r38 := hr.mono (show 38 ≤ 39 by decide)
  have r37 := hr.mono (show 37 ≤ 39 by decide)
  have b1 : 1 ≤ b.length := List.length_pos_iff.mpr (top_ne t0)
  have num : (co b (b.length - 1)).num ≠ 0 := fun z => t0 (Rat.num_eq_zero.mp z)
  refine hb_setA (R := rLst (a.map (rRat R))) (w1 := []) 2 rfl (er_eq (er_pubL (en_fA Tc r38 (ar_cons (er_v 0 rfl rfl) ar_nil) ⟨_, a, .inl ⟨rfl, rfl⟩, rfl, rfl, rfl⟩)) (congrArg (fun l : List Rat => rLst (l.map (rRat R))) ca)) ?_
  refine hb_while (fun m ρ w => ∃ f r z3 z4, r.length ≤ m ∧ DivB m f r b ∧ divF m f r b = divF a.length [] a b ∧ r.length ≤ a.length ∧ w = [] ∧ ρ = [some (rLst (a.map (rRat R))), some (rLst (b.map (rRat R))), some (rLst (r.map (rRat R))), z3, z4, none]) a.length ⟨[], a, none, none, Nat.le_refl _, ok, rfl, Nat.le_refl _, rfl, rfl⟩ ?_ (passes_of rfl)
  rintro m ρ w ⟨f, r, z3, z4, hm, hB, hF, lr, rfl, rfl⟩
  refine ⟨decide (((b.length : Nat) : Int) ≤ ((r.length : Nat) : Int)), [], tr_cmp (er_eq (er_bA (ar_cons (er_v 2 rfl rfl) ar_nil) Z.len bt_len cop_lenL) (congrArg rInt len_map)) (er_eq (er_bA (ar_cons (er_v 1 rfl rfl) ar_nil) Z.len bt_len cop_lenL) (congrArg rInt len_map)) bop_ge, fun hb => ?_, fun hb => ?_⟩
  · have hl : b.length ≤ r.length := by have := of_decide_eq_true hb; omega
    obtain ⟨m, rfl⟩ : ∃ j, m = j + 1 := ⟨m - 1, by omega⟩
    obtain ⟨Q, hB'⟩ := hB hl
    have lt := rest_lt (r := r) t0 b1 hl
    have hF' : divF m (trimQ (plusL f (stepL r b))) (restL r b) b = divF a.length [] a b := by
      rw [← hF]
      conv => rhs; unfold divF
      rw [if_pos hl]
    refine hb_setA (R := rRat R (fac r b)) (w1 := []) 3 rfl (er_m Z.Tq Z.X.cx.cls r37 (er_ix (er_v 2 rfl rfl) (er_un er_int uop_neg) (ix_top (by omega))) (ar_cons (er_ix (er_v 1 rfl rfl) (er_un er_int uop_neg) (ix_top b1)) ar_nil) (pQuoOkW (Q.br _) (Q.bs _) num)) ?_
    refine hb_setA (R := rLst (List.replicate (r.length - b.length) (rRat R 0))) (w1 := []) 4 rfl (er_repR (n := r.length - b.length) (er_eq (er_cm Z.Tw r37 (er_gC Z.X.gC) (ar_cons er_int ar_nil) (pWholeOk (n := 0))) (congrArg (rRat R) Rat.intCast_zero)) (er_eq (er_bin (er_eq (er_bA (ar_cons (er_v 2 rfl rfl) ar_nil) Z.len bt_len cop_lenL) (congrArg rInt len_map)) (er_eq (er_bA (ar_cons (er_v 1 rfl rfl) ar_nil) Z.len bt_len cop_lenL) (congrArg rInt len_map)) bop_sub) (congrArg rInt (show _ = (((r.length - b.length : Nat) : Nat) : Int) by omega))) (by omega)) ?_
    have lsh := sh_len hl
    refine hb_setA (R := rLst ((restL r b).map (rRat R))) (w1 := []) 2 rfl (er_eq (er_pubL (en_fA Tl hr (ar_cons (er_v 2 rfl rfl) (ar_cons (R := rLst ((shL r b).map (rRat R))) (er_eq (er_pubL (en_catI (Rs := List.replicate (r.length - b.length) (rRat R 0)) (Ss := b.map fun q => rRat R (q * fac r b)) (er_v 4 rfl rfl) (er_lc (xs := b) (A := rRat R) (B := fun q => rRat R (q * fac r b)) (it_lst (er_v 1 rfl rfl)) (by omega) [("_law_part", 5)] (blkOk_by (N := N__law_rest) (sc := defScope s__law_rest) (by decide +kernel)) (fun _ _ _ _ _ => pg_name (i := 5) nd rfl (by first | exact Or.inl rfl | exact Or.inr rfl)) (fun i g h => gew_name) (fun i q hq s1 H1 cc cl' fp d => er_bin (er_v 5 rfl rfl) (er_v 3 rfl rfl) (bop_o Z.Tm Z.X.cx r37 (pMulOkW (by rw [← co_get hq]; exact Q.bs i) Q.bc))) nd) rdl_L rdl_L (by rw [List.length_replicate, List.length_map]; omega))) (by show _ = rLst ((List.replicate (r.length - b.length) (0 : Rat) ++ b.map fun q => q * fac r b).map (rRat R)); rw [List.map_append, List.map_replicate, List.map_map]; rfl)) (ar_cons (er_un er_int uop_neg) ar_nil))) ⟨r, shL r b, -1, sh_ok Q, by omega, by omega, rfl, rfl, rfl, rfl⟩)) (congrArg (fun l : List Rat => rLst (l.map (rRat R))) sh_sum)) ?_
    exact hb_nil ⟨m, Nat.lt_succ_self m, _, _, _, _, by omega, hB', hF', by omega, rfl, rfl⟩
  · have hl : r.length < b.length := by have := of_decide_eq_false hb; omega
    rw [divF_stop hl] at hF
    refine hb_ret (er_v 2 rfl rfl) ⟨_, [], rfl, fun v G h => ?_, rfl⟩
    have e2 : remQ a b = r := by unfold remQ; rw [← hF]
    rw [e2]
    exact h
theorem kf_dvs (Fn : Fun K "_law_divisor" "_law_divisor" s__law_divisor f fd) (Z : PwX P w K mg base Po R M) (Tr : Kf1 P w K mg base "_law_rest" 40 (pRest R)) : FnOk P w K mg base (L2.CX P w) 41 f fd P__law_divisor (spM (pDvs R)) := by
  refine fn_ok Fn c__law_divisor (fun _ _ _ _ ⟨_, _, _, _, _, _, _, _, h, _⟩ => by rw [h]; rfl) ?_
  rintro cdv A outer s H E ⟨_, G0, H0, M', W', tk⟩ hr rfl Rs ω o ω' ⟨a, b, ca, cb, la, lb, za, zb, rfl, rfl, rfl, rfl⟩
  have nd := c__law_divisor.nd
  have r1 := hr.mono (show 1 ≤ 40 by decide)
  have r37 := hr.mono (show 37 ≤ 40 by decide)
  obtain ⟨gB, S, gS, hS⟩ := gcd_ok ca cb la lb za zb (b.length + 1)
  have gc := gcdF_can (n := b.length + 1) ca cb
  refine hb_while (fun m ρ w => ∃ x y, y.length + 1 ≤ m ∧ GcdB m x y ∧ gcdF m x y = gcdF (b.length + 1) a b ∧ Can x ∧ Can y ∧ x.length ≤ 9 ∧ y.length ≤ 9 ∧ w = [] ∧ ρ = [some (rLst (x.map (rRat R))), some (rLst (y.map (rRat R))), none]) (b.length + 1) ⟨a, b, Nat.le_refl _, gB, rfl, ca, cb, la, lb, rfl, rfl⟩ ?_ (passes_of rfl)
  rintro m ρ w ⟨x, y, hm, hB, hF, cx, cy, lx, ly, rfl, rfl⟩
  refine ⟨!decide (y = []), [], tr_to (tr_cmp (er_v 1 rfl rfl) (er_lst (Rs := []) ar_nil (Nat.zero_le _)) (bop_neG (b := fun _ => true) (Rs := y.map (rRat R)) (Ss := []) (n := 0) (fun i R S _ h => by simp at h) (fun x G H a h => isl_L x G H a h) (fun x G H a h => isl_L x G H a h) r1)) (by cases y with
    | nil => rfl
    | cons c t => rw [decide_eq_false (by simp), decide_eq_false (by simp)]; rfl), fun hb => ?_, fun hb => ?_⟩
  · have hn : y ≠ [] := fun z => by rw [z] at hb; exact Bool.noConfusion hb
    obtain ⟨m, rfl⟩ : ∃ j, m = j + 1 := ⟨m - 1, by omega⟩
    obtain ⟨dB, gB'⟩ := hB hn
    have y1 : 1 ≤ y.length := List.length_pos_iff.mpr hn
    have t0 := can_top cy hn
    have lt := rem_lt (r := x) t0 y1
    have hF' : gcdF m y (remQ x y) = gcdF (b.length + 1) a b := by
      rw [← hF]
      conv => rhs; unfold gcdF
      rw [if_neg hn]
    refine hb_asg (R := rTup [rLst (y.map (rRat R)), rLst ((remQ x y).map (rRat R))]) (w1 := []) (er_tup (Rs := [rLst (y.map (rRat R)), rLst ((remQ x y).map (rRat R))]) (ar_cons (er_v 1 rfl rfl) (ar_cons (er_fA Tr hr (ar_cons (er_v 0 rfl rfl) (ar_cons (er_v 1 rfl rfl) ar_nil)) ⟨x, y, cx, t0, dB, by omega, by omega, rfl, rfl, rfl, rfl⟩) ar_nil)) (by show 2 ≤ 1000; decide)) (pg_tup rfl (pgs_cons (pg_name (i := 0) nd rfl (by first | exact .inl rfl | exact .inr rfl)) (pgs_cons (pg_name (i := 1) nd rfl (by first | exact .inl rfl | exact .inr rfl)) pgs_nil))) (ge_tup (ges_cons ge_name (ges_cons ge_name ges_nil)) rfl) (hb_nil ⟨m, Nat.lt_succ_self m, _, _, by omega, gB', hF', cy, divF_can cx, ly, by omega, rfl, rfl⟩)
  · have hy : y = [] := by
      refine Classical.byContradiction fun z => ?_
      rw [decide_eq_false z] at hb
      exact Bool.noConfusion hb
    have e : x = gcdF (b.length + 1) a b := by
      rw [← hF]
      cases m with
      | zero => rfl
      | succ m =>
        unfold gcdF
        rw [if_pos hy]
    have eg : gcdQ a b = x := e.symm
    rw [eg]
    rw [← e] at gS gc
    refine hb_ret (er_lc (xs := x) (A := rRat R) (B := fun q => rRat R (q / co x (x.length - 1))) (it_lst (er_v 0 rfl rfl)) (by omega) [("_law_part", 2)] (blkOk_by (N := N__law_divisor) (sc := defScope s__law_divisor) (by decide +kernel)) (fun _ _ _ _ _ => pg_name (i := 2) nd rfl (by first | exact Or.inl rfl | exact Or.inr rfl)) (fun i g h => gew_name) (fun i q hq s1 H1 cc cl' fp d => ?_) nd) ⟨_, [], rfl, fun v G h => by rw [List.map_map]; exact h, rfl⟩
    have hx : x ≠ [] := fun z => by rw [z] at hq; simp at hq
    obtain ⟨b1, mo⟩ := norm_ok hx gc gS hS
    have t0 := can_top gc hx
    have x1 : 1 ≤ x.length := List.length_pos_iff.mpr hx
    have num : (co x (x.length - 1)).num ≠ 0 := fun z => t0 (Rat.num_eq_zero.mp z)
    exact er_m Z.Tq Z.X.cx.cls r37 (er_v 2 rfl rfl) (ar_cons (er_ix (er_v 0 rfl rfl) (er_un er_int uop_neg) (ix_top x1)) ar_nil) (pQuoOkW (by rw [← co_get hq]; exact mo.ba i) (mo.ba _) num)
theorem kf_ldiv (Fn : Fun K "_law_divided" "_law_divided" s__law_divided f fd) (Td : Kf1 P w K mg base "divided" 42 (pDiv Po R M)) (Z : ErQ K mg M "BadNumber" "n") : FnOk P w K mg base (L2.CX P w) 43 f fd P__law_divided (spM (pLdv Po R M)) := by
  refine fn_ok Fn c__law_divided (fun _ _ _ _ ⟨_, _, h, _⟩ => by rw [h]; rfl) ?_
  rintro cdv A outer s H E ⟨_, G0, H0, M', W', tk⟩ hr rfl Rs ω o ω' ⟨a, b, rfl, rfl, rfl, la, lb, ho⟩
  have nd := c__law_divided.nd
  refine hb_try_as 4 ?_ rfl rfl nd ⟨rfl, by decide, .inl Z.g⟩
  rintro ⟨_, G1, H1, M1, W1, tk1⟩ ⟨⟨pn, xe, e, pa⟩, e1, e2, e3⟩
  cases e
  rcases ho with ⟨rfl, rfl⟩ | ⟨t0, ok, rfl⟩
  · refine hb_asgX (P := erF M "n" (rInt 0)) (ex_fn0 Td hr (ar_cons (er_v 0 rfl rfl) (ar_cons (er_v 1 rfl rfl) ar_nil)) ⟨a, [], rfl, rfl, rfl, la, lb, .inl ⟨rfl, rfl⟩⟩) (pg_tup rfl (pgs_cons (pg_name (i := 2) nd rfl (by first | exact .inl rfl | exact .inr rfl)) (pgs_cons (pg_name (i := 3) nd rfl (by first | exact .inl rfl | exact .inr rfl)) pgs_nil))) (Or.inl ⟨M, "n", rInt 0, fun _ _ _ h => h, Z.t, ?_⟩)
    rintro a' dd ⟨_, G2, H2, M2, W2, tk2⟩ S
    obtain ⟨⟨oe, pn', e, hz, hd⟩, -, -, -⟩ := id S
    cases e
    exact hb_ret (er_lst (ar_cons er_str (ar_cons (er_xf S Z.x Z.n (er_v 4 rfl rfl)) ar_nil)) (Nat.le_of_ble_eq_true rfl)) ⟨_, [], rfl, fun v G h => h, rfl⟩
  · refine hb_asg (R := rTup [rPl Po R (quoQ a b), rPl Po R (remQ a b)]) (er_fA Td hr (ar_cons (er_v 0 rfl rfl) (ar_cons (er_v 1 rfl rfl) ar_nil)) ⟨a, b, rfl, rfl, rfl, la, lb, .inr ⟨top_ne t0, t0, ok, rfl⟩⟩) (pg_tup rfl (pgs_cons (pg_name (i := 2) nd rfl (by first | exact .inl rfl | exact .inr rfl)) (pgs_cons (pg_name (i := 3) nd rfl (by first | exact .inl rfl | exact .inr rfl)) pgs_nil))) (ge_tup (ges_cons ge_name (ges_cons ge_name ges_nil)) rfl) ?_
    exact hb_ret (er_lst (ar_cons (er_v 2 rfl rfl) (ar_cons (er_v 3 rfl rfl) ar_nil)) (Nat.le_of_ble_eq_true rfl)) ⟨_, [], rfl, fun v G h => h, rfl⟩
end
end W1
set_option maxRecDepth 100000
set_option maxHeartbeats 4000000
set_option exponentiation.threshold 20000
namespace W1
open PySem PySem.Spec PyProof.Rows L2 NdefX TL NumText
/-! ### drawn rows -/
def topsI : List Int := [0, 1, -1, 2, -3, 7, 10 ^ 20]
def botsI : List Int := [1, 1, 1, 2, 6]
def rwQ (s : Pool) : Rat := Rat.divInt (topsI.getD (tkR s 7).toNat 0) (botsI.getD (tkR (drS s 7) 5).toNat 1)
def rwS : Nat → Pool → Pool
  | 0, s => s
  | n + 1, s => drS (drS (rwS n s) 7) 5
def rwL (n : Nat) (s : Pool) : List Rat := (List.range n).map fun i => rwQ (rwS i s)
def rowN (m : Int) (s : Pool) : Nat := (tkR s (m + 1)).toNat
def rowZ (m : Int) (s : Pool) : Nat := (tkR (rwS (rowN m s) (drS s (m + 1))) 2).toNat
def rowQ (m : Int) (s : Pool) : List Rat := rwL (rowN m s) (drS s (m + 1)) ++ List.replicate (rowZ m s) 0
def rowS (m : Int) (s : Pool) : Pool := drS (rwS (rowN m s) (drS s (m + 1))) 2
theorem rwS_B {n k : Nat} {s : Pool} (h : PlB n s) : PlB (n + 2 * k) (rwS k s) := by
  induction k with
  | zero => exact h
  | succ k ih => exact (ih.dr (L := 7)).dr (L := 5)
theorem rwL_succ {n : Nat} {s : Pool} : rwL (n + 1) s = rwL n s ++ [rwQ (rwS n s)] := by
  unfold rwL
  rw [List.range_succ, List.map_append]
  rfl
theorem rwL_len {n : Nat} {s : Pool} : (rwL n s).length = n := by
  unfold rwL
  rw [List.length_map, List.length_range]
theorem rowN_le {m : Int} {s : Pool} (h : 0 ≤ m) : ((rowN m s : Nat) : Int) = tkR s (m + 1) ∧ ((rowN m s : Nat) : Int) ≤ m := by
  have := tkR_lt (s := s) (L := m + 1) (by omega)
  unfold rowN
  omega
theorem rowZ_le {m : Int} {s : Pool} : ((rowZ m s : Nat) : Int) = tkR (rwS (rowN m s) (drS s (m + 1))) 2 ∧ rowZ m s ≤ 1 := by
  have := tkR_lt (s := rwS (rowN m s) (drS s (m + 1))) (L := 2) (by decide)
  unfold rowZ
  omega
theorem rowQ_len {m : Int} {s : Pool} (h : 0 ≤ m) : (((rowQ m s).length : Nat) : Int) ≤ m + 1 := by
  have := (rowN_le (s := s) h).2
  have := (rowZ_le (m := m) (s := s)).2
  unfold rowQ
  rw [List.length_append, rwL_len, List.length_replicate]
  omega
theorem rowS_B {m : Int} {s : Pool} {n : Nat} (h0 : 0 ≤ m) (h7 : m ≤ 7) (h : PlB n s) : PlB (n + 16) (rowS m s) := by
  have := (rowN_le (s := s) h0).2
  exact ((rwS_B (k := rowN m s) (h.dr (L := m + 1))).dr (L := 2)).mono (by omega)
theorem getI {xs : List Int} {n : Nat} {d : Int} (h : n < xs.length) : (xs.map rInt)[n]? = some (rInt (xs.getD n d)) := by
  rw [List.getElem?_map, List.getElem?_eq_getElem h, List.getD_eq_getElem?_getD, List.getElem?_eq_getElem h]
  rfl
theorem six {t b c : Int} (h : b * c = 6) (h0 : b ≠ 0) : Rat.divInt t b * ((6 : Int) : Rat) = ((t * c : Int) : Rat) := by
  rw [← h, cast_mul, cast_mul, Rat.divInt_eq_div, ← Rat.mul_assoc, div_mul (cast_ne h0)]
theorem top_sm {n : Nat} : (topsI.getD n 0).natAbs ≤ 10 ^ 20 := by
  match n with
  | 0 | 1 | 2 | 3 | 4 | 5 | 6 => decide
  | n + 7 => exact Nat.zero_le _
theorem bot_six {n : Nat} : ∃ c : Int, botsI.getD n 1 * c = 6 ∧ c.natAbs ≤ 6 ∧ botsI.getD n 1 ≠ 0 := by
  match n with
  | 0 | 1 | 2 => exact ⟨6, by decide, by decide, by decide⟩
  | 3 => exact ⟨3, by decide, by decide, by decide⟩
  | 4 => exact ⟨1, by decide, by decide, by decide⟩
  | n + 5 => exact ⟨6, by show (1 : Int) * 6 = 6; decide, by decide, by show (1 : Int) ≠ 0; decide⟩
theorem bot_ne {n : Nat} : botsI.getD n 1 ≠ 0 := let ⟨_, _, _, h⟩ := bot_six (n := n); h
def SixQ (q : Rat) : Prop := ∃ n : Int, n.natAbs < 2 ^ 70 ∧ q * ((6 : Int) : Rat) = (n : Rat)
theorem SixQ.zero : SixQ 0 := ⟨0, by decide, by rw [Rat.zero_mul]; rfl⟩
theorem rwQ_six {s : Pool} : SixQ (rwQ s) := by
  obtain ⟨c, h1, h2, h3⟩ := bot_six (n := (tkR (drS s 7) 5).toNat)
  refine ⟨_, ?_, six h1 h3⟩
  rw [Int.natAbs_mul]
  exact Nat.lt_of_le_of_lt (Nat.mul_le_mul top_sm h2) (by decide)
theorem Cd.six {xs : List Rat} (h : ∀ q ∈ xs, SixQ q) : Cd 70 xs := ⟨6, by decide, by decide, fun k => by
  by_cases hk : k < xs.length
  · exact h _ (List.mem_of_getElem? (co_in hk))
  · rw [co_out (by omega)]
    exact SixQ.zero⟩
theorem rowQ_cd {m : Int} {s : Pool} : Cd 70 (rowQ m s) := Cd.six fun q hq => by
  rcases List.mem_append.mp hq with h | h
  · unfold rwL at h
    obtain ⟨i, -, rfl⟩ := List.mem_map.mp h
    exact rwQ_six
  · rw [List.eq_of_mem_replicate h]
    exact SixQ.zero
theorem en_eqO {F : Fx} {ρ : Ty} {ω w1 : Ow} {e : Expr} {O O' : Ol} (h : EN F ρ ω e O w1) (h2 : O = O') : EN F ρ ω e O' w1 := h2 ▸ h
def pDrw (R : Addr) : PreN := fun Rs w O w' => ∃ (q : Addr) (s : Pool) (m : Int), 0 ≤ m ∧ m ≤ 7 ∧ PlB 900000 s ∧ Rs = [rRef q, rInt m] ∧ w = [(q, oPool s)] ∧ w' = [(q, oPool (rowS m s))] ∧ O = oL ((rowQ m s).map (rRat R))
theorem er_repW {F : Fx} {ρ : Ty} {ω w1 w2 : Ow} {x e : Expr} {p1 pos : Pos} {A : Rl} {n : Nat} (hx : ER F ρ ω x A w1) (he : ER F ρ w1 e (rInt ((n : Nat) : Int)) w2) (hn : n ≤ 1000) (hs : starEach [x] F.X.env = (false, eval x F.X.env) :: starEach [] F.X.env := by rfl) : ER F ρ ω (.BinOp (.List [x] p1) .Mult e pos) (rLst (List.replicate n A)) w2 := by
  refine er_eq (er_bin (er_lst (Rs := [A]) (ar_cons hx ar_nil hs) (by show 1 ≤ 1000; decide)) he (bop_rep (k := ((n : Nat) : Int)) (by omega) (by omega) (by show 1 * ((n : Nat) : Int).toNat ≤ 100000; rw [Int.toNat_natCast]; omega))) ?_
  rw [Int.toNat_natCast]
  congr 1
  clear hn he
  induction n with
  | zero => rfl
  | succ n ih => rw [List.replicate_succ, List.replicate_succ, List.flatten_cons, ih]; rfl
section
variable {P : Program} {w : World} {K : PySem.W.Frag} {mg : Str → Option Value} {base : Heap} {Po R M f : Addr} {fd : FuncData}
theorem kf_row (Fn : Fun K "_law_row" "_law_row" s__law_row f fd) (Z : PwX P w K mg base Po R M) (Tt : Kf1 P w K mg base "_law_take" 1 pTake) : FnOk P w K mg base (L2.CX P w) 38 f fd P__law_row (spN (pDrw R)) := by
  refine fn_okN Fn c__law_row (fun _ _ _ _ ⟨_, _, _, _, _, _, h, _⟩ => by rw [h]; rfl) ?_
  rintro cdv A outer s0 H E ⟨_, G0, H0, M', W', tk⟩ hr rfl Rs ω o ω' ⟨q, s, m, m0, m7, hb, rfl, rfl, rfl, rfl⟩
  have nd := c__law_row.nd
  have r1 := hr.mono (show 1 ≤ 37 by decide)
  have r36 := hr.mono (show 36 ≤ 37 by decide)
  obtain ⟨hN, hN7⟩ := rowN_le (s := s) m0
  obtain ⟨hZ, hZ1⟩ := rowZ_le (m := m) (s := s)
  have hb1 : PlB 900001 (drS s (m + 1)) := hb.dr
  refine hb_setNA 2 rfl (en_lst (Rs := []) ar_nil (Nat.zero_le _)) fun qr hqr => ?_
  refine hb_for (it_rng1 (n := ((rowN m s : Nat) : Int)) (ar_cons (er_eq (er_f1 1 Tt r1 (ar_cons (er_v 0 rfl rfl) (ar_cons (er_bin (er_v 1 rfl rfl) er_int bop_add) ar_nil)) rfl (takeOk hb (by omega) (Nat.lt_of_le_of_lt (show _ ≤ 8 by omega) (by decide)) (by decide))) (congrArg rInt hN.symm)) ar_nil) rfl Z.rg (by omega)) (fun k ρ w => ∃ z, k ≤ rowN m s ∧ ρ = [some (rRef q), some (rInt m), some (rRef qr), z] ∧ w = [(qr, oL ((rwL k (drS s (m + 1))).map (rRat R))), (q, oPool (rwS k (drS s (m + 1))))]) ⟨none, Nat.zero_le _, rfl, rfl⟩ ?_ ?_ (passes_of rfl) (pg_name (i := 3) nd rfl (by first | exact Or.inl rfl | exact Or.inr rfl))
  · rintro k ρ w S hS ⟨z, hk0, rfl, rfl⟩
    obtain ⟨hk, rfl⟩ := rng_get hS
    have hk : k < rowN m s := by omega
    have hB := rwS_B (k := k) hb1
    have t7 := tkR_lt (s := rwS k (drS s (m + 1))) (L := 7) (by decide)
    have t5 := tkR_lt (s := drS (rwS k (drS s (m + 1))) 7) (L := 5) (by decide)
    refine ⟨_, ge_name, ?_⟩
    refine hb_append (R := rRat R (rwQ (rwS k (drS s (m + 1))))) (w2 := [(q, oPool (rwS (k + 1) (drS s (m + 1))))]) (er_v 2 rfl rfl) List.mem_cons_self (ar_cons (er_ratioW Z.Tr r36 (ar_cons (er_ix (er_lst (Rs := topsI.map rInt) (ar_cons er_int (ar_cons er_int (ar_cons (er_un er_int uop_neg) (ar_cons er_int (ar_cons (er_un er_int uop_neg) (ar_cons er_int (ar_cons (er_bin er_int er_int (bop_pow ⟨by decide, by decide, by decide⟩)) ar_nil))))))) (Nat.le_of_ble_eq_true rfl)) (er_eq (er_f1 1 Tt r1 (ar_cons (er_v 0 rfl rfl) (ar_cons er_int ar_nil)) rfl (takeOk hB)) (congrArg rInt (Int.toNat_of_nonneg t7.1).symm)) (iop_L (ixN_at (by show _ < 7; omega)) (getI (d := 0) (by show _ < 7; omega)))) (ar_cons (er_ix (er_lst (Rs := botsI.map rInt) (ar_cons er_int (ar_cons er_int (ar_cons er_int (ar_cons er_int (ar_cons er_int ar_nil))))) (Nat.le_of_ble_eq_true rfl)) (er_eq (er_f1 1 Tt r1 (ar_cons (er_v 0 rfl rfl) (ar_cons er_int ar_nil)) rfl (takeOk hB.dr)) (congrArg rInt (Int.toNat_of_nonneg t5.1).symm)) (iop_L (ixN_at (by show _ < 5; omega)) (getI (d := 1) (by show _ < 5; omega)))) ar_nil)) rfl bot_ne) ar_nil) (by rw [List.length_map, rwL_len]; omega) (hb_nil ⟨_, by omega, rfl, ?_⟩)
    rw [rwL_succ, List.map_append]
    rfl
  · rintro ρ w ⟨z, hk, rfl, rfl⟩
    rw [rng_len, Int.toNat_natCast]
    have hB := rwS_B (k := rowN m s) hb1
    refine hb_retOk (w1 := [(q, oPool (rowS m s)), (qr, oL ((rwL (rowN m s) (drS s (m + 1))).map (rRat R)))]) (en_perm (w1 := [(qr, oL ((rwL (rowN m s) (drS s (m + 1))).map (rRat R))), (q, oPool (rowS m s))]) (en_eqO (en_catI (Rs := (rwL (rowN m s) (drS s (m + 1))).map (rRat R)) (Ss := List.replicate (rowZ m s) (rRat R 0)) (er_v 2 rfl rfl) (er_repW (n := rowZ m s) (er_eq (er_cm Z.Tw hr (er_gC Z.X.gC) (ar_cons er_int ar_nil) (pWholeOk (n := 0))) (congrArg (rRat R) Rat.intCast_zero)) (er_eq (er_f1 1 Tt r1 (ar_cons (er_v 0 rfl rfl) (ar_cons er_int ar_nil)) rfl (takeOk hB)) (congrArg rInt hZ.symm)) (by omega)) (rdl_O List.mem_cons_self) rdl_L (by rw [List.length_map, rwL_len, List.length_replicate]; omega)) (congrArg oL (by unfold rowQ; rw [List.map_append, List.map_replicate]))) (List.Perm.swap _ _ _)) fun q2 hM hk => ⟨q2, [(qr, oL ((rwL (rowN m s) (drS s (m + 1))).map (rRat R)))], fun _ _ h => h, fun h => hk (List.mem_cons.mpr (.inl (List.mem_singleton.mp h))), rfl⟩
end
end W1
set_option maxRecDepth 100000
set_option maxHeartbeats 4000000
set_option exponentiation.threshold 20000
namespace W1
open PySem PySem.Spec PyProof.Rows L2 NdefX TL NumText
/-! ### the law's looks -/
theorem all_tru5 : ∀ (n i : Nat), W1Q.allFrom (fun _ => true) i n = true
  | 0, _ => rfl
  | n + 1, i => (Bool.true_and _).trans (all_tru5 n (i + 1))
theorem three {p : Rl → Prop} {A B C : Rl} (h1 : p A) (h2 : p B) (h3 : p C) : ∀ (i : Nat) R, [A, B, C][i]? = some R → p R
  | 0, _, h => by cases h; exact h1
  | 1, _, h => by cases h; exact h2
  | 2, _, h => by cases h; exact h3
  | n + 3, _, h => by cases h
theorem two2 {p : Rl → Prop} {A B : Rl} (h1 : p A) (h2 : p B) : ∀ (i : Nat) R, [A, B][i]? = some R → p R
  | 0, _, h => by cases h; exact h1
  | 1, _, h => by cases h; exact h2
  | n + 2, _, h => by cases h
section
variable {F : Fx} {w : Ow} {R Po : Addr} {n : Nat}
theorem eqb_lstR {xs : List Rat} (T : Ko F.X.prog F.X.w F.X.K F.X.mg F.X.base R "__eq__" 5 (pEq R)) (hn : PySem.W.notFirst F.X.K R (.ref R) = true) : EqB F.X 6 (rLst (xs.map (rRat R))) (rLst (xs.map (rRat R))) true := by
  have e : (decide ((xs.map (rRat R)).length = (xs.map (rRat R)).length) && W1Q.allFrom (fun _ => true) 0 (xs.map (rRat R)).length) = true := by rw [decide_eq_true rfl, all_tru5]; rfl
  have h := eqb_lst (X := F.X) (n := 5) (Rs := xs.map (rRat R)) (Ss := xs.map (rRat R)) (e := fun _ => true) (fun i A B hA hB => by
    rw [hA] at hB
    cases hB
    obtain ⟨p, -, rfl⟩ := map_get hA
    exact eqb_rat T hn) (fun _ _ _ _ => e)
  rw [e] at h
  exact h
theorem bop_eqSame {Rs : List Rl} (he : ∀ (i : Nat) R, Rs[i]? = some R → EqB F.X n R R true) (hr : Room (n + 1) F.X.A) : Bop F w (compareOp .Eq) (rLst Rs) (rLst Rs) (rBool true) := by
  have h := bop_eqL (F := F) (w := w) (n := n) (Rs := Rs) (Ss := Rs) (e := fun _ => true) (fun i A B hA hB => by
    rw [hA] at hB
    cases hB
    exact he i A hA) hr
  rw [decide_eq_true rfl, all_tru5] at h
  exact h
theorem all_decL {e : Nat → Bool} {xs ys : List Rat} (he : ∀ (i : Nat) x y, xs[i]? = some x → ys[i]? = some y → e i = decide (x = y)) : (decide (xs.length = ys.length) && W1Q.allFrom e 0 xs.length) = decide (xs = ys) := by
  rw [← all_dec he]
  by_cases h : xs.length = ys.length
  · rw [h, Nat.min_self, Bool.and_comm]
  · rw [decide_eq_false h, Bool.false_and, Bool.and_false]
theorem bop_eqLQ {xs ys : List Rat} (T : Ko F.X.prog F.X.w F.X.K F.X.mg F.X.base R "__eq__" 5 (pEq R)) (hn : PySem.W.notFirst F.X.K R (.ref R) = true) (hr : Room 6 F.X.A) : Bop F w (compareOp .Eq) (rLst (xs.map (rRat R))) (rLst (ys.map (rRat R))) (rBool (decide (xs = ys))) := by
  have h := bop_eqL (F := F) (w := w) (n := 5) (Rs := xs.map (rRat R)) (Ss := ys.map (rRat R)) (e := fun i => decide (xs[i]? = ys[i]?)) (fun i A B hA hB => by
    obtain ⟨x, hx, rfl⟩ := map_get hA
    obtain ⟨y, hy, rfl⟩ := map_get hB
    have e : decide (xs[i]? = ys[i]?) = decide (x = y) := decide_eq_decide.mpr (by rw [hx, hy]; exact ⟨Option.some.inj, congrArg some⟩)
    rw [e]
    exact eqb_ratD T hn) hr
  rw [List.length_map, List.length_map, all_decL (xs := xs) (ys := ys) (fun i x y hx hy => decide_eq_decide.mpr (by rw [hx, hy]; exact ⟨Option.some.inj, congrArg some⟩))] at h
  exact h
theorem dec_bl {a b : Bool} : decide (V.bl a = V.bl b) = decide (a = b) := decide_eq_decide.mpr ⟨fun h => V.bl.inj h, fun h => by rw [h]⟩
theorem bop_eqBl {a b : Bool} : Bop F w (compareOp .Eq) (rBool a) (rBool b) (rBool (decide (a = b))) := by rw [← dec_bl]; exact bop_eq rfl
theorem bop_neBl {a b : Bool} : Bop F w (compareOp .NotEq) (rBool a) (rBool b) (rBool (!decide (a = b))) := by rw [← dec_bl]; exact bop_ne rfl
theorem pl_eq {a b : List Rat} (ha : Can a) (hb : Can b) : pPEq Po R [rPl Po R a, rPl Po R b] [] (.ok (rBool (decide (a = b)))) [] := by
  have ha : trimQ a = a := ha
  have hb : trimQ b = b := hb
  refine ⟨rfl, rfl, a, .inl ⟨b, ?_, ?_⟩⟩
  · show _ = [rIns Po [("parts", rTup ((trimQ a).map (rRat R)))], rIns Po [("parts", rTup ((trimQ b).map (rRat R)))]]
    rw [ha, hb]
  · rw [ha, hb]
theorem pl_neL {a : List Rat} {Ss : List Rl} (ha : Can a) : pPEq Po R [rPl Po R a, rLst Ss] [] (.ok (rBool false)) [] := by
  have ha : trimQ a = a := ha
  refine ⟨rfl, rfl, a, .inr (.inr ⟨Ss, ?_, rfl⟩)⟩
  show _ = [rIns Po [("parts", rTup ((trimQ a).map (rRat R)))], rLst Ss]
  rw [ha]
end
theorem sumG_co {a b : List Rat} {s : Int} {k : Nat} : co (sumG a b s) k = co a k + co b k * (s : Rat) := co_map fun h => by rw [co_out (by omega), co_out (by omega), Rat.zero_mul, Rat.add_zero]
theorem mul_m1 {q : Rat} : q * ((-1 : Int) : Rat) = -q := by rw [show (((-1 : Int) : Rat)) = -1 by rfl, Rat.mul_neg, Rat.mul_one]
theorem mul_p1 {q : Rat} : q * ((1 : Int) : Rat) = q := by rw [Rat.intCast_one, Rat.mul_one]
theorem sum_plus {a b : List Rat} : trimQ (sumG a b 1) = trimQ (plusL a b) := trim_congr fun k => by rw [sumG_co, add_co, mul_p1]
theorem sum_minus {a b : List Rat} : trimQ (sumG a b (-1)) = trimQ (minusL a b) := trim_congr fun k => by rw [sumG_co, sub_co, mul_m1, Rat.sub_eq_add_neg]
theorem sum_opp {a : List Rat} : trimQ (sumG [] a (-1)) = trimQ (oppL a) := trim_congr fun k => by rw [sumG_co, neg_co, mul_m1, co_nil, Rat.zero_add]
theorem sum1_ok {a b : List Rat} (ha : ∀ k, big (co a k)) (hb : ∀ k, big (co b k)) : SumOk a b 1 := ⟨ha, hb, by rw [Rat.intCast_one]; exact big1, fun k => by rw [mul_p1]; exact hb k⟩
theorem sumN_ok {a b : List Rat} (ha : ∀ k, big (co a k)) (hb : ∀ k, big (co b k)) : SumOk a b (-1) := ⟨ha, hb, big_m1, fun k => big_neg1 (hb k)⟩
theorem norm_can {g : List Rat} (h : Can g) : normQ g = g.map fun q => q / co g (g.length - 1) := by
  unfold normQ
  rcases List.eq_nil_or_concat g with rfl | ⟨t, c, rfl⟩
  · rfl
  · rw [List.concat_eq_append] at h ⊢
    have c0 : co (t ++ [c]) ((t ++ [c]).length - 1) = c := by
      rw [List.length_append, List.length_singleton, Nat.add_sub_cancel, co_app, if_neg (by omega), Nat.sub_self]
      rfl
    have t0 := can_top h (by simp)
    rw [c0] at t0
    rw [c0, List.map_append]
    show trimQ (t.map _ ++ [c / c]) = _
    refine (trim_last (fun z => ?_) _).trans rfl
    rw [Rat.div_def, Rat.mul_inv_cancel c t0] at z
    exact absurd z (by decide)
theorem rng1N {n : Nat} : rng 1 ((n : Int) - 1).toNat = (List.range (n - 1)).map fun j : Nat => rInt (1 + (j : Int)) := by rw [rng_map, show ((n : Int) - 1).toNat = n - 1 by omega]
theorem slope_rng {a : List Rat} {R : Addr} : rLst ((List.range (a.length - 1)).map fun j : Nat => rRat R (co a (j + 1) * (((j + 1 : Nat) : Int) : Rat))) = rLst ((slopeL a).map (rRat R)) := by
  unfold slopeL
  rw [zip_range, List.map_map, ← List.map_drop]
  congr 1
  refine List.ext_getElem? fun i => ?_
  rw [List.getElem?_map, List.getElem?_map, List.getElem?_map, List.getElem?_drop]
  by_cases h : i < a.length - 1
  · rw [List.getElem?_range h, List.getElem?_range (by omega)]
    show some _ = some (rRat R (co a (1 + i) * (((1 + i : Nat) : Int) : Rat)))
    rw [Nat.add_comm 1 i]
  · rw [List.getElem?_eq_none (by rw [List.length_range]; omega), List.getElem?_eq_none (by rw [List.length_range]; omega)]
    rfl
structure LookOk (a b : List Rat) (x : Rat) : Prop where
  ca : Can a
  cb : Can b
  la : a.length ≤ 9
  lb : b.length ≤ 9
  za : Cd 141 a
  zb : Cd 141 b
  zx : Sz 8 x
def pLook (Po R : Addr) : Pre := fun Rs w o w' => ∃ (wh : Nat) (a b : List Rat) (x : Rat), wh < 7 ∧ LookOk a b x ∧ Rs = [rInt ((wh : Nat) : Int), rLst [rPl Po R a, rPl Po R b], rLst [rLst (a.map (rRat R)), rLst (b.map (rRat R))], rRat R x] ∧ w = [] ∧ w' = [] ∧ o = .ok (rBool true)
structure LkX (P : Program) (w : World) (K : PySem.W.Frag) (mg : Str → Option Value) (base : Heap) (Po R M : Addr) : Prop where
  Y : PmX P w K mg base Po R M
  Tc : Kmn P w K mg base Po "coefficients" 1 (pPCoef Po R)
  Tv : Km P w K mg base Po "value" 38 (pPVal Po R)
  Ts : Km P w K mg base Po "slope" 38 (pPSlo Po R)
  Tn : Ko P w K mg base Po "__neg__" 38 (pPNeg Po R)
  Te : Ko P w K mg base Po "__eq__" 7 (pPEq Po R)
  nm : NeM K Po
  nfL : PySem.W.notFirst K Po (.type "list") = true
  Tg : Kf1 P w K mg base "common_divisor" 43 (pGcd Po R)
  Lc : KfN1 P w K mg base "_law_cut" 38 (pCut R)
  Ls : KfN1 P w K mg base "_law_sum" 39 (pSumL R)
  Lt : KfN1 P w K mg base "_law_times" 39 (pTim R)
  Lv : Kf1 P w K mg base "_law_value" 38 (pValL R)
  Lr : Kf1 P w K mg base "_law_rest" 40 (pRest R)
  Ld : Kf1 P w K mg base "_law_divisor" 41 (pDvs R)
  Ldv : Kf1 P w K mg base "_law_divided" 43 (pLdv Po R M)
section
variable {P : Program} {w : World} {K : PySem.W.Frag} {mg : Str → Option Value} {base : Heap} {Po R M f : Addr} {fd : FuncData}
theorem kf_look (Fn : Fun K "_law_look" "_law_look" s__law_look f fd) (X : LkX P w K mg base Po R M) : FnOk P w K mg base (L2.CX P w) 44 f fd P__law_look (spM (pLook Po R)) := by
  refine fn_ok Fn c__law_look (fun _ _ _ _ ⟨_, _, _, _, _, _, h, _⟩ => by rw [h]; rfl) ?_
  rintro cdv A outer s0 H E ⟨_, G0, H0, M', W', tk⟩ hr rfl Rs ω o ω' ⟨wh, a, b, x, hw, ok, rfl, rfl, rfl, rfl⟩
  have nd := c__law_look.nd
  have Z := X.Y.Z
  have cl := Z.Y.cx.cls
  have r1 := hr.mono (show 1 ≤ 43 by decide)
  have r3 := hr.mono (show 3 ≤ 43 by decide)
  have r5 := hr.mono (show 5 ≤ 43 by decide)
  have r6 := hr.mono (show 6 ≤ 43 by decide)
  have r7 := hr.mono (show 7 ≤ 43 by decide)
  have r8 := hr.mono (show 8 ≤ 43 by decide)
  have r37 := hr.mono (show 37 ≤ 43 by decide)
  have r38 := hr.mono (show 38 ≤ 43 by decide)
  have r39 := hr.mono (show 39 ≤ 43 by decide)
  have r40 := hr.mono (show 40 ≤ 43 by decide)
  have r41 := hr.mono (show 41 ≤ 43 by decide)
  have la := ok.la
  have lb := ok.lb
  have ba : ∀ k, big (co a k) := fun k => big_of (ok.za.sz k) (by decide)
  have bb : ∀ k, big (co b k) := fun k => big_of (ok.zb.sz k) (by decide)
  have mo : MulOk a b := mulOk_of ok.za.sz ok.zb.sz (by omega) (by decide)
  have mo2 : MulOk b a := mulOk_of ok.zb.sz ok.za.sz (by omega) (by decide)
  have tm : TimOk a b := ⟨ba, bb, fun k n => big_of (sz_mul (ok.za.sz k) (ok.zb.sz n) (Nat.le_refl _)) (by decide), fun k n hk => big_of (pq_sz ok.za.sz ok.zb.sz (by omega) n) (by decide)⟩
  have szM := mul_sz ok.za.sz ok.zb.sz (show a.length ≤ 20 by omega)
  have lM : (trimQ (mulL a b)).length ≤ 18 := by
    refine Nat.le_trans (trim_le _) ?_
    unfold mulL
    rw [List.length_map, List.length_range]
    omega
  have lP : (trimQ (plusL (trimQ (mulL a b)) a)).length ≤ 18 := by
    refine Nat.le_trans (trim_le _) ?_
    unfold plusL
    rw [List.length_map, List.length_range]
    omega
  have va : ValOk a x := valOk_of ok.za.sz ok.zx (by omega) (by decide)
  have vb : ValOk (trimQ (plusL (trimQ (mulL a b)) a)) x := valOk_of (trim_sz (plus_sz (trim_sz szM) ok.za.sz)) ok.zx (by omega) (by decide)
  have ze := ev_sz ok.za.sz ok.zx (show a.length ≤ 30 by omega)
  have zf := ev_sz ok.zb.sz ok.zx (show b.length ≤ 30 by omega)
  have be : big (ev a x) := big_of ze (by decide)
  have bf : big (ev b x) := big_of zf (by decide)
  have bg : big (ev a x * ev b x) := big_of (sz_mul ze zf (Nat.le_refl _)) (by decide)
  refine hb_par (R := rPl Po R a) (S := rPl Po R b) (w1 := []) 4 5 (ar_cons (er_ix (er_v 1 rfl rfl) er_int (iop_L (n := 0) rfl rfl)) (ar_cons (er_ix (er_v 1 rfl rfl) er_int (iop_L (n := 1) rfl rfl)) ar_nil)) ?_ nd
  refine hb_asg (R := rTup [rLst (a.map (rRat R)), rLst (b.map (rRat R))]) (w1 := []) (er_tup (Rs := [rLst (a.map (rRat R)), rLst (b.map (rRat R))]) (ar_cons (er_ix (er_v 2 rfl rfl) er_int (iop_L (n := 0) rfl rfl)) (ar_cons (er_ix (er_v 2 rfl rfl) er_int (iop_L (n := 1) rfl rfl)) ar_nil)) (by show 2 ≤ 1000; decide)) (pg_tup rfl (pgs_cons (pg_name (i := 6) nd rfl (by first | exact .inl rfl | exact .inr rfl)) (pgs_cons (pg_name (i := 7) nd rfl (by first | exact .inl rfl | exact .inr rfl)) pgs_nil))) (ge_tup (ges_cons ge_name (ges_cons ge_name ges_nil)) rfl) ?_
  rcases (by omega : wh = 0 ∨ wh = 1 ∨ wh = 2 ∨ wh = 3 ∨ wh = 4 ∨ wh = 5 ∨ wh = 6) with rfl | rfl | rfl | rfl | rfl | rfl | rfl
  · refine hb_if (b := true) (w1 := []) (tr_to (tr_cmp (er_v 0 rfl rfl) er_int bop_eqI) rfl) (fun _ => ?_) (fun z => Bool.noConfusion z)
    refine hb_setNA 8 rfl (en_m0 X.Tc cl r1 (er_v 4 rfl rfl) ⟨a, rfl, rfl, rfl, rfl⟩) fun q hq => ?_
    refine hb_if (b := false) (w1 := [(q, oL (a.map (rRat R)))]) (PWR.tr (tr_or (k := false) (m := false) (tr_to (tr_cmp (er_v 8 rfl rfl) (er_v 6 rfl rfl) (bop_neG (b := fun _ => true) (n := 5) (Rs := a.map (rRat R)) (Ss := a.map (rRat R)) (fun i A B hA hB => by rw [hA] at hB; cases hB; obtain ⟨p, -, rfl⟩ := map_get hA; exact eqb_rat Z.Te Z.X.nf) (isl_O List.mem_cons_self) (fun x G H a h => isl_L x G H a h) r6)) (by rw [decide_eq_true rfl, all_tru5]; rfl)) fun _ => tr_or (k := false) (m := false) (tr_to (tr_cmp (er_m0 X.Y.Td cl r1 (er_v 4 rfl rfl) ⟨a, rfl, rfl, rfl, rfl⟩) (er_bin (er_eq (er_bA (ar_cons (er_v 6 rfl rfl) ar_nil) Z.len bt_len cop_lenL) (congrArg rInt len_map)) er_int bop_sub) bop_neI) (by rw [decide_eq_true rfl]; rfl)) fun _ => tr_or1 (tr_to (tr_cmp (er_tA (ar_cons (er_v 4 rfl rfl) ar_nil) Z.bo bt_bool (cop_oB X.Y.Tb r3 ⟨a, rfl, rfl, rfl, rfl⟩)) (er_cmp (er_v 6 rfl rfl) (er_lst (Rs := []) ar_nil (Nat.zero_le _)) (bop_neE r1)) bop_neBl) (by rw [show decide (a.map (rRat R) = []) = decide (a = []) from decide_eq_decide.mpr List.map_eq_nil_iff, decide_eq_true rfl]; rfl)))) (fun z => Bool.noConfusion z) (fun _ => hb_nil ?_)
    refine hb_append (R := rRat R x) (w2 := []) (er_v 8 rfl rfl) List.mem_cons_self (ar_cons (er_v 3 rfl rfl) ar_nil) (by rw [List.length_map]; omega) ?_
    exact hb_ret (er_and (k := true) (m := true) (er_eq (er_cmp (er_pubL (en_m0 X.Tc cl r1 (er_v 4 rfl rfl) ⟨a, rfl, rfl, rfl, rfl⟩)) (er_v 6 rfl rfl) (bop_eqLQ Z.Te Z.X.nf r6)) (congrArg rBool (decide_eq_true rfl))) fun _ => er_and (k := true) (m := true) (er_eq (er_cmp (er_cmp (er_v 4 rfl rfl) (er_v 5 rfl rfl) (bop_oE X.Te r7 (pl_eq ok.ca ok.cb) tyr_ins Z.Y.nf)) (er_cmp (er_v 6 rfl rfl) (er_v 7 rfl rfl) (bop_eqLQ Z.Te Z.X.nf r6)) bop_eqBl) (congrArg rBool (decide_eq_true rfl))) fun _ => er_one (er_cmp (er_v 4 rfl rfl) (er_v 6 rfl rfl) (bop_oN X.Te X.nm r8 (pl_neL ok.ca) tyr_lst X.nfL))) ⟨_, [(q, oL (a.map (rRat R) ++ [rRat R x]))], rfl, fun v G h => h, rfl⟩
  · refine hb_if (b := false) (w1 := []) (tr_to (tr_cmp (er_v 0 rfl rfl) er_int bop_eqI) rfl) (fun z => Bool.noConfusion z) (fun _ => hb_nil ?_)
    refine hb_if (b := true) (w1 := []) (tr_to (tr_cmp (er_v 0 rfl rfl) er_int bop_eqI) rfl) (fun _ => ?_) (fun z => Bool.noConfusion z)
    refine hb_setA (R := rLst [rLst ((trimQ (plusL a b)).map (rRat R)), rLst ((trimQ (minusL a b)).map (rRat R)), rLst ((trimQ (oppL a)).map (rRat R))]) (w1 := []) 8 rfl (er_lst (Rs := [rLst ((trimQ (plusL a b)).map (rRat R)), rLst ((trimQ (minusL a b)).map (rRat R)), rLst ((trimQ (oppL a)).map (rRat R))]) (ar_cons (er_pubL (en_m0 X.Tc cl r1 (er_bin (er_v 4 rfl rfl) (er_v 5 rfl rfl) (bop_o X.Y.Ta Z.Y.cx r39 ⟨a, b, ba, bb, by omega, by omega, rfl, rfl, rfl, rfl⟩)) ⟨trimQ (plusL a b), rfl, rfl, rfl, rfl⟩)) (ar_cons (er_pubL (en_m0 X.Tc cl r1 (er_bin (er_v 4 rfl rfl) (er_v 5 rfl rfl) (bop_o X.Y.Ts Z.Y.cx r39 ⟨a, b, ba, bb, by omega, by omega, rfl, rfl, rfl, rfl⟩)) ⟨trimQ (minusL a b), rfl, rfl, rfl, rfl⟩)) (ar_cons (er_pubL (en_m0 X.Tc cl r1 (er_un (er_v 4 rfl rfl) (uop_o X.Tn r38 ⟨a, ba, by omega, rfl, rfl, rfl, rfl⟩)) ⟨trimQ (oppL a), rfl, rfl, rfl, rfl⟩)) ar_nil))) (Nat.le_of_ble_eq_true rfl)) ?_
    exact hb_ret (er_cmp (er_v 8 rfl rfl) (er_lst (Rs := [rLst ((trimQ (plusL a b)).map (rRat R)), rLst ((trimQ (minusL a b)).map (rRat R)), rLst ((trimQ (oppL a)).map (rRat R))]) (ar_cons (er_eq (er_pubL (en_fA X.Ls r39 (ar_cons (er_v 6 rfl rfl) (ar_cons (er_v 7 rfl rfl) (ar_cons (er_int) ar_nil))) ⟨a, b, 1, sum1_ok ba bb, by first | omega | exact Nat.zero_le _, by omega, rfl, rfl, rfl, rfl⟩)) (congrArg (fun l : List Rat => rLst (l.map (rRat R))) sum_plus)) (ar_cons (er_eq (er_pubL (en_fA X.Ls r39 (ar_cons (er_v 6 rfl rfl) (ar_cons (er_v 7 rfl rfl) (ar_cons (er_un er_int uop_neg) ar_nil))) ⟨a, b, -1, sumN_ok ba bb, by first | omega | exact Nat.zero_le _, by omega, rfl, rfl, rfl, rfl⟩)) (congrArg (fun l : List Rat => rLst (l.map (rRat R))) sum_minus)) (ar_cons (er_eq (er_pubL (en_fA X.Ls r39 (ar_cons (er_lst (Rs := []) ar_nil (Nat.zero_le _)) (ar_cons (er_v 6 rfl rfl) (ar_cons (er_un er_int uop_neg) ar_nil))) ⟨[], a, -1, sumN_ok (fun k => by rw [co_nil]; exact big0) ba, by first | omega | exact Nat.zero_le _, by omega, rfl, rfl, rfl, rfl⟩)) (congrArg (fun l : List Rat => rLst (l.map (rRat R))) sum_opp)) ar_nil))) (Nat.le_of_ble_eq_true rfl)) (bop_eqSame (n := 6) (three (eqb_lstR Z.Te Z.X.nf) (eqb_lstR Z.Te Z.X.nf) (eqb_lstR Z.Te Z.X.nf)) r7)) ⟨_, [], rfl, fun v G h => h, rfl⟩
  · refine hb_if (b := false) (w1 := []) (tr_to (tr_cmp (er_v 0 rfl rfl) er_int bop_eqI) rfl) (fun z => Bool.noConfusion z) (fun _ => hb_nil ?_)
    refine hb_if (b := false) (w1 := []) (tr_to (tr_cmp (er_v 0 rfl rfl) er_int bop_eqI) rfl) (fun z => Bool.noConfusion z) (fun _ => hb_nil ?_)
    refine hb_if (b := true) (w1 := []) (tr_to (tr_cmp (er_v 0 rfl rfl) er_int bop_eqI) rfl) (fun _ => ?_) (fun z => Bool.noConfusion z)
    exact hb_ret (er_and (k := true) (m := true) (er_eq (er_cmp (er_pubL (en_m0 X.Tc cl r1 (er_bin (er_v 4 rfl rfl) (er_v 5 rfl rfl) (bop_o X.Y.Tm Z.Y.cx r41 ⟨a, b, mo, by omega, by omega, rfl, rfl, rfl, rfl⟩)) ⟨trimQ (mulL a b), rfl, rfl, rfl, rfl⟩)) (er_pubL (en_fA X.Lt r39 (ar_cons (er_v 6 rfl rfl) (ar_cons (er_v 7 rfl rfl) ar_nil)) ⟨a, b, tm, by omega, by omega, rfl, rfl, rfl, rfl⟩)) (bop_eqLQ Z.Te Z.X.nf r6)) (congrArg rBool (decide_eq_true rfl))) fun _ => er_one (er_eq (er_cmp (er_bin (er_v 4 rfl rfl) (er_v 5 rfl rfl) (bop_o X.Y.Tm Z.Y.cx r41 ⟨a, b, mo, by omega, by omega, rfl, rfl, rfl, rfl⟩)) (er_bin (er_v 5 rfl rfl) (er_v 4 rfl rfl) (bop_o X.Y.Tm Z.Y.cx r41 ⟨b, a, mo2, by omega, by omega, rfl, rfl, rfl, rfl⟩)) (bop_oE X.Te r7 ⟨rfl, rfl, mulL a b, .inl ⟨mulL b a, rfl, rfl⟩⟩ tyr_ins Z.Y.nf)) (congrArg rBool (decide_eq_true mul_comm_T)))) ⟨_, [], rfl, fun v G h => h, rfl⟩
  · refine hb_if (b := false) (w1 := []) (tr_to (tr_cmp (er_v 0 rfl rfl) er_int bop_eqI) rfl) (fun z => Bool.noConfusion z) (fun _ => hb_nil ?_)
    refine hb_if (b := false) (w1 := []) (tr_to (tr_cmp (er_v 0 rfl rfl) er_int bop_eqI) rfl) (fun z => Bool.noConfusion z) (fun _ => hb_nil ?_)
    refine hb_if (b := false) (w1 := []) (tr_to (tr_cmp (er_v 0 rfl rfl) er_int bop_eqI) rfl) (fun z => Bool.noConfusion z) (fun _ => hb_nil ?_)
    refine hb_if (b := true) (w1 := []) (tr_to (tr_cmp (er_v 0 rfl rfl) er_int bop_eqI) rfl) (fun _ => ?_) (fun z => Bool.noConfusion z)
    refine hb_setA (R := rRat R (ev a x)) (w1 := []) 9 rfl (er_fA X.Lv r38 (ar_cons (er_v 6 rfl rfl) (ar_cons (er_v 3 rfl rfl) ar_nil)) ⟨a, x, va, rfl, rfl, rfl, rfl⟩) ?_
    refine hb_setA (R := rRat R (ev a x * ev b x + ev a x)) (w1 := []) 10 rfl (er_eq (er_m X.Tv cl r38 (er_bin (er_bin (er_v 4 rfl rfl) (er_v 5 rfl rfl) (bop_o X.Y.Tm Z.Y.cx r41 ⟨a, b, mo, by omega, by omega, rfl, rfl, rfl, rfl⟩)) (er_v 4 rfl rfl) (bop_o X.Y.Ta Z.Y.cx r39 ⟨trimQ (mulL a b), a, fun k => big_of (trim_sz szM k) (by decide), ba, by omega, by omega, rfl, rfl, rfl, rfl⟩)) (ar_cons (er_v 3 rfl rfl) ar_nil) ⟨trimQ (plusL (trimQ (mulL a b)) a), x, vb, rfl, rfl, rfl, rfl⟩) (congrArg (rRat R) both_ev)) ?_
    exact hb_ret (er_and (k := true) (m := true) (er_eq (er_cmp (er_m X.Tv cl r38 (er_v 4 rfl rfl) (ar_cons (er_v 3 rfl rfl) ar_nil) ⟨a, x, va, rfl, rfl, rfl, rfl⟩) (er_v 9 rfl rfl) (bop_oE Z.Te r5 pEqOk tyr_ins Z.X.nf)) (congrArg rBool (decide_eq_true rfl))) fun _ => er_one (er_eq (er_cmp (er_v 10 rfl rfl) (er_bin (er_bin (er_v 9 rfl rfl) (er_fA X.Lv r38 (ar_cons (er_v 7 rfl rfl) (ar_cons (er_v 3 rfl rfl) ar_nil)) ⟨b, x, valOk_of ok.zb.sz ok.zx (by omega) (by decide), rfl, rfl, rfl, rfl⟩) (bop_o Z.Tm Z.X.cx r37 (pMulOkW be bf))) (er_v 9 rfl rfl) (bop_o Z.Ta Z.X.cx r37 (pAddOkW bg be))) (bop_oE Z.Te r5 pEqOk tyr_ins Z.X.nf)) (congrArg rBool (decide_eq_true rfl)))) ⟨_, [], rfl, fun v G h => h, rfl⟩
  · refine hb_if (b := false) (w1 := []) (tr_to (tr_cmp (er_v 0 rfl rfl) er_int bop_eqI) rfl) (fun z => Bool.noConfusion z) (fun _ => hb_nil ?_)
    refine hb_if (b := false) (w1 := []) (tr_to (tr_cmp (er_v 0 rfl rfl) er_int bop_eqI) rfl) (fun z => Bool.noConfusion z) (fun _ => hb_nil ?_)
    refine hb_if (b := false) (w1 := []) (tr_to (tr_cmp (er_v 0 rfl rfl) er_int bop_eqI) rfl) (fun z => Bool.noConfusion z) (fun _ => hb_nil ?_)
    refine hb_if (b := false) (w1 := []) (tr_to (tr_cmp (er_v 0 rfl rfl) er_int bop_eqI) rfl) (fun z => Bool.noConfusion z) (fun _ => hb_nil ?_)
    refine hb_if (b := true) (w1 := []) (tr_to (tr_cmp (er_v 0 rfl rfl) er_int bop_eqI) rfl) (fun _ => ?_) (fun z => Bool.noConfusion z)
    refine hb_setLc (w1 := []) (xs := List.range (a.length - 1)) (A := fun j : Nat => rInt (1 + (j : Int))) (B := fun j : Nat => rRat R (co a (j + 1) * (((j + 1 : Nat) : Int) : Rat))) 11 (by rw [← rng1N]; exact it_rng2 (n := ((a.length : Nat) : Int)) (ar_cons er_int (ar_cons (er_eq (er_bA (ar_cons (er_v 6 rfl rfl) ar_nil) Z.len bt_len cop_lenL) (congrArg rInt len_map)) ar_nil)) rfl Z.rg (by omega)) (by rw [List.length_range]; omega) [("_law_k", 12)] (blkOk_by (N := N__law_look) (sc := defScope s__law_look) (by decide +kernel)) (fun _ _ _ _ _ => pg_name (i := 12) nd rfl (by first | exact Or.inl rfl | exact Or.inr rfl)) (fun i g h => gew_name) (fun i j hj s1 H1 cc cl' fp d => ?_) ?_ nd rfl
    · have hj := List.mem_range.mp (List.mem_of_getElem? hj)
      exact er_bin (er_ix (er_v 6 rfl rfl) (er_eq (er_v 12 rfl rfl) (congrArg rInt (show (1 : Int) + (j : Int) = ((j + 1 : Nat) : Int) by omega))) (iop_L (n := j + 1) (ixN_at (by rw [List.length_map]; omega)) (co_at (by omega)))) (er_eq (er_cm Z.Tw r37 (er_gC Z.X.gC) (ar_cons (er_v 12 rfl rfl) ar_nil) (pWholeOk (n := 1 + (j : Int)))) (congrArg (fun i : Int => rRat R (i : Rat)) (show (1 : Int) + (j : Int) = ((j + 1 : Nat) : Int) by omega))) (bop_o Z.Tm Z.X.cx r37 (pMulOkW (ba _) (big_nat (by omega))))
    rw [slope_rng]
    exact hb_ret (er_eq (er_cmp (er_pubL (en_m0 X.Tc cl r1 (er_m0 X.Ts cl r38 (er_v 4 rfl rfl) ⟨a, ba, by omega, rfl, rfl, rfl, rfl⟩) ⟨trimQ (slopeL a), rfl, rfl, rfl, rfl⟩)) (er_pubL (en_fA X.Lc r38 (ar_cons (er_v 11 rfl rfl) ar_nil) ⟨_, slopeL a, .inl ⟨rfl, rfl⟩, rfl, rfl, rfl⟩)) (bop_eqLQ Z.Te Z.X.nf r6)) (congrArg rBool (decide_eq_true rfl))) ⟨_, [], rfl, fun v G h => h, rfl⟩
  · refine hb_if (b := false) (w1 := []) (tr_to (tr_cmp (er_v 0 rfl rfl) er_int bop_eqI) rfl) (fun z => Bool.noConfusion z) (fun _ => hb_nil ?_)
    refine hb_if (b := false) (w1 := []) (tr_to (tr_cmp (er_v 0 rfl rfl) er_int bop_eqI) rfl) (fun z => Bool.noConfusion z) (fun _ => hb_nil ?_)
    refine hb_if (b := false) (w1 := []) (tr_to (tr_cmp (er_v 0 rfl rfl) er_int bop_eqI) rfl) (fun z => Bool.noConfusion z) (fun _ => hb_nil ?_)
    refine hb_if (b := false) (w1 := []) (tr_to (tr_cmp (er_v 0 rfl rfl) er_int bop_eqI) rfl) (fun z => Bool.noConfusion z) (fun _ => hb_nil ?_)
    refine hb_if (b := false) (w1 := []) (tr_to (tr_cmp (er_v 0 rfl rfl) er_int bop_eqI) rfl) (fun z => Bool.noConfusion z) (fun _ => hb_nil ?_)
    refine hb_if (b := true) (w1 := []) (tr_to (tr_cmp (er_v 0 rfl rfl) er_int bop_eqI) rfl) (fun _ => ?_) (fun z => Bool.noConfusion z)
    by_cases hb : b = []
    · subst hb
      refine hb_setA (R := rLst [rStr "number", rInt 0]) (w1 := []) 8 rfl (er_fA X.Ldv hr (ar_cons (er_v 4 rfl rfl) (ar_cons (er_v 5 rfl rfl) ar_nil)) ⟨a, [], rfl, rfl, rfl, by omega, by omega, .inl ⟨rfl, rfl⟩⟩) ?_
      refine hb_if (b := true) (w1 := []) (tr_to (tr_cmp (er_v 7 rfl rfl) (er_lst (Rs := []) ar_nil (Nat.zero_le _)) (bop_eqE r1)) rfl) (fun _ => ?_) (fun z => Bool.noConfusion z)
      exact hb_ret (er_cmp (er_v 8 rfl rfl) (er_lst (Rs := [rStr "number", rInt 0]) (ar_cons er_str (ar_cons er_int ar_nil)) (Nat.le_of_ble_eq_true rfl)) (bop_eqSame (n := 0) (two2 (eqb_val (x := .str "number") (y := .str "number") rfl rfl) (eqb_val (x := .int 0) (y := .int 0) rfl rfl)) r1)) ⟨_, [], rfl, fun v G h => h, rfl⟩
    · have t0 := can_top ok.cb hb
      have b1 : 1 ≤ b.length := List.length_pos_iff.mpr hb
      obtain ⟨dB, cR, cQ⟩ := divB0 (M := 1419) ok.zb t0 b1 (by unfold bigN; decide) ok.za (fun _ => by
        have : (a.length + 1 - b.length) * (141 + 1) ≤ 9 * (141 + 1) := Nat.mul_le_mul_right _ (by omega)
        omega) (by decide)
      have lQ : (quoQ a b).length ≤ a.length := quo_len (Nat.le_refl _) (Nat.zero_le _) t0 b1
      have lR := rem_lt (r := a) t0 b1
      have moQ : MulOk (quoQ a b) b := mulOk_of cQ ok.zb.sz (by omega) (by decide)
      have lM : (trimQ (mulL (quoQ a b) b)).length ≤ 18 := by
        refine Nat.le_trans (trim_le _) ?_
        unfold mulL
        rw [List.length_map, List.length_range]
        omega
      refine hb_setA (R := rLst [rPl Po R (quoQ a b), rPl Po R (remQ a b)]) (w1 := []) 8 rfl (er_fA X.Ldv hr (ar_cons (er_v 4 rfl rfl) (ar_cons (er_v 5 rfl rfl) ar_nil)) ⟨a, b, rfl, rfl, rfl, by omega, by omega, .inr ⟨t0, dB, rfl⟩⟩) ?_
      refine hb_if (b := false) (w1 := []) (tr_to (tr_cmp (er_v 7 rfl rfl) (er_lst (Rs := []) ar_nil (Nat.zero_le _)) (bop_eqE r1)) (decide_eq_false (by rw [List.map_eq_nil_iff]; exact hb))) (fun z => Bool.noConfusion z) (fun _ => hb_nil ?_)
      refine hb_par (R := rPl Po R (quoQ a b)) (S := rPl Po R (remQ a b)) (w1 := []) 13 14 (ar_cons (er_ix (er_v 8 rfl rfl) er_int (iop_L (n := 0) rfl rfl)) (ar_cons (er_ix (er_v 8 rfl rfl) er_int (iop_L (n := 1) rfl rfl)) ar_nil)) ?_ nd
      exact hb_ret (er_and (k := true) (m := true) (er_eq (er_cmp (er_eq (er_bin (er_bin (er_v 13 rfl rfl) (er_v 5 rfl rfl) (bop_o X.Y.Tm Z.Y.cx r41 ⟨quoQ a b, b, moQ, by omega, by omega, rfl, rfl, rfl, rfl⟩)) (er_v 14 rfl rfl) (bop_o X.Y.Ta Z.Y.cx r39 ⟨trimQ (mulL (quoQ a b) b), remQ a b, fun k => big_of (trim_sz (mul_sz cQ ok.zb.sz (by omega)) k) (by decide), fun k => big_of (cR.sz k) (by decide), by omega, by omega, rfl, rfl, rfl, rfl⟩)) (congrArg (rPl Po R) (quo_sum ok.ca))) (er_v 4 rfl rfl) (bop_oE X.Te r7 (pl_eq ok.ca ok.ca) tyr_ins Z.Y.nf)) (congrArg rBool (decide_eq_true rfl))) fun _ => er_one (er_eq (er_cmp (er_pubL (en_m0 X.Tc cl r1 (er_v 14 rfl rfl) ⟨remQ a b, rfl, rfl, rfl, rfl⟩)) (er_fA X.Lr r40 (ar_cons (er_v 6 rfl rfl) (ar_cons (er_v 7 rfl rfl) ar_nil)) ⟨a, b, ok.ca, t0, dB, by omega, by omega, rfl, rfl, rfl, rfl⟩) (bop_eqLQ Z.Te Z.X.nf r6)) (congrArg rBool (decide_eq_true rfl)))) ⟨_, [], rfl, fun v G h => h, rfl⟩
  · refine hb_if (b := false) (w1 := []) (tr_to (tr_cmp (er_v 0 rfl rfl) er_int bop_eqI) rfl) (fun z => Bool.noConfusion z) (fun _ => hb_nil ?_)
    refine hb_if (b := false) (w1 := []) (tr_to (tr_cmp (er_v 0 rfl rfl) er_int bop_eqI) rfl) (fun z => Bool.noConfusion z) (fun _ => hb_nil ?_)
    refine hb_if (b := false) (w1 := []) (tr_to (tr_cmp (er_v 0 rfl rfl) er_int bop_eqI) rfl) (fun z => Bool.noConfusion z) (fun _ => hb_nil ?_)
    refine hb_if (b := false) (w1 := []) (tr_to (tr_cmp (er_v 0 rfl rfl) er_int bop_eqI) rfl) (fun z => Bool.noConfusion z) (fun _ => hb_nil ?_)
    refine hb_if (b := false) (w1 := []) (tr_to (tr_cmp (er_v 0 rfl rfl) er_int bop_eqI) rfl) (fun z => Bool.noConfusion z) (fun _ => hb_nil ?_)
    refine hb_if (b := false) (w1 := []) (tr_to (tr_cmp (er_v 0 rfl rfl) er_int bop_eqI) rfl) (fun z => Bool.noConfusion z) (fun _ => hb_nil ?_)
    exact hb_ret (er_eq (er_cmp (er_pubL (en_m0 X.Tc cl r1 (er_fA X.Tg hr (ar_cons (er_v 4 rfl rfl) (ar_cons (er_v 5 rfl rfl) ar_nil)) ⟨a, b, ok.ca, ok.cb, ok.la, ok.lb, ok.za, ok.zb, rfl, rfl, rfl, rfl⟩) ⟨normQ (gcdQ a b), rfl, rfl, rfl, rfl⟩)) (er_fA X.Ld r41 (ar_cons (er_v 6 rfl rfl) (ar_cons (er_v 7 rfl rfl) ar_nil)) ⟨a, b, ok.ca, ok.cb, ok.la, ok.lb, ok.za, ok.zb, rfl, rfl, rfl, rfl⟩) (bop_eqLQ Z.Te Z.X.nf r6)) (congrArg rBool (decide_eq_true (norm_can (gcdF_can ok.ca ok.cb))))) ⟨_, [], rfl, fun v G h => h, rfl⟩
end
end W1
set_option maxRecDepth 100000
set_option maxHeartbeats 4000000
set_option exponentiation.threshold 20000
namespace W1
open PySem PySem.Spec PyProof.Rows L2 NdefX TL NumText
theorem cut_memW {xs : List V} {lo hi : Option Int} {x : V} (h : x ∈ cutV xs lo hi) : x ∈ xs := by
  unfold cutV at h
  exact List.mem_of_mem_drop (List.mem_of_mem_take h)
theorem cut_lenW (xs : List V) (lo hi : Option Int) : (cutV xs lo hi).length ≤ xs.length := by
  unfold cutV
  rw [List.length_take, List.length_drop]
  omega
theorem Slots.re {ρ : Ty} {σ : L2.St} {G G' : Hp} {i : Nat} {R R' : Rl} (s : Slots ρ σ G) (sG : Same G G') (hi : ρ[i]? = some (some R)) (hr : ∀ v, R.r v G → R'.r v G') : Slots (ρ.set i (some R')) σ G' := by
  refine ⟨by rw [List.length_set]; exact s.len, fun j S e => ?_⟩
  rw [List.getElem?_set] at e
  split at e
  · rename_i h
    subst h
    split at e
    · cases e
      obtain ⟨v, h1, h2⟩ := s.at_ _ _ hi
      exact ⟨v, h1, hr v h2⟩
    · cases e
  · obtain ⟨v, h1, h2⟩ := s.at_ _ _ e
    exact ⟨v, h1, S.mo _ _ _ sG h2⟩
theorem all2_mid {G G' : Hp} {d : Addr} {Q : Rl} {Bs : List Rl} (sg : Same G G') (h : Q.r (.ref d) G') : ∀ {As : List Rl} {vs : List L2.V}, All2 (As ++ rRef d :: Bs) vs G → All2 (As ++ Q :: Bs) vs G'
  | [], v :: vs, ⟨a, b⟩ => by
    cases (show v = L2.V.ref d from a)
    exact ⟨h, b.up sg⟩
  | A :: As, v :: vs, ⟨a, b⟩ => ⟨A.mo _ _ _ sg a, all2_mid sg h (As := As) b⟩
  | [], [], h => h.elim
  | _ :: _, [], h => h.elim
section
variable {F : Fx} {ρ : Ty} {w : Ow} {K : Kn} {rest : List Stmt} {Rs As Bs : List Rl} {d : Addr}
theorem hb_pubI (i : Nat) (hi : ρ[i]? = some (some (rLst (As ++ rRef d :: Bs)))) (hM : d ∉ F.M) (h : HB F (ρ.set i (some (rLst (As ++ rLst Rs :: Bs)))) w rest K) : HB F ρ ((d, oL Rs) :: w) rest K := fun σ G H D at_ sl ps => by
  obtain ⟨hg0, _, o, h1, vs, rfl, h2⟩ := at_.ow _ List.mem_cons_self
  have a := at_.pub h1 (At.own0 at_ hM)
  have sg : Same G (upd G d (.lst vs)) := fun b u e => by rw [upd_ne (ne_of_none e hg0)]; exact e
  have lz : (rLst Rs).r (.ref d) (upd G d (.lst vs)) := ⟨d, vs, rfl, upd_same, h2.up sg⟩
  refine h σ _ _ D a (sl.re sg hi fun v hv => ?_) (ps.up sg)
  obtain ⟨p, us, rfl, e1, e2⟩ := hv
  exact ⟨p, us, rfl, sg _ _ e1, all2_mid sg lz e2⟩
end
/-! ### rows, plain and multiplied -/
def SixB (q : Rat) : Prop := ∃ n : Int, n.natAbs ≤ 6 * 10 ^ 20 ∧ q * ((6 : Int) : Rat) = (n : Rat)
theorem SixB.zero : SixB 0 := ⟨0, by decide, by rw [Rat.zero_mul]; rfl⟩
theorem rwQ_sixB {s : Pool} : SixB (rwQ s) := by
  obtain ⟨c, h1, h2, h3⟩ := bot_six (n := (tkR (drS s 7) 5).toNat)
  refine ⟨_, ?_, six h1 h3⟩
  rw [Int.natAbs_mul]
  exact Nat.le_trans (Nat.mul_le_mul top_sm h2) (by decide)
theorem row_zero {m : Int} {s : Pool} {k : Nat} (h0 : 0 ≤ m) (h : m ≤ (k : Int)) : co (rowQ m s) k = 0 := by
  have hN := (rowN_le (s := s) h0).2
  unfold rowQ
  rw [co_app, rwL_len, if_neg (by omega)]
  by_cases hk : k - rowN m s < rowZ m s
  · exact co_get (by rw [List.getElem?_replicate, if_pos hk])
  · exact co_out (by rw [List.length_replicate]; omega)
theorem row_sixB {m : Int} {s : Pool} (k : Nat) : SixB (co (rowQ m s) k) := by
  by_cases hk : k < (rowQ m s).length
  · have hm := List.mem_of_getElem? (co_in hk)
    generalize co (rowQ m s) k = v at hm ⊢
    rcases List.mem_append.mp hm with h | h
    · unfold rwL at h
      obtain ⟨i, -, rfl⟩ := List.mem_map.mp h
      exact rwQ_sixB
    · rw [List.eq_of_mem_replicate h]
      exact SixB.zero
  · rw [co_out (by omega)]
    exact SixB.zero
theorem mul36 {p q : Rat} (hp : SixB p) (hq : SixB q) : ∃ m : Int, m.natAbs ≤ 36 * 10 ^ 40 ∧ p * q * ((36 : Int) : Rat) = (m : Rat) := by
  obtain ⟨a, a1, a2⟩ := hp
  obtain ⟨b, b1, b2⟩ := hq
  refine ⟨a * b, ?_, ?_⟩
  · rw [Int.natAbs_mul]
    exact Nat.le_trans (Nat.mul_le_mul a1 b1) (by decide)
  · rw [cast_mul, ← a2, ← b2, show ((36 : Int) : Rat) = ((6 : Int) : Rat) * ((6 : Int) : Rat) by rw [← cast_mul]; rfl]
    simp only [← Rat.mul_assoc]
    rw [Rat.mul_assoc p q, Rat.mul_comm q, ← Rat.mul_assoc]
theorem sg36 {f : Nat → Rat} {B : Nat} (h : ∀ i, ∃ m : Int, m.natAbs ≤ B ∧ f i * ((36 : Int) : Rat) = (m : Rat)) : ∀ n, ∃ m : Int, m.natAbs ≤ n * B ∧ sgN n f * ((36 : Int) : Rat) = (m : Rat)
  | 0 => ⟨0, Nat.zero_le _, by show (0 : Rat) * _ = _; rw [Rat.zero_mul]; rfl⟩
  | n + 1 => by
    obtain ⟨a, a1, a2⟩ := sg36 h n
    obtain ⟨b, b1, b2⟩ := h n
    refine ⟨a + b, ?_, ?_⟩
    · rw [Nat.succ_mul]
      have := Int.natAbs_add_le a b
      omega
    · show (sgN n f + f n) * _ = _
      rw [Rat.add_mul, a2, b2, Rat.intCast_add]
theorem mul_cd {a p : List Rat} (ha : ∀ k, SixB (co a k)) (hp : ∀ k, SixB (co p k)) (lp : p.length ≤ 4) : Cd 141 (trimQ (mulL a p)) := ⟨36, by decide, by decide, fun k => by
  have lt : ∀ {n m : Nat}, n ≤ 4 → m ≤ n * (36 * 10 ^ 40) → m < 2 ^ 141 := fun {n m} h1 h2 => Nat.lt_of_le_of_lt (Nat.le_trans h2 (Nat.mul_le_mul_right _ h1)) (by decide)
  rw [trim_co, mul_co, cv_comm]
  unfold cv
  by_cases hk : k + 1 ≤ 4
  · obtain ⟨m, h1, h2⟩ := sg36 (f := fun i => co p i * co a (k - i)) (fun i => mul36 (hp i) (ha _)) (k + 1)
    exact ⟨m, lt hk h1, h2⟩
  · rw [sgN_more (m := 4) (by omega) fun i h1 h2 => by rw [co_out (xs := p) (by omega), Rat.zero_mul]]
    obtain ⟨m, h1, h2⟩ := sg36 (f := fun i => co p i * co a (k - i)) (fun i => mul36 (hp i) (ha _)) 4
    exact ⟨m, lt (Nat.le_refl _) h1, h2⟩⟩
theorem mul_short {a b : List Rat} {m n : Nat} (ha : ∀ k, m ≤ k → co a k = 0) (hb : ∀ k, n ≤ k → co b k = 0) : (trimQ (mulL a b)).length ≤ m + n - 1 := trim_short fun k hk => by
  rw [mul_co]
  refine sgN_zero fun i hi => ?_
  by_cases h : i < m
  · rw [hb _ (by omega), Rat.mul_zero]
  · rw [ha _ (by omega), Rat.zero_mul]
structure RwO (La Lb : List Rat) : Prop where
  l1 : La.length ≤ 20
  l2 : Lb.length ≤ 20
  la : (trimQ La).length ≤ 9
  lb : (trimQ Lb).length ≤ 9
  za : Cd 141 La
  zb : Cd 141 Lb
theorem rowQ_l {s : Pool} : (rowQ 7 s).length ≤ 8 := by have := rowQ_len (m := 7) (s := s) (by decide); omega
theorem rowQ_l6 {s : Pool} : (rowQ 6 s).length ≤ 7 := by have := rowQ_len (m := 6) (s := s) (by decide); omega
theorem rowQ_l3 {s : Pool} : (trimQ (rowQ 3 s)).length ≤ 3 := trim_short fun k hk => row_zero (by decide) (by omega)
theorem rw_plain {s t : Pool} : RwO (rowQ 7 s) (rowQ 6 t) := ⟨Nat.le_trans rowQ_l (by decide), Nat.le_trans rowQ_l6 (by decide), Nat.le_trans (trim_le _) (Nat.le_trans rowQ_l (by decide)), Nat.le_trans (trim_le _) (Nat.le_trans rowQ_l6 (by decide)), rowQ_cd.mono (by decide), rowQ_cd.mono (by decide)⟩
theorem cut_sixB {s : Pool} (k : Nat) : SixB (co (trimQ (rowQ 3 s)) k) := by rw [trim_co]; exact row_sixB k
theorem rw_mul {s t u : Pool} : RwO (trimQ (mulL (rowQ 7 s) (trimQ (rowQ 3 u)))) (trimQ (mulL (rowQ 6 t) (trimQ (rowQ 3 u)))) := by
  have c3 : ∀ k, 3 ≤ k → co (trimQ (rowQ 3 u)) k = 0 := fun k hk => by rw [trim_co]; exact row_zero (by decide) (by omega)
  have s1 : (trimQ (mulL (rowQ 7 s) (trimQ (rowQ 3 u)))).length ≤ 9 := mul_short (m := 7) (n := 3) (fun k hk => row_zero (by decide) (by omega)) c3
  have s2 : (trimQ (mulL (rowQ 6 t) (trimQ (rowQ 3 u)))).length ≤ 8 := mul_short (m := 6) (n := 3) (fun k hk => row_zero (by decide) (by omega)) c3
  have l3 := rowQ_l3 (s := u)
  exact ⟨by omega, by omega, Nat.le_trans (trim_le _) s1, Nat.le_trans (trim_le _) (by omega), mul_cd row_sixB cut_sixB (by omega), mul_cd row_sixB cut_sixB (by omega)⟩
theorem tim_row {m : Int} {s u : Pool} (h : (rowQ m s).length ≤ 20 := by exact Nat.le_trans (by first | exact rowQ_l | exact rowQ_l6) (by decide)) : TimOk (rowQ m s) (trimQ (rowQ 3 u)) := by
  have z1 : ∀ k, Sz 70 (co (rowQ m s) k) := rowQ_cd.sz
  have z2 : ∀ k, Sz 70 (co (trimQ (rowQ 3 u)) k) := trim_sz rowQ_cd.sz
  exact ⟨fun k => big_of (z1 k) (by decide), fun k => big_of (z2 k) (by decide), fun k n => big_of (sz_mul (z1 k) (z2 n) (Nat.le_refl _)) (by decide), fun k n hk => big_of (pq_sz z1 z2 (by omega) n) (by decide)⟩
theorem few_eq : trimQ (intsQ [3, 0, -2, 0]) = intsQ [3, 0, -2] := by decide
def pLaw (K : PySem.W.Frag) : Pre := pOk (α := List Int) (fun ns => ns.length ≤ 63) (fun ns => [rScr K (ns.map L2.V.int)]) (fun _ => rBool true)
structure LaX (P : Program) (w : World) (K : PySem.W.Frag) (mg : Str → Option Value) (base : Heap) (Po R M : Addr) : Prop where
  X : LkX P w K mg base Po R M
  Tcell : Kf1 P w K mg base "_law_cell" 1 (pAt K)
  Tpool : KfN1 P w K mg base "_law_pool" 1 pPool
  Tt : Kf1 P w K mg base "_law_take" 1 pTake
  Tsh : Kf1 P w K mg base "_law_shuffled" 2 pShuf
  Lrow : KfN1 P w K mg base "_law_row" 38 (pDrw R)
  Lk : Kf1 P w K mg base "_law_look" 44 (pLook Po R)
  Tpw : Kcs P w K mg base Po "whole" 38 (pWholeP Po R)
  tu : mg "tuple" = none
section
variable {P : Program} {w : World} {K : PySem.W.Frag} {mg : Str → Option Value} {base : Heap} {Po R M f : Addr} {fd : FuncData}
theorem kf_law (Fn : Fun K "law" "law" s_law f fd) (Z : LaX P w K mg base Po R M) : FnOk P w K mg base (L2.CX P w) 45 f fd P_law (spM (pLaw K)) := by
  refine fn_ok Fn c_law (fun _ _ _ _ ⟨_, _, h, _⟩ => by rw [h]; rfl) ?_
  rintro cdv A' outer s00 H E ⟨_, G0, H0, M', W', tk⟩ hr rfl Rs ω o ω' ⟨is, his, rfl, rfl, rfl, rfl⟩
  have his : is.length ≤ 63 := his
  have nd := c_law.nd
  have X := Z.X
  have cl := X.Y.Z.Y.cx.cls
  have r1 := hr.mono (show 1 ≤ 44 by decide)
  have r2 := hr.mono (show 2 ≤ 44 by decide)
  have r6 := hr.mono (show 6 ≤ 44 by decide)
  have r7 := hr.mono (show 7 ≤ 44 by decide)
  have r8 := hr.mono (show 8 ≤ 44 by decide)
  have r36 := hr.mono (show 36 ≤ 44 by decide)
  have r37 := hr.mono (show 37 ≤ 44 by decide)
  have r38 := hr.mono (show 38 ≤ 44 by decide)
  have r39 := hr.mono (show 39 ≤ 44 by decide)
  have ecut : ∀ x ∈ cutV (is.map L2.V.int) (some 1) (some 5), ∃ c : Int, x = L2.V.int c := fun x hx => by
    obtain ⟨c, _, e⟩ := List.mem_map.mp (cut_memW hx)
    exact ⟨c, e.symm⟩
  have lcut : (cutV (is.map L2.V.int) (some 1) (some 5)).length ≤ 63 := by
    have := cut_lenW (is.map L2.V.int) (some 1) (some 5)
    rw [List.length_map] at this
    omega
  refine hb_for (it_lst (er_bin (er_lst (ar_cons (er_fA Z.Tcell r1 (ar_cons (er_v 0 rfl rfl) (ar_cons er_int ar_nil)) ⟨(is, 0), trivial, rfl, rfl, rfl, rfl⟩) ar_nil) (Nat.le_of_ble_eq_true rfl)) (er_tA (ar_cons (er_slice (er_v 0 rfl rfl) (pr_some er_int) (pr_some er_int) sop_S) ar_nil) X.Y.Z.ls bt_list cop_listL) (bop_cat (by rw [List.length_map]; show 1 + _ ≤ _; omega))))
    (fun _ ρ w => w = [] ∧ ∃ z1 z2 z3 z4 z5 z6 z7 z8 z9, ρ = [some (rScr K (is.map L2.V.int)), z1, z2, z3, z4, z5, z6, z7, z8, z9]) ⟨rfl, _, _, _, _, _, _, _, _, _, rfl⟩ ?_ ?_ (passes_of rfl) (pg_name (i := 1) nd rfl (by first | exact Or.inl rfl | exact Or.inr rfl))
  · rintro k0 ρ wr S hS ⟨rfl, z1, z2, z3, z4, z5, z6, z7, z8, z9, rfl⟩
    obtain ⟨c, rfl⟩ : ∃ c : Int, S = rInt c := by
      have hm := List.mem_of_getElem? hS
      rcases List.mem_append.mp hm with hm | hm
      · exact ⟨_, List.mem_singleton.mp hm⟩
      · obtain ⟨x, hx, rfl⟩ := List.mem_map.mp hm
        obtain ⟨c, rfl⟩ := ecut x hx
        exact ⟨c, rfl⟩
    refine ⟨_, ge_name, ?_⟩
    refine hb_setNA 2 rfl (en_fA Z.Tpool r1 (ar_cons (er_v 1 rfl rfl) ar_nil) ⟨c, rfl, rfl, rfl, rfl⟩) fun q hq => ?_
    have p0 : PlB 0 (plS c) := PlB.new
    generalize plS c = s0 at p0
    have p1 : PlB 16 (rowS 7 s0) := rowS_B (by decide) (by decide) p0
    have p2 : PlB 32 (rowS 6 (rowS 7 s0)) := rowS_B (by decide) (by decide) p1
    refine hb_setG (Φ := fun A w => ∃ qa, qa ∉ M' ∧ A = rLst [rRef qa, rLst ((rowQ 6 (rowS 7 s0)).map (rRat R))] ∧ w = [(qa, oL ((rowQ 7 s0).map (rRat R))), (q, oPool (rowS 6 (rowS 7 s0)))]) 3 rfl (eg_lst (ag_cons (Φ := fun A w => ∃ qb, qb ∉ M' ∧ A = rRef qb ∧ w = (qb, oL ((rowQ 7 s0).map (rRat R))) :: [(q, oPool (rowS 7 s0))]) (eg_en (en_f1 0 Z.Lrow r38 (ar_cons (er_v 2 rfl rfl) (ar_cons er_int ar_nil)) rfl ⟨q, s0, 7, by decide, by decide, p0.mono (by decide), rfl, rfl, rfl, rfl⟩) (fun qb hqb => ⟨qb, hqb, rfl, rfl⟩)) (by
      rintro A w ⟨qb, hqb, rfl, rfl⟩
      exact ag_cons (Φ := fun A w => A = rLst ((rowQ 6 (rowS 7 s0)).map (rRat R)) ∧ w = (qb, oL ((rowQ 7 s0).map (rRat R))) :: [(q, oPool (rowS 6 (rowS 7 s0)))]) (eg_er (er_pubL (en_f1 1 Z.Lrow r38 (ar_cons (er_v 2 rfl rfl) (ar_cons er_int ar_nil)) rfl ⟨q, rowS 7 s0, 6, by decide, by decide, p1.mono (by decide), rfl, rfl, rfl, rfl⟩)) ⟨rfl, rfl⟩) (by
        rintro A w ⟨rfl, rfl⟩
        exact ag_nil ⟨by show 2 ≤ 1000; decide, qb, hqb, rfl, rfl⟩)))) ?_
    rintro A w ⟨qa, hqa, rfl, rfl⟩
    generalize hs2 : rowS 6 (rowS 7 s0) = s2 at p2
    have p3 : PlB 48 (rowS 3 s2) := rowS_B (by decide) (by decide) p2
    refine hb_setA (R := rLst ((trimQ (rowQ 3 s2)).map (rRat R))) (w1 := [(qa, oL ((rowQ 7 s0).map (rRat R))), (q, oPool (rowS 3 s2))]) 4 rfl (er_pubL (en_fA X.Lc r38 (ar_cons (er_pubL (en_f1 1 Z.Lrow r38 (ar_cons (er_v 2 rfl rfl) (ar_cons er_int ar_nil)) rfl ⟨q, s2, 3, by decide, by decide, p2.mono (by decide), rfl, rfl, rfl, rfl⟩)) ar_nil) ⟨_, rowQ 3 s2, .inl ⟨rfl, rfl⟩, rfl, rfl, rfl⟩)) ?_
    generalize hs3 : rowS 3 s2 = s3 at p3
    refine hb_ifJ (b := !decide (trimQ (rowQ 3 s2) = []) && decide (tkR s3 3 = 0)) (w1 := [(qa, oL ((rowQ 7 s0).map (rRat R))), (q, oPool (if trimQ (rowQ 3 s2) = [] then s3 else drS s3 3))]) (fun ρ w => ∃ qa La Lb s z4, qa ∉ M' ∧ PlB 60 s ∧ RwO La Lb ∧ ρ = [some (rScr K (is.map L2.V.int)), some (rInt c), some (rRef q), some (rLst [rRef qa, rLst (Lb.map (rRat R))]), z4, z5, z6, z7, z8, z9] ∧ w = [(qa, oL (La.map (rRat R))), (q, oPool s)]) ?_ (fun hb => ?_) (fun hb => ?_) ?_
    · by_cases hp : trimQ (rowQ 3 s2) = []
      · rw [if_pos hp, hp]
        exact PWR.tr (tr_andF (tr_to (tr_cmp (er_v 4 rfl rfl) (er_lst (Rs := []) ar_nil (Nat.zero_le _)) (bop_neE r1)) rfl))
      · rw [if_neg hp, decide_eq_false hp]
        exact PWR.tr (tr_andT (tr_to (tr_cmp (er_v 4 rfl rfl) (er_lst (Rs := []) ar_nil (Nat.zero_le _)) (bop_neE r1)) (by rw [decide_eq_false (fun z => hp (List.map_eq_nil_iff.mp z))]; rfl)) (tr_and1 (tr_cmp (er_f1 1 Z.Tt r1 (ar_cons (er_v 2 rfl rfl) (ar_cons er_int ar_nil)) rfl (takeOk p3)) er_int bop_eqI)))
    · have hp : trimQ (rowQ 3 s2) ≠ [] := fun z => by rw [z] at hb; exact Bool.noConfusion hb
      rw [if_neg hp]
      have l7 := rowQ_l (s := s0)
      have l6 := rowQ_l6 (s := rowS 7 s0)
      have l3 := rowQ_l3 (s := s2)
      refine hb_pubI (As := []) (d := qa) (Bs := [rLst ((rowQ 6 (rowS 7 s0)).map (rRat R))]) 3 rfl hqa ?_
      refine hb_setG (Φ := fun A w => ∃ qa, qa ∉ M' ∧ A = rLst [rRef qa, rLst ((trimQ (mulL (rowQ 6 (rowS 7 s0)) (trimQ (rowQ 3 s2)))).map (rRat R))] ∧ w = [(qa, oL ((trimQ (mulL (rowQ 7 s0) (trimQ (rowQ 3 s2)))).map (rRat R))), (q, oPool (drS s3 3))]) 3 rfl (eg_lst (ag_cons (Φ := fun A w => ∃ qb, qb ∉ M' ∧ A = rRef qb ∧ w = (qb, oL ((trimQ (mulL (rowQ 7 s0) (trimQ (rowQ 3 s2)))).map (rRat R))) :: [(q, oPool (drS s3 3))]) (eg_en (en_fA X.Lt r39 (ar_cons (er_ix (er_v 3 rfl rfl) er_int (iop_L (n := 0) rfl rfl)) (ar_cons (er_v 4 rfl rfl) ar_nil)) ⟨rowQ 7 s0, trimQ (rowQ 3 s2), tim_row, by omega, by omega, rfl, rfl, rfl, rfl⟩) (fun qb hqb => ⟨qb, hqb, rfl, rfl⟩)) (by
      rintro A w ⟨qb, hqb, rfl, rfl⟩
      exact ag_cons (Φ := fun A w => A = rLst ((trimQ (mulL (rowQ 6 (rowS 7 s0)) (trimQ (rowQ 3 s2)))).map (rRat R)) ∧ w = (qb, oL ((trimQ (mulL (rowQ 7 s0) (trimQ (rowQ 3 s2)))).map (rRat R))) :: [(q, oPool (drS s3 3))]) (eg_er (er_pubL (en_fA X.Lt r39 (ar_cons (er_ix (er_v 3 rfl rfl) er_int (iop_L (n := 1) rfl rfl)) (ar_cons (er_v 4 rfl rfl) ar_nil)) ⟨rowQ 6 (rowS 7 s0), trimQ (rowQ 3 s2), tim_row, by omega, by omega, rfl, rfl, rfl, rfl⟩)) ⟨rfl, rfl⟩) (by
        rintro A w ⟨rfl, rfl⟩
        exact ag_nil ⟨by show 2 ≤ 1000; decide, qb, hqb, rfl, rfl⟩)))) ?_
      rintro A w ⟨qc, hqc, rfl, rfl⟩
      exact hb_nil ⟨qc, _, _, _, _, hqc, (p3.dr (L := 3)).mono (by decide), rw_mul, rfl, rfl⟩
    · refine ⟨qa, _, _, _, _, hqa, ?_, rw_plain, rfl, rfl⟩
      split
      · exact p3.mono (by decide)
      · exact (p3.dr (L := 3)).mono (by decide)
    rintro ρ' w' ⟨qa, La, Lb, s, z4, hqa, ps, ok, rfl, rfl⟩
    have l1 := ok.l1
    have l2 := ok.l2
    refine hb_setA (R := rLst [rLst ((trimQ La).map (rRat R)), rLst ((trimQ Lb).map (rRat R))]) (w1 := [(qa, oL (La.map (rRat R))), (q, oPool s)]) 5 rfl (er_lst (Rs := [rLst ((trimQ La).map (rRat R)), rLst ((trimQ Lb).map (rRat R))]) (ar_cons (er_tA (ar_cons (er_pubL (en_f1 0 X.Lc r38 (ar_cons (er_ix (er_v 3 rfl rfl) er_int (iop_L (n := 0) rfl rfl)) ar_nil) rfl ⟨_, La, .inr (.inr ⟨qa, rfl, rfl⟩), rfl, rfl, rfl⟩)) ar_nil) X.Y.Z.ls bt_list cop_listL) (ar_cons (er_tA (ar_cons (er_pubL (en_fA X.Lc r38 (ar_cons (er_ix (er_v 3 rfl rfl) er_int (iop_L (n := 1) rfl rfl)) ar_nil) ⟨_, Lb, .inl ⟨rfl, rfl⟩, rfl, rfl, rfl⟩)) ar_nil) X.Y.Z.ls bt_list cop_listL) ar_nil)) (by show 2 ≤ 1000; decide)) ?_
    refine hb_setA (R := rLst [rPl Po R (trimQ La), rPl Po R (trimQ Lb)]) (w1 := [(qa, oL (La.map (rRat R))), (q, oPool s)]) 6 rfl (er_lst (Rs := [rPl Po R (trimQ La), rPl Po R (trimQ Lb)]) (ar_cons (er_cS (wc := [(qa, oL (La.map (rRat R)))]) (fs := polyF R La) X.Y.Z.Tp r8 (ar_cons (er_ix (er_v 3 rfl rfl) er_int (iop_L (n := 0) rfl rfl)) ar_nil) (Sub.one List.mem_cons_self) fun y => ⟨y, _, La, [(qa, oL (La.map (rRat R)))], .inr (.inr ⟨qa, rfl, rfl⟩), by omega, rfl, rfl, rfl, rfl⟩) (ar_cons (er_cS (wc := []) (fs := polyF R Lb) X.Y.Z.Tp r8 (ar_cons (er_tA (ar_cons (er_ix (er_v 3 rfl rfl) er_int (iop_L (n := 1) rfl rfl)) ar_nil) Z.tu bt_tup cop_tupL) ar_nil) Sub.nil fun y => ⟨y, _, Lb, [], .inr (.inl ⟨rfl, rfl⟩), by omega, rfl, rfl, rfl, rfl⟩) ar_nil)) (by show 2 ≤ 1000; decide)) ?_
    refine hb_append (R := rRat R ((5 : Int) : Rat)) (w2 := [(q, oPool s)]) (er_ix (er_v 3 rfl rfl) er_int (iop_L (n := 0) rfl rfl)) List.mem_cons_self (ar_cons (er_cm X.Y.Z.Tw r37 (er_gC X.Y.Z.X.gC) (ar_cons er_int ar_nil) (pWholeOk (n := 5))) ar_nil) (by rw [List.length_map]; omega) (hb_drop ?_)
    have d21 := tkR_lt (s := s) (L := 21) (by decide)
    have d4 := tkR_lt (s := drS s 21) (L := 4) (by decide)
    have p5 : PlB 61 (drS s 21) := ps.dr
    have p6 : PlB 62 (drS (drS s 21) 4) := p5.dr
    refine hb_setA (R := rRat R (Rat.divInt (tkR s 21 - 10) (1 + tkR (drS s 21) 4))) (w1 := [(q, oPool (drS (drS s 21) 4))]) 7 rfl (er_ratioW X.Y.Z.Tr r36 (ar_cons (er_bin (er_f1 0 Z.Tt r1 (ar_cons (er_v 2 rfl rfl) (ar_cons er_int ar_nil)) rfl (takeOk ps)) er_int bop_sub) (ar_cons (er_bin er_int (er_f1 0 Z.Tt r1 (ar_cons (er_v 2 rfl rfl) (ar_cons er_int ar_nil)) rfl (takeOk p5)) bop_add) ar_nil)) rfl (by omega)) ?_
    have zx : Sz 8 (Rat.divInt (tkR s 21 - 10) (1 + tkR (drS s 21) 4)) := sz_divInt (by omega) (by show _ < 256; omega) (by show _ < 256; omega)
    generalize Rat.divInt (tkR s 21 - 10) (1 + tkR (drS s 21) 4) = x at zx
    generalize drS (drS s 21) 4 = s6 at p6
    have lk : LookOk (trimQ La) (trimQ Lb) x := ⟨can_trim _, can_trim _, ok.la, ok.lb, ok.za.co fun k => (trim_co _ k).symm, ok.zb.co fun k => (trim_co _ k).symm, zx⟩
    refine hb_for (it_lst (Rs := (shG 7 s6 [(0 : Int), 1, 2, 3, 4, 5, 6]).map rInt) (er_f1 0 Z.Tsh r2 (ar_cons (er_v 2 rfl rfl) (ar_cons (er_lst (Rs := [(0 : Int), 1, 2, 3, 4, 5, 6].map rInt) (ar_cons er_int (ar_cons er_int (ar_cons er_int (ar_cons er_int (ar_cons er_int (ar_cons er_int (ar_cons er_int ar_nil))))))) (Nat.le_of_ble_eq_true rfl)) ar_nil)) rfl (shufOk (A := rInt) (xs := [(0 : Int), 1, 2, 3, 4, 5, 6]) (n := 7) rfl p6 (by decide) (by decide))))
      (fun _ ρ w => w = [(q, oPool (shS 7 s6 7))] ∧ ∃ z8, ρ = [some (rScr K (is.map L2.V.int)), some (rInt c), some (rRef q), some (rLst [rRef qa, rLst (Lb.map (rRat R))]), z4, some (rLst [rLst ((trimQ La).map (rRat R)), rLst ((trimQ Lb).map (rRat R))]), some (rLst [rPl Po R (trimQ La), rPl Po R (trimQ Lb)]), some (rRat R x), z8, z9]) ⟨rfl, _, rfl⟩ ?_ ?_ (passes_of rfl) (pg_name (i := 8) nd rfl (by first | exact Or.inl rfl | exact Or.inr rfl))
    · rintro k1 ρ w S hS ⟨rfl, z8', rfl⟩
      obtain ⟨i, hi, rfl⟩ := map_get hS
      obtain ⟨wh, hw, rfl⟩ : ∃ wh : Nat, wh < 7 ∧ i = ((wh : Nat) : Int) := by
        have hm := (shG_perm 7 s6 [(0 : Int), 1, 2, 3, 4, 5, 6] rfl).mem_iff.mp (List.mem_of_getElem? hi)
        simp only [List.mem_cons, List.not_mem_nil, or_false] at hm
        exact ⟨i.toNat, by omega, by omega⟩
      refine ⟨_, ge_name, ?_⟩
      exact hb_if (b := false) (w1 := [(q, oPool (shS 7 s6 7))]) (tr_to (tr_not (tr_val (er_fA (R := rBool true) Z.Lk hr (ar_cons (er_v 8 rfl rfl) (ar_cons (er_v 6 rfl rfl) (ar_cons (er_v 5 rfl rfl) (ar_cons (er_v 7 rfl rfl) ar_nil)))) ⟨wh, trimQ La, trimQ Lb, x, hw, lk, rfl, rfl, rfl, rfl⟩))) rfl) (fun z => Bool.noConfusion z) (fun _ => hb_nil (hb_nil ⟨rfl, _, rfl⟩))
    rintro ρ w ⟨rfl, z8', rfl⟩
    exact hb_drop (hb_nil ⟨rfl, _, _, _, _, _, _, _, _, _, rfl⟩)
  rintro ρ w ⟨rfl, z1, z2, z3, z4, z5, z6, z7, z8, z9, rfl⟩
  have wh : ∀ {F : Fx} {ρ : Ty} {w : Ow}, True := fun {_ _ _} => trivial
  refine hb_setA (R := rPoly Po R (intsQ [3, 0, -2, 0])) (w1 := []) 9 rfl (er_cmS Z.Tpw r38 (er_gC X.Y.Z.Y.gP) (ar_cons er_int (ar_cons er_int (ar_cons (er_un er_int uop_neg) (ar_cons er_int ar_nil)))) (by show 4 ≤ 1000; decide) ⟨[3, 0, -2, 0], by show 4 ≤ 100; decide, rfl, rfl, rfl, rfl⟩) ?_
  exact hb_ret (er_and (k := true) (m := true) (er_eq (er_cmp (er_pubL (en_m0 X.Tc cl r1 (er_v 9 rfl rfl) ⟨trimQ (intsQ [3, 0, -2, 0]), rfl, rfl, rfl, rfl⟩)) (er_lst (Rs := (intsQ [3, 0, -2]).map (rRat R)) (ar_cons (er_cm X.Y.Z.Tw r37 (er_gC X.Y.Z.X.gC) (ar_cons er_int ar_nil) (pWholeOk (n := 3))) (ar_cons (er_cm X.Y.Z.Tw r37 (er_gC X.Y.Z.X.gC) (ar_cons er_int ar_nil) (pWholeOk (n := 0))) (ar_cons (er_cm X.Y.Z.Tw r37 (er_gC X.Y.Z.X.gC) (ar_cons (er_un er_int uop_neg) ar_nil) (pWholeOk (n := -2))) ar_nil))) (Nat.le_of_ble_eq_true rfl)) (bop_eqLQ X.Y.Z.Te X.Y.Z.X.nf r6)) (congrArg rBool (decide_eq_true few_eq))) fun _ => er_one (er_eq (er_cmp (er_cmS0 Z.Tpw r38 (er_gC X.Y.Z.Y.gP) ⟨[], Nat.zero_le _, rfl, rfl, rfl, rfl⟩) (er_poly (xs := []) X.Y.Z.Tp r8 (ar_cons (er_lst (Rs := []) ar_nil (Nat.zero_le _)) ar_nil) (Nat.zero_le _)) (bop_oE X.Te r7 ⟨rfl, rfl, intsQ [], .inl ⟨[], rfl, rfl⟩⟩ tyr_ins X.Y.Z.Y.nf)) (congrArg rBool (decide_eq_true rfl)))) ⟨_, [], rfl, fun v G h => h, rfl⟩
end
end W1
set_option maxRecDepth 100000
set_option maxHeartbeats 2000000
set_option exponentiation.threshold 20000
namespace W1
open PySem PySem.Spec PyProof.Rows L2 NdefX
open TL NumText LP
theorem kE_BadNumber {P : Program} {w : World} {K : PySem.W.Frag} {mg : Str → Option Value} {base : Heap} {C f cc cd : Addr} (T : SupC P K mg "BadNumber" "BadNumber.__init__" s_BadNumber___init__ C f cc cd) (hno : PySem.W.findIn K (.ref C) "n" = some none) : Ke P w K mg base C "BadNumber" "n" 1 prInt := by
  obtain ⟨fd, ⟨doc, pm, ctv, rfl⟩, h⟩ := ok_err (w := w) (base := base) (k := 0) (Pr := prInt) (an2 := none) (ps2 := ⟨0, 0, 0, 0⟩) T c_BadNumber___init__ rfl rfl rfl hno (by decide) (by decide) (fun env he => ⟨_, rfl⟩) (fun env he => rfl) (fun env => rfl) (fun env he => ⟨rfl, rfl⟩)
    (fun X h1 h2 h3 h4 h5 hN hs hr hc => txt_fc (i := 1) (by rw [hN]; rfl) (by rw [hs]; exact Or.inl rfl) (by decide) (by decide) (by decide) (fun v H z => .inl z))
  exact ⟨"n", _, _, f, cc, cd, _, T, .all fun us hl => match us, hl with | [_, _], _ => rfl, h⟩
theorem law_cx {P : Program} : ∀ (w : World) (H : Hp) (s : Shared) (e : Value) (s' : Shared), L2.CX P w [] H s (fun _ _ _ => False) e s' → False := fun w H s e s' hq => by
  obtain ⟨_, _, _, _, _, _, _, _, _, _, _, _, z⟩ := hq
  exact z.elim
theorem law_sp {K : Params → PySem.W.Frag} : ∀ (w : World) (H : Hp) (a : Addr) (ns : List Int), ns.length ≤ 63 → L2.Only H → SqL (K w.params) H a (ns.map V.int) → spM (pLaw (K w.params)) [.ref a] H (fun v _ => v = .bl true) fun _ _ _ => False := fun w H a ns hl _ hS =>
  ⟨_, [], _, [], H, ⟨ns, hl, rfl, rfl, rfl, rfl⟩, Same.refl _, mk1 ⟨a, rfl, hS⟩, (fun _ h => by cases h), List.nodup_nil, rfl, fun v G' H' _ _ h => h⟩
theorem all_mk {w : World} {K : PySem.W.Frag} {h : Heap} {mg : Str → Option Value} {fa : Addr}
    {M f0 cc0 cd0 : Addr}
    {od0 dd0 cdd0 cld0 : Option Addr}
    {sl0 ccs0 csl0 : Array (Option Value)}
    {oc0 dc0 pm0 ct0 ccl0 clc0 : Value}
    {nm0 q0 file0 : Str}
    {N0 : Addr}
    {bs0 sub0 bm0 : List Value}
    {sn0 : List Str}
    {ab0 : Bool}
    {col0 : Option Bool}
    {m0_0 m0_1 m0_2 m0_3 m0_5 : Option Value}
    {vs0 : Array Value}
    {tf0 : Tok}
    {R : Addr}
    {f1 : Addr}
    {od1 an1 : Option Addr}
    {sl1 : Array (Option Value)}
    {oc1 kV1 dc1 pm1 cd1 ct1 : Value}
    {f2 : Addr}
    {od2 an2 : Option Addr}
    {sl2 : Array (Option Value)}
    {oc2 kV2 dc2 pm2 cd2 ct2 : Value}
    {f3 : Addr}
    {od3 an3 : Option Addr}
    {sl3 : Array (Option Value)}
    {oc3 kV3 dc3 pm3 cd3 ct3 : Value}
    {f4 : Addr}
    {od4 an4 : Option Addr}
    {sl4 : Array (Option Value)}
    {oc4 kV4 dc4 pm4 cd4 ct4 : Value}
    {f5 : Addr}
    {od5 an5 : Option Addr}
    {sl5 : Array (Option Value)}
    {oc5 kV5 dc5 pm5 cd5 ct5 : Value}
    {f6 : Addr}
    {od6 an6 : Option Addr}
    {sl6 : Array (Option Value)}
    {oc6 kV6 dc6 pm6 cd6 ct6 : Value}
    {f7 : Addr}
    {od7 an7 : Option Addr}
    {sl7 : Array (Option Value)}
    {oc7 kV7 dc7 pm7 cd7 ct7 : Value}
    {f8 : Addr}
    {od8 an8 : Option Addr}
    {sl8 : Array (Option Value)}
    {oc8 kV8 dc8 pm8 cd8 ct8 : Value}
    {f9 : Addr}
    {od9 an9 : Option Addr}
    {sl9 : Array (Option Value)}
    {oc9 kV9 dc9 pm9 cd9 ct9 : Value}
    {f10 : Addr}
    {od10 an10 : Option Addr}
    {sl10 : Array (Option Value)}
    {oc10 kV10 dc10 pm10 cd10 ct10 : Value}
    {mc10 : Value}
    {pc10 : Addr}
    {rest10 : List Value}
    {f11 : Addr}
    {od11 an11 : Option Addr}
    {sl11 : Array (Option Value)}
    {oc11 kV11 dc11 pm11 cd11 ct11 : Value}
    {Po : Addr}
    {f12 : Addr}
    {od12 an12 : Option Addr}
    {sl12 : Array (Option Value)}
    {oc12 kV12 dc12 pm12 cd12 ct12 : Value}
    {f13 : Addr}
    {od13 an13 : Option Addr}
    {sl13 : Array (Option Value)}
    {oc13 kV13 dc13 pm13 cd13 ct13 : Value}
    {f14 : Addr}
    {od14 an14 : Option Addr}
    {sl14 : Array (Option Value)}
    {oc14 kV14 dc14 pm14 cd14 ct14 : Value}
    {mc14 : Value}
    {pc14 : Addr}
    {rest14 : List Value}
    {f15 : Addr}
    {od15 an15 : Option Addr}
    {sl15 : Array (Option Value)}
    {oc15 kV15 dc15 pm15 cd15 ct15 : Value}
    {f16 : Addr}
    {od16 an16 : Option Addr}
    {sl16 : Array (Option Value)}
    {oc16 kV16 dc16 pm16 cd16 ct16 : Value}
    {f17 : Addr}
    {od17 an17 : Option Addr}
    {sl17 : Array (Option Value)}
    {oc17 kV17 dc17 pm17 cd17 ct17 : Value}
    {f18 : Addr}
    {od18 an18 : Option Addr}
    {sl18 : Array (Option Value)}
    {oc18 kV18 dc18 pm18 cd18 ct18 : Value}
    {f19 : Addr}
    {od19 an19 : Option Addr}
    {sl19 : Array (Option Value)}
    {oc19 kV19 dc19 pm19 cd19 ct19 : Value}
    {f20 : Addr}
    {od20 an20 : Option Addr}
    {sl20 : Array (Option Value)}
    {oc20 kV20 dc20 pm20 cd20 ct20 : Value}
    {f21 : Addr}
    {od21 an21 : Option Addr}
    {sl21 : Array (Option Value)}
    {oc21 kV21 dc21 pm21 cd21 ct21 : Value}
    {f22 : Addr}
    {od22 an22 : Option Addr}
    {sl22 : Array (Option Value)}
    {oc22 kV22 dc22 pm22 cd22 ct22 : Value}
    {f23 : Addr}
    {od23 an23 : Option Addr}
    {sl23 : Array (Option Value)}
    {oc23 kV23 dc23 pm23 cd23 ct23 : Value}
    {f24 : Addr}
    {od24 an24 : Option Addr}
    {sl24 : Array (Option Value)}
    {oc24 kV24 dc24 pm24 cd24 ct24 : Value}
    {f25 : Addr}
    {od25 an25 : Option Addr}
    {sl25 : Array (Option Value)}
    {oc25 kV25 dc25 pm25 cd25 ct25 : Value}
    {f26 : Addr}
    {od26 an26 : Option Addr}
    {sl26 : Array (Option Value)}
    {oc26 kV26 dc26 pm26 cd26 ct26 : Value}
    {f27 : Addr}
    {od27 an27 : Option Addr}
    {sl27 : Array (Option Value)}
    {oc27 kV27 dc27 pm27 cd27 ct27 : Value}
    {f28 : Addr}
    {od28 an28 : Option Addr}
    {sl28 : Array (Option Value)}
    {oc28 kV28 dc28 pm28 cd28 ct28 : Value}
    {f29 : Addr}
    {od29 an29 : Option Addr}
    {sl29 : Array (Option Value)}
    {oc29 kV29 dc29 pm29 cd29 ct29 : Value}
    {f30 : Addr}
    {od30 an30 : Option Addr}
    {sl30 : Array (Option Value)}
    {oc30 kV30 dc30 pm30 cd30 ct30 : Value}
    {f31 : Addr}
    {od31 an31 : Option Addr}
    {sl31 : Array (Option Value)}
    {oc31 kV31 dc31 pm31 cd31 ct31 : Value}
    {f32 : Addr}
    {od32 an32 : Option Addr}
    {sl32 : Array (Option Value)}
    {oc32 kV32 dc32 pm32 cd32 ct32 : Value}
    {f33 : Addr}
    {od33 an33 : Option Addr}
    {sl33 : Array (Option Value)}
    {oc33 kV33 dc33 pm33 cd33 ct33 : Value}
    {f34 : Addr}
    {od34 an34 : Option Addr}
    {sl34 : Array (Option Value)}
    {oc34 kV34 dc34 pm34 cd34 ct34 : Value}
    {f35 : Addr}
    {od35 an35 : Option Addr}
    {sl35 : Array (Option Value)}
    {oc35 kV35 dc35 pm35 cd35 ct35 : Value}
    {f36 : Addr}
    {od36 an36 : Option Addr}
    {sl36 : Array (Option Value)}
    {oc36 kV36 dc36 pm36 cd36 ct36 : Value}
    {f37 : Addr}
    {od37 an37 : Option Addr}
    {sl37 : Array (Option Value)}
    {oc37 kV37 dc37 pm37 cd37 ct37 : Value}
    {f38 : Addr}
    {od38 an38 : Option Addr}
    {sl38 : Array (Option Value)}
    {oc38 kV38 dc38 pm38 cd38 ct38 : Value}
    {f39 : Addr}
    {od39 an39 : Option Addr}
    {sl39 : Array (Option Value)}
    {oc39 kV39 dc39 pm39 cd39 ct39 : Value}
    {f40 : Addr}
    {od40 an40 : Option Addr}
    {sl40 : Array (Option Value)}
    {oc40 kV40 dc40 pm40 cd40 ct40 : Value}
    {f41 : Addr}
    {od41 an41 : Option Addr}
    {sl41 : Array (Option Value)}
    {oc41 kV41 dc41 pm41 cd41 ct41 : Value}
    {f42 : Addr}
    {od42 an42 : Option Addr}
    {sl42 : Array (Option Value)}
    {oc42 kV42 dc42 pm42 cd42 ct42 : Value}
    {f43 : Addr}
    {od43 an43 : Option Addr}
    {sl43 : Array (Option Value)}
    {oc43 kV43 dc43 pm43 cd43 ct43 : Value}
    (X : K.In h) (G : h.Ns mainGlobals mg) (hfa : mg "law" = some (.ref fa))
    (z_super : PySem.W.nsIn K mainGlobals "super" = some none)
    (z_list : PySem.W.nsIn K mainGlobals "list" = some none)
    (z_len : PySem.W.nsIn K mainGlobals "len" = some none)
    (z_isinstance : PySem.W.nsIn K mainGlobals "isinstance" = some none)
    (z_int : PySem.W.nsIn K mainGlobals "int" = some none)
    (z_range : PySem.W.nsIn K mainGlobals "range" = some none)
    (z_tuple : PySem.W.nsIn K mainGlobals "tuple" = some none)
    (z_enumerate : PySem.W.nsIn K mainGlobals "enumerate" = some none)
    (z_abs : PySem.W.nsIn K mainGlobals "abs" = some none)
    (z_bool : PySem.W.nsIn K mainGlobals "bool" = some none)
    (z_max : PySem.W.nsIn K mainGlobals "max" = some none)
    (aM : PySem.W.nsIn K mainGlobals "BadNumber" = some (some (.ref M)))
    (xM : K.lookup M = some (excClassObj nm0 q0 M N0 bs0 bm0 true sn0 sub0 ab0 col0 dd0 m0_0 m0_1 m0_2 m0_3 m0_5 "ValueError.__new__"))
    (bmM : PySem.HandSPX.refsVE bm0 = true)
    (saM : PySem.W.findIn K (.ref M) "__setattr__" = some (some (.builtin "object.__setattr__")))
    (eM : PySem.W.subIn K (.ref M) (.type "BaseException") = some true)
    (tM : PySem.W.typeIn K (.ref M) = some (.type "type"))
    (kM : PySem.W.keepIn K (.ref M) = true)
    (a0 : PySem.W.findIn K (.ref M) "__init__" = some (some (.ref f0)))
    (t0 : PySem.W.typeIn K (.ref f0) = some (.type "function"))
    (l0 : K.lookup f0 = some ⟨oc0, od0, .func ((supF "BadNumber.__init__" s_BadNumber___init__ cc0 cd0).fd dc0 pm0 ct0), sl0⟩)
    (c0 : PySem.W.codeIn K (.ref cd0) "BadNumber.__init__" = true)
    (lc0 : K.lookup cd0 = some ⟨ccl0, cdd0, .fields vs0, ccs0⟩)
    (v0 : vs0[2]? = some (.str file0 tf0))
    (fil0 : ((PySem.Challenge.pw_waysofmaking_k55_polynomials).main.file == file0) = true)
    (ll0 : K.lookup cc0 = some ⟨clc0, cld0, .cell (some (.ref M)), csl0⟩)
    (sbM : PySem.W.mroIn K M (.ref M) = some true)
    (suM : PySem.W.ks_superIn K M M "__init__" = some (some (.builtin "ValueError.__init__")))
    (svM : PySem.W.subIn K (.ref M) (.type "ValueError") = some true)
    (opM : PySem.W.nsIn K cStatics "thirdparty.any" = some none)
    (teM : PySem.W.exmOne K (.ref M) (.ref M) = some true)
    (nM_n : PySem.W.findIn K (.ref M) "n" = some none)
    (gaM : PySem.W.findIn K (.ref M) "__getattribute__" = some (some (.builtin "BaseException.__getattribute__")))
    (ggM : PySem.W.findIn K (.ref M) "__getattr__" = some none)
    (hdM : PySem.W.hasDictIn K M = true)
    (aR : PySem.W.nsIn K mainGlobals "Ratio" = some (some (.ref R)))
    (kcR : PySem.W.keepIn K (.ref R) = true)
    (mkR : PySem.W.makesIn K R = true)
    (pgR : PySem.W.plainGet K R Str.empty = true)
    (hdR : PySem.W.hasDictIn K R = true)
    (poR : PySem.W.plainOver K R = true)
    (saR : PySem.W.findIn K (.ref R) "__setattr__" = some (some (.builtin "object.__setattr__")))
    (sfR : PySem.W.selfFirst K R = true)
    (caR : PySem.W.findIn K (.ref R) "__class__" = some (some (.builtin "object.__class__")))
    (cnR : PySem.W.specialIn K (.builtin "object.__class__") "__get__" = some (some (.builtin "getset_descriptor.__get__")))
    (ctR : PySem.W.takesIn K (.builtin "object.__class__") = some true)
    (cmR : PySem.W.mroIn K R (.type "object") = some true)
    (nR_top : PySem.W.findIn K (.ref R) "top" = some none)
    (nR_bottom : PySem.W.findIn K (.ref R) "bottom" = some none)
    (nfR : PySem.W.notFirst K R (.ref R) = true)
    (nfI : PySem.W.notFirst K R (.type "int") = true)
    (nfS : PySem.W.notFirst K R (.type "str") = true)
    (ksI : PySem.W.kitOne K (.type "int") (.ref R) = some false)
    (ksS : PySem.W.kitOne K (.type "str") (.ref R) = some false)
    (a1 : PySem.W.nsIn K mainGlobals "common" = some (some (.ref f1)))
    (l1 : K.lookup f1 = some ⟨oc1, od1, .func (PySem.W.fnOf "common" "common" (defArgs s_common) (defBody s_common) (defScope s_common) .none kV1 dc1 pm1 an1 cd1 ct1), sl1⟩)
    (c1 : PySem.W.codeIn K cd1 "common" = true)
    (k1 : PySem.W.keepIn K (.ref f1) = true)
    (a2 : PySem.W.findIn K (.ref R) "__init__" = some (some (.ref f2)))
    (i2 : PySem.W.isFn K (.ref f2) = true)
    (l2 : K.lookup f2 = some ⟨oc2, od2, .func (PySem.W.fnOf "__init__" "Ratio.__init__" (defArgs s_Ratio___init__) (defBody s_Ratio___init__) (defScope s_Ratio___init__) .none kV2 dc2 pm2 an2 cd2 ct2), sl2⟩)
    (c2 : PySem.W.codeIn K cd2 "Ratio.__init__" = true)
    (k2 : PySem.W.keepIn K (.ref f2) = true)
    (a3 : PySem.W.findIn K (.ref R) "__add__" = some (some (.ref f3)))
    (i3 : PySem.W.isFn K (.ref f3) = true)
    (l3 : K.lookup f3 = some ⟨oc3, od3, .func (PySem.W.fnOf "__add__" "Ratio.__add__" (defArgs s_Ratio___add__) (defBody s_Ratio___add__) (defScope s_Ratio___add__) .none kV3 dc3 pm3 an3 cd3 ct3), sl3⟩)
    (c3 : PySem.W.codeIn K cd3 "Ratio.__add__" = true)
    (k3 : PySem.W.keepIn K (.ref f3) = true)
    (a4 : PySem.W.findIn K (.ref R) "__sub__" = some (some (.ref f4)))
    (i4 : PySem.W.isFn K (.ref f4) = true)
    (l4 : K.lookup f4 = some ⟨oc4, od4, .func (PySem.W.fnOf "__sub__" "Ratio.__sub__" (defArgs s_Ratio___sub__) (defBody s_Ratio___sub__) (defScope s_Ratio___sub__) .none kV4 dc4 pm4 an4 cd4 ct4), sl4⟩)
    (c4 : PySem.W.codeIn K cd4 "Ratio.__sub__" = true)
    (k4 : PySem.W.keepIn K (.ref f4) = true)
    (a5 : PySem.W.findIn K (.ref R) "__mul__" = some (some (.ref f5)))
    (i5 : PySem.W.isFn K (.ref f5) = true)
    (l5 : K.lookup f5 = some ⟨oc5, od5, .func (PySem.W.fnOf "__mul__" "Ratio.__mul__" (defArgs s_Ratio___mul__) (defBody s_Ratio___mul__) (defScope s_Ratio___mul__) .none kV5 dc5 pm5 an5 cd5 ct5), sl5⟩)
    (c5 : PySem.W.codeIn K cd5 "Ratio.__mul__" = true)
    (k5 : PySem.W.keepIn K (.ref f5) = true)
    (a6 : PySem.W.findIn K (.ref R) "__neg__" = some (some (.ref f6)))
    (i6 : PySem.W.isFn K (.ref f6) = true)
    (l6 : K.lookup f6 = some ⟨oc6, od6, .func (PySem.W.fnOf "__neg__" "Ratio.__neg__" (defArgs s_Ratio___neg__) (defBody s_Ratio___neg__) (defScope s_Ratio___neg__) .none kV6 dc6 pm6 an6 cd6 ct6), sl6⟩)
    (c6 : PySem.W.codeIn K cd6 "Ratio.__neg__" = true)
    (k6 : PySem.W.keepIn K (.ref f6) = true)
    (a7 : PySem.W.findIn K (.ref R) "__eq__" = some (some (.ref f7)))
    (i7 : PySem.W.isFn K (.ref f7) = true)
    (l7 : K.lookup f7 = some ⟨oc7, od7, .func (PySem.W.fnOf "__eq__" "Ratio.__eq__" (defArgs s_Ratio___eq__) (defBody s_Ratio___eq__) (defScope s_Ratio___eq__) .none kV7 dc7 pm7 an7 cd7 ct7), sl7⟩)
    (c7 : PySem.W.codeIn K cd7 "Ratio.__eq__" = true)
    (k7 : PySem.W.keepIn K (.ref f7) = true)
    (a8 : PySem.W.findIn K (.ref R) "__bool__" = some (some (.ref f8)))
    (i8 : PySem.W.isFn K (.ref f8) = true)
    (l8 : K.lookup f8 = some ⟨oc8, od8, .func (PySem.W.fnOf "__bool__" "Ratio.__bool__" (defArgs s_Ratio___bool__) (defBody s_Ratio___bool__) (defScope s_Ratio___bool__) .none kV8 dc8 pm8 an8 cd8 ct8), sl8⟩)
    (c8 : PySem.W.codeIn K cd8 "Ratio.__bool__" = true)
    (k8 : PySem.W.keepIn K (.ref f8) = true)
    (a9 : PySem.W.findIn K (.ref R) "quotient" = some (some (.ref f9)))
    (i9 : PySem.W.isFn K (.ref f9) = true)
    (l9 : K.lookup f9 = some ⟨oc9, od9, .func (PySem.W.fnOf "quotient" "Ratio.quotient" (defArgs s_Ratio_quotient) (defBody s_Ratio_quotient) (defScope s_Ratio_quotient) .none kV9 dc9 pm9 an9 cd9 ct9), sl9⟩)
    (c9 : PySem.W.codeIn K cd9 "Ratio.quotient" = true)
    (k9 : PySem.W.keepIn K (.ref f9) = true)
    (ty10 : PySem.W.typeIn K (.ref R) = some mc10)
    (rd10 : PySem.W.readsIn K R mc10 = true)
    (ga10 : PySem.W.specialIn K (.ref R) "__getattribute__" = some (some (.builtin "type.__getattribute__")))
    (a10 : PySem.W.findCls K (.ref R) mc10 "whole" = some (.get (.builtin "classmethod.__get__") (.ref pc10) .none (.ref R)))
    (rc10 : PySem.W.recIn K pc10 "classmethod" = some (.ref f10 :: rest10))
    (fi10 : PySem.W.fnIn K f10 = true)
    (l10 : K.lookup f10 = some ⟨oc10, od10, .func (PySem.W.fnOf "whole" "Ratio.whole" (defArgs s_Ratio_whole) (defBody s_Ratio_whole) (defScope s_Ratio_whole) .none kV10 dc10 pm10 an10 cd10 ct10), sl10⟩)
    (c10 : PySem.W.codeIn K cd10 "Ratio.whole" = true)
    (k10 : PySem.W.keepIn K (.ref f10) = true)
    (a11 : PySem.W.nsIn K mainGlobals "total" = some (some (.ref f11)))
    (l11 : K.lookup f11 = some ⟨oc11, od11, .func (PySem.W.fnOf "total" "total" (defArgs s_total) (defBody s_total) (defScope s_total) .none kV11 dc11 pm11 an11 cd11 ct11), sl11⟩)
    (c11 : PySem.W.codeIn K cd11 "total" = true)
    (k11 : PySem.W.keepIn K (.ref f11) = true)
    (aPo : PySem.W.nsIn K mainGlobals "Poly" = some (some (.ref Po)))
    (kcPo : PySem.W.keepIn K (.ref Po) = true)
    (mkPo : PySem.W.makesIn K Po = true)
    (pgPo : PySem.W.plainGet K Po Str.empty = true)
    (hdPo : PySem.W.hasDictIn K Po = true)
    (poPo : PySem.W.plainOver K Po = true)
    (saPo : PySem.W.findIn K (.ref Po) "__setattr__" = some (some (.builtin "object.__setattr__")))
    (sfPo : PySem.W.selfFirst K Po = true)
    (caPo : PySem.W.findIn K (.ref Po) "__class__" = some (some (.builtin "object.__class__")))
    (cnPo : PySem.W.specialIn K (.builtin "object.__class__") "__get__" = some (some (.builtin "getset_descriptor.__get__")))
    (ctPo : PySem.W.takesIn K (.builtin "object.__class__") = some true)
    (cmPo : PySem.W.mroIn K Po (.type "object") = some true)
    (nPo_parts : PySem.W.findIn K (.ref Po) "parts" = some none)
    (nfPo : PySem.W.notFirst K Po (.ref Po) = true)
    (nPoL : PySem.W.notFirst K Po (.type "list") = true)
    (nePo : PySem.W.findIn K (.ref Po) "__ne__" = some (some (.builtin "object.__ne__")))
    (kIPo : PySem.W.kitOne K (.type "int") (.ref Po) = some false)
    (kLPo : PySem.W.kitOne K (.type "list") (.ref Po) = some false)
    (a12 : PySem.W.nsIn K mainGlobals "trimmed" = some (some (.ref f12)))
    (l12 : K.lookup f12 = some ⟨oc12, od12, .func (PySem.W.fnOf "trimmed" "trimmed" (defArgs s_trimmed) (defBody s_trimmed) (defScope s_trimmed) .none kV12 dc12 pm12 an12 cd12 ct12), sl12⟩)
    (c12 : PySem.W.codeIn K cd12 "trimmed" = true)
    (k12 : PySem.W.keepIn K (.ref f12) = true)
    (a13 : PySem.W.findIn K (.ref Po) "__init__" = some (some (.ref f13)))
    (i13 : PySem.W.isFn K (.ref f13) = true)
    (l13 : K.lookup f13 = some ⟨oc13, od13, .func (PySem.W.fnOf "__init__" "Poly.__init__" (defArgs s_Poly___init__) (defBody s_Poly___init__) (defScope s_Poly___init__) .none kV13 dc13 pm13 an13 cd13 ct13), sl13⟩)
    (c13 : PySem.W.codeIn K cd13 "Poly.__init__" = true)
    (k13 : PySem.W.keepIn K (.ref f13) = true)
    (ty14 : PySem.W.typeIn K (.ref Po) = some mc14)
    (rd14 : PySem.W.readsIn K Po mc14 = true)
    (ga14 : PySem.W.specialIn K (.ref Po) "__getattribute__" = some (some (.builtin "type.__getattribute__")))
    (a14 : PySem.W.findCls K (.ref Po) mc14 "whole" = some (.get (.builtin "classmethod.__get__") (.ref pc14) .none (.ref Po)))
    (rc14 : PySem.W.recIn K pc14 "classmethod" = some (.ref f14 :: rest14))
    (fi14 : PySem.W.fnIn K f14 = true)
    (l14 : K.lookup f14 = some ⟨oc14, od14, .func (PySem.W.fnOf "whole" "Poly.whole" (defArgs s_Poly_whole) (defBody s_Poly_whole) (defScope s_Poly_whole) .none kV14 dc14 pm14 an14 cd14 ct14), sl14⟩)
    (c14 : PySem.W.codeIn K cd14 "Poly.whole" = true)
    (k14 : PySem.W.keepIn K (.ref f14) = true)
    (a15 : PySem.W.findIn K (.ref Po) "__eq__" = some (some (.ref f15)))
    (i15 : PySem.W.isFn K (.ref f15) = true)
    (l15 : K.lookup f15 = some ⟨oc15, od15, .func (PySem.W.fnOf "__eq__" "Poly.__eq__" (defArgs s_Poly___eq__) (defBody s_Poly___eq__) (defScope s_Poly___eq__) .none kV15 dc15 pm15 an15 cd15 ct15), sl15⟩)
    (c15 : PySem.W.codeIn K cd15 "Poly.__eq__" = true)
    (k15 : PySem.W.keepIn K (.ref f15) = true)
    (a16 : PySem.W.nsIn K mainGlobals "part_of" = some (some (.ref f16)))
    (l16 : K.lookup f16 = some ⟨oc16, od16, .func (PySem.W.fnOf "part_of" "part_of" (defArgs s_part_of) (defBody s_part_of) (defScope s_part_of) .none kV16 dc16 pm16 an16 cd16 ct16), sl16⟩)
    (c16 : PySem.W.codeIn K cd16 "part_of" = true)
    (k16 : PySem.W.keepIn K (.ref f16) = true)
    (a17 : PySem.W.nsIn K mainGlobals "product_part" = some (some (.ref f17)))
    (l17 : K.lookup f17 = some ⟨oc17, od17, .func (PySem.W.fnOf "product_part" "product_part" (defArgs s_product_part) (defBody s_product_part) (defScope s_product_part) .none kV17 dc17 pm17 an17 cd17 ct17), sl17⟩)
    (c17 : PySem.W.codeIn K cd17 "product_part" = true)
    (k17 : PySem.W.keepIn K (.ref f17) = true)
    (a18 : PySem.W.findIn K (.ref Po) "__add__" = some (some (.ref f18)))
    (i18 : PySem.W.isFn K (.ref f18) = true)
    (l18 : K.lookup f18 = some ⟨oc18, od18, .func (PySem.W.fnOf "__add__" "Poly.__add__" (defArgs s_Poly___add__) (defBody s_Poly___add__) (defScope s_Poly___add__) .none kV18 dc18 pm18 an18 cd18 ct18), sl18⟩)
    (c18 : PySem.W.codeIn K cd18 "Poly.__add__" = true)
    (k18 : PySem.W.keepIn K (.ref f18) = true)
    (a19 : PySem.W.findIn K (.ref Po) "__sub__" = some (some (.ref f19)))
    (i19 : PySem.W.isFn K (.ref f19) = true)
    (l19 : K.lookup f19 = some ⟨oc19, od19, .func (PySem.W.fnOf "__sub__" "Poly.__sub__" (defArgs s_Poly___sub__) (defBody s_Poly___sub__) (defScope s_Poly___sub__) .none kV19 dc19 pm19 an19 cd19 ct19), sl19⟩)
    (c19 : PySem.W.codeIn K cd19 "Poly.__sub__" = true)
    (k19 : PySem.W.keepIn K (.ref f19) = true)
    (a20 : PySem.W.findIn K (.ref Po) "__mul__" = some (some (.ref f20)))
    (i20 : PySem.W.isFn K (.ref f20) = true)
    (l20 : K.lookup f20 = some ⟨oc20, od20, .func (PySem.W.fnOf "__mul__" "Poly.__mul__" (defArgs s_Poly___mul__) (defBody s_Poly___mul__) (defScope s_Poly___mul__) .none kV20 dc20 pm20 an20 cd20 ct20), sl20⟩)
    (c20 : PySem.W.codeIn K cd20 "Poly.__mul__" = true)
    (k20 : PySem.W.keepIn K (.ref f20) = true)
    (a21 : PySem.W.findIn K (.ref Po) "__neg__" = some (some (.ref f21)))
    (i21 : PySem.W.isFn K (.ref f21) = true)
    (l21 : K.lookup f21 = some ⟨oc21, od21, .func (PySem.W.fnOf "__neg__" "Poly.__neg__" (defArgs s_Poly___neg__) (defBody s_Poly___neg__) (defScope s_Poly___neg__) .none kV21 dc21 pm21 an21 cd21 ct21), sl21⟩)
    (c21 : PySem.W.codeIn K cd21 "Poly.__neg__" = true)
    (k21 : PySem.W.keepIn K (.ref f21) = true)
    (a22 : PySem.W.findIn K (.ref Po) "__bool__" = some (some (.ref f22)))
    (i22 : PySem.W.isFn K (.ref f22) = true)
    (l22 : K.lookup f22 = some ⟨oc22, od22, .func (PySem.W.fnOf "__bool__" "Poly.__bool__" (defArgs s_Poly___bool__) (defBody s_Poly___bool__) (defScope s_Poly___bool__) .none kV22 dc22 pm22 an22 cd22 ct22), sl22⟩)
    (c22 : PySem.W.codeIn K cd22 "Poly.__bool__" = true)
    (k22 : PySem.W.keepIn K (.ref f22) = true)
    (a23 : PySem.W.findIn K (.ref Po) "degree" = some (some (.ref f23)))
    (i23 : PySem.W.isFn K (.ref f23) = true)
    (l23 : K.lookup f23 = some ⟨oc23, od23, .func (PySem.W.fnOf "degree" "Poly.degree" (defArgs s_Poly_degree) (defBody s_Poly_degree) (defScope s_Poly_degree) .none kV23 dc23 pm23 an23 cd23 ct23), sl23⟩)
    (c23 : PySem.W.codeIn K cd23 "Poly.degree" = true)
    (k23 : PySem.W.keepIn K (.ref f23) = true)
    (a24 : PySem.W.findIn K (.ref Po) "coefficients" = some (some (.ref f24)))
    (i24 : PySem.W.isFn K (.ref f24) = true)
    (l24 : K.lookup f24 = some ⟨oc24, od24, .func (PySem.W.fnOf "coefficients" "Poly.coefficients" (defArgs s_Poly_coefficients) (defBody s_Poly_coefficients) (defScope s_Poly_coefficients) .none kV24 dc24 pm24 an24 cd24 ct24), sl24⟩)
    (c24 : PySem.W.codeIn K cd24 "Poly.coefficients" = true)
    (k24 : PySem.W.keepIn K (.ref f24) = true)
    (a25 : PySem.W.findIn K (.ref Po) "value" = some (some (.ref f25)))
    (i25 : PySem.W.isFn K (.ref f25) = true)
    (l25 : K.lookup f25 = some ⟨oc25, od25, .func (PySem.W.fnOf "value" "Poly.value" (defArgs s_Poly_value) (defBody s_Poly_value) (defScope s_Poly_value) .none kV25 dc25 pm25 an25 cd25 ct25), sl25⟩)
    (c25 : PySem.W.codeIn K cd25 "Poly.value" = true)
    (k25 : PySem.W.keepIn K (.ref f25) = true)
    (a26 : PySem.W.findIn K (.ref Po) "slope" = some (some (.ref f26)))
    (i26 : PySem.W.isFn K (.ref f26) = true)
    (l26 : K.lookup f26 = some ⟨oc26, od26, .func (PySem.W.fnOf "slope" "Poly.slope" (defArgs s_Poly_slope) (defBody s_Poly_slope) (defScope s_Poly_slope) .none kV26 dc26 pm26 an26 cd26 ct26), sl26⟩)
    (c26 : PySem.W.codeIn K cd26 "Poly.slope" = true)
    (k26 : PySem.W.keepIn K (.ref f26) = true)
    (a27 : PySem.W.nsIn K mainGlobals "divided" = some (some (.ref f27)))
    (l27 : K.lookup f27 = some ⟨oc27, od27, .func (PySem.W.fnOf "divided" "divided" (defArgs s_divided) (defBody s_divided) (defScope s_divided) .none kV27 dc27 pm27 an27 cd27 ct27), sl27⟩)
    (c27 : PySem.W.codeIn K cd27 "divided" = true)
    (k27 : PySem.W.keepIn K (.ref f27) = true)
    (a28 : PySem.W.nsIn K mainGlobals "common_divisor" = some (some (.ref f28)))
    (l28 : K.lookup f28 = some ⟨oc28, od28, .func (PySem.W.fnOf "common_divisor" "common_divisor" (defArgs s_common_divisor) (defBody s_common_divisor) (defScope s_common_divisor) .none kV28 dc28 pm28 an28 cd28 ct28), sl28⟩)
    (c28 : PySem.W.codeIn K cd28 "common_divisor" = true)
    (k28 : PySem.W.keepIn K (.ref f28) = true)
    (a29 : PySem.W.nsIn K mainGlobals "_law_cell" = some (some (.ref f29)))
    (l29 : K.lookup f29 = some ⟨oc29, od29, .func (PySem.W.fnOf "_law_cell" "_law_cell" (defArgs s__law_cell) (defBody s__law_cell) (defScope s__law_cell) .none kV29 dc29 pm29 an29 cd29 ct29), sl29⟩)
    (c29 : PySem.W.codeIn K cd29 "_law_cell" = true)
    (k29 : PySem.W.keepIn K (.ref f29) = true)
    (a30 : PySem.W.nsIn K mainGlobals "_law_pool" = some (some (.ref f30)))
    (l30 : K.lookup f30 = some ⟨oc30, od30, .func (PySem.W.fnOf "_law_pool" "_law_pool" (defArgs s__law_pool) (defBody s__law_pool) (defScope s__law_pool) .none kV30 dc30 pm30 an30 cd30 ct30), sl30⟩)
    (c30 : PySem.W.codeIn K cd30 "_law_pool" = true)
    (k30 : PySem.W.keepIn K (.ref f30) = true)
    (a31 : PySem.W.nsIn K mainGlobals "_law_take" = some (some (.ref f31)))
    (l31 : K.lookup f31 = some ⟨oc31, od31, .func (PySem.W.fnOf "_law_take" "_law_take" (defArgs s__law_take) (defBody s__law_take) (defScope s__law_take) .none kV31 dc31 pm31 an31 cd31 ct31), sl31⟩)
    (c31 : PySem.W.codeIn K cd31 "_law_take" = true)
    (k31 : PySem.W.keepIn K (.ref f31) = true)
    (a32 : PySem.W.nsIn K mainGlobals "_law_shuffled" = some (some (.ref f32)))
    (l32 : K.lookup f32 = some ⟨oc32, od32, .func (PySem.W.fnOf "_law_shuffled" "_law_shuffled" (defArgs s__law_shuffled) (defBody s__law_shuffled) (defScope s__law_shuffled) .none kV32 dc32 pm32 an32 cd32 ct32), sl32⟩)
    (c32 : PySem.W.codeIn K cd32 "_law_shuffled" = true)
    (k32 : PySem.W.keepIn K (.ref f32) = true)
    (a33 : PySem.W.nsIn K mainGlobals "_law_row" = some (some (.ref f33)))
    (l33 : K.lookup f33 = some ⟨oc33, od33, .func (PySem.W.fnOf "_law_row" "_law_row" (defArgs s__law_row) (defBody s__law_row) (defScope s__law_row) .none kV33 dc33 pm33 an33 cd33 ct33), sl33⟩)
    (c33 : PySem.W.codeIn K cd33 "_law_row" = true)
    (k33 : PySem.W.keepIn K (.ref f33) = true)
    (a34 : PySem.W.nsIn K mainGlobals "_law_cut" = some (some (.ref f34)))
    (l34 : K.lookup f34 = some ⟨oc34, od34, .func (PySem.W.fnOf "_law_cut" "_law_cut" (defArgs s__law_cut) (defBody s__law_cut) (defScope s__law_cut) .none kV34 dc34 pm34 an34 cd34 ct34), sl34⟩)
    (c34 : PySem.W.codeIn K cd34 "_law_cut" = true)
    (k34 : PySem.W.keepIn K (.ref f34) = true)
    (a35 : PySem.W.nsIn K mainGlobals "_law_at_place" = some (some (.ref f35)))
    (l35 : K.lookup f35 = some ⟨oc35, od35, .func (PySem.W.fnOf "_law_at_place" "_law_at_place" (defArgs s__law_at_place) (defBody s__law_at_place) (defScope s__law_at_place) .none kV35 dc35 pm35 an35 cd35 ct35), sl35⟩)
    (c35 : PySem.W.codeIn K cd35 "_law_at_place" = true)
    (k35 : PySem.W.keepIn K (.ref f35) = true)
    (a36 : PySem.W.nsIn K mainGlobals "_law_sum" = some (some (.ref f36)))
    (l36 : K.lookup f36 = some ⟨oc36, od36, .func (PySem.W.fnOf "_law_sum" "_law_sum" (defArgs s__law_sum) (defBody s__law_sum) (defScope s__law_sum) .none kV36 dc36 pm36 an36 cd36 ct36), sl36⟩)
    (c36 : PySem.W.codeIn K cd36 "_law_sum" = true)
    (k36 : PySem.W.keepIn K (.ref f36) = true)
    (a37 : PySem.W.nsIn K mainGlobals "_law_times" = some (some (.ref f37)))
    (l37 : K.lookup f37 = some ⟨oc37, od37, .func (PySem.W.fnOf "_law_times" "_law_times" (defArgs s__law_times) (defBody s__law_times) (defScope s__law_times) .none kV37 dc37 pm37 an37 cd37 ct37), sl37⟩)
    (c37 : PySem.W.codeIn K cd37 "_law_times" = true)
    (k37 : PySem.W.keepIn K (.ref f37) = true)
    (a38 : PySem.W.nsIn K mainGlobals "_law_value" = some (some (.ref f38)))
    (l38 : K.lookup f38 = some ⟨oc38, od38, .func (PySem.W.fnOf "_law_value" "_law_value" (defArgs s__law_value) (defBody s__law_value) (defScope s__law_value) .none kV38 dc38 pm38 an38 cd38 ct38), sl38⟩)
    (c38 : PySem.W.codeIn K cd38 "_law_value" = true)
    (k38 : PySem.W.keepIn K (.ref f38) = true)
    (a39 : PySem.W.nsIn K mainGlobals "_law_rest" = some (some (.ref f39)))
    (l39 : K.lookup f39 = some ⟨oc39, od39, .func (PySem.W.fnOf "_law_rest" "_law_rest" (defArgs s__law_rest) (defBody s__law_rest) (defScope s__law_rest) .none kV39 dc39 pm39 an39 cd39 ct39), sl39⟩)
    (c39 : PySem.W.codeIn K cd39 "_law_rest" = true)
    (k39 : PySem.W.keepIn K (.ref f39) = true)
    (a40 : PySem.W.nsIn K mainGlobals "_law_divisor" = some (some (.ref f40)))
    (l40 : K.lookup f40 = some ⟨oc40, od40, .func (PySem.W.fnOf "_law_divisor" "_law_divisor" (defArgs s__law_divisor) (defBody s__law_divisor) (defScope s__law_divisor) .none kV40 dc40 pm40 an40 cd40 ct40), sl40⟩)
    (c40 : PySem.W.codeIn K cd40 "_law_divisor" = true)
    (k40 : PySem.W.keepIn K (.ref f40) = true)
    (a41 : PySem.W.nsIn K mainGlobals "_law_divided" = some (some (.ref f41)))
    (l41 : K.lookup f41 = some ⟨oc41, od41, .func (PySem.W.fnOf "_law_divided" "_law_divided" (defArgs s__law_divided) (defBody s__law_divided) (defScope s__law_divided) .none kV41 dc41 pm41 an41 cd41 ct41), sl41⟩)
    (c41 : PySem.W.codeIn K cd41 "_law_divided" = true)
    (k41 : PySem.W.keepIn K (.ref f41) = true)
    (a42 : PySem.W.nsIn K mainGlobals "_law_look" = some (some (.ref f42)))
    (l42 : K.lookup f42 = some ⟨oc42, od42, .func (PySem.W.fnOf "_law_look" "_law_look" (defArgs s__law_look) (defBody s__law_look) (defScope s__law_look) .none kV42 dc42 pm42 an42 cd42 ct42), sl42⟩)
    (c42 : PySem.W.codeIn K cd42 "_law_look" = true)
    (k42 : PySem.W.keepIn K (.ref f42) = true)
    (a43 : PySem.W.nsIn K mainGlobals "law" = some (some (.ref f43)))
    (l43 : K.lookup f43 = some ⟨oc43, od43, .func (PySem.W.fnOf "law" "law" (defArgs s_law) (defBody s_law) (defScope s_law) .none kV43 dc43 pm43 an43 cd43 ct43), sl43⟩)
    (c43 : PySem.W.codeIn K cd43 "law" = true)
    (k43 : PySem.W.keepIn K (.ref f43) = true) :
    ∃ fd : FuncData, (∀ (s : Shared) (v : Value), BindsTo s fd ⟨[v], []⟩ [("_law_script", v)]) ∧ ∀ base : Heap, K.In base → base.Ns mainGlobals mg → base.NoSeer → FnOk PySem.Challenge.pw_waysofmaking_k55_polynomials w K mg base (L2.CX PySem.Challenge.pw_waysofmaking_k55_polynomials w) 45 fa fd P_law (spM (pLaw K)) := by
  have e := hfa.symm.trans (PySem.W.mg_of X G a43)
  cases e
  refine ⟨PySem.W.fnOf "law" "law" (defArgs s_law) (defBody s_law) (defScope s_law) .none kV43 dc43 pm43 an43 cd43 ct43, fun s v => .of_eq rfl, fun base _ _ NS => ?_⟩
  have htop : ((PySem.Challenge.pw_waysofmaking_k55_polynomials).main.scope.names.lookup ("super" : Str)).isSome = false := by decide +kernel
  have xfM : XfC K M := ⟨gaM, ggM, eM, hdM⟩
  have scM : SupC PySem.Challenge.pw_waysofmaking_k55_polynomials K mg "BadNumber" "BadNumber.__init__" s_BadNumber___init__ M f0 cc0 cd0 := ⟨⟨⟨_, _, _, _, _, _, _, _, _, _, _, _, _, _, _, xM, bmM⟩, saM, eM, tM, kM⟩, PySem.W.mg_of X G aM, a0, t0, ⟨_, _, _, _, _, _, l0⟩, c0, ⟨_, _, _, _, _, _, lc0, v0, fil0⟩, ⟨_, _, _, ll0⟩, sbM, PySem.W.mg_none_of X G z_super, suM, svM, opM, htop, teM⟩
  have T_BadNumber : Ke PySem.Challenge.pw_waysofmaking_k55_polynomials w K mg base M "BadNumber" "n" 1 prInt := kE_BadNumber scM nM_n
  have clR : Cls K R := ⟨pgR, hdR, poR, saR⟩
  have cxR : ClsX K R := ⟨clR, sfR, caR, cnR, ctR, cmR⟩
  have QX : RatX K mg R := ⟨cxR, nR_top, nR_bottom, PySem.W.mg_of X G aR, nfR, nfI, nfS, ksI, ksS, PySem.W.mg_none_of X G z_isinstance, PySem.W.mg_none_of X G z_bool, PySem.W.mg_none_of X G z_len⟩
  have F1 := fun_mk (st := s_common) l1 c1 k1
  have b1 := F1.binds (ps := P_common) fun _ _ _ _ _ _ us hl => match us, hl with | [_, _], _ => rfl
  have T_common : Kf1 PySem.Challenge.pw_waysofmaking_k55_polynomials w K mg base "common" 1 pCommon := ⟨f1, _, P_common, PySem.W.mg_of X G a1, k1, b1, kf_common F1 (PySem.W.mg_none_of X G z_abs)⟩
  have F2 := fun_mk (st := s_Ratio___init__) l2 c2 k2
  have b2 := F2.binds (ps := P_Ratio___init__) fun _ _ _ _ _ _ us hl => match us, hl with | [_, _, _], _ => rfl
  have T_Ratio : Kc PySem.Challenge.pw_waysofmaking_k55_polynomials w K mg base R "Ratio" 35 (pInitW R M) := ⟨f2, _, P_Ratio___init__, PySem.W.mg_of X G aR, ⟨mkR, a2, i2, kcR⟩, b2, kf_initW F2 QX NS rfl T_common T_BadNumber⟩
  have F3 := fun_mk (st := s_Ratio___add__) l3 c3 k3
  have b3 := F3.binds (ps := P_Ratio___add__) fun _ _ _ _ _ _ us hl => match us, hl with | [_, _], _ => rfl
  have T_Ratio___add__ : Ko PySem.Challenge.pw_waysofmaking_k55_polynomials w K mg base R "__add__" 37 (pAddW R) := ⟨f3, _, P_Ratio___add__, ⟨a3, i3⟩, b3, kf_addW F3 QX T_Ratio⟩
  have F4 := fun_mk (st := s_Ratio___sub__) l4 c4 k4
  have b4 := F4.binds (ps := P_Ratio___sub__) fun _ _ _ _ _ _ us hl => match us, hl with | [_, _], _ => rfl
  have T_Ratio___sub__ : Ko PySem.Challenge.pw_waysofmaking_k55_polynomials w K mg base R "__sub__" 37 (pSubW R) := ⟨f4, _, P_Ratio___sub__, ⟨a4, i4⟩, b4, kf_subW F4 QX T_Ratio⟩
  have F5 := fun_mk (st := s_Ratio___mul__) l5 c5 k5
  have b5 := F5.binds (ps := P_Ratio___mul__) fun _ _ _ _ _ _ us hl => match us, hl with | [_, _], _ => rfl
  have T_Ratio___mul__ : Ko PySem.Challenge.pw_waysofmaking_k55_polynomials w K mg base R "__mul__" 37 (pMulW R) := ⟨f5, _, P_Ratio___mul__, ⟨a5, i5⟩, b5, kf_mulW F5 QX T_Ratio⟩
  have F6 := fun_mk (st := s_Ratio___neg__) l6 c6 k6
  have b6 := F6.binds (ps := P_Ratio___neg__) fun _ _ _ _ _ _ us hl => match us, hl with | [_], _ => rfl
  have T_Ratio___neg__ : Ko PySem.Challenge.pw_waysofmaking_k55_polynomials w K mg base R "__neg__" 37 (pNegW R) := ⟨f6, _, P_Ratio___neg__, ⟨a6, i6⟩, b6, kf_negW F6 QX T_Ratio⟩
  have F7 := fun_mk (st := s_Ratio___eq__) l7 c7 k7
  have b7 := F7.binds (ps := P_Ratio___eq__) fun _ _ _ _ _ _ us hl => match us, hl with | [_, _], _ => rfl
  have T_Ratio___eq__ : Ko PySem.Challenge.pw_waysofmaking_k55_polynomials w K mg base R "__eq__" 5 (pEq R) := ⟨f7, _, P_Ratio___eq__, ⟨a7, i7⟩, b7, kf_eq F7 QX⟩
  have F8 := fun_mk (st := s_Ratio___bool__) l8 c8 k8
  have b8 := F8.binds (ps := P_Ratio___bool__) fun _ _ _ _ _ _ us hl => match us, hl with | [_], _ => rfl
  have T_Ratio___bool__ : Ko PySem.Challenge.pw_waysofmaking_k55_polynomials w K mg base R "__bool__" 5 (pBool R) := ⟨f8, _, P_Ratio___bool__, ⟨a8, i8⟩, b8, kf_bool F8 QX⟩
  have F9 := fun_mk (st := s_Ratio_quotient) l9 c9 k9
  have b9 := F9.binds (ps := P_Ratio_quotient) fun _ _ _ _ _ _ us hl => match us, hl with | [_, _], _ => rfl
  have T_Ratio_quotient : Km PySem.Challenge.pw_waysofmaking_k55_polynomials w K mg base R "quotient" 37 (pQuoW R M) := ⟨f9, _, P_Ratio_quotient, ⟨a9, i9, k9⟩, b9, kf_quoW F9 QX T_Ratio⟩
  have F10 := fun_mk (st := s_Ratio_whole) l10 c10 k10
  have b10 := F10.binds (ps := P_Ratio_whole) fun _ _ _ _ _ _ us hl => match us, hl with | [_, _], _ => rfl
  have T_Ratio_whole : Kcm PySem.Challenge.pw_waysofmaking_k55_polynomials w K mg base R "whole" 37 (pWhole R) := ⟨f10, _, P_Ratio_whole, mc10, pc10, ⟨rd10, ga10⟩, ⟨a10, ⟨_, rc10⟩, fi10⟩, b10, kf_wholeW F10 QX T_Ratio⟩
  have F11 := fun_mk (st := s_total) l11 c11 k11
  have b11 := F11.binds (ps := P_total) fun _ _ _ _ _ _ us hl => match us, hl with | [_], _ => rfl
  have T_total : Kf1 PySem.Challenge.pw_waysofmaking_k55_polynomials w K mg base "total" 39 (pTotalW R) := ⟨f11, _, P_total, PySem.W.mg_of X G a11, k11, b11, kf_totalW F11 QX T_Ratio_whole T_Ratio___add__⟩
  have clPo : Cls K Po := ⟨pgPo, hdPo, poPo, saPo⟩
  have cxPo : ClsX K Po := ⟨clPo, sfPo, caPo, cnPo, ctPo, cmPo⟩
  have PX : PolyX K mg Po := ⟨cxPo, nPo_parts, PySem.W.mg_of X G aPo, nfPo⟩
  have NEP : NeM K Po := ⟨nePo, cmPo⟩
  have F12 := fun_mk (st := s_trimmed) l12 c12 k12
  have b12 := F12.binds (ps := P_trimmed) fun _ _ _ _ _ _ us hl => match us, hl with | [_], _ => rfl
  have T_trimmed : Kf1 PySem.Challenge.pw_waysofmaking_k55_polynomials w K mg base "trimmed" 6 (pTrim R) := ⟨f12, _, P_trimmed, PySem.W.mg_of X G a12, k12, b12, kf_trim F12 QX T_Ratio___bool__ (PySem.W.mg_none_of X G z_list) (PySem.W.mg_none_of X G z_tuple)⟩
  have F13 := fun_mk (st := s_Poly___init__) l13 c13 k13
  have b13 := F13.binds (ps := P_Poly___init__) fun _ _ _ _ _ _ us hl => match us, hl with | [_, _], _ => rfl
  have T_Poly : Kc PySem.Challenge.pw_waysofmaking_k55_polynomials w K mg base Po "Poly" 7 (pPInit Po R) := ⟨f13, _, P_Poly___init__, PySem.W.mg_of X G aPo, ⟨mkPo, a13, i13, kcPo⟩, b13, kf_pinit F13 PX T_trimmed⟩
  have F14 := fun_mk (st := s_Poly_whole) l14 c14 k14
  have T_Poly_whole : Kcs PySem.Challenge.pw_waysofmaking_k55_polynomials w K mg base Po "whole" 38 (pWholeP Po R) := ⟨f14, mc14, pc14, ⟨rd14, ga14⟩, ⟨a14, ⟨_, rc14⟩, fi14⟩, kf_pwhole F14 PX QX T_Ratio_whole T_Poly⟩
  have F15 := fun_mk (st := s_Poly___eq__) l15 c15 k15
  have b15 := F15.binds (ps := P_Poly___eq__) fun _ _ _ _ _ _ us hl => match us, hl with | [_, _], _ => rfl
  have T_Poly___eq__ : Ko PySem.Challenge.pw_waysofmaking_k55_polynomials w K mg base Po "__eq__" 7 (pPEq Po R) := ⟨f15, _, P_Poly___eq__, ⟨a15, i15⟩, b15, kf_peq F15 PX T_Ratio___eq__ nfR (PySem.W.mg_none_of X G z_isinstance) kIPo kLPo⟩
  have ZX : PwX PySem.Challenge.pw_waysofmaking_k55_polynomials w K mg base Po R M := ⟨QX, PX, T_Ratio, T_Ratio_whole, T_Ratio___add__, T_Ratio___sub__, T_Ratio___mul__, T_Ratio___neg__, T_Ratio_quotient, T_Ratio___eq__, T_Ratio___bool__, T_total, T_Poly, PySem.W.mg_none_of X G z_len, PySem.W.mg_none_of X G z_max, PySem.W.mg_none_of X G z_range, PySem.W.mg_none_of X G z_enumerate, PySem.W.mg_none_of X G z_list, PySem.W.mg_none_of X G z_bool⟩
  have F16 := fun_mk (st := s_part_of) l16 c16 k16
  have b16 := F16.binds (ps := P_part_of) fun _ _ _ _ _ _ us hl => match us, hl with | [_, _], _ => rfl
  have T_part_of : Kf1 PySem.Challenge.pw_waysofmaking_k55_polynomials w K mg base "part_of" 38 (pPart R) := ⟨f16, _, P_part_of, PySem.W.mg_of X G a16, k16, b16, kf_part F16 ZX⟩
  have F17 := fun_mk (st := s_product_part) l17 c17 k17
  have b17 := F17.binds (ps := P_product_part) fun _ _ _ _ _ _ us hl => match us, hl with | [_, _, _], _ => rfl
  have T_product_part : Kf1 PySem.Challenge.pw_waysofmaking_k55_polynomials w K mg base "product_part" 40 (pPPr R) := ⟨f17, _, P_product_part, PySem.W.mg_of X G a17, k17, b17, kf_ppr F17 ZX T_part_of⟩
  have F18 := fun_mk (st := s_Poly___add__) l18 c18 k18
  have b18 := F18.binds (ps := P_Poly___add__) fun _ _ _ _ _ _ us hl => match us, hl with | [_, _], _ => rfl
  have T_Poly___add__ : Ko PySem.Challenge.pw_waysofmaking_k55_polynomials w K mg base Po "__add__" 39 (pPTwo Po R plusL) := ⟨f18, _, P_Poly___add__, ⟨a18, i18⟩, b18, kf_padd F18 ZX T_part_of⟩
  have F19 := fun_mk (st := s_Poly___sub__) l19 c19 k19
  have b19 := F19.binds (ps := P_Poly___sub__) fun _ _ _ _ _ _ us hl => match us, hl with | [_, _], _ => rfl
  have T_Poly___sub__ : Ko PySem.Challenge.pw_waysofmaking_k55_polynomials w K mg base Po "__sub__" 39 (pPTwo Po R minusL) := ⟨f19, _, P_Poly___sub__, ⟨a19, i19⟩, b19, kf_psub F19 ZX T_part_of⟩
  have F20 := fun_mk (st := s_Poly___mul__) l20 c20 k20
  have b20 := F20.binds (ps := P_Poly___mul__) fun _ _ _ _ _ _ us hl => match us, hl with | [_, _], _ => rfl
  have T_Poly___mul__ : Ko PySem.Challenge.pw_waysofmaking_k55_polynomials w K mg base Po "__mul__" 41 (pPMul Po R) := ⟨f20, _, P_Poly___mul__, ⟨a20, i20⟩, b20, kf_pmul F20 ZX T_product_part⟩
  have F21 := fun_mk (st := s_Poly___neg__) l21 c21 k21
  have b21 := F21.binds (ps := P_Poly___neg__) fun _ _ _ _ _ _ us hl => match us, hl with | [_], _ => rfl
  have T_Poly___neg__ : Ko PySem.Challenge.pw_waysofmaking_k55_polynomials w K mg base Po "__neg__" 38 (pPNeg Po R) := ⟨f21, _, P_Poly___neg__, ⟨a21, i21⟩, b21, kf_pneg F21 ZX⟩
  have F22 := fun_mk (st := s_Poly___bool__) l22 c22 k22
  have b22 := F22.binds (ps := P_Poly___bool__) fun _ _ _ _ _ _ us hl => match us, hl with | [_], _ => rfl
  have T_Poly___bool__ : Ko PySem.Challenge.pw_waysofmaking_k55_polynomials w K mg base Po "__bool__" 1 (pPBool Po R) := ⟨f22, _, P_Poly___bool__, ⟨a22, i22⟩, b22, kf_pbool F22 ZX⟩
  have F23 := fun_mk (st := s_Poly_degree) l23 c23 k23
  have b23 := F23.binds (ps := P_Poly_degree) fun _ _ _ _ _ _ us hl => match us, hl with | [_], _ => rfl
  have T_Poly_degree : Km PySem.Challenge.pw_waysofmaking_k55_polynomials w K mg base Po "degree" 1 (pPDeg Po R) := ⟨f23, _, P_Poly_degree, ⟨a23, i23, k23⟩, b23, kf_pdeg F23 ZX⟩
  have F24 := fun_mk (st := s_Poly_coefficients) l24 c24 k24
  have b24 := F24.binds (ps := P_Poly_coefficients) fun _ _ _ _ _ _ us hl => match us, hl with | [_], _ => rfl
  have T_Poly_coefficients : Kmn PySem.Challenge.pw_waysofmaking_k55_polynomials w K mg base Po "coefficients" 1 (pPCoef Po R) := ⟨f24, _, P_Poly_coefficients, ⟨a24, i24, k24⟩, b24, kf_pcoef F24 ZX⟩
  have F25 := fun_mk (st := s_Poly_value) l25 c25 k25
  have b25 := F25.binds (ps := P_Poly_value) fun _ _ _ _ _ _ us hl => match us, hl with | [_, _], _ => rfl
  have T_Poly_value : Km PySem.Challenge.pw_waysofmaking_k55_polynomials w K mg base Po "value" 38 (pPVal Po R) := ⟨f25, _, P_Poly_value, ⟨a25, i25, k25⟩, b25, kf_pval F25 ZX⟩
  have F26 := fun_mk (st := s_Poly_slope) l26 c26 k26
  have b26 := F26.binds (ps := P_Poly_slope) fun _ _ _ _ _ _ us hl => match us, hl with | [_], _ => rfl
  have T_Poly_slope : Km PySem.Challenge.pw_waysofmaking_k55_polynomials w K mg base Po "slope" 38 (pPSlo Po R) := ⟨f26, _, P_Poly_slope, ⟨a26, i26, k26⟩, b26, kf_pslo F26 ZX⟩
  have YX : PmX PySem.Challenge.pw_waysofmaking_k55_polynomials w K mg base Po R M := ⟨ZX, T_Poly___bool__, T_Poly_degree, T_Poly___add__, T_Poly___sub__, T_Poly___mul__, T_BadNumber⟩
  have F27 := fun_mk (st := s_divided) l27 c27 k27
  have b27 := F27.binds (ps := P_divided) fun _ _ _ _ _ _ us hl => match us, hl with | [_, _], _ => rfl
  have T_divided : Kf1 PySem.Challenge.pw_waysofmaking_k55_polynomials w K mg base "divided" 42 (pDiv Po R M) := ⟨f27, _, P_divided, PySem.W.mg_of X G a27, k27, b27, kf_div F27 YX⟩
  have F28 := fun_mk (st := s_common_divisor) l28 c28 k28
  have b28 := F28.binds (ps := P_common_divisor) fun _ _ _ _ _ _ us hl => match us, hl with | [_, _], _ => rfl
  have T_common_divisor : Kf1 PySem.Challenge.pw_waysofmaking_k55_polynomials w K mg base "common_divisor" 43 (pGcd Po R) := ⟨f28, _, P_common_divisor, PySem.W.mg_of X G a28, k28, b28, kf_gcd F28 YX T_divided⟩
  have F29 := fun_mk (st := s__law_cell) l29 c29 k29
  have b29 := F29.binds (ps := P__law_cell) fun _ _ _ _ _ _ us hl => match us, hl with | [_, _], _ => rfl
  have T__law_cell : Kf1 PySem.Challenge.pw_waysofmaking_k55_polynomials w K mg base "_law_cell" 1 (pAt K) := ⟨f29, _, P__law_cell, PySem.W.mg_of X G a29, k29, b29, kf_cell F29 (PySem.W.mg_none_of X G z_len)⟩
  have F30 := fun_mk (st := s__law_pool) l30 c30 k30
  have b30 := F30.binds (ps := P__law_pool) fun _ _ _ _ _ _ us hl => match us, hl with | [_], _ => rfl
  have T__law_pool : KfN1 PySem.Challenge.pw_waysofmaking_k55_polynomials w K mg base "_law_pool" 1 pPool := ⟨f30, _, P__law_pool, PySem.W.mg_of X G a30, k30, b30, kf_pool F30 (PySem.W.mg_none_of X G z_abs)⟩
  have F31 := fun_mk (st := s__law_take) l31 c31 k31
  have b31 := F31.binds (ps := P__law_take) fun _ _ _ _ _ _ us hl => match us, hl with | [_, _], _ => rfl
  have T__law_take : Kf1 PySem.Challenge.pw_waysofmaking_k55_polynomials w K mg base "_law_take" 1 pTake := ⟨f31, _, P__law_take, PySem.W.mg_of X G a31, k31, b31, kf_take F31 (PySem.W.mg_none_of X G z_int)⟩
  have F32 := fun_mk (st := s__law_shuffled) l32 c32 k32
  have b32 := F32.binds (ps := P__law_shuffled) fun _ _ _ _ _ _ us hl => match us, hl with | [_, _], _ => rfl
  have T__law_shuffled : Kf1 PySem.Challenge.pw_waysofmaking_k55_polynomials w K mg base "_law_shuffled" 2 pShuf := ⟨f32, _, P__law_shuffled, PySem.W.mg_of X G a32, k32, b32, kf_shuf F32 T__law_take (PySem.W.mg_none_of X G z_len) (PySem.W.mg_none_of X G z_list) (PySem.W.mg_none_of X G z_range)⟩
  have F33 := fun_mk (st := s__law_row) l33 c33 k33
  have b33 := F33.binds (ps := P__law_row) fun _ _ _ _ _ _ us hl => match us, hl with | [_, _], _ => rfl
  have T__law_row : KfN1 PySem.Challenge.pw_waysofmaking_k55_polynomials w K mg base "_law_row" 38 (pDrw R) := ⟨f33, _, P__law_row, PySem.W.mg_of X G a33, k33, b33, kf_row F33 ZX T__law_take⟩
  have F34 := fun_mk (st := s__law_cut) l34 c34 k34
  have b34 := F34.binds (ps := P__law_cut) fun _ _ _ _ _ _ us hl => match us, hl with | [_], _ => rfl
  have T__law_cut : KfN1 PySem.Challenge.pw_waysofmaking_k55_polynomials w K mg base "_law_cut" 38 (pCut R) := ⟨f34, _, P__law_cut, PySem.W.mg_of X G a34, k34, b34, kf_cut F34 ZX⟩
  have F35 := fun_mk (st := s__law_at_place) l35 c35 k35
  have b35 := F35.binds (ps := P__law_at_place) fun _ _ _ _ _ _ us hl => match us, hl with | [_, _], _ => rfl
  have T__law_at_place : Kf1 PySem.Challenge.pw_waysofmaking_k55_polynomials w K mg base "_law_at_place" 38 (pAtP R) := ⟨f35, _, P__law_at_place, PySem.W.mg_of X G a35, k35, b35, kf_atp F35 ZX⟩
  have F36 := fun_mk (st := s__law_sum) l36 c36 k36
  have b36 := F36.binds (ps := P__law_sum) fun _ _ _ _ _ _ us hl => match us, hl with | [_, _, _], _ => rfl
  have T__law_sum : KfN1 PySem.Challenge.pw_waysofmaking_k55_polynomials w K mg base "_law_sum" 39 (pSumL R) := ⟨f36, _, P__law_sum, PySem.W.mg_of X G a36, k36, b36, kf_suml F36 ZX T__law_cut T__law_at_place⟩
  have F37 := fun_mk (st := s__law_times) l37 c37 k37
  have b37 := F37.binds (ps := P__law_times) fun _ _ _ _ _ _ us hl => match us, hl with | [_, _], _ => rfl
  have T__law_times : KfN1 PySem.Challenge.pw_waysofmaking_k55_polynomials w K mg base "_law_times" 39 (pTim R) := ⟨f37, _, P__law_times, PySem.W.mg_of X G a37, k37, b37, kf_tim F37 ZX T__law_cut⟩
  have F38 := fun_mk (st := s__law_value) l38 c38 k38
  have b38 := F38.binds (ps := P__law_value) fun _ _ _ _ _ _ us hl => match us, hl with | [_, _], _ => rfl
  have T__law_value : Kf1 PySem.Challenge.pw_waysofmaking_k55_polynomials w K mg base "_law_value" 38 (pValL R) := ⟨f38, _, P__law_value, PySem.W.mg_of X G a38, k38, b38, kf_vall F38 ZX⟩
  have F39 := fun_mk (st := s__law_rest) l39 c39 k39
  have b39 := F39.binds (ps := P__law_rest) fun _ _ _ _ _ _ us hl => match us, hl with | [_, _], _ => rfl
  have T__law_rest : Kf1 PySem.Challenge.pw_waysofmaking_k55_polynomials w K mg base "_law_rest" 40 (pRest R) := ⟨f39, _, P__law_rest, PySem.W.mg_of X G a39, k39, b39, kf_rest F39 ZX T__law_cut T__law_sum⟩
  have F40 := fun_mk (st := s__law_divisor) l40 c40 k40
  have b40 := F40.binds (ps := P__law_divisor) fun _ _ _ _ _ _ us hl => match us, hl with | [_, _], _ => rfl
  have T__law_divisor : Kf1 PySem.Challenge.pw_waysofmaking_k55_polynomials w K mg base "_law_divisor" 41 (pDvs R) := ⟨f40, _, P__law_divisor, PySem.W.mg_of X G a40, k40, b40, kf_dvs F40 ZX T__law_rest⟩
  have XM : ErQ K mg M "BadNumber" "n" := ⟨(PySem.W.mg_of X G aM), xfM, nM_n, teM⟩
  have F41 := fun_mk (st := s__law_divided) l41 c41 k41
  have b41 := F41.binds (ps := P__law_divided) fun _ _ _ _ _ _ us hl => match us, hl with | [_, _], _ => rfl
  have T__law_divided : Kf1 PySem.Challenge.pw_waysofmaking_k55_polynomials w K mg base "_law_divided" 43 (pLdv Po R M) := ⟨f41, _, P__law_divided, PySem.W.mg_of X G a41, k41, b41, kf_ldiv F41 T_divided XM⟩
  have KX : LkX PySem.Challenge.pw_waysofmaking_k55_polynomials w K mg base Po R M := ⟨YX, T_Poly_coefficients, T_Poly_value, T_Poly_slope, T_Poly___neg__, T_Poly___eq__, NEP, nPoL, T_common_divisor, T__law_cut, T__law_sum, T__law_times, T__law_value, T__law_rest, T__law_divisor, T__law_divided⟩
  have F42 := fun_mk (st := s__law_look) l42 c42 k42
  have b42 := F42.binds (ps := P__law_look) fun _ _ _ _ _ _ us hl => match us, hl with | [_, _, _, _], _ => rfl
  have T__law_look : Kf1 PySem.Challenge.pw_waysofmaking_k55_polynomials w K mg base "_law_look" 44 (pLook Po R) := ⟨f42, _, P__law_look, PySem.W.mg_of X G a42, k42, b42, kf_look F42 KX⟩
  have LX : LaX PySem.Challenge.pw_waysofmaking_k55_polynomials w K mg base Po R M := ⟨KX, T__law_cell, T__law_pool, T__law_take, T__law_shuffled, T__law_row, T__law_look, T_Poly_whole, PySem.W.mg_none_of X G z_tuple⟩
  have F43 := fun_mk (st := s_law) l43 c43 k43
  exact kf_law F43 LX
end W1
set_option maxRecDepth 100000
section
set_option maxRecDepth 100000
set_option maxHeartbeats 0
open PySem PySem.W PyProof.Rows in
set_option maxRecDepth 100000 in
set_option maxHeartbeats 0 in
theorem PySem.Challenge.cw_waysofmaking_k55_polynomials_holds : PySem.Challenge.rw_waysofmaking_k55_polynomials.Holds := by
  w_on; o_law
  refine holds_open (q := W1.pre.view_39) (loose := W1.hdL) (Xt := (fun s => xlAt W1.pre.view_39 [] s && recOk (OpenRow.toRowW (OpenLaw.row PySem.Challenge.rw_waysofmaking_k55_polynomials)).records s)) (XP := XL W1.pre.view_39 []) (Yf := Hook.obs (kHook W1.pre.heap_39 W1.hdA W1.hdE)) (Ya := Hook.val (kHook W1.pre.heap_39 W1.hdA W1.hdE)) (YP := Hook.says (kHook W1.pre.heap_39 W1.hdA W1.hdE)) (N := 6904) W1.hdR (Hook.of (kHook W1.pre.heap_39 W1.hdA W1.hdE)) (Hook.keeps (kHook W1.pre.heap_39 W1.hdA W1.hdE)) (fun s e => xl_of s (Bool.and_eq_true_iff.mp e).1) XL.keeps (by rfl) (by rfl) (by rfl) (fun s e => recFacts_of (Bool.and_eq_true_iff.mp e).2) (by rfl) (by first | assumption | decide +kernel) (by decide +kernel) ⟨rfl, rfl, rfl, rfl, rfl, by decide +kernel⟩ ?hw ?hc
  case hw => w_witness2
  case hc =>
    k_fill
    as_aux_lemma =>
      refine W1.walk_seer (l := PySem.Challenge.rw_waysofmaking_k55_polynomials) (n := 63) (k := 45) (x := "_law_script") (CX := fun w => L2.CX PySem.Challenge.pw_waysofmaking_k55_polynomials w) (sp := fun w => W1.spM (W1.pLaw _)) (by decide +kernel) rfl (by decide) rfl ⟨rfl, by decide, by decide⟩ (fun w h Y => PySem.W.kIn_of Y) ?F W1.law_sp ?Z
      case Z => exact W1.law_cx
      case F =>
        intro w mg fa h KX G hmg
        refine' W1.all_mk KX G hmg ?z_super ?z_list ?z_len ?z_isinstance ?z_int ?z_range ?z_tuple ?z_enumerate ?z_abs ?z_bool ?z_max ?aM ?xM ?bmM ?saM ?eM ?tM ?kM ?a0 ?t0 ?l0 ?c0 ?lc0 ?v0 ?fil0 ?ll0 ?sbM ?suM ?svM ?opM ?teM ?nM_n ?gaM ?ggM ?hdM ?aR ?kcR ?mkR ?pgR ?hdR ?poR ?saR ?sfR ?caR ?cnR ?ctR ?cmR ?nR_top ?nR_bottom ?nfR ?nfI ?nfS ?ksI ?ksS ?a1 ?l1 ?c1 ?k1 ?a2 ?i2 ?l2 ?c2 ?k2 ?a3 ?i3 ?l3 ?c3 ?k3 ?a4 ?i4 ?l4 ?c4 ?k4 ?a5 ?i5 ?l5 ?c5 ?k5 ?a6 ?i6 ?l6 ?c6 ?k6 ?a7 ?i7 ?l7 ?c7 ?k7 ?a8 ?i8 ?l8 ?c8 ?k8 ?a9 ?i9 ?l9 ?c9 ?k9 ?ty10 ?rd10 ?ga10 ?a10 ?rc10 ?fi10 ?l10 ?c10 ?k10 ?a11 ?l11 ?c11 ?k11 ?aPo ?kcPo ?mkPo ?pgPo ?hdPo ?poPo ?saPo ?sfPo ?caPo ?cnPo ?ctPo ?cmPo ?nPo_parts ?nfPo ?nPoL ?nePo ?kIPo ?kLPo ?a12 ?l12 ?c12 ?k12 ?a13 ?i13 ?l13 ?c13 ?k13 ?ty14 ?rd14 ?ga14 ?a14 ?rc14 ?fi14 ?l14 ?c14 ?k14 ?a15 ?i15 ?l15 ?c15 ?k15 ?a16 ?l16 ?c16 ?k16 ?a17 ?l17 ?c17 ?k17 ?a18 ?i18 ?l18 ?c18 ?k18 ?a19 ?i19 ?l19 ?c19 ?k19 ?a20 ?i20 ?l20 ?c20 ?k20 ?a21 ?i21 ?l21 ?c21 ?k21 ?a22 ?i22 ?l22 ?c22 ?k22 ?a23 ?i23 ?l23 ?c23 ?k23 ?a24 ?i24 ?l24 ?c24 ?k24 ?a25 ?i25 ?l25 ?c25 ?k25 ?a26 ?i26 ?l26 ?c26 ?k26 ?a27 ?l27 ?c27 ?k27 ?a28 ?l28 ?c28 ?k28 ?a29 ?l29 ?c29 ?k29 ?a30 ?l30 ?c30 ?k30 ?a31 ?l31 ?c31 ?k31 ?a32 ?l32 ?c32 ?k32 ?a33 ?l33 ?c33 ?k33 ?a34 ?l34 ?c34 ?k34 ?a35 ?l35 ?c35 ?k35 ?a36 ?l36 ?c36 ?k36 ?a37 ?l37 ?c37 ?k37 ?a38 ?l38 ?c38 ?k38 ?a39 ?l39 ?c39 ?k39 ?a40 ?l40 ?c40 ?k40 ?a41 ?l41 ?c41 ?k41 ?a42 ?l42 ?c42 ?k42 ?a43 ?l43 ?c43 ?k43
        (case z_super => k_is)
        (case z_list => k_is)
        (case z_len => k_is)
        (case z_isinstance => k_is)
        (case z_int => k_is)
        (case z_range => k_is)
        (case z_tuple => k_is)
        (case z_enumerate => k_is)
        (case z_abs => k_is)
        (case z_bool => k_is)
        (case z_max => k_is)
        (case aM => k_is)
        (case xM => k_is)
        (case bmM => rfl)
        (case saM => k_is)
        (case eM => k_is)
        (case tM => k_is)
        (case kM => k_is)
        (case a0 => k_is)
        (case t0 => k_is)
        (case l0 => k_is)
        (case c0 => k_is)
        (case lc0 => k_is)
        (case v0 => rfl)
        (case fil0 => first | rfl | decide +kernel)
        (case ll0 => k_is)
        (case sbM => k_is)
        (case suM => ks_is)
        (case svM => k_is)
        (case opM => k_is)
        (case teM => kts_exm)
        (case nM_n => k_is)
        (case gaM => k_is)
        (case ggM => k_is)
        (case hdM => k_is)
        (case aR => k_is)
        (case kcR => k_is)
        (case mkR => k_is)
        (case pgR => k_is)
        (case hdR => k_is)
        (case poR => k_is)
        (case saR => k_is)
        (case sfR => k_is)
        (case caR => k_is)
        (case cnR => k_is)
        (case ctR => k_is)
        (case cmR => k_is)
        (case nR_top => k_is)
        (case nR_bottom => k_is)
        (case nfR => k_is)
        (case nfI => k_is)
        (case nfS => k_is)
        (case ksI => kit_is)
        (case ksS => kit_is)
        (case a1 => k_is)
        (case l1 => k_is)
        (case c1 => k_is)
        (case k1 => k_is)
        (case a2 => k_is)
        (case i2 => k_is)
        (case l2 => k_is)
        (case c2 => k_is)
        (case k2 => k_is)
        (case a3 => k_is)
        (case i3 => k_is)
        (case l3 => k_is)
        (case c3 => k_is)
        (case k3 => k_is)
        (case a4 => k_is)
        (case i4 => k_is)
        (case l4 => k_is)
        (case c4 => k_is)
        (case k4 => k_is)
        (case a5 => k_is)
        (case i5 => k_is)
        (case l5 => k_is)
        (case c5 => k_is)
        (case k5 => k_is)
        (case a6 => k_is)
        (case i6 => k_is)
        (case l6 => k_is)
        (case c6 => k_is)
        (case k6 => k_is)
        (case a7 => k_is)
        (case i7 => k_is)
        (case l7 => k_is)
        (case c7 => k_is)
        (case k7 => k_is)
        (case a8 => k_is)
        (case i8 => k_is)
        (case l8 => k_is)
        (case c8 => k_is)
        (case k8 => k_is)
        (case a9 => k_is)
        (case i9 => k_is)
        (case l9 => k_is)
        (case c9 => k_is)
        (case k9 => k_is)
        (case ty10 => k_is)
        (case rd10 => k_is)
        (case ga10 => k_is)
        (case a10 => k_is)
        (case rc10 => k_is)
        (case fi10 => k_is)
        (case l10 => k_is)
        (case c10 => k_is)
        (case k10 => k_is)
        (case a11 => k_is)
        (case l11 => k_is)
        (case c11 => k_is)
        (case k11 => k_is)
        (case aPo => k_is)
        (case kcPo => k_is)
        (case mkPo => k_is)
        (case pgPo => k_is)
        (case hdPo => k_is)
        (case poPo => k_is)
        (case saPo => k_is)
        (case sfPo => k_is)
        (case caPo => k_is)
        (case cnPo => k_is)
        (case ctPo => k_is)
        (case cmPo => k_is)
        (case nPo_parts => k_is)
        (case nfPo => k_is)
        (case nPoL => k_is)
        (case nePo => k_is)
        (case kIPo => kit_is)
        (case kLPo => kit_is)
        (case a12 => k_is)
        (case l12 => k_is)
        (case c12 => k_is)
        (case k12 => k_is)
        (case a13 => k_is)
        (case i13 => k_is)
        (case l13 => k_is)
        (case c13 => k_is)
        (case k13 => k_is)
        (case ty14 => k_is)
        (case rd14 => k_is)
        (case ga14 => k_is)
        (case a14 => k_is)
        (case rc14 => k_is)
        (case fi14 => k_is)
        (case l14 => k_is)
        (case c14 => k_is)
        (case k14 => k_is)
        (case a15 => k_is)
        (case i15 => k_is)
        (case l15 => k_is)
        (case c15 => k_is)
        (case k15 => k_is)
        (case a16 => k_is)
        (case l16 => k_is)
        (case c16 => k_is)
        (case k16 => k_is)
        (case a17 => k_is)
        (case l17 => k_is)
        (case c17 => k_is)
        (case k17 => k_is)
        (case a18 => k_is)
        (case i18 => k_is)
        (case l18 => k_is)
        (case c18 => k_is)
        (case k18 => k_is)
        (case a19 => k_is)
        (case i19 => k_is)
        (case l19 => k_is)
        (case c19 => k_is)
        (case k19 => k_is)
        (case a20 => k_is)
        (case i20 => k_is)
        (case l20 => k_is)
        (case c20 => k_is)
        (case k20 => k_is)
        (case a21 => k_is)
        (case i21 => k_is)
        (case l21 => k_is)
        (case c21 => k_is)
        (case k21 => k_is)
        (case a22 => k_is)
        (case i22 => k_is)
        (case l22 => k_is)
        (case c22 => k_is)
        (case k22 => k_is)
        (case a23 => k_is)
        (case i23 => k_is)
        (case l23 => k_is)
        (case c23 => k_is)
        (case k23 => k_is)
        (case a24 => k_is)
        (case i24 => k_is)
        (case l24 => k_is)
        (case c24 => k_is)
        (case k24 => k_is)
        (case a25 => k_is)
        (case i25 => k_is)
        (case l25 => k_is)
        (case c25 => k_is)
        (case k25 => k_is)
        (case a26 => k_is)
        (case i26 => k_is)
        (case l26 => k_is)
        (case c26 => k_is)
        (case k26 => k_is)
        (case a27 => k_is)
        (case l27 => k_is)
        (case c27 => k_is)
        (case k27 => k_is)
        (case a28 => k_is)
        (case l28 => k_is)
        (case c28 => k_is)
        (case k28 => k_is)
        (case a29 => k_is)
        (case l29 => k_is)
        (case c29 => k_is)
        (case k29 => k_is)
        (case a30 => k_is)
        (case l30 => k_is)
        (case c30 => k_is)
        (case k30 => k_is)
        (case a31 => k_is)
        (case l31 => k_is)
        (case c31 => k_is)
        (case k31 => k_is)
        (case a32 => k_is)
        (case l32 => k_is)
        (case c32 => k_is)
        (case k32 => k_is)
        (case a33 => k_is)
        (case l33 => k_is)
        (case c33 => k_is)
        (case k33 => k_is)
        (case a34 => k_is)
        (case l34 => k_is)
        (case c34 => k_is)
        (case k34 => k_is)
        (case a35 => k_is)
        (case l35 => k_is)
        (case c35 => k_is)
        (case k35 => k_is)
        (case a36 => k_is)
        (case l36 => k_is)
        (case c36 => k_is)
        (case k36 => k_is)
        (case a37 => k_is)
        (case l37 => k_is)
        (case c37 => k_is)
        (case k37 => k_is)
        (case a38 => k_is)
        (case l38 => k_is)
        (case c38 => k_is)
        (case k38 => k_is)
        (case a39 => k_is)
        (case l39 => k_is)
        (case c39 => k_is)
        (case k39 => k_is)
        (case a40 => k_is)
        (case l40 => k_is)
        (case c40 => k_is)
        (case k40 => k_is)
        (case a41 => k_is)
        (case l41 => k_is)
        (case c41 => k_is)
        (case k41 => k_is)
        (case a42 => k_is)
        (case l42 => k_is)
        (case c42 => k_is)
        (case k42 => k_is)
        (case a43 => k_is)
        (case l43 => k_is)
        (case c43 => k_is)
        (case k43 => k_is)

end
