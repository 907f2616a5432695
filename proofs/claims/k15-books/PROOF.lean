import PyProof.Rows.All
import Wide.All
import OpenK.AllK
import Wide.FinOn
import HandS.ForMost
import HandS.ForExc
import HandS.Wide
import HandS.ExcInit
import HandS.ExcField
import HandS.ClsMeth
import HandS.IsInst
import HandS.FStr
import HandS.OwnEq
import HandS.Zip
import HandS.Flow
import HandS.DictComp
import HandS.Nested
import HandS.SlotsOwn
import HandS.Steps
import HandS.Style
import HandS.Text
import HandS.Codes
import HandS.Dict
import HandS.Iter
import HandS.More
import HandS.Finally
import HandS.Conv
import HandS.WordsDict
import HandS.Strs
import HandS.SortOrd
import HandS.IterVal
import HandS.TupAny
import HandS.Star
import KE.KExcSuper
import KE.KOpsOwn
import KE.KCallOwn
import KE.KEqDict
import KE.KDictList
import KE.KSortTupAny
import PyProof.Rows.SortShellAny
import KE.GoesEnum
import PyProof.InstNe
import KE.KEqNest
import KE.RegKIsAll
import KE.RegKSuper
import KE.RegKTryMore
import PySem.Challenge.RW_waysofmaking_k15_books
set_option Elab.async false
set_option linter.all false
set_option maxRecDepth 100000
set_option maxHeartbeats 2000000
namespace W1
open PySem PySem.Spec PyProof.Rows L2

/-! ### what is known of values -/
structure Rl where
  r : V → Hp → Prop
  mo : ∀ v H H', Same H H' → r v H → r v H'
structure Ol where
  c : HO → Hp → Prop
  mo : ∀ o H H', Same H H' → c o H → c o H'
abbrev Ty := List (Option Rl)
abbrev Ow := List (Addr × Ol)
abbrev Er := Value → Option Addr → Hp → Prop
abbrev Out := Except Er Rl

def All2 : List Rl → List V → Hp → Prop
  | [], [], _ => True
  | R :: Rs, v :: vs, H => R.r v H ∧ All2 Rs vs H
  | _, _, _ => False
theorem All2.up : ∀ {Rs : List Rl} {vs : List V} {H H' : Hp}, Same H H' → All2 Rs vs H → All2 Rs vs H'
  | [], [], _, _, _, _ => trivial
  | R :: _, _ :: _, _, _, e, ⟨a, b⟩ => ⟨R.mo _ _ _ e a, All2.up e b⟩
  | [], _ :: _, _, _, _, h => h.elim
  | _ :: _, [], _, _, _, h => h.elim
theorem All2.len : ∀ {Rs : List Rl} {vs : List V} {H : Hp}, All2 Rs vs H → Rs.length = vs.length
  | [], [], _, _ => rfl
  | _ :: _, _ :: _, _, ⟨_, b⟩ => by rw [List.length_cons, List.length_cons, All2.len b]
  | [], _ :: _, _, h => h.elim
  | _ :: _, [], _, h => h.elim
theorem All2.get : ∀ {Rs : List Rl} {vs : List V} {H : Hp} {i : Nat} {R : Rl}, All2 Rs vs H → Rs[i]? = some R → ∃ v, vs[i]? = some v ∧ R.r v H
  | [], _, _, i, _, _, e => by simp at e
  | R :: _, v :: _, _, 0, _, ⟨a, _⟩, e => by
    have e' : R = _ := Option.some.inj e
    subst e'
    exact ⟨v, rfl, a⟩
  | _ :: _, _ :: _, _, i + 1, _, ⟨_, b⟩, e => All2.get (i := i) b e
  | _ :: _, [], _, _, _, h, _ => h.elim
theorem All2.app : ∀ {Rs Ss : List Rl} {vs ws : List V} {H : Hp}, All2 Rs vs H → All2 Ss ws H → All2 (Rs ++ Ss) (vs ++ ws) H
  | [], _, [], _, _, _, h => h
  | _ :: _, _, _ :: _, _, _, ⟨a, b⟩, h => ⟨a, All2.app b h⟩
  | [], _, _ :: _, _, _, h, _ => h.elim
  | _ :: _, _, [], _, _, h, _ => h.elim

structure Slots (ρ : Ty) (σ : L2.St) (G : Hp) : Prop where
  len : σ.length = ρ.length
  at_ : ∀ (i : Nat) (R : Rl), ρ[i]? = some (some R) → ∃ v, σ[i]? = some (some v) ∧ R.r v G
theorem Slots.up {ρ : Ty} {σ : L2.St} {G G' : Hp} (s : Slots ρ σ G) (e : Same G G') : Slots ρ σ G' :=
  ⟨s.len, fun i R h => let ⟨v, a, b⟩ := s.at_ i R h; ⟨v, a, R.mo _ _ _ e b⟩⟩
theorem Slots.set {ρ : Ty} {σ : L2.St} {G : Hp} (s : Slots ρ σ G) (i : Nat) {R : Rl} {v : V} (h : R.r v G) : Slots (ρ.set i (some R)) (σ.set i (some v)) G := by
  refine ⟨by rw [List.length_set, List.length_set]; exact s.len, fun j S e => ?_⟩
  by_cases hj : i = j
  · subst hj
    by_cases hi : i < ρ.length
    · rw [List.getElem?_set_self hi] at e
      cases e
      exact ⟨v, List.getElem?_set_self (by rw [s.len]; exact hi), h⟩
    · rw [List.getElem?_eq_none (by rw [List.length_set]; omega)] at e
      cases e
  · rw [List.getElem?_set_ne hj] at e
    obtain ⟨w, a, b⟩ := s.at_ j S e
    exact ⟨w, by rw [List.getElem?_set_ne hj]; exact a, b⟩
theorem Slots.gone {ρ : Ty} {σ : L2.St} {G : Hp} (s : Slots ρ σ G) (i : Nat) : Slots (ρ.set i none) (σ.set i none) G := by
  refine ⟨by rw [List.length_set, List.length_set]; exact s.len, fun j S e => ?_⟩
  by_cases hj : i = j
  · subst hj
    by_cases hi : i < ρ.length
    · rw [List.getElem?_set_self hi] at e
      cases e
    · rw [List.getElem?_eq_none (by rw [List.length_set]; omega)] at e
      cases e
  · rw [List.getElem?_set_ne hj] at e
    obtain ⟨w, a, b⟩ := s.at_ j S e
    exact ⟨w, by rw [List.getElem?_set_ne hj]; exact a, b⟩

/-! ### the frame of a body -/
structure Fx where
  X : Cx
  G0 : Hp
  H0 : Hp
  M : List Addr
  W : WX
  tk : Takes X W
structure At (F : Fx) (ω : Ow) (G H : Hp) : Prop where
  gg : Same F.G0 G
  hh : ∀ a o, a ∉ F.M → F.H0 a = some o → H a = some o
  gh : Same G H
  fr : ∀ a, F.H0 a ≠ none → F.G0 a = none → G a = none
  mm : ∀ a ∈ F.M, H a ≠ none
  ow : ∀ p ∈ ω, G p.1 = none ∧ (F.H0 p.1 = none ∨ p.1 ∈ F.M) ∧ ∃ o, H p.1 = some o ∧ p.2.c o G
  nd : (ω.map (·.1)).Nodup
/-- a further step of a callee, or of an allocation -/
structure Step (G H G' H' : Hp) : Prop where
  gg : Same G G'
  hh : Same H H'
  gh : Same G' H'
  fr : ∀ a, H a ≠ none → G a = none → G' a = none
theorem At.step {F : Fx} {ω : Ow} {G H G' H' : Hp} (a : At F ω G H) (s : Step G H G' H') : At F ω G' H' where
  gg := a.gg.trans s.gg
  hh := fun b o hb e => s.hh b o (a.hh b o hb e)
  gh := s.gh
  fr := fun b h1 h2 => s.fr b (by
    by_cases hb : b ∈ F.M
    · exact a.mm b hb
    · cases e : F.H0 b with
      | none => exact absurd e h1
      | some o => rw [a.hh b o hb e]; simp) (a.fr b h1 h2)
  mm := fun b hb => by
    cases e : H b with
    | none => exact absurd e (a.mm b hb)
    | some o => rw [s.hh b o e]; simp
  ow := fun p hp => by
    obtain ⟨g, h0, o, ho, hc⟩ := a.ow p hp
    exact ⟨s.fr _ (by rw [ho]; simp) g, h0, o, s.hh _ _ ho, p.2.mo _ _ _ s.gg hc⟩
  nd := a.nd
theorem Step.refl {G H : Hp} (h : Same G H) : Step G H G H := ⟨Same.refl _, Same.refl _, h, fun _ _ e => e⟩
theorem Step.new {G H : Hp} {p : Addr} {o : HO} (h : Same G H) (hp : H p = none) : Step G H (upd G p o) (upd H p o) := by
  have hg : G p = none := h.free hp
  refine ⟨fun a u e => ?_, fun a u e => ?_, fun a u e => ?_, fun a h1 h2 => ?_⟩
  · rw [upd_ne (ne_of_none e hg)]; exact e
  · rw [upd_ne (ne_of_none e hp)]; exact e
  · by_cases ha : a = p
    · subst ha; rw [upd_same] at e ⊢; exact e
    · rw [upd_ne ha] at e ⊢; exact h _ _ e
  · by_cases ha : a = p
    · subst ha; exact absurd hp h1
    · rw [upd_ne ha]; exact h2
/-- a new object that G does not see -/
theorem Step.hid {G H : Hp} {p : Addr} {o : HO} (h : Same G H) (hp : H p = none) : Step G H G (upd H p o) := by
  refine ⟨Same.refl _, fun a u e => ?_, fun a u e => ?_, fun a _ h2 => h2⟩
  · rw [upd_ne (ne_of_none e hp)]; exact e
  · rw [upd_ne (ne_of_none (h _ _ e) hp)]; exact h _ _ e
theorem Step.trans {G H G1 H1 G2 H2 : Hp} (a : Step G H G1 H1) (b : Step G1 H1 G2 H2) : Step G H G2 H2 :=
  ⟨a.gg.trans b.gg, a.hh.trans b.hh, b.gh, fun x h1 h2 => b.fr x (by
    cases e : H x with
    | none => exact absurd e h1
    | some o => rw [a.hh x o e]; simp) (a.fr x h1 h2)⟩

/-! ### the weakest wishes -/
section
variable (X : Cx)
def EW (e : Expr) : TE := fun σ H Q => ∀ pins s, Inv X pins σ H s → wpAny (model X.prog X.w) X.A (eval e X.env) (EP X pins σ Q) X.xe s
def TW (e : Expr) : TT := fun σ H Q => ∀ pins s, Inv X pins σ H s → wpAny (model X.prog X.w) X.A (isTrue e X.env (eval e X.env)) (TP X pins σ Q) X.xe s
def AW (es : List Expr) : TA := fun σ H Q => ∀ pos pins s, Inv X pins σ H s → wpAny (model X.prog X.w) X.A (spliced (backTo pos (starEach es X.env))) (AP X pins σ Q) X.xe s
def SW (st : Stmt) : TS := fun D σ H => ∀ pins s, Inv X pins σ H s → wpAny (model X.prog X.w) X.A (exec st X.env) (SP X pins D) X.xe s
def BW (st : List Stmt) : TS := fun D σ H => ∀ pins s, Inv X pins σ H s → wpAny (model X.prog X.w) X.A (execs st X.env) (SP X pins D) X.xe s
end
section
variable {X : Cx}
theorem pe_w {e : Expr} : PE X e (EW X e) := ⟨fun pins s _ _ _ I h => h pins s I⟩
theorem pt_w {e : Expr} : PT X e (TW X e) := ⟨fun pins s _ _ _ I h => h pins s I⟩
theorem pa_w {es : List Expr} : PA X es (AW X es) := ⟨fun pos pins s _ _ _ I h => h pos pins s I⟩
theorem ps_w {st : Stmt} : PS X st (SW X st) := ⟨fun pins s _ _ _ I h => h pins s I⟩
theorem pss_w {st : List Stmt} : PSs X st (BW X st) := ⟨fun pins s _ _ _ I h => h pins s I⟩
theorem ew_of {e : Expr} {t : TE} (h : PE X e t) {σ : L2.St} {H : Hp} {Q : VK} (q : t σ H Q) : EW X e σ H Q := fun pins s I => h.run pins s σ H Q I q
theorem tw_of {e : Expr} {t : TT} (h : PT X e t) {σ : L2.St} {H : Hp} {Q : Bool → Hp → Prop} (q : t σ H Q) : TW X e σ H Q := fun pins s I => h.run pins s σ H Q I q
theorem aw_of {es : List Expr} {t : TA} (h : PA X es t) {σ : L2.St} {H : Hp} {Q : List V → Hp → Prop} (q : t σ H Q) : AW X es σ H Q := fun pos pins s I => h.run pos pins s σ H Q I q
theorem sw_of {st : Stmt} {t : TS} (h : PS X st t) {D : Ends} {σ : L2.St} {H : Hp} (q : t D σ H) : SW X st D σ H := fun pins s I => h.run pins s σ H D I q
theorem bw_of {st : List Stmt} {t : TS} (h : PSs X st t) {D : Ends} {σ : L2.St} {H : Hp} (q : t D σ H) : BW X st D σ H := fun pins s I => h.run pins s σ H D I q
end

/-! ### what an expression gives -/
def ER (F : Fx) (ρ : Ty) (ω : Ow) (e : Expr) (R : Rl) (ω' : Ow) : Prop :=
  ∀ σ G H, At F ω G H → Slots ρ σ G → ∀ Q : VK, (∀ v G2 H2, Same G G2 → At F ω' G2 H2 → R.r v G2 → Q v H2) → EW F.X e σ H Q
def TR (F : Fx) (ρ : Ty) (ω : Ow) (e : Expr) (b : Bool) (ω' : Ow) : Prop :=
  ∀ σ G H, At F ω G H → Slots ρ σ G → ∀ Q : Bool → Hp → Prop, (∀ G2 H2, Same G G2 → At F ω' G2 H2 → Q b H2) → TW F.X e σ H Q
def AR (F : Fx) (ρ : Ty) (ω : Ow) (es : List Expr) (Rs : List Rl) (ω' : Ow) : Prop :=
  ∀ σ G H, At F ω G H → Slots ρ σ G → ∀ Q : List V → Hp → Prop, (∀ vs G2 H2, Same G G2 → At F ω' G2 H2 → All2 Rs vs G2 → Q vs H2) → AW F.X es σ H Q
/-- it raises -/
def EX (F : Fx) (ρ : Ty) (ω : Ow) (e : Expr) (P : Er) (ω' : Ow) : Prop :=
  ∀ σ G H, At F ω G H → Slots ρ σ G → (∀ cls d G2 H2, Same G G2 → At F ω' G2 H2 → P cls d G2 → F.W cls d σ H2) → EW F.X e σ H (fun _ _ => False)
end W1
set_option maxRecDepth 100000
set_option maxHeartbeats 2000000
namespace W1
open PySem PySem.Spec PyProof.Rows L2

/-! ### relations -/
def rEqV (x : V) : Rl := ⟨fun v _ => v = x, fun _ _ _ _ h => h⟩
abbrev rInt (i : Int) : Rl := rEqV (.int i)
abbrev rBool (b : Bool) : Rl := rEqV (.bl b)
abbrev rStr (x : Str) : Rl := rEqV (.str x)
abbrev rNon : Rl := rEqV .non
abbrev rRef (p : Addr) : Rl := rEqV (.ref p)
def rAny : Rl := ⟨fun _ _ => True, fun _ _ _ _ h => h⟩
def rLst (Rs : List Rl) : Rl := ⟨fun v H => ∃ p vs, v = .ref p ∧ H p = some (.lst vs) ∧ All2 Rs vs H, fun _ _ _ e ⟨p, vs, a, b, c⟩ => ⟨p, vs, a, e _ _ b, c.up e⟩⟩
theorem sameT {K : PySem.W.Frag} {H H' : Hp} {a : Addr} {xs : List V} (e : Same H H') (h : SqT K H a xs) : SqT K H' a xs := by
  rcases h with (h | ⟨o, h⟩) | h
  · exact .inl (.inl (e _ _ h))
  · exact .inl (.inr ⟨o, e _ _ h⟩)
  · exact .inr h
def rTup (Rs : List Rl) : Rl := ⟨fun v H => ∃ p vs, v = .ref p ∧ H p = some (.tup vs) ∧ All2 Rs vs H, fun _ _ _ e ⟨p, vs, a, b, c⟩ => ⟨p, vs, a, e _ _ b, c.up e⟩⟩
/-- named things, in order -/
def NR {κ : Type} : List (κ × Rl) → List (κ × V) → Hp → Prop
  | [], [], _ => True
  | (k, R) :: Rs, (k', v) :: vs, H => k = k' ∧ R.r v H ∧ NR Rs vs H
  | _, _, _ => False
theorem NR.up {κ : Type} : ∀ {Rs : List (κ × Rl)} {vs : List (κ × V)} {H H' : Hp}, Same H H' → NR Rs vs H → NR Rs vs H'
  | [], [], _, _, _, _ => trivial
  | (_, R) :: _, (_, _) :: _, _, _, e, ⟨k, a, b⟩ => ⟨k, R.mo _ _ _ e a, NR.up e b⟩
  | [], _ :: _, _, _, _, h => h.elim
  | _ :: _, [], _, _, _, h => h.elim
theorem NR.look : ∀ {Rs : List (Str × Rl)} {vs : List (Str × V)} {H : Hp} {f : Str} {R : Rl}, NR Rs vs H → Rs.lookup f = some R → ∃ v, vs.lookup f = some v ∧ R.r v H
  | [], _, _, _, _, _, e => by cases e
  | (k, S) :: Rs, (k', v) :: vs, H, f, R, ⟨hk, a, b⟩, e => by
    subst hk
    by_cases h : f = k
    · subst h
      rw [List.lookup_cons_self] at e
      cases e
      exact ⟨v, List.lookup_cons_self, a⟩
    · have hb : (f == k) = false := by simpa using h
      rw [List.lookup_cons, hb] at e
      obtain ⟨w, x, y⟩ := NR.look b e
      exact ⟨w, by rw [List.lookup_cons, hb]; exact x, y⟩
  | _ :: _, [], _, _, _, h, _ => h.elim
theorem NR.lookN : ∀ {Rs : List (Str × Rl)} {vs : List (Str × V)} {H : Hp} {f : Str}, NR Rs vs H → Rs.lookup f = none → vs.lookup f = none
  | [], [], _, _, _, _ => rfl
  | (k, S) :: Rs, (k', v) :: vs, H, f, ⟨hk, a, b⟩, e => by
    subst hk
    by_cases h : f = k
    · subst h
      rw [List.lookup_cons_self] at e
      cases e
    · have hb : (f == k) = false := by simpa using h
      rw [List.lookup_cons, hb] at e ⊢
      exact NR.lookN b e
  | [], _ :: _, _, _, h, _ => h.elim
  | _ :: _, [], _, _, h, _ => h.elim
def rIns (C : Addr) (fs : List (Str × Rl)) : Rl := ⟨fun v H => ∃ p dx vs, v = .ref p ∧ H p = some (.ins C dx vs) ∧ NR fs vs H, fun _ _ _ e ⟨p, dx, vs, a, b, c⟩ => ⟨p, dx, vs, a, e _ _ b, c.up e⟩⟩

/-! ### operators -/
/-- a two-place operation -/
def Bop (F : Fx) (ω : Ow) (f : Value → Value → Sem Value) (A B R : Rl) : Prop :=
  ∃ r : R2, OpR F.X f r ∧ ∀ x y G H, At F ω G H → A.r x G → B.r y G → ∀ Q : VK, (∀ v G2 H2, Same G G2 → At F ω G2 H2 → R.r v G2 → Q v H2) → r x y H Q
def Uop (F : Fx) (ω : Ow) (f : Value → Sem Value) (A R : Rl) : Prop :=
  ∃ r : V → Hp → VK → Prop, UnR F.X f r ∧ ∀ x G H, At F ω G H → A.r x G → ∀ Q : VK, (∀ v G2 H2, Same G G2 → At F ω G2 H2 → R.r v G2 → Q v H2) → r x H Q
def Cop (F : Fx) (ω : Ow) (f : Value) (As : List Rl) (R : Rl) : Prop :=
  ∃ r : List V → Hp → VK → Prop, CallR F.X f r ∧ ∀ xs G H, At F ω G H → All2 As xs G → ∀ Q : VK, (∀ v G2 H2, Same G G2 → At F ω G2 H2 → R.r v G2 → Q v H2) → r xs H Q
def Iop (F : Fx) (ω : Ow) (A B R : Rl) : Prop :=
  ∃ r : R2, IxR F.X r ∧ ∀ x y G H, At F ω G H → A.r x G → B.r y G → ∀ Q : VK, (∀ v G2 H2, Same G G2 → At F ω G2 H2 → R.r v G2 → Q v H2) → r x y H Q
section
variable {F : Fx} {ρ : Ty} {ω w1 w2 w3 : Ow} {a b c e : Expr} {A B C R S : Rl} {pos p : Pos} {x : Str}
theorem er_mono (h : ER F ρ ω e R w1) (k : ∀ v H, R.r v H → S.r v H) : ER F ρ ω e S w1 := fun σ G H at_ sl Q q => h σ G H at_ sl Q fun v G2 H2 s a r => q v G2 H2 s a (k v G2 r)
theorem er_eq (h : ER F ρ ω e R w1) (k : R = S) : ER F ρ ω e S w1 := k ▸ h
theorem er_var (i : Nat) (h : ρ[i]? = some (some R)) (hN : F.X.N[i]? = some x := by rfl) (hv : Vis F.X.env.scope x := by first | exact Or.inl rfl | exact Or.inr (Or.inl rfl) | exact Or.inr (Or.inr rfl))
    (hd : (x == ("__debug__" : Str)) = false := by decide) (hcd : (x == ("__classdict__" : Str)) = false := by decide) : ER F ρ ω (.Name x pos) R ω := fun σ G H at_ sl Q q => by
  obtain ⟨v, h1, h2⟩ := sl.at_ i R h
  exact ew_of (pe_var hN hv hd hcd) ⟨v, h1, q v G H (Same.refl _) at_ h2⟩
theorem er_int {i : Int} {j : Nat} : ER F ρ ω (.Constant (.int i) j pos) (rInt i) ω := fun σ G H at_ sl Q q => ew_of pe_int (q _ G H (Same.refl _) at_ rfl)
theorem er_bl {i : Bool} {j : Nat} : ER F ρ ω (.Constant (.bool i) j pos) (rBool i) ω := fun σ G H at_ sl Q q => ew_of pe_bl (q _ G H (Same.refl _) at_ rfl)
theorem er_str {i : Str} {j : Nat} : ER F ρ ω (.Constant (.str i) j pos) (rStr i) ω := fun σ G H at_ sl Q q => ew_of pe_str (q _ G H (Same.refl _) at_ rfl)
theorem er_non {j : Nat} : ER F ρ ω (.Constant .none j pos) rNon ω := fun σ G H at_ sl Q q => ew_of pe_non (q _ G H (Same.refl _) at_ rfl)
theorem er_glob {v : V} {u : Value} (hg : Gl F.X x) (hm : F.X.mg x = some u) (r : RelV v u) (hd : (x == ("__debug__" : Str)) = false := by decide) : ER F ρ ω (.Name x pos) (rEqV v) ω :=
  fun σ G H at_ sl Q q => ew_of (pe_glob hg hm r hd) (q _ G H (Same.refl _) at_ rfl)
theorem er_bltn {v : V} {u : Value} (hg : Gl F.X x) (hm : F.X.mg x = none) (hv : bootBuiltins x = some u) (r : RelV v u) (hn : x ≠ "__name__" := by decide) (hd : (x == ("__debug__" : Str)) = false := by decide) : ER F ρ ω (.Name x pos) (rEqV v) ω :=
  fun σ G H at_ sl Q q => ew_of (pe_bltn hg hm hv r hn hd) (q _ G H (Same.refl _) at_ rfl)
theorem er_bin {op : Operator} (ha : ER F ρ ω a A w1) (hb : ER F ρ w1 b B w2) (h : Bop F w2 (binaryOp op) A B R) : ER F ρ ω (.BinOp a op b pos) R w2 := fun σ G H at_ sl Q q => by
  obtain ⟨r, ho, k⟩ := h
  refine ew_of (pe_op ho pe_w pe_w) (ha σ G H at_ sl _ fun x G1 H1 s1 at1 rx => hb σ G1 H1 at1 (sl.up s1) _ fun y G2 H2 s2 at2 ry => ?_)
  exact k x y G2 H2 at2 (A.mo _ _ _ s2 rx) ry Q fun v G3 H3 s3 at3 rv => q v G3 H3 ((s1.trans s2).trans s3) at3 rv
theorem er_un {op : UnaryOp} (ha : ER F ρ ω a A w1) (h : Uop F w1 (unaryOp op) A R) : ER F ρ ω (.UnaryOp op a pos) R w1 := fun σ G H at_ sl Q q => by
  obtain ⟨r, ho, k⟩ := h
  refine ew_of (pe_un ho pe_w) (ha σ G H at_ sl _ fun x G1 H1 s1 at1 rx => ?_)
  exact k x G1 H1 at1 rx Q fun v G3 H3 s3 at3 rv => q v G3 H3 (s1.trans s3) at3 rv
theorem er_cmp {op : CmpOp} (ha : ER F ρ ω a A w1) (hb : ER F ρ w1 b B w2) (h : Bop F w2 (compareOp op) A B R) (hm : behindInMarks op b = false := by first | exact nomark _ | rfl) : ER F ρ ω (.Compare a [op] [b] pos) R w2 := fun σ G H at_ sl Q q => by
  obtain ⟨r, ho, k⟩ := h
  refine ew_of (pe_cmpR ho pe_w pe_w hm) (ha σ G H at_ sl _ fun x G1 H1 s1 at1 rx => hb σ G1 H1 at1 (sl.up s1) _ fun y G2 H2 s2 at2 ry => ?_)
  exact k x y G2 H2 at2 (A.mo _ _ _ s2 rx) ry Q fun v G3 H3 s3 at3 rv => q v G3 H3 ((s1.trans s2).trans s3) at3 rv
theorem tr_cmp {op : CmpOp} {k : Bool} (ha : ER F ρ ω a A w1) (hb : ER F ρ w1 b B w2) (h : Bop F w2 (compareOp op) A B (rBool k)) (hm : behindInMarks op b = false := by first | exact nomark _ | rfl) : TR F ρ ω (.Compare a [op] [b] pos) k w2 := fun σ G H at_ sl Q q => by
  obtain ⟨r, ho, k'⟩ := h
  refine tw_of (pt_cmpR ho pe_w pe_w hm) (ha σ G H at_ sl _ fun x G1 H1 s1 at1 rx => hb σ G1 H1 at1 (sl.up s1) _ fun y G2 H2 s2 at2 ry => ?_)
  exact k' x y G2 H2 at2 (A.mo _ _ _ s2 rx) ry _ fun v G3 H3 s3 at3 rv => ⟨k, rv, q G3 H3 ((s1.trans s2).trans s3) at3⟩
theorem tr_val {k : Bool} (h : ER F ρ ω e (rBool k) w1) (he : ∀ whole, isTrue e F.X.env whole = (do let v ← whole; standAt e.pos; holding [v] (truthy v)) := by intro _; rfl) : TR F ρ ω e k w1 := fun σ G H at_ sl Q q =>
  tw_of (pt_val pe_w he) (h σ G H at_ sl _ fun v G2 H2 s a r => ⟨k, r, q G2 H2 s a⟩)
theorem tr_truth {k : Bool} (h : ER F ρ ω e R w1) (ht : ∀ v G H, At F w1 G H → R.r v G → TruV F.X.K v H k) (he : ∀ whole, isTrue e F.X.env whole = (do let v ← whole; standAt e.pos; holding [v] (truthy v)) := by intro _; rfl) : TR F ρ ω e k w1 := fun σ G H at_ sl Q q =>
  tw_of (pt_truth pe_w he) (h σ G H at_ sl _ fun v G2 H2 s a r => ⟨k, ht v G2 H2 a r, q G2 H2 s a⟩)
theorem tr_not {k : Bool} (h : TR F ρ ω e k w1) : TR F ρ ω (.UnaryOp .Not e pos) (!k) w1 := fun σ G H at_ sl Q q => tw_of (pt_not pt_w) (h σ G H at_ sl _ fun G2 H2 s a => q G2 H2 s a)
theorem er_not {k : Bool} (h : ER F ρ ω e (rBool k) w1) : ER F ρ ω (.UnaryOp .Not e pos) (rBool (!k)) w1 := fun σ G H at_ sl Q q => ew_of (pe_not pe_w) (h σ G H at_ sl _ fun v G2 H2 s a r => ⟨k, r, q _ G2 H2 s a rfl⟩)
theorem tr_to {k k' : Bool} (h : TR F ρ ω e k w1) (z : k = k') : TR F ρ ω e k' w1 := z ▸ h
/-- what comes of the words and, or, if: behind the first operand nothing owned changes -/
def PWR (F : Fx) (ρ : Ty) (ω : Ow) (e : Expr) (k : Bool) (w1 : Ow) : Prop := ∃ t, PW F.X e t ∧ ∀ σ G H, At F ω G H → Slots ρ σ G → ∀ Q : Bool → Hp → Prop, (∀ G2 H2, Same G G2 → At F w1 G2 H2 → Q k H2) → t σ H Q
theorem PWR.tr {k : Bool} (h : PWR F ρ ω e k w1) : TR F ρ ω e k w1 := fun σ G H at_ sl Q q => by
  obtain ⟨t, hp, hk⟩ := h
  exact tw_of hp.pt (hk σ G H at_ sl Q q)
theorem tr_and1 {k : Bool} (h : TR F ρ ω e k w1) : PWR F ρ ω (.BoolOp .And [e] pos) k w1 := ⟨_, pw_and1 pt_w, h⟩
theorem tr_or1 {k : Bool} (h : TR F ρ ω e k w1) : PWR F ρ ω (.BoolOp .Or [e] pos) k w1 := ⟨_, pw_or1 pt_w, h⟩
theorem tr_and {k m : Bool} {rest : List Expr} (h : TR F ρ ω a k w1) (g : k = true → PWR F ρ w1 (.BoolOp .And (b :: rest) pos) m w1) : PWR F ρ ω (.BoolOp .And (a :: b :: rest) pos) (k && m) w1 := by
  cases k with
  | true =>
    obtain ⟨t, hp, hk⟩ := g rfl
    exact ⟨_, pw_and pt_w hp, fun σ G H at_ sl Q q => h σ G H at_ sl _ fun G2 H2 s a => iteT (hk σ G2 H2 a (sl.up s) Q fun G3 H3 s3 a3 => q G3 H3 (s.trans s3) a3)⟩
  | false => exact ⟨_, pw_and (tB' := fun _ _ _ => False) pt_w ⟨fun _ _ _ _ _ _ _ h => h.elim⟩, fun σ G H at_ sl Q q => h σ G H at_ sl _ fun G2 H2 s a => iteF (q G2 H2 s a)⟩
theorem tr_or {k m : Bool} {rest : List Expr} (h : TR F ρ ω a k w1) (g : k = false → PWR F ρ w1 (.BoolOp .Or (b :: rest) pos) m w1) : PWR F ρ ω (.BoolOp .Or (a :: b :: rest) pos) (k || m) w1 := by
  cases k with
  | false =>
    obtain ⟨t, hp, hk⟩ := g rfl
    exact ⟨_, pw_or pt_w hp, fun σ G H at_ sl Q q => h σ G H at_ sl _ fun G2 H2 s a => iteF (hk σ G2 H2 a (sl.up s) Q fun G3 H3 s3 a3 => q G3 H3 (s.trans s3) a3)⟩
  | true => exact ⟨_, pw_or (tB' := fun _ _ _ => False) pt_w ⟨fun _ _ _ _ _ _ _ h => h.elim⟩, fun σ G H at_ sl Q q => h σ G H at_ sl _ fun G2 H2 s a => iteT (q G2 H2 s a)⟩
theorem er_one {op} (h : ER F ρ ω e R w1) : ER F ρ ω (.BoolOp op [e] pos) R w1 := fun σ G H at_ sl Q q => ew_of (pe_one pe_w) (h σ G H at_ sl Q q)
theorem er_and {k m : Bool} {rest : List Expr} (h : ER F ρ ω a (rBool k) w1) (g : k = true → ER F ρ w1 (.BoolOp .And (b :: rest) pos) (rBool m) w1) : ER F ρ ω (.BoolOp .And (a :: b :: rest) pos) (rBool (k && m)) w1 := fun σ G H at_ sl Q q => by
  refine ew_of (pe_and pe_w pe_w) (h σ G H at_ sl _ fun v G2 H2 s a r => ⟨k, r, ?_⟩)
  cases k with
  | true => exact iteT (g rfl σ G2 H2 a (sl.up s) Q fun v G3 H3 s3 a3 r3 => q v G3 H3 (s.trans s3) a3 r3)
  | false => exact iteF (q _ G2 H2 s a rfl)
theorem er_or {k m : Bool} {rest : List Expr} (h : ER F ρ ω a (rBool k) w1) (g : k = false → ER F ρ w1 (.BoolOp .Or (b :: rest) pos) (rBool m) w1) : ER F ρ ω (.BoolOp .Or (a :: b :: rest) pos) (rBool (k || m)) w1 := fun σ G H at_ sl Q q => by
  refine ew_of (pe_or pe_w pe_w) (h σ G H at_ sl _ fun v G2 H2 s a r => ⟨k, r, ?_⟩)
  cases k with
  | false => exact iteF (g rfl σ G2 H2 a (sl.up s) Q fun v G3 H3 s3 a3 r3 => q v G3 H3 (s.trans s3) a3 r3)
  | true => exact iteT (q _ G2 H2 s a rfl)
theorem er_ifx {k : Bool} (h : TR F ρ ω c k w1) (h1 : k = true → ER F ρ w1 a R w2) (h2 : k = false → ER F ρ w1 b R w2) : ER F ρ ω (.IfExp c a b pos) R w2 := fun σ G H at_ sl Q q => by
  refine ew_of (pe_ifExp pt_w pe_w pe_w) (h σ G H at_ sl _ fun G2 H2 s a => ?_)
  cases k with
  | true => exact iteT (h1 rfl σ G2 H2 a (sl.up s) Q fun v G3 H3 s3 a3 r3 => q v G3 H3 (s.trans s3) a3 r3)
  | false => exact iteF (h2 rfl σ G2 H2 a (sl.up s) Q fun v G3 H3 s3 a3 r3 => q v G3 H3 (s.trans s3) a3 r3)
theorem er_fld {C : Addr} {fs : List (Str × Rl)} {f : Str} (h : ER F ρ ω e (rIns C fs) w1) (hc : Cls F.X.K C) (hn : NoAttr F.X.K C f) (hl : fs.lookup f = some R) (hb : attributeBase e f F.X.env (eval e F.X.env) = eval e F.X.env := by rfl) :
    ER F ρ ω (.Attribute e f pos) R w1 := fun σ G H at_ sl Q q => by
  refine ew_of (pe_fld pe_w hb) (h σ G H at_ sl _ fun v G2 H2 s a r => ?_)
  obtain ⟨p, dx, vs, rfl, h1, h2⟩ := r
  obtain ⟨w, h3, h4⟩ := h2.look hl
  exact ⟨p, C, dx, vs, w, rfl, a.gh _ _ h1, hc, hn, h3, q w G2 H2 s a h4⟩
theorem ar_nil : AR F ρ ω [] [] ω := fun σ G H at_ sl Q q => aw_of pa_nil (q [] G H (Same.refl _) at_ trivial)
theorem ar_cons {es : List Expr} {Rs : List Rl} (h : ER F ρ ω e R w1) (hr : AR F ρ w1 es Rs w2) (hs : starEach (e :: es) F.X.env = (false, eval e F.X.env) :: starEach es F.X.env := by rfl) : AR F ρ ω (e :: es) (R :: Rs) w2 := fun σ G H at_ sl Q q => by
  refine aw_of (pa_cons pe_w pa_w hs) (h σ G H at_ sl _ fun v G2 H2 s a r => hr σ G2 H2 a (sl.up s) _ fun vs G3 H3 s3 a3 r3 => q _ G3 H3 (s.trans s3) a3 ⟨R.mo _ _ _ s3 r, r3⟩)
theorem er_lst {es : List Expr} {Rs : List Rl} (h : AR F ρ ω es Rs w1) (hz : Rs.length ≤ 1000) : ER F ρ ω (.List es pos) (rLst Rs) w1 := fun σ G H at_ sl Q q => by
  refine ew_of (pe_lst pa_w) (h σ G H at_ sl _ fun vs G2 H2 s a r => ⟨Nat.le_of_lt (small1000 (by rw [← r.len]; exact hz)), fun p hp => ?_⟩)
  have st := Step.new (o := .lst vs) a.gh hp
  exact q _ _ _ (s.trans st.gg) (a.step st) ⟨p, vs, rfl, upd_same, r.up st.gg⟩
theorem er_tup {es : List Expr} {Rs : List Rl} {j : Nat} (h : AR F ρ ω es Rs w1) (hz : Rs.length ≤ 1000) : ER F ρ ω (.Tuple es j pos) (rTup Rs) w1 := fun σ G H at_ sl Q q => by
  refine ew_of (pe_tup pa_w) (h σ G H at_ sl _ fun vs G2 H2 s a r => ⟨Nat.le_of_lt (small1000 (by rw [← r.len]; exact hz)), fun p hp => ?_⟩)
  have st := Step.new (o := .tup vs) a.gh hp
  exact q _ _ _ (s.trans st.gg) (a.step st) ⟨p, vs, rfl, upd_same, r.up st.gg⟩
theorem er_ix (ha : ER F ρ ω a A w1) (hb : ER F ρ w1 b B w2) (h : Iop F w2 A B R) (hs : PlainIx b := by exact fun _ _ => rfl) : ER F ρ ω (.Subscript a b pos) R w2 := fun σ G H at_ sl Q q => by
  obtain ⟨r, ho, k⟩ := h
  refine ew_of (pe_ix ho pe_w pe_w hs) (ha σ G H at_ sl _ fun x G1 H1 s1 at1 rx => hb σ G1 H1 at1 (sl.up s1) _ fun y G2 H2 s2 at2 ry => ?_)
  exact k x y G2 H2 at2 (A.mo _ _ _ s2 rx) ry Q fun v G3 H3 s3 at3 rv => q v G3 H3 ((s1.trans s2).trans s3) at3 rv
theorem er_callB {id : String} {As : List Rl} {es : List Expr} (hc : Cop F w1 (.builtin id) As R) (hg : Gl F.X x) (hm : F.X.mg x = none) (hv : bootBuiltins x = some (.builtin id)) (ha : AR F ρ ω (e :: es) As w1) (hn : x ≠ "__name__" := by decide) (hdb : (x == ("__debug__" : Str)) = false := by decide)
    (he : starEach (e :: es) F.X.env = (false, eval e F.X.env) :: starEach es F.X.env := by rfl) (hpl : (backTo pos (starEach es F.X.env)).any (·.1) = false := by rfl) : ER F ρ ω (.Call (.Name x p) (e :: es) [] pos) R w1 := fun σ G H at_ sl Q q => by
  obtain ⟨r, ho, k⟩ := hc
  refine ew_of (pe_callB ho hg hm hv pa_w hn hdb he hpl) (ha σ G H at_ sl _ fun vs G2 H2 s a r => ?_)
  exact k vs G2 H2 a r Q fun v G3 H3 s3 a3 r3 => q v G3 H3 (s.trans s3) a3 r3
theorem er_callTy {id : String} {As : List Rl} {es : List Expr} (hc : Cop F w1 (.type id) As R) (hg : Gl F.X x) (hm : F.X.mg x = none) (hv : bootBuiltins x = some (.type id)) (ha : AR F ρ ω (e :: es) As w1) (hn : x ≠ "__name__" := by decide) (hdb : (x == ("__debug__" : Str)) = false := by decide)
    (he : starEach (e :: es) F.X.env = (false, eval e F.X.env) :: starEach es F.X.env := by rfl) (hpl : (backTo pos (starEach es F.X.env)).any (·.1) = false := by rfl) : ER F ρ ω (.Call (.Name x p) (e :: es) [] pos) R w1 := fun σ G H at_ sl Q q => by
  obtain ⟨r, ho, k⟩ := hc
  refine ew_of (pe_callTy ho hg hm hv pa_w hn hdb he hpl) (ha σ G H at_ sl _ fun vs G2 H2 s a r => ?_)
  exact k vs G2 H2 a r Q fun v G3 H3 s3 a3 r3 => q v G3 H3 (s.trans s3) a3 r3
end
end W1
set_option maxRecDepth 100000
set_option maxHeartbeats 2000000
namespace W1
open PySem PySem.Spec PyProof.Rows L2

section
variable {F : Fx} {ω : Ow} {A B R : Rl}
theorem bop_of {f : Value → Value → Sem Value} {r : R2} {x y z : V} (ho : OpR F.X f r) (h : ∀ (H : Hp) (Q : VK), Q z H → r x y H Q) : Bop F ω f (rEqV x) (rEqV y) (rEqV z) :=
  ⟨r, ho, fun x' y' G H at_ hx hy Q q => by
    have e1 : x' = x := hx
    have e2 : y' = y := hy
    subst e1 e2
    exact h H Q (q z G H (Same.refl _) at_ rfl)⟩
theorem uop_of {f : Value → Sem Value} {r : V → Hp → VK → Prop} {x z : V} (ho : UnR F.X f r) (h : ∀ (H : Hp) (Q : VK), Q z H → r x H Q) : Uop F ω f (rEqV x) (rEqV z) :=
  ⟨r, ho, fun x' G H at_ hx Q q => by
    have e1 : x' = x := hx
    subst e1
    exact h H Q (q z G H (Same.refl _) at_ rfl)⟩
theorem cop_of1 {f : Value} {r : List V → Hp → VK → Prop} {x z : V} (ho : CallR F.X f r) (h : ∀ (H : Hp) (Q : VK), Q z H → r [x] H Q) : Cop F ω f [rEqV x] (rEqV z) :=
  ⟨r, ho, fun xs G H at_ hx Q q => by
    match xs, hx with
    | [x'], ⟨e, _⟩ =>
      have e1 : x' = x := e
      subst e1
      exact h H Q (q z G H (Same.refl _) at_ rfl)⟩
theorem cop_of2 {f : Value} {r : List V → Hp → VK → Prop} {x y z : V} (ho : CallR F.X f r) (h : ∀ (H : Hp) (Q : VK), Q z H → r [x, y] H Q) : Cop F ω f [rEqV x, rEqV y] (rEqV z) :=
  ⟨r, ho, fun xs G H at_ hx Q q => by
    match xs, hx with
    | [x', y'], ⟨e, e', _⟩ =>
      have e1 : x' = x := e
      have e2 : y' = y := e'
      subst e1 e2
      exact h H Q (q z G H (Same.refl _) at_ rfl)⟩
/-! ints -/
theorem op_mulZ {X : Cx} : OpR X (binaryOp .Mult) (rI IntMulOk fun i j => .int (i * j)) := opI fun _ _ _ _ _ _ _ hc q => mul_int q hc
def CDivZ (_ j : Int) : Prop := j ≠ 0 ∧ j.natAbs.log2 < 9000
theorem op_fdivZ {X : Cx} : OpR X (binaryOp .FloorDiv) (rI CDivZ fun i j => .int (i.fdiv j)) := opI fun _ _ _ _ _ _ _ hc q => floordiv_int hc.1 q (.inl (PyProof.noPylong_of_log2 hc.2))
theorem bop_add {i j : Int} : Bop F ω (binaryOp .Add) (rInt i) (rInt j) (rInt (i + j)) := bop_of op_add fun _ _ q => ⟨i, j, rfl, rfl, q⟩
theorem bop_sub {i j : Int} : Bop F ω (binaryOp .Sub) (rInt i) (rInt j) (rInt (i - j)) := bop_of op_sub fun _ _ q => ⟨i, j, rfl, rfl, q⟩
theorem bop_mul {i j : Int} (h : IntMulOk i j) : Bop F ω (binaryOp .Mult) (rInt i) (rInt j) (rInt (i * j)) := bop_of op_mulZ fun _ _ q => ⟨i, j, rfl, rfl, h, q⟩
theorem bop_fdiv {i j : Int} (h : CDivZ i j) : Bop F ω (binaryOp .FloorDiv) (rInt i) (rInt j) (rInt (i.fdiv j)) := bop_of op_fdivZ fun _ _ q => ⟨i, j, rfl, rfl, h, q⟩
theorem bop_mod {i j : Int} (h : j ≠ 0) : Bop F ω (binaryOp .Mod) (rInt i) (rInt j) (rInt (i.fmod j)) := bop_of op_modN fun _ _ q => ⟨i, j, rfl, rfl, h, q⟩
theorem bop_pow {i j : Int} (h : CPow i j) : Bop F ω (binaryOp .Pow) (rInt i) (rInt j) (rInt (i ^ j.toNat)) := bop_of op_pow fun _ _ q => ⟨i, j, rfl, rfl, h, q⟩
theorem bop_lt {i j : Int} : Bop F ω (compareOp .Lt) (rInt i) (rInt j) (rBool (decide (i < j))) := bop_of op_lt fun _ _ q => ⟨i, j, rfl, rfl, q⟩
theorem bop_le {i j : Int} : Bop F ω (compareOp .LtE) (rInt i) (rInt j) (rBool (decide (i ≤ j))) := bop_of op_le fun _ _ q => ⟨i, j, rfl, rfl, q⟩
theorem bop_gt {i j : Int} : Bop F ω (compareOp .Gt) (rInt i) (rInt j) (rBool (decide (j < i))) := bop_of op_gt fun _ _ q => ⟨i, j, rfl, rfl, q⟩
theorem bop_ge {i j : Int} : Bop F ω (compareOp .GtE) (rInt i) (rInt j) (rBool (decide (j ≤ i))) := bop_of op_ge fun _ _ q => ⟨i, j, rfl, rfl, q⟩
theorem bop_eq {x y : V} (h : scal x y = true) : Bop F ω (compareOp .Eq) (rEqV x) (rEqV y) (rBool (decide (x = y))) := bop_of op_eq fun _ _ q => ⟨h, q⟩
theorem bop_ne {x y : V} (h : scal x y = true) : Bop F ω (compareOp .NotEq) (rEqV x) (rEqV y) (rBool (!decide (x = y))) := bop_of op_ne fun _ _ q => ⟨h, q⟩
theorem bop_isN {x : V} : Bop F ω (compareOp .Is) (rEqV x) rNon (rBool (decide (x = .non))) := bop_of op_isN fun _ _ q => ⟨rfl, q⟩
theorem bop_notN {x : V} : Bop F ω (compareOp .IsNot) (rEqV x) rNon (rBool (!decide (x = .non))) := bop_of op_notN fun _ _ q => ⟨rfl, q⟩
theorem dec_i {i j : Int} : decide (V.int i = V.int j) = decide (i = j) := by
  by_cases h : i = j
  · subst h; simp
  · rw [decide_eq_false h, decide_eq_false (fun e => h (V.int.inj e))]
theorem bop_eqI {i j : Int} : Bop F ω (compareOp .Eq) (rInt i) (rInt j) (rBool (decide (i = j))) := by rw [← dec_i]; exact bop_eq rfl
theorem bop_neI {i j : Int} : Bop F ω (compareOp .NotEq) (rInt i) (rInt j) (rBool (!decide (i = j))) := by rw [← dec_i]; exact bop_ne rfl
theorem uop_neg {i : Int} : Uop F ω (unaryOp .USub) (rInt i) (rInt (-i)) := uop_of un_neg fun _ _ q => ⟨i, rfl, q⟩
theorem cop_abs {i : Int} : Cop F ω (.builtin "abs") [rInt i] (rInt (if i < 0 then -i else i)) := cop_of1 call_abs fun _ _ q => ⟨i, rfl, q⟩
theorem cop_int {i : Int} : Cop F ω (.type "int") [rInt i] (rInt i) := cop_of1 call_int1 fun _ _ q => .inl ⟨i, rfl, q⟩
theorem cop_intB {b : Bool} : Cop F ω (.type "int") [rBool b] (rInt (if b then 1 else 0)) := cop_of1 call_int1 fun _ _ q => .inr ⟨b, rfl, q⟩
theorem cop_bool {i : Int} : Cop F ω (.type "bool") [rInt i] (rBool (i != 0)) := cop_of1 call_bool1 fun _ _ q => .inl ⟨i, rfl, q⟩
theorem cop_strI {i : Int} (h : i.natAbs.log2 < 1920) : Cop F ω (.type "str") [rInt i] (rStr (toString i)) := cop_of1 call_str_int fun _ _ q => ⟨i, rfl, h, q⟩
/-! lists -/
theorem all1 {R : Rl} {vs : List V} {H : Hp} (h : All2 [R] vs H) : ∃ v, vs = [v] ∧ R.r v H := by
  match vs, h with
  | [v], ⟨a, _⟩ => exact ⟨v, rfl, a⟩
theorem all2 {R S : Rl} {vs : List V} {H : Hp} (h : All2 [R, S] vs H) : ∃ v w, vs = [v, w] ∧ R.r v H ∧ S.r w H := by
  match vs, h with
  | [v, w], ⟨a, b, _⟩ => exact ⟨v, w, rfl, a, b⟩
theorem cop_lenL {Rs : List Rl} : Cop F ω (.builtin "len") [rLst Rs] (rInt (Rs.length : Int)) := by
  refine ⟨_, call_len_seq, fun xs G H at_ hx Q q => ?_⟩
  obtain ⟨x, rfl, p, vs, rfl, h1, h2⟩ := all1 hx
  have e2 : (vs.length : Int) = (Rs.length : Int) := by rw [h2.len]
  refine ⟨p, vs, rfl, .inl (SqL.of (at_.gh _ _ h1)), ?_⟩
  exact q _ G H (Same.refl _) at_ (congrArg V.int e2)
theorem cop_lenT {Rs : List Rl} : Cop F ω (.builtin "len") [rTup Rs] (rInt (Rs.length : Int)) := by
  refine ⟨_, call_len_seq, fun xs G H at_ hx Q q => ?_⟩
  obtain ⟨x, rfl, p, vs, rfl, h1, h2⟩ := all1 hx
  have e2 : (vs.length : Int) = (Rs.length : Int) := by rw [h2.len]
  refine ⟨p, vs, rfl, .inr (SqT.of (at_.gh _ _ h1)), ?_⟩
  exact q _ G H (Same.refl _) at_ (congrArg V.int e2)
theorem iop_L {Rs : List Rl} {i : Int} {n : Nat} (e : ixN Rs.length i = some n) (h : Rs[n]? = some R) : Iop F ω (rLst Rs) (rInt i) R :=
  ⟨_, ix_list, fun x y G H at_ hx hy Q q => by
    obtain ⟨p, vs, rfl, h1, h2⟩ := hx
    obtain ⟨v, h3, h4⟩ := h2.get h
    have e2 : y = V.int i := hy
    refine ⟨p, vs, i, v, rfl, e2, SqL.of (at_.gh _ _ h1), ?_, q v G H (Same.refl _) at_ h4⟩
    unfold atI
    rw [← h2.len, e]
    exact h3⟩
theorem iop_T {Rs : List Rl} {i : Int} {n : Nat} (e : ixN Rs.length i = some n) (h : Rs[n]? = some R) : Iop F ω (rTup Rs) (rInt i) R :=
  ⟨_, ix_tup, fun x y G H at_ hx hy Q q => by
    obtain ⟨p, vs, rfl, h1, h2⟩ := hx
    obtain ⟨v, h3, h4⟩ := h2.get h
    have e2 : y = V.int i := hy
    refine ⟨p, vs, i, v, rfl, e2, SqT.of (at_.gh _ _ h1), ?_, q v G H (Same.refl _) at_ h4⟩
    unfold atI
    rw [← h2.len, e]
    exact h3⟩
theorem empt {α β : Type} : ∀ {xs : List α} {ys : List β}, xs.length = ys.length → (!xs.isEmpty) = (!ys.isEmpty)
  | [], [], _ => rfl
  | _ :: _, _ :: _, _ => rfl
  | [], _ :: _, h => by cases h
  | _ :: _, [], h => by cases h
theorem tru_lst {K : PySem.W.Frag} {Rs : List Rl} {v : V} {G H : Hp} (e : Same G H) (h : (rLst Rs).r v G) : TruV K v H (!Rs.isEmpty) := by
  obtain ⟨p, vs, rfl, h1, h2⟩ := h
  have e2 : (!Rs.isEmpty) = (!vs.isEmpty) := empt h2.len
  rw [e2]
  exact .inl ⟨vs, SqL.of (e _ _ h1), rfl⟩
end

end W1
set_option maxRecDepth 100000
set_option maxHeartbeats 2000000
namespace W1
open PySem PySem.Spec PyProof.Rows L2

/-! ### what may come behind -/
structure Kn where
  nx : Ty → Ow → Prop := fun _ _ => False
  rt : Rl → Ow → Prop := fun _ _ => False
  bk : Ty → Ow → Prop := fun _ _ => False
  ct : Ty → Ow → Prop := fun _ _ => False
  ex : Ty → Ow → Er → Prop := fun _ _ _ => False
structure Post (F : Fx) (K : Kn) (D : Ends) (G : Hp) : Prop where
  nx : ∀ ρ ω, K.nx ρ ω → ∀ σ G' H', Same G G' → At F ω G' H' → Slots ρ σ G' → D.nx σ H'
  rt : ∀ R ω, K.rt R ω → ∀ v G' H', Same G G' → At F ω G' H' → R.r v G' → D.rt v H'
  bk : ∀ ρ ω, K.bk ρ ω → ∀ σ G' H', Same G G' → At F ω G' H' → Slots ρ σ G' → D.bk σ H'
  ct : ∀ ρ ω, K.ct ρ ω → ∀ σ G' H', Same G G' → At F ω G' H' → Slots ρ σ G' → D.ct σ H'
  ex : ∀ ρ ω P, K.ex ρ ω P → ∀ cls d σ G' H', Same G G' → At F ω G' H' → Slots ρ σ G' → P cls d G' → F.W cls d σ H'
theorem Post.up {F : Fx} {K : Kn} {D : Ends} {G G1 : Hp} (p : Post F K D G) (e : Same G G1) : Post F K D G1 where
  nx := fun ρ ω k σ G' H' s => p.nx ρ ω k σ G' H' (e.trans s)
  rt := fun R ω k v G' H' s => p.rt R ω k v G' H' (e.trans s)
  bk := fun ρ ω k σ G' H' s => p.bk ρ ω k σ G' H' (e.trans s)
  ct := fun ρ ω k σ G' H' s => p.ct ρ ω k σ G' H' (e.trans s)
  ex := fun ρ ω P k cls d σ G' H' s => p.ex ρ ω P k cls d σ G' H' (e.trans s)
def HB (F : Fx) (ρ : Ty) (ω : Ow) (sts : List Stmt) (K : Kn) : Prop :=
  ∀ σ G H D, At F ω G H → Slots ρ σ G → Post F K D G → BW F.X sts D σ H
section
variable {F : Fx} {ρ : Ty} {ω w1 w2 : Ow} {K : Kn} {rest : List Stmt} {st : Stmt} {e c : Expr} {R : Rl} {pos p : Pos} {x : Str}
theorem hb_nil (h : K.nx ρ ω) : HB F ρ ω [] K := fun σ G H D at_ sl ps => bw_of pss_nil (ps.nx ρ ω h σ G H (Same.refl _) at_ sl)
/-- one statement, then the rest -/
theorem hb_cons (h : ∀ σ G H D, At F ω G H → Slots ρ σ G → Post F K D G → SW F.X st { D with nx := BW F.X rest D } σ H) : HB F ρ ω (st :: rest) K := fun σ G H D at_ sl ps =>
  bw_of (pss_cons ps_w pss_w) (h σ G H D at_ sl ps)
theorem hb_pass (h : HB F ρ ω rest K) : HB F ρ ω (.Pass pos :: rest) K := hb_cons fun σ G H D at_ sl ps => sw_of ps_pass (h σ G H D at_ sl ps)
theorem hb_set (i : Nat) (he : ER F ρ ω e R w1) (h : HB F (ρ.set i (some R)) w1 rest K) (hN : F.X.N.Nodup) (hi : F.X.N[i]? = some x := by rfl) (hx : Loc F.X.env.scope x := by first | exact Or.inl rfl | exact Or.inr rfl)
    (hs : swapsWith e (some (.Name x p)) pos.line F.X.env = pure false := by rfl) (hf : F.X.fn x = true ∨ F.X.env.scope.names.lookup x = some .local := by first | exact .inl rfl | exact .inr rfl | assumption) :
    HB F ρ ω (.Assign [.Name x p] e pos :: rest) K := hb_cons fun σ G H D at_ sl ps =>
  sw_of (ps_set hN hi hx pe_w hs hf) (he σ G H at_ sl _ fun v G2 H2 s a r => h _ G2 H2 D a ((sl.up s).set i r) (ps.up s))
theorem hb_setX {P : Er} (i : Nat) (he : EX F ρ ω e P w1) (h : K.ex ρ w1 P) (hN : F.X.N.Nodup) (hi : F.X.N[i]? = some x := by rfl) (hx : Loc F.X.env.scope x := by first | exact Or.inl rfl | exact Or.inr rfl)
    (hs : swapsWith e (some (.Name x p)) pos.line F.X.env = pure false := by rfl) (hf : F.X.fn x = true ∨ F.X.env.scope.names.lookup x = some .local := by first | exact .inl rfl | exact .inr rfl | assumption) :
    HB F ρ ω (.Assign [.Name x p] e pos :: rest) K := hb_cons fun σ G H D at_ sl ps =>
  sw_of (ps_set hN hi hx (PE.mk fun pins s σ H Q I (z : EW F.X e σ H fun _ _ => False) => thn (z pins s I) fun _ _ ⟨_, _, _, _, q⟩ => q.elim) hs hf) (he σ G H at_ sl fun cls d G2 H2 s a r => ps.ex ρ w1 P h cls d σ G2 H2 s a (sl.up s) r)
theorem hb_ret (he : ER F ρ ω e R w1) (h : K.rt R w1) : HB F ρ ω (.Return (some e) pos :: rest) K := hb_cons fun σ G H D at_ sl ps =>
  sw_of (ps_ret pe_w) (he σ G H at_ sl _ fun v G2 H2 s a r => ps.rt R w1 h v G2 H2 s a r)
theorem hb_retN (h : K.rt rNon ω) : HB F ρ ω (.Return none pos :: rest) K := hb_cons fun σ G H D at_ sl ps => sw_of ps_retN (ps.rt rNon ω h _ G H (Same.refl _) at_ rfl)
theorem pe_x {X : Cx} {e : Expr} {t : TE} : PE X e (fun σ H _ => EW X e σ H fun _ _ => False) := ⟨fun pins s σ H Q I z => thn (z pins s I) fun _ _ ⟨_, _, _, _, q⟩ => q.elim⟩
theorem hb_retX {P : Er} (he : EX F ρ ω e P w1) (h : K.ex ρ w1 P) : HB F ρ ω (.Return (some e) pos :: rest) K := hb_cons fun σ G H D at_ sl ps =>
  sw_of (ps_ret (pe_x (t := fun _ _ _ => True))) (he σ G H at_ sl fun cls d G2 H2 s a r => ps.ex ρ w1 P h cls d σ G2 H2 s a (sl.up s) r)
theorem hb_expr (he : ER F ρ ω e R w1) (h : HB F ρ w1 rest K) (hs : swapsWith e none pos.line F.X.env = pure false := by rfl) : HB F ρ ω (.Expr e pos :: rest) K := hb_cons fun σ G H D at_ sl ps =>
  sw_of (ps_expr pe_w hs) (he σ G H at_ sl _ fun v G2 H2 s a r => h _ G2 H2 D a (sl.up s) (ps.up s))
theorem hb_exprX {P : Er} (he : EX F ρ ω e P w1) (h : K.ex ρ w1 P) (hs : swapsWith e none pos.line F.X.env = pure false := by rfl) : HB F ρ ω (.Expr e pos :: rest) K := hb_cons fun σ G H D at_ sl ps =>
  sw_of (ps_expr (pe_x (t := fun _ _ _ => True)) hs) (he σ G H at_ sl fun cls d G2 H2 s a r => ps.ex ρ w1 P h cls d σ G2 H2 s a (sl.up s) r)
/-- behind: the rest -/
def Kn.then (K : Kn) (F : Fx) (rest : List Stmt) : Kn := { K with nx := fun ρ ω => HB F ρ ω rest K }
theorem Post.then {D : Ends} {G : Hp} (ps : Post F K D G) : Post F (K.then F rest) { D with nx := BW F.X rest D } G :=
  ⟨fun ρ ω k σ G' H' s a sl => k σ G' H' D a sl (ps.up s), ps.rt, ps.bk, ps.ct, ps.ex⟩
theorem hb_if {b : Bool} {th el : List Stmt} (hc : TR F ρ ω c b w1) (h1 : b = true → HB F ρ w1 th (K.then F rest)) (h2 : b = false → HB F ρ w1 el (K.then F rest)) : HB F ρ ω (.If c th el pos :: rest) K := hb_cons fun σ G H D at_ sl ps =>
  sw_of (ps_if pt_w pss_w pss_w) (hc σ G H at_ sl _ fun G2 H2 s a => by
    cases b with
    | true => exact iteT (h1 rfl σ G2 H2 _ a (sl.up s) (ps.up s).then)
    | false => exact iteF (h2 rfl σ G2 H2 _ a (sl.up s) (ps.up s).then))
theorem hb_break (h : K.bk ρ ω) : HB F ρ ω (.Break pos :: rest) K := hb_cons fun σ G H D at_ sl ps => sw_of ps_break (ps.bk ρ ω h σ G H (Same.refl _) at_ sl)
theorem hb_continue (h : K.ct ρ ω) : HB F ρ ω (.Continue pos :: rest) K := hb_cons fun σ G H D at_ sl ps => sw_of ps_continue (ps.ct ρ ω h σ G H (Same.refl _) at_ sl)
/-- the slots of ρ' are known from those of ρ -/
theorem hb_weak {ρ' : Ty} (hl : ρ'.length = ρ.length) (hw : ∀ (i : Nat) (S : Rl), ρ'[i]? = some (some S) → ∃ R : Rl, ρ[i]? = some (some R) ∧ ∀ v H, R.r v H → S.r v H) (h : HB F ρ' ω rest K) : HB F ρ ω rest K := fun σ G H D at_ sl ps =>
  h σ G H D at_ ⟨by rw [hl]; exact sl.len, fun i S e => by
    obtain ⟨R, e1, k⟩ := hw i S e
    obtain ⟨v, e2, r⟩ := sl.at_ i R e1
    exact ⟨v, e2, k v G r⟩⟩ ps
/-- loops -/
def Kn.loop (K : Kn) (F : Fx) (rest : List Stmt) (N : Ty → Ow → Prop) : Kn := { nx := N, ct := N, bk := fun ρ ω => HB F ρ ω rest K, rt := K.rt, ex := K.ex }
theorem hb_while {body : List Stmt} (I : Nat → Ty → Ow → Prop) (m0 : Nat) (h0 : I m0 ρ ω)
    (hs : ∀ m ρ ω, I m ρ ω → ∃ b w1, TR F ρ ω c b w1 ∧ (b = true → HB F ρ w1 body (K.loop F rest fun ρ' ω' => ∃ m', m' < m ∧ I m' ρ' ω')) ∧ (b = false → HB F ρ w1 rest K))
    (hp : PassesOwn (model F.X.prog F.X.w) F.X.A F.X.env F.X.xe) : HB F ρ ω (.While c body [] pos :: rest) K := hb_cons fun σ G H D at_ sl ps => by
  refine sw_of (ps_while hp pt_w pss_w) ⟨fun m σ H => ∃ ρ ω G, I m ρ ω ∧ At F ω G H ∧ Slots ρ σ G ∧ Post F K D G, ⟨m0, ρ, ω, G, h0, at_, sl, ps⟩, ?_⟩
  rintro m σ1 H1 ⟨ρ1, ω1, G1, i1, a1, sl1, ps1⟩
  obtain ⟨b, w1, hc, ht, hf⟩ := hs m ρ1 ω1 i1
  refine hc σ1 G1 H1 a1 sl1 _ fun G2 H2 s2 a2 => ?_
  cases b with
  | true =>
    refine iteT ⟨fun σ' H' => ∃ m', m' < m ∧ ∃ ρ ω G, I m' ρ ω ∧ At F ω G H' ∧ Slots ρ σ' G ∧ Post F K D G, fun σ' H' z => z, ?_⟩
    refine ht rfl σ1 G2 H2 _ a2 (sl1.up s2) ⟨fun ρ ω ⟨m', l, i'⟩ σ' G' H' s a sl => ⟨m', l, ρ, ω, G', i', a, sl, (ps1.up s2).up s⟩, (ps1.up s2).rt, fun ρ ω k σ' G' H' s a sl => k σ' G' H' D a sl ((ps1.up s2).up s), fun ρ ω ⟨m', l, i'⟩ σ' G' H' s a sl => ⟨m', l, ρ, ω, G', i', a, sl, (ps1.up s2).up s⟩, (ps1.up s2).ex⟩
  | false => exact iteF (hf rfl σ1 G2 H2 D a2 (sl1.up s2) (ps1.up s2))
end

/-! ### what a loop walks -/
structure Yld (J : It) (Rs : List Rl) (G : Hp) : Prop where
  go : ∀ i G' H', Same G G' → Same G' H' → i < Rs.length → J.go i H'
  stop : ∀ G' H', Same G G' → Same G' H' → J.stop Rs.length H'
  yld : ∀ (i : Nat) (R : Rl) G' H' x H'', Same G G' → Same G' H' → Rs[i]? = some R → J.yld i H' x H'' → ∃ G'', Step G' H' G'' H'' ∧ R.r x G''
theorem Yld.up {J : It} {Rs : List Rl} {G G1 : Hp} (y : Yld J Rs G) (e : Same G G1) : Yld J Rs G1 :=
  ⟨fun i G' H' s => y.go i G' H' (e.trans s), fun G' H' s => y.stop G' H' (e.trans s), fun i R G' H' x H'' s => y.yld i R G' H' x H'' (e.trans s)⟩
def IT (F : Fx) (ρ : Ty) (ω : Ow) (tg it : Expr) (Rs : List Rl) (w1 : Ow) : Prop :=
  ∃ wi, PI F.X tg it wi ∧ ∀ σ G H, At F ω G H → Slots ρ σ G → ∀ R : It → Hp → Prop, (∀ J G2 H2, Same G G2 → At F w1 G2 H2 → Yld J Rs G2 → R J H2) → wi σ H R
/-- what a target does to the slots -/
def GE (g : TG) (ρ : Ty) (S : Rl) (ρ' : Ty) : Prop :=
  ∀ v σ G H (Q : L2.St → Hp → Prop), Same G H → Slots ρ σ G → S.r v G → (∀ σ', Slots ρ' σ' G → Q σ' H) → g v σ H Q
def GEs (g : TGs) (ρ : Ty) (Rs : List Rl) (ρ' : Ty) : Prop :=
  ∀ vs σ G H (Q : L2.St → Hp → Prop), Same G H → Slots ρ σ G → All2 Rs vs G → (∀ σ', Slots ρ' σ' G → Q σ' H) → g vs σ H Q
section
variable {F : Fx} {X : Cx} {ρ ρ1 ρ2 : Ty} {ω w1 w2 : Ow} {K : Kn} {rest : List Stmt} {e e2 it tg : Expr} {R S : Rl} {pos p : Pos} {x : Str} {Rs Ss : List Rl}
theorem ge_name {i : Nat} : GE (gName i) ρ S (ρ.set i (some S)) := fun v σ G H Q s sl r q => q _ (sl.set i r)
theorem ges_nil : GEs gNil ρ [] ρ := fun vs σ G H Q s sl r q => by
  match vs, r with
  | [], _ => exact ⟨rfl, q _ sl⟩
theorem ges_cons {g : TG} {gs : TGs} (h1 : GE g ρ R ρ1) (h2 : GEs gs ρ1 Rs ρ2) : GEs (gCons g gs) ρ (R :: Rs) ρ2 := fun vs σ G H Q s sl r q => by
  match vs, r with
  | v :: vs, ⟨r1, r2⟩ => exact ⟨v, vs, rfl, h1 v σ G H _ s sl r1 fun σ' sl' => h2 vs σ' G H Q s sl' r2 q⟩
theorem ge_tup {K : PySem.W.Frag} {n : Nat} {gs : TGs} (h : GEs gs ρ Rs ρ1) (hl : Rs.length = n) : GE (gTup K n gs) ρ (rTup Rs) ρ1 := fun v σ G H Q s sl r q => by
  obtain ⟨a, vs, rfl, h1, h2⟩ := r
  exact ⟨a, vs, rfl, SqT.of (s _ _ h1), by rw [← h2.len]; exact hl, h vs σ G H Q s sl h2 q⟩
theorem hb_asg {g : TG} (he : ER F ρ ω e R w1) (pg : PG F.X tg g) (hg : GE g ρ R ρ1) (h : HB F ρ1 w1 rest K) (hs : swapsWithSole [tg] e pos.line F.X.env = pure false := by rfl) (hw : swappedStores [tg] e F.X.env = pure none := by rfl)
    (h1 : (assignEach [tg] F.X.env).map (·.2) = [assign tg F.X.env] := by rfl) : HB F ρ ω (.Assign [tg] e pos :: rest) K := hb_cons fun σ G H D at_ sl ps =>
  sw_of (ps_asg pe_w pg hs hw h1) (he σ G H at_ sl _ fun v G2 H2 s a r => hg v σ G2 H2 _ a.gh (sl.up s) r fun σ' sl' => h σ' G2 H2 D a sl' (ps.up s))
/-- a, b = e1, e2 -/
theorem hb_par {x y : Str} {a b : Expr} {px py pt : Pos} {kt k2 pt2} (i j : Nat) (ha : AR F ρ ω [a, b] [R, S] w1) (h : HB F ((ρ.set i (some R)).set j (some S)) w1 rest K) (hN : F.X.N.Nodup) (hij : i ≠ j := by decide) (hi : F.X.N[i]? = some x := by rfl) (hj : F.X.N[j]? = some y := by rfl)
    (hx : F.X.env.scope.names.lookup x = some .local := by rfl) (hy : F.X.env.scope.names.lookup y = some .local := by rfl) (hc : F.X.calm = true := by rfl)
    (hw : swappedStores [.Tuple [.Name x px, .Name y py] kt pt] (.Tuple [a, b] k2 pt2) F.X.env = pure (some [x, y]) := by rfl)
    (hs : swapsWithSole [.Tuple [.Name x px, .Name y py] kt pt] (.Tuple [a, b] k2 pt2) pos.line F.X.env = pure false := by rfl) :
    HB F ρ ω (.Assign [.Tuple [.Name x px, .Name y py] kt pt] (.Tuple [a, b] k2 pt2) pos :: rest) K := hb_cons fun σ G H D at_ sl ps => by
  refine sw_of (ps_par hc hN hi hj hij hx hy pa_w hw hs) (ha σ G H at_ sl _ fun vs G2 H2 s a r => ?_)
  obtain ⟨v, w, rfl, r1, r2⟩ := all2 r
  exact ⟨v, w, rfl, h _ G2 H2 D a (((sl.up s).set i r1).set j r2) (ps.up s)⟩
/-! lists, tuples, ranges, pairs -/
theorem it_lst (he : ER F ρ ω it (rLst Rs) w1) : IT F ρ ω tg it Rs w1 := ⟨_, pi_list pe_w, fun σ G H at_ sl R k => he σ G H at_ sl _ fun v G2 H2 s a r => by
  obtain ⟨a', vs, rfl, h1, h2⟩ := r
  refine ⟨a', rfl, ⟨vs, SqL.of (a.gh _ _ h1)⟩, k _ G2 H2 s a ⟨fun i G' H' s1 s2 hi => ⟨vs, vs[i]'(by rw [← h2.len]; exact hi), SqL.of (s2 _ _ (s1 _ _ h1)), List.getElem?_eq_getElem _⟩, fun G' H' s1 s2 => ⟨vs, SqL.of (s2 _ _ (s1 _ _ h1)), by rw [h2.len]; exact Nat.le_refl _⟩, fun i R G' H' x H'' s1 s2 hR y => ?_⟩⟩
  obtain ⟨rfl, y⟩ := y
  obtain ⟨v, hv, rv⟩ := h2.get hR
  have e := y vs (SqL.of (s2 _ _ (s1 _ _ h1)))
  rw [hv] at e
  cases e
  exact ⟨G', Step.refl s2, R.mo _ _ _ s1 rv⟩⟩
theorem it_tup (he : ER F ρ ω it (rTup Rs) w1) : IT F ρ ω tg it Rs w1 := ⟨_, pi_tup pe_w, fun σ G H at_ sl R k => he σ G H at_ sl _ fun v G2 H2 s a r => by
  obtain ⟨a', vs, rfl, h1, h2⟩ := r
  refine ⟨a', rfl, ⟨vs, SqT.of (a.gh _ _ h1)⟩, k _ G2 H2 s a ⟨fun i G' H' s1 s2 hi => ⟨vs, vs[i]'(by rw [← h2.len]; exact hi), SqT.of (s2 _ _ (s1 _ _ h1)), List.getElem?_eq_getElem _⟩, fun G' H' s1 s2 => ⟨vs, SqT.of (s2 _ _ (s1 _ _ h1)), by rw [h2.len]; exact Nat.le_refl _⟩, fun i R G' H' x H'' s1 s2 hR y => ?_⟩⟩
  obtain ⟨rfl, y⟩ := y
  obtain ⟨v, hv, rv⟩ := h2.get hR
  have e := y vs (SqT.of (s2 _ _ (s1 _ _ h1)))
  rw [hv] at e
  cases e
  exact ⟨G', Step.refl s2, R.mo _ _ _ s1 rv⟩⟩
def rng (lo : Int) (n : Nat) : List Rl := (List.range n).map fun (k : Nat) => rInt (lo + (k : Int))
theorem rng_len {lo : Int} {n : Nat} : (rng lo n).length = n := by unfold rng; rw [List.length_map, List.length_range]
theorem yld_rng {lo : Int} {n : Nat} {G : Hp} : Yld (Itr lo n) (rng lo n) G :=
  ⟨fun i _ _ _ _ hi => by rw [rng_len] at hi; exact hi, fun _ _ _ _ => by rw [rng_len]; exact Nat.le_refl n, fun i R G' H' x H'' s1 s2 hR y => by
    obtain ⟨rfl, rfl⟩ := y
    unfold rng at hR
    rw [List.getElem?_map] at hR
    cases h : (List.range n)[i]? with
    | none => rw [h] at hR; cases hR
    | some k =>
      rw [h] at hR
      have ek : k = i := by
        obtain ⟨hl, e⟩ := List.getElem?_eq_some_iff.mp h
        rw [List.getElem_range] at e
        exact e.symm
      subst ek
      cases hR
      exact ⟨G', Step.refl s2, rfl⟩⟩
theorem it_rng1 {n : Int} (he : AR F ρ ω [e] [rInt n] w1) (hg : Gl F.X "range") (hm : F.X.mg "range" = none) (hn : -(2 ^ 62) ≤ n ∧ n < 2 ^ 62) (hs : starEach [e] F.X.env = [(false, eval e F.X.env)] := by rfl) : IT F ρ ω tg (.Call (.Name "range" p) [e] [] pos) (rng 0 n.toNat) w1 :=
  ⟨_, pi_range1 hg hm pa_w hs, fun σ G H at_ sl R k => he σ G H at_ sl _ fun v G2 H2 s a r => by
    obtain ⟨y, rfl, ey⟩ := all1 r
    cases (show y = V.int n from ey)
    exact ⟨n, rfl, hn.1, hn.2, k _ G2 H2 s a yld_rng⟩⟩
theorem it_rng2 {m n : Int} (he : AR F ρ ω [e, e2] [rInt m, rInt n] w1) (hg : Gl F.X "range") (hm : F.X.mg "range" = none) (hn : -(2 ^ 62) ≤ m ∧ m < 2 ^ 62 ∧ -(2 ^ 62) ≤ n ∧ n < 2 ^ 62)
    (hs : starEach [e, e2] F.X.env = [(false, eval e F.X.env), (false, eval e2 F.X.env)] := by rfl) (hs2 : starEach [e2] F.X.env = [(false, eval e2 F.X.env)] := by rfl) : IT F ρ ω tg (.Call (.Name "range" p) [e, e2] [] pos) (rng m (n - m).toNat) w1 :=
  ⟨_, pi_range2 hg hm pa_w hs hs2, fun σ G H at_ sl R k => he σ G H at_ sl _ fun v G2 H2 s a r => by
    obtain ⟨y, z, rfl, ey, ez⟩ := all2 r
    cases (show y = V.int m from ey)
    cases (show z = V.int n from ez)
    exact ⟨m, n, rfl, hn, k _ G2 H2 s a yld_rng⟩⟩
/-- the loop -/
theorem hb_for {g : TG} {body : List Stmt} (hit : IT F ρ ω tg it Rs w1) (I : Nat → Ty → Ow → Prop) (h0 : I 0 ρ w1)
    (hs : ∀ (k : Nat) ρ ω (S : Rl), Rs[k]? = some S → I k ρ ω → ∃ ρ', GE g ρ S ρ' ∧ HB F ρ' ω body (K.loop F rest (I (k + 1)))) (hd : ∀ ρ ω, I Rs.length ρ ω → HB F ρ ω rest K)
    (hp : PassesOwn (model F.X.prog F.X.w) F.X.A F.X.env F.X.xe) (hpg : PG F.X tg g) (hc : F.X.calm = true := by rfl)
    (hfs : ∀ z, foldedSetIterable it F.X.env z = pure z := by intro _; rfl) : HB F ρ ω (.For tg it body [] pos :: rest) K := hb_cons fun σ G H D at_ sl ps => by
  obtain ⟨wi, hpi, hwi⟩ := hit
  refine sw_of (ps_for hp hc hpi hpg pss_w hfs) (hwi σ G H at_ sl _ fun J G2 H2 s2 a2 y2 => ?_)
  refine ⟨fun i m σ H => m = Rs.length - i ∧ i ≤ Rs.length ∧ ∃ ρ ω G, I i ρ ω ∧ At F ω G H ∧ Slots ρ σ G ∧ Same G2 G ∧ Post F K D G, ⟨Rs.length, by simp, Nat.zero_le _, ρ, w1, G2, h0, a2, sl.up s2, Same.refl _, ps.up s2⟩, ?_⟩
  rintro i m σ1 H1 ⟨rfl, hi, ρ1, ω1, G1, i1, a1, sl1, s1, ps1⟩
  by_cases hlt : i < Rs.length
  · refine .inr ⟨y2.go i G1 H1 s1 a1.gh hlt, fun σ' H' => ∃ ρ ω G, I (i + 1) ρ ω ∧ At F ω G H' ∧ Slots ρ σ' G ∧ Same G2 G ∧ Post F K D G, fun σ' H' z => ⟨Rs.length - (i + 1), by omega, rfl, hlt, z⟩, fun x H' y => ?_⟩
    obtain ⟨G3, st, rx⟩ := y2.yld i Rs[i] G1 H1 x H' s1 a1.gh (List.getElem?_eq_getElem hlt) y
    obtain ⟨ρ', ga, hb⟩ := hs i ρ1 ω1 Rs[i] (List.getElem?_eq_getElem hlt) i1
    have a3 := a1.step st
    refine ga x σ1 G3 H' _ a3.gh (sl1.up st.gg) rx fun σ2 sl2 => ?_
    have ps3 := ps1.up st.gg
    have s3 : Same G2 G3 := s1.trans st.gg
    exact hb σ2 G3 H' _ a3 sl2 ⟨fun ρ ω i' σ' G' H' s a sl => ⟨ρ, ω, G', i', a, sl, s3.trans s, ps3.up s⟩, ps3.rt, fun ρ ω k' σ' G' H' s a sl => k' σ' G' H' D a sl (ps3.up s), fun ρ ω i' σ' G' H' s a sl => ⟨ρ, ω, G', i', a, sl, s3.trans s, ps3.up s⟩, ps3.ex⟩
  · have e : i = Rs.length := by omega
    subst e
    exact .inl ⟨y2.stop G1 H1 s1 a1.gh, hd ρ1 ω1 i1 σ1 G1 H1 D a1 sl1 ps1⟩
end
end W1
set_option maxRecDepth 100000
set_option maxHeartbeats 2000000
namespace W1
open PySem PySem.Spec PyProof.Rows L2

/-! ### promises -/
/-- what is owned, in a heap -/
def Has (ω : Ow) (G H : Hp) : Prop := ∀ p ∈ ω, G p.1 = none ∧ ∃ o, H p.1 = some o ∧ p.2.c o G
structure StepM (M : List Addr) (G H G' H' : Hp) : Prop where
  gg : Same G G'
  hh : ∀ a o, a ∉ M → H a = some o → H' a = some o
  gh : Same G' H'
  fr : ∀ a, H a ≠ none → G a = none → G' a = none
abbrev Pre := List Rl → Ow → Out → Ow → Prop
def keys (ω : Ow) : List Addr := ω.map (·.1)
/-- a def's promise: from the relations of the arguments and what is handed over, what comes out and what becomes of what was handed over -/
def spM (pre : Pre) : Sp := fun vs H Q E => ∃ Rs ω o ω' G, pre Rs ω o ω' ∧ Same G H ∧ All2 Rs vs G ∧ Has ω G H ∧ (keys ω).Nodup ∧ keys ω' = keys ω ∧
  (match o with
    | .ok R => ∀ v G' H', StepM (keys ω) G H G' H' → Has ω' G' H' → R.r v G' → Q v H'
    | .error P => ∀ cls d G' H', StepM (keys ω) G H G' H' → Has ω' G' H' → P cls d G' → E cls d H')
/-- what a body is to come to -/
def Kf (o : Out) (ω' : Ow) : Kn where
  nx := fun _ w => ∃ R w0, o = .ok R ∧ (∀ G, R.r .non G) ∧ w = ω' ++ w0
  rt := fun S w => ∃ R w0, o = .ok R ∧ (∀ v G, S.r v G → R.r v G) ∧ w = ω' ++ w0
  ex := fun _ w P => ∃ P' w0, o = .error P' ∧ (∀ cls d G, P cls d G → P' cls d G) ∧ w = ω' ++ w0
theorem Has.left {ω w : Ow} {G H : Hp} (h : Has (ω ++ w) G H) : Has ω G H := fun p hp => h p (List.mem_append_left _ hp)
theorem At.has {F : Fx} {ω : Ow} {G H : Hp} (a : At F ω G H) : Has ω G H := fun p hp => let ⟨x, _, z⟩ := a.ow p hp; ⟨x, z⟩
theorem At.stepM {F : Fx} {wc wc' w : Ow} {G H G' H' : Hp} (a : At F (wc ++ w) G H) (s : StepM (keys wc) G H G' H') (h : Has wc' G' H') (hk : keys wc' = keys wc) : At F (wc' ++ w) G' H' := by
  have own : ∀ b ∈ keys wc, G b = none ∧ (F.H0 b = none ∨ b ∈ F.M) ∧ H b ≠ none := fun b hb => by
    obtain ⟨p, hp, e⟩ := List.mem_map.mp hb
    obtain ⟨x, y, o, z, _⟩ := a.ow p (List.mem_append_left _ hp)
    exact ⟨by rw [← e]; exact x, by rw [← e]; exact y, by rw [← e, z]; simp⟩
  have nd := a.nd
  rw [List.map_append] at nd
  have kk : ∀ b, b ∈ keys wc → H' b ≠ none := fun b hb => by
    rw [← hk] at hb
    obtain ⟨p, hp, e⟩ := List.mem_map.mp hb
    obtain ⟨_, o, z, _⟩ := h p hp
    rw [← e, z]
    simp
  refine ⟨a.gg.trans s.gg, fun b o hb e => ?_, s.gh, fun b h1 h2 => ?_, fun b hb => ?_, fun p hp => ?_, ?_⟩
  · refine s.hh b o (fun hm => ?_) (a.hh b o hb e)
    rcases (own b hm).2.1 with z | z
    · rw [z] at e; cases e
    · exact hb z
  · refine s.fr b ?_ (a.fr b h1 h2)
    by_cases hb : b ∈ F.M
    · exact a.mm b hb
    · cases e : F.H0 b with
      | none => exact absurd e h1
      | some o => rw [a.hh b o hb e]; simp
  · by_cases hm : b ∈ keys wc
    · exact kk b hm
    · cases e : H b with
      | none => exact absurd e (a.mm b hb)
      | some o => rw [s.hh b o hm e]; simp
  · rcases List.mem_append.mp hp with hp | hp
    · obtain ⟨x, o, y, z⟩ := h p hp
      refine ⟨x, ?_, o, y, z⟩
      have hm : p.1 ∈ keys wc := by rw [← hk]; exact List.mem_map_of_mem hp
      exact (own p.1 hm).2.1
    · obtain ⟨x, y, o, z, c⟩ := a.ow p (List.mem_append_right _ hp)
      have hm : p.1 ∉ keys wc := fun hm => by
        have := (List.nodup_append.mp nd).2.2 p.1 hm p.1 (List.mem_map_of_mem hp)
        exact this rfl
      exact ⟨s.fr p.1 (by rw [z]; simp) x, y, o, s.hh _ _ hm z, p.2.mo _ _ _ s.gg c⟩
  · rw [List.map_append]
    show (keys wc' ++ keys w).Nodup
    rw [hk]
    exact nd
/-- a body keeps the promise -/
theorem fn_ok {P : Program} {w : World} {K : PySem.W.Frag} {mg : Str → Option Value} {base : Heap} {x qual : Str} {st : Stmt} {f : Addr} {fd : FuncData} {N ps : List Str} {k : Nat} {pre : Pre} (Fn : Fun K x qual st f fd) (S : FnScope N ps (defScope st))
    (hl : ∀ Rs ω o ω', pre Rs ω o ω' → Rs.length = ps.length)
    (hb : ∀ (cdv : Value) (A : Around) (outer : List Env) (s : Shared) (H : Hp) (E : XK) (F : Fx), Room k (A.deeper (envOfC qual (defScope st) s.heap.objs.size f cdv)) → F.X = cxOf (L2.CX P w) P w K mg base N qual (defScope st) f cdv A outer s H E →
      ∀ Rs ω o ω', pre Rs ω o ω' → HB F (Rs.map some ++ List.replicate (N.length - Rs.length) none) ω (defBody st) (Kf o ω')) : FnOk P w K mg base (L2.CX P w) (k + 1) f fd ps (spM pre) := by
  refine Fn.okX S (fun vs H Q E h => ?_) (fun cdv A outer s H vs Q E hr h => ?_)
  · obtain ⟨Rs, ω, o, ω', G, hp, _, h2, _⟩ := h
    rw [← h2.len]
    exact hl _ _ _ _ hp
  · obtain ⟨Rs, ω, o, ω', G, hp, hgh, hv, hhas, hnd, hk, hq⟩ := h
    have tk : Takes (cxOf (L2.CX P w) P w K mg base N qual (defScope st) f cdv A outer s H E) (fun cls d _ H => E cls d H) := takes_of rfl rfl rfl rfl
    refine ⟨_, pss_w, hb cdv A outer s H E ⟨cxOf (L2.CX P w) P w K mg base N qual (defScope st) f cdv A outer s H E, G, H, keys ω, fun cls d _ H => E cls d H, tk⟩ hr rfl Rs ω o ω' hp (L2.start N vs) G H _ ?_ ?_ ?_⟩
    · exact ⟨Same.refl _, fun a o _ e => e, hgh, fun a _ e => e, fun a ha => by
        obtain ⟨p, hp, e⟩ := List.mem_map.mp ha
        obtain ⟨_, o, z, _⟩ := hhas p hp
        rw [← e, z]
        simp, fun p hp => let ⟨x, z⟩ := hhas p hp; ⟨x, .inr (List.mem_map_of_mem hp), z⟩, hnd⟩
    · unfold L2.start
      have e := hv.len
      refine ⟨by simp [e], fun i R hi => ?_⟩
      by_cases h : i < Rs.length
      · rw [List.getElem?_append_left (by simpa using h), List.getElem?_map] at hi
        cases h1 : Rs[i]? with
        | none => rw [h1] at hi; cases hi
        | some R' =>
          rw [h1] at hi
          cases hi
          obtain ⟨v, h2, h3⟩ := hv.get h1
          exact ⟨v, by rw [List.getElem?_append_left (by rw [List.length_map, ← e]; exact h), List.getElem?_map, h2]; rfl, h3⟩
      · rw [List.getElem?_append_right (by simpa using h), List.getElem?_replicate] at hi
        split at hi <;> cases hi
    · have fin : ∀ {w0 : Ow} {G' H' : Hp}, At ⟨cxOf (L2.CX P w) P w K mg base N qual (defScope st) f cdv A outer s H E, G, H, keys ω, fun cls d _ H => E cls d H, tk⟩ (ω' ++ w0) G' H' → StepM (keys ω) G H G' H' ∧ Has ω' G' H' :=
        fun a => ⟨⟨a.gg, a.hh, a.gh, a.fr⟩, a.has.left⟩
      refine ⟨fun ρ w1 hk σ G' H' s a sl => ?_, fun R w1 hk v G' H' s a r => ?_, fun _ _ hk => hk.elim, fun _ _ hk => hk.elim, fun ρ w1 P' hk cls d σ G' H' s a sl hP => ?_⟩
      · obtain ⟨R, w0, rfl, h1, rfl⟩ := hk
        obtain ⟨h2, h3⟩ := fin a
        exact hq _ _ _ h2 h3 (h1 _)
      · obtain ⟨R', w0, rfl, h1, rfl⟩ := hk
        obtain ⟨h2, h3⟩ := fin a
        exact hq _ _ _ h2 h3 (h1 _ _ r)
      · obtain ⟨P'', w0, rfl, h1, rfl⟩ := hk
        obtain ⟨h2, h3⟩ := fin a
        exact hq _ _ _ _ h2 h3 (h1 _ _ _ hP)
/-- asking it -/
theorem sp_ok {F : Fx} {pre : Pre} {Rs : List Rl} {wc wc' w : Ow} {R : Rl} {vs : List V} {G H : Hp} {Q : VK} {E : XK} (at_ : At F (wc ++ w) G H) (hv : All2 Rs vs G) (hp : pre Rs wc (.ok R) wc') (hk : keys wc' = keys wc)
    (q : ∀ v G2 H2, Same G G2 → At F (wc' ++ w) G2 H2 → R.r v G2 → Q v H2) : spM pre vs H Q E :=
  ⟨Rs, wc, .ok R, wc', G, hp, at_.gh, hv, at_.has.left, by have := at_.nd; rw [List.map_append] at this; exact (List.nodup_append.mp this).1, hk, fun v G' H' s h r => q v G' H' s.gg (at_.stepM s h hk) r⟩
theorem sp_er {F : Fx} {pre : Pre} {Rs : List Rl} {wc wc' w : Ow} {P : Er} {vs : List V} {G H : Hp} {Q : VK} {E : XK} (at_ : At F (wc ++ w) G H) (hv : All2 Rs vs G) (hp : pre Rs wc (.error P) wc') (hk : keys wc' = keys wc)
    (q : ∀ cls d G2 H2, Same G G2 → At F (wc' ++ w) G2 H2 → P cls d G2 → E cls d H2) : spM pre vs H Q E :=
  ⟨Rs, wc, .error P, wc', G, hp, at_.gh, hv, at_.has.left, by have := at_.nd; rw [List.map_append] at this; exact (List.nodup_append.mp this).1, hk, fun cls d G' H' s h r => q cls d G' H' s.gg (at_.stepM s h hk) r⟩

/-! ### calls, at the slots -/
section
variable {X : Cx} {CX : CXT} {k : Nat} {f C g pc : Addr} {fd : FuncData} {ps : List Str} {sp : Sp} {E : L2.St → XK} {x m : Str} {p pos apos : Pos} {e o : Expr} {es : List Expr} {ta : TE} {t : TA}
def tMethS (C : Addr) (m : Str) (sp : Sp) (E : L2.St → XK) (ta : TE) (t : TA) : TE := fun σ H Q => ta σ H fun x H1 => ∃ a dx fs, x = .ref a ∧ H1 a = some (.ins C dx fs) ∧ fs.lookup m = none ∧ t σ H1 fun vs H2 => sp (x :: vs) H2 Q (E σ)
def tMakeS (C : Addr) (sp : Sp) (E : L2.St → XK) (t : TA) : TE := fun σ H Q => t σ H fun vs H1 => ∀ x dx, H1 x = none → H1 dx = none → dx ≠ x →
  sp (.ref x :: vs) (upd (upd H1 dx (.own x)) x (.ins C dx [])) (fun v H2 => v = .non ∧ Q (.ref x) H2) (E σ)
theorem pe_methS {pl : Sem Bool} (he : PE X o ta) (c : Cls X.K C) (hm : Meth X.K C m f) (F : FnOk X.prog X.w X.K X.mg X.base CX k f fd ps sp) (hr : Room k X.A) (hb : Binds X.K fd ps []) (hx : ∀ σ, PassesAt CX X σ (E σ)) (ha : PA X (e :: es) t)
    (hst : starEach (e :: es) X.env = (false, eval e X.env) :: starEach es X.env := by rfl) (hpl : (backTo pos (starEach es X.env)).any (·.1) = false := by rfl)
    (ht : eval (.Call (.Attribute o m apos) (e :: es) [] pos) X.env = (do
      let ov ← eval o X.env
      standAt apos.atName
      let (f, first) ← holding [ov] (getMethod ov m pl)
      callWith pos f first (backTo pos (starEach (e :: es) X.env)) (backToKw pos (keywordEach [] X.env))) := by rfl) :
    PE X (.Call (.Attribute o m apos) (e :: es) [] pos) (tMethS C m sp E ta t) := by
  refine ⟨fun pins s σ H Q I h => ?_⟩
  refine PySem.W.methodCall_KW (pl := pl) (thn (he.run pins s σ H _ I h) fun u s1 ⟨x, H1, I1, rx, a, dx, fs, ex, ea, l, q⟩ => ?_) ht
  subst ex
  obtain rfl : u = Value.ref a := rx
  refine getmeth_ok I1 ea c hm l ?_
  refine PySem.W.callWith_K (first := [.ref a]) (h₀ := X.base) I.ok.mod.kin hm.kp (thn (ha.run pos pins s1 σ H1 _ I1 q) fun us s2 ⟨vs, H2, I2, r, q2⟩ => ⟨I2.kIn, ?_⟩) hst hpl
  exact run_fnS (us := .ref a :: us) (vs := .ref a :: vs) F hr hb (hx σ) I2 (.cons rfl r) q2
theorem pe_methS0 {pl : Sem Bool} (he : PE X o ta) (c : Cls X.K C) (hm : Meth X.K C m f) (F : FnOk X.prog X.w X.K X.mg X.base CX k f fd ps sp) (hr : Room k X.A) (hb : Binds X.K fd ps []) (hx : ∀ σ, PassesAt CX X σ (E σ))
    (ht : eval (.Call (.Attribute o m apos) [] [] pos) X.env = (do
      let ov ← eval o X.env
      standAt apos.atName
      let (f, first) ← holding [ov] (getMethod ov m pl)
      callWith pos f first (backTo pos (starEach [] X.env)) (backToKw pos (keywordEach [] X.env))) := by rfl) :
    PE X (.Call (.Attribute o m apos) [] [] pos) (tMethS C m sp E ta tNil) := by
  refine ⟨fun pins s σ H Q I h => ?_⟩
  refine PySem.W.methodCall_KW (pl := pl) (thn (he.run pins s σ H _ I h) fun u s1 ⟨x, H1, I1, rx, a, dx, fs, ex, ea, l, q⟩ => ?_) ht
  subst ex
  obtain rfl : u = Value.ref a := rx
  refine getmeth_ok I1 ea c hm l ?_
  exact PySem.W.callWith_K0 (first := [.ref a]) I1.kIn hm.kp (run_fnS (us := [.ref a]) (vs := [.ref a]) F hr hb (hx σ) I1 (.cons rfl .nil) q)
theorem run_makeS {pins : List (Addr × Obj)} {σ : L2.St} {H : Hp} {s : Shared} {Q : VK} {us : List Value} {vs : List V} (M : Mk X.K C f) (F : FnOk X.prog X.w X.K X.mg X.base CX k f fd ps sp) (hr : Room (k + 1) X.A) (hb : Binds X.K fd ps [])
    (hx : PassesAt CX X σ (E σ)) (I : Inv X pins σ H s) (r : Vals vs us)
    (h : ∀ x dx, H x = none → H dx = none → dx ≠ x → sp (.ref x :: vs) (upd (upd H dx (.own x)) x (.ins C dx [])) (fun v H2 => v = .non ∧ Q (.ref x) H2) (E σ)) :
    wpAny (model X.prog X.w) X.A (call (.ref C) us) (EP X pins σ Q) X.xe s := by
  have hq := h (s.heap.objs.size + 1) s.heap.objs.size (I.hok.fresh (Nat.le_succ _)) (I.hok.fresh (Nat.le_refl _)) (Nat.ne_of_lt (Nat.lt_succ_self _))
  have I2 := Inv.made (C := C) I
  have r2 : Vals (V.ref (s.heap.objs.size + 1) :: vs) (Value.ref (s.heap.objs.size + 1) :: us) := .cons rfl r
  have hl : (Value.ref (s.heap.objs.size + 1) :: us).length = ps.length := by
    have e := r2.length
    rw [F.len _ _ _ _ hq] at e
    exact e.symm
  have hbb := hb _ (Value.ref (s.heap.objs.size + 1) :: us) I2.kIn (by rw [List.append_nil]; exact hl)
  rw [List.append_nil] at hbb
  refine wpAny_call (make_map (f := f) I.kIn M.makes M.init (beq_iff_eq.mp M.fn) (codeAny_mono (F.run _ X.stack _ _ ⟨Value.ref (s.heap.objs.size + 1) :: us, []⟩ (Value.ref (s.heap.objs.size + 1) :: us) _ _ (E σ) (hr.make C us [])
    (I2.env0.make C us []) hbb r2 hq) fun r s' hq' => ?_))
  cases r with
  | error e => exact hx pins _ _ e s' I2 hq'
  | ok fl =>
    cases fl with
    | ret u =>
      obtain ⟨v, H', I3, rv, ev, q3⟩ := I2.after hq'
      subst ev
      exact ⟨rv, ⟨V.ref (s.heap.objs.size + 1), H', I3, rfl, q3⟩⟩
    | next => exact False.elim hq'
    | brk => exact False.elim hq'
    | cont => exact False.elim hq'
theorem pe_makeS (M : Mk X.K C f) (F : FnOk X.prog X.w X.K X.mg X.base CX k f fd ps sp) (hr : Room (k + 1) X.A) (hg : Gl X x) (hm : X.mg x = some (.ref C)) (hb : Binds X.K fd ps []) (hx : ∀ σ, PassesAt CX X σ (E σ))
    (ha : PA X (e :: es) t) (hdb : (x == ("__debug__" : Str)) = false := by decide) (he : starEach (e :: es) X.env = (false, eval e X.env) :: starEach es X.env := by rfl) (hpl : (backTo pos (starEach es X.env)).any (·.1) = false := by rfl) :
    PE X (.Call (.Name x p) (e :: es) [] pos) (tMakeS C sp E t) := by
  refine ⟨fun pins s σ H Q I h => ?_⟩
  refine wpAny_Call_Name_kw (ld_glob I hg hm ?_ hdb)
  refine PySem.W.callWith_K (h₀ := X.base) I.ok.mod.kin M.kp (thn (ha.run pos pins s σ H _ I h) fun us s1 ⟨vs, H1, I1, r, q⟩ => ⟨I1.kIn, ?_⟩) he hpl
  exact run_makeS M F hr hb (hx σ) I1 r q
end
end W1
set_option maxRecDepth 100000
set_option maxHeartbeats 2000000
namespace W1
open PySem PySem.Spec PyProof.Rows L2

section
variable {F : Fx} {ρ : Ty} {ω w w1 w2 wc wc' : Ow} {e o : Expr} {es : List Expr} {R S : Rl} {Rs : List Rl} {P : Er} {pos p apos : Pos} {x m : Str} {k : Nat} {f C g pc : Addr} {fd : FuncData} {ps : List Str} {pre : Pre}
theorem passW : ∀ σ, PassesAt (L2.CX F.X.prog F.X.w) F.X σ (WE F.W σ) := fun σ => passAt F.tk σ
/-- f(..) -/
theorem er_call (ha : AR F ρ ω (e :: es) Rs (wc ++ w)) (hp : pre Rs wc (.ok R) wc') (hk : keys wc' = keys wc) (Fn : FnOk F.X.prog F.X.w F.X.K F.X.mg F.X.base (L2.CX F.X.prog F.X.w) k f fd ps (spM pre)) (hr : Room k F.X.A) (hm : F.X.mg x = some (.ref f))
    (hkp : PySem.W.keepIn F.X.K (.ref f) = true) (hb : Binds F.X.K fd ps []) (hg : Gl F.X x := by rfl) (hdb : (x == ("__debug__" : Str)) = false := by decide) (he : starEach (e :: es) F.X.env = (false, eval e F.X.env) :: starEach es F.X.env := by rfl) (hpl : (backTo pos (starEach es F.X.env)).any (·.1) = false := by rfl) :
    ER F ρ ω (.Call (.Name x p) (e :: es) [] pos) R (wc' ++ w) := fun σ G H at_ sl Q q =>
  ew_of (pe_callS Fn hr hg hm hkp hb passW pa_w hdb he hpl) (ha σ G H at_ sl _ fun vs G2 H2 s a r => sp_ok a r hp hk fun v G3 H3 s3 a3 r3 => q v G3 H3 (s.trans s3) a3 r3)
theorem ex_call (ha : AR F ρ ω (e :: es) Rs (wc ++ w)) (hp : pre Rs wc (.error P) wc') (hk : keys wc' = keys wc) (Fn : FnOk F.X.prog F.X.w F.X.K F.X.mg F.X.base (L2.CX F.X.prog F.X.w) k f fd ps (spM pre)) (hr : Room k F.X.A) (hm : F.X.mg x = some (.ref f))
    (hkp : PySem.W.keepIn F.X.K (.ref f) = true) (hb : Binds F.X.K fd ps []) (hg : Gl F.X x := by rfl) (hdb : (x == ("__debug__" : Str)) = false := by decide) (he : starEach (e :: es) F.X.env = (false, eval e F.X.env) :: starEach es F.X.env := by rfl) (hpl : (backTo pos (starEach es F.X.env)).any (·.1) = false := by rfl) :
    EX F ρ ω (.Call (.Name x p) (e :: es) [] pos) P (wc' ++ w) := fun σ G H at_ sl q =>
  ew_of (pe_callS Fn hr hg hm hkp hb passW pa_w hdb he hpl) (ha σ G H at_ sl _ fun vs G2 H2 s a r => sp_er a r hp hk fun cls d G3 H3 s3 a3 r3 => q cls d G3 H3 (s.trans s3) a3 r3)
/-- o.m(..) -/
theorem er_meth {fs : List (Str × Rl)} {pl : Sem Bool} (ho : ER F ρ ω o (rIns C fs) w1) (hno : fs.lookup m = none) (ha : AR F ρ w1 (e :: es) Rs (wc ++ w)) (hp : pre (rIns C fs :: Rs) wc (.ok R) wc') (hk : keys wc' = keys wc)
    (Fn : FnOk F.X.prog F.X.w F.X.K F.X.mg F.X.base (L2.CX F.X.prog F.X.w) k f fd ps (spM pre)) (hr : Room k F.X.A) (hc : Cls F.X.K C) (hm : Meth F.X.K C m f) (hb : Binds F.X.K fd ps [])
    (hst : starEach (e :: es) F.X.env = (false, eval e F.X.env) :: starEach es F.X.env := by rfl) (hpl : (backTo pos (starEach es F.X.env)).any (·.1) = false := by rfl)
    (ht : eval (.Call (.Attribute o m apos) (e :: es) [] pos) F.X.env = (do
      let ov ← eval o F.X.env
      standAt apos.atName
      let (f, first) ← holding [ov] (getMethod ov m pl)
      callWith pos f first (backTo pos (starEach (e :: es) F.X.env)) (backToKw pos (keywordEach [] F.X.env))) := by rfl) :
    ER F ρ ω (.Call (.Attribute o m apos) (e :: es) [] pos) R (wc' ++ w) := fun σ G H at_ sl Q q => by
  refine ew_of (pe_methS pe_w hc hm Fn hr hb passW pa_w hst hpl ht) (ho σ G H at_ sl _ fun v G1 H1 s1 a1 r1 => ?_)
  obtain ⟨a, dx, vs, rfl, h1, h2⟩ := id r1
  refine ⟨a, dx, vs, rfl, a1.gh _ _ h1, h2.lookN hno, ha σ G1 H1 a1 (sl.up s1) _ fun us G2 H2 s2 a2 r2 => ?_⟩
  exact sp_ok (Rs := rIns C fs :: Rs) a2 ⟨(rIns C fs).mo _ _ _ s2 r1, r2⟩ hp hk fun v G3 H3 s3 a3 r3 => q v G3 H3 ((s1.trans s2).trans s3) a3 r3
theorem er_meth0 {fs : List (Str × Rl)} {pl : Sem Bool} (ho : ER F ρ ω o (rIns C fs) (wc ++ w)) (hno : fs.lookup m = none) (hp : pre [rIns C fs] wc (.ok R) wc') (hk : keys wc' = keys wc)
    (Fn : FnOk F.X.prog F.X.w F.X.K F.X.mg F.X.base (L2.CX F.X.prog F.X.w) k f fd ps (spM pre)) (hr : Room k F.X.A) (hc : Cls F.X.K C) (hm : Meth F.X.K C m f) (hb : Binds F.X.K fd ps [])
    (ht : eval (.Call (.Attribute o m apos) [] [] pos) F.X.env = (do
      let ov ← eval o F.X.env
      standAt apos.atName
      let (f, first) ← holding [ov] (getMethod ov m pl)
      callWith pos f first (backTo pos (starEach [] F.X.env)) (backToKw pos (keywordEach [] F.X.env))) := by rfl) :
    ER F ρ ω (.Call (.Attribute o m apos) [] [] pos) R (wc' ++ w) := fun σ G H at_ sl Q q => by
  refine ew_of (pe_methS0 pe_w hc hm Fn hr hb passW ht) (ho σ G H at_ sl _ fun v G1 H1 s1 a1 r1 => ?_)
  obtain ⟨a, dx, vs, rfl, h1, h2⟩ := id r1
  exact ⟨a, dx, vs, rfl, a1.gh _ _ h1, h2.lookN hno, sp_ok (Rs := [rIns C fs]) a1 ⟨r1, trivial⟩ hp hk fun v G3 H3 s3 a3 r3 => q v G3 H3 (s1.trans s3) a3 r3⟩
theorem ex_meth {fs : List (Str × Rl)} {pl : Sem Bool} (ho : ER F ρ ω o (rIns C fs) w1) (hno : fs.lookup m = none) (ha : AR F ρ w1 (e :: es) Rs (wc ++ w)) (hp : pre (rIns C fs :: Rs) wc (.error P) wc') (hk : keys wc' = keys wc)
    (Fn : FnOk F.X.prog F.X.w F.X.K F.X.mg F.X.base (L2.CX F.X.prog F.X.w) k f fd ps (spM pre)) (hr : Room k F.X.A) (hc : Cls F.X.K C) (hm : Meth F.X.K C m f) (hb : Binds F.X.K fd ps [])
    (hst : starEach (e :: es) F.X.env = (false, eval e F.X.env) :: starEach es F.X.env := by rfl) (hpl : (backTo pos (starEach es F.X.env)).any (·.1) = false := by rfl)
    (ht : eval (.Call (.Attribute o m apos) (e :: es) [] pos) F.X.env = (do
      let ov ← eval o F.X.env
      standAt apos.atName
      let (f, first) ← holding [ov] (getMethod ov m pl)
      callWith pos f first (backTo pos (starEach (e :: es) F.X.env)) (backToKw pos (keywordEach [] F.X.env))) := by rfl) :
    EX F ρ ω (.Call (.Attribute o m apos) (e :: es) [] pos) P (wc' ++ w) := fun σ G H at_ sl q => by
  refine ew_of (pe_methS pe_w hc hm Fn hr hb passW pa_w hst hpl ht) (ho σ G H at_ sl _ fun v G1 H1 s1 a1 r1 => ?_)
  obtain ⟨a, dx, vs, rfl, h1, h2⟩ := id r1
  refine ⟨a, dx, vs, rfl, a1.gh _ _ h1, h2.lookN hno, ha σ G1 H1 a1 (sl.up s1) _ fun us G2 H2 s2 a2 r2 => ?_⟩
  exact sp_er (Rs := rIns C fs :: Rs) a2 ⟨(rIns C fs).mo _ _ _ s2 r1, r2⟩ hp hk fun cls d G3 H3 s3 a3 r3 => q cls d G3 H3 ((s1.trans s2).trans s3) a3 r3
/-- an instance that is being made -/
def oIns (C : Addr) (fs : List (Str × Rl)) : Ol := ⟨fun o G => ∃ dx vs, o = .ins C dx vs ∧ NR fs vs G, fun _ _ _ e ⟨dx, vs, a, b⟩ => ⟨dx, vs, a, b.up e⟩⟩
/-- what is owned no more -/
theorem At.pub {F : Fx} {q : Addr} {O : Ol} {w : Ow} {G H : Hp} {o : HO} (a : At F ((q, O) :: w) G H) (ho : H q = some o) (hq : F.H0 q = none) : At F w (upd G q o) H := by
  have hg : G q = none := (a.ow _ List.mem_cons_self).1
  have sg : Same G (upd G q o) := fun b u e => by rw [upd_ne (ne_of_none e hg)]; exact e
  have nd := List.nodup_cons.mp a.nd
  refine ⟨a.gg.trans sg, a.hh, fun b u e => ?_, fun b h1 h2 => ?_, a.mm, fun p hp => ?_, nd.2⟩
  · by_cases hb : b = q
    · subst hb
      rw [upd_same] at e
      cases e
      exact ho
    · rw [upd_ne hb] at e
      exact a.gh _ _ e
  · rw [upd_ne (fun z => h1 (by rw [z]; exact hq))]
    exact a.fr b h1 h2
  · obtain ⟨x, y, u, z, c⟩ := a.ow p (List.mem_cons_of_mem _ hp)
    have ne : p.1 ≠ q := fun z => nd.1 (List.mem_map.mpr ⟨p, hp, z⟩)
    exact ⟨by rw [upd_ne ne]; exact x, y, u, z, p.2.mo _ _ _ sg c⟩
/-- a new thing that is owned -/
theorem At.own {F : Fx} {q : Addr} {O : Ol} {w : Ow} {G H : Hp} {o : HO} (a : At F w G H) (hq : H q = none) (hc : O.c o G) : At F ((q, O) :: w) G (upd H q o) := by
  have hg : G q = none := a.gh.free hq
  have st := Step.hid (o := o) a.gh hq
  have a' := a.step st
  have hM : q ∉ F.M := fun hm => a.mm q hm hq
  have h0 : F.H0 q = none := by
    cases e : F.H0 q with
    | none => rfl
    | some u => rw [a.hh q u hM e] at hq; cases hq
  refine ⟨a'.gg, a'.hh, a'.gh, a'.fr, a'.mm, fun p hp => ?_, List.nodup_cons.mpr ⟨fun hm => ?_, a.nd⟩⟩
  · rcases List.mem_cons.mp hp with rfl | hp
    · exact ⟨hg, .inl h0, o, upd_same, hc⟩
    · exact a'.ow p hp
  · obtain ⟨p, hp, e⟩ := List.mem_map.mp hm
    obtain ⟨_, _, u, z, _⟩ := a.ow p hp
    rw [e, hq] at z
    cases z
theorem At.own0 {F : Fx} {q : Addr} {O : Ol} {w : Ow} {G H : Hp} (a : At F ((q, O) :: w) G H) (hM : q ∉ F.M) : F.H0 q = none := ((a.ow _ List.mem_cons_self).2.1).resolve_right hM
/-- C(..) -/
theorem er_make {fs : List (Str × Rl)} (ha : AR F ρ ω (e :: es) Rs w) (hp : ∀ q, pre (rRef q :: Rs) [(q, oIns C [])] (.ok rNon) [(q, oIns C fs)]) (Fn : FnOk F.X.prog F.X.w F.X.K F.X.mg F.X.base (L2.CX F.X.prog F.X.w) k f fd ps (spM pre)) (hr : Room (k + 1) F.X.A) (M : Mk F.X.K C f)
    (hm : F.X.mg x = some (.ref C)) (hb : Binds F.X.K fd ps []) (hg : Gl F.X x := by rfl) (hdb : (x == ("__debug__" : Str)) = false := by decide) (he : starEach (e :: es) F.X.env = (false, eval e F.X.env) :: starEach es F.X.env := by rfl) (hpl : (backTo pos (starEach es F.X.env)).any (·.1) = false := by rfl) :
    ER F ρ ω (.Call (.Name x p) (e :: es) [] pos) (rIns C fs) w := fun σ G H at_ sl Q q => by
  refine ew_of (pe_makeS M Fn hr hg hm hb passW pa_w hdb he hpl) (ha σ G H at_ sl _ fun vs G1 H1 s1 a1 r1 => fun y dx hy hdx hne => ?_)
  have a2 : At F w G1 (upd H1 dx (.own y)) := a1.step (Step.hid a1.gh hdx)
  have hy2 : upd H1 dx (.own y) y = none := by rw [upd_ne (Ne.symm hne)]; exact hy
  have a3 : At F ([(y, oIns C [])] ++ w) G1 (upd (upd H1 dx (.own y)) y (.ins C dx [])) := a2.own hy2 ⟨dx, [], rfl, trivial⟩
  have hM : y ∉ F.M := fun hm => a2.mm y hm hy2
  refine sp_ok (Rs := rRef y :: Rs) (wc := [(y, oIns C [])]) a3 ⟨rfl, r1⟩ (hp y) rfl fun v G3 H3 s3 a4 r3 => ⟨r3, ?_⟩
  obtain ⟨_, _, ob, h1, dx', vs', e1, h2⟩ := a4.ow (y, oIns C fs) List.mem_cons_self
  subst e1
  have a5 : At F w (upd G3 y (.ins C dx' vs')) H3 := At.pub (q := y) a4 h1 (At.own0 a4 hM)
  have sg : Same G3 (upd G3 y (.ins C dx' vs')) := fun b u e => by rw [upd_ne (ne_of_none e (a4.ow (y, oIns C fs) List.mem_cons_self).1)]; exact e
  exact q _ _ _ ((s1.trans s3).trans sg) a5 ⟨y, dx', vs', rfl, upd_same, h2.up sg⟩
theorem ex_make (ha : AR F ρ ω (e :: es) Rs w) (hp : ∀ q, ∃ O, pre (rRef q :: Rs) [(q, oIns C [])] (.error P) [(q, O)]) (Fn : FnOk F.X.prog F.X.w F.X.K F.X.mg F.X.base (L2.CX F.X.prog F.X.w) k f fd ps (spM pre)) (hr : Room (k + 1) F.X.A) (M : Mk F.X.K C f)
    (hm : F.X.mg x = some (.ref C)) (hb : Binds F.X.K fd ps []) (hg : Gl F.X x := by rfl) (hdb : (x == ("__debug__" : Str)) = false := by decide) (he : starEach (e :: es) F.X.env = (false, eval e F.X.env) :: starEach es F.X.env := by rfl) (hpl : (backTo pos (starEach es F.X.env)).any (·.1) = false := by rfl)
    (hP : ∀ cls d G G', Same G G' → P cls d G → P cls d G') :
    EX F ρ ω (.Call (.Name x p) (e :: es) [] pos) P w := fun σ G H at_ sl q => by
  refine ew_of (pe_makeS M Fn hr hg hm hb passW pa_w hdb he hpl) (ha σ G H at_ sl _ fun vs G1 H1 s1 a1 r1 => fun y dx hy hdx hne => ?_)
  have a2 : At F w G1 (upd H1 dx (.own y)) := a1.step (Step.hid a1.gh hdx)
  have hy2 : upd H1 dx (.own y) y = none := by rw [upd_ne (Ne.symm hne)]; exact hy
  have a3 : At F ([(y, oIns C [])] ++ w) G1 (upd (upd H1 dx (.own y)) y (.ins C dx [])) := a2.own hy2 ⟨dx, [], rfl, trivial⟩
  have hM : y ∉ F.M := fun hm => a2.mm y hm hy2
  obtain ⟨O, hp'⟩ := hp y
  refine sp_er (Rs := rRef y :: Rs) (wc := [(y, oIns C [])]) a3 ⟨rfl, r1⟩ hp' rfl fun cls d G3 H3 s3 a4 r3 => ?_
  obtain ⟨hg0, _, ob, h1, _⟩ := a4.ow (y, O) List.mem_cons_self
  have a5 : At F w (upd G3 y ob) H3 := At.pub (q := y) a4 h1 (At.own0 a4 hM)
  have sg : Same G3 (upd G3 y ob) := fun b u e => by rw [upd_ne (ne_of_none e hg0)]; exact e
  exact q cls d _ _ ((s1.trans s3).trans sg) a5 (hP _ _ _ _ sg r3)
/-- a field of what is owned: stored -/
def putR (f : Str) (R : Rl) : List (Str × Rl) → List (Str × Rl)
  | [] => [(f, R)]
  | (g, S) :: r => if g = f then (f, R) :: r else (g, S) :: putR f R r
theorem NR.put {f : Str} {R : Rl} {v : V} {H : Hp} (h : R.r v H) : ∀ {fs : List (Str × Rl)} {vs : List (Str × V)}, NR fs vs H → NR (putR f R fs) (putF f v vs) H
  | [], [], _ => ⟨rfl, h, trivial⟩
  | (g, S) :: fs, (g', u) :: vs, ⟨e, a, b⟩ => by
    subst e
    unfold putR putF
    by_cases hg : g = f
    · rw [if_pos hg, if_pos hg]
      exact ⟨hg ▸ rfl, h, b⟩
    · rw [if_neg hg, if_neg hg]
      exact ⟨rfl, a, NR.put h b⟩
  | [], _ :: _, h => h.elim
  | _ :: _, [], h => h.elim
theorem NR.len {κ : Type} : ∀ {fs : List (κ × Rl)} {vs : List (κ × V)} {H : Hp}, NR fs vs H → fs.length = vs.length
  | [], [], _, _ => rfl
  | _ :: _, _ :: _, _, ⟨_, _, b⟩ => by rw [List.length_cons, List.length_cons, NR.len b]
  | [], _ :: _, _, h => h.elim
  | _ :: _, [], _, h => h.elim
/-- what is owned at q changes -/
theorem At.chg {F : Fx} {q : Addr} {O O' : Ol} {w : Ow} {G H : Hp} {o : HO} (a : At F ((q, O) :: w) G H) (hc : O'.c o G) : At F ((q, O') :: w) G (upd H q o) := by
  obtain ⟨hg, hM, ob, h1, _⟩ := a.ow _ List.mem_cons_self
  have nd := List.nodup_cons.mp a.nd
  refine ⟨a.gg, fun b u hb e => ?_, fun b u e => ?_, a.fr, fun b hb => ?_, fun p hp => ?_, a.nd⟩
  · rw [upd_ne (fun z => ?_)]
    · exact a.hh b u hb e
    · rcases hM with z' | z'
      · rw [z, z'] at e; cases e
      · exact hb (z ▸ z')
  · rw [upd_ne (ne_of_none e hg)]
    exact a.gh _ _ e
  · by_cases z : b = q
    · rw [z, upd_same]; simp
    · rw [upd_ne z]; exact a.mm b hb
  · rcases List.mem_cons.mp hp with rfl | hp
    · exact ⟨hg, hM, o, upd_same, hc⟩
    · obtain ⟨x, y, u, z, c⟩ := a.ow p (List.mem_cons_of_mem _ hp)
      have ne : p.1 ≠ q := fun z => nd.1 (List.mem_map.mpr ⟨p, hp, z⟩)
      exact ⟨x, y, u, by rw [upd_ne ne]; exact z, c⟩
theorem hb_fld {K : Kn} {rest : List Stmt} {q : Addr} {fs : List (Str × Rl)} {f : Str} {pos' : Pos} (hv : ER F ρ ω e R w1) (ho : ER F ρ w1 o (rRef q) ((q, oIns C fs) :: w2)) (hc : Cls F.X.K C) (hn : NoAttr F.X.K C f) (h : HB F ρ ((q, oIns C (putR f R fs)) :: w2) rest K) (hl : fs.length < 1000 := by decide)
    (hs : swapsWith e (some (.Attribute o f pos')) pos.line F.X.env = pure false := by rfl) : HB F ρ ω (.Assign [.Attribute o f pos'] e pos :: rest) K := hb_cons fun σ G H D at_ sl ps => by
  refine sw_of (ps_fld pe_w pe_w hs) (hv σ G H at_ sl _ fun v G1 H1 s1 a1 r1 => ho σ G1 H1 a1 (sl.up s1) _ fun u G2 H2 s2 a2 r2 => ?_)
  have r2' : u = V.ref q := r2
  subst r2'
  obtain ⟨_, _, ob, h1, dx, vs, e1, h2⟩ := a2.ow (q, oIns C fs) List.mem_cons_self
  subst e1
  refine ⟨q, C, dx, vs, rfl, h1, hc, hn, by rw [← h2.len]; exact hl, ?_⟩
  have s12 := s1.trans s2
  exact h σ G2 _ D (a2.chg ⟨dx, _, rfl, h2.put (R.mo _ _ _ s2 r1)⟩) (sl.up s12) (ps.up s12)
end
end W1
set_option maxRecDepth 100000
set_option maxHeartbeats 2000000
namespace W1
open PySem PySem.Spec PyProof.Rows L2 NdefX

/-! ### an own error whose __init__ says super().__init__(text) -/
/-- the def at f -/
abbrev supF (qual : Str) (st : Stmt) (cc cd : Addr) : NF := ⟨"__init__", qual, defArgs st, defBody st, defScope st, [("__class__", cc)], cd⟩
/-- what the written part says of the class at C, its __init__ at f, the cell at cc, the code at cd -/
structure SupC (P : Program) (K : PySem.W.Frag) (mg : Str → Option Value) (x qual : Str) (st : Stmt) (C f cc cd : Addr) : Prop where
  ox : OexC K C
  gC : mg x = some (.ref C)
  iC : PySem.W.findIn K (.ref C) "__init__" = some (some (.ref f))
  tI : PySem.W.typeIn K (.ref f) = some (.type "function")
  fn : ∃ oc od doc pm ctv osl, K.lookup f = some ⟨oc, od, .func ((supF qual st cc cd).fd doc pm ctv), osl⟩
  hcd : PySem.W.codeIn K (.ref cd) qual = true
  code : ∃ ccl cdd vs ccs file tf, K.lookup cd = some ⟨ccl, cdd, .fields vs, ccs⟩ ∧ vs[2]? = some (.str file tf) ∧ (P.main.file == file) = true
  cell : ∃ cl cld csl, K.lookup cc = some ⟨cl, cld, .cell (some (.ref C)), csl⟩
  sub : PySem.W.mroIn K C (.ref C) = some true
  nsup : mg "super" = none
  sup : PySem.W.ks_superIn K C C "__init__" = some (some (.builtin "ValueError.__init__"))
  subV : PySem.W.subIn K (.ref C) (.type "ValueError") = some true
  opq : PySem.W.nsIn K cStatics "thirdparty.any" = some none
  top : (P.main.scope.names.lookup ("super" : Str)).isSome = false
  te : PySem.W.exmOne K (.ref C) (.ref C) = some true
section
variable {X : Cx} {pins : List (Addr × Obj)} {σ : L2.St} {H : Hp} {s : Shared}
theorem ld_var {E : Value → Shared → Prop} {i : Nat} {x : Str} {v : V} {Q : Value → Shared → Prop} (I : Inv X pins σ H s) (hN : X.N[i]? = some x) (hv : Vis X.env.scope x) (hσ : σ[i]? = some (some v)) (hcd : (x == ("__classdict__" : Str)) = false)
    (h : ∀ u, RelV v u → Q u s) : wpAny (model X.prog X.w) X.A (loadName X.env x) Q E s := by
  obtain ⟨m, hn, hl⟩ := I.loc
  obtain ⟨u, r, l⟩ := hl i x v hN hσ hv
  rcases l with ⟨hk, hm⟩ | ⟨hk, c, hc, hcell⟩
  · exact wpAny_loadName_local I.ok.kind hk hn hm (h u r)
  · rcases hk with hk | hk
    · exact wpAny_loadName_cell I.ok.kind hk hc hcell (h u r)
    · exact wpAny_loadName_free I.ok.kind hk hc hcell (h u r) hcd
/-- super() in such a body: the object of it -/
theorem super_made {x qual : Str} {st : Stmt} {C f cc cd a : Addr} {p0 p1 : Pos} {body : List Stmt} {whole : Sem Value} {Q : Value → Shared → Prop} {E : Value → Shared → Prop} {ar : Arg} (T : SupC X.prog X.K X.mg x qual st C f cc cd) (I : Inv X pins σ H s)
    (ea : H a = some (exo a C none)) (h0 : σ[0]? = some (some (.ref a))) (hN : X.N[0]? = some ar.arg) (hv : Vis X.env.scope ar.arg) (hn1 : (ar.arg == ("__classdict__" : Str)) = false)
    (hks : X.env.kindOf "super" = some .globalImplicit) (hkc : X.env.kindOf "__class__" = some .free) (hfu : X.env.func = some f) (hco : X.env.code = .ref cd) (hcl : X.env.cells.lookup ("__class__" : Str) = some cc)
    (hp : ((defArgs st).posonlyargs ++ (defArgs st).args).head? = some ar)
    (h : ∀ s', Inv X ((s.heap.objs.size, PySem.W.ks_superObj C a C) :: pins) σ H s' → Q (.ref s.heap.objs.size) s') :
    PySem.wpAt (model X.prog X.w) X.A (.func body X.env) (attributeBase (.Call (.Name "super" p0) [] [] p1) "__init__" X.env whole) Q E s := by
  obtain ⟨oc, od, doc, pm, ctv, osl, hf⟩ := T.fn
  obtain ⟨ccl, cdd, vs, ccs, file, tf, hcode, hvs, hfile⟩ := T.code
  obtain ⟨ct, cld, csl, hcell⟩ := T.cell
  obtain ⟨nm, q, N, bs, bm, sn, sub, ab, col, dd, k0, k1, k2, k3, k5, hC, hbm⟩ := T.ox.cls
  have hclI : PySem.W.clsIn X.K C = some { name := nm, bases := bs, mro := .ref C :: bm, ns := N, qualname := q, hasDict := true, slotNames := sn, subclasses := sub, abstract := ab, collection := col, hasDel := false } := by unfold PySem.W.clsIn; rw [hC] <;> rfl
  obtain ⟨t1, hx⟩ := exo_at I.hok ea
  refine ks_wpAt_super_base (attr := "__init__") hks hkc (by decide +kernel) hfu (I.kIn _ _ hf) rfl hp hco (I.kIn _ _ hcode) rfl hvs hfile T.top ?_
  refine PySem.W.ks_loadName_global I.ok.kind hks ?_
  obtain ⟨mb, h1, h2⟩ := I.mod.blt
  refine Calls.loadGlobal_builtin (by rw [I.ok.glob]; exact I.mod.glob.keeps I.bk) T.nsup (by rw [I.ok.blt]; exact h1.keeps I.bk) ((h2 _ (by decide +kernel)).trans (by decide +kernel : bootBuiltins "super" = some (.type "super"))) ⟨rfl, ?_⟩
  refine wpAny_loadName_free I.ok.kind hkc hcl ⟨_, I.kIn _ _ hcell, rfl⟩ ?_
  refine ld_var I hN hv h0 hn1 fun u ru => ?_
  obtain rfl : u = Value.ref a := ru
  obtain ⟨hp', g, d, t, os⟩ := s
  refine ks_wpAny_isType_cls (I.kIn _ _ hC) rfl ⟨rfl, ?_⟩
  refine ks_wpAny_call_super (I.kIn _ _ hC) rfl hx rfl (fun c z => nomatch z) (PySem.W.looks_mroIn I.kIn T.sub) (fun h' e k => ?_)
  exact h _ (ClX.pin_new I k (Nat.le_refl _) e (fun v z => nomatch z))
/-- .__init__ of it, called: the exception's texts are laid anew -/
theorem super_init {x qual : Str} {st : Stmt} {C f cc cd a so : Addr} {pos : Pos} {e : Expr} {es : List Expr} {ta : TA} {pl : Sem Bool} {Q : Value → Shared → Prop} (T : SupC X.prog X.K X.mg x qual st C f cc cd) (I : Inv X ((so, PySem.W.ks_superObj C a C) :: pins) σ H s)
    (ea : H a = some (exo a C none)) (ha : PA X (e :: es) ta) (q : ta σ H fun vs H1 => vs.length ≤ 1000 ∧ H1 a = some (exo a C none) ∧ ∀ s', Inv X pins σ H1 s' → Q .none s')
    (he : starEach (e :: es) X.env = (false, eval e X.env) :: starEach es X.env) (hpl : (backTo pos (starEach es X.env)).any (·.1) = false) :
    wpAny (model X.prog X.w) X.A (getMethod (.ref so) "__init__" pl) (fun fx s₂ => wpAny (model X.prog X.w) X.A (callWith pos fx.1 fx.2 (backTo pos (starEach (e :: es) X.env)) []) Q X.xe s₂) X.xe s := by
  obtain ⟨nm, q', N, bs, bm, sn, sub, ab, col, dd, k0, k1, k2, k3, k5, hC, hbm⟩ := T.ox.cls
  have hclI : PySem.W.clsIn X.K C = some { name := nm, bases := bs, mro := .ref C :: bm, ns := N, qualname := q', hasDict := true, slotNames := sn, subclasses := sub, abstract := ab, collection := col, hasDel := false } := by unfold PySem.W.clsIn; rw [hC] <;> rfl
  obtain ⟨t1, hx⟩ := exo_at I.hok ea
  have hso := ClX.pin_at I
  have sup := T.sup
  unfold PySem.W.ks_superIn at sup
  rw [hclI] at sup
  have J : PySem.W.InstAt s.heap a { cls := .ref C, dict := none, data := .fields #[.ref t1, .none, .none, .none, .bool false, .none] } C none := ⟨hx, rfl, rfl, trivial⟩
  have naC : a ≠ C := fun z => by
    have := I.kIn _ _ hC
    rw [← z, hx] at this
    cases this
  have hI : PySem.W.Looks (model X.prog X.w) s.heap (isInstance (.ref a) (.type "ValueError")) true := J.type.andThen (PySem.W.looks_subIn I.kIn T.subV)
  obtain ⟨hp, g, d, t, os⟩ := s
  refine PySem.W.kxs_getMethod PySem.W.kxs_ValueError hso (PySem.W.looks_opaque I.kIn T.opq) (l₀ := .ref C :: bm) ?_ rfl I.kIn sup hI naC (by decide +kernel) ?_
  · exact fun A Q E s k q => wpAny_bind ((PySem.W.looks_clsIn I.kIn hclI) A _ E s k (wpAny_pure q))
  · have I1 := ClX.pin_new (t' := t + 1) (h' := hp.push (PySem.W.kxs_mw "ValueError.__init__" a)) (a := hp.objs.size) (o := PySem.W.kxs_mw "ValueError.__init__" a) I (fun b u z => Heap.get?_push_of_some _ z) (Nat.le_refl _) (Heap.get?_push_at rfl rfl) (fun v z => nomatch z)
    have hq1 : wpAny (model X.prog X.w) X.A (spliced (backTo pos (starEach (e :: es) X.env))) (fun us s₁ => PySem.W.KxsAt "ValueError.__init__" hp.objs.size a s₁.heap ∧ wpAny (model X.prog X.w) X.A (call (.ref hp.objs.size) us) Q X.xe s₁) X.xe ⟨hp.push (PySem.W.kxs_mw "ValueError.__init__" a), g, d, t + 1, os⟩ := by
      refine thn (ha.run pos _ _ σ H _ I1 q) fun us s1 ⟨vs, H1, I2, r, hlen, ea1, q1⟩ => ⟨ClX.pin_at I2, ?_⟩
      have hu := ClX.pin_at I2
      obtain ⟨t2, hx2⟩ := exo_at I2.hok ea1
      have hz : us.length ≤ sizeLine := by
        rw [← r.length]
        exact Nat.le_of_lt (small1000 hlen)
      obtain ⟨h2, g2, d2, tk2, os2⟩ := s1
      refine wpAny_call (codeAny_of_tree ?_)
      show wpAny _ X.A.in1 (callAny (.ref hp.objs.size) ⟨us, []⟩) _ _ _
      simp only [callAny]
      refine wpAny_bind (wpAny_load hu ?_)
      simp only [PySem.W.kxs_mw, show (Value.type "method-wrapper" == Value.type "method" || Value.type "method-wrapper" == Value.type "builtin_function_or_method" || Value.type "method-wrapper" == Value.type "method-wrapper") = true by decide, if_true]
      refine PySem.W.KFB.if_so (by decide) ?_
      refine wpAny_bind (PySem.W.check_bound_init F.excBase_ValueError.toExcCallFacts (I2.kIn _ _ hC) hx2 rfl ?_)
      refine wpAny_bind (wpAny_pure (wpAny_pure ?_))
      refine ⟨plainId_quiet F.excBase_ValueError.init.plain _, codeAny_builtin F.excBase_ValueError.initEntry ?_⟩
      refine PySem.W.exc_init_tree (cls := .ref C) (t0 := t2) (dv := none) (c2 := .none) (c3 := .none) (b4 := .bool false) hx2 hz fun h3 k e3 t3 => ?_
      have J3 := (ClX.unpin (ClX.unpin I2)).write (t' := tk2) (x := a) (e := a) (o := exo a C none) (by rw [ea1]; exact True.intro) (.inl rfl) k ⟨_, e3⟩ (exo_ok e3)
      have eu : upd H1 a (exo a C none) = H1 := by
        funext b
        by_cases hb : b = a
        · rw [hb, upd_same, ea1]
        · rw [upd_ne hb]
      rw [eu] at J3
      exact q1 _ J3
    rw [he] at hq1 ⊢
    exact PySem.W.kxs_callWith (i := "ValueError.__init__") (x := a) (first := []) (by show (false || (backTo pos (starEach es X.env)).any (·.1)) = false; rw [hpl]; rfl) (Calls.evalArgs_plain hq1)
end
end W1
set_option maxRecDepth 100000
set_option maxHeartbeats 2000000
namespace W1
open PySem PySem.Spec PyProof.Rows L2 NdefX
section
variable {P : Program} {w : World} {K : PySem.W.Frag} {mg : Str → Option Value} {base : Heap}
/-- such a def keeps its promise -/
theorem fn_sup {x qual : Str} {st : Stmt} {C f cc cd : Addr} {N ps : List Str} {k : Nat} {sp : Sp} {ar : Arg} {p0 p1 p2 p3 p4 : Pos} {e : Expr} {es : List Expr} {rest : List Stmt} (T : SupC P K mg x qual st C f cc cd)
    (S : NScope N ps ["__class__"] (defScope st)) (hst : defBody st = .Expr (.Call (.Attribute (.Call (.Name "super" p0) [] [] p1) "__init__" p2) (e :: es) [] p3) p4 :: rest)
    (hp : ((defArgs st).posonlyargs ++ (defArgs st).args).head? = some ar) (hN : N[0]? = some ar.arg) (hn1 : (ar.arg == ("__classdict__" : Str)) = false) (hpa : ar.arg ∈ ps)
    (hks : (defScope st).names.lookup ("super" : Str) = some .globalImplicit)
    (len : ∀ vs H Q E, sp vs H Q E → vs.length = ps.length)
    (pl : ∀ env : Env, env.scope = defScope st → ∃ pl : Sem Bool, eval (.Call (.Attribute (.Call (.Name "super" p0) [] [] p1) "__init__" p2) (e :: es) [] p3) env = (do
      let ov ← attributeBase (.Call (.Name "super" p0) [] [] p1) "__init__" env (eval (.Call (.Name "super" p0) [] [] p1) env)
      standAt p2.atName
      let (f, first) ← holding [ov] (getMethod ov "__init__" pl)
      callWith p3 f first (backTo p3 (starEach (e :: es) env)) []))
    (hsw : ∀ env : Env, env.scope = defScope st → swapsWith (.Call (.Attribute (.Call (.Name "super" p0) [] [] p1) "__init__" p2) (e :: es) [] p3) none p4.line env = pure false)
    (hse : ∀ env : Env, env.scope = defScope st → starEach (e :: es) env = (false, eval e env) :: starEach es env ∧ (backTo p3 (starEach es env)).any (·.1) = false)
    (hbody : ∀ (A : Around) (outer : List Env) (s : Shared) (H : Hp) (vs : List V) (Q : VK) (E : XK), Room k (A.deeper (envF (supF qual st cc cd) f s.heap.objs.size)) → sp vs H Q E →
      ∃ a ta t, vs[0]? = some (.ref a) ∧ H a = some (exo a C none) ∧ PA (ncx (L2.CX P w) P w K mg base N (supF qual st cc cd) f A outer s H E) (e :: es) ta ∧ PSs (ncx (L2.CX P w) P w K mg base N (supF qual st cc cd) f A outer s H E) rest t ∧
        ta (startF N vs [none]) H fun us H1 => us.length ≤ 1000 ∧ H1 a = some (exo a C none) ∧ t { nx := fun _ H' => Q .non H', rt := Q } (startF N vs [none]) H1) :
    ∃ fd, (∃ doc pm ctv, fd = (supF qual st cc cd).fd doc pm ctv) ∧ FnOk P w K mg base (L2.CX P w) (k + 1) f fd ps sp := by
  obtain ⟨oc, od, doc, pm, ctv, osl, lk⟩ := T.fn
  refine ⟨_, ⟨doc, pm, ctv, rfl⟩, len, fun A outer s H args us vs Q E hr e0 hb r hsp => ?_⟩
  have KX : K.In s.heap := e0.mod.kin.keeps fun b o e => (e0.bs b o e).1
  have hl := len _ _ _ _ hsp
  have lim : s.heap.NoLimit := e0.mod.nolimit.keeps fun b o e => (e0.bs b o e).1
  obtain ⟨ct, cld, csl, hcell⟩ := T.cell
  refine ks_codeAny_call_defAt (body := defBody st) hr.depth (KX _ _ lk) rfl lim (PySem.W.codeRec_of KX T.hcd) rfl hb S.nocell (fun ⟨n, _⟩ hy => S.par n (List.of_mem_zip hy).1) (fun h₁ hns kp => ?_) S.co S.gen S.kind
  show PySem.wpAt (model P w) (A.deeper (envF (supF qual st cc cd) f s.heap.objs.size)) (.func (defBody st) (envF (supF qual st cc cd) f s.heap.objs.size)) (execs (defBody st) (envF (supF qual st cc cd) f s.heap.objs.size)) _ _ _
  have hcc : H cc = none := (e0.bs cc _ (e0.mod.kin _ _ hcell)).2
  have Cs : CellsAt (supF qual st cc cd).cl ["__class__"] [none] s.heap H := by
    refine ⟨rfl, fun y c h => ?_, fun y z c h1 h2 => ?_, fun i y h => ?_⟩
    · have h' : [(("__class__" : Str), cc)].lookup y = some c := h
      by_cases hy : y = "__class__"
      · subst hy
        rw [List.lookup_cons_self] at h'
        cases h'
        exact ⟨hcc, _, _, KX _ _ hcell, rfl⟩
      · rw [List.lookup_cons, show (y == ("__class__" : Str)) = false by simpa using hy] at h'
        cases h'
    · have k1 : ∀ {y : Str}, [(("__class__" : Str), cc)].lookup y = some c → y = "__class__" := fun {y} h => by
        by_cases hy : y = "__class__"
        · exact hy
        · rw [List.lookup_cons, show (y == ("__class__" : Str)) = false by simpa using hy] at h
          cases h
      rw [k1 h1, k1 h2]
    · match i, h with
      | 0, h =>
        cases h
        exact ⟨cc, List.lookup_cons_self, fun v z => by cases z⟩
      | i + 1, h => simp at h
  have I := inv_startN (CX := L2.CX P w) (f := f) (E := E) (tk := s.toks + (ps.zip us).length) S hr.hd e0 hl r Cs hns kp
  obtain ⟨a, ta, t, hv0, ea, hpa1, hrest, hq⟩ := hbody A outer s H vs Q E (hr.deeper _) hsp
  obtain ⟨pl', hpl'⟩ := pl (envF (supF qual st cc cd) f s.heap.objs.size) rfl
  obtain ⟨hse1, hse2⟩ := hse (envF (supF qual st cc cd) f s.heap.objs.size) rfl
  have hσ : (startF N vs [none])[0]? = some (some (V.ref a)) := by
    unfold startF
    have : 0 < vs.length := by
      cases vs with
      | nil => cases hv0
      | cons _ _ => exact Nat.zero_lt_succ _
    rw [List.getElem?_append_left (by rw [List.length_map]; exact this), List.getElem?_map, hv0]
    rfl
  have fin : ∀ {σ' : L2.St} {H' : Hp} {v : V} {u : Value} {s' : Shared}, Inv (ncx (L2.CX P w) P w K mg base N (supF qual st cc cd) f A outer s H E) [] σ' H' s' → L2.RelV v u → Q v H' → CE outer P w H s Q u s' :=
    fun {σ' H' v u s'} J rv q => ⟨v, H', J.os, J.bare, J.base, J.hok, rv, q⟩
  have endR : ∀ fl s', SP (ncx (L2.CX P w) P w K mg base N (supF qual st cc cd) f A outer s H E) [] { nx := fun _ H' => Q .non H', rt := Q } fl s' → CR (L2.CX P w) outer P w H s Q E (.ok (.ret (match fl with | .ret v => v | _ => .none))) s' := fun fl s' hs => by
    cases fl with
    | ret u =>
      obtain ⟨v, σ', H', J, rv, q⟩ := hs
      exact fin J rv q
    | next =>
      obtain ⟨σ', H', J, q⟩ := hs
      exact fin (v := V.non) (u := Value.none) J rfl q
    | brk =>
      obtain ⟨_, _, _, q⟩ := hs
      exact False.elim q
    | cont =>
      obtain ⟨_, _, _, q⟩ := hs
      exact False.elim q
  rw [hst]
  refine ks_wpAt_execs_cons (ks_wpAt_Expr_any ?_ (by simp [interactive, S.kind]) (hsw _ rfl))
  refine ks_wpAt_MethodCall (pl := pl') ?_ hpl'
  refine super_made (X := ncx (L2.CX P w) P w K mg base N (supF qual st cc cd) f A outer s H E) (ar := ar) T I ea hσ hN (Or.inl (S.par _ hpa)) hn1 hks (S.frk _ List.mem_cons_self) rfl rfl List.lookup_cons_self hp fun s1 I1 => ?_
  have hpa2 : PA (ncx (L2.CX P w) P w K mg base N (supF qual st cc cd) f A outer s H E) (e :: es) (fun σ' H' Q' => (σ' = startF N vs [none] ∧ H' = H) ∧ ∀ us H1, (us.length ≤ 1000 ∧ H1 a = some (exo a C none) ∧ t { nx := fun _ H' => Q .non H', rt := Q } (startF N vs [none]) H1) → Q' us H1) :=
    ⟨fun pos pins s σ' H' Q' I z => by
      obtain ⟨⟨rfl, rfl⟩, k⟩ := z
      exact thn (hpa1.run pos pins s _ _ _ I hq) fun us s' ⟨vs', H2, I2, r2, q2⟩ => ⟨vs', H2, I2, r2, k vs' H2 q2⟩⟩
  refine super_init (X := ncx (L2.CX P w) P w K mg base N (supF qual st cc cd) f A outer s H E) T I1 ea hpa2 ⟨⟨rfl, rfl⟩, fun us H1 ⟨h1, h2, h3⟩ => ⟨h1, h2, fun s2 I2 => ?_⟩⟩ hse1 hse2
  refine wpAt_of_wpAny (wpAny_mono (hrest.run [] s2 _ H1 _ I2 h3) (fun fl s' hs => endR fl s' hs) fun e s' hs => hs)
end
end W1
set_option maxRecDepth 100000
set_option maxHeartbeats 2000000
namespace W1
open PySem PySem.Spec PyProof.Rows L2 NdefX

/-- the promise of such an __init__: the one field is stored -/
def spErr (C : Addr) (fld : Str) (Pr : Rl) : Sp := fun vs H Q _ => ∃ a v, vs = [.ref a, v] ∧ H a = some (exo a C none) ∧ Pr.r v H ∧
  ∀ H' d, H d = none → d ≠ a → H' a = some (exo a C (some d)) → H' d = some (exd d [(fld, v)]) → (∀ b o, b ≠ a → H b = some o → H' b = some o) → Q .non H'
/-- an expression that gives some text -/
def Txt1 (X : Cx) (e : Expr) (i : Nat) (Pr : Rl) : Prop := ∃ te, PE X e te ∧ ∀ σ H v, σ[i]? = some (some v) → Pr.r v H → ∀ Q : VK, (∀ y H', Same H H' → Q y H') → te σ H Q
section
variable {P : Program} {w : World} {K : PySem.W.Frag} {mg : Str → Option Value} {base : Heap}
theorem ok_err {x qual y fld : Str} {st : Stmt} {C f cc cd : Addr} {k : Nat} {Pr : Rl} {p0 p1 p2 p3 p4 p5 p6 p7 p8 ps1 ps2 : Pos} {an1 an2 : Option Expr} {e : Expr} (T : SupC P K mg x qual st C f cc cd)
    (S : NScope ([("self" : Str), y, "__class__"] : List Str) ([("self" : Str), y] : List Str) ["__class__"] (defScope st))
    (hst : defBody st = [.Expr (.Call (.Attribute (.Call (.Name "super" p0) [] [] p1) "__init__" p2) [e] [] p3) p4, .Assign [.Attribute (.Name "self" p5) fld p6] (.Name y p7) p8])
    (hp : ((defArgs st).posonlyargs ++ (defArgs st).args).head? = some ⟨"self", an1, ps1⟩) (hks : (defScope st).names.lookup ("super" : Str) = some .globalImplicit) (hno : PySem.W.findIn K (.ref C) fld = some none)
    (hd1 : (y == ("__debug__" : Str)) = false) (hd2 : (y == ("__classdict__" : Str)) = false)
    (pl : ∀ env : Env, env.scope = defScope st → ∃ pl : Sem Bool, eval (.Call (.Attribute (.Call (.Name "super" p0) [] [] p1) "__init__" p2) [e] [] p3) env = (do
      let ov ← attributeBase (.Call (.Name "super" p0) [] [] p1) "__init__" env (eval (.Call (.Name "super" p0) [] [] p1) env)
      standAt p2.atName
      let (f, first) ← holding [ov] (getMethod ov "__init__" pl)
      callWith p3 f first (backTo p3 (starEach [e] env)) []))
    (hsw : ∀ env : Env, env.scope = defScope st → swapsWith (.Call (.Attribute (.Call (.Name "super" p0) [] [] p1) "__init__" p2) [e] [] p3) none p4.line env = pure false)
    (hsw2 : ∀ env : Env, swapsWith (.Name y p7) (some (.Attribute (.Name "self" p5) fld p6)) p8.line env = pure false)
    (hse : ∀ env : Env, env.scope = defScope st → starEach [e] env = (false, eval e env) :: starEach [] env ∧ (backTo p3 (starEach [] env)).any (·.1) = false)
    (htx : ∀ X : Cx, X.K = K → X.mg = mg → X.base = base → X.prog = P → X.w = w → X.N = ([("self" : Str), y, "__class__"] : List Str) → X.env.scope = defScope st → Room k X.A → X.calm = true → Txt1 X e 1 Pr) :
    ∃ fd, (∃ doc pm ctv, fd = (supF qual st cc cd).fd doc pm ctv) ∧ FnOk P w K mg base (L2.CX P w) (k + 1) f fd ([("self" : Str), y] : List Str) (spErr C fld Pr) := by
  refine fn_sup (N := ([("self" : Str), y, "__class__"] : List Str)) (ps := ([("self" : Str), y] : List Str)) T S hst hp rfl (show (("self" : Str) == ("__classdict__" : Str)) = false by decide +kernel) List.mem_cons_self hks (fun vs H Q E h => ?_) pl hsw hse (fun A outer s H vs Q E hr h => ?_)
  · obtain ⟨a, v, rfl, _⟩ := h
    rfl
  · obtain ⟨a, v, rfl, ea, hpr, hq⟩ := h
    obtain ⟨te, hte, htk⟩ := htx (ncx (L2.CX P w) P w K mg base ([("self" : Str), y, "__class__"] : List Str) (supF qual st cc cd) f A outer s H E) rfl rfl rfl rfl rfl rfl rfl hr rfl
    have hs : Loc (defScope st) "self" := .inl (S.par _ List.mem_cons_self)
    have hy : Loc (defScope st) y := .inl (S.par _ (List.mem_cons_of_mem _ List.mem_cons_self))
    refine ⟨a, _, _, rfl, ea, pa_cons hte pa_nil (hse _ rfl).1, pss_one (ps_ost (pe_var (i := 0) rfl (Or.inl (S.par _ List.mem_cons_self))) (pe_var (i := 1) rfl (Or.inl (S.par _ (List.mem_cons_of_mem _ List.mem_cons_self))) hd1 hd2) (hsw2 _)), ?_⟩
    refine htk _ _ v rfl hpr _ fun z H1 s1 => ⟨by show 1 ≤ 1000; decide, s1 _ _ ea, v, rfl, .ref a, rfl, a, C, rfl, T.ox, hno, .inl ⟨s1 _ _ ea, fun d hd hne => ?_⟩⟩
    refine hq _ d (s1.free hd) hne upd_same (by rw [upd_ne hne, upd_same]) fun b o hb e => ?_
    rw [upd_ne hb, upd_ne (ne_of_none (s1 _ _ e) hd)]
    exact s1 _ _ e
end
/-- the error as it flies: its one field -/
def erF (C : Addr) (fld : Str) (R : Rl) : Er := fun cls d G => cls = .ref C ∧ ∃ dd v, d = some dd ∧ G dd = some (.xd [(fld, v)]) ∧ R.r v G
theorem erF_mo {C : Addr} {fld : Str} {R : Rl} : ∀ cls d G G', Same G G' → erF C fld R cls d G → erF C fld R cls d G' := fun cls d G G' s ⟨a, dd, v, b, c, e⟩ => ⟨a, dd, v, b, s _ _ c, R.mo _ _ _ s e⟩
section
variable {F : Fx} {ρ : Ty} {ω w1 : Ow} {K : Kn} {rest : List Stmt} {e : Expr} {R Pr : Rl} {pos pos' p : Pos} {x y qual fld : Str} {st : Stmt} {C f cc cd : Addr} {fd : FuncData} {k : Nat}
theorem hb_raise (ha : AR F ρ ω [e] [R] w1) (hx : K.ex ρ w1 (erF C fld R)) (hPr : ∀ v G, R.r v G → Pr.r v G) (T : SupC F.X.prog F.X.K F.X.mg x qual st C f cc cd) (Fn : FnOk F.X.prog F.X.w F.X.K F.X.mg F.X.base (L2.CX F.X.prog F.X.w) k f fd ([("self" : Str), y] : List Str) (spErr C fld Pr))
    (hr : Room (k + 1) F.X.A) (hb : Binds F.X.K fd ([("self" : Str), y] : List Str) []) (hg : Gl F.X x := by rfl) (hc : F.X.calm = true := by rfl) (hdb : (x == ("__debug__" : Str)) = false := by decide)
    (he : starEach [e] F.X.env = (false, eval e F.X.env) :: starEach [] F.X.env := by rfl) (hpl : (backTo pos (starEach [] F.X.env)).any (·.1) = false := by rfl) :
    HB F ρ ω (.Raise (some (.Call (.Name x p) [e] [] pos)) none pos' :: rest) K := hb_cons fun σ G H D at_ sl ps => by
  refine sw_of (ps_raise hc F.tk (pmk_oex T.ox T.iC T.tI Fn hr hb .nil passL hg T.gC pa_w hdb he hpl)) (ha σ G H at_ sl _ fun vs G1 H1 s1 a1 r1 => ?_)
  obtain ⟨v, rfl, rv⟩ := all1 r1
  refine ⟨by show 1 ≤ 1000; decide, fun a hna => ?_⟩
  have hg0 : G1 a = none := a1.gh.free hna
  have sa : Same G1 (upd H1 a (exo a C none)) := fun b o z => by rw [upd_ne (ne_of_none z hg0)]; exact a1.gh _ _ z
  refine ⟨a, v, rfl, upd_same, Pr.mo _ _ _ sa (hPr _ _ rv), fun H' d hd hne h1 h2 h3 => ⟨rfl, d, _, h1, h2, ?_, ?_⟩⟩
  · rw [upd_ne hne] at hd
    exact hd
  · rw [upd_ne hne] at hd
    have hgd : G1 d = none := a1.gh.free hd
    have st : Step G1 H1 (upd G1 d (.xd [(fld, v)])) (upd (del H' a) d (.xd [(fld, v)])) := by
      refine ⟨fun b o z => by rw [upd_ne (ne_of_none z hgd)]; exact z, fun b o z => ?_, fun b o z => ?_, fun b z1 z2 => ?_⟩
      · have ba : b ≠ a := ne_of_none z hna
        rw [upd_ne (ne_of_none z hd), del_ne ba]
        exact h3 b o ba (by rw [upd_ne ba]; exact z)
      · by_cases hb : b = d
        · subst hb
          rw [upd_same] at z ⊢
          exact z
        · rw [upd_ne hb] at z ⊢
          have ba : b ≠ a := ne_of_none z hg0
          rw [del_ne ba]
          exact h3 b o ba (by rw [upd_ne ba]; exact a1.gh _ _ z)
      · rw [upd_ne (fun z => z1 (by rw [z]; exact hd))]
        exact z2
    exact ps.ex ρ w1 _ hx _ _ σ _ _ (s1.trans st.gg) (a1.step st) (sl.up (s1.trans st.gg)) ⟨rfl, d, v, rfl, upd_same, R.mo _ _ _ st.gg rv⟩
end
/-! ### what an f-string tells: some text -/
def prInt : Rl := ⟨fun v _ => ∃ i : Int, v = .int i ∧ i.natAbs.log2 < 1920, fun _ _ _ _ h => h⟩
def prStr : Rl := ⟨fun v _ => ∃ z : Str, v = .str z ∧ z.length ≤ 100000, fun _ _ _ _ h => h⟩
theorem strlen_app (a b : Str) : (a ++ b).length = a.length + b.length := by
  show (a.cps ++ b.cps).size = a.cps.size + b.cps.size
  rw [Array.size_append]
theorem sz16 : (100000 + 3000 : Nat) ≤ sizeLine := by decide
theorem fmt_int {X : Cx} {e : Expr} {i : Nat} {pos : Pos} {x : Str} (hN : X.N[i]? = some x) (hv : Vis X.env.scope x) (hd : (x == ("__debug__" : Str)) = false) (hcd : (x == ("__classdict__" : Str)) = false) {p1 : Pos} :
    ∃ te, PE X (.FormattedValue (.Name x p1) (-1) none pos) te ∧ ∀ σ H v, σ[i]? = some (some v) → (prInt.r v H ∨ prStr.r v H) → ∀ Q : VK, (∀ y : Str, y.length ≤ 101000 → Q (.str y) H) → te σ H Q :=
  ⟨_, pe_fmt (pe_var hN hv hd hcd), fun σ H v h1 h2 Q q => ⟨v, h1, by
    rcases h2 with ⟨n, rfl, h2⟩ | ⟨z, rfl, h2⟩
    · exact .inr ⟨n, rfl, h2, q _ (Nat.le_trans (int_text_len_1921 h2) (by decide))⟩
    · exact .inl ⟨z, rfl, Nat.le_trans h2 (by decide), q z (Nat.le_trans h2 (by decide))⟩⟩⟩
theorem empty_app (a : Str) : (Str.empty ++ a).length = a.length := by
  rw [strlen_app]
  exact Nat.zero_add _
/-- f"{x} .." -/
theorem txt_fc {X : Cx} {i : Nat} {x t : Str} {p1 p2 p3 p4 : Pos} {j : Nat} (hN : X.N[i]? = some x) (hv : Vis X.env.scope x) (hd : (x == ("__debug__" : Str)) = false) (hcd : (x == ("__classdict__" : Str)) = false) (ht : t.length ≤ 1000) {Pr : Rl} (hPr : ∀ v H, Pr.r v H → prInt.r v H ∨ prStr.r v H) :
    Txt1 X (.JoinedStr [.FormattedValue (.Name x p1) (-1) none p2, .Constant (.str t) j p3] p4) i Pr := by
  obtain ⟨te, h1, h2⟩ := fmt_int (X := X) (e := .Name x p1) (pos := p2) (p1 := p1) hN hv hd hcd
  refine ⟨_, pe_joined (.cons h1 (.cons pe_str .nil)), fun σ H v h3 h4 Q q => ?_⟩
  refine h2 σ H v h3 (hPr _ _ h4) _ fun y hy => ⟨y, rfl, ?_, t, rfl, ?_, q _ _ (Same.refl _)⟩
  · rw [empty_app]
    exact Nat.le_trans hy (by decide)
  · rw [strlen_app, empty_app]
    exact Nat.le_trans (Nat.add_le_add hy ht) (by decide)
/-- f".. {x}" -/
theorem txt_cf {X : Cx} {i : Nat} {x t : Str} {p1 p2 p3 p4 : Pos} {j : Nat} (hN : X.N[i]? = some x) (hv : Vis X.env.scope x) (hd : (x == ("__debug__" : Str)) = false) (hcd : (x == ("__classdict__" : Str)) = false) (ht : t.length ≤ 1000) {Pr : Rl} (hPr : ∀ v H, Pr.r v H → prInt.r v H ∨ prStr.r v H) :
    Txt1 X (.JoinedStr [.Constant (.str t) j p3, .FormattedValue (.Name x p1) (-1) none p2] p4) i Pr := by
  obtain ⟨te, h1, h2⟩ := fmt_int (X := X) (e := .Name x p1) (pos := p2) (p1 := p1) hN hv hd hcd
  refine ⟨_, pe_joined (.cons pe_str (.cons h1 .nil)), fun σ H v h3 h4 Q q => ⟨t, rfl, ?_, ?_⟩⟩
  · rw [empty_app]
    exact Nat.le_trans ht (by decide)
  · refine h2 σ H v h3 (hPr _ _ h4) _ fun y hy => ⟨y, rfl, ?_, q _ _ (Same.refl _)⟩
    rw [strlen_app, empty_app]
    exact Nat.le_trans (Nat.add_le_add ht hy) (by decide)
end W1
set_option maxRecDepth 100000
set_option maxHeartbeats 2000000
namespace W1
open PySem PySem.Spec PyProof.Rows L2

/-! ### an own class's operators -/
structure OwnM (K : PySem.W.Frag) (C : Addr) (dn : Str) (g : Addr) : Prop where
  at_ : PySem.W.findIn K (.ref C) dn = some (some (.ref g))
  fn : PySem.W.isFn K (.ref g) = true
structure ClsX (K : PySem.W.Frag) (C : Addr) : Prop where
  cls : Cls K C
  first : PySem.W.selfFirst K C = true
  ca : PySem.W.findIn K (.ref C) "__class__" = some (some (.builtin "object.__class__"))
  cn : PySem.W.specialIn K (.builtin "object.__class__") "__get__" = some (some (.builtin "getset_descriptor.__get__"))
  ct : PySem.W.takesIn K (.builtin "object.__class__") = some true
  cm : PySem.W.mroIn K C (.type "object") = some true
section
variable {X : Cx} {pins : List (Addr × Obj)} {σ : L2.St} {H : Hp} {s : Shared} {a C dx g k : Nat} {fs : List (Str × V)} {fd : FuncData} {ps : List Str} {sp : Sp} {E : Value → Shared → Prop}
theorem inst_at (I : Inv X pins σ H s) (e : H a = some (.ins C dx fs)) : ∃ od, PySem.W.InstAt s.heap a (PySem.W.instObj C dx) C (some od) := by
  obtain ⟨mA, O, _, _, _, _⟩ := ins_get I.hok e
  obtain ⟨od, J, _⟩ := O.look
  exact ⟨od, J⟩
/-- a callee that raises nothing, below the running body -/
theorem run_below {A : Around} {Q : VK} {us : List Value} {vs : List V} (F : FnOk X.prog X.w X.K X.mg X.base (L2.CX X.prog X.w) k g fd ps sp) (hr : Room k A) (e0 : Env0 X.prog X.w X.K X.mg X.base A X.stack s H) (hb : Binds X.K fd ps []) (I : Inv X pins σ H s) (r : Vals vs us) (h : sp vs H Q E0)
    (E : Value → Shared → Prop) : wpAny (model X.prog X.w) A (call (.ref g) us) (EP X pins σ Q) E s := by
  have hl : us.length = ps.length := by rw [← r.length]; exact F.len _ _ _ _ h
  have b := hb s us I.kIn (by rw [List.append_nil]; exact hl)
  rw [List.append_nil] at b
  refine wpAny_call (codeAny_mono (F.run A X.stack s H ⟨us, []⟩ us vs Q E0 hr e0 b r h) fun r s' hq => ?_)
  cases r with
  | error e =>
    obtain ⟨_, _, _, _, _, _, _, _, _, _, _, _, z⟩ := hq
    exact z.elim
  | ok fl =>
    cases fl with
    | ret u => exact I.after hq
    | next => exact False.elim hq
    | brk => exact False.elim hq
    | cont => exact False.elim hq
/-- a op b, two instances of the class at C -/
def rOwn2 (C : Addr) (sp : Sp) : R2 := fun x y H Q => ∃ a dx vs b dy ws, x = .ref a ∧ y = .ref b ∧ H a = some (.ins C dx vs) ∧ H b = some (.ins C dy ws) ∧ sp [x, y] H Q E0
theorem op_own2 {op : Operator} (c : ClsX X.K C) (m : OwnM X.K C (PySem.dunder op.info.2) g) (F : FnOk X.prog X.w X.K X.mg X.base (L2.CX X.prog X.w) k g fd ps sp) (hr : Room k X.A) (hb : Binds X.K fd ps []) : OpR X (binaryOp op) (rOwn2 C sp) := by
  intro pins s σ H x y v u Q I rx ry h
  obtain ⟨a, dx, vs, b, dy, ws, rfl, rfl, ha, hb', q⟩ := h
  cases (show v = Value.ref a from rx)
  cases (show u = Value.ref b from ry)
  obtain ⟨od, J⟩ := inst_at I ha
  obtain ⟨od', J'⟩ := inst_at I hb'
  obtain ⟨mm, hF⟩ := I.fr
  refine PySem.W.binop_K hF I.ok.mod.kin J J'.type c.first m.at_ m.fn ?_
  refine wpAny_mono (run_below (us := [.ref a, .ref b]) (vs := [.ref a, .ref b]) F hr I.env0 hb I (.cons rfl (.cons rfl .nil)) q _) (fun w s' z => ?_) fun _ _ x => x
  obtain ⟨z', H', I', rz, qz⟩ := z
  exact SlX.cmpback rz ⟨z', H', I', rz, qz⟩
/-- -a -/
def rOwn1 (C : Addr) (sp : Sp) : V → Hp → VK → Prop := fun x H Q => ∃ a dx vs, x = .ref a ∧ H a = some (.ins C dx vs) ∧ sp [x] H Q E0
theorem op_own1 (m : OwnM X.K C "__neg__" g) (F : FnOk X.prog X.w X.K X.mg X.base (L2.CX X.prog X.w) k g fd ps sp) (hr : Room k X.A) (hb : Binds X.K fd ps []) : UnR X (unaryOp .USub) (rOwn1 C sp) := by
  intro pins s σ H x v Q I rx h
  obtain ⟨a, dx, vs, rfl, ha, q⟩ := h
  cases (show v = Value.ref a from rx)
  obtain ⟨od, J⟩ := inst_at I ha
  obtain ⟨mm, hF⟩ := I.fr
  exact PySem.W.ksp_neg hF I.ok.mod.kin J m.at_ m.fn (run_below (us := [.ref a]) (vs := [.ref a]) F hr I.env0 hb I (.cons rfl .nil) q _)
/-- a == y by an own def; the type of y is no class below C -/
inductive TyE (K : PySem.W.Frag) (H : Hp) : V → Value → Prop where
  | int (i : Int) : TyE K H (.int i) (.type "int")
  | str (z : Str) : TyE K H (.str z) (.type "str")
  | bl (b : Bool) : TyE K H (.bl b) (.type "bool")
  | non : TyE K H .non (.type "NoneType")
  | ins {b D dy : Addr} {ws : List (Str × V)} (h : H b = some (.ins D dy ws)) : TyE K H (.ref b) (.ref D)
  | lst {b : Addr} {xs : List V} (h : H b = some (.lst xs)) : TyE K H (.ref b) (.type "list")
  | tup {b : Addr} {xs : List V} (h : H b = some (.tup xs)) : TyE K H (.ref b) (.type "tuple")
theorem tye_looks {y : V} {u t : Value} (I : Inv X pins σ H s) (r : RelV y u) (h : TyE X.K H y t) : PySem.W.Looks (model X.prog X.w) s.heap (typeOf u) t := by
  cases h with
  | int i => obtain ⟨tk, rfl⟩ := r; exact PySem.W.Looks.of_pure rfl
  | str z => obtain ⟨tk, rfl⟩ := r; exact PySem.W.Looks.of_pure rfl
  | bl b => cases (show u = Value.bool b from r); exact PySem.W.Looks.of_pure rfl
  | non => cases (show u = Value.none from r); exact PySem.W.Looks.of_pure rfl
  | @ins b D dy ws h =>
    cases (show u = Value.ref b from r)
    obtain ⟨od', J'⟩ := inst_at I h
    exact J'.type
  | @lst b xs h =>
    cases (show u = Value.ref b from r)
    obtain ⟨_, its, n, _, e⟩ := (show ObjOk X.prog X.w H s.heap b (.lst xs) from I.hok b _ h)
    exact fun A Q E s k q => wpAny_typeOf_ref (k _ _ e) q
  | @tup b xs h =>
    cases (show u = Value.ref b from r)
    obtain ⟨_, its, _, o, e, c, _⟩ := (show ObjOk X.prog X.w H s.heap b (.tup xs) from I.hok b _ h)
    exact fun A Q E s k q => wpAny_typeOf_ref (k _ _ e) (by rw [c]; exact q)
def rOwnE (K : PySem.W.Frag) (C : Addr) (sp : Sp) : R2 := fun x y H Q => ∃ a dx vs t, x = .ref a ∧ H a = some (.ins C dx vs) ∧ TyE K H y t ∧ PySem.W.notFirst K C t = true ∧ sp [x, y] H Q E0
theorem rc_own {A : Around} {Q : VK} {a : Addr} {y : V} {u t : Value} (m : OwnM X.K C "__eq__" g) (F : FnOk X.prog X.w X.K X.mg X.base (L2.CX X.prog X.w) k g fd ps sp) (hr : Room k A) (e0 : Env0 X.prog X.w X.K X.mg X.base A X.stack s H) (hb : Binds X.K fd ps []) (I : Inv X pins σ H s)
    (ha : H a = some (.ins C dx fs)) (ry : RelV y u) (ty : TyE X.K H y t) (hn : PySem.W.notFirst X.K C t = true) (q : sp [.ref a, y] H Q E0) (E : Value → Shared → Prop) : wpAny (model X.prog X.w) A (richCompare .Eq (.ref a) u) (EP X pins σ Q) E s := by
  obtain ⟨od, J⟩ := inst_at I ha
  obtain ⟨mm, hF⟩ := I.fr
  refine PySem.W.cmp_K (op := .Eq) hr.units0 hF I.ok.mod.kin J (tye_looks I ry ty) hn m.at_ m.fn ?_
  refine wpAny_mono (run_below (us := [.ref a, u]) (vs := [.ref a, y]) F hr e0 hb I (.cons rfl (.cons ry .nil)) q _) (fun w s' z => ?_) fun _ _ x => x
  obtain ⟨z', H', I', rz, qz⟩ := z
  exact SlX.cmpback rz ⟨z', H', I', rz, qz⟩
theorem op_ownE (m : OwnM X.K C "__eq__" g) (F : FnOk X.prog X.w X.K X.mg X.base (L2.CX X.prog X.w) k g fd ps sp) (hr : Room k X.A) (hb : Binds X.K fd ps []) : OpR X (compareOp .Eq) (rOwnE X.K C sp) := by
  intro pins s σ H x y v u Q I rx ry h
  obtain ⟨a, dx, vs, t, rfl, ha, ty, hn, q⟩ := h
  cases (show v = Value.ref a from rx)
  show wpAny _ _ (richCompare .Eq (.ref a) u) _ _ _
  exact rc_own m F hr I.env0 hb I ha ry ty hn q _
/-- bool(a), if a: by an own __bool__ -/
theorem truthy_own {A : Around} {a : Addr} {Q : Bool → Hp → Prop} (m : OwnM X.K C "__bool__" g) (F : FnOk X.prog X.w X.K X.mg X.base (L2.CX X.prog X.w) k g fd ps sp) (hr : Room k A) (e0 : Env0 X.prog X.w X.K X.mg X.base A X.stack s H) (hb : Binds X.K fd ps []) (I : Inv X pins σ H s)
    (ha : H a = some (.ins C dx fs)) (q : sp [.ref a] H (fun v H' => ∃ b, v = .bl b ∧ Q b H') E0) (E : Value → Shared → Prop) : wpAny (model X.prog X.w) A (truthy (.ref a)) (TP X pins σ Q) E s := by
  obtain ⟨od, J⟩ := inst_at I ha
  obtain ⟨mm, hF⟩ := I.fr
  refine PySem.W.truthy_K hF I.ok.mod.kin J m.at_ m.fn ?_
  refine wpAny_mono (run_below (us := [.ref a]) (vs := [.ref a]) F hr e0 hb I (.cons rfl .nil) q _) (fun w s' z => ?_) fun _ _ x => x
  obtain ⟨z', H', I', rz, b, ez, qz⟩ := z
  subst ez
  cases (show w = Value.bool b from rz)
  exact ⟨H', I', qz⟩
def rOwnB (C : Addr) (sp : Sp) : List V → Hp → VK → Prop := fun xs H Q => ∃ a dx vs, xs = [.ref a] ∧ H a = some (.ins C dx vs) ∧ sp [.ref a] H (fun v H' => ∃ b, v = .bl b ∧ Q (.bl b) H') E0
theorem bool_own {A : Around} {Q : Value → Shared → Prop} {E : Value → Shared → Prop} {prog : Program} {w : World} {x : Addr} {s : Shared} (h : wpAny (model prog w) A.in1.in1 (truthy (.ref x)) (fun b s₁ => Q (.bool b) s₁) E s) : wpAny (model prog w) A (call (.type "bool") [.ref x]) Q E s := by
  refine ks_callType_codesW (T := "bool") (Bi := Builtin.«object.__init__») (Q₁ := fun r s₁ => ∃ b, r = Value.bool b ∧ Q r s₁) PySem.F.called_bool (wpAny_of_eq (PySem.F.typeCall_bool_1 _)) PySem.F.entry_object_init ?_ ?_
  · refine codeAny_of_tree ?_
    show wpAny _ A.in1.in1 (do checkBuiltinCall "bool.__new__" ⟨[.type "bool", .ref x], []⟩; again (.builtin "bool.__new__" ⟨[.type "bool", .ref x], []⟩)) _ _ s
    refine wpAny_bind (wpAny_of_eq (PySem.F.newCall_bool_1 _) (wpAny_pure ⟨plainId_quiet (by decide +kernel) _, codeAny_builtin PySem.F.entry_bool_new ?_⟩))
    rw [Around.under_plainId (by decide +kernel) _]
    have f1 := F.conv_sub_bool
    have h2 : ∀ {Q' : Bool → Shared → Prop}, (∀ b s₁, Q (.bool b) s₁ → Q' b s₁) → wpAny (model prog w) A.in1.in1 (truthy (.ref x)) Q' E s := fun k => wpAny_mono h k fun _ _ z => z
    obtain ⟨hp, g, d, tk, os⟩ := s
    repeat (any_goals (first | assumption | (with_reducible refine h2 fun b s₁ hq => ?_) | wp_step))
    all_goals first | exact ⟨_, rfl, hq⟩ | skip
  · rintro obj s₁ ⟨b, rfl, hq⟩
    exact ⟨by first | exact typeIs_bool _ _ | rfl, PySem.F.args_object_init_2 _ _, object_init_meets PySem.F.called_bool.init.lookup PySem.F.called_bool.made (by decide) prog w A.in1 _ s₁ ⟨by first | exact typeIs_bool _ _ | rfl, rfl, hq⟩⟩
theorem call_ownB (m : OwnM X.K C "__bool__" g) (F : FnOk X.prog X.w X.K X.mg X.base (L2.CX X.prog X.w) k g fd ps sp) (hr : Room (k + 2) X.A) (hb : Binds X.K fd ps []) : CallR X (.type "bool") (rOwnB C sp) := by
  intro pins s σ H xs us Q I r h
  obtain ⟨a, dx, vs, rfl, ha, q⟩ := h
  obtain ⟨u, rfl, ru⟩ := vals1 r
  cases (show u = Value.ref a from ru)
  refine bool_own (wpAny_mono (truthy_own (Q := fun b H' => Q (.bl b) H') m F (show Room k X.A.in1.in1 from (show Room (k + 1) X.A.in1 from hr.in1).in1) I.env0.in1.in1 hb I ha q _) (fun b s' z => ?_) fun _ _ x => x)
  obtain ⟨H', I', qz⟩ := z
  exact ⟨.bl b, H', I', rfl, qz⟩
/-- a test that is such an object -/
theorem pt_own {e : Expr} {te : TE} (he : PE X e te) (m : OwnM X.K C "__bool__" g) (F : FnOk X.prog X.w X.K X.mg X.base (L2.CX X.prog X.w) k g fd ps sp) (hr : Room k X.A) (hb : Binds X.K fd ps [])
    (hw : ∀ whole, isTrue e X.env whole = (do let v ← whole; standAt e.pos; holding [v] (truthy v)) := by intro _; rfl) :
    PT X e (fun σ H Q => te σ H fun x H1 => ∃ a dx vs, x = .ref a ∧ H1 a = some (.ins C dx vs) ∧ sp [.ref a] H1 (fun v H' => ∃ b, v = .bl b ∧ Q b H') E0) := by
  refine ⟨fun pins s σ H Q I h => ?_⟩
  refine isTrue_plain (thn (he.run pins s σ H _ I h) fun v s1 ⟨x, H1, I1, r1, a, dx, vs, ex, ha, q⟩ => ?_) (hw _)
  subst ex
  cases (show v = Value.ref a from r1)
  exact truthy_own m F hr I1.env0 hb I1 ha q _
/-- C.m(..), m a classmethod -/
def tCMethS (C : Addr) (sp : Sp) (E : L2.St → XK) (ta : TE) (t : TA) : TE := fun σ H Q => ta σ H fun x H1 => x = .ref C ∧ t σ H1 fun vs H2 => sp (.ref C :: vs) H2 Q (E σ)
theorem pe_cmethS {o e : Expr} {es : List Expr} {m : Str} {apos pos : Pos} {ta : TE} {t : TA} {pl : Sem Bool} {mc : Value} {p : Addr} {CX : CXT} {E : L2.St → XK} (he : PE X o ta) (r : ClX.CRead X.K C mc) (c : ClX.CMet X.K C mc m p g) (F : FnOk X.prog X.w X.K X.mg X.base CX k g fd ps sp) (hr : Room k X.A) (hb : Binds X.K fd ps [])
    (hx : ∀ σ, PassesAt CX X σ (E σ)) (ha : PA X (e :: es) t)
    (hst : starEach (e :: es) X.env = (false, eval e X.env) :: starEach es X.env := by rfl) (hpl : (backTo pos (starEach es X.env)).any (·.1) = false := by rfl)
    (ht : eval (.Call (.Attribute o m apos) (e :: es) [] pos) X.env = (do
      let ov ← eval o X.env
      standAt apos.atName
      let (f, first) ← holding [ov] (getMethod ov m pl)
      callWith pos f first (backTo pos (starEach (e :: es) X.env)) (backToKw pos (keywordEach [] X.env))) := by rfl) :
    PE X (.Call (.Attribute o m apos) (e :: es) [] pos) (tCMethS C sp E ta t) := by
  refine ⟨fun pins s σ H Q I h => ?_⟩
  refine PySem.W.methodCall_KW (pl := pl) (thn (he.run pins s σ H _ I h) fun u s1 ⟨x, H1, I1, rx, ex, q⟩ => ?_) ht
  subst ex
  obtain rfl : u = Value.ref C := rx
  refine ClX.getmethcm_ok I1 r c fun s2 I2 => ?_
  refine ClX.callwith_cm I2 (ClX.base_none I1 (Nat.le_refl _)) c.fi (thn (ha.run pos _ s2 σ H1 _ I2 q) fun us s3 ⟨vs, H2, I3, rv, q2⟩ => ⟨⟨ClX.pin_at I3, I3.kIn⟩, ?_⟩) hst hpl
  have hl : (Value.ref C :: us).length = ps.length := by
    have e := (show Vals (V.ref C :: vs) (Value.ref C :: us) from .cons rfl rv).length
    rw [← e]
    exact F.len _ _ _ _ q2
  have b := hb s3 (Value.ref C :: us) I3.kIn (by rw [List.append_nil]; exact hl)
  rw [List.append_nil] at b
  have z : wpAny (model X.prog X.w) X.A (call (.ref s1.heap.objs.size) us) (EP X ((s1.heap.objs.size, PySem.W.methodObj (.ref g) (.ref C)) :: pins) σ Q) X.xe s3 := by
    refine wpAny_call (PySem.W.method_call (ClX.pin_at I3) (codeAny_mono (F.run X.A X.stack s3 H2 ⟨.ref C :: us, []⟩ (.ref C :: us) (.ref C :: vs) Q (E σ) hr I3.env0 b (.cons rfl rv) q2) fun r s' hq => ?_))
    cases r with
    | error e => exact hx σ _ H2 s3 e s' I3 hq
    | ok fl =>
      cases fl with
      | ret u => exact I3.after hq
      | next => exact False.elim hq
      | brk => exact False.elim hq
      | cont => exact False.elim hq
  exact thn z fun _ _ y => ClX.unpinE y
end

section
variable {F : Fx} {ρ : Ty} {ω w w1 w2 wc wc' : Ow} {e o : Expr} {es : List Expr} {A B R S : Rl} {Rs : List Rl} {P : Er} {pos p apos : Pos} {x m : Str} {k : Nat} {f C g pc : Addr} {fd : FuncData} {ps : List Str} {pre : Pre} {fs gs : List (Str × Rl)} {b : Bool}
theorem mk1 {v : V} {H : Hp} (h : R.r v H) : All2 [R] [v] H := ⟨h, trivial⟩
theorem mk2 {u v : V} {H : Hp} (h : R.r u H) (h' : S.r v H) : All2 [R, S] [u, v] H := ⟨h, h', trivial⟩
theorem mkc {v : V} {vs : List V} {H : Hp} (h : R.r v H) (h' : All2 Rs vs H) : All2 (R :: Rs) (v :: vs) H := ⟨h, h'⟩
theorem sp_ok0 {vs : List V} {G H : Hp} {Q : VK} (at_ : At F w G H) (hv : All2 Rs vs G) (hp : pre Rs [] (.ok R) []) (q : ∀ v G2 H2, Same G G2 → At F w G2 H2 → R.r v G2 → Q v H2) {E : XK} : spM pre vs H Q E := sp_ok (wc := []) (w := w) at_ hv hp rfl q
theorem bop_own {op : Operator} (hp : pre [rIns C fs, rIns C gs] [] (.ok R) []) (Fn : FnOk F.X.prog F.X.w F.X.K F.X.mg F.X.base (L2.CX F.X.prog F.X.w) k g fd ps (spM pre)) (c : ClsX F.X.K C) (m : OwnM F.X.K C (PySem.dunder op.info.2) g) (hr : Room k F.X.A) (hb : Binds F.X.K fd ps []) :
    Bop F w (binaryOp op) (rIns C fs) (rIns C gs) R := ⟨_, op_own2 c m Fn hr hb, fun x y G H at_ hx hy Q q => by
  obtain ⟨a, dx, vs, rfl, h1, h2⟩ := id hx
  obtain ⟨b, dy, ws, rfl, h3, h4⟩ := id hy
  exact ⟨a, dx, vs, b, dy, ws, rfl, rfl, at_.gh _ _ h1, at_.gh _ _ h3, sp_ok0 at_ (mk2 hx hy) hp q⟩⟩
theorem uop_own (hp : pre [rIns C fs] [] (.ok R) []) (Fn : FnOk F.X.prog F.X.w F.X.K F.X.mg F.X.base (L2.CX F.X.prog F.X.w) k g fd ps (spM pre)) (m : OwnM F.X.K C "__neg__" g) (hr : Room k F.X.A) (hb : Binds F.X.K fd ps []) :
    Uop F w (unaryOp .USub) (rIns C fs) R := ⟨_, op_own1 m Fn hr hb, fun x G H at_ hx Q q => by
  obtain ⟨a, dx, vs, rfl, h1, h2⟩ := id hx
  exact ⟨a, dx, vs, rfl, at_.gh _ _ h1, sp_ok0 at_ (mk1 hx) hp q⟩⟩
/-- the type of what is compared with -/
def TyR (K : PySem.W.Frag) (B : Rl) (t : Value) : Prop := ∀ v G H, Same G H → B.r v G → TyE K H v t
theorem tyr_int {K : PySem.W.Frag} {i : Int} : TyR K (rInt i) (.type "int") := fun v G H s h => by cases (show v = V.int i from h); exact .int i
theorem tyr_str {K : PySem.W.Frag} {i : Str} : TyR K (rStr i) (.type "str") := fun v G H s h => by cases (show v = V.str i from h); exact .str i
theorem tyr_ins {K : PySem.W.Frag} : TyR K (rIns C fs) (.ref C) := fun v G H s h => by
  obtain ⟨a, dx, vs, rfl, h1, h2⟩ := h
  exact .ins (s _ _ h1)
theorem tyr_lst {K : PySem.W.Frag} {Rs : List Rl} : TyR K (rLst Rs) (.type "list") := fun v G H s h => by
  obtain ⟨a, vs, rfl, h1, h2⟩ := h
  exact .lst (s _ _ h1)
theorem tyr_tup {K : PySem.W.Frag} {Rs : List Rl} : TyR K (rTup Rs) (.type "tuple") := fun v G H s h => by
  obtain ⟨a, vs, rfl, h1, h2⟩ := h
  exact .tup (s _ _ h1)
theorem bop_ownE {t : Value} (hp : pre [rIns C fs, B] [] (.ok R) []) (ht : TyR F.X.K B t) (hn : PySem.W.notFirst F.X.K C t = true) (Fn : FnOk F.X.prog F.X.w F.X.K F.X.mg F.X.base (L2.CX F.X.prog F.X.w) k g fd ps (spM pre)) (m : OwnM F.X.K C "__eq__" g) (hr : Room k F.X.A) (hb : Binds F.X.K fd ps []) :
    Bop F w (compareOp .Eq) (rIns C fs) B R := ⟨_, op_ownE m Fn hr hb, fun x y G H at_ hx hy Q q => by
  obtain ⟨a, dx, vs, rfl, h1, h2⟩ := id hx
  exact ⟨a, dx, vs, t, rfl, at_.gh _ _ h1, ht y G H at_.gh hy, hn, sp_ok0 at_ (mk2 hx hy) hp q⟩⟩
theorem cop_ownB (hp : pre [rIns C fs] [] (.ok (rBool b)) []) (Fn : FnOk F.X.prog F.X.w F.X.K F.X.mg F.X.base (L2.CX F.X.prog F.X.w) k g fd ps (spM pre)) (m : OwnM F.X.K C "__bool__" g) (hr : Room (k + 2) F.X.A) (hb : Binds F.X.K fd ps []) :
    Cop F w (.type "bool") [rIns C fs] (rBool b) := ⟨_, call_ownB m Fn hr hb, fun xs G H at_ hx Q q => by
  obtain ⟨x, rfl, hx1⟩ := all1 hx
  obtain ⟨a, dx, vs, rfl, h1, h2⟩ := id hx1
  exact ⟨a, dx, vs, rfl, at_.gh _ _ h1, sp_ok0 (Rs := [rIns C fs]) at_ (mk1 hx1) hp fun v G2 H2 s a2 r => ⟨b, r, q _ G2 H2 s a2 rfl⟩⟩⟩
theorem tr_own (he : ER F ρ ω e (rIns C fs) w) (hp : pre [rIns C fs] [] (.ok (rBool b)) []) (Fn : FnOk F.X.prog F.X.w F.X.K F.X.mg F.X.base (L2.CX F.X.prog F.X.w) k g fd ps (spM pre)) (m : OwnM F.X.K C "__bool__" g) (hr : Room k F.X.A) (hb : Binds F.X.K fd ps [])
    (hw : ∀ whole, isTrue e F.X.env whole = (do let v ← whole; standAt e.pos; holding [v] (truthy v)) := by intro _; rfl) : TR F ρ ω e b w := fun σ G H at_ sl Q q => by
  refine tw_of (pt_own pe_w m Fn hr hb hw) (he σ G H at_ sl _ fun v G2 H2 s a r => ?_)
  obtain ⟨x, dx, vs, rfl, h1, h2⟩ := id r
  exact ⟨x, dx, vs, rfl, a.gh _ _ h1, sp_ok0 (Rs := [rIns C fs]) a (mk1 r) hp fun v G3 H3 s3 a3 r3 => ⟨b, r3, q G3 H3 (s.trans s3) a3⟩⟩
theorem er_cmeth {mc : Value} {pl : Sem Bool} (ho : ER F ρ ω o (rRef C) w1) (ha : AR F ρ w1 (e :: es) Rs w) (hp : pre (rRef C :: Rs) [] (.ok R) []) (Fn : FnOk F.X.prog F.X.w F.X.K F.X.mg F.X.base (L2.CX F.X.prog F.X.w) k g fd ps (spM pre)) (hr : Room k F.X.A) (r : ClX.CRead F.X.K C mc) (c : ClX.CMet F.X.K C mc m pc g) (hb : Binds F.X.K fd ps [])
    (hst : starEach (e :: es) F.X.env = (false, eval e F.X.env) :: starEach es F.X.env := by rfl) (hpl : (backTo pos (starEach es F.X.env)).any (·.1) = false := by rfl)
    (ht : eval (.Call (.Attribute o m apos) (e :: es) [] pos) F.X.env = (do
      let ov ← eval o F.X.env
      standAt apos.atName
      let (f, first) ← holding [ov] (getMethod ov m pl)
      callWith pos f first (backTo pos (starEach (e :: es) F.X.env)) (backToKw pos (keywordEach [] F.X.env))) := by rfl) : ER F ρ ω (.Call (.Attribute o m apos) (e :: es) [] pos) R w := fun σ G H at_ sl Q q => by
  refine ew_of (pe_cmethS pe_w r c Fn hr hb passW pa_w hst hpl ht) (ho σ G H at_ sl _ fun v G1 H1 s1 a1 r1 => ⟨r1, ha σ G1 H1 a1 (sl.up s1) _ fun vs G2 H2 s2 a2 r2 => ?_⟩)
  exact sp_ok0 (Rs := rRef C :: Rs) a2 (mkc rfl r2) hp fun v G3 H3 s3 a3 r3 => q v G3 H3 ((s1.trans s2).trans s3) a3 r3
/-- isinstance(x, C) -/
theorem cop_isIns (c : ClsX F.X.K C) : Cop F w (.builtin "isinstance") [rIns C fs, rRef C] (rBool true) := ⟨_, call_isi, fun xs G H at_ hx Q q => by
  obtain ⟨x, y, rfl, hx1, hy⟩ := all2 hx
  cases (show y = V.ref C from hy)
  obtain ⟨a, dx, vs, rfl, h1, h2⟩ := id hx1
  exact ⟨_, _, .ref C, .ref C, true, rfl, .own C, .base (.ins (at_.gh _ _ h1) c.cls c.ca c.cn c.ct c.cm), (by unfold PySem.W.kitOne; rw [if_pos (by simp)]), q _ G H (Same.refl _) at_ rfl⟩⟩
theorem cop_isNot {t : V} {tv : Value} (ht : (∃ i, t = .int i ∧ tv = .type "int") ∨ (∃ z, t = .str z ∧ tv = .type "str") ∨ (∃ k, t = .bl k ∧ tv = .type "bool") ∨ (t = .non ∧ tv = .type "NoneType")) (hk : PySem.W.kitOne F.X.K tv (.ref C) = some b) : Cop F w (.builtin "isinstance") [rEqV t, rRef C] (rBool b) := ⟨_, call_isi, fun xs G H at_ hx Q q => by
  obtain ⟨x, y, rfl, hx1, hy⟩ := all2 hx
  cases (show y = V.ref C from hy)
  cases (show x = t from hx1)
  refine ⟨_, _, tv, .ref C, b, rfl, .own C, .base ?_, hk, q _ G H (Same.refl _) at_ rfl⟩
  rcases ht with ⟨i, rfl, rfl⟩ | ⟨z, rfl, rfl⟩ | ⟨z, rfl, rfl⟩ | ⟨rfl, rfl⟩
  · exact .int i
  · exact .str z
  · exact .bl z
  · exact .non⟩
theorem cop_isLst {Rs : List Rl} (hk : PySem.W.kitOne F.X.K (.type "list") (.ref C) = some b) : Cop F w (.builtin "isinstance") [rLst Rs, rRef C] (rBool b) := ⟨_, call_isi, fun xs G H at_ hx Q q => by
  obtain ⟨x, y, rfl, hx1, hy⟩ := all2 hx
  cases (show y = V.ref C from hy)
  obtain ⟨a, vs, rfl, h1, h2⟩ := id hx1
  exact ⟨_, _, .type "list", .ref C, b, rfl, .own C, .base (.lst (at_.gh _ _ h1)), hk, q _ G H (Same.refl _) at_ rfl⟩⟩
theorem cop_isTup {Rs : List Rl} (hk : PySem.W.kitOne F.X.K (.type "tuple") (.ref C) = some b) : Cop F w (.builtin "isinstance") [rTup Rs, rRef C] (rBool b) := ⟨_, call_isi, fun xs G H at_ hx Q q => by
  obtain ⟨x, y, rfl, hx1, hy⟩ := all2 hx
  cases (show y = V.ref C from hy)
  obtain ⟨a, vs, rfl, h1, h2⟩ := id hx1
  exact ⟨_, _, .type "tuple", .ref C, b, rfl, .own C, .base (.tup (at_.gh _ _ h1)), hk, q _ G H (Same.refl _) at_ rfl⟩⟩
theorem cop_isTy {t : V} {T U : String} (ht : (∃ i, t = .int i ∧ T = "int") ∨ (∃ z, t = .str z ∧ T = "str") ∨ (∃ k, t = .bl k ∧ T = "bool") ∨ (t = .non ∧ T = "NoneType")) (hk : PySem.W.kitOne F.X.K (.type T) (.type U) = some b) : Cop F w (.builtin "isinstance") [rEqV t, rEqV (.ty U)] (rBool b) := ⟨_, call_isi, fun xs G H at_ hx Q q => by
  obtain ⟨x, y, rfl, hx1, hy⟩ := all2 hx
  cases (show y = V.ty U from hy)
  cases (show x = t from hx1)
  refine ⟨_, _, .type T, .type U, b, rfl, .ty U, .base ?_, hk, q _ G H (Same.refl _) at_ rfl⟩
  rcases ht with ⟨i, rfl, rfl⟩ | ⟨z, rfl, rfl⟩ | ⟨z, rfl, rfl⟩ | ⟨rfl, rfl⟩
  · exact .int i
  · exact .str z
  · exact .bl z
  · exact .non⟩
end
end W1
set_option maxRecDepth 100000
set_option maxHeartbeats 2000000
namespace W1
open PySem PySem.Spec PyProof.Rows L2

/-! ### list comprehensions -/
def wipeT (ρ : Ty) : List Nat → Ty
  | [] => ρ
  | v :: vs => (wipeT ρ vs).set v none
theorem Slots.wipe {ρ : Ty} {σ : L2.St} {G : Hp} (s : Slots ρ σ G) : ∀ vs : List Nat, Slots (wipeT ρ vs) (L2.wipe σ vs) G
  | [] => s
  | v :: vs => (Slots.wipe s vs).gone v
/-- a comprehension's target -/
def GEw (g : TG) (vs : List Nat) (ρ : Ty) (S : Rl) (ρ' : Ty) : Prop :=
  ∀ v σ G H (Q : L2.St → Hp → Prop), Same G H → Slots ρ σ G → S.r v G → (∀ σ2, L2.wipe σ2 vs = L2.wipe σ vs → Slots ρ' σ2 G → Q σ2 H) → g v (L2.wipe σ vs) H Q
theorem gew_name {i : Nat} {ρ : Ty} {S : Rl} : GEw (gName i) [i] ρ S ((ρ.set i none).set i (some S)) := fun v σ G H Q s sl r q =>
  q _ (by show ((σ.set i none).set i (some v)).set i none = σ.set i none; rw [List.set_set, List.set_set]) ((sl.gone i).set i r)
theorem gew_tup {K : PySem.W.Frag} {i j : Nat} {ρ : Ty} {R S : Rl} : GEw (gTup K 2 (gCons (gName i) (gCons (gName j) gNil))) [i, j] ρ (rTup [R, S]) ((((ρ.set j none).set i none).set i (some R)).set j (some S)) := fun v σ G H Q s sl r q => by
  obtain ⟨a, vs, rfl, h1, h2⟩ := r
  obtain ⟨x, y, rfl, hx, hy⟩ := all2 h2
  refine ⟨a, [x, y], rfl, SqT.of (s _ _ h1), rfl, x, [y], rfl, y, [], rfl, rfl, ?_⟩
  refine q _ ?_ ((((sl.gone j).gone i).set i hx).set j hy)
  show (((((σ.set j none).set i none).set i (some x)).set j (some y)).set j none).set i none = (σ.set j none).set i none
  simp only [List.set_set]
  by_cases hij : i = j
  · subst hij
    simp only [List.set_set]
  · rw [List.set_comm (i := i) (j := j) _ _ hij]
    simp only [List.set_set]
def oL (Rs : List Rl) : Ol := ⟨fun o G => ∃ vs, o = .lst vs ∧ All2 Rs vs G, fun _ _ _ e ⟨vs, a, b⟩ => ⟨vs, a, b.up e⟩⟩
/-- a block's context -/
abbrev blkF (F : Fx) (s : Shared) (H : Hp) (scope : Scope) (C : Addr) (cl : List (Str × Addr)) (fp : List Addr) : Fx :=
  ⟨F.X.blk s H scope (compEnvC scope cl C F.X.env) fp, F.G0, F.H0, F.M, fun _ _ _ _ => False, fun _ _ ⟨_, _, _, _, _, _, _, _, _, _, _, _, _, _, _, _, z⟩ => z.elim⟩
theorem At.to {F F' : Fx} {ω : Ow} {G H : Hp} (a : At F ω G H) (h1 : F'.G0 = F.G0 := by rfl) (h2 : F'.H0 = F.H0 := by rfl) (h3 : F'.M = F.M := by rfl) : At F' ω G H := by
  obtain ⟨X, G0, H0, M, W, tk⟩ := F
  obtain ⟨X', G0', H0', M', W', tk'⟩ := F'
  dsimp only at h1 h2 h3
  subst h1 h2 h3
  exact ⟨a.gg, a.hh, a.gh, a.fr, a.mm, a.ow, a.nd⟩
section
variable {F : Fx} {ρ : Ty} {ω w1 : Ow} {tg it elt c : Expr} {pos spos : Pos} {scope : Scope} {own : List (Str × Nat)} {g : TG} {ifs : List Expr} {α : Type}
theorem lc_gen {xs : List α} {A B : α → Rl} {p : α → Bool} {wi : TI} {tt : TT} {ρ' : α → Ty}
    (hwi : ∀ σ G H, At F ω G H → Slots ρ σ G → ∀ R : It → Hp → Prop, (∀ J G2 H2, Same G G2 → At F w1 G2 H2 → Yld J (xs.map A) G2 → R J H2) → wi σ H R) (hz : xs.length ≤ 100000)
    (hge : ∀ (i : Nat) a, xs[i]? = some a → GEw g (own.map (·.2)) ρ (A a) (ρ' a))
    (htt : ∀ (i : Nat) a, xs[i]? = some a → ∀ d σ2 G H, At F (d :: w1) G H → Slots (ρ' a) σ2 G → ∀ Q : Bool → Hp → Prop, (∀ G3 H3, Same G G3 → At F (d :: w1) G3 H3 → Q (p a) H3) → tt σ2 H Q)
    (he : ∀ (i : Nat) a, xs[i]? = some a → p a = true → ∀ s H0 C cl fp d, ER (blkF F s H0 scope C cl fp) (ρ' a) (d :: w1) elt (B a) (d :: w1))
    {σ : L2.St} {G H : Hp} (at_ : At F ω G H) (sl : Slots ρ σ G) {Q : VK} (q : ∀ v G2 H2, Same G G2 → At F w1 G2 H2 → (rLst ((xs.filter p).map B)).r v G2 → Q v H2) :
    tLc wi g tt (fun σ H Q => ∀ s H0 C cl fp, EW (F.X.blk s H0 scope (compEnvC scope cl C F.X.env) fp) elt σ H Q) (own.map (·.2)) σ H Q := by
  refine hwi σ G H at_ sl _ fun J G2 H2 s2 a2 y2 => fun D hD => ?_
  have hM : D ∉ F.M := fun hm => a2.mm D hm hD
  refine ⟨fun i m H => m = xs.length - i ∧ i ≤ xs.length ∧ ∃ G, At F ((D, oL (((xs.take i).filter p).map B)) :: w1) G H ∧ Same G2 G, ⟨xs.length, by simp, Nat.zero_le _, G2, a2.own hD ⟨[], rfl, trivial⟩, Same.refl _⟩, ?_⟩
  rintro i m H1 ⟨rfl, hi, G1, a1, s1⟩
  have hlen : (xs.map A).length = xs.length := List.length_map _
  by_cases hlt : i < xs.length
  · have hgo : xs[i]? = some xs[i] := List.getElem?_eq_getElem hlt
    have htake : xs.take (i + 1) = xs.take i ++ [xs[i]] := by rw [List.take_add_one, hgo]; rfl
    refine .inr ⟨y2.go i G1 H1 s1 a1.gh (by rw [hlen]; exact hlt), fun H' => ∃ G, At F ((D, oL (((xs.take (i + 1)).filter p).map B)) :: w1) G H' ∧ Same G2 G, fun H' z => ⟨xs.length - (i + 1), by omega, rfl, hlt, z⟩, fun x H' y => ?_⟩
    obtain ⟨G3, st, rx⟩ := y2.yld i (A xs[i]) G1 H1 x H' s1 a1.gh (by rw [List.getElem?_map, hgo]; rfl) y
    have a3 := a1.step st
    have s3 := s1.trans st.gg
    refine hge i _ hgo x σ G3 H' _ a3.gh ((sl.up s2).up s3) rx fun σ2 hw sl2 => ⟨hw, htt i _ hgo _ σ2 G3 H' a3 sl2 _ fun G4 H4 s4 a4 => ?_⟩
    cases hp : p xs[i] with
    | false =>
      refine iteF ⟨G4, ?_, s3.trans s4⟩
      rw [htake, List.filter_append, List.filter_cons, hp]
      simp only [Bool.false_eq_true, if_false, List.filter_nil, List.append_nil]
      exact a4
    | true =>
      refine iteT fun s H0 C cl fp => he i _ hgo hp s H0 C cl fp _ σ2 G4 H4 a4.to (sl2.up s4) _ fun v G5 H5 s5 a5' r5 => ?_
      have a5 : At F ((D, oL (((xs.take i).filter p).map B)) :: w1) G5 H5 := a5'.to
      obtain ⟨_, _, o, h1, vs, rfl, h2⟩ := a5.ow _ List.mem_cons_self
      have hl2 : vs.length ≤ xs.length := by
        rw [← h2.len, List.length_map]
        exact Nat.le_trans (List.length_filter_le _ _) (List.length_take_le _ _ |> fun z => Nat.le_trans z hi)
      refine ⟨vs, h1, Nat.lt_of_le_of_lt (Nat.le_trans hl2 hz) (by decide), G5, ?_, (s3.trans s4).trans s5⟩
      rw [htake, List.filter_append, List.filter_cons, hp]
      simp only [if_true, List.filter_nil, List.map_append, List.map_cons, List.map_nil]
      exact a5.chg ⟨_, rfl, h2.app (mk1 r5)⟩
  · have e : i = xs.length := by omega
    subst e
    refine .inl ⟨by have := y2.stop G1 H1 s1 a1.gh; rw [hlen] at this; exact this, ?_⟩
    rw [List.take_length] at a1
    obtain ⟨hg0, _, o, h1, vs, rfl, h2⟩ := a1.ow _ List.mem_cons_self
    have a5 := a1.pub h1 (At.own0 a1 hM)
    have sg : Same G1 (upd G1 D (.lst vs)) := fun b u e => by rw [upd_ne (ne_of_none e hg0)]; exact e
    exact q _ _ _ ((s2.trans s1).trans sg) a5 ⟨D, vs, rfl, upd_same, h2.up sg⟩
theorem filt_true {xs : List α} : xs.filter (fun _ => true) = xs := by
  induction xs with
  | nil => rfl
  | cons a l ih => rw [List.filter_cons, if_pos rfl, ih]
/-- [elt for tg in it] -/
theorem er_lc {xs : List α} {A B : α → Rl} {ρ' : α → Ty} (hit : IT F ρ ω tg it (xs.map A) w1) (hz : xs.length ≤ 100000) (own : List (Str × Nat)) (ok : BlkOk F.X.N F.X.env.scope scope own)
    (hpg : ∀ (s : Shared) (H : Hp) (C : Addr) (cl : List (Str × Addr)) (fp : List Addr), PG (F.X.blk s H scope (compEnvC scope cl C F.X.env) fp) tg g) (hge : ∀ (i : Nat) a, xs[i]? = some a → GEw g (own.map (·.2)) ρ (A a) (ρ' a))
    (he : ∀ (i : Nat) a, xs[i]? = some a → ∀ s H0 C cl fp d, ER (blkF F s H0 scope C cl fp) (ρ' a) (d :: w1) elt (B a) (d :: w1))
    (hN : F.X.N.Nodup) (hc : F.X.calm = true := by rfl) (hs : ∀ z, foldedSetIterable it F.X.env z = pure z := by intro _; rfl) : ER F ρ ω (.ListComp elt [⟨tg, it, [], 0⟩] scope pos) (rLst (xs.map B)) w1 := fun σ G H at_ sl Q q => by
  obtain ⟨wi, hpi, hwi⟩ := hit
  refine ew_of (pe_lc hc hN hpi ok hpg (fun _ _ _ _ _ => pts_nil) (te := fun σ H Q => ∀ s H0 C cl fp, EW (F.X.blk s H0 scope (compEnvC scope cl C F.X.env) fp) elt σ H Q) (fun _ _ _ _ _ => ⟨fun pins s σ H Q I h => h _ _ _ _ _ pins s I⟩) hs) ?_
  refine lc_gen (p := fun _ => true) (tt := tYes) hwi hz hge (fun i a h d σ2 G H a1 s1 Q q => q G H (Same.refl _) a1) (fun i a h _ => he i a h) at_ sl fun v G2 H2 s2 a2 r2 => q v G2 H2 s2 a2 ?_
  rw [filt_true] at r2
  exact r2
/-- [elt for tg in it if c] -/
theorem er_lcf {xs : List α} {A B : α → Rl} {p : α → Bool} {ρ' : α → Ty} (hit : IT F ρ ω tg it (xs.map A) w1) (hz : xs.length ≤ 100000) (own : List (Str × Nat)) (ok : BlkOk F.X.N F.X.env.scope scope own)
    (hpg : ∀ (s : Shared) (H : Hp) (C : Addr) (cl : List (Str × Addr)) (fp : List Addr), PG (F.X.blk s H scope (compEnvC scope cl C F.X.env) fp) tg g) (hge : ∀ (i : Nat) a, xs[i]? = some a → GEw g (own.map (·.2)) ρ (A a) (ρ' a))
    (ht : ∀ (i : Nat) a, xs[i]? = some a → ∀ s H0 C cl fp d, TR (blkF F s H0 scope C cl fp) (ρ' a) (d :: w1) c (p a) (d :: w1))
    (he : ∀ (i : Nat) a, xs[i]? = some a → p a = true → ∀ s H0 C cl fp d, ER (blkF F s H0 scope C cl fp) (ρ' a) (d :: w1) elt (B a) (d :: w1))
    (hN : F.X.N.Nodup) (hc : F.X.calm = true := by rfl) (hs : ∀ z, foldedSetIterable it F.X.env z = pure z := by intro _; rfl) : ER F ρ ω (.ListComp elt [⟨tg, it, [c], 0⟩] scope pos) (rLst ((xs.filter p).map B)) w1 := fun σ G H at_ sl Q q => by
  obtain ⟨wi, hpi, hwi⟩ := hit
  refine ew_of (pe_lc hc hN hpi ok hpg (fun _ _ _ _ _ => pts_one (t := fun σ H Q => ∀ s H0 C cl fp, TW (F.X.blk s H0 scope (compEnvC scope cl C F.X.env) fp) c σ H Q) ⟨fun pins s σ H Q I h => h _ _ _ _ _ pins s I⟩) (te := fun σ H Q => ∀ s H0 C cl fp, EW (F.X.blk s H0 scope (compEnvC scope cl C F.X.env) fp) elt σ H Q) (fun _ _ _ _ _ => ⟨fun pins s σ H Q I h => h _ _ _ _ _ pins s I⟩) hs) ?_
  exact lc_gen hwi hz hge (fun i a h d σ2 G H a1 s1 Q q => fun s H0 C cl fp => ht i a h s H0 C cl fp d σ2 G H a1.to s1 Q fun G3 H3 s3 a3 => q G3 H3 s3 a3.to) (fun i a h hp => he i a h hp) at_ sl q
/-- y = [..] -/
theorem hb_setLc {K : Kn} {rest : List Stmt} {y : Str} {py : Pos} {xs : List α} {A B : α → Rl} {ρ' : α → Ty} (j : Nat) (hit : IT F ρ ω tg it (xs.map A) w1) (hz : xs.length ≤ 100000) (own : List (Str × Nat)) (ok : BlkOk F.X.N F.X.env.scope scope own)
    (hpg : ∀ (s : Shared) (H : Hp) (C : Addr) (cl : List (Str × Addr)) (fp : List Addr), PG (F.X.blk s H scope (compEnvC scope cl C F.X.env) fp) tg g) (hge : ∀ (i : Nat) a, xs[i]? = some a → GEw g (own.map (·.2)) ρ (A a) (ρ' a))
    (he : ∀ (i : Nat) a, xs[i]? = some a → ∀ s H0 C cl fp d, ER (blkF F s H0 scope C cl fp) (ρ' a) (d :: w1) elt (B a) (d :: w1)) (h : HB F (ρ.set j (some (rLst (xs.map B)))) w1 rest K)
    (hN : F.X.N.Nodup) (hsw : swapsWith (.ListComp elt [⟨tg, it, [], 0⟩] scope pos) (some (.Name y py)) spos.line F.X.env = pure true) (hc : F.X.calm = true := by rfl) (hy : F.X.N[j]? = some y := by rfl) (hyl : F.X.env.scope.names.lookup y = some .local := by rfl) (hs : ∀ z, foldedSetIterable it F.X.env z = pure z := by intro _; rfl) :
    HB F ρ ω (.Assign [.Name y py] (.ListComp elt [⟨tg, it, [], 0⟩] scope pos) spos :: rest) K := hb_cons fun σ G H D at_ sl ps => by
  obtain ⟨wi, hpi, hwi⟩ := hit
  refine sw_of (ps_setLc hc hN hy hyl hsw hpi ok hpg (fun _ _ _ _ _ => pts_nil) (te := fun σ H Q => ∀ s H0 C cl fp, EW (F.X.blk s H0 scope (compEnvC scope cl C F.X.env) fp) elt σ H Q) (fun _ _ _ _ _ => ⟨fun pins s σ H Q I h => h _ _ _ _ _ pins s I⟩) hs) ?_
  refine lc_gen (p := fun _ => true) (tt := tYes) hwi hz hge (fun i a h d σ2 G H a1 s1 Q q => q G H (Same.refl _) a1) (fun i a h _ => he i a h) at_ sl fun v G2 H2 s2 a2 r2 => ?_
  rw [filt_true] at r2
  exact h _ G2 H2 D a2 ((sl.up s2).set j r2) (ps.up s2)
theorem hb_setLcf {K : Kn} {rest : List Stmt} {y : Str} {py : Pos} {xs : List α} {A B : α → Rl} {p : α → Bool} {ρ' : α → Ty} (j : Nat) (hit : IT F ρ ω tg it (xs.map A) w1) (hz : xs.length ≤ 100000) (own : List (Str × Nat)) (ok : BlkOk F.X.N F.X.env.scope scope own)
    (hpg : ∀ (s : Shared) (H : Hp) (C : Addr) (cl : List (Str × Addr)) (fp : List Addr), PG (F.X.blk s H scope (compEnvC scope cl C F.X.env) fp) tg g) (hge : ∀ (i : Nat) a, xs[i]? = some a → GEw g (own.map (·.2)) ρ (A a) (ρ' a))
    (ht : ∀ (i : Nat) a, xs[i]? = some a → ∀ s H0 C cl fp d, TR (blkF F s H0 scope C cl fp) (ρ' a) (d :: w1) c (p a) (d :: w1))
    (he : ∀ (i : Nat) a, xs[i]? = some a → p a = true → ∀ s H0 C cl fp d, ER (blkF F s H0 scope C cl fp) (ρ' a) (d :: w1) elt (B a) (d :: w1)) (h : HB F (ρ.set j (some (rLst ((xs.filter p).map B)))) w1 rest K)
    (hN : F.X.N.Nodup) (hsw : swapsWith (.ListComp elt [⟨tg, it, [c], 0⟩] scope pos) (some (.Name y py)) spos.line F.X.env = pure true) (hc : F.X.calm = true := by rfl) (hy : F.X.N[j]? = some y := by rfl) (hyl : F.X.env.scope.names.lookup y = some .local := by rfl) (hs : ∀ z, foldedSetIterable it F.X.env z = pure z := by intro _; rfl) :
    HB F ρ ω (.Assign [.Name y py] (.ListComp elt [⟨tg, it, [c], 0⟩] scope pos) spos :: rest) K := hb_cons fun σ G H D at_ sl ps => by
  obtain ⟨wi, hpi, hwi⟩ := hit
  refine sw_of (ps_setLc hc hN hy hyl hsw hpi ok hpg (fun _ _ _ _ _ => pts_one (t := fun σ H Q => ∀ s H0 C cl fp, TW (F.X.blk s H0 scope (compEnvC scope cl C F.X.env) fp) c σ H Q) ⟨fun pins s σ H Q I h => h _ _ _ _ _ pins s I⟩) (te := fun σ H Q => ∀ s H0 C cl fp, EW (F.X.blk s H0 scope (compEnvC scope cl C F.X.env) fp) elt σ H Q) (fun _ _ _ _ _ => ⟨fun pins s σ H Q I h => h _ _ _ _ _ pins s I⟩) hs) ?_
  exact lc_gen hwi hz hge (fun i a h d σ2 G H a1 s1 Q q => fun s H0 C cl fp => ht i a h s H0 C cl fp d σ2 G H a1.to s1 Q fun G3 H3 s3 a3 => q G3 H3 s3 a3.to) (fun i a h hp => he i a h hp) at_ sl fun v G2 H2 s2 a2 r2 => h _ G2 H2 D a2 ((sl.up s2).set j r2) (ps.up s2)
end
end W1
set_option maxRecDepth 100000
set_option maxHeartbeats 2000000
namespace W1Q
open PySem PySem.SeqAt
open AutoSeq1 (wpAny_loadPart')
open MeetsSeq MeetsSeq2 MeetsSeq3 SeqRoads2

/-- all of k answers from the i-th on -/
def allFrom (e : Nat → Bool) : Nat → Nat → Bool
  | _, 0 => true
  | i, k + 1 => e i && allFrom e (i + 1) k
def anyFrom (e : Nat → Bool) : Nat → Nat → Bool
  | _, 0 => false
  | i, k + 1 => e i || anyFrom e (i + 1) k
abbrev lstO (items : Array Value) (n : Nat) : Obj := { cls := .type "list", data := .seq items n }
theorem past {xs : Array Value} {i : Nat} (h : xs.size ≤ i) : xs[((i : Nat) : Int).toNat]? = none := Array.getElem?_eq_none h
theorem here {xs : Array Value} {i : Nat} (h : i < xs.size) : xs[((i : Nat) : Int).toNat]? = some xs[i] := Array.getElem?_eq_getElem h
section
variable {prog : Program} {w : World} {A : Around} {R : Result → Shared → Prop} {l b : Addr} {e : Nat → Bool} {I : Nat → Shared → Prop}
/-- two lists at l and b of N items each; whatever a comparison changes keeps I -/
def Two (prog : Program) (w : World) (A : Around) (E : Value → Shared → Prop) (l b : Addr) (N : Nat) (e : Nat → Bool) (I : Nat → Shared → Prop) : Prop :=
  ∀ i s, I i s → ∃ (xs ys : Array Value) (m n : Nat), s.heap.get? l = some (lstO xs m) ∧ s.heap.get? b = some (lstO ys n) ∧ xs.size = N ∧ ys.size = N ∧
    ∀ (h1 : i < xs.size) (h2 : i < ys.size), wpAny (model prog w) A (eqBool xs[i] ys[i]) (fun r s' => r = e i ∧ I (i + 1) s') E s
def One (prog : Program) (w : World) (A : Around) (E : Value → Shared → Prop) (l : Addr) (x : Value) (N : Nat) (e : Nat → Bool) (I : Nat → Shared → Prop) : Prop :=
  ∀ i s, I i s → ∃ (xs : Array Value) (m : Nat), s.heap.get? l = some (lstO xs m) ∧ xs.size = N ∧ ∀ (h1 : i < xs.size), wpAny (model prog w) A (eqBool xs[i] x) (fun r s' => r = e i ∧ I (i + 1) s') E s
/-- the two comparisons, by one bit: false is ==, true is != -/
def bit (neg : Bool) : Int := if neg then 3 else 2
/-- the comparison's loop, both kinds at once; k items are left -/
theorem cmp_go (neg : Bool) {N : Nat} (T : Two prog w A.in1 (fun v s' => R (.error v) s') l b N e I) : ∀ (k i : Nat), i + k = N → ∀ s, I i s → (∀ j s', I j s' → R (.ok (.ret (.bool (neg != allFrom e i k)))) s') →
    wpAny (model prog w) A.in1 (Builtin.«list.__eq__.loop» ⟨[.ref l, .ref b, rawInt i, rawInt (bit neg)], []⟩) (GQ.FinOf prog w A R) (fun v s' => R (.error v) s') s
  | 0, i, hk, s, h, fin => by
    obtain ⟨xs, ys, m, n, gx, gy, zx, zy, -⟩ := T i s h
    have last := fin i s h
    cases s
    cases neg
    all_goals
      wp_walk using wpAny_loadPart' gx, wpAny_loadPart' gy
      rw [past (by omega : xs.size ≤ i), past (by omega : ys.size ≤ i)]
      wp_walk using wpAny_loadPart' gx, wpAny_loadPart' gy
    · show R (.ok (.ret (.bool (xs.size == ys.size)))) _
      rw [zx, zy, beq_self_eq_true]
      exact last
    · show R (.ok (.ret (.bool (xs.size != ys.size)))) _
      rw [zx, zy, bne_self_eq_false]
      exact last
  | k + 1, i, hk, s, h, fin => by
    obtain ⟨xs, ys, m, n, gx, gy, zx, zy, ask⟩ := T i s h
    have ix : i < xs.size := by omega
    have iy : i < ys.size := by omega
    have asked := ask ix iy
    have goes : e i = true → ∀ s2, I (i + 1) s2 → wpAny (model prog w) A.in1 (Builtin.«list.__eq__.loop» ⟨[.ref l, .ref b, rawInt ((i + 1 : Nat) : Int), rawInt (bit neg)], []⟩) (GQ.FinOf prog w A R) (fun v s' => R (.error v) s') s2 := fun he s2 h2 =>
      cmp_go neg T k (i + 1) (by omega) s2 h2 fun j s' z => by
        have := fin j s' z
        rw [allFrom, he, Bool.true_and] at this
        exact this
    have ends : e i = false → ∀ s2, I (i + 1) s2 → R (.ok (.ret (.bool neg))) s2 := fun he s2 h2 => by
      have := fin _ s2 h2
      rw [allFrom, he, Bool.false_and, Bool.bne_false] at this
      exact this
    have read2 : ∀ s2, I (i + 1) s2 → ∃ (us vs : Array Value) (m' n' : Nat), s2.heap.get? l = some (lstO us m') ∧ s2.heap.get? b = some (lstO vs n') ∧ i < us.size ∧ i < vs.size := fun s2 h2 => by
      obtain ⟨us, vs, m', n', g1, g2, z1, z2, -⟩ := T _ s2 h2
      exact ⟨us, vs, m', n', g1, g2, by omega, by omega⟩
    clear ask fin h
    cases s
    cases neg
    all_goals
      wp_walk using wpAny_loadPart' gx, wpAny_loadPart' gy
      rw [here ix, here iy]
      refine wpAny_bind (wpAny_mono asked (fun r s2 got => ?_) fun _ _ x => x)
      obtain ⟨rfl, h2⟩ := got
      obtain ⟨us, vs, m', n', g1, g2, j1, j2⟩ := read2 s2 h2
      cases he : e i
    all_goals first
      | (have fine := ends he s2 h2
         cases s2
         wp_walk using wpAny_loadPart' g1, wpAny_loadPart' g2
         rw [here j1, here j2]
         wp_walk
         exact fine)
      | (have next := goes he s2 h2
         cases s2
         wp_walk
         refine ⟨plainId_quiet plain_eq_loop _, codeAny_builtin entry_eq_loop ?_⟩
         rw [Around.under_plainId plain_eq_loop _]
         exact next)
/-- x in l: k items are left -/
theorem in_go {x : Value} {N : Nat} (T : One prog w A.in1 (fun v s' => R (.error v) s') l x N e I) : ∀ (k i : Nat), i + k = N → ∀ s, I i s → (∀ j s', I j s' → R (.ok (.ret (.bool (anyFrom e i k)))) s') →
    wpAny (model prog w) A.in1 (Builtin.«list.__contains__.loop» ⟨[.ref l, x, rawInt i], []⟩) (GQ.FinOf prog w A R) (fun v s' => R (.error v) s') s
  | 0, i, hk, s, h, fin => by
    obtain ⟨xs, m, gx, zx, -⟩ := T i s h
    have last := fin i s h
    cases s
    wp_walk using wpAny_loadPart' gx
    rw [past (by omega : xs.size ≤ i)]
    wp_walk
    exact last
  | k + 1, i, hk, s, h, fin => by
    obtain ⟨xs, m, gx, zx, ask⟩ := T i s h
    have ix : i < xs.size := by omega
    have asked := ask ix
    have found : e i = true → ∀ s2, I (i + 1) s2 → R (.ok (.ret (.bool true))) s2 := fun he s2 h2 => by
      have := fin _ s2 h2
      rw [anyFrom, he, Bool.true_or] at this
      exact this
    have goes : e i = false → ∀ s2, I (i + 1) s2 → wpAny (model prog w) A.in1 (Builtin.«list.__contains__.loop» ⟨[.ref l, x, rawInt ((i + 1 : Nat) : Int)], []⟩) (GQ.FinOf prog w A R) (fun v s' => R (.error v) s') s2 := fun he s2 h2 =>
      in_go T k (i + 1) (by omega) s2 h2 fun j s' z => by
        have := fin j s' z
        rw [anyFrom, he, Bool.false_or] at this
        exact this
    clear ask fin h
    cases s
    wp_walk using wpAny_loadPart' gx
    rw [here ix]
    refine wpAny_bind (wpAny_mono asked (fun r s2 got => ?_) fun _ _ x => x)
    obtain ⟨rfl, h2⟩ := got
    cases he : e i
    · have next := goes he s2 h2
      cases s2
      wp_walk
      refine ⟨plainId_quiet plain_contains_loop _, codeAny_builtin entry_contains_loop ?_⟩
      rw [Around.under_plainId plain_contains_loop _]
      exact next
    · have fine := found he s2 h2
      cases s2
      wp_walk
      exact fine
end
section
variable {prog : Program} {w : World} {A : Around} {E : Value → Shared → Prop} {s : Shared} {l b : Addr} {e : Nat → Bool} {I : Nat → Shared → Prop} {Q : Value → Shared → Prop}
/-- what the loop says, as the whole comparison's word -/
theorem cmp_whole (neg : Bool) {N : Nat} (T : Two prog w A.in1 E l b N e I) (h : I 0 s) (fin : ∀ j s', I j s' → Q (.bool (neg != allFrom e 0 N)) s') :
    wpAny (model prog w) A.in1 (Builtin.«list.__eq__.loop» ⟨[.ref l, .ref b, rawInt (0 : Nat), rawInt (bit neg)], []⟩) (GQ.FinOf prog w A (wants (fun v s' => v ≠ .notImplemented ∧ Q v s') E)) (fun v s' => wants (fun v s' => v ≠ .notImplemented ∧ Q v s') E (.error v) s') s :=
  cmp_go neg T N 0 (Nat.zero_add N) s h fun j s' z => ⟨Value.noConfusion, fin j s' z⟩
/-- the call up to the loop, both kinds -/
theorem cmp_call (neg : Bool) {xs ys : Array Value} {m n : Nat} (gx : s.heap.get? l = some (lstO xs m)) (gy : s.heap.get? b = some (lstO ys n)) (sz : xs.size = ys.size)
    (h : wpAny (model prog w) A.in1 (Builtin.«list.__eq__.loop» ⟨[.ref l, .ref b, rawInt (0 : Nat), rawInt (bit neg)], []⟩) (GQ.FinOf prog w A (wants (fun v s' => v ≠ .notImplemented ∧ Q v s') E)) (fun v s' => wants (fun v s' => v ≠ .notImplemented ∧ Q v s') E (.error v) s') s) (hu : A.units < cLine) :
    wpAny (model prog w) A (richCompare (if neg then .NotEq else .Eq) (.ref l) (.ref b)) Q E s := by
  have same : ¬ (xs.size != ys.size) = true := by rw [sz, bne_self_eq_false]; exact Bool.false_ne_true
  have sub := AutoSeq1.sub_list_list
  cases neg
  · refine wpAny_richCompare_same_room ⟨_, gx, rfl⟩ ⟨_, gy, rfl⟩ F.slot_list_eq (GQ.call_here F.slot_list_eq ⟨_, gx, rfl⟩ F.entry_list_eq (F.args_list_eq_2 _ _) ?_) hu
    cases s
    wp_walk using wpAny_loadPart' gx, wpAny_loadPart' gy
    refine ⟨plainId_quiet plain_eq_loop _, codeAny_builtin entry_eq_loop ?_⟩
    rw [Around.under_plainId plain_eq_loop _]
    exact h
  · refine wpAny_richCompare_same_room ⟨_, gx, rfl⟩ ⟨_, gy, rfl⟩ F.slot_list_ne (GQ.call_here F.slot_list_ne ⟨_, gx, rfl⟩ F.entry_list_ne (F.args_list_ne_2 _ _) ?_) hu
    cases s
    wp_walk using wpAny_loadPart' gx, wpAny_loadPart' gy
    refine ⟨plainId_quiet plain_eq_loop _, codeAny_builtin entry_eq_loop ?_⟩
    rw [Around.under_plainId plain_eq_loop _]
    exact h
/-- lists of unlike lengths -/
theorem cmp_unlike (neg : Bool) {xs ys : Array Value} {m n : Nat} (gx : s.heap.get? l = some (lstO xs m)) (gy : s.heap.get? b = some (lstO ys n)) (sz : xs.size ≠ ys.size) (q : Q (.bool neg) s) (hu : A.units < cLine) :
    wpAny (model prog w) A (richCompare (if neg then .NotEq else .Eq) (.ref l) (.ref b)) Q E s := by
  have differ : (xs.size != ys.size) = true := bne_iff_ne.mpr sz
  have sub := AutoSeq1.sub_list_list
  cases neg
  · refine wpAny_richCompare_same_room ⟨_, gx, rfl⟩ ⟨_, gy, rfl⟩ F.slot_list_eq (GQ.call_here F.slot_list_eq ⟨_, gx, rfl⟩ F.entry_list_eq (F.args_list_eq_2 _ _) ?_) hu
    cases s
    wp_walk using wpAny_loadPart' gx, wpAny_loadPart' gy
    exact ⟨Value.noConfusion, q⟩
  · refine wpAny_richCompare_same_room ⟨_, gx, rfl⟩ ⟨_, gy, rfl⟩ F.slot_list_ne (GQ.call_here F.slot_list_ne ⟨_, gx, rfl⟩ F.entry_list_ne (F.args_list_ne_2 _ _) ?_) hu
    cases s
    wp_walk using wpAny_loadPart' gx, wpAny_loadPart' gy
    exact ⟨Value.noConfusion, q⟩
theorem rc_any (neg : Bool) (hu : A.units < cLine) {N : Nat} (T : Two prog w A.in1 E l b N e I) (h : I 0 s) (fin : ∀ j s', I j s' → Q (.bool (neg != allFrom e 0 N)) s') : wpAny (model prog w) A (richCompare (if neg then .NotEq else .Eq) (.ref l) (.ref b)) Q E s := by
  obtain ⟨xs, ys, m, n, gx, gy, zx, zy, -⟩ := T 0 s h
  exact cmp_call neg gx gy (zx.trans zy.symm) (cmp_whole neg T h fin) hu
theorem rc_list (hu : A.units < cLine) {N : Nat} (T : Two prog w A.in1 E l b N e I) (h : I 0 s) (fin : ∀ j s', I j s' → Q (.bool (allFrom e 0 N)) s') : wpAny (model prog w) A (richCompare .Eq (.ref l) (.ref b)) Q E s :=
  rc_any false hu T h fun j s' z => by rw [Bool.false_bne]; exact fin j s' z
theorem rcn_list (hu : A.units < cLine) {N : Nat} (T : Two prog w A.in1 E l b N e I) (h : I 0 s) (fin : ∀ j s', I j s' → Q (.bool (!allFrom e 0 N)) s') : wpAny (model prog w) A (richCompare .NotEq (.ref l) (.ref b)) Q E s :=
  rc_any true hu T h fun j s' z => by rw [Bool.true_bne]; exact fin j s' z
theorem rc_listL (hu : A.units < cLine) {xs ys : Array Value} {m n : Nat} (gx : s.heap.get? l = some (lstO xs m)) (gy : s.heap.get? b = some (lstO ys n)) (sz : xs.size ≠ ys.size) (q : Q (.bool false) s) : wpAny (model prog w) A (richCompare .Eq (.ref l) (.ref b)) Q E s := cmp_unlike false gx gy sz q hu
theorem rcn_listL (hu : A.units < cLine) {xs ys : Array Value} {m n : Nat} (gx : s.heap.get? l = some (lstO xs m)) (gy : s.heap.get? b = some (lstO ys n)) (sz : xs.size ≠ ys.size) (q : Q (.bool true) s) : wpAny (model prog w) A (richCompare .NotEq (.ref l) (.ref b)) Q E s := cmp_unlike true gx gy sz q hu
/-- x in l -/
theorem contains_list {x : Value} {N : Nat} {Qb : Bool → Shared → Prop} (T : One prog w A.in1 E l x N e I) (h : I 0 s) (fin : ∀ j s', I j s' → Qb (anyFrom e 0 N) s') : wpAny (model prog w) A (contains (.ref l) x) Qb E s := by
  obtain ⟨xs, m, gx, zx, -⟩ := T 0 s h
  have tell : wpAny (model prog w) A.in1 (Builtin.«list.__contains__.loop» ⟨[.ref l, x, rawInt (0 : Nat)], []⟩) (GQ.FinOf prog w A (wants (fun v s' => ∃ r, v = .bool r ∧ Qb r s') E)) (fun v s' => wants (fun v s' => ∃ r, v = .bool r ∧ Qb r s') E (.error v) s') s :=
    in_go T N 0 (Nat.zero_add N) s h fun j s' z => ⟨_, rfl, fin j s' z⟩
  have asked : wpAny (model prog w) A (call (.builtin "list.__contains__") [.ref l, x]) (fun v s' => ∃ r, v = .bool r ∧ Qb r s') E s := by
    refine GQ.call_here F.slot_list_contains ⟨_, gx, rfl⟩ F.entry_list_contains (F.args_list_contains_2 _ _) ?_
    cases s
    wp_walk using wpAny_loadPart' gx
    refine ⟨plainId_quiet plain_contains_loop _, codeAny_builtin entry_contains_loop ?_⟩
    rw [Around.under_plainId plain_contains_loop _]
    exact tell
  refine wpAny_contains_slot ⟨_, gx, rfl⟩ F.slot_list_contains (wpAny_mono asked (fun v s' got => ?_) fun _ _ x => x)
  obtain ⟨r, rfl, q⟩ := got
  exact wpAny_truthy_bool q
end
end W1Q
set_option maxRecDepth 100000
set_option maxHeartbeats 2000000
namespace W1
open PySem PySem.Spec PyProof.Rows L2

/-! ### == inside built-ins -/
structure Below (X : Cx) (n : Nat) (A : Around) : Prop where
  room : Room n A
  fr : A.frames = X.A.frames
theorem Below.in1 {X : Cx} {n : Nat} {A : Around} (s : Below X (n + 1) A) : Below X n A.in1 := ⟨s.room.in1, s.fr⟩
theorem Below.mono {X : Cx} {n m : Nat} {A : Around} (s : Below X n A) (h : m ≤ n) : Below X m A := ⟨s.room.mono h, s.fr⟩
theorem Below.env {X : Cx} {n : Nat} {A : Around} {pins : List (Addr × Obj)} {σ : L2.St} {H : Hp} {s : Shared} (b : Below X n A) (I : Inv X pins σ H s) : Env0 X.prog X.w X.K X.mg X.base A X.stack s H := by
  have e := I.env0
  exact ⟨by rw [b.fr]; exact e.frames, e.mod, e.bs, e.bsz, e.funs, e.frf, e.hok, e.bare⟩
def EqB (X : Cx) (n : Nat) (A B : Rl) (b : Bool) : Prop :=
  ∀ (A' : Around) (pins : List (Addr × Obj)) (s : Shared) (σ : L2.St) (G H : Hp) (x y : V) (u v : Value) (E : Value → Shared → Prop), Below X n A' → Inv X pins σ H s → RelV x u → RelV y v → Same G H → A.r x G → B.r y G →
    wpAny (model X.prog X.w) A' (eqBool u v) (fun r s' => r = b ∧ ∃ G' H', Inv X pins σ H' s' ∧ Step G H G' H') E s
section
variable {X : Cx} {n k : Nat} {A B R : Rl} {b : Bool} {C g : Addr} {fd : FuncData} {ps : List Str} {pre : Pre} {fs gs : List (Str × Rl)}
theorem eqb_val {x y : V} (hx : flatV x = true) (hy : flatV y = true) : EqB X 0 (rEqV x) (rEqV y) (eqV x y) := by
  intro A' pins s σ G H x' y' u v E bl I rx ry sg ax ay
  cases (show x' = x from ax)
  cases (show y' = y from ay)
  exact eqAt_V (A := A') (s := s) rx ry hx hy X.prog X.w E _ ⟨rfl, G, H, I, Step.refl sg⟩
theorem EqB.mono {m : Nat} (h : EqB X n A B b) (hn : n ≤ m) : EqB X m A B b := fun A' pins s σ G H x y u v E bl => h A' pins s σ G H x y u v E (bl.mono hn)
theorem eqb_own (hp : pre [rIns C fs, rIns C gs] [] (.ok (rBool b)) []) (hid : ∀ a G, (rIns C fs).r (.ref a) G → (rIns C gs).r (.ref a) G → b = true) (hn : PySem.W.notFirst X.K C (.ref C) = true) (Fn : FnOk X.prog X.w X.K X.mg X.base (L2.CX X.prog X.w) k g fd ps (spM pre))
    (m : OwnM X.K C "__eq__" g) (hb : Binds X.K fd ps []) : EqB X k (rIns C fs) (rIns C gs) b := by
  intro A' pins s σ G H x y u v E bl I rx ry sg ax ay
  obtain ⟨a, dx, vs, rfl, h1, h2⟩ := id ax
  obtain ⟨c, dy, ws, rfl, h3, h4⟩ := id ay
  cases (show u = Value.ref a from rx)
  cases (show v = Value.ref c from ry)
  by_cases hac : a = c
  · subst hac
    have e := hid a G ax ay
    subst e
    unfold eqBool
    refine wpAny_holding ?_
    refine wpAny_ite_split (fun _ => wpAny_bind (wpAny_rule (wpAny_pure ?_))) (fun h => absurd (beq_self_eq_true _) h)
    exact ⟨rfl, G, H, I, Step.refl sg⟩
  · refine GQ.eqBool_refG hac ?_
    have st0 : At ⟨X, G, H, [], fun _ _ _ _ => False, takes0⟩ [] G H := ⟨Same.refl _, fun _ _ _ e => e, sg, fun _ _ e => e, fun _ h => by simp at h, fun _ h => by simp at h, by simp⟩
    refine wpAny_mono (rc_own (A := A') (Q := fun v H' => v = .bl b ∧ ∃ G', Step G H G' H') (y := .ref c) (t := .ref C) m Fn bl.room (bl.env I) hb I (sg _ _ h1) ry (.ins (sg _ _ h3)) hn ?_ E) (fun w s' z => ?_) fun _ _ x => x
    · exact sp_ok0 (Rs := [rIns C fs, rIns C gs]) st0 (mk2 ax ay) hp fun v G2 H2 s2 a2 r2 => ⟨r2, G2, ⟨s2, fun a o e => a2.hh a o (by simp) e, a2.gh, a2.fr⟩⟩
    · obtain ⟨z', H', I', rz, ez, G', st⟩ := z
      subst ez
      exact ⟨b, rz, rfl, G', H', I', st⟩
theorem getOf {Rs : List Rl} {vs : List V} {its : List Value} {H : Hp} (h : All2 Rs vs H) (r : Vals vs its) {i : Nat} (h1 : i < its.toArray.size) : ∃ R v, Rs[i]? = some R ∧ R.r v H ∧ RelV v its.toArray[i] := by
  have hi : i < its.length := by simpa using h1
  have hv : i < vs.length := by rw [r.length]; exact hi
  have hr : i < Rs.length := by rw [h.len]; exact hv
  obtain ⟨v, e1, e2⟩ := h.get (List.getElem?_eq_getElem hr)
  obtain ⟨u, e3, e4⟩ := r.get e1
  rw [List.getElem?_eq_getElem hi] at e3
  cases e3
  exact ⟨_, v, List.getElem?_eq_getElem hr, e2, by simpa using e4⟩
/-- lists: what stays through the turns -/
def LoopW (X : Cx) (pins : List (Addr × Obj)) (σ : L2.St) (G H : Hp) (s' : Shared) : Prop := ∃ G' H', Inv X pins σ H' s' ∧ Step G H G' H'
theorem lst_obj {pins : List (Addr × Obj)} {σ : L2.St} {H : Hp} {s : Shared} {p : Addr} {vs : List V} (I : Inv X pins σ H s) (h : H p = some (.lst vs)) : ∃ its nn, Vals vs its ∧ s.heap.get? p = some (W1Q.lstO its.toArray nn) := by
  obtain ⟨z, its, nn, r, e⟩ := (show ObjOk X.prog X.w H s.heap p (.lst vs) from I.hok p _ h)
  exact ⟨its, nn, r, e⟩
theorem two_of {Rs Ss : List Rl} {e : Nat → Bool} {A' : Around} {E : Value → Shared → Prop} {pins : List (Addr × Obj)} {σ : L2.St} {G H : Hp} {p q : Addr} {vs ws : List V}
    (he : ∀ (i : Nat) R S, Rs[i]? = some R → Ss[i]? = some S → EqB X n R S (e i)) (bl : Below X n A') (hp : H p = some (.lst vs)) (hq : H q = some (.lst ws)) (h1 : All2 Rs vs G) (h2 : All2 Ss ws G) (hsz : Rs.length = Ss.length) :
    W1Q.Two X.prog X.w A' E p q Rs.length e (fun _ s' => LoopW X pins σ G H s') := fun i s' ⟨G1, H1, I1, st1⟩ => by
  obtain ⟨its, nn, r1, o1⟩ := lst_obj I1 (st1.hh _ _ hp)
  obtain ⟨its2, nn2, r2, o2⟩ := lst_obj I1 (st1.hh _ _ hq)
  have l1 := h1.len
  have l2 := h2.len
  have l3 := r1.length
  have l4 := r2.length
  refine ⟨_, _, _, _, o1, o2, by simp only [List.size_toArray]; omega, by simp only [List.size_toArray]; omega, fun hi1 hi2 => ?_⟩
  obtain ⟨R, v, hR, rv, ru⟩ := getOf (h1.up st1.gg) r1 hi1
  obtain ⟨S, w, hS, rw', rx⟩ := getOf (h2.up st1.gg) r2 hi2
  refine wpAny_mono (he i R S hR hS A' pins s' σ G1 H1 v w _ _ E bl I1 ru rx st1.gh rv rw') (fun r s2 z => ?_) fun _ _ x => x
  obtain ⟨hr, G2, H2, I2, st2⟩ := z
  exact ⟨hr, G2, H2, I2, st1.trans st2⟩
theorem one_of {Rs : List Rl} {e : Nat → Bool} {A' : Around} {E : Value → Shared → Prop} {pins : List (Addr × Obj)} {σ : L2.St} {G H : Hp} {p : Addr} {vs : List V} {y : V} {u : Value}
    (he : ∀ (i : Nat) R, Rs[i]? = some R → EqB X n R A (e i)) (bl : Below X n A') (hp : H p = some (.lst vs)) (h1 : All2 Rs vs G) (ry : RelV y u) (ay : A.r y G) :
    W1Q.One X.prog X.w A' E p u Rs.length e (fun _ s' => LoopW X pins σ G H s') := fun i s' ⟨G1, H1, I1, st1⟩ => by
  obtain ⟨its, nn, r1, o1⟩ := lst_obj I1 (st1.hh _ _ hp)
  have l1 := h1.len
  have l3 := r1.length
  refine ⟨_, _, o1, by simp only [List.size_toArray]; omega, fun hi1 => ?_⟩
  obtain ⟨R, v, hR, rv, ru⟩ := getOf (h1.up st1.gg) r1 hi1
  refine wpAny_mono (he i R hR A' pins s' σ G1 H1 v y _ _ E bl I1 ru ry st1.gh rv (A.mo _ _ _ st1.gg ay)) (fun r s2 z => ?_) fun _ _ x => x
  obtain ⟨hr, G2, H2, I2, st2⟩ := z
  exact ⟨hr, G2, H2, I2, st1.trans st2⟩
/-- == of two lists -/
theorem rcl {Rs Ss : List Rl} {e : Nat → Bool} {A' : Around} {E : Value → Shared → Prop} {pins : List (Addr × Obj)} {s : Shared} {σ : L2.St} {G H : Hp} {p q : Addr} {vs ws : List V} {Q : Value → Shared → Prop}
    (he : ∀ (i : Nat) R S, Rs[i]? = some R → Ss[i]? = some S → EqB X n R S (e i)) (bl : Below X (n + 1) A') (I : Inv X pins σ H s) (sg : Same G H) (hp : G p = some (.lst vs)) (hq : G q = some (.lst ws)) (h1 : All2 Rs vs G) (h2 : All2 Ss ws G)
    (hQ : ∀ s', LoopW X pins σ G H s' → Q (.bool (decide (Rs.length = Ss.length) && W1Q.allFrom e 0 Rs.length)) s') : wpAny (model X.prog X.w) A' (richCompare .Eq (.ref p) (.ref q)) Q E s := by
  have st0 : LoopW X pins σ G H s := ⟨G, H, I, Step.refl sg⟩
  by_cases hsz : Rs.length = Ss.length
  · rw [decide_eq_true hsz, Bool.true_and] at hQ
    exact W1Q.rc_list bl.room.units0 (two_of (pins := pins) (σ := σ) he bl.in1 (sg _ _ hp) (sg _ _ hq) h1 h2 hsz) st0 fun j s' z => hQ s' z
  · rw [decide_eq_false hsz, Bool.false_and] at hQ
    obtain ⟨its, nn, r1, o1⟩ := lst_obj I (sg _ _ hp)
    obtain ⟨its2, nn2, r2, o2⟩ := lst_obj I (sg _ _ hq)
    have l1 := h1.len
    have l2 := h2.len
    have l3 := r1.length
    have l4 := r2.length
    exact W1Q.rc_listL bl.room.units0 o1 o2 (by simp only [List.size_toArray]; omega) (hQ s st0)
theorem rcnl {Rs Ss : List Rl} {e : Nat → Bool} {A' : Around} {E : Value → Shared → Prop} {pins : List (Addr × Obj)} {s : Shared} {σ : L2.St} {G H : Hp} {p q : Addr} {vs ws : List V} {Q : Value → Shared → Prop}
    (he : ∀ (i : Nat) R S, Rs[i]? = some R → Ss[i]? = some S → EqB X n R S (e i)) (bl : Below X (n + 1) A') (I : Inv X pins σ H s) (sg : Same G H) (hp : G p = some (.lst vs)) (hq : G q = some (.lst ws)) (h1 : All2 Rs vs G) (h2 : All2 Ss ws G)
    (hQ : ∀ s', LoopW X pins σ G H s' → Q (.bool (!(decide (Rs.length = Ss.length) && W1Q.allFrom e 0 Rs.length))) s') : wpAny (model X.prog X.w) A' (richCompare .NotEq (.ref p) (.ref q)) Q E s := by
  have st0 : LoopW X pins σ G H s := ⟨G, H, I, Step.refl sg⟩
  by_cases hsz : Rs.length = Ss.length
  · rw [decide_eq_true hsz, Bool.true_and] at hQ
    exact W1Q.rcn_list bl.room.units0 (two_of (pins := pins) (σ := σ) he bl.in1 (sg _ _ hp) (sg _ _ hq) h1 h2 hsz) st0 fun j s' z => hQ s' z
  · rw [decide_eq_false hsz, Bool.false_and] at hQ
    obtain ⟨its, nn, r1, o1⟩ := lst_obj I (sg _ _ hp)
    obtain ⟨its2, nn2, r2, o2⟩ := lst_obj I (sg _ _ hq)
    have l1 := h1.len
    have l2 := h2.len
    have l3 := r1.length
    have l4 := r2.length
    exact W1Q.rcn_listL bl.room.units0 o1 o2 (by simp only [List.size_toArray]; omega) (hQ s st0)
theorem eqb_lst {Rs Ss : List Rl} {e : Nat → Bool} (he : ∀ (i : Nat) R S, Rs[i]? = some R → Ss[i]? = some S → EqB X n R S (e i)) (hid : ∀ a G, (rLst Rs).r (.ref a) G → (rLst Ss).r (.ref a) G → (decide (Rs.length = Ss.length) && W1Q.allFrom e 0 Rs.length) = true) :
    EqB X (n + 1) (rLst Rs) (rLst Ss) (decide (Rs.length = Ss.length) && W1Q.allFrom e 0 Rs.length) := by
  intro A' pins s σ G H x y u v E bl I rx ry sg ax ay
  obtain ⟨p, vs, rfl, h1, h2⟩ := id ax
  obtain ⟨q, ws, rfl, h3, h4⟩ := id ay
  cases (show u = Value.ref p from rx)
  cases (show v = Value.ref q from ry)
  by_cases hac : p = q
  · subst hac
    rw [hid p G ax ay]
    unfold eqBool
    refine wpAny_holding ?_
    refine wpAny_ite_split (fun _ => wpAny_bind (wpAny_rule (wpAny_pure ?_))) (fun h => absurd (beq_self_eq_true _) h)
    exact ⟨rfl, G, H, I, Step.refl sg⟩
  · refine GQ.eqBool_refG hac ?_
    exact rcl he bl I sg h1 h3 h2 h4 fun s' ⟨G', H', I', st⟩ => ⟨_, rfl, rfl, G', H', I', st⟩
end
/-! ### as operators -/
section
variable {F : Fx} {ω w : Ow} {A B R : Rl} {n : Nat}
/-- a rule by what it does -/
theorem bop_sem {f : Value → Value → Sem Value} (h : ∀ pins s σ G H x y u v Q, Inv F.X pins σ H s → RelV x u → RelV y v → Same G H → A.r x G → B.r y G → (∀ z G' H', Step G H G' H' → R.r z G' → Q z H') → wpAny (model F.X.prog F.X.w) F.X.A (f u v) (EP F.X pins σ Q) F.X.xe s) : Bop F w f A B R :=
  ⟨fun x y H Q => ∃ G, Same G H ∧ A.r x G ∧ B.r y G ∧ ∀ z G' H', Step G H G' H' → R.r z G' → Q z H', fun pins s σ H x y v u Q I rx ry ⟨G, sg, ax, ay, q⟩ => h pins s σ G H x y v u Q I rx ry sg ax ay q,
    fun x y G H at_ ax ay Q q => ⟨G, at_.gh, ax, ay, fun z G' H' st rz => q z G' H' st.gg (at_.step st) rz⟩⟩
theorem bop_eqL {Rs Ss : List Rl} {e : Nat → Bool} (he : ∀ (i : Nat) R S, Rs[i]? = some R → Ss[i]? = some S → EqB F.X n R S (e i)) (hr : Room (n + 1) F.X.A) : Bop F w (compareOp .Eq) (rLst Rs) (rLst Ss) (rBool (decide (Rs.length = Ss.length) && W1Q.allFrom e 0 Rs.length)) :=
  bop_sem fun pins s σ G H x y u v Q I rx ry sg ax ay q => by
    obtain ⟨p, vs, rfl, h1, h2⟩ := id ax
    obtain ⟨p2, ws, rfl, h3, h4⟩ := id ay
    cases (show u = Value.ref p from rx)
    cases (show v = Value.ref p2 from ry)
    show wpAny _ _ (richCompare .Eq (.ref p) (.ref p2)) _ _ _
    exact rcl he ⟨hr, rfl⟩ I sg h1 h3 h2 h4 fun s' ⟨G', H', I', st⟩ => ⟨V.bl _, H', I', rfl, q _ G' H' st rfl⟩
theorem bop_neL {Rs Ss : List Rl} {e : Nat → Bool} (he : ∀ (i : Nat) R S, Rs[i]? = some R → Ss[i]? = some S → EqB F.X n R S (e i)) (hr : Room (n + 1) F.X.A) : Bop F w (compareOp .NotEq) (rLst Rs) (rLst Ss) (rBool (!(decide (Rs.length = Ss.length) && W1Q.allFrom e 0 Rs.length))) :=
  bop_sem fun pins s σ G H x y u v Q I rx ry sg ax ay q => by
    obtain ⟨p, vs, rfl, h1, h2⟩ := id ax
    obtain ⟨p2, ws, rfl, h3, h4⟩ := id ay
    cases (show u = Value.ref p from rx)
    cases (show v = Value.ref p2 from ry)
    show wpAny _ _ (richCompare .NotEq (.ref p) (.ref p2)) _ _ _
    exact rcnl he ⟨hr, rfl⟩ I sg h1 h3 h2 h4 fun s' ⟨G', H', I', st⟩ => ⟨V.bl _, H', I', rfl, q _ G' H' st rfl⟩
theorem bop_inL {Rs : List Rl} {e : Nat → Bool} (he : ∀ (i : Nat) R, Rs[i]? = some R → EqB F.X n R A (e i)) (hr : Room (n + 1) F.X.A) : Bop F w (compareOp .In) A (rLst Rs) (rBool (W1Q.anyFrom e 0 Rs.length)) :=
  bop_sem fun pins s σ G H x y u v Q I rx ry sg ax ay q => by
    obtain ⟨p, vs, rfl, h1, h2⟩ := id ay
    cases (show v = Value.ref p from ry)
    show wpAny _ _ (do return Value.bool (← contains (.ref p) u)) _ _ _
    exact wpAny_bind (W1Q.contains_list (one_of (pins := pins) (σ := σ) he ⟨hr.in1, rfl⟩ (sg _ _ h1) h2 rx ax) ⟨G, H, I, Step.refl sg⟩ fun j s' ⟨G', H', I', st⟩ => wpAny_pure ⟨V.bl _, H', I', rfl, q _ G' H' st rfl⟩)
theorem bop_niL {Rs : List Rl} {e : Nat → Bool} (he : ∀ (i : Nat) R, Rs[i]? = some R → EqB F.X n R A (e i)) (hr : Room (n + 1) F.X.A) : Bop F w (compareOp .NotIn) A (rLst Rs) (rBool (!W1Q.anyFrom e 0 Rs.length)) :=
  bop_sem fun pins s σ G H x y u v Q I rx ry sg ax ay q => by
    obtain ⟨p, vs, rfl, h1, h2⟩ := id ay
    cases (show v = Value.ref p from ry)
    show wpAny _ _ (do return Value.bool (!(← contains (.ref p) u))) _ _ _
    exact wpAny_bind (W1Q.contains_list (one_of (pins := pins) (σ := σ) he ⟨hr.in1, rfl⟩ (sg _ _ h1) h2 rx ax) ⟨G, H, I, Step.refl sg⟩ fun j s' ⟨G', H', I', st⟩ => wpAny_pure ⟨V.bl _, H', I', rfl, q _ G' H' st rfl⟩)
end
end W1
set_option maxRecDepth 100000
set_option maxHeartbeats 2000000
namespace W1
open PySem PySem.Spec PyProof.Rows L2

/-! ### new things that are owned -/
def EN (F : Fx) (ρ : Ty) (ω : Ow) (e : Expr) (O : Ol) (ω' : Ow) : Prop :=
  ∀ σ G H, At F ω G H → Slots ρ σ G → ∀ Q : VK, (∀ q G2 H2, q ∉ F.M → Same G G2 → At F ((q, O) :: ω') G2 H2 → Q (.ref q) H2) → EW F.X e σ H Q
abbrev PreN := List Rl → Ow → Ol → Ow → Prop
/-- a promise of a new thing -/
def spN (pre : PreN) : Sp := fun vs H Q E => ∃ Rs ω O ω' G, pre Rs ω O ω' ∧ Same G H ∧ All2 Rs vs G ∧ Has ω G H ∧ (keys ω).Nodup ∧ keys ω' = keys ω ∧
  ∀ q G' H', H q = none → StepM (keys ω) G H G' H' → Has ((q, O) :: ω') G' H' → Q (.ref q) H'
def KfN (O : Ol) (ω' : Ow) : Kn where
  rt := fun S w => ∃ q w0, (∀ v G, S.r v G → v = .ref q) ∧ q ∉ keys ω' ∧ w = (q, O) :: (ω' ++ w0)
theorem Has.up {ω : Ow} {G H : Hp} {a : Addr} {O : Ol} (h : Has ((a, O) :: ω) G H) : Has ω G H := fun p hp => h p (List.mem_cons_of_mem _ hp)
theorem Has.some {ω : Ow} {G H : Hp} (h : Has ω G H) {b : Addr} (hb : b ∈ keys ω) : H b ≠ none := by
  obtain ⟨p, hp, e⟩ := List.mem_map.mp hb
  obtain ⟨_, o, z, _⟩ := h p hp
  rw [← e, z]
  simp
theorem At.newcall {F : Fx} {wc wc' w : Ow} {O : Ol} {q : Addr} {G H G' H' : Hp} (a : At F (wc ++ w) G H) (s : StepM (keys wc) G H G' H') (hq : H q = none) (h : Has ((q, O) :: wc') G' H') (hk : keys wc' = keys wc) : q ∉ F.M ∧ At F ((q, O) :: (wc' ++ w)) G' H' := by
  have a' := a.stepM s h.up hk
  have hM : q ∉ F.M := fun hm => a.mm q hm hq
  have h0 : F.H0 q = none := by
    cases e : F.H0 q with
    | none => rfl
    | some u => rw [a.hh q u hM e] at hq; cases hq
  refine ⟨hM, a'.gg, a'.hh, a'.gh, a'.fr, a'.mm, fun p hp => ?_, List.nodup_cons.mpr ⟨fun hm => ?_, a'.nd⟩⟩
  · rcases List.mem_cons.mp hp with rfl | hp
    · obtain ⟨x, z⟩ := h _ List.mem_cons_self
      exact ⟨x, .inl h0, z⟩
    · exact a'.ow p hp
  · have hm' : q ∈ keys (wc ++ w) := by
      have e : keys (wc' ++ w) = keys (wc ++ w) := by unfold keys at hk ⊢; rw [List.map_append, List.map_append, hk]
      rw [← e]
      exact hm
    exact a.has.some hm' hq
theorem fn_okN {P : Program} {w : World} {K : PySem.W.Frag} {mg : Str → Option Value} {base : Heap} {x qual : Str} {st : Stmt} {f : Addr} {fd : FuncData} {N ps : List Str} {k : Nat} {pre : PreN} (Fn : Fun K x qual st f fd) (S : FnScope N ps (defScope st))
    (hl : ∀ Rs ω o ω', pre Rs ω o ω' → Rs.length = ps.length)
    (hb : ∀ (cdv : Value) (A : Around) (outer : List Env) (s : Shared) (H : Hp) (E : XK) (F : Fx), Room k (A.deeper (envOfC qual (defScope st) s.heap.objs.size f cdv)) → F.X = cxOf (L2.CX P w) P w K mg base N qual (defScope st) f cdv A outer s H E →
      ∀ Rs ω o ω', pre Rs ω o ω' → HB F (Rs.map some ++ List.replicate (N.length - Rs.length) none) ω (defBody st) (KfN o ω')) : FnOk P w K mg base (L2.CX P w) (k + 1) f fd ps (spN pre) := by
  refine Fn.okX S (fun vs H Q E h => ?_) (fun cdv A outer s H vs Q E hr h => ?_)
  · obtain ⟨Rs, ω, o, ω', G, hp, _, h2, _⟩ := h
    rw [← h2.len]
    exact hl _ _ _ _ hp
  · obtain ⟨Rs, ω, o, ω', G, hp, hgh, hv, hhas, hnd, hk, hq⟩ := h
    have tk : Takes (cxOf (L2.CX P w) P w K mg base N qual (defScope st) f cdv A outer s H E) (fun cls d _ H => E cls d H) := takes_of rfl rfl rfl rfl
    refine ⟨_, pss_w, hb cdv A outer s H E ⟨cxOf (L2.CX P w) P w K mg base N qual (defScope st) f cdv A outer s H E, G, H, keys ω, fun cls d _ H => E cls d H, tk⟩ hr rfl Rs ω o ω' hp (L2.start N vs) G H _ ?_ ?_ ?_⟩
    · exact ⟨Same.refl _, fun a o _ e => e, hgh, fun a _ e => e, fun a ha => hhas.some ha, fun p hp => let ⟨x, z⟩ := hhas p hp; ⟨x, .inr (List.mem_map_of_mem hp), z⟩, hnd⟩
    · unfold L2.start
      have e := hv.len
      refine ⟨by simp [e], fun i R hi => ?_⟩
      by_cases h : i < Rs.length
      · rw [List.getElem?_append_left (by simpa using h), List.getElem?_map] at hi
        cases h1 : Rs[i]? with
        | none => rw [h1] at hi; cases hi
        | some R' =>
          rw [h1] at hi
          cases hi
          obtain ⟨v, h2, h3⟩ := hv.get h1
          exact ⟨v, by rw [List.getElem?_append_left (by rw [List.length_map, ← e]; exact h), List.getElem?_map, h2]; rfl, h3⟩
      · rw [List.getElem?_append_right (by simpa using h), List.getElem?_replicate] at hi
        split at hi <;> cases hi
    · refine ⟨fun _ _ hk => hk.elim, fun R w1 hr' v G' H' s a r => ?_, fun _ _ hk => hk.elim, fun _ _ hk => hk.elim, fun _ _ _ hk => hk.elim⟩
      obtain ⟨q, w0, h1, h2, rfl⟩ := hr'
      cases h1 v G' r
      have hM : q ∉ keys ω := by rw [← hk]; exact h2
      have a' : At _ (((q, o) :: ω') ++ w0) G' H' := a
      exact hq q G' H' (At.own0 a hM) ⟨a.gg, a.hh, a.gh, a.fr⟩ a'.has.left
theorem All2.set : ∀ {Rs : List Rl} {vs : List V} {H : Hp} {R : Rl} {v : V} (j : Nat), All2 Rs vs H → R.r v H → All2 (Rs.set j R) (vs.set j v) H
  | [], [], _, _, _, _, _, _ => trivial
  | _ :: _, _ :: _, _, _, _, 0, h, r => ⟨r, h.2⟩
  | _ :: _, _ :: _, _, _, _, j + 1, h, r => ⟨h.1, All2.set j h.2 r⟩
  | [], _ :: _, _, _, _, _, h, _ => h.elim
  | _ :: _, [], _, _, _, _, h, _ => h.elim
section
variable {F : Fx} {ρ ρ1 : Ty} {ω w w1 w2 w3 wc wc' : Ow} {e o ix : Expr} {es : List Expr} {R S : Rl} {Rs : List Rl} {O : Ol} {pos p apos : Pos} {x m : Str} {k : Nat} {f : Addr} {fd : FuncData} {ps : List Str} {pre : PreN} {K : Kn} {rest : List Stmt} {q : Addr}
theorem en_lst (h : AR F ρ ω es Rs w1) (hz : Rs.length ≤ 1000) : EN F ρ ω (.List es pos) (oL Rs) w1 := fun σ G H at_ sl Q q => by
  refine ew_of (pe_lst pa_w) (h σ G H at_ sl _ fun vs G2 H2 s a r => ⟨Nat.le_of_lt (small1000 (by rw [← r.len]; exact hz)), fun p hp => ?_⟩)
  exact q p G2 _ (fun hm => a.mm p hm hp) s (a.own hp ⟨vs, rfl, r⟩)
theorem en_call (ha : AR F ρ ω (e :: es) Rs (wc ++ w)) (hp : pre Rs wc O wc') (hk : keys wc' = keys wc) (Fn : FnOk F.X.prog F.X.w F.X.K F.X.mg F.X.base (L2.CX F.X.prog F.X.w) k f fd ps (spN pre)) (hr : Room k F.X.A) (hm : F.X.mg x = some (.ref f))
    (hkp : PySem.W.keepIn F.X.K (.ref f) = true) (hb : Binds F.X.K fd ps []) (hg : Gl F.X x := by rfl) (hdb : (x == ("__debug__" : Str)) = false := by decide) (he : starEach (e :: es) F.X.env = (false, eval e F.X.env) :: starEach es F.X.env := by rfl) (hpl : (backTo pos (starEach es F.X.env)).any (·.1) = false := by rfl) :
    EN F ρ ω (.Call (.Name x p) (e :: es) [] pos) O (wc' ++ w) := fun σ G H at_ sl Q q =>
  ew_of (pe_callS (E := WE F.W) Fn hr hg hm hkp hb passW pa_w hdb he hpl) (ha σ G H at_ sl _ fun vs G2 H2 s a r => ⟨Rs, wc, O, wc', G2, hp, a.gh, r, a.has.left, by have := a.nd; rw [List.map_append] at this; exact (List.nodup_append.mp this).1, hk, fun q' G' H' hq st hh => by
    obtain ⟨hM, a3⟩ := a.newcall st hq hh hk
    exact q q' G' H' hM (s.trans st.gg) a3⟩)
/-- x = a new thing -/
theorem hb_setN (i : Nat) (he : EN F ρ ω e O w1) (h : ∀ q, q ∉ F.M → HB F (ρ.set i (some (rRef q))) ((q, O) :: w1) rest K) (hN : F.X.N.Nodup) (hi : F.X.N[i]? = some x := by rfl) (hx : Loc F.X.env.scope x := by first | exact Or.inl rfl | exact Or.inr rfl)
    (hs : swapsWith e (some (.Name x p)) pos.line F.X.env = pure false := by rfl) (hf : F.X.fn x = true ∨ F.X.env.scope.names.lookup x = some .local := by first | exact .inl rfl | exact .inr rfl | assumption) :
    HB F ρ ω (.Assign [.Name x p] e pos :: rest) K := hb_cons fun σ G H D at_ sl ps =>
  sw_of (ps_set hN hi hx pe_w hs hf) (he σ G H at_ sl _ fun q G2 H2 hM s a => h q hM _ G2 H2 D a ((sl.up s).set i rfl) (ps.up s))
theorem hb_retO (he : EN F ρ ω e O w1) (h : ∀ q, q ∉ F.M → K.rt (rRef q) ((q, O) :: w1)) : HB F ρ ω (.Return (some e) pos :: rest) K := hb_cons fun σ G H D at_ sl ps =>
  sw_of (ps_ret pe_w) (he σ G H at_ sl _ fun q G2 H2 hM s a => ps.rt _ _ (h q hM) _ G2 H2 s a rfl)
/-- what is owned is owned no more -/
theorem hb_pub (i : Nat) (hi : ρ[i]? = some (some (rRef q))) (hM : q ∉ F.M) (hO : ∀ o G, G q = some o → O.c o G → R.r (.ref q) G) (h : HB F (ρ.set i (some R)) w rest K) : HB F ρ ((q, O) :: w) rest K := fun σ G H D at_ sl ps => by
  obtain ⟨hg0, _, o, h1, h2⟩ := at_.ow _ List.mem_cons_self
  have a := at_.pub h1 (At.own0 at_ hM)
  have sg : Same G (upd G q o) := fun b u e => by rw [upd_ne (ne_of_none e hg0)]; exact e
  obtain ⟨v, hv, rv⟩ := sl.at_ i _ hi
  cases (show v = V.ref q from rv)
  have sl2 := (sl.up sg).set i (R := R) (v := .ref q) (hO o _ upd_same (O.mo _ _ _ sg h2))
  have e : σ.set i (some (V.ref q)) = σ := by
    refine List.ext_getElem? fun j => ?_
    by_cases hj : i = j
    · subst hj
      rw [hv]
      exact List.getElem?_set_self (by
        cases Nat.lt_or_ge i σ.length with
        | inl z => exact z
        | inr z => rw [List.getElem?_eq_none z] at hv; cases hv)
    · rw [List.getElem?_set_ne hj]
  rw [e] at sl2
  exact h σ _ H D a sl2 (ps.up sg)
theorem pub_lst : ∀ o G, G q = some o → (oL Rs).c o G → (rLst Rs).r (.ref q) G := fun o G h ⟨vs, e, h2⟩ => ⟨q, vs, rfl, by rw [h, e], h2⟩
/-- l[i] of an owned list -/
theorem er_ixO {i : Int} {n : Nat} (ha : ER F ρ ω o (rRef q) w1) (hb : ER F ρ w1 ix (rInt i) w2) (hm : (q, oL Rs) ∈ w2) (hn : ixN Rs.length i = some n) (hR : Rs[n]? = some R) (hs : PlainIx ix := by exact fun _ _ => rfl) : ER F ρ ω (.Subscript o ix pos) R w2 := fun σ G H at_ sl Q k => by
  refine ew_of (pe_ix ix_list pe_w pe_w hs) (ha σ G H at_ sl _ fun x G1 H1 s1 at1 rx => hb σ G1 H1 at1 (sl.up s1) _ fun y G2 H2 s2 at2 ry => ?_)
  obtain ⟨_, _, ob, h1, vs, e1, h2⟩ := at2.ow _ hm
  subst e1
  obtain ⟨v, h3, h4⟩ := h2.get hR
  refine ⟨q, vs, i, v, rx, ry, SqL.of h1, ?_, k v G2 H2 (s1.trans s2) at2 h4⟩
  unfold atI
  rw [← h2.len, hn]
  exact h3
/-- l[i] = e -/
theorem hb_sub {i : Int} {n : Nat} {p2 : Pos} (he : ER F ρ ω e R w1) (ho : ER F ρ w1 o (rRef q) w2) (hi : ER F ρ w2 ix (rInt i) ((q, oL Rs) :: w3)) (hn : ixN Rs.length i = some n) (h : HB F ρ ((q, oL (Rs.set n R)) :: w3) rest K)
    (ha : ∀ v, assign (.Subscript o ix p2) F.X.env v = (do
      let ov ← holding [v] (eval o F.X.env)
      let iv ← holding [v, ov] (eval ix F.X.env)
      standAt p2
      holding [v, ov, iv] (setItem ov iv v)
      release [v, ov, iv] []) := by intro _; rfl)
    (hs : swapsWithSole [.Subscript o ix p2] e pos.line F.X.env = pure false := by rfl) (hw : swappedStores [.Subscript o ix p2] e F.X.env = pure none := by rfl) (h1 : (assignEach [.Subscript o ix p2] F.X.env).map (·.2) = [assign (.Subscript o ix p2) F.X.env] := by rfl) :
    HB F ρ ω (.Assign [.Subscript o ix p2] e pos :: rest) K := hb_cons fun σ G H D at_ sl ps => by
  refine sw_of (ps_asg pe_w (pg_sub pe_w pe_w set_list ha) hs hw h1) (he σ G H at_ sl _ fun v G1 H1 s1 a1 r1 => ho σ G1 H1 a1 (sl.up s1) _ fun x G2 H2 s2 a2 r2 => hi σ G2 H2 a2 ((sl.up s1).up s2) _ fun y G3 H3 s3 a3 r3 => ?_)
  obtain ⟨_, _, ob, h1', vs, e1, h2⟩ := a3.ow _ List.mem_cons_self
  subst e1
  refine ⟨q, vs, i, n, r2, r3, h1', by rw [← h2.len]; exact hn, ?_⟩
  have s13 := (s1.trans s2).trans s3
  exact h σ G3 _ D (a3.chg ⟨_, rfl, h2.set n (R.mo _ _ _ (s2.trans s3) r1)⟩) (sl.up s13) (ps.up s13)
/-- l.append(e) -/
theorem hb_append (ho : ER F ρ ω o (rRef q) w1) (hm : (q, oL Rs) ∈ w1) (ha : AR F ρ w1 [e] [R] ((q, oL Rs) :: w2)) (hz : Rs.length ≤ 100000) (h : HB F ρ ((q, oL (Rs ++ [R])) :: w2) rest K)
    (hsw : swapsWith (.Call (.Attribute o "append" apos) [e] [] p) none pos.line F.X.env = pure false := by rfl)
    (hbase : attributeBase o "append" F.X.env (eval o F.X.env) = eval o F.X.env := by rfl)
    (hfew : ((backTo p (starEach [e] F.X.env)).all (fun x => !x.1) && (backToKw p (keywordEach [] F.X.env)).all (fun x => x.1.isSome)
      && decide ([e].length + ([] : List Keyword).length + (if ([] : List Keyword).isEmpty then 0 else 1) < 30)) = true := by rfl)
    (hline : (apos.endLine == p.line) = true := by rfl) (hs : starEach [e] F.X.env = (false, eval e F.X.env) :: starEach [] F.X.env := by rfl) (hplain : (backTo p (starEach [] F.X.env)).any (·.1) = false := by rfl) :
    HB F ρ ω (.Expr (.Call (.Attribute o "append" apos) [e] [] p) pos :: rest) K := hb_cons fun σ G H D at_ sl ps => by
  refine sw_of (ps_expr (pe_bm (T := "list") PySem.F.plainAttrs_list PySem.F.slot_list_append PySem.F.type_list_append mt_append pe_w pa_w hbase hfew hline hs hplain) hsw) (ho σ G H at_ sl _ fun x G1 H1 s1 a1 r1 => ?_)
  cases (show x = V.ref q from r1)
  obtain ⟨_, _, ob, h1', vs, e1, h2⟩ := a1.ow _ hm
  subst e1
  refine ⟨.inl ⟨rfl, vs, SqL.of h1'⟩, ha σ G1 H1 a1 (sl.up s1) _ fun us G2 H2 s2 a2 r2 => ?_⟩
  obtain ⟨v, rfl, rv⟩ := all1 r2
  obtain ⟨_, _, ob, h3, ws, e3, h4⟩ := a2.ow _ List.mem_cons_self
  subst e3
  refine ⟨q, ws, v, rfl, rfl, h3, Nat.lt_of_le_of_lt (by rw [← h4.len]; exact hz) (by decide), ?_⟩
  have s12 := s1.trans s2
  exact h σ G2 _ D (a2.chg ⟨_, rfl, h4.app (mk1 rv)⟩) (sl.up s12) (ps.up s12)
/-! the script -/
def rScr (K : PySem.W.Frag) (xs : List V) : Rl := ⟨fun v H => ∃ a, v = .ref a ∧ SqL K H a xs, fun v H H' e ⟨a, h1, h2⟩ => ⟨a, h1, by
  rcases h2 with (h2 | ⟨o, h2⟩) | h2
  · exact .inl (.inl (e _ _ h2))
  · exact .inl (.inr ⟨o, e _ _ h2⟩)
  · exact .inr h2⟩⟩
theorem sql_up {K : PySem.W.Frag} {a : Addr} {xs : List V} {G H : Hp} (e : Same G H) (h : SqL K G a xs) : SqL K H a xs := by
  obtain ⟨b, h1, h2⟩ := (rScr K xs).mo (.ref a) G H e ⟨a, rfl, h⟩
  cases h1
  exact h2
theorem cop_lenS {xs : List V} : Cop F ω (.builtin "len") [rScr F.X.K xs] (rInt (xs.length : Int)) := by
  refine ⟨_, call_len_seq, fun us G H at_ hx Q q => ?_⟩
  obtain ⟨x, rfl, p, rfl, h1⟩ := all1 hx
  exact ⟨p, xs, rfl, .inl (sql_up at_.gh h1), q _ G H (Same.refl _) at_ rfl⟩
theorem iop_S {xs : List V} {i : Int} {v : V} (h : atI xs i = some v) : Iop F ω (rScr F.X.K xs) (rInt i) (rEqV v) :=
  ⟨_, ix_list, fun x y G H at_ hx hy Q q => by
    obtain ⟨p, rfl, h1⟩ := hx
    exact ⟨p, xs, i, v, rfl, hy, sql_up at_.gh h1, h, q v G H (Same.refl _) at_ rfl⟩⟩
/-! [..] * n, tuple(..) -/
theorem all2_flat {H : Hp} {Rs : List Rl} {vs : List V} (h : All2 Rs vs H) : ∀ n, All2 (List.replicate n Rs).flatten (List.replicate n vs).flatten H
  | 0 => trivial
  | n + 1 => by rw [List.replicate_succ, List.replicate_succ, List.flatten_cons, List.flatten_cons]; exact h.app (all2_flat h n)
theorem bop_rep {k : Int} (h1 : -(2 ^ 63) ≤ k) (h2 : k < 2 ^ 63) (hz : Rs.length * k.toNat ≤ 100000) : Bop F ω (binaryOp .Mult) (rLst Rs) (rInt k) (rLst (List.replicate k.toNat Rs).flatten) :=
  ⟨_, op_rep, fun x y G H at_ hx hy Q q => by
    obtain ⟨l, vs, rfl, e1, e2⟩ := hx
    refine ⟨l, k, vs, rfl, hy, at_.gh _ _ e1, h1, h2, Nat.le_trans (by rw [← e2.len]; exact hz) (by decide), fun p hp => ?_⟩
    have st := Step.new (o := .lst (List.replicate k.toNat vs).flatten) at_.gh hp
    exact q _ _ _ st.gg (at_.step st) ⟨p, _, rfl, upd_same, (all2_flat e2 _).up st.gg⟩⟩
theorem cop_tupL : Cop F ω (.type "tuple") [rLst Rs] (rTup Rs) := ⟨_, call_tuple_of, fun xs G H at_ hx Q q => by
  obtain ⟨x, rfl, p, vs, rfl, h1, h2⟩ := all1 hx
  refine ⟨p, vs, rfl, .inl ⟨SqL.of (at_.gh _ _ h1), fun l hl => ?_⟩⟩
  have st := Step.new (o := .tup vs) at_.gh hl
  exact q _ _ _ st.gg (at_.step st) ⟨l, vs, rfl, upd_same, h2.up st.gg⟩⟩
/-! a, b = a list -/
theorem ge_lst {K : PySem.W.Frag} {n : Nat} {gs : TGs} (h : GEs gs ρ Rs ρ1) (hl : Rs.length = n) : GE (gLst K n gs) ρ (rLst Rs) ρ1 := fun v σ G H Q s sl r q => by
  obtain ⟨a, vs, rfl, h1, h2⟩ := r
  exact ⟨a, vs, rfl, SqL.of (s _ _ h1), by rw [← h2.len]; exact hl, h vs σ G H Q s sl h2 q⟩
theorem gew_lst {K : PySem.W.Frag} {i j : Nat} {ρ : Ty} {R S : Rl} : GEw (gLst K 2 (gCons (gName i) (gCons (gName j) gNil))) [i, j] ρ (rLst [R, S]) ((((ρ.set j none).set i none).set i (some R)).set j (some S)) := fun v σ G H Q s sl r q => by
  obtain ⟨a, vs, rfl, h1, h2⟩ := r
  obtain ⟨x, y, rfl, hx, hy⟩ := all2 h2
  refine ⟨a, [x, y], rfl, SqL.of (s _ _ h1), rfl, x, [y], rfl, y, [], rfl, rfl, ?_⟩
  refine q _ ?_ ((((sl.gone j).gone i).set i hx).set j hy)
  show (((((σ.set j none).set i none).set i (some x)).set j (some y)).set j none).set i none = (σ.set j none).set i none
  simp only [List.set_set]
  by_cases hij : i = j
  · subst hij
    simp only [List.set_set]
  · rw [List.set_comm (i := i) (j := j) _ _ hij]
    simp only [List.set_set]
end
/-! ### try -/
/-- a caught exception, with its one field -/
def rExc (a dd : Addr) (fld : Str) (R : Rl) : Rl := ⟨fun v G => v = .ref a ∧ ∃ w, G dd = some (.xd [(fld, w)]) ∧ R.r w G, fun _ _ _ e ⟨h1, w, h2, h3⟩ => ⟨h1, w, e _ _ h2, R.mo _ _ _ e h3⟩⟩
/-- in the suite -/
structure InSuite (F F' : Fx) (a : Addr) (cls : Value) (d : Option Addr) : Prop where
  h : ∃ oe pn, F'.X = F.X.suite a ((a, oe) :: pn) ∧ Zc cls d oe ∧ ∃ vs, oe.data = .fields vs
  g0 : F'.G0 = F.G0
  h0 : F'.H0 = F.H0
  m : F'.M = F.M
structure InTry (F F' : Fx) : Prop where
  h : ∃ pn xe, F'.X = F.X.tr pn xe ∧ PassesOwn (model F.X.prog F.X.w) F.X.A F.X.env xe
  g0 : F'.G0 = F.G0
  h0 : F'.H0 = F.H0
  m : F'.M = F.M
/-- behind the suite of 'except C as n', n in slot i -/
def Kn.suite (K : Kn) (F : Fx) (rest : List Stmt) (i : Nat) : Kn :=
  { nx := fun ρ ω => HB F (ρ.set i none) ω rest K, rt := K.rt, bk := fun ρ ω => K.bk (ρ.set i none) ω, ct := fun ρ ω => K.ct (ρ.set i none) ω }
def Kn.try_ (K : Kn) (F : Fx) (rest : List Stmt) (i : Nat) (c : Value) (suite : List Stmt) : Kn :=
  { nx := fun ρ ω => HB F ρ ω rest K, rt := K.rt, bk := K.bk, ct := K.ct, ex := fun ρ ω P =>
      (∃ C fld R, (∀ cls d G, P cls d G → erF C fld R cls d G) ∧ PySem.W.exmOne F.X.K (.ref C) c = some true ∧ ∀ a dd F', InSuite F F' a (.ref C) (some dd) → HB F' (ρ.set i (some (rExc a dd fld R))) ω suite (K.suite F rest i)) ∨
      ((∀ cls d G, P cls d G → PySem.W.exmOne F.X.K cls c = some false) ∧ K.ex ρ ω P) }
section
variable {F : Fx} {ρ : Ty} {ω w1 : Ow} {K : Kn} {rest body suite : List Stmt} {b₀ : Stmt} {x n : Str} {c : Value} {np pos pos' : Pos}
theorem hb_try_as (i : Nat) (hb : ∀ F', InTry F F' → HB F' ρ ω body (K.try_ F rest i c (b₀ :: suite))) (hs : F.X.stack = F.X.env :: F.X.outer) (hf : F.X.env.frame = some F.X.env.locals) (hN : F.X.N.Nodup) (hc : Names F.X x c)
    (hi : F.X.N[i]? = some n := by rfl) (hln : F.X.env.kindOf n = some .local := by rfl) :
    HB F ρ ω (.Try body [.ExceptHandler (some (.Name x np)) (some n) (b₀ :: suite) pos'] [] [] pos :: rest) K := hb_cons fun σ G H D at_ sl ps => by
  refine sw_of (ps_try_as hs hf hN hi hln hc F.tk (tb := fun W D σ H => ∀ pn xe, Takes (F.X.tr pn xe) W → PassesOwn (model F.X.prog F.X.w) F.X.A F.X.env xe → BW (F.X.tr pn xe) body D σ H) (ts := fun a cls d D σ H => ∀ oe pn, Zc cls d oe → (∃ vs, oe.data = .fields vs) → BW (F.X.suite a ((a, oe) :: pn)) (b₀ :: suite) D σ H)
    (fun W pn xe tk pa => ⟨fun pins s σ H D I h => h pn xe tk pa pins s I⟩) (fun a oe cls d pn z hd => ⟨fun pins s σ H D I h => h oe pn z hd pins s I⟩)) ?_
  intro pn xe tk pa
  refine hb ⟨F.X.tr pn xe, F.G0, F.H0, F.M, _, tk⟩ ⟨⟨pn, xe, rfl, pa⟩, rfl, rfl, rfl⟩ σ G H _ at_.to sl ⟨fun ρ ω k σ' G' H' s a sl => k σ' G' H' D a.to sl (ps.up s), fun R ω k v G' H' s a r => ps.rt R ω k v G' H' s a.to r, fun ρ ω k σ' G' H' s a sl => ps.bk ρ ω k σ' G' H' s a.to sl, fun ρ ω k σ' G' H' s a sl => ps.ct ρ ω k σ' G' H' s a.to sl, fun ρ ω P k cls d σ' G' H' s a sl hP => ?_⟩
  rcases k with ⟨C, fld, R, k1, k2, k3⟩ | ⟨k1, k2⟩
  · obtain ⟨rfl, dd, v, rfl, e1, e2⟩ := k1 _ _ _ hP
    refine ⟨true, k2, fun _ ax hna oe pn' z hd => ?_, fun z => by cases z⟩
    refine k3 ax dd ⟨F.X.suite ax ((ax, oe) :: pn'), F.G0, F.H0, F.M, fun _ _ _ _ => False, fun _ _ ⟨_, _, _, _, _, _, _, _, _, _, _, _, _, _, _, _, z⟩ => z.elim⟩ ⟨⟨oe, pn', rfl, z, hd⟩, rfl, rfl, rfl⟩ _ G' H' _ a.to (sl.set i ⟨rfl, v, e1, e2⟩) ?_
    exact ⟨fun ρ ω k σ' G2 H2 s2 a sl => k _ G2 H2 D a.to (sl.gone i) (ps.up (s.trans s2)), fun R ω k v G2 H2 s2 a r => ps.rt R ω k v G2 H2 (s.trans s2) a.to r, fun ρ ω k σ' G2 H2 s2 a sl => ps.bk _ ω k _ G2 H2 (s.trans s2) a.to (sl.gone i), fun ρ ω k σ' G2 H2 s2 a sl => ps.ct _ ω k _ G2 H2 (s.trans s2) a.to (sl.gone i), fun _ _ _ k => k.elim⟩
  · exact ⟨false, k1 _ _ _ hP, fun z => absurd z Bool.false_ne_true, fun _ => ps.ex ρ ω P k2 cls d σ' G' H' s a.to sl hP⟩
end
section
variable {F F' : Fx} {ρ : Ty} {ω w1 : Ow} {e : Expr} {R : Rl} {a C dd : Addr} {fld : Str} {pos : Pos}
/-- e.f of the caught one -/
theorem er_xf (S : InSuite F F' a (.ref C) (some dd)) (T : XfC F.X.K C) (hno : PySem.W.findIn F.X.K (.ref C) fld = some none) (he : ER F' ρ ω e (rExc a dd fld R) w1) (hb : attributeBase e fld F.X.env (eval e F.X.env) = eval e F.X.env := by rfl) : ER F' ρ ω (.Attribute e fld pos) R w1 := fun σ G H at_ sl Q q => by
  obtain ⟨oe, pn, hX, hz, hd⟩ := S.h
  have z := fun te h => ew_of (X := F.X.suite a ((a, oe) :: pn)) (pe_xf (pn := pn) (te := te) (pos := pos) T hno hz hd h hb) (σ := σ) (H := H) (Q := Q)
  rw [← hX] at z
  refine z _ pe_w (he σ G H at_ sl _ fun v G2 H2 s a r => ?_)
  obtain ⟨rfl, w, h1, h2⟩ := r
  exact ⟨rfl, rfl, dd, _, w, rfl, a.gh _ _ h1, List.lookup_cons_self, q w G2 H2 s a h2⟩
end
end W1
set_option maxRecDepth 100000
set_option maxHeartbeats 2000000
namespace W1
open PySem PySem.Spec PyProof.Rows L2

/-! ### known defs, in one word each -/
section
variable (P : Program) (w : World) (K : PySem.W.Frag) (mg : Str → Option Value) (base : Heap)
/-- a def at the top -/
def Kf1 (x : Str) (k : Nat) (pre : Pre) : Prop := ∃ f fd ps, mg x = some (.ref f) ∧ PySem.W.keepIn K (.ref f) = true ∧ Binds K fd ps [] ∧ FnOk P w K mg base (L2.CX P w) k f fd ps (spM pre)
def KfN1 (x : Str) (k : Nat) (pre : PreN) : Prop := ∃ f fd ps, mg x = some (.ref f) ∧ PySem.W.keepIn K (.ref f) = true ∧ Binds K fd ps [] ∧ FnOk P w K mg base (L2.CX P w) k f fd ps (spN pre)
/-- a method -/
def Km (C : Addr) (m : Str) (k : Nat) (pre : Pre) : Prop := ∃ f fd ps, Meth K C m f ∧ Binds K fd ps [] ∧ FnOk P w K mg base (L2.CX P w) k f fd ps (spM pre)
/-- an operator's method -/
def Ko (C : Addr) (m : Str) (k : Nat) (pre : Pre) : Prop := ∃ f fd ps, OwnM K C m f ∧ Binds K fd ps [] ∧ FnOk P w K mg base (L2.CX P w) k f fd ps (spM pre)
/-- a class that is called -/
def Kc (C : Addr) (x : Str) (k : Nat) (pre : Pre) : Prop := ∃ f fd ps, mg x = some (.ref C) ∧ Mk K C f ∧ Binds K fd ps [] ∧ FnOk P w K mg base (L2.CX P w) k f fd ps (spM pre)
/-- a classmethod -/
def Kcm (C : Addr) (m : Str) (k : Nat) (pre : Pre) : Prop := ∃ f fd ps mc pc, ClX.CRead K C mc ∧ ClX.CMet K C mc m pc f ∧ Binds K fd ps [] ∧ FnOk P w K mg base (L2.CX P w) k f fd ps (spM pre)
/-- an error class of one field -/
def Ke (C : Addr) (x fld : Str) (k : Nat) (Pr : Rl) : Prop := ∃ y qual st f cc cd fd, SupC P K mg x qual st C f cc cd ∧ Binds K fd ([("self" : Str), y] : List Str) [] ∧ FnOk P w K mg base (L2.CX P w) k f fd ([("self" : Str), y] : List Str) (spErr C fld Pr)
end
section
variable {F : Fx} {ρ : Ty} {ω w w1 w2 wc wc' : Ow} {e o a b : Expr} {es : List Expr} {R S : Rl} {Rs : List Rl} {P : Er} {pos p apos pos' : Pos} {x m fld : Str} {k : Nat} {C : Addr} {pre : Pre} {fs gs : List (Str × Rl)} {O : Ol} {K : Kn} {rest : List Stmt} {t : Bool}
theorem er_fn (T : Kf1 F.X.prog F.X.w F.X.K F.X.mg F.X.base x k pre) (hr : Room k F.X.A) (ha : AR F ρ ω (e :: es) Rs (wc ++ w)) (hp : pre Rs wc (.ok R) wc') (hk : keys wc' = keys wc := by rfl)
    (hg : Gl F.X x := by rfl) (hdb : (x == ("__debug__" : Str)) = false := by decide) (he : starEach (e :: es) F.X.env = (false, eval e F.X.env) :: starEach es F.X.env := by rfl) (hpl : (backTo pos (starEach es F.X.env)).any (·.1) = false := by rfl) :
    ER F ρ ω (.Call (.Name x p) (e :: es) [] pos) R (wc' ++ w) := by
  obtain ⟨f, fd, ps, h1, h2, h3, h4⟩ := T
  exact er_call ha hp hk h4 hr h1 h2 h3 hg hdb he hpl
theorem er_fn0 (T : Kf1 F.X.prog F.X.w F.X.K F.X.mg F.X.base x k pre) (hr : Room k F.X.A) (ha : AR F ρ ω (e :: es) Rs w) (hp : pre Rs [] (.ok R) [])
    (hg : Gl F.X x := by rfl) (hdb : (x == ("__debug__" : Str)) = false := by decide) (he : starEach (e :: es) F.X.env = (false, eval e F.X.env) :: starEach es F.X.env := by rfl) (hpl : (backTo pos (starEach es F.X.env)).any (·.1) = false := by rfl) :
    ER F ρ ω (.Call (.Name x p) (e :: es) [] pos) R w := er_fn (wc := []) (wc' := []) T hr ha hp rfl hg hdb he hpl
theorem ex_fn0 (T : Kf1 F.X.prog F.X.w F.X.K F.X.mg F.X.base x k pre) (hr : Room k F.X.A) (ha : AR F ρ ω (e :: es) Rs w) (hp : pre Rs [] (.error P) [])
    (hg : Gl F.X x := by rfl) (hdb : (x == ("__debug__" : Str)) = false := by decide) (he : starEach (e :: es) F.X.env = (false, eval e F.X.env) :: starEach es F.X.env := by rfl) (hpl : (backTo pos (starEach es F.X.env)).any (·.1) = false := by rfl) :
    EX F ρ ω (.Call (.Name x p) (e :: es) [] pos) P w := by
  obtain ⟨f, fd, ps, h1, h2, h3, h4⟩ := T
  exact ex_call (wc := []) (wc' := []) ha hp rfl h4 hr h1 h2 h3 hg hdb he hpl
theorem en_fn {pre : PreN} (T : KfN1 F.X.prog F.X.w F.X.K F.X.mg F.X.base x k pre) (hr : Room k F.X.A) (ha : AR F ρ ω (e :: es) Rs (wc ++ w)) (hp : pre Rs wc O wc') (hk : keys wc' = keys wc := by rfl)
    (hg : Gl F.X x := by rfl) (hdb : (x == ("__debug__" : Str)) = false := by decide) (he : starEach (e :: es) F.X.env = (false, eval e F.X.env) :: starEach es F.X.env := by rfl) (hpl : (backTo pos (starEach es F.X.env)).any (·.1) = false := by rfl) :
    EN F ρ ω (.Call (.Name x p) (e :: es) [] pos) O (wc' ++ w) := by
  obtain ⟨f, fd, ps, h1, h2, h3, h4⟩ := T
  exact en_call ha hp hk h4 hr h1 h2 h3 hg hdb he hpl
theorem er_m {pl : Sem Bool} (T : Km F.X.prog F.X.w F.X.K F.X.mg F.X.base C m k pre) (hc : Cls F.X.K C) (hr : Room k F.X.A) (ho : ER F ρ ω o (rIns C fs) w1) (ha : AR F ρ w1 (e :: es) Rs w) (hp : pre (rIns C fs :: Rs) [] (.ok R) []) (hno : fs.lookup m = none := by rfl)
    (hst : starEach (e :: es) F.X.env = (false, eval e F.X.env) :: starEach es F.X.env := by rfl) (hpl : (backTo pos (starEach es F.X.env)).any (·.1) = false := by rfl)
    (ht : eval (.Call (.Attribute o m apos) (e :: es) [] pos) F.X.env = (do
      let ov ← eval o F.X.env
      standAt apos.atName
      let (f, first) ← holding [ov] (getMethod ov m pl)
      callWith pos f first (backTo pos (starEach (e :: es) F.X.env)) (backToKw pos (keywordEach [] F.X.env))) := by rfl) :
    ER F ρ ω (.Call (.Attribute o m apos) (e :: es) [] pos) R w := by
  obtain ⟨f, fd, ps, h1, h2, h3⟩ := T
  exact er_meth (wc := []) (wc' := []) ho hno ha hp rfl h3 hr hc h1 h2 hst hpl ht
theorem ex_m {pl : Sem Bool} (T : Km F.X.prog F.X.w F.X.K F.X.mg F.X.base C m k pre) (hc : Cls F.X.K C) (hr : Room k F.X.A) (ho : ER F ρ ω o (rIns C fs) w1) (ha : AR F ρ w1 (e :: es) Rs w) (hp : pre (rIns C fs :: Rs) [] (.error P) []) (hno : fs.lookup m = none := by rfl)
    (hst : starEach (e :: es) F.X.env = (false, eval e F.X.env) :: starEach es F.X.env := by rfl) (hpl : (backTo pos (starEach es F.X.env)).any (·.1) = false := by rfl)
    (ht : eval (.Call (.Attribute o m apos) (e :: es) [] pos) F.X.env = (do
      let ov ← eval o F.X.env
      standAt apos.atName
      let (f, first) ← holding [ov] (getMethod ov m pl)
      callWith pos f first (backTo pos (starEach (e :: es) F.X.env)) (backToKw pos (keywordEach [] F.X.env))) := by rfl) :
    EX F ρ ω (.Call (.Attribute o m apos) (e :: es) [] pos) P w := by
  obtain ⟨f, fd, ps, h1, h2, h3⟩ := T
  exact ex_meth (wc := []) (wc' := []) ho hno ha hp rfl h3 hr hc h1 h2 hst hpl ht
theorem er_m0 {pl : Sem Bool} (T : Km F.X.prog F.X.w F.X.K F.X.mg F.X.base C m k pre) (hc : Cls F.X.K C) (hr : Room k F.X.A) (ho : ER F ρ ω o (rIns C fs) w) (hp : pre [rIns C fs] [] (.ok R) []) (hno : fs.lookup m = none := by rfl)
    (ht : eval (.Call (.Attribute o m apos) [] [] pos) F.X.env = (do
      let ov ← eval o F.X.env
      standAt apos.atName
      let (f, first) ← holding [ov] (getMethod ov m pl)
      callWith pos f first (backTo pos (starEach [] F.X.env)) (backToKw pos (keywordEach [] F.X.env))) := by rfl) :
    ER F ρ ω (.Call (.Attribute o m apos) [] [] pos) R w := by
  obtain ⟨f, fd, ps, h1, h2, h3⟩ := T
  exact er_meth0 (wc := []) (wc' := []) ho hno hp rfl h3 hr hc h1 h2 ht
theorem er_c {fs : List (Str × Rl)} (T : Kc F.X.prog F.X.w F.X.K F.X.mg F.X.base C x k pre) (hr : Room (k + 1) F.X.A) (ha : AR F ρ ω (e :: es) Rs w) (hp : ∀ q, pre (rRef q :: Rs) [(q, oIns C [])] (.ok rNon) [(q, oIns C fs)])
    (hg : Gl F.X x := by rfl) (hdb : (x == ("__debug__" : Str)) = false := by decide) (he : starEach (e :: es) F.X.env = (false, eval e F.X.env) :: starEach es F.X.env := by rfl) (hpl : (backTo pos (starEach es F.X.env)).any (·.1) = false := by rfl) :
    ER F ρ ω (.Call (.Name x p) (e :: es) [] pos) (rIns C fs) w := by
  obtain ⟨f, fd, ps, h1, h2, h3, h4⟩ := T
  exact er_make ha hp h4 hr h2 h1 h3 hg hdb he hpl
theorem ex_c (T : Kc F.X.prog F.X.w F.X.K F.X.mg F.X.base C x k pre) (hr : Room (k + 1) F.X.A) (ha : AR F ρ ω (e :: es) Rs w) (hp : ∀ q, ∃ O, pre (rRef q :: Rs) [(q, oIns C [])] (.error P) [(q, O)]) (hP : ∀ cls d G G', Same G G' → P cls d G → P cls d G')
    (hg : Gl F.X x := by rfl) (hdb : (x == ("__debug__" : Str)) = false := by decide) (he : starEach (e :: es) F.X.env = (false, eval e F.X.env) :: starEach es F.X.env := by rfl) (hpl : (backTo pos (starEach es F.X.env)).any (·.1) = false := by rfl) :
    EX F ρ ω (.Call (.Name x p) (e :: es) [] pos) P w := by
  obtain ⟨f, fd, ps, h1, h2, h3, h4⟩ := T
  exact ex_make ha hp h4 hr h2 h1 h3 hg hdb he hpl hP
theorem er_cm {pl : Sem Bool} (T : Kcm F.X.prog F.X.w F.X.K F.X.mg F.X.base C m k pre) (hr : Room k F.X.A) (ho : ER F ρ ω o (rRef C) w1) (ha : AR F ρ w1 (e :: es) Rs w) (hp : pre (rRef C :: Rs) [] (.ok R) [])
    (hst : starEach (e :: es) F.X.env = (false, eval e F.X.env) :: starEach es F.X.env := by rfl) (hpl : (backTo pos (starEach es F.X.env)).any (·.1) = false := by rfl)
    (ht : eval (.Call (.Attribute o m apos) (e :: es) [] pos) F.X.env = (do
      let ov ← eval o F.X.env
      standAt apos.atName
      let (f, first) ← holding [ov] (getMethod ov m pl)
      callWith pos f first (backTo pos (starEach (e :: es) F.X.env)) (backToKw pos (keywordEach [] F.X.env))) := by rfl) : ER F ρ ω (.Call (.Attribute o m apos) (e :: es) [] pos) R w := by
  obtain ⟨f, fd, ps, mc, pc, h1, h2, h3, h4⟩ := T
  exact er_cmeth ho ha hp h4 hr h1 h2 h3 hst hpl ht
theorem bop_o {op : Operator} (T : Ko F.X.prog F.X.w F.X.K F.X.mg F.X.base C (PySem.dunder op.info.2) k pre) (c : ClsX F.X.K C) (hr : Room k F.X.A) (hp : pre [rIns C fs, rIns C gs] [] (.ok R) []) : Bop F w (binaryOp op) (rIns C fs) (rIns C gs) R := by
  obtain ⟨f, fd, ps, h1, h2, h3⟩ := T
  exact bop_own hp h3 c h1 hr h2
theorem uop_o (T : Ko F.X.prog F.X.w F.X.K F.X.mg F.X.base C "__neg__" k pre) (hr : Room k F.X.A) (hp : pre [rIns C fs] [] (.ok R) []) : Uop F w (unaryOp .USub) (rIns C fs) R := by
  obtain ⟨f, fd, ps, h1, h2, h3⟩ := T
  exact uop_own hp h3 h1 hr h2
theorem bop_oE {B : Rl} {t : Value} (T : Ko F.X.prog F.X.w F.X.K F.X.mg F.X.base C "__eq__" k pre) (hr : Room k F.X.A) (hp : pre [rIns C fs, B] [] (.ok R) []) (ht : TyR F.X.K B t) (hn : PySem.W.notFirst F.X.K C t = true) : Bop F w (compareOp .Eq) (rIns C fs) B R := by
  obtain ⟨f, fd, ps, h1, h2, h3⟩ := T
  exact bop_ownE hp ht hn h3 h1 hr h2
theorem cop_oB (T : Ko F.X.prog F.X.w F.X.K F.X.mg F.X.base C "__bool__" k pre) (hr : Room (k + 2) F.X.A) (hp : pre [rIns C fs] [] (.ok (rBool t)) []) : Cop F w (.type "bool") [rIns C fs] (rBool t) := by
  obtain ⟨f, fd, ps, h1, h2, h3⟩ := T
  exact cop_ownB hp h3 h1 hr h2
theorem tr_o (T : Ko F.X.prog F.X.w F.X.K F.X.mg F.X.base C "__bool__" k pre) (hr : Room k F.X.A) (he : ER F ρ ω e (rIns C fs) w) (hp : pre [rIns C fs] [] (.ok (rBool t)) [])
    (hw : ∀ whole, isTrue e F.X.env whole = (do let v ← whole; standAt e.pos; holding [v] (truthy v)) := by intro _; rfl) : TR F ρ ω e t w := by
  obtain ⟨f, fd, ps, h1, h2, h3⟩ := T
  exact tr_own he hp h3 h1 hr h2 hw
theorem eqb_o (T : Ko F.X.prog F.X.w F.X.K F.X.mg F.X.base C "__eq__" k pre) (hp : pre [rIns C fs, rIns C gs] [] (.ok (rBool t)) []) (hid : ∀ a G, (rIns C fs).r (.ref a) G → (rIns C gs).r (.ref a) G → t = true) (hn : PySem.W.notFirst F.X.K C (.ref C) = true) : EqB F.X k (rIns C fs) (rIns C gs) t := by
  obtain ⟨f, fd, ps, h1, h2, h3⟩ := T
  exact eqb_own hp hid hn h3 h1 h2
theorem hb_err {Pr : Rl} (T : Ke F.X.prog F.X.w F.X.K F.X.mg F.X.base C x fld k Pr) (hr : Room (k + 1) F.X.A) (ha : AR F ρ ω [e] [R] w1) (hx : K.ex ρ w1 (erF C fld R)) (hPr : ∀ v G, R.r v G → Pr.r v G)
    (hg : Gl F.X x := by rfl) (hc : F.X.calm = true := by rfl) (hdb : (x == ("__debug__" : Str)) = false := by decide)
    (he : starEach [e] F.X.env = (false, eval e F.X.env) :: starEach [] F.X.env := by rfl) (hpl : (backTo pos (starEach [] F.X.env)).any (·.1) = false := by rfl) :
    HB F ρ ω (.Raise (some (.Call (.Name x p) [e] [] pos)) none pos' :: rest) K := by
  obtain ⟨y, qual, st, f, cc, cd, fd, h1, h2, h3⟩ := T
  exact hb_raise ha hx hPr h1 h3 hr h2 hg hc hdb he hpl
end
end W1
set_option maxRecDepth 100000
set_option maxHeartbeats 2000000
namespace W1
open PySem PySem.Spec PyProof.Rows L2

/-! ### fractions -/
theorem gcd_step (a b : Nat) (h : b ≠ 0) : Int.gcd (b : Int) ((a % b : Nat) : Int) = Int.gcd (a : Int) (b : Int) := by
  show Nat.gcd b (a % b) = Nat.gcd a b
  rw [Nat.gcd_comm a b, Nat.gcd_rec b a, Nat.gcd_comm]
theorem fmod_nat (a b : Nat) : (a : Int).fmod (b : Int) = ((a % b : Nat) : Int) := by
  rw [Int.fmod_eq_emod_of_nonneg _ (Int.natCast_nonneg b)]
  rfl
theorem abs_nat (a : Int) : (if a < 0 then -a else a) = (a.natAbs : Int) := by
  by_cases h : a < 0
  · rw [if_pos h]; omega
  · rw [if_neg h]; omega
/-- the divisor that __init__ takes -/
def dvs (t b : Int) : Int := if b < 0 then -(Int.gcd t b : Int) else (Int.gcd t b : Int)
theorem dvs_ne {t b : Int} (h : b ≠ 0) : dvs t b ≠ 0 := by
  have : Int.gcd t b ≠ 0 := fun e => h (Int.gcd_eq_zero_iff.mp e).2
  unfold dvs
  split <;> omega
theorem dvs_top {t b : Int} (h : b ≠ 0) : t.fdiv (dvs t b) = (Rat.divInt t b).num := by
  have hd := dvs_ne (t := t) h
  obtain ⟨u, hu⟩ : ((Int.gcd t b : Int)) ∣ t := Int.gcd_dvd_left t b
  have hg : (Int.gcd t b : Int) ≠ 0 := by
    have : Int.gcd t b ≠ 0 := fun e => h (Int.gcd_eq_zero_iff.mp e).2
    omega
  rw [Rat.num_divInt, Int.gcd_comm b t]
  generalize hG : (Int.gcd t b : Int) = g at *
  unfold dvs
  rw [hG]
  by_cases hb : b < 0
  · rw [if_pos hb, Int.sign_eq_neg_one_of_neg hb, hu, show g * u = (-g) * (-u) by rw [Int.neg_mul_neg], Int.mul_fdiv_cancel_left _ (by omega), show -1 * (-g * -u) = g * (-u) by rw [Int.neg_mul_neg, Int.mul_neg]; omega, Int.mul_ediv_cancel_left _ hg]
  · rw [if_neg hb, Int.sign_eq_one_of_pos (by omega), hu, Int.mul_fdiv_cancel_left _ hg, Int.one_mul, Int.mul_ediv_cancel_left _ hg]
theorem dvs_bot {t b : Int} (h : b ≠ 0) : b.fdiv (dvs t b) = ((Rat.divInt t b).den : Int) := by
  have hd := dvs_ne (t := t) h
  obtain ⟨u, hu⟩ : ((Int.gcd t b : Int)) ∣ b := Int.gcd_dvd_right t b
  have hg : (0 : Int) < (Int.gcd t b : Int) := by
    have : Int.gcd t b ≠ 0 := fun e => h (Int.gcd_eq_zero_iff.mp e).2
    omega
  rw [Rat.den_divInt, if_neg h, Int.gcd_comm b t]
  generalize hG : Int.gcd t b = g at *
  have e : (b.natAbs / g : Nat) = u.natAbs := by
    rw [hu, Int.natAbs_mul, Int.natAbs_natCast, Nat.mul_div_cancel_left _ (by omega)]
  rw [e]
  unfold dvs
  rw [hG]
  by_cases hb : b < 0
  · have hu0 : u < 0 := by
      rcases Int.lt_or_le u 0 with z | z
      · exact z
      · have := Int.mul_nonneg (Int.le_of_lt hg) z
        omega
    rw [if_pos hb, hu, show (g : Int) * u = (-(g : Int)) * (-u) by rw [Int.neg_mul_neg], Int.mul_fdiv_cancel_left _ (by omega)]
    omega
  · have hu0 : 0 ≤ u := by
      rcases Int.lt_or_le u 0 with z | z
      · have := Int.mul_neg_of_pos_of_neg hg z
        omega
      · exact z
    rw [if_neg hb, hu, Int.mul_fdiv_cancel_left _ (by omega)]
    omega
theorem dvs_le {t b : Int} : (dvs t b).natAbs ≤ b.natAbs ∨ b = 0 := by
  by_cases h : b = 0
  · exact .inr h
  · left
    have h1 : (Int.gcd t b) ≤ b.natAbs := Nat.le_of_dvd (by omega) (Nat.gcd_dvd_right _ _)
    unfold dvs
    split <;> omega
/-- not too great -/
def Sz (n : Nat) (q : Rat) : Prop := q.num.natAbs < 2 ^ n ∧ q.den < 2 ^ n
theorem Sz.mono {m n : Nat} {q : Rat} (h : Sz m q) (l : m ≤ n) : Sz n q :=
  ⟨Nat.lt_of_lt_of_le h.1 (Nat.pow_le_pow_right (by decide) l), Nat.lt_of_lt_of_le h.2 (Nat.pow_le_pow_right (by decide) l)⟩
theorem mul_lt2 {a b m n : Nat} (ha : a < 2 ^ m) (hb : b < 2 ^ n) : a * b < 2 ^ (m + n) := by
  rw [Nat.pow_add]
  exact Nat.mul_lt_mul'' ha hb
theorem sz_divInt {n : Nat} {t b : Int} (h : b ≠ 0) (h1 : t.natAbs < 2 ^ n) (h2 : b.natAbs < 2 ^ n) : Sz n (Rat.divInt t b) := by
  constructor
  · rw [Rat.num_divInt, Int.natAbs_ediv_of_dvd]
    · refine Nat.lt_of_le_of_lt (Nat.div_le_self _ _) ?_
      rw [Int.natAbs_mul]
      have : b.sign.natAbs = 1 := Int.natAbs_sign_of_ne_zero h
      rw [this, Nat.one_mul]
      exact h1
    · exact Int.dvd_mul_of_dvd_right (Int.gcd_dvd_right b t)
  · rw [Rat.den_divInt, if_neg h]
    exact Nat.lt_of_le_of_lt (Nat.div_le_self _ _) h2
theorem add_lt2 {a b m n k : Nat} (ha : a < 2 ^ m) (hb : b < 2 ^ n) (h1 : m < k) (h2 : n < k) : a + b < 2 ^ k := by
  have e : 2 ^ k = 2 ^ (k - 1) + 2 ^ (k - 1) := by
    obtain ⟨j, rfl⟩ : ∃ j, k = j + 1 := ⟨k - 1, by omega⟩
    rw [Nat.pow_succ, Nat.add_sub_cancel]
    omega
  have h3 : 2 ^ m ≤ 2 ^ (k - 1) := Nat.pow_le_pow_right (by decide) (by omega)
  have h4 : 2 ^ n ≤ 2 ^ (k - 1) := Nat.pow_le_pow_right (by decide) (by omega)
  omega
theorem divInt_add (p q : Rat) : Rat.divInt (p.num * q.den + q.num * p.den) (p.den * q.den) = p + q := by
  have h1 : (p.den : Int) ≠ 0 := Int.natCast_ne_zero.mpr p.den_nz
  have h2 : (q.den : Int) ≠ 0 := Int.natCast_ne_zero.mpr q.den_nz
  rw [← Rat.divInt_add_divInt _ _ h1 h2, Rat.num_divInt_den, Rat.num_divInt_den]
theorem divInt_sub (p q : Rat) : Rat.divInt (p.num * q.den - q.num * p.den) (p.den * q.den) = p - q := by
  rw [Rat.sub_eq_add_neg, ← divInt_add, Rat.neg_num, Rat.neg_den, Int.neg_mul]
  rfl
theorem divInt_mul (p q : Rat) : Rat.divInt (p.num * q.num) (p.den * q.den) = p * q := by
  rw [← Rat.divInt_mul_divInt, Rat.num_divInt_den, Rat.num_divInt_den]
theorem divInt_neg (p : Rat) : Rat.divInt (-p.num) p.den = -p := by
  rw [← Rat.neg_divInt, Rat.num_divInt_den]
theorem divInt_quo (p q : Rat) : Rat.divInt (p.num * q.den) (p.den * q.num) = p / q := by
  rw [← Rat.divInt_mul_divInt, Rat.num_divInt_den, Rat.div_def, Rat.inv_def]
theorem sz_int {n : Nat} {q : Rat} (h : Sz n q) : (q.den : Int).natAbs < 2 ^ n := by rw [Int.natAbs_natCast]; exact h.2
theorem sz_add {m n k : Nat} {p q : Rat} (hp : Sz m p) (hq : Sz n q) (h : m + n < k) : Sz k (p + q) := by
  rw [← divInt_add]
  have h1 : (p.den : Int) ≠ 0 := Int.natCast_ne_zero.mpr p.den_nz
  have h2 : (q.den : Int) ≠ 0 := Int.natCast_ne_zero.mpr q.den_nz
  refine sz_divInt (Int.mul_ne_zero h1 h2) ?_ ?_
  · refine Nat.lt_of_le_of_lt (Int.natAbs_add_le _ _) ?_
    rw [Int.natAbs_mul, Int.natAbs_mul]
    exact add_lt2 (mul_lt2 hp.1 (sz_int hq)) (mul_lt2 hq.1 (sz_int hp)) h (by omega)
  · rw [Int.natAbs_mul]
    exact Nat.lt_trans (mul_lt2 (sz_int hp) (sz_int hq)) (Nat.pow_lt_pow_right (by decide) h)
theorem sz_neg {n : Nat} {p : Rat} (hp : Sz n p) : Sz n (-p) := by
  refine ⟨?_, ?_⟩
  · rw [Rat.neg_num, Int.natAbs_neg]; exact hp.1
  · rw [Rat.neg_den]; exact hp.2
theorem sz_sub {m n k : Nat} {p q : Rat} (hp : Sz m p) (hq : Sz n q) (h : m + n < k) : Sz k (p - q) := by
  rw [Rat.sub_eq_add_neg]
  exact sz_add hp (sz_neg hq) h
theorem sz_mul {m n k : Nat} {p q : Rat} (hp : Sz m p) (hq : Sz n q) (h : m + n ≤ k) : Sz k (p * q) := by
  rw [← divInt_mul]
  have h1 : (p.den : Int) ≠ 0 := Int.natCast_ne_zero.mpr p.den_nz
  have h2 : (q.den : Int) ≠ 0 := Int.natCast_ne_zero.mpr q.den_nz
  refine Sz.mono (sz_divInt (n := m + n) (Int.mul_ne_zero h1 h2) ?_ ?_) h
  · rw [Int.natAbs_mul]
    exact mul_lt2 hp.1 hq.1
  · rw [Int.natAbs_mul]
    exact mul_lt2 (sz_int hp) (sz_int hq)
theorem sz_quo {m n k : Nat} {p q : Rat} (hp : Sz m p) (hq : Sz n q) (h : m + n ≤ k) (h0 : q.num ≠ 0) : Sz k (p / q) := by
  rw [← divInt_quo]
  have h1 : (p.den : Int) ≠ 0 := Int.natCast_ne_zero.mpr p.den_nz
  refine Sz.mono (sz_divInt (n := m + n) (Int.mul_ne_zero h1 h0) ?_ ?_) h
  · rw [Int.natAbs_mul]
    exact mul_lt2 hp.1 (sz_int hq)
  · rw [Int.natAbs_mul]
    exact mul_lt2 (sz_int hp) hq.1
theorem log2_of {a n : Nat} (h : a < 2 ^ n) (hn : n ≤ 9000) : a.log2 < 9000 ∨ a.log2 < 9000 := by
  left
  rcases Nat.eq_zero_or_pos a with e | e
  · subst e; decide
  · exact Nat.lt_of_lt_of_le ((Nat.log2_lt (by omega)).mpr h) hn
theorem bits_of {a : Int} {n : Nat} (h : a.natAbs < 2 ^ n) (hn : n ≤ 9000) : Builtin.Int.intBits a ≤ 2 ^ 20 := by
  unfold Builtin.Int.intBits
  have := (log2_of h hn).elim id id
  split <;> omega
theorem mulok {a b : Int} {m n : Nat} (ha : a.natAbs < 2 ^ m) (hb : b.natAbs < 2 ^ n) (hm : m ≤ 9000 := by decide) (hn : n ≤ 9000 := by decide) : IntMulOk a b := IntMulOk.of_bits (bits_of ha hm) (bits_of hb hn)
theorem divok {a : Int} {n : Nat} {i : Int} (h0 : a ≠ 0) (ha : a.natAbs < 2 ^ n) (hn : n ≤ 9000 := by decide) : CDivZ i a := ⟨h0, (log2_of ha hn).elim id id⟩
end W1
set_option maxRecDepth 100000
set_option maxHeartbeats 2000000
namespace W1
open PySem PySem.Spec PyProof.Rows L2

/-! ### texts, slices, more of lists -/
/-- a method of a builtin type -/
def Mop (F : Fx) (ω : Ow) (T id : String) (A : Rl) (As : List Rl) (R : Rl) : Prop :=
  ∃ r : V → List V → Hp → VK → Prop, MtR F.X id r ∧ (∀ x G H, At F ω G H → A.r x G → tyV F.X.K T x H) ∧ ∀ x xs G H, At F ω G H → A.r x G → All2 As xs G → ∀ Q : VK, (∀ v G2 H2, Same G G2 → At F ω G2 H2 → R.r v G2 → Q v H2) → r x xs H Q
/-- a part of a slice -/
def PR (F : Fx) (ρ : Ty) (ω : Ow) (e : Option Expr) (v : Option Int) (ω' : Ow) : Prop :=
  ∃ t, PO F.X e t ∧ ∀ σ G H, At F ω G H → Slots ρ σ G → ∀ Q : Option Int → Hp → Prop, (∀ G2 H2, Same G G2 → At F ω' G2 H2 → Q v H2) → t σ H Q
def Sop (F : Fx) (ω : Ow) (A : Rl) (lo hi : Option Int) (R : Rl) : Prop :=
  ∃ r, L2.SlR F.X r ∧ ∀ x G H, At F ω G H → A.r x G → ∀ Q : VK, (∀ v G2 H2, Same G G2 → At F ω G2 H2 → R.r v G2 → Q v H2) → r x lo hi H Q
def cutR (Rs : List Rl) (lo hi : Option Int) : List Rl := (Rs.drop (HT.sIx Rs.length 0 lo)).take (HT.sIx Rs.length Rs.length hi - HT.sIx Rs.length 0 lo)
theorem All2.drop : ∀ {Rs : List Rl} {vs : List V} {H : Hp} (n : Nat), All2 Rs vs H → All2 (Rs.drop n) (vs.drop n) H
  | _, _, _, 0, h => h
  | [], [], _, _ + 1, _ => trivial
  | _ :: _, _ :: _, _, n + 1, h => All2.drop n h.2
  | [], _ :: _, _, _ + 1, h => h.elim
  | _ :: _, [], _, _ + 1, h => h.elim
theorem All2.take : ∀ {Rs : List Rl} {vs : List V} {H : Hp} (n : Nat), All2 Rs vs H → All2 (Rs.take n) (vs.take n) H
  | _, _, _, 0, _ => trivial
  | [], [], _, _ + 1, _ => trivial
  | _ :: _, _ :: _, _, n + 1, h => ⟨h.1, All2.take n h.2⟩
  | [], _ :: _, _, _ + 1, h => h.elim
  | _ :: _, [], _, _ + 1, h => h.elim
theorem All2.rev : ∀ {Rs : List Rl} {vs : List V} {H : Hp}, All2 Rs vs H → All2 Rs.reverse vs.reverse H
  | [], [], _, _ => trivial
  | _ :: _, _ :: _, _, h => by rw [List.reverse_cons, List.reverse_cons]; exact (All2.rev h.2).app ⟨h.1, trivial⟩
  | [], _ :: _, _, h => h.elim
  | _ :: _, [], _, h => h.elim
theorem all2_vals {H : Hp} : ∀ {xs vs : List V}, All2 (xs.map rEqV) vs H → vs = xs
  | [], [], _ => rfl
  | x :: xs, v :: vs, h => by rw [show v = x from h.1, all2_vals h.2]
  | [], _ :: _, h => h.elim
  | _ :: _, [], h => h.elim
theorem vals_all2 {H : Hp} : ∀ (xs : List V), All2 (xs.map rEqV) xs H
  | [] => trivial
  | _ :: xs => ⟨rfl, vals_all2 xs⟩
section
variable {F : Fx} {ρ : Ty} {ω w w1 w2 w3 : Ow} {e o a b lo hi : Expr} {es : List Expr} {A R S : Rl} {As Rs Ss : List Rl} {pos p apos p2 p3 : Pos} {m : Str} {z y : Str} {T id : String} {v u : Option Int}
theorem er_bm (pa : PlainAttrs T) (slot : Slot T m id) (hty : typeOf (.builtin id) = pure (.type "method_descriptor")) (ho : ER F ρ ω o A w1) (ha : AR F ρ w1 (e :: es) As w2) (h : Mop F w2 T id A As R) (ht : ∀ x G H, Same G H → A.r x G → tyV F.X.K T x H)
    (hbase : attributeBase o m F.X.env (eval o F.X.env) = eval o F.X.env := by rfl)
    (hfew : ((backTo p (starEach (e :: es) F.X.env)).all (fun x => !x.1) && (backToKw p (keywordEach [] F.X.env)).all (fun x => x.1.isSome)
      && decide ((e :: es).length + ([] : List Keyword).length + (if ([] : List Keyword).isEmpty then 0 else 1) < 30)) = true := by rfl)
    (hline : (apos.endLine == p.line) = true := by rfl) (hs : starEach (e :: es) F.X.env = (false, eval e F.X.env) :: starEach es F.X.env := by rfl) (hplain : (backTo p (starEach es F.X.env)).any (·.1) = false := by rfl) :
    ER F ρ ω (.Call (.Attribute o m apos) (e :: es) [] p) R w2 := fun σ G H at_ sl Q q => by
  obtain ⟨r, hm, _, k⟩ := h
  refine ew_of (pe_bm pa slot hty hm pe_w pa_w hbase hfew hline hs hplain) (ho σ G H at_ sl _ fun x G1 H1 s1 a1 r1 => ⟨ht x G1 H1 a1.gh r1, ha σ G1 H1 a1 (sl.up s1) _ fun us G2 H2 s2 a2 r2 => ?_⟩)
  exact k x us G2 H2 a2 (A.mo _ _ _ s2 r1) r2 Q fun v G3 H3 s3 a3 r3 => q v G3 H3 ((s1.trans s2).trans s3) a3 r3
theorem ty_str {K : PySem.W.Frag} : ∀ x G H, Same G H → (rStr z).r x G → tyV K "str" x H := fun x G H _ h => by
  cases (show x = V.str z from h)
  exact rfl
theorem str_vals {H : Hp} {ys : List Str} {vs : List V} (h : All2 (ys.map rStr) vs H) : vs = ys.map V.str := by
  refine all2_vals (H := H) ?_
  rw [List.map_map]
  exact h
theorem vals_str {H : Hp} (ys : List Str) : All2 (ys.map rStr) (ys.map V.str) H := by
  have h := vals_all2 (H := H) (ys.map V.str)
  rw [List.map_map] at h
  exact h
theorem mop_split (h : (y.length == 0) = false) (hz : z.length ≤ 100000) : Mop F w "str" "str.split" (rStr z) [rStr y] (rLst ((Txt.split z y).map rStr)) := by
  refine ⟨_, mt_split, fun x G H at_ hx => ty_str x G H at_.gh hx, fun x xs G H at_ hx hxs Q q => ?_⟩
  obtain ⟨v, rfl, hv⟩ := all1 hxs
  refine ⟨z, y, hx, by rw [show v = V.str y from hv], h, Nat.le_trans (Nat.add_le_add_right hz 2) (by decide), fun p hp => ?_⟩
  have st := Step.new (o := .lst ((Txt.split z y).map V.str)) at_.gh hp
  exact q _ _ _ st.gg (at_.step st) ⟨p, _, rfl, upd_same, vals_str _⟩
theorem mop_join {ys : List Str} (hz : (ys.map (·.length)).sum + ys.length * z.length ≤ 16777216) : Mop F w "str" "str.join" (rStr z) [rLst (ys.map rStr)] (rStr (Txt.join z ys)) := by
  refine ⟨_, mt_join, fun x G H at_ hx => ty_str x G H at_.gh hx, fun x xs G H at_ hx hxs Q q => ?_⟩
  obtain ⟨v, rfl, p, vs, rfl, h1, h2⟩ := all1 hxs
  rw [str_vals h2] at h1
  exact ⟨z, p, ys, hx, rfl, .inl (SqL.of (at_.gh _ _ h1)), hz, q _ G H (Same.refl _) at_ rfl⟩
/-! slices -/
theorem pr_none : PR F ρ ω none none ω := ⟨_, po_none, fun σ G H at_ sl Q q => q G H (Same.refl _) at_⟩
theorem pr_some {i : Int} (h : ER F ρ ω e (rInt i) w1) : PR F ρ ω (some e) (some i) w1 := ⟨_, po_some pe_w, fun σ G H at_ sl Q q => h σ G H at_ sl _ fun v G2 H2 s a r => ⟨i, r, q G2 H2 s a⟩⟩
theorem er_slice {lo hi : Option Expr} (ho : ER F ρ ω o A w1) (hl : PR F ρ w1 lo v w2) (hh : PR F ρ w2 hi u w3) (h : Sop F w3 A v u R) : ER F ρ ω (.Subscript o (.Slice lo hi none p2) pos) R w3 := fun σ G H at_ sl Q q => by
  obtain ⟨r, hr, k⟩ := h
  obtain ⟨tl, htl, hl⟩ := hl
  obtain ⟨th, hth, hh⟩ := hh
  refine ew_of (pe_slice hr pe_w htl hth) (ho σ G H at_ sl _ fun x G1 H1 s1 a1 r1 => hl σ G1 H1 a1 (sl.up s1) _ fun G2 H2 s2 a2 => hh σ G2 H2 a2 ((sl.up s1).up s2) _ fun G3 H3 s3 a3 => ?_)
  exact k x G3 H3 a3 (A.mo _ _ _ (s2.trans s3) r1) Q fun v G4 H4 s4 a4 r4 => q v G4 H4 (((s1.trans s2).trans s3).trans s4) a4 r4
theorem sop_str (hz : z.length ≤ 100000) : Sop F w (rStr z) v u (rStr (cutS z v u)) := ⟨_, sl_str, fun x G H at_ hx Q q => ⟨z, hx, Nat.le_trans hz (by decide), q _ G H (Same.refl _) at_ rfl⟩⟩
theorem sop_L : Sop F w (rLst Rs) v u (rLst (cutR Rs v u)) := ⟨_, sl_list, fun x G H at_ hx Q q => by
  obtain ⟨p, vs, rfl, h1, h2⟩ := hx
  refine ⟨p, vs, rfl, SqL.of (at_.gh _ _ h1), fun l hl => ?_⟩
  have st := Step.new (o := .lst (cutV vs v u)) at_.gh hl
  refine q _ _ _ st.gg (at_.step st) ⟨l, _, rfl, upd_same, ?_⟩
  unfold cutR cutV
  rw [h2.len]
  exact ((h2.drop _).take _).up st.gg⟩
theorem sop_S {xs : List V} : Sop F w (rScr F.X.K xs) v u (rLst ((cutV xs v u).map rEqV)) := ⟨_, sl_list, fun x G H at_ hx Q q => by
  obtain ⟨p, rfl, h1⟩ := hx
  refine ⟨p, xs, rfl, sql_up at_.gh h1, fun l hl => ?_⟩
  have st := Step.new (o := .lst (cutV xs v u)) at_.gh hl
  exact q _ _ _ st.gg (at_.step st) ⟨l, _, rfl, upd_same, vals_all2 _⟩⟩
theorem er_revL {k : Nat} {p1 p2 p3 pos : Pos} (ho : ER F ρ ω o (rLst Rs) w1) : ER F ρ ω (.Subscript o (.Slice none none (some (.UnaryOp .USub (.Constant (.int 1) k p1) p2)) p3) pos) (rLst Rs.reverse) w1 := fun σ G H at_ sl Q q => by
  refine ew_of (pe_revL pe_w) (ho σ G H at_ sl _ fun x G1 H1 s1 a1 r1 => ?_)
  obtain ⟨p, vs, rfl, h1, h2⟩ := r1
  refine ⟨p, vs, rfl, SqL.of (a1.gh _ _ h1), fun l hl => ?_⟩
  have st := Step.new (o := .lst vs.reverse) a1.gh hl
  exact q _ _ _ (s1.trans st.gg) (a1.step st) ⟨l, _, rfl, upd_same, h2.rev.up st.gg⟩
/-! operators and builtins -/
theorem iop_str {i : Int} {c : Nat} (h : atI z.cps.toList i = some c) (hz : z.length ≤ 100000) : Iop F w (rStr z) (rInt i) (rStr ⟨#[c]⟩) := ⟨_, ix_str, fun x y G H at_ hx hy Q q => ⟨z, i, c, hx, hy, Nat.le_trans hz (by decide), h, q _ G H (Same.refl _) at_ rfl⟩⟩
theorem bop_addS (hz : z.length + y.length ≤ 100000) : Bop F w (binaryOp .Add) (rStr z) (rStr y) (rStr (z ++ y)) := bop_of op_add_str fun _ _ q => ⟨z, y, rfl, rfl, Nat.le_trans hz (by decide), q⟩
theorem bop_eqS : Bop F w (compareOp .Eq) (rStr z) (rStr y) (rBool (decide (z = y))) := by
  have e : decide (V.str z = V.str y) = decide (z = y) := decide_eq_decide.mpr ⟨V.str.inj, fun h => by rw [h]⟩
  rw [← e]
  exact bop_eq rfl
theorem bop_neS : Bop F w (compareOp .NotEq) (rStr z) (rStr y) (rBool (!decide (z = y))) := by
  have e : decide (V.str z = V.str y) = decide (z = y) := decide_eq_decide.mpr ⟨V.str.inj, fun h => by rw [h]⟩
  rw [← e]
  exact bop_ne rfl
theorem bop_inC {c : Nat} : Bop F w (compareOp .In) (rStr ⟨#[c]⟩) (rStr z) (rBool (decide (c ∈ z.cps.toList))) := bop_of op_inS fun _ _ q => ⟨c, z, rfl, rfl, q⟩
theorem bop_cat (hz : Rs.length + Ss.length ≤ 100000) : Bop F w (binaryOp .Add) (rLst Rs) (rLst Ss) (rLst (Rs ++ Ss)) := ⟨_, op_cat, fun x y G H at_ hx hy Q q => by
  obtain ⟨l, vs, rfl, e1, e2⟩ := hx
  obtain ⟨m, ws, rfl, e3, e4⟩ := hy
  refine ⟨l, m, vs, ws, rfl, rfl, at_.gh _ _ e1, at_.gh _ _ e3, Nat.le_trans (by rw [← e2.len, ← e4.len]; exact hz) (by decide), fun p hp => ?_⟩
  have st := Step.new (o := .lst (vs ++ ws)) at_.gh hp
  exact q _ _ _ st.gg (at_.step st) ⟨p, _, rfl, upd_same, (e2.app e4).up st.gg⟩⟩
theorem cop_all {bs : List Bool} (hc : F.X.calm = true) : Cop F w (.builtin "all") [rLst (bs.map rBool)] (rBool (bs.all _root_.id)) := ⟨_, cr_all hc, fun xs G H at_ hx Q q => by
  obtain ⟨x, rfl, p, vs, rfl, h1, h2⟩ := all1 hx
  have e : vs = bs.map V.bl := all2_vals (H := G) (by rw [List.map_map]; exact h2)
  rw [e] at h1
  exact ⟨p, bs, rfl, SqL.of (at_.gh _ _ h1), q _ G H (Same.refl _) at_ rfl⟩⟩
theorem cop_max2 {i j : Int} (hc : F.X.calm = true) : Cop F w (.builtin "max") [rInt i, rInt j] (rInt (if j > i then j else i)) := cop_of2 (call_max2 hc) fun _ _ q => ⟨i, j, rfl, q⟩
theorem cop_min2 {i j : Int} (hc : F.X.calm = true) : Cop F w (.builtin "min") [rInt i, rInt j] (rInt (if j < i then j else i)) := cop_of2 (call_min2 hc) fun _ _ q => ⟨i, j, rfl, q⟩
theorem cop_intS {n : Int} (h : PySem.intText? z = some n) (hz : z.length ≤ 640) : Cop F w (.type "int") [rStr z] (rInt n) := cop_of1 call_int_str fun _ _ q => ⟨z, n, rfl, h, hz, q⟩
theorem cop_listL : Cop F w (.type "list") [rLst Rs] (rLst Rs) := ⟨_, call_list_of, fun xs G H at_ hx Q q => by
  obtain ⟨x, rfl, p, vs, rfl, h1, h2⟩ := all1 hx
  refine ⟨p, vs, rfl, .inl (SqL.of (at_.gh _ _ h1)), fun l hl => ?_⟩
  have st := Step.new (o := .lst vs) at_.gh hl
  exact q _ _ _ st.gg (at_.step st) ⟨l, _, rfl, upd_same, h2.up st.gg⟩⟩
theorem cop_listT : Cop F w (.type "list") [rTup Rs] (rLst Rs) := ⟨_, call_list_of, fun xs G H at_ hx Q q => by
  obtain ⟨x, rfl, p, vs, rfl, h1, h2⟩ := all1 hx
  refine ⟨p, vs, rfl, .inr (SqT.of (at_.gh _ _ h1)), fun l hl => ?_⟩
  have st := Step.new (o := .lst vs) at_.gh hl
  exact q _ _ _ st.gg (at_.step st) ⟨l, _, rfl, upd_same, h2.up st.gg⟩⟩
theorem it_str {tg it : Expr} (he : ER F ρ ω it (rStr z) w1) : IT F ρ ω tg it (z.cps.toList.map fun c => rStr ⟨#[c]⟩) w1 := ⟨_, pi_str pe_w, fun σ G H at_ sl R k => he σ G H at_ sl _ fun v G2 H2 s a r => by
  refine ⟨z, r, k _ G2 H2 s a ⟨fun i G' H' s1 s2 hi => ?_, fun G' H' s1 s2 => ?_, fun i R G' H' x H'' s1 s2 hR y => ?_⟩⟩
  · rw [List.length_map, Array.length_toList] at hi
    exact hi
  · rw [List.length_map, Array.length_toList]
    exact Nat.le_refl _
  · obtain ⟨rfl, c, hc, rfl⟩ := y
    rw [List.getElem?_map, Array.getElem?_toList, hc] at hR
    cases hR
    exact ⟨G', Step.refl s2, rfl⟩⟩
end
/-! str(x) by an own def -/
section
variable {X : Cx} {C g k : Nat} {fd : FuncData} {ps : List Str} {sp : Sp}
def rOwnS (C : Addr) (sp : Sp) : List V → Hp → VK → Prop := fun xs H Q => ∃ a dx vs, xs = [.ref a] ∧ H a = some (.ins C dx vs) ∧ sp [.ref a] H (fun v H' => ∃ z, v = .str z ∧ Q (.str z) H') E0
theorem call_ownS (m : OwnM X.K C "__str__" g) (F : FnOk X.prog X.w X.K X.mg X.base (L2.CX X.prog X.w) k g fd ps sp) (hr : Room (k + 2) X.A) (hb : Binds X.K fd ps []) : CallR X (.type "str") (rOwnS C sp) := by
  intro pins s σ H xs us Q I r h
  obtain ⟨a, dx, vs, rfl, ha, q⟩ := h
  obtain ⟨u, rfl, ru⟩ := vals1 r
  cases (show u = Value.ref a from ru)
  obtain ⟨od, J⟩ := inst_at I ha
  have hr2 : Room k X.A.in1.in1 := (show Room (k + 1) X.A.in1 from hr.in1).in1
  refine PySem.W.kso_call hr2.units0 I.kIn J m.at_ m.fn (wpAny_mono (run_below (us := [.ref a]) (vs := [.ref a]) F hr2 I.env0.in1.in1 hb I (.cons rfl .nil) q _) (fun w s' z => ?_) fun _ _ x => x)
  obtain ⟨z', H', I', rz, y, ez, qz⟩ := z
  subst ez
  obtain ⟨t, rfl⟩ := rz
  exact ⟨.str y, H', I', ⟨t, rfl⟩, qz⟩
end
section
variable {F : Fx} {w : Ow} {C : Addr} {k : Nat} {pre : Pre} {fs : List (Str × Rl)} {z : Str}
theorem cop_oS (T : Ko F.X.prog F.X.w F.X.K F.X.mg F.X.base C "__str__" k pre) (hr : Room (k + 2) F.X.A) (hp : pre [rIns C fs] [] (.ok (rStr z)) []) : Cop F w (.type "str") [rIns C fs] (rStr z) := by
  obtain ⟨f, fd, ps, h1, h2, h3⟩ := T
  refine ⟨_, call_ownS h1 h3 hr h2, fun xs G H at_ hx Q q => ?_⟩
  obtain ⟨x, rfl, hx1⟩ := all1 hx
  obtain ⟨a, dx, vs, rfl, h1, h2⟩ := id hx1
  exact ⟨a, dx, vs, rfl, at_.gh _ _ h1, sp_ok0 (Rs := [rIns C fs]) at_ (mk1 hx1) hp fun v G2 H2 s a2 r => ⟨z, r, q _ G2 H2 s a2 rfl⟩⟩
end
end W1
set_option maxRecDepth 100000
set_option maxHeartbeats 2000000
namespace W1
open PySem PySem.Spec PyProof.Rows L2 TL NumText

/-! ### words of digits -/
def isD (c : Nat) : Bool := decide (48 ≤ c ∧ c ≤ 57)
def cntL (l : List Nat) : Bool := decide (l ≠ []) && l.all isD && (!decide (l.head? = some 48) || decide (l = [48]))
def topL (l : List Nat) : Bool := if l.take 1 = [45] then cntL (l.drop 1) && !decide (l = [45, 48]) else cntL l
def valL (l : List Nat) : Int := if l.take 1 = [45] then -((digitsVal (l.drop 1) : Nat) : Int) else ((digitsVal l : Nat) : Int)
/-- what is read of words: a fraction, or the place of the fault -/
def rdL : List (List Nat) → Except Int (Int × Int)
  | [] => .error 0
  | [a] => if topL a then .ok (valL a, 1) else .error 0
  | [a, b] => if topL a then (if cntL b && !decide (b = [48]) then .ok (valL a, valL b) else .error 1) else .error 0
  | _ :: _ :: _ :: _ => .error 0
theorem dig_of {l : List Nat} (h : l.all isD = true) : AllDigits l := fun c hc => of_decide_eq_true (List.all_eq_true.mp h c hc)
theorem cnt_of {l : List Nat} (h : cntL l = true) : AllDigits l ∧ l ≠ [] := by
  unfold cntL at h
  simp only [Bool.and_eq_true, decide_eq_true_eq] at h
  exact ⟨dig_of h.1.2, h.1.1⟩
theorem cnt_nominus {l : List Nat} (h : cntL l = true) : ¬ l.take 1 = [45] := fun e => by
  obtain ⟨h1, h2⟩ := cnt_of h
  cases l with
  | nil => exact h2 rfl
  | cons a l =>
    have e1 : a = 45 := by
      rw [List.take_succ_cons] at e
      exact (List.cons.inj e).1
    have := h1 a List.mem_cons_self
    omega
theorem val_cnt {l : List Nat} (h : cntL l = true) : valL l = ((digitsVal l : Nat) : Int) := by
  unfold valL
  rw [if_neg (cnt_nominus h)]
theorem int_top {z : Str} (h : topL (tl z) = true) (hz : z.length ≤ 640) : intText? z = some (valL (tl z)) := by
  unfold topL at h
  unfold valL
  by_cases hm : (tl z).take 1 = [45]
  · rw [if_pos hm] at h ⊢
    rw [Bool.and_eq_true] at h
    obtain ⟨h1, h2⟩ := cnt_of h.1
    refine intText_neg (cs := (tl z).drop 1) ?_ h1 h2 (Nat.le_trans hz (by decide))
    show tl z = 45 :: (tl z).drop 1
    cases e : tl z with
    | nil => rw [e] at hm; cases hm
    | cons a l =>
      rw [e, List.take_succ_cons] at hm
      rw [(List.cons.inj hm).1]
      rfl
  · rw [if_neg hm] at h ⊢
    obtain ⟨h1, h2⟩ := cnt_of h
    exact intText_digits h1 h2 (Nat.le_trans hz (by decide))
theorem int_cnt {z : Str} (h : cntL (tl z) = true) (hz : z.length ≤ 640) : intText? z = some (valL (tl z)) := by
  refine int_top ?_ hz
  unfold topL
  rw [if_neg (cnt_nominus h)]
  exact h
theorem fold_ge : ∀ (l : List Nat) (a : Nat), 1 ≤ a → 1 ≤ l.foldl (fun acc c => acc * 10 + (c - 48)) a
  | [], a, h => h
  | c :: l, a, h => by
    rw [List.foldl_cons]
    exact fold_ge l _ (by omega)
theorem fold_lt : ∀ (l : List Nat) (a : Nat), AllDigits l → l.foldl (fun acc c => acc * 10 + (c - 48)) a < (a + 1) * 10 ^ l.length
  | [], a, _ => by simp
  | c :: l, a, h => by
    rw [List.foldl_cons, List.length_cons]
    have hc := h c List.mem_cons_self
    have ih := fold_lt l (a * 10 + (c - 48)) fun d hd => h d (List.mem_cons_of_mem _ hd)
    refine Nat.lt_of_lt_of_le ih ?_
    rw [Nat.pow_succ, Nat.mul_comm (10 ^ l.length) 10, ← Nat.mul_assoc]
    exact Nat.mul_le_mul_right _ (by omega)
theorem val_pos {l : List Nat} (h : cntL l = true) (h0 : l ≠ [48]) : valL l ≠ 0 := by
  rw [val_cnt h]
  obtain ⟨h1, h2⟩ := cnt_of h
  cases l with
  | nil => exact absurd rfl h2
  | cons c l =>
    have hc := h1 c List.mem_cons_self
    have hne : c ≠ 48 := fun e => by
      unfold cntL at h
      rw [decide_eq_false h0, Bool.or_false, e] at h
      simp at h
    have : 1 ≤ digitsVal (c :: l) := by
      unfold digitsVal
      rw [List.foldl_cons]
      exact fold_ge l _ (by omega)
    omega
theorem val_lt {l : List Nat} (h : cntL l = true) (hl : l.length ≤ 640) : (valL l).natAbs < 2 ^ 2560 := by
  rw [val_cnt h]
  have := fold_lt l 0 (cnt_of h).1
  show (digitsVal l) < _
  unfold digitsVal
  refine Nat.lt_of_lt_of_le this ?_
  rw [Nat.zero_add, Nat.one_mul]
  refine Nat.le_trans (Nat.pow_le_pow_right (by decide) hl) ?_
  have e : (2 : Nat) ^ 2560 = (2 ^ 4) ^ 640 := by rw [← Nat.pow_mul]
  rw [e]
  exact Nat.pow_le_pow_left (by decide) 640
/-! cut at the slashes -/
theorem spl_len {S : List Nat} : ∀ (l acc : List Nat) (k : Nat), (∀ p ∈ spl S k acc l, p.length ≤ acc.length + l.length)
  | [], acc, k, p, hp => by
    rw [spl_nil] at hp
    rw [List.mem_singleton.mp hp]
    exact Nat.le_add_right _ _
  | c :: l, acc, 0, p, hp => by
    by_cases h : pre S (c :: l) = true
    · rw [spl_hit h] at hp
      rcases List.mem_cons.mp hp with rfl | hp
      · exact Nat.le_add_right _ _
      · have := spl_len l [] (S.length - 1) p hp
        rw [List.length_cons]
        simp only [List.length_nil] at this
        omega
    · rw [spl_miss (Bool.eq_false_iff.mpr h)] at hp
      have := spl_len l (acc ++ [c]) 0 p hp
      rw [List.length_append, List.length_singleton] at this
      rw [List.length_cons]
      omega
  | c :: l, acc, k + 1, p, hp => by
    have := spl_len l acc k p hp
    rw [List.length_cons]
    omega
theorem spl_ne {S : List Nat} : ∀ (l acc : List Nat) (k : Nat), spl S k acc l ≠ []
  | [], acc, k => by rw [spl_nil]; simp
  | c :: l, acc, 0 => by
    by_cases h : pre S (c :: l) = true
    · rw [spl_hit h]; simp
    · rw [spl_miss (Bool.eq_false_iff.mpr h)]; exact spl_ne l _ 0
  | c :: l, acc, k + 1 => spl_ne l acc k
/-- one sign: all of the text is there -/
theorem spl_sum {s : Nat} : ∀ (l acc : List Nat), ((spl [s] 0 acc l).map List.length).sum + (spl [s] 0 acc l).length = acc.length + l.length + 1
  | [], acc => by rw [spl_nil]; simp
  | c :: l, acc => by
    by_cases h : pre [s] (c :: l) = true
    · rw [spl_hit h]
      have := spl_sum (s := s) l []
      simp only [List.map_cons, List.sum_cons, List.length_cons, List.length_nil] at this ⊢
      show acc.length + ((spl [s] 0 [] l).map List.length).sum + ((spl [s] 0 [] l).length + 1) = _
      omega
    · rw [spl_miss (Bool.eq_false_iff.mpr h)]
      have := spl_sum (s := s) l (acc ++ [c])
      rw [List.length_append, List.length_singleton] at this
      rw [List.length_cons]
      omega
abbrev slash : Str := Str.ofString "/"
theorem tl_slash : tl slash = [47] := by rw [tl_ofString]; rfl
theorem slash_kind : slash.cps.all (· < 256) = true := by decide +kernel
def wordsOf (z : Str) : List Str := Txt.split z slash
theorem words_tl (z : Str) : (wordsOf z).map tl = spl [47] 0 [] (tl z) := by
  have h := split_spl z slash (by rw [tl_slash]; simp) (kind_ok slash_kind)
  rw [tl_slash] at h
  exact h
theorem words_ne (z : Str) : wordsOf z ≠ [] := fun e => by
  have := words_tl z
  rw [e] at this
  exact spl_ne _ _ _ this.symm
theorem words_le {z w : Str} (h : w ∈ wordsOf z) : w.length ≤ z.length := by
  rw [len_tl, len_tl]
  have := spl_len (S := [47]) (tl z) [] 0 (tl w) (by rw [← words_tl]; exact List.mem_map_of_mem h)
  simpa using this
theorem words_sum (z : Str) : ((wordsOf z).map (·.length)).sum + (wordsOf z).length = z.length + 1 := by
  have h := spl_sum (s := 47) (tl z) []
  rw [← words_tl, List.length_map, List.map_map] at h
  rw [len_tl z]
  have e : (wordsOf z).map (·.length) = (wordsOf z).map (List.length ∘ tl) := List.map_congr_left fun w _ => len_tl w
  rw [e]
  simpa using h
/-- what is read of a text -/
def rdS (z : Str) : Except Int (Int × Int) := rdL ((wordsOf z).map tl)
theorem rd_nz {z : Str} {a b : Int} (h : rdS z = .ok (a, b)) (hz : z.length ≤ 640) : b ≠ 0 ∧ b.natAbs < 2 ^ 2560 := by
  unfold rdS at h
  have hw : ∀ l ∈ (wordsOf z).map tl, l.length ≤ 640 := fun l hl => by
    obtain ⟨w, hw, rfl⟩ := List.mem_map.mp hl
    rw [← len_tl]
    exact Nat.le_trans (words_le hw) hz
  generalize (wordsOf z).map tl = ls at h hw
  match ls, h, hw with
  | [], h, _ => cases h
  | [x], h, _ =>
    replace h : (if topL x then Except.ok (valL x, 1) else .error 0 : Except Int (Int × Int)) = Except.ok (a, b) := h
    split at h
    · cases h
      exact ⟨by decide, Nat.lt_of_lt_of_le (show 1 < 2 ^ 1 by decide) (Nat.pow_le_pow_right (by decide) (by decide))⟩
    · cases h
  | [x, y], h, hw =>
    replace h : (if topL x then (if cntL y && !decide (y = [48]) then Except.ok (valL x, valL y) else .error 1) else .error 0 : Except Int (Int × Int)) = Except.ok (a, b) := h
    split at h
    · split at h
      · next hy =>
        cases h
        rw [Bool.and_eq_true] at hy
        exact ⟨val_pos hy.1 (by simpa using hy.2), val_lt hy.1 (hw y (List.mem_cons_of_mem _ List.mem_cons_self))⟩
      · cases h
    · cases h
  | _ :: _ :: _ :: _, h, _ => cases h
/-! the text of a number, read -/
def numT (i : Int) : Str := Str.ofString (toString i)
theorem tl_numT (i : Int) : tl (numT i) = if i < 0 then 45 :: numL i.natAbs else numL i.natAbs := by
  unfold numT
  cases i with
  | ofNat n =>
    exact (tl_num n).trans (if_neg (show ¬ Int.ofNat n < 0 from Int.not_lt.mpr (Int.natCast_nonneg n))).symm
  | negSucc n =>
    rw [if_pos (by omega), tl_ofString]
    show (toString (Int.negSucc n)).toList.map Char.toNat = _
    have e : toString (Int.negSucc n) = "-" ++ toString (n + 1) := rfl
    rw [e, String.toList_append, List.map_append]
    have h := tl_num (n + 1)
    rw [tl_ofString] at h
    have e2 : toString ((n + 1 : Nat) : Int) = toString (n + 1) := rfl
    rw [e2] at h
    rw [h]
    rfl
theorem numL_head {n : Nat} (h : 0 < n) : (numL n).head? ≠ some 48 := by
  induction n using Nat.strongRecOn with
  | _ n ih =>
    by_cases h10 : n < 10
    · rw [numL_lt h10]
      simp
      omega
    · rw [numL_step (by omega)]
      have := ih (n / 10) (by omega) (by omega)
      rw [List.head?_append]
      cases e : (numL (n / 10)).head? with
      | none => exact absurd (List.head?_eq_none_iff.mp e) (numL_ne _)
      | some c => rw [e] at this; simpa using this
theorem cnt_num (n : Nat) : cntL (numL n) = true := by
  unfold cntL
  rw [decide_eq_true (numL_ne n), Bool.true_and]
  have h : (numL n).all isD = true := List.all_eq_true.mpr fun c hc => decide_eq_true (numL_digits n c hc)
  rw [h, Bool.true_and]
  by_cases h0 : n = 0
  · subst h0
    rw [numL_lt (by decide)]
    rfl
  · rw [decide_eq_false (numL_head (by omega))]
    rfl
theorem num_48 {n : Nat} (h : numL n = [48]) : n = 0 := by
  have e := numL_val n
  rw [h] at e
  exact e.symm
theorem top_num (i : Int) : topL (tl (numT i)) = true := by
  rw [tl_numT]
  unfold topL
  by_cases h : i < 0
  · rw [if_pos h, if_pos (show List.take 1 (45 :: numL i.natAbs) = [45] from rfl)]
    show (cntL (numL i.natAbs) && !decide (45 :: numL i.natAbs = [45, 48])) = true
    rw [cnt_num, decide_eq_false (fun e => by
      have := num_48 (List.cons.inj e).2
      omega)]
    rfl
  · rw [if_neg h, if_neg (cnt_nominus (cnt_num _))]
    exact cnt_num _
theorem val_num (i : Int) : valL (tl (numT i)) = i := by
  rw [tl_numT]
  by_cases h : i < 0
  · rw [if_pos h]
    unfold valL
    rw [if_pos (show List.take 1 (45 :: numL i.natAbs) = [45] from rfl)]
    show -((digitsVal (numL i.natAbs) : Nat) : Int) = i
    rw [numL_val]
    omega
  · rw [if_neg h, val_cnt (cnt_num _), numL_val]
    omega
theorem num_free (i : Int) : 47 ∉ tl (numT i) := by
  rw [tl_numT]
  split
  · intro h
    rcases List.mem_cons.mp h with h | h
    · cases h
    · exact numL_free (.inl (by decide)) h
  · exact numL_free (.inl (by decide))
theorem words_one {z : Str} (h : 47 ∉ tl z) : wordsOf z = [z] := by
  have e := words_tl z
  rw [spl_last1 h] at e
  exact map_tl_inj (by rw [e]; rfl)
theorem words_two {x y : Str} (h1 : 47 ∉ tl x) (h2 : 47 ∉ tl y) : wordsOf (x ++ slash ++ y) = [x, y] := by
  have e := words_tl (x ++ slash ++ y)
  rw [tl_append, tl_append, tl_slash, List.append_assoc, spl_part1 (S := []) h1, spl_last1 h2] at e
  exact map_tl_inj (by rw [e]; rfl)
theorem rd_one (i : Int) : rdS (numT i) = .ok (i, 1) := by
  unfold rdS
  rw [words_one (num_free i)]
  show (if topL (tl (numT i)) then Except.ok (valL (tl (numT i)), 1) else .error 0) = _
  rw [top_num, val_num]
  rfl
theorem rd_two (i : Int) (n : Nat) (h : n ≠ 0) : rdS (numT i ++ slash ++ numT n) = .ok (i, (n : Int)) := by
  unfold rdS
  rw [words_two (num_free i) (num_free n)]
  show (if topL (tl (numT i)) then (if cntL (tl (numT n)) && !decide (tl (numT n) = [48]) then Except.ok (valL (tl (numT i)), valL (tl (numT n))) else .error 1) else .error 0) = _
  have e : tl (numT (n : Int)) = numL n := tl_num n
  rw [top_num, val_num, val_num, e, cnt_num, decide_eq_false (fun z => h (num_48 z))]
  rfl
theorem num_len (i : Int) {k : Nat} (hk : 0 < k) (h : i.natAbs < 10 ^ k) : (numT i).length ≤ k + 1 := by
  rw [len_tl, tl_numT]
  have := numL_len hk h
  split
  · rw [List.length_cons]; omega
  · omega
end W1
set_option maxRecDepth 100000
set_option maxHeartbeats 2000000
set_option exponentiation.threshold 20000
namespace W1
open PySem PySem.Spec PyProof.Rows L2 TL NumText

/-! ### the common draws -/
theorem mulB {x y : Int} {m n k : Nat} (hx : x.natAbs < 2 ^ m) (hy : y.natAbs < 2 ^ n) (h : m + n ≤ k := by decide) : (x * y).natAbs < 2 ^ k := by
  rw [Int.natAbs_mul]
  exact Nat.lt_of_lt_of_le (mul_lt2 hx hy) (Nat.pow_le_pow_right (by decide) h)
theorem addB {x y : Int} {m n k : Nat} (hx : x.natAbs < 2 ^ m) (hy : y.natAbs < 2 ^ n) (h1 : m < k := by decide) (h2 : n < k := by decide) : (x + y).natAbs < 2 ^ k :=
  Nat.lt_of_le_of_lt (Int.natAbs_add_le _ _) (add_lt2 hx hy h1 h2)
theorem negB {x : Int} {n : Nat} (h : x.natAbs < 2 ^ n) : (-x).natAbs < 2 ^ n := by rw [Int.natAbs_neg]; exact h
theorem upB {x : Int} {m n : Nat} (h : x.natAbs < 2 ^ m) (l : m ≤ n := by decide) : x.natAbs < 2 ^ n := Nat.lt_of_lt_of_le h (Nat.pow_le_pow_right (by decide) l)
theorem lt9000 {a n : Nat} (h : a < 2 ^ n) (hn : n ≤ 9000) : a < 2 ^ 9000 := Nat.lt_of_lt_of_le h (Nat.pow_le_pow_right (by decide) hn)
theorem log_lt {a n m : Nat} (h : a < 2 ^ n) (hn : n ≤ m) (hm : 0 < m) : a.log2 < m := by
  rcases Nat.eq_zero_or_pos a with e | e
  · subst e; exact hm
  · exact Nat.lt_of_lt_of_le ((Nat.log2_lt (by omega)).mpr h) hn
/-! texts and their signs -/
theorem str_iff {x y : Str} : x = y ↔ tl x = tl y := ⟨fun h => by rw [h], ext_tl⟩
theorem dec_str {x y : Str} : decide (x = y) = decide (tl x = tl y) := decide_eq_decide.mpr str_iff
theorem tl_one (c : Nat) : tl ⟨#[c]⟩ = [c] := rfl
theorem sIx_some1 (n d : Nat) : HT.sIx n d (some 1) = min 1 n := rfl
theorem tl_cut (z : Str) (lo hi : Option Int) : tl (cutS z lo hi) = ((tl z).drop (HT.sIx (tl z).length 0 lo)).take (HT.sIx (tl z).length (tl z).length hi - HT.sIx (tl z).length 0 lo) := by
  unfold cutS
  rw [len_tl]
theorem tl_head (z : Str) : tl (cutS z none (some 1)) = (tl z).take 1 := by
  rw [tl_cut, HT.sIx_none, sIx_some1]
  cases tl z with
  | nil => rfl
  | cons a l => simp
theorem tl_rest (z : Str) : tl (cutS z (some 1) none) = (tl z).drop 1 := by
  rw [tl_cut, HT.sIx_none, sIx_some1]
  cases tl z with
  | nil => rfl
  | cons a l => simp [List.take_of_length_le]
theorem cut_len (z : Str) (lo hi : Option Int) : (cutS z lo hi).length ≤ z.length := by
  rw [len_tl, tl_cut, len_tl, List.length_take, List.length_drop]
  omega
/-! f"{e1}..{e2}" of ints -/
section
variable {F : Fx} {ρ : Ty} {ω w w1 w2 : Ow} {a b : Expr} {i j : Int} {t : Str} {p1 p2 p3 p4 : Pos} {k : Nat} {c : Nat} {z : Str}
theorem app_empty (a : Str) : Str.empty ++ a = a := ext_tl (by rw [tl_append]; rfl)
theorem er_f3 (ha : ER F ρ ω a (rInt i) w1) (hb : ER F ρ w1 b (rInt j) w2) (hi : i.natAbs.log2 < 1920) (hj : j.natAbs.log2 < 1920) (ht : t.length ≤ 1000) : ER F ρ ω (.JoinedStr [.FormattedValue a (-1) none p1, .Constant (.str t) k p2, .FormattedValue b (-1) none p3] p4) (rStr (numT i ++ t ++ numT j)) w2 := fun σ G H at_ sl Q q => by
  have l1 := int_text_len_1921 hi
  have l2 := int_text_len_1921 hj
  refine ew_of (pe_joined (.cons (pe_fmt pe_w) (.cons pe_str (.cons (pe_fmt pe_w) .nil)))) (ha σ G H at_ sl _ fun x G1 H1 s1 a1 r1 => .inr ⟨i, r1, hi, ⟨_, rfl, ?_, t, rfl, ?_, ?_⟩⟩)
  · rw [app_empty]
    exact Nat.le_trans l1 (by decide)
  · rw [app_empty, strlen_app]
    exact Nat.le_trans (Nat.add_le_add l1 ht) (by decide)
  · refine hb σ G1 H1 a1 (sl.up s1) _ fun y G2 H2 s2 a2 r2 => .inr ⟨j, r2, hj, ⟨_, rfl, ?_, ?_⟩⟩
    · rw [app_empty, strlen_app, strlen_app]
      exact Nat.le_trans (Nat.add_le_add (Nat.add_le_add l1 ht) l2) (by decide)
    · have := q (.str (numT i ++ t ++ numT j)) G2 H2 (s1.trans s2) a2 rfl
      rw [app_empty]
      exact this
theorem bop_niC : Bop F w (compareOp .NotIn) (rStr ⟨#[c]⟩) (rStr z) (rBool (!decide (c ∈ z.cps.toList))) := bop_of op_notInS fun _ _ q => ⟨c, z, rfl, rfl, q⟩
end
theorem any_of {e : Nat → Bool} : ∀ {n i : Nat} (j : Nat), i ≤ j → j < i + n → e j = true → W1Q.anyFrom e i n = true
  | 0, i, j, h1, h2, _ => by omega
  | n + 1, i, j, h1, h2, h3 => by
    unfold W1Q.anyFrom
    by_cases h : i = j
    · subst h
      rw [h3, Bool.true_or]
    · rw [any_of (n := n) (i := i + 1) j (by omega) (by omega) h3, Bool.or_true]
theorem all_of {e : Nat → Bool} : ∀ {n i : Nat}, (∀ j, i ≤ j → j < i + n → e j = true) → W1Q.allFrom e i n = true
  | 0, i, _ => rfl
  | n + 1, i, h => by
    unfold W1Q.allFrom
    rw [h i (by omega) (by omega), Bool.true_and]
    exact all_of fun j h1 h2 => h j (by omega) (by omega)
section
variable {F : Fx} {w : Ow} {Rs : List Rl}
/-- l != [] -/
theorem bop_neE (hr : Room 1 F.X.A) : Bop F w (compareOp .NotEq) (rLst Rs) (rLst []) (rBool (!decide (Rs = []))) := by
  have h := bop_neL (F := F) (w := w) (Rs := Rs) (Ss := []) (e := fun _ => true) (n := 0) (fun i R S _ h2 => by simp at h2) hr
  cases Rs with
  | nil => exact h
  | cons a l => exact h
end
theorem list_eqV {F : Fx} {w : Ow} {xs ys : List V} (hx : ∀ x ∈ xs, flatV x = true) (hy : ∀ y ∈ ys, flatV y = true) (hr : Room 1 F.X.A) :
    ∃ e : Nat → Bool, (∀ (i : Nat) x y, xs[i]? = some x → ys[i]? = some y → e i = eqV x y) ∧ Bop F w (compareOp .Eq) (rLst (xs.map rEqV)) (rLst (ys.map rEqV)) (rBool (decide (xs.length = ys.length) && W1Q.allFrom e 0 xs.length)) := by
  refine ⟨fun i => match xs[i]?, ys[i]? with | some x, some y => eqV x y | _, _ => true, fun i x y h1 h2 => by simp only [h1, h2], ?_⟩
  have h := bop_eqL (F := F) (w := w) (Rs := xs.map rEqV) (Ss := ys.map rEqV) (n := 0) (e := fun i => match xs[i]?, ys[i]? with | some x, some y => eqV x y | _, _ => true) (fun i R S h1 h2 => ?_) hr
  · rw [List.length_map, List.length_map] at h
    exact h
  · rw [List.getElem?_map] at h1 h2
    cases e1 : xs[i]? with
    | none => rw [e1] at h1; cases h1
    | some x =>
      cases e2 : ys[i]? with
      | none => rw [e2] at h2; cases h2
      | some y =>
        rw [e1] at h1
        rw [e2] at h2
        cases h1
        cases h2
        exact eqb_val (hx x (List.mem_of_getElem? e1)) (hy y (List.mem_of_getElem? e2))
theorem list_same {F : Fx} {w : Ow} {xs : List V} (hx : ∀ x ∈ xs, flatV x = true) (hs : ∀ x ∈ xs, eqV x x = true) (hr : Room 1 F.X.A) : Bop F w (compareOp .Eq) (rLst (xs.map rEqV)) (rLst (xs.map rEqV)) (rBool true) := by
  obtain ⟨e, h1, h2⟩ := list_eqV (F := F) (w := w) hx hx hr
  rw [decide_eq_true rfl, Bool.true_and, all_of fun j _ hj => by
    have hj' : j < xs.length := by omega
    rw [h1 j _ _ (List.getElem?_eq_getElem hj') (List.getElem?_eq_getElem hj')]
    exact hs _ (List.getElem_mem hj')] at h2
  exact h2
end W1
set_option maxRecDepth 100000
set_option maxHeartbeats 2000000
set_option exponentiation.threshold 20000
namespace W1
open PySem PySem.Spec PyProof.Rows L2 TL NumText

/-! ### dicts: owned ones change, others are frozen for good -/
def valR (fs : List (Key × Rl)) (k : Key) : Option Rl := (fs.find? fun kv => decide (kv.1 = k)).map (·.2)
def putKR (fs : List (Key × Rl)) (k : Key) (R : Rl) : List (Key × Rl) := if (fs.any fun kv => decide (kv.1 = k)) = true then fs.map (fun kv => if kv.1 = k then (kv.1, R) else kv) else fs ++ [(k, R)]
theorem NR.val {k : Key} {H : Hp} : ∀ {fs : List (Key × Rl)} {vs : List (Key × V)}, NR fs vs H → (∀ R, valR fs k = some R → ∃ v, valV vs k = some v ∧ R.r v H) ∧ (valR fs k = none → valV vs k = none)
  | [], [], _ => ⟨fun R e => (by cases e), fun _ => rfl⟩
  | (j, S) :: fs, (j', v) :: vs, ⟨e, a, b⟩ => by
    subst e
    have ih := NR.val (k := k) b
    unfold valR valV at *
    rw [List.find?_cons, List.find?_cons]
    by_cases h : j = k
    · simp only [h, decide_true]
      refine ⟨fun R e => ⟨v, rfl, ?_⟩, fun e => (by cases e)⟩
      cases e
      exact a
    · simp only [h, decide_false]
      exact ih
  | [], _ :: _, h => h.elim
  | _ :: _, [], h => h.elim
theorem NR.any {k : Key} {H : Hp} : ∀ {fs : List (Key × Rl)} {vs : List (Key × V)}, NR fs vs H → (fs.any fun kv => decide (kv.1 = k)) = (vs.any fun kv => decide (kv.1 = k))
  | [], [], _ => rfl
  | (j, S) :: fs, (j', v) :: vs, ⟨e, a, b⟩ => by
    subst e
    rw [List.any_cons, List.any_cons, NR.any b]
  | [], _ :: _, h => h.elim
  | _ :: _, [], h => h.elim
theorem NR.app {κ : Type} {H : Hp} : ∀ {fs gs : List (κ × Rl)} {vs ws : List (κ × V)}, NR fs vs H → NR gs ws H → NR (fs ++ gs) (vs ++ ws) H
  | [], _, [], _, _, h => h
  | (_, _) :: _, _, (_, _) :: _, _, ⟨e, a, b⟩, h => ⟨e, a, NR.app b h⟩
  | [], _, _ :: _, _, h, _ => h.elim
  | _ :: _, _, [], _, h, _ => h.elim
theorem NR.putK {k : Key} {R : Rl} {v : V} {H : Hp} {fs : List (Key × Rl)} {vs : List (Key × V)} (h : NR fs vs H) (r : R.r v H) : NR (putKR fs k R) (L2.putK vs k v) H := by
  unfold putKR L2.putK
  rw [h.any]
  split
  · have go : ∀ {fs : List (Key × Rl)} {vs : List (Key × V)}, NR fs vs H → NR (fs.map fun kv => if kv.1 = k then (kv.1, R) else kv) (vs.map fun kv => if kv.1 = k then (kv.1, v) else kv) H := by
      intro fs
      induction fs with
      | nil =>
        intro vs h
        cases vs with
        | nil => exact trivial
        | cons _ _ => exact h.elim
      | cons x fs ih =>
        intro vs h
        cases vs with
        | nil => exact h.elim
        | cons y vs =>
          obtain ⟨j, S⟩ := x
          obtain ⟨j', u⟩ := y
          obtain ⟨e, a, b⟩ := h
          subst e
          rw [List.map_cons, List.map_cons]
          by_cases hj : j = k
          · simp only [hj, if_true]
            exact ⟨rfl, r, ih b⟩
          · simp only [hj, if_false]
            exact ⟨rfl, a, ih b⟩
    exact go h
  · exact h.app ⟨rfl, r, trivial⟩
theorem NR.keys {κ : Type} {H : Hp} : ∀ {fs : List (κ × Rl)} {vs : List (κ × V)}, NR fs vs H → vs.map (·.1) = fs.map (·.1)
  | [], [], _ => rfl
  | (j, S) :: fs, (j', v) :: vs, ⟨e, a, b⟩ => by
    subst e
    rw [List.map_cons, List.map_cons, NR.keys b]
  | [], _ :: _, h => h.elim
  | _ :: _, [], h => h.elim
def oD (fs : List (Key × Rl)) : Ol := ⟨fun o G => ∃ vs, o = .dK vs ∧ NR fs vs G, fun _ _ _ e ⟨vs, a, b⟩ => ⟨vs, a, b.up e⟩⟩
def rDct (fs : List (Key × Rl)) : Rl := ⟨fun v H => ∃ p od vs, v = .ref p ∧ H p = some (.frz od (.dK vs)) ∧ NR fs vs H, fun _ _ _ e ⟨p, od, vs, a, b, c⟩ => ⟨p, od, vs, a, e _ _ b, c.up e⟩⟩
/-- an owned one that is being walked -/
def oDF (fs : List (Key × Rl)) : Ol := ⟨fun o G => ∃ od vs, o = .frz od (.dK vs) ∧ NR fs vs G, fun _ _ _ e ⟨od, vs, a, b⟩ => ⟨od, vs, a, b.up e⟩⟩
/-- a dict that can be read -/
def IsDct (F : Fx) (A : Rl) (ω : Ow) (fs : List (Key × Rl)) : Prop := ∀ v G H, At F ω G H → A.r v G → ∃ p vs, v = .ref p ∧ Rd H p (.dK vs) ∧ NR fs vs G
theorem isd_frz {F : Fx} {ω : Ow} {fs : List (Key × Rl)} : IsDct F (rDct fs) ω fs := fun v G H at_ ⟨p, od, vs, e, h1, h2⟩ => ⟨p, vs, e, .inr ⟨od, at_.gh _ _ h1⟩, h2⟩
theorem isd_own {F : Fx} {ω : Ow} {fs : List (Key × Rl)} {q : Addr} (h : (q, oD fs) ∈ ω) : IsDct F (rRef q) ω fs := fun v G H at_ e => by
  obtain ⟨_, _, o, h1, vs, rfl, h2⟩ := at_.ow _ h
  exact ⟨q, vs, e, .inl h1, h2⟩
theorem isd_ownF {F : Fx} {ω : Ow} {fs : List (Key × Rl)} {q : Addr} (h : (q, oDF fs) ∈ ω) : IsDct F (rRef q) ω fs := fun v G H at_ e => by
  obtain ⟨_, _, o, h1, od, vs, rfl, h2⟩ := at_.ow _ h
  exact ⟨q, vs, e, .inr ⟨od, h1⟩, h2⟩
/-- the keys, as values -/
def kRs (fs : List (Key × Rl)) : List Rl := fs.map fun kv => rEqV (kV kv.1)
section
variable {X : Cx} {e : Expr} {st : List Stmt} {σ : L2.St} {H : Hp} {d : Addr} {u : HO} {D : Ends} {Q : VK}
theorem bw_lock (h : H d = some u) (mu : Mut (some u)) (k : ∀ od, BW X st D σ (upd H d (.frz od u))) : BW X st D σ H := fun pins s I => by
  obtain ⟨od, I1⟩ := I.lock h mu
  exact k od pins s I1
/-- what is made is frozen -/
theorem ew_lock (k : EW X e σ H fun v H1 => ∃ p u, v = .ref p ∧ H1 p = some u ∧ Mut (some u) ∧ ∀ od, Q v (upd H1 p (.frz od u))) : EW X e σ H Q := fun pins s I => by
  refine thn (k pins s I) fun v s1 ⟨x, H1, I1, r1, p, u, e1, e2, mu, q⟩ => ?_
  obtain ⟨od, I2⟩ := I1.lock e2 mu
  exact ⟨x, _, I2, r1, q od⟩
end
theorem At.pubF {F : Fx} {q : Addr} {O : Ol} {w : Ow} {G H : Hp} {o : HO} {od : Obj} (a : At F ((q, O) :: w) G H) (ho : H q = some o) (hq : F.H0 q = none) : At F w (upd G q (.frz od o)) (upd H q (.frz od o)) := by
  have hg : G q = none := (a.ow _ List.mem_cons_self).1
  have sg : Same G (upd G q (.frz od o)) := fun b u e => by rw [upd_ne (ne_of_none e hg)]; exact e
  have nd := List.nodup_cons.mp a.nd
  refine ⟨a.gg.trans sg, fun b u hb e => ?_, fun b u e => ?_, fun b h1 h2 => ?_, fun b hb => ?_, fun p hp => ?_, nd.2⟩
  · rw [upd_ne (fun z => by rw [z, hq] at e; cases e)]
    exact a.hh b u hb e
  · by_cases hb : b = q
    · subst hb
      rw [upd_same] at e ⊢
      exact e
    · rw [upd_ne hb] at e ⊢
      exact a.gh _ _ e
  · rw [upd_ne (fun z => h1 (by rw [z]; exact hq))]
    exact a.fr b h1 h2
  · by_cases z : b = q
    · rw [z, upd_same]; simp
    · rw [upd_ne z]; exact a.mm b hb
  · obtain ⟨x, y, u, z, c⟩ := a.ow p (List.mem_cons_of_mem _ hp)
    have ne : p.1 ≠ q := fun z => nd.1 (List.mem_map.mpr ⟨p, hp, z⟩)
    exact ⟨by rw [upd_ne ne]; exact x, y, u, by rw [upd_ne ne]; exact z, p.2.mo _ _ _ sg c⟩
/-- a new frozen thing -/
theorem Step.newF {G H : Hp} {p : Addr} {o : HO} (h : Same G H) (hp : H p = none) : Step G H (upd G p o) (upd H p o) := Step.new h hp
section
variable {F : Fx} {ρ ρ1 : Ty} {ω w w1 w2 w3 : Ow} {e o ix a b : Expr} {A R S : Rl} {Rs : List Rl} {O : Ol} {pos p apos p2 : Pos} {K : Kn} {rest : List Stmt} {q : Addr} {fs : List (Key × Rl)} {k : Key} {n : Nat}
theorem hb_pubD (i : Nat) (hi : ρ[i]? = some (some (rRef q))) (hM : q ∉ F.M) (h : HB F (ρ.set i (some (rDct fs))) w rest K) : HB F ρ ((q, oD fs) :: w) rest K := fun σ G H D at_ sl ps => by
  obtain ⟨hg0, _, o, h1, vs, rfl, h2⟩ := at_.ow _ List.mem_cons_self
  refine bw_lock h1 True.intro fun od => ?_
  have a := at_.pubF (od := od) h1 (At.own0 at_ hM)
  have sg : Same G (upd G q (.frz od (.dK vs))) := fun b u e => by rw [upd_ne (ne_of_none e hg0)]; exact e
  obtain ⟨v, hv, rv⟩ := sl.at_ i _ hi
  cases (show v = V.ref q from rv)
  have sl2 := (sl.up sg).set i (R := rDct fs) (v := .ref q) ⟨q, od, vs, rfl, upd_same, h2.up sg⟩
  have e : σ.set i (some (V.ref q)) = σ := by
    refine List.ext_getElem? fun j => ?_
    by_cases hj : i = j
    · subst hj
      rw [hv]
      exact List.getElem?_set_self (by
        cases Nat.lt_or_ge i σ.length with
        | inl z => exact z
        | inr z => rw [List.getElem?_eq_none z] at hv; cases hv)
    · rw [List.getElem?_set_ne hj]
  rw [e] at sl2
  exact h σ _ _ D a sl2 (ps.up sg)
/-- {} -/
theorem en_dict : EN F ρ ω (.Dict [] [] pos) (oD []) ω := fun σ G H at_ sl Q k =>
  ew_of pe_dnewK fun p hp => k p G _ (fun hm => at_.mm p hm hp) (Same.refl _) (at_.own hp ⟨[], rfl, trivial⟩)
/-- {}, to stay so -/
theorem er_dict0 : ER F ρ ω (.Dict [] [] pos) (rDct []) ω := fun σ G H at_ sl Q k =>
  ew_lock (ew_of pe_dnewK fun p hp => ⟨p, _, rfl, upd_same, True.intro, fun od => by
    rw [upd_upd]
    have st := Step.new (o := .frz od (.dK [])) at_.gh hp
    exact k _ _ _ st.gg (at_.step st) ⟨p, od, [], rfl, upd_same, trivial⟩⟩)
/-- d[k] = e -/
theorem hb_dput (he : ER F ρ ω e R w1) (ho : ER F ρ w1 o (rRef q) w2) (hi : ER F ρ w2 ix (rEqV (kV k)) ((q, oD fs) :: w3)) (hr : Room n F.X.A) (hz : fs.length ≤ 100000) (h : HB F ρ ((q, oD (putKR fs k R)) :: w3) rest K)
    (hs : swapsWith e (some (.Subscript o ix p2)) pos.line F.X.env = pure false := by rfl) : HB F ρ ω (.Assign [.Subscript o ix p2] e pos :: rest) K := hb_cons fun σ G H D at_ sl ps => by
  refine sw_of (ps_dput (by have := hr.units; omega) pe_w pe_w pe_w hs) (he σ G H at_ sl _ fun v G1 H1 s1 a1 r1 => ho σ G1 H1 a1 (sl.up s1) _ fun x G2 H2 s2 a2 r2 => hi σ G2 H2 a2 ((sl.up s1).up s2) _ fun y G3 H3 s3 a3 r3 => ?_)
  obtain ⟨_, _, ob, h1', vs, e1, h2⟩ := a3.ow _ List.mem_cons_self
  subst e1
  have s13 := (s1.trans s2).trans s3
  exact ⟨q, _, r2, .inl ⟨vs, k, h1', r3, Nat.lt_of_le_of_lt (by rw [← h2.len]; exact hz) (by decide), rfl⟩, h σ G3 _ D (a3.chg ⟨_, rfl, h2.putK (R.mo _ _ _ (s2.trans s3) r1)⟩) (sl.up s13) (ps.up s13)⟩
/-- d[k] -/
theorem er_dget (ho : ER F ρ ω o A w1) (hi : ER F ρ w1 ix (rEqV (kV k)) w2) (hd : IsDct F A w2 fs) (hR : valR fs k = some R) (hr : Room n F.X.A) (hs : NoSl ix := by exact fun _ _ => rfl) : ER F ρ ω (.Subscript o ix pos) R w2 := fun σ G H at_ sl Q z => by
  refine ew_of (pe_dget (by have := hr.units; omega) pe_w pe_w hs) (ho σ G H at_ sl _ fun x G1 H1 s1 a1 r1 => hi σ G1 H1 a1 (sl.up s1) _ fun y G2 H2 s2 a2 r2 => ?_)
  obtain ⟨p, vs, rfl, h1, h2⟩ := hd x G2 H2 a2 (A.mo _ _ _ s2 r1)
  obtain ⟨v, e1, e2⟩ := (h2.val (k := k)).1 R hR
  exact ⟨p, v, rfl, .inl ⟨vs, k, h1, r2, e1.symm⟩, z v G2 H2 (s1.trans s2) a2 e2⟩
/-- d.get(k, e) -/
theorem er_dget2 (ho : ER F ρ ω o A w1) (hi : ER F ρ w1 a (rEqV (kV k)) w2) (he : ER F ρ w2 b S w3) (hd1 : IsDct F A w1 fs) (hd : IsDct F A w3 fs) (hr : Room n F.X.A) (m : M2 F.X o "get" apos a b pos := by exact ⟨rfl, rfl, rfl, rfl⟩) : ER F ρ ω (.Call (.Attribute o "get" apos) [a, b] [] pos) ((valR fs k).getD S) w3 := fun σ G H at_ sl Q z => by
  refine ew_of (pe_dget2 (by have := hr.units; omega) pe_w pe_w pe_w m) (ho σ G H at_ sl _ fun x G1 H1 s1 a1 r1 => ?_)
  obtain ⟨p0, vs0, rfl, h0, _⟩ := hd1 x G1 H1 a1 r1
  refine ⟨p0, rfl, .inl ⟨vs0, h0⟩, hi σ G1 H1 a1 (sl.up s1) _ fun y G2 H2 s2 a2 r2 => he σ G2 H2 a2 ((sl.up s1).up s2) _ fun c G3 H3 s3 a3 r3 => ?_⟩
  have s23 := s2.trans s3
  obtain ⟨p, vs, e0, h1, h2⟩ := hd _ G3 H3 a3 (A.mo _ _ _ s23 r1)
  cases e0
  refine ⟨valV vs k, .inl ⟨vs, k, h1, r2, rfl⟩, ?_⟩
  cases e : valR fs k with
  | some R =>
    obtain ⟨v, e1, e2⟩ := (h2.val (k := k)).1 R e
    rw [e1]
    rw [e] at z
    exact z v G3 H3 (s1.trans s23) a3 e2
  | none =>
    rw [(h2.val (k := k)).2 e]
    rw [e] at z
    exact z c G3 H3 (s1.trans s23) a3 r3
theorem isSome_val {H : Hp} {vs : List (Key × V)} (h2 : NR fs vs H) : (valV vs k).isSome = (valR fs k).isSome := by
  cases e : valR fs k with
  | some R =>
    obtain ⟨v, e1, e2⟩ := (h2.val (k := k)).1 R e
    rw [e1]
    rfl
  | none => rw [(h2.val (k := k)).2 e]; rfl
/-- k in d -/
theorem er_din (hi : ER F ρ ω a (rEqV (kV k)) w1) (ho : ER F ρ w1 b A w2) (hd : IsDct F A w2 fs) (hr : Room n F.X.A) (hm : behindInMarks .In b = false := by rfl) : ER F ρ ω (.Compare a [.In] [b] pos) (rBool (valR fs k).isSome) w2 := fun σ G H at_ sl Q z => by
  refine ew_of (pe_cmp (pc_din (by have := hr.units; omega) pe_w pe_w) hm) (hi σ G H at_ sl _ fun y G1 H1 s1 a1 r1 => ho σ G1 H1 a1 (sl.up s1) _ fun x G2 H2 s2 a2 r2 => ?_)
  obtain ⟨p, vs, rfl, h1, h2⟩ := hd x G2 H2 a2 r2
  refine ⟨p, valV vs k, rfl, .inl ⟨vs, k, h1, r1, rfl⟩, ?_⟩
  rw [isSome_val h2]
  exact z _ G2 H2 (s1.trans s2) a2 rfl
theorem er_dni (hi : ER F ρ ω a (rEqV (kV k)) w1) (ho : ER F ρ w1 b A w2) (hd : IsDct F A w2 fs) (hr : Room n F.X.A) (hm : behindInMarks .NotIn b = false := by rfl) : ER F ρ ω (.Compare a [.NotIn] [b] pos) (rBool (!(valR fs k).isSome)) w2 := fun σ G H at_ sl Q z => by
  refine ew_of (pe_cmp (pc_dnotin (by have := hr.units; omega) pe_w pe_w) hm) (hi σ G H at_ sl _ fun y G1 H1 s1 a1 r1 => ho σ G1 H1 a1 (sl.up s1) _ fun x G2 H2 s2 a2 r2 => ?_)
  obtain ⟨p, vs, rfl, h1, h2⟩ := hd x G2 H2 a2 r2
  refine ⟨p, valV vs k, rfl, .inl ⟨vs, k, h1, r1, rfl⟩, ?_⟩
  rw [isSome_val h2]
  exact z _ G2 H2 (s1.trans s2) a2 rfl
/-- list(d) -/
theorem kvals {H : Hp} : ∀ {fs : List (Key × Rl)} {vs : List (Key × V)}, NR fs vs H → All2 (kRs fs) (vs.map fun kv => kV kv.1) H
  | [], [], _ => trivial
  | (j, S) :: fs, (j', v) :: vs, ⟨e, a, b⟩ => by
    subst e
    exact ⟨rfl, kvals b⟩
  | [], _ :: _, h => h.elim
  | _ :: _, [], h => h.elim
theorem cop_listD (hc : F.X.calm = true) (hd : IsDct F A w fs) : Cop F w (.type "list") [A] (rLst (kRs fs)) := ⟨_, call_listD hc, fun xs G H at_ hx Q z => by
  obtain ⟨x, rfl, hx1⟩ := all1 hx
  obtain ⟨p, vs, rfl, h1, h2⟩ := hd x G H at_ hx1
  refine ⟨p, vs, rfl, h1, fun l hl => ?_⟩
  have st := Step.new (o := .lst (vs.map fun kv => kV kv.1)) at_.gh hl
  exact z _ _ _ st.gg (at_.step st) ⟨l, _, rfl, upd_same, (kvals h2).up st.gg⟩⟩
/-- dict(d), a new one that is owned -/
theorem en_copyD {x : Str} {p0 : Pos} (he : AR F ρ ω [e] [A] w1) (hd : IsDct F A w1 fs) (hg : Gl F.X x) (hm : F.X.mg x = none) (hv : bootBuiltins x = some (.type "dict")) (hn : x ≠ "__name__" := by decide) (hdb : (x == ("__debug__" : Str)) = false := by decide)
    (hs : starEach [e] F.X.env = (false, eval e F.X.env) :: starEach [] F.X.env := by rfl) (hpl : (backTo pos (starEach [] F.X.env)).any (·.1) = false := by rfl) : EN F ρ ω (.Call (.Name x p0) [e] [] pos) (oD fs) w1 := fun σ G H at_ sl Q k => by
  refine ew_of (pe_callTy call_dictD hg hm hv pa_w hn hdb hs hpl) (he σ G H at_ sl _ fun us G1 H1 s1 a1 r1 => ?_)
  obtain ⟨v, rfl, rv⟩ := all1 r1
  obtain ⟨p, vs, rfl, h1, h2⟩ := hd v G1 H1 a1 rv
  exact ⟨p, vs, rfl, h1, fun q hq => k q G1 _ (fun hm => a1.mm q hm hq) s1 (a1.own hq ⟨vs, rfl, h2⟩)⟩
/-- for k in d -/
theorem it_keys {tg it : Expr} (he : ER F ρ ω it (rDct fs) w1) : IT F ρ ω tg it (kRs fs) w1 := ⟨_, pi_keys pe_w, fun σ G H at_ sl R k => he σ G H at_ sl _ fun v G2 H2 s a r => by
  obtain ⟨p, od, vs, rfl, h1, h2⟩ := r
  have hl : (kRs fs).length = vs.length := by unfold kRs; rw [List.length_map, h2.len]
  refine ⟨p, od, rfl, .inl ⟨vs, a.gh _ _ h1, k _ G2 H2 s a ⟨fun i G' H' s1 s2 hi => ?_, fun G' H' s1 s2 => ?_, fun i R G' H' x H'' s1 s2 hR y => ?_⟩⟩⟩
  · exact ⟨s2 _ _ (s1 _ _ h1), by rw [← hl]; exact hi⟩
  · rw [hl]
    exact ⟨s2 _ _ (s1 _ _ h1), Nat.le_refl _⟩
  · have hi : i < (kRs fs).length := (List.getElem?_eq_some_iff.mp hR).1
    obtain ⟨rfl, kk, vv, e1, rfl⟩ := y
    have e2 := (kvals h2).get hR
    obtain ⟨u, e3, e4⟩ := e2
    rw [List.getElem?_map, e1] at e3
    cases e3
    exact ⟨G', Step.refl s2, R.mo _ _ _ s1 e4⟩⟩
end
end W1
set_option maxRecDepth 100000
set_option maxHeartbeats 2000000
set_option exponentiation.threshold 20000
namespace W1
open PySem PySem.Spec PyProof.Rows L2 TL NumText

/-! ### new things, to stay as they are -/
section
variable {F : Fx} {ρ : Ty} {ω w w1 : Ow} {e : Expr} {fs : List (Key × Rl)} {Rs : List Rl}
/-- a new dict is frozen -/
theorem er_frz (h : EN F ρ ω e (oD fs) w1) : ER F ρ ω e (rDct fs) w1 := fun σ G H at_ sl Q z =>
  ew_lock (h σ G H at_ sl _ fun q G2 H2 hM s2 a2 => by
    obtain ⟨hg0, _, o, h1, vs, rfl, h2⟩ := a2.ow _ List.mem_cons_self
    refine ⟨q, _, rfl, h1, True.intro, fun od => ?_⟩
    have sg : Same G2 (upd G2 q (.frz od (.dK vs))) := fun b u e => by rw [upd_ne (ne_of_none e hg0)]; exact e
    exact z _ _ _ (s2.trans sg) (a2.pubF (od := od) h1 (At.own0 a2 hM)) ⟨q, od, vs, rfl, upd_same, h2.up sg⟩)
/-- a new list is published -/
theorem er_pubL (h : EN F ρ ω e (oL Rs) w1) : ER F ρ ω e (rLst Rs) w1 := fun σ G H at_ sl Q z =>
  h σ G H at_ sl _ fun q G2 H2 hM s2 a2 => by
    obtain ⟨hg0, _, o, h1, vs, rfl, h2⟩ := a2.ow _ List.mem_cons_self
    have sg : Same G2 (upd G2 q (.lst vs)) := fun b u e => by rw [upd_ne (ne_of_none e hg0)]; exact e
    exact z _ _ _ (s2.trans sg) (At.pub a2 h1 (At.own0 a2 hM)) ⟨q, vs, rfl, upd_same, h2.up sg⟩
end
/-! ### dict comprehensions -/
def dcR {α : Type} (kf : α → Key) (B : α → Rl) (xs : List α) : List (Key × Rl) := xs.foldl (fun acc a => putKR acc (kf a) (B a)) []
theorem putKR_len (fs : List (Key × Rl)) (k : Key) (R : Rl) : (putKR fs k R).length ≤ fs.length + 1 := by
  unfold putKR
  split
  · rw [List.length_map]; omega
  · rw [List.length_append]; simp
theorem dcR_snoc {α : Type} (kf : α → Key) (B : α → Rl) (xs : List α) (a : α) : dcR kf B (xs ++ [a]) = putKR (dcR kf B xs) (kf a) (B a) := by
  unfold dcR
  rw [List.foldl_append]
  rfl
theorem fold_putKR_len {α : Type} (kf : α → Key) (B : α → Rl) : ∀ (xs : List α) (acc : List (Key × Rl)), (xs.foldl (fun acc a => putKR acc (kf a) (B a)) acc).length ≤ acc.length + xs.length
  | [], acc => by simp
  | a :: xs, acc => by
    rw [List.foldl_cons, List.length_cons]
    have h1 := fold_putKR_len kf B xs (putKR acc (kf a) (B a))
    have h2 := putKR_len acc (kf a) (B a)
    omega
theorem dcR_len {α : Type} (kf : α → Key) (B : α → Rl) (xs : List α) : (dcR kf B xs).length ≤ xs.length := by
  have := fold_putKR_len kf B xs []
  simpa [dcR] using this
section
variable {F : Fx} {ρ : Ty} {ω w1 : Ow} {tg it kx vx c : Expr} {pos spos : Pos} {scope : Scope} {own : List (Str × Nat)} {g : TG} {ifs : List Expr} {α : Type}
theorem dc_gen {xs : List α} {A B : α → Rl} {kf : α → Key} {p : α → Bool} {wi : TI} {tt : TT} {ρ' : α → Ty}
    (hwi : ∀ σ G H, At F ω G H → Slots ρ σ G → ∀ R : It → Hp → Prop, (∀ J G2 H2, Same G G2 → At F w1 G2 H2 → Yld J (xs.map A) G2 → R J H2) → wi σ H R) (hz : xs.length ≤ 100000)
    (hge : ∀ (i : Nat) a, xs[i]? = some a → GEw g (own.map (·.2)) ρ (A a) (ρ' a))
    (htt : ∀ (i : Nat) a, xs[i]? = some a → ∀ d σ2 G H, At F (d :: w1) G H → Slots (ρ' a) σ2 G → ∀ Q : Bool → Hp → Prop, (∀ G3 H3, Same G G3 → At F (d :: w1) G3 H3 → Q (p a) H3) → tt σ2 H Q)
    (hk : ∀ (i : Nat) a, xs[i]? = some a → p a = true → ∀ s H0 C cl fp d, ER (blkF F s H0 scope C cl fp) (ρ' a) (d :: w1) kx (rEqV (kV (kf a))) (d :: w1))
    (he : ∀ (i : Nat) a, xs[i]? = some a → p a = true → ∀ s H0 C cl fp d, ER (blkF F s H0 scope C cl fp) (ρ' a) (d :: w1) vx (B a) (d :: w1))
    {σ : L2.St} {G H : Hp} (at_ : At F ω G H) (sl : Slots ρ σ G) {Q : VK} (q : ∀ D G2 H2, D ∉ F.M → Same G G2 → At F ((D, oD (dcR kf B (xs.filter p))) :: w1) G2 H2 → Q (.ref D) H2) :
    tDc wi g tt (fun σ H Q => ∀ s H0 C cl fp, EW (F.X.blk s H0 scope (compEnvC scope cl C F.X.env) fp) kx σ H Q) (fun σ H Q => ∀ s H0 C cl fp, EW (F.X.blk s H0 scope (compEnvC scope cl C F.X.env) fp) vx σ H Q) (own.map (·.2)) σ H Q := by
  refine hwi σ G H at_ sl _ fun J G2 H2 s2 a2 y2 => fun D hD => ?_
  have hM : D ∉ F.M := fun hm => a2.mm D hm hD
  refine ⟨fun i m H => m = xs.length - i ∧ i ≤ xs.length ∧ ∃ G, At F ((D, oD (dcR kf B ((xs.take i).filter p))) :: w1) G H ∧ Same G2 G, ⟨xs.length, by simp, Nat.zero_le _, G2, a2.own hD ⟨[], rfl, trivial⟩, Same.refl _⟩, ?_⟩
  rintro i m H1 ⟨rfl, hi, G1, a1, s1⟩
  have hlen : (xs.map A).length = xs.length := List.length_map _
  by_cases hlt : i < xs.length
  · have hgo : xs[i]? = some xs[i] := List.getElem?_eq_getElem hlt
    have htake : xs.take (i + 1) = xs.take i ++ [xs[i]] := by rw [List.take_add_one, hgo]; rfl
    refine .inr ⟨y2.go i G1 H1 s1 a1.gh (by rw [hlen]; exact hlt), fun H' => ∃ G, At F ((D, oD (dcR kf B ((xs.take (i + 1)).filter p))) :: w1) G H' ∧ Same G2 G, fun H' z => ⟨xs.length - (i + 1), by omega, rfl, hlt, z⟩, fun x H' y => ?_⟩
    obtain ⟨G3, st, rx⟩ := y2.yld i (A xs[i]) G1 H1 x H' s1 a1.gh (by rw [List.getElem?_map, hgo]; rfl) y
    have a3 := a1.step st
    have s3 := s1.trans st.gg
    refine hge i _ hgo x σ G3 H' _ a3.gh ((sl.up s2).up s3) rx fun σ2 hw sl2 => ⟨hw, htt i _ hgo _ σ2 G3 H' a3 sl2 _ fun G4 H4 s4 a4 => ?_⟩
    cases hp : p xs[i] with
    | false =>
      refine iteF ⟨G4, ?_, s3.trans s4⟩
      rw [htake, List.filter_append, List.filter_cons, hp]
      simp only [Bool.false_eq_true, if_false, List.filter_nil, List.append_nil]
      exact a4
    | true =>
      refine iteT fun s H0 C cl fp => hk i _ hgo hp s H0 C cl fp _ σ2 G4 H4 a4.to (sl2.up s4) _ fun y G5 H5 s5 a5 r5 => fun s' H0' C' cl' fp' => he i _ hgo hp s' H0' C' cl' fp' _ σ2 G5 H5 (At.to (F := blkF F s H0 scope C cl fp) a5) ((sl2.up s4).up s5) _ fun v G6 H6 s6 a6' r6 => ?_
      have a6 : At F ((D, oD (dcR kf B ((xs.take i).filter p))) :: w1) G6 H6 := a6'.to
      obtain ⟨_, _, o, h1, vs, rfl, h2⟩ := a6.ow _ List.mem_cons_self
      have hl2 : vs.length ≤ xs.length := by
        rw [← h2.len]
        refine Nat.le_trans (dcR_len _ _ _) (Nat.le_trans (List.length_filter_le _ _) ?_)
        rw [List.length_take]
        omega
      refine ⟨vs, kf xs[i], r5, h1, Nat.lt_of_le_of_lt (Nat.le_trans hl2 hz) (by decide), G6, ?_, ((s3.trans s4).trans s5).trans s6⟩
      rw [htake, List.filter_append, List.filter_cons, hp]
      simp only [if_true, List.filter_nil]
      rw [dcR_snoc]
      exact a6.chg ⟨_, rfl, h2.putK r6⟩
  · have e : i = xs.length := by omega
    subst e
    refine .inl ⟨by have := y2.stop G1 H1 s1 a1.gh; rw [hlen] at this; exact this, ?_⟩
    rw [List.take_length] at a1
    exact q D G1 H1 hM (s2.trans s1) a1
/-- {k: v for tg in it if c} -/
theorem en_dcf {xs : List α} {A B : α → Rl} {kf : α → Key} {p : α → Bool} {ρ' : α → Ty} (hit : IT F ρ ω tg it (xs.map A) w1) (hz : xs.length ≤ 100000) (own : List (Str × Nat)) (ok : BlkOk F.X.N F.X.env.scope scope own)
    (hpg : ∀ (s : Shared) (H : Hp) (C : Addr) (cl : List (Str × Addr)) (fp : List Addr), PG (F.X.blk s H scope (compEnvC scope cl C F.X.env) fp) tg g) (hge : ∀ (i : Nat) a, xs[i]? = some a → GEw g (own.map (·.2)) ρ (A a) (ρ' a))
    (ht : ∀ (i : Nat) a, xs[i]? = some a → ∀ s H0 C cl fp d, TR (blkF F s H0 scope C cl fp) (ρ' a) (d :: w1) c (p a) (d :: w1))
    (hk : ∀ (i : Nat) a, xs[i]? = some a → p a = true → ∀ s H0 C cl fp d, ER (blkF F s H0 scope C cl fp) (ρ' a) (d :: w1) kx (rEqV (kV (kf a))) (d :: w1))
    (he : ∀ (i : Nat) a, xs[i]? = some a → p a = true → ∀ s H0 C cl fp d, ER (blkF F s H0 scope C cl fp) (ρ' a) (d :: w1) vx (B a) (d :: w1))
    (hN : F.X.N.Nodup) (hc : F.X.calm = true := by rfl) (hs : ∀ z, foldedSetIterable it F.X.env z = pure z := by intro _; rfl) : EN F ρ ω (.DictComp kx vx [⟨tg, it, [c], 0⟩] scope pos) (oD (dcR kf B (xs.filter p))) w1 := fun σ G H at_ sl Q q => by
  obtain ⟨wi, hpi, hwi⟩ := hit
  refine ew_of (pe_dc hc hN hpi ok hpg (fun _ _ _ _ _ => pts_one (t := fun σ H Q => ∀ s H0 C cl fp, TW (F.X.blk s H0 scope (compEnvC scope cl C F.X.env) fp) c σ H Q) ⟨fun pins s σ H Q I h => h _ _ _ _ _ pins s I⟩) (tk := fun σ H Q => ∀ s H0 C cl fp, EW (F.X.blk s H0 scope (compEnvC scope cl C F.X.env) fp) kx σ H Q) (fun _ _ _ _ _ => ⟨fun pins s σ H Q I h => h _ _ _ _ _ pins s I⟩) (tv := fun σ H Q => ∀ s H0 C cl fp, EW (F.X.blk s H0 scope (compEnvC scope cl C F.X.env) fp) vx σ H Q) (fun _ _ _ _ _ => ⟨fun pins s σ H Q I h => h _ _ _ _ _ pins s I⟩) hs) ?_
  exact dc_gen hwi hz hge (fun i a h d σ2 G H a1 s1 Q q => fun s H0 C cl fp => ht i a h s H0 C cl fp d σ2 G H a1.to s1 Q fun G3 H3 s3 a3 => q G3 H3 s3 a3.to) (fun i a h hp => hk i a h hp) (fun i a h hp => he i a h hp) at_ sl q
/-- {k: v for tg in it} -/
theorem en_dc {xs : List α} {A B : α → Rl} {kf : α → Key} {ρ' : α → Ty} (hit : IT F ρ ω tg it (xs.map A) w1) (hz : xs.length ≤ 100000) (own : List (Str × Nat)) (ok : BlkOk F.X.N F.X.env.scope scope own)
    (hpg : ∀ (s : Shared) (H : Hp) (C : Addr) (cl : List (Str × Addr)) (fp : List Addr), PG (F.X.blk s H scope (compEnvC scope cl C F.X.env) fp) tg g) (hge : ∀ (i : Nat) a, xs[i]? = some a → GEw g (own.map (·.2)) ρ (A a) (ρ' a))
    (hk : ∀ (i : Nat) a, xs[i]? = some a → ∀ s H0 C cl fp d, ER (blkF F s H0 scope C cl fp) (ρ' a) (d :: w1) kx (rEqV (kV (kf a))) (d :: w1))
    (he : ∀ (i : Nat) a, xs[i]? = some a → ∀ s H0 C cl fp d, ER (blkF F s H0 scope C cl fp) (ρ' a) (d :: w1) vx (B a) (d :: w1))
    (hN : F.X.N.Nodup) (hc : F.X.calm = true := by rfl) (hs : ∀ z, foldedSetIterable it F.X.env z = pure z := by intro _; rfl) : EN F ρ ω (.DictComp kx vx [⟨tg, it, [], 0⟩] scope pos) (oD (dcR kf B xs)) w1 := fun σ G H at_ sl Q q => by
  obtain ⟨wi, hpi, hwi⟩ := hit
  refine ew_of (pe_dc hc hN hpi ok hpg (fun _ _ _ _ _ => pts_nil) (tk := fun σ H Q => ∀ s H0 C cl fp, EW (F.X.blk s H0 scope (compEnvC scope cl C F.X.env) fp) kx σ H Q) (fun _ _ _ _ _ => ⟨fun pins s σ H Q I h => h _ _ _ _ _ pins s I⟩) (tv := fun σ H Q => ∀ s H0 C cl fp, EW (F.X.blk s H0 scope (compEnvC scope cl C F.X.env) fp) vx σ H Q) (fun _ _ _ _ _ => ⟨fun pins s σ H Q I h => h _ _ _ _ _ pins s I⟩) hs) ?_
  refine dc_gen (p := fun _ => true) (tt := tYes) hwi hz hge (fun i a h d σ2 G H a1 s1 Q q => q G H (Same.refl _) a1) (fun i a h _ => hk i a h) (fun i a h _ => he i a h) at_ sl fun D G2 H2 hM s2 a2 => ?_
  rw [filt_true] at a2
  exact q D G2 H2 hM s2 a2
end
end W1
set_option maxRecDepth 100000
set_option maxHeartbeats 2000000
set_option exponentiation.threshold 20000
namespace W1
open PySem PySem.Spec PyProof.Rows L2 TL NumText

/-! ### names in order -/
def leS (a b : Str) : Bool := decide (tl a ≤ tl b)
def srt (xs : List Str) : List Str := xs.mergeSort leS
theorem leS_trans (a b c : Str) : leS a b = true → leS b c = true → leS a c = true := fun h1 h2 => decide_eq_true (List.le_trans (of_decide_eq_true h1) (of_decide_eq_true h2))
theorem leS_total (a b : Str) : (leS a b || leS b a) = true := by
  rw [Bool.or_eq_true]
  rcases List.le_total (tl a) (tl b) with h | h
  · exact .inl (decide_eq_true h)
  · exact .inr (decide_eq_true h)
theorem leS_anti {a b : Str} (h1 : leS a b = true) (h2 : leS b a = true) : a = b := ext_tl (List.le_antisymm (of_decide_eq_true h1) (of_decide_eq_true h2))
theorem srt_perm (xs : List Str) : (srt xs).Perm xs := List.mergeSort_perm xs leS
theorem srt_pair (xs : List Str) : (srt xs).Pairwise fun a b => leS a b = true := List.pairwise_mergeSort leS_trans leS_total xs
theorem rising_pair : ∀ (l : List Str) (p : Str), risingS p l = true → (p :: l).Pairwise fun a b => leS a b = true
  | [], p, _ => List.pairwise_cons.mpr ⟨fun _ h => (by cases h), List.Pairwise.nil⟩
  | x :: l, p, h => by
    have h' : (!PySem.Spec.ltCps x.cps.toList p.cps.toList && risingS x l) = true := h
    rw [Bool.and_eq_true] at h'
    have ih := rising_pair l x h'.2
    have e : leS p x = true := by
      have h1 : PySem.Spec.ltCps x.cps.toList p.cps.toList = false := by simpa using h'.1
      rw [ltCps_eq] at h1
      exact decide_eq_true (List.not_lt.mp (of_decide_eq_false h1))
    refine List.pairwise_cons.mpr ⟨fun y hy => ?_, ih⟩
    rcases List.mem_cons.mp hy with rfl | hy
    · exact e
    · exact leS_trans _ _ _ e ((List.pairwise_cons.mp ih).1 y hy)
theorem srt_only {xs ys : List Str} (h : ys.Perm xs) (s : sortedS ys = true) : ys = srt xs := by
  refine List.Perm.eq_of_pairwise (le := fun a b => leS a b = true) (fun a b _ _ h1 h2 => leS_anti h1 h2) ?_ (srt_pair xs) (h.trans (srt_perm xs).symm)
  cases ys with
  | nil => exact .nil
  | cons p l => exact rising_pair l p s
section
variable {F : Fx} {w : Ow} {A : Rl} {xs : List Str}
theorem cop_sortedS (hz : xs.length < 64) : Cop F w (.builtin "sorted") [rLst (xs.map rStr)] (rLst ((srt xs).map rStr)) := ⟨_, cr_sortedS, fun us G H at_ hx Q q => by
  obtain ⟨x, rfl, p, vs, rfl, h1, h2⟩ := all1 hx
  rw [str_vals h2] at h1
  refine ⟨p, xs, rfl, SqL.of (at_.gh _ _ h1), hz, fun ys l hp hs hl => ?_⟩
  rw [srt_only hp hs]
  have st := Step.new (o := .lst ((srt xs).map V.str)) at_.gh hl
  exact q _ _ _ st.gg (at_.step st) ⟨l, _, rfl, upd_same, vals_str _⟩⟩
end
end W1
set_option maxRecDepth 100000
set_option maxHeartbeats 2000000
set_option exponentiation.threshold 20000
namespace W1
open PySem PySem.Spec PyProof.Rows L2 TL NumText

/-! ### == of dicts whose values are plain -/
def deq : List (Key × V) → List (Key × V) → Bool
  | [], _ => true
  | (k, v) :: r, ls => match valV ls k with
    | none => false
    | some y => eqV v y && deq r ls
def eqD (ks ls : List (Key × V)) : Bool := decide (ks.length = ls.length) && deq ks ls
/-- a dict of plain values -/
abbrev fsV (ks : List (Key × V)) : List (Key × Rl) := ks.map fun p => (p.1, rEqV p.2)
theorem nr_vals {H : Hp} : ∀ {ks vs : List (Key × V)}, NR (fsV ks) vs H → vs = ks
  | [], [], _ => rfl
  | (k, v) :: ks, (k', u) :: vs, ⟨e, a, b⟩ => by
    rw [nr_vals b, ← e, show u = v from a]
  | [], _ :: _, h => h.elim
  | _ :: _, [], h => h.elim
theorem hits_gen {A : Around} {s : Shared} {ls : List (Key × V)} {vb : List (Key × Value)} (rb : KV ls vb) (fl : ∀ p ∈ ls, flatV p.2 = true) {ks : List (Key × V)} {va : List (Key × Value)} (ra : KV ks va) : (∀ p ∈ ks, flatV p.2 = true) → PySem.W.KeqHits A s vb va (deq ks ls) := by
  unfold KV at ra
  induction ra with
  | nil => intro _; exact .nil
  | @cons p q ps qs h t ih =>
    intro hp
    obtain ⟨h1, h2⟩ := h
    have f := hp p List.mem_cons_self
    have ih' := ih fun x hx => hp x (List.mem_cons_of_mem _ hx)
    obtain ⟨k, v⟩ := p
    obtain ⟨k', u⟩ := q
    have e : k = k' := h1
    subst e
    have rr : RelO (valV ls k) (valueAt vb k) := rb.val k
    cases e : valV ls k with
    | none =>
      rw [e] at rr
      have hn : valueAt vb k = none := by
        cases e2 : valueAt vb k with
        | none => rfl
        | some y => rw [e2] at rr; exact rr.elim
      have ed : deq ((k, v) :: ps) ls = false := by unfold deq; rw [e]
      rw [ed]
      exact .miss hn
    | some y =>
      rw [e] at rr
      obtain ⟨z, hz, rz⟩ := rr.some_of
      have ed : deq ((k, v) :: ps) ls = (eqV v y && deq ps ls) := by
        conv => lhs; unfold deq
        rw [e]
      rw [ed]
      have fy : flatV y = true := by
        unfold valV at e
        cases e3 : ls.find? fun kv => decide (kv.1 = k) with
        | none => rw [e3] at e; cases e
        | some w =>
          rw [e3] at e
          cases e
          exact fl w (List.mem_of_find?_eq_some e3)
      exact .hit hz (eqAt_V h2 rz f fy) ih'
def rEqDV : R2 := fun x y H Q => ∃ a b ks ls, x = .ref a ∧ y = .ref b ∧ Rd H a (.dK ks) ∧ Rd H b (.dK ls) ∧ (∀ p ∈ ks, flatV p.2 = true) ∧ (∀ p ∈ ls, flatV p.2 = true) ∧ Q (.bl (eqD ks ls)) H
def rNeDV : R2 := fun x y H Q => ∃ a b ks ls, x = .ref a ∧ y = .ref b ∧ Rd H a (.dK ks) ∧ Rd H b (.dK ls) ∧ (∀ p ∈ ks, flatV p.2 = true) ∧ (∀ p ∈ ls, flatV p.2 = true) ∧ Q (.bl (!eqD ks ls)) H
section
variable {X : Cx}
theorem op_eqDV (hu : X.A.units < cLine) : OpR X (compareOp .Eq) rEqDV := by
  intro pins s σ H x y v u Q I rx ry h
  obtain ⟨a, b, ks, ls, rfl, rfl, ea, eb, fa, fb, q⟩ := h
  obtain rfl : v = Value.ref a := rx
  obtain rfl : u = Value.ref b := ry
  obtain ⟨_, ya, va, ra, da⟩ := dk_rd I.hok ea
  obtain ⟨_, yb, vb, rb, db⟩ := dk_rd I.hok eb
  have l1 := ra.length
  have l2 := rb.length
  exact PySem.W.keq_eq (knd := mixKind X.prog X.w) (r := deq ks ls) ya yb da db hu (fun _ => hits_gen rb fb ra fa) (fin_bl I q (by unfold eqD; rw [← l1, ← l2]; congr 1))
theorem op_neDV (hu : X.A.units < cLine) : OpR X (compareOp .NotEq) rNeDV := by
  intro pins s σ H x y v u Q I rx ry h
  obtain ⟨a, b, ks, ls, rfl, rfl, ea, eb, fa, fb, q⟩ := h
  obtain rfl : v = Value.ref a := rx
  obtain rfl : u = Value.ref b := ry
  obtain ⟨_, ya, va, ra, da⟩ := dk_rd I.hok ea
  obtain ⟨_, yb, vb, rb, db⟩ := dk_rd I.hok eb
  have l1 := ra.length
  have l2 := rb.length
  exact PySem.W.keq_ne (knd := mixKind X.prog X.w) (r := deq ks ls) ya yb da db hu (fun _ => hits_gen rb fb ra fa) (fin_bl I q (by unfold eqD; rw [← l1, ← l2]; congr 2))
end
section
variable {F : Fx} {w : Ow} {A B : Rl} {ks ls : List (Key × V)} {n : Nat}
theorem bop_eqDV (ha : IsDct F A w (fsV ks)) (hb : IsDct F B w (fsV ls)) (fa : ∀ p ∈ ks, flatV p.2 = true) (fb : ∀ p ∈ ls, flatV p.2 = true) (hr : Room n F.X.A) : Bop F w (compareOp .Eq) A B (rBool (eqD ks ls)) := ⟨_, op_eqDV hr.units0, fun x y G H at_ hx hy Q q => by
  obtain ⟨a, vs, rfl, h1, h2⟩ := ha x G H at_ hx
  obtain ⟨b, ws, rfl, h3, h4⟩ := hb y G H at_ hy
  rw [nr_vals h2] at h1
  rw [nr_vals h4] at h3
  exact ⟨a, b, ks, ls, rfl, rfl, h1, h3, fa, fb, q _ G H (Same.refl _) at_ rfl⟩⟩
theorem bop_neDV (ha : IsDct F A w (fsV ks)) (hb : IsDct F B w (fsV ls)) (fa : ∀ p ∈ ks, flatV p.2 = true) (fb : ∀ p ∈ ls, flatV p.2 = true) (hr : Room n F.X.A) : Bop F w (compareOp .NotEq) A B (rBool (!eqD ks ls)) := ⟨_, op_neDV hr.units0, fun x y G H at_ hx hy Q q => by
  obtain ⟨a, vs, rfl, h1, h2⟩ := ha x G H at_ hx
  obtain ⟨b, ws, rfl, h3, h4⟩ := hb y G H at_ hy
  rw [nr_vals h2] at h1
  rw [nr_vals h4] at h3
  exact ⟨a, b, ks, ls, rfl, rfl, h1, h3, fa, fb, q _ G H (Same.refl _) at_ rfl⟩⟩
end
end W1
set_option maxRecDepth 100000
set_option maxHeartbeats 2000000
set_option exponentiation.threshold 20000
namespace W1
open PySem PySem.Spec PyProof.Rows L2 TL NumText

/-! ### several clauses, each with its name -/
structure AsC where
  c : Value
  i : Nat
  ts : Addr → Value → Option Addr → TS
def goneD (D : Ends) (i : Nat) : Ends := { nx := fun τ J => D.nx (τ.set i none) J, rt := D.rt, bk := fun τ J => D.bk (τ.set i none) J, ct := fun τ J => D.ct (τ.set i none) J }
def wAsM (K : PySem.W.Frag) (W : WX) (D : Ends) : List AsC → WX
  | [] => W
  | z :: r => fun cls d τ J => ∃ b, PySem.W.exmOne K cls z.c = some b ∧ (b = true → ∀ a, J a = none → z.ts a cls d (goneD D z.i) (τ.set z.i (some (.ref a))) J) ∧ (b = false → wAsM K W D r cls d τ J)
inductive AsOk (X : Cx) : List ExceptHandler → List AsC → Prop
  | nil : AsOk X [] []
  | cons {x n : Str} {c : Value} {i : Nat} {ts : Addr → Value → Option Addr → TS} {b₀ : Stmt} {sts : List Stmt} {p p' : Pos} {hds : List ExceptHandler} {l : List AsC} (ni : X.N[i]? = some n) (lo : X.env.kindOf n = some .local) (nm : Names X x c)
      (su : ∀ (a : Addr) (oe : Obj) (cls : Value) (d : Option Addr) (pn : List (Addr × Obj)), Zc cls d oe → (∃ vs, oe.data = .fields vs) → PSs (X.suite a ((a, oe) :: pn)) (b₀ :: sts) (ts a cls d)) (r : AsOk X hds l) :
      AsOk X (.ExceptHandler (some (.Name x p)) (some n) (b₀ :: sts) p' :: hds) (⟨c, i, ts⟩ :: l)
section
variable {X : Cx} {body : List Stmt} {h₀ : ExceptHandler} {hds : List ExceptHandler} {l : List AsC} {pos : Pos} {tb : WX → TS} {W : WX}
theorem ps_tryM (es : X.stack = X.env :: X.outer) (ef : X.env.frame = some X.env.locals) (nd : X.N.Nodup) (tw : Takes X W)
    (hb : ∀ (V : WX) (pn : List (Addr × Obj)) (xe : Value → Shared → Prop), Takes (X.tr pn xe) V → PassesOwn (model X.prog X.w) X.A X.env xe → PSs (X.tr pn xe) body (tb V)) (ok : AsOk X (h₀ :: hds) l) :
    PS X (.Try body (h₀ :: hds) [] [] pos) (fun D τ J => tb (wAsM X.K W D l) D τ J) := by
  refine ⟨fun pins s τ J D I want => ?_⟩
  have kk := I.ok
  have fr0 : X.A.frames = some (X.env :: X.outer) := es ▸ kk.frames
  refine wpAny_Try_except (wpAny_mono ((hb (wAsM X.K W D l) (X.pn ++ pins) (fun e t1 => wpAny (model X.prog X.w) X.A (noteFrame e X.env) (fun _ t2 => wpAny (model X.prog X.w) X.A (setFlight e none) (fun _ t3 =>
    wpAny (model X.prog X.w) X.A (handleBy e X.env (h₀ :: hds)) (SP X pins D) X.xe t3) X.xe t2) X.xe t1) (fun u t xx => ?_) PassesOwn.looking).run [] s τ J D (I.toTry _) want) (fun fl t1 done => ?_) (fun _ _ z => z))
  · obtain ⟨a, B, t0, pins0, τ', J', cls, d, rfl, Iz, nb, up, sky, na, os, ag, w⟩ := xx
    have I' : Inv X pins τ' J' t0 := Iz.ofTry kk
    show wpAny (model X.prog X.w) X.A (noteFrame (.ref a) X.env) _ _ _
    refine Sky.land Zc.steady fr0 ef (by rw [← es]; exact sky) fun g3 la3 up3 => ?_
    have I3 : Inv X pins τ' J' { t with heap := g3 } := I'.landed nb la3.1 (up.trans up3) os ag
    obtain ⟨o3, v3, ho3, hz3, hv3⟩ := la3.there
    have out : a ∉ frs (X.env :: X.outer) := fun mem => by
      obtain ⟨_, ob, eo, nf⟩ := la3.2.2.1.mem mem
      rw [ho3] at eo
      cases eo
      exact nf _ hv3
    have n1 : a ≠ X.env.locals := fun z => out (List.mem_filterMap.mpr ⟨X.env, List.mem_cons_self, by rw [ef, z]⟩)
    have n2 : a ∉ X.fs := fun mem => by
      obtain ⟨e, me, q⟩ := List.mem_filterMap.mp mem
      exact out (List.mem_filterMap.mpr ⟨e, List.mem_cons_of_mem _ me, q⟩)
    have U3 := I3.suite ho3 hv3 na n1 n2
    have walk : ∀ {hs' : List ExceptHandler} {l' : List AsC}, AsOk X hs' l' → wAsM X.K W D l' cls d τ' J' → wpAny (model X.prog X.w) X.A (handleBy (.ref a) X.env hs') (SP X pins D) X.xe { t with heap := g3 } := by
      intro hs' l' ok'
      induction ok' with
      | nil =>
        intro w'
        refine wpAny_handleBy_nil ?_
        obtain ⟨_, _, _, oe, vs, T, _, _, eo, _, ev, e1, _⟩ := id la3
        unfold PySem.passOn
        refine wpAny_bind (wpAny_field eo ev e1 ?_)
        rw [if_neg (by simp : ¬ ((Value.ref T == Value.none) = true))]
        have last : wpAny (model X.prog X.w) X.A (setFlight (.ref a) X.env.frame) (fun _ t4 => wpAny (model X.prog X.w) X.A (throw (.ref a) : Sem Flow) (SP X pins D) X.xe t4) X.xe { t with heap := g3 } := by
          rw [ef]
          refine HandSPX.setFlight_upZ la3 fun g4 q4 up4 => wpAny_throw (tw _ _ ⟨a, B, t0, pins, τ', J', cls, d, rfl, I', nb, (up.trans up3).trans up4, .inr (.inr (by rw [es]; exact q4)), na, os, ag, w'⟩)
        first
          | exact wpAny_bind (wpAny_pure (wpAny_bind last))
          | exact wpAny_bind last
      | @cons x n c i ts b₀ sts p p' hds2 l2 ni lo nm su r ih =>
        rintro ⟨b, eb, yes, no⟩
        refine wpAny_handleBy_cons (codeAny_handlers_test ?_) (fun q => by cases q)
        have hit := PySem.W.exm_one (M := model X.prog X.w) I3.kIn (fun A Q E s k q => wpAny_typeOf_ref (k _ _ ho3) (by rw [hz3.1]; exact q)) eb
        have named : ∀ {Q E : Value → Shared → Prop}, Q c { t with heap := g3 } → wpAny (model X.prog X.w) (X.A.mark (some (.ref a))) (eval (.Name x p) X.env) Q E { t with heap := g3 } := fun {Q E} q => by
          obtain ⟨hg, hd, hm | ⟨hm, hv, hn⟩⟩ := nm
          · exact ld_glob (X := X.suite a ((a, o3) :: (X.pn ++ pins))) U3 hg hm q hd
          · exact ld_blt (X := X.suite a ((a, o3) :: (X.pn ++ pins))) U3 hg hm hv q hn hd
        refine named (hit.here ?_)
        cases b with
        | false => exact ih (no rfl)
        | true =>
          refine codeAny_handlers_suite_as (HandSPX.lands_againZ la3 fun g4 la4 up4 => ?_)
          have I4 : Inv X pins τ' J' { t with heap := g4 } := I'.landed nb la4.1 ((up.trans up3).trans up4) os ag
          obtain ⟨o4, v4, ho4, hz4, hv4⟩ := la4.there
          refine store_ok (X := X.suite a ((a, o4) :: (X.pn ++ pins))) (v := .ref a) (I4.suite ho4 hv4 na n1 n2) nd ni (.inl lo) rfl (fun t5 U5 => ?_) (.inr lo)
          refine wpAny_mono ((su a o4 cls d (X.pn ++ pins) hz4 ⟨_, hv4⟩).run [] t5 _ J' _ U5 (yes rfl a na)) (fun fl t6 res => ?_) (fun _ _ z => z.elim)
          have fin : ∀ {τ6 : L2.St} {J6 : Hp} {Q : Shared → Prop}, Inv (X.suite a ((a, o4) :: (X.pn ++ pins))) [] τ6 J6 t6 → (∀ t7, Inv X pins (τ6.set i none) J6 t7 → Q t7) → wpAny (model X.prog X.w) X.A (do bindName X.env n .none; unbindBehindTheSuite X.env n p') (fun _ t7 => Q t7) X.xe t6 :=
            fun {τ6 J6 Q} U6 k => gone_ok (U6.unsuite kk) nd ni lo k
          cases fl with
          | next => obtain ⟨_, _, U6, q6⟩ := res; exact fin U6 fun _ I7 => ⟨_, _, I7, q6⟩
          | brk => obtain ⟨_, _, U6, q6⟩ := res; exact fin U6 fun _ I7 => ⟨_, _, I7, q6⟩
          | cont => obtain ⟨_, _, U6, q6⟩ := res; exact fin U6 fun _ I7 => ⟨_, _, I7, q6⟩
          | ret u => obtain ⟨_, _, _, U6, r6, q6⟩ := res; exact fin U6 fun _ I7 => ⟨_, _, _, I7, r6, q6⟩
    exact walk ok w
  · cases fl with
    | next => obtain ⟨_, _, I', q⟩ := done; exact wpAny_execs_nil ⟨_, _, I'.ofTry kk, q⟩
    | brk => obtain ⟨_, _, I', q⟩ := done; exact ⟨_, _, I'.ofTry kk, q⟩
    | cont => obtain ⟨_, _, I', q⟩ := done; exact ⟨_, _, I'.ofTry kk, q⟩
    | ret u => obtain ⟨_, _, _, I', r, q⟩ := done; exact ⟨_, _, _, I'.ofTry kk, r, q⟩
end
end W1
set_option maxRecDepth 100000
set_option maxHeartbeats 2000000
set_option exponentiation.threshold 20000
namespace W1
open PySem PySem.Spec PyProof.Rows L2 TL NumText

/-- a clause: the class's name, the class, the slot, its name, the suite -/
structure Cla where
  x : Str
  c : Value
  i : Nat
  n : Str
  b₀ : Stmt
  sts : List Stmt
  p : Pos
  p' : Pos
def Cla.hd (z : Cla) : ExceptHandler := .ExceptHandler (some (.Name z.x z.p)) (some z.n) (z.b₀ :: z.sts) z.p'
/-- where an exception of the body goes -/
def exM (F : Fx) (K : Kn) (rest : List Stmt) : List Cla → Ty → Ow → Er → Prop
  | [], ρ, ω, P => K.ex ρ ω P
  | z :: r, ρ, ω, P =>
    (∃ C fld R, (∀ cls d G, P cls d G → erF C fld R cls d G) ∧ PySem.W.exmOne F.X.K (.ref C) z.c = some true ∧ ∀ a dd F', InSuite F F' a (.ref C) (some dd) → HB F' (ρ.set z.i (some (rExc a dd fld R))) ω (z.b₀ :: z.sts) (K.suite F rest z.i)) ∨
    ((∀ cls d G, P cls d G → PySem.W.exmOne F.X.K cls z.c = some false) ∧ exM F K rest r ρ ω P)
def Kn.tryM (K : Kn) (F : Fx) (rest : List Stmt) (cs : List Cla) : Kn := { nx := fun ρ ω => HB F ρ ω rest K, rt := K.rt, bk := K.bk, ct := K.ct, ex := exM F K rest cs }
section
variable {F : Fx} {ρ : Ty} {ω : Ow} {K : Kn} {rest body : List Stmt} {pos : Pos}
def tsM (X : Cx) (z : Cla) : Addr → Value → Option Addr → TS := fun a cls d D σ H => ∀ oe pn, Zc cls d oe → (∃ vs, oe.data = .fields vs) → BW (X.suite a ((a, oe) :: pn)) (z.b₀ :: z.sts) D σ H
theorem asOk_of {cs : List Cla} (h : ∀ z ∈ cs, F.X.N[z.i]? = some z.n ∧ F.X.env.kindOf z.n = some .local ∧ Names F.X z.x z.c) : AsOk F.X (cs.map Cla.hd) (cs.map fun z => ⟨z.c, z.i, tsM F.X z⟩) := by
  induction cs with
  | nil => exact .nil
  | cons z cs ih =>
    obtain ⟨h1, h2, h3⟩ := h z List.mem_cons_self
    exact .cons h1 h2 h3 (fun a oe cls d pn zc hd => ⟨fun pins s σ H D I k => k oe pn zc hd pins s I⟩) (ih fun y hy => h y (List.mem_cons_of_mem _ hy))
theorem exM_to {D : Ends} {G : Hp} {P : Er} {cls : Value} {d : Option Addr} {σ : L2.St} {G1 H1 : Hp} (ps : Post F K D G) (s : Same G G1) (a : At F ω G1 H1) (sl : Slots ρ σ G1) (hP : P cls d G1) :
    ∀ {cs : List Cla}, exM F K rest cs ρ ω P → wAsM F.X.K F.W { D with nx := BW F.X rest D } (cs.map fun z => ⟨z.c, z.i, tsM F.X z⟩) cls d σ H1
  | [], h => ps.ex ρ ω P h cls d σ G1 H1 s a sl hP
  | z :: cs, .inl ⟨C, fld, R, k1, k2, k3⟩ => by
    obtain ⟨rfl, dd, v, rfl, e1, e2⟩ := k1 _ _ _ hP
    refine ⟨true, k2, fun _ ax hna oe pn' zc hd => ?_, fun y => absurd y (by decide)⟩
    refine k3 ax dd ⟨F.X.suite ax ((ax, oe) :: pn'), F.G0, F.H0, F.M, fun _ _ _ _ => False, fun _ _ ⟨_, _, _, _, _, _, _, _, _, _, _, _, _, _, _, _, y⟩ => y.elim⟩ ⟨⟨oe, pn', rfl, zc, hd⟩, rfl, rfl, rfl⟩ _ G1 H1 _ a.to (sl.set z.i ⟨rfl, v, e1, e2⟩) ?_
    exact ⟨fun ρ ω k σ' G2 H2 s2 a sl => k _ G2 H2 D a.to (sl.gone z.i) (ps.up (s.trans s2)), fun R ω k v G2 H2 s2 a r => ps.rt R ω k v G2 H2 (s.trans s2) a.to r, fun ρ ω k σ' G2 H2 s2 a sl => ps.bk _ ω k _ G2 H2 (s.trans s2) a.to (sl.gone z.i), fun ρ ω k σ' G2 H2 s2 a sl => ps.ct _ ω k _ G2 H2 (s.trans s2) a.to (sl.gone z.i), fun _ _ _ k => k.elim⟩
  | z :: cs, .inr ⟨k1, k2⟩ => ⟨false, k1 _ _ _ hP, fun y => absurd y (by decide), fun _ => exM_to ps s a sl hP k2⟩
/-- try: .. except A as e: .. except B as e: .. -/
theorem hb_tryM (z : Cla) (cs : List Cla) (hb : ∀ F', InTry F F' → HB F' ρ ω body (K.tryM F rest (z :: cs))) (hs : F.X.stack = F.X.env :: F.X.outer) (hf : F.X.env.frame = some F.X.env.locals) (hN : F.X.N.Nodup)
    (h : ∀ y ∈ z :: cs, F.X.N[y.i]? = some y.n ∧ F.X.env.kindOf y.n = some .local ∧ Names F.X y.x y.c) : HB F ρ ω (.Try body (z.hd :: cs.map Cla.hd) [] [] pos :: rest) K := hb_cons fun σ G H D at_ sl ps => by
  refine sw_of (ps_tryM hs hf hN F.tk (tb := fun W D σ H => ∀ pn xe, Takes (F.X.tr pn xe) W → PassesOwn (model F.X.prog F.X.w) F.X.A F.X.env xe → BW (F.X.tr pn xe) body D σ H) (fun W pn xe tk pa => ⟨fun pins s σ H D I h => h pn xe tk pa pins s I⟩) (asOk_of (cs := z :: cs) h)) ?_
  intro pn xe tk pa
  exact hb ⟨F.X.tr pn xe, F.G0, F.H0, F.M, _, tk⟩ ⟨⟨pn, xe, rfl, pa⟩, rfl, rfl, rfl⟩ σ G H _ at_.to sl ⟨fun ρ ω k σ' G' H' s a sl => k σ' G' H' D a.to sl (ps.up s), fun R ω k v G' H' s a r => ps.rt R ω k v G' H' s a.to r, fun ρ ω k σ' G' H' s a sl => ps.bk ρ ω k σ' G' H' s a.to sl, fun ρ ω k σ' G' H' s a sl => ps.ct ρ ω k σ' G' H' s a.to sl, fun ρ ω P k cls d σ' G' H' s a sl hP => exM_to ps s a.to sl hP k⟩
end
end W1
set_option maxRecDepth 100000
set_option maxHeartbeats 2000000
set_option exponentiation.threshold 20000
namespace W1
open PySem PySem.Spec PyProof.Rows L2 TL NumText

/-! ### what is only known to be there: opened -/
def rEx {α : Type} (A : α → Rl) : Rl := ⟨fun v H => ∃ a, (A a).r v H, fun v H H' e ⟨a, h⟩ => ⟨a, (A a).mo v H H' e h⟩⟩
def oEx {α : Type} (O : α → Ol) : Ol := ⟨fun o H => ∃ a, (O a).c o H, fun o H H' e ⟨a, h⟩ => ⟨a, (O a).mo o H H' e h⟩⟩
section
variable {F : Fx} {ρ ρ' : Ty} {ω w w1 w2 : Ow} {e a b : Expr} {R S : Rl} {K : Kn} {rest : List Stmt} {q : Addr} {O O' : Ol} {α β : Type} {pos : Pos}
theorem hb_ex {A : α → Rl} (i : Nat) (hi : ρ[i]? = some (some (rEx A))) (h : ∀ a, HB F (ρ.set i (some (A a))) ω rest K) : HB F ρ ω rest K := fun σ G H D at_ sl ps => by
  obtain ⟨v, hv, a, ha⟩ := sl.at_ i _ hi
  have sl2 := sl.set i (R := A a) (v := v) ha
  have e : σ.set i (some v) = σ := by
    refine List.ext_getElem? fun j => ?_
    by_cases hj : i = j
    · subst hj
      rw [hv]
      exact List.getElem?_set_self (by
        cases Nat.lt_or_ge i σ.length with
        | inl z => exact z
        | inr z => rw [List.getElem?_eq_none z] at hv; cases hv)
    · rw [List.getElem?_set_ne hj]
  rw [e] at sl2
  exact h a σ G H D at_ sl2 ps
/-- an owned thing, told otherwise -/
theorem At.weak (h : ∀ o G, O.c o G → O'.c o G) {G H : Hp} (a : At F ((q, O) :: w) G H) : At F ((q, O') :: w) G H := by
  refine ⟨a.gg, a.hh, a.gh, a.fr, a.mm, fun p hp => ?_, a.nd⟩
  rcases List.mem_cons.mp hp with rfl | hp
  · obtain ⟨h1, h2, o, h3, h4⟩ := a.ow (q, O) List.mem_cons_self
    exact ⟨h1, h2, o, h3, h _ _ h4⟩
  · exact a.ow p (List.mem_cons_of_mem _ hp)
theorem hb_weakO (h : ∀ o G, O.c o G → O'.c o G) (k : HB F ρ ((q, O') :: w) rest K) : HB F ρ ((q, O) :: w) rest K := fun σ G H D at_ sl ps => k σ G H D (at_.weak h) sl ps
theorem hb_exO {B : α → Ol} (h : ∀ a, HB F ρ ((q, B a) :: w) rest K) : HB F ρ ((q, oEx B) :: w) rest K := fun σ G H D at_ sl ps => by
  obtain ⟨h1, h2, o, h3, a, h4⟩ := at_.ow (q, oEx B) List.mem_cons_self
  refine h a σ G H D ⟨at_.gg, at_.hh, at_.gh, at_.fr, at_.mm, fun p hp => ?_, at_.nd⟩ sl ps
  rcases List.mem_cons.mp hp with rfl | hp
  · exact ⟨h1, h2, o, h3, h4⟩
  · exact at_.ow p (List.mem_cons_of_mem _ hp)
theorem er_weakO (h : ∀ o G, O.c o G → O'.c o G) (k : ER F ρ ω e R ((q, O) :: w)) : ER F ρ ω e R ((q, O') :: w) := fun σ G H at_ sl Q z => k σ G H at_ sl Q fun v G2 H2 s a r => z v G2 H2 s (a.weak h) r
theorem er_exO {B : α → Ol} (h : ∀ a, ER F ρ ((q, B a) :: w) e R w1) : ER F ρ ((q, oEx B) :: w) e R w1 := fun σ G H at_ sl Q z => by
  obtain ⟨h1, h2, o, h3, a, h4⟩ := at_.ow (q, oEx B) List.mem_cons_self
  refine h a σ G H ⟨at_.gg, at_.hh, at_.gh, at_.fr, at_.mm, fun p hp => ?_, at_.nd⟩ sl Q z
  rcases List.mem_cons.mp hp with rfl | hp
  · exact ⟨h1, h2, o, h3, h4⟩
  · exact at_.ow p (List.mem_cons_of_mem _ hp)
/-- operators on what is only known to be there -/
theorem bop_ex {f : Value → Value → Sem Value} {A : α → Rl} {B : β → Rl} {C : α → β → Rl} (h : ∀ x y, Bop F w f (A x) (B y) (C x y)) (ho : ∃ r : R2, OpR F.X f r ∧ ∀ x y u v G H, At F w G H → (A x).r u G → (B y).r v G → ∀ Q : VK, (∀ z G2 H2, Same G G2 → At F w G2 H2 → (C x y).r z G2 → Q z H2) → r u v H Q) : Bop F w f (rEx A) (rEx B) (rEx fun p : α × β => C p.1 p.2) := by
  obtain ⟨r, h1, h2⟩ := ho
  exact ⟨r, h1, fun u v G H at_ ⟨x, hx⟩ ⟨y, hy⟩ Q q => h2 x y u v G H at_ hx hy Q fun z G2 H2 s a rz => q z G2 H2 s a ⟨(x, y), rz⟩⟩
end
end W1
set_option maxRecDepth 100000
set_option maxHeartbeats 2000000
set_option exponentiation.threshold 20000
namespace W1
open PySem PySem.Spec PyProof.Rows L2 TL NumText

/-! ### len(d), d.clear() -/
theorem call_lenR {X : Cx} : CallR X (.builtin "len") (fun xs H Q => ∃ a kvs, xs = [V.ref a] ∧ Rd H a (.dK kvs) ∧ Q (.int kvs.length) H) := by
  intro pins s σ H xs us Q I r want
  obtain ⟨a, kvs, rfl, ea, q⟩ := want
  obtain ⟨u, rfl, ru⟩ := vals1 r
  cases ru
  exact d_len I ea fun t s' I' => ⟨.int kvs.length, H, I', ⟨t, rfl⟩, q⟩
section
variable {F : Fx} {ρ : Ty} {ω w w1 w2 : Ow} {o : Expr} {A : Rl} {fs : List (Key × Rl)} {K : Kn} {rest : List Stmt} {q : Addr} {pos p apos : Pos}
theorem cop_lenD (hd : IsDct F A w fs) : Cop F w (.builtin "len") [A] (rInt (fs.length : Int)) := ⟨_, call_lenR, fun xs G H at_ hx Q k => by
  obtain ⟨x, rfl, hx1⟩ := all1 hx
  obtain ⟨a, vs, rfl, h1, h2⟩ := hd x G H at_ hx1
  refine ⟨a, vs, rfl, h1, ?_⟩
  have e : (vs.length : Int) = (fs.length : Int) := by rw [h2.len]
  rw [e]
  exact k _ G H (Same.refl _) at_ rfl⟩
theorem hb_dclear (ho : ER F ρ ω o (rRef q) ((q, oD fs) :: w)) (h : HB F ρ ((q, oD []) :: w) rest K) (hsw : swapsWith (.Call (.Attribute o "clear" apos) [] [] p) none pos.line F.X.env = pure false := by rfl)
    (hbase : attributeBase o "clear" F.X.env (eval o F.X.env) = eval o F.X.env := by rfl) (hline : (apos.endLine == p.line) = true := by rfl) : HB F ρ ω (.Expr (.Call (.Attribute o "clear" apos) [] [] p) pos :: rest) K := hb_cons fun σ G H D at_ sl ps => by
  refine sw_of (ps_expr (pe_dclear pe_w hbase hline) hsw) (ho σ G H at_ sl _ fun x G1 H1 s1 a1 r1 => ?_)
  cases (show x = V.ref q from r1)
  obtain ⟨_, _, ob, h1, vs, rfl, h2⟩ := a1.ow _ List.mem_cons_self
  exact ⟨.inr (.inr (.inl ⟨rfl, .inl ⟨vs, h1⟩⟩)), q, vs, rfl, rfl, h1, h σ G1 _ D (a1.chg ⟨[], rfl, trivial⟩) (sl.up s1) (ps.up s1)⟩
end
end W1
set_option maxRecDepth 100000
set_option maxHeartbeats 2000000
set_option exponentiation.threshold 20000
namespace W1
open PySem PySem.Spec PyProof.Rows L2 TL NumText

/-! ### f-strings, part by part: z is all that is told -/
def FR (F : Fx) (ρ : Ty) (ω : Ow) (es : List Expr) (z : Str) (ω' : Ow) : Prop :=
  ∃ ts, PJ F.X es ts ∧ ∀ acc σ G H, acc.length + z.length ≤ 16000000 → At F ω G H → Slots ρ σ G → ∀ Q : Str → Hp → Prop, (∀ G2 H2, Same G G2 → At F ω' G2 H2 → Q (acc ++ z) H2) → tJs ts acc σ H Q
section
variable {F : Fx} {ρ : Ty} {ω w w1 w2 : Ow} {e v1 v2 : Expr} {es : List Expr} {y z : Str} {i : Int} {k : Nat} {pos : Pos}
theorem sz_line : (16000000 : Nat) ≤ sizeLine := by decide
theorem str_assoc (a b c : Str) : a ++ b ++ c = a ++ (b ++ c) := ext_tl (by rw [tl_append, tl_append, tl_append, tl_append, List.append_assoc])
theorem str_nil (a : Str) : a ++ Str.empty = a := ext_tl (by rw [tl_append]; exact List.append_nil _)
theorem fr_nil : FR F ρ ω [] Str.empty ω := ⟨_, .nil, fun acc σ G H _ at_ sl Q q => by
  have := q G H (Same.refl _) at_
  rw [str_nil] at this
  exact this⟩
/-- a part that is a text -/
theorem fr_str (h : ER F ρ ω e (rStr y) w1) (r : FR F ρ w1 es z w2) : FR F ρ ω (e :: es) (y ++ z) w2 := by
  obtain ⟨ts, h1, h2⟩ := r
  refine ⟨_, .cons pe_w h1, fun acc σ G H hz at_ sl Q q => h σ G H at_ sl _ fun v G1 H1 s1 a1 r1 => ?_⟩
  rw [strlen_app] at hz
  refine ⟨y, r1, Nat.le_trans (by rw [strlen_app]; omega) sz_line, h2 (acc ++ y) σ G1 H1 (by rw [strlen_app]; omega) a1 (sl.up s1) Q fun G2 H2 s2 a2 => ?_⟩
  rw [str_assoc]
  exact q G2 H2 (s1.trans s2) a2
theorem er_fmtS {p : Pos} (h : ER F ρ ω e (rStr y) w1) (hz : y.length ≤ 100000) : ER F ρ ω (.FormattedValue e (-1) none p) (rStr y) w1 := fun σ G H at_ sl Q q =>
  ew_of (pe_fmt pe_w) (h σ G H at_ sl _ fun v G1 H1 s1 a1 r1 => .inl ⟨y, r1, Nat.le_trans hz (by decide), q _ G1 H1 s1 a1 rfl⟩)
theorem er_fmtI {p : Pos} (h : ER F ρ ω e (rInt i) w1) (hz : i.natAbs.log2 < 1920) : ER F ρ ω (.FormattedValue e (-1) none p) (rStr (numT i)) w1 := fun σ G H at_ sl Q q =>
  ew_of (pe_fmt pe_w) (h σ G H at_ sl _ fun v G1 H1 s1 a1 r1 => .inr ⟨i, r1, hz, q _ G1 H1 s1 a1 rfl⟩)
theorem er_joined (r : FR F ρ ω (v1 :: v2 :: es) z w1) (hz : z.length ≤ 16000000) : ER F ρ ω (.JoinedStr (v1 :: v2 :: es) pos) (rStr z) w1 := fun σ G H at_ sl Q q => by
  obtain ⟨ts, h1, h2⟩ := r
  refine ew_of (pe_joined h1) (h2 Str.empty σ G H (by show 0 + _ ≤ _; omega) at_ sl _ fun G2 H2 s a => ?_)
  rw [app_empty]
  exact q _ G2 H2 s a rfl
end
end W1
set_option maxRecDepth 100000
set_option maxHeartbeats 2000000
namespace W1
open PySem PySem.Spec PyProof.Rows L2
section
variable {F : Fx} {ρ : Ty} {ω w wc wc' : Ow} {e : Expr} {es : List Expr} {Rs : List Rl} {P : Er} {pos p : Pos} {x : Str} {k : Nat} {C : Addr} {pre : Pre}
/-- C(..), with owned things handed over -/
theorem er_cW {fs : List (Str × Rl)} (T : Kc F.X.prog F.X.w F.X.K F.X.mg F.X.base C x k pre) (hr : Room (k + 1) F.X.A) (ha : AR F ρ ω (e :: es) Rs (wc ++ w)) (hp : ∀ q, pre (rRef q :: Rs) ((q, oIns C []) :: wc) (.ok rNon) ((q, oIns C fs) :: wc')) (hk : keys wc' = keys wc := by rfl)
    (hg : Gl F.X x := by rfl) (hdb : (x == ("__debug__" : Str)) = false := by decide) (he : starEach (e :: es) F.X.env = (false, eval e F.X.env) :: starEach es F.X.env := by rfl) (hpl : (backTo pos (starEach es F.X.env)).any (·.1) = false := by rfl) :
    ER F ρ ω (.Call (.Name x p) (e :: es) [] pos) (rIns C fs) (wc' ++ w) := fun σ G H at_ sl Q q => by
  obtain ⟨f, fd, ps, hm, M, hb, Fn⟩ := T
  refine ew_of (pe_makeS M Fn hr hg hm hb passW pa_w hdb he hpl) (ha σ G H at_ sl _ fun vs G1 H1 s1 a1 r1 => fun y dx hy hdx hne => ?_)
  have a2 : At F (wc ++ w) G1 (upd H1 dx (.own y)) := a1.step (Step.hid a1.gh hdx)
  have hy2 : upd H1 dx (.own y) y = none := by rw [upd_ne (Ne.symm hne)]; exact hy
  have a3 : At F (((y, oIns C []) :: wc) ++ w) G1 (upd (upd H1 dx (.own y)) y (.ins C dx [])) := a2.own hy2 ⟨dx, [], rfl, trivial⟩
  have hM : y ∉ F.M := fun hm => a2.mm y hm hy2
  have hk2 : keys ((y, oIns C fs) :: wc') = keys ((y, oIns C []) :: wc) := by
    unfold keys at hk ⊢
    rw [List.map_cons, List.map_cons, hk]
  refine sp_ok (Rs := rRef y :: Rs) (wc := (y, oIns C []) :: wc) a3 ⟨rfl, r1⟩ (hp y) hk2 fun v G3 H3 s3 a4 r3 => ⟨r3, ?_⟩
  obtain ⟨_, _, ob, h1, dx', vs', e1, h2⟩ := a4.ow (y, oIns C fs) List.mem_cons_self
  subst e1
  have a5 : At F (wc' ++ w) (upd G3 y (.ins C dx' vs')) H3 := At.pub (q := y) a4 h1 (At.own0 a4 hM)
  have sg : Same G3 (upd G3 y (.ins C dx' vs')) := fun b u e => by rw [upd_ne (ne_of_none e (a4.ow (y, oIns C fs) List.mem_cons_self).1)]; exact e
  exact q _ _ _ ((s1.trans s3).trans sg) a5 ⟨y, dx', vs', rfl, upd_same, h2.up sg⟩
theorem ex_cW (T : Kc F.X.prog F.X.w F.X.K F.X.mg F.X.base C x k pre) (hr : Room (k + 1) F.X.A) (ha : AR F ρ ω (e :: es) Rs (wc ++ w)) (hp : ∀ q, ∃ O, pre (rRef q :: Rs) ((q, oIns C []) :: wc) (.error P) ((q, O) :: wc')) (hP : ∀ cls d G G', Same G G' → P cls d G → P cls d G') (hk : keys wc' = keys wc := by rfl)
    (hg : Gl F.X x := by rfl) (hdb : (x == ("__debug__" : Str)) = false := by decide) (he : starEach (e :: es) F.X.env = (false, eval e F.X.env) :: starEach es F.X.env := by rfl) (hpl : (backTo pos (starEach es F.X.env)).any (·.1) = false := by rfl) :
    EX F ρ ω (.Call (.Name x p) (e :: es) [] pos) P (wc' ++ w) := fun σ G H at_ sl q => by
  obtain ⟨f, fd, ps, hm, M, hb, Fn⟩ := T
  refine ew_of (pe_makeS M Fn hr hg hm hb passW pa_w hdb he hpl) (ha σ G H at_ sl _ fun vs G1 H1 s1 a1 r1 => fun y dx hy hdx hne => ?_)
  have a2 : At F (wc ++ w) G1 (upd H1 dx (.own y)) := a1.step (Step.hid a1.gh hdx)
  have hy2 : upd H1 dx (.own y) y = none := by rw [upd_ne (Ne.symm hne)]; exact hy
  have a3 : At F (((y, oIns C []) :: wc) ++ w) G1 (upd (upd H1 dx (.own y)) y (.ins C dx [])) := a2.own hy2 ⟨dx, [], rfl, trivial⟩
  have hM : y ∉ F.M := fun hm => a2.mm y hm hy2
  obtain ⟨O, hp'⟩ := hp y
  have hk2 : keys ((y, O) :: wc') = keys ((y, oIns C []) :: wc) := by
    unfold keys at hk ⊢
    rw [List.map_cons, List.map_cons, hk]
  refine sp_er (Rs := rRef y :: Rs) (wc := (y, oIns C []) :: wc) a3 ⟨rfl, r1⟩ hp' hk2 fun cls d G3 H3 s3 a4 r3 => ?_
  obtain ⟨hg0, _, ob, h1, _⟩ := a4.ow (y, O) List.mem_cons_self
  have a5 : At F (wc' ++ w) (upd G3 y ob) H3 := At.pub (q := y) a4 h1 (At.own0 a4 hM)
  have sg : Same G3 (upd G3 y ob) := fun b u e => by rw [upd_ne (ne_of_none e hg0)]; exact e
  exact q cls d _ _ ((s1.trans s3).trans sg) a5 (hP _ _ _ _ sg r3)
end
end W1
set_option maxRecDepth 100000
set_option maxHeartbeats 2000000
namespace W1
open PySem PySem.Spec PyProof.Rows L2 NdefX TL NumText

/-! ### helpers for the walk by tactics -/
theorem At.perm {F : Fx} {ω ω' : Ow} {G H : Hp} (h : ω.Perm ω') (a : At F ω G H) : At F ω' G H :=
  ⟨a.gg, a.hh, a.gh, a.fr, a.mm, fun p hp => a.ow p (h.mem_iff.mpr hp), (h.map _).nodup_iff.mp a.nd⟩
theorem perm_at {w : Ow} {i : Nat} {z z' : Addr × Ol} (h : w[i]? = some z) : w.Perm (z :: w.eraseIdx i) ∧ (z' :: w.eraseIdx i).Perm (w.set i z') := by
  induction w generalizing i with
  | nil => simp at h
  | cons a l ih =>
    cases i with
    | zero =>
      simp at h
      subst h
      exact ⟨List.Perm.refl _, List.Perm.refl _⟩
    | succ i =>
      simp only [List.getElem?_cons_succ] at h
      obtain ⟨h1, h2⟩ := ih h
      simp only [List.eraseIdx_cons_succ, List.set_cons_succ]
      exact ⟨(List.Perm.cons a h1).trans (List.Perm.swap _ _ _), (List.Perm.swap _ _ _).trans (List.Perm.cons a h2)⟩
section
variable {F : Fx} {ρ : Ty} {ω w w1 w2 w3 wc wc' : Ow} {a b c e o : Expr} {es : List Expr} {A B R S : Rl} {Rs As : List Rl} {P : Er} {pos p apos : Pos} {x m : Str} {k : Nat} {C q : Addr} {pre : Pre} {O O' : Ol} {fs : List (Str × Rl)}
theorem er_perm (h : ER F ρ ω e R w1) (p : w1.Perm w2) : ER F ρ ω e R w2 := fun σ G H at_ sl Q z => h σ G H at_ sl Q fun v G2 H2 s a r => z v G2 H2 s (a.perm p) r
theorem ar_perm (h : AR F ρ ω es Rs w1) (p : w1.Perm w2) : AR F ρ ω es Rs w2 := fun σ G H at_ sl Q z => h σ G H at_ sl Q fun v G2 H2 s a r => z v G2 H2 s (a.perm p) r
theorem ex_perm (h : EX F ρ ω e P w1) (p : w1.Perm w2) : EX F ρ ω e P w2 := fun σ G H at_ sl z => h σ G H at_ sl fun c d G2 H2 s a r => z c d G2 H2 s (a.perm p) r
theorem hb_perm {K : Kn} {rest : List Stmt} (p : w1.Perm w2) (h : HB F ρ w2 rest K) : HB F ρ w1 rest K := fun σ G H D at_ sl ps => h σ G H D (at_.perm p) sl ps
theorem er_v (i : Nat) (hN : F.X.N[i]? = some x) (h : ρ[i]? = some (some R)) (hv : Vis F.X.env.scope x := by first | exact Or.inl rfl | exact Or.inr (Or.inl rfl) | exact Or.inr (Or.inr rfl))
    (hd : (x == ("__debug__" : Str)) = false := by decide) (hcd : (x == ("__classdict__" : Str)) = false := by decide) : ER F ρ ω (.Name x pos) R ω := er_var i h hN hv hd hcd
theorem er_gS {z : Str} {tk : Tok} (hm : F.X.mg x = some (.str z tk)) (hg : Gl F.X x := by rfl) (hd : (x == ("__debug__" : Str)) = false := by decide) : ER F ρ ω (.Name x pos) (rStr z) ω := er_glob (v := .str z) hg hm ⟨tk, rfl⟩ hd
theorem er_gI {z : Int} {tk : Tok} (hm : F.X.mg x = some (.int z tk)) (hg : Gl F.X x := by rfl) (hd : (x == ("__debug__" : Str)) = false := by decide) : ER F ρ ω (.Name x pos) (rInt z) ω := er_glob (v := .int z) hg hm ⟨tk, rfl⟩ hd
theorem er_gC (hm : F.X.mg x = some (.ref C)) (hg : Gl F.X x := by rfl) (hd : (x == ("__debug__" : Str)) = false := by decide) : ER F ρ ω (.Name x pos) (rRef C) ω := er_glob (v := .ref C) hg hm rfl hd
theorem er_bA {id : String} (ha : AR F ρ ω (e :: es) As w1) (hm : F.X.mg x = none) (hv : bootBuiltins x = some (.builtin id)) (hc : Cop F w1 (.builtin id) As R) (hg : Gl F.X x := by rfl) (hn : x ≠ "__name__" := by decide) (hdb : (x == ("__debug__" : Str)) = false := by decide)
    (he : starEach (e :: es) F.X.env = (false, eval e F.X.env) :: starEach es F.X.env := by rfl) (hpl : (backTo pos (starEach es F.X.env)).any (·.1) = false := by rfl) : ER F ρ ω (.Call (.Name x p) (e :: es) [] pos) R w1 := er_callB hc hg hm hv ha hn hdb he hpl
theorem er_tA {id : String} (ha : AR F ρ ω (e :: es) As w1) (hm : F.X.mg x = none) (hv : bootBuiltins x = some (.type id)) (hc : Cop F w1 (.type id) As R) (hg : Gl F.X x := by rfl) (hn : x ≠ "__name__" := by decide) (hdb : (x == ("__debug__" : Str)) = false := by decide)
    (he : starEach (e :: es) F.X.env = (false, eval e F.X.env) :: starEach es F.X.env := by rfl) (hpl : (backTo pos (starEach es F.X.env)).any (·.1) = false := by rfl) : ER F ρ ω (.Call (.Name x p) (e :: es) [] pos) R w1 := er_callTy hc hg hm hv ha hn hdb he hpl
/-- a def of no own things -/
theorem er_fA (T : Kf1 F.X.prog F.X.w F.X.K F.X.mg F.X.base x k pre) (hr : Room k F.X.A) (ha : AR F ρ ω (e :: es) Rs w) (hp : pre Rs [] (.ok R) [])
    (hg : Gl F.X x := by rfl) (hdb : (x == ("__debug__" : Str)) = false := by decide) (he : starEach (e :: es) F.X.env = (false, eval e F.X.env) :: starEach es F.X.env := by rfl) (hpl : (backTo pos (starEach es F.X.env)).any (·.1) = false := by rfl) :
    ER F ρ ω (.Call (.Name x p) (e :: es) [] pos) R w := er_fn0 T hr ha hp hg hdb he hpl
/-- a def to which the i-th own thing is handed over -/
theorem er_f1 (i : Nat) (T : Kf1 F.X.prog F.X.w F.X.K F.X.mg F.X.base x k pre) (hr : Room k F.X.A) (ha : AR F ρ ω (e :: es) Rs w) (hi : w[i]? = some (q, O)) (hp : pre Rs [(q, O)] (.ok R) [(q, O')])
    (hg : Gl F.X x := by rfl) (hdb : (x == ("__debug__" : Str)) = false := by decide) (he : starEach (e :: es) F.X.env = (false, eval e F.X.env) :: starEach es F.X.env := by rfl) (hpl : (backTo pos (starEach es F.X.env)).any (·.1) = false := by rfl) :
    ER F ρ ω (.Call (.Name x p) (e :: es) [] pos) R (w.set i (q, O')) :=
  er_perm (er_fn (wc := [(q, O)]) (wc' := [(q, O')]) (w := w.eraseIdx i) T hr (ar_perm ha (perm_at (z' := (q, O)) hi).1) hp rfl hg hdb he hpl) (perm_at hi).2
theorem ex_f1 (i : Nat) (T : Kf1 F.X.prog F.X.w F.X.K F.X.mg F.X.base x k pre) (hr : Room k F.X.A) (ha : AR F ρ ω (e :: es) Rs w) (hi : w[i]? = some (q, O)) (hp : pre Rs [(q, O)] (.error P) [(q, O')])
    (hg : Gl F.X x := by rfl) (hdb : (x == ("__debug__" : Str)) = false := by decide) (he : starEach (e :: es) F.X.env = (false, eval e F.X.env) :: starEach es F.X.env := by rfl) (hpl : (backTo pos (starEach es F.X.env)).any (·.1) = false := by rfl) :
    EX F ρ ω (.Call (.Name x p) (e :: es) [] pos) P (w.set i (q, O')) := by
  obtain ⟨f, fd, ps, h1, h2, h3, h4⟩ := T
  exact ex_perm (ex_call (wc := [(q, O)]) (wc' := [(q, O')]) (w := w.eraseIdx i) (ar_perm ha (perm_at (z' := (q, O)) hi).1) hp rfl h4 hr h1 h2 h3 hg hdb he hpl) (perm_at hi).2
/-- a new thing from a def -/
theorem en_fA {pre : PreN} (T : KfN1 F.X.prog F.X.w F.X.K F.X.mg F.X.base x k pre) (hr : Room k F.X.A) (ha : AR F ρ ω (e :: es) Rs w) (hp : pre Rs [] O [])
    (hg : Gl F.X x := by rfl) (hdb : (x == ("__debug__" : Str)) = false := by decide) (he : starEach (e :: es) F.X.env = (false, eval e F.X.env) :: starEach es F.X.env := by rfl) (hpl : (backTo pos (starEach es F.X.env)).any (·.1) = false := by rfl) :
    EN F ρ ω (.Call (.Name x p) (e :: es) [] pos) O w := en_fn (wc := []) (wc' := []) T hr ha hp rfl hg hdb he hpl
theorem en_perm (h : EN F ρ ω e O w1) (p : w1.Perm w2) : EN F ρ ω e O w2 := fun σ G H at_ sl Q z => h σ G H at_ sl Q fun v G2 H2 hM s a => z v G2 H2 hM s (a.perm (List.Perm.cons _ p))
theorem en_f1 {pre : PreN} {q : Addr} {O1 O' : Ol} (i : Nat) (T : KfN1 F.X.prog F.X.w F.X.K F.X.mg F.X.base x k pre) (hr : Room k F.X.A) (ha : AR F ρ ω (e :: es) Rs w) (hi : w[i]? = some (q, O1)) (hp : pre Rs [(q, O1)] O [(q, O')])
    (hg : Gl F.X x := by rfl) (hdb : (x == ("__debug__" : Str)) = false := by decide) (he : starEach (e :: es) F.X.env = (false, eval e F.X.env) :: starEach es F.X.env := by rfl) (hpl : (backTo pos (starEach es F.X.env)).any (·.1) = false := by rfl) :
    EN F ρ ω (.Call (.Name x p) (e :: es) [] pos) O (w.set i (q, O')) :=
  en_perm (en_fn (wc := [(q, O1)]) (wc' := [(q, O')]) (w := w.eraseIdx i) T hr (ar_perm ha (perm_at (z' := (q, O1)) hi).1) hp rfl hg hdb he hpl) (perm_at hi).2
theorem hb_setA {K : Kn} {rest : List Stmt} (i : Nat) (hi : F.X.N[i]? = some x) (he : ER F ρ ω e R w1) (h : HB F (ρ.set i (some R)) w1 rest K) (hN : F.X.N.Nodup := by assumption) (hx : Loc F.X.env.scope x := by first | exact Or.inl rfl | exact Or.inr rfl)
    (hs : swapsWith e (some (.Name x p)) pos.line F.X.env = pure false := by rfl) (hf : F.X.fn x = true ∨ F.X.env.scope.names.lookup x = some .local := by first | exact .inl rfl | exact .inr rfl | assumption) :
    HB F ρ ω (.Assign [.Name x p] e pos :: rest) K := hb_set i he h hN hi hx hs hf
theorem hb_setNA {K : Kn} {rest : List Stmt} (i : Nat) (hi : F.X.N[i]? = some x) (he : EN F ρ ω e O w1) (h : ∀ q, q ∉ F.M → HB F (ρ.set i (some (rRef q))) ((q, O) :: w1) rest K) (hN : F.X.N.Nodup := by assumption) (hx : Loc F.X.env.scope x := by first | exact Or.inl rfl | exact Or.inr rfl)
    (hs : swapsWith e (some (.Name x p)) pos.line F.X.env = pure false := by rfl) (hf : F.X.fn x = true ∨ F.X.env.scope.names.lookup x = some .local := by first | exact .inl rfl | exact .inr rfl | assumption) :
    HB F ρ ω (.Assign [.Name x p] e pos :: rest) K := hb_setN i he h hN hi hx hs hf
/-- one name, every item -/
theorem er_lc1 {α : Type} {it elt : Expr} {scope : Scope} {xs : List α} {A B : α → Rl} (i : Nat) (hi : F.X.N[i]? = some x) (hpg : ∀ (s : Shared) (H : Hp) (C : Addr) (cl : List (Str × Addr)) (fp : List Addr), PG (F.X.blk s H scope (compEnvC scope cl C F.X.env) fp) (.Name x p) (gName i))
    (ok : BlkOk F.X.N F.X.env.scope scope [(x, i)]) (hit : IT F ρ ω (.Name x p) it (xs.map A) w1) (hz : xs.length ≤ 100000)
    (he : ∀ (j : Nat) a, xs[j]? = some a → ∀ s H0 C cl fp d, ER (blkF F s H0 scope C cl fp) ((ρ.set i none).set i (some (A a))) (d :: w1) elt (B a) (d :: w1))
    (hN : F.X.N.Nodup := by assumption) (hc : F.X.calm = true := by rfl) (hs : ∀ z, foldedSetIterable it F.X.env z = pure z := by intro _; rfl) : ER F ρ ω (.ListComp elt [⟨.Name x p, it, [], 0⟩] scope pos) (rLst (xs.map B)) w1 :=
  er_lc hit hz [(x, i)] ok hpg (fun _ _ _ => gew_name) he hN hc hs
theorem er_lcf1 {α : Type} {it elt : Expr} {scope : Scope} {xs : List α} {A B : α → Rl} {pr : α → Bool} (i : Nat) (hi : F.X.N[i]? = some x) (hpg : ∀ (s : Shared) (H : Hp) (C : Addr) (cl : List (Str × Addr)) (fp : List Addr), PG (F.X.blk s H scope (compEnvC scope cl C F.X.env) fp) (.Name x p) (gName i))
    (ok : BlkOk F.X.N F.X.env.scope scope [(x, i)]) (hit : IT F ρ ω (.Name x p) it (xs.map A) w1) (hz : xs.length ≤ 100000)
    (ht : ∀ (j : Nat) a, xs[j]? = some a → ∀ s H0 C cl fp d, TR (blkF F s H0 scope C cl fp) ((ρ.set i none).set i (some (A a))) (d :: w1) c (pr a) (d :: w1))
    (he : ∀ (j : Nat) a, xs[j]? = some a → pr a = true → ∀ s H0 C cl fp d, ER (blkF F s H0 scope C cl fp) ((ρ.set i none).set i (some (A a))) (d :: w1) elt (B a) (d :: w1))
    (hN : F.X.N.Nodup := by assumption) (hc : F.X.calm = true := by rfl) (hs : ∀ z, foldedSetIterable it F.X.env z = pure z := by intro _; rfl) : ER F ρ ω (.ListComp elt [⟨.Name x p, it, [c], 0⟩] scope pos) (rLst ((xs.filter pr).map B)) w1 :=
  er_lcf hit hz [(x, i)] ok hpg (fun _ _ _ => gew_name) ht he hN hc hs
end
theorem rng_map {lo : Int} {n : Nat} : rng lo n = (List.range n).map fun (k : Nat) => rInt (lo + (k : Int)) := rfl
end W1
set_option maxRecDepth 100000
set_option maxHeartbeats 2000000
namespace W1Q
open PySem

section
variable {M : Model} {A : Around} {E : Value → Shared → Prop} {s : Shared}
/-- whether a dict is told as a part or whole makes no difference to what holds behind it -/
theorem part_upd {Γ : Ctx} {d : Addr} {f : Array DictEntry → Array DictEntry} {a b : Option Value} {Q : Unit → Pos → Shared → Prop} {X : Value → Pos → Shared → Prop} {p : Pos} {s1 : Shared}
    (k : Sem.wp M Γ (updateDict d f a) Q X p s1) : Sem.wp M Γ (updateDict d f b) Q X p s1 := by
  unfold updateDict at k ⊢
  rw [Sem.wp_bind', Sem.wp_cmd_loadPart] at k ⊢
  obtain ⟨o, ho, k⟩ := k
  refine ⟨o, ho, ?_⟩
  revert k
  cases o.data <;> dsimp only <;> first
    | exact id
    | (simp only [Sem.wp_bind', Sem.wp_cmd_updatePart, Sem.wp_cmd_loadPart]
       exact id)
theorem part_keys {Γ : Ctx} {d : Addr} {f : Array DictEntry → Array DictEntry} {a b : Option Value} {Q : Unit → Pos → Shared → Prop} {X : Value → Pos → Shared → Prop} {p : Pos} {s1 : Shared}
    (k : Sem.wp M Γ (updateDictKeys d f a) Q X p s1) : Sem.wp M Γ (updateDictKeys d f b) Q X p s1 := by
  unfold updateDictKeys lookBehind at k ⊢
  rw [Sem.wp_bind', Sem.wp_cmd_loadPart] at k ⊢
  obtain ⟨o, ho, k⟩ := k
  refine ⟨o, ho, ?_⟩
  revert k
  cases o.data <;> dsimp only <;> first
    | exact id
    | (simp only [Sem.wp_bind', Sem.wp_cmd_updatePart, Sem.wp_cmd_loadPart]
       exact id)
/-- putting under a known hash is storing, without the store's rules -/
theorem put_of_set {d : Addr} {h : Int} {key v : Value} {Q : Unit → Shared → Prop} (k : wpAny M A (dictSetHashed d key h v) Q E s) : wpAny M A (dictPut d h key v) Q E s := by
  intro Γ p hΓ
  have k := k Γ p hΓ
  unfold dictSetHashed at k
  unfold dictPut
  rw [Sem.wp_holding, Sem.wp_bind'] at k
  rw [Sem.wp_bind']
  refine Sem.wp_mono M Γ _ (fun found p1 s1 k1 => ?_) (fun _ _ _ z => z) p s k
  cases found with
  | some i =>
    simp only [Sem.wp_bind', Sem.wp_cmd_rule, Sem.wp_cmd_point] at k1 ⊢
    exact part_upd k1
  | none =>
    simp only [Sem.wp_bind', Sem.wp_cmd_rule] at k1 ⊢
    exact part_keys k1
end
section
variable {prog : Program} {w : World} {K : Type} [DecidableEq K] {knd : KeyKind prog w K} {A : Around} {E : Value → Shared → Prop}
theorem put_known {s : Shared} {d : Addr} {kvs : List (K × Value)} {k : K} {key v : Value} {Q : Unit → Shared → Prop} (is : knd.is k key = true) (at_ : s.heap.DictOf knd d kvs) (few : kvs.length ≤ sizeLine)
    (q : ∀ h', h'.DictOf knd d (stored kvs k v) → Heap.SameBut d s.heap h' → Q () { s with heap := h' }) : wpAny (model prog w) A (dictPut d (knd.hash k) key v) Q E s :=
  put_of_set (wpAny_dictSetHashed_pairs is at_ q few)
/-- what one turn of the merge does -/
abbrev turn (d o : Addr) (ep : Nat) : Nat → PUnit → Sem (ForInStep PUnit) := fun i _ => do
  let here ← dictEntries o
  match here[i]? with
  | some e => do
    holding [e.key, e.val] (if false = true then do
        let f ← dictFind d e.key e.hash
        if f.isSome = true then do
            rule "dict.merge.duplicate-key"
            let x ← newExc (.type "KeyError") [e.key]
            let r ← (raiseNew x : Sem Unit)
            dictPut d e.hash e.key e.val
          else dictPut d e.hash e.key e.val
      else dictPut d e.hash e.key e.val)
    let now ← dictEpoch o
    if (now != ep) = true then do
        (unsupported "dict.changed-during-merge" : Sem Unit)
        pure (ForInStep.yield PUnit.unit)
      else pure (ForInStep.yield PUnit.unit)
  | _ => do
    (unsupported "dict.changed-during-merge" : Sem Unit)
    pure (ForInStep.yield PUnit.unit)
/-- the turns from the i-th entry on: one by one -/
theorem turns {d o : Addr} {oo : Obj} {es : Array DictEntry} {ep : Nat} (ne : d ≠ o) (src : oo.data = .dict es ep) (ks : KeysOf knd es) {more : List (K × Value)} (ps : Pairs knd es.toList more) {Q : PUnit → Shared → Prop} :
    ∀ (k i : Nat) (s : Shared) (kvs : List (K × Value)), i + k = es.size → s.heap.get? o = some oo → s.heap.DictOf knd d kvs → kvs.length + k ≤ sizeLine →
      (∀ h', h'.DictOf knd d (merged kvs (more.drop i)) → Heap.SameBut d s.heap h' → Q PUnit.unit { s with heap := h' }) →
      wpAny (model prog w) A (forIn (List.range' i k) PUnit.unit (turn d o ep)) Q E s
  | 0, i, s, kvs, hk, go, gd, few, q => by
    have none_left : more.drop i = [] := List.drop_eq_nil_of_le (by rw [← ps.length, Array.length_toList]; omega)
    rw [none_left] at q
    exact wpAny_pure (q s.heap gd (Heap.SameBut.refl _ _))
  | k + 1, i, s, kvs, hk, go, gd, few, q => by
    have hi : i < es.size := by omega
    have hm : i < more.length := by rw [← ps.length, Array.length_toList]; exact hi
    obtain ⟨is, val⟩ := ps.get? (e := es[i]) (by simp [hi]) (List.getElem?_eq_getElem hm)
    obtain ⟨k2, is2, hash⟩ := ks es[i] (Array.getElem_mem hi)
    have one : k2 = more[i].1 := knd.inj _ _ _ is2 is
    rw [one] at hash
    rw [List.drop_eq_getElem_cons hm] at q
    rw [List.range'_succ, List.forIn_cons]
    refine wpAny_bind ?_
    unfold turn
    refine wpAny_bind (wpAny_dictEntries go src ?_)
    rw [Array.getElem?_eq_getElem hi]
    dsimp only
    rw [hash, val]
    refine wpAny_bind (wpAny_holding ?_)
    rw [if_neg (by decide : ¬ (false = true))]
    refine put_known is gd (by omega) fun h1 gd1 same => ?_
    have go1 : h1.get? o = some oo := (same.2 o ne.symm).trans go
    refine wpAny_bind (wpAny_dictEpoch go1 src ?_)
    rw [bne_self_eq_false, if_neg Bool.false_ne_true]
    exact wpAny_pure (turns ne src ks ps k (i + 1) _ _ (by omega) go1 gd1 (Nat.le_trans (Nat.add_le_add_right (stored_length_le _ _ _) k) (by omega)) fun h2 gd2 same2 => q h2 gd2 (same.trans same2))
/-- merging the dict at o into that at d -/
theorem merge_two {s : Shared} {d o : Addr} {kvs more : List (K × Value)} {Q : Unit → Shared → Prop} (ne : d ≠ o) (plain : (o == sysModules) = false) (noref : ∀ k a, knd.is k (.ref a) = false) (gd : s.heap.DictOf knd d kvs) (go : s.heap.DictOf knd o more) (few : kvs.length + more.length ≤ sizeLine)
    (q : ∀ h', h'.DictOf knd d (merged kvs more) → Heap.SameBut d s.heap h' → Q () { s with heap := h' }) : wpAny (model prog w) A (mergeMapping d (.ref o) false) Q E s := by
  obtain ⟨dd, des, dep, dget, -, ddat, -⟩ := id gd
  obtain ⟨oo, es, ep, oget, -, odat, ks, ps, -⟩ := id go
  have whole : wpAny (model prog w) A (do
      let here ← dictEntries o
      let now ← dictEpoch o
      forIn (List.range here.size) PUnit.unit (turn d o now)
      pure ()) Q E s := by
    refine wpAny_bind (wpAny_dictEntries oget odat (wpAny_bind (wpAny_dictEpoch oget odat (wpAny_bind ?_))))
    rw [List.range_eq_range']
    exact turns ne odat ks ps es.size 0 s kvs (Nat.zero_add _) oget gd (by rw [← ps.length, Array.length_toList] at few; exact few) fun h' g' same => wpAny_pure (q h' g' same)
  unfold mergeMapping
  dsimp only
  refine wpAny_bind (wpAny_isInstance go.typeIs isSubtype_dict_dict ?_)
  rw [if_pos rfl]
  refine wpAny_bind (wpAny_specialOf go.typeIs F.slot_dict_iter.lookup ?_)
  simp only [beq_self_eq_true, pure_bind]
  rw [if_neg (by rw [plain]; exact Bool.false_ne_true)]
  refine wpAny_bind (wpAny_dictEntries dget ddat ?_)
  by_cases empty : des.isEmpty = true
  · rw [if_pos empty]
    refine wpAny_bind (wpAny_dictEntries oget odat (wpAny_bind ?_))
    -- no key is an object, so nothing is asked of any
    have quiet : ∀ l : List DictEntry, (∀ e ∈ l, e ∈ es) → ∀ f : DictEntry → PUnit → Sem (ForInStep PUnit), (∀ e ∈ es, f e PUnit.unit = pure (ForInStep.yield PUnit.unit)) → forIn l PUnit.unit f = pure PUnit.unit := by
      intro l hl f hf
      induction l with
      | nil => rfl
      | cons e l ih =>
        rw [List.forIn_cons, hf e (hl e List.mem_cons_self), pure_bind]
        exact ih fun x hx => hl x (List.mem_cons_of_mem _ hx)
    rw [← Array.forIn_toList]
    refine wpAny_of_eq (quiet es.toList (fun e he => Array.mem_toList_iff.mp he) _ fun e he => ?_) whole
    obtain ⟨k, is, -⟩ := ks e he
    split
    · next a ha => rw [ha, noref] at is; cases is
    · rfl
  · rw [if_neg empty]
    exact whole
end
end W1Q
set_option maxRecDepth 100000
set_option maxHeartbeats 2000000
namespace W1
open PySem PySem.Spec PyProof.Rows L2 NdefX TL NumText

/-! ### {**a, **b} -/
theorem key_noref {P : Program} {w : World} (k : Key) (a : Addr) : (mixKind P w).is k (.ref a) = false := by
  cases h : (mixKind P w).is k (.ref a) with
  | false => rfl
  | true =>
    rcases keyIs_shape h with ⟨i, t, h1, h2⟩ | ⟨x, t, h1, h2⟩
    · cases h2
    · cases h2
section
variable {X : Cx} {pins : List (Addr × Obj)} {σ : L2.St} {H : Hp} {s : Shared} {A : Around} {E : Value → Shared → Prop}
theorem merge_into {p a : Addr} {kvs kws : List (Key × V)} {Q : Unit → Shared → Prop} (I : Inv X pins σ H s) (hp : H p = some (.dK kvs)) (ha : Rd H a (.dK kws)) (hne : p ≠ a) (hz : kvs.length + kws.length ≤ sizeLine)
    (h : ∀ s', Inv X pins σ (upd H p (.dK (mergeK kvs kws))) s' → Q () s') : wpAny (model X.prog X.w) A (mergeMapping p (.ref a) false) Q E s := by
  obtain ⟨z, hd, vs, rel, dd⟩ := dk_of I.hok hp
  obtain ⟨z2, hd2, ws, rel2, dd2⟩ := dk_rd I.hok ha
  refine W1Q.merge_two hne hd2 key_noref dd dd2 (by rw [← rel.length, ← rel2.length]; exact hz) fun h' dd' hs => ?_
  have he : ∃ q, h'.get? p = some q := let ⟨q, _, _, hq, _⟩ := dd'; ⟨q, hq⟩
  exact h _ (d_write (t' := s.toks) I (by rw [hp]; exact True.intro) hs he (dk_new (Nat.le_trans (length_mergeK kws kvs) hz) hd (rel2.merge rel) dd'))
end
def tMrg (ta tb : TE) : TE := fun σ H Q => ∀ p, H p = none → ta σ (upd H p (.dK [])) fun x H1 => ∃ a kvs, x = .ref a ∧ p ≠ a ∧ Rd H1 a (.dK kvs) ∧ H1 p = some (.dK []) ∧ kvs.length ≤ 100000 ∧
  tb σ (upd H1 p (.dK (mergeK [] kvs))) fun y H2 => ∃ b kws kv1, y = .ref b ∧ p ≠ b ∧ Rd H2 b (.dK kws) ∧ H2 p = some (.dK kv1) ∧ kv1.length ≤ 100000 ∧ kws.length ≤ 100000 ∧ Q (.ref p) (upd H2 p (.dK (mergeK kv1 kws)))
theorem pe_mrg {X : Cx} {pos : Pos} {a b : Expr} {ta tb : TE} (ha : PE X a ta) (hb : PE X b tb) : PE X (.Dict [none, none] [a, b] pos) (tMrg ta tb) := by
  refine ⟨fun pins s σ H Q I q => ?_⟩
  have hn := I.hok.fresh (Nat.le_refl s.heap.objs.size)
  have I1 := I.laid (a := s.heap.objs.size) (o := .dK []) (h' := s.heap.push { cls := .type "dict", data := .dict #[] }) (t' := s.toks) (fun _ _ q => Heap.get?_push_of_some _ q) (Nat.le_refl _) (dk_empty s.heap I.big)
  rw [arm_eval_Dict]
  refine wpAny_bind (wpAny_standAt ?_)
  show wpAny _ _ (dictDisplay [(none, do let x ← eval a X.env; standAt pos; pure x), (none, do let x ← eval b X.env; standAt pos; pure x)]) _ _ _
  unfold dictDisplay
  simp only [List.forIn_cons, List.forIn_nil, List.isEmpty_nil, if_true, pure_bind, bind_assoc]
  refine wpAny_bind (wpAny_alloc ?_)
  obtain hq := q _ hn
  refine wpAny_bind (wpAny_holding (wpAny_bind (thn (ha.run pins _ σ _ _ I1 hq) fun u s2 ⟨x, H2, I2, rx, a', kvs, ex, hne, hrd, hpp, hz, q2⟩ => wpAny_bind (wpAny_standAt (wpAny_pure ?_)))))
  subst ex
  obtain rfl : u = Value.ref a' := rx
  refine wpAny_bind (wpAny_onRaise (wpAny_tryCatch (wpAny_onRaise (wpAny_holding (merge_into I2 hpp hrd hne (Nat.le_trans (by rw [List.length_nil, Nat.zero_add]; exact hz) (by decide)) fun s3 I3 => ?_)))))
  refine wpAny_bind (wpAny_holding (wpAny_bind (thn (hb.run pins _ σ _ _ I3 q2) fun u s4 ⟨y, H4, I4, ry, b', kws, kv1, ey, hne2, hrd2, hpp2, hz1, hz2, q4⟩ => wpAny_bind (wpAny_standAt (wpAny_pure ?_)))))
  subst ey
  obtain rfl : u = Value.ref b' := ry
  refine wpAny_bind (wpAny_onRaise (wpAny_tryCatch (wpAny_onRaise (wpAny_holding (merge_into I4 hpp2 hrd2 hne2 (Nat.le_trans (Nat.add_le_add hz1 hz2) (by decide)) fun s5 I5 => ?_)))))
  exact wpAny_pure ⟨.ref _, _, I5, rfl, q4⟩

/-! ### dicts that are handed in -/
def DIn (A : Rl) (w : Ow) (fs : List (Key × Rl)) : Prop := A = rDct fs ∨ ∃ q, A = rRef q ∧ (q, oD fs) ∈ w
def mergeR (fs gs : List (Key × Rl)) : List (Key × Rl) := gs.foldl (fun acc kv => putKR acc kv.1 kv.2) fs
theorem mergeR_len : ∀ (gs fs : List (Key × Rl)), (mergeR fs gs).length ≤ fs.length + gs.length
  | [], fs => by show fs.length ≤ fs.length + 0; omega
  | p :: r, fs => by
    have h1 := mergeR_len r (putKR fs p.1 p.2)
    have h2 := putKR_len fs p.1 p.2
    show (mergeR (putKR fs p.1 p.2) r).length ≤ _
    rw [List.length_cons]; omega
theorem NR.merge {H : Hp} : ∀ {gs fs : List (Key × Rl)} {ws vs : List (Key × V)}, NR fs vs H → NR gs ws H → NR (mergeR fs gs) (mergeK vs ws) H
  | [], _, [], _, h, _ => h
  | (_, R) :: gs, fs, (_, v) :: ws, vs, h, ⟨e, a, b⟩ => by
    subst e
    exact NR.merge (gs := gs) (ws := ws) (h.putK a) b
  | [], _, _ :: _, _, _, h => h.elim
  | _ :: _, _, [], _, _, h => h.elim
section
variable {F : Fx} {ρ : Ty} {ω w w1 w2 : Ow} {a b e : Expr} {A B R : Rl} {fs gs : List (Key × Rl)} {pos : Pos} {z : Addr × Ol}
theorem At.drop {G H : Hp} (h : At F (z :: w) G H) : At F w G H := ⟨h.gg, h.hh, h.gh, h.fr, h.mm, fun p hp => h.ow p (List.mem_cons_of_mem _ hp), (List.nodup_cons.mp h.nd).2⟩
theorem DIn.isd (h : DIn A w fs) : IsDct F A w fs := by
  rcases h with rfl | ⟨q, rfl, h⟩
  · exact isd_frz
  · exact isd_own h
theorem DIn.mem (h : DIn A w fs) (k : ∀ z ∈ w, z ∈ w1) : DIn A w1 fs := by
  rcases h with rfl | ⟨q, rfl, h⟩
  · exact .inl rfl
  · exact .inr ⟨q, rfl, k _ h⟩
theorem DIn.cons (h : DIn A w fs) : DIn A (z :: w) fs := h.mem fun _ k => List.mem_cons_of_mem _ k
theorem din_frz : DIn (rDct fs) w fs := .inl rfl
theorem din_own {q : Addr} (h : (q, oD fs) ∈ w) : DIn (rRef q) w fs := .inr ⟨q, rfl, h⟩
theorem DIn.ne {p : Addr} {O : Ol} {G H : Hp} {x : V} (h : DIn A w fs) (at_ : At F ((p, O) :: w) G H) (hx : A.r x G) : ∃ q vs, x = .ref q ∧ p ≠ q ∧ Rd H q (.dK vs) ∧ NR fs vs G := by
  have hp := (at_.ow _ List.mem_cons_self).1
  rcases h with rfl | ⟨q, rfl, h⟩
  · obtain ⟨q, od, vs, rfl, h1, h2⟩ := hx
    exact ⟨q, vs, rfl, fun e => (by rw [e, h1] at hp; cases hp), .inr ⟨od, at_.gh _ _ h1⟩, h2⟩
  · obtain ⟨_, _, o, h1, vs, rfl, h2⟩ := at_.ow _ (List.mem_cons_of_mem _ h)
    have nd := (List.nodup_cons.mp at_.nd).1
    exact ⟨q, vs, hx, fun e => nd (e ▸ List.mem_map_of_mem (f := (·.1)) h), .inl h1, h2⟩
theorem en_mrg (ha : ∀ d, ER F ρ (d :: ω) a A (d :: w1)) (hA : DIn A w1 fs) (hb : ∀ d, ER F ρ (d :: w1) b B (d :: w2)) (hB : DIn B w2 gs) (h1 : fs.length ≤ 1000) (h2 : gs.length ≤ 1000) : EN F ρ ω (.Dict [none, none] [a, b] pos) (oD (mergeR (mergeR [] fs) gs)) w2 := fun σ G H at_ sl Q k => by
  refine ew_of (pe_mrg pe_w pe_w) fun p hp => ?_
  have hM : p ∉ F.M := fun hm => at_.mm p hm hp
  have a0 : At F ((p, oD []) :: ω) G (upd H p (.dK [])) := at_.own hp ⟨[], rfl, trivial⟩
  refine ha _ σ G _ a0 sl _ fun x G1 H1 s1 a1 r1 => ?_
  obtain ⟨q, vs, rfl, hne, hrd, hnr⟩ := hA.ne a1 r1
  obtain ⟨_, _, o, hp1, vs0, rfl, hn0⟩ := a1.ow _ List.mem_cons_self
  have e0 : vs0 = [] := by
    match vs0, hn0 with
    | [], _ => rfl
  subst e0
  have l1 : vs.length ≤ 100000 := by rw [← hnr.len]; exact Nat.le_trans h1 (by decide)
  refine ⟨q, vs, rfl, hne, hrd, hp1, l1, ?_⟩
  have a2 : At F ((p, oD (mergeR [] fs)) :: w1) G1 (upd H1 p (.dK (mergeK [] vs))) := a1.chg ⟨_, rfl, NR.merge (fs := []) (vs := []) trivial hnr⟩
  refine hb _ σ G1 _ a2 (sl.up s1) _ fun y G2 H2 s2 a3 r3 => ?_
  obtain ⟨q2, ws, rfl, hne2, hrd2, hnr2⟩ := hB.ne a3 r3
  obtain ⟨_, _, o, hp2, vs1, rfl, hn1⟩ := a3.ow _ List.mem_cons_self
  have l2 : ws.length ≤ 100000 := by rw [← hnr2.len]; exact Nat.le_trans h2 (by decide)
  have l3 : vs1.length ≤ 100000 := by
    rw [← hn1.len]
    exact Nat.le_trans (mergeR_len fs []) (by rw [List.length_nil, Nat.zero_add]; exact Nat.le_trans h1 (by decide))
  refine ⟨q2, ws, vs1, rfl, hne2, hrd2, hp2, l3, l2, ?_⟩
  exact k p G2 _ hM (s1.trans s2) (a3.chg ⟨_, rfl, hn1.merge hnr2⟩)
end
end W1
set_option maxRecDepth 100000
set_option maxHeartbeats 2000000
namespace W1
open PySem PySem.Spec PyProof.Rows L2 NdefX TL NumText

/-! ### amounts: names to ints -/
abbrev Am := List (Str × Int)
def fsA (am : Am) : List (Key × Rl) := am.map fun p => (Sum.inr p.1, rInt p.2)
def valA (am : Am) (g : Str) : Int := ((am.find? fun p => decide (p.1 = g)).map (·.2)).getD 0
def namesA (am : Am) : List Str := am.map (·.1)
theorem kRs_A (am : Am) : kRs (fsA am) = (namesA am).map rStr := by
  unfold kRs fsA namesA
  rw [List.map_map, List.map_map]
  rfl
theorem valR_A : ∀ {am : Am} {g : Str}, g ∈ namesA am → valR (fsA am) (.inr g) = some (rInt (valA am g))
  | [], g, h => by cases h
  | (n, i) :: am, g, h => by
    unfold valR fsA valA
    rw [List.map_cons, List.find?_cons, List.find?_cons]
    by_cases e : n = g
    · simp [e]
    · have hm : g ∈ namesA am := by
        rcases List.mem_cons.mp h with z | z
        · exact absurd z.symm e
        · exact z
      have ih := valR_A hm
      unfold valR fsA valA at ih
      have e1 : decide ((Sum.inr n : Key) = Sum.inr g) = false := decide_eq_false fun z => e (Sum.inr.inj z)
      simp only [e1, e, decide_false]
      exact ih
theorem valR_An {am : Am} {g : Str} (h : g ∉ namesA am) : valR (fsA am) (.inr g) = none ∧ valA am g = 0 := by
  induction am with
  | nil => exact ⟨rfl, rfl⟩
  | cons p am ih =>
    obtain ⟨n, i⟩ := p
    have hn : ¬ n = g := fun z => h (z ▸ List.mem_cons_self)
    obtain ⟨h1, h2⟩ := ih fun z => h (List.mem_cons_of_mem _ z)
    unfold valR fsA valA at *
    rw [List.map_cons, List.find?_cons, List.find?_cons]
    have e1 : decide ((Sum.inr n : Key) = Sum.inr g) = false := decide_eq_false fun z => hn (Sum.inr.inj z)
    simp only [e1, hn, decide_false]
    exact ⟨h1, h2⟩
/-- a dict that is handed in: frozen, or owned -/
def DVar (A : Rl) (w : Ow) (fs : List (Key × Rl)) : Prop := (A = rDct fs ∧ w = []) ∨ ∃ q, A = rRef q ∧ w = [(q, oD fs)]
theorem DVar.isd {F : Fx} {A : Rl} {w w2 : Ow} {fs : List (Key × Rl)} (h : DVar A w fs) : IsDct F A (w ++ w2) fs := by
  rcases h with ⟨rfl, rfl⟩ | ⟨q, rfl, rfl⟩
  · exact isd_frz
  · exact isd_own List.mem_cons_self
theorem DVar.isd0 {F : Fx} {A : Rl} {w : Ow} {fs : List (Key × Rl)} (h : DVar A w fs) : IsDct F A w fs := by
  have := h.isd (F := F) (w2 := [])
  rw [List.append_nil] at this
  exact this
theorem bt_list : bootBuiltins "list" = some (.type "list") := by decide +kernel
theorem bt_sorted : bootBuiltins "sorted" = some (.builtin "sorted") := by decide +kernel
section
variable {F : Fx} {ρ : Ty} {ω w : Ow} {e : Expr} {A : Rl} {am : Am} {p1 p2 pos1 pos2 : Pos}
/-- sorted(list(d)) -/
theorem er_sorted (he : ER F ρ ω e A w) (hd : IsDct F A w (fsA am)) (hz : am.length < 64) (hc : F.X.calm = true) (ls : F.X.mg "list" = none) (st : F.X.mg "sorted" = none) (gl : Gl F.X "list" := by rfl) (gs : Gl F.X "sorted" := by rfl)
    (h1 : starEach [e] F.X.env = (false, eval e F.X.env) :: starEach [] F.X.env := by rfl) (h2 : (backTo pos1 (starEach [] F.X.env)).any (·.1) = false := by rfl)
    (h3 : starEach [.Call (.Name "list" p1) [e] [] pos1] F.X.env = (false, eval (.Call (.Name "list" p1) [e] [] pos1) F.X.env) :: starEach [] F.X.env := by rfl) (h4 : (backTo pos2 (starEach [] F.X.env)).any (·.1) = false := by rfl) :
    ER F ρ ω (.Call (.Name "sorted" p2) [.Call (.Name "list" p1) [e] [] pos1] [] pos2) (rLst ((srt (namesA am)).map rStr)) w :=
  er_callB (cop_sortedS (by unfold namesA; rw [List.length_map]; exact hz)) gs st bt_sorted (ar_cons (er_eq (er_callTy (cop_listD hc hd) gl ls bt_list (ar_cons he ar_nil (hs := h1)) (by decide) (by decide) h1 h2) (congrArg rLst (kRs_A am))) ar_nil (hs := h3)) (by decide) (by decide) h3 h4
end
/-! ### what is lent -/
def Sub (wc w : Ow) : Prop := ∃ r, w.Perm (wc ++ r)
theorem Sub.nil {w : Ow} : Sub [] w := ⟨w, List.Perm.refl _⟩
theorem Sub.refl {w : Ow} : Sub w w := ⟨[], by rw [List.append_nil]⟩
theorem Sub.app {a b : Ow} : Sub a (a ++ b) := ⟨b, List.Perm.refl _⟩
theorem Sub.app2 {a b : Ow} : Sub b (a ++ b) := ⟨a, List.perm_append_comm⟩
theorem Sub.cons {a w : Ow} {z : Addr × Ol} (h : Sub a w) : Sub a (z :: w) := by
  obtain ⟨r, p⟩ := h
  exact ⟨z :: r, (List.Perm.cons z p).trans List.perm_middle.symm⟩
theorem Sub.one {w : Ow} {z : Addr × Ol} (h : z ∈ w) : Sub [z] w := by
  obtain ⟨s, t, rfl⟩ := List.append_of_mem h
  exact ⟨s ++ t, List.perm_middle⟩
theorem Sub.both {a w : Ow} {z : Addr × Ol} (h : Sub a w) : Sub (z :: a) (z :: w) := by
  obtain ⟨r, p⟩ := h
  exact ⟨r, List.Perm.cons z p⟩
theorem Sub.ins {a w : Ow} {z : Addr × Ol} {i : Nat} (hi : w[i]? = some z) (h : Sub a (w.eraseIdx i)) : Sub (z :: a) w := by
  obtain ⟨r, p⟩ := h
  exact ⟨r, (perm_at (z' := z) hi).1.trans (List.Perm.cons z p)⟩
theorem DVar.sub {A : Rl} {wc w : Ow} {fs : List (Key × Rl)} (h : DVar A wc fs) (k : ∀ z ∈ wc, z ∈ w) : Sub wc w := by
  rcases h with ⟨_, rfl⟩ | ⟨q, _, rfl⟩
  · exact Sub.nil
  · exact Sub.one (k _ List.mem_cons_self)
theorem DVar.din {A : Rl} {wc w : Ow} {fs : List (Key × Rl)} (h : DVar A wc fs) (k : ∀ z ∈ wc, z ∈ w) : DIn A w fs := by
  rcases h with ⟨rfl, rfl⟩ | ⟨q, rfl, rfl⟩
  · exact .inl rfl
  · exact .inr ⟨q, rfl, k _ List.mem_cons_self⟩
theorem DIn.var {A : Rl} {w : Ow} {fs : List (Key × Rl)} (h : DIn A w fs) : ∃ wc, DVar A wc fs ∧ Sub wc w := by
  rcases h with rfl | ⟨q, rfl, h⟩
  · exact ⟨[], .inl ⟨rfl, rfl⟩, Sub.nil⟩
  · exact ⟨_, .inr ⟨q, rfl, rfl⟩, Sub.one h⟩
section
variable {F : Fx} {ρ : Ty} {ω w w1 w2 w3 wc wc' : Ow} {a b c e o : Expr} {es : List Expr} {A B R S : Rl} {Rs As : List Rl} {P : Er} {pos p apos : Pos} {x m : Str} {k : Nat} {C q : Addr} {pre : Pre} {O O' : Ol} {fs : List (Str × Rl)} {K : Kn} {rest : List Stmt}
theorem er_fS (T : Kf1 F.X.prog F.X.w F.X.K F.X.mg F.X.base x k pre) (hr : Room k F.X.A) (ha : AR F ρ ω (e :: es) Rs w) (hs : Sub wc w) (hp : pre Rs wc (.ok R) wc)
    (hg : Gl F.X x := by rfl) (hdb : (x == ("__debug__" : Str)) = false := by decide) (he : starEach (e :: es) F.X.env = (false, eval e F.X.env) :: starEach es F.X.env := by rfl) (hpl : (backTo pos (starEach es F.X.env)).any (·.1) = false := by rfl) :
    ER F ρ ω (.Call (.Name x p) (e :: es) [] pos) R w := by
  obtain ⟨r, pm⟩ := hs
  exact er_perm (er_fn T hr (ar_perm ha pm) hp rfl hg hdb he hpl) pm.symm
theorem ex_fS (T : Kf1 F.X.prog F.X.w F.X.K F.X.mg F.X.base x k pre) (hr : Room k F.X.A) (ha : AR F ρ ω (e :: es) Rs w) (hs : Sub wc w) (hp : pre Rs wc (.error P) wc)
    (hg : Gl F.X x := by rfl) (hdb : (x == ("__debug__" : Str)) = false := by decide) (he : starEach (e :: es) F.X.env = (false, eval e F.X.env) :: starEach es F.X.env := by rfl) (hpl : (backTo pos (starEach es F.X.env)).any (·.1) = false := by rfl) :
    EX F ρ ω (.Call (.Name x p) (e :: es) [] pos) P w := by
  obtain ⟨r, pm⟩ := hs
  obtain ⟨f, fd, ps, h1, h2, h3, h4⟩ := T
  exact ex_perm (ex_call (ar_perm ha pm) hp rfl h4 hr h1 h2 h3 hg hdb he hpl) pm.symm
theorem er_cS (T : Kc F.X.prog F.X.w F.X.K F.X.mg F.X.base C x k pre) (hr : Room (k + 1) F.X.A) (ha : AR F ρ ω (e :: es) Rs w) (hs : Sub wc w) (hp : ∀ q, pre (rRef q :: Rs) ((q, oIns C []) :: wc) (.ok rNon) ((q, oIns C fs) :: wc))
    (hg : Gl F.X x := by rfl) (hdb : (x == ("__debug__" : Str)) = false := by decide) (he : starEach (e :: es) F.X.env = (false, eval e F.X.env) :: starEach es F.X.env := by rfl) (hpl : (backTo pos (starEach es F.X.env)).any (·.1) = false := by rfl) :
    ER F ρ ω (.Call (.Name x p) (e :: es) [] pos) (rIns C fs) w := by
  obtain ⟨r, pm⟩ := hs
  exact er_perm (er_cW T hr (ar_perm ha pm) hp rfl hg hdb he hpl) pm.symm
theorem ex_cS (T : Kc F.X.prog F.X.w F.X.K F.X.mg F.X.base C x k pre) (hr : Room (k + 1) F.X.A) (ha : AR F ρ ω (e :: es) Rs w) (hs : Sub wc w) (hp : ∀ q, ∃ O, pre (rRef q :: Rs) ((q, oIns C []) :: wc) (.error P) ((q, O) :: wc)) (hP : ∀ cls d G G', Same G G' → P cls d G → P cls d G')
    (hg : Gl F.X x := by rfl) (hdb : (x == ("__debug__" : Str)) = false := by decide) (he : starEach (e :: es) F.X.env = (false, eval e F.X.env) :: starEach es F.X.env := by rfl) (hpl : (backTo pos (starEach es F.X.env)).any (·.1) = false := by rfl) :
    EX F ρ ω (.Call (.Name x p) (e :: es) [] pos) P w := by
  obtain ⟨r, pm⟩ := hs
  exact ex_perm (ex_cW T hr (ar_perm ha pm) hp hP rfl hg hdb he hpl) pm.symm

/-! ### what is given, by what holds of it -/
def EG (F : Fx) (ρ : Ty) (ω : Ow) (e : Expr) (Φ : Rl → Ow → Prop) : Prop :=
  ∀ σ G H, At F ω G H → Slots ρ σ G → ∀ Q : VK, (∀ v G2 H2 R w, Φ R w → Same G G2 → At F w G2 H2 → R.r v G2 → Q v H2) → EW F.X e σ H Q
def AG (F : Fx) (ρ : Ty) (ω : Ow) (es : List Expr) (Φ : List Rl → Ow → Prop) : Prop :=
  ∀ σ G H, At F ω G H → Slots ρ σ G → ∀ Q : List V → Hp → Prop, (∀ vs G2 H2 Rs w, Φ Rs w → Same G G2 → At F w G2 H2 → All2 Rs vs G2 → Q vs H2) → AW F.X es σ H Q
variable {Φ : Rl → Ow → Prop} {Ψ : List Rl → Ow → Prop}
theorem eg_er (h : ER F ρ ω e R w) (k : Φ R w) : EG F ρ ω e Φ := fun σ G H at_ sl Q q => h σ G H at_ sl Q fun v G2 H2 s a r => q v G2 H2 R w k s a r
theorem eg_en (h : EN F ρ ω e O w) (k : ∀ q, q ∉ F.M → Φ (rRef q) ((q, O) :: w)) : EG F ρ ω e Φ := fun σ G H at_ sl Q z => h σ G H at_ sl Q fun q G2 H2 hM s a => z _ G2 H2 _ _ (k q hM) s a rfl
theorem ag_nil (k : Ψ [] ω) : AG F ρ ω [] Ψ := fun σ G H at_ sl Q q => aw_of pa_nil (q [] G H [] ω k (Same.refl _) at_ trivial)
theorem ag_cons (h : EG F ρ ω e Φ) (hr : ∀ R w, Φ R w → AG F ρ w es fun Rs w' => Ψ (R :: Rs) w') (hs : starEach (e :: es) F.X.env = (false, eval e F.X.env) :: starEach es F.X.env := by rfl) : AG F ρ ω (e :: es) Ψ := fun σ G H at_ sl Q q =>
  aw_of (pa_cons pe_w pa_w hs) (h σ G H at_ sl _ fun v G2 H2 R w k s a r => hr R w k σ G2 H2 a (sl.up s) _ fun vs G3 H3 Rs w' k3 s3 a3 r3 => q _ G3 H3 (R :: Rs) w' k3 (s.trans s3) a3 ⟨R.mo _ _ _ s3 r, r3⟩)
/-- a list that stays as it is -/
theorem eg_lst (h : AG F ρ ω es fun Rs w => Rs.length ≤ 1000 ∧ Φ (rLst Rs) w) : EG F ρ ω (.List es pos) Φ := fun σ G H at_ sl Q q => by
  refine ew_of (pe_lst pa_w) (h σ G H at_ sl _ fun vs G2 H2 Rs w k s a r => ⟨Nat.le_of_lt (small1000 (by rw [← r.len]; exact k.1)), fun p hp => ?_⟩)
  have st := Step.new (o := .lst vs) a.gh hp
  exact q _ _ _ _ _ k.2 (s.trans st.gg) (a.step st) ⟨p, vs, rfl, upd_same, r.up st.gg⟩
/-- a list that is owned -/
theorem eg_lstO (h : AG F ρ ω es fun Rs w => Rs.length ≤ 1000 ∧ ∀ q, q ∉ F.M → Φ (rRef q) ((q, oL Rs) :: w)) : EG F ρ ω (.List es pos) Φ := fun σ G H at_ sl Q q => by
  refine ew_of (pe_lst pa_w) (h σ G H at_ sl _ fun vs G2 H2 Rs w k s a r => ⟨Nat.le_of_lt (small1000 (by rw [← r.len]; exact k.1)), fun p hp => ?_⟩)
  exact q _ G2 _ _ _ (k.2 p fun hm => a.mm p hm hp) s (a.own hp ⟨vs, rfl, r⟩) rfl
theorem hb_setG (i : Nat) (hi : F.X.N[i]? = some x) (he : EG F ρ ω e Φ) (h : ∀ R w, Φ R w → HB F (ρ.set i (some R)) w rest K) (hN : F.X.N.Nodup := by assumption) (hx : Loc F.X.env.scope x := by first | exact Or.inl rfl | exact Or.inr rfl)
    (hs : swapsWith e (some (.Name x p)) pos.line F.X.env = pure false := by rfl) (hf : F.X.fn x = true ∨ F.X.env.scope.names.lookup x = some .local := by first | exact .inl rfl | exact .inr rfl | assumption) :
    HB F ρ ω (.Assign [.Name x p] e pos :: rest) K := hb_cons fun σ G H D at_ sl ps =>
  sw_of (ps_set hN hi hx pe_w hs hf) (he σ G H at_ sl _ fun v G2 H2 R w k s a r => h R w k _ G2 H2 D a ((sl.up s).set i r) (ps.up s))
theorem hb_retG (he : EG F ρ ω e Φ) (h : ∀ R w, Φ R w → K.rt R w) : HB F ρ ω (.Return (some e) pos :: rest) K := hb_cons fun σ G H D at_ sl ps =>
  sw_of (ps_ret pe_w) (he σ G H at_ sl _ fun v G2 H2 R w k s a r => ps.rt R w (h R w k) v G2 H2 s a r)
theorem hb_drop {z : Addr × Ol} (h : HB F ρ w rest K) : HB F ρ (z :: w) rest K := fun σ G H D at_ sl ps => h σ G H D at_.drop sl ps
/-! ### a op b op' c -/
theorem tr_chain {op op' : CmpOp} {k m : Bool} (ha : ER F ρ ω a A w1) (hb : ER F ρ w1 b B w2) (h : Bop F w2 (compareOp op) A B (rBool k)) (hc : k = true → ER F ρ w2 c S w2) (h' : k = true → Bop F w2 (compareOp op') B S (rBool m)) (hm : lastMarks [op, op'] [b, c] = false := by rfl) : TR F ρ ω (.Compare a [op, op'] [b, c] pos) (k && m) w2 := fun σ G H at_ sl Q q => by
  obtain ⟨r, ho, kk⟩ := h
  cases k with
  | true =>
    obtain ⟨r', ho', kk'⟩ := h' rfl
    refine tw_of (pt_chain ho ho' pe_w pe_w pe_w (hm := hm)) (ha σ G H at_ sl _ fun x G1 H1 s1 a1 r1 => hb σ G1 H1 a1 (sl.up s1) _ fun y G2 H2 s2 a2 r2 => ?_)
    refine kk x y G2 H2 a2 (A.mo _ _ _ s2 r1) r2 _ fun z G3 H3 s3 a3 r3 => ⟨true, r3, iteT (hc rfl σ G3 H3 a3 (sl.up ((s1.trans s2).trans s3)) _ fun u G4 H4 s4 a4 r4 => ?_)⟩
    exact kk' y u G4 H4 a4 (B.mo _ _ _ (s3.trans s4) r2) r4 _ fun z2 G5 H5 s5 a5 r5 => ⟨m, r5, q G5 H5 ((((s1.trans s2).trans s3).trans s4).trans s5) a5⟩
  | false =>
    refine tw_of (pt_chain (r' := fun _ _ _ _ => False) ho (fun _ _ _ _ _ _ _ _ _ _ _ _ h => h.elim) pe_w pe_w pe_w (hm := hm)) (ha σ G H at_ sl _ fun x G1 H1 s1 a1 r1 => hb σ G1 H1 a1 (sl.up s1) _ fun y G2 H2 s2 a2 r2 => ?_)
    refine kk x y G2 H2 a2 (A.mo _ _ _ s2 r1) r2 _ fun z G3 H3 s3 a3 r3 => ⟨false, r3, iteF ⟨false, rfl, q G3 H3 ((s1.trans s2).trans s3) a3⟩⟩
end
/-! ### dicts of plain values -/
theorem nr_fsV {ks : List (Key × V)} : fsV ks = ks.map fun p => (p.1, rEqV p.2) := rfl
end W1
set_option maxRecDepth 100000
set_option maxHeartbeats 2000000
namespace W1S
open PySem PySem.Spec PyProof.Rows L2

/-! ### a set of texts, by its entries -/
def nameOf (e : Int × Value) : Str := match e.2 with | .str x _ => x | _ => Str.empty
def IsTxt (w : World) (e : Int × Value) : Prop := ∃ x u, e = (hashStr w x, Value.str x u)
structure Fine (w : World) (es : Array (Int × Value)) (t : SetTable) (xs : List Str) : Prop where
  txt : ∀ e ∈ es.toList, IsTxt w e
  once : (es.toList.map nameOf).Nodup
  mem : ∀ x, x ∈ es.toList.map nameOf ↔ x ∈ xs
  few : es.size ≤ xs.length
  fits : t.fits es.size = true
  ris : Ris t.place.toList
  led : w.params.followText "set-order" = true ∨ t.led = true
section
variable {P : Program} {w : World} {es es' : Array (Int × Value)} {t t' : SetTable} {xs : List Str} {x : Str} {u : Tok}
theorem Fine.elems (f : Fine w es t xs) : ElemsOf (PySem.strKind P w) es.toList := fun e he => by
  obtain ⟨x, u, rfl⟩ := f.txt e he
  exact ⟨⟨x, strKind_is P w x u, rfl⟩, rfl⟩
theorem Fine.hit (f : Fine w es t xs) : x ∈ xs ↔ ∃ e ∈ es.toList, (PySem.strKind P w).is x e.2 = true := by
  rw [← f.mem, List.mem_map]
  refine exists_congr fun e => and_congr_right fun he => ?_
  obtain ⟨y, u, rfl⟩ := f.txt e he
  show y = x ↔ (Value.str y u).isStrOf x = true
  constructor
  · rintro rfl
    exact strKind_is P w y u
  · intro z
    obtain ⟨u', h⟩ := Value.isStrOf_shape z
    injection h
/-- the same entries in another order, under another table -/
theorem Fine.again (f : Fine w es t xs) (pm : es'.toList.Perm es.toList) (fits : t'.fits es'.size = true) (ris : Ris t'.place.toList) (led : t'.led = t.led) : Fine w es' t' xs where
  txt := fun e he => f.txt e (pm.mem_iff.mp he)
  once := (pm.map nameOf).nodup_iff.mpr f.once
  mem := fun x => (pm.map nameOf).mem_iff.trans (f.mem x)
  few := by rw [← Array.length_toList, pm.length_eq, Array.length_toList]; exact f.few
  fits := fits
  ris := ris
  led := by rw [led]; exact f.led
/-- one more -/
theorem Fine.more (f : Fine w es t xs) (h : x ∉ xs) : Fine w (layNew t es (hashStr w x) (.str x u)).1 (layNew t es (hashStr w x) (.str x u)).2.1 (xs ++ [x]) := by
  have pm : (layNew t es (hashStr w x) (.str x u)).1.toList.Perm ((hashStr w x, Value.str x u) :: es.toList) := (layNew_perm t es _ _).trans (by rw [Array.toList_push]; exact List.perm_append_singleton _ _)
  have pn := pm.map nameOf
  have new : x ∉ es.toList.map nameOf := fun z => h ((f.mem x).mp z)
  refine ⟨fun e he => ?_, pn.nodup_iff.mpr (List.nodup_cons.mpr ⟨new, f.once⟩), fun y => ?_, ?_, layNew_fits t es _ _, layNew_ris t es _ _ f.ris, by rw [layNew_led]; exact f.led⟩
  · rcases List.mem_cons.mp (pm.mem_iff.mp he) with rfl | z
    · exact ⟨x, u, rfl⟩
    · exact f.txt e z
  · rw [pn.mem_iff, List.map_cons, List.mem_cons, f.mem, List.mem_append, List.mem_singleton]
    exact Or.comm
  · rw [← Array.length_toList, pm.length_eq, List.length_cons, Array.length_toList, List.length_append]
    exact Nat.add_le_add_right f.few 1
theorem Fine.known (f : Fine w es t xs) (h : x ∈ xs) : Fine w es t (xs ++ [x]) :=
  ⟨f.txt, f.once, fun y => by rw [f.mem, List.mem_append, List.mem_singleton]; exact ⟨.inl, fun z => z.elim id fun e => e ▸ h⟩, Nat.le_trans f.few (by rw [List.length_append]; omega), f.fits, f.ris, f.led⟩
theorem Fine.relay (f : Fine w es t xs) (n : Nat) : Fine w (relayAll t es n).1 (relayAll t es n).2.1 xs :=
  f.again (relayAll_perm t es n) (relayAll_fits t es n) (relayAll_ris t es n) (relayAll_led t es n)
theorem Fine.off (f : Fine w es t xs) : Fine w es { t with plain := false } xs := ⟨f.txt, f.once, f.mem, f.few, SetTable.fits_plain_off f.fits, f.ris, f.led⟩
end
/-- the set of the texts xs, at a -/
def SetS (w : World) (h : Heap) (a : Addr) (xs : List Str) : Prop := ∃ o es ep t, h.get? a = some o ∧ o.ExactSet ∧ o.data = .set es ep t ∧ Fine w es t xs
section
variable {P : Program} {w : World} {A : Around} {E : Value → Shared → Prop} {s : Shared} {a : Addr} {xs : List Str}
theorem SetS.at {h h' : Heap} (S : SetS w h a xs) (k : ∀ o, h.get? a = some o → h'.get? a = some o) : SetS w h' a xs := by
  obtain ⟨o, es, ep, t, g, r⟩ := S
  exact ⟨o, es, ep, t, k o g, r⟩
/-- writing entries that are fine -/
theorem write_fine {o : Obj} {es es' : Array (Int × Value)} {ep : Nat} {t t' : SetTable} {ys : List Str} {Q : Unit → Shared → Prop} (g : s.heap.get? a = some o) (ex : o.ExactSet) (at_ : o.data = .set es ep t) (f : Fine w es' t' ys) (few : ys.length < scanBound)
    (q : ∀ h', Heap.SameBut a s.heap h' → (∃ o', h'.get? a = some o' ∧ o'.ExactSet ∧ o'.data = .set es' (ep + 1) t') → Q () { s with heap := h' }) : wpAny (model P w) A (storeSet a es' t') Q E s := by
  refine wpAny_storeSet_of g at_ (q _ (Heap.SameBut.update ..) ⟨{ o with data := .set es' (ep + 1) t' }, ?_, ex, rfl⟩) (fits_of_scanBound (Nat.lt_of_le_of_lt f.few few))
  have := Heap.get?_update_self (Obj.putSet es' t') g (by rw [putSet_of es' t' at_]; rfl)
  rwa [putSet_of es' t' at_] at this
theorem add_txt {x : Str} {u : Tok} {Q : Bool → Shared → Prop} (S : SetS w s.heap a xs) (few : xs.length + 1 < scanBound) (q : ∀ r h', Heap.SameBut a s.heap h' → SetS w h' a (xs ++ [x]) → Q r { s with heap := h' }) :
    wpAny (model P w) A (setAddHashed a (.str x u) (hashStr w x)) Q E s := by
  obtain ⟨o, es, ep, t, g, ex, at_, f⟩ := S
  have el : ElemsOf (PySem.strKind P w) es.toList := f.elems
  have lim : es.size < scanBound := Nat.lt_of_le_of_lt f.few (by omega)
  have lim2 : (xs ++ [x]).length < scanBound := by rw [List.length_append]; exact few
  have scan : (Value.str x u).scannable = true := rfl
  unfold setAddHashed setAddHashedIn
  refine wpAny_holding (wpAny_bind (wpAny_setState_of g at_ f.fits ?_))
  dsimp only
  rw [if_pos (byScan_of scan lim el)]
  unfold setAddByScan
  refine wpAny_bind (wpAny_bind (wpAny_rule (wpAny_bind (wpAny_setScan_of (knd := PySem.strKind P w) (strKind_is P w x u) g at_ f.fits el ?_))))
  cases seek : es.toList.findIdx? fun e => (PySem.strKind P w).is x e.2 with
  | some j =>
    obtain ⟨hj, is, -⟩ := List.findIdx?_eq_some_iff_getElem.mp seek
    exact wpAny_pure (wpAny_pure (q false s.heap (Heap.SameBut.refl _ _) ⟨o, es, ep, t, g, ex, at_, f.known (f.hit.mpr ⟨_, List.getElem_mem hj, is⟩)⟩))
  | none =>
    have new : x ∉ xs := fun z => by
      obtain ⟨e, he, is⟩ := (f.hit (P := P)).mp z
      have := List.findIdx?_eq_none_iff.mp seek e he
      rw [is] at this
      cases this
    have f1 := f.more (u := u) new
    dsimp only
    generalize layNew t es (hashStr w x) (.str x u) = Z at f1 ⊢
    obtain ⟨es1, t1, dummy, gw⟩ := Z
    dsimp only at f1 ⊢
    -- what follows, for whatever table is kept; g only says that a table gave way
    have tell : ∀ (g0 : Bool → Sem Unit), (∀ (b : Bool) (s1 : Shared) (Q' : Unit → Shared → Prop), Q' () s1 → wpAny (model P w) A (g0 b) Q' E s1) → ∀ t2 : SetTable, Fine w es1 t2 (xs ++ [x]) → wpAny (model P w) A (do
        storeSet a es1 t2
        if (!dummy && t2.tooFull) = true then do
            g0 (relayAll t2 es1 (SetTable.grown es1.size)).2.2
            storeSet a (relayAll t2 es1 (SetTable.grown es1.size)).1 (relayAll t2 es1 (SetTable.grown es1.size)).2.1
            pure (some true)
          else pure (some true)) (fun r s1 => wpAny (model P w) A (match r with | some added => pure added | none => setAddHashedIn a (.str x u) (hashStr w x) 99999) Q E s1) E s := by
      intro g0 quiet t2 f2
      refine wpAny_bind (write_fine g ex at_ f2 lim2 ?_)
      rintro h1 same1 ⟨o1, g1, ex1, at1⟩
      split
      · refine wpAny_bind (quiet _ _ _ (wpAny_bind (write_fine (s := { s with heap := h1 }) g1 ex1 at1 (f2.relay _) lim2 ?_)))
        rintro h2 same2 ⟨o2, g2, ex2, at2⟩
        exact wpAny_pure (wpAny_pure (q true h2 (same1.trans same2) ⟨o2, _, _, _, g2, ex2, at2, f2.relay _⟩))
      · exact wpAny_pure (wpAny_pure (q true h1 same1 ⟨o1, _, _, _, g1, ex1, at1, f2⟩))
    have hush : ∀ {b : Bool} {s1 : Shared} {Q' : Unit → Shared → Prop}, Q' () s1 → wpAny (model P w) A (match b with | true => rule "set.scan.the-table-gave-way" | false => pure ()) Q' E s1 := fun {b} {s1} {Q'} z => by
      cases b
      · exact wpAny_pure z
      · exact wpAny_rule z
    refine wpAny_bind (hush ?_)
    split
    · refine wpAny_bind ?_
      rw [hashByValue_scannable 8 scan]
      refine wpAny_pure ?_
      split
      · exact tell _ (fun b s1 Q' z => hush z) _ f1
      · exact tell _ (fun b s1 Q' z => hush z) _ f1.off
    · refine wpAny_bind (wpAny_pure ?_)
      exact tell _ (fun b s1 Q' z => hush z) _ f1
end
end W1S
set_option maxRecDepth 100000
set_option maxHeartbeats 4000000
namespace W1S
open PySem PySem.Spec PyProof.Rows L2
section
variable {P : Program} {w : World} {A : Around} {E : Value → Shared → Prop} {s : Shared}
abbrev emptySet (led : Bool) : Obj := { cls := .type "set", dict := none, data := .set #[] 0 (.fresh 0 0 led) }
abbrev ledOf (w : World) : Bool := !w.params.followText "set-order"
theorem fine_new (w : World) : Fine w #[] (.fresh 0 0 (ledOf w)) [] where
  txt := fun e he => by cases he
  once := List.nodup_nil
  mem := fun x => Iff.rfl
  few := Nat.le_refl 0
  fits := rfl
  ris := List.Pairwise.nil
  led := if h : w.params.followText "set-order" = true then .inl h else .inr (by
    show ledOf w = true
    unfold ledOf
    rw [Bool.eq_false_iff.mpr h]
    rfl)
/-- the class that set.__new__ is told -/
theorem told_cls (v : Value) : Builtin.Frozenset.newClass "set" ⟨[.type "set", v], []⟩ = pure (.type "set", [v]) := by
  have self := sub_set_self
  unfold Builtin.Frozenset.newClass
  dsimp only
  rw [show isType (.type "set") = pure true from rfl]
  simp only [pure_bind, self]
  rfl
/-- an empty set, made -/
theorem made_set {B : Around} {Q : Value → Shared → Prop} (q : Q (.ref s.heap.objs.size) { s with heap := s.heap.push (emptySet (ledOf w)) }) : wpAny (model P w) B (newSet (.type "set")) Q E s :=
  wpAny_bind (wpAny_bind (wpAny_askSetting (wpAny_pure (wpAny_bind (wpAny_alloc (wpAny_pure q))))))
/-- what set.__new__ makes of one argument -/
theorem new_one (v : Value) {Q : Value → Shared → Prop} (q : Q (.ref s.heap.objs.size) { s with heap := s.heap.push (emptySet (ledOf w)) }) : codeAny (model P w) A (.call (.builtin "set.__new__") ⟨[.type "set", v], []⟩) (wants Q E) s :=
  codeAny_of_tree (wpAny_bind (wpAny_of_eq (F.newCall_set_1 v) (wpAny_pure ⟨plainId_quiet F.plain_set_new _, codeAny_builtin F.entry_set_new (wpAny_bind (wpAny_of_eq (told_cls v) (wpAny_bind (made_set (wpAny_pure q)))))⟩)))
/-- the loop that adds the items of a list of texts: those from the i-th on -/
theorem add_all {I S : Addr} {fp wr : List Addr} {G : Array GenState → Array GenState → Prop} {n : Nat} {Pv : Nat → Value → Prop} {St : Nat → Shared → Prop} {R : Result → Shared → Prop} {xs : List Str}
    (W : WalksS P w A.in1 I fp wr G n Pv St) (out : S ∉ fp) (len : xs.length = n) (few : n + 1 < scanBound) (val : ∀ (i : Nat) v, Pv i v → ∃ x u, xs[i]? = some x ∧ v = .str x u) :
    ∀ (k i : Nat) (s : Shared), i + k = n → St i s → SetS w s.heap S (xs.take i) → (∀ s', Moved (S :: wr) G s s' → SetS w s'.heap S xs → R (.ok (.ret .none)) s') →
      codeAny (model P w) A (.builtin "set.update.loop" ⟨[.ref S, .ref I], []⟩) R s
  | 0, i, s, hk, st, SS, r => by
    have all : xs.take i = xs := List.take_of_length_le (by omega)
    rw [all] at SS
    have apart : S ∉ wr := fun z => out (W.sub _ z)
    refine codeAny_builtin F.entry_set_update_loop ?_
    rw [Around.under_plainId F.plain_set_update_loop _]
    obtain rfl : i = n := by omega
    show wpAny _ A.in1 (pyNext (.ref I) >>= _) _ _ s
    refine wpAny_bind (W.done s _ _ st fun s' mv => ?_)
    exact wpAny_pure (r s' (mv.mono fun b hb => List.mem_cons_of_mem _ hb) (SS.at fun o g => mv.heap S o apart g))
  | k + 1, i, s, hk, st, SS, r => by
    have apart : S ∉ wr := fun z => out (W.sub _ z)
    refine codeAny_builtin F.entry_set_update_loop ?_
    rw [Around.under_plainId F.plain_set_update_loop _]
    show wpAny _ A.in1 (pyNext (.ref I) >>= _) _ _ s
    refine wpAny_bind (W.item i s _ _ (by omega) st fun v s1 pv st1 mv => ?_)
    obtain ⟨x, u, hx, rfl⟩ := val i v pv
    have S1 : SetS w s1.heap S (xs.take i) := SS.at fun o g => mv.heap S o apart g
    have longer : xs.take (i + 1) = xs.take i ++ [x] := by rw [List.take_add_one, hx]; rfl
    show wpAny _ A.in1 (holding [Value.str x u] (setAdd S (.str x u)) >>= _) _ _ s1
    refine wpAny_bind (wpAny_holding ?_)
    unfold setAdd
    refine wpAny_holding (wpAny_bind ((PySem.strKind P w).pyHash (strKind_is P w x u) ?_))
    refine add_txt (s := { s1 with toks := s1.toks + 1 }) S1 (by rw [List.length_take]; omega) fun b h2 same S2 => ?_
    rw [← longer] at S2
    refine wpAny_pure ⟨plainId_quiet F.plain_set_update_loop _, add_all W out len few val k (i + 1) _ (by omega) (W.frame _ s1 _ _ st1 (Nat.le_succ _) fun b hb o e => ?_) S2 fun s3 mv3 S3 => ?_⟩
    · rw [same.2 b fun z => out (z ▸ hb)]
      exact e
    · refine r s3 (Moved.trans W.gtrans ((mv.mono fun b hb => List.mem_cons_of_mem _ hb).then_heap (Nat.le_succ _) fun b o hb e => ?_) mv3) S3
      rw [same.2 b fun z => hb (z ▸ List.mem_cons_self)]
      exact e
end
end W1S
set_option maxRecDepth 100000
set_option maxHeartbeats 4000000
namespace W1S
open PySem PySem.Spec PyProof.Rows L2
section
variable {P : Program} {w : World} {A : Around} {E : Value → Shared → Prop} {s : Shared}
/-- filling a set from a list: the list's items are asked -/
theorem from_list {S l : Addr} {id : String} {Q : Unit → Shared → Prop} (ty : s.TypeIs (.ref l) "list")
    (k : wpAny (model P w) A (pyIter (.ref l)) (fun it s1 => wpAny (model P w) A (runValue (.builtin "set.update.loop" ⟨[.ref S, it], []⟩)) (fun _ s2 => Q () s2) E s1) E s) : wpAny (model P w) A (Builtin.Frozenset.updateFrom id S (.ref l)) Q E s := by
  have no : wpAny (model P w) A (Builtin.Frozenset.isAnySet (.ref l)) (fun b s1 => b = false ∧ s1 = s) E s :=
    wpAny_bind (wpAny_isInstance ty F.sub_list_set (wpAny_isInstance ty F.sub_list_frozenset ⟨rfl, rfl⟩))
  refine wpAny_bind (wpAny_mono no (fun b s1 hb => ?_) fun _ _ h => h)
  obtain ⟨rfl, rfl⟩ := hb
  exact wpAny_bind (wpAny_typeOf ty (wpAny_bind (wpAny_mono k (fun it s1 h => wpAny_bind (wpAny_mono h (fun _ s2 q => wpAny_pure q) fun _ _ h => h)) fun _ _ h => h)))
/-- __init__ of a new set: what is given is put in -/
theorem init_new {S : Addr} {v : Value} {led : Bool} {Q : PySem.Fin → Shared → Prop} (mine : s.heap.get? S = some (emptySet led)) (k : wpAny (model P w) A (Builtin.Frozenset.updateFrom "set.__init__" S v) (fun _ s2 => wpAny (model P w) A (ret .none) Q E s2) E s) :
    wpAny (model P w) A (Builtin.«set.__init__» ⟨[.ref S, v], []⟩) Q E s := by
  have ty : s.TypeIs (.ref S) "set" := ⟨_, mine, rfl⟩
  unfold Builtin.«set.__init__»
  generalize Builtin.Frozenset.updateFrom = U at *
  unfold noKeywords
  wp_walk
  exact k
/-- set(l) of a list of texts -/
theorem set_of {l : Addr} {items : Array Value} {xs : List Str} {Q : Value → Shared → Prop} (hh : A.handled = none) (hl : s.heap.IsList l items) (tx : StrsAre items.toList xs) (few : xs.length + 1 < scanBound)
    (q : ∀ h' tk, SetS w h' s.heap.objs.size xs → (∀ b o, s.heap.get? b = some o → h'.get? b = some o) → Q (.ref s.heap.objs.size) { s with heap := h', toks := tk }) : wpAny (model P w) A (call (.type "set") [.ref l]) Q E s := by
  have mine : (s.heap.push (emptySet (ledOf w))).get? s.heap.objs.size = some (emptySet (ledOf w)) := Heap.get?_push_size _ rfl
  have hl1 : (s.heap.push (emptySet (ledOf w))).IsList l items := hl.push _
  have old : l < s.heap.objs.size := by
    obtain ⟨o, g, -⟩ := hl
    exact Heap.lt_size g
  have size1 : (s.heap.push (emptySet (ledOf w))).objs.size = s.heap.objs.size + 1 := Heap.size_push _ _
  obtain ⟨lo, g, cl, ln, dt⟩ := id hl1
  obtain ⟨c0, d0, a0, sl0⟩ := lo
  simp only at cl dt
  subst cl dt
  have nd : (Value.type "list" == Value.type "dict") = false := by decide
  have ns := F.sub_list_set
  have nf := F.sub_list_frozenset
  have whole : ∀ s2 : Shared, s2.gens = s.gens → s2.drawn = s.drawn → s2.os = s.os → SetS w s2.heap s.heap.objs.size xs → (∀ b o, s.heap.get? b = some o → s2.heap.get? b = some o) → Q (.ref s.heap.objs.size) s2 := by
    rintro ⟨h2, g2, d2, tk2, o2⟩ rfl rfl rfl S k
    exact q h2 tk2 S k
  have isSet : Shared.TypeIs { s with heap := s.heap.push (emptySet (ledOf w)) } (.ref s.heap.objs.size) "set" := ⟨_, mine, rfl⟩
  have isList : Shared.TypeIs { s with heap := s.heap.push (emptySet (ledOf w)) } (.ref l) "list" := ⟨_, g, rfl⟩
  -- the second half: __init__ of the new set
  have filled : codeAny (model P w) A.in1 (.call (.builtin "set.__init__") ⟨[.ref s.heap.objs.size, .ref l], []⟩) (wants (fun r s2 => r = .none ∧ Q (.ref s.heap.objs.size) s2) E) { s with heap := s.heap.push (emptySet (ledOf w)) } := by
    refine codeAny_call_builtin F.called_set.init.plain F.entry_set_init (check_set_init_1 isSet ?_)
    refine init_new mine (from_list isList (wpAny_pyIter_list hl1 (wpAny_runValue ?_)))
    have calm : A.in1.in1.in1.handled = none := by simp [hh]
    have apart : l ≠ (s.heap.push (emptySet (ledOf w))).objs.size := by rw [size1]; exact Nat.ne_of_lt (Nat.lt_succ_of_lt old)
    have out : s.heap.objs.size ∉ [(s.heap.push (emptySet (ledOf w))).objs.size, l] := by
      intro z
      rcases List.mem_cons.mp z with z | z
      · rw [size1] at z
        exact Nat.ne_of_lt (Nat.lt_succ_self _) z
      · exact Nat.ne_of_gt old (List.mem_singleton.mp z)
    have len : xs.length = items.size := by rw [← StrsAre.len_eq tx, Array.length_toList]
    have val : ∀ (i : Nat) (v : Value), items[i]? = some v → ∃ x u, xs[i]? = some x ∧ v = .str x u := fun i v hv => by
      have hi : i < xs.length := by
        rw [len]
        exact (Array.getElem?_eq_some_iff.mp hv).1
      obtain ⟨u, e⟩ := SS.strs_at tx i v (by rw [Array.getElem?_toList]; exact hv)
      exact ⟨xs[i], u, List.getElem?_eq_getElem hi, by rw [e, List.getD_eq_getElem?_getD, List.getElem?_eq_getElem hi]; rfl⟩
    refine add_all (w := w) ((Walks.list calm _ l apart items).toS) out len (by rw [← len]; exact few) val items.size 0 _ (Nat.zero_add _) ⟨⟨_, Heap.get?_push_size _ rfl, rfl, rfl⟩, hl1.push _⟩ ?_ ?_
    · exact ⟨_, #[], 0, _, Heap.get?_push_of_some _ mine, ⟨rfl, rfl, rfl⟩, rfl, fine_new w⟩
    · intro s3 mv S3
      refine wpAny_pure ⟨rfl, whole s3 mv.gens mv.drawn mv.os S3 fun b o e => ?_⟩
      have hb := Heap.lt_size e
      exact mv.heap b o (fun z => by
        rcases List.mem_cons.mp z with z | z
        · exact Nat.ne_of_lt hb z
        · have z := List.mem_singleton.mp z
          rw [size1] at z
          exact Nat.ne_of_lt (Nat.lt_succ_of_lt hb) z) (Heap.get?_push_of_some _ (Heap.get?_push_of_some _ e))
  -- the whole call
  refine wpAny_call (codeAny_of_tree ?_)
  show wpAny _ _ (callAny (.type "set") _) _ _ _
  refine wpAny_pure ⟨Code.quiet_builtin _ (by decide +kernel), codeAny_builtin F.entry_type_call ?_⟩
  rw [Around.under_plain (weight_type_call_type "set" [.ref l] []) rfl]
  obtain ⟨c1, tl1, mro1⟩ := F.called_set.mro
  have made1 := F.called_set.made
  have sub1 := F.called_set.sub
  have notType1 := F.called_set.notType
  have can1 := F.called_set.canCreate
  have chk1 := F.typeCall_set_1 (.ref l)
  repeat (any_goals (first | assumption | wp_step))
  refine codeAny_mono (new_one (.ref l) (E := E) (Q := fun obj s1 => obj = .ref s.heap.objs.size ∧ s1 = { s with heap := s.heap.push (emptySet (ledOf w)) }) ⟨rfl, rfl⟩) fun r s1 got => ?_
  cases r with
  | error e => exact got
  | ok fl =>
    cases fl with
    | ret obj =>
      obtain ⟨rfl, rfl⟩ := got
      have look1 := F.called_set.init.lookup
      have bind1 := F.called_set.init.bind (.ref s.heap.objs.size)
      repeat (any_goals (first | assumption | wp_step))
      refine codeAny_mono filled fun r2 s2 got2 => ?_
      cases r2 with
      | error e => exact got2
      | ok fl2 =>
        cases fl2 with
        | ret v =>
          obtain ⟨rfl, q2⟩ := got2
          repeat (any_goals (first | assumption | wp_step))
        | _ => exact got2.elim
    | _ => exact got.elim
end
end W1S
set_option maxRecDepth 100000
set_option maxHeartbeats 4000000
namespace W1S
open PySem PySem.Spec PyProof.Rows L2 TL
section
variable {P : Program} {w : World} {A : Around} {E : Value → Shared → Prop} {s : Shared}
/-- what stays while something is gathered -/
structure Kept (s s1 : Shared) : Prop where
  heap : ∀ b o, s.heap.get? b = some o → s1.heap.get? b = some o
  size : s.heap.objs.size ≤ s1.heap.objs.size
  gens : s1.gens = s.gens
  os : s1.os = s.os
/-- sorted of what gives just the texts ss, in whatever order -/
theorem sorted_txt {a : Addr} {ss : List Str} {Q : Value → Shared → Prop} (few : ss.length < 64)
    (gather : ∀ Q' : List Value → Shared → Prop, (∀ s1 vs ys, Kept s s1 → StrsAre vs ys → ys.Perm ss → Q' vs s1) → wpAny (model P w) A.in1 (collect (.ref a)) Q' E s)
    (q : ∀ s2 p (out : Array Value) (c : Nat) ys, Kept s s2 → s.heap.objs.size ≤ p → s2.heap.get? p = some (seqObj "list" out c) → StrsAre out.toList ys → ys.Perm ss → sortedS ys = true → Q (.ref p) s2) :
    wpAny (model P w) A (call (.builtin "sorted") [.ref a]) Q E s := by
  refine Calls.call_function_entry kind_sorted plain_sorted entry_sorted (args_sorted1 _) ?_
  unfold Builtin.«sorted»
  refine wpAny_bind (m := checkCount "sorted" 1 1 _) (wpAny_pure (wpAny_bind (gather _ fun s1 vs ys kept txt pm => ?_)))
  have n64 : vs.length < 64 := by rw [StrsAre.len_eq txt, pm.length_eq]; exact few
  refine wpAny_bind (wpAny_newList ?_ (by rw [sizeLine_eq]; omega))
  have mine : (s1.heap.push (seqObj "list" vs.toArray 0)).get? s1.heap.objs.size = some (seqObj "list" vs.toArray 0) := Heap.get?_push_size _ rfl
  refine wpAny_bind (wpAny_holding (wpAny_call_entry slot_list_sort ⟨_, mine, rfl⟩ entry_list_sort (list_sort_treeK strKind_oneLt mine txt.keysOf (fun v1 v2 r e => keyKind_strs (by rw [← e]; exact txt)) n64 fun st perm sorted => ⟨_, rfl, ?_⟩) (args_list_sort _)))
  obtain ⟨zs, h1, h2, h3⟩ := sorted_out_str txt perm sorted
  obtain ⟨c, at_⟩ := sortedHeap_at (vs := vs) (out := (arrOf st).map (·.2)) mine
  refine wpAny_pure ⟨_, rfl, q _ s1.heap.objs.size _ c zs ⟨fun b o e => ?_, ?_, kept.gens, kept.os⟩ kept.size at_ h1 (h2.trans pm) h3⟩
  · have e1 := kept.heap b o e
    have lt := Heap.lt_size e1
    show (sortedHeap _ _ vs _).get? b = some o
    rw [sortedHeap_old (Nat.ne_of_lt lt) (by rw [size_push']; exact Nat.lt_succ_of_lt lt)]
    exact Heap.get?_push_of_some _ e1
  · exact Nat.le_trans kept.size (Nat.le_of_lt (Heap.lt_size at_))
end
/-! ### as calls over the layer -/
def hoS (w : World) (p : Addr) (xs : List Str) : HO := .ext fun h => SetS w h p xs
section
variable {X : Cx}
theorem hoS_ok {w : World} {P : Program} {H : Hp} {h : Heap} {p : Addr} {xs : List Str} (S : SetS w h p xs) : ObjOk P w H h p (hoS w p xs) := by
  obtain ⟨o, es, ep, t, g, r⟩ := id S
  exact ⟨S, ⟨o, g⟩, fun h1 h2 S1 k => SetS.at S1 k⟩
def rSetL (K : PySem.W.Frag) (w : World) : List V → Hp → VK → Prop := fun vs H Q => ∃ (a : Addr) (xs : List Str), vs = [.ref a] ∧ SqL K H a (xs.map V.str) ∧ xs.length < 4000 ∧ ∀ p, H p = none → Q (.ref p) (upd H p (hoS w p xs))
theorem cr_setL (hc : X.calm = true) : CallR X (.type "set") (rSetL X.K X.w) := by
  intro pins s σ H vs us Q I r h
  obtain ⟨a, xs, rfl, hs, few, q⟩ := h
  obtain ⟨its, rv, hl, _⟩ := I.list hs
  rw [Vals.ref1 r]
  refine set_of (I.ok.hd hc) hl.isList (by simpa using rv.strs) (by unfold scanBound; omega) fun h' tk S k => ?_
  exact ⟨.ref _, upd H s.heap.objs.size (hoS X.w s.heap.objs.size xs), I.laid (t' := tk) k (Nat.le_refl _) (hoS_ok S), rfl, q _ (I.hok.fresh (Nat.le_refl _))⟩
/-- sorted(s), s a set of texts: the list with its members, each once, in order -/
def rSortS (w : World) : List V → Hp → VK → Prop := fun vs H Q => ∃ (a : Addr) (xs : List Str), vs = [.ref a] ∧ H a = some (hoS w a xs) ∧ xs.length < 64 ∧
  ∀ (ys : List Str) (p : Addr), ys.Nodup → (∀ x, x ∈ ys ↔ x ∈ xs) → sortedS ys = true → H p = none → Q (.ref p) (upd H p (.lst (ys.map V.str)))
theorem cr_sortS (hc : X.calm = true) : CallR X (.builtin "sorted") (rSortS X.w) := by
  intro pins s σ H vs us Q I r h
  obtain ⟨a, xs, rfl, ha, few, q⟩ := h
  obtain ⟨o, es, ep, t, g, ex, at_, f⟩ := (I.hok a _ ha).1
  rw [Vals.ref1 r]
  have n64 : (es.toList.map nameOf).length < 64 := by
    rw [List.length_map, Array.length_toList]
    exact Nat.lt_of_le_of_lt f.few few
  refine sorted_txt (ss := es.toList.map nameOf) n64 (fun Q' z => ?_) fun s2 p out c ys kept hp hg txt pm srt => ?_
  · refine collect_set (A := X.A.in1) (I.ok.hd hc) ⟨o, g, ex.1, at_⟩ f.fits (by unfold scanBound; have := f.few; omega) f.ris f.led fun s1 vs k1 sz g1 o1 pm => ?_
    refine z s1 vs (vs.map strOf) ⟨k1, sz, g1, o1⟩ (strsAre_map vs fun v hv => ?_) ?_
    · obtain ⟨e, he, rfl⟩ := List.mem_map.mp (pm.mem_iff.mp hv)
      obtain ⟨x, u, rfl⟩ := f.txt e he
      exact ⟨x, u, rfl⟩
    · have := pm.map strOf
      rw [List.map_map] at this
      refine this.trans (List.Perm.of_eq (List.map_congr_left fun e he => ?_))
      obtain ⟨x, u, rfl⟩ := f.txt e he
      rfl
  · have n : (ys.map V.str).length ≤ sizeLine := by rw [List.length_map, pm.length_eq, sizeLine_eq]; omega
    have fresh : H p = none := I.hok.fresh hp
    have J : Inv X pins σ (upd H p (.lst (ys.map V.str))) { s with heap := s2.heap, gens := s2.gens, drawn := s2.drawn, toks := s2.toks } :=
      I.call (ch := []) (Un.laid kept.heap hp fresh) (I.hok.laid kept.heap hp ⟨n, out.toList, c, vals_of_strs txt, hg⟩) (by rw [kept.gens]; exact I.bare) (fun _ z => nomatch z)
    have same : s2 = { s with heap := s2.heap, gens := s2.gens, drawn := s2.drawn, toks := s2.toks } := by
      have := kept.os
      cases s2
      cases s
      cases this
      rfl
    rw [same]
    exact ⟨.ref p, _, J, rfl, q ys p (pm.nodup_iff.mpr f.once) (fun x => pm.mem_iff.trans (f.mem x)) srt fresh⟩
end
end W1S
namespace W1
open PySem PySem.Spec PyProof.Rows L2 NdefX TL NumText
def rSetT (w : World) (xs : List Str) : Rl := ⟨fun v H => ∃ p, v = .ref p ∧ H p = some (W1S.hoS w p xs), fun _ _ _ e ⟨p, a, b⟩ => ⟨p, a, e _ _ b⟩⟩
/-- each once, in order -/
def uniq : List Str → List Str
  | [] => []
  | x :: r => if x ∈ uniq r then uniq r else x :: uniq r
theorem uniq_mem : ∀ {xs : List Str} {x : Str}, x ∈ uniq xs ↔ x ∈ xs
  | [], x => Iff.rfl
  | y :: r, x => by
    unfold uniq
    split
    · next h => rw [uniq_mem, List.mem_cons]; exact ⟨.inr, fun z => z.elim (fun e => e ▸ uniq_mem.mp h) id⟩
    · rw [List.mem_cons, List.mem_cons, uniq_mem]
theorem uniq_nodup : ∀ xs : List Str, (uniq xs).Nodup
  | [] => List.nodup_nil
  | y :: r => by
    unfold uniq
    split
    · exact uniq_nodup r
    · next h => exact List.nodup_cons.mpr ⟨h, uniq_nodup r⟩
section
variable {F : Fx} {ω w : Ow} {xs : List Str}
theorem cop_setT (hc : F.X.calm = true) (few : xs.length < 4000) : Cop F w (.type "set") [rLst (xs.map rStr)] (rSetT F.X.w xs) := ⟨_, W1S.cr_setL hc, fun us G H at_ hx Q q => by
  obtain ⟨x, rfl, p, vs, rfl, h1, h2⟩ := all1 hx
  rw [str_vals h2] at h1
  refine ⟨p, xs, rfl, SqL.of (at_.gh _ _ h1), few, fun p2 hp => ?_⟩
  have st := Step.new (o := W1S.hoS F.X.w p2 xs) at_.gh hp
  exact q _ _ _ st.gg (at_.step st) ⟨p2, rfl, upd_same⟩⟩
theorem cop_sortT (hc : F.X.calm = true) (few : xs.length < 64) : Cop F w (.builtin "sorted") [rSetT F.X.w xs] (rLst ((srt (uniq xs)).map rStr)) := ⟨_, W1S.cr_sortS hc, fun us G H at_ hx Q q => by
  obtain ⟨x, rfl, p, rfl, h1⟩ := all1 hx
  refine ⟨p, xs, rfl, at_.gh _ _ h1, few, fun ys p2 nd mem sorted hp => ?_⟩
  have pm : ys.Perm (uniq xs) := (List.perm_ext_iff_of_nodup nd (uniq_nodup xs)).mpr fun x => (mem x).trans uniq_mem.symm
  rw [srt_only pm sorted]
  have st := Step.new (o := .lst ((srt (uniq xs)).map V.str)) at_.gh hp
  exact q _ _ _ st.gg (at_.step st) ⟨p2, _, rfl, upd_same, vals_str _⟩⟩
end
end W1
set_option maxRecDepth 100000
set_option maxHeartbeats 4000000
namespace W1S
open PySem PySem.Spec PyProof.Rows L2 TL
section
variable {prog : Program} {w : World} {A : Around} {E : Value → Shared → Prop} {s : Shared} {K : Type} [DecidableEq K] {knd : KeyKind prog w K}
/-- the keys of a dict, gathered -/
theorem gather_keys {d : Addr} {kvs : List (K × Value)} {Q : List Value → Shared → Prop} (calm : A.handled = none) (plain : (d == sysModules) = false) (at_ : s.heap.DictOf knd d kvs) (few : kvs.length ≤ sizeLine)
    (q : ∀ s1 vs, Kept s s1 → vs.length = kvs.length → (∀ (j : Nat) v, vs[j]? = some v → ∃ k x, kvs[j]? = some (k, x) ∧ knd.is k v = true) → Q vs s1) : wpAny (model prog w) A (collect (.ref d)) Q E s := by
  obtain ⟨ep, dat⟩ := (at_.push (seqObj "list" #[] 0)).dictAt
  have ne : s.heap.objs.size ≠ d := by
    obtain ⟨o, es, e, g, -⟩ := at_
    exact Nat.ne_of_gt (Heap.lt_size g)
  have mine : (s.heap.push (seqObj "list" #[] 0)).get? s.heap.objs.size = some { cls := .type "list", data := .seq #[] 0 } := Heap.get?_push_size _ rfl
  have sz : (s.heap.push (seqObj "list" #[] 0)).objs.size = s.heap.objs.size + 1 := size_push' _ _
  unfold collect
  refine wpAny_bind (wpAny_runValue (codeAny_builtin entry_proto_collect' ?_))
  show wpAny _ _ (newList [] >>= fun l => again (.builtin "list.__iadd__" ⟨[l, .ref d], []⟩)) _ _ s
  refine wpAny_bind (wpAny_newList (wpAny_pure ⟨Code.quiet_builtin _ (by decide +kernel), codeAny_builtin entry_list_iadd' ?_⟩))
  show wpAny _ _ (Builtin.List.listExtendWith (.ref s.heap.objs.size) (.ref d) (.ref s.heap.objs.size)) _ _ { s with heap := s.heap.push (seqObj "list" #[] 0) }
  rw [Around.under_plainId (by decide +kernel) _]
  refine PySem.W.kdl_extend (R := fun r s' => match r with | .ok (.ret v) => wpAny (model prog w) A (match v with | .ref a => (do let o ← load a; match o.data with | .seq xs _ => pure xs.toList | _ => unsupported "internal:collect") | _ => unsupported "internal:collect") Q E s' | .ok _ => False | .error e => E e s') (s := { s with heap := s.heap.push (seqObj "list" #[] 0) }) (PySem.W.kdl_dict (knd := knd) (kvs := kvs) (ep := ep) plain) calm dat s.heap.objs.size ne ne _ 0 mine (fun h1 tk acc c keep got items => ?_) few
  refine wpAny_bind (wpAny_load got (wpAny_pure ?_))
  have old : ∀ b o, s.heap.get? b = some o → h1.get? b = some o := fun b o e => keep b o (Nat.ne_of_lt (Heap.lt_size e)) (Heap.get?_push_of_some _ e)
  exact q _ acc.toList ⟨old, Nat.le_of_lt (Heap.lt_size got), rfl, rfl⟩ (by rw [Array.length_toList]; exact items.1) fun j v e => items.2 j v (by rw [← Array.getElem?_toList]; exact e)
end
section
variable {X : Cx}
/-- sorted(d), d a dict whose keys are texts -/
def rSortD : List V → Hp → VK → Prop := fun vs H Q => ∃ (a : Addr) (kvs : List (Key × V)) (xs : List Str), vs = [.ref a] ∧ Rd H a (.dK kvs) ∧ kvs.map (·.1) = xs.map Sum.inr ∧ xs.length < 64 ∧
  ∀ (ys : List Str) (p : Addr), ys.Perm xs → sortedS ys = true → H p = none → Q (.ref p) (upd H p (.lst (ys.map V.str)))
theorem txts_of {P : Program} {w : World} : ∀ {vs : List Value} {ks : List (Key × Value)} {xs : List Str}, ks.map (·.1) = xs.map Sum.inr → vs.length = ks.length → (∀ (j : Nat) v, vs[j]? = some v → ∃ k x, ks[j]? = some (k, x) ∧ (mixKind P w).is k v = true) → StrsAre vs xs
  | [], [], [], _, _, _ => .nil
  | v :: vs, (k, z) :: ks, x :: xs, hk, hl, h => by
    obtain ⟨k2, z2, e, is⟩ := h 0 v rfl
    cases e
    rw [List.map_cons, List.map_cons, List.cons.injEq] at hk
    have hk1 : k = Sum.inr x := hk.1
    subst hk1
    have is : keyIs (Sum.inr x) v = true := is
    rcases keyIs_shape is with ⟨i, t, h1, h2⟩ | ⟨y, t, h1, h2⟩
    · cases h1
    · cases h1
      subst h2
      exact .cons _ t (txts_of hk.2 (Nat.succ.inj hl) fun j v e => h (j + 1) v e)
  | [], _ :: _, _, _, hl, _ => by cases hl
  | _ :: _, [], _, _, hl, _ => by cases hl
  | [], [], _ :: _, hk, _, _ => by cases hk
  | _ :: _, _ :: _, [], hk, _, _ => by cases hk
theorem cr_sortD (hc : X.calm = true) : CallR X (.builtin "sorted") rSortD := by
  intro pins s σ H vs us Q I r h
  obtain ⟨a, kvs, xs, rfl, ha, hk, few, q⟩ := h
  obtain ⟨z, plain, ks, rel, dd⟩ := dk_rd I.hok ha
  rw [Vals.ref1 r]
  have hk2 : ks.map (·.1) = xs.map Sum.inr := by rw [← rel.keys]; exact hk
  refine sorted_txt (ss := xs) few (fun Q' z' => ?_) fun s2 p out c ys kept hp hg txt pm srt => ?_
  · exact gather_keys (I.ok.hd hc) plain dd (by rw [← rel.length]; exact z) fun s1 vs kept len items => z' s1 vs xs kept (txts_of hk2 len items) (List.Perm.refl _)
  · have n : (ys.map V.str).length ≤ sizeLine := by rw [List.length_map, pm.length_eq, sizeLine_eq]; omega
    have fresh : H p = none := I.hok.fresh hp
    have J : Inv X pins σ (upd H p (.lst (ys.map V.str))) { s with heap := s2.heap, gens := s2.gens, drawn := s2.drawn, toks := s2.toks } :=
      I.call (ch := []) (Un.laid kept.heap hp fresh) (I.hok.laid kept.heap hp ⟨n, out.toList, c, vals_of_strs txt, hg⟩) (by rw [kept.gens]; exact I.bare) (fun _ z => nomatch z)
    have same : s2 = { s with heap := s2.heap, gens := s2.gens, drawn := s2.drawn, toks := s2.toks } := by
      have := kept.os
      cases s2
      cases s
      cases this
      rfl
    rw [same]
    exact ⟨.ref p, _, J, rfl, q ys p pm srt fresh⟩
end
end W1S
namespace W1
open PySem PySem.Spec PyProof.Rows L2 NdefX TL NumText
theorem NR.kmap {κ : Type} {H : Hp} {fs : List (κ × Rl)} {vs : List (κ × V)} (h : NR fs vs H) : vs.map (·.1) = fs.map (·.1) := h.keys
theorem cop_sortD {F : Fx} {w : Ow} {A : Rl} {fs : List (Key × Rl)} {xs : List Str} (hc : F.X.calm = true) (hd : IsDct F A w fs) (hk : fs.map (·.1) = xs.map Sum.inr) (few : xs.length < 64) : Cop F w (.builtin "sorted") [A] (rLst ((srt xs).map rStr)) := ⟨_, W1S.cr_sortD hc, fun us G H at_ hx Q q => by
  obtain ⟨x, rfl, hx1⟩ := all1 hx
  obtain ⟨p, vs, rfl, h1, h2⟩ := hd x G H at_ hx1
  refine ⟨p, vs, xs, rfl, h1, by rw [h2.keys]; exact hk, few, fun ys p2 pm sorted hp => ?_⟩
  rw [srt_only pm sorted]
  have st := Step.new (o := .lst ((srt xs).map V.str)) at_.gh hp
  exact q _ _ _ st.gg (at_.step st) ⟨p2, _, rfl, upd_same, vals_str _⟩⟩
theorem keysA (am : Am) : (fsA am).map (·.1) = (namesA am).map Sum.inr := by
  unfold fsA namesA
  rw [List.map_map, List.map_map]
  rfl
end W1
set_option maxRecDepth 100000
set_option maxHeartbeats 2000000
namespace W1
open PySem PySem.Spec PyProof.Rows L2 NdefX TL NumText

/-! ### freezing what others hold -/
def Fz (q : Addr) (fs : List (Key × Rl)) (G : Hp) : Prop := ∃ od vs, G q = some (.frz od (.dK vs)) ∧ NR fs vs G
def Tr (q : Addr) (fs : List (Key × Rl)) (R R' : Rl) : Prop := ∀ v G, Fz q fs G → R.r v G → R'.r v G
def TrO (q : Addr) (fs : List (Key × Rl)) (O O' : Ol) : Prop := ∀ o G, Fz q fs G → O.c o G → O'.c o G
inductive TrL (q : Addr) (fs : List (Key × Rl)) : List Rl → List Rl → Prop where
  | nil : TrL q fs [] []
  | cons {R R' : Rl} {Rs Rs' : List Rl} (h : Tr q fs R R') (t : TrL q fs Rs Rs') : TrL q fs (R :: Rs) (R' :: Rs')
inductive TrS (q : Addr) (fs : List (Key × Rl)) : Ty → Ty → Prop where
  | nil : TrS q fs [] []
  | gone {ρ ρ' : Ty} {R : Option Rl} (t : TrS q fs ρ ρ') : TrS q fs (R :: ρ) (Option.none :: ρ')
  | held {ρ ρ' : Ty} {R R' : Rl} (h : Tr q fs R R') (t : TrS q fs ρ ρ') : TrS q fs (Option.some R :: ρ) (Option.some R' :: ρ')
inductive TrW (q : Addr) (fs : List (Key × Rl)) : Ow → Ow → Prop where
  | nil : TrW q fs [] []
  | cons {p : Addr} {O O' : Ol} {w w' : Ow} (h : TrO q fs O O') (t : TrW q fs w w') : TrW q fs ((p, O) :: w) ((p, O') :: w')
section
variable {q : Addr} {fs : List (Key × Rl)} {R : Rl} {O : Ol} {Rs Rs' : List Rl} {ρ ρ' : Ty} {w w' : Ow}
theorem Tr.same : Tr q fs R R := fun _ _ _ h => h
theorem TrO.same : TrO q fs O O := fun _ _ _ h => h
theorem Tr.ref : Tr q fs (rRef q) (rDct fs) := fun v G ⟨od, vs, a, b⟩ e => ⟨q, od, vs, e, a, b⟩
theorem TrL.all (t : TrL q fs Rs Rs') : ∀ {vs : List V} {G : Hp}, Fz q fs G → All2 Rs vs G → All2 Rs' vs G := by
  induction t with
  | nil => intro vs G _ h; exact h
  | cons h t ih =>
    intro vs G z a
    match vs, a with
    | v :: vs, ⟨a1, a2⟩ => exact ⟨h v G z a1, ih z a2⟩
theorem Tr.lst (t : TrL q fs Rs Rs') : Tr q fs (rLst Rs) (rLst Rs') := fun v G z ⟨p, vs, a, b, c⟩ => ⟨p, vs, a, b, t.all z c⟩
theorem TrO.lst (t : TrL q fs Rs Rs') : TrO q fs (oL Rs) (oL Rs') := fun o G z ⟨vs, a, c⟩ => ⟨vs, a, t.all z c⟩
theorem TrL.refl : ∀ {Rs : List Rl}, TrL q fs Rs Rs
  | [] => .nil
  | _ :: _ => .cons Tr.same TrL.refl
theorem TrW.refl : ∀ {w : Ow}, TrW q fs w w
  | [] => .nil
  | _ :: _ => .cons TrO.same TrW.refl
theorem TrS.refl : ∀ {ρ : Ty}, TrS q fs ρ ρ
  | [] => .nil
  | none :: _ => .gone TrS.refl
  | some _ :: _ => .held Tr.same TrS.refl
theorem TrS.at (t : TrS q fs ρ ρ') : ρ.length = ρ'.length ∧ ∀ (i : Nat) R', ρ'[i]? = some (some R') → ∃ R, ρ[i]? = some (some R) ∧ Tr q fs R R' := by
  induction t with
  | nil => exact ⟨rfl, fun i R' e => by simp at e⟩
  | gone t ih =>
    refine ⟨by rw [List.length_cons, List.length_cons, ih.1], fun i R' e => ?_⟩
    cases i with
    | zero => cases e
    | succ i => exact ih.2 i R' e
  | held h t ih =>
    refine ⟨by rw [List.length_cons, List.length_cons, ih.1], fun i R' e => ?_⟩
    cases i with
    | zero =>
      cases e
      exact ⟨_, rfl, h⟩
    | succ i => exact ih.2 i R' e
theorem TrW.at (t : TrW q fs w w') : keys w = keys w' ∧ ∀ p ∈ w', ∃ O, (p.1, O) ∈ w ∧ TrO q fs O p.2 := by
  induction t with
  | nil => exact ⟨rfl, fun p h => by cases h⟩
  | @cons p O O' w w' h t ih =>
    refine ⟨by unfold keys at ih ⊢; rw [List.map_cons, List.map_cons, ih.1], fun z hz => ?_⟩
    rcases List.mem_cons.mp hz with rfl | hz
    · exact ⟨O, List.mem_cons_self, h⟩
    · obtain ⟨O2, h1, h2⟩ := ih.2 z hz
      exact ⟨O2, List.mem_cons_of_mem _ h1, h2⟩
end
section
variable {F : Fx} {ρ ρ' : Ty} {ω w w' w1 w2 : Ow} {e a b o : Expr} {es : List Expr} {R : Rl} {Rs As : List Rl} {O : Ol} {q : Addr} {fs : List (Key × Rl)} {K : Kn} {rest : List Stmt} {pos p : Pos} {x : Str}
theorem hb_frz (hM : q ∉ F.M) (ts : TrS q fs ρ ρ') (tw : TrW q fs w w') (h : HB F ρ' w' rest K) : HB F ρ ((q, oD fs) :: w) rest K := fun σ G H D at_ sl ps => by
  obtain ⟨hg0, _, o, h1, vs, rfl, h2⟩ := at_.ow _ List.mem_cons_self
  refine bw_lock h1 True.intro fun od => ?_
  have a := at_.pubF (od := od) h1 (At.own0 at_ hM)
  have sg : Same G (upd G q (.frz od (.dK vs))) := fun b u e => by rw [upd_ne (ne_of_none e hg0)]; exact e
  have fz : Fz q fs (upd G q (.frz od (.dK vs))) := ⟨od, vs, upd_same, h2.up sg⟩
  have a' : At F w' (upd G q (.frz od (.dK vs))) (upd H q (.frz od (.dK vs))) := ⟨a.gg, a.hh, a.gh, a.fr, a.mm, fun z hz => by
    obtain ⟨O2, m, t⟩ := tw.at.2 z hz
    obtain ⟨x1, x2, o2, x3, x4⟩ := a.ow _ m
    exact ⟨x1, x2, o2, x3, t _ _ fz x4⟩, by have := tw.at.1; unfold keys at this; rw [← this]; exact a.nd⟩
  refine h σ _ _ D a' ⟨by rw [sl.len, ts.at.1], fun i R' e => ?_⟩ (ps.up sg)
  obtain ⟨R, e1, t⟩ := ts.at.2 i R' e
  obtain ⟨v, e2, r⟩ := (sl.up sg).at_ i R e1
  exact ⟨v, e2, t v _ fz r⟩
/-! ### a new thing from a built-in, from a method -/
def CopN (F : Fx) (ω : Ow) (f : Value) (As : List Rl) (O : Ol) : Prop :=
  ∃ r : List V → Hp → VK → Prop, CallR F.X f r ∧ ∀ xs G H, At F ω G H → All2 As xs G → ∀ Q : VK, (∀ q G2 H2, q ∉ F.M → Same G G2 → At F ((q, O) :: ω) G2 H2 → Q (.ref q) H2) → r xs H Q
theorem en_bA {id : String} (ha : AR F ρ ω (e :: es) As w1) (hm : F.X.mg x = none) (hv : bootBuiltins x = some (.builtin id)) (hc : CopN F w1 (.builtin id) As O) (hg : Gl F.X x := by rfl) (hn : x ≠ "__name__" := by decide) (hdb : (x == ("__debug__" : Str)) = false := by decide)
    (he : starEach (e :: es) F.X.env = (false, eval e F.X.env) :: starEach es F.X.env := by rfl) (hpl : (backTo pos (starEach es F.X.env)).any (·.1) = false := by rfl) : EN F ρ ω (.Call (.Name x p) (e :: es) [] pos) O w1 := fun σ G H at_ sl Q q => by
  obtain ⟨r, ho, k⟩ := hc
  refine ew_of (pe_callB ho hg hm hv pa_w hn hdb he hpl) (ha σ G H at_ sl _ fun vs G2 H2 s a r => ?_)
  exact k vs G2 H2 a r Q fun v G3 H3 hM s3 a3 => q v G3 H3 hM (s.trans s3) a3
theorem copN_sortedS {xs : List Str} (hz : xs.length < 64) : CopN F ω (.builtin "sorted") [rLst (xs.map rStr)] (oL ((srt xs).map rStr)) := ⟨_, cr_sortedS, fun us G H at_ hx Q q => by
  obtain ⟨x, rfl, p, vs, rfl, h1, h2⟩ := all1 hx
  rw [str_vals h2] at h1
  refine ⟨p, xs, rfl, SqL.of (at_.gh _ _ h1), hz, fun ys p2 pm sorted hp => ?_⟩
  rw [srt_only pm sorted]
  exact q p2 _ _ (fun hm => at_.mm p2 hm hp) (Same.refl _) (at_.own hp ⟨_, rfl, vals_str _⟩)⟩
def Kmn (P : Program) (w : World) (K : PySem.W.Frag) (mg : Str → Option Value) (base : Heap) (C : Addr) (m : Str) (k : Nat) (pre : PreN) : Prop := ∃ f fd ps, Meth K C m f ∧ Binds K fd ps [] ∧ FnOk P w K mg base (L2.CX P w) k f fd ps (spN pre)
theorem en_m0 {C : Addr} {m : Str} {k : Nat} {pre : PreN} {gs : List (Str × Rl)} {apos : Pos} {pl : Sem Bool} (T : Kmn F.X.prog F.X.w F.X.K F.X.mg F.X.base C m k pre) (hc : Cls F.X.K C) (hr : Room k F.X.A) (ho : ER F ρ ω o (rIns C gs) w) (hp : pre [rIns C gs] [] O []) (hno : gs.lookup m = none := by rfl)
    (ht : eval (.Call (.Attribute o m apos) [] [] pos) F.X.env = (do
      let ov ← eval o F.X.env
      standAt apos.atName
      let (f, first) ← holding [ov] (getMethod ov m pl)
      callWith pos f first (backTo pos (starEach [] F.X.env)) (backToKw pos (keywordEach [] F.X.env))) := by rfl) :
    EN F ρ ω (.Call (.Attribute o m apos) [] [] pos) O w := fun σ G H at_ sl Q q => by
  obtain ⟨f, fd, ps, hm, hb, Fn⟩ := T
  refine ew_of (pe_methS0 (E := WE F.W) pe_w hc hm Fn hr hb passW ht) (ho σ G H at_ sl _ fun v G1 H1 s1 a1 r1 => ?_)
  obtain ⟨a, dx, vs, rfl, h1, h2⟩ := id r1
  refine ⟨a, dx, vs, rfl, a1.gh _ _ h1, h2.lookN hno, [rIns C gs], [], O, [], G1, hp, a1.gh, ⟨r1, trivial⟩, fun _ h => (by cases h), List.nodup_nil, rfl, fun q2 G2 H2 hq st hh => ?_⟩
  obtain ⟨hM, a3⟩ := At.newcall (wc := []) (wc' := []) (w := w) a1 st hq hh rfl
  exact q q2 G2 H2 hM (s1.trans st.gg) a3
/-! ### a comprehension whose elements may make new things -/
variable {tg it elt : Expr} {scope : Scope} {S : Rl}
theorem eg_lc1 {Φ : Rl → Ow → Prop} (i : Nat) (hi : F.X.N[i]? = some x) (hpg : ∀ (s : Shared) (H : Hp) (C : Addr) (cl : List (Str × Addr)) (fp : List Addr), PG (F.X.blk s H scope (compEnvC scope cl C F.X.env) fp) (.Name x p) (gName i))
    (ok : BlkOk F.X.N F.X.env.scope scope [(x, i)]) (hit : IT F ρ ω (.Name x p) it Rs w1) (hz : Rs.length ≤ 100000) (I : Nat → List Rl → Ow → Prop) (h0 : I 0 [] w1)
    (he : ∀ (j : Nat) S Bs w, Rs[j]? = some S → I j Bs w → ∀ s H0 C cl fp d, EG (blkF F s H0 scope C cl fp) ((ρ.set i none).set i (some S)) (d :: w) elt fun R w' => ∃ w2, w'.Perm (d :: w2) ∧ I (j + 1) (Bs ++ [R]) w2)
    (hl : ∀ j Bs w, I j Bs w → Bs.length = j) (hf : ∀ Bs w, I Rs.length Bs w → Φ (rLst Bs) w)
    (hN : F.X.N.Nodup := by assumption) (hc : F.X.calm = true := by rfl) (hs : ∀ z, foldedSetIterable it F.X.env z = pure z := by intro _; rfl) : EG F ρ ω (.ListComp elt [⟨.Name x p, it, [], 0⟩] scope pos) Φ := fun σ G H at_ sl Q q => by
  obtain ⟨wi, hpi, hwi⟩ := hit
  refine ew_of (pe_lc hc hN hpi ok hpg (fun _ _ _ _ _ => pts_nil) (te := fun σ H Q => ∀ s H0 C cl fp, EW (F.X.blk s H0 scope (compEnvC scope cl C F.X.env) fp) elt σ H Q) (fun _ _ _ _ _ => ⟨fun pins s σ H Q I h => h _ _ _ _ _ pins s I⟩) hs) ?_
  refine hwi σ G H at_ sl _ fun J G2 H2 s2 a2 y2 => fun D hD => ?_
  have hM : D ∉ F.M := fun hm => a2.mm D hm hD
  refine ⟨fun j m H => m = Rs.length - j ∧ j ≤ Rs.length ∧ ∃ G Bs w, At F ((D, oL Bs) :: w) G H ∧ Same G2 G ∧ I j Bs w, ⟨Rs.length, by simp, Nat.zero_le _, G2, [], w1, a2.own hD ⟨[], rfl, trivial⟩, Same.refl _, h0⟩, ?_⟩
  rintro j m H1 ⟨rfl, hj, G1, Bs, w, a1, s1, inv⟩
  by_cases hlt : j < Rs.length
  · have hgo : Rs[j]? = some Rs[j] := List.getElem?_eq_getElem hlt
    refine .inr ⟨y2.go j G1 H1 s1 a1.gh hlt, fun H' => ∃ G Bs w, At F ((D, oL Bs) :: w) G H' ∧ Same G2 G ∧ I (j + 1) Bs w, fun H' z => ⟨Rs.length - (j + 1), by omega, rfl, hlt, z⟩, fun v H' y => ?_⟩
    obtain ⟨G3, st, rx⟩ := y2.yld j Rs[j] G1 H1 v H' s1 a1.gh hgo y
    have a3 := a1.step st
    have s3 := s1.trans st.gg
    refine gew_name v σ G3 H' _ a3.gh ((sl.up s2).up s3) rx fun σ2 hw sl2 => ⟨hw, ?_⟩
    unfold tYes
    dsimp only
    rw [if_pos rfl]
    intro s H0 C cl fp
    refine he j _ Bs w hgo inv s H0 C cl fp (D, oL Bs) σ2 G3 H' a3.to sl2 _ ?_
    rintro u G5 H5 R w' ⟨w2, pm, inv2⟩ s5 a5' r5
    have a5 : At F ((D, oL Bs) :: w2) G5 H5 := (At.to (F := blkF F s H0 scope C cl fp) (F' := F) a5').perm pm
    obtain ⟨_, _, ob, h1, vs, rfl, h2⟩ := a5.ow _ List.mem_cons_self
    refine ⟨vs, h1, Nat.lt_of_le_of_lt (by rw [← h2.len, hl _ _ _ inv]; exact Nat.le_trans hj hz) (by decide), G5, Bs ++ [R], w2, a5.chg ⟨_, rfl, h2.app (mk1 r5)⟩, s3.trans s5, inv2⟩
  · have ej : j = Rs.length := by omega
    subst ej
    refine .inl ⟨y2.stop G1 H1 s1 a1.gh, ?_⟩
    obtain ⟨hg0, _, ob, h1, vs, rfl, h2⟩ := a1.ow _ List.mem_cons_self
    have a5 := a1.pub h1 (At.own0 a1 hM)
    have sg : Same G1 (upd G1 D (.lst vs)) := fun b u e => by rw [upd_ne (ne_of_none e hg0)]; exact e
    exact q _ _ _ _ _ (hf Bs w inv) ((s2.trans s1).trans sg) a5 ⟨D, vs, rfl, upd_same, h2.up sg⟩
end
/-! ### == of dicts inside lists -/
theorem eqb_dct {X : Cx} {ks ls : List (Key × V)} (fa : ∀ p ∈ ks, flatV p.2 = true) (fb : ∀ p ∈ ls, flatV p.2 = true) (hid : ks = ls → eqD ks ls = true) : EqB X 0 (rDct (fsV ks)) (rDct (fsV ls)) (eqD ks ls) := by
  intro A' pins s σ G H x y u v E bl I rx ry sg ax ay
  obtain ⟨a, od, vs, rfl, h1, h2⟩ := id ax
  obtain ⟨b, od', ws, rfl, h3, h4⟩ := id ay
  cases (show u = Value.ref a from rx)
  cases (show v = Value.ref b from ry)
  rw [nr_vals h2] at h1
  rw [nr_vals h4] at h3
  by_cases hab : a = b
  · subst hab
    rw [h1] at h3
    cases h3
    rw [hid rfl]
    unfold eqBool
    refine wpAny_holding ?_
    refine wpAny_ite_split (fun _ => wpAny_bind (wpAny_rule (wpAny_pure ?_))) (fun h => absurd (beq_self_eq_true _) h)
    exact ⟨rfl, G, H, I, Step.refl sg⟩
  · refine GQ.eqBool_refG hab ?_
    obtain ⟨_, ya, va, ra, da⟩ := dk_rd I.hok (.inr ⟨od, sg _ _ h1⟩)
    obtain ⟨_, yb, vb, rb, db⟩ := dk_rd I.hok (.inr ⟨od', sg _ _ h3⟩)
    have l1 := ra.length
    have l2 := rb.length
    refine PySem.W.keq_eq (knd := mixKind X.prog X.w) (r := deq ks ls) ya yb da db bl.room.units0 (fun _ => hits_gen rb fb ra fa) ?_
    refine ⟨_, rfl, ?_, G, H, I, Step.refl sg⟩
    unfold eqD
    rw [← l1, ← l2]
    congr 1
end W1
set_option maxRecDepth 100000
set_option maxHeartbeats 2000000
namespace W1
open PySem PySem.Spec PyProof.Rows L2 TL NumText

/-! ### data, compared whole -/
/-- what is of A is the data d -/
def DatR (K : PySem.W.Frag) (A : Rl) (d : PyData) : Prop := ∀ v G H, Same G H → A.r v G → Dp K H v d
def DatRs (K : PySem.W.Frag) (As : List Rl) (ds : List PyData) : Prop := ∀ vs G H, Same G H → All2 As vs G → DpAll K H vs ds
section
variable {K : PySem.W.Frag} {A : Rl} {As : List Rl} {d e : PyData} {ds : List PyData}
theorem dat_int {i : Int} : DatR K (rInt i) (.int i) := fun v G H _ h => by cases (show v = V.int i from h); exact .int i
theorem dat_str {z : Str} : DatR K (rStr z) (.str z) := fun v G H _ h => by cases (show v = V.str z from h); exact .str z
theorem dat_bl {b : Bool} : DatR K (rBool b) (.bool b) := fun v G H _ h => by cases (show v = V.bl b from h); exact .bl b
theorem dat_non : DatR K rNon .none := fun v G H _ h => by cases (show v = V.non from h); exact .non
theorem dat_nil : DatRs K [] [] := fun vs G H _ h => by
  match vs, h with
  | [], _ => exact .nil
theorem dat_cons (h : DatR K A d) (hs : DatRs K As ds) : DatRs K (A :: As) (d :: ds) := fun vs G H s h' => by
  match vs, h' with
  | v :: vs, ⟨a, b⟩ => exact .cons (h v G H s a) (hs vs G H s b)
theorem dat_map {α : Type} {f : α → Rl} {g : α → PyData} (h : ∀ a, DatR K (f a) (g a)) : ∀ xs : List α, DatRs K (xs.map f) (xs.map g)
  | [] => dat_nil
  | a :: xs => dat_cons (h a) (dat_map h xs)
theorem dat_lst (h : DatRs K As ds) : DatR K (rLst As) (.list ds) := fun v G H s ⟨p, vs, e, h1, h2⟩ => by
  subst e
  exact .lst (SqL.of (s _ _ h1)) (h vs G H s h2)
theorem dat_tup (h : DatRs K As ds) : DatR K (rTup As) (.tuple ds) := fun v G H s ⟨p, vs, e, h1, h2⟩ => by
  subst e
  exact .tup (SqT.of (s _ _ h1)) (h vs G H s h2)
end
section
variable {F : Fx} {w : Ow} {A B : Rl} {d e : PyData} {n : Nat}
theorem bop_eqDat (ha : DatR F.X.K A d) (hb : DatR F.X.K B e) (sd : SeqAt.shaped d = true) (se : SeqAt.shaped e = true) (hr : Room n F.X.A) : Bop F w (compareOp .Eq) A B (rBool (PyData.eqv d e)) :=
  ⟨_, op_eqD hr.units, fun x y G H at_ hx hy Q q => ⟨d, e, ha x G H at_.gh hx, hb y G H at_.gh hy, sd, se, q _ G H (Same.refl _) at_ rfl⟩⟩
theorem bop_neDat (ha : DatR F.X.K A d) (hb : DatR F.X.K B e) (sd : SeqAt.shaped d = true) (se : SeqAt.shaped e = true) (hr : Room n F.X.A) : Bop F w (compareOp .NotEq) A B (rBool (!PyData.eqv d e)) :=
  ⟨_, op_neD hr.units, fun x y G H at_ hx hy Q q => ⟨d, e, ha x G H at_.gh hx, hb y G H at_.gh hy, sd, se, q _ G H (Same.refl _) at_ rfl⟩⟩
/-- x is None, of a thing that is none -/
theorem bop_isNo {A : Rl} (h : ∀ v G, A.r v G → ∃ p, v = .ref p) : Bop F w (compareOp .Is) A rNon (rBool false) := ⟨_, op_isN, fun x y G H at_ hx hy Q q => by
  obtain ⟨p, rfl⟩ := h x G hx
  exact ⟨hy, q _ G H (Same.refl _) at_ rfl⟩⟩
theorem bop_notNo {A : Rl} (h : ∀ v G, A.r v G → ∃ p, v = .ref p) : Bop F w (compareOp .IsNot) A rNon (rBool true) := ⟨_, op_notN, fun x y G H at_ hx hy Q q => by
  obtain ⟨p, rfl⟩ := h x G hx
  exact ⟨hy, q _ G H (Same.refl _) at_ rfl⟩⟩
theorem lst_ref {Rs : List Rl} : ∀ v G, (rLst Rs).r v G → ∃ p, v = .ref p := fun v G ⟨p, _, e, _⟩ => ⟨p, e⟩
end
/-! ### a text, some times over -/
def repS (z : Str) (n : Nat) : Str := ⟨(List.replicate n z.cps).foldl (· ++ ·) #[]⟩
theorem rep_go (z : Array Nat) : ∀ (n : Nat) (a : Array Nat), ((List.replicate n z).foldl (· ++ ·) a).toList = a.toList ++ (List.replicate n z.toList).flatten
  | 0, a => by simp
  | n + 1, a => by
    rw [List.replicate_succ, List.foldl_cons, rep_go z n, List.replicate_succ, List.flatten_cons, Array.toList_append, List.append_assoc]
theorem tl_rep (z : Str) (n : Nat) : tl (repS z n) = (List.replicate n (tl z)).flatten := by
  show ((List.replicate n z.cps).foldl (· ++ ·) #[]).toList = _
  rw [rep_go]
  rfl
theorem len_rep (z : Str) (n : Nat) : (repS z n).length = n * z.length := by
  rw [len_tl, tl_rep, List.length_flatten, List.map_replicate, List.sum_replicate_nat, len_tl]
theorem bop_repS {F : Fx} {w : Ow} {z : Str} {n : Int} (h1 : 1 < n) (h2 : n ≤ 1000) (h3 : 0 < z.length) (h4 : z.length ≤ 1000) : Bop F w (binaryOp .Mult) (rStr z) (rInt n) (rStr (repS z n.toNat)) := by
  refine bop_sem fun pins s σ G H x y u v Q I rx ry sg hx hy q => ?_
  cases (show x = V.str z from hx)
  cases (show y = V.int n from hy)
  obtain ⟨t, rfl⟩ := rx
  obtain ⟨t', rfl⟩ := ry
  have big : (1000000 : Nat) ≤ sizeLine := by decide
  have pr : z.length * n.toNat ≤ 1000 * 1000 := Nat.mul_le_mul h4 (by omega)
  have no : (n == 1 || z.length == 0) = false := by
    rw [Bool.or_eq_false_iff]
    exact ⟨by simp; omega, by simp; omega⟩
  have one : 1000 * n ≤ 2 ^ 63 - 1 := by omega
  refine P.mul_str (by rw [decide_eq_false (by omega), decide_eq_false (by omega)]; rfl) (fun _ _ => ?_) (fun _ _ => ?_) ?_
  · have : (1000 : Int) ≤ (2 ^ 63 - 1) / n := (Int.le_ediv_iff_mul_le (by omega)).mpr one
    omega
  · unfold Builtin.Str.tooLong
    exact decide_eq_false (by omega)
  · rw [if_neg (by omega), no, if_neg (by decide)]
    refine ⟨?_, .str (repS z n.toNat), H, I.tok _, ⟨_, rfl⟩, q _ G H (Step.refl sg) rfl⟩
    show (repS z n.toNat).length ≤ _
    rw [len_rep, Nat.mul_comm]
    omega
/-! ### range by steps, enumerate -/
def rngC (lo c : Int) (n : Nat) : List Rl := (List.range n).map fun (k : Nat) => rInt (lo + (k : Int) * c)
theorem rngC_len {lo c : Int} {n : Nat} : (rngC lo c n).length = n := by unfold rngC; rw [List.length_map, List.length_range]
theorem rngC_get {lo c : Int} {n i : Nat} {R : Rl} (h : (rngC lo c n)[i]? = some R) : i < n ∧ R = rInt (lo + (i : Int) * c) := by
  unfold rngC at h
  rw [List.getElem?_map] at h
  by_cases hi : i < n
  · rw [List.getElem?_range hi] at h
    cases h
    exact ⟨hi, rfl⟩
  · rw [List.getElem?_eq_none (by rw [List.length_range]; omega)] at h
    cases h
theorem yld_rngC {lo c : Int} {n : Nat} {G : Hp} : Yld (Itc lo c n) (rngC lo c n) G :=
  ⟨fun i _ _ _ _ hi => by rw [rngC_len] at hi; exact hi, fun _ _ _ _ => by rw [rngC_len]; exact Nat.le_refl n, fun i R G' H' x H'' s1 s2 hR y => by
    obtain ⟨rfl, rfl⟩ := y
    obtain ⟨_, rfl⟩ := rngC_get hR
    exact ⟨G', Step.refl s2, rfl⟩⟩
theorem fits {i : Int} (h1 : -2000000 ≤ i) (h2 : i ≤ 2000000) : Builtin.Range.rangeFitsLong i = true := by
  unfold Builtin.Range.rangeFitsLong
  rw [decide_eq_true (by omega), decide_eq_true (by omega)]
  rfl
/-- every other number below n -/
theorem rg2 {n : Nat} (hn : n ≤ 1000000) : RgC 0 (n : Int) 2 ((n + 1) / 2) := by
  refine ⟨by decide, by decide, ?_, ?_⟩
  · unfold Builtin.Range.small
    rw [PyProof.Rows.rangeSize_pos (by decide) (by omega)]
    obtain ⟨q, hq, q0, q1⟩ : ∃ q : Int, ((n : Int) + 2 - 1) / 2 = q ∧ 0 ≤ q ∧ q ≤ 1000000 := ⟨_, rfl, by omega, by omega⟩
    rw [hq, if_pos (by decide), fits (by omega) (by omega), fits (by omega) (by omega), fits (by omega) (by omega), fits (by omega) (by omega), fits (by omega) (by omega), Bool.or_true]
    rfl
  · rw [PyProof.Rows.rangeSize_pos (by decide) (by omega)]
    omega
section
variable {F : Fx} {ρ ρ1 : Ty} {ω w1 : Ow} {tg e e2 e3 : Expr} {pos p : Pos} {Rs : List Rl} {R : Rl}
theorem it_rngC {i j c : Int} {n : Nat} (he : AR F ρ ω [e, e2, e3] [rInt i, rInt j, rInt c] w1) (hg : Gl F.X "range") (hm : F.X.mg "range" = none) (hn : RgC i j c n)
    (hs : starEach [e, e2, e3] F.X.env = (false, eval e F.X.env) :: starEach [e2, e3] F.X.env := by rfl) (hpl : (backTo pos (starEach [e2, e3] F.X.env)).any (·.1) = false := by rfl) : IT F ρ ω tg (.Call (.Name "range" p) [e, e2, e3] [] pos) (rngC i c n) w1 :=
  ⟨_, pi_range3 hg hm pa_w hs hpl, fun σ G H at_ sl R k => he σ G H at_ sl _ fun v G2 H2 s a r => by
    match v, r with
    | [x, y, z], ⟨ex, ey, ez, _⟩ =>
      cases (show x = V.int i from ex)
      cases (show y = V.int j from ey)
      cases (show z = V.int c from ez)
      exact ⟨i, j, c, n, rfl, hn, k _ G2 H2 s a yld_rngC⟩⟩
/-- the things with their numbers -/
def numR (Rs : List Rl) : List Rl := Rs.zipIdx.map fun p => rTup [rInt (p.2 : Int), p.1]
theorem numR_len : (numR Rs).length = Rs.length := by unfold numR; rw [List.length_map, List.length_zipIdx]
theorem numR_get {i : Nat} {S : Rl} (h : (numR Rs)[i]? = some S) : ∃ R, Rs[i]? = some R ∧ S = rTup [rInt (i : Int), R] := by
  unfold numR at h
  rw [List.getElem?_map, List.getElem?_zipIdx] at h
  cases e : Rs[i]? with
  | none => rw [e] at h; cases h
  | some R =>
    rw [e] at h
    cases h
    exact ⟨R, rfl, by show rTup [rInt ((0 + i : Nat) : Int), R] = _; rw [Nat.zero_add]⟩
theorem yld_num {K : PySem.W.Frag} {a : Addr} {vs : List V} {G : Hp} (h1 : SqL K G a vs) (h2 : All2 Rs vs G) : Yld (Ite K a) (numR Rs) G where
  go := fun i G' H' s1 s2 hi => by
    rw [numR_len, h2.len] at hi
    exact ⟨vs, vs[i], sql_up (s1.trans s2) h1, List.getElem?_eq_getElem hi⟩
  stop := fun G' H' s1 s2 => ⟨vs, sql_up (s1.trans s2) h1, by rw [numR_len, h2.len]; exact Nat.le_refl _⟩
  yld := fun i S G' H' x H'' s1 s2 hS y => by
    obtain ⟨T, u, rfl, hT, rfl, hu⟩ := y
    obtain ⟨R, hR, rfl⟩ := numR_get hS
    obtain ⟨v, hv, rv⟩ := h2.get hR
    have e := hu vs (sql_up (s1.trans s2) h1)
    rw [hv] at e
    cases e
    have st := Step.new (o := .tup [.int (i : Nat), u]) s2 hT
    exact ⟨_, st, T, _, rfl, upd_same, mk2 rfl (R.mo _ _ _ (s1.trans st.gg) rv)⟩
theorem it_enumL {elts : List Expr} {kk : Nat} {tpos : Pos} (he : AR F ρ ω [e] [rLst Rs] w1) (hg : Gl F.X "enumerate") (hm : F.X.mg "enumerate" = none) (hs : starEach [e] F.X.env = [(false, eval e F.X.env)] := by rfl) :
    IT F ρ ω (.Tuple elts kk tpos) (.Call (.Name "enumerate" p) [e] [] pos) (numR Rs) w1 := ⟨_, pi_enum hg hm pa_w hs, fun σ G H at_ sl R k => he σ G H at_ sl _ fun vs G2 H2 s a r => by
  obtain ⟨x, rfl, p', us, rfl, h1, h2⟩ := all1 r
  exact ⟨p', us, rfl, SqL.of (a.gh _ _ h1), k _ G2 H2 s a (yld_num (SqL.of h1) h2)⟩⟩
end
/-! ### l += a list, l an owned one; len of an owned one -/
section
variable {X : Cx}
theorem seq_iadd : seqSlot? (.type "list") (dunderI "add") = pure (some (.builtin "list.__iadd__")) := PySem.seqSlot_of F.slot_list_iadd.lookup (by decide +kernel)
theorem no_fill : fillsInplaceSlot (.type "list") "add" (Operator.Add == .Add) = pure false := by
  unfold fillsInplaceSlot
  show (typeLookup (.type "list") (dunderI "add") >>= fun fi => pure (fi.isSome && !isSeqSlot fi)) = pure false
  rw [F.slot_list_iadd.lookup]
  show (pure (true && !isSeqSlot (some (Value.builtin "list.__iadd__"))) : Sem Bool) = pure false
  rw [show isSeqSlot (some (Value.builtin "list.__iadd__")) = true by decide +kernel]
  rfl
def rAugL : TIp := fun x y H Q => ∃ l b xs zs, x = .ref l ∧ y = .ref b ∧ H l = some (.lst xs) ∧ H b = some (.lst zs) ∧ xs.length + zs.length ≤ 100000 ∧ Q (.ref l) (upd H l (.lst (xs ++ zs)))
theorem ip_augL : PIp X .Add rAugL := by
  intro pins s σ H x y v u Q I rx ry h
  obtain ⟨l, b, xs, zs, rfl, rfl, hH, hB, hz, q⟩ := h
  cases rx
  cases ry
  obtain ⟨z, its, n, r, hl, e⟩ := I.lstM hH
  obtain ⟨z2, its2, n2, r2, hl2, e2⟩ := I.lstM hB
  have big : (100000 : Nat) ≤ sizeLine := by decide
  have sz : its.toArray.size + its2.toArray.size ≤ sizeLine := by rw [List.size_toArray, List.size_toArray]; omega
  have few : ¬ (!its.toArray.isEmpty && Builtin.List.listTooLong (its.toArray.size + its2.toArray.size)) = true := by
    rw [notLongL sz, Bool.and_false]
    exact Bool.false_ne_true
  unfold inplaceOp
  refine wpAny_holding ?_
  refine wpAny_bind (wpAny_typeOf ⟨_, e, rfl⟩ (wpAny_bind (wpAny_of_eq no_fill ?_)))
  show wpAny _ _ (if false = true then _ else _) _ _ _
  rw [if_neg Bool.false_ne_true]
  refine wpAny_bind (wpAny_binaryOp1_none (nm := "add") ⟨_, e, rfl⟩ ⟨_, e2, rfl⟩ noFill_list_add ?_)
  refine wpAny_bind (wpAny_of_eq seq_iadd ?_)
  refine wpAny_bind (wpAny_rule ?_)
  refine call_meets F.slot_list_iadd ⟨_, e, rfl⟩ F.entry_list_iadd (F.args_list_iadd_2 _ _) (AutoSeq1.list___iadd___list_list_0 l its.toArray n b its2.toArray n2 few (by rw [List.size_toArray]; omega) (by omega)) ⟨e, e2, ?_⟩
  exact ⟨.ref l, _, I.lset (its' := its ++ its2) hH e (by simp) (r.append r2) (by rw [List.length_append]; omega), rfl, q⟩
end
end W1
set_option maxRecDepth 100000
set_option maxHeartbeats 2000000
namespace W1
open PySem PySem.Spec PyProof.Rows L2 TL NumText

/-! ### sorted, of any length -/
/-- a call, by what it does -/
theorem callR_sem {X : Cx} {f : Value} {T : List V → Hp → VK → Prop} (h : ∀ pins s σ H xs us Q, Inv X pins σ H s → Vals xs us → T xs H Q → wpAny (model X.prog X.w) X.A (call f us) (EP X pins σ Q) X.xe s) : CallR X f T := fun pins s σ H xs us Q I r t => h pins s σ H xs us Q I r t
/-- what stands in a new list behind a call -/
theorem new_list {X : Cx} {pins : List (Addr × Obj)} {σ : L2.St} {H : Hp} {s : Shared} {vs out : List Value} {ws : List V} {Q : VK} (I : Inv X pins σ H s) (r : Vals ws out) (hz : ws.length ≤ sizeLine) (q : ∀ p, H p = none → Q (.ref p) (upd H p (.lst ws))) :
    EP X pins σ Q (.ref (s.heap.objs.size + 1)) { s with heap := sortedAll s.heap vs out.toArray } := by
  obtain ⟨ep, h⟩ := sortedAll_at s.heap vs out.toArray
  exact ⟨.ref (s.heap.objs.size + 1), upd H (s.heap.objs.size + 1) (.lst ws), I.laid (t' := s.toks) (o := .lst ws) (fun _ _ => sortedAll_old) (Nat.le_succ _) ⟨hz, out, ep, r, h⟩, rfl, q _ (I.hok.fresh (Nat.le_succ _))⟩
def rSortA (K : PySem.W.Frag) : List V → Hp → VK → Prop := fun vs H Q => ∃ (a : Addr) (xs : List Str), vs = [V.ref a] ∧ SqL K H a (xs.map V.str) ∧ ∀ p, H p = none → Q (.ref p) (upd H p (.lst ((srt xs).map V.str)))
theorem cr_sortA {X : Cx} : CallR X (.builtin "sorted") (rSortA X.K) := callR_sem fun pins s σ H vs us Q I r t => by
  obtain ⟨a, xs, rfl, hs, q⟩ := t
  obtain ⟨its, rv, hl, hz⟩ := I.list hs
  cases r with
  | cons r0 r1 =>
    cases r1
    cases r0
    refine sorted_strsAny hl.isList rv.strs (by rw [← rv.length]; exact hz) fun out ys h1 h2 h3 => ?_
    have e := srt_only h2 h3
    subst e
    have z : ((srt xs).map V.str).length ≤ sizeLine := by
      rw [List.length_map, (srt_perm xs).length_eq]
      rw [List.length_map] at hz
      exact hz
    have := new_list (vs := its) (out := out.toList) (ws := (srt xs).map V.str) (Q := Q) I (vals_of_strs h1) z q
    exact this
theorem copA {F : Fx} {w : Ow} {xs : List Str} : Cop F w (.builtin "sorted") [rLst (xs.map rStr)] (rLst ((srt xs).map rStr)) := ⟨_, cr_sortA, fun us G H at_ hx Q q => by
  obtain ⟨x, rfl, p, vs, rfl, h1, h2⟩ := all1 hx
  rw [str_vals h2] at h1
  refine ⟨p, xs, rfl, SqL.of (at_.gh _ _ h1), fun l hl => ?_⟩
  have st := Step.new (o := .lst ((srt xs).map V.str)) at_.gh hl
  exact q _ _ _ st.gg (at_.step st) ⟨l, _, rfl, upd_same, vals_str _⟩⟩
theorem copNA {F : Fx} {w : Ow} {xs : List Str} : CopN F w (.builtin "sorted") [rLst (xs.map rStr)] (oL ((srt xs).map rStr)) := ⟨_, cr_sortA, fun us G H at_ hx Q q => by
  obtain ⟨x, rfl, p, vs, rfl, h1, h2⟩ := all1 hx
  rw [str_vals h2] at h1
  exact ⟨p, xs, rfl, SqL.of (at_.gh _ _ h1), fun l hl => q l _ _ (fun hm => at_.mm l hm hl) (Same.refl _) (at_.own hl ⟨_, rfl, vals_str _⟩)⟩⟩
/-- sorted(list(d)), of any length -/
theorem er_sortedA {F : Fx} {ρ : Ty} {ω w : Ow} {e : Expr} {A : Rl} {am : Am} {p1 p2 pos1 pos2 : Pos} (he : ER F ρ ω e A w) (hd : IsDct F A w (fsA am)) (hc : F.X.calm = true) (ls : F.X.mg "list" = none) (st : F.X.mg "sorted" = none) (gl : Gl F.X "list" := by rfl) (gs : Gl F.X "sorted" := by rfl)
    (s1 : starEach [e] F.X.env = (false, eval e F.X.env) :: starEach [] F.X.env := by rfl) (s2 : starEach [.Call (.Name "list" p1) [e] [] pos1] F.X.env = (false, eval (.Call (.Name "list" p1) [e] [] pos1) F.X.env) :: starEach [] F.X.env := by rfl) : ER F ρ ω (.Call (.Name "sorted" p2) [.Call (.Name "list" p1) [e] [] pos1] [] pos2) (rLst ((srt (namesA am)).map rStr)) w := by
  refine er_callB copA gs st bt_sorted (ar_cons ?_ ar_nil s2) (he := s2)
  have h := er_callTy (p := p1) (pos := pos1) (es := []) (cop_listD hc hd) gl ls bt_list (ar_cons he ar_nil s1) (he := s1)
  rw [kRs_A] at h
  exact h
/-! ### sorted pairs of a name and a number -/
abbrev rPr (p : Str × Int) : Rl := rTup [rStr p.1, rInt p.2]
def shP : Nat → Bool := fun i => i == 0
def keyP (p : Str × Int) : List (Int ⊕ List Nat) := [.inr (tl p.1), .inl p.2]
def ltP2 (p q : Str × Int) : Bool := lexLt itemOrd (keyP p) (keyP q)
theorem swoP {α : Type} (f : α → Str × Int) : SrtO.Swo (fun x y => ltP2 (f x) (f y)) where
  asym x y h := by
    cases e : ltP2 (f y) (f x) with
    | false => rfl
    | true =>
      have := (listOrd itemOrd).trans (keyP (f x)) (keyP (f y)) (keyP (f x)) h e
      rw [(listOrd itemOrd).irrefl] at this
      cases this
  tr x y z h1 h2 := by
    cases e : ltP2 (f z) (f x) with
    | false => rfl
    | true =>
      rcases (listOrd itemOrd).negTrans (keyP (f z)) (keyP (f y)) (keyP (f x)) e with k | k
      · exact absurd (h2.symm.trans k) (by decide)
      · exact absurd (h1.symm.trans k) (by decide)
/-- such a pair in the heap -/
def IsP (h : Heap) (u : Value) (p : Str × Int) : Prop := ∃ t o t1 t2 n, u = .ref t ∧ h.get? t = some o ∧ o.cls = .type "tuple" ∧ o.data = .seq #[.str p.1 t1, .int p.2 t2] n
theorem IsP.key {h : Heap} {u : Value} {p : Str × Int} (k : IsP h u p) : tupKey h shP u = some (keyP p) := by
  obtain ⟨t, o, t1, t2, n, rfl, ho, hc, hd⟩ := k
  unfold tupKey
  simp only [ho, hd, tupItems, shP]
  rfl
theorem IsP.up {h h' : Heap} {u : Value} {p : Str × Int} (k : IsP h u p) (s : ∀ b o, h.get? b = some o → o.cls = .type "tuple" → h'.get? b = some o) : IsP h' u p := by
  obtain ⟨t, o, t1, t2, n, e, ho, hc, hd⟩ := k
  exact ⟨t, o, t1, t2, n, e, s _ _ ho hc, hc, hd⟩
theorem tups_isP {h : Heap} : ∀ {us : List Value}, (∀ u ∈ us, ∃ p, IsP h u p) → ∃ fs, TupsOf h shP us fs ∧ fs.length = us.length
  | [], _ => ⟨[], .nil, rfl⟩
  | u :: us, k => by
    obtain ⟨fs, h1, h2⟩ := tups_isP (us := us) fun v hv => k v (List.mem_cons_of_mem _ hv)
    obtain ⟨p, t, o, t1, t2, n, rfl, ho, hc, hd⟩ := k u List.mem_cons_self
    exact ⟨.str p.1 t1 :: fs, .cons ⟨t, o, _, n, rfl, ho, hc, hd, rfl, (fun e => (by cases e)), (fun _ => ⟨_, _, rfl⟩)⟩ h1, by rw [List.length_cons, List.length_cons, h2]⟩
theorem sortable_P {prog : Program} {w : World} {A : Around} {s : Shared} {a : Addr} {us : List Value} {k : Value → Str × Int} (hn : 0 < us.length) (hp : ∀ u ∈ us, IsP s.heap u (k u)) (ha : ∀ o, s.heap.get? a = some o → o.cls ≠ .type "tuple") :
    SrtO.SortableO prog w A s a us fun u v => ltP2 (k u) (k v) := by
  intro h' keep
  have up : ∀ u ∈ us, IsP h' u (k u) := fun u hu => (hp u hu).up fun b o e c => keep b o (fun z => by subst z; exact ha o e c) e
  obtain ⟨fs, h1, h2⟩ := tups_isP fun u hu => ⟨_, up u hu⟩
  refine ⟨tuples' true, fun Q E hq => tup_kind (shape := shP) (by omega) h1 hq, fun p q m1 m2 => ?_⟩
  exact tup_ltAt (shape := shP) true A _ p.1 q.1 _ _ (up _ m1).key (up _ m2).key ⟨rfl, rfl⟩
def rSortP (K : PySem.W.Frag) : List V → Hp → VK → Prop := fun vs H Q => ∃ (a : Addr) (ys : List V) (k : V → Str × Int), vs = [V.ref a] ∧ SqL K H a ys ∧ (∀ y ∈ ys, ∃ t, y = V.ref t ∧ H t = some (.tup [.str (k y).1, .int (k y).2])) ∧
  ∀ zs p, zs.Perm ys → SrtO.Srtd (fun x y => ltP2 (k x) (k y)) zs → H p = none → Q (.ref p) (upd H p (.lst zs))
theorem cr_sortP {X : Cx} : CallR X (.builtin "sorted") (rSortP X.K) := callR_sem fun pins s σ H vs us Q I r t => by
  obtain ⟨a, ys, k, rfl, hs, hk, q⟩ := t
  obtain ⟨its, rv, hl, hz⟩ := I.list hs
  obtain ⟨e1, e2⟩ := refs_back rv fun y m => let ⟨t, e, _⟩ := hk y m; ⟨t, e⟩
  have isp : ∀ u ∈ its, IsP s.heap u (k (backV u)) := fun u hu => by
    obtain ⟨t, rfl⟩ := e2 u hu
    obtain ⟨t', e, ht⟩ := hk (V.ref t) (by rw [e1]; exact List.mem_map.mpr ⟨_, hu, rfl⟩)
    cases e
    obtain ⟨_, w2, r2, o, ho, hc, n, hd⟩ := I.hok _ _ ht
    match w2, r2 with
    | [_, _], .cons ⟨t1, e3⟩ (.cons ⟨t2, e4⟩ .nil) =>
      subst e3
      subst e4
      exact ⟨t, o, t1, t2, n, rfl, ho, hc, hd⟩
  cases r with
  | cons r0 r1 =>
    cases r1
    cases r0
    refine SrtO.sorted_ord (ltv := fun u v => ltP2 (k (backV u)) (k (backV v))) (swoP _) hl.isList (by rw [← rv.length]; exact hz) (fun h2 h₁ b hb kp => ?_) fun out h1 h2 => ?_
    · refine sortable_P (k := fun u => k (backV u)) (by omega) (fun u hu => (isp u hu).up fun c o e _ => (kp c o e).2) fun o e c => ?_
      rw [show h₁.get? b = some _ from hb] at e
      cases e
      have c2 : Value.type "list" = Value.type "tuple" := c
      injection c2 with c3
      exact absurd c3 (by decide)
    · have h3 : ∀ u ∈ out, ∃ a, u = Value.ref a := fun u hu => e2 u (h2.perm.mem_iff.mp hu)
      have hp : (out.map backV).Perm ys := by rw [e1]; exact h2.perm.map _
      exact new_list (vs := its) I (vals_back h3) (by rw [hp.length_eq]; exact hz) fun p hn => q _ p hp (List.pairwise_map.mpr h1) hn
/-- by names alone, where no name comes twice -/
def srtA (xs : Am) : Am := (srt (namesA xs)).map fun g => (g, valA xs g)
theorem val_mem : ∀ {xs : Am} {p : Str × Int}, (namesA xs).Nodup → p ∈ xs → valA xs p.1 = p.2
  | [], p, _, h => by cases h
  | (g, n) :: xs, p, nd, h => by
    have nd' : g ∉ namesA xs ∧ (namesA xs).Nodup := List.nodup_cons.mp nd
    unfold valA
    rw [List.find?_cons]
    rcases List.mem_cons.mp h with rfl | h
    · simp
    · have hne : ¬ g = p.1 := fun e => nd'.1 (e ▸ List.mem_map_of_mem h)
      simp only [hne, decide_false]
      exact val_mem nd'.2 h
theorem names_perm {xs ys : Am} (h : ys.Perm xs) : (namesA ys).Perm (namesA xs) := h.map _
theorem am_names {xs ys : Am} (nd : (namesA xs).Nodup) (h : ∀ p ∈ ys, p ∈ xs) : ys = (namesA ys).map fun g => (g, valA xs g) := by
  unfold namesA
  rw [List.map_map]
  refine (List.map_id ys).symm.trans (List.map_congr_left fun p hp => ?_)
  show p = (p.1, valA xs p.1)
  rw [val_mem nd (h p hp)]
theorem lt_names {p q : Str × Int} (h : ltP2 q p = false) : leS p.1 q.1 = true := by
  have h1 : strKind.blt (tl q.1) (tl p.1) = false := (lex_false.mp h).1
  exact decide_eq_true (List.not_lt.mp (of_decide_eq_false h1))
theorem sorted_is {xs ys : Am} (nd : (namesA xs).Nodup) (pm : ys.Perm xs) (s : SrtO.Srtd ltP2 ys) : ys = srtA xs := by
  have e : namesA ys = srt (namesA xs) := List.Perm.eq_of_pairwise (le := fun a b => leS a b = true) (fun a b _ _ h1 h2 => leS_anti h1 h2) (List.pairwise_map.mpr (s.imp fun h => lt_names h)) (srt_pair _) ((names_perm pm).trans (srt_perm _).symm)
  rw [am_names nd fun p hp => pm.mem_iff.mp hp, e]
  rfl
/-- what pair stands at v -/
def pairAt (H : Hp) : V → Str × Int
  | .ref t => match H t with
    | some (.tup [.str g, .int n]) => (g, n)
    | _ => (Str.empty, 0)
  | _ => (Str.empty, 0)
theorem pair_at {H : Hp} {p : Str × Int} {v : V} (h : (rPr p).r v H) : pairAt H v = p ∧ ∃ t, v = .ref t ∧ H t = some (.tup [.str p.1, .int p.2]) := by
  obtain ⟨t, us, rfl, h1, h2⟩ := h
  obtain ⟨u1, u2, rfl, e1, e2⟩ := all2 h2
  cases (show u1 = V.str p.1 from e1)
  cases (show u2 = V.int p.2 from e2)
  refine ⟨?_, t, rfl, h1⟩
  show (match H t with
    | some (.tup [.str g, .int n]) => (g, n)
    | _ => (Str.empty, 0)) = p
  rw [h1]
theorem pairs_at {H : Hp} : ∀ {xs : Am} {vs : List V}, All2 (xs.map rPr) vs H → vs.map (pairAt H) = xs ∧ ∀ v ∈ vs, (rPr (pairAt H v)).r v H
  | [], [], _ => ⟨rfl, fun _ h => by cases h⟩
  | p :: xs, v :: vs, ⟨a, b⟩ => by
    obtain ⟨h1, h2⟩ := pairs_at (xs := xs) b
    have e := (pair_at a).1
    refine ⟨by rw [List.map_cons, h1, e], fun u hu => ?_⟩
    rcases List.mem_cons.mp hu with rfl | hu
    · rw [e]; exact a
    · exact h2 u hu
theorem all2_map {α : Type} {f : V → α} {R : α → Rl} {H : Hp} : ∀ {vs : List V}, (∀ v ∈ vs, (R (f v)).r v H) → All2 ((vs.map f).map R) vs H
  | [], _ => trivial
  | v :: vs, h => ⟨h v List.mem_cons_self, all2_map fun u hu => h u (List.mem_cons_of_mem _ hu)⟩
theorem copP {F : Fx} {w : Ow} {xs : Am} (nd : (namesA xs).Nodup) : Cop F w (.builtin "sorted") [rLst (xs.map rPr)] (rLst ((srtA xs).map rPr)) := ⟨_, cr_sortP, fun us G H at_ hx Q q => by
  obtain ⟨x, rfl, p, vs, rfl, h1, h2⟩ := all1 hx
  obtain ⟨e1, e2⟩ := pairs_at h2
  refine ⟨p, vs, pairAt G, rfl, SqL.of (at_.gh _ _ h1), fun v hv => ?_, fun zs l pm s hl => ?_⟩
  · obtain ⟨_, t, rfl, ht⟩ := pair_at (e2 v hv)
    exact ⟨t, rfl, at_.gh _ _ ht⟩
  · have e3 : zs.map (pairAt G) = srtA xs := sorted_is nd (by rw [← e1]; exact pm.map _) (List.pairwise_map.mpr s)
    have st := Step.new (o := .lst zs) at_.gh hl
    refine q _ _ _ st.gg (at_.step st) ⟨l, zs, rfl, upd_same, ?_⟩
    rw [← e3]
    exact (all2_map fun v hv => e2 v (pm.mem_iff.mp hv)).up st.gg⟩
/-! ### lists that are owned: len, a text's split as one, += -/
section
variable {F : Fx} {ρ : Ty} {ω w w1 w2 : Ow} {e o : Expr} {es : List Expr} {A R : Rl} {As Rs Ss : List Rl} {K : Kn} {rest : List Stmt} {q : Addr} {pos p apos : Pos} {x : Str} {y z : Str}
theorem cop_lenO (h : (q, oL Rs) ∈ w) : Cop F w (.builtin "len") [rRef q] (rInt (Rs.length : Int)) := by
  refine ⟨_, call_len_seq, fun xs G H at_ hx Q k => ?_⟩
  obtain ⟨v, rfl, hv⟩ := all1 hx
  cases (show v = V.ref q from hv)
  obtain ⟨_, _, o, h1, vs, rfl, h2⟩ := at_.ow _ h
  have e2 : (vs.length : Int) = (Rs.length : Int) := by rw [h2.len]
  exact ⟨q, vs, rfl, .inl (SqL.of h1), k _ G H (Same.refl _) at_ (congrArg V.int e2)⟩
end
end W1
set_option maxRecDepth 100000
set_option maxHeartbeats 2000000
namespace W1
open PySem PySem.Spec PyProof.Rows L2 TL NumText

/-! ### a comprehension that carries a state from turn to turn: tested, then made -/
def lcS {α β γ : Type} (p : β → α → Bool) (b1 b2 : β → α → β) (B : β → α → γ) : List α → β → List γ × β
  | [], b => ([], b)
  | a :: xs, b => if p b a = true then (B b a :: (lcS p b1 b2 B xs (b2 b a)).1, (lcS p b1 b2 B xs (b2 b a)).2) else lcS p b1 b2 B xs (b1 b a)
theorem lcS_cons {α β γ : Type} {p : β → α → Bool} {b1 b2 : β → α → β} {B : β → α → γ} {a : α} {xs : List α} {b : β} : lcS p b1 b2 B (a :: xs) b = if p b a = true then (B b a :: (lcS p b1 b2 B xs (b2 b a)).1, (lcS p b1 b2 B xs (b2 b a)).2) else lcS p b1 b2 B xs (b1 b a) := rfl
theorem lcS_len {α β γ : Type} {p : β → α → Bool} {b1 b2 : β → α → β} {B : β → α → γ} : ∀ (xs : List α) (b : β), (lcS p b1 b2 B xs b).1.length ≤ xs.length
  | [], b => Nat.le_refl _
  | a :: xs, b => by
    unfold lcS
    have h1 := lcS_len (p := p) (b1 := b1) (b2 := b2) (B := B) xs (b2 b a)
    have h2 := lcS_len (p := p) (b1 := b1) (b2 := b2) (B := B) xs (b1 b a)
    split
    · rw [List.length_cons, List.length_cons]; omega
    · rw [List.length_cons]; omega
section
variable {F : Fx} {ρ : Ty} {ω w w1 w2 : Ow} {e o it elt c : Expr} {es : List Expr} {A R : Rl} {As Rs Ss : List Rl} {K : Kn} {rest : List Stmt} {q : Addr} {pos p apos spos py : Pos} {x y : Str} {scope : Scope} {α β γ : Type}
theorem hb_setLs {xs : List α} {A : α → Rl} {R : γ → Rl} (pr : β → α → Bool) (b1 b2 : β → α → β) (B : β → α → γ) (wf : β → Ow) (b0 : β) (l i : Nat) (hi : F.X.N[i]? = some x) (hpg : ∀ (s : Shared) (H : Hp) (C : Addr) (cl : List (Str × Addr)) (fp : List Addr), PG (F.X.blk s H scope (compEnvC scope cl C F.X.env) fp) (.Name x p) (gName i))
    (ok : BlkOk F.X.N F.X.env.scope scope [(x, i)]) (hit : IT F ρ ω (.Name x p) it (xs.map A) (wf b0)) (hz : xs.length ≤ 100000)
    (ht : ∀ b a, a ∈ xs → ∀ s H0 C cl fp d, TR (blkF F s H0 scope C cl fp) ((ρ.set i none).set i (some (A a))) (d :: wf b) c (pr b a) (d :: wf (b1 b a)))
    (he : ∀ b a, a ∈ xs → pr b a = true → ∀ s H0 C cl fp d, ER (blkF F s H0 scope C cl fp) ((ρ.set i none).set i (some (A a))) (d :: wf (b1 b a)) elt (R (B b a)) (d :: wf (b2 b a)))
    (hf : HB F (ρ.set l (some (rLst ((lcS pr b1 b2 B xs b0).1.map R)))) (wf (lcS pr b1 b2 B xs b0).2) rest K)
    (hN : F.X.N.Nodup) (hsw : swapsWith (.ListComp elt [⟨.Name x p, it, [c], 0⟩] scope pos) (some (.Name y py)) spos.line F.X.env = pure true) (hc : F.X.calm = true := by rfl) (hy : F.X.N[l]? = some y := by rfl) (hyl : F.X.env.scope.names.lookup y = some .local := by rfl) (hs : ∀ z, foldedSetIterable it F.X.env z = pure z := by intro _; rfl) :
    HB F ρ ω (.Assign [.Name y py] (.ListComp elt [⟨.Name x p, it, [c], 0⟩] scope pos) spos :: rest) K := hb_cons fun σ G H De at_ sl ps => by
  obtain ⟨wi, hpi, hwi⟩ := hit
  refine sw_of (ps_setLc hc hN hy hyl hsw hpi ok hpg (fun _ _ _ _ _ => pts_one (t := fun σ H Q => ∀ s H0 C cl fp, TW (F.X.blk s H0 scope (compEnvC scope cl C F.X.env) fp) c σ H Q) ⟨fun pins s σ H Q I h => h _ _ _ _ _ pins s I⟩) (te := fun σ H Q => ∀ s H0 C cl fp, EW (F.X.blk s H0 scope (compEnvC scope cl C F.X.env) fp) elt σ H Q) (fun _ _ _ _ _ => ⟨fun pins s σ H Q I h => h _ _ _ _ _ pins s I⟩) hs) ?_
  refine hwi σ G H at_ sl _ fun J G2 H2 s2 a2 y2 => fun D hD => ?_
  have hM : D ∉ F.M := fun hm => a2.mm D hm hD
  have hlen : (xs.map A).length = xs.length := List.length_map _
  -- what is done, the state, what is left
  refine ⟨fun j m H => m = xs.length - j ∧ j ≤ xs.length ∧ ∃ G b done, At F ((D, oL (done.map R)) :: wf b) G H ∧ Same G2 G ∧ done.length ≤ j ∧ lcS pr b1 b2 B xs b0 = (done ++ (lcS pr b1 b2 B (xs.drop j) b).1, (lcS pr b1 b2 B (xs.drop j) b).2),
    ⟨xs.length, by simp, Nat.zero_le _, G2, b0, ([] : List γ), a2.own (O := oL (([] : List γ).map R)) hD ⟨[], rfl, trivial⟩, Same.refl _, Nat.le_refl _, rfl⟩, ?_⟩
  rintro j m H1 ⟨rfl, hj, G1, b, done, a1, s1, hd, eq⟩
  by_cases hlt : j < xs.length
  · have hx : xs[j]? = some xs[j] := List.getElem?_eq_getElem hlt
    have hgo : (xs.map A)[j]? = some (A xs[j]) := by rw [List.getElem?_map, hx]; rfl
    have hdr : xs.drop j = xs[j] :: xs.drop (j + 1) := List.drop_eq_getElem_cons hlt
    have hm : xs[j] ∈ xs := List.getElem_mem hlt
    generalize xs[j] = a at hgo hdr hm
    rw [hdr, lcS_cons] at eq
    refine .inr ⟨y2.go j G1 H1 s1 a1.gh (by rw [hlen]; exact hlt), fun H' => ∃ G b done, At F ((D, oL (done.map R)) :: wf b) G H' ∧ Same G2 G ∧ done.length ≤ j + 1 ∧ lcS pr b1 b2 B xs b0 = (done ++ (lcS pr b1 b2 B (xs.drop (j + 1)) b).1, (lcS pr b1 b2 B (xs.drop (j + 1)) b).2), fun H' z => ⟨xs.length - (j + 1), by omega, rfl, hlt, z⟩, fun v H' y => ?_⟩
    obtain ⟨G3, st, rx⟩ := y2.yld j (A a) G1 H1 v H' s1 a1.gh hgo y
    have a3 := a1.step st
    have s3 := s1.trans st.gg
    refine gew_name v σ G3 H' _ a3.gh ((sl.up s2).up s3) rx fun σ2 hw sl2 => ⟨hw, ?_⟩
    intro s H0 C cl fp
    refine ht b a hm s H0 C cl fp (D, oL (done.map R)) σ2 G3 H' a3.to sl2 _ fun G4 H4 s4 a4' => ?_
    have a4 : At F ((D, oL (done.map R)) :: wf (b1 b a)) G4 H4 := At.to (F := blkF F s H0 scope C cl fp) (F' := F) a4'
    cases e : pr b a with
    | false =>
      rw [e, if_neg (by decide)] at eq
      rw [if_neg (by decide)]
      exact ⟨G4, b1 b a, done, a4, s3.trans s4, Nat.le_succ_of_le hd, eq⟩
    | true =>
      rw [e, if_pos rfl] at eq
      rw [if_pos rfl]
      intro s H0 C cl fp
      refine he b a hm e s H0 C cl fp (D, oL (done.map R)) σ2 G4 H4 a4.to (sl2.up s4) _ fun u G5 H5 s5 a5' r5 => ?_
      have a5 : At F ((D, oL (done.map R)) :: wf (b2 b a)) G5 H5 := At.to (F := blkF F s H0 scope C cl fp) (F' := F) a5'
      obtain ⟨_, _, ob, h1, vs, rfl, h2⟩ := a5.ow _ List.mem_cons_self
      have l2 := h2.len
      rw [List.length_map] at l2
      refine ⟨vs, h1, Nat.lt_of_le_of_lt (by omega : vs.length ≤ 100000) (by decide), G5, b2 b a, done ++ [B b a], a5.chg ⟨_, rfl, ?_⟩, (s3.trans s4).trans s5, by rw [List.length_append, List.length_singleton]; omega, ?_⟩
      · rw [List.map_append]
        exact h2.app (mk1 r5)
      · rw [eq, List.append_assoc]
        rfl
  · have ej : j = xs.length := by omega
    subst ej
    rw [List.drop_length] at eq
    have e2 : lcS pr b1 b2 B xs b0 = (done, b) := by
      rw [eq]
      show (done ++ [], b) = _
      rw [List.append_nil]
    rw [e2] at hf
    refine .inl ⟨by have := y2.stop G1 H1 s1 a1.gh; rw [hlen] at this; exact this, ?_⟩
    obtain ⟨hg0, _, ob, h1, vs, rfl, h2⟩ := a1.ow _ List.mem_cons_self
    have a5 := a1.pub h1 (At.own0 a1 hM)
    have sg : Same G1 (upd G1 D (.lst vs)) := fun b u e => by rw [upd_ne (ne_of_none e hg0)]; exact e
    have s7 := (s2.trans s1).trans sg
    have rl : (rLst (done.map R)).r (.ref D) (upd G1 D (.lst vs)) := ⟨D, vs, rfl, upd_same, h2.up sg⟩
    exact hf _ _ _ De a5 ((sl.up s7).set l rl) (ps.up s7)
/-! ### l += a list; a split that is owned -/
theorem hb_augL (i : Nat) (hi : F.X.N[i]? = some x) (hρ : ρ[i]? = some (some (rRef q))) (he : ER F ρ ((q, oL Rs) :: w) e (rLst Ss) ((q, oL Rs) :: w2)) (hz : Rs.length + Ss.length ≤ 100000) (h : HB F ρ ((q, oL (Rs ++ Ss)) :: w2) rest K)
    (hN : F.X.N.Nodup := by assumption) (hx : Loc F.X.env.scope x := by first | exact Or.inl rfl | exact Or.inr rfl) (hf : F.X.fn x = true ∨ F.X.env.scope.names.lookup x = some .local := by first | exact .inl rfl | exact .inr rfl | assumption) :
    HB F ρ ((q, oL Rs) :: w) (.AugAssign (.Name x p) .Add e pos :: rest) K := hb_cons fun σ G H D at_ sl ps => by
  obtain ⟨v, hv, rv⟩ := sl.at_ i _ hρ
  cases (show v = V.ref q from rv)
  refine sw_of (ps_aug hN hi hx pe_w ip_augL hf) ⟨_, hv, he σ G H at_ sl _ fun u G1 H1 s1 a1 r1 => ?_⟩
  obtain ⟨b, zs, rfl, hb, hzs⟩ := r1
  obtain ⟨_, _, ob, h1, vs, rfl, h2⟩ := a1.ow _ List.mem_cons_self
  refine ⟨q, b, vs, zs, rfl, rfl, h1, a1.gh _ _ hb, by rw [← h2.len, ← hzs.len]; exact hz, ?_⟩
  have e : σ.set i (some (V.ref q)) = σ := by
    refine List.ext_getElem? fun j => ?_
    by_cases hj : i = j
    · subst hj
      have hl : i < σ.length := by
        rcases Nat.lt_or_ge i σ.length with k | k
        · exact k
        · rw [List.getElem?_eq_none k] at hv; cases hv
      rw [List.getElem?_set_self hl, hv]
    · rw [List.getElem?_set_ne hj]
  show BW F.X rest D (σ.set i (some (V.ref q))) _
  rw [e]
  exact h σ G1 _ D (a1.chg ⟨_, rfl, h2.app hzs⟩) (sl.up s1) (ps.up s1)
theorem en_split {z y : Str} (ho : ER F ρ ω o (rStr z) w1) (ha : AR F ρ w1 [e] [rStr y] w2) (hy : (y.length == 0) = false) (hz : z.length ≤ 100000) (hbase : attributeBase o "split" F.X.env (eval o F.X.env) = eval o F.X.env := by rfl)
    (hfew : ((backTo p (starEach [e] F.X.env)).all (fun x => !x.1) && (backToKw p (keywordEach [] F.X.env)).all (fun x => x.1.isSome)
      && decide ([e].length + ([] : List Keyword).length + (if ([] : List Keyword).isEmpty then 0 else 1) < 30)) = true := by rfl)
    (hline : (apos.endLine == p.line) = true := by rfl) (hs : starEach [e] F.X.env = (false, eval e F.X.env) :: starEach [] F.X.env := by rfl) (hplain : (backTo p (starEach [] F.X.env)).any (·.1) = false := by rfl) :
    EN F ρ ω (.Call (.Attribute o "split" apos) [e] [] p) (oL ((Txt.split z y).map rStr)) w2 := fun σ G H at_ sl Q k => by
  refine ew_of (pe_bm (T := "str") PySem.F.plainAttrs_str PySem.F.slot_str_split PySem.F.type_str_split mt_split pe_w pa_w hbase hfew hline hs hplain) (ho σ G H at_ sl _ fun v G1 H1 s1 a1 r1 => ⟨ty_str v G1 H1 a1.gh r1, ha σ G1 H1 a1 (sl.up s1) _ fun us G2 H2 s2 a2 r2 => ?_⟩)
  obtain ⟨u, rfl, ru⟩ := all1 r2
  exact ⟨z, y, r1, by rw [show u = V.str y from ru], hy, Nat.le_trans (Nat.add_le_add_right hz 2) (by decide), fun l hl => k l G2 _ (fun hm => a2.mm l hm hl) (s1.trans s2) (a2.own hl ⟨_, rfl, vals_str _⟩)⟩
end
end W1
set_option maxRecDepth 100000
set_option maxHeartbeats 2000000
namespace W1
open PySem PySem.Spec PyProof.Rows L2 TL NumText
section
variable {F : Fx} {ρ : Ty} {ω w1 w2 : Ow} {a b : Expr} {A : Rl} {fs : List (Key × Rl)} {k : Key} {n : Nat} {pos : Pos}
/-- a test: k in d -/
theorem tr_din (hi : ER F ρ ω a (rEqV (kV k)) w1) (ho : ER F ρ w1 b A w2) (hd : IsDct F A w2 fs) (hr : Room n F.X.A) (hm : behindInMarks .In b = false := by rfl) : TR F ρ ω (.Compare a [.In] [b] pos) (valR fs k).isSome w2 := fun σ G H at_ sl Q z => by
  refine tw_of (pt_cmp (pc_din (by have := hr.units; omega) pe_w pe_w) hm) (hi σ G H at_ sl _ fun y G1 H1 s1 a1 r1 => ho σ G1 H1 a1 (sl.up s1) _ fun x G2 H2 s2 a2 r2 => ?_)
  obtain ⟨p, vs, rfl, h1, h2⟩ := hd x G2 H2 a2 r2
  refine ⟨p, valV vs k, rfl, .inl ⟨vs, k, h1, r1, rfl⟩, ?_⟩
  rw [isSome_val h2]
  exact ⟨_, rfl, z G2 H2 (s1.trans s2) a2⟩
theorem tr_dni (hi : ER F ρ ω a (rEqV (kV k)) w1) (ho : ER F ρ w1 b A w2) (hd : IsDct F A w2 fs) (hr : Room n F.X.A) (hm : behindInMarks .NotIn b = false := by rfl) : TR F ρ ω (.Compare a [.NotIn] [b] pos) (!(valR fs k).isSome) w2 := fun σ G H at_ sl Q z => by
  refine tw_of (pt_cmp (pc_dnotin (by have := hr.units; omega) pe_w pe_w) hm) (hi σ G H at_ sl _ fun y G1 H1 s1 a1 r1 => ho σ G1 H1 a1 (sl.up s1) _ fun x G2 H2 s2 a2 r2 => ?_)
  obtain ⟨p, vs, rfl, h1, h2⟩ := hd x G2 H2 a2 r2
  refine ⟨p, valV vs k, rfl, .inl ⟨vs, k, h1, r1, rfl⟩, ?_⟩
  rw [isSome_val h2]
  exact ⟨_, rfl, z G2 H2 (s1.trans s2) a2⟩
end
end W1
set_option maxRecDepth 100000
set_option maxHeartbeats 2000000
namespace W1
open PySem PySem.Spec PyProof.Rows L2 TL NumText
/-! ### what raises inside: arguments, a if c else b -/
def AX (F : Fx) (ρ : Ty) (ω : Ow) (es : List Expr) (P : Er) (ω' : Ow) : Prop :=
  ∀ σ G H, At F ω G H → Slots ρ σ G → (∀ cls d G2 H2, Same G G2 → At F ω' G2 H2 → P cls d G2 → F.W cls d σ H2) → AW F.X es σ H fun _ _ => False
theorem pa_x {X : Cx} {es : List Expr} : PA X es (fun σ H _ => AW X es σ H fun _ _ => False) := ⟨fun pos pins s σ H Q I z => thn (z pos pins s I) fun _ _ ⟨_, _, _, _, q⟩ => q.elim⟩
section
variable {F : Fx} {ρ : Ty} {ω w w1 w2 : Ow} {a b c e : Expr} {es : List Expr} {R : Rl} {P : Er} {pos p : Pos} {x : Str} {k : Nat} {C : Addr} {pre : Pre}
theorem ax_here (h : EX F ρ ω e P w) (hs : starEach (e :: es) F.X.env = (false, eval e F.X.env) :: starEach es F.X.env := by rfl) : AX F ρ ω (e :: es) P w := fun σ G H at_ sl k =>
  aw_of (pa_cons (pe_x (t := fun _ _ _ => True)) pa_w hs) (h σ G H at_ sl k)
theorem ax_cons (h : ER F ρ ω e R w1) (hx : AX F ρ w1 es P w2) (hs : starEach (e :: es) F.X.env = (false, eval e F.X.env) :: starEach es F.X.env := by rfl) : AX F ρ ω (e :: es) P w2 := fun σ G H at_ sl k =>
  aw_of (pa_cons pe_w pa_x hs) (h σ G H at_ sl _ fun v G2 H2 s a r => hx σ G2 H2 a (sl.up s) fun cls d G3 H3 s3 => k cls d G3 H3 (s.trans s3))
theorem ex_cA (T : Kc F.X.prog F.X.w F.X.K F.X.mg F.X.base C x k pre) (hr : Room (k + 1) F.X.A) (ha : AX F ρ ω (e :: es) P w)
    (hg : Gl F.X x := by rfl) (hdb : (x == ("__debug__" : Str)) = false := by decide) (he : starEach (e :: es) F.X.env = (false, eval e F.X.env) :: starEach es F.X.env := by rfl) (hpl : (backTo pos (starEach es F.X.env)).any (·.1) = false := by rfl) :
    EX F ρ ω (.Call (.Name x p) (e :: es) [] pos) P w := fun σ G H at_ sl q => by
  obtain ⟨f, fd, ps, hm, M, hb, Fn⟩ := T
  exact ew_of (pe_makeS M Fn hr hg hm hb passW pa_x hdb he hpl) (ha σ G H at_ sl q)
theorem ex_ifx2 (h : TR F ρ ω c false w1) (h2 : EX F ρ w1 b P w2) : EX F ρ ω (.IfExp c a b pos) P w2 := fun σ G H at_ sl q => by
  refine ew_of (pe_ifExp pt_w pe_w (pe_x (t := fun _ _ _ => True))) (h σ G H at_ sl _ fun G2 H2 s a => iteF (h2 σ G2 H2 a (sl.up s) fun cls d G3 H3 s3 => q cls d G3 H3 (s.trans s3)))
end
/-! ### cut at a sign, or at some -/
theorem split_tl {z y : Str} (hy : tl y ≠ []) (hk : y.cps.all (· < 256) = true) : (Txt.split z y).map tl = spl (tl y) 0 [] (tl z) := split_spl z y hy (kind_ok hk)
theorem split_le {z y w : Str} (hy : tl y ≠ []) (hk : y.cps.all (· < 256) = true) (h : w ∈ Txt.split z y) : w.length ≤ z.length := by
  rw [len_tl, len_tl]
  have := spl_len (tl z) [] 0 (tl w) (by rw [← split_tl hy hk]; exact List.mem_map_of_mem h)
  simpa using this
theorem split_ne {z y : Str} (hy : tl y ≠ []) (hk : y.cps.all (· < 256) = true) : Txt.split z y ≠ [] := fun e => by
  have := split_tl (z := z) hy hk
  rw [e] at this
  exact spl_ne _ _ _ this.symm
theorem spl_many {S : List Nat} : ∀ (l acc : List Nat) (k : Nat), (spl S k acc l).length ≤ l.length + 1
  | [], acc, k => by rw [spl_nil]; exact Nat.le_refl _
  | c :: l, acc, 0 => by
    by_cases h : pre S (c :: l) = true
    · rw [spl_hit h]
      have := spl_many (S := S) l [] (S.length - 1)
      rw [List.length_cons, List.length_cons]; omega
    · rw [spl_miss (Bool.eq_false_iff.mpr h)]
      have := spl_many (S := S) l (acc ++ [c]) 0
      rw [List.length_cons]; omega
  | c :: l, acc, k + 1 => by
    have := spl_many (S := S) l acc k
    show (spl S k acc l).length ≤ _
    rw [List.length_cons]; omega
theorem split_many {z y : Str} (hy : tl y ≠ []) (hk : y.cps.all (· < 256) = true) : (Txt.split z y).length ≤ z.length + 1 := by
  have h := spl_many (S := tl y) (tl z) [] 0
  rw [← split_tl hy hk, List.length_map] at h
  rw [len_tl z]
  exact h
theorem split_sum {z y : Str} {s : Nat} (hy : tl y = [s]) (hk : y.cps.all (· < 256) = true) : ((Txt.split z y).map (·.length)).sum + (Txt.split z y).length = z.length + 1 := by
  have h := spl_sum (s := s) (tl z) []
  have e0 : (Txt.split z y).map tl = spl [s] 0 [] (tl z) := by rw [← hy]; exact split_tl (by rw [hy]; simp) hk
  rw [← e0, List.length_map, List.map_map] at h
  rw [len_tl z]
  have e : (Txt.split z y).map (·.length) = (Txt.split z y).map (List.length ∘ tl) := List.map_congr_left fun w _ => len_tl w
  rw [e]
  simpa using h
end W1
set_option maxRecDepth 100000
set_option maxHeartbeats 2000000
namespace W1
open PySem PySem.Spec PyProof.Rows L2 TL NumText
/-! ### a comprehension over pairs -/
theorem gew_tup2 {K : PySem.W.Frag} {i j : Nat} {ρ : Ty} {R S : Rl} : GEw (gTup K 2 (gCons (gName i) (gCons (gName j) gNil))) [i, j] ρ (rTup [R, S]) ((((ρ.set j none).set i none).set i (some R)).set j (some S)) := fun v σ G H Q s sl r q => by
  obtain ⟨a, vs, rfl, h1, h2⟩ := r
  obtain ⟨x, y, rfl, hx, hy⟩ := all2 h2
  refine ⟨a, [x, y], rfl, SqT.of (s _ _ h1), rfl, x, [y], rfl, y, [], rfl, rfl, q _ ?_ ((((sl.gone j).gone i).set i hx).set j hy)⟩
  show (((((σ.set j none).set i none).set i (some x)).set j (some y)).set j none).set i none = (σ.set j none).set i none
  by_cases e : i = j
  · subst e
    simp only [List.set_set]
  · simp only [List.set_set, List.set_comm (i := i) (j := j) _ _ e]
/-! ### a thing that is known by a property -/
def rTx (L : Nat) : Rl := ⟨fun v _ => ∃ z : Str, v = .str z ∧ z.length ≤ L ∧ ∀ c ∈ tl z, c < 256, fun _ _ _ _ h => h⟩
section
variable {F : Fx} {ρ : Ty} {ω w : Ow} {K : Kn} {rest : List Stmt} {L : Nat}
theorem hb_tx (i : Nat) (hi : ρ[i]? = some (some (rTx L))) (h : ∀ z : Str, z.length ≤ L → (∀ c ∈ tl z, c < 256) → HB F (ρ.set i (some (rStr z))) ω rest K) : HB F ρ ω rest K := fun σ G H D at_ sl ps => by
  obtain ⟨v, hv, z, rfl, hz, ha⟩ := sl.at_ i _ hi
  have sl2 := sl.set i (R := rStr z) (v := .str z) rfl
  have e : σ.set i (some (V.str z)) = σ := by
    refine List.ext_getElem? fun j => ?_
    by_cases hj : i = j
    · subst hj
      have hl : i < σ.length := by
        rcases Nat.lt_or_ge i σ.length with k | k
        · exact k
        · rw [List.getElem?_eq_none k] at hv; cases hv
      rw [List.getElem?_set_self hl, hv]
    · rw [List.getElem?_set_ne hj]
  rw [e] at sl2
  exact h z hz ha σ G H D at_ sl2 ps
end
/-! ### lengths and signs of what is cut and joined -/
theorem spl_size {S : List Nat} (hS : S ≠ []) : ∀ (l acc : List Nat) (k : Nat), k ≤ l.length → ((spl S k acc l).map List.length).sum + S.length * (spl S k acc l).length = acc.length + (l.length - k) + S.length
  | [], acc, k, hk => by
    rw [spl_nil]
    simp only [List.map_cons, List.map_nil, List.sum_cons, List.sum_nil, List.length_cons, List.length_nil, Nat.mul_one]
    omega
  | c :: l, acc, 0, _ => by
    have hp : 0 < S.length := List.length_pos_iff.mpr hS
    by_cases h : pre S (c :: l) = true
    · rw [spl_hit h]
      have hl : S.length ≤ l.length + 1 := by
        have e : (c :: l).take S.length = S := eq_of_beq h
        have := congrArg List.length e
        rw [List.length_take, List.length_cons] at this
        omega
      have ih := spl_size hS l [] (S.length - 1) (by omega)
      rw [List.length_nil] at ih
      rw [List.map_cons, List.sum_cons, List.length_cons, List.length_cons, Nat.mul_succ]
      omega
    · rw [spl_miss (Bool.eq_false_iff.mpr h)]
      have ih := spl_size hS l (acc ++ [c]) 0 (Nat.zero_le _)
      rw [List.length_append, List.length_singleton] at ih
      rw [List.length_cons]
      omega
  | c :: l, acc, k + 1, hk => by
    have ih := spl_size hS l acc k (by rw [List.length_cons] at hk; omega)
    show ((spl S k acc l).map List.length).sum + S.length * (spl S k acc l).length = _
    rw [List.length_cons]
    omega
theorem split_size {z y : Str} (hy : tl y ≠ []) (hk : y.cps.all (· < 256) = true) : ((Txt.split z y).map (·.length)).sum + y.length * (Txt.split z y).length = z.length + y.length := by
  have h := spl_size hy (tl z) [] 0 (Nat.zero_le _)
  rw [← split_tl hy hk, List.length_map, List.map_map, List.length_nil] at h
  have e : (Txt.split z y).map (·.length) = (Txt.split z y).map (List.length ∘ tl) := List.map_congr_left fun w _ => len_tl w
  rw [e, len_tl z, len_tl y]
  omega
theorem joinL_size {S : List Nat} : ∀ {ps : List (List Nat)}, ps ≠ [] → (joinL S ps).length + S.length = (ps.map List.length).sum + S.length * ps.length
  | [], h => absurd rfl h
  | [p], _ => by
    show p.length + _ = _
    simp
  | p :: q :: r, _ => by
    have ih := joinL_size (S := S) (ps := q :: r) (by simp)
    show (p ++ (S ++ joinL S (q :: r))).length + _ = _
    rw [List.length_append, List.length_append, List.map_cons, List.sum_cons, List.length_cons (a := p), Nat.mul_succ]
    omega
theorem join_size {y : Str} {ws : List Str} (h : ws ≠ []) : (Txt.join y ws).length + y.length = (ws.map (·.length)).sum + y.length * ws.length := by
  have e := joinL_size (S := tl y) (ps := ws.map tl) (by simpa using h)
  rw [List.map_map, List.length_map] at e
  rw [join_eq, len_tl, tl_join, len_tl y]
  have e2 : ws.map (·.length) = ws.map (List.length ∘ tl) := List.map_congr_left fun w _ => len_tl w
  rw [e2]
  exact e
theorem join_mem {y : Str} : ∀ {ps : List (List Nat)} {c : Nat}, c ∈ joinL (tl y) ps → c ∈ tl y ∨ ∃ p ∈ ps, c ∈ p
  | [], c, h => by cases h
  | [p], c, h => .inr ⟨p, by simp, h⟩
  | p :: q :: r, c, h => by
    have h : c ∈ p ++ (tl y ++ joinL (tl y) (q :: r)) := h
    rcases List.mem_append.mp h with h | h
    · exact .inr ⟨p, by simp, h⟩
    · rcases List.mem_append.mp h with h | h
      · exact .inl h
      · rcases join_mem h with h | ⟨x, hx, hc⟩
        · exact .inl h
        · exact .inr ⟨x, List.mem_cons_of_mem _ hx, hc⟩
theorem tl_joinT (y : Str) (ws : List Str) : tl (Txt.join y ws) = joinL (tl y) (ws.map tl) := by rw [join_eq, tl_join]
end W1
set_option maxRecDepth 100000
set_option maxHeartbeats 2000000
namespace W1
open PySem PySem.Spec PyProof.Rows L2 NdefX
def top (i : Nat) : Stmt := PySem.Challenge.pw_waysofmaking_k15_books.main.body.getD i (.Pass ⟨0, 0, 0, 0⟩)
abbrev s__wall : Stmt := top 0
abbrev N__wall : List Str := ["k"]
abbrev P__wall : List Str := ["k"]
theorem c__wall : FnScope N__wall P__wall (defScope s__wall) := ⟨rfl, rfl, rfl, by decide +kernel, rfl, by decide +kernel, by decide +kernel⟩
abbrev s_BadNumber___init__ : Stmt := inClass (top 3) 0
abbrev N_BadNumber___init__ : List Str := ["self", "n"]
abbrev P_BadNumber___init__ : List Str := ["self", "n"]
theorem c_BadNumber___init__ : NScope (["self", "n", "__class__"] : List Str) P_BadNumber___init__ ["__class__"] (defScope s_BadNumber___init__) := nscope_by (by decide +kernel)
abbrev s_BadText___init__ : Stmt := inClass (top 4) 0
abbrev N_BadText___init__ : List Str := ["self", "at"]
abbrev P_BadText___init__ : List Str := ["self", "at"]
theorem c_BadText___init__ : NScope (["self", "at", "__class__"] : List Str) P_BadText___init__ ["__class__"] (defScope s_BadText___init__) := nscope_by (by decide +kernel)
abbrev s_BadName___init__ : Stmt := inClass (top 5) 0
abbrev N_BadName___init__ : List Str := ["self", "name"]
abbrev P_BadName___init__ : List Str := ["self", "name"]
theorem c_BadName___init__ : NScope (["self", "name", "__class__"] : List Str) P_BadName___init__ ["__class__"] (defScope s_BadName___init__) := nscope_by (by decide +kernel)
abbrev s_DuplicateName___init__ : Stmt := inClass (top 6) 0
abbrev N_DuplicateName___init__ : List Str := ["self", "name"]
abbrev P_DuplicateName___init__ : List Str := ["self", "name"]
theorem c_DuplicateName___init__ : NScope (["self", "name", "__class__"] : List Str) P_DuplicateName___init__ ["__class__"] (defScope s_DuplicateName___init__) := nscope_by (by decide +kernel)
abbrev s_UnknownName___init__ : Stmt := inClass (top 7) 0
abbrev N_UnknownName___init__ : List Str := ["self", "name"]
abbrev P_UnknownName___init__ : List Str := ["self", "name"]
theorem c_UnknownName___init__ : NScope (["self", "name", "__class__"] : List Str) P_UnknownName___init__ ["__class__"] (defScope s_UnknownName___init__) := nscope_by (by decide +kernel)
abbrev s_BadWay___init__ : Stmt := inClass (top 8) 0
abbrev N_BadWay___init__ : List Str := ["self", "at"]
abbrev P_BadWay___init__ : List Str := ["self", "at"]
theorem c_BadWay___init__ : NScope (["self", "at", "__class__"] : List Str) P_BadWay___init__ ["__class__"] (defScope s_BadWay___init__) := nscope_by (by decide +kernel)
abbrev s_common : Stmt := top 11
abbrev N_common : List Str := ["a", "b", "one", "other"]
abbrev P_common : List Str := ["a", "b"]
theorem c_common : FnScope N_common P_common (defScope s_common) := ⟨rfl, rfl, rfl, by decide +kernel, rfl, by decide +kernel, by decide +kernel⟩
abbrev s_is_count : Stmt := top 12
abbrev N_is_count : List Str := ["word", "sign"]
abbrev P_is_count : List Str := ["word"]
theorem c_is_count : FnScope N_is_count P_is_count (defScope s_is_count) := ⟨rfl, rfl, rfl, by decide +kernel, rfl, by decide +kernel, by decide +kernel⟩
abbrev s_is_top : Stmt := top 13
abbrev N_is_top : List Str := ["word"]
abbrev P_is_top : List Str := ["word"]
theorem c_is_top : FnScope N_is_top P_is_top (defScope s_is_top) := ⟨rfl, rfl, rfl, by decide +kernel, rfl, by decide +kernel, by decide +kernel⟩
abbrev s_Ratio___init__ : Stmt := inClass (top 14) 0
abbrev N_Ratio___init__ : List Str := ["self", "top", "bottom", "divisor"]
abbrev P_Ratio___init__ : List Str := ["self", "top", "bottom"]
theorem c_Ratio___init__ : FnScope N_Ratio___init__ P_Ratio___init__ (defScope s_Ratio___init__) := ⟨rfl, rfl, rfl, by decide +kernel, rfl, by decide +kernel, by decide +kernel⟩
abbrev s_Ratio_whole : Stmt := inClass (top 14) 1
abbrev N_Ratio_whole : List Str := ["cls", "n"]
abbrev P_Ratio_whole : List Str := ["cls", "n"]
theorem c_Ratio_whole : FnScope N_Ratio_whole P_Ratio_whole (defScope s_Ratio_whole) := ⟨rfl, rfl, rfl, by decide +kernel, rfl, by decide +kernel, by decide +kernel⟩
abbrev s_Ratio_read : Stmt := inClass (top 14) 2
abbrev N_Ratio_read : List Str := ["cls", "text", "words"]
abbrev P_Ratio_read : List Str := ["cls", "text"]
theorem c_Ratio_read : FnScope N_Ratio_read P_Ratio_read (defScope s_Ratio_read) := ⟨rfl, rfl, rfl, by decide +kernel, rfl, by decide +kernel, by decide +kernel⟩
abbrev s_Ratio___add__ : Stmt := inClass (top 14) 3
abbrev N_Ratio___add__ : List Str := ["self", "other"]
abbrev P_Ratio___add__ : List Str := ["self", "other"]
theorem c_Ratio___add__ : FnScope N_Ratio___add__ P_Ratio___add__ (defScope s_Ratio___add__) := ⟨rfl, rfl, rfl, by decide +kernel, rfl, by decide +kernel, by decide +kernel⟩
abbrev s_Ratio___sub__ : Stmt := inClass (top 14) 4
abbrev N_Ratio___sub__ : List Str := ["self", "other"]
abbrev P_Ratio___sub__ : List Str := ["self", "other"]
theorem c_Ratio___sub__ : FnScope N_Ratio___sub__ P_Ratio___sub__ (defScope s_Ratio___sub__) := ⟨rfl, rfl, rfl, by decide +kernel, rfl, by decide +kernel, by decide +kernel⟩
abbrev s_Ratio___neg__ : Stmt := inClass (top 14) 5
abbrev N_Ratio___neg__ : List Str := ["self"]
abbrev P_Ratio___neg__ : List Str := ["self"]
theorem c_Ratio___neg__ : FnScope N_Ratio___neg__ P_Ratio___neg__ (defScope s_Ratio___neg__) := ⟨rfl, rfl, rfl, by decide +kernel, rfl, by decide +kernel, by decide +kernel⟩
abbrev s_Ratio___mul__ : Stmt := inClass (top 14) 6
abbrev N_Ratio___mul__ : List Str := ["self", "other"]
abbrev P_Ratio___mul__ : List Str := ["self", "other"]
theorem c_Ratio___mul__ : FnScope N_Ratio___mul__ P_Ratio___mul__ (defScope s_Ratio___mul__) := ⟨rfl, rfl, rfl, by decide +kernel, rfl, by decide +kernel, by decide +kernel⟩
abbrev s_Ratio___eq__ : Stmt := inClass (top 14) 7
abbrev N_Ratio___eq__ : List Str := ["self", "other"]
abbrev P_Ratio___eq__ : List Str := ["self", "other"]
theorem c_Ratio___eq__ : FnScope N_Ratio___eq__ P_Ratio___eq__ (defScope s_Ratio___eq__) := ⟨rfl, rfl, rfl, by decide +kernel, rfl, by decide +kernel, by decide +kernel⟩
abbrev s_Ratio___bool__ : Stmt := inClass (top 14) 8
abbrev N_Ratio___bool__ : List Str := ["self"]
abbrev P_Ratio___bool__ : List Str := ["self"]
theorem c_Ratio___bool__ : FnScope N_Ratio___bool__ P_Ratio___bool__ (defScope s_Ratio___bool__) := ⟨rfl, rfl, rfl, by decide +kernel, rfl, by decide +kernel, by decide +kernel⟩
abbrev s_Ratio___str__ : Stmt := inClass (top 14) 9
abbrev N_Ratio___str__ : List Str := ["self"]
abbrev P_Ratio___str__ : List Str := ["self"]
theorem c_Ratio___str__ : FnScope N_Ratio___str__ P_Ratio___str__ (defScope s_Ratio___str__) := ⟨rfl, rfl, rfl, by decide +kernel, rfl, by decide +kernel, by decide +kernel⟩
abbrev s_Ratio_quotient : Stmt := inClass (top 14) 10
abbrev N_Ratio_quotient : List Str := ["self", "other"]
abbrev P_Ratio_quotient : List Str := ["self", "other"]
theorem c_Ratio_quotient : FnScope N_Ratio_quotient P_Ratio_quotient (defScope s_Ratio_quotient) := ⟨rfl, rfl, rfl, by decide +kernel, rfl, by decide +kernel, by decide +kernel⟩
abbrev s_Ratio_under : Stmt := inClass (top 14) 11
abbrev N_Ratio_under : List Str := ["self", "other"]
abbrev P_Ratio_under : List Str := ["self", "other"]
theorem c_Ratio_under : FnScope N_Ratio_under P_Ratio_under (defScope s_Ratio_under) := ⟨rfl, rfl, rfl, by decide +kernel, rfl, by decide +kernel, by decide +kernel⟩
abbrev s_is_name : Stmt := top 22
abbrev N_is_name : List Str := ["text", "sign"]
abbrev P_is_name : List Str := ["text"]
theorem c_is_name : FnScope N_is_name P_is_name (defScope s_is_name) := ⟨rfl, rfl, rfl, by decide +kernel, rfl, by decide +kernel, by decide +kernel⟩
abbrev s_is_amount : Stmt := top 23
abbrev N_is_amount : List Str := ["word"]
abbrev P_is_amount : List Str := ["word"]
theorem c_is_amount : FnScope N_is_amount P_is_amount (defScope s_is_amount) := ⟨rfl, rfl, rfl, by decide +kernel, rfl, by decide +kernel, by decide +kernel⟩
abbrev s_check_amounts : Stmt := top 24
abbrev N_check_amounts : List Str := ["amounts", "good"]
abbrev P_check_amounts : List Str := ["amounts"]
theorem c_check_amounts : FnScope N_check_amounts P_check_amounts (defScope s_check_amounts) := ⟨rfl, rfl, rfl, by decide +kernel, rfl, by decide +kernel, by decide +kernel⟩
abbrev s_kept_amounts : Stmt := top 25
abbrev N_kept_amounts : List Str := ["amounts", "good"]
abbrev P_kept_amounts : List Str := ["amounts"]
theorem c_kept_amounts : FnScope N_kept_amounts P_kept_amounts (defScope s_kept_amounts) := ⟨rfl, rfl, rfl, by decide +kernel, rfl, by decide +kernel, by decide +kernel⟩
abbrev s_text_of : Stmt := top 26
abbrev N_text_of : List Str := ["amounts", "good"]
abbrev P_text_of : List Str := ["amounts"]
theorem c_text_of : FnScope N_text_of P_text_of (defScope s_text_of) := ⟨rfl, rfl, rfl, by decide +kernel, rfl, by decide +kernel, by decide +kernel⟩
abbrev s_is_amounts_text : Stmt := top 27
abbrev N_is_amounts_text : List Str := ["words", "at"]
abbrev P_is_amounts_text : List Str := ["words"]
theorem c_is_amounts_text : FnScope N_is_amounts_text P_is_amounts_text (defScope s_is_amounts_text) := ⟨rfl, rfl, rfl, by decide +kernel, rfl, by decide +kernel, by decide +kernel⟩
abbrev s_amounts_of : Stmt := top 28
abbrev N_amounts_of : List Str := ["words", "found", "at"]
abbrev P_amounts_of : List Str := ["words"]
theorem c_amounts_of : FnScope N_amounts_of P_amounts_of (defScope s_amounts_of) := ⟨rfl, rfl, rfl, by decide +kernel, rfl, by decide +kernel, by decide +kernel⟩
abbrev s_Way___init__ : Stmt := inClass (top 29) 0
abbrev N_Way___init__ : List Str := ["self", "takes", "hours", "makes"]
abbrev P_Way___init__ : List Str := ["self", "takes", "hours", "makes"]
theorem c_Way___init__ : FnScope N_Way___init__ P_Way___init__ (defScope s_Way___init__) := ⟨rfl, rfl, rfl, by decide +kernel, rfl, by decide +kernel, by decide +kernel⟩
abbrev s_Way_read : Stmt := inClass (top 29) 1
abbrev N_Way_read : List Str := ["cls", "text", "parts", "fits", "part", "at", "good", "takes"]
abbrev P_Way_read : List Str := ["cls", "text"]
theorem c_Way_read : FnScope N_Way_read P_Way_read (defScope s_Way_read) := ⟨rfl, rfl, rfl, by decide +kernel, rfl, by decide +kernel, by decide +kernel⟩
abbrev s_Way___eq__ : Stmt := inClass (top 29) 2
abbrev N_Way___eq__ : List Str := ["self", "other"]
abbrev P_Way___eq__ : List Str := ["self", "other"]
theorem c_Way___eq__ : FnScope N_Way___eq__ P_Way___eq__ (defScope s_Way___eq__) := ⟨rfl, rfl, rfl, by decide +kernel, rfl, by decide +kernel, by decide +kernel⟩
abbrev s_Way___str__ : Stmt := inClass (top 29) 3
abbrev N_Way___str__ : List Str := ["self"]
abbrev P_Way___str__ : List Str := ["self"]
theorem c_Way___str__ : FnScope N_Way___str__ P_Way___str__ (defScope s_Way___str__) := ⟨rfl, rfl, rfl, by decide +kernel, rfl, by decide +kernel, by decide +kernel⟩
abbrev s_Way_taken : Stmt := inClass (top 29) 4
abbrev N_Way_taken : List Str := ["self", "good"]
abbrev P_Way_taken : List Str := ["self", "good"]
theorem c_Way_taken : FnScope N_Way_taken P_Way_taken (defScope s_Way_taken) := ⟨rfl, rfl, rfl, by decide +kernel, rfl, by decide +kernel, by decide +kernel⟩
abbrev s_Way_made : Stmt := inClass (top 29) 5
abbrev N_Way_made : List Str := ["self", "good"]
abbrev P_Way_made : List Str := ["self", "good"]
theorem c_Way_made : FnScope N_Way_made P_Way_made (defScope s_Way_made) := ⟨rfl, rfl, rfl, by decide +kernel, rfl, by decide +kernel, by decide +kernel⟩
abbrev s_Way_goods : Stmt := inClass (top 29) 6
abbrev N_Way_goods : List Str := ["self"]
abbrev P_Way_goods : List Str := ["self"]
theorem c_Way_goods : FnScope N_Way_goods P_Way_goods (defScope s_Way_goods) := ⟨rfl, rfl, rfl, by decide +kernel, rfl, by decide +kernel, by decide +kernel⟩
abbrev s_Way_is_plain : Stmt := inClass (top 29) 7
abbrev N_Way_is_plain : List Str := ["self"]
abbrev P_Way_is_plain : List Str := ["self"]
theorem c_Way_is_plain : FnScope N_Way_is_plain P_Way_is_plain (defScope s_Way_is_plain) := ⟨rfl, rfl, rfl, by decide +kernel, rfl, by decide +kernel, by decide +kernel⟩
abbrev s_check_goods : Stmt := top 30
abbrev N_check_goods : List Str := ["names", "way", "good"]
abbrev P_check_goods : List Str := ["names", "way"]
theorem c_check_goods : FnScope N_check_goods P_check_goods (defScope s_check_goods) := ⟨rfl, rfl, rfl, by decide +kernel, rfl, by decide +kernel, by decide +kernel⟩
abbrev s_Book___init__ : Stmt := inClass (top 31) 0
abbrev N_Book___init__ : List Str := ["self", "goods", "ways", "at", "good", "way"]
abbrev P_Book___init__ : List Str := ["self", "goods", "ways"]
theorem c_Book___init__ : FnScope N_Book___init__ P_Book___init__ (defScope s_Book___init__) := ⟨rfl, rfl, rfl, by decide +kernel, rfl, by decide +kernel, by decide +kernel⟩
abbrev s_Book___len__ : Stmt := inClass (top 31) 1
abbrev N_Book___len__ : List Str := ["self"]
abbrev P_Book___len__ : List Str := ["self"]
theorem c_Book___len__ : FnScope N_Book___len__ P_Book___len__ (defScope s_Book___len__) := ⟨rfl, rfl, rfl, by decide +kernel, rfl, by decide +kernel, by decide +kernel⟩
abbrev s_Book___iter__ : Stmt := inClass (top 31) 2
abbrev N_Book___iter__ : List Str := ["self"]
abbrev P_Book___iter__ : List Str := ["self"]
theorem c_Book___iter__ : FnScope N_Book___iter__ P_Book___iter__ (defScope s_Book___iter__) := ⟨rfl, rfl, rfl, by decide +kernel, rfl, by decide +kernel, by decide +kernel⟩
abbrev s_Book___eq__ : Stmt := inClass (top 31) 3
abbrev N_Book___eq__ : List Str := ["self", "other"]
abbrev P_Book___eq__ : List Str := ["self", "other"]
theorem c_Book___eq__ : FnScope N_Book___eq__ P_Book___eq__ (defScope s_Book___eq__) := ⟨rfl, rfl, rfl, by decide +kernel, rfl, by decide +kernel, by decide +kernel⟩
abbrev s_Book_way : Stmt := inClass (top 31) 4
abbrev N_Book_way : List Str := ["self", "at"]
abbrev P_Book_way : List Str := ["self", "at"]
theorem c_Book_way : FnScope N_Book_way P_Book_way (defScope s_Book_way) := ⟨rfl, rfl, rfl, by decide +kernel, rfl, by decide +kernel, by decide +kernel⟩
abbrev s_Book_check_good : Stmt := inClass (top 31) 5
abbrev N_Book_check_good : List Str := ["self", "good"]
abbrev P_Book_check_good : List Str := ["self", "good"]
theorem c_Book_check_good : FnScope N_Book_check_good P_Book_check_good (defScope s_Book_check_good) := ⟨rfl, rfl, rfl, by decide +kernel, rfl, by decide +kernel, by decide +kernel⟩
abbrev s_Book_net : Stmt := inClass (top 31) 6
abbrev N_Book_net : List Str := ["self", "at", "good", "way"]
abbrev P_Book_net : List Str := ["self", "at", "good"]
theorem c_Book_net : FnScope N_Book_net P_Book_net (defScope s_Book_net) := ⟨rfl, rfl, rfl, by decide +kernel, rfl, by decide +kernel, by decide +kernel⟩
abbrev s_Book_makers : Stmt := inClass (top 31) 7
abbrev N_Book_makers : List Str := ["self", "good", "at", "way"]
abbrev P_Book_makers : List Str := ["self", "good"]
theorem c_Book_makers : FnScope N_Book_makers P_Book_makers (defScope s_Book_makers) := ⟨rfl, rfl, rfl, by decide +kernel, rfl, by decide +kernel, by decide +kernel⟩
abbrev s_Book_joint : Stmt := inClass (top 31) 8
abbrev N_Book_joint : List Str := ["self", "at", "way"]
abbrev P_Book_joint : List Str := ["self"]
theorem c_Book_joint : FnScope N_Book_joint P_Book_joint (defScope s_Book_joint) := ⟨rfl, rfl, rfl, by decide +kernel, rfl, by decide +kernel, by decide +kernel⟩
abbrev s_Book_with_way : Stmt := inClass (top 31) 9
abbrev N_Book_with_way : List Str := ["self", "way"]
abbrev P_Book_with_way : List Str := ["self", "way"]
theorem c_Book_with_way : FnScope N_Book_with_way P_Book_with_way (defScope s_Book_with_way) := ⟨rfl, rfl, rfl, by decide +kernel, rfl, by decide +kernel, by decide +kernel⟩
abbrev s_Book_without : Stmt := inClass (top 31) 10
abbrev N_Book_without : List Str := ["self", "at"]
abbrev P_Book_without : List Str := ["self", "at"]
theorem c_Book_without : FnScope N_Book_without P_Book_without (defScope s_Book_without) := ⟨rfl, rfl, rfl, by decide +kernel, rfl, by decide +kernel, by decide +kernel⟩
abbrev s_Book_only : Stmt := inClass (top 31) 11
abbrev N_Book_only : List Str := ["self", "numbers", "place", "at"]
abbrev P_Book_only : List Str := ["self", "numbers"]
theorem c_Book_only : FnScope N_Book_only P_Book_only (defScope s_Book_only) := ⟨rfl, rfl, rfl, by decide +kernel, rfl, by decide +kernel, by decide +kernel⟩
abbrev s__law_bag : Stmt := top 33
abbrev N__law_bag : List Str := ["_law_cell"]
abbrev P__law_bag : List Str := ["_law_cell"]
theorem c__law_bag : FnScope N__law_bag P__law_bag (defScope s__law_bag) := ⟨rfl, rfl, rfl, by decide +kernel, rfl, by decide +kernel, by decide +kernel⟩
abbrev s__law_draw : Stmt := top 34
abbrev N__law_draw : List Str := ["_law_pool", "_law_limit", "_law_drawn", "_law_mixed"]
abbrev P__law_draw : List Str := ["_law_pool", "_law_limit"]
theorem c__law_draw : FnScope N__law_draw P__law_draw (defScope s__law_draw) := ⟨rfl, rfl, rfl, by decide +kernel, rfl, by decide +kernel, by decide +kernel⟩
abbrev s__law_at_of : Stmt := top 35
abbrev N__law_at_of : List Str := ["_law_script", "_law_k"]
abbrev P__law_at_of : List Str := ["_law_script", "_law_k"]
theorem c__law_at_of : FnScope N__law_at_of P__law_at_of (defScope s__law_at_of) := ⟨rfl, rfl, rfl, by decide +kernel, rfl, by decide +kernel, by decide +kernel⟩
abbrev s__law_labels : Stmt := top 36
abbrev N__law_labels : List Str := ["_law_pool", "_law_many", "_law_menu", "_law_found", "_law_k"]
abbrev P__law_labels : List Str := ["_law_pool", "_law_many"]
theorem c__law_labels : FnScope N__law_labels P__law_labels (defScope s__law_labels) := ⟨rfl, rfl, rfl, by decide +kernel, rfl, by decide +kernel, by decide +kernel⟩
abbrev s__law_amounts_of : Stmt := top 37
abbrev N__law_amounts_of : List Str := ["_law_pool", "_law_goods", "_law_most", "_law_found", "_law_good"]
abbrev P__law_amounts_of : List Str := ["_law_pool", "_law_goods", "_law_most"]
theorem c__law_amounts_of : FnScope N__law_amounts_of P__law_amounts_of (defScope s__law_amounts_of) := ⟨rfl, rfl, rfl, by decide +kernel, rfl, by decide +kernel, by decide +kernel⟩
abbrev s__law_row_of : Stmt := top 38
abbrev N__law_row_of : List Str := ["_law_pool", "_law_goods", "_law_plain", "_law_most", "_law_takes", "_law_makes", "_law_good"]
abbrev P__law_row_of : List Str := ["_law_pool", "_law_goods", "_law_plain"]
theorem c__law_row_of : FnScope N__law_row_of P__law_row_of (defScope s__law_row_of) := ⟨rfl, rfl, rfl, by decide +kernel, rfl, by decide +kernel, by decide +kernel⟩
abbrev s__law_rows_of : Stmt := top 39
abbrev N__law_rows_of : List Str := ["_law_pool", "_law_goods", "_law_plain", "_law_rows", "_law_k", "_law_good"]
abbrev P__law_rows_of : List Str := ["_law_pool", "_law_goods", "_law_plain"]
theorem c__law_rows_of : FnScope N__law_rows_of P__law_rows_of (defScope s__law_rows_of) := ⟨rfl, rfl, rfl, by decide +kernel, rfl, by decide +kernel, by decide +kernel⟩
abbrev s__law_book_of : Stmt := top 40
abbrev N__law_book_of : List Str := ["_law_goods", "_law_rows", "_law_takes", "_law_hours", "_law_makes"]
abbrev P__law_book_of : List Str := ["_law_goods", "_law_rows"]
theorem c__law_book_of : FnScope N__law_book_of P__law_book_of (defScope s__law_book_of) := ⟨rfl, rfl, rfl, by decide +kernel, rfl, by decide +kernel, by decide +kernel⟩
abbrev s__law_demand : Stmt := top 41
abbrev N__law_demand : List Str := ["_law_pool", "_law_goods", "_law_found", "_law_good"]
abbrev P__law_demand : List Str := ["_law_pool", "_law_goods"]
theorem c__law_demand : FnScope N__law_demand P__law_demand (defScope s__law_demand) := ⟨rfl, rfl, rfl, by decide +kernel, rfl, by decide +kernel, by decide +kernel⟩
abbrev s__law_net : Stmt := top 42
abbrev N__law_net : List Str := ["_law_row", "_law_good"]
abbrev P__law_net : List Str := ["_law_row", "_law_good"]
theorem c__law_net : FnScope N__law_net P__law_net (defScope s__law_net) := ⟨rfl, rfl, rfl, by decide +kernel, rfl, by decide +kernel, by decide +kernel⟩
abbrev s__law_of : Stmt := top 43
abbrev N__law_of : List Str := ["_law_amounts", "_law_good"]
abbrev P__law_of : List Str := ["_law_amounts", "_law_good"]
theorem c__law_of : FnScope N__law_of P__law_of (defScope s__law_of) := ⟨rfl, rfl, rfl, by decide +kernel, rfl, by decide +kernel, by decide +kernel⟩
abbrev s__law_call : Stmt := top 44
abbrev N__law_call : List Str := ["_law_which", "_law_book", "_law_at", "_law_good"]
abbrev P__law_call : List Str := ["_law_which", "_law_book", "_law_at", "_law_good"]
theorem c__law_call : FnScope N__law_call P__law_call (defScope s__law_call) := ⟨rfl, rfl, rfl, by decide +kernel, rfl, by decide +kernel, by decide +kernel⟩
abbrev s__law_told_of : Stmt := top 45
abbrev N__law_told_of : List Str := ["_law_which", "_law_book", "_law_at", "_law_good", "e"]
abbrev P__law_told_of : List Str := ["_law_which", "_law_book", "_law_at", "_law_good"]
theorem c__law_told_of : FnScope N__law_told_of P__law_told_of (defScope s__law_told_of) := ⟨rfl, rfl, rfl, by decide +kernel, rfl, by decide +kernel, by decide +kernel⟩
abbrev s__law_due_of : Stmt := top 46
abbrev N__law_due_of : List Str := ["_law_which", "_law_goods", "_law_rows", "_law_at", "_law_good", "_law_k"]
abbrev P__law_due_of : List Str := ["_law_which", "_law_goods", "_law_rows", "_law_at", "_law_good"]
theorem c__law_due_of : FnScope N__law_due_of P__law_due_of (defScope s__law_due_of) := ⟨rfl, rfl, rfl, by decide +kernel, rfl, by decide +kernel, by decide +kernel⟩
abbrev s__law_fits : Stmt := top 47
abbrev N__law_fits : List Str := ["_law_pool", "_law_goods", "_law_rows", "_law_book", "_law_way", "_law_row", "_law_joint", "_law_k", "_law_good", "_law_turn", "_law_at", "_law_which"]
abbrev P__law_fits : List Str := ["_law_pool", "_law_goods", "_law_rows", "_law_book"]
theorem c__law_fits : FnScope N__law_fits P__law_fits (defScope s__law_fits) := ⟨rfl, rfl, rfl, by decide +kernel, rfl, by decide +kernel, by decide +kernel⟩
abbrev s__law_made : Stmt := top 48
abbrev N__law_made : List Str := ["_law_goods", "_law_ways", "e"]
abbrev P__law_made : List Str := ["_law_goods", "_law_ways"]
theorem c__law_made : FnScope N__law_made P__law_made (defScope s__law_made) := ⟨rfl, rfl, rfl, by decide +kernel, rfl, by decide +kernel, by decide +kernel⟩
abbrev s__law_made_due : Stmt := top 49
abbrev N__law_made_due : List Str := ["_law_goods", "_law_rows", "_law_k", "_law_row", "_law_every", "_law_used", "_law_good", "_law_strange"]
abbrev P__law_made_due : List Str := ["_law_goods", "_law_rows"]
theorem c__law_made_due : FnScope N__law_made_due P__law_made_due (defScope s__law_made_due) := ⟨rfl, rfl, rfl, by decide +kernel, rfl, by decide +kernel, by decide +kernel⟩
abbrev s__law_spoils_fit : Stmt := top 50
abbrev N__law_spoils_fit : List Str := ["_law_pool", "_law_goods", "_law_rows", "_law_names", "_law_some", "_law_count", "_law_more", "_law_ways", "_law_row", "_law_told", "_law_due"]
abbrev P__law_spoils_fit : List Str := ["_law_pool", "_law_goods", "_law_rows"]
theorem c__law_spoils_fit : FnScope N__law_spoils_fit P__law_spoils_fit (defScope s__law_spoils_fit) := ⟨rfl, rfl, rfl, by decide +kernel, rfl, by decide +kernel, by decide +kernel⟩
abbrev s__law_more_of : Stmt := top 51
abbrev N__law_more_of : List Str := ["_law_book", "_law_way", "e"]
abbrev P__law_more_of : List Str := ["_law_book", "_law_way"]
theorem c__law_more_of : FnScope N__law_more_of P__law_more_of (defScope s__law_more_of) := ⟨rfl, rfl, rfl, by decide +kernel, rfl, by decide +kernel, by decide +kernel⟩
abbrev s__law_only : Stmt := top 52
abbrev N__law_only : List Str := ["_law_book", "_law_numbers", "e"]
abbrev P__law_only : List Str := ["_law_book", "_law_numbers"]
theorem c__law_only : FnScope N__law_only P__law_only (defScope s__law_only) := ⟨rfl, rfl, rfl, by decide +kernel, rfl, by decide +kernel, by decide +kernel⟩
abbrev s__law_only_due : Stmt := top 53
abbrev N__law_only_due : List Str := ["_law_goods", "_law_rows", "_law_numbers", "_law_k", "_law_at"]
abbrev P__law_only_due : List Str := ["_law_goods", "_law_rows", "_law_numbers"]
theorem c__law_only_due : FnScope N__law_only_due P__law_only_due (defScope s__law_only_due) := ⟨rfl, rfl, rfl, by decide +kernel, rfl, by decide +kernel, by decide +kernel⟩
abbrev s__law_parts_fit : Stmt := top 54
abbrev N__law_parts_fit : List Str := ["_law_pool", "_law_goods", "_law_rows", "_law_book", "_law_row", "_law_due", "_law_strange", "_law_numbers", "_law_k"]
abbrev P__law_parts_fit : List Str := ["_law_pool", "_law_goods", "_law_rows", "_law_book"]
theorem c__law_parts_fit : FnScope N__law_parts_fit P__law_parts_fit (defScope s__law_parts_fit) := ⟨rfl, rfl, rfl, by decide +kernel, rfl, by decide +kernel, by decide +kernel⟩
abbrev s_law : Stmt := top 55
abbrev N_law : List Str := ["_law_script", "_law_pool", "_law_pairs", "_law_k", "_law_goods", "_law_rows", "_law_passed", "_law_row", "_law_cell", "_law_book"]
abbrev P_law : List Str := ["_law_script"]
theorem c_law : FnScope N_law P_law (defScope s_law) := ⟨rfl, rfl, rfl, by decide +kernel, rfl, by decide +kernel, by decide +kernel⟩
end W1
set_option maxRecDepth 100000
set_option maxHeartbeats 2000000
set_option exponentiation.threshold 20000
namespace W1
open PySem PySem.Spec PyProof.Rows L2 NdefX TL NumText

/-! ### names and amounts -/
def pOk {α : Type} (D : α → Prop) (A : α → List Rl) (R : α → Rl) : Pre := fun Rs w o w' => ∃ a, D a ∧ Rs = A a ∧ w = [] ∧ w' = [] ∧ o = .ok (R a)
theorem bt_len : bootBuiltins "len" = some (.builtin "len") := by decide +kernel
theorem bt_all : bootBuiltins "all" = some (.builtin "all") := by decide +kernel
abbrev lets : Str := Str.ofString "abcdefghijklmnopqrstuvwxyz"
abbrev sigs : Str := Str.ofString "abcdefghijklmnopqrstuvwxyz0123456789"
def isLet (c : Nat) : Bool := decide (c ∈ tl lets)
def isSig (c : Nat) : Bool := decide (c ∈ tl sigs)
def nameL (l : List Nat) : Bool := match l with | [] => false | c :: r => decide ((c :: r).length ≤ 8) && isLet c && (c :: r).all isSig
def pName : Pre := pOk (α := Str) (fun z => z.length ≤ 640) (fun z => [rStr z]) (fun z => rBool (nameL (tl z)))
theorem pNameOk {z : Str} (h : z.length ≤ 640) : pName [rStr z] [] (.ok (rBool (nameL (tl z)))) [] := ⟨z, h, rfl, rfl, rfl, rfl⟩
theorem bop_niC2 {F : Fx} {w : Ow} {c : Nat} {z : Str} : Bop F w (compareOp .NotIn) (rStr ⟨#[c]⟩) (rStr z) (rBool (!decide (c ∈ z.cps.toList))) := bop_niC
theorem cop_lenStr {F : Fx} {w : Ow} {z : Str} (h : z.length ≤ 100000) : Cop F w (.builtin "len") [rStr z] (rInt (z.length : Int)) := cop_of1 call_len_str fun _ _ q => ⟨z, rfl, Nat.le_trans h (by decide), q⟩
section
variable {P : Program} {w : World} {K : PySem.W.Frag} {mg : Str → Option Value} {base : Heap} {f : Addr} {fd : FuncData} {tk1 tk2 tk3 : Tok}
theorem kf_is_name (Fn : Fun K "is_name" "is_name" s_is_name f fd) (gL : mg "LETTERS" = some (.str lets tk1)) (gS : mg "SIGNS" = some (.str sigs tk2)) (gM : mg "MOST_LETTERS" = some (.int 8 tk3)) (len : mg "len" = none) (all : mg "all" = none) : FnOk P w K mg base (L2.CX P w) 2 f fd P_is_name (spM pName) := by
  refine fn_ok Fn c_is_name (fun _ _ _ _ ⟨_, _, h, _⟩ => by rw [h]; rfl) ?_
  rintro cdv A outer s H E ⟨_, G0, H0, M, W, tk⟩ hr rfl Rs ω o ω' ⟨z, hz, rfl, rfl, rfl, rfl⟩
  have hz : z.length ≤ 640 := hz
  have nd := c_is_name.nd
  show HB _ _ _ _ (Kf (.ok (rBool (nameL (tl z)))) [])
  have el : ∀ {F : Fx} {ω ω' : Ow} {ρ : Ty} {e : Expr}, ER F ρ ω e (rLst ((tl z).map fun c => rBool (decide (c ∈ tl sigs)))) ω' → ER F ρ ω e (rLst (((tl z).map fun c => decide (c ∈ tl sigs)).map rBool)) ω' := fun h => er_eq h (by rw [List.map_map]; rfl)
  have fin : HB ⟨cxOf (L2.CX P w) P w K mg base N_is_name "is_name" (defScope s_is_name) f cdv A outer s H E, G0, H0, M, W, tk⟩ [some (rStr z), none] [] ((defBody s_is_name).drop 1) (Kf (.ok (rBool ((tl z).all isSig))) []) := by
    refine hb_ret (er_callB (cop_all rfl) rfl all bt_all (ar_cons (el (er_lc (xs := tl z) (A := fun c => rStr ⟨#[c]⟩) (B := fun c => rBool (decide (c ∈ tl sigs))) (it_str (er_var 0 rfl)) (by rw [← len_tl]; omega) [("sign", 1)]
      (blkOk_by (N := N_is_name) (sc := defScope s_is_name) (by decide +kernel)) (fun _ _ _ _ _ => pg_name (i := 1) nd rfl (Or.inl rfl)) (fun i a h => gew_name) (fun i a h s H0 cc cl fp d => er_cmp (er_var 1 rfl) (er_glob (v := .str sigs) rfl gS ⟨tk2, rfl⟩) bop_inC) nd)) ar_nil)) ⟨_, [], rfl, fun v G h => ?_, rfl⟩
    rw [show v = V.bl _ from h]
    show V.bl _ = V.bl _
    congr 1
    rw [List.all_map]
    rfl
  cases e : tl z with
  | nil =>
    have ez : z = Str.ofString "" := ext_tl (by rw [e, tl_ofString]; rfl)
    refine hb_if (b := true) (tr_to (PWR.tr (tr_or (m := true) (tr_cmp (er_var 0 rfl) er_str bop_eqS) fun h => absurd ez (of_decide_eq_false h))) (Bool.or_true _)) (fun _ => ?_) (fun y => Bool.noConfusion y)
    exact hb_ret er_bl ⟨_, [], rfl, fun _ _ h => h, rfl⟩
  | cons c r =>
    have ne : ¬ z = Str.ofString "" := fun y => by
      rw [y, tl_ofString] at e
      cases e
    have hl : z.length = (c :: r).length := by rw [len_tl, e]
    refine hb_if (PWR.tr (tr_or (tr_cmp (er_var 0 rfl) er_str bop_eqS) fun _ => tr_or (tr_cmp (er_callB (cop_lenStr (by omega)) rfl len bt_len (ar_cons (er_var 0 rfl) ar_nil)) (er_glob (v := .int 8) rfl gM ⟨tk3, rfl⟩) bop_gt) fun _ => tr_or1 (tr_cmp (er_ix (er_var 0 rfl) er_int (iop_str (c := c) (atI_nat (j := 0) (by show (tl z)[0]? = _; rw [e]; rfl)) (by omega))) (er_glob (v := .str lets) rfl gL ⟨tk1, rfl⟩) bop_niC))) (fun hb => ?_) (fun hb => hb_nil ?_)
    · refine hb_ret er_bl ⟨_, [], rfl, fun v G h => ?_, rfl⟩
      rw [show v = V.bl false from h]
      show V.bl false = V.bl (decide ((c :: r).length ≤ 8) && isLet c && (c :: r).all isSig)
      rw [decide_eq_false ne, Bool.false_or, Bool.or_eq_true] at hb
      rcases hb with hb | hb
      · have := of_decide_eq_true hb
        rw [decide_eq_false (by omega), Bool.false_and, Bool.false_and]
      · have : isLet c = false := by simpa [isLet] using hb
        rw [this, Bool.and_false, Bool.false_and]
    · rw [decide_eq_false ne, Bool.false_or, Bool.or_eq_false_iff] at hb
      have h1 := of_decide_eq_false hb.1
      have h2 : isLet c = true := by simpa [isLet] using hb.2
      have e2 : nameL (c :: r) = (tl z).all isSig := by
        show (decide ((c :: r).length ≤ 8) && isLet c && (c :: r).all isSig) = _
        rw [decide_eq_true (by omega), h2, e]
        rfl
      rw [e2]
      exact fin
end
end W1
set_option maxRecDepth 100000
set_option maxHeartbeats 2000000
set_option exponentiation.threshold 20000
namespace W1
open PySem PySem.Spec PyProof.Rows L2 NdefX TL NumText

def chkL (am : Am) : List Str → Option (Sum Str Int)
  | [] => none
  | g :: r => if nameL (tl g) = true then (if valA am g < 0 then some (.inr (valA am g)) else chkL am r) else some (.inl g)
def AmOk (am : Am) : Prop := am.length < 64 ∧ ∀ p ∈ am, p.1.length ≤ 640 ∧ p.2.natAbs.log2 < 1920
def chkO (N B : Addr) (am : Am) : Out := match chkL am (srt (namesA am)) with
  | none => .ok rNon
  | some (.inl g) => .error (erF N "name" (rStr g))
  | some (.inr i) => .error (erF B "n" (rInt i))
def pChk (N B : Addr) : Pre := fun Rs w o w' => ∃ A am, DVar A w (fsA am) ∧ AmOk am ∧ Rs = [A] ∧ w' = w ∧ o = chkO N B am
theorem srt_mem {xs : List Str} {g : Str} (h : g ∈ srt xs) : g ∈ xs := (srt_perm xs).mem_iff.mp h
theorem valA_ok {am : Am} (h : AmOk am) (g : Str) : (valA am g).natAbs.log2 < 1920 := by
  unfold valA
  cases e : am.find? fun p => decide (p.1 = g) with
  | none => decide
  | some p => exact (h.2 p (List.mem_of_find?_eq_some e)).2
theorem name_ok {am : Am} (h : AmOk am) {g : Str} (hg : g ∈ namesA am) : g.length ≤ 640 := by
  obtain ⟨p, hp, rfl⟩ := List.mem_map.mp hg
  exact (h.2 p hp).1
section
variable {P : Program} {w : World} {K : PySem.W.Frag} {mg : Str → Option Value} {base : Heap} {N B f : Addr} {fd : FuncData}
theorem kf_check (Fn : Fun K "check_amounts" "check_amounts" s_check_amounts f fd) (Tn : Kf1 P w K mg base "is_name" 2 pName) (Te : Ke P w K mg base N "BadName" "name" 1 prStr) (Tb : Ke P w K mg base B "BadNumber" "n" 1 prInt) (ls : mg "list" = none) (st : mg "sorted" = none) :
    FnOk P w K mg base (L2.CX P w) 4 f fd P_check_amounts (spM (pChk N B)) := by
  refine fn_ok Fn c_check_amounts (fun _ _ _ _ ⟨_, _, _, _, h, _⟩ => by rw [h]; rfl) ?_
  rintro cdv A outer s H E ⟨_, G0, H0, M, W, tk⟩ hr rfl Rs ω o ω' ⟨A0, am, hd, hk, rfl, rfl, rfl⟩
  have nd := c_check_amounts.nd
  refine hb_for (it_lst (er_sorted (er_var 0 rfl) hd.isd0 hk.1 rfl ls st)) (fun k ρ w1 => w1 = ω' ∧ chkL am ((srt (namesA am)).drop k) = chkL am (srt (namesA am)) ∧ ∃ z, ρ = [some A0, z]) ⟨rfl, rfl, none, rfl⟩ ?_ ?_ (passes_of rfl) (pg_name (i := 1) nd rfl (Or.inl rfl))
  · rintro k ρ w1 S hS ⟨rfl, hc, z, rfl⟩
    rw [List.getElem?_map] at hS
    cases e : (srt (namesA am))[k]? with
    | none => rw [e] at hS; cases hS
    | some g =>
      rw [e] at hS
      cases hS
      have hg : g ∈ namesA am := srt_mem (List.mem_of_getElem? e)
      have hd2 : (srt (namesA am)).drop k = g :: (srt (namesA am)).drop (k + 1) := by
        have hl := (List.getElem?_eq_some_iff.mp e)
        rw [List.drop_eq_getElem_cons hl.1, hl.2]
      rw [hd2] at hc
      refine ⟨_, ge_name, ?_⟩
      refine hb_if (tr_not (tr_val (er_fn0 Tn (hr.mono (by decide)) (ar_cons (er_var 1 rfl) ar_nil) (pNameOk (name_ok hk hg))))) (fun hb => ?_) (fun hb => hb_nil ?_)
      · have hn : ¬ nameL (tl g) = true := by simpa using hb
        have e2 : chkL am (srt (namesA am)) = some (.inl g) := by
          rw [← hc]
          exact if_neg hn
        refine hb_err Te (hr.mono (by decide)) (ar_cons (er_var 1 rfl) ar_nil) ⟨_, [], ?_, fun _ _ _ h => h, (List.append_nil _).symm⟩ fun v G h => ⟨g, h, Nat.le_trans (name_ok hk hg) (by decide)⟩
        unfold chkO
        rw [e2]
      · have hn : nameL (tl g) = true := by simpa using hb
        refine hb_if (tr_cmp (er_dget (k := .inr g) (er_var 0 rfl) (er_var 1 rfl) hd.isd0 (valR_A hg) hr) er_int bop_lt) (fun hb => ?_) (fun hb => hb_nil (hb_nil ?_))
        · have hv := of_decide_eq_true hb
          have e2 : chkL am (srt (namesA am)) = some (.inr (valA am g)) := by
            rw [← hc]
            show (if nameL (tl g) = true then (if valA am g < 0 then some (Sum.inr (valA am g)) else _) else _) = _
            rw [if_pos hn, if_pos hv]
          refine hb_err Tb (hr.mono (by decide)) (ar_cons (er_dget (k := .inr g) (er_var 0 rfl) (er_var 1 rfl) hd.isd0 (valR_A hg) hr) ar_nil) ⟨_, [], ?_, fun _ _ _ h => h, (List.append_nil _).symm⟩ fun v G h => ⟨_, h, valA_ok hk g⟩
          unfold chkO
          rw [e2]
        · have hv := of_decide_eq_false hb
          refine ⟨rfl, ?_, _, rfl⟩
          rw [← hc]
          show _ = (if nameL (tl g) = true then (if valA am g < 0 then some (Sum.inr (valA am g)) else _) else _)
          rw [if_pos hn, if_neg hv]
  · rintro ρ w1 ⟨rfl, hc, z, rfl⟩
    refine hb_nil ⟨rNon, [], ?_, fun _ => rfl, (List.append_nil _).symm⟩
    rw [List.length_map, List.drop_length] at hc
    unfold chkO
    rw [← hc]
    rfl
end
end W1
set_option maxRecDepth 100000
set_option maxHeartbeats 2000000
set_option exponentiation.threshold 20000
namespace W1
open PySem PySem.Spec PyProof.Rows L2 NdefX TL NumText

def keptL (am : Am) : List Str := (srt (namesA am)).filter fun g => decide (0 < valA am g)
def keptA (am : Am) : Am := (keptL am).map fun g => (g, valA am g)
theorem putKR_new {fs : List (Key × Rl)} {k : Key} {R : Rl} (h : k ∉ fs.map (·.1)) : putKR fs k R = fs ++ [(k, R)] := by
  unfold putKR
  rw [if_neg]
  intro z
  obtain ⟨p, hp, e⟩ := List.any_eq_true.mp z
  exact h (List.mem_map.mpr ⟨p, hp, of_decide_eq_true e⟩)
theorem dcR_nodup {α : Type} {kf : α → Key} {B : α → Rl} {xs : List α} (h : (xs.map kf).Nodup) : dcR kf B xs = xs.map fun a => (kf a, B a) := by
  have go : ∀ (xs : List α) (acc : List (Key × Rl)), (acc.map (·.1) ++ xs.map kf).Nodup → xs.foldl (fun acc a => putKR acc (kf a) (B a)) acc = acc ++ xs.map fun a => (kf a, B a) := by
    intro xs
    induction xs with
    | nil => intro acc _; simp
    | cons a l ih =>
      intro acc hn
      rw [List.foldl_cons, putKR_new]
      · rw [ih (acc ++ [(kf a, B a)]) (by rw [List.map_append, List.append_assoc]; exact hn), List.append_assoc]
        rfl
      · intro hm
        rw [List.map_cons] at hn
        exact (List.nodup_append.mp hn).2.2 _ hm _ List.mem_cons_self rfl
  exact go xs [] (by simpa using h)
theorem kept_dc {am : Am} (h : (namesA am).Nodup) : dcR (fun g : Str => (Sum.inr g : Key)) (fun g => rInt (valA am g)) (keptL am) = fsA (keptA am) := by
  rw [dcR_nodup]
  · unfold fsA keptA
    rw [List.map_map]
    rfl
  · have h1 : (keptL am).Nodup := ((srt_perm _).nodup_iff.mpr h).filter _
    exact List.pairwise_map.mpr (h1.imp fun hne e => hne (Sum.inr.inj e))
def pKept : Pre := fun Rs w o w' => ∃ A am, DVar A w (fsA am) ∧ am.length < 64 ∧ (namesA am).Nodup ∧ Rs = [A] ∧ w' = w ∧ o = .ok (rDct (fsA (keptA am)))
section
variable {P : Program} {w : World} {K : PySem.W.Frag} {mg : Str → Option Value} {base : Heap} {f : Addr} {fd : FuncData}
theorem kf_kept (Fn : Fun K "kept_amounts" "kept_amounts" s_kept_amounts f fd) (ls : mg "list" = none) (st : mg "sorted" = none) : FnOk P w K mg base (L2.CX P w) 2 f fd P_kept_amounts (spM pKept) := by
  refine fn_ok Fn c_kept_amounts (fun _ _ _ _ ⟨_, _, _, _, _, h, _⟩ => by rw [h]; rfl) ?_
  rintro cdv A outer s H E ⟨_, G0, H0, M, W, tk⟩ hr rfl Rs ω o ω' ⟨A0, am, hd, hz, hnd, rfl, rfl, rfl⟩
  have nd := c_kept_amounts.nd
  have hg : ∀ (i : Nat) g, (srt (namesA am))[i]? = some g → g ∈ namesA am := fun i g h => srt_mem (List.mem_of_getElem? h)
  have hl : (srt (namesA am)).length ≤ 100000 := by
    rw [(srt_perm _).length_eq]
    unfold namesA
    rw [List.length_map]
    omega
  have isd : ∀ (F : Fx) d, IsDct F A0 (d :: ω') (fsA am) := fun F d => by
    rcases hd with ⟨rfl, rfl⟩ | ⟨q, rfl, rfl⟩
    · exact isd_frz
    · exact isd_own (List.mem_cons_of_mem _ List.mem_cons_self)
  refine hb_ret (er_frz (en_dcf (xs := srt (namesA am)) (A := rStr) (B := fun g => rInt (valA am g)) (kf := fun g => Sum.inr g) (p := fun g => decide (0 < valA am g)) (it_lst (er_sorted (er_var 0 rfl) hd.isd0 hz rfl ls st)) hl [("good", 1)] (blkOk_by (N := N_kept_amounts) (sc := defScope s_kept_amounts) (by decide +kernel))
    (fun _ _ _ _ _ => pg_name (i := 1) nd rfl (Or.inl rfl)) (fun i a h => gew_name) (fun i a h s H0 cc cl fp d => tr_cmp (er_dget (k := .inr a) (er_var 0 rfl) (er_var 1 rfl) (isd _ _) (valR_A (hg i a h)) hr) er_int bop_gt) (fun i a h _ s H0 cc cl fp d => er_var 1 rfl) (fun i a h _ s H0 cc cl fp d => er_dget (k := .inr a) (er_var 0 rfl) (er_var 1 rfl) (isd _ _) (valR_A (hg i a h)) hr) nd)) ⟨_, [], rfl, fun v G h => ?_, (List.append_nil _).symm⟩
  rw [← kept_dc hnd]
  exact h
end
end W1
set_option maxRecDepth 100000
set_option maxHeartbeats 2000000
set_option exponentiation.threshold 20000
namespace W1
open PySem PySem.Spec PyProof.Rows L2 NdefX TL NumText
local macro_rules | `(tactic| walk_at "side") => `(tactic| first | assumption | rfl | decide | omega | (simp only [List.length_map, List.length_cons, List.length_nil, List.length_append, List.length_range, decide_eq_true_eq, decide_eq_false_iff_not, Bool.not_eq_true', Bool.and_eq_true, Bool.or_eq_false_iff] at *; omega))
local macro_rules | `(tactic| walk_at "room") => `(tactic| first | assumption | exact Room.mono (by assumption) (by decide))
local macro_rules | `(tactic| walk_at "pre") => `(tactic| first | assumption | exact ⟨_, by walk_at "side", rfl, rfl, rfl, rfl⟩)
local macro_rules | `(tactic| walk_at "nm") => `(tactic| first
  | exact er_v 0 (by exact rfl) (by exact rfl) | exact er_v 1 (by exact rfl) (by exact rfl) | exact er_v 2 (by exact rfl) (by exact rfl) | exact er_v 3 (by exact rfl) (by exact rfl) | exact er_v 4 (by exact rfl) (by exact rfl) | exact er_v 5 (by exact rfl) (by exact rfl) | exact er_v 6 (by exact rfl) (by exact rfl) | exact er_v 7 (by exact rfl) (by exact rfl)
  | exact er_v 8 (by exact rfl) (by exact rfl) | exact er_v 9 (by exact rfl) (by exact rfl) | exact er_v 10 (by exact rfl) (by exact rfl) | exact er_v 11 (by exact rfl) (by exact rfl) | exact er_v 12 (by exact rfl) (by exact rfl) | exact er_v 13 (by exact rfl) (by exact rfl) | exact er_v 14 (by exact rfl) (by exact rfl) | exact er_v 15 (by exact rfl) (by exact rfl)
  | exact er_gS (by assumption) | exact er_gI (by assumption) | exact er_gC (by assumption))
local macro_rules | `(tactic| walk_at "bt") => `(tactic| with_reducible first | exact bt_len | exact bt_int | exact bt_str | exact bt_list | exact bt_sorted | exact bt_all | exact bt_isi | exact bt_abs | exact bt_bool | exact bt_tup)
local macro_rules | `(tactic| walk_at "bop") => `(tactic| first
  | with_reducible exact bop_add | with_reducible exact bop_sub | with_reducible exact bop_lt | with_reducible exact bop_le | with_reducible exact bop_gt | with_reducible exact bop_ge | with_reducible exact bop_eqI | with_reducible exact bop_neI | with_reducible exact bop_eqS | with_reducible exact bop_neS | with_reducible exact bop_inC | with_reducible exact bop_niC2 | with_reducible exact bop_isN | with_reducible exact bop_notN
  | (with_reducible apply bop_mod); walk_at "side"
  | (with_reducible apply bop_mul); first | exact IntMulOk.of_right (by decide) | exact IntMulOk.of_left (by decide) | walk_at "side"
  | (with_reducible apply bop_fdiv); walk_at "side"
  | (with_reducible apply bop_pow); walk_at "side"
  | (with_reducible apply bop_addS); walk_at "side"
  | (with_reducible apply bop_cat); walk_at "side"
  | assumption)
local macro_rules | `(tactic| walk_at "cop") => `(tactic| first
  | with_reducible exact cop_lenL | with_reducible exact cop_lenT | with_reducible exact cop_int | with_reducible exact cop_abs | with_reducible exact cop_bool | with_reducible exact cop_intB | with_reducible exact cop_listL | with_reducible exact cop_listT | with_reducible exact cop_tupL
  | (with_reducible apply cop_lenStr); walk_at "side"
  | (with_reducible apply cop_strI); walk_at "side"
  | (with_reducible apply cop_intS) <;> walk_at "side"
  | (with_reducible apply cop_sortedS); walk_at "side"
  | (with_reducible apply cop_isIns); assumption
  | (with_reducible apply cop_all); rfl
  | exact cop_lenS
  | (with_reducible apply cop_lenD); walk_at "isd"
  | (with_reducible apply cop_listD); first | rfl | walk_at "isd"
  | assumption)
local macro_rules | `(tactic| walk_at "isd") => `(tactic| first | assumption | exact isd_frz | exact isd_own List.mem_cons_self | exact isd_own (List.mem_cons_of_mem _ List.mem_cons_self) | exact isd_own (by simp) | exact isd_ownF (by simp))
local macro_rules | `(tactic| walk_at "iop") => `(tactic| first | (with_reducible apply iop_L (n := 0)) <;> exact rfl | (with_reducible apply iop_L (n := 1)) <;> exact rfl | (with_reducible apply iop_L (n := 2)) <;> exact rfl | (with_reducible apply iop_L (n := 3)) <;> exact rfl | (with_reducible apply iop_T (n := 0)) <;> exact rfl | (with_reducible apply iop_T (n := 1)) <;> exact rfl | (with_reducible apply iop_T (n := 2)) <;> exact rfl | assumption)
local macro_rules | `(tactic| walk_at "ar") => `(tactic| first | (with_reducible show AR _ _ _ [] _ _); exact ar_nil | exact ar_cons (by walk_at "er") (by walk_at "ar"))
local macro_rules | `(tactic| walk_at "call") => `(tactic| first
  | exact er_fA (by assumption) (by walk_at "room") (by walk_at "ar") (by walk_at "pre")
  | exact er_bA (by walk_at "ar") (by assumption) (by walk_at "bt") (by walk_at "cop")
  | exact er_tA (by walk_at "ar") (by assumption) (by walk_at "bt") (by walk_at "cop")
  | exact er_f1 0 (by assumption) (by walk_at "room") (by walk_at "ar") (by exact rfl) (by walk_at "pre")
  | exact er_f1 1 (by assumption) (by walk_at "room") (by walk_at "ar") (by exact rfl) (by walk_at "pre")
  | exact er_f1 2 (by assumption) (by walk_at "room") (by walk_at "ar") (by exact rfl) (by walk_at "pre"))
local macro_rules | `(tactic| walk_at "meth") => `(tactic| first
  | exact er_m (by assumption) (by assumption) (by walk_at "room") (by walk_at "er") (by walk_at "ar") (by walk_at "pre")
  | exact er_m0 (by assumption) (by assumption) (by walk_at "room") (by walk_at "er") (by walk_at "pre"))
local macro_rules | `(tactic| walk_at "er") => `(tactic| first
  | (with_reducible show ER _ _ _ (Expr.Name _ _) _ _); walk_at "nm"
  | (with_reducible show ER _ _ _ (Expr.Constant (Const.int _) _ _) _ _); exact er_int
  | (with_reducible show ER _ _ _ (Expr.Constant (Const.str _) _ _) _ _); exact er_str
  | (with_reducible show ER _ _ _ (Expr.Constant (Const.bool _) _ _) _ _); exact er_bl
  | (with_reducible show ER _ _ _ (Expr.Constant _ _ _) _ _); exact er_non
  | (with_reducible show ER _ _ _ (Expr.BinOp _ _ _ _) _ _); exact er_bin (by walk_at "er") (by walk_at "er") (by walk_at "bop")
  | (with_reducible show ER _ _ _ (Expr.Compare _ _ _ _) _ _); exact er_cmp (by walk_at "er") (by walk_at "er") (by walk_at "bop")
  | (with_reducible show ER _ _ _ (Expr.Call (Expr.Name _ _) _ _ _) _ _); walk_at "call"
  | (with_reducible show ER _ _ _ (Expr.Call (Expr.Attribute _ _ _) _ _ _) _ _); walk_at "meth"
  | (with_reducible show ER _ _ _ (Expr.Attribute _ _ _) _ _); walk_at "attr"
  | (with_reducible show ER _ _ _ (Expr.Subscript _ (Expr.Slice _ _ _ _) _) _ _); walk_at "slice"
  | (with_reducible show ER _ _ _ (Expr.Subscript _ _ _) _ _); walk_at "ix"
  | (with_reducible show ER _ _ _ (Expr.BoolOp _ [_] _) _ _); exact er_one (by walk_at "er")
  | (with_reducible show ER _ _ _ (Expr.BoolOp BoolOp.And _ _) _ _); exact er_and (by walk_at "er") (fun _ => by walk_at "er")
  | (with_reducible show ER _ _ _ (Expr.BoolOp BoolOp.Or _ _) _ _); exact er_or (by walk_at "er") (fun _ => by walk_at "er")
  | (with_reducible show ER _ _ _ (Expr.UnaryOp UnaryOp.Not _ _) _ _); exact er_not (by walk_at "er")
  | (with_reducible show ER _ _ _ (Expr.UnaryOp _ _ _) _ _); exact er_un (by walk_at "er") (by walk_at "uop")
  | (with_reducible show ER _ _ _ (Expr.List _ _) _ _); exact er_lst (by walk_at "ar") (by exact Nat.le_of_ble_eq_true rfl)
  | (with_reducible show ER _ _ _ (Expr.Tuple _ _ _) _ _); exact er_tup (by walk_at "ar") (by exact Nat.le_of_ble_eq_true rfl)
  | (with_reducible show ER _ _ _ (Expr.Dict [] [] _) _ _); exact er_dict0
  | assumption)
local macro_rules | `(tactic| walk_at "uop") => `(tactic| exact uop_neg)
local macro_rules | `(tactic| walk_at "attr") => `(tactic| exact er_fld (by walk_at "er") (by assumption) (by assumption) (by exact rfl))
local macro_rules | `(tactic| walk_at "ix") => `(tactic| first | exact er_ix (by walk_at "er") (by walk_at "er") (by walk_at "iop") | exact er_ixO (by walk_at "er") (by walk_at "er") (by simp) (by exact rfl) (by exact rfl))
local macro_rules | `(tactic| walk_at "slice") => `(tactic| exact er_slice (by walk_at "er") (by walk_at "pr") (by walk_at "pr") (by walk_at "sop"))
local macro_rules | `(tactic| walk_at "pr") => `(tactic| first | with_reducible exact pr_none | exact pr_some (by walk_at "er"))
local macro_rules | `(tactic| walk_at "sop") => `(tactic| first | (with_reducible apply sop_str); walk_at "side" | with_reducible exact sop_L | exact sop_S)
local macro_rules | `(tactic| walk_at "pw") => `(tactic| first
  | (with_reducible apply tr_and1); walk_at "tr"
  | (with_reducible apply tr_or1); walk_at "tr"
  | (with_reducible show PWR _ _ _ (Expr.BoolOp BoolOp.And _ _) _ _); exact tr_and (by walk_at "tr") (fun _ => by walk_at "pw")
  | (with_reducible show PWR _ _ _ (Expr.BoolOp BoolOp.Or _ _) _ _); exact tr_or (by walk_at "tr") (fun _ => by walk_at "pw"))
local macro_rules | `(tactic| walk_at "tr") => `(tactic| first
  | (with_reducible show TR _ _ _ (Expr.BoolOp _ _ _) _ _); exact PWR.tr (by walk_at "pw")
  | (with_reducible apply tr_not); walk_at "tr"
  | (with_reducible show TR _ _ _ (Expr.Compare _ _ _ _) _ _); exact tr_cmp (by walk_at "er") (by walk_at "er") (by walk_at "bop")
  | exact tr_val (by walk_at "er") | assumption)
local macro_rules | `(tactic| walk_at "set") => `(tactic| first
  | refine hb_setA 0 (by exact rfl) (by walk_at "er") ?_ | refine hb_setA 1 (by exact rfl) (by walk_at "er") ?_ | refine hb_setA 2 (by exact rfl) (by walk_at "er") ?_ | refine hb_setA 3 (by exact rfl) (by walk_at "er") ?_ | refine hb_setA 4 (by exact rfl) (by walk_at "er") ?_ | refine hb_setA 5 (by exact rfl) (by walk_at "er") ?_
  | refine hb_setA 6 (by exact rfl) (by walk_at "er") ?_ | refine hb_setA 7 (by exact rfl) (by walk_at "er") ?_ | refine hb_setA 8 (by exact rfl) (by walk_at "er") ?_ | refine hb_setA 9 (by exact rfl) (by walk_at "er") ?_ | refine hb_setA 10 (by exact rfl) (by walk_at "er") ?_ | refine hb_setA 11 (by exact rfl) (by walk_at "er") ?_)
/-! ### ways -/
def wayF (t : Am) (h : Int) (m : Am) : List (Str × Rl) := [("inputs", rDct (fsA (keptA t))), ("hours", rInt h), ("outputs", rDct (fsA (keptA m)))]
def rWay (W : Addr) (t : Am) (h : Int) (m : Am) : Rl := rIns W (wayF t h m)
def wayE (t : Am) (h : Int) (m : Am) : Option (Sum Str Int) :=
  match chkL t (srt (namesA t)) with
  | some x => some x
  | none => match chkL m (srt (namesA m)) with
    | some x => some x
    | none => if h < 1 then some (.inr h) else if keptA m = [] then some (.inr 0) else none
def errW (N B : Addr) : Sum Str Int → Er
  | .inl g => erF N "name" (rStr g)
  | .inr i => erF B "n" (rInt i)
theorem errW_mo {N B : Addr} {x : Sum Str Int} : ∀ cls d G G', Same G G' → errW N B x cls d G → errW N B x cls d G' := by
  cases x <;> exact erF_mo
structure AmG (am : Am) : Prop where
  ok : AmOk am
  nd : (namesA am).Nodup
structure WayX (K : PySem.W.Frag) (mg : Str → Option Value) (W : Addr) : Prop where
  cx : ClsX K W
  ni : NoAttr K W "inputs"
  nh : NoAttr K W "hours"
  no : NoAttr K W "outputs"
  gW : mg "Way" = some (.ref W)
  nf : PySem.W.notFirst K W (.ref W) = true
def pWayI (W N B : Addr) : Pre := fun Rs w o w' => ∃ q A1 t w1 A2 m w2 h, DVar A1 w1 (fsA t) ∧ DVar A2 w2 (fsA m) ∧ AmG t ∧ AmG m ∧ h.natAbs.log2 < 1920 ∧ Rs = [rRef q, A1, rInt h, A2] ∧ w = (q, oIns W []) :: (w1 ++ w2) ∧
  (match wayE t h m with | none => o = .ok rNon ∧ w' = (q, oIns W (wayF t h m)) :: (w1 ++ w2) | some x => o = .error (errW N B x) ∧ w' = w)
def ksA (am : Am) : List (Key × V) := am.map fun p => (Sum.inr p.1, V.int p.2)
theorem fsA_ks (am : Am) : fsA am = fsV (ksA am) := by
  unfold fsA fsV ksA
  rw [List.map_map]
  rfl
theorem flat_ks (am : Am) : ∀ p ∈ ksA am, flatV p.2 = true := fun p hp => by
  obtain ⟨z, _, rfl⟩ := List.mem_map.mp hp
  rfl
theorem chkO_some {N B : Addr} {am : Am} {x : Sum Str Int} (h : chkL am (srt (namesA am)) = some x) : chkO N B am = .error (errW N B x) := by
  unfold chkO
  rw [h]
  cases x <;> rfl
theorem chkO_none {N B : Addr} {am : Am} (h : chkL am (srt (namesA am)) = none) : chkO N B am = .ok rNon := by
  unfold chkO
  rw [h]
section
variable {P : Program} {w : World} {K : PySem.W.Frag} {mg : Str → Option Value} {base : Heap} {W N B f : Addr} {fd : FuncData}
theorem kf_winit (Fn : Fun K "__init__" "Way.__init__" s_Way___init__ f fd) (X : WayX K mg W) (Tc : Kf1 P w K mg base "check_amounts" 4 (pChk N B)) (Tk : Kf1 P w K mg base "kept_amounts" 2 pKept) (Tb : Ke P w K mg base B "BadNumber" "n" 1 prInt) :
    FnOk P w K mg base (L2.CX P w) 6 f fd P_Way___init__ (spM (pWayI W N B)) := by
  refine fn_ok Fn c_Way___init__ (fun _ _ _ _ ⟨_, _, _, _, _, _, _, _, _, _, _, _, _, h, _⟩ => by rw [h]; rfl) ?_
  rintro cdv A outer s H E ⟨_, G0, H0, M, _, tk⟩ hr rfl Rs ω o ω' ⟨q, A1, t, w1, A2, m, w2, h, d1, d2, g1, g2, hh, rfl, rfl, ho⟩
  have nd := c_Way___init__.nd
  have s1 : ∀ {O : Ol}, Sub w1 ((q, O) :: (w1 ++ w2)) := fun {O} => Sub.app.cons
  have s2 : ∀ {O : Ol}, Sub w2 ((q, O) :: (w1 ++ w2)) := fun {O} => Sub.app2.cons
  have k1 : pKept [A1] w1 (.ok (rDct (fsA (keptA t)))) w1 := ⟨A1, t, d1, g1.ok.1, g1.nd, rfl, rfl, rfl⟩
  have k2 : pKept [A2] w2 (.ok (rDct (fsA (keptA m)))) w2 := ⟨A2, m, d2, g2.ok.1, g2.nd, rfl, rfl, rfl⟩
  have cl := X.cx.cls
  unfold wayE at ho
  cases c1 : chkL t (srt (namesA t)) with
  | some x =>
    rw [c1] at ho
    obtain ⟨rfl, rfl⟩ := ho
    exact hb_exprX (ex_fS Tc (hr.mono (by decide)) (by walk_at "ar") s1 ⟨A1, t, d1, g1.ok, rfl, rfl, (chkO_some c1).symm⟩) ⟨_, [], rfl, fun _ _ _ h => h, (List.append_nil _).symm⟩
  | none =>
    rw [c1] at ho
    refine hb_expr (er_fS Tc (hr.mono (by decide)) (by walk_at "ar") s1 ⟨A1, t, d1, g1.ok, rfl, rfl, (chkO_none c1).symm⟩) ?_
    cases c2 : chkL m (srt (namesA m)) with
    | some x =>
      rw [c2] at ho
      obtain ⟨rfl, rfl⟩ := ho
      exact hb_exprX (ex_fS Tc (hr.mono (by decide)) (by walk_at "ar") s2 ⟨A2, m, d2, g2.ok, rfl, rfl, (chkO_some c2).symm⟩) ⟨_, [], rfl, fun _ _ _ h => h, (List.append_nil _).symm⟩
    | none =>
      rw [c2] at ho
      refine hb_expr (er_fS Tc (hr.mono (by decide)) (by walk_at "ar") s2 ⟨A2, m, d2, g2.ok, rfl, rfl, (chkO_none c2).symm⟩) ?_
      refine hb_if (by walk_at "tr") (fun hb => ?_) (fun hb => hb_nil ?_)
      · have hb := of_decide_eq_true hb
        dsimp only at ho
        rw [if_pos hb] at ho
        obtain ⟨rfl, rfl⟩ := ho
        exact hb_err Tb (hr.mono (by decide)) (by walk_at "ar") ⟨_, [], rfl, fun _ _ _ h => h, (List.append_nil _).symm⟩ fun v G z => ⟨h, z, hh⟩
      · have hb := of_decide_eq_false hb
        dsimp only at ho
        rw [if_neg hb] at ho
        have ek : eqD (ksA (keptA m)) [] = decide (keptA m = []) := by
          unfold eqD ksA
          cases keptA m with
          | nil => rfl
          | cons a l => rfl
        refine hb_if (b := decide (keptA m = [])) (tr_cmp (er_fS Tk (hr.mono (by decide)) (by walk_at "ar") s2 k2) er_dict0 (by rw [← ek]; exact bop_eqDV (by rw [← fsA_ks]; exact isd_frz) isd_frz (flat_ks _) (fun p hp => by cases hp) hr)) (fun hb => ?_) (fun hb => hb_nil ?_)
        · have hb := of_decide_eq_true hb
          rw [if_pos hb] at ho
          obtain ⟨rfl, rfl⟩ := ho
          exact hb_err Tb (hr.mono (by decide)) (by walk_at "ar") ⟨_, [], rfl, fun _ _ _ h => h, (List.append_nil _).symm⟩ fun v G z => ⟨0, z, by decide⟩
        · have hb := of_decide_eq_false hb
          rw [if_neg hb] at ho
          obtain ⟨rfl, rfl⟩ := ho
          refine hb_fld (q := q) (fs := []) (er_fS Tk (hr.mono (by decide)) (by walk_at "ar") s1 k1) (by walk_at "er") cl X.ni ?_
          refine hb_fld (q := q) (fs := [("inputs", _)]) (by walk_at "er") (by walk_at "er") cl X.nh ?_ (hl := Nat.le_of_ble_eq_true rfl)
          refine hb_fld (q := q) (fs := [("inputs", _), ("hours", _)]) (er_fS Tk (hr.mono (by decide)) (by walk_at "ar") s2 k2) (by walk_at "er") cl X.no ?_ (hl := Nat.le_of_ble_eq_true rfl)
          exact hb_nil ⟨_, [], rfl, fun _ => rfl, (List.append_nil _).symm⟩
end
end W1
set_option maxRecDepth 100000
set_option maxHeartbeats 2000000
set_option exponentiation.threshold 20000
namespace W1
open PySem PySem.Spec PyProof.Rows L2 NdefX TL NumText
local macro_rules | `(tactic| walk_at "side") => `(tactic| first | assumption | rfl | decide | omega | (simp only [List.length_map, List.length_cons, List.length_nil, List.length_append, List.length_range, decide_eq_true_eq, decide_eq_false_iff_not, Bool.not_eq_true', Bool.and_eq_true, Bool.or_eq_false_iff] at *; omega))
local macro_rules | `(tactic| walk_at "room") => `(tactic| first | assumption | exact Room.mono (by assumption) (by decide))
local macro_rules | `(tactic| walk_at "pre") => `(tactic| first | assumption | exact ⟨_, by walk_at "side", rfl, rfl, rfl, rfl⟩)
local macro_rules | `(tactic| walk_at "nm") => `(tactic| first
  | exact er_v 0 (by exact rfl) (by exact rfl) | exact er_v 1 (by exact rfl) (by exact rfl) | exact er_v 2 (by exact rfl) (by exact rfl) | exact er_v 3 (by exact rfl) (by exact rfl) | exact er_v 4 (by exact rfl) (by exact rfl) | exact er_v 5 (by exact rfl) (by exact rfl) | exact er_v 6 (by exact rfl) (by exact rfl) | exact er_v 7 (by exact rfl) (by exact rfl)
  | exact er_v 8 (by exact rfl) (by exact rfl) | exact er_v 9 (by exact rfl) (by exact rfl) | exact er_v 10 (by exact rfl) (by exact rfl) | exact er_v 11 (by exact rfl) (by exact rfl) | exact er_v 12 (by exact rfl) (by exact rfl) | exact er_v 13 (by exact rfl) (by exact rfl) | exact er_v 14 (by exact rfl) (by exact rfl) | exact er_v 15 (by exact rfl) (by exact rfl)
  | exact er_gS (by assumption) | exact er_gI (by assumption) | exact er_gC (by assumption))
local macro_rules | `(tactic| walk_at "bt") => `(tactic| with_reducible first | exact bt_len | exact bt_int | exact bt_str | exact bt_list | exact bt_sorted | exact bt_all | exact bt_isi | exact bt_abs | exact bt_bool | exact bt_tup)
local macro_rules | `(tactic| walk_at "bop") => `(tactic| first
  | with_reducible exact bop_add | with_reducible exact bop_sub | with_reducible exact bop_lt | with_reducible exact bop_le | with_reducible exact bop_gt | with_reducible exact bop_ge | with_reducible exact bop_eqI | with_reducible exact bop_neI | with_reducible exact bop_eqS | with_reducible exact bop_neS | with_reducible exact bop_inC | with_reducible exact bop_niC2 | with_reducible exact bop_isN | with_reducible exact bop_notN
  | (with_reducible apply bop_mod); walk_at "side"
  | (with_reducible apply bop_mul); first | exact IntMulOk.of_right (by decide) | exact IntMulOk.of_left (by decide) | walk_at "side"
  | (with_reducible apply bop_fdiv); walk_at "side"
  | (with_reducible apply bop_pow); walk_at "side"
  | (with_reducible apply bop_addS); walk_at "side"
  | (with_reducible apply bop_cat); walk_at "side"
  | assumption)
local macro_rules | `(tactic| walk_at "cop") => `(tactic| first
  | with_reducible exact cop_lenL | with_reducible exact cop_lenT | with_reducible exact cop_int | with_reducible exact cop_abs | with_reducible exact cop_bool | with_reducible exact cop_intB | with_reducible exact cop_listL | with_reducible exact cop_listT | with_reducible exact cop_tupL
  | (with_reducible apply cop_lenStr); walk_at "side"
  | (with_reducible apply cop_strI); walk_at "side"
  | (with_reducible apply cop_intS) <;> walk_at "side"
  | (with_reducible apply cop_sortedS); walk_at "side"
  | (with_reducible apply cop_isIns); assumption
  | (with_reducible apply cop_all); rfl
  | exact cop_lenS
  | (with_reducible apply cop_lenD); walk_at "isd"
  | (with_reducible apply cop_listD); first | rfl | walk_at "isd"
  | assumption)
local macro_rules | `(tactic| walk_at "isd") => `(tactic| first | assumption | exact isd_frz | exact isd_own List.mem_cons_self | exact isd_own (List.mem_cons_of_mem _ List.mem_cons_self) | exact isd_own (by simp) | exact isd_ownF (by simp))
local macro_rules | `(tactic| walk_at "iop") => `(tactic| first | (with_reducible apply iop_L (n := 0)) <;> exact rfl | (with_reducible apply iop_L (n := 1)) <;> exact rfl | (with_reducible apply iop_L (n := 2)) <;> exact rfl | (with_reducible apply iop_L (n := 3)) <;> exact rfl | (with_reducible apply iop_T (n := 0)) <;> exact rfl | (with_reducible apply iop_T (n := 1)) <;> exact rfl | (with_reducible apply iop_T (n := 2)) <;> exact rfl | assumption)
local macro_rules | `(tactic| walk_at "ar") => `(tactic| first | (with_reducible show AR _ _ _ [] _ _); exact ar_nil | exact ar_cons (by walk_at "er") (by walk_at "ar"))
local macro_rules | `(tactic| walk_at "call") => `(tactic| first
  | exact er_fA (by assumption) (by walk_at "room") (by walk_at "ar") (by walk_at "pre")
  | exact er_bA (by walk_at "ar") (by assumption) (by walk_at "bt") (by walk_at "cop")
  | exact er_tA (by walk_at "ar") (by assumption) (by walk_at "bt") (by walk_at "cop")
  | exact er_f1 0 (by assumption) (by walk_at "room") (by walk_at "ar") (by exact rfl) (by walk_at "pre")
  | exact er_f1 1 (by assumption) (by walk_at "room") (by walk_at "ar") (by exact rfl) (by walk_at "pre")
  | exact er_f1 2 (by assumption) (by walk_at "room") (by walk_at "ar") (by exact rfl) (by walk_at "pre"))
local macro_rules | `(tactic| walk_at "meth") => `(tactic| first
  | exact er_m (by assumption) (by assumption) (by walk_at "room") (by walk_at "er") (by walk_at "ar") (by walk_at "pre")
  | exact er_m0 (by assumption) (by assumption) (by walk_at "room") (by walk_at "er") (by walk_at "pre"))
local macro_rules | `(tactic| walk_at "er") => `(tactic| first
  | (with_reducible show ER _ _ _ (Expr.Name _ _) _ _); walk_at "nm"
  | (with_reducible show ER _ _ _ (Expr.Constant (Const.int _) _ _) _ _); exact er_int
  | (with_reducible show ER _ _ _ (Expr.Constant (Const.str _) _ _) _ _); exact er_str
  | (with_reducible show ER _ _ _ (Expr.Constant (Const.bool _) _ _) _ _); exact er_bl
  | (with_reducible show ER _ _ _ (Expr.Constant _ _ _) _ _); exact er_non
  | (with_reducible show ER _ _ _ (Expr.BinOp _ _ _ _) _ _); exact er_bin (by walk_at "er") (by walk_at "er") (by walk_at "bop")
  | (with_reducible show ER _ _ _ (Expr.Compare _ _ _ _) _ _); exact er_cmp (by walk_at "er") (by walk_at "er") (by walk_at "bop")
  | (with_reducible show ER _ _ _ (Expr.Call (Expr.Name _ _) _ _ _) _ _); walk_at "call"
  | (with_reducible show ER _ _ _ (Expr.Call (Expr.Attribute _ _ _) _ _ _) _ _); walk_at "meth"
  | (with_reducible show ER _ _ _ (Expr.Attribute _ _ _) _ _); walk_at "attr"
  | (with_reducible show ER _ _ _ (Expr.Subscript _ (Expr.Slice _ _ _ _) _) _ _); walk_at "slice"
  | (with_reducible show ER _ _ _ (Expr.Subscript _ _ _) _ _); walk_at "ix"
  | (with_reducible show ER _ _ _ (Expr.BoolOp _ [_] _) _ _); exact er_one (by walk_at "er")
  | (with_reducible show ER _ _ _ (Expr.BoolOp BoolOp.And _ _) _ _); exact er_and (by walk_at "er") (fun _ => by walk_at "er")
  | (with_reducible show ER _ _ _ (Expr.BoolOp BoolOp.Or _ _) _ _); exact er_or (by walk_at "er") (fun _ => by walk_at "er")
  | (with_reducible show ER _ _ _ (Expr.UnaryOp UnaryOp.Not _ _) _ _); exact er_not (by walk_at "er")
  | (with_reducible show ER _ _ _ (Expr.UnaryOp _ _ _) _ _); exact er_un (by walk_at "er") (by walk_at "uop")
  | (with_reducible show ER _ _ _ (Expr.List _ _) _ _); exact er_lst (by walk_at "ar") (by exact Nat.le_of_ble_eq_true rfl)
  | (with_reducible show ER _ _ _ (Expr.Tuple _ _ _) _ _); exact er_tup (by walk_at "ar") (by exact Nat.le_of_ble_eq_true rfl)
  | (with_reducible show ER _ _ _ (Expr.Dict [] [] _) _ _); exact er_dict0
  | assumption)
local macro_rules | `(tactic| walk_at "uop") => `(tactic| exact uop_neg)
local macro_rules | `(tactic| walk_at "attr") => `(tactic| exact er_fld (by walk_at "er") (by assumption) (by assumption) (by exact rfl))
local macro_rules | `(tactic| walk_at "ix") => `(tactic| first | exact er_ix (by walk_at "er") (by walk_at "er") (by walk_at "iop") | exact er_ixO (by walk_at "er") (by walk_at "er") (by simp) (by exact rfl) (by exact rfl))
local macro_rules | `(tactic| walk_at "slice") => `(tactic| exact er_slice (by walk_at "er") (by walk_at "pr") (by walk_at "pr") (by walk_at "sop"))
local macro_rules | `(tactic| walk_at "pr") => `(tactic| first | with_reducible exact pr_none | exact pr_some (by walk_at "er"))
local macro_rules | `(tactic| walk_at "sop") => `(tactic| first | (with_reducible apply sop_str); walk_at "side" | with_reducible exact sop_L | exact sop_S)
local macro_rules | `(tactic| walk_at "pw") => `(tactic| first
  | (with_reducible apply tr_and1); walk_at "tr"
  | (with_reducible apply tr_or1); walk_at "tr"
  | (with_reducible show PWR _ _ _ (Expr.BoolOp BoolOp.And _ _) _ _); exact tr_and (by walk_at "tr") (fun _ => by walk_at "pw")
  | (with_reducible show PWR _ _ _ (Expr.BoolOp BoolOp.Or _ _) _ _); exact tr_or (by walk_at "tr") (fun _ => by walk_at "pw"))
local macro_rules | `(tactic| walk_at "tr") => `(tactic| first
  | (with_reducible show TR _ _ _ (Expr.BoolOp _ _ _) _ _); exact PWR.tr (by walk_at "pw")
  | (with_reducible apply tr_not); walk_at "tr"
  | (with_reducible show TR _ _ _ (Expr.Compare _ _ _ _) _ _); exact tr_cmp (by walk_at "er") (by walk_at "er") (by walk_at "bop")
  | exact tr_val (by walk_at "er") | assumption)
local macro_rules | `(tactic| walk_at "set") => `(tactic| first
  | refine hb_setA 0 (by exact rfl) (by walk_at "er") ?_ | refine hb_setA 1 (by exact rfl) (by walk_at "er") ?_ | refine hb_setA 2 (by exact rfl) (by walk_at "er") ?_ | refine hb_setA 3 (by exact rfl) (by walk_at "er") ?_ | refine hb_setA 4 (by exact rfl) (by walk_at "er") ?_ | refine hb_setA 5 (by exact rfl) (by walk_at "er") ?_
  | refine hb_setA 6 (by exact rfl) (by walk_at "er") ?_ | refine hb_setA 7 (by exact rfl) (by walk_at "er") ?_ | refine hb_setA 8 (by exact rfl) (by walk_at "er") ?_ | refine hb_setA 9 (by exact rfl) (by walk_at "er") ?_ | refine hb_setA 10 (by exact rfl) (by walk_at "er") ?_ | refine hb_setA 11 (by exact rfl) (by walk_at "er") ?_)
/-! ### what a way tells -/
theorem valR_get {am : Am} {g : Str} : (valR (fsA am) (.inr g)).getD (rInt 0) = rInt (valA am g) := by
  by_cases h : g ∈ namesA am
  · rw [valR_A h]; rfl
  · obtain ⟨h1, h2⟩ := valR_An h
    rw [h1, h2]; rfl
def putA (am : Am) (k : Str) (v : Int) : Am := if (am.any fun p => decide (p.1 = k)) = true then am.map (fun p => if p.1 = k then (p.1, v) else p) else am ++ [(k, v)]
theorem putK_A (am : Am) (k : Str) (v : Int) : putKR (fsA am) (.inr k) (rInt v) = fsA (putA am k v) := by
  have e : ((fsA am).any fun kv => decide (kv.1 = Sum.inr k)) = am.any fun p => decide (p.1 = k) := by
    unfold fsA
    rw [List.any_map]
    congr 1
    funext p
    show decide ((Sum.inr p.1 : Key) = Sum.inr k) = decide (p.1 = k)
    by_cases h : p.1 = k
    · rw [h]; simp
    · rw [decide_eq_false h, decide_eq_false (fun z => h (Sum.inr.inj z))]
  unfold putKR putA
  rw [e]
  split
  · unfold fsA
    rw [List.map_map, List.map_map]
    apply List.map_congr_left
    intro p _
    show (if (Sum.inr p.1 : Key) = Sum.inr k then ((Sum.inr p.1 : Key), rInt v) else (Sum.inr p.1, rInt p.2)) = _
    by_cases h : p.1 = k
    · rw [if_pos (congrArg Sum.inr h)]
      show _ = ((Sum.inr (if p.1 = k then (p.1, v) else p).1 : Key), rInt (if p.1 = k then (p.1, v) else p).2)
      rw [if_pos h]
    · rw [if_neg (fun z => h (Sum.inr.inj z))]
      show _ = ((Sum.inr (if p.1 = k then (p.1, v) else p).1 : Key), rInt (if p.1 = k then (p.1, v) else p).2)
      rw [if_neg h]
  · unfold fsA
    rw [List.map_append]
    rfl
def mergeA (a b : Am) : Am := b.foldl (fun acc p => putA acc p.1 p.2) a
theorem merge_A : ∀ (b a : Am), mergeR (fsA a) (fsA b) = fsA (mergeA a b)
  | [], a => rfl
  | p :: b, a => by
    show mergeR (putKR (fsA a) (.inr p.1) (rInt p.2)) (fsA b) = _
    rw [putK_A]
    exact merge_A b _
theorem names_put (am : Am) (k : Str) (v : Int) : namesA (putA am k v) = if k ∈ namesA am then namesA am else namesA am ++ [k] := by
  have e : (am.any fun p => decide (p.1 = k)) = true ↔ k ∈ namesA am := by
    rw [List.any_eq_true]
    constructor
    · rintro ⟨p, hp, h⟩
      exact List.mem_map.mpr ⟨p, hp, of_decide_eq_true h⟩
    · intro h
      obtain ⟨p, hp, rfl⟩ := List.mem_map.mp h
      exact ⟨p, hp, decide_eq_true rfl⟩
  unfold putA
  by_cases h : k ∈ namesA am
  · rw [if_pos (e.mpr h), if_pos h]
    unfold namesA
    rw [List.map_map]
    apply List.map_congr_left
    intro p _
    show (if p.1 = k then (p.1, v) else p).1 = p.1
    split <;> rfl
  · rw [if_neg (fun z => h (e.mp z)), if_neg h]
    unfold namesA
    rw [List.map_append]
    rfl
theorem names_merge : ∀ (b a : Am), (namesA a).Nodup → (namesA (mergeA a b)).Nodup ∧ ∀ g, g ∈ namesA (mergeA a b) ↔ g ∈ namesA a ∨ g ∈ namesA b
  | [], a, h => ⟨h, fun g => ⟨.inl, fun z => z.elim id fun y => by cases y⟩⟩
  | p :: b, a, h => by
    have h1 : (namesA (putA a p.1 p.2)).Nodup ∧ ∀ g, g ∈ namesA (putA a p.1 p.2) ↔ g ∈ namesA a ∨ g = p.1 := by
      rw [names_put]
      split
      · next hm => exact ⟨h, fun g => ⟨.inl, fun z => z.elim id fun y => y ▸ hm⟩⟩
      · next hm => exact ⟨List.nodup_append.mpr ⟨h, by simp, fun x hx y hy => by rw [List.mem_singleton.mp hy]; exact fun e => hm (e ▸ hx)⟩, fun g => by rw [List.mem_append, List.mem_singleton]⟩
    obtain ⟨h2, h3⟩ := names_merge b (putA a p.1 p.2) h1.1
    refine ⟨h2, fun g => (h3 g).trans ?_⟩
    rw [h1.2]
    show _ ↔ g ∈ namesA a ∨ g ∈ p.1 :: namesA b
    rw [List.mem_cons, or_assoc]
def goodsW (t m : Am) : List Str := srt (namesA (mergeA (mergeA [] (keptA t)) (keptA m)))
theorem len_putA (am : Am) (k : Str) (v : Int) : (putA am k v).length ≤ am.length + 1 := by
  unfold putA
  split <;> simp
theorem len_mergeA : ∀ (b a : Am), (mergeA a b).length ≤ a.length + b.length
  | [], a => Nat.le_refl _
  | p :: b, a => by
    have := len_mergeA b (putA a p.1 p.2)
    have := len_putA a p.1 p.2
    show (mergeA (putA a p.1 p.2) b).length ≤ _
    rw [List.length_cons]
    omega
theorem len_kept (am : Am) : (keptA am).length ≤ am.length := by
  unfold keptA keptL
  rw [List.length_map]
  refine Nat.le_trans (List.length_filter_le _ _) ?_
  rw [(srt_perm _).length_eq]
  unfold namesA
  rw [List.length_map]
  exact Nat.le_refl _
def eqAm (a b : Am) : Bool := eqD (ksA a) (ksA b)
def eqW (t : Am) (h : Int) (m : Am) (t2 : Am) (h2 : Int) (m2 : Am) : Bool := decide (h = h2) && (eqAm (keptA t) (keptA t2) && eqAm (keptA m) (keptA m2))
abbrev sp : Str := Str.ofString " "
def txtA (am : Am) : Str := if am = [] then Str.ofString "-" else Txt.join sp (am.map fun p => p.1 ++ (sp ++ numT (valA am p.1)))
abbrev bar : Str := Str.ofString " | "
def strW (t : Am) (h : Int) (m : Am) : Str := txtA (keptA t) ++ (bar ++ (numT h ++ (bar ++ txtA (keptA m))))
structure TxtOk (am : Am) : Prop where
  len : am.length ≤ 8
  nm : ∀ p ∈ am, p.1.length ≤ 640
  sz : ∀ g, (valA am g).natAbs.log2 < 1920
def pTextOf : Pre := fun Rs w o w' => ∃ am, TxtOk am ∧ Rs = [rDct (fsA am)] ∧ w = [] ∧ w' = [] ∧ o = .ok (rStr (txtA am))
section
variable (W : Addr)
def pTaken : Pre := fun Rs w o w' => ∃ t h m g, Rs = [rWay W t h m, rStr g] ∧ w = [] ∧ w' = [] ∧ o = .ok (rInt (valA (keptA t) g))
def pMade : Pre := fun Rs w o w' => ∃ t h m g, Rs = [rWay W t h m, rStr g] ∧ w = [] ∧ w' = [] ∧ o = .ok (rInt (valA (keptA m) g))
def pGoods : PreN := fun Rs w O w' => ∃ t h m, t.length + m.length < 60 ∧ Rs = [rWay W t h m] ∧ w = [] ∧ w' = [] ∧ O = oL ((goodsW t m).map rStr)
def pPlain : Pre := fun Rs w o w' => ∃ t h m, Rs = [rWay W t h m] ∧ w = [] ∧ w' = [] ∧ o = .ok (rBool (decide ((keptA m).length = 1)))
def pWEq : Pre := fun Rs w o w' => w = [] ∧ w' = [] ∧ ∃ t h m, ((∃ t2 h2 m2, Rs = [rWay W t h m, rWay W t2 h2 m2] ∧ o = .ok (rBool (eqW t h m t2 h2 m2))) ∨ (∃ z, Rs = [rWay W t h m, rStr z] ∧ o = .ok (rBool false)) ∨ (∃ Ss, Rs = [rWay W t h m, rLst Ss] ∧ o = .ok (rBool false)))
def pWStr : Pre := fun Rs w o w' => ∃ t h m, TxtOk (keptA t) ∧ TxtOk (keptA m) ∧ h.natAbs.log2 < 1920 ∧ Rs = [rWay W t h m] ∧ w = [] ∧ w' = [] ∧ o = .ok (rStr (strW t h m))
end
section
variable {P : Program} {w : World} {K : PySem.W.Frag} {mg : Str → Option Value} {base : Heap} {W N B f : Addr} {fd : FuncData}
theorem kf_taken (Fn : Fun K "taken" "Way.taken" s_Way_taken f fd) (X : WayX K mg W) : FnOk P w K mg base (L2.CX P w) 2 f fd P_Way_taken (spM (pTaken W)) := by
  refine fn_ok Fn c_Way_taken (fun _ _ _ _ ⟨_, _, _, _, h, _⟩ => by rw [h]; rfl) ?_
  rintro cdv A outer s H E ⟨_, G0, H0, M, _, tk⟩ hr rfl Rs ω o ω' ⟨t, h, m, g, rfl, rfl, rfl, rfl⟩
  have cl := X.cx.cls
  have ni := X.ni
  exact hb_ret (er_eq (er_dget2 (k := .inr g) (by walk_at "er") (by walk_at "er") (by walk_at "er") isd_frz isd_frz hr) valR_get) ⟨_, [], rfl, fun _ _ h => h, rfl⟩
theorem kf_made (Fn : Fun K "made" "Way.made" s_Way_made f fd) (X : WayX K mg W) : FnOk P w K mg base (L2.CX P w) 2 f fd P_Way_made (spM (pMade W)) := by
  refine fn_ok Fn c_Way_made (fun _ _ _ _ ⟨_, _, _, _, h, _⟩ => by rw [h]; rfl) ?_
  rintro cdv A outer s H E ⟨_, G0, H0, M, _, tk⟩ hr rfl Rs ω o ω' ⟨t, h, m, g, rfl, rfl, rfl, rfl⟩
  have cl := X.cx.cls
  have no := X.no
  exact hb_ret (er_eq (er_dget2 (k := .inr g) (by walk_at "er") (by walk_at "er") (by walk_at "er") isd_frz isd_frz hr) valR_get) ⟨_, [], rfl, fun _ _ h => h, rfl⟩
theorem kf_plain (Fn : Fun K "is_plain" "Way.is_plain" s_Way_is_plain f fd) (X : WayX K mg W) (len : mg "len" = none) : FnOk P w K mg base (L2.CX P w) 1 f fd P_Way_is_plain (spM (pPlain W)) := by
  refine fn_ok Fn c_Way_is_plain (fun _ _ _ _ ⟨_, _, _, h, _⟩ => by rw [h]; rfl) ?_
  rintro cdv A outer s H E ⟨_, G0, H0, M, _, tk⟩ hr rfl Rs ω o ω' ⟨t, h, m, rfl, rfl, rfl, rfl⟩
  have cl := X.cx.cls
  have no := X.no
  refine hb_ret (by walk_at "er") ⟨_, [], rfl, fun v G h => ?_, rfl⟩
  rw [show v = V.bl _ from h]
  show V.bl _ = V.bl _
  congr 1
  unfold fsA
  rw [List.length_map]
  by_cases z : (keptA m).length = 1
  · rw [decide_eq_true z, z]; rfl
  · rw [decide_eq_false z]; exact decide_eq_false fun y => z (by omega)
theorem kf_goods (Fn : Fun K "goods" "Way.goods" s_Way_goods f fd) (X : WayX K mg W) (ls : mg "list" = none) (st : mg "sorted" = none) : FnOk P w K mg base (L2.CX P w) 1 f fd P_Way_goods (spN (pGoods W)) := by
  refine fn_okN Fn c_Way_goods (fun _ _ _ _ ⟨_, _, _, _, h, _⟩ => by rw [h]; rfl) ?_
  rintro cdv A outer s H E ⟨_, G0, H0, M, _, tk⟩ hr rfl Rs ω o ω' ⟨t, h, m, hz, rfl, rfl, rfl, rfl⟩
  have cl := X.cx.cls
  have ni := X.ni
  have no := X.no
  have l1 := len_kept t
  have l2 := len_kept m
  have f1 : (fsA (keptA t)).length = (keptA t).length := List.length_map _
  have f2 : (fsA (keptA m)).length = (keptA m).length := List.length_map _
  have lm : (mergeA (mergeA [] (keptA t)) (keptA m)).length < 64 := by
    have h1 := len_mergeA (keptA m) (mergeA [] (keptA t))
    have h2 := len_mergeA (keptA t) []
    rw [List.length_nil] at h2
    omega
  have em : mergeR (mergeR [] (fsA (keptA t))) (fsA (keptA m)) = fsA (mergeA (mergeA [] (keptA t)) (keptA m)) := by
    rw [← merge_A, ← merge_A]; rfl
  refine hb_retO (en_bA (ar_cons (er_eq (S := rLst ((namesA (mergeA (mergeA [] (keptA t)) (keptA m))).map rStr)) (er_tA (ar_cons (er_eq (S := rDct (fsA (mergeA (mergeA [] (keptA t)) (keptA m)))) (er_frz (en_mrg (fun d => by walk_at "er") din_frz (fun d => by walk_at "er") din_frz (by omega) (by omega))) (congrArg rDct em)) ar_nil) ls bt_list (cop_listD rfl isd_frz)) (congrArg rLst (kRs_A _))) ar_nil) st bt_sorted (copN_sortedS ?_)) fun q hM => ⟨q, [], fun _ _ h => h, List.not_mem_nil, rfl⟩
  unfold namesA
  rw [List.length_map]
  exact lm
end
end W1
set_option maxRecDepth 100000
set_option maxHeartbeats 2000000
set_option exponentiation.threshold 20000
namespace W1
open PySem PySem.Spec PyProof.Rows L2 NdefX TL NumText
local macro_rules | `(tactic| walk_at "side") => `(tactic| first | assumption | rfl | decide | omega | (simp only [List.length_map, List.length_cons, List.length_nil, List.length_append, List.length_range, decide_eq_true_eq, decide_eq_false_iff_not, Bool.not_eq_true', Bool.and_eq_true, Bool.or_eq_false_iff] at *; omega))
local macro_rules | `(tactic| walk_at "room") => `(tactic| first | assumption | exact Room.mono (by assumption) (by decide))
local macro_rules | `(tactic| walk_at "pre") => `(tactic| first | assumption | exact ⟨_, by walk_at "side", rfl, rfl, rfl, rfl⟩)
local macro_rules | `(tactic| walk_at "nm") => `(tactic| first
  | exact er_v 0 (by exact rfl) (by exact rfl) | exact er_v 1 (by exact rfl) (by exact rfl) | exact er_v 2 (by exact rfl) (by exact rfl) | exact er_v 3 (by exact rfl) (by exact rfl) | exact er_v 4 (by exact rfl) (by exact rfl) | exact er_v 5 (by exact rfl) (by exact rfl) | exact er_v 6 (by exact rfl) (by exact rfl) | exact er_v 7 (by exact rfl) (by exact rfl)
  | exact er_v 8 (by exact rfl) (by exact rfl) | exact er_v 9 (by exact rfl) (by exact rfl) | exact er_v 10 (by exact rfl) (by exact rfl) | exact er_v 11 (by exact rfl) (by exact rfl) | exact er_v 12 (by exact rfl) (by exact rfl) | exact er_v 13 (by exact rfl) (by exact rfl) | exact er_v 14 (by exact rfl) (by exact rfl) | exact er_v 15 (by exact rfl) (by exact rfl)
  | exact er_gS (by assumption) | exact er_gI (by assumption) | exact er_gC (by assumption))
local macro_rules | `(tactic| walk_at "bt") => `(tactic| with_reducible first | exact bt_len | exact bt_int | exact bt_str | exact bt_list | exact bt_sorted | exact bt_all | exact bt_isi | exact bt_abs | exact bt_bool | exact bt_tup)
local macro_rules | `(tactic| walk_at "bop") => `(tactic| first
  | with_reducible exact bop_add | with_reducible exact bop_sub | with_reducible exact bop_lt | with_reducible exact bop_le | with_reducible exact bop_gt | with_reducible exact bop_ge | with_reducible exact bop_eqI | with_reducible exact bop_neI | with_reducible exact bop_eqS | with_reducible exact bop_neS | with_reducible exact bop_inC | with_reducible exact bop_niC2 | with_reducible exact bop_isN | with_reducible exact bop_notN
  | (with_reducible apply bop_mod); walk_at "side"
  | (with_reducible apply bop_mul); first | exact IntMulOk.of_right (by decide) | exact IntMulOk.of_left (by decide) | walk_at "side"
  | (with_reducible apply bop_fdiv); walk_at "side"
  | (with_reducible apply bop_pow); walk_at "side"
  | (with_reducible apply bop_addS); walk_at "side"
  | (with_reducible apply bop_cat); walk_at "side"
  | assumption)
local macro_rules | `(tactic| walk_at "cop") => `(tactic| first
  | with_reducible exact cop_lenL | with_reducible exact cop_lenT | with_reducible exact cop_int | with_reducible exact cop_abs | with_reducible exact cop_bool | with_reducible exact cop_intB | with_reducible exact cop_listL | with_reducible exact cop_listT | with_reducible exact cop_tupL
  | (with_reducible apply cop_lenStr); walk_at "side"
  | (with_reducible apply cop_strI); walk_at "side"
  | (with_reducible apply cop_intS) <;> walk_at "side"
  | (with_reducible apply cop_sortedS); walk_at "side"
  | (with_reducible apply cop_isIns); assumption
  | (with_reducible apply cop_all); rfl
  | exact cop_lenS
  | (with_reducible apply cop_lenD); walk_at "isd"
  | (with_reducible apply cop_listD); first | rfl | walk_at "isd"
  | assumption)
local macro_rules | `(tactic| walk_at "isd") => `(tactic| first | assumption | exact isd_frz | exact isd_own List.mem_cons_self | exact isd_own (List.mem_cons_of_mem _ List.mem_cons_self) | exact isd_own (by simp) | exact isd_ownF (by simp))
local macro_rules | `(tactic| walk_at "iop") => `(tactic| first | (with_reducible apply iop_L (n := 0)) <;> exact rfl | (with_reducible apply iop_L (n := 1)) <;> exact rfl | (with_reducible apply iop_L (n := 2)) <;> exact rfl | (with_reducible apply iop_L (n := 3)) <;> exact rfl | (with_reducible apply iop_T (n := 0)) <;> exact rfl | (with_reducible apply iop_T (n := 1)) <;> exact rfl | (with_reducible apply iop_T (n := 2)) <;> exact rfl | assumption)
local macro_rules | `(tactic| walk_at "ar") => `(tactic| first | (with_reducible show AR _ _ _ [] _ _); exact ar_nil | exact ar_cons (by walk_at "er") (by walk_at "ar"))
local macro_rules | `(tactic| walk_at "call") => `(tactic| first
  | exact er_fA (by assumption) (by walk_at "room") (by walk_at "ar") (by walk_at "pre")
  | exact er_bA (by walk_at "ar") (by assumption) (by walk_at "bt") (by walk_at "cop")
  | exact er_tA (by walk_at "ar") (by assumption) (by walk_at "bt") (by walk_at "cop")
  | exact er_f1 0 (by assumption) (by walk_at "room") (by walk_at "ar") (by exact rfl) (by walk_at "pre")
  | exact er_f1 1 (by assumption) (by walk_at "room") (by walk_at "ar") (by exact rfl) (by walk_at "pre")
  | exact er_f1 2 (by assumption) (by walk_at "room") (by walk_at "ar") (by exact rfl) (by walk_at "pre"))
local macro_rules | `(tactic| walk_at "meth") => `(tactic| first
  | exact er_m (by assumption) (by assumption) (by walk_at "room") (by walk_at "er") (by walk_at "ar") (by walk_at "pre")
  | exact er_m0 (by assumption) (by assumption) (by walk_at "room") (by walk_at "er") (by walk_at "pre"))
local macro_rules | `(tactic| walk_at "er") => `(tactic| first
  | (with_reducible show ER _ _ _ (Expr.Name _ _) _ _); walk_at "nm"
  | (with_reducible show ER _ _ _ (Expr.Constant (Const.int _) _ _) _ _); exact er_int
  | (with_reducible show ER _ _ _ (Expr.Constant (Const.str _) _ _) _ _); exact er_str
  | (with_reducible show ER _ _ _ (Expr.Constant (Const.bool _) _ _) _ _); exact er_bl
  | (with_reducible show ER _ _ _ (Expr.Constant _ _ _) _ _); exact er_non
  | (with_reducible show ER _ _ _ (Expr.BinOp _ _ _ _) _ _); exact er_bin (by walk_at "er") (by walk_at "er") (by walk_at "bop")
  | (with_reducible show ER _ _ _ (Expr.Compare _ _ _ _) _ _); exact er_cmp (by walk_at "er") (by walk_at "er") (by walk_at "bop")
  | (with_reducible show ER _ _ _ (Expr.Call (Expr.Name _ _) _ _ _) _ _); walk_at "call"
  | (with_reducible show ER _ _ _ (Expr.Call (Expr.Attribute _ _ _) _ _ _) _ _); walk_at "meth"
  | (with_reducible show ER _ _ _ (Expr.Attribute _ _ _) _ _); walk_at "attr"
  | (with_reducible show ER _ _ _ (Expr.Subscript _ (Expr.Slice _ _ _ _) _) _ _); walk_at "slice"
  | (with_reducible show ER _ _ _ (Expr.Subscript _ _ _) _ _); walk_at "ix"
  | (with_reducible show ER _ _ _ (Expr.BoolOp _ [_] _) _ _); exact er_one (by walk_at "er")
  | (with_reducible show ER _ _ _ (Expr.BoolOp BoolOp.And _ _) _ _); exact er_and (by walk_at "er") (fun _ => by walk_at "er")
  | (with_reducible show ER _ _ _ (Expr.BoolOp BoolOp.Or _ _) _ _); exact er_or (by walk_at "er") (fun _ => by walk_at "er")
  | (with_reducible show ER _ _ _ (Expr.UnaryOp UnaryOp.Not _ _) _ _); exact er_not (by walk_at "er")
  | (with_reducible show ER _ _ _ (Expr.UnaryOp _ _ _) _ _); exact er_un (by walk_at "er") (by walk_at "uop")
  | (with_reducible show ER _ _ _ (Expr.List _ _) _ _); exact er_lst (by walk_at "ar") (by exact Nat.le_of_ble_eq_true rfl)
  | (with_reducible show ER _ _ _ (Expr.Tuple _ _ _) _ _); exact er_tup (by walk_at "ar") (by exact Nat.le_of_ble_eq_true rfl)
  | (with_reducible show ER _ _ _ (Expr.Dict [] [] _) _ _); exact er_dict0
  | assumption)
local macro_rules | `(tactic| walk_at "uop") => `(tactic| exact uop_neg)
local macro_rules | `(tactic| walk_at "attr") => `(tactic| exact er_fld (by walk_at "er") (by assumption) (by assumption) (by exact rfl))
local macro_rules | `(tactic| walk_at "ix") => `(tactic| first | exact er_ix (by walk_at "er") (by walk_at "er") (by walk_at "iop") | exact er_ixO (by walk_at "er") (by walk_at "er") (by simp) (by exact rfl) (by exact rfl))
local macro_rules | `(tactic| walk_at "slice") => `(tactic| exact er_slice (by walk_at "er") (by walk_at "pr") (by walk_at "pr") (by walk_at "sop"))
local macro_rules | `(tactic| walk_at "pr") => `(tactic| first | with_reducible exact pr_none | exact pr_some (by walk_at "er"))
local macro_rules | `(tactic| walk_at "sop") => `(tactic| first | (with_reducible apply sop_str); walk_at "side" | with_reducible exact sop_L | exact sop_S)
local macro_rules | `(tactic| walk_at "pw") => `(tactic| first
  | (with_reducible apply tr_and1); walk_at "tr"
  | (with_reducible apply tr_or1); walk_at "tr"
  | (with_reducible show PWR _ _ _ (Expr.BoolOp BoolOp.And _ _) _ _); exact tr_and (by walk_at "tr") (fun _ => by walk_at "pw")
  | (with_reducible show PWR _ _ _ (Expr.BoolOp BoolOp.Or _ _) _ _); exact tr_or (by walk_at "tr") (fun _ => by walk_at "pw"))
local macro_rules | `(tactic| walk_at "tr") => `(tactic| first
  | (with_reducible show TR _ _ _ (Expr.BoolOp _ _ _) _ _); exact PWR.tr (by walk_at "pw")
  | (with_reducible apply tr_not); walk_at "tr"
  | (with_reducible show TR _ _ _ (Expr.Compare _ _ _ _) _ _); exact tr_cmp (by walk_at "er") (by walk_at "er") (by walk_at "bop")
  | exact tr_val (by walk_at "er") | assumption)
local macro_rules | `(tactic| walk_at "set") => `(tactic| first
  | refine hb_setA 0 (by exact rfl) (by walk_at "er") ?_ | refine hb_setA 1 (by exact rfl) (by walk_at "er") ?_ | refine hb_setA 2 (by exact rfl) (by walk_at "er") ?_ | refine hb_setA 3 (by exact rfl) (by walk_at "er") ?_ | refine hb_setA 4 (by exact rfl) (by walk_at "er") ?_ | refine hb_setA 5 (by exact rfl) (by walk_at "er") ?_
  | refine hb_setA 6 (by exact rfl) (by walk_at "er") ?_ | refine hb_setA 7 (by exact rfl) (by walk_at "er") ?_ | refine hb_setA 8 (by exact rfl) (by walk_at "er") ?_ | refine hb_setA 9 (by exact rfl) (by walk_at "er") ?_ | refine hb_setA 10 (by exact rfl) (by walk_at "er") ?_ | refine hb_setA 11 (by exact rfl) (by walk_at "er") ?_)
theorem bt_isi : bootBuiltins "isinstance" = some (.builtin "isinstance") := by decide +kernel
theorem bt_str : bootBuiltins "str" = some (.type "str") := by decide +kernel
theorem bt_int : bootBuiltins "int" = some (.type "int") := by decide +kernel
theorem bt_dict : bootBuiltins "dict" = some (.type "dict") := by decide +kernel
theorem bt_set : bootBuiltins "set" = some (.type "set") := by decide +kernel
section
variable {F : Fx} {ρ : Ty} {w w1 : Ow} {A B : Rl} {a b : Am} {n : Nat} {e tg it : Expr}
theorem bop_eqA (hr : Room n F.X.A) : Bop F w (compareOp .Eq) (rDct (fsA a)) (rDct (fsA b)) (rBool (eqAm a b)) := bop_eqDV (by rw [← fsA_ks]; exact isd_frz) (by rw [← fsA_ks]; exact isd_frz) (flat_ks _) (flat_ks _) hr
theorem eqAm_nil : eqAm a [] = decide (a = []) := by
  cases a <;> rfl
theorem it_keysA (he : ER F ρ w it (rDct (fsA a)) w1) : IT F ρ w tg it ((namesA a).map rStr) w1 := by
  rw [← kRs_A]
  exact it_keys he
end
theorem str_len_num {i : Int} (h : i.natAbs.log2 < 1920) : (numT i).length ≤ 1921 := int_text_len_1921 h
theorem sp_len : sp.length = 1 := by decide +kernel
theorem bar_len : bar.length = 3 := by decide +kernel
theorem txt_len {am : Am} (h : TxtOk am) : (txtA am).length ≤ 30000 := by
  unfold txtA
  split
  · decide +kernel
  · have one : ∀ z ∈ am.map fun p => p.1 ++ (sp ++ numT (valA am p.1)), z.length ≤ 2600 := fun z hz => by
      obtain ⟨p, hp, rfl⟩ := List.mem_map.mp hz
      have h1 := h.nm p hp
      have h2 := str_len_num (h.sz p.1)
      rw [strlen_app, strlen_app, sp_len]
      omega
    have len : (am.map fun p => p.1 ++ (sp ++ numT (valA am p.1))).length ≤ 8 := by rw [List.length_map]; exact h.len
    generalize (am.map fun p => p.1 ++ (sp ++ numT (valA am p.1))) = zs at one len
    have go : ∀ zs : List Str, (∀ z ∈ zs, z.length ≤ 2600) → (Txt.join sp zs).length ≤ zs.length * 2601 := by
      intro zs
      induction zs with
      | nil => intro _; decide +kernel
      | cons a l ih =>
        intro h
        have h1 := h a List.mem_cons_self
        have h2 := ih fun z hz => h z (List.mem_cons_of_mem _ hz)
        cases l with
        | nil =>
          show a.length ≤ _
          rw [List.length_cons]
          omega
        | cons b r =>
          have e : (Txt.join sp (a :: b :: r)).length = a.length + 1 + (Txt.join sp (b :: r)).length := by
            rw [join_eq, join_eq, len_tl, tl_join, len_tl (Str.join sp (b :: r)), tl_join, len_tl a]
            show (tl a ++ (tl sp ++ joinL (tl sp) (tl b :: r.map tl))).length = _
            have e1 : (tl sp).length = 1 := by rw [← len_tl]; exact sp_len
            rw [List.length_append, List.length_append, e1]
            show _ = _ + (joinL (tl sp) (tl b :: r.map tl)).length
            omega
          rw [e, List.length_cons (a := a)]
          omega
    have := go zs one
    omega
section
variable {P : Program} {w : World} {K : PySem.W.Frag} {mg : Str → Option Value} {base : Heap} {W N B f : Addr} {fd : FuncData}
theorem kf_weq (Fn : Fun K "__eq__" "Way.__eq__" s_Way___eq__ f fd) (X : WayX K mg W) (ii : mg "isinstance" = none) (ks : PySem.W.kitOne K (.type "str") (.ref W) = some false) (kl : PySem.W.kitOne K (.type "list") (.ref W) = some false) : FnOk P w K mg base (L2.CX P w) 2 f fd P_Way___eq__ (spM (pWEq W)) := by
  refine fn_ok Fn c_Way___eq__ (fun _ _ _ _ ⟨_, _, _, _, _, h⟩ => by rcases h with ⟨_, _, _, h, _⟩ | ⟨_, h, _⟩ | ⟨_, h, _⟩ <;> rw [h] <;> rfl) ?_
  rintro cdv A outer s H E ⟨_, G0, H0, M, _, tk⟩ hr rfl Rs ω o ω' ⟨rfl, rfl, t, h, m, ho⟩
  have cl := X.cx.cls
  have cx := X.cx
  have ni := X.ni
  have nh := X.nh
  have no := X.no
  have gW := X.gW
  rcases ho with ⟨t2, h2, m2, rfl, rfl⟩ | ⟨z, rfl, rfl⟩ | ⟨Ss, rfl, rfl⟩
  · refine hb_if (b := !decide (h = h2)) (tr_to (PWR.tr (tr_or (k := false) (m := !decide (h = h2)) (tr_to (tr_not (k := true) (tr_val (er_bA (by walk_at "ar") ii bt_isi (cop_isIns cx)))) rfl) fun _ => tr_or1 (by walk_at "tr"))) (Bool.false_or _)) (fun hb => ?_) (fun hb => hb_nil ?_)
    · refine hb_ret (by walk_at "er") ⟨_, [], rfl, fun v G z => ?_, rfl⟩
      rw [show v = V.bl false from z]
      have : decide (h = h2) = false := by simpa using hb
      show V.bl false = V.bl (eqW t h m t2 h2 m2)
      unfold eqW
      rw [this, Bool.false_and]
    · refine hb_ret (er_and (er_cmp (by walk_at "er") (by walk_at "er") (bop_eqA hr)) fun _ => er_one (er_cmp (by walk_at "er") (by walk_at "er") (bop_eqA hr))) ⟨_, [], rfl, fun v G z => ?_, rfl⟩
      rw [show v = V.bl _ from z]
      have : decide (h = h2) = true := by simpa using hb
      show V.bl _ = V.bl (eqW t h m t2 h2 m2)
      unfold eqW
      rw [this, Bool.true_and]
  · refine hb_if (b := true) (tr_to (PWR.tr (tr_or (k := true) (m := true) (tr_to (tr_not (k := false) (tr_val (er_bA (by walk_at "ar") ii bt_isi (cop_isNot (.inr (.inl ⟨z, rfl, rfl⟩)) ks)))) rfl) fun y => Bool.noConfusion y)) rfl) (fun _ => ?_) (fun y => Bool.noConfusion y)
    exact hb_ret (by walk_at "er") ⟨_, [], rfl, fun _ _ h => h, rfl⟩
  · refine hb_if (b := true) (tr_to (PWR.tr (tr_or (k := true) (m := true) (tr_to (tr_not (k := false) (tr_val (er_bA (by walk_at "ar") ii bt_isi (cop_isLst kl)))) rfl) fun y => Bool.noConfusion y)) rfl) (fun _ => ?_) (fun y => Bool.noConfusion y)
    exact hb_ret (by walk_at "er") ⟨_, [], rfl, fun _ _ h => h, rfl⟩
theorem kf_text_of (Fn : Fun K "text_of" "text_of" s_text_of f fd) : FnOk P w K mg base (L2.CX P w) 2 f fd P_text_of (spM pTextOf) := by
  refine fn_ok Fn c_text_of (fun _ _ _ _ ⟨_, _, h, _⟩ => by rw [h]; rfl) ?_
  rintro cdv A outer s H E ⟨_, G0, H0, M, _, tk⟩ hr rfl Rs ω o ω' ⟨am, ok, rfl, rfl, rfl, rfl⟩
  have nd := c_text_of.nd
  refine hb_if (b := decide (am = [])) (tr_cmp (by walk_at "er") (er_dict0) (by rw [← eqAm_nil]; exact bop_eqA (b := []) hr)) (fun hb => ?_) (fun hb => hb_nil ?_)
  · refine hb_ret (by walk_at "er") ⟨_, [], rfl, fun v G h => ?_, rfl⟩
    show (rStr (txtA am)).r v G
    unfold txtA
    rw [if_pos (of_decide_eq_true hb)]
    exact h
  · have ne := of_decide_eq_false hb
    have sz : ∀ g, (numT (valA am g)).length ≤ 1921 := fun g => str_len_num (ok.sz g)
    have gl : ∀ (i : Nat) g, (namesA am)[i]? = some g → g ∈ namesA am ∧ g.length ≤ 640 := fun i g h => by
      have hm := List.mem_of_getElem? h
      obtain ⟨p, hp, rfl⟩ := List.mem_map.mp hm
      exact ⟨hm, ok.nm p hp⟩
    have nl : (namesA am).length ≤ 8 := by unfold namesA; rw [List.length_map]; exact ok.len
    have em : (namesA am).map (fun g => rStr (g ++ (sp ++ (numT (valA am g) ++ Str.empty)))) = (am.map fun p => p.1 ++ (sp ++ numT (valA am p.1))).map rStr := by
      unfold namesA
      rw [List.map_map, List.map_map]
      apply List.map_congr_left
      intro p _
      show rStr (p.1 ++ (sp ++ (numT (valA am p.1) ++ Str.empty))) = rStr (p.1 ++ (sp ++ numT (valA am p.1)))
      rw [str_nil]
    have lc := txt_len ok
    refine hb_ret (er_bm PySem.F.plainAttrs_str PySem.F.slot_str_join PySem.F.type_str_join er_str (ar_cons (er_eq (S := rLst ((am.map fun p => p.1 ++ (sp ++ numT (valA am p.1))).map rStr)) (er_lc1 (xs := namesA am) (A := rStr) (B := fun g => rStr (g ++ (sp ++ (numT (valA am g) ++ Str.empty)))) 1 (by exact rfl) (fun _ _ _ _ _ => pg_name (i := 1) nd rfl (Or.inl rfl)) (blkOk_by (N := N_text_of) (sc := defScope s_text_of) (by decide +kernel)) (it_keysA (by walk_at "er")) (by omega)
      (fun i g hg s H0 cc cl fp d => er_joined (fr_str (er_fmtS (er_var 1 rfl) (by have := (gl i g hg).2; omega)) (fr_str er_str (fr_str (er_fmtI (er_dget (k := .inr g) (er_var 0 rfl) (er_var 1 rfl) isd_frz (valR_A (gl i g hg).1) hr) (ok.sz g)) fr_nil))) ?_)) (congrArg rLst em)) ar_nil) (mop_join ?_) ty_str) ⟨_, [], rfl, fun v G h => ?_, rfl⟩
    · have h1 := (gl i g hg).2
      have h2 := sz g
      rw [strlen_app, strlen_app, str_nil]
      have h3 := sp_len
      show g.length + (sp.length + (numT (valA am g)).length) ≤ _
      omega
    · rw [List.map_map, List.length_map]
      have one : ∀ l : Am, (∀ p ∈ l, p.1.length ≤ 640) → (l.map ((fun x => x.length) ∘ fun p => p.1 ++ (sp ++ numT (valA am p.1)))).sum ≤ l.length * 2600 := by
        intro l
        induction l with
        | nil => intro _; exact Nat.le_refl _
        | cons p r ih =>
          intro h
          have h1 := h p List.mem_cons_self
          have h2 := ih fun z hz => h z (List.mem_cons_of_mem _ hz)
          have h3 := sz p.1
          rw [List.map_cons, List.sum_cons, List.length_cons]
          show (p.1 ++ (sp ++ numT (valA am p.1))).length + _ ≤ _
          rw [strlen_app, strlen_app, sp_len]
          omega
      have := one am ok.nm
      have := ok.len
      have e : (Str.ofString " ").length = 1 := sp_len
      rw [e]
      omega
    · show (rStr (txtA am)).r v G
      unfold txtA
      rw [if_neg ne]
      exact h
theorem kf_wstr (Fn : Fun K "__str__" "Way.__str__" s_Way___str__ f fd) (X : WayX K mg W) (Tt : Kf1 P w K mg base "text_of" 2 pTextOf) : FnOk P w K mg base (L2.CX P w) 3 f fd P_Way___str__ (spM (pWStr W)) := by
  refine fn_ok Fn c_Way___str__ (fun _ _ _ _ ⟨_, _, _, _, _, _, h, _⟩ => by rw [h]; rfl) ?_
  rintro cdv A outer s H E ⟨_, G0, H0, M, _, tk⟩ hr rfl Rs ω o ω' ⟨t, h, m, k1, k2, hh, rfl, rfl, rfl, rfl⟩
  have cl := X.cx.cls
  have ni := X.ni
  have nh := X.nh
  have no := X.no
  have l1 := txt_len k1
  have l2 := txt_len k2
  have l3 := str_len_num hh
  have lb := bar_len
  refine hb_ret (er_joined (fr_str (er_fmtS (er_fA Tt hr (by walk_at "ar") ⟨keptA t, k1, rfl, rfl, rfl, rfl⟩) (by omega)) (fr_str er_str (fr_str (er_fmtI (by walk_at "er") hh) (fr_str er_str (fr_str (er_fmtS (er_fA Tt hr (by walk_at "ar") ⟨keptA m, k2, rfl, rfl, rfl, rfl⟩) (by omega)) fr_nil))))) ?_) ⟨_, [], rfl, fun v G z => ?_, rfl⟩
  · rw [strlen_app, strlen_app, strlen_app, strlen_app, str_nil]
    show _ + (bar.length + (_ + (bar.length + _))) ≤ _
    omega
  · rw [str_nil] at z
    exact z
end
end W1
set_option maxRecDepth 100000
set_option maxHeartbeats 2000000
set_option exponentiation.threshold 20000
namespace W1
open PySem PySem.Spec PyProof.Rows L2 ItX
/-! ### iteration by an own __iter__ that hands back the iterator of a tuple -/
/-- the iterator at it, of the tuple at t, not yet turned -/
def hoT (t it : Addr) : HO := .ext fun h => h.IsTupleIter it t 0
theorem hoT_ok {P : Program} {w : World} {H : Hp} {h : Heap} {t it : Addr} (e : h.IsTupleIter it t 0) : ObjOk P w H h it (hoT t it) :=
  ⟨e, let ⟨o, h1, _⟩ := e; ⟨o, h1⟩, fun _ _ q k => q.at k⟩
def rItT (K : PySem.W.Frag) (n : Nat) : List V → Hp → VK → Prop := fun xs H Q => ∃ t zs, xs = [V.ref t] ∧ SqT K H t zs ∧ ∀ it, H it = none → n ≤ it → Q (.ref it) (upd H it (hoT t it))
theorem cr_itT {X : Cx} : CallR X (.builtin "iter") (rItT X.K X.s_0.heap.objs.size) := callR_sem fun pins s σ H xs us Q I r h => by
  obtain ⟨t, zs, rfl, ht, q⟩ := h
  obtain ⟨u, rfl, ru⟩ := vals1 r
  cases ru
  obtain ⟨its, _, p, _⟩ := I.tuple ht
  refine Calls.call_function_entry (by decide +kernel) (by decide +kernel) PySem.W.kdk_entry_iter (PySem.W.kdk_args_iter _) ?_
  unfold Builtin.«iter»
  refine wpAny_bind (m := someArgs "iter" 1 2 _) (wpAny_of_eq (a := [Value.ref t]) (by first | rfl | kernel_rfl!) ?_)
  show wpAny _ _ (pyIter (.ref t) >>= _) _ _ _
  refine wpAny_bind (wpAny_pyIter_tuple (show s.heap.IsTuple t its.toArray from p) (wpAny_pure ⟨_, rfl, ?_⟩))
  have fresh : H s.heap.objs.size = none := I.hok.fresh (Nat.le_refl _)
  exact ⟨.ref s.heap.objs.size, _, I.laid (t' := s.toks) (fun b u e => Heap.get?_push_of_some _ e) (Nat.le_refl _) (hoT_ok ⟨_, Heap.get?_push_size _ rfl, rfl, rfl⟩), rfl, q _ fresh I.sz⟩
/-- a call at one state: what comes back may be said by means of that state -/
theorem run_at {P : Program} {w : World} {K : PySem.W.Frag} {mg : Str → Option Value} {base : Heap} {x qual : Str} {st : Stmt} {f : Addr} {fd : FuncData} {N ps : List Str} {k : Nat} {A : Around} {outer : List Env} {s : Shared} {H : Hp} {args : Args} {us : List Value} {vs : List V} {Q : VK} {E : XK}
    (Fn : Fun K x qual st f fd) (S : FnScope N ps (defScope st)) (hr : Room (k + 1) A) (e0 : Env0 P w K mg base A outer s H) (hb : BindsTo s fd args (ps.zip us)) (r : Vals vs us) (hl : vs.length = ps.length)
    (body : ∀ cdv, ∃ t, PSs (cxOf (L2.CX P w) P w K mg base N qual (defScope st) f cdv A outer s H E) (defBody st) t ∧ t { nx := fun _ H' => Q .non H', rt := Q } (L2.start N vs) H) : codeAny (model P w) A (.call (.ref f) args) (CR (L2.CX P w) outer P w H s Q E) s := by
  obtain ⟨oc, od, kV, doc, pm, an, cdv, ct, osl, rfl, lk, hcd⟩ := Fn.ex
  obtain ⟨t, ht, hq⟩ := body cdv
  have here : ∀ b o, base.get? b = some o → s.heap.get? b = some o := fun b o e => (e0.bs b o e).1
  have kIn := e0.mod.kin.keeps here
  refine codeAny_call_function hr.depth (kIn _ _ lk) rfl S.co S.gen rfl (PySem.W.codeRec_of kIn hcd) (hb _ _ _ _ (wpAny_newFunctionEnv_cells S.kind (fun y hy => (S.par y.1 (List.of_mem_zip hy).1).imp id fun q => ⟨q, PySem.W.cellsFrom_some _ _ _ (.inl q)⟩) ?_))
  rintro env rfl s1 x1
  refine ⟨(e0.mod.nolimit.keeps here).keeps x1.toInCall.keep, codeAny_func (wpAny_mono (ht.run [] s1 _ _ _ (inv_start S hr.hd e0 hl r x1) hq) (fun fl s' hs => ?_) fun _ _ z => z)⟩
  match fl, hs with
  | .ret u, ⟨v, _, H', J, rv, q⟩ => exact ⟨v, H', J.os, J.bare, J.base, J.hok, rv, q⟩
  | .next, ⟨_, H', J, q⟩ => exact ⟨.non, H', J.os, J.bare, J.base, J.hok, rfl, q⟩
  | .brk, ⟨_, _, _, q⟩ => exact (show False from q).elim
  | .cont, ⟨_, _, _, q⟩ => exact (show False from q).elim
/-- what the field's tuple is -/
def FldT (K : PySem.W.Frag) (C : Addr) (fld : Str) (H : Hp) (a t : Addr) (xs : List V) : Prop := ∃ dx fs, H a = some (.ins C dx fs) ∧ fs.lookup fld = some (.ref t) ∧ SqT K H t xs
/-- __iter__ hands back an iterator of the field's tuple, one that has just come -/
def IterOk (P : Program) (w : World) (K : PySem.W.Frag) (mg : Str → Option Value) (base : Heap) (C g : Addr) (fld : Str) (k : Nat) : Prop :=
  ∀ (A : Around) (outer : List Env) (s : Shared) (H : Hp) (a t : Addr) (xs : List V), Room k A → Env0 P w K mg base A outer s H → FldT K C fld H a t xs →
    codeAny (model P w) A (.call (.ref g) ⟨[.ref a], []⟩) (CR (L2.CX P w) outer P w H s (fun v H' => ∃ it, v = .ref it ∧ H it = none ∧ s.heap.objs.size ≤ it ∧ H' = upd H it (hoT t it)) fun _ _ _ => False) s
structure ItM (K : PySem.W.Frag) (C g : Addr) : Prop where
  it : PySem.W.findIn K (.ref C) "__iter__" = some (some (.ref g))
  fn : PySem.W.isFn K (.ref g) = true
def iOwn (K : PySem.W.Frag) (C : Addr) (fld : Str) (te : TE) : TI := fun σ H R => te σ H fun x H1 => ∃ a t xs, x = V.ref a ∧ FldT K C fld H1 a t xs ∧ R (Itt K t) H1
section
variable {X : Cx} {C g : Addr} {fld : Str} {k : Nat} {fd : FuncData} {ps : List Str}
theorem pi_own {tg e : Expr} {te : TE} (he : PE X e te) (m : ItM X.K C g) (Fn : IterOk X.prog X.w X.K X.mg X.base C g fld k) (hr : Room k X.A) : PI X tg e (iOwn X.K C fld te) := by
  refine ⟨fun pins s σ H R I h => thn (he.run pins s σ H _ I h) fun v s1 ⟨x, H1, I1, r1, q1⟩ => ?_⟩
  obtain ⟨a, t, xs, rfl, ft, q⟩ := q1
  cases r1
  obtain ⟨dx, fs, ha, _, _⟩ := id ft
  obtain ⟨od, J⟩ := inst_at I1 ha
  obtain ⟨mf, hF⟩ := I1.fr
  refine PySem.W.owit_iter hF I1.ok.mod.kin J m.it m.fn (wpAny_call (codeAny_mono (Fn X.A X.stack s1 H1 a t xs hr I1.env0 ft) fun r s2 hq => ?_))
  match r, hq with
  | .error e, ⟨_, _, _, _, _, _, _, _, _, _, _, _, z⟩ => exact z.elim
  | .ok (.ret u), hq =>
    obtain ⟨v, H', I2, rv, it, rfl, hn, young, rfl⟩ := I1.after hq
    cases rv
    have there : s2.heap.IsTupleIter it t 0 := (I2.hok it _ upd_same).1
    have fp := inv_fp I2 upd_same (Nat.le_trans I1.sz young)
    have I3 := inv_drop I2 upd_same
    rw [dropH_upd hn] at fp I3
    unfold PySem.W.OwitIt
    refine wpAny_specialOf (name := Str.ofString "__next__") there.typeIs F.slot_tuple_iterator_next.lookup ?_
    exact ⟨it, [it], _, _, H1, rfl, I3, turn_tuple t it, there, fun b hb => by rw [List.mem_singleton.mp hb]; exact fp, q⟩
end
section
variable {F : Fx} {ρ : Ty} {ω w1 : Ow} {tg it : Expr} {C g : Addr} {fld : Str} {k : Nat} {fs : List (Str × Rl)} {Rs : List Rl}
theorem it_own (he : ER F ρ ω it (rIns C fs) w1) (hf : fs.lookup fld = some (rTup Rs)) (m : ItM F.X.K C g) (Fn : IterOk F.X.prog F.X.w F.X.K F.X.mg F.X.base C g fld k) (hr : Room k F.X.A) : IT F ρ ω tg it Rs w1 := ⟨_, pi_own pe_w m Fn hr, fun σ G H at_ sl R q => he σ G H at_ sl _ fun v G2 H2 s a r => by
  obtain ⟨p, dx, vs, rfl, h1, h2⟩ := r
  obtain ⟨u, h3, t, us, rfl, h4, h5⟩ := h2.look hf
  refine ⟨p, t, us, rfl, ⟨dx, vs, a.gh _ _ h1, h3, SqT.of (a.gh _ _ h4)⟩, q _ G2 H2 s a ?_⟩
  have n := h5.len
  refine ⟨fun i G' H' s1 s2 hi => ⟨us, us[i]'(by omega), SqT.of (s2 _ _ (s1 _ _ h4)), List.getElem?_eq_getElem _⟩, fun G' H' s1 s2 => ⟨us, SqT.of (s2 _ _ (s1 _ _ h4)), by omega⟩, fun i R G' H' x H'' s1 s2 hR y => ?_⟩
  obtain ⟨rfl, y⟩ := y
  obtain ⟨v, hv, rv⟩ := h5.get hR
  have e := y us (SqT.of (s2 _ _ (s1 _ _ h4)))
  rw [hv] at e
  cases e
  exact ⟨G', Step.refl s2, R.mo _ _ _ s1 rv⟩⟩
end
end W1
set_option maxRecDepth 100000
set_option maxHeartbeats 2000000
set_option exponentiation.threshold 20000
namespace W1
open PySem PySem.Spec PyProof.Rows L2
/-! ### enumerate of a tuple -/
abbrev enumO (it : Addr) : Obj := { cls := .type "enumerate", data := .fields #[.none, .bool false, .ref it, rawInt 0, .none, .none] }
set_option maxHeartbeats 4000000 in
theorem enum_new {v : Value} {o : Obj} {Hs : Heap → Prop} (B : Begins v o Hs) : Meets (Builtin.«enumerate.__new__» ⟨[.type "enumerate", v], []⟩) (fun _ R s => Hs s.heap ∧ R (.ok (.ret (.ref (s.heap.push o).objs.size))) { s with heap := (s.heap.push o).push (enumO s.heap.objs.size) }) :=
  .of_wp fun prog w A R s ⟨h1, h⟩ => by
    obtain ⟨hp, g, d, tk, os⟩ := s
    have kind := sub_enumerate
    have first : ∀ {A' : Around} {E : Value → Shared → Prop} {Q : Value → Shared → Prop}, Q (.ref hp.objs.size) ⟨hp.push o, g, d, tk, os⟩ → wpAny (model prog w) A' (pyIter v) Q E ⟨hp, g, d, tk, os⟩ := fun q => B.iter prog w _ _ ⟨hp, g, d, tk, os⟩ _ h1 q
    wp_walk using first
    refine wpAny_stack_any fun st => wpAny_pure ?_
    split
    · rename_i c _ _ _ _ _
      cases (c == Value.type "enumerate") <;> wp_walk using first <;> exact ⟨_, rfl, h⟩
    · wp_walk using first
      exact ⟨_, rfl, h⟩
theorem call_enumT {prog : Program} {w : World} {A : Around} {E : Value → Shared → Prop} {s : Shared} {t : Addr} {items : Array Value} {Q : Value → Shared → Prop} (ht : s.heap.IsTuple t items)
    (q : Q (.ref (s.heap.objs.size + 1)) { s with heap := (s.heap.push { cls := .type "tuple_iterator", data := .fields #[.ref t, .int 0 0] }).push (enumO s.heap.objs.size) }) : wpAny (model prog w) A (call (.type "enumerate") [.ref t]) Q E s := by
  refine callType_new F.called_enumerate (by decide) (F.typeCall_enumerate_1 _) (F.newCall_enumerate_1 _) (fun obj => F.args_object_init_2 obj _) F.entry_enumerate_new (enum_new (begins_tuple t items)) ⟨ht, ?_⟩
  have hz : (s.heap.push { cls := .type "tuple_iterator", data := .fields #[.ref t, .int 0 0] }).objs.size = s.heap.objs.size + 1 := Heap.size_push ..
  show _ ∧ _
  rw [hz]
  have := Heap.get?_push_size (s.heap.push { cls := .type "tuple_iterator", data := .fields #[.ref t, .int 0 0] }) (o := enumO s.heap.objs.size) rfl
  rw [hz] at this
  exact ⟨⟨_, this, rfl⟩, q⟩
/-- the tuple at t, each item in a new pair -/
def Ien (K : PySem.W.Frag) (t : Addr) : It :=
  ⟨fun i H => ∃ (xs : List V) (x : V), SqT K H t xs ∧ xs[i]? = some x, fun i H v H' => ∃ T x, v = .ref T ∧ H T = none ∧ H' = upd H T (.tup [.int (i : Nat), x]) ∧ ∀ xs, SqT K H t xs → xs[i]? = some x, fun i H => ∃ xs : List V, SqT K H t xs ∧ xs.length ≤ i⟩
def EnSt (t e it : Addr) (i : Nat) (h : Heap) : Prop := (∃ old, IsEnum h e it (i : Int) old) ∧ h.IsTupleIter it t i ∧ e ≠ it
theorem turn_enT {P : Program} {w : World} {K : PySem.W.Frag} {elts : List Expr} {kk : Nat} {tpos : Pos} (t e it : Addr) : Turn P w K (.Tuple elts kk tpos) (Ien K t) [e, it] e (EnSt t e it) where
  mem := List.mem_cons_self
  obj := fun i h ⟨⟨old, h1⟩, ⟨o, h2, h3, h4⟩, _⟩ b hb => by
    rcases List.mem_cons.mp hb with rfl | hb
    · exact ⟨_, h1, fun v q => nomatch q⟩
    · rw [List.mem_singleton.mp hb]
      exact ⟨o, h2, fun v q => by rw [h4] at q; cases q⟩
  keep := fun i h h' ⟨⟨old, h1⟩, h2, h3⟩ k => ⟨⟨old, k e (by simp) _ h1⟩, h2.at fun o q => k it (by simp) o q, h3⟩
  item := by
    rintro X rfl rfl rfl hc i pins s σ H E I hf ⟨⟨old, he⟩, hit, hne⟩ ⟨xs, x, hq, hx⟩
    obtain ⟨its, rv, tp, hz⟩ := I.tuple hq
    obtain ⟨u, hu, ru⟩ := rv.get hx
    have tp : s.heap.IsTuple t its.toArray := tp
    obtain ⟨ot, gt, ct, _⟩ := id tp
    obtain ⟨oi, gi, ci, _⟩ := id hit
    have t1 : t ≠ it := fun z => by
      rw [z, gi] at gt
      cases gt
      rw [ci] at ct
      exact absurd ct (by decide)
    have t2 : e ∉ [it, t] := fun z => by
      rcases List.mem_cons.mp z with z | z
      · exact hne z
      · rw [← List.mem_singleton.mp z] at gt
        have gt' : s.heap.get? e = some ot := gt
        have he' : s.heap.get? e = some _ := he
        rw [he'] at gt'
        cases gt'
        have ct : Value.type "enumerate" = Value.type "tuple" := ct
        exact absurd ct (by decide)
    have lt : i < its.toArray.size := by
      rw [List.size_toArray]
      exact (List.getElem?_eq_some_iff.mp hu).1
    have D := Draws.tuple (prog := X.prog) (w := X.w) (A := X.A.in1) (show X.A.in1.handled = none from I.ok.hd hc) it t t1 its.toArray
    refine wpAny_pyNext_enum_itemD D he ⟨hit, tp⟩ lt hne t2 fun x' h' tk hx' out st hT hsz hk => ?_
    have ex : x' = u := by
      have : its[i]? = some x' := by simpa using hx'
      rw [hu] at this
      exact (Option.some.inj this).symm
    subst ex
    have hel : e < s.heap.objs.size := Heap.lt_size he
    have hil : it < s.heap.objs.size := Heap.lt_size gi
    refine ⟨_, rfl, wpAny_letOwnedTupleGo_enum (s := { s with heap := h', toks := tk + 1 }) out fun h2 he2 sb => ?_⟩
    have hT2 : h2.get? s.heap.objs.size = some { cls := .type "tuple", data := .seq #[.int i tk, x'] } := (sb.2 _ (Nat.ne_of_gt hel)).trans hT
    have I1 : Inv X pins σ (upd H s.heap.objs.size (.tup [.int (i : Nat), x])) { s with heap := h2, toks := tk + 1 } :=
      I.turnedNew (ch := [e, it]) (fun b ob hb q => (sb.2 b fun z => hb (by simp [z])).trans (hk b ob (fun z => hb (by simp [z])) (fun z => hb (by simp [z])) q)) hf (Nat.le_refl _) ⟨by show 2 ≤ sizeLine; decide, [.int i tk, x'], .cons ⟨_, rfl⟩ (.cons ru .nil), ⟨_, hT2, rfl, _, rfl⟩⟩
    refine ⟨.ref s.heap.objs.size, _, I1, rfl, ⟨_, x, rfl, I.hok.fresh (Nat.le_refl _), rfl, fun ys hy => by rw [I.tuple_inj hy hq]; exact hx⟩, ⟨⟨x', ?_⟩, st.1.at fun o q => (sb.2 it (Ne.symm hne)).trans q, hne⟩, fun b hb => ?_⟩
    · rw [show ((i + 1 : Nat) : Int) = (i : Int) + 1 by omega]
      exact he2
    · have : b < s.heap.objs.size := by
        rcases List.mem_cons.mp hb with rfl | hb
        · exact hel
        · rw [List.mem_singleton.mp hb]; exact hil
      rw [upd_ne (Nat.ne_of_lt this)]
      exact (hf b hb).1
  done := by
    rintro X rfl rfl rfl hc i pins s σ H E I hf ⟨⟨old, he⟩, hit, hne⟩ ⟨xs, hq, hx⟩
    obtain ⟨its, rv, tp, hz⟩ := I.tuple hq
    have tp : s.heap.IsTuple t its.toArray := tp
    obtain ⟨ot, gt, ct, _⟩ := id tp
    obtain ⟨oi, gi, ci, _⟩ := id hit
    obtain ⟨f0, f1, f2, f3, f4, f5⟩ := hf it (by simp)
    have no : its.toArray[i]? = none := by
      have := rv.length
      simp
      omega
    unfold pyNext
    refine wpAny_bind (wpAny_attempt (wpAny_callSpecial?_slot (name := Str.ofString "__next__") ⟨_, he, rfl⟩ F.slot_enumerate_next (wpAny_call_entry F.slot_enumerate_next ⟨_, he, rfl⟩ F.entry_enumerate_next ?_ (F.args_enumerate_next_1 _))))
    show wpAny _ _ (field (.ref e) 2 >>= _) _ _ _
    refine wpAny_bind (wpAny_field he rfl (x := .ref it) rfl (wpAny_bind (wpAny_nextOf_tuple_end (show X.A.in1.handled = none from I.ok.hd hc) hit tp no fun h' x eb ⟨o, ho, hcl⟩ => ?_)))
    exact wpAny_bind (wpAny_isInstance (T := "StopIteration") (b := true) ⟨o, ho, hcl⟩ isSubtype_stop (wpAny_pure ⟨rfl, I.turned (t' := s.toks) (fun b o hb q => eb b o hb q) f0 f1 f3 f4 f5⟩))
  self := fun A i s Q E ⟨⟨_, he⟩, _⟩ h => wpAny_pyIter_enum he h
def iEnT (K : PySem.W.Frag) (ta : TA) : TI := fun σ H R => ta σ H fun vs H1 => ∃ a xs, vs = [V.ref a] ∧ SqT K H1 a xs ∧ R (Ien K a) H1
theorem pi_enT {X : Cx} {e : Expr} {ta : TA} {p pos tpos : Pos} {elts : List Expr} {kk : Nat} (hg : Gl X "enumerate") (hm : X.mg "enumerate" = none) (ha : PA X [e] ta) (hs : starEach [e] X.env = [(false, eval e X.env)] := by rfl) : PI X (.Tuple elts kk tpos) (.Call (.Name "enumerate" p) [e] [] pos) (iEnT X.K ta) := by
  refine ⟨fun pins s σ H R I h => Call_ (ld_blt I hg hm boot_enumerate (PyProof.Rows.callWith_type1 (thn (ha.run pos pins s σ H _ I h) fun us s1 ⟨vs, H1, I1, r1, q1⟩ => ?_) hs rfl))⟩
  obtain ⟨t, xs, rfl, hq, q⟩ := q1
  obtain ⟨u, rfl, ru⟩ := vals1 r1
  cases ru
  obtain ⟨its, rv, tp, hz⟩ := I1.tuple hq
  have size : (s1.heap.push { cls := .type "tuple_iterator", data := .fields #[.ref t, .int 0 0] }).objs.size = s1.heap.objs.size + 1 := Heap.size_push ..
  have he : IsEnum ((s1.heap.push { cls := .type "tuple_iterator", data := .fields #[.ref t, .int 0 0] }).push (enumO s1.heap.objs.size)) (s1.heap.objs.size + 1) s1.heap.objs.size 0 .none := by
    have := Heap.get?_push_size (s1.heap.push { cls := .type "tuple_iterator", data := .fields #[.ref t, .int 0 0] }) (o := enumO s1.heap.objs.size) rfl
    rw [size] at this
    exact this
  refine call_enumT (show s1.heap.IsTuple t its.toArray from tp) (wpAny_pyIter_enum (s := { s1 with heap := (s1.heap.push { cls := .type "tuple_iterator", data := .fields #[.ref t, .int 0 0] }).push (enumO s1.heap.objs.size) }) he ?_)
  refine ⟨s1.heap.objs.size + 1, [s1.heap.objs.size + 1, s1.heap.objs.size], _, _, H1, rfl, I1.kept (t' := s1.toks) fun b o z => Heap.get?_push_of_some _ (Heap.get?_push_of_some _ z), turn_enT t _ _, ⟨⟨.none, he⟩, ⟨_, Heap.get?_push_of_some _ (Heap.get?_push_size _ rfl), rfl, rfl⟩, Nat.succ_ne_self _⟩, fun b hb => ?_, q⟩
  have le : s1.heap.objs.size ≤ b := by
    rcases List.mem_cons.mp hb with rfl | hb
    · omega
    · rw [List.mem_singleton.mp hb]; exact Nat.le_refl _
  exact I1.fpOk le (I1.hok.fresh le)
theorem sqt_up {K : PySem.W.Frag} {a : Addr} {xs : List V} {G H : Hp} (e : Same G H) (h : SqT K G a xs) : SqT K H a xs := sameT e h
theorem yld_numT {Rs : List Rl} {K : PySem.W.Frag} {a : Addr} {vs : List V} {G : Hp} (h1 : SqT K G a vs) (h2 : All2 Rs vs G) : Yld (Ien K a) (numR Rs) G where
  go := fun i G' H' s1 s2 hi => by
    rw [numR_len, h2.len] at hi
    exact ⟨vs, vs[i], sameT (s1.trans s2) h1, List.getElem?_eq_getElem hi⟩
  stop := fun G' H' s1 s2 => ⟨vs, sameT (s1.trans s2) h1, by rw [numR_len, h2.len]; exact Nat.le_refl _⟩
  yld := fun i S G' H' x H'' s1 s2 hS y => by
    obtain ⟨T, u, rfl, hT, rfl, hu⟩ := y
    obtain ⟨R, hR, rfl⟩ := numR_get hS
    obtain ⟨v, hv, rv⟩ := h2.get hR
    have e := hu vs (sameT (s1.trans s2) h1)
    rw [hv] at e
    cases e
    have st := Step.new (o := .tup [.int (i : Nat), u]) s2 hT
    exact ⟨_, st, T, _, rfl, upd_same, mk2 rfl (R.mo _ _ _ (s1.trans st.gg) rv)⟩
section
variable {F : Fx} {ρ : Ty} {ω w1 : Ow} {e : Expr} {pos p : Pos} {Rs : List Rl}
theorem it_enumT {elts : List Expr} {kk : Nat} {tpos : Pos} (he : AR F ρ ω [e] [rTup Rs] w1) (hg : Gl F.X "enumerate") (hm : F.X.mg "enumerate" = none) (hs : starEach [e] F.X.env = [(false, eval e F.X.env)] := by rfl) :
    IT F ρ ω (.Tuple elts kk tpos) (.Call (.Name "enumerate" p) [e] [] pos) (numR Rs) w1 := ⟨_, pi_enT hg hm pa_w hs, fun σ G H at_ sl R k => he σ G H at_ sl _ fun vs G2 H2 s a r => by
  obtain ⟨x, rfl, t, us, rfl, h1, h2⟩ := all1 r
  exact ⟨t, us, rfl, SqT.of (a.gh _ _ h1), k _ G2 H2 s a (yld_numT (SqT.of h1) h2)⟩⟩
end
end W1
set_option maxRecDepth 100000
set_option maxHeartbeats 4000000
set_option exponentiation.threshold 20000
namespace W1S
open PySem PySem.Spec PyProof.Rows L2 TL
section
variable {prog : Program} {w : World} {A : Around} {E : Value → Shared → Prop} {s : Shared}
/-- what a tuple or list holds, gathered -/
theorem gather_seq {t : Addr} {T : String} {o : Obj} {items : Array Value} {n : Nat} {Q : List Value → Shared → Prop} (hT : T = "list" ∨ T = "tuple") (ho : s.heap.get? t = some o) (hc : o.cls = .type T) (hd : o.data = .seq items n) (few : items.size ≤ sizeLine)
    (q : ∀ s1, Kept s s1 → Q items.toList s1) : wpAny (model prog w) A (collect (.ref t)) Q E s := by
  have mine : (s.heap.push (seqObj "list" #[] 0)).get? s.heap.objs.size = some { cls := .type "list", data := .seq #[] 0 } := Heap.get?_push_size _ rfl
  have now := Heap.get?_update_self (Obj.mapSeq (· ++ items)) mine rfl
  unfold collect
  refine wpAny_bind (wpAny_runValue (codeAny_builtin entry_proto_collect' ?_))
  show wpAny _ _ (newList [] >>= fun l => again (.builtin "list.__iadd__" ⟨[l, .ref t], []⟩)) _ _ s
  refine wpAny_bind (wpAny_newList (wpAny_pure ⟨Code.quiet_builtin _ (by decide +kernel), codeAny_builtin entry_list_iadd' ?_⟩))
  rw [Around.under_plainId (by decide +kernel) _]
  show wpAny _ _ (Builtin.List.listExtendWith (.ref s.heap.objs.size) (.ref t) (.ref s.heap.objs.size)) _ _ { s with heap := s.heap.push (seqObj "list" #[] 0) }
  refine wpAny_extend_seq (A := A) (R := fun r s' => match r with | .ok (.ret v) => wpAny (model prog w) A (match v with | .ref a => (do let o ← load a; match o.data with | .seq xs _ => pure xs.toList | _ => unsupported "internal:collect") | _ => unsupported "internal:collect") Q E s' | .ok _ => False | .error e => E e s') (hsz := few) (s := { s with heap := s.heap.push (seqObj "list" #[] 0) }) s.heap.objs.size t (.ref s.heap.objs.size) 0 hT mine (Heap.get?_push_of_some _ ho) hc hd ?_
  refine wpAny_bind (wpAny_load now (wpAny_pure ?_))
  show Q ((#[] : Array Value) ++ items).toList _
  rw [show ((#[] : Array Value) ++ items).toList = items.toList by simp]
  refine q _ ⟨fun b o' e => (Heap.get?_update_other _ _ (Nat.ne_of_gt (Heap.lt_size e))).trans (Heap.get?_push_of_some _ e), Nat.le_of_lt (Heap.lt_size now), rfl, rfl⟩
end
/-- sorted of a tuple of texts -/
def rSortQ (K : PySem.W.Frag) : List V → Hp → VK → Prop := fun vs H Q => ∃ (a : Addr) (xs : List Str), vs = [.ref a] ∧ SqT K H a (xs.map V.str) ∧ xs.length < 64 ∧ ∀ (ys : List Str) (p : Addr), ys.Perm xs → sortedS ys = true → H p = none → Q (.ref p) (upd H p (.lst (ys.map V.str)))
theorem cr_sortQ {X : Cx} : CallR X (.builtin "sorted") (rSortQ X.K) := W1.callR_sem fun pins s σ H vs us Q I r h => by
  obtain ⟨a, xs, rfl, ha, few, q⟩ := h
  obtain ⟨its, rv, ⟨o, ho, hc, n, hd⟩, hz⟩ := I.tuple ha
  rw [Vals.ref1 r]
  refine sorted_txt (ss := xs) few (fun Q' z' => gather_seq (.inr rfl) ho hc hd (by rw [List.size_toArray, ← rv.length]; exact hz) fun s1 kept => z' s1 _ xs kept (by simpa using rv.strs) (List.Perm.refl _)) fun s2 p out c ys kept hp hg txt pm srt => ?_
  have m : (ys.map V.str).length ≤ sizeLine := by rw [List.length_map, pm.length_eq, sizeLine_eq]; omega
  have fresh : H p = none := I.hok.fresh hp
  have J : Inv X pins σ (upd H p (.lst (ys.map V.str))) { s with heap := s2.heap, gens := s2.gens, drawn := s2.drawn, toks := s2.toks } :=
    I.call (ch := []) (Un.laid kept.heap hp fresh) (I.hok.laid kept.heap hp ⟨m, out.toList, c, vals_of_strs txt, hg⟩) (by rw [kept.gens]; exact I.bare) (fun _ z => nomatch z)
  have same : s2 = { s with heap := s2.heap, gens := s2.gens, drawn := s2.drawn, toks := s2.toks } := by
    have := kept.os
    cases s2
    cases s
    cases this
    rfl
  rw [same]
  exact ⟨.ref p, _, J, rfl, q ys p pm srt fresh⟩
end W1S
namespace W1
open PySem PySem.Spec PyProof.Rows L2 NdefX TL NumText
/-! ### a sequence: a list or a tuple of ours, or a list that somebody still holds -/
def SVar (A : Rl) (w : Ow) (Rs : List Rl) : Prop := (A = rLst Rs ∧ w = []) ∨ (A = rTup Rs ∧ w = []) ∨ ∃ q, A = rRef q ∧ w = [(q, oL Rs)]
def IsSq (F : Fx) (A : Rl) (w : Ow) (Rs : List Rl) : Prop := ∀ x G H, At F w G H → A.r x G → ∃ p vs, x = .ref p ∧ (SqL F.X.K H p vs ∨ SqT F.X.K H p vs) ∧ All2 Rs vs G
def rSq (Rs : List Rl) : Rl := ⟨fun v H => ∃ p vs, v = .ref p ∧ (H p = some (.lst vs) ∨ H p = some (.tup vs)) ∧ All2 Rs vs H, fun _ _ _ e ⟨p, vs, a, b, c⟩ => ⟨p, vs, a, b.imp (e _ _) (e _ _), c.up e⟩⟩
section
variable {F : Fx} {w wc : Ow} {A B : Rl} {Rs : List Rl} {xs : List Str} {g : Str} {v u : Option Int}
theorem isq_L : IsSq F (rLst Rs) w Rs := fun x G H at_ ⟨p, vs, a, b, c⟩ => ⟨p, vs, a, .inl (SqL.of (at_.gh _ _ b)), c⟩
theorem isq_T : IsSq F (rTup Rs) w Rs := fun x G H at_ ⟨p, vs, a, b, c⟩ => ⟨p, vs, a, .inr (SqT.of (at_.gh _ _ b)), c⟩
theorem isq_Q : IsSq F (rSq Rs) w Rs := fun x G H at_ ⟨p, vs, a, b, c⟩ => ⟨p, vs, a, b.imp (fun z => SqL.of (at_.gh _ _ z)) fun z => SqT.of (at_.gh _ _ z), c⟩
theorem isq_O {q : Addr} (h : (q, oL Rs) ∈ w) : IsSq F (rRef q) w Rs := fun x G H at_ hx => by
  cases (show x = V.ref q from hx)
  obtain ⟨_, _, o, h1, vs, rfl, h2⟩ := at_.ow _ h
  exact ⟨q, vs, rfl, .inl (SqL.of h1), h2⟩
theorem SVar.isq (h : SVar A wc Rs) (k : ∀ z ∈ wc, z ∈ w) : IsSq F A w Rs := by
  rcases h with ⟨rfl, rfl⟩ | ⟨rfl, rfl⟩ | ⟨q, rfl, rfl⟩
  · exact isq_L
  · exact isq_T
  · exact isq_O (k _ (List.mem_singleton.mpr rfl))
theorem cop_lenQ (h : IsSq F A w Rs) : Cop F w (.builtin "len") [A] (rInt (Rs.length : Int)) := ⟨_, call_len_seq, fun xs G H at_ hx Q k => by
  obtain ⟨x, rfl, hx1⟩ := all1 hx
  obtain ⟨p, vs, rfl, h1, h2⟩ := h x G H at_ hx1
  exact ⟨p, vs, rfl, h1, k _ G H (Same.refl _) at_ (congrArg (fun n : Nat => V.int (n : Int)) h2.len.symm)⟩⟩
theorem sop_Q (h : SVar A wc Rs) (k : ∀ z ∈ wc, z ∈ w) : Sop F w A v u (rSq (cutR Rs v u)) := by
  have cut : ∀ {vs : List V} {G' : Hp}, All2 Rs vs G' → All2 (cutR Rs v u) (cutV vs v u) G' := fun h2 => by
    unfold cutR cutV
    rw [h2.len]
    exact (h2.drop _).take _
  rcases h with ⟨rfl, rfl⟩ | ⟨rfl, rfl⟩ | ⟨q, rfl, rfl⟩
  · refine ⟨_, sl_list, fun x G H at_ ⟨p, vs, e, h1, h2⟩ Q q => ⟨p, vs, e, SqL.of (at_.gh _ _ h1), fun l hl => ?_⟩⟩
    have st := Step.new (o := .lst (cutV vs v u)) at_.gh hl
    exact q _ _ _ st.gg (at_.step st) ⟨l, _, rfl, .inl upd_same, cut (h2.up st.gg)⟩
  · refine ⟨_, sl_tupA, fun x G H at_ ⟨p, vs, e, h1, h2⟩ Q q => ⟨p, vs, e, SqT.of (at_.gh _ _ h1), fun hw => ?_, fun _ l hl => ?_⟩⟩
    · have whole : cutV vs v u = vs := by
        unfold cutV
        rw [hw.1, hw.2]
        simp
      subst e
      exact q _ G H (Same.refl _) at_ ⟨p, vs, rfl, .inr h1, by rw [← whole]; exact cut h2⟩
    · have st := Step.new (o := .tup (cutV vs v u)) at_.gh hl
      exact q _ _ _ st.gg (at_.step st) ⟨l, _, rfl, .inr upd_same, cut (h2.up st.gg)⟩
  · refine ⟨_, sl_list, fun x G H at_ hx Q r => ?_⟩
    cases (show x = V.ref q from hx)
    obtain ⟨_, _, o, h1, vs, rfl, h2⟩ := at_.ow _ (k _ (List.mem_singleton.mpr rfl))
    refine ⟨q, vs, rfl, SqL.of h1, fun l hl => ?_⟩
    have st := Step.new (o := .lst (cutV vs v u)) at_.gh hl
    exact r _ _ _ st.gg (at_.step st) ⟨l, _, rfl, .inl upd_same, cut (h2.up st.gg)⟩
theorem inV_str : ∀ {xs : List Str}, inV (.str g) (xs.map V.str) = decide (g ∈ xs)
  | [] => rfl
  | x :: r => by
    show (eqV (.str x) (.str g) || inV (.str g) (r.map V.str)) = _
    rw [inV_str (xs := r)]
    show (decide (x = g) || _) = _
    by_cases e : x = g
    · subst e; simp
    · have e2 : ¬ g = x := fun z => e z.symm
      simp [e, e2]
theorem flat_strs : (xs.map V.str).all flatV = true := by
  rw [List.all_map, List.all_eq_true]
  exact fun _ _ => rfl
theorem bop_inQ (h : IsSq F B w (xs.map rStr)) : Bop F w (compareOp .In) (rStr g) B (rBool (decide (g ∈ xs))) := ⟨_, op_in_seq, fun x y G H at_ hx hy Q k => by
  cases (show x = V.str g from hx)
  obtain ⟨p, vs, rfl, h1, h2⟩ := h y G H at_ hy
  have e := str_vals h2
  subst e
  refine ⟨p, _, rfl, h1, rfl, flat_strs, ?_⟩
  rw [inV_str]
  exact k _ G H (Same.refl _) at_ rfl⟩
theorem bop_niQ (h : IsSq F B w (xs.map rStr)) : Bop F w (compareOp .NotIn) (rStr g) B (rBool (!decide (g ∈ xs))) := ⟨_, op_notIn_seq, fun x y G H at_ hx hy Q k => by
  cases (show x = V.str g from hx)
  obtain ⟨p, vs, rfl, h1, h2⟩ := h y G H at_ hy
  have e := str_vals h2
  subst e
  refine ⟨p, _, rfl, h1, rfl, flat_strs, ?_⟩
  rw [inV_str]
  exact k _ G H (Same.refl _) at_ rfl⟩
/-- sorted of such a sequence of texts -/
theorem cop_sortQ (h : SVar A wc (xs.map rStr)) (k : ∀ z ∈ wc, z ∈ w) (few : xs.length < 64) : Cop F w (.builtin "sorted") [A] (rLst ((srt xs).map rStr)) := by
  rcases h with ⟨rfl, rfl⟩ | ⟨rfl, rfl⟩ | ⟨q, rfl, rfl⟩
  · exact copA
  · refine ⟨_, W1S.cr_sortQ, fun us G H at_ hx Q r => ?_⟩
    obtain ⟨x, rfl, p, vs, rfl, h1, h2⟩ := all1 hx
    rw [str_vals h2] at h1
    refine ⟨p, xs, rfl, SqT.of (at_.gh _ _ h1), few, fun ys p2 pm sorted hp => ?_⟩
    rw [srt_only pm sorted]
    have st := Step.new (o := .lst ((srt xs).map V.str)) at_.gh hp
    exact r _ _ _ st.gg (at_.step st) ⟨p2, _, rfl, upd_same, vals_str _⟩
  · refine ⟨_, cr_sortA, fun us G H at_ hx Q r => ?_⟩
    obtain ⟨x, rfl, hx1⟩ := all1 hx
    cases (show x = V.ref q from hx1)
    obtain ⟨_, _, o, h1, vs, rfl, h2⟩ := at_.ow _ (k _ (List.mem_singleton.mpr rfl))
    rw [str_vals h2] at h1
    refine ⟨q, xs, rfl, SqL.of h1, fun l hl => ?_⟩
    have st := Step.new (o := .lst ((srt xs).map V.str)) at_.gh hl
    exact r _ _ _ st.gg (at_.step st) ⟨l, _, rfl, upd_same, vals_str _⟩
/-- tuple of such a sequence -/
theorem cop_tupQ (h : SVar A wc Rs) (k : ∀ z ∈ wc, z ∈ w) : Cop F w (.type "tuple") [A] (rTup Rs) := by
  rcases h with ⟨rfl, rfl⟩ | ⟨rfl, rfl⟩ | ⟨q, rfl, rfl⟩
  · exact cop_tupL
  · refine ⟨_, call_tuple_of, fun us G H at_ hx Q r => ?_⟩
    obtain ⟨x, rfl, p, vs, rfl, h1, h2⟩ := all1 hx
    exact ⟨p, vs, rfl, .inr ⟨SqT.of (at_.gh _ _ h1), r _ G H (Same.refl _) at_ ⟨p, vs, rfl, h1, h2⟩⟩⟩
  · refine ⟨_, call_tuple_of, fun us G H at_ hx Q r => ?_⟩
    obtain ⟨x, rfl, hx1⟩ := all1 hx
    cases (show x = V.ref q from hx1)
    obtain ⟨_, _, o, h1, vs, rfl, h2⟩ := at_.ow _ (k _ (List.mem_singleton.mpr rfl))
    refine ⟨q, vs, rfl, .inl ⟨SqL.of h1, fun l hl => ?_⟩⟩
    have st := Step.new (o := .tup vs) at_.gh hl
    exact r _ _ _ st.gg (at_.step st) ⟨l, vs, rfl, upd_same, h2.up st.gg⟩
end
end W1
set_option maxRecDepth 100000
set_option maxHeartbeats 4000000
set_option exponentiation.threshold 20000
namespace W1
open PySem PySem.Spec PyProof.Rows L2 NdefX TL NumText
/-! ### loops over a sequence that somebody may still hold -/
/-- as Yld, where what is owned is as P says -/
structure YldP (F : Fx) (P : Ow → Prop) (J : It) (Rs : List Rl) (G : Hp) : Prop where
  go : ∀ i w G' H', P w → Same G G' → At F w G' H' → i < Rs.length → J.go i H'
  stop : ∀ w G' H', P w → Same G G' → At F w G' H' → J.stop Rs.length H'
  yld : ∀ (i : Nat) (R : Rl) w G' H' x H'', P w → Same G G' → At F w G' H' → Rs[i]? = some R → J.yld i H' x H'' → ∃ G'', Step G' H' G'' H'' ∧ R.r x G''
def ITP (F : Fx) (P : Ow → Prop) (ρ : Ty) (ω : Ow) (tg it : Expr) (Rs : List Rl) (w1 : Ow) : Prop :=
  ∃ wi, PI F.X tg it wi ∧ ∀ σ G H, At F ω G H → Slots ρ σ G → ∀ R : It → Hp → Prop, (∀ J G2 H2, Same G G2 → At F w1 G2 H2 → YldP F P J Rs G2 → R J H2) → wi σ H R
section
variable {F : Fx} {P : Ow → Prop} {ρ ρ1 : Ty} {ω w w1 wc : Ow} {tg it e : Expr} {Rs : List Rl} {A R : Rl} {K : Kn} {rest body : List Stmt} {pos p : Pos}
theorem yld_p {J : It} {G : Hp} (y : Yld J Rs G) : YldP F P J Rs G := ⟨fun i w G' H' _ s a => y.go i G' H' s a.gh, fun w G' H' _ s a => y.stop G' H' s a.gh, fun i R w G' H' x H'' _ s a => y.yld i R G' H' x H'' s a.gh⟩
theorem it_p (h : IT F ρ ω tg it Rs w1) : ITP F P ρ ω tg it Rs w1 := by
  obtain ⟨wi, h1, h2⟩ := h
  exact ⟨wi, h1, fun σ G H at_ sl R k => h2 σ G H at_ sl R fun J G2 H2 s a y => k J G2 H2 s a (yld_p y)⟩
theorem hb_forP {g : TG} (hit : ITP F P ρ ω tg it Rs w1) (I : Nat → Ty → Ow → Prop) (h0 : I 0 ρ w1) (hP : ∀ k ρ w, I k ρ w → P w)
    (hs : ∀ (k : Nat) ρ ω (S : Rl), Rs[k]? = some S → I k ρ ω → ∃ ρ', GE g ρ S ρ' ∧ HB F ρ' ω body (K.loop F rest (I (k + 1)))) (hd : ∀ ρ ω, I Rs.length ρ ω → HB F ρ ω rest K)
    (hp : PassesOwn (model F.X.prog F.X.w) F.X.A F.X.env F.X.xe) (hpg : PG F.X tg g) (hc : F.X.calm = true := by rfl)
    (hfs : ∀ z, foldedSetIterable it F.X.env z = pure z := by intro _; rfl) : HB F ρ ω (.For tg it body [] pos :: rest) K := hb_cons fun σ G H D at_ sl ps => by
  obtain ⟨wi, hpi, hwi⟩ := hit
  refine sw_of (ps_for hp hc hpi hpg pss_w hfs) (hwi σ G H at_ sl _ fun J G2 H2 s2 a2 y2 => ?_)
  refine ⟨fun i m σ H => m = Rs.length - i ∧ i ≤ Rs.length ∧ ∃ ρ ω G, I i ρ ω ∧ At F ω G H ∧ Slots ρ σ G ∧ Same G2 G ∧ Post F K D G, ⟨Rs.length, by simp, Nat.zero_le _, ρ, w1, G2, h0, a2, sl.up s2, Same.refl _, ps.up s2⟩, ?_⟩
  rintro i m σ1 H1 ⟨rfl, hi, ρ1, ω1, G1, i1, a1, sl1, s1, ps1⟩
  have p1 := hP i ρ1 ω1 i1
  by_cases hlt : i < Rs.length
  · refine .inr ⟨y2.go i ω1 G1 H1 p1 s1 a1 hlt, fun σ' H' => ∃ ρ ω G, I (i + 1) ρ ω ∧ At F ω G H' ∧ Slots ρ σ' G ∧ Same G2 G ∧ Post F K D G, fun σ' H' z => ⟨Rs.length - (i + 1), by omega, rfl, hlt, z⟩, fun x H' y => ?_⟩
    obtain ⟨G3, st, rx⟩ := y2.yld i Rs[i] ω1 G1 H1 x H' p1 s1 a1 (List.getElem?_eq_getElem hlt) y
    obtain ⟨ρ', ga, hb⟩ := hs i ρ1 ω1 Rs[i] (List.getElem?_eq_getElem hlt) i1
    have a3 := a1.step st
    refine ga x σ1 G3 H' _ a3.gh (sl1.up st.gg) rx fun σ2 sl2 => ?_
    have ps3 := ps1.up st.gg
    have s3 : Same G2 G3 := s1.trans st.gg
    exact hb σ2 G3 H' _ a3 sl2 ⟨fun ρ ω i' σ' G' H' s a sl => ⟨ρ, ω, G', i', a, sl, s3.trans s, ps3.up s⟩, ps3.rt, fun ρ ω k' σ' G' H' s a sl => k' σ' G' H' D a sl (ps3.up s), fun ρ ω i' σ' G' H' s a sl => ⟨ρ, ω, G', i', a, sl, s3.trans s, ps3.up s⟩, ps3.ex⟩
  · have e : i = Rs.length := by omega
    subst e
    exact .inl ⟨y2.stop ω1 G1 H1 p1 s1 a1, hd ρ1 ω1 i1 σ1 G1 H1 D a1 sl1 ps1⟩
/-- an owned list, as it stands all the while -/
theorem own_at {q : Addr} {G H : Hp} (at_ : At F w G H) (h : (q, oL Rs) ∈ w) : ∃ vs, H q = some (.lst vs) ∧ All2 Rs vs G := by
  obtain ⟨_, _, o, h1, vs, rfl, h2⟩ := at_.ow _ h
  exact ⟨vs, h1, h2⟩
theorem yld_own {q : Addr} {G : Hp} : YldP F (fun w => (q, oL Rs) ∈ w) (Itl F.X.K q) Rs G where
  go := fun i w G' H' hw s a hi => by
    obtain ⟨vs, h1, h2⟩ := own_at a hw
    exact ⟨vs, vs[i]'(by rw [← h2.len]; exact hi), SqL.of h1, List.getElem?_eq_getElem _⟩
  stop := fun w G' H' hw s a => by
    obtain ⟨vs, h1, h2⟩ := own_at a hw
    exact ⟨vs, SqL.of h1, Nat.le_of_eq h2.len.symm⟩
  yld := fun i R w G' H' x H'' hw s a hR y => by
    obtain ⟨vs, h1, h2⟩ := own_at a hw
    obtain ⟨rfl, y⟩ := y
    obtain ⟨v, hv, rv⟩ := h2.get hR
    have e := y vs (SqL.of h1)
    rw [hv] at e
    cases e
    exact ⟨G', Step.refl a.gh, rv⟩
theorem yld_ownN {q : Addr} {G : Hp} : YldP F (fun w => (q, oL Rs) ∈ w) (Ite F.X.K q) (numR Rs) G where
  go := fun i w G' H' hw s a hi => by
    obtain ⟨vs, h1, h2⟩ := own_at a hw
    rw [numR_len, h2.len] at hi
    exact ⟨vs, vs[i], SqL.of h1, List.getElem?_eq_getElem hi⟩
  stop := fun w G' H' hw s a => by
    obtain ⟨vs, h1, h2⟩ := own_at a hw
    exact ⟨vs, SqL.of h1, by rw [numR_len]; exact Nat.le_of_eq h2.len.symm⟩
  yld := fun i S w G' H' x H'' hw s a hS y => by
    obtain ⟨vs, h1, h2⟩ := own_at a hw
    obtain ⟨T, u, rfl, hT, rfl, hu⟩ := y
    obtain ⟨R, hR, rfl⟩ := numR_get hS
    obtain ⟨v, hv, rv⟩ := h2.get hR
    have e := hu vs (SqL.of h1)
    rw [hv] at e
    cases e
    have st := Step.new (o := .tup [.int (i : Nat), u]) a.gh hT
    exact ⟨_, st, T, _, rfl, upd_same, mk2 rfl (R.mo _ _ _ st.gg rv)⟩
/-- what is lent is there -/
abbrev Lent (wc : Ow) : Ow → Prop := fun w => ∀ z ∈ wc, z ∈ w
theorem itp_sv (he : ER F ρ ω it A w1) (h : SVar A wc Rs) (k : Lent wc w1) : ITP F (Lent wc) ρ ω tg it Rs w1 := by
  rcases h with ⟨rfl, rfl⟩ | ⟨rfl, rfl⟩ | ⟨q, rfl, rfl⟩
  · exact it_p (it_lst he)
  · exact it_p (it_tup he)
  · refine ⟨_, pi_list pe_w, fun σ G H at_ sl R r => he σ G H at_ sl _ fun v G2 H2 s a hv => ?_⟩
    cases (show v = V.ref q from hv)
    obtain ⟨vs, h1, h2⟩ := own_at a (k _ (List.mem_singleton.mpr rfl))
    have y : YldP F (fun w => (q, oL Rs) ∈ w) (Itl F.X.K q) Rs G2 := yld_own
    have m : ∀ {w : Ow}, Lent [(q, oL Rs)] w → (q, oL Rs) ∈ w := fun z => z _ (List.mem_singleton.mpr rfl)
    exact ⟨q, rfl, ⟨vs, SqL.of h1⟩, r _ G2 H2 s a ⟨fun i w G' H' hw => y.go i w G' H' (m hw), fun w G' H' hw => y.stop w G' H' (m hw), fun i R w G' H' x H'' hw => y.yld i R w G' H' x H'' (m hw)⟩⟩
theorem itp_en {elts : List Expr} {kk : Nat} {tpos : Pos} (he : ER F ρ ω e A w1) (h : SVar A wc Rs) (k : Lent wc w1) (hg : Gl F.X "enumerate") (hm : F.X.mg "enumerate" = none) (hs : starEach [e] F.X.env = [(false, eval e F.X.env)] := by rfl) :
    ITP F (Lent wc) ρ ω (.Tuple elts kk tpos) (.Call (.Name "enumerate" p) [e] [] pos) (numR Rs) w1 := by
  have ha : AR F ρ ω [e] [A] w1 := ar_cons he ar_nil hs
  rcases h with ⟨rfl, rfl⟩ | ⟨rfl, rfl⟩ | ⟨q, rfl, rfl⟩
  · exact it_p (it_enumL ha hg hm hs)
  · exact it_p (it_enumT ha hg hm hs)
  · refine ⟨_, pi_enum hg hm pa_w hs, fun σ G H at_ sl R r => ha σ G H at_ sl _ fun vs G2 H2 s a hv => ?_⟩
    obtain ⟨x, rfl, hx⟩ := all1 hv
    cases (show x = V.ref q from hx)
    obtain ⟨us, h1, h2⟩ := own_at a (k _ (List.mem_singleton.mpr rfl))
    have y : YldP F (fun w => (q, oL Rs) ∈ w) (Ite F.X.K q) (numR Rs) G2 := yld_ownN
    have m : ∀ {w : Ow}, Lent [(q, oL Rs)] w → (q, oL Rs) ∈ w := fun z => z _ (List.mem_singleton.mpr rfl)
    exact ⟨q, us, rfl, SqL.of h1, r _ G2 H2 s a ⟨fun i w G' H' hw => y.go i w G' H' (m hw), fun w G' H' hw => y.stop w G' H' (m hw), fun i R w G' H' x H'' hw => y.yld i R w G' H' x H'' (m hw)⟩⟩
end
end W1
set_option maxRecDepth 100000
set_option maxHeartbeats 4000000
set_option exponentiation.threshold 20000
namespace W1
open PySem PySem.Spec PyProof.Rows L2 NdefX TL NumText
/-! ### a book, and what is wrong with what it is made of -/
abbrev Wy := Am × Int × Am
abbrev rWy (W : Addr) (y : Wy) : Rl := rWay W y.1 y.2.1 y.2.2
abbrev gWy (y : Wy) : List Str := goodsW y.1 y.2.2
structure WyOk (y : Wy) : Prop where
  few : y.1.length + y.2.2.length < 60
  nm : ∀ g ∈ gWy y, g.length ≤ 640
inductive BE where
  | num (n : Int) | name (z : Str) | twice (z : Str) | unk (z : Str)
/-- the names, one behind the other; s: those before -/
def gErr : List Str → List Str → Option BE
  | _, [] => none
  | s, g :: r => if nameL (tl g) = true then (if g ∈ s then some (.twice g) else gErr (s ++ [g]) r) else some (.name g)
def lost (gs : List Str) (y : Wy) : Option Str := (gWy y).find? fun g => !decide (g ∈ gs)
def wErr (gs : List Str) : List Wy → Option BE
  | [] => none
  | y :: r => match lost gs y with
    | some g => some (.unk g)
    | none => wErr gs r
def bErr (gs : List Str) (ys : List Wy) : Option BE :=
  if 1 ≤ gs.length ∧ gs.length ≤ 4 then match gErr [] gs with
    | some e => some e
    | none => if 1 ≤ ys.length ∧ ys.length ≤ 8 then wErr gs ys else some (.num ys.length)
  else some (.num gs.length)
def bookF (W : Addr) (gs : List Str) (ys : List Wy) : List (Str × Rl) := [("names", rTup ((srt gs).map rStr)), ("ways", rTup (ys.map (rWy W)))]
def rBook (C W : Addr) (gs : List Str) (ys : List Wy) : Rl := rIns C (bookF W gs ys)
def errB (M N D U : Addr) : BE → Er
  | .num n => erF M "n" (rInt n)
  | .name z => erF N "name" (rStr z)
  | .twice z => erF D "name" (rStr z)
  | .unk z => erF U "name" (rStr z)
theorem errB_mo {M N D U : Addr} {x : BE} : ∀ cls d G G', Same G G' → errB M N D U x cls d G → errB M N D U x cls d G' := by
  cases x <;> exact erF_mo
structure BookX (K : PySem.W.Frag) (mg : Str → Option Value) (C : Addr) : Prop where
  cx : ClsX K C
  nn : NoAttr K C "names"
  nw : NoAttr K C "ways"
  gC : mg "Book" = some (.ref C)
  nf : PySem.W.notFirst K C (.ref C) = true
def pChkG (W U : Addr) : Pre := fun Rs w o w' => ∃ A gs y, SVar A w (gs.map rStr) ∧ WyOk y ∧ Rs = [A, rWy W y] ∧ w' = w ∧ o = (match lost gs y with | none => .ok rNon | some g => .error (erF U "name" (rStr g)))
theorem find_at {α : Type} {l : List α} {k : Nat} {g : α} {p : α → Bool} (h : l[k]? = some g) (hp : p g = true) (hn : ∀ x ∈ l.take k, p x = false) : l.find? p = some g := by
  obtain ⟨hk, e⟩ := List.getElem?_eq_some_iff.mp h
  rw [← List.take_append_drop k l, List.find?_append, List.find?_eq_none.mpr fun x hx => by rw [hn x hx]; exact Bool.false_ne_true, List.drop_eq_getElem_cons hk, e, Option.none_or, List.find?_cons_of_pos hp]
section
variable {P : Program} {w : World} {K : PySem.W.Frag} {mg : Str → Option Value} {base : Heap} {W C M N D U f : Addr} {fd : FuncData}
theorem kf_chkg (Fn : Fun K "check_goods" "check_goods" s_check_goods f fd) (X : WayX K mg W) (Tg : Kmn P w K mg base W "goods" 1 (pGoods W)) (Tu : Ke P w K mg base U "UnknownName" "name" 1 prStr) : FnOk P w K mg base (L2.CX P w) 3 f fd P_check_goods (spM (pChkG W U)) := by
  refine fn_ok Fn c_check_goods (fun _ _ _ _ ⟨_, _, _, _, _, h, _⟩ => by rw [h]; rfl) ?_
  rintro cdv A outer s H E ⟨_, G0, H0, M', _, tk⟩ hr rfl Rs ω o ω' ⟨A0, gs, y, sv, ok, rfl, rfl, rfl⟩
  have nd := c_check_goods.nd
  have cl := X.cx.cls
  refine hb_for (it_lst (er_pubL (en_m0 Tg cl (hr.mono (by decide)) (er_v 1 rfl rfl) ⟨y.1, y.2.1, y.2.2, ok.few, rfl, rfl, rfl, rfl⟩))) (fun k ρ w1 => w1 = ω' ∧ (∀ g ∈ (gWy y).take k, g ∈ gs) ∧ ∃ z, ρ = [some A0, some (rWy W y), z]) ⟨rfl, fun _ h => (by cases h), none, rfl⟩ ?_ ?_ (passes_of rfl) (pg_name (i := 2) nd rfl (Or.inl rfl))
  · rintro k ρ w1 S hS ⟨rfl, hn, z, rfl⟩
    rw [List.getElem?_map] at hS
    cases e : (goodsW y.1 y.2.2)[k]? with
    | none => rw [e] at hS; cases hS
    | some g =>
      rw [e] at hS
      cases hS
      have e : (gWy y)[k]? = some g := e
      refine ⟨_, ge_name, ?_⟩
      refine hb_if (tr_cmp (er_v 2 rfl rfl) (er_v 0 rfl rfl) (bop_niQ (sv.isq fun _ h => h))) (fun hb => ?_) (fun hb => hb_nil (hb_nil ?_))
      · have f : lost gs y = some g := find_at e hb fun x hx => by rw [decide_eq_true (hn x hx)]; rfl
        refine hb_err Tu (hr.mono (by decide)) (ar_cons (er_v 2 rfl rfl) ar_nil) ⟨_, [], by rw [f], fun _ _ _ h => h, (List.append_nil _).symm⟩ fun v G h => ⟨g, h, Nat.le_trans (ok.nm g (List.mem_of_getElem? e)) (by decide)⟩
      · refine ⟨rfl, fun x hx => ?_, _, rfl⟩
        rw [List.take_add_one, e] at hx
        rcases List.mem_append.mp hx with hx | hx
        · exact hn x hx
        · rw [List.mem_singleton.mp hx]
          simpa using hb
  · rintro ρ w1 ⟨rfl, hn, z, rfl⟩
    rw [List.length_map] at hn
    have f : lost gs y = none := List.find?_eq_none.mpr fun x hx => by
      rw [decide_eq_true (hn x (by rw [show (goodsW y.1 y.2.2).length = (gWy y).length from rfl, List.take_length]; exact hx))]
      decide
    exact hb_nil ⟨rNon, [], by rw [f], fun _ => rfl, (List.append_nil _).symm⟩
end
end W1
set_option maxRecDepth 100000
set_option maxHeartbeats 4000000
set_option exponentiation.threshold 20000
namespace W1
open PySem PySem.Spec PyProof.Rows L2 NdefX TL NumText
/-! ### Book(goods, ways) -/
def pBookI (C W M N D U : Addr) : Pre := fun Rs w o w' => ∃ q A1 gs w1 A2 ys w2, SVar A1 w1 (gs.map rStr) ∧ SVar A2 w2 (ys.map (rWy W)) ∧ (∀ g ∈ gs, g.length ≤ 640) ∧ (∀ y ∈ ys, WyOk y) ∧ gs.length ≤ 10000 ∧ ys.length ≤ 10000 ∧ Rs = [rRef q, A1, A2] ∧ w = (q, oIns C []) :: (w1 ++ w2) ∧
  (match bErr gs ys with | none => o = .ok rNon ∧ w' = (q, oIns C (bookF W gs ys)) :: (w1 ++ w2) | some x => o = .error (errB M N D U x) ∧ w' = w)
theorem cutR_take {α : Type} {f : α → Rl} {xs : List α} {k : Nat} (hk : k ≤ xs.length) : cutR (xs.map f) none (some (k : Int)) = (xs.take k).map f := by
  unfold cutR
  rw [HT.sIx_nat, HT.sIx_none, List.length_map, Nat.min_eq_left hk, List.drop_zero, Nat.sub_zero, List.map_take]
theorem numR_map {α : Type} {f : α → Rl} {xs : List α} {k : Nat} {S : Rl} (h : (numR (xs.map f))[k]? = some S) : ∃ x, xs[k]? = some x ∧ S = rTup [rInt (k : Int), f x] := by
  obtain ⟨R, hR, rfl⟩ := numR_get h
  rw [List.getElem?_map] at hR
  cases e : xs[k]? with
  | none => rw [e] at hR; cases hR
  | some x => rw [e] at hR; cases hR; exact ⟨x, rfl, rfl⟩
theorem small_nat {n : Nat} (h : n ≤ 100000) : ((n : Int)).natAbs.log2 < 1920 := by
  rw [Int.natAbs_natCast]
  rcases Nat.eq_zero_or_pos n with z | z
  · rw [z]; decide
  · exact Nat.lt_trans ((Nat.log2_lt (by omega)).mpr (Nat.lt_of_le_of_lt h (by decide : 100000 < 2 ^ 17))) (by decide)
theorem bt_tuple : bootBuiltins "tuple" = some (.type "tuple") := by decide +kernel
theorem lost_some {U : Addr} {gs : List Str} {y : Wy} {g : Str} (c : lost gs y = some g) : (match lost gs y with | none => (.ok rNon : Out) | some g => .error (erF U "name" (rStr g))) = .error (erF U "name" (rStr g)) := by rw [c]
theorem lost_none {U : Addr} {gs : List Str} {y : Wy} (c : lost gs y = none) : (match lost gs y with | none => (.ok rNon : Out) | some g => .error (erF U "name" (rStr g))) = .ok rNon := by rw [c]
section
variable {P : Program} {w : World} {K : PySem.W.Frag} {mg : Str → Option Value} {base : Heap} {W C M N D U f : Addr} {fd : FuncData} {tk1 tk2 : Tok}
theorem kf_binit (Fn : Fun K "__init__" "Book.__init__" s_Book___init__ f fd) (X : BookX K mg C) (Tc : Kf1 P w K mg base "check_goods" 3 (pChkG W U)) (Tn : Kf1 P w K mg base "is_name" 2 pName) (Tm : Ke P w K mg base M "BadNumber" "n" 1 prInt) (Te : Ke P w K mg base N "BadName" "name" 1 prStr) (Td : Ke P w K mg base D "DuplicateName" "name" 1 prStr)
    (gG : mg "MOST_GOODS" = some (.int 4 tk1)) (gW : mg "MOST_WAYS" = some (.int 8 tk2)) (len : mg "len" = none) (en : mg "enumerate" = none) (st : mg "sorted" = none) (tu : mg "tuple" = none) :
    FnOk P w K mg base (L2.CX P w) 5 f fd P_Book___init__ (spM (pBookI C W M N D U)) := by
  refine fn_ok Fn c_Book___init__ (fun _ _ _ _ ⟨_, _, _, _, _, _, _, _, _, _, _, _, _, h, _⟩ => by rw [h]; rfl) ?_
  rintro cdv A outer s H E ⟨_, G0, H0, M', _, tk⟩ hr rfl Rs ω o ω' ⟨q, A1, gs, w1, A2, ys, w2, v1, v2, hg, hy, lg, ly, rfl, rfl, ho⟩
  have nd := c_Book___init__.nd
  have cl := X.cx.cls
  have l1 : ∀ {O : Ol}, Lent w1 ((q, O) :: (w1 ++ w2)) := fun z hz => List.mem_cons_of_mem _ (List.mem_append_left _ hz)
  have l2 : ∀ {O : Ol}, Lent w2 ((q, O) :: (w1 ++ w2)) := fun z hz => List.mem_cons_of_mem _ (List.mem_append_right _ hz)
  have s1 : ∀ {O : Ol}, Sub w1 ((q, O) :: (w1 ++ w2)) := fun {O} => Sub.app.cons
  have len1 : ∀ {O : Ol} {F : Fx}, Cop F ((q, O) :: (w1 ++ w2)) (.builtin "len") [A1] (rInt (gs.length : Int)) := fun {O F} => by
    have := cop_lenQ (F := F) (v1.isq (F := F) (l1 (O := O)))
    rw [List.length_map] at this
    exact this
  have len2 : ∀ {O : Ol} {F : Fx}, Cop F ((q, O) :: (w1 ++ w2)) (.builtin "len") [A2] (rInt (ys.length : Int)) := fun {O F} => by
    have := cop_lenQ (F := F) (v2.isq (F := F) (l2 (O := O)))
    rw [List.length_map] at this
    exact this
  have none_ok : ∀ {x : BE}, bErr gs ys = some x → o = .error (errB M N D U x) ∧ ω' = (q, oIns C []) :: (w1 ++ w2) := fun h => by
    rw [h] at ho
    exact ho
  refine hb_if (b := !(decide (1 ≤ (gs.length : Int)) && decide ((gs.length : Int) ≤ 4))) (tr_not (tr_chain er_int (er_bA (ar_cons (er_v 1 rfl rfl) ar_nil) len bt_len len1) bop_le (fun _ => er_gI gG) fun _ => bop_le)) (fun hb => ?_) (fun hb => hb_nil ?_)
  · have e : bErr gs ys = some (.num gs.length) := by
      unfold bErr
      refine if_neg fun z => ?_
      rw [decide_eq_true (by omega), decide_eq_true (by omega)] at hb
      cases hb
    obtain ⟨rfl, rfl⟩ := none_ok e
    exact hb_err Tm (hr.mono (by decide)) (ar_cons (er_bA (ar_cons (er_v 1 rfl rfl) ar_nil) len bt_len len1) ar_nil) ⟨_, [], rfl, fun _ _ _ h => h, (List.append_nil _).symm⟩ fun v G h => ⟨_, h, small_nat (by omega)⟩
  have hb : 1 ≤ gs.length ∧ gs.length ≤ 4 := by
    rw [Bool.not_eq_false', Bool.and_eq_true] at hb
    have := of_decide_eq_true hb.1
    have := of_decide_eq_true hb.2
    omega
  have e0 : bErr gs ys = match gErr [] gs with | some e => some e | none => if 1 ≤ ys.length ∧ ys.length ≤ 8 then wErr gs ys else some (.num ys.length) := if_pos hb
  refine hb_forP (itp_en (er_v 1 rfl rfl) v1 l1 rfl en) (fun k ρ w => w = (q, oIns C []) :: (w1 ++ w2) ∧ gErr (gs.take k) (gs.drop k) = gErr [] gs ∧ ∃ z1 z2, ρ = [some (rRef q), some A1, some A2, z1, z2, none]) ⟨rfl, rfl, none, none, rfl⟩ (fun k ρ w h => by rw [h.1]; exact l1) ?_ ?_ (passes_of rfl) (pg_tup rfl (pgs_cons (pg_name (i := 3) nd rfl (Or.inl rfl)) (pgs_cons (pg_name (i := 4) nd rfl (Or.inl rfl)) pgs_nil)))
  · rintro k ρ w1' S hS ⟨rfl, hc, z1, z2, rfl⟩
    obtain ⟨g, e, rfl⟩ := numR_map hS
    obtain ⟨hk, ek⟩ := List.getElem?_eq_some_iff.mp e
    have dk : gs.drop k = g :: gs.drop (k + 1) := by rw [List.drop_eq_getElem_cons hk, ek]
    have tk1 : gs.take (k + 1) = gs.take k ++ [g] := by rw [List.take_add_one, e]; rfl
    rw [dk] at hc
    have lgk := hg g (List.mem_of_getElem? e)
    refine ⟨_, ge_tup (ges_cons ge_name (ges_cons ge_name ges_nil)) rfl, ?_⟩
    refine hb_if (tr_not (tr_val (er_fn0 Tn (hr.mono (by decide)) (ar_cons (er_v 4 rfl rfl) ar_nil) (pNameOk lgk)))) (fun hb2 => ?_) (fun hb2 => hb_nil ?_)
    · have hn : ¬ nameL (tl g) = true := by simpa using hb2
      have e2 : bErr gs ys = some (.name g) := by
        rw [e0, ← hc]
        show (match (if nameL (tl g) = true then (if g ∈ gs.take k then some (BE.twice g) else gErr (gs.take k ++ [g]) (gs.drop (k + 1))) else some (BE.name g)) with | some e => some e | none => _) = _
        rw [if_neg hn]
      obtain ⟨rfl, rfl⟩ := none_ok e2
      exact hb_err Te (hr.mono (by decide)) (ar_cons (er_v 4 rfl rfl) ar_nil) ⟨_, [], rfl, fun _ _ _ h => h, (List.append_nil _).symm⟩ fun v G h => ⟨g, h, Nat.le_trans lgk (by decide)⟩
    have hn : nameL (tl g) = true := by simpa using hb2
    have sl : ∀ {F : Fx}, Sop F ((q, oIns C []) :: (w1 ++ w2)) A1 none (some (k : Int)) (rSq ((gs.take k).map rStr)) := fun {F} => by
      have := sop_Q (F := F) (v := none) (u := some (k : Int)) v1 (l1 (O := oIns C []))
      rw [cutR_take (Nat.le_of_lt hk)] at this
      exact this
    refine hb_if (tr_cmp (er_v 4 rfl rfl) (er_slice (er_v 1 rfl rfl) pr_none (pr_some (er_v 3 rfl rfl)) sl) (bop_inQ isq_Q)) (fun hb3 => ?_) (fun hb3 => hb_nil (hb_nil ?_))
    · have hm := of_decide_eq_true hb3
      have e2 : bErr gs ys = some (.twice g) := by
        rw [e0, ← hc]
        show (match (if nameL (tl g) = true then (if g ∈ gs.take k then some (BE.twice g) else gErr (gs.take k ++ [g]) (gs.drop (k + 1))) else some (BE.name g)) with | some e => some e | none => _) = _
        rw [if_pos hn, if_pos hm]
      obtain ⟨rfl, rfl⟩ := none_ok e2
      exact hb_err Td (hr.mono (by decide)) (ar_cons (er_v 4 rfl rfl) ar_nil) ⟨_, [], rfl, fun _ _ _ h => h, (List.append_nil _).symm⟩ fun v G h => ⟨g, h, Nat.le_trans lgk (by decide)⟩
    have hm := of_decide_eq_false hb3
    refine ⟨rfl, ?_, _, _, rfl⟩
    rw [← hc, tk1]
    show _ = (if nameL (tl g) = true then (if g ∈ gs.take k then some (BE.twice g) else gErr (gs.take k ++ [g]) (gs.drop (k + 1))) else some (BE.name g))
    rw [if_pos hn, if_neg hm]
  rintro ρ w1' ⟨rfl, hc, z1, z2, rfl⟩
  rw [numR_len, List.length_map, List.drop_length] at hc
  have hc : none = gErr [] gs := hc
  rw [← hc] at e0
  refine hb_if (b := !(decide (1 ≤ (ys.length : Int)) && decide ((ys.length : Int) ≤ 8))) (tr_not (tr_chain er_int (er_bA (ar_cons (er_v 2 rfl rfl) ar_nil) len bt_len len2) bop_le (fun _ => er_gI gW) fun _ => bop_le)) (fun hb2 => ?_) (fun hb2 => hb_nil ?_)
  · have e : bErr gs ys = some (.num ys.length) := by
      rw [e0]
      refine if_neg fun z => ?_
      rw [decide_eq_true (by omega), decide_eq_true (by omega)] at hb2
      cases hb2
    obtain ⟨rfl, rfl⟩ := none_ok e
    exact hb_err Tm (hr.mono (by decide)) (ar_cons (er_bA (ar_cons (er_v 2 rfl rfl) ar_nil) len bt_len len2) ar_nil) ⟨_, [], rfl, fun _ _ _ h => h, (List.append_nil _).symm⟩ fun v G h => ⟨_, h, small_nat (by omega)⟩
  have hb2 : 1 ≤ ys.length ∧ ys.length ≤ 8 := by
    rw [Bool.not_eq_false', Bool.and_eq_true] at hb2
    have := of_decide_eq_true hb2.1
    have := of_decide_eq_true hb2.2
    omega
  have e1 : bErr gs ys = wErr gs ys := e0.trans (if_pos hb2)
  refine hb_forP (itp_sv (er_v 2 rfl rfl) v2 l2) (fun k ρ w => w = (q, oIns C []) :: (w1 ++ w2) ∧ wErr gs (ys.drop k) = wErr gs ys ∧ ∃ z3, ρ = [some (rRef q), some A1, some A2, z1, z2, z3]) ⟨rfl, rfl, none, rfl⟩ (fun k ρ w h => by rw [h.1]; exact l2) ?_ ?_ (passes_of rfl) (pg_name (i := 5) nd rfl (Or.inl rfl))
  · rintro k ρ w1' S hS ⟨rfl, hd, z3, rfl⟩
    rw [List.getElem?_map] at hS
    cases e : ys[k]? with
    | none => rw [e] at hS; cases hS
    | some y =>
      rw [e] at hS
      cases hS
      obtain ⟨hk, ek⟩ := List.getElem?_eq_some_iff.mp e
      have dk : ys.drop k = y :: ys.drop (k + 1) := by rw [List.drop_eq_getElem_cons hk, ek]
      rw [dk] at hd
      have wk := hy y (List.mem_of_getElem? e)
      refine ⟨_, ge_name, ?_⟩
      cases c : lost gs y with
      | some g =>
        have e2 : bErr gs ys = some (.unk g) := by
          rw [e1, ← hd]
          unfold wErr
          rw [c]
        obtain ⟨rfl, rfl⟩ := none_ok e2
        exact hb_exprX (ex_fS Tc (hr.mono (by decide)) (ar_cons (er_v 1 rfl rfl) (ar_cons (er_v 5 rfl rfl) ar_nil)) s1 ⟨A1, gs, y, v1, wk, rfl, rfl, (lost_some c).symm⟩) ⟨_, [], rfl, fun _ _ _ h => h, (List.append_nil _).symm⟩
      | none =>
        refine hb_expr (er_fS Tc (hr.mono (by decide)) (ar_cons (er_v 1 rfl rfl) (ar_cons (er_v 5 rfl rfl) ar_nil)) s1 ⟨A1, gs, y, v1, wk, rfl, rfl, (lost_none c).symm⟩) (hb_nil ⟨rfl, ?_, _, rfl⟩)
        rw [← hd]
        show _ = (match lost gs y with | some g => some (BE.unk g) | none => wErr gs (ys.drop (k + 1)))
        rw [c]
  rintro ρ w1' ⟨rfl, hd, z3, rfl⟩
  rw [List.length_map, List.drop_length] at hd
  have fin : bErr gs ys = none := e1.trans hd.symm
  rw [fin] at ho
  obtain ⟨rfl, rfl⟩ := ho
  refine hb_fld (q := q) (fs := []) (er_tA (ar_cons (er_bA (ar_cons (er_v 1 rfl rfl) ar_nil) st bt_sorted (cop_sortQ v1 l1 (by omega))) ar_nil) tu bt_tuple cop_tupL) (er_v 0 rfl rfl) cl X.nn ?_
  refine hb_fld (q := q) (fs := [("names", _)]) (er_tA (ar_cons (er_v 2 rfl rfl) ar_nil) tu bt_tuple (cop_tupQ v2 l2)) (er_v 0 rfl rfl) cl X.nw ?_ (hl := Nat.le_of_ble_eq_true rfl)
  exact hb_nil ⟨_, [], rfl, fun _ => rfl, (List.append_nil _).symm⟩
end
end W1
set_option maxRecDepth 100000
set_option maxHeartbeats 4000000
set_option exponentiation.threshold 20000
namespace W1
open PySem PySem.Spec PyProof.Rows L2
/-! ### o != p by the default, from an own __eq__ -/
structure NeM (K : PySem.W.Frag) (C : Addr) : Prop where
  ne : PySem.W.findIn K (.ref C) "__ne__" = some (some (.builtin "object.__ne__"))
  ob : PySem.W.mroIn K C (.type "object") = some true
theorem ty_ne : typeOf (.builtin "object.__ne__") = pure (.type "wrapper_descriptor") := by show builtinType _ = _; rw [builtinType_eq_fast]; kernel_rfl
theorem plain_ne : plainId "object.__ne__" = true := by decide +kernel
section
variable {X : Cx} {pins : List (Addr × Obj)} {σ : L2.St} {H : Hp} {s : Shared} {A : Around} {E : Value → Shared → Prop} {C g a : Addr} {k : Nat} {fd : FuncData} {ps : List Str} {sp : Sp} {fs : List (Str × V)} {dx : Addr}
/-- a special method that is a built-in's slot -/
theorem bound_slot {M : Model} {K : PySem.W.Frag} {x : Addr} {ox : Obj} {od : Option Obj} {name : Str} {id : String} {args : List Value} {Q : Option Value → Shared → Prop} (K0 : K.In s.heap) (J : PySem.W.InstAt s.heap x ox C od) (hs : PySem.W.findIn K (.ref C) name = some (some (.builtin id))) (ty : typeOf (.builtin id) = pure (.type "wrapper_descriptor"))
    (h : wpAny M A (call (.builtin id) (.ref x :: args)) (fun v => Q (some v)) E s) : wpAny M A (callSpecialIfBound? (.ref x) name args) Q E s := by
  have bd : bindSpecial (.builtin id) (.ref x) = pure (.builtin id, [.ref x]) := by
    unfold bindSpecial
    rw [ty]
    rfl
  have fin : wpAny M A (call (.builtin id) ([.ref x] ++ args) >>= fun v => pure (some v)) Q E s := wpAny_bind (wpAny_mono h (fun v s' z => wpAny_pure z) fun _ _ z => z)
  simp only [callSpecialIfBound?, bindSpecialIfBound?]
  refine wpAny_holding (wpAny_bind (wpAny_bind (wpAny_bind (J.type.here ((PySem.W.looks_findIn K0 hs).here ?_)))))
  simp only [bd]
  refine wpAny_bind (wpAny_askSetting (wpAny_ite ?_))
  split
  · exact wpAny_bind (wpAny_pure (wpAny_pure fin))
  · exact wpAny_tryCatch (wpAny_bind (wpAny_pure (wpAny_pure fin)))
theorem objNe_of {prog : Program} {w : World} {A : Around} {E : Value → Shared → Prop} {s : Shared} {a : Addr} {b : Value} {Q : Fin → Shared → Prop} (hu : A.units < cLine)
    (h : wpAny (model prog w) A (callSpecialIfBound? (.ref a) "__eq__" [b]) (fun r s' => ∃ v, r = some (.bool v) ∧ Q (.done (.ret (.bool (!v)))) s') E s) : wpAny (model prog w) A (Builtin.«object.__ne__» ⟨[.ref a, b], []⟩) Q E s := by
  unfold Builtin.«object.__ne__»
  refine wpAny_bind (wpAny_of_eq (a := (Value.ref a, [b])) (by first | rfl | kernel_rfl!) ?_)
  refine wpAny_bind (wpAny_cRoomFor hu ?_)
  refine wpAny_bind (wpAny_mono h (fun r s' z => ?_) fun _ _ x => x)
  obtain ⟨v, rfl, q⟩ := z
  exact wpAny_bind (wpAny_truthy_bool (wpAny_pure q))
theorem ne_own {Q : VK} {b : V} {u t : Value} (m : OwnM X.K C "__eq__" g) (n : NeM X.K C) (F : FnOk X.prog X.w X.K X.mg X.base (L2.CX X.prog X.w) k g fd ps sp) (hr : Room (k + 1) A) (e0 : Env0 X.prog X.w X.K X.mg X.base A X.stack s H) (hb : Binds X.K fd ps []) (I : Inv X pins σ H s)
    (ha : H a = some (.ins C dx fs)) (ry : RelV b u) (ty : TyE X.K H b t) (hn : PySem.W.notFirst X.K C t = true) (q : sp [.ref a, b] H (fun v H' => ∃ r, v = .bl r ∧ Q (.bl (!r)) H') E0) : wpAny (model X.prog X.w) A (richCompare .NotEq (.ref a) u) (EP X pins σ Q) E s := by
  obtain ⟨od, J⟩ := inst_at I ha
  obtain ⟨mm, hF⟩ := I.fr
  have K0 : X.K.In s.heap := I.kIn
  have isob : PySem.W.Looks (model X.prog X.w) s.heap (isInstance (.ref a) (.type "object")) true := J.type.andThen (PySem.W.looks_mroIn K0 n.ob)
  have room : A.in1.units < cLine := hr.in1.units0
  have one : wpAny (model X.prog X.w) A (tryCompare (.ref a) "__ne__" u) (fun r s' => ∃ v, r = some v ∧ EP X pins σ Q v s') E s := by
    unfold tryCompare
    refine wpAny_bind (bound_slot K0 J n.ne ty_ne (wpAny_call (codeAny_call_builtin plain_ne PySem.F.cmpEntry_ne (PySem.W.check_slot PySem.F.cmpKind_ne PySem.F.cmpSplit_ne isob (PySem.F.cmpArgs_ne _ _) ?_))))
    refine objNe_of (b := u) room ?_
    refine PySem.W.ifBound_K (args := [u]) K0 J m.at_ m.fn (wpAny_mono (run_below (us := [.ref a, u]) (vs := [.ref a, b]) F hr.in1 e0.in1 hb I (.cons rfl (.cons ry .nil)) q _) (fun v s' z => ?_) fun _ _ x => x)
    obtain ⟨z', H', I', rz, r, rfl, qz⟩ := z
    cases (show v = Value.bool r from rz)
    exact ⟨r, rfl, wpAny_pure ⟨_, rfl, .bl (!r), H', I', rfl, qz⟩⟩
  unfold richCompare
  simp only [oneThing_ref]
  refine wpAny_holding (wpAny_bind (wpAny_cRoomFor hr.units0 ?_))
  refine wpAny_bind (J.type.here (wpAny_bind ((tye_looks I ry ty).here ?_)))
  split
  · rename_i z
    have e : PySem.W.subIn X.K t (.ref C) = some false := by
      rcases Bool.or_eq_true_iff.mp hn with e | e
      · rw [beq_iff_eq.mp e] at z; simp at z
      · exact beq_iff_eq.mp e
    refine wpAny_bind ((PySem.W.looks_subIn K0 e).here ?_)
    simp only [Bool.false_eq_true, if_false]
    refine wpAny_bind (wpAny_mono one (fun r s' z => ?_) fun _ _ x => x)
    obtain ⟨v, rfl, hq⟩ := z
    exact wpAny_pure hq
  · refine wpAny_bind (wpAny_pure ?_)
    simp only [Bool.false_eq_true, if_false]
    refine wpAny_bind (wpAny_mono one (fun r s' z => ?_) fun _ _ x => x)
    obtain ⟨v, rfl, hq⟩ := z
    exact wpAny_pure hq
def rOwnN (K : PySem.W.Frag) (C : Addr) (sp : Sp) : R2 := fun x y H Q => ∃ a dx vs t, x = .ref a ∧ H a = some (.ins C dx vs) ∧ TyE K H y t ∧ PySem.W.notFirst K C t = true ∧ sp [x, y] H (fun v H' => ∃ r, v = .bl r ∧ Q (.bl (!r)) H') E0
theorem op_ownN (m : OwnM X.K C "__eq__" g) (n : NeM X.K C) (Fn : FnOk X.prog X.w X.K X.mg X.base (L2.CX X.prog X.w) k g fd ps sp) (hr : Room (k + 1) X.A) (hb : Binds X.K fd ps []) : OpR X (compareOp .NotEq) (rOwnN X.K C sp) := by
  intro pins s σ H x y v u Q I rx ry ⟨a, dx, vs, t, ex, ha, ty, hn, q⟩
  subst ex
  cases (show v = Value.ref a from rx)
  show wpAny _ _ (richCompare .NotEq (.ref a) u) _ _ _
  exact ne_own m n Fn hr I.env0 hb I ha ry ty hn q
/-- len(o) by an own __len__ -/
theorem len_own {Q : VK} (m : OwnM X.K C "__len__" g) (Fn : FnOk X.prog X.w X.K X.mg X.base (L2.CX X.prog X.w) k g fd ps sp) (hr : Room k A.in1) (e0 : Env0 X.prog X.w X.K X.mg X.base A.in1 X.stack s H) (hb : Binds X.K fd ps []) (I : Inv X pins σ H s)
    (ha : H a = some (.ins C dx fs)) (q : sp [.ref a] H (fun v H' => ∃ n : Nat, v = .int n ∧ n < 2 ^ 62 ∧ Q (.int n) H') E0) : wpAny (model X.prog X.w) A (call (.builtin "len") [.ref a]) (EP X pins σ Q) E s := by
  obtain ⟨od, J⟩ := inst_at I ha
  refine Calls.call_function_entry PySem.kind_len PySem.plain_len PySem.entry_len (PySem.args_len1 _) ?_
  unfold Builtin.«len»
  refine wpAny_bind (m := oneArg "len" _) (wpAny_pure ?_)
  refine wpAny_bind (PySem.W.special_fn (args := []) I.kIn J m.at_ (beq_iff_eq.mp m.fn) (wpAny_mono (run_below (us := [.ref a]) (vs := [.ref a]) Fn hr e0 hb I (.cons rfl .nil) q _) (fun v s' z => ?_) fun _ _ x => x))
  obtain ⟨z', H', I', rz, n, rfl, hn, qz⟩ := z
  obtain ⟨tk, rfl⟩ := rz
  refine wpAny_bind (wpAny_holding (wpAny_pure ?_))
  refine wpAny_bind (wpAny_letGo ?_)
  show wpAny _ _ (if ((n : Nat) : Int) < 0 then _ else _) _ _ _
  rw [if_neg (by omega)]
  show wpAny _ _ (if ((n : Nat) : Int) ≥ 2 ^ 63 then _ else _) _ _ _
  rw [if_neg (by omega)]
  exact wpAny_bind (wpAny_mkInt (wpAny_pure ⟨_, rfl, .int n, H', I'.tok _, ⟨_, rfl⟩, qz⟩))
def rOwnL (C : Addr) (sp : Sp) : List V → Hp → VK → Prop := fun xs H Q => ∃ a dx vs, xs = [.ref a] ∧ H a = some (.ins C dx vs) ∧ sp [.ref a] H (fun v H' => ∃ n : Nat, v = .int n ∧ n < 2 ^ 62 ∧ Q (.int n) H') E0
theorem call_ownL (m : OwnM X.K C "__len__" g) (Fn : FnOk X.prog X.w X.K X.mg X.base (L2.CX X.prog X.w) k g fd ps sp) (hr : Room (k + 1) X.A) (hb : Binds X.K fd ps []) : CallR X (.builtin "len") (rOwnL C sp) := by
  intro pins s σ H xs us Q I r ⟨a, dx, vs, ex, ha, q⟩
  subst ex
  obtain ⟨u, rfl, ru⟩ := vals1 r
  cases (show u = Value.ref a from ru)
  exact len_own m Fn hr.in1 I.env0.in1 hb I ha q
end
section
variable {F : Fx} {w : Ow} {C : Addr} {k n : Nat} {pre : Pre} {fs : List (Str × Rl)} {B : Rl} {r : Bool}
theorem bop_oN {t : Value} (T : Ko F.X.prog F.X.w F.X.K F.X.mg F.X.base C "__eq__" k pre) (nm : NeM F.X.K C) (hr : Room (k + 1) F.X.A) (hp : pre [rIns C fs, B] [] (.ok (rBool r)) []) (ht : TyR F.X.K B t) (hn : PySem.W.notFirst F.X.K C t = true) : Bop F w (compareOp .NotEq) (rIns C fs) B (rBool (!r)) := by
  obtain ⟨f, fd, ps, h1, h2, h3⟩ := T
  refine ⟨_, op_ownN h1 nm h3 hr h2, fun x y G H at_ hx hy Q q => ?_⟩
  obtain ⟨a, dx, vs, rfl, e1, e2⟩ := id hx
  exact ⟨a, dx, vs, t, rfl, at_.gh _ _ e1, ht y G H at_.gh hy, hn, sp_ok0 at_ (mk2 hx hy) hp fun v G2 H2 s a r2 => ⟨r, r2, q _ G2 H2 s a rfl⟩⟩
theorem cop_oL {m : Nat} (T : Ko F.X.prog F.X.w F.X.K F.X.mg F.X.base C "__len__" k pre) (hr : Room (k + 1) F.X.A) (hp : pre [rIns C fs] [] (.ok (rInt (m : Int))) []) (hm : m < 2 ^ 62) : Cop F w (.builtin "len") [rIns C fs] (rInt (m : Int)) := by
  obtain ⟨f, fd, ps, h1, h2, h3⟩ := T
  refine ⟨_, call_ownL h1 h3 hr h2, fun xs G H at_ hx Q q => ?_⟩
  obtain ⟨x, rfl, hx1⟩ := all1 hx
  obtain ⟨a, dx, vs, rfl, e1, e2⟩ := id hx1
  exact ⟨a, dx, vs, rfl, at_.gh _ _ e1, sp_ok0 (Rs := [rIns C fs]) at_ (mk1 hx1) hp fun v G2 H2 s a r2 => ⟨m, r2, hm, q _ G2 H2 s a rfl⟩⟩
end
end W1
/-! ### == of two tuples of like length, items by what is known of each pair -/
namespace W1Q
open PySem PySem.SeqAt
open AutoSeq1 (wpAny_loadPart')
open MeetsSeq MeetsSeq2 MeetsSeq3 SeqRoads2
section
variable {prog : Program} {w : World} {A : Around} {R : Result → Shared → Prop} {l b : Addr} {e : Nat → Bool} {I : Nat → Shared → Prop}
theorem tup_go {xs ys : Array Value} {m n : Nat} {dx dy : Option Addr} {sx sy : Array (Option Value)} {s : Shared} (sz : xs.size = ys.size) (gx : s.heap.get? l = some { cls := .type "tuple", dict := dx, data := .seq xs m, slots := sx }) (gy : s.heap.get? b = some { cls := .type "tuple", dict := dy, data := .seq ys n, slots := sy })
    (T : ∀ i (h1 : i < xs.size) (h2 : i < ys.size) s, I i s → wpAny (model prog w) A.in1 (eqBool xs[i] ys[i]) (fun r s' => r = e i ∧ I (i + 1) s') (fun v s' => R (.error v) s') s)
    (h : I 0 s) (fin : ∀ j s', I j s' → R (.ok (.ret (.bool (allFrom e 0 xs.size)))) s') :
    wpAny (model prog w) A.in1 (Builtin.«tuple.__eq__» ⟨[.ref l, .ref b], []⟩) (GQ.FinOf prog w A R) (fun v s' => R (.error v) s') s := by
  have kind := AutoSeq1.sub_tuple_tuple
  have both : (xs.toList.zip ys.toList).length = xs.size := by simp [sz]
  have start := h
  obtain ⟨hp, g, d, tk, os⟩ := s
  wp_walk using wpAny_loadPart' gx, wpAny_loadPart' gy, wpAny_forIn_list _ (fun rest b s' => b.1 = none ∧ ∃ i k, i + k = xs.size ∧ rest = (xs.toList.zip ys.toList).drop i ∧ I i s' ∧ ∀ j s', I j s' → R (.ok (.ret (.bool (allFrom e i k)))) s') _
  case turn =>
    rintro ⟨y, x⟩ rest b s' ⟨hb, i, k, ik, hz, hI, hR⟩
    have lt : i < (xs.toList.zip ys.toList).length := Decidable.byContradiction fun z => by
      rw [List.drop_of_length_le (by omega)] at hz
      cases hz
    have h1 : i < xs.size := by omega
    have h2 : i < ys.size := by omega
    rw [List.drop_eq_getElem_cons lt, List.cons.injEq] at hz
    obtain ⟨hyx, hrest⟩ := hz
    obtain rfl : y = xs[i] := by simpa using congrArg Prod.fst hyx
    obtain rfl : x = ys[i] := by simpa using congrArg Prod.snd hyx
    obtain ⟨k, rfl⟩ : ∃ k', k = k' + 1 := ⟨k - 1, by omega⟩
    have hR : ∀ j s', I j s' → R (.ok (.ret (.bool (e i && allFrom e (i + 1) k)))) s' := hR
    refine wpAny_bind (wpAny_mono (T i h1 h2 s' hI) (fun r s2 z => ?_) fun _ _ x => x)
    obtain ⟨rfl, hI2⟩ := z
    cases hy : e i with
    | true =>
      rw [hy, Bool.true_and] at hR
      wp_walk
      exact ⟨rfl, i + 1, k, by omega, hrest, hI2, hR⟩
    | false =>
      rw [hy, Bool.false_and] at hR
      have := hR _ _ hI2
      wp_walk
      exact this
  case fin =>
    rintro ⟨b1, b2⟩ s' ⟨hb, i, k, ik, hz, hI, hR⟩
    simp only at hb
    subst hb
    have k0 : k = 0 := by
      have : (xs.toList.zip ys.toList).length ≤ i := Decidable.byContradiction fun z => by
        rw [List.drop_eq_getElem_cons (by omega)] at hz
        cases hz
      omega
    subst k0
    have this : R (.ok (.ret (.bool true))) s' := hR _ _ hI
    wp_walk
    simpa [Builtin.Tuple.tupleCompareSizes, sz] using this
  case h =>
    exact ⟨rfl, 0, xs.size, by omega, rfl, start, fin⟩
end
end W1Q
set_option maxRecDepth 100000
set_option maxHeartbeats 4000000
set_option exponentiation.threshold 20000
namespace W1
open PySem PySem.Spec PyProof.Rows L2
section
variable {X : Cx} {n : Nat}
theorem tup_obj {pins : List (Addr × Obj)} {σ : L2.St} {H : Hp} {s : Shared} {p : Addr} {vs : List V} (I : Inv X pins σ H s) (h : H p = some (.tup vs)) : ∃ its nn dd sl, Vals vs its ∧ s.heap.get? p = some { cls := .type "tuple", dict := dd, data := .seq its.toArray nn, slots := sl } := by
  obtain ⟨z, its, r, o, e, hc, nn, hd⟩ := (show ObjOk X.prog X.w H s.heap p (.tup vs) from I.hok p _ h)
  obtain ⟨c, dd, da, sl⟩ := o
  obtain rfl : c = _ := hc
  obtain rfl : da = _ := hd
  exact ⟨its, nn, dd, sl, r, e⟩
theorem bop_eqT {F : Fx} {w : Ow} {Rs Ss : List Rl} {e : Nat → Bool} (he : ∀ (i : Nat) R S, Rs[i]? = some R → Ss[i]? = some S → EqB F.X n R S (e i)) (hz : Rs.length = Ss.length) (hr : Room (n + 1) F.X.A) : Bop F w (compareOp .Eq) (rTup Rs) (rTup Ss) (rBool (W1Q.allFrom e 0 Rs.length)) :=
  bop_sem fun pins s σ G H x y u v Q I rx ry sg ax ay q => by
    obtain ⟨p, vs, rfl, h1, h2⟩ := id ax
    obtain ⟨p2, ws, rfl, h3, h4⟩ := id ay
    cases (show u = Value.ref p from rx)
    cases (show v = Value.ref p2 from ry)
    obtain ⟨its, nn, dd, sl, r1, o1⟩ := tup_obj I (sg _ _ h1)
    obtain ⟨its2, nn2, dd2, sl2, r2, o2⟩ := tup_obj I (sg _ _ h3)
    have l1 := h2.len
    have l2 := h4.len
    have l3 := r1.length
    have l4 := r2.length
    have bl : Below F.X n F.X.A.in1 := (⟨hr, rfl⟩ : Below F.X (n + 1) F.X.A).in1
    show wpAny _ _ (richCompare .Eq (.ref p) (.ref p2)) _ _ _
    refine wpAny_richCompare_same_room (op := .Eq) ⟨_, o1, rfl⟩ ⟨_, o2, rfl⟩ PySem.F.slot_tuple_eq (GQ.call_here PySem.F.slot_tuple_eq ⟨_, o1, rfl⟩ PySem.F.entry_tuple_eq (PySem.F.args_tuple_eq_2 _ _) ?_) hr.units0
    refine W1Q.tup_go (e := e) (I := fun _ s' => LoopW F.X pins σ G H s') (by simp only [List.size_toArray]; omega) o1 o2 (fun i a1 a2 s' ⟨G1, H1, I1, st1⟩ => ?_) ⟨G, H, I, Step.refl sg⟩ fun j s' ⟨G', H', I', st⟩ => ?_
    · obtain ⟨R, v, hR, rv, ru⟩ := getOf (h2.up st1.gg) r1 a1
      obtain ⟨S, w', hS, rw', rx⟩ := getOf (h4.up st1.gg) r2 a2
      refine wpAny_mono (he i R S hR hS F.X.A.in1 pins s' σ G1 H1 v w' _ _ _ bl I1 ru rx st1.gh rv rw') (fun r s2 z => ?_) fun _ _ x => x
      obtain ⟨hr, G2, H2, I2, st2⟩ := z
      exact ⟨hr, G2, H2, I2, st1.trans st2⟩
    · rw [show its.toArray.size = Rs.length by simp only [List.size_toArray]; omega]
      exact ⟨(fun z => nomatch z), V.bl _, H', I', rfl, q _ G' H' st rfl⟩
end
end W1
set_option maxRecDepth 100000
set_option maxHeartbeats 2000000
set_option exponentiation.threshold 20000
namespace W1
open PySem PySem.Spec PyProof.Rows L2 NdefX TL NumText
/-! ### the law's draws -/
abbrev Pool := Int × Int × Bool
def oPool (s : Pool) : Ol := oL [rInt s.1, rInt s.2.1, rBool s.2.2]
def drR (s : Pool) (L : Int) : Int := if s.2.2 then s.1.fmod L else (((((s.1 * 7919 + (s.2.1 + 1) * 104729 + 13).fmod 2147483647) ^ 5).fmod 2147483647).fdiv 17).fmod L
def drS (s : Pool) (L : Int) : Pool := (if s.2.2 then s.1.fdiv L else s.1, s.2.1 + 1, s.2.2)
theorem drR_lt {s : Pool} {L : Int} (h : 0 < L) : 0 ≤ drR s L ∧ drR s L < L := by
  unfold drR
  split <;> exact ⟨Int.fmod_nonneg_of_pos _ h, Int.fmod_lt_of_pos _ h⟩
def pBag : PreN := fun Rs w O w' => ∃ c : Int, Rs = [rInt c] ∧ w = [] ∧ w' = [] ∧ O = oPool (c, 0, decide (10 ^ 18 ≤ c))
def pDraw : Pre := fun Rs w o w' => ∃ (q : Addr) (s : Pool) (L : Int), 0 < L ∧ L.natAbs < 2 ^ 9000 ∧ Rs = [rRef q, rInt L] ∧ w = [(q, oPool s)] ∧ w' = [(q, oPool (drS s L))] ∧ o = .ok (rInt (drR s L))
theorem drawOk {q : Addr} {s : Pool} {L : Int} (h : 0 < L) (h2 : L.natAbs < 2 ^ 64) : pDraw [rRef q, rInt L] [(q, oPool s)] (.ok (rInt (drR s L))) [(q, oPool (drS s L))] := ⟨q, s, L, h, lt9000 h2 (by decide), rfl, rfl, rfl, rfl⟩
def atS (ns : List Int) (k : Nat) : Int := ns.getD k 0
def pAt (K : PySem.W.Frag) : Pre := pOk (α := List Int × Nat) (fun _ => True) (fun a => [rScr K (a.1.map V.int), rInt a.2]) (fun a => rInt (atS a.1 a.2))
theorem ixN_at {n : Nat} {k : Nat} (h : k < n) : ixN n (k : Int) = some k := by
  unfold ixN
  rw [if_pos (Int.natCast_nonneg k), if_pos (by omega)]
  simp
/-- an item of a written list, by a draw -/
theorem iop_pick {F : Fx} {w : Ow} {Rs : List Rl} {i : Int} (h0 : 0 ≤ i) (h1 : i < Rs.length) : Iop F w (rLst Rs) (rInt i) (Rs.getD i.toNat rAny) := by
  have e : i = (i.toNat : Int) := by omega
  have hl : i.toNat < Rs.length := by omega
  have ix := ixN_at hl
  rw [← e] at ix
  exact iop_L ix (by rw [List.getD_eq_getElem?_getD, List.getElem?_eq_getElem hl]; rfl)
theorem iop_pickM {α : Type} {F : Fx} {w : Ow} {xs : List α} {A : α → Rl} {i : Int} (d : α) (h0 : 0 ≤ i) (h1 : i < xs.length) : Iop F w (rLst (xs.map A)) (rInt i) (A (xs.getD i.toNat d)) := by
  have e : i = (i.toNat : Int) := by omega
  have hl : i.toNat < xs.length := by omega
  have ix := ixN_at (n := (xs.map A).length) (k := i.toNat) (by rw [List.length_map]; exact hl)
  rw [← e] at ix
  exact iop_L ix (by rw [List.getElem?_map, List.getD_eq_getElem?_getD, List.getElem?_eq_getElem hl]; rfl)
theorem mod_lt {m : Int} : (m.fmod 2147483647).natAbs < 2 ^ 64 := by
  have h1 := Int.fmod_nonneg_of_pos m (show (0 : Int) < 2147483647 by decide)
  have h2 := Int.fmod_lt_of_pos m (show (0 : Int) < 2147483647 by decide)
  have : (2 : Nat) ^ 64 = 18446744073709551616 := by decide
  omega
section
variable {F : Fx} {ρ : Ty} {ω w1 : Ow} {K : Kn} {rest body : List Stmt} {tg it : Expr} {pos : Pos} {α β : Type}
/-- a loop that carries b from turn to turn -/
theorem hb_fold {A : α → Rl} (xs : List α) (st : β → α → β) (b0 : β) (z0 : Option Rl) (i : Nat) (ρf : β → Option Rl → Ty) (wf : β → Ow) (hit : IT F ρ ω tg it (xs.map A) w1) (hρ : ρ = ρf b0 z0) (hw : w1 = wf b0) (hset : ∀ b z R, (ρf b z).set i (some R) = ρf b (some R))
    (hb : ∀ b a, a ∈ xs → HB F (ρf b (some (A a))) (wf b) body (K.loop F rest fun ρ' w' => w' = wf (st b a) ∧ ∃ z, ρ' = ρf (st b a) z)) (hf : ∀ z, HB F (ρf (xs.foldl st b0) z) (wf (xs.foldl st b0)) rest K)
    (hp : PassesOwn (model F.X.prog F.X.w) F.X.A F.X.env F.X.xe) (hpg : PG F.X tg (gName i)) (hc : F.X.calm = true := by rfl) (hfs : ∀ z, foldedSetIterable it F.X.env z = pure z := by intro _; rfl) : HB F ρ ω (.For tg it body [] pos :: rest) K := by
  refine hb_for hit (fun k ρ' w' => w' = wf ((xs.take k).foldl st b0) ∧ ∃ z, ρ' = ρf ((xs.take k).foldl st b0) z) ⟨hw, z0, hρ⟩ ?_ ?_ hp hpg hc hfs
  · rintro k ρ' w' S hS ⟨rfl, z, rfl⟩
    rw [List.getElem?_map] at hS
    cases e : xs[k]? with
    | none => rw [e] at hS; cases hS
    | some a =>
      rw [e] at hS
      cases hS
      have et : xs.take (k + 1) = xs.take k ++ [a] := by rw [List.take_add_one, e]; rfl
      refine ⟨_, ge_name, ?_⟩
      rw [hset]
      have h := hb ((xs.take k).foldl st b0) a (List.mem_of_getElem? e)
      rw [et, List.foldl_append]
      exact h
  · rintro ρ' w' ⟨rfl, z, rfl⟩
    rw [List.length_map, List.take_length]
    exact hf z
end
section
variable {P : Program} {w : World} {K : PySem.W.Frag} {mg : Str → Option Value} {base : Heap} {C B f : Addr} {fd : FuncData}
theorem kf_bag (Fn : Fun K "_law_bag" "_law_bag" s__law_bag f fd) : FnOk P w K mg base (L2.CX P w) 1 f fd P__law_bag (spN pBag) := by
  refine fn_okN Fn c__law_bag (fun _ _ _ _ ⟨_, h, _⟩ => by rw [h]; rfl) ?_
  rintro cdv A outer s H E ⟨_, G0, H0, M, W, tk⟩ hr rfl Rs ω o ω' ⟨c, rfl, rfl, rfl, rfl⟩
  exact hb_retO (en_lst (ar_cons (er_var 0 rfl) (ar_cons er_int (ar_cons (er_cmp (er_var 0 rfl) (er_bin er_int er_int (bop_pow ⟨by decide, by decide, by decide⟩)) bop_ge) ar_nil))) (Nat.le_of_ble_eq_true rfl)) fun q hM => ⟨q, [], fun _ _ h => h, List.not_mem_nil, rfl⟩
theorem kf_at (Fn : Fun K "_law_at_of" "_law_at_of" s__law_at_of f fd) (len : mg "len" = none) : FnOk P w K mg base (L2.CX P w) 1 f fd P__law_at_of (spM (pAt K)) := by
  refine fn_ok Fn c__law_at_of (fun _ _ _ _ ⟨_, _, h, _⟩ => by rw [h]; rfl) ?_
  rintro cdv A outer s H E ⟨_, G0, H0, M, W, tk⟩ hr rfl Rs ω o ω' ⟨⟨ns, k⟩, -, rfl, rfl, rfl, rfl⟩
  refine hb_if (tr_cmp (er_var 1 rfl) (er_callB cop_lenS rfl len bt_len (ar_cons (er_var 0 rfl) ar_nil)) bop_lt) (fun hb => ?_) (fun hb => hb_nil ?_)
  · have h : k < ns.length := by
      have e : (k : Int) < ((ns.map V.int).length : Int) := of_decide_eq_true hb
      rw [List.length_map] at e
      omega
    refine hb_ret (er_ix (er_var 0 rfl) (er_var 1 rfl) (iop_S (v := .int (atS ns k)) ?_)) ⟨_, [], rfl, fun _ _ h => h, rfl⟩
    unfold atI
    rw [List.length_map, ixN_at h]
    show (ns.map V.int)[k]? = _
    rw [List.getElem?_map, List.getElem?_eq_getElem h]
    unfold atS
    rw [List.getD_eq_getElem?_getD, List.getElem?_eq_getElem h]
    rfl
  · have h : ns.length ≤ k := by
      have e : ¬ (k : Int) < ((ns.map V.int).length : Int) := of_decide_eq_false hb
      rw [List.length_map] at e
      omega
    refine hb_ret er_int ⟨_, [], rfl, fun v G z => ?_, rfl⟩
    show v = V.int (atS ns k)
    unfold atS
    rw [List.getD_eq_getElem?_getD, List.getElem?_eq_none h]
    exact z
theorem kf_draw (Fn : Fun K "_law_draw" "_law_draw" s__law_draw f fd) (int : mg "int" = none) : FnOk P w K mg base (L2.CX P w) 1 f fd P__law_draw (spM pDraw) := by
  refine fn_ok Fn c__law_draw (fun _ _ _ _ ⟨_, _, _, _, _, h, _⟩ => by rw [h]; rfl) ?_
  rintro cdv A outer s H E ⟨_, G0, H0, M, W, tk⟩ hr rfl Rs ω o ω' ⟨q, ⟨c, n, g⟩, L, h0, hz, rfl, rfl, rfl, rfl⟩
  refine hb_sub (w3 := []) (er_bin (er_ixO (er_var 0 rfl) er_int List.mem_cons_self rfl rfl) er_int bop_add) (er_var 0 rfl) er_int rfl ?_
  refine hb_if (tr_val (er_ixO (er_var 0 rfl) er_int List.mem_cons_self rfl rfl)) (fun hg => ?_) (fun hg => hb_nil ?_)
  · have hg' : g = true := hg
    subst hg'
    refine hb_set 2 (er_bin (er_callTy cop_int rfl int bt_int (ar_cons (er_ixO (er_var 0 rfl) er_int List.mem_cons_self rfl rfl) ar_nil)) (er_var 1 rfl) (bop_mod (by omega))) ?_ c__law_draw.nd
    refine hb_sub (w3 := []) (er_bin (er_callTy cop_int rfl int bt_int (ar_cons (er_ixO (er_var 0 rfl) er_int List.mem_cons_self rfl rfl) ar_nil)) (er_var 1 rfl) (bop_fdiv (divok (n := 9000) (by omega) hz))) (er_var 0 rfl) er_int rfl ?_
    exact hb_ret (er_var 2 rfl) ⟨_, [], rfl, fun _ _ h => h, rfl⟩
  · have hg' : g = false := hg
    subst hg'
    refine hb_set 3 (er_bin (er_callTy cop_int rfl int bt_int (ar_cons (er_bin (er_bin (er_bin (er_ixO (er_var 0 rfl) er_int List.mem_cons_self rfl rfl) er_int (bop_mul (IntMulOk.of_right (by decide)))) (er_bin (er_ixO (er_var 0 rfl) er_int List.mem_cons_self rfl rfl) er_int (bop_mul (IntMulOk.of_right (by decide)))) bop_add) er_int bop_add) ar_nil)) er_int (bop_mod (by decide))) ?_ c__law_draw.nd
    exact hb_ret (er_bin (er_bin (er_callTy cop_int rfl int bt_int (ar_cons (er_bin (er_bin (er_var 3 rfl) er_int (bop_pow ⟨by decide, by decide, mod_lt⟩)) er_int (bop_mod (by decide))) ar_nil)) er_int (bop_fdiv ⟨by decide, by decide⟩)) (er_var 1 rfl) (bop_mod (by omega))) ⟨_, [], rfl, fun _ _ h => h, rfl⟩
end
end W1
set_option maxRecDepth 100000
set_option maxHeartbeats 2000000
set_option exponentiation.threshold 20000
namespace W1
open PySem PySem.Spec PyProof.Rows L2 NdefX TL NumText
/-! ### the law's good, amounts_of -/
section
variable {F : Fx} {ρ : Ty} {ω w w1 : Ow} {K : Kn} {rest body : List Stmt} {tg it e : Expr} {pos p : Pos} {α β : Type} {Rs : List Rl} {P : Er}
theorem bop_eqE (hr : Room 1 F.X.A) : Bop F w (compareOp .Eq) (rLst Rs) (rLst []) (rBool (decide (Rs = []))) := by
  have h := bop_eqL (F := F) (w := w) (Rs := Rs) (Ss := []) (e := fun _ => true) (n := 0) (fun i R S _ h2 => by simp at h2) hr
  cases Rs with
  | nil => exact h
  | cons a l => exact h
theorem hb_nd (h : (keys w).Nodup → HB F ρ w rest K) : HB F ρ w rest K := fun σ G H D a sl ps => h a.nd σ G H D a sl ps
theorem ex_lst1 (h : EX F ρ ω e P w) (hs : starEach [e] F.X.env = (false, eval e F.X.env) :: starEach [] F.X.env := by rfl) : EX F ρ ω (.List [e] pos) P w := fun σ G H at_ sl k => ew_of (pe_lst (pa_cons (pe_x (t := fun _ _ _ => True)) pa_w hs)) (h σ G H at_ sl k)
/-- a loop that carries b from turn to turn, of which I holds -/
theorem hb_foldI {A : α → Rl} (xs : List α) (st : β → α → β) (b0 : β) (z0 : Option Rl) (i : Nat) (I : β → Prop) (hI0 : I b0) (hI : ∀ b a, I b → a ∈ xs → I (st b a)) (ρf : β → Option Rl → Ty) (wf : β → Ow) (hit : IT F ρ ω tg it (xs.map A) w1) (hρ : ρ = ρf b0 z0) (hw : w1 = wf b0) (hset : ∀ b z R, (ρf b z).set i (some R) = ρf b (some R))
    (hb : ∀ b a, I b → a ∈ xs → HB F (ρf b (some (A a))) (wf b) body (K.loop F rest fun ρ' w' => w' = wf (st b a) ∧ ∃ z, ρ' = ρf (st b a) z)) (hf : ∀ z, I (xs.foldl st b0) → HB F (ρf (xs.foldl st b0) z) (wf (xs.foldl st b0)) rest K)
    (hp : PassesOwn (model F.X.prog F.X.w) F.X.A F.X.env F.X.xe) (hpg : PG F.X tg (gName i)) (hc : F.X.calm = true := by rfl) (hfs : ∀ z, foldedSetIterable it F.X.env z = pure z := by intro _; rfl) : HB F ρ ω (.For tg it body [] pos :: rest) K := by
  have key : ∀ k, I ((xs.take k).foldl st b0) := fun k => by
    have : ∀ (l : List α) (b : β), I b → (∀ a ∈ l, a ∈ xs) → I (l.foldl st b) := by
      intro l
      induction l with
      | nil => intro b h _; exact h
      | cons a l ih => intro b h hl; exact ih _ (hI b a h (hl a List.mem_cons_self)) fun c hc => hl c (List.mem_cons_of_mem _ hc)
    exact this _ _ hI0 fun a ha => List.mem_of_mem_take ha
  refine hb_for hit (fun k ρ' w' => w' = wf ((xs.take k).foldl st b0) ∧ ∃ z, ρ' = ρf ((xs.take k).foldl st b0) z) ⟨hw, z0, hρ⟩ ?_ ?_ hp hpg hc hfs
  · rintro k ρ' w' S hS ⟨rfl, z, rfl⟩
    rw [List.getElem?_map] at hS
    cases e : xs[k]? with
    | none => rw [e] at hS; cases hS
    | some a =>
      rw [e] at hS
      cases hS
      have et : xs.take (k + 1) = xs.take k ++ [a] := by rw [List.take_add_one, e]; rfl
      refine ⟨_, ge_name, ?_⟩
      rw [hset]
      have h := hb ((xs.take k).foldl st b0) a (key k) (List.mem_of_getElem? e)
      rw [et, List.foldl_append]
      exact h
  · rintro ρ' w' ⟨rfl, z, rfl⟩
    have kk := key xs.length
    rw [List.take_length] at kk
    rw [List.length_map, List.take_length]
    exact hf z kk
end
/-- amounts of names drawn -/
structure AmI (ns : List Str) (am : Am) : Prop where
  nd : (namesA am).Nodup
  sub : ∀ g ∈ namesA am, g ∈ ns
  ok : ∀ p ∈ am, 0 ≤ p.2 ∧ p.2 ≤ 10 ^ 20
theorem mem_putA {am : Am} {k : Str} {v : Int} {p : Str × Int} (h : p ∈ putA am k v) : p ∈ am ∨ p = (k, v) := by
  unfold putA at h
  split at h
  · obtain ⟨q, hq, rfl⟩ := List.mem_map.mp h
    by_cases e : q.1 = k
    · rw [if_pos e, e]; exact .inr rfl
    · rw [if_neg e]; exact .inl hq
  · rcases List.mem_append.mp h with h | h
    · exact .inl h
    · exact .inr (List.mem_singleton.mp h)
theorem AmI.put {ns : List Str} {am : Am} {k : Str} {v : Int} (h : AmI ns am) (hk : k ∈ ns) (hv : 0 ≤ v ∧ v ≤ 10 ^ 20) : AmI ns (putA am k v) := by
  refine ⟨?_, fun g hg => ?_, fun p hp => ?_⟩
  · rw [names_put]
    split
    · exact h.nd
    · rename_i e
      refine List.nodup_append.mpr ⟨h.nd, by simp, fun a ha b hb => ?_⟩
      rw [List.mem_singleton.mp hb]
      exact fun z => e (z ▸ ha)
  · rw [names_put] at hg
    split at hg
    · exact h.sub _ hg
    · rcases List.mem_append.mp hg with hg | hg
      · exact h.sub _ hg
      · rw [List.mem_singleton.mp hg]; exact hk
  · rcases mem_putA hp with hp | rfl
    · exact h.ok _ hp
    · exact hv
theorem AmI.nil {ns : List Str} : AmI ns [] := ⟨List.nodup_nil, fun _ h => (by cases h), fun _ h => (by cases h)⟩
theorem sub_len {α : Type} [DecidableEq α] : ∀ {l ns : List α}, l.Nodup → (∀ g ∈ l, g ∈ ns) → l.length ≤ ns.length
  | [], _, _, _ => Nat.zero_le _
  | a :: l, ns, h, k => by
    have h2 := List.nodup_cons.mp h
    have ih := sub_len (ns := ns.erase a) h2.2 fun g hg => (List.mem_erase_of_ne (show g ≠ a from fun z => h2.1 (z ▸ hg))).mpr (k g (List.mem_cons_of_mem _ hg))
    have ha := k a List.mem_cons_self
    rw [List.length_erase_of_mem ha] at ih
    have := List.length_pos_of_mem ha
    rw [List.length_cons]
    omega
theorem AmI.len {ns : List Str} {am : Am} (h : AmI ns am) : am.length ≤ ns.length := by
  have := sub_len h.nd h.sub
  unfold namesA at this
  rw [List.length_map] at this
  exact this
end W1
set_option maxRecDepth 100000
set_option maxHeartbeats 2000000
set_option exponentiation.threshold 20000
namespace W1
open PySem PySem.Spec PyProof.Rows L2 NdefX TL NumText
/-! ### comparing what is owned -/
theorem Step.wide {G H H' : Hp} (sg : Same G H) (hh : Same H H') : Step G H (fun a => if H a = none then H' a else G a) H' where
  gg := fun a o e => by
    show (if H a = none then H' a else G a) = some o
    rw [if_neg (by rw [sg a o e]; simp)]
    exact e
  hh := hh
  gh := fun a o e => by
    have e : (if H a = none then H' a else G a) = some o := e
    by_cases h : H a = none
    · rw [if_pos h] at e; exact e
    · rw [if_neg h] at e; exact hh _ _ (sg _ _ e)
  fr := fun a h1 h2 => by
    show (if H a = none then H' a else G a) = none
    rw [if_neg h1]
    exact h2
section
variable {F : Fx} {ω w : Ow} {A B A' B' R : Rl} {n : Nat} {q : Addr} {b : Bool}
theorem bop_semH {f : Value → Value → Sem Value} (hA : ∀ x G H, At F w G H → A.r x G → A'.r x H) (hB : ∀ x G H, At F w G H → B.r x G → B'.r x H)
    (h : ∀ pins s σ G H x y u v Q, Inv F.X pins σ H s → RelV x u → RelV y v → Same G H → A'.r x G → B'.r y G → (∀ z G' H', Step G H G' H' → (rBool b).r z G' → Q z H') → wpAny (model F.X.prog F.X.w) F.X.A (f u v) (EP F.X pins σ Q) F.X.xe s) : Bop F w f A B (rBool b) :=
  ⟨fun x y H Q => A'.r x H ∧ B'.r y H ∧ ∀ H', Same H H' → Q (V.bl b) H', fun pins s σ H x y v u Q I rx ry ⟨ax, ay, q⟩ => h pins s σ H H x y v u Q I rx ry (Same.refl _) ax ay fun z G' H' st rz => by
      cases (show z = V.bl b from rz)
      exact q H' st.hh,
    fun x y G H at_ ax ay Q q => ⟨hA x G H at_ ax, hB y G H at_ ay, fun H' sh => q _ _ H' (Step.wide at_.gh sh).gg (at_.step (Step.wide at_.gh sh)) rfl⟩⟩
theorem own_lst {Rs : List Rl} (hq : (q, oL Rs) ∈ w) : ∀ x G H, At F w G H → (rRef q).r x G → (rLst Rs).r x H := fun x G H at_ e => by
  obtain ⟨_, _, o, h1, vs, rfl, h2⟩ := at_.ow _ hq
  exact ⟨q, vs, e, h1, h2.up at_.gh⟩
theorem all_true : ∀ n i, W1Q.allFrom (fun _ => true) i n = true
  | 0, _ => rfl
  | n + 1, i => by
    unfold W1Q.allFrom
    rw [all_true n]
    rfl
theorem eqV_str (z : Str) : eqV (.str z) (.str z) = true := by
  show decide _ = true
  exact decide_eq_true rfl
theorem bop_neL1 {xs : List Str} (hr : Room 1 F.X.A) : Bop F w (compareOp .NotEq) (rLst (xs.map rStr)) (rLst (xs.map rStr)) (rBool false) := by
  have h := bop_neL (F := F) (w := w) (Rs := xs.map rStr) (Ss := xs.map rStr) (e := fun _ => true) (n := 0) (fun i R S h1 h2 => by
    rw [h1] at h2
    cases h2
    rw [List.getElem?_map] at h1
    cases e : xs[i]? with
    | none => rw [e] at h1; cases h1
    | some z =>
      rw [e] at h1
      cases h1
      have := eqb_val (X := F.X) (x := .str z) (y := .str z) rfl rfl
      rw [eqV_str] at this
      exact this) hr
  rw [all_true, decide_eq_true rfl] at h
  exact h
theorem bop_neOwn {xs : List Str} (hq : (q, oL (xs.map rStr)) ∈ w) (hr : Room 1 F.X.A) : Bop F w (compareOp .NotEq) (rRef q) (rLst (xs.map rStr)) (rBool false) := by
  refine bop_semH (A' := rLst (xs.map rStr)) (B' := rLst (xs.map rStr)) (own_lst hq) (fun x G H at_ a => (rLst _).mo _ _ _ at_.gh a) fun pins s σ G H x y u v Q I rx ry sg ax ay q => ?_
  obtain ⟨p, vs, rfl, h1, h2⟩ := id ax
  obtain ⟨p2, ws, rfl, h3, h4⟩ := id ay
  cases (show u = Value.ref p from rx)
  cases (show v = Value.ref p2 from ry)
  show wpAny _ _ (richCompare .NotEq (.ref p) (.ref p2)) _ _ _
  refine rcnl (e := fun _ => true) (n := 0) (fun i R S h1 h2 => ?_) ⟨hr, rfl⟩ I sg h1 h3 h2 h4 fun s' ⟨G', H', I', st⟩ => ⟨V.bl false, H', I', ?_, q _ G' H' st rfl⟩
  · rw [h1] at h2
    cases h2
    rw [List.getElem?_map] at h1
    cases e : xs[i]? with
    | none => rw [e] at h1; cases h1
    | some z =>
      rw [e] at h1
      cases h1
      have := eqb_val (X := F.X) (x := .str z) (y := .str z) rfl rfl
      rw [eqV_str] at this
      exact this
  · rw [all_true, decide_eq_true rfl]
    rfl
end
/-! ### what is kept, what is told -/
theorem chk_ok {am : Am} : ∀ {l : List Str}, chkL am l = none → ∀ g ∈ l, nameL (tl g) = true ∧ 0 ≤ valA am g
  | [], _, _, h => by cases h
  | a :: l, h, g, hg => by
    unfold chkL at h
    by_cases h1 : nameL (tl a) = true
    · rw [if_pos h1] at h
      by_cases h2 : valA am a < 0
      · rw [if_pos h2] at h; cases h
      · rw [if_neg h2] at h
        rcases List.mem_cons.mp hg with rfl | hg
        · exact ⟨h1, by omega⟩
        · exact chk_ok h g hg
    · rw [if_neg h1] at h; cases h
theorem val_ge {am : Am} (h : chkL am (srt (namesA am)) = none) (g : Str) : 0 ≤ valA am g := by
  by_cases hg : g ∈ namesA am
  · exact (chk_ok h g ((srt_perm _).mem_iff.mpr hg)).2
  · rw [(valR_An hg).2]; decide
theorem valA_map (v : Str → Int) (g : Str) : ∀ l : List Str, valA (l.map fun x => (x, v x)) g = if g ∈ l then v g else 0
  | [] => rfl
  | a :: l => by
    unfold valA
    rw [List.map_cons, List.find?_cons]
    by_cases h : a = g
    · subst h
      rw [if_pos List.mem_cons_self]
      simp
    · rw [decide_eq_false h]
      have ih := valA_map v g l
      unfold valA at ih
      dsimp only
      rw [ih]
      by_cases hg : g ∈ l
      · rw [if_pos hg, if_pos (List.mem_cons_of_mem _ hg)]
      · rw [if_neg hg, if_neg fun z => (List.mem_cons.mp z).elim (fun e => h e.symm) hg]
theorem val_kept {am : Am} (h : chkL am (srt (namesA am)) = none) (g : Str) : valA (keptA am) g = valA am g := by
  unfold keptA
  rw [valA_map]
  have := val_ge h g
  split
  · rfl
  · rename_i hn
    by_cases hg : g ∈ namesA am
    · have : ¬ 0 < valA am g := fun z => hn (List.mem_filter.mpr ⟨(srt_perm _).mem_iff.mpr hg, decide_eq_true z⟩)
      omega
    · rw [(valR_An hg).2]
theorem names_kept {am : Am} {g : Str} : g ∈ namesA (keptA am) ↔ g ∈ namesA am ∧ 0 < valA am g := by
  unfold keptA namesA
  rw [List.map_map, show ((fun x : Str × Int => x.1) ∘ fun g => (g, valA am g)) = id from rfl, List.map_id]
  unfold keptL
  rw [List.mem_filter, (srt_perm _).mem_iff, decide_eq_true_iff]
  rfl
theorem nodup_kept {am : Am} (h : (namesA am).Nodup) : (namesA (keptA am)).Nodup := by
  unfold keptA namesA
  rw [List.map_map, show ((fun x : Str × Int => x.1) ∘ fun g => (g, valA am g)) = id from rfl, List.map_id]
  exact ((srt_perm _).nodup_iff.mpr h).filter _
theorem goods_eq {t m : Am} (ht : (namesA t).Nodup) (hm : (namesA m).Nodup) (ct : chkL t (srt (namesA t)) = none) (cm : chkL m (srt (namesA m)) = none) :
    goodsW t m = (srt (uniq (namesA t ++ namesA m))).filter fun g => decide (0 < valA t g + valA m g) := by
  unfold goodsW
  obtain ⟨n1, e1⟩ := names_merge (keptA t) [] List.nodup_nil
  obtain ⟨n2, e2⟩ := names_merge (keptA m) (mergeA [] (keptA t)) n1
  refine List.Perm.eq_of_pairwise (le := fun a b => leS a b = true) (fun a b _ _ h1 h2 => leS_anti h1 h2) (srt_pair _) ((srt_pair _).filter _) ?_
  refine (srt_perm _).trans ((List.perm_ext_iff_of_nodup n2 (((srt_perm _).nodup_iff.mpr (uniq_nodup _)).filter _)).mpr fun g => ?_)
  rw [e2, e1, List.mem_filter, (srt_perm _).mem_iff, uniq_mem, List.mem_append, names_kept, names_kept, decide_eq_true_iff]
  have h1 := val_ge ct g
  have h2 := val_ge cm g
  constructor
  · rintro ((h | ⟨h, p⟩) | ⟨h, p⟩)
    · cases h
    · exact ⟨.inl h, by omega⟩
    · exact ⟨.inr h, by omega⟩
  · rintro ⟨h, p⟩
    by_cases k : 0 < valA t g
    · refine .inl (.inr ⟨?_, k⟩)
      refine Decidable.byContradiction fun z => ?_
      rw [(valR_An z).2] at k
      omega
    · have k : 0 < valA m g := by omega
      refine .inr ⟨?_, k⟩
      refine Decidable.byContradiction fun z => ?_
      rw [(valR_An z).2] at k
      omega
theorem kept_len {m : Am} : (keptA m).length = ((namesA m).filter fun g => decide (0 < valA m g)).length := by
  unfold keptA keptL
  rw [List.length_map]
  exact ((srt_perm _).filter _).length_eq
end W1
set_option maxRecDepth 100000
set_option maxHeartbeats 2000000
set_option exponentiation.threshold 20000
namespace W1
open PySem PySem.Spec PyProof.Rows L2 NdefX TL NumText
/-! ### the law's same -/
def sameAm (a b : Am) : Bool := (namesA a ++ namesA b).all fun g => decide (valA a g = valA b g)
theorem same_iff {a b : Am} : sameAm a b = true ↔ ∀ g, valA a g = valA b g := by
  unfold sameAm
  rw [List.all_eq_true]
  constructor
  · intro h g
    by_cases hg : g ∈ namesA a ++ namesA b
    · exact of_decide_eq_true (h g hg)
    · rw [List.mem_append] at hg
      rw [(valR_An fun z => hg (.inl z)).2, (valR_An fun z => hg (.inr z)).2]
  · intro h g _
    exact decide_eq_true (h g)
theorem deq_iff {ls : List (Key × V)} : ∀ {ks : List (Key × V)}, deq ks ls = true ↔ ∀ p ∈ ks, ∃ w, valV ls p.1 = some w ∧ eqV p.2 w = true
  | [] => ⟨fun _ p h => (by cases h), fun _ => rfl⟩
  | (k, v) :: r => by
    unfold deq
    have ih := deq_iff (ls := ls) (ks := r)
    cases e : valV ls k with
    | none =>
      refine ⟨fun h => (by cases h), fun h => ?_⟩
      obtain ⟨w, h1, _⟩ := h (k, v) List.mem_cons_self
      rw [e] at h1
      cases h1
    | some w =>
      dsimp only
      rw [Bool.and_eq_true, ih]
      constructor
      · rintro ⟨h1, h2⟩ p hp
        rcases List.mem_cons.mp hp with rfl | hp
        · exact ⟨w, e, h1⟩
        · exact h2 p hp
      · intro h
        refine ⟨?_, fun p hp => h p (List.mem_cons_of_mem _ hp)⟩
        obtain ⟨w', h1, h2⟩ := h (k, v) List.mem_cons_self
        rw [e] at h1
        cases h1
        exact h2
theorem valV_map (v : Str → Int) (g : Str) : ∀ l : List Str, valV (ksA (l.map fun x => (x, v x))) (.inr g) = if g ∈ l then some (V.int (v g)) else none
  | [] => rfl
  | a :: l => by
    have ih := valV_map v g l
    unfold valV ksA at *
    rw [List.map_cons, List.map_cons, List.find?_cons]
    by_cases h : a = g
    · subst h
      rw [if_pos List.mem_cons_self]
      simp
    · have h2 : decide ((Sum.inr a : Key) = Sum.inr g) = false := decide_eq_false fun z => h (Sum.inr.inj z)
      dsimp only
      rw [h2]
      dsimp only
      rw [ih]
      by_cases hg : g ∈ l
      · rw [if_pos hg, if_pos (List.mem_cons_of_mem _ hg)]
      · rw [if_neg hg, if_neg fun z => (List.mem_cons.mp z).elim (fun e => h e.symm) hg]
theorem mem_keptL {a : Am} {g : Str} : g ∈ keptL a ↔ 0 < valA a g := by
  unfold keptL
  rw [List.mem_filter, (srt_perm _).mem_iff, decide_eq_true_iff]
  refine ⟨fun h => h.2, fun h => ⟨Decidable.byContradiction fun z => ?_, h⟩⟩
  rw [(valR_An z).2] at h
  omega
theorem nodup_keptL {a : Am} (h : (namesA a).Nodup) : (keptL a).Nodup := ((srt_perm _).nodup_iff.mpr h).filter _
theorem eq_same {a b : Am} (na : (namesA a).Nodup) (nb : (namesA b).Nodup) (ca : chkL a (srt (namesA a)) = none) (cb : chkL b (srt (namesA b)) = none) : eqAm (keptA a) (keptA b) = sameAm a b := by
  have la : (ksA (keptA a)).length = (keptL a).length := by unfold ksA keptA; rw [List.length_map, List.length_map]
  have lb : (ksA (keptA b)).length = (keptL b).length := by unfold ksA keptA; rw [List.length_map, List.length_map]
  rw [Bool.eq_iff_iff, same_iff]
  unfold eqAm eqD
  rw [Bool.and_eq_true, decide_eq_true_iff, la, lb, deq_iff]
  have key : (∀ p ∈ ksA (keptA a), ∃ w, valV (ksA (keptA b)) p.1 = some w ∧ eqV p.2 w = true) ↔ ∀ g ∈ keptL a, g ∈ keptL b ∧ valA a g = valA b g := by
    have eb : ∀ g, valV (ksA (keptA b)) (.inr g) = if g ∈ keptL b then some (V.int (valA b g)) else none := fun g => valV_map (valA b) g (keptL b)
    have ev : ∀ x y : Int, eqV (.int x) (.int y) = true ↔ x = y := fun x y => by
      show decide _ = true ↔ _
      rw [decide_eq_true_iff]
    constructor
    · intro h g hg
      obtain ⟨w, h1, h2⟩ := h (.inr g, .int (valA a g)) (List.mem_map.mpr ⟨(g, valA a g), List.mem_map.mpr ⟨g, hg, rfl⟩, rfl⟩)
      rw [eb] at h1
      split at h1
      · rename_i k
        cases h1
        exact ⟨k, (ev _ _).mp h2⟩
      · cases h1
    · intro h p hp
      obtain ⟨q, hq, rfl⟩ := List.mem_map.mp hp
      obtain ⟨g, hg, rfl⟩ := List.mem_map.mp hq
      obtain ⟨k1, k2⟩ := h g hg
      exact ⟨.int (valA b g), by rw [eb, if_pos k1], (ev _ _).mpr k2⟩
  rw [key]
  constructor
  · rintro ⟨hl, h⟩ g
    by_cases ha : g ∈ keptL a
    · exact (h g ha).2
    · have z1 : valA a g = 0 := by
        have h1 := val_ge ca g
        have h2 : ¬ 0 < valA a g := fun z => ha (mem_keptL.mpr z)
        omega
      rw [z1]
      by_cases hb : g ∈ keptL b
      · have := sub_len (nodup_keptL na) (ns := (keptL b).erase g) fun x hx => (List.mem_erase_of_ne (show x ≠ g from fun z => ha (z ▸ hx))).mpr (h x hx).1
        rw [List.length_erase_of_mem hb] at this
        have := List.length_pos_of_mem hb
        omega
      · have h1 := val_ge cb g
        have h2 : ¬ 0 < valA b g := fun z => hb (mem_keptL.mpr z)
        omega
  · intro h
    have hm : ∀ g, g ∈ keptL a ↔ g ∈ keptL b := fun g => by rw [mem_keptL, mem_keptL, h g]
    exact ⟨((List.perm_ext_iff_of_nodup (nodup_keptL na) (nodup_keptL nb)).mpr hm).length_eq, fun g hg => ⟨(hm g).mp hg, h g⟩⟩
def sameR (t : Am) (h : Int) (m t2 : Am) (h2 : Int) (m2 : Am) : Bool := sameAm t t2 && (sameAm m m2 && decide (h = h2))
theorem eqW_same {t m t2 m2 : Am} {h h2 : Int} (a1 : (namesA t).Nodup) (a2 : (namesA m).Nodup) (a3 : (namesA t2).Nodup) (a4 : (namesA m2).Nodup) (c1 : chkL t (srt (namesA t)) = none) (c2 : chkL m (srt (namesA m)) = none) (c3 : chkL t2 (srt (namesA t2)) = none) (c4 : chkL m2 (srt (namesA m2)) = none) : eqW t h m t2 h2 m2 = sameR t h m t2 h2 m2 := by
  unfold eqW sameR
  rw [eq_same a1 a3 c1 c3, eq_same a2 a4 c2 c4]
  cases decide (h = h2) <;> cases sameAm t t2 <;> cases sameAm m m2 <;> rfl
end W1
set_option maxRecDepth 100000
set_option maxHeartbeats 4000000
set_option exponentiation.threshold 20000
namespace W1
open PySem PySem.Spec PyProof.Rows L2 NdefX TL NumText
/-! ### what a book tells -/
structure WyG (y : Wy) : Prop where
  ok : WyOk y
  g1 : AmG y.1
  g2 : AmG y.2.2
  c1 : chkL y.1 (srt (namesA y.1)) = none
  c2 : chkL y.2.2 (srt (namesA y.2.2)) = none
def eqWy (y z : Wy) : Bool := eqW y.1 y.2.1 y.2.2 z.1 z.2.1 z.2.2
theorem ks_inj : ∀ {a b : Am}, ksA a = ksA b → a = b
  | [], [], _ => rfl
  | [], _ :: _, h => by cases h
  | _ :: _, [], h => by cases h
  | p :: a, q :: b, h => by
    unfold ksA at h
    rw [List.map_cons, List.map_cons, List.cons.injEq] at h
    have e := ks_inj (a := a) (b := b) h.2
    have e1 := h.1
    rw [Prod.mk.injEq] at e1
    have e2 : p.1 = q.1 := Sum.inr.inj e1.1
    have e3 : p.2 = q.2 := V.int.inj e1.2
    rw [e, show p = q from Prod.ext e2 e3]
theorem nr_am {H : Hp} {a b : Am} {vs : List (Key × V)} (h1 : NR (fsA a) vs H) (h2 : NR (fsA b) vs H) : a = b := by
  rw [fsA_ks] at h1 h2
  exact ks_inj ((nr_vals h1).symm.trans (nr_vals h2))
theorem dct_am {a b : Am} {v : V} {G : Hp} (h1 : (rDct (fsA a)).r v G) (h2 : (rDct (fsA b)).r v G) : a = b := by
  obtain ⟨p, od, vs, rfl, e1, r1⟩ := h1
  obtain ⟨p', od', ws, e, e2, r2⟩ := h2
  cases e
  rw [e1] at e2
  cases e2
  exact nr_am r1 r2
theorem way_inj {W a : Addr} {y z : Wy} {G : Hp} (h1 : (rWy W y).r (.ref a) G) (h2 : (rWy W z).r (.ref a) G) : keptA y.1 = keptA z.1 ∧ y.2.1 = z.2.1 ∧ keptA y.2.2 = keptA z.2.2 := by
  obtain ⟨p, dx, vs, e, e1, r1⟩ := h1
  obtain ⟨p', dx', ws, e', e2, r2⟩ := h2
  cases e
  cases e'
  rw [e1] at e2
  cases e2
  have two : ∀ {f : Str} {R S : Rl}, (wayF y.1 y.2.1 y.2.2).lookup f = some R → (wayF z.1 z.2.1 z.2.2).lookup f = some S → ∃ v, R.r v G ∧ S.r v G := fun {f R S} hR hS => by
    obtain ⟨v, l1, q1⟩ := r1.look hR
    obtain ⟨v', l2, q2⟩ := r2.look hS
    rw [l1] at l2
    cases l2
    exact ⟨v, q1, q2⟩
  obtain ⟨v1, a1, b1⟩ := two (f := "inputs") rfl rfl
  obtain ⟨v2, a2, b2⟩ := two (f := "hours") rfl rfl
  obtain ⟨v3, a3, b3⟩ := two (f := "outputs") rfl rfl
  have e1 : v2 = V.int y.2.1 := a2
  have e2 : v2 = V.int z.2.1 := b2
  exact ⟨dct_am a1 b1, V.int.inj (e1.symm.trans e2), dct_am a3 b3⟩
theorem eqAm_refl {a : Am} : eqAm (keptA a) (keptA a) = true := by
  unfold eqAm eqD
  rw [Bool.and_eq_true]
  refine ⟨by simp, deq_iff.mpr fun p hp => ?_⟩
  obtain ⟨q, hq, rfl⟩ := List.mem_map.mp hp
  obtain ⟨g, hg, rfl⟩ := List.mem_map.mp hq
  refine ⟨V.int (valA a g), ?_, by show decide _ = true; simp⟩
  show valV (ksA ((keptL a).map fun x => (x, valA a x))) (.inr g) = _
  rw [valV_map, if_pos hg]
theorem eqb_way {F : Fx} {W : Addr} {k : Nat} {y z : Wy} (T : Ko F.X.prog F.X.w F.X.K F.X.mg F.X.base W "__eq__" k (pWEq W)) (hn : PySem.W.notFirst F.X.K W (.ref W) = true) : EqB F.X k (rWy W y) (rWy W z) (eqWy y z) :=
  eqb_o (F := F) (pre := pWEq W) (t := eqWy y z) T (⟨rfl, rfl, y.1, y.2.1, y.2.2, .inl ⟨z.1, z.2.1, z.2.2, rfl, rfl⟩⟩ : pWEq W [rWy W y, rWy W z] [] (.ok (rBool (eqWy y z))) []) (fun a G h1 h2 => by
    obtain ⟨e1, e2, e3⟩ := way_inj h1 h2
    unfold eqWy eqW
    rw [e1, e2, e3, eqAm_refl, eqAm_refl, decide_eq_true rfl]
    rfl) hn
end W1
set_option maxRecDepth 100000
set_option maxHeartbeats 4000000
set_option exponentiation.threshold 20000
namespace W1
open PySem PySem.Spec PyProof.Rows L2 NdefX TL NumText
/-! ### == of tuples of texts -/
theorem zip_strs {xs ys : List Str} : ((List.range (min xs.length ys.length)).all (fun j => decide (xs.getD j Str.empty = ys.getD j Str.empty)) && xs.length == ys.length) = decide (xs = ys) := by
  rw [Bool.eq_iff_iff, Bool.and_eq_true, List.all_eq_true, beq_iff_eq, decide_eq_true_iff]
  constructor
  · rintro ⟨h, hl⟩
    refine List.ext_getElem hl fun i h1 h2 => ?_
    have := of_decide_eq_true (h i (List.mem_range.mpr (by omega)))
    rw [List.getD_eq_getElem?_getD, List.getD_eq_getElem?_getD, List.getElem?_eq_getElem h1, List.getElem?_eq_getElem h2] at this
    exact this
  · rintro rfl
    exact ⟨fun _ _ => decide_eq_true rfl, rfl⟩
theorem bop_eqTS {F : Fx} {w : Ow} {xs ys : List Str} {n : Nat} (hr : Room (n + 1) F.X.A) : Bop F w (compareOp .Eq) (rTup (xs.map rStr)) (rTup (ys.map rStr)) (rBool (decide (xs = ys))) :=
  bop_sem fun pins s σ G H x y u v Q I rx ry sg ax ay q => by
    obtain ⟨p, vs, rfl, h1, h2⟩ := id ax
    obtain ⟨p2, ws, rfl, h3, h4⟩ := id ay
    cases (show u = Value.ref p from rx)
    cases (show v = Value.ref p2 from ry)
    rw [str_vals h2] at h1
    rw [str_vals h4] at h3
    obtain ⟨its, nn, dd, sl, r1, o1⟩ := tup_obj I (sg _ _ h1)
    obtain ⟨its2, nn2, dd2, sl2, r2, o2⟩ := tup_obj I (sg _ _ h3)
    have l3 := r1.length
    have l4 := r2.length
    rw [List.length_map] at l3 l4
    show wpAny _ _ (richCompare .Eq (.ref p) (.ref p2)) _ _ _
    refine SeqAt.rcIn_tuples (items := its.toArray) (items2 := its2.toArray) (e := fun j => decide (xs.getD j Str.empty = ys.getD j Str.empty)) ⟨_, o1, rfl, _, rfl⟩ ⟨_, o2, rfl, _, rfl⟩ hr.units0 (fun j a1 a2 => ?_) ?_
    · have b1 : j < xs.length := by rw [l3]; simpa using a1
      have b2 : j < ys.length := by rw [l4]; simpa using a2
      obtain ⟨c, e1, rc⟩ := r1.get (i := j) (x := V.str xs[j]) (by rw [List.getElem?_map, List.getElem?_eq_getElem b1]; rfl)
      obtain ⟨d, e2, rd⟩ := r2.get (i := j) (x := V.str ys[j]) (by rw [List.getElem?_map, List.getElem?_eq_getElem b2]; rfl)
      have c1 : its.toArray[j] = c := by
        rw [List.getElem?_eq_getElem (by rw [← l3]; exact b1)] at e1
        simpa using Option.some.inj e1
      have c2 : its2.toArray[j] = d := by
        rw [List.getElem?_eq_getElem (by rw [← l4]; exact b2)] at e2
        simpa using Option.some.inj e2
      rw [c1, c2]
      intro E' Q' hq
      have e := eqAt_V (A := F.X.A.in1) (s := s) rc rd rfl rfl F.X.prog F.X.w E' Q'
      refine e ?_
      have : eqV (V.str xs[j]) (V.str ys[j]) = decide (xs.getD j Str.empty = ys.getD j Str.empty) := by
        rw [List.getD_eq_getElem?_getD, List.getD_eq_getElem?_getD, List.getElem?_eq_getElem b1, List.getElem?_eq_getElem b2]
        rfl
      rw [this]
      exact hq
    · have : ((List.range (min its.toArray.size its2.toArray.size)).all (fun j => decide (xs.getD j Str.empty = ys.getD j Str.empty)) && its.toArray.size == its2.toArray.size) = decide (xs = ys) := by
        rw [← zip_strs, List.size_toArray, List.size_toArray, ← l3, ← l4]
      rw [this]
      exact ⟨V.bl _, H, I, rfl, q _ G H (Step.refl sg) rfl⟩
end W1
set_option maxRecDepth 100000
set_option maxHeartbeats 4000000
set_option exponentiation.threshold 20000
namespace W1
open PySem PySem.Spec PyProof.Rows L2 NdefX TL NumText
/-! ### len, iteration, ==, way, check_good, net -/
def wy0 : Wy := ([], 1, [])
def eqBk (gs : List Str) (ys : List Wy) (gs2 : List Str) (ys2 : List Wy) : Bool := decide (srt gs = srt gs2) && W1Q.allFrom (fun i => eqWy (ys.getD i wy0) (ys2.getD i wy0)) 0 ys.length
section
variable (C W : Addr)
def pBLen : Pre := fun Rs w o w' => ∃ gs ys, Rs = [rBook C W gs ys] ∧ w = [] ∧ w' = [] ∧ o = .ok (rInt ((ys.length : Nat) : Int))
def pBEq : Pre := fun Rs w o w' => w = [] ∧ w' = [] ∧ ∃ gs ys, ((∃ gs2 ys2, (srt gs = srt gs2 → ys.length = ys2.length) ∧ Rs = [rBook C W gs ys, rBook C W gs2 ys2] ∧ o = .ok (rBool (eqBk gs ys gs2 ys2))) ∨ (∃ Ss, Rs = [rBook C W gs ys, rLst Ss] ∧ o = .ok (rBool false)))
def pBWay (V : Addr) : Pre := fun Rs w o w' => ∃ gs ys i, i.natAbs.log2 < 1920 ∧ Rs = [rBook C W gs ys, rInt i] ∧ w = [] ∧ w' = [] ∧ o = (if 0 ≤ i ∧ i < ys.length then .ok (rWy W (ys.getD i.toNat wy0)) else .error (erF V "at" (rInt i)))
def pBChk (U : Addr) : Pre := fun Rs w o w' => ∃ gs ys g, g.length ≤ 640 ∧ Rs = [rBook C W gs ys, rStr g] ∧ w = [] ∧ w' = [] ∧ o = (if g ∈ gs then .ok rNon else .error (erF U "name" (rStr g)))
def netW (y : Wy) (g : Str) : Int := valA (keptA y.2.2) g - valA (keptA y.1) g
def pBNet (U V : Addr) : Pre := fun Rs w o w' => ∃ gs ys i g, i.natAbs.log2 < 1920 ∧ g.length ≤ 640 ∧ Rs = [rBook C W gs ys, rInt i, rStr g] ∧ w = [] ∧ w' = [] ∧
  o = (if 0 ≤ i ∧ i < ys.length then (if g ∈ gs then .ok (rInt (netW (ys.getD i.toNat wy0) g)) else .error (erF U "name" (rStr g))) else .error (erF V "at" (rInt i)))
end
theorem ixN_in {n : Nat} {i : Int} (h0 : 0 ≤ i) (h1 : i < (n : Int)) : ixN n i = some i.toNat := by
  obtain ⟨k, rfl⟩ := Int.eq_ofNat_of_zero_le h0
  exact ixN_at (by omega)
theorem getD_wy {ys : List Wy} {k : Nat} (h : k < ys.length) : ys[k]? = some (ys.getD k wy0) := by
  rw [List.getD_eq_getElem?_getD, List.getElem?_eq_getElem h]
  rfl
section
variable {P : Program} {w : World} {K : PySem.W.Frag} {mg : Str → Option Value} {base : Heap} {W C M N D U V f : Addr} {fd : FuncData}
theorem kf_blen (Fn : Fun K "__len__" "Book.__len__" s_Book___len__ f fd) (X : BookX K mg C) (len : mg "len" = none) : FnOk P w K mg base (L2.CX P w) 1 f fd P_Book___len__ (spM (pBLen C W)) := by
  refine fn_ok Fn c_Book___len__ (fun _ _ _ _ ⟨_, _, h, _⟩ => by rw [h]; rfl) ?_
  rintro cdv A outer s H E ⟨_, G0, H0, M', _, tk⟩ hr rfl Rs ω o ω' ⟨gs, ys, rfl, rfl, rfl, rfl⟩
  refine hb_ret (er_bA (ar_cons (er_fld (er_v 0 rfl rfl) X.cx.cls X.nw rfl) ar_nil) len bt_len cop_lenT) ⟨_, [], rfl, fun v G h => ?_, rfl⟩
  rw [List.length_map] at h
  exact h
theorem kf_biter (Fn : Fun K "__iter__" "Book.__iter__" s_Book___iter__ f fd) (X : BookX K mg C) (it : mg "iter" = none) (hb : Binds K fd P_Book___iter__ []) : IterOk P w K mg base C f "ways" 1 := by
  intro A outer s H a t xs hr e0 ⟨dx, fs, ha, hl, ht⟩
  have b := hb s [.ref a] (e0.mod.kin.keeps fun b o e => (e0.bs b o e).1) rfl
  rw [List.append_nil] at b
  refine run_at (vs := [V.ref a]) Fn c_Book___iter__ hr e0 b (.cons rfl .nil) rfl fun cdv => ?_
  refine ⟨_, pss_one (ps_ret (pe_callB (id := "iter") cr_itT rfl it (by decide +kernel) (pa_cons (pe_fld (pe_var (i := 0) rfl (Or.inl rfl)) rfl) pa_nil rfl))), ?_⟩
  exact ⟨V.ref a, rfl, a, C, dx, fs, V.ref t, rfl, ha, X.cx.cls, X.nw, hl, t, xs, rfl, ht, fun it hi hn => ⟨it, rfl, hi, hn, rfl⟩⟩
end
end W1
set_option maxRecDepth 100000
set_option maxHeartbeats 4000000
set_option exponentiation.threshold 20000
namespace W1
open PySem PySem.Spec PyProof.Rows L2 NdefX TL NumText
theorem srt_mem_iff {gs : List Str} {g : Str} : g ∈ srt gs ↔ g ∈ gs := (srt_perm gs).mem_iff
section
variable {P : Program} {w : World} {K : PySem.W.Frag} {mg : Str → Option Value} {base : Heap} {W C M N D U V f : Addr} {fd : FuncData}
theorem kf_beq (Fn : Fun K "__eq__" "Book.__eq__" s_Book___eq__ f fd) (X : BookX K mg C) (Tw : Ko P w K mg base W "__eq__" 2 (pWEq W)) (hn : PySem.W.notFirst K W (.ref W) = true) (ii : mg "isinstance" = none) (kl : PySem.W.kitOne K (.type "list") (.ref C) = some false) : FnOk P w K mg base (L2.CX P w) 4 f fd P_Book___eq__ (spM (pBEq C W)) := by
  refine fn_ok Fn c_Book___eq__ (fun _ _ _ _ ⟨_, _, _, _, h⟩ => by rcases h with ⟨_, _, _, h, _⟩ | ⟨_, h, _⟩ <;> rw [h] <;> rfl) ?_
  rintro cdv A outer s H E ⟨_, G0, H0, M', _, tk⟩ hr rfl Rs ω o ω' ⟨rfl, rfl, gs, ys, ho⟩
  have cl := X.cx.cls
  have cx := X.cx
  have nn := X.nn
  have nw := X.nw
  rcases ho with ⟨gs2, ys2, hl, rfl, rfl⟩ | ⟨Ss, rfl, rfl⟩
  · refine hb_ret (er_and (k := true) (m := eqBk gs ys gs2 ys2) (er_bA (ar_cons (er_v 1 rfl rfl) (ar_cons (er_gC X.gC) ar_nil)) ii bt_isi (cop_isIns cx)) fun _ => ?_) ⟨_, [], rfl, fun v G h => h, rfl⟩
    refine er_and (er_cmp (er_fld (er_v 0 rfl rfl) cl nn rfl) (er_fld (er_v 1 rfl rfl) cl nn rfl) (bop_eqTS (n := 1) (hr.mono (by decide)))) fun hk => ?_
    have hz := hl (of_decide_eq_true hk)
    refine er_one (er_cmp (er_fld (er_v 0 rfl rfl) cl nw rfl) (er_fld (er_v 1 rfl rfl) cl nw rfl) ?_)
    have := bop_eqT (F := ⟨cxOf (L2.CX P w) P w K mg base N_Book___eq__ "Book.__eq__" (defScope s_Book___eq__) f cdv A outer s H E, G0, H0, M', _, tk⟩) (w := []) (Rs := ys.map (rWy W)) (Ss := ys2.map (rWy W)) (e := fun i => eqWy (ys.getD i wy0) (ys2.getD i wy0)) (n := 2) (fun i R S hR hS => ?_) (by rw [List.length_map, List.length_map]; exact hz) hr
    · rw [List.length_map] at this
      exact this
    · rw [List.getElem?_map] at hR hS
      cases e1 : ys[i]? with
      | none => rw [e1] at hR; cases hR
      | some y =>
        cases e2 : ys2[i]? with
        | none => rw [e2] at hS; cases hS
        | some z =>
          rw [e1] at hR
          rw [e2] at hS
          cases hR
          cases hS
          have g1 : ys.getD i wy0 = y := by rw [List.getD_eq_getElem?_getD, e1]; rfl
          have g2 : ys2.getD i wy0 = z := by rw [List.getD_eq_getElem?_getD, e2]; rfl
          rw [g1, g2]
          exact eqb_way Tw hn
  · exact hb_ret (er_and (k := false) (m := false) (er_bA (ar_cons (er_v 1 rfl rfl) (ar_cons (er_gC X.gC) ar_nil)) ii bt_isi (cop_isLst kl)) fun z => Bool.noConfusion z) ⟨_, [], rfl, fun v G h => h, rfl⟩
theorem kf_bway (Fn : Fun K "way" "Book.way" s_Book_way f fd) (X : BookX K mg C) (Tv : Ke P w K mg base V "BadWay" "at" 1 prInt) (len : mg "len" = none) : FnOk P w K mg base (L2.CX P w) 3 f fd P_Book_way (spM (pBWay C W V)) := by
  refine fn_ok Fn c_Book_way (fun _ _ _ _ ⟨_, _, _, _, h, _⟩ => by rw [h]; rfl) ?_
  rintro cdv A outer s H E ⟨_, G0, H0, M', _, tk⟩ hr rfl Rs ω o ω' ⟨gs, ys, i, hi, rfl, rfl, rfl, rfl⟩
  have cl := X.cx.cls
  have nw := X.nw
  have eL : ∀ {F : Fx} {ω : Ow}, Cop F ω (.builtin "len") [rTup (ys.map (rWy W))] (rInt ((ys.length : Nat) : Int)) := fun {F ω} => by
    have := cop_lenT (F := F) (ω := ω) (Rs := ys.map (rWy W))
    rw [List.length_map] at this
    exact this
  refine hb_if (b := !(decide (0 ≤ i) && decide (i < ((ys.length : Nat) : Int)))) (tr_not (tr_chain er_int (er_v 1 rfl rfl) bop_le (fun _ => er_bA (ar_cons (er_fld (er_v 0 rfl rfl) cl nw rfl) ar_nil) len bt_len eL) fun _ => bop_lt)) (fun hb => ?_) (fun hb => hb_nil ?_)
  · have h : ¬ (0 ≤ i ∧ i < ys.length) := fun z => by
      rw [decide_eq_true z.1, decide_eq_true z.2] at hb
      cases hb
    refine hb_err Tv (hr.mono (by decide)) (ar_cons (er_v 1 rfl rfl) ar_nil) ⟨_, [], by rw [if_neg h], fun _ _ _ h => h, rfl⟩ fun v G h => ⟨i, h, hi⟩
  · have h : 0 ≤ i ∧ i < ys.length := by
      rw [Bool.not_eq_false', Bool.and_eq_true] at hb
      exact ⟨of_decide_eq_true hb.1, of_decide_eq_true hb.2⟩
    refine hb_ret (er_ix (er_fld (er_v 0 rfl rfl) cl nw rfl) (er_v 1 rfl rfl) (iop_T (n := i.toNat) (by rw [List.length_map]; exact ixN_in h.1 h.2) (by rw [List.getElem?_map, getD_wy (by omega)]; rfl))) ⟨_, [], by rw [if_pos h], fun v G h => h, rfl⟩
theorem kf_bchk (Fn : Fun K "check_good" "Book.check_good" s_Book_check_good f fd) (X : BookX K mg C) (Tu : Ke P w K mg base U "UnknownName" "name" 1 prStr) : FnOk P w K mg base (L2.CX P w) 3 f fd P_Book_check_good (spM (pBChk C W U)) := by
  refine fn_ok Fn c_Book_check_good (fun _ _ _ _ ⟨_, _, _, _, h, _⟩ => by rw [h]; rfl) ?_
  rintro cdv A outer s H E ⟨_, G0, H0, M', _, tk⟩ hr rfl Rs ω o ω' ⟨gs, ys, g, hg, rfl, rfl, rfl, rfl⟩
  have cl := X.cx.cls
  have nn := X.nn
  refine hb_if (b := !decide (g ∈ srt gs)) (tr_cmp (er_v 1 rfl rfl) (er_fld (er_v 0 rfl rfl) cl nn rfl) (bop_niQ isq_T)) (fun hb => ?_) (fun hb => hb_nil (hb_nil ?_))
  · have h : ¬ g ∈ gs := fun z => by
      rw [decide_eq_true (srt_mem_iff.mpr z)] at hb
      cases hb
    exact hb_err Tu (hr.mono (by decide)) (ar_cons (er_v 1 rfl rfl) ar_nil) ⟨_, [], by rw [if_neg h], fun _ _ _ h => h, rfl⟩ fun v G h => ⟨g, h, Nat.le_trans hg (by decide)⟩
  · have h : g ∈ gs := srt_mem_iff.mp (by simpa using hb)
    exact ⟨rNon, [], by rw [if_pos h], fun _ => rfl, rfl⟩
theorem kf_bnet (Fn : Fun K "net" "Book.net" s_Book_net f fd) (X : BookX K mg C) (XW : WayX K mg W) (Tw : Km P w K mg base C "way" 3 (pBWay C W V)) (Tc : Km P w K mg base C "check_good" 3 (pBChk C W U)) (Tt : Km P w K mg base W "taken" 2 (pTaken W)) (Tm : Km P w K mg base W "made" 2 (pMade W)) : FnOk P w K mg base (L2.CX P w) 4 f fd P_Book_net (spM (pBNet C W U V)) := by
  refine fn_ok Fn c_Book_net (fun _ _ _ _ ⟨_, _, _, _, _, _, h, _⟩ => by rw [h]; rfl) ?_
  rintro cdv A outer s H E ⟨_, G0, H0, M', _, tk⟩ hr rfl Rs ω o ω' ⟨gs, ys, i, g, hi, hg, rfl, rfl, rfl, rfl⟩
  have nd := c_Book_net.nd
  have cl := X.cx.cls
  have clw := XW.cx.cls
  have r2 := hr.mono (show 2 ≤ 3 by decide)
  by_cases h : 0 ≤ i ∧ i < ys.length
  · rw [if_pos h]
    refine hb_setA (w1 := []) 3 rfl (er_m (R := rWy W (ys.getD i.toNat wy0)) Tw cl hr (er_v 0 rfl rfl) (ar_cons (er_v 1 rfl rfl) ar_nil) ⟨gs, ys, i, hi, rfl, rfl, rfl, by rw [if_pos h]⟩) ?_
    by_cases hm : g ∈ gs
    · rw [if_pos hm]
      refine hb_expr (w1 := []) (er_m (R := rNon) Tc cl hr (er_v 0 rfl rfl) (ar_cons (er_v 2 rfl rfl) ar_nil) ⟨gs, ys, g, hg, rfl, rfl, rfl, by rw [if_pos hm]⟩) ?_
      exact hb_ret (er_bin (er_m (pre := pMade W) Tm clw r2 (er_v 3 rfl rfl) (ar_cons (er_v 2 rfl rfl) ar_nil) ⟨_, _, _, g, rfl, rfl, rfl, rfl⟩) (er_m (pre := pTaken W) Tt clw r2 (er_v 3 rfl rfl) (ar_cons (er_v 2 rfl rfl) ar_nil) ⟨_, _, _, g, rfl, rfl, rfl, rfl⟩) bop_sub) ⟨_, [], rfl, fun v G h => h, rfl⟩
    · rw [if_neg hm]
      exact hb_exprX (w1 := []) (ex_m Tc cl hr (er_v 0 rfl rfl) (ar_cons (er_v 2 rfl rfl) ar_nil) ⟨gs, ys, g, hg, rfl, rfl, rfl, by rw [if_neg hm]⟩) ⟨_, [], rfl, fun _ _ _ h => h, rfl⟩
  · rw [if_neg h]
    exact hb_setX (w1 := []) 3 (ex_m Tw cl hr (er_v 0 rfl rfl) (ar_cons (er_v 1 rfl rfl) ar_nil) ⟨gs, ys, i, hi, rfl, rfl, rfl, by rw [if_neg h]⟩) ⟨_, [], rfl, fun _ _ _ h => h, rfl⟩ nd
end
end W1
set_option maxRecDepth 100000
set_option maxHeartbeats 4000000
set_option exponentiation.threshold 20000
namespace W1
open PySem PySem.Spec PyProof.Rows L2 NdefX TL NumText
/-! ### joint, makers -/
def multi (y : Wy) : Bool := !decide ((keptA y.2.2).length = 1)
def jointR (ys : List Wy) : Rl := match ys.findIdx? multi with | some k => rInt (k : Int) | none => rNon
def makesG (g : Str) (p : Wy × Nat) : Bool := decide (0 < valA (keptA p.1.2.2) g)
def makersL (ys : List Wy) (g : Str) : List Int := (ys.zipIdx.filter (makesG g)).map fun p => (p.2 : Int)
section
variable (C W : Addr)
def pBJoint : Pre := fun Rs w o w' => ∃ gs ys, Rs = [rBook C W gs ys] ∧ w = [] ∧ w' = [] ∧ o = .ok (jointR ys)
def pBMakE (U : Addr) : Pre := fun Rs w o w' => ∃ gs ys g, g.length ≤ 640 ∧ ys.length ≤ 100000 ∧ Rs = [rBook C W gs ys, rStr g] ∧ w = [] ∧ w' = [] ∧ o = (if g ∈ gs then .ok (rLst ((makersL ys g).map rInt)) else .error (erF U "name" (rStr g)))
end
theorem numR_zip {W : Addr} {ys : List Wy} : numR (ys.map (rWy W)) = ys.zipIdx.map fun p => rTup [rInt (p.2 : Int), rWy W p.1] := by
  unfold numR
  rw [List.zipIdx_map, List.map_map]
  rfl
theorem it_enumW {F : Fx} {ρ : Ty} {ω w1 : Ow} {e : Expr} {pos p : Pos} {W : Addr} {ys : List Wy} {elts : List Expr} {kk : Nat} {tpos : Pos} (he : AR F ρ ω [e] [rTup (ys.map (rWy W))] w1) (hg : Gl F.X "enumerate") (hm : F.X.mg "enumerate" = none) (hs : starEach [e] F.X.env = [(false, eval e F.X.env)] := by rfl) :
    IT F ρ ω (.Tuple elts kk tpos) (.Call (.Name "enumerate" p) [e] [] pos) (ys.zipIdx.map fun p => rTup [rInt (p.2 : Int), rWy W p.1]) w1 := by
  rw [← numR_zip]
  exact it_enumT he hg hm hs
section
variable {P : Program} {w : World} {K : PySem.W.Frag} {mg : Str → Option Value} {base : Heap} {W C M N D U V f : Addr} {fd : FuncData}
theorem kf_bjoint (Fn : Fun K "joint" "Book.joint" s_Book_joint f fd) (X : BookX K mg C) (XW : WayX K mg W) (Tp : Km P w K mg base W "is_plain" 1 (pPlain W)) (en : mg "enumerate" = none) : FnOk P w K mg base (L2.CX P w) 2 f fd P_Book_joint (spM (pBJoint C W)) := by
  refine fn_ok Fn c_Book_joint (fun _ _ _ _ ⟨_, _, h, _⟩ => by rw [h]; rfl) ?_
  rintro cdv A outer s H E ⟨_, G0, H0, M', _, tk⟩ hr rfl Rs ω o ω' ⟨gs, ys, rfl, rfl, rfl, rfl⟩
  have nd := c_Book_joint.nd
  have cl := X.cx.cls
  have nw := X.nw
  have clw := XW.cx.cls
  refine hb_for (it_enumT (ar_cons (er_fld (er_v 0 rfl rfl) cl nw rfl) ar_nil) rfl en) (fun k ρ w1 => w1 = [] ∧ (∀ y ∈ ys.take k, multi y = false) ∧ ∃ z1 z2, ρ = [some (rBook C W gs ys), z1, z2]) ⟨rfl, fun _ h => (by cases h), none, none, rfl⟩ ?_ ?_ (passes_of rfl) (pg_tup rfl (pgs_cons (pg_name (i := 1) nd rfl (Or.inl rfl)) (pgs_cons (pg_name (i := 2) nd rfl (Or.inl rfl)) pgs_nil)))
  · rintro k ρ w1 S hS ⟨rfl, hc, z1, z2, rfl⟩
    obtain ⟨y, e, rfl⟩ := numR_map hS
    obtain ⟨hk, ek⟩ := List.getElem?_eq_some_iff.mp e
    refine ⟨_, ge_tup (ges_cons ge_name (ges_cons ge_name ges_nil)) rfl, ?_⟩
    refine hb_if (b := multi y) (tr_not (tr_val (er_m0 Tp clw hr (er_v 2 rfl rfl) ⟨_, _, _, rfl, rfl, rfl, rfl⟩))) (fun hb => ?_) (fun hb => hb_nil (hb_nil ?_))
    · have : ys.findIdx? multi = some k := by
        rw [List.findIdx?_eq_some_iff_getElem]
        refine ⟨hk, by rw [ek]; exact hb, fun j hj => ?_⟩
        rw [hc _ (List.mem_iff_getElem.mpr ⟨j, by rw [List.length_take]; omega, by rw [List.getElem_take]⟩)]
        decide
      refine hb_ret (er_v 1 rfl rfl) ⟨_, [], rfl, fun v G h => ?_, rfl⟩
      unfold jointR
      rw [this]
      exact h
    · refine ⟨rfl, fun x hx => ?_, _, _, rfl⟩
      rw [List.take_add_one, e] at hx
      rcases List.mem_append.mp hx with hx | hx
      · exact hc x hx
      · rw [List.mem_singleton.mp hx]; exact hb
  · rintro ρ w1 ⟨rfl, hc, z1, z2, rfl⟩
    rw [numR_len, List.length_map, List.take_length] at hc
    have : ys.findIdx? multi = none := List.findIdx?_eq_none_iff.mpr fun x hx => hc x hx
    refine hb_ret er_non ⟨_, [], rfl, fun v G h => ?_, rfl⟩
    unfold jointR
    rw [this]
    exact h
theorem kf_bmakE (Fn : Fun K "makers" "Book.makers" s_Book_makers f fd) (X : BookX K mg C) (XW : WayX K mg W) (Tc : Km P w K mg base C "check_good" 3 (pBChk C W U)) (Tm : Km P w K mg base W "made" 2 (pMade W)) (en : mg "enumerate" = none) : FnOk P w K mg base (L2.CX P w) 4 f fd P_Book_makers (spM (pBMakE C W U)) := by
  refine fn_ok Fn c_Book_makers (fun _ _ _ _ ⟨_, _, _, _, _, h, _⟩ => by rw [h]; rfl) ?_
  rintro cdv A outer s H E ⟨_, G0, H0, M', _, tk⟩ hr rfl Rs ω o ω' ⟨gs, ys, g, hg, ly, rfl, rfl, rfl, rfl⟩
  have nd := c_Book_makers.nd
  have cl := X.cx.cls
  have nw := X.nw
  have clw := XW.cx.cls
  have r2 := hr.mono (show 2 ≤ 3 by decide)
  by_cases hm : g ∈ gs
  · rw [if_pos hm]
    refine hb_expr (w1 := []) (er_m (R := rNon) Tc cl hr (er_v 0 rfl rfl) (ar_cons (er_v 1 rfl rfl) ar_nil) ⟨gs, ys, g, hg, rfl, rfl, rfl, by rw [if_pos hm]⟩) ?_
    refine hb_ret (er_lcf (xs := ys.zipIdx) (A := fun p => rTup [rInt (p.2 : Int), rWy W p.1]) (B := fun p => rInt (p.2 : Int)) (p := makesG g) (it_enumW (ar_cons (er_fld (er_v 0 rfl rfl) cl nw rfl) ar_nil) rfl en) (by rw [List.length_zipIdx]; exact ly) [("at", 2), ("way", 3)] (blkOk_by (N := N_Book_makers) (sc := defScope s_Book_makers) (by decide +kernel)) (fun _ _ _ _ _ => pg_tup rfl (pgs_cons (pg_name (i := 2) nd rfl (Or.inl rfl)) (pgs_cons (pg_name (i := 3) nd rfl (Or.inl rfl)) pgs_nil))) (fun i p hp => gew_tup2)
      (fun i p hp s H0 cc cl' fp d => tr_cmp (er_m (pre := pMade W) Tm clw r2 (er_v 3 rfl rfl) (ar_cons (er_v 1 rfl rfl) ar_nil) ⟨_, _, _, g, rfl, rfl, rfl, rfl⟩) er_int bop_gt) (fun i p hp _ s H0 cc cl' fp d => er_v 2 rfl rfl) nd) ⟨_, [], rfl, fun v G h => ?_, rfl⟩
    have e : (ys.zipIdx.filter (makesG g)).map (fun p => rInt (p.2 : Int)) = (makersL ys g).map rInt := by
      unfold makersL
      rw [List.map_map]
      rfl
    rw [e] at h
    exact h
  · rw [if_neg hm]
    exact hb_exprX (w1 := []) (ex_m Tc cl hr (er_v 0 rfl rfl) (ar_cons (er_v 1 rfl rfl) ar_nil) ⟨gs, ys, g, hg, rfl, rfl, rfl, by rw [if_neg hm]⟩) ⟨_, [], rfl, fun _ _ _ h => h, rfl⟩
end
end W1
set_option maxRecDepth 100000
set_option maxHeartbeats 4000000
set_option exponentiation.threshold 20000
namespace W1
open PySem PySem.Spec PyProof.Rows L2 NdefX TL NumText
/-! ### [*a, ..], books made of books -/
section
variable {F : Fx} {ρ : Ty} {ω w1 w2 : Ow} {e : Expr} {es : List Expr} {A : Rl} {Rs Ss : List Rl} {p : Pos}
theorem ar_star (he : ER F ρ ω e A w1) (hA : IsSq F A w1 Rs) (hr : AR F ρ w1 es Ss w2) (hs : starEach (.Starred e p :: es) F.X.env = (true, eval e F.X.env) :: starEach es F.X.env := by rfl) : AR F ρ ω (.Starred e p :: es) (Rs ++ Ss) w2 := fun σ G H at_ sl Q q => by
  refine aw_of (StX.pa_star pe_w pa_w hs) (he σ G H at_ sl _ fun v G1 H1 s1 a1 r1 => ?_)
  obtain ⟨t, vs, rfl, h1, h2⟩ := hA v G1 H1 a1 r1
  exact ⟨t, vs, rfl, h1.symm, hr σ G1 H1 a1 (sl.up s1) _ fun us G2 H2 s2 a2 r2 => q _ G2 H2 (s1.trans s2) a2 ((h2.up s2).app r2)⟩
end
def newB (C W M N D U : Addr) (gs : List Str) (ys : List Wy) : Out := match bErr gs ys with | none => .ok (rBook C W gs ys) | some e => .error (errB M N D U e)
structure BkOk (gs : List Str) (ys : List Wy) : Prop where
  nm : ∀ g ∈ gs, g.length ≤ 640
  ok : ∀ y ∈ ys, WyOk y
  lg : gs.length ≤ 1000
  ly : ys.length ≤ 1000
theorem cutR_drop {α : Type} {f : α → Rl} {xs : List α} {k : Nat} (hk : k ≤ xs.length) : cutR (xs.map f) (some (k : Int)) none = (xs.drop k).map f := by
  unfold cutR
  rw [HT.sIx_nat, HT.sIx_none, List.length_map, Nat.min_eq_left hk, ← List.map_drop, List.take_of_length_le (by rw [List.length_map, List.length_drop]; exact Nat.le_refl _)]
section
variable {C W M N D U V : Addr}
def pBWith (C W M N D U : Addr) : Pre := fun Rs w o w' => ∃ gs ys y, BkOk gs ys ∧ ys.length ≤ 8 ∧ WyOk y ∧ Rs = [rBook C W gs ys, rWy W y] ∧ w = [] ∧ w' = [] ∧ o = (if ys.length = 8 then .error (erF M "n" (rInt 9)) else newB C W M N D U (srt gs) (ys ++ [y]))
def pBOut (C W M N D U V : Addr) : Pre := fun Rs w o w' => ∃ gs ys i, BkOk gs ys ∧ ys.length ≤ 8 ∧ i.natAbs.log2 < 1920 ∧ Rs = [rBook C W gs ys, rInt i] ∧ w = [] ∧ w' = [] ∧
  o = (if 0 ≤ i ∧ i < ys.length then (if ys.length = 1 then .error (erF M "n" (rInt 0)) else newB C W M N D U (srt gs) (ys.take i.toNat ++ ys.drop (i.toNat + 1))) else .error (erF V "at" (rInt i)))
end
section
variable {F : Fx} {ρ : Ty} {ω : Ow} {e1 e2 : Expr} {A1 A2 : Rl} {gs : List Str} {ys : List Wy} {C W M N D U : Addr} {rest : List Stmt} {p pos pos' : Pos}
theorem hb_retB (T : Kc F.X.prog F.X.w F.X.K F.X.mg F.X.base C "Book" 5 (pBookI C W M N D U)) (hr : Room 6 F.X.A) (ha : AR F ρ [] [e1, e2] [A1, A2] []) (v1 : SVar A1 [] (gs.map rStr)) (v2 : SVar A2 [] (ys.map (rWy W))) (ok : BkOk gs ys)
    (hg : Gl F.X "Book" := by rfl) (he : starEach [e1, e2] F.X.env = (false, eval e1 F.X.env) :: starEach [e2] F.X.env := by rfl) (hpl : (backTo pos (starEach [e2] F.X.env)).any (·.1) = false := by rfl) :
    HB F ρ [] (.Return (some (.Call (.Name "Book" p) [e1, e2] [] pos)) pos' :: rest) (Kf (newB C W M N D U gs ys) []) := by
  have lg := ok.lg
  have ly := ok.ly
  cases c : bErr gs ys with
  | none =>
    refine hb_ret (er_c (fs := bookF W gs ys) T hr ha (fun q => ⟨q, A1, gs, [], A2, ys, [], v1, v2, ok.nm, ok.ok, by omega, by omega, rfl, rfl, ?_⟩) (hg := hg) (he := he) (hpl := hpl)) ⟨_, [], by unfold newB; rw [c]; rfl, fun v G h => h, rfl⟩
    rw [c]
    exact ⟨rfl, rfl⟩
  | some x =>
    refine hb_retX (ex_c T hr ha (fun q => ⟨oIns C [], q, A1, gs, [], A2, ys, [], v1, v2, ok.nm, ok.ok, by omega, by omega, rfl, rfl, ?_⟩) errB_mo (hg := hg) (he := he) (hpl := hpl)) ⟨_, [], by unfold newB; rw [c], fun _ _ _ h => h, rfl⟩
    rw [c]
    exact ⟨rfl, rfl⟩
end
theorem srt_ok {gs : List Str} {ys zs : List Wy} (h : BkOk gs ys) (hz : ∀ y ∈ zs, WyOk y) (hl : zs.length ≤ 1000) : BkOk (srt gs) zs := ⟨fun g hg => h.nm g (srt_mem_iff.mp hg), hz, by rw [(srt_perm gs).length_eq]; exact h.lg, hl⟩
section
variable {P : Program} {w : World} {K : PySem.W.Frag} {mg : Str → Option Value} {base : Heap} {W C M N D U V f : Addr} {fd : FuncData} {tk2 : Tok}
theorem kf_bwith (Fn : Fun K "with_way" "Book.with_way" s_Book_with_way f fd) (X : BookX K mg C) (Tb : Kc P w K mg base C "Book" 5 (pBookI C W M N D U)) (Tm : Ke P w K mg base M "BadNumber" "n" 1 prInt) (gW : mg "MOST_WAYS" = some (.int 8 tk2)) (len : mg "len" = none) : FnOk P w K mg base (L2.CX P w) 7 f fd P_Book_with_way (spM (pBWith C W M N D U)) := by
  refine fn_ok Fn c_Book_with_way (fun _ _ _ _ ⟨_, _, _, _, _, _, h, _⟩ => by rw [h]; rfl) ?_
  rintro cdv A outer s H E ⟨_, G0, H0, M', _, tk⟩ hr rfl Rs ω o ω' ⟨gs, ys, y, bk, l8, ok, rfl, rfl, rfl, rfl⟩
  have cl := X.cx.cls
  have nw := X.nw
  have nn := X.nn
  have eL : ∀ {F : Fx} {ω : Ow}, Cop F ω (.builtin "len") [rTup (ys.map (rWy W))] (rInt ((ys.length : Nat) : Int)) := fun {F ω} => by
    have := cop_lenT (F := F) (ω := ω) (Rs := ys.map (rWy W))
    rw [List.length_map] at this
    exact this
  refine hb_if (tr_cmp (er_bA (ar_cons (er_fld (er_v 0 rfl rfl) cl nw rfl) ar_nil) len bt_len eL) (er_gI gW) bop_eqI) (fun hb => ?_) (fun hb => hb_nil ?_)
  · have h : ys.length = 8 := by have := of_decide_eq_true hb; omega
    rw [if_pos h]
    exact hb_err Tm (hr.mono (by decide)) (ar_cons (er_bin (er_gI gW) er_int bop_add) ar_nil) ⟨_, [], rfl, fun _ _ _ h => h, rfl⟩ fun v G h => ⟨9, h, by decide⟩
  · have h : ¬ ys.length = 8 := by have := of_decide_eq_false hb; omega
    rw [if_neg h]
    refine hb_retB Tb hr (ar_cons (er_fld (er_v 0 rfl rfl) cl nn rfl) (ar_cons (er_lst (ar_star (er_fld (er_v 0 rfl rfl) cl nw rfl) isq_T (ar_cons (er_v 1 rfl rfl) ar_nil)) (by rw [List.length_append, List.length_map, List.length_cons, List.length_nil]; omega)) ar_nil)) (.inr (.inl ⟨rfl, rfl⟩)) (.inl ⟨by rw [List.map_append]; rfl, rfl⟩) (srt_ok bk (fun z hz => ?_) ?_)
    · rcases List.mem_append.mp hz with hz | hz
      · exact bk.ok z hz
      · rw [List.mem_singleton.mp hz]; exact ok
    · rw [List.length_append, List.length_cons, List.length_nil]; omega
theorem kf_bout (Fn : Fun K "without" "Book.without" s_Book_without f fd) (X : BookX K mg C) (Tb : Kc P w K mg base C "Book" 5 (pBookI C W M N D U)) (Tw : Km P w K mg base C "way" 3 (pBWay C W V)) (Tm : Ke P w K mg base M "BadNumber" "n" 1 prInt) (len : mg "len" = none) : FnOk P w K mg base (L2.CX P w) 7 f fd P_Book_without (spM (pBOut C W M N D U V)) := by
  refine fn_ok Fn c_Book_without (fun _ _ _ _ ⟨_, _, _, _, _, _, h, _⟩ => by rw [h]; rfl) ?_
  rintro cdv A outer s H E ⟨_, G0, H0, M', _, tk⟩ hr rfl Rs ω o ω' ⟨gs, ys, i, bk, l8, hi, rfl, rfl, rfl, rfl⟩
  have cl := X.cx.cls
  have nw := X.nw
  have nn := X.nn
  have eL : ∀ {F : Fx} {ω : Ow}, Cop F ω (.builtin "len") [rTup (ys.map (rWy W))] (rInt ((ys.length : Nat) : Int)) := fun {F ω} => by
    have := cop_lenT (F := F) (ω := ω) (Rs := ys.map (rWy W))
    rw [List.length_map] at this
    exact this
  by_cases h : 0 ≤ i ∧ i < ys.length
  · rw [if_pos h]
    refine hb_expr (w1 := []) (er_m (R := rWy W (ys.getD i.toNat wy0)) Tw cl (hr.mono (by decide)) (er_v 0 rfl rfl) (ar_cons (er_v 1 rfl rfl) ar_nil) ⟨gs, ys, i, hi, rfl, rfl, rfl, by rw [if_pos h]⟩) ?_
    refine hb_if (tr_cmp (er_bA (ar_cons (er_fld (er_v 0 rfl rfl) cl nw rfl) ar_nil) len bt_len eL) er_int bop_eqI) (fun hb => ?_) (fun hb => hb_nil ?_)
    · have h1 : ys.length = 1 := by have := of_decide_eq_true hb; omega
      rw [if_pos h1]
      exact hb_err Tm (hr.mono (by decide)) (ar_cons er_int ar_nil) ⟨_, [], rfl, fun _ _ _ h => h, rfl⟩ fun v G h => ⟨0, h, by decide⟩
    · have h1 : ¬ ys.length = 1 := by have := of_decide_eq_false hb; omega
      rw [if_neg h1]
      obtain ⟨k, rfl⟩ := Int.eq_ofNat_of_zero_le h.1
      have hk : k < ys.length := by omega
      have s1 : ∀ {F : Fx}, Sop F [] (rTup (ys.map (rWy W))) none (some (k : Int)) (rSq ((ys.take k).map (rWy W))) := fun {F} => by
        have := sop_Q (F := F) (w := []) (wc := []) (A := rTup (ys.map (rWy W))) (Rs := ys.map (rWy W)) (v := none) (u := some (k : Int)) (.inr (.inl ⟨rfl, rfl⟩)) (fun _ z => z)
        rw [cutR_take (Nat.le_of_lt hk)] at this
        exact this
      have s2 : ∀ {F : Fx}, Sop F [] (rTup (ys.map (rWy W))) (some ((k : Int) + 1)) none (rSq ((ys.drop (k + 1)).map (rWy W))) := fun {F} => by
        have := sop_Q (F := F) (w := []) (wc := []) (A := rTup (ys.map (rWy W))) (Rs := ys.map (rWy W)) (v := some (((k + 1 : Nat)) : Int)) (u := none) (.inr (.inl ⟨rfl, rfl⟩)) (fun _ z => z)
        rw [cutR_drop (by omega)] at this
        exact this
      refine hb_retB Tb hr (ar_cons (er_fld (er_v 0 rfl rfl) cl nn rfl) (ar_cons (er_lst (ar_star (er_slice (er_fld (er_v 0 rfl rfl) cl nw rfl) pr_none (pr_some (er_v 1 rfl rfl)) s1) isq_Q (ar_star (er_slice (er_fld (er_v 0 rfl rfl) cl nw rfl) (pr_some (er_bin (er_v 1 rfl rfl) er_int bop_add)) pr_none s2) isq_Q ar_nil)) ?_) ar_nil)) (.inr (.inl ⟨rfl, rfl⟩)) (.inl ⟨?_, rfl⟩) (srt_ok bk (fun z hz => ?_) ?_)
      · rw [List.length_append, List.length_append, List.length_map, List.length_map, List.length_take, List.length_drop, List.length_nil]; omega
      · rw [List.append_nil, List.map_append]; rfl
      · rcases List.mem_append.mp hz with hz | hz
        · exact bk.ok z (List.mem_of_mem_take hz)
        · exact bk.ok z (List.mem_of_mem_drop hz)
      · rw [List.length_append, List.length_take, List.length_drop]; omega
  · rw [if_neg h]
    exact hb_exprX (w1 := []) (ex_m Tw cl (hr.mono (by decide)) (er_v 0 rfl rfl) (ar_cons (er_v 1 rfl rfl) ar_nil) ⟨gs, ys, i, hi, rfl, rfl, rfl, by rw [if_neg h]⟩) ⟨_, [], rfl, fun _ _ _ h => h, rfl⟩
end
end W1
set_option maxRecDepth 100000
set_option maxHeartbeats 4000000
set_option exponentiation.threshold 20000
namespace W1
open PySem PySem.Spec PyProof.Rows L2 NdefX TL NumText
/-! ### only -/
def oErr (n : Nat) : Option Int → List Int → Option Int
  | _, [] => none
  | p, a :: r => if 0 ≤ a ∧ a < n then (if (match p with | some b => decide (a ≤ b) | none => false) = true then some a else oErr n (some a) r) else some a
def pick (ys : List Wy) (a : Int) : Wy := ys.getD a.toNat wy0
def pBOnly (C W M N D U V : Addr) : Pre := fun Rs w o w' => ∃ gs ys A ns, BkOk gs ys ∧ ys.length ≤ 8 ∧ (∀ a ∈ ns, a.natAbs.log2 < 1920) ∧ ns.length ≤ 1000 ∧ SVar A [] (ns.map rInt) ∧ Rs = [rBook C W gs ys, A] ∧ w = [] ∧ w' = [] ∧
  o = (if ns.length = 0 then .error (erF M "n" (rInt 0)) else match oErr ys.length none ns with | some a => .error (erF V "at" (rInt a)) | none => newB C W M N D U (srt gs) (ns.map (pick ys)))
theorem it_sv0 {F : Fx} {ρ : Ty} {ω w1 : Ow} {tg it : Expr} {A : Rl} {Rs : List Rl} (he : ER F ρ ω it A w1) (h : SVar A [] Rs) : IT F ρ ω tg it Rs w1 := by
  rcases h with ⟨rfl, _⟩ | ⟨rfl, _⟩ | ⟨q, _, e⟩
  · exact it_lst he
  · exact it_tup he
  · cases e
theorem iop_sv {F : Fx} {w : Ow} {A R : Rl} {Rs : List Rl} {i : Int} {n : Nat} (h : SVar A [] Rs) (e : ixN Rs.length i = some n) (hR : Rs[n]? = some R) : Iop F w A (rInt i) R := by
  rcases h with ⟨rfl, _⟩ | ⟨rfl, _⟩ | ⟨q, _, e⟩
  · exact iop_L e hR
  · exact iop_T e hR
  · cases e
section
variable {P : Program} {w : World} {K : PySem.W.Frag} {mg : Str → Option Value} {base : Heap} {W C M N D U V f : Addr} {fd : FuncData}
theorem kf_bonly (Fn : Fun K "only" "Book.only" s_Book_only f fd) (X : BookX K mg C) (Tb : Kc P w K mg base C "Book" 5 (pBookI C W M N D U)) (Tw : Km P w K mg base C "way" 3 (pBWay C W V)) (Tm : Ke P w K mg base M "BadNumber" "n" 1 prInt) (Tv : Ke P w K mg base V "BadWay" "at" 1 prInt) (len : mg "len" = none) (en : mg "enumerate" = none) : FnOk P w K mg base (L2.CX P w) 7 f fd P_Book_only (spM (pBOnly C W M N D U V)) := by
  refine fn_ok Fn c_Book_only (fun _ _ _ _ ⟨_, _, _, _, _, _, _, _, _, h, _⟩ => by rw [h]; rfl) ?_
  rintro cdv A outer s H E ⟨_, G0, H0, M', _, tk⟩ hr rfl Rs ω o ω' ⟨gs, ys, A1, ns, bk, l8, hi, ln, sv, rfl, rfl, rfl, rfl⟩
  have nd := c_Book_only.nd
  have cl := X.cx.cls
  have nw := X.nw
  have nn := X.nn
  have eL : ∀ {F : Fx}, Cop F [] (.builtin "len") [A1] (rInt ((ns.length : Nat) : Int)) := fun {F} => by
    have := cop_lenQ (F := F) (w := []) (sv.isq (F := F) (w := []) fun _ z => z)
    rw [List.length_map] at this
    exact this
  refine hb_if (tr_cmp (er_bA (ar_cons (er_v 1 rfl rfl) ar_nil) len bt_len eL) er_int bop_eqI) (fun hb => ?_) (fun hb => hb_nil ?_)
  · have h : ns.length = 0 := by have := of_decide_eq_true hb; omega
    rw [if_pos h]
    exact hb_err Tm (hr.mono (by decide)) (ar_cons er_int ar_nil) ⟨_, [], rfl, fun _ _ _ h => h, rfl⟩ fun v G h => ⟨0, h, by decide⟩
  have h0 : ¬ ns.length = 0 := by have := of_decide_eq_false hb; omega
  rw [if_neg h0]
  refine hb_forP (itp_en (er_v 1 rfl rfl) sv (fun _ z => z) rfl en) (fun k ρ w => w = [] ∧ oErr ys.length (if k = 0 then none else some (ns.getD (k - 1) 0)) (ns.drop k) = oErr ys.length none ns ∧ (∀ a ∈ ns.take k, 0 ≤ a ∧ a < ys.length) ∧ ∃ z1 z2, ρ = [some (rBook C W gs ys), some A1, z1, z2]) ⟨rfl, rfl, fun _ h => (by cases h), none, none, rfl⟩ (fun k ρ w h z hz => by cases hz) ?_ ?_ (passes_of rfl) (pg_tup rfl (pgs_cons (pg_name (i := 2) nd rfl (Or.inl rfl)) (pgs_cons (pg_name (i := 3) nd rfl (Or.inl rfl)) pgs_nil)))
  · rintro k ρ w1 S hS ⟨rfl, hc, hin, z1, z2, rfl⟩
    obtain ⟨a, e, rfl⟩ := numR_map hS
    obtain ⟨hk, ek⟩ := List.getElem?_eq_some_iff.mp e
    have dk : ns.drop k = a :: ns.drop (k + 1) := by rw [List.drop_eq_getElem_cons hk, ek]
    have ga : ns.getD k 0 = a := by rw [List.getD_eq_getElem?_getD, e]; rfl
    rw [dk] at hc
    have ha := hi a (List.mem_of_getElem? e)
    refine ⟨_, ge_tup (ges_cons ge_name (ges_cons ge_name ges_nil)) rfl, ?_⟩
    by_cases h : 0 ≤ a ∧ a < ys.length
    · refine hb_expr (w1 := []) (er_m (R := rWy W (ys.getD a.toNat wy0)) Tw cl (hr.mono (by decide)) (er_v 0 rfl rfl) (ar_cons (er_v 3 rfl rfl) ar_nil) ⟨gs, ys, a, ha, rfl, rfl, rfl, by rw [if_pos h]⟩) ?_
      have hc2 : (if (match (if k = 0 then none else some (ns.getD (k - 1) 0)) with | some b => decide (a ≤ b) | none => false) = true then some a else oErr ys.length (some a) (ns.drop (k + 1))) = oErr ys.length none ns := by
        rw [← hc]
        exact (if_pos h).symm
      refine hb_if (b := decide ((k : Int) > 0) && decide (a ≤ ns.getD (k - 1) 0)) (PWR.tr (tr_and (tr_cmp (er_v 2 rfl rfl) er_int bop_gt) fun hk0 => tr_and1 (tr_cmp (er_v 3 rfl rfl) (er_ix (er_v 1 rfl rfl) (er_bin (er_v 2 rfl rfl) er_int bop_sub) (iop_sv (R := rInt (ns.getD (k - 1) 0)) (n := k - 1) sv ?_ ?_)) bop_le))) (fun hb => ?_) (fun hb => hb_nil (hb_nil ?_))
      · have := of_decide_eq_true hk0
        rw [List.length_map, show (k : Int) - 1 = ((k - 1 : Nat) : Int) by omega]
        exact ixN_at (by omega)
      · have := of_decide_eq_true hk0
        rw [List.getElem?_map, List.getElem?_eq_getElem (show k - 1 < ns.length by omega), List.getD_eq_getElem?_getD, List.getElem?_eq_getElem (show k - 1 < ns.length by omega)]
        rfl
      · rw [Bool.and_eq_true] at hb
        have b1 := of_decide_eq_true hb.1
        have k0 : ¬ k = 0 := by omega
        rw [if_neg k0] at hc2
        have : oErr ys.length none ns = some a := by rw [← hc2]; exact if_pos hb.2
        rw [this]
        exact hb_err Tv (hr.mono (by decide)) (ar_cons (er_v 3 rfl rfl) ar_nil) ⟨_, [], rfl, fun _ _ _ h => h, rfl⟩ fun v G h => ⟨a, h, ha⟩
      · have no : ¬ (match (if k = 0 then none else some (ns.getD (k - 1) 0)) with | some b => decide (a ≤ b) | none => false) = true := by
          by_cases k0 : k = 0
          · rw [if_pos k0]; exact Bool.false_ne_true
          · rw [if_neg k0]
            show ¬ decide (a ≤ ns.getD (k - 1) 0) = true
            rw [decide_eq_true (show (k : Int) > 0 by omega), Bool.true_and] at hb
            rw [hb]
            exact Bool.false_ne_true
        rw [if_neg no] at hc2
        refine ⟨rfl, ?_, fun x hx => ?_, _, _, rfl⟩
        · rw [if_neg (Nat.succ_ne_zero k), Nat.add_sub_cancel, ga]
          exact hc2
        · rw [List.take_add_one, e] at hx
          rcases List.mem_append.mp hx with hx | hx
          · exact hin x hx
          · rw [List.mem_singleton.mp hx]; exact h
    · have : oErr ys.length none ns = some a := by rw [← hc]; exact if_neg h
      rw [this]
      exact hb_exprX (w1 := []) (ex_m Tw cl (hr.mono (by decide)) (er_v 0 rfl rfl) (ar_cons (er_v 3 rfl rfl) ar_nil) ⟨gs, ys, a, ha, rfl, rfl, rfl, by rw [if_neg h]⟩) ⟨_, [], rfl, fun _ _ _ h => h, rfl⟩
  rintro ρ w1 ⟨rfl, hc, hin, z1, z2, rfl⟩
  rw [numR_len, List.length_map, List.drop_length] at hc
  rw [numR_len, List.length_map, List.take_length] at hin
  have hn : oErr ys.length none ns = none := hc.symm
  rw [hn]
  refine hb_retB Tb hr (ar_cons (er_fld (er_v 0 rfl rfl) cl nn rfl) (ar_cons (er_lc1 (xs := ns) (A := rInt) (B := fun a => rWy W (pick ys a)) 3 rfl (fun _ _ _ _ _ => pg_name (i := 3) nd rfl (Or.inl rfl)) (blkOk_by (N := N_Book_only) (sc := defScope s_Book_only) (by decide +kernel)) (it_sv0 (er_v 1 rfl rfl) sv) (by omega)
    (fun i a ha s H0 cc cl' fp d => ?_)) ar_nil)) (.inr (.inl ⟨rfl, rfl⟩)) (.inl ⟨by rw [List.map_map]; rfl, rfl⟩) (srt_ok bk (fun z hz => ?_) (by rw [List.length_map]; exact ln))
  · have h := hin a (List.mem_of_getElem? ha)
    exact er_ix (er_fld (er_v 0 rfl rfl) cl nw rfl) (er_v 3 rfl rfl) (iop_T (n := a.toNat) (by rw [List.length_map]; exact ixN_in h.1 h.2) (by rw [List.getElem?_map, getD_wy (by omega)]; rfl))
  · obtain ⟨a, ha, rfl⟩ := List.mem_map.mp hz
    have h := hin a ha
    have : pick ys a ∈ ys := by
      unfold pick
      exact List.mem_of_getElem? (getD_wy (show a.toNat < ys.length by omega))
    exact bk.ok _ this
end
end W1
set_option maxRecDepth 100000
set_option maxHeartbeats 4000000
set_option exponentiation.threshold 20000
namespace W1
open PySem PySem.Spec PyProof.Rows L2 NdefX TL NumText
/-! ### pop, insert, clear of an owned list -/
section
variable {F : Fx} {ρ : Ty} {ω w w1 w2 : Ow} {o e e2 : Expr} {es : List Expr} {A R : Rl} {Rs : List Rl} {q : Addr} {K : Kn} {rest : List Stmt} {p apos pos : Pos} {O : Ol}
theorem All2.erase : ∀ {Rs : List Rl} {vs : List V} {H : Hp} (n : Nat), All2 Rs vs H → All2 (Rs.eraseIdx n) (vs.eraseIdx n) H
  | [], [], _, _, h => h
  | _ :: _, _ :: _, _, 0, ⟨_, h⟩ => h
  | _ :: _, _ :: _, _, n + 1, ⟨a, h⟩ => ⟨a, All2.erase n h⟩
  | [], _ :: _, _, _, h => h.elim
  | _ :: _, [], _, _, h => h.elim
theorem seq_in {i : Int} {n : Nat} (h0 : 0 ≤ i) (h1 : i < (n : Int)) : seqIndex? i n = some i.toNat := by
  unfold seqIndex?
  first
    | (rw [if_neg (by omega)]; simp; omega)
    | (simp; omega)
theorem er_popAt {i : Int} {k : Nat} (ho : ER F ρ ω o (rRef q) w1) (ha : ER F ρ w1 e (rInt i) ((q, oL Rs) :: w2)) (hm : (q, oL Rs) ∈ w1) (h0 : 0 ≤ i) (h1 : i < 2 ^ 62) (hk : seqIndex? i Rs.length = some k) (hR : Rs[k]? = some R)
    (hbase : attributeBase o "pop" F.X.env (eval o F.X.env) = eval o F.X.env := by rfl)
    (hfew : ((backTo p (starEach [e] F.X.env)).all (fun x => !x.1) && (backToKw p (keywordEach [] F.X.env)).all (fun x => x.1.isSome) && decide ([e].length + ([] : List Keyword).length + (if ([] : List Keyword).isEmpty then 0 else 1) < 30)) = true := by rfl)
    (hline : (apos.endLine == p.line) = true := by rfl) (hs : starEach [e] F.X.env = (false, eval e F.X.env) :: starEach [] F.X.env := by rfl) (hplain : (backTo p (starEach [] F.X.env)).any (·.1) = false := by rfl) :
    ER F ρ ω (.Call (.Attribute o "pop" apos) [e] [] p) R ((q, oL (Rs.eraseIdx k)) :: w2) := fun σ G H at_ sl Q r => by
  have ha2 : AR F ρ w1 [e] [rInt i] ((q, oL Rs) :: w2) := ar_cons ha ar_nil hs
  refine ew_of (pe_bm (T := "list") PySem.F.plainAttrs_list PySem.F.slot_list_pop PySem.F.type_list_pop mt_popAt pe_w pa_w hbase hfew hline hs hplain) (ho σ G H at_ sl _ fun x G1 H1 s1 a1 r1 => ?_)
  cases (show x = V.ref q from r1)
  obtain ⟨_, _, ob, h1', vs, e1, _⟩ := a1.ow _ hm
  subst e1
  refine ⟨.inl ⟨rfl, vs, SqL.of h1'⟩, ha2 σ G1 H1 a1 (sl.up s1) _ fun us G2 H2 s2 a2 r2 => ?_⟩
  obtain ⟨v, rfl, rv⟩ := all1 r2
  cases (show v = V.int i from rv)
  obtain ⟨_, _, ob, h3, ws, e3, h4⟩ := a2.ow _ List.mem_cons_self
  subst e3
  obtain ⟨y, hy, ry⟩ := h4.get hR
  refine ⟨q, ws, i, k, y, rfl, rfl, h3, by omega, by omega, ?_, hy, r y G2 _ (s1.trans s2) (a2.chg ⟨_, rfl, h4.erase k⟩) ry⟩
  rw [← h4.len]
  exact hk
theorem hb_insert {i : Int} (ho : ER F ρ ω o (rRef q) w1) (hm : (q, oL Rs) ∈ w1) (ha : AR F ρ w1 [e, e2] [rInt i, R] ((q, oL Rs) :: w2)) (h0 : 0 ≤ i) (h1 : i < 2 ^ 62) (hz : Rs.length ≤ 100000) (h : HB F ρ ((q, oL (Rs.take i.toNat ++ [R] ++ Rs.drop i.toNat)) :: w2) rest K)
    (hsw : swapsWith (.Call (.Attribute o "insert" apos) [e, e2] [] p) none pos.line F.X.env = pure false := by rfl)
    (hbase : attributeBase o "insert" F.X.env (eval o F.X.env) = eval o F.X.env := by rfl)
    (hfew : ((backTo p (starEach [e, e2] F.X.env)).all (fun x => !x.1) && (backToKw p (keywordEach [] F.X.env)).all (fun x => x.1.isSome) && decide ([e, e2].length + ([] : List Keyword).length + (if ([] : List Keyword).isEmpty then 0 else 1) < 30)) = true := by rfl)
    (hline : (apos.endLine == p.line) = true := by rfl) (hs : starEach [e, e2] F.X.env = (false, eval e F.X.env) :: starEach [e2] F.X.env := by rfl) (hplain : (backTo p (starEach [e2] F.X.env)).any (·.1) = false := by rfl) :
    HB F ρ ω (.Expr (.Call (.Attribute o "insert" apos) [e, e2] [] p) pos :: rest) K := hb_cons fun σ G H D at_ sl ps => by
  refine sw_of (ps_expr (pe_bm (T := "list") PySem.F.plainAttrs_list PySem.F.slot_list_insert PySem.F.type_list_insert mt_insert pe_w pa_w hbase hfew hline hs hplain) hsw) (ho σ G H at_ sl _ fun x G1 H1 s1 a1 r1 => ?_)
  cases (show x = V.ref q from r1)
  obtain ⟨_, _, ob, h1', vs, e1, _⟩ := a1.ow _ hm
  subst e1
  refine ⟨.inl ⟨rfl, vs, SqL.of h1'⟩, ha σ G1 H1 a1 (sl.up s1) _ fun us G2 H2 s2 a2 r2 => ?_⟩
  obtain ⟨v, v2, rfl, rv, rv2⟩ := all2 r2
  cases (show v = V.int i from rv)
  obtain ⟨_, _, ob, h3, ws, e3, h4⟩ := a2.ow _ List.mem_cons_self
  subst e3
  have s12 := s1.trans s2
  exact ⟨q, ws, i, v2, rfl, rfl, h3, Nat.lt_of_le_of_lt (by rw [← h4.len]; exact hz) (by decide), h0, by omega, h σ G2 _ D (a2.chg ⟨_, rfl, ((h4.take _).app (mk1 rv2)).app (h4.drop _)⟩) (sl.up s12) (ps.up s12)⟩
theorem hb_lclear (ho : ER F ρ ω o (rRef q) ((q, oL Rs) :: w)) (h : HB F ρ ((q, oL []) :: w) rest K) (hsw : swapsWith (.Call (.Attribute o "clear" apos) [] [] p) none pos.line F.X.env = pure false := by rfl)
    (hbase : attributeBase o "clear" F.X.env (eval o F.X.env) = eval o F.X.env := by rfl) (hline : (apos.endLine == p.line) = true := by rfl) : HB F ρ ω (.Expr (.Call (.Attribute o "clear" apos) [] [] p) pos :: rest) K := hb_cons fun σ G H D at_ sl ps => by
  refine sw_of (ps_expr (pe_bm0 (T := "list") PySem.F.plainAttrs_list PySem.F.slot_list_clear PySem.F.type_list_clear mt_clear pe_w hbase hline) hsw) (ho σ G H at_ sl _ fun x G1 H1 s1 a1 r1 => ?_)
  cases (show x = V.ref q from r1)
  obtain ⟨_, _, ob, h1, vs, rfl, h2⟩ := a1.ow _ List.mem_cons_self
  exact ⟨.inl ⟨rfl, vs, SqL.of h1⟩, q, vs, rfl, rfl, h1, h σ G1 _ D (a1.chg ⟨[], rfl, trivial⟩) (sl.up s1) (ps.up s1)⟩
/-- o.m(..), m a method that makes something new -/
theorem en_mA {C : Addr} {m : Str} {k : Nat} {pre : PreN} {gs : List (Str × Rl)} {As : List Rl} {pl : Sem Bool} (T : Kmn F.X.prog F.X.w F.X.K F.X.mg F.X.base C m k pre) (hc : Cls F.X.K C) (hr : Room k F.X.A) (ho : ER F ρ ω o (rIns C gs) w1) (ha : AR F ρ w1 (e :: es) As w) (hp : pre (rIns C gs :: As) [] O []) (hno : gs.lookup m = none := by rfl)
    (hst : starEach (e :: es) F.X.env = (false, eval e F.X.env) :: starEach es F.X.env := by rfl) (hpl : (backTo pos (starEach es F.X.env)).any (·.1) = false := by rfl)
    (ht : eval (.Call (.Attribute o m apos) (e :: es) [] pos) F.X.env = (do
      let ov ← eval o F.X.env
      standAt apos.atName
      let (f, first) ← holding [ov] (getMethod ov m pl)
      callWith pos f first (backTo pos (starEach (e :: es) F.X.env)) (backToKw pos (keywordEach [] F.X.env))) := by rfl) :
    EN F ρ ω (.Call (.Attribute o m apos) (e :: es) [] pos) O w := fun σ G H at_ sl Q r => by
  obtain ⟨f, fd, ps, hm, hb, Fn⟩ := T
  refine ew_of (pe_methS (E := WE F.W) pe_w hc hm Fn hr hb passW pa_w hst hpl ht) (ho σ G H at_ sl _ fun v G1 H1 s1 a1 r1 => ?_)
  obtain ⟨a, dx, vs, rfl, h1, h2⟩ := id r1
  refine ⟨a, dx, vs, rfl, a1.gh _ _ h1, h2.lookN hno, ha σ G1 H1 a1 (sl.up s1) _ fun us G2 H2 s2 a2 r2 => ?_⟩
  refine ⟨rIns C gs :: As, [], O, [], G2, hp, a2.gh, ⟨(rIns C gs).mo _ _ _ s2 r1, r2⟩, fun _ h => (by cases h), List.nodup_nil, rfl, fun q2 G3 H3 hq st hh => ?_⟩
  obtain ⟨hM, a3⟩ := At.newcall (wc := []) (wc' := []) (w := w) a2 st hq hh rfl
  exact r q2 G3 H3 hM ((s1.trans s2).trans st.gg) a3
end
end W1
set_option maxRecDepth 100000
set_option maxHeartbeats 4000000
set_option exponentiation.threshold 20000
namespace W1
open PySem PySem.Spec PyProof.Rows L2 NdefX TL NumText
/-! ### a comprehension as a new list; makers as a new list -/
section
variable {F : Fx} {ρ : Ty} {ω w1 : Ow} {tg it elt c : Expr} {pos spos : Pos} {scope : Scope} {own : List (Str × Nat)} {g : TG} {ifs : List Expr} {α : Type}
theorem lc_genN {xs : List α} {A B : α → Rl} {p : α → Bool} {wi : TI} {tt : TT} {ρ' : α → Ty}
    (hwi : ∀ σ G H, At F ω G H → Slots ρ σ G → ∀ R : It → Hp → Prop, (∀ J G2 H2, Same G G2 → At F w1 G2 H2 → Yld J (xs.map A) G2 → R J H2) → wi σ H R) (hz : xs.length ≤ 100000)
    (hge : ∀ (i : Nat) a, xs[i]? = some a → GEw g (own.map (·.2)) ρ (A a) (ρ' a))
    (htt : ∀ (i : Nat) a, xs[i]? = some a → ∀ d σ2 G H, At F (d :: w1) G H → Slots (ρ' a) σ2 G → ∀ Q : Bool → Hp → Prop, (∀ G3 H3, Same G G3 → At F (d :: w1) G3 H3 → Q (p a) H3) → tt σ2 H Q)
    (he : ∀ (i : Nat) a, xs[i]? = some a → p a = true → ∀ s H0 C cl fp d, ER (blkF F s H0 scope C cl fp) (ρ' a) (d :: w1) elt (B a) (d :: w1))
    {σ : L2.St} {G H : Hp} (at_ : At F ω G H) (sl : Slots ρ σ G) {Q : VK} (q : ∀ D G2 H2, D ∉ F.M → Same G G2 → At F ((D, oL ((xs.filter p).map B)) :: w1) G2 H2 → Q (.ref D) H2) :
    tLc wi g tt (fun σ H Q => ∀ s H0 C cl fp, EW (F.X.blk s H0 scope (compEnvC scope cl C F.X.env) fp) elt σ H Q) (own.map (·.2)) σ H Q := by
  refine hwi σ G H at_ sl _ fun J G2 H2 s2 a2 y2 => fun D hD => ?_
  have hM : D ∉ F.M := fun hm => a2.mm D hm hD
  refine ⟨fun i m H => m = xs.length - i ∧ i ≤ xs.length ∧ ∃ G, At F ((D, oL (((xs.take i).filter p).map B)) :: w1) G H ∧ Same G2 G, ⟨xs.length, by simp, Nat.zero_le _, G2, a2.own hD ⟨[], rfl, trivial⟩, Same.refl _⟩, ?_⟩
  rintro i m H1 ⟨rfl, hi, G1, a1, s1⟩
  have hlen : (xs.map A).length = xs.length := List.length_map _
  by_cases hlt : i < xs.length
  · have hgo : xs[i]? = some xs[i] := List.getElem?_eq_getElem hlt
    have htake : xs.take (i + 1) = xs.take i ++ [xs[i]] := by rw [List.take_add_one, hgo]; rfl
    refine .inr ⟨y2.go i G1 H1 s1 a1.gh (by rw [hlen]; exact hlt), fun H' => ∃ G, At F ((D, oL (((xs.take (i + 1)).filter p).map B)) :: w1) G H' ∧ Same G2 G, fun H' z => ⟨xs.length - (i + 1), by omega, rfl, hlt, z⟩, fun x H' y => ?_⟩
    obtain ⟨G3, st, rx⟩ := y2.yld i (A xs[i]) G1 H1 x H' s1 a1.gh (by rw [List.getElem?_map, hgo]; rfl) y
    have a3 := a1.step st
    have s3 := s1.trans st.gg
    refine hge i _ hgo x σ G3 H' _ a3.gh ((sl.up s2).up s3) rx fun σ2 hw sl2 => ⟨hw, htt i _ hgo _ σ2 G3 H' a3 sl2 _ fun G4 H4 s4 a4 => ?_⟩
    cases hp : p xs[i] with
    | false =>
      refine iteF ⟨G4, ?_, s3.trans s4⟩
      rw [htake, List.filter_append, List.filter_cons, hp]
      simp only [Bool.false_eq_true, if_false, List.filter_nil, List.append_nil]
      exact a4
    | true =>
      refine iteT fun s H0 C cl fp => he i _ hgo hp s H0 C cl fp _ σ2 G4 H4 a4.to (sl2.up s4) _ fun v G5 H5 s5 a5' r5 => ?_
      have a5 : At F ((D, oL (((xs.take i).filter p).map B)) :: w1) G5 H5 := a5'.to
      obtain ⟨_, _, o, h1, vs, rfl, h2⟩ := a5.ow _ List.mem_cons_self
      have hl2 : vs.length ≤ xs.length := by
        rw [← h2.len, List.length_map]
        exact Nat.le_trans (List.length_filter_le _ _) (List.length_take_le _ _ |> fun z => Nat.le_trans z hi)
      refine ⟨vs, h1, Nat.lt_of_le_of_lt (Nat.le_trans hl2 hz) (by decide), G5, ?_, (s3.trans s4).trans s5⟩
      rw [htake, List.filter_append, List.filter_cons, hp]
      simp only [if_true, List.filter_nil, List.map_append, List.map_cons, List.map_nil]
      exact a5.chg ⟨_, rfl, h2.app (mk1 r5)⟩
  · have e : i = xs.length := by omega
    subst e
    refine .inl ⟨by have := y2.stop G1 H1 s1 a1.gh; rw [hlen] at this; exact this, ?_⟩
    rw [List.take_length] at a1
    exact q D G1 H1 hM (s2.trans s1) a1
theorem en_lcf {xs : List α} {A B : α → Rl} {p : α → Bool} {ρ' : α → Ty} (hit : IT F ρ ω tg it (xs.map A) w1) (hz : xs.length ≤ 100000) (own : List (Str × Nat)) (ok : BlkOk F.X.N F.X.env.scope scope own)
    (hpg : ∀ (s : Shared) (H : Hp) (C : Addr) (cl : List (Str × Addr)) (fp : List Addr), PG (F.X.blk s H scope (compEnvC scope cl C F.X.env) fp) tg g) (hge : ∀ (i : Nat) a, xs[i]? = some a → GEw g (own.map (·.2)) ρ (A a) (ρ' a))
    (ht : ∀ (i : Nat) a, xs[i]? = some a → ∀ s H0 C cl fp d, TR (blkF F s H0 scope C cl fp) (ρ' a) (d :: w1) c (p a) (d :: w1))
    (he : ∀ (i : Nat) a, xs[i]? = some a → p a = true → ∀ s H0 C cl fp d, ER (blkF F s H0 scope C cl fp) (ρ' a) (d :: w1) elt (B a) (d :: w1))
    (hN : F.X.N.Nodup) (hc : F.X.calm = true := by rfl) (hs : ∀ z, foldedSetIterable it F.X.env z = pure z := by intro _; rfl) : EN F ρ ω (.ListComp elt [⟨tg, it, [c], 0⟩] scope pos) (oL ((xs.filter p).map B)) w1 := fun σ G H at_ sl Q q => by
  obtain ⟨wi, hpi, hwi⟩ := hit
  refine ew_of (pe_lc hc hN hpi ok hpg (fun _ _ _ _ _ => pts_one (t := fun σ H Q => ∀ s H0 C cl fp, TW (F.X.blk s H0 scope (compEnvC scope cl C F.X.env) fp) c σ H Q) ⟨fun pins s σ H Q I h => h _ _ _ _ _ pins s I⟩) (te := fun σ H Q => ∀ s H0 C cl fp, EW (F.X.blk s H0 scope (compEnvC scope cl C F.X.env) fp) elt σ H Q) (fun _ _ _ _ _ => ⟨fun pins s σ H Q I h => h _ _ _ _ _ pins s I⟩) hs) ?_
  exact lc_genN hwi hz hge (fun i a h d σ2 G H a1 s1 Q q => fun s H0 C cl fp => ht i a h s H0 C cl fp d σ2 G H a1.to s1 Q fun G3 H3 s3 a3 => q G3 H3 s3 a3.to) (fun i a h hp => he i a h hp) at_ sl q
end
def pBMakN (C W : Addr) : PreN := fun Rs w O w' => ∃ gs ys g, g.length ≤ 640 ∧ ys.length ≤ 100000 ∧ g ∈ gs ∧ Rs = [rBook C W gs ys, rStr g] ∧ w = [] ∧ w' = [] ∧ O = oL ((makersL ys g).map rInt)
section
variable {P : Program} {w : World} {K : PySem.W.Frag} {mg : Str → Option Value} {base : Heap} {W C M N D U V f : Addr} {fd : FuncData}
theorem kf_bmakN (Fn : Fun K "makers" "Book.makers" s_Book_makers f fd) (X : BookX K mg C) (XW : WayX K mg W) (Tc : Km P w K mg base C "check_good" 3 (pBChk C W U)) (Tm : Km P w K mg base W "made" 2 (pMade W)) (en : mg "enumerate" = none) : FnOk P w K mg base (L2.CX P w) 4 f fd P_Book_makers (spN (pBMakN C W)) := by
  refine fn_okN Fn c_Book_makers (fun _ _ _ _ ⟨_, _, _, _, _, _, h, _⟩ => by rw [h]; rfl) ?_
  rintro cdv A outer s H E ⟨_, G0, H0, M', _, tk⟩ hr rfl Rs ω o ω' ⟨gs, ys, g, hg, ly, hm, rfl, rfl, rfl, rfl⟩
  have nd := c_Book_makers.nd
  have cl := X.cx.cls
  have nw := X.nw
  have clw := XW.cx.cls
  have r2 := hr.mono (show 2 ≤ 3 by decide)
  have e : (ys.zipIdx.filter (makesG g)).map (fun p => rInt (p.2 : Int)) = (makersL ys g).map rInt := by
    unfold makersL
    rw [List.map_map]
    rfl
  rw [← e]
  refine hb_expr (w1 := []) (er_m (R := rNon) Tc cl hr (er_v 0 rfl rfl) (ar_cons (er_v 1 rfl rfl) ar_nil) ⟨gs, ys, g, hg, rfl, rfl, rfl, by rw [if_pos hm]⟩) ?_
  exact hb_retO (en_lcf (xs := ys.zipIdx) (A := fun p => rTup [rInt (p.2 : Int), rWy W p.1]) (B := fun p => rInt (p.2 : Int)) (p := makesG g) (it_enumW (ar_cons (er_fld (er_v 0 rfl rfl) cl nw rfl) ar_nil) rfl en) (by rw [List.length_zipIdx]; exact ly) [("at", 2), ("way", 3)] (blkOk_by (N := N_Book_makers) (sc := defScope s_Book_makers) (by decide +kernel)) (fun _ _ _ _ _ => pg_tup rfl (pgs_cons (pg_name (i := 2) nd rfl (Or.inl rfl)) (pgs_cons (pg_name (i := 3) nd rfl (Or.inl rfl)) pgs_nil))) (fun i p hp => gew_tup2)
      (fun i p hp s H0 cc cl' fp d => tr_cmp (er_m (pre := pMade W) Tm clw r2 (er_v 3 rfl rfl) (ar_cons (er_v 1 rfl rfl) ar_nil) ⟨_, _, _, g, rfl, rfl, rfl, rfl⟩) er_int bop_gt) (fun i p hp _ s H0 cc cl' fp d => er_v 2 rfl rfl) nd) fun q hM => ⟨q, [], fun _ _ h => h, List.not_mem_nil, rfl⟩
end
end W1
set_option maxRecDepth 100000
set_option maxHeartbeats 4000000
set_option exponentiation.threshold 20000
namespace W1
open PySem PySem.Spec PyProof.Rows L2 NdefX TL NumText
local macro_rules | `(tactic| walk_at "side") => `(tactic| first | assumption | rfl | decide | omega | (simp only [List.length_map, List.length_cons, List.length_nil, List.length_append, List.length_range, decide_eq_true_eq, decide_eq_false_iff_not, Bool.not_eq_true', Bool.and_eq_true, Bool.or_eq_false_iff] at *; omega))
local macro_rules | `(tactic| walk_at "room") => `(tactic| first | assumption | exact Room.mono (by assumption) (by decide))
local macro_rules | `(tactic| walk_at "pre") => `(tactic| first | assumption | exact ⟨_, by walk_at "side", rfl, rfl, rfl, rfl⟩)
local macro_rules | `(tactic| walk_at "nm") => `(tactic| first
  | exact er_v 0 (by exact rfl) (by exact rfl) | exact er_v 1 (by exact rfl) (by exact rfl) | exact er_v 2 (by exact rfl) (by exact rfl) | exact er_v 3 (by exact rfl) (by exact rfl) | exact er_v 4 (by exact rfl) (by exact rfl) | exact er_v 5 (by exact rfl) (by exact rfl) | exact er_v 6 (by exact rfl) (by exact rfl) | exact er_v 7 (by exact rfl) (by exact rfl)
  | exact er_v 8 (by exact rfl) (by exact rfl) | exact er_v 9 (by exact rfl) (by exact rfl) | exact er_v 10 (by exact rfl) (by exact rfl) | exact er_v 11 (by exact rfl) (by exact rfl) | exact er_v 12 (by exact rfl) (by exact rfl) | exact er_v 13 (by exact rfl) (by exact rfl) | exact er_v 14 (by exact rfl) (by exact rfl) | exact er_v 15 (by exact rfl) (by exact rfl)
  | exact er_gS (by assumption) | exact er_gI (by assumption) | exact er_gC (by assumption))
local macro_rules | `(tactic| walk_at "bt") => `(tactic| with_reducible first | exact bt_len | exact bt_int | exact bt_str | exact bt_list | exact bt_sorted | exact bt_all | exact bt_isi | exact bt_abs | exact bt_bool | exact bt_tup)
local macro_rules | `(tactic| walk_at "bop") => `(tactic| first
  | with_reducible exact bop_add | with_reducible exact bop_sub | with_reducible exact bop_lt | with_reducible exact bop_le | with_reducible exact bop_gt | with_reducible exact bop_ge | with_reducible exact bop_eqI | with_reducible exact bop_neI | with_reducible exact bop_eqS | with_reducible exact bop_neS | with_reducible exact bop_inC | with_reducible exact bop_niC2 | with_reducible exact bop_isN | with_reducible exact bop_notN
  | (with_reducible apply bop_mod); walk_at "side"
  | (with_reducible apply bop_mul); first | exact IntMulOk.of_right (by decide) | exact IntMulOk.of_left (by decide) | walk_at "side"
  | (with_reducible apply bop_fdiv); walk_at "side"
  | (with_reducible apply bop_pow); walk_at "side"
  | (with_reducible apply bop_addS); walk_at "side"
  | (with_reducible apply bop_cat); walk_at "side"
  | assumption)
local macro_rules | `(tactic| walk_at "cop") => `(tactic| first
  | with_reducible exact cop_lenL | with_reducible exact cop_lenT | with_reducible exact cop_int | with_reducible exact cop_abs | with_reducible exact cop_bool | with_reducible exact cop_intB | with_reducible exact cop_listL | with_reducible exact cop_listT | with_reducible exact cop_tupL
  | (with_reducible apply cop_lenStr); walk_at "side"
  | (with_reducible apply cop_strI); walk_at "side"
  | (with_reducible apply cop_intS) <;> walk_at "side"
  | (with_reducible apply cop_sortedS); walk_at "side"
  | (with_reducible apply cop_isIns); assumption
  | (with_reducible apply cop_all); rfl
  | exact cop_lenS
  | (with_reducible apply cop_lenD); walk_at "isd"
  | (with_reducible apply cop_listD); first | rfl | walk_at "isd"
  | assumption)
local macro_rules | `(tactic| walk_at "isd") => `(tactic| first | assumption | exact isd_frz | exact isd_own List.mem_cons_self | exact isd_own (List.mem_cons_of_mem _ List.mem_cons_self) | exact isd_own (by simp) | exact isd_ownF (by simp))
local macro_rules | `(tactic| walk_at "iop") => `(tactic| first | (with_reducible apply iop_L (n := 0)) <;> exact rfl | (with_reducible apply iop_L (n := 1)) <;> exact rfl | (with_reducible apply iop_L (n := 2)) <;> exact rfl | (with_reducible apply iop_L (n := 3)) <;> exact rfl | (with_reducible apply iop_T (n := 0)) <;> exact rfl | (with_reducible apply iop_T (n := 1)) <;> exact rfl | (with_reducible apply iop_T (n := 2)) <;> exact rfl | assumption)
local macro_rules | `(tactic| walk_at "ar") => `(tactic| first | (with_reducible show AR _ _ _ [] _ _); exact ar_nil | exact ar_cons (by walk_at "er") (by walk_at "ar"))
local macro_rules | `(tactic| walk_at "call") => `(tactic| first
  | exact er_fA (by assumption) (by walk_at "room") (by walk_at "ar") (by walk_at "pre")
  | exact er_bA (by walk_at "ar") (by assumption) (by walk_at "bt") (by walk_at "cop")
  | exact er_tA (by walk_at "ar") (by assumption) (by walk_at "bt") (by walk_at "cop")
  | exact er_f1 0 (by assumption) (by walk_at "room") (by walk_at "ar") (by exact rfl) (by walk_at "pre")
  | exact er_f1 1 (by assumption) (by walk_at "room") (by walk_at "ar") (by exact rfl) (by walk_at "pre")
  | exact er_f1 2 (by assumption) (by walk_at "room") (by walk_at "ar") (by exact rfl) (by walk_at "pre"))
local macro_rules | `(tactic| walk_at "meth") => `(tactic| first
  | exact er_m (by assumption) (by assumption) (by walk_at "room") (by walk_at "er") (by walk_at "ar") (by walk_at "pre")
  | exact er_m0 (by assumption) (by assumption) (by walk_at "room") (by walk_at "er") (by walk_at "pre"))
local macro_rules | `(tactic| walk_at "er") => `(tactic| first
  | (with_reducible show ER _ _ _ (Expr.Name _ _) _ _); walk_at "nm"
  | (with_reducible show ER _ _ _ (Expr.Constant (Const.int _) _ _) _ _); exact er_int
  | (with_reducible show ER _ _ _ (Expr.Constant (Const.str _) _ _) _ _); exact er_str
  | (with_reducible show ER _ _ _ (Expr.Constant (Const.bool _) _ _) _ _); exact er_bl
  | (with_reducible show ER _ _ _ (Expr.Constant _ _ _) _ _); exact er_non
  | (with_reducible show ER _ _ _ (Expr.BinOp _ _ _ _) _ _); exact er_bin (by walk_at "er") (by walk_at "er") (by walk_at "bop")
  | (with_reducible show ER _ _ _ (Expr.Compare _ _ _ _) _ _); exact er_cmp (by walk_at "er") (by walk_at "er") (by walk_at "bop")
  | (with_reducible show ER _ _ _ (Expr.Call (Expr.Name _ _) _ _ _) _ _); walk_at "call"
  | (with_reducible show ER _ _ _ (Expr.Call (Expr.Attribute _ _ _) _ _ _) _ _); walk_at "meth"
  | (with_reducible show ER _ _ _ (Expr.Attribute _ _ _) _ _); walk_at "attr"
  | (with_reducible show ER _ _ _ (Expr.Subscript _ (Expr.Slice _ _ _ _) _) _ _); walk_at "slice"
  | (with_reducible show ER _ _ _ (Expr.Subscript _ _ _) _ _); walk_at "ix"
  | (with_reducible show ER _ _ _ (Expr.BoolOp _ [_] _) _ _); exact er_one (by walk_at "er")
  | (with_reducible show ER _ _ _ (Expr.BoolOp BoolOp.And _ _) _ _); exact er_and (by walk_at "er") (fun _ => by walk_at "er")
  | (with_reducible show ER _ _ _ (Expr.BoolOp BoolOp.Or _ _) _ _); exact er_or (by walk_at "er") (fun _ => by walk_at "er")
  | (with_reducible show ER _ _ _ (Expr.UnaryOp UnaryOp.Not _ _) _ _); exact er_not (by walk_at "er")
  | (with_reducible show ER _ _ _ (Expr.UnaryOp _ _ _) _ _); exact er_un (by walk_at "er") (by walk_at "uop")
  | (with_reducible show ER _ _ _ (Expr.List _ _) _ _); exact er_lst (by walk_at "ar") (by exact Nat.le_of_ble_eq_true rfl)
  | (with_reducible show ER _ _ _ (Expr.Tuple _ _ _) _ _); exact er_tup (by walk_at "ar") (by exact Nat.le_of_ble_eq_true rfl)
  | (with_reducible show ER _ _ _ (Expr.Dict [] [] _) _ _); exact er_dict0
  | assumption)
local macro_rules | `(tactic| walk_at "uop") => `(tactic| exact uop_neg)
local macro_rules | `(tactic| walk_at "attr") => `(tactic| exact er_fld (by walk_at "er") (by assumption) (by assumption) (by exact rfl))
local macro_rules | `(tactic| walk_at "ix") => `(tactic| first | exact er_ix (by walk_at "er") (by walk_at "er") (by walk_at "iop") | exact er_ixO (by walk_at "er") (by walk_at "er") (by simp) (by exact rfl) (by exact rfl))
local macro_rules | `(tactic| walk_at "slice") => `(tactic| exact er_slice (by walk_at "er") (by walk_at "pr") (by walk_at "pr") (by walk_at "sop"))
local macro_rules | `(tactic| walk_at "pr") => `(tactic| first | with_reducible exact pr_none | exact pr_some (by walk_at "er"))
local macro_rules | `(tactic| walk_at "sop") => `(tactic| first | (with_reducible apply sop_str); walk_at "side" | with_reducible exact sop_L | exact sop_S)
local macro_rules | `(tactic| walk_at "pw") => `(tactic| first
  | (with_reducible apply tr_and1); walk_at "tr"
  | (with_reducible apply tr_or1); walk_at "tr"
  | (with_reducible show PWR _ _ _ (Expr.BoolOp BoolOp.And _ _) _ _); exact tr_and (by walk_at "tr") (fun _ => by walk_at "pw")
  | (with_reducible show PWR _ _ _ (Expr.BoolOp BoolOp.Or _ _) _ _); exact tr_or (by walk_at "tr") (fun _ => by walk_at "pw"))
local macro_rules | `(tactic| walk_at "tr") => `(tactic| first
  | (with_reducible show TR _ _ _ (Expr.BoolOp _ _ _) _ _); exact PWR.tr (by walk_at "pw")
  | (with_reducible apply tr_not); walk_at "tr"
  | (with_reducible show TR _ _ _ (Expr.Compare _ _ _ _) _ _); exact tr_cmp (by walk_at "er") (by walk_at "er") (by walk_at "bop")
  | exact tr_val (by walk_at "er") | assumption)
local macro_rules | `(tactic| walk_at "set") => `(tactic| first
  | refine hb_setA 0 (by exact rfl) (by walk_at "er") ?_ | refine hb_setA 1 (by exact rfl) (by walk_at "er") ?_ | refine hb_setA 2 (by exact rfl) (by walk_at "er") ?_ | refine hb_setA 3 (by exact rfl) (by walk_at "er") ?_ | refine hb_setA 4 (by exact rfl) (by walk_at "er") ?_ | refine hb_setA 5 (by exact rfl) (by walk_at "er") ?_
  | refine hb_setA 6 (by exact rfl) (by walk_at "er") ?_ | refine hb_setA 7 (by exact rfl) (by walk_at "er") ?_ | refine hb_setA 8 (by exact rfl) (by walk_at "er") ?_ | refine hb_setA 9 (by exact rfl) (by walk_at "er") ?_ | refine hb_setA 10 (by exact rfl) (by walk_at "er") ?_ | refine hb_setA 11 (by exact rfl) (by walk_at "er") ?_)
/-! ### the law's names -/
abbrev menuN : List Str := [Str.ofString "a", Str.ofString "b", Str.ofString "c", Str.ofString "x1", Str.ofString "x10", Str.ofString "y", Str.ofString "abcdefgh", Str.ofString "d9"]
abbrev LabS := List Str × List Str × Pool
def labI (b : LabS) : Nat := (drR b.2.2 (b.1.length : Int)).toNat
def labStep (b : LabS) : LabS := (b.1.eraseIdx (labI b), b.2.1 ++ [b.1.getD (labI b) Str.empty], drS b.2.2 (b.1.length : Int))
def labAt (s : Pool) : Nat → LabS
  | 0 => (menuN, [], s)
  | k + 1 => labStep (labAt s k)
def labG (n : Nat) (s : Pool) : List Str := (labAt s n).2.1
def labS (n : Nat) (s : Pool) : Pool := (labAt s n).2.2
theorem erase_perm {α : Type} : ∀ {l : List α} {i : Nat} {d : α}, i < l.length → (l.getD i d :: l.eraseIdx i).Perm l
  | [], _, _, h => absurd h (Nat.not_lt_zero _)
  | a :: l, 0, d, _ => List.Perm.refl _
  | a :: l, i + 1, d, h => by
    have ih := erase_perm (l := l) (i := i) (d := d) (Nat.lt_of_succ_lt_succ h)
    show (l.getD i d :: a :: l.eraseIdx i).Perm (a :: l)
    exact (List.Perm.swap _ _ _).trans (ih.cons a)
theorem erase_map {α β : Type} {f : α → β} : ∀ {l : List α} {i : Nat}, (l.map f).eraseIdx i = (l.eraseIdx i).map f
  | [], _ => rfl
  | _ :: _, 0 => rfl
  | a :: l, i + 1 => by
    show f a :: (l.map f).eraseIdx i = f a :: (l.eraseIdx i).map f
    rw [erase_map]
theorem lab_i {b : LabS} (h : 0 < b.1.length) : labI b < b.1.length := by
  have := drR_lt (s := b.2.2) (L := (b.1.length : Int)) (by omega)
  unfold labI
  omega
theorem lab_ok (s : Pool) : ∀ k, k ≤ 8 → ((labAt s k).2.1 ++ (labAt s k).1).Perm menuN ∧ (labAt s k).2.1.length = k ∧ (labAt s k).1.length = 8 - k
  | 0, _ => ⟨List.Perm.refl _, rfl, rfl⟩
  | k + 1, h => by
    obtain ⟨h1, h2, h3⟩ := lab_ok s k (by omega)
    have hi := lab_i (b := labAt s k) (by omega)
    refine ⟨?_, ?_, ?_⟩
    · show (((labAt s k).2.1 ++ [(labAt s k).1.getD (labI (labAt s k)) Str.empty]) ++ (labAt s k).1.eraseIdx (labI (labAt s k))).Perm menuN
      rw [List.append_assoc]
      exact ((erase_perm hi).append_left _).trans h1
    · show ((labAt s k).2.1 ++ [_]).length = k + 1
      rw [List.length_append, h2]
      rfl
    · show ((labAt s k).1.eraseIdx _).length = _
      rw [List.length_eraseIdx_of_lt hi]
      omega
structure Goods (gs : List Str) : Prop where
  nd : gs.Nodup
  sub : ∀ g ∈ gs, g ∈ menuN
theorem lab_goods {s : Pool} {n : Nat} (h : n ≤ 8) : Goods (labG n s) ∧ (labG n s).length = n := by
  obtain ⟨h1, h2, _⟩ := lab_ok s n h
  have nd : ((labAt s n).2.1 ++ (labAt s n).1).Nodup := h1.nodup_iff.mpr (by decide +kernel)
  exact ⟨⟨(List.nodup_append.mp nd).1, fun g hg => h1.mem_iff.mp (List.mem_append_left _ hg)⟩, h2⟩
def pLab : PreN := fun Rs w O w' => ∃ q s n, n ≤ 8 ∧ Rs = [rRef q, rInt ((n : Nat) : Int)] ∧ w = [(q, oPool s)] ∧ w' = [(q, oPool (labS n s))] ∧ O = oL ((labG n s).map rStr)
section
variable {P : Program} {w : World} {K : PySem.W.Frag} {mg : Str → Option Value} {base : Heap} {f : Addr} {fd : FuncData}
theorem kf_lab (Fn : Fun K "_law_labels" "_law_labels" s__law_labels f fd) (Td : Kf1 P w K mg base "_law_draw" 1 pDraw) (len : mg "len" = none) (rg : mg "range" = none) : FnOk P w K mg base (L2.CX P w) 2 f fd P__law_labels (spN pLab) := by
  refine fn_okN Fn c__law_labels (fun _ _ _ _ ⟨_, _, _, _, h, _⟩ => by rw [h]; rfl) ?_
  rintro cdv A outer s0 H E ⟨_, G0, H0, M', _, tk⟩ hr rfl Rs ω o ω' ⟨q, s, n, hn, rfl, rfl, rfl, rfl⟩
  have nd := c__law_labels.nd
  refine hb_setNA 2 rfl (en_lst (Rs := menuN.map rStr) (by walk_at "ar") (Nat.le_of_ble_eq_true rfl)) fun qm hM => ?_
  refine hb_setNA 3 rfl (en_lst (Rs := []) ar_nil (Nat.zero_le _)) fun qf hF => ?_
  refine hb_for (it_rng1 (ar_cons (er_v 1 rfl rfl) ar_nil) rfl rg (by omega)) (fun k ρ w1 => w1 = [(qf, oL ((labAt s k).2.1.map rStr)), (qm, oL ((labAt s k).1.map rStr)), (q, oPool (labAt s k).2.2)] ∧ ∃ z, ρ = [some (rRef q), some (rInt ((n : Nat) : Int)), some (rRef qm), some (rRef qf), z]) ⟨rfl, none, rfl⟩ ?_ ?_ (passes_of rfl) (pg_name (i := 4) nd rfl (Or.inl rfl))
  · rintro k ρ w1 S hS ⟨rfl, z, rfl⟩
    have hk : k < n := by
      have := (List.getElem?_eq_some_iff.mp hS).1
      rw [rng_len] at this
      omega
    obtain ⟨h1, h2, h3⟩ := lab_ok s k (by omega)
    have hi := lab_i (b := labAt s k) (by omega)
    have lt := drR_lt (s := (labAt s k).2.2) (L := ((labAt s k).1.length : Int)) (by omega)
    refine ⟨_, ge_name, ?_⟩
    have ln : Cop _ _ (.builtin "len") [rRef qm] (rInt (((labAt s k).1.map rStr).length : Int)) := cop_lenO (F := ⟨cxOf (L2.CX P w) P w K mg base N__law_labels "_law_labels" (defScope s__law_labels) f cdv A outer s0 H E, G0, H0, M', _, tk⟩) (w := [(qf, oL ((labAt s k).2.1.map rStr)), (qm, oL ((labAt s k).1.map rStr)), (q, oPool (labAt s k).2.2)]) (List.mem_cons_of_mem _ List.mem_cons_self)
    rw [List.length_map] at ln
    refine hb_append (Rs := (labAt s k).2.1.map rStr) (R := rStr ((labAt s k).1.getD (labI (labAt s k)) Str.empty)) (w2 := [(qm, oL ((labAt s (k + 1)).1.map rStr)), (q, oPool (labAt s (k + 1)).2.2)]) (er_v 3 rfl rfl) List.mem_cons_self (ar_perm (ar_cons (er_popAt (w2 := [(qf, oL ((labAt s k).2.1.map rStr)), (q, oPool (labAt s (k + 1)).2.2)]) (k := labI (labAt s k)) (er_v 2 rfl rfl) (er_perm (er_f1 2 Td hr (ar_cons (er_v 0 rfl rfl) (ar_cons (er_bA (ar_cons (er_v 2 rfl rfl) ar_nil) len bt_len ln) ar_nil)) rfl (drawOk (by omega) ?_)) (List.Perm.swap _ _ _)) (List.mem_cons_of_mem _ List.mem_cons_self) lt.1 ?_ ?_ ?_) ar_nil) ?_) ?_ (hb_nil ?_)
    · rw [h3]; exact Nat.lt_of_le_of_lt (by omega : ((8 - k : Nat) : Int).natAbs ≤ 8) (by decide)
    · omega
    · rw [List.length_map]
      exact seq_in lt.1 lt.2
    · rw [List.getElem?_map, List.getD_eq_getElem?_getD, List.getElem?_eq_getElem hi]
      rfl
    · rw [erase_map]
      exact List.Perm.swap _ _ _
    · rw [List.length_map]; omega
    · refine ⟨?_, _, rfl⟩
      show [(qf, oL ((labAt s k).2.1.map rStr ++ [rStr _])), _, _] = [(qf, oL (((labAt s k).2.1 ++ [_]).map rStr)), _, _]
      rw [List.map_append]
      rfl
  · rintro ρ w1 ⟨rfl, z, rfl⟩
    rw [rng_len]
    rw [show ((n : Nat) : Int).toNat = n from Int.toNat_natCast n]
    refine hb_perm (w2 := [(qf, oL ((labAt s n).2.1.map rStr)), (q, oPool (labAt s n).2.2), (qm, oL ((labAt s n).1.map rStr))]) ((List.Perm.swap _ _ _).cons _) (hb_nd fun hk => hb_ret (er_v 3 rfl rfl) ⟨qf, [(qm, _)], fun v G h => h, fun hm => ?_, rfl⟩)
    have hk : ([qf, q, qm] : List Addr).Nodup := hk
    have hm : qf ∈ [q] := hm
    rw [List.mem_singleton.mp hm] at hk
    exact (List.nodup_cons.mp hk).1 List.mem_cons_self
end
end W1
set_option maxRecDepth 100000
set_option maxHeartbeats 2000000
set_option exponentiation.threshold 20000
namespace W1
open PySem PySem.Spec PyProof.Rows L2 NdefX TL NumText
/-! ### amounts drawn -/
def amVs : List Int := [0, 1, 1, 2, 3, 10 ^ 20]
def amStep (M : Nat) (b : Am × Pool) (g : Str) : Am × Pool := if drR b.2 2 = 0 then (putA b.1 g (amVs.getD (drR (drS b.2 2) (M : Int)).toNat 0), drS (drS b.2 2) (M : Int)) else (b.1, drS b.2 2)
def amsF (M : Nat) (ns : List Str) (s : Pool) : Am × Pool := ns.foldl (amStep M) ([], s)
theorem amV_ok (i : Nat) : 0 ≤ amVs.getD i 0 ∧ amVs.getD i 0 ≤ 10 ^ 20 := by
  rcases Nat.lt_or_ge i 6 with h | h
  · match i, h with
    | 0, _ => decide
    | 1, _ => decide
    | 2, _ => decide
    | 3, _ => decide
    | 4, _ => decide
    | 5, _ => decide
    | n + 6, h => omega
  · rw [List.getD_eq_getElem?_getD, List.getElem?_eq_none (by exact h)]
    decide
theorem amStep_ok {M : Nat} {ns : List Str} {b : Am × Pool} {g : Str} (h : AmI ns b.1) (hg : g ∈ ns) : AmI ns (amStep M b g).1 := by
  unfold amStep
  split
  · exact h.put hg (amV_ok _)
  · exact h
theorem amsF_ok {M : Nat} {ns : List Str} {s : Pool} : AmI ns (amsF M ns s).1 := by
  have : ∀ (l : List Str) (b : Am × Pool), AmI ns b.1 → (∀ a ∈ l, a ∈ ns) → AmI ns (l.foldl (amStep M) b).1 := by
    intro l
    induction l with
    | nil => intro b h _; exact h
    | cons a l ih => intro b h hl; exact ih _ (amStep_ok h (hl a List.mem_cons_self)) fun c hc => hl c (List.mem_cons_of_mem _ hc)
  exact this ns _ AmI.nil fun _ h => h
def pAms : PreN := fun Rs w O w' => ∃ q ns s M, ns.length ≤ 64 ∧ 1 ≤ M ∧ M ≤ 6 ∧ Rs = [rRef q, rLst (ns.map rStr), rInt ((M : Nat) : Int)] ∧ w = [(q, oPool s)] ∧ w' = [(q, oPool (amsF M ns s).2)] ∧ O = oD (fsA (amsF M ns s).1)
section
variable {P : Program} {w : World} {K : PySem.W.Frag} {mg : Str → Option Value} {base : Heap} {W N B f : Addr} {fd : FuncData}
theorem kf_ams (Fn : Fun K "_law_amounts_of" "_law_amounts_of" s__law_amounts_of f fd) (Td : Kf1 P w K mg base "_law_draw" 1 pDraw) : FnOk P w K mg base (L2.CX P w) 2 f fd P__law_amounts_of (spN pAms) := by
  refine fn_okN Fn c__law_amounts_of (fun _ _ _ _ ⟨_, _, _, _, _, _, _, h, _⟩ => by rw [h]; rfl) ?_
  rintro cdv A outer s H E ⟨_, G0, H0, M', _, tk⟩ hr rfl Rs ω o ω' ⟨q, ns, sp, M, hn, hm1, hm2, rfl, rfl, rfl, rfl⟩
  have nd := c__law_amounts_of.nd
  refine hb_setNA 3 rfl en_dict (fun qd hM => ?_)
  refine hb_foldI (A := rStr) ns (amStep M) ([], sp) none 4 (fun b => AmI ns b.1) AmI.nil (fun b a h ha => amStep_ok h ha) (fun b z => [some (rRef q), some (rLst (ns.map rStr)), some (rInt ((M : Nat) : Int)), some (rRef qd), z]) (fun b => [(qd, oD (fsA b.1)), (q, oPool b.2)]) (it_lst (er_v 1 rfl rfl)) rfl rfl (fun b z R => rfl) ?_ ?_ (passes_of rfl) (pg_name (i := 4) nd rfl (Or.inl rfl))
  · rintro ⟨am, s1⟩ g hI hg
    have hi1 : AmI ns am := hI
    have lz : (fsA am).length ≤ 100000 := by
      unfold fsA
      rw [List.length_map]
      have := hi1.len
      omega
    have b1 := drR_lt (s := drS s1 2) (L := (M : Int)) (by omega)
    refine hb_if (tr_cmp (er_f1 1 Td (hr.mono (by decide)) (ar_cons (er_v 0 rfl rfl) (ar_cons er_int ar_nil)) rfl (drawOk (s := s1) (L := 2) (by decide) (by decide))) er_int bop_eqI) (fun hb => ?_) (fun hb => hb_nil (hb_nil ?_))
    · have hb := of_decide_eq_true hb
      refine hb_dput (k := .inr g) (fs := fsA am) (w3 := [(q, oPool (drS (drS s1 2) (M : Int)))]) (R := rInt (amVs.getD (drR (drS s1 2) (M : Int)).toNat 0)) (er_ix (er_lst (Rs := amVs.map rInt) (ar_cons er_int (ar_cons er_int (ar_cons er_int (ar_cons er_int (ar_cons er_int (ar_cons (er_bin er_int er_int (bop_pow ⟨by decide, by decide, by decide⟩)) ar_nil)))))) (Nat.le_of_ble_eq_true rfl)) (er_f1 1 Td (hr.mono (by decide)) (ar_cons (er_v 0 rfl rfl) (ar_cons (er_v 2 rfl rfl) ar_nil)) rfl (drawOk (s := drS s1 2) (L := (M : Int)) (by omega) (Nat.lt_of_le_of_lt (by omega : ((M : Nat) : Int).natAbs ≤ 6) (by decide)))) (iop_pickM (α := Int) (A := rInt) 0 b1.1 (Int.lt_of_lt_of_le b1.2 (by show (M : Int) ≤ 6; omega)))) (er_v 3 rfl rfl) (er_v 4 rfl rfl) hr lz (hb_nil (hb_nil ⟨?_, _, rfl⟩))
      show _ = [(qd, oD (fsA (amStep M (am, s1) g).1)), (q, oPool (amStep M (am, s1) g).2)]
      unfold amStep
      rw [if_pos hb, putK_A]
    · have hb := of_decide_eq_false hb
      refine ⟨?_, _, rfl⟩
      show _ = [(qd, oD (fsA (amStep M (am, s1) g).1)), (q, oPool (amStep M (am, s1) g).2)]
      unfold amStep
      rw [if_neg hb]
      rfl
  · intro z hI
    refine hb_nd fun hnd => hb_ret (er_v 3 rfl rfl) ⟨qd, [], fun _ _ h => h, fun hm => ?_, rfl⟩
    have : qd ∉ [q] := (List.nodup_cons.mp hnd).1
    exact this hm
end
end W1
set_option maxRecDepth 100000
set_option maxHeartbeats 4000000
set_option exponentiation.threshold 20000
namespace W1
open PySem PySem.Spec PyProof.Rows L2 NdefX TL NumText
/-! ### a row -/
def rRow (t : Am) (h : Int) (m : Am) : Rl := rLst [rDct (fsA t), rInt h, rDct (fsA m)]
abbrev rRw (y : Wy) : Rl := rRow y.1 y.2.1 y.2.2
def hrVs : List Int := [1, 1, 2, 3, 7]
def rowM (s : Pool) : Nat := 5 + if drR s 12 = 0 then 1 else 0
def rowT (gs : List Str) (s : Pool) : Am × Pool := amsF (rowM s) gs (drS s 12)
def rowK (gs : List Str) (s : Pool) : Am × Pool := amsF (rowM s) gs (rowT gs s).2
def rowE (gs : List Str) (mk : Am) (s : Pool) : Am × Int × Pool :=
  (putA mk (gs.getD (drR s gs.length).toNat Str.empty) (1 + drR (drS s gs.length) 4), hrVs.getD (drR (drS (drS s gs.length) 4) 5).toNat 0, drS (drS (drS s gs.length) 4) 5)
def rowF (gs : List Str) (pl : Bool) (s : Pool) : Wy × Pool :=
  let e := rowE gs (if pl then [] else (rowK gs s).1) (rowK gs s).2
  (((rowT gs s).1, e.2.1, e.1), e.2.2)
def pRow : Pre := fun Rs w o w' => ∃ q gs pl s, 0 < gs.length ∧ gs.length ≤ 8 ∧ gs.Nodup ∧ Rs = [rRef q, rLst (gs.map rStr), rBool pl] ∧ w = [(q, oPool s)] ∧ w' = [(q, oPool (rowF gs pl s).2)] ∧ o = .ok (rRw (rowF gs pl s).1)
def pNet : Pre := pOk (α := Wy × Str) (fun _ => True) (fun a => [rRw a.1, rStr a.2]) (fun a => rInt (valA a.1.2.2 a.2 - valA a.1.1 a.2))
section
variable {P : Program} {w : World} {K : PySem.W.Frag} {mg : Str → Option Value} {base : Heap} {f : Addr} {fd : FuncData}
theorem kf_net (Fn : Fun K "_law_net" "_law_net" s__law_net f fd) : FnOk P w K mg base (L2.CX P w) 2 f fd P__law_net (spM pNet) := by
  refine fn_ok Fn c__law_net (fun _ _ _ _ ⟨_, _, h, _⟩ => by rw [h]; rfl) ?_
  rintro cdv A outer s H E ⟨_, G0, H0, M', _, tk⟩ hr rfl Rs ω o ω' ⟨⟨y, g⟩, _, rfl, rfl, rfl, rfl⟩
  exact hb_ret (er_bin (er_eq (S := rInt (valA y.2.2 g)) (er_dget2 (k := .inr g) (er_ix (er_v 0 rfl rfl) er_int (iop_L (n := 2) rfl rfl)) (er_v 1 rfl rfl) er_int isd_frz isd_frz hr) valR_get) (er_eq (S := rInt (valA y.1 g)) (er_dget2 (k := .inr g) (er_ix (er_v 0 rfl rfl) er_int (iop_L (n := 0) rfl rfl)) (er_v 1 rfl rfl) er_int isd_frz isd_frz hr) valR_get) bop_sub) ⟨_, [], rfl, fun v G h => h, rfl⟩
end
end W1
set_option maxRecDepth 100000
set_option maxHeartbeats 4000000
set_option exponentiation.threshold 20000
namespace W1
open PySem PySem.Spec PyProof.Rows L2 NdefX TL NumText
theorem put_len (am : Am) (k : Str) (v : Int) : (putA am k v).length ≤ am.length + 1 := by
  have := names_put am k v
  have e : (namesA (putA am k v)).length = (putA am k v).length := List.length_map _
  have e2 : (namesA am).length = am.length := List.length_map _
  rw [this] at e
  split at e
  · omega
  · rw [List.length_append, List.length_singleton] at e
    omega
section
variable {P : Program} {w : World} {K : PySem.W.Frag} {mg : Str → Option Value} {base : Heap} {f : Addr} {fd : FuncData}
theorem kf_row (Fn : Fun K "_law_row_of" "_law_row_of" s__law_row_of f fd) (Td : Kf1 P w K mg base "_law_draw" 1 pDraw) (Ta : KfN1 P w K mg base "_law_amounts_of" 2 pAms) (len : mg "len" = none) (int : mg "int" = none) : FnOk P w K mg base (L2.CX P w) 3 f fd P__law_row_of (spM pRow) := by
  refine fn_ok Fn c__law_row_of (fun _ _ _ _ ⟨_, _, _, _, _, _, _, h, _⟩ => by rw [h]; rfl) ?_
  rintro cdv A outer s0 H E ⟨_, G0, H0, M', Wx, tk⟩ hr rfl Rs ω o ω' ⟨q, gs, pl, s, hg0, hg8, hnd, rfl, rfl, rfl, rfl⟩
  have nd := c__law_row_of.nd
  have r1 := hr.mono (show 1 ≤ 2 by decide)
  have fin : ∀ (qt qx : Addr) (mk : Am), qt ∉ M' → qx ∉ M' → mk.length ≤ 64 → HB ⟨cxOf (L2.CX P w) P w K mg base N__law_row_of "_law_row_of" (defScope s__law_row_of) f cdv A outer s0 H E, G0, H0, M', Wx, tk⟩ [some (rRef q), some (rLst (gs.map rStr)), some (rBool pl), some (rInt ((rowM s : Nat) : Int)), some (rRef qt), some (rRef qx), none] [(qx, oD (fsA mk)), (qt, oD (fsA (rowT gs s).1)), (q, oPool (rowK gs s).2)] ((defBody s__law_row_of).drop 4)
      (Kf (.ok (rRow (rowT gs s).1 (rowE gs mk (rowK gs s).2).2.1 (rowE gs mk (rowK gs s).2).1)) [(q, oPool (rowE gs mk (rowK gs s).2).2.2)]) := by
    intro qt qx mk hqt hqx lm
    have b0 := drR_lt (s := (rowK gs s).2) (L := (gs.length : Int)) (by omega)
    have b2 := drR_lt (s := drS (drS (rowK gs s).2 gs.length) 4) (L := 5) (by decide)
    have ln : ∀ {F : Fx} {w : Ow}, Cop F w (.builtin "len") [rLst (gs.map rStr)] (rInt ((gs.length : Nat) : Int)) := fun {F w} => by
      have := cop_lenL (F := F) (ω := w) (Rs := gs.map rStr)
      rw [List.length_map] at this
      exact this
    refine hb_setA (w1 := [(qx, oD (fsA mk)), (qt, oD (fsA (rowT gs s).1)), (q, oPool (drS (rowK gs s).2 gs.length))]) 6 rfl (er_ix (er_v 1 rfl rfl) (er_f1 2 Td r1 (ar_cons (er_v 0 rfl rfl) (ar_cons (er_bA (ar_cons (er_v 1 rfl rfl) ar_nil) len bt_len ln) ar_nil)) rfl (drawOk (s := (rowK gs s).2) (L := (gs.length : Int)) (by omega) (Nat.lt_of_le_of_lt (by omega : ((gs.length : Nat) : Int).natAbs ≤ 8) (by decide)))) (iop_pickM (α := Str) (A := rStr) Str.empty b0.1 b0.2)) ?_
    refine hb_dput (k := .inr (gs.getD (drR (rowK gs s).2 gs.length).toNat Str.empty)) (fs := fsA mk) (w3 := [(qt, oD (fsA (rowT gs s).1)), (q, oPool (drS (drS (rowK gs s).2 gs.length) 4))]) (R := rInt (1 + drR (drS (rowK gs s).2 gs.length) 4)) (er_bin er_int (er_f1 2 Td r1 (ar_cons (er_v 0 rfl rfl) (ar_cons er_int ar_nil)) rfl (drawOk (s := drS (rowK gs s).2 gs.length) (L := 4) (by decide) (by decide))) bop_add) (er_v 5 rfl rfl) (er_v 6 rfl rfl) hr (by unfold fsA; rw [List.length_map]; omega) ?_
    rw [putK_A]
    refine hb_pubD 5 rfl hqx (hb_pubD 4 rfl hqt ?_)
    exact hb_ret (er_lst (Rs := [rDct (fsA (rowT gs s).1), rInt (hrVs.getD (drR (drS (drS (rowK gs s).2 gs.length) 4) 5).toNat 0), rDct (fsA (putA mk (gs.getD (drR (rowK gs s).2 gs.length).toNat Str.empty) (1 + drR (drS (rowK gs s).2 gs.length) 4)))]) (ar_cons (er_v 4 rfl rfl) (ar_cons (er_ix (er_lst (Rs := hrVs.map rInt) (ar_cons er_int (ar_cons er_int (ar_cons er_int (ar_cons er_int (ar_cons er_int ar_nil))))) (Nat.le_of_ble_eq_true rfl)) (er_f1 0 Td r1 (ar_cons (er_v 0 rfl rfl) (ar_cons er_int ar_nil)) rfl (drawOk (s := drS (drS (rowK gs s).2 gs.length) 4) (L := 5) (by decide) (by decide))) (iop_pickM (α := Int) (A := rInt) 0 b2.1 b2.2)) (ar_cons (er_v 5 rfl rfl) ar_nil))) (Nat.le_of_ble_eq_true rfl)) ⟨_, [], rfl, fun v G h => h, rfl⟩
  have hM5 : 1 ≤ rowM s := by unfold rowM; omega
  have hM6 : rowM s ≤ 6 := by unfold rowM; split <;> omega
  have lK : (rowK gs s).1.length ≤ 64 := by
    have := (amsF_ok (M := rowM s) (ns := gs) (s := (rowT gs s).2)).len
    exact Nat.le_trans this (by omega)
  refine hb_setA (w1 := [(q, oPool (drS s 12))]) 3 rfl (er_eq (S := rInt ((rowM s : Nat) : Int)) (er_bin er_int (er_tA (ar_cons (er_cmp (er_f1 0 Td r1 (ar_cons (er_v 0 rfl rfl) (ar_cons er_int ar_nil)) rfl (drawOk (s := s) (L := 12) (by decide) (by decide))) er_int bop_eqI) ar_nil) int bt_int cop_intB) bop_add) ?_) ?_
  · congr 1
    unfold rowM
    by_cases z : drR s 12 = 0
    · rw [if_pos z, decide_eq_true z]; rfl
    · rw [if_neg z, decide_eq_false z]; rfl
  refine hb_setNA 4 rfl (en_f1 0 Ta hr (ar_cons (er_v 0 rfl rfl) (ar_cons (er_v 1 rfl rfl) (ar_cons (er_v 3 rfl rfl) ar_nil))) rfl ⟨q, gs, drS s 12, rowM s, by omega, hM5, hM6, rfl, rfl, rfl, rfl⟩) fun qt hqt => ?_
  refine hb_setNA 5 rfl (en_f1 1 Ta hr (ar_cons (er_v 0 rfl rfl) (ar_cons (er_v 1 rfl rfl) (ar_cons (er_v 3 rfl rfl) ar_nil))) rfl ⟨q, gs, (rowT gs s).2, rowM s, by omega, hM5, hM6, rfl, rfl, rfl, rfl⟩) fun qx hqx => ?_
  cases pl with
  | true =>
    refine hb_if (b := true) (tr_val (er_v 2 rfl rfl)) (fun _ => ?_) (fun z => Bool.noConfusion z)
    refine hb_setNA 5 rfl en_dict fun qn hqn => hb_nil ?_
    exact hb_perm (List.Perm.swap _ _ _) (hb_drop (fin qt qn [] hqt hqn (Nat.zero_le _)))
  | false =>
    refine hb_if (b := false) (tr_val (er_v 2 rfl rfl)) (fun z => Bool.noConfusion z) (fun _ => hb_nil ?_)
    exact fin qt qx (rowK gs s).1 hqt hqx lK
end
end W1
set_option maxRecDepth 100000
set_option maxHeartbeats 4000000
set_option exponentiation.threshold 20000
namespace W1
open PySem PySem.Spec PyProof.Rows L2 NdefX TL NumText
/-! ### a book, or what is wrong -/
def beR : BE → Rl
  | .num n => rLst [rStr (Str.ofString "number"), rInt n]
  | .name z => rLst [rStr (Str.ofString "name"), rStr z]
  | .twice z => rLst [rStr (Str.ofString "twice"), rStr z]
  | .unk z => rLst [rStr (Str.ofString "unknown"), rStr z]
def madeR (C W : Addr) (gs : List Str) (ys : List Wy) : Rl := match bErr gs ys with | none => rLst [rBook C W gs ys] | some e => beR e
def pMadeB (C W : Addr) : Pre := fun Rs w o w' => ∃ A1 gs A2 ys, SVar A1 [] (gs.map rStr) ∧ SVar A2 [] (ys.map (rWy W)) ∧ BkOk gs ys ∧ Rs = [A1, A2] ∧ w = [] ∧ w' = [] ∧ o = .ok (madeR C W gs ys)
/-- the four classes of errors: each is taken by its own clause alone -/
structure Err4 (K : PySem.W.Frag) (mg : Str → Option Value) (M N D U : Addr) : Prop where
  gM : mg "BadNumber" = some (.ref M)
  gN : mg "BadName" = some (.ref N)
  gD : mg "DuplicateName" = some (.ref D)
  gU : mg "UnknownName" = some (.ref U)
  xM : XfC K M
  xN : XfC K N
  xD : XfC K D
  xU : XfC K U
  nM : PySem.W.findIn K (.ref M) "n" = some none
  nN : PySem.W.findIn K (.ref N) "name" = some none
  nD : PySem.W.findIn K (.ref D) "name" = some none
  nU : PySem.W.findIn K (.ref U) "name" = some none
  tMM : PySem.W.exmOne K (.ref M) (.ref M) = some true
  tNN : PySem.W.exmOne K (.ref N) (.ref N) = some true
  tDD : PySem.W.exmOne K (.ref D) (.ref D) = some true
  tUU : PySem.W.exmOne K (.ref U) (.ref U) = some true
  tNM : PySem.W.exmOne K (.ref N) (.ref M) = some false
  tDM : PySem.W.exmOne K (.ref D) (.ref M) = some false
  tDN : PySem.W.exmOne K (.ref D) (.ref N) = some false
  tUM : PySem.W.exmOne K (.ref U) (.ref M) = some false
  tUN : PySem.W.exmOne K (.ref U) (.ref N) = some false
  tUD : PySem.W.exmOne K (.ref U) (.ref D) = some false
section
variable {P : Program} {w : World} {K : PySem.W.Frag} {mg : Str → Option Value} {base : Heap} {W C M N D U f : Addr} {fd : FuncData}
theorem kf_made_b (Fn : Fun K "_law_made" "_law_made" s__law_made f fd) (Tb : Kc P w K mg base C "Book" 5 (pBookI C W M N D U)) (X4 : Err4 K mg M N D U) : FnOk P w K mg base (L2.CX P w) 7 f fd P__law_made (spM (pMadeB C W)) := by
  refine fn_ok Fn c__law_made (fun _ _ _ _ ⟨_, _, _, _, _, _, _, h, _⟩ => by rw [h]; rfl) ?_
  rintro cdv A outer s H E ⟨_, G0, H0, M', W', tk⟩ hr rfl Rs ω o ω' ⟨A1, gs, A2, ys, v1, v2, ok, rfl, rfl, rfl, rfl⟩
  have nd := c__law_made.nd
  have lg := ok.lg
  have ly := ok.ly
  refine hb_tryM ⟨"BadNumber", .ref M, 2, "e", _, _, _, _⟩ [⟨"BadName", .ref N, 2, "e", _, _, _, _⟩, ⟨"DuplicateName", .ref D, 2, "e", _, _, _, _⟩, ⟨"UnknownName", .ref U, 2, "e", _, _, _, _⟩] ?_ rfl rfl nd (fun y hy => ?_)
  · rintro ⟨_, G1, H1, M1, W1, tk1⟩ ⟨⟨pn, xe, e, pa⟩, e1, e2, e3⟩
    cases e
    cases c : bErr gs ys with
    | none =>
      refine hb_ret (er_lst (ar_cons (er_c (fs := bookF W gs ys) Tb hr (ar_cons (er_v 0 rfl rfl) (ar_cons (er_v 1 rfl rfl) ar_nil)) (fun q => ⟨q, A1, gs, [], A2, ys, [], v1, v2, ok.nm, ok.ok, by omega, by omega, rfl, rfl, by rw [c]; exact ⟨rfl, rfl⟩⟩)) ar_nil) (Nat.le_of_ble_eq_true rfl)) ⟨_, [], rfl, fun v G z => ?_, rfl⟩
      unfold madeR
      rw [c]
      exact z
    | some x =>
      refine hb_retX (P := errB M N D U x) (ex_lst1 (ex_c Tb hr (ar_cons (er_v 0 rfl rfl) (ar_cons (er_v 1 rfl rfl) ar_nil)) (fun q => ⟨oIns C [], q, A1, gs, [], A2, ys, [], v1, v2, ok.nm, ok.ok, by omega, by omega, rfl, rfl, by rw [c]; exact ⟨rfl, rfl⟩⟩) errB_mo)) ?_
      have no : ∀ {a b : Addr} {fl : Str} {R : Rl}, PySem.W.exmOne K (.ref a) (.ref b) = some false → ∀ cls d G, erF a fl R cls d G → PySem.W.exmOne K cls (.ref b) = some false := fun h cls d G z => by
        rw [z.1]
        exact h
      cases x with
      | num i =>
        refine Or.inl ⟨M, "n", rInt i, fun _ _ _ h => h, X4.tMM, ?_⟩
        rintro a dd ⟨_, G2, H2, M2, W2, tk2⟩ S
        obtain ⟨⟨oe, pn', e, hz', hd⟩, -, -, -⟩ := id S
        cases e
        refine hb_ret (er_lst (ar_cons er_str (ar_cons (er_xf S X4.xM X4.nM (er_v 2 rfl rfl)) ar_nil)) (Nat.le_of_ble_eq_true rfl)) ⟨_, [], rfl, fun v G z => ?_, rfl⟩
        unfold madeR
        rw [c]
        exact z
      | name g =>
        refine Or.inr ⟨no X4.tNM, Or.inl ⟨N, "name", rStr g, fun _ _ _ h => h, X4.tNN, ?_⟩⟩
        rintro a dd ⟨_, G2, H2, M2, W2, tk2⟩ S
        obtain ⟨⟨oe, pn', e, hz', hd⟩, -, -, -⟩ := id S
        cases e
        refine hb_ret (er_lst (ar_cons er_str (ar_cons (er_xf S X4.xN X4.nN (er_v 2 rfl rfl)) ar_nil)) (Nat.le_of_ble_eq_true rfl)) ⟨_, [], rfl, fun v G z => ?_, rfl⟩
        unfold madeR
        rw [c]
        exact z
      | twice g =>
        refine Or.inr ⟨no X4.tDM, Or.inr ⟨no X4.tDN, Or.inl ⟨D, "name", rStr g, fun _ _ _ h => h, X4.tDD, ?_⟩⟩⟩
        rintro a dd ⟨_, G2, H2, M2, W2, tk2⟩ S
        obtain ⟨⟨oe, pn', e, hz', hd⟩, -, -, -⟩ := id S
        cases e
        refine hb_ret (er_lst (ar_cons er_str (ar_cons (er_xf S X4.xD X4.nD (er_v 2 rfl rfl)) ar_nil)) (Nat.le_of_ble_eq_true rfl)) ⟨_, [], rfl, fun v G z => ?_, rfl⟩
        unfold madeR
        rw [c]
        exact z
      | unk g =>
        refine Or.inr ⟨no X4.tUM, Or.inr ⟨no X4.tUN, Or.inr ⟨no X4.tUD, Or.inl ⟨U, "name", rStr g, fun _ _ _ h => h, X4.tUU, ?_⟩⟩⟩⟩
        rintro a dd ⟨_, G2, H2, M2, W2, tk2⟩ S
        obtain ⟨⟨oe, pn', e, hz', hd⟩, -, -, -⟩ := id S
        cases e
        refine hb_ret (er_lst (ar_cons er_str (ar_cons (er_xf S X4.xU X4.nU (er_v 2 rfl rfl)) ar_nil)) (Nat.le_of_ble_eq_true rfl)) ⟨_, [], rfl, fun v G z => ?_, rfl⟩
        unfold madeR
        rw [c]
        exact z
  · rcases List.mem_cons.mp hy with rfl | hy
    · exact ⟨rfl, rfl, rfl, (show (("BadNumber" : Str) == ("__debug__" : Str)) = false by decide), .inl X4.gM⟩
    rcases List.mem_cons.mp hy with rfl | hy
    · exact ⟨rfl, rfl, rfl, (show (("BadName" : Str) == ("__debug__" : Str)) = false by decide), .inl X4.gN⟩
    rcases List.mem_cons.mp hy with rfl | hy
    · exact ⟨rfl, rfl, rfl, (show (("DuplicateName" : Str) == ("__debug__" : Str)) = false by decide), .inl X4.gD⟩
    rw [List.mem_singleton.mp hy]
    exact ⟨rfl, rfl, rfl, (show (("UnknownName" : Str) == ("__debug__" : Str)) = false by decide), .inl X4.gU⟩
end
end W1
set_option maxRecDepth 100000
set_option maxHeartbeats 4000000
set_option exponentiation.threshold 20000
namespace W1
open PySem PySem.Spec PyProof.Rows L2 NdefX TL NumText
/-! ### one way more, some ways -/
def moreR (C W : Addr) (gs : List Str) (ys : List Wy) (y : Wy) : Rl := if ys.length = 8 then beR (.num 9) else match bErr (srt gs) (ys ++ [y]) with | none => rBook C W (srt gs) (ys ++ [y]) | some e => beR e
def pMoreB (C W : Addr) : Pre := fun Rs w o w' => ∃ gs ys y, BkOk gs ys ∧ ys.length ≤ 8 ∧ WyOk y ∧ (∀ e, bErr (srt gs) (ys ++ [y]) = some e → (∃ n, e = .num n) ∨ ∃ z, e = .unk z) ∧ Rs = [rBook C W gs ys, rWy W y] ∧ w = [] ∧ w' = [] ∧ o = .ok (moreR C W gs ys y)
def onlyR (C W : Addr) (gs : List Str) (ys : List Wy) (ns : List Int) : Rl := if ns.length = 0 then beR (.num 0) else match oErr ys.length none ns with | some a => rLst [rStr (Str.ofString "way"), rInt a] | none => rBook C W (srt gs) (ns.map (pick ys))
def pOnlyB (C W : Addr) : Pre := fun Rs w o w' => ∃ gs ys A ns, BkOk gs ys ∧ ys.length ≤ 8 ∧ (∀ a ∈ ns, a.natAbs.log2 < 1920) ∧ ns.length ≤ 1000 ∧ SVar A [] (ns.map rInt) ∧ (ns.length ≠ 0 → oErr ys.length none ns = none → bErr (srt gs) (ns.map (pick ys)) = none) ∧ Rs = [rBook C W gs ys, A] ∧ w = [] ∧ w' = [] ∧ o = .ok (onlyR C W gs ys ns)
section
variable {P : Program} {w : World} {K : PySem.W.Frag} {mg : Str → Option Value} {base : Heap} {W C M N D U V f : Addr} {fd : FuncData}
theorem kf_more (Fn : Fun K "_law_more_of" "_law_more_of" s__law_more_of f fd) (X : BookX K mg C) (Tm : Km P w K mg base C "with_way" 7 (pBWith C W M N D U)) (X4 : Err4 K mg M N D U) : FnOk P w K mg base (L2.CX P w) 8 f fd P__law_more_of (spM (pMoreB C W)) := by
  refine fn_ok Fn c__law_more_of (fun _ _ _ _ ⟨_, _, _, _, _, _, _, h, _⟩ => by rw [h]; rfl) ?_
  rintro cdv A outer s H E ⟨_, G0, H0, M', W', tk⟩ hr rfl Rs ω o ω' ⟨gs, ys, y, ok, l8, yk, he, rfl, rfl, rfl, rfl⟩
  have nd := c__law_more_of.nd
  have cl := X.cx.cls
  refine hb_tryM ⟨"BadNumber", .ref M, 2, "e", _, _, _, _⟩ [⟨"UnknownName", .ref U, 2, "e", _, _, _, _⟩] ?_ rfl rfl nd (fun z hz => ?_)
  · rintro ⟨_, G1, H1, M1, W1, tk1⟩ ⟨⟨pn, xe, e, pa⟩, e1, e2, e3⟩
    cases e
    have three : (∃ n, moreR C W gs ys y = beR (.num n) ∧ pBWith C W M N D U [rBook C W gs ys, rWy W y] [] (.error (erF M "n" (rInt n))) []) ∨ (∃ z, moreR C W gs ys y = beR (.unk z) ∧ pBWith C W M N D U [rBook C W gs ys, rWy W y] [] (.error (erF U "name" (rStr z))) []) ∨ (moreR C W gs ys y = rBook C W (srt gs) (ys ++ [y]) ∧ pBWith C W M N D U [rBook C W gs ys, rWy W y] [] (.ok (rBook C W (srt gs) (ys ++ [y]))) []) := by
      by_cases h8 : ys.length = 8
      · exact .inl ⟨9, by unfold moreR; rw [if_pos h8], gs, ys, y, ok, l8, yk, rfl, rfl, rfl, by rw [if_pos h8]⟩
      cases c : bErr (srt gs) (ys ++ [y]) with
      | none => exact .inr (.inr ⟨by unfold moreR; rw [if_neg h8, c], gs, ys, y, ok, l8, yk, rfl, rfl, rfl, by rw [if_neg h8]; unfold newB; rw [c]⟩)
      | some x =>
        rcases he x c with ⟨n, rfl⟩ | ⟨z, rfl⟩
        · exact .inl ⟨n, by unfold moreR; rw [if_neg h8, c], gs, ys, y, ok, l8, yk, rfl, rfl, rfl, by rw [if_neg h8]; unfold newB; rw [c]; rfl⟩
        · exact .inr (.inl ⟨z, by unfold moreR; rw [if_neg h8, c], gs, ys, y, ok, l8, yk, rfl, rfl, rfl, by rw [if_neg h8]; unfold newB; rw [c]; rfl⟩)
    rcases three with ⟨n, hR, hp⟩ | ⟨z, hR, hp⟩ | ⟨hR, hp⟩
    · refine hb_retX (P := erF M "n" (rInt n)) (ex_m Tm cl hr (er_v 0 rfl rfl) (ar_cons (er_v 1 rfl rfl) ar_nil) hp) ?_
      refine Or.inl ⟨M, "n", rInt n, fun _ _ _ h => h, X4.tMM, ?_⟩
      rintro a dd ⟨_, G2, H2, M2, W2, tk2⟩ S
      obtain ⟨⟨oe, pn', e, hz', hd⟩, -, -, -⟩ := id S
      cases e
      refine hb_ret (er_lst (ar_cons er_str (ar_cons (er_xf S X4.xM X4.nM (er_v 2 rfl rfl)) ar_nil)) (Nat.le_of_ble_eq_true rfl)) ⟨_, [], rfl, fun v G k => ?_, rfl⟩
      rw [hR]
      exact k
    · refine hb_retX (P := erF U "name" (rStr z)) (ex_m Tm cl hr (er_v 0 rfl rfl) (ar_cons (er_v 1 rfl rfl) ar_nil) hp) ?_
      refine Or.inr ⟨fun cls d G k => by rw [k.1]; exact X4.tUM, Or.inl ⟨U, "name", rStr z, fun _ _ _ h => h, X4.tUU, ?_⟩⟩
      rintro a dd ⟨_, G2, H2, M2, W2, tk2⟩ S
      obtain ⟨⟨oe, pn', e, hz', hd⟩, -, -, -⟩ := id S
      cases e
      refine hb_ret (er_lst (ar_cons er_str (ar_cons (er_xf S X4.xU X4.nU (er_v 2 rfl rfl)) ar_nil)) (Nat.le_of_ble_eq_true rfl)) ⟨_, [], rfl, fun v G k => ?_, rfl⟩
      rw [hR]
      exact k
    · refine hb_ret (er_m (R := rBook C W (srt gs) (ys ++ [y])) Tm cl hr (er_v 0 rfl rfl) (ar_cons (er_v 1 rfl rfl) ar_nil) hp) ⟨_, [], rfl, fun v G k => ?_, rfl⟩
      rw [hR]
      exact k
  · rcases List.mem_cons.mp hz with rfl | hz
    · exact ⟨rfl, rfl, rfl, (show (("BadNumber" : Str) == ("__debug__" : Str)) = false by decide), .inl X4.gM⟩
    rw [List.mem_singleton.mp hz]
    exact ⟨rfl, rfl, rfl, (show (("UnknownName" : Str) == ("__debug__" : Str)) = false by decide), .inl X4.gU⟩
end
end W1
set_option maxRecDepth 100000
set_option maxHeartbeats 4000000
set_option exponentiation.threshold 20000
namespace W1
open PySem PySem.Spec PyProof.Rows L2 NdefX TL NumText
/-- BadWay beside BadNumber -/
structure ErrV (K : PySem.W.Frag) (mg : Str → Option Value) (M V : Addr) : Prop where
  gV : mg "BadWay" = some (.ref V)
  xV : XfC K V
  nV : PySem.W.findIn K (.ref V) "at" = some none
  tVV : PySem.W.exmOne K (.ref V) (.ref V) = some true
  tVM : PySem.W.exmOne K (.ref V) (.ref M) = some false
section
variable {P : Program} {w : World} {K : PySem.W.Frag} {mg : Str → Option Value} {base : Heap} {W C M N D U V f : Addr} {fd : FuncData}
theorem kf_only_b (Fn : Fun K "_law_only" "_law_only" s__law_only f fd) (X : BookX K mg C) (To : Km P w K mg base C "only" 7 (pBOnly C W M N D U V)) (X4 : Err4 K mg M N D U) (XV : ErrV K mg M V) : FnOk P w K mg base (L2.CX P w) 8 f fd P__law_only (spM (pOnlyB C W)) := by
  refine fn_ok Fn c__law_only (fun _ _ _ _ ⟨_, _, _, _, _, _, _, _, _, _, h, _⟩ => by rw [h]; rfl) ?_
  rintro cdv A outer s H E ⟨_, G0, H0, M', W', tk⟩ hr rfl Rs ω o ω' ⟨gs, ys, A1, ns, ok, l8, hi, ln, sv, he, rfl, rfl, rfl, rfl⟩
  have nd := c__law_only.nd
  have cl := X.cx.cls
  refine hb_tryM ⟨"BadNumber", .ref M, 2, "e", _, _, _, _⟩ [⟨"BadWay", .ref V, 2, "e", _, _, _, _⟩] ?_ rfl rfl nd (fun z hz => ?_)
  · rintro ⟨_, G1, H1, M1, W1, tk1⟩ ⟨⟨pn, xe, e, pa⟩, e1, e2, e3⟩
    cases e
    have three : (onlyR C W gs ys ns = beR (.num 0) ∧ pBOnly C W M N D U V [rBook C W gs ys, A1] [] (.error (erF M "n" (rInt 0))) []) ∨ (∃ a, onlyR C W gs ys ns = rLst [rStr (Str.ofString "way"), rInt a] ∧ pBOnly C W M N D U V [rBook C W gs ys, A1] [] (.error (erF V "at" (rInt a))) []) ∨ (onlyR C W gs ys ns = rBook C W (srt gs) (ns.map (pick ys)) ∧ pBOnly C W M N D U V [rBook C W gs ys, A1] [] (.ok (rBook C W (srt gs) (ns.map (pick ys)))) []) := by
      by_cases h0 : ns.length = 0
      · exact .inl ⟨by unfold onlyR; rw [if_pos h0], gs, ys, A1, ns, ok, l8, hi, ln, sv, rfl, rfl, rfl, by rw [if_pos h0]⟩
      cases c : oErr ys.length none ns with
      | some a => exact .inr (.inl ⟨a, by unfold onlyR; rw [if_neg h0, c], gs, ys, A1, ns, ok, l8, hi, ln, sv, rfl, rfl, rfl, by rw [if_neg h0, c]⟩)
      | none =>
        have b := he h0 c
        exact .inr (.inr ⟨by unfold onlyR; rw [if_neg h0, c], gs, ys, A1, ns, ok, l8, hi, ln, sv, rfl, rfl, rfl, by rw [if_neg h0, c]; unfold newB; rw [b]⟩)
    rcases three with ⟨hR, hp⟩ | ⟨a, hR, hp⟩ | ⟨hR, hp⟩
    · refine hb_retX (P := erF M "n" (rInt 0)) (ex_m To cl hr (er_v 0 rfl rfl) (ar_cons (er_v 1 rfl rfl) ar_nil) hp) ?_
      refine Or.inl ⟨M, "n", rInt 0, fun _ _ _ h => h, X4.tMM, ?_⟩
      rintro a dd ⟨_, G2, H2, M2, W2, tk2⟩ S
      obtain ⟨⟨oe, pn', e, hz', hd⟩, -, -, -⟩ := id S
      cases e
      refine hb_ret (er_lst (ar_cons er_str (ar_cons (er_xf S X4.xM X4.nM (er_v 2 rfl rfl)) ar_nil)) (Nat.le_of_ble_eq_true rfl)) ⟨_, [], rfl, fun v G k => ?_, rfl⟩
      rw [hR]
      exact k
    · refine hb_retX (P := erF V "at" (rInt a)) (ex_m To cl hr (er_v 0 rfl rfl) (ar_cons (er_v 1 rfl rfl) ar_nil) hp) ?_
      refine Or.inr ⟨fun cls d G k => by rw [k.1]; exact XV.tVM, Or.inl ⟨V, "at", rInt a, fun _ _ _ h => h, XV.tVV, ?_⟩⟩
      rintro a' dd ⟨_, G2, H2, M2, W2, tk2⟩ S
      obtain ⟨⟨oe, pn', e, hz', hd⟩, -, -, -⟩ := id S
      cases e
      refine hb_ret (er_lst (ar_cons er_str (ar_cons (er_xf S XV.xV XV.nV (er_v 2 rfl rfl)) ar_nil)) (Nat.le_of_ble_eq_true rfl)) ⟨_, [], rfl, fun v G k => ?_, rfl⟩
      rw [hR]
      exact k
    · refine hb_ret (er_m (R := rBook C W (srt gs) (ns.map (pick ys))) To cl hr (er_v 0 rfl rfl) (ar_cons (er_v 1 rfl rfl) ar_nil) hp) ⟨_, [], rfl, fun v G k => ?_, rfl⟩
      rw [hR]
      exact k
  · rcases List.mem_cons.mp hz with rfl | hz
    · exact ⟨rfl, rfl, rfl, (show (("BadNumber" : Str) == ("__debug__" : Str)) = false by decide), .inl X4.gM⟩
    rw [List.mem_singleton.mp hz]
    exact ⟨rfl, rfl, rfl, (show (("BadWay" : Str) == ("__debug__" : Str)) = false by decide), .inl XV.gV⟩
end
end W1
set_option maxRecDepth 100000
set_option maxHeartbeats 4000000
set_option exponentiation.threshold 20000
namespace W1
open PySem PySem.Spec PyProof.Rows L2 NdefX TL NumText
/-! ### a comprehension over three names of a list of three -/
theorem all3 {R S T : Rl} {vs : List V} {H : Hp} (h : All2 [R, S, T] vs H) : ∃ x y z, vs = [x, y, z] ∧ R.r x H ∧ S.r y H ∧ T.r z H := by
  cases vs with
  | nil => exact h.elim
  | cons x vs =>
    obtain ⟨hx, h⟩ := h
    obtain ⟨y, z, rfl, hy, hz⟩ := all2 h
    exact ⟨x, y, z, rfl, hx, hy, hz⟩
theorem gew_lst3 {K : PySem.W.Frag} {i j l : Nat} {ρ : Ty} {R S T : Rl} (hij : i ≠ j) (hil : i ≠ l) (hjl : j ≠ l) : GEw (gLst K 3 (gCons (gName i) (gCons (gName j) (gCons (gName l) gNil)))) [i, j, l] ρ (rLst [R, S, T]) ((((((ρ.set l none).set j none).set i none).set i (some R)).set j (some S)).set l (some T)) := fun v σ G H Q s sl r q => by
  obtain ⟨a, vs, rfl, h1, h2⟩ := r
  obtain ⟨x, y, z, rfl, hx, hy, hz⟩ := all3 h2
  refine ⟨a, [x, y, z], rfl, SqL.of (s _ _ h1), rfl, x, [y, z], rfl, y, [z], rfl, z, [], rfl, rfl, q _ ?_ ((((((sl.gone l).gone j).gone i).set i hx).set j hy).set l hz)⟩
  show ((((((((σ.set l none).set j none).set i none).set i (some x)).set j (some y)).set l (some z)).set l none).set j none).set i none = ((σ.set l none).set j none).set i none
  apply List.ext_getElem?
  intro n
  simp only [List.getElem?_set]
  simp only [List.length_set]
  by_cases h1 : i = n <;> by_cases h2 : j = n <;> by_cases h3 : l = n <;> simp_all
end W1
set_option maxRecDepth 100000
set_option maxHeartbeats 4000000
set_option exponentiation.threshold 20000
namespace W1
open PySem PySem.Spec PyProof.Rows L2 NdefX TL NumText
/-- a row that makes a way -/
structure RwOk (y : Wy) : Prop where
  g1 : AmG y.1
  g2 : AmG y.2.2
  hh : y.2.1.natAbs.log2 < 1920
  ok : wayE y.1 y.2.1 y.2.2 = none
def pBookOf (C W M N D U : Addr) : Pre := fun Rs w o w' => ∃ gs ys, BkOk gs ys ∧ (∀ y ∈ ys, RwOk y) ∧ Rs = [rLst (gs.map rStr), rLst (ys.map rRw)] ∧ w = [] ∧ w' = [] ∧ o = newB C W M N D U gs ys
section
variable {P : Program} {w : World} {K : PySem.W.Frag} {mg : Str → Option Value} {base : Heap} {W C M N D U V f : Addr} {fd : FuncData}
theorem kf_bookof (Fn : Fun K "_law_book_of" "_law_book_of" s__law_book_of f fd) (Tb : Kc P w K mg base C "Book" 5 (pBookI C W M N D U)) (Tw : Kc P w K mg base W "Way" 6 (pWayI W N M)) : FnOk P w K mg base (L2.CX P w) 8 f fd P__law_book_of (spM (pBookOf C W M N D U)) := by
  refine fn_ok Fn c__law_book_of (fun _ _ _ _ ⟨_, _, _, _, h, _⟩ => by rw [h]; rfl) ?_
  rintro cdv A outer s H E ⟨_, G0, H0, M', W', tk⟩ hr rfl Rs ω o ω' ⟨gs, ys, ok, hy, rfl, rfl, rfl, rfl⟩
  have nd := c__law_book_of.nd
  have ly := ok.ly
  refine hb_retB Tb (hr.mono (by decide)) (ar_cons (er_v 0 rfl rfl) (ar_cons (er_lc (xs := ys) (A := rRw) (B := rWy W) (it_lst (er_v 1 rfl rfl)) (by omega) [("_law_takes", 2), ("_law_hours", 3), ("_law_makes", 4)] (blkOk_by (N := N__law_book_of) (sc := defScope s__law_book_of) (by decide +kernel)) (fun _ _ _ _ _ => pg_lst rfl (pgs_cons (pg_name (i := 2) nd rfl (Or.inl rfl)) (pgs_cons (pg_name (i := 3) nd rfl (Or.inl rfl)) (pgs_cons (pg_name (i := 4) nd rfl (Or.inl rfl)) pgs_nil)))) (fun i y hi => gew_lst3 (by decide) (by decide) (by decide)) (fun i y hi s1 H1 cc cl fp d => ?_) nd) ar_nil)) (.inl ⟨rfl, rfl⟩) (.inl ⟨rfl, rfl⟩) ok
  have r := hy y (List.mem_of_getElem? hi)
  exact er_cS (wc := []) (fs := wayF y.1 y.2.1 y.2.2) Tw hr (ar_cons (er_v 2 rfl rfl) (ar_cons (er_v 3 rfl rfl) (ar_cons (er_v 4 rfl rfl) ar_nil))) Sub.nil fun q => ⟨q, _, y.1, [], _, y.2.2, [], y.2.1, .inl ⟨rfl, rfl⟩, .inl ⟨rfl, rfl⟩, r.g1, r.g2, r.hh, rfl, rfl, by rw [r.ok]; exact ⟨rfl, rfl⟩⟩
end
end W1
set_option maxRecDepth 100000
set_option maxHeartbeats 4000000
set_option exponentiation.threshold 20000
namespace W1
open PySem PySem.Spec PyProof.Rows L2 NdefX TL NumText
section
variable {F : Fx} {ρ : Ty} {ω w w1 w2 : Ow} {a b c e : Expr} {es : List Expr} {A R S : Rl} {K : Kn} {rest : List Stmt} {pos : Pos} {x y z : Str} {k : Nat} {Φ : Rl → Ow → Prop} {Ψ : List Rl → Ow → Prop}
theorem eg_fn {pre : Pre} {p : Pos} (T : Kf1 F.X.prog F.X.w F.X.K F.X.mg F.X.base x k pre) (hr : Room k F.X.A) (ha : AG F ρ ω (e :: es) fun Rs w => ∃ wc wr wc' R, w = wc ++ wr ∧ keys wc' = keys wc ∧ pre Rs wc (.ok R) wc' ∧ Φ R (wc' ++ wr))
    (hg : Gl F.X x := by rfl) (hdb : (x == ("__debug__" : Str)) = false := by decide) (he : starEach (e :: es) F.X.env = (false, eval e F.X.env) :: starEach es F.X.env := by rfl) (hpl : (backTo pos (starEach es F.X.env)).any (·.1) = false := by rfl) :
    EG F ρ ω (.Call (.Name x p) (e :: es) [] pos) Φ := fun σ G H at_ sl Q q => by
  obtain ⟨f, fd, ps, h1, h2, h3, h4⟩ := T
  refine ew_of (pe_callS h4 hr hg h1 h2 h3 passW pa_w hdb he hpl) (ha σ G H at_ sl _ ?_)
  rintro vs G2 H2 Rs w ⟨wc, wr, wc', R, rfl, hk, hp, hΦ⟩ s a r
  exact sp_ok a r hp hk fun v G3 H3 s3 a3 r3 => q v G3 H3 R _ hΦ (s.trans s3) a3 r3
theorem eg_mono {Φ' : Rl → Ow → Prop} (h : EG F ρ ω e Φ) (k : ∀ R w, Φ R w → Φ' R w) : EG F ρ ω e Φ' := fun σ G H at_ sl Q q => h σ G H at_ sl Q fun v G2 H2 R w z => q v G2 H2 R w (k R w z)
theorem hb_ifJ {th : List Stmt} {b : Bool} (J : Ty → Ow → Prop) (hc : TR F ρ ω c b w1) (h1 : b = true → HB F ρ w1 th { K with nx := J }) (h2 : b = false → J ρ w1) (hr : ∀ ρ' w', J ρ' w' → HB F ρ' w' rest K) : HB F ρ ω (.If c th [] pos :: rest) K :=
  hb_if hc (fun e => fun σ G H D at_ sl ps => h1 e σ G H D at_ sl ⟨fun ρ' w' k => ps.nx ρ' w' (hr ρ' w' k), ps.rt, ps.bk, ps.ct, ps.ex⟩) fun e => hb_nil (hr _ _ (h2 e))
end
section
variable {F : Fx} {ρ : Ty} {ω w w1 w2 w3 : Ow} {e o ix it elt : Expr} {R S : Rl} {Rs : List Rl} {K : Kn} {rest : List Stmt} {pos p spos py : Pos} {x y : Str} {q : Addr} {Φ : Rl → Ow → Prop} {scope : Scope}
theorem hb_setGc (l : Nat) (i : Nat) (hi : F.X.N[i]? = some x) (hpg : ∀ (s : Shared) (H : Hp) (C : Addr) (cl : List (Str × Addr)) (fp : List Addr), PG (F.X.blk s H scope (compEnvC scope cl C F.X.env) fp) (.Name x p) (gName i))
    (ok : BlkOk F.X.N F.X.env.scope scope [(x, i)]) (hit : IT F ρ ω (.Name x p) it Rs w1) (hz : Rs.length ≤ 100000) (I : Nat → List Rl → Ow → Prop) (h0 : I 0 [] w1)
    (he : ∀ (j : Nat) S Bs w, Rs[j]? = some S → I j Bs w → ∀ s H0 C cl fp d, EG (blkF F s H0 scope C cl fp) ((ρ.set i none).set i (some S)) (d :: w) elt fun R w' => ∃ w2, w'.Perm (d :: w2) ∧ I (j + 1) (Bs ++ [R]) w2)
    (hl : ∀ j Bs w, I j Bs w → Bs.length = j) (hf : ∀ Bs w, I Rs.length Bs w → HB F (ρ.set l (some (rLst Bs))) w rest K)
    (hN : F.X.N.Nodup) (hsw : swapsWith (.ListComp elt [⟨.Name x p, it, [], 0⟩] scope pos) (some (.Name y py)) spos.line F.X.env = pure true) (hc : F.X.calm = true := by rfl) (hy : F.X.N[l]? = some y := by rfl) (hyl : F.X.env.scope.names.lookup y = some .local := by rfl) (hs : ∀ z, foldedSetIterable it F.X.env z = pure z := by intro _; rfl) :
    HB F ρ ω (.Assign [.Name y py] (.ListComp elt [⟨.Name x p, it, [], 0⟩] scope pos) spos :: rest) K := hb_cons fun σ G H De at_ sl ps => by
  obtain ⟨wi, hpi, hwi⟩ := hit
  refine sw_of (ps_setLc hc hN hy hyl hsw hpi ok hpg (fun _ _ _ _ _ => pts_nil) (te := fun σ H Q => ∀ s H0 C cl fp, EW (F.X.blk s H0 scope (compEnvC scope cl C F.X.env) fp) elt σ H Q) (fun _ _ _ _ _ => ⟨fun pins s σ H Q I h => h _ _ _ _ _ pins s I⟩) hs) ?_
  refine hwi σ G H at_ sl _ fun J G2 H2 s2 a2 y2 => fun D hD => ?_
  have hM : D ∉ F.M := fun hm => a2.mm D hm hD
  refine ⟨fun j m H => m = Rs.length - j ∧ j ≤ Rs.length ∧ ∃ G Bs w, At F ((D, oL Bs) :: w) G H ∧ Same G2 G ∧ I j Bs w, ⟨Rs.length, by simp, Nat.zero_le _, G2, [], w1, a2.own hD ⟨[], rfl, trivial⟩, Same.refl _, h0⟩, ?_⟩
  rintro j m H1 ⟨rfl, hj, G1, Bs, w, a1, s1, inv⟩
  by_cases hlt : j < Rs.length
  · have hgo : Rs[j]? = some Rs[j] := List.getElem?_eq_getElem hlt
    refine .inr ⟨y2.go j G1 H1 s1 a1.gh hlt, fun H' => ∃ G Bs w, At F ((D, oL Bs) :: w) G H' ∧ Same G2 G ∧ I (j + 1) Bs w, fun H' z => ⟨Rs.length - (j + 1), by omega, rfl, hlt, z⟩, fun v H' y => ?_⟩
    obtain ⟨G3, st, rx⟩ := y2.yld j Rs[j] G1 H1 v H' s1 a1.gh hgo y
    have a3 := a1.step st
    have s3 := s1.trans st.gg
    refine gew_name v σ G3 H' _ a3.gh ((sl.up s2).up s3) rx fun σ2 hw sl2 => ⟨hw, ?_⟩
    unfold tYes
    dsimp only
    rw [if_pos rfl]
    intro s H0 C cl fp
    refine he j _ Bs w hgo inv s H0 C cl fp (D, oL Bs) σ2 G3 H' a3.to sl2 _ ?_
    rintro u G5 H5 R w' ⟨w2, pm, inv2⟩ s5 a5' r5
    have a5 : At F ((D, oL Bs) :: w2) G5 H5 := (At.to (F := blkF F s H0 scope C cl fp) (F' := F) a5').perm pm
    obtain ⟨_, _, ob, h1, vs, rfl, h2⟩ := a5.ow _ List.mem_cons_self
    refine ⟨vs, h1, Nat.lt_of_le_of_lt (by rw [← h2.len, hl _ _ _ inv]; exact Nat.le_trans hj hz) (by decide), G5, Bs ++ [R], w2, a5.chg ⟨_, rfl, h2.app (mk1 r5)⟩, s3.trans s5, inv2⟩
  · have ej : j = Rs.length := by omega
    subst ej
    refine .inl ⟨y2.stop G1 H1 s1 a1.gh, ?_⟩
    obtain ⟨hg0, _, ob, h1, vs, rfl, h2⟩ := a1.ow _ List.mem_cons_self
    have a5 := a1.pub h1 (At.own0 a1 hM)
    have sg : Same G1 (upd G1 D (.lst vs)) := fun b u e => by rw [upd_ne (ne_of_none e hg0)]; exact e
    have s7 := (s2.trans s1).trans sg
    have rl : (rLst Bs).r (.ref D) (upd G1 D (.lst vs)) := ⟨D, vs, rfl, upd_same, h2.up sg⟩
    exact hf Bs w inv _ _ _ De a5 ((sl.up s7).set l rl) (ps.up s7)
end
theorem val_put {am : Am} {k : Str} {v : Int} : valA (putA am k v) k = v := by
  unfold valA putA
  split
  · rename_i h
    have : ∀ l : Am, (l.any fun p => decide (p.1 = k)) = true → (((l.map fun p => if p.1 = k then (p.1, v) else p).find? fun p => decide (p.1 = k)).map (·.2)).getD 0 = v := by
      intro l
      induction l with
      | nil => intro h; cases h
      | cons p l ih =>
        intro h
        rw [List.map_cons, List.find?_cons]
        by_cases e : p.1 = k
        · rw [if_pos e, decide_eq_true (show (p.1, v).1 = k from e)]
          rfl
        · rw [if_neg e, decide_eq_false e]
          dsimp only
          refine ih ?_
          rw [List.any_cons, decide_eq_false e, Bool.false_or] at h
          exact h
    exact this am h
  · rename_i h
    rw [List.find?_append]
    have : (am.find? fun p => decide (p.1 = k)) = none := by
      rw [List.find?_eq_none]
      intro p hp e
      exact h (List.any_eq_true.mpr ⟨p, hp, e⟩)
    rw [this]
    simp
theorem map_get {α β : Type} {f : α → β} {xs : List α} {k : Nat} {S : β} (h : (xs.map f)[k]? = some S) : ∃ a, xs[k]? = some a ∧ S = f a := by
  rw [List.getElem?_map] at h
  cases e : xs[k]? with
  | none => rw [e] at h; cases h
  | some a => rw [e] at h; cases h; exact ⟨a, rfl, rfl⟩
theorem rng_get {lo : Int} {n k : Nat} {S : Rl} (h : (rng lo n)[k]? = some S) : k < n ∧ S = rInt (lo + k) := by
  unfold rng at h
  obtain ⟨j, hj, rfl⟩ := map_get h
  obtain ⟨hl, e⟩ := List.getElem?_eq_some_iff.mp hj
  rw [List.getElem_range] at e
  rw [List.length_range] at hl
  subst e
  exact ⟨hl, rfl⟩
theorem AmI.val {ns : List Str} {am : Am} (h : AmI ns am) (g : Str) : 0 ≤ valA am g := by
  unfold valA
  cases e : am.find? fun p => decide (p.1 = g) with
  | none => decide
  | some p => exact (h.ok p (List.mem_of_find?_eq_some e)).1
theorem chk_none {am : Am} : ∀ {l : List Str}, (∀ g ∈ l, nameL (tl g) = true ∧ 0 ≤ valA am g) → chkL am l = none
  | [], _ => rfl
  | a :: l, h => by
    have h1 := h a List.mem_cons_self
    unfold chkL
    rw [if_pos h1.1, if_neg (by omega)]
    exact chk_none fun g hg => h g (List.mem_cons_of_mem _ hg)
theorem wayE_none {t m : Am} {h : Int} (e : wayE t h m = none) : chkL t (srt (namesA t)) = none ∧ chkL m (srt (namesA m)) = none := by
  unfold wayE at e
  cases c1 : chkL t (srt (namesA t)) with
  | some x => rw [c1] at e; cases e
  | none =>
    rw [c1] at e
    dsimp only at e
    cases c2 : chkL m (srt (namesA m)) with
    | some x => rw [c2] at e; cases e
    | none => exact ⟨rfl, rfl⟩
theorem eqV_int (z : Int) : eqV (.int z) (.int z) = true := by
  show decide _ = true
  exact decide_eq_true rfl
theorem small_log {i : Int} (h : i.natAbs ≤ 10 ^ 20) : i.natAbs.log2 < 1920 := by
  rcases Nat.eq_zero_or_pos i.natAbs with z | z
  · rw [z]; decide
  · have h2 : i.natAbs < 2 ^ 67 := Nat.lt_of_le_of_lt h (by decide)
    exact Nat.lt_trans ((Nat.log2_lt (by omega)).mpr h2) (by decide)
theorem getD_in {α : Type} {xs : List α} {i : Nat} {d : α} (h : i < xs.length) : xs.getD i d ∈ xs := by
  rw [List.getD_eq_getElem?_getD, List.getElem?_eq_getElem h]
  exact List.getElem_mem h
def Asc (z : Str) : Prop := ∀ c ∈ tl z, c < 256
def Sh (n : Nat) (d : PyData) : Prop := d.canLay0 = true ∧ d.depth ≤ n
theorem sh_str {z : Str} (h : Asc z) : Sh 0 (.str z) := by
  refine ⟨?_, Nat.le_refl _⟩
  show PyData.strOk z = true
  unfold PyData.strOk
  rw [Array.all_eq_true']
  intro c hc
  have := h c (Array.mem_toList_iff.mpr hc)
  exact decide_eq_true (by omega)
theorem sh_int (i : Int) : Sh 0 (.int i) := ⟨rfl, Nat.le_refl _⟩
theorem Sh.up {m n : Nat} {d : PyData} (h : Sh m d) (l : m ≤ n) : Sh n d := ⟨h.1, Nat.le_trans h.2 l⟩
theorem sh_all {n : Nat} : ∀ {ds : List PyData}, (∀ d ∈ ds, Sh n d) → PyData.canLayAll0 ds = true ∧ PyData.depthAll ds ≤ n
  | [], _ => ⟨rfl, Nat.zero_le _⟩
  | d :: ds, h => by
    obtain ⟨a, b⟩ := sh_all fun e he => h e (List.mem_cons_of_mem _ he)
    obtain ⟨x, y⟩ := h d List.mem_cons_self
    refine ⟨?_, ?_⟩
    · show (PyData.canLay0 d && PyData.canLayAll0 ds) = true
      rw [x, a]; rfl
    · show max (PyData.depth d) (PyData.depthAll ds) ≤ n
      omega
theorem sh_list {n : Nat} {ds : List PyData} (h : ∀ d ∈ ds, Sh n d) : Sh (n + 1) (.list ds) := ⟨(sh_all h).1, Nat.succ_le_succ (sh_all h).2⟩
theorem sh_tup {n : Nat} {ds : List PyData} (h : ∀ d ∈ ds, Sh n d) : Sh (n + 1) (.tuple ds) := ⟨(sh_all h).1, Nat.succ_le_succ (sh_all h).2⟩
theorem Sh.ok {n : Nat} {d : PyData} (h : Sh n d) (l : n ≤ 64) : SeqAt.shaped d = true := by
  unfold SeqAt.shaped
  rw [h.1, decide_eq_true (Nat.le_trans h.2 l)]; rfl
theorem eqv_self {n : Nat} {d : PyData} (h : Sh n d) : PyData.eqv d d = true := SeqAt.eqv_refl d h.1
/-! ### {k: v}, {k: v, l: z}; a list behind a list that makes things -/
section
variable {F : Fx} {ρ : Ty} {ω w w1 w2 w3 w4 : Ow} {a b c d : Expr} {R S : Rl} {As : List Rl} {pos : Pos} {k l : Key} {Φ : Rl → Ow → Prop}
theorem own_nil {q : Addr} {G H : Hp} (at_ : At F ((q, oD []) :: w) G H) : H q = some (.dK []) := by
  obtain ⟨_, _, o, h, vs, rfl, n⟩ := at_.ow _ List.mem_cons_self
  cases vs with
  | nil => exact h
  | cons p r => exact n.elim
theorem en_disp1 (hk : ∀ z, ER F ρ (z :: ω) a (rEqV (kV k)) (z :: w1)) (hv : ∀ z, ER F ρ (z :: w1) b R (z :: w2)) : EN F ρ ω (.Dict [some a] [b] pos) (oD (putKR [] k R)) w2 := fun σ G H at_ sl Q q => by
  refine ew_of (pe_disp (pps_cons pe_w pe_w pps_nil) rfl rfl (by simp) (by simp)) fun p hp => ?_
  refine hk _ σ G _ (at_.own (O := oD []) hp ⟨[], rfl, trivial⟩) sl _ fun x G1 H1 s1 a1 r1 => hv _ σ G1 H1 a1 (sl.up s1) _ fun y G2 H2 s2 a2 r2 => ⟨own_nil a2, [(k, y)], ?_, by simp, ?_⟩
  · rw [show x = kV k from r1]; rfl
  · exact q p G2 _ (fun hm => at_.mm p hm hp) (s1.trans s2) (a2.chg ⟨_, rfl, NR.putK (fs := []) (vs := []) trivial r2⟩)
theorem en_disp2 (hk : ∀ z, ER F ρ (z :: ω) a (rEqV (kV k)) (z :: w1)) (hv : ∀ z, ER F ρ (z :: w1) b R (z :: w2)) (hl : ∀ z, ER F ρ (z :: w2) c (rEqV (kV l)) (z :: w3)) (hz : ∀ z, ER F ρ (z :: w3) d S (z :: w4)) : EN F ρ ω (.Dict [some a, some c] [b, d] pos) (oD (putKR (putKR [] k R) l S)) w4 := fun σ G H at_ sl Q q => by
  refine ew_of (pe_disp (pps_cons pe_w pe_w (pps_cons pe_w pe_w pps_nil)) rfl rfl (by simp) (by simp)) fun p hp => ?_
  refine hk _ σ G _ (at_.own (O := oD []) hp ⟨[], rfl, trivial⟩) sl _ fun x G1 H1 s1 a1 r1 => hv _ σ G1 H1 a1 (sl.up s1) _ fun y G2 H2 s2 a2 r2 => ?_
  refine hl _ σ G2 H2 a2 ((sl.up s1).up s2) _ fun x2 G3 H3 s3 a3 r3 => hz _ σ G3 H3 a3 (((sl.up s1).up s2).up s3) _ fun y2 G4 H4 s4 a4 r4 => ⟨own_nil a4, [(k, y), (l, y2)], ?_, by simp, ?_⟩
  · rw [show x = kV k from r1, show x2 = kV l from r3]; rfl
  · exact q p G4 _ (fun hm => at_.mm p hm hp) (((s1.trans s2).trans s3).trans s4) (a4.chg ⟨_, rfl, NR.putK (NR.putK (fs := []) (vs := []) trivial (R.mo _ _ _ (s3.trans s4) r2)) r4⟩)
theorem eg_cat (ha : ER F ρ ω a (rLst As) w1) (hb : EG F ρ w1 b fun B w2 => ∃ Bs, B = rLst Bs ∧ As.length + Bs.length ≤ 100000 ∧ Φ (rLst (As ++ Bs)) w2) : EG F ρ ω (.BinOp a .Add b pos) Φ := fun σ G H at_ sl Q q => by
  refine ew_of (pe_op op_cat pe_w pe_w) (ha σ G H at_ sl _ fun x G1 H1 s1 a1 r1 => hb σ G1 H1 a1 (sl.up s1) _ ?_)
  rintro y G2 H2 B w2 ⟨Bs, rfl, hz, hΦ⟩ s2 a2 r2
  obtain ⟨l, vs, rfl, e1, e2⟩ := (rLst As).mo _ _ _ s2 r1
  obtain ⟨m, ws, rfl, e3, e4⟩ := r2
  refine ⟨l, m, vs, ws, rfl, rfl, a2.gh _ _ e1, a2.gh _ _ e3, Nat.le_trans (by rw [← e2.len, ← e4.len]; exact hz) (by decide), fun p hp => ?_⟩
  have st := Step.new (o := .lst (vs ++ ws)) a2.gh hp
  exact q _ _ _ _ _ hΦ ((s1.trans s2).trans st.gg) (a2.step st) ⟨p, _, rfl, upd_same, (e2.app e4).up st.gg⟩
end
/-! ### a pool of which no more is known -/
abbrev oAny : Ol := oEx oPool
theorem er_any {F : Fx} {ρ : Ty} {ω w : Ow} {e : Expr} {R : Rl} {q : Addr} {s : Pool} (h : ER F ρ ω e R ((q, oPool s) :: w)) : ER F ρ ω e R ((q, oAny) :: w) := er_weakO (O := oPool s) (O' := oAny) (fun o G z => ⟨s, z⟩) h
theorem hb_any {F : Fx} {ρ : Ty} {w : Ow} {K : Kn} {rest : List Stmt} {q : Addr} {s : Pool} (h : HB F ρ ((q, oAny) :: w) rest K) : HB F ρ ((q, oPool s) :: w) rest K := hb_weakO (O := oPool s) (O' := oAny) (fun o G z => ⟨s, z⟩) h
/-! ### rows that make ways -/
structure RwG (y : Wy) : Prop where
  rw : RwOk y
  wy : WyOk y
/-- a row of goods that are drawn -/
structure RowK (gs : List Str) (y : Wy) : Prop where
  it : AmI gs y.1
  im : AmI gs y.2.2
  h1 : 1 ≤ y.2.1
  h2 : y.2.1 ≤ 100
  pos : ∃ g ∈ gs, 0 < valA y.2.2 g
theorem menu_name : ∀ g ∈ menuN, nameL (tl g) = true := by
  have : (menuN.all fun g => nameL (tl g)) = true := by decide +kernel
  exact fun g hg => List.all_eq_true.mp this g hg
theorem menu_len : ∀ g ∈ menuN, g.length ≤ 640 := by
  have : (menuN.all fun g => decide (g.length ≤ 640)) = true := by decide +kernel
  exact fun g hg => of_decide_eq_true (List.all_eq_true.mp this g hg)
theorem mem_goodsW {t m : Am} {g : Str} : g ∈ goodsW t m ↔ g ∈ namesA (keptA t) ∨ g ∈ namesA (keptA m) := by
  unfold goodsW
  rw [srt_mem_iff]
  have h0 : (namesA ([] : Am)).Nodup := List.nodup_nil
  obtain ⟨h1, h2⟩ := names_merge (keptA t) [] h0
  rw [(names_merge (keptA m) _ h1).2, h2]
  simp [namesA]
theorem am_big {gs : List Str} {am : Am} (G : Goods gs) (h : AmI gs am) : AmG am := by
  have hl := h.len
  have h8 : gs.length ≤ 8 := sub_len G.nd G.sub
  refine ⟨⟨by omega, fun p hp => ⟨menu_len _ (G.sub _ (h.sub _ (List.mem_map_of_mem hp))), ?_⟩⟩, h.nd⟩
  have := h.ok p hp
  exact small_log (by omega)
theorem am_chk {gs : List Str} {am : Am} (G : Goods gs) (h : AmI gs am) : chkL am (srt (namesA am)) = none := chk_none fun g hg => ⟨menu_name g (G.sub _ (h.sub g (srt_mem hg))), h.val g⟩
theorem kept_ne2 {am : Am} {g : Str} (h : 0 < valA am g) : keptA am ≠ [] := fun e => by
  have hm : g ∈ namesA am := by
    by_cases z : g ∈ namesA am
    · exact z
    · have := (valR_An z).2
      omega
  have : g ∈ namesA (keptA am) := names_kept.mpr ⟨hm, h⟩
  rw [e] at this
  cases this
theorem RowK.way {gs : List Str} {y : Wy} (G : Goods gs) (r : RowK gs y) : wayE y.1 y.2.1 y.2.2 = none := by
  obtain ⟨g, hg, hp⟩ := r.pos
  unfold wayE
  rw [am_chk G r.it]
  dsimp only
  rw [am_chk G r.im]
  dsimp only
  rw [if_neg (by have := r.h1; omega), if_neg (kept_ne2 hp)]
theorem RowK.subg {gs : List Str} {y : Wy} (r : RowK gs y) : ∀ g ∈ gWy y, g ∈ gs := fun g hg => by
  rcases mem_goodsW.mp hg with h | h
  · exact r.it.sub _ (names_kept.mp h).1
  · exact r.im.sub _ (names_kept.mp h).1
theorem RowK.g {gs : List Str} {y : Wy} (G : Goods gs) (r : RowK gs y) : RwG y := by
  have h8 : gs.length ≤ 8 := sub_len G.nd G.sub
  have l1 := r.it.len
  have l2 := r.im.len
  refine ⟨⟨am_big G r.it, am_big G r.im, small_log ?_, r.way G⟩, ⟨by omega, fun g hg => menu_len _ (G.sub _ (r.subg g hg))⟩⟩
  have h1 := r.h1
  have h2 := r.h2
  omega
end W1
set_option maxRecDepth 100000
set_option maxHeartbeats 4000000
set_option exponentiation.threshold 20000
namespace W1
open PySem PySem.Spec PyProof.Rows L2 NdefX TL NumText
/-! ### rows drawn -/
theorem cut_some {Rs : List Rl} {k : Nat} : cutR Rs none (some (k : Int)) = Rs.take k := by
  unfold cutR
  have h0 : HT.sIx Rs.length 0 none = 0 := rfl
  have h1 : HT.sIx Rs.length Rs.length (some (k : Int)) = min k Rs.length := by
    unfold HT.sIx
    simp only
    rw [if_neg (by omega)]
    omega
  rw [h0, h1, List.drop_zero, Nat.sub_zero, ← List.take_eq_take_min]
structure RowsK (gs : List Str) (ys : List Wy) : Prop where
  l1 : 1 ≤ ys.length
  l8 : ys.length ≤ 8
  row : ∀ y ∈ ys, RowK gs y
def rRows (gs : List Str) : Rl := rEx fun ys : { ys : List Wy // RowsK gs ys } => rLst (ys.1.map rRw)
def pRows : Pre := fun Rs w o w' => ∃ q gs pl s, Goods gs ∧ 0 < gs.length ∧ gs.length ≤ 4 ∧ Rs = [rRef q, rLst (gs.map rStr), rBool pl] ∧ w = [(q, oPool s)] ∧ w' = [(q, oAny)] ∧ o = .ok (rRows gs)
theorem mem_snoc {α : Type} {P : α → Prop} {l : List α} {a : α} (h : ∀ y ∈ l, P y) (ha : P a) : ∀ y ∈ l ++ [a], P y := fun y hy => by
  rcases List.mem_append.mp hy with hy | hy
  · exact h y hy
  · rw [List.mem_singleton.mp hy]; exact ha
theorem rowK_of {gs : List Str} {pl : Bool} {s : Pool} (h0 : 0 < gs.length) : RowK gs (rowF gs pl s).1 := by
  have b0 := drR_lt (s := (rowK gs s).2) (L := (gs.length : Int)) (by omega)
  have b1 := drR_lt (s := drS (rowK gs s).2 gs.length) (L := 4) (by decide)
  have hg : gs.getD (drR (rowK gs s).2 gs.length).toNat Str.empty ∈ gs := getD_in (by omega)
  have hm : AmI gs (if pl then [] else (rowK gs s).1) := by
    cases pl
    · exact amsF_ok
    · exact AmI.nil
  have hh : ∀ x ∈ hrVs, 1 ≤ x ∧ x ≤ 100 := by decide
  have b2 := drR_lt (s := drS (drS (rowK gs s).2 gs.length) 4) (L := 5) (by decide)
  have h5 := hh _ (getD_in (xs := hrVs) (i := (drR (drS (drS (rowK gs s).2 gs.length) 4) 5).toNat) (d := 0) (by show _ < 5; omega))
  refine ⟨amsF_ok, hm.put hg (by omega), h5.1, h5.2, _, hg, ?_⟩
  show 0 < valA (putA (if pl then [] else (rowK gs s).1) (gs.getD (drR (rowK gs s).2 gs.length).toNat Str.empty) (1 + drR (drS (rowK gs s).2 gs.length) 4)) _
  rw [val_put]
  omega
section
variable {P : Program} {w : World} {K : PySem.W.Frag} {mg : Str → Option Value} {base : Heap} {f : Addr} {fd : FuncData}
theorem kf_rows (Fn : Fun K "_law_rows_of" "_law_rows_of" s__law_rows_of f fd) (Td : Kf1 P w K mg base "_law_draw" 1 pDraw) (Tr : Kf1 P w K mg base "_law_row_of" 3 pRow) (len : mg "len" = none) (rg : mg "range" = none) : FnOk P w K mg base (L2.CX P w) 4 f fd P__law_rows_of (spM pRows) := by
  refine fn_ok Fn c__law_rows_of (fun _ _ _ _ ⟨_, _, _, _, _, _, _, h, _⟩ => by rw [h]; rfl) ?_
  rintro cdv A outer s0 H E ⟨_, G0, H0, M', Wx, tk⟩ hr rfl Rs ω o ω' ⟨q, gs, pl, s, hG, hg0, hg4, rfl, rfl, rfl, rfl⟩
  have nd := c__law_rows_of.nd
  have r1 := hr.mono (show 1 ≤ 3 by decide)
  have d6 := drR_lt (s := s) (L := 6) (by decide)
  refine hb_setGc 3 4 rfl (fun _ _ _ _ _ => pg_name (i := 4) nd rfl (Or.inl rfl)) (blkOk_by (N := N__law_rows_of) (sc := defScope s__law_rows_of) (by decide +kernel)) (it_rng1 (w1 := [(q, oPool (drS s 6))]) (ar_cons (er_bin er_int (er_f1 0 Td r1 (ar_cons (er_v 0 rfl rfl) (ar_cons er_int ar_nil)) rfl (drawOk (s := s) (L := 6) (by decide) (by decide))) bop_add) ar_nil) rfl rg (by omega)) (by rw [rng_len]; omega)
    (fun j Bs w => ∃ ys s, Bs = ys.map rRw ∧ ys.length = j ∧ (∀ y ∈ ys, RowK gs y) ∧ w = [(q, oPool s)]) ⟨[], _, rfl, rfl, fun _ h => (by cases h), rfl⟩ ?_ (fun j Bs w ⟨ys, s, e1, e2, _⟩ => by rw [e1, List.length_map]; exact e2) ?_ nd (by rfl)
  · rintro j S Bs w hS ⟨ys, s', rfl, hl, hy, rfl⟩ s1 H1 cc cl fp d
    exact eg_er (er_f1 1 Tr hr (ar_cons (er_v 0 rfl rfl) (ar_cons (er_v 1 rfl rfl) (ar_cons (er_v 2 rfl rfl) ar_nil))) rfl ⟨q, gs, pl, s', hg0, by omega, hG.nd, rfl, rfl, rfl, rfl⟩) ⟨[(q, oPool (rowF gs pl s').2)], List.Perm.refl _, ys ++ [(rowF gs pl s').1], _, by rw [List.map_append]; rfl, by rw [List.length_append, hl]; rfl, mem_snoc hy (rowK_of hg0), rfl⟩
  · rintro Bs w ⟨ys, s2, rfl, hl, hy, rfl⟩
    rw [rng_len] at hl
    have hR : RowsK gs ys := ⟨by omega, by omega, hy⟩
    have fin : ∀ ys s, RowsK gs ys → HB ⟨cxOf (L2.CX P w) P w K mg base N__law_rows_of "_law_rows_of" (defScope s__law_rows_of) f cdv A outer s0 H E, G0, H0, M', Wx, tk⟩ [some (rRef q), some (rLst (gs.map rStr)), some (rBool pl), some (rLst (ys.map rRw)), none, none] [(q, oPool s)] ((defBody s__law_rows_of).drop 2) (Kf (.ok (rRows gs)) [(q, oAny)]) := fun ys s h =>
      hb_any (hb_ret (er_v 3 rfl rfl) ⟨_, [], rfl, fun v G z => ⟨⟨ys, h⟩, z⟩, rfl⟩)
    have hd := drR_lt (s := s2) (L := 2) (by decide)
    refine hb_if (tr_cmp (er_f1 0 Td r1 (ar_cons (er_v 0 rfl rfl) (ar_cons er_int ar_nil)) rfl (drawOk (s := s2) (L := 2) (by decide) (by decide))) er_int bop_eqI) (fun _ => ?_) (fun _ => hb_nil (fin ys _ hR))
    generalize drS s2 2 = s3
    have ln : ∀ {F : Fx} {w : Ow}, Cop F w (.builtin "len") [rLst (gs.map rStr)] (rInt ((gs.length : Nat) : Int)) := fun {F w} => by
      have := cop_lenL (F := F) (ω := w) (Rs := gs.map rStr)
      rw [List.length_map] at this
      exact this
    have ec : rLst (cutR (ys.map rRw) none (some (8 - ((gs.length : Nat) : Int)))) = rLst ((ys.take (8 - gs.length)).map rRw) := by
      rw [show (8 : Int) - ((gs.length : Nat) : Int) = ((8 - gs.length : Nat) : Int) by omega, cut_some, List.map_take]
    refine hb_setG (Φ := fun R w => ∃ ys s, RowsK gs ys ∧ R = rLst (ys.map rRw) ∧ w = [(q, oPool s)]) 3 rfl (eg_cat (As := (ys.take (8 - gs.length)).map rRw) (er_eq (er_slice (er_v 3 rfl rfl) pr_none (pr_some (er_bin er_int (er_bA (ar_cons (er_v 1 rfl rfl) ar_nil) len bt_len ln) bop_sub)) sop_L) ec)
      (eg_lc1 (Rs := gs.map rStr) 5 rfl (fun _ _ _ _ _ => pg_name (i := 5) nd rfl (Or.inl rfl)) (blkOk_by (N := N__law_rows_of) (sc := defScope s__law_rows_of) (by decide +kernel)) (it_lst (er_v 1 rfl rfl)) (by rw [List.length_map]; omega) (fun j Bs w => ∃ zs s, Bs = zs.map rRw ∧ zs.length = j ∧ (∀ y ∈ zs, RowK gs y) ∧ w = [(q, oPool s)]) ⟨[], _, rfl, rfl, fun _ h => (by cases h), rfl⟩ ?_ (fun j Bs w ⟨ys, s, e1, e2, _⟩ => by rw [e1, List.length_map]; exact e2) ?_ nd)) ?_ nd
    · rintro j S Bs w hS ⟨zs, s', rfl, hl2, hz, rfl⟩ s1 H1 cc cl fp d
      obtain ⟨g, hg, rfl⟩ := map_get hS
      have hg := List.mem_of_getElem? hg
      have d9 := drR_lt (s := s') (L := 9) (by decide)
      have row : RowK gs ([], 9 + drR s' 9, [(g, 1)]) := by
        refine ⟨AmI.nil, ⟨by simp [namesA], fun x hx => ?_, fun p hp => ?_⟩, by show (1 : Int) ≤ 9 + drR s' 9; omega, by show 9 + drR s' 9 ≤ 100; omega, g, hg, ?_⟩
        · rw [List.mem_singleton.mp hx]; exact hg
        · rw [List.mem_singleton.mp hp]; exact (show (0 : Int) ≤ 1 ∧ (1 : Int) ≤ 10 ^ 20 by decide)
        · show 0 < valA [(g, 1)] g
          unfold valA
          simp
      refine eg_er (er_lst (Rs := [rDct [], rInt (9 + drR s' 9), rDct (fsA [(g, 1)])]) (ar_cons er_dict0 (ar_cons (er_bin er_int (er_f1 1 Td r1 (ar_cons (er_v 0 rfl rfl) (ar_cons er_int ar_nil)) rfl (drawOk (s := s') (L := 9) (by decide) (by decide))) bop_add) (ar_cons (er_frz (en_disp1 (k := .inr g) (R := rInt 1) (fun _ => er_v 5 rfl rfl) (fun _ => er_int))) ar_nil))) (Nat.le_of_ble_eq_true rfl)) ⟨[(q, oPool (drS s' 9))], List.Perm.refl _, zs ++ [([], 9 + drR s' 9, [(g, 1)])], _, by rw [List.map_append]; rfl, by rw [List.length_append, hl2]; rfl, mem_snoc hz row, rfl⟩
    · rintro Bs w ⟨zs, s', rfl, hl2, hz, rfl⟩
      rw [List.length_map] at hl2
      refine ⟨zs.map rRw, rfl, by rw [List.length_map, List.length_map, List.length_take]; omega, ys.take (8 - gs.length) ++ zs, s', ⟨?_, ?_, fun y h => ?_⟩, by rw [List.map_append], rfl⟩
      · rw [List.length_append]; omega
      · rw [List.length_append, List.length_take]; omega
      · rcases List.mem_append.mp h with h | h
        · exact hy y (List.mem_of_mem_take h)
        · exact hz y h
    · rintro R w ⟨ys, s4, h, rfl, rfl⟩
      exact hb_nil (fin ys s4 h)
end
end W1
set_option maxRecDepth 100000
set_option maxHeartbeats 4000000
set_option exponentiation.threshold 20000
namespace W1
open PySem PySem.Spec PyProof.Rows L2 NdefX TL NumText
/-! ### a book that fits its rows; the five questions -/
structure FitB (gs : List Str) (ys : List Wy) : Prop where
  ok : bErr gs ys = none
  rw : ∀ y ∈ ys, RwG y
  nm : ∀ g ∈ gs, g.length ≤ 640
theorem FitB.gs {gs : List Str} {ys : List Wy} (h : FitB gs ys) : (1 ≤ gs.length ∧ gs.length ≤ 4) ∧ gErr [] gs = none ∧ (1 ≤ ys.length ∧ ys.length ≤ 8) ∧ wErr gs ys = none := by
  have e := h.ok
  unfold bErr at e
  split at e
  · rename_i h1
    refine ⟨h1, ?_⟩
    split at e
    · cases e
    · rename_i h2
      refine ⟨h2, ?_⟩
      split at e
      · rename_i h3
        exact ⟨h3, e⟩
      · cases e
  · cases e
theorem gErr_ok : ∀ {gs s : List Str}, gErr s gs = none → s.Nodup → (s ++ gs).Nodup ∧ ∀ g ∈ gs, nameL (tl g) = true
  | [], s, _, hs => ⟨by rw [List.append_nil]; exact hs, fun _ h => (by cases h)⟩
  | g :: r, s, e, hs => by
    unfold gErr at e
    split at e
    · rename_i hn
      split at e
      · cases e
      · rename_i hm
        obtain ⟨h1, h2⟩ := gErr_ok (gs := r) (s := s ++ [g]) e (List.nodup_append.mpr ⟨hs, by simp, fun a ha b hb => by rw [List.mem_singleton.mp hb]; exact fun z => hm (z ▸ ha)⟩)
        rw [List.append_assoc] at h1
        refine ⟨h1, fun x hx => ?_⟩
        rcases List.mem_cons.mp hx with rfl | hx
        · exact hn
        · exact h2 x hx
    · cases e
theorem gErr_of : ∀ {gs s : List Str}, (s ++ gs).Nodup → (∀ g ∈ gs, nameL (tl g) = true) → gErr s gs = none
  | [], _, _, _ => rfl
  | g :: r, s, h, hn => by
    unfold gErr
    rw [if_pos (hn g List.mem_cons_self)]
    have hm : g ∉ s := fun z => by
      have := (List.nodup_append.mp h).2.2 g z g List.mem_cons_self
      exact this rfl
    rw [if_neg hm]
    exact gErr_of (by rw [List.append_assoc]; exact h) fun x hx => hn x (List.mem_cons_of_mem _ hx)
theorem wErr_ok {gs : List Str} : ∀ {ys : List Wy}, wErr gs ys = none ↔ ∀ y ∈ ys, ∀ g ∈ gWy y, g ∈ gs
  | [] => ⟨fun _ _ h => (by cases h), fun _ => rfl⟩
  | y :: r => by
    have ih := wErr_ok (gs := gs) (ys := r)
    have key : lost gs y = none ↔ ∀ g ∈ gWy y, g ∈ gs := by
      unfold lost
      rw [List.find?_eq_none]
      constructor
      · intro h g hg
        have := h g hg
        simpa using this
      · intro h g hg
        simpa using h g hg
    unfold wErr
    cases c : lost gs y with
    | some g =>
      constructor
      · intro e; cases e
      · intro h
        rw [key.mpr (h y List.mem_cons_self)] at c
        cases c
    | none =>
      dsimp only
      rw [ih]
      constructor
      · intro h z hz
        rcases List.mem_cons.mp hz with rfl | hz
        · exact key.mp c
        · exact h z hz
      · intro h z hz
        exact h z (List.mem_cons_of_mem _ hz)
theorem bErr_of {gs : List Str} {ys : List Wy} (h1 : 1 ≤ gs.length ∧ gs.length ≤ 4) (hd : gs.Nodup) (hn : ∀ g ∈ gs, nameL (tl g) = true) (h2 : 1 ≤ ys.length ∧ ys.length ≤ 8) (hw : ∀ y ∈ ys, ∀ g ∈ gWy y, g ∈ gs) : bErr gs ys = none := by
  unfold bErr
  rw [if_pos h1, gErr_of (s := []) hd hn]
  dsimp only
  rw [if_pos h2]
  exact wErr_ok.mpr hw
theorem FitB.nd {gs : List Str} {ys : List Wy} (h : FitB gs ys) : gs.Nodup := (gErr_ok h.gs.2.1 List.nodup_nil).1
theorem FitB.nice {gs : List Str} {ys : List Wy} (h : FitB gs ys) : ∀ g ∈ gs, nameL (tl g) = true := (gErr_ok h.gs.2.1 List.nodup_nil).2
theorem FitB.has {gs : List Str} {ys : List Wy} (h : FitB gs ys) : ∀ y ∈ ys, ∀ g ∈ gWy y, g ∈ gs := wErr_ok.mp h.gs.2.2.2
theorem FitB.bk {gs : List Str} {ys : List Wy} (h : FitB gs ys) : BkOk gs ys := ⟨h.nm, fun y hy => (h.rw y hy).wy, by have := h.gs; omega, by have := h.gs; omega⟩
/-- some of the rows, the names in whatever order -/
theorem FitB.sub {gs gs2 : List Str} {ys zs : List Wy} (h : FitB gs ys) (hp : gs2.Perm gs) (hz : ∀ y ∈ zs, y ∈ ys) (h1 : 1 ≤ zs.length) (h8 : zs.length ≤ 8) : FitB gs2 zs := by
  have hg := h.gs
  refine ⟨bErr_of ?_ (hp.nodup_iff.mpr h.nd) (fun g hg => h.nice g (hp.mem_iff.mp hg)) ⟨h1, h8⟩ (fun y hy g hg => hp.mem_iff.mpr (h.has y (hz y hy) g hg)), fun y hy => h.rw y (hz y hy), fun g hg => h.nm g (hp.mem_iff.mp hg)⟩
  rw [hp.length_eq]
  exact hg.1
theorem srt_srt (gs : List Str) : srt (srt gs) = srt gs := by
  have h := srt_pair gs
  refine List.Perm.eq_of_pairwise (le := fun a b => leS a b = true) (fun a b _ _ h1 h2 => leS_anti h1 h2) (srt_pair _) h (srt_perm _)
theorem book_srt {C W : Addr} {gs : List Str} {ys : List Wy} : rBook C W (srt gs) ys = rBook C W gs ys := by
  unfold rBook bookF
  rw [srt_srt]
theorem newB_ok {C W M N D U : Addr} {gs : List Str} {ys : List Wy} (h : FitB gs ys) : newB C W M N D U gs ys = .ok (rBook C W gs ys) := by
  unfold newB
  rw [h.ok]
inductive Ans where
  | way (y : Wy) | int (i : Int) | intl (l : List Int) | book (gs : List Str) (ys : List Wy) | eway (i : Int) | eunk (g : Str) | enum (i : Int)
def ansR (C W : Addr) : Ans → Rl
  | .way y => rWy W y
  | .int i => rInt i
  | .intl l => rLst (l.map rInt)
  | .book gs ys => rBook C W gs ys
  | .eway i => rLst [rStr (Str.ofString "way"), rInt i]
  | .eunk g => rLst [rStr (Str.ofString "unknown"), rStr g]
  | .enum i => rLst [rStr (Str.ofString "number"), rInt i]
def ansO (C W M U V : Addr) : Ans → Out
  | .eway i => .error (erF V "at" (rInt i))
  | .eunk g => .error (erF U "name" (rStr g))
  | .enum i => .error (erF M "n" (rInt i))
  | a => .ok (ansR C W a)
def ansF (gs : List Str) (ys : List Wy) (wh : Nat) (i : Int) (g : Str) : Ans :=
  if wh ≠ 2 ∧ ¬ (0 ≤ i ∧ i < ys.length) then .eway i
  else if (wh = 1 ∨ wh = 2) ∧ g ∉ gs then .eunk g
  else if wh = 0 then .way (ys.getD i.toNat wy0)
  else if wh = 1 then .int (netW (ys.getD i.toNat wy0) g)
  else if wh = 2 then .intl (makersL ys g)
  else if wh = 3 ∧ ys.length = 1 then .enum 0
  else if wh = 3 then .book gs (ys.take i.toNat ++ ys.drop (i.toNat + 1))
  else .book gs [ys.getD i.toNat wy0]
structure AskOk (wh : Nat) (i : Int) (g : Str) : Prop where
  hw : wh < 5
  hi : i.natAbs ≤ 10 ^ 20
  hg : g.length ≤ 640
def pCallB (C W M U V : Addr) : Pre := fun Rs w o w' => ∃ gs ys wh i g, FitB gs ys ∧ AskOk wh i g ∧ Rs = [rInt ((wh : Nat) : Int), rBook C W gs ys, rInt i, rStr g] ∧ w = [] ∧ w' = [] ∧ o = ansO C W M U V (ansF gs ys wh i g)
theorem mem_cut {α : Type} {ys : List α} {k : Nat} : ∀ y ∈ ys.take k ++ ys.drop (k + 1), y ∈ ys := fun y hy => by
  rcases List.mem_append.mp hy with h | h
  · exact List.mem_of_mem_take h
  · exact List.mem_of_mem_drop h
section
variable {P : Program} {w : World} {K : PySem.W.Frag} {mg : Str → Option Value} {base : Heap} {W C M N D U V f : Addr} {fd : FuncData}
theorem kf_callb (Fn : Fun K "_law_call" "_law_call" s__law_call f fd) (X : BookX K mg C) (Tw : Km P w K mg base C "way" 3 (pBWay C W V)) (Tn : Km P w K mg base C "net" 4 (pBNet C W U V)) (Tm : Km P w K mg base C "makers" 4 (pBMakE C W U)) (Tx : Km P w K mg base C "without" 7 (pBOut C W M N D U V)) (To : Km P w K mg base C "only" 7 (pBOnly C W M N D U V)) : FnOk P w K mg base (L2.CX P w) 8 f fd P__law_call (spM (pCallB C W M U V)) := by
  refine fn_ok Fn c__law_call (fun _ _ _ _ ⟨_, _, _, _, _, _, _, h, _⟩ => by rw [h]; rfl) ?_
  rintro cdv A outer s H E ⟨_, G0, H0, M', W', tk⟩ hr rfl Rs ω o ω' ⟨gs, ys, wh, i, g, fit, ⟨hw, hi, hg⟩, rfl, rfl, rfl, rfl⟩
  have nd := c__law_call.nd
  have cl := X.cx.cls
  have r3 := hr.mono (show 3 ≤ 7 by decide)
  have r4 := hr.mono (show 4 ≤ 7 by decide)
  have li := small_log hi
  have fg := fit.gs
  have ly : ys.length ≤ 8 := fg.2.2.1.2
  have hb := fit.bk
  have ek : ∀ {j : Nat}, decide (((wh : Nat) : Int) = (j : Int)) = decide (wh = j) := fun {j} => by
    by_cases h : wh = j
    · rw [h, decide_eq_true rfl, decide_eq_true rfl]
    · rw [decide_eq_false h, decide_eq_false (by omega)]
  refine hb_if (b := decide (wh = 0)) (tr_to (tr_cmp (er_v 0 rfl rfl) er_int bop_eqI) (ek (j := 0))) (fun h0 => ?_) (fun h0 => hb_nil ?_)
  · have h0 := of_decide_eq_true h0
    subst h0
    by_cases h : 0 ≤ i ∧ i < ys.length
    · have e : ansF gs ys 0 i g = .way (ys.getD i.toNat wy0) := by
        unfold ansF
        rw [if_neg (fun z => z.2 h), if_neg (by simp), if_pos rfl]
      rw [e]
      exact hb_ret (er_m (R := rWy W (ys.getD i.toNat wy0)) Tw cl r3 (er_v 1 rfl rfl) (ar_cons (er_v 2 rfl rfl) ar_nil) ⟨gs, ys, i, li, rfl, rfl, rfl, by rw [if_pos h]⟩) ⟨_, [], rfl, fun v G h => h, rfl⟩
    · have e : ansF gs ys 0 i g = .eway i := by
        unfold ansF
        rw [if_pos ⟨by decide, h⟩]
      rw [e]
      exact hb_retX (P := erF V "at" (rInt i)) (ex_m Tw cl r3 (er_v 1 rfl rfl) (ar_cons (er_v 2 rfl rfl) ar_nil) ⟨gs, ys, i, li, rfl, rfl, rfl, by rw [if_neg h]⟩) ⟨_, [], rfl, fun _ _ _ h => h, rfl⟩
  have h0 := of_decide_eq_false h0
  refine hb_if (b := decide (wh = 1)) (tr_to (tr_cmp (er_v 0 rfl rfl) er_int bop_eqI) (ek (j := 1))) (fun h1 => ?_) (fun h1 => hb_nil ?_)
  · have h1 := of_decide_eq_true h1
    subst h1
    by_cases h : 0 ≤ i ∧ i < ys.length
    · by_cases hm : g ∈ gs
      · have e : ansF gs ys 1 i g = .int (netW (ys.getD i.toNat wy0) g) := by
          unfold ansF
          rw [if_neg (fun z => z.2 h), if_neg (fun z => z.2 hm), if_neg (by decide), if_pos rfl]
        rw [e]
        exact hb_ret (er_m (R := rInt (netW (ys.getD i.toNat wy0) g)) Tn cl r4 (er_v 1 rfl rfl) (ar_cons (er_v 2 rfl rfl) (ar_cons (er_v 3 rfl rfl) ar_nil)) ⟨gs, ys, i, g, li, hg, rfl, rfl, rfl, by rw [if_pos h, if_pos hm]⟩) ⟨_, [], rfl, fun v G h => h, rfl⟩
      · have e : ansF gs ys 1 i g = .eunk g := by
          unfold ansF
          rw [if_neg (fun z => z.2 h), if_pos ⟨.inl rfl, hm⟩]
        rw [e]
        exact hb_retX (P := erF U "name" (rStr g)) (ex_m Tn cl r4 (er_v 1 rfl rfl) (ar_cons (er_v 2 rfl rfl) (ar_cons (er_v 3 rfl rfl) ar_nil)) ⟨gs, ys, i, g, li, hg, rfl, rfl, rfl, by rw [if_pos h, if_neg hm]⟩) ⟨_, [], rfl, fun _ _ _ h => h, rfl⟩
    · have e : ansF gs ys 1 i g = .eway i := by
        unfold ansF
        rw [if_pos ⟨by decide, h⟩]
      rw [e]
      exact hb_retX (P := erF V "at" (rInt i)) (ex_m Tn cl r4 (er_v 1 rfl rfl) (ar_cons (er_v 2 rfl rfl) (ar_cons (er_v 3 rfl rfl) ar_nil)) ⟨gs, ys, i, g, li, hg, rfl, rfl, rfl, by rw [if_neg h]⟩) ⟨_, [], rfl, fun _ _ _ h => h, rfl⟩
  have h1 := of_decide_eq_false h1
  refine hb_if (b := decide (wh = 2)) (tr_to (tr_cmp (er_v 0 rfl rfl) er_int bop_eqI) (ek (j := 2))) (fun h2 => ?_) (fun h2 => hb_nil ?_)
  · have h2 := of_decide_eq_true h2
    subst h2
    by_cases hm : g ∈ gs
    · have e : ansF gs ys 2 i g = .intl (makersL ys g) := by
        unfold ansF
        rw [if_neg (fun z => z.1 rfl), if_neg (fun z => z.2 hm), if_neg (by decide), if_neg (by decide), if_pos rfl]
      rw [e]
      exact hb_ret (er_m (R := rLst ((makersL ys g).map rInt)) Tm cl r4 (er_v 1 rfl rfl) (ar_cons (er_v 3 rfl rfl) ar_nil) ⟨gs, ys, g, hg, by omega, rfl, rfl, rfl, by rw [if_pos hm]⟩) ⟨_, [], rfl, fun v G h => h, rfl⟩
    · have e : ansF gs ys 2 i g = .eunk g := by
        unfold ansF
        rw [if_neg (fun z => z.1 rfl), if_pos ⟨.inr rfl, hm⟩]
      rw [e]
      exact hb_retX (P := erF U "name" (rStr g)) (ex_m Tm cl r4 (er_v 1 rfl rfl) (ar_cons (er_v 3 rfl rfl) ar_nil) ⟨gs, ys, g, hg, by omega, rfl, rfl, rfl, by rw [if_neg hm]⟩) ⟨_, [], rfl, fun _ _ _ h => h, rfl⟩
  have h2 := of_decide_eq_false h2
  refine hb_if (b := decide (wh = 3)) (tr_to (tr_cmp (er_v 0 rfl rfl) er_int bop_eqI) (ek (j := 3))) (fun h3 => ?_) (fun h3 => hb_nil ?_)
  · have h3 := of_decide_eq_true h3
    subst h3
    by_cases h : 0 ≤ i ∧ i < ys.length
    · by_cases h1 : ys.length = 1
      · have e : ansF gs ys 3 i g = .enum 0 := by
          unfold ansF
          rw [if_neg (fun z => z.2 h), if_neg (by simp), if_neg (by decide), if_neg (by decide), if_neg (by decide), if_pos ⟨rfl, h1⟩]
        rw [e]
        exact hb_retX (P := erF M "n" (rInt 0)) (ex_m Tx cl hr (er_v 1 rfl rfl) (ar_cons (er_v 2 rfl rfl) ar_nil) ⟨gs, ys, i, hb, ly, li, rfl, rfl, rfl, by rw [if_pos h, if_pos h1]⟩) ⟨_, [], rfl, fun _ _ _ h => h, rfl⟩
      · have e : ansF gs ys 3 i g = .book gs (ys.take i.toNat ++ ys.drop (i.toNat + 1)) := by
          unfold ansF
          rw [if_neg (fun z => z.2 h), if_neg (by simp), if_neg (by decide), if_neg (by decide), if_neg (by decide), if_neg (fun z => h1 z.2), if_pos rfl]
        rw [e]
        have f2 : FitB (srt gs) (ys.take i.toNat ++ ys.drop (i.toNat + 1)) := fit.sub (srt_perm gs) mem_cut (by rw [List.length_append, List.length_take, List.length_drop]; omega) (by rw [List.length_append, List.length_take, List.length_drop]; omega)
        exact hb_ret (er_m (R := rBook C W (srt gs) (ys.take i.toNat ++ ys.drop (i.toNat + 1))) Tx cl hr (er_v 1 rfl rfl) (ar_cons (er_v 2 rfl rfl) ar_nil) ⟨gs, ys, i, hb, ly, li, rfl, rfl, rfl, by rw [if_pos h, if_neg h1, newB_ok f2]⟩) ⟨_, [], rfl, fun v G h => by rw [book_srt] at h; exact h, rfl⟩
    · have e : ansF gs ys 3 i g = .eway i := by
        unfold ansF
        rw [if_pos ⟨by decide, h⟩]
      rw [e]
      exact hb_retX (P := erF V "at" (rInt i)) (ex_m Tx cl hr (er_v 1 rfl rfl) (ar_cons (er_v 2 rfl rfl) ar_nil) ⟨gs, ys, i, hb, ly, li, rfl, rfl, rfl, by rw [if_neg h]⟩) ⟨_, [], rfl, fun _ _ _ h => h, rfl⟩
  have h3 := of_decide_eq_false h3
  have h4 : wh = 4 := by omega
  subst h4
  have nn : ([i].length = 0) = False := by simp
  by_cases h : 0 ≤ i ∧ i < ys.length
  · have e : ansF gs ys 4 i g = .book gs [ys.getD i.toNat wy0] := by
      unfold ansF
      rw [if_neg (fun z => z.2 h), if_neg (by simp), if_neg (by decide), if_neg (by decide), if_neg (by decide), if_neg (by simp), if_neg (by decide)]
    rw [e]
    have oe : oErr ys.length none [i] = none := by
      unfold oErr
      rw [if_pos h, if_neg (by simp)]
      rfl
    have f2 : FitB (srt gs) [ys.getD i.toNat wy0] := fit.sub (srt_perm gs) (fun y hy => by rw [List.mem_singleton.mp hy]; exact getD_in (by omega)) (by simp) (by simp)
    exact hb_ret (er_m (R := rBook C W (srt gs) [ys.getD i.toNat wy0]) To cl hr (er_v 1 rfl rfl) (ar_cons (er_lst (Rs := [rInt i]) (ar_cons (er_v 2 rfl rfl) ar_nil) (Nat.le_of_ble_eq_true rfl)) ar_nil) ⟨gs, ys, rLst [rInt i], [i], hb, ly, fun a ha => by rw [List.mem_singleton.mp ha]; exact li, by simp, .inl ⟨rfl, rfl⟩, rfl, rfl, rfl, by rw [if_neg (by simp), oe]; exact (newB_ok f2).symm⟩) ⟨_, [], rfl, fun v G h => by rw [book_srt] at h; exact h, rfl⟩
  · have e : ansF gs ys 4 i g = .eway i := by
      unfold ansF
      rw [if_pos ⟨by decide, h⟩]
    rw [e]
    have oe : oErr ys.length none [i] = some i := by
      unfold oErr
      rw [if_neg h]
    exact hb_retX (P := erF V "at" (rInt i)) (ex_m To cl hr (er_v 1 rfl rfl) (ar_cons (er_lst (Rs := [rInt i]) (ar_cons (er_v 2 rfl rfl) ar_nil) (Nat.le_of_ble_eq_true rfl)) ar_nil) ⟨gs, ys, rLst [rInt i], [i], hb, ly, fun a ha => by rw [List.mem_singleton.mp ha]; exact li, by simp, .inl ⟨rfl, rfl⟩, rfl, rfl, rfl, by rw [if_neg (by simp), oe]⟩) ⟨_, [], rfl, fun _ _ _ h => h, rfl⟩
end
end W1
set_option maxRecDepth 100000
set_option maxHeartbeats 4000000
set_option exponentiation.threshold 20000
namespace W1
open PySem PySem.Spec PyProof.Rows L2 NdefX TL NumText
/-! ### the answers, told -/
structure Err3 (K : PySem.W.Frag) (M U V : Addr) : Prop where
  tUV : PySem.W.exmOne K (.ref U) (.ref V) = some false
  tMV : PySem.W.exmOne K (.ref M) (.ref V) = some false
  tMU : PySem.W.exmOne K (.ref M) (.ref U) = some false
def pToldB (C W : Addr) : Pre := fun Rs w o w' => ∃ gs ys wh i g, FitB gs ys ∧ AskOk wh i g ∧ Rs = [rInt ((wh : Nat) : Int), rBook C W gs ys, rInt i, rStr g] ∧ w = [] ∧ w' = [] ∧ o = .ok (ansR C W (ansF gs ys wh i g))
section
variable {P : Program} {w : World} {K : PySem.W.Frag} {mg : Str → Option Value} {base : Heap} {W C M N D U V f : Addr} {fd : FuncData}
theorem kf_toldb (Fn : Fun K "_law_told_of" "_law_told_of" s__law_told_of f fd) (Tc : Kf1 P w K mg base "_law_call" 8 (pCallB C W M U V)) (X4 : Err4 K mg M N D U) (XV : ErrV K mg M V) (X3 : Err3 K M U V) : FnOk P w K mg base (L2.CX P w) 9 f fd P__law_told_of (spM (pToldB C W)) := by
  refine fn_ok Fn c__law_told_of (fun _ _ _ _ ⟨_, _, _, _, _, _, _, h, _⟩ => by rw [h]; rfl) ?_
  rintro cdv A outer s H E ⟨_, G0, H0, M', W', tk⟩ hr rfl Rs ω o ω' ⟨gs, ys, wh, i, g, fit, ask, rfl, rfl, rfl, rfl⟩
  have nd := c__law_told_of.nd
  have hp : pCallB C W M U V [rInt ((wh : Nat) : Int), rBook C W gs ys, rInt i, rStr g] [] (ansO C W M U V (ansF gs ys wh i g)) [] := ⟨gs, ys, wh, i, g, fit, ask, rfl, rfl, rfl, rfl⟩
  generalize ansF gs ys wh i g = a at hp
  refine hb_tryM ⟨"BadWay", .ref V, 4, "e", _, _, _, _⟩ [⟨"UnknownName", .ref U, 4, "e", _, _, _, _⟩, ⟨"BadNumber", .ref M, 4, "e", _, _, _, _⟩] ?_ rfl rfl nd (fun z hz => ?_)
  · rintro ⟨_, G1, H1, M1, W1, tk1⟩ ⟨⟨pn, xe, e, pa⟩, e1, e2, e3⟩
    cases e
    have no : ∀ {a b : Addr} {fl : Str} {R : Rl}, PySem.W.exmOne K (.ref a) (.ref b) = some false → ∀ cls d G, erF a fl R cls d G → PySem.W.exmOne K cls (.ref b) = some false := fun h cls d G z => by
      rw [z.1]
      exact h
    cases a with
    | eway i' =>
      refine hb_retX (P := erF V "at" (rInt i')) (ex_fn0 Tc hr (ar_cons (er_v 0 rfl rfl) (ar_cons (er_v 1 rfl rfl) (ar_cons (er_v 2 rfl rfl) (ar_cons (er_v 3 rfl rfl) ar_nil)))) hp) ?_
      refine Or.inl ⟨V, "at", rInt i', fun _ _ _ h => h, XV.tVV, ?_⟩
      rintro a' dd ⟨_, G2, H2, M2, W2, tk2⟩ S
      obtain ⟨⟨oe, pn', e, hz', hd⟩, -, -, -⟩ := id S
      cases e
      exact hb_ret (er_lst (ar_cons er_str (ar_cons (er_xf S XV.xV XV.nV (er_v 4 rfl rfl)) ar_nil)) (Nat.le_of_ble_eq_true rfl)) ⟨_, [], rfl, fun v G k => k, rfl⟩
    | eunk g' =>
      refine hb_retX (P := erF U "name" (rStr g')) (ex_fn0 Tc hr (ar_cons (er_v 0 rfl rfl) (ar_cons (er_v 1 rfl rfl) (ar_cons (er_v 2 rfl rfl) (ar_cons (er_v 3 rfl rfl) ar_nil)))) hp) ?_
      refine Or.inr ⟨no X3.tUV, Or.inl ⟨U, "name", rStr g', fun _ _ _ h => h, X4.tUU, ?_⟩⟩
      rintro a' dd ⟨_, G2, H2, M2, W2, tk2⟩ S
      obtain ⟨⟨oe, pn', e, hz', hd⟩, -, -, -⟩ := id S
      cases e
      exact hb_ret (er_lst (ar_cons er_str (ar_cons (er_xf S X4.xU X4.nU (er_v 4 rfl rfl)) ar_nil)) (Nat.le_of_ble_eq_true rfl)) ⟨_, [], rfl, fun v G k => k, rfl⟩
    | enum i' =>
      refine hb_retX (P := erF M "n" (rInt i')) (ex_fn0 Tc hr (ar_cons (er_v 0 rfl rfl) (ar_cons (er_v 1 rfl rfl) (ar_cons (er_v 2 rfl rfl) (ar_cons (er_v 3 rfl rfl) ar_nil)))) hp) ?_
      refine Or.inr ⟨no X3.tMV, Or.inr ⟨no X3.tMU, Or.inl ⟨M, "n", rInt i', fun _ _ _ h => h, X4.tMM, ?_⟩⟩⟩
      rintro a' dd ⟨_, G2, H2, M2, W2, tk2⟩ S
      obtain ⟨⟨oe, pn', e, hz', hd⟩, -, -, -⟩ := id S
      cases e
      exact hb_ret (er_lst (ar_cons er_str (ar_cons (er_xf S X4.xM X4.nM (er_v 4 rfl rfl)) ar_nil)) (Nat.le_of_ble_eq_true rfl)) ⟨_, [], rfl, fun v G k => k, rfl⟩
    | _ =>
      exact hb_ret (er_fA Tc hr (ar_cons (er_v 0 rfl rfl) (ar_cons (er_v 1 rfl rfl) (ar_cons (er_v 2 rfl rfl) (ar_cons (er_v 3 rfl rfl) ar_nil)))) hp) ⟨_, [], rfl, fun v G k => k, rfl⟩
  · rcases List.mem_cons.mp hz with rfl | hz
    · exact ⟨rfl, rfl, rfl, (show (("BadWay" : Str) == ("__debug__" : Str)) = false by decide), .inl XV.gV⟩
    rcases List.mem_cons.mp hz with rfl | hz
    · exact ⟨rfl, rfl, rfl, (show (("UnknownName" : Str) == ("__debug__" : Str)) = false by decide), .inl X4.gU⟩
    rw [List.mem_singleton.mp hz]
    exact ⟨rfl, rfl, rfl, (show (("BadNumber" : Str) == ("__debug__" : Str)) = false by decide), .inl X4.gM⟩
end
end W1
set_option maxRecDepth 100000
set_option maxHeartbeats 4000000
set_option exponentiation.threshold 20000
namespace W1
open PySem PySem.Spec PyProof.Rows L2 NdefX TL NumText
/-! ### what is due -/
theorem bop_inV {F : Fx} {w : Ow} {B : Rl} {x : V} {xs : List V} (h : IsSq F B w (xs.map rEqV)) (fx : flatV x = true) (fs : xs.all flatV = true) : Bop F w (compareOp .In) (rEqV x) B (rBool (inV x xs)) := ⟨_, op_in_seq, fun u y G H at_ hx hy Q k => by
  cases (show u = x from hx)
  obtain ⟨p, vs, rfl, h1, h2⟩ := h y G H at_ hy
  have e : vs = xs := all2_vals (H := G) h2
  subst e
  exact ⟨p, _, rfl, h1, fx, fs, k _ G H (Same.refl _) at_ rfl⟩⟩
theorem zip_rng (ys : List Wy) : ys.zipIdx = (List.range ys.length).map fun k => (ys.getD k wy0, k) := by
  apply List.ext_getElem?
  intro i
  rw [List.getElem?_zipIdx, List.getElem?_map]
  by_cases h : i < ys.length
  · rw [List.getElem?_eq_getElem h, List.getElem?_range h]
    simp [List.getD_eq_getElem?_getD, List.getElem?_eq_getElem h]
  · rw [List.getElem?_eq_none (by omega), List.getElem?_eq_none (by rw [List.length_range]; omega)]
    rfl
theorem RwG.c {y : Wy} (h : RwG y) : chkL y.1 (srt (namesA y.1)) = none ∧ chkL y.2.2 (srt (namesA y.2.2)) = none := wayE_none h.rw.ok
theorem makers_rng {ys : List Wy} {g : Str} (h : ∀ y ∈ ys, RwG y) : (makersL ys g).map rInt = ((List.range ys.length).filter fun k => decide (0 < valA (ys.getD k wy0).2.2 g)).map fun k : Nat => rInt (0 + (k : Int)) := by
  unfold makersL
  rw [zip_rng, List.filter_map, List.map_map, List.map_map]
  have e : (List.range ys.length).filter (makesG g ∘ fun k => (ys.getD k wy0, k)) = (List.range ys.length).filter fun k => decide (0 < valA (ys.getD k wy0).2.2 g) := by
    apply List.filter_congr
    intro k hk
    have hk := List.mem_range.mp hk
    show decide (0 < valA (keptA (ys.getD k wy0).2.2) g) = _
    rw [val_kept (h _ (getD_in hk)).c.2]
  rw [e]
  apply List.map_congr_left
  intro k _
  show rInt _ = rInt _
  rw [Int.zero_add]
def pDueB (C W : Addr) : Pre := fun Rs w o w' => ∃ gs ys wh i g, FitB gs ys ∧ AskOk wh i g ∧ Rs = [rInt ((wh : Nat) : Int), rLst (gs.map rStr), rLst (ys.map rRw), rInt i, rStr g] ∧ w = [] ∧ w' = [] ∧ o = .ok (ansR C W (ansF gs ys wh i g))
section
variable {P : Program} {w : World} {K : PySem.W.Frag} {mg : Str → Option Value} {base : Heap} {W C M N D U V f : Addr} {fd : FuncData}
theorem kf_dueb (Fn : Fun K "_law_due_of" "_law_due_of" s__law_due_of f fd) (Tw : Kc P w K mg base W "Way" 6 (pWayI W N M)) (Tn : Kf1 P w K mg base "_law_net" 2 pNet) (Tb : Kf1 P w K mg base "_law_book_of" 8 (pBookOf C W M N D U)) (len : mg "len" = none) (rg : mg "range" = none) : FnOk P w K mg base (L2.CX P w) 9 f fd P__law_due_of (spM (pDueB C W)) := by
  refine fn_ok Fn c__law_due_of (fun _ _ _ _ ⟨_, _, _, _, _, _, _, h, _⟩ => by rw [h]; rfl) ?_
  rintro cdv A outer s H E ⟨_, G0, H0, M', W', tk⟩ hr rfl Rs ω o ω' ⟨gs, ys, wh, i, g, fit, ⟨hw, hi, hg⟩, rfl, rfl, rfl, rfl⟩
  have nd := c__law_due_of.nd
  have r7 := hr.mono (show 7 ≤ 8 by decide)
  have r2 := hr.mono (show 2 ≤ 8 by decide)
  have fg := fit.gs
  have ip : ∀ {F : Fx} {w : Ow} (a : Nat), a < ys.length → Iop F w (rLst (ys.map rRw)) (rInt (0 + (a : Int))) (rRw (ys.getD a wy0)) := fun {F w} a ha => by
    have := iop_pickM (F := F) (w := w) (A := rRw) (xs := ys) (i := 0 + (a : Int)) wy0 (by omega) (by omega)
    rw [show (0 + (a : Int)).toNat = a by omega] at this
    exact this
  have ln : ∀ {F : Fx} {w : Ow}, Cop F w (.builtin "len") [rLst (ys.map rRw)] (rInt ((ys.length : Nat) : Int)) := fun {F w} => by
    have := cop_lenL (F := F) (ω := w) (Rs := ys.map rRw)
    rw [List.length_map] at this
    exact this
  have ek : ∀ {j : Nat}, decide (((wh : Nat) : Int) = (j : Int)) = decide (wh = j) := fun {j} => by
    by_cases h : wh = j
    · rw [h, decide_eq_true rfl, decide_eq_true rfl]
    · rw [decide_eq_false h, decide_eq_false (by omega)]
  refine hb_if (b := (!decide (wh = 2)) && (decide (i < 0) || decide ((ys.length : Int) ≤ i))) (PWR.tr (tr_and (tr_to (tr_cmp (er_v 0 rfl rfl) er_int bop_neI) (congrArg (! ·) (ek (j := 2)))) fun _ => tr_and1 (PWR.tr (tr_or (tr_cmp (er_v 3 rfl rfl) er_int bop_lt) fun _ => tr_or1 (tr_cmp (er_v 3 rfl rfl) (er_bA (ar_cons (er_v 2 rfl rfl) ar_nil) len bt_len ln) bop_ge))))) (fun h => ?_) (fun h => hb_nil ?_)
  · have e : ansF gs ys wh i g = .eway i := by
      unfold ansF
      rw [if_pos]
      simp at h
      omega
    rw [e]
    exact hb_ret (er_lst (ar_cons er_str (ar_cons (er_v 3 rfl rfl) ar_nil)) (Nat.le_of_ble_eq_true rfl)) ⟨_, [], rfl, fun v G k => k, rfl⟩
  have h : ¬ (wh ≠ 2 ∧ ¬ (0 ≤ i ∧ i < ys.length)) := by
    simp at h
    omega
  have ein : inV (.int ((wh : Nat) : Int)) [.int 1, .int 2] = decide (wh = 1 ∨ wh = 2) := by
    show (decide ((1 : Int) = (wh : Int)) || (decide ((2 : Int) = (wh : Int)) || false)) = _
    rw [Bool.or_false, ← Bool.decide_or]
    apply decide_eq_decide.mpr
    omega
  refine hb_if (b := decide (wh = 1 ∨ wh = 2) && !decide (g ∈ gs)) (PWR.tr (tr_and (tr_to (tr_cmp (er_v 0 rfl rfl) (er_lst (Rs := [V.int 1, V.int 2].map rEqV) (ar_cons er_int (ar_cons er_int ar_nil)) (by decide)) (bop_inV isq_L rfl rfl)) ein) fun _ => tr_and1 (tr_cmp (er_v 4 rfl rfl) (er_v 1 rfl rfl) (bop_niQ isq_L)))) (fun hb => ?_) (fun hb => hb_nil ?_)
  · have hc : (wh = 1 ∨ wh = 2) ∧ g ∉ gs := by simpa using hb
    have e : ansF gs ys wh i g = .eunk g := by
      unfold ansF
      rw [if_neg h, if_pos hc]
    rw [e]
    exact hb_ret (er_lst (ar_cons er_str (ar_cons (er_v 4 rfl rfl) ar_nil)) (Nat.le_of_ble_eq_true rfl)) ⟨_, [], rfl, fun v G k => k, rfl⟩
  have hc : ¬ ((wh = 1 ∨ wh = 2) ∧ g ∉ gs) := fun z => by
    rw [decide_eq_true z.1, decide_eq_false z.2] at hb
    cases hb
  refine hb_if (b := decide (wh = 0)) (tr_to (tr_cmp (er_v 0 rfl rfl) er_int bop_eqI) (ek (j := 0))) (fun h0 => ?_) (fun h0 => hb_nil ?_)
  · have h0 := of_decide_eq_true h0
    have hi : 0 ≤ i ∧ i < ys.length := by omega
    have e : ansF gs ys wh i g = .way (ys.getD i.toNat wy0) := by
      unfold ansF
      rw [if_neg h, if_neg hc, if_pos h0]
    rw [e]
    have r := (fit.rw (ys.getD i.toNat wy0) (getD_in (by omega))).rw
    exact hb_ret (er_cS (wc := []) (fs := wayF (ys.getD i.toNat wy0).1 (ys.getD i.toNat wy0).2.1 (ys.getD i.toNat wy0).2.2) Tw r7 (ar_cons (er_ix (er_ix (er_v 2 rfl rfl) (er_v 3 rfl rfl) (iop_pickM (A := rRw) wy0 hi.1 hi.2)) er_int (iop_L (n := 0) rfl rfl)) (ar_cons (er_ix (er_ix (er_v 2 rfl rfl) (er_v 3 rfl rfl) (iop_pickM (A := rRw) wy0 hi.1 hi.2)) er_int (iop_L (n := 1) rfl rfl)) (ar_cons (er_ix (er_ix (er_v 2 rfl rfl) (er_v 3 rfl rfl) (iop_pickM (A := rRw) wy0 hi.1 hi.2)) er_int (iop_L (n := 2) rfl rfl)) ar_nil))) Sub.nil fun q => ⟨q, _, _, [], _, _, [], _, .inl ⟨rfl, rfl⟩, .inl ⟨rfl, rfl⟩, r.g1, r.g2, r.hh, rfl, rfl, by rw [r.ok]; exact ⟨rfl, rfl⟩⟩) ⟨_, [], rfl, fun v G k => k, rfl⟩
  have h0 := of_decide_eq_false h0
  refine hb_if (b := decide (wh = 1)) (tr_to (tr_cmp (er_v 0 rfl rfl) er_int bop_eqI) (ek (j := 1))) (fun h1 => ?_) (fun h1 => hb_nil ?_)
  · have h1 := of_decide_eq_true h1
    have hi : 0 ≤ i ∧ i < ys.length := by omega
    have e : ansF gs ys wh i g = .int (netW (ys.getD i.toNat wy0) g) := by
      unfold ansF
      rw [if_neg h, if_neg hc, if_neg h0, if_pos h1]
    rw [e]
    have r := (fit.rw (ys.getD i.toNat wy0) (getD_in (by omega))).c
    have ev : netW (ys.getD i.toNat wy0) g = valA (ys.getD i.toNat wy0).2.2 g - valA (ys.getD i.toNat wy0).1 g := by
      unfold netW
      rw [val_kept r.1, val_kept r.2]
    refine hb_ret (er_fA (R := rInt (valA (ys.getD i.toNat wy0).2.2 g - valA (ys.getD i.toNat wy0).1 g)) Tn r2 (ar_cons (er_ix (er_v 2 rfl rfl) (er_v 3 rfl rfl) (iop_pickM (A := rRw) wy0 hi.1 hi.2)) (ar_cons (er_v 4 rfl rfl) ar_nil)) ⟨(ys.getD i.toNat wy0, g), trivial, rfl, rfl, rfl, rfl⟩) ⟨_, [], rfl, fun v G k => ?_, rfl⟩
    show (rInt _).r v G
    rw [ev]
    exact k
  have h1 := of_decide_eq_false h1
  refine hb_if (b := decide (wh = 2)) (tr_to (tr_cmp (er_v 0 rfl rfl) er_int bop_eqI) (ek (j := 2))) (fun h2 => ?_) (fun h2 => hb_nil ?_)
  · have h2 := of_decide_eq_true h2
    have e : ansF gs ys wh i g = .intl (makersL ys g) := by
      unfold ansF
      rw [if_neg h, if_neg hc, if_neg h0, if_neg h1, if_pos h2]
    rw [e]
    have er : rng 0 ((ys.length : Nat) : Int).toNat = (List.range ys.length).map fun k : Nat => rInt (0 + (k : Int)) := by
      rw [rng_map, Int.toNat_natCast]
    refine hb_ret (er_lcf1 (xs := List.range ys.length) (A := fun k : Nat => rInt (0 + (k : Int))) (B := fun k : Nat => rInt (0 + (k : Int))) (pr := fun k => decide (0 < valA (ys.getD k wy0).2.2 g)) 5 rfl (fun _ _ _ _ _ => pg_name (i := 5) nd rfl (Or.inl rfl)) (blkOk_by (N := N__law_due_of) (sc := defScope s__law_due_of) (by decide +kernel)) (by rw [← er]; exact it_rng1 (ar_cons (er_bA (ar_cons (er_v 2 rfl rfl) ar_nil) len bt_len ln) ar_nil) rfl rg (by omega)) (by rw [List.length_range]; omega)
      (fun j a ha s H0 cc cl fp d => ?_) (fun j a ha _ s H0 cc cl fp d => er_v 5 rfl rfl) nd) ⟨_, [], rfl, fun v G k => ?_, rfl⟩
    · have ha := List.mem_range.mp (List.mem_of_getElem? ha)
      refine tr_cmp (er_eq (S := rInt (valA (ys.getD a wy0).2.2 g)) (er_dget2 (k := .inr g) (er_ix (er_ix (R := rRw (ys.getD a wy0)) (er_v 2 rfl rfl) (er_v 5 rfl rfl) (ip a ha)) er_int (iop_L (n := 2) rfl rfl)) (er_v 4 rfl rfl) er_int isd_frz isd_frz hr) valR_get) er_int bop_gt
    · show (rLst ((makersL ys g).map rInt)).r v G
      rw [makers_rng fit.rw]
      exact k
  have h2 := of_decide_eq_false h2
  have hi : 0 ≤ i ∧ i < ys.length := by omega
  refine hb_if (b := decide (wh = 3) && decide ((ys.length : Int) = 1)) (PWR.tr (tr_and (tr_to (tr_cmp (er_v 0 rfl rfl) er_int bop_eqI) (ek (j := 3))) fun _ => tr_and1 (tr_cmp (er_bA (ar_cons (er_v 2 rfl rfl) ar_nil) len bt_len ln) er_int bop_eqI))) (fun h3 => ?_) (fun h3 => hb_nil ?_)
  · have h3 : wh = 3 ∧ ys.length = 1 := by
      simp at h3
      omega
    have e : ansF gs ys wh i g = .enum 0 := by
      unfold ansF
      rw [if_neg h, if_neg hc, if_neg h0, if_neg h1, if_neg h2, if_pos h3]
    rw [e]
    exact hb_ret (er_lst (ar_cons er_str (ar_cons er_int ar_nil)) (Nat.le_of_ble_eq_true rfl)) ⟨_, [], rfl, fun v G k => k, rfl⟩
  have h3 : ¬ (wh = 3 ∧ ys.length = 1) := by
    simp at h3
    omega
  refine hb_if (b := decide (wh = 3)) (tr_to (tr_cmp (er_v 0 rfl rfl) er_int bop_eqI) (ek (j := 3))) (fun h4 => ?_) (fun h4 => hb_nil ?_)
  · have h4 := of_decide_eq_true h4
    have e : ansF gs ys wh i g = .book gs (ys.take i.toNat ++ ys.drop (i.toNat + 1)) := by
      unfold ansF
      rw [if_neg h, if_neg hc, if_neg h0, if_neg h1, if_neg h2, if_neg h3, if_pos h4]
    rw [e]
    have f2 : FitB gs (ys.take i.toNat ++ ys.drop (i.toNat + 1)) := fit.sub (List.Perm.refl _) mem_cut (by rw [List.length_append, List.length_take, List.length_drop]; omega) (by rw [List.length_append, List.length_take, List.length_drop]; omega)
    have ec : rLst (cutR (ys.map rRw) none (some i) ++ cutR (ys.map rRw) (some (i + 1)) none) = rLst ((ys.take i.toNat ++ ys.drop (i.toNat + 1)).map rRw) := by
      obtain ⟨k, rfl⟩ : ∃ k : Nat, i = k := ⟨i.toNat, by omega⟩
      rw [show ((k : Int) + 1) = ((k + 1 : Nat) : Int) by omega, cut_some, cutR_drop (by omega), List.map_append, List.map_take]
      rfl
    exact hb_ret (er_fA (R := rBook C W gs (ys.take i.toNat ++ ys.drop (i.toNat + 1))) Tb hr (ar_cons (er_v 1 rfl rfl) (ar_cons (er_eq (er_bin (er_slice (er_v 2 rfl rfl) pr_none (pr_some (er_v 3 rfl rfl)) sop_L) (er_slice (er_v 2 rfl rfl) (pr_some (er_bin (er_v 3 rfl rfl) er_int bop_add)) pr_none sop_L) (bop_cat (by unfold cutR; simp only [List.length_take, List.length_drop, List.length_map]; omega))) ec) ar_nil)) ⟨gs, _, f2.bk, fun y hy => (f2.rw y hy).rw, rfl, rfl, rfl, (newB_ok f2).symm⟩) ⟨_, [], rfl, fun v G k => k, rfl⟩
  have h4 := of_decide_eq_false h4
  have e : ansF gs ys wh i g = .book gs [ys.getD i.toNat wy0] := by
    unfold ansF
    rw [if_neg h, if_neg hc, if_neg h0, if_neg h1, if_neg h2, if_neg h3, if_neg h4]
  rw [e]
  have f2 : FitB gs [ys.getD i.toNat wy0] := fit.sub (List.Perm.refl _) (fun y hy => by rw [List.mem_singleton.mp hy]; exact getD_in (by omega)) (by simp) (by simp)
  exact hb_ret (er_fA (R := rBook C W gs [ys.getD i.toNat wy0]) Tb hr (ar_cons (er_v 1 rfl rfl) (ar_cons (er_lst (Rs := [rRw (ys.getD i.toNat wy0)]) (ar_cons (er_ix (er_v 2 rfl rfl) (er_v 3 rfl rfl) (iop_pickM (A := rRw) wy0 hi.1 hi.2)) ar_nil) (Nat.le_of_ble_eq_true rfl)) ar_nil)) ⟨gs, _, f2.bk, fun y hy => (f2.rw y hy).rw, rfl, rfl, rfl, (newB_ok f2).symm⟩) ⟨_, [], rfl, fun v G k => k, rfl⟩
end
end W1
set_option maxRecDepth 100000
set_option maxHeartbeats 4000000
set_option exponentiation.threshold 20000
namespace W1
open PySem PySem.Spec PyProof.Rows L2 NdefX TL NumText
/-! ### more rules: != of what is alike, append to a new list -/
theorem name_asc {z : Str} (h : nameL (tl z) = true) : Asc z := fun c hc => by
  have hs : ∀ c ∈ tl sigs, c < 256 := by decide +kernel
  unfold nameL at h
  split at h
  · cases h
  · rename_i c0 r e
    rw [e] at hc
    have h2 := (Bool.and_eq_true _ _).mp h
    have := List.all_eq_true.mp h2.2 c hc
    exact hs c (of_decide_eq_true this)
theorem bop_neTS {F : Fx} {w : Ow} {xs : List Str} {n : Nat} (h : ∀ z ∈ xs, Asc z) (hr : Room n F.X.A) : Bop F w (compareOp .NotEq) (rTup (xs.map rStr)) (rTup (xs.map rStr)) (rBool false) := by
  have sh : Sh 1 (.tuple (xs.map PyData.str)) := sh_tup fun d hd => by
    obtain ⟨z, hz, rfl⟩ := List.mem_map.mp hd
    exact sh_str (h z hz)
  have d : DatR F.X.K (rTup (xs.map rStr)) (.tuple (xs.map PyData.str)) := dat_tup (dat_map (fun _ => dat_str) xs)
  have b := bop_neDat (w := w) d d (sh.ok (by decide)) (sh.ok (by decide)) hr
  rw [eqv_self sh] at b
  exact b
theorem bop_neLV {F : Fx} {w : Ow} {xs : List V} (hx : ∀ x ∈ xs, flatV x = true) (hs : ∀ x ∈ xs, eqV x x = true) (hr : Room 1 F.X.A) : Bop F w (compareOp .NotEq) (rLst (xs.map rEqV)) (rLst (xs.map rEqV)) (rBool false) := by
  have h := bop_neL (F := F) (w := w) (Rs := xs.map rEqV) (Ss := xs.map rEqV) (e := fun _ => true) (n := 0) (fun i R S hR hS => by
    obtain ⟨x, h1, rfl⟩ := map_get hR
    obtain ⟨y, h2, rfl⟩ := map_get hS
    rw [h1] at h2
    cases h2
    have hm := List.mem_of_getElem? h1
    have := eqb_val (X := F.X) (hx x hm) (hx x hm)
    rw [hs x hm] at this
    exact this) hr
  rw [all_true, decide_eq_true rfl] at h
  exact h
theorem eqWy_refl {y : Wy} : eqWy y y = true := by
  unfold eqWy eqW
  rw [decide_eq_true rfl, eqAm_refl, eqAm_refl]
  rfl
theorem bop_neLW {F : Fx} {w : Ow} {W : Addr} {k : Nat} {ys : List Wy} (T : Ko F.X.prog F.X.w F.X.K F.X.mg F.X.base W "__eq__" k (pWEq W)) (hn : PySem.W.notFirst F.X.K W (.ref W) = true) (hr : Room (k + 1) F.X.A) : Bop F w (compareOp .NotEq) (rLst (ys.map (rWy W))) (rLst (ys.map (rWy W))) (rBool false) := by
  have h := bop_neL (F := F) (w := w) (Rs := ys.map (rWy W)) (Ss := ys.map (rWy W)) (e := fun _ => true) (n := k) (fun i R S hR hS => by
    obtain ⟨x, h1, rfl⟩ := map_get hR
    obtain ⟨y, h2, rfl⟩ := map_get hS
    rw [h1] at h2
    cases h2
    have := eqb_way (F := F) (y := x) (z := x) T hn
    rw [eqWy_refl] at this
    exact this) hr
  rw [all_true, decide_eq_true rfl] at h
  exact h
theorem eqBk_refl {gs : List Str} {ys : List Wy} : eqBk gs ys gs ys = true := by
  unfold eqBk
  rw [decide_eq_true rfl, Bool.true_and]
  exact all_of fun j _ _ => eqWy_refl
/-- what compares ways and books -/
structure CmpX (P : Program) (w : World) (K : PySem.W.Frag) (mg : Str → Option Value) (base : Heap) (C W : Addr) : Prop where
  Tw : Ko P w K mg base W "__eq__" 2 (pWEq W)
  Tb : Ko P w K mg base C "__eq__" 4 (pBEq C W)
  nw : NeM K W
  nb : NeM K C
  fw : PySem.W.notFirst K W (.ref W) = true
  fb : PySem.W.notFirst K C (.ref C) = true
theorem bop_neAns {F : Fx} {w : Ow} {C W : Addr} (X : CmpX F.X.prog F.X.w F.X.K F.X.mg F.X.base C W) (a : Ans) (hr : Room 5 F.X.A) : Bop F w (compareOp .NotEq) (ansR C W a) (ansR C W a) (rBool false) := by
  have r1 := hr.mono (show 1 ≤ 5 by decide)
  have two : ∀ {x y : V}, flatV x = true → flatV y = true → eqV x x = true → eqV y y = true → Bop F w (compareOp .NotEq) (rLst [rEqV x, rEqV y]) (rLst [rEqV x, rEqV y]) (rBool false) := fun {x y} h1 h2 h3 h4 => by
    refine bop_neLV (xs := [x, y]) (fun z hz => ?_) (fun z hz => ?_) r1
    · rcases List.mem_cons.mp hz with rfl | hz
      · exact h1
      · rw [List.mem_singleton.mp hz]; exact h2
    · rcases List.mem_cons.mp hz with rfl | hz
      · exact h3
      · rw [List.mem_singleton.mp hz]; exact h4
  cases a with
  | way y =>
    have h := bop_oN (F := F) (w := w) (r := eqWy y y) (B := rWy W y) X.Tw X.nw (hr.mono (by decide)) ⟨rfl, rfl, y.1, y.2.1, y.2.2, .inl ⟨y.1, y.2.1, y.2.2, rfl, rfl⟩⟩ tyr_ins X.fw
    rw [eqWy_refl] at h
    exact h
  | int i =>
    have h := bop_neI (F := F) (ω := w) (i := i) (j := i)
    rw [decide_eq_true rfl] at h
    exact h
  | intl l =>
    show Bop F w _ (rLst (l.map rInt)) (rLst (l.map rInt)) _
    have e : l.map rInt = (l.map V.int).map rEqV := by rw [List.map_map]; rfl
    rw [e]
    refine bop_neLV (fun z hz => ?_) (fun z hz => ?_) r1
    · obtain ⟨i, _, rfl⟩ := List.mem_map.mp hz; rfl
    · obtain ⟨i, _, rfl⟩ := List.mem_map.mp hz; exact eqV_int i
  | book gs ys =>
    have h := bop_oN (F := F) (w := w) (r := eqBk gs ys gs ys) (B := rBook C W gs ys) X.Tb X.nb hr ⟨rfl, rfl, gs, ys, .inl ⟨gs, ys, fun _ => rfl, rfl, rfl⟩⟩ tyr_ins X.fb
    rw [eqBk_refl] at h
    exact h
  | eway i => exact two rfl rfl (eqV_str _) (eqV_int i)
  | eunk g => exact two rfl rfl (eqV_str _) (eqV_str _)
  | enum i => exact two rfl rfl (eqV_str _) (eqV_int i)
section
variable {F : Fx} {ρ : Ty} {ω w1 w2 : Ow} {K : Kn} {rest : List Stmt} {o e : Expr} {pos p apos : Pos} {Rs : List Rl} {R : Rl}
theorem hb_appN (ho : EN F ρ ω o (oL Rs) w1) (ha : ∀ z, AR F ρ (z :: w1) [e] [R] (z :: w2)) (hz : Rs.length ≤ 100000) (h : HB F ρ w2 rest K)
    (hsw : swapsWith (.Call (.Attribute o "append" apos) [e] [] p) none pos.line F.X.env = pure false := by rfl)
    (hbase : attributeBase o "append" F.X.env (eval o F.X.env) = eval o F.X.env := by rfl)
    (hfew : ((backTo p (starEach [e] F.X.env)).all (fun x => !x.1) && (backToKw p (keywordEach [] F.X.env)).all (fun x => x.1.isSome)
      && decide ([e].length + ([] : List Keyword).length + (if ([] : List Keyword).isEmpty then 0 else 1) < 30)) = true := by rfl)
    (hline : (apos.endLine == p.line) = true := by rfl) (hs : starEach [e] F.X.env = (false, eval e F.X.env) :: starEach [] F.X.env := by rfl) (hplain : (backTo p (starEach [] F.X.env)).any (·.1) = false := by rfl) :
    HB F ρ ω (.Expr (.Call (.Attribute o "append" apos) [e] [] p) pos :: rest) K := hb_cons fun σ G H D at_ sl ps => by
  refine sw_of (ps_expr (pe_bm (T := "list") PySem.F.plainAttrs_list PySem.F.slot_list_append PySem.F.type_list_append mt_append pe_w pa_w hbase hfew hline hs hplain) hsw) (ho σ G H at_ sl _ fun q G1 H1 _ s1 a1 => ?_)
  obtain ⟨_, _, _, at1, _, rfl, _⟩ := a1.ow _ List.mem_cons_self
  refine ⟨.inl ⟨rfl, _, SqL.of at1⟩, ha _ σ G1 H1 a1 (sl.up s1) _ fun us G2 H2 s2 a2 r2 => ?_⟩
  obtain ⟨v, rfl, rv⟩ := all1 r2
  obtain ⟨_, _, _, at2, ws, rfl, r4⟩ := a2.ow _ List.mem_cons_self
  have s12 := s1.trans s2
  exact ⟨q, ws, v, rfl, rfl, at2, Nat.lt_of_le_of_lt (by rw [← r4.len]; exact hz) (by decide), h σ G2 _ D (a2.chg (O' := oL (Rs ++ [R])) ⟨_, rfl, r4.app (mk1 rv)⟩).drop (sl.up s12) (ps.up s12)⟩
end
/-! ### the first way of several goods -/
def multK (gs : List Str) (ys : List Wy) (k : Nat) : Bool := decide ((1 : Int) < (((gs.filter fun g => decide (0 < valA (ys.getD k wy0).2.2 g)).map rStr).length : Int))
theorem find_rng {α : Type} {p : α → Bool} {d : α} (xs : List α) : xs.findIdx? p = (List.range xs.length).find? fun k => p (xs.getD k d) := by
  have gd : ∀ {k : Nat} (h : k < xs.length), xs.getD k d = xs[k] := fun h => by rw [List.getD_eq_getElem?_getD, List.getElem?_eq_getElem h]; rfl
  cases e : (List.range xs.length).find? fun k => p (xs.getD k d) with
  | none =>
    rw [List.find?_eq_none] at e
    rw [List.findIdx?_eq_none_iff]
    intro x hx
    obtain ⟨i, hi, rfl⟩ := List.mem_iff_getElem.mp hx
    have := e i (List.mem_range.mpr hi)
    rw [gd hi] at this
    simpa using this
  | some i =>
    rw [List.find?_range_eq_some] at e
    obtain ⟨h1, h2, h3⟩ := e
    have hi := List.mem_range.mp h2
    rw [List.findIdx?_eq_some_iff_getElem]
    refine ⟨hi, by rw [gd hi] at h1; exact h1, fun j hj => ?_⟩
    have := h3 j hj
    rw [gd (by omega)] at this
    simpa using this
theorem mult_is {gs : List Str} {ys : List Wy} (h : FitB gs ys) {k : Nat} (hk : k < ys.length) : multi (ys.getD k wy0) = multK gs ys k := by
  have hy : ys.getD k wy0 ∈ ys := getD_in hk
  have r := h.rw _ hy
  have hs := h.has _ hy
  unfold multi multK
  generalize ys.getD k wy0 = y at *
  have e : (namesA (keptA y.2.2)).Perm (gs.filter fun g => decide (0 < valA y.2.2 g)) := by
    refine (List.perm_ext_iff_of_nodup (nodup_kept r.rw.g2.nd) (h.nd.filter _)).mpr fun g => ?_
    rw [names_kept, List.mem_filter]
    constructor
    · rintro ⟨h1, h2⟩
      exact ⟨hs g (mem_goodsW.mpr (.inr (names_kept.mpr ⟨h1, h2⟩))), decide_eq_true h2⟩
    · rintro ⟨h1, h2⟩
      have h2 := of_decide_eq_true h2
      refine ⟨?_, h2⟩
      by_cases z : g ∈ namesA y.2.2
      · exact z
      · have := (valR_An z).2
        omega
  have l1 : (keptA y.2.2).length = (gs.filter fun g => decide (0 < valA y.2.2 g)).length := by
    rw [← e.length_eq]
    exact (List.length_map _).symm
  have ne : keptA y.2.2 ≠ [] := fun z => by
    have := r.rw.ok
    unfold wayE at this
    rw [r.c.1] at this
    dsimp only at this
    rw [r.c.2] at this
    dsimp only at this
    split at this
    · cases this
    · first
      | (cases this; done)
      | (rw [if_pos z] at this; cases this)
  have l0 := List.length_pos_iff.mpr ne
  rw [List.length_map, ← l1]
  by_cases q : (keptA y.2.2).length = 1
  · rw [decide_eq_true q, decide_eq_false (by omega)]; rfl
  · rw [decide_eq_false q, decide_eq_true (by omega)]; rfl
/-- the list that the law makes of them, with None behind -/
theorem joint_is {gs : List Str} {ys : List Wy} (h : FitB gs ys) : ∃ x : V, scal x x = true ∧ jointR ys = rEqV x ∧ ((((List.range ys.length).filter (multK gs ys)).map fun k : Nat => rInt (0 + (k : Int))) ++ [rNon])[0]? = some (rEqV x) := by
  have e : ys.findIdx? multi = ((List.range ys.length).filter (multK gs ys)).head? := by
    rw [List.head?_filter, find_rng (d := wy0)]
    have : (List.range ys.length).find? (fun k => multi (ys.getD k wy0)) = (List.range ys.length).find? (multK gs ys) := by
      have key : ∀ l : List Nat, (∀ k ∈ l, k < ys.length) → l.find? (fun k => multi (ys.getD k wy0)) = l.find? (multK gs ys) := by
        intro l
        induction l with
        | nil => intro _; rfl
        | cons a l ih =>
          intro hl
          rw [List.find?_cons, List.find?_cons, mult_is h (hl a List.mem_cons_self), ih fun k hk => hl k (List.mem_cons_of_mem _ hk)]
      exact key _ fun k hk => List.mem_range.mp hk
    exact this
  unfold jointR
  rw [e]
  cases c : (List.range ys.length).filter (multK gs ys) with
  | nil => exact ⟨.non, rfl, rfl, rfl⟩
  | cons a l => exact ⟨.int a, rfl, rfl, by show some (rInt (0 + (a : Int))) = _; rw [Int.zero_add]⟩
end W1
set_option maxRecDepth 100000
set_option maxHeartbeats 4000000
set_option exponentiation.threshold 20000
namespace W1
open PySem PySem.Spec PyProof.Rows L2 NdefX TL NumText
/-! ### a book fits its rows -/
def scJ : Scope := { kind := .function, names := [(".0", .local), ("_law_k", .cell), ("len", .globalImplicit), ("_law_goods", .cell), ("_law_rows", .cell)], isGenerator := false, isCoroutine := false }
def pFitsB (C W : Addr) : Pre := fun Rs w o w' => ∃ q s gs ys, FitB gs ys ∧ Rs = [rRef q, rLst (gs.map rStr), rLst (ys.map rRw), rBook C W gs ys] ∧ w = [(q, oPool s)] ∧ w' = [(q, oAny)] ∧ o = .ok (rBool true)
section
variable {P : Program} {w : World} {K : PySem.W.Frag} {mg : Str → Option Value} {base : Heap} {W C M N D U V f gi : Addr} {fd : FuncData}
theorem kf_fitsb (Fn : Fun K "_law_fits" "_law_fits" s__law_fits f fd) (X : BookX K mg C) (XC : CmpX P w K mg base C W) (Tw : Kc P w K mg base W "Way" 6 (pWayI W N M)) (Tl : Ko P w K mg base C "__len__" 1 (pBLen C W)) (Im : ItM K C gi) (Ti : IterOk P w K mg base C gi "ways" 1) (Tj : Km P w K mg base C "joint" 2 (pBJoint C W)) (Tk : Kmn P w K mg base C "makers" 4 (pBMakN C W)) (Td : Kf1 P w K mg base "_law_draw" 1 pDraw)
    (Tt : Kf1 P w K mg base "_law_told_of" 9 (pToldB C W)) (Tu : Kf1 P w K mg base "_law_due_of" 9 (pDueB C W)) (len : mg "len" = none) (rg : mg "range" = none) (st : mg "sorted" = none) (tu : mg "tuple" = none) : FnOk P w K mg base (L2.CX P w) 10 f fd P__law_fits (spM (pFitsB C W)) := by
  refine fn_ok Fn c__law_fits (fun _ _ _ _ ⟨_, _, _, _, _, h, _⟩ => by rw [h]; rfl) ?_
  rintro cdv A outer s0 H E ⟨_, G0, H0, M', W', tk⟩ hr rfl Rs ω o ω' ⟨q, s, gs, ys, fit, rfl, rfl, rfl, rfl⟩
  have nd := c__law_fits.nd
  have cl := X.cx.cls
  have nn := X.nn
  have r1 := hr.mono (show 1 ≤ 9 by decide)
  have r2 := hr.mono (show 2 ≤ 9 by decide)
  have r3 := hr.mono (show 3 ≤ 9 by decide)
  have r4 := hr.mono (show 4 ≤ 9 by decide)
  have r5 := hr.mono (show 5 ≤ 9 by decide)
  have r7 := hr.mono (show 7 ≤ 9 by decide)
  have fg := fit.gs
  have ip : ∀ {F : Fx} {w : Ow} (a : Nat), a < ys.length → Iop F w (rLst (ys.map rRw)) (rInt (0 + (a : Int))) (rRw (ys.getD a wy0)) := fun {F w} a ha => by
    have := iop_pickM (F := F) (w := w) (A := rRw) (xs := ys) (i := 0 + (a : Int)) wy0 (by omega) (by omega)
    rw [show (0 + (a : Int)).toNat = a by omega] at this
    exact this
  have ly : ys.length ≤ 8 := fg.2.2.1.2
  have lg : gs.length ≤ 4 := fg.1.2
  have ln : ∀ {F : Fx} {w : Ow}, Cop F w (.builtin "len") [rLst (ys.map rRw)] (rInt ((ys.length : Nat) : Int)) := fun {F w} => by
    have := cop_lenL (F := F) (ω := w) (Rs := ys.map rRw)
    rw [List.length_map] at this
    exact this
  have lng : ∀ {F : Fx} {w : Ow}, Cop F w (.builtin "len") [rLst (gs.map rStr)] (rInt ((gs.length : Nat) : Int)) := fun {F w} => by
    have := cop_lenL (F := F) (ω := w) (Rs := gs.map rStr)
    rw [List.length_map] at this
    exact this
  have asc : ∀ z ∈ srt gs, Asc z := fun z hz => name_asc (fit.nice z (srt_mem hz))
  refine hb_if (b := false) (PWR.tr (tr_or (k := false) (m := false) (tr_cmp (er_fld (er_v 3 rfl rfl) cl nn rfl) (er_tA (ar_cons (er_bA (ar_cons (er_v 1 rfl rfl) ar_nil) st bt_sorted (cop_sortedS (by omega))) ar_nil) tu bt_tuple cop_tupL) (bop_neTS asc r1)) fun _ => tr_or1 (tr_to (tr_cmp (er_bA (ar_cons (er_v 3 rfl rfl) ar_nil) len bt_len (cop_oL (m := ys.length) Tl r2 ⟨gs, ys, rfl, rfl, rfl, rfl⟩ (by omega))) (er_bA (ar_cons (er_v 2 rfl rfl) ar_nil) len bt_len ln) bop_neI) (by simp)))) (fun z => Bool.noConfusion z) (fun _ => hb_nil ?_)
  refine hb_if (b := false) (tr_cmp (er_lc1 (xs := ys) (A := rWy W) (B := rWy W) 4 rfl (fun _ _ _ _ _ => pg_name (i := 4) nd rfl (Or.inl rfl)) (blkOk_by (N := N__law_fits) (sc := defScope s__law_fits) (by decide +kernel)) (it_own (er_v 3 rfl rfl) rfl Im Ti r1) (by omega) (fun j y hy s1 H1 cc cl fp d => er_v 4 rfl rfl) nd)
    (er_lc1 (xs := ys) (A := rRw) (B := rWy W) 5 rfl (fun _ _ _ _ _ => pg_name (i := 5) nd rfl (Or.inl rfl)) (blkOk_by (N := N__law_fits) (sc := defScope s__law_fits) (by decide +kernel)) (it_lst (er_v 2 rfl rfl)) (by omega) (fun j y hy s1 H1 cc cl fp d => by
      have r := (fit.rw y (List.mem_of_getElem? hy)).rw
      exact er_cS (wc := []) (fs := wayF y.1 y.2.1 y.2.2) Tw r7 (ar_cons (er_ix (er_v 5 rfl rfl) er_int (iop_L (n := 0) rfl rfl)) (ar_cons (er_ix (er_v 5 rfl rfl) er_int (iop_L (n := 1) rfl rfl)) (ar_cons (er_ix (er_v 5 rfl rfl) er_int (iop_L (n := 2) rfl rfl)) ar_nil))) Sub.nil fun q => ⟨q, _, _, [], _, _, [], _, .inl ⟨rfl, rfl⟩, .inl ⟨rfl, rfl⟩, r.g1, r.g2, r.hh, rfl, rfl, by rw [r.ok]; exact ⟨rfl, rfl⟩⟩) nd) (bop_neLW XC.Tw XC.fw r3)) (fun z => Bool.noConfusion z) (fun _ => hb_nil ?_)
  have er : rng 0 ((ys.length : Nat) : Int).toNat = (List.range ys.length).map fun k : Nat => rInt (0 + (k : Int)) := by
    rw [rng_map, Int.toNat_natCast]
  refine hb_setLcf (xs := List.range ys.length) (A := fun k : Nat => rInt (0 + (k : Int))) (B := fun k : Nat => rInt (0 + (k : Int))) (p := multK gs ys) 6 (by rw [← er]; exact it_rng1 (w1 := [(q, oPool s)]) (ar_cons (er_bA (ar_cons (er_v 2 rfl rfl) ar_nil) len bt_len ln) ar_nil) rfl rg (by omega)) (by rw [List.length_range]; omega) [("_law_k", 7)] (blkOk_by (N := N__law_fits) (sc := defScope s__law_fits) (by decide +kernel)) (fun _ _ _ _ _ => pg_name (i := 7) nd rfl (Or.inr rfl)) (fun _ _ _ => gew_name)
    (fun j a ha s1 H1 cc cl fp d => ?_) (fun j a ha _ s1 H1 cc cl fp d => er_v 7 rfl rfl) ?_ nd (by rfl)
  · have ha := List.mem_range.mp (List.mem_of_getElem? ha)
    refine tr_cmp (er_bA (ar_cons (er_lcf1 (xs := gs) (A := rStr) (B := rStr) (pr := fun g => decide (0 < valA (ys.getD a wy0).2.2 g)) 8 rfl (fun _ _ _ _ _ => pg_name (i := 8) nd rfl (Or.inl rfl)) (blkOk_by (N := N__law_fits) (sc := scJ) (by decide +kernel)) (it_lst (er_v 1 rfl rfl)) (by omega) (fun j2 g hg s2 H2 cc2 cl2 fp2 d2 => ?_) (fun j2 g hg _ s2 H2 cc2 cl2 fp2 d2 => er_v 8 rfl rfl) nd) ar_nil) len bt_len cop_lenL) er_int bop_gt
    refine tr_cmp (er_eq (S := rInt (valA (ys.getD a wy0).2.2 g)) (er_dget2 (k := .inr g) (er_ix (er_ix (R := rRw (ys.getD a wy0)) (er_v 2 rfl rfl) (er_v 7 rfl rfl) (ip a ha)) er_int (iop_L (n := 2) rfl rfl)) (er_v 8 rfl rfl) er_int isd_frz isd_frz r1) valR_get) er_int bop_gt
  obtain ⟨x, hx, j1, j2⟩ := joint_is fit
  refine hb_if (b := false) (tr_to (tr_cmp (er_eq (er_m0 Tj cl r2 (er_v 3 rfl rfl) ⟨gs, ys, rfl, rfl, rfl, rfl⟩) j1) (er_ix (er_bin (er_v 6 rfl rfl) (er_lst (Rs := [rNon]) (ar_cons er_non ar_nil) (Nat.le_of_ble_eq_true rfl)) (bop_cat ?_)) er_int (iop_L (n := 0) ?_ j2)) (bop_ne hx)) (by simp)) (fun z => Bool.noConfusion z) (fun _ => hb_nil ?_)
  · have := List.length_filter_le (multK gs ys) (List.range ys.length)
    rw [List.length_range] at this
    rw [List.length_map, List.length_singleton]
    omega
  · exact ixN_at (k := 0) (by rw [List.length_append, List.length_singleton]; omega)
  generalize rLst (((List.range ys.length).filter (multK gs ys)).map fun k : Nat => rInt (0 + (k : Int))) = RJ
  refine hb_for (it_rng1 (ar_cons er_int ar_nil) rfl rg (by decide)) (fun _ ρ w => ∃ s z8 z9 z10 z11, ρ = [some (rRef q), some (rLst (gs.map rStr)), some (rLst (ys.map rRw)), some (rBook C W gs ys), none, none, some RJ, none, z8, z9, z10, z11] ∧ w = [(q, oPool s)]) ⟨s, _, _, _, _, rfl, rfl⟩ ?_ ?_ (passes_of rfl) (pg_name (i := 9) nd rfl (Or.inl rfl))
  · rintro k ρ w S hS ⟨s, z8, z9, z10, z11, rfl, rfl⟩
    refine ⟨_, ge_name, ?_⟩
    have d1 := drR_lt (s := s) (L := (ys.length : Int) + 2) (by omega)
    refine hb_setA 10 rfl (er_bin (er_f1 0 Td r1 (ar_cons (er_v 0 rfl rfl) (ar_cons (er_bin (er_bA (ar_cons (er_v 2 rfl rfl) ar_nil) len bt_len ln) er_int bop_add) ar_nil)) rfl (drawOk (s := s) (L := (ys.length : Int) + 2) (by omega) (Nat.lt_of_le_of_lt (by omega : ((ys.length : Int) + 2).natAbs ≤ 10) (by decide)))) er_int bop_sub) ?_
    generalize drS s ((ys.length : Int) + 2) = s2
    have hi : (drR s ((ys.length : Int) + 2) - 1).natAbs ≤ 10 ^ 20 := Nat.le_trans (by omega : _ ≤ 10) (by decide)
    generalize drR s ((ys.length : Int) + 2) - 1 = i at hi
    have d2 := drR_lt (s := s2) (L := (gs.length : Int) + 2) (by omega)
    refine hb_setA 8 rfl (er_ix (er_eq (S := rLst ((gs ++ [Str.ofString "zz", Str.ofString ""]).map rStr)) (er_bin (er_v 1 rfl rfl) (er_lst (Rs := [rStr (Str.ofString "zz"), rStr (Str.ofString "")]) (ar_cons er_str (ar_cons er_str ar_nil)) (by decide)) (bop_cat (by rw [List.length_map]; show gs.length + 2 ≤ _; omega))) (by rw [List.map_append]; rfl)) (er_f1 0 Td r1 (ar_cons (er_v 0 rfl rfl) (ar_cons (er_bin (er_bA (ar_cons (er_v 1 rfl rfl) ar_nil) len bt_len lng) er_int bop_add) ar_nil)) rfl (drawOk (s := s2) (L := (gs.length : Int) + 2) (by omega) (Nat.lt_of_le_of_lt (by omega : ((gs.length : Int) + 2).natAbs ≤ 6) (by decide)))) (iop_pickM (A := rStr) Str.empty d2.1 (by rw [List.length_append]; show _ < ((gs.length + 2 : Nat) : Int); omega))) ?_
    have hg : ((gs ++ [Str.ofString "zz", Str.ofString ""]).getD (drR s2 ((gs.length : Int) + 2)).toNat Str.empty).length ≤ 640 := by
      have hm := getD_in (xs := gs ++ [Str.ofString "zz", Str.ofString ""]) (i := (drR s2 ((gs.length : Int) + 2)).toNat) (d := Str.empty) (by rw [List.length_append]; show _ < gs.length + 2; omega)
      rcases List.mem_append.mp hm with hm | hm
      · exact fit.nm _ hm
      · have : ∀ z ∈ [Str.ofString "zz", Str.ofString ""], z.length ≤ 640 := by decide +kernel
        exact this _ hm
    generalize (gs ++ [Str.ofString "zz", Str.ofString ""]).getD (drR s2 ((gs.length : Int) + 2)).toNat Str.empty = g at hg
    generalize drS s2 ((gs.length : Int) + 2) = s3
    refine hb_for (it_rng1 (ar_cons er_int ar_nil) rfl rg (by decide)) (fun _ ρ w => ∃ z9 z11, ρ = [some (rRef q), some (rLst (gs.map rStr)), some (rLst (ys.map rRw)), some (rBook C W gs ys), none, none, some RJ, none, some (rStr g), z9, some (rInt i), z11] ∧ w = [(q, oPool s3)]) ⟨_, _, rfl, rfl⟩ ?_ ?_ (passes_of rfl) (pg_name (i := 11) nd rfl (Or.inl rfl))
    · rintro wh ρ w S hS ⟨z9, z11, rfl, rfl⟩
      obtain ⟨hwh, rfl⟩ := rng_get hS
      have hwh : wh < 5 := hwh
      rw [Int.zero_add]
      refine ⟨_, ge_name, ?_⟩
      have ask : AskOk wh i g := ⟨hwh, hi, hg⟩
      exact hb_if (b := false) (tr_cmp (er_fA (R := ansR C W (ansF gs ys wh i g)) Tt hr (ar_cons (er_v 11 rfl rfl) (ar_cons (er_v 3 rfl rfl) (ar_cons (er_v 10 rfl rfl) (ar_cons (er_v 8 rfl rfl) ar_nil)))) ⟨gs, ys, wh, i, g, fit, ask, rfl, rfl, rfl, rfl⟩) (er_fA (R := ansR C W (ansF gs ys wh i g)) Tu hr (ar_cons (er_v 11 rfl rfl) (ar_cons (er_v 1 rfl rfl) (ar_cons (er_v 2 rfl rfl) (ar_cons (er_v 10 rfl rfl) (ar_cons (er_v 8 rfl rfl) ar_nil))))) ⟨gs, ys, wh, i, g, fit, ask, rfl, rfl, rfl, rfl⟩) (bop_neAns XC _ r5)) (fun z => Bool.noConfusion z) (fun _ => hb_nil (hb_nil ⟨_, _, rfl, rfl⟩))
    · rintro ρ w ⟨z9, z11, rfl, rfl⟩
      exact hb_nil ⟨_, _, _, _, _, rfl, rfl⟩
  · rintro ρ w ⟨s, z8, z9, z10, z11, rfl, rfl⟩
    have h0 : gs.getD (0 : Int).toNat Str.empty ∈ gs := getD_in (by show 0 < gs.length; omega)
    refine hb_appN (Rs := (makersL ys (gs.getD (0 : Int).toNat Str.empty)).map rInt) (R := rInt 99) (w2 := [(q, oPool s)]) (en_mA Tk cl r4 (er_v 3 rfl rfl) (ar_cons (er_ix (er_v 1 rfl rfl) er_int (iop_pickM (A := rStr) Str.empty (by decide) (by omega))) ar_nil) ⟨gs, ys, _, fit.nm _ h0, by omega, h0, rfl, rfl, rfl, rfl⟩) (fun z => ar_cons er_int ar_nil) ?_ ?_
    · rw [List.length_map]
      unfold makersL
      rw [List.length_map]
      refine Nat.le_trans (List.length_filter_le _ _) ?_
      rw [List.length_zipIdx]
      omega
    · exact hb_any (hb_ret er_bl ⟨_, [], rfl, fun v G h => h, rfl⟩)
end
end W1
set_option maxRecDepth 100000
set_option maxHeartbeats 4000000
set_option exponentiation.threshold 20000
namespace W1
open PySem PySem.Spec PyProof.Rows L2 NdefX TL NumText
/-! ### what is due of a book made of whatever -/
def badN : List Str := [Str.ofString "", Str.ofString "X", Str.ofString "1a", Str.ofString "abcdefghi"]
def nmAll : List Str := menuN ++ [Str.ofString "", Str.ofString "X", Str.ofString "1a", Str.ofString "abcdefghi", Str.ofString "q", Str.ofString "q2", Str.ofString "q9"]
theorem bad_is : ∀ g ∈ nmAll, nameL (tl g) = !decide (g ∈ badN) := by
  have : (nmAll.all fun g => nameL (tl g) == !decide (g ∈ badN)) = true := by decide +kernel
  exact fun g hg => by simpa using List.all_eq_true.mp this g hg
theorem nmAll_len : ∀ g ∈ nmAll, g.length ≤ 640 := by
  have : (nmAll.all fun g => decide (g.length ≤ 640)) = true := by decide +kernel
  exact fun g hg => of_decide_eq_true (List.all_eq_true.mp this g hg)
def duR (gs : List Str) (ys : List Wy) : Rl := match bErr gs ys with | none => rLst [] | some e => beR e
theorem duE {gs : List Str} {ys : List Wy} {e : BE} (h : bErr gs ys = some e) : duR gs ys = beR e := by
  unfold duR
  rw [h]
def pMadeDue : Pre := fun Rs w o w' => ∃ gs ys, (∀ g ∈ gs, g ∈ nmAll) ∧ gs.length ≤ 1000 ∧ ys.length ≤ 1000 ∧ (∀ y ∈ ys, RwG y) ∧ Rs = [rLst (gs.map rStr), rLst (ys.map rRw)] ∧ w = [] ∧ w' = [] ∧ o = .ok (duR gs ys)
theorem getD_at {α : Type} {xs : List α} {k : Nat} {d : α} (h : k < xs.length) : xs.drop k = xs.getD k d :: xs.drop (k + 1) := by
  rw [List.drop_eq_getElem_cons h, List.getD_eq_getElem?_getD, List.getElem?_eq_getElem h]
  rfl
theorem take_at {α : Type} {xs : List α} {k : Nat} {d : α} (h : k < xs.length) : xs.take (k + 1) = xs.take k ++ [xs.getD k d] := by
  rw [List.take_add_one, List.getD_eq_getElem?_getD, List.getElem?_eq_getElem h]
  rfl
section
variable {P : Program} {w : World} {K : PySem.W.Frag} {mg : Str → Option Value} {base : Heap} {f : Addr} {fd : FuncData}
theorem kf_madedue (Fn : Fun K "_law_made_due" "_law_made_due" s__law_made_due f fd) (len : mg "len" = none) (rg : mg "range" = none) (ls : mg "list" = none) (st : mg "sorted" = none) (se : mg "set" = none) : FnOk P w K mg base (L2.CX P w) 3 f fd P__law_made_due (spM pMadeDue) := by
  refine fn_ok Fn c__law_made_due (fun _ _ _ _ ⟨_, _, _, _, _, _, h, _⟩ => by rw [h]; rfl) ?_
  rintro cdv A outer s0 H E ⟨_, G0, H0, M', W', tk⟩ hr rfl Rs ω o ω' ⟨gs, ys, hn, lg, ly, hy, rfl, rfl, rfl, rfl⟩
  have nd := c__law_made_due.nd
  have r1 := hr.mono (show 1 ≤ 2 by decide)
  have ln : ∀ {F : Fx} {w : Ow}, Cop F w (.builtin "len") [rLst (ys.map rRw)] (rInt ((ys.length : Nat) : Int)) := fun {F w} => by
    have := cop_lenL (F := F) (ω := w) (Rs := ys.map rRw)
    rw [List.length_map] at this
    exact this
  have lng : ∀ {F : Fx} {w : Ow}, Cop F w (.builtin "len") [rLst (gs.map rStr)] (rInt ((gs.length : Nat) : Int)) := fun {F w} => by
    have := cop_lenL (F := F) (ω := w) (Rs := gs.map rStr)
    rw [List.length_map] at this
    exact this
  have K2 : ∀ {e : BE} {v : V} {G : Hp}, bErr gs ys = some e → (beR e).r v G → (duR gs ys).r v G := fun h k => by rw [duE h]; exact k
  refine hb_if (PWR.tr (tr_or (tr_cmp (er_bA (ar_cons (er_v 0 rfl rfl) ar_nil) len bt_len lng) er_int bop_lt) fun _ => tr_or1 (tr_cmp (er_bA (ar_cons (er_v 0 rfl rfl) ar_nil) len bt_len lng) er_int bop_gt))) (fun h => ?_) (fun h => hb_nil ?_)
  · have hg : ¬ (1 ≤ gs.length ∧ gs.length ≤ 4) := fun z => by
      simp at h
      omega
    have e : bErr gs ys = some (.num gs.length) := by
      unfold bErr
      rw [if_neg hg]
    exact hb_ret (er_lst (ar_cons er_str (ar_cons (er_bA (ar_cons (er_v 0 rfl rfl) ar_nil) len bt_len lng) ar_nil)) (Nat.le_of_ble_eq_true rfl)) ⟨_, [], rfl, fun v G k => K2 e k, rfl⟩
  have hg : 1 ≤ gs.length ∧ gs.length ≤ 4 := by
    simp at h
    omega
  have eb : bErr gs ys = match gErr [] gs with
      | some e => some e
      | none => if 1 ≤ ys.length ∧ ys.length ≤ 8 then wErr gs ys else some (.num ys.length) := by
    unfold bErr
    rw [if_pos hg]
    all_goals cases gErr [] gs <;> rfl
  refine hb_for (it_rng1 (ar_cons (er_bA (ar_cons (er_v 0 rfl rfl) ar_nil) len bt_len lng) ar_nil) rfl rg (by omega)) (fun k ρ w => w = [] ∧ gErr [] gs = gErr (gs.take k) (gs.drop k) ∧ ∃ z, ρ = [some (rLst (gs.map rStr)), some (rLst (ys.map rRw)), z, none, none, none, none, none]) ⟨rfl, rfl, none, rfl⟩ ?_ ?_ (passes_of rfl) (pg_name (i := 2) nd rfl (Or.inl rfl))
  · rintro k ρ w S hS ⟨rfl, hk, z, rfl⟩
    obtain ⟨kl, rfl⟩ := rng_get hS
    rw [Int.toNat_natCast] at kl
    rw [Int.zero_add]
    refine ⟨_, ge_name, ?_⟩
    have hm : gs.getD k Str.empty ∈ gs := getD_in kl
    have ip : ∀ {F : Fx} {w : Ow}, Iop F w (rLst (gs.map rStr)) (rInt ((k : Nat) : Int)) (rStr (gs.getD k Str.empty)) := fun {F w} => by
      have := iop_pickM (F := F) (w := w) (A := rStr) (xs := gs) (i := (k : Int)) Str.empty (by omega) (by omega)
      rw [Int.toNat_natCast] at this
      exact this
    rw [getD_at (d := Str.empty) kl] at hk
    generalize hgk : gs.getD k Str.empty = g at *
    have bd := bad_is g (hn g hm)
    refine hb_if (b := decide (g ∈ badN)) (tr_cmp (er_ix (er_v 0 rfl rfl) (er_v 2 rfl rfl) ip) (er_lst (Rs := badN.map rStr) (ar_cons er_str (ar_cons er_str (ar_cons er_str (ar_cons er_str ar_nil)))) (by decide)) (bop_inQ isq_L)) (fun h => ?_) (fun h => hb_nil ?_)
    · have e : bErr gs ys = some (.name g) := by
        rw [eb, hk]
        unfold gErr
        rw [if_neg (by rw [bd, h]; decide)]
      exact hb_ret (er_lst (ar_cons er_str (ar_cons (er_ix (er_v 0 rfl rfl) (er_v 2 rfl rfl) ip) ar_nil)) (Nat.le_of_ble_eq_true rfl)) ⟨_, [], rfl, fun v G k => K2 e k, rfl⟩
    have nm : nameL (tl g) = true := by rw [bd, h]; rfl
    refine hb_if (b := decide (g ∈ gs.take k)) (tr_cmp (er_ix (er_v 0 rfl rfl) (er_v 2 rfl rfl) ip) (er_eq (S := rLst ((gs.take k).map rStr)) (er_slice (er_v 0 rfl rfl) pr_none (pr_some (er_v 2 rfl rfl)) sop_L) (by rw [cut_some, List.map_take])) (bop_inQ isq_L)) (fun h => ?_) (fun h => hb_nil (hb_nil ⟨rfl, ?_, _, rfl⟩))
    · have e : bErr gs ys = some (.twice g) := by
        rw [eb, hk]
        unfold gErr
        rw [if_pos nm, if_pos (of_decide_eq_true h)]
      exact hb_ret (er_lst (ar_cons er_str (ar_cons (er_ix (er_v 0 rfl rfl) (er_v 2 rfl rfl) ip) ar_nil)) (Nat.le_of_ble_eq_true rfl)) ⟨_, [], rfl, fun v G k => K2 e k, rfl⟩
    · rw [hk]
      conv => lhs; unfold gErr
      rw [if_pos nm, if_neg (of_decide_eq_false h), take_at (d := Str.empty) kl, hgk]
  · rintro ρ w ⟨rfl, hk, z, rfl⟩
    rw [rng_len, Int.toNat_natCast, List.drop_length] at hk
    have hk : gErr [] gs = none := hk
    rw [hk] at eb
    dsimp only at eb
    refine hb_if (PWR.tr (tr_or (tr_cmp (er_bA (ar_cons (er_v 1 rfl rfl) ar_nil) len bt_len ln) er_int bop_lt) fun _ => tr_or1 (tr_cmp (er_bA (ar_cons (er_v 1 rfl rfl) ar_nil) len bt_len ln) er_int bop_gt))) (fun h => ?_) (fun h => hb_nil ?_)
    · have hg : ¬ (1 ≤ ys.length ∧ ys.length ≤ 8) := fun z => by
        simp at h
        omega
      rw [if_neg hg] at eb
      exact hb_ret (er_lst (ar_cons er_str (ar_cons (er_bA (ar_cons (er_v 1 rfl rfl) ar_nil) len bt_len ln) ar_nil)) (Nat.le_of_ble_eq_true rfl)) ⟨_, [], rfl, fun v G k => K2 eb k, rfl⟩
    have hl : 1 ≤ ys.length ∧ ys.length ≤ 8 := by
      simp at h
      omega
    rw [if_pos hl] at eb
    refine hb_for (it_lst (er_v 1 rfl rfl)) (fun k ρ w => w = [] ∧ wErr gs ys = wErr gs (ys.drop k) ∧ ∃ z3 z4 z5 z7, ρ = [some (rLst (gs.map rStr)), some (rLst (ys.map rRw)), z, z3, z4, z5, none, z7]) ⟨rfl, rfl, _, _, _, _, rfl⟩ ?_ ?_ (passes_of rfl) (pg_name (i := 3) nd rfl (Or.inr rfl))
    · rintro k ρ w S hS ⟨rfl, hk, z3, z4, z5, z7, rfl⟩
      obtain ⟨y, ey, rfl⟩ := map_get hS
      obtain ⟨kl, ek⟩ := List.getElem?_eq_some_iff.mp ey
      refine ⟨_, ge_name, ?_⟩
      rw [List.drop_eq_getElem_cons kl, ek] at hk
      have ym := List.mem_of_getElem? ey
      have r := hy y ym
      have few := r.wy.few
      have n1 := r.rw.g1.nd
      have n2 := r.rw.g2.nd
      have lt : (namesA y.1).length = y.1.length := List.length_map _
      have lm : (namesA y.2.2).length = y.2.2.length := List.length_map _
      have eL : ∀ {F : Fx} {ρ : Ty} {ω : Ow} {e : Expr} {a : Am}, ER F ρ ω e (rLst (kRs (fsA a))) ω → ER F ρ ω e (rLst ((namesA a).map rStr)) ω := fun h => er_eq h (by rw [kRs_A])
      have lu : (srt (uniq (namesA y.1 ++ namesA y.2.2))).length ≤ 100000 := by
        have h1 := sub_len (uniq_nodup (namesA y.1 ++ namesA y.2.2)) fun g hg => uniq_mem.mp hg
        rw [(srt_perm _).length_eq]
        rw [List.length_append] at h1
        omega
      refine hb_setA (w1 := []) 4 rfl (er_bA (ar_cons (er_tA (ar_cons (er_eq (S := rLst ((namesA y.1 ++ namesA y.2.2).map rStr)) (er_bin (eL (er_tA (ar_cons (er_ix (er_v 3 rfl rfl) er_int (iop_L (n := 0) rfl rfl)) ar_nil) ls bt_list (cop_listD rfl isd_frz))) (eL (er_tA (ar_cons (er_ix (er_v 3 rfl rfl) er_int (iop_L (n := 2) rfl rfl)) ar_nil) ls bt_list (cop_listD rfl isd_frz))) (bop_cat (by rw [List.length_map, List.length_map]; omega))) (by rw [List.map_append])) ar_nil) se bt_set (cop_setT rfl (by rw [List.length_append]; omega))) ar_nil) st bt_sorted (cop_sortT rfl (by rw [List.length_append]; omega))) ?_
      refine hb_setLcf (xs := srt (uniq (namesA y.1 ++ namesA y.2.2))) (A := rStr) (B := rStr) (p := fun g => decide (0 < valA y.1 g + valA y.2.2 g)) 5 (it_lst (er_v 4 rfl rfl)) lu [("_law_good", 6)] (blkOk_by (N := N__law_made_due) (sc := defScope s__law_made_due) (by decide +kernel)) (fun _ _ _ _ _ => pg_name (i := 6) nd rfl (Or.inl rfl)) (fun _ _ _ => gew_name)
        (fun j a ha s H0 cc cl fp d => tr_cmp (er_bin (er_eq (S := rInt (valA y.1 a)) (er_dget2 (k := .inr a) (er_ix (er_v 3 rfl rfl) er_int (iop_L (n := 0) rfl rfl)) (er_v 6 rfl rfl) er_int isd_frz isd_frz hr) valR_get) (er_eq (S := rInt (valA y.2.2 a)) (er_dget2 (k := .inr a) (er_ix (er_v 3 rfl rfl) er_int (iop_L (n := 2) rfl rfl)) (er_v 6 rfl rfl) er_int isd_frz isd_frz hr) valR_get) bop_add) er_int bop_gt)
        (fun j a ha _ s H0 cc cl fp d => er_v 6 rfl rfl) ?_ nd (by rfl)
      rw [← goods_eq n1 n2 r.c.1 r.c.2]
      have lw : (goodsW y.1 y.2.2).length ≤ 100000 := by
        rw [goods_eq n1 n2 r.c.1 r.c.2]
        exact Nat.le_trans (List.length_filter_le _ _) lu
      refine hb_setLcf (xs := goodsW y.1 y.2.2) (A := rStr) (B := rStr) (p := fun g => !decide (g ∈ gs)) 7 (it_lst (er_v 5 rfl rfl)) lw [("_law_good", 6)] (blkOk_by (N := N__law_made_due) (sc := defScope s__law_made_due) (by decide +kernel)) (fun _ _ _ _ _ => pg_name (i := 6) nd rfl (Or.inl rfl)) (fun _ _ _ => gew_name)
        (fun j a ha s H0 cc cl fp d => tr_cmp (er_v 6 rfl rfl) (er_v 0 rfl rfl) (bop_niQ isq_L)) (fun j a ha _ s H0 cc cl fp d => er_v 6 rfl rfl) ?_ nd (by rfl)
      have el : lost gs y = ((goodsW y.1 y.2.2).filter fun g => !decide (g ∈ gs)).head? := by
        rw [List.head?_filter]
        rfl
      cases c : (goodsW y.1 y.2.2).filter fun g => !decide (g ∈ gs) with
      | nil =>
        refine hb_if (b := false) (tr_to (tr_cmp (er_v 7 rfl rfl) (er_lst (Rs := []) ar_nil (Nat.zero_le _)) (bop_neE r1)) (by simp)) (fun z => Bool.noConfusion z) (fun _ => hb_nil (hb_nil ⟨rfl, ?_, _, _, _, _, rfl⟩))
        rw [hk]
        conv => lhs; unfold wErr
        rw [el, c]
        rfl
      | cons g r =>
        have e : bErr gs ys = some (.unk g) := by
          rw [eb, hk]
          unfold wErr
          rw [el, c]
          rfl
        refine hb_if (b := true) (tr_to (tr_cmp (er_v 7 rfl rfl) (er_lst (Rs := []) ar_nil (Nat.zero_le _)) (bop_neE r1)) (by simp)) (fun _ => ?_) (fun z => Bool.noConfusion z)
        refine hb_ret (er_lst (Rs := [rStr (Str.ofString "unknown"), rStr g]) (ar_cons er_str (ar_cons (er_ix (er_v 7 rfl rfl) er_int (iop_L (n := 0) (ixN_at (k := 0) (by rw [List.length_map, List.length_cons]; omega)) rfl)) ar_nil)) (Nat.le_of_ble_eq_true rfl)) ⟨_, [], rfl, fun v G k => K2 e k, rfl⟩
    · rintro ρ w ⟨rfl, hk, z3, z4, z5, z7, rfl⟩
      rw [List.length_map, List.drop_length] at hk
      have e : bErr gs ys = none := by rw [eb, hk]; rfl
      refine hb_ret (er_lst (Rs := []) ar_nil (Nat.zero_le _)) ⟨_, [], rfl, fun v G k => ?_, rfl⟩
      show (duR gs ys).r v G
      unfold duR
      rw [e]
      exact k
end
end W1
set_option maxRecDepth 100000
set_option maxHeartbeats 4000000
set_option exponentiation.threshold 20000
namespace W1
open PySem PySem.Spec PyProof.Rows L2 NdefX TL NumText
/-! ### a new list of a list; two names at once, what is made known by what holds of it -/
section
variable {F : Fx} {ρ : Ty} {ω w w1 : Ow} {a b e : Expr} {es : List Expr} {As Rs : List Rl} {O : Ol} {K : Kn} {rest : List Stmt} {pos p : Pos} {x y : Str} {Ψ : List Rl → Ow → Prop}
theorem en_tA {id : String} (ha : AR F ρ ω (e :: es) As w1) (hm : F.X.mg x = none) (hv : bootBuiltins x = some (.type id)) (hc : CopN F w1 (.type id) As O) (hg : Gl F.X x := by rfl) (hn : x ≠ "__name__" := by decide) (hdb : (x == ("__debug__" : Str)) = false := by decide)
    (he : starEach (e :: es) F.X.env = (false, eval e F.X.env) :: starEach es F.X.env := by rfl) (hpl : (backTo pos (starEach es F.X.env)).any (·.1) = false := by rfl) : EN F ρ ω (.Call (.Name x p) (e :: es) [] pos) O w1 := fun σ G H at_ sl Q q => by
  obtain ⟨r, ho, k⟩ := hc
  refine ew_of (pe_callTy ho hg hm hv pa_w hn hdb he hpl) (ha σ G H at_ sl _ fun vs G2 H2 s2 a2 r2 => ?_)
  exact k vs G2 H2 a2 r2 Q fun v G3 H3 hM s3 a3 => q v G3 H3 hM (s2.trans s3) a3
theorem copN_listL : CopN F w (.type "list") [rLst Rs] (oL Rs) := ⟨_, call_list_of, fun xs G H at_ hx Q q => by
  obtain ⟨x, rfl, p, vs, rfl, h1, h2⟩ := all1 hx
  exact ⟨p, vs, rfl, .inl (SqL.of (at_.gh _ _ h1)), fun l hl => q l _ _ (fun hm => at_.mm l hm hl) (Same.refl _) (at_.own hl ⟨_, rfl, h2⟩)⟩⟩
theorem hb_par2 {px py pt : Pos} {kt k2 pt2} (i j : Nat) (ha : AG F ρ ω [a, b] Ψ) (h : ∀ Rs w, Ψ Rs w → ∃ R S, Rs = [R, S] ∧ HB F ((ρ.set i (some R)).set j (some S)) w rest K) (hN : F.X.N.Nodup) (hij : i ≠ j := by decide) (hi : F.X.N[i]? = some x := by rfl) (hj : F.X.N[j]? = some y := by rfl)
    (hx : F.X.env.scope.names.lookup x = some .local := by rfl) (hy : F.X.env.scope.names.lookup y = some .local := by rfl) (hc : F.X.calm = true := by rfl)
    (hw : swappedStores [.Tuple [.Name x px, .Name y py] kt pt] (.Tuple [a, b] k2 pt2) F.X.env = pure (some [x, y]) := by rfl)
    (hs : swapsWithSole [.Tuple [.Name x px, .Name y py] kt pt] (.Tuple [a, b] k2 pt2) pos.line F.X.env = pure false := by rfl) :
    HB F ρ ω (.Assign [.Tuple [.Name x px, .Name y py] kt pt] (.Tuple [a, b] k2 pt2) pos :: rest) K := hb_cons fun σ G H D at_ sl ps => by
  refine sw_of (ps_par hc hN hi hj hij hx hy pa_w hw hs) (ha σ G H at_ sl _ fun vs G2 H2 Rs w k s2 a2 r2 => ?_)
  obtain ⟨R, S, rfl, hb⟩ := h Rs w k
  obtain ⟨u, v, rfl, q1, q2⟩ := all2 r2
  exact ⟨u, v, rfl, hb _ G2 H2 D a2 (((sl.up s2).set i q1).set j q2) (ps.up s2)⟩
end
theorem bop_eqBE {F : Fx} {w : Ow} (e : BE) (hr : Room 1 F.X.A) : Bop F w (compareOp .Eq) (beR e) (beR e) (rBool true) := by
  have two : ∀ {x y : V}, flatV x = true → flatV y = true → eqV x x = true → eqV y y = true → Bop F w (compareOp .Eq) (rLst [rEqV x, rEqV y]) (rLst [rEqV x, rEqV y]) (rBool true) := fun {x y} h1 h2 h3 h4 => by
    refine list_same (xs := [x, y]) (fun z hz => ?_) (fun z hz => ?_) hr
    · rcases List.mem_cons.mp hz with rfl | hz
      · exact h1
      · rw [List.mem_singleton.mp hz]; exact h2
    · rcases List.mem_cons.mp hz with rfl | hz
      · exact h3
      · rw [List.mem_singleton.mp hz]; exact h4
  cases e with
  | num n => exact two rfl rfl (eqV_str _) (eqV_int n)
  | name z => exact two rfl rfl (eqV_str _) (eqV_str _)
  | twice z => exact two rfl rfl (eqV_str _) (eqV_str _)
  | unk z => exact two rfl rfl (eqV_str _) (eqV_str _)
theorem be_lst (e : BE) : ∃ R S, beR e = rLst [R, S] := by
  cases e <;> exact ⟨_, _, rfl⟩
theorem flat_map {α : Type} {f : α → Rl} {ys : List α} (n : Nat) : (List.replicate n (ys.map f)).flatten = ((List.replicate n ys).flatten).map f := by
  rw [List.map_flatten, List.map_replicate]
theorem flat_mem {α : Type} {ys : List α} {n : Nat} {y : α} (h : y ∈ (List.replicate n ys).flatten) : y ∈ ys := by
  obtain ⟨l, hl, hy⟩ := List.mem_flatten.mp h
  rw [(List.mem_replicate.mp hl).2] at hy
  exact hy
/-! ### spoilt lists -/
def spN' : List Str := [Str.ofString "", Str.ofString "X", Str.ofString "1a", Str.ofString "abcdefghi"]
def pSpoilB : Pre := fun Rs w o w' => ∃ q s gs ys, Goods gs ∧ 0 < gs.length ∧ gs.length ≤ 4 ∧ RowsK gs ys ∧ Rs = [rRef q, rLst (gs.map rStr), rLst (ys.map rRw)] ∧ w = [(q, oPool s)] ∧ w' = [(q, oAny)] ∧ o = .ok (rBool true)
/-- what stands while the names are put in -/
structure NmOk (nm : List Str) (m : Nat) : Prop where
  sub : ∀ g ∈ nm, g ∈ nmAll
  l0 : 0 < nm.length
  l1 : nm.length ≤ m
structure SmOk (ys : List Wy) (m : Nat) : Prop where
  rw : ∀ y ∈ ys, RwG y
  l1 : ys.length ≤ m
theorem NmOk.ins {nm : List Str} {m i : Nat} {g : Str} (h : NmOk nm m) (hg : g ∈ nmAll) : NmOk (nm.take i ++ [g] ++ nm.drop i) (m + 1) := by
  refine ⟨fun x hx => ?_, ?_, ?_⟩
  · rcases List.mem_append.mp hx with hx | hx
    · rcases List.mem_append.mp hx with hx | hx
      · exact h.sub x (List.mem_of_mem_take hx)
      · rw [List.mem_singleton.mp hx]; exact hg
    · exact h.sub x (List.mem_of_mem_drop hx)
  · rw [List.length_append, List.length_append, List.length_singleton]; omega
  · have := h.l1
    rw [List.length_append, List.length_append, List.length_singleton, List.length_take, List.length_drop]; omega
theorem SmOk.ins {ys : List Wy} {m i : Nat} {y : Wy} (h : SmOk ys m) (hy : RwG y) : SmOk (ys.take i ++ [y] ++ ys.drop i) (m + 1) := by
  refine ⟨fun x hx => ?_, ?_⟩
  · rcases List.mem_append.mp hx with hx | hx
    · rcases List.mem_append.mp hx with hx | hx
      · exact h.rw x (List.mem_of_mem_take hx)
      · rw [List.mem_singleton.mp hx]; exact hy
    · exact h.rw x (List.mem_of_mem_drop hx)
  · have := h.l1
    rw [List.length_append, List.length_append, List.length_singleton, List.length_take, List.length_drop]; omega
/-- the strange row -/
abbrev rowZ (d : Int) (g : Str) : Wy := ([(Str.ofString "zz", 1), (Str.ofString "z", d)], 1, [(g, 1)])
theorem amI_g {ns : List Str} {am : Am} (h : AmI ns am) (l : am.length < 64) (hn : ∀ g ∈ ns, nameL (tl g) = true ∧ g.length ≤ 640) : AmG am ∧ chkL am (srt (namesA am)) = none :=
  ⟨⟨⟨l, fun p hp => ⟨(hn _ (h.sub _ (List.mem_map_of_mem hp))).2, small_log (by have := h.ok p hp; omega)⟩⟩, h.nd⟩, chk_none fun g hg => ⟨(hn g (h.sub g (srt_mem hg))).1, h.val g⟩⟩
theorem rowZ_ok {d : Int} {g : Str} (hd : 0 ≤ d ∧ d < 2) (hg : g ∈ menuN) : RwG (rowZ d g) := by
  have i1 : AmI [Str.ofString "zz", Str.ofString "z"] [(Str.ofString "zz", (1 : Int)), (Str.ofString "z", d)] := by
    refine ⟨?_, fun x hx => hx, fun p hp => ?_⟩
    · show ([Str.ofString "zz", Str.ofString "z"] : List Str).Nodup
      decide +kernel
    · rcases List.mem_cons.mp hp with rfl | hp
      · exact (show (0 : Int) ≤ 1 ∧ (1 : Int) ≤ 10 ^ 20 by decide)
      · rw [List.mem_singleton.mp hp]
        exact (show (0 : Int) ≤ d ∧ d ≤ 10 ^ 20 by omega)
  have i2 : AmI [g] [(g, (1 : Int))] := by
    refine ⟨by simp [namesA], fun x hx => hx, fun p hp => ?_⟩
    rw [List.mem_singleton.mp hp]
    exact (show (0 : Int) ≤ 1 ∧ (1 : Int) ≤ 10 ^ 20 by decide)
  have n1 : ∀ x ∈ [Str.ofString "zz", Str.ofString "z"], nameL (tl x) = true ∧ x.length ≤ 640 := by decide +kernel
  have n2 : ∀ x ∈ [g], nameL (tl x) = true ∧ x.length ≤ 640 := fun x hx => by
    rw [List.mem_singleton.mp hx]
    exact ⟨menu_name g hg, menu_len g hg⟩
  obtain ⟨a1, c1⟩ := amI_g i1 (by show 2 < 64; omega) n1
  obtain ⟨a2, c2⟩ := amI_g i2 (by show 1 < 64; omega) n2
  refine ⟨⟨a1, a2, by show (1 : Int).natAbs.log2 < 1920; decide, ?_⟩, ⟨by show 2 + 1 < 60; omega, fun x hx => ?_⟩⟩
  · show wayE _ 1 _ = none
    unfold wayE
    rw [c1]
    dsimp only
    rw [c2]
    dsimp only
    rw [if_neg (by decide), if_neg]
    refine kept_ne2 (g := g) ?_
    show 0 < valA [(g, 1)] g
    unfold valA
    simp
  · rcases mem_goodsW.mp hx with h | h
    · exact (n1 x (i1.sub _ (names_kept.mp h).1)).2
    · exact (n2 x (i2.sub _ (names_kept.mp h).1)).2
end W1
set_option maxRecDepth 100000
set_option maxHeartbeats 4000000
set_option exponentiation.threshold 20000
namespace W1
open PySem PySem.Spec PyProof.Rows L2 NdefX TL NumText
theorem er_andT {F : Fx} {ρ : Ty} {ω w1 w2 : Ow} {a b : Expr} {rest : List Expr} {R : Rl} {pos : Pos} (h : ER F ρ ω a (rBool true) w1) (g : ER F ρ w1 (.BoolOp .And (b :: rest) pos) R w2) : ER F ρ ω (.BoolOp .And (a :: b :: rest) pos) R w2 := fun σ G H at_ sl Q q =>
  ew_of (pe_and pe_w pe_w) (h σ G H at_ sl _ fun v G2 H2 s2 a2 r => ⟨true, r, iteT (g σ G2 H2 a2 (sl.up s2) Q fun v G3 H3 s3 a3 r3 => q v G3 H3 (s2.trans s3) a3 r3)⟩)
section
variable {P : Program} {w : World} {K : PySem.W.Frag} {mg : Str → Option Value} {base : Heap} {W C M N D U V f : Addr} {fd : FuncData}
/-- what a body needs of the program -/
structure SpX (P : Program) (w : World) (K : PySem.W.Frag) (mg : Str → Option Value) (base : Heap) (C W M N : Addr) : Prop where
  Td : Kf1 P w K mg base "_law_draw" 1 pDraw
  Tw : Kc P w K mg base W "Way" 6 (pWayI W N M)
  Tm : Kf1 P w K mg base "_law_made" 7 (pMadeB C W)
  Tu : Kf1 P w K mg base "_law_made_due" 3 pMadeDue
  Tf : Kf1 P w K mg base "_law_fits" 10 (pFitsB C W)
  len : mg "len" = none
  rg : mg "range" = none
  ls : mg "list" = none
  tu : mg "tuple" = none
/-- behind the spoiling -/
theorem spoil_tail {cdv : Value} {A : Around} {outer : List Env} {s0 : Shared} {H : Hp} {E : XK} (F : Fx) (hX : F.X = cxOf (L2.CX P w) P w K mg base N__law_spoils_fit "_law_spoils_fit" (defScope s__law_spoils_fit) f cdv A outer s0 H E) (hr : Room 10 F.X.A) (X : SpX P w K mg base C W M N)
    {q qn : Addr} (hqn : qn ∉ F.M) {s : Pool} {nm : List Str} {zs : List Wy} {z1 z2 z5 z6 : Option Rl} (hn : NmOk nm 1000) (hz : SmOk zs 1000) :
    HB F [some (rRef q), z1, z2, some (rRef qn), some (rLst (zs.map rRw)), z5, z6, none, none, none, none] [(qn, oL (nm.map rStr)), (q, oPool s)] ((defBody s__law_spoils_fit).drop 4) (Kf (.ok (rBool true)) [(q, oAny)]) := by
  obtain ⟨_, G0, H0, M', Wd, tk⟩ := F
  cases hX
  have nd := c__law_spoils_fit.nd
  have r1 := hr.mono (show 1 ≤ 10 by decide)
  have r3 := hr.mono (show 3 ≤ 10 by decide)
  have r7 := hr.mono (show 7 ≤ 10 by decide)
  have ln := hn.l1
  have lz := hz.l1
  refine hb_pub 3 rfl hqn pub_lst ?_
  refine hb_setLc (xs := zs) (A := rRw) (B := rWy W) 7 (it_lst (er_v 4 rfl rfl)) (by omega) [("_law_row", 8)] (blkOk_by (N := N__law_spoils_fit) (sc := defScope s__law_spoils_fit) (by decide +kernel)) (fun _ _ _ _ _ => pg_name (i := 8) nd rfl (Or.inl rfl)) (fun _ _ _ => gew_name) (fun j y hy s1 H1 cc cl fp d => by
    have r := (hz.rw y (List.mem_of_getElem? hy)).rw
    exact er_cS (wc := []) (fs := wayF y.1 y.2.1 y.2.2) X.Tw r7 (ar_cons (er_ix (er_v 8 rfl rfl) er_int (iop_L (n := 0) rfl rfl)) (ar_cons (er_ix (er_v 8 rfl rfl) er_int (iop_L (n := 1) rfl rfl)) (ar_cons (er_ix (er_v 8 rfl rfl) er_int (iop_L (n := 2) rfl rfl)) ar_nil))) Sub.nil fun q => ⟨q, _, _, [], _, _, [], _, .inl ⟨rfl, rfl⟩, .inl ⟨rfl, rfl⟩, r.g1, r.g2, r.hh, rfl, rfl, by rw [r.ok]; exact ⟨rfl, rfl⟩⟩) ?_ nd (by rfl)
  have bk : BkOk nm zs := ⟨fun g hg => nmAll_len g (hn.sub g hg), fun y hy => (hz.rw y hy).wy, ln, lz⟩
  refine hb_setA 9 rfl (er_fA (R := madeR C W nm zs) X.Tm r7 (ar_cons (er_v 3 rfl rfl) (ar_cons (er_v 7 rfl rfl) ar_nil)) ⟨_, nm, _, zs, .inl ⟨rfl, rfl⟩, .inl ⟨rfl, rfl⟩, bk, rfl, rfl, rfl, rfl⟩) ?_
  refine hb_setA 10 rfl (er_fA (R := duR nm zs) X.Tu r3 (ar_cons (er_v 3 rfl rfl) (ar_cons (er_v 4 rfl rfl) ar_nil)) ⟨nm, zs, hn.sub, ln, lz, hz.rw, rfl, rfl, rfl, rfl⟩) ?_
  cases c : bErr nm zs with
  | some e =>
    have e1 : madeR C W nm zs = beR e := by unfold madeR; rw [c]
    rw [e1, duE c]
    obtain ⟨R1, R2, e2⟩ := be_lst e
    have nz : Bop ⟨cxOf (L2.CX P w) P w K mg base N__law_spoils_fit "_law_spoils_fit" (defScope s__law_spoils_fit) f cdv A outer s0 H E, G0, H0, M', Wd, tk⟩ [(q, oPool s)] (compareOp .NotEq) (beR e) (rLst []) (rBool true) := by
      rw [e2]
      have := bop_neE (w := [(q, oPool s)]) (Rs := [R1, R2]) r1
      rw [decide_eq_false (by simp)] at this
      exact this
    refine hb_if (b := true) (tr_cmp (er_v 10 rfl rfl) (er_lst (Rs := []) ar_nil (Nat.zero_le _)) nz) (fun _ => ?_) (fun z => Bool.noConfusion z)
    refine hb_any (hb_ret (er_and (k := true) (m := true) (er_cmp (er_v 9 rfl rfl) (er_v 10 rfl rfl) (bop_eqBE e r1)) fun _ => er_one (er_cmp (er_fA (R := beR e) X.Tm r7 (ar_cons (er_tA (ar_cons (er_v 3 rfl rfl) ar_nil) X.tu bt_tuple cop_tupL) (ar_cons (er_tA (ar_cons (er_v 7 rfl rfl) ar_nil) X.tu bt_tuple cop_tupL) ar_nil)) ⟨_, nm, _, zs, .inr (.inl ⟨rfl, rfl⟩), .inr (.inl ⟨rfl, rfl⟩), bk, rfl, rfl, rfl, by rw [e1]⟩) (er_v 10 rfl rfl) (bop_eqBE e r1))) ⟨_, [], rfl, fun v G h => h, rfl⟩)
  | none =>
    have e1 : madeR C W nm zs = rLst [rBook C W nm zs] := by unfold madeR; rw [c]
    have e3 : duR nm zs = rLst [] := by unfold duR; rw [c]
    rw [e1, e3]
    have fit : FitB nm zs := ⟨c, hz.rw, bk.nm⟩
    refine hb_if (b := false) (tr_to (tr_cmp (er_v 10 rfl rfl) (er_lst (Rs := []) ar_nil (Nat.zero_le _)) (bop_neE r1)) (by simp)) (fun z => Bool.noConfusion z) (fun _ => hb_nil ?_)
    refine hb_ret (er_andT (er_cmp (er_bA (ar_cons (er_v 9 rfl rfl) ar_nil) X.len bt_len cop_lenL) er_int bop_eqI) (er_one (er_f1 0 X.Tf hr (ar_cons (er_v 0 rfl rfl) (ar_cons (er_v 3 rfl rfl) (ar_cons (er_v 4 rfl rfl) (ar_cons (er_ix (er_v 9 rfl rfl) er_int (iop_L (n := 0) rfl rfl)) ar_nil)))) rfl ⟨q, s, nm, zs, fit, rfl, rfl, rfl, rfl⟩))) ⟨_, [], rfl, fun v G h => h, rfl⟩
theorem kf_spoilb (Fn : Fun K "_law_spoils_fit" "_law_spoils_fit" s__law_spoils_fit f fd) (X : SpX P w K mg base C W M N) : FnOk P w K mg base (L2.CX P w) 11 f fd P__law_spoils_fit (spM pSpoilB) := by
  refine fn_ok Fn c__law_spoils_fit (fun _ _ _ _ ⟨_, _, _, _, _, _, _, _, h, _⟩ => by rw [h]; rfl) ?_
  rintro cdv A outer s0 H E ⟨_, G0, H0, M', W', tk⟩ hr rfl Rs ω o ω' ⟨q, s, gs, ys, hG, hg0, hg4, hK, rfl, rfl, rfl, rfl⟩
  have nd := c__law_spoils_fit.nd
  have r1 := hr.mono (show 1 ≤ 10 by decide)
  have l8 := hK.l8
  refine hb_par2 (Ψ := fun Rs w => ∃ qn qs, qn ∉ M' ∧ qs ∉ M' ∧ Rs = [rRef qn, rRef qs] ∧ w = [(qs, oL (ys.map rRw)), (qn, oL (gs.map rStr)), (q, oPool s)]) 3 4 ?_ ?_ nd
  · refine ag_cons (Φ := fun R w => ∃ qn, qn ∉ M' ∧ R = rRef qn ∧ w = [(qn, oL (gs.map rStr)), (q, oPool s)]) (eg_en (en_tA (ar_cons (er_v 1 rfl rfl) ar_nil) X.ls bt_list copN_listL) fun qn h => ⟨qn, h, rfl, rfl⟩) ?_
    rintro R w ⟨qn, hn, rfl, rfl⟩
    refine ag_cons (Φ := fun R w => ∃ qs, qs ∉ M' ∧ R = rRef qs ∧ w = [(qs, oL (ys.map rRw)), (qn, oL (gs.map rStr)), (q, oPool s)]) (eg_en (en_tA (ar_cons (er_v 2 rfl rfl) ar_nil) X.ls bt_list copN_listL) fun qs h => ⟨qs, h, rfl, rfl⟩) ?_
    rintro R w ⟨qs, hs, rfl, rfl⟩
    exact ag_nil ⟨qn, qs, hn, hs, rfl, rfl⟩
  · rintro Rs w ⟨qn, qs, hqn, hqs, rfl, rfl⟩
    refine ⟨_, _, rfl, ?_⟩
    have d3 := drR_lt (s := s) (L := 3) (by decide)
    have nm0 : NmOk gs (4 + 0) := ⟨fun g hg => List.mem_append_left _ (hG.sub g hg), hg0, hg4⟩
    refine hb_for (it_rng1 (w1 := [(qs, oL (ys.map rRw)), (qn, oL (gs.map rStr)), (q, oPool (drS s 3))]) (ar_cons (er_f1 2 X.Td r1 (ar_cons (er_v 0 rfl rfl) (ar_cons er_int ar_nil)) rfl (drawOk (s := s) (L := 3) (by decide) (by decide))) ar_nil) rfl X.rg (by omega))
      (fun k ρ w => ∃ nm s z5 z6, NmOk nm (4 + k) ∧ ρ = [some (rRef q), some (rLst (gs.map rStr)), some (rLst (ys.map rRw)), some (rRef qn), some (rRef qs), z5, z6, none, none, none, none] ∧ w = [(qs, oL (ys.map rRw)), (qn, oL (nm.map rStr)), (q, oPool s)]) ⟨gs, _, _, _, nm0, rfl, rfl⟩ ?_ ?_ (passes_of rfl) (pg_name (i := 5) nd rfl (Or.inl rfl))
    · rintro k ρ w S hS ⟨nm, s, z5, z6, hN, rfl, rfl⟩
      obtain ⟨hk, rfl⟩ := rng_get hS
      have hk : k < 3 := by omega
      refine ⟨_, ge_name, ?_⟩
      have l1 := hN.l1
      have l0 := hN.l0
      have d7 := drR_lt (s := s) (L := 7) (by decide)
      have hx : nm[0]? = some (nm.getD 0 Str.empty) := by rw [List.getD_eq_getElem?_getD, List.getElem?_eq_getElem l0]; rfl
      have h0 : nm.getD 0 Str.empty ∈ nm := getD_in l0
      refine hb_setA (w1 := [(qs, oL (ys.map rRw)), (qn, oL (nm.map rStr)), (q, oPool (drS s 7))]) 6 rfl (er_ix (er_lst (Rs := [Str.ofString "", Str.ofString "X", Str.ofString "1a", Str.ofString "abcdefghi", nm.getD 0 Str.empty, Str.ofString "q", Str.ofString "q2"].map rStr) (ar_cons er_str (ar_cons er_str (ar_cons er_str (ar_cons er_str (ar_cons (er_ixO (Rs := nm.map rStr) (n := 0) (er_v 3 rfl rfl) er_int (List.mem_cons_of_mem _ List.mem_cons_self) (ixN_at (k := 0) (by rw [List.length_map]; exact l0)) (by rw [List.getElem?_map, hx]; rfl)) (ar_cons er_str (ar_cons er_str ar_nil))))))) (Nat.le_of_ble_eq_true rfl))
        (er_f1 2 X.Td r1 (ar_cons (er_v 0 rfl rfl) (ar_cons er_int ar_nil)) rfl (drawOk (s := s) (L := 7) (by decide) (by decide))) (iop_pickM (A := rStr) Str.empty d7.1 d7.2)) ?_
      have hm : [Str.ofString "", Str.ofString "X", Str.ofString "1a", Str.ofString "abcdefghi", nm.getD 0 Str.empty, Str.ofString "q", Str.ofString "q2"].getD (drR s 7).toNat Str.empty ∈ nmAll := by
        have := getD_in (xs := [Str.ofString "", Str.ofString "X", Str.ofString "1a", Str.ofString "abcdefghi", nm.getD 0 Str.empty, Str.ofString "q", Str.ofString "q2"]) (i := (drR s 7).toNat) (d := Str.empty) (by show _ < 7; omega)
        have h1 := hN.sub _ h0
        generalize nm.getD 0 Str.empty = g0 at *
        generalize [Str.ofString "", Str.ofString "X", Str.ofString "1a", Str.ofString "abcdefghi", g0, Str.ofString "q", Str.ofString "q2"].getD (drR s 7).toNat Str.empty = g at *
        have key : ∀ x ∈ [Str.ofString "", Str.ofString "X", Str.ofString "1a", Str.ofString "abcdefghi", Str.ofString "q", Str.ofString "q2"], x ∈ nmAll := by decide +kernel
        by_cases e : g = g0
        · rw [e]; exact h1
        · apply key
          simp only [List.mem_cons, List.not_mem_nil, or_false] at this ⊢
          rcases this with h | h | h | h | h | h | h
          · exact .inl h
          · exact .inr (.inl h)
          · exact .inr (.inr (.inl h))
          · exact .inr (.inr (.inr (.inl h)))
          · exact absurd h e
          · exact .inr (.inr (.inr (.inr (.inl h))))
          · exact .inr (.inr (.inr (.inr (.inr h))))
      generalize [Str.ofString "", Str.ofString "X", Str.ofString "1a", Str.ofString "abcdefghi", nm.getD 0 Str.empty, Str.ofString "q", Str.ofString "q2"].getD (drR s 7).toNat Str.empty = more at hm
      generalize drS s 7 = s2
      have dn := drR_lt (s := s2) (L := (nm.length : Int) + 1) (by omega)
      have lo : ∀ {F : Fx} {s : Pool}, Cop F [(qs, oL (ys.map rRw)), (qn, oL (nm.map rStr)), (q, oPool s)] (.builtin "len") [rRef qn] (rInt ((nm.length : Nat) : Int)) := fun {F s} => by
        have := cop_lenO (F := F) (w := [(qs, oL (ys.map rRw)), (qn, oL (nm.map rStr)), (q, oPool s)]) (q := qn) (Rs := nm.map rStr) (List.mem_cons_of_mem _ List.mem_cons_self)
        rw [List.length_map] at this
        exact this
      refine hb_insert (Rs := nm.map rStr) (R := rStr more) (i := drR s2 ((nm.length : Int) + 1)) (w2 := [(qs, oL (ys.map rRw)), (q, oPool (drS s2 ((nm.length : Int) + 1)))]) (er_v 3 rfl rfl) (List.mem_cons_of_mem _ List.mem_cons_self) (ar_perm (ar_cons (er_f1 2 X.Td r1 (ar_cons (er_v 0 rfl rfl) (ar_cons (er_bin (er_bA (ar_cons (er_v 3 rfl rfl) ar_nil) X.len bt_len lo) er_int bop_add) ar_nil)) rfl (drawOk (s := s2) (L := (nm.length : Int) + 1) (by omega) (Nat.lt_of_le_of_lt (by omega : ((nm.length : Int) + 1).natAbs ≤ 10) (by decide)))) (ar_cons (er_v 6 rfl rfl) ar_nil)) (List.Perm.swap _ _ _)) dn.1 (by omega) (by rw [List.length_map]; omega) ?_
      refine hb_perm (List.Perm.swap _ _ _) (hb_nil ⟨nm.take (drR s2 ((nm.length : Int) + 1)).toNat ++ [more] ++ nm.drop (drR s2 ((nm.length : Int) + 1)).toNat, drS s2 ((nm.length : Int) + 1), _, _, hN.ins hm, rfl, ?_⟩)
      rw [List.map_append, List.map_append, List.map_take, List.map_drop]
      rfl
    · rintro ρ w ⟨nm, s2, z5, z6, hN, rfl, rfl⟩
      rw [rng_len] at hN
      have l1 := hN.l1
      have nmk : NmOk nm 1000 := ⟨hN.sub, hN.l0, by omega⟩
      have sm0 : SmOk ys 8 := ⟨fun y hy => (hK.row y hy).g hG, l8⟩
      refine hb_ifJ (fun ρ w => ∃ zs s, SmOk zs 9 ∧ ρ = [some (rRef q), some (rLst (gs.map rStr)), some (rLst (ys.map rRw)), some (rRef qn), some (rRef qs), z5, z6, none, none, none, none] ∧ w = [(qs, oL (zs.map rRw)), (qn, oL (nm.map rStr)), (q, oPool s)]) (tr_cmp (er_f1 2 X.Td r1 (ar_cons (er_v 0 rfl rfl) (ar_cons er_int ar_nil)) rfl (drawOk (s := s2) (L := 4) (by decide) (by decide))) er_int bop_eqI) (fun _ => ?_) (fun _ => ⟨ys, _, ⟨sm0.rw, by omega⟩, rfl, rfl⟩) ?_
      · generalize drS s2 4 = s3
        have dn := drR_lt (s := s3) (L := (ys.length : Int) + 1) (by omega)
        have lo : ∀ {F : Fx} {s : Pool}, Cop F [(qs, oL (ys.map rRw)), (qn, oL (nm.map rStr)), (q, oPool s)] (.builtin "len") [rRef qs] (rInt ((ys.length : Nat) : Int)) := fun {F s} => by
          have := cop_lenO (F := F) (w := [(qs, oL (ys.map rRw)), (qn, oL (nm.map rStr)), (q, oPool s)]) (q := qs) (Rs := ys.map rRw) List.mem_cons_self
          rw [List.length_map] at this
          exact this
        have hgm : gs.getD (0 : Int).toNat Str.empty ∈ gs := getD_in hg0
        generalize hgg : gs.getD (0 : Int).toNat Str.empty = g0 at hgm
        have ig : ∀ {F : Fx} {w : Ow}, Iop F w (rLst (gs.map rStr)) (rInt 0) (rStr g0) := fun {F w} => by
          rw [← hgg]
          exact iop_pickM (A := rStr) (i := 0) Str.empty (by decide) (by omega)
        have d2 := drR_lt (s := drS s3 ((ys.length : Int) + 1)) (L := 2) (by decide)
        refine hb_insert (Rs := ys.map rRw) (R := rRw (rowZ (drR (drS s3 ((ys.length : Int) + 1)) 2) g0)) (i := drR s3 ((ys.length : Int) + 1)) (w2 := [(qn, oL (nm.map rStr)), (q, oPool (drS (drS s3 ((ys.length : Int) + 1)) 2))]) (er_v 4 rfl rfl) List.mem_cons_self
          (ar_cons (er_f1 2 X.Td r1 (ar_cons (er_v 0 rfl rfl) (ar_cons (er_bin (er_bA (ar_cons (er_v 4 rfl rfl) ar_nil) X.len bt_len lo) er_int bop_add) ar_nil)) rfl (drawOk (s := s3) (L := (ys.length : Int) + 1) (by omega) (Nat.lt_of_le_of_lt (by omega : ((ys.length : Int) + 1).natAbs ≤ 10) (by decide))))
          (ar_cons (er_lst (ar_cons (er_frz (en_disp2 (k := .inr (Str.ofString "zz")) (R := rInt 1) (l := .inr (Str.ofString "z")) (S := rInt (drR (drS s3 ((ys.length : Int) + 1)) 2)) (fun _ => er_str) (fun _ => er_int) (fun _ => er_str) (fun z => er_f1 3 X.Td r1 (ar_cons (er_v 0 rfl rfl) (ar_cons er_int ar_nil)) rfl (drawOk (s := drS s3 ((ys.length : Int) + 1)) (L := 2) (by decide) (by decide))))) (ar_cons er_int (ar_cons (er_frz (en_disp1 (k := .inr g0) (R := rInt 1) (fun _ => er_ix (er_v 1 rfl rfl) er_int ig) (fun _ => er_int))) ar_nil))) (Nat.le_of_ble_eq_true rfl)) ar_nil)) dn.1 (by omega) (by rw [List.length_map]; omega) ?_
        refine hb_nil ⟨ys.take (drR s3 ((ys.length : Int) + 1)).toNat ++ [rowZ (drR (drS s3 ((ys.length : Int) + 1)) 2) g0] ++ ys.drop (drR s3 ((ys.length : Int) + 1)).toNat, drS (drS s3 ((ys.length : Int) + 1)) 2, sm0.ins (rowZ_ok d2 (hG.sub _ hgm)), rfl, ?_⟩
        rw [List.map_append, List.map_append, List.map_take, List.map_drop]
        rfl
      · rintro ρ w ⟨zs, s3, hz, rfl, rfl⟩
        have lz := hz.l1
        refine hb_if (tr_cmp (er_f1 2 X.Td r1 (ar_cons (er_v 0 rfl rfl) (ar_cons er_int ar_nil)) rfl (drawOk (s := s3) (L := 5) (by decide) (by decide))) er_int bop_eqI) (fun _ => ?_) (fun _ => ?_)
        · refine hb_pub 4 rfl hqs pub_lst ?_
          generalize drS s3 5 = s4
          have d2 := drR_lt (s := s4) (L := 2) (by decide)
          have ec : rLst (cutR (List.replicate (9 : Int).toNat (zs.map rRw)).flatten none (some (drR s4 2 * 9))) = rLst (((List.replicate 9 zs).flatten.take (drR s4 2 * 9).toNat).map rRw) := by
            rw [show (9 : Int).toNat = 9 from rfl, flat_map, show (drR s4 2 * 9) = (((drR s4 2 * 9).toNat : Nat) : Int) by omega, cut_some, List.map_take]
            rfl
          refine hb_setA (w1 := [(qn, oL (nm.map rStr)), (q, oPool (drS s4 2))]) 4 rfl (er_eq (er_slice (er_bin (er_v 4 rfl rfl) er_int (bop_rep (k := 9) (by decide) (by decide) (by rw [List.length_map]; show zs.length * 9 ≤ _; omega))) pr_none (pr_some (er_bin (er_f1 1 X.Td r1 (ar_cons (er_v 0 rfl rfl) (ar_cons er_int ar_nil)) rfl (drawOk (s := s4) (L := 2) (by decide) (by decide))) er_int (bop_mul (IntMulOk.of_right (by decide))))) sop_L) ec) ?_
          refine hb_nil (spoil_tail _ rfl hr X hqn nmk ⟨fun y hy => hz.rw y (flat_mem (List.mem_of_mem_take hy)), ?_⟩)
          rw [List.length_take]
          omega
        · refine hb_nil (hb_pub 4 rfl hqs pub_lst ?_)
          exact spoil_tail _ rfl hr X hqn nmk ⟨hz.rw, by omega⟩
end
end W1
set_option maxRecDepth 100000
set_option maxHeartbeats 4000000
set_option exponentiation.threshold 20000
namespace W1
open PySem PySem.Spec PyProof.Rows L2 NdefX TL NumText
section
variable {F : Fx} {ρ : Ty} {ω w w1 w2 : Ow} {e o it elt c : Expr} {es : List Expr} {A R : Rl} {As Rs Ss : List Rl} {K : Kn} {rest : List Stmt} {q : Addr} {pos p apos spos py : Pos} {x y : Str} {scope : Scope} {α β γ : Type}
theorem hb_setLsN {xs : List α} {A : α → Rl} {R : γ → Rl} (pr : β → α → Bool) (b1 b2 : β → α → β) (B : β → α → γ) (wf : β → Ow) (b0 : β) (l i : Nat) (hi : F.X.N[i]? = some x) (hpg : ∀ (s : Shared) (H : Hp) (C : Addr) (cl : List (Str × Addr)) (fp : List Addr), PG (F.X.blk s H scope (compEnvC scope cl C F.X.env) fp) (.Name x p) (gName i))
    (ok : BlkOk F.X.N F.X.env.scope scope [(x, i)]) (hit : IT F ρ ω (.Name x p) it (xs.map A) (wf b0)) (hz : xs.length ≤ 100000)
    (ht : ∀ b a, a ∈ xs → ∀ s H0 C cl fp d, TR (blkF F s H0 scope C cl fp) ((ρ.set i none).set i (some (A a))) (d :: wf b) c (pr b a) (d :: wf (b1 b a)))
    (he : ∀ b a, a ∈ xs → pr b a = true → ∀ s H0 C cl fp d, ER (blkF F s H0 scope C cl fp) ((ρ.set i none).set i (some (A a))) (d :: wf (b1 b a)) elt (R (B b a)) (d :: wf (b2 b a)))
    (hf : ∀ D, D ∉ F.M → HB F (ρ.set l (some (rRef D))) ((D, oL ((lcS pr b1 b2 B xs b0).1.map R)) :: wf (lcS pr b1 b2 B xs b0).2) rest K)
    (hN : F.X.N.Nodup) (hsw : swapsWith (.ListComp elt [⟨.Name x p, it, [c], 0⟩] scope pos) (some (.Name y py)) spos.line F.X.env = pure true) (hc : F.X.calm = true := by rfl) (hy : F.X.N[l]? = some y := by rfl) (hyl : F.X.env.scope.names.lookup y = some .local := by rfl) (hs : ∀ z, foldedSetIterable it F.X.env z = pure z := by intro _; rfl) :
    HB F ρ ω (.Assign [.Name y py] (.ListComp elt [⟨.Name x p, it, [c], 0⟩] scope pos) spos :: rest) K := hb_cons fun σ G H De at_ sl ps => by
  obtain ⟨wi, hpi, hwi⟩ := hit
  refine sw_of (ps_setLc hc hN hy hyl hsw hpi ok hpg (fun _ _ _ _ _ => pts_one (t := fun σ H Q => ∀ s H0 C cl fp, TW (F.X.blk s H0 scope (compEnvC scope cl C F.X.env) fp) c σ H Q) ⟨fun pins s σ H Q I h => h _ _ _ _ _ pins s I⟩) (te := fun σ H Q => ∀ s H0 C cl fp, EW (F.X.blk s H0 scope (compEnvC scope cl C F.X.env) fp) elt σ H Q) (fun _ _ _ _ _ => ⟨fun pins s σ H Q I h => h _ _ _ _ _ pins s I⟩) hs) ?_
  refine hwi σ G H at_ sl _ fun J G2 H2 s2 a2 y2 => fun D hD => ?_
  have hM : D ∉ F.M := fun hm => a2.mm D hm hD
  have hlen : (xs.map A).length = xs.length := List.length_map _
  -- what is done, the state, what is left
  refine ⟨fun j m H => m = xs.length - j ∧ j ≤ xs.length ∧ ∃ G b done, At F ((D, oL (done.map R)) :: wf b) G H ∧ Same G2 G ∧ done.length ≤ j ∧ lcS pr b1 b2 B xs b0 = (done ++ (lcS pr b1 b2 B (xs.drop j) b).1, (lcS pr b1 b2 B (xs.drop j) b).2),
    ⟨xs.length, by simp, Nat.zero_le _, G2, b0, ([] : List γ), a2.own (O := oL (([] : List γ).map R)) hD ⟨[], rfl, trivial⟩, Same.refl _, Nat.le_refl _, rfl⟩, ?_⟩
  rintro j m H1 ⟨rfl, hj, G1, b, done, a1, s1, hd, eq⟩
  by_cases hlt : j < xs.length
  · have hx : xs[j]? = some xs[j] := List.getElem?_eq_getElem hlt
    have hgo : (xs.map A)[j]? = some (A xs[j]) := by rw [List.getElem?_map, hx]; rfl
    have hdr : xs.drop j = xs[j] :: xs.drop (j + 1) := List.drop_eq_getElem_cons hlt
    have hm : xs[j] ∈ xs := List.getElem_mem hlt
    generalize xs[j] = a at hgo hdr hm
    rw [hdr, lcS_cons] at eq
    refine .inr ⟨y2.go j G1 H1 s1 a1.gh (by rw [hlen]; exact hlt), fun H' => ∃ G b done, At F ((D, oL (done.map R)) :: wf b) G H' ∧ Same G2 G ∧ done.length ≤ j + 1 ∧ lcS pr b1 b2 B xs b0 = (done ++ (lcS pr b1 b2 B (xs.drop (j + 1)) b).1, (lcS pr b1 b2 B (xs.drop (j + 1)) b).2), fun H' z => ⟨xs.length - (j + 1), by omega, rfl, hlt, z⟩, fun v H' y => ?_⟩
    obtain ⟨G3, st, rx⟩ := y2.yld j (A a) G1 H1 v H' s1 a1.gh hgo y
    have a3 := a1.step st
    have s3 := s1.trans st.gg
    refine gew_name v σ G3 H' _ a3.gh ((sl.up s2).up s3) rx fun σ2 hw sl2 => ⟨hw, ?_⟩
    intro s H0 C cl fp
    refine ht b a hm s H0 C cl fp (D, oL (done.map R)) σ2 G3 H' a3.to sl2 _ fun G4 H4 s4 a4' => ?_
    have a4 : At F ((D, oL (done.map R)) :: wf (b1 b a)) G4 H4 := At.to (F := blkF F s H0 scope C cl fp) (F' := F) a4'
    cases e : pr b a with
    | false =>
      rw [e, if_neg (by decide)] at eq
      rw [if_neg (by decide)]
      exact ⟨G4, b1 b a, done, a4, s3.trans s4, Nat.le_succ_of_le hd, eq⟩
    | true =>
      rw [e, if_pos rfl] at eq
      rw [if_pos rfl]
      intro s H0 C cl fp
      refine he b a hm e s H0 C cl fp (D, oL (done.map R)) σ2 G4 H4 a4.to (sl2.up s4) _ fun u G5 H5 s5 a5' r5 => ?_
      have a5 : At F ((D, oL (done.map R)) :: wf (b2 b a)) G5 H5 := At.to (F := blkF F s H0 scope C cl fp) (F' := F) a5'
      obtain ⟨_, _, ob, h1, vs, rfl, h2⟩ := a5.ow _ List.mem_cons_self
      have l2 := h2.len
      rw [List.length_map] at l2
      refine ⟨vs, h1, Nat.lt_of_le_of_lt (by omega : vs.length ≤ 100000) (by decide), G5, b2 b a, done ++ [B b a], a5.chg ⟨_, rfl, ?_⟩, (s3.trans s4).trans s5, by rw [List.length_append, List.length_singleton]; omega, ?_⟩
      · rw [List.map_append]
        exact h2.app (mk1 r5)
      · rw [eq, List.append_assoc]
        rfl
  · have ej : j = xs.length := by omega
    subst ej
    rw [List.drop_length] at eq
    have e2 : lcS pr b1 b2 B xs b0 = (done, b) := by
      rw [eq]
      show (done ++ [], b) = _
      rw [List.append_nil]
    simp only [e2] at hf
    refine .inl ⟨by have := y2.stop G1 H1 s1 a1.gh; rw [hlen] at this; exact this, ?_⟩
    have s7 := s2.trans s1
    exact hf D hM _ _ _ De a1 ((sl.up s7).set l rfl) (ps.up s7)
end
section
variable {F : Fx} {ρ : Ty} {ω w1 : Ow} {tg it elt c : Expr} {pos spos : Pos} {scope : Scope} {own : List (Str × Nat)} {g : TG} {ifs : List Expr} {α : Type}
/-- [elt for tg in it], as a new list -/
theorem en_lc {xs : List α} {A B : α → Rl} {ρ' : α → Ty} (hit : IT F ρ ω tg it (xs.map A) w1) (hz : xs.length ≤ 100000) (own : List (Str × Nat)) (ok : BlkOk F.X.N F.X.env.scope scope own)
    (hpg : ∀ (s : Shared) (H : Hp) (C : Addr) (cl : List (Str × Addr)) (fp : List Addr), PG (F.X.blk s H scope (compEnvC scope cl C F.X.env) fp) tg g) (hge : ∀ (i : Nat) a, xs[i]? = some a → GEw g (own.map (·.2)) ρ (A a) (ρ' a))
    (he : ∀ (i : Nat) a, xs[i]? = some a → ∀ s H0 C cl fp d, ER (blkF F s H0 scope C cl fp) (ρ' a) (d :: w1) elt (B a) (d :: w1))
    (hN : F.X.N.Nodup) (hc : F.X.calm = true := by rfl) (hs : ∀ z, foldedSetIterable it F.X.env z = pure z := by intro _; rfl) : EN F ρ ω (.ListComp elt [⟨tg, it, [], 0⟩] scope pos) (oL (xs.map B)) w1 := fun σ G H at_ sl Q q => by
  obtain ⟨wi, hpi, hwi⟩ := hit
  refine ew_of (pe_lc hc hN hpi ok hpg (fun _ _ _ _ _ => pts_nil) (te := fun σ H Q => ∀ s H0 C cl fp, EW (F.X.blk s H0 scope (compEnvC scope cl C F.X.env) fp) elt σ H Q) (fun _ _ _ _ _ => ⟨fun pins s σ H Q I h => h _ _ _ _ _ pins s I⟩) hs) ?_
  refine lc_genN (p := fun _ => true) (tt := tYes) hwi hz hge (fun i a h d σ2 G H a1 s1 Q q => q G H (Same.refl _) a1) (fun i a h _ => he i a h) at_ sl fun v G2 H2 hM s2 a2 => q v G2 H2 hM s2 ?_
  rw [filt_true] at a2
  exact a2
end
/-! ### some of the ways: what is due -/
def onlyA (gs : List Str) (ys : List Wy) (ns : List Int) : Ans := if ns.length = 0 then .enum 0 else match oErr ys.length none ns with | some a => .eway a | none => .book gs (ns.map (pick ys))
theorem onlyR_ans {C W : Addr} {gs : List Str} {ys : List Wy} {ns : List Int} : onlyR C W gs ys ns = ansR C W (onlyA gs ys ns) := by
  unfold onlyR onlyA
  by_cases h : ns.length = 0
  · rw [if_pos h, if_pos h]; rfl
  · rw [if_neg h, if_neg h]
    cases oErr ys.length none ns with
    | some a => rfl
    | none => exact book_srt
theorem oErr_len {n : Nat} : ∀ {ns : List Int} {b : Int}, oErr n (some b) ns = none → b < n → (ns.length : Int) + b < n
  | [], b, _, h => by show ((0 : Nat) : Int) + b < n; omega
  | a :: r, b, e, h => by
    unfold oErr at e
    split at e
    · rename_i ha
      dsimp only at e
      split at e
      · cases e
      · rename_i hab
        have hab : ¬ a ≤ b := fun z => hab (decide_eq_true z)
        have := oErr_len (ns := r) e ha.2
        rw [List.length_cons]
        omega
    · cases e
theorem oErr_all {n : Nat} : ∀ {ns : List Int} {b : Option Int}, oErr n b ns = none → ∀ a ∈ ns, 0 ≤ a ∧ a < n
  | [], _, _, a, h => by cases h
  | x :: r, b, e, a, h => by
    unfold oErr at e
    by_cases hx : 0 ≤ x ∧ x < n
    · rw [if_pos hx] at e
      have e2 : oErr n (some x) r = none := by
        cases b with
        | none => exact e
        | some b =>
          dsimp only at e
          by_cases q : decide (x ≤ b) = true
          · rw [if_pos q] at e; cases e
          · rw [if_neg q] at e; exact e
      rcases List.mem_cons.mp h with rfl | h
      · exact hx
      · exact oErr_all e2 a h
    · rw [if_neg hx] at e
      cases e
theorem oErr_few {n : Nat} {ns : List Int} (e : oErr n none ns = none) : ns.length ≤ n := by
  cases ns with
  | nil => exact Nat.zero_le _
  | cons a r =>
    unfold oErr at e
    split at e
    · rename_i ha
      dsimp only at e
      rw [if_neg (by decide)] at e
      have := oErr_len e ha.2
      rw [List.length_cons]
      omega
    · cases e
theorem FitB.some {gs gs2 : List Str} {ys : List Wy} {ns : List Int} (h : FitB gs ys) (hp : gs2.Perm gs) (h0 : ns.length ≠ 0) (e : oErr ys.length none ns = none) : FitB gs2 (ns.map (pick ys)) := by
  have hl := oErr_few e
  have h8 := h.gs.2.2.1.2
  refine h.sub hp (fun y hy => ?_) (by rw [List.length_map]; omega) (by rw [List.length_map]; omega)
  obtain ⟨a, ha, rfl⟩ := List.mem_map.mp hy
  have := oErr_all e a ha
  exact getD_in (by omega)
def pOnlyDue (C W : Addr) : Pre := fun Rs w o w' => ∃ gs ys ns, FitB gs ys ∧ ns.length ≤ 1000 ∧ Rs = [rLst (gs.map rStr), rLst (ys.map rRw), rLst (ns.map rInt)] ∧ w = [] ∧ w' = [] ∧ o = .ok (ansR C W (onlyA gs ys ns))
section
variable {P : Program} {w : World} {K : PySem.W.Frag} {mg : Str → Option Value} {base : Heap} {W C M N D U V f : Addr} {fd : FuncData}
theorem kf_onlydue (Fn : Fun K "_law_only_due" "_law_only_due" s__law_only_due f fd) (Tb : Kf1 P w K mg base "_law_book_of" 8 (pBookOf C W M N D U)) (len : mg "len" = none) (rg : mg "range" = none) : FnOk P w K mg base (L2.CX P w) 9 f fd P__law_only_due (spM (pOnlyDue C W)) := by
  refine fn_ok Fn c__law_only_due (fun _ _ _ _ ⟨_, _, _, _, _, h, _⟩ => by rw [h]; rfl) ?_
  rintro cdv A outer s0 H E ⟨_, G0, H0, M', W', tk⟩ hr rfl Rs ω o ω' ⟨gs, ys, ns, fit, ln, rfl, rfl, rfl, rfl⟩
  have nd := c__law_only_due.nd
  have r1 := hr.mono (show 1 ≤ 8 by decide)
  have ly := fit.gs.2.2.1.2
  have lr : ∀ {F : Fx} {w : Ow}, Cop F w (.builtin "len") [rLst (ys.map rRw)] (rInt ((ys.length : Nat) : Int)) := fun {F w} => by
    have := cop_lenL (F := F) (ω := w) (Rs := ys.map rRw)
    rw [List.length_map] at this
    exact this
  have lns : ∀ {F : Fx} {w : Ow}, Cop F w (.builtin "len") [rLst (ns.map rInt)] (rInt ((ns.length : Nat) : Int)) := fun {F w} => by
    have := cop_lenL (F := F) (ω := w) (Rs := ns.map rInt)
    rw [List.length_map] at this
    exact this
  have ip : ∀ {F : Fx} {w : Ow} (a : Nat), a < ns.length → Iop F w (rLst (ns.map rInt)) (rInt (a : Int)) (rInt (ns.getD a 0)) := fun {F w} a ha => by
    have := iop_pickM (F := F) (w := w) (A := rInt) (xs := ns) (i := (a : Int)) 0 (by omega) (by omega)
    rw [Int.toNat_natCast] at this
    exact this
  have e0 : decide (ns.map rInt = []) = decide (ns.length = 0) := by
    apply decide_eq_decide.mpr
    rw [List.map_eq_nil_iff, List.length_eq_zero_iff]
  refine hb_if (b := decide (ns.length = 0)) (tr_to (tr_cmp (er_v 2 rfl rfl) (er_lst (Rs := []) ar_nil (Nat.zero_le _)) (bop_eqE r1)) e0) (fun h => ?_) (fun h => hb_nil ?_)
  · have e : onlyA gs ys ns = .enum 0 := by unfold onlyA; rw [if_pos (of_decide_eq_true h)]
    rw [e]
    exact hb_ret (er_lst (ar_cons er_str (ar_cons er_int ar_nil)) (Nat.le_of_ble_eq_true rfl)) ⟨_, [], rfl, fun v G k => k, rfl⟩
  have h0 : ns.length ≠ 0 := of_decide_eq_false h
  have bad : ∀ {a : Int}, oErr ys.length none ns = some a → onlyA gs ys ns = .eway a := fun h => by unfold onlyA; rw [if_neg h0, h]
  refine hb_for (it_rng1 (ar_cons (er_bA (ar_cons (er_v 2 rfl rfl) ar_nil) len bt_len lns) ar_nil) rfl rg (by omega)) (fun k ρ w => w = [] ∧ oErr ys.length none ns = oErr ys.length (if k = 0 then none else some (ns.getD (k - 1) 0)) (ns.drop k) ∧ ∃ z, ρ = [some (rLst (gs.map rStr)), some (rLst (ys.map rRw)), some (rLst (ns.map rInt)), z, none]) ⟨rfl, rfl, none, rfl⟩ ?_ ?_ (passes_of rfl) (pg_name (i := 3) nd rfl (Or.inl rfl))
  · rintro k ρ w S hS ⟨rfl, hk, z, rfl⟩
    obtain ⟨kl, rfl⟩ := rng_get hS
    rw [Int.toNat_natCast] at kl
    rw [Int.zero_add]
    refine ⟨_, ge_name, ?_⟩
    rw [getD_at (d := 0) kl] at hk
    have ipk := @ip
    refine hb_if (PWR.tr (tr_or (tr_cmp (er_ix (er_v 2 rfl rfl) (er_v 3 rfl rfl) (ip k kl)) er_int bop_lt) fun _ => tr_or1 (tr_cmp (er_ix (er_v 2 rfl rfl) (er_v 3 rfl rfl) (ip k kl)) (er_bA (ar_cons (er_v 1 rfl rfl) ar_nil) len bt_len lr) bop_ge))) (fun h => ?_) (fun h => hb_nil ?_)
    · have hn : ¬ (0 ≤ ns.getD k 0 ∧ ns.getD k 0 < ys.length) := fun z => by
        rw [decide_eq_false (by omega), decide_eq_false (by omega)] at h
        cases h
      have e : onlyA gs ys ns = .eway (ns.getD k 0) := bad (by rw [hk]; unfold oErr; rw [if_neg hn])
      rw [e]
      exact hb_ret (er_lst (ar_cons er_str (ar_cons (er_ix (er_v 2 rfl rfl) (er_v 3 rfl rfl) (ip k kl)) ar_nil)) (Nat.le_of_ble_eq_true rfl)) ⟨_, [], rfl, fun v G k => k, rfl⟩
    have hin : 0 ≤ ns.getD k 0 ∧ ns.getD k 0 < ys.length := by
      rw [Bool.or_eq_false_iff] at h
      have h1 := of_decide_eq_false h.1
      have h2 := of_decide_eq_false h.2
      omega
    have nxt : oErr ys.length none ns = if (match (if k = 0 then (none : Option Int) else some (ns.getD (k - 1) 0)) with | some b => decide (ns.getD k 0 ≤ b) | none => false) = true then some (ns.getD k 0) else oErr ys.length (some (ns.getD k 0)) (ns.drop (k + 1)) := by
      rw [hk]
      conv => lhs; unfold oErr
      rw [if_pos hin]
      all_goals rfl
    cases k with
    | zero =>
      refine hb_if (b := false) (PWR.tr (tr_and (k := false) (m := false) (tr_cmp (er_v 3 rfl rfl) er_int bop_gt) fun z => Bool.noConfusion z)) (fun z => Bool.noConfusion z) (fun _ => hb_nil (hb_nil ⟨rfl, ?_, _, rfl⟩))
      rw [nxt]
      rfl
    | succ j =>
      have jl : j < ns.length := by omega
      have ij : ∀ {F : Fx} {w : Ow}, Iop F w (rLst (ns.map rInt)) (rInt (((j + 1 : Nat) : Int) - 1)) (rInt (ns.getD j 0)) := fun {F w} => by
        rw [show ((j + 1 : Nat) : Int) - 1 = (j : Int) by omega]
        exact ip j jl
      refine hb_if (b := decide (ns.getD (j + 1) 0 ≤ ns.getD j 0)) (PWR.tr (tr_and (k := true) (tr_to (tr_cmp (er_v 3 rfl rfl) er_int bop_gt) (decide_eq_true (by omega))) fun _ => tr_and1 (tr_cmp (er_ix (er_v 2 rfl rfl) (er_v 3 rfl rfl) (ip (j + 1) kl)) (er_ix (er_v 2 rfl rfl) (er_bin (er_v 3 rfl rfl) er_int bop_sub) ij) bop_le))) (fun h => ?_) (fun h => hb_nil (hb_nil ⟨rfl, ?_, _, rfl⟩))
      · have e : onlyA gs ys ns = .eway (ns.getD (j + 1) 0) := bad (by
          rw [nxt, if_neg (Nat.succ_ne_zero j)]
          show (if decide (ns.getD (j + 1) 0 ≤ ns.getD j 0) = true then _ else _) = _
          rw [if_pos h])
        rw [e]
        exact hb_ret (er_lst (ar_cons er_str (ar_cons (er_ix (er_v 2 rfl rfl) (er_v 3 rfl rfl) (ip (j + 1) kl)) ar_nil)) (Nat.le_of_ble_eq_true rfl)) ⟨_, [], rfl, fun v G k => k, rfl⟩
      · rw [nxt, if_neg (Nat.succ_ne_zero j), if_neg (Nat.succ_ne_zero (j + 1))]
        show (if decide (ns.getD (j + 1) 0 ≤ ns.getD j 0) = true then _ else _) = _
        rw [if_neg (by rw [h]; decide)]
        rfl
  · rintro ρ w ⟨rfl, hk, z, rfl⟩
    rw [rng_len, Int.toNat_natCast, List.drop_length] at hk
    have hk : oErr ys.length none ns = none := hk
    have e : onlyA gs ys ns = .book gs (ns.map (pick ys)) := by unfold onlyA; rw [if_neg h0, hk]
    rw [e]
    have f2 : FitB gs (ns.map (pick ys)) := fit.some (List.Perm.refl _) h0 hk
    have em : (ns.map (pick ys)).map rRw = ns.map fun a => rRw (pick ys a) := by rw [List.map_map]; rfl
    exact hb_ret (er_fA (R := rBook C W gs (ns.map (pick ys))) Tb hr (ar_cons (er_v 0 rfl rfl) (ar_cons (er_eq (er_lc1 (xs := ns) (A := rInt) (B := fun a => rRw (pick ys a)) 4 rfl (fun _ _ _ _ _ => pg_name (i := 4) nd rfl (Or.inl rfl)) (blkOk_by (N := N__law_only_due) (sc := defScope s__law_only_due) (by decide +kernel)) (it_lst (er_v 2 rfl rfl)) (by omega) (fun j a ha s1 H1 cc cl fp d => by
      have := oErr_all hk a (List.mem_of_getElem? ha)
      exact er_ix (er_v 1 rfl rfl) (er_v 4 rfl rfl) (iop_pickM (A := rRw) wy0 this.1 this.2)) nd) (congrArg rLst em.symm)) ar_nil)) ⟨gs, _, f2.bk, fun y hy => (f2.rw y hy).rw, rfl, rfl, rfl, (newB_ok f2).symm⟩) ⟨_, [], rfl, fun v G k => k, rfl⟩
end
end W1
set_option maxRecDepth 100000
set_option maxHeartbeats 4000000
set_option exponentiation.threshold 20000
namespace W1
open PySem PySem.Spec PyProof.Rows L2 NdefX TL NumText
/-! ### one way more, some ways -/
theorem bop_eqAns {F : Fx} {w : Ow} {C W : Addr} (X : CmpX F.X.prog F.X.w F.X.K F.X.mg F.X.base C W) (a : Ans) (hr : Room 5 F.X.A) : Bop F w (compareOp .Eq) (ansR C W a) (ansR C W a) (rBool true) := by
  have r1 := hr.mono (show 1 ≤ 5 by decide)
  have two : ∀ {x y : V}, flatV x = true → flatV y = true → eqV x x = true → eqV y y = true → Bop F w (compareOp .Eq) (rLst [rEqV x, rEqV y]) (rLst [rEqV x, rEqV y]) (rBool true) := fun {x y} h1 h2 h3 h4 => by
    refine list_same (xs := [x, y]) (fun z hz => ?_) (fun z hz => ?_) r1
    · rcases List.mem_cons.mp hz with rfl | hz
      · exact h1
      · rw [List.mem_singleton.mp hz]; exact h2
    · rcases List.mem_cons.mp hz with rfl | hz
      · exact h3
      · rw [List.mem_singleton.mp hz]; exact h4
  cases a with
  | way y =>
    have h := bop_oE (F := F) (w := w) (R := rBool (eqWy y y)) (B := rWy W y) X.Tw (hr.mono (by decide)) ⟨rfl, rfl, y.1, y.2.1, y.2.2, .inl ⟨y.1, y.2.1, y.2.2, rfl, rfl⟩⟩ tyr_ins X.fw
    rw [eqWy_refl] at h
    exact h
  | int i =>
    have h := bop_eqI (F := F) (ω := w) (i := i) (j := i)
    rw [decide_eq_true rfl] at h
    exact h
  | intl l =>
    show Bop F w _ (rLst (l.map rInt)) (rLst (l.map rInt)) _
    have e : l.map rInt = (l.map V.int).map rEqV := by rw [List.map_map]; rfl
    rw [e]
    refine list_same (fun z hz => ?_) (fun z hz => ?_) r1
    · obtain ⟨i, _, rfl⟩ := List.mem_map.mp hz; rfl
    · obtain ⟨i, _, rfl⟩ := List.mem_map.mp hz; exact eqV_int i
  | book gs ys =>
    have h := bop_oE (F := F) (w := w) (R := rBool (eqBk gs ys gs ys)) (B := rBook C W gs ys) X.Tb (hr.mono (by decide)) ⟨rfl, rfl, gs, ys, .inl ⟨gs, ys, fun _ => rfl, rfl, rfl⟩⟩ tyr_ins X.fb
    rw [eqBk_refl] at h
    exact h
  | eway i => exact two rfl rfl (eqV_str _) (eqV_int i)
  | eunk g => exact two rfl rfl (eqV_str _) (eqV_str _)
  | enum i => exact two rfl rfl (eqV_str _) (eqV_int i)
theorem fit_of {gs : List Str} {ys : List Wy} (G : Goods gs) (h0 : 0 < gs.length) (h4 : gs.length ≤ 4) (h : RowsK gs ys) : FitB gs ys :=
  ⟨bErr_of ⟨h0, h4⟩ G.nd (fun g hg => menu_name g (G.sub g hg)) ⟨h.l1, h.l8⟩ fun y hy => (h.row y hy).subg, fun y hy => (h.row y hy).g G, fun g hg => menu_len g (G.sub g hg)⟩
theorem wErr_app {gs : List Str} {y : Wy} : ∀ {ys : List Wy}, wErr gs ys = none → wErr gs (ys ++ [y]) = (lost gs y).map BE.unk
  | [], _ => by
    show wErr gs [y] = _
    unfold wErr
    cases lost gs y <;> rfl
  | x :: r, h => by
    show wErr gs (x :: (r ++ [y])) = _
    unfold wErr at h ⊢
    cases c : lost gs x with
    | some g => rw [c] at h; cases h
    | none =>
      rw [c] at h
      exact wErr_app (ys := r) h
theorem bErr_app {gs : List Str} {ys : List Wy} {y : Wy} (h : FitB gs ys) : bErr (srt gs) (ys ++ [y]) = if ys.length = 8 then some (.num 9) else (lost (srt gs) y).map BE.unk := by
  have hg := h.gs
  have f2 : FitB (srt gs) ys := h.sub (srt_perm gs) (fun _ z => z) hg.2.2.1.1 hg.2.2.1.2
  have h2 := f2.gs
  unfold bErr
  rw [if_pos h2.1, h2.2.1]
  dsimp only
  by_cases e : ys.length = 8
  · rw [if_pos e, if_neg (by rw [List.length_append, List.length_singleton]; omega), List.length_append, List.length_singleton, e]
    rfl
  · rw [if_neg e, if_pos (by rw [List.length_append, List.length_singleton]; omega), wErr_app h2.2.2.2]
theorem app_err {gs : List Str} {ys : List Wy} {y : Wy} (h : FitB gs ys) : ∀ e, bErr (srt gs) (ys ++ [y]) = some e → (∃ n, e = .num n) ∨ ∃ z, e = .unk z := fun e he => by
  rw [bErr_app h] at he
  split at he
  · cases he; exact .inl ⟨9, rfl⟩
  · cases c : lost (srt gs) y with
    | none => rw [c] at he; cases he
    | some z => rw [c] at he; cases he; exact .inr ⟨z, rfl⟩
theorem more_ok {C W : Addr} {gs : List Str} {ys : List Wy} {y : Wy} (h : FitB gs ys) (hl : lost (srt gs) y = none) : moreR C W gs ys y = ansR C W (if ys.length = 8 then .enum 9 else .book gs (ys ++ [y])) := by
  unfold moreR
  rw [bErr_app h, hl]
  by_cases e : ys.length = 8
  · rw [if_pos e, if_pos e]; rfl
  · rw [if_neg e, if_neg e, if_neg e]
    exact book_srt
theorem more_no {C W : Addr} {gs : List Str} {ys : List Wy} {y : Wy} {z : Str} (h : FitB gs ys) (hl : lost (srt gs) y = some z) : moreR C W gs ys y = ansR C W (if ys.length = 8 then .enum 9 else .eunk z) := by
  unfold moreR
  rw [bErr_app h, hl]
  by_cases e : ys.length = 8
  · rw [if_pos e, if_pos e]; rfl
  · rw [if_neg e, if_neg e, if_neg e]; rfl
abbrev rowY (g : Str) : Wy := ([(Str.ofString "zz", 1)], 1, [(g, 1)])
theorem rowY_ok {g : Str} (hg : g ∈ menuN) : RwG (rowY g) := by
  have one : ∀ {x : Str}, AmI [x] [(x, (1 : Int))] := fun {x} => by
    refine ⟨by simp [namesA], fun y hy => hy, fun p hp => ?_⟩
    rw [List.mem_singleton.mp hp]
    exact (show (0 : Int) ≤ 1 ∧ (1 : Int) ≤ 10 ^ 20 by decide)
  have n1 : ∀ x ∈ [Str.ofString "zz"], nameL (tl x) = true ∧ x.length ≤ 640 := by decide +kernel
  have n2 : ∀ x ∈ [g], nameL (tl x) = true ∧ x.length ≤ 640 := fun x hx => by
    rw [List.mem_singleton.mp hx]
    exact ⟨menu_name g hg, menu_len g hg⟩
  obtain ⟨a1, c1⟩ := amI_g (one (x := Str.ofString "zz")) (by show 1 < 64; omega) n1
  obtain ⟨a2, c2⟩ := amI_g (one (x := g)) (by show 1 < 64; omega) n2
  refine ⟨⟨a1, a2, by show (1 : Int).natAbs.log2 < 1920; decide, ?_⟩, ⟨by show 1 + 1 < 60; omega, fun x hx => ?_⟩⟩
  · show wayE _ 1 _ = none
    unfold wayE
    rw [c1]
    dsimp only
    rw [c2]
    dsimp only
    rw [if_neg (by decide), if_neg]
    refine kept_ne2 (g := g) ?_
    show 0 < valA [(g, 1)] g
    unfold valA
    simp
  · rcases mem_goodsW.mp hx with h | h
    · exact (n1 x (one.sub _ (names_kept.mp h).1)).2
    · exact (n2 x (one.sub _ (names_kept.mp h).1)).2
theorem rowY_lost {gs : List Str} {g : Str} (G : Goods gs) (hg : g ∈ gs) : lost (srt gs) (rowY g) = some (Str.ofString "zz") := by
  have hz : Str.ofString "zz" ∉ srt gs := fun h => by
    have h1 := G.sub _ (srt_mem h)
    have : Str.ofString "zz" ∉ menuN := by decide +kernel
    exact this h1
  have hv : 0 < valA [(Str.ofString "zz", (1 : Int))] (Str.ofString "zz") := by
    unfold valA
    simp
  have hm : Str.ofString "zz" ∈ goodsW (rowY g).1 (rowY g).2.2 := mem_goodsW.mpr (.inl (names_kept.mpr ⟨by simp [namesA], hv⟩))
  cases c : lost (srt gs) (rowY g) with
  | none =>
    unfold lost at c
    rw [List.find?_eq_none] at c
    have := c _ hm
    rw [decide_eq_false hz] at this
    exact absurd rfl this
  | some x =>
    unfold lost at c
    have h1 := List.find?_some c
    have h2 := List.mem_of_find?_eq_some c
    have hx : x ∉ srt gs := by simpa using h1
    rcases mem_goodsW.mp h2 with h | h
    · have := (names_kept.mp h).1
      rw [List.mem_singleton.mp this]
    · have := (names_kept.mp h).1
      exact absurd (srt_mem_iff.mpr (by rw [List.mem_singleton.mp this]; exact hg)) hx
theorem lcS_mem {α β γ : Type} {p : β → α → Bool} {b1 b2 : β → α → β} {B : β → α → γ} {Q : γ → Prop} : ∀ {xs : List α} {b : β}, (∀ b, ∀ a ∈ xs, Q (B b a)) → ∀ y ∈ (lcS p b1 b2 B xs b).1, Q y
  | [], _, _, y, hy => by cases hy
  | a :: xs, b, h, y, hy => by
    rw [lcS_cons] at hy
    have h2 : ∀ b, ∀ a ∈ xs, Q (B b a) := fun b a ha => h b a (List.mem_cons_of_mem _ ha)
    split at hy
    · rcases List.mem_cons.mp hy with rfl | hy
      · exact h b a List.mem_cons_self
      · exact lcS_mem h2 y hy
    · exact lcS_mem h2 y hy
def pPartsB (C W : Addr) : Pre := fun Rs w o w' => ∃ q s gs ys, Goods gs ∧ 0 < gs.length ∧ gs.length ≤ 4 ∧ RowsK gs ys ∧ Rs = [rRef q, rLst (gs.map rStr), rLst (ys.map rRw), rBook C W gs ys] ∧ w = [(q, oPool s)] ∧ w' = [(q, oAny)] ∧ o = .ok (rBool true)
structure PtX (P : Program) (w : World) (K : PySem.W.Frag) (mg : Str → Option Value) (base : Heap) (C W M N D U : Addr) : Prop where
  XC : CmpX P w K mg base C W
  Td : Kf1 P w K mg base "_law_draw" 1 pDraw
  Tr : Kf1 P w K mg base "_law_row_of" 3 pRow
  Tw : Kc P w K mg base W "Way" 6 (pWayI W N M)
  Tb : Kf1 P w K mg base "_law_book_of" 8 (pBookOf C W M N D U)
  Tm : Kf1 P w K mg base "_law_more_of" 8 (pMoreB C W)
  To : Kf1 P w K mg base "_law_only" 8 (pOnlyB C W)
  Tu : Kf1 P w K mg base "_law_only_due" 9 (pOnlyDue C W)
  len : mg "len" = none
  rg : mg "range" = none
  tu : mg "tuple" = none
section
variable {P : Program} {w : World} {K : PySem.W.Frag} {mg : Str → Option Value} {base : Heap} {W C M N D U V f : Addr} {fd : FuncData}
/-- the last two statements -/
theorem parts_end {cdv : Value} {A : Around} {outer : List Env} {s0 : Shared} {H : Hp} {E : XK} (F : Fx) (hX : F.X = cxOf (L2.CX P w) P w K mg base N__law_parts_fit "_law_parts_fit" (defScope s__law_parts_fit) f cdv A outer s0 H E) (hr : Room 9 F.X.A) (X : PtX P w K mg base C W M N D U)
    {q qn : Addr} (hqn : qn ∉ F.M) {s : Pool} {gs : List Str} {ys : List Wy} {ns : List Int} {z4 z5 z6 : Option Rl} (fit : FitB gs ys) (hn : ∀ a ∈ ns, a.natAbs ≤ 10 ^ 20) (ln : ns.length ≤ 1000) :
    HB F [some (rRef q), some (rLst (gs.map rStr)), some (rLst (ys.map rRw)), some (rBook C W gs ys), z4, z5, z6, some (rRef qn), none] [(qn, oL (ns.map rInt)), (q, oPool s)] ((defBody s__law_parts_fit).drop 8) (Kf (.ok (rBool true)) [(q, oAny)]) := by
  obtain ⟨_, G0, H0, M', Wd, tk⟩ := F
  cases hX
  have nd := c__law_parts_fit.nd
  have r8 := hr.mono (show 8 ≤ 9 by decide)
  have r5 := hr.mono (show 5 ≤ 9 by decide)
  have fg := fit.gs
  refine hb_pub 7 rfl hqn pub_lst ?_
  refine hb_setA 5 rfl (er_fA (R := ansR C W (onlyA gs ys ns)) X.Tu hr (ar_cons (er_v 1 rfl rfl) (ar_cons (er_v 2 rfl rfl) (ar_cons (er_v 7 rfl rfl) ar_nil))) ⟨gs, ys, ns, fit, ln, rfl, rfl, rfl, rfl⟩) ?_
  have po : ∀ {A1 : Rl}, SVar A1 [] (ns.map rInt) → pOnlyB C W [rBook C W gs ys, A1] [] (.ok (ansR C W (onlyA gs ys ns))) [] := fun {A1} h => ⟨gs, ys, A1, ns, fit.bk, fg.2.2.1.2, fun a ha => small_log (hn a ha), ln, h, fun h0 e => (fit.some (srt_perm gs) h0 e).ok, rfl, rfl, rfl, by rw [onlyR_ans]⟩
  exact hb_any (hb_ret (er_and (k := true) (m := true) (er_cmp (er_fA X.To r8 (ar_cons (er_v 3 rfl rfl) (ar_cons (er_v 7 rfl rfl) ar_nil)) (po (.inl ⟨rfl, rfl⟩))) (er_v 5 rfl rfl) (bop_eqAns X.XC _ r5)) fun _ => er_one (er_cmp (er_fA X.To r8 (ar_cons (er_v 3 rfl rfl) (ar_cons (er_tA (ar_cons (er_v 7 rfl rfl) ar_nil) X.tu bt_tuple cop_tupL) ar_nil)) (po (.inr (.inl ⟨rfl, rfl⟩)))) (er_v 5 rfl rfl) (bop_eqAns X.XC _ r5))) ⟨_, [], rfl, fun v G h => h, rfl⟩)
theorem parts_mid {cdv : Value} {A : Around} {outer : List Env} {s0 : Shared} {H : Hp} {E : XK} (F : Fx) (hX : F.X = cxOf (L2.CX P w) P w K mg base N__law_parts_fit "_law_parts_fit" (defScope s__law_parts_fit) f cdv A outer s0 H E) (hr : Room 9 F.X.A) (X : PtX P w K mg base C W M N D U)
    {q : Addr} {s : Pool} {gs : List Str} {ys : List Wy} {y : Wy} (G : Goods gs) (h0 : 0 < gs.length) (h4 : gs.length ≤ 4) (hK : RowsK gs ys) (hy : RowK gs y) {a : Ans} (ha : moreR C W gs ys y = ansR C W a) :
    HB F [some (rRef q), some (rLst (gs.map rStr)), some (rLst (ys.map rRw)), some (rBook C W gs ys), some (rRw y), some (ansR C W a), none, none, none] [(q, oPool s)] ((defBody s__law_parts_fit).drop 3) (Kf (.ok (rBool true)) [(q, oAny)]) := by
  obtain ⟨_, G0, H0, M', Wd, tk⟩ := F
  cases hX
  have nd := c__law_parts_fit.nd
  have r8 := hr.mono (show 8 ≤ 9 by decide)
  have r7 := hr.mono (show 7 ≤ 9 by decide)
  have r5 := hr.mono (show 5 ≤ 9 by decide)
  have r1 := hr.mono (show 1 ≤ 9 by decide)
  have fit := fit_of G h0 h4 hK
  have l8 := hK.l8
  have lr : ∀ {F : Fx} {w : Ow}, Cop F w (.builtin "len") [rLst (ys.map rRw)] (rInt ((ys.length : Nat) : Int)) := fun {F w} => by
    have := cop_lenL (F := F) (ω := w) (Rs := ys.map rRw)
    rw [List.length_map] at this
    exact this
  have mk : ∀ {F : Fx} {ρ : Ty} {ω w1 : Ow} {e1 e2 e3 : Expr} {z : Wy} {p pos : Pos}, Kc F.X.prog F.X.w F.X.K F.X.mg F.X.base W "Way" 6 (pWayI W N M) → Room 7 F.X.A → AR F ρ ω [e1, e2, e3] [rDct (fsA z.1), rInt z.2.1, rDct (fsA z.2.2)] w1 → RwG z → Gl F.X "Way" → starEach [e1, e2, e3] F.X.env = (false, eval e1 F.X.env) :: starEach [e2, e3] F.X.env → (backTo pos (starEach [e2, e3] F.X.env)).any (·.1) = false → ER F ρ ω (.Call (.Name "Way" p) [e1, e2, e3] [] pos) (rWy W z) w1 := fun T hr ha r hg he hpl =>
    er_cS (wc := []) (fs := wayF _ _ _) T hr ha Sub.nil (fun q => ⟨q, _, _, [], _, _, [], _, .inl ⟨rfl, rfl⟩, .inl ⟨rfl, rfl⟩, r.rw.g1, r.rw.g2, r.rw.hh, rfl, rfl, by rw [r.rw.ok]; exact ⟨rfl, rfl⟩⟩) hg (by decide) he hpl
  have rg := hy.g G
  refine hb_if (b := false) (tr_cmp (er_fA (R := ansR C W a) X.Tm r8 (ar_cons (er_v 3 rfl rfl) (ar_cons (mk (z := y) X.Tw r7 (ar_cons (er_ix (er_v 4 rfl rfl) er_int (iop_L (n := 0) rfl rfl)) (ar_cons (er_ix (er_v 4 rfl rfl) er_int (iop_L (n := 1) rfl rfl)) (ar_cons (er_ix (er_v 4 rfl rfl) er_int (iop_L (n := 2) rfl rfl)) ar_nil))) rg rfl rfl rfl) ar_nil)) ⟨gs, ys, y, fit.bk, l8, rg.wy, app_err fit, rfl, rfl, rfl, by rw [ha]⟩) (er_v 5 rfl rfl) (bop_neAns X.XC a r5)) (fun z => Bool.noConfusion z) (fun _ => hb_nil ?_)
  have hgm : gs.getD (0 : Int).toNat Str.empty ∈ gs := getD_in h0
  generalize hgg : gs.getD (0 : Int).toNat Str.empty = g0 at hgm
  have ig : ∀ {F : Fx} {w : Ow}, Iop F w (rLst (gs.map rStr)) (rInt 0) (rStr g0) := fun {F w} => by
    rw [← hgg]
    exact iop_pickM (A := rStr) (i := 0) Str.empty (by decide) (by omega)
  have ha2 := more_no (C := C) (W := W) fit (rowY_lost G hgm)
  have ry := rowY_ok (G.sub _ hgm)
  refine hb_setA (w1 := [(q, oPool s)]) (R := ansR C W (if ys.length = 8 then .enum 9 else .eunk (Str.ofString "zz"))) 6 rfl (er_ifx (k := decide ((ys.length : Int) = 8)) (tr_cmp (er_bA (ar_cons (er_v 2 rfl rfl) ar_nil) X.len bt_len lr) er_int bop_eqI) (fun h => ?_) (fun h => ?_)) ?_
  · rw [if_pos (by have := of_decide_eq_true h; omega)]
    exact er_lst (Rs := [rStr (Str.ofString "number"), rInt 9]) (ar_cons er_str (ar_cons er_int ar_nil)) (Nat.le_of_ble_eq_true rfl)
  · rw [if_neg (by have := of_decide_eq_false h; omega)]
    exact er_lst (Rs := [rStr (Str.ofString "unknown"), rStr (Str.ofString "zz")]) (ar_cons er_str (ar_cons er_str ar_nil)) (Nat.le_of_ble_eq_true rfl)
  generalize (if ys.length = 8 then Ans.enum 9 else .eunk (Str.ofString "zz")) = a2 at ha2
  refine hb_if (b := false) (tr_cmp (er_fA (R := ansR C W a2) X.Tm r8 (ar_cons (er_v 3 rfl rfl) (ar_cons (er_cS (wc := []) (fs := wayF (rowY g0).1 (rowY g0).2.1 (rowY g0).2.2) X.Tw r7 (ar_cons (er_frz (en_disp1 (k := .inr (Str.ofString "zz")) (R := rInt 1) (fun _ => er_str) (fun _ => er_int))) (ar_cons er_int (ar_cons (er_frz (en_disp1 (k := .inr g0) (R := rInt 1) (fun _ => er_ix (er_v 1 rfl rfl) er_int ig) (fun _ => er_int))) ar_nil))) Sub.nil fun q => ⟨q, _, (rowY g0).1, [], _, (rowY g0).2.2, [], _, .inl ⟨rfl, rfl⟩, .inl ⟨rfl, rfl⟩, ry.rw.g1, ry.rw.g2, ry.rw.hh, rfl, rfl, by rw [ry.rw.ok]; exact ⟨rfl, rfl⟩⟩) ar_nil)) ⟨gs, ys, rowY g0, fit.bk, l8, ry.wy, app_err fit, rfl, rfl, rfl, by rw [ha2]⟩) (er_v 6 rfl rfl) (bop_neAns X.XC a2 r5)) (fun z => Bool.noConfusion z) (fun _ => hb_nil ?_)
  have er : rng 0 ((ys.length : Nat) : Int).toNat = (List.range ys.length).map fun k : Nat => rInt (0 + (k : Int)) := by
    rw [rng_map, Int.toNat_natCast]
  refine hb_setLsN (xs := List.range ys.length) (A := fun k : Nat => rInt (0 + (k : Int))) (R := rInt) (fun (b : Pool) (_ : Nat) => decide (drR b 2 = 0)) (fun b _ => drS b 2) (fun b _ => drS b 2) (fun _ k => 0 + (k : Int)) (fun b => [(q, oPool b)]) s 7 8 rfl (fun _ _ _ _ _ => pg_name (i := 8) nd rfl (Or.inl rfl)) (blkOk_by (N := N__law_parts_fit) (sc := defScope s__law_parts_fit) (by decide +kernel))
    (by rw [← er]; exact it_rng1 (ar_cons (er_bA (ar_cons (er_v 2 rfl rfl) ar_nil) X.len bt_len lr) ar_nil) rfl X.rg (by omega)) (by rw [List.length_range]; omega) (fun b k hk s1 H1 cc cl fp d => tr_cmp (er_f1 1 X.Td r1 (ar_cons (er_v 0 rfl rfl) (ar_cons er_int ar_nil)) rfl (drawOk (s := b) (L := 2) (by decide) (by decide))) er_int bop_eqI) (fun b k hk _ s1 H1 cc cl fp d => er_v 8 rfl rfl) (fun qn hqn => ?_) nd (by rfl)
  have hl := lcS_len (p := fun (b : Pool) (_ : Nat) => decide (drR b 2 = 0)) (b1 := fun b _ => drS b 2) (b2 := fun b _ => drS b 2) (B := fun _ k => 0 + (k : Int)) (List.range ys.length) s
  have hm := lcS_mem (p := fun (b : Pool) (_ : Nat) => decide (drR b 2 = 0)) (b1 := fun b _ => drS b 2) (b2 := fun b _ => drS b 2) (B := fun _ k => 0 + (k : Int)) (Q := fun a : Int => a.natAbs ≤ 10 ^ 20) (xs := List.range ys.length) (b := s) (fun b k hk => by
    have := List.mem_range.mp hk
    show (0 + (k : Int)).natAbs ≤ 10 ^ 20
    omega)
  generalize lcS (fun (b : Pool) (_ : Nat) => decide (drR b 2 = 0)) (fun b _ => drS b 2) (fun b _ => drS b 2) (fun _ k => 0 + (k : Int)) (List.range ys.length) s = z at hl hm
  obtain ⟨ns, s2⟩ := z
  dsimp only at hl hm ⊢
  rw [List.length_range] at hl
  refine hb_if (tr_cmp (er_f1 1 X.Td r1 (ar_cons (er_v 0 rfl rfl) (ar_cons er_int ar_nil)) rfl (drawOk (s := s2) (L := 3) (by decide) (by decide))) er_int bop_eqI) (fun _ => ?_) (fun _ => hb_nil ?_)
  · generalize drS s2 3 = s3
    have dn := drR_lt (s := s3) (L := (ns.length : Int) + 1) (by omega)
    have dr := drR_lt (s := drS s3 ((ns.length : Int) + 1)) (L := (ys.length : Int) + 2) (by omega)
    have lo : ∀ {F : Fx} {s : Pool}, Cop F [(qn, oL (ns.map rInt)), (q, oPool s)] (.builtin "len") [rRef qn] (rInt ((ns.length : Nat) : Int)) := fun {F s} => by
      have := cop_lenO (F := F) (w := [(qn, oL (ns.map rInt)), (q, oPool s)]) (q := qn) (Rs := ns.map rInt) List.mem_cons_self
      rw [List.length_map] at this
      exact this
    refine hb_insert (Rs := ns.map rInt) (R := rInt (drR (drS s3 ((ns.length : Int) + 1)) ((ys.length : Int) + 2) - 1)) (i := drR s3 ((ns.length : Int) + 1)) (w2 := [(q, oPool (drS (drS s3 ((ns.length : Int) + 1)) ((ys.length : Int) + 2)))]) (er_v 7 rfl rfl) List.mem_cons_self
      (ar_cons (er_f1 1 X.Td r1 (ar_cons (er_v 0 rfl rfl) (ar_cons (er_bin (er_bA (ar_cons (er_v 7 rfl rfl) ar_nil) X.len bt_len lo) er_int bop_add) ar_nil)) rfl (drawOk (s := s3) (L := (ns.length : Int) + 1) (by omega) (Nat.lt_of_le_of_lt (by omega : ((ns.length : Int) + 1).natAbs ≤ 10) (by decide))))
      (ar_cons (er_bin (er_f1 1 X.Td r1 (ar_cons (er_v 0 rfl rfl) (ar_cons (er_bin (er_bA (ar_cons (er_v 2 rfl rfl) ar_nil) X.len bt_len lr) er_int bop_add) ar_nil)) rfl (drawOk (s := drS s3 ((ns.length : Int) + 1)) (L := (ys.length : Int) + 2) (by omega) (Nat.lt_of_le_of_lt (by omega : ((ys.length : Int) + 2).natAbs ≤ 10) (by decide)))) er_int bop_sub) ar_nil)) dn.1 (by omega) (by rw [List.length_map]; omega) ?_
    have em : (ns.map rInt).take (drR s3 ((ns.length : Int) + 1)).toNat ++ [rInt (drR (drS s3 ((ns.length : Int) + 1)) ((ys.length : Int) + 2) - 1)] ++ (ns.map rInt).drop (drR s3 ((ns.length : Int) + 1)).toNat = (ns.take (drR s3 ((ns.length : Int) + 1)).toNat ++ [drR (drS s3 ((ns.length : Int) + 1)) ((ys.length : Int) + 2) - 1] ++ ns.drop (drR s3 ((ns.length : Int) + 1)).toNat).map rInt := by
      rw [List.map_append, List.map_append, List.map_take, List.map_drop]
      rfl
    rw [em]
    refine hb_nil (parts_end _ rfl hr X hqn fit (fun b hb => ?_) ?_)
    · rcases List.mem_append.mp hb with hb | hb
      · rcases List.mem_append.mp hb with hb | hb
        · exact hm b (List.mem_of_mem_take hb)
        · rw [List.mem_singleton.mp hb]
          exact Nat.le_trans (by omega : _ ≤ 10) (by decide)
      · exact hm b (List.mem_of_mem_drop hb)
    · rw [List.length_append, List.length_append, List.length_singleton, List.length_take, List.length_drop]
      omega
  · exact parts_end _ rfl hr X hqn fit hm (by omega)
theorem kf_partsb (Fn : Fun K "_law_parts_fit" "_law_parts_fit" s__law_parts_fit f fd) (X : PtX P w K mg base C W M N D U) : FnOk P w K mg base (L2.CX P w) 10 f fd P__law_parts_fit (spM (pPartsB C W)) := by
  refine fn_ok Fn c__law_parts_fit (fun _ _ _ _ ⟨_, _, _, _, _, _, _, _, h, _⟩ => by rw [h]; rfl) ?_
  rintro cdv A outer s0 H E ⟨_, G0, H0, M', W', tk⟩ hr rfl Rs ω o ω' ⟨q, s, gs, ys, G, h0, h4, hK, rfl, rfl, rfl, rfl⟩
  have nd := c__law_parts_fit.nd
  have r3 := hr.mono (show 3 ≤ 9 by decide)
  have r8 := hr.mono (show 8 ≤ 9 by decide)
  have fit := fit_of G h0 h4 hK
  have l8 := hK.l8
  have l1 := hK.l1
  have lr : ∀ {F : Fx} {w : Ow}, Cop F w (.builtin "len") [rLst (ys.map rRw)] (rInt ((ys.length : Nat) : Int)) := fun {F w} => by
    have := cop_lenL (F := F) (ω := w) (Rs := ys.map rRw)
    rw [List.length_map] at this
    exact this
  have hy : RowK gs (rowF gs false s).1 := rowK_of h0
  refine hb_setA 4 rfl (er_f1 0 X.Tr r3 (ar_cons (er_v 0 rfl rfl) (ar_cons (er_v 1 rfl rfl) (ar_cons er_bl ar_nil))) rfl ⟨q, gs, false, s, h0, by omega, G.nd, rfl, rfl, rfl, rfl⟩) ?_
  generalize (rowF gs false s).1 = y at hy
  generalize (rowF gs false s).2 = s2
  have hl : lost (srt gs) y = none := by
    unfold lost
    rw [List.find?_eq_none]
    intro g hg
    rw [decide_eq_true (srt_mem_iff.mpr (hy.subg g hg))]
    decide
  have hmo := more_ok (C := C) (W := W) fit hl
  refine hb_setA 5 rfl (er_lst (Rs := [rStr (Str.ofString "number"), rInt 9]) (ar_cons er_str (ar_cons er_int ar_nil)) (Nat.le_of_ble_eq_true rfl)) ?_
  refine hb_if (tr_cmp (er_bA (ar_cons (er_v 2 rfl rfl) ar_nil) X.len bt_len lr) er_int bop_lt) (fun h => ?_) (fun h => hb_nil ?_)
  · have h8 : ys.length ≠ 8 := by have := of_decide_eq_true h; omega
    rw [if_neg h8] at hmo
    have f2 : FitB gs (ys ++ [y]) := ⟨bErr_of ⟨h0, h4⟩ G.nd (fun g hg => menu_name g (G.sub g hg)) (by rw [List.length_append, List.length_singleton]; omega) (mem_snoc (fun y hy => (hK.row y hy).subg) hy.subg), mem_snoc fit.rw (hy.g G), fit.nm⟩
    refine hb_setA 5 rfl (er_fA (R := rBook C W gs (ys ++ [y])) X.Tb r8 (ar_cons (er_v 1 rfl rfl) (ar_cons (er_eq (S := rLst ((ys ++ [y]).map rRw)) (er_bin (er_v 2 rfl rfl) (er_lst (Rs := [rRw y]) (ar_cons (er_v 4 rfl rfl) ar_nil) (Nat.le_of_ble_eq_true rfl)) (bop_cat (by rw [List.length_map, List.length_singleton]; omega))) (by rw [List.map_append]; rfl)) ar_nil)) ⟨gs, _, f2.bk, fun y hy => (f2.rw y hy).rw, rfl, rfl, rfl, (newB_ok f2).symm⟩) ?_
    exact hb_nil (parts_mid _ rfl hr X (a := .book gs (ys ++ [y])) G h0 h4 hK hy hmo)
  · have h8 : ys.length = 8 := by have := of_decide_eq_false h; omega
    rw [if_pos h8] at hmo
    exact parts_mid _ rfl hr X (a := .enum 9) G h0 h4 hK hy hmo
end
end W1
set_option maxRecDepth 100000
set_option maxHeartbeats 4000000
set_option exponentiation.threshold 20000
namespace W1
open PySem PySem.Spec PyProof.Rows L2 NdefX TL NumText
theorem cut_mem {xs : List V} {lo hi : Option Int} {x : V} (h : x ∈ cutV xs lo hi) : x ∈ xs := by
  unfold cutV at h
  exact List.mem_of_mem_drop (List.mem_of_mem_take h)
theorem cut_len2 (xs : List V) (lo hi : Option Int) : (cutV xs lo hi).length ≤ xs.length := by
  unfold cutV
  rw [List.length_take, List.length_drop]
  omega
def pLaw (K : PySem.W.Frag) : Pre := pOk (α := List Int) (fun ns => ns.length ≤ 63) (fun ns => [rScr K (ns.map V.int)]) (fun _ => rBool true)
/-! ### the law -/
structure PairOk (gs : List Str) (ys : List Wy) : Prop where
  G : Goods gs
  h0 : 0 < gs.length
  h4 : gs.length ≤ 4
  R : RowsK gs ys
theorem PairOk.fit {gs : List Str} {ys : List Wy} (h : PairOk gs ys) : FitB gs ys := fit_of h.G h.h0 h.h4 h.R
def rPair (C W : Addr) (gs : List Str) (ys : List Wy) : Rl := rLst [rLst (gs.map rStr), rLst (ys.map rRw), rBook C W gs ys]
structure LwX (P : Program) (w : World) (K : PySem.W.Frag) (mg : Str → Option Value) (base : Heap) (C W M N D U V : Addr) : Prop where
  XC : CmpX P w K mg base C W
  BX : BookX K mg C
  Tbag : KfN1 P w K mg base "_law_bag" 1 pBag
  Tat : Kf1 P w K mg base "_law_at_of" 1 (pAt K)
  Td : Kf1 P w K mg base "_law_draw" 1 pDraw
  Tlab : KfN1 P w K mg base "_law_labels" 2 pLab
  Trows : Kf1 P w K mg base "_law_rows_of" 4 pRows
  Tw : Kc P w K mg base W "Way" 6 (pWayI W N M)
  Tb : Kc P w K mg base C "Book" 5 (pBookI C W M N D U)
  Tbo : Kf1 P w K mg base "_law_book_of" 8 (pBookOf C W M N D U)
  Tway : Km P w K mg base C "way" 3 (pBWay C W V)
  Tf : Kf1 P w K mg base "_law_fits" 10 (pFitsB C W)
  Ts : Kf1 P w K mg base "_law_spoils_fit" 11 pSpoilB
  Tp : Kf1 P w K mg base "_law_parts_fit" 10 (pPartsB C W)
  len : mg "len" = none
  rg : mg "range" = none
  ls : mg "list" = none
  nfl : PySem.W.notFirst K C (.type "list") = true
theorem srt_same {xs ys : List Str} (h : xs.Perm ys) : srt xs = srt ys :=
  List.Perm.eq_of_pairwise (le := fun a b => leS a b = true) (fun a b _ _ h1 h2 => leS_anti h1 h2) (srt_pair _) (srt_pair _) (((srt_perm xs).trans h).trans (srt_perm ys).symm)
section
variable {P : Program} {w : World} {K : PySem.W.Frag} {mg : Str → Option Value} {base : Heap} {W C M N D U V f : Addr} {fd : FuncData}
/-- the last statements -/
theorem law_end {cdv : Value} {A : Around} {outer : List Env} {s0 : Shared} {H : Hp} {E : XK} (F : Fx) (hX : F.X = cxOf (L2.CX P w) P w K mg base N_law "law" (defScope s_law) f cdv A outer s0 H E) (hr : Room 11 F.X.A) (X : LwX P w K mg base C W M N D U V)
    {gs : List Str} {ys : List Wy} {R1 : Rl} {z0 z1 z3 z4 z5 z6 z8 z9 : Option Rl} (ok : PairOk gs ys) :
    HB F [z0, z1, some (rLst [rPair C W gs ys, R1]), z3, z4, z5, z6, none, z8, z9] [] ((defBody s_law).drop 4) (Kf (.ok (rBool true)) []) := by
  obtain ⟨_, G0, H0, M', Wd, tk⟩ := F
  cases hX
  have nd := c_law.nd
  have cl := X.BX.cx.cls
  have r8 := hr.mono (show 8 ≤ 11 by decide)
  have r4 := hr.mono (show 4 ≤ 11 by decide)
  have r3 := hr.mono (show 3 ≤ 11 by decide)
  have fit := ok.fit
  have h0 := ok.h0
  have h4 := ok.h4
  have l1 := ok.R.l1
  have l8 := ok.R.l8
  have lr : ∀ {F : Fx} {w : Ow}, Cop F w (.builtin "len") [rLst (ys.map rRw)] (rInt ((ys.length : Nat) : Int)) := fun {F w} => by
    have := cop_lenL (F := F) (ω := w) (Rs := ys.map rRw)
    rw [List.length_map] at this
    exact this
  have lg : ∀ {F : Fx} {w : Ow}, Cop F w (.builtin "len") [rLst (gs.map rStr)] (rInt ((gs.length : Nat) : Int)) := fun {F w} => by
    have := cop_lenL (F := F) (ω := w) (Rs := gs.map rStr)
    rw [List.length_map] at this
    exact this
  refine hb_asg (er_ix (er_v 2 rfl rfl) er_int (iop_L (n := 0) rfl rfl)) (pg_lst rfl (pgs_cons (pg_name (i := 4) nd rfl (Or.inl rfl)) (pgs_cons (pg_name (i := 5) nd rfl (Or.inl rfl)) (pgs_cons (pg_name (i := 9) nd rfl (Or.inl rfl)) pgs_nil)))) (ge_lst (ges_cons ge_name (ges_cons ge_name (ges_cons ge_name ges_nil))) rfl) ?_
  have bo : ∀ {gs2 : List Str} {zs : List Wy}, FitB gs2 zs → pBookOf C W M N D U [rLst (gs2.map rStr), rLst (zs.map rRw)] [] (.ok (rBook C W gs2 zs)) [] := fun {gs2 zs} f2 => ⟨gs2, zs, f2.bk, fun y hy => (f2.rw y hy).rw, rfl, rfl, rfl, (newB_ok f2).symm⟩
  have eqb : ∀ {gs2 : List Str} {zs : List Wy}, (srt gs = srt gs2 → ys.length = zs.length) → Bop ⟨cxOf (L2.CX P w) P w K mg base N_law "law" (defScope s_law) f cdv A outer s0 H E, G0, H0, M', Wd, tk⟩ [] (compareOp .Eq) (rBook C W gs ys) (rBook C W gs2 zs) (rBool (eqBk gs ys gs2 zs)) := fun {gs2 zs} hl => bop_oE X.XC.Tb r4 ⟨rfl, rfl, gs, ys, .inl ⟨gs2, zs, hl, rfl, rfl⟩⟩ tyr_ins X.XC.fb
  have f1 : FitB gs.reverse ys := fit.sub (List.reverse_perm gs) (fun _ h => h) l1 l8
  have e1 : eqBk gs ys gs.reverse ys = true := by
    unfold eqBk
    rw [decide_eq_true (srt_same (List.reverse_perm gs).symm), Bool.true_and]
    exact all_of fun j _ _ => eqWy_refl
  refine hb_if (b := false) (PWR.tr (tr_or (k := false) (m := false) (tr_not (k := true) (tr_to (tr_cmp (er_v 9 rfl rfl) (er_fA X.Tbo r8 (ar_cons (er_eq (S := rLst (gs.reverse.map rStr)) (er_revL (er_v 4 rfl rfl)) (by rw [List.map_reverse])) (ar_cons (er_v 5 rfl rfl) ar_nil)) (bo f1)) (eqb fun _ => rfl)) e1)) fun _ => tr_or1 (tr_cmp (er_v 9 rfl rfl) (er_v 5 rfl rfl) (bop_oE X.XC.Tb r4 ⟨rfl, rfl, gs, ys, .inr ⟨_, rfl, rfl⟩⟩ tyr_lst X.nfl)))) (fun z => Bool.noConfusion z) (fun _ => hb_nil ?_)
  refine hb_if (b := decide ((gs.length : Int) < 4) && false) (PWR.tr (tr_and (tr_cmp (er_bA (ar_cons (er_v 4 rfl rfl) ar_nil) X.len bt_len lg) er_int bop_lt) fun h => tr_and1 ?_)) (fun z => by rw [Bool.and_false] at z; cases z) (fun _ => hb_nil ?_)
  · have h3 : gs.length < 4 := by have := of_decide_eq_true h; omega
    have hq : Str.ofString "q9" ∉ gs := fun h => by
      have h1 := ok.G.sub _ h
      have : Str.ofString "q9" ∉ menuN := by decide +kernel
      exact this h1
    have f2 : FitB (gs ++ [Str.ofString "q9"]) ys := by
      refine ⟨bErr_of (by rw [List.length_append, List.length_singleton]; omega) ?_ (mem_snoc fit.nice (by decide +kernel)) ⟨l1, l8⟩ fun y hy g hg => List.mem_append_left _ (fit.has y hy g hg), fit.rw, mem_snoc fit.nm (by decide +kernel)⟩
      exact List.nodup_append.mpr ⟨ok.G.nd, by simp, fun a ha b hb => by rw [List.mem_singleton.mp hb]; exact fun z => hq (z ▸ ha)⟩
    have e2 : eqBk gs ys (gs ++ [Str.ofString "q9"]) ys = false := by
      unfold eqBk
      rw [decide_eq_false fun z => ?_, Bool.false_and]
      have := congrArg List.length z
      rw [(srt_perm _).length_eq, (srt_perm _).length_eq, List.length_append, List.length_singleton] at this
      omega
    exact tr_to (tr_cmp (er_v 9 rfl rfl) (er_fA X.Tbo r8 (ar_cons (er_eq (S := rLst ((gs ++ [Str.ofString "q9"]).map rStr)) (er_bin (er_v 4 rfl rfl) (er_lst (Rs := [rStr (Str.ofString "q9")]) (ar_cons er_str ar_nil) (Nat.le_of_ble_eq_true rfl)) (bop_cat (by rw [List.length_map, List.length_singleton]; omega))) (by rw [List.map_append]; rfl)) (ar_cons (er_v 5 rfl rfl) ar_nil)) (bo f2)) (eqb fun _ => rfl)) e2
  have wy : ∀ {i : Nat}, i < ys.length → pBWay C W V [rBook C W gs ys, rInt (i : Int)] [] (.ok (rWy W (ys.getD i wy0))) [] := fun {i} hi => ⟨gs, ys, (i : Int), small_log (Nat.le_trans (show (i : Int).natAbs ≤ 8 by omega) (by decide)), rfl, rfl, rfl, by rw [if_pos ⟨by omega, by omega⟩]; rfl⟩
  refine hb_if (b := decide ((ys.length : Int) < 2) || eqWy (ys.getD 0 wy0) (ys.getD 1 wy0)) (PWR.tr (tr_or (tr_cmp (er_bA (ar_cons (er_v 5 rfl rfl) ar_nil) X.len bt_len lr) er_int bop_lt) fun h => tr_or1 ?_)) (fun _ => hb_ret er_bl ⟨_, [], rfl, fun v G h => h, rfl⟩) (fun h => hb_nil ?_)
  · have h2 : 2 ≤ ys.length := by have := of_decide_eq_false h; omega
    exact tr_cmp (er_m (R := rWy W (ys.getD 0 wy0)) X.Tway cl r3 (er_v 9 rfl rfl) (ar_cons er_int ar_nil) (wy (i := 0) (by omega))) (er_m (R := rWy W (ys.getD 1 wy0)) X.Tway cl r3 (er_v 9 rfl rfl) (ar_cons er_int ar_nil) (wy (i := 1) (by omega))) (bop_oE X.XC.Tw (hr.mono (by decide)) ⟨rfl, rfl, _, _, _, .inl ⟨_, _, _, rfl, rfl⟩⟩ tyr_ins X.XC.fw)
  · rw [Bool.or_eq_false_iff] at h
    have h2 : 2 ≤ ys.length := by have := of_decide_eq_false h.1; omega
    have hne := h.2
    have f3 : FitB gs ([ys.getD 1 wy0, ys.getD 0 wy0] ++ ys.drop 2) := fit.sub (List.Perm.refl _) (fun y hy => by
      rcases List.mem_append.mp hy with hy | hy
      · rcases List.mem_cons.mp hy with rfl | hy
        · exact getD_in (by omega)
        · rw [List.mem_singleton.mp hy]; exact getD_in (by omega)
      · exact List.mem_of_mem_drop hy) (by rw [List.length_append]; show 1 ≤ 2 + _; omega) (by rw [List.length_append, List.length_drop]; show 2 + _ ≤ 8; omega)
    have hl : ys.length = ([ys.getD 1 wy0, ys.getD 0 wy0] ++ ys.drop 2).length := by
      rw [List.length_append, List.length_drop]
      show _ = 2 + _
      omega
    have e3 : eqBk gs ys gs ([ys.getD 1 wy0, ys.getD 0 wy0] ++ ys.drop 2) = false := by
      unfold eqBk
      rw [decide_eq_true rfl, Bool.true_and]
      obtain ⟨m, hm⟩ : ∃ m, ys.length = m + 1 := ⟨ys.length - 1, by omega⟩
      rw [hm]
      show (eqWy (ys.getD 0 wy0) (ys.getD 1 wy0) && _) = false
      rw [hne, Bool.false_and]
    have ec : rLst ([rRw (ys.getD 1 wy0), rRw (ys.getD 0 wy0)] ++ cutR (ys.map rRw) (some 2) none) = rLst (([ys.getD 1 wy0, ys.getD 0 wy0] ++ ys.drop 2).map rRw) := by
      rw [show (some (2 : Int)) = some ((2 : Nat) : Int) from rfl, cutR_drop h2, List.map_append]
      rfl
    refine hb_ret (er_not (k := false) (er_eq (er_cmp (er_v 9 rfl rfl) (er_fA X.Tbo r8 (ar_cons (er_v 4 rfl rfl) (ar_cons (er_eq (er_bin (er_lst (Rs := [rRw (ys.getD 1 wy0), rRw (ys.getD 0 wy0)]) (ar_cons (er_ix (er_v 5 rfl rfl) er_int (iop_pickM (A := rRw) (i := 1) wy0 (by decide) (by omega))) (ar_cons (er_ix (er_v 5 rfl rfl) er_int (iop_pickM (A := rRw) (i := 0) wy0 (by decide) (by omega))) ar_nil)) (Nat.le_of_ble_eq_true rfl)) (er_slice (er_v 5 rfl rfl) (pr_some er_int) pr_none sop_L) (bop_cat ?_)) ec) ar_nil)) (bo f3)) (eqb fun _ => hl)) (by rw [e3]))) ⟨_, [], rfl, fun v G h => h, rfl⟩
    unfold cutR
    simp only [List.length_take, List.length_drop, List.length_map]
    show 2 + _ ≤ 100000
    omega
theorem law_loop {cdv : Value} {A : Around} {outer : List Env} {s0 : Shared} {H : Hp} {E : XK} (F : Fx) (hX : F.X = cxOf (L2.CX P w) P w K mg base N_law "law" (defScope s_law) f cdv A outer s0 H E) (hr : Room 11 F.X.A) (X : LwX P w K mg base C W M N D U V)
    {ns : List Int} (hns : ns.length ≤ 63) {g0 g1 : List Str} {y0 y1 : List Wy} {z1 z3 z4 z5 z6 : Option Rl} (ok0 : PairOk g0 y0) (ok1 : PairOk g1 y1) :
    HB F [some (rScr K (ns.map L2.V.int)), z1, some (rLst [rPair C W g0 y0, rPair C W g1 y1]), z3, z4, z5, z6, none, none, none] [] ((defBody s_law).drop 3) (Kf (.ok (rBool true)) []) := by
  obtain ⟨_, G0, H0, M', Wd, tk⟩ := F
  cases hX
  have nd := c_law.nd
  have r1 := hr.mono (show 1 ≤ 11 by decide)
  have r10 := hr.mono (show 10 ≤ 11 by decide)
  have ecut : ∀ x ∈ cutV (ns.map L2.V.int) (some 2) (some 6), ∃ c : Int, x = L2.V.int c := fun x hx => by
    obtain ⟨c, _, e⟩ := List.mem_map.mp (cut_mem hx)
    exact ⟨c, e.symm⟩
  have lcut : (cutV (ns.map L2.V.int) (some 2) (some 6)).length ≤ 63 := by
    have := cut_len2 (ns.map L2.V.int) (some 2) (some 6)
    rw [List.length_map] at this
    omega
  refine hb_for (it_lst (er_bin (er_lst (ar_cons (er_fA X.Tat r1 (ar_cons (er_v 0 rfl rfl) (ar_cons er_int ar_nil)) ⟨(ns, 1), trivial, rfl, rfl, rfl, rfl⟩) ar_nil) (Nat.le_of_ble_eq_true rfl)) (er_tA (ar_cons (er_slice (er_v 0 rfl rfl) (pr_some er_int) (pr_some er_int) sop_S) ar_nil) X.ls bt_list cop_listL) (bop_cat (by rw [List.length_map]; show 1 + _ ≤ _; omega))))
    (fun _ ρ w => ∃ z1 z4 z5 z8 z9, ρ = [some (rScr K (ns.map L2.V.int)), z1, some (rLst [rPair C W g0 y0, rPair C W g1 y1]), z3, z4, z5, z6, none, z8, z9] ∧ w = []) ⟨_, _, _, _, _, rfl, rfl⟩ ?_ ?_ (passes_of rfl) (pg_name (i := 8) nd rfl (Or.inl rfl))
  · rintro k ρ w S hS ⟨z1, z4, z5, z8, z9, rfl, rfl⟩
    obtain ⟨c, rfl⟩ : ∃ c : Int, S = rInt c := by
      have hm := List.mem_of_getElem? hS
      rcases List.mem_append.mp hm with hm | hm
      · exact ⟨_, List.mem_singleton.mp hm⟩
      · obtain ⟨x, hx, rfl⟩ := List.mem_map.mp hm
        obtain ⟨c, rfl⟩ := ecut x hx
        exact ⟨c, rfl⟩
    refine ⟨_, ge_name, ?_⟩
    refine hb_setNA 1 rfl (en_fA X.Tbag r1 (ar_cons (er_v 8 rfl rfl) ar_nil) ⟨c, rfl, rfl, rfl, rfl⟩) fun q hq => ?_
    generalize ((c, (0 : Int), decide ((10 : Int) ^ 18 ≤ c)) : Pool) = s
    have d2 := drR_lt (s := s) (L := 2) (by decide)
    obtain ⟨gs, ys, ok, eg⟩ : ∃ gs ys, PairOk gs ys ∧ [rPair C W g0 y0, rPair C W g1 y1].getD (drR s 2).toNat rAny = rPair C W gs ys := by
      rcases (show drR s 2 = 0 ∨ drR s 2 = 1 by omega) with e | e
      · rw [e]; exact ⟨g0, y0, ok0, rfl⟩
      · rw [e]; exact ⟨g1, y1, ok1, rfl⟩
    refine hb_asg (er_eq (S := rPair C W gs ys) (er_ix (er_v 2 rfl rfl) (er_f1 0 X.Td r1 (ar_cons (er_v 1 rfl rfl) (ar_cons er_int ar_nil)) rfl (drawOk (s := s) (L := 2) (by decide) (by decide))) (iop_pick d2.1 d2.2)) eg) (pg_lst rfl (pgs_cons (pg_name (i := 4) nd rfl (Or.inl rfl)) (pgs_cons (pg_name (i := 5) nd rfl (Or.inl rfl)) (pgs_cons (pg_name (i := 9) nd rfl (Or.inl rfl)) pgs_nil)))) (ge_lst (ges_cons ge_name (ges_cons ge_name (ges_cons ge_name ges_nil))) rfl) ?_
    refine hb_if (b := false) (w1 := [(q, oAny)]) (tr_not (k := true) (tr_val (er_f1 0 X.Tf r10 (ar_cons (er_v 1 rfl rfl) (ar_cons (er_v 4 rfl rfl) (ar_cons (er_v 5 rfl rfl) (ar_cons (er_v 9 rfl rfl) ar_nil)))) rfl ⟨q, drS s 2, gs, ys, ok.fit, rfl, rfl, rfl, rfl⟩))) (fun z => Bool.noConfusion z) (fun _ => hb_nil (hb_exO fun s3 => ?_))
    refine hb_if (b := false) (w1 := [(q, oAny)]) (tr_not (k := true) (tr_val (er_f1 0 X.Ts hr (ar_cons (er_v 1 rfl rfl) (ar_cons (er_v 4 rfl rfl) (ar_cons (er_v 5 rfl rfl) ar_nil))) rfl ⟨q, s3, gs, ys, ok.G, ok.h0, ok.h4, ok.R, rfl, rfl, rfl, rfl⟩))) (fun z => Bool.noConfusion z) (fun _ => hb_nil (hb_exO fun s4 => ?_))
    refine hb_if (b := false) (w1 := [(q, oAny)]) (tr_not (k := true) (tr_val (er_f1 0 X.Tp r10 (ar_cons (er_v 1 rfl rfl) (ar_cons (er_v 4 rfl rfl) (ar_cons (er_v 5 rfl rfl) (ar_cons (er_v 9 rfl rfl) ar_nil)))) rfl ⟨q, s4, gs, ys, ok.G, ok.h0, ok.h4, ok.R, rfl, rfl, rfl, rfl⟩))) (fun z => Bool.noConfusion z) (fun _ => hb_nil (hb_drop (hb_nil ⟨_, _, _, _, _, rfl, rfl⟩)))
  · rintro ρ w ⟨z1, z4, z5, z8, z9, rfl, rfl⟩
    exact law_end _ rfl hr X ok0
theorem kf_law (Fn : Fun K "law" "law" s_law f fd) (X : LwX P w K mg base C W M N D U V) : FnOk P w K mg base (L2.CX P w) 12 f fd P_law (spM (pLaw K)) := by
  refine fn_ok Fn c_law (fun _ _ _ _ ⟨_, _, h, _⟩ => by rw [h]; rfl) ?_
  rintro cdv A outer s0 H E ⟨_, G0, H0, M', Wd, tk⟩ hr rfl Rs ω o ω' ⟨ns, hns, rfl, rfl, rfl, rfl⟩
  have hns : ns.length ≤ 63 := hns
  have nd := c_law.nd
  have r1 := hr.mono (show 1 ≤ 11 by decide)
  have r2 := hr.mono (show 2 ≤ 11 by decide)
  have r4 := hr.mono (show 4 ≤ 11 by decide)
  have r6 := hr.mono (show 6 ≤ 11 by decide)
  have r7 := hr.mono (show 7 ≤ 11 by decide)
  refine hb_setNA 1 rfl (en_fA X.Tbag r1 (ar_cons (er_fA X.Tat r1 (ar_cons (er_v 0 rfl rfl) (ar_cons er_int ar_nil)) ⟨(ns, 0), trivial, rfl, rfl, rfl, rfl⟩) ar_nil) ⟨atS ns 0, rfl, rfl, rfl, rfl⟩) fun q hq => ?_
  generalize ((atS ns 0, (0 : Int), decide ((10 : Int) ^ 18 ≤ atS ns 0)) : Pool) = sa
  refine hb_setNA 2 rfl (en_lst (Rs := []) ar_nil (Nat.zero_le _)) fun qp hqp => ?_
  refine hb_for (it_rng1 (ar_cons er_int ar_nil) rfl X.rg (by decide)) (fun k ρ w => ∃ L s z3 z4 z5 z6, L.length = k ∧ (∀ R ∈ L, ∃ gs ys, PairOk gs ys ∧ R = rPair C W gs ys) ∧ ρ = [some (rScr K (ns.map L2.V.int)), some (rRef q), some (rRef qp), z3, z4, z5, z6, none, none, none] ∧ w = [(qp, oL L), (q, oPool s)])
    ⟨[], sa, _, _, _, _, rfl, fun _ h => (by cases h), rfl, rfl⟩ ?_ ?_ (passes_of rfl) (pg_name (i := 3) nd rfl (Or.inl rfl))
  · rintro k ρ w S hS ⟨L, s, z3, z4, z5, z6, hl, hL, rfl, rfl⟩
    obtain ⟨hk, rfl⟩ := rng_get hS
    have hk : k < 2 := hk
    refine ⟨_, ge_name, ?_⟩
    have d4 := drR_lt (s := s) (L := 4) (by decide)
    obtain ⟨n, hn⟩ : ∃ n : Nat, 1 + drR s 4 = (n : Int) := ⟨(1 + drR s 4).toNat, by omega⟩
    have hlab := lab_goods (s := drS s 4) (n := n) (by omega)
    refine hb_setA (w1 := [(qp, oL L), (q, oPool (labS n (drS s 4)))]) 4 rfl (er_pubL (en_f1 1 X.Tlab r2 (ar_cons (er_v 1 rfl rfl) (ar_cons (er_eq (S := rInt ((n : Nat) : Int)) (er_bin er_int (er_f1 1 X.Td r1 (ar_cons (er_v 1 rfl rfl) (ar_cons er_int ar_nil)) rfl (drawOk (s := s) (L := 4) (by decide) (by decide))) bop_add) (by rw [hn])) ar_nil)) rfl ⟨q, drS s 4, n, by omega, rfl, rfl, rfl, rfl⟩)) ?_
    generalize labG n (drS s 4) = gs at hlab
    generalize labS n (drS s 4) = s2
    obtain ⟨hG, hgl⟩ := hlab
    refine hb_setA (w1 := [(qp, oL L), (q, oAny)]) 5 rfl (er_f1 1 X.Trows r4 (ar_cons (er_v 1 rfl rfl) (ar_cons (er_v 4 rfl rfl) (ar_cons (er_cmp (er_f1 1 X.Td r1 (ar_cons (er_v 1 rfl rfl) (ar_cons er_int ar_nil)) rfl (drawOk (s := s2) (L := 2) (by decide) (by decide))) er_int bop_eqI) ar_nil))) rfl ⟨q, gs, _, drS s2 2, hG, by omega, by omega, rfl, rfl, rfl, rfl⟩) ?_
    refine hb_ex 5 rfl ?_
    rintro ⟨ys, hys⟩
    refine hb_perm (List.Perm.swap _ _ _) (hb_exO fun s3 => hb_perm (List.Perm.swap _ _ _) ?_)
    have ok : PairOk gs ys := ⟨hG, by omega, by omega, hys⟩
    have fit := ok.fit
    have l8 := hys.l8
    refine hb_setG (Φ := fun R w => ∃ q1 q2, R = rLst [rRef q1, rRef q2] ∧ w = [(q2, oL (ys.map (rWy W))), (q1, oL (gs.map rStr)), (qp, oL L), (q, oPool s3)]) 6 rfl (eg_lst (ag_cons (Φ := fun R w => ∃ q1, R = rRef q1 ∧ w = [(q1, oL (gs.map rStr)), (qp, oL L), (q, oPool s3)]) (eg_en (en_tA (ar_cons (er_v 4 rfl rfl) ar_nil) X.ls bt_list copN_listL) fun q1 _ => ⟨q1, rfl, rfl⟩) ?_)) ?_
    · rintro R w ⟨q1, rfl, rfl⟩
      refine ag_cons (Φ := fun R w => ∃ q2, R = rRef q2 ∧ w = [(q2, oL (ys.map (rWy W))), (q1, oL (gs.map rStr)), (qp, oL L), (q, oPool s3)]) (eg_en (en_lc (xs := ys) (A := rRw) (B := rWy W) (it_lst (er_v 5 rfl rfl)) (by omega) [("_law_row", 7)] (blkOk_by (N := N_law) (sc := defScope s_law) (by decide +kernel)) (fun _ _ _ _ _ => pg_name (i := 7) nd rfl (Or.inl rfl)) (fun _ _ _ => gew_name) (fun j y hy s1 H1 cc cl fp d => by
        have r := (fit.rw y (List.mem_of_getElem? hy)).rw
        exact er_cS (wc := []) (fs := wayF y.1 y.2.1 y.2.2) X.Tw r7 (ar_cons (er_ix (er_v 7 rfl rfl) er_int (iop_L (n := 0) rfl rfl)) (ar_cons (er_ix (er_v 7 rfl rfl) er_int (iop_L (n := 1) rfl rfl)) (ar_cons (er_ix (er_v 7 rfl rfl) er_int (iop_L (n := 2) rfl rfl)) ar_nil))) Sub.nil fun q => ⟨q, _, _, [], _, _, [], _, .inl ⟨rfl, rfl⟩, .inl ⟨rfl, rfl⟩, r.g1, r.g2, r.hh, rfl, rfl, by rw [r.ok]; exact ⟨rfl, rfl⟩⟩) nd) fun q2 _ => ⟨q2, rfl, rfl⟩) ?_
      rintro R w ⟨q2, rfl, rfl⟩
      exact ag_nil ⟨Nat.le_of_ble_eq_true rfl, q1, q2, rfl, rfl⟩
    · rintro R w ⟨q1, q2, rfl, rfl⟩
      have bk := fit.bk
      refine hb_append (Rs := L) (R := rPair C W gs ys) (w2 := [(q2, oL (ys.map (rWy W))), (q1, oL (gs.map rStr)), (q, oPool s3)]) (er_v 2 rfl rfl) (List.mem_cons_of_mem _ (List.mem_cons_of_mem _ List.mem_cons_self)) (ar_perm (ar_cons (er_lst (ar_cons (er_v 4 rfl rfl) (ar_cons (er_v 5 rfl rfl) (ar_cons (er_cS (wc := [(q1, oL (gs.map rStr)), (q2, oL (ys.map (rWy W)))]) (fs := bookF W gs ys) X.Tb r6 (ar_cons (er_ix (er_v 6 rfl rfl) er_int (iop_L (n := 0) rfl rfl)) (ar_cons (er_ix (er_v 6 rfl rfl) er_int (iop_L (n := 1) rfl rfl)) ar_nil)) ⟨[(qp, oL L), (q, oPool s3)], List.Perm.swap _ _ _⟩
        (fun z => ⟨z, rRef q1, gs, [(q1, oL (gs.map rStr))], rRef q2, ys, [(q2, oL (ys.map (rWy W)))], .inr (.inr ⟨q1, rfl, rfl⟩), .inr (.inr ⟨q2, rfl, rfl⟩), bk.nm, bk.ok, by omega, by omega, rfl, rfl, by rw [fit.ok]; exact ⟨rfl, rfl⟩⟩)) ar_nil))) (Nat.le_of_ble_eq_true rfl)) ar_nil) (((List.Perm.swap _ _ _).cons _).trans (List.Perm.swap _ _ _))) (by omega) ?_
      refine hb_lclear (Rs := gs.map rStr) (q := q1) (w := [(qp, oL (L ++ [rPair C W gs ys])), (q2, oL (ys.map (rWy W))), (q, oPool s3)]) (er_perm (er_ix (er_v 6 rfl rfl) er_int (iop_L (n := 0) rfl rfl)) (((List.Perm.swap _ _ _).cons _).trans (List.Perm.swap _ _ _))) ?_
      refine hb_lclear (Rs := ys.map (rWy W)) (q := q2) (w := [(q1, oL []), (qp, oL (L ++ [rPair C W gs ys])), (q, oPool s3)]) (er_perm (er_ix (er_v 6 rfl rfl) er_int (iop_L (n := 1) rfl rfl)) (((List.Perm.swap _ _ _).cons _).trans (List.Perm.swap _ _ _))) ?_
      refine hb_drop (hb_drop (hb_nil ⟨L ++ [rPair C W gs ys], s3, _, _, _, _, by rw [List.length_append, hl]; rfl, mem_snoc hL ⟨gs, ys, ok, rfl⟩, rfl, rfl⟩))
  · rintro ρ w ⟨L, s, z3, z4, z5, z6, hl, hL, rfl, rfl⟩
    rw [rng_len] at hl
    have hl : L.length = 2 := hl
    match L, hl with
    | [R0, R1], _ =>
      obtain ⟨g0, y0, ok0, rfl⟩ := hL R0 List.mem_cons_self
      obtain ⟨g1, y1, ok1, rfl⟩ := hL R1 (List.mem_cons_of_mem _ List.mem_cons_self)
      exact hb_pub 2 rfl hqp pub_lst (hb_drop (law_loop _ rfl hr X hns ok0 ok1))
end
end W1
set_option maxRecDepth 100000
set_option maxHeartbeats 2000000
set_option exponentiation.threshold 20000
namespace W1
open PySem PySem.Spec PyProof.Rows L2 NdefX
open TL NumText
theorem kE_BadNumber {P : Program} {w : World} {K : PySem.W.Frag} {mg : Str → Option Value} {base : Heap} {C f cc cd : Addr} (T : SupC P K mg "BadNumber" "BadNumber.__init__" s_BadNumber___init__ C f cc cd) (hno : PySem.W.findIn K (.ref C) "n" = some none) : Ke P w K mg base C "BadNumber" "n" 1 prInt := by
  obtain ⟨fd, ⟨doc, pm, ctv, rfl⟩, h⟩ := ok_err (w := w) (base := base) (k := 0) (Pr := prInt) (an2 := none) (ps2 := ⟨0, 0, 0, 0⟩) T c_BadNumber___init__ rfl rfl rfl hno (by decide) (by decide) (fun env he => ⟨_, rfl⟩) (fun env he => rfl) (fun env => rfl) (fun env he => ⟨rfl, rfl⟩)
    (fun X h1 h2 h3 h4 h5 hN hs hr hc => txt_fc (i := 1) (by rw [hN]; rfl) (by rw [hs]; exact Or.inl rfl) (by decide) (by decide) (by decide) (fun v H z => .inl z))
  exact ⟨"n", _, _, f, cc, cd, _, T, .all fun us hl => match us, hl with | [_, _], _ => rfl, h⟩
theorem kE_BadWay {P : Program} {w : World} {K : PySem.W.Frag} {mg : Str → Option Value} {base : Heap} {C f cc cd : Addr} (T : SupC P K mg "BadWay" "BadWay.__init__" s_BadWay___init__ C f cc cd) (hno : PySem.W.findIn K (.ref C) "at" = some none) : Ke P w K mg base C "BadWay" "at" 1 prInt := by
  obtain ⟨fd, ⟨doc, pm, ctv, rfl⟩, h⟩ := ok_err (w := w) (base := base) (k := 0) (Pr := prInt) (an2 := none) (ps2 := ⟨0, 0, 0, 0⟩) T c_BadWay___init__ rfl rfl rfl hno (by decide) (by decide) (fun env he => ⟨_, rfl⟩) (fun env he => rfl) (fun env => rfl) (fun env he => ⟨rfl, rfl⟩)
    (fun X h1 h2 h3 h4 h5 hN hs hr hc => txt_cf (i := 1) (by rw [hN]; rfl) (by rw [hs]; exact Or.inl rfl) (by decide) (by decide) (by decide) (fun v H z => .inl z))
  exact ⟨"at", _, _, f, cc, cd, _, T, .all fun us hl => match us, hl with | [_, _], _ => rfl, h⟩
theorem kE_BadName {P : Program} {w : World} {K : PySem.W.Frag} {mg : Str → Option Value} {base : Heap} {C f cc cd : Addr} (T : SupC P K mg "BadName" "BadName.__init__" s_BadName___init__ C f cc cd) (hno : PySem.W.findIn K (.ref C) "name" = some none) : Ke P w K mg base C "BadName" "name" 1 prStr := by
  obtain ⟨fd, ⟨doc, pm, ctv, rfl⟩, h⟩ := ok_err (w := w) (base := base) (k := 0) (Pr := prStr) (an2 := none) (ps2 := ⟨0, 0, 0, 0⟩) T c_BadName___init__ rfl rfl rfl hno (by decide) (by decide) (fun env he => ⟨_, rfl⟩) (fun env he => rfl) (fun env => rfl) (fun env he => ⟨rfl, rfl⟩)
    (fun X h1 h2 h3 h4 h5 hN hs hr hc => txt_fc (i := 1) (by rw [hN]; rfl) (by rw [hs]; exact Or.inl rfl) (by decide) (by decide) (by decide) (fun v H z => .inr z))
  exact ⟨"name", _, _, f, cc, cd, _, T, .all fun us hl => match us, hl with | [_, _], _ => rfl, h⟩
theorem kE_DuplicateName {P : Program} {w : World} {K : PySem.W.Frag} {mg : Str → Option Value} {base : Heap} {C f cc cd : Addr} (T : SupC P K mg "DuplicateName" "DuplicateName.__init__" s_DuplicateName___init__ C f cc cd) (hno : PySem.W.findIn K (.ref C) "name" = some none) : Ke P w K mg base C "DuplicateName" "name" 1 prStr := by
  obtain ⟨fd, ⟨doc, pm, ctv, rfl⟩, h⟩ := ok_err (w := w) (base := base) (k := 0) (Pr := prStr) (an2 := none) (ps2 := ⟨0, 0, 0, 0⟩) T c_DuplicateName___init__ rfl rfl rfl hno (by decide) (by decide) (fun env he => ⟨_, rfl⟩) (fun env he => rfl) (fun env => rfl) (fun env he => ⟨rfl, rfl⟩)
    (fun X h1 h2 h3 h4 h5 hN hs hr hc => txt_fc (i := 1) (by rw [hN]; rfl) (by rw [hs]; exact Or.inl rfl) (by decide) (by decide) (by decide) (fun v H z => .inr z))
  exact ⟨"name", _, _, f, cc, cd, _, T, .all fun us hl => match us, hl with | [_, _], _ => rfl, h⟩
theorem kE_UnknownName {P : Program} {w : World} {K : PySem.W.Frag} {mg : Str → Option Value} {base : Heap} {C f cc cd : Addr} (T : SupC P K mg "UnknownName" "UnknownName.__init__" s_UnknownName___init__ C f cc cd) (hno : PySem.W.findIn K (.ref C) "name" = some none) : Ke P w K mg base C "UnknownName" "name" 1 prStr := by
  obtain ⟨fd, ⟨doc, pm, ctv, rfl⟩, h⟩ := ok_err (w := w) (base := base) (k := 0) (Pr := prStr) (an2 := none) (ps2 := ⟨0, 0, 0, 0⟩) T c_UnknownName___init__ rfl rfl rfl hno (by decide) (by decide) (fun env he => ⟨_, rfl⟩) (fun env he => rfl) (fun env => rfl) (fun env he => ⟨rfl, rfl⟩)
    (fun X h1 h2 h3 h4 h5 hN hs hr hc => txt_fc (i := 1) (by rw [hN]; rfl) (by rw [hs]; exact Or.inl rfl) (by decide) (by decide) (by decide) (fun v H z => .inr z))
  exact ⟨"name", _, _, f, cc, cd, _, T, .all fun us hl => match us, hl with | [_, _], _ => rfl, h⟩
theorem law_cx {P : Program} : ∀ (w : World) (H : Hp) (s : Shared) (e : Value) (s' : Shared), L2.CX P w [] H s (fun _ _ _ => False) e s' → False := fun w H s e s' hq => by
  obtain ⟨_, _, _, _, _, _, _, _, _, _, _, _, z⟩ := hq
  exact z.elim
theorem law_sp {K : Params → PySem.W.Frag} : ∀ (w : World) (H : Hp) (a : Addr) (ns : List Int), ns.length ≤ 63 → L2.Only H → SqL (K w.params) H a (ns.map V.int) → spM (pLaw (K w.params)) [.ref a] H (fun v _ => v = .bl true) fun _ _ _ => False := fun w H a ns hl _ hS =>
  ⟨_, [], _, [], H, ⟨ns, hl, rfl, rfl, rfl, rfl⟩, Same.refl _, mk1 ⟨a, rfl, hS⟩, (fun _ h => by cases h), List.nodup_nil, rfl, fun v G' H' _ _ h => h⟩
theorem all_mk {w : World} {K : PySem.W.Frag} {h : Heap} {mg : Str → Option Value} {fa : Addr}
    {tk1 tk2 tk3 tk4 tk5 : Tok}
    {M f0 cc0 cd0 : Addr}
    {od0 dd0 cdd0 cld0 : Option Addr}
    {sl0 ccs0 csl0 : Array (Option Value)}
    {oc0 dc0 pm0 ct0 ccl0 clc0 : Value}
    {nm0 q0 file0 : Str}
    {N0 : Addr}
    {bs0 sub0 bm0 : List Value}
    {sn0 : List Str}
    {ab0 : Bool}
    {col0 : Option Bool}
    {m0_0 m0_1 m0_2 m0_3 m0_5 : Option Value}
    {vs0 : Array Value}
    {tf0 : Tok}
    {N f1 cc1 cd1 : Addr}
    {od1 dd1 cdd1 cld1 : Option Addr}
    {sl1 ccs1 csl1 : Array (Option Value)}
    {oc1 dc1 pm1 ct1 ccl1 clc1 : Value}
    {nm1 q1 file1 : Str}
    {N1 : Addr}
    {bs1 sub1 bm1 : List Value}
    {sn1 : List Str}
    {ab1 : Bool}
    {col1 : Option Bool}
    {m1_0 m1_1 m1_2 m1_3 m1_5 : Option Value}
    {vs1 : Array Value}
    {tf1 : Tok}
    {D f2 cc2 cd2 : Addr}
    {od2 dd2 cdd2 cld2 : Option Addr}
    {sl2 ccs2 csl2 : Array (Option Value)}
    {oc2 dc2 pm2 ct2 ccl2 clc2 : Value}
    {nm2 q2 file2 : Str}
    {N2 : Addr}
    {bs2 sub2 bm2 : List Value}
    {sn2 : List Str}
    {ab2 : Bool}
    {col2 : Option Bool}
    {m2_0 m2_1 m2_2 m2_3 m2_5 : Option Value}
    {vs2 : Array Value}
    {tf2 : Tok}
    {U f3 cc3 cd3 : Addr}
    {od3 dd3 cdd3 cld3 : Option Addr}
    {sl3 ccs3 csl3 : Array (Option Value)}
    {oc3 dc3 pm3 ct3 ccl3 clc3 : Value}
    {nm3 q3 file3 : Str}
    {N3 : Addr}
    {bs3 sub3 bm3 : List Value}
    {sn3 : List Str}
    {ab3 : Bool}
    {col3 : Option Bool}
    {m3_0 m3_1 m3_2 m3_3 m3_5 : Option Value}
    {vs3 : Array Value}
    {tf3 : Tok}
    {V f4 cc4 cd4 : Addr}
    {od4 dd4 cdd4 cld4 : Option Addr}
    {sl4 ccs4 csl4 : Array (Option Value)}
    {oc4 dc4 pm4 ct4 ccl4 clc4 : Value}
    {nm4 q4 file4 : Str}
    {N4 : Addr}
    {bs4 sub4 bm4 : List Value}
    {sn4 : List Str}
    {ab4 : Bool}
    {col4 : Option Bool}
    {m4_0 m4_1 m4_2 m4_3 m4_5 : Option Value}
    {vs4 : Array Value}
    {tf4 : Tok}
    {W : Addr}
    {C : Addr}
    {f5 : Addr}
    {od5 an5 : Option Addr}
    {sl5 : Array (Option Value)}
    {oc5 kV5 dc5 pm5 cd5 ct5 : Value}
    {f6 : Addr}
    {od6 an6 : Option Addr}
    {sl6 : Array (Option Value)}
    {oc6 kV6 dc6 pm6 cd6 ct6 : Value}
    {f7 : Addr}
    {od7 an7 : Option Addr}
    {sl7 : Array (Option Value)}
    {oc7 kV7 dc7 pm7 cd7 ct7 : Value}
    {f8 : Addr}
    {od8 an8 : Option Addr}
    {sl8 : Array (Option Value)}
    {oc8 kV8 dc8 pm8 cd8 ct8 : Value}
    {f9 : Addr}
    {od9 an9 : Option Addr}
    {sl9 : Array (Option Value)}
    {oc9 kV9 dc9 pm9 cd9 ct9 : Value}
    {f10 : Addr}
    {od10 an10 : Option Addr}
    {sl10 : Array (Option Value)}
    {oc10 kV10 dc10 pm10 cd10 ct10 : Value}
    {f11 : Addr}
    {od11 an11 : Option Addr}
    {sl11 : Array (Option Value)}
    {oc11 kV11 dc11 pm11 cd11 ct11 : Value}
    {f12 : Addr}
    {od12 an12 : Option Addr}
    {sl12 : Array (Option Value)}
    {oc12 kV12 dc12 pm12 cd12 ct12 : Value}
    {f13 : Addr}
    {od13 an13 : Option Addr}
    {sl13 : Array (Option Value)}
    {oc13 kV13 dc13 pm13 cd13 ct13 : Value}
    {f14 : Addr}
    {od14 an14 : Option Addr}
    {sl14 : Array (Option Value)}
    {oc14 kV14 dc14 pm14 cd14 ct14 : Value}
    {f15 : Addr}
    {od15 an15 : Option Addr}
    {sl15 : Array (Option Value)}
    {oc15 kV15 dc15 pm15 cd15 ct15 : Value}
    {f16 : Addr}
    {od16 an16 : Option Addr}
    {sl16 : Array (Option Value)}
    {oc16 kV16 dc16 pm16 cd16 ct16 : Value}
    {f17 : Addr}
    {od17 an17 : Option Addr}
    {sl17 : Array (Option Value)}
    {oc17 kV17 dc17 pm17 cd17 ct17 : Value}
    {f18 : Addr}
    {od18 an18 : Option Addr}
    {sl18 : Array (Option Value)}
    {oc18 kV18 dc18 pm18 cd18 ct18 : Value}
    {f19 : Addr}
    {od19 an19 : Option Addr}
    {sl19 : Array (Option Value)}
    {oc19 kV19 dc19 pm19 cd19 ct19 : Value}
    {f20 : Addr}
    {od20 an20 : Option Addr}
    {sl20 : Array (Option Value)}
    {oc20 kV20 dc20 pm20 cd20 ct20 : Value}
    {f21 : Addr}
    {od21 an21 : Option Addr}
    {sl21 : Array (Option Value)}
    {oc21 kV21 dc21 pm21 cd21 ct21 : Value}
    {f22 : Addr}
    {od22 an22 : Option Addr}
    {sl22 : Array (Option Value)}
    {oc22 kV22 dc22 pm22 cd22 ct22 : Value}
    {f23 : Addr}
    {od23 an23 : Option Addr}
    {sl23 : Array (Option Value)}
    {oc23 kV23 dc23 pm23 cd23 ct23 : Value}
    {f24 : Addr}
    {od24 an24 : Option Addr}
    {sl24 : Array (Option Value)}
    {oc24 kV24 dc24 pm24 cd24 ct24 : Value}
    {f25 : Addr}
    {od25 an25 : Option Addr}
    {sl25 : Array (Option Value)}
    {oc25 kV25 dc25 pm25 cd25 ct25 : Value}
    {f26 : Addr}
    {od26 an26 : Option Addr}
    {sl26 : Array (Option Value)}
    {oc26 kV26 dc26 pm26 cd26 ct26 : Value}
    {f27 : Addr}
    {od27 an27 : Option Addr}
    {sl27 : Array (Option Value)}
    {oc27 kV27 dc27 pm27 cd27 ct27 : Value}
    {f28 : Addr}
    {od28 an28 : Option Addr}
    {sl28 : Array (Option Value)}
    {oc28 kV28 dc28 pm28 cd28 ct28 : Value}
    {f29 : Addr}
    {od29 an29 : Option Addr}
    {sl29 : Array (Option Value)}
    {oc29 kV29 dc29 pm29 cd29 ct29 : Value}
    {f30 : Addr}
    {od30 an30 : Option Addr}
    {sl30 : Array (Option Value)}
    {oc30 kV30 dc30 pm30 cd30 ct30 : Value}
    {f31 : Addr}
    {od31 an31 : Option Addr}
    {sl31 : Array (Option Value)}
    {oc31 kV31 dc31 pm31 cd31 ct31 : Value}
    {f32 : Addr}
    {od32 an32 : Option Addr}
    {sl32 : Array (Option Value)}
    {oc32 kV32 dc32 pm32 cd32 ct32 : Value}
    {f33 : Addr}
    {od33 an33 : Option Addr}
    {sl33 : Array (Option Value)}
    {oc33 kV33 dc33 pm33 cd33 ct33 : Value}
    {f34 : Addr}
    {od34 an34 : Option Addr}
    {sl34 : Array (Option Value)}
    {oc34 kV34 dc34 pm34 cd34 ct34 : Value}
    {f35 : Addr}
    {od35 an35 : Option Addr}
    {sl35 : Array (Option Value)}
    {oc35 kV35 dc35 pm35 cd35 ct35 : Value}
    {f36 : Addr}
    {od36 an36 : Option Addr}
    {sl36 : Array (Option Value)}
    {oc36 kV36 dc36 pm36 cd36 ct36 : Value}
    {f37 : Addr}
    {od37 an37 : Option Addr}
    {sl37 : Array (Option Value)}
    {oc37 kV37 dc37 pm37 cd37 ct37 : Value}
    {f38 : Addr}
    {od38 an38 : Option Addr}
    {sl38 : Array (Option Value)}
    {oc38 kV38 dc38 pm38 cd38 ct38 : Value}
    {f39 : Addr}
    {od39 an39 : Option Addr}
    {sl39 : Array (Option Value)}
    {oc39 kV39 dc39 pm39 cd39 ct39 : Value}
    {f40 : Addr}
    {od40 an40 : Option Addr}
    {sl40 : Array (Option Value)}
    {oc40 kV40 dc40 pm40 cd40 ct40 : Value}
    {f41 : Addr}
    {od41 an41 : Option Addr}
    {sl41 : Array (Option Value)}
    {oc41 kV41 dc41 pm41 cd41 ct41 : Value}
    {f42 : Addr}
    {od42 an42 : Option Addr}
    {sl42 : Array (Option Value)}
    {oc42 kV42 dc42 pm42 cd42 ct42 : Value}
    {f43 : Addr}
    {od43 an43 : Option Addr}
    {sl43 : Array (Option Value)}
    {oc43 kV43 dc43 pm43 cd43 ct43 : Value}
    {f44 : Addr}
    {od44 an44 : Option Addr}
    {sl44 : Array (Option Value)}
    {oc44 kV44 dc44 pm44 cd44 ct44 : Value}
    {f45 : Addr}
    {od45 an45 : Option Addr}
    {sl45 : Array (Option Value)}
    {oc45 kV45 dc45 pm45 cd45 ct45 : Value}
    {f46 : Addr}
    {od46 an46 : Option Addr}
    {sl46 : Array (Option Value)}
    {oc46 kV46 dc46 pm46 cd46 ct46 : Value}
    {f47 : Addr}
    {od47 an47 : Option Addr}
    {sl47 : Array (Option Value)}
    {oc47 kV47 dc47 pm47 cd47 ct47 : Value}
    (X : K.In h) (G : h.Ns mainGlobals mg) (hfa : mg "law" = some (.ref fa))
    (z_super : PySem.W.nsIn K mainGlobals "super" = some none)
    (z_list : PySem.W.nsIn K mainGlobals "list" = some none)
    (z_sorted : PySem.W.nsIn K mainGlobals "sorted" = some none)
    (z_len : PySem.W.nsIn K mainGlobals "len" = some none)
    (z_all : PySem.W.nsIn K mainGlobals "all" = some none)
    (z_isinstance : PySem.W.nsIn K mainGlobals "isinstance" = some none)
    (z_set : PySem.W.nsIn K mainGlobals "set" = some none)
    (z_int : PySem.W.nsIn K mainGlobals "int" = some none)
    (z_range : PySem.W.nsIn K mainGlobals "range" = some none)
    (z_tuple : PySem.W.nsIn K mainGlobals "tuple" = some none)
    (z_enumerate : PySem.W.nsIn K mainGlobals "enumerate" = some none)
    (z_iter : PySem.W.nsIn K mainGlobals "iter" = some none)
    (gL : PySem.W.nsIn K mainGlobals "LETTERS" = some (some (.str lets tk1)))
    (gS : PySem.W.nsIn K mainGlobals "SIGNS" = some (some (.str sigs tk2)))
    (gM : PySem.W.nsIn K mainGlobals "MOST_LETTERS" = some (some (.int 8 tk3)))
    (gG : PySem.W.nsIn K mainGlobals "MOST_GOODS" = some (some (.int 4 tk4)))
    (gY : PySem.W.nsIn K mainGlobals "MOST_WAYS" = some (some (.int 8 tk5)))
    (aM : PySem.W.nsIn K mainGlobals "BadNumber" = some (some (.ref M)))
    (xM : K.lookup M = some (excClassObj nm0 q0 M N0 bs0 bm0 true sn0 sub0 ab0 col0 dd0 m0_0 m0_1 m0_2 m0_3 m0_5 "ValueError.__new__"))
    (bmM : PySem.HandSPX.refsVE bm0 = true)
    (saM : PySem.W.findIn K (.ref M) "__setattr__" = some (some (.builtin "object.__setattr__")))
    (eM : PySem.W.subIn K (.ref M) (.type "BaseException") = some true)
    (tM : PySem.W.typeIn K (.ref M) = some (.type "type"))
    (kM : PySem.W.keepIn K (.ref M) = true)
    (a0 : PySem.W.findIn K (.ref M) "__init__" = some (some (.ref f0)))
    (t0 : PySem.W.typeIn K (.ref f0) = some (.type "function"))
    (l0 : K.lookup f0 = some ⟨oc0, od0, .func ((supF "BadNumber.__init__" s_BadNumber___init__ cc0 cd0).fd dc0 pm0 ct0), sl0⟩)
    (c0 : PySem.W.codeIn K (.ref cd0) "BadNumber.__init__" = true)
    (lc0 : K.lookup cd0 = some ⟨ccl0, cdd0, .fields vs0, ccs0⟩)
    (v0 : vs0[2]? = some (.str file0 tf0))
    (fil0 : ((PySem.Challenge.pw_waysofmaking_k15_books).main.file == file0) = true)
    (ll0 : K.lookup cc0 = some ⟨clc0, cld0, .cell (some (.ref M)), csl0⟩)
    (sbM : PySem.W.mroIn K M (.ref M) = some true)
    (suM : PySem.W.ks_superIn K M M "__init__" = some (some (.builtin "ValueError.__init__")))
    (svM : PySem.W.subIn K (.ref M) (.type "ValueError") = some true)
    (opM : PySem.W.nsIn K cStatics "thirdparty.any" = some none)
    (teM : PySem.W.exmOne K (.ref M) (.ref M) = some true)
    (nM_n : PySem.W.findIn K (.ref M) "n" = some none)
    (gaM : PySem.W.findIn K (.ref M) "__getattribute__" = some (some (.builtin "BaseException.__getattribute__")))
    (ggM : PySem.W.findIn K (.ref M) "__getattr__" = some none)
    (hdM : PySem.W.hasDictIn K M = true)
    (aN : PySem.W.nsIn K mainGlobals "BadName" = some (some (.ref N)))
    (xN : K.lookup N = some (excClassObj nm1 q1 N N1 bs1 bm1 true sn1 sub1 ab1 col1 dd1 m1_0 m1_1 m1_2 m1_3 m1_5 "ValueError.__new__"))
    (bmN : PySem.HandSPX.refsVE bm1 = true)
    (saN : PySem.W.findIn K (.ref N) "__setattr__" = some (some (.builtin "object.__setattr__")))
    (eN : PySem.W.subIn K (.ref N) (.type "BaseException") = some true)
    (tN : PySem.W.typeIn K (.ref N) = some (.type "type"))
    (kN : PySem.W.keepIn K (.ref N) = true)
    (a1 : PySem.W.findIn K (.ref N) "__init__" = some (some (.ref f1)))
    (t1 : PySem.W.typeIn K (.ref f1) = some (.type "function"))
    (l1 : K.lookup f1 = some ⟨oc1, od1, .func ((supF "BadName.__init__" s_BadName___init__ cc1 cd1).fd dc1 pm1 ct1), sl1⟩)
    (c1 : PySem.W.codeIn K (.ref cd1) "BadName.__init__" = true)
    (lc1 : K.lookup cd1 = some ⟨ccl1, cdd1, .fields vs1, ccs1⟩)
    (v1 : vs1[2]? = some (.str file1 tf1))
    (fil1 : ((PySem.Challenge.pw_waysofmaking_k15_books).main.file == file1) = true)
    (ll1 : K.lookup cc1 = some ⟨clc1, cld1, .cell (some (.ref N)), csl1⟩)
    (sbN : PySem.W.mroIn K N (.ref N) = some true)
    (suN : PySem.W.ks_superIn K N N "__init__" = some (some (.builtin "ValueError.__init__")))
    (svN : PySem.W.subIn K (.ref N) (.type "ValueError") = some true)
    (opN : PySem.W.nsIn K cStatics "thirdparty.any" = some none)
    (teN : PySem.W.exmOne K (.ref N) (.ref N) = some true)
    (nN_name : PySem.W.findIn K (.ref N) "name" = some none)
    (gaN : PySem.W.findIn K (.ref N) "__getattribute__" = some (some (.builtin "BaseException.__getattribute__")))
    (ggN : PySem.W.findIn K (.ref N) "__getattr__" = some none)
    (hdN : PySem.W.hasDictIn K N = true)
    (aD : PySem.W.nsIn K mainGlobals "DuplicateName" = some (some (.ref D)))
    (xD : K.lookup D = some (excClassObj nm2 q2 D N2 bs2 bm2 true sn2 sub2 ab2 col2 dd2 m2_0 m2_1 m2_2 m2_3 m2_5 "ValueError.__new__"))
    (bmD : PySem.HandSPX.refsVE bm2 = true)
    (saD : PySem.W.findIn K (.ref D) "__setattr__" = some (some (.builtin "object.__setattr__")))
    (eD : PySem.W.subIn K (.ref D) (.type "BaseException") = some true)
    (tD : PySem.W.typeIn K (.ref D) = some (.type "type"))
    (kD : PySem.W.keepIn K (.ref D) = true)
    (a2 : PySem.W.findIn K (.ref D) "__init__" = some (some (.ref f2)))
    (t2 : PySem.W.typeIn K (.ref f2) = some (.type "function"))
    (l2 : K.lookup f2 = some ⟨oc2, od2, .func ((supF "DuplicateName.__init__" s_DuplicateName___init__ cc2 cd2).fd dc2 pm2 ct2), sl2⟩)
    (c2 : PySem.W.codeIn K (.ref cd2) "DuplicateName.__init__" = true)
    (lc2 : K.lookup cd2 = some ⟨ccl2, cdd2, .fields vs2, ccs2⟩)
    (v2 : vs2[2]? = some (.str file2 tf2))
    (fil2 : ((PySem.Challenge.pw_waysofmaking_k15_books).main.file == file2) = true)
    (ll2 : K.lookup cc2 = some ⟨clc2, cld2, .cell (some (.ref D)), csl2⟩)
    (sbD : PySem.W.mroIn K D (.ref D) = some true)
    (suD : PySem.W.ks_superIn K D D "__init__" = some (some (.builtin "ValueError.__init__")))
    (svD : PySem.W.subIn K (.ref D) (.type "ValueError") = some true)
    (opD : PySem.W.nsIn K cStatics "thirdparty.any" = some none)
    (teD : PySem.W.exmOne K (.ref D) (.ref D) = some true)
    (nD_name : PySem.W.findIn K (.ref D) "name" = some none)
    (gaD : PySem.W.findIn K (.ref D) "__getattribute__" = some (some (.builtin "BaseException.__getattribute__")))
    (ggD : PySem.W.findIn K (.ref D) "__getattr__" = some none)
    (hdD : PySem.W.hasDictIn K D = true)
    (aU : PySem.W.nsIn K mainGlobals "UnknownName" = some (some (.ref U)))
    (xU : K.lookup U = some (excClassObj nm3 q3 U N3 bs3 bm3 true sn3 sub3 ab3 col3 dd3 m3_0 m3_1 m3_2 m3_3 m3_5 "ValueError.__new__"))
    (bmU : PySem.HandSPX.refsVE bm3 = true)
    (saU : PySem.W.findIn K (.ref U) "__setattr__" = some (some (.builtin "object.__setattr__")))
    (eU : PySem.W.subIn K (.ref U) (.type "BaseException") = some true)
    (tU : PySem.W.typeIn K (.ref U) = some (.type "type"))
    (kU : PySem.W.keepIn K (.ref U) = true)
    (a3 : PySem.W.findIn K (.ref U) "__init__" = some (some (.ref f3)))
    (t3 : PySem.W.typeIn K (.ref f3) = some (.type "function"))
    (l3 : K.lookup f3 = some ⟨oc3, od3, .func ((supF "UnknownName.__init__" s_UnknownName___init__ cc3 cd3).fd dc3 pm3 ct3), sl3⟩)
    (c3 : PySem.W.codeIn K (.ref cd3) "UnknownName.__init__" = true)
    (lc3 : K.lookup cd3 = some ⟨ccl3, cdd3, .fields vs3, ccs3⟩)
    (v3 : vs3[2]? = some (.str file3 tf3))
    (fil3 : ((PySem.Challenge.pw_waysofmaking_k15_books).main.file == file3) = true)
    (ll3 : K.lookup cc3 = some ⟨clc3, cld3, .cell (some (.ref U)), csl3⟩)
    (sbU : PySem.W.mroIn K U (.ref U) = some true)
    (suU : PySem.W.ks_superIn K U U "__init__" = some (some (.builtin "ValueError.__init__")))
    (svU : PySem.W.subIn K (.ref U) (.type "ValueError") = some true)
    (opU : PySem.W.nsIn K cStatics "thirdparty.any" = some none)
    (teU : PySem.W.exmOne K (.ref U) (.ref U) = some true)
    (nU_name : PySem.W.findIn K (.ref U) "name" = some none)
    (gaU : PySem.W.findIn K (.ref U) "__getattribute__" = some (some (.builtin "BaseException.__getattribute__")))
    (ggU : PySem.W.findIn K (.ref U) "__getattr__" = some none)
    (hdU : PySem.W.hasDictIn K U = true)
    (aV : PySem.W.nsIn K mainGlobals "BadWay" = some (some (.ref V)))
    (xV : K.lookup V = some (excClassObj nm4 q4 V N4 bs4 bm4 true sn4 sub4 ab4 col4 dd4 m4_0 m4_1 m4_2 m4_3 m4_5 "ValueError.__new__"))
    (bmV : PySem.HandSPX.refsVE bm4 = true)
    (saV : PySem.W.findIn K (.ref V) "__setattr__" = some (some (.builtin "object.__setattr__")))
    (eV : PySem.W.subIn K (.ref V) (.type "BaseException") = some true)
    (tV : PySem.W.typeIn K (.ref V) = some (.type "type"))
    (kV : PySem.W.keepIn K (.ref V) = true)
    (a4 : PySem.W.findIn K (.ref V) "__init__" = some (some (.ref f4)))
    (t4 : PySem.W.typeIn K (.ref f4) = some (.type "function"))
    (l4 : K.lookup f4 = some ⟨oc4, od4, .func ((supF "BadWay.__init__" s_BadWay___init__ cc4 cd4).fd dc4 pm4 ct4), sl4⟩)
    (c4 : PySem.W.codeIn K (.ref cd4) "BadWay.__init__" = true)
    (lc4 : K.lookup cd4 = some ⟨ccl4, cdd4, .fields vs4, ccs4⟩)
    (v4 : vs4[2]? = some (.str file4 tf4))
    (fil4 : ((PySem.Challenge.pw_waysofmaking_k15_books).main.file == file4) = true)
    (ll4 : K.lookup cc4 = some ⟨clc4, cld4, .cell (some (.ref V)), csl4⟩)
    (sbV : PySem.W.mroIn K V (.ref V) = some true)
    (suV : PySem.W.ks_superIn K V V "__init__" = some (some (.builtin "ValueError.__init__")))
    (svV : PySem.W.subIn K (.ref V) (.type "ValueError") = some true)
    (opV : PySem.W.nsIn K cStatics "thirdparty.any" = some none)
    (teV : PySem.W.exmOne K (.ref V) (.ref V) = some true)
    (nV_at : PySem.W.findIn K (.ref V) "at" = some none)
    (gaV : PySem.W.findIn K (.ref V) "__getattribute__" = some (some (.builtin "BaseException.__getattribute__")))
    (ggV : PySem.W.findIn K (.ref V) "__getattr__" = some none)
    (hdV : PySem.W.hasDictIn K V = true)
    (aW : PySem.W.nsIn K mainGlobals "Way" = some (some (.ref W)))
    (kcW : PySem.W.keepIn K (.ref W) = true)
    (mkW : PySem.W.makesIn K W = true)
    (pgW : PySem.W.plainGet K W Str.empty = true)
    (hdW : PySem.W.hasDictIn K W = true)
    (poW : PySem.W.plainOver K W = true)
    (saW : PySem.W.findIn K (.ref W) "__setattr__" = some (some (.builtin "object.__setattr__")))
    (sfW : PySem.W.selfFirst K W = true)
    (caW : PySem.W.findIn K (.ref W) "__class__" = some (some (.builtin "object.__class__")))
    (cnW : PySem.W.specialIn K (.builtin "object.__class__") "__get__" = some (some (.builtin "getset_descriptor.__get__")))
    (ctW : PySem.W.takesIn K (.builtin "object.__class__") = some true)
    (cmW : PySem.W.mroIn K W (.type "object") = some true)
    (nW_inputs : PySem.W.findIn K (.ref W) "inputs" = some none)
    (nW_hours : PySem.W.findIn K (.ref W) "hours" = some none)
    (nW_outputs : PySem.W.findIn K (.ref W) "outputs" = some none)
    (aC : PySem.W.nsIn K mainGlobals "Book" = some (some (.ref C)))
    (kcC : PySem.W.keepIn K (.ref C) = true)
    (mkC : PySem.W.makesIn K C = true)
    (pgC : PySem.W.plainGet K C Str.empty = true)
    (hdC : PySem.W.hasDictIn K C = true)
    (poC : PySem.W.plainOver K C = true)
    (saC : PySem.W.findIn K (.ref C) "__setattr__" = some (some (.builtin "object.__setattr__")))
    (sfC : PySem.W.selfFirst K C = true)
    (caC : PySem.W.findIn K (.ref C) "__class__" = some (some (.builtin "object.__class__")))
    (cnC : PySem.W.specialIn K (.builtin "object.__class__") "__get__" = some (some (.builtin "getset_descriptor.__get__")))
    (ctC : PySem.W.takesIn K (.builtin "object.__class__") = some true)
    (cmC : PySem.W.mroIn K C (.type "object") = some true)
    (nC_names : PySem.W.findIn K (.ref C) "names" = some none)
    (nC_ways : PySem.W.findIn K (.ref C) "ways" = some none)
    (nfW : PySem.W.notFirst K W (.ref W) = true)
    (nfC : PySem.W.notFirst K C (.ref C) = true)
    (nfl : PySem.W.notFirst K C (.type "list") = true)
    (neW : PySem.W.findIn K (.ref W) "__ne__" = some (some (.builtin "object.__ne__")))
    (neC : PySem.W.findIn K (.ref C) "__ne__" = some (some (.builtin "object.__ne__")))
    (ksS : PySem.W.kitOne K (.type "str") (.ref W) = some false)
    (ksL : PySem.W.kitOne K (.type "list") (.ref W) = some false)
    (kcL : PySem.W.kitOne K (.type "list") (.ref C) = some false)
    (tNM : PySem.W.exmOne K (.ref N) (.ref M) = some false)
    (tDM : PySem.W.exmOne K (.ref D) (.ref M) = some false)
    (tDN : PySem.W.exmOne K (.ref D) (.ref N) = some false)
    (tUM : PySem.W.exmOne K (.ref U) (.ref M) = some false)
    (tUN : PySem.W.exmOne K (.ref U) (.ref N) = some false)
    (tUD : PySem.W.exmOne K (.ref U) (.ref D) = some false)
    (tVM : PySem.W.exmOne K (.ref V) (.ref M) = some false)
    (tUV : PySem.W.exmOne K (.ref U) (.ref V) = some false)
    (tMV : PySem.W.exmOne K (.ref M) (.ref V) = some false)
    (tMU : PySem.W.exmOne K (.ref M) (.ref U) = some false)
    (a5 : PySem.W.nsIn K mainGlobals "is_name" = some (some (.ref f5)))
    (l5 : K.lookup f5 = some ⟨oc5, od5, .func (PySem.W.fnOf "is_name" "is_name" (defArgs s_is_name) (defBody s_is_name) (defScope s_is_name) .none kV5 dc5 pm5 an5 cd5 ct5), sl5⟩)
    (c5 : PySem.W.codeIn K cd5 "is_name" = true)
    (k5 : PySem.W.keepIn K (.ref f5) = true)
    (a6 : PySem.W.nsIn K mainGlobals "check_amounts" = some (some (.ref f6)))
    (l6 : K.lookup f6 = some ⟨oc6, od6, .func (PySem.W.fnOf "check_amounts" "check_amounts" (defArgs s_check_amounts) (defBody s_check_amounts) (defScope s_check_amounts) .none kV6 dc6 pm6 an6 cd6 ct6), sl6⟩)
    (c6 : PySem.W.codeIn K cd6 "check_amounts" = true)
    (k6 : PySem.W.keepIn K (.ref f6) = true)
    (a7 : PySem.W.nsIn K mainGlobals "kept_amounts" = some (some (.ref f7)))
    (l7 : K.lookup f7 = some ⟨oc7, od7, .func (PySem.W.fnOf "kept_amounts" "kept_amounts" (defArgs s_kept_amounts) (defBody s_kept_amounts) (defScope s_kept_amounts) .none kV7 dc7 pm7 an7 cd7 ct7), sl7⟩)
    (c7 : PySem.W.codeIn K cd7 "kept_amounts" = true)
    (k7 : PySem.W.keepIn K (.ref f7) = true)
    (a8 : PySem.W.findIn K (.ref W) "__init__" = some (some (.ref f8)))
    (i8 : PySem.W.isFn K (.ref f8) = true)
    (l8 : K.lookup f8 = some ⟨oc8, od8, .func (PySem.W.fnOf "__init__" "Way.__init__" (defArgs s_Way___init__) (defBody s_Way___init__) (defScope s_Way___init__) .none kV8 dc8 pm8 an8 cd8 ct8), sl8⟩)
    (c8 : PySem.W.codeIn K cd8 "Way.__init__" = true)
    (k8 : PySem.W.keepIn K (.ref f8) = true)
    (a9 : PySem.W.findIn K (.ref W) "taken" = some (some (.ref f9)))
    (i9 : PySem.W.isFn K (.ref f9) = true)
    (l9 : K.lookup f9 = some ⟨oc9, od9, .func (PySem.W.fnOf "taken" "Way.taken" (defArgs s_Way_taken) (defBody s_Way_taken) (defScope s_Way_taken) .none kV9 dc9 pm9 an9 cd9 ct9), sl9⟩)
    (c9 : PySem.W.codeIn K cd9 "Way.taken" = true)
    (k9 : PySem.W.keepIn K (.ref f9) = true)
    (a10 : PySem.W.findIn K (.ref W) "made" = some (some (.ref f10)))
    (i10 : PySem.W.isFn K (.ref f10) = true)
    (l10 : K.lookup f10 = some ⟨oc10, od10, .func (PySem.W.fnOf "made" "Way.made" (defArgs s_Way_made) (defBody s_Way_made) (defScope s_Way_made) .none kV10 dc10 pm10 an10 cd10 ct10), sl10⟩)
    (c10 : PySem.W.codeIn K cd10 "Way.made" = true)
    (k10 : PySem.W.keepIn K (.ref f10) = true)
    (a11 : PySem.W.findIn K (.ref W) "goods" = some (some (.ref f11)))
    (i11 : PySem.W.isFn K (.ref f11) = true)
    (l11 : K.lookup f11 = some ⟨oc11, od11, .func (PySem.W.fnOf "goods" "Way.goods" (defArgs s_Way_goods) (defBody s_Way_goods) (defScope s_Way_goods) .none kV11 dc11 pm11 an11 cd11 ct11), sl11⟩)
    (c11 : PySem.W.codeIn K cd11 "Way.goods" = true)
    (k11 : PySem.W.keepIn K (.ref f11) = true)
    (a12 : PySem.W.findIn K (.ref W) "is_plain" = some (some (.ref f12)))
    (i12 : PySem.W.isFn K (.ref f12) = true)
    (l12 : K.lookup f12 = some ⟨oc12, od12, .func (PySem.W.fnOf "is_plain" "Way.is_plain" (defArgs s_Way_is_plain) (defBody s_Way_is_plain) (defScope s_Way_is_plain) .none kV12 dc12 pm12 an12 cd12 ct12), sl12⟩)
    (c12 : PySem.W.codeIn K cd12 "Way.is_plain" = true)
    (k12 : PySem.W.keepIn K (.ref f12) = true)
    (a13 : PySem.W.findIn K (.ref W) "__eq__" = some (some (.ref f13)))
    (i13 : PySem.W.isFn K (.ref f13) = true)
    (l13 : K.lookup f13 = some ⟨oc13, od13, .func (PySem.W.fnOf "__eq__" "Way.__eq__" (defArgs s_Way___eq__) (defBody s_Way___eq__) (defScope s_Way___eq__) .none kV13 dc13 pm13 an13 cd13 ct13), sl13⟩)
    (c13 : PySem.W.codeIn K cd13 "Way.__eq__" = true)
    (k13 : PySem.W.keepIn K (.ref f13) = true)
    (a14 : PySem.W.nsIn K mainGlobals "check_goods" = some (some (.ref f14)))
    (l14 : K.lookup f14 = some ⟨oc14, od14, .func (PySem.W.fnOf "check_goods" "check_goods" (defArgs s_check_goods) (defBody s_check_goods) (defScope s_check_goods) .none kV14 dc14 pm14 an14 cd14 ct14), sl14⟩)
    (c14 : PySem.W.codeIn K cd14 "check_goods" = true)
    (k14 : PySem.W.keepIn K (.ref f14) = true)
    (a15 : PySem.W.findIn K (.ref C) "__init__" = some (some (.ref f15)))
    (i15 : PySem.W.isFn K (.ref f15) = true)
    (l15 : K.lookup f15 = some ⟨oc15, od15, .func (PySem.W.fnOf "__init__" "Book.__init__" (defArgs s_Book___init__) (defBody s_Book___init__) (defScope s_Book___init__) .none kV15 dc15 pm15 an15 cd15 ct15), sl15⟩)
    (c15 : PySem.W.codeIn K cd15 "Book.__init__" = true)
    (k15 : PySem.W.keepIn K (.ref f15) = true)
    (a16 : PySem.W.findIn K (.ref C) "__len__" = some (some (.ref f16)))
    (i16 : PySem.W.isFn K (.ref f16) = true)
    (l16 : K.lookup f16 = some ⟨oc16, od16, .func (PySem.W.fnOf "__len__" "Book.__len__" (defArgs s_Book___len__) (defBody s_Book___len__) (defScope s_Book___len__) .none kV16 dc16 pm16 an16 cd16 ct16), sl16⟩)
    (c16 : PySem.W.codeIn K cd16 "Book.__len__" = true)
    (k16 : PySem.W.keepIn K (.ref f16) = true)
    (a17 : PySem.W.findIn K (.ref C) "__iter__" = some (some (.ref f17)))
    (i17 : PySem.W.isFn K (.ref f17) = true)
    (l17 : K.lookup f17 = some ⟨oc17, od17, .func (PySem.W.fnOf "__iter__" "Book.__iter__" (defArgs s_Book___iter__) (defBody s_Book___iter__) (defScope s_Book___iter__) .none kV17 dc17 pm17 an17 cd17 ct17), sl17⟩)
    (c17 : PySem.W.codeIn K cd17 "Book.__iter__" = true)
    (k17 : PySem.W.keepIn K (.ref f17) = true)
    (a18 : PySem.W.findIn K (.ref C) "__eq__" = some (some (.ref f18)))
    (i18 : PySem.W.isFn K (.ref f18) = true)
    (l18 : K.lookup f18 = some ⟨oc18, od18, .func (PySem.W.fnOf "__eq__" "Book.__eq__" (defArgs s_Book___eq__) (defBody s_Book___eq__) (defScope s_Book___eq__) .none kV18 dc18 pm18 an18 cd18 ct18), sl18⟩)
    (c18 : PySem.W.codeIn K cd18 "Book.__eq__" = true)
    (k18 : PySem.W.keepIn K (.ref f18) = true)
    (a19 : PySem.W.findIn K (.ref C) "way" = some (some (.ref f19)))
    (i19 : PySem.W.isFn K (.ref f19) = true)
    (l19 : K.lookup f19 = some ⟨oc19, od19, .func (PySem.W.fnOf "way" "Book.way" (defArgs s_Book_way) (defBody s_Book_way) (defScope s_Book_way) .none kV19 dc19 pm19 an19 cd19 ct19), sl19⟩)
    (c19 : PySem.W.codeIn K cd19 "Book.way" = true)
    (k19 : PySem.W.keepIn K (.ref f19) = true)
    (a20 : PySem.W.findIn K (.ref C) "check_good" = some (some (.ref f20)))
    (i20 : PySem.W.isFn K (.ref f20) = true)
    (l20 : K.lookup f20 = some ⟨oc20, od20, .func (PySem.W.fnOf "check_good" "Book.check_good" (defArgs s_Book_check_good) (defBody s_Book_check_good) (defScope s_Book_check_good) .none kV20 dc20 pm20 an20 cd20 ct20), sl20⟩)
    (c20 : PySem.W.codeIn K cd20 "Book.check_good" = true)
    (k20 : PySem.W.keepIn K (.ref f20) = true)
    (a21 : PySem.W.findIn K (.ref C) "net" = some (some (.ref f21)))
    (i21 : PySem.W.isFn K (.ref f21) = true)
    (l21 : K.lookup f21 = some ⟨oc21, od21, .func (PySem.W.fnOf "net" "Book.net" (defArgs s_Book_net) (defBody s_Book_net) (defScope s_Book_net) .none kV21 dc21 pm21 an21 cd21 ct21), sl21⟩)
    (c21 : PySem.W.codeIn K cd21 "Book.net" = true)
    (k21 : PySem.W.keepIn K (.ref f21) = true)
    (a22 : PySem.W.findIn K (.ref C) "makers" = some (some (.ref f22)))
    (i22 : PySem.W.isFn K (.ref f22) = true)
    (l22 : K.lookup f22 = some ⟨oc22, od22, .func (PySem.W.fnOf "makers" "Book.makers" (defArgs s_Book_makers) (defBody s_Book_makers) (defScope s_Book_makers) .none kV22 dc22 pm22 an22 cd22 ct22), sl22⟩)
    (c22 : PySem.W.codeIn K cd22 "Book.makers" = true)
    (k22 : PySem.W.keepIn K (.ref f22) = true)
    (a23 : PySem.W.findIn K (.ref C) "joint" = some (some (.ref f23)))
    (i23 : PySem.W.isFn K (.ref f23) = true)
    (l23 : K.lookup f23 = some ⟨oc23, od23, .func (PySem.W.fnOf "joint" "Book.joint" (defArgs s_Book_joint) (defBody s_Book_joint) (defScope s_Book_joint) .none kV23 dc23 pm23 an23 cd23 ct23), sl23⟩)
    (c23 : PySem.W.codeIn K cd23 "Book.joint" = true)
    (k23 : PySem.W.keepIn K (.ref f23) = true)
    (a24 : PySem.W.findIn K (.ref C) "with_way" = some (some (.ref f24)))
    (i24 : PySem.W.isFn K (.ref f24) = true)
    (l24 : K.lookup f24 = some ⟨oc24, od24, .func (PySem.W.fnOf "with_way" "Book.with_way" (defArgs s_Book_with_way) (defBody s_Book_with_way) (defScope s_Book_with_way) .none kV24 dc24 pm24 an24 cd24 ct24), sl24⟩)
    (c24 : PySem.W.codeIn K cd24 "Book.with_way" = true)
    (k24 : PySem.W.keepIn K (.ref f24) = true)
    (a25 : PySem.W.findIn K (.ref C) "without" = some (some (.ref f25)))
    (i25 : PySem.W.isFn K (.ref f25) = true)
    (l25 : K.lookup f25 = some ⟨oc25, od25, .func (PySem.W.fnOf "without" "Book.without" (defArgs s_Book_without) (defBody s_Book_without) (defScope s_Book_without) .none kV25 dc25 pm25 an25 cd25 ct25), sl25⟩)
    (c25 : PySem.W.codeIn K cd25 "Book.without" = true)
    (k25 : PySem.W.keepIn K (.ref f25) = true)
    (a26 : PySem.W.findIn K (.ref C) "only" = some (some (.ref f26)))
    (i26 : PySem.W.isFn K (.ref f26) = true)
    (l26 : K.lookup f26 = some ⟨oc26, od26, .func (PySem.W.fnOf "only" "Book.only" (defArgs s_Book_only) (defBody s_Book_only) (defScope s_Book_only) .none kV26 dc26 pm26 an26 cd26 ct26), sl26⟩)
    (c26 : PySem.W.codeIn K cd26 "Book.only" = true)
    (k26 : PySem.W.keepIn K (.ref f26) = true)
    (a27 : PySem.W.nsIn K mainGlobals "_law_bag" = some (some (.ref f27)))
    (l27 : K.lookup f27 = some ⟨oc27, od27, .func (PySem.W.fnOf "_law_bag" "_law_bag" (defArgs s__law_bag) (defBody s__law_bag) (defScope s__law_bag) .none kV27 dc27 pm27 an27 cd27 ct27), sl27⟩)
    (c27 : PySem.W.codeIn K cd27 "_law_bag" = true)
    (k27 : PySem.W.keepIn K (.ref f27) = true)
    (a28 : PySem.W.nsIn K mainGlobals "_law_at_of" = some (some (.ref f28)))
    (l28 : K.lookup f28 = some ⟨oc28, od28, .func (PySem.W.fnOf "_law_at_of" "_law_at_of" (defArgs s__law_at_of) (defBody s__law_at_of) (defScope s__law_at_of) .none kV28 dc28 pm28 an28 cd28 ct28), sl28⟩)
    (c28 : PySem.W.codeIn K cd28 "_law_at_of" = true)
    (k28 : PySem.W.keepIn K (.ref f28) = true)
    (a29 : PySem.W.nsIn K mainGlobals "_law_draw" = some (some (.ref f29)))
    (l29 : K.lookup f29 = some ⟨oc29, od29, .func (PySem.W.fnOf "_law_draw" "_law_draw" (defArgs s__law_draw) (defBody s__law_draw) (defScope s__law_draw) .none kV29 dc29 pm29 an29 cd29 ct29), sl29⟩)
    (c29 : PySem.W.codeIn K cd29 "_law_draw" = true)
    (k29 : PySem.W.keepIn K (.ref f29) = true)
    (a30 : PySem.W.nsIn K mainGlobals "_law_labels" = some (some (.ref f30)))
    (l30 : K.lookup f30 = some ⟨oc30, od30, .func (PySem.W.fnOf "_law_labels" "_law_labels" (defArgs s__law_labels) (defBody s__law_labels) (defScope s__law_labels) .none kV30 dc30 pm30 an30 cd30 ct30), sl30⟩)
    (c30 : PySem.W.codeIn K cd30 "_law_labels" = true)
    (k30 : PySem.W.keepIn K (.ref f30) = true)
    (a31 : PySem.W.nsIn K mainGlobals "_law_amounts_of" = some (some (.ref f31)))
    (l31 : K.lookup f31 = some ⟨oc31, od31, .func (PySem.W.fnOf "_law_amounts_of" "_law_amounts_of" (defArgs s__law_amounts_of) (defBody s__law_amounts_of) (defScope s__law_amounts_of) .none kV31 dc31 pm31 an31 cd31 ct31), sl31⟩)
    (c31 : PySem.W.codeIn K cd31 "_law_amounts_of" = true)
    (k31 : PySem.W.keepIn K (.ref f31) = true)
    (a32 : PySem.W.nsIn K mainGlobals "_law_row_of" = some (some (.ref f32)))
    (l32 : K.lookup f32 = some ⟨oc32, od32, .func (PySem.W.fnOf "_law_row_of" "_law_row_of" (defArgs s__law_row_of) (defBody s__law_row_of) (defScope s__law_row_of) .none kV32 dc32 pm32 an32 cd32 ct32), sl32⟩)
    (c32 : PySem.W.codeIn K cd32 "_law_row_of" = true)
    (k32 : PySem.W.keepIn K (.ref f32) = true)
    (a33 : PySem.W.nsIn K mainGlobals "_law_rows_of" = some (some (.ref f33)))
    (l33 : K.lookup f33 = some ⟨oc33, od33, .func (PySem.W.fnOf "_law_rows_of" "_law_rows_of" (defArgs s__law_rows_of) (defBody s__law_rows_of) (defScope s__law_rows_of) .none kV33 dc33 pm33 an33 cd33 ct33), sl33⟩)
    (c33 : PySem.W.codeIn K cd33 "_law_rows_of" = true)
    (k33 : PySem.W.keepIn K (.ref f33) = true)
    (a34 : PySem.W.nsIn K mainGlobals "_law_book_of" = some (some (.ref f34)))
    (l34 : K.lookup f34 = some ⟨oc34, od34, .func (PySem.W.fnOf "_law_book_of" "_law_book_of" (defArgs s__law_book_of) (defBody s__law_book_of) (defScope s__law_book_of) .none kV34 dc34 pm34 an34 cd34 ct34), sl34⟩)
    (c34 : PySem.W.codeIn K cd34 "_law_book_of" = true)
    (k34 : PySem.W.keepIn K (.ref f34) = true)
    (a35 : PySem.W.nsIn K mainGlobals "_law_net" = some (some (.ref f35)))
    (l35 : K.lookup f35 = some ⟨oc35, od35, .func (PySem.W.fnOf "_law_net" "_law_net" (defArgs s__law_net) (defBody s__law_net) (defScope s__law_net) .none kV35 dc35 pm35 an35 cd35 ct35), sl35⟩)
    (c35 : PySem.W.codeIn K cd35 "_law_net" = true)
    (k35 : PySem.W.keepIn K (.ref f35) = true)
    (a36 : PySem.W.nsIn K mainGlobals "_law_call" = some (some (.ref f36)))
    (l36 : K.lookup f36 = some ⟨oc36, od36, .func (PySem.W.fnOf "_law_call" "_law_call" (defArgs s__law_call) (defBody s__law_call) (defScope s__law_call) .none kV36 dc36 pm36 an36 cd36 ct36), sl36⟩)
    (c36 : PySem.W.codeIn K cd36 "_law_call" = true)
    (k36 : PySem.W.keepIn K (.ref f36) = true)
    (a37 : PySem.W.nsIn K mainGlobals "_law_told_of" = some (some (.ref f37)))
    (l37 : K.lookup f37 = some ⟨oc37, od37, .func (PySem.W.fnOf "_law_told_of" "_law_told_of" (defArgs s__law_told_of) (defBody s__law_told_of) (defScope s__law_told_of) .none kV37 dc37 pm37 an37 cd37 ct37), sl37⟩)
    (c37 : PySem.W.codeIn K cd37 "_law_told_of" = true)
    (k37 : PySem.W.keepIn K (.ref f37) = true)
    (a38 : PySem.W.nsIn K mainGlobals "_law_due_of" = some (some (.ref f38)))
    (l38 : K.lookup f38 = some ⟨oc38, od38, .func (PySem.W.fnOf "_law_due_of" "_law_due_of" (defArgs s__law_due_of) (defBody s__law_due_of) (defScope s__law_due_of) .none kV38 dc38 pm38 an38 cd38 ct38), sl38⟩)
    (c38 : PySem.W.codeIn K cd38 "_law_due_of" = true)
    (k38 : PySem.W.keepIn K (.ref f38) = true)
    (a39 : PySem.W.nsIn K mainGlobals "_law_fits" = some (some (.ref f39)))
    (l39 : K.lookup f39 = some ⟨oc39, od39, .func (PySem.W.fnOf "_law_fits" "_law_fits" (defArgs s__law_fits) (defBody s__law_fits) (defScope s__law_fits) .none kV39 dc39 pm39 an39 cd39 ct39), sl39⟩)
    (c39 : PySem.W.codeIn K cd39 "_law_fits" = true)
    (k39 : PySem.W.keepIn K (.ref f39) = true)
    (a40 : PySem.W.nsIn K mainGlobals "_law_made" = some (some (.ref f40)))
    (l40 : K.lookup f40 = some ⟨oc40, od40, .func (PySem.W.fnOf "_law_made" "_law_made" (defArgs s__law_made) (defBody s__law_made) (defScope s__law_made) .none kV40 dc40 pm40 an40 cd40 ct40), sl40⟩)
    (c40 : PySem.W.codeIn K cd40 "_law_made" = true)
    (k40 : PySem.W.keepIn K (.ref f40) = true)
    (a41 : PySem.W.nsIn K mainGlobals "_law_made_due" = some (some (.ref f41)))
    (l41 : K.lookup f41 = some ⟨oc41, od41, .func (PySem.W.fnOf "_law_made_due" "_law_made_due" (defArgs s__law_made_due) (defBody s__law_made_due) (defScope s__law_made_due) .none kV41 dc41 pm41 an41 cd41 ct41), sl41⟩)
    (c41 : PySem.W.codeIn K cd41 "_law_made_due" = true)
    (k41 : PySem.W.keepIn K (.ref f41) = true)
    (a42 : PySem.W.nsIn K mainGlobals "_law_spoils_fit" = some (some (.ref f42)))
    (l42 : K.lookup f42 = some ⟨oc42, od42, .func (PySem.W.fnOf "_law_spoils_fit" "_law_spoils_fit" (defArgs s__law_spoils_fit) (defBody s__law_spoils_fit) (defScope s__law_spoils_fit) .none kV42 dc42 pm42 an42 cd42 ct42), sl42⟩)
    (c42 : PySem.W.codeIn K cd42 "_law_spoils_fit" = true)
    (k42 : PySem.W.keepIn K (.ref f42) = true)
    (a43 : PySem.W.nsIn K mainGlobals "_law_more_of" = some (some (.ref f43)))
    (l43 : K.lookup f43 = some ⟨oc43, od43, .func (PySem.W.fnOf "_law_more_of" "_law_more_of" (defArgs s__law_more_of) (defBody s__law_more_of) (defScope s__law_more_of) .none kV43 dc43 pm43 an43 cd43 ct43), sl43⟩)
    (c43 : PySem.W.codeIn K cd43 "_law_more_of" = true)
    (k43 : PySem.W.keepIn K (.ref f43) = true)
    (a44 : PySem.W.nsIn K mainGlobals "_law_only" = some (some (.ref f44)))
    (l44 : K.lookup f44 = some ⟨oc44, od44, .func (PySem.W.fnOf "_law_only" "_law_only" (defArgs s__law_only) (defBody s__law_only) (defScope s__law_only) .none kV44 dc44 pm44 an44 cd44 ct44), sl44⟩)
    (c44 : PySem.W.codeIn K cd44 "_law_only" = true)
    (k44 : PySem.W.keepIn K (.ref f44) = true)
    (a45 : PySem.W.nsIn K mainGlobals "_law_only_due" = some (some (.ref f45)))
    (l45 : K.lookup f45 = some ⟨oc45, od45, .func (PySem.W.fnOf "_law_only_due" "_law_only_due" (defArgs s__law_only_due) (defBody s__law_only_due) (defScope s__law_only_due) .none kV45 dc45 pm45 an45 cd45 ct45), sl45⟩)
    (c45 : PySem.W.codeIn K cd45 "_law_only_due" = true)
    (k45 : PySem.W.keepIn K (.ref f45) = true)
    (a46 : PySem.W.nsIn K mainGlobals "_law_parts_fit" = some (some (.ref f46)))
    (l46 : K.lookup f46 = some ⟨oc46, od46, .func (PySem.W.fnOf "_law_parts_fit" "_law_parts_fit" (defArgs s__law_parts_fit) (defBody s__law_parts_fit) (defScope s__law_parts_fit) .none kV46 dc46 pm46 an46 cd46 ct46), sl46⟩)
    (c46 : PySem.W.codeIn K cd46 "_law_parts_fit" = true)
    (k46 : PySem.W.keepIn K (.ref f46) = true)
    (a47 : PySem.W.nsIn K mainGlobals "law" = some (some (.ref f47)))
    (l47 : K.lookup f47 = some ⟨oc47, od47, .func (PySem.W.fnOf "law" "law" (defArgs s_law) (defBody s_law) (defScope s_law) .none kV47 dc47 pm47 an47 cd47 ct47), sl47⟩)
    (c47 : PySem.W.codeIn K cd47 "law" = true)
    (k47 : PySem.W.keepIn K (.ref f47) = true) :
    ∃ fd : FuncData, (∀ (s : Shared) (v : Value), BindsTo s fd ⟨[v], []⟩ [("_law_script", v)]) ∧ ∀ base : Heap, K.In base → base.Ns mainGlobals mg → FnOk PySem.Challenge.pw_waysofmaking_k15_books w K mg base (L2.CX PySem.Challenge.pw_waysofmaking_k15_books w) 12 fa fd P_law (spM (pLaw K)) := by
  have e := hfa.symm.trans (PySem.W.mg_of X G a47)
  cases e
  refine ⟨PySem.W.fnOf "law" "law" (defArgs s_law) (defBody s_law) (defScope s_law) .none kV47 dc47 pm47 an47 cd47 ct47, fun s v => .of_eq rfl, fun base _ _ => ?_⟩
  have htop : ((PySem.Challenge.pw_waysofmaking_k15_books).main.scope.names.lookup ("super" : Str)).isSome = false := by decide +kernel
  have xfM : XfC K M := ⟨gaM, ggM, eM, hdM⟩
  have scM : SupC PySem.Challenge.pw_waysofmaking_k15_books K mg "BadNumber" "BadNumber.__init__" s_BadNumber___init__ M f0 cc0 cd0 := ⟨⟨⟨_, _, _, _, _, _, _, _, _, _, _, _, _, _, _, xM, bmM⟩, saM, eM, tM, kM⟩, PySem.W.mg_of X G aM, a0, t0, ⟨_, _, _, _, _, _, l0⟩, c0, ⟨_, _, _, _, _, _, lc0, v0, fil0⟩, ⟨_, _, _, ll0⟩, sbM, PySem.W.mg_none_of X G z_super, suM, svM, opM, htop, teM⟩
  have T_BadNumber : Ke PySem.Challenge.pw_waysofmaking_k15_books w K mg base M "BadNumber" "n" 1 prInt := kE_BadNumber scM nM_n
  have xfN : XfC K N := ⟨gaN, ggN, eN, hdN⟩
  have scN : SupC PySem.Challenge.pw_waysofmaking_k15_books K mg "BadName" "BadName.__init__" s_BadName___init__ N f1 cc1 cd1 := ⟨⟨⟨_, _, _, _, _, _, _, _, _, _, _, _, _, _, _, xN, bmN⟩, saN, eN, tN, kN⟩, PySem.W.mg_of X G aN, a1, t1, ⟨_, _, _, _, _, _, l1⟩, c1, ⟨_, _, _, _, _, _, lc1, v1, fil1⟩, ⟨_, _, _, ll1⟩, sbN, PySem.W.mg_none_of X G z_super, suN, svN, opN, htop, teN⟩
  have T_BadName : Ke PySem.Challenge.pw_waysofmaking_k15_books w K mg base N "BadName" "name" 1 prStr := kE_BadName scN nN_name
  have xfD : XfC K D := ⟨gaD, ggD, eD, hdD⟩
  have scD : SupC PySem.Challenge.pw_waysofmaking_k15_books K mg "DuplicateName" "DuplicateName.__init__" s_DuplicateName___init__ D f2 cc2 cd2 := ⟨⟨⟨_, _, _, _, _, _, _, _, _, _, _, _, _, _, _, xD, bmD⟩, saD, eD, tD, kD⟩, PySem.W.mg_of X G aD, a2, t2, ⟨_, _, _, _, _, _, l2⟩, c2, ⟨_, _, _, _, _, _, lc2, v2, fil2⟩, ⟨_, _, _, ll2⟩, sbD, PySem.W.mg_none_of X G z_super, suD, svD, opD, htop, teD⟩
  have T_DuplicateName : Ke PySem.Challenge.pw_waysofmaking_k15_books w K mg base D "DuplicateName" "name" 1 prStr := kE_DuplicateName scD nD_name
  have xfU : XfC K U := ⟨gaU, ggU, eU, hdU⟩
  have scU : SupC PySem.Challenge.pw_waysofmaking_k15_books K mg "UnknownName" "UnknownName.__init__" s_UnknownName___init__ U f3 cc3 cd3 := ⟨⟨⟨_, _, _, _, _, _, _, _, _, _, _, _, _, _, _, xU, bmU⟩, saU, eU, tU, kU⟩, PySem.W.mg_of X G aU, a3, t3, ⟨_, _, _, _, _, _, l3⟩, c3, ⟨_, _, _, _, _, _, lc3, v3, fil3⟩, ⟨_, _, _, ll3⟩, sbU, PySem.W.mg_none_of X G z_super, suU, svU, opU, htop, teU⟩
  have T_UnknownName : Ke PySem.Challenge.pw_waysofmaking_k15_books w K mg base U "UnknownName" "name" 1 prStr := kE_UnknownName scU nU_name
  have xfV : XfC K V := ⟨gaV, ggV, eV, hdV⟩
  have scV : SupC PySem.Challenge.pw_waysofmaking_k15_books K mg "BadWay" "BadWay.__init__" s_BadWay___init__ V f4 cc4 cd4 := ⟨⟨⟨_, _, _, _, _, _, _, _, _, _, _, _, _, _, _, xV, bmV⟩, saV, eV, tV, kV⟩, PySem.W.mg_of X G aV, a4, t4, ⟨_, _, _, _, _, _, l4⟩, c4, ⟨_, _, _, _, _, _, lc4, v4, fil4⟩, ⟨_, _, _, ll4⟩, sbV, PySem.W.mg_none_of X G z_super, suV, svV, opV, htop, teV⟩
  have T_BadWay : Ke PySem.Challenge.pw_waysofmaking_k15_books w K mg base V "BadWay" "at" 1 prInt := kE_BadWay scV nV_at
  have clW : Cls K W := ⟨pgW, hdW, poW, saW⟩
  have cxW : ClsX K W := ⟨clW, sfW, caW, cnW, ctW, cmW⟩
  have clC : Cls K C := ⟨pgC, hdC, poC, saC⟩
  have cxC : ClsX K C := ⟨clC, sfC, caC, cnC, ctC, cmC⟩
  have WX : WayX K mg W := ⟨cxW, nW_inputs, nW_hours, nW_outputs, PySem.W.mg_of X G aW, nfW⟩
  have BX : BookX K mg C := ⟨cxC, nC_names, nC_ways, PySem.W.mg_of X G aC, nfC⟩
  have X4 : Err4 K mg M N D U := ⟨PySem.W.mg_of X G aM, PySem.W.mg_of X G aN, PySem.W.mg_of X G aD, PySem.W.mg_of X G aU, xfM, xfN, xfD, xfU, nM_n, nN_name, nD_name, nU_name, teM, teN, teD, teU, tNM, tDM, tDN, tUM, tUN, tUD⟩
  have XV : ErrV K mg M V := ⟨PySem.W.mg_of X G aV, xfV, nV_at, teV, tVM⟩
  have X3 : Err3 K M U V := ⟨tUV, tMV, tMU⟩
  have F5 := fun_mk (st := s_is_name) l5 c5 k5
  have b5 := F5.binds (ps := P_is_name) fun _ _ _ _ _ _ us hl => match us, hl with | [_], _ => rfl
  have T_is_name : Kf1 PySem.Challenge.pw_waysofmaking_k15_books w K mg base "is_name" 2 pName := ⟨f5, _, P_is_name, PySem.W.mg_of X G a5, k5, b5, kf_is_name F5 (PySem.W.mg_of X G gL) (PySem.W.mg_of X G gS) (PySem.W.mg_of X G gM) (PySem.W.mg_none_of X G z_len) (PySem.W.mg_none_of X G z_all)⟩
  have F6 := fun_mk (st := s_check_amounts) l6 c6 k6
  have b6 := F6.binds (ps := P_check_amounts) fun _ _ _ _ _ _ us hl => match us, hl with | [_], _ => rfl
  have T_check_amounts : Kf1 PySem.Challenge.pw_waysofmaking_k15_books w K mg base "check_amounts" 4 (pChk N M) := ⟨f6, _, P_check_amounts, PySem.W.mg_of X G a6, k6, b6, kf_check F6 T_is_name T_BadName T_BadNumber (PySem.W.mg_none_of X G z_list) (PySem.W.mg_none_of X G z_sorted)⟩
  have F7 := fun_mk (st := s_kept_amounts) l7 c7 k7
  have b7 := F7.binds (ps := P_kept_amounts) fun _ _ _ _ _ _ us hl => match us, hl with | [_], _ => rfl
  have T_kept_amounts : Kf1 PySem.Challenge.pw_waysofmaking_k15_books w K mg base "kept_amounts" 2 pKept := ⟨f7, _, P_kept_amounts, PySem.W.mg_of X G a7, k7, b7, kf_kept F7 (PySem.W.mg_none_of X G z_list) (PySem.W.mg_none_of X G z_sorted)⟩
  have F8 := fun_mk (st := s_Way___init__) l8 c8 k8
  have b8 := F8.binds (ps := P_Way___init__) fun _ _ _ _ _ _ us hl => match us, hl with | [_, _, _, _], _ => rfl
  have T_Way : Kc PySem.Challenge.pw_waysofmaking_k15_books w K mg base W "Way" 6 (pWayI W N M) := ⟨f8, _, P_Way___init__, PySem.W.mg_of X G aW, ⟨mkW, a8, i8, kcW⟩, b8, kf_winit F8 WX T_check_amounts T_kept_amounts T_BadNumber⟩
  have F9 := fun_mk (st := s_Way_taken) l9 c9 k9
  have b9 := F9.binds (ps := P_Way_taken) fun _ _ _ _ _ _ us hl => match us, hl with | [_, _], _ => rfl
  have T_Way_taken : Km PySem.Challenge.pw_waysofmaking_k15_books w K mg base W "taken" 2 (pTaken W) := ⟨f9, _, P_Way_taken, ⟨a9, i9, k9⟩, b9, kf_taken F9 WX⟩
  have F10 := fun_mk (st := s_Way_made) l10 c10 k10
  have b10 := F10.binds (ps := P_Way_made) fun _ _ _ _ _ _ us hl => match us, hl with | [_, _], _ => rfl
  have T_Way_made : Km PySem.Challenge.pw_waysofmaking_k15_books w K mg base W "made" 2 (pMade W) := ⟨f10, _, P_Way_made, ⟨a10, i10, k10⟩, b10, kf_made F10 WX⟩
  have F11 := fun_mk (st := s_Way_goods) l11 c11 k11
  have b11 := F11.binds (ps := P_Way_goods) fun _ _ _ _ _ _ us hl => match us, hl with | [_], _ => rfl
  have T_Way_goods : Kmn PySem.Challenge.pw_waysofmaking_k15_books w K mg base W "goods" 1 (pGoods W) := ⟨f11, _, P_Way_goods, ⟨a11, i11, k11⟩, b11, kf_goods F11 WX (PySem.W.mg_none_of X G z_list) (PySem.W.mg_none_of X G z_sorted)⟩
  have F12 := fun_mk (st := s_Way_is_plain) l12 c12 k12
  have b12 := F12.binds (ps := P_Way_is_plain) fun _ _ _ _ _ _ us hl => match us, hl with | [_], _ => rfl
  have T_Way_is_plain : Km PySem.Challenge.pw_waysofmaking_k15_books w K mg base W "is_plain" 1 (pPlain W) := ⟨f12, _, P_Way_is_plain, ⟨a12, i12, k12⟩, b12, kf_plain F12 WX (PySem.W.mg_none_of X G z_len)⟩
  have F13 := fun_mk (st := s_Way___eq__) l13 c13 k13
  have b13 := F13.binds (ps := P_Way___eq__) fun _ _ _ _ _ _ us hl => match us, hl with | [_, _], _ => rfl
  have T_Way___eq__ : Ko PySem.Challenge.pw_waysofmaking_k15_books w K mg base W "__eq__" 2 (pWEq W) := ⟨f13, _, P_Way___eq__, ⟨a13, i13⟩, b13, kf_weq F13 WX (PySem.W.mg_none_of X G z_isinstance) ksS ksL⟩
  have F14 := fun_mk (st := s_check_goods) l14 c14 k14
  have b14 := F14.binds (ps := P_check_goods) fun _ _ _ _ _ _ us hl => match us, hl with | [_, _], _ => rfl
  have T_check_goods : Kf1 PySem.Challenge.pw_waysofmaking_k15_books w K mg base "check_goods" 3 (pChkG W U) := ⟨f14, _, P_check_goods, PySem.W.mg_of X G a14, k14, b14, kf_chkg F14 WX T_Way_goods T_UnknownName⟩
  have F15 := fun_mk (st := s_Book___init__) l15 c15 k15
  have b15 := F15.binds (ps := P_Book___init__) fun _ _ _ _ _ _ us hl => match us, hl with | [_, _, _], _ => rfl
  have T_Book : Kc PySem.Challenge.pw_waysofmaking_k15_books w K mg base C "Book" 5 (pBookI C W M N D U) := ⟨f15, _, P_Book___init__, PySem.W.mg_of X G aC, ⟨mkC, a15, i15, kcC⟩, b15, kf_binit F15 BX T_check_goods T_is_name T_BadNumber T_BadName T_DuplicateName (PySem.W.mg_of X G gG) (PySem.W.mg_of X G gY) (PySem.W.mg_none_of X G z_len) (PySem.W.mg_none_of X G z_enumerate) (PySem.W.mg_none_of X G z_sorted) (PySem.W.mg_none_of X G z_tuple)⟩
  have F16 := fun_mk (st := s_Book___len__) l16 c16 k16
  have b16 := F16.binds (ps := P_Book___len__) fun _ _ _ _ _ _ us hl => match us, hl with | [_], _ => rfl
  have T_Book___len__ : Ko PySem.Challenge.pw_waysofmaking_k15_books w K mg base C "__len__" 1 (pBLen C W) := ⟨f16, _, P_Book___len__, ⟨a16, i16⟩, b16, kf_blen F16 BX (PySem.W.mg_none_of X G z_len)⟩
  have F17 := fun_mk (st := s_Book___iter__) l17 c17 k17
  have b17 := F17.binds (ps := P_Book___iter__) fun _ _ _ _ _ _ us hl => match us, hl with | [_], _ => rfl
  have Im : ItM K C f17 := ⟨a17, i17⟩
  have Ti : IterOk PySem.Challenge.pw_waysofmaking_k15_books w K mg base C f17 "ways" 1 := kf_biter F17 BX (PySem.W.mg_none_of X G z_iter) b17
  have F18 := fun_mk (st := s_Book___eq__) l18 c18 k18
  have b18 := F18.binds (ps := P_Book___eq__) fun _ _ _ _ _ _ us hl => match us, hl with | [_, _], _ => rfl
  have T_Book___eq__ : Ko PySem.Challenge.pw_waysofmaking_k15_books w K mg base C "__eq__" 4 (pBEq C W) := ⟨f18, _, P_Book___eq__, ⟨a18, i18⟩, b18, kf_beq F18 BX T_Way___eq__ nfW (PySem.W.mg_none_of X G z_isinstance) kcL⟩
  have F19 := fun_mk (st := s_Book_way) l19 c19 k19
  have b19 := F19.binds (ps := P_Book_way) fun _ _ _ _ _ _ us hl => match us, hl with | [_, _], _ => rfl
  have T_Book_way : Km PySem.Challenge.pw_waysofmaking_k15_books w K mg base C "way" 3 (pBWay C W V) := ⟨f19, _, P_Book_way, ⟨a19, i19, k19⟩, b19, kf_bway F19 BX T_BadWay (PySem.W.mg_none_of X G z_len)⟩
  have F20 := fun_mk (st := s_Book_check_good) l20 c20 k20
  have b20 := F20.binds (ps := P_Book_check_good) fun _ _ _ _ _ _ us hl => match us, hl with | [_, _], _ => rfl
  have T_Book_check_good : Km PySem.Challenge.pw_waysofmaking_k15_books w K mg base C "check_good" 3 (pBChk C W U) := ⟨f20, _, P_Book_check_good, ⟨a20, i20, k20⟩, b20, kf_bchk F20 BX T_UnknownName⟩
  have F21 := fun_mk (st := s_Book_net) l21 c21 k21
  have b21 := F21.binds (ps := P_Book_net) fun _ _ _ _ _ _ us hl => match us, hl with | [_, _, _], _ => rfl
  have T_Book_net : Km PySem.Challenge.pw_waysofmaking_k15_books w K mg base C "net" 4 (pBNet C W U V) := ⟨f21, _, P_Book_net, ⟨a21, i21, k21⟩, b21, kf_bnet F21 BX WX T_Book_way T_Book_check_good T_Way_taken T_Way_made⟩
  have F22 := fun_mk (st := s_Book_makers) l22 c22 k22
  have b22 := F22.binds (ps := P_Book_makers) fun _ _ _ _ _ _ us hl => match us, hl with | [_, _], _ => rfl
  have T_Book_makers : Km PySem.Challenge.pw_waysofmaking_k15_books w K mg base C "makers" 4 (pBMakE C W U) := ⟨f22, _, P_Book_makers, ⟨a22, i22, k22⟩, b22, kf_bmakE F22 BX WX T_Book_check_good T_Way_made (PySem.W.mg_none_of X G z_enumerate)⟩
  have T_makersN : Kmn PySem.Challenge.pw_waysofmaking_k15_books w K mg base C "makers" 4 (pBMakN C W) := ⟨f22, _, P_Book_makers, ⟨a22, i22, k22⟩, b22, kf_bmakN F22 BX WX T_Book_check_good T_Way_made (PySem.W.mg_none_of X G z_enumerate)⟩
  have F23 := fun_mk (st := s_Book_joint) l23 c23 k23
  have b23 := F23.binds (ps := P_Book_joint) fun _ _ _ _ _ _ us hl => match us, hl with | [_], _ => rfl
  have T_Book_joint : Km PySem.Challenge.pw_waysofmaking_k15_books w K mg base C "joint" 2 (pBJoint C W) := ⟨f23, _, P_Book_joint, ⟨a23, i23, k23⟩, b23, kf_bjoint F23 BX WX T_Way_is_plain (PySem.W.mg_none_of X G z_enumerate)⟩
  have F24 := fun_mk (st := s_Book_with_way) l24 c24 k24
  have b24 := F24.binds (ps := P_Book_with_way) fun _ _ _ _ _ _ us hl => match us, hl with | [_, _], _ => rfl
  have T_Book_with_way : Km PySem.Challenge.pw_waysofmaking_k15_books w K mg base C "with_way" 7 (pBWith C W M N D U) := ⟨f24, _, P_Book_with_way, ⟨a24, i24, k24⟩, b24, kf_bwith F24 BX T_Book T_BadNumber (PySem.W.mg_of X G gY) (PySem.W.mg_none_of X G z_len)⟩
  have F25 := fun_mk (st := s_Book_without) l25 c25 k25
  have b25 := F25.binds (ps := P_Book_without) fun _ _ _ _ _ _ us hl => match us, hl with | [_, _], _ => rfl
  have T_Book_without : Km PySem.Challenge.pw_waysofmaking_k15_books w K mg base C "without" 7 (pBOut C W M N D U V) := ⟨f25, _, P_Book_without, ⟨a25, i25, k25⟩, b25, kf_bout F25 BX T_Book T_Book_way T_BadNumber (PySem.W.mg_none_of X G z_len)⟩
  have F26 := fun_mk (st := s_Book_only) l26 c26 k26
  have b26 := F26.binds (ps := P_Book_only) fun _ _ _ _ _ _ us hl => match us, hl with | [_, _], _ => rfl
  have T_Book_only : Km PySem.Challenge.pw_waysofmaking_k15_books w K mg base C "only" 7 (pBOnly C W M N D U V) := ⟨f26, _, P_Book_only, ⟨a26, i26, k26⟩, b26, kf_bonly F26 BX T_Book T_Book_way T_BadNumber T_BadWay (PySem.W.mg_none_of X G z_len) (PySem.W.mg_none_of X G z_enumerate)⟩
  have F27 := fun_mk (st := s__law_bag) l27 c27 k27
  have b27 := F27.binds (ps := P__law_bag) fun _ _ _ _ _ _ us hl => match us, hl with | [_], _ => rfl
  have T__law_bag : KfN1 PySem.Challenge.pw_waysofmaking_k15_books w K mg base "_law_bag" 1 pBag := ⟨f27, _, P__law_bag, PySem.W.mg_of X G a27, k27, b27, kf_bag F27⟩
  have F28 := fun_mk (st := s__law_at_of) l28 c28 k28
  have b28 := F28.binds (ps := P__law_at_of) fun _ _ _ _ _ _ us hl => match us, hl with | [_, _], _ => rfl
  have T__law_at_of : Kf1 PySem.Challenge.pw_waysofmaking_k15_books w K mg base "_law_at_of" 1 (pAt K) := ⟨f28, _, P__law_at_of, PySem.W.mg_of X G a28, k28, b28, kf_at F28 (PySem.W.mg_none_of X G z_len)⟩
  have F29 := fun_mk (st := s__law_draw) l29 c29 k29
  have b29 := F29.binds (ps := P__law_draw) fun _ _ _ _ _ _ us hl => match us, hl with | [_, _], _ => rfl
  have T__law_draw : Kf1 PySem.Challenge.pw_waysofmaking_k15_books w K mg base "_law_draw" 1 pDraw := ⟨f29, _, P__law_draw, PySem.W.mg_of X G a29, k29, b29, kf_draw F29 (PySem.W.mg_none_of X G z_int)⟩
  have F30 := fun_mk (st := s__law_labels) l30 c30 k30
  have b30 := F30.binds (ps := P__law_labels) fun _ _ _ _ _ _ us hl => match us, hl with | [_, _], _ => rfl
  have T__law_labels : KfN1 PySem.Challenge.pw_waysofmaking_k15_books w K mg base "_law_labels" 2 pLab := ⟨f30, _, P__law_labels, PySem.W.mg_of X G a30, k30, b30, kf_lab F30 T__law_draw (PySem.W.mg_none_of X G z_len) (PySem.W.mg_none_of X G z_range)⟩
  have F31 := fun_mk (st := s__law_amounts_of) l31 c31 k31
  have b31 := F31.binds (ps := P__law_amounts_of) fun _ _ _ _ _ _ us hl => match us, hl with | [_, _, _], _ => rfl
  have T__law_amounts_of : KfN1 PySem.Challenge.pw_waysofmaking_k15_books w K mg base "_law_amounts_of" 2 pAms := ⟨f31, _, P__law_amounts_of, PySem.W.mg_of X G a31, k31, b31, kf_ams F31 T__law_draw⟩
  have F32 := fun_mk (st := s__law_row_of) l32 c32 k32
  have b32 := F32.binds (ps := P__law_row_of) fun _ _ _ _ _ _ us hl => match us, hl with | [_, _, _], _ => rfl
  have T__law_row_of : Kf1 PySem.Challenge.pw_waysofmaking_k15_books w K mg base "_law_row_of" 3 pRow := ⟨f32, _, P__law_row_of, PySem.W.mg_of X G a32, k32, b32, kf_row F32 T__law_draw T__law_amounts_of (PySem.W.mg_none_of X G z_len) (PySem.W.mg_none_of X G z_int)⟩
  have F33 := fun_mk (st := s__law_rows_of) l33 c33 k33
  have b33 := F33.binds (ps := P__law_rows_of) fun _ _ _ _ _ _ us hl => match us, hl with | [_, _, _], _ => rfl
  have T__law_rows_of : Kf1 PySem.Challenge.pw_waysofmaking_k15_books w K mg base "_law_rows_of" 4 pRows := ⟨f33, _, P__law_rows_of, PySem.W.mg_of X G a33, k33, b33, kf_rows F33 T__law_draw T__law_row_of (PySem.W.mg_none_of X G z_len) (PySem.W.mg_none_of X G z_range)⟩
  have F34 := fun_mk (st := s__law_book_of) l34 c34 k34
  have b34 := F34.binds (ps := P__law_book_of) fun _ _ _ _ _ _ us hl => match us, hl with | [_, _], _ => rfl
  have T__law_book_of : Kf1 PySem.Challenge.pw_waysofmaking_k15_books w K mg base "_law_book_of" 8 (pBookOf C W M N D U) := ⟨f34, _, P__law_book_of, PySem.W.mg_of X G a34, k34, b34, kf_bookof F34 T_Book T_Way⟩
  have F35 := fun_mk (st := s__law_net) l35 c35 k35
  have b35 := F35.binds (ps := P__law_net) fun _ _ _ _ _ _ us hl => match us, hl with | [_, _], _ => rfl
  have T__law_net : Kf1 PySem.Challenge.pw_waysofmaking_k15_books w K mg base "_law_net" 2 pNet := ⟨f35, _, P__law_net, PySem.W.mg_of X G a35, k35, b35, kf_net F35⟩
  have F36 := fun_mk (st := s__law_call) l36 c36 k36
  have b36 := F36.binds (ps := P__law_call) fun _ _ _ _ _ _ us hl => match us, hl with | [_, _, _, _], _ => rfl
  have T__law_call : Kf1 PySem.Challenge.pw_waysofmaking_k15_books w K mg base "_law_call" 8 (pCallB C W M U V) := ⟨f36, _, P__law_call, PySem.W.mg_of X G a36, k36, b36, kf_callb F36 BX T_Book_way T_Book_net T_Book_makers T_Book_without T_Book_only⟩
  have F37 := fun_mk (st := s__law_told_of) l37 c37 k37
  have b37 := F37.binds (ps := P__law_told_of) fun _ _ _ _ _ _ us hl => match us, hl with | [_, _, _, _], _ => rfl
  have T__law_told_of : Kf1 PySem.Challenge.pw_waysofmaking_k15_books w K mg base "_law_told_of" 9 (pToldB C W) := ⟨f37, _, P__law_told_of, PySem.W.mg_of X G a37, k37, b37, kf_toldb F37 T__law_call X4 XV X3⟩
  have F38 := fun_mk (st := s__law_due_of) l38 c38 k38
  have b38 := F38.binds (ps := P__law_due_of) fun _ _ _ _ _ _ us hl => match us, hl with | [_, _, _, _, _], _ => rfl
  have T__law_due_of : Kf1 PySem.Challenge.pw_waysofmaking_k15_books w K mg base "_law_due_of" 9 (pDueB C W) := ⟨f38, _, P__law_due_of, PySem.W.mg_of X G a38, k38, b38, kf_dueb F38 T_Way T__law_net T__law_book_of (PySem.W.mg_none_of X G z_len) (PySem.W.mg_none_of X G z_range)⟩
  have XC : CmpX PySem.Challenge.pw_waysofmaking_k15_books w K mg base C W := ⟨T_Way___eq__, T_Book___eq__, ⟨neW, cmW⟩, ⟨neC, cmC⟩, nfW, nfC⟩
  have F39 := fun_mk (st := s__law_fits) l39 c39 k39
  have b39 := F39.binds (ps := P__law_fits) fun _ _ _ _ _ _ us hl => match us, hl with | [_, _, _, _], _ => rfl
  have T__law_fits : Kf1 PySem.Challenge.pw_waysofmaking_k15_books w K mg base "_law_fits" 10 (pFitsB C W) := ⟨f39, _, P__law_fits, PySem.W.mg_of X G a39, k39, b39, kf_fitsb F39 BX XC T_Way T_Book___len__ Im Ti T_Book_joint T_makersN T__law_draw T__law_told_of T__law_due_of (PySem.W.mg_none_of X G z_len) (PySem.W.mg_none_of X G z_range) (PySem.W.mg_none_of X G z_sorted) (PySem.W.mg_none_of X G z_tuple)⟩
  have F40 := fun_mk (st := s__law_made) l40 c40 k40
  have b40 := F40.binds (ps := P__law_made) fun _ _ _ _ _ _ us hl => match us, hl with | [_, _], _ => rfl
  have T__law_made : Kf1 PySem.Challenge.pw_waysofmaking_k15_books w K mg base "_law_made" 7 (pMadeB C W) := ⟨f40, _, P__law_made, PySem.W.mg_of X G a40, k40, b40, kf_made_b F40 T_Book X4⟩
  have F41 := fun_mk (st := s__law_made_due) l41 c41 k41
  have b41 := F41.binds (ps := P__law_made_due) fun _ _ _ _ _ _ us hl => match us, hl with | [_, _], _ => rfl
  have T__law_made_due : Kf1 PySem.Challenge.pw_waysofmaking_k15_books w K mg base "_law_made_due" 3 pMadeDue := ⟨f41, _, P__law_made_due, PySem.W.mg_of X G a41, k41, b41, kf_madedue F41 (PySem.W.mg_none_of X G z_len) (PySem.W.mg_none_of X G z_range) (PySem.W.mg_none_of X G z_list) (PySem.W.mg_none_of X G z_sorted) (PySem.W.mg_none_of X G z_set)⟩
  have SX : SpX PySem.Challenge.pw_waysofmaking_k15_books w K mg base C W M N := ⟨T__law_draw, T_Way, T__law_made, T__law_made_due, T__law_fits, PySem.W.mg_none_of X G z_len, PySem.W.mg_none_of X G z_range, PySem.W.mg_none_of X G z_list, PySem.W.mg_none_of X G z_tuple⟩
  have F42 := fun_mk (st := s__law_spoils_fit) l42 c42 k42
  have b42 := F42.binds (ps := P__law_spoils_fit) fun _ _ _ _ _ _ us hl => match us, hl with | [_, _, _], _ => rfl
  have T__law_spoils_fit : Kf1 PySem.Challenge.pw_waysofmaking_k15_books w K mg base "_law_spoils_fit" 11 pSpoilB := ⟨f42, _, P__law_spoils_fit, PySem.W.mg_of X G a42, k42, b42, kf_spoilb F42 SX⟩
  have F43 := fun_mk (st := s__law_more_of) l43 c43 k43
  have b43 := F43.binds (ps := P__law_more_of) fun _ _ _ _ _ _ us hl => match us, hl with | [_, _], _ => rfl
  have T__law_more_of : Kf1 PySem.Challenge.pw_waysofmaking_k15_books w K mg base "_law_more_of" 8 (pMoreB C W) := ⟨f43, _, P__law_more_of, PySem.W.mg_of X G a43, k43, b43, kf_more F43 BX T_Book_with_way X4⟩
  have F44 := fun_mk (st := s__law_only) l44 c44 k44
  have b44 := F44.binds (ps := P__law_only) fun _ _ _ _ _ _ us hl => match us, hl with | [_, _], _ => rfl
  have T__law_only : Kf1 PySem.Challenge.pw_waysofmaking_k15_books w K mg base "_law_only" 8 (pOnlyB C W) := ⟨f44, _, P__law_only, PySem.W.mg_of X G a44, k44, b44, kf_only_b F44 BX T_Book_only X4 XV⟩
  have F45 := fun_mk (st := s__law_only_due) l45 c45 k45
  have b45 := F45.binds (ps := P__law_only_due) fun _ _ _ _ _ _ us hl => match us, hl with | [_, _, _], _ => rfl
  have T__law_only_due : Kf1 PySem.Challenge.pw_waysofmaking_k15_books w K mg base "_law_only_due" 9 (pOnlyDue C W) := ⟨f45, _, P__law_only_due, PySem.W.mg_of X G a45, k45, b45, kf_onlydue F45 T__law_book_of (PySem.W.mg_none_of X G z_len) (PySem.W.mg_none_of X G z_range)⟩
  have PX : PtX PySem.Challenge.pw_waysofmaking_k15_books w K mg base C W M N D U := ⟨XC, T__law_draw, T__law_row_of, T_Way, T__law_book_of, T__law_more_of, T__law_only, T__law_only_due, PySem.W.mg_none_of X G z_len, PySem.W.mg_none_of X G z_range, PySem.W.mg_none_of X G z_tuple⟩
  have F46 := fun_mk (st := s__law_parts_fit) l46 c46 k46
  have b46 := F46.binds (ps := P__law_parts_fit) fun _ _ _ _ _ _ us hl => match us, hl with | [_, _, _, _], _ => rfl
  have T__law_parts_fit : Kf1 PySem.Challenge.pw_waysofmaking_k15_books w K mg base "_law_parts_fit" 10 (pPartsB C W) := ⟨f46, _, P__law_parts_fit, PySem.W.mg_of X G a46, k46, b46, kf_partsb F46 PX⟩
  have LX : LwX PySem.Challenge.pw_waysofmaking_k15_books w K mg base C W M N D U V := ⟨XC, BX, T__law_bag, T__law_at_of, T__law_draw, T__law_labels, T__law_rows_of, T_Way, T_Book, T__law_book_of, T_Book_way, T__law_fits, T__law_spoils_fit, T__law_parts_fit, PySem.W.mg_none_of X G z_len, PySem.W.mg_none_of X G z_range, PySem.W.mg_none_of X G z_list, nfl⟩
  have F47 := fun_mk (st := s_law) l47 c47 k47
  exact kf_law F47 LX
end W1
set_option maxRecDepth 100000
open PySem PySem.W PyProof.Rows in
set_option maxRecDepth 100000 in
set_option maxHeartbeats 0 in
theorem PySem.Challenge.cw_waysofmaking_k15_books_holds : PySem.Challenge.rw_waysofmaking_k15_books.Holds := by
  w_on; o_law; k_head; (case hw => w_witness2)
  k_fill
  refine L2.walk_of (l := PySem.Challenge.rw_waysofmaking_k15_books) (n := 63) (k := 12) (x := "_law_script") (CX := fun w => L2.CX PySem.Challenge.pw_waysofmaking_k15_books w) (sp := fun w => W1.spM (W1.pLaw _)) rfl (by decide) rfl ⟨rfl, by decide, by decide⟩ (fun w h Y => PySem.W.kIn_of Y) ?F W1.law_sp ?Z
  case Z => exact W1.law_cx
  case F =>
    intro w mg fa h KX G hmg
    refine' W1.all_mk KX G hmg ?z_super ?z_list ?z_sorted ?z_len ?z_all ?z_isinstance ?z_set ?z_int ?z_range ?z_tuple ?z_enumerate ?z_iter ?gL ?gS ?gM ?gG ?gY ?aM ?xM ?bmM ?saM ?eM ?tM ?kM ?a0 ?t0 ?l0 ?c0 ?lc0 ?v0 ?fil0 ?ll0 ?sbM ?suM ?svM ?opM ?teM ?nM_n ?gaM ?ggM ?hdM ?aN ?xN ?bmN ?saN ?eN ?tN ?kN ?a1 ?t1 ?l1 ?c1 ?lc1 ?v1 ?fil1 ?ll1 ?sbN ?suN ?svN ?opN ?teN ?nN_name ?gaN ?ggN ?hdN ?aD ?xD ?bmD ?saD ?eD ?tD ?kD ?a2 ?t2 ?l2 ?c2 ?lc2 ?v2 ?fil2 ?ll2 ?sbD ?suD ?svD ?opD ?teD ?nD_name ?gaD ?ggD ?hdD ?aU ?xU ?bmU ?saU ?eU ?tU ?kU ?a3 ?t3 ?l3 ?c3 ?lc3 ?v3 ?fil3 ?ll3 ?sbU ?suU ?svU ?opU ?teU ?nU_name ?gaU ?ggU ?hdU ?aV ?xV ?bmV ?saV ?eV ?tV ?kV ?a4 ?t4 ?l4 ?c4 ?lc4 ?v4 ?fil4 ?ll4 ?sbV ?suV ?svV ?opV ?teV ?nV_at ?gaV ?ggV ?hdV ?aW ?kcW ?mkW ?pgW ?hdW ?poW ?saW ?sfW ?caW ?cnW ?ctW ?cmW ?nW_inputs ?nW_hours ?nW_outputs ?aC ?kcC ?mkC ?pgC ?hdC ?poC ?saC ?sfC ?caC ?cnC ?ctC ?cmC ?nC_names ?nC_ways ?nfW ?nfC ?nfl ?neW ?neC ?ksS ?ksL ?kcL ?tNM ?tDM ?tDN ?tUM ?tUN ?tUD ?tVM ?tUV ?tMV ?tMU ?a5 ?l5 ?c5 ?k5 ?a6 ?l6 ?c6 ?k6 ?a7 ?l7 ?c7 ?k7 ?a8 ?i8 ?l8 ?c8 ?k8 ?a9 ?i9 ?l9 ?c9 ?k9 ?a10 ?i10 ?l10 ?c10 ?k10 ?a11 ?i11 ?l11 ?c11 ?k11 ?a12 ?i12 ?l12 ?c12 ?k12 ?a13 ?i13 ?l13 ?c13 ?k13 ?a14 ?l14 ?c14 ?k14 ?a15 ?i15 ?l15 ?c15 ?k15 ?a16 ?i16 ?l16 ?c16 ?k16 ?a17 ?i17 ?l17 ?c17 ?k17 ?a18 ?i18 ?l18 ?c18 ?k18 ?a19 ?i19 ?l19 ?c19 ?k19 ?a20 ?i20 ?l20 ?c20 ?k20 ?a21 ?i21 ?l21 ?c21 ?k21 ?a22 ?i22 ?l22 ?c22 ?k22 ?a23 ?i23 ?l23 ?c23 ?k23 ?a24 ?i24 ?l24 ?c24 ?k24 ?a25 ?i25 ?l25 ?c25 ?k25 ?a26 ?i26 ?l26 ?c26 ?k26 ?a27 ?l27 ?c27 ?k27 ?a28 ?l28 ?c28 ?k28 ?a29 ?l29 ?c29 ?k29 ?a30 ?l30 ?c30 ?k30 ?a31 ?l31 ?c31 ?k31 ?a32 ?l32 ?c32 ?k32 ?a33 ?l33 ?c33 ?k33 ?a34 ?l34 ?c34 ?k34 ?a35 ?l35 ?c35 ?k35 ?a36 ?l36 ?c36 ?k36 ?a37 ?l37 ?c37 ?k37 ?a38 ?l38 ?c38 ?k38 ?a39 ?l39 ?c39 ?k39 ?a40 ?l40 ?c40 ?k40 ?a41 ?l41 ?c41 ?k41 ?a42 ?l42 ?c42 ?k42 ?a43 ?l43 ?c43 ?k43 ?a44 ?l44 ?c44 ?k44 ?a45 ?l45 ?c45 ?k45 ?a46 ?l46 ?c46 ?k46 ?a47 ?l47 ?c47 ?k47
    (case z_super => k_is)
    (case z_list => k_is)
    (case z_sorted => k_is)
    (case z_len => k_is)
    (case z_all => k_is)
    (case z_isinstance => k_is)
    (case z_set => k_is)
    (case z_int => k_is)
    (case z_range => k_is)
    (case z_tuple => k_is)
    (case z_enumerate => k_is)
    (case z_iter => k_is)
    (case gL => k_is)
    (case gS => k_is)
    (case gM => k_is)
    (case gG => k_is)
    (case gY => k_is)
    (case aM => k_is)
    (case xM => k_is)
    (case bmM => rfl)
    (case saM => k_is)
    (case eM => k_is)
    (case tM => k_is)
    (case kM => k_is)
    (case a0 => k_is)
    (case t0 => k_is)
    (case l0 => k_is)
    (case c0 => k_is)
    (case lc0 => k_is)
    (case v0 => rfl)
    (case fil0 => first | rfl | decide +kernel)
    (case ll0 => k_is)
    (case sbM => k_is)
    (case suM => ks_is)
    (case svM => k_is)
    (case opM => k_is)
    (case teM => kts_exm)
    (case nM_n => k_is)
    (case gaM => k_is)
    (case ggM => k_is)
    (case hdM => k_is)
    (case aN => k_is)
    (case xN => k_is)
    (case bmN => rfl)
    (case saN => k_is)
    (case eN => k_is)
    (case tN => k_is)
    (case kN => k_is)
    (case a1 => k_is)
    (case t1 => k_is)
    (case l1 => k_is)
    (case c1 => k_is)
    (case lc1 => k_is)
    (case v1 => rfl)
    (case fil1 => first | rfl | decide +kernel)
    (case ll1 => k_is)
    (case sbN => k_is)
    (case suN => ks_is)
    (case svN => k_is)
    (case opN => k_is)
    (case teN => kts_exm)
    (case nN_name => k_is)
    (case gaN => k_is)
    (case ggN => k_is)
    (case hdN => k_is)
    (case aD => k_is)
    (case xD => k_is)
    (case bmD => rfl)
    (case saD => k_is)
    (case eD => k_is)
    (case tD => k_is)
    (case kD => k_is)
    (case a2 => k_is)
    (case t2 => k_is)
    (case l2 => k_is)
    (case c2 => k_is)
    (case lc2 => k_is)
    (case v2 => rfl)
    (case fil2 => first | rfl | decide +kernel)
    (case ll2 => k_is)
    (case sbD => k_is)
    (case suD => ks_is)
    (case svD => k_is)
    (case opD => k_is)
    (case teD => kts_exm)
    (case nD_name => k_is)
    (case gaD => k_is)
    (case ggD => k_is)
    (case hdD => k_is)
    (case aU => k_is)
    (case xU => k_is)
    (case bmU => rfl)
    (case saU => k_is)
    (case eU => k_is)
    (case tU => k_is)
    (case kU => k_is)
    (case a3 => k_is)
    (case t3 => k_is)
    (case l3 => k_is)
    (case c3 => k_is)
    (case lc3 => k_is)
    (case v3 => rfl)
    (case fil3 => first | rfl | decide +kernel)
    (case ll3 => k_is)
    (case sbU => k_is)
    (case suU => ks_is)
    (case svU => k_is)
    (case opU => k_is)
    (case teU => kts_exm)
    (case nU_name => k_is)
    (case gaU => k_is)
    (case ggU => k_is)
    (case hdU => k_is)
    (case aV => k_is)
    (case xV => k_is)
    (case bmV => rfl)
    (case saV => k_is)
    (case eV => k_is)
    (case tV => k_is)
    (case kV => k_is)
    (case a4 => k_is)
    (case t4 => k_is)
    (case l4 => k_is)
    (case c4 => k_is)
    (case lc4 => k_is)
    (case v4 => rfl)
    (case fil4 => first | rfl | decide +kernel)
    (case ll4 => k_is)
    (case sbV => k_is)
    (case suV => ks_is)
    (case svV => k_is)
    (case opV => k_is)
    (case teV => kts_exm)
    (case nV_at => k_is)
    (case gaV => k_is)
    (case ggV => k_is)
    (case hdV => k_is)
    (case aW => k_is)
    (case kcW => k_is)
    (case mkW => k_is)
    (case pgW => k_is)
    (case hdW => k_is)
    (case poW => k_is)
    (case saW => k_is)
    (case sfW => k_is)
    (case caW => k_is)
    (case cnW => k_is)
    (case ctW => k_is)
    (case cmW => k_is)
    (case nW_inputs => k_is)
    (case nW_hours => k_is)
    (case nW_outputs => k_is)
    (case aC => k_is)
    (case kcC => k_is)
    (case mkC => k_is)
    (case pgC => k_is)
    (case hdC => k_is)
    (case poC => k_is)
    (case saC => k_is)
    (case sfC => k_is)
    (case caC => k_is)
    (case cnC => k_is)
    (case ctC => k_is)
    (case cmC => k_is)
    (case nC_names => k_is)
    (case nC_ways => k_is)
    (case nfW => k_is)
    (case nfC => k_is)
    (case nfl => k_is)
    (case neW => k_is)
    (case neC => k_is)
    (case ksS => kit_is)
    (case ksL => kit_is)
    (case kcL => kit_is)
    (case tNM => kts_exm)
    (case tDM => kts_exm)
    (case tDN => kts_exm)
    (case tUM => kts_exm)
    (case tUN => kts_exm)
    (case tUD => kts_exm)
    (case tVM => kts_exm)
    (case tUV => kts_exm)
    (case tMV => kts_exm)
    (case tMU => kts_exm)
    (case a5 => k_is)
    (case l5 => k_is)
    (case c5 => k_is)
    (case k5 => k_is)
    (case a6 => k_is)
    (case l6 => k_is)
    (case c6 => k_is)
    (case k6 => k_is)
    (case a7 => k_is)
    (case l7 => k_is)
    (case c7 => k_is)
    (case k7 => k_is)
    (case a8 => k_is)
    (case i8 => k_is)
    (case l8 => k_is)
    (case c8 => k_is)
    (case k8 => k_is)
    (case a9 => k_is)
    (case i9 => k_is)
    (case l9 => k_is)
    (case c9 => k_is)
    (case k9 => k_is)
    (case a10 => k_is)
    (case i10 => k_is)
    (case l10 => k_is)
    (case c10 => k_is)
    (case k10 => k_is)
    (case a11 => k_is)
    (case i11 => k_is)
    (case l11 => k_is)
    (case c11 => k_is)
    (case k11 => k_is)
    (case a12 => k_is)
    (case i12 => k_is)
    (case l12 => k_is)
    (case c12 => k_is)
    (case k12 => k_is)
    (case a13 => k_is)
    (case i13 => k_is)
    (case l13 => k_is)
    (case c13 => k_is)
    (case k13 => k_is)
    (case a14 => k_is)
    (case l14 => k_is)
    (case c14 => k_is)
    (case k14 => k_is)
    (case a15 => k_is)
    (case i15 => k_is)
    (case l15 => k_is)
    (case c15 => k_is)
    (case k15 => k_is)
    (case a16 => k_is)
    (case i16 => k_is)
    (case l16 => k_is)
    (case c16 => k_is)
    (case k16 => k_is)
    (case a17 => k_is)
    (case i17 => k_is)
    (case l17 => k_is)
    (case c17 => k_is)
    (case k17 => k_is)
    (case a18 => k_is)
    (case i18 => k_is)
    (case l18 => k_is)
    (case c18 => k_is)
    (case k18 => k_is)
    (case a19 => k_is)
    (case i19 => k_is)
    (case l19 => k_is)
    (case c19 => k_is)
    (case k19 => k_is)
    (case a20 => k_is)
    (case i20 => k_is)
    (case l20 => k_is)
    (case c20 => k_is)
    (case k20 => k_is)
    (case a21 => k_is)
    (case i21 => k_is)
    (case l21 => k_is)
    (case c21 => k_is)
    (case k21 => k_is)
    (case a22 => k_is)
    (case i22 => k_is)
    (case l22 => k_is)
    (case c22 => k_is)
    (case k22 => k_is)
    (case a23 => k_is)
    (case i23 => k_is)
    (case l23 => k_is)
    (case c23 => k_is)
    (case k23 => k_is)
    (case a24 => k_is)
    (case i24 => k_is)
    (case l24 => k_is)
    (case c24 => k_is)
    (case k24 => k_is)
    (case a25 => k_is)
    (case i25 => k_is)
    (case l25 => k_is)
    (case c25 => k_is)
    (case k25 => k_is)
    (case a26 => k_is)
    (case i26 => k_is)
    (case l26 => k_is)
    (case c26 => k_is)
    (case k26 => k_is)
    (case a27 => k_is)
    (case l27 => k_is)
    (case c27 => k_is)
    (case k27 => k_is)
    (case a28 => k_is)
    (case l28 => k_is)
    (case c28 => k_is)
    (case k28 => k_is)
    (case a29 => k_is)
    (case l29 => k_is)
    (case c29 => k_is)
    (case k29 => k_is)
    (case a30 => k_is)
    (case l30 => k_is)
    (case c30 => k_is)
    (case k30 => k_is)
    (case a31 => k_is)
    (case l31 => k_is)
    (case c31 => k_is)
    (case k31 => k_is)
    (case a32 => k_is)
    (case l32 => k_is)
    (case c32 => k_is)
    (case k32 => k_is)
    (case a33 => k_is)
    (case l33 => k_is)
    (case c33 => k_is)
    (case k33 => k_is)
    (case a34 => k_is)
    (case l34 => k_is)
    (case c34 => k_is)
    (case k34 => k_is)
    (case a35 => k_is)
    (case l35 => k_is)
    (case c35 => k_is)
    (case k35 => k_is)
    (case a36 => k_is)
    (case l36 => k_is)
    (case c36 => k_is)
    (case k36 => k_is)
    (case a37 => k_is)
    (case l37 => k_is)
    (case c37 => k_is)
    (case k37 => k_is)
    (case a38 => k_is)
    (case l38 => k_is)
    (case c38 => k_is)
    (case k38 => k_is)
    (case a39 => k_is)
    (case l39 => k_is)
    (case c39 => k_is)
    (case k39 => k_is)
    (case a40 => k_is)
    (case l40 => k_is)
    (case c40 => k_is)
    (case k40 => k_is)
    (case a41 => k_is)
    (case l41 => k_is)
    (case c41 => k_is)
    (case k41 => k_is)
    (case a42 => k_is)
    (case l42 => k_is)
    (case c42 => k_is)
    (case k42 => k_is)
    (case a43 => k_is)
    (case l43 => k_is)
    (case c43 => k_is)
    (case k43 => k_is)
    (case a44 => k_is)
    (case l44 => k_is)
    (case c44 => k_is)
    (case k44 => k_is)
    (case a45 => k_is)
    (case l45 => k_is)
    (case c45 => k_is)
    (case k45 => k_is)
    (case a46 => k_is)
    (case l46 => k_is)
    (case c46 => k_is)
    (case k46 => k_is)
    (case a47 => k_is)
    (case l47 => k_is)
    (case c47 => k_is)
    (case k47 => k_is)
