import PyProof.Rows.All
import Wide.All
import OpenK.AllK
import Wide.FinOn
import HandS.ForMost
import HandS.ForExc
import HandS.Wide
import HandS.ExcInit
import HandS.ExcField
import HandS.ClsMeth
import HandS.IsInst
import HandS.FStr
import HandS.OwnEq
import HandS.Zip
import HandS.Flow
import HandS.DictComp
import HandS.Nested
import HandS.SlotsOwn
import HandS.Steps
import HandS.Style
import HandS.Text
import HandS.Codes
import KE.KExcSuper
import KE.KOpsOwn
import KE.KCallOwn
import KE.RegKIsAll
import KE.RegKSuper
import KE.RegKTryMore
import PySem.Challenge.RW_waysofmaking_k12_texts_of_fractions
set_option Elab.async false
set_option linter.all false
set_option maxRecDepth 100000
set_option maxHeartbeats 2000000
namespace W1
open PySem PySem.Spec PyProof.Rows L2

/-! ### what is known of values -/
structure Rl where
  r : V → Hp → Prop
  mo : ∀ v H H', Same H H' → r v H → r v H'
structure Ol where
  c : HO → Hp → Prop
  mo : ∀ o H H', Same H H' → c o H → c o H'
abbrev Ty := List (Option Rl)
abbrev Ow := List (Addr × Ol)
abbrev Er := Value → Option Addr → Hp → Prop
abbrev Out := Except Er Rl

def All2 : List Rl → List V → Hp → Prop
  | [], [], _ => True
  | R :: Rs, v :: vs, H => R.r v H ∧ All2 Rs vs H
  | _, _, _ => False
theorem All2.up : ∀ {Rs : List Rl} {vs : List V} {H H' : Hp}, Same H H' → All2 Rs vs H → All2 Rs vs H'
  | [], [], _, _, _, _ => trivial
  | R :: _, _ :: _, _, _, e, ⟨a, b⟩ => ⟨R.mo _ _ _ e a, All2.up e b⟩
  | [], _ :: _, _, _, _, h => h.elim
  | _ :: _, [], _, _, _, h => h.elim
theorem All2.len : ∀ {Rs : List Rl} {vs : List V} {H : Hp}, All2 Rs vs H → Rs.length = vs.length
  | [], [], _, _ => rfl
  | _ :: _, _ :: _, _, ⟨_, b⟩ => by rw [List.length_cons, List.length_cons, All2.len b]
  | [], _ :: _, _, h => h.elim
  | _ :: _, [], _, h => h.elim
theorem All2.get : ∀ {Rs : List Rl} {vs : List V} {H : Hp} {i : Nat} {R : Rl}, All2 Rs vs H → Rs[i]? = some R → ∃ v, vs[i]? = some v ∧ R.r v H
  | [], _, _, i, _, _, e => by simp at e
  | R :: _, v :: _, _, 0, _, ⟨a, _⟩, e => by
    have e' : R = _ := Option.some.inj e
    subst e'
    exact ⟨v, rfl, a⟩
  | _ :: _, _ :: _, _, i + 1, _, ⟨_, b⟩, e => All2.get (i := i) b e
  | _ :: _, [], _, _, _, h, _ => h.elim
theorem All2.app : ∀ {Rs Ss : List Rl} {vs ws : List V} {H : Hp}, All2 Rs vs H → All2 Ss ws H → All2 (Rs ++ Ss) (vs ++ ws) H
  | [], _, [], _, _, _, h => h
  | _ :: _, _, _ :: _, _, _, ⟨a, b⟩, h => ⟨a, All2.app b h⟩
  | [], _, _ :: _, _, _, h, _ => h.elim
  | _ :: _, _, [], _, _, h, _ => h.elim

structure Slots (ρ : Ty) (σ : L2.St) (G : Hp) : Prop where
  len : σ.length = ρ.length
  at_ : ∀ (i : Nat) (R : Rl), ρ[i]? = some (some R) → ∃ v, σ[i]? = some (some v) ∧ R.r v G
theorem Slots.up {ρ : Ty} {σ : L2.St} {G G' : Hp} (s : Slots ρ σ G) (e : Same G G') : Slots ρ σ G' :=
  ⟨s.len, fun i R h => let ⟨v, a, b⟩ := s.at_ i R h; ⟨v, a, R.mo _ _ _ e b⟩⟩
theorem Slots.set {ρ : Ty} {σ : L2.St} {G : Hp} (s : Slots ρ σ G) (i : Nat) {R : Rl} {v : V} (h : R.r v G) : Slots (ρ.set i (some R)) (σ.set i (some v)) G := by
  refine ⟨by rw [List.length_set, List.length_set]; exact s.len, fun j S e => ?_⟩
  by_cases hj : i = j
  · subst hj
    by_cases hi : i < ρ.length
    · rw [List.getElem?_set_self hi] at e
      cases e
      exact ⟨v, List.getElem?_set_self (by rw [s.len]; exact hi), h⟩
    · rw [List.getElem?_eq_none (by rw [List.length_set]; omega)] at e
      cases e
  · rw [List.getElem?_set_ne hj] at e
    obtain ⟨w, a, b⟩ := s.at_ j S e
    exact ⟨w, by rw [List.getElem?_set_ne hj]; exact a, b⟩
theorem Slots.gone {ρ : Ty} {σ : L2.St} {G : Hp} (s : Slots ρ σ G) (i : Nat) : Slots (ρ.set i none) (σ.set i none) G := by
  refine ⟨by rw [List.length_set, List.length_set]; exact s.len, fun j S e => ?_⟩
  by_cases hj : i = j
  · subst hj
    by_cases hi : i < ρ.length
    · rw [List.getElem?_set_self hi] at e
      cases e
    · rw [List.getElem?_eq_none (by rw [List.length_set]; omega)] at e
      cases e
  · rw [List.getElem?_set_ne hj] at e
    obtain ⟨w, a, b⟩ := s.at_ j S e
    exact ⟨w, by rw [List.getElem?_set_ne hj]; exact a, b⟩

/-! ### the frame of a body -/
structure Fx where
  X : Cx
  G0 : Hp
  H0 : Hp
  M : List Addr
  W : WX
  tk : Takes X W
structure At (F : Fx) (ω : Ow) (G H : Hp) : Prop where
  gg : Same F.G0 G
  hh : ∀ a o, a ∉ F.M → F.H0 a = some o → H a = some o
  gh : Same G H
  fr : ∀ a, F.H0 a ≠ none → F.G0 a = none → G a = none
  mm : ∀ a ∈ F.M, H a ≠ none
  ow : ∀ p ∈ ω, G p.1 = none ∧ (F.H0 p.1 = none ∨ p.1 ∈ F.M) ∧ ∃ o, H p.1 = some o ∧ p.2.c o G
  nd : (ω.map (·.1)).Nodup
/-- a further step of a callee, or of an allocation -/
structure Step (G H G' H' : Hp) : Prop where
  gg : Same G G'
  hh : Same H H'
  gh : Same G' H'
  fr : ∀ a, H a ≠ none → G a = none → G' a = none
theorem At.step {F : Fx} {ω : Ow} {G H G' H' : Hp} (a : At F ω G H) (s : Step G H G' H') : At F ω G' H' where
  gg := a.gg.trans s.gg
  hh := fun b o hb e => s.hh b o (a.hh b o hb e)
  gh := s.gh
  fr := fun b h1 h2 => s.fr b (by
    by_cases hb : b ∈ F.M
    · exact a.mm b hb
    · cases e : F.H0 b with
      | none => exact absurd e h1
      | some o => rw [a.hh b o hb e]; simp) (a.fr b h1 h2)
  mm := fun b hb => by
    cases e : H b with
    | none => exact absurd e (a.mm b hb)
    | some o => rw [s.hh b o e]; simp
  ow := fun p hp => by
    obtain ⟨g, h0, o, ho, hc⟩ := a.ow p hp
    exact ⟨s.fr _ (by rw [ho]; simp) g, h0, o, s.hh _ _ ho, p.2.mo _ _ _ s.gg hc⟩
  nd := a.nd
theorem Step.refl {G H : Hp} (h : Same G H) : Step G H G H := ⟨Same.refl _, Same.refl _, h, fun _ _ e => e⟩
theorem Step.new {G H : Hp} {p : Addr} {o : HO} (h : Same G H) (hp : H p = none) : Step G H (upd G p o) (upd H p o) := by
  have hg : G p = none := h.free hp
  refine ⟨fun a u e => ?_, fun a u e => ?_, fun a u e => ?_, fun a h1 h2 => ?_⟩
  · rw [upd_ne (ne_of_none e hg)]; exact e
  · rw [upd_ne (ne_of_none e hp)]; exact e
  · by_cases ha : a = p
    · subst ha; rw [upd_same] at e ⊢; exact e
    · rw [upd_ne ha] at e ⊢; exact h _ _ e
  · by_cases ha : a = p
    · subst ha; exact absurd hp h1
    · rw [upd_ne ha]; exact h2
/-- a new object that G does not see -/
theorem Step.hid {G H : Hp} {p : Addr} {o : HO} (h : Same G H) (hp : H p = none) : Step G H G (upd H p o) := by
  refine ⟨Same.refl _, fun a u e => ?_, fun a u e => ?_, fun a _ h2 => h2⟩
  · rw [upd_ne (ne_of_none e hp)]; exact e
  · rw [upd_ne (ne_of_none (h _ _ e) hp)]; exact h _ _ e
theorem Step.trans {G H G1 H1 G2 H2 : Hp} (a : Step G H G1 H1) (b : Step G1 H1 G2 H2) : Step G H G2 H2 :=
  ⟨a.gg.trans b.gg, a.hh.trans b.hh, b.gh, fun x h1 h2 => b.fr x (by
    cases e : H x with
    | none => exact absurd e h1
    | some o => rw [a.hh x o e]; simp) (a.fr x h1 h2)⟩

/-! ### the weakest wishes -/
section
variable (X : Cx)
def EW (e : Expr) : TE := fun σ H Q => ∀ pins s, Inv X pins σ H s → wpAny (model X.prog X.w) X.A (eval e X.env) (EP X pins σ Q) X.xe s
def TW (e : Expr) : TT := fun σ H Q => ∀ pins s, Inv X pins σ H s → wpAny (model X.prog X.w) X.A (isTrue e X.env (eval e X.env)) (TP X pins σ Q) X.xe s
def AW (es : List Expr) : TA := fun σ H Q => ∀ pos pins s, Inv X pins σ H s → wpAny (model X.prog X.w) X.A (spliced (backTo pos (starEach es X.env))) (AP X pins σ Q) X.xe s
def SW (st : Stmt) : TS := fun D σ H => ∀ pins s, Inv X pins σ H s → wpAny (model X.prog X.w) X.A (exec st X.env) (SP X pins D) X.xe s
def BW (st : List Stmt) : TS := fun D σ H => ∀ pins s, Inv X pins σ H s → wpAny (model X.prog X.w) X.A (execs st X.env) (SP X pins D) X.xe s
end
section
variable {X : Cx}
theorem pe_w {e : Expr} : PE X e (EW X e) := ⟨fun pins s _ _ _ I h => h pins s I⟩
theorem pt_w {e : Expr} : PT X e (TW X e) := ⟨fun pins s _ _ _ I h => h pins s I⟩
theorem pa_w {es : List Expr} : PA X es (AW X es) := ⟨fun pos pins s _ _ _ I h => h pos pins s I⟩
theorem ps_w {st : Stmt} : PS X st (SW X st) := ⟨fun pins s _ _ _ I h => h pins s I⟩
theorem pss_w {st : List Stmt} : PSs X st (BW X st) := ⟨fun pins s _ _ _ I h => h pins s I⟩
theorem ew_of {e : Expr} {t : TE} (h : PE X e t) {σ : L2.St} {H : Hp} {Q : VK} (q : t σ H Q) : EW X e σ H Q := fun pins s I => h.run pins s σ H Q I q
theorem tw_of {e : Expr} {t : TT} (h : PT X e t) {σ : L2.St} {H : Hp} {Q : Bool → Hp → Prop} (q : t σ H Q) : TW X e σ H Q := fun pins s I => h.run pins s σ H Q I q
theorem aw_of {es : List Expr} {t : TA} (h : PA X es t) {σ : L2.St} {H : Hp} {Q : List V → Hp → Prop} (q : t σ H Q) : AW X es σ H Q := fun pos pins s I => h.run pos pins s σ H Q I q
theorem sw_of {st : Stmt} {t : TS} (h : PS X st t) {D : Ends} {σ : L2.St} {H : Hp} (q : t D σ H) : SW X st D σ H := fun pins s I => h.run pins s σ H D I q
theorem bw_of {st : List Stmt} {t : TS} (h : PSs X st t) {D : Ends} {σ : L2.St} {H : Hp} (q : t D σ H) : BW X st D σ H := fun pins s I => h.run pins s σ H D I q
end

/-! ### what an expression gives -/
def ER (F : Fx) (ρ : Ty) (ω : Ow) (e : Expr) (R : Rl) (ω' : Ow) : Prop :=
  ∀ σ G H, At F ω G H → Slots ρ σ G → ∀ Q : VK, (∀ v G2 H2, Same G G2 → At F ω' G2 H2 → R.r v G2 → Q v H2) → EW F.X e σ H Q
def TR (F : Fx) (ρ : Ty) (ω : Ow) (e : Expr) (b : Bool) (ω' : Ow) : Prop :=
  ∀ σ G H, At F ω G H → Slots ρ σ G → ∀ Q : Bool → Hp → Prop, (∀ G2 H2, Same G G2 → At F ω' G2 H2 → Q b H2) → TW F.X e σ H Q
def AR (F : Fx) (ρ : Ty) (ω : Ow) (es : List Expr) (Rs : List Rl) (ω' : Ow) : Prop :=
  ∀ σ G H, At F ω G H → Slots ρ σ G → ∀ Q : List V → Hp → Prop, (∀ vs G2 H2, Same G G2 → At F ω' G2 H2 → All2 Rs vs G2 → Q vs H2) → AW F.X es σ H Q
/-- it raises -/
def EX (F : Fx) (ρ : Ty) (ω : Ow) (e : Expr) (P : Er) (ω' : Ow) : Prop :=
  ∀ σ G H, At F ω G H → Slots ρ σ G → (∀ cls d G2 H2, Same G G2 → At F ω' G2 H2 → P cls d G2 → F.W cls d σ H2) → EW F.X e σ H (fun _ _ => False)
end W1
set_option maxRecDepth 100000
set_option maxHeartbeats 2000000
namespace W1
open PySem PySem.Spec PyProof.Rows L2

/-! ### relations -/
def rEqV (x : V) : Rl := ⟨fun v _ => v = x, fun _ _ _ _ h => h⟩
abbrev rInt (i : Int) : Rl := rEqV (.int i)
abbrev rBool (b : Bool) : Rl := rEqV (.bl b)
abbrev rStr (x : Str) : Rl := rEqV (.str x)
abbrev rNon : Rl := rEqV .non
abbrev rRef (p : Addr) : Rl := rEqV (.ref p)
def rAny : Rl := ⟨fun _ _ => True, fun _ _ _ _ h => h⟩
def rLst (Rs : List Rl) : Rl := ⟨fun v H => ∃ p vs, v = .ref p ∧ H p = some (.lst vs) ∧ All2 Rs vs H, fun _ _ _ e ⟨p, vs, a, b, c⟩ => ⟨p, vs, a, e _ _ b, c.up e⟩⟩
theorem sameT {K : PySem.W.Frag} {H H' : Hp} {a : Addr} {xs : List V} (e : Same H H') (h : SqT K H a xs) : SqT K H' a xs := by
  rcases h with (h | ⟨o, h⟩) | h
  · exact .inl (.inl (e _ _ h))
  · exact .inl (.inr ⟨o, e _ _ h⟩)
  · exact .inr h
def rTup (Rs : List Rl) : Rl := ⟨fun v H => ∃ p vs, v = .ref p ∧ H p = some (.tup vs) ∧ All2 Rs vs H, fun _ _ _ e ⟨p, vs, a, b, c⟩ => ⟨p, vs, a, e _ _ b, c.up e⟩⟩
/-- named things, in order -/
def NR {κ : Type} : List (κ × Rl) → List (κ × V) → Hp → Prop
  | [], [], _ => True
  | (k, R) :: Rs, (k', v) :: vs, H => k = k' ∧ R.r v H ∧ NR Rs vs H
  | _, _, _ => False
theorem NR.up {κ : Type} : ∀ {Rs : List (κ × Rl)} {vs : List (κ × V)} {H H' : Hp}, Same H H' → NR Rs vs H → NR Rs vs H'
  | [], [], _, _, _, _ => trivial
  | (_, R) :: _, (_, _) :: _, _, _, e, ⟨k, a, b⟩ => ⟨k, R.mo _ _ _ e a, NR.up e b⟩
  | [], _ :: _, _, _, _, h => h.elim
  | _ :: _, [], _, _, _, h => h.elim
theorem NR.look : ∀ {Rs : List (Str × Rl)} {vs : List (Str × V)} {H : Hp} {f : Str} {R : Rl}, NR Rs vs H → Rs.lookup f = some R → ∃ v, vs.lookup f = some v ∧ R.r v H
  | [], _, _, _, _, _, e => by cases e
  | (k, S) :: Rs, (k', v) :: vs, H, f, R, ⟨hk, a, b⟩, e => by
    subst hk
    by_cases h : f = k
    · subst h
      rw [List.lookup_cons_self] at e
      cases e
      exact ⟨v, List.lookup_cons_self, a⟩
    · have hb : (f == k) = false := by simpa using h
      rw [List.lookup_cons, hb] at e
      obtain ⟨w, x, y⟩ := NR.look b e
      exact ⟨w, by rw [List.lookup_cons, hb]; exact x, y⟩
  | _ :: _, [], _, _, _, h, _ => h.elim
theorem NR.lookN : ∀ {Rs : List (Str × Rl)} {vs : List (Str × V)} {H : Hp} {f : Str}, NR Rs vs H → Rs.lookup f = none → vs.lookup f = none
  | [], [], _, _, _, _ => rfl
  | (k, S) :: Rs, (k', v) :: vs, H, f, ⟨hk, a, b⟩, e => by
    subst hk
    by_cases h : f = k
    · subst h
      rw [List.lookup_cons_self] at e
      cases e
    · have hb : (f == k) = false := by simpa using h
      rw [List.lookup_cons, hb] at e ⊢
      exact NR.lookN b e
  | [], _ :: _, _, _, h, _ => h.elim
  | _ :: _, [], _, _, h, _ => h.elim
def rIns (C : Addr) (fs : List (Str × Rl)) : Rl := ⟨fun v H => ∃ p dx vs, v = .ref p ∧ H p = some (.ins C dx vs) ∧ NR fs vs H, fun _ _ _ e ⟨p, dx, vs, a, b, c⟩ => ⟨p, dx, vs, a, e _ _ b, c.up e⟩⟩

/-! ### operators -/
/-- a two-place operation -/
def Bop (F : Fx) (ω : Ow) (f : Value → Value → Sem Value) (A B R : Rl) : Prop :=
  ∃ r : R2, OpR F.X f r ∧ ∀ x y G H, At F ω G H → A.r x G → B.r y G → ∀ Q : VK, (∀ v G2 H2, Same G G2 → At F ω G2 H2 → R.r v G2 → Q v H2) → r x y H Q
def Uop (F : Fx) (ω : Ow) (f : Value → Sem Value) (A R : Rl) : Prop :=
  ∃ r : V → Hp → VK → Prop, UnR F.X f r ∧ ∀ x G H, At F ω G H → A.r x G → ∀ Q : VK, (∀ v G2 H2, Same G G2 → At F ω G2 H2 → R.r v G2 → Q v H2) → r x H Q
def Cop (F : Fx) (ω : Ow) (f : Value) (As : List Rl) (R : Rl) : Prop :=
  ∃ r : List V → Hp → VK → Prop, CallR F.X f r ∧ ∀ xs G H, At F ω G H → All2 As xs G → ∀ Q : VK, (∀ v G2 H2, Same G G2 → At F ω G2 H2 → R.r v G2 → Q v H2) → r xs H Q
def Iop (F : Fx) (ω : Ow) (A B R : Rl) : Prop :=
  ∃ r : R2, IxR F.X r ∧ ∀ x y G H, At F ω G H → A.r x G → B.r y G → ∀ Q : VK, (∀ v G2 H2, Same G G2 → At F ω G2 H2 → R.r v G2 → Q v H2) → r x y H Q
section
variable {F : Fx} {ρ : Ty} {ω w1 w2 w3 : Ow} {a b c e : Expr} {A B C R S : Rl} {pos p : Pos} {x : Str}
theorem er_mono (h : ER F ρ ω e R w1) (k : ∀ v H, R.r v H → S.r v H) : ER F ρ ω e S w1 := fun σ G H at_ sl Q q => h σ G H at_ sl Q fun v G2 H2 s a r => q v G2 H2 s a (k v G2 r)
theorem er_eq (h : ER F ρ ω e R w1) (k : R = S) : ER F ρ ω e S w1 := k ▸ h
theorem er_var (i : Nat) (h : ρ[i]? = some (some R)) (hN : F.X.N[i]? = some x := by rfl) (hv : Vis F.X.env.scope x := by first | exact Or.inl rfl | exact Or.inr (Or.inl rfl) | exact Or.inr (Or.inr rfl))
    (hd : (x == ("__debug__" : Str)) = false := by decide) (hcd : (x == ("__classdict__" : Str)) = false := by decide) : ER F ρ ω (.Name x pos) R ω := fun σ G H at_ sl Q q => by
  obtain ⟨v, h1, h2⟩ := sl.at_ i R h
  exact ew_of (pe_var hN hv hd hcd) ⟨v, h1, q v G H (Same.refl _) at_ h2⟩
theorem er_int {i : Int} {j : Nat} : ER F ρ ω (.Constant (.int i) j pos) (rInt i) ω := fun σ G H at_ sl Q q => ew_of pe_int (q _ G H (Same.refl _) at_ rfl)
theorem er_bl {i : Bool} {j : Nat} : ER F ρ ω (.Constant (.bool i) j pos) (rBool i) ω := fun σ G H at_ sl Q q => ew_of pe_bl (q _ G H (Same.refl _) at_ rfl)
theorem er_str {i : Str} {j : Nat} : ER F ρ ω (.Constant (.str i) j pos) (rStr i) ω := fun σ G H at_ sl Q q => ew_of pe_str (q _ G H (Same.refl _) at_ rfl)
theorem er_non {j : Nat} : ER F ρ ω (.Constant .none j pos) rNon ω := fun σ G H at_ sl Q q => ew_of pe_non (q _ G H (Same.refl _) at_ rfl)
theorem er_glob {v : V} {u : Value} (hg : Gl F.X x) (hm : F.X.mg x = some u) (r : RelV v u) (hd : (x == ("__debug__" : Str)) = false := by decide) : ER F ρ ω (.Name x pos) (rEqV v) ω :=
  fun σ G H at_ sl Q q => ew_of (pe_glob hg hm r hd) (q _ G H (Same.refl _) at_ rfl)
theorem er_bltn {v : V} {u : Value} (hg : Gl F.X x) (hm : F.X.mg x = none) (hv : bootBuiltins x = some u) (r : RelV v u) (hn : x ≠ "__name__" := by decide) (hd : (x == ("__debug__" : Str)) = false := by decide) : ER F ρ ω (.Name x pos) (rEqV v) ω :=
  fun σ G H at_ sl Q q => ew_of (pe_bltn hg hm hv r hn hd) (q _ G H (Same.refl _) at_ rfl)
theorem er_bin {op : Operator} (ha : ER F ρ ω a A w1) (hb : ER F ρ w1 b B w2) (h : Bop F w2 (binaryOp op) A B R) : ER F ρ ω (.BinOp a op b pos) R w2 := fun σ G H at_ sl Q q => by
  obtain ⟨r, ho, k⟩ := h
  refine ew_of (pe_op ho pe_w pe_w) (ha σ G H at_ sl _ fun x G1 H1 s1 at1 rx => hb σ G1 H1 at1 (sl.up s1) _ fun y G2 H2 s2 at2 ry => ?_)
  exact k x y G2 H2 at2 (A.mo _ _ _ s2 rx) ry Q fun v G3 H3 s3 at3 rv => q v G3 H3 ((s1.trans s2).trans s3) at3 rv
theorem er_un {op : UnaryOp} (ha : ER F ρ ω a A w1) (h : Uop F w1 (unaryOp op) A R) : ER F ρ ω (.UnaryOp op a pos) R w1 := fun σ G H at_ sl Q q => by
  obtain ⟨r, ho, k⟩ := h
  refine ew_of (pe_un ho pe_w) (ha σ G H at_ sl _ fun x G1 H1 s1 at1 rx => ?_)
  exact k x G1 H1 at1 rx Q fun v G3 H3 s3 at3 rv => q v G3 H3 (s1.trans s3) at3 rv
theorem er_cmp {op : CmpOp} (ha : ER F ρ ω a A w1) (hb : ER F ρ w1 b B w2) (h : Bop F w2 (compareOp op) A B R) (hm : behindInMarks op b = false := by first | exact nomark _ | rfl) : ER F ρ ω (.Compare a [op] [b] pos) R w2 := fun σ G H at_ sl Q q => by
  obtain ⟨r, ho, k⟩ := h
  refine ew_of (pe_cmpR ho pe_w pe_w hm) (ha σ G H at_ sl _ fun x G1 H1 s1 at1 rx => hb σ G1 H1 at1 (sl.up s1) _ fun y G2 H2 s2 at2 ry => ?_)
  exact k x y G2 H2 at2 (A.mo _ _ _ s2 rx) ry Q fun v G3 H3 s3 at3 rv => q v G3 H3 ((s1.trans s2).trans s3) at3 rv
theorem tr_cmp {op : CmpOp} {k : Bool} (ha : ER F ρ ω a A w1) (hb : ER F ρ w1 b B w2) (h : Bop F w2 (compareOp op) A B (rBool k)) (hm : behindInMarks op b = false := by first | exact nomark _ | rfl) : TR F ρ ω (.Compare a [op] [b] pos) k w2 := fun σ G H at_ sl Q q => by
  obtain ⟨r, ho, k'⟩ := h
  refine tw_of (pt_cmpR ho pe_w pe_w hm) (ha σ G H at_ sl _ fun x G1 H1 s1 at1 rx => hb σ G1 H1 at1 (sl.up s1) _ fun y G2 H2 s2 at2 ry => ?_)
  exact k' x y G2 H2 at2 (A.mo _ _ _ s2 rx) ry _ fun v G3 H3 s3 at3 rv => ⟨k, rv, q G3 H3 ((s1.trans s2).trans s3) at3⟩
theorem tr_val {k : Bool} (h : ER F ρ ω e (rBool k) w1) (he : ∀ whole, isTrue e F.X.env whole = (do let v ← whole; standAt e.pos; holding [v] (truthy v)) := by intro _; rfl) : TR F ρ ω e k w1 := fun σ G H at_ sl Q q =>
  tw_of (pt_val pe_w he) (h σ G H at_ sl _ fun v G2 H2 s a r => ⟨k, r, q G2 H2 s a⟩)
theorem tr_truth {k : Bool} (h : ER F ρ ω e R w1) (ht : ∀ v G H, At F w1 G H → R.r v G → TruV F.X.K v H k) (he : ∀ whole, isTrue e F.X.env whole = (do let v ← whole; standAt e.pos; holding [v] (truthy v)) := by intro _; rfl) : TR F ρ ω e k w1 := fun σ G H at_ sl Q q =>
  tw_of (pt_truth pe_w he) (h σ G H at_ sl _ fun v G2 H2 s a r => ⟨k, ht v G2 H2 a r, q G2 H2 s a⟩)
theorem tr_not {k : Bool} (h : TR F ρ ω e k w1) : TR F ρ ω (.UnaryOp .Not e pos) (!k) w1 := fun σ G H at_ sl Q q => tw_of (pt_not pt_w) (h σ G H at_ sl _ fun G2 H2 s a => q G2 H2 s a)
theorem er_not {k : Bool} (h : ER F ρ ω e (rBool k) w1) : ER F ρ ω (.UnaryOp .Not e pos) (rBool (!k)) w1 := fun σ G H at_ sl Q q => ew_of (pe_not pe_w) (h σ G H at_ sl _ fun v G2 H2 s a r => ⟨k, r, q _ G2 H2 s a rfl⟩)
theorem tr_to {k k' : Bool} (h : TR F ρ ω e k w1) (z : k = k') : TR F ρ ω e k' w1 := z ▸ h
/-- what comes of the words and, or, if: behind the first operand nothing owned changes -/
def PWR (F : Fx) (ρ : Ty) (ω : Ow) (e : Expr) (k : Bool) (w1 : Ow) : Prop := ∃ t, PW F.X e t ∧ ∀ σ G H, At F ω G H → Slots ρ σ G → ∀ Q : Bool → Hp → Prop, (∀ G2 H2, Same G G2 → At F w1 G2 H2 → Q k H2) → t σ H Q
theorem PWR.tr {k : Bool} (h : PWR F ρ ω e k w1) : TR F ρ ω e k w1 := fun σ G H at_ sl Q q => by
  obtain ⟨t, hp, hk⟩ := h
  exact tw_of hp.pt (hk σ G H at_ sl Q q)
theorem tr_and1 {k : Bool} (h : TR F ρ ω e k w1) : PWR F ρ ω (.BoolOp .And [e] pos) k w1 := ⟨_, pw_and1 pt_w, h⟩
theorem tr_or1 {k : Bool} (h : TR F ρ ω e k w1) : PWR F ρ ω (.BoolOp .Or [e] pos) k w1 := ⟨_, pw_or1 pt_w, h⟩
theorem tr_and {k m : Bool} {rest : List Expr} (h : TR F ρ ω a k w1) (g : k = true → PWR F ρ w1 (.BoolOp .And (b :: rest) pos) m w1) : PWR F ρ ω (.BoolOp .And (a :: b :: rest) pos) (k && m) w1 := by
  cases k with
  | true =>
    obtain ⟨t, hp, hk⟩ := g rfl
    exact ⟨_, pw_and pt_w hp, fun σ G H at_ sl Q q => h σ G H at_ sl _ fun G2 H2 s a => iteT (hk σ G2 H2 a (sl.up s) Q fun G3 H3 s3 a3 => q G3 H3 (s.trans s3) a3)⟩
  | false => exact ⟨_, pw_and (tB' := fun _ _ _ => False) pt_w ⟨fun _ _ _ _ _ _ _ h => h.elim⟩, fun σ G H at_ sl Q q => h σ G H at_ sl _ fun G2 H2 s a => iteF (q G2 H2 s a)⟩
theorem tr_or {k m : Bool} {rest : List Expr} (h : TR F ρ ω a k w1) (g : k = false → PWR F ρ w1 (.BoolOp .Or (b :: rest) pos) m w1) : PWR F ρ ω (.BoolOp .Or (a :: b :: rest) pos) (k || m) w1 := by
  cases k with
  | false =>
    obtain ⟨t, hp, hk⟩ := g rfl
    exact ⟨_, pw_or pt_w hp, fun σ G H at_ sl Q q => h σ G H at_ sl _ fun G2 H2 s a => iteF (hk σ G2 H2 a (sl.up s) Q fun G3 H3 s3 a3 => q G3 H3 (s.trans s3) a3)⟩
  | true => exact ⟨_, pw_or (tB' := fun _ _ _ => False) pt_w ⟨fun _ _ _ _ _ _ _ h => h.elim⟩, fun σ G H at_ sl Q q => h σ G H at_ sl _ fun G2 H2 s a => iteT (q G2 H2 s a)⟩
theorem er_one {op} (h : ER F ρ ω e R w1) : ER F ρ ω (.BoolOp op [e] pos) R w1 := fun σ G H at_ sl Q q => ew_of (pe_one pe_w) (h σ G H at_ sl Q q)
theorem er_and {k m : Bool} {rest : List Expr} (h : ER F ρ ω a (rBool k) w1) (g : k = true → ER F ρ w1 (.BoolOp .And (b :: rest) pos) (rBool m) w1) : ER F ρ ω (.BoolOp .And (a :: b :: rest) pos) (rBool (k && m)) w1 := fun σ G H at_ sl Q q => by
  refine ew_of (pe_and pe_w pe_w) (h σ G H at_ sl _ fun v G2 H2 s a r => ⟨k, r, ?_⟩)
  cases k with
  | true => exact iteT (g rfl σ G2 H2 a (sl.up s) Q fun v G3 H3 s3 a3 r3 => q v G3 H3 (s.trans s3) a3 r3)
  | false => exact iteF (q _ G2 H2 s a rfl)
theorem er_or {k m : Bool} {rest : List Expr} (h : ER F ρ ω a (rBool k) w1) (g : k = false → ER F ρ w1 (.BoolOp .Or (b :: rest) pos) (rBool m) w1) : ER F ρ ω (.BoolOp .Or (a :: b :: rest) pos) (rBool (k || m)) w1 := fun σ G H at_ sl Q q => by
  refine ew_of (pe_or pe_w pe_w) (h σ G H at_ sl _ fun v G2 H2 s a r => ⟨k, r, ?_⟩)
  cases k with
  | false => exact iteF (g rfl σ G2 H2 a (sl.up s) Q fun v G3 H3 s3 a3 r3 => q v G3 H3 (s.trans s3) a3 r3)
  | true => exact iteT (q _ G2 H2 s a rfl)
theorem er_ifx {k : Bool} (h : TR F ρ ω c k w1) (h1 : k = true → ER F ρ w1 a R w2) (h2 : k = false → ER F ρ w1 b R w2) : ER F ρ ω (.IfExp c a b pos) R w2 := fun σ G H at_ sl Q q => by
  refine ew_of (pe_ifExp pt_w pe_w pe_w) (h σ G H at_ sl _ fun G2 H2 s a => ?_)
  cases k with
  | true => exact iteT (h1 rfl σ G2 H2 a (sl.up s) Q fun v G3 H3 s3 a3 r3 => q v G3 H3 (s.trans s3) a3 r3)
  | false => exact iteF (h2 rfl σ G2 H2 a (sl.up s) Q fun v G3 H3 s3 a3 r3 => q v G3 H3 (s.trans s3) a3 r3)
theorem er_fld {C : Addr} {fs : List (Str × Rl)} {f : Str} (h : ER F ρ ω e (rIns C fs) w1) (hc : Cls F.X.K C) (hn : NoAttr F.X.K C f) (hl : fs.lookup f = some R) (hb : attributeBase e f F.X.env (eval e F.X.env) = eval e F.X.env := by rfl) :
    ER F ρ ω (.Attribute e f pos) R w1 := fun σ G H at_ sl Q q => by
  refine ew_of (pe_fld pe_w hb) (h σ G H at_ sl _ fun v G2 H2 s a r => ?_)
  obtain ⟨p, dx, vs, rfl, h1, h2⟩ := r
  obtain ⟨w, h3, h4⟩ := h2.look hl
  exact ⟨p, C, dx, vs, w, rfl, a.gh _ _ h1, hc, hn, h3, q w G2 H2 s a h4⟩
theorem ar_nil : AR F ρ ω [] [] ω := fun σ G H at_ sl Q q => aw_of pa_nil (q [] G H (Same.refl _) at_ trivial)
theorem ar_cons {es : List Expr} {Rs : List Rl} (h : ER F ρ ω e R w1) (hr : AR F ρ w1 es Rs w2) (hs : starEach (e :: es) F.X.env = (false, eval e F.X.env) :: starEach es F.X.env := by rfl) : AR F ρ ω (e :: es) (R :: Rs) w2 := fun σ G H at_ sl Q q => by
  refine aw_of (pa_cons pe_w pa_w hs) (h σ G H at_ sl _ fun v G2 H2 s a r => hr σ G2 H2 a (sl.up s) _ fun vs G3 H3 s3 a3 r3 => q _ G3 H3 (s.trans s3) a3 ⟨R.mo _ _ _ s3 r, r3⟩)
theorem er_lst {es : List Expr} {Rs : List Rl} (h : AR F ρ ω es Rs w1) (hz : Rs.length ≤ 1000) : ER F ρ ω (.List es pos) (rLst Rs) w1 := fun σ G H at_ sl Q q => by
  refine ew_of (pe_lst pa_w) (h σ G H at_ sl _ fun vs G2 H2 s a r => ⟨Nat.le_of_lt (small1000 (by rw [← r.len]; exact hz)), fun p hp => ?_⟩)
  have st := Step.new (o := .lst vs) a.gh hp
  exact q _ _ _ (s.trans st.gg) (a.step st) ⟨p, vs, rfl, upd_same, r.up st.gg⟩
theorem er_tup {es : List Expr} {Rs : List Rl} {j : Nat} (h : AR F ρ ω es Rs w1) (hz : Rs.length ≤ 1000) : ER F ρ ω (.Tuple es j pos) (rTup Rs) w1 := fun σ G H at_ sl Q q => by
  refine ew_of (pe_tup pa_w) (h σ G H at_ sl _ fun vs G2 H2 s a r => ⟨Nat.le_of_lt (small1000 (by rw [← r.len]; exact hz)), fun p hp => ?_⟩)
  have st := Step.new (o := .tup vs) a.gh hp
  exact q _ _ _ (s.trans st.gg) (a.step st) ⟨p, vs, rfl, upd_same, r.up st.gg⟩
theorem er_ix (ha : ER F ρ ω a A w1) (hb : ER F ρ w1 b B w2) (h : Iop F w2 A B R) (hs : PlainIx b := by exact fun _ _ => rfl) : ER F ρ ω (.Subscript a b pos) R w2 := fun σ G H at_ sl Q q => by
  obtain ⟨r, ho, k⟩ := h
  refine ew_of (pe_ix ho pe_w pe_w hs) (ha σ G H at_ sl _ fun x G1 H1 s1 at1 rx => hb σ G1 H1 at1 (sl.up s1) _ fun y G2 H2 s2 at2 ry => ?_)
  exact k x y G2 H2 at2 (A.mo _ _ _ s2 rx) ry Q fun v G3 H3 s3 at3 rv => q v G3 H3 ((s1.trans s2).trans s3) at3 rv
theorem er_callB {id : String} {As : List Rl} {es : List Expr} (hc : Cop F w1 (.builtin id) As R) (hg : Gl F.X x) (hm : F.X.mg x = none) (hv : bootBuiltins x = some (.builtin id)) (ha : AR F ρ ω (e :: es) As w1) (hn : x ≠ "__name__" := by decide) (hdb : (x == ("__debug__" : Str)) = false := by decide)
    (he : starEach (e :: es) F.X.env = (false, eval e F.X.env) :: starEach es F.X.env := by rfl) (hpl : (backTo pos (starEach es F.X.env)).any (·.1) = false := by rfl) : ER F ρ ω (.Call (.Name x p) (e :: es) [] pos) R w1 := fun σ G H at_ sl Q q => by
  obtain ⟨r, ho, k⟩ := hc
  refine ew_of (pe_callB ho hg hm hv pa_w hn hdb he hpl) (ha σ G H at_ sl _ fun vs G2 H2 s a r => ?_)
  exact k vs G2 H2 a r Q fun v G3 H3 s3 a3 r3 => q v G3 H3 (s.trans s3) a3 r3
theorem er_callTy {id : String} {As : List Rl} {es : List Expr} (hc : Cop F w1 (.type id) As R) (hg : Gl F.X x) (hm : F.X.mg x = none) (hv : bootBuiltins x = some (.type id)) (ha : AR F ρ ω (e :: es) As w1) (hn : x ≠ "__name__" := by decide) (hdb : (x == ("__debug__" : Str)) = false := by decide)
    (he : starEach (e :: es) F.X.env = (false, eval e F.X.env) :: starEach es F.X.env := by rfl) (hpl : (backTo pos (starEach es F.X.env)).any (·.1) = false := by rfl) : ER F ρ ω (.Call (.Name x p) (e :: es) [] pos) R w1 := fun σ G H at_ sl Q q => by
  obtain ⟨r, ho, k⟩ := hc
  refine ew_of (pe_callTy ho hg hm hv pa_w hn hdb he hpl) (ha σ G H at_ sl _ fun vs G2 H2 s a r => ?_)
  exact k vs G2 H2 a r Q fun v G3 H3 s3 a3 r3 => q v G3 H3 (s.trans s3) a3 r3
end
end W1
set_option maxRecDepth 100000
set_option maxHeartbeats 2000000
namespace W1
open PySem PySem.Spec PyProof.Rows L2

section
variable {F : Fx} {ω : Ow} {A B R : Rl}
theorem bop_of {f : Value → Value → Sem Value} {r : R2} {x y z : V} (ho : OpR F.X f r) (h : ∀ (H : Hp) (Q : VK), Q z H → r x y H Q) : Bop F ω f (rEqV x) (rEqV y) (rEqV z) :=
  ⟨r, ho, fun x' y' G H at_ hx hy Q q => by
    have e1 : x' = x := hx
    have e2 : y' = y := hy
    subst e1 e2
    exact h H Q (q z G H (Same.refl _) at_ rfl)⟩
theorem uop_of {f : Value → Sem Value} {r : V → Hp → VK → Prop} {x z : V} (ho : UnR F.X f r) (h : ∀ (H : Hp) (Q : VK), Q z H → r x H Q) : Uop F ω f (rEqV x) (rEqV z) :=
  ⟨r, ho, fun x' G H at_ hx Q q => by
    have e1 : x' = x := hx
    subst e1
    exact h H Q (q z G H (Same.refl _) at_ rfl)⟩
theorem cop_of1 {f : Value} {r : List V → Hp → VK → Prop} {x z : V} (ho : CallR F.X f r) (h : ∀ (H : Hp) (Q : VK), Q z H → r [x] H Q) : Cop F ω f [rEqV x] (rEqV z) :=
  ⟨r, ho, fun xs G H at_ hx Q q => by
    match xs, hx with
    | [x'], ⟨e, _⟩ =>
      have e1 : x' = x := e
      subst e1
      exact h H Q (q z G H (Same.refl _) at_ rfl)⟩
theorem cop_of2 {f : Value} {r : List V → Hp → VK → Prop} {x y z : V} (ho : CallR F.X f r) (h : ∀ (H : Hp) (Q : VK), Q z H → r [x, y] H Q) : Cop F ω f [rEqV x, rEqV y] (rEqV z) :=
  ⟨r, ho, fun xs G H at_ hx Q q => by
    match xs, hx with
    | [x', y'], ⟨e, e', _⟩ =>
      have e1 : x' = x := e
      have e2 : y' = y := e'
      subst e1 e2
      exact h H Q (q z G H (Same.refl _) at_ rfl)⟩
/-! ints -/
theorem op_mulZ {X : Cx} : OpR X (binaryOp .Mult) (rI IntMulOk fun i j => .int (i * j)) := opI fun _ _ _ _ _ _ _ hc q => mul_int q hc
def CDivZ (_ j : Int) : Prop := j ≠ 0 ∧ j.natAbs.log2 < 9000
theorem op_fdivZ {X : Cx} : OpR X (binaryOp .FloorDiv) (rI CDivZ fun i j => .int (i.fdiv j)) := opI fun _ _ _ _ _ _ _ hc q => floordiv_int hc.1 q (.inl (PyProof.noPylong_of_log2 hc.2))
theorem bop_add {i j : Int} : Bop F ω (binaryOp .Add) (rInt i) (rInt j) (rInt (i + j)) := bop_of op_add fun _ _ q => ⟨i, j, rfl, rfl, q⟩
theorem bop_sub {i j : Int} : Bop F ω (binaryOp .Sub) (rInt i) (rInt j) (rInt (i - j)) := bop_of op_sub fun _ _ q => ⟨i, j, rfl, rfl, q⟩
theorem bop_mul {i j : Int} (h : IntMulOk i j) : Bop F ω (binaryOp .Mult) (rInt i) (rInt j) (rInt (i * j)) := bop_of op_mulZ fun _ _ q => ⟨i, j, rfl, rfl, h, q⟩
theorem bop_fdiv {i j : Int} (h : CDivZ i j) : Bop F ω (binaryOp .FloorDiv) (rInt i) (rInt j) (rInt (i.fdiv j)) := bop_of op_fdivZ fun _ _ q => ⟨i, j, rfl, rfl, h, q⟩
theorem bop_mod {i j : Int} (h : j ≠ 0) : Bop F ω (binaryOp .Mod) (rInt i) (rInt j) (rInt (i.fmod j)) := bop_of op_modN fun _ _ q => ⟨i, j, rfl, rfl, h, q⟩
theorem bop_pow {i j : Int} (h : CPow i j) : Bop F ω (binaryOp .Pow) (rInt i) (rInt j) (rInt (i ^ j.toNat)) := bop_of op_pow fun _ _ q => ⟨i, j, rfl, rfl, h, q⟩
theorem bop_lt {i j : Int} : Bop F ω (compareOp .Lt) (rInt i) (rInt j) (rBool (decide (i < j))) := bop_of op_lt fun _ _ q => ⟨i, j, rfl, rfl, q⟩
theorem bop_le {i j : Int} : Bop F ω (compareOp .LtE) (rInt i) (rInt j) (rBool (decide (i ≤ j))) := bop_of op_le fun _ _ q => ⟨i, j, rfl, rfl, q⟩
theorem bop_gt {i j : Int} : Bop F ω (compareOp .Gt) (rInt i) (rInt j) (rBool (decide (j < i))) := bop_of op_gt fun _ _ q => ⟨i, j, rfl, rfl, q⟩
theorem bop_ge {i j : Int} : Bop F ω (compareOp .GtE) (rInt i) (rInt j) (rBool (decide (j ≤ i))) := bop_of op_ge fun _ _ q => ⟨i, j, rfl, rfl, q⟩
theorem bop_eq {x y : V} (h : scal x y = true) : Bop F ω (compareOp .Eq) (rEqV x) (rEqV y) (rBool (decide (x = y))) := bop_of op_eq fun _ _ q => ⟨h, q⟩
theorem bop_ne {x y : V} (h : scal x y = true) : Bop F ω (compareOp .NotEq) (rEqV x) (rEqV y) (rBool (!decide (x = y))) := bop_of op_ne fun _ _ q => ⟨h, q⟩
theorem bop_isN {x : V} : Bop F ω (compareOp .Is) (rEqV x) rNon (rBool (decide (x = .non))) := bop_of op_isN fun _ _ q => ⟨rfl, q⟩
theorem bop_notN {x : V} : Bop F ω (compareOp .IsNot) (rEqV x) rNon (rBool (!decide (x = .non))) := bop_of op_notN fun _ _ q => ⟨rfl, q⟩
theorem dec_i {i j : Int} : decide (V.int i = V.int j) = decide (i = j) := by
  by_cases h : i = j
  · subst h; simp
  · rw [decide_eq_false h, decide_eq_false (fun e => h (V.int.inj e))]
theorem bop_eqI {i j : Int} : Bop F ω (compareOp .Eq) (rInt i) (rInt j) (rBool (decide (i = j))) := by rw [← dec_i]; exact bop_eq rfl
theorem bop_neI {i j : Int} : Bop F ω (compareOp .NotEq) (rInt i) (rInt j) (rBool (!decide (i = j))) := by rw [← dec_i]; exact bop_ne rfl
theorem uop_neg {i : Int} : Uop F ω (unaryOp .USub) (rInt i) (rInt (-i)) := uop_of un_neg fun _ _ q => ⟨i, rfl, q⟩
theorem cop_abs {i : Int} : Cop F ω (.builtin "abs") [rInt i] (rInt (if i < 0 then -i else i)) := cop_of1 call_abs fun _ _ q => ⟨i, rfl, q⟩
theorem cop_int {i : Int} : Cop F ω (.type "int") [rInt i] (rInt i) := cop_of1 call_int1 fun _ _ q => .inl ⟨i, rfl, q⟩
theorem cop_intB {b : Bool} : Cop F ω (.type "int") [rBool b] (rInt (if b then 1 else 0)) := cop_of1 call_int1 fun _ _ q => .inr ⟨b, rfl, q⟩
theorem cop_bool {i : Int} : Cop F ω (.type "bool") [rInt i] (rBool (i != 0)) := cop_of1 call_bool1 fun _ _ q => .inl ⟨i, rfl, q⟩
theorem cop_strI {i : Int} (h : i.natAbs.log2 < 1920) : Cop F ω (.type "str") [rInt i] (rStr (toString i)) := cop_of1 call_str_int fun _ _ q => ⟨i, rfl, h, q⟩
/-! lists -/
theorem all1 {R : Rl} {vs : List V} {H : Hp} (h : All2 [R] vs H) : ∃ v, vs = [v] ∧ R.r v H := by
  match vs, h with
  | [v], ⟨a, _⟩ => exact ⟨v, rfl, a⟩
theorem all2 {R S : Rl} {vs : List V} {H : Hp} (h : All2 [R, S] vs H) : ∃ v w, vs = [v, w] ∧ R.r v H ∧ S.r w H := by
  match vs, h with
  | [v, w], ⟨a, b, _⟩ => exact ⟨v, w, rfl, a, b⟩
theorem cop_lenL {Rs : List Rl} : Cop F ω (.builtin "len") [rLst Rs] (rInt (Rs.length : Int)) := by
  refine ⟨_, call_len_seq, fun xs G H at_ hx Q q => ?_⟩
  obtain ⟨x, rfl, p, vs, rfl, h1, h2⟩ := all1 hx
  have e2 : (vs.length : Int) = (Rs.length : Int) := by rw [h2.len]
  refine ⟨p, vs, rfl, .inl (SqL.of (at_.gh _ _ h1)), ?_⟩
  exact q _ G H (Same.refl _) at_ (congrArg V.int e2)
theorem cop_lenT {Rs : List Rl} : Cop F ω (.builtin "len") [rTup Rs] (rInt (Rs.length : Int)) := by
  refine ⟨_, call_len_seq, fun xs G H at_ hx Q q => ?_⟩
  obtain ⟨x, rfl, p, vs, rfl, h1, h2⟩ := all1 hx
  have e2 : (vs.length : Int) = (Rs.length : Int) := by rw [h2.len]
  refine ⟨p, vs, rfl, .inr (SqT.of (at_.gh _ _ h1)), ?_⟩
  exact q _ G H (Same.refl _) at_ (congrArg V.int e2)
theorem iop_L {Rs : List Rl} {i : Int} {n : Nat} (e : ixN Rs.length i = some n) (h : Rs[n]? = some R) : Iop F ω (rLst Rs) (rInt i) R :=
  ⟨_, ix_list, fun x y G H at_ hx hy Q q => by
    obtain ⟨p, vs, rfl, h1, h2⟩ := hx
    obtain ⟨v, h3, h4⟩ := h2.get h
    have e2 : y = V.int i := hy
    refine ⟨p, vs, i, v, rfl, e2, SqL.of (at_.gh _ _ h1), ?_, q v G H (Same.refl _) at_ h4⟩
    unfold atI
    rw [← h2.len, e]
    exact h3⟩
theorem iop_T {Rs : List Rl} {i : Int} {n : Nat} (e : ixN Rs.length i = some n) (h : Rs[n]? = some R) : Iop F ω (rTup Rs) (rInt i) R :=
  ⟨_, ix_tup, fun x y G H at_ hx hy Q q => by
    obtain ⟨p, vs, rfl, h1, h2⟩ := hx
    obtain ⟨v, h3, h4⟩ := h2.get h
    have e2 : y = V.int i := hy
    refine ⟨p, vs, i, v, rfl, e2, SqT.of (at_.gh _ _ h1), ?_, q v G H (Same.refl _) at_ h4⟩
    unfold atI
    rw [← h2.len, e]
    exact h3⟩
theorem empt {α β : Type} : ∀ {xs : List α} {ys : List β}, xs.length = ys.length → (!xs.isEmpty) = (!ys.isEmpty)
  | [], [], _ => rfl
  | _ :: _, _ :: _, _ => rfl
  | [], _ :: _, h => by cases h
  | _ :: _, [], h => by cases h
theorem tru_lst {K : PySem.W.Frag} {Rs : List Rl} {v : V} {G H : Hp} (e : Same G H) (h : (rLst Rs).r v G) : TruV K v H (!Rs.isEmpty) := by
  obtain ⟨p, vs, rfl, h1, h2⟩ := h
  have e2 : (!Rs.isEmpty) = (!vs.isEmpty) := empt h2.len
  rw [e2]
  exact .inl ⟨vs, SqL.of (e _ _ h1), rfl⟩
end

end W1
set_option maxRecDepth 100000
set_option maxHeartbeats 2000000
namespace W1
open PySem PySem.Spec PyProof.Rows L2

/-! ### what may come behind -/
structure Kn where
  nx : Ty → Ow → Prop := fun _ _ => False
  rt : Rl → Ow → Prop := fun _ _ => False
  bk : Ty → Ow → Prop := fun _ _ => False
  ct : Ty → Ow → Prop := fun _ _ => False
  ex : Ty → Ow → Er → Prop := fun _ _ _ => False
structure Post (F : Fx) (K : Kn) (D : Ends) (G : Hp) : Prop where
  nx : ∀ ρ ω, K.nx ρ ω → ∀ σ G' H', Same G G' → At F ω G' H' → Slots ρ σ G' → D.nx σ H'
  rt : ∀ R ω, K.rt R ω → ∀ v G' H', Same G G' → At F ω G' H' → R.r v G' → D.rt v H'
  bk : ∀ ρ ω, K.bk ρ ω → ∀ σ G' H', Same G G' → At F ω G' H' → Slots ρ σ G' → D.bk σ H'
  ct : ∀ ρ ω, K.ct ρ ω → ∀ σ G' H', Same G G' → At F ω G' H' → Slots ρ σ G' → D.ct σ H'
  ex : ∀ ρ ω P, K.ex ρ ω P → ∀ cls d σ G' H', Same G G' → At F ω G' H' → Slots ρ σ G' → P cls d G' → F.W cls d σ H'
theorem Post.up {F : Fx} {K : Kn} {D : Ends} {G G1 : Hp} (p : Post F K D G) (e : Same G G1) : Post F K D G1 where
  nx := fun ρ ω k σ G' H' s => p.nx ρ ω k σ G' H' (e.trans s)
  rt := fun R ω k v G' H' s => p.rt R ω k v G' H' (e.trans s)
  bk := fun ρ ω k σ G' H' s => p.bk ρ ω k σ G' H' (e.trans s)
  ct := fun ρ ω k σ G' H' s => p.ct ρ ω k σ G' H' (e.trans s)
  ex := fun ρ ω P k cls d σ G' H' s => p.ex ρ ω P k cls d σ G' H' (e.trans s)
def HB (F : Fx) (ρ : Ty) (ω : Ow) (sts : List Stmt) (K : Kn) : Prop :=
  ∀ σ G H D, At F ω G H → Slots ρ σ G → Post F K D G → BW F.X sts D σ H
section
variable {F : Fx} {ρ : Ty} {ω w1 w2 : Ow} {K : Kn} {rest : List Stmt} {st : Stmt} {e c : Expr} {R : Rl} {pos p : Pos} {x : Str}
theorem hb_nil (h : K.nx ρ ω) : HB F ρ ω [] K := fun σ G H D at_ sl ps => bw_of pss_nil (ps.nx ρ ω h σ G H (Same.refl _) at_ sl)
/-- one statement, then the rest -/
theorem hb_cons (h : ∀ σ G H D, At F ω G H → Slots ρ σ G → Post F K D G → SW F.X st { D with nx := BW F.X rest D } σ H) : HB F ρ ω (st :: rest) K := fun σ G H D at_ sl ps =>
  bw_of (pss_cons ps_w pss_w) (h σ G H D at_ sl ps)
theorem hb_pass (h : HB F ρ ω rest K) : HB F ρ ω (.Pass pos :: rest) K := hb_cons fun σ G H D at_ sl ps => sw_of ps_pass (h σ G H D at_ sl ps)
theorem hb_set (i : Nat) (he : ER F ρ ω e R w1) (h : HB F (ρ.set i (some R)) w1 rest K) (hN : F.X.N.Nodup) (hi : F.X.N[i]? = some x := by rfl) (hx : Loc F.X.env.scope x := by first | exact Or.inl rfl | exact Or.inr rfl)
    (hs : swapsWith e (some (.Name x p)) pos.line F.X.env = pure false := by rfl) (hf : F.X.fn x = true ∨ F.X.env.scope.names.lookup x = some .local := by first | exact .inl rfl | exact .inr rfl | assumption) :
    HB F ρ ω (.Assign [.Name x p] e pos :: rest) K := hb_cons fun σ G H D at_ sl ps =>
  sw_of (ps_set hN hi hx pe_w hs hf) (he σ G H at_ sl _ fun v G2 H2 s a r => h _ G2 H2 D a ((sl.up s).set i r) (ps.up s))
theorem hb_setX {P : Er} (i : Nat) (he : EX F ρ ω e P w1) (h : K.ex ρ w1 P) (hN : F.X.N.Nodup) (hi : F.X.N[i]? = some x := by rfl) (hx : Loc F.X.env.scope x := by first | exact Or.inl rfl | exact Or.inr rfl)
    (hs : swapsWith e (some (.Name x p)) pos.line F.X.env = pure false := by rfl) (hf : F.X.fn x = true ∨ F.X.env.scope.names.lookup x = some .local := by first | exact .inl rfl | exact .inr rfl | assumption) :
    HB F ρ ω (.Assign [.Name x p] e pos :: rest) K := hb_cons fun σ G H D at_ sl ps =>
  sw_of (ps_set hN hi hx (PE.mk fun pins s σ H Q I (z : EW F.X e σ H fun _ _ => False) => thn (z pins s I) fun _ _ ⟨_, _, _, _, q⟩ => q.elim) hs hf) (he σ G H at_ sl fun cls d G2 H2 s a r => ps.ex ρ w1 P h cls d σ G2 H2 s a (sl.up s) r)
theorem hb_ret (he : ER F ρ ω e R w1) (h : K.rt R w1) : HB F ρ ω (.Return (some e) pos :: rest) K := hb_cons fun σ G H D at_ sl ps =>
  sw_of (ps_ret pe_w) (he σ G H at_ sl _ fun v G2 H2 s a r => ps.rt R w1 h v G2 H2 s a r)
theorem hb_retN (h : K.rt rNon ω) : HB F ρ ω (.Return none pos :: rest) K := hb_cons fun σ G H D at_ sl ps => sw_of ps_retN (ps.rt rNon ω h _ G H (Same.refl _) at_ rfl)
theorem pe_x {X : Cx} {e : Expr} {t : TE} : PE X e (fun σ H _ => EW X e σ H fun _ _ => False) := ⟨fun pins s σ H Q I z => thn (z pins s I) fun _ _ ⟨_, _, _, _, q⟩ => q.elim⟩
theorem hb_retX {P : Er} (he : EX F ρ ω e P w1) (h : K.ex ρ w1 P) : HB F ρ ω (.Return (some e) pos :: rest) K := hb_cons fun σ G H D at_ sl ps =>
  sw_of (ps_ret (pe_x (t := fun _ _ _ => True))) (he σ G H at_ sl fun cls d G2 H2 s a r => ps.ex ρ w1 P h cls d σ G2 H2 s a (sl.up s) r)
theorem hb_expr (he : ER F ρ ω e R w1) (h : HB F ρ w1 rest K) (hs : swapsWith e none pos.line F.X.env = pure false := by rfl) : HB F ρ ω (.Expr e pos :: rest) K := hb_cons fun σ G H D at_ sl ps =>
  sw_of (ps_expr pe_w hs) (he σ G H at_ sl _ fun v G2 H2 s a r => h _ G2 H2 D a (sl.up s) (ps.up s))
theorem hb_exprX {P : Er} (he : EX F ρ ω e P w1) (h : K.ex ρ w1 P) (hs : swapsWith e none pos.line F.X.env = pure false := by rfl) : HB F ρ ω (.Expr e pos :: rest) K := hb_cons fun σ G H D at_ sl ps =>
  sw_of (ps_expr (pe_x (t := fun _ _ _ => True)) hs) (he σ G H at_ sl fun cls d G2 H2 s a r => ps.ex ρ w1 P h cls d σ G2 H2 s a (sl.up s) r)
/-- behind: the rest -/
def Kn.then (K : Kn) (F : Fx) (rest : List Stmt) : Kn := { K with nx := fun ρ ω => HB F ρ ω rest K }
theorem Post.then {D : Ends} {G : Hp} (ps : Post F K D G) : Post F (K.then F rest) { D with nx := BW F.X rest D } G :=
  ⟨fun ρ ω k σ G' H' s a sl => k σ G' H' D a sl (ps.up s), ps.rt, ps.bk, ps.ct, ps.ex⟩
theorem hb_if {b : Bool} {th el : List Stmt} (hc : TR F ρ ω c b w1) (h1 : b = true → HB F ρ w1 th (K.then F rest)) (h2 : b = false → HB F ρ w1 el (K.then F rest)) : HB F ρ ω (.If c th el pos :: rest) K := hb_cons fun σ G H D at_ sl ps =>
  sw_of (ps_if pt_w pss_w pss_w) (hc σ G H at_ sl _ fun G2 H2 s a => by
    cases b with
    | true => exact iteT (h1 rfl σ G2 H2 _ a (sl.up s) (ps.up s).then)
    | false => exact iteF (h2 rfl σ G2 H2 _ a (sl.up s) (ps.up s).then))
theorem hb_break (h : K.bk ρ ω) : HB F ρ ω (.Break pos :: rest) K := hb_cons fun σ G H D at_ sl ps => sw_of ps_break (ps.bk ρ ω h σ G H (Same.refl _) at_ sl)
theorem hb_continue (h : K.ct ρ ω) : HB F ρ ω (.Continue pos :: rest) K := hb_cons fun σ G H D at_ sl ps => sw_of ps_continue (ps.ct ρ ω h σ G H (Same.refl _) at_ sl)
/-- the slots of ρ' are known from those of ρ -/
theorem hb_weak {ρ' : Ty} (hl : ρ'.length = ρ.length) (hw : ∀ (i : Nat) (S : Rl), ρ'[i]? = some (some S) → ∃ R : Rl, ρ[i]? = some (some R) ∧ ∀ v H, R.r v H → S.r v H) (h : HB F ρ' ω rest K) : HB F ρ ω rest K := fun σ G H D at_ sl ps =>
  h σ G H D at_ ⟨by rw [hl]; exact sl.len, fun i S e => by
    obtain ⟨R, e1, k⟩ := hw i S e
    obtain ⟨v, e2, r⟩ := sl.at_ i R e1
    exact ⟨v, e2, k v G r⟩⟩ ps
/-- loops -/
def Kn.loop (K : Kn) (F : Fx) (rest : List Stmt) (N : Ty → Ow → Prop) : Kn := { nx := N, ct := N, bk := fun ρ ω => HB F ρ ω rest K, rt := K.rt, ex := K.ex }
theorem hb_while {body : List Stmt} (I : Nat → Ty → Ow → Prop) (m0 : Nat) (h0 : I m0 ρ ω)
    (hs : ∀ m ρ ω, I m ρ ω → ∃ b w1, TR F ρ ω c b w1 ∧ (b = true → HB F ρ w1 body (K.loop F rest fun ρ' ω' => ∃ m', m' < m ∧ I m' ρ' ω')) ∧ (b = false → HB F ρ w1 rest K))
    (hp : PassesOwn (model F.X.prog F.X.w) F.X.A F.X.env F.X.xe) : HB F ρ ω (.While c body [] pos :: rest) K := hb_cons fun σ G H D at_ sl ps => by
  refine sw_of (ps_while hp pt_w pss_w) ⟨fun m σ H => ∃ ρ ω G, I m ρ ω ∧ At F ω G H ∧ Slots ρ σ G ∧ Post F K D G, ⟨m0, ρ, ω, G, h0, at_, sl, ps⟩, ?_⟩
  rintro m σ1 H1 ⟨ρ1, ω1, G1, i1, a1, sl1, ps1⟩
  obtain ⟨b, w1, hc, ht, hf⟩ := hs m ρ1 ω1 i1
  refine hc σ1 G1 H1 a1 sl1 _ fun G2 H2 s2 a2 => ?_
  cases b with
  | true =>
    refine iteT ⟨fun σ' H' => ∃ m', m' < m ∧ ∃ ρ ω G, I m' ρ ω ∧ At F ω G H' ∧ Slots ρ σ' G ∧ Post F K D G, fun σ' H' z => z, ?_⟩
    refine ht rfl σ1 G2 H2 _ a2 (sl1.up s2) ⟨fun ρ ω ⟨m', l, i'⟩ σ' G' H' s a sl => ⟨m', l, ρ, ω, G', i', a, sl, (ps1.up s2).up s⟩, (ps1.up s2).rt, fun ρ ω k σ' G' H' s a sl => k σ' G' H' D a sl ((ps1.up s2).up s), fun ρ ω ⟨m', l, i'⟩ σ' G' H' s a sl => ⟨m', l, ρ, ω, G', i', a, sl, (ps1.up s2).up s⟩, (ps1.up s2).ex⟩
  | false => exact iteF (hf rfl σ1 G2 H2 D a2 (sl1.up s2) (ps1.up s2))
end

/-! ### what a loop walks -/
structure Yld (J : It) (Rs : List Rl) (G : Hp) : Prop where
  go : ∀ i G' H', Same G G' → Same G' H' → i < Rs.length → J.go i H'
  stop : ∀ G' H', Same G G' → Same G' H' → J.stop Rs.length H'
  yld : ∀ (i : Nat) (R : Rl) G' H' x H'', Same G G' → Same G' H' → Rs[i]? = some R → J.yld i H' x H'' → ∃ G'', Step G' H' G'' H'' ∧ R.r x G''
theorem Yld.up {J : It} {Rs : List Rl} {G G1 : Hp} (y : Yld J Rs G) (e : Same G G1) : Yld J Rs G1 :=
  ⟨fun i G' H' s => y.go i G' H' (e.trans s), fun G' H' s => y.stop G' H' (e.trans s), fun i R G' H' x H'' s => y.yld i R G' H' x H'' (e.trans s)⟩
def IT (F : Fx) (ρ : Ty) (ω : Ow) (tg it : Expr) (Rs : List Rl) (w1 : Ow) : Prop :=
  ∃ wi, PI F.X tg it wi ∧ ∀ σ G H, At F ω G H → Slots ρ σ G → ∀ R : It → Hp → Prop, (∀ J G2 H2, Same G G2 → At F w1 G2 H2 → Yld J Rs G2 → R J H2) → wi σ H R
/-- what a target does to the slots -/
def GE (g : TG) (ρ : Ty) (S : Rl) (ρ' : Ty) : Prop :=
  ∀ v σ G H (Q : L2.St → Hp → Prop), Same G H → Slots ρ σ G → S.r v G → (∀ σ', Slots ρ' σ' G → Q σ' H) → g v σ H Q
def GEs (g : TGs) (ρ : Ty) (Rs : List Rl) (ρ' : Ty) : Prop :=
  ∀ vs σ G H (Q : L2.St → Hp → Prop), Same G H → Slots ρ σ G → All2 Rs vs G → (∀ σ', Slots ρ' σ' G → Q σ' H) → g vs σ H Q
section
variable {F : Fx} {X : Cx} {ρ ρ1 ρ2 : Ty} {ω w1 w2 : Ow} {K : Kn} {rest : List Stmt} {e e2 it tg : Expr} {R S : Rl} {pos p : Pos} {x : Str} {Rs Ss : List Rl}
theorem ge_name {i : Nat} : GE (gName i) ρ S (ρ.set i (some S)) := fun v σ G H Q s sl r q => q _ (sl.set i r)
theorem ges_nil : GEs gNil ρ [] ρ := fun vs σ G H Q s sl r q => by
  match vs, r with
  | [], _ => exact ⟨rfl, q _ sl⟩
theorem ges_cons {g : TG} {gs : TGs} (h1 : GE g ρ R ρ1) (h2 : GEs gs ρ1 Rs ρ2) : GEs (gCons g gs) ρ (R :: Rs) ρ2 := fun vs σ G H Q s sl r q => by
  match vs, r with
  | v :: vs, ⟨r1, r2⟩ => exact ⟨v, vs, rfl, h1 v σ G H _ s sl r1 fun σ' sl' => h2 vs σ' G H Q s sl' r2 q⟩
theorem ge_tup {K : PySem.W.Frag} {n : Nat} {gs : TGs} (h : GEs gs ρ Rs ρ1) (hl : Rs.length = n) : GE (gTup K n gs) ρ (rTup Rs) ρ1 := fun v σ G H Q s sl r q => by
  obtain ⟨a, vs, rfl, h1, h2⟩ := r
  exact ⟨a, vs, rfl, SqT.of (s _ _ h1), by rw [← h2.len]; exact hl, h vs σ G H Q s sl h2 q⟩
theorem hb_asg {g : TG} (he : ER F ρ ω e R w1) (pg : PG F.X tg g) (hg : GE g ρ R ρ1) (h : HB F ρ1 w1 rest K) (hs : swapsWithSole [tg] e pos.line F.X.env = pure false := by rfl) (hw : swappedStores [tg] e F.X.env = pure none := by rfl)
    (h1 : (assignEach [tg] F.X.env).map (·.2) = [assign tg F.X.env] := by rfl) : HB F ρ ω (.Assign [tg] e pos :: rest) K := hb_cons fun σ G H D at_ sl ps =>
  sw_of (ps_asg pe_w pg hs hw h1) (he σ G H at_ sl _ fun v G2 H2 s a r => hg v σ G2 H2 _ a.gh (sl.up s) r fun σ' sl' => h σ' G2 H2 D a sl' (ps.up s))
/-- a, b = e1, e2 -/
theorem hb_par {x y : Str} {a b : Expr} {px py pt : Pos} {kt k2 pt2} (i j : Nat) (ha : AR F ρ ω [a, b] [R, S] w1) (h : HB F ((ρ.set i (some R)).set j (some S)) w1 rest K) (hN : F.X.N.Nodup) (hij : i ≠ j := by decide) (hi : F.X.N[i]? = some x := by rfl) (hj : F.X.N[j]? = some y := by rfl)
    (hx : F.X.env.scope.names.lookup x = some .local := by rfl) (hy : F.X.env.scope.names.lookup y = some .local := by rfl) (hc : F.X.calm = true := by rfl)
    (hw : swappedStores [.Tuple [.Name x px, .Name y py] kt pt] (.Tuple [a, b] k2 pt2) F.X.env = pure (some [x, y]) := by rfl)
    (hs : swapsWithSole [.Tuple [.Name x px, .Name y py] kt pt] (.Tuple [a, b] k2 pt2) pos.line F.X.env = pure false := by rfl) :
    HB F ρ ω (.Assign [.Tuple [.Name x px, .Name y py] kt pt] (.Tuple [a, b] k2 pt2) pos :: rest) K := hb_cons fun σ G H D at_ sl ps => by
  refine sw_of (ps_par hc hN hi hj hij hx hy pa_w hw hs) (ha σ G H at_ sl _ fun vs G2 H2 s a r => ?_)
  obtain ⟨v, w, rfl, r1, r2⟩ := all2 r
  exact ⟨v, w, rfl, h _ G2 H2 D a (((sl.up s).set i r1).set j r2) (ps.up s)⟩
/-! lists, tuples, ranges, pairs -/
theorem it_lst (he : ER F ρ ω it (rLst Rs) w1) : IT F ρ ω tg it Rs w1 := ⟨_, pi_list pe_w, fun σ G H at_ sl R k => he σ G H at_ sl _ fun v G2 H2 s a r => by
  obtain ⟨a', vs, rfl, h1, h2⟩ := r
  refine ⟨a', rfl, ⟨vs, SqL.of (a.gh _ _ h1)⟩, k _ G2 H2 s a ⟨fun i G' H' s1 s2 hi => ⟨vs, vs[i]'(by rw [← h2.len]; exact hi), SqL.of (s2 _ _ (s1 _ _ h1)), List.getElem?_eq_getElem _⟩, fun G' H' s1 s2 => ⟨vs, SqL.of (s2 _ _ (s1 _ _ h1)), by rw [h2.len]; exact Nat.le_refl _⟩, fun i R G' H' x H'' s1 s2 hR y => ?_⟩⟩
  obtain ⟨rfl, y⟩ := y
  obtain ⟨v, hv, rv⟩ := h2.get hR
  have e := y vs (SqL.of (s2 _ _ (s1 _ _ h1)))
  rw [hv] at e
  cases e
  exact ⟨G', Step.refl s2, R.mo _ _ _ s1 rv⟩⟩
theorem it_tup (he : ER F ρ ω it (rTup Rs) w1) : IT F ρ ω tg it Rs w1 := ⟨_, pi_tup pe_w, fun σ G H at_ sl R k => he σ G H at_ sl _ fun v G2 H2 s a r => by
  obtain ⟨a', vs, rfl, h1, h2⟩ := r
  refine ⟨a', rfl, ⟨vs, SqT.of (a.gh _ _ h1)⟩, k _ G2 H2 s a ⟨fun i G' H' s1 s2 hi => ⟨vs, vs[i]'(by rw [← h2.len]; exact hi), SqT.of (s2 _ _ (s1 _ _ h1)), List.getElem?_eq_getElem _⟩, fun G' H' s1 s2 => ⟨vs, SqT.of (s2 _ _ (s1 _ _ h1)), by rw [h2.len]; exact Nat.le_refl _⟩, fun i R G' H' x H'' s1 s2 hR y => ?_⟩⟩
  obtain ⟨rfl, y⟩ := y
  obtain ⟨v, hv, rv⟩ := h2.get hR
  have e := y vs (SqT.of (s2 _ _ (s1 _ _ h1)))
  rw [hv] at e
  cases e
  exact ⟨G', Step.refl s2, R.mo _ _ _ s1 rv⟩⟩
def rng (lo : Int) (n : Nat) : List Rl := (List.range n).map fun (k : Nat) => rInt (lo + (k : Int))
theorem rng_len {lo : Int} {n : Nat} : (rng lo n).length = n := by unfold rng; rw [List.length_map, List.length_range]
theorem yld_rng {lo : Int} {n : Nat} {G : Hp} : Yld (Itr lo n) (rng lo n) G :=
  ⟨fun i _ _ _ _ hi => by rw [rng_len] at hi; exact hi, fun _ _ _ _ => by rw [rng_len]; exact Nat.le_refl n, fun i R G' H' x H'' s1 s2 hR y => by
    obtain ⟨rfl, rfl⟩ := y
    unfold rng at hR
    rw [List.getElem?_map] at hR
    cases h : (List.range n)[i]? with
    | none => rw [h] at hR; cases hR
    | some k =>
      rw [h] at hR
      have ek : k = i := by
        obtain ⟨hl, e⟩ := List.getElem?_eq_some_iff.mp h
        rw [List.getElem_range] at e
        exact e.symm
      subst ek
      cases hR
      exact ⟨G', Step.refl s2, rfl⟩⟩
theorem it_rng1 {n : Int} (he : AR F ρ ω [e] [rInt n] w1) (hg : Gl F.X "range") (hm : F.X.mg "range" = none) (hn : -(2 ^ 62) ≤ n ∧ n < 2 ^ 62) (hs : starEach [e] F.X.env = [(false, eval e F.X.env)] := by rfl) : IT F ρ ω tg (.Call (.Name "range" p) [e] [] pos) (rng 0 n.toNat) w1 :=
  ⟨_, pi_range1 hg hm pa_w hs, fun σ G H at_ sl R k => he σ G H at_ sl _ fun v G2 H2 s a r => by
    obtain ⟨y, rfl, ey⟩ := all1 r
    cases (show y = V.int n from ey)
    exact ⟨n, rfl, hn.1, hn.2, k _ G2 H2 s a yld_rng⟩⟩
theorem it_rng2 {m n : Int} (he : AR F ρ ω [e, e2] [rInt m, rInt n] w1) (hg : Gl F.X "range") (hm : F.X.mg "range" = none) (hn : -(2 ^ 62) ≤ m ∧ m < 2 ^ 62 ∧ -(2 ^ 62) ≤ n ∧ n < 2 ^ 62)
    (hs : starEach [e, e2] F.X.env = [(false, eval e F.X.env), (false, eval e2 F.X.env)] := by rfl) (hs2 : starEach [e2] F.X.env = [(false, eval e2 F.X.env)] := by rfl) : IT F ρ ω tg (.Call (.Name "range" p) [e, e2] [] pos) (rng m (n - m).toNat) w1 :=
  ⟨_, pi_range2 hg hm pa_w hs hs2, fun σ G H at_ sl R k => he σ G H at_ sl _ fun v G2 H2 s a r => by
    obtain ⟨y, z, rfl, ey, ez⟩ := all2 r
    cases (show y = V.int m from ey)
    cases (show z = V.int n from ez)
    exact ⟨m, n, rfl, hn, k _ G2 H2 s a yld_rng⟩⟩
/-- the loop -/
theorem hb_for {g : TG} {body : List Stmt} (hit : IT F ρ ω tg it Rs w1) (I : Nat → Ty → Ow → Prop) (h0 : I 0 ρ w1)
    (hs : ∀ (k : Nat) ρ ω (S : Rl), Rs[k]? = some S → I k ρ ω → ∃ ρ', GE g ρ S ρ' ∧ HB F ρ' ω body (K.loop F rest (I (k + 1)))) (hd : ∀ ρ ω, I Rs.length ρ ω → HB F ρ ω rest K)
    (hp : PassesOwn (model F.X.prog F.X.w) F.X.A F.X.env F.X.xe) (hpg : PG F.X tg g) (hc : F.X.calm = true := by rfl)
    (hfs : ∀ z, foldedSetIterable it F.X.env z = pure z := by intro _; rfl) : HB F ρ ω (.For tg it body [] pos :: rest) K := hb_cons fun σ G H D at_ sl ps => by
  obtain ⟨wi, hpi, hwi⟩ := hit
  refine sw_of (ps_for hp hc hpi hpg pss_w hfs) (hwi σ G H at_ sl _ fun J G2 H2 s2 a2 y2 => ?_)
  refine ⟨fun i m σ H => m = Rs.length - i ∧ i ≤ Rs.length ∧ ∃ ρ ω G, I i ρ ω ∧ At F ω G H ∧ Slots ρ σ G ∧ Same G2 G ∧ Post F K D G, ⟨Rs.length, by simp, Nat.zero_le _, ρ, w1, G2, h0, a2, sl.up s2, Same.refl _, ps.up s2⟩, ?_⟩
  rintro i m σ1 H1 ⟨rfl, hi, ρ1, ω1, G1, i1, a1, sl1, s1, ps1⟩
  by_cases hlt : i < Rs.length
  · refine .inr ⟨y2.go i G1 H1 s1 a1.gh hlt, fun σ' H' => ∃ ρ ω G, I (i + 1) ρ ω ∧ At F ω G H' ∧ Slots ρ σ' G ∧ Same G2 G ∧ Post F K D G, fun σ' H' z => ⟨Rs.length - (i + 1), by omega, rfl, hlt, z⟩, fun x H' y => ?_⟩
    obtain ⟨G3, st, rx⟩ := y2.yld i Rs[i] G1 H1 x H' s1 a1.gh (List.getElem?_eq_getElem hlt) y
    obtain ⟨ρ', ga, hb⟩ := hs i ρ1 ω1 Rs[i] (List.getElem?_eq_getElem hlt) i1
    have a3 := a1.step st
    refine ga x σ1 G3 H' _ a3.gh (sl1.up st.gg) rx fun σ2 sl2 => ?_
    have ps3 := ps1.up st.gg
    have s3 : Same G2 G3 := s1.trans st.gg
    exact hb σ2 G3 H' _ a3 sl2 ⟨fun ρ ω i' σ' G' H' s a sl => ⟨ρ, ω, G', i', a, sl, s3.trans s, ps3.up s⟩, ps3.rt, fun ρ ω k' σ' G' H' s a sl => k' σ' G' H' D a sl (ps3.up s), fun ρ ω i' σ' G' H' s a sl => ⟨ρ, ω, G', i', a, sl, s3.trans s, ps3.up s⟩, ps3.ex⟩
  · have e : i = Rs.length := by omega
    subst e
    exact .inl ⟨y2.stop G1 H1 s1 a1.gh, hd ρ1 ω1 i1 σ1 G1 H1 D a1 sl1 ps1⟩
end
end W1
set_option maxRecDepth 100000
set_option maxHeartbeats 2000000
namespace W1
open PySem PySem.Spec PyProof.Rows L2

/-! ### promises -/
/-- what is owned, in a heap -/
def Has (ω : Ow) (G H : Hp) : Prop := ∀ p ∈ ω, G p.1 = none ∧ ∃ o, H p.1 = some o ∧ p.2.c o G
structure StepM (M : List Addr) (G H G' H' : Hp) : Prop where
  gg : Same G G'
  hh : ∀ a o, a ∉ M → H a = some o → H' a = some o
  gh : Same G' H'
  fr : ∀ a, H a ≠ none → G a = none → G' a = none
abbrev Pre := List Rl → Ow → Out → Ow → Prop
def keys (ω : Ow) : List Addr := ω.map (·.1)
/-- a def's promise: from the relations of the arguments and what is handed over, what comes out and what becomes of what was handed over -/
def spM (pre : Pre) : Sp := fun vs H Q E => ∃ Rs ω o ω' G, pre Rs ω o ω' ∧ Same G H ∧ All2 Rs vs G ∧ Has ω G H ∧ (keys ω).Nodup ∧ keys ω' = keys ω ∧
  (match o with
    | .ok R => ∀ v G' H', StepM (keys ω) G H G' H' → Has ω' G' H' → R.r v G' → Q v H'
    | .error P => ∀ cls d G' H', StepM (keys ω) G H G' H' → Has ω' G' H' → P cls d G' → E cls d H')
/-- what a body is to come to -/
def Kf (o : Out) (ω' : Ow) : Kn where
  nx := fun _ w => ∃ R w0, o = .ok R ∧ (∀ G, R.r .non G) ∧ w = ω' ++ w0
  rt := fun S w => ∃ R w0, o = .ok R ∧ (∀ v G, S.r v G → R.r v G) ∧ w = ω' ++ w0
  ex := fun _ w P => ∃ P' w0, o = .error P' ∧ (∀ cls d G, P cls d G → P' cls d G) ∧ w = ω' ++ w0
theorem Has.left {ω w : Ow} {G H : Hp} (h : Has (ω ++ w) G H) : Has ω G H := fun p hp => h p (List.mem_append_left _ hp)
theorem At.has {F : Fx} {ω : Ow} {G H : Hp} (a : At F ω G H) : Has ω G H := fun p hp => let ⟨x, _, z⟩ := a.ow p hp; ⟨x, z⟩
theorem At.stepM {F : Fx} {wc wc' w : Ow} {G H G' H' : Hp} (a : At F (wc ++ w) G H) (s : StepM (keys wc) G H G' H') (h : Has wc' G' H') (hk : keys wc' = keys wc) : At F (wc' ++ w) G' H' := by
  have own : ∀ b ∈ keys wc, G b = none ∧ (F.H0 b = none ∨ b ∈ F.M) ∧ H b ≠ none := fun b hb => by
    obtain ⟨p, hp, e⟩ := List.mem_map.mp hb
    obtain ⟨x, y, o, z, _⟩ := a.ow p (List.mem_append_left _ hp)
    exact ⟨by rw [← e]; exact x, by rw [← e]; exact y, by rw [← e, z]; simp⟩
  have nd := a.nd
  rw [List.map_append] at nd
  have kk : ∀ b, b ∈ keys wc → H' b ≠ none := fun b hb => by
    rw [← hk] at hb
    obtain ⟨p, hp, e⟩ := List.mem_map.mp hb
    obtain ⟨_, o, z, _⟩ := h p hp
    rw [← e, z]
    simp
  refine ⟨a.gg.trans s.gg, fun b o hb e => ?_, s.gh, fun b h1 h2 => ?_, fun b hb => ?_, fun p hp => ?_, ?_⟩
  · refine s.hh b o (fun hm => ?_) (a.hh b o hb e)
    rcases (own b hm).2.1 with z | z
    · rw [z] at e; cases e
    · exact hb z
  · refine s.fr b ?_ (a.fr b h1 h2)
    by_cases hb : b ∈ F.M
    · exact a.mm b hb
    · cases e : F.H0 b with
      | none => exact absurd e h1
      | some o => rw [a.hh b o hb e]; simp
  · by_cases hm : b ∈ keys wc
    · exact kk b hm
    · cases e : H b with
      | none => exact absurd e (a.mm b hb)
      | some o => rw [s.hh b o hm e]; simp
  · rcases List.mem_append.mp hp with hp | hp
    · obtain ⟨x, o, y, z⟩ := h p hp
      refine ⟨x, ?_, o, y, z⟩
      have hm : p.1 ∈ keys wc := by rw [← hk]; exact List.mem_map_of_mem hp
      exact (own p.1 hm).2.1
    · obtain ⟨x, y, o, z, c⟩ := a.ow p (List.mem_append_right _ hp)
      have hm : p.1 ∉ keys wc := fun hm => by
        have := (List.nodup_append.mp nd).2.2 p.1 hm p.1 (List.mem_map_of_mem hp)
        exact this rfl
      exact ⟨s.fr p.1 (by rw [z]; simp) x, y, o, s.hh _ _ hm z, p.2.mo _ _ _ s.gg c⟩
  · rw [List.map_append]
    show (keys wc' ++ keys w).Nodup
    rw [hk]
    exact nd
/-- a body keeps the promise -/
theorem fn_ok {P : Program} {w : World} {K : PySem.W.Frag} {mg : Str → Option Value} {base : Heap} {x qual : Str} {st : Stmt} {f : Addr} {fd : FuncData} {N ps : List Str} {k : Nat} {pre : Pre} (Fn : Fun K x qual st f fd) (S : FnScope N ps (defScope st))
    (hl : ∀ Rs ω o ω', pre Rs ω o ω' → Rs.length = ps.length)
    (hb : ∀ (cdv : Value) (A : Around) (outer : List Env) (s : Shared) (H : Hp) (E : XK) (F : Fx), Room k (A.deeper (envOfC qual (defScope st) s.heap.objs.size f cdv)) → F.X = cxOf (L2.CX P w) P w K mg base N qual (defScope st) f cdv A outer s H E →
      ∀ Rs ω o ω', pre Rs ω o ω' → HB F (Rs.map some ++ List.replicate (N.length - Rs.length) none) ω (defBody st) (Kf o ω')) : FnOk P w K mg base (L2.CX P w) (k + 1) f fd ps (spM pre) := by
  refine Fn.okX S (fun vs H Q E h => ?_) (fun cdv A outer s H vs Q E hr h => ?_)
  · obtain ⟨Rs, ω, o, ω', G, hp, _, h2, _⟩ := h
    rw [← h2.len]
    exact hl _ _ _ _ hp
  · obtain ⟨Rs, ω, o, ω', G, hp, hgh, hv, hhas, hnd, hk, hq⟩ := h
    have tk : Takes (cxOf (L2.CX P w) P w K mg base N qual (defScope st) f cdv A outer s H E) (fun cls d _ H => E cls d H) := takes_of rfl rfl rfl rfl
    refine ⟨_, pss_w, hb cdv A outer s H E ⟨cxOf (L2.CX P w) P w K mg base N qual (defScope st) f cdv A outer s H E, G, H, keys ω, fun cls d _ H => E cls d H, tk⟩ hr rfl Rs ω o ω' hp (L2.start N vs) G H _ ?_ ?_ ?_⟩
    · exact ⟨Same.refl _, fun a o _ e => e, hgh, fun a _ e => e, fun a ha => by
        obtain ⟨p, hp, e⟩ := List.mem_map.mp ha
        obtain ⟨_, o, z, _⟩ := hhas p hp
        rw [← e, z]
        simp, fun p hp => let ⟨x, z⟩ := hhas p hp; ⟨x, .inr (List.mem_map_of_mem hp), z⟩, hnd⟩
    · unfold L2.start
      have e := hv.len
      refine ⟨by simp [e], fun i R hi => ?_⟩
      by_cases h : i < Rs.length
      · rw [List.getElem?_append_left (by simpa using h), List.getElem?_map] at hi
        cases h1 : Rs[i]? with
        | none => rw [h1] at hi; cases hi
        | some R' =>
          rw [h1] at hi
          cases hi
          obtain ⟨v, h2, h3⟩ := hv.get h1
          exact ⟨v, by rw [List.getElem?_append_left (by rw [List.length_map, ← e]; exact h), List.getElem?_map, h2]; rfl, h3⟩
      · rw [List.getElem?_append_right (by simpa using h), List.getElem?_replicate] at hi
        split at hi <;> cases hi
    · have fin : ∀ {w0 : Ow} {G' H' : Hp}, At ⟨cxOf (L2.CX P w) P w K mg base N qual (defScope st) f cdv A outer s H E, G, H, keys ω, fun cls d _ H => E cls d H, tk⟩ (ω' ++ w0) G' H' → StepM (keys ω) G H G' H' ∧ Has ω' G' H' :=
        fun a => ⟨⟨a.gg, a.hh, a.gh, a.fr⟩, a.has.left⟩
      refine ⟨fun ρ w1 hk σ G' H' s a sl => ?_, fun R w1 hk v G' H' s a r => ?_, fun _ _ hk => hk.elim, fun _ _ hk => hk.elim, fun ρ w1 P' hk cls d σ G' H' s a sl hP => ?_⟩
      · obtain ⟨R, w0, rfl, h1, rfl⟩ := hk
        obtain ⟨h2, h3⟩ := fin a
        exact hq _ _ _ h2 h3 (h1 _)
      · obtain ⟨R', w0, rfl, h1, rfl⟩ := hk
        obtain ⟨h2, h3⟩ := fin a
        exact hq _ _ _ h2 h3 (h1 _ _ r)
      · obtain ⟨P'', w0, rfl, h1, rfl⟩ := hk
        obtain ⟨h2, h3⟩ := fin a
        exact hq _ _ _ _ h2 h3 (h1 _ _ _ hP)
/-- asking it -/
theorem sp_ok {F : Fx} {pre : Pre} {Rs : List Rl} {wc wc' w : Ow} {R : Rl} {vs : List V} {G H : Hp} {Q : VK} {E : XK} (at_ : At F (wc ++ w) G H) (hv : All2 Rs vs G) (hp : pre Rs wc (.ok R) wc') (hk : keys wc' = keys wc)
    (q : ∀ v G2 H2, Same G G2 → At F (wc' ++ w) G2 H2 → R.r v G2 → Q v H2) : spM pre vs H Q E :=
  ⟨Rs, wc, .ok R, wc', G, hp, at_.gh, hv, at_.has.left, by have := at_.nd; rw [List.map_append] at this; exact (List.nodup_append.mp this).1, hk, fun v G' H' s h r => q v G' H' s.gg (at_.stepM s h hk) r⟩
theorem sp_er {F : Fx} {pre : Pre} {Rs : List Rl} {wc wc' w : Ow} {P : Er} {vs : List V} {G H : Hp} {Q : VK} {E : XK} (at_ : At F (wc ++ w) G H) (hv : All2 Rs vs G) (hp : pre Rs wc (.error P) wc') (hk : keys wc' = keys wc)
    (q : ∀ cls d G2 H2, Same G G2 → At F (wc' ++ w) G2 H2 → P cls d G2 → E cls d H2) : spM pre vs H Q E :=
  ⟨Rs, wc, .error P, wc', G, hp, at_.gh, hv, at_.has.left, by have := at_.nd; rw [List.map_append] at this; exact (List.nodup_append.mp this).1, hk, fun cls d G' H' s h r => q cls d G' H' s.gg (at_.stepM s h hk) r⟩

/-! ### calls, at the slots -/
section
variable {X : Cx} {CX : CXT} {k : Nat} {f C g pc : Addr} {fd : FuncData} {ps : List Str} {sp : Sp} {E : L2.St → XK} {x m : Str} {p pos apos : Pos} {e o : Expr} {es : List Expr} {ta : TE} {t : TA}
def tMethS (C : Addr) (m : Str) (sp : Sp) (E : L2.St → XK) (ta : TE) (t : TA) : TE := fun σ H Q => ta σ H fun x H1 => ∃ a dx fs, x = .ref a ∧ H1 a = some (.ins C dx fs) ∧ fs.lookup m = none ∧ t σ H1 fun vs H2 => sp (x :: vs) H2 Q (E σ)
def tMakeS (C : Addr) (sp : Sp) (E : L2.St → XK) (t : TA) : TE := fun σ H Q => t σ H fun vs H1 => ∀ x dx, H1 x = none → H1 dx = none → dx ≠ x →
  sp (.ref x :: vs) (upd (upd H1 dx (.own x)) x (.ins C dx [])) (fun v H2 => v = .non ∧ Q (.ref x) H2) (E σ)
theorem pe_methS {pl : Sem Bool} (he : PE X o ta) (c : Cls X.K C) (hm : Meth X.K C m f) (F : FnOk X.prog X.w X.K X.mg X.base CX k f fd ps sp) (hr : Room k X.A) (hb : Binds X.K fd ps []) (hx : ∀ σ, PassesAt CX X σ (E σ)) (ha : PA X (e :: es) t)
    (hst : starEach (e :: es) X.env = (false, eval e X.env) :: starEach es X.env := by rfl) (hpl : (backTo pos (starEach es X.env)).any (·.1) = false := by rfl)
    (ht : eval (.Call (.Attribute o m apos) (e :: es) [] pos) X.env = (do
      let ov ← eval o X.env
      standAt apos.atName
      let (f, first) ← holding [ov] (getMethod ov m pl)
      callWith pos f first (backTo pos (starEach (e :: es) X.env)) (backToKw pos (keywordEach [] X.env))) := by rfl) :
    PE X (.Call (.Attribute o m apos) (e :: es) [] pos) (tMethS C m sp E ta t) := by
  refine ⟨fun pins s σ H Q I h => ?_⟩
  refine PySem.W.methodCall_KW (pl := pl) (thn (he.run pins s σ H _ I h) fun u s1 ⟨x, H1, I1, rx, a, dx, fs, ex, ea, l, q⟩ => ?_) ht
  subst ex
  obtain rfl : u = Value.ref a := rx
  refine getmeth_ok I1 ea c hm l ?_
  refine PySem.W.callWith_K (first := [.ref a]) (h₀ := X.base) I.ok.mod.kin hm.kp (thn (ha.run pos pins s1 σ H1 _ I1 q) fun us s2 ⟨vs, H2, I2, r, q2⟩ => ⟨I2.kIn, ?_⟩) hst hpl
  exact run_fnS (us := .ref a :: us) (vs := .ref a :: vs) F hr hb (hx σ) I2 (.cons rfl r) q2
theorem pe_methS0 {pl : Sem Bool} (he : PE X o ta) (c : Cls X.K C) (hm : Meth X.K C m f) (F : FnOk X.prog X.w X.K X.mg X.base CX k f fd ps sp) (hr : Room k X.A) (hb : Binds X.K fd ps []) (hx : ∀ σ, PassesAt CX X σ (E σ))
    (ht : eval (.Call (.Attribute o m apos) [] [] pos) X.env = (do
      let ov ← eval o X.env
      standAt apos.atName
      let (f, first) ← holding [ov] (getMethod ov m pl)
      callWith pos f first (backTo pos (starEach [] X.env)) (backToKw pos (keywordEach [] X.env))) := by rfl) :
    PE X (.Call (.Attribute o m apos) [] [] pos) (tMethS C m sp E ta tNil) := by
  refine ⟨fun pins s σ H Q I h => ?_⟩
  refine PySem.W.methodCall_KW (pl := pl) (thn (he.run pins s σ H _ I h) fun u s1 ⟨x, H1, I1, rx, a, dx, fs, ex, ea, l, q⟩ => ?_) ht
  subst ex
  obtain rfl : u = Value.ref a := rx
  refine getmeth_ok I1 ea c hm l ?_
  exact PySem.W.callWith_K0 (first := [.ref a]) I1.kIn hm.kp (run_fnS (us := [.ref a]) (vs := [.ref a]) F hr hb (hx σ) I1 (.cons rfl .nil) q)
theorem run_makeS {pins : List (Addr × Obj)} {σ : L2.St} {H : Hp} {s : Shared} {Q : VK} {us : List Value} {vs : List V} (M : Mk X.K C f) (F : FnOk X.prog X.w X.K X.mg X.base CX k f fd ps sp) (hr : Room (k + 1) X.A) (hb : Binds X.K fd ps [])
    (hx : PassesAt CX X σ (E σ)) (I : Inv X pins σ H s) (r : Vals vs us)
    (h : ∀ x dx, H x = none → H dx = none → dx ≠ x → sp (.ref x :: vs) (upd (upd H dx (.own x)) x (.ins C dx [])) (fun v H2 => v = .non ∧ Q (.ref x) H2) (E σ)) :
    wpAny (model X.prog X.w) X.A (call (.ref C) us) (EP X pins σ Q) X.xe s := by
  have hq := h (s.heap.objs.size + 1) s.heap.objs.size (I.hok.fresh (Nat.le_succ _)) (I.hok.fresh (Nat.le_refl _)) (Nat.ne_of_lt (Nat.lt_succ_self _))
  have I2 := Inv.made (C := C) I
  have r2 : Vals (V.ref (s.heap.objs.size + 1) :: vs) (Value.ref (s.heap.objs.size + 1) :: us) := .cons rfl r
  have hl : (Value.ref (s.heap.objs.size + 1) :: us).length = ps.length := by
    have e := r2.length
    rw [F.len _ _ _ _ hq] at e
    exact e.symm
  have hbb := hb _ (Value.ref (s.heap.objs.size + 1) :: us) I2.kIn (by rw [List.append_nil]; exact hl)
  rw [List.append_nil] at hbb
  refine wpAny_call (make_map (f := f) I.kIn M.makes M.init (beq_iff_eq.mp M.fn) (codeAny_mono (F.run _ X.stack _ _ ⟨Value.ref (s.heap.objs.size + 1) :: us, []⟩ (Value.ref (s.heap.objs.size + 1) :: us) _ _ (E σ) (hr.make C us [])
    (I2.env0.make C us []) hbb r2 hq) fun r s' hq' => ?_))
  cases r with
  | error e => exact hx pins _ _ e s' I2 hq'
  | ok fl =>
    cases fl with
    | ret u =>
      obtain ⟨v, H', I3, rv, ev, q3⟩ := I2.after hq'
      subst ev
      exact ⟨rv, ⟨V.ref (s.heap.objs.size + 1), H', I3, rfl, q3⟩⟩
    | next => exact False.elim hq'
    | brk => exact False.elim hq'
    | cont => exact False.elim hq'
theorem pe_makeS (M : Mk X.K C f) (F : FnOk X.prog X.w X.K X.mg X.base CX k f fd ps sp) (hr : Room (k + 1) X.A) (hg : Gl X x) (hm : X.mg x = some (.ref C)) (hb : Binds X.K fd ps []) (hx : ∀ σ, PassesAt CX X σ (E σ))
    (ha : PA X (e :: es) t) (hdb : (x == ("__debug__" : Str)) = false := by decide) (he : starEach (e :: es) X.env = (false, eval e X.env) :: starEach es X.env := by rfl) (hpl : (backTo pos (starEach es X.env)).any (·.1) = false := by rfl) :
    PE X (.Call (.Name x p) (e :: es) [] pos) (tMakeS C sp E t) := by
  refine ⟨fun pins s σ H Q I h => ?_⟩
  refine wpAny_Call_Name_kw (ld_glob I hg hm ?_ hdb)
  refine PySem.W.callWith_K (h₀ := X.base) I.ok.mod.kin M.kp (thn (ha.run pos pins s σ H _ I h) fun us s1 ⟨vs, H1, I1, r, q⟩ => ⟨I1.kIn, ?_⟩) he hpl
  exact run_makeS M F hr hb (hx σ) I1 r q
end
end W1
set_option maxRecDepth 100000
set_option maxHeartbeats 2000000
namespace W1
open PySem PySem.Spec PyProof.Rows L2

section
variable {F : Fx} {ρ : Ty} {ω w w1 w2 wc wc' : Ow} {e o : Expr} {es : List Expr} {R S : Rl} {Rs : List Rl} {P : Er} {pos p apos : Pos} {x m : Str} {k : Nat} {f C g pc : Addr} {fd : FuncData} {ps : List Str} {pre : Pre}
theorem passW : ∀ σ, PassesAt (L2.CX F.X.prog F.X.w) F.X σ (WE F.W σ) := fun σ => passAt F.tk σ
/-- f(..) -/
theorem er_call (ha : AR F ρ ω (e :: es) Rs (wc ++ w)) (hp : pre Rs wc (.ok R) wc') (hk : keys wc' = keys wc) (Fn : FnOk F.X.prog F.X.w F.X.K F.X.mg F.X.base (L2.CX F.X.prog F.X.w) k f fd ps (spM pre)) (hr : Room k F.X.A) (hm : F.X.mg x = some (.ref f))
    (hkp : PySem.W.keepIn F.X.K (.ref f) = true) (hb : Binds F.X.K fd ps []) (hg : Gl F.X x := by rfl) (hdb : (x == ("__debug__" : Str)) = false := by decide) (he : starEach (e :: es) F.X.env = (false, eval e F.X.env) :: starEach es F.X.env := by rfl) (hpl : (backTo pos (starEach es F.X.env)).any (·.1) = false := by rfl) :
    ER F ρ ω (.Call (.Name x p) (e :: es) [] pos) R (wc' ++ w) := fun σ G H at_ sl Q q =>
  ew_of (pe_callS Fn hr hg hm hkp hb passW pa_w hdb he hpl) (ha σ G H at_ sl _ fun vs G2 H2 s a r => sp_ok a r hp hk fun v G3 H3 s3 a3 r3 => q v G3 H3 (s.trans s3) a3 r3)
theorem ex_call (ha : AR F ρ ω (e :: es) Rs (wc ++ w)) (hp : pre Rs wc (.error P) wc') (hk : keys wc' = keys wc) (Fn : FnOk F.X.prog F.X.w F.X.K F.X.mg F.X.base (L2.CX F.X.prog F.X.w) k f fd ps (spM pre)) (hr : Room k F.X.A) (hm : F.X.mg x = some (.ref f))
    (hkp : PySem.W.keepIn F.X.K (.ref f) = true) (hb : Binds F.X.K fd ps []) (hg : Gl F.X x := by rfl) (hdb : (x == ("__debug__" : Str)) = false := by decide) (he : starEach (e :: es) F.X.env = (false, eval e F.X.env) :: starEach es F.X.env := by rfl) (hpl : (backTo pos (starEach es F.X.env)).any (·.1) = false := by rfl) :
    EX F ρ ω (.Call (.Name x p) (e :: es) [] pos) P (wc' ++ w) := fun σ G H at_ sl q =>
  ew_of (pe_callS Fn hr hg hm hkp hb passW pa_w hdb he hpl) (ha σ G H at_ sl _ fun vs G2 H2 s a r => sp_er a r hp hk fun cls d G3 H3 s3 a3 r3 => q cls d G3 H3 (s.trans s3) a3 r3)
/-- o.m(..) -/
theorem er_meth {fs : List (Str × Rl)} {pl : Sem Bool} (ho : ER F ρ ω o (rIns C fs) w1) (hno : fs.lookup m = none) (ha : AR F ρ w1 (e :: es) Rs (wc ++ w)) (hp : pre (rIns C fs :: Rs) wc (.ok R) wc') (hk : keys wc' = keys wc)
    (Fn : FnOk F.X.prog F.X.w F.X.K F.X.mg F.X.base (L2.CX F.X.prog F.X.w) k f fd ps (spM pre)) (hr : Room k F.X.A) (hc : Cls F.X.K C) (hm : Meth F.X.K C m f) (hb : Binds F.X.K fd ps [])
    (hst : starEach (e :: es) F.X.env = (false, eval e F.X.env) :: starEach es F.X.env := by rfl) (hpl : (backTo pos (starEach es F.X.env)).any (·.1) = false := by rfl)
    (ht : eval (.Call (.Attribute o m apos) (e :: es) [] pos) F.X.env = (do
      let ov ← eval o F.X.env
      standAt apos.atName
      let (f, first) ← holding [ov] (getMethod ov m pl)
      callWith pos f first (backTo pos (starEach (e :: es) F.X.env)) (backToKw pos (keywordEach [] F.X.env))) := by rfl) :
    ER F ρ ω (.Call (.Attribute o m apos) (e :: es) [] pos) R (wc' ++ w) := fun σ G H at_ sl Q q => by
  refine ew_of (pe_methS pe_w hc hm Fn hr hb passW pa_w hst hpl ht) (ho σ G H at_ sl _ fun v G1 H1 s1 a1 r1 => ?_)
  obtain ⟨a, dx, vs, rfl, h1, h2⟩ := id r1
  refine ⟨a, dx, vs, rfl, a1.gh _ _ h1, h2.lookN hno, ha σ G1 H1 a1 (sl.up s1) _ fun us G2 H2 s2 a2 r2 => ?_⟩
  exact sp_ok (Rs := rIns C fs :: Rs) a2 ⟨(rIns C fs).mo _ _ _ s2 r1, r2⟩ hp hk fun v G3 H3 s3 a3 r3 => q v G3 H3 ((s1.trans s2).trans s3) a3 r3
theorem er_meth0 {fs : List (Str × Rl)} {pl : Sem Bool} (ho : ER F ρ ω o (rIns C fs) (wc ++ w)) (hno : fs.lookup m = none) (hp : pre [rIns C fs] wc (.ok R) wc') (hk : keys wc' = keys wc)
    (Fn : FnOk F.X.prog F.X.w F.X.K F.X.mg F.X.base (L2.CX F.X.prog F.X.w) k f fd ps (spM pre)) (hr : Room k F.X.A) (hc : Cls F.X.K C) (hm : Meth F.X.K C m f) (hb : Binds F.X.K fd ps [])
    (ht : eval (.Call (.Attribute o m apos) [] [] pos) F.X.env = (do
      let ov ← eval o F.X.env
      standAt apos.atName
      let (f, first) ← holding [ov] (getMethod ov m pl)
      callWith pos f first (backTo pos (starEach [] F.X.env)) (backToKw pos (keywordEach [] F.X.env))) := by rfl) :
    ER F ρ ω (.Call (.Attribute o m apos) [] [] pos) R (wc' ++ w) := fun σ G H at_ sl Q q => by
  refine ew_of (pe_methS0 pe_w hc hm Fn hr hb passW ht) (ho σ G H at_ sl _ fun v G1 H1 s1 a1 r1 => ?_)
  obtain ⟨a, dx, vs, rfl, h1, h2⟩ := id r1
  exact ⟨a, dx, vs, rfl, a1.gh _ _ h1, h2.lookN hno, sp_ok (Rs := [rIns C fs]) a1 ⟨r1, trivial⟩ hp hk fun v G3 H3 s3 a3 r3 => q v G3 H3 (s1.trans s3) a3 r3⟩
theorem ex_meth {fs : List (Str × Rl)} {pl : Sem Bool} (ho : ER F ρ ω o (rIns C fs) w1) (hno : fs.lookup m = none) (ha : AR F ρ w1 (e :: es) Rs (wc ++ w)) (hp : pre (rIns C fs :: Rs) wc (.error P) wc') (hk : keys wc' = keys wc)
    (Fn : FnOk F.X.prog F.X.w F.X.K F.X.mg F.X.base (L2.CX F.X.prog F.X.w) k f fd ps (spM pre)) (hr : Room k F.X.A) (hc : Cls F.X.K C) (hm : Meth F.X.K C m f) (hb : Binds F.X.K fd ps [])
    (hst : starEach (e :: es) F.X.env = (false, eval e F.X.env) :: starEach es F.X.env := by rfl) (hpl : (backTo pos (starEach es F.X.env)).any (·.1) = false := by rfl)
    (ht : eval (.Call (.Attribute o m apos) (e :: es) [] pos) F.X.env = (do
      let ov ← eval o F.X.env
      standAt apos.atName
      let (f, first) ← holding [ov] (getMethod ov m pl)
      callWith pos f first (backTo pos (starEach (e :: es) F.X.env)) (backToKw pos (keywordEach [] F.X.env))) := by rfl) :
    EX F ρ ω (.Call (.Attribute o m apos) (e :: es) [] pos) P (wc' ++ w) := fun σ G H at_ sl q => by
  refine ew_of (pe_methS pe_w hc hm Fn hr hb passW pa_w hst hpl ht) (ho σ G H at_ sl _ fun v G1 H1 s1 a1 r1 => ?_)
  obtain ⟨a, dx, vs, rfl, h1, h2⟩ := id r1
  refine ⟨a, dx, vs, rfl, a1.gh _ _ h1, h2.lookN hno, ha σ G1 H1 a1 (sl.up s1) _ fun us G2 H2 s2 a2 r2 => ?_⟩
  exact sp_er (Rs := rIns C fs :: Rs) a2 ⟨(rIns C fs).mo _ _ _ s2 r1, r2⟩ hp hk fun cls d G3 H3 s3 a3 r3 => q cls d G3 H3 ((s1.trans s2).trans s3) a3 r3
/-- an instance that is being made -/
def oIns (C : Addr) (fs : List (Str × Rl)) : Ol := ⟨fun o G => ∃ dx vs, o = .ins C dx vs ∧ NR fs vs G, fun _ _ _ e ⟨dx, vs, a, b⟩ => ⟨dx, vs, a, b.up e⟩⟩
/-- what is owned no more -/
theorem At.pub {F : Fx} {q : Addr} {O : Ol} {w : Ow} {G H : Hp} {o : HO} (a : At F ((q, O) :: w) G H) (ho : H q = some o) (hq : F.H0 q = none) : At F w (upd G q o) H := by
  have hg : G q = none := (a.ow _ List.mem_cons_self).1
  have sg : Same G (upd G q o) := fun b u e => by rw [upd_ne (ne_of_none e hg)]; exact e
  have nd := List.nodup_cons.mp a.nd
  refine ⟨a.gg.trans sg, a.hh, fun b u e => ?_, fun b h1 h2 => ?_, a.mm, fun p hp => ?_, nd.2⟩
  · by_cases hb : b = q
    · subst hb
      rw [upd_same] at e
      cases e
      exact ho
    · rw [upd_ne hb] at e
      exact a.gh _ _ e
  · rw [upd_ne (fun z => h1 (by rw [z]; exact hq))]
    exact a.fr b h1 h2
  · obtain ⟨x, y, u, z, c⟩ := a.ow p (List.mem_cons_of_mem _ hp)
    have ne : p.1 ≠ q := fun z => nd.1 (List.mem_map.mpr ⟨p, hp, z⟩)
    exact ⟨by rw [upd_ne ne]; exact x, y, u, z, p.2.mo _ _ _ sg c⟩
/-- a new thing that is owned -/
theorem At.own {F : Fx} {q : Addr} {O : Ol} {w : Ow} {G H : Hp} {o : HO} (a : At F w G H) (hq : H q = none) (hc : O.c o G) : At F ((q, O) :: w) G (upd H q o) := by
  have hg : G q = none := a.gh.free hq
  have st := Step.hid (o := o) a.gh hq
  have a' := a.step st
  have hM : q ∉ F.M := fun hm => a.mm q hm hq
  have h0 : F.H0 q = none := by
    cases e : F.H0 q with
    | none => rfl
    | some u => rw [a.hh q u hM e] at hq; cases hq
  refine ⟨a'.gg, a'.hh, a'.gh, a'.fr, a'.mm, fun p hp => ?_, List.nodup_cons.mpr ⟨fun hm => ?_, a.nd⟩⟩
  · rcases List.mem_cons.mp hp with rfl | hp
    · exact ⟨hg, .inl h0, o, upd_same, hc⟩
    · exact a'.ow p hp
  · obtain ⟨p, hp, e⟩ := List.mem_map.mp hm
    obtain ⟨_, _, u, z, _⟩ := a.ow p hp
    rw [e, hq] at z
    cases z
theorem At.own0 {F : Fx} {q : Addr} {O : Ol} {w : Ow} {G H : Hp} (a : At F ((q, O) :: w) G H) (hM : q ∉ F.M) : F.H0 q = none := ((a.ow _ List.mem_cons_self).2.1).resolve_right hM
/-- C(..) -/
theorem er_make {fs : List (Str × Rl)} (ha : AR F ρ ω (e :: es) Rs w) (hp : ∀ q, pre (rRef q :: Rs) [(q, oIns C [])] (.ok rNon) [(q, oIns C fs)]) (Fn : FnOk F.X.prog F.X.w F.X.K F.X.mg F.X.base (L2.CX F.X.prog F.X.w) k f fd ps (spM pre)) (hr : Room (k + 1) F.X.A) (M : Mk F.X.K C f)
    (hm : F.X.mg x = some (.ref C)) (hb : Binds F.X.K fd ps []) (hg : Gl F.X x := by rfl) (hdb : (x == ("__debug__" : Str)) = false := by decide) (he : starEach (e :: es) F.X.env = (false, eval e F.X.env) :: starEach es F.X.env := by rfl) (hpl : (backTo pos (starEach es F.X.env)).any (·.1) = false := by rfl) :
    ER F ρ ω (.Call (.Name x p) (e :: es) [] pos) (rIns C fs) w := fun σ G H at_ sl Q q => by
  refine ew_of (pe_makeS M Fn hr hg hm hb passW pa_w hdb he hpl) (ha σ G H at_ sl _ fun vs G1 H1 s1 a1 r1 => fun y dx hy hdx hne => ?_)
  have a2 : At F w G1 (upd H1 dx (.own y)) := a1.step (Step.hid a1.gh hdx)
  have hy2 : upd H1 dx (.own y) y = none := by rw [upd_ne (Ne.symm hne)]; exact hy
  have a3 : At F ([(y, oIns C [])] ++ w) G1 (upd (upd H1 dx (.own y)) y (.ins C dx [])) := a2.own hy2 ⟨dx, [], rfl, trivial⟩
  have hM : y ∉ F.M := fun hm => a2.mm y hm hy2
  refine sp_ok (Rs := rRef y :: Rs) (wc := [(y, oIns C [])]) a3 ⟨rfl, r1⟩ (hp y) rfl fun v G3 H3 s3 a4 r3 => ⟨r3, ?_⟩
  obtain ⟨_, _, ob, h1, dx', vs', e1, h2⟩ := a4.ow (y, oIns C fs) List.mem_cons_self
  subst e1
  have a5 : At F w (upd G3 y (.ins C dx' vs')) H3 := At.pub (q := y) a4 h1 (At.own0 a4 hM)
  have sg : Same G3 (upd G3 y (.ins C dx' vs')) := fun b u e => by rw [upd_ne (ne_of_none e (a4.ow (y, oIns C fs) List.mem_cons_self).1)]; exact e
  exact q _ _ _ ((s1.trans s3).trans sg) a5 ⟨y, dx', vs', rfl, upd_same, h2.up sg⟩
theorem ex_make (ha : AR F ρ ω (e :: es) Rs w) (hp : ∀ q, ∃ O, pre (rRef q :: Rs) [(q, oIns C [])] (.error P) [(q, O)]) (Fn : FnOk F.X.prog F.X.w F.X.K F.X.mg F.X.base (L2.CX F.X.prog F.X.w) k f fd ps (spM pre)) (hr : Room (k + 1) F.X.A) (M : Mk F.X.K C f)
    (hm : F.X.mg x = some (.ref C)) (hb : Binds F.X.K fd ps []) (hg : Gl F.X x := by rfl) (hdb : (x == ("__debug__" : Str)) = false := by decide) (he : starEach (e :: es) F.X.env = (false, eval e F.X.env) :: starEach es F.X.env := by rfl) (hpl : (backTo pos (starEach es F.X.env)).any (·.1) = false := by rfl)
    (hP : ∀ cls d G G', Same G G' → P cls d G → P cls d G') :
    EX F ρ ω (.Call (.Name x p) (e :: es) [] pos) P w := fun σ G H at_ sl q => by
  refine ew_of (pe_makeS M Fn hr hg hm hb passW pa_w hdb he hpl) (ha σ G H at_ sl _ fun vs G1 H1 s1 a1 r1 => fun y dx hy hdx hne => ?_)
  have a2 : At F w G1 (upd H1 dx (.own y)) := a1.step (Step.hid a1.gh hdx)
  have hy2 : upd H1 dx (.own y) y = none := by rw [upd_ne (Ne.symm hne)]; exact hy
  have a3 : At F ([(y, oIns C [])] ++ w) G1 (upd (upd H1 dx (.own y)) y (.ins C dx [])) := a2.own hy2 ⟨dx, [], rfl, trivial⟩
  have hM : y ∉ F.M := fun hm => a2.mm y hm hy2
  obtain ⟨O, hp'⟩ := hp y
  refine sp_er (Rs := rRef y :: Rs) (wc := [(y, oIns C [])]) a3 ⟨rfl, r1⟩ hp' rfl fun cls d G3 H3 s3 a4 r3 => ?_
  obtain ⟨hg0, _, ob, h1, _⟩ := a4.ow (y, O) List.mem_cons_self
  have a5 : At F w (upd G3 y ob) H3 := At.pub (q := y) a4 h1 (At.own0 a4 hM)
  have sg : Same G3 (upd G3 y ob) := fun b u e => by rw [upd_ne (ne_of_none e hg0)]; exact e
  exact q cls d _ _ ((s1.trans s3).trans sg) a5 (hP _ _ _ _ sg r3)
/-- a field of what is owned: stored -/
def putR (f : Str) (R : Rl) : List (Str × Rl) → List (Str × Rl)
  | [] => [(f, R)]
  | (g, S) :: r => if g = f then (f, R) :: r else (g, S) :: putR f R r
theorem NR.put {f : Str} {R : Rl} {v : V} {H : Hp} (h : R.r v H) : ∀ {fs : List (Str × Rl)} {vs : List (Str × V)}, NR fs vs H → NR (putR f R fs) (putF f v vs) H
  | [], [], _ => ⟨rfl, h, trivial⟩
  | (g, S) :: fs, (g', u) :: vs, ⟨e, a, b⟩ => by
    subst e
    unfold putR putF
    by_cases hg : g = f
    · rw [if_pos hg, if_pos hg]
      exact ⟨hg ▸ rfl, h, b⟩
    · rw [if_neg hg, if_neg hg]
      exact ⟨rfl, a, NR.put h b⟩
  | [], _ :: _, h => h.elim
  | _ :: _, [], h => h.elim
theorem NR.len {κ : Type} : ∀ {fs : List (κ × Rl)} {vs : List (κ × V)} {H : Hp}, NR fs vs H → fs.length = vs.length
  | [], [], _, _ => rfl
  | _ :: _, _ :: _, _, ⟨_, _, b⟩ => by rw [List.length_cons, List.length_cons, NR.len b]
  | [], _ :: _, _, h => h.elim
  | _ :: _, [], _, h => h.elim
/-- what is owned at q changes -/
theorem At.chg {F : Fx} {q : Addr} {O O' : Ol} {w : Ow} {G H : Hp} {o : HO} (a : At F ((q, O) :: w) G H) (hc : O'.c o G) : At F ((q, O') :: w) G (upd H q o) := by
  obtain ⟨hg, hM, ob, h1, _⟩ := a.ow _ List.mem_cons_self
  have nd := List.nodup_cons.mp a.nd
  refine ⟨a.gg, fun b u hb e => ?_, fun b u e => ?_, a.fr, fun b hb => ?_, fun p hp => ?_, a.nd⟩
  · rw [upd_ne (fun z => ?_)]
    · exact a.hh b u hb e
    · rcases hM with z' | z'
      · rw [z, z'] at e; cases e
      · exact hb (z ▸ z')
  · rw [upd_ne (ne_of_none e hg)]
    exact a.gh _ _ e
  · by_cases z : b = q
    · rw [z, upd_same]; simp
    · rw [upd_ne z]; exact a.mm b hb
  · rcases List.mem_cons.mp hp with rfl | hp
    · exact ⟨hg, hM, o, upd_same, hc⟩
    · obtain ⟨x, y, u, z, c⟩ := a.ow p (List.mem_cons_of_mem _ hp)
      have ne : p.1 ≠ q := fun z => nd.1 (List.mem_map.mpr ⟨p, hp, z⟩)
      exact ⟨x, y, u, by rw [upd_ne ne]; exact z, c⟩
theorem hb_fld {K : Kn} {rest : List Stmt} {q : Addr} {fs : List (Str × Rl)} {f : Str} {pos' : Pos} (hv : ER F ρ ω e R w1) (ho : ER F ρ w1 o (rRef q) ((q, oIns C fs) :: w2)) (hc : Cls F.X.K C) (hn : NoAttr F.X.K C f) (h : HB F ρ ((q, oIns C (putR f R fs)) :: w2) rest K) (hl : fs.length < 1000 := by decide)
    (hs : swapsWith e (some (.Attribute o f pos')) pos.line F.X.env = pure false := by rfl) : HB F ρ ω (.Assign [.Attribute o f pos'] e pos :: rest) K := hb_cons fun σ G H D at_ sl ps => by
  refine sw_of (ps_fld pe_w pe_w hs) (hv σ G H at_ sl _ fun v G1 H1 s1 a1 r1 => ho σ G1 H1 a1 (sl.up s1) _ fun u G2 H2 s2 a2 r2 => ?_)
  have r2' : u = V.ref q := r2
  subst r2'
  obtain ⟨_, _, ob, h1, dx, vs, e1, h2⟩ := a2.ow (q, oIns C fs) List.mem_cons_self
  subst e1
  refine ⟨q, C, dx, vs, rfl, h1, hc, hn, by rw [← h2.len]; exact hl, ?_⟩
  have s12 := s1.trans s2
  exact h σ G2 _ D (a2.chg ⟨dx, _, rfl, h2.put (R.mo _ _ _ s2 r1)⟩) (sl.up s12) (ps.up s12)
end
end W1
set_option maxRecDepth 100000
set_option maxHeartbeats 2000000
namespace W1
open PySem PySem.Spec PyProof.Rows L2 NdefX

/-! ### an own error whose __init__ says super().__init__(text) -/
/-- the def at f -/
abbrev supF (qual : Str) (st : Stmt) (cc cd : Addr) : NF := ⟨"__init__", qual, defArgs st, defBody st, defScope st, [("__class__", cc)], cd⟩
/-- what the written part says of the class at C, its __init__ at f, the cell at cc, the code at cd -/
structure SupC (P : Program) (K : PySem.W.Frag) (mg : Str → Option Value) (x qual : Str) (st : Stmt) (C f cc cd : Addr) : Prop where
  ox : OexC K C
  gC : mg x = some (.ref C)
  iC : PySem.W.findIn K (.ref C) "__init__" = some (some (.ref f))
  tI : PySem.W.typeIn K (.ref f) = some (.type "function")
  fn : ∃ oc od doc pm ctv osl, K.lookup f = some ⟨oc, od, .func ((supF qual st cc cd).fd doc pm ctv), osl⟩
  hcd : PySem.W.codeIn K (.ref cd) qual = true
  code : ∃ ccl cdd vs ccs file tf, K.lookup cd = some ⟨ccl, cdd, .fields vs, ccs⟩ ∧ vs[2]? = some (.str file tf) ∧ (P.main.file == file) = true
  cell : ∃ cl cld csl, K.lookup cc = some ⟨cl, cld, .cell (some (.ref C)), csl⟩
  sub : PySem.W.mroIn K C (.ref C) = some true
  nsup : mg "super" = none
  sup : PySem.W.ks_superIn K C C "__init__" = some (some (.builtin "ValueError.__init__"))
  subV : PySem.W.subIn K (.ref C) (.type "ValueError") = some true
  opq : PySem.W.nsIn K cStatics "thirdparty.any" = some none
  top : (P.main.scope.names.lookup ("super" : Str)).isSome = false
  te : PySem.W.exmOne K (.ref C) (.ref C) = some true
section
variable {X : Cx} {pins : List (Addr × Obj)} {σ : L2.St} {H : Hp} {s : Shared}
theorem ld_var {E : Value → Shared → Prop} {i : Nat} {x : Str} {v : V} {Q : Value → Shared → Prop} (I : Inv X pins σ H s) (hN : X.N[i]? = some x) (hv : Vis X.env.scope x) (hσ : σ[i]? = some (some v)) (hcd : (x == ("__classdict__" : Str)) = false)
    (h : ∀ u, RelV v u → Q u s) : wpAny (model X.prog X.w) X.A (loadName X.env x) Q E s := by
  obtain ⟨m, hn, hl⟩ := I.loc
  obtain ⟨u, r, l⟩ := hl i x v hN hσ hv
  rcases l with ⟨hk, hm⟩ | ⟨hk, c, hc, hcell⟩
  · exact wpAny_loadName_local I.ok.kind hk hn hm (h u r)
  · rcases hk with hk | hk
    · exact wpAny_loadName_cell I.ok.kind hk hc hcell (h u r)
    · exact wpAny_loadName_free I.ok.kind hk hc hcell (h u r) hcd
/-- super() in such a body: the object of it -/
theorem super_made {x qual : Str} {st : Stmt} {C f cc cd a : Addr} {p0 p1 : Pos} {body : List Stmt} {whole : Sem Value} {Q : Value → Shared → Prop} {E : Value → Shared → Prop} {ar : Arg} (T : SupC X.prog X.K X.mg x qual st C f cc cd) (I : Inv X pins σ H s)
    (ea : H a = some (exo a C none)) (h0 : σ[0]? = some (some (.ref a))) (hN : X.N[0]? = some ar.arg) (hv : Vis X.env.scope ar.arg) (hn1 : (ar.arg == ("__classdict__" : Str)) = false)
    (hks : X.env.kindOf "super" = some .globalImplicit) (hkc : X.env.kindOf "__class__" = some .free) (hfu : X.env.func = some f) (hco : X.env.code = .ref cd) (hcl : X.env.cells.lookup ("__class__" : Str) = some cc)
    (hp : ((defArgs st).posonlyargs ++ (defArgs st).args).head? = some ar)
    (h : ∀ s', Inv X ((s.heap.objs.size, PySem.W.ks_superObj C a C) :: pins) σ H s' → Q (.ref s.heap.objs.size) s') :
    PySem.wpAt (model X.prog X.w) X.A (.func body X.env) (attributeBase (.Call (.Name "super" p0) [] [] p1) "__init__" X.env whole) Q E s := by
  obtain ⟨oc, od, doc, pm, ctv, osl, hf⟩ := T.fn
  obtain ⟨ccl, cdd, vs, ccs, file, tf, hcode, hvs, hfile⟩ := T.code
  obtain ⟨ct, cld, csl, hcell⟩ := T.cell
  obtain ⟨nm, q, N, bs, bm, sn, sub, ab, col, dd, k0, k1, k2, k3, k5, hC, hbm⟩ := T.ox.cls
  have hclI : PySem.W.clsIn X.K C = some { name := nm, bases := bs, mro := .ref C :: bm, ns := N, qualname := q, hasDict := true, slotNames := sn, subclasses := sub, abstract := ab, collection := col, hasDel := false } := by unfold PySem.W.clsIn; rw [hC] <;> rfl
  obtain ⟨t1, hx⟩ := exo_at I.hok ea
  refine ks_wpAt_super_base (attr := "__init__") hks hkc (by decide +kernel) hfu (I.kIn _ _ hf) rfl hp hco (I.kIn _ _ hcode) rfl hvs hfile T.top ?_
  refine PySem.W.ks_loadName_global I.ok.kind hks ?_
  obtain ⟨mb, h1, h2⟩ := I.mod.blt
  refine Calls.loadGlobal_builtin (by rw [I.ok.glob]; exact I.mod.glob.keeps I.bk) T.nsup (by rw [I.ok.blt]; exact h1.keeps I.bk) ((h2 _ (by decide +kernel)).trans (by decide +kernel : bootBuiltins "super" = some (.type "super"))) ⟨rfl, ?_⟩
  refine wpAny_loadName_free I.ok.kind hkc hcl ⟨_, I.kIn _ _ hcell, rfl⟩ ?_
  refine ld_var I hN hv h0 hn1 fun u ru => ?_
  obtain rfl : u = Value.ref a := ru
  obtain ⟨hp', g, d, t, os⟩ := s
  refine ks_wpAny_isType_cls (I.kIn _ _ hC) rfl ⟨rfl, ?_⟩
  refine ks_wpAny_call_super (I.kIn _ _ hC) rfl hx rfl (fun c z => nomatch z) (PySem.W.looks_mroIn I.kIn T.sub) (fun h' e k => ?_)
  exact h _ (ClX.pin_new I k (Nat.le_refl _) e (fun v z => nomatch z))
/-- .__init__ of it, called: the exception's texts are laid anew -/
theorem super_init {x qual : Str} {st : Stmt} {C f cc cd a so : Addr} {pos : Pos} {e : Expr} {es : List Expr} {ta : TA} {pl : Sem Bool} {Q : Value → Shared → Prop} (T : SupC X.prog X.K X.mg x qual st C f cc cd) (I : Inv X ((so, PySem.W.ks_superObj C a C) :: pins) σ H s)
    (ea : H a = some (exo a C none)) (ha : PA X (e :: es) ta) (q : ta σ H fun vs H1 => vs.length ≤ 1000 ∧ H1 a = some (exo a C none) ∧ ∀ s', Inv X pins σ H1 s' → Q .none s')
    (he : starEach (e :: es) X.env = (false, eval e X.env) :: starEach es X.env) (hpl : (backTo pos (starEach es X.env)).any (·.1) = false) :
    wpAny (model X.prog X.w) X.A (getMethod (.ref so) "__init__" pl) (fun fx s₂ => wpAny (model X.prog X.w) X.A (callWith pos fx.1 fx.2 (backTo pos (starEach (e :: es) X.env)) []) Q X.xe s₂) X.xe s := by
  obtain ⟨nm, q', N, bs, bm, sn, sub, ab, col, dd, k0, k1, k2, k3, k5, hC, hbm⟩ := T.ox.cls
  have hclI : PySem.W.clsIn X.K C = some { name := nm, bases := bs, mro := .ref C :: bm, ns := N, qualname := q', hasDict := true, slotNames := sn, subclasses := sub, abstract := ab, collection := col, hasDel := false } := by unfold PySem.W.clsIn; rw [hC] <;> rfl
  obtain ⟨t1, hx⟩ := exo_at I.hok ea
  have hso := ClX.pin_at I
  have sup := T.sup
  unfold PySem.W.ks_superIn at sup
  rw [hclI] at sup
  have J : PySem.W.InstAt s.heap a { cls := .ref C, dict := none, data := .fields #[.ref t1, .none, .none, .none, .bool false, .none] } C none := ⟨hx, rfl, rfl, trivial⟩
  have naC : a ≠ C := fun z => by
    have := I.kIn _ _ hC
    rw [← z, hx] at this
    cases this
  have hI : PySem.W.Looks (model X.prog X.w) s.heap (isInstance (.ref a) (.type "ValueError")) true := J.type.andThen (PySem.W.looks_subIn I.kIn T.subV)
  obtain ⟨hp, g, d, t, os⟩ := s
  refine PySem.W.kxs_getMethod PySem.W.kxs_ValueError hso (PySem.W.looks_opaque I.kIn T.opq) (l₀ := .ref C :: bm) ?_ rfl I.kIn sup hI naC (by decide +kernel) ?_
  · exact fun A Q E s k q => wpAny_bind ((PySem.W.looks_clsIn I.kIn hclI) A _ E s k (wpAny_pure q))
  · have I1 := ClX.pin_new (t' := t + 1) (h' := hp.push (PySem.W.kxs_mw "ValueError.__init__" a)) (a := hp.objs.size) (o := PySem.W.kxs_mw "ValueError.__init__" a) I (fun b u z => Heap.get?_push_of_some _ z) (Nat.le_refl _) (Heap.get?_push_at rfl rfl) (fun v z => nomatch z)
    have hq1 : wpAny (model X.prog X.w) X.A (spliced (backTo pos (starEach (e :: es) X.env))) (fun us s₁ => PySem.W.KxsAt "ValueError.__init__" hp.objs.size a s₁.heap ∧ wpAny (model X.prog X.w) X.A (call (.ref hp.objs.size) us) Q X.xe s₁) X.xe ⟨hp.push (PySem.W.kxs_mw "ValueError.__init__" a), g, d, t + 1, os⟩ := by
      refine thn (ha.run pos _ _ σ H _ I1 q) fun us s1 ⟨vs, H1, I2, r, hlen, ea1, q1⟩ => ⟨ClX.pin_at I2, ?_⟩
      have hu := ClX.pin_at I2
      obtain ⟨t2, hx2⟩ := exo_at I2.hok ea1
      have hz : us.length ≤ sizeLine := by
        rw [← r.length]
        exact Nat.le_of_lt (small1000 hlen)
      obtain ⟨h2, g2, d2, tk2, os2⟩ := s1
      refine wpAny_call (codeAny_of_tree ?_)
      show wpAny _ X.A.in1 (callAny (.ref hp.objs.size) ⟨us, []⟩) _ _ _
      simp only [callAny]
      refine wpAny_bind (wpAny_load hu ?_)
      simp only [PySem.W.kxs_mw, show (Value.type "method-wrapper" == Value.type "method" || Value.type "method-wrapper" == Value.type "builtin_function_or_method" || Value.type "method-wrapper" == Value.type "method-wrapper") = true by decide, if_true]
      refine PySem.W.KFB.if_so (by decide) ?_
      refine wpAny_bind (PySem.W.check_bound_init F.excBase_ValueError.toExcCallFacts (I2.kIn _ _ hC) hx2 rfl ?_)
      refine wpAny_bind (wpAny_pure (wpAny_pure ?_))
      refine ⟨plainId_quiet F.excBase_ValueError.init.plain _, codeAny_builtin F.excBase_ValueError.initEntry ?_⟩
      refine PySem.W.exc_init_tree (cls := .ref C) (t0 := t2) (dv := none) (c2 := .none) (c3 := .none) (b4 := .bool false) hx2 hz fun h3 k e3 t3 => ?_
      have J3 := (ClX.unpin (ClX.unpin I2)).write (t' := tk2) (x := a) (e := a) (o := exo a C none) (by rw [ea1]; exact True.intro) (.inl rfl) k ⟨_, e3⟩ (exo_ok e3)
      have eu : upd H1 a (exo a C none) = H1 := by
        funext b
        by_cases hb : b = a
        · rw [hb, upd_same, ea1]
        · rw [upd_ne hb]
      rw [eu] at J3
      exact q1 _ J3
    rw [he] at hq1 ⊢
    exact PySem.W.kxs_callWith (i := "ValueError.__init__") (x := a) (first := []) (by show (false || (backTo pos (starEach es X.env)).any (·.1)) = false; rw [hpl]; rfl) (Calls.evalArgs_plain hq1)
end
end W1
set_option maxRecDepth 100000
set_option maxHeartbeats 2000000
namespace W1
open PySem PySem.Spec PyProof.Rows L2 NdefX
section
variable {P : Program} {w : World} {K : PySem.W.Frag} {mg : Str → Option Value} {base : Heap}
/-- such a def keeps its promise -/
theorem fn_sup {x qual : Str} {st : Stmt} {C f cc cd : Addr} {N ps : List Str} {k : Nat} {sp : Sp} {ar : Arg} {p0 p1 p2 p3 p4 : Pos} {e : Expr} {es : List Expr} {rest : List Stmt} (T : SupC P K mg x qual st C f cc cd)
    (S : NScope N ps ["__class__"] (defScope st)) (hst : defBody st = .Expr (.Call (.Attribute (.Call (.Name "super" p0) [] [] p1) "__init__" p2) (e :: es) [] p3) p4 :: rest)
    (hp : ((defArgs st).posonlyargs ++ (defArgs st).args).head? = some ar) (hN : N[0]? = some ar.arg) (hn1 : (ar.arg == ("__classdict__" : Str)) = false) (hpa : ar.arg ∈ ps)
    (hks : (defScope st).names.lookup ("super" : Str) = some .globalImplicit)
    (len : ∀ vs H Q E, sp vs H Q E → vs.length = ps.length)
    (pl : ∀ env : Env, env.scope = defScope st → ∃ pl : Sem Bool, eval (.Call (.Attribute (.Call (.Name "super" p0) [] [] p1) "__init__" p2) (e :: es) [] p3) env = (do
      let ov ← attributeBase (.Call (.Name "super" p0) [] [] p1) "__init__" env (eval (.Call (.Name "super" p0) [] [] p1) env)
      standAt p2.atName
      let (f, first) ← holding [ov] (getMethod ov "__init__" pl)
      callWith p3 f first (backTo p3 (starEach (e :: es) env)) []))
    (hsw : ∀ env : Env, env.scope = defScope st → swapsWith (.Call (.Attribute (.Call (.Name "super" p0) [] [] p1) "__init__" p2) (e :: es) [] p3) none p4.line env = pure false)
    (hse : ∀ env : Env, env.scope = defScope st → starEach (e :: es) env = (false, eval e env) :: starEach es env ∧ (backTo p3 (starEach es env)).any (·.1) = false)
    (hbody : ∀ (A : Around) (outer : List Env) (s : Shared) (H : Hp) (vs : List V) (Q : VK) (E : XK), Room k (A.deeper (envF (supF qual st cc cd) f s.heap.objs.size)) → sp vs H Q E →
      ∃ a ta t, vs[0]? = some (.ref a) ∧ H a = some (exo a C none) ∧ PA (ncx (L2.CX P w) P w K mg base N (supF qual st cc cd) f A outer s H E) (e :: es) ta ∧ PSs (ncx (L2.CX P w) P w K mg base N (supF qual st cc cd) f A outer s H E) rest t ∧
        ta (startF N vs [none]) H fun us H1 => us.length ≤ 1000 ∧ H1 a = some (exo a C none) ∧ t { nx := fun _ H' => Q .non H', rt := Q } (startF N vs [none]) H1) :
    ∃ fd, (∃ doc pm ctv, fd = (supF qual st cc cd).fd doc pm ctv) ∧ FnOk P w K mg base (L2.CX P w) (k + 1) f fd ps sp := by
  obtain ⟨oc, od, doc, pm, ctv, osl, lk⟩ := T.fn
  refine ⟨_, ⟨doc, pm, ctv, rfl⟩, len, fun A outer s H args us vs Q E hr e0 hb r hsp => ?_⟩
  have KX : K.In s.heap := e0.mod.kin.keeps fun b o e => (e0.bs b o e).1
  have hl := len _ _ _ _ hsp
  have lim : s.heap.NoLimit := e0.mod.nolimit.keeps fun b o e => (e0.bs b o e).1
  obtain ⟨ct, cld, csl, hcell⟩ := T.cell
  refine ks_codeAny_call_defAt (body := defBody st) hr.depth (KX _ _ lk) rfl lim (PySem.W.codeRec_of KX T.hcd) rfl hb S.nocell (fun ⟨n, _⟩ hy => S.par n (List.of_mem_zip hy).1) (fun h₁ hns kp => ?_) S.co S.gen S.kind
  show PySem.wpAt (model P w) (A.deeper (envF (supF qual st cc cd) f s.heap.objs.size)) (.func (defBody st) (envF (supF qual st cc cd) f s.heap.objs.size)) (execs (defBody st) (envF (supF qual st cc cd) f s.heap.objs.size)) _ _ _
  have hcc : H cc = none := (e0.bs cc _ (e0.mod.kin _ _ hcell)).2
  have Cs : CellsAt (supF qual st cc cd).cl ["__class__"] [none] s.heap H := by
    refine ⟨rfl, fun y c h => ?_, fun y z c h1 h2 => ?_, fun i y h => ?_⟩
    · have h' : [(("__class__" : Str), cc)].lookup y = some c := h
      by_cases hy : y = "__class__"
      · subst hy
        rw [List.lookup_cons_self] at h'
        cases h'
        exact ⟨hcc, _, _, KX _ _ hcell, rfl⟩
      · rw [List.lookup_cons, show (y == ("__class__" : Str)) = false by simpa using hy] at h'
        cases h'
    · have k1 : ∀ {y : Str}, [(("__class__" : Str), cc)].lookup y = some c → y = "__class__" := fun {y} h => by
        by_cases hy : y = "__class__"
        · exact hy
        · rw [List.lookup_cons, show (y == ("__class__" : Str)) = false by simpa using hy] at h
          cases h
      rw [k1 h1, k1 h2]
    · match i, h with
      | 0, h =>
        cases h
        exact ⟨cc, List.lookup_cons_self, fun v z => by cases z⟩
      | i + 1, h => simp at h
  have I := inv_startN (CX := L2.CX P w) (f := f) (E := E) (tk := s.toks + (ps.zip us).length) S hr.hd e0 hl r Cs hns kp
  obtain ⟨a, ta, t, hv0, ea, hpa1, hrest, hq⟩ := hbody A outer s H vs Q E (hr.deeper _) hsp
  obtain ⟨pl', hpl'⟩ := pl (envF (supF qual st cc cd) f s.heap.objs.size) rfl
  obtain ⟨hse1, hse2⟩ := hse (envF (supF qual st cc cd) f s.heap.objs.size) rfl
  have hσ : (startF N vs [none])[0]? = some (some (V.ref a)) := by
    unfold startF
    have : 0 < vs.length := by
      cases vs with
      | nil => cases hv0
      | cons _ _ => exact Nat.zero_lt_succ _
    rw [List.getElem?_append_left (by rw [List.length_map]; exact this), List.getElem?_map, hv0]
    rfl
  have fin : ∀ {σ' : L2.St} {H' : Hp} {v : V} {u : Value} {s' : Shared}, Inv (ncx (L2.CX P w) P w K mg base N (supF qual st cc cd) f A outer s H E) [] σ' H' s' → L2.RelV v u → Q v H' → CE outer P w H s Q u s' :=
    fun {σ' H' v u s'} J rv q => ⟨v, H', J.os, J.bare, J.base, J.hok, rv, q⟩
  have endR : ∀ fl s', SP (ncx (L2.CX P w) P w K mg base N (supF qual st cc cd) f A outer s H E) [] { nx := fun _ H' => Q .non H', rt := Q } fl s' → CR (L2.CX P w) outer P w H s Q E (.ok (.ret (match fl with | .ret v => v | _ => .none))) s' := fun fl s' hs => by
    cases fl with
    | ret u =>
      obtain ⟨v, σ', H', J, rv, q⟩ := hs
      exact fin J rv q
    | next =>
      obtain ⟨σ', H', J, q⟩ := hs
      exact fin (v := V.non) (u := Value.none) J rfl q
    | brk =>
      obtain ⟨_, _, _, q⟩ := hs
      exact False.elim q
    | cont =>
      obtain ⟨_, _, _, q⟩ := hs
      exact False.elim q
  rw [hst]
  refine ks_wpAt_execs_cons (ks_wpAt_Expr_any ?_ (by simp [interactive, S.kind]) (hsw _ rfl))
  refine ks_wpAt_MethodCall (pl := pl') ?_ hpl'
  refine super_made (X := ncx (L2.CX P w) P w K mg base N (supF qual st cc cd) f A outer s H E) (ar := ar) T I ea hσ hN (Or.inl (S.par _ hpa)) hn1 hks (S.frk _ List.mem_cons_self) rfl rfl List.lookup_cons_self hp fun s1 I1 => ?_
  have hpa2 : PA (ncx (L2.CX P w) P w K mg base N (supF qual st cc cd) f A outer s H E) (e :: es) (fun σ' H' Q' => (σ' = startF N vs [none] ∧ H' = H) ∧ ∀ us H1, (us.length ≤ 1000 ∧ H1 a = some (exo a C none) ∧ t { nx := fun _ H' => Q .non H', rt := Q } (startF N vs [none]) H1) → Q' us H1) :=
    ⟨fun pos pins s σ' H' Q' I z => by
      obtain ⟨⟨rfl, rfl⟩, k⟩ := z
      exact thn (hpa1.run pos pins s _ _ _ I hq) fun us s' ⟨vs', H2, I2, r2, q2⟩ => ⟨vs', H2, I2, r2, k vs' H2 q2⟩⟩
  refine super_init (X := ncx (L2.CX P w) P w K mg base N (supF qual st cc cd) f A outer s H E) T I1 ea hpa2 ⟨⟨rfl, rfl⟩, fun us H1 ⟨h1, h2, h3⟩ => ⟨h1, h2, fun s2 I2 => ?_⟩⟩ hse1 hse2
  refine wpAt_of_wpAny (wpAny_mono (hrest.run [] s2 _ H1 _ I2 h3) (fun fl s' hs => endR fl s' hs) fun e s' hs => hs)
end
end W1
set_option maxRecDepth 100000
set_option maxHeartbeats 2000000
namespace W1
open PySem PySem.Spec PyProof.Rows L2 NdefX

/-- the promise of such an __init__: the one field is stored -/
def spErr (C : Addr) (fld : Str) (Pr : Rl) : Sp := fun vs H Q _ => ∃ a v, vs = [.ref a, v] ∧ H a = some (exo a C none) ∧ Pr.r v H ∧
  ∀ H' d, H d = none → d ≠ a → H' a = some (exo a C (some d)) → H' d = some (exd d [(fld, v)]) → (∀ b o, b ≠ a → H b = some o → H' b = some o) → Q .non H'
/-- an expression that gives some text -/
def Txt1 (X : Cx) (e : Expr) (i : Nat) (Pr : Rl) : Prop := ∃ te, PE X e te ∧ ∀ σ H v, σ[i]? = some (some v) → Pr.r v H → ∀ Q : VK, (∀ y H', Same H H' → Q y H') → te σ H Q
section
variable {P : Program} {w : World} {K : PySem.W.Frag} {mg : Str → Option Value} {base : Heap}
theorem ok_err {x qual y fld : Str} {st : Stmt} {C f cc cd : Addr} {k : Nat} {Pr : Rl} {p0 p1 p2 p3 p4 p5 p6 p7 p8 ps1 ps2 : Pos} {an1 an2 : Option Expr} {e : Expr} (T : SupC P K mg x qual st C f cc cd)
    (S : NScope ([("self" : Str), y, "__class__"] : List Str) ([("self" : Str), y] : List Str) ["__class__"] (defScope st))
    (hst : defBody st = [.Expr (.Call (.Attribute (.Call (.Name "super" p0) [] [] p1) "__init__" p2) [e] [] p3) p4, .Assign [.Attribute (.Name "self" p5) fld p6] (.Name y p7) p8])
    (hp : ((defArgs st).posonlyargs ++ (defArgs st).args).head? = some ⟨"self", an1, ps1⟩) (hks : (defScope st).names.lookup ("super" : Str) = some .globalImplicit) (hno : PySem.W.findIn K (.ref C) fld = some none)
    (hd1 : (y == ("__debug__" : Str)) = false) (hd2 : (y == ("__classdict__" : Str)) = false)
    (pl : ∀ env : Env, env.scope = defScope st → ∃ pl : Sem Bool, eval (.Call (.Attribute (.Call (.Name "super" p0) [] [] p1) "__init__" p2) [e] [] p3) env = (do
      let ov ← attributeBase (.Call (.Name "super" p0) [] [] p1) "__init__" env (eval (.Call (.Name "super" p0) [] [] p1) env)
      standAt p2.atName
      let (f, first) ← holding [ov] (getMethod ov "__init__" pl)
      callWith p3 f first (backTo p3 (starEach [e] env)) []))
    (hsw : ∀ env : Env, env.scope = defScope st → swapsWith (.Call (.Attribute (.Call (.Name "super" p0) [] [] p1) "__init__" p2) [e] [] p3) none p4.line env = pure false)
    (hsw2 : ∀ env : Env, swapsWith (.Name y p7) (some (.Attribute (.Name "self" p5) fld p6)) p8.line env = pure false)
    (hse : ∀ env : Env, env.scope = defScope st → starEach [e] env = (false, eval e env) :: starEach [] env ∧ (backTo p3 (starEach [] env)).any (·.1) = false)
    (htx : ∀ X : Cx, X.K = K → X.mg = mg → X.base = base → X.prog = P → X.w = w → X.N = ([("self" : Str), y, "__class__"] : List Str) → X.env.scope = defScope st → Room k X.A → X.calm = true → Txt1 X e 1 Pr) :
    ∃ fd, (∃ doc pm ctv, fd = (supF qual st cc cd).fd doc pm ctv) ∧ FnOk P w K mg base (L2.CX P w) (k + 1) f fd ([("self" : Str), y] : List Str) (spErr C fld Pr) := by
  refine fn_sup (N := ([("self" : Str), y, "__class__"] : List Str)) (ps := ([("self" : Str), y] : List Str)) T S hst hp rfl (show (("self" : Str) == ("__classdict__" : Str)) = false by decide +kernel) List.mem_cons_self hks (fun vs H Q E h => ?_) pl hsw hse (fun A outer s H vs Q E hr h => ?_)
  · obtain ⟨a, v, rfl, _⟩ := h
    rfl
  · obtain ⟨a, v, rfl, ea, hpr, hq⟩ := h
    obtain ⟨te, hte, htk⟩ := htx (ncx (L2.CX P w) P w K mg base ([("self" : Str), y, "__class__"] : List Str) (supF qual st cc cd) f A outer s H E) rfl rfl rfl rfl rfl rfl rfl hr rfl
    have hs : Loc (defScope st) "self" := .inl (S.par _ List.mem_cons_self)
    have hy : Loc (defScope st) y := .inl (S.par _ (List.mem_cons_of_mem _ List.mem_cons_self))
    refine ⟨a, _, _, rfl, ea, pa_cons hte pa_nil (hse _ rfl).1, pss_one (ps_ost (pe_var (i := 0) rfl (Or.inl (S.par _ List.mem_cons_self))) (pe_var (i := 1) rfl (Or.inl (S.par _ (List.mem_cons_of_mem _ List.mem_cons_self))) hd1 hd2) (hsw2 _)), ?_⟩
    refine htk _ _ v rfl hpr _ fun z H1 s1 => ⟨by show 1 ≤ 1000; decide, s1 _ _ ea, v, rfl, .ref a, rfl, a, C, rfl, T.ox, hno, .inl ⟨s1 _ _ ea, fun d hd hne => ?_⟩⟩
    refine hq _ d (s1.free hd) hne upd_same (by rw [upd_ne hne, upd_same]) fun b o hb e => ?_
    rw [upd_ne hb, upd_ne (ne_of_none (s1 _ _ e) hd)]
    exact s1 _ _ e
end
/-- the error as it flies: its one field -/
def erF (C : Addr) (fld : Str) (R : Rl) : Er := fun cls d G => cls = .ref C ∧ ∃ dd v, d = some dd ∧ G dd = some (.xd [(fld, v)]) ∧ R.r v G
theorem erF_mo {C : Addr} {fld : Str} {R : Rl} : ∀ cls d G G', Same G G' → erF C fld R cls d G → erF C fld R cls d G' := fun cls d G G' s ⟨a, dd, v, b, c, e⟩ => ⟨a, dd, v, b, s _ _ c, R.mo _ _ _ s e⟩
section
variable {F : Fx} {ρ : Ty} {ω w1 : Ow} {K : Kn} {rest : List Stmt} {e : Expr} {R Pr : Rl} {pos pos' p : Pos} {x y qual fld : Str} {st : Stmt} {C f cc cd : Addr} {fd : FuncData} {k : Nat}
theorem hb_raise (ha : AR F ρ ω [e] [R] w1) (hx : K.ex ρ w1 (erF C fld R)) (hPr : ∀ v G, R.r v G → Pr.r v G) (T : SupC F.X.prog F.X.K F.X.mg x qual st C f cc cd) (Fn : FnOk F.X.prog F.X.w F.X.K F.X.mg F.X.base (L2.CX F.X.prog F.X.w) k f fd ([("self" : Str), y] : List Str) (spErr C fld Pr))
    (hr : Room (k + 1) F.X.A) (hb : Binds F.X.K fd ([("self" : Str), y] : List Str) []) (hg : Gl F.X x := by rfl) (hc : F.X.calm = true := by rfl) (hdb : (x == ("__debug__" : Str)) = false := by decide)
    (he : starEach [e] F.X.env = (false, eval e F.X.env) :: starEach [] F.X.env := by rfl) (hpl : (backTo pos (starEach [] F.X.env)).any (·.1) = false := by rfl) :
    HB F ρ ω (.Raise (some (.Call (.Name x p) [e] [] pos)) none pos' :: rest) K := hb_cons fun σ G H D at_ sl ps => by
  refine sw_of (ps_raise hc F.tk (pmk_oex T.ox T.iC T.tI Fn hr hb .nil passL hg T.gC pa_w hdb he hpl)) (ha σ G H at_ sl _ fun vs G1 H1 s1 a1 r1 => ?_)
  obtain ⟨v, rfl, rv⟩ := all1 r1
  refine ⟨by show 1 ≤ 1000; decide, fun a hna => ?_⟩
  have hg0 : G1 a = none := a1.gh.free hna
  have sa : Same G1 (upd H1 a (exo a C none)) := fun b o z => by rw [upd_ne (ne_of_none z hg0)]; exact a1.gh _ _ z
  refine ⟨a, v, rfl, upd_same, Pr.mo _ _ _ sa (hPr _ _ rv), fun H' d hd hne h1 h2 h3 => ⟨rfl, d, _, h1, h2, ?_, ?_⟩⟩
  · rw [upd_ne hne] at hd
    exact hd
  · rw [upd_ne hne] at hd
    have hgd : G1 d = none := a1.gh.free hd
    have st : Step G1 H1 (upd G1 d (.xd [(fld, v)])) (upd (del H' a) d (.xd [(fld, v)])) := by
      refine ⟨fun b o z => by rw [upd_ne (ne_of_none z hgd)]; exact z, fun b o z => ?_, fun b o z => ?_, fun b z1 z2 => ?_⟩
      · have ba : b ≠ a := ne_of_none z hna
        rw [upd_ne (ne_of_none z hd), del_ne ba]
        exact h3 b o ba (by rw [upd_ne ba]; exact z)
      · by_cases hb : b = d
        · subst hb
          rw [upd_same] at z ⊢
          exact z
        · rw [upd_ne hb] at z ⊢
          have ba : b ≠ a := ne_of_none z hg0
          rw [del_ne ba]
          exact h3 b o ba (by rw [upd_ne ba]; exact a1.gh _ _ z)
      · rw [upd_ne (fun z => z1 (by rw [z]; exact hd))]
        exact z2
    exact ps.ex ρ w1 _ hx _ _ σ _ _ (s1.trans st.gg) (a1.step st) (sl.up (s1.trans st.gg)) ⟨rfl, d, v, rfl, upd_same, R.mo _ _ _ st.gg rv⟩
end
/-! ### what an f-string tells: some text -/
def prInt : Rl := ⟨fun v _ => ∃ i : Int, v = .int i ∧ i.natAbs.log2 < 1920, fun _ _ _ _ h => h⟩
def prStr : Rl := ⟨fun v _ => ∃ z : Str, v = .str z ∧ z.length ≤ 100000, fun _ _ _ _ h => h⟩
theorem strlen_app (a b : Str) : (a ++ b).length = a.length + b.length := by
  show (a.cps ++ b.cps).size = a.cps.size + b.cps.size
  rw [Array.size_append]
theorem sz16 : (100000 + 3000 : Nat) ≤ sizeLine := by decide
theorem fmt_int {X : Cx} {e : Expr} {i : Nat} {pos : Pos} {x : Str} (hN : X.N[i]? = some x) (hv : Vis X.env.scope x) (hd : (x == ("__debug__" : Str)) = false) (hcd : (x == ("__classdict__" : Str)) = false) {p1 : Pos} :
    ∃ te, PE X (.FormattedValue (.Name x p1) (-1) none pos) te ∧ ∀ σ H v, σ[i]? = some (some v) → (prInt.r v H ∨ prStr.r v H) → ∀ Q : VK, (∀ y : Str, y.length ≤ 101000 → Q (.str y) H) → te σ H Q :=
  ⟨_, pe_fmt (pe_var hN hv hd hcd), fun σ H v h1 h2 Q q => ⟨v, h1, by
    rcases h2 with ⟨n, rfl, h2⟩ | ⟨z, rfl, h2⟩
    · exact .inr ⟨n, rfl, h2, q _ (Nat.le_trans (int_text_len_1921 h2) (by decide))⟩
    · exact .inl ⟨z, rfl, Nat.le_trans h2 (by decide), q z (Nat.le_trans h2 (by decide))⟩⟩⟩
theorem empty_app (a : Str) : (Str.empty ++ a).length = a.length := by
  rw [strlen_app]
  exact Nat.zero_add _
/-- f"{x} .." -/
theorem txt_fc {X : Cx} {i : Nat} {x t : Str} {p1 p2 p3 p4 : Pos} {j : Nat} (hN : X.N[i]? = some x) (hv : Vis X.env.scope x) (hd : (x == ("__debug__" : Str)) = false) (hcd : (x == ("__classdict__" : Str)) = false) (ht : t.length ≤ 1000) {Pr : Rl} (hPr : ∀ v H, Pr.r v H → prInt.r v H ∨ prStr.r v H) :
    Txt1 X (.JoinedStr [.FormattedValue (.Name x p1) (-1) none p2, .Constant (.str t) j p3] p4) i Pr := by
  obtain ⟨te, h1, h2⟩ := fmt_int (X := X) (e := .Name x p1) (pos := p2) (p1 := p1) hN hv hd hcd
  refine ⟨_, pe_joined (.cons h1 (.cons pe_str .nil)), fun σ H v h3 h4 Q q => ?_⟩
  refine h2 σ H v h3 (hPr _ _ h4) _ fun y hy => ⟨y, rfl, ?_, t, rfl, ?_, q _ _ (Same.refl _)⟩
  · rw [empty_app]
    exact Nat.le_trans hy (by decide)
  · rw [strlen_app, empty_app]
    exact Nat.le_trans (Nat.add_le_add hy ht) (by decide)
/-- f".. {x}" -/
theorem txt_cf {X : Cx} {i : Nat} {x t : Str} {p1 p2 p3 p4 : Pos} {j : Nat} (hN : X.N[i]? = some x) (hv : Vis X.env.scope x) (hd : (x == ("__debug__" : Str)) = false) (hcd : (x == ("__classdict__" : Str)) = false) (ht : t.length ≤ 1000) {Pr : Rl} (hPr : ∀ v H, Pr.r v H → prInt.r v H ∨ prStr.r v H) :
    Txt1 X (.JoinedStr [.Constant (.str t) j p3, .FormattedValue (.Name x p1) (-1) none p2] p4) i Pr := by
  obtain ⟨te, h1, h2⟩ := fmt_int (X := X) (e := .Name x p1) (pos := p2) (p1 := p1) hN hv hd hcd
  refine ⟨_, pe_joined (.cons pe_str (.cons h1 .nil)), fun σ H v h3 h4 Q q => ⟨t, rfl, ?_, ?_⟩⟩
  · rw [empty_app]
    exact Nat.le_trans ht (by decide)
  · refine h2 σ H v h3 (hPr _ _ h4) _ fun y hy => ⟨y, rfl, ?_, q _ _ (Same.refl _)⟩
    rw [strlen_app, empty_app]
    exact Nat.le_trans (Nat.add_le_add ht hy) (by decide)
end W1
set_option maxRecDepth 100000
set_option maxHeartbeats 2000000
namespace W1
open PySem PySem.Spec PyProof.Rows L2

/-! ### an own class's operators -/
structure OwnM (K : PySem.W.Frag) (C : Addr) (dn : Str) (g : Addr) : Prop where
  at_ : PySem.W.findIn K (.ref C) dn = some (some (.ref g))
  fn : PySem.W.isFn K (.ref g) = true
structure ClsX (K : PySem.W.Frag) (C : Addr) : Prop where
  cls : Cls K C
  first : PySem.W.selfFirst K C = true
  ca : PySem.W.findIn K (.ref C) "__class__" = some (some (.builtin "object.__class__"))
  cn : PySem.W.specialIn K (.builtin "object.__class__") "__get__" = some (some (.builtin "getset_descriptor.__get__"))
  ct : PySem.W.takesIn K (.builtin "object.__class__") = some true
  cm : PySem.W.mroIn K C (.type "object") = some true
section
variable {X : Cx} {pins : List (Addr × Obj)} {σ : L2.St} {H : Hp} {s : Shared} {a C dx g k : Nat} {fs : List (Str × V)} {fd : FuncData} {ps : List Str} {sp : Sp} {E : Value → Shared → Prop}
theorem inst_at (I : Inv X pins σ H s) (e : H a = some (.ins C dx fs)) : ∃ od, PySem.W.InstAt s.heap a (PySem.W.instObj C dx) C (some od) := by
  obtain ⟨mA, O, _, _, _, _⟩ := ins_get I.hok e
  obtain ⟨od, J, _⟩ := O.look
  exact ⟨od, J⟩
/-- a callee that raises nothing, below the running body -/
theorem run_below {A : Around} {Q : VK} {us : List Value} {vs : List V} (F : FnOk X.prog X.w X.K X.mg X.base (L2.CX X.prog X.w) k g fd ps sp) (hr : Room k A) (e0 : Env0 X.prog X.w X.K X.mg X.base A X.stack s H) (hb : Binds X.K fd ps []) (I : Inv X pins σ H s) (r : Vals vs us) (h : sp vs H Q E0)
    (E : Value → Shared → Prop) : wpAny (model X.prog X.w) A (call (.ref g) us) (EP X pins σ Q) E s := by
  have hl : us.length = ps.length := by rw [← r.length]; exact F.len _ _ _ _ h
  have b := hb s us I.kIn (by rw [List.append_nil]; exact hl)
  rw [List.append_nil] at b
  refine wpAny_call (codeAny_mono (F.run A X.stack s H ⟨us, []⟩ us vs Q E0 hr e0 b r h) fun r s' hq => ?_)
  cases r with
  | error e =>
    obtain ⟨_, _, _, _, _, _, _, _, _, _, _, _, z⟩ := hq
    exact z.elim
  | ok fl =>
    cases fl with
    | ret u => exact I.after hq
    | next => exact False.elim hq
    | brk => exact False.elim hq
    | cont => exact False.elim hq
/-- a op b, two instances of the class at C -/
def rOwn2 (C : Addr) (sp : Sp) : R2 := fun x y H Q => ∃ a dx vs b dy ws, x = .ref a ∧ y = .ref b ∧ H a = some (.ins C dx vs) ∧ H b = some (.ins C dy ws) ∧ sp [x, y] H Q E0
theorem op_own2 {op : Operator} (c : ClsX X.K C) (m : OwnM X.K C (PySem.dunder op.info.2) g) (F : FnOk X.prog X.w X.K X.mg X.base (L2.CX X.prog X.w) k g fd ps sp) (hr : Room k X.A) (hb : Binds X.K fd ps []) : OpR X (binaryOp op) (rOwn2 C sp) := by
  intro pins s σ H x y v u Q I rx ry h
  obtain ⟨a, dx, vs, b, dy, ws, rfl, rfl, ha, hb', q⟩ := h
  cases (show v = Value.ref a from rx)
  cases (show u = Value.ref b from ry)
  obtain ⟨od, J⟩ := inst_at I ha
  obtain ⟨od', J'⟩ := inst_at I hb'
  obtain ⟨mm, hF⟩ := I.fr
  refine PySem.W.binop_K hF I.ok.mod.kin J J'.type c.first m.at_ m.fn ?_
  refine wpAny_mono (run_below (us := [.ref a, .ref b]) (vs := [.ref a, .ref b]) F hr I.env0 hb I (.cons rfl (.cons rfl .nil)) q _) (fun w s' z => ?_) fun _ _ x => x
  obtain ⟨z', H', I', rz, qz⟩ := z
  exact SlX.cmpback rz ⟨z', H', I', rz, qz⟩
/-- -a -/
def rOwn1 (C : Addr) (sp : Sp) : V → Hp → VK → Prop := fun x H Q => ∃ a dx vs, x = .ref a ∧ H a = some (.ins C dx vs) ∧ sp [x] H Q E0
theorem op_own1 (m : OwnM X.K C "__neg__" g) (F : FnOk X.prog X.w X.K X.mg X.base (L2.CX X.prog X.w) k g fd ps sp) (hr : Room k X.A) (hb : Binds X.K fd ps []) : UnR X (unaryOp .USub) (rOwn1 C sp) := by
  intro pins s σ H x v Q I rx h
  obtain ⟨a, dx, vs, rfl, ha, q⟩ := h
  cases (show v = Value.ref a from rx)
  obtain ⟨od, J⟩ := inst_at I ha
  obtain ⟨mm, hF⟩ := I.fr
  exact PySem.W.ksp_neg hF I.ok.mod.kin J m.at_ m.fn (run_below (us := [.ref a]) (vs := [.ref a]) F hr I.env0 hb I (.cons rfl .nil) q _)
/-- a == y by an own def; the type of y is no class below C -/
inductive TyE (K : PySem.W.Frag) (H : Hp) : V → Value → Prop where
  | int (i : Int) : TyE K H (.int i) (.type "int")
  | str (z : Str) : TyE K H (.str z) (.type "str")
  | bl (b : Bool) : TyE K H (.bl b) (.type "bool")
  | non : TyE K H .non (.type "NoneType")
  | ins {b D dy : Addr} {ws : List (Str × V)} (h : H b = some (.ins D dy ws)) : TyE K H (.ref b) (.ref D)
theorem tye_looks {y : V} {u t : Value} (I : Inv X pins σ H s) (r : RelV y u) (h : TyE X.K H y t) : PySem.W.Looks (model X.prog X.w) s.heap (typeOf u) t := by
  cases h with
  | int i => obtain ⟨tk, rfl⟩ := r; exact PySem.W.Looks.of_pure rfl
  | str z => obtain ⟨tk, rfl⟩ := r; exact PySem.W.Looks.of_pure rfl
  | bl b => cases (show u = Value.bool b from r); exact PySem.W.Looks.of_pure rfl
  | non => cases (show u = Value.none from r); exact PySem.W.Looks.of_pure rfl
  | @ins b D dy ws h =>
    cases (show u = Value.ref b from r)
    obtain ⟨od', J'⟩ := inst_at I h
    exact J'.type
def rOwnE (K : PySem.W.Frag) (C : Addr) (sp : Sp) : R2 := fun x y H Q => ∃ a dx vs t, x = .ref a ∧ H a = some (.ins C dx vs) ∧ TyE K H y t ∧ PySem.W.notFirst K C t = true ∧ sp [x, y] H Q E0
theorem rc_own {A : Around} {Q : VK} {a : Addr} {y : V} {u t : Value} (m : OwnM X.K C "__eq__" g) (F : FnOk X.prog X.w X.K X.mg X.base (L2.CX X.prog X.w) k g fd ps sp) (hr : Room k A) (e0 : Env0 X.prog X.w X.K X.mg X.base A X.stack s H) (hb : Binds X.K fd ps []) (I : Inv X pins σ H s)
    (ha : H a = some (.ins C dx fs)) (ry : RelV y u) (ty : TyE X.K H y t) (hn : PySem.W.notFirst X.K C t = true) (q : sp [.ref a, y] H Q E0) (E : Value → Shared → Prop) : wpAny (model X.prog X.w) A (richCompare .Eq (.ref a) u) (EP X pins σ Q) E s := by
  obtain ⟨od, J⟩ := inst_at I ha
  obtain ⟨mm, hF⟩ := I.fr
  refine PySem.W.cmp_K (op := .Eq) hr.units0 hF I.ok.mod.kin J (tye_looks I ry ty) hn m.at_ m.fn ?_
  refine wpAny_mono (run_below (us := [.ref a, u]) (vs := [.ref a, y]) F hr e0 hb I (.cons rfl (.cons ry .nil)) q _) (fun w s' z => ?_) fun _ _ x => x
  obtain ⟨z', H', I', rz, qz⟩ := z
  exact SlX.cmpback rz ⟨z', H', I', rz, qz⟩
theorem op_ownE (m : OwnM X.K C "__eq__" g) (F : FnOk X.prog X.w X.K X.mg X.base (L2.CX X.prog X.w) k g fd ps sp) (hr : Room k X.A) (hb : Binds X.K fd ps []) : OpR X (compareOp .Eq) (rOwnE X.K C sp) := by
  intro pins s σ H x y v u Q I rx ry h
  obtain ⟨a, dx, vs, t, rfl, ha, ty, hn, q⟩ := h
  cases (show v = Value.ref a from rx)
  show wpAny _ _ (richCompare .Eq (.ref a) u) _ _ _
  exact rc_own m F hr I.env0 hb I ha ry ty hn q _
/-- bool(a), if a: by an own __bool__ -/
theorem truthy_own {A : Around} {a : Addr} {Q : Bool → Hp → Prop} (m : OwnM X.K C "__bool__" g) (F : FnOk X.prog X.w X.K X.mg X.base (L2.CX X.prog X.w) k g fd ps sp) (hr : Room k A) (e0 : Env0 X.prog X.w X.K X.mg X.base A X.stack s H) (hb : Binds X.K fd ps []) (I : Inv X pins σ H s)
    (ha : H a = some (.ins C dx fs)) (q : sp [.ref a] H (fun v H' => ∃ b, v = .bl b ∧ Q b H') E0) (E : Value → Shared → Prop) : wpAny (model X.prog X.w) A (truthy (.ref a)) (TP X pins σ Q) E s := by
  obtain ⟨od, J⟩ := inst_at I ha
  obtain ⟨mm, hF⟩ := I.fr
  refine PySem.W.truthy_K hF I.ok.mod.kin J m.at_ m.fn ?_
  refine wpAny_mono (run_below (us := [.ref a]) (vs := [.ref a]) F hr e0 hb I (.cons rfl .nil) q _) (fun w s' z => ?_) fun _ _ x => x
  obtain ⟨z', H', I', rz, b, ez, qz⟩ := z
  subst ez
  cases (show w = Value.bool b from rz)
  exact ⟨H', I', qz⟩
def rOwnB (C : Addr) (sp : Sp) : List V → Hp → VK → Prop := fun xs H Q => ∃ a dx vs, xs = [.ref a] ∧ H a = some (.ins C dx vs) ∧ sp [.ref a] H (fun v H' => ∃ b, v = .bl b ∧ Q (.bl b) H') E0
theorem bool_own {A : Around} {Q : Value → Shared → Prop} {E : Value → Shared → Prop} {prog : Program} {w : World} {x : Addr} {s : Shared} (h : wpAny (model prog w) A.in1.in1 (truthy (.ref x)) (fun b s₁ => Q (.bool b) s₁) E s) : wpAny (model prog w) A (call (.type "bool") [.ref x]) Q E s := by
  refine ks_callType_codesW (T := "bool") (Bi := Builtin.«object.__init__») (Q₁ := fun r s₁ => ∃ b, r = Value.bool b ∧ Q r s₁) PySem.F.called_bool (wpAny_of_eq (PySem.F.typeCall_bool_1 _)) PySem.F.entry_object_init ?_ ?_
  · refine codeAny_of_tree ?_
    show wpAny _ A.in1.in1 (do checkBuiltinCall "bool.__new__" ⟨[.type "bool", .ref x], []⟩; again (.builtin "bool.__new__" ⟨[.type "bool", .ref x], []⟩)) _ _ s
    refine wpAny_bind (wpAny_of_eq (PySem.F.newCall_bool_1 _) (wpAny_pure ⟨plainId_quiet (by decide +kernel) _, codeAny_builtin PySem.F.entry_bool_new ?_⟩))
    rw [Around.under_plainId (by decide +kernel) _]
    have f1 := F.conv_sub_bool
    have h2 : ∀ {Q' : Bool → Shared → Prop}, (∀ b s₁, Q (.bool b) s₁ → Q' b s₁) → wpAny (model prog w) A.in1.in1 (truthy (.ref x)) Q' E s := fun k => wpAny_mono h k fun _ _ z => z
    obtain ⟨hp, g, d, tk, os⟩ := s
    repeat (any_goals (first | assumption | (with_reducible refine h2 fun b s₁ hq => ?_) | wp_step))
    all_goals first | exact ⟨_, rfl, hq⟩ | skip
  · rintro obj s₁ ⟨b, rfl, hq⟩
    exact ⟨by first | exact typeIs_bool _ _ | rfl, PySem.F.args_object_init_2 _ _, object_init_meets PySem.F.called_bool.init.lookup PySem.F.called_bool.made (by decide) prog w A.in1 _ s₁ ⟨by first | exact typeIs_bool _ _ | rfl, rfl, hq⟩⟩
theorem call_ownB (m : OwnM X.K C "__bool__" g) (F : FnOk X.prog X.w X.K X.mg X.base (L2.CX X.prog X.w) k g fd ps sp) (hr : Room (k + 2) X.A) (hb : Binds X.K fd ps []) : CallR X (.type "bool") (rOwnB C sp) := by
  intro pins s σ H xs us Q I r h
  obtain ⟨a, dx, vs, rfl, ha, q⟩ := h
  obtain ⟨u, rfl, ru⟩ := vals1 r
  cases (show u = Value.ref a from ru)
  refine bool_own (wpAny_mono (truthy_own (Q := fun b H' => Q (.bl b) H') m F (show Room k X.A.in1.in1 from (show Room (k + 1) X.A.in1 from hr.in1).in1) I.env0.in1.in1 hb I ha q _) (fun b s' z => ?_) fun _ _ x => x)
  obtain ⟨H', I', qz⟩ := z
  exact ⟨.bl b, H', I', rfl, qz⟩
/-- a test that is such an object -/
theorem pt_own {e : Expr} {te : TE} (he : PE X e te) (m : OwnM X.K C "__bool__" g) (F : FnOk X.prog X.w X.K X.mg X.base (L2.CX X.prog X.w) k g fd ps sp) (hr : Room k X.A) (hb : Binds X.K fd ps [])
    (hw : ∀ whole, isTrue e X.env whole = (do let v ← whole; standAt e.pos; holding [v] (truthy v)) := by intro _; rfl) :
    PT X e (fun σ H Q => te σ H fun x H1 => ∃ a dx vs, x = .ref a ∧ H1 a = some (.ins C dx vs) ∧ sp [.ref a] H1 (fun v H' => ∃ b, v = .bl b ∧ Q b H') E0) := by
  refine ⟨fun pins s σ H Q I h => ?_⟩
  refine isTrue_plain (thn (he.run pins s σ H _ I h) fun v s1 ⟨x, H1, I1, r1, a, dx, vs, ex, ha, q⟩ => ?_) (hw _)
  subst ex
  cases (show v = Value.ref a from r1)
  exact truthy_own m F hr I1.env0 hb I1 ha q _
/-- C.m(..), m a classmethod -/
def tCMethS (C : Addr) (sp : Sp) (E : L2.St → XK) (ta : TE) (t : TA) : TE := fun σ H Q => ta σ H fun x H1 => x = .ref C ∧ t σ H1 fun vs H2 => sp (.ref C :: vs) H2 Q (E σ)
theorem pe_cmethS {o e : Expr} {es : List Expr} {m : Str} {apos pos : Pos} {ta : TE} {t : TA} {pl : Sem Bool} {mc : Value} {p : Addr} {CX : CXT} {E : L2.St → XK} (he : PE X o ta) (r : ClX.CRead X.K C mc) (c : ClX.CMet X.K C mc m p g) (F : FnOk X.prog X.w X.K X.mg X.base CX k g fd ps sp) (hr : Room k X.A) (hb : Binds X.K fd ps [])
    (hx : ∀ σ, PassesAt CX X σ (E σ)) (ha : PA X (e :: es) t)
    (hst : starEach (e :: es) X.env = (false, eval e X.env) :: starEach es X.env := by rfl) (hpl : (backTo pos (starEach es X.env)).any (·.1) = false := by rfl)
    (ht : eval (.Call (.Attribute o m apos) (e :: es) [] pos) X.env = (do
      let ov ← eval o X.env
      standAt apos.atName
      let (f, first) ← holding [ov] (getMethod ov m pl)
      callWith pos f first (backTo pos (starEach (e :: es) X.env)) (backToKw pos (keywordEach [] X.env))) := by rfl) :
    PE X (.Call (.Attribute o m apos) (e :: es) [] pos) (tCMethS C sp E ta t) := by
  refine ⟨fun pins s σ H Q I h => ?_⟩
  refine PySem.W.methodCall_KW (pl := pl) (thn (he.run pins s σ H _ I h) fun u s1 ⟨x, H1, I1, rx, ex, q⟩ => ?_) ht
  subst ex
  obtain rfl : u = Value.ref C := rx
  refine ClX.getmethcm_ok I1 r c fun s2 I2 => ?_
  refine ClX.callwith_cm I2 (ClX.base_none I1 (Nat.le_refl _)) c.fi (thn (ha.run pos _ s2 σ H1 _ I2 q) fun us s3 ⟨vs, H2, I3, rv, q2⟩ => ⟨⟨ClX.pin_at I3, I3.kIn⟩, ?_⟩) hst hpl
  have hl : (Value.ref C :: us).length = ps.length := by
    have e := (show Vals (V.ref C :: vs) (Value.ref C :: us) from .cons rfl rv).length
    rw [← e]
    exact F.len _ _ _ _ q2
  have b := hb s3 (Value.ref C :: us) I3.kIn (by rw [List.append_nil]; exact hl)
  rw [List.append_nil] at b
  have z : wpAny (model X.prog X.w) X.A (call (.ref s1.heap.objs.size) us) (EP X ((s1.heap.objs.size, PySem.W.methodObj (.ref g) (.ref C)) :: pins) σ Q) X.xe s3 := by
    refine wpAny_call (PySem.W.method_call (ClX.pin_at I3) (codeAny_mono (F.run X.A X.stack s3 H2 ⟨.ref C :: us, []⟩ (.ref C :: us) (.ref C :: vs) Q (E σ) hr I3.env0 b (.cons rfl rv) q2) fun r s' hq => ?_))
    cases r with
    | error e => exact hx σ _ H2 s3 e s' I3 hq
    | ok fl =>
      cases fl with
      | ret u => exact I3.after hq
      | next => exact False.elim hq
      | brk => exact False.elim hq
      | cont => exact False.elim hq
  exact thn z fun _ _ y => ClX.unpinE y
end

section
variable {F : Fx} {ρ : Ty} {ω w w1 w2 wc wc' : Ow} {e o : Expr} {es : List Expr} {A B R S : Rl} {Rs : List Rl} {P : Er} {pos p apos : Pos} {x m : Str} {k : Nat} {f C g pc : Addr} {fd : FuncData} {ps : List Str} {pre : Pre} {fs gs : List (Str × Rl)} {b : Bool}
theorem mk1 {v : V} {H : Hp} (h : R.r v H) : All2 [R] [v] H := ⟨h, trivial⟩
theorem mk2 {u v : V} {H : Hp} (h : R.r u H) (h' : S.r v H) : All2 [R, S] [u, v] H := ⟨h, h', trivial⟩
theorem mkc {v : V} {vs : List V} {H : Hp} (h : R.r v H) (h' : All2 Rs vs H) : All2 (R :: Rs) (v :: vs) H := ⟨h, h'⟩
theorem sp_ok0 {vs : List V} {G H : Hp} {Q : VK} (at_ : At F w G H) (hv : All2 Rs vs G) (hp : pre Rs [] (.ok R) []) (q : ∀ v G2 H2, Same G G2 → At F w G2 H2 → R.r v G2 → Q v H2) {E : XK} : spM pre vs H Q E := sp_ok (wc := []) (w := w) at_ hv hp rfl q
theorem bop_own {op : Operator} (hp : pre [rIns C fs, rIns C gs] [] (.ok R) []) (Fn : FnOk F.X.prog F.X.w F.X.K F.X.mg F.X.base (L2.CX F.X.prog F.X.w) k g fd ps (spM pre)) (c : ClsX F.X.K C) (m : OwnM F.X.K C (PySem.dunder op.info.2) g) (hr : Room k F.X.A) (hb : Binds F.X.K fd ps []) :
    Bop F w (binaryOp op) (rIns C fs) (rIns C gs) R := ⟨_, op_own2 c m Fn hr hb, fun x y G H at_ hx hy Q q => by
  obtain ⟨a, dx, vs, rfl, h1, h2⟩ := id hx
  obtain ⟨b, dy, ws, rfl, h3, h4⟩ := id hy
  exact ⟨a, dx, vs, b, dy, ws, rfl, rfl, at_.gh _ _ h1, at_.gh _ _ h3, sp_ok0 at_ (mk2 hx hy) hp q⟩⟩
theorem uop_own (hp : pre [rIns C fs] [] (.ok R) []) (Fn : FnOk F.X.prog F.X.w F.X.K F.X.mg F.X.base (L2.CX F.X.prog F.X.w) k g fd ps (spM pre)) (m : OwnM F.X.K C "__neg__" g) (hr : Room k F.X.A) (hb : Binds F.X.K fd ps []) :
    Uop F w (unaryOp .USub) (rIns C fs) R := ⟨_, op_own1 m Fn hr hb, fun x G H at_ hx Q q => by
  obtain ⟨a, dx, vs, rfl, h1, h2⟩ := id hx
  exact ⟨a, dx, vs, rfl, at_.gh _ _ h1, sp_ok0 at_ (mk1 hx) hp q⟩⟩
/-- the type of what is compared with -/
def TyR (K : PySem.W.Frag) (B : Rl) (t : Value) : Prop := ∀ v G H, Same G H → B.r v G → TyE K H v t
theorem tyr_int {K : PySem.W.Frag} {i : Int} : TyR K (rInt i) (.type "int") := fun v G H s h => by cases (show v = V.int i from h); exact .int i
theorem tyr_str {K : PySem.W.Frag} {i : Str} : TyR K (rStr i) (.type "str") := fun v G H s h => by cases (show v = V.str i from h); exact .str i
theorem tyr_ins {K : PySem.W.Frag} : TyR K (rIns C fs) (.ref C) := fun v G H s h => by
  obtain ⟨a, dx, vs, rfl, h1, h2⟩ := h
  exact .ins (s _ _ h1)
theorem bop_ownE {t : Value} (hp : pre [rIns C fs, B] [] (.ok R) []) (ht : TyR F.X.K B t) (hn : PySem.W.notFirst F.X.K C t = true) (Fn : FnOk F.X.prog F.X.w F.X.K F.X.mg F.X.base (L2.CX F.X.prog F.X.w) k g fd ps (spM pre)) (m : OwnM F.X.K C "__eq__" g) (hr : Room k F.X.A) (hb : Binds F.X.K fd ps []) :
    Bop F w (compareOp .Eq) (rIns C fs) B R := ⟨_, op_ownE m Fn hr hb, fun x y G H at_ hx hy Q q => by
  obtain ⟨a, dx, vs, rfl, h1, h2⟩ := id hx
  exact ⟨a, dx, vs, t, rfl, at_.gh _ _ h1, ht y G H at_.gh hy, hn, sp_ok0 at_ (mk2 hx hy) hp q⟩⟩
theorem cop_ownB (hp : pre [rIns C fs] [] (.ok (rBool b)) []) (Fn : FnOk F.X.prog F.X.w F.X.K F.X.mg F.X.base (L2.CX F.X.prog F.X.w) k g fd ps (spM pre)) (m : OwnM F.X.K C "__bool__" g) (hr : Room (k + 2) F.X.A) (hb : Binds F.X.K fd ps []) :
    Cop F w (.type "bool") [rIns C fs] (rBool b) := ⟨_, call_ownB m Fn hr hb, fun xs G H at_ hx Q q => by
  obtain ⟨x, rfl, hx1⟩ := all1 hx
  obtain ⟨a, dx, vs, rfl, h1, h2⟩ := id hx1
  exact ⟨a, dx, vs, rfl, at_.gh _ _ h1, sp_ok0 (Rs := [rIns C fs]) at_ (mk1 hx1) hp fun v G2 H2 s a2 r => ⟨b, r, q _ G2 H2 s a2 rfl⟩⟩⟩
theorem tr_own (he : ER F ρ ω e (rIns C fs) w) (hp : pre [rIns C fs] [] (.ok (rBool b)) []) (Fn : FnOk F.X.prog F.X.w F.X.K F.X.mg F.X.base (L2.CX F.X.prog F.X.w) k g fd ps (spM pre)) (m : OwnM F.X.K C "__bool__" g) (hr : Room k F.X.A) (hb : Binds F.X.K fd ps [])
    (hw : ∀ whole, isTrue e F.X.env whole = (do let v ← whole; standAt e.pos; holding [v] (truthy v)) := by intro _; rfl) : TR F ρ ω e b w := fun σ G H at_ sl Q q => by
  refine tw_of (pt_own pe_w m Fn hr hb hw) (he σ G H at_ sl _ fun v G2 H2 s a r => ?_)
  obtain ⟨x, dx, vs, rfl, h1, h2⟩ := id r
  exact ⟨x, dx, vs, rfl, a.gh _ _ h1, sp_ok0 (Rs := [rIns C fs]) a (mk1 r) hp fun v G3 H3 s3 a3 r3 => ⟨b, r3, q G3 H3 (s.trans s3) a3⟩⟩
theorem er_cmeth {mc : Value} {pl : Sem Bool} (ho : ER F ρ ω o (rRef C) w1) (ha : AR F ρ w1 (e :: es) Rs w) (hp : pre (rRef C :: Rs) [] (.ok R) []) (Fn : FnOk F.X.prog F.X.w F.X.K F.X.mg F.X.base (L2.CX F.X.prog F.X.w) k g fd ps (spM pre)) (hr : Room k F.X.A) (r : ClX.CRead F.X.K C mc) (c : ClX.CMet F.X.K C mc m pc g) (hb : Binds F.X.K fd ps [])
    (hst : starEach (e :: es) F.X.env = (false, eval e F.X.env) :: starEach es F.X.env := by rfl) (hpl : (backTo pos (starEach es F.X.env)).any (·.1) = false := by rfl)
    (ht : eval (.Call (.Attribute o m apos) (e :: es) [] pos) F.X.env = (do
      let ov ← eval o F.X.env
      standAt apos.atName
      let (f, first) ← holding [ov] (getMethod ov m pl)
      callWith pos f first (backTo pos (starEach (e :: es) F.X.env)) (backToKw pos (keywordEach [] F.X.env))) := by rfl) : ER F ρ ω (.Call (.Attribute o m apos) (e :: es) [] pos) R w := fun σ G H at_ sl Q q => by
  refine ew_of (pe_cmethS pe_w r c Fn hr hb passW pa_w hst hpl ht) (ho σ G H at_ sl _ fun v G1 H1 s1 a1 r1 => ⟨r1, ha σ G1 H1 a1 (sl.up s1) _ fun vs G2 H2 s2 a2 r2 => ?_⟩)
  exact sp_ok0 (Rs := rRef C :: Rs) a2 (mkc rfl r2) hp fun v G3 H3 s3 a3 r3 => q v G3 H3 ((s1.trans s2).trans s3) a3 r3
/-- isinstance(x, C) -/
theorem cop_isIns (c : ClsX F.X.K C) : Cop F w (.builtin "isinstance") [rIns C fs, rRef C] (rBool true) := ⟨_, call_isi, fun xs G H at_ hx Q q => by
  obtain ⟨x, y, rfl, hx1, hy⟩ := all2 hx
  cases (show y = V.ref C from hy)
  obtain ⟨a, dx, vs, rfl, h1, h2⟩ := id hx1
  exact ⟨_, _, .ref C, .ref C, true, rfl, .own C, .base (.ins (at_.gh _ _ h1) c.cls c.ca c.cn c.ct c.cm), (by unfold PySem.W.kitOne; rw [if_pos (by simp)]), q _ G H (Same.refl _) at_ rfl⟩⟩
theorem cop_isNot {t : V} {tv : Value} (ht : (∃ i, t = .int i ∧ tv = .type "int") ∨ (∃ z, t = .str z ∧ tv = .type "str") ∨ (∃ k, t = .bl k ∧ tv = .type "bool") ∨ (t = .non ∧ tv = .type "NoneType")) (hk : PySem.W.kitOne F.X.K tv (.ref C) = some b) : Cop F w (.builtin "isinstance") [rEqV t, rRef C] (rBool b) := ⟨_, call_isi, fun xs G H at_ hx Q q => by
  obtain ⟨x, y, rfl, hx1, hy⟩ := all2 hx
  cases (show y = V.ref C from hy)
  cases (show x = t from hx1)
  refine ⟨_, _, tv, .ref C, b, rfl, .own C, .base ?_, hk, q _ G H (Same.refl _) at_ rfl⟩
  rcases ht with ⟨i, rfl, rfl⟩ | ⟨z, rfl, rfl⟩ | ⟨z, rfl, rfl⟩ | ⟨rfl, rfl⟩
  · exact .int i
  · exact .str z
  · exact .bl z
  · exact .non⟩
theorem cop_isTy {t : V} {T U : String} (ht : (∃ i, t = .int i ∧ T = "int") ∨ (∃ z, t = .str z ∧ T = "str") ∨ (∃ k, t = .bl k ∧ T = "bool") ∨ (t = .non ∧ T = "NoneType")) (hk : PySem.W.kitOne F.X.K (.type T) (.type U) = some b) : Cop F w (.builtin "isinstance") [rEqV t, rEqV (.ty U)] (rBool b) := ⟨_, call_isi, fun xs G H at_ hx Q q => by
  obtain ⟨x, y, rfl, hx1, hy⟩ := all2 hx
  cases (show y = V.ty U from hy)
  cases (show x = t from hx1)
  refine ⟨_, _, .type T, .type U, b, rfl, .ty U, .base ?_, hk, q _ G H (Same.refl _) at_ rfl⟩
  rcases ht with ⟨i, rfl, rfl⟩ | ⟨z, rfl, rfl⟩ | ⟨z, rfl, rfl⟩ | ⟨rfl, rfl⟩
  · exact .int i
  · exact .str z
  · exact .bl z
  · exact .non⟩
end
end W1
set_option maxRecDepth 100000
set_option maxHeartbeats 2000000
namespace W1
open PySem PySem.Spec PyProof.Rows L2

/-! ### list comprehensions -/
def wipeT (ρ : Ty) : List Nat → Ty
  | [] => ρ
  | v :: vs => (wipeT ρ vs).set v none
theorem Slots.wipe {ρ : Ty} {σ : L2.St} {G : Hp} (s : Slots ρ σ G) : ∀ vs : List Nat, Slots (wipeT ρ vs) (L2.wipe σ vs) G
  | [] => s
  | v :: vs => (Slots.wipe s vs).gone v
/-- a comprehension's target -/
def GEw (g : TG) (vs : List Nat) (ρ : Ty) (S : Rl) (ρ' : Ty) : Prop :=
  ∀ v σ G H (Q : L2.St → Hp → Prop), Same G H → Slots ρ σ G → S.r v G → (∀ σ2, L2.wipe σ2 vs = L2.wipe σ vs → Slots ρ' σ2 G → Q σ2 H) → g v (L2.wipe σ vs) H Q
theorem gew_name {i : Nat} {ρ : Ty} {S : Rl} : GEw (gName i) [i] ρ S ((ρ.set i none).set i (some S)) := fun v σ G H Q s sl r q =>
  q _ (by show ((σ.set i none).set i (some v)).set i none = σ.set i none; rw [List.set_set, List.set_set]) ((sl.gone i).set i r)
theorem gew_tup {K : PySem.W.Frag} {i j : Nat} {ρ : Ty} {R S : Rl} : GEw (gTup K 2 (gCons (gName i) (gCons (gName j) gNil))) [i, j] ρ (rTup [R, S]) ((((ρ.set j none).set i none).set i (some R)).set j (some S)) := fun v σ G H Q s sl r q => by
  obtain ⟨a, vs, rfl, h1, h2⟩ := r
  obtain ⟨x, y, rfl, hx, hy⟩ := all2 h2
  refine ⟨a, [x, y], rfl, SqT.of (s _ _ h1), rfl, x, [y], rfl, y, [], rfl, rfl, ?_⟩
  refine q _ ?_ ((((sl.gone j).gone i).set i hx).set j hy)
  show (((((σ.set j none).set i none).set i (some x)).set j (some y)).set j none).set i none = (σ.set j none).set i none
  simp only [List.set_set]
  by_cases hij : i = j
  · subst hij
    simp only [List.set_set]
  · rw [List.set_comm (i := i) (j := j) _ _ hij]
    simp only [List.set_set]
def oL (Rs : List Rl) : Ol := ⟨fun o G => ∃ vs, o = .lst vs ∧ All2 Rs vs G, fun _ _ _ e ⟨vs, a, b⟩ => ⟨vs, a, b.up e⟩⟩
/-- a block's context -/
abbrev blkF (F : Fx) (s : Shared) (H : Hp) (scope : Scope) (C : Addr) (cl : List (Str × Addr)) (fp : List Addr) : Fx :=
  ⟨F.X.blk s H scope (compEnvC scope cl C F.X.env) fp, F.G0, F.H0, F.M, fun _ _ _ _ => False, fun _ _ ⟨_, _, _, _, _, _, _, _, _, _, _, _, _, _, _, _, z⟩ => z.elim⟩
theorem At.to {F F' : Fx} {ω : Ow} {G H : Hp} (a : At F ω G H) (h1 : F'.G0 = F.G0 := by rfl) (h2 : F'.H0 = F.H0 := by rfl) (h3 : F'.M = F.M := by rfl) : At F' ω G H := by
  obtain ⟨X, G0, H0, M, W, tk⟩ := F
  obtain ⟨X', G0', H0', M', W', tk'⟩ := F'
  dsimp only at h1 h2 h3
  subst h1 h2 h3
  exact ⟨a.gg, a.hh, a.gh, a.fr, a.mm, a.ow, a.nd⟩
section
variable {F : Fx} {ρ : Ty} {ω w1 : Ow} {tg it elt c : Expr} {pos spos : Pos} {scope : Scope} {own : List (Str × Nat)} {g : TG} {ifs : List Expr} {α : Type}
theorem lc_gen {xs : List α} {A B : α → Rl} {p : α → Bool} {wi : TI} {tt : TT} {ρ' : α → Ty}
    (hwi : ∀ σ G H, At F ω G H → Slots ρ σ G → ∀ R : It → Hp → Prop, (∀ J G2 H2, Same G G2 → At F w1 G2 H2 → Yld J (xs.map A) G2 → R J H2) → wi σ H R) (hz : xs.length ≤ 100000)
    (hge : ∀ (i : Nat) a, xs[i]? = some a → GEw g (own.map (·.2)) ρ (A a) (ρ' a))
    (htt : ∀ (i : Nat) a, xs[i]? = some a → ∀ d σ2 G H, At F (d :: w1) G H → Slots (ρ' a) σ2 G → ∀ Q : Bool → Hp → Prop, (∀ G3 H3, Same G G3 → At F (d :: w1) G3 H3 → Q (p a) H3) → tt σ2 H Q)
    (he : ∀ (i : Nat) a, xs[i]? = some a → p a = true → ∀ s H0 C cl fp d, ER (blkF F s H0 scope C cl fp) (ρ' a) (d :: w1) elt (B a) (d :: w1))
    {σ : L2.St} {G H : Hp} (at_ : At F ω G H) (sl : Slots ρ σ G) {Q : VK} (q : ∀ v G2 H2, Same G G2 → At F w1 G2 H2 → (rLst ((xs.filter p).map B)).r v G2 → Q v H2) :
    tLc wi g tt (fun σ H Q => ∀ s H0 C cl fp, EW (F.X.blk s H0 scope (compEnvC scope cl C F.X.env) fp) elt σ H Q) (own.map (·.2)) σ H Q := by
  refine hwi σ G H at_ sl _ fun J G2 H2 s2 a2 y2 => fun D hD => ?_
  have hM : D ∉ F.M := fun hm => a2.mm D hm hD
  refine ⟨fun i m H => m = xs.length - i ∧ i ≤ xs.length ∧ ∃ G, At F ((D, oL (((xs.take i).filter p).map B)) :: w1) G H ∧ Same G2 G, ⟨xs.length, by simp, Nat.zero_le _, G2, a2.own hD ⟨[], rfl, trivial⟩, Same.refl _⟩, ?_⟩
  rintro i m H1 ⟨rfl, hi, G1, a1, s1⟩
  have hlen : (xs.map A).length = xs.length := List.length_map _
  by_cases hlt : i < xs.length
  · have hgo : xs[i]? = some xs[i] := List.getElem?_eq_getElem hlt
    have htake : xs.take (i + 1) = xs.take i ++ [xs[i]] := by rw [List.take_add_one, hgo]; rfl
    refine .inr ⟨y2.go i G1 H1 s1 a1.gh (by rw [hlen]; exact hlt), fun H' => ∃ G, At F ((D, oL (((xs.take (i + 1)).filter p).map B)) :: w1) G H' ∧ Same G2 G, fun H' z => ⟨xs.length - (i + 1), by omega, rfl, hlt, z⟩, fun x H' y => ?_⟩
    obtain ⟨G3, st, rx⟩ := y2.yld i (A xs[i]) G1 H1 x H' s1 a1.gh (by rw [List.getElem?_map, hgo]; rfl) y
    have a3 := a1.step st
    have s3 := s1.trans st.gg
    refine hge i _ hgo x σ G3 H' _ a3.gh ((sl.up s2).up s3) rx fun σ2 hw sl2 => ⟨hw, htt i _ hgo _ σ2 G3 H' a3 sl2 _ fun G4 H4 s4 a4 => ?_⟩
    cases hp : p xs[i] with
    | false =>
      refine iteF ⟨G4, ?_, s3.trans s4⟩
      rw [htake, List.filter_append, List.filter_cons, hp]
      simp only [Bool.false_eq_true, if_false, List.filter_nil, List.append_nil]
      exact a4
    | true =>
      refine iteT fun s H0 C cl fp => he i _ hgo hp s H0 C cl fp _ σ2 G4 H4 a4.to (sl2.up s4) _ fun v G5 H5 s5 a5' r5 => ?_
      have a5 : At F ((D, oL (((xs.take i).filter p).map B)) :: w1) G5 H5 := a5'.to
      obtain ⟨_, _, o, h1, vs, rfl, h2⟩ := a5.ow _ List.mem_cons_self
      have hl2 : vs.length ≤ xs.length := by
        rw [← h2.len, List.length_map]
        exact Nat.le_trans (List.length_filter_le _ _) (List.length_take_le _ _ |> fun z => Nat.le_trans z hi)
      refine ⟨vs, h1, Nat.lt_of_le_of_lt (Nat.le_trans hl2 hz) (by decide), G5, ?_, (s3.trans s4).trans s5⟩
      rw [htake, List.filter_append, List.filter_cons, hp]
      simp only [if_true, List.filter_nil, List.map_append, List.map_cons, List.map_nil]
      exact a5.chg ⟨_, rfl, h2.app (mk1 r5)⟩
  · have e : i = xs.length := by omega
    subst e
    refine .inl ⟨by have := y2.stop G1 H1 s1 a1.gh; rw [hlen] at this; exact this, ?_⟩
    rw [List.take_length] at a1
    obtain ⟨hg0, _, o, h1, vs, rfl, h2⟩ := a1.ow _ List.mem_cons_self
    have a5 := a1.pub h1 (At.own0 a1 hM)
    have sg : Same G1 (upd G1 D (.lst vs)) := fun b u e => by rw [upd_ne (ne_of_none e hg0)]; exact e
    exact q _ _ _ ((s2.trans s1).trans sg) a5 ⟨D, vs, rfl, upd_same, h2.up sg⟩
theorem filt_true {xs : List α} : xs.filter (fun _ => true) = xs := by
  induction xs with
  | nil => rfl
  | cons a l ih => rw [List.filter_cons, if_pos rfl, ih]
/-- [elt for tg in it] -/
theorem er_lc {xs : List α} {A B : α → Rl} {ρ' : α → Ty} (hit : IT F ρ ω tg it (xs.map A) w1) (hz : xs.length ≤ 100000) (own : List (Str × Nat)) (ok : BlkOk F.X.N F.X.env.scope scope own)
    (hpg : ∀ (s : Shared) (H : Hp) (C : Addr) (cl : List (Str × Addr)) (fp : List Addr), PG (F.X.blk s H scope (compEnvC scope cl C F.X.env) fp) tg g) (hge : ∀ (i : Nat) a, xs[i]? = some a → GEw g (own.map (·.2)) ρ (A a) (ρ' a))
    (he : ∀ (i : Nat) a, xs[i]? = some a → ∀ s H0 C cl fp d, ER (blkF F s H0 scope C cl fp) (ρ' a) (d :: w1) elt (B a) (d :: w1))
    (hN : F.X.N.Nodup) (hc : F.X.calm = true := by rfl) (hs : ∀ z, foldedSetIterable it F.X.env z = pure z := by intro _; rfl) : ER F ρ ω (.ListComp elt [⟨tg, it, [], 0⟩] scope pos) (rLst (xs.map B)) w1 := fun σ G H at_ sl Q q => by
  obtain ⟨wi, hpi, hwi⟩ := hit
  refine ew_of (pe_lc hc hN hpi ok hpg (fun _ _ _ _ _ => pts_nil) (te := fun σ H Q => ∀ s H0 C cl fp, EW (F.X.blk s H0 scope (compEnvC scope cl C F.X.env) fp) elt σ H Q) (fun _ _ _ _ _ => ⟨fun pins s σ H Q I h => h _ _ _ _ _ pins s I⟩) hs) ?_
  refine lc_gen (p := fun _ => true) (tt := tYes) hwi hz hge (fun i a h d σ2 G H a1 s1 Q q => q G H (Same.refl _) a1) (fun i a h _ => he i a h) at_ sl fun v G2 H2 s2 a2 r2 => q v G2 H2 s2 a2 ?_
  rw [filt_true] at r2
  exact r2
/-- [elt for tg in it if c] -/
theorem er_lcf {xs : List α} {A B : α → Rl} {p : α → Bool} {ρ' : α → Ty} (hit : IT F ρ ω tg it (xs.map A) w1) (hz : xs.length ≤ 100000) (own : List (Str × Nat)) (ok : BlkOk F.X.N F.X.env.scope scope own)
    (hpg : ∀ (s : Shared) (H : Hp) (C : Addr) (cl : List (Str × Addr)) (fp : List Addr), PG (F.X.blk s H scope (compEnvC scope cl C F.X.env) fp) tg g) (hge : ∀ (i : Nat) a, xs[i]? = some a → GEw g (own.map (·.2)) ρ (A a) (ρ' a))
    (ht : ∀ (i : Nat) a, xs[i]? = some a → ∀ s H0 C cl fp d, TR (blkF F s H0 scope C cl fp) (ρ' a) (d :: w1) c (p a) (d :: w1))
    (he : ∀ (i : Nat) a, xs[i]? = some a → p a = true → ∀ s H0 C cl fp d, ER (blkF F s H0 scope C cl fp) (ρ' a) (d :: w1) elt (B a) (d :: w1))
    (hN : F.X.N.Nodup) (hc : F.X.calm = true := by rfl) (hs : ∀ z, foldedSetIterable it F.X.env z = pure z := by intro _; rfl) : ER F ρ ω (.ListComp elt [⟨tg, it, [c], 0⟩] scope pos) (rLst ((xs.filter p).map B)) w1 := fun σ G H at_ sl Q q => by
  obtain ⟨wi, hpi, hwi⟩ := hit
  refine ew_of (pe_lc hc hN hpi ok hpg (fun _ _ _ _ _ => pts_one (t := fun σ H Q => ∀ s H0 C cl fp, TW (F.X.blk s H0 scope (compEnvC scope cl C F.X.env) fp) c σ H Q) ⟨fun pins s σ H Q I h => h _ _ _ _ _ pins s I⟩) (te := fun σ H Q => ∀ s H0 C cl fp, EW (F.X.blk s H0 scope (compEnvC scope cl C F.X.env) fp) elt σ H Q) (fun _ _ _ _ _ => ⟨fun pins s σ H Q I h => h _ _ _ _ _ pins s I⟩) hs) ?_
  exact lc_gen hwi hz hge (fun i a h d σ2 G H a1 s1 Q q => fun s H0 C cl fp => ht i a h s H0 C cl fp d σ2 G H a1.to s1 Q fun G3 H3 s3 a3 => q G3 H3 s3 a3.to) (fun i a h hp => he i a h hp) at_ sl q
/-- y = [..] -/
theorem hb_setLc {K : Kn} {rest : List Stmt} {y : Str} {py : Pos} {xs : List α} {A B : α → Rl} {ρ' : α → Ty} (j : Nat) (hit : IT F ρ ω tg it (xs.map A) w1) (hz : xs.length ≤ 100000) (own : List (Str × Nat)) (ok : BlkOk F.X.N F.X.env.scope scope own)
    (hpg : ∀ (s : Shared) (H : Hp) (C : Addr) (cl : List (Str × Addr)) (fp : List Addr), PG (F.X.blk s H scope (compEnvC scope cl C F.X.env) fp) tg g) (hge : ∀ (i : Nat) a, xs[i]? = some a → GEw g (own.map (·.2)) ρ (A a) (ρ' a))
    (he : ∀ (i : Nat) a, xs[i]? = some a → ∀ s H0 C cl fp d, ER (blkF F s H0 scope C cl fp) (ρ' a) (d :: w1) elt (B a) (d :: w1)) (h : HB F (ρ.set j (some (rLst (xs.map B)))) w1 rest K)
    (hN : F.X.N.Nodup) (hsw : swapsWith (.ListComp elt [⟨tg, it, [], 0⟩] scope pos) (some (.Name y py)) spos.line F.X.env = pure true) (hc : F.X.calm = true := by rfl) (hy : F.X.N[j]? = some y := by rfl) (hyl : F.X.env.scope.names.lookup y = some .local := by rfl) (hs : ∀ z, foldedSetIterable it F.X.env z = pure z := by intro _; rfl) :
    HB F ρ ω (.Assign [.Name y py] (.ListComp elt [⟨tg, it, [], 0⟩] scope pos) spos :: rest) K := hb_cons fun σ G H D at_ sl ps => by
  obtain ⟨wi, hpi, hwi⟩ := hit
  refine sw_of (ps_setLc hc hN hy hyl hsw hpi ok hpg (fun _ _ _ _ _ => pts_nil) (te := fun σ H Q => ∀ s H0 C cl fp, EW (F.X.blk s H0 scope (compEnvC scope cl C F.X.env) fp) elt σ H Q) (fun _ _ _ _ _ => ⟨fun pins s σ H Q I h => h _ _ _ _ _ pins s I⟩) hs) ?_
  refine lc_gen (p := fun _ => true) (tt := tYes) hwi hz hge (fun i a h d σ2 G H a1 s1 Q q => q G H (Same.refl _) a1) (fun i a h _ => he i a h) at_ sl fun v G2 H2 s2 a2 r2 => ?_
  rw [filt_true] at r2
  exact h _ G2 H2 D a2 ((sl.up s2).set j r2) (ps.up s2)
theorem hb_setLcf {K : Kn} {rest : List Stmt} {y : Str} {py : Pos} {xs : List α} {A B : α → Rl} {p : α → Bool} {ρ' : α → Ty} (j : Nat) (hit : IT F ρ ω tg it (xs.map A) w1) (hz : xs.length ≤ 100000) (own : List (Str × Nat)) (ok : BlkOk F.X.N F.X.env.scope scope own)
    (hpg : ∀ (s : Shared) (H : Hp) (C : Addr) (cl : List (Str × Addr)) (fp : List Addr), PG (F.X.blk s H scope (compEnvC scope cl C F.X.env) fp) tg g) (hge : ∀ (i : Nat) a, xs[i]? = some a → GEw g (own.map (·.2)) ρ (A a) (ρ' a))
    (ht : ∀ (i : Nat) a, xs[i]? = some a → ∀ s H0 C cl fp d, TR (blkF F s H0 scope C cl fp) (ρ' a) (d :: w1) c (p a) (d :: w1))
    (he : ∀ (i : Nat) a, xs[i]? = some a → p a = true → ∀ s H0 C cl fp d, ER (blkF F s H0 scope C cl fp) (ρ' a) (d :: w1) elt (B a) (d :: w1)) (h : HB F (ρ.set j (some (rLst ((xs.filter p).map B)))) w1 rest K)
    (hN : F.X.N.Nodup) (hsw : swapsWith (.ListComp elt [⟨tg, it, [c], 0⟩] scope pos) (some (.Name y py)) spos.line F.X.env = pure true) (hc : F.X.calm = true := by rfl) (hy : F.X.N[j]? = some y := by rfl) (hyl : F.X.env.scope.names.lookup y = some .local := by rfl) (hs : ∀ z, foldedSetIterable it F.X.env z = pure z := by intro _; rfl) :
    HB F ρ ω (.Assign [.Name y py] (.ListComp elt [⟨tg, it, [c], 0⟩] scope pos) spos :: rest) K := hb_cons fun σ G H D at_ sl ps => by
  obtain ⟨wi, hpi, hwi⟩ := hit
  refine sw_of (ps_setLc hc hN hy hyl hsw hpi ok hpg (fun _ _ _ _ _ => pts_one (t := fun σ H Q => ∀ s H0 C cl fp, TW (F.X.blk s H0 scope (compEnvC scope cl C F.X.env) fp) c σ H Q) ⟨fun pins s σ H Q I h => h _ _ _ _ _ pins s I⟩) (te := fun σ H Q => ∀ s H0 C cl fp, EW (F.X.blk s H0 scope (compEnvC scope cl C F.X.env) fp) elt σ H Q) (fun _ _ _ _ _ => ⟨fun pins s σ H Q I h => h _ _ _ _ _ pins s I⟩) hs) ?_
  exact lc_gen hwi hz hge (fun i a h d σ2 G H a1 s1 Q q => fun s H0 C cl fp => ht i a h s H0 C cl fp d σ2 G H a1.to s1 Q fun G3 H3 s3 a3 => q G3 H3 s3 a3.to) (fun i a h hp => he i a h hp) at_ sl fun v G2 H2 s2 a2 r2 => h _ G2 H2 D a2 ((sl.up s2).set j r2) (ps.up s2)
end
end W1
set_option maxRecDepth 100000
set_option maxHeartbeats 2000000
namespace W1Q
open PySem PySem.SeqAt
open AutoSeq1 (wpAny_loadPart')
open MeetsSeq MeetsSeq2 MeetsSeq3 SeqRoads2

/-- all of k answers from the i-th on -/
def allFrom (e : Nat → Bool) : Nat → Nat → Bool
  | _, 0 => true
  | i, k + 1 => e i && allFrom e (i + 1) k
def anyFrom (e : Nat → Bool) : Nat → Nat → Bool
  | _, 0 => false
  | i, k + 1 => e i || anyFrom e (i + 1) k
abbrev lstO (items : Array Value) (n : Nat) : Obj := { cls := .type "list", data := .seq items n }
theorem past {xs : Array Value} {i : Nat} (h : xs.size ≤ i) : xs[((i : Nat) : Int).toNat]? = none := Array.getElem?_eq_none h
theorem here {xs : Array Value} {i : Nat} (h : i < xs.size) : xs[((i : Nat) : Int).toNat]? = some xs[i] := Array.getElem?_eq_getElem h
section
variable {prog : Program} {w : World} {A : Around} {R : Result → Shared → Prop} {l b : Addr} {e : Nat → Bool} {I : Nat → Shared → Prop}
/-- two lists at l and b of N items each; whatever a comparison changes keeps I -/
def Two (prog : Program) (w : World) (A : Around) (E : Value → Shared → Prop) (l b : Addr) (N : Nat) (e : Nat → Bool) (I : Nat → Shared → Prop) : Prop :=
  ∀ i s, I i s → ∃ (xs ys : Array Value) (m n : Nat), s.heap.get? l = some (lstO xs m) ∧ s.heap.get? b = some (lstO ys n) ∧ xs.size = N ∧ ys.size = N ∧
    ∀ (h1 : i < xs.size) (h2 : i < ys.size), wpAny (model prog w) A (eqBool xs[i] ys[i]) (fun r s' => r = e i ∧ I (i + 1) s') E s
def One (prog : Program) (w : World) (A : Around) (E : Value → Shared → Prop) (l : Addr) (x : Value) (N : Nat) (e : Nat → Bool) (I : Nat → Shared → Prop) : Prop :=
  ∀ i s, I i s → ∃ (xs : Array Value) (m : Nat), s.heap.get? l = some (lstO xs m) ∧ xs.size = N ∧ ∀ (h1 : i < xs.size), wpAny (model prog w) A (eqBool xs[i] x) (fun r s' => r = e i ∧ I (i + 1) s') E s
/-- the two comparisons, by one bit: false is ==, true is != -/
def bit (neg : Bool) : Int := if neg then 3 else 2
/-- the comparison's loop, both kinds at once; k items are left -/
theorem cmp_go (neg : Bool) {N : Nat} (T : Two prog w A.in1 (fun v s' => R (.error v) s') l b N e I) : ∀ (k i : Nat), i + k = N → ∀ s, I i s → (∀ j s', I j s' → R (.ok (.ret (.bool (neg != allFrom e i k)))) s') →
    wpAny (model prog w) A.in1 (Builtin.«list.__eq__.loop» ⟨[.ref l, .ref b, rawInt i, rawInt (bit neg)], []⟩) (GQ.FinOf prog w A R) (fun v s' => R (.error v) s') s
  | 0, i, hk, s, h, fin => by
    obtain ⟨xs, ys, m, n, gx, gy, zx, zy, -⟩ := T i s h
    have last := fin i s h
    cases s
    cases neg
    all_goals
      wp_walk using wpAny_loadPart' gx, wpAny_loadPart' gy
      rw [past (by omega : xs.size ≤ i), past (by omega : ys.size ≤ i)]
      wp_walk using wpAny_loadPart' gx, wpAny_loadPart' gy
    · show R (.ok (.ret (.bool (xs.size == ys.size)))) _
      rw [zx, zy, beq_self_eq_true]
      exact last
    · show R (.ok (.ret (.bool (xs.size != ys.size)))) _
      rw [zx, zy, bne_self_eq_false]
      exact last
  | k + 1, i, hk, s, h, fin => by
    obtain ⟨xs, ys, m, n, gx, gy, zx, zy, ask⟩ := T i s h
    have ix : i < xs.size := by omega
    have iy : i < ys.size := by omega
    have asked := ask ix iy
    have goes : e i = true → ∀ s2, I (i + 1) s2 → wpAny (model prog w) A.in1 (Builtin.«list.__eq__.loop» ⟨[.ref l, .ref b, rawInt ((i + 1 : Nat) : Int), rawInt (bit neg)], []⟩) (GQ.FinOf prog w A R) (fun v s' => R (.error v) s') s2 := fun he s2 h2 =>
      cmp_go neg T k (i + 1) (by omega) s2 h2 fun j s' z => by
        have := fin j s' z
        rw [allFrom, he, Bool.true_and] at this
        exact this
    have ends : e i = false → ∀ s2, I (i + 1) s2 → R (.ok (.ret (.bool neg))) s2 := fun he s2 h2 => by
      have := fin _ s2 h2
      rw [allFrom, he, Bool.false_and, Bool.bne_false] at this
      exact this
    have read2 : ∀ s2, I (i + 1) s2 → ∃ (us vs : Array Value) (m' n' : Nat), s2.heap.get? l = some (lstO us m') ∧ s2.heap.get? b = some (lstO vs n') ∧ i < us.size ∧ i < vs.size := fun s2 h2 => by
      obtain ⟨us, vs, m', n', g1, g2, z1, z2, -⟩ := T _ s2 h2
      exact ⟨us, vs, m', n', g1, g2, by omega, by omega⟩
    clear ask fin h
    cases s
    cases neg
    all_goals
      wp_walk using wpAny_loadPart' gx, wpAny_loadPart' gy
      rw [here ix, here iy]
      refine wpAny_bind (wpAny_mono asked (fun r s2 got => ?_) fun _ _ x => x)
      obtain ⟨rfl, h2⟩ := got
      obtain ⟨us, vs, m', n', g1, g2, j1, j2⟩ := read2 s2 h2
      cases he : e i
    all_goals first
      | (have fine := ends he s2 h2
         cases s2
         wp_walk using wpAny_loadPart' g1, wpAny_loadPart' g2
         rw [here j1, here j2]
         wp_walk
         exact fine)
      | (have next := goes he s2 h2
         cases s2
         wp_walk
         refine ⟨plainId_quiet plain_eq_loop _, codeAny_builtin entry_eq_loop ?_⟩
         rw [Around.under_plainId plain_eq_loop _]
         exact next)
/-- x in l: k items are left -/
theorem in_go {x : Value} {N : Nat} (T : One prog w A.in1 (fun v s' => R (.error v) s') l x N e I) : ∀ (k i : Nat), i + k = N → ∀ s, I i s → (∀ j s', I j s' → R (.ok (.ret (.bool (anyFrom e i k)))) s') →
    wpAny (model prog w) A.in1 (Builtin.«list.__contains__.loop» ⟨[.ref l, x, rawInt i], []⟩) (GQ.FinOf prog w A R) (fun v s' => R (.error v) s') s
  | 0, i, hk, s, h, fin => by
    obtain ⟨xs, m, gx, zx, -⟩ := T i s h
    have last := fin i s h
    cases s
    wp_walk using wpAny_loadPart' gx
    rw [past (by omega : xs.size ≤ i)]
    wp_walk
    exact last
  | k + 1, i, hk, s, h, fin => by
    obtain ⟨xs, m, gx, zx, ask⟩ := T i s h
    have ix : i < xs.size := by omega
    have asked := ask ix
    have found : e i = true → ∀ s2, I (i + 1) s2 → R (.ok (.ret (.bool true))) s2 := fun he s2 h2 => by
      have := fin _ s2 h2
      rw [anyFrom, he, Bool.true_or] at this
      exact this
    have goes : e i = false → ∀ s2, I (i + 1) s2 → wpAny (model prog w) A.in1 (Builtin.«list.__contains__.loop» ⟨[.ref l, x, rawInt ((i + 1 : Nat) : Int)], []⟩) (GQ.FinOf prog w A R) (fun v s' => R (.error v) s') s2 := fun he s2 h2 =>
      in_go T k (i + 1) (by omega) s2 h2 fun j s' z => by
        have := fin j s' z
        rw [anyFrom, he, Bool.false_or] at this
        exact this
    clear ask fin h
    cases s
    wp_walk using wpAny_loadPart' gx
    rw [here ix]
    refine wpAny_bind (wpAny_mono asked (fun r s2 got => ?_) fun _ _ x => x)
    obtain ⟨rfl, h2⟩ := got
    cases he : e i
    · have next := goes he s2 h2
      cases s2
      wp_walk
      refine ⟨plainId_quiet plain_contains_loop _, codeAny_builtin entry_contains_loop ?_⟩
      rw [Around.under_plainId plain_contains_loop _]
      exact next
    · have fine := found he s2 h2
      cases s2
      wp_walk
      exact fine
end
section
variable {prog : Program} {w : World} {A : Around} {E : Value → Shared → Prop} {s : Shared} {l b : Addr} {e : Nat → Bool} {I : Nat → Shared → Prop} {Q : Value → Shared → Prop}
/-- what the loop says, as the whole comparison's word -/
theorem cmp_whole (neg : Bool) {N : Nat} (T : Two prog w A.in1 E l b N e I) (h : I 0 s) (fin : ∀ j s', I j s' → Q (.bool (neg != allFrom e 0 N)) s') :
    wpAny (model prog w) A.in1 (Builtin.«list.__eq__.loop» ⟨[.ref l, .ref b, rawInt (0 : Nat), rawInt (bit neg)], []⟩) (GQ.FinOf prog w A (wants (fun v s' => v ≠ .notImplemented ∧ Q v s') E)) (fun v s' => wants (fun v s' => v ≠ .notImplemented ∧ Q v s') E (.error v) s') s :=
  cmp_go neg T N 0 (Nat.zero_add N) s h fun j s' z => ⟨Value.noConfusion, fin j s' z⟩
/-- the call up to the loop, both kinds -/
theorem cmp_call (neg : Bool) {xs ys : Array Value} {m n : Nat} (gx : s.heap.get? l = some (lstO xs m)) (gy : s.heap.get? b = some (lstO ys n)) (sz : xs.size = ys.size)
    (h : wpAny (model prog w) A.in1 (Builtin.«list.__eq__.loop» ⟨[.ref l, .ref b, rawInt (0 : Nat), rawInt (bit neg)], []⟩) (GQ.FinOf prog w A (wants (fun v s' => v ≠ .notImplemented ∧ Q v s') E)) (fun v s' => wants (fun v s' => v ≠ .notImplemented ∧ Q v s') E (.error v) s') s) (hu : A.units < cLine) :
    wpAny (model prog w) A (richCompare (if neg then .NotEq else .Eq) (.ref l) (.ref b)) Q E s := by
  have same : ¬ (xs.size != ys.size) = true := by rw [sz, bne_self_eq_false]; exact Bool.false_ne_true
  have sub := AutoSeq1.sub_list_list
  cases neg
  · refine wpAny_richCompare_same_room ⟨_, gx, rfl⟩ ⟨_, gy, rfl⟩ F.slot_list_eq (GQ.call_here F.slot_list_eq ⟨_, gx, rfl⟩ F.entry_list_eq (F.args_list_eq_2 _ _) ?_) hu
    cases s
    wp_walk using wpAny_loadPart' gx, wpAny_loadPart' gy
    refine ⟨plainId_quiet plain_eq_loop _, codeAny_builtin entry_eq_loop ?_⟩
    rw [Around.under_plainId plain_eq_loop _]
    exact h
  · refine wpAny_richCompare_same_room ⟨_, gx, rfl⟩ ⟨_, gy, rfl⟩ F.slot_list_ne (GQ.call_here F.slot_list_ne ⟨_, gx, rfl⟩ F.entry_list_ne (F.args_list_ne_2 _ _) ?_) hu
    cases s
    wp_walk using wpAny_loadPart' gx, wpAny_loadPart' gy
    refine ⟨plainId_quiet plain_eq_loop _, codeAny_builtin entry_eq_loop ?_⟩
    rw [Around.under_plainId plain_eq_loop _]
    exact h
/-- lists of unlike lengths -/
theorem cmp_unlike (neg : Bool) {xs ys : Array Value} {m n : Nat} (gx : s.heap.get? l = some (lstO xs m)) (gy : s.heap.get? b = some (lstO ys n)) (sz : xs.size ≠ ys.size) (q : Q (.bool neg) s) (hu : A.units < cLine) :
    wpAny (model prog w) A (richCompare (if neg then .NotEq else .Eq) (.ref l) (.ref b)) Q E s := by
  have differ : (xs.size != ys.size) = true := bne_iff_ne.mpr sz
  have sub := AutoSeq1.sub_list_list
  cases neg
  · refine wpAny_richCompare_same_room ⟨_, gx, rfl⟩ ⟨_, gy, rfl⟩ F.slot_list_eq (GQ.call_here F.slot_list_eq ⟨_, gx, rfl⟩ F.entry_list_eq (F.args_list_eq_2 _ _) ?_) hu
    cases s
    wp_walk using wpAny_loadPart' gx, wpAny_loadPart' gy
    exact ⟨Value.noConfusion, q⟩
  · refine wpAny_richCompare_same_room ⟨_, gx, rfl⟩ ⟨_, gy, rfl⟩ F.slot_list_ne (GQ.call_here F.slot_list_ne ⟨_, gx, rfl⟩ F.entry_list_ne (F.args_list_ne_2 _ _) ?_) hu
    cases s
    wp_walk using wpAny_loadPart' gx, wpAny_loadPart' gy
    exact ⟨Value.noConfusion, q⟩
theorem rc_any (neg : Bool) (hu : A.units < cLine) {N : Nat} (T : Two prog w A.in1 E l b N e I) (h : I 0 s) (fin : ∀ j s', I j s' → Q (.bool (neg != allFrom e 0 N)) s') : wpAny (model prog w) A (richCompare (if neg then .NotEq else .Eq) (.ref l) (.ref b)) Q E s := by
  obtain ⟨xs, ys, m, n, gx, gy, zx, zy, -⟩ := T 0 s h
  exact cmp_call neg gx gy (zx.trans zy.symm) (cmp_whole neg T h fin) hu
theorem rc_list (hu : A.units < cLine) {N : Nat} (T : Two prog w A.in1 E l b N e I) (h : I 0 s) (fin : ∀ j s', I j s' → Q (.bool (allFrom e 0 N)) s') : wpAny (model prog w) A (richCompare .Eq (.ref l) (.ref b)) Q E s :=
  rc_any false hu T h fun j s' z => by rw [Bool.false_bne]; exact fin j s' z
theorem rcn_list (hu : A.units < cLine) {N : Nat} (T : Two prog w A.in1 E l b N e I) (h : I 0 s) (fin : ∀ j s', I j s' → Q (.bool (!allFrom e 0 N)) s') : wpAny (model prog w) A (richCompare .NotEq (.ref l) (.ref b)) Q E s :=
  rc_any true hu T h fun j s' z => by rw [Bool.true_bne]; exact fin j s' z
theorem rc_listL (hu : A.units < cLine) {xs ys : Array Value} {m n : Nat} (gx : s.heap.get? l = some (lstO xs m)) (gy : s.heap.get? b = some (lstO ys n)) (sz : xs.size ≠ ys.size) (q : Q (.bool false) s) : wpAny (model prog w) A (richCompare .Eq (.ref l) (.ref b)) Q E s := cmp_unlike false gx gy sz q hu
theorem rcn_listL (hu : A.units < cLine) {xs ys : Array Value} {m n : Nat} (gx : s.heap.get? l = some (lstO xs m)) (gy : s.heap.get? b = some (lstO ys n)) (sz : xs.size ≠ ys.size) (q : Q (.bool true) s) : wpAny (model prog w) A (richCompare .NotEq (.ref l) (.ref b)) Q E s := cmp_unlike true gx gy sz q hu
/-- x in l -/
theorem contains_list {x : Value} {N : Nat} {Qb : Bool → Shared → Prop} (T : One prog w A.in1 E l x N e I) (h : I 0 s) (fin : ∀ j s', I j s' → Qb (anyFrom e 0 N) s') : wpAny (model prog w) A (contains (.ref l) x) Qb E s := by
  obtain ⟨xs, m, gx, zx, -⟩ := T 0 s h
  have tell : wpAny (model prog w) A.in1 (Builtin.«list.__contains__.loop» ⟨[.ref l, x, rawInt (0 : Nat)], []⟩) (GQ.FinOf prog w A (wants (fun v s' => ∃ r, v = .bool r ∧ Qb r s') E)) (fun v s' => wants (fun v s' => ∃ r, v = .bool r ∧ Qb r s') E (.error v) s') s :=
    in_go T N 0 (Nat.zero_add N) s h fun j s' z => ⟨_, rfl, fin j s' z⟩
  have asked : wpAny (model prog w) A (call (.builtin "list.__contains__") [.ref l, x]) (fun v s' => ∃ r, v = .bool r ∧ Qb r s') E s := by
    refine GQ.call_here F.slot_list_contains ⟨_, gx, rfl⟩ F.entry_list_contains (F.args_list_contains_2 _ _) ?_
    cases s
    wp_walk using wpAny_loadPart' gx
    refine ⟨plainId_quiet plain_contains_loop _, codeAny_builtin entry_contains_loop ?_⟩
    rw [Around.under_plainId plain_contains_loop _]
    exact tell
  refine wpAny_contains_slot ⟨_, gx, rfl⟩ F.slot_list_contains (wpAny_mono asked (fun v s' got => ?_) fun _ _ x => x)
  obtain ⟨r, rfl, q⟩ := got
  exact wpAny_truthy_bool q
end
end W1Q
set_option maxRecDepth 100000
set_option maxHeartbeats 2000000
namespace W1
open PySem PySem.Spec PyProof.Rows L2

/-! ### == inside built-ins -/
structure Below (X : Cx) (n : Nat) (A : Around) : Prop where
  room : Room n A
  fr : A.frames = X.A.frames
theorem Below.in1 {X : Cx} {n : Nat} {A : Around} (s : Below X (n + 1) A) : Below X n A.in1 := ⟨s.room.in1, s.fr⟩
theorem Below.mono {X : Cx} {n m : Nat} {A : Around} (s : Below X n A) (h : m ≤ n) : Below X m A := ⟨s.room.mono h, s.fr⟩
theorem Below.env {X : Cx} {n : Nat} {A : Around} {pins : List (Addr × Obj)} {σ : L2.St} {H : Hp} {s : Shared} (b : Below X n A) (I : Inv X pins σ H s) : Env0 X.prog X.w X.K X.mg X.base A X.stack s H := by
  have e := I.env0
  exact ⟨by rw [b.fr]; exact e.frames, e.mod, e.bs, e.bsz, e.funs, e.frf, e.hok, e.bare⟩
def EqB (X : Cx) (n : Nat) (A B : Rl) (b : Bool) : Prop :=
  ∀ (A' : Around) (pins : List (Addr × Obj)) (s : Shared) (σ : L2.St) (G H : Hp) (x y : V) (u v : Value) (E : Value → Shared → Prop), Below X n A' → Inv X pins σ H s → RelV x u → RelV y v → Same G H → A.r x G → B.r y G →
    wpAny (model X.prog X.w) A' (eqBool u v) (fun r s' => r = b ∧ ∃ G' H', Inv X pins σ H' s' ∧ Step G H G' H') E s
section
variable {X : Cx} {n k : Nat} {A B R : Rl} {b : Bool} {C g : Addr} {fd : FuncData} {ps : List Str} {pre : Pre} {fs gs : List (Str × Rl)}
theorem eqb_val {x y : V} (hx : flatV x = true) (hy : flatV y = true) : EqB X 0 (rEqV x) (rEqV y) (eqV x y) := by
  intro A' pins s σ G H x' y' u v E bl I rx ry sg ax ay
  cases (show x' = x from ax)
  cases (show y' = y from ay)
  exact eqAt_V (A := A') (s := s) rx ry hx hy X.prog X.w E _ ⟨rfl, G, H, I, Step.refl sg⟩
theorem EqB.mono {m : Nat} (h : EqB X n A B b) (hn : n ≤ m) : EqB X m A B b := fun A' pins s σ G H x y u v E bl => h A' pins s σ G H x y u v E (bl.mono hn)
theorem eqb_own (hp : pre [rIns C fs, rIns C gs] [] (.ok (rBool b)) []) (hid : ∀ a G, (rIns C fs).r (.ref a) G → (rIns C gs).r (.ref a) G → b = true) (hn : PySem.W.notFirst X.K C (.ref C) = true) (Fn : FnOk X.prog X.w X.K X.mg X.base (L2.CX X.prog X.w) k g fd ps (spM pre))
    (m : OwnM X.K C "__eq__" g) (hb : Binds X.K fd ps []) : EqB X k (rIns C fs) (rIns C gs) b := by
  intro A' pins s σ G H x y u v E bl I rx ry sg ax ay
  obtain ⟨a, dx, vs, rfl, h1, h2⟩ := id ax
  obtain ⟨c, dy, ws, rfl, h3, h4⟩ := id ay
  cases (show u = Value.ref a from rx)
  cases (show v = Value.ref c from ry)
  by_cases hac : a = c
  · subst hac
    have e := hid a G ax ay
    subst e
    unfold eqBool
    refine wpAny_holding ?_
    refine wpAny_ite_split (fun _ => wpAny_bind (wpAny_rule (wpAny_pure ?_))) (fun h => absurd (beq_self_eq_true _) h)
    exact ⟨rfl, G, H, I, Step.refl sg⟩
  · refine GQ.eqBool_refG hac ?_
    have st0 : At ⟨X, G, H, [], fun _ _ _ _ => False, takes0⟩ [] G H := ⟨Same.refl _, fun _ _ _ e => e, sg, fun _ _ e => e, fun _ h => by simp at h, fun _ h => by simp at h, by simp⟩
    refine wpAny_mono (rc_own (A := A') (Q := fun v H' => v = .bl b ∧ ∃ G', Step G H G' H') (y := .ref c) (t := .ref C) m Fn bl.room (bl.env I) hb I (sg _ _ h1) ry (.ins (sg _ _ h3)) hn ?_ E) (fun w s' z => ?_) fun _ _ x => x
    · exact sp_ok0 (Rs := [rIns C fs, rIns C gs]) st0 (mk2 ax ay) hp fun v G2 H2 s2 a2 r2 => ⟨r2, G2, ⟨s2, fun a o e => a2.hh a o (by simp) e, a2.gh, a2.fr⟩⟩
    · obtain ⟨z', H', I', rz, ez, G', st⟩ := z
      subst ez
      exact ⟨b, rz, rfl, G', H', I', st⟩
theorem getOf {Rs : List Rl} {vs : List V} {its : List Value} {H : Hp} (h : All2 Rs vs H) (r : Vals vs its) {i : Nat} (h1 : i < its.toArray.size) : ∃ R v, Rs[i]? = some R ∧ R.r v H ∧ RelV v its.toArray[i] := by
  have hi : i < its.length := by simpa using h1
  have hv : i < vs.length := by rw [r.length]; exact hi
  have hr : i < Rs.length := by rw [h.len]; exact hv
  obtain ⟨v, e1, e2⟩ := h.get (List.getElem?_eq_getElem hr)
  obtain ⟨u, e3, e4⟩ := r.get e1
  rw [List.getElem?_eq_getElem hi] at e3
  cases e3
  exact ⟨_, v, List.getElem?_eq_getElem hr, e2, by simpa using e4⟩
/-- lists: what stays through the turns -/
def LoopW (X : Cx) (pins : List (Addr × Obj)) (σ : L2.St) (G H : Hp) (s' : Shared) : Prop := ∃ G' H', Inv X pins σ H' s' ∧ Step G H G' H'
theorem lst_obj {pins : List (Addr × Obj)} {σ : L2.St} {H : Hp} {s : Shared} {p : Addr} {vs : List V} (I : Inv X pins σ H s) (h : H p = some (.lst vs)) : ∃ its nn, Vals vs its ∧ s.heap.get? p = some (W1Q.lstO its.toArray nn) := by
  obtain ⟨z, its, nn, r, e⟩ := (show ObjOk X.prog X.w H s.heap p (.lst vs) from I.hok p _ h)
  exact ⟨its, nn, r, e⟩
theorem two_of {Rs Ss : List Rl} {e : Nat → Bool} {A' : Around} {E : Value → Shared → Prop} {pins : List (Addr × Obj)} {σ : L2.St} {G H : Hp} {p q : Addr} {vs ws : List V}
    (he : ∀ (i : Nat) R S, Rs[i]? = some R → Ss[i]? = some S → EqB X n R S (e i)) (bl : Below X n A') (hp : H p = some (.lst vs)) (hq : H q = some (.lst ws)) (h1 : All2 Rs vs G) (h2 : All2 Ss ws G) (hsz : Rs.length = Ss.length) :
    W1Q.Two X.prog X.w A' E p q Rs.length e (fun _ s' => LoopW X pins σ G H s') := fun i s' ⟨G1, H1, I1, st1⟩ => by
  obtain ⟨its, nn, r1, o1⟩ := lst_obj I1 (st1.hh _ _ hp)
  obtain ⟨its2, nn2, r2, o2⟩ := lst_obj I1 (st1.hh _ _ hq)
  have l1 := h1.len
  have l2 := h2.len
  have l3 := r1.length
  have l4 := r2.length
  refine ⟨_, _, _, _, o1, o2, by simp only [List.size_toArray]; omega, by simp only [List.size_toArray]; omega, fun hi1 hi2 => ?_⟩
  obtain ⟨R, v, hR, rv, ru⟩ := getOf (h1.up st1.gg) r1 hi1
  obtain ⟨S, w, hS, rw', rx⟩ := getOf (h2.up st1.gg) r2 hi2
  refine wpAny_mono (he i R S hR hS A' pins s' σ G1 H1 v w _ _ E bl I1 ru rx st1.gh rv rw') (fun r s2 z => ?_) fun _ _ x => x
  obtain ⟨hr, G2, H2, I2, st2⟩ := z
  exact ⟨hr, G2, H2, I2, st1.trans st2⟩
theorem one_of {Rs : List Rl} {e : Nat → Bool} {A' : Around} {E : Value → Shared → Prop} {pins : List (Addr × Obj)} {σ : L2.St} {G H : Hp} {p : Addr} {vs : List V} {y : V} {u : Value}
    (he : ∀ (i : Nat) R, Rs[i]? = some R → EqB X n R A (e i)) (bl : Below X n A') (hp : H p = some (.lst vs)) (h1 : All2 Rs vs G) (ry : RelV y u) (ay : A.r y G) :
    W1Q.One X.prog X.w A' E p u Rs.length e (fun _ s' => LoopW X pins σ G H s') := fun i s' ⟨G1, H1, I1, st1⟩ => by
  obtain ⟨its, nn, r1, o1⟩ := lst_obj I1 (st1.hh _ _ hp)
  have l1 := h1.len
  have l3 := r1.length
  refine ⟨_, _, o1, by simp only [List.size_toArray]; omega, fun hi1 => ?_⟩
  obtain ⟨R, v, hR, rv, ru⟩ := getOf (h1.up st1.gg) r1 hi1
  refine wpAny_mono (he i R hR A' pins s' σ G1 H1 v y _ _ E bl I1 ru ry st1.gh rv (A.mo _ _ _ st1.gg ay)) (fun r s2 z => ?_) fun _ _ x => x
  obtain ⟨hr, G2, H2, I2, st2⟩ := z
  exact ⟨hr, G2, H2, I2, st1.trans st2⟩
/-- == of two lists -/
theorem rcl {Rs Ss : List Rl} {e : Nat → Bool} {A' : Around} {E : Value → Shared → Prop} {pins : List (Addr × Obj)} {s : Shared} {σ : L2.St} {G H : Hp} {p q : Addr} {vs ws : List V} {Q : Value → Shared → Prop}
    (he : ∀ (i : Nat) R S, Rs[i]? = some R → Ss[i]? = some S → EqB X n R S (e i)) (bl : Below X (n + 1) A') (I : Inv X pins σ H s) (sg : Same G H) (hp : G p = some (.lst vs)) (hq : G q = some (.lst ws)) (h1 : All2 Rs vs G) (h2 : All2 Ss ws G)
    (hQ : ∀ s', LoopW X pins σ G H s' → Q (.bool (decide (Rs.length = Ss.length) && W1Q.allFrom e 0 Rs.length)) s') : wpAny (model X.prog X.w) A' (richCompare .Eq (.ref p) (.ref q)) Q E s := by
  have st0 : LoopW X pins σ G H s := ⟨G, H, I, Step.refl sg⟩
  by_cases hsz : Rs.length = Ss.length
  · rw [decide_eq_true hsz, Bool.true_and] at hQ
    exact W1Q.rc_list bl.room.units0 (two_of (pins := pins) (σ := σ) he bl.in1 (sg _ _ hp) (sg _ _ hq) h1 h2 hsz) st0 fun j s' z => hQ s' z
  · rw [decide_eq_false hsz, Bool.false_and] at hQ
    obtain ⟨its, nn, r1, o1⟩ := lst_obj I (sg _ _ hp)
    obtain ⟨its2, nn2, r2, o2⟩ := lst_obj I (sg _ _ hq)
    have l1 := h1.len
    have l2 := h2.len
    have l3 := r1.length
    have l4 := r2.length
    exact W1Q.rc_listL bl.room.units0 o1 o2 (by simp only [List.size_toArray]; omega) (hQ s st0)
theorem rcnl {Rs Ss : List Rl} {e : Nat → Bool} {A' : Around} {E : Value → Shared → Prop} {pins : List (Addr × Obj)} {s : Shared} {σ : L2.St} {G H : Hp} {p q : Addr} {vs ws : List V} {Q : Value → Shared → Prop}
    (he : ∀ (i : Nat) R S, Rs[i]? = some R → Ss[i]? = some S → EqB X n R S (e i)) (bl : Below X (n + 1) A') (I : Inv X pins σ H s) (sg : Same G H) (hp : G p = some (.lst vs)) (hq : G q = some (.lst ws)) (h1 : All2 Rs vs G) (h2 : All2 Ss ws G)
    (hQ : ∀ s', LoopW X pins σ G H s' → Q (.bool (!(decide (Rs.length = Ss.length) && W1Q.allFrom e 0 Rs.length))) s') : wpAny (model X.prog X.w) A' (richCompare .NotEq (.ref p) (.ref q)) Q E s := by
  have st0 : LoopW X pins σ G H s := ⟨G, H, I, Step.refl sg⟩
  by_cases hsz : Rs.length = Ss.length
  · rw [decide_eq_true hsz, Bool.true_and] at hQ
    exact W1Q.rcn_list bl.room.units0 (two_of (pins := pins) (σ := σ) he bl.in1 (sg _ _ hp) (sg _ _ hq) h1 h2 hsz) st0 fun j s' z => hQ s' z
  · rw [decide_eq_false hsz, Bool.false_and] at hQ
    obtain ⟨its, nn, r1, o1⟩ := lst_obj I (sg _ _ hp)
    obtain ⟨its2, nn2, r2, o2⟩ := lst_obj I (sg _ _ hq)
    have l1 := h1.len
    have l2 := h2.len
    have l3 := r1.length
    have l4 := r2.length
    exact W1Q.rcn_listL bl.room.units0 o1 o2 (by simp only [List.size_toArray]; omega) (hQ s st0)
theorem eqb_lst {Rs Ss : List Rl} {e : Nat → Bool} (he : ∀ (i : Nat) R S, Rs[i]? = some R → Ss[i]? = some S → EqB X n R S (e i)) (hid : ∀ a G, (rLst Rs).r (.ref a) G → (rLst Ss).r (.ref a) G → (decide (Rs.length = Ss.length) && W1Q.allFrom e 0 Rs.length) = true) :
    EqB X (n + 1) (rLst Rs) (rLst Ss) (decide (Rs.length = Ss.length) && W1Q.allFrom e 0 Rs.length) := by
  intro A' pins s σ G H x y u v E bl I rx ry sg ax ay
  obtain ⟨p, vs, rfl, h1, h2⟩ := id ax
  obtain ⟨q, ws, rfl, h3, h4⟩ := id ay
  cases (show u = Value.ref p from rx)
  cases (show v = Value.ref q from ry)
  by_cases hac : p = q
  · subst hac
    rw [hid p G ax ay]
    unfold eqBool
    refine wpAny_holding ?_
    refine wpAny_ite_split (fun _ => wpAny_bind (wpAny_rule (wpAny_pure ?_))) (fun h => absurd (beq_self_eq_true _) h)
    exact ⟨rfl, G, H, I, Step.refl sg⟩
  · refine GQ.eqBool_refG hac ?_
    exact rcl he bl I sg h1 h3 h2 h4 fun s' ⟨G', H', I', st⟩ => ⟨_, rfl, rfl, G', H', I', st⟩
end
/-! ### as operators -/
section
variable {F : Fx} {ω w : Ow} {A B R : Rl} {n : Nat}
/-- a rule by what it does -/
theorem bop_sem {f : Value → Value → Sem Value} (h : ∀ pins s σ G H x y u v Q, Inv F.X pins σ H s → RelV x u → RelV y v → Same G H → A.r x G → B.r y G → (∀ z G' H', Step G H G' H' → R.r z G' → Q z H') → wpAny (model F.X.prog F.X.w) F.X.A (f u v) (EP F.X pins σ Q) F.X.xe s) : Bop F w f A B R :=
  ⟨fun x y H Q => ∃ G, Same G H ∧ A.r x G ∧ B.r y G ∧ ∀ z G' H', Step G H G' H' → R.r z G' → Q z H', fun pins s σ H x y v u Q I rx ry ⟨G, sg, ax, ay, q⟩ => h pins s σ G H x y v u Q I rx ry sg ax ay q,
    fun x y G H at_ ax ay Q q => ⟨G, at_.gh, ax, ay, fun z G' H' st rz => q z G' H' st.gg (at_.step st) rz⟩⟩
theorem bop_eqL {Rs Ss : List Rl} {e : Nat → Bool} (he : ∀ (i : Nat) R S, Rs[i]? = some R → Ss[i]? = some S → EqB F.X n R S (e i)) (hr : Room (n + 1) F.X.A) : Bop F w (compareOp .Eq) (rLst Rs) (rLst Ss) (rBool (decide (Rs.length = Ss.length) && W1Q.allFrom e 0 Rs.length)) :=
  bop_sem fun pins s σ G H x y u v Q I rx ry sg ax ay q => by
    obtain ⟨p, vs, rfl, h1, h2⟩ := id ax
    obtain ⟨p2, ws, rfl, h3, h4⟩ := id ay
    cases (show u = Value.ref p from rx)
    cases (show v = Value.ref p2 from ry)
    show wpAny _ _ (richCompare .Eq (.ref p) (.ref p2)) _ _ _
    exact rcl he ⟨hr, rfl⟩ I sg h1 h3 h2 h4 fun s' ⟨G', H', I', st⟩ => ⟨V.bl _, H', I', rfl, q _ G' H' st rfl⟩
theorem bop_neL {Rs Ss : List Rl} {e : Nat → Bool} (he : ∀ (i : Nat) R S, Rs[i]? = some R → Ss[i]? = some S → EqB F.X n R S (e i)) (hr : Room (n + 1) F.X.A) : Bop F w (compareOp .NotEq) (rLst Rs) (rLst Ss) (rBool (!(decide (Rs.length = Ss.length) && W1Q.allFrom e 0 Rs.length))) :=
  bop_sem fun pins s σ G H x y u v Q I rx ry sg ax ay q => by
    obtain ⟨p, vs, rfl, h1, h2⟩ := id ax
    obtain ⟨p2, ws, rfl, h3, h4⟩ := id ay
    cases (show u = Value.ref p from rx)
    cases (show v = Value.ref p2 from ry)
    show wpAny _ _ (richCompare .NotEq (.ref p) (.ref p2)) _ _ _
    exact rcnl he ⟨hr, rfl⟩ I sg h1 h3 h2 h4 fun s' ⟨G', H', I', st⟩ => ⟨V.bl _, H', I', rfl, q _ G' H' st rfl⟩
theorem bop_inL {Rs : List Rl} {e : Nat → Bool} (he : ∀ (i : Nat) R, Rs[i]? = some R → EqB F.X n R A (e i)) (hr : Room (n + 1) F.X.A) : Bop F w (compareOp .In) A (rLst Rs) (rBool (W1Q.anyFrom e 0 Rs.length)) :=
  bop_sem fun pins s σ G H x y u v Q I rx ry sg ax ay q => by
    obtain ⟨p, vs, rfl, h1, h2⟩ := id ay
    cases (show v = Value.ref p from ry)
    show wpAny _ _ (do return Value.bool (← contains (.ref p) u)) _ _ _
    exact wpAny_bind (W1Q.contains_list (one_of (pins := pins) (σ := σ) he ⟨hr.in1, rfl⟩ (sg _ _ h1) h2 rx ax) ⟨G, H, I, Step.refl sg⟩ fun j s' ⟨G', H', I', st⟩ => wpAny_pure ⟨V.bl _, H', I', rfl, q _ G' H' st rfl⟩)
theorem bop_niL {Rs : List Rl} {e : Nat → Bool} (he : ∀ (i : Nat) R, Rs[i]? = some R → EqB F.X n R A (e i)) (hr : Room (n + 1) F.X.A) : Bop F w (compareOp .NotIn) A (rLst Rs) (rBool (!W1Q.anyFrom e 0 Rs.length)) :=
  bop_sem fun pins s σ G H x y u v Q I rx ry sg ax ay q => by
    obtain ⟨p, vs, rfl, h1, h2⟩ := id ay
    cases (show v = Value.ref p from ry)
    show wpAny _ _ (do return Value.bool (!(← contains (.ref p) u))) _ _ _
    exact wpAny_bind (W1Q.contains_list (one_of (pins := pins) (σ := σ) he ⟨hr.in1, rfl⟩ (sg _ _ h1) h2 rx ax) ⟨G, H, I, Step.refl sg⟩ fun j s' ⟨G', H', I', st⟩ => wpAny_pure ⟨V.bl _, H', I', rfl, q _ G' H' st rfl⟩)
end
end W1
set_option maxRecDepth 100000
set_option maxHeartbeats 2000000
namespace W1
open PySem PySem.Spec PyProof.Rows L2

/-! ### new things that are owned -/
def EN (F : Fx) (ρ : Ty) (ω : Ow) (e : Expr) (O : Ol) (ω' : Ow) : Prop :=
  ∀ σ G H, At F ω G H → Slots ρ σ G → ∀ Q : VK, (∀ q G2 H2, q ∉ F.M → Same G G2 → At F ((q, O) :: ω') G2 H2 → Q (.ref q) H2) → EW F.X e σ H Q
abbrev PreN := List Rl → Ow → Ol → Ow → Prop
/-- a promise of a new thing -/
def spN (pre : PreN) : Sp := fun vs H Q E => ∃ Rs ω O ω' G, pre Rs ω O ω' ∧ Same G H ∧ All2 Rs vs G ∧ Has ω G H ∧ (keys ω).Nodup ∧ keys ω' = keys ω ∧
  ∀ q G' H', H q = none → StepM (keys ω) G H G' H' → Has ((q, O) :: ω') G' H' → Q (.ref q) H'
def KfN (O : Ol) (ω' : Ow) : Kn where
  rt := fun S w => ∃ q w0, (∀ v G, S.r v G → v = .ref q) ∧ q ∉ keys ω' ∧ w = (q, O) :: (ω' ++ w0)
theorem Has.up {ω : Ow} {G H : Hp} {a : Addr} {O : Ol} (h : Has ((a, O) :: ω) G H) : Has ω G H := fun p hp => h p (List.mem_cons_of_mem _ hp)
theorem Has.some {ω : Ow} {G H : Hp} (h : Has ω G H) {b : Addr} (hb : b ∈ keys ω) : H b ≠ none := by
  obtain ⟨p, hp, e⟩ := List.mem_map.mp hb
  obtain ⟨_, o, z, _⟩ := h p hp
  rw [← e, z]
  simp
theorem At.newcall {F : Fx} {wc wc' w : Ow} {O : Ol} {q : Addr} {G H G' H' : Hp} (a : At F (wc ++ w) G H) (s : StepM (keys wc) G H G' H') (hq : H q = none) (h : Has ((q, O) :: wc') G' H') (hk : keys wc' = keys wc) : q ∉ F.M ∧ At F ((q, O) :: (wc' ++ w)) G' H' := by
  have a' := a.stepM s h.up hk
  have hM : q ∉ F.M := fun hm => a.mm q hm hq
  have h0 : F.H0 q = none := by
    cases e : F.H0 q with
    | none => rfl
    | some u => rw [a.hh q u hM e] at hq; cases hq
  refine ⟨hM, a'.gg, a'.hh, a'.gh, a'.fr, a'.mm, fun p hp => ?_, List.nodup_cons.mpr ⟨fun hm => ?_, a'.nd⟩⟩
  · rcases List.mem_cons.mp hp with rfl | hp
    · obtain ⟨x, z⟩ := h _ List.mem_cons_self
      exact ⟨x, .inl h0, z⟩
    · exact a'.ow p hp
  · have hm' : q ∈ keys (wc ++ w) := by
      have e : keys (wc' ++ w) = keys (wc ++ w) := by unfold keys at hk ⊢; rw [List.map_append, List.map_append, hk]
      rw [← e]
      exact hm
    exact a.has.some hm' hq
theorem fn_okN {P : Program} {w : World} {K : PySem.W.Frag} {mg : Str → Option Value} {base : Heap} {x qual : Str} {st : Stmt} {f : Addr} {fd : FuncData} {N ps : List Str} {k : Nat} {pre : PreN} (Fn : Fun K x qual st f fd) (S : FnScope N ps (defScope st))
    (hl : ∀ Rs ω o ω', pre Rs ω o ω' → Rs.length = ps.length)
    (hb : ∀ (cdv : Value) (A : Around) (outer : List Env) (s : Shared) (H : Hp) (E : XK) (F : Fx), Room k (A.deeper (envOfC qual (defScope st) s.heap.objs.size f cdv)) → F.X = cxOf (L2.CX P w) P w K mg base N qual (defScope st) f cdv A outer s H E →
      ∀ Rs ω o ω', pre Rs ω o ω' → HB F (Rs.map some ++ List.replicate (N.length - Rs.length) none) ω (defBody st) (KfN o ω')) : FnOk P w K mg base (L2.CX P w) (k + 1) f fd ps (spN pre) := by
  refine Fn.okX S (fun vs H Q E h => ?_) (fun cdv A outer s H vs Q E hr h => ?_)
  · obtain ⟨Rs, ω, o, ω', G, hp, _, h2, _⟩ := h
    rw [← h2.len]
    exact hl _ _ _ _ hp
  · obtain ⟨Rs, ω, o, ω', G, hp, hgh, hv, hhas, hnd, hk, hq⟩ := h
    have tk : Takes (cxOf (L2.CX P w) P w K mg base N qual (defScope st) f cdv A outer s H E) (fun cls d _ H => E cls d H) := takes_of rfl rfl rfl rfl
    refine ⟨_, pss_w, hb cdv A outer s H E ⟨cxOf (L2.CX P w) P w K mg base N qual (defScope st) f cdv A outer s H E, G, H, keys ω, fun cls d _ H => E cls d H, tk⟩ hr rfl Rs ω o ω' hp (L2.start N vs) G H _ ?_ ?_ ?_⟩
    · exact ⟨Same.refl _, fun a o _ e => e, hgh, fun a _ e => e, fun a ha => hhas.some ha, fun p hp => let ⟨x, z⟩ := hhas p hp; ⟨x, .inr (List.mem_map_of_mem hp), z⟩, hnd⟩
    · unfold L2.start
      have e := hv.len
      refine ⟨by simp [e], fun i R hi => ?_⟩
      by_cases h : i < Rs.length
      · rw [List.getElem?_append_left (by simpa using h), List.getElem?_map] at hi
        cases h1 : Rs[i]? with
        | none => rw [h1] at hi; cases hi
        | some R' =>
          rw [h1] at hi
          cases hi
          obtain ⟨v, h2, h3⟩ := hv.get h1
          exact ⟨v, by rw [List.getElem?_append_left (by rw [List.length_map, ← e]; exact h), List.getElem?_map, h2]; rfl, h3⟩
      · rw [List.getElem?_append_right (by simpa using h), List.getElem?_replicate] at hi
        split at hi <;> cases hi
    · refine ⟨fun _ _ hk => hk.elim, fun R w1 hr' v G' H' s a r => ?_, fun _ _ hk => hk.elim, fun _ _ hk => hk.elim, fun _ _ _ hk => hk.elim⟩
      obtain ⟨q, w0, h1, h2, rfl⟩ := hr'
      cases h1 v G' r
      have hM : q ∉ keys ω := by rw [← hk]; exact h2
      have a' : At _ (((q, o) :: ω') ++ w0) G' H' := a
      exact hq q G' H' (At.own0 a hM) ⟨a.gg, a.hh, a.gh, a.fr⟩ a'.has.left
theorem All2.set : ∀ {Rs : List Rl} {vs : List V} {H : Hp} {R : Rl} {v : V} (j : Nat), All2 Rs vs H → R.r v H → All2 (Rs.set j R) (vs.set j v) H
  | [], [], _, _, _, _, _, _ => trivial
  | _ :: _, _ :: _, _, _, _, 0, h, r => ⟨r, h.2⟩
  | _ :: _, _ :: _, _, _, _, j + 1, h, r => ⟨h.1, All2.set j h.2 r⟩
  | [], _ :: _, _, _, _, _, h, _ => h.elim
  | _ :: _, [], _, _, _, _, h, _ => h.elim
section
variable {F : Fx} {ρ ρ1 : Ty} {ω w w1 w2 w3 wc wc' : Ow} {e o ix : Expr} {es : List Expr} {R S : Rl} {Rs : List Rl} {O : Ol} {pos p apos : Pos} {x m : Str} {k : Nat} {f : Addr} {fd : FuncData} {ps : List Str} {pre : PreN} {K : Kn} {rest : List Stmt} {q : Addr}
theorem en_lst (h : AR F ρ ω es Rs w1) (hz : Rs.length ≤ 1000) : EN F ρ ω (.List es pos) (oL Rs) w1 := fun σ G H at_ sl Q q => by
  refine ew_of (pe_lst pa_w) (h σ G H at_ sl _ fun vs G2 H2 s a r => ⟨Nat.le_of_lt (small1000 (by rw [← r.len]; exact hz)), fun p hp => ?_⟩)
  exact q p G2 _ (fun hm => a.mm p hm hp) s (a.own hp ⟨vs, rfl, r⟩)
theorem en_call (ha : AR F ρ ω (e :: es) Rs (wc ++ w)) (hp : pre Rs wc O wc') (hk : keys wc' = keys wc) (Fn : FnOk F.X.prog F.X.w F.X.K F.X.mg F.X.base (L2.CX F.X.prog F.X.w) k f fd ps (spN pre)) (hr : Room k F.X.A) (hm : F.X.mg x = some (.ref f))
    (hkp : PySem.W.keepIn F.X.K (.ref f) = true) (hb : Binds F.X.K fd ps []) (hg : Gl F.X x := by rfl) (hdb : (x == ("__debug__" : Str)) = false := by decide) (he : starEach (e :: es) F.X.env = (false, eval e F.X.env) :: starEach es F.X.env := by rfl) (hpl : (backTo pos (starEach es F.X.env)).any (·.1) = false := by rfl) :
    EN F ρ ω (.Call (.Name x p) (e :: es) [] pos) O (wc' ++ w) := fun σ G H at_ sl Q q =>
  ew_of (pe_callS (E := WE F.W) Fn hr hg hm hkp hb passW pa_w hdb he hpl) (ha σ G H at_ sl _ fun vs G2 H2 s a r => ⟨Rs, wc, O, wc', G2, hp, a.gh, r, a.has.left, by have := a.nd; rw [List.map_append] at this; exact (List.nodup_append.mp this).1, hk, fun q' G' H' hq st hh => by
    obtain ⟨hM, a3⟩ := a.newcall st hq hh hk
    exact q q' G' H' hM (s.trans st.gg) a3⟩)
/-- x = a new thing -/
theorem hb_setN (i : Nat) (he : EN F ρ ω e O w1) (h : ∀ q, q ∉ F.M → HB F (ρ.set i (some (rRef q))) ((q, O) :: w1) rest K) (hN : F.X.N.Nodup) (hi : F.X.N[i]? = some x := by rfl) (hx : Loc F.X.env.scope x := by first | exact Or.inl rfl | exact Or.inr rfl)
    (hs : swapsWith e (some (.Name x p)) pos.line F.X.env = pure false := by rfl) (hf : F.X.fn x = true ∨ F.X.env.scope.names.lookup x = some .local := by first | exact .inl rfl | exact .inr rfl | assumption) :
    HB F ρ ω (.Assign [.Name x p] e pos :: rest) K := hb_cons fun σ G H D at_ sl ps =>
  sw_of (ps_set hN hi hx pe_w hs hf) (he σ G H at_ sl _ fun q G2 H2 hM s a => h q hM _ G2 H2 D a ((sl.up s).set i rfl) (ps.up s))
theorem hb_retO (he : EN F ρ ω e O w1) (h : ∀ q, q ∉ F.M → K.rt (rRef q) ((q, O) :: w1)) : HB F ρ ω (.Return (some e) pos :: rest) K := hb_cons fun σ G H D at_ sl ps =>
  sw_of (ps_ret pe_w) (he σ G H at_ sl _ fun q G2 H2 hM s a => ps.rt _ _ (h q hM) _ G2 H2 s a rfl)
/-- what is owned is owned no more -/
theorem hb_pub (i : Nat) (hi : ρ[i]? = some (some (rRef q))) (hM : q ∉ F.M) (hO : ∀ o G, G q = some o → O.c o G → R.r (.ref q) G) (h : HB F (ρ.set i (some R)) w rest K) : HB F ρ ((q, O) :: w) rest K := fun σ G H D at_ sl ps => by
  obtain ⟨hg0, _, o, h1, h2⟩ := at_.ow _ List.mem_cons_self
  have a := at_.pub h1 (At.own0 at_ hM)
  have sg : Same G (upd G q o) := fun b u e => by rw [upd_ne (ne_of_none e hg0)]; exact e
  obtain ⟨v, hv, rv⟩ := sl.at_ i _ hi
  cases (show v = V.ref q from rv)
  have sl2 := (sl.up sg).set i (R := R) (v := .ref q) (hO o _ upd_same (O.mo _ _ _ sg h2))
  have e : σ.set i (some (V.ref q)) = σ := by
    refine List.ext_getElem? fun j => ?_
    by_cases hj : i = j
    · subst hj
      rw [hv]
      exact List.getElem?_set_self (by
        cases Nat.lt_or_ge i σ.length with
        | inl z => exact z
        | inr z => rw [List.getElem?_eq_none z] at hv; cases hv)
    · rw [List.getElem?_set_ne hj]
  rw [e] at sl2
  exact h σ _ H D a sl2 (ps.up sg)
theorem pub_lst : ∀ o G, G q = some o → (oL Rs).c o G → (rLst Rs).r (.ref q) G := fun o G h ⟨vs, e, h2⟩ => ⟨q, vs, rfl, by rw [h, e], h2⟩
/-- l[i] of an owned list -/
theorem er_ixO {i : Int} {n : Nat} (ha : ER F ρ ω o (rRef q) w1) (hb : ER F ρ w1 ix (rInt i) w2) (hm : (q, oL Rs) ∈ w2) (hn : ixN Rs.length i = some n) (hR : Rs[n]? = some R) (hs : PlainIx ix := by exact fun _ _ => rfl) : ER F ρ ω (.Subscript o ix pos) R w2 := fun σ G H at_ sl Q k => by
  refine ew_of (pe_ix ix_list pe_w pe_w hs) (ha σ G H at_ sl _ fun x G1 H1 s1 at1 rx => hb σ G1 H1 at1 (sl.up s1) _ fun y G2 H2 s2 at2 ry => ?_)
  obtain ⟨_, _, ob, h1, vs, e1, h2⟩ := at2.ow _ hm
  subst e1
  obtain ⟨v, h3, h4⟩ := h2.get hR
  refine ⟨q, vs, i, v, rx, ry, SqL.of h1, ?_, k v G2 H2 (s1.trans s2) at2 h4⟩
  unfold atI
  rw [← h2.len, hn]
  exact h3
/-- l[i] = e -/
theorem hb_sub {i : Int} {n : Nat} {p2 : Pos} (he : ER F ρ ω e R w1) (ho : ER F ρ w1 o (rRef q) w2) (hi : ER F ρ w2 ix (rInt i) ((q, oL Rs) :: w3)) (hn : ixN Rs.length i = some n) (h : HB F ρ ((q, oL (Rs.set n R)) :: w3) rest K)
    (ha : ∀ v, assign (.Subscript o ix p2) F.X.env v = (do
      let ov ← holding [v] (eval o F.X.env)
      let iv ← holding [v, ov] (eval ix F.X.env)
      standAt p2
      holding [v, ov, iv] (setItem ov iv v)
      release [v, ov, iv] []) := by intro _; rfl)
    (hs : swapsWithSole [.Subscript o ix p2] e pos.line F.X.env = pure false := by rfl) (hw : swappedStores [.Subscript o ix p2] e F.X.env = pure none := by rfl) (h1 : (assignEach [.Subscript o ix p2] F.X.env).map (·.2) = [assign (.Subscript o ix p2) F.X.env] := by rfl) :
    HB F ρ ω (.Assign [.Subscript o ix p2] e pos :: rest) K := hb_cons fun σ G H D at_ sl ps => by
  refine sw_of (ps_asg pe_w (pg_sub pe_w pe_w set_list ha) hs hw h1) (he σ G H at_ sl _ fun v G1 H1 s1 a1 r1 => ho σ G1 H1 a1 (sl.up s1) _ fun x G2 H2 s2 a2 r2 => hi σ G2 H2 a2 ((sl.up s1).up s2) _ fun y G3 H3 s3 a3 r3 => ?_)
  obtain ⟨_, _, ob, h1', vs, e1, h2⟩ := a3.ow _ List.mem_cons_self
  subst e1
  refine ⟨q, vs, i, n, r2, r3, h1', by rw [← h2.len]; exact hn, ?_⟩
  have s13 := (s1.trans s2).trans s3
  exact h σ G3 _ D (a3.chg ⟨_, rfl, h2.set n (R.mo _ _ _ (s2.trans s3) r1)⟩) (sl.up s13) (ps.up s13)
/-- l.append(e) -/
theorem hb_append (ho : ER F ρ ω o (rRef q) w1) (hm : (q, oL Rs) ∈ w1) (ha : AR F ρ w1 [e] [R] ((q, oL Rs) :: w2)) (hz : Rs.length ≤ 100000) (h : HB F ρ ((q, oL (Rs ++ [R])) :: w2) rest K)
    (hsw : swapsWith (.Call (.Attribute o "append" apos) [e] [] p) none pos.line F.X.env = pure false := by rfl)
    (hbase : attributeBase o "append" F.X.env (eval o F.X.env) = eval o F.X.env := by rfl)
    (hfew : ((backTo p (starEach [e] F.X.env)).all (fun x => !x.1) && (backToKw p (keywordEach [] F.X.env)).all (fun x => x.1.isSome)
      && decide ([e].length + ([] : List Keyword).length + (if ([] : List Keyword).isEmpty then 0 else 1) < 30)) = true := by rfl)
    (hline : (apos.endLine == p.line) = true := by rfl) (hs : starEach [e] F.X.env = (false, eval e F.X.env) :: starEach [] F.X.env := by rfl) (hplain : (backTo p (starEach [] F.X.env)).any (·.1) = false := by rfl) :
    HB F ρ ω (.Expr (.Call (.Attribute o "append" apos) [e] [] p) pos :: rest) K := hb_cons fun σ G H D at_ sl ps => by
  refine sw_of (ps_expr (pe_bm (T := "list") PySem.F.plainAttrs_list PySem.F.slot_list_append PySem.F.type_list_append mt_append pe_w pa_w hbase hfew hline hs hplain) hsw) (ho σ G H at_ sl _ fun x G1 H1 s1 a1 r1 => ?_)
  cases (show x = V.ref q from r1)
  obtain ⟨_, _, ob, h1', vs, e1, h2⟩ := a1.ow _ hm
  subst e1
  refine ⟨.inl ⟨rfl, vs, SqL.of h1'⟩, ha σ G1 H1 a1 (sl.up s1) _ fun us G2 H2 s2 a2 r2 => ?_⟩
  obtain ⟨v, rfl, rv⟩ := all1 r2
  obtain ⟨_, _, ob, h3, ws, e3, h4⟩ := a2.ow _ List.mem_cons_self
  subst e3
  refine ⟨q, ws, v, rfl, rfl, h3, Nat.lt_of_le_of_lt (by rw [← h4.len]; exact hz) (by decide), ?_⟩
  have s12 := s1.trans s2
  exact h σ G2 _ D (a2.chg ⟨_, rfl, h4.app (mk1 rv)⟩) (sl.up s12) (ps.up s12)
/-! the script -/
def rScr (K : PySem.W.Frag) (xs : List V) : Rl := ⟨fun v H => ∃ a, v = .ref a ∧ SqL K H a xs, fun v H H' e ⟨a, h1, h2⟩ => ⟨a, h1, by
  rcases h2 with (h2 | ⟨o, h2⟩) | h2
  · exact .inl (.inl (e _ _ h2))
  · exact .inl (.inr ⟨o, e _ _ h2⟩)
  · exact .inr h2⟩⟩
theorem sql_up {K : PySem.W.Frag} {a : Addr} {xs : List V} {G H : Hp} (e : Same G H) (h : SqL K G a xs) : SqL K H a xs := by
  obtain ⟨b, h1, h2⟩ := (rScr K xs).mo (.ref a) G H e ⟨a, rfl, h⟩
  cases h1
  exact h2
theorem cop_lenS {xs : List V} : Cop F ω (.builtin "len") [rScr F.X.K xs] (rInt (xs.length : Int)) := by
  refine ⟨_, call_len_seq, fun us G H at_ hx Q q => ?_⟩
  obtain ⟨x, rfl, p, rfl, h1⟩ := all1 hx
  exact ⟨p, xs, rfl, .inl (sql_up at_.gh h1), q _ G H (Same.refl _) at_ rfl⟩
theorem iop_S {xs : List V} {i : Int} {v : V} (h : atI xs i = some v) : Iop F ω (rScr F.X.K xs) (rInt i) (rEqV v) :=
  ⟨_, ix_list, fun x y G H at_ hx hy Q q => by
    obtain ⟨p, rfl, h1⟩ := hx
    exact ⟨p, xs, i, v, rfl, hy, sql_up at_.gh h1, h, q v G H (Same.refl _) at_ rfl⟩⟩
/-! [..] * n, tuple(..) -/
theorem all2_flat {H : Hp} {Rs : List Rl} {vs : List V} (h : All2 Rs vs H) : ∀ n, All2 (List.replicate n Rs).flatten (List.replicate n vs).flatten H
  | 0 => trivial
  | n + 1 => by rw [List.replicate_succ, List.replicate_succ, List.flatten_cons, List.flatten_cons]; exact h.app (all2_flat h n)
theorem bop_rep {k : Int} (h1 : -(2 ^ 63) ≤ k) (h2 : k < 2 ^ 63) (hz : Rs.length * k.toNat ≤ 100000) : Bop F ω (binaryOp .Mult) (rLst Rs) (rInt k) (rLst (List.replicate k.toNat Rs).flatten) :=
  ⟨_, op_rep, fun x y G H at_ hx hy Q q => by
    obtain ⟨l, vs, rfl, e1, e2⟩ := hx
    refine ⟨l, k, vs, rfl, hy, at_.gh _ _ e1, h1, h2, Nat.le_trans (by rw [← e2.len]; exact hz) (by decide), fun p hp => ?_⟩
    have st := Step.new (o := .lst (List.replicate k.toNat vs).flatten) at_.gh hp
    exact q _ _ _ st.gg (at_.step st) ⟨p, _, rfl, upd_same, (all2_flat e2 _).up st.gg⟩⟩
theorem cop_tupL : Cop F ω (.type "tuple") [rLst Rs] (rTup Rs) := ⟨_, call_tuple_of, fun xs G H at_ hx Q q => by
  obtain ⟨x, rfl, p, vs, rfl, h1, h2⟩ := all1 hx
  refine ⟨p, vs, rfl, .inl ⟨SqL.of (at_.gh _ _ h1), fun l hl => ?_⟩⟩
  have st := Step.new (o := .tup vs) at_.gh hl
  exact q _ _ _ st.gg (at_.step st) ⟨l, vs, rfl, upd_same, h2.up st.gg⟩⟩
/-! a, b = a list -/
theorem ge_lst {K : PySem.W.Frag} {n : Nat} {gs : TGs} (h : GEs gs ρ Rs ρ1) (hl : Rs.length = n) : GE (gLst K n gs) ρ (rLst Rs) ρ1 := fun v σ G H Q s sl r q => by
  obtain ⟨a, vs, rfl, h1, h2⟩ := r
  exact ⟨a, vs, rfl, SqL.of (s _ _ h1), by rw [← h2.len]; exact hl, h vs σ G H Q s sl h2 q⟩
theorem gew_lst {K : PySem.W.Frag} {i j : Nat} {ρ : Ty} {R S : Rl} : GEw (gLst K 2 (gCons (gName i) (gCons (gName j) gNil))) [i, j] ρ (rLst [R, S]) ((((ρ.set j none).set i none).set i (some R)).set j (some S)) := fun v σ G H Q s sl r q => by
  obtain ⟨a, vs, rfl, h1, h2⟩ := r
  obtain ⟨x, y, rfl, hx, hy⟩ := all2 h2
  refine ⟨a, [x, y], rfl, SqL.of (s _ _ h1), rfl, x, [y], rfl, y, [], rfl, rfl, ?_⟩
  refine q _ ?_ ((((sl.gone j).gone i).set i hx).set j hy)
  show (((((σ.set j none).set i none).set i (some x)).set j (some y)).set j none).set i none = (σ.set j none).set i none
  simp only [List.set_set]
  by_cases hij : i = j
  · subst hij
    simp only [List.set_set]
  · rw [List.set_comm (i := i) (j := j) _ _ hij]
    simp only [List.set_set]
end
/-! ### try -/
/-- a caught exception, with its one field -/
def rExc (a dd : Addr) (fld : Str) (R : Rl) : Rl := ⟨fun v G => v = .ref a ∧ ∃ w, G dd = some (.xd [(fld, w)]) ∧ R.r w G, fun _ _ _ e ⟨h1, w, h2, h3⟩ => ⟨h1, w, e _ _ h2, R.mo _ _ _ e h3⟩⟩
/-- in the suite -/
structure InSuite (F F' : Fx) (a : Addr) (cls : Value) (d : Option Addr) : Prop where
  h : ∃ oe pn, F'.X = F.X.suite a ((a, oe) :: pn) ∧ Zc cls d oe ∧ ∃ vs, oe.data = .fields vs
  g0 : F'.G0 = F.G0
  h0 : F'.H0 = F.H0
  m : F'.M = F.M
structure InTry (F F' : Fx) : Prop where
  h : ∃ pn xe, F'.X = F.X.tr pn xe ∧ PassesOwn (model F.X.prog F.X.w) F.X.A F.X.env xe
  g0 : F'.G0 = F.G0
  h0 : F'.H0 = F.H0
  m : F'.M = F.M
/-- behind the suite of 'except C as n', n in slot i -/
def Kn.suite (K : Kn) (F : Fx) (rest : List Stmt) (i : Nat) : Kn :=
  { nx := fun ρ ω => HB F (ρ.set i none) ω rest K, rt := K.rt, bk := fun ρ ω => K.bk (ρ.set i none) ω, ct := fun ρ ω => K.ct (ρ.set i none) ω }
def Kn.try_ (K : Kn) (F : Fx) (rest : List Stmt) (i : Nat) (c : Value) (suite : List Stmt) : Kn :=
  { nx := fun ρ ω => HB F ρ ω rest K, rt := K.rt, bk := K.bk, ct := K.ct, ex := fun ρ ω P =>
      (∃ C fld R, (∀ cls d G, P cls d G → erF C fld R cls d G) ∧ PySem.W.exmOne F.X.K (.ref C) c = some true ∧ ∀ a dd F', InSuite F F' a (.ref C) (some dd) → HB F' (ρ.set i (some (rExc a dd fld R))) ω suite (K.suite F rest i)) ∨
      ((∀ cls d G, P cls d G → PySem.W.exmOne F.X.K cls c = some false) ∧ K.ex ρ ω P) }
section
variable {F : Fx} {ρ : Ty} {ω w1 : Ow} {K : Kn} {rest body suite : List Stmt} {b₀ : Stmt} {x n : Str} {c : Value} {np pos pos' : Pos}
theorem hb_try_as (i : Nat) (hb : ∀ F', InTry F F' → HB F' ρ ω body (K.try_ F rest i c (b₀ :: suite))) (hs : F.X.stack = F.X.env :: F.X.outer) (hf : F.X.env.frame = some F.X.env.locals) (hN : F.X.N.Nodup) (hc : Names F.X x c)
    (hi : F.X.N[i]? = some n := by rfl) (hln : F.X.env.kindOf n = some .local := by rfl) :
    HB F ρ ω (.Try body [.ExceptHandler (some (.Name x np)) (some n) (b₀ :: suite) pos'] [] [] pos :: rest) K := hb_cons fun σ G H D at_ sl ps => by
  refine sw_of (ps_try_as hs hf hN hi hln hc F.tk (tb := fun W D σ H => ∀ pn xe, Takes (F.X.tr pn xe) W → PassesOwn (model F.X.prog F.X.w) F.X.A F.X.env xe → BW (F.X.tr pn xe) body D σ H) (ts := fun a cls d D σ H => ∀ oe pn, Zc cls d oe → (∃ vs, oe.data = .fields vs) → BW (F.X.suite a ((a, oe) :: pn)) (b₀ :: suite) D σ H)
    (fun W pn xe tk pa => ⟨fun pins s σ H D I h => h pn xe tk pa pins s I⟩) (fun a oe cls d pn z hd => ⟨fun pins s σ H D I h => h oe pn z hd pins s I⟩)) ?_
  intro pn xe tk pa
  refine hb ⟨F.X.tr pn xe, F.G0, F.H0, F.M, _, tk⟩ ⟨⟨pn, xe, rfl, pa⟩, rfl, rfl, rfl⟩ σ G H _ at_.to sl ⟨fun ρ ω k σ' G' H' s a sl => k σ' G' H' D a.to sl (ps.up s), fun R ω k v G' H' s a r => ps.rt R ω k v G' H' s a.to r, fun ρ ω k σ' G' H' s a sl => ps.bk ρ ω k σ' G' H' s a.to sl, fun ρ ω k σ' G' H' s a sl => ps.ct ρ ω k σ' G' H' s a.to sl, fun ρ ω P k cls d σ' G' H' s a sl hP => ?_⟩
  rcases k with ⟨C, fld, R, k1, k2, k3⟩ | ⟨k1, k2⟩
  · obtain ⟨rfl, dd, v, rfl, e1, e2⟩ := k1 _ _ _ hP
    refine ⟨true, k2, fun _ ax hna oe pn' z hd => ?_, fun z => by cases z⟩
    refine k3 ax dd ⟨F.X.suite ax ((ax, oe) :: pn'), F.G0, F.H0, F.M, fun _ _ _ _ => False, fun _ _ ⟨_, _, _, _, _, _, _, _, _, _, _, _, _, _, _, _, z⟩ => z.elim⟩ ⟨⟨oe, pn', rfl, z, hd⟩, rfl, rfl, rfl⟩ _ G' H' _ a.to (sl.set i ⟨rfl, v, e1, e2⟩) ?_
    exact ⟨fun ρ ω k σ' G2 H2 s2 a sl => k _ G2 H2 D a.to (sl.gone i) (ps.up (s.trans s2)), fun R ω k v G2 H2 s2 a r => ps.rt R ω k v G2 H2 (s.trans s2) a.to r, fun ρ ω k σ' G2 H2 s2 a sl => ps.bk _ ω k _ G2 H2 (s.trans s2) a.to (sl.gone i), fun ρ ω k σ' G2 H2 s2 a sl => ps.ct _ ω k _ G2 H2 (s.trans s2) a.to (sl.gone i), fun _ _ _ k => k.elim⟩
  · exact ⟨false, k1 _ _ _ hP, fun z => absurd z Bool.false_ne_true, fun _ => ps.ex ρ ω P k2 cls d σ' G' H' s a.to sl hP⟩
end
section
variable {F F' : Fx} {ρ : Ty} {ω w1 : Ow} {e : Expr} {R : Rl} {a C dd : Addr} {fld : Str} {pos : Pos}
/-- e.f of the caught one -/
theorem er_xf (S : InSuite F F' a (.ref C) (some dd)) (T : XfC F.X.K C) (hno : PySem.W.findIn F.X.K (.ref C) fld = some none) (he : ER F' ρ ω e (rExc a dd fld R) w1) (hb : attributeBase e fld F.X.env (eval e F.X.env) = eval e F.X.env := by rfl) : ER F' ρ ω (.Attribute e fld pos) R w1 := fun σ G H at_ sl Q q => by
  obtain ⟨oe, pn, hX, hz, hd⟩ := S.h
  have z := fun te h => ew_of (X := F.X.suite a ((a, oe) :: pn)) (pe_xf (pn := pn) (te := te) (pos := pos) T hno hz hd h hb) (σ := σ) (H := H) (Q := Q)
  rw [← hX] at z
  refine z _ pe_w (he σ G H at_ sl _ fun v G2 H2 s a r => ?_)
  obtain ⟨rfl, w, h1, h2⟩ := r
  exact ⟨rfl, rfl, dd, _, w, rfl, a.gh _ _ h1, List.lookup_cons_self, q w G2 H2 s a h2⟩
end
end W1
set_option maxRecDepth 100000
set_option maxHeartbeats 2000000
namespace W1
open PySem PySem.Spec PyProof.Rows L2

/-! ### known defs, in one word each -/
section
variable (P : Program) (w : World) (K : PySem.W.Frag) (mg : Str → Option Value) (base : Heap)
/-- a def at the top -/
def Kf1 (x : Str) (k : Nat) (pre : Pre) : Prop := ∃ f fd ps, mg x = some (.ref f) ∧ PySem.W.keepIn K (.ref f) = true ∧ Binds K fd ps [] ∧ FnOk P w K mg base (L2.CX P w) k f fd ps (spM pre)
def KfN1 (x : Str) (k : Nat) (pre : PreN) : Prop := ∃ f fd ps, mg x = some (.ref f) ∧ PySem.W.keepIn K (.ref f) = true ∧ Binds K fd ps [] ∧ FnOk P w K mg base (L2.CX P w) k f fd ps (spN pre)
/-- a method -/
def Km (C : Addr) (m : Str) (k : Nat) (pre : Pre) : Prop := ∃ f fd ps, Meth K C m f ∧ Binds K fd ps [] ∧ FnOk P w K mg base (L2.CX P w) k f fd ps (spM pre)
/-- an operator's method -/
def Ko (C : Addr) (m : Str) (k : Nat) (pre : Pre) : Prop := ∃ f fd ps, OwnM K C m f ∧ Binds K fd ps [] ∧ FnOk P w K mg base (L2.CX P w) k f fd ps (spM pre)
/-- a class that is called -/
def Kc (C : Addr) (x : Str) (k : Nat) (pre : Pre) : Prop := ∃ f fd ps, mg x = some (.ref C) ∧ Mk K C f ∧ Binds K fd ps [] ∧ FnOk P w K mg base (L2.CX P w) k f fd ps (spM pre)
/-- a classmethod -/
def Kcm (C : Addr) (m : Str) (k : Nat) (pre : Pre) : Prop := ∃ f fd ps mc pc, ClX.CRead K C mc ∧ ClX.CMet K C mc m pc f ∧ Binds K fd ps [] ∧ FnOk P w K mg base (L2.CX P w) k f fd ps (spM pre)
/-- an error class of one field -/
def Ke (C : Addr) (x fld : Str) (k : Nat) (Pr : Rl) : Prop := ∃ y qual st f cc cd fd, SupC P K mg x qual st C f cc cd ∧ Binds K fd ([("self" : Str), y] : List Str) [] ∧ FnOk P w K mg base (L2.CX P w) k f fd ([("self" : Str), y] : List Str) (spErr C fld Pr)
end
section
variable {F : Fx} {ρ : Ty} {ω w w1 w2 wc wc' : Ow} {e o a b : Expr} {es : List Expr} {R S : Rl} {Rs : List Rl} {P : Er} {pos p apos pos' : Pos} {x m fld : Str} {k : Nat} {C : Addr} {pre : Pre} {fs gs : List (Str × Rl)} {O : Ol} {K : Kn} {rest : List Stmt} {t : Bool}
theorem er_fn (T : Kf1 F.X.prog F.X.w F.X.K F.X.mg F.X.base x k pre) (hr : Room k F.X.A) (ha : AR F ρ ω (e :: es) Rs (wc ++ w)) (hp : pre Rs wc (.ok R) wc') (hk : keys wc' = keys wc := by rfl)
    (hg : Gl F.X x := by rfl) (hdb : (x == ("__debug__" : Str)) = false := by decide) (he : starEach (e :: es) F.X.env = (false, eval e F.X.env) :: starEach es F.X.env := by rfl) (hpl : (backTo pos (starEach es F.X.env)).any (·.1) = false := by rfl) :
    ER F ρ ω (.Call (.Name x p) (e :: es) [] pos) R (wc' ++ w) := by
  obtain ⟨f, fd, ps, h1, h2, h3, h4⟩ := T
  exact er_call ha hp hk h4 hr h1 h2 h3 hg hdb he hpl
theorem er_fn0 (T : Kf1 F.X.prog F.X.w F.X.K F.X.mg F.X.base x k pre) (hr : Room k F.X.A) (ha : AR F ρ ω (e :: es) Rs w) (hp : pre Rs [] (.ok R) [])
    (hg : Gl F.X x := by rfl) (hdb : (x == ("__debug__" : Str)) = false := by decide) (he : starEach (e :: es) F.X.env = (false, eval e F.X.env) :: starEach es F.X.env := by rfl) (hpl : (backTo pos (starEach es F.X.env)).any (·.1) = false := by rfl) :
    ER F ρ ω (.Call (.Name x p) (e :: es) [] pos) R w := er_fn (wc := []) (wc' := []) T hr ha hp rfl hg hdb he hpl
theorem ex_fn0 (T : Kf1 F.X.prog F.X.w F.X.K F.X.mg F.X.base x k pre) (hr : Room k F.X.A) (ha : AR F ρ ω (e :: es) Rs w) (hp : pre Rs [] (.error P) [])
    (hg : Gl F.X x := by rfl) (hdb : (x == ("__debug__" : Str)) = false := by decide) (he : starEach (e :: es) F.X.env = (false, eval e F.X.env) :: starEach es F.X.env := by rfl) (hpl : (backTo pos (starEach es F.X.env)).any (·.1) = false := by rfl) :
    EX F ρ ω (.Call (.Name x p) (e :: es) [] pos) P w := by
  obtain ⟨f, fd, ps, h1, h2, h3, h4⟩ := T
  exact ex_call (wc := []) (wc' := []) ha hp rfl h4 hr h1 h2 h3 hg hdb he hpl
theorem en_fn {pre : PreN} (T : KfN1 F.X.prog F.X.w F.X.K F.X.mg F.X.base x k pre) (hr : Room k F.X.A) (ha : AR F ρ ω (e :: es) Rs (wc ++ w)) (hp : pre Rs wc O wc') (hk : keys wc' = keys wc := by rfl)
    (hg : Gl F.X x := by rfl) (hdb : (x == ("__debug__" : Str)) = false := by decide) (he : starEach (e :: es) F.X.env = (false, eval e F.X.env) :: starEach es F.X.env := by rfl) (hpl : (backTo pos (starEach es F.X.env)).any (·.1) = false := by rfl) :
    EN F ρ ω (.Call (.Name x p) (e :: es) [] pos) O (wc' ++ w) := by
  obtain ⟨f, fd, ps, h1, h2, h3, h4⟩ := T
  exact en_call ha hp hk h4 hr h1 h2 h3 hg hdb he hpl
theorem er_m {pl : Sem Bool} (T : Km F.X.prog F.X.w F.X.K F.X.mg F.X.base C m k pre) (hc : Cls F.X.K C) (hr : Room k F.X.A) (ho : ER F ρ ω o (rIns C fs) w1) (ha : AR F ρ w1 (e :: es) Rs w) (hp : pre (rIns C fs :: Rs) [] (.ok R) []) (hno : fs.lookup m = none := by rfl)
    (hst : starEach (e :: es) F.X.env = (false, eval e F.X.env) :: starEach es F.X.env := by rfl) (hpl : (backTo pos (starEach es F.X.env)).any (·.1) = false := by rfl)
    (ht : eval (.Call (.Attribute o m apos) (e :: es) [] pos) F.X.env = (do
      let ov ← eval o F.X.env
      standAt apos.atName
      let (f, first) ← holding [ov] (getMethod ov m pl)
      callWith pos f first (backTo pos (starEach (e :: es) F.X.env)) (backToKw pos (keywordEach [] F.X.env))) := by rfl) :
    ER F ρ ω (.Call (.Attribute o m apos) (e :: es) [] pos) R w := by
  obtain ⟨f, fd, ps, h1, h2, h3⟩ := T
  exact er_meth (wc := []) (wc' := []) ho hno ha hp rfl h3 hr hc h1 h2 hst hpl ht
theorem ex_m {pl : Sem Bool} (T : Km F.X.prog F.X.w F.X.K F.X.mg F.X.base C m k pre) (hc : Cls F.X.K C) (hr : Room k F.X.A) (ho : ER F ρ ω o (rIns C fs) w1) (ha : AR F ρ w1 (e :: es) Rs w) (hp : pre (rIns C fs :: Rs) [] (.error P) []) (hno : fs.lookup m = none := by rfl)
    (hst : starEach (e :: es) F.X.env = (false, eval e F.X.env) :: starEach es F.X.env := by rfl) (hpl : (backTo pos (starEach es F.X.env)).any (·.1) = false := by rfl)
    (ht : eval (.Call (.Attribute o m apos) (e :: es) [] pos) F.X.env = (do
      let ov ← eval o F.X.env
      standAt apos.atName
      let (f, first) ← holding [ov] (getMethod ov m pl)
      callWith pos f first (backTo pos (starEach (e :: es) F.X.env)) (backToKw pos (keywordEach [] F.X.env))) := by rfl) :
    EX F ρ ω (.Call (.Attribute o m apos) (e :: es) [] pos) P w := by
  obtain ⟨f, fd, ps, h1, h2, h3⟩ := T
  exact ex_meth (wc := []) (wc' := []) ho hno ha hp rfl h3 hr hc h1 h2 hst hpl ht
theorem er_m0 {pl : Sem Bool} (T : Km F.X.prog F.X.w F.X.K F.X.mg F.X.base C m k pre) (hc : Cls F.X.K C) (hr : Room k F.X.A) (ho : ER F ρ ω o (rIns C fs) w) (hp : pre [rIns C fs] [] (.ok R) []) (hno : fs.lookup m = none := by rfl)
    (ht : eval (.Call (.Attribute o m apos) [] [] pos) F.X.env = (do
      let ov ← eval o F.X.env
      standAt apos.atName
      let (f, first) ← holding [ov] (getMethod ov m pl)
      callWith pos f first (backTo pos (starEach [] F.X.env)) (backToKw pos (keywordEach [] F.X.env))) := by rfl) :
    ER F ρ ω (.Call (.Attribute o m apos) [] [] pos) R w := by
  obtain ⟨f, fd, ps, h1, h2, h3⟩ := T
  exact er_meth0 (wc := []) (wc' := []) ho hno hp rfl h3 hr hc h1 h2 ht
theorem er_c {fs : List (Str × Rl)} (T : Kc F.X.prog F.X.w F.X.K F.X.mg F.X.base C x k pre) (hr : Room (k + 1) F.X.A) (ha : AR F ρ ω (e :: es) Rs w) (hp : ∀ q, pre (rRef q :: Rs) [(q, oIns C [])] (.ok rNon) [(q, oIns C fs)])
    (hg : Gl F.X x := by rfl) (hdb : (x == ("__debug__" : Str)) = false := by decide) (he : starEach (e :: es) F.X.env = (false, eval e F.X.env) :: starEach es F.X.env := by rfl) (hpl : (backTo pos (starEach es F.X.env)).any (·.1) = false := by rfl) :
    ER F ρ ω (.Call (.Name x p) (e :: es) [] pos) (rIns C fs) w := by
  obtain ⟨f, fd, ps, h1, h2, h3, h4⟩ := T
  exact er_make ha hp h4 hr h2 h1 h3 hg hdb he hpl
theorem ex_c (T : Kc F.X.prog F.X.w F.X.K F.X.mg F.X.base C x k pre) (hr : Room (k + 1) F.X.A) (ha : AR F ρ ω (e :: es) Rs w) (hp : ∀ q, ∃ O, pre (rRef q :: Rs) [(q, oIns C [])] (.error P) [(q, O)]) (hP : ∀ cls d G G', Same G G' → P cls d G → P cls d G')
    (hg : Gl F.X x := by rfl) (hdb : (x == ("__debug__" : Str)) = false := by decide) (he : starEach (e :: es) F.X.env = (false, eval e F.X.env) :: starEach es F.X.env := by rfl) (hpl : (backTo pos (starEach es F.X.env)).any (·.1) = false := by rfl) :
    EX F ρ ω (.Call (.Name x p) (e :: es) [] pos) P w := by
  obtain ⟨f, fd, ps, h1, h2, h3, h4⟩ := T
  exact ex_make ha hp h4 hr h2 h1 h3 hg hdb he hpl hP
theorem er_cm {pl : Sem Bool} (T : Kcm F.X.prog F.X.w F.X.K F.X.mg F.X.base C m k pre) (hr : Room k F.X.A) (ho : ER F ρ ω o (rRef C) w1) (ha : AR F ρ w1 (e :: es) Rs w) (hp : pre (rRef C :: Rs) [] (.ok R) [])
    (hst : starEach (e :: es) F.X.env = (false, eval e F.X.env) :: starEach es F.X.env := by rfl) (hpl : (backTo pos (starEach es F.X.env)).any (·.1) = false := by rfl)
    (ht : eval (.Call (.Attribute o m apos) (e :: es) [] pos) F.X.env = (do
      let ov ← eval o F.X.env
      standAt apos.atName
      let (f, first) ← holding [ov] (getMethod ov m pl)
      callWith pos f first (backTo pos (starEach (e :: es) F.X.env)) (backToKw pos (keywordEach [] F.X.env))) := by rfl) : ER F ρ ω (.Call (.Attribute o m apos) (e :: es) [] pos) R w := by
  obtain ⟨f, fd, ps, mc, pc, h1, h2, h3, h4⟩ := T
  exact er_cmeth ho ha hp h4 hr h1 h2 h3 hst hpl ht
theorem bop_o {op : Operator} (T : Ko F.X.prog F.X.w F.X.K F.X.mg F.X.base C (PySem.dunder op.info.2) k pre) (c : ClsX F.X.K C) (hr : Room k F.X.A) (hp : pre [rIns C fs, rIns C gs] [] (.ok R) []) : Bop F w (binaryOp op) (rIns C fs) (rIns C gs) R := by
  obtain ⟨f, fd, ps, h1, h2, h3⟩ := T
  exact bop_own hp h3 c h1 hr h2
theorem uop_o (T : Ko F.X.prog F.X.w F.X.K F.X.mg F.X.base C "__neg__" k pre) (hr : Room k F.X.A) (hp : pre [rIns C fs] [] (.ok R) []) : Uop F w (unaryOp .USub) (rIns C fs) R := by
  obtain ⟨f, fd, ps, h1, h2, h3⟩ := T
  exact uop_own hp h3 h1 hr h2
theorem bop_oE {B : Rl} {t : Value} (T : Ko F.X.prog F.X.w F.X.K F.X.mg F.X.base C "__eq__" k pre) (hr : Room k F.X.A) (hp : pre [rIns C fs, B] [] (.ok R) []) (ht : TyR F.X.K B t) (hn : PySem.W.notFirst F.X.K C t = true) : Bop F w (compareOp .Eq) (rIns C fs) B R := by
  obtain ⟨f, fd, ps, h1, h2, h3⟩ := T
  exact bop_ownE hp ht hn h3 h1 hr h2
theorem cop_oB (T : Ko F.X.prog F.X.w F.X.K F.X.mg F.X.base C "__bool__" k pre) (hr : Room (k + 2) F.X.A) (hp : pre [rIns C fs] [] (.ok (rBool t)) []) : Cop F w (.type "bool") [rIns C fs] (rBool t) := by
  obtain ⟨f, fd, ps, h1, h2, h3⟩ := T
  exact cop_ownB hp h3 h1 hr h2
theorem tr_o (T : Ko F.X.prog F.X.w F.X.K F.X.mg F.X.base C "__bool__" k pre) (hr : Room k F.X.A) (he : ER F ρ ω e (rIns C fs) w) (hp : pre [rIns C fs] [] (.ok (rBool t)) [])
    (hw : ∀ whole, isTrue e F.X.env whole = (do let v ← whole; standAt e.pos; holding [v] (truthy v)) := by intro _; rfl) : TR F ρ ω e t w := by
  obtain ⟨f, fd, ps, h1, h2, h3⟩ := T
  exact tr_own he hp h3 h1 hr h2 hw
theorem eqb_o (T : Ko F.X.prog F.X.w F.X.K F.X.mg F.X.base C "__eq__" k pre) (hp : pre [rIns C fs, rIns C gs] [] (.ok (rBool t)) []) (hid : ∀ a G, (rIns C fs).r (.ref a) G → (rIns C gs).r (.ref a) G → t = true) (hn : PySem.W.notFirst F.X.K C (.ref C) = true) : EqB F.X k (rIns C fs) (rIns C gs) t := by
  obtain ⟨f, fd, ps, h1, h2, h3⟩ := T
  exact eqb_own hp hid hn h3 h1 h2
theorem hb_err {Pr : Rl} (T : Ke F.X.prog F.X.w F.X.K F.X.mg F.X.base C x fld k Pr) (hr : Room (k + 1) F.X.A) (ha : AR F ρ ω [e] [R] w1) (hx : K.ex ρ w1 (erF C fld R)) (hPr : ∀ v G, R.r v G → Pr.r v G)
    (hg : Gl F.X x := by rfl) (hc : F.X.calm = true := by rfl) (hdb : (x == ("__debug__" : Str)) = false := by decide)
    (he : starEach [e] F.X.env = (false, eval e F.X.env) :: starEach [] F.X.env := by rfl) (hpl : (backTo pos (starEach [] F.X.env)).any (·.1) = false := by rfl) :
    HB F ρ ω (.Raise (some (.Call (.Name x p) [e] [] pos)) none pos' :: rest) K := by
  obtain ⟨y, qual, st, f, cc, cd, fd, h1, h2, h3⟩ := T
  exact hb_raise ha hx hPr h1 h3 hr h2 hg hc hdb he hpl
end
end W1
set_option maxRecDepth 100000
set_option maxHeartbeats 2000000
namespace W1
open PySem PySem.Spec PyProof.Rows L2

/-! ### fractions -/
theorem gcd_step (a b : Nat) (h : b ≠ 0) : Int.gcd (b : Int) ((a % b : Nat) : Int) = Int.gcd (a : Int) (b : Int) := by
  show Nat.gcd b (a % b) = Nat.gcd a b
  rw [Nat.gcd_comm a b, Nat.gcd_rec b a, Nat.gcd_comm]
theorem fmod_nat (a b : Nat) : (a : Int).fmod (b : Int) = ((a % b : Nat) : Int) := by
  rw [Int.fmod_eq_emod_of_nonneg _ (Int.natCast_nonneg b)]
  rfl
theorem abs_nat (a : Int) : (if a < 0 then -a else a) = (a.natAbs : Int) := by
  by_cases h : a < 0
  · rw [if_pos h]; omega
  · rw [if_neg h]; omega
/-- the divisor that __init__ takes -/
def dvs (t b : Int) : Int := if b < 0 then -(Int.gcd t b : Int) else (Int.gcd t b : Int)
theorem dvs_ne {t b : Int} (h : b ≠ 0) : dvs t b ≠ 0 := by
  have : Int.gcd t b ≠ 0 := fun e => h (Int.gcd_eq_zero_iff.mp e).2
  unfold dvs
  split <;> omega
theorem dvs_top {t b : Int} (h : b ≠ 0) : t.fdiv (dvs t b) = (Rat.divInt t b).num := by
  have hd := dvs_ne (t := t) h
  obtain ⟨u, hu⟩ : ((Int.gcd t b : Int)) ∣ t := Int.gcd_dvd_left t b
  have hg : (Int.gcd t b : Int) ≠ 0 := by
    have : Int.gcd t b ≠ 0 := fun e => h (Int.gcd_eq_zero_iff.mp e).2
    omega
  rw [Rat.num_divInt, Int.gcd_comm b t]
  generalize hG : (Int.gcd t b : Int) = g at *
  unfold dvs
  rw [hG]
  by_cases hb : b < 0
  · rw [if_pos hb, Int.sign_eq_neg_one_of_neg hb, hu, show g * u = (-g) * (-u) by rw [Int.neg_mul_neg], Int.mul_fdiv_cancel_left _ (by omega), show -1 * (-g * -u) = g * (-u) by rw [Int.neg_mul_neg, Int.mul_neg]; omega, Int.mul_ediv_cancel_left _ hg]
  · rw [if_neg hb, Int.sign_eq_one_of_pos (by omega), hu, Int.mul_fdiv_cancel_left _ hg, Int.one_mul, Int.mul_ediv_cancel_left _ hg]
theorem dvs_bot {t b : Int} (h : b ≠ 0) : b.fdiv (dvs t b) = ((Rat.divInt t b).den : Int) := by
  have hd := dvs_ne (t := t) h
  obtain ⟨u, hu⟩ : ((Int.gcd t b : Int)) ∣ b := Int.gcd_dvd_right t b
  have hg : (0 : Int) < (Int.gcd t b : Int) := by
    have : Int.gcd t b ≠ 0 := fun e => h (Int.gcd_eq_zero_iff.mp e).2
    omega
  rw [Rat.den_divInt, if_neg h, Int.gcd_comm b t]
  generalize hG : Int.gcd t b = g at *
  have e : (b.natAbs / g : Nat) = u.natAbs := by
    rw [hu, Int.natAbs_mul, Int.natAbs_natCast, Nat.mul_div_cancel_left _ (by omega)]
  rw [e]
  unfold dvs
  rw [hG]
  by_cases hb : b < 0
  · have hu0 : u < 0 := by
      rcases Int.lt_or_le u 0 with z | z
      · exact z
      · have := Int.mul_nonneg (Int.le_of_lt hg) z
        omega
    rw [if_pos hb, hu, show (g : Int) * u = (-(g : Int)) * (-u) by rw [Int.neg_mul_neg], Int.mul_fdiv_cancel_left _ (by omega)]
    omega
  · have hu0 : 0 ≤ u := by
      rcases Int.lt_or_le u 0 with z | z
      · have := Int.mul_neg_of_pos_of_neg hg z
        omega
      · exact z
    rw [if_neg hb, hu, Int.mul_fdiv_cancel_left _ (by omega)]
    omega
theorem dvs_le {t b : Int} : (dvs t b).natAbs ≤ b.natAbs ∨ b = 0 := by
  by_cases h : b = 0
  · exact .inr h
  · left
    have h1 : (Int.gcd t b) ≤ b.natAbs := Nat.le_of_dvd (by omega) (Nat.gcd_dvd_right _ _)
    unfold dvs
    split <;> omega
/-- not too great -/
def Sz (n : Nat) (q : Rat) : Prop := q.num.natAbs < 2 ^ n ∧ q.den < 2 ^ n
theorem Sz.mono {m n : Nat} {q : Rat} (h : Sz m q) (l : m ≤ n) : Sz n q :=
  ⟨Nat.lt_of_lt_of_le h.1 (Nat.pow_le_pow_right (by decide) l), Nat.lt_of_lt_of_le h.2 (Nat.pow_le_pow_right (by decide) l)⟩
theorem mul_lt2 {a b m n : Nat} (ha : a < 2 ^ m) (hb : b < 2 ^ n) : a * b < 2 ^ (m + n) := by
  rw [Nat.pow_add]
  exact Nat.mul_lt_mul'' ha hb
theorem sz_divInt {n : Nat} {t b : Int} (h : b ≠ 0) (h1 : t.natAbs < 2 ^ n) (h2 : b.natAbs < 2 ^ n) : Sz n (Rat.divInt t b) := by
  constructor
  · rw [Rat.num_divInt, Int.natAbs_ediv_of_dvd]
    · refine Nat.lt_of_le_of_lt (Nat.div_le_self _ _) ?_
      rw [Int.natAbs_mul]
      have : b.sign.natAbs = 1 := Int.natAbs_sign_of_ne_zero h
      rw [this, Nat.one_mul]
      exact h1
    · exact Int.dvd_mul_of_dvd_right (Int.gcd_dvd_right b t)
  · rw [Rat.den_divInt, if_neg h]
    exact Nat.lt_of_le_of_lt (Nat.div_le_self _ _) h2
theorem add_lt2 {a b m n k : Nat} (ha : a < 2 ^ m) (hb : b < 2 ^ n) (h1 : m < k) (h2 : n < k) : a + b < 2 ^ k := by
  have e : 2 ^ k = 2 ^ (k - 1) + 2 ^ (k - 1) := by
    obtain ⟨j, rfl⟩ : ∃ j, k = j + 1 := ⟨k - 1, by omega⟩
    rw [Nat.pow_succ, Nat.add_sub_cancel]
    omega
  have h3 : 2 ^ m ≤ 2 ^ (k - 1) := Nat.pow_le_pow_right (by decide) (by omega)
  have h4 : 2 ^ n ≤ 2 ^ (k - 1) := Nat.pow_le_pow_right (by decide) (by omega)
  omega
theorem divInt_add (p q : Rat) : Rat.divInt (p.num * q.den + q.num * p.den) (p.den * q.den) = p + q := by
  have h1 : (p.den : Int) ≠ 0 := Int.natCast_ne_zero.mpr p.den_nz
  have h2 : (q.den : Int) ≠ 0 := Int.natCast_ne_zero.mpr q.den_nz
  rw [← Rat.divInt_add_divInt _ _ h1 h2, Rat.num_divInt_den, Rat.num_divInt_den]
theorem divInt_sub (p q : Rat) : Rat.divInt (p.num * q.den - q.num * p.den) (p.den * q.den) = p - q := by
  rw [Rat.sub_eq_add_neg, ← divInt_add, Rat.neg_num, Rat.neg_den, Int.neg_mul]
  rfl
theorem divInt_mul (p q : Rat) : Rat.divInt (p.num * q.num) (p.den * q.den) = p * q := by
  rw [← Rat.divInt_mul_divInt, Rat.num_divInt_den, Rat.num_divInt_den]
theorem divInt_neg (p : Rat) : Rat.divInt (-p.num) p.den = -p := by
  rw [← Rat.neg_divInt, Rat.num_divInt_den]
theorem divInt_quo (p q : Rat) : Rat.divInt (p.num * q.den) (p.den * q.num) = p / q := by
  rw [← Rat.divInt_mul_divInt, Rat.num_divInt_den, Rat.div_def, Rat.inv_def]
theorem sz_int {n : Nat} {q : Rat} (h : Sz n q) : (q.den : Int).natAbs < 2 ^ n := by rw [Int.natAbs_natCast]; exact h.2
theorem sz_add {m n k : Nat} {p q : Rat} (hp : Sz m p) (hq : Sz n q) (h : m + n < k) : Sz k (p + q) := by
  rw [← divInt_add]
  have h1 : (p.den : Int) ≠ 0 := Int.natCast_ne_zero.mpr p.den_nz
  have h2 : (q.den : Int) ≠ 0 := Int.natCast_ne_zero.mpr q.den_nz
  refine sz_divInt (Int.mul_ne_zero h1 h2) ?_ ?_
  · refine Nat.lt_of_le_of_lt (Int.natAbs_add_le _ _) ?_
    rw [Int.natAbs_mul, Int.natAbs_mul]
    exact add_lt2 (mul_lt2 hp.1 (sz_int hq)) (mul_lt2 hq.1 (sz_int hp)) h (by omega)
  · rw [Int.natAbs_mul]
    exact Nat.lt_trans (mul_lt2 (sz_int hp) (sz_int hq)) (Nat.pow_lt_pow_right (by decide) h)
theorem sz_neg {n : Nat} {p : Rat} (hp : Sz n p) : Sz n (-p) := by
  refine ⟨?_, ?_⟩
  · rw [Rat.neg_num, Int.natAbs_neg]; exact hp.1
  · rw [Rat.neg_den]; exact hp.2
theorem sz_sub {m n k : Nat} {p q : Rat} (hp : Sz m p) (hq : Sz n q) (h : m + n < k) : Sz k (p - q) := by
  rw [Rat.sub_eq_add_neg]
  exact sz_add hp (sz_neg hq) h
theorem sz_mul {m n k : Nat} {p q : Rat} (hp : Sz m p) (hq : Sz n q) (h : m + n ≤ k) : Sz k (p * q) := by
  rw [← divInt_mul]
  have h1 : (p.den : Int) ≠ 0 := Int.natCast_ne_zero.mpr p.den_nz
  have h2 : (q.den : Int) ≠ 0 := Int.natCast_ne_zero.mpr q.den_nz
  refine Sz.mono (sz_divInt (n := m + n) (Int.mul_ne_zero h1 h2) ?_ ?_) h
  · rw [Int.natAbs_mul]
    exact mul_lt2 hp.1 hq.1
  · rw [Int.natAbs_mul]
    exact mul_lt2 (sz_int hp) (sz_int hq)
theorem sz_quo {m n k : Nat} {p q : Rat} (hp : Sz m p) (hq : Sz n q) (h : m + n ≤ k) (h0 : q.num ≠ 0) : Sz k (p / q) := by
  rw [← divInt_quo]
  have h1 : (p.den : Int) ≠ 0 := Int.natCast_ne_zero.mpr p.den_nz
  refine Sz.mono (sz_divInt (n := m + n) (Int.mul_ne_zero h1 h0) ?_ ?_) h
  · rw [Int.natAbs_mul]
    exact mul_lt2 hp.1 (sz_int hq)
  · rw [Int.natAbs_mul]
    exact mul_lt2 (sz_int hp) hq.1
theorem log2_of {a n : Nat} (h : a < 2 ^ n) (hn : n ≤ 9000) : a.log2 < 9000 ∨ a.log2 < 9000 := by
  left
  rcases Nat.eq_zero_or_pos a with e | e
  · subst e; decide
  · exact Nat.lt_of_lt_of_le ((Nat.log2_lt (by omega)).mpr h) hn
theorem bits_of {a : Int} {n : Nat} (h : a.natAbs < 2 ^ n) (hn : n ≤ 9000) : Builtin.Int.intBits a ≤ 2 ^ 20 := by
  unfold Builtin.Int.intBits
  have := (log2_of h hn).elim id id
  split <;> omega
theorem mulok {a b : Int} {m n : Nat} (ha : a.natAbs < 2 ^ m) (hb : b.natAbs < 2 ^ n) (hm : m ≤ 9000 := by decide) (hn : n ≤ 9000 := by decide) : IntMulOk a b := IntMulOk.of_bits (bits_of ha hm) (bits_of hb hn)
theorem divok {a : Int} {n : Nat} {i : Int} (h0 : a ≠ 0) (ha : a.natAbs < 2 ^ n) (hn : n ≤ 9000 := by decide) : CDivZ i a := ⟨h0, (log2_of ha hn).elim id id⟩
end W1
set_option maxRecDepth 100000
set_option maxHeartbeats 2000000
namespace W1
open PySem PySem.Spec PyProof.Rows L2

/-! ### texts, slices, more of lists -/
/-- a method of a builtin type -/
def Mop (F : Fx) (ω : Ow) (T id : String) (A : Rl) (As : List Rl) (R : Rl) : Prop :=
  ∃ r : V → List V → Hp → VK → Prop, MtR F.X id r ∧ (∀ x G H, At F ω G H → A.r x G → tyV F.X.K T x H) ∧ ∀ x xs G H, At F ω G H → A.r x G → All2 As xs G → ∀ Q : VK, (∀ v G2 H2, Same G G2 → At F ω G2 H2 → R.r v G2 → Q v H2) → r x xs H Q
/-- a part of a slice -/
def PR (F : Fx) (ρ : Ty) (ω : Ow) (e : Option Expr) (v : Option Int) (ω' : Ow) : Prop :=
  ∃ t, PO F.X e t ∧ ∀ σ G H, At F ω G H → Slots ρ σ G → ∀ Q : Option Int → Hp → Prop, (∀ G2 H2, Same G G2 → At F ω' G2 H2 → Q v H2) → t σ H Q
def Sop (F : Fx) (ω : Ow) (A : Rl) (lo hi : Option Int) (R : Rl) : Prop :=
  ∃ r, L2.SlR F.X r ∧ ∀ x G H, At F ω G H → A.r x G → ∀ Q : VK, (∀ v G2 H2, Same G G2 → At F ω G2 H2 → R.r v G2 → Q v H2) → r x lo hi H Q
def cutR (Rs : List Rl) (lo hi : Option Int) : List Rl := (Rs.drop (HT.sIx Rs.length 0 lo)).take (HT.sIx Rs.length Rs.length hi - HT.sIx Rs.length 0 lo)
theorem All2.drop : ∀ {Rs : List Rl} {vs : List V} {H : Hp} (n : Nat), All2 Rs vs H → All2 (Rs.drop n) (vs.drop n) H
  | _, _, _, 0, h => h
  | [], [], _, _ + 1, _ => trivial
  | _ :: _, _ :: _, _, n + 1, h => All2.drop n h.2
  | [], _ :: _, _, _ + 1, h => h.elim
  | _ :: _, [], _, _ + 1, h => h.elim
theorem All2.take : ∀ {Rs : List Rl} {vs : List V} {H : Hp} (n : Nat), All2 Rs vs H → All2 (Rs.take n) (vs.take n) H
  | _, _, _, 0, _ => trivial
  | [], [], _, _ + 1, _ => trivial
  | _ :: _, _ :: _, _, n + 1, h => ⟨h.1, All2.take n h.2⟩
  | [], _ :: _, _, _ + 1, h => h.elim
  | _ :: _, [], _, _ + 1, h => h.elim
theorem All2.rev : ∀ {Rs : List Rl} {vs : List V} {H : Hp}, All2 Rs vs H → All2 Rs.reverse vs.reverse H
  | [], [], _, _ => trivial
  | _ :: _, _ :: _, _, h => by rw [List.reverse_cons, List.reverse_cons]; exact (All2.rev h.2).app ⟨h.1, trivial⟩
  | [], _ :: _, _, h => h.elim
  | _ :: _, [], _, h => h.elim
theorem all2_vals {H : Hp} : ∀ {xs vs : List V}, All2 (xs.map rEqV) vs H → vs = xs
  | [], [], _ => rfl
  | x :: xs, v :: vs, h => by rw [show v = x from h.1, all2_vals h.2]
  | [], _ :: _, h => h.elim
  | _ :: _, [], h => h.elim
theorem vals_all2 {H : Hp} : ∀ (xs : List V), All2 (xs.map rEqV) xs H
  | [] => trivial
  | _ :: xs => ⟨rfl, vals_all2 xs⟩
section
variable {F : Fx} {ρ : Ty} {ω w w1 w2 w3 : Ow} {e o a b lo hi : Expr} {es : List Expr} {A R S : Rl} {As Rs Ss : List Rl} {pos p apos p2 p3 : Pos} {m : Str} {z y : Str} {T id : String} {v u : Option Int}
theorem er_bm (pa : PlainAttrs T) (slot : Slot T m id) (hty : typeOf (.builtin id) = pure (.type "method_descriptor")) (ho : ER F ρ ω o A w1) (ha : AR F ρ w1 (e :: es) As w2) (h : Mop F w2 T id A As R) (ht : ∀ x G H, Same G H → A.r x G → tyV F.X.K T x H)
    (hbase : attributeBase o m F.X.env (eval o F.X.env) = eval o F.X.env := by rfl)
    (hfew : ((backTo p (starEach (e :: es) F.X.env)).all (fun x => !x.1) && (backToKw p (keywordEach [] F.X.env)).all (fun x => x.1.isSome)
      && decide ((e :: es).length + ([] : List Keyword).length + (if ([] : List Keyword).isEmpty then 0 else 1) < 30)) = true := by rfl)
    (hline : (apos.endLine == p.line) = true := by rfl) (hs : starEach (e :: es) F.X.env = (false, eval e F.X.env) :: starEach es F.X.env := by rfl) (hplain : (backTo p (starEach es F.X.env)).any (·.1) = false := by rfl) :
    ER F ρ ω (.Call (.Attribute o m apos) (e :: es) [] p) R w2 := fun σ G H at_ sl Q q => by
  obtain ⟨r, hm, _, k⟩ := h
  refine ew_of (pe_bm pa slot hty hm pe_w pa_w hbase hfew hline hs hplain) (ho σ G H at_ sl _ fun x G1 H1 s1 a1 r1 => ⟨ht x G1 H1 a1.gh r1, ha σ G1 H1 a1 (sl.up s1) _ fun us G2 H2 s2 a2 r2 => ?_⟩)
  exact k x us G2 H2 a2 (A.mo _ _ _ s2 r1) r2 Q fun v G3 H3 s3 a3 r3 => q v G3 H3 ((s1.trans s2).trans s3) a3 r3
theorem ty_str {K : PySem.W.Frag} : ∀ x G H, Same G H → (rStr z).r x G → tyV K "str" x H := fun x G H _ h => by
  cases (show x = V.str z from h)
  exact rfl
theorem str_vals {H : Hp} {ys : List Str} {vs : List V} (h : All2 (ys.map rStr) vs H) : vs = ys.map V.str := by
  refine all2_vals (H := H) ?_
  rw [List.map_map]
  exact h
theorem vals_str {H : Hp} (ys : List Str) : All2 (ys.map rStr) (ys.map V.str) H := by
  have h := vals_all2 (H := H) (ys.map V.str)
  rw [List.map_map] at h
  exact h
theorem mop_split (h : (y.length == 0) = false) (hz : z.length ≤ 100000) : Mop F w "str" "str.split" (rStr z) [rStr y] (rLst ((Txt.split z y).map rStr)) := by
  refine ⟨_, mt_split, fun x G H at_ hx => ty_str x G H at_.gh hx, fun x xs G H at_ hx hxs Q q => ?_⟩
  obtain ⟨v, rfl, hv⟩ := all1 hxs
  refine ⟨z, y, hx, by rw [show v = V.str y from hv], h, Nat.le_trans (Nat.add_le_add_right hz 2) (by decide), fun p hp => ?_⟩
  have st := Step.new (o := .lst ((Txt.split z y).map V.str)) at_.gh hp
  exact q _ _ _ st.gg (at_.step st) ⟨p, _, rfl, upd_same, vals_str _⟩
theorem mop_join {ys : List Str} (hz : (ys.map (·.length)).sum + ys.length * z.length ≤ 16777216) : Mop F w "str" "str.join" (rStr z) [rLst (ys.map rStr)] (rStr (Txt.join z ys)) := by
  refine ⟨_, mt_join, fun x G H at_ hx => ty_str x G H at_.gh hx, fun x xs G H at_ hx hxs Q q => ?_⟩
  obtain ⟨v, rfl, p, vs, rfl, h1, h2⟩ := all1 hxs
  rw [str_vals h2] at h1
  exact ⟨z, p, ys, hx, rfl, .inl (SqL.of (at_.gh _ _ h1)), hz, q _ G H (Same.refl _) at_ rfl⟩
/-! slices -/
theorem pr_none : PR F ρ ω none none ω := ⟨_, po_none, fun σ G H at_ sl Q q => q G H (Same.refl _) at_⟩
theorem pr_some {i : Int} (h : ER F ρ ω e (rInt i) w1) : PR F ρ ω (some e) (some i) w1 := ⟨_, po_some pe_w, fun σ G H at_ sl Q q => h σ G H at_ sl _ fun v G2 H2 s a r => ⟨i, r, q G2 H2 s a⟩⟩
theorem er_slice {lo hi : Option Expr} (ho : ER F ρ ω o A w1) (hl : PR F ρ w1 lo v w2) (hh : PR F ρ w2 hi u w3) (h : Sop F w3 A v u R) : ER F ρ ω (.Subscript o (.Slice lo hi none p2) pos) R w3 := fun σ G H at_ sl Q q => by
  obtain ⟨r, hr, k⟩ := h
  obtain ⟨tl, htl, hl⟩ := hl
  obtain ⟨th, hth, hh⟩ := hh
  refine ew_of (pe_slice hr pe_w htl hth) (ho σ G H at_ sl _ fun x G1 H1 s1 a1 r1 => hl σ G1 H1 a1 (sl.up s1) _ fun G2 H2 s2 a2 => hh σ G2 H2 a2 ((sl.up s1).up s2) _ fun G3 H3 s3 a3 => ?_)
  exact k x G3 H3 a3 (A.mo _ _ _ (s2.trans s3) r1) Q fun v G4 H4 s4 a4 r4 => q v G4 H4 (((s1.trans s2).trans s3).trans s4) a4 r4
theorem sop_str (hz : z.length ≤ 100000) : Sop F w (rStr z) v u (rStr (cutS z v u)) := ⟨_, sl_str, fun x G H at_ hx Q q => ⟨z, hx, Nat.le_trans hz (by decide), q _ G H (Same.refl _) at_ rfl⟩⟩
theorem sop_L : Sop F w (rLst Rs) v u (rLst (cutR Rs v u)) := ⟨_, sl_list, fun x G H at_ hx Q q => by
  obtain ⟨p, vs, rfl, h1, h2⟩ := hx
  refine ⟨p, vs, rfl, SqL.of (at_.gh _ _ h1), fun l hl => ?_⟩
  have st := Step.new (o := .lst (cutV vs v u)) at_.gh hl
  refine q _ _ _ st.gg (at_.step st) ⟨l, _, rfl, upd_same, ?_⟩
  unfold cutR cutV
  rw [h2.len]
  exact ((h2.drop _).take _).up st.gg⟩
theorem sop_S {xs : List V} : Sop F w (rScr F.X.K xs) v u (rLst ((cutV xs v u).map rEqV)) := ⟨_, sl_list, fun x G H at_ hx Q q => by
  obtain ⟨p, rfl, h1⟩ := hx
  refine ⟨p, xs, rfl, sql_up at_.gh h1, fun l hl => ?_⟩
  have st := Step.new (o := .lst (cutV xs v u)) at_.gh hl
  exact q _ _ _ st.gg (at_.step st) ⟨l, _, rfl, upd_same, vals_all2 _⟩⟩
theorem er_revL {k : Nat} {p1 p2 p3 pos : Pos} (ho : ER F ρ ω o (rLst Rs) w1) : ER F ρ ω (.Subscript o (.Slice none none (some (.UnaryOp .USub (.Constant (.int 1) k p1) p2)) p3) pos) (rLst Rs.reverse) w1 := fun σ G H at_ sl Q q => by
  refine ew_of (pe_revL pe_w) (ho σ G H at_ sl _ fun x G1 H1 s1 a1 r1 => ?_)
  obtain ⟨p, vs, rfl, h1, h2⟩ := r1
  refine ⟨p, vs, rfl, SqL.of (a1.gh _ _ h1), fun l hl => ?_⟩
  have st := Step.new (o := .lst vs.reverse) a1.gh hl
  exact q _ _ _ (s1.trans st.gg) (a1.step st) ⟨l, _, rfl, upd_same, h2.rev.up st.gg⟩
/-! operators and builtins -/
theorem iop_str {i : Int} {c : Nat} (h : atI z.cps.toList i = some c) (hz : z.length ≤ 100000) : Iop F w (rStr z) (rInt i) (rStr ⟨#[c]⟩) := ⟨_, ix_str, fun x y G H at_ hx hy Q q => ⟨z, i, c, hx, hy, Nat.le_trans hz (by decide), h, q _ G H (Same.refl _) at_ rfl⟩⟩
theorem bop_addS (hz : z.length + y.length ≤ 100000) : Bop F w (binaryOp .Add) (rStr z) (rStr y) (rStr (z ++ y)) := bop_of op_add_str fun _ _ q => ⟨z, y, rfl, rfl, Nat.le_trans hz (by decide), q⟩
theorem bop_eqS : Bop F w (compareOp .Eq) (rStr z) (rStr y) (rBool (decide (z = y))) := by
  have e : decide (V.str z = V.str y) = decide (z = y) := decide_eq_decide.mpr ⟨V.str.inj, fun h => by rw [h]⟩
  rw [← e]
  exact bop_eq rfl
theorem bop_neS : Bop F w (compareOp .NotEq) (rStr z) (rStr y) (rBool (!decide (z = y))) := by
  have e : decide (V.str z = V.str y) = decide (z = y) := decide_eq_decide.mpr ⟨V.str.inj, fun h => by rw [h]⟩
  rw [← e]
  exact bop_ne rfl
theorem bop_inC {c : Nat} : Bop F w (compareOp .In) (rStr ⟨#[c]⟩) (rStr z) (rBool (decide (c ∈ z.cps.toList))) := bop_of op_inS fun _ _ q => ⟨c, z, rfl, rfl, q⟩
theorem bop_cat (hz : Rs.length + Ss.length ≤ 100000) : Bop F w (binaryOp .Add) (rLst Rs) (rLst Ss) (rLst (Rs ++ Ss)) := ⟨_, op_cat, fun x y G H at_ hx hy Q q => by
  obtain ⟨l, vs, rfl, e1, e2⟩ := hx
  obtain ⟨m, ws, rfl, e3, e4⟩ := hy
  refine ⟨l, m, vs, ws, rfl, rfl, at_.gh _ _ e1, at_.gh _ _ e3, Nat.le_trans (by rw [← e2.len, ← e4.len]; exact hz) (by decide), fun p hp => ?_⟩
  have st := Step.new (o := .lst (vs ++ ws)) at_.gh hp
  exact q _ _ _ st.gg (at_.step st) ⟨p, _, rfl, upd_same, (e2.app e4).up st.gg⟩⟩
theorem cop_all {bs : List Bool} (hc : F.X.calm = true) : Cop F w (.builtin "all") [rLst (bs.map rBool)] (rBool (bs.all _root_.id)) := ⟨_, cr_all hc, fun xs G H at_ hx Q q => by
  obtain ⟨x, rfl, p, vs, rfl, h1, h2⟩ := all1 hx
  have e : vs = bs.map V.bl := all2_vals (H := G) (by rw [List.map_map]; exact h2)
  rw [e] at h1
  exact ⟨p, bs, rfl, SqL.of (at_.gh _ _ h1), q _ G H (Same.refl _) at_ rfl⟩⟩
theorem cop_max2 {i j : Int} (hc : F.X.calm = true) : Cop F w (.builtin "max") [rInt i, rInt j] (rInt (if j > i then j else i)) := cop_of2 (call_max2 hc) fun _ _ q => ⟨i, j, rfl, q⟩
theorem cop_min2 {i j : Int} (hc : F.X.calm = true) : Cop F w (.builtin "min") [rInt i, rInt j] (rInt (if j < i then j else i)) := cop_of2 (call_min2 hc) fun _ _ q => ⟨i, j, rfl, q⟩
theorem cop_intS {n : Int} (h : PySem.intText? z = some n) (hz : z.length ≤ 640) : Cop F w (.type "int") [rStr z] (rInt n) := cop_of1 call_int_str fun _ _ q => ⟨z, n, rfl, h, hz, q⟩
theorem cop_listL : Cop F w (.type "list") [rLst Rs] (rLst Rs) := ⟨_, call_list_of, fun xs G H at_ hx Q q => by
  obtain ⟨x, rfl, p, vs, rfl, h1, h2⟩ := all1 hx
  refine ⟨p, vs, rfl, .inl (SqL.of (at_.gh _ _ h1)), fun l hl => ?_⟩
  have st := Step.new (o := .lst vs) at_.gh hl
  exact q _ _ _ st.gg (at_.step st) ⟨l, _, rfl, upd_same, h2.up st.gg⟩⟩
theorem cop_listT : Cop F w (.type "list") [rTup Rs] (rLst Rs) := ⟨_, call_list_of, fun xs G H at_ hx Q q => by
  obtain ⟨x, rfl, p, vs, rfl, h1, h2⟩ := all1 hx
  refine ⟨p, vs, rfl, .inr (SqT.of (at_.gh _ _ h1)), fun l hl => ?_⟩
  have st := Step.new (o := .lst vs) at_.gh hl
  exact q _ _ _ st.gg (at_.step st) ⟨l, _, rfl, upd_same, h2.up st.gg⟩⟩
theorem it_str {tg it : Expr} (he : ER F ρ ω it (rStr z) w1) : IT F ρ ω tg it (z.cps.toList.map fun c => rStr ⟨#[c]⟩) w1 := ⟨_, pi_str pe_w, fun σ G H at_ sl R k => he σ G H at_ sl _ fun v G2 H2 s a r => by
  refine ⟨z, r, k _ G2 H2 s a ⟨fun i G' H' s1 s2 hi => ?_, fun G' H' s1 s2 => ?_, fun i R G' H' x H'' s1 s2 hR y => ?_⟩⟩
  · rw [List.length_map, Array.length_toList] at hi
    exact hi
  · rw [List.length_map, Array.length_toList]
    exact Nat.le_refl _
  · obtain ⟨rfl, c, hc, rfl⟩ := y
    rw [List.getElem?_map, Array.getElem?_toList, hc] at hR
    cases hR
    exact ⟨G', Step.refl s2, rfl⟩⟩
end
/-! str(x) by an own def -/
section
variable {X : Cx} {C g k : Nat} {fd : FuncData} {ps : List Str} {sp : Sp}
def rOwnS (C : Addr) (sp : Sp) : List V → Hp → VK → Prop := fun xs H Q => ∃ a dx vs, xs = [.ref a] ∧ H a = some (.ins C dx vs) ∧ sp [.ref a] H (fun v H' => ∃ z, v = .str z ∧ Q (.str z) H') E0
theorem call_ownS (m : OwnM X.K C "__str__" g) (F : FnOk X.prog X.w X.K X.mg X.base (L2.CX X.prog X.w) k g fd ps sp) (hr : Room (k + 2) X.A) (hb : Binds X.K fd ps []) : CallR X (.type "str") (rOwnS C sp) := by
  intro pins s σ H xs us Q I r h
  obtain ⟨a, dx, vs, rfl, ha, q⟩ := h
  obtain ⟨u, rfl, ru⟩ := vals1 r
  cases (show u = Value.ref a from ru)
  obtain ⟨od, J⟩ := inst_at I ha
  have hr2 : Room k X.A.in1.in1 := (show Room (k + 1) X.A.in1 from hr.in1).in1
  refine PySem.W.kso_call hr2.units0 I.kIn J m.at_ m.fn (wpAny_mono (run_below (us := [.ref a]) (vs := [.ref a]) F hr2 I.env0.in1.in1 hb I (.cons rfl .nil) q _) (fun w s' z => ?_) fun _ _ x => x)
  obtain ⟨z', H', I', rz, y, ez, qz⟩ := z
  subst ez
  obtain ⟨t, rfl⟩ := rz
  exact ⟨.str y, H', I', ⟨t, rfl⟩, qz⟩
end
section
variable {F : Fx} {w : Ow} {C : Addr} {k : Nat} {pre : Pre} {fs : List (Str × Rl)} {z : Str}
theorem cop_oS (T : Ko F.X.prog F.X.w F.X.K F.X.mg F.X.base C "__str__" k pre) (hr : Room (k + 2) F.X.A) (hp : pre [rIns C fs] [] (.ok (rStr z)) []) : Cop F w (.type "str") [rIns C fs] (rStr z) := by
  obtain ⟨f, fd, ps, h1, h2, h3⟩ := T
  refine ⟨_, call_ownS h1 h3 hr h2, fun xs G H at_ hx Q q => ?_⟩
  obtain ⟨x, rfl, hx1⟩ := all1 hx
  obtain ⟨a, dx, vs, rfl, h1, h2⟩ := id hx1
  exact ⟨a, dx, vs, rfl, at_.gh _ _ h1, sp_ok0 (Rs := [rIns C fs]) at_ (mk1 hx1) hp fun v G2 H2 s a2 r => ⟨z, r, q _ G2 H2 s a2 rfl⟩⟩
end
end W1
set_option maxRecDepth 100000
set_option maxHeartbeats 2000000
namespace W1
open PySem PySem.Spec PyProof.Rows L2 TL NumText

/-! ### words of digits -/
def isD (c : Nat) : Bool := decide (48 ≤ c ∧ c ≤ 57)
def cntL (l : List Nat) : Bool := decide (l ≠ []) && l.all isD && (!decide (l.head? = some 48) || decide (l = [48]))
def topL (l : List Nat) : Bool := if l.take 1 = [45] then cntL (l.drop 1) && !decide (l = [45, 48]) else cntL l
def valL (l : List Nat) : Int := if l.take 1 = [45] then -((digitsVal (l.drop 1) : Nat) : Int) else ((digitsVal l : Nat) : Int)
/-- what is read of words: a fraction, or the place of the fault -/
def rdL : List (List Nat) → Except Int (Int × Int)
  | [] => .error 0
  | [a] => if topL a then .ok (valL a, 1) else .error 0
  | [a, b] => if topL a then (if cntL b && !decide (b = [48]) then .ok (valL a, valL b) else .error 1) else .error 0
  | _ :: _ :: _ :: _ => .error 0
theorem dig_of {l : List Nat} (h : l.all isD = true) : AllDigits l := fun c hc => of_decide_eq_true (List.all_eq_true.mp h c hc)
theorem cnt_of {l : List Nat} (h : cntL l = true) : AllDigits l ∧ l ≠ [] := by
  unfold cntL at h
  simp only [Bool.and_eq_true, decide_eq_true_eq] at h
  exact ⟨dig_of h.1.2, h.1.1⟩
theorem cnt_nominus {l : List Nat} (h : cntL l = true) : ¬ l.take 1 = [45] := fun e => by
  obtain ⟨h1, h2⟩ := cnt_of h
  cases l with
  | nil => exact h2 rfl
  | cons a l =>
    have e1 : a = 45 := by
      rw [List.take_succ_cons] at e
      exact (List.cons.inj e).1
    have := h1 a List.mem_cons_self
    omega
theorem val_cnt {l : List Nat} (h : cntL l = true) : valL l = ((digitsVal l : Nat) : Int) := by
  unfold valL
  rw [if_neg (cnt_nominus h)]
theorem int_top {z : Str} (h : topL (tl z) = true) (hz : z.length ≤ 640) : intText? z = some (valL (tl z)) := by
  unfold topL at h
  unfold valL
  by_cases hm : (tl z).take 1 = [45]
  · rw [if_pos hm] at h ⊢
    rw [Bool.and_eq_true] at h
    obtain ⟨h1, h2⟩ := cnt_of h.1
    refine intText_neg (cs := (tl z).drop 1) ?_ h1 h2 (Nat.le_trans hz (by decide))
    show tl z = 45 :: (tl z).drop 1
    cases e : tl z with
    | nil => rw [e] at hm; cases hm
    | cons a l =>
      rw [e, List.take_succ_cons] at hm
      rw [(List.cons.inj hm).1]
      rfl
  · rw [if_neg hm] at h ⊢
    obtain ⟨h1, h2⟩ := cnt_of h
    exact intText_digits h1 h2 (Nat.le_trans hz (by decide))
theorem int_cnt {z : Str} (h : cntL (tl z) = true) (hz : z.length ≤ 640) : intText? z = some (valL (tl z)) := by
  refine int_top ?_ hz
  unfold topL
  rw [if_neg (cnt_nominus h)]
  exact h
theorem fold_ge : ∀ (l : List Nat) (a : Nat), 1 ≤ a → 1 ≤ l.foldl (fun acc c => acc * 10 + (c - 48)) a
  | [], a, h => h
  | c :: l, a, h => by
    rw [List.foldl_cons]
    exact fold_ge l _ (by omega)
theorem fold_lt : ∀ (l : List Nat) (a : Nat), AllDigits l → l.foldl (fun acc c => acc * 10 + (c - 48)) a < (a + 1) * 10 ^ l.length
  | [], a, _ => by simp
  | c :: l, a, h => by
    rw [List.foldl_cons, List.length_cons]
    have hc := h c List.mem_cons_self
    have ih := fold_lt l (a * 10 + (c - 48)) fun d hd => h d (List.mem_cons_of_mem _ hd)
    refine Nat.lt_of_lt_of_le ih ?_
    rw [Nat.pow_succ, Nat.mul_comm (10 ^ l.length) 10, ← Nat.mul_assoc]
    exact Nat.mul_le_mul_right _ (by omega)
theorem val_pos {l : List Nat} (h : cntL l = true) (h0 : l ≠ [48]) : valL l ≠ 0 := by
  rw [val_cnt h]
  obtain ⟨h1, h2⟩ := cnt_of h
  cases l with
  | nil => exact absurd rfl h2
  | cons c l =>
    have hc := h1 c List.mem_cons_self
    have hne : c ≠ 48 := fun e => by
      unfold cntL at h
      rw [decide_eq_false h0, Bool.or_false, e] at h
      simp at h
    have : 1 ≤ digitsVal (c :: l) := by
      unfold digitsVal
      rw [List.foldl_cons]
      exact fold_ge l _ (by omega)
    omega
theorem val_lt {l : List Nat} (h : cntL l = true) (hl : l.length ≤ 640) : (valL l).natAbs < 2 ^ 2560 := by
  rw [val_cnt h]
  have := fold_lt l 0 (cnt_of h).1
  show (digitsVal l) < _
  unfold digitsVal
  refine Nat.lt_of_lt_of_le this ?_
  rw [Nat.zero_add, Nat.one_mul]
  refine Nat.le_trans (Nat.pow_le_pow_right (by decide) hl) ?_
  have e : (2 : Nat) ^ 2560 = (2 ^ 4) ^ 640 := by rw [← Nat.pow_mul]
  rw [e]
  exact Nat.pow_le_pow_left (by decide) 640
/-! cut at the slashes -/
theorem spl_len {S : List Nat} : ∀ (l acc : List Nat) (k : Nat), (∀ p ∈ spl S k acc l, p.length ≤ acc.length + l.length)
  | [], acc, k, p, hp => by
    rw [spl_nil] at hp
    rw [List.mem_singleton.mp hp]
    exact Nat.le_add_right _ _
  | c :: l, acc, 0, p, hp => by
    by_cases h : pre S (c :: l) = true
    · rw [spl_hit h] at hp
      rcases List.mem_cons.mp hp with rfl | hp
      · exact Nat.le_add_right _ _
      · have := spl_len l [] (S.length - 1) p hp
        rw [List.length_cons]
        simp only [List.length_nil] at this
        omega
    · rw [spl_miss (Bool.eq_false_iff.mpr h)] at hp
      have := spl_len l (acc ++ [c]) 0 p hp
      rw [List.length_append, List.length_singleton] at this
      rw [List.length_cons]
      omega
  | c :: l, acc, k + 1, p, hp => by
    have := spl_len l acc k p hp
    rw [List.length_cons]
    omega
theorem spl_ne {S : List Nat} : ∀ (l acc : List Nat) (k : Nat), spl S k acc l ≠ []
  | [], acc, k => by rw [spl_nil]; simp
  | c :: l, acc, 0 => by
    by_cases h : pre S (c :: l) = true
    · rw [spl_hit h]; simp
    · rw [spl_miss (Bool.eq_false_iff.mpr h)]; exact spl_ne l _ 0
  | c :: l, acc, k + 1 => spl_ne l acc k
/-- one sign: all of the text is there -/
theorem spl_sum {s : Nat} : ∀ (l acc : List Nat), ((spl [s] 0 acc l).map List.length).sum + (spl [s] 0 acc l).length = acc.length + l.length + 1
  | [], acc => by rw [spl_nil]; simp
  | c :: l, acc => by
    by_cases h : pre [s] (c :: l) = true
    · rw [spl_hit h]
      have := spl_sum (s := s) l []
      simp only [List.map_cons, List.sum_cons, List.length_cons, List.length_nil] at this ⊢
      show acc.length + ((spl [s] 0 [] l).map List.length).sum + ((spl [s] 0 [] l).length + 1) = _
      omega
    · rw [spl_miss (Bool.eq_false_iff.mpr h)]
      have := spl_sum (s := s) l (acc ++ [c])
      rw [List.length_append, List.length_singleton] at this
      rw [List.length_cons]
      omega
abbrev slash : Str := Str.ofString "/"
theorem tl_slash : tl slash = [47] := by rw [tl_ofString]; rfl
theorem slash_kind : slash.cps.all (· < 256) = true := by decide +kernel
def wordsOf (z : Str) : List Str := Txt.split z slash
theorem words_tl (z : Str) : (wordsOf z).map tl = spl [47] 0 [] (tl z) := by
  have h := split_spl z slash (by rw [tl_slash]; simp) (kind_ok slash_kind)
  rw [tl_slash] at h
  exact h
theorem words_ne (z : Str) : wordsOf z ≠ [] := fun e => by
  have := words_tl z
  rw [e] at this
  exact spl_ne _ _ _ this.symm
theorem words_le {z w : Str} (h : w ∈ wordsOf z) : w.length ≤ z.length := by
  rw [len_tl, len_tl]
  have := spl_len (S := [47]) (tl z) [] 0 (tl w) (by rw [← words_tl]; exact List.mem_map_of_mem h)
  simpa using this
theorem words_sum (z : Str) : ((wordsOf z).map (·.length)).sum + (wordsOf z).length = z.length + 1 := by
  have h := spl_sum (s := 47) (tl z) []
  rw [← words_tl, List.length_map, List.map_map] at h
  rw [len_tl z]
  have e : (wordsOf z).map (·.length) = (wordsOf z).map (List.length ∘ tl) := List.map_congr_left fun w _ => len_tl w
  rw [e]
  simpa using h
/-- what is read of a text -/
def rdS (z : Str) : Except Int (Int × Int) := rdL ((wordsOf z).map tl)
theorem rd_nz {z : Str} {a b : Int} (h : rdS z = .ok (a, b)) (hz : z.length ≤ 640) : b ≠ 0 ∧ b.natAbs < 2 ^ 2560 := by
  unfold rdS at h
  have hw : ∀ l ∈ (wordsOf z).map tl, l.length ≤ 640 := fun l hl => by
    obtain ⟨w, hw, rfl⟩ := List.mem_map.mp hl
    rw [← len_tl]
    exact Nat.le_trans (words_le hw) hz
  generalize (wordsOf z).map tl = ls at h hw
  match ls, h, hw with
  | [], h, _ => cases h
  | [x], h, _ =>
    replace h : (if topL x then Except.ok (valL x, 1) else .error 0 : Except Int (Int × Int)) = Except.ok (a, b) := h
    split at h
    · cases h
      exact ⟨by decide, Nat.lt_of_lt_of_le (show 1 < 2 ^ 1 by decide) (Nat.pow_le_pow_right (by decide) (by decide))⟩
    · cases h
  | [x, y], h, hw =>
    replace h : (if topL x then (if cntL y && !decide (y = [48]) then Except.ok (valL x, valL y) else .error 1) else .error 0 : Except Int (Int × Int)) = Except.ok (a, b) := h
    split at h
    · split at h
      · next hy =>
        cases h
        rw [Bool.and_eq_true] at hy
        exact ⟨val_pos hy.1 (by simpa using hy.2), val_lt hy.1 (hw y (List.mem_cons_of_mem _ List.mem_cons_self))⟩
      · cases h
    · cases h
  | _ :: _ :: _ :: _, h, _ => cases h
/-! the text of a number, read -/
def numT (i : Int) : Str := Str.ofString (toString i)
theorem tl_numT (i : Int) : tl (numT i) = if i < 0 then 45 :: numL i.natAbs else numL i.natAbs := by
  unfold numT
  cases i with
  | ofNat n =>
    exact (tl_num n).trans (if_neg (show ¬ Int.ofNat n < 0 from Int.not_lt.mpr (Int.natCast_nonneg n))).symm
  | negSucc n =>
    rw [if_pos (by omega), tl_ofString]
    show (toString (Int.negSucc n)).toList.map Char.toNat = _
    have e : toString (Int.negSucc n) = "-" ++ toString (n + 1) := rfl
    rw [e, String.toList_append, List.map_append]
    have h := tl_num (n + 1)
    rw [tl_ofString] at h
    have e2 : toString ((n + 1 : Nat) : Int) = toString (n + 1) := rfl
    rw [e2] at h
    rw [h]
    rfl
theorem numL_head {n : Nat} (h : 0 < n) : (numL n).head? ≠ some 48 := by
  induction n using Nat.strongRecOn with
  | _ n ih =>
    by_cases h10 : n < 10
    · rw [numL_lt h10]
      simp
      omega
    · rw [numL_step (by omega)]
      have := ih (n / 10) (by omega) (by omega)
      rw [List.head?_append]
      cases e : (numL (n / 10)).head? with
      | none => exact absurd (List.head?_eq_none_iff.mp e) (numL_ne _)
      | some c => rw [e] at this; simpa using this
theorem cnt_num (n : Nat) : cntL (numL n) = true := by
  unfold cntL
  rw [decide_eq_true (numL_ne n), Bool.true_and]
  have h : (numL n).all isD = true := List.all_eq_true.mpr fun c hc => decide_eq_true (numL_digits n c hc)
  rw [h, Bool.true_and]
  by_cases h0 : n = 0
  · subst h0
    rw [numL_lt (by decide)]
    rfl
  · rw [decide_eq_false (numL_head (by omega))]
    rfl
theorem num_48 {n : Nat} (h : numL n = [48]) : n = 0 := by
  have e := numL_val n
  rw [h] at e
  exact e.symm
theorem top_num (i : Int) : topL (tl (numT i)) = true := by
  rw [tl_numT]
  unfold topL
  by_cases h : i < 0
  · rw [if_pos h, if_pos (show List.take 1 (45 :: numL i.natAbs) = [45] from rfl)]
    show (cntL (numL i.natAbs) && !decide (45 :: numL i.natAbs = [45, 48])) = true
    rw [cnt_num, decide_eq_false (fun e => by
      have := num_48 (List.cons.inj e).2
      omega)]
    rfl
  · rw [if_neg h, if_neg (cnt_nominus (cnt_num _))]
    exact cnt_num _
theorem val_num (i : Int) : valL (tl (numT i)) = i := by
  rw [tl_numT]
  by_cases h : i < 0
  · rw [if_pos h]
    unfold valL
    rw [if_pos (show List.take 1 (45 :: numL i.natAbs) = [45] from rfl)]
    show -((digitsVal (numL i.natAbs) : Nat) : Int) = i
    rw [numL_val]
    omega
  · rw [if_neg h, val_cnt (cnt_num _), numL_val]
    omega
theorem num_free (i : Int) : 47 ∉ tl (numT i) := by
  rw [tl_numT]
  split
  · intro h
    rcases List.mem_cons.mp h with h | h
    · cases h
    · exact numL_free (.inl (by decide)) h
  · exact numL_free (.inl (by decide))
theorem words_one {z : Str} (h : 47 ∉ tl z) : wordsOf z = [z] := by
  have e := words_tl z
  rw [spl_last1 h] at e
  exact map_tl_inj (by rw [e]; rfl)
theorem words_two {x y : Str} (h1 : 47 ∉ tl x) (h2 : 47 ∉ tl y) : wordsOf (x ++ slash ++ y) = [x, y] := by
  have e := words_tl (x ++ slash ++ y)
  rw [tl_append, tl_append, tl_slash, List.append_assoc, spl_part1 (S := []) h1, spl_last1 h2] at e
  exact map_tl_inj (by rw [e]; rfl)
theorem rd_one (i : Int) : rdS (numT i) = .ok (i, 1) := by
  unfold rdS
  rw [words_one (num_free i)]
  show (if topL (tl (numT i)) then Except.ok (valL (tl (numT i)), 1) else .error 0) = _
  rw [top_num, val_num]
  rfl
theorem rd_two (i : Int) (n : Nat) (h : n ≠ 0) : rdS (numT i ++ slash ++ numT n) = .ok (i, (n : Int)) := by
  unfold rdS
  rw [words_two (num_free i) (num_free n)]
  show (if topL (tl (numT i)) then (if cntL (tl (numT n)) && !decide (tl (numT n) = [48]) then Except.ok (valL (tl (numT i)), valL (tl (numT n))) else .error 1) else .error 0) = _
  have e : tl (numT (n : Int)) = numL n := tl_num n
  rw [top_num, val_num, val_num, e, cnt_num, decide_eq_false (fun z => h (num_48 z))]
  rfl
theorem num_len (i : Int) {k : Nat} (hk : 0 < k) (h : i.natAbs < 10 ^ k) : (numT i).length ≤ k + 1 := by
  rw [len_tl, tl_numT]
  have := numL_len hk h
  split
  · rw [List.length_cons]; omega
  · omega
end W1
set_option maxRecDepth 100000
set_option maxHeartbeats 2000000
set_option exponentiation.threshold 20000
namespace W1
open PySem PySem.Spec PyProof.Rows L2 TL NumText

/-! ### the common draws -/
theorem mulB {x y : Int} {m n k : Nat} (hx : x.natAbs < 2 ^ m) (hy : y.natAbs < 2 ^ n) (h : m + n ≤ k := by decide) : (x * y).natAbs < 2 ^ k := by
  rw [Int.natAbs_mul]
  exact Nat.lt_of_lt_of_le (mul_lt2 hx hy) (Nat.pow_le_pow_right (by decide) h)
theorem addB {x y : Int} {m n k : Nat} (hx : x.natAbs < 2 ^ m) (hy : y.natAbs < 2 ^ n) (h1 : m < k := by decide) (h2 : n < k := by decide) : (x + y).natAbs < 2 ^ k :=
  Nat.lt_of_le_of_lt (Int.natAbs_add_le _ _) (add_lt2 hx hy h1 h2)
theorem negB {x : Int} {n : Nat} (h : x.natAbs < 2 ^ n) : (-x).natAbs < 2 ^ n := by rw [Int.natAbs_neg]; exact h
theorem upB {x : Int} {m n : Nat} (h : x.natAbs < 2 ^ m) (l : m ≤ n := by decide) : x.natAbs < 2 ^ n := Nat.lt_of_lt_of_le h (Nat.pow_le_pow_right (by decide) l)
theorem lt9000 {a n : Nat} (h : a < 2 ^ n) (hn : n ≤ 9000) : a < 2 ^ 9000 := Nat.lt_of_lt_of_le h (Nat.pow_le_pow_right (by decide) hn)
theorem log_lt {a n m : Nat} (h : a < 2 ^ n) (hn : n ≤ m) (hm : 0 < m) : a.log2 < m := by
  rcases Nat.eq_zero_or_pos a with e | e
  · subst e; exact hm
  · exact Nat.lt_of_lt_of_le ((Nat.log2_lt (by omega)).mpr h) hn
/-! texts and their signs -/
theorem str_iff {x y : Str} : x = y ↔ tl x = tl y := ⟨fun h => by rw [h], ext_tl⟩
theorem dec_str {x y : Str} : decide (x = y) = decide (tl x = tl y) := decide_eq_decide.mpr str_iff
theorem tl_one (c : Nat) : tl ⟨#[c]⟩ = [c] := rfl
theorem sIx_some1 (n d : Nat) : HT.sIx n d (some 1) = min 1 n := rfl
theorem tl_cut (z : Str) (lo hi : Option Int) : tl (cutS z lo hi) = ((tl z).drop (HT.sIx (tl z).length 0 lo)).take (HT.sIx (tl z).length (tl z).length hi - HT.sIx (tl z).length 0 lo) := by
  unfold cutS
  rw [len_tl]
theorem tl_head (z : Str) : tl (cutS z none (some 1)) = (tl z).take 1 := by
  rw [tl_cut, HT.sIx_none, sIx_some1]
  cases tl z with
  | nil => rfl
  | cons a l => simp
theorem tl_rest (z : Str) : tl (cutS z (some 1) none) = (tl z).drop 1 := by
  rw [tl_cut, HT.sIx_none, sIx_some1]
  cases tl z with
  | nil => rfl
  | cons a l => simp [List.take_of_length_le]
theorem cut_len (z : Str) (lo hi : Option Int) : (cutS z lo hi).length ≤ z.length := by
  rw [len_tl, tl_cut, len_tl, List.length_take, List.length_drop]
  omega
/-! f"{e1}..{e2}" of ints -/
section
variable {F : Fx} {ρ : Ty} {ω w w1 w2 : Ow} {a b : Expr} {i j : Int} {t : Str} {p1 p2 p3 p4 : Pos} {k : Nat} {c : Nat} {z : Str}
theorem app_empty (a : Str) : Str.empty ++ a = a := ext_tl (by rw [tl_append]; rfl)
theorem er_f3 (ha : ER F ρ ω a (rInt i) w1) (hb : ER F ρ w1 b (rInt j) w2) (hi : i.natAbs.log2 < 1920) (hj : j.natAbs.log2 < 1920) (ht : t.length ≤ 1000) : ER F ρ ω (.JoinedStr [.FormattedValue a (-1) none p1, .Constant (.str t) k p2, .FormattedValue b (-1) none p3] p4) (rStr (numT i ++ t ++ numT j)) w2 := fun σ G H at_ sl Q q => by
  have l1 := int_text_len_1921 hi
  have l2 := int_text_len_1921 hj
  refine ew_of (pe_joined (.cons (pe_fmt pe_w) (.cons pe_str (.cons (pe_fmt pe_w) .nil)))) (ha σ G H at_ sl _ fun x G1 H1 s1 a1 r1 => .inr ⟨i, r1, hi, ⟨_, rfl, ?_, t, rfl, ?_, ?_⟩⟩)
  · rw [app_empty]
    exact Nat.le_trans l1 (by decide)
  · rw [app_empty, strlen_app]
    exact Nat.le_trans (Nat.add_le_add l1 ht) (by decide)
  · refine hb σ G1 H1 a1 (sl.up s1) _ fun y G2 H2 s2 a2 r2 => .inr ⟨j, r2, hj, ⟨_, rfl, ?_, ?_⟩⟩
    · rw [app_empty, strlen_app, strlen_app]
      exact Nat.le_trans (Nat.add_le_add (Nat.add_le_add l1 ht) l2) (by decide)
    · have := q (.str (numT i ++ t ++ numT j)) G2 H2 (s1.trans s2) a2 rfl
      rw [app_empty]
      exact this
theorem bop_niC : Bop F w (compareOp .NotIn) (rStr ⟨#[c]⟩) (rStr z) (rBool (!decide (c ∈ z.cps.toList))) := bop_of op_notInS fun _ _ q => ⟨c, z, rfl, rfl, q⟩
end
theorem any_of {e : Nat → Bool} : ∀ {n i : Nat} (j : Nat), i ≤ j → j < i + n → e j = true → W1Q.anyFrom e i n = true
  | 0, i, j, h1, h2, _ => by omega
  | n + 1, i, j, h1, h2, h3 => by
    unfold W1Q.anyFrom
    by_cases h : i = j
    · subst h
      rw [h3, Bool.true_or]
    · rw [any_of (n := n) (i := i + 1) j (by omega) (by omega) h3, Bool.or_true]
theorem all_of {e : Nat → Bool} : ∀ {n i : Nat}, (∀ j, i ≤ j → j < i + n → e j = true) → W1Q.allFrom e i n = true
  | 0, i, _ => rfl
  | n + 1, i, h => by
    unfold W1Q.allFrom
    rw [h i (by omega) (by omega), Bool.true_and]
    exact all_of fun j h1 h2 => h j (by omega) (by omega)
section
variable {F : Fx} {w : Ow} {Rs : List Rl}
/-- l != [] -/
theorem bop_neE (hr : Room 1 F.X.A) : Bop F w (compareOp .NotEq) (rLst Rs) (rLst []) (rBool (!decide (Rs = []))) := by
  have h := bop_neL (F := F) (w := w) (Rs := Rs) (Ss := []) (e := fun _ => true) (n := 0) (fun i R S _ h2 => by simp at h2) hr
  cases Rs with
  | nil => exact h
  | cons a l => exact h
end
theorem list_eqV {F : Fx} {w : Ow} {xs ys : List V} (hx : ∀ x ∈ xs, flatV x = true) (hy : ∀ y ∈ ys, flatV y = true) (hr : Room 1 F.X.A) :
    ∃ e : Nat → Bool, (∀ (i : Nat) x y, xs[i]? = some x → ys[i]? = some y → e i = eqV x y) ∧ Bop F w (compareOp .Eq) (rLst (xs.map rEqV)) (rLst (ys.map rEqV)) (rBool (decide (xs.length = ys.length) && W1Q.allFrom e 0 xs.length)) := by
  refine ⟨fun i => match xs[i]?, ys[i]? with | some x, some y => eqV x y | _, _ => true, fun i x y h1 h2 => by simp only [h1, h2], ?_⟩
  have h := bop_eqL (F := F) (w := w) (Rs := xs.map rEqV) (Ss := ys.map rEqV) (n := 0) (e := fun i => match xs[i]?, ys[i]? with | some x, some y => eqV x y | _, _ => true) (fun i R S h1 h2 => ?_) hr
  · rw [List.length_map, List.length_map] at h
    exact h
  · rw [List.getElem?_map] at h1 h2
    cases e1 : xs[i]? with
    | none => rw [e1] at h1; cases h1
    | some x =>
      cases e2 : ys[i]? with
      | none => rw [e2] at h2; cases h2
      | some y =>
        rw [e1] at h1
        rw [e2] at h2
        cases h1
        cases h2
        exact eqb_val (hx x (List.mem_of_getElem? e1)) (hy y (List.mem_of_getElem? e2))
theorem list_same {F : Fx} {w : Ow} {xs : List V} (hx : ∀ x ∈ xs, flatV x = true) (hs : ∀ x ∈ xs, eqV x x = true) (hr : Room 1 F.X.A) : Bop F w (compareOp .Eq) (rLst (xs.map rEqV)) (rLst (xs.map rEqV)) (rBool true) := by
  obtain ⟨e, h1, h2⟩ := list_eqV (F := F) (w := w) hx hx hr
  rw [decide_eq_true rfl, Bool.true_and, all_of fun j _ hj => by
    have hj' : j < xs.length := by omega
    rw [h1 j _ _ (List.getElem?_eq_getElem hj') (List.getElem?_eq_getElem hj')]
    exact hs _ (List.getElem_mem hj')] at h2
  exact h2
end W1
set_option maxRecDepth 100000
set_option maxHeartbeats 2000000
namespace W1
open PySem PySem.Spec PyProof.Rows L2 NdefX
def top (i : Nat) : Stmt := PySem.Challenge.pw_waysofmaking_k12_texts_of_fractions.main.body.getD i (.Pass ⟨0, 0, 0, 0⟩)
abbrev s__wall : Stmt := top 0
abbrev N__wall : List Str := ["k"]
abbrev P__wall : List Str := ["k"]
theorem c__wall : FnScope N__wall P__wall (defScope s__wall) := ⟨rfl, rfl, rfl, by decide +kernel, rfl, by decide +kernel, by decide +kernel⟩
abbrev s_BadNumber___init__ : Stmt := inClass (top 3) 0
abbrev N_BadNumber___init__ : List Str := ["self", "n"]
abbrev P_BadNumber___init__ : List Str := ["self", "n"]
theorem c_BadNumber___init__ : NScope (["self", "n", "__class__"] : List Str) P_BadNumber___init__ ["__class__"] (defScope s_BadNumber___init__) := nscope_by (by decide +kernel)
abbrev s_BadText___init__ : Stmt := inClass (top 4) 0
abbrev N_BadText___init__ : List Str := ["self", "at"]
abbrev P_BadText___init__ : List Str := ["self", "at"]
theorem c_BadText___init__ : NScope (["self", "at", "__class__"] : List Str) P_BadText___init__ ["__class__"] (defScope s_BadText___init__) := nscope_by (by decide +kernel)
abbrev s_common : Stmt := top 7
abbrev N_common : List Str := ["a", "b", "one", "other"]
abbrev P_common : List Str := ["a", "b"]
theorem c_common : FnScope N_common P_common (defScope s_common) := ⟨rfl, rfl, rfl, by decide +kernel, rfl, by decide +kernel, by decide +kernel⟩
abbrev s_is_count : Stmt := top 8
abbrev N_is_count : List Str := ["word", "sign"]
abbrev P_is_count : List Str := ["word"]
theorem c_is_count : FnScope N_is_count P_is_count (defScope s_is_count) := ⟨rfl, rfl, rfl, by decide +kernel, rfl, by decide +kernel, by decide +kernel⟩
abbrev s_is_top : Stmt := top 9
abbrev N_is_top : List Str := ["word"]
abbrev P_is_top : List Str := ["word"]
theorem c_is_top : FnScope N_is_top P_is_top (defScope s_is_top) := ⟨rfl, rfl, rfl, by decide +kernel, rfl, by decide +kernel, by decide +kernel⟩
abbrev s_Ratio___init__ : Stmt := inClass (top 10) 0
abbrev N_Ratio___init__ : List Str := ["self", "top", "bottom", "divisor"]
abbrev P_Ratio___init__ : List Str := ["self", "top", "bottom"]
theorem c_Ratio___init__ : FnScope N_Ratio___init__ P_Ratio___init__ (defScope s_Ratio___init__) := ⟨rfl, rfl, rfl, by decide +kernel, rfl, by decide +kernel, by decide +kernel⟩
abbrev s_Ratio_whole : Stmt := inClass (top 10) 1
abbrev N_Ratio_whole : List Str := ["cls", "n"]
abbrev P_Ratio_whole : List Str := ["cls", "n"]
theorem c_Ratio_whole : FnScope N_Ratio_whole P_Ratio_whole (defScope s_Ratio_whole) := ⟨rfl, rfl, rfl, by decide +kernel, rfl, by decide +kernel, by decide +kernel⟩
abbrev s_Ratio_read : Stmt := inClass (top 10) 2
abbrev N_Ratio_read : List Str := ["cls", "text", "words"]
abbrev P_Ratio_read : List Str := ["cls", "text"]
theorem c_Ratio_read : FnScope N_Ratio_read P_Ratio_read (defScope s_Ratio_read) := ⟨rfl, rfl, rfl, by decide +kernel, rfl, by decide +kernel, by decide +kernel⟩
abbrev s_Ratio___add__ : Stmt := inClass (top 10) 3
abbrev N_Ratio___add__ : List Str := ["self", "other"]
abbrev P_Ratio___add__ : List Str := ["self", "other"]
theorem c_Ratio___add__ : FnScope N_Ratio___add__ P_Ratio___add__ (defScope s_Ratio___add__) := ⟨rfl, rfl, rfl, by decide +kernel, rfl, by decide +kernel, by decide +kernel⟩
abbrev s_Ratio___sub__ : Stmt := inClass (top 10) 4
abbrev N_Ratio___sub__ : List Str := ["self", "other"]
abbrev P_Ratio___sub__ : List Str := ["self", "other"]
theorem c_Ratio___sub__ : FnScope N_Ratio___sub__ P_Ratio___sub__ (defScope s_Ratio___sub__) := ⟨rfl, rfl, rfl, by decide +kernel, rfl, by decide +kernel, by decide +kernel⟩
abbrev s_Ratio___neg__ : Stmt := inClass (top 10) 5
abbrev N_Ratio___neg__ : List Str := ["self"]
abbrev P_Ratio___neg__ : List Str := ["self"]
theorem c_Ratio___neg__ : FnScope N_Ratio___neg__ P_Ratio___neg__ (defScope s_Ratio___neg__) := ⟨rfl, rfl, rfl, by decide +kernel, rfl, by decide +kernel, by decide +kernel⟩
abbrev s_Ratio___mul__ : Stmt := inClass (top 10) 6
abbrev N_Ratio___mul__ : List Str := ["self", "other"]
abbrev P_Ratio___mul__ : List Str := ["self", "other"]
theorem c_Ratio___mul__ : FnScope N_Ratio___mul__ P_Ratio___mul__ (defScope s_Ratio___mul__) := ⟨rfl, rfl, rfl, by decide +kernel, rfl, by decide +kernel, by decide +kernel⟩
abbrev s_Ratio___eq__ : Stmt := inClass (top 10) 7
abbrev N_Ratio___eq__ : List Str := ["self", "other"]
abbrev P_Ratio___eq__ : List Str := ["self", "other"]
theorem c_Ratio___eq__ : FnScope N_Ratio___eq__ P_Ratio___eq__ (defScope s_Ratio___eq__) := ⟨rfl, rfl, rfl, by decide +kernel, rfl, by decide +kernel, by decide +kernel⟩
abbrev s_Ratio___bool__ : Stmt := inClass (top 10) 8
abbrev N_Ratio___bool__ : List Str := ["self"]
abbrev P_Ratio___bool__ : List Str := ["self"]
theorem c_Ratio___bool__ : FnScope N_Ratio___bool__ P_Ratio___bool__ (defScope s_Ratio___bool__) := ⟨rfl, rfl, rfl, by decide +kernel, rfl, by decide +kernel, by decide +kernel⟩
abbrev s_Ratio___str__ : Stmt := inClass (top 10) 9
abbrev N_Ratio___str__ : List Str := ["self"]
abbrev P_Ratio___str__ : List Str := ["self"]
theorem c_Ratio___str__ : FnScope N_Ratio___str__ P_Ratio___str__ (defScope s_Ratio___str__) := ⟨rfl, rfl, rfl, by decide +kernel, rfl, by decide +kernel, by decide +kernel⟩
abbrev s_Ratio_quotient : Stmt := inClass (top 10) 10
abbrev N_Ratio_quotient : List Str := ["self", "other"]
abbrev P_Ratio_quotient : List Str := ["self", "other"]
theorem c_Ratio_quotient : FnScope N_Ratio_quotient P_Ratio_quotient (defScope s_Ratio_quotient) := ⟨rfl, rfl, rfl, by decide +kernel, rfl, by decide +kernel, by decide +kernel⟩
abbrev s_Ratio_under : Stmt := inClass (top 10) 11
abbrev N_Ratio_under : List Str := ["self", "other"]
abbrev P_Ratio_under : List Str := ["self", "other"]
theorem c_Ratio_under : FnScope N_Ratio_under P_Ratio_under (defScope s_Ratio_under) := ⟨rfl, rfl, rfl, by decide +kernel, rfl, by decide +kernel, by decide +kernel⟩
abbrev s__law_bag : Stmt := top 12
abbrev N__law_bag : List Str := ["_law_cell"]
abbrev P__law_bag : List Str := ["_law_cell"]
theorem c__law_bag : FnScope N__law_bag P__law_bag (defScope s__law_bag) := ⟨rfl, rfl, rfl, by decide +kernel, rfl, by decide +kernel, by decide +kernel⟩
abbrev s__law_draw : Stmt := top 13
abbrev N__law_draw : List Str := ["_law_pool", "_law_limit", "_law_drawn", "_law_mixed"]
abbrev P__law_draw : List Str := ["_law_pool", "_law_limit"]
theorem c__law_draw : FnScope N__law_draw P__law_draw (defScope s__law_draw) := ⟨rfl, rfl, rfl, by decide +kernel, rfl, by decide +kernel, by decide +kernel⟩
abbrev s__law_at_of : Stmt := top 14
abbrev N__law_at_of : List Str := ["_law_script", "_law_k"]
abbrev P__law_at_of : List Str := ["_law_script", "_law_k"]
theorem c__law_at_of : FnScope N__law_at_of P__law_at_of (defScope s__law_at_of) := ⟨rfl, rfl, rfl, by decide +kernel, rfl, by decide +kernel, by decide +kernel⟩
abbrev s__law_count_of : Stmt := top 15
abbrev N__law_count_of : List Str := ["_law_word", "_law_sign"]
abbrev P__law_count_of : List Str := ["_law_word"]
theorem c__law_count_of : FnScope N__law_count_of P__law_count_of (defScope s__law_count_of) := ⟨rfl, rfl, rfl, by decide +kernel, rfl, by decide +kernel, by decide +kernel⟩
abbrev s__law_due_of : Stmt := top 16
abbrev N__law_due_of : List Str := ["_law_text", "_law_words", "_law_front", "_law_top", "_law_bottom"]
abbrev P__law_due_of : List Str := ["_law_text"]
theorem c__law_due_of : FnScope N__law_due_of P__law_due_of (defScope s__law_due_of) := ⟨rfl, rfl, rfl, by decide +kernel, rfl, by decide +kernel, by decide +kernel⟩
abbrev s__law_told_of : Stmt := top 17
abbrev N__law_told_of : List Str := ["_law_text", "_law_ratio", "e"]
abbrev P__law_told_of : List Str := ["_law_text"]
theorem c__law_told_of : FnScope N__law_told_of P__law_told_of (defScope s__law_told_of) := ⟨rfl, rfl, rfl, by decide +kernel, rfl, by decide +kernel, by decide +kernel⟩
abbrev s__law_fits : Stmt := top 18
abbrev N__law_fits : List Str := ["_law_text", "_law_due", "_law_told"]
abbrev P__law_fits : List Str := ["_law_text"]
theorem c__law_fits : FnScope N__law_fits P__law_fits (defScope s__law_fits) := ⟨rfl, rfl, rfl, by decide +kernel, rfl, by decide +kernel, by decide +kernel⟩
abbrev s__law_changed : Stmt := top 19
abbrev N__law_changed : List Str := ["_law_pool", "_law_text", "_law_which", "_law_at"]
abbrev P__law_changed : List Str := ["_law_pool", "_law_text"]
theorem c__law_changed : FnScope N__law_changed P__law_changed (defScope s__law_changed) := ⟨rfl, rfl, rfl, by decide +kernel, rfl, by decide +kernel, by decide +kernel⟩
abbrev s_law : Stmt := top 20
abbrev N_law : List Str := ["_law_script", "_law_pool", "_law_size", "_law_top", "_law_bottom", "_law_ratio", "_law_text", "_law_cell", "_law_tried", "_law_count"]
abbrev P_law : List Str := ["_law_script"]
theorem c_law : FnScope N_law P_law (defScope s_law) := ⟨rfl, rfl, rfl, by decide +kernel, rfl, by decide +kernel, by decide +kernel⟩
end W1
set_option maxRecDepth 100000
set_option maxHeartbeats 2000000
namespace W1
open PySem PySem.Spec PyProof.Rows L2 NdefX

/-! ### the fractions' defs -/
/-- a promise by data: nothing handed over -/
def pOk {α : Type} (D : α → Prop) (A : α → List Rl) (R : α → Rl) : Pre := fun Rs w o w' => ∃ a, D a ∧ Rs = A a ∧ w = [] ∧ w' = [] ∧ o = .ok (R a)
def pEr {α : Type} (D : α → Prop) (A : α → List Rl) (P : α → Er) : Pre := fun Rs w o w' => ∃ a, D a ∧ Rs = A a ∧ w = [] ∧ w' = [] ∧ o = .error (P a)
def pOr (p q : Pre) : Pre := fun Rs w o w' => p Rs w o w' ∨ q Rs w o w'
section
variable {α : Type} {D : α → Prop} {A : α → List Rl} {R : α → Rl} {P : α → Er}
theorem pok (a : α) (h : D a) : pOk D A R (A a) [] (.ok (R a)) [] := ⟨a, h, rfl, rfl, rfl, rfl⟩
theorem per (a : α) (h : D a) : pEr D A P (A a) [] (.error (P a)) [] := ⟨a, h, rfl, rfl, rfl, rfl⟩
end
theorem bt_abs : bootBuiltins "abs" = some (.builtin "abs") := by decide +kernel
theorem bt_len : bootBuiltins "len" = some (.builtin "len") := by decide +kernel
theorem bt_isi : bootBuiltins "isinstance" = some (.builtin "isinstance") := by decide +kernel
theorem bt_int : bootBuiltins "int" = some (.type "int") := by decide +kernel
theorem bt_bool : bootBuiltins "bool" = some (.type "bool") := by decide +kernel
theorem bt_str : bootBuiltins "str" = some (.type "str") := by decide +kernel
theorem bt_tup : bootBuiltins "tuple" = some (.type "tuple") := by decide +kernel
def pCommon : Pre := pOk (α := Int × Int) (fun _ => True) (fun a => [rInt a.1, rInt a.2]) (fun a => rInt (Int.gcd a.1 a.2 : Int))
section
variable {P : Program} {w : World} {K : PySem.W.Frag} {mg : Str → Option Value} {base : Heap}
theorem kf_common {f : Addr} {fd : FuncData} (Fn : Fun K "common" "common" s_common f fd) (abs : mg "abs" = none) : FnOk P w K mg base (L2.CX P w) 1 f fd P_common (spM pCommon) := by
  refine fn_ok Fn c_common (fun _ _ _ _ ⟨a, _, h, _⟩ => by rw [h]; rfl) ?_
  rintro cdv A outer s H E ⟨_, G0, H0, M, W, tk⟩ hr rfl Rs ω o ω' ⟨⟨a, b⟩, -, rfl, rfl, rfl, rfl⟩
  refine hb_par 2 3 (ar_cons (er_callB cop_abs rfl abs bt_abs (ar_cons (er_var 0 rfl) ar_nil)) (ar_cons (er_callB cop_abs rfl abs bt_abs (ar_cons (er_var 1 rfl) ar_nil)) ar_nil)) ?_ c_common.nd
  rw [abs_nat, abs_nat]
  refine hb_while (fun m ρ ω => ∃ x y : Nat, m = y ∧ ω = [] ∧ Int.gcd (x : Int) (y : Int) = Int.gcd a b ∧ ρ = [some (rInt a), some (rInt b), some (rInt x), some (rInt y)]) b.natAbs ⟨a.natAbs, b.natAbs, rfl, rfl, by simp [Int.gcd], rfl⟩ ?_ (passes_of rfl)
  rintro m ρ ω ⟨x, y, rfl, rfl, hg, rfl⟩
  refine ⟨_, _, tr_cmp (er_var 3 rfl) er_int bop_neI, fun hb => ?_, fun hb => ?_⟩
  · have hy : m ≠ 0 := by simpa using hb
    refine hb_par 2 3 (ar_cons (er_var 3 rfl) (ar_cons (er_bin (er_var 2 rfl) (er_var 3 rfl) (bop_mod (by omega))) ar_nil)) (hb_nil ?_) c_common.nd
    rw [fmod_nat]
    exact ⟨x % m, Nat.mod_lt _ (by omega), m, x % m, rfl, rfl, by rw [gcd_step _ _ hy]; exact hg, rfl⟩
  · have hy : m = 0 := by simpa using hb
    subst hy
    refine hb_ret (er_var 2 rfl) ⟨_, _, rfl, fun v G h => ?_, rfl⟩
    rw [show v = V.int (x : Int) from h]
    show V.int (x : Int) = V.int (Int.gcd a b : Int)
    rw [← hg]
    simp
end
end W1
set_option maxRecDepth 100000
set_option maxHeartbeats 2000000
namespace W1
open PySem PySem.Spec PyProof.Rows L2 NdefX

def rRat (C : Addr) (q : Rat) : Rl := rIns C [("top", rInt q.num), ("bottom", rInt (q.den : Int))]
def small (q : Rat) : Prop := Sz 4000 q
theorem small.t {q : Rat} (h : small q) : q.num.natAbs < 2 ^ 4000 := h.1
theorem small.b {q : Rat} (h : small q) : (q.den : Int).natAbs < 2 ^ 4000 := sz_int h
theorem den_ne {q : Rat} : (q.den : Int) ≠ 0 := Int.natCast_ne_zero.mpr q.den_nz
/-- what the written part says of the fractions' class, at C, and of the error, at B -/
structure RatX (K : PySem.W.Frag) (mg : Str → Option Value) (C : Addr) : Prop where
  cx : ClsX K C
  nT : NoAttr K C "top"
  nB : NoAttr K C "bottom"
  gC : mg "Ratio" = some (.ref C)
  nf : PySem.W.notFirst K C (.ref C) = true
  nfI : PySem.W.notFirst K C (.type "int") = true
  nfS : PySem.W.notFirst K C (.type "str") = true
  ksI : PySem.W.kitOne K (.type "int") (.ref C) = some false
  ksS : PySem.W.kitOne K (.type "str") (.ref C) = some false
  isi : mg "isinstance" = none
  bool : mg "bool" = none
  len : mg "len" = none
def pInit (C B : Addr) : Pre := fun Rs w o w' => ∃ (q : Addr) (t b : Int), Rs = [rRef q, rInt t, rInt b] ∧ w = [(q, oIns C [])] ∧
  ((b ≠ 0 ∧ b.natAbs < 2 ^ 9000 ∧ w' = [(q, oIns C [("top", rInt (Rat.divInt t b).num), ("bottom", rInt ((Rat.divInt t b).den : Int))])] ∧ o = .ok rNon) ∨ (b = 0 ∧ w' = [(q, oIns C [])] ∧ o = .error (erF B "n" (rInt 0))))
section
variable {P : Program} {w : World} {K : PySem.W.Frag} {mg : Str → Option Value} {base : Heap} {C B : Addr}
theorem kf_init {f : Addr} {fd : FuncData} (Fn : Fun K "__init__" "Ratio.__init__" s_Ratio___init__ f fd) (X : RatX K mg C) (Tc : Kf1 P w K mg base "common" 1 pCommon) (Te : Ke P w K mg base B "BadNumber" "n" 1 prInt) :
    FnOk P w K mg base (L2.CX P w) 3 f fd P_Ratio___init__ (spM (pInit C B)) := by
  refine fn_ok Fn c_Ratio___init__ (fun _ _ _ _ ⟨q, t, b, h, _⟩ => by rw [h]; rfl) ?_
  rintro cdv A outer s H E ⟨_, G0, H0, M, W, tk⟩ hr rfl Rs ω o ω' ⟨q, t, b, rfl, rfl, h⟩
  refine hb_if (tr_cmp (er_var 2 rfl) er_int bop_eqI) (fun hb => ?_) (fun hb => ?_)
  · have hb0 : b = 0 := by simpa using hb
    rcases h with ⟨h, _⟩ | ⟨_, rfl, rfl⟩
    · exact absurd hb0 h
    · exact hb_err Te hr (ar_cons er_int ar_nil) ⟨_, [], rfl, fun _ _ _ h => h, rfl⟩ fun v G h => ⟨0, h, by decide⟩
  · have hb0 : b ≠ 0 := by simpa using hb
    rcases h with ⟨_, hz, rfl, rfl⟩ | ⟨h, _⟩
    · refine hb_nil ?_
      refine hb_set 3 (er_fn0 Tc (hr.mono (by decide)) (ar_cons (er_var 1 rfl) (ar_cons (er_var 2 rfl) ar_nil)) (pok (t, b) trivial)) ?_ c_Ratio___init__.nd
      have go : ∀ {d : Int}, d = dvs t b → HB ⟨_, G0, H0, M, W, tk⟩ [some (rRef q), some (rInt t), some (rInt b), some (rInt d)] [(q, oIns C [])] ((defBody s_Ratio___init__).drop 3) (Kf (.ok rNon) [(q, oIns C [("top", rInt (Rat.divInt t b).num), ("bottom", rInt ((Rat.divInt t b).den : Int))])]) := fun {d} hd => by
        subst hd
        have hk : ∀ i, CDivZ i (dvs t b) := fun i => divok (n := 9000) (dvs_ne hb0) (Nat.lt_of_le_of_lt (dvs_le.resolve_right hb0) hz)
        refine hb_fld (w2 := []) (er_bin (er_var 1 rfl) (er_var 3 rfl) (bop_fdiv (hk t))) (er_var 0 rfl) X.cx.cls X.nT ?_
        refine hb_fld (w2 := []) (er_bin (er_var 2 rfl) (er_var 3 rfl) (bop_fdiv (hk b))) (er_var 0 rfl) X.cx.cls X.nB (hb_nil ?_) (hl := by show 1 < 1000; decide)
        refine ⟨rNon, [], rfl, fun _ => rfl, ?_⟩
        rw [dvs_top hb0, dvs_bot hb0]
        rfl
      refine hb_if (tr_cmp (er_var 2 rfl) er_int bop_lt) (fun hn => ?_) (fun hn => ?_)
      · have hn0 : b < 0 := by simpa using hn
        exact hb_set 3 (er_un (er_var 3 rfl) uop_neg) (hb_nil (go (by unfold dvs; rw [if_pos hn0]))) c_Ratio___init__.nd
      · have hn0 : ¬ b < 0 := by simpa using hn
        exact hb_nil (go (by unfold dvs; rw [if_neg hn0]))
    · exact absurd h hb0
end
end W1
set_option maxRecDepth 100000
set_option maxHeartbeats 2000000
set_option exponentiation.threshold 20000
namespace W1
open PySem PySem.Spec PyProof.Rows L2 NdefX

section
variable {F : Fx} {ρ : Ty} {ω w w1 w2 : Ow} {e o a b : Expr} {C B : Addr} {pos p : Pos} {t u : Int} {q : Rat}
theorem er_ratio (T : Kc F.X.prog F.X.w F.X.K F.X.mg F.X.base C "Ratio" 3 (pInit C B)) (hr : Room 4 F.X.A) (ha : AR F ρ ω [a, b] [rInt t, rInt u] w) (hq : Rat.divInt t u = q) (h0 : u ≠ 0) (hz : u.natAbs < 2 ^ 9000) (hg : Gl F.X "Ratio" := by rfl)
    (he : starEach [a, b] F.X.env = (false, eval a F.X.env) :: starEach [b] F.X.env := by rfl) (hpl : (backTo pos (starEach [b] F.X.env)).any (·.1) = false := by rfl) :
    ER F ρ ω (.Call (.Name "Ratio" p) [a, b] [] pos) (rRat C q) w := by
  subst hq
  exact er_c T hr ha (fun q => ⟨q, t, u, rfl, rfl, .inl ⟨h0, hz, rfl, rfl⟩⟩) hg (by decide) he hpl
theorem ex_ratio (T : Kc F.X.prog F.X.w F.X.K F.X.mg F.X.base C "Ratio" 3 (pInit C B)) (hr : Room 4 F.X.A) (ha : AR F ρ ω [a, b] [rInt t, rInt u] w) (h0 : u = 0) (hg : Gl F.X "Ratio" := by rfl)
    (he : starEach [a, b] F.X.env = (false, eval a F.X.env) :: starEach [b] F.X.env := by rfl) (hpl : (backTo pos (starEach [b] F.X.env)).any (·.1) = false := by rfl) :
    EX F ρ ω (.Call (.Name "Ratio" p) [a, b] [] pos) (erF B "n" (rInt 0)) w :=
  ex_c T hr ha (fun q => ⟨_, q, t, u, rfl, rfl, .inr ⟨h0, rfl, rfl⟩⟩) erF_mo hg (by decide) he hpl
theorem er_top (X : RatX F.X.K F.X.mg C) (h : ER F ρ ω e (rRat C q) w) (hb : attributeBase e "top" F.X.env (eval e F.X.env) = eval e F.X.env := by rfl) : ER F ρ ω (.Attribute e "top" pos) (rInt q.num) w := er_fld h X.cx.cls X.nT rfl hb
theorem er_bot (X : RatX F.X.K F.X.mg C) (h : ER F ρ ω e (rRat C q) w) (hb : attributeBase e "bottom" F.X.env (eval e F.X.env) = eval e F.X.env := by rfl) : ER F ρ ω (.Attribute e "bottom" pos) (rInt (q.den : Int)) w := er_fld h X.cx.cls X.nB rfl hb
end
def p2 (C : Addr) (f : Rat → Rat → Rl) : Pre := pOk (α := Rat × Rat) (fun a => small a.1 ∧ small a.2) (fun a => [rRat C a.1, rRat C a.2]) (fun a => f a.1 a.2)
def pAdd (C : Addr) : Pre := p2 C fun p q => rRat C (p + q)
def pSub (C : Addr) : Pre := p2 C fun p q => rRat C (p - q)
def pMul (C : Addr) : Pre := p2 C fun p q => rRat C (p * q)
def pUnder (C : Addr) : Pre := p2 C fun p q => rBool (decide (p < q))
def pNeg (C : Addr) : Pre := pOk (α := Rat) small (fun a => [rRat C a]) (fun a => rRat C (-a))
def pBool (C : Addr) : Pre := pOk (α := Rat) (fun _ => True) (fun a => [rRat C a]) (fun a => rBool (a.num != 0))
def pWhole (C : Addr) : Pre := pOk (α := Int) (fun _ => True) (fun a => [rRef C, rInt a]) (fun a => rRat C (a : Rat))
def pQuo (C B : Addr) : Pre := pOr (pOk (α := Rat × Rat) (fun a => small a.1 ∧ small a.2 ∧ a.2.num ≠ 0) (fun a => [rRat C a.1, rRat C a.2]) (fun a => rRat C (a.1 / a.2)))
  (pEr (α := Rat × Rat) (fun a => small a.1 ∧ small a.2 ∧ a.2.num = 0) (fun a => [rRat C a.1, rRat C a.2]) (fun a => erF B "n" (rInt 0)))
def pEq (C : Addr) : Pre := pOr (pOk (α := Rat × Rat) (fun _ => True) (fun a => [rRat C a.1, rRat C a.2]) (fun a => rBool (decide (a.1 = a.2))))
  (pOr (pOk (α := Rat × Int) (fun _ => True) (fun a => [rRat C a.1, rInt a.2]) (fun a => rBool false)) (pOk (α := Rat × Str) (fun _ => True) (fun a => [rRat C a.1, rStr a.2]) (fun a => rBool false)))
theorem divInt_int (n : Int) : Rat.divInt n 1 = (n : Rat) := by
  have := Rat.num_divInt_den (n : Rat)
  simpa using this
theorem small.mt {p q : Rat} (hp : small p) (hq : small q) : IntMulOk p.num q.den := mulok hp.t hq.b
theorem small.mb {p q : Rat} (hp : small p) (hq : small q) : IntMulOk p.den q.den := mulok hp.b hq.b
theorem small.dd {p q : Rat} (hp : small p) (hq : small q) : ((p.den : Int) * q.den).natAbs < 2 ^ 9000 := by
  rw [Int.natAbs_mul]
  exact Nat.lt_of_lt_of_le (mul_lt2 hp.b hq.b) (Nat.pow_le_pow_right (by decide) (by decide))
theorem rat_eq_dec (p q : Rat) : (decide (p.num = q.num) && decide ((p.den : Int) = q.den)) = decide (p = q) := by
  by_cases h : p = q
  · subst h; simp
  · have : ¬ (p.num = q.num ∧ (p.den : Int) = q.den) := fun ⟨h1, h2⟩ => h (Rat.ext h1 (by omega))
    rw [decide_eq_false h]
    by_cases h1 : p.num = q.num
    · have h2 : ¬ (p.den : Int) = q.den := fun z => this ⟨h1, z⟩
      rw [decide_eq_false h2, Bool.and_false]
    · rw [decide_eq_false h1, Bool.false_and]
section
variable {P : Program} {w : World} {K : PySem.W.Frag} {mg : Str → Option Value} {base : Heap} {C B f : Addr} {fd : FuncData}
theorem kf_eq (Fn : Fun K "__eq__" "Ratio.__eq__" s_Ratio___eq__ f fd) (X : RatX K mg C) : FnOk P w K mg base (L2.CX P w) 5 f fd P_Ratio___eq__ (spM (pEq C)) := by
  refine fn_ok Fn c_Ratio___eq__ (fun _ _ _ _ h => by rcases h with ⟨_, _, h, _⟩ | ⟨_, _, h, _⟩ | ⟨_, _, h, _⟩ <;> rw [h] <;> rfl) ?_
  rintro cdv A outer s H E ⟨_, G0, H0, M, W, tk⟩ hr rfl Rs ω o ω' (⟨⟨p, q⟩, -, rfl, rfl, rfl, rfl⟩ | ⟨⟨p, q⟩, -, rfl, rfl, rfl, rfl⟩ | ⟨⟨p, q⟩, -, rfl, rfl, rfl, rfl⟩)
  · refine hb_ret (er_and (er_callB (cop_isIns X.cx) rfl X.isi bt_isi (ar_cons (er_var 1 rfl) (ar_cons (er_glob rfl X.gC rfl) ar_nil))) fun _ => er_and (er_cmp (er_top X (er_var 0 rfl)) (er_top X (er_var 1 rfl)) bop_eqI) fun _ => er_one (er_cmp (er_bot X (er_var 0 rfl)) (er_bot X (er_var 1 rfl)) bop_eqI)) ⟨_, [], rfl, fun v G h => ?_, rfl⟩
    rw [show v = V.bl _ from h]
    show V.bl _ = V.bl (decide (p = q))
    rw [← rat_eq_dec, Bool.true_and]
  · refine hb_ret (er_and (m := false) (er_callB (cop_isNot (.inl ⟨q, rfl, rfl⟩) X.ksI) rfl X.isi bt_isi (ar_cons (er_var 1 rfl) (ar_cons (er_glob rfl X.gC rfl) ar_nil))) fun z => Bool.noConfusion z) ⟨_, [], rfl, fun v G h => h, rfl⟩
  · refine hb_ret (er_and (m := false) (er_callB (cop_isNot (.inr (.inl ⟨q, rfl, rfl⟩)) X.ksS) rfl X.isi bt_isi (ar_cons (er_var 1 rfl) (ar_cons (er_glob rfl X.gC rfl) ar_nil))) fun z => Bool.noConfusion z) ⟨_, [], rfl, fun v G h => h, rfl⟩
end
end W1
set_option maxRecDepth 100000
set_option maxHeartbeats 2000000
set_option exponentiation.threshold 20000
namespace W1
open PySem PySem.Spec PyProof.Rows L2 NdefX

/-- a list or a tuple -/
def rSeq (b : Bool) (Rs : List Rl) : Rl := if b then rLst Rs else rTup Rs
section
variable {F : Fx} {ρ : Ty} {ω w w1 : Ow} {e tg it : Expr} {Rs : List Rl} {R : Rl} {b : Bool} {i : Int} {n : Nat}
theorem cop_lenQ : Cop F ω (.builtin "len") [rSeq b Rs] (rInt (Rs.length : Int)) := by
  cases b
  · exact cop_lenT
  · exact cop_lenL
theorem iop_Q (e : ixN Rs.length i = some n) (h : Rs[n]? = some R) : Iop F ω (rSeq b Rs) (rInt i) R := by
  cases b
  · exact iop_T e h
  · exact iop_L e h
theorem it_Q (he : ER F ρ ω it (rSeq b Rs) w1) : IT F ρ ω tg it Rs w1 := by
  cases b
  · exact it_tup he
  · exact it_lst he
end
theorem ix0 {n : Nat} (h : 0 < n) : ixN n 0 = some 0 := by
  unfold ixN
  rw [if_pos (by decide), if_pos (by omega)]
  rfl
def sumR (qs : List Rat) : Rat := qs.foldl (· + ·) 0
def mxR (m x : Rat) : Rat := if m < x then x else m
def mnR (m x : Rat) : Rat := if x < m then x else m
def grR (qs : List Rat) : Rat := qs.foldl mxR (qs.headD 0)
def leR (qs : List Rat) : Rat := qs.foldl mnR (qs.headD 0)
theorem fold_take {α β : Type} (f : β → α → β) (z : β) (xs : List α) (k : Nat) (a : α) (h : xs[k]? = some a) : (xs.take (k + 1)).foldl f z = f ((xs.take k).foldl f z) a := by
  rw [List.take_add_one, h, List.foldl_append]
  rfl
theorem map_get {α β : Type} {f : α → β} {xs : List α} {k : Nat} {S : β} (h : (xs.map f)[k]? = some S) : ∃ a, xs[k]? = some a ∧ S = f a := by
  rw [List.getElem?_map] at h
  cases e : xs[k]? with
  | none => rw [e] at h; cases h
  | some a => rw [e] at h; cases h; exact ⟨a, rfl, rfl⟩
theorem mem_get {α : Type} {xs : List α} {k : Nat} {a : α} (h : xs[k]? = some a) : a ∈ xs := List.mem_of_getElem? h
theorem fold_mx_mem (qs : List Rat) (z : Rat) : qs.foldl mxR z = z ∨ qs.foldl mxR z ∈ qs := by
  induction qs generalizing z with
  | nil => exact .inl rfl
  | cons q qs ih =>
    rw [List.foldl_cons]
    rcases ih (mxR z q) with h | h
    · rw [h]
      unfold mxR
      split
      · exact .inr List.mem_cons_self
      · exact .inl rfl
    · exact .inr (List.mem_cons_of_mem _ h)
theorem fold_mn_mem (qs : List Rat) (z : Rat) : qs.foldl mnR z = z ∨ qs.foldl mnR z ∈ qs := by
  induction qs generalizing z with
  | nil => exact .inl rfl
  | cons q qs ih =>
    rw [List.foldl_cons]
    rcases ih (mnR z q) with h | h
    · rw [h]
      unfold mnR
      split
      · exact .inr List.mem_cons_self
      · exact .inl rfl
    · exact .inr (List.mem_cons_of_mem _ h)
def pTotal (C : Addr) : Pre := pOk (α := Bool × List Rat) (fun a => (∀ q ∈ a.2, small q) ∧ ∀ k, small (sumR (a.2.take k))) (fun a => [rSeq a.1 (a.2.map (rRat C))]) (fun a => rRat C (sumR a.2))
def pEnd (C B : Addr) (g : List Rat → Rat) : Pre := pOr (pOk (α := Bool × List Rat) (fun a => a.2 ≠ [] ∧ ∀ q ∈ a.2, small q) (fun a => [rSeq a.1 (a.2.map (rRat C))]) (fun a => rRat C (g a.2)))
  (pEr (α := Bool) (fun _ => True) (fun b => [rSeq b []]) (fun _ => erF B "n" (rInt 0)))
section
variable {C B : Addr} {p q : Rat}
theorem pAddOk (hp : small p) (hq : small q) : pAdd C [rRat C p, rRat C q] [] (.ok (rRat C (p + q))) [] := ⟨(p, q), ⟨hp, hq⟩, rfl, rfl, rfl, rfl⟩
theorem pSubOk (hp : small p) (hq : small q) : pSub C [rRat C p, rRat C q] [] (.ok (rRat C (p - q))) [] := ⟨(p, q), ⟨hp, hq⟩, rfl, rfl, rfl, rfl⟩
theorem pMulOk (hp : small p) (hq : small q) : pMul C [rRat C p, rRat C q] [] (.ok (rRat C (p * q))) [] := ⟨(p, q), ⟨hp, hq⟩, rfl, rfl, rfl, rfl⟩
theorem pUnderOk (hp : small p) (hq : small q) : pUnder C [rRat C p, rRat C q] [] (.ok (rBool (decide (p < q)))) [] := ⟨(p, q), ⟨hp, hq⟩, rfl, rfl, rfl, rfl⟩
theorem pNegOk (hp : small p) : pNeg C [rRat C p] [] (.ok (rRat C (-p))) [] := ⟨p, hp, rfl, rfl, rfl, rfl⟩
theorem pBoolOk : pBool C [rRat C p] [] (.ok (rBool (p.num != 0))) [] := ⟨p, trivial, rfl, rfl, rfl, rfl⟩
theorem pWholeOk {n : Int} : pWhole C [rRef C, rInt n] [] (.ok (rRat C (n : Rat))) [] := ⟨n, trivial, rfl, rfl, rfl, rfl⟩
theorem pQuoOk (hp : small p) (hq : small q) (h : q.num ≠ 0) : pQuo C B [rRat C p, rRat C q] [] (.ok (rRat C (p / q))) [] := .inl ⟨(p, q), ⟨hp, hq, h⟩, rfl, rfl, rfl, rfl⟩
theorem pQuoEr (hp : small p) (hq : small q) (h : q.num = 0) : pQuo C B [rRat C p, rRat C q] [] (.error (erF B "n" (rInt 0))) [] := .inr ⟨(p, q), ⟨hp, hq, h⟩, rfl, rfl, rfl, rfl⟩
theorem pEqOk : pEq C [rRat C p, rRat C q] [] (.ok (rBool (decide (p = q)))) [] := .inl ⟨(p, q), trivial, rfl, rfl, rfl, rfl⟩
theorem pEqI {i : Int} : pEq C [rRat C p, rInt i] [] (.ok (rBool false)) [] := .inr (.inl ⟨(p, i), trivial, rfl, rfl, rfl, rfl⟩)
theorem pEqS {i : Str} : pEq C [rRat C p, rStr i] [] (.ok (rBool false)) [] := .inr (.inr ⟨(p, i), trivial, rfl, rfl, rfl, rfl⟩)
theorem pTotalOk {b : Bool} {qs : List Rat} (h1 : ∀ q ∈ qs, small q) (h2 : ∀ k, small (sumR (qs.take k))) : pTotal C [rSeq b (qs.map (rRat C))] [] (.ok (rRat C (sumR qs))) [] := ⟨(b, qs), ⟨h1, h2⟩, rfl, rfl, rfl, rfl⟩
theorem pEndOk {b : Bool} {qs : List Rat} {g : List Rat → Rat} (h1 : qs ≠ []) (h2 : ∀ q ∈ qs, small q) : pEnd C B g [rSeq b (qs.map (rRat C))] [] (.ok (rRat C (g qs))) [] := .inl ⟨(b, qs), ⟨h1, h2⟩, rfl, rfl, rfl, rfl⟩
theorem pEndEr {b : Bool} {g : List Rat → Rat} : pEnd C B g [rSeq b []] [] (.error (erF B "n" (rInt 0))) [] := .inr ⟨b, trivial, rfl, rfl, rfl, rfl⟩
end
section
variable {P : Program} {w : World} {K : PySem.W.Frag} {mg : Str → Option Value} {base : Heap} {C B f : Addr} {fd : FuncData}
end
end W1
set_option maxRecDepth 100000
set_option maxHeartbeats 2000000
set_option exponentiation.threshold 20000
namespace W1
open PySem PySem.Spec PyProof.Rows L2 NdefX TL NumText

/-! ### words of digits, fractions' texts -/
abbrev digs : Str := Str.ofString "0123456789"
theorem mem_digs (c : Nat) : decide (c ∈ tl digs) = isD c := by
  have e : tl digs = [48, 49, 50, 51, 52, 53, 54, 55, 56, 57] := by rw [tl_ofString]; rfl
  rw [e]
  unfold isD
  refine decide_eq_decide.mpr ?_
  simp only [List.mem_cons, List.not_mem_nil, or_false]
  omega
theorem ixN_at {n : Nat} {k : Nat} (h : k < n) : ixN n (k : Int) = some k := by
  unfold ixN
  rw [if_pos (Int.natCast_nonneg k), if_pos (by omega)]
  simp
theorem bt_all : bootBuiltins "all" = some (.builtin "all") := by decide +kernel
theorem bt_max : bootBuiltins "max" = some (.builtin "max") := by decide +kernel
theorem bt_list : bootBuiltins "list" = some (.type "list") := by decide +kernel
def pCnt : Pre := pOk (α := Str) (fun z => z.length ≤ 640) (fun z => [rStr z]) (fun z => rBool (cntL (tl z)))
def pTop : Pre := pOk (α := Str) (fun z => z.length ≤ 640) (fun z => [rStr z]) (fun z => rBool (topL (tl z)))
theorem pCntOk {z : Str} (h : z.length ≤ 640) : pCnt [rStr z] [] (.ok (rBool (cntL (tl z)))) [] := ⟨z, h, rfl, rfl, rfl, rfl⟩
theorem pTopOk {z : Str} (h : z.length ≤ 640) : pTop [rStr z] [] (.ok (rBool (topL (tl z)))) [] := ⟨z, h, rfl, rfl, rfl, rfl⟩
theorem cntL_nil {l : List Nat} (h : l = []) : cntL l = false := by subst h; rfl
theorem cntL_not {l : List Nat} (h : l.all isD = false) : cntL l = false := by unfold cntL; rw [h, Bool.and_false, Bool.false_and]
theorem cntL_cons {c : Nat} {l : List Nat} (h : (c :: l).all isD = true) : cntL (c :: l) = (!decide ([c] = [48]) || decide (c :: l = [48])) := by
  unfold cntL
  rw [h, decide_eq_true (by simp), Bool.true_and, Bool.true_and]
  have e : decide ((c :: l).head? = some 48) = decide ([c] = [48]) := decide_eq_decide.mpr (by simp)
  rw [e]
theorem tl_lit (s : String) : tl (Str.ofString s) = s.toList.map Char.toNat := tl_ofString s
section
variable {P : Program} {w : World} {K : PySem.W.Frag} {mg : Str → Option Value} {base : Heap} {C B f : Addr} {fd : FuncData} {tk0 : Tok}
theorem kf_is_count (Fn : Fun K "is_count" "is_count" s_is_count f fd) (gD : mg "DIGITS" = some (.str digs tk0)) (all : mg "all" = none) : FnOk P w K mg base (L2.CX P w) 2 f fd P_is_count (spM pCnt) := by
  refine fn_ok Fn c_is_count (fun _ _ _ _ ⟨_, _, h, _⟩ => by rw [h]; rfl) ?_
  rintro cdv A outer s H E ⟨_, G0, H0, M, W, tk⟩ hr rfl Rs ω o ω' ⟨z, hz, rfl, rfl, rfl, rfl⟩
  have nd := c_is_count.nd
  have el : ∀ {F : Fx} {ω ω' : Ow} {ρ : Ty} {e : Expr}, ER F ρ ω e (rLst ((tl z).map fun c => rBool (decide (c ∈ tl digs)))) ω' → ER F ρ ω e (rLst (((tl z).map fun c => decide (c ∈ tl digs)).map rBool)) ω' := fun h => er_eq h (by rw [List.map_map]; rfl)
  have hal : (((tl z).map fun c => decide (c ∈ tl digs)).all _root_.id) = (tl z).all isD := by
    rw [List.all_map]
    exact congrArg _ (funext fun c => mem_digs c)
  refine hb_if (PWR.tr (tr_or (tr_cmp (er_var 0 rfl) er_str bop_eqS) fun _ => tr_or1 (tr_not (tr_val (er_callB (cop_all rfl) rfl all bt_all (ar_cons (el (er_lc (xs := tl z) (A := fun c => rStr ⟨#[c]⟩) (B := fun c => rBool (decide (c ∈ tl digs))) (it_str (er_var 0 rfl)) (by rw [← len_tl]; omega) [("sign", 1)]
    (blkOk_by (N := N_is_count) (sc := defScope s_is_count) (by decide +kernel)) (fun _ _ _ _ _ => pg_name (i := 1) nd rfl (Or.inl rfl)) (fun i a h => gew_name) (fun i a h s H0 cc cl fp d => er_cmp (er_var 1 rfl) (er_glob (v := .str digs) rfl gD ⟨tk0, rfl⟩) bop_inC) nd)) ar_nil)))))) (fun hb => ?_) (fun hb => hb_nil ?_)
  · refine hb_ret er_bl ⟨_, [], rfl, fun v G h => ?_, rfl⟩
    rw [show v = V.bl false from h]
    show V.bl false = V.bl (cntL (tl z))
    rw [hal, Bool.or_eq_true] at hb
    rcases hb with hb | hb
    · have e : z = Str.ofString "" := of_decide_eq_true hb
      rw [cntL_nil (by rw [e, tl_lit]; rfl)]
    · rw [cntL_not (by simpa using hb)]
  · rw [hal, Bool.or_eq_false_iff] at hb
    obtain ⟨h1, h2⟩ := hb
    have h2 : (tl z).all isD = true := by simpa using h2
    cases e : tl z with
    | nil => exact absurd (ext_tl (by rw [e, tl_lit]; rfl)) (of_decide_eq_false h1)
    | cons c l =>
      rw [e] at h2
      refine hb_ret (er_or (er_cmp (er_ix (er_var 0 rfl) er_int (iop_str (c := c) (atI_nat (j := 0) (by show (tl z)[0]? = _; rw [e]; rfl)) (by omega))) er_str bop_neS) fun _ => er_one (er_cmp (er_var 0 rfl) er_str bop_eqS)) ⟨_, [], rfl, fun v G h => ?_, rfl⟩
      rw [show v = V.bl _ from h]
      show V.bl _ = V.bl (cntL (tl z))
      rw [e, cntL_cons h2, dec_str, dec_str (x := z), e, tl_one, tl_lit]
      rfl
theorem kf_is_top (Fn : Fun K "is_top" "is_top" s_is_top f fd) (Tc : Kf1 P w K mg base "is_count" 2 pCnt) : FnOk P w K mg base (L2.CX P w) 3 f fd P_is_top (spM pTop) := by
  refine fn_ok Fn c_is_top (fun _ _ _ _ ⟨_, _, h, _⟩ => by rw [h]; rfl) ?_
  rintro cdv A outer s H E ⟨_, G0, H0, M, W, tk⟩ hr rfl Rs ω o ω' ⟨z, hz, rfl, rfl, rfl, rfl⟩
  have e45 : tl (Str.ofString "-") = [45] := by rw [tl_lit]; rfl
  refine hb_if (tr_cmp (er_slice (er_var 0 rfl) pr_none (pr_some er_int) (sop_str (by omega))) er_str bop_eqS) (fun hb => ?_) (fun hb => hb_nil ?_)
  · have h1 : (tl z).take 1 = [45] := by
      have := str_iff.mp (of_decide_eq_true hb)
      rw [tl_head, e45] at this
      exact this
    refine hb_ret (er_and (er_fn0 Tc hr (ar_cons (er_slice (er_var 0 rfl) (pr_some er_int) pr_none (sop_str (by omega))) ar_nil) (pCntOk (Nat.le_trans (cut_len _ _ _) hz))) fun _ => er_one (er_cmp (er_var 0 rfl) er_str bop_neS)) ⟨_, [], rfl, fun v G h => ?_, rfl⟩
    rw [show v = V.bl _ from h]
    show V.bl _ = V.bl (topL (tl z))
    unfold topL
    rw [if_pos h1, tl_rest, dec_str, tl_lit]
    rfl
  · have h1 : ¬ (tl z).take 1 = [45] := fun e => by
      refine of_decide_eq_false hb (str_iff.mpr ?_)
      rw [tl_head, e45]
      exact e
    refine hb_ret (er_fn0 Tc hr (ar_cons (er_var 0 rfl) ar_nil) (pCntOk hz)) ⟨_, [], rfl, fun v G h => ?_, rfl⟩
    rw [show v = V.bl _ from h]
    show V.bl _ = V.bl (topL (tl z))
    unfold topL
    rw [if_neg h1]
end
/-- what reading comes to -/
def pRead (C B : Addr) : Pre := fun Rs w o w' => ∃ z : Str, z.length ≤ 640 ∧ Rs = [rRef C, rStr z] ∧ w = [] ∧ w' = [] ∧ o = (match rdS z with | .ok (a, b) => .ok (rRat C (Rat.divInt a b)) | .error k => .error (erF B "at" (rInt k)))
def strR (q : Rat) : Str := if q.den = 1 then numT q.num else numT q.num ++ slash ++ numT q.den
def pStr (C : Addr) : Pre := pOk (α := Rat) (Sz 1900) (fun q => [rRat C q]) (fun q => rStr (strR q))
section
variable {P : Program} {w : World} {K : PySem.W.Frag} {mg : Str → Option Value} {base : Heap} {C B D f : Addr} {fd : FuncData}
theorem log_num {q : Rat} (h : Sz 1900 q) : q.num.natAbs.log2 < 1920 := log_lt h.1 (by decide) (by decide)
theorem log_den {q : Rat} (h : Sz 1900 q) : (q.den : Int).natAbs.log2 < 1920 := log_lt (sz_int h) (by decide) (by decide)
theorem kf_str (Fn : Fun K "__str__" "Ratio.__str__" s_Ratio___str__ f fd) (X : RatX K mg C) (str : mg "str" = none) : FnOk P w K mg base (L2.CX P w) 2 f fd P_Ratio___str__ (spM (pStr C)) := by
  refine fn_ok Fn c_Ratio___str__ (fun _ _ _ _ ⟨_, _, h, _⟩ => by rw [h]; rfl) ?_
  rintro cdv A outer s H E ⟨_, G0, H0, M, W, tk⟩ hr rfl Rs ω o ω' ⟨q, hq, rfl, rfl, rfl, rfl⟩
  refine hb_if (tr_cmp (er_bot X (er_var 0 rfl)) er_int bop_eqI) (fun hb => ?_) (fun hb => hb_nil ?_)
  · have h1 : q.den = 1 := by
      have : (q.den : Int) = 1 := of_decide_eq_true hb
      omega
    refine hb_ret (er_callTy (cop_strI (log_num hq)) rfl str bt_str (ar_cons (er_top X (er_var 0 rfl)) ar_nil)) ⟨_, [], rfl, fun v G h => ?_, rfl⟩
    show (rStr (strR q)).r v G
    unfold strR
    rw [if_pos h1]
    exact h
  · have h1 : ¬ q.den = 1 := fun e => of_decide_eq_false hb (by rw [e]; rfl)
    refine hb_ret (er_f3 (er_top X (er_var 0 rfl)) (er_bot X (er_var 0 rfl)) (log_num hq) (log_den hq) (by decide)) ⟨_, [], rfl, fun v G h => ?_, rfl⟩
    show (rStr (strR q)).r v G
    unfold strR
    rw [if_neg h1]
    exact h
theorem kf_read (Fn : Fun K "read" "Ratio.read" s_Ratio_read f fd) (X : RatX K mg C) (T : Kc P w K mg base C "Ratio" 3 (pInit C B)) (Tc : Kf1 P w K mg base "is_count" 2 pCnt) (Tt : Kf1 P w K mg base "is_top" 3 pTop) (Te : Ke P w K mg base D "BadText" "at" 1 prInt) (int : mg "int" = none) :
    FnOk P w K mg base (L2.CX P w) 5 f fd P_Ratio_read (spM (pRead C D)) := by
  refine fn_ok Fn c_Ratio_read (fun _ _ _ _ ⟨_, _, h, _⟩ => by rw [h]; rfl) ?_
  rintro cdv A outer s H E ⟨_, G0, H0, M, W, tk⟩ hr rfl Rs ω o ω' ⟨z, hz, rfl, rfl, rfl, rfl⟩
  have nd := c_Ratio_read.nd
  have hws := fun w hw => Nat.le_trans (words_le (z := z) (w := w) hw) hz
  have hne := words_ne z
  have hnz : ∀ a b, rdS z = .ok (a, b) → b ≠ 0 ∧ b.natAbs < 2 ^ 2560 := fun a b h => rd_nz h hz
  refine hb_set 2 (er_bm PySem.F.plainAttrs_str PySem.F.slot_str_split PySem.F.type_str_split (er_var 1 rfl) (ar_cons er_str ar_nil) (mop_split (by decide) (by omega)) ty_str) ?_ nd
  show HB _ [some (rRef C), some (rStr z), some (rLst ((wordsOf z).map rStr))] [] _ _
  unfold rdS at hnz ⊢
  generalize wordsOf z = ws at *
  have ix : ∀ (k : Nat) (q : Str), ws[k]? = some q → ∀ {F : Fx} {ω : Ow}, Iop F ω (rLst (ws.map rStr)) (rInt (k : Int)) (rStr q) := fun k q h {F ω} => iop_L (n := k) (ixN_at (by
    have := (List.getElem?_eq_some_iff.mp h).1
    rw [List.length_map]
    exact this)) (by rw [List.getElem?_map, h]; rfl)
  obtain ⟨w0, rest, rfl⟩ : ∃ w0 rest, ws = w0 :: rest := by
    cases ws with
    | nil => exact absurd rfl hne
    | cons a l => exact ⟨a, l, rfl⟩
  have l0 := hws w0 List.mem_cons_self
  refine hb_if (PWR.tr (tr_or (tr_cmp (er_callB cop_lenL rfl X.len bt_len (ar_cons (er_var 2 rfl) ar_nil)) er_int bop_gt) fun _ => tr_or1 (tr_not (tr_val (er_fn0 Tt (hr.mono (by decide)) (ar_cons (er_ix (er_var 2 rfl) er_int (ix 0 w0 rfl)) ar_nil) (pTopOk l0)))))) (fun hb => ?_) (fun hb => hb_nil ?_)
  · have e : rdL ((w0 :: rest).map tl) = .error 0 := by
      rw [Bool.or_eq_true] at hb
      match rest, hb with
      | [], hb =>
        have : topL (tl w0) = false := by
          rcases hb with hb | hb
          · exact absurd (of_decide_eq_true hb) (by show ¬ (2 : Int) < ((1 : Nat) : Int); decide)
          · simpa using hb
        show (if topL (tl w0) then _ else _) = _
        rw [this]
        rfl
      | [w1], hb =>
        have : topL (tl w0) = false := by
          rcases hb with hb | hb
          · exact absurd (of_decide_eq_true hb) (by show ¬ (2 : Int) < ((2 : Nat) : Int); decide)
          · simpa using hb
        show (if topL (tl w0) then _ else _) = _
        rw [this]
        rfl
      | _ :: _ :: _, _ => rfl
    rw [e]
    exact hb_err Te (hr.mono (by decide)) (ar_cons er_int ar_nil) ⟨_, [], rfl, fun _ _ _ h => h, rfl⟩ fun v G h => ⟨0, h, by decide⟩
  · rw [Bool.or_eq_false_iff] at hb
    have ht : topL (tl w0) = true := by simpa using hb.2
    have hl := of_decide_eq_false hb.1
    rw [List.length_map] at hl
    have iw0 := int_top ht l0
    match rest, hl, ix, hnz, hws with
    | [], _, ix, hnz, hws =>
      have e : rdL (([w0] : List Str).map tl) = .ok (valL (tl w0), 1) := by
        show (if topL (tl w0) then _ else _) = _
        rw [ht]
        rfl
      rw [e]
      refine hb_if (b := true) (tr_cmp (er_callB cop_lenL rfl X.len bt_len (ar_cons (er_var 2 rfl) ar_nil)) er_int bop_eqI) (fun _ => ?_) (fun z => Bool.noConfusion z)
      exact hb_ret (er_ratio T (hr.mono (by decide)) (ar_cons (er_callTy (cop_intS iw0 l0) rfl int bt_int (ar_cons (er_ix (er_var 2 rfl) er_int (ix 0 w0 rfl)) ar_nil)) (ar_cons er_int ar_nil)) rfl (by decide) (lt9000 (n := 1) (by decide) (by decide))) ⟨_, [], rfl, fun _ _ h => h, rfl⟩
    | [w1], _, ix, hnz, hws =>
      have l1 := hws w1 (List.mem_cons_of_mem _ List.mem_cons_self)
      refine hb_if (b := false) (tr_cmp (er_callB cop_lenL rfl X.len bt_len (ar_cons (er_var 2 rfl) ar_nil)) er_int bop_eqI) (fun z => Bool.noConfusion z) (fun _ => hb_nil ?_)
      have e48 : tl (Str.ofString "0") = [48] := by rw [tl_lit]; rfl
      refine hb_if (PWR.tr (tr_or (tr_not (tr_val (er_fn0 Tc (hr.mono (by decide)) (ar_cons (er_ix (er_var 2 rfl) er_int (ix 1 w1 rfl)) ar_nil) (pCntOk l1)))) fun _ => tr_or1 (tr_cmp (er_ix (er_var 2 rfl) er_int (ix 1 w1 rfl)) er_str bop_eqS))) (fun hb => ?_) (fun hb => hb_nil ?_)
      · have e : rdL (([w0, w1] : List Str).map tl) = .error 1 := by
          show (if topL (tl w0) then (if cntL (tl w1) && !decide (tl w1 = [48]) then _ else _) else _) = _
          rw [ht]
          rw [dec_str, e48] at hb
          have : (cntL (tl w1) && !decide (tl w1 = [48])) = false := by
            cases h1 : cntL (tl w1) <;> rw [h1] at hb <;> simp at hb ⊢
            exact hb
          rw [this]
          rfl
        rw [e]
        exact hb_err Te (hr.mono (by decide)) (ar_cons er_int ar_nil) ⟨_, [], rfl, fun _ _ _ h => h, rfl⟩ fun v G h => ⟨1, h, by decide⟩
      · rw [dec_str, e48, Bool.or_eq_false_iff] at hb
        have hc : cntL (tl w1) = true := by simpa using hb.1
        have e : rdL (([w0, w1] : List Str).map tl) = .ok (valL (tl w0), valL (tl w1)) := by
          show (if topL (tl w0) then (if cntL (tl w1) && !decide (tl w1 = [48]) then _ else _) else _) = _
          rw [ht, hc, hb.2]
          rfl
        obtain ⟨n1, n2⟩ := hnz _ _ e
        rw [e]
        exact hb_ret (er_ratio T (hr.mono (by decide)) (ar_cons (er_callTy (cop_intS iw0 l0) rfl int bt_int (ar_cons (er_ix (er_var 2 rfl) er_int (ix 0 w0 rfl)) ar_nil)) (ar_cons (er_callTy (cop_intS (int_cnt hc l1) l1) rfl int bt_int (ar_cons (er_ix (er_var 2 rfl) er_int (ix 1 w1 rfl)) ar_nil)) ar_nil)) rfl n1 (lt9000 n2 (by decide))) ⟨_, [], rfl, fun _ _ h => h, rfl⟩
    | _ :: _ :: _, hl, _, _, _ => exact absurd (by simp only [List.length_cons]; omega) hl
end
end W1
set_option maxRecDepth 100000
set_option maxHeartbeats 2000000
set_option exponentiation.threshold 20000
namespace W1
open PySem PySem.Spec PyProof.Rows L2 NdefX

/-! ### the law's draws -/
abbrev Pool := Int × Int × Bool
def oPool (s : Pool) : Ol := oL [rInt s.1, rInt s.2.1, rBool s.2.2]
def drR (s : Pool) (L : Int) : Int := if s.2.2 then s.1.fmod L else (((((s.1 * 7919 + (s.2.1 + 1) * 104729 + 13).fmod 2147483647) ^ 5).fmod 2147483647).fdiv 17).fmod L
def drS (s : Pool) (L : Int) : Pool := (if s.2.2 then s.1.fdiv L else s.1, s.2.1 + 1, s.2.2)
theorem drR_lt {s : Pool} {L : Int} (h : 0 < L) : 0 ≤ drR s L ∧ drR s L < L := by
  unfold drR
  split <;> exact ⟨Int.fmod_nonneg_of_pos _ h, Int.fmod_lt_of_pos _ h⟩
def pBag : PreN := fun Rs w O w' => ∃ c : Int, Rs = [rInt c] ∧ w = [] ∧ w' = [] ∧ O = oPool (c, 0, decide (10 ^ 18 ≤ c))
def pDraw : Pre := fun Rs w o w' => ∃ (q : Addr) (s : Pool) (L : Int), 0 < L ∧ L.natAbs < 2 ^ 9000 ∧ Rs = [rRef q, rInt L] ∧ w = [(q, oPool s)] ∧ w' = [(q, oPool (drS s L))] ∧ o = .ok (rInt (drR s L))
def atS (ns : List Int) (k : Nat) : Int := ns.getD k 0
def pAt (K : PySem.W.Frag) : Pre := pOk (α := List Int × Nat) (fun _ => True) (fun a => [rScr K (a.1.map V.int), rInt a.2]) (fun a => rInt (atS a.1 a.2))
section
variable {P : Program} {w : World} {K : PySem.W.Frag} {mg : Str → Option Value} {base : Heap} {C B f : Addr} {fd : FuncData}
theorem kf_bag (Fn : Fun K "_law_bag" "_law_bag" s__law_bag f fd) : FnOk P w K mg base (L2.CX P w) 1 f fd P__law_bag (spN pBag) := by
  refine fn_okN Fn c__law_bag (fun _ _ _ _ ⟨_, h, _⟩ => by rw [h]; rfl) ?_
  rintro cdv A outer s H E ⟨_, G0, H0, M, W, tk⟩ hr rfl Rs ω o ω' ⟨c, rfl, rfl, rfl, rfl⟩
  exact hb_retO (en_lst (ar_cons (er_var 0 rfl) (ar_cons er_int (ar_cons (er_cmp (er_var 0 rfl) (er_bin er_int er_int (bop_pow ⟨by decide, by decide, by decide⟩)) bop_ge) ar_nil))) (Nat.le_of_ble_eq_true rfl)) fun q hM => ⟨q, [], fun _ _ h => h, List.not_mem_nil, rfl⟩
theorem kf_at (Fn : Fun K "_law_at_of" "_law_at_of" s__law_at_of f fd) (len : mg "len" = none) : FnOk P w K mg base (L2.CX P w) 1 f fd P__law_at_of (spM (pAt K)) := by
  refine fn_ok Fn c__law_at_of (fun _ _ _ _ ⟨_, _, h, _⟩ => by rw [h]; rfl) ?_
  rintro cdv A outer s H E ⟨_, G0, H0, M, W, tk⟩ hr rfl Rs ω o ω' ⟨⟨ns, k⟩, -, rfl, rfl, rfl, rfl⟩
  refine hb_if (tr_cmp (er_var 1 rfl) (er_callB cop_lenS rfl len bt_len (ar_cons (er_var 0 rfl) ar_nil)) bop_lt) (fun hb => ?_) (fun hb => hb_nil ?_)
  · have h : k < ns.length := by
      have e : (k : Int) < ((ns.map V.int).length : Int) := of_decide_eq_true hb
      rw [List.length_map] at e
      omega
    refine hb_ret (er_ix (er_var 0 rfl) (er_var 1 rfl) (iop_S (v := .int (atS ns k)) ?_)) ⟨_, [], rfl, fun _ _ h => h, rfl⟩
    unfold atI
    rw [List.length_map, ixN_at h]
    show (ns.map V.int)[k]? = _
    rw [List.getElem?_map, List.getElem?_eq_getElem h]
    unfold atS
    rw [List.getD_eq_getElem?_getD, List.getElem?_eq_getElem h]
    rfl
  · have h : ns.length ≤ k := by
      have e : ¬ (k : Int) < ((ns.map V.int).length : Int) := of_decide_eq_false hb
      rw [List.length_map] at e
      omega
    refine hb_ret er_int ⟨_, [], rfl, fun v G z => ?_, rfl⟩
    show v = V.int (atS ns k)
    unfold atS
    rw [List.getD_eq_getElem?_getD, List.getElem?_eq_none h]
    exact z
theorem mod_lt {m : Int} : (m.fmod 2147483647).natAbs < 2 ^ 64 := by
  have h1 := Int.fmod_nonneg_of_pos m (show (0 : Int) < 2147483647 by decide)
  have h2 := Int.fmod_lt_of_pos m (show (0 : Int) < 2147483647 by decide)
  have : (2 : Nat) ^ 64 = 18446744073709551616 := by decide
  omega
theorem kf_draw (Fn : Fun K "_law_draw" "_law_draw" s__law_draw f fd) (int : mg "int" = none) : FnOk P w K mg base (L2.CX P w) 1 f fd P__law_draw (spM pDraw) := by
  refine fn_ok Fn c__law_draw (fun _ _ _ _ ⟨_, _, _, _, _, h, _⟩ => by rw [h]; rfl) ?_
  rintro cdv A outer s H E ⟨_, G0, H0, M, W, tk⟩ hr rfl Rs ω o ω' ⟨q, ⟨c, n, g⟩, L, h0, hz, rfl, rfl, rfl, rfl⟩
  refine hb_sub (w3 := []) (er_bin (er_ixO (er_var 0 rfl) er_int List.mem_cons_self rfl rfl) er_int bop_add) (er_var 0 rfl) er_int rfl ?_
  refine hb_if (tr_val (er_ixO (er_var 0 rfl) er_int List.mem_cons_self rfl rfl)) (fun hg => ?_) (fun hg => hb_nil ?_)
  · have hg' : g = true := hg
    subst hg'
    refine hb_set 2 (er_bin (er_callTy cop_int rfl int bt_int (ar_cons (er_ixO (er_var 0 rfl) er_int List.mem_cons_self rfl rfl) ar_nil)) (er_var 1 rfl) (bop_mod (by omega))) ?_ c__law_draw.nd
    refine hb_sub (w3 := []) (er_bin (er_callTy cop_int rfl int bt_int (ar_cons (er_ixO (er_var 0 rfl) er_int List.mem_cons_self rfl rfl) ar_nil)) (er_var 1 rfl) (bop_fdiv (divok (n := 9000) (by omega) hz))) (er_var 0 rfl) er_int rfl ?_
    exact hb_ret (er_var 2 rfl) ⟨_, [], rfl, fun _ _ h => h, rfl⟩
  · have hg' : g = false := hg
    subst hg'
    refine hb_set 3 (er_bin (er_callTy cop_int rfl int bt_int (ar_cons (er_bin (er_bin (er_bin (er_ixO (er_var 0 rfl) er_int List.mem_cons_self rfl rfl) er_int (bop_mul (IntMulOk.of_right (by decide)))) (er_bin (er_ixO (er_var 0 rfl) er_int List.mem_cons_self rfl rfl) er_int (bop_mul (IntMulOk.of_right (by decide)))) bop_add) er_int bop_add) ar_nil)) er_int (bop_mod (by decide))) ?_ c__law_draw.nd
    exact hb_ret (er_bin (er_bin (er_callTy cop_int rfl int bt_int (ar_cons (er_bin (er_bin (er_var 3 rfl) er_int (bop_pow ⟨by decide, by decide, mod_lt⟩)) er_int (bop_mod (by decide))) ar_nil)) er_int (bop_fdiv ⟨by decide, by decide⟩)) (er_var 1 rfl) (bop_mod (by omega))) ⟨_, [], rfl, fun _ _ h => h, rfl⟩
end
end W1
set_option maxRecDepth 100000
set_option maxHeartbeats 2000000
set_option exponentiation.threshold 20000
namespace W1
open PySem PySem.Spec PyProof.Rows L2 NdefX TL NumText

section
variable {F : Fx} {ρ : Ty} {ω w w1 : Ow} {e o : Expr} {es : List Expr} {Rs : List Rl} {P : Er} {pos apos : Pos} {m : Str} {k : Nat} {C : Addr} {pre : Pre}
/-- C.m(..), m a classmethod that raises -/
theorem ex_cm {pl : Sem Bool} (T : Kcm F.X.prog F.X.w F.X.K F.X.mg F.X.base C m k pre) (hr : Room k F.X.A) (ho : ER F ρ ω o (rRef C) w1) (ha : AR F ρ w1 (e :: es) Rs w) (hp : pre (rRef C :: Rs) [] (.error P) [])
    (hst : starEach (e :: es) F.X.env = (false, eval e F.X.env) :: starEach es F.X.env := by rfl) (hpl : (backTo pos (starEach es F.X.env)).any (·.1) = false := by rfl)
    (ht : eval (.Call (.Attribute o m apos) (e :: es) [] pos) F.X.env = (do
      let ov ← eval o F.X.env
      standAt apos.atName
      let (f, first) ← holding [ov] (getMethod ov m pl)
      callWith pos f first (backTo pos (starEach (e :: es) F.X.env)) (backToKw pos (keywordEach [] F.X.env))) := by rfl) : EX F ρ ω (.Call (.Attribute o m apos) (e :: es) [] pos) P w := fun σ G H at_ sl q => by
  obtain ⟨f, fd, ps, mc, pc, h1, h2, h3, h4⟩ := T
  refine ew_of (pe_cmethS pe_w h1 h2 h4 hr h3 passW pa_w hst hpl ht) (ho σ G H at_ sl _ fun v G1 H1 s1 a1 r1 => ⟨r1, ha σ G1 H1 a1 (sl.up s1) _ fun vs G2 H2 s2 a2 r2 => ?_⟩)
  exact sp_er (wc := []) (Rs := rRef C :: Rs) a2 (mkc rfl r2) hp rfl fun cls d G3 H3 s3 a3 r3 => q cls d G3 H3 ((s1.trans s2).trans s3) a3 r3
end
def dueV (z : Str) : List V := match rdS z with | .ok (a, b) => [.str "ratio", .int a, .int b] | .error k => [.str "text", .int k]
def toldV (z : Str) : List V := match rdS z with | .ok (a, b) => [.str "ratio", .int (Rat.divInt a b).num, .int (Rat.divInt a b).den] | .error k => [.str "text", .int k]
def pDue : Pre := pOk (α := Str) (fun z => z.length ≤ 640) (fun z => [rStr z]) (fun z => rLst ((dueV z).map rEqV))
def pTold : Pre := pOk (α := Str) (fun z => z.length ≤ 640) (fun z => [rStr z]) (fun z => rLst ((toldV z).map rEqV))
def pFits : Pre := pOk (α := Str) (fun z => z.length ≤ 640) (fun z => [rStr z]) (fun z => rBool true)
theorem lst_ix {F : Fx} {ω : Ow} {ws : List Str} {k : Nat} {q : Str} (h : ws[k]? = some q) : Iop F ω (rLst (ws.map rStr)) (rInt (k : Int)) (rStr q) := iop_L (n := k) (ixN_at (by
  have := (List.getElem?_eq_some_iff.mp h).1
  rw [List.length_map]
  exact this)) (by rw [List.getElem?_map, h]; rfl)
section
variable {P : Program} {w : World} {K : PySem.W.Frag} {mg : Str → Option Value} {base : Heap} {C B D f : Addr} {fd : FuncData}
theorem kf_count_of (Fn : Fun K "_law_count_of" "_law_count_of" s__law_count_of f fd) : FnOk P w K mg base (L2.CX P w) 2 f fd P__law_count_of (spM pCnt) := by
  refine fn_ok Fn c__law_count_of (fun _ _ _ _ ⟨_, _, h, _⟩ => by rw [h]; rfl) ?_
  rintro cdv A outer s H E ⟨_, G0, H0, M, W, tk⟩ hr rfl Rs ω o ω' ⟨z, hz, rfl, rfl, rfl, rfl⟩
  have nd := c__law_count_of.nd
  refine hb_if (PWR.tr (tr_or (tr_cmp (er_var 0 rfl) er_str bop_eqS) fun _ => tr_or1 (tr_cmp (er_lcf (xs := tl z) (A := fun c => rStr ⟨#[c]⟩) (B := fun c => rStr ⟨#[c]⟩) (p := fun c => !decide (c ∈ tl digs)) (it_str (er_var 0 rfl)) (by rw [← len_tl]; omega) [("_law_sign", 1)]
    (blkOk_by (N := N__law_count_of) (sc := defScope s__law_count_of) (by decide +kernel)) (fun _ _ _ _ _ => pg_name (i := 1) nd rfl (Or.inl rfl)) (fun i a h => gew_name) (fun i a h s H0 cc cl fp d => tr_cmp (er_var 1 rfl) er_str bop_niC) (fun i a h _ s H0 cc cl fp d => er_var 1 rfl) nd) (er_lst ar_nil (by decide)) (bop_neE (hr.mono (by decide)))))) (fun hb => ?_) (fun hb => hb_nil ?_)
  · refine hb_ret er_bl ⟨_, [], rfl, fun v G h => ?_, rfl⟩
    rw [show v = V.bl false from h]
    show V.bl false = V.bl (cntL (tl z))
    rw [Bool.or_eq_true] at hb
    rcases hb with hb | hb
    · have e : z = Str.ofString "" := of_decide_eq_true hb
      rw [cntL_nil (by rw [e, tl_lit]; rfl)]
    · rw [cntL_not]
      have hne : ¬ ((tl z).filter fun c => !decide (c ∈ tl digs)) = [] := fun e => by
        rw [e] at hb
        simp at hb
      refine Bool.eq_false_iff.mpr fun hall => hne ?_
      refine List.filter_eq_nil_iff.mpr fun c hc => ?_
      rw [mem_digs, List.all_eq_true.mp hall c hc]
      decide
  · rw [Bool.or_eq_false_iff] at hb
    obtain ⟨h1, h2⟩ := hb
    have h2 : (tl z).all isD = true := by
      have e : ((tl z).filter fun c => !decide (c ∈ tl digs)) = [] := by simpa using h2
      refine List.all_eq_true.mpr fun c hc => ?_
      have := List.filter_eq_nil_iff.mp e c hc
      rw [mem_digs] at this
      simpa using this
    cases e : tl z with
    | nil => exact absurd (ext_tl (by rw [e, tl_lit]; rfl)) (of_decide_eq_false h1)
    | cons c l =>
      rw [e] at h2
      refine hb_ret (er_or (er_cmp (er_var 0 rfl) er_str bop_eqS) fun _ => er_one (er_cmp (er_ix (er_var 0 rfl) er_int (iop_str (c := c) (atI_nat (j := 0) (by show (tl z)[0]? = _; rw [e]; rfl)) (by omega))) er_str bop_neS)) ⟨_, [], rfl, fun v G h => ?_, rfl⟩
      rw [show v = V.bl _ from h]
      show V.bl _ = V.bl (cntL (tl z))
      rw [e, cntL_cons h2, dec_str, dec_str (x := ⟨#[c]⟩), e, tl_one, tl_lit, Bool.or_comm]
      rfl
theorem rd_top0 {w0 : List Nat} {rest : List (List Nat)} (h : rest.length > 1 ∨ topL w0 = false) : rdL (w0 :: rest) = .error 0 := by
  match rest, h with
  | [], h =>
    have h := h.resolve_left (by simp)
    show (if topL w0 then _ else _) = _
    rw [h]
    rfl
  | [_], h =>
    have h := h.resolve_left (by simp)
    show (if topL w0 then _ else _) = _
    rw [h]
    rfl
  | _ :: _ :: _, _ => rfl
theorem kf_due_of (Fn : Fun K "_law_due_of" "_law_due_of" s__law_due_of f fd) (Tc : Kf1 P w K mg base "_law_count_of" 2 pCnt) (int : mg "int" = none) (len : mg "len" = none) : FnOk P w K mg base (L2.CX P w) 4 f fd P__law_due_of (spM pDue) := by
  refine fn_ok Fn c__law_due_of (fun _ _ _ _ ⟨_, _, h, _⟩ => by rw [h]; rfl) ?_
  rintro cdv A outer s H E ⟨_, G0, H0, M, W, tk⟩ hr rfl Rs ω o ω' ⟨z, hz, rfl, rfl, rfl, rfl⟩
  have nd := c__law_due_of.nd
  have hws := fun w hw => Nat.le_trans (words_le (z := z) (w := w) hw) hz
  have hne := words_ne z
  refine hb_set 1 (er_bm PySem.F.plainAttrs_str PySem.F.slot_str_split PySem.F.type_str_split (er_var 0 rfl) (ar_cons er_str ar_nil) (mop_split (by decide) (by omega)) ty_str) ?_ nd
  show HB _ [some (rStr z), some (rLst ((wordsOf z).map rStr)), none, none, none] [] _ (Kf (.ok (rLst ((dueV z).map rEqV))) [])
  unfold dueV rdS
  generalize wordsOf z = ws at *
  obtain ⟨w0, rest, rfl⟩ : ∃ w0 rest, ws = w0 :: rest := by
    cases ws with
    | nil => exact absurd rfl hne
    | cons a l => exact ⟨a, l, rfl⟩
  have l0 := hws w0 List.mem_cons_self
  have e45 : tl (Str.ofString "-") = [45] := by rw [tl_lit]; rfl
  have e48 : tl (Str.ofString "0") = [48] := by rw [tl_lit]; rfl
  have e4548 : tl (Str.ofString "-0") = [45, 48] := by rw [tl_lit]; rfl
  refine hb_set 2 (er_ix (er_var 1 rfl) er_int (lst_ix (k := 0) rfl)) ?_ nd
  refine hb_set (R := rBool (topL (tl w0))) 3 (er_eq (er_or (er_fn0 Tc (hr.mono (by decide)) (ar_cons (er_var 2 rfl) ar_nil) (pCntOk l0)) fun _ => er_one (er_and (er_cmp (er_slice (er_var 2 rfl) pr_none (pr_some er_int) (sop_str (by omega))) er_str bop_eqS) fun _ => er_and (er_fn0 Tc (hr.mono (by decide)) (ar_cons (er_slice (er_var 2 rfl) (pr_some er_int) pr_none (sop_str (by omega))) ar_nil) (pCntOk (Nat.le_trans (cut_len _ _ _) l0))) fun _ => er_one (er_cmp (er_var 2 rfl) er_str bop_neS))) ?_) ?_ nd
  · have e : (cntL (tl w0) || (decide (cutS w0 none (some 1) = Str.ofString "-") && (cntL (tl (cutS w0 (some 1) none)) && !decide (w0 = Str.ofString "-0")))) = topL (tl w0) := by
      rw [dec_str, dec_str (x := w0), tl_head, tl_rest, e45, e4548]
      unfold topL
      by_cases h : (tl w0).take 1 = [45]
      · rw [if_pos h, decide_eq_true h, Bool.true_and]
        have : cntL (tl w0) = false := Bool.eq_false_iff.mpr fun z => cnt_nominus z h
        rw [this, Bool.false_or]
      · rw [if_neg h, decide_eq_false h, Bool.false_and, Bool.or_false]
    exact congrArg rBool e
  refine hb_if (PWR.tr (tr_or (tr_cmp (er_callB cop_lenL rfl len bt_len (ar_cons (er_var 1 rfl) ar_nil)) er_int bop_gt) fun _ => tr_or1 (tr_not (tr_val (er_var 3 rfl))))) (fun hb => ?_) (fun hb => hb_nil ?_)
  · have e : rdL ((w0 :: rest).map tl) = .error 0 := by
      refine rd_top0 ?_
      rw [Bool.or_eq_true] at hb
      rcases hb with hb | hb
      · left
        have := of_decide_eq_true hb
        rw [List.length_map, List.length_cons] at this
        rw [List.length_map]
        omega
      · right
        simpa using hb
    rw [e]
    exact hb_ret (er_lst (ar_cons er_str (ar_cons er_int ar_nil)) (Nat.le_of_ble_eq_true rfl)) ⟨_, [], rfl, fun _ _ h => h, rfl⟩
  · rw [Bool.or_eq_false_iff] at hb
    have ht : topL (tl w0) = true := by simpa using hb.2
    have hl := of_decide_eq_false hb.1
    rw [List.length_map] at hl
    have iw0 := int_top ht l0
    match rest, hl, hws with
    | [], _, hws =>
      have e : rdL (([w0] : List Str).map tl) = .ok (valL (tl w0), 1) := by
        show (if topL (tl w0) then _ else _) = _
        rw [ht]
        rfl
      rw [e]
      refine hb_if (b := false) (tr_to (PWR.tr (tr_and (m := false) (tr_cmp (er_callB cop_lenL rfl len bt_len (ar_cons (er_var 1 rfl) ar_nil)) er_int bop_eqI) fun z => absurd (of_decide_eq_true z) (by show ¬ ((1 : Nat) : Int) = 2; decide))) (Bool.and_false _)) (fun z => Bool.noConfusion z) (fun _ => hb_nil ?_)
      refine hb_set 4 er_int ?_ nd
      refine hb_if (b := false) (tr_cmp (er_callB cop_lenL rfl len bt_len (ar_cons (er_var 1 rfl) ar_nil)) er_int bop_eqI) (fun z => Bool.noConfusion z) (fun _ => hb_nil ?_)
      exact hb_ret (er_lst (ar_cons er_str (ar_cons (er_callTy (cop_intS iw0 l0) rfl int bt_int (ar_cons (er_var 2 rfl) ar_nil)) (ar_cons (er_var 4 rfl) ar_nil))) (Nat.le_of_ble_eq_true rfl)) ⟨_, [], rfl, fun _ _ h => h, rfl⟩
    | [w1], _, hws =>
      have l1 := hws w1 (List.mem_cons_of_mem _ List.mem_cons_self)
      refine hb_if (PWR.tr (tr_and (tr_cmp (er_callB cop_lenL rfl len bt_len (ar_cons (er_var 1 rfl) ar_nil)) er_int bop_eqI) fun _ => tr_and1 (PWR.tr (tr_or (tr_not (tr_val (er_fn0 Tc (hr.mono (by decide)) (ar_cons (er_ix (er_var 1 rfl) er_int (lst_ix (k := 1) rfl)) ar_nil) (pCntOk l1)))) fun _ => tr_or1 (tr_cmp (er_ix (er_var 1 rfl) er_int (lst_ix (k := 1) rfl)) er_str bop_eqS))))) (fun hb => ?_) (fun hb => hb_nil ?_)
      · have e : rdL (([w0, w1] : List Str).map tl) = .error 1 := by
          show (if topL (tl w0) then (if cntL (tl w1) && !decide (tl w1 = [48]) then _ else _) else _) = _
          rw [ht]
          rw [Bool.and_eq_true, dec_str, e48] at hb
          replace hb := hb.2
          have : (cntL (tl w1) && !decide (tl w1 = [48])) = false := by
            cases h1 : cntL (tl w1) <;> rw [h1] at hb <;> simp at hb ⊢
            exact hb
          rw [this]
          rfl
        rw [e]
        exact hb_ret (er_lst (ar_cons er_str (ar_cons er_int ar_nil)) (Nat.le_of_ble_eq_true rfl)) ⟨_, [], rfl, fun _ _ h => h, rfl⟩
      · replace hb : (true && (!cntL (tl w1) || decide (w1 = Str.ofString "0"))) = false := hb
        rw [Bool.true_and, dec_str, e48, Bool.or_eq_false_iff] at hb
        have hc : cntL (tl w1) = true := by simpa using hb.1
        have e : rdL (([w0, w1] : List Str).map tl) = .ok (valL (tl w0), valL (tl w1)) := by
          show (if topL (tl w0) then (if cntL (tl w1) && !decide (tl w1 = [48]) then _ else _) else _) = _
          rw [ht, hc, hb.2]
          rfl
        rw [e]
        refine hb_set 4 er_int ?_ nd
        refine hb_if (b := true) (tr_cmp (er_callB cop_lenL rfl len bt_len (ar_cons (er_var 1 rfl) ar_nil)) er_int bop_eqI) (fun _ => ?_) (fun z => Bool.noConfusion z)
        refine hb_set 4 (er_callTy (cop_intS (int_cnt hc l1) l1) rfl int bt_int (ar_cons (er_ix (er_var 1 rfl) er_int (lst_ix (k := 1) rfl)) ar_nil)) (hb_nil ?_) nd
        exact hb_ret (er_lst (ar_cons er_str (ar_cons (er_callTy (cop_intS iw0 l0) rfl int bt_int (ar_cons (er_var 2 rfl) ar_nil)) (ar_cons (er_var 4 rfl) ar_nil))) (Nat.le_of_ble_eq_true rfl)) ⟨_, [], rfl, fun _ _ h => h, rfl⟩
    | _ :: _ :: _, hl, _ => exact absurd (by simp only [List.length_cons]; omega) hl
theorem kf_told_of (Fn : Fun K "_law_told_of" "_law_told_of" s__law_told_of f fd) (X : RatX K mg C) (Tr : Kcm P w K mg base C "read" 5 (pRead C D)) (gD : mg "BadText" = some (.ref D)) (xD : XfC K D) (nD : PySem.W.findIn K (.ref D) "at" = some none) (te : PySem.W.exmOne K (.ref D) (.ref D) = some true) : FnOk P w K mg base (L2.CX P w) 6 f fd P__law_told_of (spM pTold) := by
  refine fn_ok Fn c__law_told_of (fun _ _ _ _ ⟨_, _, h, _⟩ => by rw [h]; rfl) ?_
  rintro cdv A outer s H E ⟨_, G0, H0, M, W, tk⟩ hr rfl Rs ω o ω' ⟨z, hz, rfl, rfl, rfl, rfl⟩
  have nd := c__law_told_of.nd
  show HB _ _ _ _ (Kf (.ok (rLst ((toldV z).map rEqV))) [])
  have pr : pRead C D [rRef C, rStr z] [] _ [] := ⟨z, hz, rfl, rfl, rfl, rfl⟩
  unfold toldV
  cases e : rdS z with
  | ok ab =>
    obtain ⟨a, b⟩ := ab
    rw [e] at pr
    refine hb_try_as 2 ?_ rfl rfl nd ⟨rfl, by decide, .inl gD⟩
    rintro ⟨_, G1, H1, M1, W1, tk1⟩ ⟨⟨pn, xe, e, pa⟩, e1, e2, e3⟩
    cases e
    refine hb_set 1 (er_cm Tr hr (er_glob rfl X.gC rfl) (ar_cons (er_var 0 rfl) ar_nil) pr) (hb_nil ?_) nd
    exact hb_ret (er_lst (ar_cons er_str (ar_cons (er_top X (er_var 1 rfl)) (ar_cons (er_bot X (er_var 1 rfl)) ar_nil))) (Nat.le_of_ble_eq_true rfl)) ⟨_, [], rfl, fun _ _ h => h, rfl⟩
  | error k =>
    rw [e] at pr
    refine hb_try_as 2 ?_ rfl rfl nd ⟨rfl, by decide, .inl gD⟩
    rintro ⟨_, G1, H1, M1, W1, tk1⟩ ⟨⟨pn, xe, e, pa⟩, e1, e2, e3⟩
    cases e
    refine hb_setX 1 (ex_cm Tr hr (er_glob rfl X.gC rfl) (ar_cons (er_var 0 rfl) ar_nil) pr) (Or.inl ⟨D, "at", rInt k, fun _ _ _ h => h, te, ?_⟩) nd
    rintro a dd ⟨_, G2, H2, M2, W2, tk2⟩ S
    obtain ⟨⟨oe, pn', e, hz', hd⟩, -, -, -⟩ := id S
    cases e
    exact hb_ret (er_lst (ar_cons er_str (ar_cons (er_xf S xD nD (er_var 2 rfl)) ar_nil)) (Nat.le_of_ble_eq_true rfl)) ⟨_, [], rfl, fun _ _ h => h, rfl⟩
end
end W1
set_option maxRecDepth 100000
set_option maxHeartbeats 2000000
set_option exponentiation.threshold 20000
namespace W1
open PySem PySem.Spec PyProof.Rows L2 NdefX TL NumText

theorem eqv_si (a : Str) (k : Int) : ∀ x ∈ [V.str a, V.int k], eqV x x = true := by
  intro x hx
  simp only [List.mem_cons, List.not_mem_nil, or_false] at hx
  rcases hx with rfl | rfl <;> simp [eqV]
theorem flat_si (a : Str) (k : Int) : ∀ x ∈ [V.str a, V.int k], flatV x = true := by
  intro x hx
  simp only [List.mem_cons, List.not_mem_nil, or_false] at hx
  rcases hx with rfl | rfl <;> rfl
theorem val_lt_top {l : List Nat} (h : topL l = true) (hl : l.length ≤ 640) : (valL l).natAbs < 2 ^ 2560 := by
  unfold topL at h
  by_cases hm : l.take 1 = [45]
  · rw [if_pos hm, Bool.and_eq_true] at h
    have h1 := val_lt h.1 (Nat.le_trans (by rw [List.length_drop]; omega) hl)
    rw [val_cnt h.1] at h1
    unfold valL
    rw [if_pos hm, Int.natAbs_neg]
    exact h1
  · rw [if_neg hm] at h
    exact val_lt h hl
theorem rd_a {z : Str} {a b : Int} (h : rdS z = .ok (a, b)) (hz : z.length ≤ 640) : a.natAbs < 2 ^ 2560 := by
  unfold rdS at h
  have hw : ∀ l ∈ (wordsOf z).map tl, l.length ≤ 640 := fun l hl => by
    obtain ⟨w, hw, rfl⟩ := List.mem_map.mp hl
    rw [← len_tl]
    exact Nat.le_trans (words_le hw) hz
  generalize (wordsOf z).map tl = ls at h hw
  match ls, h, hw with
  | [], h, _ => cases h
  | [x], h, hw =>
    replace h : (if topL x then Except.ok (valL x, 1) else .error 0 : Except Int (Int × Int)) = Except.ok (a, b) := h
    split at h
    · next hx =>
      cases h
      exact val_lt_top hx (hw x List.mem_cons_self)
    · cases h
  | [x, y], h, hw =>
    replace h : (if topL x then (if cntL y && !decide (y = [48]) then Except.ok (valL x, valL y) else .error 1) else .error 0 : Except Int (Int × Int)) = Except.ok (a, b) := h
    split at h
    · next hx =>
      split at h
      · cases h
        exact val_lt_top hx (hw x List.mem_cons_self)
      · cases h
    · cases h
  | _ :: _ :: _ :: _, h, _ => cases h
abbrev sgn : Str := Str.ofString "0123456789-/ +x_."
def chgI (s : Pool) (z : Str) : Int := drR (drS s 5) ((z.length : Int) + 1)
def chgT (s : Pool) (z : Str) : Pool := drS (drS s 5) ((z.length : Int) + 1)
def sgnAt (s : Pool) : Nat := (tl sgn).getD (drR s 17).toNat 0
def chgZ (s : Pool) (z : Str) : Str :=
  if drR s 5 = 0 then cutS z none (some (chgI s z)) ++ cutS z (some (chgI s z + 1)) none
  else if drR s 5 = 1 then cutS z none (some (chgI s z)) ++ ⟨#[sgnAt (chgT s z)]⟩ ++ cutS z (some (chgI s z)) none
  else if drR s 5 = 2 then Txt.join slash (wordsOf z).reverse
  else if drR s 5 = 3 then z ++ slash ++ z
  else cutS z none (some (chgI s z)) ++ cutS z (some (if chgI s z - 1 > 0 then chgI s z - 1 else 0)) none
def chgS (s : Pool) (z : Str) : Pool := if drR s 5 = 1 then drS (chgT s z) 17 else chgT s z
theorem sgn_some (s : Pool) : atI (tl sgn) (drR s 17) = some (sgnAt s) := by
  obtain ⟨h1, h2⟩ := drR_lt (s := s) (L := 17) (by decide)
  have e : tl sgn = [48, 49, 50, 51, 52, 53, 54, 55, 56, 57, 45, 47, 32, 43, 120, 95, 46] := by rw [tl_ofString]; rfl
  have hl : (tl sgn).length = 17 := by rw [e]; rfl
  have hk : (drR s 17).toNat < (tl sgn).length := by rw [hl]; omega
  have e2 : drR s 17 = ((drR s 17).toNat : Int) := by omega
  rw [e2]
  refine atI_nat ?_
  rw [List.getElem?_eq_getElem hk]
  unfold sgnAt
  rw [List.getD_eq_getElem?_getD, List.getElem?_eq_getElem (by omega)]
  simp
theorem joinL_len {S : Nat} : ∀ {ps : List (List Nat)}, ps ≠ [] → (joinL [S] ps).length + 1 = (ps.map List.length).sum + ps.length
  | [], h => absurd rfl h
  | [p], _ => by simp [joinL]
  | p :: q :: r, _ => by
    have := joinL_len (S := S) (ps := q :: r) (by simp)
    show (p ++ ([S] ++ joinL [S] (q :: r))).length + 1 = _
    rw [List.length_append, List.length_append, List.length_singleton, List.map_cons, List.sum_cons, List.length_cons]
    omega
theorem rev_sum (z : Str) : ((wordsOf z).reverse.map (·.length)).sum + (wordsOf z).reverse.length = z.length + 1 := by
  rw [List.map_reverse, List.sum_reverse, List.length_reverse]
  exact words_sum z
theorem join_len (z : Str) : (Txt.join slash (wordsOf z).reverse).length = z.length := by
  rw [join_eq, len_tl, tl_join, tl_slash]
  have h := joinL_len (S := 47) (ps := (wordsOf z).reverse.map tl) (fun e => words_ne z (List.reverse_eq_nil_iff.mp (List.map_eq_nil_iff.mp e)))
  have h2 := rev_sum z
  rw [List.map_map, List.length_map] at h
  have e : (wordsOf z).reverse.map (·.length) = (wordsOf z).reverse.map (List.length ∘ tl) := List.map_congr_left fun w _ => len_tl w
  rw [e] at h2
  omega
theorem slash_len : slash.length = 1 := by rw [len_tl, tl_slash]; rfl
theorem chg_len (s : Pool) (z : Str) : (chgZ s z).length ≤ 2 * z.length + 1 := by
  have h := cut_len z
  unfold chgZ
  split
  · rw [strlen_app]
    have h1 := h none (some (chgI s z))
    have h2 := h (some (chgI s z + 1)) none
    omega
  · split
    · rw [strlen_app, strlen_app]
      have h1 := h none (some (chgI s z))
      have h2 := h (some (chgI s z)) none
      have h3 : (⟨#[sgnAt (chgT s z)]⟩ : Str).length = 1 := rfl
      omega
    · split
      · rw [join_len]; omega
      · split
        · rw [strlen_app, strlen_app, slash_len]; omega
        · rw [strlen_app]
          have h1 := h none (some (chgI s z))
          have h2 := h (some (if chgI s z - 1 > 0 then chgI s z - 1 else 0)) none
          omega
def pChg : Pre := fun Rs w o w' => ∃ (q : Addr) (s : Pool) (z : Str), z.length ≤ 300 ∧ Rs = [rRef q, rStr z] ∧ w = [(q, oPool s)] ∧ w' = [(q, oPool (chgS s z))] ∧ o = .ok (rStr (chgZ s z))
section
variable {P : Program} {w : World} {K : PySem.W.Frag} {mg : Str → Option Value} {base : Heap} {C B D f : Addr} {fd : FuncData}
theorem kf_fits (Fn : Fun K "_law_fits" "_law_fits" s__law_fits f fd) (Td : Kf1 P w K mg base "_law_due_of" 4 pDue) (Tt : Kf1 P w K mg base "_law_told_of" 6 pTold) : FnOk P w K mg base (L2.CX P w) 7 f fd P__law_fits (spM pFits) := by
  refine fn_ok Fn c__law_fits (fun _ _ _ _ ⟨_, _, h, _⟩ => by rw [h]; rfl) ?_
  rintro cdv A outer s H E ⟨_, G0, H0, M, W, tk⟩ hr rfl Rs ω o ω' ⟨z, hz, rfl, rfl, rfl, rfl⟩
  have nd := c__law_fits.nd
  have hz : z.length ≤ 640 := hz
  refine hb_par 1 2 (ar_cons (er_fn0 Td (hr.mono (by decide)) (ar_cons (er_var 0 rfl) ar_nil) ⟨z, hz, rfl, rfl, rfl, rfl⟩) (ar_cons (er_fn0 Tt (hr.mono (by decide)) (ar_cons (er_var 0 rfl) ar_nil) ⟨z, hz, rfl, rfl, rfl, rfl⟩) ar_nil)) ?_ nd
  show HB _ [some (rStr z), some (rLst ((dueV z).map rEqV)), some (rLst ((toldV z).map rEqV))] [] _ _
  have ne : decide (Str.ofString "ratio" = Str.ofString "text") = false := by decide +kernel
  have hnz := fun a b h => rd_nz (z := z) (a := a) (b := b) h hz
  unfold dueV toldV
  cases e : rdS z with
  | error k =>
    refine hb_if (b := true) (tr_to (PWR.tr (tr_or (m := true) (tr_cmp (er_ix (er_var 1 rfl) er_int (iop_L (n := 0) rfl rfl)) er_str bop_eqS) fun h => absurd h (by rw [decide_eq_true rfl]; decide))) (by rw [decide_eq_true rfl]; rfl)) (fun _ => ?_) (fun z => Bool.noConfusion z)
    exact hb_ret (er_cmp (er_var 1 rfl) (er_var 2 rfl) (list_same (xs := [.str "text", .int k]) (flat_si _ _) (eqv_si _ _) (hr.mono (by decide)))) ⟨_, [], rfl, fun _ _ h => h, rfl⟩
  | ok ab =>
    obtain ⟨a, b⟩ := ab
    obtain ⟨n1, n2⟩ := hnz a b e
    refine hb_if (b := false) (tr_to (PWR.tr (tr_or (tr_cmp (er_ix (er_var 1 rfl) er_int (iop_L (n := 0) rfl rfl)) er_str bop_eqS) fun _ => tr_or1 (tr_cmp (er_ix (er_var 2 rfl) er_int (iop_L (n := 0) rfl rfl)) er_str bop_eqS))) (by show (decide (Str.ofString "ratio" = Str.ofString "text") || decide (Str.ofString "ratio" = Str.ofString "text")) = false; rw [ne]; rfl)) (fun z => Bool.noConfusion z) (fun _ => hb_nil ?_)
    have n0 := rd_a e hz
    have hq : Sz 2560 (Rat.divInt a b) := sz_divInt n1 n0 n2
    refine hb_ret (er_and (er_cmp (er_bin (er_ix (er_var 1 rfl) er_int (iop_L (n := 1) rfl rfl)) (er_ix (er_var 2 rfl) er_int (iop_L (n := 2) rfl rfl)) (bop_mul (mulok n0 (sz_int hq)))) (er_bin (er_ix (er_var 2 rfl) er_int (iop_L (n := 1) rfl rfl)) (er_ix (er_var 1 rfl) er_int (iop_L (n := 2) rfl rfl)) (bop_mul (mulok hq.1 n2))) bop_eqI) fun _ => er_one (er_cmp (er_ix (er_var 2 rfl) er_int (iop_L (n := 2) rfl rfl)) er_int bop_gt)) ⟨_, [], rfl, fun v G h => ?_, rfl⟩
    rw [show v = V.bl _ from h]
    show V.bl (decide (a * (Rat.divInt a b).den = (Rat.divInt a b).num * b) && decide ((0 : Int) < (Rat.divInt a b).den)) = V.bl true
    have hc : (Rat.divInt a b).num * b = a * (Rat.divInt a b).den := by
      have e1 := Rat.num_divInt_den (Rat.divInt a b)
      exact (Rat.divInt_eq_divInt_iff den_ne n1).mp e1
    have hp := (Rat.divInt a b).den_pos
    rw [decide_eq_true hc.symm, decide_eq_true (by omega)]
    rfl
theorem kf_changed (Fn : Fun K "_law_changed" "_law_changed" s__law_changed f fd) (Td : Kf1 P w K mg base "_law_draw" 1 pDraw) (len : mg "len" = none) (max : mg "max" = none) : FnOk P w K mg base (L2.CX P w) 2 f fd P__law_changed (spM pChg) := by
  refine fn_ok Fn c__law_changed (fun _ _ _ _ ⟨_, _, _, _, h, _⟩ => by rw [h]; rfl) ?_
  rintro cdv A outer s H E ⟨_, G0, H0, M, W, tk⟩ hr rfl Rs ω o ω' ⟨q, s, z, hz, rfl, rfl, rfl, rfl⟩
  have nd := c__law_changed.nd
  have hcut := fun lo hi => Nat.le_trans (cut_len z lo hi) hz
  refine hb_set 2 (er_fn (wc := [(q, oPool s)]) (w := []) Td hr (ar_cons (er_var 0 rfl) (ar_cons er_int ar_nil)) ⟨q, s, 5, by decide, lt9000 (n := 3) (by decide) (by decide), rfl, rfl, rfl, rfl⟩) ?_ nd
  have hz' : z.length ≤ 300 := hz
  have hlen : ∀ {F : Fx} {ω : Ow}, Cop F ω (.builtin "len") [rStr z] (rInt (z.length : Int)) := fun {F ω} => cop_of1 call_len_str fun _ _ q => ⟨z, rfl, Nat.le_trans hz' (by decide), q⟩
  have hL : ((z.length : Int) + 1).natAbs < 2 ^ 10 := by
    have : (2 : Nat) ^ 10 = 1024 := by decide
    omega
  refine hb_set 3 (er_fn (wc := [(q, oPool (drS s 5))]) (w := []) Td hr (ar_cons (er_var 0 rfl) (ar_cons (er_bin (er_callB hlen rfl len bt_len (ar_cons (er_var 1 rfl) ar_nil)) er_int bop_add) ar_nil)) ⟨q, drS s 5, (z.length : Int) + 1, by omega, lt9000 (n := 10) hL (by decide), rfl, rfl, rfl, rfl⟩) ?_ nd
  show HB _ [some (rRef q), some (rStr z), some (rInt (drR s 5)), some (rInt (chgI s z))] [(q, oPool (chgT s z))] _ (Kf (.ok (rStr (chgZ s z))) [(q, oPool (chgS s z))])
  refine hb_if (tr_cmp (er_var 2 rfl) er_int bop_eqI) (fun hb => ?_) (fun hb => hb_nil ?_)
  · have h := of_decide_eq_true hb
    refine hb_ret (er_bin (er_slice (er_var 1 rfl) pr_none (pr_some (er_var 3 rfl)) (sop_str (by omega))) (er_slice (er_var 1 rfl) (pr_some (er_bin (er_var 3 rfl) er_int bop_add)) pr_none (sop_str (by omega))) (bop_addS (by have h1 := hcut none (some (chgI s z)); have h2 := hcut (some (chgI s z + 1)) none; omega))) ⟨_, [], rfl, fun v G z' => ?_, ?_⟩
    · show (rStr (chgZ s z)).r v G
      unfold chgZ
      rw [if_pos h]
      exact z'
    · unfold chgS
      rw [if_neg (by omega)]
      rfl
  have n0 := of_decide_eq_false hb
  refine hb_if (tr_cmp (er_var 2 rfl) er_int bop_eqI) (fun hb => ?_) (fun hb => hb_nil ?_)
  · have h := of_decide_eq_true hb
    refine hb_ret (er_bin (er_bin (er_slice (er_var 1 rfl) pr_none (pr_some (er_var 3 rfl)) (sop_str (by omega))) (er_ix er_str (er_fn (wc := [(q, oPool (chgT s z))]) (w := []) Td hr (ar_cons (er_var 0 rfl) (ar_cons er_int ar_nil)) ⟨q, chgT s z, 17, by decide, lt9000 (n := 5) (by decide) (by decide), rfl, rfl, rfl, rfl⟩) (iop_str (c := sgnAt (chgT s z)) (sgn_some _) (by decide))) (bop_addS (by
      have h1 := hcut none (some (chgI s z))
      have h3 : (⟨#[sgnAt (chgT s z)]⟩ : Str).length = 1 := rfl
      omega))) (er_slice (er_var 1 rfl) (pr_some (er_var 3 rfl)) pr_none (sop_str (by omega))) (bop_addS (by
      rw [strlen_app]
      have h1 := hcut none (some (chgI s z))
      have h2 := hcut (some (chgI s z)) none
      have h3 : (⟨#[sgnAt (chgT s z)]⟩ : Str).length = 1 := rfl
      omega))) ⟨_, [], rfl, fun v G z' => ?_, ?_⟩
    · show (rStr (chgZ s z)).r v G
      unfold chgZ
      rw [if_neg n0, if_pos h]
      exact z'
    · unfold chgS
      rw [if_pos h]
  have n1 := of_decide_eq_false hb
  have hS : chgS s z = chgT s z := by
    unfold chgS
    rw [if_neg n1]
  rw [hS]
  refine hb_if (tr_cmp (er_var 2 rfl) er_int bop_eqI) (fun hb => ?_) (fun hb => hb_nil ?_)
  · have h := of_decide_eq_true hb
    have jl := rev_sum z
    refine hb_ret (er_bm PySem.F.plainAttrs_str PySem.F.slot_str_join PySem.F.type_str_join er_str (ar_cons (er_eq (S := rLst ((wordsOf z).reverse.map rStr)) (er_revL (er_bm PySem.F.plainAttrs_str PySem.F.slot_str_split PySem.F.type_str_split (er_var 1 rfl) (ar_cons er_str ar_nil) (mop_split (by decide) (by omega)) ty_str)) (by rw [List.map_reverse]; rfl)) ar_nil) (mop_join (by rw [slash_len]; omega)) ty_str) ⟨_, [], rfl, fun v G z' => ?_, rfl⟩
    show (rStr (chgZ s z)).r v G
    unfold chgZ
    rw [if_neg n0, if_neg n1, if_pos h]
    exact z'
  have n2 := of_decide_eq_false hb
  refine hb_if (tr_cmp (er_var 2 rfl) er_int bop_eqI) (fun hb => ?_) (fun hb => hb_nil ?_)
  · have h := of_decide_eq_true hb
    refine hb_ret (er_bin (er_bin (er_var 1 rfl) er_str (bop_addS (by rw [slash_len]; omega))) (er_var 1 rfl) (bop_addS (by rw [strlen_app, slash_len]; omega))) ⟨_, [], rfl, fun v G z' => ?_, rfl⟩
    show (rStr (chgZ s z)).r v G
    unfold chgZ
    rw [if_neg n0, if_neg n1, if_neg n2, if_pos h]
    exact z'
  have n3 := of_decide_eq_false hb
  refine hb_ret (er_bin (er_slice (er_var 1 rfl) pr_none (pr_some (er_var 3 rfl)) (sop_str (by omega))) (er_slice (er_var 1 rfl) (pr_some (er_callB (cop_max2 rfl) rfl max bt_max (ar_cons er_int (ar_cons (er_bin (er_var 3 rfl) er_int bop_sub) ar_nil)))) pr_none (sop_str (by omega))) (bop_addS (by
    have h1 := hcut none (some (chgI s z))
    have h2 := hcut (some (if chgI s z - 1 > 0 then chgI s z - 1 else 0)) none
    omega))) ⟨_, [], rfl, fun v G z' => ?_, rfl⟩
  show (rStr (chgZ s z)).r v G
  unfold chgZ
  rw [if_neg n0, if_neg n1, if_neg n2, if_neg n3]
  exact z'
end
end W1
set_option maxRecDepth 100000
set_option maxHeartbeats 2000000
set_option exponentiation.threshold 20000
namespace W1
open PySem PySem.Spec PyProof.Rows L2 NdefX TL NumText

def szs : List Int := [3, 50, 10 ^ 9, 10 ^ 60]
def sizeZ (s : Pool) : Int := szs.getD (drR s 4).toNat 0
theorem sizeZ_some (s : Pool) : szs[(drR s 4).toNat]? = some (sizeZ s) := by
  obtain ⟨h1, h2⟩ := drR_lt (s := s) (L := 4) (by decide)
  have h : (drR s 4).toNat < szs.length := by
    show (drR s 4).toNat < 4
    omega
  unfold sizeZ
  rw [List.getD_eq_getElem?_getD, List.getElem?_eq_getElem h]
  rfl
theorem sizeZ_le (s : Pool) : 0 < sizeZ s ∧ sizeZ s ≤ 10 ^ 60 := by
  have h := List.mem_of_getElem? (sizeZ_some s)
  have all : ∀ z ∈ szs, 0 < z ∧ z ≤ 10 ^ 60 := by decide
  exact all _ h
theorem rd_str (q : Rat) : rdS (strR q) = .ok (q.num, (q.den : Int)) := by
  unfold strR
  split
  · next h => rw [rd_one, h]; rfl
  · next h => exact rd_two q.num q.den q.den_nz
theorem tens : (10 : Int) ^ 60 = 1000000000000000000000000000000000000000000000000000000000000 ∧ (10 : Nat) ^ 61 = 10000000000000000000000000000000000000000000000000000000000000 ∧ (2 : Nat) ^ 210 = 1645504557321206042154969182557350504982735865633579863348609024 := ⟨by decide, by decide, by decide⟩
theorem rd_empty : rdS (Str.ofString "") = .error 0 := by
  unfold rdS
  rw [words_tl, tl_lit]
  rfl
theorem rd_half : rdS (Str.ofString "1/") = .error 1 := by
  unfold rdS
  rw [words_tl, tl_lit, show "1/".toList.map Char.toNat = [49, 47] from rfl]
  rfl
def pLaw (K : PySem.W.Frag) : Pre := pOk (α := List Int) (fun ns => ns.length ≤ 63) (fun ns => [rScr K (ns.map V.int)]) (fun _ => rBool true)
theorem rng_get {lo : Int} {n k : Nat} {S : Rl} (h : (rng lo n)[k]? = some S) : k < n ∧ S = rInt (lo + k) := by
  unfold rng at h
  obtain ⟨j, hj, rfl⟩ := map_get h
  obtain ⟨hl, e⟩ := List.getElem?_eq_some_iff.mp hj
  rw [List.getElem_range] at e
  rw [List.length_range] at hl
  subst e
  exact ⟨hl, rfl⟩
theorem cut_mem {xs : List V} {lo hi : Option Int} {x : V} (h : x ∈ cutV xs lo hi) : x ∈ xs := by
  unfold cutV at h
  exact List.mem_of_mem_drop (List.mem_of_mem_take h)
section
variable {P : Program} {w : World} {K : PySem.W.Frag} {mg : Str → Option Value} {base : Heap} {C B D f : Addr} {fd : FuncData}
theorem kf_law (Fn : Fun K "law" "law" s_law f fd) (X : RatX K mg C) (T : Kc P w K mg base C "Ratio" 3 (pInit C B)) (Tr : Kcm P w K mg base C "read" 5 (pRead C D)) (Te : Ko P w K mg base C "__eq__" 5 (pEq C)) (Ts : Ko P w K mg base C "__str__" 2 (pStr C))
    (Tbag : KfN1 P w K mg base "_law_bag" 1 pBag) (Tat : Kf1 P w K mg base "_law_at_of" 1 (pAt K)) (Td : Kf1 P w K mg base "_law_draw" 1 pDraw) (Tt : Kf1 P w K mg base "_law_told_of" 6 pTold) (Tf : Kf1 P w K mg base "_law_fits" 7 pFits) (Tc : Kf1 P w K mg base "_law_changed" 2 pChg)
    (str : mg "str" = none) (range : mg "range" = none) (list : mg "list" = none) :
    FnOk P w K mg base (L2.CX P w) 10 f fd P_law (spM (pLaw K)) := by
  refine fn_ok Fn c_law (fun _ _ _ _ ⟨_, _, h, _⟩ => by rw [h]; rfl) ?_
  rintro cdv A outer s H E ⟨_, G0, H0, M, W, tk⟩ hr rfl Rs ω o ω' ⟨ns, hns, rfl, rfl, rfl, rfl⟩
  have hns : ns.length ≤ 63 := hns
  have nd := c_law.nd
  obtain ⟨t1, t2, t3⟩ := tens
  refine hb_setN 1 (en_fn (wc := []) (wc' := []) (w := []) Tbag (hr.mono (by decide)) (ar_cons (er_fn0 Tat (hr.mono (by decide)) (ar_cons (er_var 0 rfl) (ar_cons er_int ar_nil)) ⟨(ns, 0), trivial, rfl, rfl, rfl, rfl⟩) ar_nil) ⟨atS ns 0, rfl, rfl, rfl, rfl⟩) (fun pq hpq => ?_) nd
  generalize hs0 : ((atS ns 0, (0 : Int), decide ((10 : Int) ^ 18 ≤ atS ns 0)) : Pool) = s0
  have hsz := sizeZ_le s0
  have d0 := drR_lt (s := s0) (L := 4) (by decide)
  have l4 : (4 : Int).natAbs < 2 ^ 3 := by decide
  refine hb_set 2 (er_ix (er_lst (ar_cons er_int (ar_cons er_int (ar_cons (er_bin er_int er_int (bop_pow (i := 10) (j := 9) ⟨by decide, by decide, by decide⟩)) (ar_cons (er_bin er_int er_int (bop_pow (i := 10) (j := 60) ⟨by decide, by decide, by decide⟩)) ar_nil)))) (Nat.le_of_ble_eq_true rfl))
    (er_fn (wc := [(pq, oPool s0)]) (w := []) Td (hr.mono (by decide)) (ar_cons (er_var 1 rfl) (ar_cons er_int ar_nil)) ⟨pq, s0, 4, by decide, lt9000 l4 (by decide), rfl, rfl, rfl, rfl⟩) (iop_L (n := (drR s0 4).toNat) (R := rInt (sizeZ s0)) ?_ ?_)) ?_ nd
  · have e : drR s0 4 = ((drR s0 4).toNat : Int) := by omega
    have e3 := ixN_at (n := 4) (k := (drR s0 4).toNat) (by omega)
    rw [← e] at e3
    exact e3
  · show (szs.map rInt)[(drR s0 4).toNat]? = _
    rw [List.getElem?_map, sizeZ_some]
    rfl
  generalize drS s0 4 = s1
  generalize sizeZ s0 = sz at hsz
  obtain ⟨z1, z2⟩ := hsz
  have l1 : (2 * sz + 1).natAbs < 2 ^ 210 := by omega
  have l2 : sz.natAbs < 2 ^ 210 := by omega
  have d1 := drR_lt (s := s1) (L := 2 * sz + 1) (by omega)
  have d2 := drR_lt (s := drS s1 (2 * sz + 1)) (L := sz) z1
  refine hb_par 3 4 (ar_cons (er_bin (er_fn (wc := [(pq, oPool s1)]) (w := []) Td (hr.mono (by decide)) (ar_cons (er_var 1 rfl) (ar_cons (er_bin (er_bin er_int (er_var 2 rfl) (bop_mul (IntMulOk.of_left (by decide)))) er_int bop_add) ar_nil)) ⟨pq, s1, 2 * sz + 1, by omega, lt9000 l1 (by decide), rfl, rfl, rfl, rfl⟩) (er_var 2 rfl) bop_sub)
    (ar_cons (er_bin er_int (er_fn (wc := [(pq, oPool (drS s1 (2 * sz + 1)))]) (w := []) Td (hr.mono (by decide)) (ar_cons (er_var 1 rfl) (ar_cons (er_var 2 rfl) ar_nil)) ⟨pq, drS s1 (2 * sz + 1), sz, z1, lt9000 l2 (by decide), rfl, rfl, rfl, rfl⟩) bop_add) ar_nil)) ?_ nd
  refine hb_pub (R := rAny) 1 rfl hpq (fun _ _ _ _ => trivial) ?_
  generalize hti : drR s1 (2 * sz + 1) - sz = ti
  generalize hbi : 1 + drR (drS s1 (2 * sz + 1)) sz = bi
  obtain ⟨bn, hbn⟩ : ∃ n : Nat, bi = (n : Int) := ⟨bi.toNat, by omega⟩
  subst hbn
  have hb0 : (bn : Int) ≠ 0 := by omega
  have bt : ti.natAbs < 10 ^ 61 := by omega
  have bb : ((bn : Int)).natAbs < 10 ^ 61 := by omega
  have bt2 : ti.natAbs < 2 ^ 210 := by omega
  have bb2 : ((bn : Int)).natAbs < 2 ^ 210 := by omega
  refine hb_set 5 (er_ratio T (hr.mono (by decide)) (ar_cons (er_var 3 rfl) (ar_cons (er_var 4 rfl) ar_nil)) rfl hb0 (lt9000 bb2 (by decide))) ?_ nd
  have hq : Sz 210 (Rat.divInt ti bn) := sz_divInt hb0 bt2 bb2
  have hqn : (Rat.divInt ti bn).num.natAbs < 10 ^ 61 ∧ (Rat.divInt ti bn).den < 10 ^ 61 := by
    constructor
    · rw [Rat.num_divInt, Int.natAbs_ediv_of_dvd]
      · refine Nat.lt_of_le_of_lt (Nat.div_le_self _ _) ?_
        rw [Int.natAbs_mul, Int.natAbs_sign_of_ne_zero hb0, Nat.one_mul]
        exact bt
      · exact Int.dvd_mul_of_dvd_right (Int.gcd_dvd_right _ ti)
    · rw [Rat.den_divInt, if_neg hb0]
      exact Nat.lt_of_le_of_lt (Nat.div_le_self _ _) bb
  generalize hqe : Rat.divInt ti bn = q at hq hqn
  have hq19 : Sz 1900 q := hq.mono (by decide)
  refine hb_set 6 (er_callTy (cop_oS Ts (hr.mono (by decide)) ⟨q, hq19, rfl, rfl, rfl, rfl⟩) rfl str bt_str (ar_cons (er_var 5 rfl) ar_nil)) ?_ nd
  have ln : (numT q.num).length ≤ 62 := num_len q.num (k := 61) (by decide) hqn.1
  have ld : (numT q.den).length ≤ 62 := num_len q.den (k := 61) (by decide) hqn.2
  have lt : (numT ti).length ≤ 62 := num_len ti (k := 61) (by decide) bt
  have lb : (numT bn).length ≤ 62 := num_len bn (k := 61) (by decide) bb
  have lq : (strR q).length ≤ 125 := by
    unfold strR
    split
    · omega
    · rw [strlen_app, strlen_app, slash_len]; omega
  have l2q : (numT ti ++ slash ++ numT bn).length ≤ 125 := by rw [strlen_app, strlen_app, slash_len]; omega
  have gt : ti.natAbs.log2 < 1920 := log_lt bt2 (by decide) (by decide)
  have gb : ((bn : Int)).natAbs.log2 < 1920 := log_lt bb2 (by decide) (by decide)
  -- what is told of it
  refine hb_if (b := false) (tr_to (PWR.tr (tr_and (tr_cmp (er_bot X (er_var 5 rfl)) er_int bop_eqI) fun _ => tr_and1 (tr_cmp (er_var 6 rfl) (er_callTy (cop_strI (log_num hq19)) rfl str bt_str (ar_cons (er_top X (er_var 5 rfl)) ar_nil)) bop_neS))) ?_) (fun z => Bool.noConfusion z) (fun _ => hb_nil ?_)
  · by_cases h : q.den = 1
    · have e : strR q = numT q.num := by unfold strR; rw [if_pos h]
      show (decide ((q.den : Int) = 1) && !decide (strR q = numT q.num)) = false
      rw [e, decide_eq_true rfl, Bool.not_true, Bool.and_false]
    · have : ¬ (q.den : Int) = 1 := by omega
      show (decide ((q.den : Int) = 1) && !decide (strR q = numT q.num)) = false
      rw [decide_eq_false this, Bool.false_and]
  refine hb_if (b := false) (tr_to (PWR.tr (tr_and (tr_cmp (er_bot X (er_var 5 rfl)) er_int bop_gt) fun _ => tr_and1 (tr_cmp (er_var 6 rfl) (er_bin (er_bin (er_callTy (cop_strI (log_num hq19)) rfl str bt_str (ar_cons (er_top X (er_var 5 rfl)) ar_nil)) er_str (bop_addS (z := numT q.num) (y := slash) (by rw [slash_len]; omega))) (er_callTy (cop_strI (log_den hq19)) rfl str bt_str (ar_cons (er_bot X (er_var 5 rfl)) ar_nil)) (bop_addS (z := numT q.num ++ slash) (y := numT q.den) (by rw [strlen_app, slash_len]; omega))) bop_neS))) ?_) (fun z => Bool.noConfusion z) (fun _ => hb_nil ?_)
  · show (decide ((1 : Int) < (q.den : Int)) && !decide (strR q = numT q.num ++ slash ++ numT q.den)) = false
    by_cases h : q.den = 1
    · have : ¬ (1 : Int) < (q.den : Int) := by omega
      rw [decide_eq_false this, Bool.false_and]
    · have e : strR q = numT q.num ++ slash ++ numT q.den := by unfold strR; rw [if_neg h]
      rw [e, decide_eq_true rfl, Bool.not_true, Bool.and_false]
  have prd : ∀ {z : Str} {a b : Int}, z.length ≤ 640 → rdS z = .ok (a, b) → Rat.divInt a b = q → pRead C D [rRef C, rStr z] [] (.ok (rRat C q)) [] := fun {z a b} hz h he => ⟨z, hz, rfl, rfl, rfl, by rw [h, ← he]⟩
  refine hb_if (b := false) (tr_to (PWR.tr (tr_or (tr_not (tr_cmp (er_cm Tr (hr.mono (by decide)) (er_glob rfl X.gC rfl) (ar_cons (er_var 6 rfl) ar_nil) (prd (by omega) (rd_str q) (Rat.num_divInt_den q))) (er_var 5 rfl) (bop_oE Te (hr.mono (by decide)) pEqOk tyr_ins X.nf))) fun _ =>
    tr_or1 (tr_not (tr_cmp (er_cm Tr (hr.mono (by decide)) (er_glob rfl X.gC rfl) (ar_cons (er_bin (er_bin (er_callTy (cop_strI gt) rfl str bt_str (ar_cons (er_var 3 rfl) ar_nil)) er_str (bop_addS (z := numT ti) (y := slash) (by rw [slash_len]; omega))) (er_callTy (cop_strI gb) rfl str bt_str (ar_cons (er_var 4 rfl) ar_nil)) (bop_addS (z := numT ti ++ slash) (y := numT bn) (by rw [strlen_app, slash_len]; omega))) ar_nil)
      (prd (by omega) (rd_two ti bn (by omega)) hqe)) (er_var 5 rfl) (bop_oE Te (hr.mono (by decide)) pEqOk tyr_ins X.nf))))) ?_) (fun z => Bool.noConfusion z) (fun _ => hb_nil ?_)
  · rw [decide_eq_true rfl]
    rfl
  -- the changed texts
  have ecut : ∀ x ∈ cutV (ns.map V.int) (some 2) (some 9), ∃ c : Int, x = V.int c := fun x hx => by
    obtain ⟨c, _, e⟩ := List.mem_map.mp (cut_mem hx)
    exact ⟨c, e.symm⟩
  have lcut : (cutV (ns.map V.int) (some 2) (some 9)).length ≤ 63 := by
    have := cutV_length (ns.map V.int) (some 2) (some 9)
    rw [List.length_map] at this
    omega
  refine hb_for (it_lst (er_bin (er_lst (ar_cons (er_fn0 Tat (hr.mono (by decide)) (ar_cons (er_var 0 rfl) (ar_cons er_int ar_nil)) ⟨(ns, 1), trivial, rfl, rfl, rfl, rfl⟩) ar_nil) (Nat.le_of_ble_eq_true rfl)) (er_callTy cop_listL rfl list bt_list (ar_cons (er_slice (er_var 0 rfl) (pr_some er_int) (pr_some er_int) sop_S) ar_nil)) (bop_cat (by rw [List.length_map]; show 1 + _ ≤ _; omega))))
    (fun k ρ ω => ω = [] ∧ ∃ z1 z7 z8 z9, ρ = [some (rScr K (ns.map V.int)), z1, some (rInt sz), some (rInt ti), some (rInt bn), some (rRat C q), some (rStr (strR q)), z7, z8, z9]) ⟨rfl, _, _, _, _, rfl⟩ ?_ ?_ (passes_of rfl) (pg_name (i := 7) nd rfl (Or.inl rfl))
  · rintro k ρ ω S hS ⟨rfl, y1, y7, y8, y9, rfl⟩
    obtain ⟨c, rfl⟩ : ∃ c : Int, S = rInt c := by
      have hm := List.mem_of_getElem? hS
      rcases List.mem_append.mp hm with hm | hm
      · exact ⟨_, List.mem_singleton.mp hm⟩
      · obtain ⟨x, hx, rfl⟩ := List.mem_map.mp hm
        obtain ⟨c, rfl⟩ := ecut x hx
        exact ⟨c, rfl⟩
    refine ⟨_, ge_name, ?_⟩
    refine hb_setN 1 (en_fn (wc := []) (wc' := []) (w := []) Tbag (hr.mono (by decide)) (ar_cons (er_var 7 rfl) ar_nil) ⟨c, rfl, rfl, rfl, rfl⟩) (fun pq hpq => ?_) nd
    generalize ((c, (0 : Int), decide ((10 : Int) ^ 18 ≤ c)) : Pool) = p0
    have ts : ∃ ts : List Str, ts = [strR q, numT ti ++ slash ++ numT bn, Str.ofString "0", Str.ofString "-7", Str.ofString "12/18"] := ⟨_, rfl⟩
    obtain ⟨ts, hts⟩ := ts
    have lts : ∀ t ∈ ts, t.length ≤ 125 := by
      intro t ht
      rw [hts] at ht
      simp only [List.mem_cons, List.not_mem_nil, or_false] at ht
      rcases ht with rfl | rfl | rfl | rfl | rfl
      · exact lq
      · exact l2q
      · decide +kernel
      · decide +kernel
      · decide +kernel
    have hl5 : ts.length = 5 := by rw [hts]; rfl
    obtain ⟨d1, d2⟩ := drR_lt (s := p0) (L := 5) (by decide)
    have hk5 : (drR p0 5).toNat < ts.length := by omega
    have e5 : drR p0 5 = ((drR p0 5).toNat : Int) := by omega
    have i5 : Iop ⟨cxOf (L2.CX P w) P w K mg base N_law "law" (defScope s_law) f cdv A outer s H E, G0, H0, M, W, tk⟩ [(pq, oPool (drS p0 5))] (rLst (ts.map rStr)) (rInt (drR p0 5)) (rStr ts[(drR p0 5).toNat]) := by
      have := lst_ix (F := ⟨cxOf (L2.CX P w) P w K mg base N_law "law" (defScope s_law) f cdv A outer s H E, G0, H0, M, W, tk⟩) (ω := [(pq, oPool (drS p0 5))]) (ws := ts) (k := (drR p0 5).toNat) (List.getElem?_eq_getElem hk5)
      rw [← e5] at this
      exact this
    have l5 : (5 : Int).natAbs < 2 ^ 3 := by decide
    have l2' : (2 : Int).natAbs < 2 ^ 2 := by decide
    refine hb_set (R := rStr ts[(drR p0 5).toNat]) 8 (er_ix (A := rLst (ts.map rStr)) (er_eq (er_lst (ar_cons (er_var 6 rfl) (ar_cons (er_bin (er_bin (er_callTy (cop_strI gt) rfl str bt_str (ar_cons (er_var 3 rfl) ar_nil)) er_str (bop_addS (z := numT ti) (y := slash) (by rw [slash_len]; omega))) (er_callTy (cop_strI gb) rfl str bt_str (ar_cons (er_var 4 rfl) ar_nil)) (bop_addS (z := numT ti ++ slash) (y := numT bn) (by rw [strlen_app, slash_len]; omega))) (ar_cons er_str (ar_cons er_str (ar_cons er_str ar_nil))))) (Nat.le_of_ble_eq_true rfl)) (by rw [hts]; rfl))
      (er_fn (wc := [(pq, oPool p0)]) (w := []) Td (hr.mono (by decide)) (ar_cons (er_var 1 rfl) (ar_cons er_int ar_nil)) ⟨pq, p0, 5, by decide, lt9000 l5 (by decide), rfl, rfl, rfl, rfl⟩) i5) ?_ nd
    have lz := lts _ (List.getElem_mem hk5)
    generalize ts[(drR p0 5).toNat] = z at lz
    generalize drS p0 5 = p1
    obtain ⟨d3, d4⟩ := drR_lt (s := p1) (L := 2) (by decide)
    refine hb_for (it_rng1 (ar_cons (er_bin er_int (er_fn (wc := [(pq, oPool p1)]) (w := []) Td (hr.mono (by decide)) (ar_cons (er_var 1 rfl) (ar_cons er_int ar_nil)) ⟨pq, p1, 2, by decide, lt9000 l2' (by decide), rfl, rfl, rfl, rfl⟩) bop_add) ar_nil) rfl range (by omega))
      (fun j ρ ω => ∃ s2 z2 z9, ω = [(pq, oPool s2)] ∧ z2.length + 1 ≤ 126 * 2 ^ j ∧ ρ = [some (rScr K (ns.map V.int)), some (rRef pq), some (rInt sz), some (rInt ti), some (rInt bn), some (rRat C q), some (rStr (strR q)), some (rInt c), some (rStr z2), z9]) ⟨_, z, _, rfl, by omega, rfl⟩ ?_ ?_ (passes_of rfl) (pg_name (i := 9) nd rfl (Or.inl rfl))
    · rintro j ρ ω S2 hS2 ⟨s2, z2, z9, rfl, hl, rfl⟩
      obtain ⟨hj, rfl⟩ := rng_get hS2
      have hj2 : j ≤ 1 := by omega
      have hp : (2 : Nat) ^ j ≤ 2 := by
        have : (2 : Nat) ^ j ≤ 2 ^ 1 := Nat.pow_le_pow_right (by decide) hj2
        exact this
      have l300 : z2.length ≤ 300 := by omega
      refine ⟨_, ge_name, ?_⟩
      refine hb_set 8 (er_fn (wc := [(pq, oPool s2)]) (w := []) Tc (hr.mono (by decide)) (ar_cons (er_var 1 rfl) (ar_cons (er_var 8 rfl) ar_nil)) ⟨pq, s2, z2, l300, rfl, rfl, rfl, rfl⟩) (hb_nil ?_) nd
      refine ⟨_, _, _, rfl, ?_, rfl⟩
      have := chg_len s2 z2
      rw [Nat.pow_succ]
      omega
    · rintro ρ ω ⟨s2, z2, z9, rfl, hl, rfl⟩
      have hp : (2 : Nat) ^ (rng 0 (1 + drR p1 2).toNat).length ≤ 4 := by
        rw [rng_len]
        have : (2 : Nat) ^ (1 + drR p1 2).toNat ≤ 2 ^ 2 := Nat.pow_le_pow_right (by decide) (by omega)
        exact this
      have l640 : z2.length ≤ 640 := by omega
      refine hb_pub (R := rAny) 1 rfl hpq (fun _ _ _ _ => trivial) ?_
      refine hb_if (b := false) (tr_not (k := true) (tr_val (er_fn0 Tf (hr.mono (by decide)) (ar_cons (er_var 8 rfl) ar_nil) ⟨z2, l640, rfl, rfl, rfl, rfl⟩))) (fun z => Bool.noConfusion z) (fun _ => hb_nil (hb_nil ?_))
      exact ⟨rfl, _, _, _, _, rfl⟩
  · rintro ρ ω ⟨rfl, y1, y7, y8, y9, rfl⟩
    have tE : toldV (Str.ofString "") = [V.str "text", V.int 0] := by unfold toldV; rw [rd_empty]
    have tH : toldV (Str.ofString "1/") = [V.str "text", V.int 1] := by unfold toldV; rw [rd_half]
    refine hb_ret (er_and (er_cmp (er_eq (S := rLst ([V.str "text", V.int 0].map rEqV)) (er_fn0 Tt (hr.mono (by decide)) (ar_cons er_str ar_nil) ⟨Str.ofString "", by decide +kernel, rfl, rfl, rfl, rfl⟩) (by rw [← tE])) (er_lst (ar_cons er_str (ar_cons er_int ar_nil)) (Nat.le_of_ble_eq_true rfl)) (list_same (xs := [.str "text", .int 0]) (flat_si _ _) (eqv_si _ _) (hr.mono (by decide)))) fun _ =>
      er_one (er_cmp (er_eq (S := rLst ([V.str "text", V.int 1].map rEqV)) (er_fn0 Tt (hr.mono (by decide)) (ar_cons er_str ar_nil) ⟨Str.ofString "1/", by decide +kernel, rfl, rfl, rfl, rfl⟩) (by rw [← tH])) (er_lst (ar_cons er_str (ar_cons er_int ar_nil)) (Nat.le_of_ble_eq_true rfl)) (list_same (xs := [.str "text", .int 1]) (flat_si _ _) (eqv_si _ _) (hr.mono (by decide))))) ⟨_, [], rfl, fun _ _ h => h, rfl⟩
end
end W1
set_option maxRecDepth 100000
set_option maxHeartbeats 2000000
set_option exponentiation.threshold 20000
namespace W1
open PySem PySem.Spec PyProof.Rows L2 NdefX
theorem kE_BadNumber {P : Program} {w : World} {K : PySem.W.Frag} {mg : Str → Option Value} {base : Heap} {C f cc cd : Addr} (T : SupC P K mg "BadNumber" "BadNumber.__init__" s_BadNumber___init__ C f cc cd) (hno : PySem.W.findIn K (.ref C) "n" = some none) : Ke P w K mg base C "BadNumber" "n" 1 prInt := by
  obtain ⟨fd, ⟨doc, pm, ctv, rfl⟩, h⟩ := ok_err (w := w) (base := base) (k := 0) (Pr := prInt) (an2 := none) (ps2 := ⟨0, 0, 0, 0⟩) T c_BadNumber___init__ rfl rfl rfl hno (by decide) (by decide) (fun env he => ⟨_, rfl⟩) (fun env he => rfl) (fun env => rfl) (fun env he => ⟨rfl, rfl⟩)
    (fun X h1 h2 h3 h4 h5 hN hs hr hc => txt_fc (i := 1) (by rw [hN]; rfl) (by rw [hs]; exact Or.inl rfl) (by decide) (by decide) (by decide) (fun v H z => .inl z))
  exact ⟨"n", _, _, f, cc, cd, _, T, .all fun us hl => match us, hl with | [_, _], _ => rfl, h⟩
theorem kE_BadText {P : Program} {w : World} {K : PySem.W.Frag} {mg : Str → Option Value} {base : Heap} {C f cc cd : Addr} (T : SupC P K mg "BadText" "BadText.__init__" s_BadText___init__ C f cc cd) (hno : PySem.W.findIn K (.ref C) "at" = some none) : Ke P w K mg base C "BadText" "at" 1 prInt := by
  obtain ⟨fd, ⟨doc, pm, ctv, rfl⟩, h⟩ := ok_err (w := w) (base := base) (k := 0) (Pr := prInt) (an2 := none) (ps2 := ⟨0, 0, 0, 0⟩) T c_BadText___init__ rfl rfl rfl hno (by decide) (by decide) (fun env he => ⟨_, rfl⟩) (fun env he => rfl) (fun env => rfl) (fun env he => ⟨rfl, rfl⟩)
    (fun X h1 h2 h3 h4 h5 hN hs hr hc => txt_cf (i := 1) (by rw [hN]; rfl) (by rw [hs]; exact Or.inl rfl) (by decide) (by decide) (by decide) (fun v H z => .inl z))
  exact ⟨"at", _, _, f, cc, cd, _, T, .all fun us hl => match us, hl with | [_, _], _ => rfl, h⟩
theorem law_cx {P : Program} : ∀ (w : World) (H : Hp) (s : Shared) (e : Value) (s' : Shared), L2.CX P w [] H s (fun _ _ _ => False) e s' → False := fun w H s e s' hq => by
  obtain ⟨_, _, _, _, _, _, _, _, _, _, _, _, z⟩ := hq
  exact z.elim
theorem law_sp {K : Params → PySem.W.Frag} : ∀ (w : World) (H : Hp) (a : Addr) (ns : List Int), ns.length ≤ 63 → L2.Only H → SqL (K w.params) H a (ns.map V.int) → spM (pLaw (K w.params)) [.ref a] H (fun v _ => v = .bl true) fun _ _ _ => False := fun w H a ns hl _ hS =>
  ⟨_, [], _, [], H, ⟨ns, hl, rfl, rfl, rfl, rfl⟩, Same.refl _, mk1 ⟨a, rfl, hS⟩, (fun _ h => by cases h), List.nodup_nil, rfl, fun v G' H' _ _ h => h⟩
theorem all_mk {w : World} {K : PySem.W.Frag} {h : Heap} {mg : Str → Option Value} {fa : Addr}
    {tk0 : Tok}
    {B f0 cc0 cd0 : Addr}
    {od0 dd0 cdd0 cld0 : Option Addr}
    {sl0 ccs0 csl0 : Array (Option Value)}
    {oc0 dc0 pm0 ct0 ccl0 clc0 : Value}
    {nm0 q0 file0 : Str}
    {N0 : Addr}
    {bs0 sub0 bm0 : List Value}
    {sn0 : List Str}
    {ab0 : Bool}
    {col0 : Option Bool}
    {m0_0 m0_1 m0_2 m0_3 m0_5 : Option Value}
    {vs0 : Array Value}
    {tf0 : Tok}
    {D f1 cc1 cd1 : Addr}
    {od1 dd1 cdd1 cld1 : Option Addr}
    {sl1 ccs1 csl1 : Array (Option Value)}
    {oc1 dc1 pm1 ct1 ccl1 clc1 : Value}
    {nm1 q1 file1 : Str}
    {N1 : Addr}
    {bs1 sub1 bm1 : List Value}
    {sn1 : List Str}
    {ab1 : Bool}
    {col1 : Option Bool}
    {m1_0 m1_1 m1_2 m1_3 m1_5 : Option Value}
    {vs1 : Array Value}
    {tf1 : Tok}
    {C : Addr}
    {f2 : Addr}
    {od2 an2 : Option Addr}
    {sl2 : Array (Option Value)}
    {oc2 kV2 dc2 pm2 cd2 ct2 : Value}
    {f3 : Addr}
    {od3 an3 : Option Addr}
    {sl3 : Array (Option Value)}
    {oc3 kV3 dc3 pm3 cd3 ct3 : Value}
    {f4 : Addr}
    {od4 an4 : Option Addr}
    {sl4 : Array (Option Value)}
    {oc4 kV4 dc4 pm4 cd4 ct4 : Value}
    {f5 : Addr}
    {od5 an5 : Option Addr}
    {sl5 : Array (Option Value)}
    {oc5 kV5 dc5 pm5 cd5 ct5 : Value}
    {f6 : Addr}
    {od6 an6 : Option Addr}
    {sl6 : Array (Option Value)}
    {oc6 kV6 dc6 pm6 cd6 ct6 : Value}
    {f7 : Addr}
    {od7 an7 : Option Addr}
    {sl7 : Array (Option Value)}
    {oc7 kV7 dc7 pm7 cd7 ct7 : Value}
    {f8 : Addr}
    {od8 an8 : Option Addr}
    {sl8 : Array (Option Value)}
    {oc8 kV8 dc8 pm8 cd8 ct8 : Value}
    {mc8 : Value}
    {pc8 : Addr}
    {rest8 : List Value}
    {f9 : Addr}
    {od9 an9 : Option Addr}
    {sl9 : Array (Option Value)}
    {oc9 kV9 dc9 pm9 cd9 ct9 : Value}
    {f10 : Addr}
    {od10 an10 : Option Addr}
    {sl10 : Array (Option Value)}
    {oc10 kV10 dc10 pm10 cd10 ct10 : Value}
    {f11 : Addr}
    {od11 an11 : Option Addr}
    {sl11 : Array (Option Value)}
    {oc11 kV11 dc11 pm11 cd11 ct11 : Value}
    {f12 : Addr}
    {od12 an12 : Option Addr}
    {sl12 : Array (Option Value)}
    {oc12 kV12 dc12 pm12 cd12 ct12 : Value}
    {f13 : Addr}
    {od13 an13 : Option Addr}
    {sl13 : Array (Option Value)}
    {oc13 kV13 dc13 pm13 cd13 ct13 : Value}
    {f14 : Addr}
    {od14 an14 : Option Addr}
    {sl14 : Array (Option Value)}
    {oc14 kV14 dc14 pm14 cd14 ct14 : Value}
    {f15 : Addr}
    {od15 an15 : Option Addr}
    {sl15 : Array (Option Value)}
    {oc15 kV15 dc15 pm15 cd15 ct15 : Value}
    {f16 : Addr}
    {od16 an16 : Option Addr}
    {sl16 : Array (Option Value)}
    {oc16 kV16 dc16 pm16 cd16 ct16 : Value}
    {f17 : Addr}
    {od17 an17 : Option Addr}
    {sl17 : Array (Option Value)}
    {oc17 kV17 dc17 pm17 cd17 ct17 : Value}
    (X : K.In h) (G : h.Ns mainGlobals mg) (hfa : mg "law" = some (.ref fa))
    (z_super : PySem.W.nsIn K mainGlobals "super" = some none)
    (z_abs : PySem.W.nsIn K mainGlobals "abs" = some none)
    (z_isinstance : PySem.W.nsIn K mainGlobals "isinstance" = some none)
    (z_bool : PySem.W.nsIn K mainGlobals "bool" = some none)
    (z_len : PySem.W.nsIn K mainGlobals "len" = some none)
    (z_int : PySem.W.nsIn K mainGlobals "int" = some none)
    (z_str : PySem.W.nsIn K mainGlobals "str" = some none)
    (z_all : PySem.W.nsIn K mainGlobals "all" = some none)
    (z_max : PySem.W.nsIn K mainGlobals "max" = some none)
    (z_list : PySem.W.nsIn K mainGlobals "list" = some none)
    (z_range : PySem.W.nsIn K mainGlobals "range" = some none)
    (dig : PySem.W.nsIn K mainGlobals "DIGITS" = some (some (.str digs tk0)))
    (aB : PySem.W.nsIn K mainGlobals "BadNumber" = some (some (.ref B)))
    (xB : K.lookup B = some (excClassObj nm0 q0 B N0 bs0 bm0 true sn0 sub0 ab0 col0 dd0 m0_0 m0_1 m0_2 m0_3 m0_5 "ValueError.__new__"))
    (bmB : PySem.HandSPX.refsVE bm0 = true)
    (saB : PySem.W.findIn K (.ref B) "__setattr__" = some (some (.builtin "object.__setattr__")))
    (eB : PySem.W.subIn K (.ref B) (.type "BaseException") = some true)
    (tB : PySem.W.typeIn K (.ref B) = some (.type "type"))
    (kB : PySem.W.keepIn K (.ref B) = true)
    (a0 : PySem.W.findIn K (.ref B) "__init__" = some (some (.ref f0)))
    (t0 : PySem.W.typeIn K (.ref f0) = some (.type "function"))
    (l0 : K.lookup f0 = some ⟨oc0, od0, .func ((supF "BadNumber.__init__" s_BadNumber___init__ cc0 cd0).fd dc0 pm0 ct0), sl0⟩)
    (c0 : PySem.W.codeIn K (.ref cd0) "BadNumber.__init__" = true)
    (lc0 : K.lookup cd0 = some ⟨ccl0, cdd0, .fields vs0, ccs0⟩)
    (v0 : vs0[2]? = some (.str file0 tf0))
    (fil0 : ((PySem.Challenge.pw_waysofmaking_k12_texts_of_fractions).main.file == file0) = true)
    (ll0 : K.lookup cc0 = some ⟨clc0, cld0, .cell (some (.ref B)), csl0⟩)
    (sbB : PySem.W.mroIn K B (.ref B) = some true)
    (suB : PySem.W.ks_superIn K B B "__init__" = some (some (.builtin "ValueError.__init__")))
    (svB : PySem.W.subIn K (.ref B) (.type "ValueError") = some true)
    (opB : PySem.W.nsIn K cStatics "thirdparty.any" = some none)
    (teB : PySem.W.exmOne K (.ref B) (.ref B) = some true)
    (nB_n : PySem.W.findIn K (.ref B) "n" = some none)
    (gaB : PySem.W.findIn K (.ref B) "__getattribute__" = some (some (.builtin "BaseException.__getattribute__")))
    (ggB : PySem.W.findIn K (.ref B) "__getattr__" = some none)
    (hdB : PySem.W.hasDictIn K B = true)
    (aD : PySem.W.nsIn K mainGlobals "BadText" = some (some (.ref D)))
    (xD : K.lookup D = some (excClassObj nm1 q1 D N1 bs1 bm1 true sn1 sub1 ab1 col1 dd1 m1_0 m1_1 m1_2 m1_3 m1_5 "ValueError.__new__"))
    (bmD : PySem.HandSPX.refsVE bm1 = true)
    (saD : PySem.W.findIn K (.ref D) "__setattr__" = some (some (.builtin "object.__setattr__")))
    (eD : PySem.W.subIn K (.ref D) (.type "BaseException") = some true)
    (tD : PySem.W.typeIn K (.ref D) = some (.type "type"))
    (kD : PySem.W.keepIn K (.ref D) = true)
    (a1 : PySem.W.findIn K (.ref D) "__init__" = some (some (.ref f1)))
    (t1 : PySem.W.typeIn K (.ref f1) = some (.type "function"))
    (l1 : K.lookup f1 = some ⟨oc1, od1, .func ((supF "BadText.__init__" s_BadText___init__ cc1 cd1).fd dc1 pm1 ct1), sl1⟩)
    (c1 : PySem.W.codeIn K (.ref cd1) "BadText.__init__" = true)
    (lc1 : K.lookup cd1 = some ⟨ccl1, cdd1, .fields vs1, ccs1⟩)
    (v1 : vs1[2]? = some (.str file1 tf1))
    (fil1 : ((PySem.Challenge.pw_waysofmaking_k12_texts_of_fractions).main.file == file1) = true)
    (ll1 : K.lookup cc1 = some ⟨clc1, cld1, .cell (some (.ref D)), csl1⟩)
    (sbD : PySem.W.mroIn K D (.ref D) = some true)
    (suD : PySem.W.ks_superIn K D D "__init__" = some (some (.builtin "ValueError.__init__")))
    (svD : PySem.W.subIn K (.ref D) (.type "ValueError") = some true)
    (opD : PySem.W.nsIn K cStatics "thirdparty.any" = some none)
    (teD : PySem.W.exmOne K (.ref D) (.ref D) = some true)
    (nD_at : PySem.W.findIn K (.ref D) "at" = some none)
    (gaD : PySem.W.findIn K (.ref D) "__getattribute__" = some (some (.builtin "BaseException.__getattribute__")))
    (ggD : PySem.W.findIn K (.ref D) "__getattr__" = some none)
    (hdD : PySem.W.hasDictIn K D = true)
    (aC : PySem.W.nsIn K mainGlobals "Ratio" = some (some (.ref C)))
    (kcC : PySem.W.keepIn K (.ref C) = true)
    (mkC : PySem.W.makesIn K C = true)
    (pgC : PySem.W.plainGet K C Str.empty = true)
    (hdC : PySem.W.hasDictIn K C = true)
    (poC : PySem.W.plainOver K C = true)
    (saC : PySem.W.findIn K (.ref C) "__setattr__" = some (some (.builtin "object.__setattr__")))
    (sfC : PySem.W.selfFirst K C = true)
    (caC : PySem.W.findIn K (.ref C) "__class__" = some (some (.builtin "object.__class__")))
    (cnC : PySem.W.specialIn K (.builtin "object.__class__") "__get__" = some (some (.builtin "getset_descriptor.__get__")))
    (ctC : PySem.W.takesIn K (.builtin "object.__class__") = some true)
    (cmC : PySem.W.mroIn K C (.type "object") = some true)
    (nC_top : PySem.W.findIn K (.ref C) "top" = some none)
    (nC_bottom : PySem.W.findIn K (.ref C) "bottom" = some none)
    (nf : PySem.W.notFirst K C (.ref C) = true)
    (nfI : PySem.W.notFirst K C (.type "int") = true)
    (nfS : PySem.W.notFirst K C (.type "str") = true)
    (ksI : PySem.W.kitOne K (.type "int") (.ref C) = some false)
    (ksS : PySem.W.kitOne K (.type "str") (.ref C) = some false)
    (a2 : PySem.W.nsIn K mainGlobals "common" = some (some (.ref f2)))
    (l2 : K.lookup f2 = some ⟨oc2, od2, .func (PySem.W.fnOf "common" "common" (defArgs s_common) (defBody s_common) (defScope s_common) .none kV2 dc2 pm2 an2 cd2 ct2), sl2⟩)
    (c2 : PySem.W.codeIn K cd2 "common" = true)
    (k2 : PySem.W.keepIn K (.ref f2) = true)
    (a3 : PySem.W.nsIn K mainGlobals "is_count" = some (some (.ref f3)))
    (l3 : K.lookup f3 = some ⟨oc3, od3, .func (PySem.W.fnOf "is_count" "is_count" (defArgs s_is_count) (defBody s_is_count) (defScope s_is_count) .none kV3 dc3 pm3 an3 cd3 ct3), sl3⟩)
    (c3 : PySem.W.codeIn K cd3 "is_count" = true)
    (k3 : PySem.W.keepIn K (.ref f3) = true)
    (a4 : PySem.W.nsIn K mainGlobals "is_top" = some (some (.ref f4)))
    (l4 : K.lookup f4 = some ⟨oc4, od4, .func (PySem.W.fnOf "is_top" "is_top" (defArgs s_is_top) (defBody s_is_top) (defScope s_is_top) .none kV4 dc4 pm4 an4 cd4 ct4), sl4⟩)
    (c4 : PySem.W.codeIn K cd4 "is_top" = true)
    (k4 : PySem.W.keepIn K (.ref f4) = true)
    (a5 : PySem.W.findIn K (.ref C) "__init__" = some (some (.ref f5)))
    (i5 : PySem.W.isFn K (.ref f5) = true)
    (l5 : K.lookup f5 = some ⟨oc5, od5, .func (PySem.W.fnOf "__init__" "Ratio.__init__" (defArgs s_Ratio___init__) (defBody s_Ratio___init__) (defScope s_Ratio___init__) .none kV5 dc5 pm5 an5 cd5 ct5), sl5⟩)
    (c5 : PySem.W.codeIn K cd5 "Ratio.__init__" = true)
    (k5 : PySem.W.keepIn K (.ref f5) = true)
    (a6 : PySem.W.findIn K (.ref C) "__eq__" = some (some (.ref f6)))
    (i6 : PySem.W.isFn K (.ref f6) = true)
    (l6 : K.lookup f6 = some ⟨oc6, od6, .func (PySem.W.fnOf "__eq__" "Ratio.__eq__" (defArgs s_Ratio___eq__) (defBody s_Ratio___eq__) (defScope s_Ratio___eq__) .none kV6 dc6 pm6 an6 cd6 ct6), sl6⟩)
    (c6 : PySem.W.codeIn K cd6 "Ratio.__eq__" = true)
    (k6 : PySem.W.keepIn K (.ref f6) = true)
    (a7 : PySem.W.findIn K (.ref C) "__str__" = some (some (.ref f7)))
    (i7 : PySem.W.isFn K (.ref f7) = true)
    (l7 : K.lookup f7 = some ⟨oc7, od7, .func (PySem.W.fnOf "__str__" "Ratio.__str__" (defArgs s_Ratio___str__) (defBody s_Ratio___str__) (defScope s_Ratio___str__) .none kV7 dc7 pm7 an7 cd7 ct7), sl7⟩)
    (c7 : PySem.W.codeIn K cd7 "Ratio.__str__" = true)
    (k7 : PySem.W.keepIn K (.ref f7) = true)
    (ty8 : PySem.W.typeIn K (.ref C) = some mc8)
    (rd8 : PySem.W.readsIn K C mc8 = true)
    (ga8 : PySem.W.specialIn K (.ref C) "__getattribute__" = some (some (.builtin "type.__getattribute__")))
    (a8 : PySem.W.findCls K (.ref C) mc8 "read" = some (.get (.builtin "classmethod.__get__") (.ref pc8) .none (.ref C)))
    (rc8 : PySem.W.recIn K pc8 "classmethod" = some (.ref f8 :: rest8))
    (fi8 : PySem.W.fnIn K f8 = true)
    (l8 : K.lookup f8 = some ⟨oc8, od8, .func (PySem.W.fnOf "read" "Ratio.read" (defArgs s_Ratio_read) (defBody s_Ratio_read) (defScope s_Ratio_read) .none kV8 dc8 pm8 an8 cd8 ct8), sl8⟩)
    (c8 : PySem.W.codeIn K cd8 "Ratio.read" = true)
    (k8 : PySem.W.keepIn K (.ref f8) = true)
    (a9 : PySem.W.nsIn K mainGlobals "_law_bag" = some (some (.ref f9)))
    (l9 : K.lookup f9 = some ⟨oc9, od9, .func (PySem.W.fnOf "_law_bag" "_law_bag" (defArgs s__law_bag) (defBody s__law_bag) (defScope s__law_bag) .none kV9 dc9 pm9 an9 cd9 ct9), sl9⟩)
    (c9 : PySem.W.codeIn K cd9 "_law_bag" = true)
    (k9 : PySem.W.keepIn K (.ref f9) = true)
    (a10 : PySem.W.nsIn K mainGlobals "_law_at_of" = some (some (.ref f10)))
    (l10 : K.lookup f10 = some ⟨oc10, od10, .func (PySem.W.fnOf "_law_at_of" "_law_at_of" (defArgs s__law_at_of) (defBody s__law_at_of) (defScope s__law_at_of) .none kV10 dc10 pm10 an10 cd10 ct10), sl10⟩)
    (c10 : PySem.W.codeIn K cd10 "_law_at_of" = true)
    (k10 : PySem.W.keepIn K (.ref f10) = true)
    (a11 : PySem.W.nsIn K mainGlobals "_law_draw" = some (some (.ref f11)))
    (l11 : K.lookup f11 = some ⟨oc11, od11, .func (PySem.W.fnOf "_law_draw" "_law_draw" (defArgs s__law_draw) (defBody s__law_draw) (defScope s__law_draw) .none kV11 dc11 pm11 an11 cd11 ct11), sl11⟩)
    (c11 : PySem.W.codeIn K cd11 "_law_draw" = true)
    (k11 : PySem.W.keepIn K (.ref f11) = true)
    (a12 : PySem.W.nsIn K mainGlobals "_law_count_of" = some (some (.ref f12)))
    (l12 : K.lookup f12 = some ⟨oc12, od12, .func (PySem.W.fnOf "_law_count_of" "_law_count_of" (defArgs s__law_count_of) (defBody s__law_count_of) (defScope s__law_count_of) .none kV12 dc12 pm12 an12 cd12 ct12), sl12⟩)
    (c12 : PySem.W.codeIn K cd12 "_law_count_of" = true)
    (k12 : PySem.W.keepIn K (.ref f12) = true)
    (a13 : PySem.W.nsIn K mainGlobals "_law_due_of" = some (some (.ref f13)))
    (l13 : K.lookup f13 = some ⟨oc13, od13, .func (PySem.W.fnOf "_law_due_of" "_law_due_of" (defArgs s__law_due_of) (defBody s__law_due_of) (defScope s__law_due_of) .none kV13 dc13 pm13 an13 cd13 ct13), sl13⟩)
    (c13 : PySem.W.codeIn K cd13 "_law_due_of" = true)
    (k13 : PySem.W.keepIn K (.ref f13) = true)
    (a14 : PySem.W.nsIn K mainGlobals "_law_told_of" = some (some (.ref f14)))
    (l14 : K.lookup f14 = some ⟨oc14, od14, .func (PySem.W.fnOf "_law_told_of" "_law_told_of" (defArgs s__law_told_of) (defBody s__law_told_of) (defScope s__law_told_of) .none kV14 dc14 pm14 an14 cd14 ct14), sl14⟩)
    (c14 : PySem.W.codeIn K cd14 "_law_told_of" = true)
    (k14 : PySem.W.keepIn K (.ref f14) = true)
    (a15 : PySem.W.nsIn K mainGlobals "_law_fits" = some (some (.ref f15)))
    (l15 : K.lookup f15 = some ⟨oc15, od15, .func (PySem.W.fnOf "_law_fits" "_law_fits" (defArgs s__law_fits) (defBody s__law_fits) (defScope s__law_fits) .none kV15 dc15 pm15 an15 cd15 ct15), sl15⟩)
    (c15 : PySem.W.codeIn K cd15 "_law_fits" = true)
    (k15 : PySem.W.keepIn K (.ref f15) = true)
    (a16 : PySem.W.nsIn K mainGlobals "_law_changed" = some (some (.ref f16)))
    (l16 : K.lookup f16 = some ⟨oc16, od16, .func (PySem.W.fnOf "_law_changed" "_law_changed" (defArgs s__law_changed) (defBody s__law_changed) (defScope s__law_changed) .none kV16 dc16 pm16 an16 cd16 ct16), sl16⟩)
    (c16 : PySem.W.codeIn K cd16 "_law_changed" = true)
    (k16 : PySem.W.keepIn K (.ref f16) = true)
    (a17 : PySem.W.nsIn K mainGlobals "law" = some (some (.ref f17)))
    (l17 : K.lookup f17 = some ⟨oc17, od17, .func (PySem.W.fnOf "law" "law" (defArgs s_law) (defBody s_law) (defScope s_law) .none kV17 dc17 pm17 an17 cd17 ct17), sl17⟩)
    (c17 : PySem.W.codeIn K cd17 "law" = true)
    (k17 : PySem.W.keepIn K (.ref f17) = true) :
    ∃ fd : FuncData, (∀ (s : Shared) (v : Value), BindsTo s fd ⟨[v], []⟩ [("_law_script", v)]) ∧ ∀ base : Heap, K.In base → base.Ns mainGlobals mg → FnOk PySem.Challenge.pw_waysofmaking_k12_texts_of_fractions w K mg base (L2.CX PySem.Challenge.pw_waysofmaking_k12_texts_of_fractions w) 10 fa fd P_law (spM (pLaw K)) := by
  have e := hfa.symm.trans (PySem.W.mg_of X G a17)
  cases e
  refine ⟨PySem.W.fnOf "law" "law" (defArgs s_law) (defBody s_law) (defScope s_law) .none kV17 dc17 pm17 an17 cd17 ct17, fun s v => .of_eq rfl, fun base _ _ => ?_⟩
  have htop : ((PySem.Challenge.pw_waysofmaking_k12_texts_of_fractions).main.scope.names.lookup ("super" : Str)).isSome = false := by decide +kernel
  have xfB : XfC K B := ⟨gaB, ggB, eB, hdB⟩
  have scB : SupC PySem.Challenge.pw_waysofmaking_k12_texts_of_fractions K mg "BadNumber" "BadNumber.__init__" s_BadNumber___init__ B f0 cc0 cd0 := ⟨⟨⟨_, _, _, _, _, _, _, _, _, _, _, _, _, _, _, xB, bmB⟩, saB, eB, tB, kB⟩, PySem.W.mg_of X G aB, a0, t0, ⟨_, _, _, _, _, _, l0⟩, c0, ⟨_, _, _, _, _, _, lc0, v0, fil0⟩, ⟨_, _, _, ll0⟩, sbB, PySem.W.mg_none_of X G z_super, suB, svB, opB, htop, teB⟩
  have T_BadNumber : Ke PySem.Challenge.pw_waysofmaking_k12_texts_of_fractions w K mg base B "BadNumber" "n" 1 prInt := kE_BadNumber scB nB_n
  have xfD : XfC K D := ⟨gaD, ggD, eD, hdD⟩
  have scD : SupC PySem.Challenge.pw_waysofmaking_k12_texts_of_fractions K mg "BadText" "BadText.__init__" s_BadText___init__ D f1 cc1 cd1 := ⟨⟨⟨_, _, _, _, _, _, _, _, _, _, _, _, _, _, _, xD, bmD⟩, saD, eD, tD, kD⟩, PySem.W.mg_of X G aD, a1, t1, ⟨_, _, _, _, _, _, l1⟩, c1, ⟨_, _, _, _, _, _, lc1, v1, fil1⟩, ⟨_, _, _, ll1⟩, sbD, PySem.W.mg_none_of X G z_super, suD, svD, opD, htop, teD⟩
  have T_BadText : Ke PySem.Challenge.pw_waysofmaking_k12_texts_of_fractions w K mg base D "BadText" "at" 1 prInt := kE_BadText scD nD_at
  have clC : Cls K C := ⟨pgC, hdC, poC, saC⟩
  have cxC : ClsX K C := ⟨clC, sfC, caC, cnC, ctC, cmC⟩
  have RX : RatX K mg C := ⟨cxC, nC_top, nC_bottom, PySem.W.mg_of X G aC, nf, nfI, nfS, ksI, ksS, PySem.W.mg_none_of X G z_isinstance, PySem.W.mg_none_of X G z_bool, PySem.W.mg_none_of X G z_len⟩
  have F2 := fun_mk (st := s_common) l2 c2 k2
  have b2 := F2.binds (ps := P_common) fun _ _ _ _ _ _ us hl => match us, hl with | [_, _], _ => rfl
  have T_common : Kf1 PySem.Challenge.pw_waysofmaking_k12_texts_of_fractions w K mg base "common" 1 pCommon := ⟨f2, _, P_common, PySem.W.mg_of X G a2, k2, b2, kf_common F2 (PySem.W.mg_none_of X G z_abs)⟩
  have F3 := fun_mk (st := s_is_count) l3 c3 k3
  have b3 := F3.binds (ps := P_is_count) fun _ _ _ _ _ _ us hl => match us, hl with | [_], _ => rfl
  have T_is_count : Kf1 PySem.Challenge.pw_waysofmaking_k12_texts_of_fractions w K mg base "is_count" 2 pCnt := ⟨f3, _, P_is_count, PySem.W.mg_of X G a3, k3, b3, kf_is_count F3 (PySem.W.mg_of X G dig) (PySem.W.mg_none_of X G z_all)⟩
  have F4 := fun_mk (st := s_is_top) l4 c4 k4
  have b4 := F4.binds (ps := P_is_top) fun _ _ _ _ _ _ us hl => match us, hl with | [_], _ => rfl
  have T_is_top : Kf1 PySem.Challenge.pw_waysofmaking_k12_texts_of_fractions w K mg base "is_top" 3 pTop := ⟨f4, _, P_is_top, PySem.W.mg_of X G a4, k4, b4, kf_is_top F4 T_is_count⟩
  have F5 := fun_mk (st := s_Ratio___init__) l5 c5 k5
  have b5 := F5.binds (ps := P_Ratio___init__) fun _ _ _ _ _ _ us hl => match us, hl with | [_, _, _], _ => rfl
  have T_Ratio : Kc PySem.Challenge.pw_waysofmaking_k12_texts_of_fractions w K mg base C "Ratio" 3 (pInit C B) := ⟨f5, _, P_Ratio___init__, PySem.W.mg_of X G aC, ⟨mkC, a5, i5, kcC⟩, b5, kf_init F5 RX T_common T_BadNumber⟩
  have F6 := fun_mk (st := s_Ratio___eq__) l6 c6 k6
  have b6 := F6.binds (ps := P_Ratio___eq__) fun _ _ _ _ _ _ us hl => match us, hl with | [_, _], _ => rfl
  have T_Ratio___eq__ : Ko PySem.Challenge.pw_waysofmaking_k12_texts_of_fractions w K mg base C "__eq__" 5 (pEq C) := ⟨f6, _, P_Ratio___eq__, ⟨a6, i6⟩, b6, kf_eq F6 RX⟩
  have F7 := fun_mk (st := s_Ratio___str__) l7 c7 k7
  have b7 := F7.binds (ps := P_Ratio___str__) fun _ _ _ _ _ _ us hl => match us, hl with | [_], _ => rfl
  have T_Ratio___str__ : Ko PySem.Challenge.pw_waysofmaking_k12_texts_of_fractions w K mg base C "__str__" 2 (pStr C) := ⟨f7, _, P_Ratio___str__, ⟨a7, i7⟩, b7, kf_str F7 RX (PySem.W.mg_none_of X G z_str)⟩
  have F8 := fun_mk (st := s_Ratio_read) l8 c8 k8
  have b8 := F8.binds (ps := P_Ratio_read) fun _ _ _ _ _ _ us hl => match us, hl with | [_, _], _ => rfl
  have T_Ratio_read : Kcm PySem.Challenge.pw_waysofmaking_k12_texts_of_fractions w K mg base C "read" 5 (pRead C D) := ⟨f8, _, P_Ratio_read, mc8, pc8, ⟨rd8, ga8⟩, ⟨a8, ⟨_, rc8⟩, fi8⟩, b8, kf_read F8 RX T_Ratio T_is_count T_is_top T_BadText (PySem.W.mg_none_of X G z_int)⟩
  have F9 := fun_mk (st := s__law_bag) l9 c9 k9
  have b9 := F9.binds (ps := P__law_bag) fun _ _ _ _ _ _ us hl => match us, hl with | [_], _ => rfl
  have T__law_bag : KfN1 PySem.Challenge.pw_waysofmaking_k12_texts_of_fractions w K mg base "_law_bag" 1 pBag := ⟨f9, _, P__law_bag, PySem.W.mg_of X G a9, k9, b9, kf_bag F9⟩
  have F10 := fun_mk (st := s__law_at_of) l10 c10 k10
  have b10 := F10.binds (ps := P__law_at_of) fun _ _ _ _ _ _ us hl => match us, hl with | [_, _], _ => rfl
  have T__law_at_of : Kf1 PySem.Challenge.pw_waysofmaking_k12_texts_of_fractions w K mg base "_law_at_of" 1 (pAt K) := ⟨f10, _, P__law_at_of, PySem.W.mg_of X G a10, k10, b10, kf_at F10 (PySem.W.mg_none_of X G z_len)⟩
  have F11 := fun_mk (st := s__law_draw) l11 c11 k11
  have b11 := F11.binds (ps := P__law_draw) fun _ _ _ _ _ _ us hl => match us, hl with | [_, _], _ => rfl
  have T__law_draw : Kf1 PySem.Challenge.pw_waysofmaking_k12_texts_of_fractions w K mg base "_law_draw" 1 pDraw := ⟨f11, _, P__law_draw, PySem.W.mg_of X G a11, k11, b11, kf_draw F11 (PySem.W.mg_none_of X G z_int)⟩
  have F12 := fun_mk (st := s__law_count_of) l12 c12 k12
  have b12 := F12.binds (ps := P__law_count_of) fun _ _ _ _ _ _ us hl => match us, hl with | [_], _ => rfl
  have T__law_count_of : Kf1 PySem.Challenge.pw_waysofmaking_k12_texts_of_fractions w K mg base "_law_count_of" 2 pCnt := ⟨f12, _, P__law_count_of, PySem.W.mg_of X G a12, k12, b12, kf_count_of F12⟩
  have F13 := fun_mk (st := s__law_due_of) l13 c13 k13
  have b13 := F13.binds (ps := P__law_due_of) fun _ _ _ _ _ _ us hl => match us, hl with | [_], _ => rfl
  have T__law_due_of : Kf1 PySem.Challenge.pw_waysofmaking_k12_texts_of_fractions w K mg base "_law_due_of" 4 pDue := ⟨f13, _, P__law_due_of, PySem.W.mg_of X G a13, k13, b13, kf_due_of F13 T__law_count_of (PySem.W.mg_none_of X G z_int) (PySem.W.mg_none_of X G z_len)⟩
  have F14 := fun_mk (st := s__law_told_of) l14 c14 k14
  have b14 := F14.binds (ps := P__law_told_of) fun _ _ _ _ _ _ us hl => match us, hl with | [_], _ => rfl
  have T__law_told_of : Kf1 PySem.Challenge.pw_waysofmaking_k12_texts_of_fractions w K mg base "_law_told_of" 6 pTold := ⟨f14, _, P__law_told_of, PySem.W.mg_of X G a14, k14, b14, kf_told_of F14 RX T_Ratio_read (PySem.W.mg_of X G aD) xfD nD_at teD⟩
  have F15 := fun_mk (st := s__law_fits) l15 c15 k15
  have b15 := F15.binds (ps := P__law_fits) fun _ _ _ _ _ _ us hl => match us, hl with | [_], _ => rfl
  have T__law_fits : Kf1 PySem.Challenge.pw_waysofmaking_k12_texts_of_fractions w K mg base "_law_fits" 7 pFits := ⟨f15, _, P__law_fits, PySem.W.mg_of X G a15, k15, b15, kf_fits F15 T__law_due_of T__law_told_of⟩
  have F16 := fun_mk (st := s__law_changed) l16 c16 k16
  have b16 := F16.binds (ps := P__law_changed) fun _ _ _ _ _ _ us hl => match us, hl with | [_, _], _ => rfl
  have T__law_changed : Kf1 PySem.Challenge.pw_waysofmaking_k12_texts_of_fractions w K mg base "_law_changed" 2 pChg := ⟨f16, _, P__law_changed, PySem.W.mg_of X G a16, k16, b16, kf_changed F16 T__law_draw (PySem.W.mg_none_of X G z_len) (PySem.W.mg_none_of X G z_max)⟩
  have F17 := fun_mk (st := s_law) l17 c17 k17
  exact kf_law F17 RX T_Ratio T_Ratio_read T_Ratio___eq__ T_Ratio___str__ T__law_bag T__law_at_of T__law_draw T__law_told_of T__law_fits T__law_changed (PySem.W.mg_none_of X G z_str) (PySem.W.mg_none_of X G z_range) (PySem.W.mg_none_of X G z_list)
end W1
set_option maxRecDepth 100000
open PySem PySem.W PyProof.Rows in
set_option maxRecDepth 100000 in
set_option maxHeartbeats 0 in
theorem PySem.Challenge.cw_waysofmaking_k12_texts_of_fractions_holds : PySem.Challenge.rw_waysofmaking_k12_texts_of_fractions.Holds := by
  w_on; o_law; k_head; (case hw => w_witness2)
  k_fill
  refine L2.walk_of (l := PySem.Challenge.rw_waysofmaking_k12_texts_of_fractions) (n := 63) (k := 10) (x := "_law_script") (CX := fun w => L2.CX PySem.Challenge.pw_waysofmaking_k12_texts_of_fractions w) (sp := fun w => W1.spM (W1.pLaw _)) rfl (by decide) rfl ⟨rfl, by decide, by decide⟩ (fun w h Y => PySem.W.kIn_of Y) ?F W1.law_sp ?Z
  case Z => exact W1.law_cx
  case F =>
    intro w mg fa h KX G hmg
    refine' W1.all_mk KX G hmg ?z_super ?z_abs ?z_isinstance ?z_bool ?z_len ?z_int ?z_str ?z_all ?z_max ?z_list ?z_range ?dig ?aB ?xB ?bmB ?saB ?eB ?tB ?kB ?a0 ?t0 ?l0 ?c0 ?lc0 ?v0 ?fil0 ?ll0 ?sbB ?suB ?svB ?opB ?teB ?nB_n ?gaB ?ggB ?hdB ?aD ?xD ?bmD ?saD ?eD ?tD ?kD ?a1 ?t1 ?l1 ?c1 ?lc1 ?v1 ?fil1 ?ll1 ?sbD ?suD ?svD ?opD ?teD ?nD_at ?gaD ?ggD ?hdD ?aC ?kcC ?mkC ?pgC ?hdC ?poC ?saC ?sfC ?caC ?cnC ?ctC ?cmC ?nC_top ?nC_bottom ?nf ?nfI ?nfS ?ksI ?ksS ?a2 ?l2 ?c2 ?k2 ?a3 ?l3 ?c3 ?k3 ?a4 ?l4 ?c4 ?k4 ?a5 ?i5 ?l5 ?c5 ?k5 ?a6 ?i6 ?l6 ?c6 ?k6 ?a7 ?i7 ?l7 ?c7 ?k7 ?ty8 ?rd8 ?ga8 ?a8 ?rc8 ?fi8 ?l8 ?c8 ?k8 ?a9 ?l9 ?c9 ?k9 ?a10 ?l10 ?c10 ?k10 ?a11 ?l11 ?c11 ?k11 ?a12 ?l12 ?c12 ?k12 ?a13 ?l13 ?c13 ?k13 ?a14 ?l14 ?c14 ?k14 ?a15 ?l15 ?c15 ?k15 ?a16 ?l16 ?c16 ?k16 ?a17 ?l17 ?c17 ?k17
    (case z_super => k_is)
    (case z_abs => k_is)
    (case z_isinstance => k_is)
    (case z_bool => k_is)
    (case z_len => k_is)
    (case z_int => k_is)
    (case z_str => k_is)
    (case z_all => k_is)
    (case z_max => k_is)
    (case z_list => k_is)
    (case z_range => k_is)
    (case dig => k_is)
    (case aB => k_is)
    (case xB => k_is)
    (case bmB => rfl)
    (case saB => k_is)
    (case eB => k_is)
    (case tB => k_is)
    (case kB => k_is)
    (case a0 => k_is)
    (case t0 => k_is)
    (case l0 => k_is)
    (case c0 => k_is)
    (case lc0 => k_is)
    (case v0 => rfl)
    (case fil0 => first | rfl | decide +kernel)
    (case ll0 => k_is)
    (case sbB => k_is)
    (case suB => ks_is)
    (case svB => k_is)
    (case opB => k_is)
    (case teB => kts_exm)
    (case nB_n => k_is)
    (case gaB => k_is)
    (case ggB => k_is)
    (case hdB => k_is)
    (case aD => k_is)
    (case xD => k_is)
    (case bmD => rfl)
    (case saD => k_is)
    (case eD => k_is)
    (case tD => k_is)
    (case kD => k_is)
    (case a1 => k_is)
    (case t1 => k_is)
    (case l1 => k_is)
    (case c1 => k_is)
    (case lc1 => k_is)
    (case v1 => rfl)
    (case fil1 => first | rfl | decide +kernel)
    (case ll1 => k_is)
    (case sbD => k_is)
    (case suD => ks_is)
    (case svD => k_is)
    (case opD => k_is)
    (case teD => kts_exm)
    (case nD_at => k_is)
    (case gaD => k_is)
    (case ggD => k_is)
    (case hdD => k_is)
    (case aC => k_is)
    (case kcC => k_is)
    (case mkC => k_is)
    (case pgC => k_is)
    (case hdC => k_is)
    (case poC => k_is)
    (case saC => k_is)
    (case sfC => k_is)
    (case caC => k_is)
    (case cnC => k_is)
    (case ctC => k_is)
    (case cmC => k_is)
    (case nC_top => k_is)
    (case nC_bottom => k_is)
    (case nf => k_is)
    (case nfI => k_is)
    (case nfS => k_is)
    (case ksI => kit_is)
    (case ksS => kit_is)
    (case a2 => k_is)
    (case l2 => k_is)
    (case c2 => k_is)
    (case k2 => k_is)
    (case a3 => k_is)
    (case l3 => k_is)
    (case c3 => k_is)
    (case k3 => k_is)
    (case a4 => k_is)
    (case l4 => k_is)
    (case c4 => k_is)
    (case k4 => k_is)
    (case a5 => k_is)
    (case i5 => k_is)
    (case l5 => k_is)
    (case c5 => k_is)
    (case k5 => k_is)
    (case a6 => k_is)
    (case i6 => k_is)
    (case l6 => k_is)
    (case c6 => k_is)
    (case k6 => k_is)
    (case a7 => k_is)
    (case i7 => k_is)
    (case l7 => k_is)
    (case c7 => k_is)
    (case k7 => k_is)
    (case ty8 => k_is)
    (case rd8 => k_is)
    (case ga8 => k_is)
    (case a8 => k_is)
    (case rc8 => k_is)
    (case fi8 => k_is)
    (case l8 => k_is)
    (case c8 => k_is)
    (case k8 => k_is)
    (case a9 => k_is)
    (case l9 => k_is)
    (case c9 => k_is)
    (case k9 => k_is)
    (case a10 => k_is)
    (case l10 => k_is)
    (case c10 => k_is)
    (case k10 => k_is)
    (case a11 => k_is)
    (case l11 => k_is)
    (case c11 => k_is)
    (case k11 => k_is)
    (case a12 => k_is)
    (case l12 => k_is)
    (case c12 => k_is)
    (case k12 => k_is)
    (case a13 => k_is)
    (case l13 => k_is)
    (case c13 => k_is)
    (case k13 => k_is)
    (case a14 => k_is)
    (case l14 => k_is)
    (case c14 => k_is)
    (case k14 => k_is)
    (case a15 => k_is)
    (case l15 => k_is)
    (case c15 => k_is)
    (case k15 => k_is)
    (case a16 => k_is)
    (case l16 => k_is)
    (case c16 => k_is)
    (case k16 => k_is)
    (case a17 => k_is)
    (case l17 => k_is)
    (case c17 => k_is)
    (case k17 => k_is)
