import PyProof.Rows.All
import Wide.All
import OpenK.AllK
import Wide.FinOn
import HandS.ForMost
import HandS.ForExc
import HandS.Wide
import HandS.ExcInit
import HandS.ExcField
import HandS.ClsMeth
import HandS.IsInst
import HandS.FStr
import HandS.OwnEq
import HandS.Zip
import HandS.Flow
import HandS.DictComp
import HandS.Nested
import HandS.SlotsOwn
import HandS.Steps
import HandS.Style
import HandS.Text
import HandS.Codes
import HandS.Dict
import HandS.Iter
import HandS.More
import HandS.Finally
import HandS.Conv
import HandS.WordsDict
import HandS.Strs
import HandS.SortOrd
import HandS.IterVal
import HandS.TupAny
import HandS.Star
import KE.KExcSuper
import KE.KOpsOwn
import KE.KCallOwn
import KE.KEqDict
import KE.KDictList
import KE.KSortTupAny
import PyProof.Rows.SortShellAny
import KE.GoesEnum
import PyProof.InstNe
import KE.KEqNest
import KE.KFmtOwn
import KE.GoesZip
import KE.RegKIsAll
import KE.RegKSuper
import KE.RegKTryMore
import PySem.Challenge.RW_waysofmaking_k17_eight_facts
set_option Elab.async false
set_option linter.all false
set_option maxRecDepth 100000
set_option maxHeartbeats 2000000
namespace W1
open PySem PySem.Spec PyProof.Rows L2

/-! ### what is known of values -/
structure Rl where
  r : V → Hp → Prop
  mo : ∀ v H H', Same H H' → r v H → r v H'
structure Ol where
  c : HO → Hp → Prop
  mo : ∀ o H H', Same H H' → c o H → c o H'
abbrev Ty := List (Option Rl)
abbrev Ow := List (Addr × Ol)
abbrev Er := Value → Option Addr → Hp → Prop
abbrev Out := Except Er Rl

def All2 : List Rl → List V → Hp → Prop
  | [], [], _ => True
  | R :: Rs, v :: vs, H => R.r v H ∧ All2 Rs vs H
  | _, _, _ => False
theorem All2.up : ∀ {Rs : List Rl} {vs : List V} {H H' : Hp}, Same H H' → All2 Rs vs H → All2 Rs vs H'
  | [], [], _, _, _, _ => trivial
  | R :: _, _ :: _, _, _, e, ⟨a, b⟩ => ⟨R.mo _ _ _ e a, All2.up e b⟩
  | [], _ :: _, _, _, _, h => h.elim
  | _ :: _, [], _, _, _, h => h.elim
theorem All2.len : ∀ {Rs : List Rl} {vs : List V} {H : Hp}, All2 Rs vs H → Rs.length = vs.length
  | [], [], _, _ => rfl
  | _ :: _, _ :: _, _, ⟨_, b⟩ => by rw [List.length_cons, List.length_cons, All2.len b]
  | [], _ :: _, _, h => h.elim
  | _ :: _, [], _, h => h.elim
theorem All2.get : ∀ {Rs : List Rl} {vs : List V} {H : Hp} {i : Nat} {R : Rl}, All2 Rs vs H → Rs[i]? = some R → ∃ v, vs[i]? = some v ∧ R.r v H
  | [], _, _, i, _, _, e => by simp at e
  | R :: _, v :: _, _, 0, _, ⟨a, _⟩, e => by
    have e' : R = _ := Option.some.inj e
    subst e'
    exact ⟨v, rfl, a⟩
  | _ :: _, _ :: _, _, i + 1, _, ⟨_, b⟩, e => All2.get (i := i) b e
  | _ :: _, [], _, _, _, h, _ => h.elim
theorem All2.app : ∀ {Rs Ss : List Rl} {vs ws : List V} {H : Hp}, All2 Rs vs H → All2 Ss ws H → All2 (Rs ++ Ss) (vs ++ ws) H
  | [], _, [], _, _, _, h => h
  | _ :: _, _, _ :: _, _, _, ⟨a, b⟩, h => ⟨a, All2.app b h⟩
  | [], _, _ :: _, _, _, h, _ => h.elim
  | _ :: _, _, [], _, _, h, _ => h.elim

structure Slots (ρ : Ty) (σ : L2.St) (G : Hp) : Prop where
  len : σ.length = ρ.length
  at_ : ∀ (i : Nat) (R : Rl), ρ[i]? = some (some R) → ∃ v, σ[i]? = some (some v) ∧ R.r v G
theorem Slots.up {ρ : Ty} {σ : L2.St} {G G' : Hp} (s : Slots ρ σ G) (e : Same G G') : Slots ρ σ G' :=
  ⟨s.len, fun i R h => let ⟨v, a, b⟩ := s.at_ i R h; ⟨v, a, R.mo _ _ _ e b⟩⟩
theorem Slots.set {ρ : Ty} {σ : L2.St} {G : Hp} (s : Slots ρ σ G) (i : Nat) {R : Rl} {v : V} (h : R.r v G) : Slots (ρ.set i (some R)) (σ.set i (some v)) G := by
  refine ⟨by rw [List.length_set, List.length_set]; exact s.len, fun j S e => ?_⟩
  by_cases hj : i = j
  · subst hj
    by_cases hi : i < ρ.length
    · rw [List.getElem?_set_self hi] at e
      cases e
      exact ⟨v, List.getElem?_set_self (by rw [s.len]; exact hi), h⟩
    · rw [List.getElem?_eq_none (by rw [List.length_set]; omega)] at e
      cases e
  · rw [List.getElem?_set_ne hj] at e
    obtain ⟨w, a, b⟩ := s.at_ j S e
    exact ⟨w, by rw [List.getElem?_set_ne hj]; exact a, b⟩
theorem Slots.gone {ρ : Ty} {σ : L2.St} {G : Hp} (s : Slots ρ σ G) (i : Nat) : Slots (ρ.set i none) (σ.set i none) G := by
  refine ⟨by rw [List.length_set, List.length_set]; exact s.len, fun j S e => ?_⟩
  by_cases hj : i = j
  · subst hj
    by_cases hi : i < ρ.length
    · rw [List.getElem?_set_self hi] at e
      cases e
    · rw [List.getElem?_eq_none (by rw [List.length_set]; omega)] at e
      cases e
  · rw [List.getElem?_set_ne hj] at e
    obtain ⟨w, a, b⟩ := s.at_ j S e
    exact ⟨w, by rw [List.getElem?_set_ne hj]; exact a, b⟩

/-! ### the frame of a body -/
structure Fx where
  X : Cx
  G0 : Hp
  H0 : Hp
  M : List Addr
  W : WX
  tk : Takes X W
structure At (F : Fx) (ω : Ow) (G H : Hp) : Prop where
  gg : Same F.G0 G
  hh : ∀ a o, a ∉ F.M → F.H0 a = some o → H a = some o
  gh : Same G H
  fr : ∀ a, F.H0 a ≠ none → F.G0 a = none → G a = none
  mm : ∀ a ∈ F.M, H a ≠ none
  ow : ∀ p ∈ ω, G p.1 = none ∧ (F.H0 p.1 = none ∨ p.1 ∈ F.M) ∧ ∃ o, H p.1 = some o ∧ p.2.c o G
  nd : (ω.map (·.1)).Nodup
/-- a further step of a callee, or of an allocation -/
structure Step (G H G' H' : Hp) : Prop where
  gg : Same G G'
  hh : Same H H'
  gh : Same G' H'
  fr : ∀ a, H a ≠ none → G a = none → G' a = none
theorem At.step {F : Fx} {ω : Ow} {G H G' H' : Hp} (a : At F ω G H) (s : Step G H G' H') : At F ω G' H' where
  gg := a.gg.trans s.gg
  hh := fun b o hb e => s.hh b o (a.hh b o hb e)
  gh := s.gh
  fr := fun b h1 h2 => s.fr b (by
    by_cases hb : b ∈ F.M
    · exact a.mm b hb
    · cases e : F.H0 b with
      | none => exact absurd e h1
      | some o => rw [a.hh b o hb e]; simp) (a.fr b h1 h2)
  mm := fun b hb => by
    cases e : H b with
    | none => exact absurd e (a.mm b hb)
    | some o => rw [s.hh b o e]; simp
  ow := fun p hp => by
    obtain ⟨g, h0, o, ho, hc⟩ := a.ow p hp
    exact ⟨s.fr _ (by rw [ho]; simp) g, h0, o, s.hh _ _ ho, p.2.mo _ _ _ s.gg hc⟩
  nd := a.nd
theorem Step.refl {G H : Hp} (h : Same G H) : Step G H G H := ⟨Same.refl _, Same.refl _, h, fun _ _ e => e⟩
theorem Step.new {G H : Hp} {p : Addr} {o : HO} (h : Same G H) (hp : H p = none) : Step G H (upd G p o) (upd H p o) := by
  have hg : G p = none := h.free hp
  refine ⟨fun a u e => ?_, fun a u e => ?_, fun a u e => ?_, fun a h1 h2 => ?_⟩
  · rw [upd_ne (ne_of_none e hg)]; exact e
  · rw [upd_ne (ne_of_none e hp)]; exact e
  · by_cases ha : a = p
    · subst ha; rw [upd_same] at e ⊢; exact e
    · rw [upd_ne ha] at e ⊢; exact h _ _ e
  · by_cases ha : a = p
    · subst ha; exact absurd hp h1
    · rw [upd_ne ha]; exact h2
/-- a new object that G does not see -/
theorem Step.hid {G H : Hp} {p : Addr} {o : HO} (h : Same G H) (hp : H p = none) : Step G H G (upd H p o) := by
  refine ⟨Same.refl _, fun a u e => ?_, fun a u e => ?_, fun a _ h2 => h2⟩
  · rw [upd_ne (ne_of_none e hp)]; exact e
  · rw [upd_ne (ne_of_none (h _ _ e) hp)]; exact h _ _ e
theorem Step.trans {G H G1 H1 G2 H2 : Hp} (a : Step G H G1 H1) (b : Step G1 H1 G2 H2) : Step G H G2 H2 :=
  ⟨a.gg.trans b.gg, a.hh.trans b.hh, b.gh, fun x h1 h2 => b.fr x (by
    cases e : H x with
    | none => exact absurd e h1
    | some o => rw [a.hh x o e]; simp) (a.fr x h1 h2)⟩

/-! ### the weakest wishes -/
section
variable (X : Cx)
def EW (e : Expr) : TE := fun σ H Q => ∀ pins s, Inv X pins σ H s → wpAny (model X.prog X.w) X.A (eval e X.env) (EP X pins σ Q) X.xe s
def TW (e : Expr) : TT := fun σ H Q => ∀ pins s, Inv X pins σ H s → wpAny (model X.prog X.w) X.A (isTrue e X.env (eval e X.env)) (TP X pins σ Q) X.xe s
def AW (es : List Expr) : TA := fun σ H Q => ∀ pos pins s, Inv X pins σ H s → wpAny (model X.prog X.w) X.A (spliced (backTo pos (starEach es X.env))) (AP X pins σ Q) X.xe s
def SW (st : Stmt) : TS := fun D σ H => ∀ pins s, Inv X pins σ H s → wpAny (model X.prog X.w) X.A (exec st X.env) (SP X pins D) X.xe s
def BW (st : List Stmt) : TS := fun D σ H => ∀ pins s, Inv X pins σ H s → wpAny (model X.prog X.w) X.A (execs st X.env) (SP X pins D) X.xe s
end
section
variable {X : Cx}
theorem pe_w {e : Expr} : PE X e (EW X e) := ⟨fun pins s _ _ _ I h => h pins s I⟩
theorem pt_w {e : Expr} : PT X e (TW X e) := ⟨fun pins s _ _ _ I h => h pins s I⟩
theorem pa_w {es : List Expr} : PA X es (AW X es) := ⟨fun pos pins s _ _ _ I h => h pos pins s I⟩
theorem ps_w {st : Stmt} : PS X st (SW X st) := ⟨fun pins s _ _ _ I h => h pins s I⟩
theorem pss_w {st : List Stmt} : PSs X st (BW X st) := ⟨fun pins s _ _ _ I h => h pins s I⟩
theorem ew_of {e : Expr} {t : TE} (h : PE X e t) {σ : L2.St} {H : Hp} {Q : VK} (q : t σ H Q) : EW X e σ H Q := fun pins s I => h.run pins s σ H Q I q
theorem tw_of {e : Expr} {t : TT} (h : PT X e t) {σ : L2.St} {H : Hp} {Q : Bool → Hp → Prop} (q : t σ H Q) : TW X e σ H Q := fun pins s I => h.run pins s σ H Q I q
theorem aw_of {es : List Expr} {t : TA} (h : PA X es t) {σ : L2.St} {H : Hp} {Q : List V → Hp → Prop} (q : t σ H Q) : AW X es σ H Q := fun pos pins s I => h.run pos pins s σ H Q I q
theorem sw_of {st : Stmt} {t : TS} (h : PS X st t) {D : Ends} {σ : L2.St} {H : Hp} (q : t D σ H) : SW X st D σ H := fun pins s I => h.run pins s σ H D I q
theorem bw_of {st : List Stmt} {t : TS} (h : PSs X st t) {D : Ends} {σ : L2.St} {H : Hp} (q : t D σ H) : BW X st D σ H := fun pins s I => h.run pins s σ H D I q
end

/-! ### what an expression gives -/
def ER (F : Fx) (ρ : Ty) (ω : Ow) (e : Expr) (R : Rl) (ω' : Ow) : Prop :=
  ∀ σ G H, At F ω G H → Slots ρ σ G → ∀ Q : VK, (∀ v G2 H2, Same G G2 → At F ω' G2 H2 → R.r v G2 → Q v H2) → EW F.X e σ H Q
def TR (F : Fx) (ρ : Ty) (ω : Ow) (e : Expr) (b : Bool) (ω' : Ow) : Prop :=
  ∀ σ G H, At F ω G H → Slots ρ σ G → ∀ Q : Bool → Hp → Prop, (∀ G2 H2, Same G G2 → At F ω' G2 H2 → Q b H2) → TW F.X e σ H Q
def AR (F : Fx) (ρ : Ty) (ω : Ow) (es : List Expr) (Rs : List Rl) (ω' : Ow) : Prop :=
  ∀ σ G H, At F ω G H → Slots ρ σ G → ∀ Q : List V → Hp → Prop, (∀ vs G2 H2, Same G G2 → At F ω' G2 H2 → All2 Rs vs G2 → Q vs H2) → AW F.X es σ H Q
/-- it raises -/
def EX (F : Fx) (ρ : Ty) (ω : Ow) (e : Expr) (P : Er) (ω' : Ow) : Prop :=
  ∀ σ G H, At F ω G H → Slots ρ σ G → (∀ cls d G2 H2, Same G G2 → At F ω' G2 H2 → P cls d G2 → F.W cls d σ H2) → EW F.X e σ H (fun _ _ => False)
end W1
set_option maxRecDepth 100000
set_option maxHeartbeats 2000000
namespace W1
open PySem PySem.Spec PyProof.Rows L2

/-! ### relations -/
def rEqV (x : V) : Rl := ⟨fun v _ => v = x, fun _ _ _ _ h => h⟩
abbrev rInt (i : Int) : Rl := rEqV (.int i)
abbrev rBool (b : Bool) : Rl := rEqV (.bl b)
abbrev rStr (x : Str) : Rl := rEqV (.str x)
abbrev rNon : Rl := rEqV .non
abbrev rRef (p : Addr) : Rl := rEqV (.ref p)
def rLst (Rs : List Rl) : Rl := ⟨fun v H => ∃ p vs, v = .ref p ∧ H p = some (.lst vs) ∧ All2 Rs vs H, fun _ _ _ e ⟨p, vs, a, b, c⟩ => ⟨p, vs, a, e _ _ b, c.up e⟩⟩
theorem sameT {K : PySem.W.Frag} {H H' : Hp} {a : Addr} {xs : List V} (e : Same H H') (h : SqT K H a xs) : SqT K H' a xs := by
  rcases h with (h | ⟨o, h⟩) | h
  · exact .inl (.inl (e _ _ h))
  · exact .inl (.inr ⟨o, e _ _ h⟩)
  · exact .inr h
def rTup (Rs : List Rl) : Rl := ⟨fun v H => ∃ p vs, v = .ref p ∧ H p = some (.tup vs) ∧ All2 Rs vs H, fun _ _ _ e ⟨p, vs, a, b, c⟩ => ⟨p, vs, a, e _ _ b, c.up e⟩⟩
/-- named things, in order -/
def NR {κ : Type} : List (κ × Rl) → List (κ × V) → Hp → Prop
  | [], [], _ => True
  | (k, R) :: Rs, (k', v) :: vs, H => k = k' ∧ R.r v H ∧ NR Rs vs H
  | _, _, _ => False
theorem NR.up {κ : Type} : ∀ {Rs : List (κ × Rl)} {vs : List (κ × V)} {H H' : Hp}, Same H H' → NR Rs vs H → NR Rs vs H'
  | [], [], _, _, _, _ => trivial
  | (_, R) :: _, (_, _) :: _, _, _, e, ⟨k, a, b⟩ => ⟨k, R.mo _ _ _ e a, NR.up e b⟩
  | [], _ :: _, _, _, _, h => h.elim
  | _ :: _, [], _, _, _, h => h.elim
theorem NR.look : ∀ {Rs : List (Str × Rl)} {vs : List (Str × V)} {H : Hp} {f : Str} {R : Rl}, NR Rs vs H → Rs.lookup f = some R → ∃ v, vs.lookup f = some v ∧ R.r v H
  | [], _, _, _, _, _, e => by cases e
  | (k, S) :: Rs, (k', v) :: vs, H, f, R, ⟨hk, a, b⟩, e => by
    subst hk
    by_cases h : f = k
    · subst h
      rw [List.lookup_cons_self] at e
      cases e
      exact ⟨v, List.lookup_cons_self, a⟩
    · have hb : (f == k) = false := by simpa using h
      rw [List.lookup_cons, hb] at e
      obtain ⟨w, x, y⟩ := NR.look b e
      exact ⟨w, by rw [List.lookup_cons, hb]; exact x, y⟩
  | _ :: _, [], _, _, _, h, _ => h.elim
theorem NR.lookN : ∀ {Rs : List (Str × Rl)} {vs : List (Str × V)} {H : Hp} {f : Str}, NR Rs vs H → Rs.lookup f = none → vs.lookup f = none
  | [], [], _, _, _, _ => rfl
  | (k, S) :: Rs, (k', v) :: vs, H, f, ⟨hk, a, b⟩, e => by
    subst hk
    by_cases h : f = k
    · subst h
      rw [List.lookup_cons_self] at e
      cases e
    · have hb : (f == k) = false := by simpa using h
      rw [List.lookup_cons, hb] at e ⊢
      exact NR.lookN b e
  | [], _ :: _, _, _, h, _ => h.elim
  | _ :: _, [], _, _, h, _ => h.elim
def rIns (C : Addr) (fs : List (Str × Rl)) : Rl := ⟨fun v H => ∃ p dx vs, v = .ref p ∧ H p = some (.ins C dx vs) ∧ NR fs vs H, fun _ _ _ e ⟨p, dx, vs, a, b, c⟩ => ⟨p, dx, vs, a, e _ _ b, c.up e⟩⟩

/-! ### operators -/
/-- a two-place operation -/
def Bop (F : Fx) (ω : Ow) (f : Value → Value → Sem Value) (A B R : Rl) : Prop :=
  ∃ r : R2, OpR F.X f r ∧ ∀ x y G H, At F ω G H → A.r x G → B.r y G → ∀ Q : VK, (∀ v G2 H2, Same G G2 → At F ω G2 H2 → R.r v G2 → Q v H2) → r x y H Q
def Uop (F : Fx) (ω : Ow) (f : Value → Sem Value) (A R : Rl) : Prop :=
  ∃ r : V → Hp → VK → Prop, UnR F.X f r ∧ ∀ x G H, At F ω G H → A.r x G → ∀ Q : VK, (∀ v G2 H2, Same G G2 → At F ω G2 H2 → R.r v G2 → Q v H2) → r x H Q
def Cop (F : Fx) (ω : Ow) (f : Value) (As : List Rl) (R : Rl) : Prop :=
  ∃ r : List V → Hp → VK → Prop, CallR F.X f r ∧ ∀ xs G H, At F ω G H → All2 As xs G → ∀ Q : VK, (∀ v G2 H2, Same G G2 → At F ω G2 H2 → R.r v G2 → Q v H2) → r xs H Q
def Iop (F : Fx) (ω : Ow) (A B R : Rl) : Prop :=
  ∃ r : R2, IxR F.X r ∧ ∀ x y G H, At F ω G H → A.r x G → B.r y G → ∀ Q : VK, (∀ v G2 H2, Same G G2 → At F ω G2 H2 → R.r v G2 → Q v H2) → r x y H Q
section
variable {F : Fx} {ρ : Ty} {ω w1 w2 w3 : Ow} {a b c e : Expr} {A B C R S : Rl} {pos p : Pos} {x : Str}
theorem er_eq (h : ER F ρ ω e R w1) (k : R = S) : ER F ρ ω e S w1 := k ▸ h
theorem er_var (i : Nat) (h : ρ[i]? = some (some R)) (hN : F.X.N[i]? = some x := by rfl) (hv : Vis F.X.env.scope x := by first | exact Or.inl rfl | exact Or.inr (Or.inl rfl) | exact Or.inr (Or.inr rfl))
    (hd : (x == ("__debug__" : Str)) = false := by decide) (hcd : (x == ("__classdict__" : Str)) = false := by decide) : ER F ρ ω (.Name x pos) R ω := fun σ G H at_ sl Q q => by
  obtain ⟨v, h1, h2⟩ := sl.at_ i R h
  exact ew_of (pe_var hN hv hd hcd) ⟨v, h1, q v G H (Same.refl _) at_ h2⟩
theorem er_int {i : Int} {j : Nat} : ER F ρ ω (.Constant (.int i) j pos) (rInt i) ω := fun σ G H at_ sl Q q => ew_of pe_int (q _ G H (Same.refl _) at_ rfl)
theorem er_bl {i : Bool} {j : Nat} : ER F ρ ω (.Constant (.bool i) j pos) (rBool i) ω := fun σ G H at_ sl Q q => ew_of pe_bl (q _ G H (Same.refl _) at_ rfl)
theorem er_str {i : Str} {j : Nat} : ER F ρ ω (.Constant (.str i) j pos) (rStr i) ω := fun σ G H at_ sl Q q => ew_of pe_str (q _ G H (Same.refl _) at_ rfl)
theorem er_non {j : Nat} : ER F ρ ω (.Constant .none j pos) rNon ω := fun σ G H at_ sl Q q => ew_of pe_non (q _ G H (Same.refl _) at_ rfl)
theorem er_glob {v : V} {u : Value} (hg : Gl F.X x) (hm : F.X.mg x = some u) (r : RelV v u) (hd : (x == ("__debug__" : Str)) = false := by decide) : ER F ρ ω (.Name x pos) (rEqV v) ω :=
  fun σ G H at_ sl Q q => ew_of (pe_glob hg hm r hd) (q _ G H (Same.refl _) at_ rfl)
theorem er_bin {op : Operator} (ha : ER F ρ ω a A w1) (hb : ER F ρ w1 b B w2) (h : Bop F w2 (binaryOp op) A B R) : ER F ρ ω (.BinOp a op b pos) R w2 := fun σ G H at_ sl Q q => by
  obtain ⟨r, ho, k⟩ := h
  refine ew_of (pe_op ho pe_w pe_w) (ha σ G H at_ sl _ fun x G1 H1 s1 at1 rx => hb σ G1 H1 at1 (sl.up s1) _ fun y G2 H2 s2 at2 ry => ?_)
  exact k x y G2 H2 at2 (A.mo _ _ _ s2 rx) ry Q fun v G3 H3 s3 at3 rv => q v G3 H3 ((s1.trans s2).trans s3) at3 rv
theorem er_un {op : UnaryOp} (ha : ER F ρ ω a A w1) (h : Uop F w1 (unaryOp op) A R) : ER F ρ ω (.UnaryOp op a pos) R w1 := fun σ G H at_ sl Q q => by
  obtain ⟨r, ho, k⟩ := h
  refine ew_of (pe_un ho pe_w) (ha σ G H at_ sl _ fun x G1 H1 s1 at1 rx => ?_)
  exact k x G1 H1 at1 rx Q fun v G3 H3 s3 at3 rv => q v G3 H3 (s1.trans s3) at3 rv
theorem er_cmp {op : CmpOp} (ha : ER F ρ ω a A w1) (hb : ER F ρ w1 b B w2) (h : Bop F w2 (compareOp op) A B R) (hm : behindInMarks op b = false := by first | exact nomark _ | rfl) : ER F ρ ω (.Compare a [op] [b] pos) R w2 := fun σ G H at_ sl Q q => by
  obtain ⟨r, ho, k⟩ := h
  refine ew_of (pe_cmpR ho pe_w pe_w hm) (ha σ G H at_ sl _ fun x G1 H1 s1 at1 rx => hb σ G1 H1 at1 (sl.up s1) _ fun y G2 H2 s2 at2 ry => ?_)
  exact k x y G2 H2 at2 (A.mo _ _ _ s2 rx) ry Q fun v G3 H3 s3 at3 rv => q v G3 H3 ((s1.trans s2).trans s3) at3 rv
theorem tr_cmp {op : CmpOp} {k : Bool} (ha : ER F ρ ω a A w1) (hb : ER F ρ w1 b B w2) (h : Bop F w2 (compareOp op) A B (rBool k)) (hm : behindInMarks op b = false := by first | exact nomark _ | rfl) : TR F ρ ω (.Compare a [op] [b] pos) k w2 := fun σ G H at_ sl Q q => by
  obtain ⟨r, ho, k'⟩ := h
  refine tw_of (pt_cmpR ho pe_w pe_w hm) (ha σ G H at_ sl _ fun x G1 H1 s1 at1 rx => hb σ G1 H1 at1 (sl.up s1) _ fun y G2 H2 s2 at2 ry => ?_)
  exact k' x y G2 H2 at2 (A.mo _ _ _ s2 rx) ry _ fun v G3 H3 s3 at3 rv => ⟨k, rv, q G3 H3 ((s1.trans s2).trans s3) at3⟩
theorem tr_val {k : Bool} (h : ER F ρ ω e (rBool k) w1) (he : ∀ whole, isTrue e F.X.env whole = (do let v ← whole; standAt e.pos; holding [v] (truthy v)) := by intro _; rfl) : TR F ρ ω e k w1 := fun σ G H at_ sl Q q =>
  tw_of (pt_val pe_w he) (h σ G H at_ sl _ fun v G2 H2 s a r => ⟨k, r, q G2 H2 s a⟩)
theorem tr_truth {k : Bool} (h : ER F ρ ω e R w1) (ht : ∀ v G H, At F w1 G H → R.r v G → TruV F.X.K v H k) (he : ∀ whole, isTrue e F.X.env whole = (do let v ← whole; standAt e.pos; holding [v] (truthy v)) := by intro _; rfl) : TR F ρ ω e k w1 := fun σ G H at_ sl Q q =>
  tw_of (pt_truth pe_w he) (h σ G H at_ sl _ fun v G2 H2 s a r => ⟨k, ht v G2 H2 a r, q G2 H2 s a⟩)
theorem tr_not {k : Bool} (h : TR F ρ ω e k w1) : TR F ρ ω (.UnaryOp .Not e pos) (!k) w1 := fun σ G H at_ sl Q q => tw_of (pt_not pt_w) (h σ G H at_ sl _ fun G2 H2 s a => q G2 H2 s a)
theorem er_not {k : Bool} (h : ER F ρ ω e (rBool k) w1) : ER F ρ ω (.UnaryOp .Not e pos) (rBool (!k)) w1 := fun σ G H at_ sl Q q => ew_of (pe_not pe_w) (h σ G H at_ sl _ fun v G2 H2 s a r => ⟨k, r, q _ G2 H2 s a rfl⟩)
theorem tr_to {k k' : Bool} (h : TR F ρ ω e k w1) (z : k = k') : TR F ρ ω e k' w1 := z ▸ h
/-- what comes of the words and, or, if: behind the first operand nothing owned changes -/
def PWR (F : Fx) (ρ : Ty) (ω : Ow) (e : Expr) (k : Bool) (w1 : Ow) : Prop := ∃ t, PW F.X e t ∧ ∀ σ G H, At F ω G H → Slots ρ σ G → ∀ Q : Bool → Hp → Prop, (∀ G2 H2, Same G G2 → At F w1 G2 H2 → Q k H2) → t σ H Q
theorem PWR.tr {k : Bool} (h : PWR F ρ ω e k w1) : TR F ρ ω e k w1 := fun σ G H at_ sl Q q => by
  obtain ⟨t, hp, hk⟩ := h
  exact tw_of hp.pt (hk σ G H at_ sl Q q)
theorem tr_and1 {k : Bool} (h : TR F ρ ω e k w1) : PWR F ρ ω (.BoolOp .And [e] pos) k w1 := ⟨_, pw_and1 pt_w, h⟩
theorem tr_or1 {k : Bool} (h : TR F ρ ω e k w1) : PWR F ρ ω (.BoolOp .Or [e] pos) k w1 := ⟨_, pw_or1 pt_w, h⟩
theorem tr_and {k m : Bool} {rest : List Expr} (h : TR F ρ ω a k w1) (g : k = true → PWR F ρ w1 (.BoolOp .And (b :: rest) pos) m w1) : PWR F ρ ω (.BoolOp .And (a :: b :: rest) pos) (k && m) w1 := by
  cases k with
  | true =>
    obtain ⟨t, hp, hk⟩ := g rfl
    exact ⟨_, pw_and pt_w hp, fun σ G H at_ sl Q q => h σ G H at_ sl _ fun G2 H2 s a => iteT (hk σ G2 H2 a (sl.up s) Q fun G3 H3 s3 a3 => q G3 H3 (s.trans s3) a3)⟩
  | false => exact ⟨_, pw_and (tB' := fun _ _ _ => False) pt_w ⟨fun _ _ _ _ _ _ _ h => h.elim⟩, fun σ G H at_ sl Q q => h σ G H at_ sl _ fun G2 H2 s a => iteF (q G2 H2 s a)⟩
theorem tr_or {k m : Bool} {rest : List Expr} (h : TR F ρ ω a k w1) (g : k = false → PWR F ρ w1 (.BoolOp .Or (b :: rest) pos) m w1) : PWR F ρ ω (.BoolOp .Or (a :: b :: rest) pos) (k || m) w1 := by
  cases k with
  | false =>
    obtain ⟨t, hp, hk⟩ := g rfl
    exact ⟨_, pw_or pt_w hp, fun σ G H at_ sl Q q => h σ G H at_ sl _ fun G2 H2 s a => iteF (hk σ G2 H2 a (sl.up s) Q fun G3 H3 s3 a3 => q G3 H3 (s.trans s3) a3)⟩
  | true => exact ⟨_, pw_or (tB' := fun _ _ _ => False) pt_w ⟨fun _ _ _ _ _ _ _ h => h.elim⟩, fun σ G H at_ sl Q q => h σ G H at_ sl _ fun G2 H2 s a => iteT (q G2 H2 s a)⟩
theorem er_one {op} (h : ER F ρ ω e R w1) : ER F ρ ω (.BoolOp op [e] pos) R w1 := fun σ G H at_ sl Q q => ew_of (pe_one pe_w) (h σ G H at_ sl Q q)
theorem er_and {k m : Bool} {rest : List Expr} (h : ER F ρ ω a (rBool k) w1) (g : k = true → ER F ρ w1 (.BoolOp .And (b :: rest) pos) (rBool m) w1) : ER F ρ ω (.BoolOp .And (a :: b :: rest) pos) (rBool (k && m)) w1 := fun σ G H at_ sl Q q => by
  refine ew_of (pe_and pe_w pe_w) (h σ G H at_ sl _ fun v G2 H2 s a r => ⟨k, r, ?_⟩)
  cases k with
  | true => exact iteT (g rfl σ G2 H2 a (sl.up s) Q fun v G3 H3 s3 a3 r3 => q v G3 H3 (s.trans s3) a3 r3)
  | false => exact iteF (q _ G2 H2 s a rfl)
theorem er_ifx {k : Bool} (h : TR F ρ ω c k w1) (h1 : k = true → ER F ρ w1 a R w2) (h2 : k = false → ER F ρ w1 b R w2) : ER F ρ ω (.IfExp c a b pos) R w2 := fun σ G H at_ sl Q q => by
  refine ew_of (pe_ifExp pt_w pe_w pe_w) (h σ G H at_ sl _ fun G2 H2 s a => ?_)
  cases k with
  | true => exact iteT (h1 rfl σ G2 H2 a (sl.up s) Q fun v G3 H3 s3 a3 r3 => q v G3 H3 (s.trans s3) a3 r3)
  | false => exact iteF (h2 rfl σ G2 H2 a (sl.up s) Q fun v G3 H3 s3 a3 r3 => q v G3 H3 (s.trans s3) a3 r3)
theorem er_fld {C : Addr} {fs : List (Str × Rl)} {f : Str} (h : ER F ρ ω e (rIns C fs) w1) (hc : Cls F.X.K C) (hn : NoAttr F.X.K C f) (hl : fs.lookup f = some R) (hb : attributeBase e f F.X.env (eval e F.X.env) = eval e F.X.env := by rfl) :
    ER F ρ ω (.Attribute e f pos) R w1 := fun σ G H at_ sl Q q => by
  refine ew_of (pe_fld pe_w hb) (h σ G H at_ sl _ fun v G2 H2 s a r => ?_)
  obtain ⟨p, dx, vs, rfl, h1, h2⟩ := r
  obtain ⟨w, h3, h4⟩ := h2.look hl
  exact ⟨p, C, dx, vs, w, rfl, a.gh _ _ h1, hc, hn, h3, q w G2 H2 s a h4⟩
theorem ar_nil : AR F ρ ω [] [] ω := fun σ G H at_ sl Q q => aw_of pa_nil (q [] G H (Same.refl _) at_ trivial)
theorem ar_cons {es : List Expr} {Rs : List Rl} (h : ER F ρ ω e R w1) (hr : AR F ρ w1 es Rs w2) (hs : starEach (e :: es) F.X.env = (false, eval e F.X.env) :: starEach es F.X.env := by rfl) : AR F ρ ω (e :: es) (R :: Rs) w2 := fun σ G H at_ sl Q q => by
  refine aw_of (pa_cons pe_w pa_w hs) (h σ G H at_ sl _ fun v G2 H2 s a r => hr σ G2 H2 a (sl.up s) _ fun vs G3 H3 s3 a3 r3 => q _ G3 H3 (s.trans s3) a3 ⟨R.mo _ _ _ s3 r, r3⟩)
theorem er_lst {es : List Expr} {Rs : List Rl} (h : AR F ρ ω es Rs w1) (hz : Rs.length ≤ 1000) : ER F ρ ω (.List es pos) (rLst Rs) w1 := fun σ G H at_ sl Q q => by
  refine ew_of (pe_lst pa_w) (h σ G H at_ sl _ fun vs G2 H2 s a r => ⟨Nat.le_of_lt (small1000 (by rw [← r.len]; exact hz)), fun p hp => ?_⟩)
  have st := Step.new (o := .lst vs) a.gh hp
  exact q _ _ _ (s.trans st.gg) (a.step st) ⟨p, vs, rfl, upd_same, r.up st.gg⟩
theorem er_tup {es : List Expr} {Rs : List Rl} {j : Nat} (h : AR F ρ ω es Rs w1) (hz : Rs.length ≤ 1000) : ER F ρ ω (.Tuple es j pos) (rTup Rs) w1 := fun σ G H at_ sl Q q => by
  refine ew_of (pe_tup pa_w) (h σ G H at_ sl _ fun vs G2 H2 s a r => ⟨Nat.le_of_lt (small1000 (by rw [← r.len]; exact hz)), fun p hp => ?_⟩)
  have st := Step.new (o := .tup vs) a.gh hp
  exact q _ _ _ (s.trans st.gg) (a.step st) ⟨p, vs, rfl, upd_same, r.up st.gg⟩
theorem er_ix (ha : ER F ρ ω a A w1) (hb : ER F ρ w1 b B w2) (h : Iop F w2 A B R) (hs : PlainIx b := by exact fun _ _ => rfl) : ER F ρ ω (.Subscript a b pos) R w2 := fun σ G H at_ sl Q q => by
  obtain ⟨r, ho, k⟩ := h
  refine ew_of (pe_ix ho pe_w pe_w hs) (ha σ G H at_ sl _ fun x G1 H1 s1 at1 rx => hb σ G1 H1 at1 (sl.up s1) _ fun y G2 H2 s2 at2 ry => ?_)
  exact k x y G2 H2 at2 (A.mo _ _ _ s2 rx) ry Q fun v G3 H3 s3 at3 rv => q v G3 H3 ((s1.trans s2).trans s3) at3 rv
theorem er_callB {id : String} {As : List Rl} {es : List Expr} (hc : Cop F w1 (.builtin id) As R) (hg : Gl F.X x) (hm : F.X.mg x = none) (hv : bootBuiltins x = some (.builtin id)) (ha : AR F ρ ω (e :: es) As w1) (hn : x ≠ "__name__" := by decide) (hdb : (x == ("__debug__" : Str)) = false := by decide)
    (he : starEach (e :: es) F.X.env = (false, eval e F.X.env) :: starEach es F.X.env := by rfl) (hpl : (backTo pos (starEach es F.X.env)).any (·.1) = false := by rfl) : ER F ρ ω (.Call (.Name x p) (e :: es) [] pos) R w1 := fun σ G H at_ sl Q q => by
  obtain ⟨r, ho, k⟩ := hc
  refine ew_of (pe_callB ho hg hm hv pa_w hn hdb he hpl) (ha σ G H at_ sl _ fun vs G2 H2 s a r => ?_)
  exact k vs G2 H2 a r Q fun v G3 H3 s3 a3 r3 => q v G3 H3 (s.trans s3) a3 r3
theorem er_callTy {id : String} {As : List Rl} {es : List Expr} (hc : Cop F w1 (.type id) As R) (hg : Gl F.X x) (hm : F.X.mg x = none) (hv : bootBuiltins x = some (.type id)) (ha : AR F ρ ω (e :: es) As w1) (hn : x ≠ "__name__" := by decide) (hdb : (x == ("__debug__" : Str)) = false := by decide)
    (he : starEach (e :: es) F.X.env = (false, eval e F.X.env) :: starEach es F.X.env := by rfl) (hpl : (backTo pos (starEach es F.X.env)).any (·.1) = false := by rfl) : ER F ρ ω (.Call (.Name x p) (e :: es) [] pos) R w1 := fun σ G H at_ sl Q q => by
  obtain ⟨r, ho, k⟩ := hc
  refine ew_of (pe_callTy ho hg hm hv pa_w hn hdb he hpl) (ha σ G H at_ sl _ fun vs G2 H2 s a r => ?_)
  exact k vs G2 H2 a r Q fun v G3 H3 s3 a3 r3 => q v G3 H3 (s.trans s3) a3 r3
end
end W1
set_option maxRecDepth 100000
set_option maxHeartbeats 2000000
namespace W1
open PySem PySem.Spec PyProof.Rows L2

section
variable {F : Fx} {ω : Ow} {A B R : Rl}
theorem bop_of {f : Value → Value → Sem Value} {r : R2} {x y z : V} (ho : OpR F.X f r) (h : ∀ (H : Hp) (Q : VK), Q z H → r x y H Q) : Bop F ω f (rEqV x) (rEqV y) (rEqV z) :=
  ⟨r, ho, fun x' y' G H at_ hx hy Q q => by
    have e1 : x' = x := hx
    have e2 : y' = y := hy
    subst e1 e2
    exact h H Q (q z G H (Same.refl _) at_ rfl)⟩
theorem uop_of {f : Value → Sem Value} {r : V → Hp → VK → Prop} {x z : V} (ho : UnR F.X f r) (h : ∀ (H : Hp) (Q : VK), Q z H → r x H Q) : Uop F ω f (rEqV x) (rEqV z) :=
  ⟨r, ho, fun x' G H at_ hx Q q => by
    have e1 : x' = x := hx
    subst e1
    exact h H Q (q z G H (Same.refl _) at_ rfl)⟩
theorem cop_of1 {f : Value} {r : List V → Hp → VK → Prop} {x z : V} (ho : CallR F.X f r) (h : ∀ (H : Hp) (Q : VK), Q z H → r [x] H Q) : Cop F ω f [rEqV x] (rEqV z) :=
  ⟨r, ho, fun xs G H at_ hx Q q => by
    match xs, hx with
    | [x'], ⟨e, _⟩ =>
      have e1 : x' = x := e
      subst e1
      exact h H Q (q z G H (Same.refl _) at_ rfl)⟩
theorem cop_of2 {f : Value} {r : List V → Hp → VK → Prop} {x y z : V} (ho : CallR F.X f r) (h : ∀ (H : Hp) (Q : VK), Q z H → r [x, y] H Q) : Cop F ω f [rEqV x, rEqV y] (rEqV z) :=
  ⟨r, ho, fun xs G H at_ hx Q q => by
    match xs, hx with
    | [x', y'], ⟨e, e', _⟩ =>
      have e1 : x' = x := e
      have e2 : y' = y := e'
      subst e1 e2
      exact h H Q (q z G H (Same.refl _) at_ rfl)⟩
/-! ints -/
theorem op_mulZ {X : Cx} : OpR X (binaryOp .Mult) (rI IntMulOk fun i j => .int (i * j)) := opI fun _ _ _ _ _ _ _ hc q => mul_int q hc
def CDivZ (_ j : Int) : Prop := j ≠ 0 ∧ j.natAbs.log2 < 9000
theorem op_fdivZ {X : Cx} : OpR X (binaryOp .FloorDiv) (rI CDivZ fun i j => .int (i.fdiv j)) := opI fun _ _ _ _ _ _ _ hc q => floordiv_int hc.1 q (.inl (PyProof.noPylong_of_log2 hc.2))
theorem bop_add {i j : Int} : Bop F ω (binaryOp .Add) (rInt i) (rInt j) (rInt (i + j)) := bop_of op_add fun _ _ q => ⟨i, j, rfl, rfl, q⟩
theorem bop_sub {i j : Int} : Bop F ω (binaryOp .Sub) (rInt i) (rInt j) (rInt (i - j)) := bop_of op_sub fun _ _ q => ⟨i, j, rfl, rfl, q⟩
theorem bop_mul {i j : Int} (h : IntMulOk i j) : Bop F ω (binaryOp .Mult) (rInt i) (rInt j) (rInt (i * j)) := bop_of op_mulZ fun _ _ q => ⟨i, j, rfl, rfl, h, q⟩
theorem bop_fdiv {i j : Int} (h : CDivZ i j) : Bop F ω (binaryOp .FloorDiv) (rInt i) (rInt j) (rInt (i.fdiv j)) := bop_of op_fdivZ fun _ _ q => ⟨i, j, rfl, rfl, h, q⟩
theorem bop_mod {i j : Int} (h : j ≠ 0) : Bop F ω (binaryOp .Mod) (rInt i) (rInt j) (rInt (i.fmod j)) := bop_of op_modN fun _ _ q => ⟨i, j, rfl, rfl, h, q⟩
theorem bop_pow {i j : Int} (h : CPow i j) : Bop F ω (binaryOp .Pow) (rInt i) (rInt j) (rInt (i ^ j.toNat)) := bop_of op_pow fun _ _ q => ⟨i, j, rfl, rfl, h, q⟩
theorem bop_lt {i j : Int} : Bop F ω (compareOp .Lt) (rInt i) (rInt j) (rBool (decide (i < j))) := bop_of op_lt fun _ _ q => ⟨i, j, rfl, rfl, q⟩
theorem bop_le {i j : Int} : Bop F ω (compareOp .LtE) (rInt i) (rInt j) (rBool (decide (i ≤ j))) := bop_of op_le fun _ _ q => ⟨i, j, rfl, rfl, q⟩
theorem bop_gt {i j : Int} : Bop F ω (compareOp .Gt) (rInt i) (rInt j) (rBool (decide (j < i))) := bop_of op_gt fun _ _ q => ⟨i, j, rfl, rfl, q⟩
theorem bop_ge {i j : Int} : Bop F ω (compareOp .GtE) (rInt i) (rInt j) (rBool (decide (j ≤ i))) := bop_of op_ge fun _ _ q => ⟨i, j, rfl, rfl, q⟩
theorem bop_eq {x y : V} (h : scal x y = true) : Bop F ω (compareOp .Eq) (rEqV x) (rEqV y) (rBool (decide (x = y))) := bop_of op_eq fun _ _ q => ⟨h, q⟩
theorem bop_ne {x y : V} (h : scal x y = true) : Bop F ω (compareOp .NotEq) (rEqV x) (rEqV y) (rBool (!decide (x = y))) := bop_of op_ne fun _ _ q => ⟨h, q⟩
theorem bop_notN {x : V} : Bop F ω (compareOp .IsNot) (rEqV x) rNon (rBool (!decide (x = .non))) := bop_of op_notN fun _ _ q => ⟨rfl, q⟩
theorem dec_i {i j : Int} : decide (V.int i = V.int j) = decide (i = j) := by
  by_cases h : i = j
  · subst h; simp
  · rw [decide_eq_false h, decide_eq_false (fun e => h (V.int.inj e))]
theorem bop_eqI {i j : Int} : Bop F ω (compareOp .Eq) (rInt i) (rInt j) (rBool (decide (i = j))) := by rw [← dec_i]; exact bop_eq rfl
theorem bop_neI {i j : Int} : Bop F ω (compareOp .NotEq) (rInt i) (rInt j) (rBool (!decide (i = j))) := by rw [← dec_i]; exact bop_ne rfl
theorem uop_neg {i : Int} : Uop F ω (unaryOp .USub) (rInt i) (rInt (-i)) := uop_of un_neg fun _ _ q => ⟨i, rfl, q⟩
theorem cop_abs {i : Int} : Cop F ω (.builtin "abs") [rInt i] (rInt (if i < 0 then -i else i)) := cop_of1 call_abs fun _ _ q => ⟨i, rfl, q⟩
theorem cop_int {i : Int} : Cop F ω (.type "int") [rInt i] (rInt i) := cop_of1 call_int1 fun _ _ q => .inl ⟨i, rfl, q⟩
theorem cop_intB {b : Bool} : Cop F ω (.type "int") [rBool b] (rInt (if b then 1 else 0)) := cop_of1 call_int1 fun _ _ q => .inr ⟨b, rfl, q⟩
theorem cop_bool {i : Int} : Cop F ω (.type "bool") [rInt i] (rBool (i != 0)) := cop_of1 call_bool1 fun _ _ q => .inl ⟨i, rfl, q⟩
theorem cop_strI {i : Int} (h : i.natAbs.log2 < 1920) : Cop F ω (.type "str") [rInt i] (rStr (toString i)) := cop_of1 call_str_int fun _ _ q => ⟨i, rfl, h, q⟩
/-! lists -/
theorem all1 {R : Rl} {vs : List V} {H : Hp} (h : All2 [R] vs H) : ∃ v, vs = [v] ∧ R.r v H := by
  match vs, h with
  | [v], ⟨a, _⟩ => exact ⟨v, rfl, a⟩
theorem all2 {R S : Rl} {vs : List V} {H : Hp} (h : All2 [R, S] vs H) : ∃ v w, vs = [v, w] ∧ R.r v H ∧ S.r w H := by
  match vs, h with
  | [v, w], ⟨a, b, _⟩ => exact ⟨v, w, rfl, a, b⟩
theorem cop_lenL {Rs : List Rl} : Cop F ω (.builtin "len") [rLst Rs] (rInt (Rs.length : Int)) := by
  refine ⟨_, call_len_seq, fun xs G H at_ hx Q q => ?_⟩
  obtain ⟨x, rfl, p, vs, rfl, h1, h2⟩ := all1 hx
  have e2 : (vs.length : Int) = (Rs.length : Int) := by rw [h2.len]
  refine ⟨p, vs, rfl, .inl (SqL.of (at_.gh _ _ h1)), ?_⟩
  exact q _ G H (Same.refl _) at_ (congrArg V.int e2)
theorem iop_L {Rs : List Rl} {i : Int} {n : Nat} (e : ixN Rs.length i = some n) (h : Rs[n]? = some R) : Iop F ω (rLst Rs) (rInt i) R :=
  ⟨_, ix_list, fun x y G H at_ hx hy Q q => by
    obtain ⟨p, vs, rfl, h1, h2⟩ := hx
    obtain ⟨v, h3, h4⟩ := h2.get h
    have e2 : y = V.int i := hy
    refine ⟨p, vs, i, v, rfl, e2, SqL.of (at_.gh _ _ h1), ?_, q v G H (Same.refl _) at_ h4⟩
    unfold atI
    rw [← h2.len, e]
    exact h3⟩
theorem iop_T {Rs : List Rl} {i : Int} {n : Nat} (e : ixN Rs.length i = some n) (h : Rs[n]? = some R) : Iop F ω (rTup Rs) (rInt i) R :=
  ⟨_, ix_tup, fun x y G H at_ hx hy Q q => by
    obtain ⟨p, vs, rfl, h1, h2⟩ := hx
    obtain ⟨v, h3, h4⟩ := h2.get h
    have e2 : y = V.int i := hy
    refine ⟨p, vs, i, v, rfl, e2, SqT.of (at_.gh _ _ h1), ?_, q v G H (Same.refl _) at_ h4⟩
    unfold atI
    rw [← h2.len, e]
    exact h3⟩
end

end W1
set_option maxRecDepth 100000
set_option maxHeartbeats 2000000
namespace W1
open PySem PySem.Spec PyProof.Rows L2

/-! ### what may come behind -/
structure Kn where
  nx : Ty → Ow → Prop := fun _ _ => False
  rt : Rl → Ow → Prop := fun _ _ => False
  bk : Ty → Ow → Prop := fun _ _ => False
  ct : Ty → Ow → Prop := fun _ _ => False
  ex : Ty → Ow → Er → Prop := fun _ _ _ => False
structure Post (F : Fx) (K : Kn) (D : Ends) (G : Hp) : Prop where
  nx : ∀ ρ ω, K.nx ρ ω → ∀ σ G' H', Same G G' → At F ω G' H' → Slots ρ σ G' → D.nx σ H'
  rt : ∀ R ω, K.rt R ω → ∀ v G' H', Same G G' → At F ω G' H' → R.r v G' → D.rt v H'
  bk : ∀ ρ ω, K.bk ρ ω → ∀ σ G' H', Same G G' → At F ω G' H' → Slots ρ σ G' → D.bk σ H'
  ct : ∀ ρ ω, K.ct ρ ω → ∀ σ G' H', Same G G' → At F ω G' H' → Slots ρ σ G' → D.ct σ H'
  ex : ∀ ρ ω P, K.ex ρ ω P → ∀ cls d σ G' H', Same G G' → At F ω G' H' → Slots ρ σ G' → P cls d G' → F.W cls d σ H'
theorem Post.up {F : Fx} {K : Kn} {D : Ends} {G G1 : Hp} (p : Post F K D G) (e : Same G G1) : Post F K D G1 where
  nx := fun ρ ω k σ G' H' s => p.nx ρ ω k σ G' H' (e.trans s)
  rt := fun R ω k v G' H' s => p.rt R ω k v G' H' (e.trans s)
  bk := fun ρ ω k σ G' H' s => p.bk ρ ω k σ G' H' (e.trans s)
  ct := fun ρ ω k σ G' H' s => p.ct ρ ω k σ G' H' (e.trans s)
  ex := fun ρ ω P k cls d σ G' H' s => p.ex ρ ω P k cls d σ G' H' (e.trans s)
def HB (F : Fx) (ρ : Ty) (ω : Ow) (sts : List Stmt) (K : Kn) : Prop :=
  ∀ σ G H D, At F ω G H → Slots ρ σ G → Post F K D G → BW F.X sts D σ H
section
variable {F : Fx} {ρ : Ty} {ω w1 w2 : Ow} {K : Kn} {rest : List Stmt} {st : Stmt} {e c : Expr} {R : Rl} {pos p : Pos} {x : Str}
theorem hb_nil (h : K.nx ρ ω) : HB F ρ ω [] K := fun σ G H D at_ sl ps => bw_of pss_nil (ps.nx ρ ω h σ G H (Same.refl _) at_ sl)
/-- one statement, then the rest -/
theorem hb_cons (h : ∀ σ G H D, At F ω G H → Slots ρ σ G → Post F K D G → SW F.X st { D with nx := BW F.X rest D } σ H) : HB F ρ ω (st :: rest) K := fun σ G H D at_ sl ps =>
  bw_of (pss_cons ps_w pss_w) (h σ G H D at_ sl ps)
theorem hb_set (i : Nat) (he : ER F ρ ω e R w1) (h : HB F (ρ.set i (some R)) w1 rest K) (hN : F.X.N.Nodup) (hi : F.X.N[i]? = some x := by rfl) (hx : Loc F.X.env.scope x := by first | exact Or.inl rfl | exact Or.inr rfl)
    (hs : swapsWith e (some (.Name x p)) pos.line F.X.env = pure false := by rfl) (hf : F.X.fn x = true ∨ F.X.env.scope.names.lookup x = some .local := by first | exact .inl rfl | exact .inr rfl | assumption) :
    HB F ρ ω (.Assign [.Name x p] e pos :: rest) K := hb_cons fun σ G H D at_ sl ps =>
  sw_of (ps_set hN hi hx pe_w hs hf) (he σ G H at_ sl _ fun v G2 H2 s a r => h _ G2 H2 D a ((sl.up s).set i r) (ps.up s))
theorem hb_setX {P : Er} (i : Nat) (he : EX F ρ ω e P w1) (h : K.ex ρ w1 P) (hN : F.X.N.Nodup) (hi : F.X.N[i]? = some x := by rfl) (hx : Loc F.X.env.scope x := by first | exact Or.inl rfl | exact Or.inr rfl)
    (hs : swapsWith e (some (.Name x p)) pos.line F.X.env = pure false := by rfl) (hf : F.X.fn x = true ∨ F.X.env.scope.names.lookup x = some .local := by first | exact .inl rfl | exact .inr rfl | assumption) :
    HB F ρ ω (.Assign [.Name x p] e pos :: rest) K := hb_cons fun σ G H D at_ sl ps =>
  sw_of (ps_set hN hi hx (PE.mk fun pins s σ H Q I (z : EW F.X e σ H fun _ _ => False) => thn (z pins s I) fun _ _ ⟨_, _, _, _, q⟩ => q.elim) hs hf) (he σ G H at_ sl fun cls d G2 H2 s a r => ps.ex ρ w1 P h cls d σ G2 H2 s a (sl.up s) r)
theorem hb_ret (he : ER F ρ ω e R w1) (h : K.rt R w1) : HB F ρ ω (.Return (some e) pos :: rest) K := hb_cons fun σ G H D at_ sl ps =>
  sw_of (ps_ret pe_w) (he σ G H at_ sl _ fun v G2 H2 s a r => ps.rt R w1 h v G2 H2 s a r)
theorem pe_x {X : Cx} {e : Expr} {t : TE} : PE X e (fun σ H _ => EW X e σ H fun _ _ => False) := ⟨fun pins s σ H Q I z => thn (z pins s I) fun _ _ ⟨_, _, _, _, q⟩ => q.elim⟩
theorem hb_retX {P : Er} (he : EX F ρ ω e P w1) (h : K.ex ρ w1 P) : HB F ρ ω (.Return (some e) pos :: rest) K := hb_cons fun σ G H D at_ sl ps =>
  sw_of (ps_ret (pe_x (t := fun _ _ _ => True))) (he σ G H at_ sl fun cls d G2 H2 s a r => ps.ex ρ w1 P h cls d σ G2 H2 s a (sl.up s) r)
theorem hb_expr (he : ER F ρ ω e R w1) (h : HB F ρ w1 rest K) (hs : swapsWith e none pos.line F.X.env = pure false := by rfl) : HB F ρ ω (.Expr e pos :: rest) K := hb_cons fun σ G H D at_ sl ps =>
  sw_of (ps_expr pe_w hs) (he σ G H at_ sl _ fun v G2 H2 s a r => h _ G2 H2 D a (sl.up s) (ps.up s))
/-- behind: the rest -/
def Kn.then (K : Kn) (F : Fx) (rest : List Stmt) : Kn := { K with nx := fun ρ ω => HB F ρ ω rest K }
theorem Post.then {D : Ends} {G : Hp} (ps : Post F K D G) : Post F (K.then F rest) { D with nx := BW F.X rest D } G :=
  ⟨fun ρ ω k σ G' H' s a sl => k σ G' H' D a sl (ps.up s), ps.rt, ps.bk, ps.ct, ps.ex⟩
theorem hb_if {b : Bool} {th el : List Stmt} (hc : TR F ρ ω c b w1) (h1 : b = true → HB F ρ w1 th (K.then F rest)) (h2 : b = false → HB F ρ w1 el (K.then F rest)) : HB F ρ ω (.If c th el pos :: rest) K := hb_cons fun σ G H D at_ sl ps =>
  sw_of (ps_if pt_w pss_w pss_w) (hc σ G H at_ sl _ fun G2 H2 s a => by
    cases b with
    | true => exact iteT (h1 rfl σ G2 H2 _ a (sl.up s) (ps.up s).then)
    | false => exact iteF (h2 rfl σ G2 H2 _ a (sl.up s) (ps.up s).then))
/-- loops -/
def Kn.loop (K : Kn) (F : Fx) (rest : List Stmt) (N : Ty → Ow → Prop) : Kn := { nx := N, ct := N, bk := fun ρ ω => HB F ρ ω rest K, rt := K.rt, ex := K.ex }
theorem hb_while {body : List Stmt} (I : Nat → Ty → Ow → Prop) (m0 : Nat) (h0 : I m0 ρ ω)
    (hs : ∀ m ρ ω, I m ρ ω → ∃ b w1, TR F ρ ω c b w1 ∧ (b = true → HB F ρ w1 body (K.loop F rest fun ρ' ω' => ∃ m', m' < m ∧ I m' ρ' ω')) ∧ (b = false → HB F ρ w1 rest K))
    (hp : PassesOwn (model F.X.prog F.X.w) F.X.A F.X.env F.X.xe) : HB F ρ ω (.While c body [] pos :: rest) K := hb_cons fun σ G H D at_ sl ps => by
  refine sw_of (ps_while hp pt_w pss_w) ⟨fun m σ H => ∃ ρ ω G, I m ρ ω ∧ At F ω G H ∧ Slots ρ σ G ∧ Post F K D G, ⟨m0, ρ, ω, G, h0, at_, sl, ps⟩, ?_⟩
  rintro m σ1 H1 ⟨ρ1, ω1, G1, i1, a1, sl1, ps1⟩
  obtain ⟨b, w1, hc, ht, hf⟩ := hs m ρ1 ω1 i1
  refine hc σ1 G1 H1 a1 sl1 _ fun G2 H2 s2 a2 => ?_
  cases b with
  | true =>
    refine iteT ⟨fun σ' H' => ∃ m', m' < m ∧ ∃ ρ ω G, I m' ρ ω ∧ At F ω G H' ∧ Slots ρ σ' G ∧ Post F K D G, fun σ' H' z => z, ?_⟩
    refine ht rfl σ1 G2 H2 _ a2 (sl1.up s2) ⟨fun ρ ω ⟨m', l, i'⟩ σ' G' H' s a sl => ⟨m', l, ρ, ω, G', i', a, sl, (ps1.up s2).up s⟩, (ps1.up s2).rt, fun ρ ω k σ' G' H' s a sl => k σ' G' H' D a sl ((ps1.up s2).up s), fun ρ ω ⟨m', l, i'⟩ σ' G' H' s a sl => ⟨m', l, ρ, ω, G', i', a, sl, (ps1.up s2).up s⟩, (ps1.up s2).ex⟩
  | false => exact iteF (hf rfl σ1 G2 H2 D a2 (sl1.up s2) (ps1.up s2))
end

/-! ### what a loop walks -/
structure Yld (J : It) (Rs : List Rl) (G : Hp) : Prop where
  go : ∀ i G' H', Same G G' → Same G' H' → i < Rs.length → J.go i H'
  stop : ∀ G' H', Same G G' → Same G' H' → J.stop Rs.length H'
  yld : ∀ (i : Nat) (R : Rl) G' H' x H'', Same G G' → Same G' H' → Rs[i]? = some R → J.yld i H' x H'' → ∃ G'', Step G' H' G'' H'' ∧ R.r x G''
theorem Yld.up {J : It} {Rs : List Rl} {G G1 : Hp} (y : Yld J Rs G) (e : Same G G1) : Yld J Rs G1 :=
  ⟨fun i G' H' s => y.go i G' H' (e.trans s), fun G' H' s => y.stop G' H' (e.trans s), fun i R G' H' x H'' s => y.yld i R G' H' x H'' (e.trans s)⟩
def IT (F : Fx) (ρ : Ty) (ω : Ow) (tg it : Expr) (Rs : List Rl) (w1 : Ow) : Prop :=
  ∃ wi, PI F.X tg it wi ∧ ∀ σ G H, At F ω G H → Slots ρ σ G → ∀ R : It → Hp → Prop, (∀ J G2 H2, Same G G2 → At F w1 G2 H2 → Yld J Rs G2 → R J H2) → wi σ H R
/-- what a target does to the slots -/
def GE (g : TG) (ρ : Ty) (S : Rl) (ρ' : Ty) : Prop :=
  ∀ v σ G H (Q : L2.St → Hp → Prop), Same G H → Slots ρ σ G → S.r v G → (∀ σ', Slots ρ' σ' G → Q σ' H) → g v σ H Q
def GEs (g : TGs) (ρ : Ty) (Rs : List Rl) (ρ' : Ty) : Prop :=
  ∀ vs σ G H (Q : L2.St → Hp → Prop), Same G H → Slots ρ σ G → All2 Rs vs G → (∀ σ', Slots ρ' σ' G → Q σ' H) → g vs σ H Q
section
variable {F : Fx} {X : Cx} {ρ ρ1 ρ2 : Ty} {ω w1 w2 : Ow} {K : Kn} {rest : List Stmt} {e e2 it tg : Expr} {R S : Rl} {pos p : Pos} {x : Str} {Rs Ss : List Rl}
theorem ge_name {i : Nat} : GE (gName i) ρ S (ρ.set i (some S)) := fun v σ G H Q s sl r q => q _ (sl.set i r)
theorem ges_nil : GEs gNil ρ [] ρ := fun vs σ G H Q s sl r q => by
  match vs, r with
  | [], _ => exact ⟨rfl, q _ sl⟩
theorem ges_cons {g : TG} {gs : TGs} (h1 : GE g ρ R ρ1) (h2 : GEs gs ρ1 Rs ρ2) : GEs (gCons g gs) ρ (R :: Rs) ρ2 := fun vs σ G H Q s sl r q => by
  match vs, r with
  | v :: vs, ⟨r1, r2⟩ => exact ⟨v, vs, rfl, h1 v σ G H _ s sl r1 fun σ' sl' => h2 vs σ' G H Q s sl' r2 q⟩
theorem ge_tup {K : PySem.W.Frag} {n : Nat} {gs : TGs} (h : GEs gs ρ Rs ρ1) (hl : Rs.length = n) : GE (gTup K n gs) ρ (rTup Rs) ρ1 := fun v σ G H Q s sl r q => by
  obtain ⟨a, vs, rfl, h1, h2⟩ := r
  exact ⟨a, vs, rfl, SqT.of (s _ _ h1), by rw [← h2.len]; exact hl, h vs σ G H Q s sl h2 q⟩
theorem hb_asg {g : TG} (he : ER F ρ ω e R w1) (pg : PG F.X tg g) (hg : GE g ρ R ρ1) (h : HB F ρ1 w1 rest K) (hs : swapsWithSole [tg] e pos.line F.X.env = pure false := by rfl) (hw : swappedStores [tg] e F.X.env = pure none := by rfl)
    (h1 : (assignEach [tg] F.X.env).map (·.2) = [assign tg F.X.env] := by rfl) : HB F ρ ω (.Assign [tg] e pos :: rest) K := hb_cons fun σ G H D at_ sl ps =>
  sw_of (ps_asg pe_w pg hs hw h1) (he σ G H at_ sl _ fun v G2 H2 s a r => hg v σ G2 H2 _ a.gh (sl.up s) r fun σ' sl' => h σ' G2 H2 D a sl' (ps.up s))
/-- a, b = e1, e2 -/
theorem hb_par {x y : Str} {a b : Expr} {px py pt : Pos} {kt k2 pt2} (i j : Nat) (ha : AR F ρ ω [a, b] [R, S] w1) (h : HB F ((ρ.set i (some R)).set j (some S)) w1 rest K) (hN : F.X.N.Nodup) (hij : i ≠ j := by decide) (hi : F.X.N[i]? = some x := by rfl) (hj : F.X.N[j]? = some y := by rfl)
    (hx : F.X.env.scope.names.lookup x = some .local := by rfl) (hy : F.X.env.scope.names.lookup y = some .local := by rfl) (hc : F.X.calm = true := by rfl)
    (hw : swappedStores [.Tuple [.Name x px, .Name y py] kt pt] (.Tuple [a, b] k2 pt2) F.X.env = pure (some [x, y]) := by rfl)
    (hs : swapsWithSole [.Tuple [.Name x px, .Name y py] kt pt] (.Tuple [a, b] k2 pt2) pos.line F.X.env = pure false := by rfl) :
    HB F ρ ω (.Assign [.Tuple [.Name x px, .Name y py] kt pt] (.Tuple [a, b] k2 pt2) pos :: rest) K := hb_cons fun σ G H D at_ sl ps => by
  refine sw_of (ps_par hc hN hi hj hij hx hy pa_w hw hs) (ha σ G H at_ sl _ fun vs G2 H2 s a r => ?_)
  obtain ⟨v, w, rfl, r1, r2⟩ := all2 r
  exact ⟨v, w, rfl, h _ G2 H2 D a (((sl.up s).set i r1).set j r2) (ps.up s)⟩
/-! lists, tuples, ranges, pairs -/
theorem it_lst (he : ER F ρ ω it (rLst Rs) w1) : IT F ρ ω tg it Rs w1 := ⟨_, pi_list pe_w, fun σ G H at_ sl R k => he σ G H at_ sl _ fun v G2 H2 s a r => by
  obtain ⟨a', vs, rfl, h1, h2⟩ := r
  refine ⟨a', rfl, ⟨vs, SqL.of (a.gh _ _ h1)⟩, k _ G2 H2 s a ⟨fun i G' H' s1 s2 hi => ⟨vs, vs[i]'(by rw [← h2.len]; exact hi), SqL.of (s2 _ _ (s1 _ _ h1)), List.getElem?_eq_getElem _⟩, fun G' H' s1 s2 => ⟨vs, SqL.of (s2 _ _ (s1 _ _ h1)), by rw [h2.len]; exact Nat.le_refl _⟩, fun i R G' H' x H'' s1 s2 hR y => ?_⟩⟩
  obtain ⟨rfl, y⟩ := y
  obtain ⟨v, hv, rv⟩ := h2.get hR
  have e := y vs (SqL.of (s2 _ _ (s1 _ _ h1)))
  rw [hv] at e
  cases e
  exact ⟨G', Step.refl s2, R.mo _ _ _ s1 rv⟩⟩
theorem it_tup (he : ER F ρ ω it (rTup Rs) w1) : IT F ρ ω tg it Rs w1 := ⟨_, pi_tup pe_w, fun σ G H at_ sl R k => he σ G H at_ sl _ fun v G2 H2 s a r => by
  obtain ⟨a', vs, rfl, h1, h2⟩ := r
  refine ⟨a', rfl, ⟨vs, SqT.of (a.gh _ _ h1)⟩, k _ G2 H2 s a ⟨fun i G' H' s1 s2 hi => ⟨vs, vs[i]'(by rw [← h2.len]; exact hi), SqT.of (s2 _ _ (s1 _ _ h1)), List.getElem?_eq_getElem _⟩, fun G' H' s1 s2 => ⟨vs, SqT.of (s2 _ _ (s1 _ _ h1)), by rw [h2.len]; exact Nat.le_refl _⟩, fun i R G' H' x H'' s1 s2 hR y => ?_⟩⟩
  obtain ⟨rfl, y⟩ := y
  obtain ⟨v, hv, rv⟩ := h2.get hR
  have e := y vs (SqT.of (s2 _ _ (s1 _ _ h1)))
  rw [hv] at e
  cases e
  exact ⟨G', Step.refl s2, R.mo _ _ _ s1 rv⟩⟩
def rng (lo : Int) (n : Nat) : List Rl := (List.range n).map fun (k : Nat) => rInt (lo + (k : Int))
theorem rng_len {lo : Int} {n : Nat} : (rng lo n).length = n := by unfold rng; rw [List.length_map, List.length_range]
theorem yld_rng {lo : Int} {n : Nat} {G : Hp} : Yld (Itr lo n) (rng lo n) G :=
  ⟨fun i _ _ _ _ hi => by rw [rng_len] at hi; exact hi, fun _ _ _ _ => by rw [rng_len]; exact Nat.le_refl n, fun i R G' H' x H'' s1 s2 hR y => by
    obtain ⟨rfl, rfl⟩ := y
    unfold rng at hR
    rw [List.getElem?_map] at hR
    cases h : (List.range n)[i]? with
    | none => rw [h] at hR; cases hR
    | some k =>
      rw [h] at hR
      have ek : k = i := by
        obtain ⟨hl, e⟩ := List.getElem?_eq_some_iff.mp h
        rw [List.getElem_range] at e
        exact e.symm
      subst ek
      cases hR
      exact ⟨G', Step.refl s2, rfl⟩⟩
theorem it_rng1 {n : Int} (he : AR F ρ ω [e] [rInt n] w1) (hg : Gl F.X "range") (hm : F.X.mg "range" = none) (hn : -(2 ^ 62) ≤ n ∧ n < 2 ^ 62) (hs : starEach [e] F.X.env = [(false, eval e F.X.env)] := by rfl) : IT F ρ ω tg (.Call (.Name "range" p) [e] [] pos) (rng 0 n.toNat) w1 :=
  ⟨_, pi_range1 hg hm pa_w hs, fun σ G H at_ sl R k => he σ G H at_ sl _ fun v G2 H2 s a r => by
    obtain ⟨y, rfl, ey⟩ := all1 r
    cases (show y = V.int n from ey)
    exact ⟨n, rfl, hn.1, hn.2, k _ G2 H2 s a yld_rng⟩⟩
theorem it_rng2 {m n : Int} (he : AR F ρ ω [e, e2] [rInt m, rInt n] w1) (hg : Gl F.X "range") (hm : F.X.mg "range" = none) (hn : -(2 ^ 62) ≤ m ∧ m < 2 ^ 62 ∧ -(2 ^ 62) ≤ n ∧ n < 2 ^ 62)
    (hs : starEach [e, e2] F.X.env = [(false, eval e F.X.env), (false, eval e2 F.X.env)] := by rfl) (hs2 : starEach [e2] F.X.env = [(false, eval e2 F.X.env)] := by rfl) : IT F ρ ω tg (.Call (.Name "range" p) [e, e2] [] pos) (rng m (n - m).toNat) w1 :=
  ⟨_, pi_range2 hg hm pa_w hs hs2, fun σ G H at_ sl R k => he σ G H at_ sl _ fun v G2 H2 s a r => by
    obtain ⟨y, z, rfl, ey, ez⟩ := all2 r
    cases (show y = V.int m from ey)
    cases (show z = V.int n from ez)
    exact ⟨m, n, rfl, hn, k _ G2 H2 s a yld_rng⟩⟩
/-- the loop -/
theorem hb_for {g : TG} {body : List Stmt} (hit : IT F ρ ω tg it Rs w1) (I : Nat → Ty → Ow → Prop) (h0 : I 0 ρ w1)
    (hs : ∀ (k : Nat) ρ ω (S : Rl), Rs[k]? = some S → I k ρ ω → ∃ ρ', GE g ρ S ρ' ∧ HB F ρ' ω body (K.loop F rest (I (k + 1)))) (hd : ∀ ρ ω, I Rs.length ρ ω → HB F ρ ω rest K)
    (hp : PassesOwn (model F.X.prog F.X.w) F.X.A F.X.env F.X.xe) (hpg : PG F.X tg g) (hc : F.X.calm = true := by rfl)
    (hfs : ∀ z, foldedSetIterable it F.X.env z = pure z := by intro _; rfl) : HB F ρ ω (.For tg it body [] pos :: rest) K := hb_cons fun σ G H D at_ sl ps => by
  obtain ⟨wi, hpi, hwi⟩ := hit
  refine sw_of (ps_for hp hc hpi hpg pss_w hfs) (hwi σ G H at_ sl _ fun J G2 H2 s2 a2 y2 => ?_)
  refine ⟨fun i m σ H => m = Rs.length - i ∧ i ≤ Rs.length ∧ ∃ ρ ω G, I i ρ ω ∧ At F ω G H ∧ Slots ρ σ G ∧ Same G2 G ∧ Post F K D G, ⟨Rs.length, by simp, Nat.zero_le _, ρ, w1, G2, h0, a2, sl.up s2, Same.refl _, ps.up s2⟩, ?_⟩
  rintro i m σ1 H1 ⟨rfl, hi, ρ1, ω1, G1, i1, a1, sl1, s1, ps1⟩
  by_cases hlt : i < Rs.length
  · refine .inr ⟨y2.go i G1 H1 s1 a1.gh hlt, fun σ' H' => ∃ ρ ω G, I (i + 1) ρ ω ∧ At F ω G H' ∧ Slots ρ σ' G ∧ Same G2 G ∧ Post F K D G, fun σ' H' z => ⟨Rs.length - (i + 1), by omega, rfl, hlt, z⟩, fun x H' y => ?_⟩
    obtain ⟨G3, st, rx⟩ := y2.yld i Rs[i] G1 H1 x H' s1 a1.gh (List.getElem?_eq_getElem hlt) y
    obtain ⟨ρ', ga, hb⟩ := hs i ρ1 ω1 Rs[i] (List.getElem?_eq_getElem hlt) i1
    have a3 := a1.step st
    refine ga x σ1 G3 H' _ a3.gh (sl1.up st.gg) rx fun σ2 sl2 => ?_
    have ps3 := ps1.up st.gg
    have s3 : Same G2 G3 := s1.trans st.gg
    exact hb σ2 G3 H' _ a3 sl2 ⟨fun ρ ω i' σ' G' H' s a sl => ⟨ρ, ω, G', i', a, sl, s3.trans s, ps3.up s⟩, ps3.rt, fun ρ ω k' σ' G' H' s a sl => k' σ' G' H' D a sl (ps3.up s), fun ρ ω i' σ' G' H' s a sl => ⟨ρ, ω, G', i', a, sl, s3.trans s, ps3.up s⟩, ps3.ex⟩
  · have e : i = Rs.length := by omega
    subst e
    exact .inl ⟨y2.stop G1 H1 s1 a1.gh, hd ρ1 ω1 i1 σ1 G1 H1 D a1 sl1 ps1⟩
end
end W1
set_option maxRecDepth 100000
set_option maxHeartbeats 2000000
namespace W1
open PySem PySem.Spec PyProof.Rows L2

/-! ### promises -/
/-- what is owned, in a heap -/
def Has (ω : Ow) (G H : Hp) : Prop := ∀ p ∈ ω, G p.1 = none ∧ ∃ o, H p.1 = some o ∧ p.2.c o G
structure StepM (M : List Addr) (G H G' H' : Hp) : Prop where
  gg : Same G G'
  hh : ∀ a o, a ∉ M → H a = some o → H' a = some o
  gh : Same G' H'
  fr : ∀ a, H a ≠ none → G a = none → G' a = none
abbrev Pre := List Rl → Ow → Out → Ow → Prop
def keys (ω : Ow) : List Addr := ω.map (·.1)
/-- a def's promise: from the relations of the arguments and what is handed over, what comes out and what becomes of what was handed over -/
def spM (pre : Pre) : Sp := fun vs H Q E => ∃ Rs ω o ω' G, pre Rs ω o ω' ∧ Same G H ∧ All2 Rs vs G ∧ Has ω G H ∧ (keys ω).Nodup ∧ keys ω' = keys ω ∧
  (match o with
    | .ok R => ∀ v G' H', StepM (keys ω) G H G' H' → Has ω' G' H' → R.r v G' → Q v H'
    | .error P => ∀ cls d G' H', StepM (keys ω) G H G' H' → Has ω' G' H' → P cls d G' → E cls d H')
/-- what a body is to come to -/
def Kf (o : Out) (ω' : Ow) : Kn where
  nx := fun _ w => ∃ R w0, o = .ok R ∧ (∀ G, R.r .non G) ∧ w = ω' ++ w0
  rt := fun S w => ∃ R w0, o = .ok R ∧ (∀ v G, S.r v G → R.r v G) ∧ w = ω' ++ w0
  ex := fun _ w P => ∃ P' w0, o = .error P' ∧ (∀ cls d G, P cls d G → P' cls d G) ∧ w = ω' ++ w0
theorem Has.left {ω w : Ow} {G H : Hp} (h : Has (ω ++ w) G H) : Has ω G H := fun p hp => h p (List.mem_append_left _ hp)
theorem At.has {F : Fx} {ω : Ow} {G H : Hp} (a : At F ω G H) : Has ω G H := fun p hp => let ⟨x, _, z⟩ := a.ow p hp; ⟨x, z⟩
theorem At.stepM {F : Fx} {wc wc' w : Ow} {G H G' H' : Hp} (a : At F (wc ++ w) G H) (s : StepM (keys wc) G H G' H') (h : Has wc' G' H') (hk : keys wc' = keys wc) : At F (wc' ++ w) G' H' := by
  have own : ∀ b ∈ keys wc, G b = none ∧ (F.H0 b = none ∨ b ∈ F.M) ∧ H b ≠ none := fun b hb => by
    obtain ⟨p, hp, e⟩ := List.mem_map.mp hb
    obtain ⟨x, y, o, z, _⟩ := a.ow p (List.mem_append_left _ hp)
    exact ⟨by rw [← e]; exact x, by rw [← e]; exact y, by rw [← e, z]; simp⟩
  have nd := a.nd
  rw [List.map_append] at nd
  have kk : ∀ b, b ∈ keys wc → H' b ≠ none := fun b hb => by
    rw [← hk] at hb
    obtain ⟨p, hp, e⟩ := List.mem_map.mp hb
    obtain ⟨_, o, z, _⟩ := h p hp
    rw [← e, z]
    simp
  refine ⟨a.gg.trans s.gg, fun b o hb e => ?_, s.gh, fun b h1 h2 => ?_, fun b hb => ?_, fun p hp => ?_, ?_⟩
  · refine s.hh b o (fun hm => ?_) (a.hh b o hb e)
    rcases (own b hm).2.1 with z | z
    · rw [z] at e; cases e
    · exact hb z
  · refine s.fr b ?_ (a.fr b h1 h2)
    by_cases hb : b ∈ F.M
    · exact a.mm b hb
    · cases e : F.H0 b with
      | none => exact absurd e h1
      | some o => rw [a.hh b o hb e]; simp
  · by_cases hm : b ∈ keys wc
    · exact kk b hm
    · cases e : H b with
      | none => exact absurd e (a.mm b hb)
      | some o => rw [s.hh b o hm e]; simp
  · rcases List.mem_append.mp hp with hp | hp
    · obtain ⟨x, o, y, z⟩ := h p hp
      refine ⟨x, ?_, o, y, z⟩
      have hm : p.1 ∈ keys wc := by rw [← hk]; exact List.mem_map_of_mem hp
      exact (own p.1 hm).2.1
    · obtain ⟨x, y, o, z, c⟩ := a.ow p (List.mem_append_right _ hp)
      have hm : p.1 ∉ keys wc := fun hm => by
        have := (List.nodup_append.mp nd).2.2 p.1 hm p.1 (List.mem_map_of_mem hp)
        exact this rfl
      exact ⟨s.fr p.1 (by rw [z]; simp) x, y, o, s.hh _ _ hm z, p.2.mo _ _ _ s.gg c⟩
  · rw [List.map_append]
    show (keys wc' ++ keys w).Nodup
    rw [hk]
    exact nd
/-- a body keeps the promise -/
theorem fn_ok {P : Program} {w : World} {K : PySem.W.Frag} {mg : Str → Option Value} {base : Heap} {x qual : Str} {st : Stmt} {f : Addr} {fd : FuncData} {N ps : List Str} {k : Nat} {pre : Pre} (Fn : Fun K x qual st f fd) (S : FnScope N ps (defScope st))
    (hl : ∀ Rs ω o ω', pre Rs ω o ω' → Rs.length = ps.length)
    (hb : ∀ (cdv : Value) (A : Around) (outer : List Env) (s : Shared) (H : Hp) (E : XK) (F : Fx), Room k (A.deeper (envOfC qual (defScope st) s.heap.objs.size f cdv)) → F.X = cxOf (L2.CX P w) P w K mg base N qual (defScope st) f cdv A outer s H E →
      ∀ Rs ω o ω', pre Rs ω o ω' → HB F (Rs.map some ++ List.replicate (N.length - Rs.length) none) ω (defBody st) (Kf o ω')) : FnOk P w K mg base (L2.CX P w) (k + 1) f fd ps (spM pre) := by
  refine Fn.okX S (fun vs H Q E h => ?_) (fun cdv A outer s H vs Q E hr h => ?_)
  · obtain ⟨Rs, ω, o, ω', G, hp, _, h2, _⟩ := h
    rw [← h2.len]
    exact hl _ _ _ _ hp
  · obtain ⟨Rs, ω, o, ω', G, hp, hgh, hv, hhas, hnd, hk, hq⟩ := h
    have tk : Takes (cxOf (L2.CX P w) P w K mg base N qual (defScope st) f cdv A outer s H E) (fun cls d _ H => E cls d H) := takes_of rfl rfl rfl rfl
    refine ⟨_, pss_w, hb cdv A outer s H E ⟨cxOf (L2.CX P w) P w K mg base N qual (defScope st) f cdv A outer s H E, G, H, keys ω, fun cls d _ H => E cls d H, tk⟩ hr rfl Rs ω o ω' hp (L2.start N vs) G H _ ?_ ?_ ?_⟩
    · exact ⟨Same.refl _, fun a o _ e => e, hgh, fun a _ e => e, fun a ha => by
        obtain ⟨p, hp, e⟩ := List.mem_map.mp ha
        obtain ⟨_, o, z, _⟩ := hhas p hp
        rw [← e, z]
        simp, fun p hp => let ⟨x, z⟩ := hhas p hp; ⟨x, .inr (List.mem_map_of_mem hp), z⟩, hnd⟩
    · unfold L2.start
      have e := hv.len
      refine ⟨by simp [e], fun i R hi => ?_⟩
      by_cases h : i < Rs.length
      · rw [List.getElem?_append_left (by simpa using h), List.getElem?_map] at hi
        cases h1 : Rs[i]? with
        | none => rw [h1] at hi; cases hi
        | some R' =>
          rw [h1] at hi
          cases hi
          obtain ⟨v, h2, h3⟩ := hv.get h1
          exact ⟨v, by rw [List.getElem?_append_left (by rw [List.length_map, ← e]; exact h), List.getElem?_map, h2]; rfl, h3⟩
      · rw [List.getElem?_append_right (by simpa using h), List.getElem?_replicate] at hi
        split at hi <;> cases hi
    · have fin : ∀ {w0 : Ow} {G' H' : Hp}, At ⟨cxOf (L2.CX P w) P w K mg base N qual (defScope st) f cdv A outer s H E, G, H, keys ω, fun cls d _ H => E cls d H, tk⟩ (ω' ++ w0) G' H' → StepM (keys ω) G H G' H' ∧ Has ω' G' H' :=
        fun a => ⟨⟨a.gg, a.hh, a.gh, a.fr⟩, a.has.left⟩
      refine ⟨fun ρ w1 hk σ G' H' s a sl => ?_, fun R w1 hk v G' H' s a r => ?_, fun _ _ hk => hk.elim, fun _ _ hk => hk.elim, fun ρ w1 P' hk cls d σ G' H' s a sl hP => ?_⟩
      · obtain ⟨R, w0, rfl, h1, rfl⟩ := hk
        obtain ⟨h2, h3⟩ := fin a
        exact hq _ _ _ h2 h3 (h1 _)
      · obtain ⟨R', w0, rfl, h1, rfl⟩ := hk
        obtain ⟨h2, h3⟩ := fin a
        exact hq _ _ _ h2 h3 (h1 _ _ r)
      · obtain ⟨P'', w0, rfl, h1, rfl⟩ := hk
        obtain ⟨h2, h3⟩ := fin a
        exact hq _ _ _ _ h2 h3 (h1 _ _ _ hP)
/-- asking it -/
theorem sp_ok {F : Fx} {pre : Pre} {Rs : List Rl} {wc wc' w : Ow} {R : Rl} {vs : List V} {G H : Hp} {Q : VK} {E : XK} (at_ : At F (wc ++ w) G H) (hv : All2 Rs vs G) (hp : pre Rs wc (.ok R) wc') (hk : keys wc' = keys wc)
    (q : ∀ v G2 H2, Same G G2 → At F (wc' ++ w) G2 H2 → R.r v G2 → Q v H2) : spM pre vs H Q E :=
  ⟨Rs, wc, .ok R, wc', G, hp, at_.gh, hv, at_.has.left, by have := at_.nd; rw [List.map_append] at this; exact (List.nodup_append.mp this).1, hk, fun v G' H' s h r => q v G' H' s.gg (at_.stepM s h hk) r⟩
theorem sp_er {F : Fx} {pre : Pre} {Rs : List Rl} {wc wc' w : Ow} {P : Er} {vs : List V} {G H : Hp} {Q : VK} {E : XK} (at_ : At F (wc ++ w) G H) (hv : All2 Rs vs G) (hp : pre Rs wc (.error P) wc') (hk : keys wc' = keys wc)
    (q : ∀ cls d G2 H2, Same G G2 → At F (wc' ++ w) G2 H2 → P cls d G2 → E cls d H2) : spM pre vs H Q E :=
  ⟨Rs, wc, .error P, wc', G, hp, at_.gh, hv, at_.has.left, by have := at_.nd; rw [List.map_append] at this; exact (List.nodup_append.mp this).1, hk, fun cls d G' H' s h r => q cls d G' H' s.gg (at_.stepM s h hk) r⟩

/-! ### calls, at the slots -/
section
variable {X : Cx} {CX : CXT} {k : Nat} {f C g pc : Addr} {fd : FuncData} {ps : List Str} {sp : Sp} {E : L2.St → XK} {x m : Str} {p pos apos : Pos} {e o : Expr} {es : List Expr} {ta : TE} {t : TA}
def tMethS (C : Addr) (m : Str) (sp : Sp) (E : L2.St → XK) (ta : TE) (t : TA) : TE := fun σ H Q => ta σ H fun x H1 => ∃ a dx fs, x = .ref a ∧ H1 a = some (.ins C dx fs) ∧ fs.lookup m = none ∧ t σ H1 fun vs H2 => sp (x :: vs) H2 Q (E σ)
def tMakeS (C : Addr) (sp : Sp) (E : L2.St → XK) (t : TA) : TE := fun σ H Q => t σ H fun vs H1 => ∀ x dx, H1 x = none → H1 dx = none → dx ≠ x →
  sp (.ref x :: vs) (upd (upd H1 dx (.own x)) x (.ins C dx [])) (fun v H2 => v = .non ∧ Q (.ref x) H2) (E σ)
theorem pe_methS {pl : Sem Bool} (he : PE X o ta) (c : Cls X.K C) (hm : Meth X.K C m f) (F : FnOk X.prog X.w X.K X.mg X.base CX k f fd ps sp) (hr : Room k X.A) (hb : Binds X.K fd ps []) (hx : ∀ σ, PassesAt CX X σ (E σ)) (ha : PA X (e :: es) t)
    (hst : starEach (e :: es) X.env = (false, eval e X.env) :: starEach es X.env := by rfl) (hpl : (backTo pos (starEach es X.env)).any (·.1) = false := by rfl)
    (ht : eval (.Call (.Attribute o m apos) (e :: es) [] pos) X.env = (do
      let ov ← eval o X.env
      standAt apos.atName
      let (f, first) ← holding [ov] (getMethod ov m pl)
      callWith pos f first (backTo pos (starEach (e :: es) X.env)) (backToKw pos (keywordEach [] X.env))) := by rfl) :
    PE X (.Call (.Attribute o m apos) (e :: es) [] pos) (tMethS C m sp E ta t) := by
  refine ⟨fun pins s σ H Q I h => ?_⟩
  refine PySem.W.methodCall_KW (pl := pl) (thn (he.run pins s σ H _ I h) fun u s1 ⟨x, H1, I1, rx, a, dx, fs, ex, ea, l, q⟩ => ?_) ht
  subst ex
  obtain rfl : u = Value.ref a := rx
  refine getmeth_ok I1 ea c hm l ?_
  refine PySem.W.callWith_K (first := [.ref a]) (h₀ := X.base) I.ok.mod.kin hm.kp (thn (ha.run pos pins s1 σ H1 _ I1 q) fun us s2 ⟨vs, H2, I2, r, q2⟩ => ⟨I2.kIn, ?_⟩) hst hpl
  exact run_fnS (us := .ref a :: us) (vs := .ref a :: vs) F hr hb (hx σ) I2 (.cons rfl r) q2
theorem pe_methS0 {pl : Sem Bool} (he : PE X o ta) (c : Cls X.K C) (hm : Meth X.K C m f) (F : FnOk X.prog X.w X.K X.mg X.base CX k f fd ps sp) (hr : Room k X.A) (hb : Binds X.K fd ps []) (hx : ∀ σ, PassesAt CX X σ (E σ))
    (ht : eval (.Call (.Attribute o m apos) [] [] pos) X.env = (do
      let ov ← eval o X.env
      standAt apos.atName
      let (f, first) ← holding [ov] (getMethod ov m pl)
      callWith pos f first (backTo pos (starEach [] X.env)) (backToKw pos (keywordEach [] X.env))) := by rfl) :
    PE X (.Call (.Attribute o m apos) [] [] pos) (tMethS C m sp E ta tNil) := by
  refine ⟨fun pins s σ H Q I h => ?_⟩
  refine PySem.W.methodCall_KW (pl := pl) (thn (he.run pins s σ H _ I h) fun u s1 ⟨x, H1, I1, rx, a, dx, fs, ex, ea, l, q⟩ => ?_) ht
  subst ex
  obtain rfl : u = Value.ref a := rx
  refine getmeth_ok I1 ea c hm l ?_
  exact PySem.W.callWith_K0 (first := [.ref a]) I1.kIn hm.kp (run_fnS (us := [.ref a]) (vs := [.ref a]) F hr hb (hx σ) I1 (.cons rfl .nil) q)
theorem run_makeS {pins : List (Addr × Obj)} {σ : L2.St} {H : Hp} {s : Shared} {Q : VK} {us : List Value} {vs : List V} (M : Mk X.K C f) (F : FnOk X.prog X.w X.K X.mg X.base CX k f fd ps sp) (hr : Room (k + 1) X.A) (hb : Binds X.K fd ps [])
    (hx : PassesAt CX X σ (E σ)) (I : Inv X pins σ H s) (r : Vals vs us)
    (h : ∀ x dx, H x = none → H dx = none → dx ≠ x → sp (.ref x :: vs) (upd (upd H dx (.own x)) x (.ins C dx [])) (fun v H2 => v = .non ∧ Q (.ref x) H2) (E σ)) :
    wpAny (model X.prog X.w) X.A (call (.ref C) us) (EP X pins σ Q) X.xe s := by
  have hq := h (s.heap.objs.size + 1) s.heap.objs.size (I.hok.fresh (Nat.le_succ _)) (I.hok.fresh (Nat.le_refl _)) (Nat.ne_of_lt (Nat.lt_succ_self _))
  have I2 := Inv.made (C := C) I
  have r2 : Vals (V.ref (s.heap.objs.size + 1) :: vs) (Value.ref (s.heap.objs.size + 1) :: us) := .cons rfl r
  have hl : (Value.ref (s.heap.objs.size + 1) :: us).length = ps.length := by
    have e := r2.length
    rw [F.len _ _ _ _ hq] at e
    exact e.symm
  have hbb := hb _ (Value.ref (s.heap.objs.size + 1) :: us) I2.kIn (by rw [List.append_nil]; exact hl)
  rw [List.append_nil] at hbb
  refine wpAny_call (make_map (f := f) I.kIn M.makes M.init (beq_iff_eq.mp M.fn) (codeAny_mono (F.run _ X.stack _ _ ⟨Value.ref (s.heap.objs.size + 1) :: us, []⟩ (Value.ref (s.heap.objs.size + 1) :: us) _ _ (E σ) (hr.make C us [])
    (I2.env0.make C us []) hbb r2 hq) fun r s' hq' => ?_))
  cases r with
  | error e => exact hx pins _ _ e s' I2 hq'
  | ok fl =>
    cases fl with
    | ret u =>
      obtain ⟨v, H', I3, rv, ev, q3⟩ := I2.after hq'
      subst ev
      exact ⟨rv, ⟨V.ref (s.heap.objs.size + 1), H', I3, rfl, q3⟩⟩
    | next => exact False.elim hq'
    | brk => exact False.elim hq'
    | cont => exact False.elim hq'
theorem pe_makeS (M : Mk X.K C f) (F : FnOk X.prog X.w X.K X.mg X.base CX k f fd ps sp) (hr : Room (k + 1) X.A) (hg : Gl X x) (hm : X.mg x = some (.ref C)) (hb : Binds X.K fd ps []) (hx : ∀ σ, PassesAt CX X σ (E σ))
    (ha : PA X (e :: es) t) (hdb : (x == ("__debug__" : Str)) = false := by decide) (he : starEach (e :: es) X.env = (false, eval e X.env) :: starEach es X.env := by rfl) (hpl : (backTo pos (starEach es X.env)).any (·.1) = false := by rfl) :
    PE X (.Call (.Name x p) (e :: es) [] pos) (tMakeS C sp E t) := by
  refine ⟨fun pins s σ H Q I h => ?_⟩
  refine wpAny_Call_Name_kw (ld_glob I hg hm ?_ hdb)
  refine PySem.W.callWith_K (h₀ := X.base) I.ok.mod.kin M.kp (thn (ha.run pos pins s σ H _ I h) fun us s1 ⟨vs, H1, I1, r, q⟩ => ⟨I1.kIn, ?_⟩) he hpl
  exact run_makeS M F hr hb (hx σ) I1 r q
end
end W1
set_option maxRecDepth 100000
set_option maxHeartbeats 2000000
namespace W1
open PySem PySem.Spec PyProof.Rows L2

section
variable {F : Fx} {ρ : Ty} {ω w w1 w2 wc wc' : Ow} {e o : Expr} {es : List Expr} {R S : Rl} {Rs : List Rl} {P : Er} {pos p apos : Pos} {x m : Str} {k : Nat} {f C g pc : Addr} {fd : FuncData} {ps : List Str} {pre : Pre}
theorem passW : ∀ σ, PassesAt (L2.CX F.X.prog F.X.w) F.X σ (WE F.W σ) := fun σ => passAt F.tk σ
/-- f(..) -/
theorem er_call (ha : AR F ρ ω (e :: es) Rs (wc ++ w)) (hp : pre Rs wc (.ok R) wc') (hk : keys wc' = keys wc) (Fn : FnOk F.X.prog F.X.w F.X.K F.X.mg F.X.base (L2.CX F.X.prog F.X.w) k f fd ps (spM pre)) (hr : Room k F.X.A) (hm : F.X.mg x = some (.ref f))
    (hkp : PySem.W.keepIn F.X.K (.ref f) = true) (hb : Binds F.X.K fd ps []) (hg : Gl F.X x := by rfl) (hdb : (x == ("__debug__" : Str)) = false := by decide) (he : starEach (e :: es) F.X.env = (false, eval e F.X.env) :: starEach es F.X.env := by rfl) (hpl : (backTo pos (starEach es F.X.env)).any (·.1) = false := by rfl) :
    ER F ρ ω (.Call (.Name x p) (e :: es) [] pos) R (wc' ++ w) := fun σ G H at_ sl Q q =>
  ew_of (pe_callS Fn hr hg hm hkp hb passW pa_w hdb he hpl) (ha σ G H at_ sl _ fun vs G2 H2 s a r => sp_ok a r hp hk fun v G3 H3 s3 a3 r3 => q v G3 H3 (s.trans s3) a3 r3)
/-- o.m(..) -/
theorem er_meth {fs : List (Str × Rl)} {pl : Sem Bool} (ho : ER F ρ ω o (rIns C fs) w1) (hno : fs.lookup m = none) (ha : AR F ρ w1 (e :: es) Rs (wc ++ w)) (hp : pre (rIns C fs :: Rs) wc (.ok R) wc') (hk : keys wc' = keys wc)
    (Fn : FnOk F.X.prog F.X.w F.X.K F.X.mg F.X.base (L2.CX F.X.prog F.X.w) k f fd ps (spM pre)) (hr : Room k F.X.A) (hc : Cls F.X.K C) (hm : Meth F.X.K C m f) (hb : Binds F.X.K fd ps [])
    (hst : starEach (e :: es) F.X.env = (false, eval e F.X.env) :: starEach es F.X.env := by rfl) (hpl : (backTo pos (starEach es F.X.env)).any (·.1) = false := by rfl)
    (ht : eval (.Call (.Attribute o m apos) (e :: es) [] pos) F.X.env = (do
      let ov ← eval o F.X.env
      standAt apos.atName
      let (f, first) ← holding [ov] (getMethod ov m pl)
      callWith pos f first (backTo pos (starEach (e :: es) F.X.env)) (backToKw pos (keywordEach [] F.X.env))) := by rfl) :
    ER F ρ ω (.Call (.Attribute o m apos) (e :: es) [] pos) R (wc' ++ w) := fun σ G H at_ sl Q q => by
  refine ew_of (pe_methS pe_w hc hm Fn hr hb passW pa_w hst hpl ht) (ho σ G H at_ sl _ fun v G1 H1 s1 a1 r1 => ?_)
  obtain ⟨a, dx, vs, rfl, h1, h2⟩ := id r1
  refine ⟨a, dx, vs, rfl, a1.gh _ _ h1, h2.lookN hno, ha σ G1 H1 a1 (sl.up s1) _ fun us G2 H2 s2 a2 r2 => ?_⟩
  exact sp_ok (Rs := rIns C fs :: Rs) a2 ⟨(rIns C fs).mo _ _ _ s2 r1, r2⟩ hp hk fun v G3 H3 s3 a3 r3 => q v G3 H3 ((s1.trans s2).trans s3) a3 r3
/-- an instance that is being made -/
def oIns (C : Addr) (fs : List (Str × Rl)) : Ol := ⟨fun o G => ∃ dx vs, o = .ins C dx vs ∧ NR fs vs G, fun _ _ _ e ⟨dx, vs, a, b⟩ => ⟨dx, vs, a, b.up e⟩⟩
/-- what is owned no more -/
theorem At.pub {F : Fx} {q : Addr} {O : Ol} {w : Ow} {G H : Hp} {o : HO} (a : At F ((q, O) :: w) G H) (ho : H q = some o) (hq : F.H0 q = none) : At F w (upd G q o) H := by
  have hg : G q = none := (a.ow _ List.mem_cons_self).1
  have sg : Same G (upd G q o) := fun b u e => by rw [upd_ne (ne_of_none e hg)]; exact e
  have nd := List.nodup_cons.mp a.nd
  refine ⟨a.gg.trans sg, a.hh, fun b u e => ?_, fun b h1 h2 => ?_, a.mm, fun p hp => ?_, nd.2⟩
  · by_cases hb : b = q
    · subst hb
      rw [upd_same] at e
      cases e
      exact ho
    · rw [upd_ne hb] at e
      exact a.gh _ _ e
  · rw [upd_ne (fun z => h1 (by rw [z]; exact hq))]
    exact a.fr b h1 h2
  · obtain ⟨x, y, u, z, c⟩ := a.ow p (List.mem_cons_of_mem _ hp)
    have ne : p.1 ≠ q := fun z => nd.1 (List.mem_map.mpr ⟨p, hp, z⟩)
    exact ⟨by rw [upd_ne ne]; exact x, y, u, z, p.2.mo _ _ _ sg c⟩
/-- a new thing that is owned -/
theorem At.own {F : Fx} {q : Addr} {O : Ol} {w : Ow} {G H : Hp} {o : HO} (a : At F w G H) (hq : H q = none) (hc : O.c o G) : At F ((q, O) :: w) G (upd H q o) := by
  have hg : G q = none := a.gh.free hq
  have st := Step.hid (o := o) a.gh hq
  have a' := a.step st
  have hM : q ∉ F.M := fun hm => a.mm q hm hq
  have h0 : F.H0 q = none := by
    cases e : F.H0 q with
    | none => rfl
    | some u => rw [a.hh q u hM e] at hq; cases hq
  refine ⟨a'.gg, a'.hh, a'.gh, a'.fr, a'.mm, fun p hp => ?_, List.nodup_cons.mpr ⟨fun hm => ?_, a.nd⟩⟩
  · rcases List.mem_cons.mp hp with rfl | hp
    · exact ⟨hg, .inl h0, o, upd_same, hc⟩
    · exact a'.ow p hp
  · obtain ⟨p, hp, e⟩ := List.mem_map.mp hm
    obtain ⟨_, _, u, z, _⟩ := a.ow p hp
    rw [e, hq] at z
    cases z
theorem At.own0 {F : Fx} {q : Addr} {O : Ol} {w : Ow} {G H : Hp} (a : At F ((q, O) :: w) G H) (hM : q ∉ F.M) : F.H0 q = none := ((a.ow _ List.mem_cons_self).2.1).resolve_right hM
/-- C(..) -/
theorem er_make {fs : List (Str × Rl)} (ha : AR F ρ ω (e :: es) Rs w) (hp : ∀ q, pre (rRef q :: Rs) [(q, oIns C [])] (.ok rNon) [(q, oIns C fs)]) (Fn : FnOk F.X.prog F.X.w F.X.K F.X.mg F.X.base (L2.CX F.X.prog F.X.w) k f fd ps (spM pre)) (hr : Room (k + 1) F.X.A) (M : Mk F.X.K C f)
    (hm : F.X.mg x = some (.ref C)) (hb : Binds F.X.K fd ps []) (hg : Gl F.X x := by rfl) (hdb : (x == ("__debug__" : Str)) = false := by decide) (he : starEach (e :: es) F.X.env = (false, eval e F.X.env) :: starEach es F.X.env := by rfl) (hpl : (backTo pos (starEach es F.X.env)).any (·.1) = false := by rfl) :
    ER F ρ ω (.Call (.Name x p) (e :: es) [] pos) (rIns C fs) w := fun σ G H at_ sl Q q => by
  refine ew_of (pe_makeS M Fn hr hg hm hb passW pa_w hdb he hpl) (ha σ G H at_ sl _ fun vs G1 H1 s1 a1 r1 => fun y dx hy hdx hne => ?_)
  have a2 : At F w G1 (upd H1 dx (.own y)) := a1.step (Step.hid a1.gh hdx)
  have hy2 : upd H1 dx (.own y) y = none := by rw [upd_ne (Ne.symm hne)]; exact hy
  have a3 : At F ([(y, oIns C [])] ++ w) G1 (upd (upd H1 dx (.own y)) y (.ins C dx [])) := a2.own hy2 ⟨dx, [], rfl, trivial⟩
  have hM : y ∉ F.M := fun hm => a2.mm y hm hy2
  refine sp_ok (Rs := rRef y :: Rs) (wc := [(y, oIns C [])]) a3 ⟨rfl, r1⟩ (hp y) rfl fun v G3 H3 s3 a4 r3 => ⟨r3, ?_⟩
  obtain ⟨_, _, ob, h1, dx', vs', e1, h2⟩ := a4.ow (y, oIns C fs) List.mem_cons_self
  subst e1
  have a5 : At F w (upd G3 y (.ins C dx' vs')) H3 := At.pub (q := y) a4 h1 (At.own0 a4 hM)
  have sg : Same G3 (upd G3 y (.ins C dx' vs')) := fun b u e => by rw [upd_ne (ne_of_none e (a4.ow (y, oIns C fs) List.mem_cons_self).1)]; exact e
  exact q _ _ _ ((s1.trans s3).trans sg) a5 ⟨y, dx', vs', rfl, upd_same, h2.up sg⟩
theorem ex_make (ha : AR F ρ ω (e :: es) Rs w) (hp : ∀ q, ∃ O, pre (rRef q :: Rs) [(q, oIns C [])] (.error P) [(q, O)]) (Fn : FnOk F.X.prog F.X.w F.X.K F.X.mg F.X.base (L2.CX F.X.prog F.X.w) k f fd ps (spM pre)) (hr : Room (k + 1) F.X.A) (M : Mk F.X.K C f)
    (hm : F.X.mg x = some (.ref C)) (hb : Binds F.X.K fd ps []) (hg : Gl F.X x := by rfl) (hdb : (x == ("__debug__" : Str)) = false := by decide) (he : starEach (e :: es) F.X.env = (false, eval e F.X.env) :: starEach es F.X.env := by rfl) (hpl : (backTo pos (starEach es F.X.env)).any (·.1) = false := by rfl)
    (hP : ∀ cls d G G', Same G G' → P cls d G → P cls d G') :
    EX F ρ ω (.Call (.Name x p) (e :: es) [] pos) P w := fun σ G H at_ sl q => by
  refine ew_of (pe_makeS M Fn hr hg hm hb passW pa_w hdb he hpl) (ha σ G H at_ sl _ fun vs G1 H1 s1 a1 r1 => fun y dx hy hdx hne => ?_)
  have a2 : At F w G1 (upd H1 dx (.own y)) := a1.step (Step.hid a1.gh hdx)
  have hy2 : upd H1 dx (.own y) y = none := by rw [upd_ne (Ne.symm hne)]; exact hy
  have a3 : At F ([(y, oIns C [])] ++ w) G1 (upd (upd H1 dx (.own y)) y (.ins C dx [])) := a2.own hy2 ⟨dx, [], rfl, trivial⟩
  have hM : y ∉ F.M := fun hm => a2.mm y hm hy2
  obtain ⟨O, hp'⟩ := hp y
  refine sp_er (Rs := rRef y :: Rs) (wc := [(y, oIns C [])]) a3 ⟨rfl, r1⟩ hp' rfl fun cls d G3 H3 s3 a4 r3 => ?_
  obtain ⟨hg0, _, ob, h1, _⟩ := a4.ow (y, O) List.mem_cons_self
  have a5 : At F w (upd G3 y ob) H3 := At.pub (q := y) a4 h1 (At.own0 a4 hM)
  have sg : Same G3 (upd G3 y ob) := fun b u e => by rw [upd_ne (ne_of_none e hg0)]; exact e
  exact q cls d _ _ ((s1.trans s3).trans sg) a5 (hP _ _ _ _ sg r3)
/-- a field of what is owned: stored -/
def putR (f : Str) (R : Rl) : List (Str × Rl) → List (Str × Rl)
  | [] => [(f, R)]
  | (g, S) :: r => if g = f then (f, R) :: r else (g, S) :: putR f R r
theorem NR.put {f : Str} {R : Rl} {v : V} {H : Hp} (h : R.r v H) : ∀ {fs : List (Str × Rl)} {vs : List (Str × V)}, NR fs vs H → NR (putR f R fs) (putF f v vs) H
  | [], [], _ => ⟨rfl, h, trivial⟩
  | (g, S) :: fs, (g', u) :: vs, ⟨e, a, b⟩ => by
    subst e
    unfold putR putF
    by_cases hg : g = f
    · rw [if_pos hg, if_pos hg]
      exact ⟨hg ▸ rfl, h, b⟩
    · rw [if_neg hg, if_neg hg]
      exact ⟨rfl, a, NR.put h b⟩
  | [], _ :: _, h => h.elim
  | _ :: _, [], h => h.elim
theorem NR.len {κ : Type} : ∀ {fs : List (κ × Rl)} {vs : List (κ × V)} {H : Hp}, NR fs vs H → fs.length = vs.length
  | [], [], _, _ => rfl
  | _ :: _, _ :: _, _, ⟨_, _, b⟩ => by rw [List.length_cons, List.length_cons, NR.len b]
  | [], _ :: _, _, h => h.elim
  | _ :: _, [], _, h => h.elim
/-- what is owned at q changes -/
theorem At.chg {F : Fx} {q : Addr} {O O' : Ol} {w : Ow} {G H : Hp} {o : HO} (a : At F ((q, O) :: w) G H) (hc : O'.c o G) : At F ((q, O') :: w) G (upd H q o) := by
  obtain ⟨hg, hM, ob, h1, _⟩ := a.ow _ List.mem_cons_self
  have nd := List.nodup_cons.mp a.nd
  refine ⟨a.gg, fun b u hb e => ?_, fun b u e => ?_, a.fr, fun b hb => ?_, fun p hp => ?_, a.nd⟩
  · rw [upd_ne (fun z => ?_)]
    · exact a.hh b u hb e
    · rcases hM with z' | z'
      · rw [z, z'] at e; cases e
      · exact hb (z ▸ z')
  · rw [upd_ne (ne_of_none e hg)]
    exact a.gh _ _ e
  · by_cases z : b = q
    · rw [z, upd_same]; simp
    · rw [upd_ne z]; exact a.mm b hb
  · rcases List.mem_cons.mp hp with rfl | hp
    · exact ⟨hg, hM, o, upd_same, hc⟩
    · obtain ⟨x, y, u, z, c⟩ := a.ow p (List.mem_cons_of_mem _ hp)
      have ne : p.1 ≠ q := fun z => nd.1 (List.mem_map.mpr ⟨p, hp, z⟩)
      exact ⟨x, y, u, by rw [upd_ne ne]; exact z, c⟩
theorem hb_fld {K : Kn} {rest : List Stmt} {q : Addr} {fs : List (Str × Rl)} {f : Str} {pos' : Pos} (hv : ER F ρ ω e R w1) (ho : ER F ρ w1 o (rRef q) ((q, oIns C fs) :: w2)) (hc : Cls F.X.K C) (hn : NoAttr F.X.K C f) (h : HB F ρ ((q, oIns C (putR f R fs)) :: w2) rest K) (hl : fs.length < 1000 := by decide)
    (hs : swapsWith e (some (.Attribute o f pos')) pos.line F.X.env = pure false := by rfl) : HB F ρ ω (.Assign [.Attribute o f pos'] e pos :: rest) K := hb_cons fun σ G H D at_ sl ps => by
  refine sw_of (ps_fld pe_w pe_w hs) (hv σ G H at_ sl _ fun v G1 H1 s1 a1 r1 => ho σ G1 H1 a1 (sl.up s1) _ fun u G2 H2 s2 a2 r2 => ?_)
  have r2' : u = V.ref q := r2
  subst r2'
  obtain ⟨_, _, ob, h1, dx, vs, e1, h2⟩ := a2.ow (q, oIns C fs) List.mem_cons_self
  subst e1
  refine ⟨q, C, dx, vs, rfl, h1, hc, hn, by rw [← h2.len]; exact hl, ?_⟩
  have s12 := s1.trans s2
  exact h σ G2 _ D (a2.chg ⟨dx, _, rfl, h2.put (R.mo _ _ _ s2 r1)⟩) (sl.up s12) (ps.up s12)
end
end W1
set_option maxRecDepth 100000
set_option maxHeartbeats 2000000
namespace W1
open PySem PySem.Spec PyProof.Rows L2 NdefX

/-! ### an own error whose __init__ says super().__init__(text) -/
/-- the def at f -/
abbrev supF (qual : Str) (st : Stmt) (cc cd : Addr) : NF := ⟨"__init__", qual, defArgs st, defBody st, defScope st, [("__class__", cc)], cd⟩
/-- what the written part says of the class at C, its __init__ at f, the cell at cc, the code at cd -/
structure SupC (P : Program) (K : PySem.W.Frag) (mg : Str → Option Value) (x qual : Str) (st : Stmt) (C f cc cd : Addr) : Prop where
  ox : OexC K C
  gC : mg x = some (.ref C)
  iC : PySem.W.findIn K (.ref C) "__init__" = some (some (.ref f))
  tI : PySem.W.typeIn K (.ref f) = some (.type "function")
  fn : ∃ oc od doc pm ctv osl, K.lookup f = some ⟨oc, od, .func ((supF qual st cc cd).fd doc pm ctv), osl⟩
  hcd : PySem.W.codeIn K (.ref cd) qual = true
  code : ∃ ccl cdd vs ccs file tf, K.lookup cd = some ⟨ccl, cdd, .fields vs, ccs⟩ ∧ vs[2]? = some (.str file tf) ∧ (P.main.file == file) = true
  cell : ∃ cl cld csl, K.lookup cc = some ⟨cl, cld, .cell (some (.ref C)), csl⟩
  sub : PySem.W.mroIn K C (.ref C) = some true
  nsup : mg "super" = none
  sup : PySem.W.ks_superIn K C C "__init__" = some (some (.builtin "ValueError.__init__"))
  subV : PySem.W.subIn K (.ref C) (.type "ValueError") = some true
  opq : PySem.W.nsIn K cStatics "thirdparty.any" = some none
  top : (P.main.scope.names.lookup ("super" : Str)).isSome = false
  te : PySem.W.exmOne K (.ref C) (.ref C) = some true
section
variable {X : Cx} {pins : List (Addr × Obj)} {σ : L2.St} {H : Hp} {s : Shared}
theorem ld_var {E : Value → Shared → Prop} {i : Nat} {x : Str} {v : V} {Q : Value → Shared → Prop} (I : Inv X pins σ H s) (hN : X.N[i]? = some x) (hv : Vis X.env.scope x) (hσ : σ[i]? = some (some v)) (hcd : (x == ("__classdict__" : Str)) = false)
    (h : ∀ u, RelV v u → Q u s) : wpAny (model X.prog X.w) X.A (loadName X.env x) Q E s := by
  obtain ⟨m, hn, hl⟩ := I.loc
  obtain ⟨u, r, l⟩ := hl i x v hN hσ hv
  rcases l with ⟨hk, hm⟩ | ⟨hk, c, hc, hcell⟩
  · exact wpAny_loadName_local I.ok.kind hk hn hm (h u r)
  · rcases hk with hk | hk
    · exact wpAny_loadName_cell I.ok.kind hk hc hcell (h u r)
    · exact wpAny_loadName_free I.ok.kind hk hc hcell (h u r) hcd
/-- super() in such a body: the object of it -/
theorem super_made {x qual : Str} {st : Stmt} {C f cc cd a : Addr} {p0 p1 : Pos} {body : List Stmt} {whole : Sem Value} {Q : Value → Shared → Prop} {E : Value → Shared → Prop} {ar : Arg} (T : SupC X.prog X.K X.mg x qual st C f cc cd) (I : Inv X pins σ H s)
    (ea : H a = some (exo a C none)) (h0 : σ[0]? = some (some (.ref a))) (hN : X.N[0]? = some ar.arg) (hv : Vis X.env.scope ar.arg) (hn1 : (ar.arg == ("__classdict__" : Str)) = false)
    (hks : X.env.kindOf "super" = some .globalImplicit) (hkc : X.env.kindOf "__class__" = some .free) (hfu : X.env.func = some f) (hco : X.env.code = .ref cd) (hcl : X.env.cells.lookup ("__class__" : Str) = some cc)
    (hp : ((defArgs st).posonlyargs ++ (defArgs st).args).head? = some ar)
    (h : ∀ s', Inv X ((s.heap.objs.size, PySem.W.ks_superObj C a C) :: pins) σ H s' → Q (.ref s.heap.objs.size) s') :
    PySem.wpAt (model X.prog X.w) X.A (.func body X.env) (attributeBase (.Call (.Name "super" p0) [] [] p1) "__init__" X.env whole) Q E s := by
  obtain ⟨oc, od, doc, pm, ctv, osl, hf⟩ := T.fn
  obtain ⟨ccl, cdd, vs, ccs, file, tf, hcode, hvs, hfile⟩ := T.code
  obtain ⟨ct, cld, csl, hcell⟩ := T.cell
  obtain ⟨nm, q, N, bs, bm, sn, sub, ab, col, dd, k0, k1, k2, k3, k5, hC, hbm⟩ := T.ox.cls
  have hclI : PySem.W.clsIn X.K C = some { name := nm, bases := bs, mro := .ref C :: bm, ns := N, qualname := q, hasDict := true, slotNames := sn, subclasses := sub, abstract := ab, collection := col, hasDel := false } := by unfold PySem.W.clsIn; rw [hC] <;> rfl
  obtain ⟨t1, hx⟩ := exo_at I.hok ea
  refine ks_wpAt_super_base (attr := "__init__") hks hkc (by decide +kernel) hfu (I.kIn _ _ hf) rfl hp hco (I.kIn _ _ hcode) rfl hvs hfile T.top ?_
  refine PySem.W.ks_loadName_global I.ok.kind hks ?_
  obtain ⟨mb, h1, h2⟩ := I.mod.blt
  refine Calls.loadGlobal_builtin (by rw [I.ok.glob]; exact I.mod.glob.keeps I.bk) T.nsup (by rw [I.ok.blt]; exact h1.keeps I.bk) ((h2 _ (by decide +kernel)).trans (by decide +kernel : bootBuiltins "super" = some (.type "super"))) ⟨rfl, ?_⟩
  refine wpAny_loadName_free I.ok.kind hkc hcl ⟨_, I.kIn _ _ hcell, rfl⟩ ?_
  refine ld_var I hN hv h0 hn1 fun u ru => ?_
  obtain rfl : u = Value.ref a := ru
  obtain ⟨hp', g, d, t, os⟩ := s
  refine ks_wpAny_isType_cls (I.kIn _ _ hC) rfl ⟨rfl, ?_⟩
  refine ks_wpAny_call_super (I.kIn _ _ hC) rfl hx rfl (fun c z => nomatch z) (PySem.W.looks_mroIn I.kIn T.sub) (fun h' e k => ?_)
  exact h _ (ClX.pin_new I k (Nat.le_refl _) e (fun v z => nomatch z))
/-- .__init__ of it, called: the exception's texts are laid anew -/
theorem super_init {x qual : Str} {st : Stmt} {C f cc cd a so : Addr} {pos : Pos} {e : Expr} {es : List Expr} {ta : TA} {pl : Sem Bool} {Q : Value → Shared → Prop} (T : SupC X.prog X.K X.mg x qual st C f cc cd) (I : Inv X ((so, PySem.W.ks_superObj C a C) :: pins) σ H s)
    (ea : H a = some (exo a C none)) (ha : PA X (e :: es) ta) (q : ta σ H fun vs H1 => vs.length ≤ 1000 ∧ H1 a = some (exo a C none) ∧ ∀ s', Inv X pins σ H1 s' → Q .none s')
    (he : starEach (e :: es) X.env = (false, eval e X.env) :: starEach es X.env) (hpl : (backTo pos (starEach es X.env)).any (·.1) = false) :
    wpAny (model X.prog X.w) X.A (getMethod (.ref so) "__init__" pl) (fun fx s₂ => wpAny (model X.prog X.w) X.A (callWith pos fx.1 fx.2 (backTo pos (starEach (e :: es) X.env)) []) Q X.xe s₂) X.xe s := by
  obtain ⟨nm, q', N, bs, bm, sn, sub, ab, col, dd, k0, k1, k2, k3, k5, hC, hbm⟩ := T.ox.cls
  have hclI : PySem.W.clsIn X.K C = some { name := nm, bases := bs, mro := .ref C :: bm, ns := N, qualname := q', hasDict := true, slotNames := sn, subclasses := sub, abstract := ab, collection := col, hasDel := false } := by unfold PySem.W.clsIn; rw [hC] <;> rfl
  obtain ⟨t1, hx⟩ := exo_at I.hok ea
  have hso := ClX.pin_at I
  have sup := T.sup
  unfold PySem.W.ks_superIn at sup
  rw [hclI] at sup
  have J : PySem.W.InstAt s.heap a { cls := .ref C, dict := none, data := .fields #[.ref t1, .none, .none, .none, .bool false, .none] } C none := ⟨hx, rfl, rfl, trivial⟩
  have naC : a ≠ C := fun z => by
    have := I.kIn _ _ hC
    rw [← z, hx] at this
    cases this
  have hI : PySem.W.Looks (model X.prog X.w) s.heap (isInstance (.ref a) (.type "ValueError")) true := J.type.andThen (PySem.W.looks_subIn I.kIn T.subV)
  obtain ⟨hp, g, d, t, os⟩ := s
  refine PySem.W.kxs_getMethod PySem.W.kxs_ValueError hso (PySem.W.looks_opaque I.kIn T.opq) (l₀ := .ref C :: bm) ?_ rfl I.kIn sup hI naC (by decide +kernel) ?_
  · exact fun A Q E s k q => wpAny_bind ((PySem.W.looks_clsIn I.kIn hclI) A _ E s k (wpAny_pure q))
  · have I1 := ClX.pin_new (t' := t + 1) (h' := hp.push (PySem.W.kxs_mw "ValueError.__init__" a)) (a := hp.objs.size) (o := PySem.W.kxs_mw "ValueError.__init__" a) I (fun b u z => Heap.get?_push_of_some _ z) (Nat.le_refl _) (Heap.get?_push_at rfl rfl) (fun v z => nomatch z)
    have hq1 : wpAny (model X.prog X.w) X.A (spliced (backTo pos (starEach (e :: es) X.env))) (fun us s₁ => PySem.W.KxsAt "ValueError.__init__" hp.objs.size a s₁.heap ∧ wpAny (model X.prog X.w) X.A (call (.ref hp.objs.size) us) Q X.xe s₁) X.xe ⟨hp.push (PySem.W.kxs_mw "ValueError.__init__" a), g, d, t + 1, os⟩ := by
      refine thn (ha.run pos _ _ σ H _ I1 q) fun us s1 ⟨vs, H1, I2, r, hlen, ea1, q1⟩ => ⟨ClX.pin_at I2, ?_⟩
      have hu := ClX.pin_at I2
      obtain ⟨t2, hx2⟩ := exo_at I2.hok ea1
      have hz : us.length ≤ sizeLine := by
        rw [← r.length]
        exact Nat.le_of_lt (small1000 hlen)
      obtain ⟨h2, g2, d2, tk2, os2⟩ := s1
      refine wpAny_call (codeAny_of_tree ?_)
      show wpAny _ X.A.in1 (callAny (.ref hp.objs.size) ⟨us, []⟩) _ _ _
      simp only [callAny]
      refine wpAny_bind (wpAny_load hu ?_)
      simp only [PySem.W.kxs_mw, show (Value.type "method-wrapper" == Value.type "method" || Value.type "method-wrapper" == Value.type "builtin_function_or_method" || Value.type "method-wrapper" == Value.type "method-wrapper") = true by decide, if_true]
      refine PySem.W.KFB.if_so (by decide) ?_
      refine wpAny_bind (PySem.W.check_bound_init F.excBase_ValueError.toExcCallFacts (I2.kIn _ _ hC) hx2 rfl ?_)
      refine wpAny_bind (wpAny_pure (wpAny_pure ?_))
      refine ⟨plainId_quiet F.excBase_ValueError.init.plain _, codeAny_builtin F.excBase_ValueError.initEntry ?_⟩
      refine PySem.W.exc_init_tree (cls := .ref C) (t0 := t2) (dv := none) (c2 := .none) (c3 := .none) (b4 := .bool false) hx2 hz fun h3 k e3 t3 => ?_
      have J3 := (ClX.unpin (ClX.unpin I2)).write (t' := tk2) (x := a) (e := a) (o := exo a C none) (by rw [ea1]; exact True.intro) (.inl rfl) k ⟨_, e3⟩ (exo_ok e3)
      have eu : upd H1 a (exo a C none) = H1 := by
        funext b
        by_cases hb : b = a
        · rw [hb, upd_same, ea1]
        · rw [upd_ne hb]
      rw [eu] at J3
      exact q1 _ J3
    rw [he] at hq1 ⊢
    exact PySem.W.kxs_callWith (i := "ValueError.__init__") (x := a) (first := []) (by show (false || (backTo pos (starEach es X.env)).any (·.1)) = false; rw [hpl]; rfl) (Calls.evalArgs_plain hq1)
end
end W1
set_option maxRecDepth 100000
set_option maxHeartbeats 2000000
namespace W1
open PySem PySem.Spec PyProof.Rows L2 NdefX
section
variable {P : Program} {w : World} {K : PySem.W.Frag} {mg : Str → Option Value} {base : Heap}
/-- such a def keeps its promise -/
theorem fn_sup {x qual : Str} {st : Stmt} {C f cc cd : Addr} {N ps : List Str} {k : Nat} {sp : Sp} {ar : Arg} {p0 p1 p2 p3 p4 : Pos} {e : Expr} {es : List Expr} {rest : List Stmt} (T : SupC P K mg x qual st C f cc cd)
    (S : NScope N ps ["__class__"] (defScope st)) (hst : defBody st = .Expr (.Call (.Attribute (.Call (.Name "super" p0) [] [] p1) "__init__" p2) (e :: es) [] p3) p4 :: rest)
    (hp : ((defArgs st).posonlyargs ++ (defArgs st).args).head? = some ar) (hN : N[0]? = some ar.arg) (hn1 : (ar.arg == ("__classdict__" : Str)) = false) (hpa : ar.arg ∈ ps)
    (hks : (defScope st).names.lookup ("super" : Str) = some .globalImplicit)
    (len : ∀ vs H Q E, sp vs H Q E → vs.length = ps.length)
    (pl : ∀ env : Env, env.scope = defScope st → ∃ pl : Sem Bool, eval (.Call (.Attribute (.Call (.Name "super" p0) [] [] p1) "__init__" p2) (e :: es) [] p3) env = (do
      let ov ← attributeBase (.Call (.Name "super" p0) [] [] p1) "__init__" env (eval (.Call (.Name "super" p0) [] [] p1) env)
      standAt p2.atName
      let (f, first) ← holding [ov] (getMethod ov "__init__" pl)
      callWith p3 f first (backTo p3 (starEach (e :: es) env)) []))
    (hsw : ∀ env : Env, env.scope = defScope st → swapsWith (.Call (.Attribute (.Call (.Name "super" p0) [] [] p1) "__init__" p2) (e :: es) [] p3) none p4.line env = pure false)
    (hse : ∀ env : Env, env.scope = defScope st → starEach (e :: es) env = (false, eval e env) :: starEach es env ∧ (backTo p3 (starEach es env)).any (·.1) = false)
    (hbody : ∀ (A : Around) (outer : List Env) (s : Shared) (H : Hp) (vs : List V) (Q : VK) (E : XK), Room k (A.deeper (envF (supF qual st cc cd) f s.heap.objs.size)) → sp vs H Q E →
      ∃ a ta t, vs[0]? = some (.ref a) ∧ H a = some (exo a C none) ∧ PA (ncx (L2.CX P w) P w K mg base N (supF qual st cc cd) f A outer s H E) (e :: es) ta ∧ PSs (ncx (L2.CX P w) P w K mg base N (supF qual st cc cd) f A outer s H E) rest t ∧
        ta (startF N vs [none]) H fun us H1 => us.length ≤ 1000 ∧ H1 a = some (exo a C none) ∧ t { nx := fun _ H' => Q .non H', rt := Q } (startF N vs [none]) H1) :
    ∃ fd, (∃ doc pm ctv, fd = (supF qual st cc cd).fd doc pm ctv) ∧ FnOk P w K mg base (L2.CX P w) (k + 1) f fd ps sp := by
  obtain ⟨oc, od, doc, pm, ctv, osl, lk⟩ := T.fn
  refine ⟨_, ⟨doc, pm, ctv, rfl⟩, len, fun A outer s H args us vs Q E hr e0 hb r hsp => ?_⟩
  have KX : K.In s.heap := e0.mod.kin.keeps fun b o e => (e0.bs b o e).1
  have hl := len _ _ _ _ hsp
  have lim : s.heap.NoLimit := e0.mod.nolimit.keeps fun b o e => (e0.bs b o e).1
  obtain ⟨ct, cld, csl, hcell⟩ := T.cell
  refine ks_codeAny_call_defAt (body := defBody st) hr.depth (KX _ _ lk) rfl lim (PySem.W.codeRec_of KX T.hcd) rfl hb S.nocell (fun ⟨n, _⟩ hy => S.par n (List.of_mem_zip hy).1) (fun h₁ hns kp => ?_) S.co S.gen S.kind
  show PySem.wpAt (model P w) (A.deeper (envF (supF qual st cc cd) f s.heap.objs.size)) (.func (defBody st) (envF (supF qual st cc cd) f s.heap.objs.size)) (execs (defBody st) (envF (supF qual st cc cd) f s.heap.objs.size)) _ _ _
  have hcc : H cc = none := (e0.bs cc _ (e0.mod.kin _ _ hcell)).2
  have Cs : CellsAt (supF qual st cc cd).cl ["__class__"] [none] s.heap H := by
    refine ⟨rfl, fun y c h => ?_, fun y z c h1 h2 => ?_, fun i y h => ?_⟩
    · have h' : [(("__class__" : Str), cc)].lookup y = some c := h
      by_cases hy : y = "__class__"
      · subst hy
        rw [List.lookup_cons_self] at h'
        cases h'
        exact ⟨hcc, _, _, KX _ _ hcell, rfl⟩
      · rw [List.lookup_cons, show (y == ("__class__" : Str)) = false by simpa using hy] at h'
        cases h'
    · have k1 : ∀ {y : Str}, [(("__class__" : Str), cc)].lookup y = some c → y = "__class__" := fun {y} h => by
        by_cases hy : y = "__class__"
        · exact hy
        · rw [List.lookup_cons, show (y == ("__class__" : Str)) = false by simpa using hy] at h
          cases h
      rw [k1 h1, k1 h2]
    · match i, h with
      | 0, h =>
        cases h
        exact ⟨cc, List.lookup_cons_self, fun v z => by cases z⟩
      | i + 1, h => simp at h
  have I := inv_startN (CX := L2.CX P w) (f := f) (E := E) (tk := s.toks + (ps.zip us).length) S hr.hd e0 hl r Cs hns kp
  obtain ⟨a, ta, t, hv0, ea, hpa1, hrest, hq⟩ := hbody A outer s H vs Q E (hr.deeper _) hsp
  obtain ⟨pl', hpl'⟩ := pl (envF (supF qual st cc cd) f s.heap.objs.size) rfl
  obtain ⟨hse1, hse2⟩ := hse (envF (supF qual st cc cd) f s.heap.objs.size) rfl
  have hσ : (startF N vs [none])[0]? = some (some (V.ref a)) := by
    unfold startF
    have : 0 < vs.length := by
      cases vs with
      | nil => cases hv0
      | cons _ _ => exact Nat.zero_lt_succ _
    rw [List.getElem?_append_left (by rw [List.length_map]; exact this), List.getElem?_map, hv0]
    rfl
  have fin : ∀ {σ' : L2.St} {H' : Hp} {v : V} {u : Value} {s' : Shared}, Inv (ncx (L2.CX P w) P w K mg base N (supF qual st cc cd) f A outer s H E) [] σ' H' s' → L2.RelV v u → Q v H' → CE outer P w H s Q u s' :=
    fun {σ' H' v u s'} J rv q => ⟨v, H', J.os, J.bare, J.base, J.hok, rv, q⟩
  have endR : ∀ fl s', SP (ncx (L2.CX P w) P w K mg base N (supF qual st cc cd) f A outer s H E) [] { nx := fun _ H' => Q .non H', rt := Q } fl s' → CR (L2.CX P w) outer P w H s Q E (.ok (.ret (match fl with | .ret v => v | _ => .none))) s' := fun fl s' hs => by
    cases fl with
    | ret u =>
      obtain ⟨v, σ', H', J, rv, q⟩ := hs
      exact fin J rv q
    | next =>
      obtain ⟨σ', H', J, q⟩ := hs
      exact fin (v := V.non) (u := Value.none) J rfl q
    | brk =>
      obtain ⟨_, _, _, q⟩ := hs
      exact False.elim q
    | cont =>
      obtain ⟨_, _, _, q⟩ := hs
      exact False.elim q
  rw [hst]
  refine ks_wpAt_execs_cons (ks_wpAt_Expr_any ?_ (by simp [interactive, S.kind]) (hsw _ rfl))
  refine ks_wpAt_MethodCall (pl := pl') ?_ hpl'
  refine super_made (X := ncx (L2.CX P w) P w K mg base N (supF qual st cc cd) f A outer s H E) (ar := ar) T I ea hσ hN (Or.inl (S.par _ hpa)) hn1 hks (S.frk _ List.mem_cons_self) rfl rfl List.lookup_cons_self hp fun s1 I1 => ?_
  have hpa2 : PA (ncx (L2.CX P w) P w K mg base N (supF qual st cc cd) f A outer s H E) (e :: es) (fun σ' H' Q' => (σ' = startF N vs [none] ∧ H' = H) ∧ ∀ us H1, (us.length ≤ 1000 ∧ H1 a = some (exo a C none) ∧ t { nx := fun _ H' => Q .non H', rt := Q } (startF N vs [none]) H1) → Q' us H1) :=
    ⟨fun pos pins s σ' H' Q' I z => by
      obtain ⟨⟨rfl, rfl⟩, k⟩ := z
      exact thn (hpa1.run pos pins s _ _ _ I hq) fun us s' ⟨vs', H2, I2, r2, q2⟩ => ⟨vs', H2, I2, r2, k vs' H2 q2⟩⟩
  refine super_init (X := ncx (L2.CX P w) P w K mg base N (supF qual st cc cd) f A outer s H E) T I1 ea hpa2 ⟨⟨rfl, rfl⟩, fun us H1 ⟨h1, h2, h3⟩ => ⟨h1, h2, fun s2 I2 => ?_⟩⟩ hse1 hse2
  refine wpAt_of_wpAny (wpAny_mono (hrest.run [] s2 _ H1 _ I2 h3) (fun fl s' hs => endR fl s' hs) fun e s' hs => hs)
end
end W1
set_option maxRecDepth 100000
set_option maxHeartbeats 2000000
namespace W1
open PySem PySem.Spec PyProof.Rows L2 NdefX

/-- the promise of such an __init__: the one field is stored -/
def spErr (C : Addr) (fld : Str) (Pr : Rl) : Sp := fun vs H Q _ => ∃ a v, vs = [.ref a, v] ∧ H a = some (exo a C none) ∧ Pr.r v H ∧
  ∀ H' d, H d = none → d ≠ a → H' a = some (exo a C (some d)) → H' d = some (exd d [(fld, v)]) → (∀ b o, b ≠ a → H b = some o → H' b = some o) → Q .non H'
/-- an expression that gives some text -/
def Txt1 (X : Cx) (e : Expr) (i : Nat) (Pr : Rl) : Prop := ∃ te, PE X e te ∧ ∀ σ H v, σ[i]? = some (some v) → Pr.r v H → ∀ Q : VK, (∀ y H', Same H H' → Q y H') → te σ H Q
section
variable {P : Program} {w : World} {K : PySem.W.Frag} {mg : Str → Option Value} {base : Heap}
theorem ok_err {x qual y fld : Str} {st : Stmt} {C f cc cd : Addr} {k : Nat} {Pr : Rl} {p0 p1 p2 p3 p4 p5 p6 p7 p8 ps1 ps2 : Pos} {an1 an2 : Option Expr} {e : Expr} (T : SupC P K mg x qual st C f cc cd)
    (S : NScope ([("self" : Str), y, "__class__"] : List Str) ([("self" : Str), y] : List Str) ["__class__"] (defScope st))
    (hst : defBody st = [.Expr (.Call (.Attribute (.Call (.Name "super" p0) [] [] p1) "__init__" p2) [e] [] p3) p4, .Assign [.Attribute (.Name "self" p5) fld p6] (.Name y p7) p8])
    (hp : ((defArgs st).posonlyargs ++ (defArgs st).args).head? = some ⟨"self", an1, ps1⟩) (hks : (defScope st).names.lookup ("super" : Str) = some .globalImplicit) (hno : PySem.W.findIn K (.ref C) fld = some none)
    (hd1 : (y == ("__debug__" : Str)) = false) (hd2 : (y == ("__classdict__" : Str)) = false)
    (pl : ∀ env : Env, env.scope = defScope st → ∃ pl : Sem Bool, eval (.Call (.Attribute (.Call (.Name "super" p0) [] [] p1) "__init__" p2) [e] [] p3) env = (do
      let ov ← attributeBase (.Call (.Name "super" p0) [] [] p1) "__init__" env (eval (.Call (.Name "super" p0) [] [] p1) env)
      standAt p2.atName
      let (f, first) ← holding [ov] (getMethod ov "__init__" pl)
      callWith p3 f first (backTo p3 (starEach [e] env)) []))
    (hsw : ∀ env : Env, env.scope = defScope st → swapsWith (.Call (.Attribute (.Call (.Name "super" p0) [] [] p1) "__init__" p2) [e] [] p3) none p4.line env = pure false)
    (hsw2 : ∀ env : Env, swapsWith (.Name y p7) (some (.Attribute (.Name "self" p5) fld p6)) p8.line env = pure false)
    (hse : ∀ env : Env, env.scope = defScope st → starEach [e] env = (false, eval e env) :: starEach [] env ∧ (backTo p3 (starEach [] env)).any (·.1) = false)
    (htx : ∀ X : Cx, X.K = K → X.mg = mg → X.base = base → X.prog = P → X.w = w → X.N = ([("self" : Str), y, "__class__"] : List Str) → X.env.scope = defScope st → Room k X.A → X.calm = true → Txt1 X e 1 Pr) :
    ∃ fd, (∃ doc pm ctv, fd = (supF qual st cc cd).fd doc pm ctv) ∧ FnOk P w K mg base (L2.CX P w) (k + 1) f fd ([("self" : Str), y] : List Str) (spErr C fld Pr) := by
  refine fn_sup (N := ([("self" : Str), y, "__class__"] : List Str)) (ps := ([("self" : Str), y] : List Str)) T S hst hp rfl (show (("self" : Str) == ("__classdict__" : Str)) = false by decide +kernel) List.mem_cons_self hks (fun vs H Q E h => ?_) pl hsw hse (fun A outer s H vs Q E hr h => ?_)
  · obtain ⟨a, v, rfl, _⟩ := h
    rfl
  · obtain ⟨a, v, rfl, ea, hpr, hq⟩ := h
    obtain ⟨te, hte, htk⟩ := htx (ncx (L2.CX P w) P w K mg base ([("self" : Str), y, "__class__"] : List Str) (supF qual st cc cd) f A outer s H E) rfl rfl rfl rfl rfl rfl rfl hr rfl
    have hs : Loc (defScope st) "self" := .inl (S.par _ List.mem_cons_self)
    have hy : Loc (defScope st) y := .inl (S.par _ (List.mem_cons_of_mem _ List.mem_cons_self))
    refine ⟨a, _, _, rfl, ea, pa_cons hte pa_nil (hse _ rfl).1, pss_one (ps_ost (pe_var (i := 0) rfl (Or.inl (S.par _ List.mem_cons_self))) (pe_var (i := 1) rfl (Or.inl (S.par _ (List.mem_cons_of_mem _ List.mem_cons_self))) hd1 hd2) (hsw2 _)), ?_⟩
    refine htk _ _ v rfl hpr _ fun z H1 s1 => ⟨by show 1 ≤ 1000; decide, s1 _ _ ea, v, rfl, .ref a, rfl, a, C, rfl, T.ox, hno, .inl ⟨s1 _ _ ea, fun d hd hne => ?_⟩⟩
    refine hq _ d (s1.free hd) hne upd_same (by rw [upd_ne hne, upd_same]) fun b o hb e => ?_
    rw [upd_ne hb, upd_ne (ne_of_none (s1 _ _ e) hd)]
    exact s1 _ _ e
end
/-- the error as it flies: its one field -/
def erF (C : Addr) (fld : Str) (R : Rl) : Er := fun cls d G => cls = .ref C ∧ ∃ dd v, d = some dd ∧ G dd = some (.xd [(fld, v)]) ∧ R.r v G
theorem erF_mo {C : Addr} {fld : Str} {R : Rl} : ∀ cls d G G', Same G G' → erF C fld R cls d G → erF C fld R cls d G' := fun cls d G G' s ⟨a, dd, v, b, c, e⟩ => ⟨a, dd, v, b, s _ _ c, R.mo _ _ _ s e⟩
section
variable {F : Fx} {ρ : Ty} {ω w1 : Ow} {K : Kn} {rest : List Stmt} {e : Expr} {R Pr : Rl} {pos pos' p : Pos} {x y qual fld : Str} {st : Stmt} {C f cc cd : Addr} {fd : FuncData} {k : Nat}
theorem hb_raise (ha : AR F ρ ω [e] [R] w1) (hx : K.ex ρ w1 (erF C fld R)) (hPr : ∀ v G, R.r v G → Pr.r v G) (T : SupC F.X.prog F.X.K F.X.mg x qual st C f cc cd) (Fn : FnOk F.X.prog F.X.w F.X.K F.X.mg F.X.base (L2.CX F.X.prog F.X.w) k f fd ([("self" : Str), y] : List Str) (spErr C fld Pr))
    (hr : Room (k + 1) F.X.A) (hb : Binds F.X.K fd ([("self" : Str), y] : List Str) []) (hg : Gl F.X x := by rfl) (hc : F.X.calm = true := by rfl) (hdb : (x == ("__debug__" : Str)) = false := by decide)
    (he : starEach [e] F.X.env = (false, eval e F.X.env) :: starEach [] F.X.env := by rfl) (hpl : (backTo pos (starEach [] F.X.env)).any (·.1) = false := by rfl) :
    HB F ρ ω (.Raise (some (.Call (.Name x p) [e] [] pos)) none pos' :: rest) K := hb_cons fun σ G H D at_ sl ps => by
  refine sw_of (ps_raise hc F.tk (pmk_oex T.ox T.iC T.tI Fn hr hb .nil passL hg T.gC pa_w hdb he hpl)) (ha σ G H at_ sl _ fun vs G1 H1 s1 a1 r1 => ?_)
  obtain ⟨v, rfl, rv⟩ := all1 r1
  refine ⟨by show 1 ≤ 1000; decide, fun a hna => ?_⟩
  have hg0 : G1 a = none := a1.gh.free hna
  have sa : Same G1 (upd H1 a (exo a C none)) := fun b o z => by rw [upd_ne (ne_of_none z hg0)]; exact a1.gh _ _ z
  refine ⟨a, v, rfl, upd_same, Pr.mo _ _ _ sa (hPr _ _ rv), fun H' d hd hne h1 h2 h3 => ⟨rfl, d, _, h1, h2, ?_, ?_⟩⟩
  · rw [upd_ne hne] at hd
    exact hd
  · rw [upd_ne hne] at hd
    have hgd : G1 d = none := a1.gh.free hd
    have st : Step G1 H1 (upd G1 d (.xd [(fld, v)])) (upd (del H' a) d (.xd [(fld, v)])) := by
      refine ⟨fun b o z => by rw [upd_ne (ne_of_none z hgd)]; exact z, fun b o z => ?_, fun b o z => ?_, fun b z1 z2 => ?_⟩
      · have ba : b ≠ a := ne_of_none z hna
        rw [upd_ne (ne_of_none z hd), del_ne ba]
        exact h3 b o ba (by rw [upd_ne ba]; exact z)
      · by_cases hb : b = d
        · subst hb
          rw [upd_same] at z ⊢
          exact z
        · rw [upd_ne hb] at z ⊢
          have ba : b ≠ a := ne_of_none z hg0
          rw [del_ne ba]
          exact h3 b o ba (by rw [upd_ne ba]; exact a1.gh _ _ z)
      · rw [upd_ne (fun z => z1 (by rw [z]; exact hd))]
        exact z2
    exact ps.ex ρ w1 _ hx _ _ σ _ _ (s1.trans st.gg) (a1.step st) (sl.up (s1.trans st.gg)) ⟨rfl, d, v, rfl, upd_same, R.mo _ _ _ st.gg rv⟩
end
/-! ### what an f-string tells: some text -/
def prInt : Rl := ⟨fun v _ => ∃ i : Int, v = .int i ∧ i.natAbs.log2 < 1920, fun _ _ _ _ h => h⟩
def prStr : Rl := ⟨fun v _ => ∃ z : Str, v = .str z ∧ z.length ≤ 100000, fun _ _ _ _ h => h⟩
theorem strlen_app (a b : Str) : (a ++ b).length = a.length + b.length := by
  show (a.cps ++ b.cps).size = a.cps.size + b.cps.size
  rw [Array.size_append]
theorem fmt_int {X : Cx} {e : Expr} {i : Nat} {pos : Pos} {x : Str} (hN : X.N[i]? = some x) (hv : Vis X.env.scope x) (hd : (x == ("__debug__" : Str)) = false) (hcd : (x == ("__classdict__" : Str)) = false) {p1 : Pos} :
    ∃ te, PE X (.FormattedValue (.Name x p1) (-1) none pos) te ∧ ∀ σ H v, σ[i]? = some (some v) → (prInt.r v H ∨ prStr.r v H) → ∀ Q : VK, (∀ y : Str, y.length ≤ 101000 → Q (.str y) H) → te σ H Q :=
  ⟨_, pe_fmt (pe_var hN hv hd hcd), fun σ H v h1 h2 Q q => ⟨v, h1, by
    rcases h2 with ⟨n, rfl, h2⟩ | ⟨z, rfl, h2⟩
    · exact .inr ⟨n, rfl, h2, q _ (Nat.le_trans (int_text_len_1921 h2) (by decide))⟩
    · exact .inl ⟨z, rfl, Nat.le_trans h2 (by decide), q z (Nat.le_trans h2 (by decide))⟩⟩⟩
theorem empty_app (a : Str) : (Str.empty ++ a).length = a.length := by
  rw [strlen_app]
  exact Nat.zero_add _
/-- f"{x} .." -/
theorem txt_fc {X : Cx} {i : Nat} {x t : Str} {p1 p2 p3 p4 : Pos} {j : Nat} (hN : X.N[i]? = some x) (hv : Vis X.env.scope x) (hd : (x == ("__debug__" : Str)) = false) (hcd : (x == ("__classdict__" : Str)) = false) (ht : t.length ≤ 1000) {Pr : Rl} (hPr : ∀ v H, Pr.r v H → prInt.r v H ∨ prStr.r v H) :
    Txt1 X (.JoinedStr [.FormattedValue (.Name x p1) (-1) none p2, .Constant (.str t) j p3] p4) i Pr := by
  obtain ⟨te, h1, h2⟩ := fmt_int (X := X) (e := .Name x p1) (pos := p2) (p1 := p1) hN hv hd hcd
  refine ⟨_, pe_joined (.cons h1 (.cons pe_str .nil)), fun σ H v h3 h4 Q q => ?_⟩
  refine h2 σ H v h3 (hPr _ _ h4) _ fun y hy => ⟨y, rfl, ?_, t, rfl, ?_, q _ _ (Same.refl _)⟩
  · rw [empty_app]
    exact Nat.le_trans hy (by decide)
  · rw [strlen_app, empty_app]
    exact Nat.le_trans (Nat.add_le_add hy ht) (by decide)
end W1
set_option maxRecDepth 100000
set_option maxHeartbeats 2000000
namespace W1
open PySem PySem.Spec PyProof.Rows L2

/-! ### an own class's operators -/
structure OwnM (K : PySem.W.Frag) (C : Addr) (dn : Str) (g : Addr) : Prop where
  at_ : PySem.W.findIn K (.ref C) dn = some (some (.ref g))
  fn : PySem.W.isFn K (.ref g) = true
structure ClsX (K : PySem.W.Frag) (C : Addr) : Prop where
  cls : Cls K C
  first : PySem.W.selfFirst K C = true
  ca : PySem.W.findIn K (.ref C) "__class__" = some (some (.builtin "object.__class__"))
  cn : PySem.W.specialIn K (.builtin "object.__class__") "__get__" = some (some (.builtin "getset_descriptor.__get__"))
  ct : PySem.W.takesIn K (.builtin "object.__class__") = some true
  cm : PySem.W.mroIn K C (.type "object") = some true
section
variable {X : Cx} {pins : List (Addr × Obj)} {σ : L2.St} {H : Hp} {s : Shared} {a C dx g k : Nat} {fs : List (Str × V)} {fd : FuncData} {ps : List Str} {sp : Sp} {E : Value → Shared → Prop}
theorem inst_at (I : Inv X pins σ H s) (e : H a = some (.ins C dx fs)) : ∃ od, PySem.W.InstAt s.heap a (PySem.W.instObj C dx) C (some od) := by
  obtain ⟨mA, O, _, _, _, _⟩ := ins_get I.hok e
  obtain ⟨od, J, _⟩ := O.look
  exact ⟨od, J⟩
/-- a callee that raises nothing, below the running body -/
theorem run_below {A : Around} {Q : VK} {us : List Value} {vs : List V} (F : FnOk X.prog X.w X.K X.mg X.base (L2.CX X.prog X.w) k g fd ps sp) (hr : Room k A) (e0 : Env0 X.prog X.w X.K X.mg X.base A X.stack s H) (hb : Binds X.K fd ps []) (I : Inv X pins σ H s) (r : Vals vs us) (h : sp vs H Q E0)
    (E : Value → Shared → Prop) : wpAny (model X.prog X.w) A (call (.ref g) us) (EP X pins σ Q) E s := by
  have hl : us.length = ps.length := by rw [← r.length]; exact F.len _ _ _ _ h
  have b := hb s us I.kIn (by rw [List.append_nil]; exact hl)
  rw [List.append_nil] at b
  refine wpAny_call (codeAny_mono (F.run A X.stack s H ⟨us, []⟩ us vs Q E0 hr e0 b r h) fun r s' hq => ?_)
  cases r with
  | error e =>
    obtain ⟨_, _, _, _, _, _, _, _, _, _, _, _, z⟩ := hq
    exact z.elim
  | ok fl =>
    cases fl with
    | ret u => exact I.after hq
    | next => exact False.elim hq
    | brk => exact False.elim hq
    | cont => exact False.elim hq
/-- a op b, two instances of the class at C -/
def rOwn2 (C : Addr) (sp : Sp) : R2 := fun x y H Q => ∃ a dx vs b dy ws, x = .ref a ∧ y = .ref b ∧ H a = some (.ins C dx vs) ∧ H b = some (.ins C dy ws) ∧ sp [x, y] H Q E0
theorem op_own2 {op : Operator} (c : ClsX X.K C) (m : OwnM X.K C (PySem.dunder op.info.2) g) (F : FnOk X.prog X.w X.K X.mg X.base (L2.CX X.prog X.w) k g fd ps sp) (hr : Room k X.A) (hb : Binds X.K fd ps []) : OpR X (binaryOp op) (rOwn2 C sp) := by
  intro pins s σ H x y v u Q I rx ry h
  obtain ⟨a, dx, vs, b, dy, ws, rfl, rfl, ha, hb', q⟩ := h
  cases (show v = Value.ref a from rx)
  cases (show u = Value.ref b from ry)
  obtain ⟨od, J⟩ := inst_at I ha
  obtain ⟨od', J'⟩ := inst_at I hb'
  obtain ⟨mm, hF⟩ := I.fr
  refine PySem.W.binop_K hF I.ok.mod.kin J J'.type c.first m.at_ m.fn ?_
  refine wpAny_mono (run_below (us := [.ref a, .ref b]) (vs := [.ref a, .ref b]) F hr I.env0 hb I (.cons rfl (.cons rfl .nil)) q _) (fun w s' z => ?_) fun _ _ x => x
  obtain ⟨z', H', I', rz, qz⟩ := z
  exact SlX.cmpback rz ⟨z', H', I', rz, qz⟩
/-- -a -/
def rOwn1 (C : Addr) (sp : Sp) : V → Hp → VK → Prop := fun x H Q => ∃ a dx vs, x = .ref a ∧ H a = some (.ins C dx vs) ∧ sp [x] H Q E0
theorem op_own1 (m : OwnM X.K C "__neg__" g) (F : FnOk X.prog X.w X.K X.mg X.base (L2.CX X.prog X.w) k g fd ps sp) (hr : Room k X.A) (hb : Binds X.K fd ps []) : UnR X (unaryOp .USub) (rOwn1 C sp) := by
  intro pins s σ H x v Q I rx h
  obtain ⟨a, dx, vs, rfl, ha, q⟩ := h
  cases (show v = Value.ref a from rx)
  obtain ⟨od, J⟩ := inst_at I ha
  obtain ⟨mm, hF⟩ := I.fr
  exact PySem.W.ksp_neg hF I.ok.mod.kin J m.at_ m.fn (run_below (us := [.ref a]) (vs := [.ref a]) F hr I.env0 hb I (.cons rfl .nil) q _)
/-- a == y by an own def; the type of y is no class below C -/
inductive TyE (K : PySem.W.Frag) (H : Hp) : V → Value → Prop where
  | int (i : Int) : TyE K H (.int i) (.type "int")
  | str (z : Str) : TyE K H (.str z) (.type "str")
  | bl (b : Bool) : TyE K H (.bl b) (.type "bool")
  | non : TyE K H .non (.type "NoneType")
  | ins {b D dy : Addr} {ws : List (Str × V)} (h : H b = some (.ins D dy ws)) : TyE K H (.ref b) (.ref D)
  | lst {b : Addr} {xs : List V} (h : H b = some (.lst xs)) : TyE K H (.ref b) (.type "list")
  | tup {b : Addr} {xs : List V} (h : H b = some (.tup xs)) : TyE K H (.ref b) (.type "tuple")
theorem tye_looks {y : V} {u t : Value} (I : Inv X pins σ H s) (r : RelV y u) (h : TyE X.K H y t) : PySem.W.Looks (model X.prog X.w) s.heap (typeOf u) t := by
  cases h with
  | int i => obtain ⟨tk, rfl⟩ := r; exact PySem.W.Looks.of_pure rfl
  | str z => obtain ⟨tk, rfl⟩ := r; exact PySem.W.Looks.of_pure rfl
  | bl b => cases (show u = Value.bool b from r); exact PySem.W.Looks.of_pure rfl
  | non => cases (show u = Value.none from r); exact PySem.W.Looks.of_pure rfl
  | @ins b D dy ws h =>
    cases (show u = Value.ref b from r)
    obtain ⟨od', J'⟩ := inst_at I h
    exact J'.type
  | @lst b xs h =>
    cases (show u = Value.ref b from r)
    obtain ⟨_, its, n, _, e⟩ := (show ObjOk X.prog X.w H s.heap b (.lst xs) from I.hok b _ h)
    exact fun A Q E s k q => wpAny_typeOf_ref (k _ _ e) q
  | @tup b xs h =>
    cases (show u = Value.ref b from r)
    obtain ⟨_, its, _, o, e, c, _⟩ := (show ObjOk X.prog X.w H s.heap b (.tup xs) from I.hok b _ h)
    exact fun A Q E s k q => wpAny_typeOf_ref (k _ _ e) (by rw [c]; exact q)
def rOwnE (K : PySem.W.Frag) (C : Addr) (sp : Sp) : R2 := fun x y H Q => ∃ a dx vs t, x = .ref a ∧ H a = some (.ins C dx vs) ∧ TyE K H y t ∧ PySem.W.notFirst K C t = true ∧ sp [x, y] H Q E0
theorem rc_own {A : Around} {Q : VK} {a : Addr} {y : V} {u t : Value} (m : OwnM X.K C "__eq__" g) (F : FnOk X.prog X.w X.K X.mg X.base (L2.CX X.prog X.w) k g fd ps sp) (hr : Room k A) (e0 : Env0 X.prog X.w X.K X.mg X.base A X.stack s H) (hb : Binds X.K fd ps []) (I : Inv X pins σ H s)
    (ha : H a = some (.ins C dx fs)) (ry : RelV y u) (ty : TyE X.K H y t) (hn : PySem.W.notFirst X.K C t = true) (q : sp [.ref a, y] H Q E0) (E : Value → Shared → Prop) : wpAny (model X.prog X.w) A (richCompare .Eq (.ref a) u) (EP X pins σ Q) E s := by
  obtain ⟨od, J⟩ := inst_at I ha
  obtain ⟨mm, hF⟩ := I.fr
  refine PySem.W.cmp_K (op := .Eq) hr.units0 hF I.ok.mod.kin J (tye_looks I ry ty) hn m.at_ m.fn ?_
  refine wpAny_mono (run_below (us := [.ref a, u]) (vs := [.ref a, y]) F hr e0 hb I (.cons rfl (.cons ry .nil)) q _) (fun w s' z => ?_) fun _ _ x => x
  obtain ⟨z', H', I', rz, qz⟩ := z
  exact SlX.cmpback rz ⟨z', H', I', rz, qz⟩
theorem op_ownE (m : OwnM X.K C "__eq__" g) (F : FnOk X.prog X.w X.K X.mg X.base (L2.CX X.prog X.w) k g fd ps sp) (hr : Room k X.A) (hb : Binds X.K fd ps []) : OpR X (compareOp .Eq) (rOwnE X.K C sp) := by
  intro pins s σ H x y v u Q I rx ry h
  obtain ⟨a, dx, vs, t, rfl, ha, ty, hn, q⟩ := h
  cases (show v = Value.ref a from rx)
  show wpAny _ _ (richCompare .Eq (.ref a) u) _ _ _
  exact rc_own m F hr I.env0 hb I ha ry ty hn q _
/-- bool(a), if a: by an own __bool__ -/
theorem truthy_own {A : Around} {a : Addr} {Q : Bool → Hp → Prop} (m : OwnM X.K C "__bool__" g) (F : FnOk X.prog X.w X.K X.mg X.base (L2.CX X.prog X.w) k g fd ps sp) (hr : Room k A) (e0 : Env0 X.prog X.w X.K X.mg X.base A X.stack s H) (hb : Binds X.K fd ps []) (I : Inv X pins σ H s)
    (ha : H a = some (.ins C dx fs)) (q : sp [.ref a] H (fun v H' => ∃ b, v = .bl b ∧ Q b H') E0) (E : Value → Shared → Prop) : wpAny (model X.prog X.w) A (truthy (.ref a)) (TP X pins σ Q) E s := by
  obtain ⟨od, J⟩ := inst_at I ha
  obtain ⟨mm, hF⟩ := I.fr
  refine PySem.W.truthy_K hF I.ok.mod.kin J m.at_ m.fn ?_
  refine wpAny_mono (run_below (us := [.ref a]) (vs := [.ref a]) F hr e0 hb I (.cons rfl .nil) q _) (fun w s' z => ?_) fun _ _ x => x
  obtain ⟨z', H', I', rz, b, ez, qz⟩ := z
  subst ez
  cases (show w = Value.bool b from rz)
  exact ⟨H', I', qz⟩
def rOwnB (C : Addr) (sp : Sp) : List V → Hp → VK → Prop := fun xs H Q => ∃ a dx vs, xs = [.ref a] ∧ H a = some (.ins C dx vs) ∧ sp [.ref a] H (fun v H' => ∃ b, v = .bl b ∧ Q (.bl b) H') E0
theorem bool_own {A : Around} {Q : Value → Shared → Prop} {E : Value → Shared → Prop} {prog : Program} {w : World} {x : Addr} {s : Shared} (h : wpAny (model prog w) A.in1.in1 (truthy (.ref x)) (fun b s₁ => Q (.bool b) s₁) E s) : wpAny (model prog w) A (call (.type "bool") [.ref x]) Q E s := by
  refine ks_callType_codesW (T := "bool") (Bi := Builtin.«object.__init__») (Q₁ := fun r s₁ => ∃ b, r = Value.bool b ∧ Q r s₁) PySem.F.called_bool (wpAny_of_eq (PySem.F.typeCall_bool_1 _)) PySem.F.entry_object_init ?_ ?_
  · refine codeAny_of_tree ?_
    show wpAny _ A.in1.in1 (do checkBuiltinCall "bool.__new__" ⟨[.type "bool", .ref x], []⟩; again (.builtin "bool.__new__" ⟨[.type "bool", .ref x], []⟩)) _ _ s
    refine wpAny_bind (wpAny_of_eq (PySem.F.newCall_bool_1 _) (wpAny_pure ⟨plainId_quiet (by decide +kernel) _, codeAny_builtin PySem.F.entry_bool_new ?_⟩))
    rw [Around.under_plainId (by decide +kernel) _]
    have f1 := F.conv_sub_bool
    have h2 : ∀ {Q' : Bool → Shared → Prop}, (∀ b s₁, Q (.bool b) s₁ → Q' b s₁) → wpAny (model prog w) A.in1.in1 (truthy (.ref x)) Q' E s := fun k => wpAny_mono h k fun _ _ z => z
    obtain ⟨hp, g, d, tk, os⟩ := s
    repeat (any_goals (first | assumption | (with_reducible refine h2 fun b s₁ hq => ?_) | wp_step))
    all_goals first | exact ⟨_, rfl, hq⟩ | skip
  · rintro obj s₁ ⟨b, rfl, hq⟩
    exact ⟨by first | exact typeIs_bool _ _ | rfl, PySem.F.args_object_init_2 _ _, object_init_meets PySem.F.called_bool.init.lookup PySem.F.called_bool.made (by decide) prog w A.in1 _ s₁ ⟨by first | exact typeIs_bool _ _ | rfl, rfl, hq⟩⟩
theorem call_ownB (m : OwnM X.K C "__bool__" g) (F : FnOk X.prog X.w X.K X.mg X.base (L2.CX X.prog X.w) k g fd ps sp) (hr : Room (k + 2) X.A) (hb : Binds X.K fd ps []) : CallR X (.type "bool") (rOwnB C sp) := by
  intro pins s σ H xs us Q I r h
  obtain ⟨a, dx, vs, rfl, ha, q⟩ := h
  obtain ⟨u, rfl, ru⟩ := vals1 r
  cases (show u = Value.ref a from ru)
  refine bool_own (wpAny_mono (truthy_own (Q := fun b H' => Q (.bl b) H') m F (show Room k X.A.in1.in1 from (show Room (k + 1) X.A.in1 from hr.in1).in1) I.env0.in1.in1 hb I ha q _) (fun b s' z => ?_) fun _ _ x => x)
  obtain ⟨H', I', qz⟩ := z
  exact ⟨.bl b, H', I', rfl, qz⟩
/-- a test that is such an object -/
theorem pt_own {e : Expr} {te : TE} (he : PE X e te) (m : OwnM X.K C "__bool__" g) (F : FnOk X.prog X.w X.K X.mg X.base (L2.CX X.prog X.w) k g fd ps sp) (hr : Room k X.A) (hb : Binds X.K fd ps [])
    (hw : ∀ whole, isTrue e X.env whole = (do let v ← whole; standAt e.pos; holding [v] (truthy v)) := by intro _; rfl) :
    PT X e (fun σ H Q => te σ H fun x H1 => ∃ a dx vs, x = .ref a ∧ H1 a = some (.ins C dx vs) ∧ sp [.ref a] H1 (fun v H' => ∃ b, v = .bl b ∧ Q b H') E0) := by
  refine ⟨fun pins s σ H Q I h => ?_⟩
  refine isTrue_plain (thn (he.run pins s σ H _ I h) fun v s1 ⟨x, H1, I1, r1, a, dx, vs, ex, ha, q⟩ => ?_) (hw _)
  subst ex
  cases (show v = Value.ref a from r1)
  exact truthy_own m F hr I1.env0 hb I1 ha q _
/-- C.m(..), m a classmethod -/
def tCMethS (C : Addr) (sp : Sp) (E : L2.St → XK) (ta : TE) (t : TA) : TE := fun σ H Q => ta σ H fun x H1 => x = .ref C ∧ t σ H1 fun vs H2 => sp (.ref C :: vs) H2 Q (E σ)
theorem pe_cmethS {o e : Expr} {es : List Expr} {m : Str} {apos pos : Pos} {ta : TE} {t : TA} {pl : Sem Bool} {mc : Value} {p : Addr} {CX : CXT} {E : L2.St → XK} (he : PE X o ta) (r : ClX.CRead X.K C mc) (c : ClX.CMet X.K C mc m p g) (F : FnOk X.prog X.w X.K X.mg X.base CX k g fd ps sp) (hr : Room k X.A) (hb : Binds X.K fd ps [])
    (hx : ∀ σ, PassesAt CX X σ (E σ)) (ha : PA X (e :: es) t)
    (hst : starEach (e :: es) X.env = (false, eval e X.env) :: starEach es X.env := by rfl) (hpl : (backTo pos (starEach es X.env)).any (·.1) = false := by rfl)
    (ht : eval (.Call (.Attribute o m apos) (e :: es) [] pos) X.env = (do
      let ov ← eval o X.env
      standAt apos.atName
      let (f, first) ← holding [ov] (getMethod ov m pl)
      callWith pos f first (backTo pos (starEach (e :: es) X.env)) (backToKw pos (keywordEach [] X.env))) := by rfl) :
    PE X (.Call (.Attribute o m apos) (e :: es) [] pos) (tCMethS C sp E ta t) := by
  refine ⟨fun pins s σ H Q I h => ?_⟩
  refine PySem.W.methodCall_KW (pl := pl) (thn (he.run pins s σ H _ I h) fun u s1 ⟨x, H1, I1, rx, ex, q⟩ => ?_) ht
  subst ex
  obtain rfl : u = Value.ref C := rx
  refine ClX.getmethcm_ok I1 r c fun s2 I2 => ?_
  refine ClX.callwith_cm I2 (ClX.base_none I1 (Nat.le_refl _)) c.fi (thn (ha.run pos _ s2 σ H1 _ I2 q) fun us s3 ⟨vs, H2, I3, rv, q2⟩ => ⟨⟨ClX.pin_at I3, I3.kIn⟩, ?_⟩) hst hpl
  have hl : (Value.ref C :: us).length = ps.length := by
    have e := (show Vals (V.ref C :: vs) (Value.ref C :: us) from .cons rfl rv).length
    rw [← e]
    exact F.len _ _ _ _ q2
  have b := hb s3 (Value.ref C :: us) I3.kIn (by rw [List.append_nil]; exact hl)
  rw [List.append_nil] at b
  have z : wpAny (model X.prog X.w) X.A (call (.ref s1.heap.objs.size) us) (EP X ((s1.heap.objs.size, PySem.W.methodObj (.ref g) (.ref C)) :: pins) σ Q) X.xe s3 := by
    refine wpAny_call (PySem.W.method_call (ClX.pin_at I3) (codeAny_mono (F.run X.A X.stack s3 H2 ⟨.ref C :: us, []⟩ (.ref C :: us) (.ref C :: vs) Q (E σ) hr I3.env0 b (.cons rfl rv) q2) fun r s' hq => ?_))
    cases r with
    | error e => exact hx σ _ H2 s3 e s' I3 hq
    | ok fl =>
      cases fl with
      | ret u => exact I3.after hq
      | next => exact False.elim hq
      | brk => exact False.elim hq
      | cont => exact False.elim hq
  exact thn z fun _ _ y => ClX.unpinE y
end

section
variable {F : Fx} {ρ : Ty} {ω w w1 w2 wc wc' : Ow} {e o : Expr} {es : List Expr} {A B R S : Rl} {Rs : List Rl} {P : Er} {pos p apos : Pos} {x m : Str} {k : Nat} {f C g pc : Addr} {fd : FuncData} {ps : List Str} {pre : Pre} {fs gs : List (Str × Rl)} {b : Bool}
theorem mk1 {v : V} {H : Hp} (h : R.r v H) : All2 [R] [v] H := ⟨h, trivial⟩
theorem mk2 {u v : V} {H : Hp} (h : R.r u H) (h' : S.r v H) : All2 [R, S] [u, v] H := ⟨h, h', trivial⟩
theorem mkc {v : V} {vs : List V} {H : Hp} (h : R.r v H) (h' : All2 Rs vs H) : All2 (R :: Rs) (v :: vs) H := ⟨h, h'⟩
theorem sp_ok0 {vs : List V} {G H : Hp} {Q : VK} (at_ : At F w G H) (hv : All2 Rs vs G) (hp : pre Rs [] (.ok R) []) (q : ∀ v G2 H2, Same G G2 → At F w G2 H2 → R.r v G2 → Q v H2) {E : XK} : spM pre vs H Q E := sp_ok (wc := []) (w := w) at_ hv hp rfl q
theorem bop_own {op : Operator} (hp : pre [rIns C fs, rIns C gs] [] (.ok R) []) (Fn : FnOk F.X.prog F.X.w F.X.K F.X.mg F.X.base (L2.CX F.X.prog F.X.w) k g fd ps (spM pre)) (c : ClsX F.X.K C) (m : OwnM F.X.K C (PySem.dunder op.info.2) g) (hr : Room k F.X.A) (hb : Binds F.X.K fd ps []) :
    Bop F w (binaryOp op) (rIns C fs) (rIns C gs) R := ⟨_, op_own2 c m Fn hr hb, fun x y G H at_ hx hy Q q => by
  obtain ⟨a, dx, vs, rfl, h1, h2⟩ := id hx
  obtain ⟨b, dy, ws, rfl, h3, h4⟩ := id hy
  exact ⟨a, dx, vs, b, dy, ws, rfl, rfl, at_.gh _ _ h1, at_.gh _ _ h3, sp_ok0 at_ (mk2 hx hy) hp q⟩⟩
theorem uop_own (hp : pre [rIns C fs] [] (.ok R) []) (Fn : FnOk F.X.prog F.X.w F.X.K F.X.mg F.X.base (L2.CX F.X.prog F.X.w) k g fd ps (spM pre)) (m : OwnM F.X.K C "__neg__" g) (hr : Room k F.X.A) (hb : Binds F.X.K fd ps []) :
    Uop F w (unaryOp .USub) (rIns C fs) R := ⟨_, op_own1 m Fn hr hb, fun x G H at_ hx Q q => by
  obtain ⟨a, dx, vs, rfl, h1, h2⟩ := id hx
  exact ⟨a, dx, vs, rfl, at_.gh _ _ h1, sp_ok0 at_ (mk1 hx) hp q⟩⟩
/-- the type of what is compared with -/
def TyR (K : PySem.W.Frag) (B : Rl) (t : Value) : Prop := ∀ v G H, Same G H → B.r v G → TyE K H v t
theorem tyr_ins {K : PySem.W.Frag} : TyR K (rIns C fs) (.ref C) := fun v G H s h => by
  obtain ⟨a, dx, vs, rfl, h1, h2⟩ := h
  exact .ins (s _ _ h1)
theorem bop_ownE {t : Value} (hp : pre [rIns C fs, B] [] (.ok R) []) (ht : TyR F.X.K B t) (hn : PySem.W.notFirst F.X.K C t = true) (Fn : FnOk F.X.prog F.X.w F.X.K F.X.mg F.X.base (L2.CX F.X.prog F.X.w) k g fd ps (spM pre)) (m : OwnM F.X.K C "__eq__" g) (hr : Room k F.X.A) (hb : Binds F.X.K fd ps []) :
    Bop F w (compareOp .Eq) (rIns C fs) B R := ⟨_, op_ownE m Fn hr hb, fun x y G H at_ hx hy Q q => by
  obtain ⟨a, dx, vs, rfl, h1, h2⟩ := id hx
  exact ⟨a, dx, vs, t, rfl, at_.gh _ _ h1, ht y G H at_.gh hy, hn, sp_ok0 at_ (mk2 hx hy) hp q⟩⟩
theorem cop_ownB (hp : pre [rIns C fs] [] (.ok (rBool b)) []) (Fn : FnOk F.X.prog F.X.w F.X.K F.X.mg F.X.base (L2.CX F.X.prog F.X.w) k g fd ps (spM pre)) (m : OwnM F.X.K C "__bool__" g) (hr : Room (k + 2) F.X.A) (hb : Binds F.X.K fd ps []) :
    Cop F w (.type "bool") [rIns C fs] (rBool b) := ⟨_, call_ownB m Fn hr hb, fun xs G H at_ hx Q q => by
  obtain ⟨x, rfl, hx1⟩ := all1 hx
  obtain ⟨a, dx, vs, rfl, h1, h2⟩ := id hx1
  exact ⟨a, dx, vs, rfl, at_.gh _ _ h1, sp_ok0 (Rs := [rIns C fs]) at_ (mk1 hx1) hp fun v G2 H2 s a2 r => ⟨b, r, q _ G2 H2 s a2 rfl⟩⟩⟩
theorem tr_own (he : ER F ρ ω e (rIns C fs) w) (hp : pre [rIns C fs] [] (.ok (rBool b)) []) (Fn : FnOk F.X.prog F.X.w F.X.K F.X.mg F.X.base (L2.CX F.X.prog F.X.w) k g fd ps (spM pre)) (m : OwnM F.X.K C "__bool__" g) (hr : Room k F.X.A) (hb : Binds F.X.K fd ps [])
    (hw : ∀ whole, isTrue e F.X.env whole = (do let v ← whole; standAt e.pos; holding [v] (truthy v)) := by intro _; rfl) : TR F ρ ω e b w := fun σ G H at_ sl Q q => by
  refine tw_of (pt_own pe_w m Fn hr hb hw) (he σ G H at_ sl _ fun v G2 H2 s a r => ?_)
  obtain ⟨x, dx, vs, rfl, h1, h2⟩ := id r
  exact ⟨x, dx, vs, rfl, a.gh _ _ h1, sp_ok0 (Rs := [rIns C fs]) a (mk1 r) hp fun v G3 H3 s3 a3 r3 => ⟨b, r3, q G3 H3 (s.trans s3) a3⟩⟩
theorem er_cmeth {mc : Value} {pl : Sem Bool} (ho : ER F ρ ω o (rRef C) w1) (ha : AR F ρ w1 (e :: es) Rs w) (hp : pre (rRef C :: Rs) [] (.ok R) []) (Fn : FnOk F.X.prog F.X.w F.X.K F.X.mg F.X.base (L2.CX F.X.prog F.X.w) k g fd ps (spM pre)) (hr : Room k F.X.A) (r : ClX.CRead F.X.K C mc) (c : ClX.CMet F.X.K C mc m pc g) (hb : Binds F.X.K fd ps [])
    (hst : starEach (e :: es) F.X.env = (false, eval e F.X.env) :: starEach es F.X.env := by rfl) (hpl : (backTo pos (starEach es F.X.env)).any (·.1) = false := by rfl)
    (ht : eval (.Call (.Attribute o m apos) (e :: es) [] pos) F.X.env = (do
      let ov ← eval o F.X.env
      standAt apos.atName
      let (f, first) ← holding [ov] (getMethod ov m pl)
      callWith pos f first (backTo pos (starEach (e :: es) F.X.env)) (backToKw pos (keywordEach [] F.X.env))) := by rfl) : ER F ρ ω (.Call (.Attribute o m apos) (e :: es) [] pos) R w := fun σ G H at_ sl Q q => by
  refine ew_of (pe_cmethS pe_w r c Fn hr hb passW pa_w hst hpl ht) (ho σ G H at_ sl _ fun v G1 H1 s1 a1 r1 => ⟨r1, ha σ G1 H1 a1 (sl.up s1) _ fun vs G2 H2 s2 a2 r2 => ?_⟩)
  exact sp_ok0 (Rs := rRef C :: Rs) a2 (mkc rfl r2) hp fun v G3 H3 s3 a3 r3 => q v G3 H3 ((s1.trans s2).trans s3) a3 r3
/-- isinstance(x, C) -/
theorem cop_isIns (c : ClsX F.X.K C) : Cop F w (.builtin "isinstance") [rIns C fs, rRef C] (rBool true) := ⟨_, call_isi, fun xs G H at_ hx Q q => by
  obtain ⟨x, y, rfl, hx1, hy⟩ := all2 hx
  cases (show y = V.ref C from hy)
  obtain ⟨a, dx, vs, rfl, h1, h2⟩ := id hx1
  exact ⟨_, _, .ref C, .ref C, true, rfl, .own C, .base (.ins (at_.gh _ _ h1) c.cls c.ca c.cn c.ct c.cm), (by unfold PySem.W.kitOne; rw [if_pos (by simp)]), q _ G H (Same.refl _) at_ rfl⟩⟩
theorem cop_isNot {t : V} {tv : Value} (ht : (∃ i, t = .int i ∧ tv = .type "int") ∨ (∃ z, t = .str z ∧ tv = .type "str") ∨ (∃ k, t = .bl k ∧ tv = .type "bool") ∨ (t = .non ∧ tv = .type "NoneType")) (hk : PySem.W.kitOne F.X.K tv (.ref C) = some b) : Cop F w (.builtin "isinstance") [rEqV t, rRef C] (rBool b) := ⟨_, call_isi, fun xs G H at_ hx Q q => by
  obtain ⟨x, y, rfl, hx1, hy⟩ := all2 hx
  cases (show y = V.ref C from hy)
  cases (show x = t from hx1)
  refine ⟨_, _, tv, .ref C, b, rfl, .own C, .base ?_, hk, q _ G H (Same.refl _) at_ rfl⟩
  rcases ht with ⟨i, rfl, rfl⟩ | ⟨z, rfl, rfl⟩ | ⟨z, rfl, rfl⟩ | ⟨rfl, rfl⟩
  · exact .int i
  · exact .str z
  · exact .bl z
  · exact .non⟩
end
end W1
set_option maxRecDepth 100000
set_option maxHeartbeats 2000000
namespace W1
open PySem PySem.Spec PyProof.Rows L2

/-! ### list comprehensions -/
def wipeT (ρ : Ty) : List Nat → Ty
  | [] => ρ
  | v :: vs => (wipeT ρ vs).set v none
theorem Slots.wipe {ρ : Ty} {σ : L2.St} {G : Hp} (s : Slots ρ σ G) : ∀ vs : List Nat, Slots (wipeT ρ vs) (L2.wipe σ vs) G
  | [] => s
  | v :: vs => (Slots.wipe s vs).gone v
/-- a comprehension's target -/
def GEw (g : TG) (vs : List Nat) (ρ : Ty) (S : Rl) (ρ' : Ty) : Prop :=
  ∀ v σ G H (Q : L2.St → Hp → Prop), Same G H → Slots ρ σ G → S.r v G → (∀ σ2, L2.wipe σ2 vs = L2.wipe σ vs → Slots ρ' σ2 G → Q σ2 H) → g v (L2.wipe σ vs) H Q
theorem gew_name {i : Nat} {ρ : Ty} {S : Rl} : GEw (gName i) [i] ρ S ((ρ.set i none).set i (some S)) := fun v σ G H Q s sl r q =>
  q _ (by show ((σ.set i none).set i (some v)).set i none = σ.set i none; rw [List.set_set, List.set_set]) ((sl.gone i).set i r)
def oL (Rs : List Rl) : Ol := ⟨fun o G => ∃ vs, o = .lst vs ∧ All2 Rs vs G, fun _ _ _ e ⟨vs, a, b⟩ => ⟨vs, a, b.up e⟩⟩
/-- a block's context -/
abbrev blkF (F : Fx) (s : Shared) (H : Hp) (scope : Scope) (C : Addr) (cl : List (Str × Addr)) (fp : List Addr) : Fx :=
  ⟨F.X.blk s H scope (compEnvC scope cl C F.X.env) fp, F.G0, F.H0, F.M, fun _ _ _ _ => False, fun _ _ ⟨_, _, _, _, _, _, _, _, _, _, _, _, _, _, _, _, z⟩ => z.elim⟩
theorem At.to {F F' : Fx} {ω : Ow} {G H : Hp} (a : At F ω G H) (h1 : F'.G0 = F.G0 := by rfl) (h2 : F'.H0 = F.H0 := by rfl) (h3 : F'.M = F.M := by rfl) : At F' ω G H := by
  obtain ⟨X, G0, H0, M, W, tk⟩ := F
  obtain ⟨X', G0', H0', M', W', tk'⟩ := F'
  dsimp only at h1 h2 h3
  subst h1 h2 h3
  exact ⟨a.gg, a.hh, a.gh, a.fr, a.mm, a.ow, a.nd⟩
section
variable {F : Fx} {ρ : Ty} {ω w1 : Ow} {tg it elt c : Expr} {pos spos : Pos} {scope : Scope} {own : List (Str × Nat)} {g : TG} {ifs : List Expr} {α : Type}
theorem lc_gen {xs : List α} {A B : α → Rl} {p : α → Bool} {wi : TI} {tt : TT} {ρ' : α → Ty}
    (hwi : ∀ σ G H, At F ω G H → Slots ρ σ G → ∀ R : It → Hp → Prop, (∀ J G2 H2, Same G G2 → At F w1 G2 H2 → Yld J (xs.map A) G2 → R J H2) → wi σ H R) (hz : xs.length ≤ 100000)
    (hge : ∀ (i : Nat) a, xs[i]? = some a → GEw g (own.map (·.2)) ρ (A a) (ρ' a))
    (htt : ∀ (i : Nat) a, xs[i]? = some a → ∀ d σ2 G H, At F (d :: w1) G H → Slots (ρ' a) σ2 G → ∀ Q : Bool → Hp → Prop, (∀ G3 H3, Same G G3 → At F (d :: w1) G3 H3 → Q (p a) H3) → tt σ2 H Q)
    (he : ∀ (i : Nat) a, xs[i]? = some a → p a = true → ∀ s H0 C cl fp d, ER (blkF F s H0 scope C cl fp) (ρ' a) (d :: w1) elt (B a) (d :: w1))
    {σ : L2.St} {G H : Hp} (at_ : At F ω G H) (sl : Slots ρ σ G) {Q : VK} (q : ∀ v G2 H2, Same G G2 → At F w1 G2 H2 → (rLst ((xs.filter p).map B)).r v G2 → Q v H2) :
    tLc wi g tt (fun σ H Q => ∀ s H0 C cl fp, EW (F.X.blk s H0 scope (compEnvC scope cl C F.X.env) fp) elt σ H Q) (own.map (·.2)) σ H Q := by
  refine hwi σ G H at_ sl _ fun J G2 H2 s2 a2 y2 => fun D hD => ?_
  have hM : D ∉ F.M := fun hm => a2.mm D hm hD
  refine ⟨fun i m H => m = xs.length - i ∧ i ≤ xs.length ∧ ∃ G, At F ((D, oL (((xs.take i).filter p).map B)) :: w1) G H ∧ Same G2 G, ⟨xs.length, by simp, Nat.zero_le _, G2, a2.own hD ⟨[], rfl, trivial⟩, Same.refl _⟩, ?_⟩
  rintro i m H1 ⟨rfl, hi, G1, a1, s1⟩
  have hlen : (xs.map A).length = xs.length := List.length_map _
  by_cases hlt : i < xs.length
  · have hgo : xs[i]? = some xs[i] := List.getElem?_eq_getElem hlt
    have htake : xs.take (i + 1) = xs.take i ++ [xs[i]] := by rw [List.take_add_one, hgo]; rfl
    refine .inr ⟨y2.go i G1 H1 s1 a1.gh (by rw [hlen]; exact hlt), fun H' => ∃ G, At F ((D, oL (((xs.take (i + 1)).filter p).map B)) :: w1) G H' ∧ Same G2 G, fun H' z => ⟨xs.length - (i + 1), by omega, rfl, hlt, z⟩, fun x H' y => ?_⟩
    obtain ⟨G3, st, rx⟩ := y2.yld i (A xs[i]) G1 H1 x H' s1 a1.gh (by rw [List.getElem?_map, hgo]; rfl) y
    have a3 := a1.step st
    have s3 := s1.trans st.gg
    refine hge i _ hgo x σ G3 H' _ a3.gh ((sl.up s2).up s3) rx fun σ2 hw sl2 => ⟨hw, htt i _ hgo _ σ2 G3 H' a3 sl2 _ fun G4 H4 s4 a4 => ?_⟩
    cases hp : p xs[i] with
    | false =>
      refine iteF ⟨G4, ?_, s3.trans s4⟩
      rw [htake, List.filter_append, List.filter_cons, hp]
      simp only [Bool.false_eq_true, if_false, List.filter_nil, List.append_nil]
      exact a4
    | true =>
      refine iteT fun s H0 C cl fp => he i _ hgo hp s H0 C cl fp _ σ2 G4 H4 a4.to (sl2.up s4) _ fun v G5 H5 s5 a5' r5 => ?_
      have a5 : At F ((D, oL (((xs.take i).filter p).map B)) :: w1) G5 H5 := a5'.to
      obtain ⟨_, _, o, h1, vs, rfl, h2⟩ := a5.ow _ List.mem_cons_self
      have hl2 : vs.length ≤ xs.length := by
        rw [← h2.len, List.length_map]
        exact Nat.le_trans (List.length_filter_le _ _) (List.length_take_le _ _ |> fun z => Nat.le_trans z hi)
      refine ⟨vs, h1, Nat.lt_of_le_of_lt (Nat.le_trans hl2 hz) (by decide), G5, ?_, (s3.trans s4).trans s5⟩
      rw [htake, List.filter_append, List.filter_cons, hp]
      simp only [if_true, List.filter_nil, List.map_append, List.map_cons, List.map_nil]
      exact a5.chg ⟨_, rfl, h2.app (mk1 r5)⟩
  · have e : i = xs.length := by omega
    subst e
    refine .inl ⟨by have := y2.stop G1 H1 s1 a1.gh; rw [hlen] at this; exact this, ?_⟩
    rw [List.take_length] at a1
    obtain ⟨hg0, _, o, h1, vs, rfl, h2⟩ := a1.ow _ List.mem_cons_self
    have a5 := a1.pub h1 (At.own0 a1 hM)
    have sg : Same G1 (upd G1 D (.lst vs)) := fun b u e => by rw [upd_ne (ne_of_none e hg0)]; exact e
    exact q _ _ _ ((s2.trans s1).trans sg) a5 ⟨D, vs, rfl, upd_same, h2.up sg⟩
theorem filt_true {xs : List α} : xs.filter (fun _ => true) = xs := by
  induction xs with
  | nil => rfl
  | cons a l ih => rw [List.filter_cons, if_pos rfl, ih]
/-- [elt for tg in it] -/
theorem er_lc {xs : List α} {A B : α → Rl} {ρ' : α → Ty} (hit : IT F ρ ω tg it (xs.map A) w1) (hz : xs.length ≤ 100000) (own : List (Str × Nat)) (ok : BlkOk F.X.N F.X.env.scope scope own)
    (hpg : ∀ (s : Shared) (H : Hp) (C : Addr) (cl : List (Str × Addr)) (fp : List Addr), PG (F.X.blk s H scope (compEnvC scope cl C F.X.env) fp) tg g) (hge : ∀ (i : Nat) a, xs[i]? = some a → GEw g (own.map (·.2)) ρ (A a) (ρ' a))
    (he : ∀ (i : Nat) a, xs[i]? = some a → ∀ s H0 C cl fp d, ER (blkF F s H0 scope C cl fp) (ρ' a) (d :: w1) elt (B a) (d :: w1))
    (hN : F.X.N.Nodup) (hc : F.X.calm = true := by rfl) (hs : ∀ z, foldedSetIterable it F.X.env z = pure z := by intro _; rfl) : ER F ρ ω (.ListComp elt [⟨tg, it, [], 0⟩] scope pos) (rLst (xs.map B)) w1 := fun σ G H at_ sl Q q => by
  obtain ⟨wi, hpi, hwi⟩ := hit
  refine ew_of (pe_lc hc hN hpi ok hpg (fun _ _ _ _ _ => pts_nil) (te := fun σ H Q => ∀ s H0 C cl fp, EW (F.X.blk s H0 scope (compEnvC scope cl C F.X.env) fp) elt σ H Q) (fun _ _ _ _ _ => ⟨fun pins s σ H Q I h => h _ _ _ _ _ pins s I⟩) hs) ?_
  refine lc_gen (p := fun _ => true) (tt := tYes) hwi hz hge (fun i a h d σ2 G H a1 s1 Q q => q G H (Same.refl _) a1) (fun i a h _ => he i a h) at_ sl fun v G2 H2 s2 a2 r2 => q v G2 H2 s2 a2 ?_
  rw [filt_true] at r2
  exact r2
/-- [elt for tg in it if c] -/
theorem er_lcf {xs : List α} {A B : α → Rl} {p : α → Bool} {ρ' : α → Ty} (hit : IT F ρ ω tg it (xs.map A) w1) (hz : xs.length ≤ 100000) (own : List (Str × Nat)) (ok : BlkOk F.X.N F.X.env.scope scope own)
    (hpg : ∀ (s : Shared) (H : Hp) (C : Addr) (cl : List (Str × Addr)) (fp : List Addr), PG (F.X.blk s H scope (compEnvC scope cl C F.X.env) fp) tg g) (hge : ∀ (i : Nat) a, xs[i]? = some a → GEw g (own.map (·.2)) ρ (A a) (ρ' a))
    (ht : ∀ (i : Nat) a, xs[i]? = some a → ∀ s H0 C cl fp d, TR (blkF F s H0 scope C cl fp) (ρ' a) (d :: w1) c (p a) (d :: w1))
    (he : ∀ (i : Nat) a, xs[i]? = some a → p a = true → ∀ s H0 C cl fp d, ER (blkF F s H0 scope C cl fp) (ρ' a) (d :: w1) elt (B a) (d :: w1))
    (hN : F.X.N.Nodup) (hc : F.X.calm = true := by rfl) (hs : ∀ z, foldedSetIterable it F.X.env z = pure z := by intro _; rfl) : ER F ρ ω (.ListComp elt [⟨tg, it, [c], 0⟩] scope pos) (rLst ((xs.filter p).map B)) w1 := fun σ G H at_ sl Q q => by
  obtain ⟨wi, hpi, hwi⟩ := hit
  refine ew_of (pe_lc hc hN hpi ok hpg (fun _ _ _ _ _ => pts_one (t := fun σ H Q => ∀ s H0 C cl fp, TW (F.X.blk s H0 scope (compEnvC scope cl C F.X.env) fp) c σ H Q) ⟨fun pins s σ H Q I h => h _ _ _ _ _ pins s I⟩) (te := fun σ H Q => ∀ s H0 C cl fp, EW (F.X.blk s H0 scope (compEnvC scope cl C F.X.env) fp) elt σ H Q) (fun _ _ _ _ _ => ⟨fun pins s σ H Q I h => h _ _ _ _ _ pins s I⟩) hs) ?_
  exact lc_gen hwi hz hge (fun i a h d σ2 G H a1 s1 Q q => fun s H0 C cl fp => ht i a h s H0 C cl fp d σ2 G H a1.to s1 Q fun G3 H3 s3 a3 => q G3 H3 s3 a3.to) (fun i a h hp => he i a h hp) at_ sl q
theorem hb_setLcf {K : Kn} {rest : List Stmt} {y : Str} {py : Pos} {xs : List α} {A B : α → Rl} {p : α → Bool} {ρ' : α → Ty} (j : Nat) (hit : IT F ρ ω tg it (xs.map A) w1) (hz : xs.length ≤ 100000) (own : List (Str × Nat)) (ok : BlkOk F.X.N F.X.env.scope scope own)
    (hpg : ∀ (s : Shared) (H : Hp) (C : Addr) (cl : List (Str × Addr)) (fp : List Addr), PG (F.X.blk s H scope (compEnvC scope cl C F.X.env) fp) tg g) (hge : ∀ (i : Nat) a, xs[i]? = some a → GEw g (own.map (·.2)) ρ (A a) (ρ' a))
    (ht : ∀ (i : Nat) a, xs[i]? = some a → ∀ s H0 C cl fp d, TR (blkF F s H0 scope C cl fp) (ρ' a) (d :: w1) c (p a) (d :: w1))
    (he : ∀ (i : Nat) a, xs[i]? = some a → p a = true → ∀ s H0 C cl fp d, ER (blkF F s H0 scope C cl fp) (ρ' a) (d :: w1) elt (B a) (d :: w1)) (h : HB F (ρ.set j (some (rLst ((xs.filter p).map B)))) w1 rest K)
    (hN : F.X.N.Nodup) (hsw : swapsWith (.ListComp elt [⟨tg, it, [c], 0⟩] scope pos) (some (.Name y py)) spos.line F.X.env = pure true) (hc : F.X.calm = true := by rfl) (hy : F.X.N[j]? = some y := by rfl) (hyl : F.X.env.scope.names.lookup y = some .local := by rfl) (hs : ∀ z, foldedSetIterable it F.X.env z = pure z := by intro _; rfl) :
    HB F ρ ω (.Assign [.Name y py] (.ListComp elt [⟨tg, it, [c], 0⟩] scope pos) spos :: rest) K := hb_cons fun σ G H D at_ sl ps => by
  obtain ⟨wi, hpi, hwi⟩ := hit
  refine sw_of (ps_setLc hc hN hy hyl hsw hpi ok hpg (fun _ _ _ _ _ => pts_one (t := fun σ H Q => ∀ s H0 C cl fp, TW (F.X.blk s H0 scope (compEnvC scope cl C F.X.env) fp) c σ H Q) ⟨fun pins s σ H Q I h => h _ _ _ _ _ pins s I⟩) (te := fun σ H Q => ∀ s H0 C cl fp, EW (F.X.blk s H0 scope (compEnvC scope cl C F.X.env) fp) elt σ H Q) (fun _ _ _ _ _ => ⟨fun pins s σ H Q I h => h _ _ _ _ _ pins s I⟩) hs) ?_
  exact lc_gen hwi hz hge (fun i a h d σ2 G H a1 s1 Q q => fun s H0 C cl fp => ht i a h s H0 C cl fp d σ2 G H a1.to s1 Q fun G3 H3 s3 a3 => q G3 H3 s3 a3.to) (fun i a h hp => he i a h hp) at_ sl fun v G2 H2 s2 a2 r2 => h _ G2 H2 D a2 ((sl.up s2).set j r2) (ps.up s2)
end
end W1
set_option maxRecDepth 100000
set_option maxHeartbeats 2000000
namespace W1Q
open PySem PySem.SeqAt
open AutoSeq1 (wpAny_loadPart')
open MeetsSeq MeetsSeq2 MeetsSeq3 SeqRoads2

/-- all of k answers from the i-th on -/
def allFrom (e : Nat → Bool) : Nat → Nat → Bool
  | _, 0 => true
  | i, k + 1 => e i && allFrom e (i + 1) k
def anyFrom (e : Nat → Bool) : Nat → Nat → Bool
  | _, 0 => false
  | i, k + 1 => e i || anyFrom e (i + 1) k
abbrev lstO (items : Array Value) (n : Nat) : Obj := { cls := .type "list", data := .seq items n }
theorem past {xs : Array Value} {i : Nat} (h : xs.size ≤ i) : xs[((i : Nat) : Int).toNat]? = none := Array.getElem?_eq_none h
theorem here {xs : Array Value} {i : Nat} (h : i < xs.size) : xs[((i : Nat) : Int).toNat]? = some xs[i] := Array.getElem?_eq_getElem h
section
variable {prog : Program} {w : World} {A : Around} {R : Result → Shared → Prop} {l b : Addr} {e : Nat → Bool} {I : Nat → Shared → Prop}
/-- two lists at l and b of N items each; whatever a comparison changes keeps I -/
def Two (prog : Program) (w : World) (A : Around) (E : Value → Shared → Prop) (l b : Addr) (N : Nat) (e : Nat → Bool) (I : Nat → Shared → Prop) : Prop :=
  ∀ i s, I i s → ∃ (xs ys : Array Value) (m n : Nat), s.heap.get? l = some (lstO xs m) ∧ s.heap.get? b = some (lstO ys n) ∧ xs.size = N ∧ ys.size = N ∧
    ∀ (h1 : i < xs.size) (h2 : i < ys.size), wpAny (model prog w) A (eqBool xs[i] ys[i]) (fun r s' => r = e i ∧ I (i + 1) s') E s
def One (prog : Program) (w : World) (A : Around) (E : Value → Shared → Prop) (l : Addr) (x : Value) (N : Nat) (e : Nat → Bool) (I : Nat → Shared → Prop) : Prop :=
  ∀ i s, I i s → ∃ (xs : Array Value) (m : Nat), s.heap.get? l = some (lstO xs m) ∧ xs.size = N ∧ ∀ (h1 : i < xs.size), wpAny (model prog w) A (eqBool xs[i] x) (fun r s' => r = e i ∧ I (i + 1) s') E s
/-- the two comparisons, by one bit: false is ==, true is != -/
def bit (neg : Bool) : Int := if neg then 3 else 2
/-- the comparison's loop, both kinds at once; k items are left -/
theorem cmp_go (neg : Bool) {N : Nat} (T : Two prog w A.in1 (fun v s' => R (.error v) s') l b N e I) : ∀ (k i : Nat), i + k = N → ∀ s, I i s → (∀ j s', I j s' → R (.ok (.ret (.bool (neg != allFrom e i k)))) s') →
    wpAny (model prog w) A.in1 (Builtin.«list.__eq__.loop» ⟨[.ref l, .ref b, rawInt i, rawInt (bit neg)], []⟩) (GQ.FinOf prog w A R) (fun v s' => R (.error v) s') s
  | 0, i, hk, s, h, fin => by
    obtain ⟨xs, ys, m, n, gx, gy, zx, zy, -⟩ := T i s h
    have last := fin i s h
    cases s
    cases neg
    all_goals
      wp_walk using wpAny_loadPart' gx, wpAny_loadPart' gy
      rw [past (by omega : xs.size ≤ i), past (by omega : ys.size ≤ i)]
      wp_walk using wpAny_loadPart' gx, wpAny_loadPart' gy
    · show R (.ok (.ret (.bool (xs.size == ys.size)))) _
      rw [zx, zy, beq_self_eq_true]
      exact last
    · show R (.ok (.ret (.bool (xs.size != ys.size)))) _
      rw [zx, zy, bne_self_eq_false]
      exact last
  | k + 1, i, hk, s, h, fin => by
    obtain ⟨xs, ys, m, n, gx, gy, zx, zy, ask⟩ := T i s h
    have ix : i < xs.size := by omega
    have iy : i < ys.size := by omega
    have asked := ask ix iy
    have goes : e i = true → ∀ s2, I (i + 1) s2 → wpAny (model prog w) A.in1 (Builtin.«list.__eq__.loop» ⟨[.ref l, .ref b, rawInt ((i + 1 : Nat) : Int), rawInt (bit neg)], []⟩) (GQ.FinOf prog w A R) (fun v s' => R (.error v) s') s2 := fun he s2 h2 =>
      cmp_go neg T k (i + 1) (by omega) s2 h2 fun j s' z => by
        have := fin j s' z
        rw [allFrom, he, Bool.true_and] at this
        exact this
    have ends : e i = false → ∀ s2, I (i + 1) s2 → R (.ok (.ret (.bool neg))) s2 := fun he s2 h2 => by
      have := fin _ s2 h2
      rw [allFrom, he, Bool.false_and, Bool.bne_false] at this
      exact this
    have read2 : ∀ s2, I (i + 1) s2 → ∃ (us vs : Array Value) (m' n' : Nat), s2.heap.get? l = some (lstO us m') ∧ s2.heap.get? b = some (lstO vs n') ∧ i < us.size ∧ i < vs.size := fun s2 h2 => by
      obtain ⟨us, vs, m', n', g1, g2, z1, z2, -⟩ := T _ s2 h2
      exact ⟨us, vs, m', n', g1, g2, by omega, by omega⟩
    clear ask fin h
    cases s
    cases neg
    all_goals
      wp_walk using wpAny_loadPart' gx, wpAny_loadPart' gy
      rw [here ix, here iy]
      refine wpAny_bind (wpAny_mono asked (fun r s2 got => ?_) fun _ _ x => x)
      obtain ⟨rfl, h2⟩ := got
      obtain ⟨us, vs, m', n', g1, g2, j1, j2⟩ := read2 s2 h2
      cases he : e i
    all_goals first
      | (have fine := ends he s2 h2
         cases s2
         wp_walk using wpAny_loadPart' g1, wpAny_loadPart' g2
         rw [here j1, here j2]
         wp_walk
         exact fine)
      | (have next := goes he s2 h2
         cases s2
         wp_walk
         refine ⟨plainId_quiet plain_eq_loop _, codeAny_builtin entry_eq_loop ?_⟩
         rw [Around.under_plainId plain_eq_loop _]
         exact next)
/-- x in l: k items are left -/
theorem in_go {x : Value} {N : Nat} (T : One prog w A.in1 (fun v s' => R (.error v) s') l x N e I) : ∀ (k i : Nat), i + k = N → ∀ s, I i s → (∀ j s', I j s' → R (.ok (.ret (.bool (anyFrom e i k)))) s') →
    wpAny (model prog w) A.in1 (Builtin.«list.__contains__.loop» ⟨[.ref l, x, rawInt i], []⟩) (GQ.FinOf prog w A R) (fun v s' => R (.error v) s') s
  | 0, i, hk, s, h, fin => by
    obtain ⟨xs, m, gx, zx, -⟩ := T i s h
    have last := fin i s h
    cases s
    wp_walk using wpAny_loadPart' gx
    rw [past (by omega : xs.size ≤ i)]
    wp_walk
    exact last
  | k + 1, i, hk, s, h, fin => by
    obtain ⟨xs, m, gx, zx, ask⟩ := T i s h
    have ix : i < xs.size := by omega
    have asked := ask ix
    have found : e i = true → ∀ s2, I (i + 1) s2 → R (.ok (.ret (.bool true))) s2 := fun he s2 h2 => by
      have := fin _ s2 h2
      rw [anyFrom, he, Bool.true_or] at this
      exact this
    have goes : e i = false → ∀ s2, I (i + 1) s2 → wpAny (model prog w) A.in1 (Builtin.«list.__contains__.loop» ⟨[.ref l, x, rawInt ((i + 1 : Nat) : Int)], []⟩) (GQ.FinOf prog w A R) (fun v s' => R (.error v) s') s2 := fun he s2 h2 =>
      in_go T k (i + 1) (by omega) s2 h2 fun j s' z => by
        have := fin j s' z
        rw [anyFrom, he, Bool.false_or] at this
        exact this
    clear ask fin h
    cases s
    wp_walk using wpAny_loadPart' gx
    rw [here ix]
    refine wpAny_bind (wpAny_mono asked (fun r s2 got => ?_) fun _ _ x => x)
    obtain ⟨rfl, h2⟩ := got
    cases he : e i
    · have next := goes he s2 h2
      cases s2
      wp_walk
      refine ⟨plainId_quiet plain_contains_loop _, codeAny_builtin entry_contains_loop ?_⟩
      rw [Around.under_plainId plain_contains_loop _]
      exact next
    · have fine := found he s2 h2
      cases s2
      wp_walk
      exact fine
end
section
variable {prog : Program} {w : World} {A : Around} {E : Value → Shared → Prop} {s : Shared} {l b : Addr} {e : Nat → Bool} {I : Nat → Shared → Prop} {Q : Value → Shared → Prop}
/-- what the loop says, as the whole comparison's word -/
theorem cmp_whole (neg : Bool) {N : Nat} (T : Two prog w A.in1 E l b N e I) (h : I 0 s) (fin : ∀ j s', I j s' → Q (.bool (neg != allFrom e 0 N)) s') :
    wpAny (model prog w) A.in1 (Builtin.«list.__eq__.loop» ⟨[.ref l, .ref b, rawInt (0 : Nat), rawInt (bit neg)], []⟩) (GQ.FinOf prog w A (wants (fun v s' => v ≠ .notImplemented ∧ Q v s') E)) (fun v s' => wants (fun v s' => v ≠ .notImplemented ∧ Q v s') E (.error v) s') s :=
  cmp_go neg T N 0 (Nat.zero_add N) s h fun j s' z => ⟨Value.noConfusion, fin j s' z⟩
/-- the call up to the loop, both kinds -/
theorem cmp_call (neg : Bool) {xs ys : Array Value} {m n : Nat} (gx : s.heap.get? l = some (lstO xs m)) (gy : s.heap.get? b = some (lstO ys n)) (sz : xs.size = ys.size)
    (h : wpAny (model prog w) A.in1 (Builtin.«list.__eq__.loop» ⟨[.ref l, .ref b, rawInt (0 : Nat), rawInt (bit neg)], []⟩) (GQ.FinOf prog w A (wants (fun v s' => v ≠ .notImplemented ∧ Q v s') E)) (fun v s' => wants (fun v s' => v ≠ .notImplemented ∧ Q v s') E (.error v) s') s) (hu : A.units < cLine) :
    wpAny (model prog w) A (richCompare (if neg then .NotEq else .Eq) (.ref l) (.ref b)) Q E s := by
  have same : ¬ (xs.size != ys.size) = true := by rw [sz, bne_self_eq_false]; exact Bool.false_ne_true
  have sub := AutoSeq1.sub_list_list
  cases neg
  · refine wpAny_richCompare_same_room ⟨_, gx, rfl⟩ ⟨_, gy, rfl⟩ F.slot_list_eq (GQ.call_here F.slot_list_eq ⟨_, gx, rfl⟩ F.entry_list_eq (F.args_list_eq_2 _ _) ?_) hu
    cases s
    wp_walk using wpAny_loadPart' gx, wpAny_loadPart' gy
    refine ⟨plainId_quiet plain_eq_loop _, codeAny_builtin entry_eq_loop ?_⟩
    rw [Around.under_plainId plain_eq_loop _]
    exact h
  · refine wpAny_richCompare_same_room ⟨_, gx, rfl⟩ ⟨_, gy, rfl⟩ F.slot_list_ne (GQ.call_here F.slot_list_ne ⟨_, gx, rfl⟩ F.entry_list_ne (F.args_list_ne_2 _ _) ?_) hu
    cases s
    wp_walk using wpAny_loadPart' gx, wpAny_loadPart' gy
    refine ⟨plainId_quiet plain_eq_loop _, codeAny_builtin entry_eq_loop ?_⟩
    rw [Around.under_plainId plain_eq_loop _]
    exact h
/-- lists of unlike lengths -/
theorem cmp_unlike (neg : Bool) {xs ys : Array Value} {m n : Nat} (gx : s.heap.get? l = some (lstO xs m)) (gy : s.heap.get? b = some (lstO ys n)) (sz : xs.size ≠ ys.size) (q : Q (.bool neg) s) (hu : A.units < cLine) :
    wpAny (model prog w) A (richCompare (if neg then .NotEq else .Eq) (.ref l) (.ref b)) Q E s := by
  have differ : (xs.size != ys.size) = true := bne_iff_ne.mpr sz
  have sub := AutoSeq1.sub_list_list
  cases neg
  · refine wpAny_richCompare_same_room ⟨_, gx, rfl⟩ ⟨_, gy, rfl⟩ F.slot_list_eq (GQ.call_here F.slot_list_eq ⟨_, gx, rfl⟩ F.entry_list_eq (F.args_list_eq_2 _ _) ?_) hu
    cases s
    wp_walk using wpAny_loadPart' gx, wpAny_loadPart' gy
    exact ⟨Value.noConfusion, q⟩
  · refine wpAny_richCompare_same_room ⟨_, gx, rfl⟩ ⟨_, gy, rfl⟩ F.slot_list_ne (GQ.call_here F.slot_list_ne ⟨_, gx, rfl⟩ F.entry_list_ne (F.args_list_ne_2 _ _) ?_) hu
    cases s
    wp_walk using wpAny_loadPart' gx, wpAny_loadPart' gy
    exact ⟨Value.noConfusion, q⟩
theorem rc_any (neg : Bool) (hu : A.units < cLine) {N : Nat} (T : Two prog w A.in1 E l b N e I) (h : I 0 s) (fin : ∀ j s', I j s' → Q (.bool (neg != allFrom e 0 N)) s') : wpAny (model prog w) A (richCompare (if neg then .NotEq else .Eq) (.ref l) (.ref b)) Q E s := by
  obtain ⟨xs, ys, m, n, gx, gy, zx, zy, -⟩ := T 0 s h
  exact cmp_call neg gx gy (zx.trans zy.symm) (cmp_whole neg T h fin) hu
theorem rc_list (hu : A.units < cLine) {N : Nat} (T : Two prog w A.in1 E l b N e I) (h : I 0 s) (fin : ∀ j s', I j s' → Q (.bool (allFrom e 0 N)) s') : wpAny (model prog w) A (richCompare .Eq (.ref l) (.ref b)) Q E s :=
  rc_any false hu T h fun j s' z => by rw [Bool.false_bne]; exact fin j s' z
theorem rcn_list (hu : A.units < cLine) {N : Nat} (T : Two prog w A.in1 E l b N e I) (h : I 0 s) (fin : ∀ j s', I j s' → Q (.bool (!allFrom e 0 N)) s') : wpAny (model prog w) A (richCompare .NotEq (.ref l) (.ref b)) Q E s :=
  rc_any true hu T h fun j s' z => by rw [Bool.true_bne]; exact fin j s' z
theorem rc_listL (hu : A.units < cLine) {xs ys : Array Value} {m n : Nat} (gx : s.heap.get? l = some (lstO xs m)) (gy : s.heap.get? b = some (lstO ys n)) (sz : xs.size ≠ ys.size) (q : Q (.bool false) s) : wpAny (model prog w) A (richCompare .Eq (.ref l) (.ref b)) Q E s := cmp_unlike false gx gy sz q hu
theorem rcn_listL (hu : A.units < cLine) {xs ys : Array Value} {m n : Nat} (gx : s.heap.get? l = some (lstO xs m)) (gy : s.heap.get? b = some (lstO ys n)) (sz : xs.size ≠ ys.size) (q : Q (.bool true) s) : wpAny (model prog w) A (richCompare .NotEq (.ref l) (.ref b)) Q E s := cmp_unlike true gx gy sz q hu
/-- x in l -/
theorem contains_list {x : Value} {N : Nat} {Qb : Bool → Shared → Prop} (T : One prog w A.in1 E l x N e I) (h : I 0 s) (fin : ∀ j s', I j s' → Qb (anyFrom e 0 N) s') : wpAny (model prog w) A (contains (.ref l) x) Qb E s := by
  obtain ⟨xs, m, gx, zx, -⟩ := T 0 s h
  have tell : wpAny (model prog w) A.in1 (Builtin.«list.__contains__.loop» ⟨[.ref l, x, rawInt (0 : Nat)], []⟩) (GQ.FinOf prog w A (wants (fun v s' => ∃ r, v = .bool r ∧ Qb r s') E)) (fun v s' => wants (fun v s' => ∃ r, v = .bool r ∧ Qb r s') E (.error v) s') s :=
    in_go T N 0 (Nat.zero_add N) s h fun j s' z => ⟨_, rfl, fin j s' z⟩
  have asked : wpAny (model prog w) A (call (.builtin "list.__contains__") [.ref l, x]) (fun v s' => ∃ r, v = .bool r ∧ Qb r s') E s := by
    refine GQ.call_here F.slot_list_contains ⟨_, gx, rfl⟩ F.entry_list_contains (F.args_list_contains_2 _ _) ?_
    cases s
    wp_walk using wpAny_loadPart' gx
    refine ⟨plainId_quiet plain_contains_loop _, codeAny_builtin entry_contains_loop ?_⟩
    rw [Around.under_plainId plain_contains_loop _]
    exact tell
  refine wpAny_contains_slot ⟨_, gx, rfl⟩ F.slot_list_contains (wpAny_mono asked (fun v s' got => ?_) fun _ _ x => x)
  obtain ⟨r, rfl, q⟩ := got
  exact wpAny_truthy_bool q
end
end W1Q
set_option maxRecDepth 100000
set_option maxHeartbeats 2000000
namespace W1
open PySem PySem.Spec PyProof.Rows L2

/-! ### == inside built-ins -/
structure Below (X : Cx) (n : Nat) (A : Around) : Prop where
  room : Room n A
  fr : A.frames = X.A.frames
theorem Below.in1 {X : Cx} {n : Nat} {A : Around} (s : Below X (n + 1) A) : Below X n A.in1 := ⟨s.room.in1, s.fr⟩
theorem Below.mono {X : Cx} {n m : Nat} {A : Around} (s : Below X n A) (h : m ≤ n) : Below X m A := ⟨s.room.mono h, s.fr⟩
theorem Below.env {X : Cx} {n : Nat} {A : Around} {pins : List (Addr × Obj)} {σ : L2.St} {H : Hp} {s : Shared} (b : Below X n A) (I : Inv X pins σ H s) : Env0 X.prog X.w X.K X.mg X.base A X.stack s H := by
  have e := I.env0
  exact ⟨by rw [b.fr]; exact e.frames, e.mod, e.bs, e.bsz, e.funs, e.frf, e.hok, e.bare⟩
def EqB (X : Cx) (n : Nat) (A B : Rl) (b : Bool) : Prop :=
  ∀ (A' : Around) (pins : List (Addr × Obj)) (s : Shared) (σ : L2.St) (G H : Hp) (x y : V) (u v : Value) (E : Value → Shared → Prop), Below X n A' → Inv X pins σ H s → RelV x u → RelV y v → Same G H → A.r x G → B.r y G →
    wpAny (model X.prog X.w) A' (eqBool u v) (fun r s' => r = b ∧ ∃ G' H', Inv X pins σ H' s' ∧ Step G H G' H') E s
section
variable {X : Cx} {n k : Nat} {A B R : Rl} {b : Bool} {C g : Addr} {fd : FuncData} {ps : List Str} {pre : Pre} {fs gs : List (Str × Rl)}
theorem eqb_val {x y : V} (hx : flatV x = true) (hy : flatV y = true) : EqB X 0 (rEqV x) (rEqV y) (eqV x y) := by
  intro A' pins s σ G H x' y' u v E bl I rx ry sg ax ay
  cases (show x' = x from ax)
  cases (show y' = y from ay)
  exact eqAt_V (A := A') (s := s) rx ry hx hy X.prog X.w E _ ⟨rfl, G, H, I, Step.refl sg⟩
theorem EqB.mono {m : Nat} (h : EqB X n A B b) (hn : n ≤ m) : EqB X m A B b := fun A' pins s σ G H x y u v E bl => h A' pins s σ G H x y u v E (bl.mono hn)
theorem eqb_own (hp : pre [rIns C fs, rIns C gs] [] (.ok (rBool b)) []) (hid : ∀ a G, (rIns C fs).r (.ref a) G → (rIns C gs).r (.ref a) G → b = true) (hn : PySem.W.notFirst X.K C (.ref C) = true) (Fn : FnOk X.prog X.w X.K X.mg X.base (L2.CX X.prog X.w) k g fd ps (spM pre))
    (m : OwnM X.K C "__eq__" g) (hb : Binds X.K fd ps []) : EqB X k (rIns C fs) (rIns C gs) b := by
  intro A' pins s σ G H x y u v E bl I rx ry sg ax ay
  obtain ⟨a, dx, vs, rfl, h1, h2⟩ := id ax
  obtain ⟨c, dy, ws, rfl, h3, h4⟩ := id ay
  cases (show u = Value.ref a from rx)
  cases (show v = Value.ref c from ry)
  by_cases hac : a = c
  · subst hac
    have e := hid a G ax ay
    subst e
    unfold eqBool
    refine wpAny_holding ?_
    refine wpAny_ite_split (fun _ => wpAny_bind (wpAny_rule (wpAny_pure ?_))) (fun h => absurd (beq_self_eq_true _) h)
    exact ⟨rfl, G, H, I, Step.refl sg⟩
  · refine GQ.eqBool_refG hac ?_
    have st0 : At ⟨X, G, H, [], fun _ _ _ _ => False, takes0⟩ [] G H := ⟨Same.refl _, fun _ _ _ e => e, sg, fun _ _ e => e, fun _ h => by simp at h, fun _ h => by simp at h, by simp⟩
    refine wpAny_mono (rc_own (A := A') (Q := fun v H' => v = .bl b ∧ ∃ G', Step G H G' H') (y := .ref c) (t := .ref C) m Fn bl.room (bl.env I) hb I (sg _ _ h1) ry (.ins (sg _ _ h3)) hn ?_ E) (fun w s' z => ?_) fun _ _ x => x
    · exact sp_ok0 (Rs := [rIns C fs, rIns C gs]) st0 (mk2 ax ay) hp fun v G2 H2 s2 a2 r2 => ⟨r2, G2, ⟨s2, fun a o e => a2.hh a o (by simp) e, a2.gh, a2.fr⟩⟩
    · obtain ⟨z', H', I', rz, ez, G', st⟩ := z
      subst ez
      exact ⟨b, rz, rfl, G', H', I', st⟩
theorem getOf {Rs : List Rl} {vs : List V} {its : List Value} {H : Hp} (h : All2 Rs vs H) (r : Vals vs its) {i : Nat} (h1 : i < its.toArray.size) : ∃ R v, Rs[i]? = some R ∧ R.r v H ∧ RelV v its.toArray[i] := by
  have hi : i < its.length := by simpa using h1
  have hv : i < vs.length := by rw [r.length]; exact hi
  have hr : i < Rs.length := by rw [h.len]; exact hv
  obtain ⟨v, e1, e2⟩ := h.get (List.getElem?_eq_getElem hr)
  obtain ⟨u, e3, e4⟩ := r.get e1
  rw [List.getElem?_eq_getElem hi] at e3
  cases e3
  exact ⟨_, v, List.getElem?_eq_getElem hr, e2, by simpa using e4⟩
/-- lists: what stays through the turns -/
def LoopW (X : Cx) (pins : List (Addr × Obj)) (σ : L2.St) (G H : Hp) (s' : Shared) : Prop := ∃ G' H', Inv X pins σ H' s' ∧ Step G H G' H'
theorem lst_obj {pins : List (Addr × Obj)} {σ : L2.St} {H : Hp} {s : Shared} {p : Addr} {vs : List V} (I : Inv X pins σ H s) (h : H p = some (.lst vs)) : ∃ its nn, Vals vs its ∧ s.heap.get? p = some (W1Q.lstO its.toArray nn) := by
  obtain ⟨z, its, nn, r, e⟩ := (show ObjOk X.prog X.w H s.heap p (.lst vs) from I.hok p _ h)
  exact ⟨its, nn, r, e⟩
theorem two_of {Rs Ss : List Rl} {e : Nat → Bool} {A' : Around} {E : Value → Shared → Prop} {pins : List (Addr × Obj)} {σ : L2.St} {G H : Hp} {p q : Addr} {vs ws : List V}
    (he : ∀ (i : Nat) R S, Rs[i]? = some R → Ss[i]? = some S → EqB X n R S (e i)) (bl : Below X n A') (hp : H p = some (.lst vs)) (hq : H q = some (.lst ws)) (h1 : All2 Rs vs G) (h2 : All2 Ss ws G) (hsz : Rs.length = Ss.length) :
    W1Q.Two X.prog X.w A' E p q Rs.length e (fun _ s' => LoopW X pins σ G H s') := fun i s' ⟨G1, H1, I1, st1⟩ => by
  obtain ⟨its, nn, r1, o1⟩ := lst_obj I1 (st1.hh _ _ hp)
  obtain ⟨its2, nn2, r2, o2⟩ := lst_obj I1 (st1.hh _ _ hq)
  have l1 := h1.len
  have l2 := h2.len
  have l3 := r1.length
  have l4 := r2.length
  refine ⟨_, _, _, _, o1, o2, by simp only [List.size_toArray]; omega, by simp only [List.size_toArray]; omega, fun hi1 hi2 => ?_⟩
  obtain ⟨R, v, hR, rv, ru⟩ := getOf (h1.up st1.gg) r1 hi1
  obtain ⟨S, w, hS, rw', rx⟩ := getOf (h2.up st1.gg) r2 hi2
  refine wpAny_mono (he i R S hR hS A' pins s' σ G1 H1 v w _ _ E bl I1 ru rx st1.gh rv rw') (fun r s2 z => ?_) fun _ _ x => x
  obtain ⟨hr, G2, H2, I2, st2⟩ := z
  exact ⟨hr, G2, H2, I2, st1.trans st2⟩
theorem one_of {Rs : List Rl} {e : Nat → Bool} {A' : Around} {E : Value → Shared → Prop} {pins : List (Addr × Obj)} {σ : L2.St} {G H : Hp} {p : Addr} {vs : List V} {y : V} {u : Value}
    (he : ∀ (i : Nat) R, Rs[i]? = some R → EqB X n R A (e i)) (bl : Below X n A') (hp : H p = some (.lst vs)) (h1 : All2 Rs vs G) (ry : RelV y u) (ay : A.r y G) :
    W1Q.One X.prog X.w A' E p u Rs.length e (fun _ s' => LoopW X pins σ G H s') := fun i s' ⟨G1, H1, I1, st1⟩ => by
  obtain ⟨its, nn, r1, o1⟩ := lst_obj I1 (st1.hh _ _ hp)
  have l1 := h1.len
  have l3 := r1.length
  refine ⟨_, _, o1, by simp only [List.size_toArray]; omega, fun hi1 => ?_⟩
  obtain ⟨R, v, hR, rv, ru⟩ := getOf (h1.up st1.gg) r1 hi1
  refine wpAny_mono (he i R hR A' pins s' σ G1 H1 v y _ _ E bl I1 ru ry st1.gh rv (A.mo _ _ _ st1.gg ay)) (fun r s2 z => ?_) fun _ _ x => x
  obtain ⟨hr, G2, H2, I2, st2⟩ := z
  exact ⟨hr, G2, H2, I2, st1.trans st2⟩
/-- == of two lists -/
theorem rcl {Rs Ss : List Rl} {e : Nat → Bool} {A' : Around} {E : Value → Shared → Prop} {pins : List (Addr × Obj)} {s : Shared} {σ : L2.St} {G H : Hp} {p q : Addr} {vs ws : List V} {Q : Value → Shared → Prop}
    (he : ∀ (i : Nat) R S, Rs[i]? = some R → Ss[i]? = some S → EqB X n R S (e i)) (bl : Below X (n + 1) A') (I : Inv X pins σ H s) (sg : Same G H) (hp : G p = some (.lst vs)) (hq : G q = some (.lst ws)) (h1 : All2 Rs vs G) (h2 : All2 Ss ws G)
    (hQ : ∀ s', LoopW X pins σ G H s' → Q (.bool (decide (Rs.length = Ss.length) && W1Q.allFrom e 0 Rs.length)) s') : wpAny (model X.prog X.w) A' (richCompare .Eq (.ref p) (.ref q)) Q E s := by
  have st0 : LoopW X pins σ G H s := ⟨G, H, I, Step.refl sg⟩
  by_cases hsz : Rs.length = Ss.length
  · rw [decide_eq_true hsz, Bool.true_and] at hQ
    exact W1Q.rc_list bl.room.units0 (two_of (pins := pins) (σ := σ) he bl.in1 (sg _ _ hp) (sg _ _ hq) h1 h2 hsz) st0 fun j s' z => hQ s' z
  · rw [decide_eq_false hsz, Bool.false_and] at hQ
    obtain ⟨its, nn, r1, o1⟩ := lst_obj I (sg _ _ hp)
    obtain ⟨its2, nn2, r2, o2⟩ := lst_obj I (sg _ _ hq)
    have l1 := h1.len
    have l2 := h2.len
    have l3 := r1.length
    have l4 := r2.length
    exact W1Q.rc_listL bl.room.units0 o1 o2 (by simp only [List.size_toArray]; omega) (hQ s st0)
theorem rcnl {Rs Ss : List Rl} {e : Nat → Bool} {A' : Around} {E : Value → Shared → Prop} {pins : List (Addr × Obj)} {s : Shared} {σ : L2.St} {G H : Hp} {p q : Addr} {vs ws : List V} {Q : Value → Shared → Prop}
    (he : ∀ (i : Nat) R S, Rs[i]? = some R → Ss[i]? = some S → EqB X n R S (e i)) (bl : Below X (n + 1) A') (I : Inv X pins σ H s) (sg : Same G H) (hp : G p = some (.lst vs)) (hq : G q = some (.lst ws)) (h1 : All2 Rs vs G) (h2 : All2 Ss ws G)
    (hQ : ∀ s', LoopW X pins σ G H s' → Q (.bool (!(decide (Rs.length = Ss.length) && W1Q.allFrom e 0 Rs.length))) s') : wpAny (model X.prog X.w) A' (richCompare .NotEq (.ref p) (.ref q)) Q E s := by
  have st0 : LoopW X pins σ G H s := ⟨G, H, I, Step.refl sg⟩
  by_cases hsz : Rs.length = Ss.length
  · rw [decide_eq_true hsz, Bool.true_and] at hQ
    exact W1Q.rcn_list bl.room.units0 (two_of (pins := pins) (σ := σ) he bl.in1 (sg _ _ hp) (sg _ _ hq) h1 h2 hsz) st0 fun j s' z => hQ s' z
  · rw [decide_eq_false hsz, Bool.false_and] at hQ
    obtain ⟨its, nn, r1, o1⟩ := lst_obj I (sg _ _ hp)
    obtain ⟨its2, nn2, r2, o2⟩ := lst_obj I (sg _ _ hq)
    have l1 := h1.len
    have l2 := h2.len
    have l3 := r1.length
    have l4 := r2.length
    exact W1Q.rcn_listL bl.room.units0 o1 o2 (by simp only [List.size_toArray]; omega) (hQ s st0)
theorem eqb_lst {Rs Ss : List Rl} {e : Nat → Bool} (he : ∀ (i : Nat) R S, Rs[i]? = some R → Ss[i]? = some S → EqB X n R S (e i)) (hid : ∀ a G, (rLst Rs).r (.ref a) G → (rLst Ss).r (.ref a) G → (decide (Rs.length = Ss.length) && W1Q.allFrom e 0 Rs.length) = true) :
    EqB X (n + 1) (rLst Rs) (rLst Ss) (decide (Rs.length = Ss.length) && W1Q.allFrom e 0 Rs.length) := by
  intro A' pins s σ G H x y u v E bl I rx ry sg ax ay
  obtain ⟨p, vs, rfl, h1, h2⟩ := id ax
  obtain ⟨q, ws, rfl, h3, h4⟩ := id ay
  cases (show u = Value.ref p from rx)
  cases (show v = Value.ref q from ry)
  by_cases hac : p = q
  · subst hac
    rw [hid p G ax ay]
    unfold eqBool
    refine wpAny_holding ?_
    refine wpAny_ite_split (fun _ => wpAny_bind (wpAny_rule (wpAny_pure ?_))) (fun h => absurd (beq_self_eq_true _) h)
    exact ⟨rfl, G, H, I, Step.refl sg⟩
  · refine GQ.eqBool_refG hac ?_
    exact rcl he bl I sg h1 h3 h2 h4 fun s' ⟨G', H', I', st⟩ => ⟨_, rfl, rfl, G', H', I', st⟩
end
/-! ### as operators -/
section
variable {F : Fx} {ω w : Ow} {A B R : Rl} {n : Nat}
/-- a rule by what it does -/
theorem bop_sem {f : Value → Value → Sem Value} (h : ∀ pins s σ G H x y u v Q, Inv F.X pins σ H s → RelV x u → RelV y v → Same G H → A.r x G → B.r y G → (∀ z G' H', Step G H G' H' → R.r z G' → Q z H') → wpAny (model F.X.prog F.X.w) F.X.A (f u v) (EP F.X pins σ Q) F.X.xe s) : Bop F w f A B R :=
  ⟨fun x y H Q => ∃ G, Same G H ∧ A.r x G ∧ B.r y G ∧ ∀ z G' H', Step G H G' H' → R.r z G' → Q z H', fun pins s σ H x y v u Q I rx ry ⟨G, sg, ax, ay, q⟩ => h pins s σ G H x y v u Q I rx ry sg ax ay q,
    fun x y G H at_ ax ay Q q => ⟨G, at_.gh, ax, ay, fun z G' H' st rz => q z G' H' st.gg (at_.step st) rz⟩⟩
theorem bop_eqL {Rs Ss : List Rl} {e : Nat → Bool} (he : ∀ (i : Nat) R S, Rs[i]? = some R → Ss[i]? = some S → EqB F.X n R S (e i)) (hr : Room (n + 1) F.X.A) : Bop F w (compareOp .Eq) (rLst Rs) (rLst Ss) (rBool (decide (Rs.length = Ss.length) && W1Q.allFrom e 0 Rs.length)) :=
  bop_sem fun pins s σ G H x y u v Q I rx ry sg ax ay q => by
    obtain ⟨p, vs, rfl, h1, h2⟩ := id ax
    obtain ⟨p2, ws, rfl, h3, h4⟩ := id ay
    cases (show u = Value.ref p from rx)
    cases (show v = Value.ref p2 from ry)
    show wpAny _ _ (richCompare .Eq (.ref p) (.ref p2)) _ _ _
    exact rcl he ⟨hr, rfl⟩ I sg h1 h3 h2 h4 fun s' ⟨G', H', I', st⟩ => ⟨V.bl _, H', I', rfl, q _ G' H' st rfl⟩
theorem bop_neL {Rs Ss : List Rl} {e : Nat → Bool} (he : ∀ (i : Nat) R S, Rs[i]? = some R → Ss[i]? = some S → EqB F.X n R S (e i)) (hr : Room (n + 1) F.X.A) : Bop F w (compareOp .NotEq) (rLst Rs) (rLst Ss) (rBool (!(decide (Rs.length = Ss.length) && W1Q.allFrom e 0 Rs.length))) :=
  bop_sem fun pins s σ G H x y u v Q I rx ry sg ax ay q => by
    obtain ⟨p, vs, rfl, h1, h2⟩ := id ax
    obtain ⟨p2, ws, rfl, h3, h4⟩ := id ay
    cases (show u = Value.ref p from rx)
    cases (show v = Value.ref p2 from ry)
    show wpAny _ _ (richCompare .NotEq (.ref p) (.ref p2)) _ _ _
    exact rcnl he ⟨hr, rfl⟩ I sg h1 h3 h2 h4 fun s' ⟨G', H', I', st⟩ => ⟨V.bl _, H', I', rfl, q _ G' H' st rfl⟩
end
end W1
set_option maxRecDepth 100000
set_option maxHeartbeats 2000000
namespace W1
open PySem PySem.Spec PyProof.Rows L2

/-! ### new things that are owned -/
def EN (F : Fx) (ρ : Ty) (ω : Ow) (e : Expr) (O : Ol) (ω' : Ow) : Prop :=
  ∀ σ G H, At F ω G H → Slots ρ σ G → ∀ Q : VK, (∀ q G2 H2, q ∉ F.M → Same G G2 → At F ((q, O) :: ω') G2 H2 → Q (.ref q) H2) → EW F.X e σ H Q
abbrev PreN := List Rl → Ow → Ol → Ow → Prop
/-- a promise of a new thing -/
def spN (pre : PreN) : Sp := fun vs H Q E => ∃ Rs ω O ω' G, pre Rs ω O ω' ∧ Same G H ∧ All2 Rs vs G ∧ Has ω G H ∧ (keys ω).Nodup ∧ keys ω' = keys ω ∧
  ∀ q G' H', H q = none → StepM (keys ω) G H G' H' → Has ((q, O) :: ω') G' H' → Q (.ref q) H'
def KfN (O : Ol) (ω' : Ow) : Kn where
  rt := fun S w => ∃ q w0, (∀ v G, S.r v G → v = .ref q) ∧ q ∉ keys ω' ∧ w = (q, O) :: (ω' ++ w0)
theorem Has.up {ω : Ow} {G H : Hp} {a : Addr} {O : Ol} (h : Has ((a, O) :: ω) G H) : Has ω G H := fun p hp => h p (List.mem_cons_of_mem _ hp)
theorem Has.some {ω : Ow} {G H : Hp} (h : Has ω G H) {b : Addr} (hb : b ∈ keys ω) : H b ≠ none := by
  obtain ⟨p, hp, e⟩ := List.mem_map.mp hb
  obtain ⟨_, o, z, _⟩ := h p hp
  rw [← e, z]
  simp
theorem At.newcall {F : Fx} {wc wc' w : Ow} {O : Ol} {q : Addr} {G H G' H' : Hp} (a : At F (wc ++ w) G H) (s : StepM (keys wc) G H G' H') (hq : H q = none) (h : Has ((q, O) :: wc') G' H') (hk : keys wc' = keys wc) : q ∉ F.M ∧ At F ((q, O) :: (wc' ++ w)) G' H' := by
  have a' := a.stepM s h.up hk
  have hM : q ∉ F.M := fun hm => a.mm q hm hq
  have h0 : F.H0 q = none := by
    cases e : F.H0 q with
    | none => rfl
    | some u => rw [a.hh q u hM e] at hq; cases hq
  refine ⟨hM, a'.gg, a'.hh, a'.gh, a'.fr, a'.mm, fun p hp => ?_, List.nodup_cons.mpr ⟨fun hm => ?_, a'.nd⟩⟩
  · rcases List.mem_cons.mp hp with rfl | hp
    · obtain ⟨x, z⟩ := h _ List.mem_cons_self
      exact ⟨x, .inl h0, z⟩
    · exact a'.ow p hp
  · have hm' : q ∈ keys (wc ++ w) := by
      have e : keys (wc' ++ w) = keys (wc ++ w) := by unfold keys at hk ⊢; rw [List.map_append, List.map_append, hk]
      rw [← e]
      exact hm
    exact a.has.some hm' hq
theorem fn_okN {P : Program} {w : World} {K : PySem.W.Frag} {mg : Str → Option Value} {base : Heap} {x qual : Str} {st : Stmt} {f : Addr} {fd : FuncData} {N ps : List Str} {k : Nat} {pre : PreN} (Fn : Fun K x qual st f fd) (S : FnScope N ps (defScope st))
    (hl : ∀ Rs ω o ω', pre Rs ω o ω' → Rs.length = ps.length)
    (hb : ∀ (cdv : Value) (A : Around) (outer : List Env) (s : Shared) (H : Hp) (E : XK) (F : Fx), Room k (A.deeper (envOfC qual (defScope st) s.heap.objs.size f cdv)) → F.X = cxOf (L2.CX P w) P w K mg base N qual (defScope st) f cdv A outer s H E →
      ∀ Rs ω o ω', pre Rs ω o ω' → HB F (Rs.map some ++ List.replicate (N.length - Rs.length) none) ω (defBody st) (KfN o ω')) : FnOk P w K mg base (L2.CX P w) (k + 1) f fd ps (spN pre) := by
  refine Fn.okX S (fun vs H Q E h => ?_) (fun cdv A outer s H vs Q E hr h => ?_)
  · obtain ⟨Rs, ω, o, ω', G, hp, _, h2, _⟩ := h
    rw [← h2.len]
    exact hl _ _ _ _ hp
  · obtain ⟨Rs, ω, o, ω', G, hp, hgh, hv, hhas, hnd, hk, hq⟩ := h
    have tk : Takes (cxOf (L2.CX P w) P w K mg base N qual (defScope st) f cdv A outer s H E) (fun cls d _ H => E cls d H) := takes_of rfl rfl rfl rfl
    refine ⟨_, pss_w, hb cdv A outer s H E ⟨cxOf (L2.CX P w) P w K mg base N qual (defScope st) f cdv A outer s H E, G, H, keys ω, fun cls d _ H => E cls d H, tk⟩ hr rfl Rs ω o ω' hp (L2.start N vs) G H _ ?_ ?_ ?_⟩
    · exact ⟨Same.refl _, fun a o _ e => e, hgh, fun a _ e => e, fun a ha => hhas.some ha, fun p hp => let ⟨x, z⟩ := hhas p hp; ⟨x, .inr (List.mem_map_of_mem hp), z⟩, hnd⟩
    · unfold L2.start
      have e := hv.len
      refine ⟨by simp [e], fun i R hi => ?_⟩
      by_cases h : i < Rs.length
      · rw [List.getElem?_append_left (by simpa using h), List.getElem?_map] at hi
        cases h1 : Rs[i]? with
        | none => rw [h1] at hi; cases hi
        | some R' =>
          rw [h1] at hi
          cases hi
          obtain ⟨v, h2, h3⟩ := hv.get h1
          exact ⟨v, by rw [List.getElem?_append_left (by rw [List.length_map, ← e]; exact h), List.getElem?_map, h2]; rfl, h3⟩
      · rw [List.getElem?_append_right (by simpa using h), List.getElem?_replicate] at hi
        split at hi <;> cases hi
    · refine ⟨fun _ _ hk => hk.elim, fun R w1 hr' v G' H' s a r => ?_, fun _ _ hk => hk.elim, fun _ _ hk => hk.elim, fun _ _ _ hk => hk.elim⟩
      obtain ⟨q, w0, h1, h2, rfl⟩ := hr'
      cases h1 v G' r
      have hM : q ∉ keys ω := by rw [← hk]; exact h2
      have a' : At _ (((q, o) :: ω') ++ w0) G' H' := a
      exact hq q G' H' (At.own0 a hM) ⟨a.gg, a.hh, a.gh, a.fr⟩ a'.has.left
theorem All2.set : ∀ {Rs : List Rl} {vs : List V} {H : Hp} {R : Rl} {v : V} (j : Nat), All2 Rs vs H → R.r v H → All2 (Rs.set j R) (vs.set j v) H
  | [], [], _, _, _, _, _, _ => trivial
  | _ :: _, _ :: _, _, _, _, 0, h, r => ⟨r, h.2⟩
  | _ :: _, _ :: _, _, _, _, j + 1, h, r => ⟨h.1, All2.set j h.2 r⟩
  | [], _ :: _, _, _, _, _, h, _ => h.elim
  | _ :: _, [], _, _, _, _, h, _ => h.elim
section
variable {F : Fx} {ρ ρ1 : Ty} {ω w w1 w2 w3 wc wc' : Ow} {e o ix : Expr} {es : List Expr} {R S : Rl} {Rs : List Rl} {O : Ol} {pos p apos : Pos} {x m : Str} {k : Nat} {f : Addr} {fd : FuncData} {ps : List Str} {pre : PreN} {K : Kn} {rest : List Stmt} {q : Addr}
theorem en_lst (h : AR F ρ ω es Rs w1) (hz : Rs.length ≤ 1000) : EN F ρ ω (.List es pos) (oL Rs) w1 := fun σ G H at_ sl Q q => by
  refine ew_of (pe_lst pa_w) (h σ G H at_ sl _ fun vs G2 H2 s a r => ⟨Nat.le_of_lt (small1000 (by rw [← r.len]; exact hz)), fun p hp => ?_⟩)
  exact q p G2 _ (fun hm => a.mm p hm hp) s (a.own hp ⟨vs, rfl, r⟩)
theorem en_call (ha : AR F ρ ω (e :: es) Rs (wc ++ w)) (hp : pre Rs wc O wc') (hk : keys wc' = keys wc) (Fn : FnOk F.X.prog F.X.w F.X.K F.X.mg F.X.base (L2.CX F.X.prog F.X.w) k f fd ps (spN pre)) (hr : Room k F.X.A) (hm : F.X.mg x = some (.ref f))
    (hkp : PySem.W.keepIn F.X.K (.ref f) = true) (hb : Binds F.X.K fd ps []) (hg : Gl F.X x := by rfl) (hdb : (x == ("__debug__" : Str)) = false := by decide) (he : starEach (e :: es) F.X.env = (false, eval e F.X.env) :: starEach es F.X.env := by rfl) (hpl : (backTo pos (starEach es F.X.env)).any (·.1) = false := by rfl) :
    EN F ρ ω (.Call (.Name x p) (e :: es) [] pos) O (wc' ++ w) := fun σ G H at_ sl Q q =>
  ew_of (pe_callS (E := WE F.W) Fn hr hg hm hkp hb passW pa_w hdb he hpl) (ha σ G H at_ sl _ fun vs G2 H2 s a r => ⟨Rs, wc, O, wc', G2, hp, a.gh, r, a.has.left, by have := a.nd; rw [List.map_append] at this; exact (List.nodup_append.mp this).1, hk, fun q' G' H' hq st hh => by
    obtain ⟨hM, a3⟩ := a.newcall st hq hh hk
    exact q q' G' H' hM (s.trans st.gg) a3⟩)
/-- x = a new thing -/
theorem hb_setN (i : Nat) (he : EN F ρ ω e O w1) (h : ∀ q, q ∉ F.M → HB F (ρ.set i (some (rRef q))) ((q, O) :: w1) rest K) (hN : F.X.N.Nodup) (hi : F.X.N[i]? = some x := by rfl) (hx : Loc F.X.env.scope x := by first | exact Or.inl rfl | exact Or.inr rfl)
    (hs : swapsWith e (some (.Name x p)) pos.line F.X.env = pure false := by rfl) (hf : F.X.fn x = true ∨ F.X.env.scope.names.lookup x = some .local := by first | exact .inl rfl | exact .inr rfl | assumption) :
    HB F ρ ω (.Assign [.Name x p] e pos :: rest) K := hb_cons fun σ G H D at_ sl ps =>
  sw_of (ps_set hN hi hx pe_w hs hf) (he σ G H at_ sl _ fun q G2 H2 hM s a => h q hM _ G2 H2 D a ((sl.up s).set i rfl) (ps.up s))
theorem hb_retO (he : EN F ρ ω e O w1) (h : ∀ q, q ∉ F.M → K.rt (rRef q) ((q, O) :: w1)) : HB F ρ ω (.Return (some e) pos :: rest) K := hb_cons fun σ G H D at_ sl ps =>
  sw_of (ps_ret pe_w) (he σ G H at_ sl _ fun q G2 H2 hM s a => ps.rt _ _ (h q hM) _ G2 H2 s a rfl)
/-- what is owned is owned no more -/
theorem hb_pub (i : Nat) (hi : ρ[i]? = some (some (rRef q))) (hM : q ∉ F.M) (hO : ∀ o G, G q = some o → O.c o G → R.r (.ref q) G) (h : HB F (ρ.set i (some R)) w rest K) : HB F ρ ((q, O) :: w) rest K := fun σ G H D at_ sl ps => by
  obtain ⟨hg0, _, o, h1, h2⟩ := at_.ow _ List.mem_cons_self
  have a := at_.pub h1 (At.own0 at_ hM)
  have sg : Same G (upd G q o) := fun b u e => by rw [upd_ne (ne_of_none e hg0)]; exact e
  obtain ⟨v, hv, rv⟩ := sl.at_ i _ hi
  cases (show v = V.ref q from rv)
  have sl2 := (sl.up sg).set i (R := R) (v := .ref q) (hO o _ upd_same (O.mo _ _ _ sg h2))
  have e : σ.set i (some (V.ref q)) = σ := by
    refine List.ext_getElem? fun j => ?_
    by_cases hj : i = j
    · subst hj
      rw [hv]
      exact List.getElem?_set_self (by
        cases Nat.lt_or_ge i σ.length with
        | inl z => exact z
        | inr z => rw [List.getElem?_eq_none z] at hv; cases hv)
    · rw [List.getElem?_set_ne hj]
  rw [e] at sl2
  exact h σ _ H D a sl2 (ps.up sg)
theorem pub_lst : ∀ o G, G q = some o → (oL Rs).c o G → (rLst Rs).r (.ref q) G := fun o G h ⟨vs, e, h2⟩ => ⟨q, vs, rfl, by rw [h, e], h2⟩
/-- l[i] of an owned list -/
theorem er_ixO {i : Int} {n : Nat} (ha : ER F ρ ω o (rRef q) w1) (hb : ER F ρ w1 ix (rInt i) w2) (hm : (q, oL Rs) ∈ w2) (hn : ixN Rs.length i = some n) (hR : Rs[n]? = some R) (hs : PlainIx ix := by exact fun _ _ => rfl) : ER F ρ ω (.Subscript o ix pos) R w2 := fun σ G H at_ sl Q k => by
  refine ew_of (pe_ix ix_list pe_w pe_w hs) (ha σ G H at_ sl _ fun x G1 H1 s1 at1 rx => hb σ G1 H1 at1 (sl.up s1) _ fun y G2 H2 s2 at2 ry => ?_)
  obtain ⟨_, _, ob, h1, vs, e1, h2⟩ := at2.ow _ hm
  subst e1
  obtain ⟨v, h3, h4⟩ := h2.get hR
  refine ⟨q, vs, i, v, rx, ry, SqL.of h1, ?_, k v G2 H2 (s1.trans s2) at2 h4⟩
  unfold atI
  rw [← h2.len, hn]
  exact h3
/-- l[i] = e -/
theorem hb_sub {i : Int} {n : Nat} {p2 : Pos} (he : ER F ρ ω e R w1) (ho : ER F ρ w1 o (rRef q) w2) (hi : ER F ρ w2 ix (rInt i) ((q, oL Rs) :: w3)) (hn : ixN Rs.length i = some n) (h : HB F ρ ((q, oL (Rs.set n R)) :: w3) rest K)
    (ha : ∀ v, assign (.Subscript o ix p2) F.X.env v = (do
      let ov ← holding [v] (eval o F.X.env)
      let iv ← holding [v, ov] (eval ix F.X.env)
      standAt p2
      holding [v, ov, iv] (setItem ov iv v)
      release [v, ov, iv] []) := by intro _; rfl)
    (hs : swapsWithSole [.Subscript o ix p2] e pos.line F.X.env = pure false := by rfl) (hw : swappedStores [.Subscript o ix p2] e F.X.env = pure none := by rfl) (h1 : (assignEach [.Subscript o ix p2] F.X.env).map (·.2) = [assign (.Subscript o ix p2) F.X.env] := by rfl) :
    HB F ρ ω (.Assign [.Subscript o ix p2] e pos :: rest) K := hb_cons fun σ G H D at_ sl ps => by
  refine sw_of (ps_asg pe_w (pg_sub pe_w pe_w set_list ha) hs hw h1) (he σ G H at_ sl _ fun v G1 H1 s1 a1 r1 => ho σ G1 H1 a1 (sl.up s1) _ fun x G2 H2 s2 a2 r2 => hi σ G2 H2 a2 ((sl.up s1).up s2) _ fun y G3 H3 s3 a3 r3 => ?_)
  obtain ⟨_, _, ob, h1', vs, e1, h2⟩ := a3.ow _ List.mem_cons_self
  subst e1
  refine ⟨q, vs, i, n, r2, r3, h1', by rw [← h2.len]; exact hn, ?_⟩
  have s13 := (s1.trans s2).trans s3
  exact h σ G3 _ D (a3.chg ⟨_, rfl, h2.set n (R.mo _ _ _ (s2.trans s3) r1)⟩) (sl.up s13) (ps.up s13)
/-- l.append(e) -/
theorem hb_append (ho : ER F ρ ω o (rRef q) w1) (hm : (q, oL Rs) ∈ w1) (ha : AR F ρ w1 [e] [R] ((q, oL Rs) :: w2)) (hz : Rs.length ≤ 100000) (h : HB F ρ ((q, oL (Rs ++ [R])) :: w2) rest K)
    (hsw : swapsWith (.Call (.Attribute o "append" apos) [e] [] p) none pos.line F.X.env = pure false := by rfl)
    (hbase : attributeBase o "append" F.X.env (eval o F.X.env) = eval o F.X.env := by rfl)
    (hfew : ((backTo p (starEach [e] F.X.env)).all (fun x => !x.1) && (backToKw p (keywordEach [] F.X.env)).all (fun x => x.1.isSome)
      && decide ([e].length + ([] : List Keyword).length + (if ([] : List Keyword).isEmpty then 0 else 1) < 30)) = true := by rfl)
    (hline : (apos.endLine == p.line) = true := by rfl) (hs : starEach [e] F.X.env = (false, eval e F.X.env) :: starEach [] F.X.env := by rfl) (hplain : (backTo p (starEach [] F.X.env)).any (·.1) = false := by rfl) :
    HB F ρ ω (.Expr (.Call (.Attribute o "append" apos) [e] [] p) pos :: rest) K := hb_cons fun σ G H D at_ sl ps => by
  refine sw_of (ps_expr (pe_bm (T := "list") PySem.F.plainAttrs_list PySem.F.slot_list_append PySem.F.type_list_append mt_append pe_w pa_w hbase hfew hline hs hplain) hsw) (ho σ G H at_ sl _ fun x G1 H1 s1 a1 r1 => ?_)
  cases (show x = V.ref q from r1)
  obtain ⟨_, _, ob, h1', vs, e1, h2⟩ := a1.ow _ hm
  subst e1
  refine ⟨.inl ⟨rfl, vs, SqL.of h1'⟩, ha σ G1 H1 a1 (sl.up s1) _ fun us G2 H2 s2 a2 r2 => ?_⟩
  obtain ⟨v, rfl, rv⟩ := all1 r2
  obtain ⟨_, _, ob, h3, ws, e3, h4⟩ := a2.ow _ List.mem_cons_self
  subst e3
  refine ⟨q, ws, v, rfl, rfl, h3, Nat.lt_of_le_of_lt (by rw [← h4.len]; exact hz) (by decide), ?_⟩
  have s12 := s1.trans s2
  exact h σ G2 _ D (a2.chg ⟨_, rfl, h4.app (mk1 rv)⟩) (sl.up s12) (ps.up s12)
/-! the script -/
def rScr (K : PySem.W.Frag) (xs : List V) : Rl := ⟨fun v H => ∃ a, v = .ref a ∧ SqL K H a xs, fun v H H' e ⟨a, h1, h2⟩ => ⟨a, h1, by
  rcases h2 with (h2 | ⟨o, h2⟩) | h2
  · exact .inl (.inl (e _ _ h2))
  · exact .inl (.inr ⟨o, e _ _ h2⟩)
  · exact .inr h2⟩⟩
theorem sql_up {K : PySem.W.Frag} {a : Addr} {xs : List V} {G H : Hp} (e : Same G H) (h : SqL K G a xs) : SqL K H a xs := by
  obtain ⟨b, h1, h2⟩ := (rScr K xs).mo (.ref a) G H e ⟨a, rfl, h⟩
  cases h1
  exact h2
theorem cop_lenS {xs : List V} : Cop F ω (.builtin "len") [rScr F.X.K xs] (rInt (xs.length : Int)) := by
  refine ⟨_, call_len_seq, fun us G H at_ hx Q q => ?_⟩
  obtain ⟨x, rfl, p, rfl, h1⟩ := all1 hx
  exact ⟨p, xs, rfl, .inl (sql_up at_.gh h1), q _ G H (Same.refl _) at_ rfl⟩
theorem iop_S {xs : List V} {i : Int} {v : V} (h : atI xs i = some v) : Iop F ω (rScr F.X.K xs) (rInt i) (rEqV v) :=
  ⟨_, ix_list, fun x y G H at_ hx hy Q q => by
    obtain ⟨p, rfl, h1⟩ := hx
    exact ⟨p, xs, i, v, rfl, hy, sql_up at_.gh h1, h, q v G H (Same.refl _) at_ rfl⟩⟩
/-! [..] * n, tuple(..) -/
/-! a, b = a list -/
end
/-! ### try -/
/-- a caught exception, with its one field -/
def rExc (a dd : Addr) (fld : Str) (R : Rl) : Rl := ⟨fun v G => v = .ref a ∧ ∃ w, G dd = some (.xd [(fld, w)]) ∧ R.r w G, fun _ _ _ e ⟨h1, w, h2, h3⟩ => ⟨h1, w, e _ _ h2, R.mo _ _ _ e h3⟩⟩
/-- in the suite -/
structure InSuite (F F' : Fx) (a : Addr) (cls : Value) (d : Option Addr) : Prop where
  h : ∃ oe pn, F'.X = F.X.suite a ((a, oe) :: pn) ∧ Zc cls d oe ∧ ∃ vs, oe.data = .fields vs
  g0 : F'.G0 = F.G0
  h0 : F'.H0 = F.H0
  m : F'.M = F.M
structure InTry (F F' : Fx) : Prop where
  h : ∃ pn xe, F'.X = F.X.tr pn xe ∧ PassesOwn (model F.X.prog F.X.w) F.X.A F.X.env xe
  g0 : F'.G0 = F.G0
  h0 : F'.H0 = F.H0
  m : F'.M = F.M
/-- behind the suite of 'except C as n', n in slot i -/
def Kn.suite (K : Kn) (F : Fx) (rest : List Stmt) (i : Nat) : Kn :=
  { nx := fun ρ ω => HB F (ρ.set i none) ω rest K, rt := K.rt, bk := fun ρ ω => K.bk (ρ.set i none) ω, ct := fun ρ ω => K.ct (ρ.set i none) ω }
section
variable {F : Fx} {ρ : Ty} {ω w1 : Ow} {K : Kn} {rest body suite : List Stmt} {b₀ : Stmt} {x n : Str} {c : Value} {np pos pos' : Pos}
end
section
variable {F F' : Fx} {ρ : Ty} {ω w1 : Ow} {e : Expr} {R : Rl} {a C dd : Addr} {fld : Str} {pos : Pos}
/-- e.f of the caught one -/
theorem er_xf (S : InSuite F F' a (.ref C) (some dd)) (T : XfC F.X.K C) (hno : PySem.W.findIn F.X.K (.ref C) fld = some none) (he : ER F' ρ ω e (rExc a dd fld R) w1) (hb : attributeBase e fld F.X.env (eval e F.X.env) = eval e F.X.env := by rfl) : ER F' ρ ω (.Attribute e fld pos) R w1 := fun σ G H at_ sl Q q => by
  obtain ⟨oe, pn, hX, hz, hd⟩ := S.h
  have z := fun te h => ew_of (X := F.X.suite a ((a, oe) :: pn)) (pe_xf (pn := pn) (te := te) (pos := pos) T hno hz hd h hb) (σ := σ) (H := H) (Q := Q)
  rw [← hX] at z
  refine z _ pe_w (he σ G H at_ sl _ fun v G2 H2 s a r => ?_)
  obtain ⟨rfl, w, h1, h2⟩ := r
  exact ⟨rfl, rfl, dd, _, w, rfl, a.gh _ _ h1, List.lookup_cons_self, q w G2 H2 s a h2⟩
end
end W1
set_option maxRecDepth 100000
set_option maxHeartbeats 2000000
namespace W1
open PySem PySem.Spec PyProof.Rows L2

/-! ### known defs, in one word each -/
section
variable (P : Program) (w : World) (K : PySem.W.Frag) (mg : Str → Option Value) (base : Heap)
/-- a def at the top -/
def Kf1 (x : Str) (k : Nat) (pre : Pre) : Prop := ∃ f fd ps, mg x = some (.ref f) ∧ PySem.W.keepIn K (.ref f) = true ∧ Binds K fd ps [] ∧ FnOk P w K mg base (L2.CX P w) k f fd ps (spM pre)
def KfN1 (x : Str) (k : Nat) (pre : PreN) : Prop := ∃ f fd ps, mg x = some (.ref f) ∧ PySem.W.keepIn K (.ref f) = true ∧ Binds K fd ps [] ∧ FnOk P w K mg base (L2.CX P w) k f fd ps (spN pre)
/-- a method -/
def Km (C : Addr) (m : Str) (k : Nat) (pre : Pre) : Prop := ∃ f fd ps, Meth K C m f ∧ Binds K fd ps [] ∧ FnOk P w K mg base (L2.CX P w) k f fd ps (spM pre)
/-- an operator's method -/
def Ko (C : Addr) (m : Str) (k : Nat) (pre : Pre) : Prop := ∃ f fd ps, OwnM K C m f ∧ Binds K fd ps [] ∧ FnOk P w K mg base (L2.CX P w) k f fd ps (spM pre)
/-- a class that is called -/
def Kc (C : Addr) (x : Str) (k : Nat) (pre : Pre) : Prop := ∃ f fd ps, mg x = some (.ref C) ∧ Mk K C f ∧ Binds K fd ps [] ∧ FnOk P w K mg base (L2.CX P w) k f fd ps (spM pre)
/-- a classmethod -/
def Kcm (C : Addr) (m : Str) (k : Nat) (pre : Pre) : Prop := ∃ f fd ps mc pc, ClX.CRead K C mc ∧ ClX.CMet K C mc m pc f ∧ Binds K fd ps [] ∧ FnOk P w K mg base (L2.CX P w) k f fd ps (spM pre)
/-- an error class of one field -/
def Ke (C : Addr) (x fld : Str) (k : Nat) (Pr : Rl) : Prop := ∃ y qual st f cc cd fd, SupC P K mg x qual st C f cc cd ∧ Binds K fd ([("self" : Str), y] : List Str) [] ∧ FnOk P w K mg base (L2.CX P w) k f fd ([("self" : Str), y] : List Str) (spErr C fld Pr)
end
section
variable {F : Fx} {ρ : Ty} {ω w w1 w2 wc wc' : Ow} {e o a b : Expr} {es : List Expr} {R S : Rl} {Rs : List Rl} {P : Er} {pos p apos pos' : Pos} {x m fld : Str} {k : Nat} {C : Addr} {pre : Pre} {fs gs : List (Str × Rl)} {O : Ol} {K : Kn} {rest : List Stmt} {t : Bool}
theorem er_fn (T : Kf1 F.X.prog F.X.w F.X.K F.X.mg F.X.base x k pre) (hr : Room k F.X.A) (ha : AR F ρ ω (e :: es) Rs (wc ++ w)) (hp : pre Rs wc (.ok R) wc') (hk : keys wc' = keys wc := by rfl)
    (hg : Gl F.X x := by rfl) (hdb : (x == ("__debug__" : Str)) = false := by decide) (he : starEach (e :: es) F.X.env = (false, eval e F.X.env) :: starEach es F.X.env := by rfl) (hpl : (backTo pos (starEach es F.X.env)).any (·.1) = false := by rfl) :
    ER F ρ ω (.Call (.Name x p) (e :: es) [] pos) R (wc' ++ w) := by
  obtain ⟨f, fd, ps, h1, h2, h3, h4⟩ := T
  exact er_call ha hp hk h4 hr h1 h2 h3 hg hdb he hpl
theorem er_fn0 (T : Kf1 F.X.prog F.X.w F.X.K F.X.mg F.X.base x k pre) (hr : Room k F.X.A) (ha : AR F ρ ω (e :: es) Rs w) (hp : pre Rs [] (.ok R) [])
    (hg : Gl F.X x := by rfl) (hdb : (x == ("__debug__" : Str)) = false := by decide) (he : starEach (e :: es) F.X.env = (false, eval e F.X.env) :: starEach es F.X.env := by rfl) (hpl : (backTo pos (starEach es F.X.env)).any (·.1) = false := by rfl) :
    ER F ρ ω (.Call (.Name x p) (e :: es) [] pos) R w := er_fn (wc := []) (wc' := []) T hr ha hp rfl hg hdb he hpl
theorem en_fn {pre : PreN} (T : KfN1 F.X.prog F.X.w F.X.K F.X.mg F.X.base x k pre) (hr : Room k F.X.A) (ha : AR F ρ ω (e :: es) Rs (wc ++ w)) (hp : pre Rs wc O wc') (hk : keys wc' = keys wc := by rfl)
    (hg : Gl F.X x := by rfl) (hdb : (x == ("__debug__" : Str)) = false := by decide) (he : starEach (e :: es) F.X.env = (false, eval e F.X.env) :: starEach es F.X.env := by rfl) (hpl : (backTo pos (starEach es F.X.env)).any (·.1) = false := by rfl) :
    EN F ρ ω (.Call (.Name x p) (e :: es) [] pos) O (wc' ++ w) := by
  obtain ⟨f, fd, ps, h1, h2, h3, h4⟩ := T
  exact en_call ha hp hk h4 hr h1 h2 h3 hg hdb he hpl
theorem er_m {pl : Sem Bool} (T : Km F.X.prog F.X.w F.X.K F.X.mg F.X.base C m k pre) (hc : Cls F.X.K C) (hr : Room k F.X.A) (ho : ER F ρ ω o (rIns C fs) w1) (ha : AR F ρ w1 (e :: es) Rs w) (hp : pre (rIns C fs :: Rs) [] (.ok R) []) (hno : fs.lookup m = none := by rfl)
    (hst : starEach (e :: es) F.X.env = (false, eval e F.X.env) :: starEach es F.X.env := by rfl) (hpl : (backTo pos (starEach es F.X.env)).any (·.1) = false := by rfl)
    (ht : eval (.Call (.Attribute o m apos) (e :: es) [] pos) F.X.env = (do
      let ov ← eval o F.X.env
      standAt apos.atName
      let (f, first) ← holding [ov] (getMethod ov m pl)
      callWith pos f first (backTo pos (starEach (e :: es) F.X.env)) (backToKw pos (keywordEach [] F.X.env))) := by rfl) :
    ER F ρ ω (.Call (.Attribute o m apos) (e :: es) [] pos) R w := by
  obtain ⟨f, fd, ps, h1, h2, h3⟩ := T
  exact er_meth (wc := []) (wc' := []) ho hno ha hp rfl h3 hr hc h1 h2 hst hpl ht
theorem er_c {fs : List (Str × Rl)} (T : Kc F.X.prog F.X.w F.X.K F.X.mg F.X.base C x k pre) (hr : Room (k + 1) F.X.A) (ha : AR F ρ ω (e :: es) Rs w) (hp : ∀ q, pre (rRef q :: Rs) [(q, oIns C [])] (.ok rNon) [(q, oIns C fs)])
    (hg : Gl F.X x := by rfl) (hdb : (x == ("__debug__" : Str)) = false := by decide) (he : starEach (e :: es) F.X.env = (false, eval e F.X.env) :: starEach es F.X.env := by rfl) (hpl : (backTo pos (starEach es F.X.env)).any (·.1) = false := by rfl) :
    ER F ρ ω (.Call (.Name x p) (e :: es) [] pos) (rIns C fs) w := by
  obtain ⟨f, fd, ps, h1, h2, h3, h4⟩ := T
  exact er_make ha hp h4 hr h2 h1 h3 hg hdb he hpl
theorem ex_c (T : Kc F.X.prog F.X.w F.X.K F.X.mg F.X.base C x k pre) (hr : Room (k + 1) F.X.A) (ha : AR F ρ ω (e :: es) Rs w) (hp : ∀ q, ∃ O, pre (rRef q :: Rs) [(q, oIns C [])] (.error P) [(q, O)]) (hP : ∀ cls d G G', Same G G' → P cls d G → P cls d G')
    (hg : Gl F.X x := by rfl) (hdb : (x == ("__debug__" : Str)) = false := by decide) (he : starEach (e :: es) F.X.env = (false, eval e F.X.env) :: starEach es F.X.env := by rfl) (hpl : (backTo pos (starEach es F.X.env)).any (·.1) = false := by rfl) :
    EX F ρ ω (.Call (.Name x p) (e :: es) [] pos) P w := by
  obtain ⟨f, fd, ps, h1, h2, h3, h4⟩ := T
  exact ex_make ha hp h4 hr h2 h1 h3 hg hdb he hpl hP
theorem er_cm {pl : Sem Bool} (T : Kcm F.X.prog F.X.w F.X.K F.X.mg F.X.base C m k pre) (hr : Room k F.X.A) (ho : ER F ρ ω o (rRef C) w1) (ha : AR F ρ w1 (e :: es) Rs w) (hp : pre (rRef C :: Rs) [] (.ok R) [])
    (hst : starEach (e :: es) F.X.env = (false, eval e F.X.env) :: starEach es F.X.env := by rfl) (hpl : (backTo pos (starEach es F.X.env)).any (·.1) = false := by rfl)
    (ht : eval (.Call (.Attribute o m apos) (e :: es) [] pos) F.X.env = (do
      let ov ← eval o F.X.env
      standAt apos.atName
      let (f, first) ← holding [ov] (getMethod ov m pl)
      callWith pos f first (backTo pos (starEach (e :: es) F.X.env)) (backToKw pos (keywordEach [] F.X.env))) := by rfl) : ER F ρ ω (.Call (.Attribute o m apos) (e :: es) [] pos) R w := by
  obtain ⟨f, fd, ps, mc, pc, h1, h2, h3, h4⟩ := T
  exact er_cmeth ho ha hp h4 hr h1 h2 h3 hst hpl ht
theorem bop_o {op : Operator} (T : Ko F.X.prog F.X.w F.X.K F.X.mg F.X.base C (PySem.dunder op.info.2) k pre) (c : ClsX F.X.K C) (hr : Room k F.X.A) (hp : pre [rIns C fs, rIns C gs] [] (.ok R) []) : Bop F w (binaryOp op) (rIns C fs) (rIns C gs) R := by
  obtain ⟨f, fd, ps, h1, h2, h3⟩ := T
  exact bop_own hp h3 c h1 hr h2
theorem uop_o (T : Ko F.X.prog F.X.w F.X.K F.X.mg F.X.base C "__neg__" k pre) (hr : Room k F.X.A) (hp : pre [rIns C fs] [] (.ok R) []) : Uop F w (unaryOp .USub) (rIns C fs) R := by
  obtain ⟨f, fd, ps, h1, h2, h3⟩ := T
  exact uop_own hp h3 h1 hr h2
theorem bop_oE {B : Rl} {t : Value} (T : Ko F.X.prog F.X.w F.X.K F.X.mg F.X.base C "__eq__" k pre) (hr : Room k F.X.A) (hp : pre [rIns C fs, B] [] (.ok R) []) (ht : TyR F.X.K B t) (hn : PySem.W.notFirst F.X.K C t = true) : Bop F w (compareOp .Eq) (rIns C fs) B R := by
  obtain ⟨f, fd, ps, h1, h2, h3⟩ := T
  exact bop_ownE hp ht hn h3 h1 hr h2
theorem cop_oB (T : Ko F.X.prog F.X.w F.X.K F.X.mg F.X.base C "__bool__" k pre) (hr : Room (k + 2) F.X.A) (hp : pre [rIns C fs] [] (.ok (rBool t)) []) : Cop F w (.type "bool") [rIns C fs] (rBool t) := by
  obtain ⟨f, fd, ps, h1, h2, h3⟩ := T
  exact cop_ownB hp h3 h1 hr h2
theorem tr_o (T : Ko F.X.prog F.X.w F.X.K F.X.mg F.X.base C "__bool__" k pre) (hr : Room k F.X.A) (he : ER F ρ ω e (rIns C fs) w) (hp : pre [rIns C fs] [] (.ok (rBool t)) [])
    (hw : ∀ whole, isTrue e F.X.env whole = (do let v ← whole; standAt e.pos; holding [v] (truthy v)) := by intro _; rfl) : TR F ρ ω e t w := by
  obtain ⟨f, fd, ps, h1, h2, h3⟩ := T
  exact tr_own he hp h3 h1 hr h2 hw
theorem eqb_o (T : Ko F.X.prog F.X.w F.X.K F.X.mg F.X.base C "__eq__" k pre) (hp : pre [rIns C fs, rIns C gs] [] (.ok (rBool t)) []) (hid : ∀ a G, (rIns C fs).r (.ref a) G → (rIns C gs).r (.ref a) G → t = true) (hn : PySem.W.notFirst F.X.K C (.ref C) = true) : EqB F.X k (rIns C fs) (rIns C gs) t := by
  obtain ⟨f, fd, ps, h1, h2, h3⟩ := T
  exact eqb_own hp hid hn h3 h1 h2
theorem hb_err {Pr : Rl} (T : Ke F.X.prog F.X.w F.X.K F.X.mg F.X.base C x fld k Pr) (hr : Room (k + 1) F.X.A) (ha : AR F ρ ω [e] [R] w1) (hx : K.ex ρ w1 (erF C fld R)) (hPr : ∀ v G, R.r v G → Pr.r v G)
    (hg : Gl F.X x := by rfl) (hc : F.X.calm = true := by rfl) (hdb : (x == ("__debug__" : Str)) = false := by decide)
    (he : starEach [e] F.X.env = (false, eval e F.X.env) :: starEach [] F.X.env := by rfl) (hpl : (backTo pos (starEach [] F.X.env)).any (·.1) = false := by rfl) :
    HB F ρ ω (.Raise (some (.Call (.Name x p) [e] [] pos)) none pos' :: rest) K := by
  obtain ⟨y, qual, st, f, cc, cd, fd, h1, h2, h3⟩ := T
  exact hb_raise ha hx hPr h1 h3 hr h2 hg hc hdb he hpl
end
end W1
set_option maxRecDepth 100000
set_option maxHeartbeats 2000000
namespace W1
open PySem PySem.Spec PyProof.Rows L2

/-! ### fractions -/
theorem gcd_step (a b : Nat) (h : b ≠ 0) : Int.gcd (b : Int) ((a % b : Nat) : Int) = Int.gcd (a : Int) (b : Int) := by
  show Nat.gcd b (a % b) = Nat.gcd a b
  rw [Nat.gcd_comm a b, Nat.gcd_rec b a, Nat.gcd_comm]
theorem fmod_nat (a b : Nat) : (a : Int).fmod (b : Int) = ((a % b : Nat) : Int) := by
  rw [Int.fmod_eq_emod_of_nonneg _ (Int.natCast_nonneg b)]
  rfl
theorem abs_nat (a : Int) : (if a < 0 then -a else a) = (a.natAbs : Int) := by
  by_cases h : a < 0
  · rw [if_pos h]; omega
  · rw [if_neg h]; omega
/-- the divisor that __init__ takes -/
def dvs (t b : Int) : Int := if b < 0 then -(Int.gcd t b : Int) else (Int.gcd t b : Int)
theorem dvs_ne {t b : Int} (h : b ≠ 0) : dvs t b ≠ 0 := by
  have : Int.gcd t b ≠ 0 := fun e => h (Int.gcd_eq_zero_iff.mp e).2
  unfold dvs
  split <;> omega
theorem dvs_top {t b : Int} (h : b ≠ 0) : t.fdiv (dvs t b) = (Rat.divInt t b).num := by
  have hd := dvs_ne (t := t) h
  obtain ⟨u, hu⟩ : ((Int.gcd t b : Int)) ∣ t := Int.gcd_dvd_left t b
  have hg : (Int.gcd t b : Int) ≠ 0 := by
    have : Int.gcd t b ≠ 0 := fun e => h (Int.gcd_eq_zero_iff.mp e).2
    omega
  rw [Rat.num_divInt, Int.gcd_comm b t]
  generalize hG : (Int.gcd t b : Int) = g at *
  unfold dvs
  rw [hG]
  by_cases hb : b < 0
  · rw [if_pos hb, Int.sign_eq_neg_one_of_neg hb, hu, show g * u = (-g) * (-u) by rw [Int.neg_mul_neg], Int.mul_fdiv_cancel_left _ (by omega), show -1 * (-g * -u) = g * (-u) by rw [Int.neg_mul_neg, Int.mul_neg]; omega, Int.mul_ediv_cancel_left _ hg]
  · rw [if_neg hb, Int.sign_eq_one_of_pos (by omega), hu, Int.mul_fdiv_cancel_left _ hg, Int.one_mul, Int.mul_ediv_cancel_left _ hg]
theorem dvs_bot {t b : Int} (h : b ≠ 0) : b.fdiv (dvs t b) = ((Rat.divInt t b).den : Int) := by
  have hd := dvs_ne (t := t) h
  obtain ⟨u, hu⟩ : ((Int.gcd t b : Int)) ∣ b := Int.gcd_dvd_right t b
  have hg : (0 : Int) < (Int.gcd t b : Int) := by
    have : Int.gcd t b ≠ 0 := fun e => h (Int.gcd_eq_zero_iff.mp e).2
    omega
  rw [Rat.den_divInt, if_neg h, Int.gcd_comm b t]
  generalize hG : Int.gcd t b = g at *
  have e : (b.natAbs / g : Nat) = u.natAbs := by
    rw [hu, Int.natAbs_mul, Int.natAbs_natCast, Nat.mul_div_cancel_left _ (by omega)]
  rw [e]
  unfold dvs
  rw [hG]
  by_cases hb : b < 0
  · have hu0 : u < 0 := by
      rcases Int.lt_or_le u 0 with z | z
      · exact z
      · have := Int.mul_nonneg (Int.le_of_lt hg) z
        omega
    rw [if_pos hb, hu, show (g : Int) * u = (-(g : Int)) * (-u) by rw [Int.neg_mul_neg], Int.mul_fdiv_cancel_left _ (by omega)]
    omega
  · have hu0 : 0 ≤ u := by
      rcases Int.lt_or_le u 0 with z | z
      · have := Int.mul_neg_of_pos_of_neg hg z
        omega
      · exact z
    rw [if_neg hb, hu, Int.mul_fdiv_cancel_left _ (by omega)]
    omega
theorem dvs_le {t b : Int} : (dvs t b).natAbs ≤ b.natAbs ∨ b = 0 := by
  by_cases h : b = 0
  · exact .inr h
  · left
    have h1 : (Int.gcd t b) ≤ b.natAbs := Nat.le_of_dvd (by omega) (Nat.gcd_dvd_right _ _)
    unfold dvs
    split <;> omega
/-- not too great -/
def Sz (n : Nat) (q : Rat) : Prop := q.num.natAbs < 2 ^ n ∧ q.den < 2 ^ n
theorem Sz.mono {m n : Nat} {q : Rat} (h : Sz m q) (l : m ≤ n) : Sz n q :=
  ⟨Nat.lt_of_lt_of_le h.1 (Nat.pow_le_pow_right (by decide) l), Nat.lt_of_lt_of_le h.2 (Nat.pow_le_pow_right (by decide) l)⟩
theorem mul_lt2 {a b m n : Nat} (ha : a < 2 ^ m) (hb : b < 2 ^ n) : a * b < 2 ^ (m + n) := by
  rw [Nat.pow_add]
  exact Nat.mul_lt_mul'' ha hb
theorem sz_divInt {n : Nat} {t b : Int} (h : b ≠ 0) (h1 : t.natAbs < 2 ^ n) (h2 : b.natAbs < 2 ^ n) : Sz n (Rat.divInt t b) := by
  constructor
  · rw [Rat.num_divInt, Int.natAbs_ediv_of_dvd]
    · refine Nat.lt_of_le_of_lt (Nat.div_le_self _ _) ?_
      rw [Int.natAbs_mul]
      have : b.sign.natAbs = 1 := Int.natAbs_sign_of_ne_zero h
      rw [this, Nat.one_mul]
      exact h1
    · exact Int.dvd_mul_of_dvd_right (Int.gcd_dvd_right b t)
  · rw [Rat.den_divInt, if_neg h]
    exact Nat.lt_of_le_of_lt (Nat.div_le_self _ _) h2
theorem add_lt2 {a b m n k : Nat} (ha : a < 2 ^ m) (hb : b < 2 ^ n) (h1 : m < k) (h2 : n < k) : a + b < 2 ^ k := by
  have e : 2 ^ k = 2 ^ (k - 1) + 2 ^ (k - 1) := by
    obtain ⟨j, rfl⟩ : ∃ j, k = j + 1 := ⟨k - 1, by omega⟩
    rw [Nat.pow_succ, Nat.add_sub_cancel]
    omega
  have h3 : 2 ^ m ≤ 2 ^ (k - 1) := Nat.pow_le_pow_right (by decide) (by omega)
  have h4 : 2 ^ n ≤ 2 ^ (k - 1) := Nat.pow_le_pow_right (by decide) (by omega)
  omega
theorem divInt_add (p q : Rat) : Rat.divInt (p.num * q.den + q.num * p.den) (p.den * q.den) = p + q := by
  have h1 : (p.den : Int) ≠ 0 := Int.natCast_ne_zero.mpr p.den_nz
  have h2 : (q.den : Int) ≠ 0 := Int.natCast_ne_zero.mpr q.den_nz
  rw [← Rat.divInt_add_divInt _ _ h1 h2, Rat.num_divInt_den, Rat.num_divInt_den]
theorem divInt_sub (p q : Rat) : Rat.divInt (p.num * q.den - q.num * p.den) (p.den * q.den) = p - q := by
  rw [Rat.sub_eq_add_neg, ← divInt_add, Rat.neg_num, Rat.neg_den, Int.neg_mul]
  rfl
theorem divInt_mul (p q : Rat) : Rat.divInt (p.num * q.num) (p.den * q.den) = p * q := by
  rw [← Rat.divInt_mul_divInt, Rat.num_divInt_den, Rat.num_divInt_den]
theorem divInt_neg (p : Rat) : Rat.divInt (-p.num) p.den = -p := by
  rw [← Rat.neg_divInt, Rat.num_divInt_den]
theorem divInt_quo (p q : Rat) : Rat.divInt (p.num * q.den) (p.den * q.num) = p / q := by
  rw [← Rat.divInt_mul_divInt, Rat.num_divInt_den, Rat.div_def, Rat.inv_def]
theorem sz_int {n : Nat} {q : Rat} (h : Sz n q) : (q.den : Int).natAbs < 2 ^ n := by rw [Int.natAbs_natCast]; exact h.2
theorem sz_add {m n k : Nat} {p q : Rat} (hp : Sz m p) (hq : Sz n q) (h : m + n < k) : Sz k (p + q) := by
  rw [← divInt_add]
  have h1 : (p.den : Int) ≠ 0 := Int.natCast_ne_zero.mpr p.den_nz
  have h2 : (q.den : Int) ≠ 0 := Int.natCast_ne_zero.mpr q.den_nz
  refine sz_divInt (Int.mul_ne_zero h1 h2) ?_ ?_
  · refine Nat.lt_of_le_of_lt (Int.natAbs_add_le _ _) ?_
    rw [Int.natAbs_mul, Int.natAbs_mul]
    exact add_lt2 (mul_lt2 hp.1 (sz_int hq)) (mul_lt2 hq.1 (sz_int hp)) h (by omega)
  · rw [Int.natAbs_mul]
    exact Nat.lt_trans (mul_lt2 (sz_int hp) (sz_int hq)) (Nat.pow_lt_pow_right (by decide) h)
theorem sz_neg {n : Nat} {p : Rat} (hp : Sz n p) : Sz n (-p) := by
  refine ⟨?_, ?_⟩
  · rw [Rat.neg_num, Int.natAbs_neg]; exact hp.1
  · rw [Rat.neg_den]; exact hp.2
theorem sz_sub {m n k : Nat} {p q : Rat} (hp : Sz m p) (hq : Sz n q) (h : m + n < k) : Sz k (p - q) := by
  rw [Rat.sub_eq_add_neg]
  exact sz_add hp (sz_neg hq) h
theorem sz_mul {m n k : Nat} {p q : Rat} (hp : Sz m p) (hq : Sz n q) (h : m + n ≤ k) : Sz k (p * q) := by
  rw [← divInt_mul]
  have h1 : (p.den : Int) ≠ 0 := Int.natCast_ne_zero.mpr p.den_nz
  have h2 : (q.den : Int) ≠ 0 := Int.natCast_ne_zero.mpr q.den_nz
  refine Sz.mono (sz_divInt (n := m + n) (Int.mul_ne_zero h1 h2) ?_ ?_) h
  · rw [Int.natAbs_mul]
    exact mul_lt2 hp.1 hq.1
  · rw [Int.natAbs_mul]
    exact mul_lt2 (sz_int hp) (sz_int hq)
theorem sz_quo {m n k : Nat} {p q : Rat} (hp : Sz m p) (hq : Sz n q) (h : m + n ≤ k) (h0 : q.num ≠ 0) : Sz k (p / q) := by
  rw [← divInt_quo]
  have h1 : (p.den : Int) ≠ 0 := Int.natCast_ne_zero.mpr p.den_nz
  refine Sz.mono (sz_divInt (n := m + n) (Int.mul_ne_zero h1 h0) ?_ ?_) h
  · rw [Int.natAbs_mul]
    exact mul_lt2 hp.1 (sz_int hq)
  · rw [Int.natAbs_mul]
    exact mul_lt2 (sz_int hp) hq.1
theorem log2_of {a n : Nat} (h : a < 2 ^ n) (hn : n ≤ 9000) : a.log2 < 9000 ∨ a.log2 < 9000 := by
  left
  rcases Nat.eq_zero_or_pos a with e | e
  · subst e; decide
  · exact Nat.lt_of_lt_of_le ((Nat.log2_lt (by omega)).mpr h) hn
theorem bits_of {a : Int} {n : Nat} (h : a.natAbs < 2 ^ n) (hn : n ≤ 9000) : Builtin.Int.intBits a ≤ 2 ^ 20 := by
  unfold Builtin.Int.intBits
  have := (log2_of h hn).elim id id
  split <;> omega
theorem mulok {a b : Int} {m n : Nat} (ha : a.natAbs < 2 ^ m) (hb : b.natAbs < 2 ^ n) (hm : m ≤ 9000 := by decide) (hn : n ≤ 9000 := by decide) : IntMulOk a b := IntMulOk.of_bits (bits_of ha hm) (bits_of hb hn)
theorem divok {a : Int} {n : Nat} {i : Int} (h0 : a ≠ 0) (ha : a.natAbs < 2 ^ n) (hn : n ≤ 9000 := by decide) : CDivZ i a := ⟨h0, (log2_of ha hn).elim id id⟩
end W1
set_option maxRecDepth 100000
set_option maxHeartbeats 2000000
namespace W1
open PySem PySem.Spec PyProof.Rows L2

/-! ### texts, slices, more of lists -/
/-- a part of a slice -/
def PR (F : Fx) (ρ : Ty) (ω : Ow) (e : Option Expr) (v : Option Int) (ω' : Ow) : Prop :=
  ∃ t, PO F.X e t ∧ ∀ σ G H, At F ω G H → Slots ρ σ G → ∀ Q : Option Int → Hp → Prop, (∀ G2 H2, Same G G2 → At F ω' G2 H2 → Q v H2) → t σ H Q
def Sop (F : Fx) (ω : Ow) (A : Rl) (lo hi : Option Int) (R : Rl) : Prop :=
  ∃ r, L2.SlR F.X r ∧ ∀ x G H, At F ω G H → A.r x G → ∀ Q : VK, (∀ v G2 H2, Same G G2 → At F ω G2 H2 → R.r v G2 → Q v H2) → r x lo hi H Q
def cutR (Rs : List Rl) (lo hi : Option Int) : List Rl := (Rs.drop (HT.sIx Rs.length 0 lo)).take (HT.sIx Rs.length Rs.length hi - HT.sIx Rs.length 0 lo)
theorem All2.drop : ∀ {Rs : List Rl} {vs : List V} {H : Hp} (n : Nat), All2 Rs vs H → All2 (Rs.drop n) (vs.drop n) H
  | _, _, _, 0, h => h
  | [], [], _, _ + 1, _ => trivial
  | _ :: _, _ :: _, _, n + 1, h => All2.drop n h.2
  | [], _ :: _, _, _ + 1, h => h.elim
  | _ :: _, [], _, _ + 1, h => h.elim
theorem All2.take : ∀ {Rs : List Rl} {vs : List V} {H : Hp} (n : Nat), All2 Rs vs H → All2 (Rs.take n) (vs.take n) H
  | _, _, _, 0, _ => trivial
  | [], [], _, _ + 1, _ => trivial
  | _ :: _, _ :: _, _, n + 1, h => ⟨h.1, All2.take n h.2⟩
  | [], _ :: _, _, _ + 1, h => h.elim
  | _ :: _, [], _, _ + 1, h => h.elim
theorem All2.rev : ∀ {Rs : List Rl} {vs : List V} {H : Hp}, All2 Rs vs H → All2 Rs.reverse vs.reverse H
  | [], [], _, _ => trivial
  | _ :: _, _ :: _, _, h => by rw [List.reverse_cons, List.reverse_cons]; exact (All2.rev h.2).app ⟨h.1, trivial⟩
  | [], _ :: _, _, h => h.elim
  | _ :: _, [], _, h => h.elim
theorem all2_vals {H : Hp} : ∀ {xs vs : List V}, All2 (xs.map rEqV) vs H → vs = xs
  | [], [], _ => rfl
  | x :: xs, v :: vs, h => by rw [show v = x from h.1, all2_vals h.2]
  | [], _ :: _, h => h.elim
  | _ :: _, [], h => h.elim
theorem vals_all2 {H : Hp} : ∀ (xs : List V), All2 (xs.map rEqV) xs H
  | [] => trivial
  | _ :: xs => ⟨rfl, vals_all2 xs⟩
section
variable {F : Fx} {ρ : Ty} {ω w w1 w2 w3 : Ow} {e o a b lo hi : Expr} {es : List Expr} {A R S : Rl} {As Rs Ss : List Rl} {pos p apos p2 p3 : Pos} {m : Str} {z y : Str} {T id : String} {v u : Option Int}
theorem str_vals {H : Hp} {ys : List Str} {vs : List V} (h : All2 (ys.map rStr) vs H) : vs = ys.map V.str := by
  refine all2_vals (H := H) ?_
  rw [List.map_map]
  exact h
theorem vals_str {H : Hp} (ys : List Str) : All2 (ys.map rStr) (ys.map V.str) H := by
  have h := vals_all2 (H := H) (ys.map V.str)
  rw [List.map_map] at h
  exact h
/-! slices -/
theorem pr_none : PR F ρ ω none none ω := ⟨_, po_none, fun σ G H at_ sl Q q => q G H (Same.refl _) at_⟩
theorem pr_some {i : Int} (h : ER F ρ ω e (rInt i) w1) : PR F ρ ω (some e) (some i) w1 := ⟨_, po_some pe_w, fun σ G H at_ sl Q q => h σ G H at_ sl _ fun v G2 H2 s a r => ⟨i, r, q G2 H2 s a⟩⟩
theorem er_slice {lo hi : Option Expr} (ho : ER F ρ ω o A w1) (hl : PR F ρ w1 lo v w2) (hh : PR F ρ w2 hi u w3) (h : Sop F w3 A v u R) : ER F ρ ω (.Subscript o (.Slice lo hi none p2) pos) R w3 := fun σ G H at_ sl Q q => by
  obtain ⟨r, hr, k⟩ := h
  obtain ⟨tl, htl, hl⟩ := hl
  obtain ⟨th, hth, hh⟩ := hh
  refine ew_of (pe_slice hr pe_w htl hth) (ho σ G H at_ sl _ fun x G1 H1 s1 a1 r1 => hl σ G1 H1 a1 (sl.up s1) _ fun G2 H2 s2 a2 => hh σ G2 H2 a2 ((sl.up s1).up s2) _ fun G3 H3 s3 a3 => ?_)
  exact k x G3 H3 a3 (A.mo _ _ _ (s2.trans s3) r1) Q fun v G4 H4 s4 a4 r4 => q v G4 H4 (((s1.trans s2).trans s3).trans s4) a4 r4
theorem sop_L : Sop F w (rLst Rs) v u (rLst (cutR Rs v u)) := ⟨_, sl_list, fun x G H at_ hx Q q => by
  obtain ⟨p, vs, rfl, h1, h2⟩ := hx
  refine ⟨p, vs, rfl, SqL.of (at_.gh _ _ h1), fun l hl => ?_⟩
  have st := Step.new (o := .lst (cutV vs v u)) at_.gh hl
  refine q _ _ _ st.gg (at_.step st) ⟨l, _, rfl, upd_same, ?_⟩
  unfold cutR cutV
  rw [h2.len]
  exact ((h2.drop _).take _).up st.gg⟩
theorem er_revL {k : Nat} {p1 p2 p3 pos : Pos} (ho : ER F ρ ω o (rLst Rs) w1) : ER F ρ ω (.Subscript o (.Slice none none (some (.UnaryOp .USub (.Constant (.int 1) k p1) p2)) p3) pos) (rLst Rs.reverse) w1 := fun σ G H at_ sl Q q => by
  refine ew_of (pe_revL pe_w) (ho σ G H at_ sl _ fun x G1 H1 s1 a1 r1 => ?_)
  obtain ⟨p, vs, rfl, h1, h2⟩ := r1
  refine ⟨p, vs, rfl, SqL.of (a1.gh _ _ h1), fun l hl => ?_⟩
  have st := Step.new (o := .lst vs.reverse) a1.gh hl
  exact q _ _ _ (s1.trans st.gg) (a1.step st) ⟨l, _, rfl, upd_same, h2.rev.up st.gg⟩
/-! operators and builtins -/
theorem iop_str {i : Int} {c : Nat} (h : atI z.cps.toList i = some c) (hz : z.length ≤ 100000) : Iop F w (rStr z) (rInt i) (rStr ⟨#[c]⟩) := ⟨_, ix_str, fun x y G H at_ hx hy Q q => ⟨z, i, c, hx, hy, Nat.le_trans hz (by decide), h, q _ G H (Same.refl _) at_ rfl⟩⟩
theorem bop_eqS : Bop F w (compareOp .Eq) (rStr z) (rStr y) (rBool (decide (z = y))) := by
  have e : decide (V.str z = V.str y) = decide (z = y) := decide_eq_decide.mpr ⟨V.str.inj, fun h => by rw [h]⟩
  rw [← e]
  exact bop_eq rfl
theorem bop_inC {c : Nat} : Bop F w (compareOp .In) (rStr ⟨#[c]⟩) (rStr z) (rBool (decide (c ∈ z.cps.toList))) := bop_of op_inS fun _ _ q => ⟨c, z, rfl, rfl, q⟩
theorem cop_all {bs : List Bool} (hc : F.X.calm = true) : Cop F w (.builtin "all") [rLst (bs.map rBool)] (rBool (bs.all _root_.id)) := ⟨_, cr_all hc, fun xs G H at_ hx Q q => by
  obtain ⟨x, rfl, p, vs, rfl, h1, h2⟩ := all1 hx
  have e : vs = bs.map V.bl := all2_vals (H := G) (by rw [List.map_map]; exact h2)
  rw [e] at h1
  exact ⟨p, bs, rfl, SqL.of (at_.gh _ _ h1), q _ G H (Same.refl _) at_ rfl⟩⟩
theorem cop_min2 {i j : Int} (hc : F.X.calm = true) : Cop F w (.builtin "min") [rInt i, rInt j] (rInt (if j < i then j else i)) := cop_of2 (call_min2 hc) fun _ _ q => ⟨i, j, rfl, q⟩
theorem it_str {tg it : Expr} (he : ER F ρ ω it (rStr z) w1) : IT F ρ ω tg it (z.cps.toList.map fun c => rStr ⟨#[c]⟩) w1 := ⟨_, pi_str pe_w, fun σ G H at_ sl R k => he σ G H at_ sl _ fun v G2 H2 s a r => by
  refine ⟨z, r, k _ G2 H2 s a ⟨fun i G' H' s1 s2 hi => ?_, fun G' H' s1 s2 => ?_, fun i R G' H' x H'' s1 s2 hR y => ?_⟩⟩
  · rw [List.length_map, Array.length_toList] at hi
    exact hi
  · rw [List.length_map, Array.length_toList]
    exact Nat.le_refl _
  · obtain ⟨rfl, c, hc, rfl⟩ := y
    rw [List.getElem?_map, Array.getElem?_toList, hc] at hR
    cases hR
    exact ⟨G', Step.refl s2, rfl⟩⟩
end
/-! str(x) by an own def -/
section
variable {X : Cx} {C g k : Nat} {fd : FuncData} {ps : List Str} {sp : Sp}
end
section
variable {F : Fx} {w : Ow} {C : Addr} {k : Nat} {pre : Pre} {fs : List (Str × Rl)} {z : Str}
end
end W1
set_option maxRecDepth 100000
set_option maxHeartbeats 2000000
namespace W1
open PySem PySem.Spec PyProof.Rows L2 TL NumText

/-! ### words of digits -/
/-! cut at the slashes -/
abbrev slash : Str := Str.ofString "/"
/-! the text of a number, read -/
def numT (i : Int) : Str := Str.ofString (toString i)
end W1
set_option maxRecDepth 100000
set_option maxHeartbeats 2000000
set_option exponentiation.threshold 20000
namespace W1
open PySem PySem.Spec PyProof.Rows L2 TL NumText

/-! ### the common draws -/
theorem lt9000 {a n : Nat} (h : a < 2 ^ n) (hn : n ≤ 9000) : a < 2 ^ 9000 := Nat.lt_of_lt_of_le h (Nat.pow_le_pow_right (by decide) hn)
theorem log_lt {a n m : Nat} (h : a < 2 ^ n) (hn : n ≤ m) (hm : 0 < m) : a.log2 < m := by
  rcases Nat.eq_zero_or_pos a with e | e
  · subst e; exact hm
  · exact Nat.lt_of_lt_of_le ((Nat.log2_lt (by omega)).mpr h) hn
/-! texts and their signs -/
/-! f"{e1}..{e2}" of ints -/
section
variable {F : Fx} {ρ : Ty} {ω w w1 w2 : Ow} {a b : Expr} {i j : Int} {t : Str} {p1 p2 p3 p4 : Pos} {k : Nat} {c : Nat} {z : Str}
theorem app_empty (a : Str) : Str.empty ++ a = a := ext_tl (by rw [tl_append]; rfl)
theorem er_f3 (ha : ER F ρ ω a (rInt i) w1) (hb : ER F ρ w1 b (rInt j) w2) (hi : i.natAbs.log2 < 1920) (hj : j.natAbs.log2 < 1920) (ht : t.length ≤ 1000) : ER F ρ ω (.JoinedStr [.FormattedValue a (-1) none p1, .Constant (.str t) k p2, .FormattedValue b (-1) none p3] p4) (rStr (numT i ++ t ++ numT j)) w2 := fun σ G H at_ sl Q q => by
  have l1 := int_text_len_1921 hi
  have l2 := int_text_len_1921 hj
  refine ew_of (pe_joined (.cons (pe_fmt pe_w) (.cons pe_str (.cons (pe_fmt pe_w) .nil)))) (ha σ G H at_ sl _ fun x G1 H1 s1 a1 r1 => .inr ⟨i, r1, hi, ⟨_, rfl, ?_, t, rfl, ?_, ?_⟩⟩)
  · rw [app_empty]
    exact Nat.le_trans l1 (by decide)
  · rw [app_empty, strlen_app]
    exact Nat.le_trans (Nat.add_le_add l1 ht) (by decide)
  · refine hb σ G1 H1 a1 (sl.up s1) _ fun y G2 H2 s2 a2 r2 => .inr ⟨j, r2, hj, ⟨_, rfl, ?_, ?_⟩⟩
    · rw [app_empty, strlen_app, strlen_app]
      exact Nat.le_trans (Nat.add_le_add (Nat.add_le_add l1 ht) l2) (by decide)
    · have := q (.str (numT i ++ t ++ numT j)) G2 H2 (s1.trans s2) a2 rfl
      rw [app_empty]
      exact this
theorem bop_niC : Bop F w (compareOp .NotIn) (rStr ⟨#[c]⟩) (rStr z) (rBool (!decide (c ∈ z.cps.toList))) := bop_of op_notInS fun _ _ q => ⟨c, z, rfl, rfl, q⟩
end
section
variable {F : Fx} {w : Ow} {Rs : List Rl}
end
end W1
set_option maxRecDepth 100000
set_option maxHeartbeats 2000000
set_option exponentiation.threshold 20000
namespace W1
open PySem PySem.Spec PyProof.Rows L2 TL NumText

/-! ### dicts: owned ones change, others are frozen for good -/
def valR (fs : List (Key × Rl)) (k : Key) : Option Rl := (fs.find? fun kv => decide (kv.1 = k)).map (·.2)
def putKR (fs : List (Key × Rl)) (k : Key) (R : Rl) : List (Key × Rl) := if (fs.any fun kv => decide (kv.1 = k)) = true then fs.map (fun kv => if kv.1 = k then (kv.1, R) else kv) else fs ++ [(k, R)]
theorem NR.val {k : Key} {H : Hp} : ∀ {fs : List (Key × Rl)} {vs : List (Key × V)}, NR fs vs H → (∀ R, valR fs k = some R → ∃ v, valV vs k = some v ∧ R.r v H) ∧ (valR fs k = none → valV vs k = none)
  | [], [], _ => ⟨fun R e => (by cases e), fun _ => rfl⟩
  | (j, S) :: fs, (j', v) :: vs, ⟨e, a, b⟩ => by
    subst e
    have ih := NR.val (k := k) b
    unfold valR valV at *
    rw [List.find?_cons, List.find?_cons]
    by_cases h : j = k
    · simp only [h, decide_true]
      refine ⟨fun R e => ⟨v, rfl, ?_⟩, fun e => (by cases e)⟩
      cases e
      exact a
    · simp only [h, decide_false]
      exact ih
  | [], _ :: _, h => h.elim
  | _ :: _, [], h => h.elim
theorem NR.any {k : Key} {H : Hp} : ∀ {fs : List (Key × Rl)} {vs : List (Key × V)}, NR fs vs H → (fs.any fun kv => decide (kv.1 = k)) = (vs.any fun kv => decide (kv.1 = k))
  | [], [], _ => rfl
  | (j, S) :: fs, (j', v) :: vs, ⟨e, a, b⟩ => by
    subst e
    rw [List.any_cons, List.any_cons, NR.any b]
  | [], _ :: _, h => h.elim
  | _ :: _, [], h => h.elim
theorem NR.app {κ : Type} {H : Hp} : ∀ {fs gs : List (κ × Rl)} {vs ws : List (κ × V)}, NR fs vs H → NR gs ws H → NR (fs ++ gs) (vs ++ ws) H
  | [], _, [], _, _, h => h
  | (_, _) :: _, _, (_, _) :: _, _, ⟨e, a, b⟩, h => ⟨e, a, NR.app b h⟩
  | [], _, _ :: _, _, h, _ => h.elim
  | _ :: _, _, [], _, h, _ => h.elim
theorem NR.putK {k : Key} {R : Rl} {v : V} {H : Hp} {fs : List (Key × Rl)} {vs : List (Key × V)} (h : NR fs vs H) (r : R.r v H) : NR (putKR fs k R) (L2.putK vs k v) H := by
  unfold putKR L2.putK
  rw [h.any]
  split
  · have go : ∀ {fs : List (Key × Rl)} {vs : List (Key × V)}, NR fs vs H → NR (fs.map fun kv => if kv.1 = k then (kv.1, R) else kv) (vs.map fun kv => if kv.1 = k then (kv.1, v) else kv) H := by
      intro fs
      induction fs with
      | nil =>
        intro vs h
        cases vs with
        | nil => exact trivial
        | cons _ _ => exact h.elim
      | cons x fs ih =>
        intro vs h
        cases vs with
        | nil => exact h.elim
        | cons y vs =>
          obtain ⟨j, S⟩ := x
          obtain ⟨j', u⟩ := y
          obtain ⟨e, a, b⟩ := h
          subst e
          rw [List.map_cons, List.map_cons]
          by_cases hj : j = k
          · simp only [hj, if_true]
            exact ⟨rfl, r, ih b⟩
          · simp only [hj, if_false]
            exact ⟨rfl, a, ih b⟩
    exact go h
  · exact h.app ⟨rfl, r, trivial⟩
theorem NR.keys {κ : Type} {H : Hp} : ∀ {fs : List (κ × Rl)} {vs : List (κ × V)}, NR fs vs H → vs.map (·.1) = fs.map (·.1)
  | [], [], _ => rfl
  | (j, S) :: fs, (j', v) :: vs, ⟨e, a, b⟩ => by
    subst e
    rw [List.map_cons, List.map_cons, NR.keys b]
  | [], _ :: _, h => h.elim
  | _ :: _, [], h => h.elim
def oD (fs : List (Key × Rl)) : Ol := ⟨fun o G => ∃ vs, o = .dK vs ∧ NR fs vs G, fun _ _ _ e ⟨vs, a, b⟩ => ⟨vs, a, b.up e⟩⟩
def rDct (fs : List (Key × Rl)) : Rl := ⟨fun v H => ∃ p od vs, v = .ref p ∧ H p = some (.frz od (.dK vs)) ∧ NR fs vs H, fun _ _ _ e ⟨p, od, vs, a, b, c⟩ => ⟨p, od, vs, a, e _ _ b, c.up e⟩⟩
/-- a dict that can be read -/
def IsDct (F : Fx) (A : Rl) (ω : Ow) (fs : List (Key × Rl)) : Prop := ∀ v G H, At F ω G H → A.r v G → ∃ p vs, v = .ref p ∧ Rd H p (.dK vs) ∧ NR fs vs G
theorem isd_frz {F : Fx} {ω : Ow} {fs : List (Key × Rl)} : IsDct F (rDct fs) ω fs := fun v G H at_ ⟨p, od, vs, e, h1, h2⟩ => ⟨p, vs, e, .inr ⟨od, at_.gh _ _ h1⟩, h2⟩
/-- the keys, as values -/
def kRs (fs : List (Key × Rl)) : List Rl := fs.map fun kv => rEqV (kV kv.1)
section
variable {X : Cx} {e : Expr} {st : List Stmt} {σ : L2.St} {H : Hp} {d : Addr} {u : HO} {D : Ends} {Q : VK}
theorem bw_lock (h : H d = some u) (mu : Mut (some u)) (k : ∀ od, BW X st D σ (upd H d (.frz od u))) : BW X st D σ H := fun pins s I => by
  obtain ⟨od, I1⟩ := I.lock h mu
  exact k od pins s I1
/-- what is made is frozen -/
theorem ew_lock (k : EW X e σ H fun v H1 => ∃ p u, v = .ref p ∧ H1 p = some u ∧ Mut (some u) ∧ ∀ od, Q v (upd H1 p (.frz od u))) : EW X e σ H Q := fun pins s I => by
  refine thn (k pins s I) fun v s1 ⟨x, H1, I1, r1, p, u, e1, e2, mu, q⟩ => ?_
  obtain ⟨od, I2⟩ := I1.lock e2 mu
  exact ⟨x, _, I2, r1, q od⟩
end
theorem At.pubF {F : Fx} {q : Addr} {O : Ol} {w : Ow} {G H : Hp} {o : HO} {od : Obj} (a : At F ((q, O) :: w) G H) (ho : H q = some o) (hq : F.H0 q = none) : At F w (upd G q (.frz od o)) (upd H q (.frz od o)) := by
  have hg : G q = none := (a.ow _ List.mem_cons_self).1
  have sg : Same G (upd G q (.frz od o)) := fun b u e => by rw [upd_ne (ne_of_none e hg)]; exact e
  have nd := List.nodup_cons.mp a.nd
  refine ⟨a.gg.trans sg, fun b u hb e => ?_, fun b u e => ?_, fun b h1 h2 => ?_, fun b hb => ?_, fun p hp => ?_, nd.2⟩
  · rw [upd_ne (fun z => by rw [z, hq] at e; cases e)]
    exact a.hh b u hb e
  · by_cases hb : b = q
    · subst hb
      rw [upd_same] at e ⊢
      exact e
    · rw [upd_ne hb] at e ⊢
      exact a.gh _ _ e
  · rw [upd_ne (fun z => h1 (by rw [z]; exact hq))]
    exact a.fr b h1 h2
  · by_cases z : b = q
    · rw [z, upd_same]; simp
    · rw [upd_ne z]; exact a.mm b hb
  · obtain ⟨x, y, u, z, c⟩ := a.ow p (List.mem_cons_of_mem _ hp)
    have ne : p.1 ≠ q := fun z => nd.1 (List.mem_map.mpr ⟨p, hp, z⟩)
    exact ⟨by rw [upd_ne ne]; exact x, y, u, by rw [upd_ne ne]; exact z, p.2.mo _ _ _ sg c⟩
section
variable {F : Fx} {ρ ρ1 : Ty} {ω w w1 w2 w3 : Ow} {e o ix a b : Expr} {A R S : Rl} {Rs : List Rl} {O : Ol} {pos p apos p2 : Pos} {K : Kn} {rest : List Stmt} {q : Addr} {fs : List (Key × Rl)} {k : Key} {n : Nat}
theorem hb_pubD (i : Nat) (hi : ρ[i]? = some (some (rRef q))) (hM : q ∉ F.M) (h : HB F (ρ.set i (some (rDct fs))) w rest K) : HB F ρ ((q, oD fs) :: w) rest K := fun σ G H D at_ sl ps => by
  obtain ⟨hg0, _, o, h1, vs, rfl, h2⟩ := at_.ow _ List.mem_cons_self
  refine bw_lock h1 True.intro fun od => ?_
  have a := at_.pubF (od := od) h1 (At.own0 at_ hM)
  have sg : Same G (upd G q (.frz od (.dK vs))) := fun b u e => by rw [upd_ne (ne_of_none e hg0)]; exact e
  obtain ⟨v, hv, rv⟩ := sl.at_ i _ hi
  cases (show v = V.ref q from rv)
  have sl2 := (sl.up sg).set i (R := rDct fs) (v := .ref q) ⟨q, od, vs, rfl, upd_same, h2.up sg⟩
  have e : σ.set i (some (V.ref q)) = σ := by
    refine List.ext_getElem? fun j => ?_
    by_cases hj : i = j
    · subst hj
      rw [hv]
      exact List.getElem?_set_self (by
        cases Nat.lt_or_ge i σ.length with
        | inl z => exact z
        | inr z => rw [List.getElem?_eq_none z] at hv; cases hv)
    · rw [List.getElem?_set_ne hj]
  rw [e] at sl2
  exact h σ _ _ D a sl2 (ps.up sg)
/-- d[k] = e -/
theorem hb_dput (he : ER F ρ ω e R w1) (ho : ER F ρ w1 o (rRef q) w2) (hi : ER F ρ w2 ix (rEqV (kV k)) ((q, oD fs) :: w3)) (hr : Room n F.X.A) (hz : fs.length ≤ 100000) (h : HB F ρ ((q, oD (putKR fs k R)) :: w3) rest K)
    (hs : swapsWith e (some (.Subscript o ix p2)) pos.line F.X.env = pure false := by rfl) : HB F ρ ω (.Assign [.Subscript o ix p2] e pos :: rest) K := hb_cons fun σ G H D at_ sl ps => by
  refine sw_of (ps_dput (by have := hr.units; omega) pe_w pe_w pe_w hs) (he σ G H at_ sl _ fun v G1 H1 s1 a1 r1 => ho σ G1 H1 a1 (sl.up s1) _ fun x G2 H2 s2 a2 r2 => hi σ G2 H2 a2 ((sl.up s1).up s2) _ fun y G3 H3 s3 a3 r3 => ?_)
  obtain ⟨_, _, ob, h1', vs, e1, h2⟩ := a3.ow _ List.mem_cons_self
  subst e1
  have s13 := (s1.trans s2).trans s3
  exact ⟨q, _, r2, .inl ⟨vs, k, h1', r3, Nat.lt_of_le_of_lt (by rw [← h2.len]; exact hz) (by decide), rfl⟩, h σ G3 _ D (a3.chg ⟨_, rfl, h2.putK (R.mo _ _ _ (s2.trans s3) r1)⟩) (sl.up s13) (ps.up s13)⟩
/-- d[k] -/
theorem er_dget (ho : ER F ρ ω o A w1) (hi : ER F ρ w1 ix (rEqV (kV k)) w2) (hd : IsDct F A w2 fs) (hR : valR fs k = some R) (hr : Room n F.X.A) (hs : NoSl ix := by exact fun _ _ => rfl) : ER F ρ ω (.Subscript o ix pos) R w2 := fun σ G H at_ sl Q z => by
  refine ew_of (pe_dget (by have := hr.units; omega) pe_w pe_w hs) (ho σ G H at_ sl _ fun x G1 H1 s1 a1 r1 => hi σ G1 H1 a1 (sl.up s1) _ fun y G2 H2 s2 a2 r2 => ?_)
  obtain ⟨p, vs, rfl, h1, h2⟩ := hd x G2 H2 a2 (A.mo _ _ _ s2 r1)
  obtain ⟨v, e1, e2⟩ := (h2.val (k := k)).1 R hR
  exact ⟨p, v, rfl, .inl ⟨vs, k, h1, r2, e1.symm⟩, z v G2 H2 (s1.trans s2) a2 e2⟩
/-- d.get(k, e) -/
theorem er_dget2 (ho : ER F ρ ω o A w1) (hi : ER F ρ w1 a (rEqV (kV k)) w2) (he : ER F ρ w2 b S w3) (hd1 : IsDct F A w1 fs) (hd : IsDct F A w3 fs) (hr : Room n F.X.A) (m : M2 F.X o "get" apos a b pos := by exact ⟨rfl, rfl, rfl, rfl⟩) : ER F ρ ω (.Call (.Attribute o "get" apos) [a, b] [] pos) ((valR fs k).getD S) w3 := fun σ G H at_ sl Q z => by
  refine ew_of (pe_dget2 (by have := hr.units; omega) pe_w pe_w pe_w m) (ho σ G H at_ sl _ fun x G1 H1 s1 a1 r1 => ?_)
  obtain ⟨p0, vs0, rfl, h0, _⟩ := hd1 x G1 H1 a1 r1
  refine ⟨p0, rfl, .inl ⟨vs0, h0⟩, hi σ G1 H1 a1 (sl.up s1) _ fun y G2 H2 s2 a2 r2 => he σ G2 H2 a2 ((sl.up s1).up s2) _ fun c G3 H3 s3 a3 r3 => ?_⟩
  have s23 := s2.trans s3
  obtain ⟨p, vs, e0, h1, h2⟩ := hd _ G3 H3 a3 (A.mo _ _ _ s23 r1)
  cases e0
  refine ⟨valV vs k, .inl ⟨vs, k, h1, r2, rfl⟩, ?_⟩
  cases e : valR fs k with
  | some R =>
    obtain ⟨v, e1, e2⟩ := (h2.val (k := k)).1 R e
    rw [e1]
    rw [e] at z
    exact z v G3 H3 (s1.trans s23) a3 e2
  | none =>
    rw [(h2.val (k := k)).2 e]
    rw [e] at z
    exact z c G3 H3 (s1.trans s23) a3 r3
/-- list(d) -/
theorem kvals {H : Hp} : ∀ {fs : List (Key × Rl)} {vs : List (Key × V)}, NR fs vs H → All2 (kRs fs) (vs.map fun kv => kV kv.1) H
  | [], [], _ => trivial
  | (j, S) :: fs, (j', v) :: vs, ⟨e, a, b⟩ => by
    subst e
    exact ⟨rfl, kvals b⟩
  | [], _ :: _, h => h.elim
  | _ :: _, [], h => h.elim
theorem cop_listD (hc : F.X.calm = true) (hd : IsDct F A w fs) : Cop F w (.type "list") [A] (rLst (kRs fs)) := ⟨_, call_listD hc, fun xs G H at_ hx Q z => by
  obtain ⟨x, rfl, hx1⟩ := all1 hx
  obtain ⟨p, vs, rfl, h1, h2⟩ := hd x G H at_ hx1
  refine ⟨p, vs, rfl, h1, fun l hl => ?_⟩
  have st := Step.new (o := .lst (vs.map fun kv => kV kv.1)) at_.gh hl
  exact z _ _ _ st.gg (at_.step st) ⟨l, _, rfl, upd_same, (kvals h2).up st.gg⟩⟩
/-- dict(d), a new one that is owned -/
theorem en_copyD {x : Str} {p0 : Pos} (he : AR F ρ ω [e] [A] w1) (hd : IsDct F A w1 fs) (hg : Gl F.X x) (hm : F.X.mg x = none) (hv : bootBuiltins x = some (.type "dict")) (hn : x ≠ "__name__" := by decide) (hdb : (x == ("__debug__" : Str)) = false := by decide)
    (hs : starEach [e] F.X.env = (false, eval e F.X.env) :: starEach [] F.X.env := by rfl) (hpl : (backTo pos (starEach [] F.X.env)).any (·.1) = false := by rfl) : EN F ρ ω (.Call (.Name x p0) [e] [] pos) (oD fs) w1 := fun σ G H at_ sl Q k => by
  refine ew_of (pe_callTy call_dictD hg hm hv pa_w hn hdb hs hpl) (he σ G H at_ sl _ fun us G1 H1 s1 a1 r1 => ?_)
  obtain ⟨v, rfl, rv⟩ := all1 r1
  obtain ⟨p, vs, rfl, h1, h2⟩ := hd v G1 H1 a1 rv
  exact ⟨p, vs, rfl, h1, fun q hq => k q G1 _ (fun hm => a1.mm q hm hq) s1 (a1.own hq ⟨vs, rfl, h2⟩)⟩
/-- for k in d -/
theorem it_keys {tg it : Expr} (he : ER F ρ ω it (rDct fs) w1) : IT F ρ ω tg it (kRs fs) w1 := ⟨_, pi_keys pe_w, fun σ G H at_ sl R k => he σ G H at_ sl _ fun v G2 H2 s a r => by
  obtain ⟨p, od, vs, rfl, h1, h2⟩ := r
  have hl : (kRs fs).length = vs.length := by unfold kRs; rw [List.length_map, h2.len]
  refine ⟨p, od, rfl, .inl ⟨vs, a.gh _ _ h1, k _ G2 H2 s a ⟨fun i G' H' s1 s2 hi => ?_, fun G' H' s1 s2 => ?_, fun i R G' H' x H'' s1 s2 hR y => ?_⟩⟩⟩
  · exact ⟨s2 _ _ (s1 _ _ h1), by rw [← hl]; exact hi⟩
  · rw [hl]
    exact ⟨s2 _ _ (s1 _ _ h1), Nat.le_refl _⟩
  · have hi : i < (kRs fs).length := (List.getElem?_eq_some_iff.mp hR).1
    obtain ⟨rfl, kk, vv, e1, rfl⟩ := y
    have e2 := (kvals h2).get hR
    obtain ⟨u, e3, e4⟩ := e2
    rw [List.getElem?_map, e1] at e3
    cases e3
    exact ⟨G', Step.refl s2, R.mo _ _ _ s1 e4⟩⟩
end
end W1
set_option maxRecDepth 100000
set_option maxHeartbeats 2000000
set_option exponentiation.threshold 20000
namespace W1
open PySem PySem.Spec PyProof.Rows L2 TL NumText

/-! ### new things, to stay as they are -/
section
variable {F : Fx} {ρ : Ty} {ω w w1 : Ow} {e : Expr} {fs : List (Key × Rl)} {Rs : List Rl}
/-- a new dict is frozen -/
theorem er_frz (h : EN F ρ ω e (oD fs) w1) : ER F ρ ω e (rDct fs) w1 := fun σ G H at_ sl Q z =>
  ew_lock (h σ G H at_ sl _ fun q G2 H2 hM s2 a2 => by
    obtain ⟨hg0, _, o, h1, vs, rfl, h2⟩ := a2.ow _ List.mem_cons_self
    refine ⟨q, _, rfl, h1, True.intro, fun od => ?_⟩
    have sg : Same G2 (upd G2 q (.frz od (.dK vs))) := fun b u e => by rw [upd_ne (ne_of_none e hg0)]; exact e
    exact z _ _ _ (s2.trans sg) (a2.pubF (od := od) h1 (At.own0 a2 hM)) ⟨q, od, vs, rfl, upd_same, h2.up sg⟩)
end
/-! ### dict comprehensions -/
def dcR {α : Type} (kf : α → Key) (B : α → Rl) (xs : List α) : List (Key × Rl) := xs.foldl (fun acc a => putKR acc (kf a) (B a)) []
theorem putKR_len (fs : List (Key × Rl)) (k : Key) (R : Rl) : (putKR fs k R).length ≤ fs.length + 1 := by
  unfold putKR
  split
  · rw [List.length_map]; omega
  · rw [List.length_append]; simp
theorem dcR_snoc {α : Type} (kf : α → Key) (B : α → Rl) (xs : List α) (a : α) : dcR kf B (xs ++ [a]) = putKR (dcR kf B xs) (kf a) (B a) := by
  unfold dcR
  rw [List.foldl_append]
  rfl
theorem fold_putKR_len {α : Type} (kf : α → Key) (B : α → Rl) : ∀ (xs : List α) (acc : List (Key × Rl)), (xs.foldl (fun acc a => putKR acc (kf a) (B a)) acc).length ≤ acc.length + xs.length
  | [], acc => by simp
  | a :: xs, acc => by
    rw [List.foldl_cons, List.length_cons]
    have h1 := fold_putKR_len kf B xs (putKR acc (kf a) (B a))
    have h2 := putKR_len acc (kf a) (B a)
    omega
theorem dcR_len {α : Type} (kf : α → Key) (B : α → Rl) (xs : List α) : (dcR kf B xs).length ≤ xs.length := by
  have := fold_putKR_len kf B xs []
  simpa [dcR] using this
section
variable {F : Fx} {ρ : Ty} {ω w1 : Ow} {tg it kx vx c : Expr} {pos spos : Pos} {scope : Scope} {own : List (Str × Nat)} {g : TG} {ifs : List Expr} {α : Type}
theorem dc_gen {xs : List α} {A B : α → Rl} {kf : α → Key} {p : α → Bool} {wi : TI} {tt : TT} {ρ' : α → Ty}
    (hwi : ∀ σ G H, At F ω G H → Slots ρ σ G → ∀ R : It → Hp → Prop, (∀ J G2 H2, Same G G2 → At F w1 G2 H2 → Yld J (xs.map A) G2 → R J H2) → wi σ H R) (hz : xs.length ≤ 100000)
    (hge : ∀ (i : Nat) a, xs[i]? = some a → GEw g (own.map (·.2)) ρ (A a) (ρ' a))
    (htt : ∀ (i : Nat) a, xs[i]? = some a → ∀ d σ2 G H, At F (d :: w1) G H → Slots (ρ' a) σ2 G → ∀ Q : Bool → Hp → Prop, (∀ G3 H3, Same G G3 → At F (d :: w1) G3 H3 → Q (p a) H3) → tt σ2 H Q)
    (hk : ∀ (i : Nat) a, xs[i]? = some a → p a = true → ∀ s H0 C cl fp d, ER (blkF F s H0 scope C cl fp) (ρ' a) (d :: w1) kx (rEqV (kV (kf a))) (d :: w1))
    (he : ∀ (i : Nat) a, xs[i]? = some a → p a = true → ∀ s H0 C cl fp d, ER (blkF F s H0 scope C cl fp) (ρ' a) (d :: w1) vx (B a) (d :: w1))
    {σ : L2.St} {G H : Hp} (at_ : At F ω G H) (sl : Slots ρ σ G) {Q : VK} (q : ∀ D G2 H2, D ∉ F.M → Same G G2 → At F ((D, oD (dcR kf B (xs.filter p))) :: w1) G2 H2 → Q (.ref D) H2) :
    tDc wi g tt (fun σ H Q => ∀ s H0 C cl fp, EW (F.X.blk s H0 scope (compEnvC scope cl C F.X.env) fp) kx σ H Q) (fun σ H Q => ∀ s H0 C cl fp, EW (F.X.blk s H0 scope (compEnvC scope cl C F.X.env) fp) vx σ H Q) (own.map (·.2)) σ H Q := by
  refine hwi σ G H at_ sl _ fun J G2 H2 s2 a2 y2 => fun D hD => ?_
  have hM : D ∉ F.M := fun hm => a2.mm D hm hD
  refine ⟨fun i m H => m = xs.length - i ∧ i ≤ xs.length ∧ ∃ G, At F ((D, oD (dcR kf B ((xs.take i).filter p))) :: w1) G H ∧ Same G2 G, ⟨xs.length, by simp, Nat.zero_le _, G2, a2.own hD ⟨[], rfl, trivial⟩, Same.refl _⟩, ?_⟩
  rintro i m H1 ⟨rfl, hi, G1, a1, s1⟩
  have hlen : (xs.map A).length = xs.length := List.length_map _
  by_cases hlt : i < xs.length
  · have hgo : xs[i]? = some xs[i] := List.getElem?_eq_getElem hlt
    have htake : xs.take (i + 1) = xs.take i ++ [xs[i]] := by rw [List.take_add_one, hgo]; rfl
    refine .inr ⟨y2.go i G1 H1 s1 a1.gh (by rw [hlen]; exact hlt), fun H' => ∃ G, At F ((D, oD (dcR kf B ((xs.take (i + 1)).filter p))) :: w1) G H' ∧ Same G2 G, fun H' z => ⟨xs.length - (i + 1), by omega, rfl, hlt, z⟩, fun x H' y => ?_⟩
    obtain ⟨G3, st, rx⟩ := y2.yld i (A xs[i]) G1 H1 x H' s1 a1.gh (by rw [List.getElem?_map, hgo]; rfl) y
    have a3 := a1.step st
    have s3 := s1.trans st.gg
    refine hge i _ hgo x σ G3 H' _ a3.gh ((sl.up s2).up s3) rx fun σ2 hw sl2 => ⟨hw, htt i _ hgo _ σ2 G3 H' a3 sl2 _ fun G4 H4 s4 a4 => ?_⟩
    cases hp : p xs[i] with
    | false =>
      refine iteF ⟨G4, ?_, s3.trans s4⟩
      rw [htake, List.filter_append, List.filter_cons, hp]
      simp only [Bool.false_eq_true, if_false, List.filter_nil, List.append_nil]
      exact a4
    | true =>
      refine iteT fun s H0 C cl fp => hk i _ hgo hp s H0 C cl fp _ σ2 G4 H4 a4.to (sl2.up s4) _ fun y G5 H5 s5 a5 r5 => fun s' H0' C' cl' fp' => he i _ hgo hp s' H0' C' cl' fp' _ σ2 G5 H5 (At.to (F := blkF F s H0 scope C cl fp) a5) ((sl2.up s4).up s5) _ fun v G6 H6 s6 a6' r6 => ?_
      have a6 : At F ((D, oD (dcR kf B ((xs.take i).filter p))) :: w1) G6 H6 := a6'.to
      obtain ⟨_, _, o, h1, vs, rfl, h2⟩ := a6.ow _ List.mem_cons_self
      have hl2 : vs.length ≤ xs.length := by
        rw [← h2.len]
        refine Nat.le_trans (dcR_len _ _ _) (Nat.le_trans (List.length_filter_le _ _) ?_)
        rw [List.length_take]
        omega
      refine ⟨vs, kf xs[i], r5, h1, Nat.lt_of_le_of_lt (Nat.le_trans hl2 hz) (by decide), G6, ?_, ((s3.trans s4).trans s5).trans s6⟩
      rw [htake, List.filter_append, List.filter_cons, hp]
      simp only [if_true, List.filter_nil]
      rw [dcR_snoc]
      exact a6.chg ⟨_, rfl, h2.putK r6⟩
  · have e : i = xs.length := by omega
    subst e
    refine .inl ⟨by have := y2.stop G1 H1 s1 a1.gh; rw [hlen] at this; exact this, ?_⟩
    rw [List.take_length] at a1
    exact q D G1 H1 hM (s2.trans s1) a1
/-- {k: v for tg in it if c} -/
theorem en_dcf {xs : List α} {A B : α → Rl} {kf : α → Key} {p : α → Bool} {ρ' : α → Ty} (hit : IT F ρ ω tg it (xs.map A) w1) (hz : xs.length ≤ 100000) (own : List (Str × Nat)) (ok : BlkOk F.X.N F.X.env.scope scope own)
    (hpg : ∀ (s : Shared) (H : Hp) (C : Addr) (cl : List (Str × Addr)) (fp : List Addr), PG (F.X.blk s H scope (compEnvC scope cl C F.X.env) fp) tg g) (hge : ∀ (i : Nat) a, xs[i]? = some a → GEw g (own.map (·.2)) ρ (A a) (ρ' a))
    (ht : ∀ (i : Nat) a, xs[i]? = some a → ∀ s H0 C cl fp d, TR (blkF F s H0 scope C cl fp) (ρ' a) (d :: w1) c (p a) (d :: w1))
    (hk : ∀ (i : Nat) a, xs[i]? = some a → p a = true → ∀ s H0 C cl fp d, ER (blkF F s H0 scope C cl fp) (ρ' a) (d :: w1) kx (rEqV (kV (kf a))) (d :: w1))
    (he : ∀ (i : Nat) a, xs[i]? = some a → p a = true → ∀ s H0 C cl fp d, ER (blkF F s H0 scope C cl fp) (ρ' a) (d :: w1) vx (B a) (d :: w1))
    (hN : F.X.N.Nodup) (hc : F.X.calm = true := by rfl) (hs : ∀ z, foldedSetIterable it F.X.env z = pure z := by intro _; rfl) : EN F ρ ω (.DictComp kx vx [⟨tg, it, [c], 0⟩] scope pos) (oD (dcR kf B (xs.filter p))) w1 := fun σ G H at_ sl Q q => by
  obtain ⟨wi, hpi, hwi⟩ := hit
  refine ew_of (pe_dc hc hN hpi ok hpg (fun _ _ _ _ _ => pts_one (t := fun σ H Q => ∀ s H0 C cl fp, TW (F.X.blk s H0 scope (compEnvC scope cl C F.X.env) fp) c σ H Q) ⟨fun pins s σ H Q I h => h _ _ _ _ _ pins s I⟩) (tk := fun σ H Q => ∀ s H0 C cl fp, EW (F.X.blk s H0 scope (compEnvC scope cl C F.X.env) fp) kx σ H Q) (fun _ _ _ _ _ => ⟨fun pins s σ H Q I h => h _ _ _ _ _ pins s I⟩) (tv := fun σ H Q => ∀ s H0 C cl fp, EW (F.X.blk s H0 scope (compEnvC scope cl C F.X.env) fp) vx σ H Q) (fun _ _ _ _ _ => ⟨fun pins s σ H Q I h => h _ _ _ _ _ pins s I⟩) hs) ?_
  exact dc_gen hwi hz hge (fun i a h d σ2 G H a1 s1 Q q => fun s H0 C cl fp => ht i a h s H0 C cl fp d σ2 G H a1.to s1 Q fun G3 H3 s3 a3 => q G3 H3 s3 a3.to) (fun i a h hp => hk i a h hp) (fun i a h hp => he i a h hp) at_ sl q
end
end W1
set_option maxRecDepth 100000
set_option maxHeartbeats 2000000
set_option exponentiation.threshold 20000
namespace W1
open PySem PySem.Spec PyProof.Rows L2 TL NumText

/-! ### names in order -/
def leS (a b : Str) : Bool := decide (tl a ≤ tl b)
def srt (xs : List Str) : List Str := xs.mergeSort leS
theorem leS_trans (a b c : Str) : leS a b = true → leS b c = true → leS a c = true := fun h1 h2 => decide_eq_true (List.le_trans (of_decide_eq_true h1) (of_decide_eq_true h2))
theorem leS_total (a b : Str) : (leS a b || leS b a) = true := by
  rw [Bool.or_eq_true]
  rcases List.le_total (tl a) (tl b) with h | h
  · exact .inl (decide_eq_true h)
  · exact .inr (decide_eq_true h)
theorem leS_anti {a b : Str} (h1 : leS a b = true) (h2 : leS b a = true) : a = b := ext_tl (List.le_antisymm (of_decide_eq_true h1) (of_decide_eq_true h2))
theorem srt_perm (xs : List Str) : (srt xs).Perm xs := List.mergeSort_perm xs leS
theorem srt_pair (xs : List Str) : (srt xs).Pairwise fun a b => leS a b = true := List.pairwise_mergeSort leS_trans leS_total xs
theorem rising_pair : ∀ (l : List Str) (p : Str), risingS p l = true → (p :: l).Pairwise fun a b => leS a b = true
  | [], p, _ => List.pairwise_cons.mpr ⟨fun _ h => (by cases h), List.Pairwise.nil⟩
  | x :: l, p, h => by
    have h' : (!PySem.Spec.ltCps x.cps.toList p.cps.toList && risingS x l) = true := h
    rw [Bool.and_eq_true] at h'
    have ih := rising_pair l x h'.2
    have e : leS p x = true := by
      have h1 : PySem.Spec.ltCps x.cps.toList p.cps.toList = false := by simpa using h'.1
      rw [ltCps_eq] at h1
      exact decide_eq_true (List.not_lt.mp (of_decide_eq_false h1))
    refine List.pairwise_cons.mpr ⟨fun y hy => ?_, ih⟩
    rcases List.mem_cons.mp hy with rfl | hy
    · exact e
    · exact leS_trans _ _ _ e ((List.pairwise_cons.mp ih).1 y hy)
theorem srt_only {xs ys : List Str} (h : ys.Perm xs) (s : sortedS ys = true) : ys = srt xs := by
  refine List.Perm.eq_of_pairwise (le := fun a b => leS a b = true) (fun a b _ _ h1 h2 => leS_anti h1 h2) ?_ (srt_pair xs) (h.trans (srt_perm xs).symm)
  cases ys with
  | nil => exact .nil
  | cons p l => exact rising_pair l p s
section
variable {F : Fx} {w : Ow} {A : Rl} {xs : List Str}
end
end W1
set_option maxRecDepth 100000
set_option maxHeartbeats 2000000
set_option exponentiation.threshold 20000
namespace W1
open PySem PySem.Spec PyProof.Rows L2 TL NumText

/-! ### == of dicts whose values are plain -/
section
variable {X : Cx}
end
section
variable {F : Fx} {w : Ow} {A B : Rl} {ks ls : List (Key × V)} {n : Nat}
end
end W1
set_option maxRecDepth 100000
set_option maxHeartbeats 2000000
set_option exponentiation.threshold 20000
namespace W1
open PySem PySem.Spec PyProof.Rows L2 TL NumText

/-! ### several clauses, each with its name -/
structure AsC where
  c : Value
  i : Nat
  ts : Addr → Value → Option Addr → TS
def goneD (D : Ends) (i : Nat) : Ends := { nx := fun τ J => D.nx (τ.set i none) J, rt := D.rt, bk := fun τ J => D.bk (τ.set i none) J, ct := fun τ J => D.ct (τ.set i none) J }
def wAsM (K : PySem.W.Frag) (W : WX) (D : Ends) : List AsC → WX
  | [] => W
  | z :: r => fun cls d τ J => ∃ b, PySem.W.exmOne K cls z.c = some b ∧ (b = true → ∀ a, J a = none → z.ts a cls d (goneD D z.i) (τ.set z.i (some (.ref a))) J) ∧ (b = false → wAsM K W D r cls d τ J)
inductive AsOk (X : Cx) : List ExceptHandler → List AsC → Prop
  | nil : AsOk X [] []
  | cons {x n : Str} {c : Value} {i : Nat} {ts : Addr → Value → Option Addr → TS} {b₀ : Stmt} {sts : List Stmt} {p p' : Pos} {hds : List ExceptHandler} {l : List AsC} (ni : X.N[i]? = some n) (lo : X.env.kindOf n = some .local) (nm : Names X x c)
      (su : ∀ (a : Addr) (oe : Obj) (cls : Value) (d : Option Addr) (pn : List (Addr × Obj)), Zc cls d oe → (∃ vs, oe.data = .fields vs) → PSs (X.suite a ((a, oe) :: pn)) (b₀ :: sts) (ts a cls d)) (r : AsOk X hds l) :
      AsOk X (.ExceptHandler (some (.Name x p)) (some n) (b₀ :: sts) p' :: hds) (⟨c, i, ts⟩ :: l)
section
variable {X : Cx} {body : List Stmt} {h₀ : ExceptHandler} {hds : List ExceptHandler} {l : List AsC} {pos : Pos} {tb : WX → TS} {W : WX}
theorem ps_tryM (es : X.stack = X.env :: X.outer) (ef : X.env.frame = some X.env.locals) (nd : X.N.Nodup) (tw : Takes X W)
    (hb : ∀ (V : WX) (pn : List (Addr × Obj)) (xe : Value → Shared → Prop), Takes (X.tr pn xe) V → PassesOwn (model X.prog X.w) X.A X.env xe → PSs (X.tr pn xe) body (tb V)) (ok : AsOk X (h₀ :: hds) l) :
    PS X (.Try body (h₀ :: hds) [] [] pos) (fun D τ J => tb (wAsM X.K W D l) D τ J) := by
  refine ⟨fun pins s τ J D I want => ?_⟩
  have kk := I.ok
  have fr0 : X.A.frames = some (X.env :: X.outer) := es ▸ kk.frames
  refine wpAny_Try_except (wpAny_mono ((hb (wAsM X.K W D l) (X.pn ++ pins) (fun e t1 => wpAny (model X.prog X.w) X.A (noteFrame e X.env) (fun _ t2 => wpAny (model X.prog X.w) X.A (setFlight e none) (fun _ t3 =>
    wpAny (model X.prog X.w) X.A (handleBy e X.env (h₀ :: hds)) (SP X pins D) X.xe t3) X.xe t2) X.xe t1) (fun u t xx => ?_) PassesOwn.looking).run [] s τ J D (I.toTry _) want) (fun fl t1 done => ?_) (fun _ _ z => z))
  · obtain ⟨a, B, t0, pins0, τ', J', cls, d, rfl, Iz, nb, up, sky, na, os, ag, w⟩ := xx
    have I' : Inv X pins τ' J' t0 := Iz.ofTry kk
    show wpAny (model X.prog X.w) X.A (noteFrame (.ref a) X.env) _ _ _
    refine Sky.land Zc.steady fr0 ef (by rw [← es]; exact sky) fun g3 la3 up3 => ?_
    have I3 : Inv X pins τ' J' { t with heap := g3 } := I'.landed nb la3.1 (up.trans up3) os ag
    obtain ⟨o3, v3, ho3, hz3, hv3⟩ := la3.there
    have out : a ∉ frs (X.env :: X.outer) := fun mem => by
      obtain ⟨_, ob, eo, nf⟩ := la3.2.2.1.mem mem
      rw [ho3] at eo
      cases eo
      exact nf _ hv3
    have n1 : a ≠ X.env.locals := fun z => out (List.mem_filterMap.mpr ⟨X.env, List.mem_cons_self, by rw [ef, z]⟩)
    have n2 : a ∉ X.fs := fun mem => by
      obtain ⟨e, me, q⟩ := List.mem_filterMap.mp mem
      exact out (List.mem_filterMap.mpr ⟨e, List.mem_cons_of_mem _ me, q⟩)
    have U3 := I3.suite ho3 hv3 na n1 n2
    have walk : ∀ {hs' : List ExceptHandler} {l' : List AsC}, AsOk X hs' l' → wAsM X.K W D l' cls d τ' J' → wpAny (model X.prog X.w) X.A (handleBy (.ref a) X.env hs') (SP X pins D) X.xe { t with heap := g3 } := by
      intro hs' l' ok'
      induction ok' with
      | nil =>
        intro w'
        refine wpAny_handleBy_nil ?_
        obtain ⟨_, _, _, oe, vs, T, _, _, eo, _, ev, e1, _⟩ := id la3
        unfold PySem.passOn
        refine wpAny_bind (wpAny_field eo ev e1 ?_)
        rw [if_neg (by simp : ¬ ((Value.ref T == Value.none) = true))]
        have last : wpAny (model X.prog X.w) X.A (setFlight (.ref a) X.env.frame) (fun _ t4 => wpAny (model X.prog X.w) X.A (throw (.ref a) : Sem Flow) (SP X pins D) X.xe t4) X.xe { t with heap := g3 } := by
          rw [ef]
          refine HandSPX.setFlight_upZ la3 fun g4 q4 up4 => wpAny_throw (tw _ _ ⟨a, B, t0, pins, τ', J', cls, d, rfl, I', nb, (up.trans up3).trans up4, .inr (.inr (by rw [es]; exact q4)), na, os, ag, w'⟩)
        first
          | exact wpAny_bind (wpAny_pure (wpAny_bind last))
          | exact wpAny_bind last
      | @cons x n c i ts b₀ sts p p' hds2 l2 ni lo nm su r ih =>
        rintro ⟨b, eb, yes, no⟩
        refine wpAny_handleBy_cons (codeAny_handlers_test ?_) (fun q => by cases q)
        have hit := PySem.W.exm_one (M := model X.prog X.w) I3.kIn (fun A Q E s k q => wpAny_typeOf_ref (k _ _ ho3) (by rw [hz3.1]; exact q)) eb
        have named : ∀ {Q E : Value → Shared → Prop}, Q c { t with heap := g3 } → wpAny (model X.prog X.w) (X.A.mark (some (.ref a))) (eval (.Name x p) X.env) Q E { t with heap := g3 } := fun {Q E} q => by
          obtain ⟨hg, hd, hm | ⟨hm, hv, hn⟩⟩ := nm
          · exact ld_glob (X := X.suite a ((a, o3) :: (X.pn ++ pins))) U3 hg hm q hd
          · exact ld_blt (X := X.suite a ((a, o3) :: (X.pn ++ pins))) U3 hg hm hv q hn hd
        refine named (hit.here ?_)
        cases b with
        | false => exact ih (no rfl)
        | true =>
          refine codeAny_handlers_suite_as (HandSPX.lands_againZ la3 fun g4 la4 up4 => ?_)
          have I4 : Inv X pins τ' J' { t with heap := g4 } := I'.landed nb la4.1 ((up.trans up3).trans up4) os ag
          obtain ⟨o4, v4, ho4, hz4, hv4⟩ := la4.there
          refine store_ok (X := X.suite a ((a, o4) :: (X.pn ++ pins))) (v := .ref a) (I4.suite ho4 hv4 na n1 n2) nd ni (.inl lo) rfl (fun t5 U5 => ?_) (.inr lo)
          refine wpAny_mono ((su a o4 cls d (X.pn ++ pins) hz4 ⟨_, hv4⟩).run [] t5 _ J' _ U5 (yes rfl a na)) (fun fl t6 res => ?_) (fun _ _ z => z.elim)
          have fin : ∀ {τ6 : L2.St} {J6 : Hp} {Q : Shared → Prop}, Inv (X.suite a ((a, o4) :: (X.pn ++ pins))) [] τ6 J6 t6 → (∀ t7, Inv X pins (τ6.set i none) J6 t7 → Q t7) → wpAny (model X.prog X.w) X.A (do bindName X.env n .none; unbindBehindTheSuite X.env n p') (fun _ t7 => Q t7) X.xe t6 :=
            fun {τ6 J6 Q} U6 k => gone_ok (U6.unsuite kk) nd ni lo k
          cases fl with
          | next => obtain ⟨_, _, U6, q6⟩ := res; exact fin U6 fun _ I7 => ⟨_, _, I7, q6⟩
          | brk => obtain ⟨_, _, U6, q6⟩ := res; exact fin U6 fun _ I7 => ⟨_, _, I7, q6⟩
          | cont => obtain ⟨_, _, U6, q6⟩ := res; exact fin U6 fun _ I7 => ⟨_, _, I7, q6⟩
          | ret u => obtain ⟨_, _, _, U6, r6, q6⟩ := res; exact fin U6 fun _ I7 => ⟨_, _, _, I7, r6, q6⟩
    exact walk ok w
  · cases fl with
    | next => obtain ⟨_, _, I', q⟩ := done; exact wpAny_execs_nil ⟨_, _, I'.ofTry kk, q⟩
    | brk => obtain ⟨_, _, I', q⟩ := done; exact ⟨_, _, I'.ofTry kk, q⟩
    | cont => obtain ⟨_, _, I', q⟩ := done; exact ⟨_, _, I'.ofTry kk, q⟩
    | ret u => obtain ⟨_, _, _, I', r, q⟩ := done; exact ⟨_, _, _, I'.ofTry kk, r, q⟩
end
end W1
set_option maxRecDepth 100000
set_option maxHeartbeats 2000000
set_option exponentiation.threshold 20000
namespace W1
open PySem PySem.Spec PyProof.Rows L2 TL NumText

/-- a clause: the class's name, the class, the slot, its name, the suite -/
structure Cla where
  x : Str
  c : Value
  i : Nat
  n : Str
  b₀ : Stmt
  sts : List Stmt
  p : Pos
  p' : Pos
def Cla.hd (z : Cla) : ExceptHandler := .ExceptHandler (some (.Name z.x z.p)) (some z.n) (z.b₀ :: z.sts) z.p'
/-- where an exception of the body goes -/
def exM (F : Fx) (K : Kn) (rest : List Stmt) : List Cla → Ty → Ow → Er → Prop
  | [], ρ, ω, P => K.ex ρ ω P
  | z :: r, ρ, ω, P =>
    (∃ C fld R, (∀ cls d G, P cls d G → erF C fld R cls d G) ∧ PySem.W.exmOne F.X.K (.ref C) z.c = some true ∧ ∀ a dd F', InSuite F F' a (.ref C) (some dd) → HB F' (ρ.set z.i (some (rExc a dd fld R))) ω (z.b₀ :: z.sts) (K.suite F rest z.i)) ∨
    ((∀ cls d G, P cls d G → PySem.W.exmOne F.X.K cls z.c = some false) ∧ exM F K rest r ρ ω P)
def Kn.tryM (K : Kn) (F : Fx) (rest : List Stmt) (cs : List Cla) : Kn := { nx := fun ρ ω => HB F ρ ω rest K, rt := K.rt, bk := K.bk, ct := K.ct, ex := exM F K rest cs }
section
variable {F : Fx} {ρ : Ty} {ω : Ow} {K : Kn} {rest body : List Stmt} {pos : Pos}
def tsM (X : Cx) (z : Cla) : Addr → Value → Option Addr → TS := fun a cls d D σ H => ∀ oe pn, Zc cls d oe → (∃ vs, oe.data = .fields vs) → BW (X.suite a ((a, oe) :: pn)) (z.b₀ :: z.sts) D σ H
theorem asOk_of {cs : List Cla} (h : ∀ z ∈ cs, F.X.N[z.i]? = some z.n ∧ F.X.env.kindOf z.n = some .local ∧ Names F.X z.x z.c) : AsOk F.X (cs.map Cla.hd) (cs.map fun z => ⟨z.c, z.i, tsM F.X z⟩) := by
  induction cs with
  | nil => exact .nil
  | cons z cs ih =>
    obtain ⟨h1, h2, h3⟩ := h z List.mem_cons_self
    exact .cons h1 h2 h3 (fun a oe cls d pn zc hd => ⟨fun pins s σ H D I k => k oe pn zc hd pins s I⟩) (ih fun y hy => h y (List.mem_cons_of_mem _ hy))
theorem exM_to {D : Ends} {G : Hp} {P : Er} {cls : Value} {d : Option Addr} {σ : L2.St} {G1 H1 : Hp} (ps : Post F K D G) (s : Same G G1) (a : At F ω G1 H1) (sl : Slots ρ σ G1) (hP : P cls d G1) :
    ∀ {cs : List Cla}, exM F K rest cs ρ ω P → wAsM F.X.K F.W { D with nx := BW F.X rest D } (cs.map fun z => ⟨z.c, z.i, tsM F.X z⟩) cls d σ H1
  | [], h => ps.ex ρ ω P h cls d σ G1 H1 s a sl hP
  | z :: cs, .inl ⟨C, fld, R, k1, k2, k3⟩ => by
    obtain ⟨rfl, dd, v, rfl, e1, e2⟩ := k1 _ _ _ hP
    refine ⟨true, k2, fun _ ax hna oe pn' zc hd => ?_, fun y => absurd y (by decide)⟩
    refine k3 ax dd ⟨F.X.suite ax ((ax, oe) :: pn'), F.G0, F.H0, F.M, fun _ _ _ _ => False, fun _ _ ⟨_, _, _, _, _, _, _, _, _, _, _, _, _, _, _, _, y⟩ => y.elim⟩ ⟨⟨oe, pn', rfl, zc, hd⟩, rfl, rfl, rfl⟩ _ G1 H1 _ a.to (sl.set z.i ⟨rfl, v, e1, e2⟩) ?_
    exact ⟨fun ρ ω k σ' G2 H2 s2 a sl => k _ G2 H2 D a.to (sl.gone z.i) (ps.up (s.trans s2)), fun R ω k v G2 H2 s2 a r => ps.rt R ω k v G2 H2 (s.trans s2) a.to r, fun ρ ω k σ' G2 H2 s2 a sl => ps.bk _ ω k _ G2 H2 (s.trans s2) a.to (sl.gone z.i), fun ρ ω k σ' G2 H2 s2 a sl => ps.ct _ ω k _ G2 H2 (s.trans s2) a.to (sl.gone z.i), fun _ _ _ k => k.elim⟩
  | z :: cs, .inr ⟨k1, k2⟩ => ⟨false, k1 _ _ _ hP, fun y => absurd y (by decide), fun _ => exM_to ps s a sl hP k2⟩
/-- try: .. except A as e: .. except B as e: .. -/
theorem hb_tryM (z : Cla) (cs : List Cla) (hb : ∀ F', InTry F F' → HB F' ρ ω body (K.tryM F rest (z :: cs))) (hs : F.X.stack = F.X.env :: F.X.outer) (hf : F.X.env.frame = some F.X.env.locals) (hN : F.X.N.Nodup)
    (h : ∀ y ∈ z :: cs, F.X.N[y.i]? = some y.n ∧ F.X.env.kindOf y.n = some .local ∧ Names F.X y.x y.c) : HB F ρ ω (.Try body (z.hd :: cs.map Cla.hd) [] [] pos :: rest) K := hb_cons fun σ G H D at_ sl ps => by
  refine sw_of (ps_tryM hs hf hN F.tk (tb := fun W D σ H => ∀ pn xe, Takes (F.X.tr pn xe) W → PassesOwn (model F.X.prog F.X.w) F.X.A F.X.env xe → BW (F.X.tr pn xe) body D σ H) (fun W pn xe tk pa => ⟨fun pins s σ H D I h => h pn xe tk pa pins s I⟩) (asOk_of (cs := z :: cs) h)) ?_
  intro pn xe tk pa
  exact hb ⟨F.X.tr pn xe, F.G0, F.H0, F.M, _, tk⟩ ⟨⟨pn, xe, rfl, pa⟩, rfl, rfl, rfl⟩ σ G H _ at_.to sl ⟨fun ρ ω k σ' G' H' s a sl => k σ' G' H' D a.to sl (ps.up s), fun R ω k v G' H' s a r => ps.rt R ω k v G' H' s a.to r, fun ρ ω k σ' G' H' s a sl => ps.bk ρ ω k σ' G' H' s a.to sl, fun ρ ω k σ' G' H' s a sl => ps.ct ρ ω k σ' G' H' s a.to sl, fun ρ ω P k cls d σ' G' H' s a sl hP => exM_to ps s a.to sl hP k⟩
end
end W1
set_option maxRecDepth 100000
set_option maxHeartbeats 2000000
set_option exponentiation.threshold 20000
namespace W1
open PySem PySem.Spec PyProof.Rows L2 TL NumText

/-! ### what is only known to be there: opened -/
def rEx {α : Type} (A : α → Rl) : Rl := ⟨fun v H => ∃ a, (A a).r v H, fun v H H' e ⟨a, h⟩ => ⟨a, (A a).mo v H H' e h⟩⟩
def oEx {α : Type} (O : α → Ol) : Ol := ⟨fun o H => ∃ a, (O a).c o H, fun o H H' e ⟨a, h⟩ => ⟨a, (O a).mo o H H' e h⟩⟩
section
variable {F : Fx} {ρ ρ' : Ty} {ω w w1 w2 : Ow} {e a b : Expr} {R S : Rl} {K : Kn} {rest : List Stmt} {q : Addr} {O O' : Ol} {α β : Type} {pos : Pos}
/-- an owned thing, told otherwise -/
theorem At.weak (h : ∀ o G, O.c o G → O'.c o G) {G H : Hp} (a : At F ((q, O) :: w) G H) : At F ((q, O') :: w) G H := by
  refine ⟨a.gg, a.hh, a.gh, a.fr, a.mm, fun p hp => ?_, a.nd⟩
  rcases List.mem_cons.mp hp with rfl | hp
  · obtain ⟨h1, h2, o, h3, h4⟩ := a.ow (q, O) List.mem_cons_self
    exact ⟨h1, h2, o, h3, h _ _ h4⟩
  · exact a.ow p (List.mem_cons_of_mem _ hp)
theorem hb_exO {B : α → Ol} (h : ∀ a, HB F ρ ((q, B a) :: w) rest K) : HB F ρ ((q, oEx B) :: w) rest K := fun σ G H D at_ sl ps => by
  obtain ⟨h1, h2, o, h3, a, h4⟩ := at_.ow (q, oEx B) List.mem_cons_self
  refine h a σ G H D ⟨at_.gg, at_.hh, at_.gh, at_.fr, at_.mm, fun p hp => ?_, at_.nd⟩ sl ps
  rcases List.mem_cons.mp hp with rfl | hp
  · exact ⟨h1, h2, o, h3, h4⟩
  · exact at_.ow p (List.mem_cons_of_mem _ hp)
theorem er_weakO (h : ∀ o G, O.c o G → O'.c o G) (k : ER F ρ ω e R ((q, O) :: w)) : ER F ρ ω e R ((q, O') :: w) := fun σ G H at_ sl Q z => k σ G H at_ sl Q fun v G2 H2 s a r => z v G2 H2 s (a.weak h) r
end
end W1
set_option maxRecDepth 100000
set_option maxHeartbeats 2000000
set_option exponentiation.threshold 20000
namespace W1
open PySem PySem.Spec PyProof.Rows L2 TL NumText

/-! ### len(d), d.clear() -/
section
variable {F : Fx} {ρ : Ty} {ω w w1 w2 : Ow} {o : Expr} {A : Rl} {fs : List (Key × Rl)} {K : Kn} {rest : List Stmt} {q : Addr} {pos p apos : Pos}
end
end W1
set_option maxRecDepth 100000
set_option maxHeartbeats 2000000
set_option exponentiation.threshold 20000
namespace W1
open PySem PySem.Spec PyProof.Rows L2 TL NumText

/-! ### f-strings, part by part: z is all that is told -/
section
variable {F : Fx} {ρ : Ty} {ω w w1 w2 : Ow} {e v1 v2 : Expr} {es : List Expr} {y z : Str} {i : Int} {k : Nat} {pos : Pos}
end
end W1
set_option maxRecDepth 100000
set_option maxHeartbeats 2000000
namespace W1
open PySem PySem.Spec PyProof.Rows L2
section
variable {F : Fx} {ρ : Ty} {ω w wc wc' : Ow} {e : Expr} {es : List Expr} {Rs : List Rl} {P : Er} {pos p : Pos} {x : Str} {k : Nat} {C : Addr} {pre : Pre}
end
end W1
set_option maxRecDepth 100000
set_option maxHeartbeats 2000000
namespace W1
open PySem PySem.Spec PyProof.Rows L2 NdefX TL NumText

/-! ### helpers for the walk by tactics -/
theorem At.perm {F : Fx} {ω ω' : Ow} {G H : Hp} (h : ω.Perm ω') (a : At F ω G H) : At F ω' G H :=
  ⟨a.gg, a.hh, a.gh, a.fr, a.mm, fun p hp => a.ow p (h.mem_iff.mpr hp), (h.map _).nodup_iff.mp a.nd⟩
theorem perm_at {w : Ow} {i : Nat} {z z' : Addr × Ol} (h : w[i]? = some z) : w.Perm (z :: w.eraseIdx i) ∧ (z' :: w.eraseIdx i).Perm (w.set i z') := by
  induction w generalizing i with
  | nil => simp at h
  | cons a l ih =>
    cases i with
    | zero =>
      simp at h
      subst h
      exact ⟨List.Perm.refl _, List.Perm.refl _⟩
    | succ i =>
      simp only [List.getElem?_cons_succ] at h
      obtain ⟨h1, h2⟩ := ih h
      simp only [List.eraseIdx_cons_succ, List.set_cons_succ]
      exact ⟨(List.Perm.cons a h1).trans (List.Perm.swap _ _ _), (List.Perm.swap _ _ _).trans (List.Perm.cons a h2)⟩
section
variable {F : Fx} {ρ : Ty} {ω w w1 w2 w3 wc wc' : Ow} {a b c e o : Expr} {es : List Expr} {A B R S : Rl} {Rs As : List Rl} {P : Er} {pos p apos : Pos} {x m : Str} {k : Nat} {C q : Addr} {pre : Pre} {O O' : Ol} {fs : List (Str × Rl)}
theorem er_perm (h : ER F ρ ω e R w1) (p : w1.Perm w2) : ER F ρ ω e R w2 := fun σ G H at_ sl Q z => h σ G H at_ sl Q fun v G2 H2 s a r => z v G2 H2 s (a.perm p) r
theorem ar_perm (h : AR F ρ ω es Rs w1) (p : w1.Perm w2) : AR F ρ ω es Rs w2 := fun σ G H at_ sl Q z => h σ G H at_ sl Q fun v G2 H2 s a r => z v G2 H2 s (a.perm p) r
theorem hb_perm {K : Kn} {rest : List Stmt} (p : w1.Perm w2) (h : HB F ρ w2 rest K) : HB F ρ w1 rest K := fun σ G H D at_ sl ps => h σ G H D (at_.perm p) sl ps
theorem er_v (i : Nat) (hN : F.X.N[i]? = some x) (h : ρ[i]? = some (some R)) (hv : Vis F.X.env.scope x := by first | exact Or.inl rfl | exact Or.inr (Or.inl rfl) | exact Or.inr (Or.inr rfl))
    (hd : (x == ("__debug__" : Str)) = false := by decide) (hcd : (x == ("__classdict__" : Str)) = false := by decide) : ER F ρ ω (.Name x pos) R ω := er_var i h hN hv hd hcd
theorem er_gI {z : Int} {tk : Tok} (hm : F.X.mg x = some (.int z tk)) (hg : Gl F.X x := by rfl) (hd : (x == ("__debug__" : Str)) = false := by decide) : ER F ρ ω (.Name x pos) (rInt z) ω := er_glob (v := .int z) hg hm ⟨tk, rfl⟩ hd
theorem er_gC (hm : F.X.mg x = some (.ref C)) (hg : Gl F.X x := by rfl) (hd : (x == ("__debug__" : Str)) = false := by decide) : ER F ρ ω (.Name x pos) (rRef C) ω := er_glob (v := .ref C) hg hm rfl hd
theorem er_bA {id : String} (ha : AR F ρ ω (e :: es) As w1) (hm : F.X.mg x = none) (hv : bootBuiltins x = some (.builtin id)) (hc : Cop F w1 (.builtin id) As R) (hg : Gl F.X x := by rfl) (hn : x ≠ "__name__" := by decide) (hdb : (x == ("__debug__" : Str)) = false := by decide)
    (he : starEach (e :: es) F.X.env = (false, eval e F.X.env) :: starEach es F.X.env := by rfl) (hpl : (backTo pos (starEach es F.X.env)).any (·.1) = false := by rfl) : ER F ρ ω (.Call (.Name x p) (e :: es) [] pos) R w1 := er_callB hc hg hm hv ha hn hdb he hpl
theorem er_tA {id : String} (ha : AR F ρ ω (e :: es) As w1) (hm : F.X.mg x = none) (hv : bootBuiltins x = some (.type id)) (hc : Cop F w1 (.type id) As R) (hg : Gl F.X x := by rfl) (hn : x ≠ "__name__" := by decide) (hdb : (x == ("__debug__" : Str)) = false := by decide)
    (he : starEach (e :: es) F.X.env = (false, eval e F.X.env) :: starEach es F.X.env := by rfl) (hpl : (backTo pos (starEach es F.X.env)).any (·.1) = false := by rfl) : ER F ρ ω (.Call (.Name x p) (e :: es) [] pos) R w1 := er_callTy hc hg hm hv ha hn hdb he hpl
/-- a def of no own things -/
theorem er_fA (T : Kf1 F.X.prog F.X.w F.X.K F.X.mg F.X.base x k pre) (hr : Room k F.X.A) (ha : AR F ρ ω (e :: es) Rs w) (hp : pre Rs [] (.ok R) [])
    (hg : Gl F.X x := by rfl) (hdb : (x == ("__debug__" : Str)) = false := by decide) (he : starEach (e :: es) F.X.env = (false, eval e F.X.env) :: starEach es F.X.env := by rfl) (hpl : (backTo pos (starEach es F.X.env)).any (·.1) = false := by rfl) :
    ER F ρ ω (.Call (.Name x p) (e :: es) [] pos) R w := er_fn0 T hr ha hp hg hdb he hpl
/-- a def to which the i-th own thing is handed over -/
theorem er_f1 (i : Nat) (T : Kf1 F.X.prog F.X.w F.X.K F.X.mg F.X.base x k pre) (hr : Room k F.X.A) (ha : AR F ρ ω (e :: es) Rs w) (hi : w[i]? = some (q, O)) (hp : pre Rs [(q, O)] (.ok R) [(q, O')])
    (hg : Gl F.X x := by rfl) (hdb : (x == ("__debug__" : Str)) = false := by decide) (he : starEach (e :: es) F.X.env = (false, eval e F.X.env) :: starEach es F.X.env := by rfl) (hpl : (backTo pos (starEach es F.X.env)).any (·.1) = false := by rfl) :
    ER F ρ ω (.Call (.Name x p) (e :: es) [] pos) R (w.set i (q, O')) :=
  er_perm (er_fn (wc := [(q, O)]) (wc' := [(q, O')]) (w := w.eraseIdx i) T hr (ar_perm ha (perm_at (z' := (q, O)) hi).1) hp rfl hg hdb he hpl) (perm_at hi).2
/-- a new thing from a def -/
theorem en_fA {pre : PreN} (T : KfN1 F.X.prog F.X.w F.X.K F.X.mg F.X.base x k pre) (hr : Room k F.X.A) (ha : AR F ρ ω (e :: es) Rs w) (hp : pre Rs [] O [])
    (hg : Gl F.X x := by rfl) (hdb : (x == ("__debug__" : Str)) = false := by decide) (he : starEach (e :: es) F.X.env = (false, eval e F.X.env) :: starEach es F.X.env := by rfl) (hpl : (backTo pos (starEach es F.X.env)).any (·.1) = false := by rfl) :
    EN F ρ ω (.Call (.Name x p) (e :: es) [] pos) O w := en_fn (wc := []) (wc' := []) T hr ha hp rfl hg hdb he hpl
theorem hb_setA {K : Kn} {rest : List Stmt} (i : Nat) (hi : F.X.N[i]? = some x) (he : ER F ρ ω e R w1) (h : HB F (ρ.set i (some R)) w1 rest K) (hN : F.X.N.Nodup := by assumption) (hx : Loc F.X.env.scope x := by first | exact Or.inl rfl | exact Or.inr rfl)
    (hs : swapsWith e (some (.Name x p)) pos.line F.X.env = pure false := by rfl) (hf : F.X.fn x = true ∨ F.X.env.scope.names.lookup x = some .local := by first | exact .inl rfl | exact .inr rfl | assumption) :
    HB F ρ ω (.Assign [.Name x p] e pos :: rest) K := hb_set i he h hN hi hx hs hf
theorem hb_setNA {K : Kn} {rest : List Stmt} (i : Nat) (hi : F.X.N[i]? = some x) (he : EN F ρ ω e O w1) (h : ∀ q, q ∉ F.M → HB F (ρ.set i (some (rRef q))) ((q, O) :: w1) rest K) (hN : F.X.N.Nodup := by assumption) (hx : Loc F.X.env.scope x := by first | exact Or.inl rfl | exact Or.inr rfl)
    (hs : swapsWith e (some (.Name x p)) pos.line F.X.env = pure false := by rfl) (hf : F.X.fn x = true ∨ F.X.env.scope.names.lookup x = some .local := by first | exact .inl rfl | exact .inr rfl | assumption) :
    HB F ρ ω (.Assign [.Name x p] e pos :: rest) K := hb_setN i he h hN hi hx hs hf
end
theorem rng_map {lo : Int} {n : Nat} : rng lo n = (List.range n).map fun (k : Nat) => rInt (lo + (k : Int)) := rfl
end W1
set_option maxRecDepth 100000
set_option maxHeartbeats 2000000
namespace W1Q
open PySem

section
variable {M : Model} {A : Around} {E : Value → Shared → Prop} {s : Shared}
end
section
variable {prog : Program} {w : World} {K : Type} [DecidableEq K] {knd : KeyKind prog w K} {A : Around} {E : Value → Shared → Prop}
/-- what one turn of the merge does -/
abbrev turn (d o : Addr) (ep : Nat) : Nat → PUnit → Sem (ForInStep PUnit) := fun i _ => do
  let here ← dictEntries o
  match here[i]? with
  | some e => do
    holding [e.key, e.val] (if false = true then do
        let f ← dictFind d e.key e.hash
        if f.isSome = true then do
            rule "dict.merge.duplicate-key"
            let x ← newExc (.type "KeyError") [e.key]
            let r ← (raiseNew x : Sem Unit)
            dictPut d e.hash e.key e.val
          else dictPut d e.hash e.key e.val
      else dictPut d e.hash e.key e.val)
    let now ← dictEpoch o
    if (now != ep) = true then do
        (unsupported "dict.changed-during-merge" : Sem Unit)
        pure (ForInStep.yield PUnit.unit)
      else pure (ForInStep.yield PUnit.unit)
  | _ => do
    (unsupported "dict.changed-during-merge" : Sem Unit)
    pure (ForInStep.yield PUnit.unit)
end
end W1Q
set_option maxRecDepth 100000
set_option maxHeartbeats 2000000
namespace W1
open PySem PySem.Spec PyProof.Rows L2 NdefX TL NumText

/-! ### {**a, **b} -/
section
variable {X : Cx} {pins : List (Addr × Obj)} {σ : L2.St} {H : Hp} {s : Shared} {A : Around} {E : Value → Shared → Prop}
end
/-! ### dicts that are handed in -/
def DIn (A : Rl) (w : Ow) (fs : List (Key × Rl)) : Prop := A = rDct fs ∨ ∃ q, A = rRef q ∧ (q, oD fs) ∈ w
def mergeR (fs gs : List (Key × Rl)) : List (Key × Rl) := gs.foldl (fun acc kv => putKR acc kv.1 kv.2) fs
theorem NR.merge {H : Hp} : ∀ {gs fs : List (Key × Rl)} {ws vs : List (Key × V)}, NR fs vs H → NR gs ws H → NR (mergeR fs gs) (mergeK vs ws) H
  | [], _, [], _, h, _ => h
  | (_, R) :: gs, fs, (_, v) :: ws, vs, h, ⟨e, a, b⟩ => by
    subst e
    exact NR.merge (gs := gs) (ws := ws) (h.putK a) b
  | [], _, _ :: _, _, _, h => h.elim
  | _ :: _, _, [], _, _, h => h.elim
section
variable {F : Fx} {ρ : Ty} {ω w w1 w2 : Ow} {a b e : Expr} {A B R : Rl} {fs gs : List (Key × Rl)} {pos : Pos} {z : Addr × Ol}
theorem At.drop {G H : Hp} (h : At F (z :: w) G H) : At F w G H := ⟨h.gg, h.hh, h.gh, h.fr, h.mm, fun p hp => h.ow p (List.mem_cons_of_mem _ hp), (List.nodup_cons.mp h.nd).2⟩
theorem DIn.mem (h : DIn A w fs) (k : ∀ z ∈ w, z ∈ w1) : DIn A w1 fs := by
  rcases h with rfl | ⟨q, rfl, h⟩
  · exact .inl rfl
  · exact .inr ⟨q, rfl, k _ h⟩
theorem DIn.cons (h : DIn A w fs) : DIn A (z :: w) fs := h.mem fun _ k => List.mem_cons_of_mem _ k
theorem DIn.ne {p : Addr} {O : Ol} {G H : Hp} {x : V} (h : DIn A w fs) (at_ : At F ((p, O) :: w) G H) (hx : A.r x G) : ∃ q vs, x = .ref q ∧ p ≠ q ∧ Rd H q (.dK vs) ∧ NR fs vs G := by
  have hp := (at_.ow _ List.mem_cons_self).1
  rcases h with rfl | ⟨q, rfl, h⟩
  · obtain ⟨q, od, vs, rfl, h1, h2⟩ := hx
    exact ⟨q, vs, rfl, fun e => (by rw [e, h1] at hp; cases hp), .inr ⟨od, at_.gh _ _ h1⟩, h2⟩
  · obtain ⟨_, _, o, h1, vs, rfl, h2⟩ := at_.ow _ (List.mem_cons_of_mem _ h)
    have nd := (List.nodup_cons.mp at_.nd).1
    exact ⟨q, vs, hx, fun e => nd (e ▸ List.mem_map_of_mem (f := (·.1)) h), .inl h1, h2⟩
end
end W1
set_option maxRecDepth 100000
set_option maxHeartbeats 2000000
namespace W1
open PySem PySem.Spec PyProof.Rows L2 NdefX TL NumText

/-! ### amounts: names to ints -/
abbrev Am := List (Str × Int)
def fsA (am : Am) : List (Key × Rl) := am.map fun p => (Sum.inr p.1, rInt p.2)
def valA (am : Am) (g : Str) : Int := ((am.find? fun p => decide (p.1 = g)).map (·.2)).getD 0
def namesA (am : Am) : List Str := am.map (·.1)
theorem valR_An {am : Am} {g : Str} (h : g ∉ namesA am) : valR (fsA am) (.inr g) = none ∧ valA am g = 0 := by
  induction am with
  | nil => exact ⟨rfl, rfl⟩
  | cons p am ih =>
    obtain ⟨n, i⟩ := p
    have hn : ¬ n = g := fun z => h (z ▸ List.mem_cons_self)
    obtain ⟨h1, h2⟩ := ih fun z => h (List.mem_cons_of_mem _ z)
    unfold valR fsA valA at *
    rw [List.map_cons, List.find?_cons, List.find?_cons]
    have e1 : decide ((Sum.inr n : Key) = Sum.inr g) = false := decide_eq_false fun z => hn (Sum.inr.inj z)
    simp only [e1, hn, decide_false]
    exact ⟨h1, h2⟩
/-- a dict that is handed in: frozen, or owned -/
def DVar (A : Rl) (w : Ow) (fs : List (Key × Rl)) : Prop := (A = rDct fs ∧ w = []) ∨ ∃ q, A = rRef q ∧ w = [(q, oD fs)]
theorem bt_list : bootBuiltins "list" = some (.type "list") := by decide +kernel
theorem bt_sorted : bootBuiltins "sorted" = some (.builtin "sorted") := by decide +kernel
section
variable {F : Fx} {ρ : Ty} {ω w : Ow} {e : Expr} {A : Rl} {am : Am} {p1 p2 pos1 pos2 : Pos}
end
/-! ### what is lent -/
def Sub (wc w : Ow) : Prop := ∃ r, w.Perm (wc ++ r)
theorem Sub.nil {w : Ow} : Sub [] w := ⟨w, List.Perm.refl _⟩
theorem Sub.refl {w : Ow} : Sub w w := ⟨[], by rw [List.append_nil]⟩
theorem Sub.app {a b : Ow} : Sub a (a ++ b) := ⟨b, List.Perm.refl _⟩
theorem Sub.cons {a w : Ow} {z : Addr × Ol} (h : Sub a w) : Sub a (z :: w) := by
  obtain ⟨r, p⟩ := h
  exact ⟨z :: r, (List.Perm.cons z p).trans List.perm_middle.symm⟩
theorem Sub.one {w : Ow} {z : Addr × Ol} (h : z ∈ w) : Sub [z] w := by
  obtain ⟨s, t, rfl⟩ := List.append_of_mem h
  exact ⟨s ++ t, List.perm_middle⟩
theorem Sub.both {a w : Ow} {z : Addr × Ol} (h : Sub a w) : Sub (z :: a) (z :: w) := by
  obtain ⟨r, p⟩ := h
  exact ⟨r, List.Perm.cons z p⟩
theorem Sub.ins {a w : Ow} {z : Addr × Ol} {i : Nat} (hi : w[i]? = some z) (h : Sub a (w.eraseIdx i)) : Sub (z :: a) w := by
  obtain ⟨r, p⟩ := h
  exact ⟨r, (perm_at (z' := z) hi).1.trans (List.Perm.cons z p)⟩
theorem DVar.sub {A : Rl} {wc w : Ow} {fs : List (Key × Rl)} (h : DVar A wc fs) (k : ∀ z ∈ wc, z ∈ w) : Sub wc w := by
  rcases h with ⟨_, rfl⟩ | ⟨q, _, rfl⟩
  · exact Sub.nil
  · exact Sub.one (k _ List.mem_cons_self)
section
variable {F : Fx} {ρ : Ty} {ω w w1 w2 w3 wc wc' : Ow} {a b c e o : Expr} {es : List Expr} {A B R S : Rl} {Rs As : List Rl} {P : Er} {pos p apos : Pos} {x m : Str} {k : Nat} {C q : Addr} {pre : Pre} {O O' : Ol} {fs : List (Str × Rl)} {K : Kn} {rest : List Stmt}
/-! ### what is given, by what holds of it -/
def EG (F : Fx) (ρ : Ty) (ω : Ow) (e : Expr) (Φ : Rl → Ow → Prop) : Prop :=
  ∀ σ G H, At F ω G H → Slots ρ σ G → ∀ Q : VK, (∀ v G2 H2 R w, Φ R w → Same G G2 → At F w G2 H2 → R.r v G2 → Q v H2) → EW F.X e σ H Q
def AG (F : Fx) (ρ : Ty) (ω : Ow) (es : List Expr) (Φ : List Rl → Ow → Prop) : Prop :=
  ∀ σ G H, At F ω G H → Slots ρ σ G → ∀ Q : List V → Hp → Prop, (∀ vs G2 H2 Rs w, Φ Rs w → Same G G2 → At F w G2 H2 → All2 Rs vs G2 → Q vs H2) → AW F.X es σ H Q
variable {Φ : Rl → Ow → Prop} {Ψ : List Rl → Ow → Prop}
theorem eg_er (h : ER F ρ ω e R w) (k : Φ R w) : EG F ρ ω e Φ := fun σ G H at_ sl Q q => h σ G H at_ sl Q fun v G2 H2 s a r => q v G2 H2 R w k s a r
theorem eg_en (h : EN F ρ ω e O w) (k : ∀ q, q ∉ F.M → Φ (rRef q) ((q, O) :: w)) : EG F ρ ω e Φ := fun σ G H at_ sl Q z => h σ G H at_ sl Q fun q G2 H2 hM s a => z _ G2 H2 _ _ (k q hM) s a rfl
theorem ag_nil (k : Ψ [] ω) : AG F ρ ω [] Ψ := fun σ G H at_ sl Q q => aw_of pa_nil (q [] G H [] ω k (Same.refl _) at_ trivial)
theorem ag_cons (h : EG F ρ ω e Φ) (hr : ∀ R w, Φ R w → AG F ρ w es fun Rs w' => Ψ (R :: Rs) w') (hs : starEach (e :: es) F.X.env = (false, eval e F.X.env) :: starEach es F.X.env := by rfl) : AG F ρ ω (e :: es) Ψ := fun σ G H at_ sl Q q =>
  aw_of (pa_cons pe_w pa_w hs) (h σ G H at_ sl _ fun v G2 H2 R w k s a r => hr R w k σ G2 H2 a (sl.up s) _ fun vs G3 H3 Rs w' k3 s3 a3 r3 => q _ G3 H3 (R :: Rs) w' k3 (s.trans s3) a3 ⟨R.mo _ _ _ s3 r, r3⟩)
theorem hb_setG (i : Nat) (hi : F.X.N[i]? = some x) (he : EG F ρ ω e Φ) (h : ∀ R w, Φ R w → HB F (ρ.set i (some R)) w rest K) (hN : F.X.N.Nodup := by assumption) (hx : Loc F.X.env.scope x := by first | exact Or.inl rfl | exact Or.inr rfl)
    (hs : swapsWith e (some (.Name x p)) pos.line F.X.env = pure false := by rfl) (hf : F.X.fn x = true ∨ F.X.env.scope.names.lookup x = some .local := by first | exact .inl rfl | exact .inr rfl | assumption) :
    HB F ρ ω (.Assign [.Name x p] e pos :: rest) K := hb_cons fun σ G H D at_ sl ps =>
  sw_of (ps_set hN hi hx pe_w hs hf) (he σ G H at_ sl _ fun v G2 H2 R w k s a r => h R w k _ G2 H2 D a ((sl.up s).set i r) (ps.up s))
/-! ### a op b op' c -/
theorem tr_chain {op op' : CmpOp} {k m : Bool} (ha : ER F ρ ω a A w1) (hb : ER F ρ w1 b B w2) (h : Bop F w2 (compareOp op) A B (rBool k)) (hc : k = true → ER F ρ w2 c S w2) (h' : k = true → Bop F w2 (compareOp op') B S (rBool m)) (hm : lastMarks [op, op'] [b, c] = false := by rfl) : TR F ρ ω (.Compare a [op, op'] [b, c] pos) (k && m) w2 := fun σ G H at_ sl Q q => by
  obtain ⟨r, ho, kk⟩ := h
  cases k with
  | true =>
    obtain ⟨r', ho', kk'⟩ := h' rfl
    refine tw_of (pt_chain ho ho' pe_w pe_w pe_w (hm := hm)) (ha σ G H at_ sl _ fun x G1 H1 s1 a1 r1 => hb σ G1 H1 a1 (sl.up s1) _ fun y G2 H2 s2 a2 r2 => ?_)
    refine kk x y G2 H2 a2 (A.mo _ _ _ s2 r1) r2 _ fun z G3 H3 s3 a3 r3 => ⟨true, r3, iteT (hc rfl σ G3 H3 a3 (sl.up ((s1.trans s2).trans s3)) _ fun u G4 H4 s4 a4 r4 => ?_)⟩
    exact kk' y u G4 H4 a4 (B.mo _ _ _ (s3.trans s4) r2) r4 _ fun z2 G5 H5 s5 a5 r5 => ⟨m, r5, q G5 H5 ((((s1.trans s2).trans s3).trans s4).trans s5) a5⟩
  | false =>
    refine tw_of (pt_chain (r' := fun _ _ _ _ => False) ho (fun _ _ _ _ _ _ _ _ _ _ _ _ h => h.elim) pe_w pe_w pe_w (hm := hm)) (ha σ G H at_ sl _ fun x G1 H1 s1 a1 r1 => hb σ G1 H1 a1 (sl.up s1) _ fun y G2 H2 s2 a2 r2 => ?_)
    refine kk x y G2 H2 a2 (A.mo _ _ _ s2 r1) r2 _ fun z G3 H3 s3 a3 r3 => ⟨false, r3, iteF ⟨false, rfl, q G3 H3 ((s1.trans s2).trans s3) a3⟩⟩
end
/-! ### dicts of plain values -/
end W1
set_option maxRecDepth 100000
set_option maxHeartbeats 2000000
namespace W1S
open PySem PySem.Spec PyProof.Rows L2

/-! ### a set of texts, by its entries -/
def nameOf (e : Int × Value) : Str := match e.2 with | .str x _ => x | _ => Str.empty
def IsTxt (w : World) (e : Int × Value) : Prop := ∃ x u, e = (hashStr w x, Value.str x u)
structure Fine (w : World) (es : Array (Int × Value)) (t : SetTable) (xs : List Str) : Prop where
  txt : ∀ e ∈ es.toList, IsTxt w e
  once : (es.toList.map nameOf).Nodup
  mem : ∀ x, x ∈ es.toList.map nameOf ↔ x ∈ xs
  few : es.size ≤ xs.length
  fits : t.fits es.size = true
  ris : Ris t.place.toList
  led : w.params.followText "set-order" = true ∨ t.led = true
section
variable {P : Program} {w : World} {es es' : Array (Int × Value)} {t t' : SetTable} {xs : List Str} {x : Str} {u : Tok}
theorem Fine.hit (f : Fine w es t xs) : x ∈ xs ↔ ∃ e ∈ es.toList, (PySem.strKind P w).is x e.2 = true := by
  rw [← f.mem, List.mem_map]
  refine exists_congr fun e => and_congr_right fun he => ?_
  obtain ⟨y, u, rfl⟩ := f.txt e he
  show y = x ↔ (Value.str y u).isStrOf x = true
  constructor
  · rintro rfl
    exact strKind_is P w y u
  · intro z
    obtain ⟨u', h⟩ := Value.isStrOf_shape z
    injection h
/-- the same entries in another order, under another table -/
theorem Fine.again (f : Fine w es t xs) (pm : es'.toList.Perm es.toList) (fits : t'.fits es'.size = true) (ris : Ris t'.place.toList) (led : t'.led = t.led) : Fine w es' t' xs where
  txt := fun e he => f.txt e (pm.mem_iff.mp he)
  once := (pm.map nameOf).nodup_iff.mpr f.once
  mem := fun x => (pm.map nameOf).mem_iff.trans (f.mem x)
  few := by rw [← Array.length_toList, pm.length_eq, Array.length_toList]; exact f.few
  fits := fits
  ris := ris
  led := by rw [led]; exact f.led
end
/-- the set of the texts xs, at a -/
def SetS (w : World) (h : Heap) (a : Addr) (xs : List Str) : Prop := ∃ o es ep t, h.get? a = some o ∧ o.ExactSet ∧ o.data = .set es ep t ∧ Fine w es t xs
section
variable {P : Program} {w : World} {A : Around} {E : Value → Shared → Prop} {s : Shared} {a : Addr} {xs : List Str}
theorem SetS.at {h h' : Heap} (S : SetS w h a xs) (k : ∀ o, h.get? a = some o → h'.get? a = some o) : SetS w h' a xs := by
  obtain ⟨o, es, ep, t, g, r⟩ := S
  exact ⟨o, es, ep, t, k o g, r⟩
end
end W1S
set_option maxRecDepth 100000
set_option maxHeartbeats 4000000
namespace W1S
open PySem PySem.Spec PyProof.Rows L2
section
variable {P : Program} {w : World} {A : Around} {E : Value → Shared → Prop} {s : Shared}
end
end W1S
set_option maxRecDepth 100000
set_option maxHeartbeats 4000000
namespace W1S
open PySem PySem.Spec PyProof.Rows L2
section
variable {P : Program} {w : World} {A : Around} {E : Value → Shared → Prop} {s : Shared}
end
end W1S
set_option maxRecDepth 100000
set_option maxHeartbeats 4000000
namespace W1S
open PySem PySem.Spec PyProof.Rows L2 TL
section
variable {P : Program} {w : World} {A : Around} {E : Value → Shared → Prop} {s : Shared}
/-- what stays while something is gathered -/
structure Kept (s s1 : Shared) : Prop where
  heap : ∀ b o, s.heap.get? b = some o → s1.heap.get? b = some o
  size : s.heap.objs.size ≤ s1.heap.objs.size
  gens : s1.gens = s.gens
  os : s1.os = s.os
end
/-! ### as calls over the layer -/
section
variable {X : Cx}
end
end W1S
namespace W1
open PySem PySem.Spec PyProof.Rows L2 NdefX TL NumText
section
variable {F : Fx} {ω w : Ow} {xs : List Str}
end
end W1
set_option maxRecDepth 100000
set_option maxHeartbeats 4000000
namespace W1S
open PySem PySem.Spec PyProof.Rows L2 TL
section
variable {prog : Program} {w : World} {A : Around} {E : Value → Shared → Prop} {s : Shared} {K : Type} [DecidableEq K] {knd : KeyKind prog w K}
end
section
variable {X : Cx}
end
end W1S
namespace W1
open PySem PySem.Spec PyProof.Rows L2 NdefX TL NumText
end W1
set_option maxRecDepth 100000
set_option maxHeartbeats 2000000
namespace W1
open PySem PySem.Spec PyProof.Rows L2 NdefX TL NumText

/-! ### freezing what others hold -/
def Fz (q : Addr) (fs : List (Key × Rl)) (G : Hp) : Prop := ∃ od vs, G q = some (.frz od (.dK vs)) ∧ NR fs vs G
def Tr (q : Addr) (fs : List (Key × Rl)) (R R' : Rl) : Prop := ∀ v G, Fz q fs G → R.r v G → R'.r v G
def TrO (q : Addr) (fs : List (Key × Rl)) (O O' : Ol) : Prop := ∀ o G, Fz q fs G → O.c o G → O'.c o G
inductive TrL (q : Addr) (fs : List (Key × Rl)) : List Rl → List Rl → Prop where
  | nil : TrL q fs [] []
  | cons {R R' : Rl} {Rs Rs' : List Rl} (h : Tr q fs R R') (t : TrL q fs Rs Rs') : TrL q fs (R :: Rs) (R' :: Rs')
inductive TrS (q : Addr) (fs : List (Key × Rl)) : Ty → Ty → Prop where
  | nil : TrS q fs [] []
  | gone {ρ ρ' : Ty} {R : Option Rl} (t : TrS q fs ρ ρ') : TrS q fs (R :: ρ) (Option.none :: ρ')
  | held {ρ ρ' : Ty} {R R' : Rl} (h : Tr q fs R R') (t : TrS q fs ρ ρ') : TrS q fs (Option.some R :: ρ) (Option.some R' :: ρ')
inductive TrW (q : Addr) (fs : List (Key × Rl)) : Ow → Ow → Prop where
  | nil : TrW q fs [] []
  | cons {p : Addr} {O O' : Ol} {w w' : Ow} (h : TrO q fs O O') (t : TrW q fs w w') : TrW q fs ((p, O) :: w) ((p, O') :: w')
section
variable {q : Addr} {fs : List (Key × Rl)} {R : Rl} {O : Ol} {Rs Rs' : List Rl} {ρ ρ' : Ty} {w w' : Ow}
theorem Tr.same : Tr q fs R R := fun _ _ _ h => h
theorem TrO.same : TrO q fs O O := fun _ _ _ h => h
theorem Tr.ref : Tr q fs (rRef q) (rDct fs) := fun v G ⟨od, vs, a, b⟩ e => ⟨q, od, vs, e, a, b⟩
theorem TrL.all (t : TrL q fs Rs Rs') : ∀ {vs : List V} {G : Hp}, Fz q fs G → All2 Rs vs G → All2 Rs' vs G := by
  induction t with
  | nil => intro vs G _ h; exact h
  | cons h t ih =>
    intro vs G z a
    match vs, a with
    | v :: vs, ⟨a1, a2⟩ => exact ⟨h v G z a1, ih z a2⟩
theorem Tr.lst (t : TrL q fs Rs Rs') : Tr q fs (rLst Rs) (rLst Rs') := fun v G z ⟨p, vs, a, b, c⟩ => ⟨p, vs, a, b, t.all z c⟩
theorem TrO.lst (t : TrL q fs Rs Rs') : TrO q fs (oL Rs) (oL Rs') := fun o G z ⟨vs, a, c⟩ => ⟨vs, a, t.all z c⟩
theorem TrL.refl : ∀ {Rs : List Rl}, TrL q fs Rs Rs
  | [] => .nil
  | _ :: _ => .cons Tr.same TrL.refl
theorem TrW.refl : ∀ {w : Ow}, TrW q fs w w
  | [] => .nil
  | _ :: _ => .cons TrO.same TrW.refl
theorem TrS.refl : ∀ {ρ : Ty}, TrS q fs ρ ρ
  | [] => .nil
  | none :: _ => .gone TrS.refl
  | some _ :: _ => .held Tr.same TrS.refl
theorem TrS.at (t : TrS q fs ρ ρ') : ρ.length = ρ'.length ∧ ∀ (i : Nat) R', ρ'[i]? = some (some R') → ∃ R, ρ[i]? = some (some R) ∧ Tr q fs R R' := by
  induction t with
  | nil => exact ⟨rfl, fun i R' e => by simp at e⟩
  | gone t ih =>
    refine ⟨by rw [List.length_cons, List.length_cons, ih.1], fun i R' e => ?_⟩
    cases i with
    | zero => cases e
    | succ i => exact ih.2 i R' e
  | held h t ih =>
    refine ⟨by rw [List.length_cons, List.length_cons, ih.1], fun i R' e => ?_⟩
    cases i with
    | zero =>
      cases e
      exact ⟨_, rfl, h⟩
    | succ i => exact ih.2 i R' e
theorem TrW.at (t : TrW q fs w w') : keys w = keys w' ∧ ∀ p ∈ w', ∃ O, (p.1, O) ∈ w ∧ TrO q fs O p.2 := by
  induction t with
  | nil => exact ⟨rfl, fun p h => by cases h⟩
  | @cons p O O' w w' h t ih =>
    refine ⟨by unfold keys at ih ⊢; rw [List.map_cons, List.map_cons, ih.1], fun z hz => ?_⟩
    rcases List.mem_cons.mp hz with rfl | hz
    · exact ⟨O, List.mem_cons_self, h⟩
    · obtain ⟨O2, h1, h2⟩ := ih.2 z hz
      exact ⟨O2, List.mem_cons_of_mem _ h1, h2⟩
end
section
variable {F : Fx} {ρ ρ' : Ty} {ω w w' w1 w2 : Ow} {e a b o : Expr} {es : List Expr} {R : Rl} {Rs As : List Rl} {O : Ol} {q : Addr} {fs : List (Key × Rl)} {K : Kn} {rest : List Stmt} {pos p : Pos} {x : Str}
/-! ### a new thing from a built-in, from a method -/
/-! ### a comprehension whose elements may make new things -/
variable {tg it elt : Expr} {scope : Scope} {S : Rl}
theorem eg_lc1 {Φ : Rl → Ow → Prop} (i : Nat) (hi : F.X.N[i]? = some x) (hpg : ∀ (s : Shared) (H : Hp) (C : Addr) (cl : List (Str × Addr)) (fp : List Addr), PG (F.X.blk s H scope (compEnvC scope cl C F.X.env) fp) (.Name x p) (gName i))
    (ok : BlkOk F.X.N F.X.env.scope scope [(x, i)]) (hit : IT F ρ ω (.Name x p) it Rs w1) (hz : Rs.length ≤ 100000) (I : Nat → List Rl → Ow → Prop) (h0 : I 0 [] w1)
    (he : ∀ (j : Nat) S Bs w, Rs[j]? = some S → I j Bs w → ∀ s H0 C cl fp d, EG (blkF F s H0 scope C cl fp) ((ρ.set i none).set i (some S)) (d :: w) elt fun R w' => ∃ w2, w'.Perm (d :: w2) ∧ I (j + 1) (Bs ++ [R]) w2)
    (hl : ∀ j Bs w, I j Bs w → Bs.length = j) (hf : ∀ Bs w, I Rs.length Bs w → Φ (rLst Bs) w)
    (hN : F.X.N.Nodup := by assumption) (hc : F.X.calm = true := by rfl) (hs : ∀ z, foldedSetIterable it F.X.env z = pure z := by intro _; rfl) : EG F ρ ω (.ListComp elt [⟨.Name x p, it, [], 0⟩] scope pos) Φ := fun σ G H at_ sl Q q => by
  obtain ⟨wi, hpi, hwi⟩ := hit
  refine ew_of (pe_lc hc hN hpi ok hpg (fun _ _ _ _ _ => pts_nil) (te := fun σ H Q => ∀ s H0 C cl fp, EW (F.X.blk s H0 scope (compEnvC scope cl C F.X.env) fp) elt σ H Q) (fun _ _ _ _ _ => ⟨fun pins s σ H Q I h => h _ _ _ _ _ pins s I⟩) hs) ?_
  refine hwi σ G H at_ sl _ fun J G2 H2 s2 a2 y2 => fun D hD => ?_
  have hM : D ∉ F.M := fun hm => a2.mm D hm hD
  refine ⟨fun j m H => m = Rs.length - j ∧ j ≤ Rs.length ∧ ∃ G Bs w, At F ((D, oL Bs) :: w) G H ∧ Same G2 G ∧ I j Bs w, ⟨Rs.length, by simp, Nat.zero_le _, G2, [], w1, a2.own hD ⟨[], rfl, trivial⟩, Same.refl _, h0⟩, ?_⟩
  rintro j m H1 ⟨rfl, hj, G1, Bs, w, a1, s1, inv⟩
  by_cases hlt : j < Rs.length
  · have hgo : Rs[j]? = some Rs[j] := List.getElem?_eq_getElem hlt
    refine .inr ⟨y2.go j G1 H1 s1 a1.gh hlt, fun H' => ∃ G Bs w, At F ((D, oL Bs) :: w) G H' ∧ Same G2 G ∧ I (j + 1) Bs w, fun H' z => ⟨Rs.length - (j + 1), by omega, rfl, hlt, z⟩, fun v H' y => ?_⟩
    obtain ⟨G3, st, rx⟩ := y2.yld j Rs[j] G1 H1 v H' s1 a1.gh hgo y
    have a3 := a1.step st
    have s3 := s1.trans st.gg
    refine gew_name v σ G3 H' _ a3.gh ((sl.up s2).up s3) rx fun σ2 hw sl2 => ⟨hw, ?_⟩
    unfold tYes
    dsimp only
    rw [if_pos rfl]
    intro s H0 C cl fp
    refine he j _ Bs w hgo inv s H0 C cl fp (D, oL Bs) σ2 G3 H' a3.to sl2 _ ?_
    rintro u G5 H5 R w' ⟨w2, pm, inv2⟩ s5 a5' r5
    have a5 : At F ((D, oL Bs) :: w2) G5 H5 := (At.to (F := blkF F s H0 scope C cl fp) (F' := F) a5').perm pm
    obtain ⟨_, _, ob, h1, vs, rfl, h2⟩ := a5.ow _ List.mem_cons_self
    refine ⟨vs, h1, Nat.lt_of_le_of_lt (by rw [← h2.len, hl _ _ _ inv]; exact Nat.le_trans hj hz) (by decide), G5, Bs ++ [R], w2, a5.chg ⟨_, rfl, h2.app (mk1 r5)⟩, s3.trans s5, inv2⟩
  · have ej : j = Rs.length := by omega
    subst ej
    refine .inl ⟨y2.stop G1 H1 s1 a1.gh, ?_⟩
    obtain ⟨hg0, _, ob, h1, vs, rfl, h2⟩ := a1.ow _ List.mem_cons_self
    have a5 := a1.pub h1 (At.own0 a1 hM)
    have sg : Same G1 (upd G1 D (.lst vs)) := fun b u e => by rw [upd_ne (ne_of_none e hg0)]; exact e
    exact q _ _ _ _ _ (hf Bs w inv) ((s2.trans s1).trans sg) a5 ⟨D, vs, rfl, upd_same, h2.up sg⟩
end
/-! ### == of dicts inside lists -/
end W1
set_option maxRecDepth 100000
set_option maxHeartbeats 2000000
namespace W1
open PySem PySem.Spec PyProof.Rows L2 TL NumText

/-! ### data, compared whole -/
section
variable {K : PySem.W.Frag} {A : Rl} {As : List Rl} {d e : PyData} {ds : List PyData}
end
section
variable {F : Fx} {w : Ow} {A B : Rl} {d e : PyData} {n : Nat}
theorem bop_notNo {A : Rl} (h : ∀ v G, A.r v G → ∃ p, v = .ref p) : Bop F w (compareOp .IsNot) A rNon (rBool true) := ⟨_, op_notN, fun x y G H at_ hx hy Q q => by
  obtain ⟨p, rfl⟩ := h x G hx
  exact ⟨hy, q _ G H (Same.refl _) at_ rfl⟩⟩
end
/-! ### a text, some times over -/
/-! ### range by steps, enumerate -/
theorem fits {i : Int} (h1 : -2000000 ≤ i) (h2 : i ≤ 2000000) : Builtin.Range.rangeFitsLong i = true := by
  unfold Builtin.Range.rangeFitsLong
  rw [decide_eq_true (by omega), decide_eq_true (by omega)]
  rfl
section
variable {F : Fx} {ρ ρ1 : Ty} {ω w1 : Ow} {tg e e2 e3 : Expr} {pos p : Pos} {Rs : List Rl} {R : Rl}
/-- the things with their numbers -/
def numR (Rs : List Rl) : List Rl := Rs.zipIdx.map fun p => rTup [rInt (p.2 : Int), p.1]
theorem numR_len : (numR Rs).length = Rs.length := by unfold numR; rw [List.length_map, List.length_zipIdx]
theorem numR_get {i : Nat} {S : Rl} (h : (numR Rs)[i]? = some S) : ∃ R, Rs[i]? = some R ∧ S = rTup [rInt (i : Int), R] := by
  unfold numR at h
  rw [List.getElem?_map, List.getElem?_zipIdx] at h
  cases e : Rs[i]? with
  | none => rw [e] at h; cases h
  | some R =>
    rw [e] at h
    cases h
    exact ⟨R, rfl, by show rTup [rInt ((0 + i : Nat) : Int), R] = _; rw [Nat.zero_add]⟩
theorem yld_num {K : PySem.W.Frag} {a : Addr} {vs : List V} {G : Hp} (h1 : SqL K G a vs) (h2 : All2 Rs vs G) : Yld (Ite K a) (numR Rs) G where
  go := fun i G' H' s1 s2 hi => by
    rw [numR_len, h2.len] at hi
    exact ⟨vs, vs[i], sql_up (s1.trans s2) h1, List.getElem?_eq_getElem hi⟩
  stop := fun G' H' s1 s2 => ⟨vs, sql_up (s1.trans s2) h1, by rw [numR_len, h2.len]; exact Nat.le_refl _⟩
  yld := fun i S G' H' x H'' s1 s2 hS y => by
    obtain ⟨T, u, rfl, hT, rfl, hu⟩ := y
    obtain ⟨R, hR, rfl⟩ := numR_get hS
    obtain ⟨v, hv, rv⟩ := h2.get hR
    have e := hu vs (sql_up (s1.trans s2) h1)
    rw [hv] at e
    cases e
    have st := Step.new (o := .tup [.int (i : Nat), u]) s2 hT
    exact ⟨_, st, T, _, rfl, upd_same, mk2 rfl (R.mo _ _ _ (s1.trans st.gg) rv)⟩
theorem it_enumL {elts : List Expr} {kk : Nat} {tpos : Pos} (he : AR F ρ ω [e] [rLst Rs] w1) (hg : Gl F.X "enumerate") (hm : F.X.mg "enumerate" = none) (hs : starEach [e] F.X.env = [(false, eval e F.X.env)] := by rfl) :
    IT F ρ ω (.Tuple elts kk tpos) (.Call (.Name "enumerate" p) [e] [] pos) (numR Rs) w1 := ⟨_, pi_enum hg hm pa_w hs, fun σ G H at_ sl R k => he σ G H at_ sl _ fun vs G2 H2 s a r => by
  obtain ⟨x, rfl, p', us, rfl, h1, h2⟩ := all1 r
  exact ⟨p', us, rfl, SqL.of (a.gh _ _ h1), k _ G2 H2 s a (yld_num (SqL.of h1) h2)⟩⟩
end
/-! ### l += a list, l an owned one; len of an owned one -/
section
variable {X : Cx}
end
end W1
set_option maxRecDepth 100000
set_option maxHeartbeats 2000000
namespace W1
open PySem PySem.Spec PyProof.Rows L2 TL NumText

/-! ### sorted, of any length -/
/-- a call, by what it does -/
theorem callR_sem {X : Cx} {f : Value} {T : List V → Hp → VK → Prop} (h : ∀ pins s σ H xs us Q, Inv X pins σ H s → Vals xs us → T xs H Q → wpAny (model X.prog X.w) X.A (call f us) (EP X pins σ Q) X.xe s) : CallR X f T := fun pins s σ H xs us Q I r t => h pins s σ H xs us Q I r t
/-- what stands in a new list behind a call -/
theorem new_list {X : Cx} {pins : List (Addr × Obj)} {σ : L2.St} {H : Hp} {s : Shared} {vs out : List Value} {ws : List V} {Q : VK} (I : Inv X pins σ H s) (r : Vals ws out) (hz : ws.length ≤ sizeLine) (q : ∀ p, H p = none → Q (.ref p) (upd H p (.lst ws))) :
    EP X pins σ Q (.ref (s.heap.objs.size + 1)) { s with heap := sortedAll s.heap vs out.toArray } := by
  obtain ⟨ep, h⟩ := sortedAll_at s.heap vs out.toArray
  exact ⟨.ref (s.heap.objs.size + 1), upd H (s.heap.objs.size + 1) (.lst ws), I.laid (t' := s.toks) (o := .lst ws) (fun _ _ => sortedAll_old) (Nat.le_succ _) ⟨hz, out, ep, r, h⟩, rfl, q _ (I.hok.fresh (Nat.le_succ _))⟩
def rSortA (K : PySem.W.Frag) : List V → Hp → VK → Prop := fun vs H Q => ∃ (a : Addr) (xs : List Str), vs = [V.ref a] ∧ SqL K H a (xs.map V.str) ∧ ∀ p, H p = none → Q (.ref p) (upd H p (.lst ((srt xs).map V.str)))
theorem cr_sortA {X : Cx} : CallR X (.builtin "sorted") (rSortA X.K) := callR_sem fun pins s σ H vs us Q I r t => by
  obtain ⟨a, xs, rfl, hs, q⟩ := t
  obtain ⟨its, rv, hl, hz⟩ := I.list hs
  cases r with
  | cons r0 r1 =>
    cases r1
    cases r0
    refine sorted_strsAny hl.isList rv.strs (by rw [← rv.length]; exact hz) fun out ys h1 h2 h3 => ?_
    have e := srt_only h2 h3
    subst e
    have z : ((srt xs).map V.str).length ≤ sizeLine := by
      rw [List.length_map, (srt_perm xs).length_eq]
      rw [List.length_map] at hz
      exact hz
    have := new_list (vs := its) (out := out.toList) (ws := (srt xs).map V.str) (Q := Q) I (vals_of_strs h1) z q
    exact this
theorem copA {F : Fx} {w : Ow} {xs : List Str} : Cop F w (.builtin "sorted") [rLst (xs.map rStr)] (rLst ((srt xs).map rStr)) := ⟨_, cr_sortA, fun us G H at_ hx Q q => by
  obtain ⟨x, rfl, p, vs, rfl, h1, h2⟩ := all1 hx
  rw [str_vals h2] at h1
  refine ⟨p, xs, rfl, SqL.of (at_.gh _ _ h1), fun l hl => ?_⟩
  have st := Step.new (o := .lst ((srt xs).map V.str)) at_.gh hl
  exact q _ _ _ st.gg (at_.step st) ⟨l, _, rfl, upd_same, vals_str _⟩⟩
/-! ### sorted pairs of a name and a number -/
def shP : Nat → Bool := fun i => i == 0
def keyP (p : Str × Int) : List (Int ⊕ List Nat) := [.inr (tl p.1), .inl p.2]
/-- such a pair in the heap -/
def IsP (h : Heap) (u : Value) (p : Str × Int) : Prop := ∃ t o t1 t2 n, u = .ref t ∧ h.get? t = some o ∧ o.cls = .type "tuple" ∧ o.data = .seq #[.str p.1 t1, .int p.2 t2] n
theorem IsP.key {h : Heap} {u : Value} {p : Str × Int} (k : IsP h u p) : tupKey h shP u = some (keyP p) := by
  obtain ⟨t, o, t1, t2, n, rfl, ho, hc, hd⟩ := k
  unfold tupKey
  simp only [ho, hd, tupItems, shP]
  rfl
theorem IsP.up {h h' : Heap} {u : Value} {p : Str × Int} (k : IsP h u p) (s : ∀ b o, h.get? b = some o → o.cls = .type "tuple" → h'.get? b = some o) : IsP h' u p := by
  obtain ⟨t, o, t1, t2, n, e, ho, hc, hd⟩ := k
  exact ⟨t, o, t1, t2, n, e, s _ _ ho hc, hc, hd⟩
/-! ### lists that are owned: len, a text's split as one, += -/
section
variable {F : Fx} {ρ : Ty} {ω w w1 w2 : Ow} {e o : Expr} {es : List Expr} {A R : Rl} {As Rs Ss : List Rl} {K : Kn} {rest : List Stmt} {q : Addr} {pos p apos : Pos} {x : Str} {y z : Str}
theorem cop_lenO (h : (q, oL Rs) ∈ w) : Cop F w (.builtin "len") [rRef q] (rInt (Rs.length : Int)) := by
  refine ⟨_, call_len_seq, fun xs G H at_ hx Q k => ?_⟩
  obtain ⟨v, rfl, hv⟩ := all1 hx
  cases (show v = V.ref q from hv)
  obtain ⟨_, _, o, h1, vs, rfl, h2⟩ := at_.ow _ h
  have e2 : (vs.length : Int) = (Rs.length : Int) := by rw [h2.len]
  exact ⟨q, vs, rfl, .inl (SqL.of h1), k _ G H (Same.refl _) at_ (congrArg V.int e2)⟩
end
end W1
set_option maxRecDepth 100000
set_option maxHeartbeats 2000000
namespace W1
open PySem PySem.Spec PyProof.Rows L2 TL NumText

/-! ### a comprehension that carries a state from turn to turn: tested, then made -/
section
variable {F : Fx} {ρ : Ty} {ω w w1 w2 : Ow} {e o it elt c : Expr} {es : List Expr} {A R : Rl} {As Rs Ss : List Rl} {K : Kn} {rest : List Stmt} {q : Addr} {pos p apos spos py : Pos} {x y : Str} {scope : Scope} {α β γ : Type}
/-! ### l += a list; a split that is owned -/
end
end W1
set_option maxRecDepth 100000
set_option maxHeartbeats 2000000
namespace W1
open PySem PySem.Spec PyProof.Rows L2 TL NumText
section
variable {F : Fx} {ρ : Ty} {ω w1 w2 : Ow} {a b : Expr} {A : Rl} {fs : List (Key × Rl)} {k : Key} {n : Nat} {pos : Pos}
end
end W1
set_option maxRecDepth 100000
set_option maxHeartbeats 2000000
namespace W1
open PySem PySem.Spec PyProof.Rows L2 TL NumText
/-! ### what raises inside: arguments, a if c else b -/
section
variable {F : Fx} {ρ : Ty} {ω w w1 w2 : Ow} {a b c e : Expr} {es : List Expr} {R : Rl} {P : Er} {pos p : Pos} {x : Str} {k : Nat} {C : Addr} {pre : Pre}
end
/-! ### cut at a sign, or at some -/
end W1
set_option maxRecDepth 100000
set_option maxHeartbeats 2000000
namespace W1
open PySem PySem.Spec PyProof.Rows L2 TL NumText
/-! ### a comprehension over pairs -/
theorem gew_tup2 {K : PySem.W.Frag} {i j : Nat} {ρ : Ty} {R S : Rl} : GEw (gTup K 2 (gCons (gName i) (gCons (gName j) gNil))) [i, j] ρ (rTup [R, S]) ((((ρ.set j none).set i none).set i (some R)).set j (some S)) := fun v σ G H Q s sl r q => by
  obtain ⟨a, vs, rfl, h1, h2⟩ := r
  obtain ⟨x, y, rfl, hx, hy⟩ := all2 h2
  refine ⟨a, [x, y], rfl, SqT.of (s _ _ h1), rfl, x, [y], rfl, y, [], rfl, rfl, q _ ?_ ((((sl.gone j).gone i).set i hx).set j hy)⟩
  show (((((σ.set j none).set i none).set i (some x)).set j (some y)).set j none).set i none = (σ.set j none).set i none
  by_cases e : i = j
  · subst e
    simp only [List.set_set]
  · simp only [List.set_set, List.set_comm (i := i) (j := j) _ _ e]
/-! ### a thing that is known by a property -/
section
variable {F : Fx} {ρ : Ty} {ω w : Ow} {K : Kn} {rest : List Stmt} {L : Nat}
end
/-! ### lengths and signs of what is cut and joined -/
end W1
set_option maxRecDepth 100000
set_option maxHeartbeats 2000000
namespace W1
open PySem PySem.Spec PyProof.Rows L2

/-! ### promises of several new things -/
abbrev OutG := Except (Er × Ow) (Rl → Ow → Prop)
abbrev PreG := List Rl → Ow → OutG → Prop
def Fresh (ω ω' : Ow) (H : Hp) : Prop := (keys ω').Nodup ∧ (∀ a ∈ keys ω, a ∈ keys ω') ∧ ∀ a ∈ keys ω', a ∈ keys ω ∨ H a = none
def spG (pre : PreG) : Sp := fun vs H Q E => ∃ Rs ω o G, pre Rs ω o ∧ Same G H ∧ All2 Rs vs G ∧ Has ω G H ∧ (keys ω).Nodup ∧
  (match o with
    | .ok Φ => ∀ R ω' v G' H', Φ R ω' → Fresh ω ω' H → StepM (keys ω) G H G' H' → Has ω' G' H' → R.r v G' → Q v H'
    | .error P => keys P.2 = keys ω ∧ ∀ cls d G' H', StepM (keys ω) G H G' H' → Has P.2 G' H' → P.1 cls d G' → E cls d H')
def KfG (ω : Ow) (o : OutG) : Kn where
  nx := fun _ w => ∃ Φ R ω' w0, o = .ok Φ ∧ Φ R ω' ∧ (∀ G, R.r .non G) ∧ (∀ a ∈ keys ω, a ∈ keys ω') ∧ w.Perm (ω' ++ w0)
  rt := fun S w => ∃ Φ R ω' w0, o = .ok Φ ∧ Φ R ω' ∧ (∀ v G, S.r v G → R.r v G) ∧ (∀ a ∈ keys ω, a ∈ keys ω') ∧ w.Perm (ω' ++ w0)
  ex := fun _ w P => ∃ P' ω' w0, o = .error (P', ω') ∧ (∀ cls d G, P cls d G → P' cls d G) ∧ w.Perm (ω' ++ w0)
theorem At.newG {F : Fx} {wc wc' w : Ow} {G H G' H' : Hp} (a : At F (wc ++ w) G H) (s : StepM (keys wc) G H G' H') (f : Fresh wc wc' H) (h : Has wc' G' H') : At F (wc' ++ w) G' H' ∧ ∀ b ∈ keys wc', b ∈ keys wc ∨ b ∉ F.M := by
  have own : ∀ b ∈ keys wc, G b = none ∧ (F.H0 b = none ∨ b ∈ F.M) ∧ H b ≠ none := fun b hb => by
    obtain ⟨p, hp, e⟩ := List.mem_map.mp hb
    obtain ⟨x, y, o, z, _⟩ := a.ow p (List.mem_append_left _ hp)
    exact ⟨by rw [← e]; exact x, by rw [← e]; exact y, by rw [← e, z]; simp⟩
  have nd := a.nd
  rw [List.map_append] at nd
  have kk : ∀ b, b ∈ keys wc → H' b ≠ none := fun b hb => h.some (f.2.1 b hb)
  refine ⟨⟨a.gg.trans s.gg, fun b o hb e => ?_, s.gh, fun b h1 h2 => ?_, fun b hb => ?_, fun p hp => ?_, ?_⟩, fun b hb => ?_⟩
  · refine s.hh b o (fun hm => ?_) (a.hh b o hb e)
    rcases (own b hm).2.1 with z | z
    · rw [z] at e; cases e
    · exact hb z
  · refine s.fr b ?_ (a.fr b h1 h2)
    by_cases hb : b ∈ F.M
    · exact a.mm b hb
    · cases e : F.H0 b with
      | none => exact absurd e h1
      | some o => rw [a.hh b o hb e]; simp
  · by_cases hm : b ∈ keys wc
    · exact kk b hm
    · cases e : H b with
      | none => exact absurd e (a.mm b hb)
      | some o => rw [s.hh b o hm e]; simp
  · rcases List.mem_append.mp hp with hp | hp
    · obtain ⟨x, o, y, z⟩ := h p hp
      refine ⟨x, ?_, o, y, z⟩
      rcases f.2.2 p.1 (List.mem_map_of_mem hp) with hm | hm
      · exact (own p.1 hm).2.1
      · by_cases hM : p.1 ∈ F.M
        · exact .inr hM
        · left
          cases e : F.H0 p.1 with
          | none => rfl
          | some u => rw [a.hh _ u hM e] at hm; cases hm
    · obtain ⟨x, y, o, z, c⟩ := a.ow p (List.mem_append_right _ hp)
      have hm : p.1 ∉ keys wc := fun hm => by
        have := (List.nodup_append.mp nd).2.2 p.1 hm p.1 (List.mem_map_of_mem hp)
        exact this rfl
      exact ⟨s.fr p.1 (by rw [z]; simp) x, y, o, s.hh _ _ hm z, p.2.mo _ _ _ s.gg c⟩
  · rw [List.map_append]
    refine List.nodup_append.mpr ⟨f.1, (List.nodup_append.mp nd).2.1, fun x hx y hy e => ?_⟩
    subst e
    rcases f.2.2 x hx with hm | hm
    · exact (List.nodup_append.mp nd).2.2 x hm x hy rfl
    · obtain ⟨p, hp, e⟩ := List.mem_map.mp hy
      obtain ⟨_, _, o, z, _⟩ := a.ow p (List.mem_append_right _ hp)
      rw [e, hm] at z
      cases z
  · rcases f.2.2 b hb with hm | hm
    · exact .inl hm
    · exact .inr fun hM => a.mm b hM hm
theorem fn_okG {P : Program} {w : World} {K : PySem.W.Frag} {mg : Str → Option Value} {base : Heap} {x qual : Str} {st : Stmt} {f : Addr} {fd : FuncData} {N ps : List Str} {k : Nat} {pre : PreG} (Fn : Fun K x qual st f fd) (S : FnScope N ps (defScope st))
    (hl : ∀ Rs ω o, pre Rs ω o → Rs.length = ps.length)
    (hb : ∀ (cdv : Value) (A : Around) (outer : List Env) (s : Shared) (H : Hp) (E : XK) (F : Fx), Room k (A.deeper (envOfC qual (defScope st) s.heap.objs.size f cdv)) → F.X = cxOf (L2.CX P w) P w K mg base N qual (defScope st) f cdv A outer s H E →
      ∀ Rs ω o, pre Rs ω o → F.M = keys ω → HB F (Rs.map some ++ List.replicate (N.length - Rs.length) none) ω (defBody st) (KfG ω o)) : FnOk P w K mg base (L2.CX P w) (k + 1) f fd ps (spG pre) := by
  refine Fn.okX S (fun vs H Q E h => ?_) (fun cdv A outer s H vs Q E hr h => ?_)
  · obtain ⟨Rs, ω, o, G, hp, _, h2, _⟩ := h
    rw [← h2.len]
    exact hl _ _ _ hp
  · obtain ⟨Rs, ω, o, G, hp, hgh, hv, hhas, hnd, hq⟩ := h
    have tk : Takes (cxOf (L2.CX P w) P w K mg base N qual (defScope st) f cdv A outer s H E) (fun cls d _ H => E cls d H) := takes_of rfl rfl rfl rfl
    refine ⟨_, pss_w, hb cdv A outer s H E ⟨cxOf (L2.CX P w) P w K mg base N qual (defScope st) f cdv A outer s H E, G, H, keys ω, fun cls d _ H => E cls d H, tk⟩ hr rfl Rs ω o hp rfl (L2.start N vs) G H _ ?_ ?_ ?_⟩
    · exact ⟨Same.refl _, fun a o _ e => e, hgh, fun a _ e => e, fun a ha => hhas.some ha, fun p hp => let ⟨x, z⟩ := hhas p hp; ⟨x, .inr (List.mem_map_of_mem hp), z⟩, hnd⟩
    · unfold L2.start
      have e := hv.len
      refine ⟨by simp [e], fun i R hi => ?_⟩
      by_cases h : i < Rs.length
      · rw [List.getElem?_append_left (by simpa using h), List.getElem?_map] at hi
        cases h1 : Rs[i]? with
        | none => rw [h1] at hi; cases hi
        | some R' =>
          rw [h1] at hi
          cases hi
          obtain ⟨v, h2, h3⟩ := hv.get h1
          exact ⟨v, by rw [List.getElem?_append_left (by rw [List.length_map, ← e]; exact h), List.getElem?_map, h2]; rfl, h3⟩
      · rw [List.getElem?_append_right (by simpa using h), List.getElem?_replicate] at hi
        split at hi <;> cases hi
    · have fin : ∀ {w0 ω' w1 : Ow} {G' H' : Hp}, w1.Perm (ω' ++ w0) → At ⟨cxOf (L2.CX P w) P w K mg base N qual (defScope st) f cdv A outer s H E, G, H, keys ω, fun cls d _ H => E cls d H, tk⟩ w1 G' H' → StepM (keys ω) G H G' H' ∧ Has ω' G' H' ∧ (keys ω').Nodup ∧ ∀ a ∈ keys ω', a ∈ keys ω ∨ H a = none :=
        fun pm a => by
          have a := At.perm pm a
          refine ⟨⟨a.gg, a.hh, a.gh, a.fr⟩, a.has.left, ?_, fun b hb => ?_⟩
          · have := a.nd
            rw [List.map_append] at this
            exact (List.nodup_append.mp this).1
          · obtain ⟨p, hp, e⟩ := List.mem_map.mp hb
            obtain ⟨_, y, _⟩ := a.ow p (List.mem_append_left _ hp)
            rw [← e]
            rcases y with y | y
            · exact .inr y
            · exact .inl y
      refine ⟨fun ρ w1 hk σ G' H' s a sl => ?_, fun R w1 hk v G' H' s a r => ?_, fun _ _ hk => hk.elim, fun _ _ hk => hk.elim, fun ρ w1 P' hk cls d σ G' H' s a sl hP => ?_⟩
      · obtain ⟨Φ, R, ω', w0, rfl, h1, h2, h3, pm⟩ := hk
        obtain ⟨z1, z2, z3, z4⟩ := fin pm a
        exact hq R ω' _ _ _ h1 ⟨z3, h3, z4⟩ z1 z2 (h2 _)
      · obtain ⟨Φ, R', ω', w0, rfl, h1, h2, h3, pm⟩ := hk
        obtain ⟨z1, z2, z3, z4⟩ := fin pm a
        exact hq R' ω' _ _ _ h1 ⟨z3, h3, z4⟩ z1 z2 (h2 _ _ r)
      · obtain ⟨P'', ω', w0, rfl, h1, pm⟩ := hk
        obtain ⟨z1, z2, z3, z4⟩ := fin pm a
        exact hq.2 _ _ _ _ z1 z2 (h1 _ _ _ hP)
section
variable {F : Fx} {w wc : Ow} {pre : PreG} {Rs : List Rl} {Φ : Rl → Ow → Prop} {vs : List V} {G H : Hp} {Q : VK} {E : XK}
theorem sp_okG (at_ : At F (wc ++ w) G H) (hv : All2 Rs vs G) (hp : pre Rs wc (.ok Φ))
    (q : ∀ R w' v G2 H2, Φ R w' → (∀ b ∈ keys w', b ∈ keys wc ∨ b ∉ F.M) → Same G G2 → At F (w' ++ w) G2 H2 → R.r v G2 → Q v H2) : spG pre vs H Q E :=
  ⟨Rs, wc, .ok Φ, G, hp, at_.gh, hv, at_.has.left, by have := at_.nd; rw [List.map_append] at this; exact (List.nodup_append.mp this).1, fun R w' v G' H' hΦ f s h r => by
    obtain ⟨z1, z2⟩ := at_.newG s f h
    exact q R w' v G' H' hΦ z2 s.gg z1 r⟩
end
section
variable (P : Program) (w : World) (K : PySem.W.Frag) (mg : Str → Option Value) (base : Heap)
def KcG (C : Addr) (x : Str) (k : Nat) (pre : PreG) : Prop := ∃ f fd ps, mg x = some (.ref C) ∧ Mk K C f ∧ Binds K fd ps [] ∧ FnOk P w K mg base (L2.CX P w) k f fd ps (spG pre)
end
/-- what a call gives, among what was there -/
def NewG (F : Fx) (wc w : Ow) (Φ : Rl → Ow → Prop) : Rl → Ow → Prop := fun R w2 => ∃ w', Φ R w' ∧ (∀ b ∈ keys w', b ∈ keys wc ∨ b ∉ F.M) ∧ w2 = w' ++ w
section
variable {F : Fx} {ρ : Ty} {ω w w1 w2 wc wc' : Ow} {e o : Expr} {es : List Expr} {R S : Rl} {Rs : List Rl} {P : Er} {pos p apos : Pos} {x m : Str} {k : Nat} {C q : Addr} {pre : PreG} {fs : List (Str × Rl)} {Φ : Rl → Ow → Prop} {K : Kn} {rest : List Stmt} {O : Ol}
/-- C(..): the new one stays owned -/
theorem eg_cG {Ψ : Addr → Rl → Ow → Prop} (T : KcG F.X.prog F.X.w F.X.K F.X.mg F.X.base C x k pre) (hr : Room (k + 1) F.X.A) (ha : AR F ρ ω (e :: es) Rs (wc ++ w)) (hp : ∀ y, pre (rRef y :: Rs) ((y, oIns C []) :: wc) (.ok (Ψ y))) (hn : ∀ y R w', Ψ y R w' → ∀ v G, R.r v G → v = .non)
    (hg : Gl F.X x := by rfl) (hdb : (x == ("__debug__" : Str)) = false := by decide) (he : starEach (e :: es) F.X.env = (false, eval e F.X.env) :: starEach es F.X.env := by rfl) (hpl : (backTo pos (starEach es F.X.env)).any (·.1) = false := by rfl) :
    EG F ρ ω (.Call (.Name x p) (e :: es) [] pos) (fun R w2 => ∃ y S, y ∉ F.M ∧ R = rRef y ∧ NewG F wc w (Ψ y) S w2) := fun σ G H at_ sl Q q => by
  obtain ⟨f, fd, ps, hm, M, hb, Fn⟩ := T
  refine ew_of (pe_makeS M Fn hr hg hm hb passW pa_w hdb he hpl) (ha σ G H at_ sl _ fun vs G1 H1 s1 a1 r1 => fun y dx hy hdx hne => ?_)
  have a2 : At F (wc ++ w) G1 (upd H1 dx (.own y)) := a1.step (Step.hid a1.gh hdx)
  have hy2 : upd H1 dx (.own y) y = none := by rw [upd_ne (Ne.symm hne)]; exact hy
  have a3 : At F (((y, oIns C []) :: wc) ++ w) G1 (upd (upd H1 dx (.own y)) y (.ins C dx [])) := a2.own hy2 ⟨dx, [], rfl, trivial⟩
  have hM : y ∉ F.M := fun hm => a2.mm y hm hy2
  refine sp_okG (Rs := rRef y :: Rs) (wc := (y, oIns C []) :: wc) a3 ⟨rfl, r1⟩ (hp y) fun R w' v G3 H3 h k s3 a4 r3 => ⟨hn y R w' h v _ r3, ?_⟩
  refine q _ G3 H3 (rRef y) _ ⟨y, R, hM, rfl, w', h, fun b hb => ?_, rfl⟩ (s1.trans s3) a4 rfl
  rcases k b hb with z | z
  · rcases List.mem_cons.mp z with z | z
    · exact .inr (z ▸ hM)
    · exact .inl z
  · exact .inr z
/-- e.f of an owned one -/
theorem er_fldO {f : Str} (ho : ER F ρ ω e (rRef q) w1) (hm : (q, oIns C fs) ∈ w1) (hc : Cls F.X.K C) (hn : NoAttr F.X.K C f) (hl : fs.lookup f = some R) (hb : attributeBase e f F.X.env (eval e F.X.env) = eval e F.X.env := by rfl) :
    ER F ρ ω (.Attribute e f pos) R w1 := fun σ G H at_ sl Q k => by
  refine ew_of (pe_fld pe_w hb) (ho σ G H at_ sl _ fun v G2 H2 s a r => ?_)
  cases (show v = V.ref q from r)
  obtain ⟨_, _, ob, h1, dx, vs, e1, h2⟩ := a.ow _ hm
  subst e1
  obtain ⟨u, h3, h4⟩ := h2.look hl
  exact ⟨q, C, dx, vs, u, rfl, h1, hc, hn, h3, k u G2 H2 s a h4⟩
/-- what a field holds is owned no more -/
theorem NR.chg {f : Str} {A B : Rl} {H : Hp} (hAB : ∀ v, A.r v H → B.r v H) : ∀ {fs : List (Str × Rl)} {vs : List (Str × V)}, fs.lookup f = some A → NR fs vs H → NR (putR f B fs) vs H
  | [], _, e, _ => by cases e
  | (g, S) :: fs, (g', u) :: vs, e, ⟨e1, a, b⟩ => by
    subst e1
    unfold putR
    by_cases hg : g = f
    · subst hg
      rw [List.lookup_cons_self] at e
      cases e
      rw [if_pos rfl]
      exact ⟨rfl, hAB _ a, b⟩
    · have hb : (f == g) = false := by simpa using fun z => hg z.symm
      rw [List.lookup_cons, hb] at e
      rw [if_neg hg]
      exact ⟨rfl, a, NR.chg hAB e b⟩
  | _ :: _, [], _, h => h.elim
end
section
variable {F : Fx} {ρ : Ty} {ω w w1 w2 wc wc' : Ow} {e o : Expr} {es : List Expr} {R S : Rl} {Rs : List Rl} {P : Er} {pos p apos : Pos} {x m : Str} {k : Nat} {C q : Addr} {pre : Pre} {fs : List (Str × Rl)} {K : Kn} {rest : List Stmt} {O : Ol}
/-- o.m(..) of an owned one -/
theorem er_mO {pl : Sem Bool} (T : Km F.X.prog F.X.w F.X.K F.X.mg F.X.base C m k pre) (hc : Cls F.X.K C) (hr : Room k F.X.A) (ho : ER F ρ ω o (rRef q) w1) (hm : (q, oIns C fs) ∈ w1) (ha : AR F ρ w1 (e :: es) Rs (wc ++ w)) (hp : pre (rRef q :: Rs) wc (.ok R) wc') (hk : keys wc' = keys wc := by rfl) (hno : fs.lookup m = none := by rfl)
    (hst : starEach (e :: es) F.X.env = (false, eval e F.X.env) :: starEach es F.X.env := by rfl) (hpl : (backTo pos (starEach es F.X.env)).any (·.1) = false := by rfl)
    (ht : eval (.Call (.Attribute o m apos) (e :: es) [] pos) F.X.env = (do
      let ov ← eval o F.X.env
      standAt apos.atName
      let (f, first) ← holding [ov] (getMethod ov m pl)
      callWith pos f first (backTo pos (starEach (e :: es) F.X.env)) (backToKw pos (keywordEach [] F.X.env))) := by rfl) :
    ER F ρ ω (.Call (.Attribute o m apos) (e :: es) [] pos) R (wc' ++ w) := fun σ G H at_ sl Q z => by
  obtain ⟨f, fd, ps, hM, hb, Fn⟩ := T
  refine ew_of (pe_methS (E := WE F.W) pe_w hc hM Fn hr hb passW pa_w hst hpl ht) (ho σ G H at_ sl _ fun v G1 H1 s1 a1 r1 => ?_)
  cases (show v = V.ref q from r1)
  obtain ⟨_, _, ob, h1, dx, vs, e1, h2⟩ := a1.ow _ hm
  subst e1
  refine ⟨q, dx, vs, rfl, h1, h2.lookN hno, ha σ G1 H1 a1 (sl.up s1) _ fun us G2 H2 s2 a2 r2 => ?_⟩
  exact sp_ok (Rs := rRef q :: Rs) a2 ⟨rfl, r2⟩ hp hk fun v G3 H3 s3 a3 r3 => z v G3 H3 ((s1.trans s2).trans s3) a3 r3
theorem er_mO0 {pl : Sem Bool} (T : Km F.X.prog F.X.w F.X.K F.X.mg F.X.base C m k pre) (hc : Cls F.X.K C) (hr : Room k F.X.A) (ho : ER F ρ ω o (rRef q) (wc ++ w)) (hm : (q, oIns C fs) ∈ wc) (hp : pre [rRef q] wc (.ok R) wc') (hk : keys wc' = keys wc := by rfl) (hno : fs.lookup m = none := by rfl)
    (ht : eval (.Call (.Attribute o m apos) [] [] pos) F.X.env = (do
      let ov ← eval o F.X.env
      standAt apos.atName
      let (f, first) ← holding [ov] (getMethod ov m pl)
      callWith pos f first (backTo pos (starEach [] F.X.env)) (backToKw pos (keywordEach [] F.X.env))) := by rfl) :
    ER F ρ ω (.Call (.Attribute o m apos) [] [] pos) R (wc' ++ w) := fun σ G H at_ sl Q z => by
  obtain ⟨f, fd, ps, hM, hb, Fn⟩ := T
  refine ew_of (pe_methS0 (E := WE F.W) pe_w hc hM Fn hr hb passW ht) (ho σ G H at_ sl _ fun v G1 H1 s1 a1 r1 => ?_)
  cases (show v = V.ref q from r1)
  obtain ⟨_, _, ob, h1, dx, vs, e1, h2⟩ := a1.ow _ (List.mem_append_left _ hm)
  subst e1
  exact ⟨q, dx, vs, rfl, h1, h2.lookN hno, sp_ok (Rs := [rRef q]) a1 ⟨rfl, trivial⟩ hp hk fun v G3 H3 s3 a3 r3 => z v G3 H3 (s1.trans s3) a3 r3⟩
end
end W1
set_option maxRecDepth 100000
set_option maxHeartbeats 2000000
namespace W1
open PySem PySem.Spec PyProof.Rows L2 NdefX
def top (i : Nat) : Stmt := PySem.Challenge.pw_waysofmaking_k17_eight_facts.main.body.getD i (.Pass ⟨0, 0, 0, 0⟩)
abbrev s_BadNumber___init__ : Stmt := inClass (top 3) 0
abbrev P_BadNumber___init__ : List Str := ["self", "n"]
theorem c_BadNumber___init__ : NScope (["self", "n", "__class__"] : List Str) P_BadNumber___init__ ["__class__"] (defScope s_BadNumber___init__) := nscope_by (by decide +kernel)
abbrev s_UnknownName___init__ : Stmt := inClass (top 7) 0
abbrev P_UnknownName___init__ : List Str := ["self", "name"]
theorem c_UnknownName___init__ : NScope (["self", "name", "__class__"] : List Str) P_UnknownName___init__ ["__class__"] (defScope s_UnknownName___init__) := nscope_by (by decide +kernel)
abbrev s_common : Stmt := top 11
abbrev N_common : List Str := ["a", "b", "one", "other"]
abbrev P_common : List Str := ["a", "b"]
theorem c_common : FnScope N_common P_common (defScope s_common) := ⟨rfl, rfl, rfl, by decide +kernel, rfl, by decide +kernel, by decide +kernel⟩
abbrev s_Ratio___init__ : Stmt := inClass (top 14) 0
abbrev N_Ratio___init__ : List Str := ["self", "top", "bottom", "divisor"]
abbrev P_Ratio___init__ : List Str := ["self", "top", "bottom"]
theorem c_Ratio___init__ : FnScope N_Ratio___init__ P_Ratio___init__ (defScope s_Ratio___init__) := ⟨rfl, rfl, rfl, by decide +kernel, rfl, by decide +kernel, by decide +kernel⟩
abbrev s_Ratio_whole : Stmt := inClass (top 14) 1
abbrev N_Ratio_whole : List Str := ["cls", "n"]
abbrev P_Ratio_whole : List Str := ["cls", "n"]
theorem c_Ratio_whole : FnScope N_Ratio_whole P_Ratio_whole (defScope s_Ratio_whole) := ⟨rfl, rfl, rfl, by decide +kernel, rfl, by decide +kernel, by decide +kernel⟩
abbrev s_Ratio___add__ : Stmt := inClass (top 14) 3
abbrev N_Ratio___add__ : List Str := ["self", "other"]
abbrev P_Ratio___add__ : List Str := ["self", "other"]
theorem c_Ratio___add__ : FnScope N_Ratio___add__ P_Ratio___add__ (defScope s_Ratio___add__) := ⟨rfl, rfl, rfl, by decide +kernel, rfl, by decide +kernel, by decide +kernel⟩
abbrev s_Ratio___sub__ : Stmt := inClass (top 14) 4
abbrev N_Ratio___sub__ : List Str := ["self", "other"]
abbrev P_Ratio___sub__ : List Str := ["self", "other"]
theorem c_Ratio___sub__ : FnScope N_Ratio___sub__ P_Ratio___sub__ (defScope s_Ratio___sub__) := ⟨rfl, rfl, rfl, by decide +kernel, rfl, by decide +kernel, by decide +kernel⟩
abbrev s_Ratio___neg__ : Stmt := inClass (top 14) 5
abbrev N_Ratio___neg__ : List Str := ["self"]
abbrev P_Ratio___neg__ : List Str := ["self"]
theorem c_Ratio___neg__ : FnScope N_Ratio___neg__ P_Ratio___neg__ (defScope s_Ratio___neg__) := ⟨rfl, rfl, rfl, by decide +kernel, rfl, by decide +kernel, by decide +kernel⟩
abbrev s_Ratio___mul__ : Stmt := inClass (top 14) 6
abbrev N_Ratio___mul__ : List Str := ["self", "other"]
abbrev P_Ratio___mul__ : List Str := ["self", "other"]
theorem c_Ratio___mul__ : FnScope N_Ratio___mul__ P_Ratio___mul__ (defScope s_Ratio___mul__) := ⟨rfl, rfl, rfl, by decide +kernel, rfl, by decide +kernel, by decide +kernel⟩
abbrev s_Ratio___eq__ : Stmt := inClass (top 14) 7
abbrev N_Ratio___eq__ : List Str := ["self", "other"]
abbrev P_Ratio___eq__ : List Str := ["self", "other"]
theorem c_Ratio___eq__ : FnScope N_Ratio___eq__ P_Ratio___eq__ (defScope s_Ratio___eq__) := ⟨rfl, rfl, rfl, by decide +kernel, rfl, by decide +kernel, by decide +kernel⟩
abbrev s_Ratio___bool__ : Stmt := inClass (top 14) 8
abbrev N_Ratio___bool__ : List Str := ["self"]
abbrev P_Ratio___bool__ : List Str := ["self"]
theorem c_Ratio___bool__ : FnScope N_Ratio___bool__ P_Ratio___bool__ (defScope s_Ratio___bool__) := ⟨rfl, rfl, rfl, by decide +kernel, rfl, by decide +kernel, by decide +kernel⟩
abbrev s_Ratio___str__ : Stmt := inClass (top 14) 9
abbrev N_Ratio___str__ : List Str := ["self"]
abbrev P_Ratio___str__ : List Str := ["self"]
theorem c_Ratio___str__ : FnScope N_Ratio___str__ P_Ratio___str__ (defScope s_Ratio___str__) := ⟨rfl, rfl, rfl, by decide +kernel, rfl, by decide +kernel, by decide +kernel⟩
abbrev s_Ratio_quotient : Stmt := inClass (top 14) 10
abbrev N_Ratio_quotient : List Str := ["self", "other"]
abbrev P_Ratio_quotient : List Str := ["self", "other"]
theorem c_Ratio_quotient : FnScope N_Ratio_quotient P_Ratio_quotient (defScope s_Ratio_quotient) := ⟨rfl, rfl, rfl, by decide +kernel, rfl, by decide +kernel, by decide +kernel⟩
abbrev s_Ratio_under : Stmt := inClass (top 14) 11
abbrev N_Ratio_under : List Str := ["self", "other"]
abbrev P_Ratio_under : List Str := ["self", "other"]
theorem c_Ratio_under : FnScope N_Ratio_under P_Ratio_under (defScope s_Ratio_under) := ⟨rfl, rfl, rfl, by decide +kernel, rfl, by decide +kernel, by decide +kernel⟩
abbrev s_total : Stmt := top 15
abbrev N_total : List Str := ["ratios", "found", "ratio"]
abbrev P_total : List Str := ["ratios"]
theorem c_total : FnScope N_total P_total (defScope s_total) := ⟨rfl, rfl, rfl, by decide +kernel, rfl, by decide +kernel, by decide +kernel⟩
abbrev s_solved : Stmt := top 17
abbrev N_solved : List Str := ["rows", "goals", "lines", "row", "goal", "at", "good", "place", "lead", "pivot", "number", "line"]
abbrev P_solved : List Str := ["rows", "goals"]
theorem c_solved : FnScope N_solved P_solved (defScope s_solved) := ⟨rfl, rfl, rfl, by decide +kernel, rfl, by decide +kernel, by decide +kernel⟩
abbrev s_reduced : Stmt := top 18
abbrev N_reduced : List Str := ["line", "pivot", "at", "number", "other"]
abbrev P_reduced : List Str := ["line", "pivot", "at"]
theorem c_reduced : FnScope N_reduced P_reduced (defScope s_reduced) := ⟨rfl, rfl, rfl, by decide +kernel, rfl, by decide +kernel, by decide +kernel⟩
abbrev s_is_name : Stmt := top 24
abbrev N_is_name : List Str := ["text", "sign"]
abbrev P_is_name : List Str := ["text"]
theorem c_is_name : FnScope N_is_name P_is_name (defScope s_is_name) := ⟨rfl, rfl, rfl, by decide +kernel, rfl, by decide +kernel, by decide +kernel⟩
abbrev s_check_names : Stmt := top 27
abbrev N_check_names : List Str := ["goods", "at", "good"]
abbrev P_check_names : List Str := ["goods"]
theorem c_check_names : FnScope N_check_names P_check_names (defScope s_check_names) := ⟨rfl, rfl, rfl, by decide +kernel, rfl, by decide +kernel, by decide +kernel⟩
abbrev s_lots_of : Stmt := top 28
abbrev N_lots_of : List Str := ["items", "size", "found", "at", "item", "rest"]
abbrev P_lots_of : List Str := ["items", "size"]
theorem c_lots_of : FnScope N_lots_of P_lots_of (defScope s_lots_of) := ⟨rfl, rfl, rfl, by decide +kernel, rfl, by decide +kernel, by decide +kernel⟩
abbrev s_product : Stmt := top 29
abbrev N_product : List Str := ["one", "other", "first", "second"]
abbrev P_product : List Str := ["one", "other"]
theorem c_product : FnScope N_product P_product (defScope s_product) := ⟨rfl, rfl, rfl, by decide +kernel, rfl, by decide +kernel, by decide +kernel⟩
abbrev s_Hidden___init__ : Stmt := inClass (top 30) 0
abbrev N_Hidden___init__ : List Str := ["self", "goods"]
abbrev P_Hidden___init__ : List Str := ["self", "goods"]
theorem c_Hidden___init__ : FnScope N_Hidden___init__ P_Hidden___init__ (defScope s_Hidden___init__) := ⟨rfl, rfl, rfl, by decide +kernel, rfl, by decide +kernel, by decide +kernel⟩
abbrev s_Hidden___len__ : Stmt := inClass (top 30) 1
abbrev N_Hidden___len__ : List Str := ["self"]
abbrev P_Hidden___len__ : List Str := ["self"]
theorem c_Hidden___len__ : FnScope N_Hidden___len__ P_Hidden___len__ (defScope s_Hidden___len__) := ⟨rfl, rfl, rfl, by decide +kernel, rfl, by decide +kernel, by decide +kernel⟩
abbrev s_Hidden_row : Stmt := inClass (top 30) 2
abbrev N_Hidden_row : List Str := ["self", "demand", "good"]
abbrev P_Hidden_row : List Str := ["self", "demand"]
theorem c_Hidden_row : FnScope N_Hidden_row P_Hidden_row (defScope s_Hidden_row) := ⟨rfl, rfl, rfl, by decide +kernel, rfl, by decide +kernel, by decide +kernel⟩
abbrev s_Hidden_corners : Stmt := inClass (top 30) 3
abbrev N_Hidden_corners : List Str := ["self", "facts", "size", "lines", "row", "hours", "at", "place", "found", "lot", "point", "goal"]
abbrev P_Hidden_corners : List Str := ["self", "facts"]
theorem c_Hidden_corners : FnScope N_Hidden_corners P_Hidden_corners (defScope s_Hidden_corners) := ⟨rfl, rfl, rfl, by decide +kernel, rfl, by decide +kernel, by decide +kernel⟩
abbrev s_Hidden_allows : Stmt := inClass (top 30) 4
abbrev N_Hidden_allows : List Str := ["self", "facts", "point", "price", "row", "hours"]
abbrev P_Hidden_allows : List Str := ["self", "facts", "point"]
theorem c_Hidden_allows : FnScope N_Hidden_allows P_Hidden_allows (defScope s_Hidden_allows) := ⟨rfl, rfl, rfl, by decide +kernel, rfl, by decide +kernel, by decide +kernel⟩
abbrev s_Hidden_fits : Stmt := inClass (top 30) 5
abbrev N_Hidden_fits : List Str := ["self", "facts", "corners", "point", "row", "hours"]
abbrev P_Hidden_fits : List Str := ["self", "facts"]
theorem c_Hidden_fits : FnScope N_Hidden_fits P_Hidden_fits (defScope s_Hidden_fits) := ⟨rfl, rfl, rfl, by decide +kernel, rfl, by decide +kernel, by decide +kernel⟩
abbrev s_Hidden_tell : Stmt := inClass (top 30) 6
abbrev N_Hidden_tell : List Str := ["self", "demand", "hours", "row", "part"]
abbrev P_Hidden_tell : List Str := ["self", "demand", "hours"]
theorem c_Hidden_tell : FnScope N_Hidden_tell P_Hidden_tell (defScope s_Hidden_tell) := ⟨rfl, rfl, rfl, by decide +kernel, rfl, by decide +kernel, by decide +kernel⟩
abbrev s_Hidden_told : Stmt := inClass (top 30) 7
abbrev N_Hidden_told : List Str := ["self", "found", "row", "hours", "good", "part"]
abbrev P_Hidden_told : List Str := ["self"]
theorem c_Hidden_told : FnScope N_Hidden_told P_Hidden_told (defScope s_Hidden_told) := ⟨rfl, rfl, rfl, by decide +kernel, rfl, by decide +kernel, by decide +kernel⟩
abbrev s_Hidden_undo : Stmt := inClass (top 30) 8
abbrev N_Hidden_undo : List Str := ["self"]
abbrev P_Hidden_undo : List Str := ["self"]
theorem c_Hidden_undo : FnScope N_Hidden_undo P_Hidden_undo (defScope s_Hidden_undo) := ⟨rfl, rfl, rfl, by decide +kernel, rfl, by decide +kernel, by decide +kernel⟩
abbrev s__law_pool : Stmt := top 32
abbrev N__law_pool : List Str := ["_law_cell"]
abbrev P__law_pool : List Str := ["_law_cell"]
theorem c__law_pool : FnScope N__law_pool P__law_pool (defScope s__law_pool) := ⟨rfl, rfl, rfl, by decide +kernel, rfl, by decide +kernel, by decide +kernel⟩
abbrev s__law_take : Stmt := top 33
abbrev N__law_take : List Str := ["_law_pool_here", "_law_limit", "_law_drawn", "_law_made"]
abbrev P__law_take : List Str := ["_law_pool_here", "_law_limit"]
theorem c__law_take : FnScope N__law_take P__law_take (defScope s__law_take) := ⟨rfl, rfl, rfl, by decide +kernel, rfl, by decide +kernel, by decide +kernel⟩
abbrev s__law_at : Stmt := top 34
abbrev N__law_at : List Str := ["_law_script", "_law_k"]
abbrev P__law_at : List Str := ["_law_script", "_law_k"]
theorem c__law_at : FnScope N__law_at P__law_at (defScope s__law_at) := ⟨rfl, rfl, rfl, by decide +kernel, rfl, by decide +kernel, by decide +kernel⟩
abbrev s__law_worth : Stmt := top 36
abbrev N__law_worth : List Str := ["_law_prices", "_law_demand", "_law_found", "_law_good"]
abbrev P__law_worth : List Str := ["_law_prices", "_law_demand"]
theorem c__law_worth : FnScope N__law_worth P__law_worth (defScope s__law_worth) := ⟨rfl, rfl, rfl, by decide +kernel, rfl, by decide +kernel, by decide +kernel⟩
abbrev s__law_told : Stmt := top 37
abbrev N__law_told : List Str := ["_law_hidden", "_law_demand", "_law_hours", "e"]
abbrev P__law_told : List Str := ["_law_hidden", "_law_demand", "_law_hours"]
theorem c__law_told : FnScope N__law_told P__law_told (defScope s__law_told) := ⟨rfl, rfl, rfl, by decide +kernel, rfl, by decide +kernel, by decide +kernel⟩
abbrev s__law_due : Stmt := top 38
abbrev N__law_due : List Str := ["_law_names", "_law_demand", "_law_hours", "_law_many", "_law_good"]
abbrev P__law_due : List Str := ["_law_names", "_law_demand", "_law_hours", "_law_many"]
theorem c__law_due : FnScope N__law_due P__law_due (defScope s__law_due) := ⟨rfl, rfl, rfl, by decide +kernel, rfl, by decide +kernel, by decide +kernel⟩
abbrev s__law_odd : Stmt := top 39
abbrev N__law_odd : List Str := ["_law_pool_here", "_law_names", "_law_demand", "_law_hours", "_law_way", "_law_other", "_law_good", "_law_more"]
abbrev P__law_odd : List Str := ["_law_pool_here", "_law_names", "_law_demand", "_law_hours"]
theorem c__law_odd : FnScope N__law_odd P__law_odd (defScope s__law_odd) := ⟨rfl, rfl, rfl, by decide +kernel, rfl, by decide +kernel, by decide +kernel⟩
abbrev s_law : Stmt := top 40
abbrev N_law : List Str := ["_law_script", "_law_k", "_law_pool_here", "_law_names", "_law_prices", "_law_good", "_law_hidden", "_law_kept", "_law_turn", "_law_demand", "_law_hours", "_law_other", "_law_more", "_law_held", "_law_last"]
abbrev P_law : List Str := ["_law_script"]
theorem c_law : FnScope N_law P_law (defScope s_law) := ⟨rfl, rfl, rfl, by decide +kernel, rfl, by decide +kernel, by decide +kernel⟩
end W1
set_option maxRecDepth 100000
set_option maxHeartbeats 2000000
namespace W1
open PySem PySem.Spec PyProof.Rows L2 NdefX

/-! ### the fractions' defs -/
/-- a promise by data: nothing handed over -/
def pOk {α : Type} (D : α → Prop) (A : α → List Rl) (R : α → Rl) : Pre := fun Rs w o w' => ∃ a, D a ∧ Rs = A a ∧ w = [] ∧ w' = [] ∧ o = .ok (R a)
def pEr {α : Type} (D : α → Prop) (A : α → List Rl) (P : α → Er) : Pre := fun Rs w o w' => ∃ a, D a ∧ Rs = A a ∧ w = [] ∧ w' = [] ∧ o = .error (P a)
def pOr (p q : Pre) : Pre := fun Rs w o w' => p Rs w o w' ∨ q Rs w o w'
section
variable {α : Type} {D : α → Prop} {A : α → List Rl} {R : α → Rl} {P : α → Er}
theorem pok (a : α) (h : D a) : pOk D A R (A a) [] (.ok (R a)) [] := ⟨a, h, rfl, rfl, rfl, rfl⟩
end
theorem bt_abs : bootBuiltins "abs" = some (.builtin "abs") := by decide +kernel
theorem bt_len : bootBuiltins "len" = some (.builtin "len") := by decide +kernel
theorem bt_isi : bootBuiltins "isinstance" = some (.builtin "isinstance") := by decide +kernel
theorem bt_int : bootBuiltins "int" = some (.type "int") := by decide +kernel
theorem bt_bool : bootBuiltins "bool" = some (.type "bool") := by decide +kernel
theorem bt_str : bootBuiltins "str" = some (.type "str") := by decide +kernel
def pCommon : Pre := pOk (α := Int × Int) (fun _ => True) (fun a => [rInt a.1, rInt a.2]) (fun a => rInt (Int.gcd a.1 a.2 : Int))
section
variable {P : Program} {w : World} {K : PySem.W.Frag} {mg : Str → Option Value} {base : Heap}
theorem kf_common {f : Addr} {fd : FuncData} (Fn : Fun K "common" "common" s_common f fd) (abs : mg "abs" = none) : FnOk P w K mg base (L2.CX P w) 1 f fd P_common (spM pCommon) := by
  refine fn_ok Fn c_common (fun _ _ _ _ ⟨a, _, h, _⟩ => by rw [h]; rfl) ?_
  rintro cdv A outer s H E ⟨_, G0, H0, M, W, tk⟩ hr rfl Rs ω o ω' ⟨⟨a, b⟩, -, rfl, rfl, rfl, rfl⟩
  refine hb_par 2 3 (ar_cons (er_callB cop_abs rfl abs bt_abs (ar_cons (er_var 0 rfl) ar_nil)) (ar_cons (er_callB cop_abs rfl abs bt_abs (ar_cons (er_var 1 rfl) ar_nil)) ar_nil)) ?_ c_common.nd
  rw [abs_nat, abs_nat]
  refine hb_while (fun m ρ ω => ∃ x y : Nat, m = y ∧ ω = [] ∧ Int.gcd (x : Int) (y : Int) = Int.gcd a b ∧ ρ = [some (rInt a), some (rInt b), some (rInt x), some (rInt y)]) b.natAbs ⟨a.natAbs, b.natAbs, rfl, rfl, by simp [Int.gcd], rfl⟩ ?_ (passes_of rfl)
  rintro m ρ ω ⟨x, y, rfl, rfl, hg, rfl⟩
  refine ⟨_, _, tr_cmp (er_var 3 rfl) er_int bop_neI, fun hb => ?_, fun hb => ?_⟩
  · have hy : m ≠ 0 := by simpa using hb
    refine hb_par 2 3 (ar_cons (er_var 3 rfl) (ar_cons (er_bin (er_var 2 rfl) (er_var 3 rfl) (bop_mod (by omega))) ar_nil)) (hb_nil ?_) c_common.nd
    rw [fmod_nat]
    exact ⟨x % m, Nat.mod_lt _ (by omega), m, x % m, rfl, rfl, by rw [gcd_step _ _ hy]; exact hg, rfl⟩
  · have hy : m = 0 := by simpa using hb
    subst hy
    refine hb_ret (er_var 2 rfl) ⟨_, _, rfl, fun v G h => ?_, rfl⟩
    rw [show v = V.int (x : Int) from h]
    show V.int (x : Int) = V.int (Int.gcd a b : Int)
    rw [← hg]
    simp
end
end W1
set_option maxRecDepth 100000
set_option maxHeartbeats 2000000
namespace W1
open PySem PySem.Spec PyProof.Rows L2 NdefX

def rRat (C : Addr) (q : Rat) : Rl := rIns C [("top", rInt q.num), ("bottom", rInt (q.den : Int))]
def small (q : Rat) : Prop := Sz 4000 q
theorem small.t {q : Rat} (h : small q) : q.num.natAbs < 2 ^ 4000 := h.1
theorem small.b {q : Rat} (h : small q) : (q.den : Int).natAbs < 2 ^ 4000 := sz_int h
theorem den_ne {q : Rat} : (q.den : Int) ≠ 0 := Int.natCast_ne_zero.mpr q.den_nz
/-- what the written part says of the fractions' class, at C, and of the error, at B -/
structure RatX (K : PySem.W.Frag) (mg : Str → Option Value) (C : Addr) : Prop where
  cx : ClsX K C
  nT : NoAttr K C "top"
  nB : NoAttr K C "bottom"
  gC : mg "Ratio" = some (.ref C)
  nf : PySem.W.notFirst K C (.ref C) = true
  nfI : PySem.W.notFirst K C (.type "int") = true
  nfS : PySem.W.notFirst K C (.type "str") = true
  ksI : PySem.W.kitOne K (.type "int") (.ref C) = some false
  ksS : PySem.W.kitOne K (.type "str") (.ref C) = some false
  isi : mg "isinstance" = none
  bool : mg "bool" = none
  len : mg "len" = none
def pInit (C B : Addr) : Pre := fun Rs w o w' => ∃ (q : Addr) (t b : Int), Rs = [rRef q, rInt t, rInt b] ∧ w = [(q, oIns C [])] ∧
  ((b ≠ 0 ∧ b.natAbs < 2 ^ 9000 ∧ w' = [(q, oIns C [("top", rInt (Rat.divInt t b).num), ("bottom", rInt ((Rat.divInt t b).den : Int))])] ∧ o = .ok rNon) ∨ (b = 0 ∧ w' = [(q, oIns C [])] ∧ o = .error (erF B "n" (rInt 0))))
section
variable {P : Program} {w : World} {K : PySem.W.Frag} {mg : Str → Option Value} {base : Heap} {C B : Addr}
theorem kf_init {f : Addr} {fd : FuncData} (Fn : Fun K "__init__" "Ratio.__init__" s_Ratio___init__ f fd) (X : RatX K mg C) (Tc : Kf1 P w K mg base "common" 1 pCommon) (Te : Ke P w K mg base B "BadNumber" "n" 1 prInt) :
    FnOk P w K mg base (L2.CX P w) 3 f fd P_Ratio___init__ (spM (pInit C B)) := by
  refine fn_ok Fn c_Ratio___init__ (fun _ _ _ _ ⟨q, t, b, h, _⟩ => by rw [h]; rfl) ?_
  rintro cdv A outer s H E ⟨_, G0, H0, M, W, tk⟩ hr rfl Rs ω o ω' ⟨q, t, b, rfl, rfl, h⟩
  refine hb_if (tr_cmp (er_var 2 rfl) er_int bop_eqI) (fun hb => ?_) (fun hb => ?_)
  · have hb0 : b = 0 := by simpa using hb
    rcases h with ⟨h, _⟩ | ⟨_, rfl, rfl⟩
    · exact absurd hb0 h
    · exact hb_err Te hr (ar_cons er_int ar_nil) ⟨_, [], rfl, fun _ _ _ h => h, rfl⟩ fun v G h => ⟨0, h, by decide⟩
  · have hb0 : b ≠ 0 := by simpa using hb
    rcases h with ⟨_, hz, rfl, rfl⟩ | ⟨h, _⟩
    · refine hb_nil ?_
      refine hb_set 3 (er_fn0 Tc (hr.mono (by decide)) (ar_cons (er_var 1 rfl) (ar_cons (er_var 2 rfl) ar_nil)) (pok (t, b) trivial)) ?_ c_Ratio___init__.nd
      have go : ∀ {d : Int}, d = dvs t b → HB ⟨_, G0, H0, M, W, tk⟩ [some (rRef q), some (rInt t), some (rInt b), some (rInt d)] [(q, oIns C [])] ((defBody s_Ratio___init__).drop 3) (Kf (.ok rNon) [(q, oIns C [("top", rInt (Rat.divInt t b).num), ("bottom", rInt ((Rat.divInt t b).den : Int))])]) := fun {d} hd => by
        subst hd
        have hk : ∀ i, CDivZ i (dvs t b) := fun i => divok (n := 9000) (dvs_ne hb0) (Nat.lt_of_le_of_lt (dvs_le.resolve_right hb0) hz)
        refine hb_fld (w2 := []) (er_bin (er_var 1 rfl) (er_var 3 rfl) (bop_fdiv (hk t))) (er_var 0 rfl) X.cx.cls X.nT ?_
        refine hb_fld (w2 := []) (er_bin (er_var 2 rfl) (er_var 3 rfl) (bop_fdiv (hk b))) (er_var 0 rfl) X.cx.cls X.nB (hb_nil ?_) (hl := by show 1 < 1000; decide)
        refine ⟨rNon, [], rfl, fun _ => rfl, ?_⟩
        rw [dvs_top hb0, dvs_bot hb0]
        rfl
      refine hb_if (tr_cmp (er_var 2 rfl) er_int bop_lt) (fun hn => ?_) (fun hn => ?_)
      · have hn0 : b < 0 := by simpa using hn
        exact hb_set 3 (er_un (er_var 3 rfl) uop_neg) (hb_nil (go (by unfold dvs; rw [if_pos hn0]))) c_Ratio___init__.nd
      · have hn0 : ¬ b < 0 := by simpa using hn
        exact hb_nil (go (by unfold dvs; rw [if_neg hn0]))
    · exact absurd h hb0
end
end W1
set_option maxRecDepth 100000
set_option maxHeartbeats 2000000
set_option exponentiation.threshold 20000
namespace W1
open PySem PySem.Spec PyProof.Rows L2 NdefX

section
variable {F : Fx} {ρ : Ty} {ω w w1 w2 : Ow} {e o a b : Expr} {C B : Addr} {pos p : Pos} {t u : Int} {q : Rat}
theorem er_ratio (T : Kc F.X.prog F.X.w F.X.K F.X.mg F.X.base C "Ratio" 3 (pInit C B)) (hr : Room 4 F.X.A) (ha : AR F ρ ω [a, b] [rInt t, rInt u] w) (hq : Rat.divInt t u = q) (h0 : u ≠ 0) (hz : u.natAbs < 2 ^ 9000) (hg : Gl F.X "Ratio" := by rfl)
    (he : starEach [a, b] F.X.env = (false, eval a F.X.env) :: starEach [b] F.X.env := by rfl) (hpl : (backTo pos (starEach [b] F.X.env)).any (·.1) = false := by rfl) :
    ER F ρ ω (.Call (.Name "Ratio" p) [a, b] [] pos) (rRat C q) w := by
  subst hq
  exact er_c T hr ha (fun q => ⟨q, t, u, rfl, rfl, .inl ⟨h0, hz, rfl, rfl⟩⟩) hg (by decide) he hpl
theorem ex_ratio (T : Kc F.X.prog F.X.w F.X.K F.X.mg F.X.base C "Ratio" 3 (pInit C B)) (hr : Room 4 F.X.A) (ha : AR F ρ ω [a, b] [rInt t, rInt u] w) (h0 : u = 0) (hg : Gl F.X "Ratio" := by rfl)
    (he : starEach [a, b] F.X.env = (false, eval a F.X.env) :: starEach [b] F.X.env := by rfl) (hpl : (backTo pos (starEach [b] F.X.env)).any (·.1) = false := by rfl) :
    EX F ρ ω (.Call (.Name "Ratio" p) [a, b] [] pos) (erF B "n" (rInt 0)) w :=
  ex_c T hr ha (fun q => ⟨_, q, t, u, rfl, rfl, .inr ⟨h0, rfl, rfl⟩⟩) erF_mo hg (by decide) he hpl
theorem er_top (X : RatX F.X.K F.X.mg C) (h : ER F ρ ω e (rRat C q) w) (hb : attributeBase e "top" F.X.env (eval e F.X.env) = eval e F.X.env := by rfl) : ER F ρ ω (.Attribute e "top" pos) (rInt q.num) w := er_fld h X.cx.cls X.nT rfl hb
theorem er_bot (X : RatX F.X.K F.X.mg C) (h : ER F ρ ω e (rRat C q) w) (hb : attributeBase e "bottom" F.X.env (eval e F.X.env) = eval e F.X.env := by rfl) : ER F ρ ω (.Attribute e "bottom" pos) (rInt (q.den : Int)) w := er_fld h X.cx.cls X.nB rfl hb
end
def p2 (C : Addr) (f : Rat → Rat → Rl) : Pre := pOk (α := Rat × Rat) (fun a => small a.1 ∧ small a.2) (fun a => [rRat C a.1, rRat C a.2]) (fun a => f a.1 a.2)
def pAdd (C : Addr) : Pre := p2 C fun p q => rRat C (p + q)
def pSub (C : Addr) : Pre := p2 C fun p q => rRat C (p - q)
def pMul (C : Addr) : Pre := p2 C fun p q => rRat C (p * q)
def pUnder (C : Addr) : Pre := p2 C fun p q => rBool (decide (p < q))
def pNeg (C : Addr) : Pre := pOk (α := Rat) small (fun a => [rRat C a]) (fun a => rRat C (-a))
def pBool (C : Addr) : Pre := pOk (α := Rat) (fun _ => True) (fun a => [rRat C a]) (fun a => rBool (a.num != 0))
def pWhole (C : Addr) : Pre := pOk (α := Int) (fun _ => True) (fun a => [rRef C, rInt a]) (fun a => rRat C (a : Rat))
def pQuo (C B : Addr) : Pre := pOr (pOk (α := Rat × Rat) (fun a => small a.1 ∧ small a.2 ∧ a.2.num ≠ 0) (fun a => [rRat C a.1, rRat C a.2]) (fun a => rRat C (a.1 / a.2)))
  (pEr (α := Rat × Rat) (fun a => small a.1 ∧ small a.2 ∧ a.2.num = 0) (fun a => [rRat C a.1, rRat C a.2]) (fun a => erF B "n" (rInt 0)))
def pEq (C : Addr) : Pre := pOr (pOk (α := Rat × Rat) (fun _ => True) (fun a => [rRat C a.1, rRat C a.2]) (fun a => rBool (decide (a.1 = a.2))))
  (pOr (pOk (α := Rat × Int) (fun _ => True) (fun a => [rRat C a.1, rInt a.2]) (fun a => rBool false)) (pOk (α := Rat × Str) (fun _ => True) (fun a => [rRat C a.1, rStr a.2]) (fun a => rBool false)))
theorem divInt_int (n : Int) : Rat.divInt n 1 = (n : Rat) := by
  have := Rat.num_divInt_den (n : Rat)
  simpa using this
theorem small.mt {p q : Rat} (hp : small p) (hq : small q) : IntMulOk p.num q.den := mulok hp.t hq.b
theorem small.mb {p q : Rat} (hp : small p) (hq : small q) : IntMulOk p.den q.den := mulok hp.b hq.b
theorem small.dd {p q : Rat} (hp : small p) (hq : small q) : ((p.den : Int) * q.den).natAbs < 2 ^ 9000 := by
  rw [Int.natAbs_mul]
  exact Nat.lt_of_lt_of_le (mul_lt2 hp.b hq.b) (Nat.pow_le_pow_right (by decide) (by decide))
theorem rat_eq_dec (p q : Rat) : (decide (p.num = q.num) && decide ((p.den : Int) = q.den)) = decide (p = q) := by
  by_cases h : p = q
  · subst h; simp
  · have : ¬ (p.num = q.num ∧ (p.den : Int) = q.den) := fun ⟨h1, h2⟩ => h (Rat.ext h1 (by omega))
    rw [decide_eq_false h]
    by_cases h1 : p.num = q.num
    · have h2 : ¬ (p.den : Int) = q.den := fun z => this ⟨h1, z⟩
      rw [decide_eq_false h2, Bool.and_false]
    · rw [decide_eq_false h1, Bool.false_and]
section
variable {P : Program} {w : World} {K : PySem.W.Frag} {mg : Str → Option Value} {base : Heap} {C B f : Addr} {fd : FuncData}
theorem kf_add (Fn : Fun K "__add__" "Ratio.__add__" s_Ratio___add__ f fd) (X : RatX K mg C) (T : Kc P w K mg base C "Ratio" 3 (pInit C B)) : FnOk P w K mg base (L2.CX P w) 5 f fd P_Ratio___add__ (spM (pAdd C)) := by
  refine fn_ok Fn c_Ratio___add__ (fun _ _ _ _ ⟨_, _, h, _⟩ => by rw [h]; rfl) ?_
  rintro cdv A outer s H E ⟨_, G0, H0, M, W, tk⟩ hr rfl Rs ω o ω' ⟨⟨p, q⟩, ⟨hp, hq⟩, rfl, rfl, rfl, rfl⟩
  refine hb_ret (er_ratio T hr (ar_cons (er_bin (er_bin (er_top X (er_var 0 rfl)) (er_bot X (er_var 1 rfl)) (bop_mul (hp.mt hq))) (er_bin (er_top X (er_var 1 rfl)) (er_bot X (er_var 0 rfl)) (bop_mul (hq.mt hp))) bop_add)
    (ar_cons (er_bin (er_bot X (er_var 0 rfl)) (er_bot X (er_var 1 rfl)) (bop_mul (hp.mb hq))) ar_nil)) (divInt_add p q) (Int.mul_ne_zero den_ne den_ne) (hp.dd hq)) ⟨_, [], rfl, fun _ _ h => h, rfl⟩
theorem kf_sub (Fn : Fun K "__sub__" "Ratio.__sub__" s_Ratio___sub__ f fd) (X : RatX K mg C) (T : Kc P w K mg base C "Ratio" 3 (pInit C B)) : FnOk P w K mg base (L2.CX P w) 5 f fd P_Ratio___sub__ (spM (pSub C)) := by
  refine fn_ok Fn c_Ratio___sub__ (fun _ _ _ _ ⟨_, _, h, _⟩ => by rw [h]; rfl) ?_
  rintro cdv A outer s H E ⟨_, G0, H0, M, W, tk⟩ hr rfl Rs ω o ω' ⟨⟨p, q⟩, ⟨hp, hq⟩, rfl, rfl, rfl, rfl⟩
  refine hb_ret (er_ratio T hr (ar_cons (er_bin (er_bin (er_top X (er_var 0 rfl)) (er_bot X (er_var 1 rfl)) (bop_mul (hp.mt hq))) (er_bin (er_top X (er_var 1 rfl)) (er_bot X (er_var 0 rfl)) (bop_mul (hq.mt hp))) bop_sub)
    (ar_cons (er_bin (er_bot X (er_var 0 rfl)) (er_bot X (er_var 1 rfl)) (bop_mul (hp.mb hq))) ar_nil)) (divInt_sub p q) (Int.mul_ne_zero den_ne den_ne) (hp.dd hq)) ⟨_, [], rfl, fun _ _ h => h, rfl⟩
theorem kf_mul (Fn : Fun K "__mul__" "Ratio.__mul__" s_Ratio___mul__ f fd) (X : RatX K mg C) (T : Kc P w K mg base C "Ratio" 3 (pInit C B)) : FnOk P w K mg base (L2.CX P w) 5 f fd P_Ratio___mul__ (spM (pMul C)) := by
  refine fn_ok Fn c_Ratio___mul__ (fun _ _ _ _ ⟨_, _, h, _⟩ => by rw [h]; rfl) ?_
  rintro cdv A outer s H E ⟨_, G0, H0, M, W, tk⟩ hr rfl Rs ω o ω' ⟨⟨p, q⟩, ⟨hp, hq⟩, rfl, rfl, rfl, rfl⟩
  refine hb_ret (er_ratio T hr (ar_cons (er_bin (er_top X (er_var 0 rfl)) (er_top X (er_var 1 rfl)) (bop_mul (mulok hp.t hq.t)))
    (ar_cons (er_bin (er_bot X (er_var 0 rfl)) (er_bot X (er_var 1 rfl)) (bop_mul (hp.mb hq))) ar_nil)) (divInt_mul p q) (Int.mul_ne_zero den_ne den_ne) (hp.dd hq)) ⟨_, [], rfl, fun _ _ h => h, rfl⟩
theorem kf_neg (Fn : Fun K "__neg__" "Ratio.__neg__" s_Ratio___neg__ f fd) (X : RatX K mg C) (T : Kc P w K mg base C "Ratio" 3 (pInit C B)) : FnOk P w K mg base (L2.CX P w) 5 f fd P_Ratio___neg__ (spM (pNeg C)) := by
  refine fn_ok Fn c_Ratio___neg__ (fun _ _ _ _ ⟨_, _, h, _⟩ => by rw [h]; rfl) ?_
  rintro cdv A outer s H E ⟨_, G0, H0, M, W, tk⟩ hr rfl Rs ω o ω' ⟨p, hp, rfl, rfl, rfl, rfl⟩
  exact hb_ret (er_ratio T hr (ar_cons (er_un (er_top X (er_var 0 rfl)) uop_neg) (ar_cons (er_bot X (er_var 0 rfl)) ar_nil)) (divInt_neg p) den_ne (Nat.lt_of_lt_of_le hp.b (Nat.pow_le_pow_right (by decide) (by decide)))) ⟨_, [], rfl, fun _ _ h => h, rfl⟩
theorem kf_whole (Fn : Fun K "whole" "Ratio.whole" s_Ratio_whole f fd) (X : RatX K mg C) (T : Kc P w K mg base C "Ratio" 3 (pInit C B)) : FnOk P w K mg base (L2.CX P w) 5 f fd P_Ratio_whole (spM (pWhole C)) := by
  refine fn_ok Fn c_Ratio_whole (fun _ _ _ _ ⟨_, _, h, _⟩ => by rw [h]; rfl) ?_
  rintro cdv A outer s H E ⟨_, G0, H0, M, W, tk⟩ hr rfl Rs ω o ω' ⟨n, -, rfl, rfl, rfl, rfl⟩
  exact hb_ret (er_ratio T hr (ar_cons (er_var 1 rfl) (ar_cons er_int ar_nil)) (divInt_int n) (by decide) (Nat.lt_of_lt_of_le (show 1 < 2 ^ 1 by decide) (Nat.pow_le_pow_right (by decide) (by decide)))) ⟨_, [], rfl, fun _ _ h => h, rfl⟩
theorem kf_quo (Fn : Fun K "quotient" "Ratio.quotient" s_Ratio_quotient f fd) (X : RatX K mg C) (T : Kc P w K mg base C "Ratio" 3 (pInit C B)) : FnOk P w K mg base (L2.CX P w) 5 f fd P_Ratio_quotient (spM (pQuo C B)) := by
  refine fn_ok Fn c_Ratio_quotient (fun _ _ _ _ h => by rcases h with ⟨_, _, h, _⟩ | ⟨_, _, h, _⟩ <;> rw [h] <;> rfl) ?_
  rintro cdv A outer s H E ⟨_, G0, H0, M, W, tk⟩ hr rfl Rs ω o ω' (⟨⟨p, q⟩, ⟨hp, hq, h0⟩, rfl, rfl, rfl, rfl⟩ | ⟨⟨p, q⟩, ⟨hp, hq, h0⟩, rfl, rfl, rfl, rfl⟩)
  · refine hb_ret (er_ratio T hr (ar_cons (er_bin (er_top X (er_var 0 rfl)) (er_bot X (er_var 1 rfl)) (bop_mul (hp.mt hq)))
      (ar_cons (er_bin (er_bot X (er_var 0 rfl)) (er_top X (er_var 1 rfl)) (bop_mul (mulok hp.b hq.t))) ar_nil)) (divInt_quo p q) (Int.mul_ne_zero den_ne h0) ?_) ⟨_, [], rfl, fun _ _ h => h, rfl⟩
    rw [Int.natAbs_mul]
    exact Nat.lt_of_lt_of_le (mul_lt2 hp.b hq.t) (Nat.pow_le_pow_right (by decide) (by decide))
  · refine hb_retX (ex_ratio T hr (ar_cons (er_bin (er_top X (er_var 0 rfl)) (er_bot X (er_var 1 rfl)) (bop_mul (hp.mt hq)))
      (ar_cons (er_bin (er_bot X (er_var 0 rfl)) (er_top X (er_var 1 rfl)) (bop_mul (mulok hp.b hq.t))) ar_nil)) ?_) ⟨_, [], rfl, fun _ _ _ h => h, rfl⟩
    show (p.den : Int) * q.num = 0
    rw [show q.num = 0 from h0, Int.mul_zero]
theorem kf_under (Fn : Fun K "under" "Ratio.under" s_Ratio_under f fd) (X : RatX K mg C) : FnOk P w K mg base (L2.CX P w) 5 f fd P_Ratio_under (spM (pUnder C)) := by
  refine fn_ok Fn c_Ratio_under (fun _ _ _ _ ⟨_, _, h, _⟩ => by rw [h]; rfl) ?_
  rintro cdv A outer s H E ⟨_, G0, H0, M, W, tk⟩ hr rfl Rs ω o ω' ⟨⟨p, q⟩, ⟨hp, hq⟩, rfl, rfl, rfl, rfl⟩
  refine hb_ret (er_cmp (er_bin (er_top X (er_var 0 rfl)) (er_bot X (er_var 1 rfl)) (bop_mul (hp.mt hq))) (er_bin (er_top X (er_var 1 rfl)) (er_bot X (er_var 0 rfl)) (bop_mul (hq.mt hp))) bop_lt) ⟨_, [], rfl, fun v G h => ?_, rfl⟩
  rw [show v = V.bl _ from h]
  show V.bl _ = V.bl _
  congr 1
  exact decide_eq_decide.mpr (Rat.lt_iff p q).symm
theorem kf_bool (Fn : Fun K "__bool__" "Ratio.__bool__" s_Ratio___bool__ f fd) (X : RatX K mg C) : FnOk P w K mg base (L2.CX P w) 5 f fd P_Ratio___bool__ (spM (pBool C)) := by
  refine fn_ok Fn c_Ratio___bool__ (fun _ _ _ _ ⟨_, _, h, _⟩ => by rw [h]; rfl) ?_
  rintro cdv A outer s H E ⟨_, G0, H0, M, W, tk⟩ hr rfl Rs ω o ω' ⟨p, -, rfl, rfl, rfl, rfl⟩
  exact hb_ret (er_callTy cop_bool rfl X.bool bt_bool (ar_cons (er_top X (er_var 0 rfl)) ar_nil)) ⟨_, [], rfl, fun _ _ h => h, rfl⟩
theorem kf_eq (Fn : Fun K "__eq__" "Ratio.__eq__" s_Ratio___eq__ f fd) (X : RatX K mg C) : FnOk P w K mg base (L2.CX P w) 5 f fd P_Ratio___eq__ (spM (pEq C)) := by
  refine fn_ok Fn c_Ratio___eq__ (fun _ _ _ _ h => by rcases h with ⟨_, _, h, _⟩ | ⟨_, _, h, _⟩ | ⟨_, _, h, _⟩ <;> rw [h] <;> rfl) ?_
  rintro cdv A outer s H E ⟨_, G0, H0, M, W, tk⟩ hr rfl Rs ω o ω' (⟨⟨p, q⟩, -, rfl, rfl, rfl, rfl⟩ | ⟨⟨p, q⟩, -, rfl, rfl, rfl, rfl⟩ | ⟨⟨p, q⟩, -, rfl, rfl, rfl, rfl⟩)
  · refine hb_ret (er_and (er_callB (cop_isIns X.cx) rfl X.isi bt_isi (ar_cons (er_var 1 rfl) (ar_cons (er_glob rfl X.gC rfl) ar_nil))) fun _ => er_and (er_cmp (er_top X (er_var 0 rfl)) (er_top X (er_var 1 rfl)) bop_eqI) fun _ => er_one (er_cmp (er_bot X (er_var 0 rfl)) (er_bot X (er_var 1 rfl)) bop_eqI)) ⟨_, [], rfl, fun v G h => ?_, rfl⟩
    rw [show v = V.bl _ from h]
    show V.bl _ = V.bl (decide (p = q))
    rw [← rat_eq_dec, Bool.true_and]
  · refine hb_ret (er_and (m := false) (er_callB (cop_isNot (.inl ⟨q, rfl, rfl⟩) X.ksI) rfl X.isi bt_isi (ar_cons (er_var 1 rfl) (ar_cons (er_glob rfl X.gC rfl) ar_nil))) fun z => Bool.noConfusion z) ⟨_, [], rfl, fun v G h => h, rfl⟩
  · refine hb_ret (er_and (m := false) (er_callB (cop_isNot (.inr (.inl ⟨q, rfl, rfl⟩)) X.ksS) rfl X.isi bt_isi (ar_cons (er_var 1 rfl) (ar_cons (er_glob rfl X.gC rfl) ar_nil))) fun z => Bool.noConfusion z) ⟨_, [], rfl, fun v G h => h, rfl⟩
end
end W1
set_option maxRecDepth 100000
set_option maxHeartbeats 2000000
set_option exponentiation.threshold 20000
namespace W1
open PySem PySem.Spec PyProof.Rows L2 NdefX

/-- a list or a tuple -/
def rSeq (b : Bool) (Rs : List Rl) : Rl := if b then rLst Rs else rTup Rs
section
variable {F : Fx} {ρ : Ty} {ω w w1 : Ow} {e tg it : Expr} {Rs : List Rl} {R : Rl} {b : Bool} {i : Int} {n : Nat}
theorem it_Rq (he : ER F ρ ω it (rSeq b Rs) w1) : IT F ρ ω tg it Rs w1 := by
  cases b
  · exact it_tup he
  · exact it_lst he
end
def sumR (qs : List Rat) : Rat := qs.foldl (· + ·) 0
theorem fold_take {α β : Type} (f : β → α → β) (z : β) (xs : List α) (k : Nat) (a : α) (h : xs[k]? = some a) : (xs.take (k + 1)).foldl f z = f ((xs.take k).foldl f z) a := by
  rw [List.take_add_one, h, List.foldl_append]
  rfl
theorem map_get {α β : Type} {f : α → β} {xs : List α} {k : Nat} {S : β} (h : (xs.map f)[k]? = some S) : ∃ a, xs[k]? = some a ∧ S = f a := by
  rw [List.getElem?_map] at h
  cases e : xs[k]? with
  | none => rw [e] at h; cases h
  | some a => rw [e] at h; cases h; exact ⟨a, rfl, rfl⟩
theorem mem_get {α : Type} {xs : List α} {k : Nat} {a : α} (h : xs[k]? = some a) : a ∈ xs := List.mem_of_getElem? h
def pTotal (C : Addr) : Pre := pOk (α := Bool × List Rat) (fun a => (∀ q ∈ a.2, small q) ∧ ∀ k, small (sumR (a.2.take k))) (fun a => [rSeq a.1 (a.2.map (rRat C))]) (fun a => rRat C (sumR a.2))
section
variable {C B : Addr} {p q : Rat}
theorem pAddOk (hp : small p) (hq : small q) : pAdd C [rRat C p, rRat C q] [] (.ok (rRat C (p + q))) [] := ⟨(p, q), ⟨hp, hq⟩, rfl, rfl, rfl, rfl⟩
theorem pSubOk (hp : small p) (hq : small q) : pSub C [rRat C p, rRat C q] [] (.ok (rRat C (p - q))) [] := ⟨(p, q), ⟨hp, hq⟩, rfl, rfl, rfl, rfl⟩
theorem pMulOk (hp : small p) (hq : small q) : pMul C [rRat C p, rRat C q] [] (.ok (rRat C (p * q))) [] := ⟨(p, q), ⟨hp, hq⟩, rfl, rfl, rfl, rfl⟩
theorem pUnderOk (hp : small p) (hq : small q) : pUnder C [rRat C p, rRat C q] [] (.ok (rBool (decide (p < q)))) [] := ⟨(p, q), ⟨hp, hq⟩, rfl, rfl, rfl, rfl⟩
theorem pNegOk (hp : small p) : pNeg C [rRat C p] [] (.ok (rRat C (-p))) [] := ⟨p, hp, rfl, rfl, rfl, rfl⟩
theorem pBoolOk : pBool C [rRat C p] [] (.ok (rBool (p.num != 0))) [] := ⟨p, trivial, rfl, rfl, rfl, rfl⟩
theorem pWholeOk {n : Int} : pWhole C [rRef C, rInt n] [] (.ok (rRat C (n : Rat))) [] := ⟨n, trivial, rfl, rfl, rfl, rfl⟩
theorem pQuoOk (hp : small p) (hq : small q) (h : q.num ≠ 0) : pQuo C B [rRat C p, rRat C q] [] (.ok (rRat C (p / q))) [] := .inl ⟨(p, q), ⟨hp, hq, h⟩, rfl, rfl, rfl, rfl⟩
theorem pEqOk : pEq C [rRat C p, rRat C q] [] (.ok (rBool (decide (p = q)))) [] := .inl ⟨(p, q), trivial, rfl, rfl, rfl, rfl⟩
theorem pTotalOk {b : Bool} {qs : List Rat} (h1 : ∀ q ∈ qs, small q) (h2 : ∀ k, small (sumR (qs.take k))) : pTotal C [rSeq b (qs.map (rRat C))] [] (.ok (rRat C (sumR qs))) [] := ⟨(b, qs), ⟨h1, h2⟩, rfl, rfl, rfl, rfl⟩
end
section
variable {P : Program} {w : World} {K : PySem.W.Frag} {mg : Str → Option Value} {base : Heap} {C B f : Addr} {fd : FuncData}
theorem kf_total (Fn : Fun K "total" "total" s_total f fd) (X : RatX K mg C) (Tw : Kcm P w K mg base C "whole" 5 (pWhole C)) (Ta : Ko P w K mg base C "__add__" 5 (pAdd C)) : FnOk P w K mg base (L2.CX P w) 7 f fd P_total (spM (pTotal C)) := by
  refine fn_ok Fn c_total (fun _ _ _ _ ⟨_, _, h, _⟩ => by rw [h]; rfl) ?_
  rintro cdv A outer s H E ⟨_, G0, H0, M, W, tk⟩ hr rfl Rs ω o ω' ⟨⟨b, qs⟩, ⟨h1, h2⟩, rfl, rfl, rfl, rfl⟩
  refine hb_set 1 (er_cm Tw (hr.mono (by decide)) (er_glob rfl X.gC rfl) (ar_cons er_int ar_nil) (pok (0 : Int) trivial)) ?_ c_total.nd
  refine hb_for (it_Rq (er_var 0 rfl)) (fun k ρ ω => ω = [] ∧ ∃ z, ρ = [some (rSeq b (qs.map (rRat C))), some (rRat C (sumR (qs.take k))), z]) ⟨rfl, none, ?_⟩ ?_ ?_ (passes_of rfl) (pg_name (i := 2) c_total.nd rfl (Or.inl rfl))
  · rfl
  · rintro k ρ ω S hS ⟨rfl, z, rfl⟩
    obtain ⟨q, hq, rfl⟩ := map_get hS
    refine ⟨_, ge_name, ?_⟩
    refine hb_set 1 (er_bin (er_var 1 rfl) (er_var 2 rfl) (bop_o Ta X.cx (hr.mono (by decide)) (pAddOk (h2 k) (h1 q (mem_get hq))))) (hb_nil ?_) c_total.nd
    refine ⟨rfl, some (rRat C q), ?_⟩
    unfold sumR
    rw [fold_take _ _ _ _ _ hq]
    rfl
  · rintro ρ ω ⟨rfl, z, rfl⟩
    refine hb_ret (er_var 1 rfl) ⟨_, [], rfl, fun v G h => ?_, rfl⟩
    rw [List.length_map, List.take_length] at h
    exact h
end
end W1
set_option maxRecDepth 100000
set_option maxHeartbeats 2000000
set_option exponentiation.threshold 20000
namespace W1
open PySem PySem.Spec PyProof.Rows L2 NdefX TL NumText

/-! ### names and amounts -/
theorem bt_all : bootBuiltins "all" = some (.builtin "all") := by decide +kernel
abbrev lets : Str := Str.ofString "abcdefghijklmnopqrstuvwxyz"
abbrev sigs : Str := Str.ofString "abcdefghijklmnopqrstuvwxyz0123456789"
def isLet (c : Nat) : Bool := decide (c ∈ tl lets)
def isSig (c : Nat) : Bool := decide (c ∈ tl sigs)
def nameL (l : List Nat) : Bool := match l with | [] => false | c :: r => decide ((c :: r).length ≤ 8) && isLet c && (c :: r).all isSig
def pName : Pre := pOk (α := Str) (fun z => z.length ≤ 640) (fun z => [rStr z]) (fun z => rBool (nameL (tl z)))
theorem pNameOk {z : Str} (h : z.length ≤ 640) : pName [rStr z] [] (.ok (rBool (nameL (tl z)))) [] := ⟨z, h, rfl, rfl, rfl, rfl⟩
theorem cop_lenStr {F : Fx} {w : Ow} {z : Str} (h : z.length ≤ 100000) : Cop F w (.builtin "len") [rStr z] (rInt (z.length : Int)) := cop_of1 call_len_str fun _ _ q => ⟨z, rfl, Nat.le_trans h (by decide), q⟩
section
variable {P : Program} {w : World} {K : PySem.W.Frag} {mg : Str → Option Value} {base : Heap} {f : Addr} {fd : FuncData} {tk1 tk2 tk3 : Tok}
theorem kf_is_name (Fn : Fun K "is_name" "is_name" s_is_name f fd) (gL : mg "LETTERS" = some (.str lets tk1)) (gS : mg "SIGNS" = some (.str sigs tk2)) (gM : mg "MOST_LETTERS" = some (.int 8 tk3)) (len : mg "len" = none) (all : mg "all" = none) : FnOk P w K mg base (L2.CX P w) 2 f fd P_is_name (spM pName) := by
  refine fn_ok Fn c_is_name (fun _ _ _ _ ⟨_, _, h, _⟩ => by rw [h]; rfl) ?_
  rintro cdv A outer s H E ⟨_, G0, H0, M, W, tk⟩ hr rfl Rs ω o ω' ⟨z, hz, rfl, rfl, rfl, rfl⟩
  have hz : z.length ≤ 640 := hz
  have nd := c_is_name.nd
  show HB _ _ _ _ (Kf (.ok (rBool (nameL (tl z)))) [])
  have el : ∀ {F : Fx} {ω ω' : Ow} {ρ : Ty} {e : Expr}, ER F ρ ω e (rLst ((tl z).map fun c => rBool (decide (c ∈ tl sigs)))) ω' → ER F ρ ω e (rLst (((tl z).map fun c => decide (c ∈ tl sigs)).map rBool)) ω' := fun h => er_eq h (by rw [List.map_map]; rfl)
  have fin : HB ⟨cxOf (L2.CX P w) P w K mg base N_is_name "is_name" (defScope s_is_name) f cdv A outer s H E, G0, H0, M, W, tk⟩ [some (rStr z), none] [] ((defBody s_is_name).drop 1) (Kf (.ok (rBool ((tl z).all isSig))) []) := by
    refine hb_ret (er_callB (cop_all rfl) rfl all bt_all (ar_cons (el (er_lc (xs := tl z) (A := fun c => rStr ⟨#[c]⟩) (B := fun c => rBool (decide (c ∈ tl sigs))) (it_str (er_var 0 rfl)) (by rw [← len_tl]; omega) [("sign", 1)]
      (blkOk_by (N := N_is_name) (sc := defScope s_is_name) (by decide +kernel)) (fun _ _ _ _ _ => pg_name (i := 1) nd rfl (Or.inl rfl)) (fun i a h => gew_name) (fun i a h s H0 cc cl fp d => er_cmp (er_var 1 rfl) (er_glob (v := .str sigs) rfl gS ⟨tk2, rfl⟩) bop_inC) nd)) ar_nil)) ⟨_, [], rfl, fun v G h => ?_, rfl⟩
    rw [show v = V.bl _ from h]
    show V.bl _ = V.bl _
    congr 1
    rw [List.all_map]
    rfl
  cases e : tl z with
  | nil =>
    have ez : z = Str.ofString "" := ext_tl (by rw [e, tl_ofString]; rfl)
    refine hb_if (b := true) (tr_to (PWR.tr (tr_or (m := true) (tr_cmp (er_var 0 rfl) er_str bop_eqS) fun h => absurd ez (of_decide_eq_false h))) (Bool.or_true _)) (fun _ => ?_) (fun y => Bool.noConfusion y)
    exact hb_ret er_bl ⟨_, [], rfl, fun _ _ h => h, rfl⟩
  | cons c r =>
    have ne : ¬ z = Str.ofString "" := fun y => by
      rw [y, tl_ofString] at e
      cases e
    have hl : z.length = (c :: r).length := by rw [len_tl, e]
    refine hb_if (PWR.tr (tr_or (tr_cmp (er_var 0 rfl) er_str bop_eqS) fun _ => tr_or (tr_cmp (er_callB (cop_lenStr (by omega)) rfl len bt_len (ar_cons (er_var 0 rfl) ar_nil)) (er_glob (v := .int 8) rfl gM ⟨tk3, rfl⟩) bop_gt) fun _ => tr_or1 (tr_cmp (er_ix (er_var 0 rfl) er_int (iop_str (c := c) (atI_nat (j := 0) (by show (tl z)[0]? = _; rw [e]; rfl)) (by omega))) (er_glob (v := .str lets) rfl gL ⟨tk1, rfl⟩) bop_niC))) (fun hb => ?_) (fun hb => hb_nil ?_)
    · refine hb_ret er_bl ⟨_, [], rfl, fun v G h => ?_, rfl⟩
      rw [show v = V.bl false from h]
      show V.bl false = V.bl (decide ((c :: r).length ≤ 8) && isLet c && (c :: r).all isSig)
      rw [decide_eq_false ne, Bool.false_or, Bool.or_eq_true] at hb
      rcases hb with hb | hb
      · have := of_decide_eq_true hb
        rw [decide_eq_false (by omega), Bool.false_and, Bool.false_and]
      · have : isLet c = false := by simpa [isLet] using hb
        rw [this, Bool.and_false, Bool.false_and]
    · rw [decide_eq_false ne, Bool.false_or, Bool.or_eq_false_iff] at hb
      have h1 := of_decide_eq_false hb.1
      have h2 : isLet c = true := by simpa [isLet] using hb.2
      have e2 : nameL (c :: r) = (tl z).all isSig := by
        show (decide ((c :: r).length ≤ 8) && isLet c && (c :: r).all isSig) = _
        rw [decide_eq_true (by omega), h2, e]
        rfl
      rw [e2]
      exact fin
end
end W1
set_option maxRecDepth 100000
set_option maxHeartbeats 2000000
set_option exponentiation.threshold 20000
namespace W1
open PySem PySem.Spec PyProof.Rows L2 NdefX TL NumText

def chkL (am : Am) : List Str → Option (Sum Str Int)
  | [] => none
  | g :: r => if nameL (tl g) = true then (if valA am g < 0 then some (.inr (valA am g)) else chkL am r) else some (.inl g)
def AmOk (am : Am) : Prop := am.length < 64 ∧ ∀ p ∈ am, p.1.length ≤ 640 ∧ p.2.natAbs.log2 < 1920
theorem srt_mem {xs : List Str} {g : Str} (h : g ∈ srt xs) : g ∈ xs := (srt_perm xs).mem_iff.mp h
section
variable {P : Program} {w : World} {K : PySem.W.Frag} {mg : Str → Option Value} {base : Heap} {N B f : Addr} {fd : FuncData}
end
end W1
set_option maxRecDepth 100000
set_option maxHeartbeats 2000000
set_option exponentiation.threshold 20000
namespace W1
open PySem PySem.Spec PyProof.Rows L2 NdefX TL NumText

def keptL (am : Am) : List Str := (srt (namesA am)).filter fun g => decide (0 < valA am g)
def keptA (am : Am) : Am := (keptL am).map fun g => (g, valA am g)
theorem putKR_new {fs : List (Key × Rl)} {k : Key} {R : Rl} (h : k ∉ fs.map (·.1)) : putKR fs k R = fs ++ [(k, R)] := by
  unfold putKR
  rw [if_neg]
  intro z
  obtain ⟨p, hp, e⟩ := List.any_eq_true.mp z
  exact h (List.mem_map.mpr ⟨p, hp, of_decide_eq_true e⟩)
theorem dcR_nodup {α : Type} {kf : α → Key} {B : α → Rl} {xs : List α} (h : (xs.map kf).Nodup) : dcR kf B xs = xs.map fun a => (kf a, B a) := by
  have go : ∀ (xs : List α) (acc : List (Key × Rl)), (acc.map (·.1) ++ xs.map kf).Nodup → xs.foldl (fun acc a => putKR acc (kf a) (B a)) acc = acc ++ xs.map fun a => (kf a, B a) := by
    intro xs
    induction xs with
    | nil => intro acc _; simp
    | cons a l ih =>
      intro acc hn
      rw [List.foldl_cons, putKR_new]
      · rw [ih (acc ++ [(kf a, B a)]) (by rw [List.map_append, List.append_assoc]; exact hn), List.append_assoc]
        rfl
      · intro hm
        rw [List.map_cons] at hn
        exact (List.nodup_append.mp hn).2.2 _ hm _ List.mem_cons_self rfl
  exact go xs [] (by simpa using h)
section
variable {P : Program} {w : World} {K : PySem.W.Frag} {mg : Str → Option Value} {base : Heap} {f : Addr} {fd : FuncData}
end
end W1
set_option maxRecDepth 100000
set_option maxHeartbeats 2000000
set_option exponentiation.threshold 20000
namespace W1
open PySem PySem.Spec PyProof.Rows L2 NdefX TL NumText
/-! ### ways -/
def wayE (t : Am) (h : Int) (m : Am) : Option (Sum Str Int) :=
  match chkL t (srt (namesA t)) with
  | some x => some x
  | none => match chkL m (srt (namesA m)) with
    | some x => some x
    | none => if h < 1 then some (.inr h) else if keptA m = [] then some (.inr 0) else none
structure AmG (am : Am) : Prop where
  ok : AmOk am
  nd : (namesA am).Nodup
structure WayX (K : PySem.W.Frag) (mg : Str → Option Value) (W : Addr) : Prop where
  cx : ClsX K W
  ni : NoAttr K W "inputs"
  nh : NoAttr K W "hours"
  no : NoAttr K W "outputs"
  gW : mg "Way" = some (.ref W)
  nf : PySem.W.notFirst K W (.ref W) = true
section
variable {P : Program} {w : World} {K : PySem.W.Frag} {mg : Str → Option Value} {base : Heap} {W N B f : Addr} {fd : FuncData}
end
end W1
set_option maxRecDepth 100000
set_option maxHeartbeats 2000000
set_option exponentiation.threshold 20000
namespace W1
open PySem PySem.Spec PyProof.Rows L2 NdefX TL NumText
/-! ### what a way tells -/
def putA (am : Am) (k : Str) (v : Int) : Am := if (am.any fun p => decide (p.1 = k)) = true then am.map (fun p => if p.1 = k then (p.1, v) else p) else am ++ [(k, v)]
def mergeA (a b : Am) : Am := b.foldl (fun acc p => putA acc p.1 p.2) a
theorem names_put (am : Am) (k : Str) (v : Int) : namesA (putA am k v) = if k ∈ namesA am then namesA am else namesA am ++ [k] := by
  have e : (am.any fun p => decide (p.1 = k)) = true ↔ k ∈ namesA am := by
    rw [List.any_eq_true]
    constructor
    · rintro ⟨p, hp, h⟩
      exact List.mem_map.mpr ⟨p, hp, of_decide_eq_true h⟩
    · intro h
      obtain ⟨p, hp, rfl⟩ := List.mem_map.mp h
      exact ⟨p, hp, decide_eq_true rfl⟩
  unfold putA
  by_cases h : k ∈ namesA am
  · rw [if_pos (e.mpr h), if_pos h]
    unfold namesA
    rw [List.map_map]
    apply List.map_congr_left
    intro p _
    show (if p.1 = k then (p.1, v) else p).1 = p.1
    split <;> rfl
  · rw [if_neg (fun z => h (e.mp z)), if_neg h]
    unfold namesA
    rw [List.map_append]
    rfl
theorem names_merge : ∀ (b a : Am), (namesA a).Nodup → (namesA (mergeA a b)).Nodup ∧ ∀ g, g ∈ namesA (mergeA a b) ↔ g ∈ namesA a ∨ g ∈ namesA b
  | [], a, h => ⟨h, fun g => ⟨.inl, fun z => z.elim id fun y => by cases y⟩⟩
  | p :: b, a, h => by
    have h1 : (namesA (putA a p.1 p.2)).Nodup ∧ ∀ g, g ∈ namesA (putA a p.1 p.2) ↔ g ∈ namesA a ∨ g = p.1 := by
      rw [names_put]
      split
      · next hm => exact ⟨h, fun g => ⟨.inl, fun z => z.elim id fun y => y ▸ hm⟩⟩
      · next hm => exact ⟨List.nodup_append.mpr ⟨h, by simp, fun x hx y hy => by rw [List.mem_singleton.mp hy]; exact fun e => hm (e ▸ hx)⟩, fun g => by rw [List.mem_append, List.mem_singleton]⟩
    obtain ⟨h2, h3⟩ := names_merge b (putA a p.1 p.2) h1.1
    refine ⟨h2, fun g => (h3 g).trans ?_⟩
    rw [h1.2]
    show _ ↔ g ∈ namesA a ∨ g ∈ p.1 :: namesA b
    rw [List.mem_cons, or_assoc]
def goodsW (t m : Am) : List Str := srt (namesA (mergeA (mergeA [] (keptA t)) (keptA m)))
abbrev sp : Str := Str.ofString " "
structure TxtOk (am : Am) : Prop where
  len : am.length ≤ 8
  nm : ∀ p ∈ am, p.1.length ≤ 640
  sz : ∀ g, (valA am g).natAbs.log2 < 1920
section
variable (W : Addr)
end
section
variable {P : Program} {w : World} {K : PySem.W.Frag} {mg : Str → Option Value} {base : Heap} {W N B f : Addr} {fd : FuncData}
end
end W1
set_option maxRecDepth 100000
set_option maxHeartbeats 2000000
set_option exponentiation.threshold 20000
namespace W1
open PySem PySem.Spec PyProof.Rows L2 NdefX TL NumText
section
variable {F : Fx} {ρ : Ty} {w w1 : Ow} {A B : Rl} {a b : Am} {n : Nat} {e tg it : Expr}
end
theorem str_len_num {i : Int} (h : i.natAbs.log2 < 1920) : (numT i).length ≤ 1921 := int_text_len_1921 h
section
variable {P : Program} {w : World} {K : PySem.W.Frag} {mg : Str → Option Value} {base : Heap} {W N B f : Addr} {fd : FuncData}
end
end W1
set_option maxRecDepth 100000
set_option maxHeartbeats 2000000
set_option exponentiation.threshold 20000
namespace W1
open PySem PySem.Spec PyProof.Rows L2 ItX
/-! ### iteration by an own __iter__ that hands back the iterator of a tuple -/
structure ItM (K : PySem.W.Frag) (C g : Addr) : Prop where
  it : PySem.W.findIn K (.ref C) "__iter__" = some (some (.ref g))
  fn : PySem.W.isFn K (.ref g) = true
section
variable {X : Cx} {C g : Addr} {fld : Str} {k : Nat} {fd : FuncData} {ps : List Str}
end
section
variable {F : Fx} {ρ : Ty} {ω w1 : Ow} {tg it : Expr} {C g : Addr} {fld : Str} {k : Nat} {fs : List (Str × Rl)} {Rs : List Rl}
end
end W1
set_option maxRecDepth 100000
set_option maxHeartbeats 2000000
set_option exponentiation.threshold 20000
namespace W1
open PySem PySem.Spec PyProof.Rows L2
/-! ### enumerate of a tuple -/
theorem sqt_up {K : PySem.W.Frag} {a : Addr} {xs : List V} {G H : Hp} (e : Same G H) (h : SqT K G a xs) : SqT K H a xs := sameT e h
section
variable {F : Fx} {ρ : Ty} {ω w1 : Ow} {e : Expr} {pos p : Pos} {Rs : List Rl}
end
end W1
set_option maxRecDepth 100000
set_option maxHeartbeats 4000000
set_option exponentiation.threshold 20000
namespace W1S
open PySem PySem.Spec PyProof.Rows L2 TL
section
variable {prog : Program} {w : World} {A : Around} {E : Value → Shared → Prop} {s : Shared}
end
end W1S
namespace W1
open PySem PySem.Spec PyProof.Rows L2 NdefX TL NumText
/-! ### a sequence: a list or a tuple of ours, or a list that somebody still holds -/
def IsSq (F : Fx) (A : Rl) (w : Ow) (Rs : List Rl) : Prop := ∀ x G H, At F w G H → A.r x G → ∃ p vs, x = .ref p ∧ (SqL F.X.K H p vs ∨ SqT F.X.K H p vs) ∧ All2 Rs vs G
section
variable {F : Fx} {w wc : Ow} {A B : Rl} {Rs : List Rl} {xs : List Str} {g : Str} {v u : Option Int}
theorem isq_L : IsSq F (rLst Rs) w Rs := fun x G H at_ ⟨p, vs, a, b, c⟩ => ⟨p, vs, a, .inl (SqL.of (at_.gh _ _ b)), c⟩
theorem inV_str : ∀ {xs : List Str}, inV (.str g) (xs.map V.str) = decide (g ∈ xs)
  | [] => rfl
  | x :: r => by
    show (eqV (.str x) (.str g) || inV (.str g) (r.map V.str)) = _
    rw [inV_str (xs := r)]
    show (decide (x = g) || _) = _
    by_cases e : x = g
    · subst e; simp
    · have e2 : ¬ g = x := fun z => e z.symm
      simp [e, e2]
theorem flat_strs : (xs.map V.str).all flatV = true := by
  rw [List.all_map, List.all_eq_true]
  exact fun _ _ => rfl
theorem bop_inQ (h : IsSq F B w (xs.map rStr)) : Bop F w (compareOp .In) (rStr g) B (rBool (decide (g ∈ xs))) := ⟨_, op_in_seq, fun x y G H at_ hx hy Q k => by
  cases (show x = V.str g from hx)
  obtain ⟨p, vs, rfl, h1, h2⟩ := h y G H at_ hy
  have e := str_vals h2
  subst e
  refine ⟨p, _, rfl, h1, rfl, flat_strs, ?_⟩
  rw [inV_str]
  exact k _ G H (Same.refl _) at_ rfl⟩
theorem bop_niQ (h : IsSq F B w (xs.map rStr)) : Bop F w (compareOp .NotIn) (rStr g) B (rBool (!decide (g ∈ xs))) := ⟨_, op_notIn_seq, fun x y G H at_ hx hy Q k => by
  cases (show x = V.str g from hx)
  obtain ⟨p, vs, rfl, h1, h2⟩ := h y G H at_ hy
  have e := str_vals h2
  subst e
  refine ⟨p, _, rfl, h1, rfl, flat_strs, ?_⟩
  rw [inV_str]
  exact k _ G H (Same.refl _) at_ rfl⟩
end
end W1
set_option maxRecDepth 100000
set_option maxHeartbeats 4000000
set_option exponentiation.threshold 20000
namespace W1
open PySem PySem.Spec PyProof.Rows L2 NdefX TL NumText
/-! ### loops over a sequence that somebody may still hold -/
/-- as Yld, where what is owned is as P says -/
structure YldP (F : Fx) (P : Ow → Prop) (J : It) (Rs : List Rl) (G : Hp) : Prop where
  go : ∀ i w G' H', P w → Same G G' → At F w G' H' → i < Rs.length → J.go i H'
  stop : ∀ w G' H', P w → Same G G' → At F w G' H' → J.stop Rs.length H'
  yld : ∀ (i : Nat) (R : Rl) w G' H' x H'', P w → Same G G' → At F w G' H' → Rs[i]? = some R → J.yld i H' x H'' → ∃ G'', Step G' H' G'' H'' ∧ R.r x G''
section
variable {F : Fx} {P : Ow → Prop} {ρ ρ1 : Ty} {ω w w1 wc : Ow} {tg it e : Expr} {Rs : List Rl} {A R : Rl} {K : Kn} {rest body : List Stmt} {pos p : Pos}
end
end W1
set_option maxRecDepth 100000
set_option maxHeartbeats 4000000
set_option exponentiation.threshold 20000
namespace W1
open PySem PySem.Spec PyProof.Rows L2 NdefX TL NumText
/-! ### a book, and what is wrong with what it is made of -/
abbrev Wy := Am × Int × Am
abbrev gWy (y : Wy) : List Str := goodsW y.1 y.2.2
structure WyOk (y : Wy) : Prop where
  few : y.1.length + y.2.2.length < 60
  nm : ∀ g ∈ gWy y, g.length ≤ 640
inductive BE where
  | num (n : Int) | name (z : Str) | twice (z : Str) | unk (z : Str)
/-- the names, one behind the other; s: those before -/
def gErr : List Str → List Str → Option BE
  | _, [] => none
  | s, g :: r => if nameL (tl g) = true then (if g ∈ s then some (.twice g) else gErr (s ++ [g]) r) else some (.name g)
def lost (gs : List Str) (y : Wy) : Option Str := (gWy y).find? fun g => !decide (g ∈ gs)
def wErr (gs : List Str) : List Wy → Option BE
  | [] => none
  | y :: r => match lost gs y with
    | some g => some (.unk g)
    | none => wErr gs r
def bErr (gs : List Str) (ys : List Wy) : Option BE :=
  if 1 ≤ gs.length ∧ gs.length ≤ 4 then match gErr [] gs with
    | some e => some e
    | none => if 1 ≤ ys.length ∧ ys.length ≤ 8 then wErr gs ys else some (.num ys.length)
  else some (.num gs.length)
structure BookX (K : PySem.W.Frag) (mg : Str → Option Value) (C : Addr) : Prop where
  cx : ClsX K C
  nn : NoAttr K C "names"
  nw : NoAttr K C "ways"
  gC : mg "Book" = some (.ref C)
  nf : PySem.W.notFirst K C (.ref C) = true
section
variable {P : Program} {w : World} {K : PySem.W.Frag} {mg : Str → Option Value} {base : Heap} {W C M N D U f : Addr} {fd : FuncData}
end
end W1
set_option maxRecDepth 100000
set_option maxHeartbeats 4000000
set_option exponentiation.threshold 20000
namespace W1
open PySem PySem.Spec PyProof.Rows L2 NdefX TL NumText
/-! ### Book(goods, ways) -/
theorem cutR_take {α : Type} {f : α → Rl} {xs : List α} {k : Nat} (hk : k ≤ xs.length) : cutR (xs.map f) none (some (k : Int)) = (xs.take k).map f := by
  unfold cutR
  rw [HT.sIx_nat, HT.sIx_none, List.length_map, Nat.min_eq_left hk, List.drop_zero, Nat.sub_zero, List.map_take]
section
variable {P : Program} {w : World} {K : PySem.W.Frag} {mg : Str → Option Value} {base : Heap} {W C M N D U f : Addr} {fd : FuncData} {tk1 tk2 : Tok}
end
end W1
set_option maxRecDepth 100000
set_option maxHeartbeats 4000000
set_option exponentiation.threshold 20000
namespace W1
open PySem PySem.Spec PyProof.Rows L2
/-! ### o != p by the default, from an own __eq__ -/
structure NeM (K : PySem.W.Frag) (C : Addr) : Prop where
  ne : PySem.W.findIn K (.ref C) "__ne__" = some (some (.builtin "object.__ne__"))
  ob : PySem.W.mroIn K C (.type "object") = some true
theorem ty_ne : typeOf (.builtin "object.__ne__") = pure (.type "wrapper_descriptor") := by show builtinType _ = _; rw [builtinType_eq_fast]; kernel_rfl
theorem plain_ne : plainId "object.__ne__" = true := by decide +kernel
section
variable {X : Cx} {pins : List (Addr × Obj)} {σ : L2.St} {H : Hp} {s : Shared} {A : Around} {E : Value → Shared → Prop} {C g a : Addr} {k : Nat} {fd : FuncData} {ps : List Str} {sp : Sp} {fs : List (Str × V)} {dx : Addr}
/-- a special method that is a built-in's slot -/
theorem bound_slot {M : Model} {K : PySem.W.Frag} {x : Addr} {ox : Obj} {od : Option Obj} {name : Str} {id : String} {args : List Value} {Q : Option Value → Shared → Prop} (K0 : K.In s.heap) (J : PySem.W.InstAt s.heap x ox C od) (hs : PySem.W.findIn K (.ref C) name = some (some (.builtin id))) (ty : typeOf (.builtin id) = pure (.type "wrapper_descriptor"))
    (h : wpAny M A (call (.builtin id) (.ref x :: args)) (fun v => Q (some v)) E s) : wpAny M A (callSpecialIfBound? (.ref x) name args) Q E s := by
  have bd : bindSpecial (.builtin id) (.ref x) = pure (.builtin id, [.ref x]) := by
    unfold bindSpecial
    rw [ty]
    rfl
  have fin : wpAny M A (call (.builtin id) ([.ref x] ++ args) >>= fun v => pure (some v)) Q E s := wpAny_bind (wpAny_mono h (fun v s' z => wpAny_pure z) fun _ _ z => z)
  simp only [callSpecialIfBound?, bindSpecialIfBound?]
  refine wpAny_holding (wpAny_bind (wpAny_bind (wpAny_bind (J.type.here ((PySem.W.looks_findIn K0 hs).here ?_)))))
  simp only [bd]
  refine wpAny_bind (wpAny_askSetting (wpAny_ite ?_))
  split
  · exact wpAny_bind (wpAny_pure (wpAny_pure fin))
  · exact wpAny_tryCatch (wpAny_bind (wpAny_pure (wpAny_pure fin)))
theorem objNe_of {prog : Program} {w : World} {A : Around} {E : Value → Shared → Prop} {s : Shared} {a : Addr} {b : Value} {Q : Fin → Shared → Prop} (hu : A.units < cLine)
    (h : wpAny (model prog w) A (callSpecialIfBound? (.ref a) "__eq__" [b]) (fun r s' => ∃ v, r = some (.bool v) ∧ Q (.done (.ret (.bool (!v)))) s') E s) : wpAny (model prog w) A (Builtin.«object.__ne__» ⟨[.ref a, b], []⟩) Q E s := by
  unfold Builtin.«object.__ne__»
  refine wpAny_bind (wpAny_of_eq (a := (Value.ref a, [b])) (by first | rfl | kernel_rfl!) ?_)
  refine wpAny_bind (wpAny_cRoomFor hu ?_)
  refine wpAny_bind (wpAny_mono h (fun r s' z => ?_) fun _ _ x => x)
  obtain ⟨v, rfl, q⟩ := z
  exact wpAny_bind (wpAny_truthy_bool (wpAny_pure q))
theorem ne_own {Q : VK} {b : V} {u t : Value} (m : OwnM X.K C "__eq__" g) (n : NeM X.K C) (F : FnOk X.prog X.w X.K X.mg X.base (L2.CX X.prog X.w) k g fd ps sp) (hr : Room (k + 1) A) (e0 : Env0 X.prog X.w X.K X.mg X.base A X.stack s H) (hb : Binds X.K fd ps []) (I : Inv X pins σ H s)
    (ha : H a = some (.ins C dx fs)) (ry : RelV b u) (ty : TyE X.K H b t) (hn : PySem.W.notFirst X.K C t = true) (q : sp [.ref a, b] H (fun v H' => ∃ r, v = .bl r ∧ Q (.bl (!r)) H') E0) : wpAny (model X.prog X.w) A (richCompare .NotEq (.ref a) u) (EP X pins σ Q) E s := by
  obtain ⟨od, J⟩ := inst_at I ha
  obtain ⟨mm, hF⟩ := I.fr
  have K0 : X.K.In s.heap := I.kIn
  have isob : PySem.W.Looks (model X.prog X.w) s.heap (isInstance (.ref a) (.type "object")) true := J.type.andThen (PySem.W.looks_mroIn K0 n.ob)
  have room : A.in1.units < cLine := hr.in1.units0
  have one : wpAny (model X.prog X.w) A (tryCompare (.ref a) "__ne__" u) (fun r s' => ∃ v, r = some v ∧ EP X pins σ Q v s') E s := by
    unfold tryCompare
    refine wpAny_bind (bound_slot K0 J n.ne ty_ne (wpAny_call (codeAny_call_builtin plain_ne PySem.F.cmpEntry_ne (PySem.W.check_slot PySem.F.cmpKind_ne PySem.F.cmpSplit_ne isob (PySem.F.cmpArgs_ne _ _) ?_))))
    refine objNe_of (b := u) room ?_
    refine PySem.W.ifBound_K (args := [u]) K0 J m.at_ m.fn (wpAny_mono (run_below (us := [.ref a, u]) (vs := [.ref a, b]) F hr.in1 e0.in1 hb I (.cons rfl (.cons ry .nil)) q _) (fun v s' z => ?_) fun _ _ x => x)
    obtain ⟨z', H', I', rz, r, rfl, qz⟩ := z
    cases (show v = Value.bool r from rz)
    exact ⟨r, rfl, wpAny_pure ⟨_, rfl, .bl (!r), H', I', rfl, qz⟩⟩
  unfold richCompare
  simp only [oneThing_ref]
  refine wpAny_holding (wpAny_bind (wpAny_cRoomFor hr.units0 ?_))
  refine wpAny_bind (J.type.here (wpAny_bind ((tye_looks I ry ty).here ?_)))
  split
  · rename_i z
    have e : PySem.W.subIn X.K t (.ref C) = some false := by
      rcases Bool.or_eq_true_iff.mp hn with e | e
      · rw [beq_iff_eq.mp e] at z; simp at z
      · exact beq_iff_eq.mp e
    refine wpAny_bind ((PySem.W.looks_subIn K0 e).here ?_)
    simp only [Bool.false_eq_true, if_false]
    refine wpAny_bind (wpAny_mono one (fun r s' z => ?_) fun _ _ x => x)
    obtain ⟨v, rfl, hq⟩ := z
    exact wpAny_pure hq
  · refine wpAny_bind (wpAny_pure ?_)
    simp only [Bool.false_eq_true, if_false]
    refine wpAny_bind (wpAny_mono one (fun r s' z => ?_) fun _ _ x => x)
    obtain ⟨v, rfl, hq⟩ := z
    exact wpAny_pure hq
def rOwnN (K : PySem.W.Frag) (C : Addr) (sp : Sp) : R2 := fun x y H Q => ∃ a dx vs t, x = .ref a ∧ H a = some (.ins C dx vs) ∧ TyE K H y t ∧ PySem.W.notFirst K C t = true ∧ sp [x, y] H (fun v H' => ∃ r, v = .bl r ∧ Q (.bl (!r)) H') E0
theorem op_ownN (m : OwnM X.K C "__eq__" g) (n : NeM X.K C) (Fn : FnOk X.prog X.w X.K X.mg X.base (L2.CX X.prog X.w) k g fd ps sp) (hr : Room (k + 1) X.A) (hb : Binds X.K fd ps []) : OpR X (compareOp .NotEq) (rOwnN X.K C sp) := by
  intro pins s σ H x y v u Q I rx ry ⟨a, dx, vs, t, ex, ha, ty, hn, q⟩
  subst ex
  cases (show v = Value.ref a from rx)
  show wpAny _ _ (richCompare .NotEq (.ref a) u) _ _ _
  exact ne_own m n Fn hr I.env0 hb I ha ry ty hn q
/-- len(o) by an own __len__ -/
theorem len_own {Q : VK} (m : OwnM X.K C "__len__" g) (Fn : FnOk X.prog X.w X.K X.mg X.base (L2.CX X.prog X.w) k g fd ps sp) (hr : Room k A.in1) (e0 : Env0 X.prog X.w X.K X.mg X.base A.in1 X.stack s H) (hb : Binds X.K fd ps []) (I : Inv X pins σ H s)
    (ha : H a = some (.ins C dx fs)) (q : sp [.ref a] H (fun v H' => ∃ n : Nat, v = .int n ∧ n < 2 ^ 62 ∧ Q (.int n) H') E0) : wpAny (model X.prog X.w) A (call (.builtin "len") [.ref a]) (EP X pins σ Q) E s := by
  obtain ⟨od, J⟩ := inst_at I ha
  refine Calls.call_function_entry PySem.kind_len PySem.plain_len PySem.entry_len (PySem.args_len1 _) ?_
  unfold Builtin.«len»
  refine wpAny_bind (m := oneArg "len" _) (wpAny_pure ?_)
  refine wpAny_bind (PySem.W.special_fn (args := []) I.kIn J m.at_ (beq_iff_eq.mp m.fn) (wpAny_mono (run_below (us := [.ref a]) (vs := [.ref a]) Fn hr e0 hb I (.cons rfl .nil) q _) (fun v s' z => ?_) fun _ _ x => x))
  obtain ⟨z', H', I', rz, n, rfl, hn, qz⟩ := z
  obtain ⟨tk, rfl⟩ := rz
  refine wpAny_bind (wpAny_holding (wpAny_pure ?_))
  refine wpAny_bind (wpAny_letGo ?_)
  show wpAny _ _ (if ((n : Nat) : Int) < 0 then _ else _) _ _ _
  rw [if_neg (by omega)]
  show wpAny _ _ (if ((n : Nat) : Int) ≥ 2 ^ 63 then _ else _) _ _ _
  rw [if_neg (by omega)]
  exact wpAny_bind (wpAny_mkInt (wpAny_pure ⟨_, rfl, .int n, H', I'.tok _, ⟨_, rfl⟩, qz⟩))
def rOwnL (C : Addr) (sp : Sp) : List V → Hp → VK → Prop := fun xs H Q => ∃ a dx vs, xs = [.ref a] ∧ H a = some (.ins C dx vs) ∧ sp [.ref a] H (fun v H' => ∃ n : Nat, v = .int n ∧ n < 2 ^ 62 ∧ Q (.int n) H') E0
theorem call_ownL (m : OwnM X.K C "__len__" g) (Fn : FnOk X.prog X.w X.K X.mg X.base (L2.CX X.prog X.w) k g fd ps sp) (hr : Room (k + 1) X.A) (hb : Binds X.K fd ps []) : CallR X (.builtin "len") (rOwnL C sp) := by
  intro pins s σ H xs us Q I r ⟨a, dx, vs, ex, ha, q⟩
  subst ex
  obtain ⟨u, rfl, ru⟩ := vals1 r
  cases (show u = Value.ref a from ru)
  exact len_own m Fn hr.in1 I.env0.in1 hb I ha q
end
section
variable {F : Fx} {w : Ow} {C : Addr} {k n : Nat} {pre : Pre} {fs : List (Str × Rl)} {B : Rl} {r : Bool}
theorem bop_oN {t : Value} (T : Ko F.X.prog F.X.w F.X.K F.X.mg F.X.base C "__eq__" k pre) (nm : NeM F.X.K C) (hr : Room (k + 1) F.X.A) (hp : pre [rIns C fs, B] [] (.ok (rBool r)) []) (ht : TyR F.X.K B t) (hn : PySem.W.notFirst F.X.K C t = true) : Bop F w (compareOp .NotEq) (rIns C fs) B (rBool (!r)) := by
  obtain ⟨f, fd, ps, h1, h2, h3⟩ := T
  refine ⟨_, op_ownN h1 nm h3 hr h2, fun x y G H at_ hx hy Q q => ?_⟩
  obtain ⟨a, dx, vs, rfl, e1, e2⟩ := id hx
  exact ⟨a, dx, vs, t, rfl, at_.gh _ _ e1, ht y G H at_.gh hy, hn, sp_ok0 at_ (mk2 hx hy) hp fun v G2 H2 s a r2 => ⟨r, r2, q _ G2 H2 s a rfl⟩⟩
end
end W1
/-! ### == of two tuples of like length, items by what is known of each pair -/
namespace W1Q
open PySem PySem.SeqAt
open AutoSeq1 (wpAny_loadPart')
open MeetsSeq MeetsSeq2 MeetsSeq3 SeqRoads2
section
variable {prog : Program} {w : World} {A : Around} {R : Result → Shared → Prop} {l b : Addr} {e : Nat → Bool} {I : Nat → Shared → Prop}
theorem tup_go {xs ys : Array Value} {m n : Nat} {dx dy : Option Addr} {sx sy : Array (Option Value)} {s : Shared} (sz : xs.size = ys.size) (gx : s.heap.get? l = some { cls := .type "tuple", dict := dx, data := .seq xs m, slots := sx }) (gy : s.heap.get? b = some { cls := .type "tuple", dict := dy, data := .seq ys n, slots := sy })
    (T : ∀ i (h1 : i < xs.size) (h2 : i < ys.size) s, I i s → wpAny (model prog w) A.in1 (eqBool xs[i] ys[i]) (fun r s' => r = e i ∧ I (i + 1) s') (fun v s' => R (.error v) s') s)
    (h : I 0 s) (fin : ∀ j s', I j s' → R (.ok (.ret (.bool (allFrom e 0 xs.size)))) s') :
    wpAny (model prog w) A.in1 (Builtin.«tuple.__eq__» ⟨[.ref l, .ref b], []⟩) (GQ.FinOf prog w A R) (fun v s' => R (.error v) s') s := by
  have kind := AutoSeq1.sub_tuple_tuple
  have both : (xs.toList.zip ys.toList).length = xs.size := by simp [sz]
  have start := h
  obtain ⟨hp, g, d, tk, os⟩ := s
  wp_walk using wpAny_loadPart' gx, wpAny_loadPart' gy, wpAny_forIn_list _ (fun rest b s' => b.1 = none ∧ ∃ i k, i + k = xs.size ∧ rest = (xs.toList.zip ys.toList).drop i ∧ I i s' ∧ ∀ j s', I j s' → R (.ok (.ret (.bool (allFrom e i k)))) s') _
  case turn =>
    rintro ⟨y, x⟩ rest b s' ⟨hb, i, k, ik, hz, hI, hR⟩
    have lt : i < (xs.toList.zip ys.toList).length := Decidable.byContradiction fun z => by
      rw [List.drop_of_length_le (by omega)] at hz
      cases hz
    have h1 : i < xs.size := by omega
    have h2 : i < ys.size := by omega
    rw [List.drop_eq_getElem_cons lt, List.cons.injEq] at hz
    obtain ⟨hyx, hrest⟩ := hz
    obtain rfl : y = xs[i] := by simpa using congrArg Prod.fst hyx
    obtain rfl : x = ys[i] := by simpa using congrArg Prod.snd hyx
    obtain ⟨k, rfl⟩ : ∃ k', k = k' + 1 := ⟨k - 1, by omega⟩
    have hR : ∀ j s', I j s' → R (.ok (.ret (.bool (e i && allFrom e (i + 1) k)))) s' := hR
    refine wpAny_bind (wpAny_mono (T i h1 h2 s' hI) (fun r s2 z => ?_) fun _ _ x => x)
    obtain ⟨rfl, hI2⟩ := z
    cases hy : e i with
    | true =>
      rw [hy, Bool.true_and] at hR
      wp_walk
      exact ⟨rfl, i + 1, k, by omega, hrest, hI2, hR⟩
    | false =>
      rw [hy, Bool.false_and] at hR
      have := hR _ _ hI2
      wp_walk
      exact this
  case fin =>
    rintro ⟨b1, b2⟩ s' ⟨hb, i, k, ik, hz, hI, hR⟩
    simp only at hb
    subst hb
    have k0 : k = 0 := by
      have : (xs.toList.zip ys.toList).length ≤ i := Decidable.byContradiction fun z => by
        rw [List.drop_eq_getElem_cons (by omega)] at hz
        cases hz
      omega
    subst k0
    have this : R (.ok (.ret (.bool true))) s' := hR _ _ hI
    wp_walk
    simpa [Builtin.Tuple.tupleCompareSizes, sz] using this
  case h =>
    exact ⟨rfl, 0, xs.size, by omega, rfl, start, fin⟩
end
end W1Q
set_option maxRecDepth 100000
set_option maxHeartbeats 4000000
set_option exponentiation.threshold 20000
namespace W1
open PySem PySem.Spec PyProof.Rows L2
section
variable {X : Cx} {n : Nat}
theorem tup_obj {pins : List (Addr × Obj)} {σ : L2.St} {H : Hp} {s : Shared} {p : Addr} {vs : List V} (I : Inv X pins σ H s) (h : H p = some (.tup vs)) : ∃ its nn dd sl, Vals vs its ∧ s.heap.get? p = some { cls := .type "tuple", dict := dd, data := .seq its.toArray nn, slots := sl } := by
  obtain ⟨z, its, r, o, e, hc, nn, hd⟩ := (show ObjOk X.prog X.w H s.heap p (.tup vs) from I.hok p _ h)
  obtain ⟨c, dd, da, sl⟩ := o
  obtain rfl : c = _ := hc
  obtain rfl : da = _ := hd
  exact ⟨its, nn, dd, sl, r, e⟩
end
end W1
set_option maxRecDepth 100000
set_option maxHeartbeats 2000000
set_option exponentiation.threshold 20000
namespace W1
open PySem PySem.Spec PyProof.Rows L2 NdefX TL NumText
/-! ### the law's draws -/
abbrev Pool := Int × Int × Bool
def oPool (s : Pool) : Ol := oL [rInt s.1, rInt s.2.1, rBool s.2.2]
def drS (s : Pool) (L : Int) : Pool := (if s.2.2 then s.1.fdiv L else s.1, s.2.1 + 1, s.2.2)
def pBag : PreN := fun Rs w O w' => ∃ c : Int, Rs = [rInt c] ∧ w = [] ∧ w' = [] ∧ O = oPool (c, 0, decide (10 ^ 18 ≤ c))
def atS (ns : List Int) (k : Nat) : Int := ns.getD k 0
def pAt (K : PySem.W.Frag) : Pre := pOk (α := List Int × Nat) (fun _ => True) (fun a => [rScr K (a.1.map V.int), rInt a.2]) (fun a => rInt (atS a.1 a.2))
theorem ixN_at {n : Nat} {k : Nat} (h : k < n) : ixN n (k : Int) = some k := by
  unfold ixN
  rw [if_pos (Int.natCast_nonneg k), if_pos (by omega)]
  simp
theorem iop_pickM {α : Type} {F : Fx} {w : Ow} {xs : List α} {A : α → Rl} {i : Int} (d : α) (h0 : 0 ≤ i) (h1 : i < xs.length) : Iop F w (rLst (xs.map A)) (rInt i) (A (xs.getD i.toNat d)) := by
  have e : i = (i.toNat : Int) := by omega
  have hl : i.toNat < xs.length := by omega
  have ix := ixN_at (n := (xs.map A).length) (k := i.toNat) (by rw [List.length_map]; exact hl)
  rw [← e] at ix
  exact iop_L ix (by rw [List.getElem?_map, List.getD_eq_getElem?_getD, List.getElem?_eq_getElem hl]; rfl)
theorem mod_lt {m : Int} : (m.fmod 2147483647).natAbs < 2 ^ 64 := by
  have h1 := Int.fmod_nonneg_of_pos m (show (0 : Int) < 2147483647 by decide)
  have h2 := Int.fmod_lt_of_pos m (show (0 : Int) < 2147483647 by decide)
  have : (2 : Nat) ^ 64 = 18446744073709551616 := by decide
  omega
section
variable {F : Fx} {ρ : Ty} {ω w1 : Ow} {K : Kn} {rest body : List Stmt} {tg it : Expr} {pos : Pos} {α β : Type}
end
section
variable {P : Program} {w : World} {K : PySem.W.Frag} {mg : Str → Option Value} {base : Heap} {C B f : Addr} {fd : FuncData}
end
end W1
set_option maxRecDepth 100000
set_option maxHeartbeats 2000000
set_option exponentiation.threshold 20000
namespace W1
open PySem PySem.Spec PyProof.Rows L2 NdefX TL NumText
/-! ### the law's good, amounts_of -/
section
variable {F : Fx} {ρ : Ty} {ω w w1 : Ow} {K : Kn} {rest body : List Stmt} {tg it e : Expr} {pos p : Pos} {α β : Type} {Rs : List Rl} {P : Er}
end
/-- amounts of names drawn -/
structure AmI (ns : List Str) (am : Am) : Prop where
  nd : (namesA am).Nodup
  sub : ∀ g ∈ namesA am, g ∈ ns
  ok : ∀ p ∈ am, 0 ≤ p.2 ∧ p.2 ≤ 10 ^ 20
theorem mem_putA {am : Am} {k : Str} {v : Int} {p : Str × Int} (h : p ∈ putA am k v) : p ∈ am ∨ p = (k, v) := by
  unfold putA at h
  split at h
  · obtain ⟨q, hq, rfl⟩ := List.mem_map.mp h
    by_cases e : q.1 = k
    · rw [if_pos e, e]; exact .inr rfl
    · rw [if_neg e]; exact .inl hq
  · rcases List.mem_append.mp h with h | h
    · exact .inl h
    · exact .inr (List.mem_singleton.mp h)
theorem AmI.put {ns : List Str} {am : Am} {k : Str} {v : Int} (h : AmI ns am) (hk : k ∈ ns) (hv : 0 ≤ v ∧ v ≤ 10 ^ 20) : AmI ns (putA am k v) := by
  refine ⟨?_, fun g hg => ?_, fun p hp => ?_⟩
  · rw [names_put]
    split
    · exact h.nd
    · rename_i e
      refine List.nodup_append.mpr ⟨h.nd, by simp, fun a ha b hb => ?_⟩
      rw [List.mem_singleton.mp hb]
      exact fun z => e (z ▸ ha)
  · rw [names_put] at hg
    split at hg
    · exact h.sub _ hg
    · rcases List.mem_append.mp hg with hg | hg
      · exact h.sub _ hg
      · rw [List.mem_singleton.mp hg]; exact hk
  · rcases mem_putA hp with hp | rfl
    · exact h.ok _ hp
    · exact hv
theorem AmI.nil {ns : List Str} : AmI ns [] := ⟨List.nodup_nil, fun _ h => (by cases h), fun _ h => (by cases h)⟩
theorem sub_len {α : Type} [DecidableEq α] : ∀ {l ns : List α}, l.Nodup → (∀ g ∈ l, g ∈ ns) → l.length ≤ ns.length
  | [], _, _, _ => Nat.zero_le _
  | a :: l, ns, h, k => by
    have h2 := List.nodup_cons.mp h
    have ih := sub_len (ns := ns.erase a) h2.2 fun g hg => (List.mem_erase_of_ne (show g ≠ a from fun z => h2.1 (z ▸ hg))).mpr (k g (List.mem_cons_of_mem _ hg))
    have ha := k a List.mem_cons_self
    rw [List.length_erase_of_mem ha] at ih
    have := List.length_pos_of_mem ha
    rw [List.length_cons]
    omega
theorem AmI.len {ns : List Str} {am : Am} (h : AmI ns am) : am.length ≤ ns.length := by
  have := sub_len h.nd h.sub
  unfold namesA at this
  rw [List.length_map] at this
  exact this
end W1
set_option maxRecDepth 100000
set_option maxHeartbeats 2000000
set_option exponentiation.threshold 20000
namespace W1
open PySem PySem.Spec PyProof.Rows L2 NdefX TL NumText
/-! ### comparing what is owned -/
theorem Step.wide {G H H' : Hp} (sg : Same G H) (hh : Same H H') : Step G H (fun a => if H a = none then H' a else G a) H' where
  gg := fun a o e => by
    show (if H a = none then H' a else G a) = some o
    rw [if_neg (by rw [sg a o e]; simp)]
    exact e
  hh := hh
  gh := fun a o e => by
    have e : (if H a = none then H' a else G a) = some o := e
    by_cases h : H a = none
    · rw [if_pos h] at e; exact e
    · rw [if_neg h] at e; exact hh _ _ (sg _ _ e)
  fr := fun a h1 h2 => by
    show (if H a = none then H' a else G a) = none
    rw [if_neg h1]
    exact h2
section
variable {F : Fx} {ω w : Ow} {A B A' B' R : Rl} {n : Nat} {q : Addr} {b : Bool}
theorem bop_semH {f : Value → Value → Sem Value} (hA : ∀ x G H, At F w G H → A.r x G → A'.r x H) (hB : ∀ x G H, At F w G H → B.r x G → B'.r x H)
    (h : ∀ pins s σ G H x y u v Q, Inv F.X pins σ H s → RelV x u → RelV y v → Same G H → A'.r x G → B'.r y G → (∀ z G' H', Step G H G' H' → (rBool b).r z G' → Q z H') → wpAny (model F.X.prog F.X.w) F.X.A (f u v) (EP F.X pins σ Q) F.X.xe s) : Bop F w f A B (rBool b) :=
  ⟨fun x y H Q => A'.r x H ∧ B'.r y H ∧ ∀ H', Same H H' → Q (V.bl b) H', fun pins s σ H x y v u Q I rx ry ⟨ax, ay, q⟩ => h pins s σ H H x y v u Q I rx ry (Same.refl _) ax ay fun z G' H' st rz => by
      cases (show z = V.bl b from rz)
      exact q H' st.hh,
    fun x y G H at_ ax ay Q q => ⟨hA x G H at_ ax, hB y G H at_ ay, fun H' sh => q _ _ H' (Step.wide at_.gh sh).gg (at_.step (Step.wide at_.gh sh)) rfl⟩⟩
theorem own_lst {Rs : List Rl} (hq : (q, oL Rs) ∈ w) : ∀ x G H, At F w G H → (rRef q).r x G → (rLst Rs).r x H := fun x G H at_ e => by
  obtain ⟨_, _, o, h1, vs, rfl, h2⟩ := at_.ow _ hq
  exact ⟨q, vs, e, h1, h2.up at_.gh⟩
theorem all_true : ∀ n i, W1Q.allFrom (fun _ => true) i n = true
  | 0, _ => rfl
  | n + 1, i => by
    unfold W1Q.allFrom
    rw [all_true n]
    rfl
theorem eqV_str (z : Str) : eqV (.str z) (.str z) = true := by
  show decide _ = true
  exact decide_eq_true rfl
end
/-! ### what is kept, what is told -/
theorem names_kept {am : Am} {g : Str} : g ∈ namesA (keptA am) ↔ g ∈ namesA am ∧ 0 < valA am g := by
  unfold keptA namesA
  rw [List.map_map, show ((fun x : Str × Int => x.1) ∘ fun g => (g, valA am g)) = id from rfl, List.map_id]
  unfold keptL
  rw [List.mem_filter, (srt_perm _).mem_iff, decide_eq_true_iff]
  rfl
end W1
set_option maxRecDepth 100000
set_option maxHeartbeats 2000000
set_option exponentiation.threshold 20000
namespace W1
open PySem PySem.Spec PyProof.Rows L2 NdefX TL NumText
/-! ### the law's same -/
end W1
set_option maxRecDepth 100000
set_option maxHeartbeats 4000000
set_option exponentiation.threshold 20000
namespace W1
open PySem PySem.Spec PyProof.Rows L2 NdefX TL NumText
/-! ### what a book tells -/
structure WyG (y : Wy) : Prop where
  ok : WyOk y
  g1 : AmG y.1
  g2 : AmG y.2.2
  c1 : chkL y.1 (srt (namesA y.1)) = none
  c2 : chkL y.2.2 (srt (namesA y.2.2)) = none
end W1
set_option maxRecDepth 100000
set_option maxHeartbeats 4000000
set_option exponentiation.threshold 20000
namespace W1
open PySem PySem.Spec PyProof.Rows L2 NdefX TL NumText
/-! ### == of tuples of texts -/
end W1
set_option maxRecDepth 100000
set_option maxHeartbeats 4000000
set_option exponentiation.threshold 20000
namespace W1
open PySem PySem.Spec PyProof.Rows L2 NdefX TL NumText
/-! ### len, iteration, ==, way, check_good, net -/
section
variable (C W : Addr)
end
section
variable {P : Program} {w : World} {K : PySem.W.Frag} {mg : Str → Option Value} {base : Heap} {W C M N D U V f : Addr} {fd : FuncData}
end
end W1
set_option maxRecDepth 100000
set_option maxHeartbeats 4000000
set_option exponentiation.threshold 20000
namespace W1
open PySem PySem.Spec PyProof.Rows L2 NdefX TL NumText
theorem srt_mem_iff {gs : List Str} {g : Str} : g ∈ srt gs ↔ g ∈ gs := (srt_perm gs).mem_iff
section
variable {P : Program} {w : World} {K : PySem.W.Frag} {mg : Str → Option Value} {base : Heap} {W C M N D U V f : Addr} {fd : FuncData}
end
end W1
set_option maxRecDepth 100000
set_option maxHeartbeats 4000000
set_option exponentiation.threshold 20000
namespace W1
open PySem PySem.Spec PyProof.Rows L2 NdefX TL NumText
/-! ### joint, makers -/
section
variable (C W : Addr)
end
section
variable {P : Program} {w : World} {K : PySem.W.Frag} {mg : Str → Option Value} {base : Heap} {W C M N D U V f : Addr} {fd : FuncData}
end
end W1
set_option maxRecDepth 100000
set_option maxHeartbeats 4000000
set_option exponentiation.threshold 20000
namespace W1
open PySem PySem.Spec PyProof.Rows L2 NdefX TL NumText
/-! ### [*a, ..], books made of books -/
section
variable {F : Fx} {ρ : Ty} {ω w1 w2 : Ow} {e : Expr} {es : List Expr} {A : Rl} {Rs Ss : List Rl} {p : Pos}
theorem ar_star (he : ER F ρ ω e A w1) (hA : IsSq F A w1 Rs) (hr : AR F ρ w1 es Ss w2) (hs : starEach (.Starred e p :: es) F.X.env = (true, eval e F.X.env) :: starEach es F.X.env := by rfl) : AR F ρ ω (.Starred e p :: es) (Rs ++ Ss) w2 := fun σ G H at_ sl Q q => by
  refine aw_of (StX.pa_star pe_w pa_w hs) (he σ G H at_ sl _ fun v G1 H1 s1 a1 r1 => ?_)
  obtain ⟨t, vs, rfl, h1, h2⟩ := hA v G1 H1 a1 r1
  exact ⟨t, vs, rfl, h1.symm, hr σ G1 H1 a1 (sl.up s1) _ fun us G2 H2 s2 a2 r2 => q _ G2 H2 (s1.trans s2) a2 ((h2.up s2).app r2)⟩
end
structure BkOk (gs : List Str) (ys : List Wy) : Prop where
  nm : ∀ g ∈ gs, g.length ≤ 640
  ok : ∀ y ∈ ys, WyOk y
  lg : gs.length ≤ 1000
  ly : ys.length ≤ 1000
theorem cutR_drop {α : Type} {f : α → Rl} {xs : List α} {k : Nat} (hk : k ≤ xs.length) : cutR (xs.map f) (some (k : Int)) none = (xs.drop k).map f := by
  unfold cutR
  rw [HT.sIx_nat, HT.sIx_none, List.length_map, Nat.min_eq_left hk, ← List.map_drop, List.take_of_length_le (by rw [List.length_map, List.length_drop]; exact Nat.le_refl _)]
section
variable {C W M N D U V : Addr}
end
section
variable {F : Fx} {ρ : Ty} {ω : Ow} {e1 e2 : Expr} {A1 A2 : Rl} {gs : List Str} {ys : List Wy} {C W M N D U : Addr} {rest : List Stmt} {p pos pos' : Pos}
end
section
variable {P : Program} {w : World} {K : PySem.W.Frag} {mg : Str → Option Value} {base : Heap} {W C M N D U V f : Addr} {fd : FuncData} {tk2 : Tok}
end
end W1
set_option maxRecDepth 100000
set_option maxHeartbeats 4000000
set_option exponentiation.threshold 20000
namespace W1
open PySem PySem.Spec PyProof.Rows L2 NdefX TL NumText
/-! ### only -/
section
variable {P : Program} {w : World} {K : PySem.W.Frag} {mg : Str → Option Value} {base : Heap} {W C M N D U V f : Addr} {fd : FuncData}
end
end W1
set_option maxRecDepth 100000
set_option maxHeartbeats 4000000
set_option exponentiation.threshold 20000
namespace W1
open PySem PySem.Spec PyProof.Rows L2 NdefX TL NumText
/-! ### pop, insert, clear of an owned list -/
section
variable {F : Fx} {ρ : Ty} {ω w w1 w2 : Ow} {o e e2 : Expr} {es : List Expr} {A R : Rl} {Rs : List Rl} {q : Addr} {K : Kn} {rest : List Stmt} {p apos pos : Pos} {O : Ol}
theorem All2.erase : ∀ {Rs : List Rl} {vs : List V} {H : Hp} (n : Nat), All2 Rs vs H → All2 (Rs.eraseIdx n) (vs.eraseIdx n) H
  | [], [], _, _, h => h
  | _ :: _, _ :: _, _, 0, ⟨_, h⟩ => h
  | _ :: _, _ :: _, _, n + 1, ⟨a, h⟩ => ⟨a, All2.erase n h⟩
  | [], _ :: _, _, _, h => h.elim
  | _ :: _, [], _, _, h => h.elim
end
end W1
set_option maxRecDepth 100000
set_option maxHeartbeats 4000000
set_option exponentiation.threshold 20000
namespace W1
open PySem PySem.Spec PyProof.Rows L2 NdefX TL NumText
/-! ### a comprehension as a new list; makers as a new list -/
section
variable {F : Fx} {ρ : Ty} {ω w1 : Ow} {tg it elt c : Expr} {pos spos : Pos} {scope : Scope} {own : List (Str × Nat)} {g : TG} {ifs : List Expr} {α : Type}
theorem lc_genN {xs : List α} {A B : α → Rl} {p : α → Bool} {wi : TI} {tt : TT} {ρ' : α → Ty}
    (hwi : ∀ σ G H, At F ω G H → Slots ρ σ G → ∀ R : It → Hp → Prop, (∀ J G2 H2, Same G G2 → At F w1 G2 H2 → Yld J (xs.map A) G2 → R J H2) → wi σ H R) (hz : xs.length ≤ 100000)
    (hge : ∀ (i : Nat) a, xs[i]? = some a → GEw g (own.map (·.2)) ρ (A a) (ρ' a))
    (htt : ∀ (i : Nat) a, xs[i]? = some a → ∀ d σ2 G H, At F (d :: w1) G H → Slots (ρ' a) σ2 G → ∀ Q : Bool → Hp → Prop, (∀ G3 H3, Same G G3 → At F (d :: w1) G3 H3 → Q (p a) H3) → tt σ2 H Q)
    (he : ∀ (i : Nat) a, xs[i]? = some a → p a = true → ∀ s H0 C cl fp d, ER (blkF F s H0 scope C cl fp) (ρ' a) (d :: w1) elt (B a) (d :: w1))
    {σ : L2.St} {G H : Hp} (at_ : At F ω G H) (sl : Slots ρ σ G) {Q : VK} (q : ∀ D G2 H2, D ∉ F.M → Same G G2 → At F ((D, oL ((xs.filter p).map B)) :: w1) G2 H2 → Q (.ref D) H2) :
    tLc wi g tt (fun σ H Q => ∀ s H0 C cl fp, EW (F.X.blk s H0 scope (compEnvC scope cl C F.X.env) fp) elt σ H Q) (own.map (·.2)) σ H Q := by
  refine hwi σ G H at_ sl _ fun J G2 H2 s2 a2 y2 => fun D hD => ?_
  have hM : D ∉ F.M := fun hm => a2.mm D hm hD
  refine ⟨fun i m H => m = xs.length - i ∧ i ≤ xs.length ∧ ∃ G, At F ((D, oL (((xs.take i).filter p).map B)) :: w1) G H ∧ Same G2 G, ⟨xs.length, by simp, Nat.zero_le _, G2, a2.own hD ⟨[], rfl, trivial⟩, Same.refl _⟩, ?_⟩
  rintro i m H1 ⟨rfl, hi, G1, a1, s1⟩
  have hlen : (xs.map A).length = xs.length := List.length_map _
  by_cases hlt : i < xs.length
  · have hgo : xs[i]? = some xs[i] := List.getElem?_eq_getElem hlt
    have htake : xs.take (i + 1) = xs.take i ++ [xs[i]] := by rw [List.take_add_one, hgo]; rfl
    refine .inr ⟨y2.go i G1 H1 s1 a1.gh (by rw [hlen]; exact hlt), fun H' => ∃ G, At F ((D, oL (((xs.take (i + 1)).filter p).map B)) :: w1) G H' ∧ Same G2 G, fun H' z => ⟨xs.length - (i + 1), by omega, rfl, hlt, z⟩, fun x H' y => ?_⟩
    obtain ⟨G3, st, rx⟩ := y2.yld i (A xs[i]) G1 H1 x H' s1 a1.gh (by rw [List.getElem?_map, hgo]; rfl) y
    have a3 := a1.step st
    have s3 := s1.trans st.gg
    refine hge i _ hgo x σ G3 H' _ a3.gh ((sl.up s2).up s3) rx fun σ2 hw sl2 => ⟨hw, htt i _ hgo _ σ2 G3 H' a3 sl2 _ fun G4 H4 s4 a4 => ?_⟩
    cases hp : p xs[i] with
    | false =>
      refine iteF ⟨G4, ?_, s3.trans s4⟩
      rw [htake, List.filter_append, List.filter_cons, hp]
      simp only [Bool.false_eq_true, if_false, List.filter_nil, List.append_nil]
      exact a4
    | true =>
      refine iteT fun s H0 C cl fp => he i _ hgo hp s H0 C cl fp _ σ2 G4 H4 a4.to (sl2.up s4) _ fun v G5 H5 s5 a5' r5 => ?_
      have a5 : At F ((D, oL (((xs.take i).filter p).map B)) :: w1) G5 H5 := a5'.to
      obtain ⟨_, _, o, h1, vs, rfl, h2⟩ := a5.ow _ List.mem_cons_self
      have hl2 : vs.length ≤ xs.length := by
        rw [← h2.len, List.length_map]
        exact Nat.le_trans (List.length_filter_le _ _) (List.length_take_le _ _ |> fun z => Nat.le_trans z hi)
      refine ⟨vs, h1, Nat.lt_of_le_of_lt (Nat.le_trans hl2 hz) (by decide), G5, ?_, (s3.trans s4).trans s5⟩
      rw [htake, List.filter_append, List.filter_cons, hp]
      simp only [if_true, List.filter_nil, List.map_append, List.map_cons, List.map_nil]
      exact a5.chg ⟨_, rfl, h2.app (mk1 r5)⟩
  · have e : i = xs.length := by omega
    subst e
    refine .inl ⟨by have := y2.stop G1 H1 s1 a1.gh; rw [hlen] at this; exact this, ?_⟩
    rw [List.take_length] at a1
    exact q D G1 H1 hM (s2.trans s1) a1
end
section
variable {P : Program} {w : World} {K : PySem.W.Frag} {mg : Str → Option Value} {base : Heap} {W C M N D U V f : Addr} {fd : FuncData}
end
end W1
set_option maxRecDepth 100000
set_option maxHeartbeats 4000000
set_option exponentiation.threshold 20000
namespace W1
open PySem PySem.Spec PyProof.Rows L2 NdefX TL NumText
/-! ### the law's names -/
abbrev menuN : List Str := [Str.ofString "a", Str.ofString "b", Str.ofString "c", Str.ofString "x1", Str.ofString "x10", Str.ofString "y", Str.ofString "abcdefgh", Str.ofString "d9"]
structure Goods (gs : List Str) : Prop where
  nd : gs.Nodup
  sub : ∀ g ∈ gs, g ∈ menuN
section
variable {P : Program} {w : World} {K : PySem.W.Frag} {mg : Str → Option Value} {base : Heap} {f : Addr} {fd : FuncData}
end
end W1
set_option maxRecDepth 100000
set_option maxHeartbeats 2000000
set_option exponentiation.threshold 20000
namespace W1
open PySem PySem.Spec PyProof.Rows L2 NdefX TL NumText
/-! ### amounts drawn -/
section
variable {P : Program} {w : World} {K : PySem.W.Frag} {mg : Str → Option Value} {base : Heap} {W N B f : Addr} {fd : FuncData}
end
end W1
set_option maxRecDepth 100000
set_option maxHeartbeats 4000000
set_option exponentiation.threshold 20000
namespace W1
open PySem PySem.Spec PyProof.Rows L2 NdefX TL NumText
/-! ### a row -/
section
variable {P : Program} {w : World} {K : PySem.W.Frag} {mg : Str → Option Value} {base : Heap} {f : Addr} {fd : FuncData}
end
end W1
set_option maxRecDepth 100000
set_option maxHeartbeats 4000000
set_option exponentiation.threshold 20000
namespace W1
open PySem PySem.Spec PyProof.Rows L2 NdefX TL NumText
section
variable {P : Program} {w : World} {K : PySem.W.Frag} {mg : Str → Option Value} {base : Heap} {f : Addr} {fd : FuncData}
end
end W1
set_option maxRecDepth 100000
set_option maxHeartbeats 4000000
set_option exponentiation.threshold 20000
namespace W1
open PySem PySem.Spec PyProof.Rows L2 NdefX TL NumText
/-! ### a book, or what is wrong -/
/-- the four classes of errors: each is taken by its own clause alone -/
structure Err4 (K : PySem.W.Frag) (mg : Str → Option Value) (M N D U : Addr) : Prop where
  gM : mg "BadNumber" = some (.ref M)
  gN : mg "BadName" = some (.ref N)
  gD : mg "DuplicateName" = some (.ref D)
  gU : mg "UnknownName" = some (.ref U)
  xM : XfC K M
  xN : XfC K N
  xD : XfC K D
  xU : XfC K U
  nM : PySem.W.findIn K (.ref M) "n" = some none
  nN : PySem.W.findIn K (.ref N) "name" = some none
  nD : PySem.W.findIn K (.ref D) "name" = some none
  nU : PySem.W.findIn K (.ref U) "name" = some none
  tMM : PySem.W.exmOne K (.ref M) (.ref M) = some true
  tNN : PySem.W.exmOne K (.ref N) (.ref N) = some true
  tDD : PySem.W.exmOne K (.ref D) (.ref D) = some true
  tUU : PySem.W.exmOne K (.ref U) (.ref U) = some true
  tNM : PySem.W.exmOne K (.ref N) (.ref M) = some false
  tDM : PySem.W.exmOne K (.ref D) (.ref M) = some false
  tDN : PySem.W.exmOne K (.ref D) (.ref N) = some false
  tUM : PySem.W.exmOne K (.ref U) (.ref M) = some false
  tUN : PySem.W.exmOne K (.ref U) (.ref N) = some false
  tUD : PySem.W.exmOne K (.ref U) (.ref D) = some false
section
variable {P : Program} {w : World} {K : PySem.W.Frag} {mg : Str → Option Value} {base : Heap} {W C M N D U f : Addr} {fd : FuncData}
end
end W1
set_option maxRecDepth 100000
set_option maxHeartbeats 4000000
set_option exponentiation.threshold 20000
namespace W1
open PySem PySem.Spec PyProof.Rows L2 NdefX TL NumText
/-! ### one way more, some ways -/
section
variable {P : Program} {w : World} {K : PySem.W.Frag} {mg : Str → Option Value} {base : Heap} {W C M N D U V f : Addr} {fd : FuncData}
end
end W1
set_option maxRecDepth 100000
set_option maxHeartbeats 4000000
set_option exponentiation.threshold 20000
namespace W1
open PySem PySem.Spec PyProof.Rows L2 NdefX TL NumText
/-- BadWay beside BadNumber -/
structure ErrV (K : PySem.W.Frag) (mg : Str → Option Value) (M V : Addr) : Prop where
  gV : mg "BadWay" = some (.ref V)
  xV : XfC K V
  nV : PySem.W.findIn K (.ref V) "at" = some none
  tVV : PySem.W.exmOne K (.ref V) (.ref V) = some true
  tVM : PySem.W.exmOne K (.ref V) (.ref M) = some false
section
variable {P : Program} {w : World} {K : PySem.W.Frag} {mg : Str → Option Value} {base : Heap} {W C M N D U V f : Addr} {fd : FuncData}
end
end W1
set_option maxRecDepth 100000
set_option maxHeartbeats 4000000
set_option exponentiation.threshold 20000
namespace W1
open PySem PySem.Spec PyProof.Rows L2 NdefX TL NumText
/-! ### a comprehension over three names of a list of three -/
end W1
set_option maxRecDepth 100000
set_option maxHeartbeats 4000000
set_option exponentiation.threshold 20000
namespace W1
open PySem PySem.Spec PyProof.Rows L2 NdefX TL NumText
/-- a row that makes a way -/
structure RwOk (y : Wy) : Prop where
  g1 : AmG y.1
  g2 : AmG y.2.2
  hh : y.2.1.natAbs.log2 < 1920
  ok : wayE y.1 y.2.1 y.2.2 = none
section
variable {P : Program} {w : World} {K : PySem.W.Frag} {mg : Str → Option Value} {base : Heap} {W C M N D U V f : Addr} {fd : FuncData}
end
end W1
set_option maxRecDepth 100000
set_option maxHeartbeats 4000000
set_option exponentiation.threshold 20000
namespace W1
open PySem PySem.Spec PyProof.Rows L2 NdefX TL NumText
section
variable {F : Fx} {ρ : Ty} {ω w w1 w2 : Ow} {a b c e : Expr} {es : List Expr} {A R S : Rl} {K : Kn} {rest : List Stmt} {pos : Pos} {x y z : Str} {k : Nat} {Φ : Rl → Ow → Prop} {Ψ : List Rl → Ow → Prop}
theorem eg_mono {Φ' : Rl → Ow → Prop} (h : EG F ρ ω e Φ) (k : ∀ R w, Φ R w → Φ' R w) : EG F ρ ω e Φ' := fun σ G H at_ sl Q q => h σ G H at_ sl Q fun v G2 H2 R w z => q v G2 H2 R w (k R w z)
theorem hb_ifJ {th : List Stmt} {b : Bool} (J : Ty → Ow → Prop) (hc : TR F ρ ω c b w1) (h1 : b = true → HB F ρ w1 th { K with nx := J }) (h2 : b = false → J ρ w1) (hr : ∀ ρ' w', J ρ' w' → HB F ρ' w' rest K) : HB F ρ ω (.If c th [] pos :: rest) K :=
  hb_if hc (fun e => fun σ G H D at_ sl ps => h1 e σ G H D at_ sl ⟨fun ρ' w' k => ps.nx ρ' w' (hr ρ' w' k), ps.rt, ps.bk, ps.ct, ps.ex⟩) fun e => hb_nil (hr _ _ (h2 e))
end
section
variable {F : Fx} {ρ : Ty} {ω w w1 w2 w3 : Ow} {e o ix it elt : Expr} {R S : Rl} {Rs : List Rl} {K : Kn} {rest : List Stmt} {pos p spos py : Pos} {x y : Str} {q : Addr} {Φ : Rl → Ow → Prop} {scope : Scope}
end
theorem rng_get {lo : Int} {n k : Nat} {S : Rl} (h : (rng lo n)[k]? = some S) : k < n ∧ S = rInt (lo + k) := by
  unfold rng at h
  obtain ⟨j, hj, rfl⟩ := map_get h
  obtain ⟨hl, e⟩ := List.getElem?_eq_some_iff.mp hj
  rw [List.getElem_range] at e
  rw [List.length_range] at hl
  subst e
  exact ⟨hl, rfl⟩
theorem AmI.val {ns : List Str} {am : Am} (h : AmI ns am) (g : Str) : 0 ≤ valA am g := by
  unfold valA
  cases e : am.find? fun p => decide (p.1 = g) with
  | none => decide
  | some p => exact (h.ok p (List.mem_of_find?_eq_some e)).1
theorem chk_none {am : Am} : ∀ {l : List Str}, (∀ g ∈ l, nameL (tl g) = true ∧ 0 ≤ valA am g) → chkL am l = none
  | [], _ => rfl
  | a :: l, h => by
    have h1 := h a List.mem_cons_self
    unfold chkL
    rw [if_pos h1.1, if_neg (by omega)]
    exact chk_none fun g hg => h g (List.mem_cons_of_mem _ hg)
theorem small_log {i : Int} (h : i.natAbs ≤ 10 ^ 20) : i.natAbs.log2 < 1920 := by
  rcases Nat.eq_zero_or_pos i.natAbs with z | z
  · rw [z]; decide
  · have h2 : i.natAbs < 2 ^ 67 := Nat.lt_of_le_of_lt h (by decide)
    exact Nat.lt_trans ((Nat.log2_lt (by omega)).mpr h2) (by decide)
def Sh (n : Nat) (d : PyData) : Prop := d.canLay0 = true ∧ d.depth ≤ n
theorem Sh.up {m n : Nat} {d : PyData} (h : Sh m d) (l : m ≤ n) : Sh n d := ⟨h.1, Nat.le_trans h.2 l⟩
theorem Sh.ok {n : Nat} {d : PyData} (h : Sh n d) (l : n ≤ 64) : SeqAt.shaped d = true := by
  unfold SeqAt.shaped
  rw [h.1, decide_eq_true (Nat.le_trans h.2 l)]; rfl
/-! ### {k: v}, {k: v, l: z}; a list behind a list that makes things -/
section
variable {F : Fx} {ρ : Ty} {ω w w1 w2 w3 w4 : Ow} {a b c d : Expr} {R S : Rl} {As : List Rl} {pos : Pos} {k l : Key} {Φ : Rl → Ow → Prop}
end
/-! ### a pool of which no more is known -/
/-! ### rows that make ways -/
structure RwG (y : Wy) : Prop where
  rw : RwOk y
  wy : WyOk y
/-- a row of goods that are drawn -/
structure RowK (gs : List Str) (y : Wy) : Prop where
  it : AmI gs y.1
  im : AmI gs y.2.2
  h1 : 1 ≤ y.2.1
  h2 : y.2.1 ≤ 100
  pos : ∃ g ∈ gs, 0 < valA y.2.2 g
theorem menu_name : ∀ g ∈ menuN, nameL (tl g) = true := by
  have : (menuN.all fun g => nameL (tl g)) = true := by decide +kernel
  exact fun g hg => List.all_eq_true.mp this g hg
theorem menu_len : ∀ g ∈ menuN, g.length ≤ 640 := by
  have : (menuN.all fun g => decide (g.length ≤ 640)) = true := by decide +kernel
  exact fun g hg => of_decide_eq_true (List.all_eq_true.mp this g hg)
theorem mem_goodsW {t m : Am} {g : Str} : g ∈ goodsW t m ↔ g ∈ namesA (keptA t) ∨ g ∈ namesA (keptA m) := by
  unfold goodsW
  rw [srt_mem_iff]
  have h0 : (namesA ([] : Am)).Nodup := List.nodup_nil
  obtain ⟨h1, h2⟩ := names_merge (keptA t) [] h0
  rw [(names_merge (keptA m) _ h1).2, h2]
  simp [namesA]
theorem am_big {gs : List Str} {am : Am} (G : Goods gs) (h : AmI gs am) : AmG am := by
  have hl := h.len
  have h8 : gs.length ≤ 8 := sub_len G.nd G.sub
  refine ⟨⟨by omega, fun p hp => ⟨menu_len _ (G.sub _ (h.sub _ (List.mem_map_of_mem hp))), ?_⟩⟩, h.nd⟩
  have := h.ok p hp
  exact small_log (by omega)
theorem am_chk {gs : List Str} {am : Am} (G : Goods gs) (h : AmI gs am) : chkL am (srt (namesA am)) = none := chk_none fun g hg => ⟨menu_name g (G.sub _ (h.sub g (srt_mem hg))), h.val g⟩
theorem kept_ne2 {am : Am} {g : Str} (h : 0 < valA am g) : keptA am ≠ [] := fun e => by
  have hm : g ∈ namesA am := by
    by_cases z : g ∈ namesA am
    · exact z
    · have := (valR_An z).2
      omega
  have : g ∈ namesA (keptA am) := names_kept.mpr ⟨hm, h⟩
  rw [e] at this
  cases this
theorem RowK.way {gs : List Str} {y : Wy} (G : Goods gs) (r : RowK gs y) : wayE y.1 y.2.1 y.2.2 = none := by
  obtain ⟨g, hg, hp⟩ := r.pos
  unfold wayE
  rw [am_chk G r.it]
  dsimp only
  rw [am_chk G r.im]
  dsimp only
  rw [if_neg (by have := r.h1; omega), if_neg (kept_ne2 hp)]
theorem RowK.subg {gs : List Str} {y : Wy} (r : RowK gs y) : ∀ g ∈ gWy y, g ∈ gs := fun g hg => by
  rcases mem_goodsW.mp hg with h | h
  · exact r.it.sub _ (names_kept.mp h).1
  · exact r.im.sub _ (names_kept.mp h).1
theorem RowK.g {gs : List Str} {y : Wy} (G : Goods gs) (r : RowK gs y) : RwG y := by
  have h8 : gs.length ≤ 8 := sub_len G.nd G.sub
  have l1 := r.it.len
  have l2 := r.im.len
  refine ⟨⟨am_big G r.it, am_big G r.im, small_log ?_, r.way G⟩, ⟨by omega, fun g hg => menu_len _ (G.sub _ (r.subg g hg))⟩⟩
  have h1 := r.h1
  have h2 := r.h2
  omega
end W1
set_option maxRecDepth 100000
set_option maxHeartbeats 4000000
set_option exponentiation.threshold 20000
namespace W1
open PySem PySem.Spec PyProof.Rows L2 NdefX TL NumText
/-! ### rows drawn -/
structure RowsK (gs : List Str) (ys : List Wy) : Prop where
  l1 : 1 ≤ ys.length
  l8 : ys.length ≤ 8
  row : ∀ y ∈ ys, RowK gs y
section
variable {P : Program} {w : World} {K : PySem.W.Frag} {mg : Str → Option Value} {base : Heap} {f : Addr} {fd : FuncData}
end
end W1
set_option maxRecDepth 100000
set_option maxHeartbeats 4000000
set_option exponentiation.threshold 20000
namespace W1
open PySem PySem.Spec PyProof.Rows L2 NdefX TL NumText
/-! ### a book that fits its rows; the five questions -/
structure FitB (gs : List Str) (ys : List Wy) : Prop where
  ok : bErr gs ys = none
  rw : ∀ y ∈ ys, RwG y
  nm : ∀ g ∈ gs, g.length ≤ 640
theorem FitB.gs {gs : List Str} {ys : List Wy} (h : FitB gs ys) : (1 ≤ gs.length ∧ gs.length ≤ 4) ∧ gErr [] gs = none ∧ (1 ≤ ys.length ∧ ys.length ≤ 8) ∧ wErr gs ys = none := by
  have e := h.ok
  unfold bErr at e
  split at e
  · rename_i h1
    refine ⟨h1, ?_⟩
    split at e
    · cases e
    · rename_i h2
      refine ⟨h2, ?_⟩
      split at e
      · rename_i h3
        exact ⟨h3, e⟩
      · cases e
  · cases e
theorem gErr_ok : ∀ {gs s : List Str}, gErr s gs = none → s.Nodup → (s ++ gs).Nodup ∧ ∀ g ∈ gs, nameL (tl g) = true
  | [], s, _, hs => ⟨by rw [List.append_nil]; exact hs, fun _ h => (by cases h)⟩
  | g :: r, s, e, hs => by
    unfold gErr at e
    split at e
    · rename_i hn
      split at e
      · cases e
      · rename_i hm
        obtain ⟨h1, h2⟩ := gErr_ok (gs := r) (s := s ++ [g]) e (List.nodup_append.mpr ⟨hs, by simp, fun a ha b hb => by rw [List.mem_singleton.mp hb]; exact fun z => hm (z ▸ ha)⟩)
        rw [List.append_assoc] at h1
        refine ⟨h1, fun x hx => ?_⟩
        rcases List.mem_cons.mp hx with rfl | hx
        · exact hn
        · exact h2 x hx
    · cases e
theorem gErr_of : ∀ {gs s : List Str}, (s ++ gs).Nodup → (∀ g ∈ gs, nameL (tl g) = true) → gErr s gs = none
  | [], _, _, _ => rfl
  | g :: r, s, h, hn => by
    unfold gErr
    rw [if_pos (hn g List.mem_cons_self)]
    have hm : g ∉ s := fun z => by
      have := (List.nodup_append.mp h).2.2 g z g List.mem_cons_self
      exact this rfl
    rw [if_neg hm]
    exact gErr_of (by rw [List.append_assoc]; exact h) fun x hx => hn x (List.mem_cons_of_mem _ hx)
theorem wErr_ok {gs : List Str} : ∀ {ys : List Wy}, wErr gs ys = none ↔ ∀ y ∈ ys, ∀ g ∈ gWy y, g ∈ gs
  | [] => ⟨fun _ _ h => (by cases h), fun _ => rfl⟩
  | y :: r => by
    have ih := wErr_ok (gs := gs) (ys := r)
    have key : lost gs y = none ↔ ∀ g ∈ gWy y, g ∈ gs := by
      unfold lost
      rw [List.find?_eq_none]
      constructor
      · intro h g hg
        have := h g hg
        simpa using this
      · intro h g hg
        simpa using h g hg
    unfold wErr
    cases c : lost gs y with
    | some g =>
      constructor
      · intro e; cases e
      · intro h
        rw [key.mpr (h y List.mem_cons_self)] at c
        cases c
    | none =>
      dsimp only
      rw [ih]
      constructor
      · intro h z hz
        rcases List.mem_cons.mp hz with rfl | hz
        · exact key.mp c
        · exact h z hz
      · intro h z hz
        exact h z (List.mem_cons_of_mem _ hz)
theorem bErr_of {gs : List Str} {ys : List Wy} (h1 : 1 ≤ gs.length ∧ gs.length ≤ 4) (hd : gs.Nodup) (hn : ∀ g ∈ gs, nameL (tl g) = true) (h2 : 1 ≤ ys.length ∧ ys.length ≤ 8) (hw : ∀ y ∈ ys, ∀ g ∈ gWy y, g ∈ gs) : bErr gs ys = none := by
  unfold bErr
  rw [if_pos h1, gErr_of (s := []) hd hn]
  dsimp only
  rw [if_pos h2]
  exact wErr_ok.mpr hw
theorem FitB.nd {gs : List Str} {ys : List Wy} (h : FitB gs ys) : gs.Nodup := (gErr_ok h.gs.2.1 List.nodup_nil).1
theorem FitB.nice {gs : List Str} {ys : List Wy} (h : FitB gs ys) : ∀ g ∈ gs, nameL (tl g) = true := (gErr_ok h.gs.2.1 List.nodup_nil).2
theorem FitB.has {gs : List Str} {ys : List Wy} (h : FitB gs ys) : ∀ y ∈ ys, ∀ g ∈ gWy y, g ∈ gs := wErr_ok.mp h.gs.2.2.2
theorem FitB.bk {gs : List Str} {ys : List Wy} (h : FitB gs ys) : BkOk gs ys := ⟨h.nm, fun y hy => (h.rw y hy).wy, by have := h.gs; omega, by have := h.gs; omega⟩
/-- some of the rows, the names in whatever order -/
theorem FitB.sub {gs gs2 : List Str} {ys zs : List Wy} (h : FitB gs ys) (hp : gs2.Perm gs) (hz : ∀ y ∈ zs, y ∈ ys) (h1 : 1 ≤ zs.length) (h8 : zs.length ≤ 8) : FitB gs2 zs := by
  have hg := h.gs
  refine ⟨bErr_of ?_ (hp.nodup_iff.mpr h.nd) (fun g hg => h.nice g (hp.mem_iff.mp hg)) ⟨h1, h8⟩ (fun y hy g hg => hp.mem_iff.mpr (h.has y (hz y hy) g hg)), fun y hy => h.rw y (hz y hy), fun g hg => h.nm g (hp.mem_iff.mp hg)⟩
  rw [hp.length_eq]
  exact hg.1
inductive Ans where
  | way (y : Wy) | int (i : Int) | intl (l : List Int) | book (gs : List Str) (ys : List Wy) | eway (i : Int) | eunk (g : Str) | enum (i : Int)
structure AskOk (wh : Nat) (i : Int) (g : Str) : Prop where
  hw : wh < 5
  hi : i.natAbs ≤ 10 ^ 20
  hg : g.length ≤ 640
section
variable {P : Program} {w : World} {K : PySem.W.Frag} {mg : Str → Option Value} {base : Heap} {W C M N D U V f : Addr} {fd : FuncData}
end
end W1
set_option maxRecDepth 100000
set_option maxHeartbeats 4000000
/-! ### two dicts that are alike, where a comparison may run own code -/
namespace W1Q
open PySem PySem.Spec PyProof.Rows
section
variable {prog : Program} {w : World} {K : Type} [DecidableEq K] {knd : KeyKind prog w K} {A : Around} {E : Value → Shared → Prop}
/-- what two dicts hold, and what stays while they are compared -/
structure Alike (prog : Program) (w : World) {K : Type} [DecidableEq K] (knd : KeyKind prog w K) (A : Around) (E : Value → Shared → Prop) (a b : Addr) (J : Shared → Prop) (oa ob : Obj) (es fs : Array DictEntry) (ep fp : Nat) (ka kb : List (K × Value)) : Prop where
  na : (a == sysModules) = false
  nb : (b == sysModules) = false
  da : oa.data = .dict es ep
  db : ob.data = .dict fs fp
  k1 : KeysOf knd es
  k2 : KeysOf knd fs
  p1 : Pairs knd es.toList ka
  p2 : Pairs knd fs.toList kb
  at_ : ∀ s, J s → s.heap.get? a = some oa ∧ s.heap.get? b = some ob
  hl : ka.length = kb.length
  eq : ∀ s (i : Nat) k v, J s → ka[i]? = some (k, v) → ∃ y, valueAt kb k = some y ∧ wpAny (model prog w) A (eqBool v y) (fun r s' => r = true ∧ J s') E s
theorem same_pairs {nm : String} {a b : Addr} {J : Shared → Prop} {oa ob : Obj} {es fs : Array DictEntry} {ep fp : Nat} {ka kb : List (K × Value)} (T : Alike prog w knd A E a b J oa ob es fs ep fp ka kb) {Q : Bool → Shared → Prop} {s : Shared} (h : J s) (q : ∀ s', J s' → Q true s') :
    wpAny (model prog w) A (Builtin.Dict.samePairs nm a b) Q E s := by
  have na : es.size = ka.length := by rw [← T.p1.length, Array.length_toList]
  have nb : fs.size = kb.length := by rw [← T.p2.length, Array.length_toList]
  have sz : es.size = fs.size := by rw [na, nb, T.hl]
  have look : ∀ k, findBy knd.is fs k = valueAt kb k := fun k => by
    have h := T.p2.find k
    rw [← h]
    have : ∀ l : List DictEntry, findBy knd.is l.toArray k = (l.find? fun e => knd.is k e.key).map (·.val) := fun l => by simp [findBy]
    have h2 := this fs.toList
    rw [Array.toArray_toList] at h2
    exact h2
  unfold Builtin.Dict.samePairs Builtin.Dict.showsAll
  simp only [T.na, T.nb, Bool.false_eq_true, if_false]
  refine wpAny_bind (wpAny_pure (wpAny_bind (wpAny_pure (wpAny_bind (wpAny_dictEntries (T.at_ s h).1 T.da ?_)))))
  refine wpAny_bind (wpAny_dictEntries (T.at_ s h).2 T.db ?_)
  have e0 : (es.size != fs.size) = false := by rw [sz]; simp
  rw [e0, if_neg Bool.false_ne_true]
  refine wpAny_bind (wpAny_dictEpoch (T.at_ s h).1 T.da (wpAny_bind ?_))
  rw [Std.Legacy.Range.forIn_eq_forIn_range']
  simp only [Std.Legacy.Range.size, Nat.sub_zero, Nat.add_sub_cancel, Nat.div_one]
  refine wpAny_forIn_list _ (fun left st s' => st = (none, ()) ∧ J s' ∧ ∃ i, i + left.length = es.size ∧ left = List.range' i left.length) _ (fun i left st s' hI => ?_) (fun st s' hI => ?_) _ _ ⟨rfl, h, 0, by simp, by simp⟩
  · obtain ⟨rfl, j, i0, hi, hr⟩ := hI
    rw [List.length_cons, List.range'_succ] at hr
    injection hr with hx hrest
    subst hx
    rw [List.length_cons] at hi
    have lt : i < es.size := by omega
    have ltk : i < ka.length := by omega
    obtain ⟨is1, val1⟩ := T.p1.get? (e := es[i]) (by simp [lt]) (List.getElem?_eq_getElem ltk)
    obtain ⟨k2, is2, hash⟩ := T.k1 es[i] (Array.getElem_mem lt)
    rw [knd.inj _ _ _ is2 is1] at hash
    obtain ⟨y, hy, run⟩ := T.eq s' i ka[i].1 ka[i].2 j (List.getElem?_eq_getElem ltk)
    refine wpAny_bind (wpAny_dictEntries (T.at_ s' j).1 T.da ?_)
    rw [Array.getElem?_eq_getElem lt]
    dsimp only
    rw [hash]
    refine wpAny_bind (wpAny_holding (wpAny_bind (wpAny_dictFind_of is1 (T.at_ s' j).2 T.db T.k2 ?_)))
    rw [← look, findBy_of_findIdx?] at hy
    cases f : fs.findIdx? fun e => knd.is ka[i].1 e.key with
    | none => rw [f] at hy; cases hy
    | some m =>
      rw [f] at hy
      have ltm := (Array.findIdx?_eq_some_iff_getElem.mp f).1
      have ey : fs[m].val = y := by simpa [Array.getElem?_eq_getElem ltm] using hy
      refine wpAny_bind (wpAny_dictEntries (T.at_ s' j).2 T.db ?_)
      rw [Array.getElem?_eq_getElem ltm]
      dsimp only
      rw [ey, val1]
      refine wpAny_holding (wpAny_mono run (fun r s2 z => ?_) fun _ _ z => z)
      obtain ⟨rfl, j2⟩ := z
      simp only [Bool.not_true, Bool.false_eq_true, if_false]
      refine wpAny_bind (wpAny_dictEpoch (T.at_ s2 j2).1 T.da ?_)
      rw [bne_self_eq_false, if_neg Bool.false_ne_true]
      exact wpAny_pure ⟨rfl, j2, i + 1, by omega, hrest⟩
  · obtain ⟨rfl, j, _⟩ := hI
    exact wpAny_pure (q s' j)
theorem rc_alike (neg : Bool) {a b : Addr} {J : Shared → Prop} {oa ob : Obj} {es fs : Array DictEntry} {ep fp : Nat} {ka kb : List (K × Value)} (T : Alike prog w knd A.in1 E a b J oa ob es fs ep fp ka kb) {Q : Value → Shared → Prop} {s : Shared} (ta : s.TypeIs (.ref a) "dict") (tb : s.TypeIs (.ref b) "dict") (hu : A.units < cLine) (h : J s) (q : ∀ s', J s' → Q (.bool (!neg)) s') :
    wpAny (model prog w) A (richCompare (if neg then .NotEq else .Eq) (.ref a) (.ref b)) Q E s := by
  cases neg with
  | false =>
    rw [if_neg (by decide)]
    refine wpAny_richCompare_same_room (op := .Eq) ta tb PySem.F.slot_dict_eq (wpAny_call_entry PySem.F.slot_dict_eq ta PySem.F.entry_dict_eq ?_ (PySem.F.args_dict_eq_2 _ _)) hu
    show wpAny _ _ (Builtin.Dict.dictSlotArgs "__eq__" ⟨[.ref a, .ref b], []⟩ >>= _) _ _ s
    unfold Builtin.Dict.dictSlotArgs
    refine wpAny_bind (wpAny_bind (wpAny_notOrdered_dict ta (wpAny_pure ?_)))
    refine wpAny_bind (wpAny_isInstance (T := "dict") tb PySem.F.sub_dict_dict ?_)
    simp only [Bool.not_true, Bool.false_eq_true, if_false]
    refine wpAny_bind (wpAny_pure (wpAny_bind (wpAny_pure (wpAny_bind (same_pairs T h fun s' j => ?_)))))
    exact wpAny_pure ⟨_, rfl, (fun z => nomatch z), by simpa using q s' j⟩
  | true =>
    rw [if_pos rfl]
    refine wpAny_richCompare_same_room (op := .NotEq) ta tb PySem.F.slot_dict_ne (wpAny_call_entry PySem.F.slot_dict_ne ta PySem.F.entry_dict_ne ?_ (PySem.F.args_dict_ne_2 _ _)) hu
    show wpAny _ _ (Builtin.Dict.dictSlotArgs "__ne__" ⟨[.ref a, .ref b], []⟩ >>= _) _ _ s
    unfold Builtin.Dict.dictSlotArgs
    refine wpAny_bind (wpAny_bind (wpAny_notOrdered_dict ta (wpAny_pure ?_)))
    refine wpAny_bind (wpAny_isInstance (T := "dict") tb PySem.F.sub_dict_dict ?_)
    simp only [Bool.not_true, Bool.false_eq_true, if_false]
    refine wpAny_bind (wpAny_pure (wpAny_bind (wpAny_pure (wpAny_bind (same_pairs T h fun s' j => ?_)))))
    exact wpAny_pure ⟨_, rfl, (fun z => nomatch z), by simpa using q s' j⟩
end
end W1Q
set_option maxRecDepth 100000
set_option maxHeartbeats 4000000
set_option exponentiation.threshold 20000
namespace W1
open PySem PySem.Spec PyProof.Rows L2 NdefX TL NumText
/-! ### == and != of dicts that are alike, by own comparisons of what they hold -/
/-- the i-th thing of one has a like in the other -/
def Likes (X : Cx) (n : Nat) (fs gs : List (Key × Rl)) : Prop := fs.length = gs.length ∧ ∀ (i : Nat) k R, fs[i]? = some (k, R) → ∃ S, valR gs k = some S ∧ EqB X n R S true
theorem NR.at_ {κ : Type} {H : Hp} : ∀ {fs : List (κ × Rl)} {vs : List (κ × V)} {i : Nat} {k : κ} {v : V}, NR fs vs H → vs[i]? = some (k, v) → ∃ R, fs[i]? = some (k, R) ∧ R.r v H
  | [], [], i, _, _, _, e => by simp at e
  | (k0, R) :: fs, (k1, x) :: vs, 0, k, v, ⟨hk, h, _⟩, e => by
    cases (Option.some.inj e)
    subst hk
    exact ⟨R, rfl, h⟩
  | (_, _) :: fs, (_, _) :: vs, i + 1, k, v, ⟨_, _, t⟩, e => NR.at_ (i := i) t e
  | [], _ :: _, _, _, _, h, _ => h.elim
  | _ :: _, [], _, _, _, h, _ => h.elim
section
variable {X : Cx} {n : Nat} {fs gs : List (Key × Rl)}
theorem alike_of {A' : Around} {E : Value → Shared → Prop} {pins : List (Addr × Obj)} {s : Shared} {σ : L2.St} {G H : Hp} {p q : Addr} {o1 o2 : Obj} {vs ws : List (Key × V)} (L : Likes X n fs gs) (bl : Below X n A') (I : Inv X pins σ H s) (sg : Same G H)
    (h1 : H p = some (.frz o1 (.dK vs))) (h2 : H q = some (.frz o2 (.dK ws))) (n1 : NR fs vs G) (n2 : NR gs ws G) :
    ∃ es ds ep dp va vb, W1Q.Alike X.prog X.w (mixKind X.prog X.w) A' E p q (LoopW X pins σ G H) o1 o2 es ds ep dp va vb ∧ s.TypeIs (.ref p) "dict" ∧ s.TypeIs (.ref q) "dict" := by
  obtain ⟨np, gp, x1, es, ep, va, d1, _, kva, oa, esa, ga, xa, da, ka, pa, nda⟩ := I.frzK h1
  obtain ⟨nq, gq, x2, ds, dp, vb, d2, _, kvb, ob, esb, gb, xb, db, kb, pb, ndb⟩ := I.frzK h2
  rw [gp] at ga
  cases ga
  rw [gq] at gb
  cases gb
  refine ⟨esa, esb, ep, dp, va, vb, ⟨np, nq, da, db, ka, kb, pa, pb, ?_, ?_, ?_⟩, Heap.DictOf.typeIs ⟨_, _, _, gp, x1, da, ka, pa, nda⟩, Heap.DictOf.typeIs ⟨_, _, _, gq, x2, db, kb, pb, ndb⟩⟩
  · rintro s' ⟨G', H', I', st⟩
    exact ⟨(I'.frzK (st.hh _ _ h1)).2.1, (I'.frzK (st.hh _ _ h2)).2.1⟩
  · rw [← kva.length, ← kvb.length, ← n1.len, ← n2.len]
    exact L.1
  · rintro s' i k v ⟨G', H', I', st⟩ hv
    obtain ⟨x, hx, rx⟩ := kva.at' hv
    obtain ⟨R, hR, rR⟩ := n1.at_ hx
    obtain ⟨S, hS, eq⟩ := L.2 i k R hR
    obtain ⟨y, hy, rS⟩ := n2.val.1 S hS
    have ry := kvb.val k
    rw [hy] at ry
    cases e : valueAt vb k with
    | none => rw [e] at ry; exact ry.elim
    | some u =>
      rw [e] at ry
      refine ⟨u, rfl, wpAny_mono (eq A' pins s' σ G' H' x y v u E bl I' rx ry st.gh (R.mo _ _ _ st.gg rR) (S.mo _ _ _ st.gg rS)) (fun r s2 z => ?_) fun _ _ z => z⟩
      obtain ⟨rfl, G2, H2, I2, st2⟩ := z
      exact ⟨rfl, G2, H2, I2, st.trans st2⟩
theorem eqb_dctO (L : Likes X n fs gs) : EqB X (n + 1) (rDct fs) (rDct gs) true := by
  intro A' pins s σ G H x y u v E bl I rx ry sg ax ay
  obtain ⟨p, o1, vs, rfl, h1, n1⟩ := id ax
  obtain ⟨q, o2, ws, rfl, h2, n2⟩ := id ay
  cases (show u = Value.ref p from rx)
  cases (show v = Value.ref q from ry)
  by_cases hac : p = q
  · subst hac
    unfold eqBool
    refine wpAny_holding ?_
    refine wpAny_ite_split (fun _ => wpAny_bind (wpAny_rule (wpAny_pure ?_))) (fun h => absurd (beq_self_eq_true _) h)
    exact ⟨rfl, G, H, I, Step.refl sg⟩
  · refine GQ.eqBool_refG hac ?_
    obtain ⟨es, ds, ep, dp, va, vb, T, t1, t2⟩ := alike_of (E := E) L bl.in1 I sg (sg _ _ h1) (sg _ _ h2) n1 n2
    have := W1Q.rc_alike false (Q := fun r s' => ∃ b, r = .bool b ∧ b = true ∧ ∃ G' H', Inv X pins σ H' s' ∧ Step G H G' H') T t1 t2 bl.room.units0 ⟨G, H, I, Step.refl sg⟩ fun s' ⟨G', H', I', st⟩ => ⟨true, rfl, rfl, G', H', I', st⟩
    exact this
end
section
variable {F : Fx} {w : Ow} {A B : Rl} {n : Nat} {fs gs : List (Key × Rl)}
/-- a dict that cannot change just now -/
def IsFz (F : Fx) (A : Rl) (w : Ow) (fs : List (Key × Rl)) : Prop := ∀ x G H, At F w G H → A.r x G → ∃ p od vs, x = .ref p ∧ H p = some (.frz od (.dK vs)) ∧ NR fs vs G
theorem isf_frz : IsFz F (rDct fs) w fs := fun x G H at_ ⟨p, od, vs, a, b, c⟩ => ⟨p, od, vs, a, at_.gh _ _ b, c⟩
/-- an operator, by what it does at a state -/
theorem bop_semA {f : Value → Value → Sem Value} {b : Bool} (h : ∀ pins s σ G H x y u v Q, At F w G H → Inv F.X pins σ H s → RelV x u → RelV y v → A.r x G → B.r y G → (∀ z G' H', Step G H G' H' → (rBool b).r z G' → Q z H') → wpAny (model F.X.prog F.X.w) F.X.A (f u v) (EP F.X pins σ Q) F.X.xe s) : Bop F w f A B (rBool b) :=
  ⟨fun x y H Q => ∃ G, At F w G H ∧ A.r x G ∧ B.r y G ∧ ∀ z G2 H2, Same G G2 → At F w G2 H2 → (rBool b).r z G2 → Q z H2, fun pins s σ H x y u v Q I rx ry ⟨G, at_, ax, ay, q⟩ => h pins s σ G H x y u v Q at_ I rx ry ax ay fun z G' H' st rz => q z G' H' st.gg (at_.step st) rz, fun x y G H at_ ax ay Q q => ⟨G, at_, ax, ay, q⟩⟩
theorem bop_dA (neg : Bool) (L : Likes F.X n fs gs) (hA : IsFz F A w fs) (hB : IsFz F B w gs) (hr : Room (n + 1) F.X.A) : Bop F w (compareOp (if neg then .NotEq else .Eq)) A B (rBool (!neg)) :=
  bop_semA fun pins s σ G H x y u v Q at_ I rx ry ax ay q => by
    obtain ⟨p, o1, vs, rfl, h1, n1⟩ := hA _ _ _ at_ ax
    obtain ⟨p2, o2, ws, rfl, h2, n2⟩ := hB _ _ _ at_ ay
    cases (show u = Value.ref p from rx)
    cases (show v = Value.ref p2 from ry)
    have bl : Below F.X (n + 1) F.X.A := ⟨hr, rfl⟩
    obtain ⟨es, ds, ep, dp, va, vb, T, t1, t2⟩ := alike_of (E := F.X.xe) L bl.in1 I at_.gh h1 h2 n1 n2
    have := W1Q.rc_alike neg (Q := EP F.X pins σ Q) T t1 t2 hr.units0 ⟨G, H, I, Step.refl at_.gh⟩ fun s' ⟨G', H', I', st⟩ => ⟨.bl (!neg), H', I', rfl, q _ G' H' st rfl⟩
    cases neg
    · exact this
    · exact this
theorem bop_neDO (L : Likes F.X n fs gs) (hA : IsFz F A w fs) (hB : IsFz F B w gs) (hr : Room (n + 1) F.X.A) : Bop F w (compareOp .NotEq) A B (rBool false) := bop_dA true L hA hB hr
end
end W1
set_option maxRecDepth 100000
set_option maxHeartbeats 4000000
set_option exponentiation.threshold 20000
namespace W1
open PySem PySem.Spec PyProof.Rows L2 NdefX TL NumText
def strR (q : Rat) : Str := if q.den = 1 then numT q.num else numT q.num ++ slash ++ numT q.den
def pStr (C : Addr) : Pre := pOk (α := Rat) (Sz 1900) (fun q => [rRat C q]) (fun q => rStr (strR q))
section
variable {P : Program} {w : World} {K : PySem.W.Frag} {mg : Str → Option Value} {base : Heap} {C B D f : Addr} {fd : FuncData}
theorem log_num {q : Rat} (h : Sz 1900 q) : q.num.natAbs.log2 < 1920 := log_lt h.1 (by decide) (by decide)
theorem log_den {q : Rat} (h : Sz 1900 q) : (q.den : Int).natAbs.log2 < 1920 := log_lt (sz_int h) (by decide) (by decide)
theorem kf_str (Fn : Fun K "__str__" "Ratio.__str__" s_Ratio___str__ f fd) (X : RatX K mg C) (str : mg "str" = none) : FnOk P w K mg base (L2.CX P w) 2 f fd P_Ratio___str__ (spM (pStr C)) := by
  refine fn_ok Fn c_Ratio___str__ (fun _ _ _ _ ⟨_, _, h, _⟩ => by rw [h]; rfl) ?_
  rintro cdv A outer s H E ⟨_, G0, H0, M, W, tk⟩ hr rfl Rs ω o ω' ⟨q, hq, rfl, rfl, rfl, rfl⟩
  refine hb_if (tr_cmp (er_bot X (er_var 0 rfl)) er_int bop_eqI) (fun hb => ?_) (fun hb => hb_nil ?_)
  · have h1 : q.den = 1 := by
      have : (q.den : Int) = 1 := of_decide_eq_true hb
      omega
    refine hb_ret (er_callTy (cop_strI (log_num hq)) rfl str bt_str (ar_cons (er_top X (er_var 0 rfl)) ar_nil)) ⟨_, [], rfl, fun v G h => ?_, rfl⟩
    show (rStr (strR q)).r v G
    unfold strR
    rw [if_pos h1]
    exact h
  · have h1 : ¬ q.den = 1 := fun e => of_decide_eq_false hb (by rw [e]; rfl)
    refine hb_ret (er_f3 (er_top X (er_var 0 rfl)) (er_bot X (er_var 0 rfl)) (log_num hq) (log_den hq) (by decide)) ⟨_, [], rfl, fun v G h => ?_, rfl⟩
    show (rStr (strR q)).r v G
    unfold strR
    rw [if_neg h1]
    exact h
end
/-! ### {x}, x an instance with an own __str__ -/
section
variable {X : Cx} {C g k : Nat} {fd : FuncData} {ps : List Str} {sp : Sp}
theorem pe_fmtO {e : Expr} {te : TE} {pos : Pos} (he : PE X e te) (m : OwnM X.K C "__str__" g) (hfm : PySem.W.findIn X.K (.ref C) "__format__" = some (some (.builtin "object.__format__"))) (hm : PySem.W.mroIn X.K C (.type "object") = some true)
    (F : FnOk X.prog X.w X.K X.mg X.base (L2.CX X.prog X.w) k g fd ps sp) (hr : Room (k + 1) X.A) (hb : Binds X.K fd ps []) :
    PE X (.FormattedValue e (-1) none pos) (fun σ H Q => te σ H fun x H1 => ∃ a dx vs, x = .ref a ∧ H1 a = some (.ins C dx vs) ∧ sp [.ref a] H1 (fun v H' => ∃ y, v = .str y ∧ Q (.str y) H') E0) := by
  refine ⟨fun pins s σ H Q I h => ?_⟩
  refine wpAny_FormattedValue_plain (thn (he.run pins s σ H _ I h) fun v s1 hv => ?_)
  obtain ⟨x, H1, I1, r1, a, dx, vs, rfl, ha, q⟩ := hv
  cases r1
  have I2 := I1.tok (s1.toks + 1)
  obtain ⟨od, J⟩ := inst_at I1 ha
  have hr1 : Room k X.A.in1 := hr.in1
  refine PySem.W.kfo_fieldS hr1.units0 I1.kIn J hfm hm m.at_ m.fn (wpAny_mono (run_below (us := [.ref a]) (vs := [.ref a]) F hr1 I2.env0.in1 hb I2 (.cons rfl .nil) q _) (fun w s' z => ?_) fun _ _ x => x)
  obtain ⟨z', H', I', rz, y, ez, qz⟩ := z
  subst ez
  obtain ⟨t, rfl⟩ := rz
  exact ⟨.str y, H', I', ⟨t, rfl⟩, qz⟩
end
/-- a fraction of no great size -/
def prRat (C : Addr) : Rl := rEx fun q : { q : Rat // Sz 1900 q } => rRat C q.1
theorem len_strR {q : Rat} (h : Sz 1900 q) : (strR q).length ≤ 5000 := by
  have h1 := str_len_num (log_num h)
  have h2 := str_len_num (log_den h)
  unfold strR
  split
  · omega
  · have e : slash.length = 1 := rfl
    rw [strlen_app, strlen_app, e]
    omega
/-- what is looked up of a class whose instances are put in texts -/
structure FmtX (K : PySem.W.Frag) (C : Addr) : Prop where
  fm : PySem.W.findIn K (.ref C) "__format__" = some (some (.builtin "object.__format__"))
  ob : PySem.W.mroIn K C (.type "object") = some true
theorem txt_rat {X : Cx} {C : Addr} {i : Nat} {x t : Str} {p1 p2 p3 p4 : Pos} {j : Nat} (T : Ko X.prog X.w X.K X.mg X.base C "__str__" 2 (pStr C)) (fx : FmtX X.K C) (hr : Room 3 X.A) (hN : X.N[i]? = some x) (hv : Vis X.env.scope x) (hd : (x == ("__debug__" : Str)) = false) (hcd : (x == ("__classdict__" : Str)) = false) (ht : t.length ≤ 1000) :
    Txt1 X (.JoinedStr [.FormattedValue (.Name x p1) (-1) none p2, .Constant (.str t) j p3] p4) i (prRat C) := by
  obtain ⟨f, fd, ps, m, hb, Fn⟩ := T
  refine ⟨_, pe_joined (.cons (pe_fmtO (pe_var hN hv hd hcd) m fx.fm fx.ob Fn hr hb) (.cons pe_str .nil)), fun σ H v h3 h4 Q q => ?_⟩
  obtain ⟨⟨r, hr2⟩, a, dx, vs, rfl, ha, hn⟩ := h4
  refine ⟨_, h3, a, dx, vs, rfl, ha, [rRat C r], [], _, [], H, ⟨r, hr2, rfl, rfl, rfl, rfl⟩, Same.refl _, ⟨⟨a, dx, vs, rfl, ha, hn⟩, trivial⟩, (fun _ h => by cases h), List.nodup_nil, rfl, fun v G' H' st _ hv => ⟨strR r, hv, strR r, rfl, ?_, t, rfl, ?_, q _ _ fun b o e => st.hh b o List.not_mem_nil e⟩⟩
  · rw [empty_app]
    exact Nat.le_trans (len_strR hr2) (by decide)
  · rw [strlen_app, empty_app]
    exact Nat.le_trans (Nat.add_le_add (len_strR hr2) ht) (by decide)
end W1
set_option maxRecDepth 100000
set_option maxHeartbeats 4000000
/-! ### zip of two sequences, each with its own kind of iterator -/
namespace W1
open PySem PySem.Spec PyProof.Rows L2
/-- a source: what it holds, how its iterator stands -/
structure Src (P : Program) (w : World) (K : PySem.W.Frag) (a it : Addr) (sq : Hp → List V → Prop) (st : Nat → Heap → Prop) : Prop where
  obj : ∀ i h, st i h → ∃ o, h.get? it = some o ∧ ∀ v, o.data ≠ .cell v
  keep : ∀ i h h', st i h → (∀ o, h.get? it = some o → h'.get? it = some o) → st i h'
  inj : ∀ (X : Cx) pins σ H s xs ys, X.K = K → Inv X pins σ H s → sq H xs → sq H ys → xs = ys
  draw : ∀ (X : Cx) pins σ H s xs, X.prog = P → X.w = w → X.K = K → X.calm = true → Inv X pins σ H s → sq H xs → a ≠ it → ∃ its : Array Value, its.size = xs.length ∧ (∀ (i : Nat) x, xs[i]? = some x → ∃ u, its[i]? = some u ∧ RelV x u) ∧
    ∃ St, Draws P w X.A.in1 it [it, a] its.size (fun i v => its[i]? = some v) St ∧ (∀ i, st i s.heap → St i s.heap) ∧ ∀ i h, St i h → st i h
end W1
set_option maxRecDepth 100000
set_option maxHeartbeats 4000000
/-! ### zip(l, o), o with an own __iter__ -/
namespace W1
open PySem PySem.Spec PyProof.Rows L2
end W1
set_option maxRecDepth 100000
set_option maxHeartbeats 4000000
namespace W1
open PySem PySem.Spec PyProof.Rows L2 ItX
section
variable {X : Cx} {pins : List (Addr × Obj)} {σ : L2.St} {H : Hp} {s : Shared} {C g a b t k kk : Nat} {fld : Str} {ys : List V} {elts : List Expr} {tpos : Pos} {o1 : Obj} {sq1 : Hp → List V → Prop} {st1 : Nat → Heap → Prop} {R : It → Hp → Prop}
end
end W1
set_option maxRecDepth 100000
set_option maxHeartbeats 4000000
set_option exponentiation.threshold 20000
namespace W1
open PySem PySem.Spec PyProof.Rows L2 NdefX TL NumText
/-! ### loops over zip -/
def zipR (Rs Ss : List Rl) : List Rl := List.zipWith (fun R S => rTup [R, S]) Rs Ss
theorem zipR_len {Rs Ss : List Rl} (h : Rs.length = Ss.length) : (zipR Rs Ss).length = Rs.length := by
  unfold zipR
  rw [List.length_zipWith, h, Nat.min_self]
theorem zipR_get {Rs Ss : List Rl} {i : Nat} {T : Rl} (h : (zipR Rs Ss)[i]? = some T) : ∃ R S, Rs[i]? = some R ∧ Ss[i]? = some S ∧ T = rTup [R, S] := by
  unfold zipR at h
  rw [List.getElem?_zipWith] at h
  cases a : Rs[i]? with
  | none => rw [a] at h; cases h
  | some R =>
    cases b : Ss[i]? with
    | none => rw [a, b] at h; cases h
    | some S =>
      rw [a, b] at h
      cases h
      exact ⟨R, S, rfl, rfl, rfl⟩
section
variable {F : Fx} {ρ : Ty} {ω w1 : Ow} {e e2 : Expr} {pos p tpos : Pos} {Rs Ss : List Rl} {C g k : Nat} {fld : Str} {fs : List (Str × Rl)} {elts : List Expr} {kk : Nat} {b : Bool}
/-- zip of two lists, or of two tuples -/
theorem yld_zipL {K : PySem.W.Frag} {a c : Addr} {vs ws : List V} {G : Hp} (h1 : SqL K G a vs) (h2 : SqL K G c ws) (n1 : All2 Rs vs G) (n2 : All2 Ss ws G) (hl : Rs.length = Ss.length) : Yld (Itz K a c) (zipR Rs Ss) G where
  go := fun i G' H' s1 s2 hi => by
    rw [zipR_len hl] at hi
    have l1 := n1.len
    have l2 := n2.len
    exact ⟨vs, ws, vs[i]'(by omega), ws[i]'(by omega), sql_up (s1.trans s2) h1, sql_up (s1.trans s2) h2, List.getElem?_eq_getElem _, List.getElem?_eq_getElem _⟩
  stop := fun G' H' s1 s2 => by
    rw [zipR_len hl]
    exact ⟨vs, ws, sql_up (s1.trans s2) h1, sql_up (s1.trans s2) h2, .inl (by rw [n1.len]; exact Nat.le_refl _)⟩
  yld := fun i T G' H' x H'' s1 s2 hT y => by
    obtain ⟨R, S, hR, hS, rfl⟩ := zipR_get hT
    obtain ⟨p, u, v, rfl, hp, rfl, q1, q2⟩ := y
    obtain ⟨u', hu, ru⟩ := n1.get hR
    obtain ⟨v', hv, rv⟩ := n2.get hS
    have e1 := q1 vs (sql_up (s1.trans s2) h1)
    have e2 := q2 ws (sql_up (s1.trans s2) h2)
    rw [hu] at e1
    rw [hv] at e2
    cases e1
    cases e2
    have st := Step.new (o := .tup [u, v]) s2 hp
    exact ⟨_, st, p, [u, v], rfl, upd_same, (mk2 (R.mo _ _ _ s1 ru) (S.mo _ _ _ s1 rv)).up st.gg⟩
theorem yld_zipT {K : PySem.W.Frag} {a c : Addr} {vs ws : List V} {G : Hp} (h1 : SqT K G a vs) (h2 : SqT K G c ws) (n1 : All2 Rs vs G) (n2 : All2 Ss ws G) (hl : Rs.length = Ss.length) : Yld (RZ.ItzT K a c) (zipR Rs Ss) G where
  go := fun i G' H' s1 s2 hi => by
    rw [zipR_len hl] at hi
    have l1 := n1.len
    have l2 := n2.len
    exact ⟨vs, ws, vs[i]'(by omega), ws[i]'(by omega), sqt_up (s1.trans s2) h1, sqt_up (s1.trans s2) h2, List.getElem?_eq_getElem _, List.getElem?_eq_getElem _⟩
  stop := fun G' H' s1 s2 => by
    rw [zipR_len hl]
    exact ⟨vs, ws, sqt_up (s1.trans s2) h1, sqt_up (s1.trans s2) h2, .inl (by rw [n1.len]; exact Nat.le_refl _)⟩
  yld := fun i T G' H' x H'' s1 s2 hT y => by
    obtain ⟨R, S, hR, hS, rfl⟩ := zipR_get hT
    obtain ⟨p, u, v, rfl, hp, rfl, q1, q2⟩ := y
    obtain ⟨u', hu, ru⟩ := n1.get hR
    obtain ⟨v', hv, rv⟩ := n2.get hS
    have e1 := q1 vs (sqt_up (s1.trans s2) h1)
    have e2 := q2 ws (sqt_up (s1.trans s2) h2)
    rw [hu] at e1
    rw [hv] at e2
    cases e1
    cases e2
    have st := Step.new (o := .tup [u, v]) s2 hp
    exact ⟨_, st, p, [u, v], rfl, upd_same, (mk2 (R.mo _ _ _ s1 ru) (S.mo _ _ _ s1 rv)).up st.gg⟩
theorem it_zip2 (he : AR F ρ ω [e, e2] [rSeq b Rs, rSeq b Ss] w1) (hl : Rs.length = Ss.length) (hg : Gl F.X "zip") (hm : F.X.mg "zip" = none)
    (hs : starEach [e, e2] F.X.env = (false, eval e F.X.env) :: starEach [e2] F.X.env := by rfl) (hpl : (backTo pos (starEach [e2] F.X.env)).any (·.1) = false := by rfl) : IT F ρ ω (.Tuple elts kk tpos) (.Call (.Name "zip" p) [e, e2] [] pos) (zipR Rs Ss) w1 :=
  ⟨_, RZ.pi_zipA hg hm pa_w hs hpl, fun σ G H at_ sl R q => he σ G H at_ sl _ fun us G2 H2 s2 a2 r2 => by
    obtain ⟨x, y, rfl, hx, hy⟩ := all2 r2
    cases b with
    | true =>
      obtain ⟨a, xs, rfl, h6, h7⟩ := hx
      obtain ⟨c, ys, rfl, h8, h9⟩ := hy
      exact ⟨a, c, xs, ys, rfl, .inl ⟨SqL.of (a2.gh _ _ h6), SqL.of (a2.gh _ _ h8), q _ G2 H2 s2 a2 (yld_zipL (SqL.of h6) (SqL.of h8) h7 h9 hl)⟩⟩
    | false =>
      obtain ⟨a, xs, rfl, h6, h7⟩ := hx
      obtain ⟨c, ys, rfl, h8, h9⟩ := hy
      exact ⟨a, c, xs, ys, rfl, .inr ⟨SqT.of (a2.gh _ _ h6), SqT.of (a2.gh _ _ h8), q _ G2 H2 s2 a2 (yld_zipT (SqT.of h6) (SqT.of h8) h7 h9 hl)⟩⟩⟩
end
end W1
set_option maxRecDepth 100000
set_option maxHeartbeats 4000000
set_option exponentiation.threshold 20000
namespace W1
open PySem PySem.Spec PyProof.Rows L2 NdefX TL NumText
/-! ### fractions: lists and dicts of them -/
abbrev Dm := List (Str × Rat)
def fsQ (R : Addr) (dm : Dm) : List (Key × Rl) := dm.map fun p => (Sum.inr p.1, rRat R p.2)
def namesQ (dm : Dm) : List Str := dm.map (·.1)
def valQ (dm : Dm) (g : Str) : Rat := ((dm.find? fun p => decide (p.1 = g)).map (·.2)).getD 0
theorem valR_Q {R : Addr} : ∀ {dm : Dm} {g : Str}, valR (fsQ R dm) (.inr g) = (dm.find? fun p => decide (p.1 = g)).map fun p => rRat R p.2
  | [], g => rfl
  | p :: dm, g => by
    unfold fsQ valR
    rw [List.map_cons, List.find?_cons, List.find?_cons]
    by_cases h : p.1 = g
    · have h2 : decide ((Sum.inr p.1 : Key) = Sum.inr g) = true := decide_eq_true (by rw [h])
      simp only [h2, decide_eq_true h, Option.map_some]
    · have h2 : decide ((Sum.inr p.1 : Key) = Sum.inr g) = false := decide_eq_false fun z => h (Sum.inr.inj z)
      simp only [h2, decide_eq_false h]
      exact valR_Q (dm := dm)
theorem valR_Qget {R : Addr} {dm : Dm} {g : Str} : (valR (fsQ R dm) (.inr g)).getD (rRat R 0) = rRat R (valQ dm g) := by
  rw [valR_Q]
  unfold valQ
  cases dm.find? fun p => decide (p.1 = g) <;> rfl
theorem mem_valQ {dm : Dm} {g : Str} : (valQ dm g) = 0 ∨ ∃ p ∈ dm, p.1 = g ∧ valQ dm g = p.2 := by
  unfold valQ
  cases e : dm.find? fun p => decide (p.1 = g) with
  | none => exact .inl rfl
  | some p => exact .inr ⟨p, List.mem_of_find?_eq_some e, of_decide_eq_true (by simpa using List.find?_some e), rfl⟩
theorem eqb_rat {F : Fx} {R : Addr} {p : Rat} (T : Ko F.X.prog F.X.w F.X.K F.X.mg F.X.base R "__eq__" 5 (pEq R)) (hn : PySem.W.notFirst F.X.K R (.ref R) = true) : EqB F.X 5 (rRat R p) (rRat R p) true := by
  have h := eqb_o (F := F) (t := decide (p = p)) T (pEqOk (p := p) (q := p)) (fun _ _ _ _ => decide_eq_true rfl) hn
  rw [decide_eq_true rfl] at h
  exact h
theorem likes_Q {F : Fx} {R : Addr} {dm : Dm} (T : Ko F.X.prog F.X.w F.X.K F.X.mg F.X.base R "__eq__" 5 (pEq R)) (hn : PySem.W.notFirst F.X.K R (.ref R) = true) (nd : (namesQ dm).Nodup) : Likes F.X 5 (fsQ R dm) (fsQ R dm) := by
  refine ⟨rfl, fun i k S hS => ?_⟩
  unfold fsQ at hS
  rw [List.getElem?_map] at hS
  cases e : dm[i]? with
  | none => rw [e] at hS; cases hS
  | some p =>
    rw [e] at hS
    cases hS
    have hf : dm.find? (fun q => decide (q.1 = p.1)) = some p := by
      have key : ∀ (l : Dm), (namesQ l).Nodup → p ∈ l → l.find? (fun q => decide (q.1 = p.1)) = some p := by
        intro l
        induction l with
        | nil => intro _ h; cases h
        | cons a l ih =>
          intro hn hp
          have h2 := List.nodup_cons.mp hn
          rw [List.find?_cons]
          rcases List.mem_cons.mp hp with rfl | hp
          · rw [decide_eq_true rfl]
          · have : ¬ a.1 = p.1 := fun z => h2.1 (show a.1 ∈ l.map (·.1) by rw [z]; exact List.mem_map_of_mem (f := (·.1)) hp)
            rw [decide_eq_false this]
            exact ih h2.2 hp
      exact key dm nd (List.mem_of_getElem? e)
    refine ⟨rRat R p.2, by rw [valR_Q, hf]; rfl, eqb_rat T hn⟩
/-! sizes -/
theorem sz_sum {m : Nat} : ∀ (l : List Rat) {a : Nat} {z : Rat}, (∀ q ∈ l, Sz m q) → Sz a z → Sz (a + (m + 1) * l.length) (l.foldl (· + ·) z)
  | [], a, z, _, hz => hz
  | q :: l, a, z, h, hz => by
    have h1 : Sz (a + (m + 1)) (z + q) := sz_add hz (h q List.mem_cons_self) (by omega)
    have := sz_sum l (fun x hx => h x (List.mem_cons_of_mem _ hx)) h1
    refine this.mono ?_
    rw [List.length_cons, Nat.mul_add]
    omega
theorem sz_zero : Sz 1 0 := by
  refine ⟨?_, ?_⟩ <;> decide
theorem sz_one : Sz 1 (1 : Rat) ↔ True := by
  refine ⟨fun _ => trivial, fun _ => ⟨?_, ?_⟩⟩ <;> decide
theorem sumR_ok {m n : Nat} {l : List Rat} (h : ∀ q ∈ l, Sz m q) (hl : l.length ≤ n) (hs : 1 + (m + 1) * n ≤ 4000 := by decide) : (∀ q ∈ l, small q) ∧ (∀ k, small (sumR (l.take k))) ∧ Sz (1 + (m + 1) * n) (sumR l) := by
  have mul_le : ∀ k, k ≤ n → (m + 1) * k ≤ (m + 1) * n := fun k hk => Nat.mul_le_mul_left _ hk
  have key : ∀ l' : List Rat, (∀ q ∈ l', Sz m q) → l'.length ≤ n → Sz (1 + (m + 1) * n) (sumR l') := fun l' h' hl' => (sz_sum l' h' sz_zero).mono (by have := mul_le _ hl'; omega)
  refine ⟨fun q hq => (h q hq).mono ?_, fun k => (key _ (fun q hq => h q (List.mem_of_mem_take hq)) ?_).mono hs, key l h hl⟩
  · cases n with
    | zero =>
      have : l = [] := List.length_eq_zero_iff.mp (by omega)
      rw [this] at hq
      cases hq
    | succ n => rw [Nat.mul_add] at hs; omega
  · rw [List.length_take]; omega
section
variable {F : Fx} {ρ : Ty} {ω w w1 : Ow} {e : Expr} {pos p tpos : Pos} {Rs : List Rl} {elts : List Expr} {kk : Nat} {b : Bool} {A B : Rl} {n : Nat}
end
/-! ### the program's plans -/
/-- what is known of the class of fractions -/
structure RtX (P : Program) (w : World) (K : PySem.W.Frag) (mg : Str → Option Value) (base : Heap) (R M : Addr) : Prop where
  X : RatX K mg R
  Tq : Kc P w K mg base R "Ratio" 3 (pInit R M)
  Tw : Kcm P w K mg base R "whole" 5 (pWhole R)
  Ta : Ko P w K mg base R "__add__" 5 (pAdd R)
  Tm : Ko P w K mg base R "__mul__" 5 (pMul R)
  Te : Ko P w K mg base R "__eq__" 5 (pEq R)
  Tu : Km P w K mg base R "under" 5 (pUnder R)
section
variable {P : Program} {w : World} {K : PySem.W.Frag} {mg : Str → Option Value} {base : Heap} {W C M R U V f gi : Addr} {fd : FuncData}
end
end W1
set_option maxRecDepth 100000
set_option maxHeartbeats 4000000
set_option exponentiation.threshold 20000
namespace W1
open PySem PySem.Spec PyProof.Rows L2 NdefX TL NumText
/-! ### the law's demands -/
def putQ (dm : Dm) (k : Str) (v : Rat) : Dm := if k ∈ namesQ dm then dm.map (fun p => if p.1 = k then (p.1, v) else p) else dm ++ [(k, v)]
theorem putK_Q {R : Addr} (dm : Dm) (k : Str) (v : Rat) : putKR (fsQ R dm) (.inr k) (rRat R v) = fsQ R (putQ dm k v) := by
  have e : (((fsQ R dm).any fun kv => decide (kv.1 = Sum.inr k)) = true) ↔ k ∈ namesQ dm := by
    unfold fsQ namesQ
    rw [List.any_map, List.any_eq_true]
    constructor
    · rintro ⟨p, hp, h⟩
      exact List.mem_map.mpr ⟨p, hp, Sum.inr.inj (of_decide_eq_true h)⟩
    · intro h
      obtain ⟨p, hp, rfl⟩ := List.mem_map.mp h
      exact ⟨p, hp, decide_eq_true rfl⟩
  unfold putKR putQ
  by_cases h : k ∈ namesQ dm
  · rw [if_pos (e.mpr h), if_pos h]
    unfold fsQ
    rw [List.map_map, List.map_map]
    apply List.map_congr_left
    intro p _
    show (if (Sum.inr p.1 : Key) = Sum.inr k then ((Sum.inr p.1 : Key), rRat R v) else (Sum.inr p.1, rRat R p.2)) = _
    by_cases h : p.1 = k
    · rw [if_pos (congrArg Sum.inr h)]
      show _ = ((Sum.inr (if p.1 = k then (p.1, v) else p).1 : Key), rRat R (if p.1 = k then (p.1, v) else p).2)
      rw [if_pos h]
    · rw [if_neg (fun z => h (Sum.inr.inj z))]
      show _ = ((Sum.inr (if p.1 = k then (p.1, v) else p).1 : Key), rRat R (if p.1 = k then (p.1, v) else p).2)
      rw [if_neg h]
  · rw [if_neg (fun z => h (e.mp z)), if_neg h]
    unfold fsQ
    rw [List.map_append]
    rfl
theorem names_putQ (dm : Dm) (k : Str) (v : Rat) : namesQ (putQ dm k v) = if k ∈ namesQ dm then namesQ dm else namesQ dm ++ [k] := by
  unfold putQ
  split
  · unfold namesQ
    rw [List.map_map]
    apply List.map_congr_left
    intro p _
    show (if p.1 = k then (p.1, v) else p).1 = p.1
    split <;> rfl
  · unfold namesQ
    rw [List.map_append]
    rfl
/-- a demand of few names -/
structure DmOk (n : Nat) (dm : Dm) : Prop where
  nd : (namesQ dm).Nodup
  sz : ∀ p ∈ dm, Sz 30 p.2
  ln : dm.length ≤ n
theorem DmOk.nil : DmOk 0 [] := ⟨List.nodup_nil, fun _ h => (by cases h), Nat.le_refl _⟩
theorem DmOk.put {n : Nat} {dm : Dm} {k : Str} {v : Rat} (h : DmOk n dm) (hv : Sz 30 v) : DmOk (n + 1) (putQ dm k v) := by
  refine ⟨?_, fun p hp => ?_, ?_⟩
  · rw [names_putQ]
    split
    · exact h.nd
    · next hm => exact List.nodup_append.mpr ⟨h.nd, by simp, fun x hx y hy => by rw [List.mem_singleton.mp hy]; exact fun e => hm (e ▸ hx)⟩
  · unfold putQ at hp
    split at hp
    · obtain ⟨q, hq, rfl⟩ := List.mem_map.mp hp
      show Sz 30 (if q.1 = k then (q.1, v) else q).2
      split
      · exact hv
      · exact h.sz q hq
    · rcases List.mem_append.mp hp with hp | hp
      · exact h.sz p hp
      · rw [List.mem_singleton.mp hp]; exact hv
  · have := h.ln
    unfold putQ
    split
    · rw [List.length_map]; omega
    · rw [List.length_append, List.length_singleton]; omega
theorem DmOk.mono {m n : Nat} {dm : Dm} (h : DmOk m dm) (l : m ≤ n) : DmOk n dm := ⟨h.nd, h.sz, Nat.le_trans h.ln l⟩
theorem DmOk.small {n : Nat} {dm : Dm} (h : DmOk n dm) : ∀ p ∈ dm, small p.2 := fun p hp => (h.sz p hp).mono (by decide)
theorem len_fsQ {R : Addr} {dm : Dm} : (fsQ R dm).length = dm.length := List.length_map _
/-- a drawn fraction is small -/
theorem sz_drawn {t u : Int} (h1 : t.natAbs ≤ 20) (h2 : 1 ≤ u ∧ u ≤ 20) : Sz 30 (Rat.divInt t u) := sz_divInt (by omega) (Nat.lt_of_le_of_lt h1 (by decide)) (Nat.lt_of_le_of_lt (show u.natAbs ≤ 20 by omega) (by decide))
theorem lt9 {u : Int} (h : u.natAbs ≤ 100) : u.natAbs < 2 ^ 9000 := lt9000 (Nat.lt_of_le_of_lt h (by decide : 100 < 2 ^ 64)) (by decide)
section
variable {P : Program} {w : World} {K : PySem.W.Frag} {mg : Str → Option Value} {base : Heap} {W C M R U V f gi : Addr} {fd : FuncData}
end
end W1
set_option maxRecDepth 100000
set_option maxHeartbeats 4000000
set_option exponentiation.threshold 20000
namespace W1
open PySem PySem.Spec PyProof.Rows L2 NdefX TL NumText
/-! ### any, values -/
theorem bt_any : bootBuiltins "any" = some (.builtin "any") := by decide +kernel
section
variable {F : Fx} {ρ : Ty} {ω w w1 : Ow} {tg it e : Expr} {fs : List (Key × Rl)} {apos cpos : Pos}
theorem cop_any {bs : List Bool} (hc : F.X.calm = true) : Cop F w (.builtin "any") [rLst (bs.map rBool)] (rBool (bs.any _root_.id)) := ⟨_, cr_any hc, fun xs G H at_ hx Q q => by
  obtain ⟨x, rfl, p, vs, rfl, h1, h2⟩ := all1 hx
  have e : vs = bs.map V.bl := all2_vals (H := G) (by rw [List.map_map]; exact h2)
  rw [e] at h1
  exact ⟨p, bs, rfl, SqL.of (at_.gh _ _ h1), q _ G H (Same.refl _) at_ rfl⟩⟩
end
/-! ### what a demand lacks -/
structure BkQ (gs : List Str) (ys : List Wy) : Prop where
  G : Goods gs
  h0 : 0 < gs.length
  h4 : gs.length ≤ 4
  R : RowsK gs ys
def dmE (gs : List Str) (dm : Dm) : List Str → Option (Str ⊕ Rat)
  | [] => none
  | g :: r => if g ∈ gs then (if valQ dm g < 0 then some (.inr (valQ dm g)) else dmE gs dm r) else some (.inl g)
def demE (gs : List Str) (dm : Dm) : Option (Str ⊕ Rat) := dmE gs dm (srt (namesQ dm))
def errD (M U R : Addr) : Str ⊕ Rat → Er
  | .inl g => erF U "name" (rStr g)
  | .inr q => erF M "n" (rRat R q)
/-- a demand's names and numbers are of no great size -/
structure DmS (dm : Dm) : Prop where
  ok : DmOk 60 dm
  nm : ∀ g ∈ namesQ dm, g.length ≤ 640
theorem valQ_mem {dm : Dm} {g : Str} (h : g ∈ namesQ dm) : ∃ p ∈ dm, p.1 = g ∧ valQ dm g = p.2 ∧ dm.find? (fun p => decide (p.1 = g)) = some p := by
  obtain ⟨p, hp, e⟩ := List.mem_map.mp h
  unfold valQ
  cases ef : dm.find? fun p => decide (p.1 = g) with
  | some p => exact ⟨p, List.mem_of_find?_eq_some ef, of_decide_eq_true (by simpa using List.find?_some ef), rfl, rfl⟩
  | none =>
    have := List.find?_eq_none.mp ef p hp
    simp [e] at this
theorem valQ_sz {n : Nat} {dm : Dm} {g : Str} (h : DmOk n dm) : Sz 30 (valQ dm g) := by
  rcases mem_valQ (dm := dm) (g := g) with e | ⟨p, hp, _, e⟩
  · rw [e]; exact sz_zero.mono (by decide)
  · rw [e]; exact h.sz p hp
theorem kRs_Qd {R : Addr} {dm : Dm} : kRs (fsQ R dm) = (namesQ dm).map rStr := by
  unfold kRs fsQ namesQ
  rw [List.map_map, List.map_map]
  rfl
section
variable {P : Program} {w : World} {K : PySem.W.Frag} {mg : Str → Option Value} {base : Heap} {W C M R U V f gi : Addr} {fd : FuncData}
end
end W1
set_option maxRecDepth 100000
set_option maxHeartbeats 1000000
set_option exponentiation.threshold 20000
namespace W1
open PySem PySem.Spec PyProof.Rows L2 NdefX TL NumText
/-! ### lines of numbers, solved one place after the other (plain) -/
abbrev Mtx := List (List Rat)
def atQ (l : List Rat) (i : Nat) : Rat := l.getD i 0
def rwM (M : Mtx) (i : Nat) : List Rat := M.getD i []
def gPl (M : Mtx) (a : Nat) : List Nat := ((List.range (M.length - a)).filter fun k => (atQ (rwM M (a + k)) a).num != 0).map (a + ·)
def gSwap (M : Mtx) (a g : Nat) : Mtx := (M.set a (rwM M g)).set g (rwM M a)
def gPiv (a : Nat) (row : List Rat) : List Rat := row.map (· / atQ row a)
def gRed (a : Nat) (line piv : List Rat) : List Rat := (line.zip piv).map fun p => p.1 - atQ line a * p.2
def gElim (a : Nat) (M : Mtx) (piv : List Rat) : Mtx := (List.range M.length).map fun p => if p = a then piv else gRed a (rwM M p) piv
def gStep (M : Mtx) (a : Nat) : Option Mtx := match gPl M a with
  | [] => none
  | g :: _ => some (gElim a (gSwap M a g) (gPiv a (rwM (gSwap M a g) a)))
def gRun (M : Mtx) : Nat → Option Mtx
  | 0 => some M
  | k + 1 => (gRun M k).bind fun N => gStep N k
def slv (M : Mtx) : Option (List Rat) := (gRun M M.length).map fun N => N.map fun r => atQ r (r.length - 1)
/-- n lines of m numbers -/
structure MSz (s n m : Nat) (M : Mtx) : Prop where
  n : M.length = n
  m : ∀ r ∈ M, r.length = m
  z : ∀ r ∈ M, ∀ x ∈ r, Sz s x
theorem getD_mem {α : Type} {l : List α} {i : Nat} {d : α} (h : i < l.length) : l.getD i d ∈ l := by
  rw [List.getD_eq_getElem?_getD, List.getElem?_eq_getElem h]
  exact List.getElem_mem h
theorem gPl_mem {M : Mtx} {a g : Nat} (h : g ∈ gPl M a) : a ≤ g ∧ g < M.length ∧ atQ (rwM M g) a ≠ 0 := by
  unfold gPl at h
  obtain ⟨k, hk, rfl⟩ := List.mem_map.mp h
  obtain ⟨h1, h2⟩ := List.mem_filter.mp hk
  have := List.mem_range.mp h1
  refine ⟨by omega, by omega, fun e => ?_⟩
  rw [e] at h2
  exact absurd h2 (by decide)
theorem mem_set' {α : Type} {l : List α} {i : Nat} {x y : α} (h : y ∈ l.set i x) : y ∈ l ∨ y = x := by
  rcases List.mem_or_eq_of_mem_set h with h | h
  · exact .inl h
  · exact .inr h
theorem MSz.row {s n m : Nat} {M : Mtx} (h : MSz s n m M) {i : Nat} (hi : i < n) : rwM M i ∈ M := getD_mem (by rw [h.n]; exact hi)
theorem MSz.at_ {s n m : Nat} {M : Mtx} (h : MSz s n m M) {i j : Nat} (hi : i < n) (hj : j < m) : Sz s (atQ (rwM M i) j) := h.z _ (h.row hi) _ (getD_mem (by rw [h.m _ (h.row hi)]; exact hj))
theorem MSz.swap {s n m a g : Nat} {M : Mtx} (h : MSz s n m M) (ha : a < n) (hg : g < n) : MSz s n m (gSwap M a g) := by
  have key : ∀ r ∈ gSwap M a g, r ∈ M := fun r hr => by
    rcases mem_set' hr with hr | rfl
    · rcases mem_set' hr with hr | rfl
      · exact hr
      · exact h.row hg
    · exact h.row ha
  exact ⟨by unfold gSwap; rw [List.length_set, List.length_set, h.n], fun r hr => h.m r (key r hr), fun r hr => h.z r (key r hr)⟩
theorem swap_at {M : Mtx} {a g : Nat} (ha : a < M.length) (hg : g < M.length) : rwM (gSwap M a g) a = rwM M g := by
  unfold gSwap rwM
  rw [List.getD_eq_getElem?_getD, List.getD_eq_getElem?_getD, List.getElem?_set]
  split
  · rename_i e
    subst e
    rw [if_pos (by rw [List.length_set]; exact hg), List.getElem?_eq_getElem hg]
    rw [List.getD_eq_getElem?_getD, List.getElem?_eq_getElem hg]
    rfl
  · rw [List.getElem?_set_self ha]
    rfl
theorem gStep_sz {s n m a : Nat} {M N : Mtx} (h : MSz s n m M) (ha : a < n) (hm : n ≤ m) (e : gStep M a = some N) (hs : 1 ≤ s) : MSz (4 * s + 1) n m N := by
  unfold gStep at e
  cases hp : gPl M a with
  | nil => rw [hp] at e; cases e
  | cons g l =>
    rw [hp] at e
    cases e
    obtain ⟨h1, h2, h3⟩ := gPl_mem (M := M) (a := a) (g := g) (by rw [hp]; exact List.mem_cons_self)
    rw [h.n] at h2
    have hsw := h.swap ha h2
    have er : rwM (gSwap M a g) a = rwM M g := swap_at (by rw [h.n]; exact ha) (by rw [h.n]; exact h2)
    have hl : ((atQ (rwM (gSwap M a g) a) a)).num ≠ 0 := fun z => h3 (by rw [← er]; exact Rat.num_eq_zero.mp z)
    have hpv : ∀ x ∈ gPiv a (rwM (gSwap M a g) a), Sz (2 * s) x := fun x hx => by
      obtain ⟨y, hy, rfl⟩ := List.mem_map.mp hx
      exact sz_quo (hsw.z _ (hsw.row ha) _ hy) (hsw.at_ ha (Nat.lt_of_lt_of_le ha hm)) (by omega) hl
    have lpv : (gPiv a (rwM (gSwap M a g) a)).length = m := by unfold gPiv; rw [List.length_map, hsw.m _ (hsw.row ha)]
    refine ⟨by unfold gElim; rw [List.length_map, List.length_range, hsw.n], fun r hr => ?_, fun r hr x hx => ?_⟩
    · unfold gElim at hr
      obtain ⟨p, hp, rfl⟩ := List.mem_map.mp hr
      have hp := List.mem_range.mp hp
      rw [hsw.n] at hp
      split
      · exact lpv
      · unfold gRed
        rw [List.length_map, List.length_zip, lpv, hsw.m _ (hsw.row hp), Nat.min_self]
    · unfold gElim at hr
      obtain ⟨p, hp, rfl⟩ := List.mem_map.mp hr
      have hp := List.mem_range.mp hp
      rw [hsw.n] at hp
      split at hx
      · exact (hpv x hx).mono (by omega)
      · unfold gRed at hx
        obtain ⟨⟨u, v⟩, hu, rfl⟩ := List.mem_map.mp hx
        obtain ⟨u1, u2⟩ := List.of_mem_zip hu
        exact sz_sub (hsw.z _ (hsw.row hp) _ u1) (sz_mul (hsw.at_ hp (Nat.lt_of_lt_of_le ha hm)) (hpv _ u2) (Nat.le_refl _)) (by omega)
def szK (s : Nat) : Nat → Nat
  | 0 => s
  | k + 1 => 4 * szK s k + 1
theorem szK_pos {s : Nat} (h : 1 ≤ s) : ∀ k, 1 ≤ szK s k
  | 0 => h
  | k + 1 => by unfold szK; omega
theorem gRun_sz {s n m : Nat} {M : Mtx} (h : MSz s n m M) (hm : n ≤ m) (hs : 1 ≤ s) : ∀ k N, k ≤ n → gRun M k = some N → MSz (szK s k) n m N
  | 0, N, _, e => by cases e; exact h
  | k + 1, N, hk, e => by
    unfold gRun at e
    cases e0 : gRun M k with
    | none => rw [e0] at e; cases e
    | some N0 =>
      rw [e0] at e
      exact gStep_sz (gRun_sz h hm hs k N0 (by omega) e0) (by omega) hm e (szK_pos hs k)
end W1
set_option maxRecDepth 100000
set_option maxHeartbeats 1000000
set_option exponentiation.threshold 20000
namespace W1
open PySem PySem.Spec PyProof.Rows L2 NdefX TL NumText
/-! ### l[i], l[j] = a pair; the truth of a list -/
section
variable {F : Fx} {ρ : Ty} {ω w3 : Ow} {e x1 y1 x2 y2 : Expr} {R1 R2 : Rl} {Rs : List Rl} {pos p1 p2 tp : Pos} {kk : Nat} {q : Addr} {i j : Int} {n m : Nat} {K : Kn} {rest : List Stmt} {w : Ow}
theorem hb_swp (he : ER F ρ ω e (rTup [R1, R2]) ((q, oL Rs) :: w3)) (o1 : ER F ρ ((q, oL Rs) :: w3) x1 (rRef q) ((q, oL Rs) :: w3)) (i1 : ER F ρ ((q, oL Rs) :: w3) y1 (rInt i) ((q, oL Rs) :: w3)) (hn : ixN Rs.length i = some n)
    (o2 : ER F ρ ((q, oL (Rs.set n R1)) :: w3) x2 (rRef q) ((q, oL (Rs.set n R1)) :: w3)) (i2 : ER F ρ ((q, oL (Rs.set n R1)) :: w3) y2 (rInt j) ((q, oL (Rs.set n R1)) :: w3)) (hm : ixN Rs.length j = some m)
    (h : HB F ρ ((q, oL ((Rs.set n R1).set m R2)) :: w3) rest K)
    (a1 : ∀ v, assign (.Subscript x1 y1 p1) F.X.env v = (do
      let ov ← holding [v] (eval x1 F.X.env)
      let iv ← holding [v, ov] (eval y1 F.X.env)
      standAt p1
      holding [v, ov, iv] (setItem ov iv v)
      release [v, ov, iv] []) := by intro _; rfl)
    (a2 : ∀ v, assign (.Subscript x2 y2 p2) F.X.env v = (do
      let ov ← holding [v] (eval x2 F.X.env)
      let iv ← holding [v, ov] (eval y2 F.X.env)
      standAt p2
      holding [v, ov, iv] (setItem ov iv v)
      release [v, ov, iv] []) := by intro _; rfl)
    (hc : F.X.calm = true := by rfl) (hl : (assignEach [.Subscript x1 y1 p1, .Subscript x2 y2 p2] F.X.env).length = 2 := by rfl) (hst : (assignEach [.Subscript x1 y1 p1, .Subscript x2 y2 p2] F.X.env).findIdx? (·.1) = none := by rfl)
    (b1 : (assignEach [.Subscript x1 y1 p1, .Subscript x2 y2 p2] F.X.env).map (·.2) = assign (.Subscript x1 y1 p1) F.X.env :: (assignEach [.Subscript x2 y2 p2] F.X.env).map (·.2) := by rfl)
    (b2 : (assignEach [.Subscript x2 y2 p2] F.X.env).map (·.2) = assign (.Subscript x2 y2 p2) F.X.env :: (assignEach [] F.X.env).map (·.2) := by rfl)
    (hs : swapsWithSole [.Tuple [.Subscript x1 y1 p1, .Subscript x2 y2 p2] kk tp] e pos.line F.X.env = pure false := by rfl) (hw : swappedStores [.Tuple [.Subscript x1 y1 p1, .Subscript x2 y2 p2] kk tp] e F.X.env = pure none := by rfl)
    (h1 : (assignEach [.Tuple [.Subscript x1 y1 p1, .Subscript x2 y2 p2] kk tp] F.X.env).map (·.2) = [assign (.Tuple [.Subscript x1 y1 p1, .Subscript x2 y2 p2] kk tp) F.X.env] := by rfl) :
    HB F ρ ω (.Assign [.Tuple [.Subscript x1 y1 p1, .Subscript x2 y2 p2] kk tp] e pos :: rest) K := hb_cons fun σ G H D at_ sl ps => by
  refine sw_of (ps_asg pe_w (pg_tup hc (pgs_cons (pg_sub pe_w pe_w set_list a1) (pgs_cons (pg_sub pe_w pe_w set_list a2) pgs_nil b2) b1) hl hst) hs hw h1) (he σ G H at_ sl _ fun v G1 H1 s1 at1 r1 => ?_)
  obtain ⟨t, vs, rfl, ht, h2⟩ := r1
  obtain ⟨u1, u2, rfl, k1, k2⟩ := all2 h2
  refine ⟨t, [u1, u2], rfl, SqT.of (at1.gh _ _ ht), rfl, u1, [u2], rfl, o1 σ G1 H1 at1 (sl.up s1) _ fun x G2 H2 s2 at2 r2 => i1 σ G2 H2 at2 ((sl.up s1).up s2) _ fun y G3 H3 s3 at3 r3 => ?_⟩
  obtain ⟨_, _, ob, g1, us, e1, g2⟩ := at3.ow _ List.mem_cons_self
  subst e1
  refine ⟨q, us, i, n, r2, r3, g1, by rw [← g2.len]; exact hn, ?_⟩
  have s13 := (s1.trans s2).trans s3
  have atA : At F ((q, oL (Rs.set n R1)) :: w3) G3 (upd H3 q (.lst (us.set n u1))) := at3.chg ⟨_, rfl, g2.set n (R1.mo _ _ _ (s2.trans s3) k1)⟩
  refine ⟨u2, [], rfl, o2 σ G3 _ atA (sl.up s13) _ fun x' G4 H4 s4 at4 r4 => i2 σ G4 H4 at4 ((sl.up s13).up s4) _ fun y' G5 H5 s5 at5 r5 => ?_⟩
  obtain ⟨_, _, ob2, f1, ws, e2, f2⟩ := at5.ow _ List.mem_cons_self
  subst e2
  refine ⟨q, ws, j, m, r4, r5, f1, by rw [← f2.len, List.length_set]; exact hm, rfl, ?_⟩
  have s15 := (s13.trans s4).trans s5
  exact h σ G5 _ D (at5.chg ⟨_, rfl, f2.set m (R2.mo _ _ _ (((s2.trans s3).trans s4).trans s5) k2)⟩) (sl.up s15) (ps.up s15)
theorem tr_lstE (h : ER F ρ ω e (rLst Rs) w) (he : ∀ whole, isTrue e F.X.env whole = (do let v ← whole; standAt e.pos; holding [v] (truthy v)) := by intro _; rfl) : TR F ρ ω e (!decide (Rs = [])) w := tr_truth h (fun v G H at_ r => by
  obtain ⟨p, vs, rfl, h1, h2⟩ := r
  have : (!decide (Rs = [])) = !vs.isEmpty := by
    cases Rs with
    | nil => cases vs with
      | nil => rfl
      | cons v l => exact h2.elim
    | cons R l => cases vs with
      | nil => exact h2.elim
      | cons v l' => simp
  rw [this]
  exact .inl ⟨vs, SqL.of (at_.gh _ _ h1), rfl⟩) he
end
end W1
set_option maxRecDepth 100000
set_option maxHeartbeats 1000000
set_option exponentiation.threshold 20000
namespace W1
open PySem PySem.Spec PyProof.Rows L2 NdefX TL NumText
section
variable {F : Fx} {ρ : Ty} {ω w1 : Ow} {tg it elt c : Expr} {pos spos : Pos} {scope : Scope} {own : List (Str × Nat)} {g : TG} {ifs : List Expr} {α : Type}
theorem en_lc {xs : List α} {A B : α → Rl} {ρ' : α → Ty} (hit : IT F ρ ω tg it (xs.map A) w1) (hz : xs.length ≤ 100000) (own : List (Str × Nat)) (ok : BlkOk F.X.N F.X.env.scope scope own)
    (hpg : ∀ (s : Shared) (H : Hp) (C : Addr) (cl : List (Str × Addr)) (fp : List Addr), PG (F.X.blk s H scope (compEnvC scope cl C F.X.env) fp) tg g) (hge : ∀ (i : Nat) a, xs[i]? = some a → GEw g (own.map (·.2)) ρ (A a) (ρ' a))
    (he : ∀ (i : Nat) a, xs[i]? = some a → ∀ s H0 C cl fp d, ER (blkF F s H0 scope C cl fp) (ρ' a) (d :: w1) elt (B a) (d :: w1))
    (hN : F.X.N.Nodup) (hc : F.X.calm = true := by rfl) (hs : ∀ z, foldedSetIterable it F.X.env z = pure z := by intro _; rfl) : EN F ρ ω (.ListComp elt [⟨tg, it, [], 0⟩] scope pos) (oL (xs.map B)) w1 := fun σ G H at_ sl Q q => by
  obtain ⟨wi, hpi, hwi⟩ := hit
  refine ew_of (pe_lc hc hN hpi ok hpg (fun _ _ _ _ _ => pts_nil) (te := fun σ H Q => ∀ s H0 C cl fp, EW (F.X.blk s H0 scope (compEnvC scope cl C F.X.env) fp) elt σ H Q) (fun _ _ _ _ _ => ⟨fun pins s σ H Q I h => h _ _ _ _ _ pins s I⟩) hs) ?_
  refine lc_genN (p := fun _ => true) (tt := tYes) hwi hz hge (fun i a h d σ2 G H a1 s1 Q q => q G H (Same.refl _) a1) (fun i a h _ => he i a h) at_ sl fun v G2 H2 hM s2 a2 => q v G2 H2 hM s2 ?_
  rw [filt_true] at a2
  exact a2
/-- y = [..], a new list that stays owned -/
theorem hb_setLcN {K : Kn} {rest : List Stmt} {y : Str} {py : Pos} {xs : List α} {A B : α → Rl} {ρ' : α → Ty} (j : Nat) (hit : IT F ρ ω tg it (xs.map A) w1) (hz : xs.length ≤ 100000) (own : List (Str × Nat)) (ok : BlkOk F.X.N F.X.env.scope scope own)
    (hpg : ∀ (s : Shared) (H : Hp) (C : Addr) (cl : List (Str × Addr)) (fp : List Addr), PG (F.X.blk s H scope (compEnvC scope cl C F.X.env) fp) tg g) (hge : ∀ (i : Nat) a, xs[i]? = some a → GEw g (own.map (·.2)) ρ (A a) (ρ' a))
    (he : ∀ (i : Nat) a, xs[i]? = some a → ∀ s H0 C cl fp d, ER (blkF F s H0 scope C cl fp) (ρ' a) (d :: w1) elt (B a) (d :: w1)) (h : ∀ q, q ∉ F.M → HB F (ρ.set j (some (rRef q))) ((q, oL (xs.map B)) :: w1) rest K)
    (hN : F.X.N.Nodup) (hsw : swapsWith (.ListComp elt [⟨tg, it, [], 0⟩] scope pos) (some (.Name y py)) spos.line F.X.env = pure true) (hc : F.X.calm = true := by rfl) (hy : F.X.N[j]? = some y := by rfl) (hyl : F.X.env.scope.names.lookup y = some .local := by rfl) (hs : ∀ z, foldedSetIterable it F.X.env z = pure z := by intro _; rfl) :
    HB F ρ ω (.Assign [.Name y py] (.ListComp elt [⟨tg, it, [], 0⟩] scope pos) spos :: rest) K := hb_cons fun σ G H D at_ sl ps => by
  obtain ⟨wi, hpi, hwi⟩ := hit
  refine sw_of (ps_setLc hc hN hy hyl hsw hpi ok hpg (fun _ _ _ _ _ => pts_nil) (te := fun σ H Q => ∀ s H0 C cl fp, EW (F.X.blk s H0 scope (compEnvC scope cl C F.X.env) fp) elt σ H Q) (fun _ _ _ _ _ => ⟨fun pins s σ H Q I h => h _ _ _ _ _ pins s I⟩) hs) ?_
  refine lc_genN (p := fun _ => true) (tt := tYes) hwi hz hge (fun i a h d σ2 G H a1 s1 Q q => q G H (Same.refl _) a1) (fun i a h _ => he i a h) at_ sl fun q G2 H2 hM s2 a2 => ?_
  rw [filt_true] at a2
  exact h q hM _ G2 H2 D a2 ((sl.up s2).set j rfl) (ps.up s2)
end
/-! ### equations solved -/
def mtR (R : Addr) (N : Mtx) : List Rl := N.map fun r => rLst (r.map (rRat R))
def pRed (R : Addr) : Pre := fun Rs w o w' => ∃ line piv, ∃ a s : Nat, line.length = piv.length ∧ a < line.length ∧ line.length ≤ 1000 ∧ (∀ x ∈ line, Sz s x) ∧ (∀ x ∈ piv, Sz (2 * s) x) ∧ 4 * s + 1 ≤ 3900 ∧ Rs = [rLst (line.map (rRat R)), rLst (piv.map (rRat R)), rInt ((a : Nat) : Int)] ∧ w = [] ∧ w' = [] ∧ o = .ok (rLst ((gRed a line piv).map (rRat R)))
def mkM (rows : List (List Rat)) (goals : List Rat) : Mtx := (rows.zip goals).map fun p => p.1 ++ [p.2]
def slvR (R : Addr) : Option (List Rat) → Rl
  | none => rNon
  | some l => rLst (l.map (rRat R))
structure SlG (n s : Nat) (rows : List (List Rat)) (goals : List Rat) : Prop where
  r : rows.length = n
  g : goals.length = n
  n4 : n ≤ 4
  m : ∀ r ∈ rows, r.length = n
  z : ∀ r ∈ rows, ∀ x ∈ r, Sz s x
  y : ∀ x ∈ goals, Sz s x
  s1 : 1 ≤ s
  sk : szK s n ≤ 900
def pSolvd (R : Addr) : Pre := fun Rs w o w' => ∃ rows goals n s, SlG n s rows goals ∧ Rs = [rLst (mtR R rows), rLst (goals.map (rRat R))] ∧ w = [] ∧ w' = [] ∧ o = .ok (slvR R (slv (mkM rows goals)))
theorem SlG.mx {n s : Nat} {rows : List (List Rat)} {goals : List Rat} (h : SlG n s rows goals) : MSz s n (n + 1) (mkM rows goals) := by
  refine ⟨by unfold mkM; rw [List.length_map, List.length_zip, h.r, h.g, Nat.min_self], fun r hr => ?_, fun r hr x hx => ?_⟩
  · obtain ⟨⟨u, v⟩, hp, rfl⟩ := List.mem_map.mp hr
    obtain ⟨h1, h2⟩ := List.of_mem_zip hp
    show (u ++ [v]).length = _
    rw [List.length_append, h.m _ h1]; rfl
  · obtain ⟨⟨u, v⟩, hp, rfl⟩ := List.mem_map.mp hr
    obtain ⟨h1, h2⟩ := List.of_mem_zip hp
    rcases List.mem_append.mp (show x ∈ u ++ [v] from hx) with k | k
    · exact h.z _ h1 _ k
    · rw [List.mem_singleton.mp k]; exact h.y _ h2
theorem gRun_none {M : Mtx} {k : Nat} (h : gRun M k = none) : ∀ j, k ≤ j → gRun M j = none
  | 0, hj => by rw [Nat.le_zero.mp hj] at h; exact h
  | j + 1, hj => by
    rcases Nat.lt_or_ge j k with l | l
    · rw [show k = j + 1 by omega] at h; exact h
    · unfold gRun; rw [gRun_none h j l]; rfl
theorem szK_mono {s : Nat} : ∀ {i j : Nat}, i ≤ j → szK s i ≤ szK s j
  | i, 0, h => by rw [Nat.le_zero.mp h]; exact Nat.le_refl _
  | i, j + 1, h => by
    rcases Nat.lt_or_ge i (j + 1) with l | l
    · have := szK_mono (s := s) (show i ≤ j by omega)
      show szK s i ≤ 4 * szK s j + 1
      omega
    · rw [show i = j + 1 by omega]; exact Nat.le_refl _
theorem zip_rats {R : Addr} {line piv : List Rat} : zipR (line.map (rRat R)) (piv.map (rRat R)) = (line.zip piv).map fun p => rTup [rRat R p.1, rRat R p.2] := by
  unfold zipR
  induction line generalizing piv with
  | nil => rfl
  | cons x l ih =>
    cases piv with
    | nil => rfl
    | cons y p =>
      rw [List.map_cons, List.map_cons, List.zipWith_cons_cons, ih]
      rfl
theorem zip_rows {R : Addr} {rows : List (List Rat)} {goals : List Rat} : zipR (mtR R rows) (goals.map (rRat R)) = (rows.zip goals).map fun p => rTup [rLst (p.1.map (rRat R)), rRat R p.2] := by
  unfold zipR mtR
  induction rows generalizing goals with
  | nil => rfl
  | cons x l ih =>
    cases goals with
    | nil => rfl
    | cons y p =>
      rw [List.map_cons, List.map_cons, List.zipWith_cons_cons, ih]
      rfl
theorem numR_M {R : Addr} {N : Mtx} : numR (mtR R N) = (List.range N.length).map fun p : Nat => rTup [rInt (p : Int), rLst ((rwM N p).map (rRat R))] := by
  refine List.ext_getElem? fun i => ?_
  rcases Nat.lt_or_ge i N.length with h | h
  · unfold numR mtR rwM
    rw [List.getElem?_map, List.getElem?_zipIdx, List.getElem?_map, List.getElem?_map, List.getElem?_range h, List.getElem?_eq_getElem h]
    simp [List.getD_eq_getElem?_getD, List.getElem?_eq_getElem h]
  · rw [List.getElem?_eq_none (by rw [numR_len]; unfold mtR; rw [List.length_map]; exact h), List.getElem?_eq_none (by rw [List.length_map, List.length_range]; exact h)]
theorem mx_get {R : Addr} {N : Mtx} {i : Nat} (h : i < N.length) : (mtR R N)[i]? = some (rLst ((rwM N i).map (rRat R))) := by
  unfold mtR rwM
  rw [List.getElem?_map, List.getElem?_eq_getElem h, List.getD_eq_getElem?_getD, List.getElem?_eq_getElem h]
  rfl
theorem rt_get {R : Addr} {l : List Rat} {i : Nat} (h : i < l.length) : (l.map (rRat R))[i]? = some (rRat R (atQ l i)) := by
  unfold atQ
  rw [List.getElem?_map, List.getElem?_eq_getElem h, List.getD_eq_getElem?_getD, List.getElem?_eq_getElem h]
  rfl
theorem mx_set {R : Addr} {N : Mtx} {a : Nat} {r : List Rat} : (mtR R N).set a (rLst (r.map (rRat R))) = mtR R (N.set a r) := by
  unfold mtR
  rw [List.map_set]
section
variable {P : Program} {w : World} {K : PySem.W.Frag} {mg : Str → Option Value} {base : Heap} {C M R f : Addr} {fd : FuncData}
theorem kf_reduced (Fn : Fun K "reduced" "reduced" s_reduced f fd) (X : RatX K mg R) (Ts : Ko P w K mg base R "__sub__" 5 (pSub R)) (Tm : Ko P w K mg base R "__mul__" 5 (pMul R)) (zp : mg "zip" = none) : FnOk P w K mg base (L2.CX P w) 6 f fd P_reduced (spM (pRed R)) := by
  refine fn_ok Fn c_reduced (fun _ _ _ _ ⟨_, _, _, _, _, _, _, _, _, _, h, _⟩ => by rw [h]; rfl) ?_
  rintro cdv A outer s0 H E ⟨_, G0, H0, M', W', tk⟩ hr rfl Rs ω o ω' ⟨line, piv, a, s, hl, ha, h1, hs, hp, hz, rfl, rfl, rfl, rfl⟩
  have nd := c_reduced.nd
  refine hb_ret (er_eq (er_lc (xs := line.zip piv) (A := fun p => rTup [rRat R p.1, rRat R p.2]) (B := fun p => rRat R (p.1 - atQ line a * p.2)) (by rw [← zip_rats]; exact it_zip2 (b := true) (ar_cons (er_v 0 rfl rfl) (ar_cons (er_v 1 rfl rfl) ar_nil)) (by rw [List.length_map, List.length_map, hl]) rfl zp) (by rw [List.length_zip]; omega) [("number", 3), ("other", 4)] (blkOk_by (N := N_reduced) (sc := defScope s_reduced) (by decide +kernel)) (fun _ _ _ _ _ => pg_tup rfl (pgs_cons (pg_name (i := 3) nd rfl (Or.inl rfl)) (pgs_cons (pg_name (i := 4) nd rfl (Or.inl rfl)) pgs_nil))) (fun i g h => gew_tup2) (fun i p hi s1 H1 cc cl' fp d => ?_) nd) (by unfold gRed; rw [List.map_map]; rfl)) ⟨_, [], rfl, fun v G h => h, rfl⟩
  obtain ⟨m1, m2⟩ := List.of_mem_zip (List.mem_of_getElem? hi : (p.1, p.2) ∈ line.zip piv)
  have sa : Sz s (atQ line a) := hs _ (getD_mem ha)
  have sm : Sz (3 * s) (atQ line a * p.2) := sz_mul sa (hp _ m2) (by omega)
  exact er_bin (er_v 3 rfl rfl) (er_bin (er_ix (R := rRat R (atQ line a)) (er_v 0 rfl rfl) (er_v 2 rfl rfl) (iop_L (n := a) (ixN_at (by rw [List.length_map]; exact ha)) (rt_get ha))) (er_v 4 rfl rfl) (bop_o Tm X.cx (hr.mono (by decide)) (pMulOk (sa.mono (by omega)) ((hp _ m2).mono (by omega))))) (bop_o Ts X.cx (hr.mono (by decide)) (pSubOk ((hs _ m1).mono (by omega)) (sm.mono (by omega))))
theorem kf_solvedL (Fn : Fun K "solved" "solved" s_solved f fd) (X : RatX K mg R) (Tb : Ko P w K mg base R "__bool__" 5 (pBool R)) (Tq : Km P w K mg base R "quotient" 5 (pQuo R M)) (Tr : Kf1 P w K mg base "reduced" 6 (pRed R)) (len : mg "len" = none) (rg : mg "range" = none) (zp : mg "zip" = none) (en : mg "enumerate" = none) : FnOk P w K mg base (L2.CX P w) 7 f fd P_solved (spM (pSolvd R)) := by
  refine fn_ok Fn c_solved (fun _ _ _ _ ⟨_, _, _, _, _, h, _⟩ => by rw [h]; rfl) ?_
  rintro cdv A outer s0 H E ⟨_, G0, H0, M', W', tk⟩ hr rfl Rs ω o ω' ⟨rows, goals, n, s, sl, rfl, rfl, rfl, rfl⟩
  have nd := c_solved.nd
  have r5 := hr.mono (show 5 ≤ 6 by decide)
  have mx := sl.mx
  have n4 := sl.n4
  have e0 : (rows.zip goals).map (fun p => rLst ((p.1 ++ [p.2]).map (rRat R))) = mtR R (mkM rows goals) := by unfold mtR mkM; rw [List.map_map]; rfl
  refine hb_setNA 2 rfl (en_lc (xs := rows.zip goals) (A := fun p => rTup [rLst (p.1.map (rRat R)), rRat R p.2]) (B := fun p => rLst ((p.1 ++ [p.2]).map (rRat R))) (by rw [← zip_rows]; exact it_zip2 (b := true) (ar_cons (er_v 0 rfl rfl) (ar_cons (er_v 1 rfl rfl) ar_nil)) (by unfold mtR; rw [List.length_map, List.length_map, sl.r, sl.g]) rfl zp) (by rw [List.length_zip, sl.r]; omega) [("row", 3), ("goal", 4)] (blkOk_by (N := N_solved) (sc := defScope s_solved) (by decide +kernel)) (fun _ _ _ _ _ => pg_tup rfl (pgs_cons (pg_name (i := 3) nd rfl (Or.inl rfl)) (pgs_cons (pg_name (i := 4) nd rfl (Or.inl rfl)) pgs_nil))) (fun i g h => gew_tup2) (fun i p hi s1 H1 cc cl' fp d => er_eq (er_lst (Rs := p.1.map (rRat R) ++ [rRat R p.2]) (ar_star (er_v 3 rfl rfl) isq_L (ar_cons (er_v 4 rfl rfl) ar_nil)) (by
    have := sl.m _ (List.of_mem_zip (List.mem_of_getElem? hi : (p.1, p.2) ∈ rows.zip goals)).1
    rw [List.length_append, List.length_map, this]
    show n + 1 ≤ _
    omega)) (by rw [List.map_append]; rfl)) nd) (fun q hq => ?_)
  rw [e0]
  generalize hM : mkM rows goals = M0 at mx
  refine hb_for (it_rng1 (n := (n : Int)) (ar_cons (er_eq (er_bA (ar_cons (er_v 2 rfl rfl) ar_nil) len bt_len (cop_lenO List.mem_cons_self)) (by unfold mtR; rw [List.length_map, mx.n])) ar_nil) rfl rg (by omega)) (fun k ρ w => ∃ q N z3 z4 z5 z6 z7 z8 z9 z10 z11, q ∉ M' ∧ gRun M0 k = some N ∧ ρ = [some (rLst (mtR R rows)), some (rLst (goals.map (rRat R))), some (rRef q), z3, z4, z5, z6, z7, z8, z9, z10, z11] ∧ w = [(q, oL (mtR R N))]) ⟨q, M0, _, _, _, _, _, _, _, _, _, hq, rfl, rfl, rfl⟩ ?_ ?_ (passes_of rfl) (pg_name (i := 5) nd rfl (Or.inr rfl))
  · rintro k ρ w S hS ⟨q, N, z3, z4, z5, z6, z7, z8, z9, z10, z11, hq, hN, rfl, rfl⟩
    obtain ⟨hk, rfl⟩ := rng_get hS
    have hk : k < n := by omega
    rw [show (0 : Int) + (k : Int) = ((k : Nat) : Int) by omega]
    have nz := gRun_sz mx (by omega) sl.s1 k N (by omega) hN
    have hz : 4 * szK s k + 1 ≤ 900 := Nat.le_trans (szK_mono (show k + 1 ≤ n by omega)) sl.sk
    refine ⟨_, ge_name, ?_⟩
    have er : rng ((k : Nat) : Int) ((n : Int) - ((k : Nat) : Int)).toNat = (List.range (n - k)).map fun j : Nat => rInt (((k : Nat) : Int) + (j : Int)) := by
      rw [rng_map]
      congr 2
      omega
    refine hb_setLcf (xs := List.range (n - k)) (A := fun j : Nat => rInt (((k : Nat) : Int) + (j : Int))) (B := fun j : Nat => rInt (((k : Nat) : Int) + (j : Int))) (p := fun j : Nat => (atQ (rwM N (k + j)) k).num != 0) 6 (by rw [← er]; exact it_rng2 (ar_cons (er_v 5 rfl rfl) (ar_cons (er_eq (er_bA (ar_cons (er_v 2 rfl rfl) ar_nil) len bt_len (cop_lenO List.mem_cons_self)) (by unfold mtR; rw [List.length_map, nz.n])) ar_nil)) rfl rg (by omega)) (by rw [List.length_range]; omega) [("place", 7)] (blkOk_by (N := N_solved) (sc := defScope s_solved) (by decide +kernel)) (fun _ _ _ _ _ => pg_name (i := 7) nd rfl (Or.inl rfl)) (fun i g h => gew_name)
      (fun i j hj s1 H1 cc cl' fp d => ?_) (fun i j hj _ s1 H1 cc cl' fp d => er_v 7 rfl rfl) ?_ nd rfl
    · have hj := List.mem_range.mp (List.mem_of_getElem? hj)
      have l1 : (rwM N (k + j)).length = n + 1 := nz.m _ (nz.row (by omega))
      exact tr_o Tb r5 (er_ix (R := rRat R (atQ (rwM N (k + j)) k)) (er_ixO (R := rLst ((rwM N (k + j)).map (rRat R))) (n := k + j) (er_v 2 rfl rfl) (er_v 7 rfl rfl) (List.mem_cons_of_mem _ List.mem_cons_self) (by rw [show ((k : Nat) : Int) + (j : Int) = ((k + j : Nat) : Int) by omega]; exact ixN_at (by unfold mtR; rw [List.length_map, nz.n]; omega)) (mx_get (by rw [nz.n]; omega))) (er_v 5 rfl rfl) (iop_L (n := k) (ixN_at (by rw [List.length_map, l1]; omega)) (rt_get (by rw [l1]; omega)))) pBoolOk
    have eg : ((List.range (n - k)).filter fun j : Nat => (atQ (rwM N (k + j)) k).num != 0).map (fun j : Nat => rInt (((k : Nat) : Int) + (j : Int))) = (gPl N k).map fun g : Nat => rInt ((g : Nat) : Int) := by
      unfold gPl
      rw [List.map_map, nz.n]
      refine List.map_congr_left fun j _ => ?_
      show rInt _ = rInt _
      congr 1
    rw [eg]
    have gmem := fun g (hg : g ∈ gPl N k) => gPl_mem hg
    cases hp : gPl N k with
    | nil =>
      refine hb_if (b := true) (w1 := [(q, oL (mtR R N))]) (tr_to (tr_not (tr_lstE (er_v 6 rfl rfl))) (by rfl)) (fun _ => ?_) (fun z => Bool.noConfusion z)
      have e2 : slv M0 = none := by
        unfold slv
        rw [mx.n, gRun_none (k := k + 1) (by unfold gRun; rw [hN]; show gStep N k = none; unfold gStep; rw [hp]) n (by omega)]
        rfl
      exact hb_ret er_non ⟨_, [(q, oL (mtR R N))], rfl, fun v G h => by rw [e2]; exact h, rfl⟩
    | cons g l =>
      obtain ⟨g1, g2, g3⟩ := gmem g (by rw [hp]; exact List.mem_cons_self)
      rw [nz.n] at g2
      refine hb_if (b := false) (w1 := [(q, oL (mtR R N))]) (tr_to (tr_not (tr_lstE (er_v 6 rfl rfl))) (by rfl)) (fun z => Bool.noConfusion z) (fun _ => hb_nil ?_)
      have kN : (mtR R N).length = n := by unfold mtR; rw [List.length_map, nz.n]
      have i0 : ∀ {w : Ow} {F : Fx}, Iop F w (rLst ((g :: l).map fun g : Nat => rInt ((g : Nat) : Int))) (rInt 0) (rInt ((g : Nat) : Int)) := fun {_ _} => iop_L (n := 0) (ixN_at (k := 0) (by simp)) rfl
      refine hb_swp (n := k) (m := g) (i := ((k : Nat) : Int)) (j := ((g : Nat) : Int)) (R1 := rLst ((rwM N g).map (rRat R))) (R2 := rLst ((rwM N k).map (rRat R))) (Rs := mtR R N) (w3 := []) (er_tup (Rs := [rLst ((rwM N g).map (rRat R)), rLst ((rwM N k).map (rRat R))]) (ar_cons (er_ixO (n := g) (er_v 2 rfl rfl) (er_ix (er_v 6 rfl rfl) er_int i0) List.mem_cons_self (ixN_at (by rw [kN]; exact g2)) (mx_get (by rw [nz.n]; exact g2))) (ar_cons (er_ixO (n := k) (er_v 2 rfl rfl) (er_v 5 rfl rfl) List.mem_cons_self (ixN_at (by rw [kN]; exact hk)) (mx_get (by rw [nz.n]; exact hk))) ar_nil)) (Nat.le_of_ble_eq_true rfl)) (er_v 2 rfl rfl) (er_v 5 rfl rfl) (ixN_at (by rw [kN]; exact hk)) (er_v 2 rfl rfl) (er_ix (er_v 6 rfl rfl) er_int i0) (ixN_at (by rw [kN]; exact g2)) ?_
      have es : ((mtR R N).set k (rLst ((rwM N g).map (rRat R)))).set g (rLst ((rwM N k).map (rRat R))) = mtR R (gSwap N k g) := by rw [mx_set, mx_set]; rfl
      rw [es]
      have sw := nz.swap hk g2
      have ea : rwM (gSwap N k g) k = rwM N g := swap_at (by rw [nz.n]; exact hk) (by rw [nz.n]; exact g2)
      have gs : gStep N k = some (gElim k (gSwap N k g) (gPiv k (rwM (gSwap N k g) k))) := by unfold gStep; rw [hp]
      have gr : gRun M0 (k + 1) = some (gElim k (gSwap N k g) (gPiv k (rwM (gSwap N k g) k))) := by unfold gRun; rw [hN]; exact gs
      have hd : (atQ (rwM (gSwap N k g) k) k).num ≠ 0 := fun z => g3 (by rw [← ea]; exact Rat.num_eq_zero.mp z)
      generalize gSwap N k g = S0 at sw gr hd
      have kS : (mtR R S0).length = n := by unfold mtR; rw [List.length_map, sw.n]
      have lrow : (rwM S0 k).length = n + 1 := sw.m _ (sw.row hk)
      have sd := sw.at_ hk (show k < n + 1 by omega)
      refine hb_setA (R := rRat R (atQ (rwM S0 k) k)) 8 rfl (er_ix (er_ixO (R := rLst ((rwM S0 k).map (rRat R))) (n := k) (er_v 2 rfl rfl) (er_v 5 rfl rfl) List.mem_cons_self (ixN_at (by rw [kS]; exact hk)) (mx_get (by rw [sw.n]; exact hk))) (er_v 5 rfl rfl) (iop_L (n := k) (ixN_at (by rw [List.length_map, lrow]; omega)) (rt_get (by rw [lrow]; omega)))) ?_
      refine hb_setA (R := rLst ((gPiv k (rwM S0 k)).map (rRat R))) 9 rfl (er_eq (er_lc (xs := rwM S0 k) (A := rRat R) (B := fun x => rRat R (x / atQ (rwM S0 k) k)) (it_lst (er_ixO (R := rLst ((rwM S0 k).map (rRat R))) (n := k) (er_v 2 rfl rfl) (er_v 5 rfl rfl) List.mem_cons_self (ixN_at (by rw [kS]; exact hk)) (mx_get (by rw [sw.n]; exact hk)))) (by rw [lrow]; omega) [("number", 10)] (blkOk_by (N := N_solved) (sc := defScope s_solved) (by decide +kernel)) (fun _ _ _ _ _ => pg_name (i := 10) nd rfl (Or.inl rfl)) (fun i g h => gew_name) (fun i x hx s1 H1 cc cl' fp d => er_m Tq X.cx.cls r5 (er_v 10 rfl rfl) (ar_cons (er_v 8 rfl rfl) ar_nil) (pQuoOk ((sw.z _ (sw.row hk) _ (List.mem_of_getElem? hx)).mono (by omega)) (sd.mono (by omega)) hd)) nd) (by unfold gPiv; rw [List.map_map]; rfl)) ?_
      refine hb_pub 2 rfl hq pub_lst ?_
      have hpv : ∀ x ∈ gPiv k (rwM S0 k), Sz (2 * szK s k) x := fun x hx => by
        obtain ⟨y, hy, rfl⟩ := List.mem_map.mp hx
        exact sz_quo (sw.z _ (sw.row hk) _ hy) sd (by omega) hd
      have lpv : (gPiv k (rwM S0 k)).length = n + 1 := by unfold gPiv; rw [List.length_map, lrow]
      refine hb_setNA 2 rfl (en_lc (xs := List.range n) (A := fun p : Nat => rTup [rInt (p : Int), rLst ((rwM S0 p).map (rRat R))]) (B := fun p : Nat => rLst ((if p = k then gPiv k (rwM S0 k) else gRed k (rwM S0 p) (gPiv k (rwM S0 k))).map (rRat R))) (by rw [← sw.n, ← numR_M]; exact it_enumL (ar_cons (er_v 2 rfl rfl) ar_nil) rfl en) (by rw [List.length_range]; omega) [("place", 7), ("line", 11)] (blkOk_by (N := N_solved) (sc := defScope s_solved) (by decide +kernel)) (fun _ _ _ _ _ => pg_tup rfl (pgs_cons (pg_name (i := 7) nd rfl (Or.inl rfl)) (pgs_cons (pg_name (i := 11) nd rfl (Or.inl rfl)) pgs_nil))) (fun i g h => gew_tup2) (fun i p hp s1 H1 cc cl' fp d => ?_) nd) (fun q2 hq2 => ?_)
      · have hp := List.mem_range.mp (List.mem_of_getElem? hp)
        have lp : (rwM S0 p).length = n + 1 := sw.m _ (sw.row hp)
        refine er_ifx (k := decide ((p : Int) = ((k : Nat) : Int))) (tr_cmp (er_v 7 rfl rfl) (er_v 5 rfl rfl) bop_eqI) (fun e => ?_) (fun e => ?_)
        · have e : p = k := by have := of_decide_eq_true e; omega
          exact er_eq (er_v 9 rfl rfl) (by rw [if_pos e])
        · have e : ¬ p = k := by have := of_decide_eq_false e; omega
          exact er_eq (er_fA Tr hr (ar_cons (er_v 11 rfl rfl) (ar_cons (er_v 9 rfl rfl) (ar_cons (er_v 5 rfl rfl) ar_nil))) ⟨rwM S0 p, gPiv k (rwM S0 k), k, szK s k, by rw [lp, lpv], by rw [lp]; omega, by rw [lp]; omega, sw.z _ (sw.row hp), hpv, by omega, rfl, rfl, rfl, rfl⟩) (by rw [if_neg e])
      · refine hb_nil ⟨q2, _, _, _, _, _, _, _, _, _, _, hq2, gr, rfl, ?_⟩
        unfold mtR gElim
        rw [List.map_map, sw.n]
        rfl
  · rintro ρ w ⟨q, N, z3, z4, z5, z6, z7, z8, z9, z10, z11, hq, hN, rfl, rfl⟩
    rw [rng_len, Int.toNat_natCast] at hN
    have nz := gRun_sz mx (by omega) sl.s1 n N (Nat.le_refl _) hN
    have e2 : slv M0 = some (N.map fun r => atQ r (r.length - 1)) := by unfold slv; rw [mx.n, hN]; rfl
    refine hb_pub 2 rfl hq pub_lst ?_
    refine hb_ret (er_eq (S := slvR R (slv M0)) (er_lc (xs := N) (A := fun r => rLst (r.map (rRat R))) (B := fun r => rRat R (atQ r (r.length - 1))) (it_lst (er_v 2 rfl rfl)) (by rw [nz.n]; omega) [("line", 11)] (blkOk_by (N := N_solved) (sc := defScope s_solved) (by decide +kernel)) (fun _ _ _ _ _ => pg_name (i := 11) nd rfl (Or.inl rfl)) (fun i g h => gew_name) (fun i r hr' s1 H1 cc cl' fp d => ?_) nd) (by rw [e2]; show _ = rLst ((N.map _).map _); rw [List.map_map]; rfl)) ⟨_, [], rfl, fun v G h => h, rfl⟩
    have lr : r.length = n + 1 := nz.m _ (List.mem_of_getElem? hr')
    exact er_ix (er_v 11 rfl rfl) (er_un er_int uop_neg) (iop_L (n := r.length - 1) (by
      unfold ixN
      rw [List.length_map, lr, if_neg (by decide), if_pos (by omega)]
      congr 1
      omega) (rt_get (by omega)))
end
end W1
set_option maxRecDepth 100000
set_option maxHeartbeats 1000000
set_option exponentiation.threshold 20000
namespace W1
open PySem PySem.Spec PyProof.Rows L2 NdefX TL NumText
/-! ### owned things: a method that raises, len -/
section
variable {F : Fx} {ρ : Ty} {ω w w1 w2 wc wc' : Ow} {e o : Expr} {es : List Expr} {R S : Rl} {Rs : List Rl} {P : Er} {pos p apos : Pos} {x m : Str} {k : Nat} {C q : Addr} {pre : Pre} {fs : List (Str × Rl)}
theorem ex_mO {pl : Sem Bool} (T : Km F.X.prog F.X.w F.X.K F.X.mg F.X.base C m k pre) (hc : Cls F.X.K C) (hr : Room k F.X.A) (ho : ER F ρ ω o (rRef q) w1) (hm : (q, oIns C fs) ∈ w1) (ha : AR F ρ w1 (e :: es) Rs (wc ++ w)) (hp : pre (rRef q :: Rs) wc (.error P) wc') (hk : keys wc' = keys wc := by rfl) (hno : fs.lookup m = none := by rfl)
    (hst : starEach (e :: es) F.X.env = (false, eval e F.X.env) :: starEach es F.X.env := by rfl) (hpl : (backTo pos (starEach es F.X.env)).any (·.1) = false := by rfl)
    (ht : eval (.Call (.Attribute o m apos) (e :: es) [] pos) F.X.env = (do
      let ov ← eval o F.X.env
      standAt apos.atName
      let (f, first) ← holding [ov] (getMethod ov m pl)
      callWith pos f first (backTo pos (starEach (e :: es) F.X.env)) (backToKw pos (keywordEach [] F.X.env))) := by rfl) :
    EX F ρ ω (.Call (.Attribute o m apos) (e :: es) [] pos) P (wc' ++ w) := fun σ G H at_ sl z => by
  obtain ⟨f, fd, ps, hM, hb, Fn⟩ := T
  refine ew_of (pe_methS pe_w hc hM Fn hr hb passW pa_w hst hpl ht) (ho σ G H at_ sl _ fun v G1 H1 s1 a1 r1 => ?_)
  cases (show v = V.ref q from r1)
  obtain ⟨_, _, ob, h1, dx, vs, e1, h2⟩ := a1.ow _ hm
  subst e1
  refine ⟨q, dx, vs, rfl, h1, h2.lookN hno, ha σ G1 H1 a1 (sl.up s1) _ fun us G2 H2 s2 a2 r2 => ?_⟩
  exact sp_er (Rs := rRef q :: Rs) a2 ⟨rfl, r2⟩ hp hk fun cls d G3 H3 s3 a3 r3 => z cls d G3 H3 ((s1.trans s2).trans s3) a3 r3
theorem cop_oLO {n : Nat} (T : Ko F.X.prog F.X.w F.X.K F.X.mg F.X.base C "__len__" k pre) (hr : Room (k + 1) F.X.A) (hp : pre [rRef q] [(q, oIns C fs)] (.ok (rInt (n : Int))) [(q, oIns C fs)]) (hn : n < 2 ^ 62) : Cop F ((q, oIns C fs) :: w) (.builtin "len") [rRef q] (rInt (n : Int)) := by
  obtain ⟨f, fd, ps, h1, h2, h3⟩ := T
  refine ⟨_, call_ownL h1 h3 hr h2, fun xs G H at_ hx Q z => ?_⟩
  obtain ⟨x, rfl, hx1⟩ := all1 hx
  cases (show x = V.ref q from hx1)
  obtain ⟨_, _, ob, g1, dx, vs, e1, g2⟩ := at_.ow _ List.mem_cons_self
  subst e1
  exact ⟨q, dx, vs, rfl, g1, sp_ok (wc := [(q, oIns C fs)]) (w := w) (Rs := [rRef q]) at_ (mk1 rfl) hp rfl fun v G2 H2 s a r2 => ⟨n, r2, hn, z _ G2 H2 s a rfl⟩⟩
end
/-! ### products of lines -/
def dotQ (a b : List Rat) : Rat := sumR ((a.zip b).map fun p => p.1 * p.2)
def pProd (R : Addr) : Pre := fun Rs w o w' => ∃ a b, ∃ s : Nat, a.length = b.length ∧ a.length ≤ 4 ∧ (∀ x ∈ a, Sz s x) ∧ (∀ x ∈ b, Sz s x) ∧ s ≤ 450 ∧ Rs = [rLst (a.map (rRat R)), rLst (b.map (rRat R))] ∧ w = [] ∧ w' = [] ∧ o = .ok (rRat R (dotQ a b))
theorem dot_sz {a b : List Rat} {s : Nat} (h1 : a.length ≤ 4) (ha : ∀ x ∈ a, Sz s x) (hb : ∀ x ∈ b, Sz s x) (hs : s ≤ 450) : (∀ q ∈ (a.zip b).map fun p => p.1 * p.2, small q) ∧ (∀ k, small (sumR (((a.zip b).map fun p => p.1 * p.2).take k))) ∧ Sz 3700 (dotQ a b) := by
  have sz : ∀ q ∈ (a.zip b).map fun p => p.1 * p.2, Sz 900 q := fun q hq => by
    obtain ⟨⟨u, v⟩, hp, rfl⟩ := List.mem_map.mp hq
    obtain ⟨m1, m2⟩ := List.of_mem_zip hp
    exact sz_mul (ha _ m1) (hb _ m2) (by omega)
  obtain ⟨t1, t2, t3⟩ := sumR_ok (n := 4) sz (by rw [List.length_map, List.length_zip]; omega)
  exact ⟨t1, t2, t3.mono (by decide)⟩
/-! ### lots of items -/
def lotsF {α : Type} : Nat → List α → List (List α)
  | 0, _ => [[]]
  | n + 1, [] => []
  | n + 1, x :: l => (lotsF n l).map (x :: ·) ++ lotsF (n + 1) l
theorem lotsF_nil {α : Type} {n : Nat} : lotsF (n + 1) ([] : List α) = [] := by unfold lotsF; rfl
theorem lotsF_cons {α : Type} {n : Nat} {x : α} {l : List α} : lotsF (n + 1) (x :: l) = (lotsF n l).map (x :: ·) ++ lotsF (n + 1) l := by rw [lotsF]
theorem lotsF_map {α β : Type} {f : α → β} : ∀ (n : Nat) (l : List α), lotsF n (l.map f) = (lotsF n l).map fun x => x.map f
  | 0, l => by unfold lotsF; rfl
  | n + 1, [] => by rw [List.map_nil, lotsF_nil, lotsF_nil]; rfl
  | n + 1, x :: l => by
    rw [List.map_cons]
    unfold lotsF
    rw [lotsF_map n l, lotsF_map (n + 1) l, List.map_append, List.map_map, List.map_map]
    rfl
theorem lotsF_len {α : Type} : ∀ (n : Nat) (l : List α), (lotsF n l).length ≤ l.length ^ n
  | 0, l => by unfold lotsF; simp
  | n + 1, [] => by rw [lotsF_nil]; exact Nat.zero_le _
  | n + 1, x :: l => by
    unfold lotsF
    rw [List.length_append, List.length_map, List.length_cons]
    have h1 := lotsF_len n l
    have h2 := lotsF_len (n + 1) l
    have h3 : l.length ^ n ≤ (l.length + 1) ^ n := Nat.pow_le_pow_left (Nat.le_succ _) n
    have h4 : l.length ^ (n + 1) ≤ l.length * (l.length + 1) ^ n := by rw [Nat.pow_succ, Nat.mul_comm]; exact Nat.mul_le_mul_left _ h3
    rw [Nat.pow_succ, Nat.mul_comm, Nat.succ_mul]
    omega
theorem lotsF_size {α : Type} : ∀ (n : Nat) (l : List α) (x : List α), x ∈ lotsF n l → x.length = n ∧ ∀ y ∈ x, y ∈ l
  | 0, l, x, h => by
    unfold lotsF at h
    rw [List.mem_singleton.mp h]
    exact ⟨rfl, fun y hy => by cases hy⟩
  | n + 1, [], x, h => by rw [lotsF_nil] at h; cases h
  | n + 1, a :: l, x, h => by
    unfold lotsF at h
    rcases List.mem_append.mp h with h | h
    · obtain ⟨y, hy, rfl⟩ := List.mem_map.mp h
      obtain ⟨h1, h2⟩ := lotsF_size n l y hy
      refine ⟨by rw [List.length_cons, h1], fun z hz => ?_⟩
      rcases List.mem_cons.mp hz with rfl | hz
      · exact List.mem_cons_self
      · exact List.mem_cons_of_mem _ (h2 z hz)
    · obtain ⟨h1, h2⟩ := lotsF_size (n + 1) l x h
      exact ⟨h1, fun z hz => List.mem_cons_of_mem _ (h2 z hz)⟩
def pLots (n : Nat) : Pre := fun Rs w o w' => ∃ As : List Rl, As.length ≤ 30 ∧ Rs = [rLst As, rInt ((n : Nat) : Int)] ∧ w = [] ∧ w' = [] ∧ o = .ok (rLst ((lotsF n As).map rLst))
section
variable {P : Program} {w : World} {K : PySem.W.Frag} {mg : Str → Option Value} {base : Heap} {C M R f : Addr} {fd : FuncData}
theorem kf_product (Fn : Fun K "product" "product" s_product f fd) (X : RatX K mg R) (Tm : Ko P w K mg base R "__mul__" 5 (pMul R)) (Tt : Kf1 P w K mg base "total" 7 (pTotal R)) (zp : mg "zip" = none) : FnOk P w K mg base (L2.CX P w) 8 f fd P_product (spM (pProd R)) := by
  refine fn_ok Fn c_product (fun _ _ _ _ ⟨_, _, _, _, _, _, _, _, h, _⟩ => by rw [h]; rfl) ?_
  rintro cdv A outer s0 H E ⟨_, G0, H0, M', W', tk⟩ hr rfl Rs ω o ω' ⟨a, b, s, hl, h4, ha, hb, hs, rfl, rfl, rfl, rfl⟩
  have nd := c_product.nd
  obtain ⟨t1, t2, t3⟩ := dot_sz h4 ha hb hs
  refine hb_ret (er_fA Tt hr (ar_cons (er_eq (er_lc (xs := a.zip b) (A := fun p => rTup [rRat R p.1, rRat R p.2]) (B := fun p => rRat R (p.1 * p.2)) (by rw [← zip_rats]; exact it_zip2 (b := true) (ar_cons (er_v 0 rfl rfl) (ar_cons (er_v 1 rfl rfl) ar_nil)) (by rw [List.length_map, List.length_map, hl]) rfl zp) (by rw [List.length_zip]; omega) [("first", 2), ("second", 3)] (blkOk_by (N := N_product) (sc := defScope s_product) (by decide +kernel)) (fun _ _ _ _ _ => pg_tup rfl (pgs_cons (pg_name (i := 2) nd rfl (Or.inl rfl)) (pgs_cons (pg_name (i := 3) nd rfl (Or.inl rfl)) pgs_nil))) (fun i g h => gew_tup2) (fun i p hi s1 H1 cc cl' fp d => ?_) nd) (show _ = rLst ((((a.zip b).map fun p => p.1 * p.2)).map (rRat R)) by rw [List.map_map]; rfl)) ar_nil) (pTotalOk (b := true) t1 t2)) ⟨_, [], rfl, fun v G h => h, rfl⟩
  obtain ⟨m1, m2⟩ := List.of_mem_zip (List.mem_of_getElem? hi : (p.1, p.2) ∈ a.zip b)
  exact er_bin (er_v 2 rfl rfl) (er_v 3 rfl rfl) (bop_o Tm X.cx (hr.mono (by decide)) (pMulOk ((ha _ m1).mono (by omega)) ((hb _ m2).mono (by omega))))
theorem kf_lots0 (Fn : Fun K "lots_of" "lots_of" s_lots_of f fd) : FnOk P w K mg base (L2.CX P w) 1 f fd P_lots_of (spM (pLots 0)) := by
  refine fn_ok Fn c_lots_of (fun _ _ _ _ ⟨_, _, h, _⟩ => by rw [h]; rfl) ?_
  rintro cdv A outer s0 H E ⟨_, G0, H0, M', W', tk⟩ hr rfl Rs ω o ω' ⟨As, hl, rfl, rfl, rfl, rfl⟩
  refine hb_if (b := true) (tr_cmp (er_v 1 rfl rfl) er_int bop_eqI) (fun _ => ?_) (fun z => Bool.noConfusion z)
  exact hb_ret (er_lst (Rs := [rLst []]) (ar_cons (er_lst (Rs := []) ar_nil (Nat.zero_le _)) ar_nil) (by show 1 ≤ 1000; decide)) ⟨_, [], rfl, fun v G h => by unfold lotsF; exact h, rfl⟩
theorem kf_lotsS {n : Nat} (hn : n ≤ 1) (Fn : Fun K "lots_of" "lots_of" s_lots_of f fd) (T : Kf1 P w K mg base "lots_of" (n + 1) (pLots n)) (en : mg "enumerate" = none) : FnOk P w K mg base (L2.CX P w) (n + 2) f fd P_lots_of (spM (pLots (n + 1))) := by
  refine fn_ok Fn c_lots_of (fun _ _ _ _ ⟨_, _, h, _⟩ => by rw [h]; rfl) ?_
  rintro cdv A outer s0 H E ⟨_, G0, H0, M', W', tk⟩ hr rfl Rs ω o ω' ⟨As, hl, rfl, rfl, rfl, rfl⟩
  have nd := c_lots_of.nd
  have big : (lotsF (n + 1) As).length ≤ 900 := by
    have h := lotsF_len (n + 1) As
    have : As.length ^ (n + 1) ≤ 30 ^ (n + 1) := Nat.pow_le_pow_left hl _
    have : (30 : Nat) ^ (n + 1) ≤ 30 ^ 2 := Nat.pow_le_pow_right (by decide) (by omega)
    omega
  refine hb_if (b := false) (tr_to (tr_cmp (er_v 1 rfl rfl) er_int bop_eqI) (decide_eq_false (by omega))) (fun z => Bool.noConfusion z) (fun _ => hb_nil ?_)
  refine hb_setA (R := rLst []) 2 rfl (er_lst (Rs := []) ar_nil (Nat.zero_le _)) ?_
  refine hb_for (it_enumL (ar_cons (er_v 0 rfl rfl) ar_nil) rfl en) (fun k ρ w => ∃ L z3 z4 z5, L ++ lotsF (n + 1) (As.drop k) = lotsF (n + 1) As ∧ ρ = [some (rLst As), some (rInt ((n + 1 : Nat) : Int)), some (rLst (L.map rLst)), z3, z4, z5] ∧ w = []) ⟨[], _, _, _, rfl, rfl, rfl⟩ ?_ ?_ (passes_of rfl) (pg_tup rfl (pgs_cons (pg_name (i := 3) nd rfl (Or.inl rfl)) (pgs_cons (pg_name (i := 4) nd rfl (Or.inr rfl)) pgs_nil)))
  · rintro k ρ w S hS ⟨L, z3, z4, z5, hL, rfl, rfl⟩
    obtain ⟨B, eB, rfl⟩ := numR_get hS
    have hk := (List.getElem?_eq_some_iff.mp eB).1
    have ed : As.drop k = B :: As.drop (k + 1) := by
      rw [List.drop_eq_getElem_cons hk]
      congr 1
      have := List.getElem?_eq_getElem hk
      rw [eB] at this
      exact (Option.some.inj this).symm
    rw [ed, lotsF_cons] at hL
    refine ⟨_, ge_tup (ges_cons ge_name (ges_cons ge_name ges_nil)) rfl, ?_⟩
    have lens : (L ++ (lotsF n (As.drop (k + 1))).map (B :: ·)).length ≤ 900 := by
      have := congrArg List.length hL
      rw [List.length_append, List.length_append] at this
      rw [List.length_append]
      omega
    have lot : ∀ x ∈ lotsF n (As.drop (k + 1)), x.length = n := fun x hx => (lotsF_size n _ x hx).1
    refine hb_setA (R := rLst ((L ++ (lotsF n (As.drop (k + 1))).map (B :: ·)).map rLst)) 2 rfl (er_eq (er_lst (Rs := L.map rLst ++ (((lotsF n (As.drop (k + 1))).map fun x => rLst (B :: x)) ++ [])) (ar_star (er_v 2 rfl rfl) isq_L (ar_star (er_lc (xs := lotsF n (As.drop (k + 1))) (A := rLst) (B := fun x => rLst (B :: x)) (it_lst (er_fA T (hr.mono (by omega)) (ar_cons (er_eq (er_slice (er_v 0 rfl rfl) (pr_some (er_bin (er_v 3 rfl rfl) er_int bop_add)) pr_none sop_L) (show _ = rLst (As.drop (k + 1)) by
        have := cutR_drop (f := fun x : Rl => x) (xs := As) (k := k + 1) (by omega)
        rw [List.map_id' _, List.map_id' _] at this
        rw [← this]
        rfl)) (ar_cons (er_eq (er_bin (er_v 1 rfl rfl) er_int bop_sub) (congrArg rInt (show _ = ((n : Nat) : Int) by omega))) ar_nil)) ⟨As.drop (k + 1), by rw [List.length_drop]; omega, rfl, rfl, rfl, rfl⟩)) (by
        have := lens
        rw [List.length_append, List.length_map] at this
        omega) [("rest", 5)] (blkOk_by (N := N_lots_of) (sc := defScope s_lots_of) (by decide +kernel)) (fun _ _ _ _ _ => pg_name (i := 5) nd rfl (Or.inl rfl)) (fun i g h => gew_name) (fun i x hx s1 H1 cc cl' fp d => er_eq (er_lst (Rs := B :: (x ++ [])) (ar_cons (er_v 4 rfl rfl) (ar_star (er_v 5 rfl rfl) isq_L ar_nil)) (by
          rw [List.length_cons, List.append_nil, lot x (List.mem_of_getElem? hx)]
          omega)) (by rw [List.append_nil])) nd) isq_L ar_nil)) (by
        rw [List.append_nil, List.length_append, List.length_map, List.length_map]
        have := lens
        rw [List.length_append, List.length_map] at this
        omega)) (by rw [List.append_nil, List.map_append, List.map_map]; rfl)) ?_
    refine hb_nil ⟨_, _, _, _, ?_, rfl, rfl⟩
    rw [List.append_assoc]
    exact hL
  · rintro ρ w ⟨L, z3, z4, z5, hL, rfl, rfl⟩
    rw [numR_len, List.drop_length, lotsF_nil, List.append_nil] at hL
    exact hb_ret (er_v 2 rfl rfl) ⟨_, [], rfl, fun v G h => by rw [← hL]; exact h, rfl⟩
end
end W1
set_option maxRecDepth 100000
set_option maxHeartbeats 1000000
set_option exponentiation.threshold 20000
namespace W1
open PySem PySem.Spec PyProof.Rows L2 NdefX TL NumText
/-! ### == of lines; x not in an owned list -/
theorem ratZ_id {C : Addr} {p q : Rat} : ∀ v G, (rRat C p).r v G → (rRat C q).r v G → p = q := fun v G h1 h2 => by
  obtain ⟨a, dx, vs, rfl, e1, n1⟩ := h1
  obtain ⟨a', dx', vs', e0, e2, n2⟩ := h2
  cases e0
  rw [e1] at e2
  cases e2
  obtain ⟨v1, l1, r1⟩ := n1.look (f := "top") (R := rInt p.num) rfl
  obtain ⟨v2, l2, r2⟩ := n2.look (f := "top") (R := rInt q.num) rfl
  obtain ⟨v3, l3, r3⟩ := n1.look (f := "bottom") (R := rInt (p.den : Int)) rfl
  obtain ⟨v4, l4, r4⟩ := n2.look (f := "bottom") (R := rInt (q.den : Int)) rfl
  have l12 := Option.some.inj (l1.symm.trans l2)
  have l34 := Option.some.inj (l3.symm.trans l4)
  subst l12 l34
  have e3 := V.int.inj ((show v1 = V.int p.num from r1).symm.trans (show v1 = V.int q.num from r2))
  have e4 := V.int.inj ((show v3 = V.int p.den from r3).symm.trans (show v3 = V.int q.den from r4))
  exact Rat.ext e3 (by omega)
theorem ratsZ_id {C : Addr} {G : Hp} : ∀ {a b : List Rat} {vs : List V}, All2 (a.map (rRat C)) vs G → All2 (b.map (rRat C)) vs G → a = b
  | [], [], _, _, _ => rfl
  | x :: a, y :: b, v :: vs, ⟨r1, t1⟩, ⟨r2, t2⟩ => by rw [ratZ_id _ _ r1 r2, ratsZ_id t1 t2]
  | [], _ :: _, [], _, h => h.elim
  | [], _ :: _, _ :: _, h, _ => h.elim
  | _ :: _, [], [], h, _ => h.elim
  | _ :: _, [], _ :: _, _, h => h.elim
  | _ :: _, _ :: _, [], h, _ => h.elim
theorem eqbZ_rat {X : Cx} {C : Addr} {p q : Rat} (Te : Ko X.prog X.w X.K X.mg X.base C "__eq__" 5 (pEq C)) (hn : PySem.W.notFirst X.K C (.ref C) = true) : EqB X 5 (rRat C p) (rRat C q) (decide (p = q)) := by
  obtain ⟨f, fd, ps, h1, h2, h3⟩ := Te
  exact eqb_own pEqOk (fun a G k1 k2 => decide_eq_true (ratZ_id _ _ k1 k2)) hn h3 h1 h2
theorem allFrom_list {α : Type} [DecidableEq α] {d : α} : ∀ (a b : List α) (i : Nat) (f : Nat → Bool), a.length = b.length → (∀ j, j < a.length → f (i + j) = decide (a.getD j d = b.getD j d)) → W1Q.allFrom f i a.length = decide (a = b)
  | [], [], _, _, _, _ => rfl
  | [], _ :: _, _, _, h, _ => by cases h
  | _ :: _, [], _, _, h, _ => by cases h
  | x :: a, y :: b, i, f, hl, h => by
    have h0 := h 0 (by simp)
    have ih := allFrom_list (d := d) a b (i + 1) f (by simpa using hl) fun j hj => by
      have := h (j + 1) (by simp; omega)
      rw [show i + (j + 1) = i + 1 + j by omega] at this
      exact this
    rw [List.length_cons]
    unfold W1Q.allFrom
    rw [ih]
    have h0 : f i = decide (x = y) := h0
    rw [h0]
    by_cases e : x = y
    · subst e; simp
    · simp [e]
theorem eqb_rats {X : Cx} {C : Addr} {a b : List Rat} (Te : Ko X.prog X.w X.K X.mg X.base C "__eq__" 5 (pEq C)) (hn : PySem.W.notFirst X.K C (.ref C) = true) : EqB X 6 (rLst (a.map (rRat C))) (rLst (b.map (rRat C))) (decide (a = b)) := by
  have e0 : (decide ((a.map (rRat C)).length = (b.map (rRat C)).length) && W1Q.allFrom (fun i => decide (a.getD i 0 = b.getD i 0)) 0 (a.map (rRat C)).length) = decide (a = b) := by
    rw [List.length_map, List.length_map]
    by_cases hl : a.length = b.length
    · rw [decide_eq_true hl, Bool.true_and, allFrom_list (d := (0 : Rat)) a b 0 _ hl fun j _ => by rw [Nat.zero_add]]
    · rw [decide_eq_false hl, Bool.false_and]
      exact (decide_eq_false fun e => hl (by rw [e])).symm
  have h := eqb_lst (X := X) (n := 5) (Rs := a.map (rRat C)) (Ss := b.map (rRat C)) (e := fun i => decide (a.getD i 0 = b.getD i 0)) (fun i R S h1 h2 => by
    obtain ⟨x, hx, rfl⟩ := map_get h1
    obtain ⟨y, hy, rfl⟩ := map_get h2
    have := eqbZ_rat (p := x) (q := y) Te hn
    rw [List.getD_eq_getElem?_getD, List.getD_eq_getElem?_getD, hx, hy]
    exact this) (fun p G k1 k2 => by
      rw [e0]
      obtain ⟨p1, vs, q1, g1, n1⟩ := k1
      obtain ⟨p2, ws, q2, g2, n2⟩ := k2
      cases q1
      cases q2
      rw [g1] at g2
      cases g2
      exact decide_eq_true (ratsZ_id n1 n2))
  rw [e0] at h
  exact h
theorem anyFrom_list {α : Type} : ∀ (l : List α) (i : Nat) (f : Nat → Bool) (g : α → Bool), (∀ j x, l[j]? = some x → f (i + j) = g x) → W1Q.anyFrom f i l.length = l.any g
  | [], _, _, _, _ => rfl
  | x :: l, i, f, g, h => by
    have h0 : f i = g x := h 0 x rfl
    have ih := anyFrom_list l (i + 1) f g fun j y hy => by
      have := h (j + 1) y (by simpa using hy)
      rw [show i + (j + 1) = i + 1 + j by omega] at this
      exact this
    rw [List.length_cons]
    unfold W1Q.anyFrom
    rw [ih, h0]
    rfl
theorem bop_niO {F : Fx} {w : Ow} {A : Rl} {q : Addr} {n : Nat} {Rs : List Rl} {e : Nat → Bool} (hm : (q, oL Rs) ∈ w) (hA : ∀ x G H, At F w G H → A.r x G → A.r x H) (he : ∀ (i : Nat) R, Rs[i]? = some R → EqB F.X n R A (e i)) (hr : Room (n + 1) F.X.A) : Bop F w (compareOp .NotIn) A (rRef q) (rBool (!W1Q.anyFrom e 0 Rs.length)) :=
  bop_semH hA (own_lst hm) fun pins s σ G H x y u v Q I rx ry sg ax ay z => by
    obtain ⟨p, vs, rfl, h1, h2⟩ := id ay
    cases (show v = Value.ref p from ry)
    show wpAny _ _ (do return Value.bool (!(← contains (.ref p) u))) _ _ _
    exact wpAny_bind (W1Q.contains_list (one_of (pins := pins) (σ := σ) he ⟨hr.in1, rfl⟩ (sg _ _ h1) h2 rx ax) ⟨G, H, I, Step.refl sg⟩ fun j s' ⟨G', H', I', st⟩ => wpAny_pure ⟨V.bl _, H', I', rfl, z _ G' H' st rfl⟩)
theorem bop_niRows {F : Fx} {w : Ow} {C q : Addr} {pt : List Rat} {L : List (List Rat)} (Te : Ko F.X.prog F.X.w F.X.K F.X.mg F.X.base C "__eq__" 5 (pEq C)) (hn : PySem.W.notFirst F.X.K C (.ref C) = true) (hm : (q, oL (mtR C L)) ∈ w) (hr : Room 7 F.X.A) : Bop F w (compareOp .NotIn) (rLst (pt.map (rRat C))) (rRef q) (rBool (!decide (pt ∈ L))) := by
  have h := bop_niO (F := F) (w := w) (A := rLst (pt.map (rRat C))) (n := 6) (e := fun i => decide (L.getD i [] = pt)) hm (fun x G H at_ h => (rLst _).mo _ _ _ at_.gh h) (fun i S hS => by
    unfold mtR at hS
    obtain ⟨r, hr2, rfl⟩ := map_get hS
    rw [List.getD_eq_getElem?_getD, hr2]
    exact eqb_rats Te hn) hr
  have e : W1Q.anyFrom (fun i => decide (L.getD i [] = pt)) 0 (mtR C L).length = decide (pt ∈ L) := by
    unfold mtR
    rw [List.length_map, anyFrom_list L 0 _ (fun r => decide (r = pt)) fun j r hr => by rw [Nat.zero_add, List.getD_eq_getElem?_getD, hr]; rfl]
    by_cases hp : pt ∈ L
    · rw [decide_eq_true hp]
      exact List.any_eq_true.mpr ⟨pt, hp, decide_eq_true rfl⟩
    · rw [decide_eq_false hp]
      exact List.any_eq_false.mpr fun r hr => by
        simp only [decide_eq_true_eq]
        exact fun e => hp (e ▸ hr)
  rw [e] at h
  exact h
/-! ### hidden books, plain -/
abbrev Fct := List Rat × Rat
structure FcG (n : Nat) (F : List Fct) : Prop where
  l : F.length ≤ 9
  m : ∀ p ∈ F, p.1.length = n
  z : ∀ p ∈ F, ∀ x ∈ p.1, Sz 20 x
  y : ∀ p ∈ F, Sz 20 p.2
def unitQ (n a : Nat) : List Rat := (List.range n).map fun p => if a = p then 1 else 0
def axes (n : Nat) : List Fct := (List.range n).map fun a => (unitQ n a, 0)
def alw (F : List Fct) (pt : List Rat) : Bool := !(pt.map fun x => decide (x < 0)).any id && !(F.map fun p => decide (p.2 < dotQ p.1 pt)).any id
def crnS (F : List Fct) (acc : List (List Rat)) (lot : List Fct) : List (List Rat) := match slv (mkM (lot.map (·.1)) (lot.map (·.2))) with
  | none => acc
  | some pt => if pt ∉ acc ∧ alw F pt = true then acc ++ [pt] else acc
def crn (n : Nat) (F : List Fct) : List (List Rat) := (lotsF n (F ++ axes n)).foldl (crnS F) []
def fitB (n : Nat) (F : List Fct) : Bool := (F.map fun p => ((crn n F).map fun pt => decide (dotQ p.1 pt = p.2)).any id).all id
theorem sz_01 {b : Prop} [Decidable b] : Sz 20 (if b then (1 : Rat) else 0) := by
  split
  · exact ((sz_one).mpr trivial).mono (by decide)
  · exact sz_zero.mono (by decide)
theorem axes_ok {n : Nat} : ∀ p ∈ axes n, p.1.length = n ∧ (∀ x ∈ p.1, Sz 20 x) ∧ Sz 20 p.2 := fun p hp => by
  obtain ⟨a, ha, rfl⟩ := List.mem_map.mp hp
  refine ⟨by unfold unitQ; rw [List.length_map, List.length_range], fun x hx => ?_, sz_zero.mono (by decide)⟩
  obtain ⟨i, hi, rfl⟩ := List.mem_map.mp hx
  exact sz_01
theorem lot_SlG {n : Nat} {F : List Fct} (g : FcG n F) (hn : n ≤ 2) {lot : List Fct} (h : lot ∈ lotsF n (F ++ axes n)) : SlG n 20 (lot.map (·.1)) (lot.map (·.2)) := by
  obtain ⟨hl, hm⟩ := lotsF_size n _ lot h
  have key : ∀ p ∈ lot, p.1.length = n ∧ (∀ x ∈ p.1, Sz 20 x) ∧ Sz 20 p.2 := fun p hp => by
    rcases List.mem_append.mp (hm p hp) with h | h
    · exact ⟨g.m p h, g.z p h, g.y p h⟩
    · exact axes_ok p h
  refine ⟨by rw [List.length_map, hl], by rw [List.length_map, hl], by omega, fun r hr => ?_, fun r hr => ?_, fun x hx => ?_, by decide, ?_⟩
  · obtain ⟨p, hp, rfl⟩ := List.mem_map.mp hr; exact (key p hp).1
  · obtain ⟨p, hp, rfl⟩ := List.mem_map.mp hr; exact (key p hp).2.1
  · obtain ⟨p, hp, rfl⟩ := List.mem_map.mp hx; exact (key p hp).2.2
  · exact Nat.le_trans (szK_mono (s := 20) hn) (by decide)
theorem slv_sz {n : Nat} {rows : List (List Rat)} {goals : List Rat} {pt : List Rat} (s : SlG n 20 rows goals) (hn : n ≤ 2) (e : slv (mkM rows goals) = some pt) : pt.length = n ∧ ∀ x ∈ pt, Sz 400 x := by
  have mx := s.mx
  unfold slv at e
  rw [mx.n] at e
  cases e0 : gRun (mkM rows goals) n with
  | none => rw [e0] at e; cases e
  | some N =>
    rw [e0] at e
    cases e
    have z := gRun_sz mx (by omega) (by decide) n N (Nat.le_refl _) e0
    refine ⟨by rw [List.length_map, z.n], fun x hx => ?_⟩
    obtain ⟨r, hr, rfl⟩ := List.mem_map.mp hx
    have lr := z.m r hr
    exact (z.z r hr _ (getD_mem (by omega))).mono (Nat.le_trans (szK_mono (s := 20) hn) (by decide))
theorem crn_sz {n : Nat} {F : List Fct} (g : FcG n F) (hn : n ≤ 2) : ∀ (ls : List (List Fct)) (acc : List (List Rat)), (∀ l ∈ ls, l ∈ lotsF n (F ++ axes n)) → (∀ pt ∈ acc, pt.length = n ∧ ∀ x ∈ pt, Sz 400 x) → (∀ pt ∈ ls.foldl (crnS F) acc, pt.length = n ∧ ∀ x ∈ pt, Sz 400 x) ∧ (ls.foldl (crnS F) acc).length ≤ acc.length + ls.length
  | [], acc, _, h => ⟨h, Nat.le_refl _⟩
  | l :: ls, acc, hl, h => by
    have one : (∀ pt ∈ crnS F acc l, pt.length = n ∧ ∀ x ∈ pt, Sz 400 x) ∧ (crnS F acc l).length ≤ acc.length + 1 := by
      unfold crnS
      cases e : slv (mkM (l.map (·.1)) (l.map (·.2))) with
      | none => exact ⟨h, Nat.le_succ _⟩
      | some pt =>
        dsimp only
        split
        · refine ⟨fun p hp => ?_, by rw [List.length_append]; exact Nat.le_refl _⟩
          rcases List.mem_append.mp hp with hp | hp
          · exact h p hp
          · rw [List.mem_singleton.mp hp]
            exact slv_sz (lot_SlG g hn (hl l List.mem_cons_self)) hn e
        · exact ⟨h, Nat.le_succ _⟩
    obtain ⟨k1, k2⟩ := crn_sz g hn ls (crnS F acc l) (fun x hx => hl x (List.mem_cons_of_mem _ hx)) one.1
    rw [List.foldl_cons, List.length_cons]
    exact ⟨k1, by have := one.2; omega⟩
end W1
set_option maxRecDepth 100000
set_option maxHeartbeats 1000000
set_option exponentiation.threshold 20000
namespace W1
open PySem PySem.Spec PyProof.Rows L2 NdefX TL NumText
/-! ### hidden books: corners, fits -/
abbrev fcR (R : Addr) (p : Fct) : Rl := rTup [rLst (p.1.map (rRat R)), rRat R p.2]
def hidF (R : Addr) (ns : List Str) (F : List Fct) : List (Str × Rl) := [("wares", rLst (ns.map rStr)), ("facts", rLst (F.map (fcR R)))]
structure HdX (K : PySem.W.Frag) (mg : Str → Option Value) (H : Addr) : Prop where
  cls : Cls K H
  nw : NoAttr K H "wares"
  nf : NoAttr K H "facts"
def pAlw (R : Addr) : Pre := fun Rs w o w' => ∃ (q : Addr) (O : Ol) (F : List Fct) (pt : List Rat) (n : Nat), FcG n F ∧ n ≤ 2 ∧ pt.length = n ∧ (∀ x ∈ pt, Sz 400 x) ∧ Rs = [rRef q, rLst (F.map (fcR R)), rLst (pt.map (rRat R))] ∧ w = [(q, O)] ∧ w' = [(q, O)] ∧ o = .ok (rBool (alw F pt))
def pCrn (H R : Addr) : Pre := fun Rs w o w' => ∃ (q : Addr) (ns : List Str) (F0 F : List Fct), FcG ns.length F ∧ 1 ≤ ns.length ∧ ns.length ≤ 2 ∧ Rs = [rRef q, rLst (F.map (fcR R))] ∧ w = [(q, oIns H (hidF R ns F0))] ∧ w' = [(q, oIns H (hidF R ns F0))] ∧ o = .ok (rLst (mtR R (crn ns.length F)))
def pFits (H R : Addr) : Pre := fun Rs w o w' => ∃ (q : Addr) (ns : List Str) (F0 F : List Fct), FcG ns.length F ∧ 1 ≤ ns.length ∧ ns.length ≤ 2 ∧ Rs = [rRef q, rLst (F.map (fcR R))] ∧ w = [(q, oIns H (hidF R ns F0))] ∧ w' = [(q, oIns H (hidF R ns F0))] ∧ o = .ok (rBool (fitB ns.length F))
theorem crnS_none {F : List Fct} {acc : List (List Rat)} {lot : List Fct} (e : slv (mkM (lot.map (·.1)) (lot.map (·.2))) = none) : crnS F acc lot = acc := by unfold crnS; rw [e]
theorem crnS_some {F : List Fct} {acc : List (List Rat)} {lot : List Fct} {pt : List Rat} (e : slv (mkM (lot.map (·.1)) (lot.map (·.2))) = some pt) : crnS F acc lot = if pt ∉ acc ∧ alw F pt = true then acc ++ [pt] else acc := by unfold crnS; rw [e]
section
variable {P : Program} {w : World} {K : PySem.W.Frag} {mg : Str → Option Value} {base : Heap} {C M R Hd f : Addr} {fd : FuncData}
theorem kf_allows (Fn : Fun K "allows" "Hidden.allows" s_Hidden_allows f fd) (X : RtX P w K mg base R M) (Tp : Kf1 P w K mg base "product" 8 (pProd R)) (any : mg "any" = none) : FnOk P w K mg base (L2.CX P w) 9 f fd P_Hidden_allows (spM (pAlw R)) := by
  refine fn_ok Fn c_Hidden_allows (fun _ _ _ _ ⟨_, _, _, _, _, _, _, _, _, h, _⟩ => by rw [h]; rfl) ?_
  rintro cdv A outer s0 H E ⟨_, G0, H0, M', W', tk⟩ hr rfl Rs ω o ω' ⟨q, O, F, pt, n, g, hn, hp, hz, rfl, rfl, rfl, rfl⟩
  have nd := c_Hidden_allows.nd
  have r5 := hr.mono (show 5 ≤ 8 by decide)
  refine hb_if (b := (pt.map fun x => decide (x < 0)).any id) (tr_val (er_bA (ar_cons (er_eq (S := rLst ((pt.map fun x => decide (x < 0)).map rBool)) (er_lc (xs := pt) (A := rRat R) (B := fun x => rBool (decide (x < 0))) (it_lst (er_v 2 rfl rfl)) (by omega) [("price", 3)] (blkOk_by (N := N_Hidden_allows) (sc := defScope s_Hidden_allows) (by decide +kernel)) (fun _ _ _ _ _ => pg_name (i := 3) nd rfl (Or.inl rfl)) (fun _ _ _ => gew_name) (fun i x hx s1 H1 cc cl' fp d => er_m X.Tu X.X.cx.cls r5 (er_v 3 rfl rfl) (ar_cons (er_cm X.Tw r5 (er_gC X.X.gC) (ar_cons er_int ar_nil) (pWholeOk (n := 0))) ar_nil) (pUnderOk ((hz x (List.mem_of_getElem? hx)).mono (by decide)) (sz_zero.mono (by decide)))) nd) (by rw [List.map_map]; rfl)) ar_nil) any bt_any (cop_any rfl))) (fun h => ?_) (fun h => hb_nil ?_)
  · exact hb_ret er_bl ⟨_, [], rfl, fun v G k => by unfold alw; rw [h]; exact k, rfl⟩
  refine hb_ret (er_not (er_bA (ar_cons (er_eq (S := rLst ((F.map fun p => decide (p.2 < dotQ p.1 pt)).map rBool)) (er_lc (xs := F) (A := fcR R) (B := fun p => rBool (decide (p.2 < dotQ p.1 pt))) (it_lst (er_v 1 rfl rfl)) (by have := g.l; omega) [("row", 4), ("hours", 5)] (blkOk_by (N := N_Hidden_allows) (sc := defScope s_Hidden_allows) (by decide +kernel)) (fun _ _ _ _ _ => pg_tup rfl (pgs_cons (pg_name (i := 4) nd rfl (Or.inl rfl)) (pgs_cons (pg_name (i := 5) nd rfl (Or.inl rfl)) pgs_nil))) (fun _ _ _ => gew_tup2) (fun i p hp' s1 H1 cc cl' fp d => ?_) nd) (by rw [List.map_map]; rfl)) ar_nil) any bt_any (cop_any rfl))) ⟨_, [], rfl, fun v G k => by unfold alw; rw [h]; exact k, rfl⟩
  have hm := List.mem_of_getElem? hp'
  have hs : ∀ x ∈ p.1, Sz 400 x := fun x hx => (g.z p hm x hx).mono (by decide)
  have lp := g.m p hm
  exact er_m X.Tu X.X.cx.cls r5 (er_v 5 rfl rfl) (ar_cons (er_fA Tp hr (ar_cons (er_v 4 rfl rfl) (ar_cons (er_v 2 rfl rfl) ar_nil)) ⟨p.1, pt, 400, by rw [lp, hp], by omega, hs, hz, by decide, rfl, rfl, rfl, rfl⟩) ar_nil) (pUnderOk ((g.y p hm).mono (by decide)) ((dot_sz (by omega) hs hz (by decide)).2.2.mono (by decide)))
theorem kf_corners (Fn : Fun K "corners" "Hidden.corners" s_Hidden_corners f fd) (X : RtX P w K mg base R M) (Y : HdX K mg Hd) (Tl : ∀ n, n ≤ 2 → Kf1 P w K mg base "lots_of" (n + 1) (pLots n)) (Ts : Kf1 P w K mg base "solved" 7 (pSolvd R)) (Ta : Km P w K mg base Hd "allows" 9 (pAlw R)) (nfR : PySem.W.notFirst K R (.ref R) = true)
    (len : mg "len" = none) (rg : mg "range" = none) (int : mg "int" = none) : FnOk P w K mg base (L2.CX P w) 10 f fd P_Hidden_corners (spM (pCrn Hd R)) := by
  refine fn_ok Fn c_Hidden_corners (fun _ _ _ _ ⟨_, _, _, _, _, _, _, h, _⟩ => by rw [h]; rfl) ?_
  rintro cdv A outer s0 H E ⟨_, G0, H0, M', W', tk⟩ hr rfl Rs ω o ω' ⟨q, ns, F0, F, g, n1, n2, rfl, rfl, rfl, rfl⟩
  have nd := c_Hidden_corners.nd
  have r5 := hr.mono (show 5 ≤ 9 by decide)
  have r7 := hr.mono (show 7 ≤ 9 by decide)
  refine hb_setA (R := rInt ((ns.length : Nat) : Int)) 2 rfl (er_eq (er_bA (ar_cons (er_fldO (er_v 0 rfl rfl) List.mem_cons_self Y.cls Y.nw rfl) ar_nil) len bt_len cop_lenL) (by rw [List.length_map])) ?_
  generalize hn : ns.length = n at g n1 n2
  have lF := g.l
  refine hb_setLcN (xs := F) (A := fcR R) (B := fcR R) 3 (it_lst (er_v 1 rfl rfl)) (by omega) [("row", 4), ("hours", 5)] (blkOk_by (N := N_Hidden_corners) (sc := defScope s_Hidden_corners) (by decide +kernel)) (fun _ _ _ _ _ => pg_tup rfl (pgs_cons (pg_name (i := 4) nd rfl (Or.inl rfl)) (pgs_cons (pg_name (i := 5) nd rfl (Or.inl rfl)) pgs_nil))) (fun _ _ _ => gew_tup2) (fun i p hp s1 H1 cc cl' fp d => er_tup (Rs := [rLst (p.1.map (rRat R)), rRat R p.2]) (ar_cons (er_v 4 rfl rfl) (ar_cons (er_v 5 rfl rfl) ar_nil)) (Nat.le_of_ble_eq_true rfl)) (fun ql hql => ?_) nd rfl
  have ern : rng 0 ((n : Nat) : Int).toNat = (List.range n).map fun k : Nat => rInt (0 + (k : Int)) := by rw [rng_map, Int.toNat_natCast]
  refine hb_for (it_rng1 (n := ((n : Nat) : Int)) (ar_cons (er_v 2 rfl rfl) ar_nil) rfl rg (by omega)) (fun k ρ w => ∃ z6, ρ = [some (rRef q), some (rLst (F.map (fcR R))), some (rInt ((n : Nat) : Int)), some (rRef ql), none, none, z6, none, none, none, none, none] ∧ w = [(ql, oL ((F ++ (axes n).take k).map (fcR R))), (q, oIns Hd (hidF R ns F0))]) ⟨none, rfl, by rw [List.take_zero, List.append_nil]⟩ ?_ ?_ (passes_of rfl) (pg_name (i := 6) nd rfl (Or.inr rfl))
  · rintro k ρ w S hS ⟨z6, rfl, rfl⟩
    obtain ⟨hk, rfl⟩ := rng_get hS
    have hk : k < n := by omega
    have ek : (0 : Int) + (k : Int) = ((k : Nat) : Int) := by omega
    rw [ek]
    refine ⟨_, ge_name, ?_⟩
    have et : F ++ (axes n).take (k + 1) = (F ++ (axes n).take k) ++ [(unitQ n k, 0)] := by
      rw [List.append_assoc]
      congr 1
      have : (axes n)[k]? = some (unitQ n k, 0) := by unfold axes; rw [List.getElem?_map, List.getElem?_range hk]; rfl
      rw [List.take_add_one, this]
      rfl
    refine hb_append (R := fcR R (unitQ n k, 0)) (w2 := [(q, oIns Hd (hidF R ns F0))]) (er_v 3 rfl rfl) List.mem_cons_self (ar_cons (er_tup (Rs := [rLst ((unitQ n k).map (rRat R)), rRat R 0]) (ar_cons (er_eq (er_lc (xs := List.range n) (A := fun j : Nat => rInt (0 + (j : Int))) (B := fun j : Nat => rRat R (if k = j then 1 else 0)) (by rw [← ern]; exact it_rng1 (ar_cons (er_v 2 rfl rfl) ar_nil) rfl rg (by omega)) (by rw [List.length_range]; omega) [("place", 7)] (blkOk_by (N := N_Hidden_corners) (sc := defScope s_Hidden_corners) (by decide +kernel)) (fun _ _ _ _ _ => pg_name (i := 7) nd rfl (Or.inl rfl)) (fun _ _ _ => gew_name) (fun i j hj s1 H1 cc cl' fp d => ?_) nd) (by unfold unitQ; rw [List.map_map]; rfl)) (ar_cons (er_cm X.Tw r5 (er_gC X.X.gC) (ar_cons er_int ar_nil) (pWholeOk (n := 0))) ar_nil)) (Nat.le_of_ble_eq_true rfl)) ar_nil) (by rw [List.length_map, List.length_append, List.length_take]; unfold axes; rw [List.length_map, List.length_range]; omega) ?_
    · refine er_eq (er_cm X.Tw r5 (er_gC X.X.gC) (ar_cons (er_tA (ar_cons (er_cmp (er_v 6 rfl rfl) (er_v 7 rfl rfl) bop_eqI) ar_nil) int bt_int cop_intB) ar_nil) pWholeOk) ?_
      rw [Int.zero_add]
      by_cases e : k = j
      · subst e; simp
      · have : ¬ ((k : Nat) : Int) = (j : Int) := by omega
        simp [this, e]
    · rw [← List.map_singleton (f := fcR R), ← List.map_append, ← et]
      exact hb_nil ⟨_, rfl, rfl⟩
  · rintro ρ w ⟨z6, rfl, rfl⟩
    have lax : (axes n).length = n := by unfold axes; rw [List.length_map, List.length_range]
    rw [rng_len, Int.toNat_natCast, show (axes n).take n = axes n from List.take_of_length_le (by rw [lax]; exact Nat.le_refl _)]
    refine hb_pub 3 rfl hql pub_lst ?_
    refine hb_setNA 8 rfl (en_lst (Rs := []) ar_nil (Nat.zero_le _)) fun qf hqf => ?_
    refine hb_perm (List.Perm.swap _ _ _) ?_
    have lls : (lotsF n (F ++ axes n)).length ≤ 900 := by
      have h := lotsF_len n (F ++ axes n)
      have h2 : (F ++ axes n).length ≤ 30 := by rw [List.length_append, lax]; omega
      have : (F ++ axes n).length ^ n ≤ 30 ^ n := Nat.pow_le_pow_left h2 _
      have : (30 : Nat) ^ n ≤ 30 ^ 2 := Nat.pow_le_pow_right (by decide) n2
      omega
    refine hb_for (it_lst (er_eq (S := rLst ((lotsF n (F ++ axes n)).map fun x => rLst (x.map (fcR R)))) (er_fA (Tl n n2) (hr.mono (by omega)) (ar_cons (er_v 3 rfl rfl) (ar_cons (er_v 2 rfl rfl) ar_nil)) ⟨(F ++ axes n).map (fcR R), by rw [List.length_map, List.length_append, lax]; omega, rfl, rfl, rfl, rfl⟩) (by rw [lotsF_map, List.map_map]; rfl))) (fun k ρ w => ∃ z9 z10, ρ = [some (rRef q), some (rLst (F.map (fcR R))), some (rInt ((n : Nat) : Int)), some (rLst ((F ++ axes n).map (fcR R))), none, none, z6, none, some (rRef qf), z9, z10, none] ∧ w = [(q, oIns Hd (hidF R ns F0)), (qf, oL (mtR R (((lotsF n (F ++ axes n)).take k).foldl (crnS F) [])))]) ⟨_, _, rfl, rfl⟩ ?_ ?_ (passes_of rfl) (pg_name (i := 9) nd rfl (Or.inl rfl))
    · rintro k ρ w S hS ⟨z9, z10, rfl, rfl⟩
      obtain ⟨lot, eL, rfl⟩ := map_get hS
      have et : (lotsF n (F ++ axes n)).take (k + 1) = (lotsF n (F ++ axes n)).take k ++ [lot] := by rw [List.take_add_one, eL]; rfl
      have hlot := List.mem_of_getElem? eL
      obtain ⟨cs, cl⟩ := crn_sz g n2 ((lotsF n (F ++ axes n)).take k) [] (fun l h => List.mem_of_mem_take h) (fun _ h => by cases h)
      have cl : (((lotsF n (F ++ axes n)).take k).foldl (crnS F) []).length ≤ 900 := by
        rw [List.length_take] at cl
        have : ([] : List (List Rat)).length = 0 := rfl
        omega
      refine ⟨_, ge_name, ?_⟩
      rw [et, List.foldl_append]
      generalize ((lotsF n (F ++ axes n)).take k).foldl (crnS F) [] = acc at cs cl
      show HB _ _ _ _ (Kn.loop _ _ _ fun ρ w => ∃ z9 z10, _ ∧ w = [_, (qf, oL (mtR R (crnS F acc lot)))])
      have sl := lot_SlG g n2 hlot
      have llot : lot.length = n := (lotsF_size n _ lot hlot).1
      refine hb_setA (R := slvR R (slv (mkM (lot.map (·.1)) (lot.map (·.2))))) 10 rfl (er_fA Ts r7 (ar_cons (er_eq (S := rLst (mtR R (lot.map (·.1)))) (er_lc (xs := lot) (A := fcR R) (B := fun p => rLst (p.1.map (rRat R))) (it_lst (er_v 9 rfl rfl)) (by omega) [("row", 4), ("goal", 11)] (blkOk_by (N := N_Hidden_corners) (sc := defScope s_Hidden_corners) (by decide +kernel)) (fun _ _ _ _ _ => pg_tup rfl (pgs_cons (pg_name (i := 4) nd rfl (Or.inl rfl)) (pgs_cons (pg_name (i := 11) nd rfl (Or.inl rfl)) pgs_nil))) (fun _ _ _ => gew_tup2) (fun i p hp s1 H1 cc cl' fp d => er_v 4 rfl rfl) nd) (by unfold mtR; rw [List.map_map]; rfl)) (ar_cons (er_eq (S := rLst ((lot.map (·.2)).map (rRat R))) (er_lc (xs := lot) (A := fcR R) (B := fun p => rRat R p.2) (it_lst (er_v 9 rfl rfl)) (by omega) [("row", 4), ("goal", 11)] (blkOk_by (N := N_Hidden_corners) (sc := defScope s_Hidden_corners) (by decide +kernel)) (fun _ _ _ _ _ => pg_tup rfl (pgs_cons (pg_name (i := 4) nd rfl (Or.inl rfl)) (pgs_cons (pg_name (i := 11) nd rfl (Or.inl rfl)) pgs_nil))) (fun _ _ _ => gew_tup2) (fun i p hp s1 H1 cc cl' fp d => er_v 11 rfl rfl) nd) (by rw [List.map_map]; rfl)) ar_nil)) ⟨_, _, n, 20, sl, rfl, rfl, rfl, rfl⟩) ?_
      cases es : slv (mkM (lot.map (·.1)) (lot.map (·.2))) with
      | none =>
        rw [crnS_none es]
        refine hb_if (b := false) (w1 := [(q, oIns Hd (hidF R ns F0)), (qf, oL (mtR R acc))]) (PWR.tr ((tr_and (k := false) (m := false) (tr_to (tr_cmp (er_v 10 rfl rfl) er_non (bop_notN (x := .non))) rfl) fun z => Bool.noConfusion z))) (fun z => Bool.noConfusion z) (fun _ => hb_nil (hb_nil ⟨_, _, rfl, rfl⟩))
      | some pt =>
        obtain ⟨lp, sp⟩ := slv_sz sl n2 es
        rw [crnS_some es]
        have k1 : ∀ v G, (slvR R (some pt)).r v G → ∃ p, v = .ref p := fun v G ⟨p, vs, e, _⟩ => ⟨p, e⟩
        refine hb_if (b := (true && (!decide (pt ∈ acc) && alw F pt))) (w1 := [(q, oIns Hd (hidF R ns F0)), (qf, oL (mtR R acc))]) (PWR.tr (tr_and (tr_cmp (er_v 10 rfl rfl) er_non (bop_notNo k1)) fun _ => tr_and (tr_cmp (er_v 10 rfl rfl) (er_v 8 rfl rfl) (bop_niRows X.Te nfR (List.mem_cons_of_mem _ List.mem_cons_self) r7)) fun _ => tr_and1 (tr_val (er_mO (wc := [(q, oIns Hd (hidF R ns F0))]) (wc' := [(q, oIns Hd (hidF R ns F0))]) (w := [(qf, oL (mtR R acc))]) Ta Y.cls hr (er_v 0 rfl rfl) List.mem_cons_self (ar_cons (er_v 1 rfl rfl) (ar_cons (er_v 10 rfl rfl) ar_nil)) ⟨q, _, F, pt, n, g, n2, lp, sp, rfl, rfl, rfl, rfl⟩)))) (fun h => ?_) (fun h => hb_nil ?_)
        · have h : pt ∉ acc ∧ alw F pt = true := by simpa using h
          rw [if_pos h]
          refine hb_append (R := rLst (pt.map (rRat R))) (w2 := [(q, oIns Hd (hidF R ns F0))]) (er_v 8 rfl rfl) (List.mem_cons_of_mem _ List.mem_cons_self) (ar_cons (er_perm (er_v 10 rfl rfl) (List.Perm.swap _ _ _)) ar_nil) (by unfold mtR; rw [List.length_map]; omega) ?_
          refine hb_perm (List.Perm.swap _ _ _) (hb_nil (hb_nil ⟨_, _, rfl, ?_⟩))
          unfold mtR
          rw [List.map_append]
          rfl
        · have h : ¬ (pt ∉ acc ∧ alw F pt = true) := by simpa using h
          rw [if_neg h]
          exact hb_nil ⟨_, _, rfl, rfl⟩
    · rintro ρ w ⟨z9, z10, rfl, rfl⟩
      rw [List.length_map, List.take_length]
      refine hb_perm (List.Perm.swap _ _ _) ?_
      refine hb_pub 8 rfl hqf pub_lst ?_
      exact hb_ret (er_v 8 rfl rfl) ⟨_, [], rfl, fun v G h => by unfold crn; exact h, rfl⟩
theorem kf_fits17 (Fn : Fun K "fits" "Hidden.fits" s_Hidden_fits f fd) (X : RtX P w K mg base R M) (Y : HdX K mg Hd) (Tc : Km P w K mg base Hd "corners" 10 (pCrn Hd R)) (Tp : Kf1 P w K mg base "product" 8 (pProd R)) (any : mg "any" = none) (all : mg "all" = none) : FnOk P w K mg base (L2.CX P w) 11 f fd P_Hidden_fits (spM (pFits Hd R)) := by
  refine fn_ok Fn c_Hidden_fits (fun _ _ _ _ ⟨_, _, _, _, _, _, _, h, _⟩ => by rw [h]; rfl) ?_
  rintro cdv A outer s0 H E ⟨_, G0, H0, M', W', tk⟩ hr rfl Rs ω o ω' ⟨q, ns, F0, F, g, n1, n2, rfl, rfl, rfl, rfl⟩
  have nd := c_Hidden_fits.nd
  have r5 := hr.mono (show 5 ≤ 10 by decide)
  have r8 := hr.mono (show 8 ≤ 10 by decide)
  obtain ⟨cs, cl⟩ := crn_sz g n2 (lotsF ns.length (F ++ axes ns.length)) [] (fun l h => h) (fun _ h => by cases h)
  have lax : (axes ns.length).length = ns.length := by unfold axes; rw [List.length_map, List.length_range]
  have lls : (crn ns.length F).length ≤ 900 := by
    have h := lotsF_len ns.length (F ++ axes ns.length)
    have lF := g.l
    have h2 : (F ++ axes ns.length).length ≤ 30 := by rw [List.length_append, lax]; omega
    have : (F ++ axes ns.length).length ^ ns.length ≤ 30 ^ ns.length := Nat.pow_le_pow_left h2 _
    have : (30 : Nat) ^ ns.length ≤ 30 ^ 2 := Nat.pow_le_pow_right (by decide) n2
    have : ([] : List (List Rat)).length = 0 := rfl
    unfold crn
    omega
  have cs : ∀ pt ∈ crn ns.length F, pt.length = ns.length ∧ ∀ x ∈ pt, Sz 400 x := cs
  refine hb_setA (R := rLst (mtR R (crn ns.length F))) 2 rfl (er_mO Tc Y.cls hr (er_v 0 rfl rfl) List.mem_cons_self (wc := [(q, oIns Hd (hidF R ns F0))]) (w := []) (ar_cons (er_v 1 rfl rfl) ar_nil) ⟨q, ns, F0, F, g, n1, n2, rfl, rfl, rfl, rfl⟩) ?_
  refine hb_ret (er_bA (ar_cons (er_eq (S := rLst ((F.map fun p : Fct => ((crn ns.length F).map fun pt => decide (dotQ p.1 pt = p.2)).any id).map rBool)) (er_lc (xs := F) (A := fcR R) (B := fun p : Fct => rBool (((crn ns.length F).map fun pt => decide (dotQ p.1 pt = p.2)).any id)) (it_lst (er_v 1 rfl rfl)) (by have := g.l; omega) [("row", 4), ("hours", 5)] (blkOk_by (N := N_Hidden_fits) (sc := defScope s_Hidden_fits) (by decide +kernel)) (fun _ _ _ _ _ => pg_tup rfl (pgs_cons (pg_name (i := 4) nd rfl (Or.inr rfl)) (pgs_cons (pg_name (i := 5) nd rfl (Or.inr rfl)) pgs_nil))) (fun _ _ _ => gew_tup2) (fun i p hp s1 H1 cc cl' fp d => ?_) nd) (by rw [List.map_map]; rfl)) ar_nil) all bt_all (cop_all rfl)) ⟨_, [], rfl, fun v G k => k, rfl⟩
  have hm := List.mem_of_getElem? hp
  have hs : ∀ x ∈ p.1, Sz 400 x := fun x hx => (g.z p hm x hx).mono (by decide)
  refine er_bA (ar_cons (er_eq (S := rLst (((crn ns.length F).map fun pt => decide (dotQ p.1 pt = p.2)).map rBool)) (er_lc (xs := crn ns.length F) (A := fun r => rLst (r.map (rRat R))) (B := fun pt => rBool (decide (dotQ p.1 pt = p.2))) (it_lst (er_v 2 rfl rfl)) (by omega) [("point", 3)] (blkOk_by (N := N_Hidden_fits) (by rfl)) (fun _ _ _ _ _ => pg_name (i := 3) nd rfl (Or.inl rfl)) (fun _ _ _ => gew_name) (fun i2 pt hpt s2 H2 cc2 cl2 fp2 d2 => ?_) nd) (by rw [List.map_map]; rfl)) ar_nil) any bt_any (cop_any rfl)
  obtain ⟨lp, sp⟩ := cs pt (List.mem_of_getElem? hpt)
  exact er_cmp (er_fA Tp r8 (ar_cons (er_v 4 rfl rfl) (ar_cons (er_v 3 rfl rfl) ar_nil)) ⟨p.1, pt, 400, by rw [g.m p hm, lp], by rw [g.m p hm]; omega, hs, sp, by decide, rfl, rfl, rfl, rfl⟩) (er_v 5 rfl rfl) (bop_oE X.Te r5 (pEqOk (C := R)) tyr_ins X.X.nf)
end
end W1
set_option maxRecDepth 100000
set_option maxHeartbeats 1000000
set_option exponentiation.threshold 20000
namespace W1
open PySem PySem.Spec PyProof.Rows L2 NdefX TL NumText
/-! ### hidden books: made, told, taken back -/
structure WrG (l : List Str) : Prop where
  l1 : 1 ≤ l.length
  l2 : l.length ≤ 2
  nd : l.Nodup
  nm : ∀ g ∈ l, nameL (tl g) = true ∧ g.length ≤ 640
def pChkN : Pre := fun Rs w o w' => ∃ l : List Str, WrG l ∧ Rs = [rLst (l.map rStr)] ∧ w = [] ∧ w' = [] ∧ o = .ok rNon
def pHLen (H R : Addr) : Pre := fun Rs w o w' => ∃ (q : Addr) (ns : List Str) (F : List Fct), Rs = [rRef q] ∧ w = [(q, oIns H (hidF R ns F))] ∧ w' = [(q, oIns H (hidF R ns F))] ∧ o = .ok (rInt ((F.length : Nat) : Int))
def rowQ (ns : List Str) (dm : Dm) : List Rat := ns.map (valQ dm)
def rowO (M U R : Addr) (ns : List Str) (dm : Dm) : Out := match demE ns dm with
  | none => .ok (rLst ((rowQ ns dm).map (rRat R)))
  | some x => .error (errD M U R x)
def pRowH (H M U R : Addr) : Pre := fun Rs w o w' => ∃ (q : Addr) (ns : List Str) (F : List Fct) (dm : Dm), DmS dm ∧ ns.length ≤ 4 ∧ Rs = [rRef q, rDct (fsQ R dm)] ∧ w = [(q, oIns H (hidF R ns F))] ∧ w' = [(q, oIns H (hidF R ns F))] ∧ o = rowO M U R ns dm
/-- what is wrong with a fact -/
def tlE (ns : List Str) (F : List Fct) (dm : Dm) (h : Rat) : Option ((Str ⊕ Rat) ⊕ Int) := match demE ns dm with
  | some x => some (.inl x)
  | none => if ((rowQ ns dm).map fun x => x.num != 0).any id = true then (if 0 < h then (if F.length = 8 then some (.inr 9) else none) else some (.inl (.inr h))) else some (.inl (.inr 0))
def errT (M U R : Addr) : (Str ⊕ Rat) ⊕ Int → Er
  | .inl x => errD M U R x
  | .inr n => erF M "n" (rInt n)
def pTellE (H M U R : Addr) : Pre := fun Rs w o w' => ∃ (q : Addr) (ns : List Str) (F : List Fct) (dm : Dm) (h : Rat) (x : (Str ⊕ Rat) ⊕ Int), DmS dm ∧ ns.length ≤ 4 ∧ Sz 100 h ∧ F.length ≤ 8 ∧ tlE ns F dm h = some x ∧ Rs = [rRef q, rDct (fsQ R dm), rRat R h] ∧ w = [(q, oIns H (hidF R ns F))] ∧ w' = [(q, oIns H (hidF R ns F))] ∧ o = .error (errT M U R x)
def pTellO (H R : Addr) : Pre := fun Rs w o w' => ∃ (q : Addr) (ns : List Str) (F : List Fct) (dm : Dm) (h : Rat), DmS dm ∧ 1 ≤ ns.length ∧ ns.length ≤ 2 ∧ Sz 20 h ∧ F.length < 8 ∧ tlE ns F dm h = none ∧ FcG ns.length (F ++ [(rowQ ns dm, h)]) ∧ fitB ns.length (F ++ [(rowQ ns dm, h)]) = true ∧ Rs = [rRef q, rDct (fsQ R dm), rRat R h] ∧ w = [(q, oIns H (hidF R ns F))] ∧ w' = [(q, oIns H (hidF R ns (F ++ [(rowQ ns dm, h)])))] ∧ o = .ok (rBool true)
def nzD (R : Addr) (ns : List Str) (row : List Rat) : List (Key × Rl) := dcR (fun p : Str × Rat => .inr p.1) (fun p => rRat R p.2) ((ns.zip row).filter fun p => p.2.num != 0)
def tdR (R : Addr) (ns : List Str) (p : Fct) : Rl := rTup [rDct (nzD R ns p.1), rRat R p.2]
def pTold17 (H R : Addr) : Pre := fun Rs w o w' => ∃ (q : Addr) (ns : List Str) (F : List Fct), ns.length ≤ 4 ∧ F.length ≤ 9 ∧ (∀ p ∈ F, p.1.length = ns.length) ∧ Rs = [rRef q] ∧ w = [(q, oIns H (hidF R ns F))] ∧ w' = [(q, oIns H (hidF R ns F))] ∧ o = .ok (rLst (F.map (tdR R ns)))
def pUndo (H R : Addr) : Pre := fun Rs w o w' => ∃ (q : Addr) (ns : List Str) (F : List Fct) (p : Fct), Rs = [rRef q] ∧ w = [(q, oIns H (hidF R ns (F ++ [p])))] ∧ w' = [(q, oIns H (hidF R ns F))] ∧ o = .ok rNon
theorem zip_wares {R : Addr} {ns : List Str} {row : List Rat} : zipR (ns.map rStr) (row.map (rRat R)) = (ns.zip row).map fun p => rTup [rStr p.1, rRat R p.2] := by
  unfold zipR
  induction ns generalizing row with
  | nil => rfl
  | cons x l ih =>
    cases row with
    | nil => rfl
    | cons y p =>
      rw [List.map_cons, List.map_cons, List.zipWith_cons_cons, ih]
      rfl
section
variable {P : Program} {w : World} {K : PySem.W.Frag} {mg : Str → Option Value} {base : Heap} {C M N D U R Hd f : Addr} {fd : FuncData} {tk1 tk2 : Tok}
theorem kf_chknames (Fn : Fun K "check_names" "check_names" s_check_names f fd) (Tn : Kf1 P w K mg base "is_name" 2 pName) (gG : mg "MOST_GOODS" = some (.int 4 tk1)) (len : mg "len" = none) (en : mg "enumerate" = none) : FnOk P w K mg base (L2.CX P w) 3 f fd P_check_names (spM pChkN) := by
  refine fn_ok Fn c_check_names (fun _ _ _ _ ⟨_, _, h, _⟩ => by rw [h]; rfl) ?_
  rintro cdv A outer s H E ⟨_, G0, H0, M', W', tk⟩ hr rfl Rs ω o ω' ⟨l, g, rfl, rfl, rfl, rfl⟩
  have nd := c_check_names.nd
  have l1 := g.l1
  have l2 := g.l2
  have lenl : ∀ {F : Fx} {w : Ow}, Cop F w (.builtin "len") [rLst (l.map rStr)] (rInt (l.length : Int)) := fun {F w} => by
    have := cop_lenL (F := F) (ω := w) (Rs := l.map rStr)
    rw [List.length_map] at this
    exact this
  refine hb_if (b := !(decide (1 ≤ (l.length : Int)) && decide ((l.length : Int) ≤ 4))) (tr_not (tr_chain er_int (er_bA (ar_cons (er_v 0 rfl rfl) ar_nil) len bt_len lenl) bop_le (fun _ => er_gI gG) fun _ => bop_le)) (fun hb => ?_) (fun hb => hb_nil ?_)
  · rw [decide_eq_true (by omega), decide_eq_true (by omega)] at hb
    cases hb
  refine hb_for (it_enumL (ar_cons (er_v 0 rfl rfl) ar_nil) rfl en) (fun k ρ w => w = [] ∧ ∃ z1 z2, ρ = [some (rLst (l.map rStr)), z1, z2]) ⟨rfl, none, none, rfl⟩ ?_ ?_ (passes_of rfl) (pg_tup rfl (pgs_cons (pg_name (i := 1) nd rfl (Or.inl rfl)) (pgs_cons (pg_name (i := 2) nd rfl (Or.inl rfl)) pgs_nil)))
  · rintro k ρ w S hS ⟨rfl, z1, z2, rfl⟩
    obtain ⟨B, eB, rfl⟩ := numR_get hS
    obtain ⟨x, ex, rfl⟩ := map_get eB
    have hx := List.mem_of_getElem? ex
    have hk := (List.getElem?_eq_some_iff.mp ex).1
    refine ⟨_, ge_tup (ges_cons ge_name (ges_cons ge_name ges_nil)) rfl, ?_⟩
    refine hb_if (b := !nameL (tl x)) (tr_not (tr_val (er_fn0 Tn hr (ar_cons (er_v 2 rfl rfl) ar_nil) (pNameOk (g.nm x hx).2)))) (fun hb => ?_) (fun hb => hb_nil ?_)
    · rw [(g.nm x hx).1] at hb
      cases hb
    have nin : x ∉ l.take k := fun h => by
      have e : l = l.take k ++ l.drop k := (List.take_append_drop k l).symm
      have hd : x ∈ l.drop k := by
        rw [List.drop_eq_getElem_cons hk, (List.getElem?_eq_some_iff.mp ex).2]
        exact List.mem_cons_self
      have nd2 := g.nd
      rw [e] at nd2
      exact (List.nodup_append.mp nd2).2.2 x h x hd rfl
    refine hb_if (b := false) (tr_to (tr_cmp (er_v 2 rfl rfl) (er_eq (er_slice (er_v 0 rfl rfl) pr_none (pr_some (er_v 1 rfl rfl)) sop_L) (show _ = rLst ((l.take k).map rStr) by rw [cutR_take (by omega)])) (bop_inQ isq_L)) (decide_eq_false nin)) (fun z => Bool.noConfusion z) (fun _ => hb_nil (hb_nil ⟨rfl, _, _, rfl⟩))
  · rintro ρ w ⟨rfl, z1, z2, rfl⟩
    exact hb_nil ⟨_, [], rfl, fun _ => rfl, rfl⟩
theorem kf_hlen (Fn : Fun K "__len__" "Hidden.__len__" s_Hidden___len__ f fd) (Y : HdX K mg Hd) (len : mg "len" = none) : FnOk P w K mg base (L2.CX P w) 1 f fd P_Hidden___len__ (spM (pHLen Hd R)) := by
  refine fn_ok Fn c_Hidden___len__ (fun _ _ _ _ ⟨_, _, _, h, _⟩ => by rw [h]; rfl) ?_
  rintro cdv A outer s H E ⟨_, G0, H0, M', W', tk⟩ hr rfl Rs ω o ω' ⟨q, ns, F, rfl, rfl, rfl, rfl⟩
  exact hb_ret (er_eq (er_bA (ar_cons (er_fldO (er_v 0 rfl rfl) List.mem_cons_self Y.cls Y.nf rfl) ar_nil) len bt_len cop_lenL) (by rw [List.length_map])) ⟨_, [], rfl, fun v G h => h, rfl⟩
theorem kf_hrow (Fn : Fun K "row" "Hidden.row" s_Hidden_row f fd) (Y : HdX K mg Hd) (X : RtX P w K mg base R M) (Tu : Ke P w K mg base U "UnknownName" "name" 1 prStr) (Tr : Ke P w K mg base M "BadNumber" "n" 4 (prRat R)) (ls : mg "list" = none) (st : mg "sorted" = none) : FnOk P w K mg base (L2.CX P w) 6 f fd P_Hidden_row (spM (pRowH Hd M U R)) := by
  refine fn_ok Fn c_Hidden_row (fun _ _ _ _ ⟨_, _, _, _, _, _, h, _⟩ => by rw [h]; rfl) ?_
  rintro cdv A outer s H E ⟨_, G0, H0, M', W', tk⟩ hr rfl Rs ω o ω' ⟨q, ns, F, dm, ok, n4, rfl, rfl, rfl, rfl⟩
  have nd := c_Hidden_row.nd
  have r1 := hr.mono (show 1 ≤ 5 by decide)
  have r4 := hr.mono (show 4 ≤ 5 by decide)
  unfold rowO
  refine hb_for (it_lst (er_bA (ar_cons (er_eq (S := rLst ((namesQ dm).map rStr)) (er_tA (ar_cons (er_v 1 rfl rfl) ar_nil) ls bt_list (cop_listD rfl isd_frz)) (congrArg rLst kRs_Qd)) ar_nil) st bt_sorted copA)) (fun k ρ w => w = [(q, oIns Hd (hidF R ns F))] ∧ demE ns dm = dmE ns dm ((srt (namesQ dm)).drop k) ∧ ∃ z, ρ = [some (rRef q), some (rDct (fsQ R dm)), z]) ⟨rfl, rfl, none, rfl⟩ ?_ ?_ (passes_of rfl) (pg_name (i := 2) nd rfl (Or.inl rfl))
  · rintro k ρ w S hS ⟨rfl, hk, z, rfl⟩
    obtain ⟨g, eg, rfl⟩ := map_get hS
    have hkl := (List.getElem?_eq_some_iff.mp eg).1
    have hg : g ∈ namesQ dm := srt_mem (List.mem_of_getElem? eg)
    have ed : (srt (namesQ dm)).drop k = g :: (srt (namesQ dm)).drop (k + 1) := by
      rw [List.drop_eq_getElem_cons hkl]
      congr 1
      have := List.getElem?_eq_getElem hkl
      rw [eg] at this
      exact (Option.some.inj this).symm
    rw [ed] at hk
    unfold dmE at hk
    refine ⟨_, ge_name, ?_⟩
    refine hb_if (b := !decide (g ∈ ns)) (tr_cmp (er_v 2 rfl rfl) (er_fldO (er_v 0 rfl rfl) List.mem_cons_self Y.cls Y.nw rfl) (bop_niQ isq_L)) (fun hb => ?_) (fun hb => hb_nil ?_)
    · have h : ¬ g ∈ ns := by simpa using hb
      rw [if_neg h] at hk
      exact hb_err Tu (hr.mono (by decide)) (ar_cons (er_v 2 rfl rfl) ar_nil) ⟨_, [], by rw [hk]; rfl, fun _ _ _ h => h, rfl⟩ fun v G h => ⟨g, h, Nat.le_trans (ok.nm g hg) (by decide)⟩
    have h : g ∈ ns := by simpa using hb
    rw [if_pos h] at hk
    obtain ⟨p, hp, ep, ev, ef⟩ := valQ_mem hg
    have sv := valQ_sz (g := g) ok.ok
    have gt : ∀ {F : Fx} {ω : Ow} {ρ : Ty} {o ix : Expr} {pos : Pos}, ER F ρ ω o (rDct (fsQ R dm)) ω → ER F ρ ω ix (rStr g) ω → Room 5 F.X.A → NoSl ix → ER F ρ ω (.Subscript o ix pos) (rRat R (valQ dm g)) ω := fun h1 h2 h3 h4 => er_dget (k := .inr g) h1 h2 isd_frz (by rw [valR_Q, ef, ev]; rfl) h3 h4
    refine hb_if (b := decide (valQ dm g < 0)) (tr_val (er_m X.Tu X.X.cx.cls hr (gt (er_v 1 rfl rfl) (er_v 2 rfl rfl) hr (by exact fun _ _ => rfl)) (ar_cons (er_cm X.Tw hr (er_gC X.X.gC) (ar_cons er_int ar_nil) (pWholeOk (n := 0))) ar_nil) (pUnderOk (sv.mono (by decide)) (sz_zero.mono (by decide))))) (fun hb => ?_) (fun hb => hb_nil (hb_nil ?_))
    · have hb := of_decide_eq_true hb
      rw [if_pos hb] at hk
      exact hb_err Tr (hr.mono (by decide)) (ar_cons (gt (er_v 1 rfl rfl) (er_v 2 rfl rfl) hr (by exact fun _ _ => rfl)) ar_nil) ⟨_, [], by rw [hk]; rfl, fun _ _ _ h => h, rfl⟩ fun v G h => ⟨⟨valQ dm g, sv.mono (by decide)⟩, h⟩
    · have hb := of_decide_eq_false hb
      rw [if_neg hb] at hk
      exact ⟨rfl, hk, _, rfl⟩
  · rintro ρ w ⟨rfl, hk, z, rfl⟩
    rw [List.length_map, List.drop_length] at hk
    have hk : demE ns dm = none := hk
    rw [hk]
    refine hb_ret (er_eq (er_lc (xs := ns) (A := rStr) (B := fun g => rRat R (valQ dm g)) (it_lst (er_fldO (er_v 0 rfl rfl) List.mem_cons_self Y.cls Y.nw rfl)) (by omega) [("good", 2)] (blkOk_by (N := N_Hidden_row) (sc := defScope s_Hidden_row) (by decide +kernel)) (fun _ _ _ _ _ => pg_name (i := 2) nd rfl (Or.inl rfl)) (fun _ _ _ => gew_name) (fun i g hg s1 H1 cc cl' fp d => er_eq (er_dget2 (k := .inr g) (er_v 1 rfl rfl) (er_v 2 rfl rfl) (er_cm X.Tw hr (er_gC X.X.gC) (ar_cons er_int ar_nil) (pWholeOk (n := 0))) isd_frz isd_frz hr) valR_Qget) nd) (by unfold rowQ; rw [List.map_map]; rfl)) ⟨_, [], rfl, fun v G h => h, rfl⟩
end
end W1
set_option maxRecDepth 100000
set_option maxHeartbeats 1000000
set_option exponentiation.threshold 20000
namespace W1
open PySem PySem.Spec PyProof.Rows L2 NdefX TL NumText
theorem cutR_init' {As : List Rl} {A : Rl} : cutR (As ++ [A]) none (some (-1)) = As := by
  unfold cutR HT.sIx
  simp
  rw [show (-1 + ((As.length : Int) + 1)).toNat = As.length by omega, List.take_left']
  rfl
theorem bt_boolT : bootBuiltins "bool" = some (.type "bool") := by decide +kernel
theorem bop_eqNil {F : Fx} {w : Ow} {A : Rl} {As : List Rl} (hr : Room 1 F.X.A) : Bop F w (compareOp .Eq) (rLst (As ++ [A])) (rLst []) (rBool false) := by
  have h := bop_eqL (F := F) (w := w) (n := 0) (Rs := As ++ [A]) (Ss := []) (e := fun _ => true) (fun i R S _ h => by simp at h) hr
  rw [show decide ((As ++ [A]).length = ([] : List Rl).length) = false from decide_eq_false (by simp)] at h
  exact h
section
variable {P : Program} {w : World} {K : PySem.W.Frag} {mg : Str → Option Value} {base : Heap} {C M N D U R Hd f : Addr} {fd : FuncData} {tk1 tk2 : Tok}
structure TlX (P : Program) (w : World) (K : PySem.W.Frag) (mg : Str → Option Value) (base : Heap) (Hd M U R : Addr) (tk1 : Tok) : Prop where
  Y : HdX K mg Hd
  X : RtX P w K mg base R M
  Tr : Km P w K mg base Hd "row" 6 (pRowH Hd M U R)
  Tf : Km P w K mg base Hd "fits" 11 (pFits Hd R)
  Tb : Ko P w K mg base R "__bool__" 5 (pBool R)
  Ti : Ke P w K mg base M "BadNumber" "n" 1 prInt
  Tq : Ke P w K mg base M "BadNumber" "n" 4 (prRat R)
  gF : mg "MOST_FACTS" = some (.int 8 tk1)
  any : mg "any" = none
  bool : mg "bool" = none
  len : mg "len" = none
theorem hid_put {q : Addr} {ns : List Str} {F : List Fct} {p : Fct} : putR "facts" (rLst (F.map (fcR R) ++ [fcR R p])) (hidF R ns F) = hidF R ns (F ++ [p]) := by
  unfold hidF
  rw [List.map_append]
  rfl
theorem kf_tellE (Fn : Fun K "tell" "Hidden.tell" s_Hidden_tell f fd) (Z : TlX P w K mg base Hd M U R tk1) : FnOk P w K mg base (L2.CX P w) 12 f fd P_Hidden_tell (spM (pTellE Hd M U R)) := by
  refine fn_ok Fn c_Hidden_tell (fun _ _ _ _ ⟨_, _, _, _, _, _, _, _, _, _, _, h, _⟩ => by rw [h]; rfl) ?_
  rintro cdv A outer s H E ⟨_, G0, H0, M', W', tk⟩ hr rfl Rs ω o ω' ⟨q, ns, F, dm, h, x, ok, n4, hz, l8, he, rfl, rfl, rfl, rfl⟩
  have nd := c_Hidden_tell.nd
  have r5 := hr.mono (show 5 ≤ 11 by decide)
  have r6 := hr.mono (show 6 ≤ 11 by decide)
  have r7 := hr.mono (show 7 ≤ 11 by decide)
  have r2 := hr.mono (show 2 ≤ 11 by decide)
  unfold tlE at he
  cases ed : demE ns dm with
  | some y =>
    rw [ed] at he
    cases he
    exact hb_setX 3 (ex_mO (wc := [(q, oIns Hd (hidF R ns F))]) (wc' := [(q, oIns Hd (hidF R ns F))]) (w := []) (P := errD M U R y) Z.Tr Z.Y.cls r6 (er_v 0 rfl rfl) List.mem_cons_self (ar_cons (er_v 1 rfl rfl) ar_nil) ⟨q, ns, F, dm, ok, n4, rfl, rfl, rfl, by unfold rowO; rw [ed]⟩) ⟨_, [], rfl, fun _ _ _ k => k, rfl⟩ nd
  | none =>
    rw [ed] at he
    dsimp only at he
    have lr : (rowQ ns dm).length ≤ 4 := by unfold rowQ; rw [List.length_map]; exact n4
    refine hb_setA (R := rLst ((rowQ ns dm).map (rRat R))) 3 rfl (er_mO (wc := [(q, oIns Hd (hidF R ns F))]) (wc' := [(q, oIns Hd (hidF R ns F))]) (w := []) Z.Tr Z.Y.cls r6 (er_v 0 rfl rfl) List.mem_cons_self (ar_cons (er_v 1 rfl rfl) ar_nil) ⟨q, ns, F, dm, ok, n4, rfl, rfl, rfl, by unfold rowO; rw [ed]⟩) ?_
    refine hb_if (b := !((rowQ ns dm).map fun x => x.num != 0).any id) (w1 := [(q, oIns Hd (hidF R ns F))]) (tr_not (tr_val (er_bA (ar_cons (er_eq (S := rLst (((rowQ ns dm).map fun x => x.num != 0).map rBool)) (er_lc (xs := rowQ ns dm) (A := rRat R) (B := fun x => rBool (x.num != 0)) (it_lst (er_v 3 rfl rfl)) (by omega) [("part", 4)] (blkOk_by (N := N_Hidden_tell) (sc := defScope s_Hidden_tell) (by decide +kernel)) (fun _ _ _ _ _ => pg_name (i := 4) nd rfl (Or.inl rfl)) (fun _ _ _ => gew_name) (fun i x hx s1 H1 cc cl' fp d => er_tA (ar_cons (er_v 4 rfl rfl) ar_nil) Z.bool bt_boolT (cop_oB Z.Tb r7 pBoolOk)) nd) (by rw [List.map_map]; rfl)) ar_nil) Z.any bt_any (cop_any rfl)))) (fun hb => ?_) (fun hb => hb_nil ?_)
    · have hb : ((rowQ ns dm).map fun x => x.num != 0).any id = false := by simpa using hb
      rw [if_neg (by rw [hb]; decide)] at he
      cases he
      exact hb_err Z.Tq r5 (ar_cons (er_cm Z.X.Tw r5 (er_gC Z.X.X.gC) (ar_cons er_int ar_nil) (pWholeOk (n := 0))) ar_nil) ⟨_, [], rfl, fun _ _ _ k => k, rfl⟩ fun v G k => ⟨⟨0, sz_zero.mono (by decide)⟩, k⟩
    have hb : ((rowQ ns dm).map fun x => x.num != 0).any id = true := by simpa using hb
    rw [if_pos hb] at he
    refine hb_if (b := !decide (0 < h)) (w1 := [(q, oIns Hd (hidF R ns F))]) (tr_not (tr_val (er_m Z.X.Tu Z.X.X.cx.cls r5 (er_cm Z.X.Tw r5 (er_gC Z.X.X.gC) (ar_cons er_int ar_nil) (pWholeOk (n := 0))) (ar_cons (er_v 2 rfl rfl) ar_nil) (pUnderOk (sz_zero.mono (by decide)) (hz.mono (by decide)))))) (fun hc => ?_) (fun hc => hb_nil ?_)
    · have hc : ¬ 0 < h := by simpa using hc
      rw [if_neg hc] at he
      cases he
      exact hb_err Z.Tq r5 (ar_cons (er_v 2 rfl rfl) ar_nil) ⟨_, [], rfl, fun _ _ _ k => k, rfl⟩ fun v G k => ⟨⟨h, hz.mono (by decide)⟩, k⟩
    have hc : 0 < h := by simpa using hc
    rw [if_pos hc] at he
    split at he
    · rename_i h8
      cases he
      refine hb_if (b := true) (w1 := [(q, oIns Hd (hidF R ns F))]) (tr_to (tr_cmp (er_bA (ar_cons (er_fldO (er_v 0 rfl rfl) List.mem_cons_self Z.Y.cls Z.Y.nf rfl) ar_nil) Z.len bt_len cop_lenL) (er_gI Z.gF) bop_eqI) (decide_eq_true (by rw [List.length_map, h8]; rfl))) (fun _ => ?_) (fun z => Bool.noConfusion z)
      exact hb_err Z.Ti r2 (ar_cons (er_bin (er_gI Z.gF) er_int bop_add) ar_nil) ⟨_, [], rfl, fun _ _ _ k => k, rfl⟩ fun v G k => ⟨9, k, by decide⟩
    · cases he
theorem kf_tellO (Fn : Fun K "tell" "Hidden.tell" s_Hidden_tell f fd) (Z : TlX P w K mg base Hd M U R tk1) : FnOk P w K mg base (L2.CX P w) 12 f fd P_Hidden_tell (spM (pTellO Hd R)) := by
  refine fn_ok Fn c_Hidden_tell (fun _ _ _ _ ⟨_, _, _, _, _, _, _, _, _, _, _, _, _, h, _⟩ => by rw [h]; rfl) ?_
  rintro cdv A outer s H E ⟨_, G0, H0, M', W', tk⟩ hr rfl Rs ω o ω' ⟨q, ns, F, dm, h, ok, n1, n2, hz, l8, he, fg, hf, rfl, rfl, rfl, rfl⟩
  have nd := c_Hidden_tell.nd
  have r5 := hr.mono (show 5 ≤ 11 by decide)
  have r6 := hr.mono (show 6 ≤ 11 by decide)
  have r7 := hr.mono (show 7 ≤ 11 by decide)
  unfold tlE at he
  cases ed : demE ns dm with
  | some y => rw [ed] at he; cases he
  | none =>
    rw [ed] at he
    dsimp only at he
    have lr : (rowQ ns dm).length ≤ 4 := by unfold rowQ; rw [List.length_map]; omega
    have hb : ((rowQ ns dm).map fun x => x.num != 0).any id = true := by
      cases e : ((rowQ ns dm).map fun x => x.num != 0).any id with
      | true => rfl
      | false => rw [if_neg (by rw [e]; decide)] at he; cases he
    rw [if_pos hb] at he
    have hc : 0 < h := by
      by_cases hc : 0 < h
      · exact hc
      · rw [if_neg hc] at he; cases he
    refine hb_setA (R := rLst ((rowQ ns dm).map (rRat R))) 3 rfl (er_mO (wc := [(q, oIns Hd (hidF R ns F))]) (wc' := [(q, oIns Hd (hidF R ns F))]) (w := []) Z.Tr Z.Y.cls r6 (er_v 0 rfl rfl) List.mem_cons_self (ar_cons (er_v 1 rfl rfl) ar_nil) ⟨q, ns, F, dm, ok, by omega, rfl, rfl, rfl, by unfold rowO; rw [ed]⟩) ?_
    refine hb_if (b := false) (w1 := [(q, oIns Hd (hidF R ns F))]) (tr_to (tr_not (tr_val (er_bA (ar_cons (er_eq (S := rLst (((rowQ ns dm).map fun x => x.num != 0).map rBool)) (er_lc (xs := rowQ ns dm) (A := rRat R) (B := fun x => rBool (x.num != 0)) (it_lst (er_v 3 rfl rfl)) (by omega) [("part", 4)] (blkOk_by (N := N_Hidden_tell) (sc := defScope s_Hidden_tell) (by decide +kernel)) (fun _ _ _ _ _ => pg_name (i := 4) nd rfl (Or.inl rfl)) (fun _ _ _ => gew_name) (fun i x hx s1 H1 cc cl' fp d => er_tA (ar_cons (er_v 4 rfl rfl) ar_nil) Z.bool bt_boolT (cop_oB Z.Tb r7 pBoolOk)) nd) (by rw [List.map_map]; rfl)) ar_nil) Z.any bt_any (cop_any rfl)))) (by rw [hb]; rfl)) (fun z => Bool.noConfusion z) (fun _ => hb_nil ?_)
    refine hb_if (b := false) (w1 := [(q, oIns Hd (hidF R ns F))]) (tr_to (tr_not (tr_val (er_m Z.X.Tu Z.X.X.cx.cls r5 (er_cm Z.X.Tw r5 (er_gC Z.X.X.gC) (ar_cons er_int ar_nil) (pWholeOk (n := 0))) (ar_cons (er_v 2 rfl rfl) ar_nil) (pUnderOk (sz_zero.mono (by decide)) (hz.mono (by decide)))))) (by rw [show decide (((0 : Int) : Rat) < h) = true from decide_eq_true hc]; rfl)) (fun z => Bool.noConfusion z) (fun _ => hb_nil ?_)
    refine hb_if (b := false) (w1 := [(q, oIns Hd (hidF R ns F))]) (tr_to (tr_cmp (er_bA (ar_cons (er_fldO (er_v 0 rfl rfl) List.mem_cons_self Z.Y.cls Z.Y.nf rfl) ar_nil) Z.len bt_len cop_lenL) (er_gI Z.gF) bop_eqI) (decide_eq_false (by rw [List.length_map]; omega))) (fun z => Bool.noConfusion z) (fun _ => hb_nil ?_)
    have ef : F.map (fcR R) ++ [fcR R (rowQ ns dm, h)] = (F ++ [(rowQ ns dm, h)]).map (fcR R) := by rw [List.map_append]; rfl
    have lst : ∀ {F1 : Fx} {ρ : Ty} {o e2 : Expr} {p1 p2 p3 p4 : Pos} {k : Nat}, True := fun {_ _ _ _ _ _ _ _ _} => trivial
    refine hb_if (b := false) (w1 := [(q, oIns Hd (hidF R ns F))]) (tr_to (tr_not (tr_val (er_mO (wc := [(q, oIns Hd (hidF R ns F))]) (wc' := [(q, oIns Hd (hidF R ns F))]) (w := []) Z.Tf Z.Y.cls hr (er_v 0 rfl rfl) List.mem_cons_self (ar_cons (er_eq (S := rLst ((F ++ [(rowQ ns dm, h)]).map (fcR R))) (er_lst (Rs := F.map (fcR R) ++ [fcR R (rowQ ns dm, h)]) (ar_star (er_fldO (er_v 0 rfl rfl) List.mem_cons_self Z.Y.cls Z.Y.nf rfl) isq_L (ar_cons (er_tup (Rs := [rLst ((rowQ ns dm).map (rRat R)), rRat R h]) (ar_cons (er_v 3 rfl rfl) (ar_cons (er_v 2 rfl rfl) ar_nil)) (Nat.le_of_ble_eq_true rfl)) ar_nil)) (by rw [List.length_append, List.length_map]; show F.length + 1 ≤ 1000; omega)) (congrArg rLst ef)) ar_nil) ⟨q, ns, F, F ++ [(rowQ ns dm, h)], fg, n1, n2, rfl, rfl, rfl, rfl⟩))) (by rw [hf]; rfl)) (fun z => Bool.noConfusion z) (fun _ => hb_nil ?_)
    refine hb_fld (R := rLst (F.map (fcR R) ++ [fcR R (rowQ ns dm, h)])) (w2 := []) (er_lst (Rs := F.map (fcR R) ++ [fcR R (rowQ ns dm, h)]) (ar_star (er_fldO (er_v 0 rfl rfl) List.mem_cons_self Z.Y.cls Z.Y.nf rfl) isq_L (ar_cons (er_tup (Rs := [rLst ((rowQ ns dm).map (rRat R)), rRat R h]) (ar_cons (er_v 3 rfl rfl) (ar_cons (er_v 2 rfl rfl) ar_nil)) (Nat.le_of_ble_eq_true rfl)) ar_nil)) (by rw [List.length_append, List.length_map]; show F.length + 1 ≤ 1000; omega)) (er_v 0 rfl rfl) Z.Y.cls Z.Y.nf ?_ (hl := by show 2 < 1000; decide)
    rw [hid_put (q := q)]
    exact hb_ret er_bl ⟨_, [], rfl, fun v G k => k, rfl⟩
theorem kf_told17 (Fn : Fun K "told" "Hidden.told" s_Hidden_told f fd) (Y : HdX K mg Hd) (Tb : Ko P w K mg base R "__bool__" 5 (pBool R)) (zp : mg "zip" = none) : FnOk P w K mg base (L2.CX P w) 6 f fd P_Hidden_told (spM (pTold17 Hd R)) := by
  refine fn_ok Fn c_Hidden_told (fun _ _ _ _ ⟨_, _, _, _, _, _, h, _⟩ => by rw [h]; rfl) ?_
  rintro cdv A outer s H E ⟨_, G0, H0, M', W', tk⟩ hr rfl Rs ω o ω' ⟨q, ns, F, n4, l9, hl, rfl, rfl, rfl, rfl⟩
  have nd := c_Hidden_told.nd
  refine hb_setNA 1 rfl (en_lst (Rs := []) ar_nil (Nat.zero_le _)) fun qf hqf => ?_
  refine hb_for (it_lst (er_fldO (er_v 0 rfl rfl) (List.mem_cons_of_mem _ List.mem_cons_self) Y.cls Y.nf rfl)) (fun k ρ w => ∃ z2 z3, ρ = [some (rRef q), some (rRef qf), z2, z3, none, none] ∧ w = [(qf, oL ((F.take k).map (tdR R ns))), (q, oIns Hd (hidF R ns F))]) ⟨none, none, rfl, rfl⟩ ?_ ?_ (passes_of rfl) (pg_tup rfl (pgs_cons (pg_name (i := 2) nd rfl (Or.inl rfl)) (pgs_cons (pg_name (i := 3) nd rfl (Or.inl rfl)) pgs_nil)))
  · rintro k ρ w S hS ⟨z2, z3, rfl, rfl⟩
    obtain ⟨p, ep, rfl⟩ := map_get hS
    have et : F.take (k + 1) = F.take k ++ [p] := by rw [List.take_add_one, ep]; rfl
    have lp := hl p (List.mem_of_getElem? ep)
    refine ⟨_, ge_tup (ges_cons ge_name (ges_cons ge_name ges_nil)) rfl, ?_⟩
    refine hb_append (R := tdR R ns p) (w2 := [(q, oIns Hd (hidF R ns F))]) (er_v 1 rfl rfl) List.mem_cons_self (ar_cons (er_tup (Rs := [rDct (nzD R ns p.1), rRat R p.2]) (ar_cons (er_frz (en_dcf (xs := ns.zip p.1) (A := fun y : Str × Rat => rTup [rStr y.1, rRat R y.2]) (B := fun y : Str × Rat => rRat R y.2) (kf := fun y : Str × Rat => .inr y.1) (p := fun y : Str × Rat => y.2.num != 0) (by rw [← zip_wares]; exact it_zip2 (b := true) (ar_cons (er_fldO (er_v 0 rfl rfl) (List.mem_cons_of_mem _ List.mem_cons_self) Y.cls Y.nw rfl) (ar_cons (er_v 2 rfl rfl) ar_nil)) (by rw [List.length_map, List.length_map, lp]) rfl zp) (by rw [List.length_zip]; omega) [("good", 4), ("part", 5)] (blkOk_by (N := N_Hidden_told) (sc := defScope s_Hidden_told) (by decide +kernel)) (fun _ _ _ _ _ => pg_tup rfl (pgs_cons (pg_name (i := 4) nd rfl (Or.inl rfl)) (pgs_cons (pg_name (i := 5) nd rfl (Or.inl rfl)) pgs_nil))) (fun _ _ _ => gew_tup2) (fun i y hy s1 H1 cc cl' fp d => tr_o Tb hr (er_v 5 rfl rfl) pBoolOk) (fun i y hy _ s1 H1 cc cl' fp d => er_v 4 rfl rfl) (fun i y hy _ s1 H1 cc cl' fp d => er_v 5 rfl rfl) nd)) (ar_cons (er_v 3 rfl rfl) ar_nil)) (Nat.le_of_ble_eq_true rfl)) ar_nil) (by rw [List.length_map, List.length_take]; omega) ?_
    refine hb_nil ⟨_, _, rfl, ?_⟩
    rw [et, List.map_append]
    rfl
  · rintro ρ w ⟨z2, z3, rfl, rfl⟩
    rw [List.length_map, List.take_length]
    refine hb_pub 1 rfl hqf pub_lst ?_
    exact hb_ret (er_v 1 rfl rfl) ⟨_, [], rfl, fun v G h => h, rfl⟩
theorem kf_undo17 (Fn : Fun K "undo" "Hidden.undo" s_Hidden_undo f fd) (Y : HdX K mg Hd) : FnOk P w K mg base (L2.CX P w) 2 f fd P_Hidden_undo (spM (pUndo Hd R)) := by
  refine fn_ok Fn c_Hidden_undo (fun _ _ _ _ ⟨_, _, _, _, h, _⟩ => by rw [h]; rfl) ?_
  rintro cdv A outer s H E ⟨_, G0, H0, M', W', tk⟩ hr rfl Rs ω o ω' ⟨q, ns, F, p, rfl, rfl, rfl, rfl⟩
  have nd := c_Hidden_undo.nd
  have ef : rLst ((F ++ [p]).map (fcR R)) = rLst (F.map (fcR R) ++ [fcR R p]) := by rw [List.map_append]; rfl
  have fld : ∀ {F1 : Fx} {ρ : Ty}, True := fun {_ _} => trivial
  refine hb_if (b := false) (w1 := [(q, oIns Hd (hidF R ns (F ++ [p])))]) (tr_cmp (er_eq (er_fldO (er_v 0 rfl rfl) List.mem_cons_self Y.cls Y.nf rfl) ef) (er_lst (Rs := []) ar_nil (Nat.zero_le _)) (bop_eqNil hr)) (fun z => Bool.noConfusion z) (fun _ => hb_nil ?_)
  refine hb_fld (R := rLst (F.map (fcR R))) (w2 := []) (er_eq (er_slice (er_eq (er_fldO (er_v 0 rfl rfl) List.mem_cons_self Y.cls Y.nf rfl) ef) pr_none (pr_some (er_un er_int uop_neg)) sop_L) (congrArg rLst (show cutR (F.map (fcR R) ++ [fcR R p]) none (some (-1)) = _ from cutR_init'))) (er_v 0 rfl rfl) Y.cls Y.nf ?_ (hl := by show 2 < 1000; decide)
  exact hb_nil ⟨rNon, [], rfl, fun _ => rfl, rfl⟩
end
end W1
set_option maxRecDepth 100000
set_option maxHeartbeats 1000000
set_option exponentiation.threshold 20000
namespace W1
open PySem PySem.Spec PyProof.Rows L2 NdefX TL NumText
/-! ### facts of one price list fit (plain) -/
theorem gSwap_same {M : Mtx} {a : Nat} (h : a < M.length) : gSwap M a a = M := by
  unfold gSwap rwM
  rw [List.set_set]
  refine List.ext_getElem? fun i => ?_
  rw [List.getElem?_set]
  split
  · rename_i e
    subst e
    rw [List.getD_eq_getElem?_getD, List.getElem?_eq_getElem h]
    simp
  · rfl
theorem num_ne {x : Rat} (h : x ≠ 0) : (x.num != 0) = true := by
  rw [bne_iff_ne]
  exact fun e => h (Rat.num_eq_zero.mp e)
theorem slv1 {r h p : Rat} (hr : r ≠ 0) (e : h = r * p) : slv (mkM [[r]] [h]) = some [p] := by
  have g0 : gPl [[r, h]] 0 = [0] := by
    unfold gPl
    show List.map _ (List.filter _ (List.range 1)) = _
    rw [show List.range 1 = [0] from rfl, List.filter_cons]
    rw [show (atQ (rwM [[r, h]] (0 + 0)) 0).num != 0 from num_ne hr]
    rfl
  have s0 : gStep [[r, h]] 0 = some [[r / r, h / r]] := by
    unfold gStep
    rw [g0]
    dsimp only
    rw [gSwap_same (by show 0 < 1; decide)]
    rfl
  unfold slv
  show (gRun [[r, h]] 1).map _ = _
  unfold gRun
  show Option.map _ ((gRun [[r, h]] 0).bind _) = _
  unfold gRun
  show Option.map _ (gStep [[r, h]] 0) = _
  rw [s0]
  show some [h / r] = some [p]
  rw [e]
  congr 2
  rw [Rat.mul_comm, Rat.div_def, Rat.mul_assoc, Rat.mul_inv_cancel _ hr, Rat.mul_one]
theorem slv2 {a b e c d f x y : Rat} (ha : a ≠ 0) (hd : a * d - b * c ≠ 0) (e1 : e = a * x + b * y) (e2 : f = c * x + d * y) : slv (mkM [[a, b], [c, d]] [e, f]) = some [x, y] := by
  have hd' : d - c * (b / a) ≠ 0 := fun z => hd (by
    have : a * (d - c * (b / a)) = 0 := by rw [z]; exact Rat.mul_zero _
    grind)
  have g0 : ∃ t, gPl [[a, b, e], [c, d, f]] 0 = 0 :: t := by
    unfold gPl
    show ∃ t, List.map _ (List.filter _ (List.range 2)) = _
    rw [show List.range 2 = [0, 1] from rfl, List.filter_cons]
    rw [show (atQ (rwM [[a, b, e], [c, d, f]] (0 + 0)) 0).num != 0 from num_ne ha]
    exact ⟨_, rfl⟩
  obtain ⟨t, g0⟩ := g0
  have s0 : gStep [[a, b, e], [c, d, f]] 0 = some [[a / a, b / a, e / a], [c - c * (a / a), d - c * (b / a), f - c * (e / a)]] := by
    unfold gStep
    rw [g0]
    dsimp only
    rw [gSwap_same (by show 0 < 2; decide)]
    rfl
  have g1 : gPl [[a / a, b / a, e / a], [c - c * (a / a), d - c * (b / a), f - c * (e / a)]] 1 = [1] := by
    unfold gPl
    show List.map _ (List.filter _ (List.range 1)) = _
    rw [show List.range 1 = [0] from rfl, List.filter_cons]
    rw [show (atQ (rwM [[a / a, b / a, e / a], [c - c * (a / a), d - c * (b / a), f - c * (e / a)]] (1 + 0)) 1).num != 0 from num_ne hd']
    rfl
  have s1 : ∃ u v, gStep [[a / a, b / a, e / a], [c - c * (a / a), d - c * (b / a), f - c * (e / a)]] 1 = some [[u, v, e / a - b / a * ((f - c * (e / a)) / (d - c * (b / a)))], [(c - c * (a / a)) / (d - c * (b / a)), (d - c * (b / a)) / (d - c * (b / a)), (f - c * (e / a)) / (d - c * (b / a))]] := by
    unfold gStep
    rw [g1]
    dsimp only
    rw [gSwap_same (by show 1 < 2; decide)]
    exact ⟨_, _, rfl⟩
  obtain ⟨u, v, s1⟩ := s1
  have r1 : gRun [[a, b, e], [c, d, f]] 1 = some [[a / a, b / a, e / a], [c - c * (a / a), d - c * (b / a), f - c * (e / a)]] := by
    unfold gRun
    show ((gRun [[a, b, e], [c, d, f]] 0).bind _) = _
    unfold gRun
    exact s0
  unfold slv
  show (gRun [[a, b, e], [c, d, f]] 2).map _ = _
  unfold gRun
  rw [r1]
  show Option.map _ (gStep _ 1) = _
  rw [s1]
  show some [e / a - b / a * ((f - c * (e / a)) / (d - c * (b / a))), (f - c * (e / a)) / (d - c * (b / a))] = some [x, y]
  have hy : (f - c * (e / a)) / (d - c * (b / a)) = y := by
    have key : f - c * (e / a) = y * (d - c * (b / a)) := by
      rw [e1, e2]
      grind
    rw [key, Rat.div_def, Rat.mul_assoc, Rat.mul_inv_cancel _ hd', Rat.mul_one]
  rw [hy]
  have hx : e / a - b / a * y = x := by
    rw [e1]
    grind
  rw [hx]
theorem crnS_sub {F : List Fct} {acc : List (List Rat)} {l : List Fct} {pt : List Rat} (h : pt ∈ acc) : pt ∈ crnS F acc l := by
  unfold crnS
  cases slv (mkM (l.map (·.1)) (l.map (·.2))) with
  | none => exact h
  | some q =>
    dsimp only
    split
    · exact List.mem_append_left _ h
    · exact h
theorem crn_keep {F : List Fct} {pt : List Rat} : ∀ (ls : List (List Fct)) (acc : List (List Rat)), pt ∈ acc → pt ∈ ls.foldl (crnS F) acc
  | [], _, h => h
  | l :: ls, acc, h => crn_keep ls _ (crnS_sub h)
theorem crn_hit {F : List Fct} {pt : List Rat} {l : List Fct} (e : slv (mkM (l.map (·.1)) (l.map (·.2))) = some pt) (ha : alw F pt = true) : ∀ (ls : List (List Fct)) (acc : List (List Rat)), l ∈ ls → pt ∈ ls.foldl (crnS F) acc
  | l0 :: ls, acc, h => by
    rcases List.mem_cons.mp h with rfl | h
    · refine crn_keep ls _ ?_
      rw [crnS_some e]
      split
      · exact List.mem_append_right _ (List.mem_singleton.mpr rfl)
      · rename_i hn
        by_cases hp : pt ∈ acc
        · exact hp
        · exact absurd ⟨hp, ha⟩ hn
    · exact crn_hit e ha ls _ h
theorem fit_of {n : Nat} {F : List Fct} {pt : List Rat} {l : List Fct} (hl : l ∈ lotsF n (F ++ axes n)) (e : slv (mkM (l.map (·.1)) (l.map (·.2))) = some pt) (h0 : ∀ x ∈ pt, 0 ≤ x) (ht : ∀ f ∈ F, dotQ f.1 pt = f.2) : fitB n F = true := by
  have ha : alw F pt = true := by
    unfold alw
    rw [Bool.and_eq_true]
    refine ⟨?_, ?_⟩
    · rw [Bool.not_eq_true', List.any_eq_false]
      intro b hb
      obtain ⟨x, hx, rfl⟩ := List.mem_map.mp hb
      simp only [id_eq, decide_eq_true_eq]
      exact Rat.not_lt.mpr (h0 x hx)
    · rw [Bool.not_eq_true', List.any_eq_false]
      intro b hb
      obtain ⟨p, hp, rfl⟩ := List.mem_map.mp hb
      simp only [id_eq, decide_eq_true_eq]
      rw [ht p hp]
      exact Rat.lt_irrefl
  have hm : pt ∈ crn n F := crn_hit e ha _ _ hl
  unfold fitB
  refine List.all_eq_true.mpr fun b hb => ?_
  obtain ⟨p, hp, rfl⟩ := List.mem_map.mp hb
  exact List.any_eq_true.mpr ⟨_, List.mem_map.mpr ⟨pt, hm, rfl⟩, decide_eq_true (ht p hp)⟩
theorem lots1 {α : Type} {x : α} : ∀ {L : List α}, x ∈ L → [x] ∈ lotsF 1 L
  | y :: L, h => by
    rw [lotsF_cons]
    rcases List.mem_cons.mp h with rfl | h
    · exact List.mem_append_left _ (List.mem_map.mpr ⟨[], by unfold lotsF; exact List.mem_singleton.mpr rfl, rfl⟩)
    · exact List.mem_append_right _ (lots1 h)
theorem lots2 {α : Type} {x y : α} : ∀ {A B : List α}, y ∈ B → [x, y] ∈ lotsF 2 (A ++ x :: B)
  | [], B, h => by
    rw [List.nil_append, lotsF_cons]
    exact List.mem_append_left _ (List.mem_map.mpr ⟨[y], lots1 h, rfl⟩)
  | a :: A, B, h => by
    rw [List.cons_append, lotsF_cons]
    exact List.mem_append_right _ (lots2 h)
/-- facts of one price list -/
structure FctT (n : Nat) (pv : List Rat) (F : List Fct) : Prop where
  ne : F ≠ []
  lp : pv.length = n
  pos : ∀ x ∈ pv, 0 ≤ x
  len : ∀ f ∈ F, f.1.length = n
  hd : ∀ f ∈ F, atQ f.1 0 ≠ 0
  nn : ∀ f ∈ F, ∀ x ∈ f.1, 0 ≤ x
  eq : ∀ f ∈ F, f.2 = dotQ f.1 pv
theorem dot1 {a p : Rat} : dotQ [a] [p] = a * p := by
  show (0 : Rat) + a * p = _
  exact Rat.zero_add _
theorem dot2 {a b p q : Rat} : dotQ [a, b] [p, q] = a * p + b * q := by
  show (0 : Rat) + a * p + b * q = _
  rw [Rat.zero_add]
theorem fits_T {n : Nat} {pv : List Rat} {F : List Fct} (hn : n = 1 ∨ n = 2) (h : FctT n pv F) : fitB n F = true := by
  obtain ⟨f0, F', rfl⟩ : ∃ f0 F', F = f0 :: F' := by
    cases F with
    | nil => exact absurd rfl h.ne
    | cons f0 F' => exact ⟨f0, F', rfl⟩
  rcases hn with rfl | rfl
  · match pv, h.lp with
    | [p], _ =>
      obtain ⟨r0, h0⟩ := f0
      have l0 := h.len (r0, h0) List.mem_cons_self
      match r0, l0 with
      | [r], _ =>
        have hr : r ≠ 0 := h.hd ([r], h0) List.mem_cons_self
        have e0 := h.eq ([r], h0) List.mem_cons_self
        refine fit_of (l := [([r], h0)]) (pt := [p]) (lots1 List.mem_cons_self) (slv1 hr (by rw [← dot1]; exact e0)) h.pos fun f hf => (h.eq f hf).symm
  · match pv, h.lp with
    | [p, q], _ =>
      have two : ∀ f ∈ f0 :: F', ∃ a b, f = ([a, b], a * p + b * q) ∧ a ≠ 0 := fun f hf => by
        obtain ⟨r, hh⟩ := f
        have l := h.len (r, hh) hf
        match r, l with
        | [a, b], _ => exact ⟨a, b, by rw [show hh = _ from h.eq _ hf, dot2], h.hd _ hf⟩
      obtain ⟨a0, b0, e0, n0⟩ := two f0 List.mem_cons_self
      by_cases hx : ∃ f ∈ F', ∃ a b, f = ([a, b], a * p + b * q) ∧ a0 * b - b0 * a ≠ 0
      · obtain ⟨f, hf, a, b, ef, hd⟩ := hx
        refine fit_of (l := [f0, f]) (pt := [p, q]) (lots2 (A := []) (List.mem_append_left _ hf)) ?_ h.pos fun f hf => (h.eq f hf).symm
        rw [e0, ef]
        exact slv2 n0 hd rfl rfl
      · have prop : ∀ f ∈ f0 :: F', ∃ a b, f = ([a, b], a * p + b * q) ∧ a0 * b = b0 * a := fun f hf => by
          rcases List.mem_cons.mp hf with rfl | hf
          · exact ⟨a0, b0, e0, Rat.mul_comm _ _⟩
          · obtain ⟨a, b, ef, _⟩ := two f (List.mem_cons_of_mem _ hf)
            refine ⟨a, b, ef, ?_⟩
            by_cases hz : a0 * b - b0 * a ≠ 0
            · exact absurd ⟨f, hf, a, b, ef, hz⟩ hx
            · have hz : a0 * b - b0 * a = 0 := Classical.not_not.mp hz
              grind
        have hp := h.pos p List.mem_cons_self
        have hq := h.pos q (List.mem_cons_of_mem _ List.mem_cons_self)
        refine fit_of (l := [f0, ([0, 1], 0)]) (pt := [p + b0 / a0 * q, 0]) (lots2 (A := []) (List.mem_append_right _ (List.mem_cons_of_mem _ List.mem_cons_self))) ?_ ?_ ?_
        · rw [e0]
          exact slv2 n0 (by grind) (by grind) (by grind)
        · have a0n : 0 ≤ a0 := h.nn f0 List.mem_cons_self a0 (by rw [e0]; exact List.mem_cons_self)
          have b0n : 0 ≤ b0 := h.nn f0 List.mem_cons_self b0 (by rw [e0]; exact List.mem_cons_of_mem _ List.mem_cons_self)
          intro x hx
          rcases List.mem_cons.mp hx with rfl | hx
          · refine Rat.add_nonneg hp (Rat.mul_nonneg ?_ hq)
            rw [Rat.div_def]
            refine Rat.mul_nonneg b0n (Rat.not_lt.mp fun z => ?_)
            have h1 : 0 ≤ a0 * -(a0⁻¹) := Rat.mul_nonneg a0n (by grind)
            have h2 := Rat.mul_inv_cancel a0 n0
            grind
          · rw [List.mem_singleton.mp hx]
            exact Rat.le_refl
        · intro f hf
          obtain ⟨a, b, ef, epr⟩ := prop f hf
          rw [ef]
          show dotQ [a, b] _ = a * p + b * q
          rw [dot2]
          grind
end W1
set_option maxRecDepth 100000
set_option maxHeartbeats 1000000
set_option exponentiation.threshold 20000
namespace W1
open PySem PySem.Spec PyProof.Rows L2 NdefX TL NumText
/-! ### rules: l[::-1], is not True, lists owned -/
section
variable {F : Fx} {ρ : Ty} {ω w w1 : Ow} {e : Expr} {Rs Ss : List Rl} {pos p1 p2 p3 : Pos} {k n : Nat} {q : Addr} {A : Rl}
theorem bop_notB {a b : Bool} : Bop F w (compareOp .IsNot) (rBool a) (rBool b) (rBool (!decide (a = b))) := ⟨_, op_notBl, fun x y G H at_ hx hy Q z => ⟨a, b, hx, hy, z _ G H (Same.refl _) at_ rfl⟩⟩
theorem sop_LO {v u : Option Int} (hm : (q, oL Rs) ∈ w) : Sop F w (rRef q) v u (rLst (cutR Rs v u)) := ⟨_, sl_list, fun x G H at_ hx Q z => by
  cases (show x = V.ref q from hx)
  obtain ⟨_, _, o, h1, vs, rfl, h2⟩ := at_.ow _ hm
  refine ⟨q, vs, rfl, SqL.of h1, fun l hl => ?_⟩
  have st := Step.new (o := .lst (cutV vs v u)) at_.gh hl
  refine z _ _ _ st.gg (at_.step st) ⟨l, _, rfl, upd_same, ?_⟩
  unfold cutR cutV
  rw [h2.len]
  exact ((h2.drop _).take _).up st.gg⟩
theorem bop_neLO {b : Nat → Bool} (hm : (q, oL Ss) ∈ w) (he : ∀ (i : Nat) R S, Rs[i]? = some R → Ss[i]? = some S → EqB F.X n R S (b i)) (hr : Room (n + 1) F.X.A) : Bop F w (compareOp .NotEq) (rLst Rs) (rRef q) (rBool (!(decide (Rs.length = Ss.length) && W1Q.allFrom b 0 Rs.length))) :=
  bop_semH (fun x G H at_ h => (rLst Rs).mo _ _ _ at_.gh h) (own_lst hm) fun pins s σ G H x y u v Q I rx ry sg ax ay z => by
    obtain ⟨p, vs, rfl, h1, h2⟩ := id ax
    obtain ⟨p2, ws, rfl, h3, h4⟩ := id ay
    cases (show u = Value.ref p from rx)
    cases (show v = Value.ref p2 from ry)
    show wpAny _ _ (richCompare .NotEq (.ref p) (.ref p2)) _ _ _
    exact rcnl he ⟨hr, rfl⟩ I sg h1 h3 h2 h4 fun s' ⟨G', H', I', st⟩ => ⟨V.bl _, H', I', rfl, z _ G' H' st rfl⟩
theorem bop_eqN0 (hr : Room 1 F.X.A) : Bop F w (compareOp .Eq) (rLst Rs) (rLst []) (rBool (decide (Rs = []))) := by
  have h := bop_eqL (F := F) (w := w) (n := 0) (Rs := Rs) (Ss := []) (e := fun _ => true) (fun i R S _ h => by simp at h) hr
  cases Rs with
  | nil => exact h
  | cons R l =>
    rw [show decide ((R :: l).length = ([] : List Rl).length) = false from decide_eq_false (by simp)] at h
    rw [show decide (R :: l = []) = false from decide_eq_false (by simp)]
    exact h
end
/-! ### the law's draws, hours, answers -/
theorem valQ_in {dm : Dm} (nd : (namesQ dm).Nodup) {p : Str × Rat} (h : p ∈ dm) : valQ dm p.1 = p.2 := by
  induction dm with
  | nil => cases h
  | cons a l ih =>
    have h2 := List.nodup_cons.mp nd
    unfold valQ
    rw [List.find?_cons]
    rcases List.mem_cons.mp h with rfl | h
    · rw [decide_eq_true rfl]
      rfl
    · rw [decide_eq_false (fun z => h2.1 (show a.1 ∈ l.map (·.1) by rw [z]; exact List.mem_map_of_mem (f := (·.1)) h))]
      exact ih h2.2 h
theorem bop_inV {F : Fx} {w : Ow} {B : Rl} {x : V} {xs : List V} (h : IsSq F B w (xs.map rEqV)) (fx : flatV x = true) (fs : xs.all flatV = true) : Bop F w (compareOp .In) (rEqV x) B (rBool (inV x xs)) := ⟨_, op_in_seq, fun u y G H at_ hx hy Q k => by
  cases (show u = x from hx)
  obtain ⟨p, vs, rfl, h1, h2⟩ := h y G H at_ hy
  have e : vs = xs := all2_vals (H := G) h2
  subst e
  exact ⟨p, _, rfl, h1, fx, fs, k _ G H (Same.refl _) at_ rfl⟩⟩

def tkR (s : Pool) (L : Int) : Int := if s.2.2 then s.1.fmod L else (((((s.1 * 7919 + (s.2.1 + 1) * 104729 + 23).fmod 2147483647) ^ 5).fmod 2147483647).fdiv 23).fmod L
theorem tkR_lt {s : Pool} {L : Int} (h : 0 < L) : 0 ≤ tkR s L ∧ tkR s L < L := by
  unfold tkR
  split <;> exact ⟨Int.fmod_nonneg_of_pos _ h, Int.fmod_lt_of_pos _ h⟩
def pTake : Pre := fun Rs w o w' => ∃ (q : Addr) (s : Pool) (L : Int), 0 < L ∧ L.natAbs < 2 ^ 9000 ∧ Rs = [rRef q, rInt L] ∧ w = [(q, oPool s)] ∧ w' = [(q, oPool (drS s L))] ∧ o = .ok (rInt (tkR s L))
theorem takeOk {q : Addr} {s : Pool} {L : Int} (h : 0 < L) (h2 : L.natAbs < 2 ^ 64) : pTake [rRef q, rInt L] [(q, oPool s)] (.ok (rInt (tkR s L))) [(q, oPool (drS s L))] := ⟨q, s, L, h, lt9000 h2 (by decide), rfl, rfl, rfl, rfl⟩
def wthQ (pr dm : Dm) : Rat := sumR (dm.map fun p => valQ pr p.1 * p.2)
def pWorth17 (R : Addr) : Pre := fun Rs w o w' => ∃ pr dm : Dm, (namesQ pr).Nodup ∧ (namesQ dm).Nodup ∧ dm.length ≤ 4 ∧ (∀ g ∈ namesQ dm, g ∈ namesQ pr) ∧ (∀ p ∈ pr, Sz 30 p.2) ∧ (∀ p ∈ dm, Sz 30 p.2) ∧ Rs = [rDct (fsQ R pr), rDct (fsQ R dm)] ∧ w = [] ∧ w' = [] ∧ o = .ok (rRat R (wthQ pr dm))
def ansT (R : Addr) : (Str ⊕ Rat) ⊕ Int → Rl
  | .inl (.inl g) => rLst [rStr (Str.ofString "name"), rStr g]
  | .inl (.inr q) => rLst [rStr (Str.ofString "number"), rRat R q]
  | .inr n => rLst [rStr (Str.ofString "number"), rInt n]
def pToldE (H R : Addr) : Pre := fun Rs w o w' => ∃ (q : Addr) (ns : List Str) (F : List Fct) (dm : Dm) (h : Rat) (x : (Str ⊕ Rat) ⊕ Int), DmS dm ∧ ns.length ≤ 4 ∧ Sz 100 h ∧ F.length ≤ 8 ∧ tlE ns F dm h = some x ∧ Rs = [rRef q, rDct (fsQ R dm), rRat R h] ∧ w = [(q, oIns H (hidF R ns F))] ∧ w' = [(q, oIns H (hidF R ns F))] ∧ o = .ok (ansT R x)
/-- what is due behind eight facts -/
def dueX (ns : List Str) (dm : Dm) (h : Rat) : (Str ⊕ Rat) ⊕ Int := match demE ns dm with
  | some x => .inl x
  | none => if ((namesQ dm).filter fun g => !decide (valQ dm g = 0)) = [] then .inl (.inr 0) else (if 0 < h then .inr 9 else .inl (.inr h))
def pDue17 (R : Addr) : Pre := fun Rs w o w' => ∃ (ns : List Str) (dm : Dm) (h : Rat), DmS dm ∧ Sz 100 h ∧ Rs = [rLst (ns.map rStr), rDct (fsQ R dm), rRat R h, rInt 8] ∧ w = [] ∧ w' = [] ∧ o = .ok (ansT R (dueX ns dm h))
structure ErT (K : PySem.W.Frag) (mg : Str → Option Value) (M U : Addr) : Prop where
  gM : mg "BadNumber" = some (.ref M)
  gU : mg "UnknownName" = some (.ref U)
  xM : XfC K M
  xU : XfC K U
  nM : PySem.W.findIn K (.ref M) "n" = some none
  nU : PySem.W.findIn K (.ref U) "name" = some none
  tUU : PySem.W.exmOne K (.ref U) (.ref U) = some true
  tMU : PySem.W.exmOne K (.ref M) (.ref U) = some false
  tMM : PySem.W.exmOne K (.ref M) (.ref M) = some true
section
variable {P : Program} {w : World} {K : PySem.W.Frag} {mg : Str → Option Value} {base : Heap} {C B M U R Hd f : Addr} {fd : FuncData}
theorem kf_pool17 (Fn : Fun K "_law_pool" "_law_pool" s__law_pool f fd) : FnOk P w K mg base (L2.CX P w) 1 f fd P__law_pool (spN pBag) := by
  refine fn_okN Fn c__law_pool (fun _ _ _ _ ⟨_, h, _⟩ => by rw [h]; rfl) ?_
  rintro cdv A outer s H E ⟨_, G0, H0, M, W, tk⟩ hr rfl Rs ω o ω' ⟨c, rfl, rfl, rfl, rfl⟩
  exact hb_retO (en_lst (ar_cons (er_var 0 rfl) (ar_cons er_int (ar_cons (er_cmp (er_var 0 rfl) (er_bin er_int er_int (bop_pow ⟨by decide, by decide, by decide⟩)) bop_ge) ar_nil))) (Nat.le_of_ble_eq_true rfl)) fun q hM => ⟨q, [], fun _ _ h => h, List.not_mem_nil, rfl⟩
theorem kf_take17 (Fn : Fun K "_law_take" "_law_take" s__law_take f fd) (int : mg "int" = none) : FnOk P w K mg base (L2.CX P w) 1 f fd P__law_take (spM pTake) := by
  refine fn_ok Fn c__law_take (fun _ _ _ _ ⟨_, _, _, _, _, h, _⟩ => by rw [h]; rfl) ?_
  rintro cdv A outer s H E ⟨_, G0, H0, M, W, tk⟩ hr rfl Rs ω o ω' ⟨q, ⟨c, n, g⟩, L, h0, hz, rfl, rfl, rfl, rfl⟩
  refine hb_sub (w3 := []) (er_bin (er_ixO (er_var 0 rfl) er_int List.mem_cons_self rfl rfl) er_int bop_add) (er_var 0 rfl) er_int rfl ?_
  refine hb_if (tr_val (er_ixO (er_var 0 rfl) er_int List.mem_cons_self rfl rfl)) (fun hg => ?_) (fun hg => hb_nil ?_)
  · have hg' : g = true := hg
    subst hg'
    refine hb_set 2 (er_bin (er_callTy cop_int rfl int bt_int (ar_cons (er_ixO (er_var 0 rfl) er_int List.mem_cons_self rfl rfl) ar_nil)) (er_var 1 rfl) (bop_mod (by omega))) ?_ c__law_take.nd
    refine hb_sub (w3 := []) (er_bin (er_callTy cop_int rfl int bt_int (ar_cons (er_ixO (er_var 0 rfl) er_int List.mem_cons_self rfl rfl) ar_nil)) (er_var 1 rfl) (bop_fdiv (divok (n := 9000) (by omega) hz))) (er_var 0 rfl) er_int rfl ?_
    exact hb_ret (er_var 2 rfl) ⟨_, [], rfl, fun _ _ h => h, rfl⟩
  · have hg' : g = false := hg
    subst hg'
    refine hb_set 3 (er_bin (er_callTy cop_int rfl int bt_int (ar_cons (er_bin (er_bin (er_bin (er_ixO (er_var 0 rfl) er_int List.mem_cons_self rfl rfl) er_int (bop_mul (IntMulOk.of_right (by decide)))) (er_bin (er_ixO (er_var 0 rfl) er_int List.mem_cons_self rfl rfl) er_int (bop_mul (IntMulOk.of_right (by decide)))) bop_add) er_int bop_add) ar_nil)) er_int (bop_mod (by decide))) ?_ c__law_take.nd
    exact hb_ret (er_bin (er_bin (er_callTy cop_int rfl int bt_int (ar_cons (er_bin (er_bin (er_var 3 rfl) er_int (bop_pow ⟨by decide, by decide, mod_lt⟩)) er_int (bop_mod (by decide))) ar_nil)) er_int (bop_fdiv ⟨by decide, by decide⟩)) (er_var 1 rfl) (bop_mod (by omega))) ⟨_, [], rfl, fun _ _ h => h, rfl⟩
theorem kf_at17 (Fn : Fun K "_law_at" "_law_at" s__law_at f fd) (len : mg "len" = none) : FnOk P w K mg base (L2.CX P w) 1 f fd P__law_at (spM (pAt K)) := by
  refine fn_ok Fn c__law_at (fun _ _ _ _ ⟨_, _, h, _⟩ => by rw [h]; rfl) ?_
  rintro cdv A outer s H E ⟨_, G0, H0, M, W, tk⟩ hr rfl Rs ω o ω' ⟨⟨ns, k⟩, -, rfl, rfl, rfl, rfl⟩
  refine hb_ret (er_ifx (tr_cmp (er_v 1 rfl rfl) (er_bA (ar_cons (er_v 0 rfl rfl) ar_nil) len bt_len cop_lenS) bop_lt) (fun hb => ?_) (fun hb => ?_)) ⟨_, [], rfl, fun v G h => h, rfl⟩
  · have h : k < ns.length := by
      have e : (k : Int) < ((ns.map V.int).length : Int) := of_decide_eq_true hb
      rw [List.length_map] at e
      omega
    refine er_ix (er_v 0 rfl rfl) (er_v 1 rfl rfl) (iop_S (v := .int (atS ns k)) ?_)
    unfold atI
    rw [List.length_map, ixN_at h]
    show (ns.map V.int)[k]? = _
    rw [List.getElem?_map, List.getElem?_eq_getElem h]
    unfold atS
    rw [List.getD_eq_getElem?_getD, List.getElem?_eq_getElem h]
    rfl
  · have h : ns.length ≤ k := by
      have e : ¬ (k : Int) < ((ns.map V.int).length : Int) := of_decide_eq_false hb
      rw [List.length_map] at e
      omega
    refine er_eq (S := rInt (atS ns k)) er_int ?_
    unfold atS
    rw [List.getD_eq_getElem?_getD, List.getElem?_eq_none h]
    rfl
theorem kf_worth17 (Fn : Fun K "_law_worth" "_law_worth" s__law_worth f fd) (X : RtX P w K mg base R M) : FnOk P w K mg base (L2.CX P w) 6 f fd P__law_worth (spM (pWorth17 R)) := by
  refine fn_ok Fn c__law_worth (fun _ _ _ _ ⟨_, _, _, _, _, _, _, _, h, _⟩ => by rw [h]; rfl) ?_
  rintro cdv A outer s H E ⟨_, G0, H0, M', W', tk⟩ hr rfl Rs ω o ω' ⟨pr, dm, nr, nm, l4, hs, zr, zm, rfl, rfl, rfl, rfl⟩
  have nd := c__law_worth.nd
  have r1 := hr.mono (show 1 ≤ 5 by decide)
  have r4 := hr.mono (show 4 ≤ 5 by decide)
  have z0 : Rat.divInt 0 1 = 0 := by decide +kernel
  have sz : ∀ q ∈ dm.map fun p => valQ pr p.1 * p.2, Sz 60 q := fun q hq => by
    obtain ⟨p, hp, rfl⟩ := List.mem_map.mp hq
    have sv : Sz 30 (valQ pr p.1) := by
      rcases mem_valQ (dm := pr) (g := p.1) with e | ⟨y, hy, _, e⟩
      · rw [e]; exact sz_zero.mono (by decide)
      · rw [e]; exact zr y hy
    exact sz_mul sv (zm p hp) (by decide)
  obtain ⟨t1, t2, t3⟩ := sumR_ok (n := 4) sz (by rw [List.length_map]; exact l4)
  refine hb_setA (R := rRat R 0) 2 rfl (er_ratio X.Tq r4 (ar_cons er_int (ar_cons er_int ar_nil)) z0 (by decide) (by decide)) ?_
  refine hb_for (it_keys (er_v 1 rfl rfl)) (fun k ρ w => w = [] ∧ ∃ z, ρ = [some (rDct (fsQ R pr)), some (rDct (fsQ R dm)), some (rRat R (sumR ((dm.map fun p => valQ pr p.1 * p.2).take k))), z]) ⟨rfl, none, rfl⟩ ?_ ?_ (passes_of rfl) (pg_name (i := 3) nd rfl (Or.inl rfl))
  · rintro k ρ w S hS ⟨rfl, z, rfl⟩
    rw [kRs_Qd] at hS
    obtain ⟨g, eg, rfl⟩ := map_get hS
    unfold namesQ at eg
    rw [List.getElem?_map] at eg
    cases ep : dm[k]? with
    | none => rw [ep] at eg; cases eg
    | some p =>
      rw [ep] at eg
      cases eg
      have hp := List.mem_of_getElem? ep
      have hg : p.1 ∈ namesQ dm := List.mem_map_of_mem hp
      obtain ⟨y, hy, e1, e2, e3⟩ := valQ_mem hg
      obtain ⟨y', hy', e1', e2', e3'⟩ := valQ_mem (hs p.1 hg)
      have ev : valQ dm p.1 = p.2 := valQ_in nm hp
      refine ⟨_, ge_name, ?_⟩
      have eL : (dm.map fun p => valQ pr p.1 * p.2)[k]? = some (valQ pr p.1 * p.2) := by rw [List.getElem?_map, ep]; rfl
      have et : (dm.map fun p => valQ pr p.1 * p.2).take (k + 1) = (dm.map fun p => valQ pr p.1 * p.2).take k ++ [valQ pr p.1 * p.2] := by rw [List.take_add_one, eL]; rfl
      have es : sumR ((dm.map fun p => valQ pr p.1 * p.2).take (k + 1)) = sumR ((dm.map fun p => valQ pr p.1 * p.2).take k) + valQ pr p.1 * p.2 := by
        rw [et]
        unfold sumR
        rw [List.foldl_append]
        rfl
      refine hb_setA (R := rRat R (sumR ((dm.map fun p => valQ pr p.1 * p.2).take (k + 1)))) 2 rfl (er_eq (er_bin (er_v 2 rfl rfl) (er_bin (er_dget (R := rRat R (valQ pr p.1)) (k := .inr p.1) (er_v 0 rfl rfl) (er_v 3 rfl rfl) isd_frz (by rw [valR_Q, e3', e2']; rfl) r1) (er_dget (R := rRat R p.2) (k := .inr p.1) (er_v 1 rfl rfl) (er_v 3 rfl rfl) isd_frz (by rw [valR_Q, e3, ← ev, e2]; rfl) r1) (bop_o X.Tm X.X.cx hr (pMulOk (by rw [e2']; exact (zr _ hy').mono (by decide)) ((zm p hp).mono (by decide))))) (bop_o X.Ta X.X.cx hr (pAddOk (t2 k) ((sz _ (List.mem_of_getElem? eL)).mono (by decide))))) (by rw [es])) ?_
      exact hb_nil ⟨rfl, _, rfl⟩
  · rintro ρ w ⟨rfl, z, rfl⟩
    refine hb_ret (er_v 2 rfl rfl) ⟨_, [], rfl, fun v G h => ?_, rfl⟩
    rw [kRs_Qd, List.length_map, show (namesQ dm).length = (dm.map fun p => valQ pr p.1 * p.2).length by unfold namesQ; rw [List.length_map, List.length_map], List.take_length] at h
    exact h
theorem kf_told17L (Fn : Fun K "_law_told" "_law_told" s__law_told f fd) (Y : HdX K mg Hd) (E : ErT K mg M U) (Tt : Km P w K mg base Hd "tell" 12 (pTellE Hd M U R)) : FnOk P w K mg base (L2.CX P w) 13 f fd P__law_told (spM (pToldE Hd R)) := by
  refine fn_ok Fn c__law_told (fun _ _ _ _ ⟨_, _, _, _, _, _, _, _, _, _, _, h, _⟩ => by rw [h]; rfl) ?_
  rintro cdv A outer s H Ex ⟨_, G0, H0, M', W', tk⟩ hr rfl Rs ω o ω' ⟨q, ns, F, dm, h, x, ok, n4, hz, l8, he, rfl, rfl, rfl, rfl⟩
  have nd := c__law_told.nd
  refine hb_tryM ⟨"UnknownName", .ref U, 3, "e", _, _, _, _⟩ [⟨"BadNumber", .ref M, 3, "e", _, _, _, _⟩] ?_ rfl rfl nd (fun z hz => ?_)
  · rintro ⟨_, G1, H1, M1, W1, tk1⟩ ⟨⟨pn, xe, e, pa⟩, e1, e2, e3⟩
    cases e
    rcases x with (g | y) | n
    · refine hb_retX (P := erF U "name" (rStr g)) (ex_mO (wc := [(q, oIns Hd (hidF R ns F))]) (wc' := [(q, oIns Hd (hidF R ns F))]) (w := []) Tt Y.cls hr (er_v 0 rfl rfl) List.mem_cons_self (ar_cons (er_v 1 rfl rfl) (ar_cons (er_v 2 rfl rfl) ar_nil)) ⟨q, ns, F, dm, h, _, ok, n4, hz, l8, he, rfl, rfl, rfl, rfl⟩) (Or.inl ⟨U, "name", rStr g, fun _ _ _ h => h, E.tUU, ?_⟩)
      rintro a' dd ⟨_, G2, H2, M2, W2, tk2⟩ S
      obtain ⟨⟨oe, pn', e, hz', hd⟩, -, -, -⟩ := id S
      cases e
      exact hb_ret (er_lst (Rs := [rStr (Str.ofString "name"), rStr g]) (ar_cons er_str (ar_cons (er_xf S E.xU E.nU (er_v 3 rfl rfl)) ar_nil)) (by show 2 ≤ 1000; decide)) ⟨_, [], rfl, fun v G k => k, rfl⟩
    · refine hb_retX (P := erF M "n" (rRat R y)) (ex_mO (wc := [(q, oIns Hd (hidF R ns F))]) (wc' := [(q, oIns Hd (hidF R ns F))]) (w := []) Tt Y.cls hr (er_v 0 rfl rfl) List.mem_cons_self (ar_cons (er_v 1 rfl rfl) (ar_cons (er_v 2 rfl rfl) ar_nil)) ⟨q, ns, F, dm, h, _, ok, n4, hz, l8, he, rfl, rfl, rfl, rfl⟩) (Or.inr ⟨fun cls d G k => by rw [k.1]; exact E.tMU, Or.inl ⟨M, "n", rRat R y, fun _ _ _ h => h, E.tMM, ?_⟩⟩)
      rintro a' dd ⟨_, G2, H2, M2, W2, tk2⟩ S
      obtain ⟨⟨oe, pn', e, hz', hd⟩, -, -, -⟩ := id S
      cases e
      exact hb_ret (er_lst (Rs := [rStr (Str.ofString "number"), rRat R y]) (ar_cons er_str (ar_cons (er_xf S E.xM E.nM (er_v 3 rfl rfl)) ar_nil)) (by show 2 ≤ 1000; decide)) ⟨_, [], rfl, fun v G k => k, rfl⟩
    · refine hb_retX (P := erF M "n" (rInt n)) (ex_mO (wc := [(q, oIns Hd (hidF R ns F))]) (wc' := [(q, oIns Hd (hidF R ns F))]) (w := []) Tt Y.cls hr (er_v 0 rfl rfl) List.mem_cons_self (ar_cons (er_v 1 rfl rfl) (ar_cons (er_v 2 rfl rfl) ar_nil)) ⟨q, ns, F, dm, h, _, ok, n4, hz, l8, he, rfl, rfl, rfl, rfl⟩) (Or.inr ⟨fun cls d G k => by rw [k.1]; exact E.tMU, Or.inl ⟨M, "n", rInt n, fun _ _ _ h => h, E.tMM, ?_⟩⟩)
      rintro a' dd ⟨_, G2, H2, M2, W2, tk2⟩ S
      obtain ⟨⟨oe, pn', e, hz', hd⟩, -, -, -⟩ := id S
      cases e
      exact hb_ret (er_lst (Rs := [rStr (Str.ofString "number"), rInt n]) (ar_cons er_str (ar_cons (er_xf S E.xM E.nM (er_v 3 rfl rfl)) ar_nil)) (by show 2 ≤ 1000; decide)) ⟨_, [], rfl, fun v G k => k, rfl⟩
  · rcases List.mem_cons.mp hz with rfl | hz
    · exact ⟨rfl, rfl, rfl, (show (("UnknownName" : Str) == ("__debug__" : Str)) = false by decide), .inl E.gU⟩
    rw [List.mem_singleton.mp hz]
    exact ⟨rfl, rfl, rfl, (show (("BadNumber" : Str) == ("__debug__" : Str)) = false by decide), .inl E.gM⟩
theorem bop_neRt {F : Fx} {w : Ow} {p q : Rat} (Te : Ko F.X.prog F.X.w F.X.K F.X.mg F.X.base R "__eq__" 5 (pEq R)) (nm : NeM F.X.K R) (hn : PySem.W.notFirst F.X.K R (.ref R) = true) (hr : Room 6 F.X.A) : Bop F w (compareOp .NotEq) (rRat R p) (rRat R q) (rBool (!decide (p = q))) :=
  bop_oN (B := rRat R q) Te nm hr (pEqOk (C := R)) tyr_ins hn
theorem kf_due17 (Fn : Fun K "_law_due" "_law_due" s__law_due f fd) (X : RtX P w K mg base R M) (nm : NeM K R) (ls : mg "list" = none) (st : mg "sorted" = none) : FnOk P w K mg base (L2.CX P w) 7 f fd P__law_due (spM (pDue17 R)) := by
  refine fn_ok Fn c__law_due (fun _ _ _ _ ⟨_, _, _, _, _, h, _⟩ => by rw [h]; rfl) ?_
  rintro cdv A outer s H E ⟨_, G0, H0, M', W', tk⟩ hr rfl Rs ω o ω' ⟨ns, dm, h, ok, hz, rfl, rfl, rfl, rfl⟩
  have nd := c__law_due.nd
  have r1 := hr.mono (show 1 ≤ 6 by decide)
  have r4 := hr.mono (show 4 ≤ 6 by decide)
  have r5 := hr.mono (show 5 ≤ 6 by decide)
  have z0 : Rat.divInt 0 1 = 0 := by decide +kernel
  have zr : ∀ {F : Fx} {ρ : Ty} {w : Ow} {e : Expr}, ER F ρ w e (rRat R (Rat.divInt 0 1)) w → ER F ρ w e (rRat R 0) w := fun {_ _ _ _} k => by rw [← z0]; exact k
  have gt : ∀ {g : Str}, g ∈ namesQ dm → ∀ {F : Fx} {ω : Ow} {ρ : Ty} {o ix : Expr} {pos : Pos}, ER F ρ ω o (rDct (fsQ R dm)) ω → ER F ρ ω ix (rStr g) ω → Room 5 F.X.A → NoSl ix → ER F ρ ω (.Subscript o ix pos) (rRat R (valQ dm g)) ω := fun {g} hg {_ _ _ _ _ _} h1 h2 h3 h4 => by
    obtain ⟨p, hp, ep, ev, ef⟩ := valQ_mem hg
    exact er_dget (k := .inr g) h1 h2 isd_frz (by rw [valR_Q, ef, ev]; rfl) h3 h4
  unfold dueX
  refine hb_for (it_lst (er_bA (ar_cons (er_eq (S := rLst ((namesQ dm).map rStr)) (er_tA (ar_cons (er_v 1 rfl rfl) ar_nil) ls bt_list (cop_listD rfl isd_frz)) (congrArg rLst kRs_Qd)) ar_nil) st bt_sorted copA)) (fun k ρ w => w = [] ∧ demE ns dm = dmE ns dm ((srt (namesQ dm)).drop k) ∧ ∃ z, ρ = [some (rLst (ns.map rStr)), some (rDct (fsQ R dm)), some (rRat R h), some (rInt 8), z]) ⟨rfl, rfl, none, rfl⟩ ?_ ?_ (passes_of rfl) (pg_name (i := 4) nd rfl (Or.inl rfl))
  · rintro k ρ w S hS ⟨rfl, hk, z, rfl⟩
    obtain ⟨g, eg, rfl⟩ := map_get hS
    have hkl := (List.getElem?_eq_some_iff.mp eg).1
    have hg : g ∈ namesQ dm := srt_mem (List.mem_of_getElem? eg)
    have ed : (srt (namesQ dm)).drop k = g :: (srt (namesQ dm)).drop (k + 1) := by
      rw [List.drop_eq_getElem_cons hkl]
      congr 1
      have := List.getElem?_eq_getElem hkl
      rw [eg] at this
      exact (Option.some.inj this).symm
    rw [ed] at hk
    unfold dmE at hk
    refine ⟨_, ge_name, ?_⟩
    refine hb_if (b := !decide (g ∈ ns)) (tr_cmp (er_v 4 rfl rfl) (er_v 0 rfl rfl) (bop_niQ isq_L)) (fun hb => ?_) (fun hb => hb_nil ?_)
    · have hn : ¬ g ∈ ns := by simpa using hb
      rw [if_neg hn] at hk
      exact hb_ret (er_lst (Rs := [rStr (Str.ofString "name"), rStr g]) (ar_cons er_str (ar_cons (er_v 4 rfl rfl) ar_nil)) (by show 2 ≤ 1000; decide)) ⟨_, [], rfl, fun v G k => by rw [hk]; exact k, rfl⟩
    have hn : g ∈ ns := by simpa using hb
    rw [if_pos hn] at hk
    have sv := valQ_sz (g := g) ok.ok
    refine hb_if (b := decide (valQ dm g < 0)) (tr_val (er_m X.Tu X.X.cx.cls r5 (gt hg (er_v 1 rfl rfl) (er_v 4 rfl rfl) r5 (by exact fun _ _ => rfl)) (ar_cons (zr (er_ratio X.Tq r4 (ar_cons er_int (ar_cons er_int ar_nil)) rfl (by decide) (by decide))) ar_nil) (pUnderOk (sv.mono (by decide)) (sz_zero.mono (by decide))))) (fun hb => ?_) (fun hb => hb_nil (hb_nil ?_))
    · have hb := of_decide_eq_true hb
      rw [if_pos hb] at hk
      exact hb_ret (er_lst (Rs := [rStr (Str.ofString "number"), rRat R (valQ dm g)]) (ar_cons er_str (ar_cons (gt hg (er_v 1 rfl rfl) (er_v 4 rfl rfl) r5 (by exact fun _ _ => rfl)) ar_nil)) (by show 2 ≤ 1000; decide)) ⟨_, [], rfl, fun v G k => by rw [hk]; exact k, rfl⟩
    · have hb := of_decide_eq_false hb
      rw [if_neg hb] at hk
      exact ⟨rfl, hk, _, rfl⟩
  · rintro ρ w ⟨rfl, hk, z, rfl⟩
    rw [List.length_map, List.drop_length] at hk
    have hk : demE ns dm = none := hk
    rw [hk]
    dsimp only
    refine hb_if (b := decide (((namesQ dm).filter fun g => !decide (valQ dm g = 0)).map rStr = [])) (w1 := []) (tr_cmp (er_lcf (xs := namesQ dm) (A := rStr) (B := rStr) (p := fun g => !decide (valQ dm g = 0)) (by rw [← kRs_Qd (R := R)]; exact it_keys (er_v 1 rfl rfl)) (by have := ok.ok.ln; unfold namesQ; rw [List.length_map]; omega) [("_law_good", 4)] (blkOk_by (N := N__law_due) (sc := defScope s__law_due) (by decide +kernel)) (fun _ _ _ _ _ => pg_name (i := 4) nd rfl (Or.inl rfl)) (fun _ _ _ => gew_name) (fun i g hg s1 H1 cc cl' fp d => tr_cmp (gt (List.mem_of_getElem? hg) (er_v 1 rfl rfl) (er_v 4 rfl rfl) r5 (by exact fun _ _ => rfl)) (zr (er_ratio X.Tq r4 (ar_cons er_int (ar_cons er_int ar_nil)) rfl (by decide) (by decide))) (bop_neRt X.Te nm X.X.nf hr)) (fun i g hg _ s1 H1 cc cl' fp d => er_v 4 rfl rfl) nd) (er_lst (Rs := []) ar_nil (Nat.zero_le _)) (bop_eqN0 r1)) (fun hb => ?_) (fun hb => hb_nil ?_)
    · have hb := List.map_eq_nil_iff.mp (of_decide_eq_true hb)
      rw [if_pos hb]
      exact hb_ret (er_lst (Rs := [rStr (Str.ofString "number"), rRat R 0]) (ar_cons er_str (ar_cons (zr (er_ratio X.Tq r4 (ar_cons er_int (ar_cons er_int ar_nil)) rfl (by decide) (by decide))) ar_nil)) (by show 2 ≤ 1000; decide)) ⟨_, [], rfl, fun v G k => k, rfl⟩
    have hb : ¬ ((namesQ dm).filter fun g => !decide (valQ dm g = 0)) = [] := fun e => of_decide_eq_false hb (by rw [e]; rfl)
    rw [if_neg hb]
    refine hb_if (b := !decide (0 < h)) (w1 := []) (tr_not (tr_val (er_m X.Tu X.X.cx.cls r5 (zr (er_ratio X.Tq r4 (ar_cons er_int (ar_cons er_int ar_nil)) rfl (by decide) (by decide))) (ar_cons (er_v 2 rfl rfl) ar_nil) (pUnderOk (sz_zero.mono (by decide)) (hz.mono (by decide)))))) (fun hc => ?_) (fun hc => hb_nil ?_)
    · have hc : ¬ 0 < h := by simpa using hc
      rw [if_neg hc]
      exact hb_ret (er_lst (Rs := [rStr (Str.ofString "number"), rRat R h]) (ar_cons er_str (ar_cons (er_v 2 rfl rfl) ar_nil)) (by show 2 ≤ 1000; decide)) ⟨_, [], rfl, fun v G k => k, rfl⟩
    have hc : 0 < h := by simpa using hc
    rw [if_pos hc]
    exact hb_ret (er_ifx (k := true) (tr_cmp (er_v 3 rfl rfl) er_int bop_eqI) (fun _ => er_lst (Rs := [rStr (Str.ofString "number"), rInt 9]) (ar_cons er_str (ar_cons er_int ar_nil)) (by show 2 ≤ 1000; decide)) (fun z => Bool.noConfusion z)) ⟨_, [], rfl, fun v G k => k, rfl⟩
end
end W1
set_option maxRecDepth 100000
set_option maxHeartbeats 1000000
set_option exponentiation.threshold 20000
namespace W1
open PySem PySem.Spec PyProof.Rows L2 NdefX TL NumText
theorem merge_nodup {fs : List (Key × Rl)} (h : (fs.map (·.1)).Nodup) : mergeR [] fs = fs := by
  have h2 := dcR_nodup (kf := fun p : Key × Rl => p.1) (B := fun p => p.2) (xs := fs) h
  have e : (fs.map fun a => (a.1, a.2)) = fs := by
    rw [show (fun a : Key × Rl => (a.1, a.2)) = id from rfl, List.map_id]
  rw [e] at h2
  exact h2
def fsP (zs : List (Str × Rl)) : List (Key × Rl) := zs.map fun p => (Sum.inr p.1, p.2)
section
variable {F : Fx} {ρ : Ty} {ω w w1 : Ow} {e : Expr} {pos p0 : Pos} {x : Str}
theorem pairs_vR {H G : Hp} {K : PySem.W.Frag} (sg : Same G H) : ∀ {zs : List (Str × Rl)} {vs : List V}, All2 (zs.map fun p => rTup [rStr p.1, p.2]) vs G → ∃ (ps : List Addr) (kvs : List (Key × V)), vs = ps.map V.ref ∧ Paired (fun p (kv : Key × V) => SqT K H p [kV kv.1, kv.2]) ps kvs ∧ NR (fsP zs) kvs G
  | [], [], _ => ⟨[], [], rfl, .nil, trivial⟩
  | p :: zs, v :: vs, ⟨r1, r2⟩ => by
    obtain ⟨ps, kvs, rfl, h, n⟩ := pairs_vR sg (zs := zs) r2
    obtain ⟨a, us, rfl, h1, h2⟩ := r1
    obtain ⟨u1, u2, rfl, e1, e2⟩ := all2 h2
    cases (show u1 = V.str p.1 from e1)
    exact ⟨a :: ps, (Sum.inr p.1, u2) :: kvs, rfl, .cons (SqT.of (sg _ _ h1)) h, rfl, e2, n⟩
  | [], _ :: _, h => h.elim
  | _ :: _, [], h => h.elim
theorem en_dictPR {zs : List (Str × Rl)} (he : AR F ρ ω [e] [rLst (zs.map fun p => rTup [rStr p.1, p.2])] w1) (nd : (zs.map (·.1)).Nodup) (hg : Gl F.X x) (hm : F.X.mg x = none) (hv : bootBuiltins x = some (.type "dict")) (hn : x ≠ "__name__" := by decide) (hdb : (x == ("__debug__" : Str)) = false := by decide)
    (hc : F.X.calm = true := by rfl) (hs : starEach [e] F.X.env = (false, eval e F.X.env) :: starEach [] F.X.env := by rfl) (hpl : (backTo pos (starEach [] F.X.env)).any (·.1) = false := by rfl) : EN F ρ ω (.Call (.Name x p0) [e] [] pos) (oD (fsP zs)) w1 := fun σ G H at_ sl Q k => by
  refine ew_of (pe_callTy (call_dictP hc) hg hm hv pa_w hn hdb hs hpl) (he σ G H at_ sl _ fun us G1 H1 s1 a1 r1 => ?_)
  obtain ⟨v, rfl, p, vs, rfl, h1, h2⟩ := all1 r1
  obtain ⟨ps, kvs, rfl, h3, h4⟩ := pairs_vR (K := F.X.K) a1.gh h2
  refine ⟨p, ps, kvs, rfl, SqL.of (a1.gh _ _ h1), h3, fun q hq => k q G1 _ (fun hm => a1.mm q hm hq) s1 (a1.own hq ⟨_, rfl, ?_⟩)⟩
  have e : mergeR [] (fsP zs) = fsP zs := merge_nodup (by
    unfold fsP
    rw [List.map_map]
    have : ((zs.map (·.1)).map (Sum.inr : Str → Key)).Nodup := List.pairwise_map.mpr (nd.imp fun hne e => hne (Sum.inr.inj e))
    rw [List.map_map] at this
    exact this)
  have := NR.merge (fs := []) (vs := []) trivial h4
  rw [e] at this
  exact this
end
section
variable {F : Fx} {ρ : Ty} {ω w w1 : Ow} {a b e : Expr} {es : List Expr} {As Rs : List Rl} {O : Ol} {K : Kn} {rest : List Stmt} {pos p : Pos} {x y : Str} {Ψ : List Rl → Ow → Prop}
theorem hb_par2 {px py pt : Pos} {kt k2 pt2} (i j : Nat) (ha : AG F ρ ω [a, b] Ψ) (h : ∀ Rs w, Ψ Rs w → ∃ R S, Rs = [R, S] ∧ HB F ((ρ.set i (some R)).set j (some S)) w rest K) (hN : F.X.N.Nodup) (hij : i ≠ j := by decide) (hi : F.X.N[i]? = some x := by rfl) (hj : F.X.N[j]? = some y := by rfl)
    (hx : F.X.env.scope.names.lookup x = some .local := by rfl) (hy : F.X.env.scope.names.lookup y = some .local := by rfl) (hc : F.X.calm = true := by rfl)
    (hw : swappedStores [.Tuple [.Name x px, .Name y py] kt pt] (.Tuple [a, b] k2 pt2) F.X.env = pure (some [x, y]) := by rfl)
    (hs : swapsWithSole [.Tuple [.Name x px, .Name y py] kt pt] (.Tuple [a, b] k2 pt2) pos.line F.X.env = pure false := by rfl) :
    HB F ρ ω (.Assign [.Tuple [.Name x px, .Name y py] kt pt] (.Tuple [a, b] k2 pt2) pos :: rest) K := hb_cons fun σ G H D at_ sl ps => by
  refine sw_of (ps_par hc hN hi hj hij hx hy pa_w hw hs) (ha σ G H at_ sl _ fun vs G2 H2 Rs w k s2 a2 r2 => ?_)
  obtain ⟨R, S, rfl, hb⟩ := h Rs w k
  obtain ⟨u, v, rfl, q1, q2⟩ := all2 r2
  exact ⟨u, v, rfl, hb _ G2 H2 D a2 (((sl.up s2).set i q1).set j q2) (ps.up s2)⟩
end
/-! ### facts with something amiss -/
abbrev oPX : Ol := oEx oPool
structure OddG (p : Dm × Rat) : Prop where
  d : DmS p.1
  h : Sz 100 p.2
abbrev rOdd (R : Addr) : Rl := rEx fun p : { p : Dm × Rat // OddG p } => rTup [rDct (fsQ R p.1.1), rRat R p.1.2]
/-- demands of few names -/
structure DmN (n : Nat) (dm : Dm) : Prop where
  ok : DmOk n dm
  nm : ∀ g ∈ namesQ dm, g.length ≤ 640
theorem DmN.put {n : Nat} {dm : Dm} {k : Str} {v : Rat} (h : DmN n dm) (hv : Sz 30 v) (hk : k.length ≤ 640) : DmN (n + 1) (putQ dm k v) := by
  refine ⟨h.ok.put hv, fun g hg => ?_⟩
  rw [names_putQ] at hg
  split at hg
  · exact h.nm g hg
  · rcases List.mem_append.mp hg with hg | hg
    · exact h.nm g hg
    · rw [List.mem_singleton.mp hg]; exact hk
theorem DmN.mono {m n : Nat} {dm : Dm} (h : DmN m dm) (l : m ≤ n) : DmN n dm := ⟨h.ok.mono l, h.nm⟩
theorem DmN.s {n : Nat} {dm : Dm} (h : DmN n dm) (l : n ≤ 60) : DmS dm := ⟨h.ok.mono l, h.nm⟩
def pOdd (R : Addr) : Pre := fun Rs w o w' => ∃ (q : Addr) (s : Pool) (ns : List Str) (dm : Dm) (h : Rat), WrG ns ∧ DmN 4 dm ∧ Sz 20 h ∧ Rs = [rRef q, rLst (ns.map rStr), rDct (fsQ R dm), rRat R h] ∧ w = [(q, oPool s)] ∧ w' = [(q, oPX)] ∧ o = .ok (rOdd R)
theorem bt_dict17 : bootBuiltins "dict" = some (.type "dict") := by decide +kernel
section
variable {P : Program} {w : World} {K : PySem.W.Frag} {mg : Str → Option Value} {base : Heap} {C B M U R Hd f : Addr} {fd : FuncData}
theorem kf_odd17 (Fn : Fun K "_law_odd" "_law_odd" s__law_odd f fd) (X : RtX P w K mg base R M) (Tg : Ko P w K mg base R "__neg__" 5 (pNeg R)) (Tt : Kf1 P w K mg base "_law_take" 1 pTake) (di : mg "dict" = none) : FnOk P w K mg base (L2.CX P w) 6 f fd P__law_odd (spM (pOdd R)) := by
  refine fn_ok Fn c__law_odd (fun _ _ _ _ ⟨_, _, _, _, _, _, _, _, h, _⟩ => by rw [h]; rfl) ?_
  rintro cdv A outer s0 H E ⟨_, G0, H0, M', W', tk⟩ hr rfl Rs ω o ω' ⟨q, s, ns, dm, h, wr, ok, hz, rfl, rfl, rfl, rfl⟩
  have nd := c__law_odd.nd
  have r1 := hr.mono (show 1 ≤ 5 by decide)
  have r4 := hr.mono (show 4 ≤ 5 by decide)
  have d8 := tkR_lt (s := s) (L := 8) (by decide)
  have l1 := wr.l1
  have l2 := wr.l2
  refine hb_par2 (Ψ := fun Rs w => ∃ qd, qd ∉ M' ∧ Rs = [rInt (tkR s 8), rRef qd] ∧ w = [(qd, oD (fsQ R dm)), (q, oPool (drS s 8))]) 4 5 (ag_cons (Φ := fun A w => A = rInt (tkR s 8) ∧ w = [(q, oPool (drS s 8))]) (eg_er (er_f1 0 Tt r1 (ar_cons (er_v 0 rfl rfl) (ar_cons er_int ar_nil)) rfl (takeOk (s := s) (L := 8) (by decide) (by decide))) ⟨rfl, rfl⟩) ?_) ?_ nd
  · rintro A1 w1 ⟨rfl, rfl⟩
    refine ag_cons (Φ := fun A w => ∃ qd, qd ∉ M' ∧ A = rRef qd ∧ w = [(qd, oD (fsQ R dm)), (q, oPool (drS s 8))]) (eg_en (en_copyD (ar_cons (er_v 2 rfl rfl) ar_nil) isd_frz rfl di bt_dict17) fun qd hqd => ⟨qd, hqd, rfl, rfl⟩) ?_
    rintro B1 w1 ⟨qd, hqd, rfl, rfl⟩
    exact ag_nil ⟨qd, hqd, rfl, rfl⟩
  rintro Rs w ⟨qd, hqd, rfl, rfl⟩
  refine ⟨_, _, rfl, ?_⟩
  generalize tkR s 8 = way
  generalize drS s 8 = s1
  have in3 : ∀ {F : Fx} {w : Ow} {a b : Int}, Bop F w (compareOp .In) (rInt way) (rLst ([V.int a, V.int b].map rEqV)) (rBool (inV (.int way) [V.int a, V.int b])) := fun {F w a b} => bop_inV isq_L rfl rfl
  -- the rest, whatever was spoilt
  let J : Nat → Ty → Ow → Prop := fun n ρ w => ∃ qd dm', DmN n dm' ∧ qd ∉ M' ∧ ρ = [some (rRef q), some (rLst (ns.map rStr)), some (rDct (fsQ R dm)), some (rRat R h), some (rInt way), some (rRef qd), none, none] ∧ w = [(qd, oD (fsQ R dm')), (q, oPool s1)]
  refine hb_ifJ (J 5) (tr_cmp (er_v 4 rfl rfl) (er_lst (Rs := [V.int 0, V.int 3].map rEqV) (ar_cons er_int (ar_cons er_int ar_nil)) (by show 2 ≤ 1000; decide)) in3) (fun _ => ?_) (fun _ => ⟨qd, dm, ok.mono (by decide), hqd, rfl, rfl⟩) ?_
  · refine hb_dput (k := .inr "q") (fs := fsQ R dm) (w3 := [(q, oPool s1)]) (R := rRat R (Rat.divInt (-1) 2)) (er_ratio X.Tq r4 (ar_cons (er_un er_int uop_neg) (ar_cons er_int ar_nil)) rfl (by decide) (by decide)) (er_v 5 rfl rfl) er_str hr (by rw [len_fsQ]; have := ok.ok.ln; omega) ?_
    rw [putK_Q]
    exact hb_nil ⟨qd, _, ok.put (sz_drawn (by decide) (by decide)) (by decide), hqd, rfl, rfl⟩
  rintro ρ w ⟨qd, dm1, ok1, hqd, rfl, rfl⟩
  refine hb_ifJ (J 6) (tr_cmp (er_v 4 rfl rfl) (er_lst (Rs := [V.int 1, V.int 3].map rEqV) (ar_cons er_int (ar_cons er_int ar_nil)) (by show 2 ≤ 1000; decide)) in3) (fun _ => ?_) (fun _ => ⟨qd, dm1, ok1.mono (by decide), hqd, rfl, rfl⟩) ?_
  · obtain ⟨g, hg⟩ : ∃ g, ns[ns.length - 1]? = some g := ⟨_, List.getElem?_eq_getElem (by omega)⟩
    refine hb_dput (k := .inr g) (fs := fsQ R dm1) (w3 := [(q, oPool s1)]) (R := rRat R (Rat.divInt (-1) 3)) (er_ratio X.Tq r4 (ar_cons (er_un er_int uop_neg) (ar_cons er_int ar_nil)) rfl (by decide) (by decide)) (er_v 5 rfl rfl) (er_ix (R := rStr g) (er_v 1 rfl rfl) (er_un er_int uop_neg) (iop_L (n := ns.length - 1) (by
      unfold ixN
      rw [List.length_map, if_neg (by decide), if_pos (by omega)]
      congr 1
      omega) (by rw [List.getElem?_map, hg]; rfl))) hr (by rw [len_fsQ]; have := ok1.ok.ln; omega) ?_
    rw [putK_Q]
    exact hb_nil ⟨qd, _, ok1.put (sz_drawn (by decide) (by decide)) (wr.nm g (List.mem_of_getElem? hg)).2, hqd, rfl, rfl⟩
  rintro ρ w ⟨qd, dm2, ok2, hqd, rfl, rfl⟩
  refine hb_ifJ (fun ρ w => ∃ qd dm' s' z6 wr, DmN 10 dm' ∧ qd ∉ M' ∧ ρ = [some (rRef q), some (rLst (ns.map rStr)), some (rDct (fsQ R dm)), some (rRat R h), some (rInt way), some (rRef qd), z6, none] ∧ w = (qd, oD (fsQ R dm')) :: (q, oPool s') :: wr) (tr_cmp (er_v 4 rfl rfl) er_int bop_eqI) (fun _ => ?_) (fun _ => ⟨qd, dm2, s1, none, [], ok2.mono (by decide), hqd, rfl, rfl⟩) ?_
  · have d2 := tkR_lt (s := s1) (L := 2) (by decide)
    obtain ⟨k, hk⟩ : ∃ k : Nat, tkR s1 2 = (k : Int) := ⟨(tkR s1 2).toNat, by omega⟩
    have hk2 : k ≤ 1 := by omega
    have lk : (ns.take k).length ≤ 2 := by rw [List.length_take]; omega
    have ndk : (ns.take k).Nodup := wr.nd.sublist (List.take_sublist _ _)
    have z0 : Rat.divInt 0 1 = 0 := by decide +kernel
    refine hb_setNA 5 rfl (en_dictPR (zs := (ns.take k).map fun g => (g, rRat R 0)) (w1 := [(qd, oD (fsQ R dm2)), (q, oPool (drS s1 2))]) (ar_cons (er_eq (er_lc (xs := ns.take k) (A := rStr) (B := fun g => rTup [rStr g, rRat R 0]) (it_lst (er_eq (S := rLst ((ns.take k).map rStr)) (er_slice (er_v 1 rfl rfl) pr_none (pr_some (er_f1 1 Tt r1 (ar_cons (er_v 0 rfl rfl) (ar_cons er_int ar_nil)) rfl (takeOk (s := s1) (L := 2) (by decide) (by decide)))) sop_L) (by rw [hk, cutR_take (by omega)]))) (by omega) [("_law_good", 6)] (blkOk_by (N := N__law_odd) (sc := defScope s__law_odd) (by decide +kernel)) (fun _ _ _ _ _ => pg_name (i := 6) nd rfl (Or.inl rfl)) (fun _ _ _ => gew_name) (fun i g hg s2 H2 cc cl fp d => er_tup (Rs := [rStr g, rRat R 0]) (ar_cons (er_v 6 rfl rfl) (ar_cons (er_ratio X.Tq r4 (ar_cons er_int (ar_cons er_int ar_nil)) z0 (by decide) (by decide)) ar_nil)) (Nat.le_of_ble_eq_true rfl)) nd) (by rw [List.map_map]; rfl)) ar_nil) (by
      rw [List.map_map, show ((fun p : Str × Rl => p.1) ∘ fun g => (g, rRat R 0)) = id from rfl, List.map_id]
      exact ndk) rfl di bt_dict17) fun qe hqe => ?_
    have e : fsP ((ns.take k).map fun g => (g, rRat R 0)) = fsQ R ((ns.take k).map fun g => (g, 0)) := by
      unfold fsP fsQ
      rw [List.map_map, List.map_map]
      rfl
    rw [e]
    have en : namesQ ((ns.take k).map fun g => (g, (0 : Rat))) = ns.take k := by unfold namesQ; rw [List.map_map]; exact List.map_id _
    have ok3 : DmN 10 ((ns.take k).map fun g => (g, (0 : Rat))) := by
      refine ⟨⟨by rw [en]; exact ndk, fun p hp => ?_, by rw [List.length_map]; omega⟩, fun g hg => ?_⟩
      · obtain ⟨g, _, rfl⟩ := List.mem_map.mp hp
        exact sz_zero.mono (by decide)
      · rw [en] at hg
        exact (wr.nm g (List.mem_of_mem_take hg)).2
    refine hb_perm (w2 := [(qe, oD (fsQ R ((ns.take k).map fun g => (g, 0)))), (q, oPool (drS s1 2)), (qd, oD (fsQ R dm2))]) (List.Perm.cons _ (List.Perm.swap _ _ _)) ?_
    exact hb_nil ⟨qe, _, drS s1 2, none, [(qd, oD (fsQ R dm2))], ok3, hqe, rfl, rfl⟩
  rintro ρ w ⟨qd, dm3, s2, z6, wx, ok3, hqd, rfl, rfl⟩
  have d5 := tkR_lt (s := s2) (L := 5) (by decide)
  have z0 : Rat.divInt 0 1 = 0 := by decide +kernel
  have s11 : Sz 20 (Rat.divInt 1 1) := sz_divInt (by decide) (by decide) (by decide)
  have s12 : Sz 20 (Rat.divInt 1 2) := sz_divInt (by decide) (by decide) (by decide)
  have hsm : small h := hz.mono (by decide)
  refine hb_pubD 5 rfl hqd ?_
  refine hb_setA (R := rRat R ([h, h + Rat.divInt 1 1, h * Rat.divInt 1 2, 0, -h].getD (tkR s2 5).toNat 0)) (w1 := (q, oPool (drS s2 5)) :: wx) 7 rfl (er_ix (A := rLst ([h, h + Rat.divInt 1 1, h * Rat.divInt 1 2, 0, -h].map (rRat R))) (er_lst (Rs := [rRat R h, rRat R (h + Rat.divInt 1 1), rRat R (h * Rat.divInt 1 2), rRat R 0, rRat R (-h)])
    (ar_cons (er_v 3 rfl rfl) (ar_cons (er_bin (er_v 3 rfl rfl) (er_ratio X.Tq r4 (ar_cons er_int (ar_cons er_int ar_nil)) rfl (by decide) (by decide)) (bop_o X.Ta X.X.cx hr (pAddOk hsm (s11.mono (by decide))))) (ar_cons (er_bin (er_v 3 rfl rfl) (er_ratio X.Tq r4 (ar_cons er_int (ar_cons er_int ar_nil)) rfl (by decide) (by decide)) (bop_o X.Tm X.X.cx hr (pMulOk hsm (s12.mono (by decide))))) (ar_cons (er_ratio X.Tq r4 (ar_cons er_int (ar_cons er_int ar_nil)) z0 (by decide) (by decide)) (ar_cons (er_un (er_v 3 rfl rfl) (uop_o Tg hr (pNegOk hsm))) ar_nil))))) (by show 5 ≤ 1000; decide)) (er_f1 0 Tt r1 (ar_cons (er_v 0 rfl rfl) (ar_cons er_int ar_nil)) rfl (takeOk (s := s2) (L := 5) (by decide) (by decide))) (iop_pickM (α := Rat) (A := rRat R) 0 d5.1 d5.2)) ?_
  have sm : Sz 100 ([h, h + Rat.divInt 1 1, h * Rat.divInt 1 2, 0, -h].getD (tkR s2 5).toNat 0) := by
    have all : ∀ x ∈ [h, h + Rat.divInt 1 1, h * Rat.divInt 1 2, 0, -h], Sz 100 x := by
      intro x hx
      simp only [List.mem_cons, List.not_mem_nil, or_false] at hx
      rcases hx with rfl | rfl | rfl | rfl | rfl
      · exact hz.mono (by decide)
      · exact sz_add hz s11 (by decide)
      · exact (sz_mul hz s12 (Nat.le_refl _)).mono (by decide)
      · exact sz_zero.mono (by decide)
      · exact (sz_neg hz).mono (by decide)
    exact all _ (getD_mem (by show _ < 5; omega))
  generalize [h, h + Rat.divInt 1 1, h * Rat.divInt 1 2, 0, -h].getD (tkR s2 5).toNat 0 = h2 at sm
  generalize drS s2 5 = s3
  refine hb_ret (er_weakO (O := oPool s3) (O' := oPX) (fun o G z => ⟨s3, z⟩) (er_tup (Rs := [rDct (fsQ R dm3), rRat R h2]) (ar_cons (er_v 5 rfl rfl) (ar_cons (er_v 7 rfl rfl) ar_nil)) (Nat.le_of_ble_eq_true rfl))) ⟨_, wx, rfl, fun v G k => ⟨⟨(dm3, h2), ⟨ok3.s (by decide), sm⟩⟩, k⟩, rfl⟩
end
end W1
set_option maxRecDepth 100000
set_option maxHeartbeats 1000000
set_option exponentiation.threshold 20000
namespace W1
open PySem PySem.Spec PyProof.Rows L2 NdefX TL NumText
theorem demE_of {gs : List Str} {dm : Dm} (h1 : ∀ g ∈ namesQ dm, g ∈ gs) (h2 : ∀ g, ¬ valQ dm g < 0) : demE gs dm = none := by
  have key : ∀ l : List Str, (∀ g ∈ l, g ∈ gs) → dmE gs dm l = none := by
    intro l
    induction l with
    | nil => intro _; rfl
    | cons a l ih =>
      intro h
      unfold dmE
      rw [if_pos (h a List.mem_cons_self), if_neg (h2 a)]
      exact ih fun g hg => h g (List.mem_cons_of_mem _ hg)
  exact key _ fun g hg => h1 g (srt_mem hg)
theorem valQ_no {d : Dm} {g : Str} (h : g ∉ namesQ d) : valQ d g = 0 := by
  rcases mem_valQ (dm := d) (g := g) with e | ⟨p, hp, e, -⟩
  · exact e
  · exact absurd (List.mem_map.mpr ⟨p, hp, e⟩) h
/-! ### facts that are drawn (plain) -/
structure VsG (n : Nat) (vs : List Rat) : Prop where
  l : vs.length = n
  nn : ∀ x ∈ vs, 0 ≤ x
  hd : 0 < atQ vs 0
  z : ∀ x ∈ vs, Sz 4 x
structure PvG (n : Nat) (pv : List Rat) : Prop where
  l : pv.length = n
  ps : ∀ x ∈ pv, 0 < x
  z : ∀ x ∈ pv, Sz 4 x
structure GoodF (n : Nat) (pv : List Rat) (f : Fct) : Prop where
  v : VsG n f.1
  e : f.2 = dotQ f.1 pv
def nzL (ns : List Str) (row : List Rat) : Dm := (ns.zip row).filter fun p => p.2.num != 0
def tdQ (R : Addr) (ns : List Str) (p : Fct) : Rl := rTup [rDct (fsQ R (nzL ns p.1)), rRat R p.2]
theorem zip_names {ns : List Str} {row : List Rat} (h : ns.length = row.length) : namesQ (ns.zip row) = ns := by
  unfold namesQ
  rw [List.map_fst_zip (by omega)]
theorem nz_names {ns : List Str} {row : List Rat} (h : ns.length = row.length) : ∀ g ∈ namesQ (nzL ns row), g ∈ ns := fun g hg => by
  obtain ⟨p, hp, rfl⟩ := List.mem_map.mp hg
  exact (List.of_mem_zip (a := p.1) (b := p.2) (List.mem_filter.mp hp).1).1
theorem nz_nodup {ns : List Str} {row : List Rat} (nd : ns.Nodup) (h : ns.length = row.length) : (namesQ (nzL ns row)).Nodup := by
  have : (namesQ (ns.zip row)).Nodup := by rw [zip_names h]; exact nd
  exact this.sublist (List.Sublist.map _ (List.filter_sublist (l := ns.zip row)))
theorem tdR_eq {R : Addr} {ns : List Str} {p : Fct} (nd : ns.Nodup) (h : ns.length = p.1.length) : tdR R ns p = tdQ R ns p := by
  unfold tdR tdQ nzD
  rw [dcR_nodup (by
    have := nz_nodup nd h
    unfold namesQ at this
    have h2 := List.pairwise_map.mpr (this.imp fun {a b} hne e => hne (Sum.inr.inj e) : (List.Pairwise (fun a b : Str => (Sum.inr a : Key) ≠ Sum.inr b) _))
    rw [List.map_map] at h2
    exact h2)]
  rfl
theorem find_zip {ns : List Str} : ∀ {row : List Rat}, ns.Nodup → ns.length = row.length → ns.map (valQ (ns.zip row)) = row := by
  intro row nd h
  have hn := zip_names h
  have nd2 : (namesQ (ns.zip row)).Nodup := by rw [hn]; exact nd
  have u : (namesQ (ns.zip row)).map (valQ (ns.zip row)) = (ns.zip row).map (fun p => valQ (ns.zip row) p.1) := by
    unfold namesQ
    rw [List.map_map]
    rfl
  rw [hn] at u
  rw [u, List.map_congr_left (g := fun p => p.2) (fun p hp => valQ_in nd2 hp)]
  exact List.map_snd_zip (by omega)
theorem valQ_nz {ns : List Str} {row : List Rat} (nd : ns.Nodup) (h : ns.length = row.length) (g : Str) : valQ (nzL ns row) g = valQ (ns.zip row) g := by
  have nd2 : (namesQ (ns.zip row)).Nodup := by rw [zip_names h]; exact nd
  have nd3 := nz_nodup nd h
  by_cases hg : g ∈ namesQ (nzL ns row)
  · obtain ⟨p, hp, rfl⟩ := List.mem_map.mp hg
    rw [valQ_in nd3 hp, valQ_in nd2 (List.mem_filter.mp hp).1]
  · rw [valQ_no hg]
    by_cases h2 : g ∈ namesQ (ns.zip row)
    · obtain ⟨p, hp, rfl⟩ := List.mem_map.mp h2
      rw [valQ_in nd2 hp]
      by_cases z : p.2.num = 0
      · exact (Rat.num_eq_zero.mp z).symm
      · exact absurd (List.mem_map.mpr ⟨p, List.mem_filter.mpr ⟨hp, by simpa using z⟩, rfl⟩) hg
    · rw [valQ_no h2]
theorem row_zip {ns : List Str} {row : List Rat} (nd : ns.Nodup) (h : ns.length = row.length) : rowQ ns (ns.zip row) = row := find_zip nd h
theorem row_nz {ns : List Str} {row : List Rat} (nd : ns.Nodup) (h : ns.length = row.length) : rowQ ns (nzL ns row) = row := by
  unfold rowQ
  rw [show (valQ (nzL ns row)) = valQ (ns.zip row) from funext fun g => valQ_nz nd h g]
  exact find_zip nd h
theorem dot_sz4 {n : Nat} {vs pv : List Rat} (hn : n = 1 ∨ n = 2) (v : VsG n vs) (p : PvG n pv) : Sz 20 (dotQ vs pv) ∧ 0 < dotQ vs pv := by
  rcases hn with rfl | rfl
  · match vs, v.l, pv, p.l with
    | [a], _, [b], _ =>
      rw [dot1]
      exact ⟨(sz_mul (v.z a List.mem_cons_self) (p.z b List.mem_cons_self) (Nat.le_refl _)).mono (by decide), Rat.mul_pos v.hd (p.ps b List.mem_cons_self)⟩
  · match vs, v.l, pv, p.l with
    | [a, c], _, [b, d], _ =>
      rw [dot2]
      have h1 := sz_mul (v.z a List.mem_cons_self) (p.z b List.mem_cons_self) (Nat.le_refl _)
      have h2 := sz_mul (v.z c (List.mem_cons_of_mem _ List.mem_cons_self)) (p.z d (List.mem_cons_of_mem _ List.mem_cons_self)) (Nat.le_refl _)
      have p1 := Rat.mul_pos v.hd (p.ps b List.mem_cons_self)
      have p2 := Rat.mul_nonneg (v.nn c (List.mem_cons_of_mem _ List.mem_cons_self)) (Rat.le_of_lt (p.ps d (List.mem_cons_of_mem _ List.mem_cons_self)))
      have p1 : 0 < a * b := p1
      exact ⟨sz_add h1 h2 (by decide), by grind⟩
theorem wr_n {ns : List Str} (w : WrG ns) : ns.length = 1 ∨ ns.length = 2 := by have := w.l1; have := w.l2; omega
/-- a fact that may be told -/
theorem tell_ok {ns : List Str} {pv vs : List Rat} {F : List Fct} {dm : Dm} (w : WrG ns) (p : PvG ns.length pv) (v : VsG ns.length vs) (hF : ∀ f ∈ F, GoodF ns.length pv f) (l8 : F.length < 8) (hs : ∀ g ∈ namesQ dm, g ∈ ns) (hr : rowQ ns dm = vs) :
    tlE ns F dm (dotQ vs pv) = none ∧ FcG ns.length (F ++ [(rowQ ns dm, dotQ vs pv)]) ∧ fitB ns.length (F ++ [(rowQ ns dm, dotQ vs pv)]) = true := by
  obtain ⟨hz, h0⟩ := dot_sz4 (wr_n w) v p
  have all : ∀ f ∈ F ++ [(vs, dotQ vs pv)], GoodF ns.length pv f := fun f hf => by
    rcases List.mem_append.mp hf with hf | hf
    · exact hF f hf
    · rw [List.mem_singleton.mp hf]; exact ⟨v, rfl⟩
  rw [hr]
  refine ⟨?_, ⟨by rw [List.length_append]; show F.length + 1 ≤ 9; omega, fun f hf => (all f hf).v.l, fun f hf x hx => ((all f hf).v.z x hx).mono (by decide), fun f hf => ?_⟩, ?_⟩
  · have hv : ∀ g, ¬ valQ dm g < 0 := fun g => by
      by_cases hg : g ∈ namesQ dm
      · have : valQ dm g ∈ vs := by rw [← hr]; exact List.mem_map_of_mem (hs g hg)
        exact Rat.not_lt.mpr (v.nn _ this)
      · rw [valQ_no hg]; exact Rat.lt_irrefl
    unfold tlE
    rw [demE_of hs hv]
    dsimp only
    have hb : ((rowQ ns dm).map fun x => x.num != 0).any id = true := by
      rw [hr]
      have hl : 0 < vs.length := by rw [v.l]; exact w.l1
      refine List.any_eq_true.mpr ⟨_, List.mem_map.mpr ⟨atQ vs 0, getD_mem hl, rfl⟩, ?_⟩
      have : atQ vs 0 ≠ 0 := fun e => by have := v.hd; rw [e] at this; exact absurd this Rat.lt_irrefl
      exact num_ne this
    rw [if_pos hb, if_pos h0, if_neg (by omega)]
  · rw [(all f hf).e]
    exact (dot_sz4 (wr_n w) (all f hf).v p).1
  · exact fits_T (wr_n w) ⟨by simp, p.l, fun x hx => Rat.le_of_lt (p.ps x hx), fun f hf => (all f hf).v.l, fun f hf e => by
      have := (all f hf).v.hd
      rw [e] at this
      exact absurd this Rat.lt_irrefl, fun f hf => (all f hf).v.nn, fun f hf => (all f hf).e⟩
theorem dmE_noneM {gs : List Str} {dm : Dm} : ∀ {l : List Str}, dmE gs dm l = none → ∀ g ∈ l, g ∈ gs ∧ ¬ valQ dm g < 0
  | [], _, g, h => by cases h
  | a :: l, e, g, h => by
    unfold dmE at e
    split at e
    · rename_i h1
      split at e
      · cases e
      · rename_i h2
        rcases List.mem_cons.mp h with rfl | h
        · exact ⟨h1, h2⟩
        · exact dmE_noneM e g h
    · cases e
theorem due_tl {ns : List Str} {F : List Fct} {dm : Dm} {h : Rat} (h8 : F.length = 8) : tlE ns F dm h = some (dueX ns dm h) := by
  unfold tlE dueX
  cases e : demE ns dm with
  | some x => rfl
  | none =>
    dsimp only
    rw [if_pos h8]
    have hs : ∀ g ∈ namesQ dm, g ∈ ns := fun g hg => (dmE_noneM e g ((srt_perm _).mem_iff.mpr hg)).1
    by_cases hf : ((namesQ dm).filter fun g => !decide (valQ dm g = 0)) = []
    · have : ¬ ((rowQ ns dm).map fun x => x.num != 0).any id = true := fun z => by
        obtain ⟨b, hb, hb2⟩ := List.any_eq_true.mp z
        obtain ⟨x, hx, rfl⟩ := List.mem_map.mp hb
        obtain ⟨g, hg, rfl⟩ := List.mem_map.mp hx
        have hne : valQ dm g ≠ 0 := fun e0 => by rw [e0] at hb2; exact absurd hb2 (by decide)
        have hgn : g ∈ namesQ dm := by
          by_cases hg2 : g ∈ namesQ dm
          · exact hg2
          · exact absurd (valQ_no hg2) hne
        have : g ∈ (namesQ dm).filter fun g => !decide (valQ dm g = 0) := List.mem_filter.mpr ⟨hgn, by simpa using hne⟩
        rw [hf] at this
        cases this
      rw [if_neg this, if_pos hf]
    · have : ((rowQ ns dm).map fun x => x.num != 0).any id = true := by
        obtain ⟨g, hg⟩ := List.exists_mem_of_ne_nil _ hf
        obtain ⟨h1, h2⟩ := List.mem_filter.mp hg
        have h2 : valQ dm g ≠ 0 := by simpa using h2
        exact List.any_eq_true.mpr ⟨_, List.mem_map.mpr ⟨valQ dm g, List.mem_map_of_mem (hs g h1), rfl⟩, num_ne h2⟩
      rw [if_pos this, if_neg hf]
      split <;> rfl
/-! ### rules -/
section
variable {F : Fx} {ρ : Ty} {ω w w1 : Ow} {e : Expr} {pos p0 : Pos} {x : Str} {Φ Ψ : Rl → Ow → Prop}
theorem eg_dictPG (he : EG F ρ ω e Φ) (h : ∀ A w, Φ A w → ∃ zs : List (Str × Rl), A = rLst (zs.map fun p => rTup [rStr p.1, p.2]) ∧ (zs.map (·.1)).Nodup ∧ ∀ q, q ∉ F.M → Ψ (rRef q) ((q, oD (fsP zs)) :: w)) (hg : Gl F.X x) (hm : F.X.mg x = none) (hv : bootBuiltins x = some (.type "dict")) (hn : x ≠ "__name__" := by decide) (hdb : (x == ("__debug__" : Str)) = false := by decide)
    (hc : F.X.calm = true := by rfl) (hs : starEach [e] F.X.env = (false, eval e F.X.env) :: starEach [] F.X.env := by rfl) (hpl : (backTo pos (starEach [] F.X.env)).any (·.1) = false := by rfl) : EG F ρ ω (.Call (.Name x p0) [e] [] pos) Ψ := fun σ G H at_ sl Q k => by
  refine ew_of (pe_callTy (call_dictP hc) hg hm hv (pa_cons pe_w pa_nil hs) hn hdb hs hpl) (he σ G H at_ sl _ fun v G1 H1 A w ka s1 a1 r1 => ?_)
  obtain ⟨zs, rfl, nd, hk⟩ := h A w ka
  obtain ⟨p, vs, rfl, h1, h2⟩ := r1
  obtain ⟨ps, kvs, rfl, h3, h4⟩ := pairs_vR (K := F.X.K) a1.gh h2
  refine ⟨p, ps, kvs, rfl, SqL.of (a1.gh _ _ h1), h3, fun q hq => k (.ref q) G1 _ _ _ (hk q fun hm => a1.mm q hm hq) s1 (a1.own hq ⟨_, rfl, ?_⟩) rfl⟩
  have e : mergeR [] (fsP zs) = fsP zs := merge_nodup (by
    unfold fsP
    rw [List.map_map]
    have : ((zs.map (·.1)).map (Sum.inr : Str → Key)).Nodup := List.pairwise_map.mpr (nd.imp fun hne e => hne (Sum.inr.inj e))
    rw [List.map_map] at this
    exact this)
  have := NR.merge (fs := []) (vs := []) trivial h4
  rw [e] at this
  exact this
end
theorem rct {X : Cx} {n : Nat} {Rs Ss : List Rl} {e : Nat → Bool} {A' : Around} {E : Value → Shared → Prop} {pins : List (Addr × Obj)} {s : Shared} {σ : L2.St} {G H : Hp} {p q : Addr} {vs ws : List V} {Q : Value → Shared → Prop}
    (he : ∀ (i : Nat) R S, Rs[i]? = some R → Ss[i]? = some S → EqB X n R S (e i)) (hz : Rs.length = Ss.length) (bl : Below X (n + 1) A') (I : Inv X pins σ H s) (sg : Same G H) (h1 : G p = some (.tup vs)) (h3 : G q = some (.tup ws)) (h2 : All2 Rs vs G) (h4 : All2 Ss ws G)
    (hQ : ∀ s', LoopW X pins σ G H s' → Q (.bool (W1Q.allFrom e 0 Rs.length)) s') : wpAny (model X.prog X.w) A' (richCompare .Eq (.ref p) (.ref q)) Q E s := by
  obtain ⟨its, nn, dd, sl, r1, o1⟩ := tup_obj I (sg _ _ h1)
  obtain ⟨its2, nn2, dd2, sl2, r2, o2⟩ := tup_obj I (sg _ _ h3)
  have l1 := h2.len
  have l2 := h4.len
  have l3 := r1.length
  have l4 := r2.length
  refine wpAny_richCompare_same_room (op := .Eq) ⟨_, o1, rfl⟩ ⟨_, o2, rfl⟩ PySem.F.slot_tuple_eq (GQ.call_here PySem.F.slot_tuple_eq ⟨_, o1, rfl⟩ PySem.F.entry_tuple_eq (PySem.F.args_tuple_eq_2 _ _) ?_) bl.room.units0
  refine W1Q.tup_go (e := e) (I := fun _ s' => LoopW X pins σ G H s') (by simp only [List.size_toArray]; omega) o1 o2 (fun i a1 a2 s' ⟨G1, H1, I1, st1⟩ => ?_) ⟨G, H, I, Step.refl sg⟩ fun j s' ⟨G', H', I', st⟩ => ?_
  · obtain ⟨R, v, hR, rv, ru⟩ := getOf (h2.up st1.gg) r1 a1
    obtain ⟨S, w', hS, rw', rx⟩ := getOf (h4.up st1.gg) r2 a2
    refine wpAny_mono (he i R S hR hS A'.in1 pins s' σ G1 H1 v w' _ _ _ bl.in1 I1 ru rx st1.gh rv rw') (fun r s2 z => ?_) fun _ _ x => x
    obtain ⟨hr, G2, H2, I2, st2⟩ := z
    exact ⟨hr, G2, H2, I2, st1.trans st2⟩
  · rw [show its.toArray.size = Rs.length by simp only [List.size_toArray]; omega]
    exact ⟨(fun z => nomatch z), hQ s' ⟨G', H', I', st⟩⟩
theorem eqb_tupS {X : Cx} {n : Nat} {Rs : List Rl} (he : ∀ (i : Nat) R, Rs[i]? = some R → EqB X n R R true) : EqB X (n + 1) (rTup Rs) (rTup Rs) true := by
  intro A' pins s σ G H x y u v E bl I rx ry sg ax ay
  obtain ⟨p, vs, rfl, h1, h2⟩ := id ax
  obtain ⟨q, ws, rfl, h3, h4⟩ := id ay
  cases (show u = Value.ref p from rx)
  cases (show v = Value.ref q from ry)
  by_cases hac : p = q
  · subst hac
    unfold eqBool
    refine wpAny_holding ?_
    refine wpAny_ite_split (fun _ => wpAny_bind (wpAny_rule (wpAny_pure ?_))) (fun h => absurd (beq_self_eq_true _) h)
    exact ⟨rfl, G, H, I, Step.refl sg⟩
  · refine GQ.eqBool_refG hac ?_
    refine rct (e := fun _ => true) (fun i R S hR hS => by rw [hR] at hS; cases hS; exact he i R hR) rfl bl I sg h1 h3 h2 h4 fun s' ⟨G', H', I', st⟩ => ?_
    rw [all_true]
    exact ⟨_, rfl, rfl, G', H', I', st⟩
theorem eqb_td {F : Fx} {R : Addr} {ns : List Str} {p : Fct} (Te : Ko F.X.prog F.X.w F.X.K F.X.mg F.X.base R "__eq__" 5 (pEq R)) (hn : PySem.W.notFirst F.X.K R (.ref R) = true) (nd : (namesQ (nzL ns p.1)).Nodup) : EqB F.X 7 (tdQ R ns p) (tdQ R ns p) true := by
  refine (eqb_tupS (n := 6) fun i S hS => ?_)
  match i, hS with
  | 0, hS => cases hS; exact eqb_dctO (likes_Q Te hn nd)
  | 1, hS => cases hS; exact (eqb_rat Te hn).mono (by decide)
section
variable {P : Program} {w : World} {K : PySem.W.Frag} {mg : Str → Option Value} {base : Heap} {C B M U R Hd f : Addr} {fd : FuncData}
def pHInitG (H R : Addr) : PreG := fun Rs w o => ∃ (q : Addr) (l : List Str), WrG l ∧ Rs = [rRef q, rLst (l.map rStr)] ∧ w = [(q, oIns H [])] ∧ o = .ok fun S w' => S = rNon ∧ w' = [(q, oIns H (hidF R (srt l) []))]
theorem kf_hinitG (Fn : Fun K "__init__" "Hidden.__init__" s_Hidden___init__ f fd) (Y : HdX K mg Hd) (Tc : Kf1 P w K mg base "check_names" 3 pChkN) (st : mg "sorted" = none) : FnOk P w K mg base (L2.CX P w) 4 f fd P_Hidden___init__ (spG (pHInitG Hd R)) := by
  refine fn_okG Fn c_Hidden___init__ (fun _ _ _ ⟨_, _, _, h, _⟩ => by rw [h]; rfl) ?_
  rintro cdv A outer s H E ⟨_, G0, H0, M', W', tk⟩ hr rfl Rs ω o ⟨q, l, g, rfl, rfl, rfl⟩ -
  have nd := c_Hidden___init__.nd
  refine hb_expr (R := rNon) (er_fA Tc hr (ar_cons (er_v 1 rfl rfl) ar_nil) ⟨l, g, rfl, rfl, rfl, rfl⟩) ?_
  refine hb_fld (R := rLst ((srt l).map rStr)) (w2 := []) (er_bA (ar_cons (er_v 1 rfl rfl) ar_nil) st bt_sorted copA) (er_v 0 rfl rfl) Y.cls Y.nw ?_
  refine hb_fld (R := rLst []) (w2 := []) (er_lst (Rs := []) ar_nil (Nat.zero_le _)) (er_v 0 rfl rfl) Y.cls Y.nf ?_ (hl := by show 1 < 1000; decide)
  exact hb_nil ⟨_, rNon, _, [], rfl, ⟨rfl, rfl⟩, fun _ => rfl, fun x hx => hx, List.Perm.refl _⟩
theorem kf_told17O (Fn : Fun K "_law_told" "_law_told" s__law_told f fd) (Y : HdX K mg Hd) (E : ErT K mg M U) (Tt : Km P w K mg base Hd "tell" 12 (pTellO Hd R)) : FnOk P w K mg base (L2.CX P w) 13 f fd P__law_told (spM (pTellO Hd R)) := by
  refine fn_ok Fn c__law_told (fun _ _ _ _ ⟨_, _, _, _, _, _, _, _, _, _, _, _, _, h, _⟩ => by rw [h]; rfl) ?_
  rintro cdv A outer s H Ex ⟨_, G0, H0, M', W', tk⟩ hr rfl Rs ω o ω' ⟨q, ns, F, dm, h, ok, n1, n2, hz, l8, he, fg, hf, rfl, rfl, rfl, rfl⟩
  have nd := c__law_told.nd
  refine hb_tryM ⟨"UnknownName", .ref U, 3, "e", _, _, _, _⟩ [⟨"BadNumber", .ref M, 3, "e", _, _, _, _⟩] ?_ rfl rfl nd (fun z hz => ?_)
  · rintro ⟨_, G1, H1, M1, W1, tk1⟩ ⟨⟨pn, xe, e, pa⟩, e1, e2, e3⟩
    cases e
    exact hb_ret (er_mO (wc := [(q, oIns Hd (hidF R ns F))]) (wc' := [(q, oIns Hd (hidF R ns (F ++ [(rowQ ns dm, h)])))]) (w := []) Tt Y.cls hr (er_v 0 rfl rfl) List.mem_cons_self (ar_cons (er_v 1 rfl rfl) (ar_cons (er_v 2 rfl rfl) ar_nil)) ⟨q, ns, F, dm, h, ok, n1, n2, hz, l8, he, fg, hf, rfl, rfl, rfl, rfl⟩) ⟨_, [], rfl, fun v G k => k, rfl⟩
  · rcases List.mem_cons.mp hz with rfl | hz
    · exact ⟨rfl, rfl, rfl, (show (("UnknownName" : Str) == ("__debug__" : Str)) = false by decide), .inl E.gU⟩
    rw [List.mem_singleton.mp hz]
    exact ⟨rfl, rfl, rfl, (show (("BadNumber" : Str) == ("__debug__" : Str)) = false by decide), .inl E.gM⟩
end
end W1
set_option maxRecDepth 100000
set_option maxHeartbeats 8000000
set_option exponentiation.threshold 20000
namespace W1
open PySem PySem.Spec PyProof.Rows L2 NdefX TL NumText
section
variable {F : Fx} {ρ ρ1 : Ty} {ω w1 w2 : Ow} {a b e o tg : Expr} {R : Rl} {Rs : List Rl} {pos p apos : Pos} {K : Kn} {rest : List Stmt} {q : Addr} {Φ : Rl → Ow → Prop} {x : Str}
theorem tr_orF {m : Bool} {es : List Expr} (h : TR F ρ ω a false w1) (g : PWR F ρ w1 (.BoolOp .Or (b :: es) pos) m w2) : PWR F ρ ω (.BoolOp .Or (a :: b :: es) pos) m w2 := by
  obtain ⟨t, hp, hk⟩ := g
  exact ⟨_, pw_or pt_w hp, fun σ G H at_ sl Q q => h σ G H at_ sl _ fun G2 H2 s a => iteF (hk σ G2 H2 a (sl.up s) Q fun G3 H3 s3 a3 => q G3 H3 (s.trans s3) a3)⟩
theorem tr_andF {es : List Expr} (h : TR F ρ ω a false w1) : PWR F ρ ω (.BoolOp .And (a :: b :: es) pos) false w1 :=
  ⟨_, pw_and (tB' := fun _ _ _ => False) pt_w ⟨fun _ _ _ _ _ _ _ h => h.elim⟩, fun σ G H at_ sl Q q => h σ G H at_ sl _ fun G2 H2 s a => iteF (q G2 H2 s a)⟩
theorem tr_andT {m : Bool} {es : List Expr} (h : TR F ρ ω a true w1) (g : PWR F ρ w1 (.BoolOp .And (b :: es) pos) m w2) : PWR F ρ ω (.BoolOp .And (a :: b :: es) pos) m w2 := by
  obtain ⟨t, hp, hk⟩ := g
  exact ⟨_, pw_and pt_w hp, fun σ G H at_ sl Q q => h σ G H at_ sl _ fun G2 H2 s a => iteT (hk σ G2 H2 a (sl.up s) Q fun G3 H3 s3 a3 => q G3 H3 (s.trans s3) a3)⟩
theorem hb_asgG {g : TG} (he : EG F ρ ω e Φ) (pg : PG F.X tg g) (h : ∀ R w, Φ R w → ∃ ρ1, GE g ρ R ρ1 ∧ HB F ρ1 w rest K) (hs : swapsWithSole [tg] e pos.line F.X.env = pure false := by rfl) (hw : swappedStores [tg] e F.X.env = pure none := by rfl)
    (h1 : (assignEach [tg] F.X.env).map (·.2) = [assign tg F.X.env] := by rfl) : HB F ρ ω (.Assign [tg] e pos :: rest) K := hb_cons fun σ G H D at_ sl ps =>
  sw_of (ps_asg pe_w pg hs hw h1) (he σ G H at_ sl _ fun v G2 H2 R w k s a r => by
    obtain ⟨ρ1, hg, hb⟩ := h R w k
    exact hg v σ G2 H2 _ a.gh (sl.up s) r fun σ' sl' => hb σ' G2 H2 D a sl' (ps.up s))
theorem eg_exR {α : Type} {A : α → Rl} (h : ER F ρ ω e (rEx A) w1) : EG F ρ ω e (fun R w => ∃ a, R = A a ∧ w = w1) := fun σ G H at_ sl Q z => h σ G H at_ sl _ fun v G2 H2 s a ⟨x, hx⟩ => z v G2 H2 (A x) w1 ⟨x, rfl, rfl⟩ s a hx
end
theorem bt_min : bootBuiltins "min" = some (.builtin "min") := by decide +kernel
/-! ### what is drawn -/
theorem divInt_pos {t u : Int} (h : 0 < t) (hu : 0 < u) : 0 < Rat.divInt t u := by
  rw [Rat.divInt_eq_div]
  have h1 : (0 : Rat) < (t : Rat) := Rat.intCast_pos.mpr h
  have h2 : (0 : Rat) < (u : Rat) := Rat.intCast_pos.mpr hu
  rw [Rat.div_def]
  exact Rat.mul_pos h1 (Rat.inv_pos.mpr h2)
structure VP (j : Nat) (vs : List Rat) : Prop where
  l : vs.length = j
  nn : ∀ x ∈ vs, 0 ≤ x
  hd : 0 < j → 0 < atQ vs 0
  z : ∀ x ∈ vs, Sz 4 x
structure PP (j : Nat) (vs : List Rat) : Prop where
  l : vs.length = j
  ps : ∀ x ∈ vs, 0 < x
  z : ∀ x ∈ vs, Sz 4 x
theorem VP.nil : VP 0 [] := ⟨rfl, fun _ h => (by cases h), fun h => absurd h (Nat.lt_irrefl _), fun _ h => (by cases h)⟩
theorem PP.nil : PP 0 [] := ⟨rfl, fun _ h => (by cases h), fun _ h => (by cases h)⟩
theorem VP.snoc {j : Nat} {vs : List Rat} {x : Rat} (h : VP j vs) (n : 0 ≤ x) (p : j = 0 → 0 < x) (z : Sz 4 x) : VP (j + 1) (vs ++ [x]) := by
  refine ⟨by rw [List.length_append, h.l]; rfl, fun y hy => ?_, fun _ => ?_, fun y hy => ?_⟩
  · rcases List.mem_append.mp hy with hy | hy
    · exact h.nn y hy
    · rw [List.mem_singleton.mp hy]; exact n
  · cases vs with
    | nil => exact p (by have := h.l; exact this.symm)
    | cons a l => exact h.hd (by have := h.l; rw [List.length_cons] at this; omega)
  · rcases List.mem_append.mp hy with hy | hy
    · exact h.z y hy
    · rw [List.mem_singleton.mp hy]; exact z
theorem PP.snoc {j : Nat} {vs : List Rat} {x : Rat} (h : PP j vs) (p : 0 < x) (z : Sz 4 x) : PP (j + 1) (vs ++ [x]) := by
  refine ⟨by rw [List.length_append, h.l]; rfl, fun y hy => ?_, fun y hy => ?_⟩
  · rcases List.mem_append.mp hy with hy | hy
    · exact h.ps y hy
    · rw [List.mem_singleton.mp hy]; exact p
  · rcases List.mem_append.mp hy with hy | hy
    · exact h.z y hy
    · rw [List.mem_singleton.mp hy]; exact z
abbrev prL (R : Addr) (ns : List Str) (vs : List Rat) : List Rl := (ns.zip vs).map fun p => rTup [rStr p.1, rRat R p.2]
theorem prL_snoc {R : Addr} {ns : List Str} {vs : List Rat} {j : Nat} {g : Str} {x : Rat} (hg : ns[j]? = some g) (hl : vs.length = j) : prL R (ns.take j) vs ++ [rTup [rStr g, rRat R x]] = prL R (ns.take (j + 1)) (vs ++ [x]) := by
  have et : ns.take (j + 1) = ns.take j ++ [g] := by rw [List.take_add_one, hg]; rfl
  have hj : j < ns.length := (List.getElem?_eq_some_iff.mp hg).1
  unfold prL
  rw [et, List.zip_append (by rw [List.length_take, hl]; omega), List.map_append]
  rfl
def names3 : List (List Str) := [[Str.ofString "a"], [Str.ofString "a", Str.ofString "b"], [Str.ofString "x1", Str.ofString "x2"]]
theorem names3_ok : ∀ l ∈ names3, WrG l ∧ srt l.reverse = l := by
  have h : ∀ l ∈ names3, ((1 ≤ l.length ∧ l.length ≤ 2) ∧ l.Nodup ∧ ∀ g ∈ l, nameL (tl g) = true ∧ g.length ≤ 640) ∧ sortedS l = true := by decide +kernel
  exact fun l hl => ⟨⟨(h l hl).1.1.1, (h l hl).1.1.2, (h l hl).1.2.1, (h l hl).1.2.2⟩, (srt_only (List.reverse_perm l).symm (h l hl).2).symm⟩
theorem WrG.rev {l : List Str} (h : WrG l) : WrG l.reverse := ⟨by rw [List.length_reverse]; exact h.l1, by rw [List.length_reverse]; exact h.l2, (List.reverse_perm l).nodup_iff.mpr h.nd, fun g hg => h.nm g (List.mem_reverse.mp hg)⟩
theorem wth_dot {ns : List Str} {vs pv : List Rat} (nd : ns.Nodup) (hv : ns.length = vs.length) (hp : ns.length = pv.length) : wthQ (ns.zip pv) (ns.zip vs) = dotQ vs pv := by
  have e1 := find_zip (row := pv) nd hp
  unfold wthQ dotQ
  congr 1
  have hn := zip_names hv
  refine List.ext_getElem? fun i => ?_
  rw [List.getElem?_map, List.getElem?_map]
  rcases Nat.lt_or_ge i ns.length with h | h
  · have hv2 : i < vs.length := by omega
    have hp2 : i < pv.length := by omega
    have z1 : (ns.zip vs)[i]? = some (ns[i], vs[i]) := List.getElem?_zip_eq_some.mpr ⟨List.getElem?_eq_getElem h, List.getElem?_eq_getElem hv2⟩
    have z2 : (vs.zip pv)[i]? = some (vs[i], pv[i]) := List.getElem?_zip_eq_some.mpr ⟨List.getElem?_eq_getElem hv2, List.getElem?_eq_getElem hp2⟩
    have z3 : (ns.map (valQ (ns.zip pv)))[i]? = pv[i]? := by rw [e1]
    rw [List.getElem?_map, List.getElem?_eq_getElem h, List.getElem?_eq_getElem hp2] at z3
    have z3 : valQ (ns.zip pv) ns[i] = pv[i] := Option.some.inj z3
    rw [z1, z2]
    show some (valQ (ns.zip pv) ns[i] * vs[i]) = some (vs[i] * pv[i])
    rw [z3, Rat.mul_comm]
  · rw [List.getElem?_eq_none (by rw [List.length_zip]; omega), List.getElem?_eq_none (by rw [List.length_zip]; omega)]
    rfl
theorem nz_of {ns : List Str} {vs : List Rat} (nd : ns.Nodup) (h : ns.length = vs.length) : (ns.filter fun g => !decide (valQ (ns.zip vs) g = 0)).map (fun g => (g, valQ (ns.zip vs) g)) = nzL ns vs := by
  have hn := zip_names h
  have nd2 : (namesQ (ns.zip vs)).Nodup := by rw [hn]; exact nd
  have e : ns.map (fun g => (g, valQ (ns.zip vs) g)) = ns.zip vs := by
    have e2 := find_zip nd h
    refine List.ext_getElem? fun i => ?_
    rw [List.getElem?_map]
    rcases Nat.lt_or_ge i ns.length with hi | hi
    · have hv2 : i < vs.length := by omega
      have z3 : (ns.map (valQ (ns.zip vs)))[i]? = vs[i]? := by rw [e2]
      rw [List.getElem?_map, List.getElem?_eq_getElem hi, List.getElem?_eq_getElem hv2] at z3
      rw [List.getElem?_eq_getElem hi, show (ns.zip vs)[i]? = some (ns[i], vs[i]) from List.getElem?_zip_eq_some.mpr ⟨List.getElem?_eq_getElem hi, List.getElem?_eq_getElem hv2⟩]
      show some (ns[i], valQ (ns.zip vs) ns[i]) = _
      rw [Option.some.inj z3]
    · rw [List.getElem?_eq_none hi, List.getElem?_eq_none (by rw [List.length_zip]; omega)]
      rfl
  unfold nzL
  conv => rhs; rw [← e]
  rw [List.filter_map]
  congr 1
  refine List.filter_congr fun g hg => ?_
  show (!decide (valQ (ns.zip vs) g = 0)) = ((valQ (ns.zip vs) g).num != 0)
  by_cases z : valQ (ns.zip vs) g = 0
  · rw [z]; rfl
  · rw [num_ne z, decide_eq_false z]; rfl
theorem nz_N {ns : List Str} {vs : List Rat} (w : WrG ns) (v : VsG ns.length vs) : DmN 2 (nzL ns vs) := by
  have hl : ns.length = vs.length := v.l.symm
  refine ⟨⟨nz_nodup w.nd hl, fun p hp => ?_, ?_⟩, fun g hg => (w.nm g (nz_names hl g hg)).2⟩
  · exact (v.z _ (List.of_mem_zip (a := p.1) (b := p.2) (List.mem_filter.mp hp).1).2).mono (by decide)
  · have := List.length_filter_le (fun p : Str × Rat => p.2.num != 0) (ns.zip vs)
    rw [List.length_zip] at this
    have := w.l2
    unfold nzL
    omega
theorem zip_N {ns : List Str} {vs : List Rat} (w : WrG ns) (hl : vs.length = ns.length) (z : ∀ x ∈ vs, Sz 4 x) : DmN 2 (ns.zip vs) := by
  refine ⟨⟨by rw [zip_names hl.symm]; exact w.nd, fun p hp => (z _ (List.of_mem_zip (a := p.1) (b := p.2) hp).2).mono (by decide), by rw [List.length_zip]; have := w.l2; omega⟩, fun g hg => ?_⟩
  rw [zip_names hl.symm] at hg
  exact (w.nm g hg).2
theorem eqb_ans {F : Fx} {R : Addr} (Te : Ko F.X.prog F.X.w F.X.K F.X.mg F.X.base R "__eq__" 5 (pEq R)) (hn : PySem.W.notFirst F.X.K R (.ref R) = true) (x : (Str ⊕ Rat) ⊕ Int) : ∃ L, ansT R x = rLst L ∧ ∀ (i : Nat) S, L[i]? = some S → EqB F.X 5 S S true := by
  have st : ∀ z : Str, EqB F.X 5 (rStr z) (rStr z) true := fun z => by
    have := (eqb_val (X := F.X) (x := .str z) (y := .str z) rfl rfl).mono (show 0 ≤ 5 by decide)
    rw [eqV_str] at this
    exact this
  have it : ∀ z : Int, EqB F.X 5 (rInt z) (rInt z) true := fun z => by
    have := (eqb_val (X := F.X) (x := .int z) (y := .int z) rfl rfl).mono (show 0 ≤ 5 by decide)
    rw [show eqV (.int z) (.int z) = true by simp [eqV]] at this
    exact this
  rcases x with (g | q) | n
  · exact ⟨_, rfl, fun i S h => match i, h with | 0, h => by cases h; exact st _ | 1, h => by cases h; exact st _⟩
  · exact ⟨_, rfl, fun i S h => match i, h with | 0, h => by cases h; exact st _ | 1, h => by cases h; exact eqb_rat Te hn⟩
  · exact ⟨_, rfl, fun i S h => match i, h with | 0, h => by cases h; exact st _ | 1, h => by cases h; exact it _⟩
def pLaw (K : PySem.W.Frag) : Pre := pOk (α := List Int) (fun ns => ns.length ≤ 63) (fun ns => [rScr K (ns.map V.int)]) (fun _ => rBool true)
structure LaX (P : Program) (w : World) (K : PySem.W.Frag) (mg : Str → Option Value) (base : Heap) (Hd R M : Addr) : Prop where
  X : RtX P w K mg base R M
  Y : HdX K mg Hd
  nm : NeM K R
  Tb : KfN1 P w K mg base "_law_pool" 1 pBag
  Tt : Kf1 P w K mg base "_law_take" 1 pTake
  Ta : Kf1 P w K mg base "_law_at" 1 (pAt K)
  Tw : Kf1 P w K mg base "_law_worth" 6 (pWorth17 R)
  TtE : Kf1 P w K mg base "_law_told" 13 (pToldE Hd R)
  TtO : Kf1 P w K mg base "_law_told" 13 (pTellO Hd R)
  Td : Kf1 P w K mg base "_law_due" 7 (pDue17 R)
  To : Kf1 P w K mg base "_law_odd" 6 (pOdd R)
  Ti : KcG P w K mg base Hd "Hidden" 4 (pHInitG Hd R)
  Te : Km P w K mg base Hd "tell" 12 (pTellO Hd R)
  Tl : Ko P w K mg base Hd "__len__" 1 (pHLen Hd R)
  Td2 : Km P w K mg base Hd "told" 6 (pTold17 Hd R)
  Tu : Km P w K mg base Hd "undo" 2 (pUndo Hd R)
  len : mg "len" = none
  mn : mg "min" = none
  rg : mg "range" = none
  di : mg "dict" = none
  int : mg "int" = none
end W1
set_option maxRecDepth 100000
set_option maxHeartbeats 8000000
set_option exponentiation.threshold 20000
namespace W1
open PySem PySem.Spec PyProof.Rows L2 NdefX TL NumText
theorem tellP {R Hd qh : Addr} {nms : List Str} {pv vs : List Rat} {F : List Fct} {dm : Dm} (w : WrG nms) (p : PvG nms.length pv) (v : VsG nms.length vs) (hF : ∀ f ∈ F, GoodF nms.length pv f) (l8 : F.length < 8) (ok : DmS dm) (hs : ∀ g ∈ namesQ dm, g ∈ nms) (hr : rowQ nms dm = vs) :
    pTellO Hd R [rRef qh, rDct (fsQ R dm), rRat R (dotQ vs pv)] [(qh, oIns Hd (hidF R nms F))] (.ok (rBool true)) [(qh, oIns Hd (hidF R nms (F ++ [(vs, dotQ vs pv)])))] := by
  obtain ⟨t1, t2, t3⟩ := tell_ok w p v hF l8 hs hr
  exact ⟨qh, nms, F, dm, _, ok, w.l1, w.l2, (dot_sz4 (wr_n w) v p).1, l8, t1, t2, t3, rfl, rfl, by rw [hr], rfl⟩
section
variable {F : Fx} {ρ : Ty} {w : Ow} {R q p : Addr} {rest : List Stmt} {K : Kn}
theorem bop_neAns {x : (Str ⊕ Rat) ⊕ Int} (Te : Ko F.X.prog F.X.w F.X.K F.X.mg F.X.base R "__eq__" 5 (pEq R)) (hn : PySem.W.notFirst F.X.K R (.ref R) = true) (hr : Room 6 F.X.A) : Bop F w (compareOp .NotEq) (ansT R x) (ansT R x) (rBool false) := by
  obtain ⟨L, eL, he⟩ := eqb_ans Te hn x
  rw [eL]
  have h := bop_neL (F := F) (w := w) (n := 5) (Rs := L) (Ss := L) (e := fun _ => true) (fun i A B h1 h2 => by rw [h1] at h2; cases h2; exact he i A h1) hr
  rw [all_true, decide_eq_true rfl] at h
  exact h
theorem td_same {ns : List Str} {L : List Fct} (Te : Ko F.X.prog F.X.w F.X.K F.X.mg F.X.base R "__eq__" 5 (pEq R)) (hn : PySem.W.notFirst F.X.K R (.ref R) = true) (nd : ∀ f ∈ L, (namesQ (nzL ns f.1)).Nodup) : ∀ (i : Nat) A B, (L.map (tdQ R ns))[i]? = some A → (L.map (tdQ R ns))[i]? = some B → EqB F.X 7 A B true := fun i A B h1 h2 => by
  rw [h1] at h2
  cases h2
  obtain ⟨f, hf, rfl⟩ := map_get h1
  exact eqb_td Te hn (nd f (List.mem_of_getElem? hf))
theorem bop_neTd {ns : List Str} {L : List Fct} (Te : Ko F.X.prog F.X.w F.X.K F.X.mg F.X.base R "__eq__" 5 (pEq R)) (hn : PySem.W.notFirst F.X.K R (.ref R) = true) (nd : ∀ f ∈ L, (namesQ (nzL ns f.1)).Nodup) (hm : (q, oL (L.map (tdQ R ns))) ∈ w) (hr : Room 8 F.X.A) : Bop F w (compareOp .NotEq) (rLst (L.map (tdQ R ns))) (rRef q) (rBool false) := by
  have h := bop_neLO (F := F) (w := w) (n := 7) (Rs := L.map (tdQ R ns)) (b := fun _ => true) hm (td_same Te hn nd) hr
  rw [all_true, decide_eq_true rfl] at h
  exact h
theorem bop_neTdL {ns : List Str} {L : List Fct} (Te : Ko F.X.prog F.X.w F.X.K F.X.mg F.X.base R "__eq__" 5 (pEq R)) (hn : PySem.W.notFirst F.X.K R (.ref R) = true) (nd : ∀ f ∈ L, (namesQ (nzL ns f.1)).Nodup) (hr : Room 8 F.X.A) : Bop F w (compareOp .NotEq) (rLst (L.map (tdQ R ns))) (rLst (L.map (tdQ R ns))) (rBool false) := by
  have h := bop_neL (F := F) (w := w) (n := 7) (Rs := L.map (tdQ R ns)) (Ss := L.map (tdQ R ns)) (e := fun _ => true) (td_same Te hn nd) hr
  rw [all_true, decide_eq_true rfl] at h
  exact h
theorem hb_exO1 {α : Type} {O : Ol} {B : α → Ol} (h : ∀ a, HB F ρ ((p, O) :: (q, B a) :: w) rest K) : HB F ρ ((p, O) :: (q, oEx B) :: w) rest K := hb_perm (List.Perm.swap _ _ _) (hb_exO fun a => hb_perm (List.Perm.swap _ _ _) (h a))
end
theorem td_map {R : Addr} {ns : List Str} {L : List Fct} (nd : ns.Nodup) (h : ∀ f ∈ L, ns.length = f.1.length) : L.map (tdR R ns) = L.map (tdQ R ns) := List.map_congr_left fun f hf => tdR_eq nd (h f hf)
theorem last_of {α : Type} {L : List α} {n : Nat} (h : L.length = n + 1) : ∃ L0 x, L = L0 ++ [x] ∧ L0.length = n := by
  have hne : L ≠ [] := fun e => by rw [e] at h; cases h
  refine ⟨L.dropLast, L.getLast hne, (List.dropLast_concat_getLast hne).symm, ?_⟩
  rw [List.length_dropLast, h]
  rfl
end W1
set_option maxRecDepth 100000
set_option maxHeartbeats 8000000
set_option exponentiation.threshold 20000
namespace W1
open PySem PySem.Spec PyProof.Rows L2 NdefX TL NumText
section
variable {P : Program} {w : World} {K : PySem.W.Frag} {mg : Str → Option Value} {base : Heap} {C B M U R Hd f : Addr} {fd : FuncData}
theorem kf_law (Fn : Fun K "law" "law" s_law f fd) (Z : LaX P w K mg base Hd R M) : FnOk P w K mg base (L2.CX P w) 14 f fd P_law (spM (pLaw K)) := by
  refine fn_ok Fn c_law (fun _ _ _ _ ⟨_, _, h, _⟩ => by rw [h]; rfl) ?_
  rintro cdv A' outer s00 H E ⟨_, G0, H0, M', W', tk⟩ hr rfl Rs ω o ω' ⟨ns, hns, rfl, rfl, rfl, rfl⟩
  have hns : ns.length ≤ 63 := hns
  have nd := c_law.nd
  have r1 := hr.mono (show 1 ≤ 13 by decide)
  have r2 := hr.mono (show 2 ≤ 13 by decide)
  have r4 := hr.mono (show 4 ≤ 13 by decide)
  have r5 := hr.mono (show 5 ≤ 13 by decide)
  have r6 := hr.mono (show 6 ≤ 13 by decide)
  have r7 := hr.mono (show 7 ≤ 13 by decide)
  have r8 := hr.mono (show 8 ≤ 13 by decide)
  have r12 := hr.mono (show 12 ≤ 13 by decide)
  have z0 : Rat.divInt 0 1 = 0 := by decide +kernel
  refine hb_for (it_rng1 (ar_cons (er_bin er_int (er_bA (ar_cons er_int (ar_cons (er_bA (ar_cons (er_v 0 rfl rfl) ar_nil) Z.len bt_len cop_lenS) ar_nil)) Z.mn bt_min (cop_min2 rfl)) bop_add) ar_nil) rfl Z.rg (by rw [List.length_map]; split <;> omega)) (fun k ρ w => ∃ z1 z2 z3 z4 z5 z6 z7 z8 z9 z10 z11 z12 z13 z14, ρ = [some (rScr K (ns.map V.int)), z1, z2, z3, z4, z5, z6, z7, z8, z9, z10, z11, z12, z13, z14]) ⟨_, _, _, _, _, _, _, _, _, _, _, _, _, _, rfl⟩ ?_ ?_ (passes_of rfl) (pg_name (i := 1) nd rfl (Or.inl rfl))
  · rintro k ρ wr S hS ⟨z1, z2, z3, z4, z5, z6, z7, z8, z9, z10, z11, z12, z13, z14, rfl⟩
    obtain ⟨hk, rfl⟩ := rng_get hS
    rw [show (0 : Int) + (k : Int) = ((k : Nat) : Int) by omega]
    refine ⟨_, ge_name, ?_⟩
    refine hb_setNA 2 rfl (en_fA Z.Tb r1 (ar_cons (er_fA Z.Ta r1 (ar_cons (er_v 0 rfl rfl) (ar_cons (er_v 1 rfl rfl) ar_nil)) ⟨(ns, k), trivial, rfl, rfl, rfl, rfl⟩) ar_nil) ⟨atS ns k, rfl, rfl, rfl, rfl⟩) (fun q hq => ?_)
    generalize ((atS ns k, (0 : Int), decide ((10 : Int) ^ 18 ≤ atS ns k)) : Pool) = s0
    have d3 := tkR_lt (s := s0) (L := 3) (by decide)
    refine hb_setA (R := rLst ((names3.getD (tkR s0 3).toNat []).map rStr)) (w1 := (q, oPool (drS s0 3)) :: wr) 3 rfl (er_ix (A := rLst (names3.map fun l => rLst (l.map rStr))) (er_lst (Rs := [rLst [rStr (Str.ofString "a")], rLst [rStr (Str.ofString "a"), rStr (Str.ofString "b")], rLst [rStr (Str.ofString "x1"), rStr (Str.ofString "x2")]]) (ar_cons (er_lst (ar_cons er_str ar_nil) (by show 1 ≤ 1000; decide)) (ar_cons (er_lst (ar_cons er_str (ar_cons er_str ar_nil)) (by show 2 ≤ 1000; decide)) (ar_cons (er_lst (ar_cons er_str (ar_cons er_str ar_nil)) (by show 2 ≤ 1000; decide)) ar_nil))) (by show 3 ≤ 1000; decide)) (er_f1 0 Z.Tt r1 (ar_cons (er_v 2 rfl rfl) (ar_cons er_int ar_nil)) rfl (takeOk (s := s0) (L := 3) (by decide) (by decide))) (iop_pickM (α := List Str) (A := fun l => rLst (l.map rStr)) (xs := names3) [] d3.1 (show _ < ((3 : Nat) : Int) from d3.2))) ?_
    obtain ⟨wr3, hsr⟩ := names3_ok _ (getD_mem (l := names3) (i := (tkR s0 3).toNat) (d := []) (by show _ < 3; omega))
    generalize names3.getD (tkR s0 3).toNat [] = nms at wr3 hsr
    generalize drS s0 3 = s1
    have l1 := wr3.l1
    have l2 := wr3.l2
    -- the prices
    refine hb_setG (Φ := fun A w => ∃ qp pv s, qp ∉ M' ∧ PP nms.length pv ∧ A = rRef qp ∧ w = (qp, oD (fsQ R (nms.zip pv))) :: (q, oPool s) :: wr) 4 rfl (eg_dictPG (Φ := fun A w => ∃ pv s, PP nms.length pv ∧ A = rLst (prL R nms pv) ∧ w = (q, oPool s) :: wr) (eg_lc1 5 rfl (fun _ _ _ _ _ => pg_name (i := 5) nd rfl (Or.inl rfl)) (blkOk_by (N := N_law) (sc := defScope s_law) (by decide +kernel)) (it_lst (er_v 3 rfl rfl)) (by rw [List.length_map]; omega) (fun j Bs w => ∃ pv s, PP j pv ∧ j ≤ nms.length ∧ Bs = prL R (nms.take j) pv ∧ w = (q, oPool s) :: wr) ⟨[], s1, PP.nil, Nat.zero_le _, rfl, rfl⟩ ?_ ?_ ?_) ?_ rfl Z.di bt_dict17) ?_
    · rintro j S Bs w hS ⟨pv, s, pp, -, rfl, rfl⟩ sx H0x cc cl fp d
      obtain ⟨g, eg, rfl⟩ := map_get hS
      have d5 := tkR_lt (s := s) (L := 5) (by decide)
      have d2 := tkR_lt (s := drS s 5) (L := 2) (by decide)
      refine eg_er (er_tup (Rs := [rStr g, rRat R (Rat.divInt (1 + tkR s 5) (1 + tkR (drS s 5) 2))]) (ar_cons (er_v 5 rfl rfl) (ar_cons (er_ratio Z.X.Tq r4 (ar_cons (er_bin er_int (er_f1 1 Z.Tt r1 (ar_cons (er_v 2 rfl rfl) (ar_cons er_int ar_nil)) rfl (takeOk (s := s) (L := 5) (by decide) (by decide))) bop_add) (ar_cons (er_bin er_int (er_f1 1 Z.Tt r1 (ar_cons (er_v 2 rfl rfl) (ar_cons er_int ar_nil)) rfl (takeOk (s := drS s 5) (L := 2) (by decide) (by decide))) bop_add) ar_nil)) rfl (by omega) (lt9 (by omega))) ar_nil)) (Nat.le_of_ble_eq_true rfl)) ⟨(q, oPool (drS (drS s 5) 2)) :: wr, List.Perm.refl _, pv ++ [_], _, pp.snoc (divInt_pos (by omega) (by omega)) (sz_divInt (by omega) (Nat.lt_of_le_of_lt (show _ ≤ 15 by omega) (by decide)) (Nat.lt_of_le_of_lt (show _ ≤ 15 by omega) (by decide))), (List.getElem?_eq_some_iff.mp eg).1, prL_snoc eg pp.l, rfl⟩
    · rintro j Bs w ⟨pv, s, pp, hj, rfl, rfl⟩
      unfold prL
      rw [List.length_map, List.length_zip, pp.l, List.length_take]
      omega
    · rintro Bs w ⟨pv, s, pp, -, rfl, rfl⟩
      rw [List.length_map] at pp
      rw [List.length_map, List.take_length]
      exact ⟨pv, s, pp, rfl, rfl⟩
    · rintro A w ⟨pv, s, pp, rfl, rfl⟩
      refine ⟨(nms.zip pv).map fun p => (p.1, rRat R p.2), by rw [List.map_map]; rfl, by rw [List.map_map]; have := zip_names (ns := nms) (row := pv) pp.l.symm; unfold namesQ at this; exact (show (List.map (·.1) (nms.zip pv)).Nodup by rw [this]; exact wr3.nd), fun qp hqp => ⟨qp, pv, s, hqp, pp, rfl, ?_⟩⟩
      unfold fsP fsQ
      rw [List.map_map]
      rfl
    rintro A w ⟨qp, pv, s2, hqp, pp, rfl, rfl⟩
    refine hb_pubD 4 rfl hqp ?_
    have pvg : PvG nms.length pv := ⟨pp.l, pp.ps, pp.z⟩
    -- a hidden book, nothing kept
    obtain ⟨lv, lp2⟩ := (⟨l1, l2⟩ : 1 ≤ nms.length ∧ nms.length ≤ 2)
    have ndp : (namesQ (nms.zip pv)).Nodup := by rw [zip_names pp.l.symm]; exact wr3.nd
    refine hb_par2 (Ψ := fun Rs w => ∃ qh qk, qk ∉ M' ∧ Rs = [rRef qh, rRef qk] ∧ w = (qk, oL []) :: (qh, oIns Hd (hidF R nms [])) :: (q, oPool s2) :: wr) 6 7 (ag_cons (Φ := fun A w => ∃ qh, A = rRef qh ∧ w = (qh, oIns Hd (hidF R nms [])) :: (q, oPool s2) :: wr) (eg_mono (eg_cG (wc := []) (w := (q, oPool s2) :: wr) (Ψ := fun y S w' => S = rNon ∧ w' = [(y, oIns Hd (hidF R (srt nms.reverse) []))]) Z.Ti r5 (ar_cons (er_eq (S := rLst (nms.reverse.map rStr)) (er_revL (er_v 3 rfl rfl)) (by rw [List.map_reverse])) ar_nil) (fun y => ⟨y, nms.reverse, wr3.rev, rfl, rfl, rfl⟩) (fun y A w' h v G k => by rw [h.1] at k; exact k)) fun A w ⟨y, S, hy, h1, w', ⟨e1, e2⟩, h3, h4⟩ => ⟨y, h1, by rw [h4, e2, hsr]; rfl⟩) ?_) ?_ nd
    · rintro A w ⟨qh, rfl, rfl⟩
      refine ag_cons (Φ := fun A w => ∃ qk, qk ∉ M' ∧ A = rRef qk ∧ w = (qk, oL []) :: (qh, oIns Hd (hidF R nms [])) :: (q, oPool s2) :: wr) (eg_en (en_lst (Rs := []) ar_nil (Nat.zero_le _)) fun qk hqk => ⟨qk, hqk, rfl, rfl⟩) ?_
      rintro B w ⟨qk, hqk, rfl, rfl⟩
      exact ag_nil ⟨qh, qk, hqk, rfl, rfl⟩
    rintro Rs w ⟨qh, qk, hqk, rfl, rfl⟩
    refine ⟨_, _, rfl, ?_⟩
    refine hb_perm (w2 := (qh, oIns Hd (hidF R nms [])) :: (q, oPool s2) :: (qk, oL []) :: wr) ((List.Perm.swap _ _ _).trans (List.Perm.cons _ (List.Perm.swap _ _ _))) ?_
    -- eight facts are told
    refine hb_for (it_rng1 (ar_cons er_int ar_nil) rfl Z.rg (by decide)) (fun j ρ w => ∃ F s z5 z8 z9 z10 z11 z12 z13 z14, F.length = j ∧ j ≤ 8 ∧ (∀ f ∈ F, GoodF nms.length pv f) ∧ ρ = [some (rScr K (ns.map V.int)), some (rInt ((k : Nat) : Int)), some (rRef q), some (rLst (nms.map rStr)), some (rDct (fsQ R (nms.zip pv))), z5, some (rRef qh), some (rRef qk), z8, z9, z10, z11, z12, z13, z14] ∧ w = (qh, oIns Hd (hidF R nms F)) :: (q, oPool s) :: (qk, oL (F.map (tdQ R nms))) :: wr) ⟨[], s2, _, _, _, _, _, _, _, _, rfl, by decide, fun _ h => (by cases h), rfl, rfl⟩ ?_ ?_ (passes_of rfl) (pg_name (i := 8) nd rfl (Or.inr rfl))
    · rintro j ρ w S hS ⟨F, s, z5, z8, z9, z10, z11, z12, z13, z14, hF8, -, hF, rfl, rfl⟩
      obtain ⟨hj, rfl⟩ := rng_get hS
      have hj : j < 8 := hj
      rw [show (0 : Int) + (j : Int) = ((j : Nat) : Int) by omega]
      refine ⟨_, ge_name, ?_⟩
      obtain ⟨g0, hg0⟩ : ∃ g0, nms[0]? = some g0 := ⟨_, List.getElem?_eq_getElem (by omega)⟩
      have f3 := Int.fmod_nonneg_of_pos ((j : Nat) : Int) (show (0 : Int) < 3 by decide)
      have f3' := Int.fmod_lt_of_pos ((j : Nat) : Int) (show (0 : Int) < 3 by decide)
      -- a demand
      refine hb_setG (Φ := fun A w => ∃ qd vs s, qd ∉ M' ∧ VP nms.length vs ∧ A = rRef qd ∧ w = (qd, oD (fsQ R (nms.zip vs))) :: (qh, oIns Hd (hidF R nms F)) :: (q, oPool s) :: (qk, oL (F.map (tdQ R nms))) :: wr) 9 rfl (eg_dictPG (Φ := fun A w => ∃ vs s, VP nms.length vs ∧ A = rLst (prL R nms vs) ∧ w = (qh, oIns Hd (hidF R nms F)) :: (q, oPool s) :: (qk, oL (F.map (tdQ R nms))) :: wr) (eg_lc1 5 rfl (fun _ _ _ _ _ => pg_name (i := 5) nd rfl (Or.inl rfl)) (blkOk_by (N := N_law) (sc := defScope s_law) (by decide +kernel)) (it_lst (er_v 3 rfl rfl)) (by rw [List.length_map]; omega) (fun j Bs w => ∃ vs s, VP j vs ∧ j ≤ nms.length ∧ Bs = prL R (nms.take j) vs ∧ w = (qh, oIns Hd (hidF R nms F)) :: (q, oPool s) :: (qk, oL (F.map (tdQ R nms))) :: wr) ⟨[], s, VP.nil, Nat.zero_le _, rfl, rfl⟩ ?_ ?_ ?_) ?_ rfl Z.di bt_dict17) ?_
      · rintro i S Bs w hS ⟨vs, s, vp, -, rfl, rfl⟩ sx H0x cc cl fp d
        obtain ⟨g, eg, rfl⟩ := map_get hS
        have d4 := tkR_lt (s := s) (L := 4) (by decide)
        have h01 : 0 ≤ (if decide (g = g0) then (1 : Int) else 0) ∧ (if decide (g = g0) then (1 : Int) else 0) ≤ 1 := by split <;> omega
        have hp : i = 0 → 0 < tkR s 4 + (if decide (g = g0) then (1 : Int) else 0) := fun e => by
          subst e
          rw [hg0] at eg
          cases eg
          rw [decide_eq_true rfl, if_pos rfl]
          omega
        have ec : ∀ {F : Fx} {w : Ow}, Cop F w (.type "int") [rBool (decide (g = g0))] (rInt (if decide (g = g0) then (1 : Int) else 0)) := fun {F w} => cop_intB
        generalize (if decide (g = g0) then (1 : Int) else 0) = b01 at h01 hp ec
        refine eg_er (er_tup (Rs := [rStr g, rRat R (Rat.divInt (tkR s 4 + b01) (1 + ((j : Nat) : Int).fmod 3))]) (ar_cons (er_v 5 rfl rfl) (ar_cons (er_ratio Z.X.Tq r4 (ar_cons (er_bin (er_f1 2 Z.Tt r1 (ar_cons (er_v 2 rfl rfl) (ar_cons er_int ar_nil)) rfl (takeOk (s := s) (L := 4) (by decide) (by decide))) (er_tA (ar_cons (er_cmp (er_v 5 rfl rfl) (er_ix (R := rStr g0) (er_v 3 rfl rfl) er_int (iop_L (n := 0) (by unfold ixN; rw [List.length_map, if_pos (by decide), if_pos (by omega)]; rfl) (by rw [List.getElem?_map, hg0]; rfl))) bop_eqS) ar_nil) Z.int bt_int ec) bop_add) (ar_cons (er_bin er_int (er_bin (er_v 8 rfl rfl) er_int (bop_mod (by decide))) bop_add) ar_nil)) rfl (by omega) (lt9 (by omega))) ar_nil)) (Nat.le_of_ble_eq_true rfl)) ⟨(qh, oIns Hd (hidF R nms F)) :: (q, oPool (drS s 4)) :: (qk, oL (F.map (tdQ R nms))) :: wr, List.Perm.refl _, vs ++ [_], _, vp.snoc (Rat.divInt_nonneg (by omega) (by omega)) (fun e => divInt_pos (hp e) (by omega)) (sz_divInt (by omega) (Nat.lt_of_le_of_lt (show _ ≤ 15 by omega) (by decide)) (Nat.lt_of_le_of_lt (show _ ≤ 15 by omega) (by decide))), (List.getElem?_eq_some_iff.mp eg).1, prL_snoc eg vp.l, rfl⟩
      · rintro j Bs w ⟨vs, s, vp, hj, rfl, rfl⟩
        unfold prL
        rw [List.length_map, List.length_zip, vp.l, List.length_take]
        omega
      · rintro Bs w ⟨vs, s, vp, -, rfl, rfl⟩
        rw [List.length_map] at vp
        rw [List.length_map, List.take_length]
        exact ⟨vs, s, vp, rfl, rfl⟩
      · rintro A w ⟨vs, s, vp, rfl, rfl⟩
        refine ⟨(nms.zip vs).map fun p => (p.1, rRat R p.2), by rw [List.map_map]; rfl, by rw [List.map_map]; have := zip_names (ns := nms) (row := vs) vp.l.symm; unfold namesQ at this; exact (show (List.map (·.1) (nms.zip vs)).Nodup by rw [this]; exact wr3.nd), fun qd hqd => ⟨qd, vs, s, hqd, vp, rfl, ?_⟩⟩
        unfold fsP fsQ
        rw [List.map_map]
        rfl
      rintro A w ⟨qd, vs, s3, hqd, vp, rfl, rfl⟩
      refine hb_pubD 9 rfl hqd ?_
      have vg : VsG nms.length vs := ⟨vp.l, vp.nn, vp.hd l1, vp.z⟩
      have ndv : (namesQ (nms.zip vs)).Nodup := by rw [zip_names vp.l.symm]; exact wr3.nd
      have okv := zip_N wr3 vp.l vp.z
      -- its hours
      refine hb_setA (R := rRat R (dotQ vs pv)) 10 rfl (er_eq (er_fA Z.Tw r6 (ar_cons (er_v 4 rfl rfl) (ar_cons (er_v 9 rfl rfl) ar_nil)) ⟨nms.zip pv, nms.zip vs, ndp, ndv, by rw [List.length_zip]; omega, fun g hg => by rw [zip_names pp.l.symm]; rw [zip_names vp.l.symm] at hg; exact hg, fun p hp => (pp.z _ (List.of_mem_zip (a := p.1) (b := p.2) hp).2).mono (by decide), fun p hp => (vp.z _ (List.of_mem_zip (a := p.1) (b := p.2) hp).2).mono (by decide), rfl, rfl, rfl, rfl⟩) (by rw [wth_dot wr3.nd vp.l.symm pp.l.symm])) ?_
      have tellT := tellP (R := R) (Hd := Hd) (qh := qh) wr3 pvg vg hF (by omega) (okv.s (by decide)) (fun g hg => by rw [zip_names vp.l.symm] at hg; exact hg) (row_zip wr3.nd vp.l.symm)
      refine hb_if (b := false) (w1 := (qh, oIns Hd (hidF R nms (F ++ [(vs, dotQ vs pv)]))) :: (q, oPool s3) :: (qk, oL (F.map (tdQ R nms))) :: wr) (tr_cmp (er_mO (wc := [(qh, oIns Hd (hidF R nms F))]) (wc' := [(qh, oIns Hd (hidF R nms (F ++ [(vs, dotQ vs pv)])))]) (w := (q, oPool s3) :: (qk, oL (F.map (tdQ R nms))) :: wr) Z.Te Z.Y.cls r12 (er_v 6 rfl rfl) List.mem_cons_self (ar_cons (er_v 9 rfl rfl) (ar_cons (er_v 10 rfl rfl) ar_nil)) tellT) er_bl bop_notB) (fun z => Bool.noConfusion z) (fun _ => hb_nil ?_)
      -- what is kept
      refine hb_perm (w2 := (qk, oL (F.map (tdQ R nms))) :: (qh, oIns Hd (hidF R nms (F ++ [(vs, dotQ vs pv)]))) :: (q, oPool s3) :: wr) (((List.Perm.swap _ _ _).cons _).trans (List.Perm.swap _ _ _)) ?_
      have gt : ∀ {Fx1 : Fx} {ω : Ow} {ρ : Ty} {o ix : Expr} {pos : Pos} {g : Str}, g ∈ nms → ER Fx1 ρ ω o (rDct (fsQ R (nms.zip vs))) ω → ER Fx1 ρ ω ix (rStr g) ω → Room 5 Fx1.X.A → NoSl ix → ER Fx1 ρ ω (.Subscript o ix pos) (rRat R (valQ (nms.zip vs) g)) ω := fun {_ _ _ _ _ _ g} hg h1 h2 h3 h4 => by
        have hg2 : g ∈ namesQ (nms.zip vs) := by rw [zip_names vp.l.symm]; exact hg
        obtain ⟨p, hp, ep, ev, ef⟩ := valQ_mem hg2
        exact er_dget (k := .inr g) h1 h2 isd_frz (by rw [valR_Q, ef, ev]; rfl) h3 h4
      refine hb_append (R := tdQ R nms (vs, dotQ vs pv)) (w2 := (qh, oIns Hd (hidF R nms (F ++ [(vs, dotQ vs pv)]))) :: (q, oPool s3) :: wr) (er_v 7 rfl rfl) List.mem_cons_self (ar_cons (er_tup (Rs := [rDct (fsQ R (nzL nms vs)), rRat R (dotQ vs pv)]) (ar_cons (er_frz (by
        have e : fsP ((nms.filter fun g => !decide (valQ (nms.zip vs) g = 0)).map fun g => (g, rRat R (valQ (nms.zip vs) g))) = fsQ R (nzL nms vs) := by
          rw [← nz_of wr3.nd vp.l.symm]
          unfold fsP fsQ
          rw [List.map_map, List.map_map]
          rfl
        rw [← e]
        refine en_dictPR (ar_cons (er_eq (er_lcf (xs := nms) (A := rStr) (B := fun g => rTup [rStr g, rRat R (valQ (nms.zip vs) g)]) (p := fun g => !decide (valQ (nms.zip vs) g = 0)) (it_lst (er_v 3 rfl rfl)) (by omega) [("_law_good", 5)] (blkOk_by (N := N_law) (sc := defScope s_law) (by decide +kernel)) (fun _ _ _ _ _ => pg_name (i := 5) nd rfl (Or.inl rfl)) (fun _ _ _ => gew_name) (fun i g hg s1 H1 cc cl' fp d => tr_cmp (gt (List.mem_of_getElem? hg) (er_v 9 rfl rfl) (er_v 5 rfl rfl) r5 (by exact fun _ _ => rfl)) (er_ratio Z.X.Tq r4 (ar_cons er_int (ar_cons er_int ar_nil)) z0 (by decide) (by decide)) (bop_neRt Z.X.Te Z.nm Z.X.X.nf r6)) (fun i g hg _ s1 H1 cc cl' fp d => er_tup (Rs := [rStr g, rRat R (valQ (nms.zip vs) g)]) (ar_cons (er_v 5 rfl rfl) (ar_cons (gt (List.mem_of_getElem? hg) (er_v 9 rfl rfl) (er_v 5 rfl rfl) r5 (by exact fun _ _ => rfl)) ar_nil)) (Nat.le_of_ble_eq_true rfl)) nd) (by rw [List.map_map]; rfl)) ar_nil) (by
          rw [List.map_map, show ((fun p : Str × Rl => p.1) ∘ fun g => (g, rRat R (valQ (nms.zip vs) g))) = id from rfl, List.map_id]
          exact wr3.nd.sublist List.filter_sublist) rfl Z.di bt_dict17)) (ar_cons (er_v 10 rfl rfl) ar_nil)) (Nat.le_of_ble_eq_true rfl)) ar_nil) (by rw [List.length_map]; omega) ?_
      have em : F.map (tdQ R nms) ++ [tdQ R nms (vs, dotQ vs pv)] = (F ++ [(vs, dotQ vs pv)]).map (tdQ R nms) := by rw [List.map_append]; rfl
      rw [em]
      refine hb_perm (w2 := (qh, oIns Hd (hidF R nms (F ++ [(vs, dotQ vs pv)]))) :: (q, oPool s3) :: (qk, oL ((F ++ [(vs, dotQ vs pv)]).map (tdQ R nms))) :: wr) ((List.Perm.swap _ _ _).trans ((List.Perm.swap _ _ _).cons _)) ?_
      -- taken back, now and then
      refine hb_if (b := false) (w1 := (qh, oIns Hd (hidF R nms (F ++ [(vs, dotQ vs pv)]))) :: (q, oPool (drS s3 12)) :: (qk, oL ((F ++ [(vs, dotQ vs pv)]).map (tdQ R nms))) :: wr) ?_ (fun z => Bool.noConfusion z) (fun _ => hb_nil (hb_nil ⟨F ++ [(vs, dotQ vs pv)], drS s3 12, _, _, _, _, _, _, _, _, by rw [List.length_append]; show F.length + 1 = _; omega, by omega, fun f hf => ?_, rfl, rfl⟩))
      · cases hb : decide (((j : Nat) : Int) = tkR s3 12) with
        | false => exact PWR.tr (tr_andF (tr_to (tr_cmp (er_v 8 rfl rfl) (er_f1 1 Z.Tt r1 (ar_cons (er_v 2 rfl rfl) (ar_cons er_int ar_nil)) rfl (takeOk (s := s3) (L := 12) (by decide) (by decide))) bop_eqI) hb))
        | true => exact PWR.tr (tr_andT (tr_to (tr_cmp (er_v 8 rfl rfl) (er_f1 1 Z.Tt r1 (ar_cons (er_v 2 rfl rfl) (ar_cons er_int ar_nil)) rfl (takeOk (s := s3) (L := 12) (by decide) (by decide))) bop_eqI) hb) (tr_and1 (PWR.tr (tr_orF (tr_to (tr_cmp (er_mO0 (wc := [(qh, oIns Hd (hidF R nms (F ++ [(vs, dotQ vs pv)])))]) (wc' := [(qh, oIns Hd (hidF R nms F))]) (w := (q, oPool (drS s3 12)) :: (qk, oL ((F ++ [(vs, dotQ vs pv)]).map (tdQ R nms))) :: wr) Z.Tu Z.Y.cls r2 (er_v 6 rfl rfl) List.mem_cons_self ⟨qh, nms, F, _, rfl, rfl, rfl, rfl⟩) er_non (bop_notN (x := .non))) rfl) (tr_or1 (tr_cmp (er_mO (wc := [(qh, oIns Hd (hidF R nms F))]) (wc' := [(qh, oIns Hd (hidF R nms (F ++ [(vs, dotQ vs pv)])))]) (w := (q, oPool (drS s3 12)) :: (qk, oL ((F ++ [(vs, dotQ vs pv)]).map (tdQ R nms))) :: wr) Z.Te Z.Y.cls r12 (er_v 6 rfl rfl) List.mem_cons_self (ar_cons (er_v 9 rfl rfl) (ar_cons (er_v 10 rfl rfl) ar_nil)) tellT) er_bl bop_notB))))))
      · rcases List.mem_append.mp hf with hf | hf
        · exact hF f hf
        · rw [List.mem_singleton.mp hf]
          exact ⟨vg, rfl⟩
    · rintro ρ w ⟨F, s, z5, z8, z9, z10, z11, z12, z13, z14, hF8, -, hF, rfl, rfl⟩
      have hF8 : F.length = 8 := hF8
      have hlen : ∀ f ∈ F, nms.length = f.1.length := fun f hf => (hF f hf).v.l.symm
      have hnd : ∀ f ∈ F, (namesQ (nzL nms f.1)).Nodup := fun f hf => nz_nodup wr3.nd (hlen f hf)
      have mk : ∀ {a b c : Addr × Ol} {l : Ow}, c ∈ a :: b :: c :: l := fun {_ _ _ _} => List.mem_cons_of_mem _ (List.mem_cons_of_mem _ List.mem_cons_self)
      refine hb_for (it_rng1 (ar_cons er_int ar_nil) rfl Z.rg (by decide)) (fun j ρ w => ∃ s z5 z8 z9 z10 z11 z12 z13 z14, ρ = [some (rScr K (ns.map V.int)), some (rInt ((k : Nat) : Int)), some (rRef q), some (rLst (nms.map rStr)), some (rDct (fsQ R (nms.zip pv))), z5, some (rRef qh), some (rRef qk), z8, z9, z10, z11, z12, z13, z14] ∧ w = (qh, oIns Hd (hidF R nms F)) :: (q, oPool s) :: (qk, oL (F.map (tdQ R nms))) :: wr) ⟨s, _, _, _, _, _, _, _, _, rfl, rfl⟩ ?_ ?_ (passes_of rfl) (pg_name (i := 8) nd rfl (Or.inr rfl))
      · rintro j ρ w S hS ⟨s, z5, z8, z9, z10, z11, z12, z13, z14, rfl, rfl⟩
        obtain ⟨hj, rfl⟩ := rng_get hS
        refine ⟨_, ge_name, ?_⟩
        have d8 := tkR_lt (s := s) (L := 8) (by decide)
        obtain ⟨f, hf⟩ : ∃ f, F[(tkR s 8).toNat]? = some f := ⟨_, List.getElem?_eq_getElem (by omega)⟩
        have hfm := List.mem_of_getElem? hf
        have vg := (hF f hfm).v
        have okn := nz_N wr3 vg
        have hz : Sz 20 f.2 := by rw [(hF f hfm).e]; exact (dot_sz4 (wr_n wr3) vg pvg).1
        refine hb_asg (er_ixO (R := rTup [rDct (fsQ R (nzL nms f.1)), rRat R f.2]) (n := (tkR s 8).toNat) (er_v 7 rfl rfl) (er_f1 1 Z.Tt r1 (ar_cons (er_v 2 rfl rfl) (ar_cons er_int ar_nil)) rfl (takeOk (s := s) (L := 8) (by decide) (by decide))) mk (by
          unfold ixN
          rw [List.length_map, if_pos d8.1, if_pos (by omega)]) (by rw [List.getElem?_map, hf]; rfl)) (pg_tup rfl (pgs_cons (pg_name (i := 9) nd rfl (Or.inr rfl)) (pgs_cons (pg_name (i := 10) nd rfl (Or.inl rfl)) pgs_nil))) (ge_tup (ges_cons ge_name (ges_cons ge_name ges_nil)) rfl) ?_
        refine hb_asgG (eg_exR (er_f1 1 Z.To r6 (ar_cons (er_v 2 rfl rfl) (ar_cons (er_v 3 rfl rfl) (ar_cons (er_v 9 rfl rfl) (ar_cons (er_v 10 rfl rfl) ar_nil)))) rfl ⟨q, drS s 8, nms, nzL nms f.1, f.2, wr3, okn.mono (by decide), hz, rfl, rfl, rfl, rfl⟩)) (pg_tup rfl (pgs_cons (pg_name (i := 11) nd rfl (Or.inl rfl)) (pgs_cons (pg_name (i := 12) nd rfl (Or.inl rfl)) pgs_nil))) ?_
        rintro A w ⟨⟨⟨dm, h2⟩, ⟨okd, okh⟩⟩, rfl, rfl⟩
        refine ⟨_, ge_tup (ges_cons ge_name (ges_cons ge_name ges_nil)) rfl, ?_⟩
        refine hb_exO1 (p := qh) (q := q) (B := oPool) (O := oIns Hd (hidF R nms F)) (w := (qk, oL (F.map (tdQ R nms))) :: wr) (fun s4 => ?_)
        refine hb_setNA 13 rfl (en_copyD (ar_cons (er_v 11 rfl rfl) ar_nil) isd_frz rfl Z.di bt_dict17) (fun qe hqe => ?_)
        refine hb_pubD 13 rfl hqe ?_
        refine hb_if (b := false) (w1 := (qh, oIns Hd (hidF R nms F)) :: (q, oPool s4) :: (qk, oL (F.map (tdQ R nms))) :: wr) (tr_cmp (er_f1 0 Z.TtE hr (ar_cons (er_v 6 rfl rfl) (ar_cons (er_v 11 rfl rfl) (ar_cons (er_v 12 rfl rfl) ar_nil))) rfl ⟨qh, nms, F, dm, h2, dueX nms dm h2, okd, by omega, okh, by omega, due_tl hF8, rfl, rfl, rfl, rfl⟩) (er_fA Z.Td r7 (ar_cons (er_v 3 rfl rfl) (ar_cons (er_v 11 rfl rfl) (ar_cons (er_v 12 rfl rfl) (ar_cons er_int ar_nil)))) ⟨nms, dm, h2, okd, okh, rfl, rfl, rfl, rfl⟩) (bop_neAns Z.X.Te Z.X.X.nf r6)) (fun z => Bool.noConfusion z) (fun _ => hb_nil ?_)
        refine hb_if (b := false) (w1 := (qh, oIns Hd (hidF R nms F)) :: (q, oPool s4) :: (qk, oL (F.map (tdQ R nms))) :: wr) (tr_cmp (er_v 11 rfl rfl) (er_v 13 rfl rfl) (bop_neDO (likes_Q Z.X.Te Z.X.X.nf okd.ok.nd) isf_frz isf_frz r6)) (fun z => Bool.noConfusion z) (fun _ => hb_nil ?_)
        refine hb_if (b := false) (w1 := (qh, oIns Hd (hidF R nms F)) :: (q, oPool s4) :: (qk, oL (F.map (tdQ R nms))) :: wr) (tr_to (PWR.tr (tr_or (tr_cmp (er_bA (ar_cons (er_v 6 rfl rfl) ar_nil) Z.len bt_len (cop_oLO Z.Tl r2 ⟨qh, nms, F, rfl, rfl, rfl, rfl⟩ (by omega))) er_int bop_neI) fun _ => tr_or1 (tr_cmp (er_eq (er_mO0 (wc := [(qh, oIns Hd (hidF R nms F))]) (wc' := [(qh, oIns Hd (hidF R nms F))]) (w := (q, oPool s4) :: (qk, oL (F.map (tdQ R nms))) :: wr) Z.Td2 Z.Y.cls r6 (er_v 6 rfl rfl) List.mem_cons_self ⟨qh, nms, F, by omega, by omega, fun f hf => (hlen f hf).symm, rfl, rfl, rfl, rfl⟩) (by rw [td_map wr3.nd hlen])) (er_v 7 rfl rfl) (bop_neTd Z.X.Te Z.X.X.nf hnd mk r8)))) (by rw [hF8]; rfl)) (fun z => Bool.noConfusion z) (fun _ => hb_nil (hb_nil ⟨s4, _, _, _, _, _, _, _, _, rfl, rfl⟩))
      · rintro ρ w ⟨s, z5, z8, z9, z10, z11, z12, z13, z14, rfl, rfl⟩
        obtain ⟨F0, ⟨vs, h⟩, rfl, h7⟩ := last_of (n := 7) hF8
        have hin : (vs, h) ∈ F0 ++ [(vs, h)] := List.mem_append_right _ (List.mem_singleton.mpr rfl)
        have e : h = dotQ vs pv := (hF _ hin).e
        subst e
        have vg : VsG nms.length vs := (hF _ hin).v
        have hF0 : ∀ f ∈ F0, GoodF nms.length pv f := fun f hf => hF f (List.mem_append_left _ hf)
        have hlen0 : ∀ f ∈ F0, nms.length = f.1.length := fun f hf => hlen f (List.mem_append_left _ hf)
        have hnd0 : ∀ f ∈ F0, (namesQ (nzL nms f.1)).Nodup := fun f hf => hnd f (List.mem_append_left _ hf)
        have tellT := tellP (R := R) (Hd := Hd) (qh := qh) wr3 pvg vg hF0 (by omega) ((nz_N wr3 vg).s (by decide)) (nz_names vg.l.symm) (row_nz wr3.nd vg.l.symm)
        refine hb_setA (R := rTup [rDct (fsQ R (nzL nms vs)), rRat R (dotQ vs pv)]) 14 rfl (er_ixO (n := 7) (er_v 7 rfl rfl) (er_un er_int uop_neg) mk (by
          unfold ixN
          rw [List.length_map, hF8]
          rfl) (by rw [List.map_append, List.getElem?_append_right (by rw [List.length_map]; omega), List.length_map, h7]; rfl)) ?_
        refine hb_if (b := false) (w1 := (qh, oIns Hd (hidF R nms F0)) :: (q, oPool s) :: (qk, oL ((F0 ++ [(vs, dotQ vs pv)]).map (tdQ R nms))) :: wr) (tr_to (PWR.tr (tr_orF (tr_to (tr_cmp (er_mO0 (wc := [(qh, oIns Hd (hidF R nms (F0 ++ [(vs, dotQ vs pv)])))]) (wc' := [(qh, oIns Hd (hidF R nms F0))]) (w := (q, oPool s) :: (qk, oL ((F0 ++ [(vs, dotQ vs pv)]).map (tdQ R nms))) :: wr) Z.Tu Z.Y.cls r2 (er_v 6 rfl rfl) List.mem_cons_self ⟨qh, nms, F0, _, rfl, rfl, rfl, rfl⟩) er_non (bop_notN (x := .non))) rfl) (tr_or (tr_cmp (er_bA (ar_cons (er_v 6 rfl rfl) ar_nil) Z.len bt_len (cop_oLO Z.Tl r2 ⟨qh, nms, F0, rfl, rfl, rfl, rfl⟩ (by omega))) er_int bop_neI) fun _ => tr_or1 (tr_cmp (er_eq (er_mO0 (wc := [(qh, oIns Hd (hidF R nms F0))]) (wc' := [(qh, oIns Hd (hidF R nms F0))]) (w := (q, oPool s) :: (qk, oL ((F0 ++ [(vs, dotQ vs pv)]).map (tdQ R nms))) :: wr) Z.Td2 Z.Y.cls r6 (er_v 6 rfl rfl) List.mem_cons_self ⟨qh, nms, F0, by omega, by omega, fun f hf => (hlen0 f hf).symm, rfl, rfl, rfl, rfl⟩) (by rw [td_map wr3.nd hlen0])) (er_eq (S := rLst (F0.map (tdQ R nms))) (er_slice (er_v 7 rfl rfl) pr_none (pr_some (er_un er_int uop_neg)) (sop_LO mk)) (congrArg rLst (by rw [List.map_append]; exact cutR_init'))) (bop_neTdL Z.X.Te Z.X.X.nf hnd0 r8))))) (by rw [h7]; rfl)) (fun z => Bool.noConfusion z) (fun _ => hb_nil ?_)
        refine hb_if (b := false) (w1 := (qh, oIns Hd (hidF R nms (F0 ++ [(vs, dotQ vs pv)]))) :: (q, oPool s) :: (qk, oL ((F0 ++ [(vs, dotQ vs pv)]).map (tdQ R nms))) :: wr) (tr_to (PWR.tr (tr_or (tr_cmp (er_f1 0 Z.TtO hr (ar_cons (er_v 6 rfl rfl) (ar_cons (er_ix (er_v 14 rfl rfl) er_int (iop_T (n := 0) rfl rfl)) (ar_cons (er_ix (er_v 14 rfl rfl) er_int (iop_T (n := 1) rfl rfl)) ar_nil))) rfl tellT) er_bl bop_notB) fun _ => tr_or1 (tr_cmp (er_eq (er_mO0 (wc := [(qh, oIns Hd (hidF R nms (F0 ++ [(vs, dotQ vs pv)])))]) (wc' := [(qh, oIns Hd (hidF R nms (F0 ++ [(vs, dotQ vs pv)])))]) (w := (q, oPool s) :: (qk, oL ((F0 ++ [(vs, dotQ vs pv)]).map (tdQ R nms))) :: wr) Z.Td2 Z.Y.cls r6 (er_v 6 rfl rfl) List.mem_cons_self ⟨qh, nms, _, by omega, by omega, fun f hf => (hlen f hf).symm, rfl, rfl, rfl, rfl⟩) (by rw [td_map wr3.nd hlen])) (er_v 7 rfl rfl) (bop_neTd Z.X.Te Z.X.X.nf hnd mk r8)))) rfl) (fun z => Bool.noConfusion z) (fun _ => hb_nil (hb_nil ⟨_, _, _, _, _, _, _, _, _, _, _, _, _, _, rfl⟩))
  · rintro ρ w ⟨z1, z2, z3, z4, z5, z6, z7, z8, z9, z10, z11, z12, z13, z14, rfl⟩
    exact hb_ret er_bl ⟨_, w, rfl, fun v G h => h, rfl⟩
end
end W1
set_option maxRecDepth 100000
set_option maxHeartbeats 2000000
set_option exponentiation.threshold 20000
namespace W1
open PySem PySem.Spec PyProof.Rows L2 NdefX
open TL NumText
theorem kE_BadNumber {P : Program} {w : World} {K : PySem.W.Frag} {mg : Str → Option Value} {base : Heap} {C f cc cd : Addr} (T : SupC P K mg "BadNumber" "BadNumber.__init__" s_BadNumber___init__ C f cc cd) (hno : PySem.W.findIn K (.ref C) "n" = some none) : Ke P w K mg base C "BadNumber" "n" 1 prInt := by
  obtain ⟨fd, ⟨doc, pm, ctv, rfl⟩, h⟩ := ok_err (w := w) (base := base) (k := 0) (Pr := prInt) (an2 := none) (ps2 := ⟨0, 0, 0, 0⟩) T c_BadNumber___init__ rfl rfl rfl hno (by decide) (by decide) (fun env he => ⟨_, rfl⟩) (fun env he => rfl) (fun env => rfl) (fun env he => ⟨rfl, rfl⟩)
    (fun X h1 h2 h3 h4 h5 hN hs hr hc => txt_fc (i := 1) (by rw [hN]; rfl) (by rw [hs]; exact Or.inl rfl) (by decide) (by decide) (by decide) (fun v H z => .inl z))
  exact ⟨"n", _, _, f, cc, cd, _, T, .all fun us hl => match us, hl with | [_, _], _ => rfl, h⟩
theorem kE_UnknownName {P : Program} {w : World} {K : PySem.W.Frag} {mg : Str → Option Value} {base : Heap} {C f cc cd : Addr} (T : SupC P K mg "UnknownName" "UnknownName.__init__" s_UnknownName___init__ C f cc cd) (hno : PySem.W.findIn K (.ref C) "name" = some none) : Ke P w K mg base C "UnknownName" "name" 1 prStr := by
  obtain ⟨fd, ⟨doc, pm, ctv, rfl⟩, h⟩ := ok_err (w := w) (base := base) (k := 0) (Pr := prStr) (an2 := none) (ps2 := ⟨0, 0, 0, 0⟩) T c_UnknownName___init__ rfl rfl rfl hno (by decide) (by decide) (fun env he => ⟨_, rfl⟩) (fun env he => rfl) (fun env => rfl) (fun env he => ⟨rfl, rfl⟩)
    (fun X h1 h2 h3 h4 h5 hN hs hr hc => txt_fc (i := 1) (by rw [hN]; rfl) (by rw [hs]; exact Or.inl rfl) (by decide) (by decide) (by decide) (fun v H z => .inr z))
  exact ⟨"name", _, _, f, cc, cd, _, T, .all fun us hl => match us, hl with | [_, _], _ => rfl, h⟩
theorem kER_BadNumber {P : Program} {w : World} {K : PySem.W.Frag} {mg : Str → Option Value} {base : Heap} {C f cc cd R : Addr} (T : SupC P K mg "BadNumber" "BadNumber.__init__" s_BadNumber___init__ C f cc cd) (hno : PySem.W.findIn K (.ref C) "n" = some none) (Ts : Ko P w K mg base R "__str__" 2 (pStr R)) (fx : FmtX K R) : Ke P w K mg base C "BadNumber" "n" 4 (prRat R) := by
  obtain ⟨fd, ⟨doc, pm, ctv, rfl⟩, h⟩ := ok_err (w := w) (base := base) (k := 3) (Pr := prRat R) (an2 := none) (ps2 := ⟨0, 0, 0, 0⟩) T c_BadNumber___init__ rfl rfl rfl hno (by decide) (by decide) (fun env he => ⟨_, rfl⟩) (fun env he => rfl) (fun env => rfl) (fun env he => ⟨rfl, rfl⟩)
    (fun X h1 h2 h3 h4 h5 hN hs hr hc => txt_rat (i := 1) (by rw [h1, h2, h3, h4, h5]; exact Ts) (by rw [h1]; exact fx) hr (by rw [hN]; rfl) (by rw [hs]; exact Or.inl rfl) (by decide) (by decide) (by decide))
  exact ⟨"n", _, _, f, cc, cd, _, T, .all fun us hl => match us, hl with | [_, _], _ => rfl, h⟩
theorem law_cx {P : Program} : ∀ (w : World) (H : Hp) (s : Shared) (e : Value) (s' : Shared), L2.CX P w [] H s (fun _ _ _ => False) e s' → False := fun w H s e s' hq => by
  obtain ⟨_, _, _, _, _, _, _, _, _, _, _, _, z⟩ := hq
  exact z.elim
theorem law_sp {K : Params → PySem.W.Frag} : ∀ (w : World) (H : Hp) (a : Addr) (ns : List Int), ns.length ≤ 63 → L2.Only H → SqL (K w.params) H a (ns.map V.int) → spM (pLaw (K w.params)) [.ref a] H (fun v _ => v = .bl true) fun _ _ _ => False := fun w H a ns hl _ hS =>
  ⟨_, [], _, [], H, ⟨ns, hl, rfl, rfl, rfl, rfl⟩, Same.refl _, mk1 ⟨a, rfl, hS⟩, (fun _ h => by cases h), List.nodup_nil, rfl, fun v G' H' _ _ h => h⟩
theorem all_mk {w : World} {K : PySem.W.Frag} {h : Heap} {mg : Str → Option Value} {fa : Addr}
    {tk1 tk2 tk3 tk4 tk5 : Tok}
    {M f0 cc0 cd0 : Addr}
    {od0 dd0 cdd0 cld0 : Option Addr}
    {sl0 ccs0 csl0 : Array (Option Value)}
    {oc0 dc0 pm0 ct0 ccl0 clc0 : Value}
    {nm0 q0 file0 : Str}
    {N0 : Addr}
    {bs0 sub0 bm0 : List Value}
    {sn0 : List Str}
    {ab0 : Bool}
    {col0 : Option Bool}
    {m0_0 m0_1 m0_2 m0_3 m0_5 : Option Value}
    {vs0 : Array Value}
    {tf0 : Tok}
    {U f1 cc1 cd1 : Addr}
    {od1 dd1 cdd1 cld1 : Option Addr}
    {sl1 ccs1 csl1 : Array (Option Value)}
    {oc1 dc1 pm1 ct1 ccl1 clc1 : Value}
    {nm1 q1 file1 : Str}
    {N1 : Addr}
    {bs1 sub1 bm1 : List Value}
    {sn1 : List Str}
    {ab1 : Bool}
    {col1 : Option Bool}
    {m1_0 m1_1 m1_2 m1_3 m1_5 : Option Value}
    {vs1 : Array Value}
    {tf1 : Tok}
    {R : Addr}
    {f2 : Addr}
    {od2 an2 : Option Addr}
    {sl2 : Array (Option Value)}
    {oc2 kV2 dc2 pm2 cd2 ct2 : Value}
    {f3 : Addr}
    {od3 an3 : Option Addr}
    {sl3 : Array (Option Value)}
    {oc3 kV3 dc3 pm3 cd3 ct3 : Value}
    {f4 : Addr}
    {od4 an4 : Option Addr}
    {sl4 : Array (Option Value)}
    {oc4 kV4 dc4 pm4 cd4 ct4 : Value}
    {f5 : Addr}
    {od5 an5 : Option Addr}
    {sl5 : Array (Option Value)}
    {oc5 kV5 dc5 pm5 cd5 ct5 : Value}
    {f6 : Addr}
    {od6 an6 : Option Addr}
    {sl6 : Array (Option Value)}
    {oc6 kV6 dc6 pm6 cd6 ct6 : Value}
    {f7 : Addr}
    {od7 an7 : Option Addr}
    {sl7 : Array (Option Value)}
    {oc7 kV7 dc7 pm7 cd7 ct7 : Value}
    {f8 : Addr}
    {od8 an8 : Option Addr}
    {sl8 : Array (Option Value)}
    {oc8 kV8 dc8 pm8 cd8 ct8 : Value}
    {f9 : Addr}
    {od9 an9 : Option Addr}
    {sl9 : Array (Option Value)}
    {oc9 kV9 dc9 pm9 cd9 ct9 : Value}
    {f10 : Addr}
    {od10 an10 : Option Addr}
    {sl10 : Array (Option Value)}
    {oc10 kV10 dc10 pm10 cd10 ct10 : Value}
    {f11 : Addr}
    {od11 an11 : Option Addr}
    {sl11 : Array (Option Value)}
    {oc11 kV11 dc11 pm11 cd11 ct11 : Value}
    {f12 : Addr}
    {od12 an12 : Option Addr}
    {sl12 : Array (Option Value)}
    {oc12 kV12 dc12 pm12 cd12 ct12 : Value}
    {mc12 : Value}
    {pc12 : Addr}
    {rest12 : List Value}
    {f13 : Addr}
    {od13 an13 : Option Addr}
    {sl13 : Array (Option Value)}
    {oc13 kV13 dc13 pm13 cd13 ct13 : Value}
    {f14 : Addr}
    {od14 an14 : Option Addr}
    {sl14 : Array (Option Value)}
    {oc14 kV14 dc14 pm14 cd14 ct14 : Value}
    {f15 : Addr}
    {od15 an15 : Option Addr}
    {sl15 : Array (Option Value)}
    {oc15 kV15 dc15 pm15 cd15 ct15 : Value}
    {f16 : Addr}
    {od16 an16 : Option Addr}
    {sl16 : Array (Option Value)}
    {oc16 kV16 dc16 pm16 cd16 ct16 : Value}
    {f17 : Addr}
    {od17 an17 : Option Addr}
    {sl17 : Array (Option Value)}
    {oc17 kV17 dc17 pm17 cd17 ct17 : Value}
    {f18 : Addr}
    {od18 an18 : Option Addr}
    {sl18 : Array (Option Value)}
    {oc18 kV18 dc18 pm18 cd18 ct18 : Value}
    {f19 : Addr}
    {od19 an19 : Option Addr}
    {sl19 : Array (Option Value)}
    {oc19 kV19 dc19 pm19 cd19 ct19 : Value}
    {f20 : Addr}
    {od20 an20 : Option Addr}
    {sl20 : Array (Option Value)}
    {oc20 kV20 dc20 pm20 cd20 ct20 : Value}
    {Hd : Addr}
    {f21 : Addr}
    {od21 an21 : Option Addr}
    {sl21 : Array (Option Value)}
    {oc21 kV21 dc21 pm21 cd21 ct21 : Value}
    {f22 : Addr}
    {od22 an22 : Option Addr}
    {sl22 : Array (Option Value)}
    {oc22 kV22 dc22 pm22 cd22 ct22 : Value}
    {f23 : Addr}
    {od23 an23 : Option Addr}
    {sl23 : Array (Option Value)}
    {oc23 kV23 dc23 pm23 cd23 ct23 : Value}
    {f24 : Addr}
    {od24 an24 : Option Addr}
    {sl24 : Array (Option Value)}
    {oc24 kV24 dc24 pm24 cd24 ct24 : Value}
    {f25 : Addr}
    {od25 an25 : Option Addr}
    {sl25 : Array (Option Value)}
    {oc25 kV25 dc25 pm25 cd25 ct25 : Value}
    {f26 : Addr}
    {od26 an26 : Option Addr}
    {sl26 : Array (Option Value)}
    {oc26 kV26 dc26 pm26 cd26 ct26 : Value}
    {f27 : Addr}
    {od27 an27 : Option Addr}
    {sl27 : Array (Option Value)}
    {oc27 kV27 dc27 pm27 cd27 ct27 : Value}
    {f28 : Addr}
    {od28 an28 : Option Addr}
    {sl28 : Array (Option Value)}
    {oc28 kV28 dc28 pm28 cd28 ct28 : Value}
    {f29 : Addr}
    {od29 an29 : Option Addr}
    {sl29 : Array (Option Value)}
    {oc29 kV29 dc29 pm29 cd29 ct29 : Value}
    {f30 : Addr}
    {od30 an30 : Option Addr}
    {sl30 : Array (Option Value)}
    {oc30 kV30 dc30 pm30 cd30 ct30 : Value}
    {f31 : Addr}
    {od31 an31 : Option Addr}
    {sl31 : Array (Option Value)}
    {oc31 kV31 dc31 pm31 cd31 ct31 : Value}
    {f32 : Addr}
    {od32 an32 : Option Addr}
    {sl32 : Array (Option Value)}
    {oc32 kV32 dc32 pm32 cd32 ct32 : Value}
    {f33 : Addr}
    {od33 an33 : Option Addr}
    {sl33 : Array (Option Value)}
    {oc33 kV33 dc33 pm33 cd33 ct33 : Value}
    {f34 : Addr}
    {od34 an34 : Option Addr}
    {sl34 : Array (Option Value)}
    {oc34 kV34 dc34 pm34 cd34 ct34 : Value}
    {f35 : Addr}
    {od35 an35 : Option Addr}
    {sl35 : Array (Option Value)}
    {oc35 kV35 dc35 pm35 cd35 ct35 : Value}
    {f36 : Addr}
    {od36 an36 : Option Addr}
    {sl36 : Array (Option Value)}
    {oc36 kV36 dc36 pm36 cd36 ct36 : Value}
    {f37 : Addr}
    {od37 an37 : Option Addr}
    {sl37 : Array (Option Value)}
    {oc37 kV37 dc37 pm37 cd37 ct37 : Value}
    (X : K.In h) (G : h.Ns mainGlobals mg) (hfa : mg "law" = some (.ref fa))
    (z_super : PySem.W.nsIn K mainGlobals "super" = some none)
    (z_list : PySem.W.nsIn K mainGlobals "list" = some none)
    (z_sorted : PySem.W.nsIn K mainGlobals "sorted" = some none)
    (z_len : PySem.W.nsIn K mainGlobals "len" = some none)
    (z_all : PySem.W.nsIn K mainGlobals "all" = some none)
    (z_any : PySem.W.nsIn K mainGlobals "any" = some none)
    (z_isinstance : PySem.W.nsIn K mainGlobals "isinstance" = some none)
    (z_int : PySem.W.nsIn K mainGlobals "int" = some none)
    (z_range : PySem.W.nsIn K mainGlobals "range" = some none)
    (z_enumerate : PySem.W.nsIn K mainGlobals "enumerate" = some none)
    (z_zip : PySem.W.nsIn K mainGlobals "zip" = some none)
    (z_abs : PySem.W.nsIn K mainGlobals "abs" = some none)
    (z_bool : PySem.W.nsIn K mainGlobals "bool" = some none)
    (z_str : PySem.W.nsIn K mainGlobals "str" = some none)
    (z_dict : PySem.W.nsIn K mainGlobals "dict" = some none)
    (z_min : PySem.W.nsIn K mainGlobals "min" = some none)
    (gL : PySem.W.nsIn K mainGlobals "LETTERS" = some (some (.str lets tk1)))
    (gS : PySem.W.nsIn K mainGlobals "SIGNS" = some (some (.str sigs tk2)))
    (gM : PySem.W.nsIn K mainGlobals "MOST_LETTERS" = some (some (.int 8 tk3)))
    (gG : PySem.W.nsIn K mainGlobals "MOST_GOODS" = some (some (.int 4 tk4)))
    (gF : PySem.W.nsIn K mainGlobals "MOST_FACTS" = some (some (.int 8 tk5)))
    (aM : PySem.W.nsIn K mainGlobals "BadNumber" = some (some (.ref M)))
    (xM : K.lookup M = some (excClassObj nm0 q0 M N0 bs0 bm0 true sn0 sub0 ab0 col0 dd0 m0_0 m0_1 m0_2 m0_3 m0_5 "ValueError.__new__"))
    (bmM : PySem.HandSPX.refsVE bm0 = true)
    (saM : PySem.W.findIn K (.ref M) "__setattr__" = some (some (.builtin "object.__setattr__")))
    (eM : PySem.W.subIn K (.ref M) (.type "BaseException") = some true)
    (tM : PySem.W.typeIn K (.ref M) = some (.type "type"))
    (kM : PySem.W.keepIn K (.ref M) = true)
    (a0 : PySem.W.findIn K (.ref M) "__init__" = some (some (.ref f0)))
    (t0 : PySem.W.typeIn K (.ref f0) = some (.type "function"))
    (l0 : K.lookup f0 = some ⟨oc0, od0, .func ((supF "BadNumber.__init__" s_BadNumber___init__ cc0 cd0).fd dc0 pm0 ct0), sl0⟩)
    (c0 : PySem.W.codeIn K (.ref cd0) "BadNumber.__init__" = true)
    (lc0 : K.lookup cd0 = some ⟨ccl0, cdd0, .fields vs0, ccs0⟩)
    (v0 : vs0[2]? = some (.str file0 tf0))
    (fil0 : ((PySem.Challenge.pw_waysofmaking_k17_eight_facts).main.file == file0) = true)
    (ll0 : K.lookup cc0 = some ⟨clc0, cld0, .cell (some (.ref M)), csl0⟩)
    (sbM : PySem.W.mroIn K M (.ref M) = some true)
    (suM : PySem.W.ks_superIn K M M "__init__" = some (some (.builtin "ValueError.__init__")))
    (svM : PySem.W.subIn K (.ref M) (.type "ValueError") = some true)
    (opM : PySem.W.nsIn K cStatics "thirdparty.any" = some none)
    (teM : PySem.W.exmOne K (.ref M) (.ref M) = some true)
    (nM_n : PySem.W.findIn K (.ref M) "n" = some none)
    (gaM : PySem.W.findIn K (.ref M) "__getattribute__" = some (some (.builtin "BaseException.__getattribute__")))
    (ggM : PySem.W.findIn K (.ref M) "__getattr__" = some none)
    (hdM : PySem.W.hasDictIn K M = true)
    (aU : PySem.W.nsIn K mainGlobals "UnknownName" = some (some (.ref U)))
    (xU : K.lookup U = some (excClassObj nm1 q1 U N1 bs1 bm1 true sn1 sub1 ab1 col1 dd1 m1_0 m1_1 m1_2 m1_3 m1_5 "ValueError.__new__"))
    (bmU : PySem.HandSPX.refsVE bm1 = true)
    (saU : PySem.W.findIn K (.ref U) "__setattr__" = some (some (.builtin "object.__setattr__")))
    (eU : PySem.W.subIn K (.ref U) (.type "BaseException") = some true)
    (tU : PySem.W.typeIn K (.ref U) = some (.type "type"))
    (kU : PySem.W.keepIn K (.ref U) = true)
    (a1 : PySem.W.findIn K (.ref U) "__init__" = some (some (.ref f1)))
    (t1 : PySem.W.typeIn K (.ref f1) = some (.type "function"))
    (l1 : K.lookup f1 = some ⟨oc1, od1, .func ((supF "UnknownName.__init__" s_UnknownName___init__ cc1 cd1).fd dc1 pm1 ct1), sl1⟩)
    (c1 : PySem.W.codeIn K (.ref cd1) "UnknownName.__init__" = true)
    (lc1 : K.lookup cd1 = some ⟨ccl1, cdd1, .fields vs1, ccs1⟩)
    (v1 : vs1[2]? = some (.str file1 tf1))
    (fil1 : ((PySem.Challenge.pw_waysofmaking_k17_eight_facts).main.file == file1) = true)
    (ll1 : K.lookup cc1 = some ⟨clc1, cld1, .cell (some (.ref U)), csl1⟩)
    (sbU : PySem.W.mroIn K U (.ref U) = some true)
    (suU : PySem.W.ks_superIn K U U "__init__" = some (some (.builtin "ValueError.__init__")))
    (svU : PySem.W.subIn K (.ref U) (.type "ValueError") = some true)
    (opU : PySem.W.nsIn K cStatics "thirdparty.any" = some none)
    (teU : PySem.W.exmOne K (.ref U) (.ref U) = some true)
    (nU_name : PySem.W.findIn K (.ref U) "name" = some none)
    (gaU : PySem.W.findIn K (.ref U) "__getattribute__" = some (some (.builtin "BaseException.__getattribute__")))
    (ggU : PySem.W.findIn K (.ref U) "__getattr__" = some none)
    (hdU : PySem.W.hasDictIn K U = true)
    (teMU : PySem.W.exmOne K (.ref M) (.ref U) = some false)
    (aR : PySem.W.nsIn K mainGlobals "Ratio" = some (some (.ref R)))
    (kcR : PySem.W.keepIn K (.ref R) = true)
    (mkR : PySem.W.makesIn K R = true)
    (pgR : PySem.W.plainGet K R Str.empty = true)
    (hdR : PySem.W.hasDictIn K R = true)
    (poR : PySem.W.plainOver K R = true)
    (saR : PySem.W.findIn K (.ref R) "__setattr__" = some (some (.builtin "object.__setattr__")))
    (sfR : PySem.W.selfFirst K R = true)
    (caR : PySem.W.findIn K (.ref R) "__class__" = some (some (.builtin "object.__class__")))
    (cnR : PySem.W.specialIn K (.builtin "object.__class__") "__get__" = some (some (.builtin "getset_descriptor.__get__")))
    (ctR : PySem.W.takesIn K (.builtin "object.__class__") = some true)
    (cmR : PySem.W.mroIn K R (.type "object") = some true)
    (nR_top : PySem.W.findIn K (.ref R) "top" = some none)
    (nR_bottom : PySem.W.findIn K (.ref R) "bottom" = some none)
    (nfR : PySem.W.notFirst K R (.ref R) = true)
    (nfI : PySem.W.notFirst K R (.type "int") = true)
    (nfS : PySem.W.notFirst K R (.type "str") = true)
    (ksI : PySem.W.kitOne K (.type "int") (.ref R) = some false)
    (ksS : PySem.W.kitOne K (.type "str") (.ref R) = some false)
    (neR : PySem.W.findIn K (.ref R) "__ne__" = some (some (.builtin "object.__ne__")))
    (fmR : PySem.W.findIn K (.ref R) "__format__" = some (some (.builtin "object.__format__")))
    (a2 : PySem.W.nsIn K mainGlobals "common" = some (some (.ref f2)))
    (l2 : K.lookup f2 = some ⟨oc2, od2, .func (PySem.W.fnOf "common" "common" (defArgs s_common) (defBody s_common) (defScope s_common) .none kV2 dc2 pm2 an2 cd2 ct2), sl2⟩)
    (c2 : PySem.W.codeIn K cd2 "common" = true)
    (k2 : PySem.W.keepIn K (.ref f2) = true)
    (a3 : PySem.W.findIn K (.ref R) "__init__" = some (some (.ref f3)))
    (i3 : PySem.W.isFn K (.ref f3) = true)
    (l3 : K.lookup f3 = some ⟨oc3, od3, .func (PySem.W.fnOf "__init__" "Ratio.__init__" (defArgs s_Ratio___init__) (defBody s_Ratio___init__) (defScope s_Ratio___init__) .none kV3 dc3 pm3 an3 cd3 ct3), sl3⟩)
    (c3 : PySem.W.codeIn K cd3 "Ratio.__init__" = true)
    (k3 : PySem.W.keepIn K (.ref f3) = true)
    (a4 : PySem.W.findIn K (.ref R) "__add__" = some (some (.ref f4)))
    (i4 : PySem.W.isFn K (.ref f4) = true)
    (l4 : K.lookup f4 = some ⟨oc4, od4, .func (PySem.W.fnOf "__add__" "Ratio.__add__" (defArgs s_Ratio___add__) (defBody s_Ratio___add__) (defScope s_Ratio___add__) .none kV4 dc4 pm4 an4 cd4 ct4), sl4⟩)
    (c4 : PySem.W.codeIn K cd4 "Ratio.__add__" = true)
    (k4 : PySem.W.keepIn K (.ref f4) = true)
    (a5 : PySem.W.findIn K (.ref R) "__sub__" = some (some (.ref f5)))
    (i5 : PySem.W.isFn K (.ref f5) = true)
    (l5 : K.lookup f5 = some ⟨oc5, od5, .func (PySem.W.fnOf "__sub__" "Ratio.__sub__" (defArgs s_Ratio___sub__) (defBody s_Ratio___sub__) (defScope s_Ratio___sub__) .none kV5 dc5 pm5 an5 cd5 ct5), sl5⟩)
    (c5 : PySem.W.codeIn K cd5 "Ratio.__sub__" = true)
    (k5 : PySem.W.keepIn K (.ref f5) = true)
    (a6 : PySem.W.findIn K (.ref R) "__mul__" = some (some (.ref f6)))
    (i6 : PySem.W.isFn K (.ref f6) = true)
    (l6 : K.lookup f6 = some ⟨oc6, od6, .func (PySem.W.fnOf "__mul__" "Ratio.__mul__" (defArgs s_Ratio___mul__) (defBody s_Ratio___mul__) (defScope s_Ratio___mul__) .none kV6 dc6 pm6 an6 cd6 ct6), sl6⟩)
    (c6 : PySem.W.codeIn K cd6 "Ratio.__mul__" = true)
    (k6 : PySem.W.keepIn K (.ref f6) = true)
    (a7 : PySem.W.findIn K (.ref R) "__neg__" = some (some (.ref f7)))
    (i7 : PySem.W.isFn K (.ref f7) = true)
    (l7 : K.lookup f7 = some ⟨oc7, od7, .func (PySem.W.fnOf "__neg__" "Ratio.__neg__" (defArgs s_Ratio___neg__) (defBody s_Ratio___neg__) (defScope s_Ratio___neg__) .none kV7 dc7 pm7 an7 cd7 ct7), sl7⟩)
    (c7 : PySem.W.codeIn K cd7 "Ratio.__neg__" = true)
    (k7 : PySem.W.keepIn K (.ref f7) = true)
    (a8 : PySem.W.findIn K (.ref R) "__eq__" = some (some (.ref f8)))
    (i8 : PySem.W.isFn K (.ref f8) = true)
    (l8 : K.lookup f8 = some ⟨oc8, od8, .func (PySem.W.fnOf "__eq__" "Ratio.__eq__" (defArgs s_Ratio___eq__) (defBody s_Ratio___eq__) (defScope s_Ratio___eq__) .none kV8 dc8 pm8 an8 cd8 ct8), sl8⟩)
    (c8 : PySem.W.codeIn K cd8 "Ratio.__eq__" = true)
    (k8 : PySem.W.keepIn K (.ref f8) = true)
    (a9 : PySem.W.findIn K (.ref R) "__bool__" = some (some (.ref f9)))
    (i9 : PySem.W.isFn K (.ref f9) = true)
    (l9 : K.lookup f9 = some ⟨oc9, od9, .func (PySem.W.fnOf "__bool__" "Ratio.__bool__" (defArgs s_Ratio___bool__) (defBody s_Ratio___bool__) (defScope s_Ratio___bool__) .none kV9 dc9 pm9 an9 cd9 ct9), sl9⟩)
    (c9 : PySem.W.codeIn K cd9 "Ratio.__bool__" = true)
    (k9 : PySem.W.keepIn K (.ref f9) = true)
    (a10 : PySem.W.findIn K (.ref R) "under" = some (some (.ref f10)))
    (i10 : PySem.W.isFn K (.ref f10) = true)
    (l10 : K.lookup f10 = some ⟨oc10, od10, .func (PySem.W.fnOf "under" "Ratio.under" (defArgs s_Ratio_under) (defBody s_Ratio_under) (defScope s_Ratio_under) .none kV10 dc10 pm10 an10 cd10 ct10), sl10⟩)
    (c10 : PySem.W.codeIn K cd10 "Ratio.under" = true)
    (k10 : PySem.W.keepIn K (.ref f10) = true)
    (a11 : PySem.W.findIn K (.ref R) "quotient" = some (some (.ref f11)))
    (i11 : PySem.W.isFn K (.ref f11) = true)
    (l11 : K.lookup f11 = some ⟨oc11, od11, .func (PySem.W.fnOf "quotient" "Ratio.quotient" (defArgs s_Ratio_quotient) (defBody s_Ratio_quotient) (defScope s_Ratio_quotient) .none kV11 dc11 pm11 an11 cd11 ct11), sl11⟩)
    (c11 : PySem.W.codeIn K cd11 "Ratio.quotient" = true)
    (k11 : PySem.W.keepIn K (.ref f11) = true)
    (ty12 : PySem.W.typeIn K (.ref R) = some mc12)
    (rd12 : PySem.W.readsIn K R mc12 = true)
    (ga12 : PySem.W.specialIn K (.ref R) "__getattribute__" = some (some (.builtin "type.__getattribute__")))
    (a12 : PySem.W.findCls K (.ref R) mc12 "whole" = some (.get (.builtin "classmethod.__get__") (.ref pc12) .none (.ref R)))
    (rc12 : PySem.W.recIn K pc12 "classmethod" = some (.ref f12 :: rest12))
    (fi12 : PySem.W.fnIn K f12 = true)
    (l12 : K.lookup f12 = some ⟨oc12, od12, .func (PySem.W.fnOf "whole" "Ratio.whole" (defArgs s_Ratio_whole) (defBody s_Ratio_whole) (defScope s_Ratio_whole) .none kV12 dc12 pm12 an12 cd12 ct12), sl12⟩)
    (c12 : PySem.W.codeIn K cd12 "Ratio.whole" = true)
    (k12 : PySem.W.keepIn K (.ref f12) = true)
    (a13 : PySem.W.findIn K (.ref R) "__str__" = some (some (.ref f13)))
    (i13 : PySem.W.isFn K (.ref f13) = true)
    (l13 : K.lookup f13 = some ⟨oc13, od13, .func (PySem.W.fnOf "__str__" "Ratio.__str__" (defArgs s_Ratio___str__) (defBody s_Ratio___str__) (defScope s_Ratio___str__) .none kV13 dc13 pm13 an13 cd13 ct13), sl13⟩)
    (c13 : PySem.W.codeIn K cd13 "Ratio.__str__" = true)
    (k13 : PySem.W.keepIn K (.ref f13) = true)
    (a14 : PySem.W.nsIn K mainGlobals "total" = some (some (.ref f14)))
    (l14 : K.lookup f14 = some ⟨oc14, od14, .func (PySem.W.fnOf "total" "total" (defArgs s_total) (defBody s_total) (defScope s_total) .none kV14 dc14 pm14 an14 cd14 ct14), sl14⟩)
    (c14 : PySem.W.codeIn K cd14 "total" = true)
    (k14 : PySem.W.keepIn K (.ref f14) = true)
    (a15 : PySem.W.nsIn K mainGlobals "reduced" = some (some (.ref f15)))
    (l15 : K.lookup f15 = some ⟨oc15, od15, .func (PySem.W.fnOf "reduced" "reduced" (defArgs s_reduced) (defBody s_reduced) (defScope s_reduced) .none kV15 dc15 pm15 an15 cd15 ct15), sl15⟩)
    (c15 : PySem.W.codeIn K cd15 "reduced" = true)
    (k15 : PySem.W.keepIn K (.ref f15) = true)
    (a16 : PySem.W.nsIn K mainGlobals "solved" = some (some (.ref f16)))
    (l16 : K.lookup f16 = some ⟨oc16, od16, .func (PySem.W.fnOf "solved" "solved" (defArgs s_solved) (defBody s_solved) (defScope s_solved) .none kV16 dc16 pm16 an16 cd16 ct16), sl16⟩)
    (c16 : PySem.W.codeIn K cd16 "solved" = true)
    (k16 : PySem.W.keepIn K (.ref f16) = true)
    (a17 : PySem.W.nsIn K mainGlobals "product" = some (some (.ref f17)))
    (l17 : K.lookup f17 = some ⟨oc17, od17, .func (PySem.W.fnOf "product" "product" (defArgs s_product) (defBody s_product) (defScope s_product) .none kV17 dc17 pm17 an17 cd17 ct17), sl17⟩)
    (c17 : PySem.W.codeIn K cd17 "product" = true)
    (k17 : PySem.W.keepIn K (.ref f17) = true)
    (a18 : PySem.W.nsIn K mainGlobals "lots_of" = some (some (.ref f18)))
    (l18 : K.lookup f18 = some ⟨oc18, od18, .func (PySem.W.fnOf "lots_of" "lots_of" (defArgs s_lots_of) (defBody s_lots_of) (defScope s_lots_of) .none kV18 dc18 pm18 an18 cd18 ct18), sl18⟩)
    (c18 : PySem.W.codeIn K cd18 "lots_of" = true)
    (k18 : PySem.W.keepIn K (.ref f18) = true)
    (a19 : PySem.W.nsIn K mainGlobals "is_name" = some (some (.ref f19)))
    (l19 : K.lookup f19 = some ⟨oc19, od19, .func (PySem.W.fnOf "is_name" "is_name" (defArgs s_is_name) (defBody s_is_name) (defScope s_is_name) .none kV19 dc19 pm19 an19 cd19 ct19), sl19⟩)
    (c19 : PySem.W.codeIn K cd19 "is_name" = true)
    (k19 : PySem.W.keepIn K (.ref f19) = true)
    (a20 : PySem.W.nsIn K mainGlobals "check_names" = some (some (.ref f20)))
    (l20 : K.lookup f20 = some ⟨oc20, od20, .func (PySem.W.fnOf "check_names" "check_names" (defArgs s_check_names) (defBody s_check_names) (defScope s_check_names) .none kV20 dc20 pm20 an20 cd20 ct20), sl20⟩)
    (c20 : PySem.W.codeIn K cd20 "check_names" = true)
    (k20 : PySem.W.keepIn K (.ref f20) = true)
    (aHd : PySem.W.nsIn K mainGlobals "Hidden" = some (some (.ref Hd)))
    (kcHd : PySem.W.keepIn K (.ref Hd) = true)
    (mkHd : PySem.W.makesIn K Hd = true)
    (pgHd : PySem.W.plainGet K Hd Str.empty = true)
    (hdHd : PySem.W.hasDictIn K Hd = true)
    (poHd : PySem.W.plainOver K Hd = true)
    (saHd : PySem.W.findIn K (.ref Hd) "__setattr__" = some (some (.builtin "object.__setattr__")))
    (nHd_wares : PySem.W.findIn K (.ref Hd) "wares" = some none)
    (nHd_facts : PySem.W.findIn K (.ref Hd) "facts" = some none)
    (a21 : PySem.W.findIn K (.ref Hd) "__init__" = some (some (.ref f21)))
    (i21 : PySem.W.isFn K (.ref f21) = true)
    (l21 : K.lookup f21 = some ⟨oc21, od21, .func (PySem.W.fnOf "__init__" "Hidden.__init__" (defArgs s_Hidden___init__) (defBody s_Hidden___init__) (defScope s_Hidden___init__) .none kV21 dc21 pm21 an21 cd21 ct21), sl21⟩)
    (c21 : PySem.W.codeIn K cd21 "Hidden.__init__" = true)
    (k21 : PySem.W.keepIn K (.ref f21) = true)
    (a22 : PySem.W.findIn K (.ref Hd) "__len__" = some (some (.ref f22)))
    (i22 : PySem.W.isFn K (.ref f22) = true)
    (l22 : K.lookup f22 = some ⟨oc22, od22, .func (PySem.W.fnOf "__len__" "Hidden.__len__" (defArgs s_Hidden___len__) (defBody s_Hidden___len__) (defScope s_Hidden___len__) .none kV22 dc22 pm22 an22 cd22 ct22), sl22⟩)
    (c22 : PySem.W.codeIn K cd22 "Hidden.__len__" = true)
    (k22 : PySem.W.keepIn K (.ref f22) = true)
    (a23 : PySem.W.findIn K (.ref Hd) "row" = some (some (.ref f23)))
    (i23 : PySem.W.isFn K (.ref f23) = true)
    (l23 : K.lookup f23 = some ⟨oc23, od23, .func (PySem.W.fnOf "row" "Hidden.row" (defArgs s_Hidden_row) (defBody s_Hidden_row) (defScope s_Hidden_row) .none kV23 dc23 pm23 an23 cd23 ct23), sl23⟩)
    (c23 : PySem.W.codeIn K cd23 "Hidden.row" = true)
    (k23 : PySem.W.keepIn K (.ref f23) = true)
    (a24 : PySem.W.findIn K (.ref Hd) "allows" = some (some (.ref f24)))
    (i24 : PySem.W.isFn K (.ref f24) = true)
    (l24 : K.lookup f24 = some ⟨oc24, od24, .func (PySem.W.fnOf "allows" "Hidden.allows" (defArgs s_Hidden_allows) (defBody s_Hidden_allows) (defScope s_Hidden_allows) .none kV24 dc24 pm24 an24 cd24 ct24), sl24⟩)
    (c24 : PySem.W.codeIn K cd24 "Hidden.allows" = true)
    (k24 : PySem.W.keepIn K (.ref f24) = true)
    (a25 : PySem.W.findIn K (.ref Hd) "corners" = some (some (.ref f25)))
    (i25 : PySem.W.isFn K (.ref f25) = true)
    (l25 : K.lookup f25 = some ⟨oc25, od25, .func (PySem.W.fnOf "corners" "Hidden.corners" (defArgs s_Hidden_corners) (defBody s_Hidden_corners) (defScope s_Hidden_corners) .none kV25 dc25 pm25 an25 cd25 ct25), sl25⟩)
    (c25 : PySem.W.codeIn K cd25 "Hidden.corners" = true)
    (k25 : PySem.W.keepIn K (.ref f25) = true)
    (a26 : PySem.W.findIn K (.ref Hd) "fits" = some (some (.ref f26)))
    (i26 : PySem.W.isFn K (.ref f26) = true)
    (l26 : K.lookup f26 = some ⟨oc26, od26, .func (PySem.W.fnOf "fits" "Hidden.fits" (defArgs s_Hidden_fits) (defBody s_Hidden_fits) (defScope s_Hidden_fits) .none kV26 dc26 pm26 an26 cd26 ct26), sl26⟩)
    (c26 : PySem.W.codeIn K cd26 "Hidden.fits" = true)
    (k26 : PySem.W.keepIn K (.ref f26) = true)
    (a27 : PySem.W.findIn K (.ref Hd) "tell" = some (some (.ref f27)))
    (i27 : PySem.W.isFn K (.ref f27) = true)
    (l27 : K.lookup f27 = some ⟨oc27, od27, .func (PySem.W.fnOf "tell" "Hidden.tell" (defArgs s_Hidden_tell) (defBody s_Hidden_tell) (defScope s_Hidden_tell) .none kV27 dc27 pm27 an27 cd27 ct27), sl27⟩)
    (c27 : PySem.W.codeIn K cd27 "Hidden.tell" = true)
    (k27 : PySem.W.keepIn K (.ref f27) = true)
    (a28 : PySem.W.findIn K (.ref Hd) "told" = some (some (.ref f28)))
    (i28 : PySem.W.isFn K (.ref f28) = true)
    (l28 : K.lookup f28 = some ⟨oc28, od28, .func (PySem.W.fnOf "told" "Hidden.told" (defArgs s_Hidden_told) (defBody s_Hidden_told) (defScope s_Hidden_told) .none kV28 dc28 pm28 an28 cd28 ct28), sl28⟩)
    (c28 : PySem.W.codeIn K cd28 "Hidden.told" = true)
    (k28 : PySem.W.keepIn K (.ref f28) = true)
    (a29 : PySem.W.findIn K (.ref Hd) "undo" = some (some (.ref f29)))
    (i29 : PySem.W.isFn K (.ref f29) = true)
    (l29 : K.lookup f29 = some ⟨oc29, od29, .func (PySem.W.fnOf "undo" "Hidden.undo" (defArgs s_Hidden_undo) (defBody s_Hidden_undo) (defScope s_Hidden_undo) .none kV29 dc29 pm29 an29 cd29 ct29), sl29⟩)
    (c29 : PySem.W.codeIn K cd29 "Hidden.undo" = true)
    (k29 : PySem.W.keepIn K (.ref f29) = true)
    (a30 : PySem.W.nsIn K mainGlobals "_law_pool" = some (some (.ref f30)))
    (l30 : K.lookup f30 = some ⟨oc30, od30, .func (PySem.W.fnOf "_law_pool" "_law_pool" (defArgs s__law_pool) (defBody s__law_pool) (defScope s__law_pool) .none kV30 dc30 pm30 an30 cd30 ct30), sl30⟩)
    (c30 : PySem.W.codeIn K cd30 "_law_pool" = true)
    (k30 : PySem.W.keepIn K (.ref f30) = true)
    (a31 : PySem.W.nsIn K mainGlobals "_law_take" = some (some (.ref f31)))
    (l31 : K.lookup f31 = some ⟨oc31, od31, .func (PySem.W.fnOf "_law_take" "_law_take" (defArgs s__law_take) (defBody s__law_take) (defScope s__law_take) .none kV31 dc31 pm31 an31 cd31 ct31), sl31⟩)
    (c31 : PySem.W.codeIn K cd31 "_law_take" = true)
    (k31 : PySem.W.keepIn K (.ref f31) = true)
    (a32 : PySem.W.nsIn K mainGlobals "_law_at" = some (some (.ref f32)))
    (l32 : K.lookup f32 = some ⟨oc32, od32, .func (PySem.W.fnOf "_law_at" "_law_at" (defArgs s__law_at) (defBody s__law_at) (defScope s__law_at) .none kV32 dc32 pm32 an32 cd32 ct32), sl32⟩)
    (c32 : PySem.W.codeIn K cd32 "_law_at" = true)
    (k32 : PySem.W.keepIn K (.ref f32) = true)
    (a33 : PySem.W.nsIn K mainGlobals "_law_worth" = some (some (.ref f33)))
    (l33 : K.lookup f33 = some ⟨oc33, od33, .func (PySem.W.fnOf "_law_worth" "_law_worth" (defArgs s__law_worth) (defBody s__law_worth) (defScope s__law_worth) .none kV33 dc33 pm33 an33 cd33 ct33), sl33⟩)
    (c33 : PySem.W.codeIn K cd33 "_law_worth" = true)
    (k33 : PySem.W.keepIn K (.ref f33) = true)
    (a34 : PySem.W.nsIn K mainGlobals "_law_told" = some (some (.ref f34)))
    (l34 : K.lookup f34 = some ⟨oc34, od34, .func (PySem.W.fnOf "_law_told" "_law_told" (defArgs s__law_told) (defBody s__law_told) (defScope s__law_told) .none kV34 dc34 pm34 an34 cd34 ct34), sl34⟩)
    (c34 : PySem.W.codeIn K cd34 "_law_told" = true)
    (k34 : PySem.W.keepIn K (.ref f34) = true)
    (a35 : PySem.W.nsIn K mainGlobals "_law_due" = some (some (.ref f35)))
    (l35 : K.lookup f35 = some ⟨oc35, od35, .func (PySem.W.fnOf "_law_due" "_law_due" (defArgs s__law_due) (defBody s__law_due) (defScope s__law_due) .none kV35 dc35 pm35 an35 cd35 ct35), sl35⟩)
    (c35 : PySem.W.codeIn K cd35 "_law_due" = true)
    (k35 : PySem.W.keepIn K (.ref f35) = true)
    (a36 : PySem.W.nsIn K mainGlobals "_law_odd" = some (some (.ref f36)))
    (l36 : K.lookup f36 = some ⟨oc36, od36, .func (PySem.W.fnOf "_law_odd" "_law_odd" (defArgs s__law_odd) (defBody s__law_odd) (defScope s__law_odd) .none kV36 dc36 pm36 an36 cd36 ct36), sl36⟩)
    (c36 : PySem.W.codeIn K cd36 "_law_odd" = true)
    (k36 : PySem.W.keepIn K (.ref f36) = true)
    (a37 : PySem.W.nsIn K mainGlobals "law" = some (some (.ref f37)))
    (l37 : K.lookup f37 = some ⟨oc37, od37, .func (PySem.W.fnOf "law" "law" (defArgs s_law) (defBody s_law) (defScope s_law) .none kV37 dc37 pm37 an37 cd37 ct37), sl37⟩)
    (c37 : PySem.W.codeIn K cd37 "law" = true)
    (k37 : PySem.W.keepIn K (.ref f37) = true) :
    ∃ fd : FuncData, (∀ (s : Shared) (v : Value), BindsTo s fd ⟨[v], []⟩ [("_law_script", v)]) ∧ ∀ base : Heap, K.In base → base.Ns mainGlobals mg → FnOk PySem.Challenge.pw_waysofmaking_k17_eight_facts w K mg base (L2.CX PySem.Challenge.pw_waysofmaking_k17_eight_facts w) 14 fa fd P_law (spM (pLaw K)) := by
  have e := hfa.symm.trans (PySem.W.mg_of X G a37)
  cases e
  refine ⟨PySem.W.fnOf "law" "law" (defArgs s_law) (defBody s_law) (defScope s_law) .none kV37 dc37 pm37 an37 cd37 ct37, fun s v => .of_eq rfl, fun base _ _ => ?_⟩
  have htop : ((PySem.Challenge.pw_waysofmaking_k17_eight_facts).main.scope.names.lookup ("super" : Str)).isSome = false := by decide +kernel
  have xfM : XfC K M := ⟨gaM, ggM, eM, hdM⟩
  have scM : SupC PySem.Challenge.pw_waysofmaking_k17_eight_facts K mg "BadNumber" "BadNumber.__init__" s_BadNumber___init__ M f0 cc0 cd0 := ⟨⟨⟨_, _, _, _, _, _, _, _, _, _, _, _, _, _, _, xM, bmM⟩, saM, eM, tM, kM⟩, PySem.W.mg_of X G aM, a0, t0, ⟨_, _, _, _, _, _, l0⟩, c0, ⟨_, _, _, _, _, _, lc0, v0, fil0⟩, ⟨_, _, _, ll0⟩, sbM, PySem.W.mg_none_of X G z_super, suM, svM, opM, htop, teM⟩
  have T_BadNumber : Ke PySem.Challenge.pw_waysofmaking_k17_eight_facts w K mg base M "BadNumber" "n" 1 prInt := kE_BadNumber scM nM_n
  have xfU : XfC K U := ⟨gaU, ggU, eU, hdU⟩
  have scU : SupC PySem.Challenge.pw_waysofmaking_k17_eight_facts K mg "UnknownName" "UnknownName.__init__" s_UnknownName___init__ U f1 cc1 cd1 := ⟨⟨⟨_, _, _, _, _, _, _, _, _, _, _, _, _, _, _, xU, bmU⟩, saU, eU, tU, kU⟩, PySem.W.mg_of X G aU, a1, t1, ⟨_, _, _, _, _, _, l1⟩, c1, ⟨_, _, _, _, _, _, lc1, v1, fil1⟩, ⟨_, _, _, ll1⟩, sbU, PySem.W.mg_none_of X G z_super, suU, svU, opU, htop, teU⟩
  have T_UnknownName : Ke PySem.Challenge.pw_waysofmaking_k17_eight_facts w K mg base U "UnknownName" "name" 1 prStr := kE_UnknownName scU nU_name
  have clR : Cls K R := ⟨pgR, hdR, poR, saR⟩
  have cxR : ClsX K R := ⟨clR, sfR, caR, cnR, ctR, cmR⟩
  have QX : RatX K mg R := ⟨cxR, nR_top, nR_bottom, PySem.W.mg_of X G aR, nfR, nfI, nfS, ksI, ksS, PySem.W.mg_none_of X G z_isinstance, PySem.W.mg_none_of X G z_bool, PySem.W.mg_none_of X G z_len⟩
  have F2 := fun_mk (st := s_common) l2 c2 k2
  have b2 := F2.binds (ps := P_common) fun _ _ _ _ _ _ us hl => match us, hl with | [_, _], _ => rfl
  have T_common : Kf1 PySem.Challenge.pw_waysofmaking_k17_eight_facts w K mg base "common" 1 pCommon := ⟨f2, _, P_common, PySem.W.mg_of X G a2, k2, b2, kf_common F2 (PySem.W.mg_none_of X G z_abs)⟩
  have F3 := fun_mk (st := s_Ratio___init__) l3 c3 k3
  have b3 := F3.binds (ps := P_Ratio___init__) fun _ _ _ _ _ _ us hl => match us, hl with | [_, _, _], _ => rfl
  have T_Ratio : Kc PySem.Challenge.pw_waysofmaking_k17_eight_facts w K mg base R "Ratio" 3 (pInit R M) := ⟨f3, _, P_Ratio___init__, PySem.W.mg_of X G aR, ⟨mkR, a3, i3, kcR⟩, b3, kf_init F3 QX T_common T_BadNumber⟩
  have F4 := fun_mk (st := s_Ratio___add__) l4 c4 k4
  have b4 := F4.binds (ps := P_Ratio___add__) fun _ _ _ _ _ _ us hl => match us, hl with | [_, _], _ => rfl
  have T_Ratio___add__ : Ko PySem.Challenge.pw_waysofmaking_k17_eight_facts w K mg base R "__add__" 5 (pAdd R) := ⟨f4, _, P_Ratio___add__, ⟨a4, i4⟩, b4, kf_add F4 QX T_Ratio⟩
  have F5 := fun_mk (st := s_Ratio___sub__) l5 c5 k5
  have b5 := F5.binds (ps := P_Ratio___sub__) fun _ _ _ _ _ _ us hl => match us, hl with | [_, _], _ => rfl
  have T_Ratio___sub__ : Ko PySem.Challenge.pw_waysofmaking_k17_eight_facts w K mg base R "__sub__" 5 (pSub R) := ⟨f5, _, P_Ratio___sub__, ⟨a5, i5⟩, b5, kf_sub F5 QX T_Ratio⟩
  have F6 := fun_mk (st := s_Ratio___mul__) l6 c6 k6
  have b6 := F6.binds (ps := P_Ratio___mul__) fun _ _ _ _ _ _ us hl => match us, hl with | [_, _], _ => rfl
  have T_Ratio___mul__ : Ko PySem.Challenge.pw_waysofmaking_k17_eight_facts w K mg base R "__mul__" 5 (pMul R) := ⟨f6, _, P_Ratio___mul__, ⟨a6, i6⟩, b6, kf_mul F6 QX T_Ratio⟩
  have F7 := fun_mk (st := s_Ratio___neg__) l7 c7 k7
  have b7 := F7.binds (ps := P_Ratio___neg__) fun _ _ _ _ _ _ us hl => match us, hl with | [_], _ => rfl
  have T_Ratio___neg__ : Ko PySem.Challenge.pw_waysofmaking_k17_eight_facts w K mg base R "__neg__" 5 (pNeg R) := ⟨f7, _, P_Ratio___neg__, ⟨a7, i7⟩, b7, kf_neg F7 QX T_Ratio⟩
  have F8 := fun_mk (st := s_Ratio___eq__) l8 c8 k8
  have b8 := F8.binds (ps := P_Ratio___eq__) fun _ _ _ _ _ _ us hl => match us, hl with | [_, _], _ => rfl
  have T_Ratio___eq__ : Ko PySem.Challenge.pw_waysofmaking_k17_eight_facts w K mg base R "__eq__" 5 (pEq R) := ⟨f8, _, P_Ratio___eq__, ⟨a8, i8⟩, b8, kf_eq F8 QX⟩
  have F9 := fun_mk (st := s_Ratio___bool__) l9 c9 k9
  have b9 := F9.binds (ps := P_Ratio___bool__) fun _ _ _ _ _ _ us hl => match us, hl with | [_], _ => rfl
  have T_Ratio___bool__ : Ko PySem.Challenge.pw_waysofmaking_k17_eight_facts w K mg base R "__bool__" 5 (pBool R) := ⟨f9, _, P_Ratio___bool__, ⟨a9, i9⟩, b9, kf_bool F9 QX⟩
  have F10 := fun_mk (st := s_Ratio_under) l10 c10 k10
  have b10 := F10.binds (ps := P_Ratio_under) fun _ _ _ _ _ _ us hl => match us, hl with | [_, _], _ => rfl
  have T_Ratio_under : Km PySem.Challenge.pw_waysofmaking_k17_eight_facts w K mg base R "under" 5 (pUnder R) := ⟨f10, _, P_Ratio_under, ⟨a10, i10, k10⟩, b10, kf_under F10 QX⟩
  have F11 := fun_mk (st := s_Ratio_quotient) l11 c11 k11
  have b11 := F11.binds (ps := P_Ratio_quotient) fun _ _ _ _ _ _ us hl => match us, hl with | [_, _], _ => rfl
  have T_Ratio_quotient : Km PySem.Challenge.pw_waysofmaking_k17_eight_facts w K mg base R "quotient" 5 (pQuo R M) := ⟨f11, _, P_Ratio_quotient, ⟨a11, i11, k11⟩, b11, kf_quo F11 QX T_Ratio⟩
  have F12 := fun_mk (st := s_Ratio_whole) l12 c12 k12
  have b12 := F12.binds (ps := P_Ratio_whole) fun _ _ _ _ _ _ us hl => match us, hl with | [_, _], _ => rfl
  have T_Ratio_whole : Kcm PySem.Challenge.pw_waysofmaking_k17_eight_facts w K mg base R "whole" 5 (pWhole R) := ⟨f12, _, P_Ratio_whole, mc12, pc12, ⟨rd12, ga12⟩, ⟨a12, ⟨_, rc12⟩, fi12⟩, b12, kf_whole F12 QX T_Ratio⟩
  have F13 := fun_mk (st := s_Ratio___str__) l13 c13 k13
  have b13 := F13.binds (ps := P_Ratio___str__) fun _ _ _ _ _ _ us hl => match us, hl with | [_], _ => rfl
  have T_Ratio___str__ : Ko PySem.Challenge.pw_waysofmaking_k17_eight_facts w K mg base R "__str__" 2 (pStr R) := ⟨f13, _, P_Ratio___str__, ⟨a13, i13⟩, b13, kf_str F13 QX (PySem.W.mg_none_of X G z_str)⟩
  have F14 := fun_mk (st := s_total) l14 c14 k14
  have b14 := F14.binds (ps := P_total) fun _ _ _ _ _ _ us hl => match us, hl with | [_], _ => rfl
  have T_total : Kf1 PySem.Challenge.pw_waysofmaking_k17_eight_facts w K mg base "total" 7 (pTotal R) := ⟨f14, _, P_total, PySem.W.mg_of X G a14, k14, b14, kf_total F14 QX T_Ratio_whole T_Ratio___add__⟩
  have T_BadNumberR : Ke PySem.Challenge.pw_waysofmaking_k17_eight_facts w K mg base M "BadNumber" "n" 4 (prRat R) := kER_BadNumber scM nM_n T_Ratio___str__ ⟨fmR, cmR⟩
  have RX : RtX PySem.Challenge.pw_waysofmaking_k17_eight_facts w K mg base R M := ⟨QX, T_Ratio, T_Ratio_whole, T_Ratio___add__, T_Ratio___mul__, T_Ratio___eq__, T_Ratio_under⟩
  have F15 := fun_mk (st := s_reduced) l15 c15 k15
  have b15 := F15.binds (ps := P_reduced) fun _ _ _ _ _ _ us hl => match us, hl with | [_, _, _], _ => rfl
  have T_reduced : Kf1 PySem.Challenge.pw_waysofmaking_k17_eight_facts w K mg base "reduced" 6 (pRed R) := ⟨f15, _, P_reduced, PySem.W.mg_of X G a15, k15, b15, kf_reduced F15 QX T_Ratio___sub__ T_Ratio___mul__ (PySem.W.mg_none_of X G z_zip)⟩
  have F16 := fun_mk (st := s_solved) l16 c16 k16
  have b16 := F16.binds (ps := P_solved) fun _ _ _ _ _ _ us hl => match us, hl with | [_, _], _ => rfl
  have T_solved : Kf1 PySem.Challenge.pw_waysofmaking_k17_eight_facts w K mg base "solved" 7 (pSolvd R) := ⟨f16, _, P_solved, PySem.W.mg_of X G a16, k16, b16, kf_solvedL F16 QX T_Ratio___bool__ T_Ratio_quotient T_reduced (PySem.W.mg_none_of X G z_len) (PySem.W.mg_none_of X G z_range) (PySem.W.mg_none_of X G z_zip) (PySem.W.mg_none_of X G z_enumerate)⟩
  have F17 := fun_mk (st := s_product) l17 c17 k17
  have b17 := F17.binds (ps := P_product) fun _ _ _ _ _ _ us hl => match us, hl with | [_, _], _ => rfl
  have T_product : Kf1 PySem.Challenge.pw_waysofmaking_k17_eight_facts w K mg base "product" 8 (pProd R) := ⟨f17, _, P_product, PySem.W.mg_of X G a17, k17, b17, kf_product F17 QX T_Ratio___mul__ T_total (PySem.W.mg_none_of X G z_zip)⟩
  have F18 := fun_mk (st := s_lots_of) l18 c18 k18
  have b18 := F18.binds (ps := P_lots_of) fun _ _ _ _ _ _ us hl => match us, hl with | [_, _], _ => rfl
  have T_lots_of : Kf1 PySem.Challenge.pw_waysofmaking_k17_eight_facts w K mg base "lots_of" 1 (pLots 0) := ⟨f18, _, P_lots_of, PySem.W.mg_of X G a18, k18, b18, kf_lots0 F18⟩
  have T_lots1 : Kf1 PySem.Challenge.pw_waysofmaking_k17_eight_facts w K mg base "lots_of" 2 (pLots 1) := ⟨f18, _, P_lots_of, PySem.W.mg_of X G a18, k18, b18, kf_lotsS (by decide) F18 T_lots_of (PySem.W.mg_none_of X G z_enumerate)⟩
  have T_lots2 : Kf1 PySem.Challenge.pw_waysofmaking_k17_eight_facts w K mg base "lots_of" 3 (pLots 2) := ⟨f18, _, P_lots_of, PySem.W.mg_of X G a18, k18, b18, kf_lotsS (by decide) F18 T_lots1 (PySem.W.mg_none_of X G z_enumerate)⟩
  have TL : ∀ n, n ≤ 2 → Kf1 PySem.Challenge.pw_waysofmaking_k17_eight_facts w K mg base "lots_of" (n + 1) (pLots n) := fun n hn => match n, hn with | 0, _ => T_lots_of | 1, _ => T_lots1 | 2, _ => T_lots2 | n + 3, h => absurd h (by omega)
  have F19 := fun_mk (st := s_is_name) l19 c19 k19
  have b19 := F19.binds (ps := P_is_name) fun _ _ _ _ _ _ us hl => match us, hl with | [_], _ => rfl
  have T_is_name : Kf1 PySem.Challenge.pw_waysofmaking_k17_eight_facts w K mg base "is_name" 2 pName := ⟨f19, _, P_is_name, PySem.W.mg_of X G a19, k19, b19, kf_is_name F19 (PySem.W.mg_of X G gL) (PySem.W.mg_of X G gS) (PySem.W.mg_of X G gM) (PySem.W.mg_none_of X G z_len) (PySem.W.mg_none_of X G z_all)⟩
  have F20 := fun_mk (st := s_check_names) l20 c20 k20
  have b20 := F20.binds (ps := P_check_names) fun _ _ _ _ _ _ us hl => match us, hl with | [_], _ => rfl
  have T_check_names : Kf1 PySem.Challenge.pw_waysofmaking_k17_eight_facts w K mg base "check_names" 3 pChkN := ⟨f20, _, P_check_names, PySem.W.mg_of X G a20, k20, b20, kf_chknames F20 T_is_name (PySem.W.mg_of X G gG) (PySem.W.mg_none_of X G z_len) (PySem.W.mg_none_of X G z_enumerate)⟩
  have clHd : Cls K Hd := ⟨pgHd, hdHd, poHd, saHd⟩
  have HX : HdX K mg Hd := ⟨clHd, nHd_wares, nHd_facts⟩
  have F21 := fun_mk (st := s_Hidden___init__) l21 c21 k21
  have b21 := F21.binds (ps := P_Hidden___init__) fun _ _ _ _ _ _ us hl => match us, hl with | [_, _], _ => rfl
  have T_Hidden : KcG PySem.Challenge.pw_waysofmaking_k17_eight_facts w K mg base Hd "Hidden" 4 (pHInitG Hd R) := ⟨f21, _, P_Hidden___init__, PySem.W.mg_of X G aHd, ⟨mkHd, a21, i21, kcHd⟩, b21, kf_hinitG F21 HX T_check_names (PySem.W.mg_none_of X G z_sorted)⟩
  have F22 := fun_mk (st := s_Hidden___len__) l22 c22 k22
  have b22 := F22.binds (ps := P_Hidden___len__) fun _ _ _ _ _ _ us hl => match us, hl with | [_], _ => rfl
  have T_Hidden___len__ : Ko PySem.Challenge.pw_waysofmaking_k17_eight_facts w K mg base Hd "__len__" 1 (pHLen Hd R) := ⟨f22, _, P_Hidden___len__, ⟨a22, i22⟩, b22, kf_hlen F22 HX (PySem.W.mg_none_of X G z_len)⟩
  have F23 := fun_mk (st := s_Hidden_row) l23 c23 k23
  have b23 := F23.binds (ps := P_Hidden_row) fun _ _ _ _ _ _ us hl => match us, hl with | [_, _], _ => rfl
  have T_Hidden_row : Km PySem.Challenge.pw_waysofmaking_k17_eight_facts w K mg base Hd "row" 6 (pRowH Hd M U R) := ⟨f23, _, P_Hidden_row, ⟨a23, i23, k23⟩, b23, kf_hrow F23 HX RX T_UnknownName T_BadNumberR (PySem.W.mg_none_of X G z_list) (PySem.W.mg_none_of X G z_sorted)⟩
  have F24 := fun_mk (st := s_Hidden_allows) l24 c24 k24
  have b24 := F24.binds (ps := P_Hidden_allows) fun _ _ _ _ _ _ us hl => match us, hl with | [_, _, _], _ => rfl
  have T_Hidden_allows : Km PySem.Challenge.pw_waysofmaking_k17_eight_facts w K mg base Hd "allows" 9 (pAlw R) := ⟨f24, _, P_Hidden_allows, ⟨a24, i24, k24⟩, b24, kf_allows F24 RX T_product (PySem.W.mg_none_of X G z_any)⟩
  have F25 := fun_mk (st := s_Hidden_corners) l25 c25 k25
  have b25 := F25.binds (ps := P_Hidden_corners) fun _ _ _ _ _ _ us hl => match us, hl with | [_, _], _ => rfl
  have T_Hidden_corners : Km PySem.Challenge.pw_waysofmaking_k17_eight_facts w K mg base Hd "corners" 10 (pCrn Hd R) := ⟨f25, _, P_Hidden_corners, ⟨a25, i25, k25⟩, b25, kf_corners F25 RX HX TL T_solved T_Hidden_allows nfR (PySem.W.mg_none_of X G z_len) (PySem.W.mg_none_of X G z_range) (PySem.W.mg_none_of X G z_int)⟩
  have F26 := fun_mk (st := s_Hidden_fits) l26 c26 k26
  have b26 := F26.binds (ps := P_Hidden_fits) fun _ _ _ _ _ _ us hl => match us, hl with | [_, _], _ => rfl
  have T_Hidden_fits : Km PySem.Challenge.pw_waysofmaking_k17_eight_facts w K mg base Hd "fits" 11 (pFits Hd R) := ⟨f26, _, P_Hidden_fits, ⟨a26, i26, k26⟩, b26, kf_fits17 F26 RX HX T_Hidden_corners T_product (PySem.W.mg_none_of X G z_any) (PySem.W.mg_none_of X G z_all)⟩
  have ZX : TlX PySem.Challenge.pw_waysofmaking_k17_eight_facts w K mg base Hd M U R tk5 := ⟨HX, RX, T_Hidden_row, T_Hidden_fits, T_Ratio___bool__, T_BadNumber, T_BadNumberR, (PySem.W.mg_of X G gF), PySem.W.mg_none_of X G z_any, PySem.W.mg_none_of X G z_bool, PySem.W.mg_none_of X G z_len⟩
  have F27 := fun_mk (st := s_Hidden_tell) l27 c27 k27
  have b27 := F27.binds (ps := P_Hidden_tell) fun _ _ _ _ _ _ us hl => match us, hl with | [_, _, _], _ => rfl
  have T_Hidden_tell : Km PySem.Challenge.pw_waysofmaking_k17_eight_facts w K mg base Hd "tell" 12 (pTellO Hd R) := ⟨f27, _, P_Hidden_tell, ⟨a27, i27, k27⟩, b27, kf_tellO F27 ZX⟩
  have T_tellE : Km PySem.Challenge.pw_waysofmaking_k17_eight_facts w K mg base Hd "tell" 12 (pTellE Hd M U R) := ⟨f27, _, P_Hidden_tell, ⟨a27, i27, k27⟩, b27, kf_tellE F27 ZX⟩
  have F28 := fun_mk (st := s_Hidden_told) l28 c28 k28
  have b28 := F28.binds (ps := P_Hidden_told) fun _ _ _ _ _ _ us hl => match us, hl with | [_], _ => rfl
  have T_Hidden_told : Km PySem.Challenge.pw_waysofmaking_k17_eight_facts w K mg base Hd "told" 6 (pTold17 Hd R) := ⟨f28, _, P_Hidden_told, ⟨a28, i28, k28⟩, b28, kf_told17 F28 HX T_Ratio___bool__ (PySem.W.mg_none_of X G z_zip)⟩
  have F29 := fun_mk (st := s_Hidden_undo) l29 c29 k29
  have b29 := F29.binds (ps := P_Hidden_undo) fun _ _ _ _ _ _ us hl => match us, hl with | [_], _ => rfl
  have T_Hidden_undo : Km PySem.Challenge.pw_waysofmaking_k17_eight_facts w K mg base Hd "undo" 2 (pUndo Hd R) := ⟨f29, _, P_Hidden_undo, ⟨a29, i29, k29⟩, b29, kf_undo17 F29 HX⟩
  have F30 := fun_mk (st := s__law_pool) l30 c30 k30
  have b30 := F30.binds (ps := P__law_pool) fun _ _ _ _ _ _ us hl => match us, hl with | [_], _ => rfl
  have T__law_pool : KfN1 PySem.Challenge.pw_waysofmaking_k17_eight_facts w K mg base "_law_pool" 1 pBag := ⟨f30, _, P__law_pool, PySem.W.mg_of X G a30, k30, b30, kf_pool17 F30⟩
  have F31 := fun_mk (st := s__law_take) l31 c31 k31
  have b31 := F31.binds (ps := P__law_take) fun _ _ _ _ _ _ us hl => match us, hl with | [_, _], _ => rfl
  have T__law_take : Kf1 PySem.Challenge.pw_waysofmaking_k17_eight_facts w K mg base "_law_take" 1 pTake := ⟨f31, _, P__law_take, PySem.W.mg_of X G a31, k31, b31, kf_take17 F31 (PySem.W.mg_none_of X G z_int)⟩
  have F32 := fun_mk (st := s__law_at) l32 c32 k32
  have b32 := F32.binds (ps := P__law_at) fun _ _ _ _ _ _ us hl => match us, hl with | [_, _], _ => rfl
  have T__law_at : Kf1 PySem.Challenge.pw_waysofmaking_k17_eight_facts w K mg base "_law_at" 1 (pAt K) := ⟨f32, _, P__law_at, PySem.W.mg_of X G a32, k32, b32, kf_at17 F32 (PySem.W.mg_none_of X G z_len)⟩
  have F33 := fun_mk (st := s__law_worth) l33 c33 k33
  have b33 := F33.binds (ps := P__law_worth) fun _ _ _ _ _ _ us hl => match us, hl with | [_, _], _ => rfl
  have T__law_worth : Kf1 PySem.Challenge.pw_waysofmaking_k17_eight_facts w K mg base "_law_worth" 6 (pWorth17 R) := ⟨f33, _, P__law_worth, PySem.W.mg_of X G a33, k33, b33, kf_worth17 F33 RX⟩
  have EX : ErT K mg M U := ⟨(PySem.W.mg_of X G aM), (PySem.W.mg_of X G aU), xfM, xfU, nM_n, nU_name, teU, teMU, teM⟩
  have F34 := fun_mk (st := s__law_told) l34 c34 k34
  have b34 := F34.binds (ps := P__law_told) fun _ _ _ _ _ _ us hl => match us, hl with | [_, _, _], _ => rfl
  have T__law_told : Kf1 PySem.Challenge.pw_waysofmaking_k17_eight_facts w K mg base "_law_told" 13 (pTellO Hd R) := ⟨f34, _, P__law_told, PySem.W.mg_of X G a34, k34, b34, kf_told17O F34 HX EX T_Hidden_tell⟩
  have T_toldE : Kf1 PySem.Challenge.pw_waysofmaking_k17_eight_facts w K mg base "_law_told" 13 (pToldE Hd R) := ⟨f34, _, P__law_told, PySem.W.mg_of X G a34, k34, b34, kf_told17L F34 HX EX T_tellE⟩
  have NE : NeM K R := ⟨neR, cmR⟩
  have F35 := fun_mk (st := s__law_due) l35 c35 k35
  have b35 := F35.binds (ps := P__law_due) fun _ _ _ _ _ _ us hl => match us, hl with | [_, _, _, _], _ => rfl
  have T__law_due : Kf1 PySem.Challenge.pw_waysofmaking_k17_eight_facts w K mg base "_law_due" 7 (pDue17 R) := ⟨f35, _, P__law_due, PySem.W.mg_of X G a35, k35, b35, kf_due17 F35 RX NE (PySem.W.mg_none_of X G z_list) (PySem.W.mg_none_of X G z_sorted)⟩
  have F36 := fun_mk (st := s__law_odd) l36 c36 k36
  have b36 := F36.binds (ps := P__law_odd) fun _ _ _ _ _ _ us hl => match us, hl with | [_, _, _, _], _ => rfl
  have T__law_odd : Kf1 PySem.Challenge.pw_waysofmaking_k17_eight_facts w K mg base "_law_odd" 6 (pOdd R) := ⟨f36, _, P__law_odd, PySem.W.mg_of X G a36, k36, b36, kf_odd17 F36 RX T_Ratio___neg__ T__law_take (PySem.W.mg_none_of X G z_dict)⟩
  have LX : LaX PySem.Challenge.pw_waysofmaking_k17_eight_facts w K mg base Hd R M := ⟨RX, HX, NE, T__law_pool, T__law_take, T__law_at, T__law_worth, T_toldE, T__law_told, T__law_due, T__law_odd, T_Hidden, T_Hidden_tell, T_Hidden___len__, T_Hidden_told, T_Hidden_undo, PySem.W.mg_none_of X G z_len, PySem.W.mg_none_of X G z_min, PySem.W.mg_none_of X G z_range, PySem.W.mg_none_of X G z_dict, PySem.W.mg_none_of X G z_int⟩
  have F37 := fun_mk (st := s_law) l37 c37 k37
  exact kf_law F37 LX
end W1
set_option maxRecDepth 100000
open PySem PySem.W PyProof.Rows in
set_option maxRecDepth 100000 in
set_option maxHeartbeats 0 in
theorem PySem.Challenge.cw_waysofmaking_k17_eight_facts_holds : PySem.Challenge.rw_waysofmaking_k17_eight_facts.Holds := by
  w_on; o_law; k_head; (case hw => w_witness2)
  k_fill
  refine L2.walk_of (l := PySem.Challenge.rw_waysofmaking_k17_eight_facts) (n := 63) (k := 14) (x := "_law_script") (CX := fun w => L2.CX PySem.Challenge.pw_waysofmaking_k17_eight_facts w) (sp := fun w => W1.spM (W1.pLaw _)) rfl (by decide) rfl ⟨rfl, by decide, by decide⟩ (fun w h Y => PySem.W.kIn_of Y) ?F W1.law_sp ?Z
  case Z => exact W1.law_cx
  case F =>
    intro w mg fa h KX G hmg
    refine' W1.all_mk KX G hmg ?z_super ?z_list ?z_sorted ?z_len ?z_all ?z_any ?z_isinstance ?z_int ?z_range ?z_enumerate ?z_zip ?z_abs ?z_bool ?z_str ?z_dict ?z_min ?gL ?gS ?gM ?gG ?gF ?aM ?xM ?bmM ?saM ?eM ?tM ?kM ?a0 ?t0 ?l0 ?c0 ?lc0 ?v0 ?fil0 ?ll0 ?sbM ?suM ?svM ?opM ?teM ?nM_n ?gaM ?ggM ?hdM ?aU ?xU ?bmU ?saU ?eU ?tU ?kU ?a1 ?t1 ?l1 ?c1 ?lc1 ?v1 ?fil1 ?ll1 ?sbU ?suU ?svU ?opU ?teU ?nU_name ?gaU ?ggU ?hdU ?teMU ?aR ?kcR ?mkR ?pgR ?hdR ?poR ?saR ?sfR ?caR ?cnR ?ctR ?cmR ?nR_top ?nR_bottom ?nfR ?nfI ?nfS ?ksI ?ksS ?neR ?fmR ?a2 ?l2 ?c2 ?k2 ?a3 ?i3 ?l3 ?c3 ?k3 ?a4 ?i4 ?l4 ?c4 ?k4 ?a5 ?i5 ?l5 ?c5 ?k5 ?a6 ?i6 ?l6 ?c6 ?k6 ?a7 ?i7 ?l7 ?c7 ?k7 ?a8 ?i8 ?l8 ?c8 ?k8 ?a9 ?i9 ?l9 ?c9 ?k9 ?a10 ?i10 ?l10 ?c10 ?k10 ?a11 ?i11 ?l11 ?c11 ?k11 ?ty12 ?rd12 ?ga12 ?a12 ?rc12 ?fi12 ?l12 ?c12 ?k12 ?a13 ?i13 ?l13 ?c13 ?k13 ?a14 ?l14 ?c14 ?k14 ?a15 ?l15 ?c15 ?k15 ?a16 ?l16 ?c16 ?k16 ?a17 ?l17 ?c17 ?k17 ?a18 ?l18 ?c18 ?k18 ?a19 ?l19 ?c19 ?k19 ?a20 ?l20 ?c20 ?k20 ?aHd ?kcHd ?mkHd ?pgHd ?hdHd ?poHd ?saHd ?nHd_wares ?nHd_facts ?a21 ?i21 ?l21 ?c21 ?k21 ?a22 ?i22 ?l22 ?c22 ?k22 ?a23 ?i23 ?l23 ?c23 ?k23 ?a24 ?i24 ?l24 ?c24 ?k24 ?a25 ?i25 ?l25 ?c25 ?k25 ?a26 ?i26 ?l26 ?c26 ?k26 ?a27 ?i27 ?l27 ?c27 ?k27 ?a28 ?i28 ?l28 ?c28 ?k28 ?a29 ?i29 ?l29 ?c29 ?k29 ?a30 ?l30 ?c30 ?k30 ?a31 ?l31 ?c31 ?k31 ?a32 ?l32 ?c32 ?k32 ?a33 ?l33 ?c33 ?k33 ?a34 ?l34 ?c34 ?k34 ?a35 ?l35 ?c35 ?k35 ?a36 ?l36 ?c36 ?k36 ?a37 ?l37 ?c37 ?k37
    (case z_super => k_is)
    (case z_list => k_is)
    (case z_sorted => k_is)
    (case z_len => k_is)
    (case z_all => k_is)
    (case z_any => k_is)
    (case z_isinstance => k_is)
    (case z_int => k_is)
    (case z_range => k_is)
    (case z_enumerate => k_is)
    (case z_zip => k_is)
    (case z_abs => k_is)
    (case z_bool => k_is)
    (case z_str => k_is)
    (case z_dict => k_is)
    (case z_min => k_is)
    (case gL => k_is)
    (case gS => k_is)
    (case gM => k_is)
    (case gG => k_is)
    (case gF => k_is)
    (case aM => k_is)
    (case xM => k_is)
    (case bmM => rfl)
    (case saM => k_is)
    (case eM => k_is)
    (case tM => k_is)
    (case kM => k_is)
    (case a0 => k_is)
    (case t0 => k_is)
    (case l0 => k_is)
    (case c0 => k_is)
    (case lc0 => k_is)
    (case v0 => rfl)
    (case fil0 => first | rfl | decide +kernel)
    (case ll0 => k_is)
    (case sbM => k_is)
    (case suM => ks_is)
    (case svM => k_is)
    (case opM => k_is)
    (case teM => kts_exm)
    (case nM_n => k_is)
    (case gaM => k_is)
    (case ggM => k_is)
    (case hdM => k_is)
    (case aU => k_is)
    (case xU => k_is)
    (case bmU => rfl)
    (case saU => k_is)
    (case eU => k_is)
    (case tU => k_is)
    (case kU => k_is)
    (case a1 => k_is)
    (case t1 => k_is)
    (case l1 => k_is)
    (case c1 => k_is)
    (case lc1 => k_is)
    (case v1 => rfl)
    (case fil1 => first | rfl | decide +kernel)
    (case ll1 => k_is)
    (case sbU => k_is)
    (case suU => ks_is)
    (case svU => k_is)
    (case opU => k_is)
    (case teU => kts_exm)
    (case nU_name => k_is)
    (case gaU => k_is)
    (case ggU => k_is)
    (case hdU => k_is)
    (case teMU => kts_exm)
    (case aR => k_is)
    (case kcR => k_is)
    (case mkR => k_is)
    (case pgR => k_is)
    (case hdR => k_is)
    (case poR => k_is)
    (case saR => k_is)
    (case sfR => k_is)
    (case caR => k_is)
    (case cnR => k_is)
    (case ctR => k_is)
    (case cmR => k_is)
    (case nR_top => k_is)
    (case nR_bottom => k_is)
    (case nfR => k_is)
    (case nfI => k_is)
    (case nfS => k_is)
    (case ksI => kit_is)
    (case ksS => kit_is)
    (case neR => k_is)
    (case fmR => k_is)
    (case a2 => k_is)
    (case l2 => k_is)
    (case c2 => k_is)
    (case k2 => k_is)
    (case a3 => k_is)
    (case i3 => k_is)
    (case l3 => k_is)
    (case c3 => k_is)
    (case k3 => k_is)
    (case a4 => k_is)
    (case i4 => k_is)
    (case l4 => k_is)
    (case c4 => k_is)
    (case k4 => k_is)
    (case a5 => k_is)
    (case i5 => k_is)
    (case l5 => k_is)
    (case c5 => k_is)
    (case k5 => k_is)
    (case a6 => k_is)
    (case i6 => k_is)
    (case l6 => k_is)
    (case c6 => k_is)
    (case k6 => k_is)
    (case a7 => k_is)
    (case i7 => k_is)
    (case l7 => k_is)
    (case c7 => k_is)
    (case k7 => k_is)
    (case a8 => k_is)
    (case i8 => k_is)
    (case l8 => k_is)
    (case c8 => k_is)
    (case k8 => k_is)
    (case a9 => k_is)
    (case i9 => k_is)
    (case l9 => k_is)
    (case c9 => k_is)
    (case k9 => k_is)
    (case a10 => k_is)
    (case i10 => k_is)
    (case l10 => k_is)
    (case c10 => k_is)
    (case k10 => k_is)
    (case a11 => k_is)
    (case i11 => k_is)
    (case l11 => k_is)
    (case c11 => k_is)
    (case k11 => k_is)
    (case ty12 => k_is)
    (case rd12 => k_is)
    (case ga12 => k_is)
    (case a12 => k_is)
    (case rc12 => k_is)
    (case fi12 => k_is)
    (case l12 => k_is)
    (case c12 => k_is)
    (case k12 => k_is)
    (case a13 => k_is)
    (case i13 => k_is)
    (case l13 => k_is)
    (case c13 => k_is)
    (case k13 => k_is)
    (case a14 => k_is)
    (case l14 => k_is)
    (case c14 => k_is)
    (case k14 => k_is)
    (case a15 => k_is)
    (case l15 => k_is)
    (case c15 => k_is)
    (case k15 => k_is)
    (case a16 => k_is)
    (case l16 => k_is)
    (case c16 => k_is)
    (case k16 => k_is)
    (case a17 => k_is)
    (case l17 => k_is)
    (case c17 => k_is)
    (case k17 => k_is)
    (case a18 => k_is)
    (case l18 => k_is)
    (case c18 => k_is)
    (case k18 => k_is)
    (case a19 => k_is)
    (case l19 => k_is)
    (case c19 => k_is)
    (case k19 => k_is)
    (case a20 => k_is)
    (case l20 => k_is)
    (case c20 => k_is)
    (case k20 => k_is)
    (case aHd => k_is)
    (case kcHd => k_is)
    (case mkHd => k_is)
    (case pgHd => k_is)
    (case hdHd => k_is)
    (case poHd => k_is)
    (case saHd => k_is)
    (case nHd_wares => k_is)
    (case nHd_facts => k_is)
    (case a21 => k_is)
    (case i21 => k_is)
    (case l21 => k_is)
    (case c21 => k_is)
    (case k21 => k_is)
    (case a22 => k_is)
    (case i22 => k_is)
    (case l22 => k_is)
    (case c22 => k_is)
    (case k22 => k_is)
    (case a23 => k_is)
    (case i23 => k_is)
    (case l23 => k_is)
    (case c23 => k_is)
    (case k23 => k_is)
    (case a24 => k_is)
    (case i24 => k_is)
    (case l24 => k_is)
    (case c24 => k_is)
    (case k24 => k_is)
    (case a25 => k_is)
    (case i25 => k_is)
    (case l25 => k_is)
    (case c25 => k_is)
    (case k25 => k_is)
    (case a26 => k_is)
    (case i26 => k_is)
    (case l26 => k_is)
    (case c26 => k_is)
    (case k26 => k_is)
    (case a27 => k_is)
    (case i27 => k_is)
    (case l27 => k_is)
    (case c27 => k_is)
    (case k27 => k_is)
    (case a28 => k_is)
    (case i28 => k_is)
    (case l28 => k_is)
    (case c28 => k_is)
    (case k28 => k_is)
    (case a29 => k_is)
    (case i29 => k_is)
    (case l29 => k_is)
    (case c29 => k_is)
    (case k29 => k_is)
    (case a30 => k_is)
    (case l30 => k_is)
    (case c30 => k_is)
    (case k30 => k_is)
    (case a31 => k_is)
    (case l31 => k_is)
    (case c31 => k_is)
    (case k31 => k_is)
    (case a32 => k_is)
    (case l32 => k_is)
    (case c32 => k_is)
    (case k32 => k_is)
    (case a33 => k_is)
    (case l33 => k_is)
    (case c33 => k_is)
    (case k33 => k_is)
    (case a34 => k_is)
    (case l34 => k_is)
    (case c34 => k_is)
    (case k34 => k_is)
    (case a35 => k_is)
    (case l35 => k_is)
    (case c35 => k_is)
    (case k35 => k_is)
    (case a36 => k_is)
    (case l36 => k_is)
    (case c36 => k_is)
    (case k36 => k_is)
    (case a37 => k_is)
    (case l37 => k_is)
    (case c37 => k_is)
    (case k37 => k_is)
