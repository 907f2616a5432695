import PyProof.Rows.All
import Wide.All
import OpenK.AllK
import Wide.FinOn
import HandS.ForMost
import HandS.ForExc
import HandS.Wide
import HandS.ExcInit
import HandS.ExcField
import HandS.ClsMeth
import HandS.IsInst
import HandS.FStr
import HandS.OwnEq
import HandS.Zip
import HandS.Flow
import HandS.DictComp
import HandS.Nested
import HandS.SlotsOwn
import HandS.Steps
import HandS.Style
import HandS.Text
import HandS.Codes
import HandS.Dict
import HandS.Iter
import HandS.More
import HandS.Finally
import HandS.Conv
import HandS.WordsDict
import HandS.Strs
import HandS.SortOrd
import HandS.ExcValue
import HandS.ExcIs
import KE.KExcSuper
import KE.KOpsOwn
import KE.KCallOwn
import KE.KEqDict
import KE.KDictList
import KE.KSortTupAny
import PyProof.Rows.SortShellAny
import KE.KFmtOwn
import KE.KExcIs
import KE.RegKIsAll
import KE.RegKSuper
import KE.RegKTryMore
import PySem.Challenge.RW_waysofmaking_k01_errors_by_class
set_option Elab.async false
set_option linter.all false
set_option maxRecDepth 100000
set_option maxHeartbeats 2000000
namespace W1
open PySem PySem.Spec PyProof.Rows L2

/-! ### what is known of values -/
structure Rl where
  r : V → Hp → Prop
  mo : ∀ v H H', Same H H' → r v H → r v H'
structure Ol where
  c : HO → Hp → Prop
  mo : ∀ o H H', Same H H' → c o H → c o H'
abbrev Ty := List (Option Rl)
abbrev Ow := List (Addr × Ol)
abbrev Er := Value → Option Addr → Hp → Prop
abbrev Out := Except Er Rl

def All2 : List Rl → List V → Hp → Prop
  | [], [], _ => True
  | R :: Rs, v :: vs, H => R.r v H ∧ All2 Rs vs H
  | _, _, _ => False
theorem All2.up : ∀ {Rs : List Rl} {vs : List V} {H H' : Hp}, Same H H' → All2 Rs vs H → All2 Rs vs H'
  | [], [], _, _, _, _ => trivial
  | R :: _, _ :: _, _, _, e, ⟨a, b⟩ => ⟨R.mo _ _ _ e a, All2.up e b⟩
  | [], _ :: _, _, _, _, h => h.elim
  | _ :: _, [], _, _, _, h => h.elim
theorem All2.len : ∀ {Rs : List Rl} {vs : List V} {H : Hp}, All2 Rs vs H → Rs.length = vs.length
  | [], [], _, _ => rfl
  | _ :: _, _ :: _, _, ⟨_, b⟩ => by rw [List.length_cons, List.length_cons, All2.len b]
  | [], _ :: _, _, h => h.elim
  | _ :: _, [], _, h => h.elim
theorem All2.get : ∀ {Rs : List Rl} {vs : List V} {H : Hp} {i : Nat} {R : Rl}, All2 Rs vs H → Rs[i]? = some R → ∃ v, vs[i]? = some v ∧ R.r v H
  | [], _, _, i, _, _, e => by simp at e
  | R :: _, v :: _, _, 0, _, ⟨a, _⟩, e => by
    have e' : R = _ := Option.some.inj e
    subst e'
    exact ⟨v, rfl, a⟩
  | _ :: _, _ :: _, _, i + 1, _, ⟨_, b⟩, e => All2.get (i := i) b e
  | _ :: _, [], _, _, _, h, _ => h.elim
theorem All2.app : ∀ {Rs Ss : List Rl} {vs ws : List V} {H : Hp}, All2 Rs vs H → All2 Ss ws H → All2 (Rs ++ Ss) (vs ++ ws) H
  | [], _, [], _, _, _, h => h
  | _ :: _, _, _ :: _, _, _, ⟨a, b⟩, h => ⟨a, All2.app b h⟩
  | [], _, _ :: _, _, _, h, _ => h.elim
  | _ :: _, _, [], _, _, h, _ => h.elim

structure Slots (ρ : Ty) (σ : L2.St) (G : Hp) : Prop where
  len : σ.length = ρ.length
  at_ : ∀ (i : Nat) (R : Rl), ρ[i]? = some (some R) → ∃ v, σ[i]? = some (some v) ∧ R.r v G
theorem Slots.up {ρ : Ty} {σ : L2.St} {G G' : Hp} (s : Slots ρ σ G) (e : Same G G') : Slots ρ σ G' :=
  ⟨s.len, fun i R h => let ⟨v, a, b⟩ := s.at_ i R h; ⟨v, a, R.mo _ _ _ e b⟩⟩
theorem Slots.set {ρ : Ty} {σ : L2.St} {G : Hp} (s : Slots ρ σ G) (i : Nat) {R : Rl} {v : V} (h : R.r v G) : Slots (ρ.set i (some R)) (σ.set i (some v)) G := by
  refine ⟨by rw [List.length_set, List.length_set]; exact s.len, fun j S e => ?_⟩
  by_cases hj : i = j
  · subst hj
    by_cases hi : i < ρ.length
    · rw [List.getElem?_set_self hi] at e
      cases e
      exact ⟨v, List.getElem?_set_self (by rw [s.len]; exact hi), h⟩
    · rw [List.getElem?_eq_none (by rw [List.length_set]; omega)] at e
      cases e
  · rw [List.getElem?_set_ne hj] at e
    obtain ⟨w, a, b⟩ := s.at_ j S e
    exact ⟨w, by rw [List.getElem?_set_ne hj]; exact a, b⟩
theorem Slots.gone {ρ : Ty} {σ : L2.St} {G : Hp} (s : Slots ρ σ G) (i : Nat) : Slots (ρ.set i none) (σ.set i none) G := by
  refine ⟨by rw [List.length_set, List.length_set]; exact s.len, fun j S e => ?_⟩
  by_cases hj : i = j
  · subst hj
    by_cases hi : i < ρ.length
    · rw [List.getElem?_set_self hi] at e
      cases e
    · rw [List.getElem?_eq_none (by rw [List.length_set]; omega)] at e
      cases e
  · rw [List.getElem?_set_ne hj] at e
    obtain ⟨w, a, b⟩ := s.at_ j S e
    exact ⟨w, by rw [List.getElem?_set_ne hj]; exact a, b⟩

/-! ### the frame of a body -/
structure Fx where
  X : Cx
  G0 : Hp
  H0 : Hp
  M : List Addr
  W : WX
  tk : Takes X W
structure At (F : Fx) (ω : Ow) (G H : Hp) : Prop where
  gg : Same F.G0 G
  hh : ∀ a o, a ∉ F.M → F.H0 a = some o → H a = some o
  gh : Same G H
  fr : ∀ a, F.H0 a ≠ none → F.G0 a = none → G a = none
  mm : ∀ a ∈ F.M, H a ≠ none
  ow : ∀ p ∈ ω, G p.1 = none ∧ (F.H0 p.1 = none ∨ p.1 ∈ F.M) ∧ ∃ o, H p.1 = some o ∧ p.2.c o G
  nd : (ω.map (·.1)).Nodup
/-- a further step of a callee, or of an allocation -/
structure Step (G H G' H' : Hp) : Prop where
  gg : Same G G'
  hh : Same H H'
  gh : Same G' H'
  fr : ∀ a, H a ≠ none → G a = none → G' a = none
theorem At.step {F : Fx} {ω : Ow} {G H G' H' : Hp} (a : At F ω G H) (s : Step G H G' H') : At F ω G' H' where
  gg := a.gg.trans s.gg
  hh := fun b o hb e => s.hh b o (a.hh b o hb e)
  gh := s.gh
  fr := fun b h1 h2 => s.fr b (by
    by_cases hb : b ∈ F.M
    · exact a.mm b hb
    · cases e : F.H0 b with
      | none => exact absurd e h1
      | some o => rw [a.hh b o hb e]; simp) (a.fr b h1 h2)
  mm := fun b hb => by
    cases e : H b with
    | none => exact absurd e (a.mm b hb)
    | some o => rw [s.hh b o e]; simp
  ow := fun p hp => by
    obtain ⟨g, h0, o, ho, hc⟩ := a.ow p hp
    exact ⟨s.fr _ (by rw [ho]; simp) g, h0, o, s.hh _ _ ho, p.2.mo _ _ _ s.gg hc⟩
  nd := a.nd
theorem Step.refl {G H : Hp} (h : Same G H) : Step G H G H := ⟨Same.refl _, Same.refl _, h, fun _ _ e => e⟩
theorem Step.new {G H : Hp} {p : Addr} {o : HO} (h : Same G H) (hp : H p = none) : Step G H (upd G p o) (upd H p o) := by
  have hg : G p = none := h.free hp
  refine ⟨fun a u e => ?_, fun a u e => ?_, fun a u e => ?_, fun a h1 h2 => ?_⟩
  · rw [upd_ne (ne_of_none e hg)]; exact e
  · rw [upd_ne (ne_of_none e hp)]; exact e
  · by_cases ha : a = p
    · subst ha; rw [upd_same] at e ⊢; exact e
    · rw [upd_ne ha] at e ⊢; exact h _ _ e
  · by_cases ha : a = p
    · subst ha; exact absurd hp h1
    · rw [upd_ne ha]; exact h2
/-- a new object that G does not see -/
theorem Step.hid {G H : Hp} {p : Addr} {o : HO} (h : Same G H) (hp : H p = none) : Step G H G (upd H p o) := by
  refine ⟨Same.refl _, fun a u e => ?_, fun a u e => ?_, fun a _ h2 => h2⟩
  · rw [upd_ne (ne_of_none e hp)]; exact e
  · rw [upd_ne (ne_of_none (h _ _ e) hp)]; exact h _ _ e
theorem Step.trans {G H G1 H1 G2 H2 : Hp} (a : Step G H G1 H1) (b : Step G1 H1 G2 H2) : Step G H G2 H2 :=
  ⟨a.gg.trans b.gg, a.hh.trans b.hh, b.gh, fun x h1 h2 => b.fr x (by
    cases e : H x with
    | none => exact absurd e h1
    | some o => rw [a.hh x o e]; simp) (a.fr x h1 h2)⟩

/-! ### the weakest wishes -/
section
variable (X : Cx)
def EW (e : Expr) : TE := fun σ H Q => ∀ pins s, Inv X pins σ H s → wpAny (model X.prog X.w) X.A (eval e X.env) (EP X pins σ Q) X.xe s
def TW (e : Expr) : TT := fun σ H Q => ∀ pins s, Inv X pins σ H s → wpAny (model X.prog X.w) X.A (isTrue e X.env (eval e X.env)) (TP X pins σ Q) X.xe s
def AW (es : List Expr) : TA := fun σ H Q => ∀ pos pins s, Inv X pins σ H s → wpAny (model X.prog X.w) X.A (spliced (backTo pos (starEach es X.env))) (AP X pins σ Q) X.xe s
def SW (st : Stmt) : TS := fun D σ H => ∀ pins s, Inv X pins σ H s → wpAny (model X.prog X.w) X.A (exec st X.env) (SP X pins D) X.xe s
def BW (st : List Stmt) : TS := fun D σ H => ∀ pins s, Inv X pins σ H s → wpAny (model X.prog X.w) X.A (execs st X.env) (SP X pins D) X.xe s
end
section
variable {X : Cx}
theorem pe_w {e : Expr} : PE X e (EW X e) := ⟨fun pins s _ _ _ I h => h pins s I⟩
theorem pt_w {e : Expr} : PT X e (TW X e) := ⟨fun pins s _ _ _ I h => h pins s I⟩
theorem pa_w {es : List Expr} : PA X es (AW X es) := ⟨fun pos pins s _ _ _ I h => h pos pins s I⟩
theorem ps_w {st : Stmt} : PS X st (SW X st) := ⟨fun pins s _ _ _ I h => h pins s I⟩
theorem pss_w {st : List Stmt} : PSs X st (BW X st) := ⟨fun pins s _ _ _ I h => h pins s I⟩
theorem ew_of {e : Expr} {t : TE} (h : PE X e t) {σ : L2.St} {H : Hp} {Q : VK} (q : t σ H Q) : EW X e σ H Q := fun pins s I => h.run pins s σ H Q I q
theorem tw_of {e : Expr} {t : TT} (h : PT X e t) {σ : L2.St} {H : Hp} {Q : Bool → Hp → Prop} (q : t σ H Q) : TW X e σ H Q := fun pins s I => h.run pins s σ H Q I q
theorem aw_of {es : List Expr} {t : TA} (h : PA X es t) {σ : L2.St} {H : Hp} {Q : List V → Hp → Prop} (q : t σ H Q) : AW X es σ H Q := fun pos pins s I => h.run pos pins s σ H Q I q
theorem sw_of {st : Stmt} {t : TS} (h : PS X st t) {D : Ends} {σ : L2.St} {H : Hp} (q : t D σ H) : SW X st D σ H := fun pins s I => h.run pins s σ H D I q
theorem bw_of {st : List Stmt} {t : TS} (h : PSs X st t) {D : Ends} {σ : L2.St} {H : Hp} (q : t D σ H) : BW X st D σ H := fun pins s I => h.run pins s σ H D I q
end

/-! ### what an expression gives -/
def ER (F : Fx) (ρ : Ty) (ω : Ow) (e : Expr) (R : Rl) (ω' : Ow) : Prop :=
  ∀ σ G H, At F ω G H → Slots ρ σ G → ∀ Q : VK, (∀ v G2 H2, Same G G2 → At F ω' G2 H2 → R.r v G2 → Q v H2) → EW F.X e σ H Q
def TR (F : Fx) (ρ : Ty) (ω : Ow) (e : Expr) (b : Bool) (ω' : Ow) : Prop :=
  ∀ σ G H, At F ω G H → Slots ρ σ G → ∀ Q : Bool → Hp → Prop, (∀ G2 H2, Same G G2 → At F ω' G2 H2 → Q b H2) → TW F.X e σ H Q
def AR (F : Fx) (ρ : Ty) (ω : Ow) (es : List Expr) (Rs : List Rl) (ω' : Ow) : Prop :=
  ∀ σ G H, At F ω G H → Slots ρ σ G → ∀ Q : List V → Hp → Prop, (∀ vs G2 H2, Same G G2 → At F ω' G2 H2 → All2 Rs vs G2 → Q vs H2) → AW F.X es σ H Q
/-- it raises -/
def EX (F : Fx) (ρ : Ty) (ω : Ow) (e : Expr) (P : Er) (ω' : Ow) : Prop :=
  ∀ σ G H, At F ω G H → Slots ρ σ G → (∀ cls d G2 H2, Same G G2 → At F ω' G2 H2 → P cls d G2 → F.W cls d σ H2) → EW F.X e σ H (fun _ _ => False)
end W1
set_option maxRecDepth 100000
set_option maxHeartbeats 2000000
namespace W1
open PySem PySem.Spec PyProof.Rows L2

/-! ### relations -/
def rEqV (x : V) : Rl := ⟨fun v _ => v = x, fun _ _ _ _ h => h⟩
abbrev rInt (i : Int) : Rl := rEqV (.int i)
abbrev rBool (b : Bool) : Rl := rEqV (.bl b)
abbrev rStr (x : Str) : Rl := rEqV (.str x)
abbrev rNon : Rl := rEqV .non
abbrev rRef (p : Addr) : Rl := rEqV (.ref p)
def rLst (Rs : List Rl) : Rl := ⟨fun v H => ∃ p vs, v = .ref p ∧ H p = some (.lst vs) ∧ All2 Rs vs H, fun _ _ _ e ⟨p, vs, a, b, c⟩ => ⟨p, vs, a, e _ _ b, c.up e⟩⟩
/-- named things, in order -/
def NR {κ : Type} : List (κ × Rl) → List (κ × V) → Hp → Prop
  | [], [], _ => True
  | (k, R) :: Rs, (k', v) :: vs, H => k = k' ∧ R.r v H ∧ NR Rs vs H
  | _, _, _ => False
theorem NR.up {κ : Type} : ∀ {Rs : List (κ × Rl)} {vs : List (κ × V)} {H H' : Hp}, Same H H' → NR Rs vs H → NR Rs vs H'
  | [], [], _, _, _, _ => trivial
  | (_, R) :: _, (_, _) :: _, _, _, e, ⟨k, a, b⟩ => ⟨k, R.mo _ _ _ e a, NR.up e b⟩
  | [], _ :: _, _, _, _, h => h.elim
  | _ :: _, [], _, _, _, h => h.elim
theorem NR.look : ∀ {Rs : List (Str × Rl)} {vs : List (Str × V)} {H : Hp} {f : Str} {R : Rl}, NR Rs vs H → Rs.lookup f = some R → ∃ v, vs.lookup f = some v ∧ R.r v H
  | [], _, _, _, _, _, e => by cases e
  | (k, S) :: Rs, (k', v) :: vs, H, f, R, ⟨hk, a, b⟩, e => by
    subst hk
    by_cases h : f = k
    · subst h
      rw [List.lookup_cons_self] at e
      cases e
      exact ⟨v, List.lookup_cons_self, a⟩
    · have hb : (f == k) = false := by simpa using h
      rw [List.lookup_cons, hb] at e
      obtain ⟨w, x, y⟩ := NR.look b e
      exact ⟨w, by rw [List.lookup_cons, hb]; exact x, y⟩
  | _ :: _, [], _, _, _, h, _ => h.elim
def rIns (C : Addr) (fs : List (Str × Rl)) : Rl := ⟨fun v H => ∃ p dx vs, v = .ref p ∧ H p = some (.ins C dx vs) ∧ NR fs vs H, fun _ _ _ e ⟨p, dx, vs, a, b, c⟩ => ⟨p, dx, vs, a, e _ _ b, c.up e⟩⟩

/-! ### operators -/
/-- a two-place operation -/
def Bop (F : Fx) (ω : Ow) (f : Value → Value → Sem Value) (A B R : Rl) : Prop :=
  ∃ r : R2, OpR F.X f r ∧ ∀ x y G H, At F ω G H → A.r x G → B.r y G → ∀ Q : VK, (∀ v G2 H2, Same G G2 → At F ω G2 H2 → R.r v G2 → Q v H2) → r x y H Q
def Uop (F : Fx) (ω : Ow) (f : Value → Sem Value) (A R : Rl) : Prop :=
  ∃ r : V → Hp → VK → Prop, UnR F.X f r ∧ ∀ x G H, At F ω G H → A.r x G → ∀ Q : VK, (∀ v G2 H2, Same G G2 → At F ω G2 H2 → R.r v G2 → Q v H2) → r x H Q
def Cop (F : Fx) (ω : Ow) (f : Value) (As : List Rl) (R : Rl) : Prop :=
  ∃ r : List V → Hp → VK → Prop, CallR F.X f r ∧ ∀ xs G H, At F ω G H → All2 As xs G → ∀ Q : VK, (∀ v G2 H2, Same G G2 → At F ω G2 H2 → R.r v G2 → Q v H2) → r xs H Q
def Iop (F : Fx) (ω : Ow) (A B R : Rl) : Prop :=
  ∃ r : R2, IxR F.X r ∧ ∀ x y G H, At F ω G H → A.r x G → B.r y G → ∀ Q : VK, (∀ v G2 H2, Same G G2 → At F ω G2 H2 → R.r v G2 → Q v H2) → r x y H Q
section
variable {F : Fx} {ρ : Ty} {ω w1 w2 w3 : Ow} {a b c e : Expr} {A B C R S : Rl} {pos p : Pos} {x : Str}
theorem er_eq (h : ER F ρ ω e R w1) (k : R = S) : ER F ρ ω e S w1 := k ▸ h
theorem er_var (i : Nat) (h : ρ[i]? = some (some R)) (hN : F.X.N[i]? = some x := by rfl) (hv : Vis F.X.env.scope x := by first | exact Or.inl rfl | exact Or.inr (Or.inl rfl) | exact Or.inr (Or.inr rfl))
    (hd : (x == ("__debug__" : Str)) = false := by decide) (hcd : (x == ("__classdict__" : Str)) = false := by decide) : ER F ρ ω (.Name x pos) R ω := fun σ G H at_ sl Q q => by
  obtain ⟨v, h1, h2⟩ := sl.at_ i R h
  exact ew_of (pe_var hN hv hd hcd) ⟨v, h1, q v G H (Same.refl _) at_ h2⟩
theorem er_int {i : Int} {j : Nat} : ER F ρ ω (.Constant (.int i) j pos) (rInt i) ω := fun σ G H at_ sl Q q => ew_of pe_int (q _ G H (Same.refl _) at_ rfl)
theorem er_bl {i : Bool} {j : Nat} : ER F ρ ω (.Constant (.bool i) j pos) (rBool i) ω := fun σ G H at_ sl Q q => ew_of pe_bl (q _ G H (Same.refl _) at_ rfl)
theorem er_str {i : Str} {j : Nat} : ER F ρ ω (.Constant (.str i) j pos) (rStr i) ω := fun σ G H at_ sl Q q => ew_of pe_str (q _ G H (Same.refl _) at_ rfl)
theorem er_glob {v : V} {u : Value} (hg : Gl F.X x) (hm : F.X.mg x = some u) (r : RelV v u) (hd : (x == ("__debug__" : Str)) = false := by decide) : ER F ρ ω (.Name x pos) (rEqV v) ω :=
  fun σ G H at_ sl Q q => ew_of (pe_glob hg hm r hd) (q _ G H (Same.refl _) at_ rfl)
theorem er_bltn {v : V} {u : Value} (hg : Gl F.X x) (hm : F.X.mg x = none) (hv : bootBuiltins x = some u) (r : RelV v u) (hn : x ≠ "__name__" := by decide) (hd : (x == ("__debug__" : Str)) = false := by decide) : ER F ρ ω (.Name x pos) (rEqV v) ω :=
  fun σ G H at_ sl Q q => ew_of (pe_bltn hg hm hv r hn hd) (q _ G H (Same.refl _) at_ rfl)
theorem er_bin {op : Operator} (ha : ER F ρ ω a A w1) (hb : ER F ρ w1 b B w2) (h : Bop F w2 (binaryOp op) A B R) : ER F ρ ω (.BinOp a op b pos) R w2 := fun σ G H at_ sl Q q => by
  obtain ⟨r, ho, k⟩ := h
  refine ew_of (pe_op ho pe_w pe_w) (ha σ G H at_ sl _ fun x G1 H1 s1 at1 rx => hb σ G1 H1 at1 (sl.up s1) _ fun y G2 H2 s2 at2 ry => ?_)
  exact k x y G2 H2 at2 (A.mo _ _ _ s2 rx) ry Q fun v G3 H3 s3 at3 rv => q v G3 H3 ((s1.trans s2).trans s3) at3 rv
theorem er_un {op : UnaryOp} (ha : ER F ρ ω a A w1) (h : Uop F w1 (unaryOp op) A R) : ER F ρ ω (.UnaryOp op a pos) R w1 := fun σ G H at_ sl Q q => by
  obtain ⟨r, ho, k⟩ := h
  refine ew_of (pe_un ho pe_w) (ha σ G H at_ sl _ fun x G1 H1 s1 at1 rx => ?_)
  exact k x G1 H1 at1 rx Q fun v G3 H3 s3 at3 rv => q v G3 H3 (s1.trans s3) at3 rv
theorem er_cmp {op : CmpOp} (ha : ER F ρ ω a A w1) (hb : ER F ρ w1 b B w2) (h : Bop F w2 (compareOp op) A B R) (hm : behindInMarks op b = false := by first | exact nomark _ | rfl) : ER F ρ ω (.Compare a [op] [b] pos) R w2 := fun σ G H at_ sl Q q => by
  obtain ⟨r, ho, k⟩ := h
  refine ew_of (pe_cmpR ho pe_w pe_w hm) (ha σ G H at_ sl _ fun x G1 H1 s1 at1 rx => hb σ G1 H1 at1 (sl.up s1) _ fun y G2 H2 s2 at2 ry => ?_)
  exact k x y G2 H2 at2 (A.mo _ _ _ s2 rx) ry Q fun v G3 H3 s3 at3 rv => q v G3 H3 ((s1.trans s2).trans s3) at3 rv
theorem tr_cmp {op : CmpOp} {k : Bool} (ha : ER F ρ ω a A w1) (hb : ER F ρ w1 b B w2) (h : Bop F w2 (compareOp op) A B (rBool k)) (hm : behindInMarks op b = false := by first | exact nomark _ | rfl) : TR F ρ ω (.Compare a [op] [b] pos) k w2 := fun σ G H at_ sl Q q => by
  obtain ⟨r, ho, k'⟩ := h
  refine tw_of (pt_cmpR ho pe_w pe_w hm) (ha σ G H at_ sl _ fun x G1 H1 s1 at1 rx => hb σ G1 H1 at1 (sl.up s1) _ fun y G2 H2 s2 at2 ry => ?_)
  exact k' x y G2 H2 at2 (A.mo _ _ _ s2 rx) ry _ fun v G3 H3 s3 at3 rv => ⟨k, rv, q G3 H3 ((s1.trans s2).trans s3) at3⟩
theorem tr_val {k : Bool} (h : ER F ρ ω e (rBool k) w1) (he : ∀ whole, isTrue e F.X.env whole = (do let v ← whole; standAt e.pos; holding [v] (truthy v)) := by intro _; rfl) : TR F ρ ω e k w1 := fun σ G H at_ sl Q q =>
  tw_of (pt_val pe_w he) (h σ G H at_ sl _ fun v G2 H2 s a r => ⟨k, r, q G2 H2 s a⟩)
theorem tr_not {k : Bool} (h : TR F ρ ω e k w1) : TR F ρ ω (.UnaryOp .Not e pos) (!k) w1 := fun σ G H at_ sl Q q => tw_of (pt_not pt_w) (h σ G H at_ sl _ fun G2 H2 s a => q G2 H2 s a)
/-- what comes of the words and, or, if: behind the first operand nothing owned changes -/
def PWR (F : Fx) (ρ : Ty) (ω : Ow) (e : Expr) (k : Bool) (w1 : Ow) : Prop := ∃ t, PW F.X e t ∧ ∀ σ G H, At F ω G H → Slots ρ σ G → ∀ Q : Bool → Hp → Prop, (∀ G2 H2, Same G G2 → At F w1 G2 H2 → Q k H2) → t σ H Q
theorem PWR.tr {k : Bool} (h : PWR F ρ ω e k w1) : TR F ρ ω e k w1 := fun σ G H at_ sl Q q => by
  obtain ⟨t, hp, hk⟩ := h
  exact tw_of hp.pt (hk σ G H at_ sl Q q)
theorem tr_or1 {k : Bool} (h : TR F ρ ω e k w1) : PWR F ρ ω (.BoolOp .Or [e] pos) k w1 := ⟨_, pw_or1 pt_w, h⟩
theorem tr_or {k m : Bool} {rest : List Expr} (h : TR F ρ ω a k w1) (g : k = false → PWR F ρ w1 (.BoolOp .Or (b :: rest) pos) m w1) : PWR F ρ ω (.BoolOp .Or (a :: b :: rest) pos) (k || m) w1 := by
  cases k with
  | false =>
    obtain ⟨t, hp, hk⟩ := g rfl
    exact ⟨_, pw_or pt_w hp, fun σ G H at_ sl Q q => h σ G H at_ sl _ fun G2 H2 s a => iteF (hk σ G2 H2 a (sl.up s) Q fun G3 H3 s3 a3 => q G3 H3 (s.trans s3) a3)⟩
  | true => exact ⟨_, pw_or (tB' := fun _ _ _ => False) pt_w ⟨fun _ _ _ _ _ _ _ h => h.elim⟩, fun σ G H at_ sl Q q => h σ G H at_ sl _ fun G2 H2 s a => iteT (q G2 H2 s a)⟩
theorem er_one {op} (h : ER F ρ ω e R w1) : ER F ρ ω (.BoolOp op [e] pos) R w1 := fun σ G H at_ sl Q q => ew_of (pe_one pe_w) (h σ G H at_ sl Q q)
theorem er_and {k m : Bool} {rest : List Expr} (h : ER F ρ ω a (rBool k) w1) (g : k = true → ER F ρ w1 (.BoolOp .And (b :: rest) pos) (rBool m) w1) : ER F ρ ω (.BoolOp .And (a :: b :: rest) pos) (rBool (k && m)) w1 := fun σ G H at_ sl Q q => by
  refine ew_of (pe_and pe_w pe_w) (h σ G H at_ sl _ fun v G2 H2 s a r => ⟨k, r, ?_⟩)
  cases k with
  | true => exact iteT (g rfl σ G2 H2 a (sl.up s) Q fun v G3 H3 s3 a3 r3 => q v G3 H3 (s.trans s3) a3 r3)
  | false => exact iteF (q _ G2 H2 s a rfl)
theorem er_fld {C : Addr} {fs : List (Str × Rl)} {f : Str} (h : ER F ρ ω e (rIns C fs) w1) (hc : Cls F.X.K C) (hn : NoAttr F.X.K C f) (hl : fs.lookup f = some R) (hb : attributeBase e f F.X.env (eval e F.X.env) = eval e F.X.env := by rfl) :
    ER F ρ ω (.Attribute e f pos) R w1 := fun σ G H at_ sl Q q => by
  refine ew_of (pe_fld pe_w hb) (h σ G H at_ sl _ fun v G2 H2 s a r => ?_)
  obtain ⟨p, dx, vs, rfl, h1, h2⟩ := r
  obtain ⟨w, h3, h4⟩ := h2.look hl
  exact ⟨p, C, dx, vs, w, rfl, a.gh _ _ h1, hc, hn, h3, q w G2 H2 s a h4⟩
theorem ar_nil : AR F ρ ω [] [] ω := fun σ G H at_ sl Q q => aw_of pa_nil (q [] G H (Same.refl _) at_ trivial)
theorem ar_cons {es : List Expr} {Rs : List Rl} (h : ER F ρ ω e R w1) (hr : AR F ρ w1 es Rs w2) (hs : starEach (e :: es) F.X.env = (false, eval e F.X.env) :: starEach es F.X.env := by rfl) : AR F ρ ω (e :: es) (R :: Rs) w2 := fun σ G H at_ sl Q q => by
  refine aw_of (pa_cons pe_w pa_w hs) (h σ G H at_ sl _ fun v G2 H2 s a r => hr σ G2 H2 a (sl.up s) _ fun vs G3 H3 s3 a3 r3 => q _ G3 H3 (s.trans s3) a3 ⟨R.mo _ _ _ s3 r, r3⟩)
theorem er_lst {es : List Expr} {Rs : List Rl} (h : AR F ρ ω es Rs w1) (hz : Rs.length ≤ 1000) : ER F ρ ω (.List es pos) (rLst Rs) w1 := fun σ G H at_ sl Q q => by
  refine ew_of (pe_lst pa_w) (h σ G H at_ sl _ fun vs G2 H2 s a r => ⟨Nat.le_of_lt (small1000 (by rw [← r.len]; exact hz)), fun p hp => ?_⟩)
  have st := Step.new (o := .lst vs) a.gh hp
  exact q _ _ _ (s.trans st.gg) (a.step st) ⟨p, vs, rfl, upd_same, r.up st.gg⟩
theorem er_ix (ha : ER F ρ ω a A w1) (hb : ER F ρ w1 b B w2) (h : Iop F w2 A B R) (hs : PlainIx b := by exact fun _ _ => rfl) : ER F ρ ω (.Subscript a b pos) R w2 := fun σ G H at_ sl Q q => by
  obtain ⟨r, ho, k⟩ := h
  refine ew_of (pe_ix ho pe_w pe_w hs) (ha σ G H at_ sl _ fun x G1 H1 s1 at1 rx => hb σ G1 H1 at1 (sl.up s1) _ fun y G2 H2 s2 at2 ry => ?_)
  exact k x y G2 H2 at2 (A.mo _ _ _ s2 rx) ry Q fun v G3 H3 s3 at3 rv => q v G3 H3 ((s1.trans s2).trans s3) at3 rv
theorem er_callB {id : String} {As : List Rl} {es : List Expr} (hc : Cop F w1 (.builtin id) As R) (hg : Gl F.X x) (hm : F.X.mg x = none) (hv : bootBuiltins x = some (.builtin id)) (ha : AR F ρ ω (e :: es) As w1) (hn : x ≠ "__name__" := by decide) (hdb : (x == ("__debug__" : Str)) = false := by decide)
    (he : starEach (e :: es) F.X.env = (false, eval e F.X.env) :: starEach es F.X.env := by rfl) (hpl : (backTo pos (starEach es F.X.env)).any (·.1) = false := by rfl) : ER F ρ ω (.Call (.Name x p) (e :: es) [] pos) R w1 := fun σ G H at_ sl Q q => by
  obtain ⟨r, ho, k⟩ := hc
  refine ew_of (pe_callB ho hg hm hv pa_w hn hdb he hpl) (ha σ G H at_ sl _ fun vs G2 H2 s a r => ?_)
  exact k vs G2 H2 a r Q fun v G3 H3 s3 a3 r3 => q v G3 H3 (s.trans s3) a3 r3
theorem er_callTy {id : String} {As : List Rl} {es : List Expr} (hc : Cop F w1 (.type id) As R) (hg : Gl F.X x) (hm : F.X.mg x = none) (hv : bootBuiltins x = some (.type id)) (ha : AR F ρ ω (e :: es) As w1) (hn : x ≠ "__name__" := by decide) (hdb : (x == ("__debug__" : Str)) = false := by decide)
    (he : starEach (e :: es) F.X.env = (false, eval e F.X.env) :: starEach es F.X.env := by rfl) (hpl : (backTo pos (starEach es F.X.env)).any (·.1) = false := by rfl) : ER F ρ ω (.Call (.Name x p) (e :: es) [] pos) R w1 := fun σ G H at_ sl Q q => by
  obtain ⟨r, ho, k⟩ := hc
  refine ew_of (pe_callTy ho hg hm hv pa_w hn hdb he hpl) (ha σ G H at_ sl _ fun vs G2 H2 s a r => ?_)
  exact k vs G2 H2 a r Q fun v G3 H3 s3 a3 r3 => q v G3 H3 (s.trans s3) a3 r3
end
end W1
set_option maxRecDepth 100000
set_option maxHeartbeats 2000000
namespace W1
open PySem PySem.Spec PyProof.Rows L2

section
variable {F : Fx} {ω : Ow} {A B R : Rl}
theorem bop_of {f : Value → Value → Sem Value} {r : R2} {x y z : V} (ho : OpR F.X f r) (h : ∀ (H : Hp) (Q : VK), Q z H → r x y H Q) : Bop F ω f (rEqV x) (rEqV y) (rEqV z) :=
  ⟨r, ho, fun x' y' G H at_ hx hy Q q => by
    have e1 : x' = x := hx
    have e2 : y' = y := hy
    subst e1 e2
    exact h H Q (q z G H (Same.refl _) at_ rfl)⟩
theorem uop_of {f : Value → Sem Value} {r : V → Hp → VK → Prop} {x z : V} (ho : UnR F.X f r) (h : ∀ (H : Hp) (Q : VK), Q z H → r x H Q) : Uop F ω f (rEqV x) (rEqV z) :=
  ⟨r, ho, fun x' G H at_ hx Q q => by
    have e1 : x' = x := hx
    subst e1
    exact h H Q (q z G H (Same.refl _) at_ rfl)⟩
theorem cop_of1 {f : Value} {r : List V → Hp → VK → Prop} {x z : V} (ho : CallR F.X f r) (h : ∀ (H : Hp) (Q : VK), Q z H → r [x] H Q) : Cop F ω f [rEqV x] (rEqV z) :=
  ⟨r, ho, fun xs G H at_ hx Q q => by
    match xs, hx with
    | [x'], ⟨e, _⟩ =>
      have e1 : x' = x := e
      subst e1
      exact h H Q (q z G H (Same.refl _) at_ rfl)⟩
/-! ints -/
theorem op_mulZ {X : Cx} : OpR X (binaryOp .Mult) (rI IntMulOk fun i j => .int (i * j)) := opI fun _ _ _ _ _ _ _ hc q => mul_int q hc
def CDivZ (_ j : Int) : Prop := j ≠ 0 ∧ j.natAbs.log2 < 9000
theorem op_fdivZ {X : Cx} : OpR X (binaryOp .FloorDiv) (rI CDivZ fun i j => .int (i.fdiv j)) := opI fun _ _ _ _ _ _ _ hc q => floordiv_int hc.1 q (.inl (PyProof.noPylong_of_log2 hc.2))
theorem bop_add {i j : Int} : Bop F ω (binaryOp .Add) (rInt i) (rInt j) (rInt (i + j)) := bop_of op_add fun _ _ q => ⟨i, j, rfl, rfl, q⟩
theorem bop_sub {i j : Int} : Bop F ω (binaryOp .Sub) (rInt i) (rInt j) (rInt (i - j)) := bop_of op_sub fun _ _ q => ⟨i, j, rfl, rfl, q⟩
theorem bop_mul {i j : Int} (h : IntMulOk i j) : Bop F ω (binaryOp .Mult) (rInt i) (rInt j) (rInt (i * j)) := bop_of op_mulZ fun _ _ q => ⟨i, j, rfl, rfl, h, q⟩
theorem bop_fdiv {i j : Int} (h : CDivZ i j) : Bop F ω (binaryOp .FloorDiv) (rInt i) (rInt j) (rInt (i.fdiv j)) := bop_of op_fdivZ fun _ _ q => ⟨i, j, rfl, rfl, h, q⟩
theorem bop_mod {i j : Int} (h : j ≠ 0) : Bop F ω (binaryOp .Mod) (rInt i) (rInt j) (rInt (i.fmod j)) := bop_of op_modN fun _ _ q => ⟨i, j, rfl, rfl, h, q⟩
theorem bop_pow {i j : Int} (h : CPow i j) : Bop F ω (binaryOp .Pow) (rInt i) (rInt j) (rInt (i ^ j.toNat)) := bop_of op_pow fun _ _ q => ⟨i, j, rfl, rfl, h, q⟩
theorem bop_lt {i j : Int} : Bop F ω (compareOp .Lt) (rInt i) (rInt j) (rBool (decide (i < j))) := bop_of op_lt fun _ _ q => ⟨i, j, rfl, rfl, q⟩
theorem bop_ge {i j : Int} : Bop F ω (compareOp .GtE) (rInt i) (rInt j) (rBool (decide (j ≤ i))) := bop_of op_ge fun _ _ q => ⟨i, j, rfl, rfl, q⟩
theorem bop_eq {x y : V} (h : scal x y = true) : Bop F ω (compareOp .Eq) (rEqV x) (rEqV y) (rBool (decide (x = y))) := bop_of op_eq fun _ _ q => ⟨h, q⟩
theorem bop_ne {x y : V} (h : scal x y = true) : Bop F ω (compareOp .NotEq) (rEqV x) (rEqV y) (rBool (!decide (x = y))) := bop_of op_ne fun _ _ q => ⟨h, q⟩
theorem dec_i {i j : Int} : decide (V.int i = V.int j) = decide (i = j) := by
  by_cases h : i = j
  · subst h; simp
  · rw [decide_eq_false h, decide_eq_false (fun e => h (V.int.inj e))]
theorem bop_eqI {i j : Int} : Bop F ω (compareOp .Eq) (rInt i) (rInt j) (rBool (decide (i = j))) := by rw [← dec_i]; exact bop_eq rfl
theorem bop_neI {i j : Int} : Bop F ω (compareOp .NotEq) (rInt i) (rInt j) (rBool (!decide (i = j))) := by rw [← dec_i]; exact bop_ne rfl
theorem uop_neg {i : Int} : Uop F ω (unaryOp .USub) (rInt i) (rInt (-i)) := uop_of un_neg fun _ _ q => ⟨i, rfl, q⟩
theorem cop_abs {i : Int} : Cop F ω (.builtin "abs") [rInt i] (rInt (if i < 0 then -i else i)) := cop_of1 call_abs fun _ _ q => ⟨i, rfl, q⟩
theorem cop_int {i : Int} : Cop F ω (.type "int") [rInt i] (rInt i) := cop_of1 call_int1 fun _ _ q => .inl ⟨i, rfl, q⟩
theorem cop_strI {i : Int} (h : i.natAbs.log2 < 1920) : Cop F ω (.type "str") [rInt i] (rStr (toString i)) := cop_of1 call_str_int fun _ _ q => ⟨i, rfl, h, q⟩
/-! lists -/
theorem all1 {R : Rl} {vs : List V} {H : Hp} (h : All2 [R] vs H) : ∃ v, vs = [v] ∧ R.r v H := by
  match vs, h with
  | [v], ⟨a, _⟩ => exact ⟨v, rfl, a⟩
theorem all2 {R S : Rl} {vs : List V} {H : Hp} (h : All2 [R, S] vs H) : ∃ v w, vs = [v, w] ∧ R.r v H ∧ S.r w H := by
  match vs, h with
  | [v, w], ⟨a, b, _⟩ => exact ⟨v, w, rfl, a, b⟩
theorem iop_L {Rs : List Rl} {i : Int} {n : Nat} (e : ixN Rs.length i = some n) (h : Rs[n]? = some R) : Iop F ω (rLst Rs) (rInt i) R :=
  ⟨_, ix_list, fun x y G H at_ hx hy Q q => by
    obtain ⟨p, vs, rfl, h1, h2⟩ := hx
    obtain ⟨v, h3, h4⟩ := h2.get h
    have e2 : y = V.int i := hy
    refine ⟨p, vs, i, v, rfl, e2, SqL.of (at_.gh _ _ h1), ?_, q v G H (Same.refl _) at_ h4⟩
    unfold atI
    rw [← h2.len, e]
    exact h3⟩
end

end W1
set_option maxRecDepth 100000
set_option maxHeartbeats 2000000
namespace W1
open PySem PySem.Spec PyProof.Rows L2

/-! ### what may come behind -/
structure Kn where
  nx : Ty → Ow → Prop := fun _ _ => False
  rt : Rl → Ow → Prop := fun _ _ => False
  bk : Ty → Ow → Prop := fun _ _ => False
  ct : Ty → Ow → Prop := fun _ _ => False
  ex : Ty → Ow → Er → Prop := fun _ _ _ => False
structure Post (F : Fx) (K : Kn) (D : Ends) (G : Hp) : Prop where
  nx : ∀ ρ ω, K.nx ρ ω → ∀ σ G' H', Same G G' → At F ω G' H' → Slots ρ σ G' → D.nx σ H'
  rt : ∀ R ω, K.rt R ω → ∀ v G' H', Same G G' → At F ω G' H' → R.r v G' → D.rt v H'
  bk : ∀ ρ ω, K.bk ρ ω → ∀ σ G' H', Same G G' → At F ω G' H' → Slots ρ σ G' → D.bk σ H'
  ct : ∀ ρ ω, K.ct ρ ω → ∀ σ G' H', Same G G' → At F ω G' H' → Slots ρ σ G' → D.ct σ H'
  ex : ∀ ρ ω P, K.ex ρ ω P → ∀ cls d σ G' H', Same G G' → At F ω G' H' → Slots ρ σ G' → P cls d G' → F.W cls d σ H'
theorem Post.up {F : Fx} {K : Kn} {D : Ends} {G G1 : Hp} (p : Post F K D G) (e : Same G G1) : Post F K D G1 where
  nx := fun ρ ω k σ G' H' s => p.nx ρ ω k σ G' H' (e.trans s)
  rt := fun R ω k v G' H' s => p.rt R ω k v G' H' (e.trans s)
  bk := fun ρ ω k σ G' H' s => p.bk ρ ω k σ G' H' (e.trans s)
  ct := fun ρ ω k σ G' H' s => p.ct ρ ω k σ G' H' (e.trans s)
  ex := fun ρ ω P k cls d σ G' H' s => p.ex ρ ω P k cls d σ G' H' (e.trans s)
def HB (F : Fx) (ρ : Ty) (ω : Ow) (sts : List Stmt) (K : Kn) : Prop :=
  ∀ σ G H D, At F ω G H → Slots ρ σ G → Post F K D G → BW F.X sts D σ H
section
variable {F : Fx} {ρ : Ty} {ω w1 w2 : Ow} {K : Kn} {rest : List Stmt} {st : Stmt} {e c : Expr} {R : Rl} {pos p : Pos} {x : Str}
theorem hb_nil (h : K.nx ρ ω) : HB F ρ ω [] K := fun σ G H D at_ sl ps => bw_of pss_nil (ps.nx ρ ω h σ G H (Same.refl _) at_ sl)
/-- one statement, then the rest -/
theorem hb_cons (h : ∀ σ G H D, At F ω G H → Slots ρ σ G → Post F K D G → SW F.X st { D with nx := BW F.X rest D } σ H) : HB F ρ ω (st :: rest) K := fun σ G H D at_ sl ps =>
  bw_of (pss_cons ps_w pss_w) (h σ G H D at_ sl ps)
theorem hb_set (i : Nat) (he : ER F ρ ω e R w1) (h : HB F (ρ.set i (some R)) w1 rest K) (hN : F.X.N.Nodup) (hi : F.X.N[i]? = some x := by rfl) (hx : Loc F.X.env.scope x := by first | exact Or.inl rfl | exact Or.inr rfl)
    (hs : swapsWith e (some (.Name x p)) pos.line F.X.env = pure false := by rfl) (hf : F.X.fn x = true ∨ F.X.env.scope.names.lookup x = some .local := by first | exact .inl rfl | exact .inr rfl | assumption) :
    HB F ρ ω (.Assign [.Name x p] e pos :: rest) K := hb_cons fun σ G H D at_ sl ps =>
  sw_of (ps_set hN hi hx pe_w hs hf) (he σ G H at_ sl _ fun v G2 H2 s a r => h _ G2 H2 D a ((sl.up s).set i r) (ps.up s))
theorem hb_ret (he : ER F ρ ω e R w1) (h : K.rt R w1) : HB F ρ ω (.Return (some e) pos :: rest) K := hb_cons fun σ G H D at_ sl ps =>
  sw_of (ps_ret pe_w) (he σ G H at_ sl _ fun v G2 H2 s a r => ps.rt R w1 h v G2 H2 s a r)
/-- behind: the rest -/
def Kn.then (K : Kn) (F : Fx) (rest : List Stmt) : Kn := { K with nx := fun ρ ω => HB F ρ ω rest K }
theorem Post.then {D : Ends} {G : Hp} (ps : Post F K D G) : Post F (K.then F rest) { D with nx := BW F.X rest D } G :=
  ⟨fun ρ ω k σ G' H' s a sl => k σ G' H' D a sl (ps.up s), ps.rt, ps.bk, ps.ct, ps.ex⟩
theorem hb_if {b : Bool} {th el : List Stmt} (hc : TR F ρ ω c b w1) (h1 : b = true → HB F ρ w1 th (K.then F rest)) (h2 : b = false → HB F ρ w1 el (K.then F rest)) : HB F ρ ω (.If c th el pos :: rest) K := hb_cons fun σ G H D at_ sl ps =>
  sw_of (ps_if pt_w pss_w pss_w) (hc σ G H at_ sl _ fun G2 H2 s a => by
    cases b with
    | true => exact iteT (h1 rfl σ G2 H2 _ a (sl.up s) (ps.up s).then)
    | false => exact iteF (h2 rfl σ G2 H2 _ a (sl.up s) (ps.up s).then))
/-- loops -/
def Kn.loop (K : Kn) (F : Fx) (rest : List Stmt) (N : Ty → Ow → Prop) : Kn := { nx := N, ct := N, bk := fun ρ ω => HB F ρ ω rest K, rt := K.rt, ex := K.ex }
theorem hb_while {body : List Stmt} (I : Nat → Ty → Ow → Prop) (m0 : Nat) (h0 : I m0 ρ ω)
    (hs : ∀ m ρ ω, I m ρ ω → ∃ b w1, TR F ρ ω c b w1 ∧ (b = true → HB F ρ w1 body (K.loop F rest fun ρ' ω' => ∃ m', m' < m ∧ I m' ρ' ω')) ∧ (b = false → HB F ρ w1 rest K))
    (hp : PassesOwn (model F.X.prog F.X.w) F.X.A F.X.env F.X.xe) : HB F ρ ω (.While c body [] pos :: rest) K := hb_cons fun σ G H D at_ sl ps => by
  refine sw_of (ps_while hp pt_w pss_w) ⟨fun m σ H => ∃ ρ ω G, I m ρ ω ∧ At F ω G H ∧ Slots ρ σ G ∧ Post F K D G, ⟨m0, ρ, ω, G, h0, at_, sl, ps⟩, ?_⟩
  rintro m σ1 H1 ⟨ρ1, ω1, G1, i1, a1, sl1, ps1⟩
  obtain ⟨b, w1, hc, ht, hf⟩ := hs m ρ1 ω1 i1
  refine hc σ1 G1 H1 a1 sl1 _ fun G2 H2 s2 a2 => ?_
  cases b with
  | true =>
    refine iteT ⟨fun σ' H' => ∃ m', m' < m ∧ ∃ ρ ω G, I m' ρ ω ∧ At F ω G H' ∧ Slots ρ σ' G ∧ Post F K D G, fun σ' H' z => z, ?_⟩
    refine ht rfl σ1 G2 H2 _ a2 (sl1.up s2) ⟨fun ρ ω ⟨m', l, i'⟩ σ' G' H' s a sl => ⟨m', l, ρ, ω, G', i', a, sl, (ps1.up s2).up s⟩, (ps1.up s2).rt, fun ρ ω k σ' G' H' s a sl => k σ' G' H' D a sl ((ps1.up s2).up s), fun ρ ω ⟨m', l, i'⟩ σ' G' H' s a sl => ⟨m', l, ρ, ω, G', i', a, sl, (ps1.up s2).up s⟩, (ps1.up s2).ex⟩
  | false => exact iteF (hf rfl σ1 G2 H2 D a2 (sl1.up s2) (ps1.up s2))
end

/-! ### what a loop walks -/
structure Yld (J : It) (Rs : List Rl) (G : Hp) : Prop where
  go : ∀ i G' H', Same G G' → Same G' H' → i < Rs.length → J.go i H'
  stop : ∀ G' H', Same G G' → Same G' H' → J.stop Rs.length H'
  yld : ∀ (i : Nat) (R : Rl) G' H' x H'', Same G G' → Same G' H' → Rs[i]? = some R → J.yld i H' x H'' → ∃ G'', Step G' H' G'' H'' ∧ R.r x G''
theorem Yld.up {J : It} {Rs : List Rl} {G G1 : Hp} (y : Yld J Rs G) (e : Same G G1) : Yld J Rs G1 :=
  ⟨fun i G' H' s => y.go i G' H' (e.trans s), fun G' H' s => y.stop G' H' (e.trans s), fun i R G' H' x H'' s => y.yld i R G' H' x H'' (e.trans s)⟩
def IT (F : Fx) (ρ : Ty) (ω : Ow) (tg it : Expr) (Rs : List Rl) (w1 : Ow) : Prop :=
  ∃ wi, PI F.X tg it wi ∧ ∀ σ G H, At F ω G H → Slots ρ σ G → ∀ R : It → Hp → Prop, (∀ J G2 H2, Same G G2 → At F w1 G2 H2 → Yld J Rs G2 → R J H2) → wi σ H R
/-- what a target does to the slots -/
def GE (g : TG) (ρ : Ty) (S : Rl) (ρ' : Ty) : Prop :=
  ∀ v σ G H (Q : L2.St → Hp → Prop), Same G H → Slots ρ σ G → S.r v G → (∀ σ', Slots ρ' σ' G → Q σ' H) → g v σ H Q
def GEs (g : TGs) (ρ : Ty) (Rs : List Rl) (ρ' : Ty) : Prop :=
  ∀ vs σ G H (Q : L2.St → Hp → Prop), Same G H → Slots ρ σ G → All2 Rs vs G → (∀ σ', Slots ρ' σ' G → Q σ' H) → g vs σ H Q
section
variable {F : Fx} {X : Cx} {ρ ρ1 ρ2 : Ty} {ω w1 w2 : Ow} {K : Kn} {rest : List Stmt} {e e2 it tg : Expr} {R S : Rl} {pos p : Pos} {x : Str} {Rs Ss : List Rl}
theorem ge_name {i : Nat} : GE (gName i) ρ S (ρ.set i (some S)) := fun v σ G H Q s sl r q => q _ (sl.set i r)
theorem ges_nil : GEs gNil ρ [] ρ := fun vs σ G H Q s sl r q => by
  match vs, r with
  | [], _ => exact ⟨rfl, q _ sl⟩
theorem ges_cons {g : TG} {gs : TGs} (h1 : GE g ρ R ρ1) (h2 : GEs gs ρ1 Rs ρ2) : GEs (gCons g gs) ρ (R :: Rs) ρ2 := fun vs σ G H Q s sl r q => by
  match vs, r with
  | v :: vs, ⟨r1, r2⟩ => exact ⟨v, vs, rfl, h1 v σ G H _ s sl r1 fun σ' sl' => h2 vs σ' G H Q s sl' r2 q⟩
theorem hb_asg {g : TG} (he : ER F ρ ω e R w1) (pg : PG F.X tg g) (hg : GE g ρ R ρ1) (h : HB F ρ1 w1 rest K) (hs : swapsWithSole [tg] e pos.line F.X.env = pure false := by rfl) (hw : swappedStores [tg] e F.X.env = pure none := by rfl)
    (h1 : (assignEach [tg] F.X.env).map (·.2) = [assign tg F.X.env] := by rfl) : HB F ρ ω (.Assign [tg] e pos :: rest) K := hb_cons fun σ G H D at_ sl ps =>
  sw_of (ps_asg pe_w pg hs hw h1) (he σ G H at_ sl _ fun v G2 H2 s a r => hg v σ G2 H2 _ a.gh (sl.up s) r fun σ' sl' => h σ' G2 H2 D a sl' (ps.up s))
/-- a, b = e1, e2 -/
theorem hb_par {x y : Str} {a b : Expr} {px py pt : Pos} {kt k2 pt2} (i j : Nat) (ha : AR F ρ ω [a, b] [R, S] w1) (h : HB F ((ρ.set i (some R)).set j (some S)) w1 rest K) (hN : F.X.N.Nodup) (hij : i ≠ j := by decide) (hi : F.X.N[i]? = some x := by rfl) (hj : F.X.N[j]? = some y := by rfl)
    (hx : F.X.env.scope.names.lookup x = some .local := by rfl) (hy : F.X.env.scope.names.lookup y = some .local := by rfl) (hc : F.X.calm = true := by rfl)
    (hw : swappedStores [.Tuple [.Name x px, .Name y py] kt pt] (.Tuple [a, b] k2 pt2) F.X.env = pure (some [x, y]) := by rfl)
    (hs : swapsWithSole [.Tuple [.Name x px, .Name y py] kt pt] (.Tuple [a, b] k2 pt2) pos.line F.X.env = pure false := by rfl) :
    HB F ρ ω (.Assign [.Tuple [.Name x px, .Name y py] kt pt] (.Tuple [a, b] k2 pt2) pos :: rest) K := hb_cons fun σ G H D at_ sl ps => by
  refine sw_of (ps_par hc hN hi hj hij hx hy pa_w hw hs) (ha σ G H at_ sl _ fun vs G2 H2 s a r => ?_)
  obtain ⟨v, w, rfl, r1, r2⟩ := all2 r
  exact ⟨v, w, rfl, h _ G2 H2 D a (((sl.up s).set i r1).set j r2) (ps.up s)⟩
/-! lists, tuples, ranges, pairs -/
def rng (lo : Int) (n : Nat) : List Rl := (List.range n).map fun (k : Nat) => rInt (lo + (k : Int))
theorem rng_len {lo : Int} {n : Nat} : (rng lo n).length = n := by unfold rng; rw [List.length_map, List.length_range]
theorem yld_rng {lo : Int} {n : Nat} {G : Hp} : Yld (Itr lo n) (rng lo n) G :=
  ⟨fun i _ _ _ _ hi => by rw [rng_len] at hi; exact hi, fun _ _ _ _ => by rw [rng_len]; exact Nat.le_refl n, fun i R G' H' x H'' s1 s2 hR y => by
    obtain ⟨rfl, rfl⟩ := y
    unfold rng at hR
    rw [List.getElem?_map] at hR
    cases h : (List.range n)[i]? with
    | none => rw [h] at hR; cases hR
    | some k =>
      rw [h] at hR
      have ek : k = i := by
        obtain ⟨hl, e⟩ := List.getElem?_eq_some_iff.mp h
        rw [List.getElem_range] at e
        exact e.symm
      subst ek
      cases hR
      exact ⟨G', Step.refl s2, rfl⟩⟩
theorem it_rng1 {n : Int} (he : AR F ρ ω [e] [rInt n] w1) (hg : Gl F.X "range") (hm : F.X.mg "range" = none) (hn : -(2 ^ 62) ≤ n ∧ n < 2 ^ 62) (hs : starEach [e] F.X.env = [(false, eval e F.X.env)] := by rfl) : IT F ρ ω tg (.Call (.Name "range" p) [e] [] pos) (rng 0 n.toNat) w1 :=
  ⟨_, pi_range1 hg hm pa_w hs, fun σ G H at_ sl R k => he σ G H at_ sl _ fun v G2 H2 s a r => by
    obtain ⟨y, rfl, ey⟩ := all1 r
    cases (show y = V.int n from ey)
    exact ⟨n, rfl, hn.1, hn.2, k _ G2 H2 s a yld_rng⟩⟩
/-- the loop -/
theorem hb_for {g : TG} {body : List Stmt} (hit : IT F ρ ω tg it Rs w1) (I : Nat → Ty → Ow → Prop) (h0 : I 0 ρ w1)
    (hs : ∀ (k : Nat) ρ ω (S : Rl), Rs[k]? = some S → I k ρ ω → ∃ ρ', GE g ρ S ρ' ∧ HB F ρ' ω body (K.loop F rest (I (k + 1)))) (hd : ∀ ρ ω, I Rs.length ρ ω → HB F ρ ω rest K)
    (hp : PassesOwn (model F.X.prog F.X.w) F.X.A F.X.env F.X.xe) (hpg : PG F.X tg g) (hc : F.X.calm = true := by rfl)
    (hfs : ∀ z, foldedSetIterable it F.X.env z = pure z := by intro _; rfl) : HB F ρ ω (.For tg it body [] pos :: rest) K := hb_cons fun σ G H D at_ sl ps => by
  obtain ⟨wi, hpi, hwi⟩ := hit
  refine sw_of (ps_for hp hc hpi hpg pss_w hfs) (hwi σ G H at_ sl _ fun J G2 H2 s2 a2 y2 => ?_)
  refine ⟨fun i m σ H => m = Rs.length - i ∧ i ≤ Rs.length ∧ ∃ ρ ω G, I i ρ ω ∧ At F ω G H ∧ Slots ρ σ G ∧ Same G2 G ∧ Post F K D G, ⟨Rs.length, by simp, Nat.zero_le _, ρ, w1, G2, h0, a2, sl.up s2, Same.refl _, ps.up s2⟩, ?_⟩
  rintro i m σ1 H1 ⟨rfl, hi, ρ1, ω1, G1, i1, a1, sl1, s1, ps1⟩
  by_cases hlt : i < Rs.length
  · refine .inr ⟨y2.go i G1 H1 s1 a1.gh hlt, fun σ' H' => ∃ ρ ω G, I (i + 1) ρ ω ∧ At F ω G H' ∧ Slots ρ σ' G ∧ Same G2 G ∧ Post F K D G, fun σ' H' z => ⟨Rs.length - (i + 1), by omega, rfl, hlt, z⟩, fun x H' y => ?_⟩
    obtain ⟨G3, st, rx⟩ := y2.yld i Rs[i] G1 H1 x H' s1 a1.gh (List.getElem?_eq_getElem hlt) y
    obtain ⟨ρ', ga, hb⟩ := hs i ρ1 ω1 Rs[i] (List.getElem?_eq_getElem hlt) i1
    have a3 := a1.step st
    refine ga x σ1 G3 H' _ a3.gh (sl1.up st.gg) rx fun σ2 sl2 => ?_
    have ps3 := ps1.up st.gg
    have s3 : Same G2 G3 := s1.trans st.gg
    exact hb σ2 G3 H' _ a3 sl2 ⟨fun ρ ω i' σ' G' H' s a sl => ⟨ρ, ω, G', i', a, sl, s3.trans s, ps3.up s⟩, ps3.rt, fun ρ ω k' σ' G' H' s a sl => k' σ' G' H' D a sl (ps3.up s), fun ρ ω i' σ' G' H' s a sl => ⟨ρ, ω, G', i', a, sl, s3.trans s, ps3.up s⟩, ps3.ex⟩
  · have e : i = Rs.length := by omega
    subst e
    exact .inl ⟨y2.stop G1 H1 s1 a1.gh, hd ρ1 ω1 i1 σ1 G1 H1 D a1 sl1 ps1⟩
end
end W1
set_option maxRecDepth 100000
set_option maxHeartbeats 2000000
namespace W1
open PySem PySem.Spec PyProof.Rows L2

/-! ### promises -/
/-- what is owned, in a heap -/
def Has (ω : Ow) (G H : Hp) : Prop := ∀ p ∈ ω, G p.1 = none ∧ ∃ o, H p.1 = some o ∧ p.2.c o G
structure StepM (M : List Addr) (G H G' H' : Hp) : Prop where
  gg : Same G G'
  hh : ∀ a o, a ∉ M → H a = some o → H' a = some o
  gh : Same G' H'
  fr : ∀ a, H a ≠ none → G a = none → G' a = none
abbrev Pre := List Rl → Ow → Out → Ow → Prop
def keys (ω : Ow) : List Addr := ω.map (·.1)
/-- a def's promise: from the relations of the arguments and what is handed over, what comes out and what becomes of what was handed over -/
def spM (pre : Pre) : Sp := fun vs H Q E => ∃ Rs ω o ω' G, pre Rs ω o ω' ∧ Same G H ∧ All2 Rs vs G ∧ Has ω G H ∧ (keys ω).Nodup ∧ keys ω' = keys ω ∧
  (match o with
    | .ok R => ∀ v G' H', StepM (keys ω) G H G' H' → Has ω' G' H' → R.r v G' → Q v H'
    | .error P => ∀ cls d G' H', StepM (keys ω) G H G' H' → Has ω' G' H' → P cls d G' → E cls d H')
/-- what a body is to come to -/
def Kf (o : Out) (ω' : Ow) : Kn where
  nx := fun _ w => ∃ R w0, o = .ok R ∧ (∀ G, R.r .non G) ∧ w = ω' ++ w0
  rt := fun S w => ∃ R w0, o = .ok R ∧ (∀ v G, S.r v G → R.r v G) ∧ w = ω' ++ w0
  ex := fun _ w P => ∃ P' w0, o = .error P' ∧ (∀ cls d G, P cls d G → P' cls d G) ∧ w = ω' ++ w0
theorem Has.left {ω w : Ow} {G H : Hp} (h : Has (ω ++ w) G H) : Has ω G H := fun p hp => h p (List.mem_append_left _ hp)
theorem At.has {F : Fx} {ω : Ow} {G H : Hp} (a : At F ω G H) : Has ω G H := fun p hp => let ⟨x, _, z⟩ := a.ow p hp; ⟨x, z⟩
theorem At.stepM {F : Fx} {wc wc' w : Ow} {G H G' H' : Hp} (a : At F (wc ++ w) G H) (s : StepM (keys wc) G H G' H') (h : Has wc' G' H') (hk : keys wc' = keys wc) : At F (wc' ++ w) G' H' := by
  have own : ∀ b ∈ keys wc, G b = none ∧ (F.H0 b = none ∨ b ∈ F.M) ∧ H b ≠ none := fun b hb => by
    obtain ⟨p, hp, e⟩ := List.mem_map.mp hb
    obtain ⟨x, y, o, z, _⟩ := a.ow p (List.mem_append_left _ hp)
    exact ⟨by rw [← e]; exact x, by rw [← e]; exact y, by rw [← e, z]; simp⟩
  have nd := a.nd
  rw [List.map_append] at nd
  have kk : ∀ b, b ∈ keys wc → H' b ≠ none := fun b hb => by
    rw [← hk] at hb
    obtain ⟨p, hp, e⟩ := List.mem_map.mp hb
    obtain ⟨_, o, z, _⟩ := h p hp
    rw [← e, z]
    simp
  refine ⟨a.gg.trans s.gg, fun b o hb e => ?_, s.gh, fun b h1 h2 => ?_, fun b hb => ?_, fun p hp => ?_, ?_⟩
  · refine s.hh b o (fun hm => ?_) (a.hh b o hb e)
    rcases (own b hm).2.1 with z | z
    · rw [z] at e; cases e
    · exact hb z
  · refine s.fr b ?_ (a.fr b h1 h2)
    by_cases hb : b ∈ F.M
    · exact a.mm b hb
    · cases e : F.H0 b with
      | none => exact absurd e h1
      | some o => rw [a.hh b o hb e]; simp
  · by_cases hm : b ∈ keys wc
    · exact kk b hm
    · cases e : H b with
      | none => exact absurd e (a.mm b hb)
      | some o => rw [s.hh b o hm e]; simp
  · rcases List.mem_append.mp hp with hp | hp
    · obtain ⟨x, o, y, z⟩ := h p hp
      refine ⟨x, ?_, o, y, z⟩
      have hm : p.1 ∈ keys wc := by rw [← hk]; exact List.mem_map_of_mem hp
      exact (own p.1 hm).2.1
    · obtain ⟨x, y, o, z, c⟩ := a.ow p (List.mem_append_right _ hp)
      have hm : p.1 ∉ keys wc := fun hm => by
        have := (List.nodup_append.mp nd).2.2 p.1 hm p.1 (List.mem_map_of_mem hp)
        exact this rfl
      exact ⟨s.fr p.1 (by rw [z]; simp) x, y, o, s.hh _ _ hm z, p.2.mo _ _ _ s.gg c⟩
  · rw [List.map_append]
    show (keys wc' ++ keys w).Nodup
    rw [hk]
    exact nd
/-- a body keeps the promise -/
theorem fn_ok {P : Program} {w : World} {K : PySem.W.Frag} {mg : Str → Option Value} {base : Heap} {x qual : Str} {st : Stmt} {f : Addr} {fd : FuncData} {N ps : List Str} {k : Nat} {pre : Pre} (Fn : Fun K x qual st f fd) (S : FnScope N ps (defScope st))
    (hl : ∀ Rs ω o ω', pre Rs ω o ω' → Rs.length = ps.length)
    (hb : ∀ (cdv : Value) (A : Around) (outer : List Env) (s : Shared) (H : Hp) (E : XK) (F : Fx), Room k (A.deeper (envOfC qual (defScope st) s.heap.objs.size f cdv)) → F.X = cxOf (L2.CX P w) P w K mg base N qual (defScope st) f cdv A outer s H E →
      ∀ Rs ω o ω', pre Rs ω o ω' → HB F (Rs.map some ++ List.replicate (N.length - Rs.length) none) ω (defBody st) (Kf o ω')) : FnOk P w K mg base (L2.CX P w) (k + 1) f fd ps (spM pre) := by
  refine Fn.okX S (fun vs H Q E h => ?_) (fun cdv A outer s H vs Q E hr h => ?_)
  · obtain ⟨Rs, ω, o, ω', G, hp, _, h2, _⟩ := h
    rw [← h2.len]
    exact hl _ _ _ _ hp
  · obtain ⟨Rs, ω, o, ω', G, hp, hgh, hv, hhas, hnd, hk, hq⟩ := h
    have tk : Takes (cxOf (L2.CX P w) P w K mg base N qual (defScope st) f cdv A outer s H E) (fun cls d _ H => E cls d H) := takes_of rfl rfl rfl rfl
    refine ⟨_, pss_w, hb cdv A outer s H E ⟨cxOf (L2.CX P w) P w K mg base N qual (defScope st) f cdv A outer s H E, G, H, keys ω, fun cls d _ H => E cls d H, tk⟩ hr rfl Rs ω o ω' hp (L2.start N vs) G H _ ?_ ?_ ?_⟩
    · exact ⟨Same.refl _, fun a o _ e => e, hgh, fun a _ e => e, fun a ha => by
        obtain ⟨p, hp, e⟩ := List.mem_map.mp ha
        obtain ⟨_, o, z, _⟩ := hhas p hp
        rw [← e, z]
        simp, fun p hp => let ⟨x, z⟩ := hhas p hp; ⟨x, .inr (List.mem_map_of_mem hp), z⟩, hnd⟩
    · unfold L2.start
      have e := hv.len
      refine ⟨by simp [e], fun i R hi => ?_⟩
      by_cases h : i < Rs.length
      · rw [List.getElem?_append_left (by simpa using h), List.getElem?_map] at hi
        cases h1 : Rs[i]? with
        | none => rw [h1] at hi; cases hi
        | some R' =>
          rw [h1] at hi
          cases hi
          obtain ⟨v, h2, h3⟩ := hv.get h1
          exact ⟨v, by rw [List.getElem?_append_left (by rw [List.length_map, ← e]; exact h), List.getElem?_map, h2]; rfl, h3⟩
      · rw [List.getElem?_append_right (by simpa using h), List.getElem?_replicate] at hi
        split at hi <;> cases hi
    · have fin : ∀ {w0 : Ow} {G' H' : Hp}, At ⟨cxOf (L2.CX P w) P w K mg base N qual (defScope st) f cdv A outer s H E, G, H, keys ω, fun cls d _ H => E cls d H, tk⟩ (ω' ++ w0) G' H' → StepM (keys ω) G H G' H' ∧ Has ω' G' H' :=
        fun a => ⟨⟨a.gg, a.hh, a.gh, a.fr⟩, a.has.left⟩
      refine ⟨fun ρ w1 hk σ G' H' s a sl => ?_, fun R w1 hk v G' H' s a r => ?_, fun _ _ hk => hk.elim, fun _ _ hk => hk.elim, fun ρ w1 P' hk cls d σ G' H' s a sl hP => ?_⟩
      · obtain ⟨R, w0, rfl, h1, rfl⟩ := hk
        obtain ⟨h2, h3⟩ := fin a
        exact hq _ _ _ h2 h3 (h1 _)
      · obtain ⟨R', w0, rfl, h1, rfl⟩ := hk
        obtain ⟨h2, h3⟩ := fin a
        exact hq _ _ _ h2 h3 (h1 _ _ r)
      · obtain ⟨P'', w0, rfl, h1, rfl⟩ := hk
        obtain ⟨h2, h3⟩ := fin a
        exact hq _ _ _ _ h2 h3 (h1 _ _ _ hP)
/-- asking it -/
theorem sp_ok {F : Fx} {pre : Pre} {Rs : List Rl} {wc wc' w : Ow} {R : Rl} {vs : List V} {G H : Hp} {Q : VK} {E : XK} (at_ : At F (wc ++ w) G H) (hv : All2 Rs vs G) (hp : pre Rs wc (.ok R) wc') (hk : keys wc' = keys wc)
    (q : ∀ v G2 H2, Same G G2 → At F (wc' ++ w) G2 H2 → R.r v G2 → Q v H2) : spM pre vs H Q E :=
  ⟨Rs, wc, .ok R, wc', G, hp, at_.gh, hv, at_.has.left, by have := at_.nd; rw [List.map_append] at this; exact (List.nodup_append.mp this).1, hk, fun v G' H' s h r => q v G' H' s.gg (at_.stepM s h hk) r⟩
/-! ### calls, at the slots -/
section
variable {X : Cx} {CX : CXT} {k : Nat} {f C g pc : Addr} {fd : FuncData} {ps : List Str} {sp : Sp} {E : L2.St → XK} {x m : Str} {p pos apos : Pos} {e o : Expr} {es : List Expr} {ta : TE} {t : TA}
def tMakeS (C : Addr) (sp : Sp) (E : L2.St → XK) (t : TA) : TE := fun σ H Q => t σ H fun vs H1 => ∀ x dx, H1 x = none → H1 dx = none → dx ≠ x →
  sp (.ref x :: vs) (upd (upd H1 dx (.own x)) x (.ins C dx [])) (fun v H2 => v = .non ∧ Q (.ref x) H2) (E σ)
theorem run_makeS {pins : List (Addr × Obj)} {σ : L2.St} {H : Hp} {s : Shared} {Q : VK} {us : List Value} {vs : List V} (M : Mk X.K C f) (F : FnOk X.prog X.w X.K X.mg X.base CX k f fd ps sp) (hr : Room (k + 1) X.A) (hb : Binds X.K fd ps [])
    (hx : PassesAt CX X σ (E σ)) (I : Inv X pins σ H s) (r : Vals vs us)
    (h : ∀ x dx, H x = none → H dx = none → dx ≠ x → sp (.ref x :: vs) (upd (upd H dx (.own x)) x (.ins C dx [])) (fun v H2 => v = .non ∧ Q (.ref x) H2) (E σ)) :
    wpAny (model X.prog X.w) X.A (call (.ref C) us) (EP X pins σ Q) X.xe s := by
  have hq := h (s.heap.objs.size + 1) s.heap.objs.size (I.hok.fresh (Nat.le_succ _)) (I.hok.fresh (Nat.le_refl _)) (Nat.ne_of_lt (Nat.lt_succ_self _))
  have I2 := Inv.made (C := C) I
  have r2 : Vals (V.ref (s.heap.objs.size + 1) :: vs) (Value.ref (s.heap.objs.size + 1) :: us) := .cons rfl r
  have hl : (Value.ref (s.heap.objs.size + 1) :: us).length = ps.length := by
    have e := r2.length
    rw [F.len _ _ _ _ hq] at e
    exact e.symm
  have hbb := hb _ (Value.ref (s.heap.objs.size + 1) :: us) I2.kIn (by rw [List.append_nil]; exact hl)
  rw [List.append_nil] at hbb
  refine wpAny_call (make_map (f := f) I.kIn M.makes M.init (beq_iff_eq.mp M.fn) (codeAny_mono (F.run _ X.stack _ _ ⟨Value.ref (s.heap.objs.size + 1) :: us, []⟩ (Value.ref (s.heap.objs.size + 1) :: us) _ _ (E σ) (hr.make C us [])
    (I2.env0.make C us []) hbb r2 hq) fun r s' hq' => ?_))
  cases r with
  | error e => exact hx pins _ _ e s' I2 hq'
  | ok fl =>
    cases fl with
    | ret u =>
      obtain ⟨v, H', I3, rv, ev, q3⟩ := I2.after hq'
      subst ev
      exact ⟨rv, ⟨V.ref (s.heap.objs.size + 1), H', I3, rfl, q3⟩⟩
    | next => exact False.elim hq'
    | brk => exact False.elim hq'
    | cont => exact False.elim hq'
theorem pe_makeS (M : Mk X.K C f) (F : FnOk X.prog X.w X.K X.mg X.base CX k f fd ps sp) (hr : Room (k + 1) X.A) (hg : Gl X x) (hm : X.mg x = some (.ref C)) (hb : Binds X.K fd ps []) (hx : ∀ σ, PassesAt CX X σ (E σ))
    (ha : PA X (e :: es) t) (hdb : (x == ("__debug__" : Str)) = false := by decide) (he : starEach (e :: es) X.env = (false, eval e X.env) :: starEach es X.env := by rfl) (hpl : (backTo pos (starEach es X.env)).any (·.1) = false := by rfl) :
    PE X (.Call (.Name x p) (e :: es) [] pos) (tMakeS C sp E t) := by
  refine ⟨fun pins s σ H Q I h => ?_⟩
  refine wpAny_Call_Name_kw (ld_glob I hg hm ?_ hdb)
  refine PySem.W.callWith_K (h₀ := X.base) I.ok.mod.kin M.kp (thn (ha.run pos pins s σ H _ I h) fun us s1 ⟨vs, H1, I1, r, q⟩ => ⟨I1.kIn, ?_⟩) he hpl
  exact run_makeS M F hr hb (hx σ) I1 r q
end
end W1
set_option maxRecDepth 100000
set_option maxHeartbeats 2000000
namespace W1
open PySem PySem.Spec PyProof.Rows L2

section
variable {F : Fx} {ρ : Ty} {ω w w1 w2 wc wc' : Ow} {e o : Expr} {es : List Expr} {R S : Rl} {Rs : List Rl} {P : Er} {pos p apos : Pos} {x m : Str} {k : Nat} {f C g pc : Addr} {fd : FuncData} {ps : List Str} {pre : Pre}
theorem passW : ∀ σ, PassesAt (L2.CX F.X.prog F.X.w) F.X σ (WE F.W σ) := fun σ => passAt F.tk σ
/-- f(..) -/
theorem er_call (ha : AR F ρ ω (e :: es) Rs (wc ++ w)) (hp : pre Rs wc (.ok R) wc') (hk : keys wc' = keys wc) (Fn : FnOk F.X.prog F.X.w F.X.K F.X.mg F.X.base (L2.CX F.X.prog F.X.w) k f fd ps (spM pre)) (hr : Room k F.X.A) (hm : F.X.mg x = some (.ref f))
    (hkp : PySem.W.keepIn F.X.K (.ref f) = true) (hb : Binds F.X.K fd ps []) (hg : Gl F.X x := by rfl) (hdb : (x == ("__debug__" : Str)) = false := by decide) (he : starEach (e :: es) F.X.env = (false, eval e F.X.env) :: starEach es F.X.env := by rfl) (hpl : (backTo pos (starEach es F.X.env)).any (·.1) = false := by rfl) :
    ER F ρ ω (.Call (.Name x p) (e :: es) [] pos) R (wc' ++ w) := fun σ G H at_ sl Q q =>
  ew_of (pe_callS Fn hr hg hm hkp hb passW pa_w hdb he hpl) (ha σ G H at_ sl _ fun vs G2 H2 s a r => sp_ok a r hp hk fun v G3 H3 s3 a3 r3 => q v G3 H3 (s.trans s3) a3 r3)
/-- an instance that is being made -/
def oIns (C : Addr) (fs : List (Str × Rl)) : Ol := ⟨fun o G => ∃ dx vs, o = .ins C dx vs ∧ NR fs vs G, fun _ _ _ e ⟨dx, vs, a, b⟩ => ⟨dx, vs, a, b.up e⟩⟩
/-- what is owned no more -/
theorem At.pub {F : Fx} {q : Addr} {O : Ol} {w : Ow} {G H : Hp} {o : HO} (a : At F ((q, O) :: w) G H) (ho : H q = some o) (hq : F.H0 q = none) : At F w (upd G q o) H := by
  have hg : G q = none := (a.ow _ List.mem_cons_self).1
  have sg : Same G (upd G q o) := fun b u e => by rw [upd_ne (ne_of_none e hg)]; exact e
  have nd := List.nodup_cons.mp a.nd
  refine ⟨a.gg.trans sg, a.hh, fun b u e => ?_, fun b h1 h2 => ?_, a.mm, fun p hp => ?_, nd.2⟩
  · by_cases hb : b = q
    · subst hb
      rw [upd_same] at e
      cases e
      exact ho
    · rw [upd_ne hb] at e
      exact a.gh _ _ e
  · rw [upd_ne (fun z => h1 (by rw [z]; exact hq))]
    exact a.fr b h1 h2
  · obtain ⟨x, y, u, z, c⟩ := a.ow p (List.mem_cons_of_mem _ hp)
    have ne : p.1 ≠ q := fun z => nd.1 (List.mem_map.mpr ⟨p, hp, z⟩)
    exact ⟨by rw [upd_ne ne]; exact x, y, u, z, p.2.mo _ _ _ sg c⟩
/-- a new thing that is owned -/
theorem At.own {F : Fx} {q : Addr} {O : Ol} {w : Ow} {G H : Hp} {o : HO} (a : At F w G H) (hq : H q = none) (hc : O.c o G) : At F ((q, O) :: w) G (upd H q o) := by
  have hg : G q = none := a.gh.free hq
  have st := Step.hid (o := o) a.gh hq
  have a' := a.step st
  have hM : q ∉ F.M := fun hm => a.mm q hm hq
  have h0 : F.H0 q = none := by
    cases e : F.H0 q with
    | none => rfl
    | some u => rw [a.hh q u hM e] at hq; cases hq
  refine ⟨a'.gg, a'.hh, a'.gh, a'.fr, a'.mm, fun p hp => ?_, List.nodup_cons.mpr ⟨fun hm => ?_, a.nd⟩⟩
  · rcases List.mem_cons.mp hp with rfl | hp
    · exact ⟨hg, .inl h0, o, upd_same, hc⟩
    · exact a'.ow p hp
  · obtain ⟨p, hp, e⟩ := List.mem_map.mp hm
    obtain ⟨_, _, u, z, _⟩ := a.ow p hp
    rw [e, hq] at z
    cases z
theorem At.own0 {F : Fx} {q : Addr} {O : Ol} {w : Ow} {G H : Hp} (a : At F ((q, O) :: w) G H) (hM : q ∉ F.M) : F.H0 q = none := ((a.ow _ List.mem_cons_self).2.1).resolve_right hM
/-- C(..) -/
theorem er_make {fs : List (Str × Rl)} (ha : AR F ρ ω (e :: es) Rs w) (hp : ∀ q, pre (rRef q :: Rs) [(q, oIns C [])] (.ok rNon) [(q, oIns C fs)]) (Fn : FnOk F.X.prog F.X.w F.X.K F.X.mg F.X.base (L2.CX F.X.prog F.X.w) k f fd ps (spM pre)) (hr : Room (k + 1) F.X.A) (M : Mk F.X.K C f)
    (hm : F.X.mg x = some (.ref C)) (hb : Binds F.X.K fd ps []) (hg : Gl F.X x := by rfl) (hdb : (x == ("__debug__" : Str)) = false := by decide) (he : starEach (e :: es) F.X.env = (false, eval e F.X.env) :: starEach es F.X.env := by rfl) (hpl : (backTo pos (starEach es F.X.env)).any (·.1) = false := by rfl) :
    ER F ρ ω (.Call (.Name x p) (e :: es) [] pos) (rIns C fs) w := fun σ G H at_ sl Q q => by
  refine ew_of (pe_makeS M Fn hr hg hm hb passW pa_w hdb he hpl) (ha σ G H at_ sl _ fun vs G1 H1 s1 a1 r1 => fun y dx hy hdx hne => ?_)
  have a2 : At F w G1 (upd H1 dx (.own y)) := a1.step (Step.hid a1.gh hdx)
  have hy2 : upd H1 dx (.own y) y = none := by rw [upd_ne (Ne.symm hne)]; exact hy
  have a3 : At F ([(y, oIns C [])] ++ w) G1 (upd (upd H1 dx (.own y)) y (.ins C dx [])) := a2.own hy2 ⟨dx, [], rfl, trivial⟩
  have hM : y ∉ F.M := fun hm => a2.mm y hm hy2
  refine sp_ok (Rs := rRef y :: Rs) (wc := [(y, oIns C [])]) a3 ⟨rfl, r1⟩ (hp y) rfl fun v G3 H3 s3 a4 r3 => ⟨r3, ?_⟩
  obtain ⟨_, _, ob, h1, dx', vs', e1, h2⟩ := a4.ow (y, oIns C fs) List.mem_cons_self
  subst e1
  have a5 : At F w (upd G3 y (.ins C dx' vs')) H3 := At.pub (q := y) a4 h1 (At.own0 a4 hM)
  have sg : Same G3 (upd G3 y (.ins C dx' vs')) := fun b u e => by rw [upd_ne (ne_of_none e (a4.ow (y, oIns C fs) List.mem_cons_self).1)]; exact e
  exact q _ _ _ ((s1.trans s3).trans sg) a5 ⟨y, dx', vs', rfl, upd_same, h2.up sg⟩
/-- a field of what is owned: stored -/
def putR (f : Str) (R : Rl) : List (Str × Rl) → List (Str × Rl)
  | [] => [(f, R)]
  | (g, S) :: r => if g = f then (f, R) :: r else (g, S) :: putR f R r
theorem NR.put {f : Str} {R : Rl} {v : V} {H : Hp} (h : R.r v H) : ∀ {fs : List (Str × Rl)} {vs : List (Str × V)}, NR fs vs H → NR (putR f R fs) (putF f v vs) H
  | [], [], _ => ⟨rfl, h, trivial⟩
  | (g, S) :: fs, (g', u) :: vs, ⟨e, a, b⟩ => by
    subst e
    unfold putR putF
    by_cases hg : g = f
    · rw [if_pos hg, if_pos hg]
      exact ⟨hg ▸ rfl, h, b⟩
    · rw [if_neg hg, if_neg hg]
      exact ⟨rfl, a, NR.put h b⟩
  | [], _ :: _, h => h.elim
  | _ :: _, [], h => h.elim
theorem NR.len {κ : Type} : ∀ {fs : List (κ × Rl)} {vs : List (κ × V)} {H : Hp}, NR fs vs H → fs.length = vs.length
  | [], [], _, _ => rfl
  | _ :: _, _ :: _, _, ⟨_, _, b⟩ => by rw [List.length_cons, List.length_cons, NR.len b]
  | [], _ :: _, _, h => h.elim
  | _ :: _, [], _, h => h.elim
/-- what is owned at q changes -/
theorem At.chg {F : Fx} {q : Addr} {O O' : Ol} {w : Ow} {G H : Hp} {o : HO} (a : At F ((q, O) :: w) G H) (hc : O'.c o G) : At F ((q, O') :: w) G (upd H q o) := by
  obtain ⟨hg, hM, ob, h1, _⟩ := a.ow _ List.mem_cons_self
  have nd := List.nodup_cons.mp a.nd
  refine ⟨a.gg, fun b u hb e => ?_, fun b u e => ?_, a.fr, fun b hb => ?_, fun p hp => ?_, a.nd⟩
  · rw [upd_ne (fun z => ?_)]
    · exact a.hh b u hb e
    · rcases hM with z' | z'
      · rw [z, z'] at e; cases e
      · exact hb (z ▸ z')
  · rw [upd_ne (ne_of_none e hg)]
    exact a.gh _ _ e
  · by_cases z : b = q
    · rw [z, upd_same]; simp
    · rw [upd_ne z]; exact a.mm b hb
  · rcases List.mem_cons.mp hp with rfl | hp
    · exact ⟨hg, hM, o, upd_same, hc⟩
    · obtain ⟨x, y, u, z, c⟩ := a.ow p (List.mem_cons_of_mem _ hp)
      have ne : p.1 ≠ q := fun z => nd.1 (List.mem_map.mpr ⟨p, hp, z⟩)
      exact ⟨x, y, u, by rw [upd_ne ne]; exact z, c⟩
theorem hb_fld {K : Kn} {rest : List Stmt} {q : Addr} {fs : List (Str × Rl)} {f : Str} {pos' : Pos} (hv : ER F ρ ω e R w1) (ho : ER F ρ w1 o (rRef q) ((q, oIns C fs) :: w2)) (hc : Cls F.X.K C) (hn : NoAttr F.X.K C f) (h : HB F ρ ((q, oIns C (putR f R fs)) :: w2) rest K) (hl : fs.length < 1000 := by decide)
    (hs : swapsWith e (some (.Attribute o f pos')) pos.line F.X.env = pure false := by rfl) : HB F ρ ω (.Assign [.Attribute o f pos'] e pos :: rest) K := hb_cons fun σ G H D at_ sl ps => by
  refine sw_of (ps_fld pe_w pe_w hs) (hv σ G H at_ sl _ fun v G1 H1 s1 a1 r1 => ho σ G1 H1 a1 (sl.up s1) _ fun u G2 H2 s2 a2 r2 => ?_)
  have r2' : u = V.ref q := r2
  subst r2'
  obtain ⟨_, _, ob, h1, dx, vs, e1, h2⟩ := a2.ow (q, oIns C fs) List.mem_cons_self
  subst e1
  refine ⟨q, C, dx, vs, rfl, h1, hc, hn, by rw [← h2.len]; exact hl, ?_⟩
  have s12 := s1.trans s2
  exact h σ G2 _ D (a2.chg ⟨dx, _, rfl, h2.put (R.mo _ _ _ s2 r1)⟩) (sl.up s12) (ps.up s12)
end
end W1
set_option maxRecDepth 100000
set_option maxHeartbeats 2000000
namespace W1
open PySem PySem.Spec PyProof.Rows L2 NdefX

/-! ### an own error whose __init__ says super().__init__(text) -/
/-- the def at f -/
abbrev supF (qual : Str) (st : Stmt) (cc cd : Addr) : NF := ⟨"__init__", qual, defArgs st, defBody st, defScope st, [("__class__", cc)], cd⟩
/-- what the written part says of the class at C, its __init__ at f, the cell at cc, the code at cd -/
structure SupC (P : Program) (K : PySem.W.Frag) (mg : Str → Option Value) (x qual : Str) (st : Stmt) (C f cc cd : Addr) : Prop where
  ox : OexC K C
  gC : mg x = some (.ref C)
  iC : PySem.W.findIn K (.ref C) "__init__" = some (some (.ref f))
  tI : PySem.W.typeIn K (.ref f) = some (.type "function")
  fn : ∃ oc od doc pm ctv osl, K.lookup f = some ⟨oc, od, .func ((supF qual st cc cd).fd doc pm ctv), osl⟩
  hcd : PySem.W.codeIn K (.ref cd) qual = true
  code : ∃ ccl cdd vs ccs file tf, K.lookup cd = some ⟨ccl, cdd, .fields vs, ccs⟩ ∧ vs[2]? = some (.str file tf) ∧ (P.main.file == file) = true
  cell : ∃ cl cld csl, K.lookup cc = some ⟨cl, cld, .cell (some (.ref C)), csl⟩
  sub : PySem.W.mroIn K C (.ref C) = some true
  nsup : mg "super" = none
  sup : PySem.W.ks_superIn K C C "__init__" = some (some (.builtin "ValueError.__init__"))
  subV : PySem.W.subIn K (.ref C) (.type "ValueError") = some true
  opq : PySem.W.nsIn K cStatics "thirdparty.any" = some none
  top : (P.main.scope.names.lookup ("super" : Str)).isSome = false
  te : PySem.W.exmOne K (.ref C) (.ref C) = some true
section
variable {X : Cx} {pins : List (Addr × Obj)} {σ : L2.St} {H : Hp} {s : Shared}
theorem ld_var {E : Value → Shared → Prop} {i : Nat} {x : Str} {v : V} {Q : Value → Shared → Prop} (I : Inv X pins σ H s) (hN : X.N[i]? = some x) (hv : Vis X.env.scope x) (hσ : σ[i]? = some (some v)) (hcd : (x == ("__classdict__" : Str)) = false)
    (h : ∀ u, RelV v u → Q u s) : wpAny (model X.prog X.w) X.A (loadName X.env x) Q E s := by
  obtain ⟨m, hn, hl⟩ := I.loc
  obtain ⟨u, r, l⟩ := hl i x v hN hσ hv
  rcases l with ⟨hk, hm⟩ | ⟨hk, c, hc, hcell⟩
  · exact wpAny_loadName_local I.ok.kind hk hn hm (h u r)
  · rcases hk with hk | hk
    · exact wpAny_loadName_cell I.ok.kind hk hc hcell (h u r)
    · exact wpAny_loadName_free I.ok.kind hk hc hcell (h u r) hcd
/-- super() in such a body: the object of it -/
theorem super_made {x qual : Str} {st : Stmt} {C f cc cd a : Addr} {p0 p1 : Pos} {body : List Stmt} {whole : Sem Value} {Q : Value → Shared → Prop} {E : Value → Shared → Prop} {ar : Arg} (T : SupC X.prog X.K X.mg x qual st C f cc cd) (I : Inv X pins σ H s)
    (ea : H a = some (exo a C none)) (h0 : σ[0]? = some (some (.ref a))) (hN : X.N[0]? = some ar.arg) (hv : Vis X.env.scope ar.arg) (hn1 : (ar.arg == ("__classdict__" : Str)) = false)
    (hks : X.env.kindOf "super" = some .globalImplicit) (hkc : X.env.kindOf "__class__" = some .free) (hfu : X.env.func = some f) (hco : X.env.code = .ref cd) (hcl : X.env.cells.lookup ("__class__" : Str) = some cc)
    (hp : ((defArgs st).posonlyargs ++ (defArgs st).args).head? = some ar)
    (h : ∀ s', Inv X ((s.heap.objs.size, PySem.W.ks_superObj C a C) :: pins) σ H s' → Q (.ref s.heap.objs.size) s') :
    PySem.wpAt (model X.prog X.w) X.A (.func body X.env) (attributeBase (.Call (.Name "super" p0) [] [] p1) "__init__" X.env whole) Q E s := by
  obtain ⟨oc, od, doc, pm, ctv, osl, hf⟩ := T.fn
  obtain ⟨ccl, cdd, vs, ccs, file, tf, hcode, hvs, hfile⟩ := T.code
  obtain ⟨ct, cld, csl, hcell⟩ := T.cell
  obtain ⟨nm, q, N, bs, bm, sn, sub, ab, col, dd, k0, k1, k2, k3, k5, hC, hbm⟩ := T.ox.cls
  have hclI : PySem.W.clsIn X.K C = some { name := nm, bases := bs, mro := .ref C :: bm, ns := N, qualname := q, hasDict := true, slotNames := sn, subclasses := sub, abstract := ab, collection := col, hasDel := false } := by unfold PySem.W.clsIn; rw [hC] <;> rfl
  obtain ⟨t1, hx⟩ := exo_at I.hok ea
  refine ks_wpAt_super_base (attr := "__init__") hks hkc (by decide +kernel) hfu (I.kIn _ _ hf) rfl hp hco (I.kIn _ _ hcode) rfl hvs hfile T.top ?_
  refine PySem.W.ks_loadName_global I.ok.kind hks ?_
  obtain ⟨mb, h1, h2⟩ := I.mod.blt
  refine Calls.loadGlobal_builtin (by rw [I.ok.glob]; exact I.mod.glob.keeps I.bk) T.nsup (by rw [I.ok.blt]; exact h1.keeps I.bk) ((h2 _ (by decide +kernel)).trans (by decide +kernel : bootBuiltins "super" = some (.type "super"))) ⟨rfl, ?_⟩
  refine wpAny_loadName_free I.ok.kind hkc hcl ⟨_, I.kIn _ _ hcell, rfl⟩ ?_
  refine ld_var I hN hv h0 hn1 fun u ru => ?_
  obtain rfl : u = Value.ref a := ru
  obtain ⟨hp', g, d, t, os⟩ := s
  refine ks_wpAny_isType_cls (I.kIn _ _ hC) rfl ⟨rfl, ?_⟩
  refine ks_wpAny_call_super (I.kIn _ _ hC) rfl hx rfl (fun c z => nomatch z) (PySem.W.looks_mroIn I.kIn T.sub) (fun h' e k => ?_)
  exact h _ (ClX.pin_new I k (Nat.le_refl _) e (fun v z => nomatch z))
/-- .__init__ of it, called: the exception's texts are laid anew -/
theorem super_init {x qual : Str} {st : Stmt} {C f cc cd a so : Addr} {pos : Pos} {e : Expr} {es : List Expr} {ta : TA} {pl : Sem Bool} {Q : Value → Shared → Prop} (T : SupC X.prog X.K X.mg x qual st C f cc cd) (I : Inv X ((so, PySem.W.ks_superObj C a C) :: pins) σ H s)
    (ea : H a = some (exo a C none)) (ha : PA X (e :: es) ta) (q : ta σ H fun vs H1 => vs.length ≤ 1000 ∧ H1 a = some (exo a C none) ∧ ∀ s', Inv X pins σ H1 s' → Q .none s')
    (he : starEach (e :: es) X.env = (false, eval e X.env) :: starEach es X.env) (hpl : (backTo pos (starEach es X.env)).any (·.1) = false) :
    wpAny (model X.prog X.w) X.A (getMethod (.ref so) "__init__" pl) (fun fx s₂ => wpAny (model X.prog X.w) X.A (callWith pos fx.1 fx.2 (backTo pos (starEach (e :: es) X.env)) []) Q X.xe s₂) X.xe s := by
  obtain ⟨nm, q', N, bs, bm, sn, sub, ab, col, dd, k0, k1, k2, k3, k5, hC, hbm⟩ := T.ox.cls
  have hclI : PySem.W.clsIn X.K C = some { name := nm, bases := bs, mro := .ref C :: bm, ns := N, qualname := q', hasDict := true, slotNames := sn, subclasses := sub, abstract := ab, collection := col, hasDel := false } := by unfold PySem.W.clsIn; rw [hC] <;> rfl
  obtain ⟨t1, hx⟩ := exo_at I.hok ea
  have hso := ClX.pin_at I
  have sup := T.sup
  unfold PySem.W.ks_superIn at sup
  rw [hclI] at sup
  have J : PySem.W.InstAt s.heap a { cls := .ref C, dict := none, data := .fields #[.ref t1, .none, .none, .none, .bool false, .none] } C none := ⟨hx, rfl, rfl, trivial⟩
  have naC : a ≠ C := fun z => by
    have := I.kIn _ _ hC
    rw [← z, hx] at this
    cases this
  have hI : PySem.W.Looks (model X.prog X.w) s.heap (isInstance (.ref a) (.type "ValueError")) true := J.type.andThen (PySem.W.looks_subIn I.kIn T.subV)
  obtain ⟨hp, g, d, t, os⟩ := s
  refine PySem.W.kxs_getMethod PySem.W.kxs_ValueError hso (PySem.W.looks_opaque I.kIn T.opq) (l₀ := .ref C :: bm) ?_ rfl I.kIn sup hI naC (by decide +kernel) ?_
  · exact fun A Q E s k q => wpAny_bind ((PySem.W.looks_clsIn I.kIn hclI) A _ E s k (wpAny_pure q))
  · have I1 := ClX.pin_new (t' := t + 1) (h' := hp.push (PySem.W.kxs_mw "ValueError.__init__" a)) (a := hp.objs.size) (o := PySem.W.kxs_mw "ValueError.__init__" a) I (fun b u z => Heap.get?_push_of_some _ z) (Nat.le_refl _) (Heap.get?_push_at rfl rfl) (fun v z => nomatch z)
    have hq1 : wpAny (model X.prog X.w) X.A (spliced (backTo pos (starEach (e :: es) X.env))) (fun us s₁ => PySem.W.KxsAt "ValueError.__init__" hp.objs.size a s₁.heap ∧ wpAny (model X.prog X.w) X.A (call (.ref hp.objs.size) us) Q X.xe s₁) X.xe ⟨hp.push (PySem.W.kxs_mw "ValueError.__init__" a), g, d, t + 1, os⟩ := by
      refine thn (ha.run pos _ _ σ H _ I1 q) fun us s1 ⟨vs, H1, I2, r, hlen, ea1, q1⟩ => ⟨ClX.pin_at I2, ?_⟩
      have hu := ClX.pin_at I2
      obtain ⟨t2, hx2⟩ := exo_at I2.hok ea1
      have hz : us.length ≤ sizeLine := by
        rw [← r.length]
        exact Nat.le_of_lt (small1000 hlen)
      obtain ⟨h2, g2, d2, tk2, os2⟩ := s1
      refine wpAny_call (codeAny_of_tree ?_)
      show wpAny _ X.A.in1 (callAny (.ref hp.objs.size) ⟨us, []⟩) _ _ _
      simp only [callAny]
      refine wpAny_bind (wpAny_load hu ?_)
      simp only [PySem.W.kxs_mw, show (Value.type "method-wrapper" == Value.type "method" || Value.type "method-wrapper" == Value.type "builtin_function_or_method" || Value.type "method-wrapper" == Value.type "method-wrapper") = true by decide, if_true]
      refine PySem.W.KFB.if_so (by decide) ?_
      refine wpAny_bind (PySem.W.check_bound_init F.excBase_ValueError.toExcCallFacts (I2.kIn _ _ hC) hx2 rfl ?_)
      refine wpAny_bind (wpAny_pure (wpAny_pure ?_))
      refine ⟨plainId_quiet F.excBase_ValueError.init.plain _, codeAny_builtin F.excBase_ValueError.initEntry ?_⟩
      refine PySem.W.exc_init_tree (cls := .ref C) (t0 := t2) (dv := none) (c2 := .none) (c3 := .none) (b4 := .bool false) hx2 hz fun h3 k e3 t3 => ?_
      have J3 := (ClX.unpin (ClX.unpin I2)).write (t' := tk2) (x := a) (e := a) (o := exo a C none) (by rw [ea1]; exact True.intro) (.inl rfl) k ⟨_, e3⟩ (exo_ok e3)
      have eu : upd H1 a (exo a C none) = H1 := by
        funext b
        by_cases hb : b = a
        · rw [hb, upd_same, ea1]
        · rw [upd_ne hb]
      rw [eu] at J3
      exact q1 _ J3
    rw [he] at hq1 ⊢
    exact PySem.W.kxs_callWith (i := "ValueError.__init__") (x := a) (first := []) (by show (false || (backTo pos (starEach es X.env)).any (·.1)) = false; rw [hpl]; rfl) (Calls.evalArgs_plain hq1)
end
end W1
set_option maxRecDepth 100000
set_option maxHeartbeats 2000000
namespace W1
open PySem PySem.Spec PyProof.Rows L2 NdefX
section
variable {P : Program} {w : World} {K : PySem.W.Frag} {mg : Str → Option Value} {base : Heap}
/-- such a def keeps its promise -/
theorem fn_sup {x qual : Str} {st : Stmt} {C f cc cd : Addr} {N ps : List Str} {k : Nat} {sp : Sp} {ar : Arg} {p0 p1 p2 p3 p4 : Pos} {e : Expr} {es : List Expr} {rest : List Stmt} (T : SupC P K mg x qual st C f cc cd)
    (S : NScope N ps ["__class__"] (defScope st)) (hst : defBody st = .Expr (.Call (.Attribute (.Call (.Name "super" p0) [] [] p1) "__init__" p2) (e :: es) [] p3) p4 :: rest)
    (hp : ((defArgs st).posonlyargs ++ (defArgs st).args).head? = some ar) (hN : N[0]? = some ar.arg) (hn1 : (ar.arg == ("__classdict__" : Str)) = false) (hpa : ar.arg ∈ ps)
    (hks : (defScope st).names.lookup ("super" : Str) = some .globalImplicit)
    (len : ∀ vs H Q E, sp vs H Q E → vs.length = ps.length)
    (pl : ∀ env : Env, env.scope = defScope st → ∃ pl : Sem Bool, eval (.Call (.Attribute (.Call (.Name "super" p0) [] [] p1) "__init__" p2) (e :: es) [] p3) env = (do
      let ov ← attributeBase (.Call (.Name "super" p0) [] [] p1) "__init__" env (eval (.Call (.Name "super" p0) [] [] p1) env)
      standAt p2.atName
      let (f, first) ← holding [ov] (getMethod ov "__init__" pl)
      callWith p3 f first (backTo p3 (starEach (e :: es) env)) []))
    (hsw : ∀ env : Env, env.scope = defScope st → swapsWith (.Call (.Attribute (.Call (.Name "super" p0) [] [] p1) "__init__" p2) (e :: es) [] p3) none p4.line env = pure false)
    (hse : ∀ env : Env, env.scope = defScope st → starEach (e :: es) env = (false, eval e env) :: starEach es env ∧ (backTo p3 (starEach es env)).any (·.1) = false)
    (hbody : ∀ (A : Around) (outer : List Env) (s : Shared) (H : Hp) (vs : List V) (Q : VK) (E : XK), Room k (A.deeper (envF (supF qual st cc cd) f s.heap.objs.size)) → sp vs H Q E →
      ∃ a ta t, vs[0]? = some (.ref a) ∧ H a = some (exo a C none) ∧ PA (ncx (L2.CX P w) P w K mg base N (supF qual st cc cd) f A outer s H E) (e :: es) ta ∧ PSs (ncx (L2.CX P w) P w K mg base N (supF qual st cc cd) f A outer s H E) rest t ∧
        ta (startF N vs [none]) H fun us H1 => us.length ≤ 1000 ∧ H1 a = some (exo a C none) ∧ t { nx := fun _ H' => Q .non H', rt := Q } (startF N vs [none]) H1) :
    ∃ fd, (∃ doc pm ctv, fd = (supF qual st cc cd).fd doc pm ctv) ∧ FnOk P w K mg base (L2.CX P w) (k + 1) f fd ps sp := by
  obtain ⟨oc, od, doc, pm, ctv, osl, lk⟩ := T.fn
  refine ⟨_, ⟨doc, pm, ctv, rfl⟩, len, fun A outer s H args us vs Q E hr e0 hb r hsp => ?_⟩
  have KX : K.In s.heap := e0.mod.kin.keeps fun b o e => (e0.bs b o e).1
  have hl := len _ _ _ _ hsp
  have lim : s.heap.NoLimit := e0.mod.nolimit.keeps fun b o e => (e0.bs b o e).1
  obtain ⟨ct, cld, csl, hcell⟩ := T.cell
  refine ks_codeAny_call_defAt (body := defBody st) hr.depth (KX _ _ lk) rfl lim (PySem.W.codeRec_of KX T.hcd) rfl hb S.nocell (fun ⟨n, _⟩ hy => S.par n (List.of_mem_zip hy).1) (fun h₁ hns kp => ?_) S.co S.gen S.kind
  show PySem.wpAt (model P w) (A.deeper (envF (supF qual st cc cd) f s.heap.objs.size)) (.func (defBody st) (envF (supF qual st cc cd) f s.heap.objs.size)) (execs (defBody st) (envF (supF qual st cc cd) f s.heap.objs.size)) _ _ _
  have hcc : H cc = none := (e0.bs cc _ (e0.mod.kin _ _ hcell)).2
  have Cs : CellsAt (supF qual st cc cd).cl ["__class__"] [none] s.heap H := by
    refine ⟨rfl, fun y c h => ?_, fun y z c h1 h2 => ?_, fun i y h => ?_⟩
    · have h' : [(("__class__" : Str), cc)].lookup y = some c := h
      by_cases hy : y = "__class__"
      · subst hy
        rw [List.lookup_cons_self] at h'
        cases h'
        exact ⟨hcc, _, _, KX _ _ hcell, rfl⟩
      · rw [List.lookup_cons, show (y == ("__class__" : Str)) = false by simpa using hy] at h'
        cases h'
    · have k1 : ∀ {y : Str}, [(("__class__" : Str), cc)].lookup y = some c → y = "__class__" := fun {y} h => by
        by_cases hy : y = "__class__"
        · exact hy
        · rw [List.lookup_cons, show (y == ("__class__" : Str)) = false by simpa using hy] at h
          cases h
      rw [k1 h1, k1 h2]
    · match i, h with
      | 0, h =>
        cases h
        exact ⟨cc, List.lookup_cons_self, fun v z => by cases z⟩
      | i + 1, h => simp at h
  have I := inv_startN (CX := L2.CX P w) (f := f) (E := E) (tk := s.toks + (ps.zip us).length) S hr.hd e0 hl r Cs hns kp
  obtain ⟨a, ta, t, hv0, ea, hpa1, hrest, hq⟩ := hbody A outer s H vs Q E (hr.deeper _) hsp
  obtain ⟨pl', hpl'⟩ := pl (envF (supF qual st cc cd) f s.heap.objs.size) rfl
  obtain ⟨hse1, hse2⟩ := hse (envF (supF qual st cc cd) f s.heap.objs.size) rfl
  have hσ : (startF N vs [none])[0]? = some (some (V.ref a)) := by
    unfold startF
    have : 0 < vs.length := by
      cases vs with
      | nil => cases hv0
      | cons _ _ => exact Nat.zero_lt_succ _
    rw [List.getElem?_append_left (by rw [List.length_map]; exact this), List.getElem?_map, hv0]
    rfl
  have fin : ∀ {σ' : L2.St} {H' : Hp} {v : V} {u : Value} {s' : Shared}, Inv (ncx (L2.CX P w) P w K mg base N (supF qual st cc cd) f A outer s H E) [] σ' H' s' → L2.RelV v u → Q v H' → CE outer P w H s Q u s' :=
    fun {σ' H' v u s'} J rv q => ⟨v, H', J.os, J.bare, J.base, J.hok, rv, q⟩
  have endR : ∀ fl s', SP (ncx (L2.CX P w) P w K mg base N (supF qual st cc cd) f A outer s H E) [] { nx := fun _ H' => Q .non H', rt := Q } fl s' → CR (L2.CX P w) outer P w H s Q E (.ok (.ret (match fl with | .ret v => v | _ => .none))) s' := fun fl s' hs => by
    cases fl with
    | ret u =>
      obtain ⟨v, σ', H', J, rv, q⟩ := hs
      exact fin J rv q
    | next =>
      obtain ⟨σ', H', J, q⟩ := hs
      exact fin (v := V.non) (u := Value.none) J rfl q
    | brk =>
      obtain ⟨_, _, _, q⟩ := hs
      exact False.elim q
    | cont =>
      obtain ⟨_, _, _, q⟩ := hs
      exact False.elim q
  rw [hst]
  refine ks_wpAt_execs_cons (ks_wpAt_Expr_any ?_ (by simp [interactive, S.kind]) (hsw _ rfl))
  refine ks_wpAt_MethodCall (pl := pl') ?_ hpl'
  refine super_made (X := ncx (L2.CX P w) P w K mg base N (supF qual st cc cd) f A outer s H E) (ar := ar) T I ea hσ hN (Or.inl (S.par _ hpa)) hn1 hks (S.frk _ List.mem_cons_self) rfl rfl List.lookup_cons_self hp fun s1 I1 => ?_
  have hpa2 : PA (ncx (L2.CX P w) P w K mg base N (supF qual st cc cd) f A outer s H E) (e :: es) (fun σ' H' Q' => (σ' = startF N vs [none] ∧ H' = H) ∧ ∀ us H1, (us.length ≤ 1000 ∧ H1 a = some (exo a C none) ∧ t { nx := fun _ H' => Q .non H', rt := Q } (startF N vs [none]) H1) → Q' us H1) :=
    ⟨fun pos pins s σ' H' Q' I z => by
      obtain ⟨⟨rfl, rfl⟩, k⟩ := z
      exact thn (hpa1.run pos pins s _ _ _ I hq) fun us s' ⟨vs', H2, I2, r2, q2⟩ => ⟨vs', H2, I2, r2, k vs' H2 q2⟩⟩
  refine super_init (X := ncx (L2.CX P w) P w K mg base N (supF qual st cc cd) f A outer s H E) T I1 ea hpa2 ⟨⟨rfl, rfl⟩, fun us H1 ⟨h1, h2, h3⟩ => ⟨h1, h2, fun s2 I2 => ?_⟩⟩ hse1 hse2
  refine wpAt_of_wpAny (wpAny_mono (hrest.run [] s2 _ H1 _ I2 h3) (fun fl s' hs => endR fl s' hs) fun e s' hs => hs)
end
end W1
set_option maxRecDepth 100000
set_option maxHeartbeats 2000000
namespace W1
open PySem PySem.Spec PyProof.Rows L2 NdefX

/-- the promise of such an __init__: the one field is stored -/
def spErr (C : Addr) (fld : Str) (Pr : Rl) : Sp := fun vs H Q _ => ∃ a v, vs = [.ref a, v] ∧ H a = some (exo a C none) ∧ Pr.r v H ∧
  ∀ H' d, H d = none → d ≠ a → H' a = some (exo a C (some d)) → H' d = some (exd d [(fld, v)]) → (∀ b o, b ≠ a → H b = some o → H' b = some o) → Q .non H'
/-- an expression that gives some text -/
def Txt1 (X : Cx) (e : Expr) (i : Nat) (Pr : Rl) : Prop := ∃ te, PE X e te ∧ ∀ σ H v, σ[i]? = some (some v) → Pr.r v H → ∀ Q : VK, (∀ y H', Same H H' → Q y H') → te σ H Q
section
variable {P : Program} {w : World} {K : PySem.W.Frag} {mg : Str → Option Value} {base : Heap}
theorem ok_err {x qual y fld : Str} {st : Stmt} {C f cc cd : Addr} {k : Nat} {Pr : Rl} {p0 p1 p2 p3 p4 p5 p6 p7 p8 ps1 ps2 : Pos} {an1 an2 : Option Expr} {e : Expr} (T : SupC P K mg x qual st C f cc cd)
    (S : NScope ([("self" : Str), y, "__class__"] : List Str) ([("self" : Str), y] : List Str) ["__class__"] (defScope st))
    (hst : defBody st = [.Expr (.Call (.Attribute (.Call (.Name "super" p0) [] [] p1) "__init__" p2) [e] [] p3) p4, .Assign [.Attribute (.Name "self" p5) fld p6] (.Name y p7) p8])
    (hp : ((defArgs st).posonlyargs ++ (defArgs st).args).head? = some ⟨"self", an1, ps1⟩) (hks : (defScope st).names.lookup ("super" : Str) = some .globalImplicit) (hno : PySem.W.findIn K (.ref C) fld = some none)
    (hd1 : (y == ("__debug__" : Str)) = false) (hd2 : (y == ("__classdict__" : Str)) = false)
    (pl : ∀ env : Env, env.scope = defScope st → ∃ pl : Sem Bool, eval (.Call (.Attribute (.Call (.Name "super" p0) [] [] p1) "__init__" p2) [e] [] p3) env = (do
      let ov ← attributeBase (.Call (.Name "super" p0) [] [] p1) "__init__" env (eval (.Call (.Name "super" p0) [] [] p1) env)
      standAt p2.atName
      let (f, first) ← holding [ov] (getMethod ov "__init__" pl)
      callWith p3 f first (backTo p3 (starEach [e] env)) []))
    (hsw : ∀ env : Env, env.scope = defScope st → swapsWith (.Call (.Attribute (.Call (.Name "super" p0) [] [] p1) "__init__" p2) [e] [] p3) none p4.line env = pure false)
    (hsw2 : ∀ env : Env, swapsWith (.Name y p7) (some (.Attribute (.Name "self" p5) fld p6)) p8.line env = pure false)
    (hse : ∀ env : Env, env.scope = defScope st → starEach [e] env = (false, eval e env) :: starEach [] env ∧ (backTo p3 (starEach [] env)).any (·.1) = false)
    (htx : ∀ X : Cx, X.K = K → X.mg = mg → X.base = base → X.prog = P → X.w = w → X.N = ([("self" : Str), y, "__class__"] : List Str) → X.env.scope = defScope st → Room k X.A → X.calm = true → Txt1 X e 1 Pr) :
    ∃ fd, (∃ doc pm ctv, fd = (supF qual st cc cd).fd doc pm ctv) ∧ FnOk P w K mg base (L2.CX P w) (k + 1) f fd ([("self" : Str), y] : List Str) (spErr C fld Pr) := by
  refine fn_sup (N := ([("self" : Str), y, "__class__"] : List Str)) (ps := ([("self" : Str), y] : List Str)) T S hst hp rfl (show (("self" : Str) == ("__classdict__" : Str)) = false by decide +kernel) List.mem_cons_self hks (fun vs H Q E h => ?_) pl hsw hse (fun A outer s H vs Q E hr h => ?_)
  · obtain ⟨a, v, rfl, _⟩ := h
    rfl
  · obtain ⟨a, v, rfl, ea, hpr, hq⟩ := h
    obtain ⟨te, hte, htk⟩ := htx (ncx (L2.CX P w) P w K mg base ([("self" : Str), y, "__class__"] : List Str) (supF qual st cc cd) f A outer s H E) rfl rfl rfl rfl rfl rfl rfl hr rfl
    have hs : Loc (defScope st) "self" := .inl (S.par _ List.mem_cons_self)
    have hy : Loc (defScope st) y := .inl (S.par _ (List.mem_cons_of_mem _ List.mem_cons_self))
    refine ⟨a, _, _, rfl, ea, pa_cons hte pa_nil (hse _ rfl).1, pss_one (ps_ost (pe_var (i := 0) rfl (Or.inl (S.par _ List.mem_cons_self))) (pe_var (i := 1) rfl (Or.inl (S.par _ (List.mem_cons_of_mem _ List.mem_cons_self))) hd1 hd2) (hsw2 _)), ?_⟩
    refine htk _ _ v rfl hpr _ fun z H1 s1 => ⟨by show 1 ≤ 1000; decide, s1 _ _ ea, v, rfl, .ref a, rfl, a, C, rfl, T.ox, hno, .inl ⟨s1 _ _ ea, fun d hd hne => ?_⟩⟩
    refine hq _ d (s1.free hd) hne upd_same (by rw [upd_ne hne, upd_same]) fun b o hb e => ?_
    rw [upd_ne hb, upd_ne (ne_of_none (s1 _ _ e) hd)]
    exact s1 _ _ e
end
/-- the error as it flies: its one field -/
def erF (C : Addr) (fld : Str) (R : Rl) : Er := fun cls d G => cls = .ref C ∧ ∃ dd v, d = some dd ∧ G dd = some (.xd [(fld, v)]) ∧ R.r v G
section
variable {F : Fx} {ρ : Ty} {ω w1 : Ow} {K : Kn} {rest : List Stmt} {e : Expr} {R Pr : Rl} {pos pos' p : Pos} {x y qual fld : Str} {st : Stmt} {C f cc cd : Addr} {fd : FuncData} {k : Nat}
theorem hb_raise (ha : AR F ρ ω [e] [R] w1) (hx : K.ex ρ w1 (erF C fld R)) (hPr : ∀ v G, R.r v G → Pr.r v G) (T : SupC F.X.prog F.X.K F.X.mg x qual st C f cc cd) (Fn : FnOk F.X.prog F.X.w F.X.K F.X.mg F.X.base (L2.CX F.X.prog F.X.w) k f fd ([("self" : Str), y] : List Str) (spErr C fld Pr))
    (hr : Room (k + 1) F.X.A) (hb : Binds F.X.K fd ([("self" : Str), y] : List Str) []) (hg : Gl F.X x := by rfl) (hc : F.X.calm = true := by rfl) (hdb : (x == ("__debug__" : Str)) = false := by decide)
    (he : starEach [e] F.X.env = (false, eval e F.X.env) :: starEach [] F.X.env := by rfl) (hpl : (backTo pos (starEach [] F.X.env)).any (·.1) = false := by rfl) :
    HB F ρ ω (.Raise (some (.Call (.Name x p) [e] [] pos)) none pos' :: rest) K := hb_cons fun σ G H D at_ sl ps => by
  refine sw_of (ps_raise hc F.tk (pmk_oex T.ox T.iC T.tI Fn hr hb .nil passL hg T.gC pa_w hdb he hpl)) (ha σ G H at_ sl _ fun vs G1 H1 s1 a1 r1 => ?_)
  obtain ⟨v, rfl, rv⟩ := all1 r1
  refine ⟨by show 1 ≤ 1000; decide, fun a hna => ?_⟩
  have hg0 : G1 a = none := a1.gh.free hna
  have sa : Same G1 (upd H1 a (exo a C none)) := fun b o z => by rw [upd_ne (ne_of_none z hg0)]; exact a1.gh _ _ z
  refine ⟨a, v, rfl, upd_same, Pr.mo _ _ _ sa (hPr _ _ rv), fun H' d hd hne h1 h2 h3 => ⟨rfl, d, _, h1, h2, ?_, ?_⟩⟩
  · rw [upd_ne hne] at hd
    exact hd
  · rw [upd_ne hne] at hd
    have hgd : G1 d = none := a1.gh.free hd
    have st : Step G1 H1 (upd G1 d (.xd [(fld, v)])) (upd (del H' a) d (.xd [(fld, v)])) := by
      refine ⟨fun b o z => by rw [upd_ne (ne_of_none z hgd)]; exact z, fun b o z => ?_, fun b o z => ?_, fun b z1 z2 => ?_⟩
      · have ba : b ≠ a := ne_of_none z hna
        rw [upd_ne (ne_of_none z hd), del_ne ba]
        exact h3 b o ba (by rw [upd_ne ba]; exact z)
      · by_cases hb : b = d
        · subst hb
          rw [upd_same] at z ⊢
          exact z
        · rw [upd_ne hb] at z ⊢
          have ba : b ≠ a := ne_of_none z hg0
          rw [del_ne ba]
          exact h3 b o ba (by rw [upd_ne ba]; exact a1.gh _ _ z)
      · rw [upd_ne (fun z => z1 (by rw [z]; exact hd))]
        exact z2
    exact ps.ex ρ w1 _ hx _ _ σ _ _ (s1.trans st.gg) (a1.step st) (sl.up (s1.trans st.gg)) ⟨rfl, d, v, rfl, upd_same, R.mo _ _ _ st.gg rv⟩
end
/-! ### what an f-string tells: some text -/
def prInt : Rl := ⟨fun v _ => ∃ i : Int, v = .int i ∧ i.natAbs.log2 < 1920, fun _ _ _ _ h => h⟩
def prStr : Rl := ⟨fun v _ => ∃ z : Str, v = .str z ∧ z.length ≤ 100000, fun _ _ _ _ h => h⟩
theorem strlen_app (a b : Str) : (a ++ b).length = a.length + b.length := by
  show (a.cps ++ b.cps).size = a.cps.size + b.cps.size
  rw [Array.size_append]
theorem fmt_int {X : Cx} {e : Expr} {i : Nat} {pos : Pos} {x : Str} (hN : X.N[i]? = some x) (hv : Vis X.env.scope x) (hd : (x == ("__debug__" : Str)) = false) (hcd : (x == ("__classdict__" : Str)) = false) {p1 : Pos} :
    ∃ te, PE X (.FormattedValue (.Name x p1) (-1) none pos) te ∧ ∀ σ H v, σ[i]? = some (some v) → (prInt.r v H ∨ prStr.r v H) → ∀ Q : VK, (∀ y : Str, y.length ≤ 101000 → Q (.str y) H) → te σ H Q :=
  ⟨_, pe_fmt (pe_var hN hv hd hcd), fun σ H v h1 h2 Q q => ⟨v, h1, by
    rcases h2 with ⟨n, rfl, h2⟩ | ⟨z, rfl, h2⟩
    · exact .inr ⟨n, rfl, h2, q _ (Nat.le_trans (int_text_len_1921 h2) (by decide))⟩
    · exact .inl ⟨z, rfl, Nat.le_trans h2 (by decide), q z (Nat.le_trans h2 (by decide))⟩⟩⟩
theorem empty_app (a : Str) : (Str.empty ++ a).length = a.length := by
  rw [strlen_app]
  exact Nat.zero_add _
/-- f"{x} .." -/
theorem txt_fc {X : Cx} {i : Nat} {x t : Str} {p1 p2 p3 p4 : Pos} {j : Nat} (hN : X.N[i]? = some x) (hv : Vis X.env.scope x) (hd : (x == ("__debug__" : Str)) = false) (hcd : (x == ("__classdict__" : Str)) = false) (ht : t.length ≤ 1000) {Pr : Rl} (hPr : ∀ v H, Pr.r v H → prInt.r v H ∨ prStr.r v H) :
    Txt1 X (.JoinedStr [.FormattedValue (.Name x p1) (-1) none p2, .Constant (.str t) j p3] p4) i Pr := by
  obtain ⟨te, h1, h2⟩ := fmt_int (X := X) (e := .Name x p1) (pos := p2) (p1 := p1) hN hv hd hcd
  refine ⟨_, pe_joined (.cons h1 (.cons pe_str .nil)), fun σ H v h3 h4 Q q => ?_⟩
  refine h2 σ H v h3 (hPr _ _ h4) _ fun y hy => ⟨y, rfl, ?_, t, rfl, ?_, q _ _ (Same.refl _)⟩
  · rw [empty_app]
    exact Nat.le_trans hy (by decide)
  · rw [strlen_app, empty_app]
    exact Nat.le_trans (Nat.add_le_add hy ht) (by decide)
/-- f".. {x}" -/
theorem txt_cf {X : Cx} {i : Nat} {x t : Str} {p1 p2 p3 p4 : Pos} {j : Nat} (hN : X.N[i]? = some x) (hv : Vis X.env.scope x) (hd : (x == ("__debug__" : Str)) = false) (hcd : (x == ("__classdict__" : Str)) = false) (ht : t.length ≤ 1000) {Pr : Rl} (hPr : ∀ v H, Pr.r v H → prInt.r v H ∨ prStr.r v H) :
    Txt1 X (.JoinedStr [.Constant (.str t) j p3, .FormattedValue (.Name x p1) (-1) none p2] p4) i Pr := by
  obtain ⟨te, h1, h2⟩ := fmt_int (X := X) (e := .Name x p1) (pos := p2) (p1 := p1) hN hv hd hcd
  refine ⟨_, pe_joined (.cons pe_str (.cons h1 .nil)), fun σ H v h3 h4 Q q => ⟨t, rfl, ?_, ?_⟩⟩
  · rw [empty_app]
    exact Nat.le_trans ht (by decide)
  · refine h2 σ H v h3 (hPr _ _ h4) _ fun y hy => ⟨y, rfl, ?_, q _ _ (Same.refl _)⟩
    rw [strlen_app, empty_app]
    exact Nat.le_trans (Nat.add_le_add ht hy) (by decide)
end W1
set_option maxRecDepth 100000
set_option maxHeartbeats 2000000
namespace W1
open PySem PySem.Spec PyProof.Rows L2

/-! ### an own class's operators -/
structure OwnM (K : PySem.W.Frag) (C : Addr) (dn : Str) (g : Addr) : Prop where
  at_ : PySem.W.findIn K (.ref C) dn = some (some (.ref g))
  fn : PySem.W.isFn K (.ref g) = true
structure ClsX (K : PySem.W.Frag) (C : Addr) : Prop where
  cls : Cls K C
  first : PySem.W.selfFirst K C = true
  ca : PySem.W.findIn K (.ref C) "__class__" = some (some (.builtin "object.__class__"))
  cn : PySem.W.specialIn K (.builtin "object.__class__") "__get__" = some (some (.builtin "getset_descriptor.__get__"))
  ct : PySem.W.takesIn K (.builtin "object.__class__") = some true
  cm : PySem.W.mroIn K C (.type "object") = some true
section
variable {X : Cx} {pins : List (Addr × Obj)} {σ : L2.St} {H : Hp} {s : Shared} {a C dx g k : Nat} {fs : List (Str × V)} {fd : FuncData} {ps : List Str} {sp : Sp} {E : Value → Shared → Prop}
theorem inst_at (I : Inv X pins σ H s) (e : H a = some (.ins C dx fs)) : ∃ od, PySem.W.InstAt s.heap a (PySem.W.instObj C dx) C (some od) := by
  obtain ⟨mA, O, _, _, _, _⟩ := ins_get I.hok e
  obtain ⟨od, J, _⟩ := O.look
  exact ⟨od, J⟩
/-- a callee that raises nothing, below the running body -/
theorem run_below {A : Around} {Q : VK} {us : List Value} {vs : List V} (F : FnOk X.prog X.w X.K X.mg X.base (L2.CX X.prog X.w) k g fd ps sp) (hr : Room k A) (e0 : Env0 X.prog X.w X.K X.mg X.base A X.stack s H) (hb : Binds X.K fd ps []) (I : Inv X pins σ H s) (r : Vals vs us) (h : sp vs H Q E0)
    (E : Value → Shared → Prop) : wpAny (model X.prog X.w) A (call (.ref g) us) (EP X pins σ Q) E s := by
  have hl : us.length = ps.length := by rw [← r.length]; exact F.len _ _ _ _ h
  have b := hb s us I.kIn (by rw [List.append_nil]; exact hl)
  rw [List.append_nil] at b
  refine wpAny_call (codeAny_mono (F.run A X.stack s H ⟨us, []⟩ us vs Q E0 hr e0 b r h) fun r s' hq => ?_)
  cases r with
  | error e =>
    obtain ⟨_, _, _, _, _, _, _, _, _, _, _, _, z⟩ := hq
    exact z.elim
  | ok fl =>
    cases fl with
    | ret u => exact I.after hq
    | next => exact False.elim hq
    | brk => exact False.elim hq
    | cont => exact False.elim hq
/-- a == y by an own def; the type of y is no class below C -/
inductive TyE (K : PySem.W.Frag) (H : Hp) : V → Value → Prop where
  | int (i : Int) : TyE K H (.int i) (.type "int")
  | str (z : Str) : TyE K H (.str z) (.type "str")
  | bl (b : Bool) : TyE K H (.bl b) (.type "bool")
  | non : TyE K H .non (.type "NoneType")
  | ins {b D dy : Addr} {ws : List (Str × V)} (h : H b = some (.ins D dy ws)) : TyE K H (.ref b) (.ref D)
  | lst {b : Addr} {xs : List V} (h : H b = some (.lst xs)) : TyE K H (.ref b) (.type "list")
  | tup {b : Addr} {xs : List V} (h : H b = some (.tup xs)) : TyE K H (.ref b) (.type "tuple")
theorem tye_looks {y : V} {u t : Value} (I : Inv X pins σ H s) (r : RelV y u) (h : TyE X.K H y t) : PySem.W.Looks (model X.prog X.w) s.heap (typeOf u) t := by
  cases h with
  | int i => obtain ⟨tk, rfl⟩ := r; exact PySem.W.Looks.of_pure rfl
  | str z => obtain ⟨tk, rfl⟩ := r; exact PySem.W.Looks.of_pure rfl
  | bl b => cases (show u = Value.bool b from r); exact PySem.W.Looks.of_pure rfl
  | non => cases (show u = Value.none from r); exact PySem.W.Looks.of_pure rfl
  | @ins b D dy ws h =>
    cases (show u = Value.ref b from r)
    obtain ⟨od', J'⟩ := inst_at I h
    exact J'.type
  | @lst b xs h =>
    cases (show u = Value.ref b from r)
    obtain ⟨_, its, n, _, e⟩ := (show ObjOk X.prog X.w H s.heap b (.lst xs) from I.hok b _ h)
    exact fun A Q E s k q => wpAny_typeOf_ref (k _ _ e) q
  | @tup b xs h =>
    cases (show u = Value.ref b from r)
    obtain ⟨_, its, _, o, e, c, _⟩ := (show ObjOk X.prog X.w H s.heap b (.tup xs) from I.hok b _ h)
    exact fun A Q E s k q => wpAny_typeOf_ref (k _ _ e) (by rw [c]; exact q)
def rOwnE (K : PySem.W.Frag) (C : Addr) (sp : Sp) : R2 := fun x y H Q => ∃ a dx vs t, x = .ref a ∧ H a = some (.ins C dx vs) ∧ TyE K H y t ∧ PySem.W.notFirst K C t = true ∧ sp [x, y] H Q E0
theorem rc_own {A : Around} {Q : VK} {a : Addr} {y : V} {u t : Value} (m : OwnM X.K C "__eq__" g) (F : FnOk X.prog X.w X.K X.mg X.base (L2.CX X.prog X.w) k g fd ps sp) (hr : Room k A) (e0 : Env0 X.prog X.w X.K X.mg X.base A X.stack s H) (hb : Binds X.K fd ps []) (I : Inv X pins σ H s)
    (ha : H a = some (.ins C dx fs)) (ry : RelV y u) (ty : TyE X.K H y t) (hn : PySem.W.notFirst X.K C t = true) (q : sp [.ref a, y] H Q E0) (E : Value → Shared → Prop) : wpAny (model X.prog X.w) A (richCompare .Eq (.ref a) u) (EP X pins σ Q) E s := by
  obtain ⟨od, J⟩ := inst_at I ha
  obtain ⟨mm, hF⟩ := I.fr
  refine PySem.W.cmp_K (op := .Eq) hr.units0 hF I.ok.mod.kin J (tye_looks I ry ty) hn m.at_ m.fn ?_
  refine wpAny_mono (run_below (us := [.ref a, u]) (vs := [.ref a, y]) F hr e0 hb I (.cons rfl (.cons ry .nil)) q _) (fun w s' z => ?_) fun _ _ x => x
  obtain ⟨z', H', I', rz, qz⟩ := z
  exact SlX.cmpback rz ⟨z', H', I', rz, qz⟩
theorem op_ownE (m : OwnM X.K C "__eq__" g) (F : FnOk X.prog X.w X.K X.mg X.base (L2.CX X.prog X.w) k g fd ps sp) (hr : Room k X.A) (hb : Binds X.K fd ps []) : OpR X (compareOp .Eq) (rOwnE X.K C sp) := by
  intro pins s σ H x y v u Q I rx ry h
  obtain ⟨a, dx, vs, t, rfl, ha, ty, hn, q⟩ := h
  cases (show v = Value.ref a from rx)
  show wpAny _ _ (richCompare .Eq (.ref a) u) _ _ _
  exact rc_own m F hr I.env0 hb I ha ry ty hn q _
end

section
variable {F : Fx} {ρ : Ty} {ω w w1 w2 wc wc' : Ow} {e o : Expr} {es : List Expr} {A B R S : Rl} {Rs : List Rl} {P : Er} {pos p apos : Pos} {x m : Str} {k : Nat} {f C g pc : Addr} {fd : FuncData} {ps : List Str} {pre : Pre} {fs gs : List (Str × Rl)} {b : Bool}
theorem mk1 {v : V} {H : Hp} (h : R.r v H) : All2 [R] [v] H := ⟨h, trivial⟩
theorem mk2 {u v : V} {H : Hp} (h : R.r u H) (h' : S.r v H) : All2 [R, S] [u, v] H := ⟨h, h', trivial⟩
theorem sp_ok0 {vs : List V} {G H : Hp} {Q : VK} (at_ : At F w G H) (hv : All2 Rs vs G) (hp : pre Rs [] (.ok R) []) (q : ∀ v G2 H2, Same G G2 → At F w G2 H2 → R.r v G2 → Q v H2) {E : XK} : spM pre vs H Q E := sp_ok (wc := []) (w := w) at_ hv hp rfl q
/-- the type of what is compared with -/
def TyR (K : PySem.W.Frag) (B : Rl) (t : Value) : Prop := ∀ v G H, Same G H → B.r v G → TyE K H v t
theorem tyr_ins {K : PySem.W.Frag} : TyR K (rIns C fs) (.ref C) := fun v G H s h => by
  obtain ⟨a, dx, vs, rfl, h1, h2⟩ := h
  exact .ins (s _ _ h1)
theorem bop_ownE {t : Value} (hp : pre [rIns C fs, B] [] (.ok R) []) (ht : TyR F.X.K B t) (hn : PySem.W.notFirst F.X.K C t = true) (Fn : FnOk F.X.prog F.X.w F.X.K F.X.mg F.X.base (L2.CX F.X.prog F.X.w) k g fd ps (spM pre)) (m : OwnM F.X.K C "__eq__" g) (hr : Room k F.X.A) (hb : Binds F.X.K fd ps []) :
    Bop F w (compareOp .Eq) (rIns C fs) B R := ⟨_, op_ownE m Fn hr hb, fun x y G H at_ hx hy Q q => by
  obtain ⟨a, dx, vs, rfl, h1, h2⟩ := id hx
  exact ⟨a, dx, vs, t, rfl, at_.gh _ _ h1, ht y G H at_.gh hy, hn, sp_ok0 at_ (mk2 hx hy) hp q⟩⟩
/-- isinstance(x, C) -/
theorem cop_isIns (c : ClsX F.X.K C) : Cop F w (.builtin "isinstance") [rIns C fs, rRef C] (rBool true) := ⟨_, call_isi, fun xs G H at_ hx Q q => by
  obtain ⟨x, y, rfl, hx1, hy⟩ := all2 hx
  cases (show y = V.ref C from hy)
  obtain ⟨a, dx, vs, rfl, h1, h2⟩ := id hx1
  exact ⟨_, _, .ref C, .ref C, true, rfl, .own C, .base (.ins (at_.gh _ _ h1) c.cls c.ca c.cn c.ct c.cm), (by unfold PySem.W.kitOne; rw [if_pos (by simp)]), q _ G H (Same.refl _) at_ rfl⟩⟩
theorem cop_isNot {t : V} {tv : Value} (ht : (∃ i, t = .int i ∧ tv = .type "int") ∨ (∃ z, t = .str z ∧ tv = .type "str") ∨ (∃ k, t = .bl k ∧ tv = .type "bool") ∨ (t = .non ∧ tv = .type "NoneType")) (hk : PySem.W.kitOne F.X.K tv (.ref C) = some b) : Cop F w (.builtin "isinstance") [rEqV t, rRef C] (rBool b) := ⟨_, call_isi, fun xs G H at_ hx Q q => by
  obtain ⟨x, y, rfl, hx1, hy⟩ := all2 hx
  cases (show y = V.ref C from hy)
  cases (show x = t from hx1)
  refine ⟨_, _, tv, .ref C, b, rfl, .own C, .base ?_, hk, q _ G H (Same.refl _) at_ rfl⟩
  rcases ht with ⟨i, rfl, rfl⟩ | ⟨z, rfl, rfl⟩ | ⟨z, rfl, rfl⟩ | ⟨rfl, rfl⟩
  · exact .int i
  · exact .str z
  · exact .bl z
  · exact .non⟩
end
end W1
set_option maxRecDepth 100000
set_option maxHeartbeats 2000000
namespace W1
open PySem PySem.Spec PyProof.Rows L2

/-! ### list comprehensions -/
def wipeT (ρ : Ty) : List Nat → Ty
  | [] => ρ
  | v :: vs => (wipeT ρ vs).set v none
theorem Slots.wipe {ρ : Ty} {σ : L2.St} {G : Hp} (s : Slots ρ σ G) : ∀ vs : List Nat, Slots (wipeT ρ vs) (L2.wipe σ vs) G
  | [] => s
  | v :: vs => (Slots.wipe s vs).gone v
/-- a comprehension's target -/
def GEw (g : TG) (vs : List Nat) (ρ : Ty) (S : Rl) (ρ' : Ty) : Prop :=
  ∀ v σ G H (Q : L2.St → Hp → Prop), Same G H → Slots ρ σ G → S.r v G → (∀ σ2, L2.wipe σ2 vs = L2.wipe σ vs → Slots ρ' σ2 G → Q σ2 H) → g v (L2.wipe σ vs) H Q
theorem gew_name {i : Nat} {ρ : Ty} {S : Rl} : GEw (gName i) [i] ρ S ((ρ.set i none).set i (some S)) := fun v σ G H Q s sl r q =>
  q _ (by show ((σ.set i none).set i (some v)).set i none = σ.set i none; rw [List.set_set, List.set_set]) ((sl.gone i).set i r)
def oL (Rs : List Rl) : Ol := ⟨fun o G => ∃ vs, o = .lst vs ∧ All2 Rs vs G, fun _ _ _ e ⟨vs, a, b⟩ => ⟨vs, a, b.up e⟩⟩
/-- a block's context -/
abbrev blkF (F : Fx) (s : Shared) (H : Hp) (scope : Scope) (C : Addr) (cl : List (Str × Addr)) (fp : List Addr) : Fx :=
  ⟨F.X.blk s H scope (compEnvC scope cl C F.X.env) fp, F.G0, F.H0, F.M, fun _ _ _ _ => False, fun _ _ ⟨_, _, _, _, _, _, _, _, _, _, _, _, _, _, _, _, z⟩ => z.elim⟩
theorem At.to {F F' : Fx} {ω : Ow} {G H : Hp} (a : At F ω G H) (h1 : F'.G0 = F.G0 := by rfl) (h2 : F'.H0 = F.H0 := by rfl) (h3 : F'.M = F.M := by rfl) : At F' ω G H := by
  obtain ⟨X, G0, H0, M, W, tk⟩ := F
  obtain ⟨X', G0', H0', M', W', tk'⟩ := F'
  dsimp only at h1 h2 h3
  subst h1 h2 h3
  exact ⟨a.gg, a.hh, a.gh, a.fr, a.mm, a.ow, a.nd⟩
section
variable {F : Fx} {ρ : Ty} {ω w1 : Ow} {tg it elt c : Expr} {pos spos : Pos} {scope : Scope} {own : List (Str × Nat)} {g : TG} {ifs : List Expr} {α : Type}
theorem lc_gen {xs : List α} {A B : α → Rl} {p : α → Bool} {wi : TI} {tt : TT} {ρ' : α → Ty}
    (hwi : ∀ σ G H, At F ω G H → Slots ρ σ G → ∀ R : It → Hp → Prop, (∀ J G2 H2, Same G G2 → At F w1 G2 H2 → Yld J (xs.map A) G2 → R J H2) → wi σ H R) (hz : xs.length ≤ 100000)
    (hge : ∀ (i : Nat) a, xs[i]? = some a → GEw g (own.map (·.2)) ρ (A a) (ρ' a))
    (htt : ∀ (i : Nat) a, xs[i]? = some a → ∀ d σ2 G H, At F (d :: w1) G H → Slots (ρ' a) σ2 G → ∀ Q : Bool → Hp → Prop, (∀ G3 H3, Same G G3 → At F (d :: w1) G3 H3 → Q (p a) H3) → tt σ2 H Q)
    (he : ∀ (i : Nat) a, xs[i]? = some a → p a = true → ∀ s H0 C cl fp d, ER (blkF F s H0 scope C cl fp) (ρ' a) (d :: w1) elt (B a) (d :: w1))
    {σ : L2.St} {G H : Hp} (at_ : At F ω G H) (sl : Slots ρ σ G) {Q : VK} (q : ∀ v G2 H2, Same G G2 → At F w1 G2 H2 → (rLst ((xs.filter p).map B)).r v G2 → Q v H2) :
    tLc wi g tt (fun σ H Q => ∀ s H0 C cl fp, EW (F.X.blk s H0 scope (compEnvC scope cl C F.X.env) fp) elt σ H Q) (own.map (·.2)) σ H Q := by
  refine hwi σ G H at_ sl _ fun J G2 H2 s2 a2 y2 => fun D hD => ?_
  have hM : D ∉ F.M := fun hm => a2.mm D hm hD
  refine ⟨fun i m H => m = xs.length - i ∧ i ≤ xs.length ∧ ∃ G, At F ((D, oL (((xs.take i).filter p).map B)) :: w1) G H ∧ Same G2 G, ⟨xs.length, by simp, Nat.zero_le _, G2, a2.own hD ⟨[], rfl, trivial⟩, Same.refl _⟩, ?_⟩
  rintro i m H1 ⟨rfl, hi, G1, a1, s1⟩
  have hlen : (xs.map A).length = xs.length := List.length_map _
  by_cases hlt : i < xs.length
  · have hgo : xs[i]? = some xs[i] := List.getElem?_eq_getElem hlt
    have htake : xs.take (i + 1) = xs.take i ++ [xs[i]] := by rw [List.take_add_one, hgo]; rfl
    refine .inr ⟨y2.go i G1 H1 s1 a1.gh (by rw [hlen]; exact hlt), fun H' => ∃ G, At F ((D, oL (((xs.take (i + 1)).filter p).map B)) :: w1) G H' ∧ Same G2 G, fun H' z => ⟨xs.length - (i + 1), by omega, rfl, hlt, z⟩, fun x H' y => ?_⟩
    obtain ⟨G3, st, rx⟩ := y2.yld i (A xs[i]) G1 H1 x H' s1 a1.gh (by rw [List.getElem?_map, hgo]; rfl) y
    have a3 := a1.step st
    have s3 := s1.trans st.gg
    refine hge i _ hgo x σ G3 H' _ a3.gh ((sl.up s2).up s3) rx fun σ2 hw sl2 => ⟨hw, htt i _ hgo _ σ2 G3 H' a3 sl2 _ fun G4 H4 s4 a4 => ?_⟩
    cases hp : p xs[i] with
    | false =>
      refine iteF ⟨G4, ?_, s3.trans s4⟩
      rw [htake, List.filter_append, List.filter_cons, hp]
      simp only [Bool.false_eq_true, if_false, List.filter_nil, List.append_nil]
      exact a4
    | true =>
      refine iteT fun s H0 C cl fp => he i _ hgo hp s H0 C cl fp _ σ2 G4 H4 a4.to (sl2.up s4) _ fun v G5 H5 s5 a5' r5 => ?_
      have a5 : At F ((D, oL (((xs.take i).filter p).map B)) :: w1) G5 H5 := a5'.to
      obtain ⟨_, _, o, h1, vs, rfl, h2⟩ := a5.ow _ List.mem_cons_self
      have hl2 : vs.length ≤ xs.length := by
        rw [← h2.len, List.length_map]
        exact Nat.le_trans (List.length_filter_le _ _) (List.length_take_le _ _ |> fun z => Nat.le_trans z hi)
      refine ⟨vs, h1, Nat.lt_of_le_of_lt (Nat.le_trans hl2 hz) (by decide), G5, ?_, (s3.trans s4).trans s5⟩
      rw [htake, List.filter_append, List.filter_cons, hp]
      simp only [if_true, List.filter_nil, List.map_append, List.map_cons, List.map_nil]
      exact a5.chg ⟨_, rfl, h2.app (mk1 r5)⟩
  · have e : i = xs.length := by omega
    subst e
    refine .inl ⟨by have := y2.stop G1 H1 s1 a1.gh; rw [hlen] at this; exact this, ?_⟩
    rw [List.take_length] at a1
    obtain ⟨hg0, _, o, h1, vs, rfl, h2⟩ := a1.ow _ List.mem_cons_self
    have a5 := a1.pub h1 (At.own0 a1 hM)
    have sg : Same G1 (upd G1 D (.lst vs)) := fun b u e => by rw [upd_ne (ne_of_none e hg0)]; exact e
    exact q _ _ _ ((s2.trans s1).trans sg) a5 ⟨D, vs, rfl, upd_same, h2.up sg⟩
theorem filt_true {xs : List α} : xs.filter (fun _ => true) = xs := by
  induction xs with
  | nil => rfl
  | cons a l ih => rw [List.filter_cons, if_pos rfl, ih]
/-- [elt for tg in it] -/
theorem er_lc {xs : List α} {A B : α → Rl} {ρ' : α → Ty} (hit : IT F ρ ω tg it (xs.map A) w1) (hz : xs.length ≤ 100000) (own : List (Str × Nat)) (ok : BlkOk F.X.N F.X.env.scope scope own)
    (hpg : ∀ (s : Shared) (H : Hp) (C : Addr) (cl : List (Str × Addr)) (fp : List Addr), PG (F.X.blk s H scope (compEnvC scope cl C F.X.env) fp) tg g) (hge : ∀ (i : Nat) a, xs[i]? = some a → GEw g (own.map (·.2)) ρ (A a) (ρ' a))
    (he : ∀ (i : Nat) a, xs[i]? = some a → ∀ s H0 C cl fp d, ER (blkF F s H0 scope C cl fp) (ρ' a) (d :: w1) elt (B a) (d :: w1))
    (hN : F.X.N.Nodup) (hc : F.X.calm = true := by rfl) (hs : ∀ z, foldedSetIterable it F.X.env z = pure z := by intro _; rfl) : ER F ρ ω (.ListComp elt [⟨tg, it, [], 0⟩] scope pos) (rLst (xs.map B)) w1 := fun σ G H at_ sl Q q => by
  obtain ⟨wi, hpi, hwi⟩ := hit
  refine ew_of (pe_lc hc hN hpi ok hpg (fun _ _ _ _ _ => pts_nil) (te := fun σ H Q => ∀ s H0 C cl fp, EW (F.X.blk s H0 scope (compEnvC scope cl C F.X.env) fp) elt σ H Q) (fun _ _ _ _ _ => ⟨fun pins s σ H Q I h => h _ _ _ _ _ pins s I⟩) hs) ?_
  refine lc_gen (p := fun _ => true) (tt := tYes) hwi hz hge (fun i a h d σ2 G H a1 s1 Q q => q G H (Same.refl _) a1) (fun i a h _ => he i a h) at_ sl fun v G2 H2 s2 a2 r2 => q v G2 H2 s2 a2 ?_
  rw [filt_true] at r2
  exact r2
end
end W1
set_option maxRecDepth 100000
set_option maxHeartbeats 2000000
namespace W1Q
open PySem PySem.SeqAt
open AutoSeq1 (wpAny_loadPart')
open MeetsSeq MeetsSeq2 MeetsSeq3 SeqRoads2

/-- all of k answers from the i-th on -/
def allFrom (e : Nat → Bool) : Nat → Nat → Bool
  | _, 0 => true
  | i, k + 1 => e i && allFrom e (i + 1) k
abbrev lstO (items : Array Value) (n : Nat) : Obj := { cls := .type "list", data := .seq items n }
theorem past {xs : Array Value} {i : Nat} (h : xs.size ≤ i) : xs[((i : Nat) : Int).toNat]? = none := Array.getElem?_eq_none h
theorem here {xs : Array Value} {i : Nat} (h : i < xs.size) : xs[((i : Nat) : Int).toNat]? = some xs[i] := Array.getElem?_eq_getElem h
section
variable {prog : Program} {w : World} {A : Around} {R : Result → Shared → Prop} {l b : Addr} {e : Nat → Bool} {I : Nat → Shared → Prop}
/-- two lists at l and b of N items each; whatever a comparison changes keeps I -/
def Two (prog : Program) (w : World) (A : Around) (E : Value → Shared → Prop) (l b : Addr) (N : Nat) (e : Nat → Bool) (I : Nat → Shared → Prop) : Prop :=
  ∀ i s, I i s → ∃ (xs ys : Array Value) (m n : Nat), s.heap.get? l = some (lstO xs m) ∧ s.heap.get? b = some (lstO ys n) ∧ xs.size = N ∧ ys.size = N ∧
    ∀ (h1 : i < xs.size) (h2 : i < ys.size), wpAny (model prog w) A (eqBool xs[i] ys[i]) (fun r s' => r = e i ∧ I (i + 1) s') E s
/-- the two comparisons, by one bit: false is ==, true is != -/
def bit (neg : Bool) : Int := if neg then 3 else 2
/-- the comparison's loop, both kinds at once; k items are left -/
theorem cmp_go (neg : Bool) {N : Nat} (T : Two prog w A.in1 (fun v s' => R (.error v) s') l b N e I) : ∀ (k i : Nat), i + k = N → ∀ s, I i s → (∀ j s', I j s' → R (.ok (.ret (.bool (neg != allFrom e i k)))) s') →
    wpAny (model prog w) A.in1 (Builtin.«list.__eq__.loop» ⟨[.ref l, .ref b, rawInt i, rawInt (bit neg)], []⟩) (GQ.FinOf prog w A R) (fun v s' => R (.error v) s') s
  | 0, i, hk, s, h, fin => by
    obtain ⟨xs, ys, m, n, gx, gy, zx, zy, -⟩ := T i s h
    have last := fin i s h
    cases s
    cases neg
    all_goals
      wp_walk using wpAny_loadPart' gx, wpAny_loadPart' gy
      rw [past (by omega : xs.size ≤ i), past (by omega : ys.size ≤ i)]
      wp_walk using wpAny_loadPart' gx, wpAny_loadPart' gy
    · show R (.ok (.ret (.bool (xs.size == ys.size)))) _
      rw [zx, zy, beq_self_eq_true]
      exact last
    · show R (.ok (.ret (.bool (xs.size != ys.size)))) _
      rw [zx, zy, bne_self_eq_false]
      exact last
  | k + 1, i, hk, s, h, fin => by
    obtain ⟨xs, ys, m, n, gx, gy, zx, zy, ask⟩ := T i s h
    have ix : i < xs.size := by omega
    have iy : i < ys.size := by omega
    have asked := ask ix iy
    have goes : e i = true → ∀ s2, I (i + 1) s2 → wpAny (model prog w) A.in1 (Builtin.«list.__eq__.loop» ⟨[.ref l, .ref b, rawInt ((i + 1 : Nat) : Int), rawInt (bit neg)], []⟩) (GQ.FinOf prog w A R) (fun v s' => R (.error v) s') s2 := fun he s2 h2 =>
      cmp_go neg T k (i + 1) (by omega) s2 h2 fun j s' z => by
        have := fin j s' z
        rw [allFrom, he, Bool.true_and] at this
        exact this
    have ends : e i = false → ∀ s2, I (i + 1) s2 → R (.ok (.ret (.bool neg))) s2 := fun he s2 h2 => by
      have := fin _ s2 h2
      rw [allFrom, he, Bool.false_and, Bool.bne_false] at this
      exact this
    have read2 : ∀ s2, I (i + 1) s2 → ∃ (us vs : Array Value) (m' n' : Nat), s2.heap.get? l = some (lstO us m') ∧ s2.heap.get? b = some (lstO vs n') ∧ i < us.size ∧ i < vs.size := fun s2 h2 => by
      obtain ⟨us, vs, m', n', g1, g2, z1, z2, -⟩ := T _ s2 h2
      exact ⟨us, vs, m', n', g1, g2, by omega, by omega⟩
    clear ask fin h
    cases s
    cases neg
    all_goals
      wp_walk using wpAny_loadPart' gx, wpAny_loadPart' gy
      rw [here ix, here iy]
      refine wpAny_bind (wpAny_mono asked (fun r s2 got => ?_) fun _ _ x => x)
      obtain ⟨rfl, h2⟩ := got
      obtain ⟨us, vs, m', n', g1, g2, j1, j2⟩ := read2 s2 h2
      cases he : e i
    all_goals first
      | (have fine := ends he s2 h2
         cases s2
         wp_walk using wpAny_loadPart' g1, wpAny_loadPart' g2
         rw [here j1, here j2]
         wp_walk
         exact fine)
      | (have next := goes he s2 h2
         cases s2
         wp_walk
         refine ⟨plainId_quiet plain_eq_loop _, codeAny_builtin entry_eq_loop ?_⟩
         rw [Around.under_plainId plain_eq_loop _]
         exact next)
end
section
variable {prog : Program} {w : World} {A : Around} {E : Value → Shared → Prop} {s : Shared} {l b : Addr} {e : Nat → Bool} {I : Nat → Shared → Prop} {Q : Value → Shared → Prop}
/-- what the loop says, as the whole comparison's word -/
theorem cmp_whole (neg : Bool) {N : Nat} (T : Two prog w A.in1 E l b N e I) (h : I 0 s) (fin : ∀ j s', I j s' → Q (.bool (neg != allFrom e 0 N)) s') :
    wpAny (model prog w) A.in1 (Builtin.«list.__eq__.loop» ⟨[.ref l, .ref b, rawInt (0 : Nat), rawInt (bit neg)], []⟩) (GQ.FinOf prog w A (wants (fun v s' => v ≠ .notImplemented ∧ Q v s') E)) (fun v s' => wants (fun v s' => v ≠ .notImplemented ∧ Q v s') E (.error v) s') s :=
  cmp_go neg T N 0 (Nat.zero_add N) s h fun j s' z => ⟨Value.noConfusion, fin j s' z⟩
/-- the call up to the loop, both kinds -/
theorem cmp_call (neg : Bool) {xs ys : Array Value} {m n : Nat} (gx : s.heap.get? l = some (lstO xs m)) (gy : s.heap.get? b = some (lstO ys n)) (sz : xs.size = ys.size)
    (h : wpAny (model prog w) A.in1 (Builtin.«list.__eq__.loop» ⟨[.ref l, .ref b, rawInt (0 : Nat), rawInt (bit neg)], []⟩) (GQ.FinOf prog w A (wants (fun v s' => v ≠ .notImplemented ∧ Q v s') E)) (fun v s' => wants (fun v s' => v ≠ .notImplemented ∧ Q v s') E (.error v) s') s) (hu : A.units < cLine) :
    wpAny (model prog w) A (richCompare (if neg then .NotEq else .Eq) (.ref l) (.ref b)) Q E s := by
  have same : ¬ (xs.size != ys.size) = true := by rw [sz, bne_self_eq_false]; exact Bool.false_ne_true
  have sub := AutoSeq1.sub_list_list
  cases neg
  · refine wpAny_richCompare_same_room ⟨_, gx, rfl⟩ ⟨_, gy, rfl⟩ F.slot_list_eq (GQ.call_here F.slot_list_eq ⟨_, gx, rfl⟩ F.entry_list_eq (F.args_list_eq_2 _ _) ?_) hu
    cases s
    wp_walk using wpAny_loadPart' gx, wpAny_loadPart' gy
    refine ⟨plainId_quiet plain_eq_loop _, codeAny_builtin entry_eq_loop ?_⟩
    rw [Around.under_plainId plain_eq_loop _]
    exact h
  · refine wpAny_richCompare_same_room ⟨_, gx, rfl⟩ ⟨_, gy, rfl⟩ F.slot_list_ne (GQ.call_here F.slot_list_ne ⟨_, gx, rfl⟩ F.entry_list_ne (F.args_list_ne_2 _ _) ?_) hu
    cases s
    wp_walk using wpAny_loadPart' gx, wpAny_loadPart' gy
    refine ⟨plainId_quiet plain_eq_loop _, codeAny_builtin entry_eq_loop ?_⟩
    rw [Around.under_plainId plain_eq_loop _]
    exact h
/-- lists of unlike lengths -/
theorem cmp_unlike (neg : Bool) {xs ys : Array Value} {m n : Nat} (gx : s.heap.get? l = some (lstO xs m)) (gy : s.heap.get? b = some (lstO ys n)) (sz : xs.size ≠ ys.size) (q : Q (.bool neg) s) (hu : A.units < cLine) :
    wpAny (model prog w) A (richCompare (if neg then .NotEq else .Eq) (.ref l) (.ref b)) Q E s := by
  have differ : (xs.size != ys.size) = true := bne_iff_ne.mpr sz
  have sub := AutoSeq1.sub_list_list
  cases neg
  · refine wpAny_richCompare_same_room ⟨_, gx, rfl⟩ ⟨_, gy, rfl⟩ F.slot_list_eq (GQ.call_here F.slot_list_eq ⟨_, gx, rfl⟩ F.entry_list_eq (F.args_list_eq_2 _ _) ?_) hu
    cases s
    wp_walk using wpAny_loadPart' gx, wpAny_loadPart' gy
    exact ⟨Value.noConfusion, q⟩
  · refine wpAny_richCompare_same_room ⟨_, gx, rfl⟩ ⟨_, gy, rfl⟩ F.slot_list_ne (GQ.call_here F.slot_list_ne ⟨_, gx, rfl⟩ F.entry_list_ne (F.args_list_ne_2 _ _) ?_) hu
    cases s
    wp_walk using wpAny_loadPart' gx, wpAny_loadPart' gy
    exact ⟨Value.noConfusion, q⟩
theorem rc_any (neg : Bool) (hu : A.units < cLine) {N : Nat} (T : Two prog w A.in1 E l b N e I) (h : I 0 s) (fin : ∀ j s', I j s' → Q (.bool (neg != allFrom e 0 N)) s') : wpAny (model prog w) A (richCompare (if neg then .NotEq else .Eq) (.ref l) (.ref b)) Q E s := by
  obtain ⟨xs, ys, m, n, gx, gy, zx, zy, -⟩ := T 0 s h
  exact cmp_call neg gx gy (zx.trans zy.symm) (cmp_whole neg T h fin) hu
theorem rcn_list (hu : A.units < cLine) {N : Nat} (T : Two prog w A.in1 E l b N e I) (h : I 0 s) (fin : ∀ j s', I j s' → Q (.bool (!allFrom e 0 N)) s') : wpAny (model prog w) A (richCompare .NotEq (.ref l) (.ref b)) Q E s :=
  rc_any true hu T h fun j s' z => by rw [Bool.true_bne]; exact fin j s' z
theorem rcn_listL (hu : A.units < cLine) {xs ys : Array Value} {m n : Nat} (gx : s.heap.get? l = some (lstO xs m)) (gy : s.heap.get? b = some (lstO ys n)) (sz : xs.size ≠ ys.size) (q : Q (.bool true) s) : wpAny (model prog w) A (richCompare .NotEq (.ref l) (.ref b)) Q E s := cmp_unlike true gx gy sz q hu
end
end W1Q
set_option maxRecDepth 100000
set_option maxHeartbeats 2000000
namespace W1
open PySem PySem.Spec PyProof.Rows L2

/-! ### == inside built-ins -/
structure Below (X : Cx) (n : Nat) (A : Around) : Prop where
  room : Room n A
  fr : A.frames = X.A.frames
theorem Below.in1 {X : Cx} {n : Nat} {A : Around} (s : Below X (n + 1) A) : Below X n A.in1 := ⟨s.room.in1, s.fr⟩
theorem Below.mono {X : Cx} {n m : Nat} {A : Around} (s : Below X n A) (h : m ≤ n) : Below X m A := ⟨s.room.mono h, s.fr⟩
theorem Below.env {X : Cx} {n : Nat} {A : Around} {pins : List (Addr × Obj)} {σ : L2.St} {H : Hp} {s : Shared} (b : Below X n A) (I : Inv X pins σ H s) : Env0 X.prog X.w X.K X.mg X.base A X.stack s H := by
  have e := I.env0
  exact ⟨by rw [b.fr]; exact e.frames, e.mod, e.bs, e.bsz, e.funs, e.frf, e.hok, e.bare⟩
def EqB (X : Cx) (n : Nat) (A B : Rl) (b : Bool) : Prop :=
  ∀ (A' : Around) (pins : List (Addr × Obj)) (s : Shared) (σ : L2.St) (G H : Hp) (x y : V) (u v : Value) (E : Value → Shared → Prop), Below X n A' → Inv X pins σ H s → RelV x u → RelV y v → Same G H → A.r x G → B.r y G →
    wpAny (model X.prog X.w) A' (eqBool u v) (fun r s' => r = b ∧ ∃ G' H', Inv X pins σ H' s' ∧ Step G H G' H') E s
section
variable {X : Cx} {n k : Nat} {A B R : Rl} {b : Bool} {C g : Addr} {fd : FuncData} {ps : List Str} {pre : Pre} {fs gs : List (Str × Rl)}
theorem eqb_val {x y : V} (hx : flatV x = true) (hy : flatV y = true) : EqB X 0 (rEqV x) (rEqV y) (eqV x y) := by
  intro A' pins s σ G H x' y' u v E bl I rx ry sg ax ay
  cases (show x' = x from ax)
  cases (show y' = y from ay)
  exact eqAt_V (A := A') (s := s) rx ry hx hy X.prog X.w E _ ⟨rfl, G, H, I, Step.refl sg⟩
theorem EqB.mono {m : Nat} (h : EqB X n A B b) (hn : n ≤ m) : EqB X m A B b := fun A' pins s σ G H x y u v E bl => h A' pins s σ G H x y u v E (bl.mono hn)
theorem eqb_own (hp : pre [rIns C fs, rIns C gs] [] (.ok (rBool b)) []) (hid : ∀ a G, (rIns C fs).r (.ref a) G → (rIns C gs).r (.ref a) G → b = true) (hn : PySem.W.notFirst X.K C (.ref C) = true) (Fn : FnOk X.prog X.w X.K X.mg X.base (L2.CX X.prog X.w) k g fd ps (spM pre))
    (m : OwnM X.K C "__eq__" g) (hb : Binds X.K fd ps []) : EqB X k (rIns C fs) (rIns C gs) b := by
  intro A' pins s σ G H x y u v E bl I rx ry sg ax ay
  obtain ⟨a, dx, vs, rfl, h1, h2⟩ := id ax
  obtain ⟨c, dy, ws, rfl, h3, h4⟩ := id ay
  cases (show u = Value.ref a from rx)
  cases (show v = Value.ref c from ry)
  by_cases hac : a = c
  · subst hac
    have e := hid a G ax ay
    subst e
    unfold eqBool
    refine wpAny_holding ?_
    refine wpAny_ite_split (fun _ => wpAny_bind (wpAny_rule (wpAny_pure ?_))) (fun h => absurd (beq_self_eq_true _) h)
    exact ⟨rfl, G, H, I, Step.refl sg⟩
  · refine GQ.eqBool_refG hac ?_
    have st0 : At ⟨X, G, H, [], fun _ _ _ _ => False, takes0⟩ [] G H := ⟨Same.refl _, fun _ _ _ e => e, sg, fun _ _ e => e, fun _ h => by simp at h, fun _ h => by simp at h, by simp⟩
    refine wpAny_mono (rc_own (A := A') (Q := fun v H' => v = .bl b ∧ ∃ G', Step G H G' H') (y := .ref c) (t := .ref C) m Fn bl.room (bl.env I) hb I (sg _ _ h1) ry (.ins (sg _ _ h3)) hn ?_ E) (fun w s' z => ?_) fun _ _ x => x
    · exact sp_ok0 (Rs := [rIns C fs, rIns C gs]) st0 (mk2 ax ay) hp fun v G2 H2 s2 a2 r2 => ⟨r2, G2, ⟨s2, fun a o e => a2.hh a o (by simp) e, a2.gh, a2.fr⟩⟩
    · obtain ⟨z', H', I', rz, ez, G', st⟩ := z
      subst ez
      exact ⟨b, rz, rfl, G', H', I', st⟩
theorem getOf {Rs : List Rl} {vs : List V} {its : List Value} {H : Hp} (h : All2 Rs vs H) (r : Vals vs its) {i : Nat} (h1 : i < its.toArray.size) : ∃ R v, Rs[i]? = some R ∧ R.r v H ∧ RelV v its.toArray[i] := by
  have hi : i < its.length := by simpa using h1
  have hv : i < vs.length := by rw [r.length]; exact hi
  have hr : i < Rs.length := by rw [h.len]; exact hv
  obtain ⟨v, e1, e2⟩ := h.get (List.getElem?_eq_getElem hr)
  obtain ⟨u, e3, e4⟩ := r.get e1
  rw [List.getElem?_eq_getElem hi] at e3
  cases e3
  exact ⟨_, v, List.getElem?_eq_getElem hr, e2, by simpa using e4⟩
/-- lists: what stays through the turns -/
def LoopW (X : Cx) (pins : List (Addr × Obj)) (σ : L2.St) (G H : Hp) (s' : Shared) : Prop := ∃ G' H', Inv X pins σ H' s' ∧ Step G H G' H'
theorem lst_obj {pins : List (Addr × Obj)} {σ : L2.St} {H : Hp} {s : Shared} {p : Addr} {vs : List V} (I : Inv X pins σ H s) (h : H p = some (.lst vs)) : ∃ its nn, Vals vs its ∧ s.heap.get? p = some (W1Q.lstO its.toArray nn) := by
  obtain ⟨z, its, nn, r, e⟩ := (show ObjOk X.prog X.w H s.heap p (.lst vs) from I.hok p _ h)
  exact ⟨its, nn, r, e⟩
theorem two_of {Rs Ss : List Rl} {e : Nat → Bool} {A' : Around} {E : Value → Shared → Prop} {pins : List (Addr × Obj)} {σ : L2.St} {G H : Hp} {p q : Addr} {vs ws : List V}
    (he : ∀ (i : Nat) R S, Rs[i]? = some R → Ss[i]? = some S → EqB X n R S (e i)) (bl : Below X n A') (hp : H p = some (.lst vs)) (hq : H q = some (.lst ws)) (h1 : All2 Rs vs G) (h2 : All2 Ss ws G) (hsz : Rs.length = Ss.length) :
    W1Q.Two X.prog X.w A' E p q Rs.length e (fun _ s' => LoopW X pins σ G H s') := fun i s' ⟨G1, H1, I1, st1⟩ => by
  obtain ⟨its, nn, r1, o1⟩ := lst_obj I1 (st1.hh _ _ hp)
  obtain ⟨its2, nn2, r2, o2⟩ := lst_obj I1 (st1.hh _ _ hq)
  have l1 := h1.len
  have l2 := h2.len
  have l3 := r1.length
  have l4 := r2.length
  refine ⟨_, _, _, _, o1, o2, by simp only [List.size_toArray]; omega, by simp only [List.size_toArray]; omega, fun hi1 hi2 => ?_⟩
  obtain ⟨R, v, hR, rv, ru⟩ := getOf (h1.up st1.gg) r1 hi1
  obtain ⟨S, w, hS, rw', rx⟩ := getOf (h2.up st1.gg) r2 hi2
  refine wpAny_mono (he i R S hR hS A' pins s' σ G1 H1 v w _ _ E bl I1 ru rx st1.gh rv rw') (fun r s2 z => ?_) fun _ _ x => x
  obtain ⟨hr, G2, H2, I2, st2⟩ := z
  exact ⟨hr, G2, H2, I2, st1.trans st2⟩
theorem rcnl {Rs Ss : List Rl} {e : Nat → Bool} {A' : Around} {E : Value → Shared → Prop} {pins : List (Addr × Obj)} {s : Shared} {σ : L2.St} {G H : Hp} {p q : Addr} {vs ws : List V} {Q : Value → Shared → Prop}
    (he : ∀ (i : Nat) R S, Rs[i]? = some R → Ss[i]? = some S → EqB X n R S (e i)) (bl : Below X (n + 1) A') (I : Inv X pins σ H s) (sg : Same G H) (hp : G p = some (.lst vs)) (hq : G q = some (.lst ws)) (h1 : All2 Rs vs G) (h2 : All2 Ss ws G)
    (hQ : ∀ s', LoopW X pins σ G H s' → Q (.bool (!(decide (Rs.length = Ss.length) && W1Q.allFrom e 0 Rs.length))) s') : wpAny (model X.prog X.w) A' (richCompare .NotEq (.ref p) (.ref q)) Q E s := by
  have st0 : LoopW X pins σ G H s := ⟨G, H, I, Step.refl sg⟩
  by_cases hsz : Rs.length = Ss.length
  · rw [decide_eq_true hsz, Bool.true_and] at hQ
    exact W1Q.rcn_list bl.room.units0 (two_of (pins := pins) (σ := σ) he bl.in1 (sg _ _ hp) (sg _ _ hq) h1 h2 hsz) st0 fun j s' z => hQ s' z
  · rw [decide_eq_false hsz, Bool.false_and] at hQ
    obtain ⟨its, nn, r1, o1⟩ := lst_obj I (sg _ _ hp)
    obtain ⟨its2, nn2, r2, o2⟩ := lst_obj I (sg _ _ hq)
    have l1 := h1.len
    have l2 := h2.len
    have l3 := r1.length
    have l4 := r2.length
    exact W1Q.rcn_listL bl.room.units0 o1 o2 (by simp only [List.size_toArray]; omega) (hQ s st0)
end
/-! ### as operators -/
section
variable {F : Fx} {ω w : Ow} {A B R : Rl} {n : Nat}
/-- a rule by what it does -/
theorem bop_sem {f : Value → Value → Sem Value} (h : ∀ pins s σ G H x y u v Q, Inv F.X pins σ H s → RelV x u → RelV y v → Same G H → A.r x G → B.r y G → (∀ z G' H', Step G H G' H' → R.r z G' → Q z H') → wpAny (model F.X.prog F.X.w) F.X.A (f u v) (EP F.X pins σ Q) F.X.xe s) : Bop F w f A B R :=
  ⟨fun x y H Q => ∃ G, Same G H ∧ A.r x G ∧ B.r y G ∧ ∀ z G' H', Step G H G' H' → R.r z G' → Q z H', fun pins s σ H x y v u Q I rx ry ⟨G, sg, ax, ay, q⟩ => h pins s σ G H x y v u Q I rx ry sg ax ay q,
    fun x y G H at_ ax ay Q q => ⟨G, at_.gh, ax, ay, fun z G' H' st rz => q z G' H' st.gg (at_.step st) rz⟩⟩
theorem bop_neL {Rs Ss : List Rl} {e : Nat → Bool} (he : ∀ (i : Nat) R S, Rs[i]? = some R → Ss[i]? = some S → EqB F.X n R S (e i)) (hr : Room (n + 1) F.X.A) : Bop F w (compareOp .NotEq) (rLst Rs) (rLst Ss) (rBool (!(decide (Rs.length = Ss.length) && W1Q.allFrom e 0 Rs.length))) :=
  bop_sem fun pins s σ G H x y u v Q I rx ry sg ax ay q => by
    obtain ⟨p, vs, rfl, h1, h2⟩ := id ax
    obtain ⟨p2, ws, rfl, h3, h4⟩ := id ay
    cases (show u = Value.ref p from rx)
    cases (show v = Value.ref p2 from ry)
    show wpAny _ _ (richCompare .NotEq (.ref p) (.ref p2)) _ _ _
    exact rcnl he ⟨hr, rfl⟩ I sg h1 h3 h2 h4 fun s' ⟨G', H', I', st⟩ => ⟨V.bl _, H', I', rfl, q _ G' H' st rfl⟩
end
end W1
set_option maxRecDepth 100000
set_option maxHeartbeats 2000000
namespace W1
open PySem PySem.Spec PyProof.Rows L2

/-! ### new things that are owned -/
def EN (F : Fx) (ρ : Ty) (ω : Ow) (e : Expr) (O : Ol) (ω' : Ow) : Prop :=
  ∀ σ G H, At F ω G H → Slots ρ σ G → ∀ Q : VK, (∀ q G2 H2, q ∉ F.M → Same G G2 → At F ((q, O) :: ω') G2 H2 → Q (.ref q) H2) → EW F.X e σ H Q
abbrev PreN := List Rl → Ow → Ol → Ow → Prop
/-- a promise of a new thing -/
def spN (pre : PreN) : Sp := fun vs H Q E => ∃ Rs ω O ω' G, pre Rs ω O ω' ∧ Same G H ∧ All2 Rs vs G ∧ Has ω G H ∧ (keys ω).Nodup ∧ keys ω' = keys ω ∧
  ∀ q G' H', H q = none → StepM (keys ω) G H G' H' → Has ((q, O) :: ω') G' H' → Q (.ref q) H'
def KfN (O : Ol) (ω' : Ow) : Kn where
  rt := fun S w => ∃ q w0, (∀ v G, S.r v G → v = .ref q) ∧ q ∉ keys ω' ∧ w = (q, O) :: (ω' ++ w0)
theorem Has.up {ω : Ow} {G H : Hp} {a : Addr} {O : Ol} (h : Has ((a, O) :: ω) G H) : Has ω G H := fun p hp => h p (List.mem_cons_of_mem _ hp)
theorem Has.some {ω : Ow} {G H : Hp} (h : Has ω G H) {b : Addr} (hb : b ∈ keys ω) : H b ≠ none := by
  obtain ⟨p, hp, e⟩ := List.mem_map.mp hb
  obtain ⟨_, o, z, _⟩ := h p hp
  rw [← e, z]
  simp
theorem At.newcall {F : Fx} {wc wc' w : Ow} {O : Ol} {q : Addr} {G H G' H' : Hp} (a : At F (wc ++ w) G H) (s : StepM (keys wc) G H G' H') (hq : H q = none) (h : Has ((q, O) :: wc') G' H') (hk : keys wc' = keys wc) : q ∉ F.M ∧ At F ((q, O) :: (wc' ++ w)) G' H' := by
  have a' := a.stepM s h.up hk
  have hM : q ∉ F.M := fun hm => a.mm q hm hq
  have h0 : F.H0 q = none := by
    cases e : F.H0 q with
    | none => rfl
    | some u => rw [a.hh q u hM e] at hq; cases hq
  refine ⟨hM, a'.gg, a'.hh, a'.gh, a'.fr, a'.mm, fun p hp => ?_, List.nodup_cons.mpr ⟨fun hm => ?_, a'.nd⟩⟩
  · rcases List.mem_cons.mp hp with rfl | hp
    · obtain ⟨x, z⟩ := h _ List.mem_cons_self
      exact ⟨x, .inl h0, z⟩
    · exact a'.ow p hp
  · have hm' : q ∈ keys (wc ++ w) := by
      have e : keys (wc' ++ w) = keys (wc ++ w) := by unfold keys at hk ⊢; rw [List.map_append, List.map_append, hk]
      rw [← e]
      exact hm
    exact a.has.some hm' hq
theorem fn_okN {P : Program} {w : World} {K : PySem.W.Frag} {mg : Str → Option Value} {base : Heap} {x qual : Str} {st : Stmt} {f : Addr} {fd : FuncData} {N ps : List Str} {k : Nat} {pre : PreN} (Fn : Fun K x qual st f fd) (S : FnScope N ps (defScope st))
    (hl : ∀ Rs ω o ω', pre Rs ω o ω' → Rs.length = ps.length)
    (hb : ∀ (cdv : Value) (A : Around) (outer : List Env) (s : Shared) (H : Hp) (E : XK) (F : Fx), Room k (A.deeper (envOfC qual (defScope st) s.heap.objs.size f cdv)) → F.X = cxOf (L2.CX P w) P w K mg base N qual (defScope st) f cdv A outer s H E →
      ∀ Rs ω o ω', pre Rs ω o ω' → HB F (Rs.map some ++ List.replicate (N.length - Rs.length) none) ω (defBody st) (KfN o ω')) : FnOk P w K mg base (L2.CX P w) (k + 1) f fd ps (spN pre) := by
  refine Fn.okX S (fun vs H Q E h => ?_) (fun cdv A outer s H vs Q E hr h => ?_)
  · obtain ⟨Rs, ω, o, ω', G, hp, _, h2, _⟩ := h
    rw [← h2.len]
    exact hl _ _ _ _ hp
  · obtain ⟨Rs, ω, o, ω', G, hp, hgh, hv, hhas, hnd, hk, hq⟩ := h
    have tk : Takes (cxOf (L2.CX P w) P w K mg base N qual (defScope st) f cdv A outer s H E) (fun cls d _ H => E cls d H) := takes_of rfl rfl rfl rfl
    refine ⟨_, pss_w, hb cdv A outer s H E ⟨cxOf (L2.CX P w) P w K mg base N qual (defScope st) f cdv A outer s H E, G, H, keys ω, fun cls d _ H => E cls d H, tk⟩ hr rfl Rs ω o ω' hp (L2.start N vs) G H _ ?_ ?_ ?_⟩
    · exact ⟨Same.refl _, fun a o _ e => e, hgh, fun a _ e => e, fun a ha => hhas.some ha, fun p hp => let ⟨x, z⟩ := hhas p hp; ⟨x, .inr (List.mem_map_of_mem hp), z⟩, hnd⟩
    · unfold L2.start
      have e := hv.len
      refine ⟨by simp [e], fun i R hi => ?_⟩
      by_cases h : i < Rs.length
      · rw [List.getElem?_append_left (by simpa using h), List.getElem?_map] at hi
        cases h1 : Rs[i]? with
        | none => rw [h1] at hi; cases hi
        | some R' =>
          rw [h1] at hi
          cases hi
          obtain ⟨v, h2, h3⟩ := hv.get h1
          exact ⟨v, by rw [List.getElem?_append_left (by rw [List.length_map, ← e]; exact h), List.getElem?_map, h2]; rfl, h3⟩
      · rw [List.getElem?_append_right (by simpa using h), List.getElem?_replicate] at hi
        split at hi <;> cases hi
    · refine ⟨fun _ _ hk => hk.elim, fun R w1 hr' v G' H' s a r => ?_, fun _ _ hk => hk.elim, fun _ _ hk => hk.elim, fun _ _ _ hk => hk.elim⟩
      obtain ⟨q, w0, h1, h2, rfl⟩ := hr'
      cases h1 v G' r
      have hM : q ∉ keys ω := by rw [← hk]; exact h2
      have a' : At _ (((q, o) :: ω') ++ w0) G' H' := a
      exact hq q G' H' (At.own0 a hM) ⟨a.gg, a.hh, a.gh, a.fr⟩ a'.has.left
theorem All2.set : ∀ {Rs : List Rl} {vs : List V} {H : Hp} {R : Rl} {v : V} (j : Nat), All2 Rs vs H → R.r v H → All2 (Rs.set j R) (vs.set j v) H
  | [], [], _, _, _, _, _, _ => trivial
  | _ :: _, _ :: _, _, _, _, 0, h, r => ⟨r, h.2⟩
  | _ :: _, _ :: _, _, _, _, j + 1, h, r => ⟨h.1, All2.set j h.2 r⟩
  | [], _ :: _, _, _, _, _, h, _ => h.elim
  | _ :: _, [], _, _, _, _, h, _ => h.elim
section
variable {F : Fx} {ρ ρ1 : Ty} {ω w w1 w2 w3 wc wc' : Ow} {e o ix : Expr} {es : List Expr} {R S : Rl} {Rs : List Rl} {O : Ol} {pos p apos : Pos} {x m : Str} {k : Nat} {f : Addr} {fd : FuncData} {ps : List Str} {pre : PreN} {K : Kn} {rest : List Stmt} {q : Addr}
theorem en_lst (h : AR F ρ ω es Rs w1) (hz : Rs.length ≤ 1000) : EN F ρ ω (.List es pos) (oL Rs) w1 := fun σ G H at_ sl Q q => by
  refine ew_of (pe_lst pa_w) (h σ G H at_ sl _ fun vs G2 H2 s a r => ⟨Nat.le_of_lt (small1000 (by rw [← r.len]; exact hz)), fun p hp => ?_⟩)
  exact q p G2 _ (fun hm => a.mm p hm hp) s (a.own hp ⟨vs, rfl, r⟩)
theorem en_call (ha : AR F ρ ω (e :: es) Rs (wc ++ w)) (hp : pre Rs wc O wc') (hk : keys wc' = keys wc) (Fn : FnOk F.X.prog F.X.w F.X.K F.X.mg F.X.base (L2.CX F.X.prog F.X.w) k f fd ps (spN pre)) (hr : Room k F.X.A) (hm : F.X.mg x = some (.ref f))
    (hkp : PySem.W.keepIn F.X.K (.ref f) = true) (hb : Binds F.X.K fd ps []) (hg : Gl F.X x := by rfl) (hdb : (x == ("__debug__" : Str)) = false := by decide) (he : starEach (e :: es) F.X.env = (false, eval e F.X.env) :: starEach es F.X.env := by rfl) (hpl : (backTo pos (starEach es F.X.env)).any (·.1) = false := by rfl) :
    EN F ρ ω (.Call (.Name x p) (e :: es) [] pos) O (wc' ++ w) := fun σ G H at_ sl Q q =>
  ew_of (pe_callS (E := WE F.W) Fn hr hg hm hkp hb passW pa_w hdb he hpl) (ha σ G H at_ sl _ fun vs G2 H2 s a r => ⟨Rs, wc, O, wc', G2, hp, a.gh, r, a.has.left, by have := a.nd; rw [List.map_append] at this; exact (List.nodup_append.mp this).1, hk, fun q' G' H' hq st hh => by
    obtain ⟨hM, a3⟩ := a.newcall st hq hh hk
    exact q q' G' H' hM (s.trans st.gg) a3⟩)
/-- x = a new thing -/
theorem hb_setN (i : Nat) (he : EN F ρ ω e O w1) (h : ∀ q, q ∉ F.M → HB F (ρ.set i (some (rRef q))) ((q, O) :: w1) rest K) (hN : F.X.N.Nodup) (hi : F.X.N[i]? = some x := by rfl) (hx : Loc F.X.env.scope x := by first | exact Or.inl rfl | exact Or.inr rfl)
    (hs : swapsWith e (some (.Name x p)) pos.line F.X.env = pure false := by rfl) (hf : F.X.fn x = true ∨ F.X.env.scope.names.lookup x = some .local := by first | exact .inl rfl | exact .inr rfl | assumption) :
    HB F ρ ω (.Assign [.Name x p] e pos :: rest) K := hb_cons fun σ G H D at_ sl ps =>
  sw_of (ps_set hN hi hx pe_w hs hf) (he σ G H at_ sl _ fun q G2 H2 hM s a => h q hM _ G2 H2 D a ((sl.up s).set i rfl) (ps.up s))
theorem hb_retO (he : EN F ρ ω e O w1) (h : ∀ q, q ∉ F.M → K.rt (rRef q) ((q, O) :: w1)) : HB F ρ ω (.Return (some e) pos :: rest) K := hb_cons fun σ G H D at_ sl ps =>
  sw_of (ps_ret pe_w) (he σ G H at_ sl _ fun q G2 H2 hM s a => ps.rt _ _ (h q hM) _ G2 H2 s a rfl)
/-- l[i] of an owned list -/
theorem er_ixO {i : Int} {n : Nat} (ha : ER F ρ ω o (rRef q) w1) (hb : ER F ρ w1 ix (rInt i) w2) (hm : (q, oL Rs) ∈ w2) (hn : ixN Rs.length i = some n) (hR : Rs[n]? = some R) (hs : PlainIx ix := by exact fun _ _ => rfl) : ER F ρ ω (.Subscript o ix pos) R w2 := fun σ G H at_ sl Q k => by
  refine ew_of (pe_ix ix_list pe_w pe_w hs) (ha σ G H at_ sl _ fun x G1 H1 s1 at1 rx => hb σ G1 H1 at1 (sl.up s1) _ fun y G2 H2 s2 at2 ry => ?_)
  obtain ⟨_, _, ob, h1, vs, e1, h2⟩ := at2.ow _ hm
  subst e1
  obtain ⟨v, h3, h4⟩ := h2.get hR
  refine ⟨q, vs, i, v, rx, ry, SqL.of h1, ?_, k v G2 H2 (s1.trans s2) at2 h4⟩
  unfold atI
  rw [← h2.len, hn]
  exact h3
/-- l[i] = e -/
theorem hb_sub {i : Int} {n : Nat} {p2 : Pos} (he : ER F ρ ω e R w1) (ho : ER F ρ w1 o (rRef q) w2) (hi : ER F ρ w2 ix (rInt i) ((q, oL Rs) :: w3)) (hn : ixN Rs.length i = some n) (h : HB F ρ ((q, oL (Rs.set n R)) :: w3) rest K)
    (ha : ∀ v, assign (.Subscript o ix p2) F.X.env v = (do
      let ov ← holding [v] (eval o F.X.env)
      let iv ← holding [v, ov] (eval ix F.X.env)
      standAt p2
      holding [v, ov, iv] (setItem ov iv v)
      release [v, ov, iv] []) := by intro _; rfl)
    (hs : swapsWithSole [.Subscript o ix p2] e pos.line F.X.env = pure false := by rfl) (hw : swappedStores [.Subscript o ix p2] e F.X.env = pure none := by rfl) (h1 : (assignEach [.Subscript o ix p2] F.X.env).map (·.2) = [assign (.Subscript o ix p2) F.X.env] := by rfl) :
    HB F ρ ω (.Assign [.Subscript o ix p2] e pos :: rest) K := hb_cons fun σ G H D at_ sl ps => by
  refine sw_of (ps_asg pe_w (pg_sub pe_w pe_w set_list ha) hs hw h1) (he σ G H at_ sl _ fun v G1 H1 s1 a1 r1 => ho σ G1 H1 a1 (sl.up s1) _ fun x G2 H2 s2 a2 r2 => hi σ G2 H2 a2 ((sl.up s1).up s2) _ fun y G3 H3 s3 a3 r3 => ?_)
  obtain ⟨_, _, ob, h1', vs, e1, h2⟩ := a3.ow _ List.mem_cons_self
  subst e1
  refine ⟨q, vs, i, n, r2, r3, h1', by rw [← h2.len]; exact hn, ?_⟩
  have s13 := (s1.trans s2).trans s3
  exact h σ G3 _ D (a3.chg ⟨_, rfl, h2.set n (R.mo _ _ _ (s2.trans s3) r1)⟩) (sl.up s13) (ps.up s13)
/-! the script -/
def rScr (K : PySem.W.Frag) (xs : List V) : Rl := ⟨fun v H => ∃ a, v = .ref a ∧ SqL K H a xs, fun v H H' e ⟨a, h1, h2⟩ => ⟨a, h1, by
  rcases h2 with (h2 | ⟨o, h2⟩) | h2
  · exact .inl (.inl (e _ _ h2))
  · exact .inl (.inr ⟨o, e _ _ h2⟩)
  · exact .inr h2⟩⟩
theorem sql_up {K : PySem.W.Frag} {a : Addr} {xs : List V} {G H : Hp} (e : Same G H) (h : SqL K G a xs) : SqL K H a xs := by
  obtain ⟨b, h1, h2⟩ := (rScr K xs).mo (.ref a) G H e ⟨a, rfl, h⟩
  cases h1
  exact h2
theorem cop_lenS {xs : List V} : Cop F ω (.builtin "len") [rScr F.X.K xs] (rInt (xs.length : Int)) := by
  refine ⟨_, call_len_seq, fun us G H at_ hx Q q => ?_⟩
  obtain ⟨x, rfl, p, rfl, h1⟩ := all1 hx
  exact ⟨p, xs, rfl, .inl (sql_up at_.gh h1), q _ G H (Same.refl _) at_ rfl⟩
theorem iop_S {xs : List V} {i : Int} {v : V} (h : atI xs i = some v) : Iop F ω (rScr F.X.K xs) (rInt i) (rEqV v) :=
  ⟨_, ix_list, fun x y G H at_ hx hy Q q => by
    obtain ⟨p, rfl, h1⟩ := hx
    exact ⟨p, xs, i, v, rfl, hy, sql_up at_.gh h1, h, q v G H (Same.refl _) at_ rfl⟩⟩
/-! [..] * n, tuple(..) -/
/-! a, b = a list -/
theorem ge_lst {K : PySem.W.Frag} {n : Nat} {gs : TGs} (h : GEs gs ρ Rs ρ1) (hl : Rs.length = n) : GE (gLst K n gs) ρ (rLst Rs) ρ1 := fun v σ G H Q s sl r q => by
  obtain ⟨a, vs, rfl, h1, h2⟩ := r
  exact ⟨a, vs, rfl, SqL.of (s _ _ h1), by rw [← h2.len]; exact hl, h vs σ G H Q s sl h2 q⟩
end
/-! ### try -/
/-- a caught exception, with its one field -/
def rExc (a dd : Addr) (fld : Str) (R : Rl) : Rl := ⟨fun v G => v = .ref a ∧ ∃ w, G dd = some (.xd [(fld, w)]) ∧ R.r w G, fun _ _ _ e ⟨h1, w, h2, h3⟩ => ⟨h1, w, e _ _ h2, R.mo _ _ _ e h3⟩⟩
/-- in the suite -/
structure InSuite (F F' : Fx) (a : Addr) (cls : Value) (d : Option Addr) : Prop where
  h : ∃ oe pn, F'.X = F.X.suite a ((a, oe) :: pn) ∧ Zc cls d oe ∧ ∃ vs, oe.data = .fields vs
  g0 : F'.G0 = F.G0
  h0 : F'.H0 = F.H0
  m : F'.M = F.M
structure InTry (F F' : Fx) : Prop where
  h : ∃ pn xe, F'.X = F.X.tr pn xe ∧ PassesOwn (model F.X.prog F.X.w) F.X.A F.X.env xe
  g0 : F'.G0 = F.G0
  h0 : F'.H0 = F.H0
  m : F'.M = F.M
/-- behind the suite of 'except C as n', n in slot i -/
def Kn.suite (K : Kn) (F : Fx) (rest : List Stmt) (i : Nat) : Kn :=
  { nx := fun ρ ω => HB F (ρ.set i none) ω rest K, rt := K.rt, bk := fun ρ ω => K.bk (ρ.set i none) ω, ct := fun ρ ω => K.ct (ρ.set i none) ω }
section
variable {F : Fx} {ρ : Ty} {ω w1 : Ow} {K : Kn} {rest body suite : List Stmt} {b₀ : Stmt} {x n : Str} {c : Value} {np pos pos' : Pos}
end
section
variable {F F' : Fx} {ρ : Ty} {ω w1 : Ow} {e : Expr} {R : Rl} {a C dd : Addr} {fld : Str} {pos : Pos}
end
end W1
set_option maxRecDepth 100000
set_option maxHeartbeats 2000000
namespace W1
open PySem PySem.Spec PyProof.Rows L2

/-! ### known defs, in one word each -/
section
variable (P : Program) (w : World) (K : PySem.W.Frag) (mg : Str → Option Value) (base : Heap)
/-- a def at the top -/
def Kf1 (x : Str) (k : Nat) (pre : Pre) : Prop := ∃ f fd ps, mg x = some (.ref f) ∧ PySem.W.keepIn K (.ref f) = true ∧ Binds K fd ps [] ∧ FnOk P w K mg base (L2.CX P w) k f fd ps (spM pre)
def KfN1 (x : Str) (k : Nat) (pre : PreN) : Prop := ∃ f fd ps, mg x = some (.ref f) ∧ PySem.W.keepIn K (.ref f) = true ∧ Binds K fd ps [] ∧ FnOk P w K mg base (L2.CX P w) k f fd ps (spN pre)
/-- an operator's method -/
def Ko (C : Addr) (m : Str) (k : Nat) (pre : Pre) : Prop := ∃ f fd ps, OwnM K C m f ∧ Binds K fd ps [] ∧ FnOk P w K mg base (L2.CX P w) k f fd ps (spM pre)
/-- a class that is called -/
def Kc (C : Addr) (x : Str) (k : Nat) (pre : Pre) : Prop := ∃ f fd ps, mg x = some (.ref C) ∧ Mk K C f ∧ Binds K fd ps [] ∧ FnOk P w K mg base (L2.CX P w) k f fd ps (spM pre)
/-- an error class of one field -/
def Ke (C : Addr) (x fld : Str) (k : Nat) (Pr : Rl) : Prop := ∃ y qual st f cc cd fd, SupC P K mg x qual st C f cc cd ∧ Binds K fd ([("self" : Str), y] : List Str) [] ∧ FnOk P w K mg base (L2.CX P w) k f fd ([("self" : Str), y] : List Str) (spErr C fld Pr)
end
section
variable {F : Fx} {ρ : Ty} {ω w w1 w2 wc wc' : Ow} {e o a b : Expr} {es : List Expr} {R S : Rl} {Rs : List Rl} {P : Er} {pos p apos pos' : Pos} {x m fld : Str} {k : Nat} {C : Addr} {pre : Pre} {fs gs : List (Str × Rl)} {O : Ol} {K : Kn} {rest : List Stmt} {t : Bool}
theorem er_fn (T : Kf1 F.X.prog F.X.w F.X.K F.X.mg F.X.base x k pre) (hr : Room k F.X.A) (ha : AR F ρ ω (e :: es) Rs (wc ++ w)) (hp : pre Rs wc (.ok R) wc') (hk : keys wc' = keys wc := by rfl)
    (hg : Gl F.X x := by rfl) (hdb : (x == ("__debug__" : Str)) = false := by decide) (he : starEach (e :: es) F.X.env = (false, eval e F.X.env) :: starEach es F.X.env := by rfl) (hpl : (backTo pos (starEach es F.X.env)).any (·.1) = false := by rfl) :
    ER F ρ ω (.Call (.Name x p) (e :: es) [] pos) R (wc' ++ w) := by
  obtain ⟨f, fd, ps, h1, h2, h3, h4⟩ := T
  exact er_call ha hp hk h4 hr h1 h2 h3 hg hdb he hpl
theorem er_fn0 (T : Kf1 F.X.prog F.X.w F.X.K F.X.mg F.X.base x k pre) (hr : Room k F.X.A) (ha : AR F ρ ω (e :: es) Rs w) (hp : pre Rs [] (.ok R) [])
    (hg : Gl F.X x := by rfl) (hdb : (x == ("__debug__" : Str)) = false := by decide) (he : starEach (e :: es) F.X.env = (false, eval e F.X.env) :: starEach es F.X.env := by rfl) (hpl : (backTo pos (starEach es F.X.env)).any (·.1) = false := by rfl) :
    ER F ρ ω (.Call (.Name x p) (e :: es) [] pos) R w := er_fn (wc := []) (wc' := []) T hr ha hp rfl hg hdb he hpl
theorem en_fn {pre : PreN} (T : KfN1 F.X.prog F.X.w F.X.K F.X.mg F.X.base x k pre) (hr : Room k F.X.A) (ha : AR F ρ ω (e :: es) Rs (wc ++ w)) (hp : pre Rs wc O wc') (hk : keys wc' = keys wc := by rfl)
    (hg : Gl F.X x := by rfl) (hdb : (x == ("__debug__" : Str)) = false := by decide) (he : starEach (e :: es) F.X.env = (false, eval e F.X.env) :: starEach es F.X.env := by rfl) (hpl : (backTo pos (starEach es F.X.env)).any (·.1) = false := by rfl) :
    EN F ρ ω (.Call (.Name x p) (e :: es) [] pos) O (wc' ++ w) := by
  obtain ⟨f, fd, ps, h1, h2, h3, h4⟩ := T
  exact en_call ha hp hk h4 hr h1 h2 h3 hg hdb he hpl
theorem er_c {fs : List (Str × Rl)} (T : Kc F.X.prog F.X.w F.X.K F.X.mg F.X.base C x k pre) (hr : Room (k + 1) F.X.A) (ha : AR F ρ ω (e :: es) Rs w) (hp : ∀ q, pre (rRef q :: Rs) [(q, oIns C [])] (.ok rNon) [(q, oIns C fs)])
    (hg : Gl F.X x := by rfl) (hdb : (x == ("__debug__" : Str)) = false := by decide) (he : starEach (e :: es) F.X.env = (false, eval e F.X.env) :: starEach es F.X.env := by rfl) (hpl : (backTo pos (starEach es F.X.env)).any (·.1) = false := by rfl) :
    ER F ρ ω (.Call (.Name x p) (e :: es) [] pos) (rIns C fs) w := by
  obtain ⟨f, fd, ps, h1, h2, h3, h4⟩ := T
  exact er_make ha hp h4 hr h2 h1 h3 hg hdb he hpl
theorem bop_oE {B : Rl} {t : Value} (T : Ko F.X.prog F.X.w F.X.K F.X.mg F.X.base C "__eq__" k pre) (hr : Room k F.X.A) (hp : pre [rIns C fs, B] [] (.ok R) []) (ht : TyR F.X.K B t) (hn : PySem.W.notFirst F.X.K C t = true) : Bop F w (compareOp .Eq) (rIns C fs) B R := by
  obtain ⟨f, fd, ps, h1, h2, h3⟩ := T
  exact bop_ownE hp ht hn h3 h1 hr h2
theorem eqb_o (T : Ko F.X.prog F.X.w F.X.K F.X.mg F.X.base C "__eq__" k pre) (hp : pre [rIns C fs, rIns C gs] [] (.ok (rBool t)) []) (hid : ∀ a G, (rIns C fs).r (.ref a) G → (rIns C gs).r (.ref a) G → t = true) (hn : PySem.W.notFirst F.X.K C (.ref C) = true) : EqB F.X k (rIns C fs) (rIns C gs) t := by
  obtain ⟨f, fd, ps, h1, h2, h3⟩ := T
  exact eqb_own hp hid hn h3 h1 h2
theorem hb_err {Pr : Rl} (T : Ke F.X.prog F.X.w F.X.K F.X.mg F.X.base C x fld k Pr) (hr : Room (k + 1) F.X.A) (ha : AR F ρ ω [e] [R] w1) (hx : K.ex ρ w1 (erF C fld R)) (hPr : ∀ v G, R.r v G → Pr.r v G)
    (hg : Gl F.X x := by rfl) (hc : F.X.calm = true := by rfl) (hdb : (x == ("__debug__" : Str)) = false := by decide)
    (he : starEach [e] F.X.env = (false, eval e F.X.env) :: starEach [] F.X.env := by rfl) (hpl : (backTo pos (starEach [] F.X.env)).any (·.1) = false := by rfl) :
    HB F ρ ω (.Raise (some (.Call (.Name x p) [e] [] pos)) none pos' :: rest) K := by
  obtain ⟨y, qual, st, f, cc, cd, fd, h1, h2, h3⟩ := T
  exact hb_raise ha hx hPr h1 h3 hr h2 hg hc hdb he hpl
end
end W1
set_option maxRecDepth 100000
set_option maxHeartbeats 2000000
namespace W1
open PySem PySem.Spec PyProof.Rows L2

/-! ### fractions -/
theorem gcd_step (a b : Nat) (h : b ≠ 0) : Int.gcd (b : Int) ((a % b : Nat) : Int) = Int.gcd (a : Int) (b : Int) := by
  show Nat.gcd b (a % b) = Nat.gcd a b
  rw [Nat.gcd_comm a b, Nat.gcd_rec b a, Nat.gcd_comm]
theorem fmod_nat (a b : Nat) : (a : Int).fmod (b : Int) = ((a % b : Nat) : Int) := by
  rw [Int.fmod_eq_emod_of_nonneg _ (Int.natCast_nonneg b)]
  rfl
theorem abs_nat (a : Int) : (if a < 0 then -a else a) = (a.natAbs : Int) := by
  by_cases h : a < 0
  · rw [if_pos h]; omega
  · rw [if_neg h]; omega
/-- the divisor that __init__ takes -/
def dvs (t b : Int) : Int := if b < 0 then -(Int.gcd t b : Int) else (Int.gcd t b : Int)
theorem dvs_ne {t b : Int} (h : b ≠ 0) : dvs t b ≠ 0 := by
  have : Int.gcd t b ≠ 0 := fun e => h (Int.gcd_eq_zero_iff.mp e).2
  unfold dvs
  split <;> omega
theorem dvs_top {t b : Int} (h : b ≠ 0) : t.fdiv (dvs t b) = (Rat.divInt t b).num := by
  have hd := dvs_ne (t := t) h
  obtain ⟨u, hu⟩ : ((Int.gcd t b : Int)) ∣ t := Int.gcd_dvd_left t b
  have hg : (Int.gcd t b : Int) ≠ 0 := by
    have : Int.gcd t b ≠ 0 := fun e => h (Int.gcd_eq_zero_iff.mp e).2
    omega
  rw [Rat.num_divInt, Int.gcd_comm b t]
  generalize hG : (Int.gcd t b : Int) = g at *
  unfold dvs
  rw [hG]
  by_cases hb : b < 0
  · rw [if_pos hb, Int.sign_eq_neg_one_of_neg hb, hu, show g * u = (-g) * (-u) by rw [Int.neg_mul_neg], Int.mul_fdiv_cancel_left _ (by omega), show -1 * (-g * -u) = g * (-u) by rw [Int.neg_mul_neg, Int.mul_neg]; omega, Int.mul_ediv_cancel_left _ hg]
  · rw [if_neg hb, Int.sign_eq_one_of_pos (by omega), hu, Int.mul_fdiv_cancel_left _ hg, Int.one_mul, Int.mul_ediv_cancel_left _ hg]
theorem dvs_bot {t b : Int} (h : b ≠ 0) : b.fdiv (dvs t b) = ((Rat.divInt t b).den : Int) := by
  have hd := dvs_ne (t := t) h
  obtain ⟨u, hu⟩ : ((Int.gcd t b : Int)) ∣ b := Int.gcd_dvd_right t b
  have hg : (0 : Int) < (Int.gcd t b : Int) := by
    have : Int.gcd t b ≠ 0 := fun e => h (Int.gcd_eq_zero_iff.mp e).2
    omega
  rw [Rat.den_divInt, if_neg h, Int.gcd_comm b t]
  generalize hG : Int.gcd t b = g at *
  have e : (b.natAbs / g : Nat) = u.natAbs := by
    rw [hu, Int.natAbs_mul, Int.natAbs_natCast, Nat.mul_div_cancel_left _ (by omega)]
  rw [e]
  unfold dvs
  rw [hG]
  by_cases hb : b < 0
  · have hu0 : u < 0 := by
      rcases Int.lt_or_le u 0 with z | z
      · exact z
      · have := Int.mul_nonneg (Int.le_of_lt hg) z
        omega
    rw [if_pos hb, hu, show (g : Int) * u = (-(g : Int)) * (-u) by rw [Int.neg_mul_neg], Int.mul_fdiv_cancel_left _ (by omega)]
    omega
  · have hu0 : 0 ≤ u := by
      rcases Int.lt_or_le u 0 with z | z
      · have := Int.mul_neg_of_pos_of_neg hg z
        omega
      · exact z
    rw [if_neg hb, hu, Int.mul_fdiv_cancel_left _ (by omega)]
    omega
theorem dvs_le {t b : Int} : (dvs t b).natAbs ≤ b.natAbs ∨ b = 0 := by
  by_cases h : b = 0
  · exact .inr h
  · left
    have h1 : (Int.gcd t b) ≤ b.natAbs := Nat.le_of_dvd (by omega) (Nat.gcd_dvd_right _ _)
    unfold dvs
    split <;> omega
/-- not too great -/
def Sz (n : Nat) (q : Rat) : Prop := q.num.natAbs < 2 ^ n ∧ q.den < 2 ^ n
theorem Sz.mono {m n : Nat} {q : Rat} (h : Sz m q) (l : m ≤ n) : Sz n q :=
  ⟨Nat.lt_of_lt_of_le h.1 (Nat.pow_le_pow_right (by decide) l), Nat.lt_of_lt_of_le h.2 (Nat.pow_le_pow_right (by decide) l)⟩
theorem mul_lt2 {a b m n : Nat} (ha : a < 2 ^ m) (hb : b < 2 ^ n) : a * b < 2 ^ (m + n) := by
  rw [Nat.pow_add]
  exact Nat.mul_lt_mul'' ha hb
theorem sz_divInt {n : Nat} {t b : Int} (h : b ≠ 0) (h1 : t.natAbs < 2 ^ n) (h2 : b.natAbs < 2 ^ n) : Sz n (Rat.divInt t b) := by
  constructor
  · rw [Rat.num_divInt, Int.natAbs_ediv_of_dvd]
    · refine Nat.lt_of_le_of_lt (Nat.div_le_self _ _) ?_
      rw [Int.natAbs_mul]
      have : b.sign.natAbs = 1 := Int.natAbs_sign_of_ne_zero h
      rw [this, Nat.one_mul]
      exact h1
    · exact Int.dvd_mul_of_dvd_right (Int.gcd_dvd_right b t)
  · rw [Rat.den_divInt, if_neg h]
    exact Nat.lt_of_le_of_lt (Nat.div_le_self _ _) h2
theorem sz_int {n : Nat} {q : Rat} (h : Sz n q) : (q.den : Int).natAbs < 2 ^ n := by rw [Int.natAbs_natCast]; exact h.2
theorem log2_of {a n : Nat} (h : a < 2 ^ n) (hn : n ≤ 9000) : a.log2 < 9000 ∨ a.log2 < 9000 := by
  left
  rcases Nat.eq_zero_or_pos a with e | e
  · subst e; decide
  · exact Nat.lt_of_lt_of_le ((Nat.log2_lt (by omega)).mpr h) hn
theorem bits_of {a : Int} {n : Nat} (h : a.natAbs < 2 ^ n) (hn : n ≤ 9000) : Builtin.Int.intBits a ≤ 2 ^ 20 := by
  unfold Builtin.Int.intBits
  have := (log2_of h hn).elim id id
  split <;> omega
theorem mulok {a b : Int} {m n : Nat} (ha : a.natAbs < 2 ^ m) (hb : b.natAbs < 2 ^ n) (hm : m ≤ 9000 := by decide) (hn : n ≤ 9000 := by decide) : IntMulOk a b := IntMulOk.of_bits (bits_of ha hm) (bits_of hb hn)
theorem divok {a : Int} {n : Nat} {i : Int} (h0 : a ≠ 0) (ha : a.natAbs < 2 ^ n) (hn : n ≤ 9000 := by decide) : CDivZ i a := ⟨h0, (log2_of ha hn).elim id id⟩
end W1
set_option maxRecDepth 100000
set_option maxHeartbeats 2000000
namespace W1
open PySem PySem.Spec PyProof.Rows L2

/-! ### texts, slices, more of lists -/
theorem All2.drop : ∀ {Rs : List Rl} {vs : List V} {H : Hp} (n : Nat), All2 Rs vs H → All2 (Rs.drop n) (vs.drop n) H
  | _, _, _, 0, h => h
  | [], [], _, _ + 1, _ => trivial
  | _ :: _, _ :: _, _, n + 1, h => All2.drop n h.2
  | [], _ :: _, _, _ + 1, h => h.elim
  | _ :: _, [], _, _ + 1, h => h.elim
theorem All2.take : ∀ {Rs : List Rl} {vs : List V} {H : Hp} (n : Nat), All2 Rs vs H → All2 (Rs.take n) (vs.take n) H
  | _, _, _, 0, _ => trivial
  | [], [], _, _ + 1, _ => trivial
  | _ :: _, _ :: _, _, n + 1, h => ⟨h.1, All2.take n h.2⟩
  | [], _ :: _, _, _ + 1, h => h.elim
  | _ :: _, [], _, _ + 1, h => h.elim
section
variable {F : Fx} {ρ : Ty} {ω w w1 w2 w3 : Ow} {e o a b lo hi : Expr} {es : List Expr} {A R S : Rl} {As Rs Ss : List Rl} {pos p apos p2 p3 : Pos} {m : Str} {z y : Str} {T id : String} {v u : Option Int}
/-! slices -/
/-! operators and builtins -/
theorem bop_eqS : Bop F w (compareOp .Eq) (rStr z) (rStr y) (rBool (decide (z = y))) := by
  have e : decide (V.str z = V.str y) = decide (z = y) := decide_eq_decide.mpr ⟨V.str.inj, fun h => by rw [h]⟩
  rw [← e]
  exact bop_eq rfl
theorem bop_cat (hz : Rs.length + Ss.length ≤ 100000) : Bop F w (binaryOp .Add) (rLst Rs) (rLst Ss) (rLst (Rs ++ Ss)) := ⟨_, op_cat, fun x y G H at_ hx hy Q q => by
  obtain ⟨l, vs, rfl, e1, e2⟩ := hx
  obtain ⟨m, ws, rfl, e3, e4⟩ := hy
  refine ⟨l, m, vs, ws, rfl, rfl, at_.gh _ _ e1, at_.gh _ _ e3, Nat.le_trans (by rw [← e2.len, ← e4.len]; exact hz) (by decide), fun p hp => ?_⟩
  have st := Step.new (o := .lst (vs ++ ws)) at_.gh hp
  exact q _ _ _ st.gg (at_.step st) ⟨p, _, rfl, upd_same, (e2.app e4).up st.gg⟩⟩
end
/-! str(x) by an own def -/
section
variable {X : Cx} {C g k : Nat} {fd : FuncData} {ps : List Str} {sp : Sp}
end
section
variable {F : Fx} {w : Ow} {C : Addr} {k : Nat} {pre : Pre} {fs : List (Str × Rl)} {z : Str}
end
end W1
set_option maxRecDepth 100000
set_option maxHeartbeats 2000000
namespace W1
open PySem PySem.Spec PyProof.Rows L2 TL NumText

/-! ### words of digits -/
/-! cut at the slashes -/
abbrev slash : Str := Str.ofString "/"
/-! the text of a number, read -/
def numT (i : Int) : Str := Str.ofString (toString i)
end W1
set_option maxRecDepth 100000
set_option maxHeartbeats 2000000
set_option exponentiation.threshold 20000
namespace W1
open PySem PySem.Spec PyProof.Rows L2 TL NumText

/-! ### the common draws -/
theorem lt9000 {a n : Nat} (h : a < 2 ^ n) (hn : n ≤ 9000) : a < 2 ^ 9000 := Nat.lt_of_lt_of_le h (Nat.pow_le_pow_right (by decide) hn)
theorem log_lt {a n m : Nat} (h : a < 2 ^ n) (hn : n ≤ m) (hm : 0 < m) : a.log2 < m := by
  rcases Nat.eq_zero_or_pos a with e | e
  · subst e; exact hm
  · exact Nat.lt_of_lt_of_le ((Nat.log2_lt (by omega)).mpr h) hn
/-! texts and their signs -/
/-! f"{e1}..{e2}" of ints -/
section
variable {F : Fx} {ρ : Ty} {ω w w1 w2 : Ow} {a b : Expr} {i j : Int} {t : Str} {p1 p2 p3 p4 : Pos} {k : Nat} {c : Nat} {z : Str}
theorem app_empty (a : Str) : Str.empty ++ a = a := ext_tl (by rw [tl_append]; rfl)
theorem er_f3 (ha : ER F ρ ω a (rInt i) w1) (hb : ER F ρ w1 b (rInt j) w2) (hi : i.natAbs.log2 < 1920) (hj : j.natAbs.log2 < 1920) (ht : t.length ≤ 1000) : ER F ρ ω (.JoinedStr [.FormattedValue a (-1) none p1, .Constant (.str t) k p2, .FormattedValue b (-1) none p3] p4) (rStr (numT i ++ t ++ numT j)) w2 := fun σ G H at_ sl Q q => by
  have l1 := int_text_len_1921 hi
  have l2 := int_text_len_1921 hj
  refine ew_of (pe_joined (.cons (pe_fmt pe_w) (.cons pe_str (.cons (pe_fmt pe_w) .nil)))) (ha σ G H at_ sl _ fun x G1 H1 s1 a1 r1 => .inr ⟨i, r1, hi, ⟨_, rfl, ?_, t, rfl, ?_, ?_⟩⟩)
  · rw [app_empty]
    exact Nat.le_trans l1 (by decide)
  · rw [app_empty, strlen_app]
    exact Nat.le_trans (Nat.add_le_add l1 ht) (by decide)
  · refine hb σ G1 H1 a1 (sl.up s1) _ fun y G2 H2 s2 a2 r2 => .inr ⟨j, r2, hj, ⟨_, rfl, ?_, ?_⟩⟩
    · rw [app_empty, strlen_app, strlen_app]
      exact Nat.le_trans (Nat.add_le_add (Nat.add_le_add l1 ht) l2) (by decide)
    · have := q (.str (numT i ++ t ++ numT j)) G2 H2 (s1.trans s2) a2 rfl
      rw [app_empty]
      exact this
end
section
variable {F : Fx} {w : Ow} {Rs : List Rl}
end
end W1
set_option maxRecDepth 100000
set_option maxHeartbeats 2000000
set_option exponentiation.threshold 20000
namespace W1
open PySem PySem.Spec PyProof.Rows L2 TL NumText

/-! ### dicts: owned ones change, others are frozen for good -/
def valR (fs : List (Key × Rl)) (k : Key) : Option Rl := (fs.find? fun kv => decide (kv.1 = k)).map (·.2)
def putKR (fs : List (Key × Rl)) (k : Key) (R : Rl) : List (Key × Rl) := if (fs.any fun kv => decide (kv.1 = k)) = true then fs.map (fun kv => if kv.1 = k then (kv.1, R) else kv) else fs ++ [(k, R)]
theorem NR.val {k : Key} {H : Hp} : ∀ {fs : List (Key × Rl)} {vs : List (Key × V)}, NR fs vs H → (∀ R, valR fs k = some R → ∃ v, valV vs k = some v ∧ R.r v H) ∧ (valR fs k = none → valV vs k = none)
  | [], [], _ => ⟨fun R e => (by cases e), fun _ => rfl⟩
  | (j, S) :: fs, (j', v) :: vs, ⟨e, a, b⟩ => by
    subst e
    have ih := NR.val (k := k) b
    unfold valR valV at *
    rw [List.find?_cons, List.find?_cons]
    by_cases h : j = k
    · simp only [h, decide_true]
      refine ⟨fun R e => ⟨v, rfl, ?_⟩, fun e => (by cases e)⟩
      cases e
      exact a
    · simp only [h, decide_false]
      exact ih
  | [], _ :: _, h => h.elim
  | _ :: _, [], h => h.elim
theorem NR.any {k : Key} {H : Hp} : ∀ {fs : List (Key × Rl)} {vs : List (Key × V)}, NR fs vs H → (fs.any fun kv => decide (kv.1 = k)) = (vs.any fun kv => decide (kv.1 = k))
  | [], [], _ => rfl
  | (j, S) :: fs, (j', v) :: vs, ⟨e, a, b⟩ => by
    subst e
    rw [List.any_cons, List.any_cons, NR.any b]
  | [], _ :: _, h => h.elim
  | _ :: _, [], h => h.elim
theorem NR.app {κ : Type} {H : Hp} : ∀ {fs gs : List (κ × Rl)} {vs ws : List (κ × V)}, NR fs vs H → NR gs ws H → NR (fs ++ gs) (vs ++ ws) H
  | [], _, [], _, _, h => h
  | (_, _) :: _, _, (_, _) :: _, _, ⟨e, a, b⟩, h => ⟨e, a, NR.app b h⟩
  | [], _, _ :: _, _, h, _ => h.elim
  | _ :: _, _, [], _, h, _ => h.elim
theorem NR.putK {k : Key} {R : Rl} {v : V} {H : Hp} {fs : List (Key × Rl)} {vs : List (Key × V)} (h : NR fs vs H) (r : R.r v H) : NR (putKR fs k R) (L2.putK vs k v) H := by
  unfold putKR L2.putK
  rw [h.any]
  split
  · have go : ∀ {fs : List (Key × Rl)} {vs : List (Key × V)}, NR fs vs H → NR (fs.map fun kv => if kv.1 = k then (kv.1, R) else kv) (vs.map fun kv => if kv.1 = k then (kv.1, v) else kv) H := by
      intro fs
      induction fs with
      | nil =>
        intro vs h
        cases vs with
        | nil => exact trivial
        | cons _ _ => exact h.elim
      | cons x fs ih =>
        intro vs h
        cases vs with
        | nil => exact h.elim
        | cons y vs =>
          obtain ⟨j, S⟩ := x
          obtain ⟨j', u⟩ := y
          obtain ⟨e, a, b⟩ := h
          subst e
          rw [List.map_cons, List.map_cons]
          by_cases hj : j = k
          · simp only [hj, if_true]
            exact ⟨rfl, r, ih b⟩
          · simp only [hj, if_false]
            exact ⟨rfl, a, ih b⟩
    exact go h
  · exact h.app ⟨rfl, r, trivial⟩
theorem NR.keys {κ : Type} {H : Hp} : ∀ {fs : List (κ × Rl)} {vs : List (κ × V)}, NR fs vs H → vs.map (·.1) = fs.map (·.1)
  | [], [], _ => rfl
  | (j, S) :: fs, (j', v) :: vs, ⟨e, a, b⟩ => by
    subst e
    rw [List.map_cons, List.map_cons, NR.keys b]
  | [], _ :: _, h => h.elim
  | _ :: _, [], h => h.elim
def oD (fs : List (Key × Rl)) : Ol := ⟨fun o G => ∃ vs, o = .dK vs ∧ NR fs vs G, fun _ _ _ e ⟨vs, a, b⟩ => ⟨vs, a, b.up e⟩⟩
def rDct (fs : List (Key × Rl)) : Rl := ⟨fun v H => ∃ p od vs, v = .ref p ∧ H p = some (.frz od (.dK vs)) ∧ NR fs vs H, fun _ _ _ e ⟨p, od, vs, a, b, c⟩ => ⟨p, od, vs, a, e _ _ b, c.up e⟩⟩
/-- a dict that can be read -/
def IsDct (F : Fx) (A : Rl) (ω : Ow) (fs : List (Key × Rl)) : Prop := ∀ v G H, At F ω G H → A.r v G → ∃ p vs, v = .ref p ∧ Rd H p (.dK vs) ∧ NR fs vs G
theorem isd_own {F : Fx} {ω : Ow} {fs : List (Key × Rl)} {q : Addr} (h : (q, oD fs) ∈ ω) : IsDct F (rRef q) ω fs := fun v G H at_ e => by
  obtain ⟨_, _, o, h1, vs, rfl, h2⟩ := at_.ow _ h
  exact ⟨q, vs, e, .inl h1, h2⟩
section
variable {X : Cx} {e : Expr} {st : List Stmt} {σ : L2.St} {H : Hp} {d : Addr} {u : HO} {D : Ends} {Q : VK}
/-- what is made is frozen -/
theorem ew_lock (k : EW X e σ H fun v H1 => ∃ p u, v = .ref p ∧ H1 p = some u ∧ Mut (some u) ∧ ∀ od, Q v (upd H1 p (.frz od u))) : EW X e σ H Q := fun pins s I => by
  refine thn (k pins s I) fun v s1 ⟨x, H1, I1, r1, p, u, e1, e2, mu, q⟩ => ?_
  obtain ⟨od, I2⟩ := I1.lock e2 mu
  exact ⟨x, _, I2, r1, q od⟩
end
theorem At.pubF {F : Fx} {q : Addr} {O : Ol} {w : Ow} {G H : Hp} {o : HO} {od : Obj} (a : At F ((q, O) :: w) G H) (ho : H q = some o) (hq : F.H0 q = none) : At F w (upd G q (.frz od o)) (upd H q (.frz od o)) := by
  have hg : G q = none := (a.ow _ List.mem_cons_self).1
  have sg : Same G (upd G q (.frz od o)) := fun b u e => by rw [upd_ne (ne_of_none e hg)]; exact e
  have nd := List.nodup_cons.mp a.nd
  refine ⟨a.gg.trans sg, fun b u hb e => ?_, fun b u e => ?_, fun b h1 h2 => ?_, fun b hb => ?_, fun p hp => ?_, nd.2⟩
  · rw [upd_ne (fun z => by rw [z, hq] at e; cases e)]
    exact a.hh b u hb e
  · by_cases hb : b = q
    · subst hb
      rw [upd_same] at e ⊢
      exact e
    · rw [upd_ne hb] at e ⊢
      exact a.gh _ _ e
  · rw [upd_ne (fun z => h1 (by rw [z]; exact hq))]
    exact a.fr b h1 h2
  · by_cases z : b = q
    · rw [z, upd_same]; simp
    · rw [upd_ne z]; exact a.mm b hb
  · obtain ⟨x, y, u, z, c⟩ := a.ow p (List.mem_cons_of_mem _ hp)
    have ne : p.1 ≠ q := fun z => nd.1 (List.mem_map.mpr ⟨p, hp, z⟩)
    exact ⟨by rw [upd_ne ne]; exact x, y, u, by rw [upd_ne ne]; exact z, p.2.mo _ _ _ sg c⟩
section
variable {F : Fx} {ρ ρ1 : Ty} {ω w w1 w2 w3 : Ow} {e o ix a b : Expr} {A R S : Rl} {Rs : List Rl} {O : Ol} {pos p apos p2 : Pos} {K : Kn} {rest : List Stmt} {q : Addr} {fs : List (Key × Rl)} {k : Key} {n : Nat}
end
end W1
set_option maxRecDepth 100000
set_option maxHeartbeats 2000000
set_option exponentiation.threshold 20000
namespace W1
open PySem PySem.Spec PyProof.Rows L2 TL NumText

/-! ### new things, to stay as they are -/
section
variable {F : Fx} {ρ : Ty} {ω w w1 : Ow} {e : Expr} {fs : List (Key × Rl)} {Rs : List Rl}
/-- a new dict is frozen -/
theorem er_frz (h : EN F ρ ω e (oD fs) w1) : ER F ρ ω e (rDct fs) w1 := fun σ G H at_ sl Q z =>
  ew_lock (h σ G H at_ sl _ fun q G2 H2 hM s2 a2 => by
    obtain ⟨hg0, _, o, h1, vs, rfl, h2⟩ := a2.ow _ List.mem_cons_self
    refine ⟨q, _, rfl, h1, True.intro, fun od => ?_⟩
    have sg : Same G2 (upd G2 q (.frz od (.dK vs))) := fun b u e => by rw [upd_ne (ne_of_none e hg0)]; exact e
    exact z _ _ _ (s2.trans sg) (a2.pubF (od := od) h1 (At.own0 a2 hM)) ⟨q, od, vs, rfl, upd_same, h2.up sg⟩)
end
/-! ### dict comprehensions -/
section
variable {F : Fx} {ρ : Ty} {ω w1 : Ow} {tg it kx vx c : Expr} {pos spos : Pos} {scope : Scope} {own : List (Str × Nat)} {g : TG} {ifs : List Expr} {α : Type}
end
end W1
set_option maxRecDepth 100000
set_option maxHeartbeats 2000000
set_option exponentiation.threshold 20000
namespace W1
open PySem PySem.Spec PyProof.Rows L2 TL NumText

/-! ### names in order -/
section
variable {F : Fx} {w : Ow} {A : Rl} {xs : List Str}
end
end W1
set_option maxRecDepth 100000
set_option maxHeartbeats 2000000
set_option exponentiation.threshold 20000
namespace W1
open PySem PySem.Spec PyProof.Rows L2 TL NumText

/-! ### == of dicts whose values are plain -/
section
variable {X : Cx}
end
section
variable {F : Fx} {w : Ow} {A B : Rl} {ks ls : List (Key × V)} {n : Nat}
end
end W1
set_option maxRecDepth 100000
set_option maxHeartbeats 2000000
set_option exponentiation.threshold 20000
namespace W1
open PySem PySem.Spec PyProof.Rows L2 TL NumText

/-! ### several clauses, each with its name -/
structure AsC where
  c : Value
  i : Nat
  ts : Addr → Value → Option Addr → TS
inductive AsOk (X : Cx) : List ExceptHandler → List AsC → Prop
  | nil : AsOk X [] []
  | cons {x n : Str} {c : Value} {i : Nat} {ts : Addr → Value → Option Addr → TS} {b₀ : Stmt} {sts : List Stmt} {p p' : Pos} {hds : List ExceptHandler} {l : List AsC} (ni : X.N[i]? = some n) (lo : X.env.kindOf n = some .local) (nm : Names X x c)
      (su : ∀ (a : Addr) (oe : Obj) (cls : Value) (d : Option Addr) (pn : List (Addr × Obj)), Zc cls d oe → (∃ vs, oe.data = .fields vs) → PSs (X.suite a ((a, oe) :: pn)) (b₀ :: sts) (ts a cls d)) (r : AsOk X hds l) :
      AsOk X (.ExceptHandler (some (.Name x p)) (some n) (b₀ :: sts) p' :: hds) (⟨c, i, ts⟩ :: l)
section
variable {X : Cx} {body : List Stmt} {h₀ : ExceptHandler} {hds : List ExceptHandler} {l : List AsC} {pos : Pos} {tb : WX → TS} {W : WX}
end
end W1
set_option maxRecDepth 100000
set_option maxHeartbeats 2000000
set_option exponentiation.threshold 20000
namespace W1
open PySem PySem.Spec PyProof.Rows L2 TL NumText

/-- a clause: the class's name, the class, the slot, its name, the suite -/
structure Cla where
  x : Str
  c : Value
  i : Nat
  n : Str
  b₀ : Stmt
  sts : List Stmt
  p : Pos
  p' : Pos
def Cla.hd (z : Cla) : ExceptHandler := .ExceptHandler (some (.Name z.x z.p)) (some z.n) (z.b₀ :: z.sts) z.p'
/-- where an exception of the body goes -/
def exM (F : Fx) (K : Kn) (rest : List Stmt) : List Cla → Ty → Ow → Er → Prop
  | [], ρ, ω, P => K.ex ρ ω P
  | z :: r, ρ, ω, P =>
    (∃ C fld R, (∀ cls d G, P cls d G → erF C fld R cls d G) ∧ PySem.W.exmOne F.X.K (.ref C) z.c = some true ∧ ∀ a dd F', InSuite F F' a (.ref C) (some dd) → HB F' (ρ.set z.i (some (rExc a dd fld R))) ω (z.b₀ :: z.sts) (K.suite F rest z.i)) ∨
    ((∀ cls d G, P cls d G → PySem.W.exmOne F.X.K cls z.c = some false) ∧ exM F K rest r ρ ω P)
section
variable {F : Fx} {ρ : Ty} {ω : Ow} {K : Kn} {rest body : List Stmt} {pos : Pos}
end
end W1
set_option maxRecDepth 100000
set_option maxHeartbeats 2000000
set_option exponentiation.threshold 20000
namespace W1
open PySem PySem.Spec PyProof.Rows L2 TL NumText

/-! ### what is only known to be there: opened -/
def rEx {α : Type} (A : α → Rl) : Rl := ⟨fun v H => ∃ a, (A a).r v H, fun v H H' e ⟨a, h⟩ => ⟨a, (A a).mo v H H' e h⟩⟩
section
variable {F : Fx} {ρ ρ' : Ty} {ω w w1 w2 : Ow} {e a b : Expr} {R S : Rl} {K : Kn} {rest : List Stmt} {q : Addr} {O O' : Ol} {α β : Type} {pos : Pos}
end
end W1
set_option maxRecDepth 100000
set_option maxHeartbeats 2000000
set_option exponentiation.threshold 20000
namespace W1
open PySem PySem.Spec PyProof.Rows L2 TL NumText

/-! ### len(d), d.clear() -/
section
variable {F : Fx} {ρ : Ty} {ω w w1 w2 : Ow} {o : Expr} {A : Rl} {fs : List (Key × Rl)} {K : Kn} {rest : List Stmt} {q : Addr} {pos p apos : Pos}
theorem hb_dclear (ho : ER F ρ ω o (rRef q) ((q, oD fs) :: w)) (h : HB F ρ ((q, oD []) :: w) rest K) (hsw : swapsWith (.Call (.Attribute o "clear" apos) [] [] p) none pos.line F.X.env = pure false := by rfl)
    (hbase : attributeBase o "clear" F.X.env (eval o F.X.env) = eval o F.X.env := by rfl) (hline : (apos.endLine == p.line) = true := by rfl) : HB F ρ ω (.Expr (.Call (.Attribute o "clear" apos) [] [] p) pos :: rest) K := hb_cons fun σ G H D at_ sl ps => by
  refine sw_of (ps_expr (pe_dclear pe_w hbase hline) hsw) (ho σ G H at_ sl _ fun x G1 H1 s1 a1 r1 => ?_)
  cases (show x = V.ref q from r1)
  obtain ⟨_, _, ob, h1, vs, rfl, h2⟩ := a1.ow _ List.mem_cons_self
  exact ⟨.inr (.inr (.inl ⟨rfl, .inl ⟨vs, h1⟩⟩)), q, vs, rfl, rfl, h1, h σ G1 _ D (a1.chg ⟨[], rfl, trivial⟩) (sl.up s1) (ps.up s1)⟩
end
end W1
set_option maxRecDepth 100000
set_option maxHeartbeats 2000000
set_option exponentiation.threshold 20000
namespace W1
open PySem PySem.Spec PyProof.Rows L2 TL NumText

/-! ### f-strings, part by part: z is all that is told -/
section
variable {F : Fx} {ρ : Ty} {ω w w1 w2 : Ow} {e v1 v2 : Expr} {es : List Expr} {y z : Str} {i : Int} {k : Nat} {pos : Pos}
end
end W1
set_option maxRecDepth 100000
set_option maxHeartbeats 2000000
namespace W1
open PySem PySem.Spec PyProof.Rows L2
section
variable {F : Fx} {ρ : Ty} {ω w wc wc' : Ow} {e : Expr} {es : List Expr} {Rs : List Rl} {P : Er} {pos p : Pos} {x : Str} {k : Nat} {C : Addr} {pre : Pre}
end
end W1
set_option maxRecDepth 100000
set_option maxHeartbeats 2000000
namespace W1
open PySem PySem.Spec PyProof.Rows L2 NdefX TL NumText

/-! ### helpers for the walk by tactics -/
theorem At.perm {F : Fx} {ω ω' : Ow} {G H : Hp} (h : ω.Perm ω') (a : At F ω G H) : At F ω' G H :=
  ⟨a.gg, a.hh, a.gh, a.fr, a.mm, fun p hp => a.ow p (h.mem_iff.mpr hp), (h.map _).nodup_iff.mp a.nd⟩
theorem perm_at {w : Ow} {i : Nat} {z z' : Addr × Ol} (h : w[i]? = some z) : w.Perm (z :: w.eraseIdx i) ∧ (z' :: w.eraseIdx i).Perm (w.set i z') := by
  induction w generalizing i with
  | nil => simp at h
  | cons a l ih =>
    cases i with
    | zero =>
      simp at h
      subst h
      exact ⟨List.Perm.refl _, List.Perm.refl _⟩
    | succ i =>
      simp only [List.getElem?_cons_succ] at h
      obtain ⟨h1, h2⟩ := ih h
      simp only [List.eraseIdx_cons_succ, List.set_cons_succ]
      exact ⟨(List.Perm.cons a h1).trans (List.Perm.swap _ _ _), (List.Perm.swap _ _ _).trans (List.Perm.cons a h2)⟩
section
variable {F : Fx} {ρ : Ty} {ω w w1 w2 w3 wc wc' : Ow} {a b c e o : Expr} {es : List Expr} {A B R S : Rl} {Rs As : List Rl} {P : Er} {pos p apos : Pos} {x m : Str} {k : Nat} {C q : Addr} {pre : Pre} {O O' : Ol} {fs : List (Str × Rl)}
theorem er_perm (h : ER F ρ ω e R w1) (p : w1.Perm w2) : ER F ρ ω e R w2 := fun σ G H at_ sl Q z => h σ G H at_ sl Q fun v G2 H2 s a r => z v G2 H2 s (a.perm p) r
theorem ar_perm (h : AR F ρ ω es Rs w1) (p : w1.Perm w2) : AR F ρ ω es Rs w2 := fun σ G H at_ sl Q z => h σ G H at_ sl Q fun v G2 H2 s a r => z v G2 H2 s (a.perm p) r
theorem er_v (i : Nat) (hN : F.X.N[i]? = some x) (h : ρ[i]? = some (some R)) (hv : Vis F.X.env.scope x := by first | exact Or.inl rfl | exact Or.inr (Or.inl rfl) | exact Or.inr (Or.inr rfl))
    (hd : (x == ("__debug__" : Str)) = false := by decide) (hcd : (x == ("__classdict__" : Str)) = false := by decide) : ER F ρ ω (.Name x pos) R ω := er_var i h hN hv hd hcd
theorem er_gC (hm : F.X.mg x = some (.ref C)) (hg : Gl F.X x := by rfl) (hd : (x == ("__debug__" : Str)) = false := by decide) : ER F ρ ω (.Name x pos) (rRef C) ω := er_glob (v := .ref C) hg hm rfl hd
theorem er_bA {id : String} (ha : AR F ρ ω (e :: es) As w1) (hm : F.X.mg x = none) (hv : bootBuiltins x = some (.builtin id)) (hc : Cop F w1 (.builtin id) As R) (hg : Gl F.X x := by rfl) (hn : x ≠ "__name__" := by decide) (hdb : (x == ("__debug__" : Str)) = false := by decide)
    (he : starEach (e :: es) F.X.env = (false, eval e F.X.env) :: starEach es F.X.env := by rfl) (hpl : (backTo pos (starEach es F.X.env)).any (·.1) = false := by rfl) : ER F ρ ω (.Call (.Name x p) (e :: es) [] pos) R w1 := er_callB hc hg hm hv ha hn hdb he hpl
theorem er_tA {id : String} (ha : AR F ρ ω (e :: es) As w1) (hm : F.X.mg x = none) (hv : bootBuiltins x = some (.type id)) (hc : Cop F w1 (.type id) As R) (hg : Gl F.X x := by rfl) (hn : x ≠ "__name__" := by decide) (hdb : (x == ("__debug__" : Str)) = false := by decide)
    (he : starEach (e :: es) F.X.env = (false, eval e F.X.env) :: starEach es F.X.env := by rfl) (hpl : (backTo pos (starEach es F.X.env)).any (·.1) = false := by rfl) : ER F ρ ω (.Call (.Name x p) (e :: es) [] pos) R w1 := er_callTy hc hg hm hv ha hn hdb he hpl
/-- a def of no own things -/
theorem er_fA (T : Kf1 F.X.prog F.X.w F.X.K F.X.mg F.X.base x k pre) (hr : Room k F.X.A) (ha : AR F ρ ω (e :: es) Rs w) (hp : pre Rs [] (.ok R) [])
    (hg : Gl F.X x := by rfl) (hdb : (x == ("__debug__" : Str)) = false := by decide) (he : starEach (e :: es) F.X.env = (false, eval e F.X.env) :: starEach es F.X.env := by rfl) (hpl : (backTo pos (starEach es F.X.env)).any (·.1) = false := by rfl) :
    ER F ρ ω (.Call (.Name x p) (e :: es) [] pos) R w := er_fn0 T hr ha hp hg hdb he hpl
/-- a def to which the i-th own thing is handed over -/
theorem er_f1 (i : Nat) (T : Kf1 F.X.prog F.X.w F.X.K F.X.mg F.X.base x k pre) (hr : Room k F.X.A) (ha : AR F ρ ω (e :: es) Rs w) (hi : w[i]? = some (q, O)) (hp : pre Rs [(q, O)] (.ok R) [(q, O')])
    (hg : Gl F.X x := by rfl) (hdb : (x == ("__debug__" : Str)) = false := by decide) (he : starEach (e :: es) F.X.env = (false, eval e F.X.env) :: starEach es F.X.env := by rfl) (hpl : (backTo pos (starEach es F.X.env)).any (·.1) = false := by rfl) :
    ER F ρ ω (.Call (.Name x p) (e :: es) [] pos) R (w.set i (q, O')) :=
  er_perm (er_fn (wc := [(q, O)]) (wc' := [(q, O')]) (w := w.eraseIdx i) T hr (ar_perm ha (perm_at (z' := (q, O)) hi).1) hp rfl hg hdb he hpl) (perm_at hi).2
/-- a new thing from a def -/
theorem en_fA {pre : PreN} (T : KfN1 F.X.prog F.X.w F.X.K F.X.mg F.X.base x k pre) (hr : Room k F.X.A) (ha : AR F ρ ω (e :: es) Rs w) (hp : pre Rs [] O [])
    (hg : Gl F.X x := by rfl) (hdb : (x == ("__debug__" : Str)) = false := by decide) (he : starEach (e :: es) F.X.env = (false, eval e F.X.env) :: starEach es F.X.env := by rfl) (hpl : (backTo pos (starEach es F.X.env)).any (·.1) = false := by rfl) :
    EN F ρ ω (.Call (.Name x p) (e :: es) [] pos) O w := en_fn (wc := []) (wc' := []) T hr ha hp rfl hg hdb he hpl
theorem hb_setA {K : Kn} {rest : List Stmt} (i : Nat) (hi : F.X.N[i]? = some x) (he : ER F ρ ω e R w1) (h : HB F (ρ.set i (some R)) w1 rest K) (hN : F.X.N.Nodup := by assumption) (hx : Loc F.X.env.scope x := by first | exact Or.inl rfl | exact Or.inr rfl)
    (hs : swapsWith e (some (.Name x p)) pos.line F.X.env = pure false := by rfl) (hf : F.X.fn x = true ∨ F.X.env.scope.names.lookup x = some .local := by first | exact .inl rfl | exact .inr rfl | assumption) :
    HB F ρ ω (.Assign [.Name x p] e pos :: rest) K := hb_set i he h hN hi hx hs hf
theorem hb_setNA {K : Kn} {rest : List Stmt} (i : Nat) (hi : F.X.N[i]? = some x) (he : EN F ρ ω e O w1) (h : ∀ q, q ∉ F.M → HB F (ρ.set i (some (rRef q))) ((q, O) :: w1) rest K) (hN : F.X.N.Nodup := by assumption) (hx : Loc F.X.env.scope x := by first | exact Or.inl rfl | exact Or.inr rfl)
    (hs : swapsWith e (some (.Name x p)) pos.line F.X.env = pure false := by rfl) (hf : F.X.fn x = true ∨ F.X.env.scope.names.lookup x = some .local := by first | exact .inl rfl | exact .inr rfl | assumption) :
    HB F ρ ω (.Assign [.Name x p] e pos :: rest) K := hb_setN i he h hN hi hx hs hf
end
theorem rng_map {lo : Int} {n : Nat} : rng lo n = (List.range n).map fun (k : Nat) => rInt (lo + (k : Int)) := rfl
end W1
set_option maxRecDepth 100000
set_option maxHeartbeats 2000000
namespace W1Q
open PySem

section
variable {M : Model} {A : Around} {E : Value → Shared → Prop} {s : Shared}
end
section
variable {prog : Program} {w : World} {K : Type} [DecidableEq K] {knd : KeyKind prog w K} {A : Around} {E : Value → Shared → Prop}
end
end W1Q
set_option maxRecDepth 100000
set_option maxHeartbeats 2000000
namespace W1
open PySem PySem.Spec PyProof.Rows L2 NdefX TL NumText

/-! ### {**a, **b} -/
section
variable {X : Cx} {pins : List (Addr × Obj)} {σ : L2.St} {H : Hp} {s : Shared} {A : Around} {E : Value → Shared → Prop}
end
/-! ### dicts that are handed in -/
def DIn (A : Rl) (w : Ow) (fs : List (Key × Rl)) : Prop := A = rDct fs ∨ ∃ q, A = rRef q ∧ (q, oD fs) ∈ w
section
variable {F : Fx} {ρ : Ty} {ω w w1 w2 : Ow} {a b e : Expr} {A B R : Rl} {fs gs : List (Key × Rl)} {pos : Pos} {z : Addr × Ol}
theorem At.drop {G H : Hp} (h : At F (z :: w) G H) : At F w G H := ⟨h.gg, h.hh, h.gh, h.fr, h.mm, fun p hp => h.ow p (List.mem_cons_of_mem _ hp), (List.nodup_cons.mp h.nd).2⟩
theorem DIn.mem (h : DIn A w fs) (k : ∀ z ∈ w, z ∈ w1) : DIn A w1 fs := by
  rcases h with rfl | ⟨q, rfl, h⟩
  · exact .inl rfl
  · exact .inr ⟨q, rfl, k _ h⟩
theorem DIn.cons (h : DIn A w fs) : DIn A (z :: w) fs := h.mem fun _ k => List.mem_cons_of_mem _ k
theorem DIn.ne {p : Addr} {O : Ol} {G H : Hp} {x : V} (h : DIn A w fs) (at_ : At F ((p, O) :: w) G H) (hx : A.r x G) : ∃ q vs, x = .ref q ∧ p ≠ q ∧ Rd H q (.dK vs) ∧ NR fs vs G := by
  have hp := (at_.ow _ List.mem_cons_self).1
  rcases h with rfl | ⟨q, rfl, h⟩
  · obtain ⟨q, od, vs, rfl, h1, h2⟩ := hx
    exact ⟨q, vs, rfl, fun e => (by rw [e, h1] at hp; cases hp), .inr ⟨od, at_.gh _ _ h1⟩, h2⟩
  · obtain ⟨_, _, o, h1, vs, rfl, h2⟩ := at_.ow _ (List.mem_cons_of_mem _ h)
    have nd := (List.nodup_cons.mp at_.nd).1
    exact ⟨q, vs, hx, fun e => nd (e ▸ List.mem_map_of_mem (f := (·.1)) h), .inl h1, h2⟩
end
end W1
set_option maxRecDepth 100000
set_option maxHeartbeats 2000000
namespace W1
open PySem PySem.Spec PyProof.Rows L2 NdefX TL NumText

/-! ### amounts: names to ints -/
abbrev Am := List (Str × Int)
/-- a dict that is handed in: frozen, or owned -/
def DVar (A : Rl) (w : Ow) (fs : List (Key × Rl)) : Prop := (A = rDct fs ∧ w = []) ∨ ∃ q, A = rRef q ∧ w = [(q, oD fs)]
section
variable {F : Fx} {ρ : Ty} {ω w : Ow} {e : Expr} {A : Rl} {am : Am} {p1 p2 pos1 pos2 : Pos}
end
/-! ### what is lent -/
def Sub (wc w : Ow) : Prop := ∃ r, w.Perm (wc ++ r)
theorem Sub.nil {w : Ow} : Sub [] w := ⟨w, List.Perm.refl _⟩
theorem Sub.refl {w : Ow} : Sub w w := ⟨[], by rw [List.append_nil]⟩
theorem Sub.app {a b : Ow} : Sub a (a ++ b) := ⟨b, List.Perm.refl _⟩
theorem Sub.cons {a w : Ow} {z : Addr × Ol} (h : Sub a w) : Sub a (z :: w) := by
  obtain ⟨r, p⟩ := h
  exact ⟨z :: r, (List.Perm.cons z p).trans List.perm_middle.symm⟩
theorem Sub.one {w : Ow} {z : Addr × Ol} (h : z ∈ w) : Sub [z] w := by
  obtain ⟨s, t, rfl⟩ := List.append_of_mem h
  exact ⟨s ++ t, List.perm_middle⟩
theorem Sub.ins {a w : Ow} {z : Addr × Ol} {i : Nat} (hi : w[i]? = some z) (h : Sub a (w.eraseIdx i)) : Sub (z :: a) w := by
  obtain ⟨r, p⟩ := h
  exact ⟨r, (perm_at (z' := z) hi).1.trans (List.Perm.cons z p)⟩
theorem DVar.sub {A : Rl} {wc w : Ow} {fs : List (Key × Rl)} (h : DVar A wc fs) (k : ∀ z ∈ wc, z ∈ w) : Sub wc w := by
  rcases h with ⟨_, rfl⟩ | ⟨q, _, rfl⟩
  · exact Sub.nil
  · exact Sub.one (k _ List.mem_cons_self)
section
variable {F : Fx} {ρ : Ty} {ω w w1 w2 w3 wc wc' : Ow} {a b c e o : Expr} {es : List Expr} {A B R S : Rl} {Rs As : List Rl} {P : Er} {pos p apos : Pos} {x m : Str} {k : Nat} {C q : Addr} {pre : Pre} {O O' : Ol} {fs : List (Str × Rl)} {K : Kn} {rest : List Stmt}
/-! ### what is given, by what holds of it -/
variable {Φ : Rl → Ow → Prop} {Ψ : List Rl → Ow → Prop}
/-! ### a op b op' c -/
end
/-! ### dicts of plain values -/
end W1
set_option maxRecDepth 100000
set_option maxHeartbeats 2000000
namespace W1S
open PySem PySem.Spec PyProof.Rows L2

/-! ### a set of texts, by its entries -/
def nameOf (e : Int × Value) : Str := match e.2 with | .str x _ => x | _ => Str.empty
def IsTxt (w : World) (e : Int × Value) : Prop := ∃ x u, e = (hashStr w x, Value.str x u)
structure Fine (w : World) (es : Array (Int × Value)) (t : SetTable) (xs : List Str) : Prop where
  txt : ∀ e ∈ es.toList, IsTxt w e
  once : (es.toList.map nameOf).Nodup
  mem : ∀ x, x ∈ es.toList.map nameOf ↔ x ∈ xs
  few : es.size ≤ xs.length
  fits : t.fits es.size = true
  ris : Ris t.place.toList
  led : w.params.followText "set-order" = true ∨ t.led = true
section
variable {P : Program} {w : World} {es es' : Array (Int × Value)} {t t' : SetTable} {xs : List Str} {x : Str} {u : Tok}
theorem Fine.hit (f : Fine w es t xs) : x ∈ xs ↔ ∃ e ∈ es.toList, (PySem.strKind P w).is x e.2 = true := by
  rw [← f.mem, List.mem_map]
  refine exists_congr fun e => and_congr_right fun he => ?_
  obtain ⟨y, u, rfl⟩ := f.txt e he
  show y = x ↔ (Value.str y u).isStrOf x = true
  constructor
  · rintro rfl
    exact strKind_is P w y u
  · intro z
    obtain ⟨u', h⟩ := Value.isStrOf_shape z
    injection h
end
/-- the set of the texts xs, at a -/
def SetS (w : World) (h : Heap) (a : Addr) (xs : List Str) : Prop := ∃ o es ep t, h.get? a = some o ∧ o.ExactSet ∧ o.data = .set es ep t ∧ Fine w es t xs
section
variable {P : Program} {w : World} {A : Around} {E : Value → Shared → Prop} {s : Shared} {a : Addr} {xs : List Str}
theorem SetS.at {h h' : Heap} (S : SetS w h a xs) (k : ∀ o, h.get? a = some o → h'.get? a = some o) : SetS w h' a xs := by
  obtain ⟨o, es, ep, t, g, r⟩ := S
  exact ⟨o, es, ep, t, k o g, r⟩
end
end W1S
set_option maxRecDepth 100000
set_option maxHeartbeats 4000000
namespace W1S
open PySem PySem.Spec PyProof.Rows L2
section
variable {P : Program} {w : World} {A : Around} {E : Value → Shared → Prop} {s : Shared}
end
end W1S
set_option maxRecDepth 100000
set_option maxHeartbeats 4000000
namespace W1S
open PySem PySem.Spec PyProof.Rows L2
section
variable {P : Program} {w : World} {A : Around} {E : Value → Shared → Prop} {s : Shared}
end
end W1S
set_option maxRecDepth 100000
set_option maxHeartbeats 4000000
namespace W1S
open PySem PySem.Spec PyProof.Rows L2 TL
section
variable {P : Program} {w : World} {A : Around} {E : Value → Shared → Prop} {s : Shared}
/-- what stays while something is gathered -/
structure Kept (s s1 : Shared) : Prop where
  heap : ∀ b o, s.heap.get? b = some o → s1.heap.get? b = some o
  size : s.heap.objs.size ≤ s1.heap.objs.size
  gens : s1.gens = s.gens
  os : s1.os = s.os
end
/-! ### as calls over the layer -/
section
variable {X : Cx}
end
end W1S
namespace W1
open PySem PySem.Spec PyProof.Rows L2 NdefX TL NumText
section
variable {F : Fx} {ω w : Ow} {xs : List Str}
end
end W1
set_option maxRecDepth 100000
set_option maxHeartbeats 4000000
namespace W1S
open PySem PySem.Spec PyProof.Rows L2 TL
section
variable {prog : Program} {w : World} {A : Around} {E : Value → Shared → Prop} {s : Shared} {K : Type} [DecidableEq K] {knd : KeyKind prog w K}
end
section
variable {X : Cx}
end
end W1S
namespace W1
open PySem PySem.Spec PyProof.Rows L2 NdefX TL NumText
end W1
set_option maxRecDepth 100000
set_option maxHeartbeats 2000000
namespace W1
open PySem PySem.Spec PyProof.Rows L2 NdefX TL NumText

/-! ### freezing what others hold -/
def Fz (q : Addr) (fs : List (Key × Rl)) (G : Hp) : Prop := ∃ od vs, G q = some (.frz od (.dK vs)) ∧ NR fs vs G
def Tr (q : Addr) (fs : List (Key × Rl)) (R R' : Rl) : Prop := ∀ v G, Fz q fs G → R.r v G → R'.r v G
def TrO (q : Addr) (fs : List (Key × Rl)) (O O' : Ol) : Prop := ∀ o G, Fz q fs G → O.c o G → O'.c o G
inductive TrL (q : Addr) (fs : List (Key × Rl)) : List Rl → List Rl → Prop where
  | nil : TrL q fs [] []
  | cons {R R' : Rl} {Rs Rs' : List Rl} (h : Tr q fs R R') (t : TrL q fs Rs Rs') : TrL q fs (R :: Rs) (R' :: Rs')
inductive TrS (q : Addr) (fs : List (Key × Rl)) : Ty → Ty → Prop where
  | nil : TrS q fs [] []
  | gone {ρ ρ' : Ty} {R : Option Rl} (t : TrS q fs ρ ρ') : TrS q fs (R :: ρ) (Option.none :: ρ')
  | held {ρ ρ' : Ty} {R R' : Rl} (h : Tr q fs R R') (t : TrS q fs ρ ρ') : TrS q fs (Option.some R :: ρ) (Option.some R' :: ρ')
inductive TrW (q : Addr) (fs : List (Key × Rl)) : Ow → Ow → Prop where
  | nil : TrW q fs [] []
  | cons {p : Addr} {O O' : Ol} {w w' : Ow} (h : TrO q fs O O') (t : TrW q fs w w') : TrW q fs ((p, O) :: w) ((p, O') :: w')
section
variable {q : Addr} {fs : List (Key × Rl)} {R : Rl} {O : Ol} {Rs Rs' : List Rl} {ρ ρ' : Ty} {w w' : Ow}
theorem Tr.same : Tr q fs R R := fun _ _ _ h => h
theorem TrO.same : TrO q fs O O := fun _ _ _ h => h
theorem Tr.ref : Tr q fs (rRef q) (rDct fs) := fun v G ⟨od, vs, a, b⟩ e => ⟨q, od, vs, e, a, b⟩
theorem TrL.all (t : TrL q fs Rs Rs') : ∀ {vs : List V} {G : Hp}, Fz q fs G → All2 Rs vs G → All2 Rs' vs G := by
  induction t with
  | nil => intro vs G _ h; exact h
  | cons h t ih =>
    intro vs G z a
    match vs, a with
    | v :: vs, ⟨a1, a2⟩ => exact ⟨h v G z a1, ih z a2⟩
theorem Tr.lst (t : TrL q fs Rs Rs') : Tr q fs (rLst Rs) (rLst Rs') := fun v G z ⟨p, vs, a, b, c⟩ => ⟨p, vs, a, b, t.all z c⟩
theorem TrO.lst (t : TrL q fs Rs Rs') : TrO q fs (oL Rs) (oL Rs') := fun o G z ⟨vs, a, c⟩ => ⟨vs, a, t.all z c⟩
theorem TrL.refl : ∀ {Rs : List Rl}, TrL q fs Rs Rs
  | [] => .nil
  | _ :: _ => .cons Tr.same TrL.refl
theorem TrW.refl : ∀ {w : Ow}, TrW q fs w w
  | [] => .nil
  | _ :: _ => .cons TrO.same TrW.refl
theorem TrS.refl : ∀ {ρ : Ty}, TrS q fs ρ ρ
  | [] => .nil
  | none :: _ => .gone TrS.refl
  | some _ :: _ => .held Tr.same TrS.refl
theorem TrS.at (t : TrS q fs ρ ρ') : ρ.length = ρ'.length ∧ ∀ (i : Nat) R', ρ'[i]? = some (some R') → ∃ R, ρ[i]? = some (some R) ∧ Tr q fs R R' := by
  induction t with
  | nil => exact ⟨rfl, fun i R' e => by simp at e⟩
  | gone t ih =>
    refine ⟨by rw [List.length_cons, List.length_cons, ih.1], fun i R' e => ?_⟩
    cases i with
    | zero => cases e
    | succ i => exact ih.2 i R' e
  | held h t ih =>
    refine ⟨by rw [List.length_cons, List.length_cons, ih.1], fun i R' e => ?_⟩
    cases i with
    | zero =>
      cases e
      exact ⟨_, rfl, h⟩
    | succ i => exact ih.2 i R' e
theorem TrW.at (t : TrW q fs w w') : keys w = keys w' ∧ ∀ p ∈ w', ∃ O, (p.1, O) ∈ w ∧ TrO q fs O p.2 := by
  induction t with
  | nil => exact ⟨rfl, fun p h => by cases h⟩
  | @cons p O O' w w' h t ih =>
    refine ⟨by unfold keys at ih ⊢; rw [List.map_cons, List.map_cons, ih.1], fun z hz => ?_⟩
    rcases List.mem_cons.mp hz with rfl | hz
    · exact ⟨O, List.mem_cons_self, h⟩
    · obtain ⟨O2, h1, h2⟩ := ih.2 z hz
      exact ⟨O2, List.mem_cons_of_mem _ h1, h2⟩
end
section
variable {F : Fx} {ρ ρ' : Ty} {ω w w' w1 w2 : Ow} {e a b o : Expr} {es : List Expr} {R : Rl} {Rs As : List Rl} {O : Ol} {q : Addr} {fs : List (Key × Rl)} {K : Kn} {rest : List Stmt} {pos p : Pos} {x : Str}
/-! ### a new thing from a built-in, from a method -/
/-! ### a comprehension whose elements may make new things -/
variable {tg it elt : Expr} {scope : Scope} {S : Rl}
end
/-! ### == of dicts inside lists -/
end W1
set_option maxRecDepth 100000
set_option maxHeartbeats 2000000
namespace W1
open PySem PySem.Spec PyProof.Rows L2 TL NumText

/-! ### data, compared whole -/
section
variable {K : PySem.W.Frag} {A : Rl} {As : List Rl} {d e : PyData} {ds : List PyData}
end
section
variable {F : Fx} {w : Ow} {A B : Rl} {d e : PyData} {n : Nat}
end
/-! ### a text, some times over -/
def repS (z : Str) (n : Nat) : Str := ⟨(List.replicate n z.cps).foldl (· ++ ·) #[]⟩
theorem rep_go (z : Array Nat) : ∀ (n : Nat) (a : Array Nat), ((List.replicate n z).foldl (· ++ ·) a).toList = a.toList ++ (List.replicate n z.toList).flatten
  | 0, a => by simp
  | n + 1, a => by
    rw [List.replicate_succ, List.foldl_cons, rep_go z n, List.replicate_succ, List.flatten_cons, Array.toList_append, List.append_assoc]
theorem tl_rep (z : Str) (n : Nat) : tl (repS z n) = (List.replicate n (tl z)).flatten := by
  show ((List.replicate n z.cps).foldl (· ++ ·) #[]).toList = _
  rw [rep_go]
  rfl
theorem len_rep (z : Str) (n : Nat) : (repS z n).length = n * z.length := by
  rw [len_tl, tl_rep, List.length_flatten, List.map_replicate, List.sum_replicate_nat, len_tl]
theorem bop_repS {F : Fx} {w : Ow} {z : Str} {n : Int} (h1 : 1 < n) (h2 : n ≤ 1000) (h3 : 0 < z.length) (h4 : z.length ≤ 1000) : Bop F w (binaryOp .Mult) (rStr z) (rInt n) (rStr (repS z n.toNat)) := by
  refine bop_sem fun pins s σ G H x y u v Q I rx ry sg hx hy q => ?_
  cases (show x = V.str z from hx)
  cases (show y = V.int n from hy)
  obtain ⟨t, rfl⟩ := rx
  obtain ⟨t', rfl⟩ := ry
  have big : (1000000 : Nat) ≤ sizeLine := by decide
  have pr : z.length * n.toNat ≤ 1000 * 1000 := Nat.mul_le_mul h4 (by omega)
  have no : (n == 1 || z.length == 0) = false := by
    rw [Bool.or_eq_false_iff]
    exact ⟨by simp; omega, by simp; omega⟩
  have one : 1000 * n ≤ 2 ^ 63 - 1 := by omega
  refine P.mul_str (by rw [decide_eq_false (by omega), decide_eq_false (by omega)]; rfl) (fun _ _ => ?_) (fun _ _ => ?_) ?_
  · have : (1000 : Int) ≤ (2 ^ 63 - 1) / n := (Int.le_ediv_iff_mul_le (by omega)).mpr one
    omega
  · unfold Builtin.Str.tooLong
    exact decide_eq_false (by omega)
  · rw [if_neg (by omega), no, if_neg (by decide)]
    refine ⟨?_, .str (repS z n.toNat), H, I.tok _, ⟨_, rfl⟩, q _ G H (Step.refl sg) rfl⟩
    show (repS z n.toNat).length ≤ _
    rw [len_rep, Nat.mul_comm]
    omega
/-! ### range by steps, enumerate -/
theorem fits {i : Int} (h1 : -2000000 ≤ i) (h2 : i ≤ 2000000) : Builtin.Range.rangeFitsLong i = true := by
  unfold Builtin.Range.rangeFitsLong
  rw [decide_eq_true (by omega), decide_eq_true (by omega)]
  rfl
section
variable {F : Fx} {ρ ρ1 : Ty} {ω w1 : Ow} {tg e e2 e3 : Expr} {pos p : Pos} {Rs : List Rl} {R : Rl}
end
/-! ### l += a list, l an owned one; len of an owned one -/
section
variable {X : Cx}
end
end W1
set_option maxRecDepth 100000
set_option maxHeartbeats 2000000
namespace W1
open PySem PySem.Spec PyProof.Rows L2 TL NumText

/-! ### sorted, of any length -/
/-! ### sorted pairs of a name and a number -/
def shP : Nat → Bool := fun i => i == 0
def keyP (p : Str × Int) : List (Int ⊕ List Nat) := [.inr (tl p.1), .inl p.2]
/-- such a pair in the heap -/
def IsP (h : Heap) (u : Value) (p : Str × Int) : Prop := ∃ t o t1 t2 n, u = .ref t ∧ h.get? t = some o ∧ o.cls = .type "tuple" ∧ o.data = .seq #[.str p.1 t1, .int p.2 t2] n
theorem IsP.key {h : Heap} {u : Value} {p : Str × Int} (k : IsP h u p) : tupKey h shP u = some (keyP p) := by
  obtain ⟨t, o, t1, t2, n, rfl, ho, hc, hd⟩ := k
  unfold tupKey
  simp only [ho, hd, tupItems, shP]
  rfl
theorem IsP.up {h h' : Heap} {u : Value} {p : Str × Int} (k : IsP h u p) (s : ∀ b o, h.get? b = some o → o.cls = .type "tuple" → h'.get? b = some o) : IsP h' u p := by
  obtain ⟨t, o, t1, t2, n, e, ho, hc, hd⟩ := k
  exact ⟨t, o, t1, t2, n, e, s _ _ ho hc, hc, hd⟩
/-! ### lists that are owned: len, a text's split as one, += -/
section
variable {F : Fx} {ρ : Ty} {ω w w1 w2 : Ow} {e o : Expr} {es : List Expr} {A R : Rl} {As Rs Ss : List Rl} {K : Kn} {rest : List Stmt} {q : Addr} {pos p apos : Pos} {x : Str} {y z : Str}
end
end W1
set_option maxRecDepth 100000
set_option maxHeartbeats 2000000
namespace W1
open PySem PySem.Spec PyProof.Rows L2 TL NumText

/-! ### a comprehension that carries a state from turn to turn: tested, then made -/
section
variable {F : Fx} {ρ : Ty} {ω w w1 w2 : Ow} {e o it elt c : Expr} {es : List Expr} {A R : Rl} {As Rs Ss : List Rl} {K : Kn} {rest : List Stmt} {q : Addr} {pos p apos spos py : Pos} {x y : Str} {scope : Scope} {α β γ : Type}
/-! ### l += a list; a split that is owned -/
end
end W1
set_option maxRecDepth 100000
set_option maxHeartbeats 2000000
namespace W1
open PySem PySem.Spec PyProof.Rows L2 TL NumText
section
variable {F : Fx} {ρ : Ty} {ω w1 w2 : Ow} {a b : Expr} {A : Rl} {fs : List (Key × Rl)} {k : Key} {n : Nat} {pos : Pos}
end
end W1
set_option maxRecDepth 100000
set_option maxHeartbeats 2000000
namespace W1
open PySem PySem.Spec PyProof.Rows L2 TL NumText
/-! ### what raises inside: arguments, a if c else b -/
section
variable {F : Fx} {ρ : Ty} {ω w w1 w2 : Ow} {a b c e : Expr} {es : List Expr} {R : Rl} {P : Er} {pos p : Pos} {x : Str} {k : Nat} {C : Addr} {pre : Pre}
end
/-! ### cut at a sign, or at some -/
end W1
set_option maxRecDepth 100000
set_option maxHeartbeats 2000000
namespace W1
open PySem PySem.Spec PyProof.Rows L2 TL NumText
/-! ### a comprehension over pairs -/
/-! ### a thing that is known by a property -/
section
variable {F : Fx} {ρ : Ty} {ω w : Ow} {K : Kn} {rest : List Stmt} {L : Nat}
end
/-! ### lengths and signs of what is cut and joined -/
end W1
set_option maxRecDepth 100000
set_option maxHeartbeats 2000000
namespace W1
open PySem PySem.Spec PyProof.Rows L2

/-! ### promises of several new things -/
abbrev OutG := Except (Er × Ow) (Rl → Ow → Prop)
abbrev PreG := List Rl → Ow → OutG → Prop
section
variable {F : Fx} {w wc : Ow} {pre : PreG} {Rs : List Rl} {Φ : Rl → Ow → Prop} {vs : List V} {G H : Hp} {Q : VK} {E : XK}
end
section
variable (P : Program) (w : World) (K : PySem.W.Frag) (mg : Str → Option Value) (base : Heap)
end
section
variable {F : Fx} {ρ : Ty} {ω w w1 w2 wc wc' : Ow} {e o : Expr} {es : List Expr} {R S : Rl} {Rs : List Rl} {P : Er} {pos p apos : Pos} {x m : Str} {k : Nat} {C q : Addr} {pre : PreG} {fs : List (Str × Rl)} {Φ : Rl → Ow → Prop} {K : Kn} {rest : List Stmt} {O : Ol}
/-- what a field holds is owned no more -/
theorem NR.chg {f : Str} {A B : Rl} {H : Hp} (hAB : ∀ v, A.r v H → B.r v H) : ∀ {fs : List (Str × Rl)} {vs : List (Str × V)}, fs.lookup f = some A → NR fs vs H → NR (putR f B fs) vs H
  | [], _, e, _ => by cases e
  | (g, S) :: fs, (g', u) :: vs, e, ⟨e1, a, b⟩ => by
    subst e1
    unfold putR
    by_cases hg : g = f
    · subst hg
      rw [List.lookup_cons_self] at e
      cases e
      rw [if_pos rfl]
      exact ⟨rfl, hAB _ a, b⟩
    · have hb : (f == g) = false := by simpa using fun z => hg z.symm
      rw [List.lookup_cons, hb] at e
      rw [if_neg hg]
      exact ⟨rfl, a, NR.chg hAB e b⟩
  | _ :: _, [], _, h => h.elim
end
section
variable {F : Fx} {ρ : Ty} {ω w w1 w2 wc wc' : Ow} {e o : Expr} {es : List Expr} {R S : Rl} {Rs : List Rl} {P : Er} {pos p apos : Pos} {x m : Str} {k : Nat} {C q : Addr} {pre : Pre} {fs : List (Str × Rl)} {K : Kn} {rest : List Stmt} {O : Ol}
end
end W1
set_option maxRecDepth 100000
set_option maxHeartbeats 2000000
namespace W1
open PySem PySem.Spec PyProof.Rows L2 NdefX
def top (i : Nat) : Stmt := PySem.Challenge.pw_waysofmaking_k01_errors_by_class.main.body.getD i (.Pass ⟨0, 0, 0, 0⟩)
abbrev s_BadNumber___init__ : Stmt := inClass (top 3) 0
abbrev P_BadNumber___init__ : List Str := ["self", "n"]
theorem c_BadNumber___init__ : NScope (["self", "n", "__class__"] : List Str) P_BadNumber___init__ ["__class__"] (defScope s_BadNumber___init__) := nscope_by (by decide +kernel)
abbrev s_BadText___init__ : Stmt := inClass (top 4) 0
abbrev P_BadText___init__ : List Str := ["self", "at"]
theorem c_BadText___init__ : NScope (["self", "at", "__class__"] : List Str) P_BadText___init__ ["__class__"] (defScope s_BadText___init__) := nscope_by (by decide +kernel)
abbrev s_BadName___init__ : Stmt := inClass (top 5) 0
abbrev P_BadName___init__ : List Str := ["self", "name"]
theorem c_BadName___init__ : NScope (["self", "name", "__class__"] : List Str) P_BadName___init__ ["__class__"] (defScope s_BadName___init__) := nscope_by (by decide +kernel)
abbrev s_DuplicateName___init__ : Stmt := inClass (top 6) 0
abbrev P_DuplicateName___init__ : List Str := ["self", "name"]
theorem c_DuplicateName___init__ : NScope (["self", "name", "__class__"] : List Str) P_DuplicateName___init__ ["__class__"] (defScope s_DuplicateName___init__) := nscope_by (by decide +kernel)
abbrev s_UnknownName___init__ : Stmt := inClass (top 7) 0
abbrev P_UnknownName___init__ : List Str := ["self", "name"]
theorem c_UnknownName___init__ : NScope (["self", "name", "__class__"] : List Str) P_UnknownName___init__ ["__class__"] (defScope s_UnknownName___init__) := nscope_by (by decide +kernel)
abbrev s_BadWay___init__ : Stmt := inClass (top 8) 0
abbrev P_BadWay___init__ : List Str := ["self", "at"]
theorem c_BadWay___init__ : NScope (["self", "at", "__class__"] : List Str) P_BadWay___init__ ["__class__"] (defScope s_BadWay___init__) := nscope_by (by decide +kernel)
abbrev s_NotPlain___init__ : Stmt := inClass (top 9) 0
abbrev P_NotPlain___init__ : List Str := ["self", "at"]
theorem c_NotPlain___init__ : NScope (["self", "at", "__class__"] : List Str) P_NotPlain___init__ ["__class__"] (defScope s_NotPlain___init__) := nscope_by (by decide +kernel)
abbrev s_NoPlan___init__ : Stmt := inClass (top 10) 0
abbrev P_NoPlan___init__ : List Str := ["self", "prices"]
theorem c_NoPlan___init__ : NScope (["self", "prices", "__class__"] : List Str) P_NoPlan___init__ ["__class__"] (defScope s_NoPlan___init__) := nscope_by (by decide +kernel)
abbrev s_NothingToShow___init__ : Stmt := inClass (top 11) 0
abbrev P_NothingToShow___init__ : List Str := ["self"]
theorem c_NothingToShow___init__ : NScope (["self", "__class__"] : List Str) P_NothingToShow___init__ ["__class__"] (defScope s_NothingToShow___init__) := nscope_by (by decide +kernel)
abbrev s_NothingToUndo___init__ : Stmt := inClass (top 12) 0
abbrev P_NothingToUndo___init__ : List Str := ["self"]
theorem c_NothingToUndo___init__ : NScope (["self", "__class__"] : List Str) P_NothingToUndo___init__ ["__class__"] (defScope s_NothingToUndo___init__) := nscope_by (by decide +kernel)
abbrev s_common : Stmt := top 15
abbrev N_common : List Str := ["a", "b", "one", "other"]
abbrev P_common : List Str := ["a", "b"]
theorem c_common : FnScope N_common P_common (defScope s_common) := ⟨rfl, rfl, rfl, by decide +kernel, rfl, by decide +kernel, by decide +kernel⟩
abbrev s_Ratio___init__ : Stmt := inClass (top 18) 0
abbrev N_Ratio___init__ : List Str := ["self", "top", "bottom", "divisor"]
abbrev P_Ratio___init__ : List Str := ["self", "top", "bottom"]
theorem c_Ratio___init__ : FnScope N_Ratio___init__ P_Ratio___init__ (defScope s_Ratio___init__) := ⟨rfl, rfl, rfl, by decide +kernel, rfl, by decide +kernel, by decide +kernel⟩
abbrev s_Ratio___eq__ : Stmt := inClass (top 18) 7
abbrev N_Ratio___eq__ : List Str := ["self", "other"]
abbrev P_Ratio___eq__ : List Str := ["self", "other"]
theorem c_Ratio___eq__ : FnScope N_Ratio___eq__ P_Ratio___eq__ (defScope s_Ratio___eq__) := ⟨rfl, rfl, rfl, by decide +kernel, rfl, by decide +kernel, by decide +kernel⟩
abbrev s_Ratio___str__ : Stmt := inClass (top 18) 9
abbrev N_Ratio___str__ : List Str := ["self"]
abbrev P_Ratio___str__ : List Str := ["self"]
theorem c_Ratio___str__ : FnScope N_Ratio___str__ P_Ratio___str__ (defScope s_Ratio___str__) := ⟨rfl, rfl, rfl, by decide +kernel, rfl, by decide +kernel, by decide +kernel⟩
abbrev s__law_bag : Stmt := top 20
abbrev N__law_bag : List Str := ["_law_cell"]
abbrev P__law_bag : List Str := ["_law_cell"]
theorem c__law_bag : FnScope N__law_bag P__law_bag (defScope s__law_bag) := ⟨rfl, rfl, rfl, by decide +kernel, rfl, by decide +kernel, by decide +kernel⟩
abbrev s__law_draw : Stmt := top 21
abbrev N__law_draw : List Str := ["_law_pool", "_law_limit", "_law_drawn", "_law_mixed"]
abbrev P__law_draw : List Str := ["_law_pool", "_law_limit"]
theorem c__law_draw : FnScope N__law_draw P__law_draw (defScope s__law_draw) := ⟨rfl, rfl, rfl, by decide +kernel, rfl, by decide +kernel, by decide +kernel⟩
abbrev s__law_at : Stmt := top 22
abbrev N__law_at : List Str := ["_law_script", "_law_k"]
abbrev P__law_at : List Str := ["_law_script", "_law_k"]
theorem c__law_at : FnScope N__law_at P__law_at (defScope s__law_at) := ⟨rfl, rfl, rfl, by decide +kernel, rfl, by decide +kernel, by decide +kernel⟩
abbrev s__law_kinds : Stmt := top 23
abbrev N__law_kinds : List Str := ["_law_e", "_law_flags"]
abbrev P__law_kinds : List Str := ["_law_e"]
theorem c__law_kinds : FnScope N__law_kinds P__law_kinds (defScope s__law_kinds) := ⟨rfl, rfl, rfl, by decide +kernel, rfl, by decide +kernel, by decide +kernel⟩
abbrev s__law_named : Stmt := top 24
abbrev N__law_named : List Str := ["_law_which", "_law_name", "_law_e"]
abbrev P__law_named : List Str := ["_law_which", "_law_name"]
theorem c__law_named : FnScope N__law_named P__law_named (defScope s__law_named) := ⟨rfl, rfl, rfl, by decide +kernel, rfl, by decide +kernel, by decide +kernel⟩
abbrev s__law_priced : Stmt := top 25
abbrev N__law_priced : List Str := ["_law_name", "_law_n", "_law_told", "_law_e"]
abbrev P__law_priced : List Str := ["_law_name", "_law_n"]
theorem c__law_priced : FnScope N__law_priced P__law_priced (defScope s__law_priced) := ⟨rfl, rfl, rfl, by decide +kernel, rfl, by decide +kernel, by decide +kernel⟩
abbrev s__law_made : Stmt := top 26
abbrev N__law_made : List Str := ["_law_which", "_law_n", "_law_name", "_law_e"]
abbrev P__law_made : List Str := ["_law_which", "_law_n", "_law_name"]
theorem c__law_made : FnScope N__law_made P__law_made (defScope s__law_made) := ⟨rfl, rfl, rfl, by decide +kernel, rfl, by decide +kernel, by decide +kernel⟩
abbrev s_law : Stmt := top 27
abbrev N_law : List Str := ["_law_script", "_law_pool", "_law_n", "_law_name", "_law_which", "_law_e", "_law_same", "_law_k"]
abbrev P_law : List Str := ["_law_script"]
theorem c_law : FnScope N_law P_law (defScope s_law) := ⟨rfl, rfl, rfl, by decide +kernel, rfl, by decide +kernel, by decide +kernel⟩
end W1
set_option maxRecDepth 100000
set_option maxHeartbeats 2000000
namespace W1
open PySem PySem.Spec PyProof.Rows L2 NdefX

/-! ### the fractions' defs -/
/-- a promise by data: nothing handed over -/
def pOk {α : Type} (D : α → Prop) (A : α → List Rl) (R : α → Rl) : Pre := fun Rs w o w' => ∃ a, D a ∧ Rs = A a ∧ w = [] ∧ w' = [] ∧ o = .ok (R a)
def pOr (p q : Pre) : Pre := fun Rs w o w' => p Rs w o w' ∨ q Rs w o w'
section
variable {α : Type} {D : α → Prop} {A : α → List Rl} {R : α → Rl} {P : α → Er}
theorem pok (a : α) (h : D a) : pOk D A R (A a) [] (.ok (R a)) [] := ⟨a, h, rfl, rfl, rfl, rfl⟩
end
theorem bt_abs : bootBuiltins "abs" = some (.builtin "abs") := by decide +kernel
theorem bt_len : bootBuiltins "len" = some (.builtin "len") := by decide +kernel
theorem bt_isi : bootBuiltins "isinstance" = some (.builtin "isinstance") := by decide +kernel
theorem bt_int : bootBuiltins "int" = some (.type "int") := by decide +kernel
theorem bt_str : bootBuiltins "str" = some (.type "str") := by decide +kernel
def pCommon : Pre := pOk (α := Int × Int) (fun _ => True) (fun a => [rInt a.1, rInt a.2]) (fun a => rInt (Int.gcd a.1 a.2 : Int))
section
variable {P : Program} {w : World} {K : PySem.W.Frag} {mg : Str → Option Value} {base : Heap}
theorem kf_common {f : Addr} {fd : FuncData} (Fn : Fun K "common" "common" s_common f fd) (abs : mg "abs" = none) : FnOk P w K mg base (L2.CX P w) 1 f fd P_common (spM pCommon) := by
  refine fn_ok Fn c_common (fun _ _ _ _ ⟨a, _, h, _⟩ => by rw [h]; rfl) ?_
  rintro cdv A outer s H E ⟨_, G0, H0, M, W, tk⟩ hr rfl Rs ω o ω' ⟨⟨a, b⟩, -, rfl, rfl, rfl, rfl⟩
  refine hb_par 2 3 (ar_cons (er_callB cop_abs rfl abs bt_abs (ar_cons (er_var 0 rfl) ar_nil)) (ar_cons (er_callB cop_abs rfl abs bt_abs (ar_cons (er_var 1 rfl) ar_nil)) ar_nil)) ?_ c_common.nd
  rw [abs_nat, abs_nat]
  refine hb_while (fun m ρ ω => ∃ x y : Nat, m = y ∧ ω = [] ∧ Int.gcd (x : Int) (y : Int) = Int.gcd a b ∧ ρ = [some (rInt a), some (rInt b), some (rInt x), some (rInt y)]) b.natAbs ⟨a.natAbs, b.natAbs, rfl, rfl, by simp [Int.gcd], rfl⟩ ?_ (passes_of rfl)
  rintro m ρ ω ⟨x, y, rfl, rfl, hg, rfl⟩
  refine ⟨_, _, tr_cmp (er_var 3 rfl) er_int bop_neI, fun hb => ?_, fun hb => ?_⟩
  · have hy : m ≠ 0 := by simpa using hb
    refine hb_par 2 3 (ar_cons (er_var 3 rfl) (ar_cons (er_bin (er_var 2 rfl) (er_var 3 rfl) (bop_mod (by omega))) ar_nil)) (hb_nil ?_) c_common.nd
    rw [fmod_nat]
    exact ⟨x % m, Nat.mod_lt _ (by omega), m, x % m, rfl, rfl, by rw [gcd_step _ _ hy]; exact hg, rfl⟩
  · have hy : m = 0 := by simpa using hb
    subst hy
    refine hb_ret (er_var 2 rfl) ⟨_, _, rfl, fun v G h => ?_, rfl⟩
    rw [show v = V.int (x : Int) from h]
    show V.int (x : Int) = V.int (Int.gcd a b : Int)
    rw [← hg]
    simp
end
end W1
set_option maxRecDepth 100000
set_option maxHeartbeats 2000000
namespace W1
open PySem PySem.Spec PyProof.Rows L2 NdefX

def rRat (C : Addr) (q : Rat) : Rl := rIns C [("top", rInt q.num), ("bottom", rInt (q.den : Int))]
def small (q : Rat) : Prop := Sz 4000 q
theorem small.t {q : Rat} (h : small q) : q.num.natAbs < 2 ^ 4000 := h.1
theorem small.b {q : Rat} (h : small q) : (q.den : Int).natAbs < 2 ^ 4000 := sz_int h
/-- what the written part says of the fractions' class, at C, and of the error, at B -/
structure RatX (K : PySem.W.Frag) (mg : Str → Option Value) (C : Addr) : Prop where
  cx : ClsX K C
  nT : NoAttr K C "top"
  nB : NoAttr K C "bottom"
  gC : mg "Ratio" = some (.ref C)
  nf : PySem.W.notFirst K C (.ref C) = true
  nfI : PySem.W.notFirst K C (.type "int") = true
  nfS : PySem.W.notFirst K C (.type "str") = true
  ksI : PySem.W.kitOne K (.type "int") (.ref C) = some false
  ksS : PySem.W.kitOne K (.type "str") (.ref C) = some false
  isi : mg "isinstance" = none
  bool : mg "bool" = none
  len : mg "len" = none
def pInit (C B : Addr) : Pre := fun Rs w o w' => ∃ (q : Addr) (t b : Int), Rs = [rRef q, rInt t, rInt b] ∧ w = [(q, oIns C [])] ∧
  ((b ≠ 0 ∧ b.natAbs < 2 ^ 9000 ∧ w' = [(q, oIns C [("top", rInt (Rat.divInt t b).num), ("bottom", rInt ((Rat.divInt t b).den : Int))])] ∧ o = .ok rNon) ∨ (b = 0 ∧ w' = [(q, oIns C [])] ∧ o = .error (erF B "n" (rInt 0))))
section
variable {P : Program} {w : World} {K : PySem.W.Frag} {mg : Str → Option Value} {base : Heap} {C B : Addr}
theorem kf_init {f : Addr} {fd : FuncData} (Fn : Fun K "__init__" "Ratio.__init__" s_Ratio___init__ f fd) (X : RatX K mg C) (Tc : Kf1 P w K mg base "common" 1 pCommon) (Te : Ke P w K mg base B "BadNumber" "n" 1 prInt) :
    FnOk P w K mg base (L2.CX P w) 3 f fd P_Ratio___init__ (spM (pInit C B)) := by
  refine fn_ok Fn c_Ratio___init__ (fun _ _ _ _ ⟨q, t, b, h, _⟩ => by rw [h]; rfl) ?_
  rintro cdv A outer s H E ⟨_, G0, H0, M, W, tk⟩ hr rfl Rs ω o ω' ⟨q, t, b, rfl, rfl, h⟩
  refine hb_if (tr_cmp (er_var 2 rfl) er_int bop_eqI) (fun hb => ?_) (fun hb => ?_)
  · have hb0 : b = 0 := by simpa using hb
    rcases h with ⟨h, _⟩ | ⟨_, rfl, rfl⟩
    · exact absurd hb0 h
    · exact hb_err Te hr (ar_cons er_int ar_nil) ⟨_, [], rfl, fun _ _ _ h => h, rfl⟩ fun v G h => ⟨0, h, by decide⟩
  · have hb0 : b ≠ 0 := by simpa using hb
    rcases h with ⟨_, hz, rfl, rfl⟩ | ⟨h, _⟩
    · refine hb_nil ?_
      refine hb_set 3 (er_fn0 Tc (hr.mono (by decide)) (ar_cons (er_var 1 rfl) (ar_cons (er_var 2 rfl) ar_nil)) (pok (t, b) trivial)) ?_ c_Ratio___init__.nd
      have go : ∀ {d : Int}, d = dvs t b → HB ⟨_, G0, H0, M, W, tk⟩ [some (rRef q), some (rInt t), some (rInt b), some (rInt d)] [(q, oIns C [])] ((defBody s_Ratio___init__).drop 3) (Kf (.ok rNon) [(q, oIns C [("top", rInt (Rat.divInt t b).num), ("bottom", rInt ((Rat.divInt t b).den : Int))])]) := fun {d} hd => by
        subst hd
        have hk : ∀ i, CDivZ i (dvs t b) := fun i => divok (n := 9000) (dvs_ne hb0) (Nat.lt_of_le_of_lt (dvs_le.resolve_right hb0) hz)
        refine hb_fld (w2 := []) (er_bin (er_var 1 rfl) (er_var 3 rfl) (bop_fdiv (hk t))) (er_var 0 rfl) X.cx.cls X.nT ?_
        refine hb_fld (w2 := []) (er_bin (er_var 2 rfl) (er_var 3 rfl) (bop_fdiv (hk b))) (er_var 0 rfl) X.cx.cls X.nB (hb_nil ?_) (hl := by show 1 < 1000; decide)
        refine ⟨rNon, [], rfl, fun _ => rfl, ?_⟩
        rw [dvs_top hb0, dvs_bot hb0]
        rfl
      refine hb_if (tr_cmp (er_var 2 rfl) er_int bop_lt) (fun hn => ?_) (fun hn => ?_)
      · have hn0 : b < 0 := by simpa using hn
        exact hb_set 3 (er_un (er_var 3 rfl) uop_neg) (hb_nil (go (by unfold dvs; rw [if_pos hn0]))) c_Ratio___init__.nd
      · have hn0 : ¬ b < 0 := by simpa using hn
        exact hb_nil (go (by unfold dvs; rw [if_neg hn0]))
    · exact absurd h hb0
end
end W1
set_option maxRecDepth 100000
set_option maxHeartbeats 2000000
set_option exponentiation.threshold 20000
namespace W1
open PySem PySem.Spec PyProof.Rows L2 NdefX

section
variable {F : Fx} {ρ : Ty} {ω w w1 w2 : Ow} {e o a b : Expr} {C B : Addr} {pos p : Pos} {t u : Int} {q : Rat}
theorem er_ratio (T : Kc F.X.prog F.X.w F.X.K F.X.mg F.X.base C "Ratio" 3 (pInit C B)) (hr : Room 4 F.X.A) (ha : AR F ρ ω [a, b] [rInt t, rInt u] w) (hq : Rat.divInt t u = q) (h0 : u ≠ 0) (hz : u.natAbs < 2 ^ 9000) (hg : Gl F.X "Ratio" := by rfl)
    (he : starEach [a, b] F.X.env = (false, eval a F.X.env) :: starEach [b] F.X.env := by rfl) (hpl : (backTo pos (starEach [b] F.X.env)).any (·.1) = false := by rfl) :
    ER F ρ ω (.Call (.Name "Ratio" p) [a, b] [] pos) (rRat C q) w := by
  subst hq
  exact er_c T hr ha (fun q => ⟨q, t, u, rfl, rfl, .inl ⟨h0, hz, rfl, rfl⟩⟩) hg (by decide) he hpl
theorem er_top (X : RatX F.X.K F.X.mg C) (h : ER F ρ ω e (rRat C q) w) (hb : attributeBase e "top" F.X.env (eval e F.X.env) = eval e F.X.env := by rfl) : ER F ρ ω (.Attribute e "top" pos) (rInt q.num) w := er_fld h X.cx.cls X.nT rfl hb
theorem er_bot (X : RatX F.X.K F.X.mg C) (h : ER F ρ ω e (rRat C q) w) (hb : attributeBase e "bottom" F.X.env (eval e F.X.env) = eval e F.X.env := by rfl) : ER F ρ ω (.Attribute e "bottom" pos) (rInt (q.den : Int)) w := er_fld h X.cx.cls X.nB rfl hb
end
def p2 (C : Addr) (f : Rat → Rat → Rl) : Pre := pOk (α := Rat × Rat) (fun a => small a.1 ∧ small a.2) (fun a => [rRat C a.1, rRat C a.2]) (fun a => f a.1 a.2)
def pEq (C : Addr) : Pre := pOr (pOk (α := Rat × Rat) (fun _ => True) (fun a => [rRat C a.1, rRat C a.2]) (fun a => rBool (decide (a.1 = a.2))))
  (pOr (pOk (α := Rat × Int) (fun _ => True) (fun a => [rRat C a.1, rInt a.2]) (fun a => rBool false)) (pOk (α := Rat × Str) (fun _ => True) (fun a => [rRat C a.1, rStr a.2]) (fun a => rBool false)))
theorem small.mb {p q : Rat} (hp : small p) (hq : small q) : IntMulOk p.den q.den := mulok hp.b hq.b
theorem small.dd {p q : Rat} (hp : small p) (hq : small q) : ((p.den : Int) * q.den).natAbs < 2 ^ 9000 := by
  rw [Int.natAbs_mul]
  exact Nat.lt_of_lt_of_le (mul_lt2 hp.b hq.b) (Nat.pow_le_pow_right (by decide) (by decide))
theorem rat_eq_dec (p q : Rat) : (decide (p.num = q.num) && decide ((p.den : Int) = q.den)) = decide (p = q) := by
  by_cases h : p = q
  · subst h; simp
  · have : ¬ (p.num = q.num ∧ (p.den : Int) = q.den) := fun ⟨h1, h2⟩ => h (Rat.ext h1 (by omega))
    rw [decide_eq_false h]
    by_cases h1 : p.num = q.num
    · have h2 : ¬ (p.den : Int) = q.den := fun z => this ⟨h1, z⟩
      rw [decide_eq_false h2, Bool.and_false]
    · rw [decide_eq_false h1, Bool.false_and]
section
variable {P : Program} {w : World} {K : PySem.W.Frag} {mg : Str → Option Value} {base : Heap} {C B f : Addr} {fd : FuncData}
theorem kf_eq (Fn : Fun K "__eq__" "Ratio.__eq__" s_Ratio___eq__ f fd) (X : RatX K mg C) : FnOk P w K mg base (L2.CX P w) 5 f fd P_Ratio___eq__ (spM (pEq C)) := by
  refine fn_ok Fn c_Ratio___eq__ (fun _ _ _ _ h => by rcases h with ⟨_, _, h, _⟩ | ⟨_, _, h, _⟩ | ⟨_, _, h, _⟩ <;> rw [h] <;> rfl) ?_
  rintro cdv A outer s H E ⟨_, G0, H0, M, W, tk⟩ hr rfl Rs ω o ω' (⟨⟨p, q⟩, -, rfl, rfl, rfl, rfl⟩ | ⟨⟨p, q⟩, -, rfl, rfl, rfl, rfl⟩ | ⟨⟨p, q⟩, -, rfl, rfl, rfl, rfl⟩)
  · refine hb_ret (er_and (er_callB (cop_isIns X.cx) rfl X.isi bt_isi (ar_cons (er_var 1 rfl) (ar_cons (er_glob rfl X.gC rfl) ar_nil))) fun _ => er_and (er_cmp (er_top X (er_var 0 rfl)) (er_top X (er_var 1 rfl)) bop_eqI) fun _ => er_one (er_cmp (er_bot X (er_var 0 rfl)) (er_bot X (er_var 1 rfl)) bop_eqI)) ⟨_, [], rfl, fun v G h => ?_, rfl⟩
    rw [show v = V.bl _ from h]
    show V.bl _ = V.bl (decide (p = q))
    rw [← rat_eq_dec, Bool.true_and]
  · refine hb_ret (er_and (m := false) (er_callB (cop_isNot (.inl ⟨q, rfl, rfl⟩) X.ksI) rfl X.isi bt_isi (ar_cons (er_var 1 rfl) (ar_cons (er_glob rfl X.gC rfl) ar_nil))) fun z => Bool.noConfusion z) ⟨_, [], rfl, fun v G h => h, rfl⟩
  · refine hb_ret (er_and (m := false) (er_callB (cop_isNot (.inr (.inl ⟨q, rfl, rfl⟩)) X.ksS) rfl X.isi bt_isi (ar_cons (er_var 1 rfl) (ar_cons (er_glob rfl X.gC rfl) ar_nil))) fun z => Bool.noConfusion z) ⟨_, [], rfl, fun v G h => h, rfl⟩
end
end W1
set_option maxRecDepth 100000
set_option maxHeartbeats 2000000
set_option exponentiation.threshold 20000
namespace W1
open PySem PySem.Spec PyProof.Rows L2 NdefX

section
variable {F : Fx} {ρ : Ty} {ω w w1 : Ow} {e tg it : Expr} {Rs : List Rl} {R : Rl} {b : Bool} {i : Int} {n : Nat}
end
theorem map_get {α β : Type} {f : α → β} {xs : List α} {k : Nat} {S : β} (h : (xs.map f)[k]? = some S) : ∃ a, xs[k]? = some a ∧ S = f a := by
  rw [List.getElem?_map] at h
  cases e : xs[k]? with
  | none => rw [e] at h; cases h
  | some a => rw [e] at h; cases h; exact ⟨a, rfl, rfl⟩
section
variable {C B : Addr} {p q : Rat}
theorem pEqOk : pEq C [rRat C p, rRat C q] [] (.ok (rBool (decide (p = q)))) [] := .inl ⟨(p, q), trivial, rfl, rfl, rfl, rfl⟩
end
section
variable {P : Program} {w : World} {K : PySem.W.Frag} {mg : Str → Option Value} {base : Heap} {C B f : Addr} {fd : FuncData}
end
end W1
set_option maxRecDepth 100000
set_option maxHeartbeats 4000000
/-! ### two dicts that are alike, where a comparison may run own code -/
namespace W1Q
open PySem PySem.Spec PyProof.Rows
section
variable {prog : Program} {w : World} {K : Type} [DecidableEq K] {knd : KeyKind prog w K} {A : Around} {E : Value → Shared → Prop}
/-- what two dicts hold, and what stays while they are compared -/
structure Alike (prog : Program) (w : World) {K : Type} [DecidableEq K] (knd : KeyKind prog w K) (A : Around) (E : Value → Shared → Prop) (a b : Addr) (J : Shared → Prop) (oa ob : Obj) (es fs : Array DictEntry) (ep fp : Nat) (ka kb : List (K × Value)) : Prop where
  na : (a == sysModules) = false
  nb : (b == sysModules) = false
  da : oa.data = .dict es ep
  db : ob.data = .dict fs fp
  k1 : KeysOf knd es
  k2 : KeysOf knd fs
  p1 : Pairs knd es.toList ka
  p2 : Pairs knd fs.toList kb
  at_ : ∀ s, J s → s.heap.get? a = some oa ∧ s.heap.get? b = some ob
  hl : ka.length = kb.length
  eq : ∀ s (i : Nat) k v, J s → ka[i]? = some (k, v) → ∃ y, valueAt kb k = some y ∧ wpAny (model prog w) A (eqBool v y) (fun r s' => r = true ∧ J s') E s
theorem same_pairs {nm : String} {a b : Addr} {J : Shared → Prop} {oa ob : Obj} {es fs : Array DictEntry} {ep fp : Nat} {ka kb : List (K × Value)} (T : Alike prog w knd A E a b J oa ob es fs ep fp ka kb) {Q : Bool → Shared → Prop} {s : Shared} (h : J s) (q : ∀ s', J s' → Q true s') :
    wpAny (model prog w) A (Builtin.Dict.samePairs nm a b) Q E s := by
  have na : es.size = ka.length := by rw [← T.p1.length, Array.length_toList]
  have nb : fs.size = kb.length := by rw [← T.p2.length, Array.length_toList]
  have sz : es.size = fs.size := by rw [na, nb, T.hl]
  have look : ∀ k, findBy knd.is fs k = valueAt kb k := fun k => by
    have h := T.p2.find k
    rw [← h]
    have : ∀ l : List DictEntry, findBy knd.is l.toArray k = (l.find? fun e => knd.is k e.key).map (·.val) := fun l => by simp [findBy]
    have h2 := this fs.toList
    rw [Array.toArray_toList] at h2
    exact h2
  unfold Builtin.Dict.samePairs Builtin.Dict.showsAll
  simp only [T.na, T.nb, Bool.false_eq_true, if_false]
  refine wpAny_bind (wpAny_pure (wpAny_bind (wpAny_pure (wpAny_bind (wpAny_dictEntries (T.at_ s h).1 T.da ?_)))))
  refine wpAny_bind (wpAny_dictEntries (T.at_ s h).2 T.db ?_)
  have e0 : (es.size != fs.size) = false := by rw [sz]; simp
  rw [e0, if_neg Bool.false_ne_true]
  refine wpAny_bind (wpAny_dictEpoch (T.at_ s h).1 T.da (wpAny_bind ?_))
  rw [Std.Legacy.Range.forIn_eq_forIn_range']
  simp only [Std.Legacy.Range.size, Nat.sub_zero, Nat.add_sub_cancel, Nat.div_one]
  refine wpAny_forIn_list _ (fun left st s' => st = (none, ()) ∧ J s' ∧ ∃ i, i + left.length = es.size ∧ left = List.range' i left.length) _ (fun i left st s' hI => ?_) (fun st s' hI => ?_) _ _ ⟨rfl, h, 0, by simp, by simp⟩
  · obtain ⟨rfl, j, i0, hi, hr⟩ := hI
    rw [List.length_cons, List.range'_succ] at hr
    injection hr with hx hrest
    subst hx
    rw [List.length_cons] at hi
    have lt : i < es.size := by omega
    have ltk : i < ka.length := by omega
    obtain ⟨is1, val1⟩ := T.p1.get? (e := es[i]) (by simp [lt]) (List.getElem?_eq_getElem ltk)
    obtain ⟨k2, is2, hash⟩ := T.k1 es[i] (Array.getElem_mem lt)
    rw [knd.inj _ _ _ is2 is1] at hash
    obtain ⟨y, hy, run⟩ := T.eq s' i ka[i].1 ka[i].2 j (List.getElem?_eq_getElem ltk)
    refine wpAny_bind (wpAny_dictEntries (T.at_ s' j).1 T.da ?_)
    rw [Array.getElem?_eq_getElem lt]
    dsimp only
    rw [hash]
    refine wpAny_bind (wpAny_holding (wpAny_bind (wpAny_dictFind_of is1 (T.at_ s' j).2 T.db T.k2 ?_)))
    rw [← look, findBy_of_findIdx?] at hy
    cases f : fs.findIdx? fun e => knd.is ka[i].1 e.key with
    | none => rw [f] at hy; cases hy
    | some m =>
      rw [f] at hy
      have ltm := (Array.findIdx?_eq_some_iff_getElem.mp f).1
      have ey : fs[m].val = y := by simpa [Array.getElem?_eq_getElem ltm] using hy
      refine wpAny_bind (wpAny_dictEntries (T.at_ s' j).2 T.db ?_)
      rw [Array.getElem?_eq_getElem ltm]
      dsimp only
      rw [ey, val1]
      refine wpAny_holding (wpAny_mono run (fun r s2 z => ?_) fun _ _ z => z)
      obtain ⟨rfl, j2⟩ := z
      simp only [Bool.not_true, Bool.false_eq_true, if_false]
      refine wpAny_bind (wpAny_dictEpoch (T.at_ s2 j2).1 T.da ?_)
      rw [bne_self_eq_false, if_neg Bool.false_ne_true]
      exact wpAny_pure ⟨rfl, j2, i + 1, by omega, hrest⟩
  · obtain ⟨rfl, j, _⟩ := hI
    exact wpAny_pure (q s' j)
theorem rc_alike (neg : Bool) {a b : Addr} {J : Shared → Prop} {oa ob : Obj} {es fs : Array DictEntry} {ep fp : Nat} {ka kb : List (K × Value)} (T : Alike prog w knd A.in1 E a b J oa ob es fs ep fp ka kb) {Q : Value → Shared → Prop} {s : Shared} (ta : s.TypeIs (.ref a) "dict") (tb : s.TypeIs (.ref b) "dict") (hu : A.units < cLine) (h : J s) (q : ∀ s', J s' → Q (.bool (!neg)) s') :
    wpAny (model prog w) A (richCompare (if neg then .NotEq else .Eq) (.ref a) (.ref b)) Q E s := by
  cases neg with
  | false =>
    rw [if_neg (by decide)]
    refine wpAny_richCompare_same_room (op := .Eq) ta tb PySem.F.slot_dict_eq (wpAny_call_entry PySem.F.slot_dict_eq ta PySem.F.entry_dict_eq ?_ (PySem.F.args_dict_eq_2 _ _)) hu
    show wpAny _ _ (Builtin.Dict.dictSlotArgs "__eq__" ⟨[.ref a, .ref b], []⟩ >>= _) _ _ s
    unfold Builtin.Dict.dictSlotArgs
    refine wpAny_bind (wpAny_bind (wpAny_notOrdered_dict ta (wpAny_pure ?_)))
    refine wpAny_bind (wpAny_isInstance (T := "dict") tb PySem.F.sub_dict_dict ?_)
    simp only [Bool.not_true, Bool.false_eq_true, if_false]
    refine wpAny_bind (wpAny_pure (wpAny_bind (wpAny_pure (wpAny_bind (same_pairs T h fun s' j => ?_)))))
    exact wpAny_pure ⟨_, rfl, (fun z => nomatch z), by simpa using q s' j⟩
  | true =>
    rw [if_pos rfl]
    refine wpAny_richCompare_same_room (op := .NotEq) ta tb PySem.F.slot_dict_ne (wpAny_call_entry PySem.F.slot_dict_ne ta PySem.F.entry_dict_ne ?_ (PySem.F.args_dict_ne_2 _ _)) hu
    show wpAny _ _ (Builtin.Dict.dictSlotArgs "__ne__" ⟨[.ref a, .ref b], []⟩ >>= _) _ _ s
    unfold Builtin.Dict.dictSlotArgs
    refine wpAny_bind (wpAny_bind (wpAny_notOrdered_dict ta (wpAny_pure ?_)))
    refine wpAny_bind (wpAny_isInstance (T := "dict") tb PySem.F.sub_dict_dict ?_)
    simp only [Bool.not_true, Bool.false_eq_true, if_false]
    refine wpAny_bind (wpAny_pure (wpAny_bind (wpAny_pure (wpAny_bind (same_pairs T h fun s' j => ?_)))))
    exact wpAny_pure ⟨_, rfl, (fun z => nomatch z), by simpa using q s' j⟩
end
end W1Q
set_option maxRecDepth 100000
set_option maxHeartbeats 4000000
set_option exponentiation.threshold 20000
namespace W1
open PySem PySem.Spec PyProof.Rows L2 NdefX TL NumText
/-! ### == and != of dicts that are alike, by own comparisons of what they hold -/
/-- the i-th thing of one has a like in the other -/
def Likes (X : Cx) (n : Nat) (fs gs : List (Key × Rl)) : Prop := fs.length = gs.length ∧ ∀ (i : Nat) k R, fs[i]? = some (k, R) → ∃ S, valR gs k = some S ∧ EqB X n R S true
theorem NR.at_ {κ : Type} {H : Hp} : ∀ {fs : List (κ × Rl)} {vs : List (κ × V)} {i : Nat} {k : κ} {v : V}, NR fs vs H → vs[i]? = some (k, v) → ∃ R, fs[i]? = some (k, R) ∧ R.r v H
  | [], [], i, _, _, _, e => by simp at e
  | (k0, R) :: fs, (k1, x) :: vs, 0, k, v, ⟨hk, h, _⟩, e => by
    cases (Option.some.inj e)
    subst hk
    exact ⟨R, rfl, h⟩
  | (_, _) :: fs, (_, _) :: vs, i + 1, k, v, ⟨_, _, t⟩, e => NR.at_ (i := i) t e
  | [], _ :: _, _, _, _, h, _ => h.elim
  | _ :: _, [], _, _, _, h, _ => h.elim
section
variable {X : Cx} {n : Nat} {fs gs : List (Key × Rl)}
theorem alike_of {A' : Around} {E : Value → Shared → Prop} {pins : List (Addr × Obj)} {s : Shared} {σ : L2.St} {G H : Hp} {p q : Addr} {o1 o2 : Obj} {vs ws : List (Key × V)} (L : Likes X n fs gs) (bl : Below X n A') (I : Inv X pins σ H s) (sg : Same G H)
    (h1 : H p = some (.frz o1 (.dK vs))) (h2 : H q = some (.frz o2 (.dK ws))) (n1 : NR fs vs G) (n2 : NR gs ws G) :
    ∃ es ds ep dp va vb, W1Q.Alike X.prog X.w (mixKind X.prog X.w) A' E p q (LoopW X pins σ G H) o1 o2 es ds ep dp va vb ∧ s.TypeIs (.ref p) "dict" ∧ s.TypeIs (.ref q) "dict" := by
  obtain ⟨np, gp, x1, es, ep, va, d1, _, kva, oa, esa, ga, xa, da, ka, pa, nda⟩ := I.frzK h1
  obtain ⟨nq, gq, x2, ds, dp, vb, d2, _, kvb, ob, esb, gb, xb, db, kb, pb, ndb⟩ := I.frzK h2
  rw [gp] at ga
  cases ga
  rw [gq] at gb
  cases gb
  refine ⟨esa, esb, ep, dp, va, vb, ⟨np, nq, da, db, ka, kb, pa, pb, ?_, ?_, ?_⟩, Heap.DictOf.typeIs ⟨_, _, _, gp, x1, da, ka, pa, nda⟩, Heap.DictOf.typeIs ⟨_, _, _, gq, x2, db, kb, pb, ndb⟩⟩
  · rintro s' ⟨G', H', I', st⟩
    exact ⟨(I'.frzK (st.hh _ _ h1)).2.1, (I'.frzK (st.hh _ _ h2)).2.1⟩
  · rw [← kva.length, ← kvb.length, ← n1.len, ← n2.len]
    exact L.1
  · rintro s' i k v ⟨G', H', I', st⟩ hv
    obtain ⟨x, hx, rx⟩ := kva.at' hv
    obtain ⟨R, hR, rR⟩ := n1.at_ hx
    obtain ⟨S, hS, eq⟩ := L.2 i k R hR
    obtain ⟨y, hy, rS⟩ := n2.val.1 S hS
    have ry := kvb.val k
    rw [hy] at ry
    cases e : valueAt vb k with
    | none => rw [e] at ry; exact ry.elim
    | some u =>
      rw [e] at ry
      refine ⟨u, rfl, wpAny_mono (eq A' pins s' σ G' H' x y v u E bl I' rx ry st.gh (R.mo _ _ _ st.gg rR) (S.mo _ _ _ st.gg rS)) (fun r s2 z => ?_) fun _ _ z => z⟩
      obtain ⟨rfl, G2, H2, I2, st2⟩ := z
      exact ⟨rfl, G2, H2, I2, st.trans st2⟩
end
section
variable {F : Fx} {w : Ow} {A B : Rl} {n : Nat} {fs gs : List (Key × Rl)}
/-- a dict that cannot change just now -/
def IsFz (F : Fx) (A : Rl) (w : Ow) (fs : List (Key × Rl)) : Prop := ∀ x G H, At F w G H → A.r x G → ∃ p od vs, x = .ref p ∧ H p = some (.frz od (.dK vs)) ∧ NR fs vs G
theorem isf_frz : IsFz F (rDct fs) w fs := fun x G H at_ ⟨p, od, vs, a, b, c⟩ => ⟨p, od, vs, a, at_.gh _ _ b, c⟩
/-- an operator, by what it does at a state -/
theorem bop_semA {f : Value → Value → Sem Value} {b : Bool} (h : ∀ pins s σ G H x y u v Q, At F w G H → Inv F.X pins σ H s → RelV x u → RelV y v → A.r x G → B.r y G → (∀ z G' H', Step G H G' H' → (rBool b).r z G' → Q z H') → wpAny (model F.X.prog F.X.w) F.X.A (f u v) (EP F.X pins σ Q) F.X.xe s) : Bop F w f A B (rBool b) :=
  ⟨fun x y H Q => ∃ G, At F w G H ∧ A.r x G ∧ B.r y G ∧ ∀ z G2 H2, Same G G2 → At F w G2 H2 → (rBool b).r z G2 → Q z H2, fun pins s σ H x y u v Q I rx ry ⟨G, at_, ax, ay, q⟩ => h pins s σ G H x y u v Q at_ I rx ry ax ay fun z G' H' st rz => q z G' H' st.gg (at_.step st) rz, fun x y G H at_ ax ay Q q => ⟨G, at_, ax, ay, q⟩⟩
theorem bop_dA (neg : Bool) (L : Likes F.X n fs gs) (hA : IsFz F A w fs) (hB : IsFz F B w gs) (hr : Room (n + 1) F.X.A) : Bop F w (compareOp (if neg then .NotEq else .Eq)) A B (rBool (!neg)) :=
  bop_semA fun pins s σ G H x y u v Q at_ I rx ry ax ay q => by
    obtain ⟨p, o1, vs, rfl, h1, n1⟩ := hA _ _ _ at_ ax
    obtain ⟨p2, o2, ws, rfl, h2, n2⟩ := hB _ _ _ at_ ay
    cases (show u = Value.ref p from rx)
    cases (show v = Value.ref p2 from ry)
    have bl : Below F.X (n + 1) F.X.A := ⟨hr, rfl⟩
    obtain ⟨es, ds, ep, dp, va, vb, T, t1, t2⟩ := alike_of (E := F.X.xe) L bl.in1 I at_.gh h1 h2 n1 n2
    have := W1Q.rc_alike neg (Q := EP F.X pins σ Q) T t1 t2 hr.units0 ⟨G, H, I, Step.refl at_.gh⟩ fun s' ⟨G', H', I', st⟩ => ⟨.bl (!neg), H', I', rfl, q _ G' H' st rfl⟩
    cases neg
    · exact this
    · exact this
theorem bop_eqDO (L : Likes F.X n fs gs) (hA : IsFz F A w fs) (hB : IsFz F B w gs) (hr : Room (n + 1) F.X.A) : Bop F w (compareOp .Eq) A B (rBool true) := bop_dA false L hA hB hr
end
end W1
set_option maxRecDepth 100000
set_option maxHeartbeats 4000000
set_option exponentiation.threshold 20000
namespace W1
open PySem PySem.Spec PyProof.Rows L2 NdefX TL NumText
theorem str_len_num {i : Int} (h : i.natAbs.log2 < 1920) : (numT i).length ≤ 1921 := int_text_len_1921 h
def strR (q : Rat) : Str := if q.den = 1 then numT q.num else numT q.num ++ slash ++ numT q.den
def pStr (C : Addr) : Pre := pOk (α := Rat) (Sz 1900) (fun q => [rRat C q]) (fun q => rStr (strR q))
section
variable {P : Program} {w : World} {K : PySem.W.Frag} {mg : Str → Option Value} {base : Heap} {C B D f : Addr} {fd : FuncData}
theorem log_num {q : Rat} (h : Sz 1900 q) : q.num.natAbs.log2 < 1920 := log_lt h.1 (by decide) (by decide)
theorem log_den {q : Rat} (h : Sz 1900 q) : (q.den : Int).natAbs.log2 < 1920 := log_lt (sz_int h) (by decide) (by decide)
theorem kf_str (Fn : Fun K "__str__" "Ratio.__str__" s_Ratio___str__ f fd) (X : RatX K mg C) (str : mg "str" = none) : FnOk P w K mg base (L2.CX P w) 2 f fd P_Ratio___str__ (spM (pStr C)) := by
  refine fn_ok Fn c_Ratio___str__ (fun _ _ _ _ ⟨_, _, h, _⟩ => by rw [h]; rfl) ?_
  rintro cdv A outer s H E ⟨_, G0, H0, M, W, tk⟩ hr rfl Rs ω o ω' ⟨q, hq, rfl, rfl, rfl, rfl⟩
  refine hb_if (tr_cmp (er_bot X (er_var 0 rfl)) er_int bop_eqI) (fun hb => ?_) (fun hb => hb_nil ?_)
  · have h1 : q.den = 1 := by
      have : (q.den : Int) = 1 := of_decide_eq_true hb
      omega
    refine hb_ret (er_callTy (cop_strI (log_num hq)) rfl str bt_str (ar_cons (er_top X (er_var 0 rfl)) ar_nil)) ⟨_, [], rfl, fun v G h => ?_, rfl⟩
    show (rStr (strR q)).r v G
    unfold strR
    rw [if_pos h1]
    exact h
  · have h1 : ¬ q.den = 1 := fun e => of_decide_eq_false hb (by rw [e]; rfl)
    refine hb_ret (er_f3 (er_top X (er_var 0 rfl)) (er_bot X (er_var 0 rfl)) (log_num hq) (log_den hq) (by decide)) ⟨_, [], rfl, fun v G h => ?_, rfl⟩
    show (rStr (strR q)).r v G
    unfold strR
    rw [if_neg h1]
    exact h
end
/-! ### {x}, x an instance with an own __str__ -/
section
variable {X : Cx} {C g k : Nat} {fd : FuncData} {ps : List Str} {sp : Sp}
theorem pe_fmtO {e : Expr} {te : TE} {pos : Pos} (he : PE X e te) (m : OwnM X.K C "__str__" g) (hfm : PySem.W.findIn X.K (.ref C) "__format__" = some (some (.builtin "object.__format__"))) (hm : PySem.W.mroIn X.K C (.type "object") = some true)
    (F : FnOk X.prog X.w X.K X.mg X.base (L2.CX X.prog X.w) k g fd ps sp) (hr : Room (k + 1) X.A) (hb : Binds X.K fd ps []) :
    PE X (.FormattedValue e (-1) none pos) (fun σ H Q => te σ H fun x H1 => ∃ a dx vs, x = .ref a ∧ H1 a = some (.ins C dx vs) ∧ sp [.ref a] H1 (fun v H' => ∃ y, v = .str y ∧ Q (.str y) H') E0) := by
  refine ⟨fun pins s σ H Q I h => ?_⟩
  refine wpAny_FormattedValue_plain (thn (he.run pins s σ H _ I h) fun v s1 hv => ?_)
  obtain ⟨x, H1, I1, r1, a, dx, vs, rfl, ha, q⟩ := hv
  cases r1
  have I2 := I1.tok (s1.toks + 1)
  obtain ⟨od, J⟩ := inst_at I1 ha
  have hr1 : Room k X.A.in1 := hr.in1
  refine PySem.W.kfo_fieldS hr1.units0 I1.kIn J hfm hm m.at_ m.fn (wpAny_mono (run_below (us := [.ref a]) (vs := [.ref a]) F hr1 I2.env0.in1 hb I2 (.cons rfl .nil) q _) (fun w s' z => ?_) fun _ _ x => x)
  obtain ⟨z', H', I', rz, y, ez, qz⟩ := z
  subst ez
  obtain ⟨t, rfl⟩ := rz
  exact ⟨.str y, H', I', ⟨t, rfl⟩, qz⟩
end
/-- a fraction of no great size -/
def prRat (C : Addr) : Rl := rEx fun q : { q : Rat // Sz 1900 q } => rRat C q.1
theorem len_strR {q : Rat} (h : Sz 1900 q) : (strR q).length ≤ 5000 := by
  have h1 := str_len_num (log_num h)
  have h2 := str_len_num (log_den h)
  unfold strR
  split
  · omega
  · have e : slash.length = 1 := rfl
    rw [strlen_app, strlen_app, e]
    omega
/-- what is looked up of a class whose instances are put in texts -/
structure FmtX (K : PySem.W.Frag) (C : Addr) : Prop where
  fm : PySem.W.findIn K (.ref C) "__format__" = some (some (.builtin "object.__format__"))
  ob : PySem.W.mroIn K C (.type "object") = some true
theorem txt_rat {X : Cx} {C : Addr} {i : Nat} {x t : Str} {p1 p2 p3 p4 : Pos} {j : Nat} (T : Ko X.prog X.w X.K X.mg X.base C "__str__" 2 (pStr C)) (fx : FmtX X.K C) (hr : Room 3 X.A) (hN : X.N[i]? = some x) (hv : Vis X.env.scope x) (hd : (x == ("__debug__" : Str)) = false) (hcd : (x == ("__classdict__" : Str)) = false) (ht : t.length ≤ 1000) :
    Txt1 X (.JoinedStr [.FormattedValue (.Name x p1) (-1) none p2, .Constant (.str t) j p3] p4) i (prRat C) := by
  obtain ⟨f, fd, ps, m, hb, Fn⟩ := T
  refine ⟨_, pe_joined (.cons (pe_fmtO (pe_var hN hv hd hcd) m fx.fm fx.ob Fn hr hb) (.cons pe_str .nil)), fun σ H v h3 h4 Q q => ?_⟩
  obtain ⟨⟨r, hr2⟩, a, dx, vs, rfl, ha, hn⟩ := h4
  refine ⟨_, h3, a, dx, vs, rfl, ha, [rRat C r], [], _, [], H, ⟨r, hr2, rfl, rfl, rfl, rfl⟩, Same.refl _, ⟨⟨a, dx, vs, rfl, ha, hn⟩, trivial⟩, (fun _ h => by cases h), List.nodup_nil, rfl, fun v G' H' st _ hv => ⟨strR r, hv, strR r, rfl, ?_, t, rfl, ?_, q _ _ fun b o e => st.hh b o List.not_mem_nil e⟩⟩
  · rw [empty_app]
    exact Nat.le_trans (len_strR hr2) (by decide)
  · rw [strlen_app, empty_app]
    exact Nat.le_trans (Nat.add_le_add (len_strR hr2) ht) (by decide)
end W1
set_option maxRecDepth 100000
set_option maxHeartbeats 2000000
set_option exponentiation.threshold 20000
namespace W1
open PySem PySem.Spec PyProof.Rows L2 TL NumText
/-! ### own errors without field: C() as a value, and raised -/
section
variable {X : Cx} {p pos : Pos}
def tMk0 (C : Addr) (sp : Sp) : TE := fun σ H Q => ∀ a, H a = none → sp [.ref a] (upd H a (exo a C none)) (fun v H2 => v = .non ∧ Q (.ref a) H2) (fun _ _ _ => False)
theorem pe_mk0 {CX : CXT} {x : Str} {C fI : Addr} {k : Nat} {fd : FuncData} {ps : List Str} {sp : Sp} (T : OexC X.K C) (iC : PySem.W.findIn X.K (.ref C) "__init__" = some (some (.ref fI))) (tI : PySem.W.typeIn X.K (.ref fI) = some (.type "function"))
    (Fn : FnOk X.prog X.w X.K X.mg X.base CX k fI fd ps sp) (hr : Room (k + 1) X.A) (hb : Binds X.K fd ps []) (hx : Passes CX X (fun _ _ _ => False)) (hg : Gl X x) (hm : X.mg x = some (.ref C)) (hdb : (x == ("__debug__" : Str)) = false := by decide) : PE X (.Call (.Name x p) [] [] pos) (tMk0 C sp) := by
  obtain ⟨nm, q, N, bs, bm, sn, sub, ab, col, dd, k0, k1, k2, k3, k5, hC, hbm⟩ := T.cls
  refine ⟨fun pins s σ H Q I want => wpAny_Call_Name_kw (ld_glob I hg hm (PySem.W.callWith_K0 I.kIn T.kC ?_) hdb)⟩
  obtain ⟨hp, g, dr, tk, os⟩ := s
  have new : H (hp.objs.size + 1) = none := I.hok.fresh (Nat.le_succ _)
  have there : ((hp.push (PySem.W.kdv_tup [])).push (PySem.HandSPX.excO C hp.objs.size)).get? (hp.objs.size + 1) = some (PySem.HandSPX.excO C hp.objs.size) := by heap_get
  have J := I.laid (t' := tk) (a := hp.objs.size + 1) (o := exo (hp.objs.size + 1) C none) (fun b o e => Heap.get?_push_of_some _ (Heap.get?_push_of_some _ e)) (Nat.le_succ _) (exo_ok there)
  have start := want _ new
  have one : ([Value.ref (hp.objs.size + 1)] : List Value).length = ps.length := (Fn.len _ _ _ _ start).symm ▸ rfl
  refine wpAny_call (PySem.HandSPX.call_own F.excBase_ValueError (fun Y => PySem.HandSPX.refsVE_contains Y bm hbm) (I.kIn _ _ hC) (PySem.W.looks_findIn I.kIn iC) (fun self => PySem.W.bind_fn I.kIn self tI) (Nat.zero_le _)
    (codeAny_mono (Fn.run _ X.stack _ _ ⟨[Value.ref (hp.objs.size + 1)], []⟩ [Value.ref (hp.objs.size + 1)] _ _ (fun _ _ _ => False) (hr.make C [] []) (J.env0.make C [] []) (hb _ [Value.ref (hp.objs.size + 1)] J.kIn one) (.cons (show RelV (V.ref (hp.objs.size + 1)) (Value.ref (hp.objs.size + 1)) from rfl) .nil) start) fun r s' done => ?_))
  match r, done with
  | .error er, done => exact hx pins σ _ _ er s' J done
  | .ok (.ret u), done =>
    obtain ⟨v, H2, os2, bare2, un2, hok2, rv, ev, q2⟩ := done
    subst ev
    exact ⟨rv, V.ref (hp.objs.size + 1), H2, J.call' (ch := []) os2 un2 hok2 bare2 (fun b z => absurd z (by simp)), rfl, q2⟩
end
end W1
set_option maxRecDepth 100000
set_option maxHeartbeats 2000000
set_option exponentiation.threshold 20000
namespace W1
open PySem PySem.Spec PyProof.Rows L2 NdefX TL NumText
/-! ### raise C(), an own error without field -/
def spErr0 (C : Addr) : Sp := fun vs H Q _ => ∃ a, vs = [.ref a] ∧ H a = some (exo a C none) ∧ ∀ H', H' a = some (exo a C none) → (∀ b o, b ≠ a → H b = some o → H' b = some o) → Q .non H'
section
variable {P : Program} {w : World} {K : PySem.W.Frag} {mg : Str → Option Value} {base : Heap}
theorem ok_err0 {x qual : Str} {st : Stmt} {C f cc cd : Addr} {k : Nat} {p0 p1 p2 p3 p4 ps1 : Pos} {an1 : Option Expr} {tx : Str} {j : Nat} {pt : Pos} (T : SupC P K mg x qual st C f cc cd)
    (S : NScope ([("self" : Str), "__class__"] : List Str) ([("self" : Str)] : List Str) ["__class__"] (defScope st))
    (hst : defBody st = [.Expr (.Call (.Attribute (.Call (.Name "super" p0) [] [] p1) "__init__" p2) [.Constant (.str tx) j pt] [] p3) p4])
    (hp : ((defArgs st).posonlyargs ++ (defArgs st).args).head? = some ⟨"self", an1, ps1⟩) (hks : (defScope st).names.lookup ("super" : Str) = some .globalImplicit)
    (pl : ∀ env : Env, env.scope = defScope st → ∃ pl : Sem Bool, eval (.Call (.Attribute (.Call (.Name "super" p0) [] [] p1) "__init__" p2) [.Constant (.str tx) j pt] [] p3) env = (do
      let ov ← attributeBase (.Call (.Name "super" p0) [] [] p1) "__init__" env (eval (.Call (.Name "super" p0) [] [] p1) env)
      standAt p2.atName
      let (f, first) ← holding [ov] (getMethod ov "__init__" pl)
      callWith p3 f first (backTo p3 (starEach [.Constant (.str tx) j pt] env)) []))
    (hsw : ∀ env : Env, env.scope = defScope st → swapsWith (.Call (.Attribute (.Call (.Name "super" p0) [] [] p1) "__init__" p2) [.Constant (.str tx) j pt] [] p3) none p4.line env = pure false)
    (hse : ∀ env : Env, env.scope = defScope st → starEach [.Constant (.str tx) j pt] env = (false, eval (.Constant (.str tx) j pt) env) :: starEach [] env ∧ (backTo p3 (starEach [] env)).any (·.1) = false) :
    ∃ fd, (∃ doc pm ctv, fd = (supF qual st cc cd).fd doc pm ctv) ∧ FnOk P w K mg base (L2.CX P w) (k + 1) f fd ([("self" : Str)] : List Str) (spErr0 C) := by
  refine fn_sup (N := ([("self" : Str), "__class__"] : List Str)) (ps := ([("self" : Str)] : List Str)) T S hst hp rfl (show (("self" : Str) == ("__classdict__" : Str)) = false by decide +kernel) List.mem_cons_self hks (fun vs H Q E h => ?_) pl hsw hse (fun A outer s H vs Q E hr h => ?_)
  · obtain ⟨a, rfl, _⟩ := h
    rfl
  · obtain ⟨a, rfl, ea, hq⟩ := h
    exact ⟨a, _, _, rfl, ea, pa_cons pe_str pa_nil (hse _ rfl).1, pss_nil, by show 1 ≤ 1000; decide, ea, hq _ ea fun b o _ e => e⟩
end
section
variable (P : Program) (w : World) (K : PySem.W.Frag) (mg : Str → Option Value) (base : Heap)
def Ke0 (C : Addr) (x : Str) (k : Nat) : Prop := ∃ qual st f cc cd fd, SupC P K mg x qual st C f cc cd ∧ Binds K fd ([("self" : Str)] : List Str) [] ∧ FnOk P w K mg base (L2.CX P w) k f fd ([("self" : Str)] : List Str) (spErr0 C)
end
section
variable {F : Fx} {ρ : Ty} {ω : Ow} {K : Kn} {rest : List Stmt} {pos pos' p : Pos} {x : Str} {C : Addr} {k : Nat}
end
end W1
set_option maxRecDepth 100000
set_option maxHeartbeats 1000000
set_option exponentiation.threshold 20000
namespace W1
open PySem PySem.Spec PyProof.Rows L2 NdefX TL NumText
/-! ### dicts that anybody may hold, frozen or not; an error that holds a dict -/
theorem rd_up {H H' : Hp} {a : Addr} {u : HO} (e : Same H H') (h : Rd H a u) : Rd H' a u := h.elim (fun z => .inl (e _ _ z)) fun ⟨o, z⟩ => .inr ⟨o, e _ _ z⟩
section
variable {F : Fx} {ρ : Ty} {ω w w1 : Ow} {e : Expr} {fs : List (Key × Rl)}
end
/-- the promise of such an __init__: the one field holds a copy -/
def spErrD (C : Addr) (fld : Str) : Sp := fun vs H Q _ => ∃ a p kvs, vs = [.ref a, .ref p] ∧ H a = some (exo a C none) ∧ Rd H p (.dK kvs) ∧
  ∀ H' t d od, H t = none → t ≠ a → H d = none → d ≠ a → d ≠ t → H' a = some (exo a C (some d)) → H' d = some (exd d [(fld, .ref t)]) → H' t = some (.frz od (.dK kvs)) → (∀ b o, b ≠ a → H b = some o → H' b = some o) → Q .non H'
section
variable {P : Program} {w : World} {K : PySem.W.Frag} {mg : Str → Option Value} {base : Heap}
theorem ok_errD {x qual y fld : Str} {st : Stmt} {C f cc cd : Addr} {k : Nat} {p0 p1 p2 p3 p4 p5 p6 p7 p8 p9 pa ps1 : Pos} {an1 : Option Expr} {tx : Str} {j : Nat} {pt : Pos} (T : SupC P K mg x qual st C f cc cd)
    (S : NScope ([("self" : Str), y, "__class__"] : List Str) ([("self" : Str), y] : List Str) ["__class__"] (defScope st))
    (hst : defBody st = [.Expr (.Call (.Attribute (.Call (.Name "super" p0) [] [] p1) "__init__" p2) [.Constant (.str tx) j pt] [] p3) p4, .Assign [.Attribute (.Name "self" p5) fld p6] (.Call (.Name "dict" p9) [.Name y p7] [] pa) p8])
    (hp : ((defArgs st).posonlyargs ++ (defArgs st).args).head? = some ⟨"self", an1, ps1⟩) (hks : (defScope st).names.lookup ("super" : Str) = some .globalImplicit) (hkd : (defScope st).names.lookup ("dict" : Str) = some .globalImplicit) (hno : PySem.W.findIn K (.ref C) fld = some none) (hmd : mg "dict" = none)
    (hd1 : (y == ("__debug__" : Str)) = false) (hd2 : (y == ("__classdict__" : Str)) = false)
    (pl : ∀ env : Env, env.scope = defScope st → ∃ pl : Sem Bool, eval (.Call (.Attribute (.Call (.Name "super" p0) [] [] p1) "__init__" p2) [.Constant (.str tx) j pt] [] p3) env = (do
      let ov ← attributeBase (.Call (.Name "super" p0) [] [] p1) "__init__" env (eval (.Call (.Name "super" p0) [] [] p1) env)
      standAt p2.atName
      let (f, first) ← holding [ov] (getMethod ov "__init__" pl)
      callWith p3 f first (backTo p3 (starEach [.Constant (.str tx) j pt] env)) []))
    (hsw : ∀ env : Env, env.scope = defScope st → swapsWith (.Call (.Attribute (.Call (.Name "super" p0) [] [] p1) "__init__" p2) [.Constant (.str tx) j pt] [] p3) none p4.line env = pure false)
    (hsw2 : ∀ env : Env, swapsWith (.Call (.Name "dict" p9) [.Name y p7] [] pa) (some (.Attribute (.Name "self" p5) fld p6)) p8.line env = pure false)
    (hse : ∀ env : Env, env.scope = defScope st → starEach [.Constant (.str tx) j pt] env = (false, eval (.Constant (.str tx) j pt) env) :: starEach [] env ∧ (backTo p3 (starEach [] env)).any (·.1) = false)
    (hsy : ∀ env : Env, env.scope = defScope st → starEach [.Name y p7] env = (false, eval (.Name y p7) env) :: starEach [] env ∧ (backTo pa (starEach [] env)).any (·.1) = false) :
    ∃ fd, (∃ doc pm ctv, fd = (supF qual st cc cd).fd doc pm ctv) ∧ FnOk P w K mg base (L2.CX P w) (k + 1) f fd ([("self" : Str), y] : List Str) (spErrD C fld) := by
  refine fn_sup (N := ([("self" : Str), y, "__class__"] : List Str)) (ps := ([("self" : Str), y] : List Str)) T S hst hp rfl (show (("self" : Str) == ("__classdict__" : Str)) = false by decide +kernel) List.mem_cons_self hks (fun vs H Q E h => ?_) pl hsw hse (fun A outer s H vs Q E hr h => ?_)
  · obtain ⟨a, p, kvs, rfl, _⟩ := h
    rfl
  · obtain ⟨a, p, kvs, rfl, ea, hrd, hq⟩ := h
    refine ⟨a, _, _, rfl, ea, pa_cons pe_str pa_nil (hse _ rfl).1, pss_one (ps_ost (pe_var (i := 0) rfl (Or.inl (S.par _ List.mem_cons_self))) pe_w (hsw2 _)), ?_⟩
    refine ⟨by show 1 ≤ 1000; decide, ea, ?_⟩
    refine ew_lock ?_
    refine ew_of (pe_callTy call_dictD ?_ hmd PyProof.Rows.boot_dict (pa_cons (pe_var (i := 1) ?_ (Or.inl (S.par _ (List.mem_cons_of_mem _ List.mem_cons_self))) hd1 hd2) pa_nil (hsy _ rfl).1) (by decide) (by decide) (hsy _ rfl).1 (hsy _ rfl).2) ?_
    · exact hkd
    · rfl
    refine ⟨.ref p, rfl, p, kvs, rfl, hrd, fun t ht => ⟨t, _, rfl, upd_same, trivial, fun od => ⟨.ref a, rfl, a, C, rfl, T.ox, hno, .inl ⟨by rw [upd_ne (ne_of_none ea ht), upd_ne (ne_of_none ea ht)]; exact ea, fun d hd hne => ?_⟩⟩⟩⟩
    have hta : t ≠ a := fun e => by rw [e, ea] at ht; cases ht
    have hdt : d ≠ t := fun e => by rw [e, upd_same] at hd; cases hd
    have hd0 : H d = none := by rw [upd_ne hdt, upd_ne hdt] at hd; exact hd
    refine hq _ t d od ht hta hd0 hne hdt upd_same (by rw [upd_ne hne, upd_same]) (by rw [upd_ne hta, upd_ne hdt.symm, upd_same]) fun b o hb e => ?_
    rw [upd_ne hb, upd_ne (ne_of_none e hd0), upd_ne (ne_of_none e ht), upd_ne (ne_of_none e ht)]
    exact e
end
section
variable {F : Fx} {ρ : Ty} {ω w1 : Ow} {K : Kn} {rest : List Stmt} {e : Expr} {A : Rl} {pos pos' p : Pos} {x y qual fld : Str} {st : Stmt} {C f cc cd : Addr} {fd : FuncData} {k : Nat} {fs : List (Key × Rl)}
end
section
variable (P : Program) (w : World) (K : PySem.W.Frag) (mg : Str → Option Value) (base : Heap)
/-- an error class whose one field is a copy of a dict -/
def KeD (C : Addr) (x fld : Str) (k : Nat) : Prop := ∃ y qual st f cc cd fd, SupC P K mg x qual st C f cc cd ∧ Binds K fd ([("self" : Str), y] : List Str) [] ∧ FnOk P w K mg base (L2.CX P w) k f fd ([("self" : Str), y] : List Str) (spErrD C fld)
end
section
variable {F : Fx} {ρ : Ty} {ω w1 : Ow} {K : Kn} {rest : List Stmt} {e : Expr} {A : Rl} {pos pos' p : Pos} {x fld : Str} {C : Addr} {k : Nat} {fs : List (Key × Rl)}
end
theorem kED_NoPlan {P : Program} {w : World} {K : PySem.W.Frag} {mg : Str → Option Value} {base : Heap} {C f cc cd : Addr} (T : SupC P K mg "NoPlan" "NoPlan.__init__" s_NoPlan___init__ C f cc cd) (hno : PySem.W.findIn K (.ref C) "prices" = some none) (hmd : mg "dict" = none) : KeD P w K mg base C "NoPlan" "prices" 1 := by
  obtain ⟨fd, ⟨doc, pm, ctv, rfl⟩, h⟩ := ok_errD (w := w) (base := base) (k := 0) T c_NoPlan___init__ rfl rfl rfl rfl hno hmd (by decide) (by decide) (fun env he => ⟨_, rfl⟩) (fun env he => rfl) (fun env => rfl) (fun env he => ⟨rfl, rfl⟩) (fun env he => ⟨rfl, rfl⟩)
  exact ⟨"prices", _, _, f, cc, cd, _, T, .all fun us hl => match us, hl with | [_, _], _ => rfl, h⟩
end W1
set_option maxRecDepth 100000
set_option maxHeartbeats 2000000
set_option exponentiation.threshold 20000
namespace W1
open PySem PySem.Spec PyProof.Rows L2 TL NumText
/-! ### own errors as values: C(e), its field, isinstance of it -/
section
variable {X : Cx} {e : Expr} {es : List Expr} {te : TE} {ta : TA} {p pos : Pos}
def tMk1 (C : Addr) (sp : Sp) (ta : TA) : TE := fun σ H Q => ta σ H fun vs H1 => vs.length ≤ 1000 ∧ ∀ a, H1 a = none → sp (.ref a :: vs) (upd H1 a (exo a C none)) (fun v H2 => v = .non ∧ Q (.ref a) H2) (fun _ _ _ => False)
theorem pe_mk1 {CX : CXT} {x : Str} {C fI : Addr} {k : Nat} {fd : FuncData} {ps : List Str} {sp : Sp} (T : OexC X.K C) (iC : PySem.W.findIn X.K (.ref C) "__init__" = some (some (.ref fI))) (tI : PySem.W.typeIn X.K (.ref fI) = some (.type "function"))
    (Fn : FnOk X.prog X.w X.K X.mg X.base CX k fI fd ps sp) (hr : Room (k + 1) X.A) (hb : Binds X.K fd ps []) (hx : Passes CX X (fun _ _ _ => False)) (hg : Gl X x) (hm : X.mg x = some (.ref C)) (ha : PA X (e :: es) ta) (hdb : (x == ("__debug__" : Str)) = false := by decide)
    (he : starEach (e :: es) X.env = (false, eval e X.env) :: starEach es X.env := by rfl) (hpl : (backTo pos (starEach es X.env)).any (·.1) = false := by rfl) : PE X (.Call (.Name x p) (e :: es) [] pos) (tMk1 C sp ta) := by
  obtain ⟨nm, q, N, bs, bm, sn, sub, ab, col, dd, k0, k1, k2, k3, k5, hC, hbm⟩ := T.cls
  refine ⟨fun pins s σ H Q I want => wpAny_Call_Name_kw (ld_glob I hg hm (PySem.W.callWith_K (h₀ := X.base) I.ok.mod.kin T.kC (thn (ha.run pos pins s σ H _ I want) fun us sa got => ⟨?_, ?_⟩) he hpl) hdb)⟩
  · obtain ⟨_, _, Ia, _⟩ := got
    exact Ia.kIn
  obtain ⟨vs, Ha, Ia, ra, hz, start⟩ := got
  obtain ⟨hp, g, dr, tk, os⟩ := sa
  have new : Ha (hp.objs.size + 1) = none := Ia.hok.fresh (Nat.le_succ _)
  have there : ((hp.push (PySem.W.kdv_tup us)).push (PySem.HandSPX.excO C hp.objs.size)).get? (hp.objs.size + 1) = some (PySem.HandSPX.excO C hp.objs.size) := by heap_get
  have J := Ia.laid (t' := tk) (a := hp.objs.size + 1) (o := exo (hp.objs.size + 1) C none) (fun b o e => Heap.get?_push_of_some _ (Heap.get?_push_of_some _ e)) (Nat.le_succ _) (exo_ok there)
  have start := start _ new
  have rel : Vals (V.ref (hp.objs.size + 1) :: vs) (Value.ref (hp.objs.size + 1) :: us) := .cons rfl ra
  have many : (Value.ref (hp.objs.size + 1) :: us).length = ps.length := rel.length.symm.trans (Fn.len _ _ _ _ start)
  have small : us.length ≤ sizeLine := Nat.le_trans (show us.length ≤ 1000 by rw [← Paired.length ra]; exact hz) (by rw [sizeLine_eq]; decide)
  have bound := hb _ (Value.ref (hp.objs.size + 1) :: us) J.kIn (by rw [List.append_nil]; exact many)
  rw [List.append_nil] at bound
  refine wpAny_call (PySem.HandSPX.call_own F.excBase_ValueError (fun Y => PySem.HandSPX.refsVE_contains Y bm hbm) (Ia.kIn _ _ hC) (PySem.W.looks_findIn Ia.kIn iC) (fun self => PySem.W.bind_fn Ia.kIn self tI) small
    (codeAny_mono (Fn.run _ X.stack _ _ ⟨Value.ref (hp.objs.size + 1) :: us, []⟩ _ _ _ (fun _ _ _ => False) (hr.make C us []) (J.env0.make C us []) bound rel start) fun r s' done => ?_))
  match r, done with
  | .error er, done => exact hx pins σ _ _ er s' J done
  | .ok (.ret u), done =>
    obtain ⟨v, H2, os2, bare2, un2, hok2, rv, ev, q2⟩ := done
    subst ev
    exact ⟨rv, V.ref (hp.objs.size + 1), H2, J.call' (ch := []) os2 un2 hok2 bare2 (fun b z => absurd z (by simp)), rfl, q2⟩
/-- e.f, e an own error that is tracked -/
def tOxf (K : PySem.W.Frag) (n : Str) (te : TE) : TE := fun σ H Q => te σ H fun x H1 => ∃ (a C d : Addr) (fs : List (Str × V)) (v : V), x = .ref a ∧ XfC K C ∧ PySem.W.findIn K (.ref C) n = some none ∧ H1 a = some (exo a C (some d)) ∧ H1 d = some (exd d fs) ∧ fs.lookup n = some v ∧ Q v H1
theorem pe_oxf {n : Str} (he : PE X e te) (hb : attributeBase e n X.env (eval e X.env) = eval e X.env := by rfl) : PE X (.Attribute e n pos) (tOxf X.K n te) := ⟨fun pins s σ H Q I h => attr_of hb (thn (he.run pins s σ H _ I h) fun u sa hh => by
  obtain ⟨x, Ha, Ia, rx, a, C, d, fs, v, ex, T, hno, ea, ed, l, q⟩ := hh
  subst ex
  cases (show u = Value.ref a from rx)
  obtain ⟨t1, oa⟩ := exo_at Ia.hok ea
  obtain ⟨mA, ns, rel⟩ := exd_at Ia.hok ed
  obtain ⟨od, ho, look⟩ := lookIn_ns ns
  obtain ⟨y, hy, ry⟩ := RelO.some_of (v := v) (o := mA n) (l ▸ rel n)
  have J : PySem.W.InstAt sa.heap a _ C (some od) := ⟨oa, rfl, rfl, ho⟩
  exact HandSPX.exc_get Ia.kIn J T.ga T.gg T.exC (PySem.W.findObj_own T.hdC hno rfl (by rw [look, hy])) (handed_of ry) ⟨v, Ha, Ia.tok _, ry, q⟩)⟩
/-- isinstance(e, c), e an own error that is tracked -/
def rIsX (K : PySem.W.Frag) : List V → Hp → VK → Prop := fun xs H Q => ∃ (a C : Addr) (d : Option Addr) (c : V) (u : Value) (b : Bool), xs = [.ref a, c] ∧ ClsV c u ∧ ExcC K C ∧ H a = some (exo a C d) ∧ (∀ dx, d = some dx → ∃ fs, H dx = some (exd dx fs)) ∧ PySem.W.kitOne K (.ref C) u = some b ∧ Q (.bl b) H
theorem call_isX : CallR X (.builtin "isinstance") (rIsX X.K) := by
  rintro pins s σ H xs us Q I r ⟨a, C, d, c, u, b, rfl, hc, T, ea, ed, hk, q⟩
  obtain ⟨ua, uc, rfl, ra, rc⟩ := vals2 r
  cases (show ua = Value.ref a from ra)
  have := hc.eq rc
  subst this
  obtain ⟨t1, oa⟩ := exo_at I.hok ea
  have J : ∃ od, PySem.W.InstAt s.heap a { cls := .ref C, dict := d, data := .fields #[.ref t1, .none, .none, .none, .bool false, .none] } C od := by
    cases d with
    | none => exact ⟨none, oa, rfl, rfl, trivial⟩
    | some dx =>
      obtain ⟨fs, hd⟩ := ed dx rfl
      obtain ⟨mA, ns, rel⟩ := exd_at I.hok hd
      obtain ⟨od, ho, look⟩ := lookIn_ns ns
      exact ⟨some od, oa, rfl, rfl, ho⟩
  obtain ⟨od, J⟩ := J
  obtain ⟨cd, hcd, _⟩ := PySem.W.any_some T.hd
  exact PySem.W.kia_one (PySem.W.kitx_exc (Option.isSome_iff_exists.mpr ⟨cd, hcd⟩) T.hg T.hk T.hs T.ha T.hn T.ht T.hm) I.kIn J hk (fun z => nomatch z) fun tk => ⟨.bl b, H, I.tok tk, rfl, q⟩
end
/-- an own error with one field; without -/
def rErr (C : Addr) (fld : Str) (R : Rl) : Rl := ⟨fun v G => ∃ a d x, v = .ref a ∧ G a = some (exo a C (some d)) ∧ G d = some (exd d [(fld, x)]) ∧ R.r x G, fun _ _ _ s ⟨a, d, x, h0, h1, h2, h3⟩ => ⟨a, d, x, h0, s _ _ h1, s _ _ h2, R.mo _ _ _ s h3⟩⟩
def rEr0 (C : Addr) : Rl := ⟨fun v G => ∃ a, v = .ref a ∧ G a = some (exo a C none), fun _ _ _ s ⟨a, h0, h1⟩ => ⟨a, h0, s _ _ h1⟩⟩
section
variable {F : Fx} {ρ : Ty} {ω w w1 : Ow} {e : Expr} {R Pr A : Rl} {pos p : Pos} {x fld : Str} {C : Addr} {k : Nat} {u : Value} {b : Bool}
theorem er_mkE (T : Ke F.X.prog F.X.w F.X.K F.X.mg F.X.base C x fld k Pr) (hr : Room (k + 1) F.X.A) (ha : AR F ρ ω [e] [R] w1) (hPr : ∀ v G, R.r v G → Pr.r v G) (hg : Gl F.X x := by rfl) (hdb : (x == ("__debug__" : Str)) = false := by decide)
    (he : starEach [e] F.X.env = (false, eval e F.X.env) :: starEach [] F.X.env := by rfl) (hpl : (backTo pos (starEach [] F.X.env)).any (·.1) = false := by rfl) : ER F ρ ω (.Call (.Name x p) [e] [] pos) (rErr C fld R) w1 := fun σ G H at_ sl Q q => by
  obtain ⟨y, qual, st, f, cc, cd, fd, T, hb, Fn⟩ := T
  refine ew_of (pe_mk1 T.ox T.iC T.tI Fn hr hb passL hg T.gC pa_w hdb he hpl) (ha σ G H at_ sl _ fun vs Ga Ha sa ata ra => ?_)
  obtain ⟨v, rfl, rv⟩ := all1 ra
  refine ⟨by show 1 ≤ 1000; decide, fun a hna => ?_⟩
  have ga : Ga a = none := ata.gh.free hna
  have up : Same Ga (upd Ha a (exo a C none)) := fun b o z => by rw [upd_ne (ne_of_none z ga)]; exact ata.gh _ _ z
  refine ⟨a, v, rfl, upd_same, Pr.mo _ _ _ up (hPr _ _ rv), fun H' d hd hne e1 e2 keep => ⟨rfl, ?_⟩⟩
  rw [upd_ne hne] at hd
  have gd : Ga d = none := ata.gh.free hd
  have kp : ∀ b o, Ha b = some o → H' b = some o := fun b o z => keep b o (ne_of_none z hna) (by rw [upd_ne (ne_of_none z hna)]; exact z)
  have st : Step Ga Ha (upd (upd Ga a (exo a C (some d))) d (exd d [(fld, v)])) H' := by
    refine ⟨fun b o z => by rw [upd_ne (ne_of_none z gd), upd_ne (ne_of_none z ga)]; exact z, kp, fun b o z => ?_, fun b z1 z2 => ?_⟩
    · by_cases hbd : b = d
      · subst hbd
        rw [upd_same] at z
        rw [← z]; exact e2
      · rw [upd_ne hbd] at z
        by_cases hba : b = a
        · subst hba
          rw [upd_same] at z
          rw [← z]; exact e1
        · rw [upd_ne hba] at z
          exact kp b o (ata.gh _ _ z)
    · rw [upd_ne (fun z => z1 (by rw [z]; exact hd)), upd_ne (fun z => z1 (by rw [z]; exact hna))]
      exact z2
  exact q (.ref a) _ _ (sa.trans st.gg) (ata.step st) ⟨a, d, v, rfl, by rw [upd_ne (Ne.symm hne), upd_same], upd_same, R.mo _ _ _ st.gg rv⟩
theorem er_mk0 (T : Ke0 F.X.prog F.X.w F.X.K F.X.mg F.X.base C x k) (hr : Room (k + 1) F.X.A) (hg : Gl F.X x := by rfl) (hdb : (x == ("__debug__" : Str)) = false := by decide) : ER F ρ ω (.Call (.Name x p) [] [] pos) (rEr0 C) ω := fun σ G H at_ sl Q q => by
  obtain ⟨qual, st, f, cc, cd, fd, T, hb, Fn⟩ := T
  refine ew_of (pe_mk0 T.ox T.iC T.tI Fn hr hb passL hg T.gC hdb) fun a hna => ?_
  have ga : G a = none := at_.gh.free hna
  refine ⟨a, rfl, upd_same, fun H' ea keep => ⟨rfl, ?_⟩⟩
  have kp : ∀ b o, H b = some o → H' b = some o := fun b o z => keep b o (ne_of_none z hna) (by rw [upd_ne (ne_of_none z hna)]; exact z)
  have st : Step G H (upd G a (exo a C none)) H' := by
    refine ⟨fun b o z => by rw [upd_ne (ne_of_none z ga)]; exact z, kp, fun b o z => ?_, fun b z1 z2 => ?_⟩
    · by_cases hba : b = a
      · subst hba
        rw [upd_same] at z
        rw [← z]; exact ea
      · rw [upd_ne hba] at z
        exact kp b o (at_.gh _ _ z)
    · rw [upd_ne (fun z => z1 (by rw [z]; exact hna))]
      exact z2
  exact q (.ref a) _ _ st.gg (at_.step st) ⟨a, rfl, upd_same⟩
theorem er_fE (he : ER F ρ ω e (rErr C fld R) w1) (T : XfC F.X.K C) (hno : PySem.W.findIn F.X.K (.ref C) fld = some none) (hb : attributeBase e fld F.X.env (eval e F.X.env) = eval e F.X.env := by rfl) : ER F ρ ω (.Attribute e fld pos) R w1 := fun σ G H at_ sl Q q =>
  ew_of (pe_oxf pe_w hb) (he σ G H at_ sl _ fun v G2 H2 s a ⟨y, d, z, h0, h1, h2, h3⟩ => ⟨y, C, d, _, z, h0, T, hno, a.gh _ _ h1, a.gh _ _ h2, List.lookup_cons_self, q z G2 H2 s a h3⟩)
theorem cop_isX (T : ExcC F.X.K C) (hA : ∀ v G, A.r v G → (rErr C fld R).r v G ∨ (rEr0 C).r v G) {c : V} (hc : ClsV c u) (hk : PySem.W.kitOne F.X.K (.ref C) u = some b) : Cop F w (.builtin "isinstance") [A, rEqV c] (rBool b) := ⟨_, call_isX, fun xs G H at_ hx Q q => by
  obtain ⟨v, y, rfl, hv, hy⟩ := all2 hx
  cases (show y = c from hy)
  rcases hA _ _ hv with ⟨a, d, z, rfl, h1, h2, h3⟩ | ⟨a, rfl, h1⟩
  · exact ⟨a, C, some d, _, u, b, rfl, hc, T, at_.gh _ _ h1, fun dx e => by cases e; exact ⟨_, at_.gh _ _ h2⟩, hk, q _ G H (Same.refl _) at_ rfl⟩
  · exact ⟨a, C, none, _, u, b, rfl, hc, T, at_.gh _ _ h1, (fun dx e => by cases e), hk, q _ G H (Same.refl _) at_ rfl⟩⟩
end
end W1
set_option maxRecDepth 100000
set_option maxHeartbeats 2000000
set_option exponentiation.threshold 20000
namespace W1
open PySem PySem.Spec PyProof.Rows L2 NdefX TL NumText
/-! ### the law's draws -/
abbrev Pool := Int × Int × Bool
def oPool (s : Pool) : Ol := oL [rInt s.1, rInt s.2.1, rBool s.2.2]
def drR (s : Pool) (L : Int) : Int := if s.2.2 then s.1.fmod L else (((((s.1 * 7919 + (s.2.1 + 1) * 104729 + 13).fmod 2147483647) ^ 5).fmod 2147483647).fdiv 17).fmod L
def drS (s : Pool) (L : Int) : Pool := (if s.2.2 then s.1.fdiv L else s.1, s.2.1 + 1, s.2.2)
theorem drR_lt {s : Pool} {L : Int} (h : 0 < L) : 0 ≤ drR s L ∧ drR s L < L := by
  unfold drR
  split <;> exact ⟨Int.fmod_nonneg_of_pos _ h, Int.fmod_lt_of_pos _ h⟩
def pBag : PreN := fun Rs w O w' => ∃ c : Int, Rs = [rInt c] ∧ w = [] ∧ w' = [] ∧ O = oPool (c, 0, decide (10 ^ 18 ≤ c))
def pDraw : Pre := fun Rs w o w' => ∃ (q : Addr) (s : Pool) (L : Int), 0 < L ∧ L.natAbs < 2 ^ 9000 ∧ Rs = [rRef q, rInt L] ∧ w = [(q, oPool s)] ∧ w' = [(q, oPool (drS s L))] ∧ o = .ok (rInt (drR s L))
theorem drawOk {q : Addr} {s : Pool} {L : Int} (h : 0 < L) (h2 : L.natAbs < 2 ^ 64) : pDraw [rRef q, rInt L] [(q, oPool s)] (.ok (rInt (drR s L))) [(q, oPool (drS s L))] := ⟨q, s, L, h, lt9000 h2 (by decide), rfl, rfl, rfl, rfl⟩
def atS (ns : List Int) (k : Nat) : Int := ns.getD k 0
def pAt (K : PySem.W.Frag) : Pre := pOk (α := List Int × Nat) (fun _ => True) (fun a => [rScr K (a.1.map V.int), rInt a.2]) (fun a => rInt (atS a.1 a.2))
theorem ixN_at {n : Nat} {k : Nat} (h : k < n) : ixN n (k : Int) = some k := by
  unfold ixN
  rw [if_pos (Int.natCast_nonneg k), if_pos (by omega)]
  simp
theorem iop_pickM {α : Type} {F : Fx} {w : Ow} {xs : List α} {A : α → Rl} {i : Int} (d : α) (h0 : 0 ≤ i) (h1 : i < xs.length) : Iop F w (rLst (xs.map A)) (rInt i) (A (xs.getD i.toNat d)) := by
  have e : i = (i.toNat : Int) := by omega
  have hl : i.toNat < xs.length := by omega
  have ix := ixN_at (n := (xs.map A).length) (k := i.toNat) (by rw [List.length_map]; exact hl)
  rw [← e] at ix
  exact iop_L ix (by rw [List.getElem?_map, List.getD_eq_getElem?_getD, List.getElem?_eq_getElem hl]; rfl)
theorem mod_lt {m : Int} : (m.fmod 2147483647).natAbs < 2 ^ 64 := by
  have h1 := Int.fmod_nonneg_of_pos m (show (0 : Int) < 2147483647 by decide)
  have h2 := Int.fmod_lt_of_pos m (show (0 : Int) < 2147483647 by decide)
  have : (2 : Nat) ^ 64 = 18446744073709551616 := by decide
  omega
section
variable {F : Fx} {ρ : Ty} {ω w1 : Ow} {K : Kn} {rest body : List Stmt} {tg it : Expr} {pos : Pos} {α β : Type}
end
section
variable {P : Program} {w : World} {K : PySem.W.Frag} {mg : Str → Option Value} {base : Heap} {C B f : Addr} {fd : FuncData}
theorem kf_bag (Fn : Fun K "_law_bag" "_law_bag" s__law_bag f fd) : FnOk P w K mg base (L2.CX P w) 1 f fd P__law_bag (spN pBag) := by
  refine fn_okN Fn c__law_bag (fun _ _ _ _ ⟨_, h, _⟩ => by rw [h]; rfl) ?_
  rintro cdv A outer s H E ⟨_, G0, H0, M, W, tk⟩ hr rfl Rs ω o ω' ⟨c, rfl, rfl, rfl, rfl⟩
  exact hb_retO (en_lst (ar_cons (er_var 0 rfl) (ar_cons er_int (ar_cons (er_cmp (er_var 0 rfl) (er_bin er_int er_int (bop_pow ⟨by decide, by decide, by decide⟩)) bop_ge) ar_nil))) (Nat.le_of_ble_eq_true rfl)) fun q hM => ⟨q, [], fun _ _ h => h, List.not_mem_nil, rfl⟩
theorem kf_at (Fn : Fun K "_law_at" "_law_at" s__law_at f fd) (len : mg "len" = none) : FnOk P w K mg base (L2.CX P w) 1 f fd P__law_at (spM (pAt K)) := by
  refine fn_ok Fn c__law_at (fun _ _ _ _ ⟨_, _, h, _⟩ => by rw [h]; rfl) ?_
  rintro cdv A outer s H E ⟨_, G0, H0, M, W, tk⟩ hr rfl Rs ω o ω' ⟨⟨ns, k⟩, -, rfl, rfl, rfl, rfl⟩
  refine hb_if (tr_cmp (er_var 1 rfl) (er_callB cop_lenS rfl len bt_len (ar_cons (er_var 0 rfl) ar_nil)) bop_lt) (fun hb => ?_) (fun hb => hb_nil ?_)
  · have h : k < ns.length := by
      have e : (k : Int) < ((ns.map V.int).length : Int) := of_decide_eq_true hb
      rw [List.length_map] at e
      omega
    refine hb_ret (er_ix (er_var 0 rfl) (er_var 1 rfl) (iop_S (v := .int (atS ns k)) ?_)) ⟨_, [], rfl, fun _ _ h => h, rfl⟩
    unfold atI
    rw [List.length_map, ixN_at h]
    show (ns.map V.int)[k]? = _
    rw [List.getElem?_map, List.getElem?_eq_getElem h]
    unfold atS
    rw [List.getD_eq_getElem?_getD, List.getElem?_eq_getElem h]
    rfl
  · have h : ns.length ≤ k := by
      have e : ¬ (k : Int) < ((ns.map V.int).length : Int) := of_decide_eq_false hb
      rw [List.length_map] at e
      omega
    refine hb_ret er_int ⟨_, [], rfl, fun v G z => ?_, rfl⟩
    show v = V.int (atS ns k)
    unfold atS
    rw [List.getD_eq_getElem?_getD, List.getElem?_eq_none h]
    exact z
theorem kf_draw (Fn : Fun K "_law_draw" "_law_draw" s__law_draw f fd) (int : mg "int" = none) : FnOk P w K mg base (L2.CX P w) 1 f fd P__law_draw (spM pDraw) := by
  refine fn_ok Fn c__law_draw (fun _ _ _ _ ⟨_, _, _, _, _, h, _⟩ => by rw [h]; rfl) ?_
  rintro cdv A outer s H E ⟨_, G0, H0, M, W, tk⟩ hr rfl Rs ω o ω' ⟨q, ⟨c, n, g⟩, L, h0, hz, rfl, rfl, rfl, rfl⟩
  refine hb_sub (w3 := []) (er_bin (er_ixO (er_var 0 rfl) er_int List.mem_cons_self rfl rfl) er_int bop_add) (er_var 0 rfl) er_int rfl ?_
  refine hb_if (tr_val (er_ixO (er_var 0 rfl) er_int List.mem_cons_self rfl rfl)) (fun hg => ?_) (fun hg => hb_nil ?_)
  · have hg' : g = true := hg
    subst hg'
    refine hb_set 2 (er_bin (er_callTy cop_int rfl int bt_int (ar_cons (er_ixO (er_var 0 rfl) er_int List.mem_cons_self rfl rfl) ar_nil)) (er_var 1 rfl) (bop_mod (by omega))) ?_ c__law_draw.nd
    refine hb_sub (w3 := []) (er_bin (er_callTy cop_int rfl int bt_int (ar_cons (er_ixO (er_var 0 rfl) er_int List.mem_cons_self rfl rfl) ar_nil)) (er_var 1 rfl) (bop_fdiv (divok (n := 9000) (by omega) hz))) (er_var 0 rfl) er_int rfl ?_
    exact hb_ret (er_var 2 rfl) ⟨_, [], rfl, fun _ _ h => h, rfl⟩
  · have hg' : g = false := hg
    subst hg'
    refine hb_set 3 (er_bin (er_callTy cop_int rfl int bt_int (ar_cons (er_bin (er_bin (er_bin (er_ixO (er_var 0 rfl) er_int List.mem_cons_self rfl rfl) er_int (bop_mul (IntMulOk.of_right (by decide)))) (er_bin (er_ixO (er_var 0 rfl) er_int List.mem_cons_self rfl rfl) er_int (bop_mul (IntMulOk.of_right (by decide)))) bop_add) er_int bop_add) ar_nil)) er_int (bop_mod (by decide))) ?_ c__law_draw.nd
    exact hb_ret (er_bin (er_bin (er_callTy cop_int rfl int bt_int (ar_cons (er_bin (er_bin (er_var 3 rfl) er_int (bop_pow ⟨by decide, by decide, mod_lt⟩)) er_int (bop_mod (by decide))) ar_nil)) er_int (bop_fdiv ⟨by decide, by decide⟩)) (er_var 1 rfl) (bop_mod (by omega))) ⟨_, [], rfl, fun _ _ h => h, rfl⟩
end
end W1
set_option maxRecDepth 100000
set_option maxHeartbeats 2000000
set_option exponentiation.threshold 20000
namespace W1
open PySem PySem.Spec PyProof.Rows L2 NdefX TL NumText
section
variable {F : Fx} {ρ : Ty} {ω w w1 w2 w3 w4 : Ow} {a b c d : Expr} {R S : Rl} {pos : Pos} {k l : Key}
theorem own_nil {q : Addr} {G H : Hp} (at_ : At F ((q, oD []) :: w) G H) : H q = some (.dK []) := by
  obtain ⟨_, _, o, h, vs, rfl, n⟩ := at_.ow _ List.mem_cons_self
  cases vs with
  | nil => exact h
  | cons p r => exact n.elim
theorem en_disp2 (hk : ∀ z, ER F ρ (z :: ω) a (rEqV (kV k)) (z :: w1)) (hv : ∀ z, ER F ρ (z :: w1) b R (z :: w2)) (hl : ∀ z, ER F ρ (z :: w2) c (rEqV (kV l)) (z :: w3)) (hz : ∀ z, ER F ρ (z :: w3) d S (z :: w4)) : EN F ρ ω (.Dict [some a, some c] [b, d] pos) (oD (putKR (putKR [] k R) l S)) w4 := fun σ G H at_ sl Q q => by
  refine ew_of (pe_disp (pps_cons pe_w pe_w (pps_cons pe_w pe_w pps_nil)) rfl rfl (by simp) (by simp)) fun p hp => ?_
  refine hk _ σ G _ (at_.own (O := oD []) hp ⟨[], rfl, trivial⟩) sl _ fun x G1 H1 s1 a1 r1 => hv _ σ G1 H1 a1 (sl.up s1) _ fun y G2 H2 s2 a2 r2 => ?_
  refine hl _ σ G2 H2 a2 ((sl.up s1).up s2) _ fun x2 G3 H3 s3 a3 r3 => hz _ σ G3 H3 a3 (((sl.up s1).up s2).up s3) _ fun y2 G4 H4 s4 a4 r4 => ⟨own_nil a4, [(k, y), (l, y2)], ?_, by simp, ?_⟩
  · rw [show x = kV k from r1, show x2 = kV l from r3]; rfl
  · exact q p G4 _ (fun hm => at_.mm p hm hp) (((s1.trans s2).trans s3).trans s4) (a4.chg ⟨_, rfl, NR.putK (NR.putK (fs := []) (vs := []) trivial (R.mo _ _ _ (s3.trans s4) r2)) r4⟩)
end
theorem all_true : ∀ n i, W1Q.allFrom (fun _ => true) i n = true
  | 0, _ => rfl
  | n + 1, i => by
    unfold W1Q.allFrom
    rw [all_true n]
    rfl
theorem bop_neLV {F : Fx} {w : Ow} {xs : List V} (hx : ∀ x ∈ xs, flatV x = true) (hs : ∀ x ∈ xs, eqV x x = true) (hr : Room 1 F.X.A) : Bop F w (compareOp .NotEq) (rLst (xs.map rEqV)) (rLst (xs.map rEqV)) (rBool false) := by
  have h := bop_neL (F := F) (w := w) (Rs := xs.map rEqV) (Ss := xs.map rEqV) (e := fun _ => true) (n := 0) (fun i R S hR hS => by
    obtain ⟨x, h1, rfl⟩ := map_get hR
    obtain ⟨y, h2, rfl⟩ := map_get hS
    rw [h1] at h2
    cases h2
    have hm := List.mem_of_getElem? h1
    have := eqb_val (X := F.X) (hx x hm) (hx x hm)
    rw [hs x hm] at this
    exact this) hr
  rw [all_true, decide_eq_true rfl] at h
  exact h
theorem eqb_rat {F : Fx} {R : Addr} {p : Rat} (T : Ko F.X.prog F.X.w F.X.K F.X.mg F.X.base R "__eq__" 5 (pEq R)) (hn : PySem.W.notFirst F.X.K R (.ref R) = true) : EqB F.X 5 (rRat R p) (rRat R p) true := by
  have h := eqb_o (F := F) (t := decide (p = p)) T (pEqOk (p := p) (q := p)) (fun _ _ _ _ => decide_eq_true rfl) hn
  rw [decide_eq_true rfl] at h
  exact h
section
variable {F : Fx} {ρ : Ty} {ω w1 : Ow} {e : Expr} {A : Rl} {pos p : Pos} {x fld : Str} {C : Addr} {k : Nat} {fs : List (Key × Rl)}
/-- C(d), C an own error that holds a copy of a dict -/
theorem er_mkD (T : KeD F.X.prog F.X.w F.X.K F.X.mg F.X.base C x fld k) (hr : Room (k + 1) F.X.A) (ha : AR F ρ ω [e] [A] w1) (hd : IsDct F A w1 fs) (hg : Gl F.X x := by rfl) (hdb : (x == ("__debug__" : Str)) = false := by decide)
    (he : starEach [e] F.X.env = (false, eval e F.X.env) :: starEach [] F.X.env := by rfl) (hpl : (backTo pos (starEach [] F.X.env)).any (·.1) = false := by rfl) : ER F ρ ω (.Call (.Name x p) [e] [] pos) (rErr C fld (rDct fs)) w1 := fun σ G H at_ sl Q q => by
  obtain ⟨y, qual, st, f, cc, cd, fd, T, hb, Fn⟩ := T
  refine ew_of (pe_mk1 T.ox T.iC T.tI Fn hr hb passL hg T.gC pa_w hdb he hpl) (ha σ G H at_ sl _ fun vs Ga Ha sa ata ra => ?_)
  obtain ⟨v, rfl, rv⟩ := all1 ra
  obtain ⟨p, kvs, rfl, rd, nr⟩ := hd _ _ _ ata rv
  refine ⟨by show 1 ≤ 1000; decide, fun a hna => ?_⟩
  have ga : Ga a = none := ata.gh.free hna
  have upH : Same Ha (upd Ha a (exo a C none)) := fun b o z => by rw [upd_ne (ne_of_none z hna)]; exact z
  refine ⟨a, p, kvs, rfl, upd_same, rd_up upH rd, fun H' t d od ht hta hd hda hdt e1 e2 e3 keep => ⟨rfl, ?_⟩⟩
  rw [upd_ne hta] at ht
  rw [upd_ne hda] at hd
  have gt : Ga t = none := ata.gh.free ht
  have gd : Ga d = none := ata.gh.free hd
  have kp : ∀ b o, Ha b = some o → H' b = some o := fun b o z => keep b o (ne_of_none z hna) (upH b o z)
  have st : Step Ga Ha (upd (upd (upd Ga a (exo a C (some d))) d (exd d [(fld, .ref t)])) t (.frz od (.dK kvs))) H' := by
    refine ⟨fun b o z => by rw [upd_ne (ne_of_none z gt), upd_ne (ne_of_none z gd), upd_ne (ne_of_none z ga)]; exact z, kp, fun b o z => ?_, fun b z1 z2 => ?_⟩
    · by_cases hbt : b = t
      · subst hbt
        rw [upd_same] at z
        rw [← z]; exact e3
      · rw [upd_ne hbt] at z
        by_cases hbd : b = d
        · subst hbd
          rw [upd_same] at z
          rw [← z]; exact e2
        · rw [upd_ne hbd] at z
          by_cases hba : b = a
          · subst hba
            rw [upd_same] at z
            rw [← z]; exact e1
          · rw [upd_ne hba] at z
            exact kp b o (ata.gh _ _ z)
    · rw [upd_ne (fun z => z1 (by rw [z]; exact ht)), upd_ne (fun z => z1 (by rw [z]; exact hd)), upd_ne (fun z => z1 (by rw [z]; exact hna))]
      exact z2
  exact q (.ref a) _ _ (sa.trans st.gg) (ata.step st) ⟨a, d, .ref t, rfl, by rw [upd_ne (Ne.symm hta), upd_ne (Ne.symm hda), upd_same], by rw [upd_ne hdt, upd_same], t, od, kvs, rfl, upd_same, nr.up st.gg⟩
end
/-! ### the ten classes -/
structure Ten where
  M : Addr
  T : Addr
  N : Addr
  D : Addr
  U : Addr
  V : Addr
  B : Addr
  Q : Addr
  S : Addr
  Z : Addr
def Ten.c (t : Ten) : Nat → Addr
  | 0 => t.M
  | 1 => t.T
  | 2 => t.N
  | 3 => t.D
  | 4 => t.U
  | 5 => t.V
  | 6 => t.B
  | 7 => t.Q
  | 8 => t.S
  | _ => t.Z
def prF (R : Addr) (n : Int) (y : Str) : List (Key × Rl) := [(.inr "a", rRat R (Rat.divInt 1 2)), (.inr y, rRat R (Rat.divInt n 3))]
def eR (t : Ten) (R : Addr) (n : Int) (y : Str) : Nat → Rl
  | 0 => rErr t.M "n" (rInt n)
  | 1 => rErr t.T "at" (rInt n)
  | 2 => rErr t.N "name" (rStr y)
  | 3 => rErr t.D "name" (rStr y)
  | 4 => rErr t.U "name" (rStr y)
  | 5 => rErr t.V "at" (rInt n)
  | 6 => rErr t.B "at" (rInt n)
  | 7 => rErr t.Q "prices" (rDct (prF R n y))
  | 8 => rEr0 t.S
  | _ => rEr0 t.Z
theorem eR_is {t : Ten} {R : Addr} {n : Int} {y : Str} : ∀ i, i < 10 → ∃ fld R', ∀ v G, (eR t R n y i).r v G → (rErr (t.c i) fld R').r v G ∨ (rEr0 (t.c i)).r v G
  | 0, _ => ⟨_, _, fun _ _ h => .inl h⟩
  | 1, _ => ⟨_, _, fun _ _ h => .inl h⟩
  | 2, _ => ⟨_, _, fun _ _ h => .inl h⟩
  | 3, _ => ⟨_, _, fun _ _ h => .inl h⟩
  | 4, _ => ⟨_, _, fun _ _ h => .inl h⟩
  | 5, _ => ⟨_, _, fun _ _ h => .inl h⟩
  | 6, _ => ⟨_, _, fun _ _ h => .inl h⟩
  | 7, _ => ⟨_, _, fun _ _ h => .inl h⟩
  | 8, _ => ⟨"", rNon, fun _ _ h => .inr h⟩
  | 9, _ => ⟨"", rNon, fun _ _ h => .inr h⟩
  | i + 10, h => by omega
structure TenX (K : PySem.W.Frag) (mg : Str → Option Value) (t : Ten) (A : Addr) : Prop where
  ex : ∀ i, i < 10 → ExcC K (t.c i)
  kk : ∀ i j, i < 10 → j < 10 → PySem.W.kitOne K (.ref (t.c i)) (.ref (t.c j)) = some (decide (j = i))
  ka : ∀ i, i < 10 → PySem.W.kitOne K (.ref (t.c i)) (.ref A) = some true
  kv : ∀ i, i < 10 → PySem.W.kitOne K (.ref (t.c i)) (.type "ValueError") = some true
  gA : mg "MakeError" = some (.ref A)
  gM : mg "BadNumber" = some (.ref t.M)
  xM : XfC K t.M
  nM : PySem.W.findIn K (.ref t.M) "n" = some none
  gT : mg "BadText" = some (.ref t.T)
  xT : XfC K t.T
  nT : PySem.W.findIn K (.ref t.T) "at" = some none
  gN : mg "BadName" = some (.ref t.N)
  xN : XfC K t.N
  nN : PySem.W.findIn K (.ref t.N) "name" = some none
  gD : mg "DuplicateName" = some (.ref t.D)
  xD : XfC K t.D
  nD : PySem.W.findIn K (.ref t.D) "name" = some none
  gU : mg "UnknownName" = some (.ref t.U)
  xU : XfC K t.U
  nU : PySem.W.findIn K (.ref t.U) "name" = some none
  gV : mg "BadWay" = some (.ref t.V)
  xV : XfC K t.V
  nV : PySem.W.findIn K (.ref t.V) "at" = some none
  gB : mg "NotPlain" = some (.ref t.B)
  xB : XfC K t.B
  nB : PySem.W.findIn K (.ref t.B) "at" = some none
  gQ : mg "NoPlan" = some (.ref t.Q)
  xQ : XfC K t.Q
  nQ : PySem.W.findIn K (.ref t.Q) "prices" = some none
  gS : mg "NothingToShow" = some (.ref t.S)
  gZ : mg "NothingToUndo" = some (.ref t.Z)
structure TenE (P : Program) (w : World) (K : PySem.W.Frag) (mg : Str → Option Value) (base : Heap) (t : Ten) : Prop where
  tM : Ke P w K mg base t.M "BadNumber" "n" 1 prInt
  tT : Ke P w K mg base t.T "BadText" "at" 1 prInt
  tN : Ke P w K mg base t.N "BadName" "name" 1 prStr
  tD : Ke P w K mg base t.D "DuplicateName" "name" 1 prStr
  tU : Ke P w K mg base t.U "UnknownName" "name" 1 prStr
  tV : Ke P w K mg base t.V "BadWay" "at" 1 prInt
  tB : Ke P w K mg base t.B "NotPlain" "at" 1 prInt
  tQ : KeD P w K mg base t.Q "NoPlan" "prices" 1
  tS : Ke0 P w K mg base t.S "NothingToShow" 1
  tZ : Ke0 P w K mg base t.Z "NothingToUndo" 1
/-- of which of the ten the i-th is -/
def knV (i : Nat) : List V := (List.range 10).map fun j : Nat => V.bl (decide ((0 : Int) + (j : Int) = (i : Int)))
theorem knV_eq : ∀ i, i < 10 → rLst [rBool (decide (0 = i)), rBool (decide (1 = i)), rBool (decide (2 = i)), rBool (decide (3 = i)), rBool (decide (4 = i)), rBool (decide (5 = i)), rBool (decide (6 = i)), rBool (decide (7 = i)), rBool (decide (8 = i)), rBool (decide (9 = i))] = rLst ((knV i).map rEqV)
  | 0, _ => rfl
  | 1, _ => rfl
  | 2, _ => rfl
  | 3, _ => rfl
  | 4, _ => rfl
  | 5, _ => rfl
  | 6, _ => rfl
  | 7, _ => rfl
  | 8, _ => rfl
  | 9, _ => rfl
  | i + 10, h => by omega
structure ErG (n : Int) (y : Str) : Prop where
  n1 : n.natAbs ≤ 10 ^ 40
  y1 : y.length ≤ 1000
  y2 : y ≠ "a"
def pKinds (t : Ten) (R : Addr) : Pre := fun Rs w o w' => ∃ n y i, i < 10 ∧ Rs = [eR t R n y i] ∧ w = [] ∧ w' = [] ∧ o = .ok (rLst ((knV i).map rEqV))
def pNamed (t : Ten) (R : Addr) : Pre := fun Rs w o w' => ∃ n y, ∃ i : Nat, (i = 2 ∨ i = 3 ∨ i = 4) ∧ ErG n y ∧ Rs = [rInt ((i : Nat) : Int), rStr y] ∧ w = [] ∧ w' = [] ∧ o = .ok (rLst [eR t R n y i, rBool true])
def pPriced (t : Ten) (R : Addr) : Pre := fun Rs w o w' => ∃ n y, ErG n y ∧ Rs = [rStr y, rInt n] ∧ w = [] ∧ w' = [] ∧ o = .ok (rLst [eR t R n y 7, rBool true])
def pMade (t : Ten) (R : Addr) : Pre := fun Rs w o w' => ∃ n y, ∃ i : Nat, i < 10 ∧ ErG n y ∧ Rs = [rInt ((i : Nat) : Int), rInt n, rStr y] ∧ w = [] ∧ w' = [] ∧ o = .ok (rLst [eR t R n y i, rBool true])
section
variable {P : Program} {w : World} {K : PySem.W.Frag} {mg : Str → Option Value} {base : Heap} {f A R M : Addr} {fd : FuncData} {t : Ten}
theorem kf_kinds (Fn : Fun K "_law_kinds" "_law_kinds" s__law_kinds f fd) (Z : TenX K mg t A) (isi : mg "isinstance" = none) : FnOk P w K mg base (L2.CX P w) 1 f fd P__law_kinds (spM (pKinds t R)) := by
  refine fn_ok Fn c__law_kinds (fun _ _ _ _ ⟨_, _, _, _, h, _⟩ => by rw [h]; rfl) ?_
  rintro cdv A' outer s H E ⟨_, G0, H0, M', W', tk⟩ hr rfl Rs ω o ω' ⟨n, y, i, hi, rfl, rfl, rfl, rfl⟩
  have nd := c__law_kinds.nd
  obtain ⟨fld, R', hR⟩ := eR_is (t := t) (R := R) (n := n) (y := y) i hi
  have T := Z.ex i hi
  refine hb_setA (R := rLst [rBool (decide (0 = i)), rBool (decide (1 = i)), rBool (decide (2 = i)), rBool (decide (3 = i))]) 1 rfl (er_lst (Rs := [rBool (decide (0 = i)), rBool (decide (1 = i)), rBool (decide (2 = i)), rBool (decide (3 = i))]) (ar_cons (er_bA (ar_cons (er_v 0 rfl rfl) (ar_cons (er_gC Z.gM) ar_nil)) isi bt_isi (cop_isX T hR (.own _) (Z.kk i 0 hi (by decide)))) (ar_cons (er_bA (ar_cons (er_v 0 rfl rfl) (ar_cons (er_gC Z.gT) ar_nil)) isi bt_isi (cop_isX T hR (.own _) (Z.kk i 1 hi (by decide)))) (ar_cons (er_bA (ar_cons (er_v 0 rfl rfl) (ar_cons (er_gC Z.gN) ar_nil)) isi bt_isi (cop_isX T hR (.own _) (Z.kk i 2 hi (by decide)))) (ar_cons (er_bA (ar_cons (er_v 0 rfl rfl) (ar_cons (er_gC Z.gD) ar_nil)) isi bt_isi (cop_isX T hR (.own _) (Z.kk i 3 hi (by decide)))) ar_nil)))) (by show 4 ≤ 1000; decide)) ?_
  refine hb_setA (R := rLst [rBool (decide (0 = i)), rBool (decide (1 = i)), rBool (decide (2 = i)), rBool (decide (3 = i)), rBool (decide (4 = i)), rBool (decide (5 = i)), rBool (decide (6 = i))]) 1 rfl (er_bin (er_v 1 rfl rfl) (er_lst (Rs := [rBool (decide (4 = i)), rBool (decide (5 = i)), rBool (decide (6 = i))]) (ar_cons (er_bA (ar_cons (er_v 0 rfl rfl) (ar_cons (er_gC Z.gU) ar_nil)) isi bt_isi (cop_isX T hR (.own _) (Z.kk i 4 hi (by decide)))) (ar_cons (er_bA (ar_cons (er_v 0 rfl rfl) (ar_cons (er_gC Z.gV) ar_nil)) isi bt_isi (cop_isX T hR (.own _) (Z.kk i 5 hi (by decide)))) (ar_cons (er_bA (ar_cons (er_v 0 rfl rfl) (ar_cons (er_gC Z.gB) ar_nil)) isi bt_isi (cop_isX T hR (.own _) (Z.kk i 6 hi (by decide)))) ar_nil))) (by show 3 ≤ 1000; decide)) (bop_cat (by show 4 + 3 ≤ _; decide))) ?_
  exact hb_ret (er_eq (er_bin (er_v 1 rfl rfl) (er_lst (Rs := [rBool (decide (7 = i)), rBool (decide (8 = i)), rBool (decide (9 = i))]) (ar_cons (er_bA (ar_cons (er_v 0 rfl rfl) (ar_cons (er_gC Z.gQ) ar_nil)) isi bt_isi (cop_isX T hR (.own _) (Z.kk i 7 hi (by decide)))) (ar_cons (er_bA (ar_cons (er_v 0 rfl rfl) (ar_cons (er_gC Z.gS) ar_nil)) isi bt_isi (cop_isX T hR (.own _) (Z.kk i 8 hi (by decide)))) (ar_cons (er_bA (ar_cons (er_v 0 rfl rfl) (ar_cons (er_gC Z.gZ) ar_nil)) isi bt_isi (cop_isX T hR (.own _) (Z.kk i 9 hi (by decide)))) ar_nil))) (by show 3 ≤ 1000; decide)) (bop_cat (by show 7 + 3 ≤ _; decide))) (knV_eq i hi)) ⟨_, [], rfl, fun v G h => h, rfl⟩
theorem kf_named (Fn : Fun K "_law_named" "_law_named" s__law_named f fd) (Z : TenX K mg t A) (E : TenE P w K mg base t) : FnOk P w K mg base (L2.CX P w) 3 f fd P__law_named (spM (pNamed t R)) := by
  refine fn_ok Fn c__law_named (fun _ _ _ _ ⟨_, _, _, _, _, h, _⟩ => by rw [h]; rfl) ?_
  rintro cdv A' outer s H Ex ⟨_, G0, H0, M', W', tk⟩ hr rfl Rs ω o ω' ⟨n, y, i, hi, g, rfl, rfl, rfl, rfl⟩
  have nd := c__law_named.nd
  have hr1 := hr
  rcases hi with rfl | rfl | rfl
  · refine hb_if (b := true) (tr_cmp (er_v 0 rfl rfl) er_int bop_eqI) (fun _ => ?_) (fun z => Bool.noConfusion z)
    refine hb_setA (R := rErr t.N "name" (rStr y)) 2 rfl (er_mkE E.tN hr1 (ar_cons (er_v 1 rfl rfl) ar_nil) (fun v G h => ⟨y, h, Nat.le_trans g.y1 (by decide)⟩)) ?_
    exact hb_ret (er_lst (Rs := [rErr t.N "name" (rStr y), rBool true]) (ar_cons (er_v 2 rfl rfl) (ar_cons (er_eq (er_cmp (er_fE (er_v 2 rfl rfl) Z.xN Z.nN) (er_v 1 rfl rfl) bop_eqS) (congrArg rBool (decide_eq_true rfl))) ar_nil)) (by show 2 ≤ 1000; decide)) ⟨_, [], rfl, fun v G h => h, rfl⟩
  · refine hb_if (b := false) (tr_cmp (er_v 0 rfl rfl) er_int bop_eqI) (fun z => Bool.noConfusion z) (fun _ => hb_nil ?_)
    refine hb_if (b := true) (tr_cmp (er_v 0 rfl rfl) er_int bop_eqI) (fun _ => ?_) (fun z => Bool.noConfusion z)
    refine hb_setA (R := rErr t.D "name" (rStr y)) 2 rfl (er_mkE E.tD hr1 (ar_cons (er_v 1 rfl rfl) ar_nil) (fun v G h => ⟨y, h, Nat.le_trans g.y1 (by decide)⟩)) ?_
    exact hb_ret (er_lst (Rs := [rErr t.D "name" (rStr y), rBool true]) (ar_cons (er_v 2 rfl rfl) (ar_cons (er_eq (er_cmp (er_fE (er_v 2 rfl rfl) Z.xD Z.nD) (er_v 1 rfl rfl) bop_eqS) (congrArg rBool (decide_eq_true rfl))) ar_nil)) (by show 2 ≤ 1000; decide)) ⟨_, [], rfl, fun v G h => h, rfl⟩
  · refine hb_if (b := false) (tr_cmp (er_v 0 rfl rfl) er_int bop_eqI) (fun z => Bool.noConfusion z) (fun _ => hb_nil ?_)
    refine hb_if (b := false) (tr_cmp (er_v 0 rfl rfl) er_int bop_eqI) (fun z => Bool.noConfusion z) (fun _ => hb_nil ?_)
    refine hb_setA (R := rErr t.U "name" (rStr y)) 2 rfl (er_mkE E.tU hr1 (ar_cons (er_v 1 rfl rfl) ar_nil) (fun v G h => ⟨y, h, Nat.le_trans g.y1 (by decide)⟩)) ?_
    exact hb_ret (er_lst (Rs := [rErr t.U "name" (rStr y), rBool true]) (ar_cons (er_v 2 rfl rfl) (ar_cons (er_eq (er_cmp (er_fE (er_v 2 rfl rfl) Z.xU Z.nU) (er_v 1 rfl rfl) bop_eqS) (congrArg rBool (decide_eq_true rfl))) ar_nil)) (by show 2 ≤ 1000; decide)) ⟨_, [], rfl, fun v G h => h, rfl⟩
theorem prF_put {n : Int} {y : Str} (h : y ≠ "a") : putKR (putKR [] (.inr "a") (rRat R (Rat.divInt 1 2))) (.inr y) (rRat R (Rat.divInt n 3)) = prF R n y := by
  have : ("a" : Str) ≠ y := fun e => h e.symm
  unfold putKR
  simp [this]
  rfl
theorem prF_likes {F : Fx} {n : Int} {y : Str} (T : Ko F.X.prog F.X.w F.X.K F.X.mg F.X.base R "__eq__" 5 (pEq R)) (hn : PySem.W.notFirst F.X.K R (.ref R) = true) (h : y ≠ "a") : Likes F.X 5 (prF R n y) (prF R n y) := by
  have ne : ("a" : Str) ≠ y := fun e => h e.symm
  refine ⟨rfl, fun i k S hS => ?_⟩
  match i, hS with
  | 0, hS => cases hS; exact ⟨_, rfl, eqb_rat T hn⟩
  | 1, hS =>
    cases hS
    refine ⟨_, ?_, eqb_rat T hn⟩
    unfold prF valR
    simp [ne]
theorem kf_priced (Fn : Fun K "_law_priced" "_law_priced" s__law_priced f fd) (Z : TenX K mg t A) (E : TenE P w K mg base t) (Tq : Kc P w K mg base R "Ratio" 3 (pInit R M)) (Te : Ko P w K mg base R "__eq__" 5 (pEq R)) (hn : PySem.W.notFirst K R (.ref R) = true) : FnOk P w K mg base (L2.CX P w) 7 f fd P__law_priced (spM (pPriced t R)) := by
  refine fn_ok Fn c__law_priced (fun _ _ _ _ ⟨_, _, _, h, _⟩ => by rw [h]; rfl) ?_
  rintro cdv A' outer s H Ex ⟨_, G0, H0, M', W', tk⟩ hr rfl Rs ω o ω' ⟨n, y, g, rfl, rfl, rfl, rfl⟩
  have nd := c__law_priced.nd
  have hr3 := hr.mono (show 4 ≤ 6 by decide)
  refine hb_setNA 2 rfl (en_disp2 (k := .inr "a") (R := rRat R (Rat.divInt 1 2)) (l := .inr y) (S := rRat R (Rat.divInt n 3)) (fun _ => er_str) (fun _ => er_ratio Tq hr3 (ar_cons er_int (ar_cons er_int ar_nil)) rfl (by decide) (by decide)) (fun _ => er_v 0 rfl rfl) (fun _ => er_ratio Tq hr3 (ar_cons (er_v 1 rfl rfl) (ar_cons er_int ar_nil)) rfl (by decide) (by decide))) fun q hq => ?_
  rw [prF_put g.y2]
  refine hb_setA (R := rErr t.Q "prices" (rDct (prF R n y))) 3 rfl (er_mkD E.tQ (hr.mono (by decide)) (ar_cons (er_v 2 rfl rfl) ar_nil) (isd_own List.mem_cons_self)) ?_
  refine hb_dclear (er_v 2 rfl rfl) ?_
  exact hb_ret (er_lst (Rs := [rErr t.Q "prices" (rDct (prF R n y)), rBool true]) (ar_cons (er_v 3 rfl rfl) (ar_cons (er_cmp (er_fE (er_v 3 rfl rfl) Z.xQ Z.nQ) (er_eq (er_frz (en_disp2 (k := .inr "a") (R := rRat R (Rat.divInt 1 2)) (l := .inr y) (S := rRat R (Rat.divInt n 3)) (fun _ => er_str) (fun _ => er_ratio Tq hr3 (ar_cons er_int (ar_cons er_int ar_nil)) rfl (by decide) (by decide)) (fun _ => er_v 0 rfl rfl) (fun _ => er_ratio Tq hr3 (ar_cons (er_v 1 rfl rfl) (ar_cons er_int ar_nil)) rfl (by decide) (by decide)))) (congrArg rDct (prF_put g.y2))) (bop_eqDO (prF_likes Te hn g.y2) isf_frz isf_frz hr)) ar_nil)) (by show 2 ≤ 1000; decide)) ⟨_, [(q, oD [])], rfl, fun v G h => h, rfl⟩
theorem kf_made (Fn : Fun K "_law_made" "_law_made" s__law_made f fd) (Z : TenX K mg t A) (E : TenE P w K mg base t) (Tn : Kf1 P w K mg base "_law_named" 3 (pNamed t R)) (Tp : Kf1 P w K mg base "_law_priced" 7 (pPriced t R)) : FnOk P w K mg base (L2.CX P w) 8 f fd P__law_made (spM (pMade t R)) := by
  refine fn_ok Fn c__law_made (fun _ _ _ _ ⟨_, _, _, _, _, h, _⟩ => by rw [h]; rfl) ?_
  rintro cdv A' outer s H Ex ⟨_, G0, H0, M', W', tk⟩ hr rfl Rs ω o ω' ⟨n, y, i, hi, g, rfl, rfl, rfl, rfl⟩
  have nd := c__law_made.nd
  have hr1 := hr.mono (show 2 ≤ 7 by decide)
  have hr3 := hr.mono (show 3 ≤ 7 by decide)
  have i10 : i = 0 ∨ i = 1 ∨ (i = 2 ∨ i = 3 ∨ i = 4) ∨ i = 5 ∨ i = 6 ∨ i = 7 ∨ i = 8 ∨ i = 9 := by omega
  rcases i10 with rfl | rfl | h | rfl | rfl | rfl | rfl | rfl
  · refine hb_if (b := true) (tr_cmp (er_v 0 rfl rfl) er_int bop_eqI) (fun _ => ?_) (fun z => Bool.noConfusion z)
    refine hb_setA (R := rErr t.M "n" (rInt n)) 3 rfl (er_mkE E.tM hr1 (ar_cons (er_v 1 rfl rfl) ar_nil) (fun v G h => ⟨n, h, log_lt (Nat.lt_of_le_of_lt g.n1 (by decide : (10 : Nat) ^ 40 < 2 ^ 200)) (by decide) (by decide)⟩)) ?_
    exact hb_ret (er_lst (Rs := [rErr t.M "n" (rInt n), rBool true]) (ar_cons (er_v 3 rfl rfl) (ar_cons (er_eq (er_cmp (er_fE (er_v 3 rfl rfl) Z.xM Z.nM) (er_v 1 rfl rfl) bop_eqI) (congrArg rBool (decide_eq_true rfl))) ar_nil)) (by show 2 ≤ 1000; decide)) ⟨_, [], rfl, fun v G h => h, rfl⟩
  · refine hb_if (b := false) (tr_cmp (er_v 0 rfl rfl) er_int bop_eqI) (fun z => Bool.noConfusion z) (fun _ => hb_nil ?_)
    refine hb_if (b := true) (tr_cmp (er_v 0 rfl rfl) er_int bop_eqI) (fun _ => ?_) (fun z => Bool.noConfusion z)
    refine hb_setA (R := rErr t.T "at" (rInt n)) 3 rfl (er_mkE E.tT hr1 (ar_cons (er_v 1 rfl rfl) ar_nil) (fun v G h => ⟨n, h, log_lt (Nat.lt_of_le_of_lt g.n1 (by decide : (10 : Nat) ^ 40 < 2 ^ 200)) (by decide) (by decide)⟩)) ?_
    exact hb_ret (er_lst (Rs := [rErr t.T "at" (rInt n), rBool true]) (ar_cons (er_v 3 rfl rfl) (ar_cons (er_eq (er_cmp (er_fE (er_v 3 rfl rfl) Z.xT Z.nT) (er_v 1 rfl rfl) bop_eqI) (congrArg rBool (decide_eq_true rfl))) ar_nil)) (by show 2 ≤ 1000; decide)) ⟨_, [], rfl, fun v G h => h, rfl⟩
  · rcases h with rfl | rfl | rfl
    · refine hb_if (b := false) (tr_cmp (er_v 0 rfl rfl) er_int bop_eqI) (fun z => Bool.noConfusion z) (fun _ => hb_nil ?_)
      refine hb_if (b := false) (tr_cmp (er_v 0 rfl rfl) er_int bop_eqI) (fun z => Bool.noConfusion z) (fun _ => hb_nil ?_)
      refine hb_if (b := true) (tr_cmp (er_v 0 rfl rfl) er_int bop_lt) (fun _ => ?_) (fun z => Bool.noConfusion z)
      exact hb_ret (er_fA Tn hr3 (ar_cons (er_v 0 rfl rfl) (ar_cons (er_v 2 rfl rfl) ar_nil)) ⟨n, y, _, Or.inl rfl, g, rfl, rfl, rfl, rfl⟩) ⟨_, [], rfl, fun v G h => h, rfl⟩
    · refine hb_if (b := false) (tr_cmp (er_v 0 rfl rfl) er_int bop_eqI) (fun z => Bool.noConfusion z) (fun _ => hb_nil ?_)
      refine hb_if (b := false) (tr_cmp (er_v 0 rfl rfl) er_int bop_eqI) (fun z => Bool.noConfusion z) (fun _ => hb_nil ?_)
      refine hb_if (b := true) (tr_cmp (er_v 0 rfl rfl) er_int bop_lt) (fun _ => ?_) (fun z => Bool.noConfusion z)
      exact hb_ret (er_fA Tn hr3 (ar_cons (er_v 0 rfl rfl) (ar_cons (er_v 2 rfl rfl) ar_nil)) ⟨n, y, _, Or.inr (Or.inl rfl), g, rfl, rfl, rfl, rfl⟩) ⟨_, [], rfl, fun v G h => h, rfl⟩
    · refine hb_if (b := false) (tr_cmp (er_v 0 rfl rfl) er_int bop_eqI) (fun z => Bool.noConfusion z) (fun _ => hb_nil ?_)
      refine hb_if (b := false) (tr_cmp (er_v 0 rfl rfl) er_int bop_eqI) (fun z => Bool.noConfusion z) (fun _ => hb_nil ?_)
      refine hb_if (b := true) (tr_cmp (er_v 0 rfl rfl) er_int bop_lt) (fun _ => ?_) (fun z => Bool.noConfusion z)
      exact hb_ret (er_fA Tn hr3 (ar_cons (er_v 0 rfl rfl) (ar_cons (er_v 2 rfl rfl) ar_nil)) ⟨n, y, _, Or.inr (Or.inr rfl), g, rfl, rfl, rfl, rfl⟩) ⟨_, [], rfl, fun v G h => h, rfl⟩
  · refine hb_if (b := false) (tr_cmp (er_v 0 rfl rfl) er_int bop_eqI) (fun z => Bool.noConfusion z) (fun _ => hb_nil ?_)
    refine hb_if (b := false) (tr_cmp (er_v 0 rfl rfl) er_int bop_eqI) (fun z => Bool.noConfusion z) (fun _ => hb_nil ?_)
    refine hb_if (b := false) (tr_cmp (er_v 0 rfl rfl) er_int bop_lt) (fun z => Bool.noConfusion z) (fun _ => hb_nil ?_)
    refine hb_if (b := true) (tr_cmp (er_v 0 rfl rfl) er_int bop_eqI) (fun _ => ?_) (fun z => Bool.noConfusion z)
    refine hb_setA (R := rErr t.V "at" (rInt n)) 3 rfl (er_mkE E.tV hr1 (ar_cons (er_v 1 rfl rfl) ar_nil) (fun v G h => ⟨n, h, log_lt (Nat.lt_of_le_of_lt g.n1 (by decide : (10 : Nat) ^ 40 < 2 ^ 200)) (by decide) (by decide)⟩)) ?_
    exact hb_ret (er_lst (Rs := [rErr t.V "at" (rInt n), rBool true]) (ar_cons (er_v 3 rfl rfl) (ar_cons (er_eq (er_cmp (er_fE (er_v 3 rfl rfl) Z.xV Z.nV) (er_v 1 rfl rfl) bop_eqI) (congrArg rBool (decide_eq_true rfl))) ar_nil)) (by show 2 ≤ 1000; decide)) ⟨_, [], rfl, fun v G h => h, rfl⟩
  · refine hb_if (b := false) (tr_cmp (er_v 0 rfl rfl) er_int bop_eqI) (fun z => Bool.noConfusion z) (fun _ => hb_nil ?_)
    refine hb_if (b := false) (tr_cmp (er_v 0 rfl rfl) er_int bop_eqI) (fun z => Bool.noConfusion z) (fun _ => hb_nil ?_)
    refine hb_if (b := false) (tr_cmp (er_v 0 rfl rfl) er_int bop_lt) (fun z => Bool.noConfusion z) (fun _ => hb_nil ?_)
    refine hb_if (b := false) (tr_cmp (er_v 0 rfl rfl) er_int bop_eqI) (fun z => Bool.noConfusion z) (fun _ => hb_nil ?_)
    refine hb_if (b := true) (tr_cmp (er_v 0 rfl rfl) er_int bop_eqI) (fun _ => ?_) (fun z => Bool.noConfusion z)
    refine hb_setA (R := rErr t.B "at" (rInt n)) 3 rfl (er_mkE E.tB hr1 (ar_cons (er_v 1 rfl rfl) ar_nil) (fun v G h => ⟨n, h, log_lt (Nat.lt_of_le_of_lt g.n1 (by decide : (10 : Nat) ^ 40 < 2 ^ 200)) (by decide) (by decide)⟩)) ?_
    exact hb_ret (er_lst (Rs := [rErr t.B "at" (rInt n), rBool true]) (ar_cons (er_v 3 rfl rfl) (ar_cons (er_eq (er_cmp (er_fE (er_v 3 rfl rfl) Z.xB Z.nB) (er_v 1 rfl rfl) bop_eqI) (congrArg rBool (decide_eq_true rfl))) ar_nil)) (by show 2 ≤ 1000; decide)) ⟨_, [], rfl, fun v G h => h, rfl⟩
  · refine hb_if (b := false) (tr_cmp (er_v 0 rfl rfl) er_int bop_eqI) (fun z => Bool.noConfusion z) (fun _ => hb_nil ?_)
    refine hb_if (b := false) (tr_cmp (er_v 0 rfl rfl) er_int bop_eqI) (fun z => Bool.noConfusion z) (fun _ => hb_nil ?_)
    refine hb_if (b := false) (tr_cmp (er_v 0 rfl rfl) er_int bop_lt) (fun z => Bool.noConfusion z) (fun _ => hb_nil ?_)
    refine hb_if (b := false) (tr_cmp (er_v 0 rfl rfl) er_int bop_eqI) (fun z => Bool.noConfusion z) (fun _ => hb_nil ?_)
    refine hb_if (b := false) (tr_cmp (er_v 0 rfl rfl) er_int bop_eqI) (fun z => Bool.noConfusion z) (fun _ => hb_nil ?_)
    refine hb_if (b := true) (tr_cmp (er_v 0 rfl rfl) er_int bop_eqI) (fun _ => ?_) (fun z => Bool.noConfusion z)
    exact hb_ret (er_fA Tp hr (ar_cons (er_v 2 rfl rfl) (ar_cons (er_v 1 rfl rfl) ar_nil)) ⟨n, y, g, rfl, rfl, rfl, rfl⟩) ⟨_, [], rfl, fun v G h => h, rfl⟩
  · refine hb_if (b := false) (tr_cmp (er_v 0 rfl rfl) er_int bop_eqI) (fun z => Bool.noConfusion z) (fun _ => hb_nil ?_)
    refine hb_if (b := false) (tr_cmp (er_v 0 rfl rfl) er_int bop_eqI) (fun z => Bool.noConfusion z) (fun _ => hb_nil ?_)
    refine hb_if (b := false) (tr_cmp (er_v 0 rfl rfl) er_int bop_lt) (fun z => Bool.noConfusion z) (fun _ => hb_nil ?_)
    refine hb_if (b := false) (tr_cmp (er_v 0 rfl rfl) er_int bop_eqI) (fun z => Bool.noConfusion z) (fun _ => hb_nil ?_)
    refine hb_if (b := false) (tr_cmp (er_v 0 rfl rfl) er_int bop_eqI) (fun z => Bool.noConfusion z) (fun _ => hb_nil ?_)
    refine hb_if (b := false) (tr_cmp (er_v 0 rfl rfl) er_int bop_eqI) (fun z => Bool.noConfusion z) (fun _ => hb_nil ?_)
    exact hb_ret (er_lst (Rs := [rEr0 t.S, rBool true]) (ar_cons (er_ix (er_lst (Rs := [rEr0 t.S, rEr0 t.Z]) (ar_cons (er_mk0 E.tS hr1) (ar_cons (er_mk0 E.tZ hr1) ar_nil)) (by show 2 ≤ 1000; decide)) (er_bin (er_v 0 rfl rfl) er_int bop_sub) (iop_L (n := 0) rfl rfl)) (ar_cons er_bl ar_nil)) (by show 2 ≤ 1000; decide)) ⟨_, [], rfl, fun v G h => h, rfl⟩
  · refine hb_if (b := false) (tr_cmp (er_v 0 rfl rfl) er_int bop_eqI) (fun z => Bool.noConfusion z) (fun _ => hb_nil ?_)
    refine hb_if (b := false) (tr_cmp (er_v 0 rfl rfl) er_int bop_eqI) (fun z => Bool.noConfusion z) (fun _ => hb_nil ?_)
    refine hb_if (b := false) (tr_cmp (er_v 0 rfl rfl) er_int bop_lt) (fun z => Bool.noConfusion z) (fun _ => hb_nil ?_)
    refine hb_if (b := false) (tr_cmp (er_v 0 rfl rfl) er_int bop_eqI) (fun z => Bool.noConfusion z) (fun _ => hb_nil ?_)
    refine hb_if (b := false) (tr_cmp (er_v 0 rfl rfl) er_int bop_eqI) (fun z => Bool.noConfusion z) (fun _ => hb_nil ?_)
    refine hb_if (b := false) (tr_cmp (er_v 0 rfl rfl) er_int bop_eqI) (fun z => Bool.noConfusion z) (fun _ => hb_nil ?_)
    exact hb_ret (er_lst (Rs := [rEr0 t.Z, rBool true]) (ar_cons (er_ix (er_lst (Rs := [rEr0 t.S, rEr0 t.Z]) (ar_cons (er_mk0 E.tS hr1) (ar_cons (er_mk0 E.tZ hr1) ar_nil)) (by show 2 ≤ 1000; decide)) (er_bin (er_v 0 rfl rfl) er_int bop_sub) (iop_L (n := 1) rfl rfl)) (ar_cons er_bl ar_nil)) (by show 2 ≤ 1000; decide)) ⟨_, [], rfl, fun v G h => h, rfl⟩
end
end W1
set_option maxRecDepth 100000
set_option maxHeartbeats 8000000
set_option exponentiation.threshold 20000
namespace W1
open PySem PySem.Spec PyProof.Rows L2 NdefX TL NumText
/-! ### the law of the ten errors -/
theorem rng_get {lo : Int} {n k : Nat} {S : Rl} (h : (rng lo n)[k]? = some S) : k < n ∧ S = rInt (lo + k) := by
  unfold rng at h
  obtain ⟨j, hj, rfl⟩ := map_get h
  obtain ⟨hl, e⟩ := List.getElem?_eq_some_iff.mp hj
  rw [List.getElem_range] at e
  rw [List.length_range] at hl
  subst e
  exact ⟨hl, rfl⟩

def pLaw (K : PySem.W.Frag) : Pre := pOk (α := List Int) (fun ns => ns.length ≤ 63) (fun ns => [rScr K (ns.map V.int)]) (fun _ => rBool true)
@[irreducible] def nine40 : Str := repS (Str.ofString "9") 40
theorem nine40_eq : repS (Str.ofString "9") 40 = nine40 := by unfold nine40; rfl
theorem nine40_ok : nine40.length ≤ 1000 ∧ nine40 ≠ "a" := by unfold nine40; decide +kernel
def nms6 : List Str := [Str.ofString "", Str.ofString "b", Str.ofString "abcdefgh", Str.ofString "X", Str.ofString "a b", nine40]
theorem nms6_ok : ∀ y ∈ nms6, y.length ≤ 1000 ∧ y ≠ "a" := by
  have h5 : ∀ y ∈ [Str.ofString "", Str.ofString "b", Str.ofString "abcdefgh", Str.ofString "X", Str.ofString "a b"], y.length ≤ 1000 ∧ y ≠ "a" := by decide +kernel
  intro y hy
  have hy : y ∈ [Str.ofString "", Str.ofString "b", Str.ofString "abcdefgh", Str.ofString "X", Str.ofString "a b"] ++ [nine40] := hy
  rcases List.mem_append.mp hy with h | h
  · exact h5 y h
  · rw [List.mem_singleton.mp h]; exact nine40_ok
theorem big40 : (10 : Int) ^ (40 : Int).toNat = 10000000000000000000000000000000000000000 := by decide +kernel
def nnG (s s' : Pool) (c : Int) : Int := [drR s 40 - 9, c.fmod ((10 : Int) ^ (40 : Int).toNat), -1].getD (drR s' 3).toNat 0
theorem nn_ok (s s' : Pool) (c : Int) : (nnG s s' c).natAbs ≤ 10 ^ 40 := by
  have d40 := drR_lt (s := s) (L := 40) (by decide)
  have d3 := drR_lt (s := s') (L := 3) (by decide)
  have hm1 : 0 ≤ c.fmod ((10 : Int) ^ (40 : Int).toNat) := Int.fmod_nonneg_of_pos _ (by rw [big40]; decide)
  have hm2 : c.fmod ((10 : Int) ^ (40 : Int).toNat) < (10 : Int) ^ (40 : Int).toNat := Int.fmod_lt_of_pos _ (by rw [big40]; decide)
  have h40 : (10 : Nat) ^ 40 = 10000000000000000000000000000000000000000 := by decide +kernel
  rw [big40] at hm1 hm2
  unfold nnG
  rw [big40, h40]
  have : (drR s' 3).toNat = 0 ∨ (drR s' 3).toNat = 1 ∨ (drR s' 3).toNat = 2 := by omega
  rcases this with e | e | e <;> rw [e]
  · show (drR s 40 - 9).natAbs ≤ _; omega
  · show (c.fmod _).natAbs ≤ _; omega
  · show (1 : Nat) ≤ _; omega
theorem nms6_in (s : Pool) : nms6.getD (drR s 6).toNat Str.empty ∈ nms6 := by
  have d6 := drR_lt (s := s) (L := 6) (by decide)
  have hl : (drR s 6).toNat < nms6.length := by show _ < 6; omega
  rw [List.getD_eq_getElem?_getD, List.getElem?_eq_getElem hl]
  exact List.getElem_mem hl
structure NB40 (n : Int) : Prop where
  h : n.natAbs ≤ 10 ^ 40
section
variable {P : Program} {w : World} {K : PySem.W.Frag} {mg : Str → Option Value} {base : Heap} {f A R M : Addr} {fd : FuncData} {t : Ten}
theorem kf_law (Fn : Fun K "law" "law" s_law f fd) (Z : TenX K mg t A) (Em : Ke P w K mg base t.M "BadNumber" "n" 4 (prRat R)) (Tbag : KfN1 P w K mg base "_law_bag" 1 pBag) (Tat : Kf1 P w K mg base "_law_at" 1 (pAt K)) (Td : Kf1 P w K mg base "_law_draw" 1 pDraw)
    (Tm : Kf1 P w K mg base "_law_made" 8 (pMade t R)) (Tk : Kf1 P w K mg base "_law_kinds" 1 (pKinds t R)) (Tq : Kc P w K mg base R "Ratio" 3 (pInit R M)) (Te : Ko P w K mg base R "__eq__" 5 (pEq R)) (hn : PySem.W.notFirst K R (.ref R) = true)
    (isi : mg "isinstance" = none) (int : mg "int" = none) (rg : mg "range" = none) (ve : mg "ValueError" = none) : FnOk P w K mg base (L2.CX P w) 9 f fd P_law (spM (pLaw K)) := by
  refine fn_ok Fn c_law (fun _ _ _ _ ⟨_, _, h, _⟩ => by rw [h]; rfl) ?_
  rintro cdv A' outer s H E ⟨_, G0, H0, M', W', tk⟩ hr rfl Rs ω o ω' ⟨ns, hns, rfl, rfl, rfl, rfl⟩
  have nd := c_law.nd
  have r1 := hr.mono (show 1 ≤ 8 by decide)
  have r4 := hr.mono (show 4 ≤ 8 by decide)
  have r5 := hr.mono (show 5 ≤ 8 by decide)
  refine hb_setNA 1 rfl (en_fA Tbag r1 (ar_cons (er_fA Tat r1 (ar_cons (er_v 0 rfl rfl) (ar_cons er_int ar_nil)) ⟨(ns, 0), trivial, rfl, rfl, rfl, rfl⟩) ar_nil) ⟨atS ns 0, rfl, rfl, rfl, rfl⟩) (fun q hq => ?_)
  generalize ((atS ns 0, (0 : Int), decide ((10 : Int) ^ 18 ≤ atS ns 0)) : Pool) = s0
  have d40 := drR_lt (s := s0) (L := 40) (by decide)
  have d3 := drR_lt (s := drS s0 40) (L := 3) (by decide)
  refine hb_setA (R := rInt ([drR s0 40 - 9, (atS ns 1).fmod ((10 : Int) ^ (40 : Int).toNat), -1].getD (drR (drS s0 40) 3).toNat 0)) 2 rfl (er_ix (A := rLst ([drR s0 40 - 9, (atS ns 1).fmod ((10 : Int) ^ (40 : Int).toNat), -1].map rInt)) (er_lst
    (ar_cons (er_bin (er_f1 0 Td r1 (ar_cons (er_v 1 rfl rfl) (ar_cons er_int ar_nil)) rfl (drawOk (s := s0) (L := 40) (by decide) (by decide))) er_int bop_sub)
    (ar_cons (er_bin (er_tA (ar_cons (er_fA Tat r1 (ar_cons (er_v 0 rfl rfl) (ar_cons er_int ar_nil)) ⟨(ns, 1), trivial, rfl, rfl, rfl, rfl⟩) ar_nil) int bt_int cop_int) (er_bin er_int er_int (bop_pow (i := 10) (j := 40) ⟨by decide, by decide, by decide⟩)) (bop_mod (by rw [big40]; decide)))
    (ar_cons (er_un er_int uop_neg) ar_nil))) (by show 3 ≤ 1000; decide)) (er_f1 0 Td r1 (ar_cons (er_v 1 rfl rfl) (ar_cons er_int ar_nil)) rfl (drawOk (s := drS s0 40) (L := 3) (by decide) (by decide))) (iop_pickM 0 d3.1 d3.2)) ?_
  have hnn : NB40 (nnG s0 (drS s0 40) (atS ns 1)) := ⟨nn_ok s0 (drS s0 40) (atS ns 1)⟩
  show HB _ [some _, some _, some (rInt (nnG s0 (drS s0 40) (atS ns 1))), _, _, _, _, _] _ _ _
  generalize nnG s0 (drS s0 40) (atS ns 1) = n at hnn
  generalize drS (drS s0 40) 3 = s1
  have d6 := drR_lt (s := s1) (L := 6) (by decide)
  refine hb_setA (R := rStr (nms6.getD (drR s1 6).toNat Str.empty)) 3 rfl (er_ix (A := rLst (nms6.map rStr)) (er_lst
    (ar_cons er_str (ar_cons er_str (ar_cons er_str (ar_cons er_str (ar_cons er_str (ar_cons (er_eq (er_bin er_str er_int (bop_repS (z := Str.ofString "9") (n := 40) (by decide) (by decide) (by decide) (by decide))) (congrArg rStr nine40_eq)) ar_nil)))))) (by show 6 ≤ 1000; decide)) (er_f1 0 Td r1 (ar_cons (er_v 1 rfl rfl) (ar_cons er_int ar_nil)) rfl (drawOk (s := s1) (L := 6) (by decide) (by decide))) (iop_pickM (α := Str) (A := rStr) (xs := nms6) Str.empty d6.1 (by rw [show nms6.length = 6 from rfl]; exact d6.2))) ?_
  have hy := nms6_ok _ (nms6_in s1)
  generalize nms6.getD (drR s1 6).toNat Str.empty = y at hy
  generalize drS s1 6 = s2
  have g : ErG n y := ⟨hnn.h, hy.1, hy.2⟩
  refine hb_for (it_rng1 (ar_cons er_int ar_nil) rfl rg (by decide)) (fun k ρ w => ∃ z4 z5 z6, ρ = [some (rScr K (ns.map V.int)), some (rRef q), some (rInt n), some (rStr y), z4, z5, z6, none] ∧ w = [(q, oPool s2)]) ⟨none, none, none, rfl, rfl⟩ ?_ ?_ (passes_of rfl) (pg_name (i := 4) nd rfl (Or.inr rfl))
  · rintro k ρ w S hS ⟨z4, z5, z6, rfl, rfl⟩
    obtain ⟨hk, rfl⟩ := rng_get hS
    have hk : k < 10 := hk
    have ek : (0 : Int) + (k : Int) = ((k : Nat) : Int) := by omega
    rw [ek]
    refine ⟨_, ge_name, ?_⟩
    refine hb_asg (er_fA Tm hr (ar_cons (er_v 4 rfl rfl) (ar_cons (er_v 2 rfl rfl) (ar_cons (er_v 3 rfl rfl) ar_nil))) ⟨n, y, k, hk, g, rfl, rfl, rfl, rfl⟩) (pg_lst rfl (pgs_cons (pg_name (i := 5) nd rfl (Or.inl rfl)) (pgs_cons (pg_name (i := 6) nd rfl (Or.inl rfl)) pgs_nil))) (ge_lst (ges_cons ge_name (ges_cons ge_name ges_nil)) rfl) ?_
    have er : rng 0 (10 : Int).toNat = (List.range 10).map fun j : Nat => rInt (0 + (j : Int)) := rng_map
    refine hb_if (b := false) (PWR.tr (tr_or (tr_not (k := true) (tr_val (er_v 6 rfl rfl))) fun _ => tr_or1 (tr_cmp (er_fA Tk r1 (ar_cons (er_v 5 rfl rfl) ar_nil) ⟨n, y, k, hk, rfl, rfl, rfl, rfl⟩) (er_eq (S := rLst ((knV k).map rEqV)) (er_lc (xs := List.range 10) (A := fun j : Nat => rInt (0 + (j : Int))) (B := fun j : Nat => rEqV (.bl (decide ((0 : Int) + (j : Int) = (k : Int))))) (by rw [← er]; exact it_rng1 (ar_cons er_int ar_nil) rfl rg (by decide)) (by rw [List.length_range]; decide) [("_law_k", 7)] (blkOk_by (N := N_law) (sc := defScope s_law) (by decide +kernel)) (fun _ _ _ _ _ => pg_name (i := 7) nd rfl (Or.inl rfl)) (fun i g h => gew_name) (fun i j hj s1 H1 cc cl' fp d => er_cmp (er_v 7 rfl rfl) (er_v 4 rfl rfl) bop_eqI) nd) (by unfold knV; rw [List.map_map]; rfl)) (bop_neLV (fun x hx => by obtain ⟨j, _, rfl⟩ := List.mem_map.mp hx; rfl) (fun x hx => by obtain ⟨j, _, rfl⟩ := List.mem_map.mp hx; simp [eqV]) r1)))) (fun z => Bool.noConfusion z) (fun _ => hb_nil ?_)
    obtain ⟨fld, R', hR⟩ := eR_is (t := t) (R := R) (n := n) (y := y) k hk
    refine hb_if (b := false) (PWR.tr (tr_or (tr_not (k := true) (tr_val (er_bA (ar_cons (er_v 5 rfl rfl) (ar_cons (er_gC Z.gA) ar_nil)) isi bt_isi (cop_isX (Z.ex k hk) hR (.own _) (Z.ka k hk))))) fun _ => tr_or1 (tr_not (k := true) (tr_val (er_bA (ar_cons (er_v 5 rfl rfl) (ar_cons (er_bltn (v := .ty "ValueError") rfl ve PyProof.Rows.Boot.«ValueError» rfl) ar_nil)) isi bt_isi (cop_isX (Z.ex k hk) hR (.ty _) (Z.kv k hk))))))) (fun z => Bool.noConfusion z) (fun _ => hb_nil (hb_nil ⟨_, _, _, rfl, rfl⟩))
  · rintro ρ w ⟨z4, z5, z6, rfl, rfl⟩
    have sz : Sz 1900 (Rat.divInt n 7) := sz_divInt (by decide) (Nat.lt_of_le_of_lt hnn.h (by decide)) (by decide)
    refine hb_setA (R := rErr t.M "n" (rRat R (Rat.divInt n 7))) 5 rfl (er_mkE Em r5 (ar_cons (er_ratio Tq r4 (ar_cons (er_v 2 rfl rfl) (ar_cons er_int ar_nil)) rfl (by decide) (by decide)) ar_nil) (fun v G h => ⟨⟨_, sz⟩, h⟩)) ?_
    exact hb_ret (er_eq (er_cmp (er_fE (er_v 5 rfl rfl) Z.xM Z.nM) (er_ratio Tq r4 (ar_cons (er_v 2 rfl rfl) (ar_cons er_int ar_nil)) rfl (by decide) (by decide)) (bop_oE Te r5 (pEqOk (C := R) (p := Rat.divInt n 7) (q := Rat.divInt n 7)) tyr_ins hn)) (congrArg rBool (decide_eq_true rfl))) ⟨_, [(q, oPool s2)], rfl, fun v G h => h, rfl⟩
end
end W1
set_option maxRecDepth 100000
set_option maxHeartbeats 2000000
set_option exponentiation.threshold 20000
namespace W1
open PySem PySem.Spec PyProof.Rows L2 NdefX
open TL NumText
/-- f".. {x} .." -/
theorem txt_fcf {X : Cx} {i : Nat} {x t u : Str} {p1 p2 p3 p4 p5 : Pos} {j k : Nat} (hN : X.N[i]? = some x) (hv : Vis X.env.scope x) (hd : (x == ("__debug__" : Str)) = false) (hcd : (x == ("__classdict__" : Str)) = false) (ht : t.length ≤ 1000 ∧ u.length ≤ 1000) {Pr : Rl} (hPr : ∀ v H, Pr.r v H → prInt.r v H ∨ prStr.r v H) :
    Txt1 X (.JoinedStr [.Constant (.str t) j p3, .FormattedValue (.Name x p1) (-1) none p2, .Constant (.str u) k p5] p4) i Pr := by
  obtain ⟨te, h1, h2⟩ := fmt_int (X := X) (e := .Name x p1) (pos := p2) (p1 := p1) hN hv hd hcd
  refine ⟨_, pe_joined (.cons pe_str (.cons h1 (.cons pe_str .nil))), fun σ H v h3 h4 Q q => ⟨t, rfl, ?_, ?_⟩⟩
  · rw [empty_app]
    exact Nat.le_trans ht.1 (by decide)
  · refine h2 σ H v h3 (hPr _ _ h4) _ fun y hy => ⟨y, rfl, ?_, u, rfl, ?_, q _ _ (Same.refl _)⟩
    · rw [strlen_app, empty_app]
      exact Nat.le_trans (Nat.add_le_add ht.1 hy) (by decide)
    · rw [strlen_app, strlen_app, empty_app]
      exact Nat.le_trans (Nat.add_le_add (Nat.add_le_add ht.1 hy) ht.2) (by decide)
theorem kE_BadNumber {P : Program} {w : World} {K : PySem.W.Frag} {mg : Str → Option Value} {base : Heap} {C f cc cd : Addr} (T : SupC P K mg "BadNumber" "BadNumber.__init__" s_BadNumber___init__ C f cc cd) (hno : PySem.W.findIn K (.ref C) "n" = some none) : Ke P w K mg base C "BadNumber" "n" 1 prInt := by
  obtain ⟨fd, ⟨doc, pm, ctv, rfl⟩, h⟩ := ok_err (w := w) (base := base) (k := 0) (Pr := prInt) (an2 := none) (ps2 := ⟨0, 0, 0, 0⟩) T c_BadNumber___init__ rfl rfl rfl hno (by decide) (by decide) (fun env he => ⟨_, rfl⟩) (fun env he => rfl) (fun env => rfl) (fun env he => ⟨rfl, rfl⟩)
    (fun X h1 h2 h3 h4 h5 hN hs hr hc => txt_fc (i := 1) (by rw [hN]; rfl) (by rw [hs]; exact Or.inl rfl) (by decide) (by decide) (by decide) (fun v H z => .inl z))
  exact ⟨"n", _, _, f, cc, cd, _, T, .all fun us hl => match us, hl with | [_, _], _ => rfl, h⟩
theorem kE_BadText {P : Program} {w : World} {K : PySem.W.Frag} {mg : Str → Option Value} {base : Heap} {C f cc cd : Addr} (T : SupC P K mg "BadText" "BadText.__init__" s_BadText___init__ C f cc cd) (hno : PySem.W.findIn K (.ref C) "at" = some none) : Ke P w K mg base C "BadText" "at" 1 prInt := by
  obtain ⟨fd, ⟨doc, pm, ctv, rfl⟩, h⟩ := ok_err (w := w) (base := base) (k := 0) (Pr := prInt) (an2 := none) (ps2 := ⟨0, 0, 0, 0⟩) T c_BadText___init__ rfl rfl rfl hno (by decide) (by decide) (fun env he => ⟨_, rfl⟩) (fun env he => rfl) (fun env => rfl) (fun env he => ⟨rfl, rfl⟩)
    (fun X h1 h2 h3 h4 h5 hN hs hr hc => txt_cf (i := 1) (by rw [hN]; rfl) (by rw [hs]; exact Or.inl rfl) (by decide) (by decide) (by decide) (fun v H z => .inl z))
  exact ⟨"at", _, _, f, cc, cd, _, T, .all fun us hl => match us, hl with | [_, _], _ => rfl, h⟩
theorem kE_BadName {P : Program} {w : World} {K : PySem.W.Frag} {mg : Str → Option Value} {base : Heap} {C f cc cd : Addr} (T : SupC P K mg "BadName" "BadName.__init__" s_BadName___init__ C f cc cd) (hno : PySem.W.findIn K (.ref C) "name" = some none) : Ke P w K mg base C "BadName" "name" 1 prStr := by
  obtain ⟨fd, ⟨doc, pm, ctv, rfl⟩, h⟩ := ok_err (w := w) (base := base) (k := 0) (Pr := prStr) (an2 := none) (ps2 := ⟨0, 0, 0, 0⟩) T c_BadName___init__ rfl rfl rfl hno (by decide) (by decide) (fun env he => ⟨_, rfl⟩) (fun env he => rfl) (fun env => rfl) (fun env he => ⟨rfl, rfl⟩)
    (fun X h1 h2 h3 h4 h5 hN hs hr hc => txt_fc (i := 1) (by rw [hN]; rfl) (by rw [hs]; exact Or.inl rfl) (by decide) (by decide) (by decide) (fun v H z => .inr z))
  exact ⟨"name", _, _, f, cc, cd, _, T, .all fun us hl => match us, hl with | [_, _], _ => rfl, h⟩
theorem kE_DuplicateName {P : Program} {w : World} {K : PySem.W.Frag} {mg : Str → Option Value} {base : Heap} {C f cc cd : Addr} (T : SupC P K mg "DuplicateName" "DuplicateName.__init__" s_DuplicateName___init__ C f cc cd) (hno : PySem.W.findIn K (.ref C) "name" = some none) : Ke P w K mg base C "DuplicateName" "name" 1 prStr := by
  obtain ⟨fd, ⟨doc, pm, ctv, rfl⟩, h⟩ := ok_err (w := w) (base := base) (k := 0) (Pr := prStr) (an2 := none) (ps2 := ⟨0, 0, 0, 0⟩) T c_DuplicateName___init__ rfl rfl rfl hno (by decide) (by decide) (fun env he => ⟨_, rfl⟩) (fun env he => rfl) (fun env => rfl) (fun env he => ⟨rfl, rfl⟩)
    (fun X h1 h2 h3 h4 h5 hN hs hr hc => txt_fc (i := 1) (by rw [hN]; rfl) (by rw [hs]; exact Or.inl rfl) (by decide) (by decide) (by decide) (fun v H z => .inr z))
  exact ⟨"name", _, _, f, cc, cd, _, T, .all fun us hl => match us, hl with | [_, _], _ => rfl, h⟩
theorem kE_UnknownName {P : Program} {w : World} {K : PySem.W.Frag} {mg : Str → Option Value} {base : Heap} {C f cc cd : Addr} (T : SupC P K mg "UnknownName" "UnknownName.__init__" s_UnknownName___init__ C f cc cd) (hno : PySem.W.findIn K (.ref C) "name" = some none) : Ke P w K mg base C "UnknownName" "name" 1 prStr := by
  obtain ⟨fd, ⟨doc, pm, ctv, rfl⟩, h⟩ := ok_err (w := w) (base := base) (k := 0) (Pr := prStr) (an2 := none) (ps2 := ⟨0, 0, 0, 0⟩) T c_UnknownName___init__ rfl rfl rfl hno (by decide) (by decide) (fun env he => ⟨_, rfl⟩) (fun env he => rfl) (fun env => rfl) (fun env he => ⟨rfl, rfl⟩)
    (fun X h1 h2 h3 h4 h5 hN hs hr hc => txt_fc (i := 1) (by rw [hN]; rfl) (by rw [hs]; exact Or.inl rfl) (by decide) (by decide) (by decide) (fun v H z => .inr z))
  exact ⟨"name", _, _, f, cc, cd, _, T, .all fun us hl => match us, hl with | [_, _], _ => rfl, h⟩
theorem kE_BadWay {P : Program} {w : World} {K : PySem.W.Frag} {mg : Str → Option Value} {base : Heap} {C f cc cd : Addr} (T : SupC P K mg "BadWay" "BadWay.__init__" s_BadWay___init__ C f cc cd) (hno : PySem.W.findIn K (.ref C) "at" = some none) : Ke P w K mg base C "BadWay" "at" 1 prInt := by
  obtain ⟨fd, ⟨doc, pm, ctv, rfl⟩, h⟩ := ok_err (w := w) (base := base) (k := 0) (Pr := prInt) (an2 := none) (ps2 := ⟨0, 0, 0, 0⟩) T c_BadWay___init__ rfl rfl rfl hno (by decide) (by decide) (fun env he => ⟨_, rfl⟩) (fun env he => rfl) (fun env => rfl) (fun env he => ⟨rfl, rfl⟩)
    (fun X h1 h2 h3 h4 h5 hN hs hr hc => txt_cf (i := 1) (by rw [hN]; rfl) (by rw [hs]; exact Or.inl rfl) (by decide) (by decide) (by decide) (fun v H z => .inl z))
  exact ⟨"at", _, _, f, cc, cd, _, T, .all fun us hl => match us, hl with | [_, _], _ => rfl, h⟩
theorem kE_NotPlain {P : Program} {w : World} {K : PySem.W.Frag} {mg : Str → Option Value} {base : Heap} {C f cc cd : Addr} (T : SupC P K mg "NotPlain" "NotPlain.__init__" s_NotPlain___init__ C f cc cd) (hno : PySem.W.findIn K (.ref C) "at" = some none) : Ke P w K mg base C "NotPlain" "at" 1 prInt := by
  obtain ⟨fd, ⟨doc, pm, ctv, rfl⟩, h⟩ := ok_err (w := w) (base := base) (k := 0) (Pr := prInt) (an2 := none) (ps2 := ⟨0, 0, 0, 0⟩) T c_NotPlain___init__ rfl rfl rfl hno (by decide) (by decide) (fun env he => ⟨_, rfl⟩) (fun env he => rfl) (fun env => rfl) (fun env he => ⟨rfl, rfl⟩)
    (fun X h1 h2 h3 h4 h5 hN hs hr hc => txt_fcf (i := 1) (by rw [hN]; rfl) (by rw [hs]; exact Or.inl rfl) (by decide) (by decide) (by decide) (fun v H z => .inl z))
  exact ⟨"at", _, _, f, cc, cd, _, T, .all fun us hl => match us, hl with | [_, _], _ => rfl, h⟩
theorem kER_BadNumber {P : Program} {w : World} {K : PySem.W.Frag} {mg : Str → Option Value} {base : Heap} {C f cc cd R : Addr} (T : SupC P K mg "BadNumber" "BadNumber.__init__" s_BadNumber___init__ C f cc cd) (hno : PySem.W.findIn K (.ref C) "n" = some none) (Ts : Ko P w K mg base R "__str__" 2 (pStr R)) (fx : FmtX K R) : Ke P w K mg base C "BadNumber" "n" 4 (prRat R) := by
  obtain ⟨fd, ⟨doc, pm, ctv, rfl⟩, h⟩ := ok_err (w := w) (base := base) (k := 3) (Pr := prRat R) (an2 := none) (ps2 := ⟨0, 0, 0, 0⟩) T c_BadNumber___init__ rfl rfl rfl hno (by decide) (by decide) (fun env he => ⟨_, rfl⟩) (fun env he => rfl) (fun env => rfl) (fun env he => ⟨rfl, rfl⟩)
    (fun X h1 h2 h3 h4 h5 hN hs hr hc => txt_rat (i := 1) (by rw [h1, h2, h3, h4, h5]; exact Ts) (by rw [h1]; exact fx) hr (by rw [hN]; rfl) (by rw [hs]; exact Or.inl rfl) (by decide) (by decide) (by decide))
  exact ⟨"n", _, _, f, cc, cd, _, T, .all fun us hl => match us, hl with | [_, _], _ => rfl, h⟩
theorem kE0_NothingToShow {P : Program} {w : World} {K : PySem.W.Frag} {mg : Str → Option Value} {base : Heap} {C f cc cd : Addr} (T : SupC P K mg "NothingToShow" "NothingToShow.__init__" s_NothingToShow___init__ C f cc cd) : Ke0 P w K mg base C "NothingToShow" 1 := by
  obtain ⟨fd, ⟨doc, pm, ctv, rfl⟩, h⟩ := ok_err0 (w := w) (base := base) (k := 0) T c_NothingToShow___init__ rfl rfl rfl (fun env he => ⟨_, rfl⟩) (fun env he => rfl) (fun env he => ⟨rfl, rfl⟩)
  exact ⟨_, _, f, cc, cd, _, T, .all fun us hl => match us, hl with | [_], _ => rfl, h⟩
theorem kE0_NothingToUndo {P : Program} {w : World} {K : PySem.W.Frag} {mg : Str → Option Value} {base : Heap} {C f cc cd : Addr} (T : SupC P K mg "NothingToUndo" "NothingToUndo.__init__" s_NothingToUndo___init__ C f cc cd) : Ke0 P w K mg base C "NothingToUndo" 1 := by
  obtain ⟨fd, ⟨doc, pm, ctv, rfl⟩, h⟩ := ok_err0 (w := w) (base := base) (k := 0) T c_NothingToUndo___init__ rfl rfl rfl (fun env he => ⟨_, rfl⟩) (fun env he => rfl) (fun env he => ⟨rfl, rfl⟩)
  exact ⟨_, _, f, cc, cd, _, T, .all fun us hl => match us, hl with | [_], _ => rfl, h⟩
theorem law_cx {P : Program} : ∀ (w : World) (H : Hp) (s : Shared) (e : Value) (s' : Shared), L2.CX P w [] H s (fun _ _ _ => False) e s' → False := fun w H s e s' hq => by
  obtain ⟨_, _, _, _, _, _, _, _, _, _, _, _, z⟩ := hq
  exact z.elim
theorem law_sp {K : Params → PySem.W.Frag} : ∀ (w : World) (H : Hp) (a : Addr) (ns : List Int), ns.length ≤ 63 → L2.Only H → SqL (K w.params) H a (ns.map V.int) → spM (pLaw (K w.params)) [.ref a] H (fun v _ => v = .bl true) fun _ _ _ => False := fun w H a ns hl _ hS =>
  ⟨_, [], _, [], H, ⟨ns, hl, rfl, rfl, rfl, rfl⟩, Same.refl _, mk1 ⟨a, rfl, hS⟩, (fun _ h => by cases h), List.nodup_nil, rfl, fun v G' H' _ _ h => h⟩
theorem all_mk {w : World} {K : PySem.W.Frag} {h : Heap} {mg : Str → Option Value} {fa : Addr}
    {M f0 cc0 cd0 : Addr}
    {od0 dd0 cdd0 cld0 : Option Addr}
    {sl0 ccs0 csl0 : Array (Option Value)}
    {oc0 dc0 pm0 ct0 ccl0 clc0 : Value}
    {nm0 q0 file0 : Str}
    {N0 : Addr}
    {bs0 sub0 bm0 : List Value}
    {sn0 : List Str}
    {ab0 : Bool}
    {col0 : Option Bool}
    {m0_0 m0_1 m0_2 m0_3 m0_5 : Option Value}
    {vs0 : Array Value}
    {tf0 : Tok}
    {T f1 cc1 cd1 : Addr}
    {od1 dd1 cdd1 cld1 : Option Addr}
    {sl1 ccs1 csl1 : Array (Option Value)}
    {oc1 dc1 pm1 ct1 ccl1 clc1 : Value}
    {nm1 q1 file1 : Str}
    {N1 : Addr}
    {bs1 sub1 bm1 : List Value}
    {sn1 : List Str}
    {ab1 : Bool}
    {col1 : Option Bool}
    {m1_0 m1_1 m1_2 m1_3 m1_5 : Option Value}
    {vs1 : Array Value}
    {tf1 : Tok}
    {N f2 cc2 cd2 : Addr}
    {od2 dd2 cdd2 cld2 : Option Addr}
    {sl2 ccs2 csl2 : Array (Option Value)}
    {oc2 dc2 pm2 ct2 ccl2 clc2 : Value}
    {nm2 q2 file2 : Str}
    {N2 : Addr}
    {bs2 sub2 bm2 : List Value}
    {sn2 : List Str}
    {ab2 : Bool}
    {col2 : Option Bool}
    {m2_0 m2_1 m2_2 m2_3 m2_5 : Option Value}
    {vs2 : Array Value}
    {tf2 : Tok}
    {D f3 cc3 cd3 : Addr}
    {od3 dd3 cdd3 cld3 : Option Addr}
    {sl3 ccs3 csl3 : Array (Option Value)}
    {oc3 dc3 pm3 ct3 ccl3 clc3 : Value}
    {nm3 q3 file3 : Str}
    {N3 : Addr}
    {bs3 sub3 bm3 : List Value}
    {sn3 : List Str}
    {ab3 : Bool}
    {col3 : Option Bool}
    {m3_0 m3_1 m3_2 m3_3 m3_5 : Option Value}
    {vs3 : Array Value}
    {tf3 : Tok}
    {U f4 cc4 cd4 : Addr}
    {od4 dd4 cdd4 cld4 : Option Addr}
    {sl4 ccs4 csl4 : Array (Option Value)}
    {oc4 dc4 pm4 ct4 ccl4 clc4 : Value}
    {nm4 q4 file4 : Str}
    {N4 : Addr}
    {bs4 sub4 bm4 : List Value}
    {sn4 : List Str}
    {ab4 : Bool}
    {col4 : Option Bool}
    {m4_0 m4_1 m4_2 m4_3 m4_5 : Option Value}
    {vs4 : Array Value}
    {tf4 : Tok}
    {V f5 cc5 cd5 : Addr}
    {od5 dd5 cdd5 cld5 : Option Addr}
    {sl5 ccs5 csl5 : Array (Option Value)}
    {oc5 dc5 pm5 ct5 ccl5 clc5 : Value}
    {nm5 q5 file5 : Str}
    {N5 : Addr}
    {bs5 sub5 bm5 : List Value}
    {sn5 : List Str}
    {ab5 : Bool}
    {col5 : Option Bool}
    {m5_0 m5_1 m5_2 m5_3 m5_5 : Option Value}
    {vs5 : Array Value}
    {tf5 : Tok}
    {B f6 cc6 cd6 : Addr}
    {od6 dd6 cdd6 cld6 : Option Addr}
    {sl6 ccs6 csl6 : Array (Option Value)}
    {oc6 dc6 pm6 ct6 ccl6 clc6 : Value}
    {nm6 q6 file6 : Str}
    {N6 : Addr}
    {bs6 sub6 bm6 : List Value}
    {sn6 : List Str}
    {ab6 : Bool}
    {col6 : Option Bool}
    {m6_0 m6_1 m6_2 m6_3 m6_5 : Option Value}
    {vs6 : Array Value}
    {tf6 : Tok}
    {Q f7 cc7 cd7 : Addr}
    {od7 dd7 cdd7 cld7 : Option Addr}
    {sl7 ccs7 csl7 : Array (Option Value)}
    {oc7 dc7 pm7 ct7 ccl7 clc7 : Value}
    {nm7 q7 file7 : Str}
    {N7 : Addr}
    {bs7 sub7 bm7 : List Value}
    {sn7 : List Str}
    {ab7 : Bool}
    {col7 : Option Bool}
    {m7_0 m7_1 m7_2 m7_3 m7_5 : Option Value}
    {vs7 : Array Value}
    {tf7 : Tok}
    {S f8 cc8 cd8 : Addr}
    {od8 dd8 cdd8 cld8 : Option Addr}
    {sl8 ccs8 csl8 : Array (Option Value)}
    {oc8 dc8 pm8 ct8 ccl8 clc8 : Value}
    {nm8 q8 file8 : Str}
    {N8 : Addr}
    {bs8 sub8 bm8 : List Value}
    {sn8 : List Str}
    {ab8 : Bool}
    {col8 : Option Bool}
    {m8_0 m8_1 m8_2 m8_3 m8_5 : Option Value}
    {vs8 : Array Value}
    {tf8 : Tok}
    {Z f9 cc9 cd9 : Addr}
    {od9 dd9 cdd9 cld9 : Option Addr}
    {sl9 ccs9 csl9 : Array (Option Value)}
    {oc9 dc9 pm9 ct9 ccl9 clc9 : Value}
    {nm9 q9 file9 : Str}
    {N9 : Addr}
    {bs9 sub9 bm9 : List Value}
    {sn9 : List Str}
    {ab9 : Bool}
    {col9 : Option Bool}
    {m9_0 m9_1 m9_2 m9_3 m9_5 : Option Value}
    {vs9 : Array Value}
    {tf9 : Tok}
    {R : Addr}
    {f10 : Addr}
    {od10 an10 : Option Addr}
    {sl10 : Array (Option Value)}
    {oc10 kV10 dc10 pm10 cd10 ct10 : Value}
    {f11 : Addr}
    {od11 an11 : Option Addr}
    {sl11 : Array (Option Value)}
    {oc11 kV11 dc11 pm11 cd11 ct11 : Value}
    {f12 : Addr}
    {od12 an12 : Option Addr}
    {sl12 : Array (Option Value)}
    {oc12 kV12 dc12 pm12 cd12 ct12 : Value}
    {f13 : Addr}
    {od13 an13 : Option Addr}
    {sl13 : Array (Option Value)}
    {oc13 kV13 dc13 pm13 cd13 ct13 : Value}
    {A : Addr}
    {f14 : Addr}
    {od14 an14 : Option Addr}
    {sl14 : Array (Option Value)}
    {oc14 kV14 dc14 pm14 cd14 ct14 : Value}
    {f15 : Addr}
    {od15 an15 : Option Addr}
    {sl15 : Array (Option Value)}
    {oc15 kV15 dc15 pm15 cd15 ct15 : Value}
    {f16 : Addr}
    {od16 an16 : Option Addr}
    {sl16 : Array (Option Value)}
    {oc16 kV16 dc16 pm16 cd16 ct16 : Value}
    {f17 : Addr}
    {od17 an17 : Option Addr}
    {sl17 : Array (Option Value)}
    {oc17 kV17 dc17 pm17 cd17 ct17 : Value}
    {f18 : Addr}
    {od18 an18 : Option Addr}
    {sl18 : Array (Option Value)}
    {oc18 kV18 dc18 pm18 cd18 ct18 : Value}
    {f19 : Addr}
    {od19 an19 : Option Addr}
    {sl19 : Array (Option Value)}
    {oc19 kV19 dc19 pm19 cd19 ct19 : Value}
    {f20 : Addr}
    {od20 an20 : Option Addr}
    {sl20 : Array (Option Value)}
    {oc20 kV20 dc20 pm20 cd20 ct20 : Value}
    {f21 : Addr}
    {od21 an21 : Option Addr}
    {sl21 : Array (Option Value)}
    {oc21 kV21 dc21 pm21 cd21 ct21 : Value}
    (X : K.In h) (G : h.Ns mainGlobals mg) (hfa : mg "law" = some (.ref fa))
    (z_super : PySem.W.nsIn K mainGlobals "super" = some none)
    (z_abs : PySem.W.nsIn K mainGlobals "abs" = some none)
    (z_isinstance : PySem.W.nsIn K mainGlobals "isinstance" = some none)
    (z_bool : PySem.W.nsIn K mainGlobals "bool" = some none)
    (z_len : PySem.W.nsIn K mainGlobals "len" = some none)
    (z_int : PySem.W.nsIn K mainGlobals "int" = some none)
    (z_str : PySem.W.nsIn K mainGlobals "str" = some none)
    (z_range : PySem.W.nsIn K mainGlobals "range" = some none)
    (z_dict : PySem.W.nsIn K mainGlobals "dict" = some none)
    (z_ValueError : PySem.W.nsIn K mainGlobals "ValueError" = some none)
    (aM : PySem.W.nsIn K mainGlobals "BadNumber" = some (some (.ref M)))
    (xM : K.lookup M = some (excClassObj nm0 q0 M N0 bs0 bm0 true sn0 sub0 ab0 col0 dd0 m0_0 m0_1 m0_2 m0_3 m0_5 "ValueError.__new__"))
    (bmM : PySem.HandSPX.refsVE bm0 = true)
    (saM : PySem.W.findIn K (.ref M) "__setattr__" = some (some (.builtin "object.__setattr__")))
    (eM : PySem.W.subIn K (.ref M) (.type "BaseException") = some true)
    (tM : PySem.W.typeIn K (.ref M) = some (.type "type"))
    (kM : PySem.W.keepIn K (.ref M) = true)
    (a0 : PySem.W.findIn K (.ref M) "__init__" = some (some (.ref f0)))
    (t0 : PySem.W.typeIn K (.ref f0) = some (.type "function"))
    (l0 : K.lookup f0 = some ⟨oc0, od0, .func ((supF "BadNumber.__init__" s_BadNumber___init__ cc0 cd0).fd dc0 pm0 ct0), sl0⟩)
    (c0 : PySem.W.codeIn K (.ref cd0) "BadNumber.__init__" = true)
    (lc0 : K.lookup cd0 = some ⟨ccl0, cdd0, .fields vs0, ccs0⟩)
    (v0 : vs0[2]? = some (.str file0 tf0))
    (fil0 : ((PySem.Challenge.pw_waysofmaking_k01_errors_by_class).main.file == file0) = true)
    (ll0 : K.lookup cc0 = some ⟨clc0, cld0, .cell (some (.ref M)), csl0⟩)
    (sbM : PySem.W.mroIn K M (.ref M) = some true)
    (suM : PySem.W.ks_superIn K M M "__init__" = some (some (.builtin "ValueError.__init__")))
    (svM : PySem.W.subIn K (.ref M) (.type "ValueError") = some true)
    (opM : PySem.W.nsIn K cStatics "thirdparty.any" = some none)
    (teM : PySem.W.exmOne K (.ref M) (.ref M) = some true)
    (nM_n : PySem.W.findIn K (.ref M) "n" = some none)
    (gaM : PySem.W.findIn K (.ref M) "__getattribute__" = some (some (.builtin "BaseException.__getattribute__")))
    (ggM : PySem.W.findIn K (.ref M) "__getattr__" = some none)
    (hdM : PySem.W.hasDictIn K M = true)
    (aT : PySem.W.nsIn K mainGlobals "BadText" = some (some (.ref T)))
    (xT : K.lookup T = some (excClassObj nm1 q1 T N1 bs1 bm1 true sn1 sub1 ab1 col1 dd1 m1_0 m1_1 m1_2 m1_3 m1_5 "ValueError.__new__"))
    (bmT : PySem.HandSPX.refsVE bm1 = true)
    (saT : PySem.W.findIn K (.ref T) "__setattr__" = some (some (.builtin "object.__setattr__")))
    (eT : PySem.W.subIn K (.ref T) (.type "BaseException") = some true)
    (tT : PySem.W.typeIn K (.ref T) = some (.type "type"))
    (kT : PySem.W.keepIn K (.ref T) = true)
    (a1 : PySem.W.findIn K (.ref T) "__init__" = some (some (.ref f1)))
    (t1 : PySem.W.typeIn K (.ref f1) = some (.type "function"))
    (l1 : K.lookup f1 = some ⟨oc1, od1, .func ((supF "BadText.__init__" s_BadText___init__ cc1 cd1).fd dc1 pm1 ct1), sl1⟩)
    (c1 : PySem.W.codeIn K (.ref cd1) "BadText.__init__" = true)
    (lc1 : K.lookup cd1 = some ⟨ccl1, cdd1, .fields vs1, ccs1⟩)
    (v1 : vs1[2]? = some (.str file1 tf1))
    (fil1 : ((PySem.Challenge.pw_waysofmaking_k01_errors_by_class).main.file == file1) = true)
    (ll1 : K.lookup cc1 = some ⟨clc1, cld1, .cell (some (.ref T)), csl1⟩)
    (sbT : PySem.W.mroIn K T (.ref T) = some true)
    (suT : PySem.W.ks_superIn K T T "__init__" = some (some (.builtin "ValueError.__init__")))
    (svT : PySem.W.subIn K (.ref T) (.type "ValueError") = some true)
    (opT : PySem.W.nsIn K cStatics "thirdparty.any" = some none)
    (teT : PySem.W.exmOne K (.ref T) (.ref T) = some true)
    (nT_at : PySem.W.findIn K (.ref T) "at" = some none)
    (gaT : PySem.W.findIn K (.ref T) "__getattribute__" = some (some (.builtin "BaseException.__getattribute__")))
    (ggT : PySem.W.findIn K (.ref T) "__getattr__" = some none)
    (hdT : PySem.W.hasDictIn K T = true)
    (aN : PySem.W.nsIn K mainGlobals "BadName" = some (some (.ref N)))
    (xN : K.lookup N = some (excClassObj nm2 q2 N N2 bs2 bm2 true sn2 sub2 ab2 col2 dd2 m2_0 m2_1 m2_2 m2_3 m2_5 "ValueError.__new__"))
    (bmN : PySem.HandSPX.refsVE bm2 = true)
    (saN : PySem.W.findIn K (.ref N) "__setattr__" = some (some (.builtin "object.__setattr__")))
    (eN : PySem.W.subIn K (.ref N) (.type "BaseException") = some true)
    (tN : PySem.W.typeIn K (.ref N) = some (.type "type"))
    (kN : PySem.W.keepIn K (.ref N) = true)
    (a2 : PySem.W.findIn K (.ref N) "__init__" = some (some (.ref f2)))
    (t2 : PySem.W.typeIn K (.ref f2) = some (.type "function"))
    (l2 : K.lookup f2 = some ⟨oc2, od2, .func ((supF "BadName.__init__" s_BadName___init__ cc2 cd2).fd dc2 pm2 ct2), sl2⟩)
    (c2 : PySem.W.codeIn K (.ref cd2) "BadName.__init__" = true)
    (lc2 : K.lookup cd2 = some ⟨ccl2, cdd2, .fields vs2, ccs2⟩)
    (v2 : vs2[2]? = some (.str file2 tf2))
    (fil2 : ((PySem.Challenge.pw_waysofmaking_k01_errors_by_class).main.file == file2) = true)
    (ll2 : K.lookup cc2 = some ⟨clc2, cld2, .cell (some (.ref N)), csl2⟩)
    (sbN : PySem.W.mroIn K N (.ref N) = some true)
    (suN : PySem.W.ks_superIn K N N "__init__" = some (some (.builtin "ValueError.__init__")))
    (svN : PySem.W.subIn K (.ref N) (.type "ValueError") = some true)
    (opN : PySem.W.nsIn K cStatics "thirdparty.any" = some none)
    (teN : PySem.W.exmOne K (.ref N) (.ref N) = some true)
    (nN_name : PySem.W.findIn K (.ref N) "name" = some none)
    (gaN : PySem.W.findIn K (.ref N) "__getattribute__" = some (some (.builtin "BaseException.__getattribute__")))
    (ggN : PySem.W.findIn K (.ref N) "__getattr__" = some none)
    (hdN : PySem.W.hasDictIn K N = true)
    (aD : PySem.W.nsIn K mainGlobals "DuplicateName" = some (some (.ref D)))
    (xD : K.lookup D = some (excClassObj nm3 q3 D N3 bs3 bm3 true sn3 sub3 ab3 col3 dd3 m3_0 m3_1 m3_2 m3_3 m3_5 "ValueError.__new__"))
    (bmD : PySem.HandSPX.refsVE bm3 = true)
    (saD : PySem.W.findIn K (.ref D) "__setattr__" = some (some (.builtin "object.__setattr__")))
    (eD : PySem.W.subIn K (.ref D) (.type "BaseException") = some true)
    (tD : PySem.W.typeIn K (.ref D) = some (.type "type"))
    (kD : PySem.W.keepIn K (.ref D) = true)
    (a3 : PySem.W.findIn K (.ref D) "__init__" = some (some (.ref f3)))
    (t3 : PySem.W.typeIn K (.ref f3) = some (.type "function"))
    (l3 : K.lookup f3 = some ⟨oc3, od3, .func ((supF "DuplicateName.__init__" s_DuplicateName___init__ cc3 cd3).fd dc3 pm3 ct3), sl3⟩)
    (c3 : PySem.W.codeIn K (.ref cd3) "DuplicateName.__init__" = true)
    (lc3 : K.lookup cd3 = some ⟨ccl3, cdd3, .fields vs3, ccs3⟩)
    (v3 : vs3[2]? = some (.str file3 tf3))
    (fil3 : ((PySem.Challenge.pw_waysofmaking_k01_errors_by_class).main.file == file3) = true)
    (ll3 : K.lookup cc3 = some ⟨clc3, cld3, .cell (some (.ref D)), csl3⟩)
    (sbD : PySem.W.mroIn K D (.ref D) = some true)
    (suD : PySem.W.ks_superIn K D D "__init__" = some (some (.builtin "ValueError.__init__")))
    (svD : PySem.W.subIn K (.ref D) (.type "ValueError") = some true)
    (opD : PySem.W.nsIn K cStatics "thirdparty.any" = some none)
    (teD : PySem.W.exmOne K (.ref D) (.ref D) = some true)
    (nD_name : PySem.W.findIn K (.ref D) "name" = some none)
    (gaD : PySem.W.findIn K (.ref D) "__getattribute__" = some (some (.builtin "BaseException.__getattribute__")))
    (ggD : PySem.W.findIn K (.ref D) "__getattr__" = some none)
    (hdD : PySem.W.hasDictIn K D = true)
    (aU : PySem.W.nsIn K mainGlobals "UnknownName" = some (some (.ref U)))
    (xU : K.lookup U = some (excClassObj nm4 q4 U N4 bs4 bm4 true sn4 sub4 ab4 col4 dd4 m4_0 m4_1 m4_2 m4_3 m4_5 "ValueError.__new__"))
    (bmU : PySem.HandSPX.refsVE bm4 = true)
    (saU : PySem.W.findIn K (.ref U) "__setattr__" = some (some (.builtin "object.__setattr__")))
    (eU : PySem.W.subIn K (.ref U) (.type "BaseException") = some true)
    (tU : PySem.W.typeIn K (.ref U) = some (.type "type"))
    (kU : PySem.W.keepIn K (.ref U) = true)
    (a4 : PySem.W.findIn K (.ref U) "__init__" = some (some (.ref f4)))
    (t4 : PySem.W.typeIn K (.ref f4) = some (.type "function"))
    (l4 : K.lookup f4 = some ⟨oc4, od4, .func ((supF "UnknownName.__init__" s_UnknownName___init__ cc4 cd4).fd dc4 pm4 ct4), sl4⟩)
    (c4 : PySem.W.codeIn K (.ref cd4) "UnknownName.__init__" = true)
    (lc4 : K.lookup cd4 = some ⟨ccl4, cdd4, .fields vs4, ccs4⟩)
    (v4 : vs4[2]? = some (.str file4 tf4))
    (fil4 : ((PySem.Challenge.pw_waysofmaking_k01_errors_by_class).main.file == file4) = true)
    (ll4 : K.lookup cc4 = some ⟨clc4, cld4, .cell (some (.ref U)), csl4⟩)
    (sbU : PySem.W.mroIn K U (.ref U) = some true)
    (suU : PySem.W.ks_superIn K U U "__init__" = some (some (.builtin "ValueError.__init__")))
    (svU : PySem.W.subIn K (.ref U) (.type "ValueError") = some true)
    (opU : PySem.W.nsIn K cStatics "thirdparty.any" = some none)
    (teU : PySem.W.exmOne K (.ref U) (.ref U) = some true)
    (nU_name : PySem.W.findIn K (.ref U) "name" = some none)
    (gaU : PySem.W.findIn K (.ref U) "__getattribute__" = some (some (.builtin "BaseException.__getattribute__")))
    (ggU : PySem.W.findIn K (.ref U) "__getattr__" = some none)
    (hdU : PySem.W.hasDictIn K U = true)
    (aV : PySem.W.nsIn K mainGlobals "BadWay" = some (some (.ref V)))
    (xV : K.lookup V = some (excClassObj nm5 q5 V N5 bs5 bm5 true sn5 sub5 ab5 col5 dd5 m5_0 m5_1 m5_2 m5_3 m5_5 "ValueError.__new__"))
    (bmV : PySem.HandSPX.refsVE bm5 = true)
    (saV : PySem.W.findIn K (.ref V) "__setattr__" = some (some (.builtin "object.__setattr__")))
    (eV : PySem.W.subIn K (.ref V) (.type "BaseException") = some true)
    (tV : PySem.W.typeIn K (.ref V) = some (.type "type"))
    (kV : PySem.W.keepIn K (.ref V) = true)
    (a5 : PySem.W.findIn K (.ref V) "__init__" = some (some (.ref f5)))
    (t5 : PySem.W.typeIn K (.ref f5) = some (.type "function"))
    (l5 : K.lookup f5 = some ⟨oc5, od5, .func ((supF "BadWay.__init__" s_BadWay___init__ cc5 cd5).fd dc5 pm5 ct5), sl5⟩)
    (c5 : PySem.W.codeIn K (.ref cd5) "BadWay.__init__" = true)
    (lc5 : K.lookup cd5 = some ⟨ccl5, cdd5, .fields vs5, ccs5⟩)
    (v5 : vs5[2]? = some (.str file5 tf5))
    (fil5 : ((PySem.Challenge.pw_waysofmaking_k01_errors_by_class).main.file == file5) = true)
    (ll5 : K.lookup cc5 = some ⟨clc5, cld5, .cell (some (.ref V)), csl5⟩)
    (sbV : PySem.W.mroIn K V (.ref V) = some true)
    (suV : PySem.W.ks_superIn K V V "__init__" = some (some (.builtin "ValueError.__init__")))
    (svV : PySem.W.subIn K (.ref V) (.type "ValueError") = some true)
    (opV : PySem.W.nsIn K cStatics "thirdparty.any" = some none)
    (teV : PySem.W.exmOne K (.ref V) (.ref V) = some true)
    (nV_at : PySem.W.findIn K (.ref V) "at" = some none)
    (gaV : PySem.W.findIn K (.ref V) "__getattribute__" = some (some (.builtin "BaseException.__getattribute__")))
    (ggV : PySem.W.findIn K (.ref V) "__getattr__" = some none)
    (hdV : PySem.W.hasDictIn K V = true)
    (aB : PySem.W.nsIn K mainGlobals "NotPlain" = some (some (.ref B)))
    (xB : K.lookup B = some (excClassObj nm6 q6 B N6 bs6 bm6 true sn6 sub6 ab6 col6 dd6 m6_0 m6_1 m6_2 m6_3 m6_5 "ValueError.__new__"))
    (bmB : PySem.HandSPX.refsVE bm6 = true)
    (saB : PySem.W.findIn K (.ref B) "__setattr__" = some (some (.builtin "object.__setattr__")))
    (eB : PySem.W.subIn K (.ref B) (.type "BaseException") = some true)
    (tB : PySem.W.typeIn K (.ref B) = some (.type "type"))
    (kB : PySem.W.keepIn K (.ref B) = true)
    (a6 : PySem.W.findIn K (.ref B) "__init__" = some (some (.ref f6)))
    (t6 : PySem.W.typeIn K (.ref f6) = some (.type "function"))
    (l6 : K.lookup f6 = some ⟨oc6, od6, .func ((supF "NotPlain.__init__" s_NotPlain___init__ cc6 cd6).fd dc6 pm6 ct6), sl6⟩)
    (c6 : PySem.W.codeIn K (.ref cd6) "NotPlain.__init__" = true)
    (lc6 : K.lookup cd6 = some ⟨ccl6, cdd6, .fields vs6, ccs6⟩)
    (v6 : vs6[2]? = some (.str file6 tf6))
    (fil6 : ((PySem.Challenge.pw_waysofmaking_k01_errors_by_class).main.file == file6) = true)
    (ll6 : K.lookup cc6 = some ⟨clc6, cld6, .cell (some (.ref B)), csl6⟩)
    (sbB : PySem.W.mroIn K B (.ref B) = some true)
    (suB : PySem.W.ks_superIn K B B "__init__" = some (some (.builtin "ValueError.__init__")))
    (svB : PySem.W.subIn K (.ref B) (.type "ValueError") = some true)
    (opB : PySem.W.nsIn K cStatics "thirdparty.any" = some none)
    (teB : PySem.W.exmOne K (.ref B) (.ref B) = some true)
    (nB_at : PySem.W.findIn K (.ref B) "at" = some none)
    (gaB : PySem.W.findIn K (.ref B) "__getattribute__" = some (some (.builtin "BaseException.__getattribute__")))
    (ggB : PySem.W.findIn K (.ref B) "__getattr__" = some none)
    (hdB : PySem.W.hasDictIn K B = true)
    (aQ : PySem.W.nsIn K mainGlobals "NoPlan" = some (some (.ref Q)))
    (xQ : K.lookup Q = some (excClassObj nm7 q7 Q N7 bs7 bm7 true sn7 sub7 ab7 col7 dd7 m7_0 m7_1 m7_2 m7_3 m7_5 "ValueError.__new__"))
    (bmQ : PySem.HandSPX.refsVE bm7 = true)
    (saQ : PySem.W.findIn K (.ref Q) "__setattr__" = some (some (.builtin "object.__setattr__")))
    (eQ : PySem.W.subIn K (.ref Q) (.type "BaseException") = some true)
    (tQ : PySem.W.typeIn K (.ref Q) = some (.type "type"))
    (kQ : PySem.W.keepIn K (.ref Q) = true)
    (a7 : PySem.W.findIn K (.ref Q) "__init__" = some (some (.ref f7)))
    (t7 : PySem.W.typeIn K (.ref f7) = some (.type "function"))
    (l7 : K.lookup f7 = some ⟨oc7, od7, .func ((supF "NoPlan.__init__" s_NoPlan___init__ cc7 cd7).fd dc7 pm7 ct7), sl7⟩)
    (c7 : PySem.W.codeIn K (.ref cd7) "NoPlan.__init__" = true)
    (lc7 : K.lookup cd7 = some ⟨ccl7, cdd7, .fields vs7, ccs7⟩)
    (v7 : vs7[2]? = some (.str file7 tf7))
    (fil7 : ((PySem.Challenge.pw_waysofmaking_k01_errors_by_class).main.file == file7) = true)
    (ll7 : K.lookup cc7 = some ⟨clc7, cld7, .cell (some (.ref Q)), csl7⟩)
    (sbQ : PySem.W.mroIn K Q (.ref Q) = some true)
    (suQ : PySem.W.ks_superIn K Q Q "__init__" = some (some (.builtin "ValueError.__init__")))
    (svQ : PySem.W.subIn K (.ref Q) (.type "ValueError") = some true)
    (opQ : PySem.W.nsIn K cStatics "thirdparty.any" = some none)
    (teQ : PySem.W.exmOne K (.ref Q) (.ref Q) = some true)
    (nQ_prices : PySem.W.findIn K (.ref Q) "prices" = some none)
    (gaQ : PySem.W.findIn K (.ref Q) "__getattribute__" = some (some (.builtin "BaseException.__getattribute__")))
    (ggQ : PySem.W.findIn K (.ref Q) "__getattr__" = some none)
    (hdQ : PySem.W.hasDictIn K Q = true)
    (aS : PySem.W.nsIn K mainGlobals "NothingToShow" = some (some (.ref S)))
    (xS : K.lookup S = some (excClassObj nm8 q8 S N8 bs8 bm8 true sn8 sub8 ab8 col8 dd8 m8_0 m8_1 m8_2 m8_3 m8_5 "ValueError.__new__"))
    (bmS : PySem.HandSPX.refsVE bm8 = true)
    (saS : PySem.W.findIn K (.ref S) "__setattr__" = some (some (.builtin "object.__setattr__")))
    (eS : PySem.W.subIn K (.ref S) (.type "BaseException") = some true)
    (tS : PySem.W.typeIn K (.ref S) = some (.type "type"))
    (kS : PySem.W.keepIn K (.ref S) = true)
    (a8 : PySem.W.findIn K (.ref S) "__init__" = some (some (.ref f8)))
    (t8 : PySem.W.typeIn K (.ref f8) = some (.type "function"))
    (l8 : K.lookup f8 = some ⟨oc8, od8, .func ((supF "NothingToShow.__init__" s_NothingToShow___init__ cc8 cd8).fd dc8 pm8 ct8), sl8⟩)
    (c8 : PySem.W.codeIn K (.ref cd8) "NothingToShow.__init__" = true)
    (lc8 : K.lookup cd8 = some ⟨ccl8, cdd8, .fields vs8, ccs8⟩)
    (v8 : vs8[2]? = some (.str file8 tf8))
    (fil8 : ((PySem.Challenge.pw_waysofmaking_k01_errors_by_class).main.file == file8) = true)
    (ll8 : K.lookup cc8 = some ⟨clc8, cld8, .cell (some (.ref S)), csl8⟩)
    (sbS : PySem.W.mroIn K S (.ref S) = some true)
    (suS : PySem.W.ks_superIn K S S "__init__" = some (some (.builtin "ValueError.__init__")))
    (svS : PySem.W.subIn K (.ref S) (.type "ValueError") = some true)
    (opS : PySem.W.nsIn K cStatics "thirdparty.any" = some none)
    (teS : PySem.W.exmOne K (.ref S) (.ref S) = some true)
    (gaS : PySem.W.findIn K (.ref S) "__getattribute__" = some (some (.builtin "BaseException.__getattribute__")))
    (ggS : PySem.W.findIn K (.ref S) "__getattr__" = some none)
    (hdS : PySem.W.hasDictIn K S = true)
    (aZ : PySem.W.nsIn K mainGlobals "NothingToUndo" = some (some (.ref Z)))
    (xZ : K.lookup Z = some (excClassObj nm9 q9 Z N9 bs9 bm9 true sn9 sub9 ab9 col9 dd9 m9_0 m9_1 m9_2 m9_3 m9_5 "ValueError.__new__"))
    (bmZ : PySem.HandSPX.refsVE bm9 = true)
    (saZ : PySem.W.findIn K (.ref Z) "__setattr__" = some (some (.builtin "object.__setattr__")))
    (eZ : PySem.W.subIn K (.ref Z) (.type "BaseException") = some true)
    (tZ : PySem.W.typeIn K (.ref Z) = some (.type "type"))
    (kZ : PySem.W.keepIn K (.ref Z) = true)
    (a9 : PySem.W.findIn K (.ref Z) "__init__" = some (some (.ref f9)))
    (t9 : PySem.W.typeIn K (.ref f9) = some (.type "function"))
    (l9 : K.lookup f9 = some ⟨oc9, od9, .func ((supF "NothingToUndo.__init__" s_NothingToUndo___init__ cc9 cd9).fd dc9 pm9 ct9), sl9⟩)
    (c9 : PySem.W.codeIn K (.ref cd9) "NothingToUndo.__init__" = true)
    (lc9 : K.lookup cd9 = some ⟨ccl9, cdd9, .fields vs9, ccs9⟩)
    (v9 : vs9[2]? = some (.str file9 tf9))
    (fil9 : ((PySem.Challenge.pw_waysofmaking_k01_errors_by_class).main.file == file9) = true)
    (ll9 : K.lookup cc9 = some ⟨clc9, cld9, .cell (some (.ref Z)), csl9⟩)
    (sbZ : PySem.W.mroIn K Z (.ref Z) = some true)
    (suZ : PySem.W.ks_superIn K Z Z "__init__" = some (some (.builtin "ValueError.__init__")))
    (svZ : PySem.W.subIn K (.ref Z) (.type "ValueError") = some true)
    (opZ : PySem.W.nsIn K cStatics "thirdparty.any" = some none)
    (teZ : PySem.W.exmOne K (.ref Z) (.ref Z) = some true)
    (gaZ : PySem.W.findIn K (.ref Z) "__getattribute__" = some (some (.builtin "BaseException.__getattribute__")))
    (ggZ : PySem.W.findIn K (.ref Z) "__getattr__" = some none)
    (hdZ : PySem.W.hasDictIn K Z = true)
    (aR : PySem.W.nsIn K mainGlobals "Ratio" = some (some (.ref R)))
    (kcR : PySem.W.keepIn K (.ref R) = true)
    (mkR : PySem.W.makesIn K R = true)
    (pgR : PySem.W.plainGet K R Str.empty = true)
    (hdR : PySem.W.hasDictIn K R = true)
    (poR : PySem.W.plainOver K R = true)
    (saR : PySem.W.findIn K (.ref R) "__setattr__" = some (some (.builtin "object.__setattr__")))
    (sfR : PySem.W.selfFirst K R = true)
    (caR : PySem.W.findIn K (.ref R) "__class__" = some (some (.builtin "object.__class__")))
    (cnR : PySem.W.specialIn K (.builtin "object.__class__") "__get__" = some (some (.builtin "getset_descriptor.__get__")))
    (ctR : PySem.W.takesIn K (.builtin "object.__class__") = some true)
    (cmR : PySem.W.mroIn K R (.type "object") = some true)
    (nR_top : PySem.W.findIn K (.ref R) "top" = some none)
    (nR_bottom : PySem.W.findIn K (.ref R) "bottom" = some none)
    (nfR : PySem.W.notFirst K R (.ref R) = true)
    (nfI : PySem.W.notFirst K R (.type "int") = true)
    (nfS : PySem.W.notFirst K R (.type "str") = true)
    (ksI : PySem.W.kitOne K (.type "int") (.ref R) = some false)
    (ksS : PySem.W.kitOne K (.type "str") (.ref R) = some false)
    (fmR : PySem.W.findIn K (.ref R) "__format__" = some (some (.builtin "object.__format__")))
    (a10 : PySem.W.nsIn K mainGlobals "common" = some (some (.ref f10)))
    (l10 : K.lookup f10 = some ⟨oc10, od10, .func (PySem.W.fnOf "common" "common" (defArgs s_common) (defBody s_common) (defScope s_common) .none kV10 dc10 pm10 an10 cd10 ct10), sl10⟩)
    (c10 : PySem.W.codeIn K cd10 "common" = true)
    (k10 : PySem.W.keepIn K (.ref f10) = true)
    (a11 : PySem.W.findIn K (.ref R) "__init__" = some (some (.ref f11)))
    (i11 : PySem.W.isFn K (.ref f11) = true)
    (l11 : K.lookup f11 = some ⟨oc11, od11, .func (PySem.W.fnOf "__init__" "Ratio.__init__" (defArgs s_Ratio___init__) (defBody s_Ratio___init__) (defScope s_Ratio___init__) .none kV11 dc11 pm11 an11 cd11 ct11), sl11⟩)
    (c11 : PySem.W.codeIn K cd11 "Ratio.__init__" = true)
    (k11 : PySem.W.keepIn K (.ref f11) = true)
    (a12 : PySem.W.findIn K (.ref R) "__eq__" = some (some (.ref f12)))
    (i12 : PySem.W.isFn K (.ref f12) = true)
    (l12 : K.lookup f12 = some ⟨oc12, od12, .func (PySem.W.fnOf "__eq__" "Ratio.__eq__" (defArgs s_Ratio___eq__) (defBody s_Ratio___eq__) (defScope s_Ratio___eq__) .none kV12 dc12 pm12 an12 cd12 ct12), sl12⟩)
    (c12 : PySem.W.codeIn K cd12 "Ratio.__eq__" = true)
    (k12 : PySem.W.keepIn K (.ref f12) = true)
    (a13 : PySem.W.findIn K (.ref R) "__str__" = some (some (.ref f13)))
    (i13 : PySem.W.isFn K (.ref f13) = true)
    (l13 : K.lookup f13 = some ⟨oc13, od13, .func (PySem.W.fnOf "__str__" "Ratio.__str__" (defArgs s_Ratio___str__) (defBody s_Ratio___str__) (defScope s_Ratio___str__) .none kV13 dc13 pm13 an13 cd13 ct13), sl13⟩)
    (c13 : PySem.W.codeIn K cd13 "Ratio.__str__" = true)
    (k13 : PySem.W.keepIn K (.ref f13) = true)
    (aA : PySem.W.nsIn K mainGlobals "MakeError" = some (some (.ref A)))
    (caM : PySem.W.findIn K (.ref M) "__class__" = some (some (.builtin "object.__class__")))
    (moM : PySem.W.mroIn K M (.type "object") = some true)
    (kaM : PySem.W.kitOne K (.ref M) (.ref A) = some true)
    (kvM : PySem.W.kitOne K (.ref M) (.type "ValueError") = some true)
    (kkMM : PySem.W.kitOne K (.ref M) (.ref M) = some true)
    (kkMT : PySem.W.kitOne K (.ref M) (.ref T) = some false)
    (kkMN : PySem.W.kitOne K (.ref M) (.ref N) = some false)
    (kkMD : PySem.W.kitOne K (.ref M) (.ref D) = some false)
    (kkMU : PySem.W.kitOne K (.ref M) (.ref U) = some false)
    (kkMV : PySem.W.kitOne K (.ref M) (.ref V) = some false)
    (kkMB : PySem.W.kitOne K (.ref M) (.ref B) = some false)
    (kkMQ : PySem.W.kitOne K (.ref M) (.ref Q) = some false)
    (kkMS : PySem.W.kitOne K (.ref M) (.ref S) = some false)
    (kkMZ : PySem.W.kitOne K (.ref M) (.ref Z) = some false)
    (caT : PySem.W.findIn K (.ref T) "__class__" = some (some (.builtin "object.__class__")))
    (moT : PySem.W.mroIn K T (.type "object") = some true)
    (kaT : PySem.W.kitOne K (.ref T) (.ref A) = some true)
    (kvT : PySem.W.kitOne K (.ref T) (.type "ValueError") = some true)
    (kkTM : PySem.W.kitOne K (.ref T) (.ref M) = some false)
    (kkTT : PySem.W.kitOne K (.ref T) (.ref T) = some true)
    (kkTN : PySem.W.kitOne K (.ref T) (.ref N) = some false)
    (kkTD : PySem.W.kitOne K (.ref T) (.ref D) = some false)
    (kkTU : PySem.W.kitOne K (.ref T) (.ref U) = some false)
    (kkTV : PySem.W.kitOne K (.ref T) (.ref V) = some false)
    (kkTB : PySem.W.kitOne K (.ref T) (.ref B) = some false)
    (kkTQ : PySem.W.kitOne K (.ref T) (.ref Q) = some false)
    (kkTS : PySem.W.kitOne K (.ref T) (.ref S) = some false)
    (kkTZ : PySem.W.kitOne K (.ref T) (.ref Z) = some false)
    (caN : PySem.W.findIn K (.ref N) "__class__" = some (some (.builtin "object.__class__")))
    (moN : PySem.W.mroIn K N (.type "object") = some true)
    (kaN : PySem.W.kitOne K (.ref N) (.ref A) = some true)
    (kvN : PySem.W.kitOne K (.ref N) (.type "ValueError") = some true)
    (kkNM : PySem.W.kitOne K (.ref N) (.ref M) = some false)
    (kkNT : PySem.W.kitOne K (.ref N) (.ref T) = some false)
    (kkNN : PySem.W.kitOne K (.ref N) (.ref N) = some true)
    (kkND : PySem.W.kitOne K (.ref N) (.ref D) = some false)
    (kkNU : PySem.W.kitOne K (.ref N) (.ref U) = some false)
    (kkNV : PySem.W.kitOne K (.ref N) (.ref V) = some false)
    (kkNB : PySem.W.kitOne K (.ref N) (.ref B) = some false)
    (kkNQ : PySem.W.kitOne K (.ref N) (.ref Q) = some false)
    (kkNS : PySem.W.kitOne K (.ref N) (.ref S) = some false)
    (kkNZ : PySem.W.kitOne K (.ref N) (.ref Z) = some false)
    (caD : PySem.W.findIn K (.ref D) "__class__" = some (some (.builtin "object.__class__")))
    (moD : PySem.W.mroIn K D (.type "object") = some true)
    (kaD : PySem.W.kitOne K (.ref D) (.ref A) = some true)
    (kvD : PySem.W.kitOne K (.ref D) (.type "ValueError") = some true)
    (kkDM : PySem.W.kitOne K (.ref D) (.ref M) = some false)
    (kkDT : PySem.W.kitOne K (.ref D) (.ref T) = some false)
    (kkDN : PySem.W.kitOne K (.ref D) (.ref N) = some false)
    (kkDD : PySem.W.kitOne K (.ref D) (.ref D) = some true)
    (kkDU : PySem.W.kitOne K (.ref D) (.ref U) = some false)
    (kkDV : PySem.W.kitOne K (.ref D) (.ref V) = some false)
    (kkDB : PySem.W.kitOne K (.ref D) (.ref B) = some false)
    (kkDQ : PySem.W.kitOne K (.ref D) (.ref Q) = some false)
    (kkDS : PySem.W.kitOne K (.ref D) (.ref S) = some false)
    (kkDZ : PySem.W.kitOne K (.ref D) (.ref Z) = some false)
    (caU : PySem.W.findIn K (.ref U) "__class__" = some (some (.builtin "object.__class__")))
    (moU : PySem.W.mroIn K U (.type "object") = some true)
    (kaU : PySem.W.kitOne K (.ref U) (.ref A) = some true)
    (kvU : PySem.W.kitOne K (.ref U) (.type "ValueError") = some true)
    (kkUM : PySem.W.kitOne K (.ref U) (.ref M) = some false)
    (kkUT : PySem.W.kitOne K (.ref U) (.ref T) = some false)
    (kkUN : PySem.W.kitOne K (.ref U) (.ref N) = some false)
    (kkUD : PySem.W.kitOne K (.ref U) (.ref D) = some false)
    (kkUU : PySem.W.kitOne K (.ref U) (.ref U) = some true)
    (kkUV : PySem.W.kitOne K (.ref U) (.ref V) = some false)
    (kkUB : PySem.W.kitOne K (.ref U) (.ref B) = some false)
    (kkUQ : PySem.W.kitOne K (.ref U) (.ref Q) = some false)
    (kkUS : PySem.W.kitOne K (.ref U) (.ref S) = some false)
    (kkUZ : PySem.W.kitOne K (.ref U) (.ref Z) = some false)
    (caV : PySem.W.findIn K (.ref V) "__class__" = some (some (.builtin "object.__class__")))
    (moV : PySem.W.mroIn K V (.type "object") = some true)
    (kaV : PySem.W.kitOne K (.ref V) (.ref A) = some true)
    (kvV : PySem.W.kitOne K (.ref V) (.type "ValueError") = some true)
    (kkVM : PySem.W.kitOne K (.ref V) (.ref M) = some false)
    (kkVT : PySem.W.kitOne K (.ref V) (.ref T) = some false)
    (kkVN : PySem.W.kitOne K (.ref V) (.ref N) = some false)
    (kkVD : PySem.W.kitOne K (.ref V) (.ref D) = some false)
    (kkVU : PySem.W.kitOne K (.ref V) (.ref U) = some false)
    (kkVV : PySem.W.kitOne K (.ref V) (.ref V) = some true)
    (kkVB : PySem.W.kitOne K (.ref V) (.ref B) = some false)
    (kkVQ : PySem.W.kitOne K (.ref V) (.ref Q) = some false)
    (kkVS : PySem.W.kitOne K (.ref V) (.ref S) = some false)
    (kkVZ : PySem.W.kitOne K (.ref V) (.ref Z) = some false)
    (caB : PySem.W.findIn K (.ref B) "__class__" = some (some (.builtin "object.__class__")))
    (moB : PySem.W.mroIn K B (.type "object") = some true)
    (kaB : PySem.W.kitOne K (.ref B) (.ref A) = some true)
    (kvB : PySem.W.kitOne K (.ref B) (.type "ValueError") = some true)
    (kkBM : PySem.W.kitOne K (.ref B) (.ref M) = some false)
    (kkBT : PySem.W.kitOne K (.ref B) (.ref T) = some false)
    (kkBN : PySem.W.kitOne K (.ref B) (.ref N) = some false)
    (kkBD : PySem.W.kitOne K (.ref B) (.ref D) = some false)
    (kkBU : PySem.W.kitOne K (.ref B) (.ref U) = some false)
    (kkBV : PySem.W.kitOne K (.ref B) (.ref V) = some false)
    (kkBB : PySem.W.kitOne K (.ref B) (.ref B) = some true)
    (kkBQ : PySem.W.kitOne K (.ref B) (.ref Q) = some false)
    (kkBS : PySem.W.kitOne K (.ref B) (.ref S) = some false)
    (kkBZ : PySem.W.kitOne K (.ref B) (.ref Z) = some false)
    (caQ : PySem.W.findIn K (.ref Q) "__class__" = some (some (.builtin "object.__class__")))
    (moQ : PySem.W.mroIn K Q (.type "object") = some true)
    (kaQ : PySem.W.kitOne K (.ref Q) (.ref A) = some true)
    (kvQ : PySem.W.kitOne K (.ref Q) (.type "ValueError") = some true)
    (kkQM : PySem.W.kitOne K (.ref Q) (.ref M) = some false)
    (kkQT : PySem.W.kitOne K (.ref Q) (.ref T) = some false)
    (kkQN : PySem.W.kitOne K (.ref Q) (.ref N) = some false)
    (kkQD : PySem.W.kitOne K (.ref Q) (.ref D) = some false)
    (kkQU : PySem.W.kitOne K (.ref Q) (.ref U) = some false)
    (kkQV : PySem.W.kitOne K (.ref Q) (.ref V) = some false)
    (kkQB : PySem.W.kitOne K (.ref Q) (.ref B) = some false)
    (kkQQ : PySem.W.kitOne K (.ref Q) (.ref Q) = some true)
    (kkQS : PySem.W.kitOne K (.ref Q) (.ref S) = some false)
    (kkQZ : PySem.W.kitOne K (.ref Q) (.ref Z) = some false)
    (caS : PySem.W.findIn K (.ref S) "__class__" = some (some (.builtin "object.__class__")))
    (moS : PySem.W.mroIn K S (.type "object") = some true)
    (kaS : PySem.W.kitOne K (.ref S) (.ref A) = some true)
    (kvS : PySem.W.kitOne K (.ref S) (.type "ValueError") = some true)
    (kkSM : PySem.W.kitOne K (.ref S) (.ref M) = some false)
    (kkST : PySem.W.kitOne K (.ref S) (.ref T) = some false)
    (kkSN : PySem.W.kitOne K (.ref S) (.ref N) = some false)
    (kkSD : PySem.W.kitOne K (.ref S) (.ref D) = some false)
    (kkSU : PySem.W.kitOne K (.ref S) (.ref U) = some false)
    (kkSV : PySem.W.kitOne K (.ref S) (.ref V) = some false)
    (kkSB : PySem.W.kitOne K (.ref S) (.ref B) = some false)
    (kkSQ : PySem.W.kitOne K (.ref S) (.ref Q) = some false)
    (kkSS : PySem.W.kitOne K (.ref S) (.ref S) = some true)
    (kkSZ : PySem.W.kitOne K (.ref S) (.ref Z) = some false)
    (caZ : PySem.W.findIn K (.ref Z) "__class__" = some (some (.builtin "object.__class__")))
    (moZ : PySem.W.mroIn K Z (.type "object") = some true)
    (kaZ : PySem.W.kitOne K (.ref Z) (.ref A) = some true)
    (kvZ : PySem.W.kitOne K (.ref Z) (.type "ValueError") = some true)
    (kkZM : PySem.W.kitOne K (.ref Z) (.ref M) = some false)
    (kkZT : PySem.W.kitOne K (.ref Z) (.ref T) = some false)
    (kkZN : PySem.W.kitOne K (.ref Z) (.ref N) = some false)
    (kkZD : PySem.W.kitOne K (.ref Z) (.ref D) = some false)
    (kkZU : PySem.W.kitOne K (.ref Z) (.ref U) = some false)
    (kkZV : PySem.W.kitOne K (.ref Z) (.ref V) = some false)
    (kkZB : PySem.W.kitOne K (.ref Z) (.ref B) = some false)
    (kkZQ : PySem.W.kitOne K (.ref Z) (.ref Q) = some false)
    (kkZS : PySem.W.kitOne K (.ref Z) (.ref S) = some false)
    (kkZZ : PySem.W.kitOne K (.ref Z) (.ref Z) = some true)
    (a14 : PySem.W.nsIn K mainGlobals "_law_bag" = some (some (.ref f14)))
    (l14 : K.lookup f14 = some ⟨oc14, od14, .func (PySem.W.fnOf "_law_bag" "_law_bag" (defArgs s__law_bag) (defBody s__law_bag) (defScope s__law_bag) .none kV14 dc14 pm14 an14 cd14 ct14), sl14⟩)
    (c14 : PySem.W.codeIn K cd14 "_law_bag" = true)
    (k14 : PySem.W.keepIn K (.ref f14) = true)
    (a15 : PySem.W.nsIn K mainGlobals "_law_at" = some (some (.ref f15)))
    (l15 : K.lookup f15 = some ⟨oc15, od15, .func (PySem.W.fnOf "_law_at" "_law_at" (defArgs s__law_at) (defBody s__law_at) (defScope s__law_at) .none kV15 dc15 pm15 an15 cd15 ct15), sl15⟩)
    (c15 : PySem.W.codeIn K cd15 "_law_at" = true)
    (k15 : PySem.W.keepIn K (.ref f15) = true)
    (a16 : PySem.W.nsIn K mainGlobals "_law_draw" = some (some (.ref f16)))
    (l16 : K.lookup f16 = some ⟨oc16, od16, .func (PySem.W.fnOf "_law_draw" "_law_draw" (defArgs s__law_draw) (defBody s__law_draw) (defScope s__law_draw) .none kV16 dc16 pm16 an16 cd16 ct16), sl16⟩)
    (c16 : PySem.W.codeIn K cd16 "_law_draw" = true)
    (k16 : PySem.W.keepIn K (.ref f16) = true)
    (a17 : PySem.W.nsIn K mainGlobals "_law_kinds" = some (some (.ref f17)))
    (l17 : K.lookup f17 = some ⟨oc17, od17, .func (PySem.W.fnOf "_law_kinds" "_law_kinds" (defArgs s__law_kinds) (defBody s__law_kinds) (defScope s__law_kinds) .none kV17 dc17 pm17 an17 cd17 ct17), sl17⟩)
    (c17 : PySem.W.codeIn K cd17 "_law_kinds" = true)
    (k17 : PySem.W.keepIn K (.ref f17) = true)
    (a18 : PySem.W.nsIn K mainGlobals "_law_named" = some (some (.ref f18)))
    (l18 : K.lookup f18 = some ⟨oc18, od18, .func (PySem.W.fnOf "_law_named" "_law_named" (defArgs s__law_named) (defBody s__law_named) (defScope s__law_named) .none kV18 dc18 pm18 an18 cd18 ct18), sl18⟩)
    (c18 : PySem.W.codeIn K cd18 "_law_named" = true)
    (k18 : PySem.W.keepIn K (.ref f18) = true)
    (a19 : PySem.W.nsIn K mainGlobals "_law_priced" = some (some (.ref f19)))
    (l19 : K.lookup f19 = some ⟨oc19, od19, .func (PySem.W.fnOf "_law_priced" "_law_priced" (defArgs s__law_priced) (defBody s__law_priced) (defScope s__law_priced) .none kV19 dc19 pm19 an19 cd19 ct19), sl19⟩)
    (c19 : PySem.W.codeIn K cd19 "_law_priced" = true)
    (k19 : PySem.W.keepIn K (.ref f19) = true)
    (a20 : PySem.W.nsIn K mainGlobals "_law_made" = some (some (.ref f20)))
    (l20 : K.lookup f20 = some ⟨oc20, od20, .func (PySem.W.fnOf "_law_made" "_law_made" (defArgs s__law_made) (defBody s__law_made) (defScope s__law_made) .none kV20 dc20 pm20 an20 cd20 ct20), sl20⟩)
    (c20 : PySem.W.codeIn K cd20 "_law_made" = true)
    (k20 : PySem.W.keepIn K (.ref f20) = true)
    (a21 : PySem.W.nsIn K mainGlobals "law" = some (some (.ref f21)))
    (l21 : K.lookup f21 = some ⟨oc21, od21, .func (PySem.W.fnOf "law" "law" (defArgs s_law) (defBody s_law) (defScope s_law) .none kV21 dc21 pm21 an21 cd21 ct21), sl21⟩)
    (c21 : PySem.W.codeIn K cd21 "law" = true)
    (k21 : PySem.W.keepIn K (.ref f21) = true) :
    ∃ fd : FuncData, (∀ (s : Shared) (v : Value), BindsTo s fd ⟨[v], []⟩ [("_law_script", v)]) ∧ ∀ base : Heap, K.In base → base.Ns mainGlobals mg → FnOk PySem.Challenge.pw_waysofmaking_k01_errors_by_class w K mg base (L2.CX PySem.Challenge.pw_waysofmaking_k01_errors_by_class w) 9 fa fd P_law (spM (pLaw K)) := by
  have e := hfa.symm.trans (PySem.W.mg_of X G a21)
  cases e
  refine ⟨PySem.W.fnOf "law" "law" (defArgs s_law) (defBody s_law) (defScope s_law) .none kV21 dc21 pm21 an21 cd21 ct21, fun s v => .of_eq rfl, fun base _ _ => ?_⟩
  have htop : ((PySem.Challenge.pw_waysofmaking_k01_errors_by_class).main.scope.names.lookup ("super" : Str)).isSome = false := by decide +kernel
  have xfM : XfC K M := ⟨gaM, ggM, eM, hdM⟩
  have scM : SupC PySem.Challenge.pw_waysofmaking_k01_errors_by_class K mg "BadNumber" "BadNumber.__init__" s_BadNumber___init__ M f0 cc0 cd0 := ⟨⟨⟨_, _, _, _, _, _, _, _, _, _, _, _, _, _, _, xM, bmM⟩, saM, eM, tM, kM⟩, PySem.W.mg_of X G aM, a0, t0, ⟨_, _, _, _, _, _, l0⟩, c0, ⟨_, _, _, _, _, _, lc0, v0, fil0⟩, ⟨_, _, _, ll0⟩, sbM, PySem.W.mg_none_of X G z_super, suM, svM, opM, htop, teM⟩
  have T_BadNumber : Ke PySem.Challenge.pw_waysofmaking_k01_errors_by_class w K mg base M "BadNumber" "n" 1 prInt := kE_BadNumber scM nM_n
  have xfT : XfC K T := ⟨gaT, ggT, eT, hdT⟩
  have scT : SupC PySem.Challenge.pw_waysofmaking_k01_errors_by_class K mg "BadText" "BadText.__init__" s_BadText___init__ T f1 cc1 cd1 := ⟨⟨⟨_, _, _, _, _, _, _, _, _, _, _, _, _, _, _, xT, bmT⟩, saT, eT, tT, kT⟩, PySem.W.mg_of X G aT, a1, t1, ⟨_, _, _, _, _, _, l1⟩, c1, ⟨_, _, _, _, _, _, lc1, v1, fil1⟩, ⟨_, _, _, ll1⟩, sbT, PySem.W.mg_none_of X G z_super, suT, svT, opT, htop, teT⟩
  have T_BadText : Ke PySem.Challenge.pw_waysofmaking_k01_errors_by_class w K mg base T "BadText" "at" 1 prInt := kE_BadText scT nT_at
  have xfN : XfC K N := ⟨gaN, ggN, eN, hdN⟩
  have scN : SupC PySem.Challenge.pw_waysofmaking_k01_errors_by_class K mg "BadName" "BadName.__init__" s_BadName___init__ N f2 cc2 cd2 := ⟨⟨⟨_, _, _, _, _, _, _, _, _, _, _, _, _, _, _, xN, bmN⟩, saN, eN, tN, kN⟩, PySem.W.mg_of X G aN, a2, t2, ⟨_, _, _, _, _, _, l2⟩, c2, ⟨_, _, _, _, _, _, lc2, v2, fil2⟩, ⟨_, _, _, ll2⟩, sbN, PySem.W.mg_none_of X G z_super, suN, svN, opN, htop, teN⟩
  have T_BadName : Ke PySem.Challenge.pw_waysofmaking_k01_errors_by_class w K mg base N "BadName" "name" 1 prStr := kE_BadName scN nN_name
  have xfD : XfC K D := ⟨gaD, ggD, eD, hdD⟩
  have scD : SupC PySem.Challenge.pw_waysofmaking_k01_errors_by_class K mg "DuplicateName" "DuplicateName.__init__" s_DuplicateName___init__ D f3 cc3 cd3 := ⟨⟨⟨_, _, _, _, _, _, _, _, _, _, _, _, _, _, _, xD, bmD⟩, saD, eD, tD, kD⟩, PySem.W.mg_of X G aD, a3, t3, ⟨_, _, _, _, _, _, l3⟩, c3, ⟨_, _, _, _, _, _, lc3, v3, fil3⟩, ⟨_, _, _, ll3⟩, sbD, PySem.W.mg_none_of X G z_super, suD, svD, opD, htop, teD⟩
  have T_DuplicateName : Ke PySem.Challenge.pw_waysofmaking_k01_errors_by_class w K mg base D "DuplicateName" "name" 1 prStr := kE_DuplicateName scD nD_name
  have xfU : XfC K U := ⟨gaU, ggU, eU, hdU⟩
  have scU : SupC PySem.Challenge.pw_waysofmaking_k01_errors_by_class K mg "UnknownName" "UnknownName.__init__" s_UnknownName___init__ U f4 cc4 cd4 := ⟨⟨⟨_, _, _, _, _, _, _, _, _, _, _, _, _, _, _, xU, bmU⟩, saU, eU, tU, kU⟩, PySem.W.mg_of X G aU, a4, t4, ⟨_, _, _, _, _, _, l4⟩, c4, ⟨_, _, _, _, _, _, lc4, v4, fil4⟩, ⟨_, _, _, ll4⟩, sbU, PySem.W.mg_none_of X G z_super, suU, svU, opU, htop, teU⟩
  have T_UnknownName : Ke PySem.Challenge.pw_waysofmaking_k01_errors_by_class w K mg base U "UnknownName" "name" 1 prStr := kE_UnknownName scU nU_name
  have xfV : XfC K V := ⟨gaV, ggV, eV, hdV⟩
  have scV : SupC PySem.Challenge.pw_waysofmaking_k01_errors_by_class K mg "BadWay" "BadWay.__init__" s_BadWay___init__ V f5 cc5 cd5 := ⟨⟨⟨_, _, _, _, _, _, _, _, _, _, _, _, _, _, _, xV, bmV⟩, saV, eV, tV, kV⟩, PySem.W.mg_of X G aV, a5, t5, ⟨_, _, _, _, _, _, l5⟩, c5, ⟨_, _, _, _, _, _, lc5, v5, fil5⟩, ⟨_, _, _, ll5⟩, sbV, PySem.W.mg_none_of X G z_super, suV, svV, opV, htop, teV⟩
  have T_BadWay : Ke PySem.Challenge.pw_waysofmaking_k01_errors_by_class w K mg base V "BadWay" "at" 1 prInt := kE_BadWay scV nV_at
  have xfB : XfC K B := ⟨gaB, ggB, eB, hdB⟩
  have scB : SupC PySem.Challenge.pw_waysofmaking_k01_errors_by_class K mg "NotPlain" "NotPlain.__init__" s_NotPlain___init__ B f6 cc6 cd6 := ⟨⟨⟨_, _, _, _, _, _, _, _, _, _, _, _, _, _, _, xB, bmB⟩, saB, eB, tB, kB⟩, PySem.W.mg_of X G aB, a6, t6, ⟨_, _, _, _, _, _, l6⟩, c6, ⟨_, _, _, _, _, _, lc6, v6, fil6⟩, ⟨_, _, _, ll6⟩, sbB, PySem.W.mg_none_of X G z_super, suB, svB, opB, htop, teB⟩
  have T_NotPlain : Ke PySem.Challenge.pw_waysofmaking_k01_errors_by_class w K mg base B "NotPlain" "at" 1 prInt := kE_NotPlain scB nB_at
  have xfQ : XfC K Q := ⟨gaQ, ggQ, eQ, hdQ⟩
  have scQ : SupC PySem.Challenge.pw_waysofmaking_k01_errors_by_class K mg "NoPlan" "NoPlan.__init__" s_NoPlan___init__ Q f7 cc7 cd7 := ⟨⟨⟨_, _, _, _, _, _, _, _, _, _, _, _, _, _, _, xQ, bmQ⟩, saQ, eQ, tQ, kQ⟩, PySem.W.mg_of X G aQ, a7, t7, ⟨_, _, _, _, _, _, l7⟩, c7, ⟨_, _, _, _, _, _, lc7, v7, fil7⟩, ⟨_, _, _, ll7⟩, sbQ, PySem.W.mg_none_of X G z_super, suQ, svQ, opQ, htop, teQ⟩
  have T_NoPlan : KeD PySem.Challenge.pw_waysofmaking_k01_errors_by_class w K mg base Q "NoPlan" "prices" 1 := kED_NoPlan scQ nQ_prices (PySem.W.mg_none_of X G z_dict)
  have xfS : XfC K S := ⟨gaS, ggS, eS, hdS⟩
  have scS : SupC PySem.Challenge.pw_waysofmaking_k01_errors_by_class K mg "NothingToShow" "NothingToShow.__init__" s_NothingToShow___init__ S f8 cc8 cd8 := ⟨⟨⟨_, _, _, _, _, _, _, _, _, _, _, _, _, _, _, xS, bmS⟩, saS, eS, tS, kS⟩, PySem.W.mg_of X G aS, a8, t8, ⟨_, _, _, _, _, _, l8⟩, c8, ⟨_, _, _, _, _, _, lc8, v8, fil8⟩, ⟨_, _, _, ll8⟩, sbS, PySem.W.mg_none_of X G z_super, suS, svS, opS, htop, teS⟩
  have T_NothingToShow : Ke0 PySem.Challenge.pw_waysofmaking_k01_errors_by_class w K mg base S "NothingToShow" 1 := kE0_NothingToShow scS
  have xfZ : XfC K Z := ⟨gaZ, ggZ, eZ, hdZ⟩
  have scZ : SupC PySem.Challenge.pw_waysofmaking_k01_errors_by_class K mg "NothingToUndo" "NothingToUndo.__init__" s_NothingToUndo___init__ Z f9 cc9 cd9 := ⟨⟨⟨_, _, _, _, _, _, _, _, _, _, _, _, _, _, _, xZ, bmZ⟩, saZ, eZ, tZ, kZ⟩, PySem.W.mg_of X G aZ, a9, t9, ⟨_, _, _, _, _, _, l9⟩, c9, ⟨_, _, _, _, _, _, lc9, v9, fil9⟩, ⟨_, _, _, ll9⟩, sbZ, PySem.W.mg_none_of X G z_super, suZ, svZ, opZ, htop, teZ⟩
  have T_NothingToUndo : Ke0 PySem.Challenge.pw_waysofmaking_k01_errors_by_class w K mg base Z "NothingToUndo" 1 := kE0_NothingToUndo scZ
  have clR : Cls K R := ⟨pgR, hdR, poR, saR⟩
  have cxR : ClsX K R := ⟨clR, sfR, caR, cnR, ctR, cmR⟩
  have QX : RatX K mg R := ⟨cxR, nR_top, nR_bottom, PySem.W.mg_of X G aR, nfR, nfI, nfS, ksI, ksS, PySem.W.mg_none_of X G z_isinstance, PySem.W.mg_none_of X G z_bool, PySem.W.mg_none_of X G z_len⟩
  have F10 := fun_mk (st := s_common) l10 c10 k10
  have b10 := F10.binds (ps := P_common) fun _ _ _ _ _ _ us hl => match us, hl with | [_, _], _ => rfl
  have T_common : Kf1 PySem.Challenge.pw_waysofmaking_k01_errors_by_class w K mg base "common" 1 pCommon := ⟨f10, _, P_common, PySem.W.mg_of X G a10, k10, b10, kf_common F10 (PySem.W.mg_none_of X G z_abs)⟩
  have F11 := fun_mk (st := s_Ratio___init__) l11 c11 k11
  have b11 := F11.binds (ps := P_Ratio___init__) fun _ _ _ _ _ _ us hl => match us, hl with | [_, _, _], _ => rfl
  have T_Ratio : Kc PySem.Challenge.pw_waysofmaking_k01_errors_by_class w K mg base R "Ratio" 3 (pInit R M) := ⟨f11, _, P_Ratio___init__, PySem.W.mg_of X G aR, ⟨mkR, a11, i11, kcR⟩, b11, kf_init F11 QX T_common T_BadNumber⟩
  have F12 := fun_mk (st := s_Ratio___eq__) l12 c12 k12
  have b12 := F12.binds (ps := P_Ratio___eq__) fun _ _ _ _ _ _ us hl => match us, hl with | [_, _], _ => rfl
  have T_Ratio___eq__ : Ko PySem.Challenge.pw_waysofmaking_k01_errors_by_class w K mg base R "__eq__" 5 (pEq R) := ⟨f12, _, P_Ratio___eq__, ⟨a12, i12⟩, b12, kf_eq F12 QX⟩
  have F13 := fun_mk (st := s_Ratio___str__) l13 c13 k13
  have b13 := F13.binds (ps := P_Ratio___str__) fun _ _ _ _ _ _ us hl => match us, hl with | [_], _ => rfl
  have T_Ratio___str__ : Ko PySem.Challenge.pw_waysofmaking_k01_errors_by_class w K mg base R "__str__" 2 (pStr R) := ⟨f13, _, P_Ratio___str__, ⟨a13, i13⟩, b13, kf_str F13 QX (PySem.W.mg_none_of X G z_str)⟩
  have T_BadNumberR : Ke PySem.Challenge.pw_waysofmaking_k01_errors_by_class w K mg base M "BadNumber" "n" 4 (prRat R) := kER_BadNumber scM nM_n T_Ratio___str__ ⟨fmR, cmR⟩
  have exM : ExcC K M := ⟨gaM, ggM, eM, hdM, caM, cnR, ctR, moM⟩
  have exT : ExcC K T := ⟨gaT, ggT, eT, hdT, caT, cnR, ctR, moT⟩
  have exN : ExcC K N := ⟨gaN, ggN, eN, hdN, caN, cnR, ctR, moN⟩
  have exD : ExcC K D := ⟨gaD, ggD, eD, hdD, caD, cnR, ctR, moD⟩
  have exU : ExcC K U := ⟨gaU, ggU, eU, hdU, caU, cnR, ctR, moU⟩
  have exV : ExcC K V := ⟨gaV, ggV, eV, hdV, caV, cnR, ctR, moV⟩
  have exB : ExcC K B := ⟨gaB, ggB, eB, hdB, caB, cnR, ctR, moB⟩
  have exQ : ExcC K Q := ⟨gaQ, ggQ, eQ, hdQ, caQ, cnR, ctR, moQ⟩
  have exS : ExcC K S := ⟨gaS, ggS, eS, hdS, caS, cnR, ctR, moS⟩
  have exZ : ExcC K Z := ⟨gaZ, ggZ, eZ, hdZ, caZ, cnR, ctR, moZ⟩
  let t : Ten := ⟨M, T, N, D, U, V, B, Q, S, Z⟩
  have ZX : TenX K mg t A := ⟨fun i hi => match i, hi with | 0, _ => exM | 1, _ => exT | 2, _ => exN | 3, _ => exD | 4, _ => exU | 5, _ => exV | 6, _ => exB | 7, _ => exQ | 8, _ => exS | 9, _ => exZ | i + 10, h => by omega, fun i j hi hj => match i, j, hi, hj with | 0, 0, _, _ => kkMM | 0, 1, _, _ => kkMT | 0, 2, _, _ => kkMN | 0, 3, _, _ => kkMD | 0, 4, _, _ => kkMU | 0, 5, _, _ => kkMV | 0, 6, _, _ => kkMB | 0, 7, _, _ => kkMQ | 0, 8, _, _ => kkMS | 0, 9, _, _ => kkMZ | 1, 0, _, _ => kkTM | 1, 1, _, _ => kkTT | 1, 2, _, _ => kkTN | 1, 3, _, _ => kkTD | 1, 4, _, _ => kkTU | 1, 5, _, _ => kkTV | 1, 6, _, _ => kkTB | 1, 7, _, _ => kkTQ | 1, 8, _, _ => kkTS | 1, 9, _, _ => kkTZ | 2, 0, _, _ => kkNM | 2, 1, _, _ => kkNT | 2, 2, _, _ => kkNN | 2, 3, _, _ => kkND | 2, 4, _, _ => kkNU | 2, 5, _, _ => kkNV | 2, 6, _, _ => kkNB | 2, 7, _, _ => kkNQ | 2, 8, _, _ => kkNS | 2, 9, _, _ => kkNZ | 3, 0, _, _ => kkDM | 3, 1, _, _ => kkDT | 3, 2, _, _ => kkDN | 3, 3, _, _ => kkDD | 3, 4, _, _ => kkDU | 3, 5, _, _ => kkDV | 3, 6, _, _ => kkDB | 3, 7, _, _ => kkDQ | 3, 8, _, _ => kkDS | 3, 9, _, _ => kkDZ | 4, 0, _, _ => kkUM | 4, 1, _, _ => kkUT | 4, 2, _, _ => kkUN | 4, 3, _, _ => kkUD | 4, 4, _, _ => kkUU | 4, 5, _, _ => kkUV | 4, 6, _, _ => kkUB | 4, 7, _, _ => kkUQ | 4, 8, _, _ => kkUS | 4, 9, _, _ => kkUZ | 5, 0, _, _ => kkVM | 5, 1, _, _ => kkVT | 5, 2, _, _ => kkVN | 5, 3, _, _ => kkVD | 5, 4, _, _ => kkVU | 5, 5, _, _ => kkVV | 5, 6, _, _ => kkVB | 5, 7, _, _ => kkVQ | 5, 8, _, _ => kkVS | 5, 9, _, _ => kkVZ | 6, 0, _, _ => kkBM | 6, 1, _, _ => kkBT | 6, 2, _, _ => kkBN | 6, 3, _, _ => kkBD | 6, 4, _, _ => kkBU | 6, 5, _, _ => kkBV | 6, 6, _, _ => kkBB | 6, 7, _, _ => kkBQ | 6, 8, _, _ => kkBS | 6, 9, _, _ => kkBZ | 7, 0, _, _ => kkQM | 7, 1, _, _ => kkQT | 7, 2, _, _ => kkQN | 7, 3, _, _ => kkQD | 7, 4, _, _ => kkQU | 7, 5, _, _ => kkQV | 7, 6, _, _ => kkQB | 7, 7, _, _ => kkQQ | 7, 8, _, _ => kkQS | 7, 9, _, _ => kkQZ | 8, 0, _, _ => kkSM | 8, 1, _, _ => kkST | 8, 2, _, _ => kkSN | 8, 3, _, _ => kkSD | 8, 4, _, _ => kkSU | 8, 5, _, _ => kkSV | 8, 6, _, _ => kkSB | 8, 7, _, _ => kkSQ | 8, 8, _, _ => kkSS | 8, 9, _, _ => kkSZ | 9, 0, _, _ => kkZM | 9, 1, _, _ => kkZT | 9, 2, _, _ => kkZN | 9, 3, _, _ => kkZD | 9, 4, _, _ => kkZU | 9, 5, _, _ => kkZV | 9, 6, _, _ => kkZB | 9, 7, _, _ => kkZQ | 9, 8, _, _ => kkZS | 9, 9, _, _ => kkZZ | i + 10, _, h, _ => by omega | _, j + 10, _, h => by omega, fun i hi => match i, hi with | 0, _ => kaM | 1, _ => kaT | 2, _ => kaN | 3, _ => kaD | 4, _ => kaU | 5, _ => kaV | 6, _ => kaB | 7, _ => kaQ | 8, _ => kaS | 9, _ => kaZ | i + 10, h => by omega, fun i hi => match i, hi with | 0, _ => kvM | 1, _ => kvT | 2, _ => kvN | 3, _ => kvD | 4, _ => kvU | 5, _ => kvV | 6, _ => kvB | 7, _ => kvQ | 8, _ => kvS | 9, _ => kvZ | i + 10, h => by omega, (PySem.W.mg_of X G aA), (PySem.W.mg_of X G aM), xfM, nM_n, (PySem.W.mg_of X G aT), xfT, nT_at, (PySem.W.mg_of X G aN), xfN, nN_name, (PySem.W.mg_of X G aD), xfD, nD_name, (PySem.W.mg_of X G aU), xfU, nU_name, (PySem.W.mg_of X G aV), xfV, nV_at, (PySem.W.mg_of X G aB), xfB, nB_at, (PySem.W.mg_of X G aQ), xfQ, nQ_prices, (PySem.W.mg_of X G aS), (PySem.W.mg_of X G aZ)⟩
  have EX : TenE PySem.Challenge.pw_waysofmaking_k01_errors_by_class w K mg base t := ⟨T_BadNumber, T_BadText, T_BadName, T_DuplicateName, T_UnknownName, T_BadWay, T_NotPlain, T_NoPlan, T_NothingToShow, T_NothingToUndo⟩
  have F14 := fun_mk (st := s__law_bag) l14 c14 k14
  have b14 := F14.binds (ps := P__law_bag) fun _ _ _ _ _ _ us hl => match us, hl with | [_], _ => rfl
  have T__law_bag : KfN1 PySem.Challenge.pw_waysofmaking_k01_errors_by_class w K mg base "_law_bag" 1 pBag := ⟨f14, _, P__law_bag, PySem.W.mg_of X G a14, k14, b14, kf_bag F14⟩
  have F15 := fun_mk (st := s__law_at) l15 c15 k15
  have b15 := F15.binds (ps := P__law_at) fun _ _ _ _ _ _ us hl => match us, hl with | [_, _], _ => rfl
  have T__law_at : Kf1 PySem.Challenge.pw_waysofmaking_k01_errors_by_class w K mg base "_law_at" 1 (pAt K) := ⟨f15, _, P__law_at, PySem.W.mg_of X G a15, k15, b15, kf_at F15 (PySem.W.mg_none_of X G z_len)⟩
  have F16 := fun_mk (st := s__law_draw) l16 c16 k16
  have b16 := F16.binds (ps := P__law_draw) fun _ _ _ _ _ _ us hl => match us, hl with | [_, _], _ => rfl
  have T__law_draw : Kf1 PySem.Challenge.pw_waysofmaking_k01_errors_by_class w K mg base "_law_draw" 1 pDraw := ⟨f16, _, P__law_draw, PySem.W.mg_of X G a16, k16, b16, kf_draw F16 (PySem.W.mg_none_of X G z_int)⟩
  have F17 := fun_mk (st := s__law_kinds) l17 c17 k17
  have b17 := F17.binds (ps := P__law_kinds) fun _ _ _ _ _ _ us hl => match us, hl with | [_], _ => rfl
  have T__law_kinds : Kf1 PySem.Challenge.pw_waysofmaking_k01_errors_by_class w K mg base "_law_kinds" 1 (pKinds t R) := ⟨f17, _, P__law_kinds, PySem.W.mg_of X G a17, k17, b17, kf_kinds F17 ZX (PySem.W.mg_none_of X G z_isinstance)⟩
  have F18 := fun_mk (st := s__law_named) l18 c18 k18
  have b18 := F18.binds (ps := P__law_named) fun _ _ _ _ _ _ us hl => match us, hl with | [_, _], _ => rfl
  have T__law_named : Kf1 PySem.Challenge.pw_waysofmaking_k01_errors_by_class w K mg base "_law_named" 3 (pNamed t R) := ⟨f18, _, P__law_named, PySem.W.mg_of X G a18, k18, b18, kf_named F18 ZX EX⟩
  have F19 := fun_mk (st := s__law_priced) l19 c19 k19
  have b19 := F19.binds (ps := P__law_priced) fun _ _ _ _ _ _ us hl => match us, hl with | [_, _], _ => rfl
  have T__law_priced : Kf1 PySem.Challenge.pw_waysofmaking_k01_errors_by_class w K mg base "_law_priced" 7 (pPriced t R) := ⟨f19, _, P__law_priced, PySem.W.mg_of X G a19, k19, b19, kf_priced F19 ZX EX T_Ratio T_Ratio___eq__ nfR⟩
  have F20 := fun_mk (st := s__law_made) l20 c20 k20
  have b20 := F20.binds (ps := P__law_made) fun _ _ _ _ _ _ us hl => match us, hl with | [_, _, _], _ => rfl
  have T__law_made : Kf1 PySem.Challenge.pw_waysofmaking_k01_errors_by_class w K mg base "_law_made" 8 (pMade t R) := ⟨f20, _, P__law_made, PySem.W.mg_of X G a20, k20, b20, kf_made F20 ZX EX T__law_named T__law_priced⟩
  have F21 := fun_mk (st := s_law) l21 c21 k21
  exact kf_law F21 ZX T_BadNumberR T__law_bag T__law_at T__law_draw T__law_made T__law_kinds T_Ratio T_Ratio___eq__ nfR (PySem.W.mg_none_of X G z_isinstance) (PySem.W.mg_none_of X G z_int) (PySem.W.mg_none_of X G z_range) (PySem.W.mg_none_of X G z_ValueError)
end W1
set_option maxRecDepth 100000
open PySem PySem.W PyProof.Rows in
set_option maxRecDepth 100000 in
set_option maxHeartbeats 0 in
theorem PySem.Challenge.cw_waysofmaking_k01_errors_by_class_holds : PySem.Challenge.rw_waysofmaking_k01_errors_by_class.Holds := by
  w_on; o_law; k_head; (case hw => w_witness2)
  k_fill
  refine L2.walk_of (l := PySem.Challenge.rw_waysofmaking_k01_errors_by_class) (n := 63) (k := 9) (x := "_law_script") (CX := fun w => L2.CX PySem.Challenge.pw_waysofmaking_k01_errors_by_class w) (sp := fun w => W1.spM (W1.pLaw _)) rfl (by decide) rfl ⟨rfl, by decide, by decide⟩ (fun w h Y => PySem.W.kIn_of Y) ?F W1.law_sp ?Z
  case Z => exact W1.law_cx
  case F =>
    intro w mg fa h KX G hmg
    refine' W1.all_mk KX G hmg ?z_super ?z_abs ?z_isinstance ?z_bool ?z_len ?z_int ?z_str ?z_range ?z_dict ?z_ValueError ?aM ?xM ?bmM ?saM ?eM ?tM ?kM ?a0 ?t0 ?l0 ?c0 ?lc0 ?v0 ?fil0 ?ll0 ?sbM ?suM ?svM ?opM ?teM ?nM_n ?gaM ?ggM ?hdM ?aT ?xT ?bmT ?saT ?eT ?tT ?kT ?a1 ?t1 ?l1 ?c1 ?lc1 ?v1 ?fil1 ?ll1 ?sbT ?suT ?svT ?opT ?teT ?nT_at ?gaT ?ggT ?hdT ?aN ?xN ?bmN ?saN ?eN ?tN ?kN ?a2 ?t2 ?l2 ?c2 ?lc2 ?v2 ?fil2 ?ll2 ?sbN ?suN ?svN ?opN ?teN ?nN_name ?gaN ?ggN ?hdN ?aD ?xD ?bmD ?saD ?eD ?tD ?kD ?a3 ?t3 ?l3 ?c3 ?lc3 ?v3 ?fil3 ?ll3 ?sbD ?suD ?svD ?opD ?teD ?nD_name ?gaD ?ggD ?hdD ?aU ?xU ?bmU ?saU ?eU ?tU ?kU ?a4 ?t4 ?l4 ?c4 ?lc4 ?v4 ?fil4 ?ll4 ?sbU ?suU ?svU ?opU ?teU ?nU_name ?gaU ?ggU ?hdU ?aV ?xV ?bmV ?saV ?eV ?tV ?kV ?a5 ?t5 ?l5 ?c5 ?lc5 ?v5 ?fil5 ?ll5 ?sbV ?suV ?svV ?opV ?teV ?nV_at ?gaV ?ggV ?hdV ?aB ?xB ?bmB ?saB ?eB ?tB ?kB ?a6 ?t6 ?l6 ?c6 ?lc6 ?v6 ?fil6 ?ll6 ?sbB ?suB ?svB ?opB ?teB ?nB_at ?gaB ?ggB ?hdB ?aQ ?xQ ?bmQ ?saQ ?eQ ?tQ ?kQ ?a7 ?t7 ?l7 ?c7 ?lc7 ?v7 ?fil7 ?ll7 ?sbQ ?suQ ?svQ ?opQ ?teQ ?nQ_prices ?gaQ ?ggQ ?hdQ ?aS ?xS ?bmS ?saS ?eS ?tS ?kS ?a8 ?t8 ?l8 ?c8 ?lc8 ?v8 ?fil8 ?ll8 ?sbS ?suS ?svS ?opS ?teS ?gaS ?ggS ?hdS ?aZ ?xZ ?bmZ ?saZ ?eZ ?tZ ?kZ ?a9 ?t9 ?l9 ?c9 ?lc9 ?v9 ?fil9 ?ll9 ?sbZ ?suZ ?svZ ?opZ ?teZ ?gaZ ?ggZ ?hdZ ?aR ?kcR ?mkR ?pgR ?hdR ?poR ?saR ?sfR ?caR ?cnR ?ctR ?cmR ?nR_top ?nR_bottom ?nfR ?nfI ?nfS ?ksI ?ksS ?fmR ?a10 ?l10 ?c10 ?k10 ?a11 ?i11 ?l11 ?c11 ?k11 ?a12 ?i12 ?l12 ?c12 ?k12 ?a13 ?i13 ?l13 ?c13 ?k13 ?aA ?caM ?moM ?kaM ?kvM ?kkMM ?kkMT ?kkMN ?kkMD ?kkMU ?kkMV ?kkMB ?kkMQ ?kkMS ?kkMZ ?caT ?moT ?kaT ?kvT ?kkTM ?kkTT ?kkTN ?kkTD ?kkTU ?kkTV ?kkTB ?kkTQ ?kkTS ?kkTZ ?caN ?moN ?kaN ?kvN ?kkNM ?kkNT ?kkNN ?kkND ?kkNU ?kkNV ?kkNB ?kkNQ ?kkNS ?kkNZ ?caD ?moD ?kaD ?kvD ?kkDM ?kkDT ?kkDN ?kkDD ?kkDU ?kkDV ?kkDB ?kkDQ ?kkDS ?kkDZ ?caU ?moU ?kaU ?kvU ?kkUM ?kkUT ?kkUN ?kkUD ?kkUU ?kkUV ?kkUB ?kkUQ ?kkUS ?kkUZ ?caV ?moV ?kaV ?kvV ?kkVM ?kkVT ?kkVN ?kkVD ?kkVU ?kkVV ?kkVB ?kkVQ ?kkVS ?kkVZ ?caB ?moB ?kaB ?kvB ?kkBM ?kkBT ?kkBN ?kkBD ?kkBU ?kkBV ?kkBB ?kkBQ ?kkBS ?kkBZ ?caQ ?moQ ?kaQ ?kvQ ?kkQM ?kkQT ?kkQN ?kkQD ?kkQU ?kkQV ?kkQB ?kkQQ ?kkQS ?kkQZ ?caS ?moS ?kaS ?kvS ?kkSM ?kkST ?kkSN ?kkSD ?kkSU ?kkSV ?kkSB ?kkSQ ?kkSS ?kkSZ ?caZ ?moZ ?kaZ ?kvZ ?kkZM ?kkZT ?kkZN ?kkZD ?kkZU ?kkZV ?kkZB ?kkZQ ?kkZS ?kkZZ ?a14 ?l14 ?c14 ?k14 ?a15 ?l15 ?c15 ?k15 ?a16 ?l16 ?c16 ?k16 ?a17 ?l17 ?c17 ?k17 ?a18 ?l18 ?c18 ?k18 ?a19 ?l19 ?c19 ?k19 ?a20 ?l20 ?c20 ?k20 ?a21 ?l21 ?c21 ?k21
    (case z_super => k_is)
    (case z_abs => k_is)
    (case z_isinstance => k_is)
    (case z_bool => k_is)
    (case z_len => k_is)
    (case z_int => k_is)
    (case z_str => k_is)
    (case z_range => k_is)
    (case z_dict => k_is)
    (case z_ValueError => k_is)
    (case aM => k_is)
    (case xM => k_is)
    (case bmM => rfl)
    (case saM => k_is)
    (case eM => k_is)
    (case tM => k_is)
    (case kM => k_is)
    (case a0 => k_is)
    (case t0 => k_is)
    (case l0 => k_is)
    (case c0 => k_is)
    (case lc0 => k_is)
    (case v0 => rfl)
    (case fil0 => first | rfl | decide +kernel)
    (case ll0 => k_is)
    (case sbM => k_is)
    (case suM => ks_is)
    (case svM => k_is)
    (case opM => k_is)
    (case teM => kts_exm)
    (case nM_n => k_is)
    (case gaM => k_is)
    (case ggM => k_is)
    (case hdM => k_is)
    (case aT => k_is)
    (case xT => k_is)
    (case bmT => rfl)
    (case saT => k_is)
    (case eT => k_is)
    (case tT => k_is)
    (case kT => k_is)
    (case a1 => k_is)
    (case t1 => k_is)
    (case l1 => k_is)
    (case c1 => k_is)
    (case lc1 => k_is)
    (case v1 => rfl)
    (case fil1 => first | rfl | decide +kernel)
    (case ll1 => k_is)
    (case sbT => k_is)
    (case suT => ks_is)
    (case svT => k_is)
    (case opT => k_is)
    (case teT => kts_exm)
    (case nT_at => k_is)
    (case gaT => k_is)
    (case ggT => k_is)
    (case hdT => k_is)
    (case aN => k_is)
    (case xN => k_is)
    (case bmN => rfl)
    (case saN => k_is)
    (case eN => k_is)
    (case tN => k_is)
    (case kN => k_is)
    (case a2 => k_is)
    (case t2 => k_is)
    (case l2 => k_is)
    (case c2 => k_is)
    (case lc2 => k_is)
    (case v2 => rfl)
    (case fil2 => first | rfl | decide +kernel)
    (case ll2 => k_is)
    (case sbN => k_is)
    (case suN => ks_is)
    (case svN => k_is)
    (case opN => k_is)
    (case teN => kts_exm)
    (case nN_name => k_is)
    (case gaN => k_is)
    (case ggN => k_is)
    (case hdN => k_is)
    (case aD => k_is)
    (case xD => k_is)
    (case bmD => rfl)
    (case saD => k_is)
    (case eD => k_is)
    (case tD => k_is)
    (case kD => k_is)
    (case a3 => k_is)
    (case t3 => k_is)
    (case l3 => k_is)
    (case c3 => k_is)
    (case lc3 => k_is)
    (case v3 => rfl)
    (case fil3 => first | rfl | decide +kernel)
    (case ll3 => k_is)
    (case sbD => k_is)
    (case suD => ks_is)
    (case svD => k_is)
    (case opD => k_is)
    (case teD => kts_exm)
    (case nD_name => k_is)
    (case gaD => k_is)
    (case ggD => k_is)
    (case hdD => k_is)
    (case aU => k_is)
    (case xU => k_is)
    (case bmU => rfl)
    (case saU => k_is)
    (case eU => k_is)
    (case tU => k_is)
    (case kU => k_is)
    (case a4 => k_is)
    (case t4 => k_is)
    (case l4 => k_is)
    (case c4 => k_is)
    (case lc4 => k_is)
    (case v4 => rfl)
    (case fil4 => first | rfl | decide +kernel)
    (case ll4 => k_is)
    (case sbU => k_is)
    (case suU => ks_is)
    (case svU => k_is)
    (case opU => k_is)
    (case teU => kts_exm)
    (case nU_name => k_is)
    (case gaU => k_is)
    (case ggU => k_is)
    (case hdU => k_is)
    (case aV => k_is)
    (case xV => k_is)
    (case bmV => rfl)
    (case saV => k_is)
    (case eV => k_is)
    (case tV => k_is)
    (case kV => k_is)
    (case a5 => k_is)
    (case t5 => k_is)
    (case l5 => k_is)
    (case c5 => k_is)
    (case lc5 => k_is)
    (case v5 => rfl)
    (case fil5 => first | rfl | decide +kernel)
    (case ll5 => k_is)
    (case sbV => k_is)
    (case suV => ks_is)
    (case svV => k_is)
    (case opV => k_is)
    (case teV => kts_exm)
    (case nV_at => k_is)
    (case gaV => k_is)
    (case ggV => k_is)
    (case hdV => k_is)
    (case aB => k_is)
    (case xB => k_is)
    (case bmB => rfl)
    (case saB => k_is)
    (case eB => k_is)
    (case tB => k_is)
    (case kB => k_is)
    (case a6 => k_is)
    (case t6 => k_is)
    (case l6 => k_is)
    (case c6 => k_is)
    (case lc6 => k_is)
    (case v6 => rfl)
    (case fil6 => first | rfl | decide +kernel)
    (case ll6 => k_is)
    (case sbB => k_is)
    (case suB => ks_is)
    (case svB => k_is)
    (case opB => k_is)
    (case teB => kts_exm)
    (case nB_at => k_is)
    (case gaB => k_is)
    (case ggB => k_is)
    (case hdB => k_is)
    (case aQ => k_is)
    (case xQ => k_is)
    (case bmQ => rfl)
    (case saQ => k_is)
    (case eQ => k_is)
    (case tQ => k_is)
    (case kQ => k_is)
    (case a7 => k_is)
    (case t7 => k_is)
    (case l7 => k_is)
    (case c7 => k_is)
    (case lc7 => k_is)
    (case v7 => rfl)
    (case fil7 => first | rfl | decide +kernel)
    (case ll7 => k_is)
    (case sbQ => k_is)
    (case suQ => ks_is)
    (case svQ => k_is)
    (case opQ => k_is)
    (case teQ => kts_exm)
    (case nQ_prices => k_is)
    (case gaQ => k_is)
    (case ggQ => k_is)
    (case hdQ => k_is)
    (case aS => k_is)
    (case xS => k_is)
    (case bmS => rfl)
    (case saS => k_is)
    (case eS => k_is)
    (case tS => k_is)
    (case kS => k_is)
    (case a8 => k_is)
    (case t8 => k_is)
    (case l8 => k_is)
    (case c8 => k_is)
    (case lc8 => k_is)
    (case v8 => rfl)
    (case fil8 => first | rfl | decide +kernel)
    (case ll8 => k_is)
    (case sbS => k_is)
    (case suS => ks_is)
    (case svS => k_is)
    (case opS => k_is)
    (case teS => kts_exm)
    (case gaS => k_is)
    (case ggS => k_is)
    (case hdS => k_is)
    (case aZ => k_is)
    (case xZ => k_is)
    (case bmZ => rfl)
    (case saZ => k_is)
    (case eZ => k_is)
    (case tZ => k_is)
    (case kZ => k_is)
    (case a9 => k_is)
    (case t9 => k_is)
    (case l9 => k_is)
    (case c9 => k_is)
    (case lc9 => k_is)
    (case v9 => rfl)
    (case fil9 => first | rfl | decide +kernel)
    (case ll9 => k_is)
    (case sbZ => k_is)
    (case suZ => ks_is)
    (case svZ => k_is)
    (case opZ => k_is)
    (case teZ => kts_exm)
    (case gaZ => k_is)
    (case ggZ => k_is)
    (case hdZ => k_is)
    (case aR => k_is)
    (case kcR => k_is)
    (case mkR => k_is)
    (case pgR => k_is)
    (case hdR => k_is)
    (case poR => k_is)
    (case saR => k_is)
    (case sfR => k_is)
    (case caR => k_is)
    (case cnR => k_is)
    (case ctR => k_is)
    (case cmR => k_is)
    (case nR_top => k_is)
    (case nR_bottom => k_is)
    (case nfR => k_is)
    (case nfI => k_is)
    (case nfS => k_is)
    (case ksI => kit_is)
    (case ksS => kit_is)
    (case fmR => k_is)
    (case a10 => k_is)
    (case l10 => k_is)
    (case c10 => k_is)
    (case k10 => k_is)
    (case a11 => k_is)
    (case i11 => k_is)
    (case l11 => k_is)
    (case c11 => k_is)
    (case k11 => k_is)
    (case a12 => k_is)
    (case i12 => k_is)
    (case l12 => k_is)
    (case c12 => k_is)
    (case k12 => k_is)
    (case a13 => k_is)
    (case i13 => k_is)
    (case l13 => k_is)
    (case c13 => k_is)
    (case k13 => k_is)
    (case aA => k_is)
    (case caM => k_is)
    (case moM => k_is)
    (case kaM => kit_is)
    (case kvM => kit_is)
    (case kkMM => kit_is)
    (case kkMT => kit_is)
    (case kkMN => kit_is)
    (case kkMD => kit_is)
    (case kkMU => kit_is)
    (case kkMV => kit_is)
    (case kkMB => kit_is)
    (case kkMQ => kit_is)
    (case kkMS => kit_is)
    (case kkMZ => kit_is)
    (case caT => k_is)
    (case moT => k_is)
    (case kaT => kit_is)
    (case kvT => kit_is)
    (case kkTM => kit_is)
    (case kkTT => kit_is)
    (case kkTN => kit_is)
    (case kkTD => kit_is)
    (case kkTU => kit_is)
    (case kkTV => kit_is)
    (case kkTB => kit_is)
    (case kkTQ => kit_is)
    (case kkTS => kit_is)
    (case kkTZ => kit_is)
    (case caN => k_is)
    (case moN => k_is)
    (case kaN => kit_is)
    (case kvN => kit_is)
    (case kkNM => kit_is)
    (case kkNT => kit_is)
    (case kkNN => kit_is)
    (case kkND => kit_is)
    (case kkNU => kit_is)
    (case kkNV => kit_is)
    (case kkNB => kit_is)
    (case kkNQ => kit_is)
    (case kkNS => kit_is)
    (case kkNZ => kit_is)
    (case caD => k_is)
    (case moD => k_is)
    (case kaD => kit_is)
    (case kvD => kit_is)
    (case kkDM => kit_is)
    (case kkDT => kit_is)
    (case kkDN => kit_is)
    (case kkDD => kit_is)
    (case kkDU => kit_is)
    (case kkDV => kit_is)
    (case kkDB => kit_is)
    (case kkDQ => kit_is)
    (case kkDS => kit_is)
    (case kkDZ => kit_is)
    (case caU => k_is)
    (case moU => k_is)
    (case kaU => kit_is)
    (case kvU => kit_is)
    (case kkUM => kit_is)
    (case kkUT => kit_is)
    (case kkUN => kit_is)
    (case kkUD => kit_is)
    (case kkUU => kit_is)
    (case kkUV => kit_is)
    (case kkUB => kit_is)
    (case kkUQ => kit_is)
    (case kkUS => kit_is)
    (case kkUZ => kit_is)
    (case caV => k_is)
    (case moV => k_is)
    (case kaV => kit_is)
    (case kvV => kit_is)
    (case kkVM => kit_is)
    (case kkVT => kit_is)
    (case kkVN => kit_is)
    (case kkVD => kit_is)
    (case kkVU => kit_is)
    (case kkVV => kit_is)
    (case kkVB => kit_is)
    (case kkVQ => kit_is)
    (case kkVS => kit_is)
    (case kkVZ => kit_is)
    (case caB => k_is)
    (case moB => k_is)
    (case kaB => kit_is)
    (case kvB => kit_is)
    (case kkBM => kit_is)
    (case kkBT => kit_is)
    (case kkBN => kit_is)
    (case kkBD => kit_is)
    (case kkBU => kit_is)
    (case kkBV => kit_is)
    (case kkBB => kit_is)
    (case kkBQ => kit_is)
    (case kkBS => kit_is)
    (case kkBZ => kit_is)
    (case caQ => k_is)
    (case moQ => k_is)
    (case kaQ => kit_is)
    (case kvQ => kit_is)
    (case kkQM => kit_is)
    (case kkQT => kit_is)
    (case kkQN => kit_is)
    (case kkQD => kit_is)
    (case kkQU => kit_is)
    (case kkQV => kit_is)
    (case kkQB => kit_is)
    (case kkQQ => kit_is)
    (case kkQS => kit_is)
    (case kkQZ => kit_is)
    (case caS => k_is)
    (case moS => k_is)
    (case kaS => kit_is)
    (case kvS => kit_is)
    (case kkSM => kit_is)
    (case kkST => kit_is)
    (case kkSN => kit_is)
    (case kkSD => kit_is)
    (case kkSU => kit_is)
    (case kkSV => kit_is)
    (case kkSB => kit_is)
    (case kkSQ => kit_is)
    (case kkSS => kit_is)
    (case kkSZ => kit_is)
    (case caZ => k_is)
    (case moZ => k_is)
    (case kaZ => kit_is)
    (case kvZ => kit_is)
    (case kkZM => kit_is)
    (case kkZT => kit_is)
    (case kkZN => kit_is)
    (case kkZD => kit_is)
    (case kkZU => kit_is)
    (case kkZV => kit_is)
    (case kkZB => kit_is)
    (case kkZQ => kit_is)
    (case kkZS => kit_is)
    (case kkZZ => kit_is)
    (case a14 => k_is)
    (case l14 => k_is)
    (case c14 => k_is)
    (case k14 => k_is)
    (case a15 => k_is)
    (case l15 => k_is)
    (case c15 => k_is)
    (case k15 => k_is)
    (case a16 => k_is)
    (case l16 => k_is)
    (case c16 => k_is)
    (case k16 => k_is)
    (case a17 => k_is)
    (case l17 => k_is)
    (case c17 => k_is)
    (case k17 => k_is)
    (case a18 => k_is)
    (case l18 => k_is)
    (case c18 => k_is)
    (case k18 => k_is)
    (case a19 => k_is)
    (case l19 => k_is)
    (case c19 => k_is)
    (case k19 => k_is)
    (case a20 => k_is)
    (case l20 => k_is)
    (case c20 => k_is)
    (case k20 => k_is)
    (case a21 => k_is)
    (case l21 => k_is)
    (case c21 => k_is)
    (case k21 => k_is)
