import PyProof.Rows.All
import Wide.All
import OpenK.AllK
import Wide.FinOn
import HandS.ForMost
import HandS.ForExc
import HandS.Wide
import HandS.ExcInit
import HandS.ExcField
import HandS.ClsMeth
import HandS.IsInst
import HandS.FStr
import HandS.OwnEq
import HandS.Zip
import HandS.Flow
import HandS.DictComp
import HandS.Nested
import HandS.SlotsOwn
import HandS.Steps
import HandS.Style
import HandS.Text
import HandS.Codes
import HandS.Dict
import HandS.Iter
import HandS.More
import HandS.Finally
import HandS.Conv
import HandS.WordsDict
import HandS.Strs
import HandS.SortOrd
import HandS.IterVal
import HandS.TupAny
import HandS.Star
import HandS.TryOnly
import KE.KExcSuper
import KE.KOpsOwn
import KE.KCallOwn
import KE.KEqDict
import KE.KDictList
import KE.KSortTupAny
import PyProof.Rows.SortShellAny
import KE.GoesEnum
import PyProof.InstNe
import KE.KEqNest
import KE.KFmtOwn
import KE.GoesZip
import KE.KDictZip
import KE.GoesMore
import KE.RegKIsAll
import KE.RegKSuper
import KE.RegKTryMore
import PySem.Challenge.RW_waysofmaking_k27_whole_hours_of_many_dem
set_option Elab.async false
set_option linter.all false
set_option maxRecDepth 100000
set_option maxHeartbeats 2000000
namespace W1
open PySem PySem.Spec PyProof.Rows L2

/-! ### what is known of values -/
structure Rl where
  r : V → Hp → Prop
  mo : ∀ v H H', Same H H' → r v H → r v H'
structure Ol where
  c : HO → Hp → Prop
  mo : ∀ o H H', Same H H' → c o H → c o H'
abbrev Ty := List (Option Rl)
abbrev Ow := List (Addr × Ol)
abbrev Er := Value → Option Addr → Hp → Prop
abbrev Out := Except Er Rl

def All2 : List Rl → List V → Hp → Prop
  | [], [], _ => True
  | R :: Rs, v :: vs, H => R.r v H ∧ All2 Rs vs H
  | _, _, _ => False
theorem All2.up : ∀ {Rs : List Rl} {vs : List V} {H H' : Hp}, Same H H' → All2 Rs vs H → All2 Rs vs H'
  | [], [], _, _, _, _ => trivial
  | R :: _, _ :: _, _, _, e, ⟨a, b⟩ => ⟨R.mo _ _ _ e a, All2.up e b⟩
  | [], _ :: _, _, _, _, h => h.elim
  | _ :: _, [], _, _, _, h => h.elim
theorem All2.len : ∀ {Rs : List Rl} {vs : List V} {H : Hp}, All2 Rs vs H → Rs.length = vs.length
  | [], [], _, _ => rfl
  | _ :: _, _ :: _, _, ⟨_, b⟩ => by rw [List.length_cons, List.length_cons, All2.len b]
  | [], _ :: _, _, h => h.elim
  | _ :: _, [], _, h => h.elim
theorem All2.get : ∀ {Rs : List Rl} {vs : List V} {H : Hp} {i : Nat} {R : Rl}, All2 Rs vs H → Rs[i]? = some R → ∃ v, vs[i]? = some v ∧ R.r v H
  | [], _, _, i, _, _, e => by simp at e
  | R :: _, v :: _, _, 0, _, ⟨a, _⟩, e => by
    have e' : R = _ := Option.some.inj e
    subst e'
    exact ⟨v, rfl, a⟩
  | _ :: _, _ :: _, _, i + 1, _, ⟨_, b⟩, e => All2.get (i := i) b e
  | _ :: _, [], _, _, _, h, _ => h.elim
theorem All2.app : ∀ {Rs Ss : List Rl} {vs ws : List V} {H : Hp}, All2 Rs vs H → All2 Ss ws H → All2 (Rs ++ Ss) (vs ++ ws) H
  | [], _, [], _, _, _, h => h
  | _ :: _, _, _ :: _, _, _, ⟨a, b⟩, h => ⟨a, All2.app b h⟩
  | [], _, _ :: _, _, _, h, _ => h.elim
  | _ :: _, _, [], _, _, h, _ => h.elim

structure Slots (ρ : Ty) (σ : L2.St) (G : Hp) : Prop where
  len : σ.length = ρ.length
  at_ : ∀ (i : Nat) (R : Rl), ρ[i]? = some (some R) → ∃ v, σ[i]? = some (some v) ∧ R.r v G
theorem Slots.up {ρ : Ty} {σ : L2.St} {G G' : Hp} (s : Slots ρ σ G) (e : Same G G') : Slots ρ σ G' :=
  ⟨s.len, fun i R h => let ⟨v, a, b⟩ := s.at_ i R h; ⟨v, a, R.mo _ _ _ e b⟩⟩
theorem Slots.set {ρ : Ty} {σ : L2.St} {G : Hp} (s : Slots ρ σ G) (i : Nat) {R : Rl} {v : V} (h : R.r v G) : Slots (ρ.set i (some R)) (σ.set i (some v)) G := by
  refine ⟨by rw [List.length_set, List.length_set]; exact s.len, fun j S e => ?_⟩
  by_cases hj : i = j
  · subst hj
    by_cases hi : i < ρ.length
    · rw [List.getElem?_set_self hi] at e
      cases e
      exact ⟨v, List.getElem?_set_self (by rw [s.len]; exact hi), h⟩
    · rw [List.getElem?_eq_none (by rw [List.length_set]; omega)] at e
      cases e
  · rw [List.getElem?_set_ne hj] at e
    obtain ⟨w, a, b⟩ := s.at_ j S e
    exact ⟨w, by rw [List.getElem?_set_ne hj]; exact a, b⟩
theorem Slots.gone {ρ : Ty} {σ : L2.St} {G : Hp} (s : Slots ρ σ G) (i : Nat) : Slots (ρ.set i none) (σ.set i none) G := by
  refine ⟨by rw [List.length_set, List.length_set]; exact s.len, fun j S e => ?_⟩
  by_cases hj : i = j
  · subst hj
    by_cases hi : i < ρ.length
    · rw [List.getElem?_set_self hi] at e
      cases e
    · rw [List.getElem?_eq_none (by rw [List.length_set]; omega)] at e
      cases e
  · rw [List.getElem?_set_ne hj] at e
    obtain ⟨w, a, b⟩ := s.at_ j S e
    exact ⟨w, by rw [List.getElem?_set_ne hj]; exact a, b⟩

/-! ### the frame of a body -/
structure Fx where
  X : Cx
  G0 : Hp
  H0 : Hp
  M : List Addr
  W : WX
  tk : Takes X W
structure At (F : Fx) (ω : Ow) (G H : Hp) : Prop where
  gg : Same F.G0 G
  hh : ∀ a o, a ∉ F.M → F.H0 a = some o → H a = some o
  gh : Same G H
  fr : ∀ a, F.H0 a ≠ none → F.G0 a = none → G a = none
  mm : ∀ a ∈ F.M, H a ≠ none
  ow : ∀ p ∈ ω, G p.1 = none ∧ (F.H0 p.1 = none ∨ p.1 ∈ F.M) ∧ ∃ o, H p.1 = some o ∧ p.2.c o G
  nd : (ω.map (·.1)).Nodup
/-- a further step of a callee, or of an allocation -/
structure Step (G H G' H' : Hp) : Prop where
  gg : Same G G'
  hh : Same H H'
  gh : Same G' H'
  fr : ∀ a, H a ≠ none → G a = none → G' a = none
theorem At.step {F : Fx} {ω : Ow} {G H G' H' : Hp} (a : At F ω G H) (s : Step G H G' H') : At F ω G' H' where
  gg := a.gg.trans s.gg
  hh := fun b o hb e => s.hh b o (a.hh b o hb e)
  gh := s.gh
  fr := fun b h1 h2 => s.fr b (by
    by_cases hb : b ∈ F.M
    · exact a.mm b hb
    · cases e : F.H0 b with
      | none => exact absurd e h1
      | some o => rw [a.hh b o hb e]; simp) (a.fr b h1 h2)
  mm := fun b hb => by
    cases e : H b with
    | none => exact absurd e (a.mm b hb)
    | some o => rw [s.hh b o e]; simp
  ow := fun p hp => by
    obtain ⟨g, h0, o, ho, hc⟩ := a.ow p hp
    exact ⟨s.fr _ (by rw [ho]; simp) g, h0, o, s.hh _ _ ho, p.2.mo _ _ _ s.gg hc⟩
  nd := a.nd
theorem Step.refl {G H : Hp} (h : Same G H) : Step G H G H := ⟨Same.refl _, Same.refl _, h, fun _ _ e => e⟩
theorem Step.new {G H : Hp} {p : Addr} {o : HO} (h : Same G H) (hp : H p = none) : Step G H (upd G p o) (upd H p o) := by
  have hg : G p = none := h.free hp
  refine ⟨fun a u e => ?_, fun a u e => ?_, fun a u e => ?_, fun a h1 h2 => ?_⟩
  · rw [upd_ne (ne_of_none e hg)]; exact e
  · rw [upd_ne (ne_of_none e hp)]; exact e
  · by_cases ha : a = p
    · subst ha; rw [upd_same] at e ⊢; exact e
    · rw [upd_ne ha] at e ⊢; exact h _ _ e
  · by_cases ha : a = p
    · subst ha; exact absurd hp h1
    · rw [upd_ne ha]; exact h2
/-- a new object that G does not see -/
theorem Step.hid {G H : Hp} {p : Addr} {o : HO} (h : Same G H) (hp : H p = none) : Step G H G (upd H p o) := by
  refine ⟨Same.refl _, fun a u e => ?_, fun a u e => ?_, fun a _ h2 => h2⟩
  · rw [upd_ne (ne_of_none e hp)]; exact e
  · rw [upd_ne (ne_of_none (h _ _ e) hp)]; exact h _ _ e
theorem Step.trans {G H G1 H1 G2 H2 : Hp} (a : Step G H G1 H1) (b : Step G1 H1 G2 H2) : Step G H G2 H2 :=
  ⟨a.gg.trans b.gg, a.hh.trans b.hh, b.gh, fun x h1 h2 => b.fr x (by
    cases e : H x with
    | none => exact absurd e h1
    | some o => rw [a.hh x o e]; simp) (a.fr x h1 h2)⟩

/-! ### the weakest wishes -/
section
variable (X : Cx)
def EW (e : Expr) : TE := fun σ H Q => ∀ pins s, Inv X pins σ H s → wpAny (model X.prog X.w) X.A (eval e X.env) (EP X pins σ Q) X.xe s
def TW (e : Expr) : TT := fun σ H Q => ∀ pins s, Inv X pins σ H s → wpAny (model X.prog X.w) X.A (isTrue e X.env (eval e X.env)) (TP X pins σ Q) X.xe s
def AW (es : List Expr) : TA := fun σ H Q => ∀ pos pins s, Inv X pins σ H s → wpAny (model X.prog X.w) X.A (spliced (backTo pos (starEach es X.env))) (AP X pins σ Q) X.xe s
def SW (st : Stmt) : TS := fun D σ H => ∀ pins s, Inv X pins σ H s → wpAny (model X.prog X.w) X.A (exec st X.env) (SP X pins D) X.xe s
def BW (st : List Stmt) : TS := fun D σ H => ∀ pins s, Inv X pins σ H s → wpAny (model X.prog X.w) X.A (execs st X.env) (SP X pins D) X.xe s
end
section
variable {X : Cx}
theorem pe_w {e : Expr} : PE X e (EW X e) := ⟨fun pins s _ _ _ I h => h pins s I⟩
theorem pt_w {e : Expr} : PT X e (TW X e) := ⟨fun pins s _ _ _ I h => h pins s I⟩
theorem pa_w {es : List Expr} : PA X es (AW X es) := ⟨fun pos pins s _ _ _ I h => h pos pins s I⟩
theorem ps_w {st : Stmt} : PS X st (SW X st) := ⟨fun pins s _ _ _ I h => h pins s I⟩
theorem pss_w {st : List Stmt} : PSs X st (BW X st) := ⟨fun pins s _ _ _ I h => h pins s I⟩
theorem ew_of {e : Expr} {t : TE} (h : PE X e t) {σ : L2.St} {H : Hp} {Q : VK} (q : t σ H Q) : EW X e σ H Q := fun pins s I => h.run pins s σ H Q I q
theorem tw_of {e : Expr} {t : TT} (h : PT X e t) {σ : L2.St} {H : Hp} {Q : Bool → Hp → Prop} (q : t σ H Q) : TW X e σ H Q := fun pins s I => h.run pins s σ H Q I q
theorem aw_of {es : List Expr} {t : TA} (h : PA X es t) {σ : L2.St} {H : Hp} {Q : List V → Hp → Prop} (q : t σ H Q) : AW X es σ H Q := fun pos pins s I => h.run pos pins s σ H Q I q
theorem sw_of {st : Stmt} {t : TS} (h : PS X st t) {D : Ends} {σ : L2.St} {H : Hp} (q : t D σ H) : SW X st D σ H := fun pins s I => h.run pins s σ H D I q
theorem bw_of {st : List Stmt} {t : TS} (h : PSs X st t) {D : Ends} {σ : L2.St} {H : Hp} (q : t D σ H) : BW X st D σ H := fun pins s I => h.run pins s σ H D I q
end

/-! ### what an expression gives -/
def ER (F : Fx) (ρ : Ty) (ω : Ow) (e : Expr) (R : Rl) (ω' : Ow) : Prop :=
  ∀ σ G H, At F ω G H → Slots ρ σ G → ∀ Q : VK, (∀ v G2 H2, Same G G2 → At F ω' G2 H2 → R.r v G2 → Q v H2) → EW F.X e σ H Q
def TR (F : Fx) (ρ : Ty) (ω : Ow) (e : Expr) (b : Bool) (ω' : Ow) : Prop :=
  ∀ σ G H, At F ω G H → Slots ρ σ G → ∀ Q : Bool → Hp → Prop, (∀ G2 H2, Same G G2 → At F ω' G2 H2 → Q b H2) → TW F.X e σ H Q
def AR (F : Fx) (ρ : Ty) (ω : Ow) (es : List Expr) (Rs : List Rl) (ω' : Ow) : Prop :=
  ∀ σ G H, At F ω G H → Slots ρ σ G → ∀ Q : List V → Hp → Prop, (∀ vs G2 H2, Same G G2 → At F ω' G2 H2 → All2 Rs vs G2 → Q vs H2) → AW F.X es σ H Q
/-- it raises -/
def EX (F : Fx) (ρ : Ty) (ω : Ow) (e : Expr) (P : Er) (ω' : Ow) : Prop :=
  ∀ σ G H, At F ω G H → Slots ρ σ G → (∀ cls d G2 H2, Same G G2 → At F ω' G2 H2 → P cls d G2 → F.W cls d σ H2) → EW F.X e σ H (fun _ _ => False)
end W1
set_option maxRecDepth 100000
set_option maxHeartbeats 2000000
namespace W1
open PySem PySem.Spec PyProof.Rows L2

/-! ### relations -/
def rEqV (x : V) : Rl := ⟨fun v _ => v = x, fun _ _ _ _ h => h⟩
abbrev rInt (i : Int) : Rl := rEqV (.int i)
abbrev rBool (b : Bool) : Rl := rEqV (.bl b)
abbrev rStr (x : Str) : Rl := rEqV (.str x)
abbrev rNon : Rl := rEqV .non
abbrev rRef (p : Addr) : Rl := rEqV (.ref p)
def rLst (Rs : List Rl) : Rl := ⟨fun v H => ∃ p vs, v = .ref p ∧ H p = some (.lst vs) ∧ All2 Rs vs H, fun _ _ _ e ⟨p, vs, a, b, c⟩ => ⟨p, vs, a, e _ _ b, c.up e⟩⟩
theorem sameT {K : PySem.W.Frag} {H H' : Hp} {a : Addr} {xs : List V} (e : Same H H') (h : SqT K H a xs) : SqT K H' a xs := by
  rcases h with (h | ⟨o, h⟩) | h
  · exact .inl (.inl (e _ _ h))
  · exact .inl (.inr ⟨o, e _ _ h⟩)
  · exact .inr h
def rTup (Rs : List Rl) : Rl := ⟨fun v H => ∃ p vs, v = .ref p ∧ H p = some (.tup vs) ∧ All2 Rs vs H, fun _ _ _ e ⟨p, vs, a, b, c⟩ => ⟨p, vs, a, e _ _ b, c.up e⟩⟩
/-- named things, in order -/
def NR {κ : Type} : List (κ × Rl) → List (κ × V) → Hp → Prop
  | [], [], _ => True
  | (k, R) :: Rs, (k', v) :: vs, H => k = k' ∧ R.r v H ∧ NR Rs vs H
  | _, _, _ => False
theorem NR.up {κ : Type} : ∀ {Rs : List (κ × Rl)} {vs : List (κ × V)} {H H' : Hp}, Same H H' → NR Rs vs H → NR Rs vs H'
  | [], [], _, _, _, _ => trivial
  | (_, R) :: _, (_, _) :: _, _, _, e, ⟨k, a, b⟩ => ⟨k, R.mo _ _ _ e a, NR.up e b⟩
  | [], _ :: _, _, _, _, h => h.elim
  | _ :: _, [], _, _, _, h => h.elim
theorem NR.look : ∀ {Rs : List (Str × Rl)} {vs : List (Str × V)} {H : Hp} {f : Str} {R : Rl}, NR Rs vs H → Rs.lookup f = some R → ∃ v, vs.lookup f = some v ∧ R.r v H
  | [], _, _, _, _, _, e => by cases e
  | (k, S) :: Rs, (k', v) :: vs, H, f, R, ⟨hk, a, b⟩, e => by
    subst hk
    by_cases h : f = k
    · subst h
      rw [List.lookup_cons_self] at e
      cases e
      exact ⟨v, List.lookup_cons_self, a⟩
    · have hb : (f == k) = false := by simpa using h
      rw [List.lookup_cons, hb] at e
      obtain ⟨w, x, y⟩ := NR.look b e
      exact ⟨w, by rw [List.lookup_cons, hb]; exact x, y⟩
  | _ :: _, [], _, _, _, h, _ => h.elim
theorem NR.lookN : ∀ {Rs : List (Str × Rl)} {vs : List (Str × V)} {H : Hp} {f : Str}, NR Rs vs H → Rs.lookup f = none → vs.lookup f = none
  | [], [], _, _, _, _ => rfl
  | (k, S) :: Rs, (k', v) :: vs, H, f, ⟨hk, a, b⟩, e => by
    subst hk
    by_cases h : f = k
    · subst h
      rw [List.lookup_cons_self] at e
      cases e
    · have hb : (f == k) = false := by simpa using h
      rw [List.lookup_cons, hb] at e ⊢
      exact NR.lookN b e
  | [], _ :: _, _, _, h, _ => h.elim
  | _ :: _, [], _, _, h, _ => h.elim
def rIns (C : Addr) (fs : List (Str × Rl)) : Rl := ⟨fun v H => ∃ p dx vs, v = .ref p ∧ H p = some (.ins C dx vs) ∧ NR fs vs H, fun _ _ _ e ⟨p, dx, vs, a, b, c⟩ => ⟨p, dx, vs, a, e _ _ b, c.up e⟩⟩

/-! ### operators -/
/-- a two-place operation -/
def Bop (F : Fx) (ω : Ow) (f : Value → Value → Sem Value) (A B R : Rl) : Prop :=
  ∃ r : R2, OpR F.X f r ∧ ∀ x y G H, At F ω G H → A.r x G → B.r y G → ∀ Q : VK, (∀ v G2 H2, Same G G2 → At F ω G2 H2 → R.r v G2 → Q v H2) → r x y H Q
def Uop (F : Fx) (ω : Ow) (f : Value → Sem Value) (A R : Rl) : Prop :=
  ∃ r : V → Hp → VK → Prop, UnR F.X f r ∧ ∀ x G H, At F ω G H → A.r x G → ∀ Q : VK, (∀ v G2 H2, Same G G2 → At F ω G2 H2 → R.r v G2 → Q v H2) → r x H Q
def Cop (F : Fx) (ω : Ow) (f : Value) (As : List Rl) (R : Rl) : Prop :=
  ∃ r : List V → Hp → VK → Prop, CallR F.X f r ∧ ∀ xs G H, At F ω G H → All2 As xs G → ∀ Q : VK, (∀ v G2 H2, Same G G2 → At F ω G2 H2 → R.r v G2 → Q v H2) → r xs H Q
def Iop (F : Fx) (ω : Ow) (A B R : Rl) : Prop :=
  ∃ r : R2, IxR F.X r ∧ ∀ x y G H, At F ω G H → A.r x G → B.r y G → ∀ Q : VK, (∀ v G2 H2, Same G G2 → At F ω G2 H2 → R.r v G2 → Q v H2) → r x y H Q
section
variable {F : Fx} {ρ : Ty} {ω w1 w2 w3 : Ow} {a b c e : Expr} {A B C R S : Rl} {pos p : Pos} {x : Str}
theorem er_eq (h : ER F ρ ω e R w1) (k : R = S) : ER F ρ ω e S w1 := k ▸ h
theorem er_var (i : Nat) (h : ρ[i]? = some (some R)) (hN : F.X.N[i]? = some x := by rfl) (hv : Vis F.X.env.scope x := by first | exact Or.inl rfl | exact Or.inr (Or.inl rfl) | exact Or.inr (Or.inr rfl))
    (hd : (x == ("__debug__" : Str)) = false := by decide) (hcd : (x == ("__classdict__" : Str)) = false := by decide) : ER F ρ ω (.Name x pos) R ω := fun σ G H at_ sl Q q => by
  obtain ⟨v, h1, h2⟩ := sl.at_ i R h
  exact ew_of (pe_var hN hv hd hcd) ⟨v, h1, q v G H (Same.refl _) at_ h2⟩
theorem er_int {i : Int} {j : Nat} : ER F ρ ω (.Constant (.int i) j pos) (rInt i) ω := fun σ G H at_ sl Q q => ew_of pe_int (q _ G H (Same.refl _) at_ rfl)
theorem er_bl {i : Bool} {j : Nat} : ER F ρ ω (.Constant (.bool i) j pos) (rBool i) ω := fun σ G H at_ sl Q q => ew_of pe_bl (q _ G H (Same.refl _) at_ rfl)
theorem er_str {i : Str} {j : Nat} : ER F ρ ω (.Constant (.str i) j pos) (rStr i) ω := fun σ G H at_ sl Q q => ew_of pe_str (q _ G H (Same.refl _) at_ rfl)
theorem er_non {j : Nat} : ER F ρ ω (.Constant .none j pos) rNon ω := fun σ G H at_ sl Q q => ew_of pe_non (q _ G H (Same.refl _) at_ rfl)
theorem er_glob {v : V} {u : Value} (hg : Gl F.X x) (hm : F.X.mg x = some u) (r : RelV v u) (hd : (x == ("__debug__" : Str)) = false := by decide) : ER F ρ ω (.Name x pos) (rEqV v) ω :=
  fun σ G H at_ sl Q q => ew_of (pe_glob hg hm r hd) (q _ G H (Same.refl _) at_ rfl)
theorem er_bin {op : Operator} (ha : ER F ρ ω a A w1) (hb : ER F ρ w1 b B w2) (h : Bop F w2 (binaryOp op) A B R) : ER F ρ ω (.BinOp a op b pos) R w2 := fun σ G H at_ sl Q q => by
  obtain ⟨r, ho, k⟩ := h
  refine ew_of (pe_op ho pe_w pe_w) (ha σ G H at_ sl _ fun x G1 H1 s1 at1 rx => hb σ G1 H1 at1 (sl.up s1) _ fun y G2 H2 s2 at2 ry => ?_)
  exact k x y G2 H2 at2 (A.mo _ _ _ s2 rx) ry Q fun v G3 H3 s3 at3 rv => q v G3 H3 ((s1.trans s2).trans s3) at3 rv
theorem er_un {op : UnaryOp} (ha : ER F ρ ω a A w1) (h : Uop F w1 (unaryOp op) A R) : ER F ρ ω (.UnaryOp op a pos) R w1 := fun σ G H at_ sl Q q => by
  obtain ⟨r, ho, k⟩ := h
  refine ew_of (pe_un ho pe_w) (ha σ G H at_ sl _ fun x G1 H1 s1 at1 rx => ?_)
  exact k x G1 H1 at1 rx Q fun v G3 H3 s3 at3 rv => q v G3 H3 (s1.trans s3) at3 rv
theorem er_cmp {op : CmpOp} (ha : ER F ρ ω a A w1) (hb : ER F ρ w1 b B w2) (h : Bop F w2 (compareOp op) A B R) (hm : behindInMarks op b = false := by first | exact nomark _ | rfl) : ER F ρ ω (.Compare a [op] [b] pos) R w2 := fun σ G H at_ sl Q q => by
  obtain ⟨r, ho, k⟩ := h
  refine ew_of (pe_cmpR ho pe_w pe_w hm) (ha σ G H at_ sl _ fun x G1 H1 s1 at1 rx => hb σ G1 H1 at1 (sl.up s1) _ fun y G2 H2 s2 at2 ry => ?_)
  exact k x y G2 H2 at2 (A.mo _ _ _ s2 rx) ry Q fun v G3 H3 s3 at3 rv => q v G3 H3 ((s1.trans s2).trans s3) at3 rv
theorem tr_cmp {op : CmpOp} {k : Bool} (ha : ER F ρ ω a A w1) (hb : ER F ρ w1 b B w2) (h : Bop F w2 (compareOp op) A B (rBool k)) (hm : behindInMarks op b = false := by first | exact nomark _ | rfl) : TR F ρ ω (.Compare a [op] [b] pos) k w2 := fun σ G H at_ sl Q q => by
  obtain ⟨r, ho, k'⟩ := h
  refine tw_of (pt_cmpR ho pe_w pe_w hm) (ha σ G H at_ sl _ fun x G1 H1 s1 at1 rx => hb σ G1 H1 at1 (sl.up s1) _ fun y G2 H2 s2 at2 ry => ?_)
  exact k' x y G2 H2 at2 (A.mo _ _ _ s2 rx) ry _ fun v G3 H3 s3 at3 rv => ⟨k, rv, q G3 H3 ((s1.trans s2).trans s3) at3⟩
theorem tr_val {k : Bool} (h : ER F ρ ω e (rBool k) w1) (he : ∀ whole, isTrue e F.X.env whole = (do let v ← whole; standAt e.pos; holding [v] (truthy v)) := by intro _; rfl) : TR F ρ ω e k w1 := fun σ G H at_ sl Q q =>
  tw_of (pt_val pe_w he) (h σ G H at_ sl _ fun v G2 H2 s a r => ⟨k, r, q G2 H2 s a⟩)
theorem tr_not {k : Bool} (h : TR F ρ ω e k w1) : TR F ρ ω (.UnaryOp .Not e pos) (!k) w1 := fun σ G H at_ sl Q q => tw_of (pt_not pt_w) (h σ G H at_ sl _ fun G2 H2 s a => q G2 H2 s a)
theorem er_not {k : Bool} (h : ER F ρ ω e (rBool k) w1) : ER F ρ ω (.UnaryOp .Not e pos) (rBool (!k)) w1 := fun σ G H at_ sl Q q => ew_of (pe_not pe_w) (h σ G H at_ sl _ fun v G2 H2 s a r => ⟨k, r, q _ G2 H2 s a rfl⟩)
theorem tr_to {k k' : Bool} (h : TR F ρ ω e k w1) (z : k = k') : TR F ρ ω e k' w1 := z ▸ h
/-- what comes of the words and, or, if: behind the first operand nothing owned changes -/
def PWR (F : Fx) (ρ : Ty) (ω : Ow) (e : Expr) (k : Bool) (w1 : Ow) : Prop := ∃ t, PW F.X e t ∧ ∀ σ G H, At F ω G H → Slots ρ σ G → ∀ Q : Bool → Hp → Prop, (∀ G2 H2, Same G G2 → At F w1 G2 H2 → Q k H2) → t σ H Q
theorem PWR.tr {k : Bool} (h : PWR F ρ ω e k w1) : TR F ρ ω e k w1 := fun σ G H at_ sl Q q => by
  obtain ⟨t, hp, hk⟩ := h
  exact tw_of hp.pt (hk σ G H at_ sl Q q)
theorem tr_and1 {k : Bool} (h : TR F ρ ω e k w1) : PWR F ρ ω (.BoolOp .And [e] pos) k w1 := ⟨_, pw_and1 pt_w, h⟩
theorem tr_or1 {k : Bool} (h : TR F ρ ω e k w1) : PWR F ρ ω (.BoolOp .Or [e] pos) k w1 := ⟨_, pw_or1 pt_w, h⟩
theorem tr_and {k m : Bool} {rest : List Expr} (h : TR F ρ ω a k w1) (g : k = true → PWR F ρ w1 (.BoolOp .And (b :: rest) pos) m w1) : PWR F ρ ω (.BoolOp .And (a :: b :: rest) pos) (k && m) w1 := by
  cases k with
  | true =>
    obtain ⟨t, hp, hk⟩ := g rfl
    exact ⟨_, pw_and pt_w hp, fun σ G H at_ sl Q q => h σ G H at_ sl _ fun G2 H2 s a => iteT (hk σ G2 H2 a (sl.up s) Q fun G3 H3 s3 a3 => q G3 H3 (s.trans s3) a3)⟩
  | false => exact ⟨_, pw_and (tB' := fun _ _ _ => False) pt_w ⟨fun _ _ _ _ _ _ _ h => h.elim⟩, fun σ G H at_ sl Q q => h σ G H at_ sl _ fun G2 H2 s a => iteF (q G2 H2 s a)⟩
theorem tr_or {k m : Bool} {rest : List Expr} (h : TR F ρ ω a k w1) (g : k = false → PWR F ρ w1 (.BoolOp .Or (b :: rest) pos) m w1) : PWR F ρ ω (.BoolOp .Or (a :: b :: rest) pos) (k || m) w1 := by
  cases k with
  | false =>
    obtain ⟨t, hp, hk⟩ := g rfl
    exact ⟨_, pw_or pt_w hp, fun σ G H at_ sl Q q => h σ G H at_ sl _ fun G2 H2 s a => iteF (hk σ G2 H2 a (sl.up s) Q fun G3 H3 s3 a3 => q G3 H3 (s.trans s3) a3)⟩
  | true => exact ⟨_, pw_or (tB' := fun _ _ _ => False) pt_w ⟨fun _ _ _ _ _ _ _ h => h.elim⟩, fun σ G H at_ sl Q q => h σ G H at_ sl _ fun G2 H2 s a => iteT (q G2 H2 s a)⟩
theorem er_one {op} (h : ER F ρ ω e R w1) : ER F ρ ω (.BoolOp op [e] pos) R w1 := fun σ G H at_ sl Q q => ew_of (pe_one pe_w) (h σ G H at_ sl Q q)
theorem er_and {k m : Bool} {rest : List Expr} (h : ER F ρ ω a (rBool k) w1) (g : k = true → ER F ρ w1 (.BoolOp .And (b :: rest) pos) (rBool m) w1) : ER F ρ ω (.BoolOp .And (a :: b :: rest) pos) (rBool (k && m)) w1 := fun σ G H at_ sl Q q => by
  refine ew_of (pe_and pe_w pe_w) (h σ G H at_ sl _ fun v G2 H2 s a r => ⟨k, r, ?_⟩)
  cases k with
  | true => exact iteT (g rfl σ G2 H2 a (sl.up s) Q fun v G3 H3 s3 a3 r3 => q v G3 H3 (s.trans s3) a3 r3)
  | false => exact iteF (q _ G2 H2 s a rfl)
theorem er_or {k m : Bool} {rest : List Expr} (h : ER F ρ ω a (rBool k) w1) (g : k = false → ER F ρ w1 (.BoolOp .Or (b :: rest) pos) (rBool m) w1) : ER F ρ ω (.BoolOp .Or (a :: b :: rest) pos) (rBool (k || m)) w1 := fun σ G H at_ sl Q q => by
  refine ew_of (pe_or pe_w pe_w) (h σ G H at_ sl _ fun v G2 H2 s a r => ⟨k, r, ?_⟩)
  cases k with
  | false => exact iteF (g rfl σ G2 H2 a (sl.up s) Q fun v G3 H3 s3 a3 r3 => q v G3 H3 (s.trans s3) a3 r3)
  | true => exact iteT (q _ G2 H2 s a rfl)
theorem er_fld {C : Addr} {fs : List (Str × Rl)} {f : Str} (h : ER F ρ ω e (rIns C fs) w1) (hc : Cls F.X.K C) (hn : NoAttr F.X.K C f) (hl : fs.lookup f = some R) (hb : attributeBase e f F.X.env (eval e F.X.env) = eval e F.X.env := by rfl) :
    ER F ρ ω (.Attribute e f pos) R w1 := fun σ G H at_ sl Q q => by
  refine ew_of (pe_fld pe_w hb) (h σ G H at_ sl _ fun v G2 H2 s a r => ?_)
  obtain ⟨p, dx, vs, rfl, h1, h2⟩ := r
  obtain ⟨w, h3, h4⟩ := h2.look hl
  exact ⟨p, C, dx, vs, w, rfl, a.gh _ _ h1, hc, hn, h3, q w G2 H2 s a h4⟩
theorem ar_nil : AR F ρ ω [] [] ω := fun σ G H at_ sl Q q => aw_of pa_nil (q [] G H (Same.refl _) at_ trivial)
theorem ar_cons {es : List Expr} {Rs : List Rl} (h : ER F ρ ω e R w1) (hr : AR F ρ w1 es Rs w2) (hs : starEach (e :: es) F.X.env = (false, eval e F.X.env) :: starEach es F.X.env := by rfl) : AR F ρ ω (e :: es) (R :: Rs) w2 := fun σ G H at_ sl Q q => by
  refine aw_of (pa_cons pe_w pa_w hs) (h σ G H at_ sl _ fun v G2 H2 s a r => hr σ G2 H2 a (sl.up s) _ fun vs G3 H3 s3 a3 r3 => q _ G3 H3 (s.trans s3) a3 ⟨R.mo _ _ _ s3 r, r3⟩)
theorem er_lst {es : List Expr} {Rs : List Rl} (h : AR F ρ ω es Rs w1) (hz : Rs.length ≤ 1000) : ER F ρ ω (.List es pos) (rLst Rs) w1 := fun σ G H at_ sl Q q => by
  refine ew_of (pe_lst pa_w) (h σ G H at_ sl _ fun vs G2 H2 s a r => ⟨Nat.le_of_lt (small1000 (by rw [← r.len]; exact hz)), fun p hp => ?_⟩)
  have st := Step.new (o := .lst vs) a.gh hp
  exact q _ _ _ (s.trans st.gg) (a.step st) ⟨p, vs, rfl, upd_same, r.up st.gg⟩
theorem er_tup {es : List Expr} {Rs : List Rl} {j : Nat} (h : AR F ρ ω es Rs w1) (hz : Rs.length ≤ 1000) : ER F ρ ω (.Tuple es j pos) (rTup Rs) w1 := fun σ G H at_ sl Q q => by
  refine ew_of (pe_tup pa_w) (h σ G H at_ sl _ fun vs G2 H2 s a r => ⟨Nat.le_of_lt (small1000 (by rw [← r.len]; exact hz)), fun p hp => ?_⟩)
  have st := Step.new (o := .tup vs) a.gh hp
  exact q _ _ _ (s.trans st.gg) (a.step st) ⟨p, vs, rfl, upd_same, r.up st.gg⟩
theorem er_ix (ha : ER F ρ ω a A w1) (hb : ER F ρ w1 b B w2) (h : Iop F w2 A B R) (hs : PlainIx b := by exact fun _ _ => rfl) : ER F ρ ω (.Subscript a b pos) R w2 := fun σ G H at_ sl Q q => by
  obtain ⟨r, ho, k⟩ := h
  refine ew_of (pe_ix ho pe_w pe_w hs) (ha σ G H at_ sl _ fun x G1 H1 s1 at1 rx => hb σ G1 H1 at1 (sl.up s1) _ fun y G2 H2 s2 at2 ry => ?_)
  exact k x y G2 H2 at2 (A.mo _ _ _ s2 rx) ry Q fun v G3 H3 s3 at3 rv => q v G3 H3 ((s1.trans s2).trans s3) at3 rv
theorem er_callB {id : String} {As : List Rl} {es : List Expr} (hc : Cop F w1 (.builtin id) As R) (hg : Gl F.X x) (hm : F.X.mg x = none) (hv : bootBuiltins x = some (.builtin id)) (ha : AR F ρ ω (e :: es) As w1) (hn : x ≠ "__name__" := by decide) (hdb : (x == ("__debug__" : Str)) = false := by decide)
    (he : starEach (e :: es) F.X.env = (false, eval e F.X.env) :: starEach es F.X.env := by rfl) (hpl : (backTo pos (starEach es F.X.env)).any (·.1) = false := by rfl) : ER F ρ ω (.Call (.Name x p) (e :: es) [] pos) R w1 := fun σ G H at_ sl Q q => by
  obtain ⟨r, ho, k⟩ := hc
  refine ew_of (pe_callB ho hg hm hv pa_w hn hdb he hpl) (ha σ G H at_ sl _ fun vs G2 H2 s a r => ?_)
  exact k vs G2 H2 a r Q fun v G3 H3 s3 a3 r3 => q v G3 H3 (s.trans s3) a3 r3
theorem er_callTy {id : String} {As : List Rl} {es : List Expr} (hc : Cop F w1 (.type id) As R) (hg : Gl F.X x) (hm : F.X.mg x = none) (hv : bootBuiltins x = some (.type id)) (ha : AR F ρ ω (e :: es) As w1) (hn : x ≠ "__name__" := by decide) (hdb : (x == ("__debug__" : Str)) = false := by decide)
    (he : starEach (e :: es) F.X.env = (false, eval e F.X.env) :: starEach es F.X.env := by rfl) (hpl : (backTo pos (starEach es F.X.env)).any (·.1) = false := by rfl) : ER F ρ ω (.Call (.Name x p) (e :: es) [] pos) R w1 := fun σ G H at_ sl Q q => by
  obtain ⟨r, ho, k⟩ := hc
  refine ew_of (pe_callTy ho hg hm hv pa_w hn hdb he hpl) (ha σ G H at_ sl _ fun vs G2 H2 s a r => ?_)
  exact k vs G2 H2 a r Q fun v G3 H3 s3 a3 r3 => q v G3 H3 (s.trans s3) a3 r3
end
end W1
set_option maxRecDepth 100000
set_option maxHeartbeats 2000000
namespace W1
open PySem PySem.Spec PyProof.Rows L2

section
variable {F : Fx} {ω : Ow} {A B R : Rl}
theorem bop_of {f : Value → Value → Sem Value} {r : R2} {x y z : V} (ho : OpR F.X f r) (h : ∀ (H : Hp) (Q : VK), Q z H → r x y H Q) : Bop F ω f (rEqV x) (rEqV y) (rEqV z) :=
  ⟨r, ho, fun x' y' G H at_ hx hy Q q => by
    have e1 : x' = x := hx
    have e2 : y' = y := hy
    subst e1 e2
    exact h H Q (q z G H (Same.refl _) at_ rfl)⟩
theorem uop_of {f : Value → Sem Value} {r : V → Hp → VK → Prop} {x z : V} (ho : UnR F.X f r) (h : ∀ (H : Hp) (Q : VK), Q z H → r x H Q) : Uop F ω f (rEqV x) (rEqV z) :=
  ⟨r, ho, fun x' G H at_ hx Q q => by
    have e1 : x' = x := hx
    subst e1
    exact h H Q (q z G H (Same.refl _) at_ rfl)⟩
theorem cop_of1 {f : Value} {r : List V → Hp → VK → Prop} {x z : V} (ho : CallR F.X f r) (h : ∀ (H : Hp) (Q : VK), Q z H → r [x] H Q) : Cop F ω f [rEqV x] (rEqV z) :=
  ⟨r, ho, fun xs G H at_ hx Q q => by
    match xs, hx with
    | [x'], ⟨e, _⟩ =>
      have e1 : x' = x := e
      subst e1
      exact h H Q (q z G H (Same.refl _) at_ rfl)⟩
/-! ints -/
theorem op_mulZ {X : Cx} : OpR X (binaryOp .Mult) (rI IntMulOk fun i j => .int (i * j)) := opI fun _ _ _ _ _ _ _ hc q => mul_int q hc
def CDivZ (_ j : Int) : Prop := j ≠ 0 ∧ j.natAbs.log2 < 9000
theorem op_fdivZ {X : Cx} : OpR X (binaryOp .FloorDiv) (rI CDivZ fun i j => .int (i.fdiv j)) := opI fun _ _ _ _ _ _ _ hc q => floordiv_int hc.1 q (.inl (PyProof.noPylong_of_log2 hc.2))
theorem bop_add {i j : Int} : Bop F ω (binaryOp .Add) (rInt i) (rInt j) (rInt (i + j)) := bop_of op_add fun _ _ q => ⟨i, j, rfl, rfl, q⟩
theorem bop_sub {i j : Int} : Bop F ω (binaryOp .Sub) (rInt i) (rInt j) (rInt (i - j)) := bop_of op_sub fun _ _ q => ⟨i, j, rfl, rfl, q⟩
theorem bop_mul {i j : Int} (h : IntMulOk i j) : Bop F ω (binaryOp .Mult) (rInt i) (rInt j) (rInt (i * j)) := bop_of op_mulZ fun _ _ q => ⟨i, j, rfl, rfl, h, q⟩
theorem bop_fdiv {i j : Int} (h : CDivZ i j) : Bop F ω (binaryOp .FloorDiv) (rInt i) (rInt j) (rInt (i.fdiv j)) := bop_of op_fdivZ fun _ _ q => ⟨i, j, rfl, rfl, h, q⟩
theorem bop_mod {i j : Int} (h : j ≠ 0) : Bop F ω (binaryOp .Mod) (rInt i) (rInt j) (rInt (i.fmod j)) := bop_of op_modN fun _ _ q => ⟨i, j, rfl, rfl, h, q⟩
theorem bop_pow {i j : Int} (h : CPow i j) : Bop F ω (binaryOp .Pow) (rInt i) (rInt j) (rInt (i ^ j.toNat)) := bop_of op_pow fun _ _ q => ⟨i, j, rfl, rfl, h, q⟩
theorem bop_lt {i j : Int} : Bop F ω (compareOp .Lt) (rInt i) (rInt j) (rBool (decide (i < j))) := bop_of op_lt fun _ _ q => ⟨i, j, rfl, rfl, q⟩
theorem bop_le {i j : Int} : Bop F ω (compareOp .LtE) (rInt i) (rInt j) (rBool (decide (i ≤ j))) := bop_of op_le fun _ _ q => ⟨i, j, rfl, rfl, q⟩
theorem bop_gt {i j : Int} : Bop F ω (compareOp .Gt) (rInt i) (rInt j) (rBool (decide (j < i))) := bop_of op_gt fun _ _ q => ⟨i, j, rfl, rfl, q⟩
theorem bop_ge {i j : Int} : Bop F ω (compareOp .GtE) (rInt i) (rInt j) (rBool (decide (j ≤ i))) := bop_of op_ge fun _ _ q => ⟨i, j, rfl, rfl, q⟩
theorem bop_eq {x y : V} (h : scal x y = true) : Bop F ω (compareOp .Eq) (rEqV x) (rEqV y) (rBool (decide (x = y))) := bop_of op_eq fun _ _ q => ⟨h, q⟩
theorem bop_ne {x y : V} (h : scal x y = true) : Bop F ω (compareOp .NotEq) (rEqV x) (rEqV y) (rBool (!decide (x = y))) := bop_of op_ne fun _ _ q => ⟨h, q⟩
theorem bop_isN {x : V} : Bop F ω (compareOp .Is) (rEqV x) rNon (rBool (decide (x = .non))) := bop_of op_isN fun _ _ q => ⟨rfl, q⟩
theorem bop_notN {x : V} : Bop F ω (compareOp .IsNot) (rEqV x) rNon (rBool (!decide (x = .non))) := bop_of op_notN fun _ _ q => ⟨rfl, q⟩
theorem dec_i {i j : Int} : decide (V.int i = V.int j) = decide (i = j) := by
  by_cases h : i = j
  · subst h; simp
  · rw [decide_eq_false h, decide_eq_false (fun e => h (V.int.inj e))]
theorem bop_eqI {i j : Int} : Bop F ω (compareOp .Eq) (rInt i) (rInt j) (rBool (decide (i = j))) := by rw [← dec_i]; exact bop_eq rfl
theorem bop_neI {i j : Int} : Bop F ω (compareOp .NotEq) (rInt i) (rInt j) (rBool (!decide (i = j))) := by rw [← dec_i]; exact bop_ne rfl
theorem uop_neg {i : Int} : Uop F ω (unaryOp .USub) (rInt i) (rInt (-i)) := uop_of un_neg fun _ _ q => ⟨i, rfl, q⟩
theorem cop_abs {i : Int} : Cop F ω (.builtin "abs") [rInt i] (rInt (if i < 0 then -i else i)) := cop_of1 call_abs fun _ _ q => ⟨i, rfl, q⟩
theorem cop_int {i : Int} : Cop F ω (.type "int") [rInt i] (rInt i) := cop_of1 call_int1 fun _ _ q => .inl ⟨i, rfl, q⟩
theorem cop_intB {b : Bool} : Cop F ω (.type "int") [rBool b] (rInt (if b then 1 else 0)) := cop_of1 call_int1 fun _ _ q => .inr ⟨b, rfl, q⟩
theorem cop_bool {i : Int} : Cop F ω (.type "bool") [rInt i] (rBool (i != 0)) := cop_of1 call_bool1 fun _ _ q => .inl ⟨i, rfl, q⟩
theorem cop_strI {i : Int} (h : i.natAbs.log2 < 1920) : Cop F ω (.type "str") [rInt i] (rStr (toString i)) := cop_of1 call_str_int fun _ _ q => ⟨i, rfl, h, q⟩
/-! lists -/
theorem all1 {R : Rl} {vs : List V} {H : Hp} (h : All2 [R] vs H) : ∃ v, vs = [v] ∧ R.r v H := by
  match vs, h with
  | [v], ⟨a, _⟩ => exact ⟨v, rfl, a⟩
theorem all2 {R S : Rl} {vs : List V} {H : Hp} (h : All2 [R, S] vs H) : ∃ v w, vs = [v, w] ∧ R.r v H ∧ S.r w H := by
  match vs, h with
  | [v, w], ⟨a, b, _⟩ => exact ⟨v, w, rfl, a, b⟩
theorem cop_lenL {Rs : List Rl} : Cop F ω (.builtin "len") [rLst Rs] (rInt (Rs.length : Int)) := by
  refine ⟨_, call_len_seq, fun xs G H at_ hx Q q => ?_⟩
  obtain ⟨x, rfl, p, vs, rfl, h1, h2⟩ := all1 hx
  have e2 : (vs.length : Int) = (Rs.length : Int) := by rw [h2.len]
  refine ⟨p, vs, rfl, .inl (SqL.of (at_.gh _ _ h1)), ?_⟩
  exact q _ G H (Same.refl _) at_ (congrArg V.int e2)
theorem cop_lenT {Rs : List Rl} : Cop F ω (.builtin "len") [rTup Rs] (rInt (Rs.length : Int)) := by
  refine ⟨_, call_len_seq, fun xs G H at_ hx Q q => ?_⟩
  obtain ⟨x, rfl, p, vs, rfl, h1, h2⟩ := all1 hx
  have e2 : (vs.length : Int) = (Rs.length : Int) := by rw [h2.len]
  refine ⟨p, vs, rfl, .inr (SqT.of (at_.gh _ _ h1)), ?_⟩
  exact q _ G H (Same.refl _) at_ (congrArg V.int e2)
theorem iop_L {Rs : List Rl} {i : Int} {n : Nat} (e : ixN Rs.length i = some n) (h : Rs[n]? = some R) : Iop F ω (rLst Rs) (rInt i) R :=
  ⟨_, ix_list, fun x y G H at_ hx hy Q q => by
    obtain ⟨p, vs, rfl, h1, h2⟩ := hx
    obtain ⟨v, h3, h4⟩ := h2.get h
    have e2 : y = V.int i := hy
    refine ⟨p, vs, i, v, rfl, e2, SqL.of (at_.gh _ _ h1), ?_, q v G H (Same.refl _) at_ h4⟩
    unfold atI
    rw [← h2.len, e]
    exact h3⟩
theorem iop_T {Rs : List Rl} {i : Int} {n : Nat} (e : ixN Rs.length i = some n) (h : Rs[n]? = some R) : Iop F ω (rTup Rs) (rInt i) R :=
  ⟨_, ix_tup, fun x y G H at_ hx hy Q q => by
    obtain ⟨p, vs, rfl, h1, h2⟩ := hx
    obtain ⟨v, h3, h4⟩ := h2.get h
    have e2 : y = V.int i := hy
    refine ⟨p, vs, i, v, rfl, e2, SqT.of (at_.gh _ _ h1), ?_, q v G H (Same.refl _) at_ h4⟩
    unfold atI
    rw [← h2.len, e]
    exact h3⟩
end

end W1
set_option maxRecDepth 100000
set_option maxHeartbeats 2000000
namespace W1
open PySem PySem.Spec PyProof.Rows L2

/-! ### what may come behind -/
structure Kn where
  nx : Ty → Ow → Prop := fun _ _ => False
  rt : Rl → Ow → Prop := fun _ _ => False
  bk : Ty → Ow → Prop := fun _ _ => False
  ct : Ty → Ow → Prop := fun _ _ => False
  ex : Ty → Ow → Er → Prop := fun _ _ _ => False
structure Post (F : Fx) (K : Kn) (D : Ends) (G : Hp) : Prop where
  nx : ∀ ρ ω, K.nx ρ ω → ∀ σ G' H', Same G G' → At F ω G' H' → Slots ρ σ G' → D.nx σ H'
  rt : ∀ R ω, K.rt R ω → ∀ v G' H', Same G G' → At F ω G' H' → R.r v G' → D.rt v H'
  bk : ∀ ρ ω, K.bk ρ ω → ∀ σ G' H', Same G G' → At F ω G' H' → Slots ρ σ G' → D.bk σ H'
  ct : ∀ ρ ω, K.ct ρ ω → ∀ σ G' H', Same G G' → At F ω G' H' → Slots ρ σ G' → D.ct σ H'
  ex : ∀ ρ ω P, K.ex ρ ω P → ∀ cls d σ G' H', Same G G' → At F ω G' H' → Slots ρ σ G' → P cls d G' → F.W cls d σ H'
theorem Post.up {F : Fx} {K : Kn} {D : Ends} {G G1 : Hp} (p : Post F K D G) (e : Same G G1) : Post F K D G1 where
  nx := fun ρ ω k σ G' H' s => p.nx ρ ω k σ G' H' (e.trans s)
  rt := fun R ω k v G' H' s => p.rt R ω k v G' H' (e.trans s)
  bk := fun ρ ω k σ G' H' s => p.bk ρ ω k σ G' H' (e.trans s)
  ct := fun ρ ω k σ G' H' s => p.ct ρ ω k σ G' H' (e.trans s)
  ex := fun ρ ω P k cls d σ G' H' s => p.ex ρ ω P k cls d σ G' H' (e.trans s)
def HB (F : Fx) (ρ : Ty) (ω : Ow) (sts : List Stmt) (K : Kn) : Prop :=
  ∀ σ G H D, At F ω G H → Slots ρ σ G → Post F K D G → BW F.X sts D σ H
section
variable {F : Fx} {ρ : Ty} {ω w1 w2 : Ow} {K : Kn} {rest : List Stmt} {st : Stmt} {e c : Expr} {R : Rl} {pos p : Pos} {x : Str}
theorem hb_nil (h : K.nx ρ ω) : HB F ρ ω [] K := fun σ G H D at_ sl ps => bw_of pss_nil (ps.nx ρ ω h σ G H (Same.refl _) at_ sl)
/-- one statement, then the rest -/
theorem hb_cons (h : ∀ σ G H D, At F ω G H → Slots ρ σ G → Post F K D G → SW F.X st { D with nx := BW F.X rest D } σ H) : HB F ρ ω (st :: rest) K := fun σ G H D at_ sl ps =>
  bw_of (pss_cons ps_w pss_w) (h σ G H D at_ sl ps)
theorem hb_set (i : Nat) (he : ER F ρ ω e R w1) (h : HB F (ρ.set i (some R)) w1 rest K) (hN : F.X.N.Nodup) (hi : F.X.N[i]? = some x := by rfl) (hx : Loc F.X.env.scope x := by first | exact Or.inl rfl | exact Or.inr rfl)
    (hs : swapsWith e (some (.Name x p)) pos.line F.X.env = pure false := by rfl) (hf : F.X.fn x = true ∨ F.X.env.scope.names.lookup x = some .local := by first | exact .inl rfl | exact .inr rfl | assumption) :
    HB F ρ ω (.Assign [.Name x p] e pos :: rest) K := hb_cons fun σ G H D at_ sl ps =>
  sw_of (ps_set hN hi hx pe_w hs hf) (he σ G H at_ sl _ fun v G2 H2 s a r => h _ G2 H2 D a ((sl.up s).set i r) (ps.up s))
theorem hb_setX {P : Er} (i : Nat) (he : EX F ρ ω e P w1) (h : K.ex ρ w1 P) (hN : F.X.N.Nodup) (hi : F.X.N[i]? = some x := by rfl) (hx : Loc F.X.env.scope x := by first | exact Or.inl rfl | exact Or.inr rfl)
    (hs : swapsWith e (some (.Name x p)) pos.line F.X.env = pure false := by rfl) (hf : F.X.fn x = true ∨ F.X.env.scope.names.lookup x = some .local := by first | exact .inl rfl | exact .inr rfl | assumption) :
    HB F ρ ω (.Assign [.Name x p] e pos :: rest) K := hb_cons fun σ G H D at_ sl ps =>
  sw_of (ps_set hN hi hx (PE.mk fun pins s σ H Q I (z : EW F.X e σ H fun _ _ => False) => thn (z pins s I) fun _ _ ⟨_, _, _, _, q⟩ => q.elim) hs hf) (he σ G H at_ sl fun cls d G2 H2 s a r => ps.ex ρ w1 P h cls d σ G2 H2 s a (sl.up s) r)
theorem hb_ret (he : ER F ρ ω e R w1) (h : K.rt R w1) : HB F ρ ω (.Return (some e) pos :: rest) K := hb_cons fun σ G H D at_ sl ps =>
  sw_of (ps_ret pe_w) (he σ G H at_ sl _ fun v G2 H2 s a r => ps.rt R w1 h v G2 H2 s a r)
theorem pe_x {X : Cx} {e : Expr} {t : TE} : PE X e (fun σ H _ => EW X e σ H fun _ _ => False) := ⟨fun pins s σ H Q I z => thn (z pins s I) fun _ _ ⟨_, _, _, _, q⟩ => q.elim⟩
theorem hb_retX {P : Er} (he : EX F ρ ω e P w1) (h : K.ex ρ w1 P) : HB F ρ ω (.Return (some e) pos :: rest) K := hb_cons fun σ G H D at_ sl ps =>
  sw_of (ps_ret (pe_x (t := fun _ _ _ => True))) (he σ G H at_ sl fun cls d G2 H2 s a r => ps.ex ρ w1 P h cls d σ G2 H2 s a (sl.up s) r)
theorem hb_expr (he : ER F ρ ω e R w1) (h : HB F ρ w1 rest K) (hs : swapsWith e none pos.line F.X.env = pure false := by rfl) : HB F ρ ω (.Expr e pos :: rest) K := hb_cons fun σ G H D at_ sl ps =>
  sw_of (ps_expr pe_w hs) (he σ G H at_ sl _ fun v G2 H2 s a r => h _ G2 H2 D a (sl.up s) (ps.up s))
theorem hb_exprX {P : Er} (he : EX F ρ ω e P w1) (h : K.ex ρ w1 P) (hs : swapsWith e none pos.line F.X.env = pure false := by rfl) : HB F ρ ω (.Expr e pos :: rest) K := hb_cons fun σ G H D at_ sl ps =>
  sw_of (ps_expr (pe_x (t := fun _ _ _ => True)) hs) (he σ G H at_ sl fun cls d G2 H2 s a r => ps.ex ρ w1 P h cls d σ G2 H2 s a (sl.up s) r)
/-- behind: the rest -/
def Kn.then (K : Kn) (F : Fx) (rest : List Stmt) : Kn := { K with nx := fun ρ ω => HB F ρ ω rest K }
theorem Post.then {D : Ends} {G : Hp} (ps : Post F K D G) : Post F (K.then F rest) { D with nx := BW F.X rest D } G :=
  ⟨fun ρ ω k σ G' H' s a sl => k σ G' H' D a sl (ps.up s), ps.rt, ps.bk, ps.ct, ps.ex⟩
theorem hb_if {b : Bool} {th el : List Stmt} (hc : TR F ρ ω c b w1) (h1 : b = true → HB F ρ w1 th (K.then F rest)) (h2 : b = false → HB F ρ w1 el (K.then F rest)) : HB F ρ ω (.If c th el pos :: rest) K := hb_cons fun σ G H D at_ sl ps =>
  sw_of (ps_if pt_w pss_w pss_w) (hc σ G H at_ sl _ fun G2 H2 s a => by
    cases b with
    | true => exact iteT (h1 rfl σ G2 H2 _ a (sl.up s) (ps.up s).then)
    | false => exact iteF (h2 rfl σ G2 H2 _ a (sl.up s) (ps.up s).then))
/-- loops -/
def Kn.loop (K : Kn) (F : Fx) (rest : List Stmt) (N : Ty → Ow → Prop) : Kn := { nx := N, ct := N, bk := fun ρ ω => HB F ρ ω rest K, rt := K.rt, ex := K.ex }
theorem hb_while {body : List Stmt} (I : Nat → Ty → Ow → Prop) (m0 : Nat) (h0 : I m0 ρ ω)
    (hs : ∀ m ρ ω, I m ρ ω → ∃ b w1, TR F ρ ω c b w1 ∧ (b = true → HB F ρ w1 body (K.loop F rest fun ρ' ω' => ∃ m', m' < m ∧ I m' ρ' ω')) ∧ (b = false → HB F ρ w1 rest K))
    (hp : PassesOwn (model F.X.prog F.X.w) F.X.A F.X.env F.X.xe) : HB F ρ ω (.While c body [] pos :: rest) K := hb_cons fun σ G H D at_ sl ps => by
  refine sw_of (ps_while hp pt_w pss_w) ⟨fun m σ H => ∃ ρ ω G, I m ρ ω ∧ At F ω G H ∧ Slots ρ σ G ∧ Post F K D G, ⟨m0, ρ, ω, G, h0, at_, sl, ps⟩, ?_⟩
  rintro m σ1 H1 ⟨ρ1, ω1, G1, i1, a1, sl1, ps1⟩
  obtain ⟨b, w1, hc, ht, hf⟩ := hs m ρ1 ω1 i1
  refine hc σ1 G1 H1 a1 sl1 _ fun G2 H2 s2 a2 => ?_
  cases b with
  | true =>
    refine iteT ⟨fun σ' H' => ∃ m', m' < m ∧ ∃ ρ ω G, I m' ρ ω ∧ At F ω G H' ∧ Slots ρ σ' G ∧ Post F K D G, fun σ' H' z => z, ?_⟩
    refine ht rfl σ1 G2 H2 _ a2 (sl1.up s2) ⟨fun ρ ω ⟨m', l, i'⟩ σ' G' H' s a sl => ⟨m', l, ρ, ω, G', i', a, sl, (ps1.up s2).up s⟩, (ps1.up s2).rt, fun ρ ω k σ' G' H' s a sl => k σ' G' H' D a sl ((ps1.up s2).up s), fun ρ ω ⟨m', l, i'⟩ σ' G' H' s a sl => ⟨m', l, ρ, ω, G', i', a, sl, (ps1.up s2).up s⟩, (ps1.up s2).ex⟩
  | false => exact iteF (hf rfl σ1 G2 H2 D a2 (sl1.up s2) (ps1.up s2))
end

/-! ### what a loop walks -/
structure Yld (J : It) (Rs : List Rl) (G : Hp) : Prop where
  go : ∀ i G' H', Same G G' → Same G' H' → i < Rs.length → J.go i H'
  stop : ∀ G' H', Same G G' → Same G' H' → J.stop Rs.length H'
  yld : ∀ (i : Nat) (R : Rl) G' H' x H'', Same G G' → Same G' H' → Rs[i]? = some R → J.yld i H' x H'' → ∃ G'', Step G' H' G'' H'' ∧ R.r x G''
theorem Yld.up {J : It} {Rs : List Rl} {G G1 : Hp} (y : Yld J Rs G) (e : Same G G1) : Yld J Rs G1 :=
  ⟨fun i G' H' s => y.go i G' H' (e.trans s), fun G' H' s => y.stop G' H' (e.trans s), fun i R G' H' x H'' s => y.yld i R G' H' x H'' (e.trans s)⟩
def IT (F : Fx) (ρ : Ty) (ω : Ow) (tg it : Expr) (Rs : List Rl) (w1 : Ow) : Prop :=
  ∃ wi, PI F.X tg it wi ∧ ∀ σ G H, At F ω G H → Slots ρ σ G → ∀ R : It → Hp → Prop, (∀ J G2 H2, Same G G2 → At F w1 G2 H2 → Yld J Rs G2 → R J H2) → wi σ H R
/-- what a target does to the slots -/
def GE (g : TG) (ρ : Ty) (S : Rl) (ρ' : Ty) : Prop :=
  ∀ v σ G H (Q : L2.St → Hp → Prop), Same G H → Slots ρ σ G → S.r v G → (∀ σ', Slots ρ' σ' G → Q σ' H) → g v σ H Q
def GEs (g : TGs) (ρ : Ty) (Rs : List Rl) (ρ' : Ty) : Prop :=
  ∀ vs σ G H (Q : L2.St → Hp → Prop), Same G H → Slots ρ σ G → All2 Rs vs G → (∀ σ', Slots ρ' σ' G → Q σ' H) → g vs σ H Q
section
variable {F : Fx} {X : Cx} {ρ ρ1 ρ2 : Ty} {ω w1 w2 : Ow} {K : Kn} {rest : List Stmt} {e e2 it tg : Expr} {R S : Rl} {pos p : Pos} {x : Str} {Rs Ss : List Rl}
theorem ge_name {i : Nat} : GE (gName i) ρ S (ρ.set i (some S)) := fun v σ G H Q s sl r q => q _ (sl.set i r)
theorem ges_nil : GEs gNil ρ [] ρ := fun vs σ G H Q s sl r q => by
  match vs, r with
  | [], _ => exact ⟨rfl, q _ sl⟩
theorem ges_cons {g : TG} {gs : TGs} (h1 : GE g ρ R ρ1) (h2 : GEs gs ρ1 Rs ρ2) : GEs (gCons g gs) ρ (R :: Rs) ρ2 := fun vs σ G H Q s sl r q => by
  match vs, r with
  | v :: vs, ⟨r1, r2⟩ => exact ⟨v, vs, rfl, h1 v σ G H _ s sl r1 fun σ' sl' => h2 vs σ' G H Q s sl' r2 q⟩
theorem ge_tup {K : PySem.W.Frag} {n : Nat} {gs : TGs} (h : GEs gs ρ Rs ρ1) (hl : Rs.length = n) : GE (gTup K n gs) ρ (rTup Rs) ρ1 := fun v σ G H Q s sl r q => by
  obtain ⟨a, vs, rfl, h1, h2⟩ := r
  exact ⟨a, vs, rfl, SqT.of (s _ _ h1), by rw [← h2.len]; exact hl, h vs σ G H Q s sl h2 q⟩
theorem hb_asg {g : TG} (he : ER F ρ ω e R w1) (pg : PG F.X tg g) (hg : GE g ρ R ρ1) (h : HB F ρ1 w1 rest K) (hs : swapsWithSole [tg] e pos.line F.X.env = pure false := by rfl) (hw : swappedStores [tg] e F.X.env = pure none := by rfl)
    (h1 : (assignEach [tg] F.X.env).map (·.2) = [assign tg F.X.env] := by rfl) : HB F ρ ω (.Assign [tg] e pos :: rest) K := hb_cons fun σ G H D at_ sl ps =>
  sw_of (ps_asg pe_w pg hs hw h1) (he σ G H at_ sl _ fun v G2 H2 s a r => hg v σ G2 H2 _ a.gh (sl.up s) r fun σ' sl' => h σ' G2 H2 D a sl' (ps.up s))
/-- a, b = e1, e2 -/
theorem hb_par {x y : Str} {a b : Expr} {px py pt : Pos} {kt k2 pt2} (i j : Nat) (ha : AR F ρ ω [a, b] [R, S] w1) (h : HB F ((ρ.set i (some R)).set j (some S)) w1 rest K) (hN : F.X.N.Nodup) (hij : i ≠ j := by decide) (hi : F.X.N[i]? = some x := by rfl) (hj : F.X.N[j]? = some y := by rfl)
    (hx : F.X.env.scope.names.lookup x = some .local := by rfl) (hy : F.X.env.scope.names.lookup y = some .local := by rfl) (hc : F.X.calm = true := by rfl)
    (hw : swappedStores [.Tuple [.Name x px, .Name y py] kt pt] (.Tuple [a, b] k2 pt2) F.X.env = pure (some [x, y]) := by rfl)
    (hs : swapsWithSole [.Tuple [.Name x px, .Name y py] kt pt] (.Tuple [a, b] k2 pt2) pos.line F.X.env = pure false := by rfl) :
    HB F ρ ω (.Assign [.Tuple [.Name x px, .Name y py] kt pt] (.Tuple [a, b] k2 pt2) pos :: rest) K := hb_cons fun σ G H D at_ sl ps => by
  refine sw_of (ps_par hc hN hi hj hij hx hy pa_w hw hs) (ha σ G H at_ sl _ fun vs G2 H2 s a r => ?_)
  obtain ⟨v, w, rfl, r1, r2⟩ := all2 r
  exact ⟨v, w, rfl, h _ G2 H2 D a (((sl.up s).set i r1).set j r2) (ps.up s)⟩
/-! lists, tuples, ranges, pairs -/
theorem it_lst (he : ER F ρ ω it (rLst Rs) w1) : IT F ρ ω tg it Rs w1 := ⟨_, pi_list pe_w, fun σ G H at_ sl R k => he σ G H at_ sl _ fun v G2 H2 s a r => by
  obtain ⟨a', vs, rfl, h1, h2⟩ := r
  refine ⟨a', rfl, ⟨vs, SqL.of (a.gh _ _ h1)⟩, k _ G2 H2 s a ⟨fun i G' H' s1 s2 hi => ⟨vs, vs[i]'(by rw [← h2.len]; exact hi), SqL.of (s2 _ _ (s1 _ _ h1)), List.getElem?_eq_getElem _⟩, fun G' H' s1 s2 => ⟨vs, SqL.of (s2 _ _ (s1 _ _ h1)), by rw [h2.len]; exact Nat.le_refl _⟩, fun i R G' H' x H'' s1 s2 hR y => ?_⟩⟩
  obtain ⟨rfl, y⟩ := y
  obtain ⟨v, hv, rv⟩ := h2.get hR
  have e := y vs (SqL.of (s2 _ _ (s1 _ _ h1)))
  rw [hv] at e
  cases e
  exact ⟨G', Step.refl s2, R.mo _ _ _ s1 rv⟩⟩
theorem it_tup (he : ER F ρ ω it (rTup Rs) w1) : IT F ρ ω tg it Rs w1 := ⟨_, pi_tup pe_w, fun σ G H at_ sl R k => he σ G H at_ sl _ fun v G2 H2 s a r => by
  obtain ⟨a', vs, rfl, h1, h2⟩ := r
  refine ⟨a', rfl, ⟨vs, SqT.of (a.gh _ _ h1)⟩, k _ G2 H2 s a ⟨fun i G' H' s1 s2 hi => ⟨vs, vs[i]'(by rw [← h2.len]; exact hi), SqT.of (s2 _ _ (s1 _ _ h1)), List.getElem?_eq_getElem _⟩, fun G' H' s1 s2 => ⟨vs, SqT.of (s2 _ _ (s1 _ _ h1)), by rw [h2.len]; exact Nat.le_refl _⟩, fun i R G' H' x H'' s1 s2 hR y => ?_⟩⟩
  obtain ⟨rfl, y⟩ := y
  obtain ⟨v, hv, rv⟩ := h2.get hR
  have e := y vs (SqT.of (s2 _ _ (s1 _ _ h1)))
  rw [hv] at e
  cases e
  exact ⟨G', Step.refl s2, R.mo _ _ _ s1 rv⟩⟩
def rng (lo : Int) (n : Nat) : List Rl := (List.range n).map fun (k : Nat) => rInt (lo + (k : Int))
theorem rng_len {lo : Int} {n : Nat} : (rng lo n).length = n := by unfold rng; rw [List.length_map, List.length_range]
theorem yld_rng {lo : Int} {n : Nat} {G : Hp} : Yld (Itr lo n) (rng lo n) G :=
  ⟨fun i _ _ _ _ hi => by rw [rng_len] at hi; exact hi, fun _ _ _ _ => by rw [rng_len]; exact Nat.le_refl n, fun i R G' H' x H'' s1 s2 hR y => by
    obtain ⟨rfl, rfl⟩ := y
    unfold rng at hR
    rw [List.getElem?_map] at hR
    cases h : (List.range n)[i]? with
    | none => rw [h] at hR; cases hR
    | some k =>
      rw [h] at hR
      have ek : k = i := by
        obtain ⟨hl, e⟩ := List.getElem?_eq_some_iff.mp h
        rw [List.getElem_range] at e
        exact e.symm
      subst ek
      cases hR
      exact ⟨G', Step.refl s2, rfl⟩⟩
theorem it_rng1 {n : Int} (he : AR F ρ ω [e] [rInt n] w1) (hg : Gl F.X "range") (hm : F.X.mg "range" = none) (hn : -(2 ^ 62) ≤ n ∧ n < 2 ^ 62) (hs : starEach [e] F.X.env = [(false, eval e F.X.env)] := by rfl) : IT F ρ ω tg (.Call (.Name "range" p) [e] [] pos) (rng 0 n.toNat) w1 :=
  ⟨_, pi_range1 hg hm pa_w hs, fun σ G H at_ sl R k => he σ G H at_ sl _ fun v G2 H2 s a r => by
    obtain ⟨y, rfl, ey⟩ := all1 r
    cases (show y = V.int n from ey)
    exact ⟨n, rfl, hn.1, hn.2, k _ G2 H2 s a yld_rng⟩⟩
/-- the loop -/
theorem hb_for {g : TG} {body : List Stmt} (hit : IT F ρ ω tg it Rs w1) (I : Nat → Ty → Ow → Prop) (h0 : I 0 ρ w1)
    (hs : ∀ (k : Nat) ρ ω (S : Rl), Rs[k]? = some S → I k ρ ω → ∃ ρ', GE g ρ S ρ' ∧ HB F ρ' ω body (K.loop F rest (I (k + 1)))) (hd : ∀ ρ ω, I Rs.length ρ ω → HB F ρ ω rest K)
    (hp : PassesOwn (model F.X.prog F.X.w) F.X.A F.X.env F.X.xe) (hpg : PG F.X tg g) (hc : F.X.calm = true := by rfl)
    (hfs : ∀ z, foldedSetIterable it F.X.env z = pure z := by intro _; rfl) : HB F ρ ω (.For tg it body [] pos :: rest) K := hb_cons fun σ G H D at_ sl ps => by
  obtain ⟨wi, hpi, hwi⟩ := hit
  refine sw_of (ps_for hp hc hpi hpg pss_w hfs) (hwi σ G H at_ sl _ fun J G2 H2 s2 a2 y2 => ?_)
  refine ⟨fun i m σ H => m = Rs.length - i ∧ i ≤ Rs.length ∧ ∃ ρ ω G, I i ρ ω ∧ At F ω G H ∧ Slots ρ σ G ∧ Same G2 G ∧ Post F K D G, ⟨Rs.length, by simp, Nat.zero_le _, ρ, w1, G2, h0, a2, sl.up s2, Same.refl _, ps.up s2⟩, ?_⟩
  rintro i m σ1 H1 ⟨rfl, hi, ρ1, ω1, G1, i1, a1, sl1, s1, ps1⟩
  by_cases hlt : i < Rs.length
  · refine .inr ⟨y2.go i G1 H1 s1 a1.gh hlt, fun σ' H' => ∃ ρ ω G, I (i + 1) ρ ω ∧ At F ω G H' ∧ Slots ρ σ' G ∧ Same G2 G ∧ Post F K D G, fun σ' H' z => ⟨Rs.length - (i + 1), by omega, rfl, hlt, z⟩, fun x H' y => ?_⟩
    obtain ⟨G3, st, rx⟩ := y2.yld i Rs[i] G1 H1 x H' s1 a1.gh (List.getElem?_eq_getElem hlt) y
    obtain ⟨ρ', ga, hb⟩ := hs i ρ1 ω1 Rs[i] (List.getElem?_eq_getElem hlt) i1
    have a3 := a1.step st
    refine ga x σ1 G3 H' _ a3.gh (sl1.up st.gg) rx fun σ2 sl2 => ?_
    have ps3 := ps1.up st.gg
    have s3 : Same G2 G3 := s1.trans st.gg
    exact hb σ2 G3 H' _ a3 sl2 ⟨fun ρ ω i' σ' G' H' s a sl => ⟨ρ, ω, G', i', a, sl, s3.trans s, ps3.up s⟩, ps3.rt, fun ρ ω k' σ' G' H' s a sl => k' σ' G' H' D a sl (ps3.up s), fun ρ ω i' σ' G' H' s a sl => ⟨ρ, ω, G', i', a, sl, s3.trans s, ps3.up s⟩, ps3.ex⟩
  · have e : i = Rs.length := by omega
    subst e
    exact .inl ⟨y2.stop G1 H1 s1 a1.gh, hd ρ1 ω1 i1 σ1 G1 H1 D a1 sl1 ps1⟩
end
end W1
set_option maxRecDepth 100000
set_option maxHeartbeats 2000000
namespace W1
open PySem PySem.Spec PyProof.Rows L2

/-! ### promises -/
/-- what is owned, in a heap -/
def Has (ω : Ow) (G H : Hp) : Prop := ∀ p ∈ ω, G p.1 = none ∧ ∃ o, H p.1 = some o ∧ p.2.c o G
structure StepM (M : List Addr) (G H G' H' : Hp) : Prop where
  gg : Same G G'
  hh : ∀ a o, a ∉ M → H a = some o → H' a = some o
  gh : Same G' H'
  fr : ∀ a, H a ≠ none → G a = none → G' a = none
abbrev Pre := List Rl → Ow → Out → Ow → Prop
def keys (ω : Ow) : List Addr := ω.map (·.1)
/-- a def's promise: from the relations of the arguments and what is handed over, what comes out and what becomes of what was handed over -/
def spM (pre : Pre) : Sp := fun vs H Q E => ∃ Rs ω o ω' G, pre Rs ω o ω' ∧ Same G H ∧ All2 Rs vs G ∧ Has ω G H ∧ (keys ω).Nodup ∧ keys ω' = keys ω ∧
  (match o with
    | .ok R => ∀ v G' H', StepM (keys ω) G H G' H' → Has ω' G' H' → R.r v G' → Q v H'
    | .error P => ∀ cls d G' H', StepM (keys ω) G H G' H' → Has ω' G' H' → P cls d G' → E cls d H')
/-- what a body is to come to -/
def Kf (o : Out) (ω' : Ow) : Kn where
  nx := fun _ w => ∃ R w0, o = .ok R ∧ (∀ G, R.r .non G) ∧ w = ω' ++ w0
  rt := fun S w => ∃ R w0, o = .ok R ∧ (∀ v G, S.r v G → R.r v G) ∧ w = ω' ++ w0
  ex := fun _ w P => ∃ P' w0, o = .error P' ∧ (∀ cls d G, P cls d G → P' cls d G) ∧ w = ω' ++ w0
theorem Has.left {ω w : Ow} {G H : Hp} (h : Has (ω ++ w) G H) : Has ω G H := fun p hp => h p (List.mem_append_left _ hp)
theorem At.has {F : Fx} {ω : Ow} {G H : Hp} (a : At F ω G H) : Has ω G H := fun p hp => let ⟨x, _, z⟩ := a.ow p hp; ⟨x, z⟩
theorem At.stepM {F : Fx} {wc wc' w : Ow} {G H G' H' : Hp} (a : At F (wc ++ w) G H) (s : StepM (keys wc) G H G' H') (h : Has wc' G' H') (hk : keys wc' = keys wc) : At F (wc' ++ w) G' H' := by
  have own : ∀ b ∈ keys wc, G b = none ∧ (F.H0 b = none ∨ b ∈ F.M) ∧ H b ≠ none := fun b hb => by
    obtain ⟨p, hp, e⟩ := List.mem_map.mp hb
    obtain ⟨x, y, o, z, _⟩ := a.ow p (List.mem_append_left _ hp)
    exact ⟨by rw [← e]; exact x, by rw [← e]; exact y, by rw [← e, z]; simp⟩
  have nd := a.nd
  rw [List.map_append] at nd
  have kk : ∀ b, b ∈ keys wc → H' b ≠ none := fun b hb => by
    rw [← hk] at hb
    obtain ⟨p, hp, e⟩ := List.mem_map.mp hb
    obtain ⟨_, o, z, _⟩ := h p hp
    rw [← e, z]
    simp
  refine ⟨a.gg.trans s.gg, fun b o hb e => ?_, s.gh, fun b h1 h2 => ?_, fun b hb => ?_, fun p hp => ?_, ?_⟩
  · refine s.hh b o (fun hm => ?_) (a.hh b o hb e)
    rcases (own b hm).2.1 with z | z
    · rw [z] at e; cases e
    · exact hb z
  · refine s.fr b ?_ (a.fr b h1 h2)
    by_cases hb : b ∈ F.M
    · exact a.mm b hb
    · cases e : F.H0 b with
      | none => exact absurd e h1
      | some o => rw [a.hh b o hb e]; simp
  · by_cases hm : b ∈ keys wc
    · exact kk b hm
    · cases e : H b with
      | none => exact absurd e (a.mm b hb)
      | some o => rw [s.hh b o hm e]; simp
  · rcases List.mem_append.mp hp with hp | hp
    · obtain ⟨x, o, y, z⟩ := h p hp
      refine ⟨x, ?_, o, y, z⟩
      have hm : p.1 ∈ keys wc := by rw [← hk]; exact List.mem_map_of_mem hp
      exact (own p.1 hm).2.1
    · obtain ⟨x, y, o, z, c⟩ := a.ow p (List.mem_append_right _ hp)
      have hm : p.1 ∉ keys wc := fun hm => by
        have := (List.nodup_append.mp nd).2.2 p.1 hm p.1 (List.mem_map_of_mem hp)
        exact this rfl
      exact ⟨s.fr p.1 (by rw [z]; simp) x, y, o, s.hh _ _ hm z, p.2.mo _ _ _ s.gg c⟩
  · rw [List.map_append]
    show (keys wc' ++ keys w).Nodup
    rw [hk]
    exact nd
/-- a body keeps the promise -/
theorem fn_ok {P : Program} {w : World} {K : PySem.W.Frag} {mg : Str → Option Value} {base : Heap} {x qual : Str} {st : Stmt} {f : Addr} {fd : FuncData} {N ps : List Str} {k : Nat} {pre : Pre} (Fn : Fun K x qual st f fd) (S : FnScope N ps (defScope st))
    (hl : ∀ Rs ω o ω', pre Rs ω o ω' → Rs.length = ps.length)
    (hb : ∀ (cdv : Value) (A : Around) (outer : List Env) (s : Shared) (H : Hp) (E : XK) (F : Fx), Room k (A.deeper (envOfC qual (defScope st) s.heap.objs.size f cdv)) → F.X = cxOf (L2.CX P w) P w K mg base N qual (defScope st) f cdv A outer s H E →
      ∀ Rs ω o ω', pre Rs ω o ω' → HB F (Rs.map some ++ List.replicate (N.length - Rs.length) none) ω (defBody st) (Kf o ω')) : FnOk P w K mg base (L2.CX P w) (k + 1) f fd ps (spM pre) := by
  refine Fn.okX S (fun vs H Q E h => ?_) (fun cdv A outer s H vs Q E hr h => ?_)
  · obtain ⟨Rs, ω, o, ω', G, hp, _, h2, _⟩ := h
    rw [← h2.len]
    exact hl _ _ _ _ hp
  · obtain ⟨Rs, ω, o, ω', G, hp, hgh, hv, hhas, hnd, hk, hq⟩ := h
    have tk : Takes (cxOf (L2.CX P w) P w K mg base N qual (defScope st) f cdv A outer s H E) (fun cls d _ H => E cls d H) := takes_of rfl rfl rfl rfl
    refine ⟨_, pss_w, hb cdv A outer s H E ⟨cxOf (L2.CX P w) P w K mg base N qual (defScope st) f cdv A outer s H E, G, H, keys ω, fun cls d _ H => E cls d H, tk⟩ hr rfl Rs ω o ω' hp (L2.start N vs) G H _ ?_ ?_ ?_⟩
    · exact ⟨Same.refl _, fun a o _ e => e, hgh, fun a _ e => e, fun a ha => by
        obtain ⟨p, hp, e⟩ := List.mem_map.mp ha
        obtain ⟨_, o, z, _⟩ := hhas p hp
        rw [← e, z]
        simp, fun p hp => let ⟨x, z⟩ := hhas p hp; ⟨x, .inr (List.mem_map_of_mem hp), z⟩, hnd⟩
    · unfold L2.start
      have e := hv.len
      refine ⟨by simp [e], fun i R hi => ?_⟩
      by_cases h : i < Rs.length
      · rw [List.getElem?_append_left (by simpa using h), List.getElem?_map] at hi
        cases h1 : Rs[i]? with
        | none => rw [h1] at hi; cases hi
        | some R' =>
          rw [h1] at hi
          cases hi
          obtain ⟨v, h2, h3⟩ := hv.get h1
          exact ⟨v, by rw [List.getElem?_append_left (by rw [List.length_map, ← e]; exact h), List.getElem?_map, h2]; rfl, h3⟩
      · rw [List.getElem?_append_right (by simpa using h), List.getElem?_replicate] at hi
        split at hi <;> cases hi
    · have fin : ∀ {w0 : Ow} {G' H' : Hp}, At ⟨cxOf (L2.CX P w) P w K mg base N qual (defScope st) f cdv A outer s H E, G, H, keys ω, fun cls d _ H => E cls d H, tk⟩ (ω' ++ w0) G' H' → StepM (keys ω) G H G' H' ∧ Has ω' G' H' :=
        fun a => ⟨⟨a.gg, a.hh, a.gh, a.fr⟩, a.has.left⟩
      refine ⟨fun ρ w1 hk σ G' H' s a sl => ?_, fun R w1 hk v G' H' s a r => ?_, fun _ _ hk => hk.elim, fun _ _ hk => hk.elim, fun ρ w1 P' hk cls d σ G' H' s a sl hP => ?_⟩
      · obtain ⟨R, w0, rfl, h1, rfl⟩ := hk
        obtain ⟨h2, h3⟩ := fin a
        exact hq _ _ _ h2 h3 (h1 _)
      · obtain ⟨R', w0, rfl, h1, rfl⟩ := hk
        obtain ⟨h2, h3⟩ := fin a
        exact hq _ _ _ h2 h3 (h1 _ _ r)
      · obtain ⟨P'', w0, rfl, h1, rfl⟩ := hk
        obtain ⟨h2, h3⟩ := fin a
        exact hq _ _ _ _ h2 h3 (h1 _ _ _ hP)
/-- asking it -/
theorem sp_ok {F : Fx} {pre : Pre} {Rs : List Rl} {wc wc' w : Ow} {R : Rl} {vs : List V} {G H : Hp} {Q : VK} {E : XK} (at_ : At F (wc ++ w) G H) (hv : All2 Rs vs G) (hp : pre Rs wc (.ok R) wc') (hk : keys wc' = keys wc)
    (q : ∀ v G2 H2, Same G G2 → At F (wc' ++ w) G2 H2 → R.r v G2 → Q v H2) : spM pre vs H Q E :=
  ⟨Rs, wc, .ok R, wc', G, hp, at_.gh, hv, at_.has.left, by have := at_.nd; rw [List.map_append] at this; exact (List.nodup_append.mp this).1, hk, fun v G' H' s h r => q v G' H' s.gg (at_.stepM s h hk) r⟩
theorem sp_er {F : Fx} {pre : Pre} {Rs : List Rl} {wc wc' w : Ow} {P : Er} {vs : List V} {G H : Hp} {Q : VK} {E : XK} (at_ : At F (wc ++ w) G H) (hv : All2 Rs vs G) (hp : pre Rs wc (.error P) wc') (hk : keys wc' = keys wc)
    (q : ∀ cls d G2 H2, Same G G2 → At F (wc' ++ w) G2 H2 → P cls d G2 → E cls d H2) : spM pre vs H Q E :=
  ⟨Rs, wc, .error P, wc', G, hp, at_.gh, hv, at_.has.left, by have := at_.nd; rw [List.map_append] at this; exact (List.nodup_append.mp this).1, hk, fun cls d G' H' s h r => q cls d G' H' s.gg (at_.stepM s h hk) r⟩

/-! ### calls, at the slots -/
section
variable {X : Cx} {CX : CXT} {k : Nat} {f C g pc : Addr} {fd : FuncData} {ps : List Str} {sp : Sp} {E : L2.St → XK} {x m : Str} {p pos apos : Pos} {e o : Expr} {es : List Expr} {ta : TE} {t : TA}
def tMethS (C : Addr) (m : Str) (sp : Sp) (E : L2.St → XK) (ta : TE) (t : TA) : TE := fun σ H Q => ta σ H fun x H1 => ∃ a dx fs, x = .ref a ∧ H1 a = some (.ins C dx fs) ∧ fs.lookup m = none ∧ t σ H1 fun vs H2 => sp (x :: vs) H2 Q (E σ)
def tMakeS (C : Addr) (sp : Sp) (E : L2.St → XK) (t : TA) : TE := fun σ H Q => t σ H fun vs H1 => ∀ x dx, H1 x = none → H1 dx = none → dx ≠ x →
  sp (.ref x :: vs) (upd (upd H1 dx (.own x)) x (.ins C dx [])) (fun v H2 => v = .non ∧ Q (.ref x) H2) (E σ)
theorem pe_methS {pl : Sem Bool} (he : PE X o ta) (c : Cls X.K C) (hm : Meth X.K C m f) (F : FnOk X.prog X.w X.K X.mg X.base CX k f fd ps sp) (hr : Room k X.A) (hb : Binds X.K fd ps []) (hx : ∀ σ, PassesAt CX X σ (E σ)) (ha : PA X (e :: es) t)
    (hst : starEach (e :: es) X.env = (false, eval e X.env) :: starEach es X.env := by rfl) (hpl : (backTo pos (starEach es X.env)).any (·.1) = false := by rfl)
    (ht : eval (.Call (.Attribute o m apos) (e :: es) [] pos) X.env = (do
      let ov ← eval o X.env
      standAt apos.atName
      let (f, first) ← holding [ov] (getMethod ov m pl)
      callWith pos f first (backTo pos (starEach (e :: es) X.env)) (backToKw pos (keywordEach [] X.env))) := by rfl) :
    PE X (.Call (.Attribute o m apos) (e :: es) [] pos) (tMethS C m sp E ta t) := by
  refine ⟨fun pins s σ H Q I h => ?_⟩
  refine PySem.W.methodCall_KW (pl := pl) (thn (he.run pins s σ H _ I h) fun u s1 ⟨x, H1, I1, rx, a, dx, fs, ex, ea, l, q⟩ => ?_) ht
  subst ex
  obtain rfl : u = Value.ref a := rx
  refine getmeth_ok I1 ea c hm l ?_
  refine PySem.W.callWith_K (first := [.ref a]) (h₀ := X.base) I.ok.mod.kin hm.kp (thn (ha.run pos pins s1 σ H1 _ I1 q) fun us s2 ⟨vs, H2, I2, r, q2⟩ => ⟨I2.kIn, ?_⟩) hst hpl
  exact run_fnS (us := .ref a :: us) (vs := .ref a :: vs) F hr hb (hx σ) I2 (.cons rfl r) q2
theorem pe_methS0 {pl : Sem Bool} (he : PE X o ta) (c : Cls X.K C) (hm : Meth X.K C m f) (F : FnOk X.prog X.w X.K X.mg X.base CX k f fd ps sp) (hr : Room k X.A) (hb : Binds X.K fd ps []) (hx : ∀ σ, PassesAt CX X σ (E σ))
    (ht : eval (.Call (.Attribute o m apos) [] [] pos) X.env = (do
      let ov ← eval o X.env
      standAt apos.atName
      let (f, first) ← holding [ov] (getMethod ov m pl)
      callWith pos f first (backTo pos (starEach [] X.env)) (backToKw pos (keywordEach [] X.env))) := by rfl) :
    PE X (.Call (.Attribute o m apos) [] [] pos) (tMethS C m sp E ta tNil) := by
  refine ⟨fun pins s σ H Q I h => ?_⟩
  refine PySem.W.methodCall_KW (pl := pl) (thn (he.run pins s σ H _ I h) fun u s1 ⟨x, H1, I1, rx, a, dx, fs, ex, ea, l, q⟩ => ?_) ht
  subst ex
  obtain rfl : u = Value.ref a := rx
  refine getmeth_ok I1 ea c hm l ?_
  exact PySem.W.callWith_K0 (first := [.ref a]) I1.kIn hm.kp (run_fnS (us := [.ref a]) (vs := [.ref a]) F hr hb (hx σ) I1 (.cons rfl .nil) q)
theorem run_makeS {pins : List (Addr × Obj)} {σ : L2.St} {H : Hp} {s : Shared} {Q : VK} {us : List Value} {vs : List V} (M : Mk X.K C f) (F : FnOk X.prog X.w X.K X.mg X.base CX k f fd ps sp) (hr : Room (k + 1) X.A) (hb : Binds X.K fd ps [])
    (hx : PassesAt CX X σ (E σ)) (I : Inv X pins σ H s) (r : Vals vs us)
    (h : ∀ x dx, H x = none → H dx = none → dx ≠ x → sp (.ref x :: vs) (upd (upd H dx (.own x)) x (.ins C dx [])) (fun v H2 => v = .non ∧ Q (.ref x) H2) (E σ)) :
    wpAny (model X.prog X.w) X.A (call (.ref C) us) (EP X pins σ Q) X.xe s := by
  have hq := h (s.heap.objs.size + 1) s.heap.objs.size (I.hok.fresh (Nat.le_succ _)) (I.hok.fresh (Nat.le_refl _)) (Nat.ne_of_lt (Nat.lt_succ_self _))
  have I2 := Inv.made (C := C) I
  have r2 : Vals (V.ref (s.heap.objs.size + 1) :: vs) (Value.ref (s.heap.objs.size + 1) :: us) := .cons rfl r
  have hl : (Value.ref (s.heap.objs.size + 1) :: us).length = ps.length := by
    have e := r2.length
    rw [F.len _ _ _ _ hq] at e
    exact e.symm
  have hbb := hb _ (Value.ref (s.heap.objs.size + 1) :: us) I2.kIn (by rw [List.append_nil]; exact hl)
  rw [List.append_nil] at hbb
  refine wpAny_call (make_map (f := f) I.kIn M.makes M.init (beq_iff_eq.mp M.fn) (codeAny_mono (F.run _ X.stack _ _ ⟨Value.ref (s.heap.objs.size + 1) :: us, []⟩ (Value.ref (s.heap.objs.size + 1) :: us) _ _ (E σ) (hr.make C us [])
    (I2.env0.make C us []) hbb r2 hq) fun r s' hq' => ?_))
  cases r with
  | error e => exact hx pins _ _ e s' I2 hq'
  | ok fl =>
    cases fl with
    | ret u =>
      obtain ⟨v, H', I3, rv, ev, q3⟩ := I2.after hq'
      subst ev
      exact ⟨rv, ⟨V.ref (s.heap.objs.size + 1), H', I3, rfl, q3⟩⟩
    | next => exact False.elim hq'
    | brk => exact False.elim hq'
    | cont => exact False.elim hq'
theorem pe_makeS (M : Mk X.K C f) (F : FnOk X.prog X.w X.K X.mg X.base CX k f fd ps sp) (hr : Room (k + 1) X.A) (hg : Gl X x) (hm : X.mg x = some (.ref C)) (hb : Binds X.K fd ps []) (hx : ∀ σ, PassesAt CX X σ (E σ))
    (ha : PA X (e :: es) t) (hdb : (x == ("__debug__" : Str)) = false := by decide) (he : starEach (e :: es) X.env = (false, eval e X.env) :: starEach es X.env := by rfl) (hpl : (backTo pos (starEach es X.env)).any (·.1) = false := by rfl) :
    PE X (.Call (.Name x p) (e :: es) [] pos) (tMakeS C sp E t) := by
  refine ⟨fun pins s σ H Q I h => ?_⟩
  refine wpAny_Call_Name_kw (ld_glob I hg hm ?_ hdb)
  refine PySem.W.callWith_K (h₀ := X.base) I.ok.mod.kin M.kp (thn (ha.run pos pins s σ H _ I h) fun us s1 ⟨vs, H1, I1, r, q⟩ => ⟨I1.kIn, ?_⟩) he hpl
  exact run_makeS M F hr hb (hx σ) I1 r q
end
end W1
set_option maxRecDepth 100000
set_option maxHeartbeats 2000000
namespace W1
open PySem PySem.Spec PyProof.Rows L2

section
variable {F : Fx} {ρ : Ty} {ω w w1 w2 wc wc' : Ow} {e o : Expr} {es : List Expr} {R S : Rl} {Rs : List Rl} {P : Er} {pos p apos : Pos} {x m : Str} {k : Nat} {f C g pc : Addr} {fd : FuncData} {ps : List Str} {pre : Pre}
theorem passW : ∀ σ, PassesAt (L2.CX F.X.prog F.X.w) F.X σ (WE F.W σ) := fun σ => passAt F.tk σ
/-- f(..) -/
theorem er_call (ha : AR F ρ ω (e :: es) Rs (wc ++ w)) (hp : pre Rs wc (.ok R) wc') (hk : keys wc' = keys wc) (Fn : FnOk F.X.prog F.X.w F.X.K F.X.mg F.X.base (L2.CX F.X.prog F.X.w) k f fd ps (spM pre)) (hr : Room k F.X.A) (hm : F.X.mg x = some (.ref f))
    (hkp : PySem.W.keepIn F.X.K (.ref f) = true) (hb : Binds F.X.K fd ps []) (hg : Gl F.X x := by rfl) (hdb : (x == ("__debug__" : Str)) = false := by decide) (he : starEach (e :: es) F.X.env = (false, eval e F.X.env) :: starEach es F.X.env := by rfl) (hpl : (backTo pos (starEach es F.X.env)).any (·.1) = false := by rfl) :
    ER F ρ ω (.Call (.Name x p) (e :: es) [] pos) R (wc' ++ w) := fun σ G H at_ sl Q q =>
  ew_of (pe_callS Fn hr hg hm hkp hb passW pa_w hdb he hpl) (ha σ G H at_ sl _ fun vs G2 H2 s a r => sp_ok a r hp hk fun v G3 H3 s3 a3 r3 => q v G3 H3 (s.trans s3) a3 r3)
theorem ex_call (ha : AR F ρ ω (e :: es) Rs (wc ++ w)) (hp : pre Rs wc (.error P) wc') (hk : keys wc' = keys wc) (Fn : FnOk F.X.prog F.X.w F.X.K F.X.mg F.X.base (L2.CX F.X.prog F.X.w) k f fd ps (spM pre)) (hr : Room k F.X.A) (hm : F.X.mg x = some (.ref f))
    (hkp : PySem.W.keepIn F.X.K (.ref f) = true) (hb : Binds F.X.K fd ps []) (hg : Gl F.X x := by rfl) (hdb : (x == ("__debug__" : Str)) = false := by decide) (he : starEach (e :: es) F.X.env = (false, eval e F.X.env) :: starEach es F.X.env := by rfl) (hpl : (backTo pos (starEach es F.X.env)).any (·.1) = false := by rfl) :
    EX F ρ ω (.Call (.Name x p) (e :: es) [] pos) P (wc' ++ w) := fun σ G H at_ sl q =>
  ew_of (pe_callS Fn hr hg hm hkp hb passW pa_w hdb he hpl) (ha σ G H at_ sl _ fun vs G2 H2 s a r => sp_er a r hp hk fun cls d G3 H3 s3 a3 r3 => q cls d G3 H3 (s.trans s3) a3 r3)
/-- o.m(..) -/
theorem er_meth {fs : List (Str × Rl)} {pl : Sem Bool} (ho : ER F ρ ω o (rIns C fs) w1) (hno : fs.lookup m = none) (ha : AR F ρ w1 (e :: es) Rs (wc ++ w)) (hp : pre (rIns C fs :: Rs) wc (.ok R) wc') (hk : keys wc' = keys wc)
    (Fn : FnOk F.X.prog F.X.w F.X.K F.X.mg F.X.base (L2.CX F.X.prog F.X.w) k f fd ps (spM pre)) (hr : Room k F.X.A) (hc : Cls F.X.K C) (hm : Meth F.X.K C m f) (hb : Binds F.X.K fd ps [])
    (hst : starEach (e :: es) F.X.env = (false, eval e F.X.env) :: starEach es F.X.env := by rfl) (hpl : (backTo pos (starEach es F.X.env)).any (·.1) = false := by rfl)
    (ht : eval (.Call (.Attribute o m apos) (e :: es) [] pos) F.X.env = (do
      let ov ← eval o F.X.env
      standAt apos.atName
      let (f, first) ← holding [ov] (getMethod ov m pl)
      callWith pos f first (backTo pos (starEach (e :: es) F.X.env)) (backToKw pos (keywordEach [] F.X.env))) := by rfl) :
    ER F ρ ω (.Call (.Attribute o m apos) (e :: es) [] pos) R (wc' ++ w) := fun σ G H at_ sl Q q => by
  refine ew_of (pe_methS pe_w hc hm Fn hr hb passW pa_w hst hpl ht) (ho σ G H at_ sl _ fun v G1 H1 s1 a1 r1 => ?_)
  obtain ⟨a, dx, vs, rfl, h1, h2⟩ := id r1
  refine ⟨a, dx, vs, rfl, a1.gh _ _ h1, h2.lookN hno, ha σ G1 H1 a1 (sl.up s1) _ fun us G2 H2 s2 a2 r2 => ?_⟩
  exact sp_ok (Rs := rIns C fs :: Rs) a2 ⟨(rIns C fs).mo _ _ _ s2 r1, r2⟩ hp hk fun v G3 H3 s3 a3 r3 => q v G3 H3 ((s1.trans s2).trans s3) a3 r3
theorem er_meth0 {fs : List (Str × Rl)} {pl : Sem Bool} (ho : ER F ρ ω o (rIns C fs) (wc ++ w)) (hno : fs.lookup m = none) (hp : pre [rIns C fs] wc (.ok R) wc') (hk : keys wc' = keys wc)
    (Fn : FnOk F.X.prog F.X.w F.X.K F.X.mg F.X.base (L2.CX F.X.prog F.X.w) k f fd ps (spM pre)) (hr : Room k F.X.A) (hc : Cls F.X.K C) (hm : Meth F.X.K C m f) (hb : Binds F.X.K fd ps [])
    (ht : eval (.Call (.Attribute o m apos) [] [] pos) F.X.env = (do
      let ov ← eval o F.X.env
      standAt apos.atName
      let (f, first) ← holding [ov] (getMethod ov m pl)
      callWith pos f first (backTo pos (starEach [] F.X.env)) (backToKw pos (keywordEach [] F.X.env))) := by rfl) :
    ER F ρ ω (.Call (.Attribute o m apos) [] [] pos) R (wc' ++ w) := fun σ G H at_ sl Q q => by
  refine ew_of (pe_methS0 pe_w hc hm Fn hr hb passW ht) (ho σ G H at_ sl _ fun v G1 H1 s1 a1 r1 => ?_)
  obtain ⟨a, dx, vs, rfl, h1, h2⟩ := id r1
  exact ⟨a, dx, vs, rfl, a1.gh _ _ h1, h2.lookN hno, sp_ok (Rs := [rIns C fs]) a1 ⟨r1, trivial⟩ hp hk fun v G3 H3 s3 a3 r3 => q v G3 H3 (s1.trans s3) a3 r3⟩
theorem ex_meth {fs : List (Str × Rl)} {pl : Sem Bool} (ho : ER F ρ ω o (rIns C fs) w1) (hno : fs.lookup m = none) (ha : AR F ρ w1 (e :: es) Rs (wc ++ w)) (hp : pre (rIns C fs :: Rs) wc (.error P) wc') (hk : keys wc' = keys wc)
    (Fn : FnOk F.X.prog F.X.w F.X.K F.X.mg F.X.base (L2.CX F.X.prog F.X.w) k f fd ps (spM pre)) (hr : Room k F.X.A) (hc : Cls F.X.K C) (hm : Meth F.X.K C m f) (hb : Binds F.X.K fd ps [])
    (hst : starEach (e :: es) F.X.env = (false, eval e F.X.env) :: starEach es F.X.env := by rfl) (hpl : (backTo pos (starEach es F.X.env)).any (·.1) = false := by rfl)
    (ht : eval (.Call (.Attribute o m apos) (e :: es) [] pos) F.X.env = (do
      let ov ← eval o F.X.env
      standAt apos.atName
      let (f, first) ← holding [ov] (getMethod ov m pl)
      callWith pos f first (backTo pos (starEach (e :: es) F.X.env)) (backToKw pos (keywordEach [] F.X.env))) := by rfl) :
    EX F ρ ω (.Call (.Attribute o m apos) (e :: es) [] pos) P (wc' ++ w) := fun σ G H at_ sl q => by
  refine ew_of (pe_methS pe_w hc hm Fn hr hb passW pa_w hst hpl ht) (ho σ G H at_ sl _ fun v G1 H1 s1 a1 r1 => ?_)
  obtain ⟨a, dx, vs, rfl, h1, h2⟩ := id r1
  refine ⟨a, dx, vs, rfl, a1.gh _ _ h1, h2.lookN hno, ha σ G1 H1 a1 (sl.up s1) _ fun us G2 H2 s2 a2 r2 => ?_⟩
  exact sp_er (Rs := rIns C fs :: Rs) a2 ⟨(rIns C fs).mo _ _ _ s2 r1, r2⟩ hp hk fun cls d G3 H3 s3 a3 r3 => q cls d G3 H3 ((s1.trans s2).trans s3) a3 r3
/-- an instance that is being made -/
def oIns (C : Addr) (fs : List (Str × Rl)) : Ol := ⟨fun o G => ∃ dx vs, o = .ins C dx vs ∧ NR fs vs G, fun _ _ _ e ⟨dx, vs, a, b⟩ => ⟨dx, vs, a, b.up e⟩⟩
/-- what is owned no more -/
theorem At.pub {F : Fx} {q : Addr} {O : Ol} {w : Ow} {G H : Hp} {o : HO} (a : At F ((q, O) :: w) G H) (ho : H q = some o) (hq : F.H0 q = none) : At F w (upd G q o) H := by
  have hg : G q = none := (a.ow _ List.mem_cons_self).1
  have sg : Same G (upd G q o) := fun b u e => by rw [upd_ne (ne_of_none e hg)]; exact e
  have nd := List.nodup_cons.mp a.nd
  refine ⟨a.gg.trans sg, a.hh, fun b u e => ?_, fun b h1 h2 => ?_, a.mm, fun p hp => ?_, nd.2⟩
  · by_cases hb : b = q
    · subst hb
      rw [upd_same] at e
      cases e
      exact ho
    · rw [upd_ne hb] at e
      exact a.gh _ _ e
  · rw [upd_ne (fun z => h1 (by rw [z]; exact hq))]
    exact a.fr b h1 h2
  · obtain ⟨x, y, u, z, c⟩ := a.ow p (List.mem_cons_of_mem _ hp)
    have ne : p.1 ≠ q := fun z => nd.1 (List.mem_map.mpr ⟨p, hp, z⟩)
    exact ⟨by rw [upd_ne ne]; exact x, y, u, z, p.2.mo _ _ _ sg c⟩
/-- a new thing that is owned -/
theorem At.own {F : Fx} {q : Addr} {O : Ol} {w : Ow} {G H : Hp} {o : HO} (a : At F w G H) (hq : H q = none) (hc : O.c o G) : At F ((q, O) :: w) G (upd H q o) := by
  have hg : G q = none := a.gh.free hq
  have st := Step.hid (o := o) a.gh hq
  have a' := a.step st
  have hM : q ∉ F.M := fun hm => a.mm q hm hq
  have h0 : F.H0 q = none := by
    cases e : F.H0 q with
    | none => rfl
    | some u => rw [a.hh q u hM e] at hq; cases hq
  refine ⟨a'.gg, a'.hh, a'.gh, a'.fr, a'.mm, fun p hp => ?_, List.nodup_cons.mpr ⟨fun hm => ?_, a.nd⟩⟩
  · rcases List.mem_cons.mp hp with rfl | hp
    · exact ⟨hg, .inl h0, o, upd_same, hc⟩
    · exact a'.ow p hp
  · obtain ⟨p, hp, e⟩ := List.mem_map.mp hm
    obtain ⟨_, _, u, z, _⟩ := a.ow p hp
    rw [e, hq] at z
    cases z
theorem At.own0 {F : Fx} {q : Addr} {O : Ol} {w : Ow} {G H : Hp} (a : At F ((q, O) :: w) G H) (hM : q ∉ F.M) : F.H0 q = none := ((a.ow _ List.mem_cons_self).2.1).resolve_right hM
/-- C(..) -/
theorem er_make {fs : List (Str × Rl)} (ha : AR F ρ ω (e :: es) Rs w) (hp : ∀ q, pre (rRef q :: Rs) [(q, oIns C [])] (.ok rNon) [(q, oIns C fs)]) (Fn : FnOk F.X.prog F.X.w F.X.K F.X.mg F.X.base (L2.CX F.X.prog F.X.w) k f fd ps (spM pre)) (hr : Room (k + 1) F.X.A) (M : Mk F.X.K C f)
    (hm : F.X.mg x = some (.ref C)) (hb : Binds F.X.K fd ps []) (hg : Gl F.X x := by rfl) (hdb : (x == ("__debug__" : Str)) = false := by decide) (he : starEach (e :: es) F.X.env = (false, eval e F.X.env) :: starEach es F.X.env := by rfl) (hpl : (backTo pos (starEach es F.X.env)).any (·.1) = false := by rfl) :
    ER F ρ ω (.Call (.Name x p) (e :: es) [] pos) (rIns C fs) w := fun σ G H at_ sl Q q => by
  refine ew_of (pe_makeS M Fn hr hg hm hb passW pa_w hdb he hpl) (ha σ G H at_ sl _ fun vs G1 H1 s1 a1 r1 => fun y dx hy hdx hne => ?_)
  have a2 : At F w G1 (upd H1 dx (.own y)) := a1.step (Step.hid a1.gh hdx)
  have hy2 : upd H1 dx (.own y) y = none := by rw [upd_ne (Ne.symm hne)]; exact hy
  have a3 : At F ([(y, oIns C [])] ++ w) G1 (upd (upd H1 dx (.own y)) y (.ins C dx [])) := a2.own hy2 ⟨dx, [], rfl, trivial⟩
  have hM : y ∉ F.M := fun hm => a2.mm y hm hy2
  refine sp_ok (Rs := rRef y :: Rs) (wc := [(y, oIns C [])]) a3 ⟨rfl, r1⟩ (hp y) rfl fun v G3 H3 s3 a4 r3 => ⟨r3, ?_⟩
  obtain ⟨_, _, ob, h1, dx', vs', e1, h2⟩ := a4.ow (y, oIns C fs) List.mem_cons_self
  subst e1
  have a5 : At F w (upd G3 y (.ins C dx' vs')) H3 := At.pub (q := y) a4 h1 (At.own0 a4 hM)
  have sg : Same G3 (upd G3 y (.ins C dx' vs')) := fun b u e => by rw [upd_ne (ne_of_none e (a4.ow (y, oIns C fs) List.mem_cons_self).1)]; exact e
  exact q _ _ _ ((s1.trans s3).trans sg) a5 ⟨y, dx', vs', rfl, upd_same, h2.up sg⟩
theorem ex_make (ha : AR F ρ ω (e :: es) Rs w) (hp : ∀ q, ∃ O, pre (rRef q :: Rs) [(q, oIns C [])] (.error P) [(q, O)]) (Fn : FnOk F.X.prog F.X.w F.X.K F.X.mg F.X.base (L2.CX F.X.prog F.X.w) k f fd ps (spM pre)) (hr : Room (k + 1) F.X.A) (M : Mk F.X.K C f)
    (hm : F.X.mg x = some (.ref C)) (hb : Binds F.X.K fd ps []) (hg : Gl F.X x := by rfl) (hdb : (x == ("__debug__" : Str)) = false := by decide) (he : starEach (e :: es) F.X.env = (false, eval e F.X.env) :: starEach es F.X.env := by rfl) (hpl : (backTo pos (starEach es F.X.env)).any (·.1) = false := by rfl)
    (hP : ∀ cls d G G', Same G G' → P cls d G → P cls d G') :
    EX F ρ ω (.Call (.Name x p) (e :: es) [] pos) P w := fun σ G H at_ sl q => by
  refine ew_of (pe_makeS M Fn hr hg hm hb passW pa_w hdb he hpl) (ha σ G H at_ sl _ fun vs G1 H1 s1 a1 r1 => fun y dx hy hdx hne => ?_)
  have a2 : At F w G1 (upd H1 dx (.own y)) := a1.step (Step.hid a1.gh hdx)
  have hy2 : upd H1 dx (.own y) y = none := by rw [upd_ne (Ne.symm hne)]; exact hy
  have a3 : At F ([(y, oIns C [])] ++ w) G1 (upd (upd H1 dx (.own y)) y (.ins C dx [])) := a2.own hy2 ⟨dx, [], rfl, trivial⟩
  have hM : y ∉ F.M := fun hm => a2.mm y hm hy2
  obtain ⟨O, hp'⟩ := hp y
  refine sp_er (Rs := rRef y :: Rs) (wc := [(y, oIns C [])]) a3 ⟨rfl, r1⟩ hp' rfl fun cls d G3 H3 s3 a4 r3 => ?_
  obtain ⟨hg0, _, ob, h1, _⟩ := a4.ow (y, O) List.mem_cons_self
  have a5 : At F w (upd G3 y ob) H3 := At.pub (q := y) a4 h1 (At.own0 a4 hM)
  have sg : Same G3 (upd G3 y ob) := fun b u e => by rw [upd_ne (ne_of_none e hg0)]; exact e
  exact q cls d _ _ ((s1.trans s3).trans sg) a5 (hP _ _ _ _ sg r3)
/-- a field of what is owned: stored -/
def putR (f : Str) (R : Rl) : List (Str × Rl) → List (Str × Rl)
  | [] => [(f, R)]
  | (g, S) :: r => if g = f then (f, R) :: r else (g, S) :: putR f R r
theorem NR.put {f : Str} {R : Rl} {v : V} {H : Hp} (h : R.r v H) : ∀ {fs : List (Str × Rl)} {vs : List (Str × V)}, NR fs vs H → NR (putR f R fs) (putF f v vs) H
  | [], [], _ => ⟨rfl, h, trivial⟩
  | (g, S) :: fs, (g', u) :: vs, ⟨e, a, b⟩ => by
    subst e
    unfold putR putF
    by_cases hg : g = f
    · rw [if_pos hg, if_pos hg]
      exact ⟨hg ▸ rfl, h, b⟩
    · rw [if_neg hg, if_neg hg]
      exact ⟨rfl, a, NR.put h b⟩
  | [], _ :: _, h => h.elim
  | _ :: _, [], h => h.elim
theorem NR.len {κ : Type} : ∀ {fs : List (κ × Rl)} {vs : List (κ × V)} {H : Hp}, NR fs vs H → fs.length = vs.length
  | [], [], _, _ => rfl
  | _ :: _, _ :: _, _, ⟨_, _, b⟩ => by rw [List.length_cons, List.length_cons, NR.len b]
  | [], _ :: _, _, h => h.elim
  | _ :: _, [], _, h => h.elim
/-- what is owned at q changes -/
theorem At.chg {F : Fx} {q : Addr} {O O' : Ol} {w : Ow} {G H : Hp} {o : HO} (a : At F ((q, O) :: w) G H) (hc : O'.c o G) : At F ((q, O') :: w) G (upd H q o) := by
  obtain ⟨hg, hM, ob, h1, _⟩ := a.ow _ List.mem_cons_self
  have nd := List.nodup_cons.mp a.nd
  refine ⟨a.gg, fun b u hb e => ?_, fun b u e => ?_, a.fr, fun b hb => ?_, fun p hp => ?_, a.nd⟩
  · rw [upd_ne (fun z => ?_)]
    · exact a.hh b u hb e
    · rcases hM with z' | z'
      · rw [z, z'] at e; cases e
      · exact hb (z ▸ z')
  · rw [upd_ne (ne_of_none e hg)]
    exact a.gh _ _ e
  · by_cases z : b = q
    · rw [z, upd_same]; simp
    · rw [upd_ne z]; exact a.mm b hb
  · rcases List.mem_cons.mp hp with rfl | hp
    · exact ⟨hg, hM, o, upd_same, hc⟩
    · obtain ⟨x, y, u, z, c⟩ := a.ow p (List.mem_cons_of_mem _ hp)
      have ne : p.1 ≠ q := fun z => nd.1 (List.mem_map.mpr ⟨p, hp, z⟩)
      exact ⟨x, y, u, by rw [upd_ne ne]; exact z, c⟩
theorem hb_fld {K : Kn} {rest : List Stmt} {q : Addr} {fs : List (Str × Rl)} {f : Str} {pos' : Pos} (hv : ER F ρ ω e R w1) (ho : ER F ρ w1 o (rRef q) ((q, oIns C fs) :: w2)) (hc : Cls F.X.K C) (hn : NoAttr F.X.K C f) (h : HB F ρ ((q, oIns C (putR f R fs)) :: w2) rest K) (hl : fs.length < 1000 := by decide)
    (hs : swapsWith e (some (.Attribute o f pos')) pos.line F.X.env = pure false := by rfl) : HB F ρ ω (.Assign [.Attribute o f pos'] e pos :: rest) K := hb_cons fun σ G H D at_ sl ps => by
  refine sw_of (ps_fld pe_w pe_w hs) (hv σ G H at_ sl _ fun v G1 H1 s1 a1 r1 => ho σ G1 H1 a1 (sl.up s1) _ fun u G2 H2 s2 a2 r2 => ?_)
  have r2' : u = V.ref q := r2
  subst r2'
  obtain ⟨_, _, ob, h1, dx, vs, e1, h2⟩ := a2.ow (q, oIns C fs) List.mem_cons_self
  subst e1
  refine ⟨q, C, dx, vs, rfl, h1, hc, hn, by rw [← h2.len]; exact hl, ?_⟩
  have s12 := s1.trans s2
  exact h σ G2 _ D (a2.chg ⟨dx, _, rfl, h2.put (R.mo _ _ _ s2 r1)⟩) (sl.up s12) (ps.up s12)
end
end W1
set_option maxRecDepth 100000
set_option maxHeartbeats 2000000
namespace W1
open PySem PySem.Spec PyProof.Rows L2 NdefX

/-! ### an own error whose __init__ says super().__init__(text) -/
/-- the def at f -/
abbrev supF (qual : Str) (st : Stmt) (cc cd : Addr) : NF := ⟨"__init__", qual, defArgs st, defBody st, defScope st, [("__class__", cc)], cd⟩
/-- what the written part says of the class at C, its __init__ at f, the cell at cc, the code at cd -/
structure SupC (P : Program) (K : PySem.W.Frag) (mg : Str → Option Value) (x qual : Str) (st : Stmt) (C f cc cd : Addr) : Prop where
  ox : OexC K C
  gC : mg x = some (.ref C)
  iC : PySem.W.findIn K (.ref C) "__init__" = some (some (.ref f))
  tI : PySem.W.typeIn K (.ref f) = some (.type "function")
  fn : ∃ oc od doc pm ctv osl, K.lookup f = some ⟨oc, od, .func ((supF qual st cc cd).fd doc pm ctv), osl⟩
  hcd : PySem.W.codeIn K (.ref cd) qual = true
  code : ∃ ccl cdd vs ccs file tf, K.lookup cd = some ⟨ccl, cdd, .fields vs, ccs⟩ ∧ vs[2]? = some (.str file tf) ∧ (P.main.file == file) = true
  cell : ∃ cl cld csl, K.lookup cc = some ⟨cl, cld, .cell (some (.ref C)), csl⟩
  sub : PySem.W.mroIn K C (.ref C) = some true
  nsup : mg "super" = none
  sup : PySem.W.ks_superIn K C C "__init__" = some (some (.builtin "ValueError.__init__"))
  subV : PySem.W.subIn K (.ref C) (.type "ValueError") = some true
  opq : PySem.W.nsIn K cStatics "thirdparty.any" = some none
  top : (P.main.scope.names.lookup ("super" : Str)).isSome = false
  te : PySem.W.exmOne K (.ref C) (.ref C) = some true
section
variable {X : Cx} {pins : List (Addr × Obj)} {σ : L2.St} {H : Hp} {s : Shared}
theorem ld_var {E : Value → Shared → Prop} {i : Nat} {x : Str} {v : V} {Q : Value → Shared → Prop} (I : Inv X pins σ H s) (hN : X.N[i]? = some x) (hv : Vis X.env.scope x) (hσ : σ[i]? = some (some v)) (hcd : (x == ("__classdict__" : Str)) = false)
    (h : ∀ u, RelV v u → Q u s) : wpAny (model X.prog X.w) X.A (loadName X.env x) Q E s := by
  obtain ⟨m, hn, hl⟩ := I.loc
  obtain ⟨u, r, l⟩ := hl i x v hN hσ hv
  rcases l with ⟨hk, hm⟩ | ⟨hk, c, hc, hcell⟩
  · exact wpAny_loadName_local I.ok.kind hk hn hm (h u r)
  · rcases hk with hk | hk
    · exact wpAny_loadName_cell I.ok.kind hk hc hcell (h u r)
    · exact wpAny_loadName_free I.ok.kind hk hc hcell (h u r) hcd
/-- super() in such a body: the object of it -/
theorem super_made {x qual : Str} {st : Stmt} {C f cc cd a : Addr} {p0 p1 : Pos} {body : List Stmt} {whole : Sem Value} {Q : Value → Shared → Prop} {E : Value → Shared → Prop} {ar : Arg} (T : SupC X.prog X.K X.mg x qual st C f cc cd) (I : Inv X pins σ H s)
    (ea : H a = some (exo a C none)) (h0 : σ[0]? = some (some (.ref a))) (hN : X.N[0]? = some ar.arg) (hv : Vis X.env.scope ar.arg) (hn1 : (ar.arg == ("__classdict__" : Str)) = false)
    (hks : X.env.kindOf "super" = some .globalImplicit) (hkc : X.env.kindOf "__class__" = some .free) (hfu : X.env.func = some f) (hco : X.env.code = .ref cd) (hcl : X.env.cells.lookup ("__class__" : Str) = some cc)
    (hp : ((defArgs st).posonlyargs ++ (defArgs st).args).head? = some ar)
    (h : ∀ s', Inv X ((s.heap.objs.size, PySem.W.ks_superObj C a C) :: pins) σ H s' → Q (.ref s.heap.objs.size) s') :
    PySem.wpAt (model X.prog X.w) X.A (.func body X.env) (attributeBase (.Call (.Name "super" p0) [] [] p1) "__init__" X.env whole) Q E s := by
  obtain ⟨oc, od, doc, pm, ctv, osl, hf⟩ := T.fn
  obtain ⟨ccl, cdd, vs, ccs, file, tf, hcode, hvs, hfile⟩ := T.code
  obtain ⟨ct, cld, csl, hcell⟩ := T.cell
  obtain ⟨nm, q, N, bs, bm, sn, sub, ab, col, dd, k0, k1, k2, k3, k5, hC, hbm⟩ := T.ox.cls
  have hclI : PySem.W.clsIn X.K C = some { name := nm, bases := bs, mro := .ref C :: bm, ns := N, qualname := q, hasDict := true, slotNames := sn, subclasses := sub, abstract := ab, collection := col, hasDel := false } := by unfold PySem.W.clsIn; rw [hC] <;> rfl
  obtain ⟨t1, hx⟩ := exo_at I.hok ea
  refine ks_wpAt_super_base (attr := "__init__") hks hkc (by decide +kernel) hfu (I.kIn _ _ hf) rfl hp hco (I.kIn _ _ hcode) rfl hvs hfile T.top ?_
  refine PySem.W.ks_loadName_global I.ok.kind hks ?_
  obtain ⟨mb, h1, h2⟩ := I.mod.blt
  refine Calls.loadGlobal_builtin (by rw [I.ok.glob]; exact I.mod.glob.keeps I.bk) T.nsup (by rw [I.ok.blt]; exact h1.keeps I.bk) ((h2 _ (by decide +kernel)).trans (by decide +kernel : bootBuiltins "super" = some (.type "super"))) ⟨rfl, ?_⟩
  refine wpAny_loadName_free I.ok.kind hkc hcl ⟨_, I.kIn _ _ hcell, rfl⟩ ?_
  refine ld_var I hN hv h0 hn1 fun u ru => ?_
  obtain rfl : u = Value.ref a := ru
  obtain ⟨hp', g, d, t, os⟩ := s
  refine ks_wpAny_isType_cls (I.kIn _ _ hC) rfl ⟨rfl, ?_⟩
  refine ks_wpAny_call_super (I.kIn _ _ hC) rfl hx rfl (fun c z => nomatch z) (PySem.W.looks_mroIn I.kIn T.sub) (fun h' e k => ?_)
  exact h _ (ClX.pin_new I k (Nat.le_refl _) e (fun v z => nomatch z))
/-- .__init__ of it, called: the exception's texts are laid anew -/
theorem super_init {x qual : Str} {st : Stmt} {C f cc cd a so : Addr} {pos : Pos} {e : Expr} {es : List Expr} {ta : TA} {pl : Sem Bool} {Q : Value → Shared → Prop} (T : SupC X.prog X.K X.mg x qual st C f cc cd) (I : Inv X ((so, PySem.W.ks_superObj C a C) :: pins) σ H s)
    (ea : H a = some (exo a C none)) (ha : PA X (e :: es) ta) (q : ta σ H fun vs H1 => vs.length ≤ 1000 ∧ H1 a = some (exo a C none) ∧ ∀ s', Inv X pins σ H1 s' → Q .none s')
    (he : starEach (e :: es) X.env = (false, eval e X.env) :: starEach es X.env) (hpl : (backTo pos (starEach es X.env)).any (·.1) = false) :
    wpAny (model X.prog X.w) X.A (getMethod (.ref so) "__init__" pl) (fun fx s₂ => wpAny (model X.prog X.w) X.A (callWith pos fx.1 fx.2 (backTo pos (starEach (e :: es) X.env)) []) Q X.xe s₂) X.xe s := by
  obtain ⟨nm, q', N, bs, bm, sn, sub, ab, col, dd, k0, k1, k2, k3, k5, hC, hbm⟩ := T.ox.cls
  have hclI : PySem.W.clsIn X.K C = some { name := nm, bases := bs, mro := .ref C :: bm, ns := N, qualname := q', hasDict := true, slotNames := sn, subclasses := sub, abstract := ab, collection := col, hasDel := false } := by unfold PySem.W.clsIn; rw [hC] <;> rfl
  obtain ⟨t1, hx⟩ := exo_at I.hok ea
  have hso := ClX.pin_at I
  have sup := T.sup
  unfold PySem.W.ks_superIn at sup
  rw [hclI] at sup
  have J : PySem.W.InstAt s.heap a { cls := .ref C, dict := none, data := .fields #[.ref t1, .none, .none, .none, .bool false, .none] } C none := ⟨hx, rfl, rfl, trivial⟩
  have naC : a ≠ C := fun z => by
    have := I.kIn _ _ hC
    rw [← z, hx] at this
    cases this
  have hI : PySem.W.Looks (model X.prog X.w) s.heap (isInstance (.ref a) (.type "ValueError")) true := J.type.andThen (PySem.W.looks_subIn I.kIn T.subV)
  obtain ⟨hp, g, d, t, os⟩ := s
  refine PySem.W.kxs_getMethod PySem.W.kxs_ValueError hso (PySem.W.looks_opaque I.kIn T.opq) (l₀ := .ref C :: bm) ?_ rfl I.kIn sup hI naC (by decide +kernel) ?_
  · exact fun A Q E s k q => wpAny_bind ((PySem.W.looks_clsIn I.kIn hclI) A _ E s k (wpAny_pure q))
  · have I1 := ClX.pin_new (t' := t + 1) (h' := hp.push (PySem.W.kxs_mw "ValueError.__init__" a)) (a := hp.objs.size) (o := PySem.W.kxs_mw "ValueError.__init__" a) I (fun b u z => Heap.get?_push_of_some _ z) (Nat.le_refl _) (Heap.get?_push_at rfl rfl) (fun v z => nomatch z)
    have hq1 : wpAny (model X.prog X.w) X.A (spliced (backTo pos (starEach (e :: es) X.env))) (fun us s₁ => PySem.W.KxsAt "ValueError.__init__" hp.objs.size a s₁.heap ∧ wpAny (model X.prog X.w) X.A (call (.ref hp.objs.size) us) Q X.xe s₁) X.xe ⟨hp.push (PySem.W.kxs_mw "ValueError.__init__" a), g, d, t + 1, os⟩ := by
      refine thn (ha.run pos _ _ σ H _ I1 q) fun us s1 ⟨vs, H1, I2, r, hlen, ea1, q1⟩ => ⟨ClX.pin_at I2, ?_⟩
      have hu := ClX.pin_at I2
      obtain ⟨t2, hx2⟩ := exo_at I2.hok ea1
      have hz : us.length ≤ sizeLine := by
        rw [← r.length]
        exact Nat.le_of_lt (small1000 hlen)
      obtain ⟨h2, g2, d2, tk2, os2⟩ := s1
      refine wpAny_call (codeAny_of_tree ?_)
      show wpAny _ X.A.in1 (callAny (.ref hp.objs.size) ⟨us, []⟩) _ _ _
      simp only [callAny]
      refine wpAny_bind (wpAny_load hu ?_)
      simp only [PySem.W.kxs_mw, show (Value.type "method-wrapper" == Value.type "method" || Value.type "method-wrapper" == Value.type "builtin_function_or_method" || Value.type "method-wrapper" == Value.type "method-wrapper") = true by decide, if_true]
      refine PySem.W.KFB.if_so (by decide) ?_
      refine wpAny_bind (PySem.W.check_bound_init F.excBase_ValueError.toExcCallFacts (I2.kIn _ _ hC) hx2 rfl ?_)
      refine wpAny_bind (wpAny_pure (wpAny_pure ?_))
      refine ⟨plainId_quiet F.excBase_ValueError.init.plain _, codeAny_builtin F.excBase_ValueError.initEntry ?_⟩
      refine PySem.W.exc_init_tree (cls := .ref C) (t0 := t2) (dv := none) (c2 := .none) (c3 := .none) (b4 := .bool false) hx2 hz fun h3 k e3 t3 => ?_
      have J3 := (ClX.unpin (ClX.unpin I2)).write (t' := tk2) (x := a) (e := a) (o := exo a C none) (by rw [ea1]; exact True.intro) (.inl rfl) k ⟨_, e3⟩ (exo_ok e3)
      have eu : upd H1 a (exo a C none) = H1 := by
        funext b
        by_cases hb : b = a
        · rw [hb, upd_same, ea1]
        · rw [upd_ne hb]
      rw [eu] at J3
      exact q1 _ J3
    rw [he] at hq1 ⊢
    exact PySem.W.kxs_callWith (i := "ValueError.__init__") (x := a) (first := []) (by show (false || (backTo pos (starEach es X.env)).any (·.1)) = false; rw [hpl]; rfl) (Calls.evalArgs_plain hq1)
end
end W1
set_option maxRecDepth 100000
set_option maxHeartbeats 2000000
namespace W1
open PySem PySem.Spec PyProof.Rows L2 NdefX
section
variable {P : Program} {w : World} {K : PySem.W.Frag} {mg : Str → Option Value} {base : Heap}
/-- such a def keeps its promise -/
theorem fn_sup {x qual : Str} {st : Stmt} {C f cc cd : Addr} {N ps : List Str} {k : Nat} {sp : Sp} {ar : Arg} {p0 p1 p2 p3 p4 : Pos} {e : Expr} {es : List Expr} {rest : List Stmt} (T : SupC P K mg x qual st C f cc cd)
    (S : NScope N ps ["__class__"] (defScope st)) (hst : defBody st = .Expr (.Call (.Attribute (.Call (.Name "super" p0) [] [] p1) "__init__" p2) (e :: es) [] p3) p4 :: rest)
    (hp : ((defArgs st).posonlyargs ++ (defArgs st).args).head? = some ar) (hN : N[0]? = some ar.arg) (hn1 : (ar.arg == ("__classdict__" : Str)) = false) (hpa : ar.arg ∈ ps)
    (hks : (defScope st).names.lookup ("super" : Str) = some .globalImplicit)
    (len : ∀ vs H Q E, sp vs H Q E → vs.length = ps.length)
    (pl : ∀ env : Env, env.scope = defScope st → ∃ pl : Sem Bool, eval (.Call (.Attribute (.Call (.Name "super" p0) [] [] p1) "__init__" p2) (e :: es) [] p3) env = (do
      let ov ← attributeBase (.Call (.Name "super" p0) [] [] p1) "__init__" env (eval (.Call (.Name "super" p0) [] [] p1) env)
      standAt p2.atName
      let (f, first) ← holding [ov] (getMethod ov "__init__" pl)
      callWith p3 f first (backTo p3 (starEach (e :: es) env)) []))
    (hsw : ∀ env : Env, env.scope = defScope st → swapsWith (.Call (.Attribute (.Call (.Name "super" p0) [] [] p1) "__init__" p2) (e :: es) [] p3) none p4.line env = pure false)
    (hse : ∀ env : Env, env.scope = defScope st → starEach (e :: es) env = (false, eval e env) :: starEach es env ∧ (backTo p3 (starEach es env)).any (·.1) = false)
    (hbody : ∀ (A : Around) (outer : List Env) (s : Shared) (H : Hp) (vs : List V) (Q : VK) (E : XK), Room k (A.deeper (envF (supF qual st cc cd) f s.heap.objs.size)) → sp vs H Q E →
      ∃ a ta t, vs[0]? = some (.ref a) ∧ H a = some (exo a C none) ∧ PA (ncx (L2.CX P w) P w K mg base N (supF qual st cc cd) f A outer s H E) (e :: es) ta ∧ PSs (ncx (L2.CX P w) P w K mg base N (supF qual st cc cd) f A outer s H E) rest t ∧
        ta (startF N vs [none]) H fun us H1 => us.length ≤ 1000 ∧ H1 a = some (exo a C none) ∧ t { nx := fun _ H' => Q .non H', rt := Q } (startF N vs [none]) H1) :
    ∃ fd, (∃ doc pm ctv, fd = (supF qual st cc cd).fd doc pm ctv) ∧ FnOk P w K mg base (L2.CX P w) (k + 1) f fd ps sp := by
  obtain ⟨oc, od, doc, pm, ctv, osl, lk⟩ := T.fn
  refine ⟨_, ⟨doc, pm, ctv, rfl⟩, len, fun A outer s H args us vs Q E hr e0 hb r hsp => ?_⟩
  have KX : K.In s.heap := e0.mod.kin.keeps fun b o e => (e0.bs b o e).1
  have hl := len _ _ _ _ hsp
  have lim : s.heap.NoLimit := e0.mod.nolimit.keeps fun b o e => (e0.bs b o e).1
  obtain ⟨ct, cld, csl, hcell⟩ := T.cell
  refine ks_codeAny_call_defAt (body := defBody st) hr.depth (KX _ _ lk) rfl lim (PySem.W.codeRec_of KX T.hcd) rfl hb S.nocell (fun ⟨n, _⟩ hy => S.par n (List.of_mem_zip hy).1) (fun h₁ hns kp => ?_) S.co S.gen S.kind
  show PySem.wpAt (model P w) (A.deeper (envF (supF qual st cc cd) f s.heap.objs.size)) (.func (defBody st) (envF (supF qual st cc cd) f s.heap.objs.size)) (execs (defBody st) (envF (supF qual st cc cd) f s.heap.objs.size)) _ _ _
  have hcc : H cc = none := (e0.bs cc _ (e0.mod.kin _ _ hcell)).2
  have Cs : CellsAt (supF qual st cc cd).cl ["__class__"] [none] s.heap H := by
    refine ⟨rfl, fun y c h => ?_, fun y z c h1 h2 => ?_, fun i y h => ?_⟩
    · have h' : [(("__class__" : Str), cc)].lookup y = some c := h
      by_cases hy : y = "__class__"
      · subst hy
        rw [List.lookup_cons_self] at h'
        cases h'
        exact ⟨hcc, _, _, KX _ _ hcell, rfl⟩
      · rw [List.lookup_cons, show (y == ("__class__" : Str)) = false by simpa using hy] at h'
        cases h'
    · have k1 : ∀ {y : Str}, [(("__class__" : Str), cc)].lookup y = some c → y = "__class__" := fun {y} h => by
        by_cases hy : y = "__class__"
        · exact hy
        · rw [List.lookup_cons, show (y == ("__class__" : Str)) = false by simpa using hy] at h
          cases h
      rw [k1 h1, k1 h2]
    · match i, h with
      | 0, h =>
        cases h
        exact ⟨cc, List.lookup_cons_self, fun v z => by cases z⟩
      | i + 1, h => simp at h
  have I := inv_startN (CX := L2.CX P w) (f := f) (E := E) (tk := s.toks + (ps.zip us).length) S hr.hd e0 hl r Cs hns kp
  obtain ⟨a, ta, t, hv0, ea, hpa1, hrest, hq⟩ := hbody A outer s H vs Q E (hr.deeper _) hsp
  obtain ⟨pl', hpl'⟩ := pl (envF (supF qual st cc cd) f s.heap.objs.size) rfl
  obtain ⟨hse1, hse2⟩ := hse (envF (supF qual st cc cd) f s.heap.objs.size) rfl
  have hσ : (startF N vs [none])[0]? = some (some (V.ref a)) := by
    unfold startF
    have : 0 < vs.length := by
      cases vs with
      | nil => cases hv0
      | cons _ _ => exact Nat.zero_lt_succ _
    rw [List.getElem?_append_left (by rw [List.length_map]; exact this), List.getElem?_map, hv0]
    rfl
  have fin : ∀ {σ' : L2.St} {H' : Hp} {v : V} {u : Value} {s' : Shared}, Inv (ncx (L2.CX P w) P w K mg base N (supF qual st cc cd) f A outer s H E) [] σ' H' s' → L2.RelV v u → Q v H' → CE outer P w H s Q u s' :=
    fun {σ' H' v u s'} J rv q => ⟨v, H', J.os, J.bare, J.base, J.hok, rv, q⟩
  have endR : ∀ fl s', SP (ncx (L2.CX P w) P w K mg base N (supF qual st cc cd) f A outer s H E) [] { nx := fun _ H' => Q .non H', rt := Q } fl s' → CR (L2.CX P w) outer P w H s Q E (.ok (.ret (match fl with | .ret v => v | _ => .none))) s' := fun fl s' hs => by
    cases fl with
    | ret u =>
      obtain ⟨v, σ', H', J, rv, q⟩ := hs
      exact fin J rv q
    | next =>
      obtain ⟨σ', H', J, q⟩ := hs
      exact fin (v := V.non) (u := Value.none) J rfl q
    | brk =>
      obtain ⟨_, _, _, q⟩ := hs
      exact False.elim q
    | cont =>
      obtain ⟨_, _, _, q⟩ := hs
      exact False.elim q
  rw [hst]
  refine ks_wpAt_execs_cons (ks_wpAt_Expr_any ?_ (by simp [interactive, S.kind]) (hsw _ rfl))
  refine ks_wpAt_MethodCall (pl := pl') ?_ hpl'
  refine super_made (X := ncx (L2.CX P w) P w K mg base N (supF qual st cc cd) f A outer s H E) (ar := ar) T I ea hσ hN (Or.inl (S.par _ hpa)) hn1 hks (S.frk _ List.mem_cons_self) rfl rfl List.lookup_cons_self hp fun s1 I1 => ?_
  have hpa2 : PA (ncx (L2.CX P w) P w K mg base N (supF qual st cc cd) f A outer s H E) (e :: es) (fun σ' H' Q' => (σ' = startF N vs [none] ∧ H' = H) ∧ ∀ us H1, (us.length ≤ 1000 ∧ H1 a = some (exo a C none) ∧ t { nx := fun _ H' => Q .non H', rt := Q } (startF N vs [none]) H1) → Q' us H1) :=
    ⟨fun pos pins s σ' H' Q' I z => by
      obtain ⟨⟨rfl, rfl⟩, k⟩ := z
      exact thn (hpa1.run pos pins s _ _ _ I hq) fun us s' ⟨vs', H2, I2, r2, q2⟩ => ⟨vs', H2, I2, r2, k vs' H2 q2⟩⟩
  refine super_init (X := ncx (L2.CX P w) P w K mg base N (supF qual st cc cd) f A outer s H E) T I1 ea hpa2 ⟨⟨rfl, rfl⟩, fun us H1 ⟨h1, h2, h3⟩ => ⟨h1, h2, fun s2 I2 => ?_⟩⟩ hse1 hse2
  refine wpAt_of_wpAny (wpAny_mono (hrest.run [] s2 _ H1 _ I2 h3) (fun fl s' hs => endR fl s' hs) fun e s' hs => hs)
end
end W1
set_option maxRecDepth 100000
set_option maxHeartbeats 2000000
namespace W1
open PySem PySem.Spec PyProof.Rows L2 NdefX

/-- the promise of such an __init__: the one field is stored -/
def spErr (C : Addr) (fld : Str) (Pr : Rl) : Sp := fun vs H Q _ => ∃ a v, vs = [.ref a, v] ∧ H a = some (exo a C none) ∧ Pr.r v H ∧
  ∀ H' d, H d = none → d ≠ a → H' a = some (exo a C (some d)) → H' d = some (exd d [(fld, v)]) → (∀ b o, b ≠ a → H b = some o → H' b = some o) → Q .non H'
/-- an expression that gives some text -/
def Txt1 (X : Cx) (e : Expr) (i : Nat) (Pr : Rl) : Prop := ∃ te, PE X e te ∧ ∀ σ H v, σ[i]? = some (some v) → Pr.r v H → ∀ Q : VK, (∀ y H', Same H H' → Q y H') → te σ H Q
section
variable {P : Program} {w : World} {K : PySem.W.Frag} {mg : Str → Option Value} {base : Heap}
theorem ok_err {x qual y fld : Str} {st : Stmt} {C f cc cd : Addr} {k : Nat} {Pr : Rl} {p0 p1 p2 p3 p4 p5 p6 p7 p8 ps1 ps2 : Pos} {an1 an2 : Option Expr} {e : Expr} (T : SupC P K mg x qual st C f cc cd)
    (S : NScope ([("self" : Str), y, "__class__"] : List Str) ([("self" : Str), y] : List Str) ["__class__"] (defScope st))
    (hst : defBody st = [.Expr (.Call (.Attribute (.Call (.Name "super" p0) [] [] p1) "__init__" p2) [e] [] p3) p4, .Assign [.Attribute (.Name "self" p5) fld p6] (.Name y p7) p8])
    (hp : ((defArgs st).posonlyargs ++ (defArgs st).args).head? = some ⟨"self", an1, ps1⟩) (hks : (defScope st).names.lookup ("super" : Str) = some .globalImplicit) (hno : PySem.W.findIn K (.ref C) fld = some none)
    (hd1 : (y == ("__debug__" : Str)) = false) (hd2 : (y == ("__classdict__" : Str)) = false)
    (pl : ∀ env : Env, env.scope = defScope st → ∃ pl : Sem Bool, eval (.Call (.Attribute (.Call (.Name "super" p0) [] [] p1) "__init__" p2) [e] [] p3) env = (do
      let ov ← attributeBase (.Call (.Name "super" p0) [] [] p1) "__init__" env (eval (.Call (.Name "super" p0) [] [] p1) env)
      standAt p2.atName
      let (f, first) ← holding [ov] (getMethod ov "__init__" pl)
      callWith p3 f first (backTo p3 (starEach [e] env)) []))
    (hsw : ∀ env : Env, env.scope = defScope st → swapsWith (.Call (.Attribute (.Call (.Name "super" p0) [] [] p1) "__init__" p2) [e] [] p3) none p4.line env = pure false)
    (hsw2 : ∀ env : Env, swapsWith (.Name y p7) (some (.Attribute (.Name "self" p5) fld p6)) p8.line env = pure false)
    (hse : ∀ env : Env, env.scope = defScope st → starEach [e] env = (false, eval e env) :: starEach [] env ∧ (backTo p3 (starEach [] env)).any (·.1) = false)
    (htx : ∀ X : Cx, X.K = K → X.mg = mg → X.base = base → X.prog = P → X.w = w → X.N = ([("self" : Str), y, "__class__"] : List Str) → X.env.scope = defScope st → Room k X.A → X.calm = true → Txt1 X e 1 Pr) :
    ∃ fd, (∃ doc pm ctv, fd = (supF qual st cc cd).fd doc pm ctv) ∧ FnOk P w K mg base (L2.CX P w) (k + 1) f fd ([("self" : Str), y] : List Str) (spErr C fld Pr) := by
  refine fn_sup (N := ([("self" : Str), y, "__class__"] : List Str)) (ps := ([("self" : Str), y] : List Str)) T S hst hp rfl (show (("self" : Str) == ("__classdict__" : Str)) = false by decide +kernel) List.mem_cons_self hks (fun vs H Q E h => ?_) pl hsw hse (fun A outer s H vs Q E hr h => ?_)
  · obtain ⟨a, v, rfl, _⟩ := h
    rfl
  · obtain ⟨a, v, rfl, ea, hpr, hq⟩ := h
    obtain ⟨te, hte, htk⟩ := htx (ncx (L2.CX P w) P w K mg base ([("self" : Str), y, "__class__"] : List Str) (supF qual st cc cd) f A outer s H E) rfl rfl rfl rfl rfl rfl rfl hr rfl
    have hs : Loc (defScope st) "self" := .inl (S.par _ List.mem_cons_self)
    have hy : Loc (defScope st) y := .inl (S.par _ (List.mem_cons_of_mem _ List.mem_cons_self))
    refine ⟨a, _, _, rfl, ea, pa_cons hte pa_nil (hse _ rfl).1, pss_one (ps_ost (pe_var (i := 0) rfl (Or.inl (S.par _ List.mem_cons_self))) (pe_var (i := 1) rfl (Or.inl (S.par _ (List.mem_cons_of_mem _ List.mem_cons_self))) hd1 hd2) (hsw2 _)), ?_⟩
    refine htk _ _ v rfl hpr _ fun z H1 s1 => ⟨by show 1 ≤ 1000; decide, s1 _ _ ea, v, rfl, .ref a, rfl, a, C, rfl, T.ox, hno, .inl ⟨s1 _ _ ea, fun d hd hne => ?_⟩⟩
    refine hq _ d (s1.free hd) hne upd_same (by rw [upd_ne hne, upd_same]) fun b o hb e => ?_
    rw [upd_ne hb, upd_ne (ne_of_none (s1 _ _ e) hd)]
    exact s1 _ _ e
end
/-- the error as it flies: its one field -/
def erF (C : Addr) (fld : Str) (R : Rl) : Er := fun cls d G => cls = .ref C ∧ ∃ dd v, d = some dd ∧ G dd = some (.xd [(fld, v)]) ∧ R.r v G
theorem erF_mo {C : Addr} {fld : Str} {R : Rl} : ∀ cls d G G', Same G G' → erF C fld R cls d G → erF C fld R cls d G' := fun cls d G G' s ⟨a, dd, v, b, c, e⟩ => ⟨a, dd, v, b, s _ _ c, R.mo _ _ _ s e⟩
section
variable {F : Fx} {ρ : Ty} {ω w1 : Ow} {K : Kn} {rest : List Stmt} {e : Expr} {R Pr : Rl} {pos pos' p : Pos} {x y qual fld : Str} {st : Stmt} {C f cc cd : Addr} {fd : FuncData} {k : Nat}
theorem hb_raise (ha : AR F ρ ω [e] [R] w1) (hx : K.ex ρ w1 (erF C fld R)) (hPr : ∀ v G, R.r v G → Pr.r v G) (T : SupC F.X.prog F.X.K F.X.mg x qual st C f cc cd) (Fn : FnOk F.X.prog F.X.w F.X.K F.X.mg F.X.base (L2.CX F.X.prog F.X.w) k f fd ([("self" : Str), y] : List Str) (spErr C fld Pr))
    (hr : Room (k + 1) F.X.A) (hb : Binds F.X.K fd ([("self" : Str), y] : List Str) []) (hg : Gl F.X x := by rfl) (hc : F.X.calm = true := by rfl) (hdb : (x == ("__debug__" : Str)) = false := by decide)
    (he : starEach [e] F.X.env = (false, eval e F.X.env) :: starEach [] F.X.env := by rfl) (hpl : (backTo pos (starEach [] F.X.env)).any (·.1) = false := by rfl) :
    HB F ρ ω (.Raise (some (.Call (.Name x p) [e] [] pos)) none pos' :: rest) K := hb_cons fun σ G H D at_ sl ps => by
  refine sw_of (ps_raise hc F.tk (pmk_oex T.ox T.iC T.tI Fn hr hb .nil passL hg T.gC pa_w hdb he hpl)) (ha σ G H at_ sl _ fun vs G1 H1 s1 a1 r1 => ?_)
  obtain ⟨v, rfl, rv⟩ := all1 r1
  refine ⟨by show 1 ≤ 1000; decide, fun a hna => ?_⟩
  have hg0 : G1 a = none := a1.gh.free hna
  have sa : Same G1 (upd H1 a (exo a C none)) := fun b o z => by rw [upd_ne (ne_of_none z hg0)]; exact a1.gh _ _ z
  refine ⟨a, v, rfl, upd_same, Pr.mo _ _ _ sa (hPr _ _ rv), fun H' d hd hne h1 h2 h3 => ⟨rfl, d, _, h1, h2, ?_, ?_⟩⟩
  · rw [upd_ne hne] at hd
    exact hd
  · rw [upd_ne hne] at hd
    have hgd : G1 d = none := a1.gh.free hd
    have st : Step G1 H1 (upd G1 d (.xd [(fld, v)])) (upd (del H' a) d (.xd [(fld, v)])) := by
      refine ⟨fun b o z => by rw [upd_ne (ne_of_none z hgd)]; exact z, fun b o z => ?_, fun b o z => ?_, fun b z1 z2 => ?_⟩
      · have ba : b ≠ a := ne_of_none z hna
        rw [upd_ne (ne_of_none z hd), del_ne ba]
        exact h3 b o ba (by rw [upd_ne ba]; exact z)
      · by_cases hb : b = d
        · subst hb
          rw [upd_same] at z ⊢
          exact z
        · rw [upd_ne hb] at z ⊢
          have ba : b ≠ a := ne_of_none z hg0
          rw [del_ne ba]
          exact h3 b o ba (by rw [upd_ne ba]; exact a1.gh _ _ z)
      · rw [upd_ne (fun z => z1 (by rw [z]; exact hd))]
        exact z2
    exact ps.ex ρ w1 _ hx _ _ σ _ _ (s1.trans st.gg) (a1.step st) (sl.up (s1.trans st.gg)) ⟨rfl, d, v, rfl, upd_same, R.mo _ _ _ st.gg rv⟩
end
/-! ### what an f-string tells: some text -/
def prInt : Rl := ⟨fun v _ => ∃ i : Int, v = .int i ∧ i.natAbs.log2 < 1920, fun _ _ _ _ h => h⟩
def prStr : Rl := ⟨fun v _ => ∃ z : Str, v = .str z ∧ z.length ≤ 100000, fun _ _ _ _ h => h⟩
theorem strlen_app (a b : Str) : (a ++ b).length = a.length + b.length := by
  show (a.cps ++ b.cps).size = a.cps.size + b.cps.size
  rw [Array.size_append]
theorem fmt_int {X : Cx} {e : Expr} {i : Nat} {pos : Pos} {x : Str} (hN : X.N[i]? = some x) (hv : Vis X.env.scope x) (hd : (x == ("__debug__" : Str)) = false) (hcd : (x == ("__classdict__" : Str)) = false) {p1 : Pos} :
    ∃ te, PE X (.FormattedValue (.Name x p1) (-1) none pos) te ∧ ∀ σ H v, σ[i]? = some (some v) → (prInt.r v H ∨ prStr.r v H) → ∀ Q : VK, (∀ y : Str, y.length ≤ 101000 → Q (.str y) H) → te σ H Q :=
  ⟨_, pe_fmt (pe_var hN hv hd hcd), fun σ H v h1 h2 Q q => ⟨v, h1, by
    rcases h2 with ⟨n, rfl, h2⟩ | ⟨z, rfl, h2⟩
    · exact .inr ⟨n, rfl, h2, q _ (Nat.le_trans (int_text_len_1921 h2) (by decide))⟩
    · exact .inl ⟨z, rfl, Nat.le_trans h2 (by decide), q z (Nat.le_trans h2 (by decide))⟩⟩⟩
theorem empty_app (a : Str) : (Str.empty ++ a).length = a.length := by
  rw [strlen_app]
  exact Nat.zero_add _
/-- f"{x} .." -/
theorem txt_fc {X : Cx} {i : Nat} {x t : Str} {p1 p2 p3 p4 : Pos} {j : Nat} (hN : X.N[i]? = some x) (hv : Vis X.env.scope x) (hd : (x == ("__debug__" : Str)) = false) (hcd : (x == ("__classdict__" : Str)) = false) (ht : t.length ≤ 1000) {Pr : Rl} (hPr : ∀ v H, Pr.r v H → prInt.r v H ∨ prStr.r v H) :
    Txt1 X (.JoinedStr [.FormattedValue (.Name x p1) (-1) none p2, .Constant (.str t) j p3] p4) i Pr := by
  obtain ⟨te, h1, h2⟩ := fmt_int (X := X) (e := .Name x p1) (pos := p2) (p1 := p1) hN hv hd hcd
  refine ⟨_, pe_joined (.cons h1 (.cons pe_str .nil)), fun σ H v h3 h4 Q q => ?_⟩
  refine h2 σ H v h3 (hPr _ _ h4) _ fun y hy => ⟨y, rfl, ?_, t, rfl, ?_, q _ _ (Same.refl _)⟩
  · rw [empty_app]
    exact Nat.le_trans hy (by decide)
  · rw [strlen_app, empty_app]
    exact Nat.le_trans (Nat.add_le_add hy ht) (by decide)
/-- f".. {x}" -/
theorem txt_cf {X : Cx} {i : Nat} {x t : Str} {p1 p2 p3 p4 : Pos} {j : Nat} (hN : X.N[i]? = some x) (hv : Vis X.env.scope x) (hd : (x == ("__debug__" : Str)) = false) (hcd : (x == ("__classdict__" : Str)) = false) (ht : t.length ≤ 1000) {Pr : Rl} (hPr : ∀ v H, Pr.r v H → prInt.r v H ∨ prStr.r v H) :
    Txt1 X (.JoinedStr [.Constant (.str t) j p3, .FormattedValue (.Name x p1) (-1) none p2] p4) i Pr := by
  obtain ⟨te, h1, h2⟩ := fmt_int (X := X) (e := .Name x p1) (pos := p2) (p1 := p1) hN hv hd hcd
  refine ⟨_, pe_joined (.cons pe_str (.cons h1 .nil)), fun σ H v h3 h4 Q q => ⟨t, rfl, ?_, ?_⟩⟩
  · rw [empty_app]
    exact Nat.le_trans ht (by decide)
  · refine h2 σ H v h3 (hPr _ _ h4) _ fun y hy => ⟨y, rfl, ?_, q _ _ (Same.refl _)⟩
    rw [strlen_app, empty_app]
    exact Nat.le_trans (Nat.add_le_add ht hy) (by decide)
end W1
set_option maxRecDepth 100000
set_option maxHeartbeats 2000000
namespace W1
open PySem PySem.Spec PyProof.Rows L2

/-! ### an own class's operators -/
structure OwnM (K : PySem.W.Frag) (C : Addr) (dn : Str) (g : Addr) : Prop where
  at_ : PySem.W.findIn K (.ref C) dn = some (some (.ref g))
  fn : PySem.W.isFn K (.ref g) = true
structure ClsX (K : PySem.W.Frag) (C : Addr) : Prop where
  cls : Cls K C
  first : PySem.W.selfFirst K C = true
  ca : PySem.W.findIn K (.ref C) "__class__" = some (some (.builtin "object.__class__"))
  cn : PySem.W.specialIn K (.builtin "object.__class__") "__get__" = some (some (.builtin "getset_descriptor.__get__"))
  ct : PySem.W.takesIn K (.builtin "object.__class__") = some true
  cm : PySem.W.mroIn K C (.type "object") = some true
section
variable {X : Cx} {pins : List (Addr × Obj)} {σ : L2.St} {H : Hp} {s : Shared} {a C dx g k : Nat} {fs : List (Str × V)} {fd : FuncData} {ps : List Str} {sp : Sp} {E : Value → Shared → Prop}
theorem inst_at (I : Inv X pins σ H s) (e : H a = some (.ins C dx fs)) : ∃ od, PySem.W.InstAt s.heap a (PySem.W.instObj C dx) C (some od) := by
  obtain ⟨mA, O, _, _, _, _⟩ := ins_get I.hok e
  obtain ⟨od, J, _⟩ := O.look
  exact ⟨od, J⟩
/-- a callee that raises nothing, below the running body -/
theorem run_below {A : Around} {Q : VK} {us : List Value} {vs : List V} (F : FnOk X.prog X.w X.K X.mg X.base (L2.CX X.prog X.w) k g fd ps sp) (hr : Room k A) (e0 : Env0 X.prog X.w X.K X.mg X.base A X.stack s H) (hb : Binds X.K fd ps []) (I : Inv X pins σ H s) (r : Vals vs us) (h : sp vs H Q E0)
    (E : Value → Shared → Prop) : wpAny (model X.prog X.w) A (call (.ref g) us) (EP X pins σ Q) E s := by
  have hl : us.length = ps.length := by rw [← r.length]; exact F.len _ _ _ _ h
  have b := hb s us I.kIn (by rw [List.append_nil]; exact hl)
  rw [List.append_nil] at b
  refine wpAny_call (codeAny_mono (F.run A X.stack s H ⟨us, []⟩ us vs Q E0 hr e0 b r h) fun r s' hq => ?_)
  cases r with
  | error e =>
    obtain ⟨_, _, _, _, _, _, _, _, _, _, _, _, z⟩ := hq
    exact z.elim
  | ok fl =>
    cases fl with
    | ret u => exact I.after hq
    | next => exact False.elim hq
    | brk => exact False.elim hq
    | cont => exact False.elim hq
/-- a op b, two instances of the class at C -/
def rOwn2 (C : Addr) (sp : Sp) : R2 := fun x y H Q => ∃ a dx vs b dy ws, x = .ref a ∧ y = .ref b ∧ H a = some (.ins C dx vs) ∧ H b = some (.ins C dy ws) ∧ sp [x, y] H Q E0
theorem op_own2 {op : Operator} (c : ClsX X.K C) (m : OwnM X.K C (PySem.dunder op.info.2) g) (F : FnOk X.prog X.w X.K X.mg X.base (L2.CX X.prog X.w) k g fd ps sp) (hr : Room k X.A) (hb : Binds X.K fd ps []) : OpR X (binaryOp op) (rOwn2 C sp) := by
  intro pins s σ H x y v u Q I rx ry h
  obtain ⟨a, dx, vs, b, dy, ws, rfl, rfl, ha, hb', q⟩ := h
  cases (show v = Value.ref a from rx)
  cases (show u = Value.ref b from ry)
  obtain ⟨od, J⟩ := inst_at I ha
  obtain ⟨od', J'⟩ := inst_at I hb'
  obtain ⟨mm, hF⟩ := I.fr
  refine PySem.W.binop_K hF I.ok.mod.kin J J'.type c.first m.at_ m.fn ?_
  refine wpAny_mono (run_below (us := [.ref a, .ref b]) (vs := [.ref a, .ref b]) F hr I.env0 hb I (.cons rfl (.cons rfl .nil)) q _) (fun w s' z => ?_) fun _ _ x => x
  obtain ⟨z', H', I', rz, qz⟩ := z
  exact SlX.cmpback rz ⟨z', H', I', rz, qz⟩
/-- -a -/
def rOwn1 (C : Addr) (sp : Sp) : V → Hp → VK → Prop := fun x H Q => ∃ a dx vs, x = .ref a ∧ H a = some (.ins C dx vs) ∧ sp [x] H Q E0
theorem op_own1 (m : OwnM X.K C "__neg__" g) (F : FnOk X.prog X.w X.K X.mg X.base (L2.CX X.prog X.w) k g fd ps sp) (hr : Room k X.A) (hb : Binds X.K fd ps []) : UnR X (unaryOp .USub) (rOwn1 C sp) := by
  intro pins s σ H x v Q I rx h
  obtain ⟨a, dx, vs, rfl, ha, q⟩ := h
  cases (show v = Value.ref a from rx)
  obtain ⟨od, J⟩ := inst_at I ha
  obtain ⟨mm, hF⟩ := I.fr
  exact PySem.W.ksp_neg hF I.ok.mod.kin J m.at_ m.fn (run_below (us := [.ref a]) (vs := [.ref a]) F hr I.env0 hb I (.cons rfl .nil) q _)
/-- a == y by an own def; the type of y is no class below C -/
inductive TyE (K : PySem.W.Frag) (H : Hp) : V → Value → Prop where
  | int (i : Int) : TyE K H (.int i) (.type "int")
  | str (z : Str) : TyE K H (.str z) (.type "str")
  | bl (b : Bool) : TyE K H (.bl b) (.type "bool")
  | non : TyE K H .non (.type "NoneType")
  | ins {b D dy : Addr} {ws : List (Str × V)} (h : H b = some (.ins D dy ws)) : TyE K H (.ref b) (.ref D)
  | lst {b : Addr} {xs : List V} (h : H b = some (.lst xs)) : TyE K H (.ref b) (.type "list")
  | tup {b : Addr} {xs : List V} (h : H b = some (.tup xs)) : TyE K H (.ref b) (.type "tuple")
theorem tye_looks {y : V} {u t : Value} (I : Inv X pins σ H s) (r : RelV y u) (h : TyE X.K H y t) : PySem.W.Looks (model X.prog X.w) s.heap (typeOf u) t := by
  cases h with
  | int i => obtain ⟨tk, rfl⟩ := r; exact PySem.W.Looks.of_pure rfl
  | str z => obtain ⟨tk, rfl⟩ := r; exact PySem.W.Looks.of_pure rfl
  | bl b => cases (show u = Value.bool b from r); exact PySem.W.Looks.of_pure rfl
  | non => cases (show u = Value.none from r); exact PySem.W.Looks.of_pure rfl
  | @ins b D dy ws h =>
    cases (show u = Value.ref b from r)
    obtain ⟨od', J'⟩ := inst_at I h
    exact J'.type
  | @lst b xs h =>
    cases (show u = Value.ref b from r)
    obtain ⟨_, its, n, _, e⟩ := (show ObjOk X.prog X.w H s.heap b (.lst xs) from I.hok b _ h)
    exact fun A Q E s k q => wpAny_typeOf_ref (k _ _ e) q
  | @tup b xs h =>
    cases (show u = Value.ref b from r)
    obtain ⟨_, its, _, o, e, c, _⟩ := (show ObjOk X.prog X.w H s.heap b (.tup xs) from I.hok b _ h)
    exact fun A Q E s k q => wpAny_typeOf_ref (k _ _ e) (by rw [c]; exact q)
def rOwnE (K : PySem.W.Frag) (C : Addr) (sp : Sp) : R2 := fun x y H Q => ∃ a dx vs t, x = .ref a ∧ H a = some (.ins C dx vs) ∧ TyE K H y t ∧ PySem.W.notFirst K C t = true ∧ sp [x, y] H Q E0
theorem rc_own {A : Around} {Q : VK} {a : Addr} {y : V} {u t : Value} (m : OwnM X.K C "__eq__" g) (F : FnOk X.prog X.w X.K X.mg X.base (L2.CX X.prog X.w) k g fd ps sp) (hr : Room k A) (e0 : Env0 X.prog X.w X.K X.mg X.base A X.stack s H) (hb : Binds X.K fd ps []) (I : Inv X pins σ H s)
    (ha : H a = some (.ins C dx fs)) (ry : RelV y u) (ty : TyE X.K H y t) (hn : PySem.W.notFirst X.K C t = true) (q : sp [.ref a, y] H Q E0) (E : Value → Shared → Prop) : wpAny (model X.prog X.w) A (richCompare .Eq (.ref a) u) (EP X pins σ Q) E s := by
  obtain ⟨od, J⟩ := inst_at I ha
  obtain ⟨mm, hF⟩ := I.fr
  refine PySem.W.cmp_K (op := .Eq) hr.units0 hF I.ok.mod.kin J (tye_looks I ry ty) hn m.at_ m.fn ?_
  refine wpAny_mono (run_below (us := [.ref a, u]) (vs := [.ref a, y]) F hr e0 hb I (.cons rfl (.cons ry .nil)) q _) (fun w s' z => ?_) fun _ _ x => x
  obtain ⟨z', H', I', rz, qz⟩ := z
  exact SlX.cmpback rz ⟨z', H', I', rz, qz⟩
theorem op_ownE (m : OwnM X.K C "__eq__" g) (F : FnOk X.prog X.w X.K X.mg X.base (L2.CX X.prog X.w) k g fd ps sp) (hr : Room k X.A) (hb : Binds X.K fd ps []) : OpR X (compareOp .Eq) (rOwnE X.K C sp) := by
  intro pins s σ H x y v u Q I rx ry h
  obtain ⟨a, dx, vs, t, rfl, ha, ty, hn, q⟩ := h
  cases (show v = Value.ref a from rx)
  show wpAny _ _ (richCompare .Eq (.ref a) u) _ _ _
  exact rc_own m F hr I.env0 hb I ha ry ty hn q _
/-- C.m(..), m a classmethod -/
def tCMethS (C : Addr) (sp : Sp) (E : L2.St → XK) (ta : TE) (t : TA) : TE := fun σ H Q => ta σ H fun x H1 => x = .ref C ∧ t σ H1 fun vs H2 => sp (.ref C :: vs) H2 Q (E σ)
theorem pe_cmethS {o e : Expr} {es : List Expr} {m : Str} {apos pos : Pos} {ta : TE} {t : TA} {pl : Sem Bool} {mc : Value} {p : Addr} {CX : CXT} {E : L2.St → XK} (he : PE X o ta) (r : ClX.CRead X.K C mc) (c : ClX.CMet X.K C mc m p g) (F : FnOk X.prog X.w X.K X.mg X.base CX k g fd ps sp) (hr : Room k X.A) (hb : Binds X.K fd ps [])
    (hx : ∀ σ, PassesAt CX X σ (E σ)) (ha : PA X (e :: es) t)
    (hst : starEach (e :: es) X.env = (false, eval e X.env) :: starEach es X.env := by rfl) (hpl : (backTo pos (starEach es X.env)).any (·.1) = false := by rfl)
    (ht : eval (.Call (.Attribute o m apos) (e :: es) [] pos) X.env = (do
      let ov ← eval o X.env
      standAt apos.atName
      let (f, first) ← holding [ov] (getMethod ov m pl)
      callWith pos f first (backTo pos (starEach (e :: es) X.env)) (backToKw pos (keywordEach [] X.env))) := by rfl) :
    PE X (.Call (.Attribute o m apos) (e :: es) [] pos) (tCMethS C sp E ta t) := by
  refine ⟨fun pins s σ H Q I h => ?_⟩
  refine PySem.W.methodCall_KW (pl := pl) (thn (he.run pins s σ H _ I h) fun u s1 ⟨x, H1, I1, rx, ex, q⟩ => ?_) ht
  subst ex
  obtain rfl : u = Value.ref C := rx
  refine ClX.getmethcm_ok I1 r c fun s2 I2 => ?_
  refine ClX.callwith_cm I2 (ClX.base_none I1 (Nat.le_refl _)) c.fi (thn (ha.run pos _ s2 σ H1 _ I2 q) fun us s3 ⟨vs, H2, I3, rv, q2⟩ => ⟨⟨ClX.pin_at I3, I3.kIn⟩, ?_⟩) hst hpl
  have hl : (Value.ref C :: us).length = ps.length := by
    have e := (show Vals (V.ref C :: vs) (Value.ref C :: us) from .cons rfl rv).length
    rw [← e]
    exact F.len _ _ _ _ q2
  have b := hb s3 (Value.ref C :: us) I3.kIn (by rw [List.append_nil]; exact hl)
  rw [List.append_nil] at b
  have z : wpAny (model X.prog X.w) X.A (call (.ref s1.heap.objs.size) us) (EP X ((s1.heap.objs.size, PySem.W.methodObj (.ref g) (.ref C)) :: pins) σ Q) X.xe s3 := by
    refine wpAny_call (PySem.W.method_call (ClX.pin_at I3) (codeAny_mono (F.run X.A X.stack s3 H2 ⟨.ref C :: us, []⟩ (.ref C :: us) (.ref C :: vs) Q (E σ) hr I3.env0 b (.cons rfl rv) q2) fun r s' hq => ?_))
    cases r with
    | error e => exact hx σ _ H2 s3 e s' I3 hq
    | ok fl =>
      cases fl with
      | ret u => exact I3.after hq
      | next => exact False.elim hq
      | brk => exact False.elim hq
      | cont => exact False.elim hq
  exact thn z fun _ _ y => ClX.unpinE y
end

section
variable {F : Fx} {ρ : Ty} {ω w w1 w2 wc wc' : Ow} {e o : Expr} {es : List Expr} {A B R S : Rl} {Rs : List Rl} {P : Er} {pos p apos : Pos} {x m : Str} {k : Nat} {f C g pc : Addr} {fd : FuncData} {ps : List Str} {pre : Pre} {fs gs : List (Str × Rl)} {b : Bool}
theorem mk1 {v : V} {H : Hp} (h : R.r v H) : All2 [R] [v] H := ⟨h, trivial⟩
theorem mk2 {u v : V} {H : Hp} (h : R.r u H) (h' : S.r v H) : All2 [R, S] [u, v] H := ⟨h, h', trivial⟩
theorem mkc {v : V} {vs : List V} {H : Hp} (h : R.r v H) (h' : All2 Rs vs H) : All2 (R :: Rs) (v :: vs) H := ⟨h, h'⟩
theorem sp_ok0 {vs : List V} {G H : Hp} {Q : VK} (at_ : At F w G H) (hv : All2 Rs vs G) (hp : pre Rs [] (.ok R) []) (q : ∀ v G2 H2, Same G G2 → At F w G2 H2 → R.r v G2 → Q v H2) {E : XK} : spM pre vs H Q E := sp_ok (wc := []) (w := w) at_ hv hp rfl q
theorem bop_own {op : Operator} (hp : pre [rIns C fs, rIns C gs] [] (.ok R) []) (Fn : FnOk F.X.prog F.X.w F.X.K F.X.mg F.X.base (L2.CX F.X.prog F.X.w) k g fd ps (spM pre)) (c : ClsX F.X.K C) (m : OwnM F.X.K C (PySem.dunder op.info.2) g) (hr : Room k F.X.A) (hb : Binds F.X.K fd ps []) :
    Bop F w (binaryOp op) (rIns C fs) (rIns C gs) R := ⟨_, op_own2 c m Fn hr hb, fun x y G H at_ hx hy Q q => by
  obtain ⟨a, dx, vs, rfl, h1, h2⟩ := id hx
  obtain ⟨b, dy, ws, rfl, h3, h4⟩ := id hy
  exact ⟨a, dx, vs, b, dy, ws, rfl, rfl, at_.gh _ _ h1, at_.gh _ _ h3, sp_ok0 at_ (mk2 hx hy) hp q⟩⟩
theorem uop_own (hp : pre [rIns C fs] [] (.ok R) []) (Fn : FnOk F.X.prog F.X.w F.X.K F.X.mg F.X.base (L2.CX F.X.prog F.X.w) k g fd ps (spM pre)) (m : OwnM F.X.K C "__neg__" g) (hr : Room k F.X.A) (hb : Binds F.X.K fd ps []) :
    Uop F w (unaryOp .USub) (rIns C fs) R := ⟨_, op_own1 m Fn hr hb, fun x G H at_ hx Q q => by
  obtain ⟨a, dx, vs, rfl, h1, h2⟩ := id hx
  exact ⟨a, dx, vs, rfl, at_.gh _ _ h1, sp_ok0 at_ (mk1 hx) hp q⟩⟩
/-- the type of what is compared with -/
def TyR (K : PySem.W.Frag) (B : Rl) (t : Value) : Prop := ∀ v G H, Same G H → B.r v G → TyE K H v t
theorem tyr_ins {K : PySem.W.Frag} : TyR K (rIns C fs) (.ref C) := fun v G H s h => by
  obtain ⟨a, dx, vs, rfl, h1, h2⟩ := h
  exact .ins (s _ _ h1)
theorem bop_ownE {t : Value} (hp : pre [rIns C fs, B] [] (.ok R) []) (ht : TyR F.X.K B t) (hn : PySem.W.notFirst F.X.K C t = true) (Fn : FnOk F.X.prog F.X.w F.X.K F.X.mg F.X.base (L2.CX F.X.prog F.X.w) k g fd ps (spM pre)) (m : OwnM F.X.K C "__eq__" g) (hr : Room k F.X.A) (hb : Binds F.X.K fd ps []) :
    Bop F w (compareOp .Eq) (rIns C fs) B R := ⟨_, op_ownE m Fn hr hb, fun x y G H at_ hx hy Q q => by
  obtain ⟨a, dx, vs, rfl, h1, h2⟩ := id hx
  exact ⟨a, dx, vs, t, rfl, at_.gh _ _ h1, ht y G H at_.gh hy, hn, sp_ok0 at_ (mk2 hx hy) hp q⟩⟩
theorem er_cmeth {mc : Value} {pl : Sem Bool} (ho : ER F ρ ω o (rRef C) w1) (ha : AR F ρ w1 (e :: es) Rs w) (hp : pre (rRef C :: Rs) [] (.ok R) []) (Fn : FnOk F.X.prog F.X.w F.X.K F.X.mg F.X.base (L2.CX F.X.prog F.X.w) k g fd ps (spM pre)) (hr : Room k F.X.A) (r : ClX.CRead F.X.K C mc) (c : ClX.CMet F.X.K C mc m pc g) (hb : Binds F.X.K fd ps [])
    (hst : starEach (e :: es) F.X.env = (false, eval e F.X.env) :: starEach es F.X.env := by rfl) (hpl : (backTo pos (starEach es F.X.env)).any (·.1) = false := by rfl)
    (ht : eval (.Call (.Attribute o m apos) (e :: es) [] pos) F.X.env = (do
      let ov ← eval o F.X.env
      standAt apos.atName
      let (f, first) ← holding [ov] (getMethod ov m pl)
      callWith pos f first (backTo pos (starEach (e :: es) F.X.env)) (backToKw pos (keywordEach [] F.X.env))) := by rfl) : ER F ρ ω (.Call (.Attribute o m apos) (e :: es) [] pos) R w := fun σ G H at_ sl Q q => by
  refine ew_of (pe_cmethS pe_w r c Fn hr hb passW pa_w hst hpl ht) (ho σ G H at_ sl _ fun v G1 H1 s1 a1 r1 => ⟨r1, ha σ G1 H1 a1 (sl.up s1) _ fun vs G2 H2 s2 a2 r2 => ?_⟩)
  exact sp_ok0 (Rs := rRef C :: Rs) a2 (mkc rfl r2) hp fun v G3 H3 s3 a3 r3 => q v G3 H3 ((s1.trans s2).trans s3) a3 r3
/-- isinstance(x, C) -/
theorem cop_isIns (c : ClsX F.X.K C) : Cop F w (.builtin "isinstance") [rIns C fs, rRef C] (rBool true) := ⟨_, call_isi, fun xs G H at_ hx Q q => by
  obtain ⟨x, y, rfl, hx1, hy⟩ := all2 hx
  cases (show y = V.ref C from hy)
  obtain ⟨a, dx, vs, rfl, h1, h2⟩ := id hx1
  exact ⟨_, _, .ref C, .ref C, true, rfl, .own C, .base (.ins (at_.gh _ _ h1) c.cls c.ca c.cn c.ct c.cm), (by unfold PySem.W.kitOne; rw [if_pos (by simp)]), q _ G H (Same.refl _) at_ rfl⟩⟩
theorem cop_isNot {t : V} {tv : Value} (ht : (∃ i, t = .int i ∧ tv = .type "int") ∨ (∃ z, t = .str z ∧ tv = .type "str") ∨ (∃ k, t = .bl k ∧ tv = .type "bool") ∨ (t = .non ∧ tv = .type "NoneType")) (hk : PySem.W.kitOne F.X.K tv (.ref C) = some b) : Cop F w (.builtin "isinstance") [rEqV t, rRef C] (rBool b) := ⟨_, call_isi, fun xs G H at_ hx Q q => by
  obtain ⟨x, y, rfl, hx1, hy⟩ := all2 hx
  cases (show y = V.ref C from hy)
  cases (show x = t from hx1)
  refine ⟨_, _, tv, .ref C, b, rfl, .own C, .base ?_, hk, q _ G H (Same.refl _) at_ rfl⟩
  rcases ht with ⟨i, rfl, rfl⟩ | ⟨z, rfl, rfl⟩ | ⟨z, rfl, rfl⟩ | ⟨rfl, rfl⟩
  · exact .int i
  · exact .str z
  · exact .bl z
  · exact .non⟩
end
end W1
set_option maxRecDepth 100000
set_option maxHeartbeats 2000000
namespace W1
open PySem PySem.Spec PyProof.Rows L2

/-! ### list comprehensions -/
def wipeT (ρ : Ty) : List Nat → Ty
  | [] => ρ
  | v :: vs => (wipeT ρ vs).set v none
theorem Slots.wipe {ρ : Ty} {σ : L2.St} {G : Hp} (s : Slots ρ σ G) : ∀ vs : List Nat, Slots (wipeT ρ vs) (L2.wipe σ vs) G
  | [] => s
  | v :: vs => (Slots.wipe s vs).gone v
/-- a comprehension's target -/
def GEw (g : TG) (vs : List Nat) (ρ : Ty) (S : Rl) (ρ' : Ty) : Prop :=
  ∀ v σ G H (Q : L2.St → Hp → Prop), Same G H → Slots ρ σ G → S.r v G → (∀ σ2, L2.wipe σ2 vs = L2.wipe σ vs → Slots ρ' σ2 G → Q σ2 H) → g v (L2.wipe σ vs) H Q
theorem gew_name {i : Nat} {ρ : Ty} {S : Rl} : GEw (gName i) [i] ρ S ((ρ.set i none).set i (some S)) := fun v σ G H Q s sl r q =>
  q _ (by show ((σ.set i none).set i (some v)).set i none = σ.set i none; rw [List.set_set, List.set_set]) ((sl.gone i).set i r)
def oL (Rs : List Rl) : Ol := ⟨fun o G => ∃ vs, o = .lst vs ∧ All2 Rs vs G, fun _ _ _ e ⟨vs, a, b⟩ => ⟨vs, a, b.up e⟩⟩
/-- a block's context -/
abbrev blkF (F : Fx) (s : Shared) (H : Hp) (scope : Scope) (C : Addr) (cl : List (Str × Addr)) (fp : List Addr) : Fx :=
  ⟨F.X.blk s H scope (compEnvC scope cl C F.X.env) fp, F.G0, F.H0, F.M, fun _ _ _ _ => False, fun _ _ ⟨_, _, _, _, _, _, _, _, _, _, _, _, _, _, _, _, z⟩ => z.elim⟩
theorem At.to {F F' : Fx} {ω : Ow} {G H : Hp} (a : At F ω G H) (h1 : F'.G0 = F.G0 := by rfl) (h2 : F'.H0 = F.H0 := by rfl) (h3 : F'.M = F.M := by rfl) : At F' ω G H := by
  obtain ⟨X, G0, H0, M, W, tk⟩ := F
  obtain ⟨X', G0', H0', M', W', tk'⟩ := F'
  dsimp only at h1 h2 h3
  subst h1 h2 h3
  exact ⟨a.gg, a.hh, a.gh, a.fr, a.mm, a.ow, a.nd⟩
section
variable {F : Fx} {ρ : Ty} {ω w1 : Ow} {tg it elt c : Expr} {pos spos : Pos} {scope : Scope} {own : List (Str × Nat)} {g : TG} {ifs : List Expr} {α : Type}
theorem lc_gen {xs : List α} {A B : α → Rl} {p : α → Bool} {wi : TI} {tt : TT} {ρ' : α → Ty}
    (hwi : ∀ σ G H, At F ω G H → Slots ρ σ G → ∀ R : It → Hp → Prop, (∀ J G2 H2, Same G G2 → At F w1 G2 H2 → Yld J (xs.map A) G2 → R J H2) → wi σ H R) (hz : xs.length ≤ 100000)
    (hge : ∀ (i : Nat) a, xs[i]? = some a → GEw g (own.map (·.2)) ρ (A a) (ρ' a))
    (htt : ∀ (i : Nat) a, xs[i]? = some a → ∀ d σ2 G H, At F (d :: w1) G H → Slots (ρ' a) σ2 G → ∀ Q : Bool → Hp → Prop, (∀ G3 H3, Same G G3 → At F (d :: w1) G3 H3 → Q (p a) H3) → tt σ2 H Q)
    (he : ∀ (i : Nat) a, xs[i]? = some a → p a = true → ∀ s H0 C cl fp d, ER (blkF F s H0 scope C cl fp) (ρ' a) (d :: w1) elt (B a) (d :: w1))
    {σ : L2.St} {G H : Hp} (at_ : At F ω G H) (sl : Slots ρ σ G) {Q : VK} (q : ∀ v G2 H2, Same G G2 → At F w1 G2 H2 → (rLst ((xs.filter p).map B)).r v G2 → Q v H2) :
    tLc wi g tt (fun σ H Q => ∀ s H0 C cl fp, EW (F.X.blk s H0 scope (compEnvC scope cl C F.X.env) fp) elt σ H Q) (own.map (·.2)) σ H Q := by
  refine hwi σ G H at_ sl _ fun J G2 H2 s2 a2 y2 => fun D hD => ?_
  have hM : D ∉ F.M := fun hm => a2.mm D hm hD
  refine ⟨fun i m H => m = xs.length - i ∧ i ≤ xs.length ∧ ∃ G, At F ((D, oL (((xs.take i).filter p).map B)) :: w1) G H ∧ Same G2 G, ⟨xs.length, by simp, Nat.zero_le _, G2, a2.own hD ⟨[], rfl, trivial⟩, Same.refl _⟩, ?_⟩
  rintro i m H1 ⟨rfl, hi, G1, a1, s1⟩
  have hlen : (xs.map A).length = xs.length := List.length_map _
  by_cases hlt : i < xs.length
  · have hgo : xs[i]? = some xs[i] := List.getElem?_eq_getElem hlt
    have htake : xs.take (i + 1) = xs.take i ++ [xs[i]] := by rw [List.take_add_one, hgo]; rfl
    refine .inr ⟨y2.go i G1 H1 s1 a1.gh (by rw [hlen]; exact hlt), fun H' => ∃ G, At F ((D, oL (((xs.take (i + 1)).filter p).map B)) :: w1) G H' ∧ Same G2 G, fun H' z => ⟨xs.length - (i + 1), by omega, rfl, hlt, z⟩, fun x H' y => ?_⟩
    obtain ⟨G3, st, rx⟩ := y2.yld i (A xs[i]) G1 H1 x H' s1 a1.gh (by rw [List.getElem?_map, hgo]; rfl) y
    have a3 := a1.step st
    have s3 := s1.trans st.gg
    refine hge i _ hgo x σ G3 H' _ a3.gh ((sl.up s2).up s3) rx fun σ2 hw sl2 => ⟨hw, htt i _ hgo _ σ2 G3 H' a3 sl2 _ fun G4 H4 s4 a4 => ?_⟩
    cases hp : p xs[i] with
    | false =>
      refine iteF ⟨G4, ?_, s3.trans s4⟩
      rw [htake, List.filter_append, List.filter_cons, hp]
      simp only [Bool.false_eq_true, if_false, List.filter_nil, List.append_nil]
      exact a4
    | true =>
      refine iteT fun s H0 C cl fp => he i _ hgo hp s H0 C cl fp _ σ2 G4 H4 a4.to (sl2.up s4) _ fun v G5 H5 s5 a5' r5 => ?_
      have a5 : At F ((D, oL (((xs.take i).filter p).map B)) :: w1) G5 H5 := a5'.to
      obtain ⟨_, _, o, h1, vs, rfl, h2⟩ := a5.ow _ List.mem_cons_self
      have hl2 : vs.length ≤ xs.length := by
        rw [← h2.len, List.length_map]
        exact Nat.le_trans (List.length_filter_le _ _) (List.length_take_le _ _ |> fun z => Nat.le_trans z hi)
      refine ⟨vs, h1, Nat.lt_of_le_of_lt (Nat.le_trans hl2 hz) (by decide), G5, ?_, (s3.trans s4).trans s5⟩
      rw [htake, List.filter_append, List.filter_cons, hp]
      simp only [if_true, List.filter_nil, List.map_append, List.map_cons, List.map_nil]
      exact a5.chg ⟨_, rfl, h2.app (mk1 r5)⟩
  · have e : i = xs.length := by omega
    subst e
    refine .inl ⟨by have := y2.stop G1 H1 s1 a1.gh; rw [hlen] at this; exact this, ?_⟩
    rw [List.take_length] at a1
    obtain ⟨hg0, _, o, h1, vs, rfl, h2⟩ := a1.ow _ List.mem_cons_self
    have a5 := a1.pub h1 (At.own0 a1 hM)
    have sg : Same G1 (upd G1 D (.lst vs)) := fun b u e => by rw [upd_ne (ne_of_none e hg0)]; exact e
    exact q _ _ _ ((s2.trans s1).trans sg) a5 ⟨D, vs, rfl, upd_same, h2.up sg⟩
theorem filt_true {xs : List α} : xs.filter (fun _ => true) = xs := by
  induction xs with
  | nil => rfl
  | cons a l ih => rw [List.filter_cons, if_pos rfl, ih]
/-- [elt for tg in it] -/
theorem er_lc {xs : List α} {A B : α → Rl} {ρ' : α → Ty} (hit : IT F ρ ω tg it (xs.map A) w1) (hz : xs.length ≤ 100000) (own : List (Str × Nat)) (ok : BlkOk F.X.N F.X.env.scope scope own)
    (hpg : ∀ (s : Shared) (H : Hp) (C : Addr) (cl : List (Str × Addr)) (fp : List Addr), PG (F.X.blk s H scope (compEnvC scope cl C F.X.env) fp) tg g) (hge : ∀ (i : Nat) a, xs[i]? = some a → GEw g (own.map (·.2)) ρ (A a) (ρ' a))
    (he : ∀ (i : Nat) a, xs[i]? = some a → ∀ s H0 C cl fp d, ER (blkF F s H0 scope C cl fp) (ρ' a) (d :: w1) elt (B a) (d :: w1))
    (hN : F.X.N.Nodup) (hc : F.X.calm = true := by rfl) (hs : ∀ z, foldedSetIterable it F.X.env z = pure z := by intro _; rfl) : ER F ρ ω (.ListComp elt [⟨tg, it, [], 0⟩] scope pos) (rLst (xs.map B)) w1 := fun σ G H at_ sl Q q => by
  obtain ⟨wi, hpi, hwi⟩ := hit
  refine ew_of (pe_lc hc hN hpi ok hpg (fun _ _ _ _ _ => pts_nil) (te := fun σ H Q => ∀ s H0 C cl fp, EW (F.X.blk s H0 scope (compEnvC scope cl C F.X.env) fp) elt σ H Q) (fun _ _ _ _ _ => ⟨fun pins s σ H Q I h => h _ _ _ _ _ pins s I⟩) hs) ?_
  refine lc_gen (p := fun _ => true) (tt := tYes) hwi hz hge (fun i a h d σ2 G H a1 s1 Q q => q G H (Same.refl _) a1) (fun i a h _ => he i a h) at_ sl fun v G2 H2 s2 a2 r2 => q v G2 H2 s2 a2 ?_
  rw [filt_true] at r2
  exact r2
/-- [elt for tg in it if c] -/
theorem er_lcf {xs : List α} {A B : α → Rl} {p : α → Bool} {ρ' : α → Ty} (hit : IT F ρ ω tg it (xs.map A) w1) (hz : xs.length ≤ 100000) (own : List (Str × Nat)) (ok : BlkOk F.X.N F.X.env.scope scope own)
    (hpg : ∀ (s : Shared) (H : Hp) (C : Addr) (cl : List (Str × Addr)) (fp : List Addr), PG (F.X.blk s H scope (compEnvC scope cl C F.X.env) fp) tg g) (hge : ∀ (i : Nat) a, xs[i]? = some a → GEw g (own.map (·.2)) ρ (A a) (ρ' a))
    (ht : ∀ (i : Nat) a, xs[i]? = some a → ∀ s H0 C cl fp d, TR (blkF F s H0 scope C cl fp) (ρ' a) (d :: w1) c (p a) (d :: w1))
    (he : ∀ (i : Nat) a, xs[i]? = some a → p a = true → ∀ s H0 C cl fp d, ER (blkF F s H0 scope C cl fp) (ρ' a) (d :: w1) elt (B a) (d :: w1))
    (hN : F.X.N.Nodup) (hc : F.X.calm = true := by rfl) (hs : ∀ z, foldedSetIterable it F.X.env z = pure z := by intro _; rfl) : ER F ρ ω (.ListComp elt [⟨tg, it, [c], 0⟩] scope pos) (rLst ((xs.filter p).map B)) w1 := fun σ G H at_ sl Q q => by
  obtain ⟨wi, hpi, hwi⟩ := hit
  refine ew_of (pe_lc hc hN hpi ok hpg (fun _ _ _ _ _ => pts_one (t := fun σ H Q => ∀ s H0 C cl fp, TW (F.X.blk s H0 scope (compEnvC scope cl C F.X.env) fp) c σ H Q) ⟨fun pins s σ H Q I h => h _ _ _ _ _ pins s I⟩) (te := fun σ H Q => ∀ s H0 C cl fp, EW (F.X.blk s H0 scope (compEnvC scope cl C F.X.env) fp) elt σ H Q) (fun _ _ _ _ _ => ⟨fun pins s σ H Q I h => h _ _ _ _ _ pins s I⟩) hs) ?_
  exact lc_gen hwi hz hge (fun i a h d σ2 G H a1 s1 Q q => fun s H0 C cl fp => ht i a h s H0 C cl fp d σ2 G H a1.to s1 Q fun G3 H3 s3 a3 => q G3 H3 s3 a3.to) (fun i a h hp => he i a h hp) at_ sl q
/-- y = [..] -/
theorem hb_setLc {K : Kn} {rest : List Stmt} {y : Str} {py : Pos} {xs : List α} {A B : α → Rl} {ρ' : α → Ty} (j : Nat) (hit : IT F ρ ω tg it (xs.map A) w1) (hz : xs.length ≤ 100000) (own : List (Str × Nat)) (ok : BlkOk F.X.N F.X.env.scope scope own)
    (hpg : ∀ (s : Shared) (H : Hp) (C : Addr) (cl : List (Str × Addr)) (fp : List Addr), PG (F.X.blk s H scope (compEnvC scope cl C F.X.env) fp) tg g) (hge : ∀ (i : Nat) a, xs[i]? = some a → GEw g (own.map (·.2)) ρ (A a) (ρ' a))
    (he : ∀ (i : Nat) a, xs[i]? = some a → ∀ s H0 C cl fp d, ER (blkF F s H0 scope C cl fp) (ρ' a) (d :: w1) elt (B a) (d :: w1)) (h : HB F (ρ.set j (some (rLst (xs.map B)))) w1 rest K)
    (hN : F.X.N.Nodup) (hsw : swapsWith (.ListComp elt [⟨tg, it, [], 0⟩] scope pos) (some (.Name y py)) spos.line F.X.env = pure true) (hc : F.X.calm = true := by rfl) (hy : F.X.N[j]? = some y := by rfl) (hyl : F.X.env.scope.names.lookup y = some .local := by rfl) (hs : ∀ z, foldedSetIterable it F.X.env z = pure z := by intro _; rfl) :
    HB F ρ ω (.Assign [.Name y py] (.ListComp elt [⟨tg, it, [], 0⟩] scope pos) spos :: rest) K := hb_cons fun σ G H D at_ sl ps => by
  obtain ⟨wi, hpi, hwi⟩ := hit
  refine sw_of (ps_setLc hc hN hy hyl hsw hpi ok hpg (fun _ _ _ _ _ => pts_nil) (te := fun σ H Q => ∀ s H0 C cl fp, EW (F.X.blk s H0 scope (compEnvC scope cl C F.X.env) fp) elt σ H Q) (fun _ _ _ _ _ => ⟨fun pins s σ H Q I h => h _ _ _ _ _ pins s I⟩) hs) ?_
  refine lc_gen (p := fun _ => true) (tt := tYes) hwi hz hge (fun i a h d σ2 G H a1 s1 Q q => q G H (Same.refl _) a1) (fun i a h _ => he i a h) at_ sl fun v G2 H2 s2 a2 r2 => ?_
  rw [filt_true] at r2
  exact h _ G2 H2 D a2 ((sl.up s2).set j r2) (ps.up s2)
end
end W1
set_option maxRecDepth 100000
set_option maxHeartbeats 2000000
namespace W1Q
open PySem PySem.SeqAt
open AutoSeq1 (wpAny_loadPart')
open MeetsSeq MeetsSeq2 MeetsSeq3 SeqRoads2

/-- all of k answers from the i-th on -/
def allFrom (e : Nat → Bool) : Nat → Nat → Bool
  | _, 0 => true
  | i, k + 1 => e i && allFrom e (i + 1) k
abbrev lstO (items : Array Value) (n : Nat) : Obj := { cls := .type "list", data := .seq items n }
theorem past {xs : Array Value} {i : Nat} (h : xs.size ≤ i) : xs[((i : Nat) : Int).toNat]? = none := Array.getElem?_eq_none h
theorem here {xs : Array Value} {i : Nat} (h : i < xs.size) : xs[((i : Nat) : Int).toNat]? = some xs[i] := Array.getElem?_eq_getElem h
section
variable {prog : Program} {w : World} {A : Around} {R : Result → Shared → Prop} {l b : Addr} {e : Nat → Bool} {I : Nat → Shared → Prop}
/-- two lists at l and b of N items each; whatever a comparison changes keeps I -/
def Two (prog : Program) (w : World) (A : Around) (E : Value → Shared → Prop) (l b : Addr) (N : Nat) (e : Nat → Bool) (I : Nat → Shared → Prop) : Prop :=
  ∀ i s, I i s → ∃ (xs ys : Array Value) (m n : Nat), s.heap.get? l = some (lstO xs m) ∧ s.heap.get? b = some (lstO ys n) ∧ xs.size = N ∧ ys.size = N ∧
    ∀ (h1 : i < xs.size) (h2 : i < ys.size), wpAny (model prog w) A (eqBool xs[i] ys[i]) (fun r s' => r = e i ∧ I (i + 1) s') E s
/-- the two comparisons, by one bit: false is ==, true is != -/
def bit (neg : Bool) : Int := if neg then 3 else 2
/-- the comparison's loop, both kinds at once; k items are left -/
theorem cmp_go (neg : Bool) {N : Nat} (T : Two prog w A.in1 (fun v s' => R (.error v) s') l b N e I) : ∀ (k i : Nat), i + k = N → ∀ s, I i s → (∀ j s', I j s' → R (.ok (.ret (.bool (neg != allFrom e i k)))) s') →
    wpAny (model prog w) A.in1 (Builtin.«list.__eq__.loop» ⟨[.ref l, .ref b, rawInt i, rawInt (bit neg)], []⟩) (GQ.FinOf prog w A R) (fun v s' => R (.error v) s') s
  | 0, i, hk, s, h, fin => by
    obtain ⟨xs, ys, m, n, gx, gy, zx, zy, -⟩ := T i s h
    have last := fin i s h
    cases s
    cases neg
    all_goals
      wp_walk using wpAny_loadPart' gx, wpAny_loadPart' gy
      rw [past (by omega : xs.size ≤ i), past (by omega : ys.size ≤ i)]
      wp_walk using wpAny_loadPart' gx, wpAny_loadPart' gy
    · show R (.ok (.ret (.bool (xs.size == ys.size)))) _
      rw [zx, zy, beq_self_eq_true]
      exact last
    · show R (.ok (.ret (.bool (xs.size != ys.size)))) _
      rw [zx, zy, bne_self_eq_false]
      exact last
  | k + 1, i, hk, s, h, fin => by
    obtain ⟨xs, ys, m, n, gx, gy, zx, zy, ask⟩ := T i s h
    have ix : i < xs.size := by omega
    have iy : i < ys.size := by omega
    have asked := ask ix iy
    have goes : e i = true → ∀ s2, I (i + 1) s2 → wpAny (model prog w) A.in1 (Builtin.«list.__eq__.loop» ⟨[.ref l, .ref b, rawInt ((i + 1 : Nat) : Int), rawInt (bit neg)], []⟩) (GQ.FinOf prog w A R) (fun v s' => R (.error v) s') s2 := fun he s2 h2 =>
      cmp_go neg T k (i + 1) (by omega) s2 h2 fun j s' z => by
        have := fin j s' z
        rw [allFrom, he, Bool.true_and] at this
        exact this
    have ends : e i = false → ∀ s2, I (i + 1) s2 → R (.ok (.ret (.bool neg))) s2 := fun he s2 h2 => by
      have := fin _ s2 h2
      rw [allFrom, he, Bool.false_and, Bool.bne_false] at this
      exact this
    have read2 : ∀ s2, I (i + 1) s2 → ∃ (us vs : Array Value) (m' n' : Nat), s2.heap.get? l = some (lstO us m') ∧ s2.heap.get? b = some (lstO vs n') ∧ i < us.size ∧ i < vs.size := fun s2 h2 => by
      obtain ⟨us, vs, m', n', g1, g2, z1, z2, -⟩ := T _ s2 h2
      exact ⟨us, vs, m', n', g1, g2, by omega, by omega⟩
    clear ask fin h
    cases s
    cases neg
    all_goals
      wp_walk using wpAny_loadPart' gx, wpAny_loadPart' gy
      rw [here ix, here iy]
      refine wpAny_bind (wpAny_mono asked (fun r s2 got => ?_) fun _ _ x => x)
      obtain ⟨rfl, h2⟩ := got
      obtain ⟨us, vs, m', n', g1, g2, j1, j2⟩ := read2 s2 h2
      cases he : e i
    all_goals first
      | (have fine := ends he s2 h2
         cases s2
         wp_walk using wpAny_loadPart' g1, wpAny_loadPart' g2
         rw [here j1, here j2]
         wp_walk
         exact fine)
      | (have next := goes he s2 h2
         cases s2
         wp_walk
         refine ⟨plainId_quiet plain_eq_loop _, codeAny_builtin entry_eq_loop ?_⟩
         rw [Around.under_plainId plain_eq_loop _]
         exact next)
end
section
variable {prog : Program} {w : World} {A : Around} {E : Value → Shared → Prop} {s : Shared} {l b : Addr} {e : Nat → Bool} {I : Nat → Shared → Prop} {Q : Value → Shared → Prop}
/-- what the loop says, as the whole comparison's word -/
theorem cmp_whole (neg : Bool) {N : Nat} (T : Two prog w A.in1 E l b N e I) (h : I 0 s) (fin : ∀ j s', I j s' → Q (.bool (neg != allFrom e 0 N)) s') :
    wpAny (model prog w) A.in1 (Builtin.«list.__eq__.loop» ⟨[.ref l, .ref b, rawInt (0 : Nat), rawInt (bit neg)], []⟩) (GQ.FinOf prog w A (wants (fun v s' => v ≠ .notImplemented ∧ Q v s') E)) (fun v s' => wants (fun v s' => v ≠ .notImplemented ∧ Q v s') E (.error v) s') s :=
  cmp_go neg T N 0 (Nat.zero_add N) s h fun j s' z => ⟨Value.noConfusion, fin j s' z⟩
/-- the call up to the loop, both kinds -/
theorem cmp_call (neg : Bool) {xs ys : Array Value} {m n : Nat} (gx : s.heap.get? l = some (lstO xs m)) (gy : s.heap.get? b = some (lstO ys n)) (sz : xs.size = ys.size)
    (h : wpAny (model prog w) A.in1 (Builtin.«list.__eq__.loop» ⟨[.ref l, .ref b, rawInt (0 : Nat), rawInt (bit neg)], []⟩) (GQ.FinOf prog w A (wants (fun v s' => v ≠ .notImplemented ∧ Q v s') E)) (fun v s' => wants (fun v s' => v ≠ .notImplemented ∧ Q v s') E (.error v) s') s) (hu : A.units < cLine) :
    wpAny (model prog w) A (richCompare (if neg then .NotEq else .Eq) (.ref l) (.ref b)) Q E s := by
  have same : ¬ (xs.size != ys.size) = true := by rw [sz, bne_self_eq_false]; exact Bool.false_ne_true
  have sub := AutoSeq1.sub_list_list
  cases neg
  · refine wpAny_richCompare_same_room ⟨_, gx, rfl⟩ ⟨_, gy, rfl⟩ F.slot_list_eq (GQ.call_here F.slot_list_eq ⟨_, gx, rfl⟩ F.entry_list_eq (F.args_list_eq_2 _ _) ?_) hu
    cases s
    wp_walk using wpAny_loadPart' gx, wpAny_loadPart' gy
    refine ⟨plainId_quiet plain_eq_loop _, codeAny_builtin entry_eq_loop ?_⟩
    rw [Around.under_plainId plain_eq_loop _]
    exact h
  · refine wpAny_richCompare_same_room ⟨_, gx, rfl⟩ ⟨_, gy, rfl⟩ F.slot_list_ne (GQ.call_here F.slot_list_ne ⟨_, gx, rfl⟩ F.entry_list_ne (F.args_list_ne_2 _ _) ?_) hu
    cases s
    wp_walk using wpAny_loadPart' gx, wpAny_loadPart' gy
    refine ⟨plainId_quiet plain_eq_loop _, codeAny_builtin entry_eq_loop ?_⟩
    rw [Around.under_plainId plain_eq_loop _]
    exact h
/-- lists of unlike lengths -/
theorem cmp_unlike (neg : Bool) {xs ys : Array Value} {m n : Nat} (gx : s.heap.get? l = some (lstO xs m)) (gy : s.heap.get? b = some (lstO ys n)) (sz : xs.size ≠ ys.size) (q : Q (.bool neg) s) (hu : A.units < cLine) :
    wpAny (model prog w) A (richCompare (if neg then .NotEq else .Eq) (.ref l) (.ref b)) Q E s := by
  have differ : (xs.size != ys.size) = true := bne_iff_ne.mpr sz
  have sub := AutoSeq1.sub_list_list
  cases neg
  · refine wpAny_richCompare_same_room ⟨_, gx, rfl⟩ ⟨_, gy, rfl⟩ F.slot_list_eq (GQ.call_here F.slot_list_eq ⟨_, gx, rfl⟩ F.entry_list_eq (F.args_list_eq_2 _ _) ?_) hu
    cases s
    wp_walk using wpAny_loadPart' gx, wpAny_loadPart' gy
    exact ⟨Value.noConfusion, q⟩
  · refine wpAny_richCompare_same_room ⟨_, gx, rfl⟩ ⟨_, gy, rfl⟩ F.slot_list_ne (GQ.call_here F.slot_list_ne ⟨_, gx, rfl⟩ F.entry_list_ne (F.args_list_ne_2 _ _) ?_) hu
    cases s
    wp_walk using wpAny_loadPart' gx, wpAny_loadPart' gy
    exact ⟨Value.noConfusion, q⟩
theorem rc_any (neg : Bool) (hu : A.units < cLine) {N : Nat} (T : Two prog w A.in1 E l b N e I) (h : I 0 s) (fin : ∀ j s', I j s' → Q (.bool (neg != allFrom e 0 N)) s') : wpAny (model prog w) A (richCompare (if neg then .NotEq else .Eq) (.ref l) (.ref b)) Q E s := by
  obtain ⟨xs, ys, m, n, gx, gy, zx, zy, -⟩ := T 0 s h
  exact cmp_call neg gx gy (zx.trans zy.symm) (cmp_whole neg T h fin) hu
theorem rc_list (hu : A.units < cLine) {N : Nat} (T : Two prog w A.in1 E l b N e I) (h : I 0 s) (fin : ∀ j s', I j s' → Q (.bool (allFrom e 0 N)) s') : wpAny (model prog w) A (richCompare .Eq (.ref l) (.ref b)) Q E s :=
  rc_any false hu T h fun j s' z => by rw [Bool.false_bne]; exact fin j s' z
theorem rc_listL (hu : A.units < cLine) {xs ys : Array Value} {m n : Nat} (gx : s.heap.get? l = some (lstO xs m)) (gy : s.heap.get? b = some (lstO ys n)) (sz : xs.size ≠ ys.size) (q : Q (.bool false) s) : wpAny (model prog w) A (richCompare .Eq (.ref l) (.ref b)) Q E s := cmp_unlike false gx gy sz q hu
end
end W1Q
set_option maxRecDepth 100000
set_option maxHeartbeats 2000000
namespace W1
open PySem PySem.Spec PyProof.Rows L2

/-! ### == inside built-ins -/
structure Below (X : Cx) (n : Nat) (A : Around) : Prop where
  room : Room n A
  fr : A.frames = X.A.frames
theorem Below.in1 {X : Cx} {n : Nat} {A : Around} (s : Below X (n + 1) A) : Below X n A.in1 := ⟨s.room.in1, s.fr⟩
theorem Below.mono {X : Cx} {n m : Nat} {A : Around} (s : Below X n A) (h : m ≤ n) : Below X m A := ⟨s.room.mono h, s.fr⟩
theorem Below.env {X : Cx} {n : Nat} {A : Around} {pins : List (Addr × Obj)} {σ : L2.St} {H : Hp} {s : Shared} (b : Below X n A) (I : Inv X pins σ H s) : Env0 X.prog X.w X.K X.mg X.base A X.stack s H := by
  have e := I.env0
  exact ⟨by rw [b.fr]; exact e.frames, e.mod, e.bs, e.bsz, e.funs, e.frf, e.hok, e.bare⟩
def EqB (X : Cx) (n : Nat) (A B : Rl) (b : Bool) : Prop :=
  ∀ (A' : Around) (pins : List (Addr × Obj)) (s : Shared) (σ : L2.St) (G H : Hp) (x y : V) (u v : Value) (E : Value → Shared → Prop), Below X n A' → Inv X pins σ H s → RelV x u → RelV y v → Same G H → A.r x G → B.r y G →
    wpAny (model X.prog X.w) A' (eqBool u v) (fun r s' => r = b ∧ ∃ G' H', Inv X pins σ H' s' ∧ Step G H G' H') E s
section
variable {X : Cx} {n k : Nat} {A B R : Rl} {b : Bool} {C g : Addr} {fd : FuncData} {ps : List Str} {pre : Pre} {fs gs : List (Str × Rl)}
theorem EqB.mono {m : Nat} (h : EqB X n A B b) (hn : n ≤ m) : EqB X m A B b := fun A' pins s σ G H x y u v E bl => h A' pins s σ G H x y u v E (bl.mono hn)
theorem getOf {Rs : List Rl} {vs : List V} {its : List Value} {H : Hp} (h : All2 Rs vs H) (r : Vals vs its) {i : Nat} (h1 : i < its.toArray.size) : ∃ R v, Rs[i]? = some R ∧ R.r v H ∧ RelV v its.toArray[i] := by
  have hi : i < its.length := by simpa using h1
  have hv : i < vs.length := by rw [r.length]; exact hi
  have hr : i < Rs.length := by rw [h.len]; exact hv
  obtain ⟨v, e1, e2⟩ := h.get (List.getElem?_eq_getElem hr)
  obtain ⟨u, e3, e4⟩ := r.get e1
  rw [List.getElem?_eq_getElem hi] at e3
  cases e3
  exact ⟨_, v, List.getElem?_eq_getElem hr, e2, by simpa using e4⟩
/-- lists: what stays through the turns -/
def LoopW (X : Cx) (pins : List (Addr × Obj)) (σ : L2.St) (G H : Hp) (s' : Shared) : Prop := ∃ G' H', Inv X pins σ H' s' ∧ Step G H G' H'
theorem lst_obj {pins : List (Addr × Obj)} {σ : L2.St} {H : Hp} {s : Shared} {p : Addr} {vs : List V} (I : Inv X pins σ H s) (h : H p = some (.lst vs)) : ∃ its nn, Vals vs its ∧ s.heap.get? p = some (W1Q.lstO its.toArray nn) := by
  obtain ⟨z, its, nn, r, e⟩ := (show ObjOk X.prog X.w H s.heap p (.lst vs) from I.hok p _ h)
  exact ⟨its, nn, r, e⟩
theorem two_of {Rs Ss : List Rl} {e : Nat → Bool} {A' : Around} {E : Value → Shared → Prop} {pins : List (Addr × Obj)} {σ : L2.St} {G H : Hp} {p q : Addr} {vs ws : List V}
    (he : ∀ (i : Nat) R S, Rs[i]? = some R → Ss[i]? = some S → EqB X n R S (e i)) (bl : Below X n A') (hp : H p = some (.lst vs)) (hq : H q = some (.lst ws)) (h1 : All2 Rs vs G) (h2 : All2 Ss ws G) (hsz : Rs.length = Ss.length) :
    W1Q.Two X.prog X.w A' E p q Rs.length e (fun _ s' => LoopW X pins σ G H s') := fun i s' ⟨G1, H1, I1, st1⟩ => by
  obtain ⟨its, nn, r1, o1⟩ := lst_obj I1 (st1.hh _ _ hp)
  obtain ⟨its2, nn2, r2, o2⟩ := lst_obj I1 (st1.hh _ _ hq)
  have l1 := h1.len
  have l2 := h2.len
  have l3 := r1.length
  have l4 := r2.length
  refine ⟨_, _, _, _, o1, o2, by simp only [List.size_toArray]; omega, by simp only [List.size_toArray]; omega, fun hi1 hi2 => ?_⟩
  obtain ⟨R, v, hR, rv, ru⟩ := getOf (h1.up st1.gg) r1 hi1
  obtain ⟨S, w, hS, rw', rx⟩ := getOf (h2.up st1.gg) r2 hi2
  refine wpAny_mono (he i R S hR hS A' pins s' σ G1 H1 v w _ _ E bl I1 ru rx st1.gh rv rw') (fun r s2 z => ?_) fun _ _ x => x
  obtain ⟨hr, G2, H2, I2, st2⟩ := z
  exact ⟨hr, G2, H2, I2, st1.trans st2⟩
/-- == of two lists -/
theorem rcl {Rs Ss : List Rl} {e : Nat → Bool} {A' : Around} {E : Value → Shared → Prop} {pins : List (Addr × Obj)} {s : Shared} {σ : L2.St} {G H : Hp} {p q : Addr} {vs ws : List V} {Q : Value → Shared → Prop}
    (he : ∀ (i : Nat) R S, Rs[i]? = some R → Ss[i]? = some S → EqB X n R S (e i)) (bl : Below X (n + 1) A') (I : Inv X pins σ H s) (sg : Same G H) (hp : G p = some (.lst vs)) (hq : G q = some (.lst ws)) (h1 : All2 Rs vs G) (h2 : All2 Ss ws G)
    (hQ : ∀ s', LoopW X pins σ G H s' → Q (.bool (decide (Rs.length = Ss.length) && W1Q.allFrom e 0 Rs.length)) s') : wpAny (model X.prog X.w) A' (richCompare .Eq (.ref p) (.ref q)) Q E s := by
  have st0 : LoopW X pins σ G H s := ⟨G, H, I, Step.refl sg⟩
  by_cases hsz : Rs.length = Ss.length
  · rw [decide_eq_true hsz, Bool.true_and] at hQ
    exact W1Q.rc_list bl.room.units0 (two_of (pins := pins) (σ := σ) he bl.in1 (sg _ _ hp) (sg _ _ hq) h1 h2 hsz) st0 fun j s' z => hQ s' z
  · rw [decide_eq_false hsz, Bool.false_and] at hQ
    obtain ⟨its, nn, r1, o1⟩ := lst_obj I (sg _ _ hp)
    obtain ⟨its2, nn2, r2, o2⟩ := lst_obj I (sg _ _ hq)
    have l1 := h1.len
    have l2 := h2.len
    have l3 := r1.length
    have l4 := r2.length
    exact W1Q.rc_listL bl.room.units0 o1 o2 (by simp only [List.size_toArray]; omega) (hQ s st0)
end
/-! ### as operators -/
section
variable {F : Fx} {ω w : Ow} {A B R : Rl} {n : Nat}
/-- a rule by what it does -/
theorem bop_sem {f : Value → Value → Sem Value} (h : ∀ pins s σ G H x y u v Q, Inv F.X pins σ H s → RelV x u → RelV y v → Same G H → A.r x G → B.r y G → (∀ z G' H', Step G H G' H' → R.r z G' → Q z H') → wpAny (model F.X.prog F.X.w) F.X.A (f u v) (EP F.X pins σ Q) F.X.xe s) : Bop F w f A B R :=
  ⟨fun x y H Q => ∃ G, Same G H ∧ A.r x G ∧ B.r y G ∧ ∀ z G' H', Step G H G' H' → R.r z G' → Q z H', fun pins s σ H x y v u Q I rx ry ⟨G, sg, ax, ay, q⟩ => h pins s σ G H x y v u Q I rx ry sg ax ay q,
    fun x y G H at_ ax ay Q q => ⟨G, at_.gh, ax, ay, fun z G' H' st rz => q z G' H' st.gg (at_.step st) rz⟩⟩
theorem bop_eqL {Rs Ss : List Rl} {e : Nat → Bool} (he : ∀ (i : Nat) R S, Rs[i]? = some R → Ss[i]? = some S → EqB F.X n R S (e i)) (hr : Room (n + 1) F.X.A) : Bop F w (compareOp .Eq) (rLst Rs) (rLst Ss) (rBool (decide (Rs.length = Ss.length) && W1Q.allFrom e 0 Rs.length)) :=
  bop_sem fun pins s σ G H x y u v Q I rx ry sg ax ay q => by
    obtain ⟨p, vs, rfl, h1, h2⟩ := id ax
    obtain ⟨p2, ws, rfl, h3, h4⟩ := id ay
    cases (show u = Value.ref p from rx)
    cases (show v = Value.ref p2 from ry)
    show wpAny _ _ (richCompare .Eq (.ref p) (.ref p2)) _ _ _
    exact rcl he ⟨hr, rfl⟩ I sg h1 h3 h2 h4 fun s' ⟨G', H', I', st⟩ => ⟨V.bl _, H', I', rfl, q _ G' H' st rfl⟩
end
end W1
set_option maxRecDepth 100000
set_option maxHeartbeats 2000000
namespace W1
open PySem PySem.Spec PyProof.Rows L2

/-! ### new things that are owned -/
def EN (F : Fx) (ρ : Ty) (ω : Ow) (e : Expr) (O : Ol) (ω' : Ow) : Prop :=
  ∀ σ G H, At F ω G H → Slots ρ σ G → ∀ Q : VK, (∀ q G2 H2, q ∉ F.M → Same G G2 → At F ((q, O) :: ω') G2 H2 → Q (.ref q) H2) → EW F.X e σ H Q
abbrev PreN := List Rl → Ow → Ol → Ow → Prop
/-- a promise of a new thing -/
def spN (pre : PreN) : Sp := fun vs H Q E => ∃ Rs ω O ω' G, pre Rs ω O ω' ∧ Same G H ∧ All2 Rs vs G ∧ Has ω G H ∧ (keys ω).Nodup ∧ keys ω' = keys ω ∧
  ∀ q G' H', H q = none → StepM (keys ω) G H G' H' → Has ((q, O) :: ω') G' H' → Q (.ref q) H'
def KfN (O : Ol) (ω' : Ow) : Kn where
  rt := fun S w => ∃ q w0, (∀ v G, S.r v G → v = .ref q) ∧ q ∉ keys ω' ∧ w = (q, O) :: (ω' ++ w0)
theorem Has.up {ω : Ow} {G H : Hp} {a : Addr} {O : Ol} (h : Has ((a, O) :: ω) G H) : Has ω G H := fun p hp => h p (List.mem_cons_of_mem _ hp)
theorem Has.some {ω : Ow} {G H : Hp} (h : Has ω G H) {b : Addr} (hb : b ∈ keys ω) : H b ≠ none := by
  obtain ⟨p, hp, e⟩ := List.mem_map.mp hb
  obtain ⟨_, o, z, _⟩ := h p hp
  rw [← e, z]
  simp
theorem At.newcall {F : Fx} {wc wc' w : Ow} {O : Ol} {q : Addr} {G H G' H' : Hp} (a : At F (wc ++ w) G H) (s : StepM (keys wc) G H G' H') (hq : H q = none) (h : Has ((q, O) :: wc') G' H') (hk : keys wc' = keys wc) : q ∉ F.M ∧ At F ((q, O) :: (wc' ++ w)) G' H' := by
  have a' := a.stepM s h.up hk
  have hM : q ∉ F.M := fun hm => a.mm q hm hq
  have h0 : F.H0 q = none := by
    cases e : F.H0 q with
    | none => rfl
    | some u => rw [a.hh q u hM e] at hq; cases hq
  refine ⟨hM, a'.gg, a'.hh, a'.gh, a'.fr, a'.mm, fun p hp => ?_, List.nodup_cons.mpr ⟨fun hm => ?_, a'.nd⟩⟩
  · rcases List.mem_cons.mp hp with rfl | hp
    · obtain ⟨x, z⟩ := h _ List.mem_cons_self
      exact ⟨x, .inl h0, z⟩
    · exact a'.ow p hp
  · have hm' : q ∈ keys (wc ++ w) := by
      have e : keys (wc' ++ w) = keys (wc ++ w) := by unfold keys at hk ⊢; rw [List.map_append, List.map_append, hk]
      rw [← e]
      exact hm
    exact a.has.some hm' hq
theorem fn_okN {P : Program} {w : World} {K : PySem.W.Frag} {mg : Str → Option Value} {base : Heap} {x qual : Str} {st : Stmt} {f : Addr} {fd : FuncData} {N ps : List Str} {k : Nat} {pre : PreN} (Fn : Fun K x qual st f fd) (S : FnScope N ps (defScope st))
    (hl : ∀ Rs ω o ω', pre Rs ω o ω' → Rs.length = ps.length)
    (hb : ∀ (cdv : Value) (A : Around) (outer : List Env) (s : Shared) (H : Hp) (E : XK) (F : Fx), Room k (A.deeper (envOfC qual (defScope st) s.heap.objs.size f cdv)) → F.X = cxOf (L2.CX P w) P w K mg base N qual (defScope st) f cdv A outer s H E →
      ∀ Rs ω o ω', pre Rs ω o ω' → HB F (Rs.map some ++ List.replicate (N.length - Rs.length) none) ω (defBody st) (KfN o ω')) : FnOk P w K mg base (L2.CX P w) (k + 1) f fd ps (spN pre) := by
  refine Fn.okX S (fun vs H Q E h => ?_) (fun cdv A outer s H vs Q E hr h => ?_)
  · obtain ⟨Rs, ω, o, ω', G, hp, _, h2, _⟩ := h
    rw [← h2.len]
    exact hl _ _ _ _ hp
  · obtain ⟨Rs, ω, o, ω', G, hp, hgh, hv, hhas, hnd, hk, hq⟩ := h
    have tk : Takes (cxOf (L2.CX P w) P w K mg base N qual (defScope st) f cdv A outer s H E) (fun cls d _ H => E cls d H) := takes_of rfl rfl rfl rfl
    refine ⟨_, pss_w, hb cdv A outer s H E ⟨cxOf (L2.CX P w) P w K mg base N qual (defScope st) f cdv A outer s H E, G, H, keys ω, fun cls d _ H => E cls d H, tk⟩ hr rfl Rs ω o ω' hp (L2.start N vs) G H _ ?_ ?_ ?_⟩
    · exact ⟨Same.refl _, fun a o _ e => e, hgh, fun a _ e => e, fun a ha => hhas.some ha, fun p hp => let ⟨x, z⟩ := hhas p hp; ⟨x, .inr (List.mem_map_of_mem hp), z⟩, hnd⟩
    · unfold L2.start
      have e := hv.len
      refine ⟨by simp [e], fun i R hi => ?_⟩
      by_cases h : i < Rs.length
      · rw [List.getElem?_append_left (by simpa using h), List.getElem?_map] at hi
        cases h1 : Rs[i]? with
        | none => rw [h1] at hi; cases hi
        | some R' =>
          rw [h1] at hi
          cases hi
          obtain ⟨v, h2, h3⟩ := hv.get h1
          exact ⟨v, by rw [List.getElem?_append_left (by rw [List.length_map, ← e]; exact h), List.getElem?_map, h2]; rfl, h3⟩
      · rw [List.getElem?_append_right (by simpa using h), List.getElem?_replicate] at hi
        split at hi <;> cases hi
    · refine ⟨fun _ _ hk => hk.elim, fun R w1 hr' v G' H' s a r => ?_, fun _ _ hk => hk.elim, fun _ _ hk => hk.elim, fun _ _ _ hk => hk.elim⟩
      obtain ⟨q, w0, h1, h2, rfl⟩ := hr'
      cases h1 v G' r
      have hM : q ∉ keys ω := by rw [← hk]; exact h2
      have a' : At _ (((q, o) :: ω') ++ w0) G' H' := a
      exact hq q G' H' (At.own0 a hM) ⟨a.gg, a.hh, a.gh, a.fr⟩ a'.has.left
theorem All2.set : ∀ {Rs : List Rl} {vs : List V} {H : Hp} {R : Rl} {v : V} (j : Nat), All2 Rs vs H → R.r v H → All2 (Rs.set j R) (vs.set j v) H
  | [], [], _, _, _, _, _, _ => trivial
  | _ :: _, _ :: _, _, _, _, 0, h, r => ⟨r, h.2⟩
  | _ :: _, _ :: _, _, _, _, j + 1, h, r => ⟨h.1, All2.set j h.2 r⟩
  | [], _ :: _, _, _, _, _, h, _ => h.elim
  | _ :: _, [], _, _, _, _, h, _ => h.elim
section
variable {F : Fx} {ρ ρ1 : Ty} {ω w w1 w2 w3 wc wc' : Ow} {e o ix : Expr} {es : List Expr} {R S : Rl} {Rs : List Rl} {O : Ol} {pos p apos : Pos} {x m : Str} {k : Nat} {f : Addr} {fd : FuncData} {ps : List Str} {pre : PreN} {K : Kn} {rest : List Stmt} {q : Addr}
theorem en_lst (h : AR F ρ ω es Rs w1) (hz : Rs.length ≤ 1000) : EN F ρ ω (.List es pos) (oL Rs) w1 := fun σ G H at_ sl Q q => by
  refine ew_of (pe_lst pa_w) (h σ G H at_ sl _ fun vs G2 H2 s a r => ⟨Nat.le_of_lt (small1000 (by rw [← r.len]; exact hz)), fun p hp => ?_⟩)
  exact q p G2 _ (fun hm => a.mm p hm hp) s (a.own hp ⟨vs, rfl, r⟩)
theorem en_call (ha : AR F ρ ω (e :: es) Rs (wc ++ w)) (hp : pre Rs wc O wc') (hk : keys wc' = keys wc) (Fn : FnOk F.X.prog F.X.w F.X.K F.X.mg F.X.base (L2.CX F.X.prog F.X.w) k f fd ps (spN pre)) (hr : Room k F.X.A) (hm : F.X.mg x = some (.ref f))
    (hkp : PySem.W.keepIn F.X.K (.ref f) = true) (hb : Binds F.X.K fd ps []) (hg : Gl F.X x := by rfl) (hdb : (x == ("__debug__" : Str)) = false := by decide) (he : starEach (e :: es) F.X.env = (false, eval e F.X.env) :: starEach es F.X.env := by rfl) (hpl : (backTo pos (starEach es F.X.env)).any (·.1) = false := by rfl) :
    EN F ρ ω (.Call (.Name x p) (e :: es) [] pos) O (wc' ++ w) := fun σ G H at_ sl Q q =>
  ew_of (pe_callS (E := WE F.W) Fn hr hg hm hkp hb passW pa_w hdb he hpl) (ha σ G H at_ sl _ fun vs G2 H2 s a r => ⟨Rs, wc, O, wc', G2, hp, a.gh, r, a.has.left, by have := a.nd; rw [List.map_append] at this; exact (List.nodup_append.mp this).1, hk, fun q' G' H' hq st hh => by
    obtain ⟨hM, a3⟩ := a.newcall st hq hh hk
    exact q q' G' H' hM (s.trans st.gg) a3⟩)
/-- x = a new thing -/
theorem hb_setN (i : Nat) (he : EN F ρ ω e O w1) (h : ∀ q, q ∉ F.M → HB F (ρ.set i (some (rRef q))) ((q, O) :: w1) rest K) (hN : F.X.N.Nodup) (hi : F.X.N[i]? = some x := by rfl) (hx : Loc F.X.env.scope x := by first | exact Or.inl rfl | exact Or.inr rfl)
    (hs : swapsWith e (some (.Name x p)) pos.line F.X.env = pure false := by rfl) (hf : F.X.fn x = true ∨ F.X.env.scope.names.lookup x = some .local := by first | exact .inl rfl | exact .inr rfl | assumption) :
    HB F ρ ω (.Assign [.Name x p] e pos :: rest) K := hb_cons fun σ G H D at_ sl ps =>
  sw_of (ps_set hN hi hx pe_w hs hf) (he σ G H at_ sl _ fun q G2 H2 hM s a => h q hM _ G2 H2 D a ((sl.up s).set i rfl) (ps.up s))
theorem hb_retO (he : EN F ρ ω e O w1) (h : ∀ q, q ∉ F.M → K.rt (rRef q) ((q, O) :: w1)) : HB F ρ ω (.Return (some e) pos :: rest) K := hb_cons fun σ G H D at_ sl ps =>
  sw_of (ps_ret pe_w) (he σ G H at_ sl _ fun q G2 H2 hM s a => ps.rt _ _ (h q hM) _ G2 H2 s a rfl)
/-- what is owned is owned no more -/
theorem hb_pub (i : Nat) (hi : ρ[i]? = some (some (rRef q))) (hM : q ∉ F.M) (hO : ∀ o G, G q = some o → O.c o G → R.r (.ref q) G) (h : HB F (ρ.set i (some R)) w rest K) : HB F ρ ((q, O) :: w) rest K := fun σ G H D at_ sl ps => by
  obtain ⟨hg0, _, o, h1, h2⟩ := at_.ow _ List.mem_cons_self
  have a := at_.pub h1 (At.own0 at_ hM)
  have sg : Same G (upd G q o) := fun b u e => by rw [upd_ne (ne_of_none e hg0)]; exact e
  obtain ⟨v, hv, rv⟩ := sl.at_ i _ hi
  cases (show v = V.ref q from rv)
  have sl2 := (sl.up sg).set i (R := R) (v := .ref q) (hO o _ upd_same (O.mo _ _ _ sg h2))
  have e : σ.set i (some (V.ref q)) = σ := by
    refine List.ext_getElem? fun j => ?_
    by_cases hj : i = j
    · subst hj
      rw [hv]
      exact List.getElem?_set_self (by
        cases Nat.lt_or_ge i σ.length with
        | inl z => exact z
        | inr z => rw [List.getElem?_eq_none z] at hv; cases hv)
    · rw [List.getElem?_set_ne hj]
  rw [e] at sl2
  exact h σ _ H D a sl2 (ps.up sg)
theorem pub_lst : ∀ o G, G q = some o → (oL Rs).c o G → (rLst Rs).r (.ref q) G := fun o G h ⟨vs, e, h2⟩ => ⟨q, vs, rfl, by rw [h, e], h2⟩
/-- l[i] of an owned list -/
theorem er_ixO {i : Int} {n : Nat} (ha : ER F ρ ω o (rRef q) w1) (hb : ER F ρ w1 ix (rInt i) w2) (hm : (q, oL Rs) ∈ w2) (hn : ixN Rs.length i = some n) (hR : Rs[n]? = some R) (hs : PlainIx ix := by exact fun _ _ => rfl) : ER F ρ ω (.Subscript o ix pos) R w2 := fun σ G H at_ sl Q k => by
  refine ew_of (pe_ix ix_list pe_w pe_w hs) (ha σ G H at_ sl _ fun x G1 H1 s1 at1 rx => hb σ G1 H1 at1 (sl.up s1) _ fun y G2 H2 s2 at2 ry => ?_)
  obtain ⟨_, _, ob, h1, vs, e1, h2⟩ := at2.ow _ hm
  subst e1
  obtain ⟨v, h3, h4⟩ := h2.get hR
  refine ⟨q, vs, i, v, rx, ry, SqL.of h1, ?_, k v G2 H2 (s1.trans s2) at2 h4⟩
  unfold atI
  rw [← h2.len, hn]
  exact h3
/-- l[i] = e -/
theorem hb_sub {i : Int} {n : Nat} {p2 : Pos} (he : ER F ρ ω e R w1) (ho : ER F ρ w1 o (rRef q) w2) (hi : ER F ρ w2 ix (rInt i) ((q, oL Rs) :: w3)) (hn : ixN Rs.length i = some n) (h : HB F ρ ((q, oL (Rs.set n R)) :: w3) rest K)
    (ha : ∀ v, assign (.Subscript o ix p2) F.X.env v = (do
      let ov ← holding [v] (eval o F.X.env)
      let iv ← holding [v, ov] (eval ix F.X.env)
      standAt p2
      holding [v, ov, iv] (setItem ov iv v)
      release [v, ov, iv] []) := by intro _; rfl)
    (hs : swapsWithSole [.Subscript o ix p2] e pos.line F.X.env = pure false := by rfl) (hw : swappedStores [.Subscript o ix p2] e F.X.env = pure none := by rfl) (h1 : (assignEach [.Subscript o ix p2] F.X.env).map (·.2) = [assign (.Subscript o ix p2) F.X.env] := by rfl) :
    HB F ρ ω (.Assign [.Subscript o ix p2] e pos :: rest) K := hb_cons fun σ G H D at_ sl ps => by
  refine sw_of (ps_asg pe_w (pg_sub pe_w pe_w set_list ha) hs hw h1) (he σ G H at_ sl _ fun v G1 H1 s1 a1 r1 => ho σ G1 H1 a1 (sl.up s1) _ fun x G2 H2 s2 a2 r2 => hi σ G2 H2 a2 ((sl.up s1).up s2) _ fun y G3 H3 s3 a3 r3 => ?_)
  obtain ⟨_, _, ob, h1', vs, e1, h2⟩ := a3.ow _ List.mem_cons_self
  subst e1
  refine ⟨q, vs, i, n, r2, r3, h1', by rw [← h2.len]; exact hn, ?_⟩
  have s13 := (s1.trans s2).trans s3
  exact h σ G3 _ D (a3.chg ⟨_, rfl, h2.set n (R.mo _ _ _ (s2.trans s3) r1)⟩) (sl.up s13) (ps.up s13)
/-- l.append(e) -/
theorem hb_append (ho : ER F ρ ω o (rRef q) w1) (hm : (q, oL Rs) ∈ w1) (ha : AR F ρ w1 [e] [R] ((q, oL Rs) :: w2)) (hz : Rs.length ≤ 100000) (h : HB F ρ ((q, oL (Rs ++ [R])) :: w2) rest K)
    (hsw : swapsWith (.Call (.Attribute o "append" apos) [e] [] p) none pos.line F.X.env = pure false := by rfl)
    (hbase : attributeBase o "append" F.X.env (eval o F.X.env) = eval o F.X.env := by rfl)
    (hfew : ((backTo p (starEach [e] F.X.env)).all (fun x => !x.1) && (backToKw p (keywordEach [] F.X.env)).all (fun x => x.1.isSome)
      && decide ([e].length + ([] : List Keyword).length + (if ([] : List Keyword).isEmpty then 0 else 1) < 30)) = true := by rfl)
    (hline : (apos.endLine == p.line) = true := by rfl) (hs : starEach [e] F.X.env = (false, eval e F.X.env) :: starEach [] F.X.env := by rfl) (hplain : (backTo p (starEach [] F.X.env)).any (·.1) = false := by rfl) :
    HB F ρ ω (.Expr (.Call (.Attribute o "append" apos) [e] [] p) pos :: rest) K := hb_cons fun σ G H D at_ sl ps => by
  refine sw_of (ps_expr (pe_bm (T := "list") PySem.F.plainAttrs_list PySem.F.slot_list_append PySem.F.type_list_append mt_append pe_w pa_w hbase hfew hline hs hplain) hsw) (ho σ G H at_ sl _ fun x G1 H1 s1 a1 r1 => ?_)
  cases (show x = V.ref q from r1)
  obtain ⟨_, _, ob, h1', vs, e1, h2⟩ := a1.ow _ hm
  subst e1
  refine ⟨.inl ⟨rfl, vs, SqL.of h1'⟩, ha σ G1 H1 a1 (sl.up s1) _ fun us G2 H2 s2 a2 r2 => ?_⟩
  obtain ⟨v, rfl, rv⟩ := all1 r2
  obtain ⟨_, _, ob, h3, ws, e3, h4⟩ := a2.ow _ List.mem_cons_self
  subst e3
  refine ⟨q, ws, v, rfl, rfl, h3, Nat.lt_of_le_of_lt (by rw [← h4.len]; exact hz) (by decide), ?_⟩
  have s12 := s1.trans s2
  exact h σ G2 _ D (a2.chg ⟨_, rfl, h4.app (mk1 rv)⟩) (sl.up s12) (ps.up s12)
/-! the script -/
def rScr (K : PySem.W.Frag) (xs : List V) : Rl := ⟨fun v H => ∃ a, v = .ref a ∧ SqL K H a xs, fun v H H' e ⟨a, h1, h2⟩ => ⟨a, h1, by
  rcases h2 with (h2 | ⟨o, h2⟩) | h2
  · exact .inl (.inl (e _ _ h2))
  · exact .inl (.inr ⟨o, e _ _ h2⟩)
  · exact .inr h2⟩⟩
theorem sql_up {K : PySem.W.Frag} {a : Addr} {xs : List V} {G H : Hp} (e : Same G H) (h : SqL K G a xs) : SqL K H a xs := by
  obtain ⟨b, h1, h2⟩ := (rScr K xs).mo (.ref a) G H e ⟨a, rfl, h⟩
  cases h1
  exact h2
theorem cop_lenS {xs : List V} : Cop F ω (.builtin "len") [rScr F.X.K xs] (rInt (xs.length : Int)) := by
  refine ⟨_, call_len_seq, fun us G H at_ hx Q q => ?_⟩
  obtain ⟨x, rfl, p, rfl, h1⟩ := all1 hx
  exact ⟨p, xs, rfl, .inl (sql_up at_.gh h1), q _ G H (Same.refl _) at_ rfl⟩
theorem iop_S {xs : List V} {i : Int} {v : V} (h : atI xs i = some v) : Iop F ω (rScr F.X.K xs) (rInt i) (rEqV v) :=
  ⟨_, ix_list, fun x y G H at_ hx hy Q q => by
    obtain ⟨p, rfl, h1⟩ := hx
    exact ⟨p, xs, i, v, rfl, hy, sql_up at_.gh h1, h, q v G H (Same.refl _) at_ rfl⟩⟩
/-! [..] * n, tuple(..) -/
theorem all2_flat {H : Hp} {Rs : List Rl} {vs : List V} (h : All2 Rs vs H) : ∀ n, All2 (List.replicate n Rs).flatten (List.replicate n vs).flatten H
  | 0 => trivial
  | n + 1 => by rw [List.replicate_succ, List.replicate_succ, List.flatten_cons, List.flatten_cons]; exact h.app (all2_flat h n)
theorem bop_rep {k : Int} (h1 : -(2 ^ 63) ≤ k) (h2 : k < 2 ^ 63) (hz : Rs.length * k.toNat ≤ 100000) : Bop F ω (binaryOp .Mult) (rLst Rs) (rInt k) (rLst (List.replicate k.toNat Rs).flatten) :=
  ⟨_, op_rep, fun x y G H at_ hx hy Q q => by
    obtain ⟨l, vs, rfl, e1, e2⟩ := hx
    refine ⟨l, k, vs, rfl, hy, at_.gh _ _ e1, h1, h2, Nat.le_trans (by rw [← e2.len]; exact hz) (by decide), fun p hp => ?_⟩
    have st := Step.new (o := .lst (List.replicate k.toNat vs).flatten) at_.gh hp
    exact q _ _ _ st.gg (at_.step st) ⟨p, _, rfl, upd_same, (all2_flat e2 _).up st.gg⟩⟩
theorem cop_tupL : Cop F ω (.type "tuple") [rLst Rs] (rTup Rs) := ⟨_, call_tuple_of, fun xs G H at_ hx Q q => by
  obtain ⟨x, rfl, p, vs, rfl, h1, h2⟩ := all1 hx
  refine ⟨p, vs, rfl, .inl ⟨SqL.of (at_.gh _ _ h1), fun l hl => ?_⟩⟩
  have st := Step.new (o := .tup vs) at_.gh hl
  exact q _ _ _ st.gg (at_.step st) ⟨l, vs, rfl, upd_same, h2.up st.gg⟩⟩
/-! a, b = a list -/
end
/-! ### try -/
/-- in the suite -/
structure InSuite (F F' : Fx) (a : Addr) (cls : Value) (d : Option Addr) : Prop where
  h : ∃ oe pn, F'.X = F.X.suite a ((a, oe) :: pn) ∧ Zc cls d oe ∧ ∃ vs, oe.data = .fields vs
  g0 : F'.G0 = F.G0
  h0 : F'.H0 = F.H0
  m : F'.M = F.M
structure InTry (F F' : Fx) : Prop where
  h : ∃ pn xe, F'.X = F.X.tr pn xe ∧ PassesOwn (model F.X.prog F.X.w) F.X.A F.X.env xe
  g0 : F'.G0 = F.G0
  h0 : F'.H0 = F.H0
  m : F'.M = F.M
/-- behind the suite of 'except C as n', n in slot i -/
def Kn.suite (K : Kn) (F : Fx) (rest : List Stmt) (i : Nat) : Kn :=
  { nx := fun ρ ω => HB F (ρ.set i none) ω rest K, rt := K.rt, bk := fun ρ ω => K.bk (ρ.set i none) ω, ct := fun ρ ω => K.ct (ρ.set i none) ω }
section
variable {F : Fx} {ρ : Ty} {ω w1 : Ow} {K : Kn} {rest body suite : List Stmt} {b₀ : Stmt} {x n : Str} {c : Value} {np pos pos' : Pos}
end
section
variable {F F' : Fx} {ρ : Ty} {ω w1 : Ow} {e : Expr} {R : Rl} {a C dd : Addr} {fld : Str} {pos : Pos}
end
end W1
set_option maxRecDepth 100000
set_option maxHeartbeats 2000000
namespace W1
open PySem PySem.Spec PyProof.Rows L2

/-! ### known defs, in one word each -/
section
variable (P : Program) (w : World) (K : PySem.W.Frag) (mg : Str → Option Value) (base : Heap)
/-- a def at the top -/
def Kf1 (x : Str) (k : Nat) (pre : Pre) : Prop := ∃ f fd ps, mg x = some (.ref f) ∧ PySem.W.keepIn K (.ref f) = true ∧ Binds K fd ps [] ∧ FnOk P w K mg base (L2.CX P w) k f fd ps (spM pre)
def KfN1 (x : Str) (k : Nat) (pre : PreN) : Prop := ∃ f fd ps, mg x = some (.ref f) ∧ PySem.W.keepIn K (.ref f) = true ∧ Binds K fd ps [] ∧ FnOk P w K mg base (L2.CX P w) k f fd ps (spN pre)
/-- a method -/
def Km (C : Addr) (m : Str) (k : Nat) (pre : Pre) : Prop := ∃ f fd ps, Meth K C m f ∧ Binds K fd ps [] ∧ FnOk P w K mg base (L2.CX P w) k f fd ps (spM pre)
/-- an operator's method -/
def Ko (C : Addr) (m : Str) (k : Nat) (pre : Pre) : Prop := ∃ f fd ps, OwnM K C m f ∧ Binds K fd ps [] ∧ FnOk P w K mg base (L2.CX P w) k f fd ps (spM pre)
/-- a class that is called -/
def Kc (C : Addr) (x : Str) (k : Nat) (pre : Pre) : Prop := ∃ f fd ps, mg x = some (.ref C) ∧ Mk K C f ∧ Binds K fd ps [] ∧ FnOk P w K mg base (L2.CX P w) k f fd ps (spM pre)
/-- a classmethod -/
def Kcm (C : Addr) (m : Str) (k : Nat) (pre : Pre) : Prop := ∃ f fd ps mc pc, ClX.CRead K C mc ∧ ClX.CMet K C mc m pc f ∧ Binds K fd ps [] ∧ FnOk P w K mg base (L2.CX P w) k f fd ps (spM pre)
/-- an error class of one field -/
def Ke (C : Addr) (x fld : Str) (k : Nat) (Pr : Rl) : Prop := ∃ y qual st f cc cd fd, SupC P K mg x qual st C f cc cd ∧ Binds K fd ([("self" : Str), y] : List Str) [] ∧ FnOk P w K mg base (L2.CX P w) k f fd ([("self" : Str), y] : List Str) (spErr C fld Pr)
end
section
variable {F : Fx} {ρ : Ty} {ω w w1 w2 wc wc' : Ow} {e o a b : Expr} {es : List Expr} {R S : Rl} {Rs : List Rl} {P : Er} {pos p apos pos' : Pos} {x m fld : Str} {k : Nat} {C : Addr} {pre : Pre} {fs gs : List (Str × Rl)} {O : Ol} {K : Kn} {rest : List Stmt} {t : Bool}
theorem er_fn (T : Kf1 F.X.prog F.X.w F.X.K F.X.mg F.X.base x k pre) (hr : Room k F.X.A) (ha : AR F ρ ω (e :: es) Rs (wc ++ w)) (hp : pre Rs wc (.ok R) wc') (hk : keys wc' = keys wc := by rfl)
    (hg : Gl F.X x := by rfl) (hdb : (x == ("__debug__" : Str)) = false := by decide) (he : starEach (e :: es) F.X.env = (false, eval e F.X.env) :: starEach es F.X.env := by rfl) (hpl : (backTo pos (starEach es F.X.env)).any (·.1) = false := by rfl) :
    ER F ρ ω (.Call (.Name x p) (e :: es) [] pos) R (wc' ++ w) := by
  obtain ⟨f, fd, ps, h1, h2, h3, h4⟩ := T
  exact er_call ha hp hk h4 hr h1 h2 h3 hg hdb he hpl
theorem er_fn0 (T : Kf1 F.X.prog F.X.w F.X.K F.X.mg F.X.base x k pre) (hr : Room k F.X.A) (ha : AR F ρ ω (e :: es) Rs w) (hp : pre Rs [] (.ok R) [])
    (hg : Gl F.X x := by rfl) (hdb : (x == ("__debug__" : Str)) = false := by decide) (he : starEach (e :: es) F.X.env = (false, eval e F.X.env) :: starEach es F.X.env := by rfl) (hpl : (backTo pos (starEach es F.X.env)).any (·.1) = false := by rfl) :
    ER F ρ ω (.Call (.Name x p) (e :: es) [] pos) R w := er_fn (wc := []) (wc' := []) T hr ha hp rfl hg hdb he hpl
theorem ex_fn0 (T : Kf1 F.X.prog F.X.w F.X.K F.X.mg F.X.base x k pre) (hr : Room k F.X.A) (ha : AR F ρ ω (e :: es) Rs w) (hp : pre Rs [] (.error P) [])
    (hg : Gl F.X x := by rfl) (hdb : (x == ("__debug__" : Str)) = false := by decide) (he : starEach (e :: es) F.X.env = (false, eval e F.X.env) :: starEach es F.X.env := by rfl) (hpl : (backTo pos (starEach es F.X.env)).any (·.1) = false := by rfl) :
    EX F ρ ω (.Call (.Name x p) (e :: es) [] pos) P w := by
  obtain ⟨f, fd, ps, h1, h2, h3, h4⟩ := T
  exact ex_call (wc := []) (wc' := []) ha hp rfl h4 hr h1 h2 h3 hg hdb he hpl
theorem en_fn {pre : PreN} (T : KfN1 F.X.prog F.X.w F.X.K F.X.mg F.X.base x k pre) (hr : Room k F.X.A) (ha : AR F ρ ω (e :: es) Rs (wc ++ w)) (hp : pre Rs wc O wc') (hk : keys wc' = keys wc := by rfl)
    (hg : Gl F.X x := by rfl) (hdb : (x == ("__debug__" : Str)) = false := by decide) (he : starEach (e :: es) F.X.env = (false, eval e F.X.env) :: starEach es F.X.env := by rfl) (hpl : (backTo pos (starEach es F.X.env)).any (·.1) = false := by rfl) :
    EN F ρ ω (.Call (.Name x p) (e :: es) [] pos) O (wc' ++ w) := by
  obtain ⟨f, fd, ps, h1, h2, h3, h4⟩ := T
  exact en_call ha hp hk h4 hr h1 h2 h3 hg hdb he hpl
theorem er_m {pl : Sem Bool} (T : Km F.X.prog F.X.w F.X.K F.X.mg F.X.base C m k pre) (hc : Cls F.X.K C) (hr : Room k F.X.A) (ho : ER F ρ ω o (rIns C fs) w1) (ha : AR F ρ w1 (e :: es) Rs w) (hp : pre (rIns C fs :: Rs) [] (.ok R) []) (hno : fs.lookup m = none := by rfl)
    (hst : starEach (e :: es) F.X.env = (false, eval e F.X.env) :: starEach es F.X.env := by rfl) (hpl : (backTo pos (starEach es F.X.env)).any (·.1) = false := by rfl)
    (ht : eval (.Call (.Attribute o m apos) (e :: es) [] pos) F.X.env = (do
      let ov ← eval o F.X.env
      standAt apos.atName
      let (f, first) ← holding [ov] (getMethod ov m pl)
      callWith pos f first (backTo pos (starEach (e :: es) F.X.env)) (backToKw pos (keywordEach [] F.X.env))) := by rfl) :
    ER F ρ ω (.Call (.Attribute o m apos) (e :: es) [] pos) R w := by
  obtain ⟨f, fd, ps, h1, h2, h3⟩ := T
  exact er_meth (wc := []) (wc' := []) ho hno ha hp rfl h3 hr hc h1 h2 hst hpl ht
theorem ex_m {pl : Sem Bool} (T : Km F.X.prog F.X.w F.X.K F.X.mg F.X.base C m k pre) (hc : Cls F.X.K C) (hr : Room k F.X.A) (ho : ER F ρ ω o (rIns C fs) w1) (ha : AR F ρ w1 (e :: es) Rs w) (hp : pre (rIns C fs :: Rs) [] (.error P) []) (hno : fs.lookup m = none := by rfl)
    (hst : starEach (e :: es) F.X.env = (false, eval e F.X.env) :: starEach es F.X.env := by rfl) (hpl : (backTo pos (starEach es F.X.env)).any (·.1) = false := by rfl)
    (ht : eval (.Call (.Attribute o m apos) (e :: es) [] pos) F.X.env = (do
      let ov ← eval o F.X.env
      standAt apos.atName
      let (f, first) ← holding [ov] (getMethod ov m pl)
      callWith pos f first (backTo pos (starEach (e :: es) F.X.env)) (backToKw pos (keywordEach [] F.X.env))) := by rfl) :
    EX F ρ ω (.Call (.Attribute o m apos) (e :: es) [] pos) P w := by
  obtain ⟨f, fd, ps, h1, h2, h3⟩ := T
  exact ex_meth (wc := []) (wc' := []) ho hno ha hp rfl h3 hr hc h1 h2 hst hpl ht
theorem er_m0 {pl : Sem Bool} (T : Km F.X.prog F.X.w F.X.K F.X.mg F.X.base C m k pre) (hc : Cls F.X.K C) (hr : Room k F.X.A) (ho : ER F ρ ω o (rIns C fs) w) (hp : pre [rIns C fs] [] (.ok R) []) (hno : fs.lookup m = none := by rfl)
    (ht : eval (.Call (.Attribute o m apos) [] [] pos) F.X.env = (do
      let ov ← eval o F.X.env
      standAt apos.atName
      let (f, first) ← holding [ov] (getMethod ov m pl)
      callWith pos f first (backTo pos (starEach [] F.X.env)) (backToKw pos (keywordEach [] F.X.env))) := by rfl) :
    ER F ρ ω (.Call (.Attribute o m apos) [] [] pos) R w := by
  obtain ⟨f, fd, ps, h1, h2, h3⟩ := T
  exact er_meth0 (wc := []) (wc' := []) ho hno hp rfl h3 hr hc h1 h2 ht
theorem er_c {fs : List (Str × Rl)} (T : Kc F.X.prog F.X.w F.X.K F.X.mg F.X.base C x k pre) (hr : Room (k + 1) F.X.A) (ha : AR F ρ ω (e :: es) Rs w) (hp : ∀ q, pre (rRef q :: Rs) [(q, oIns C [])] (.ok rNon) [(q, oIns C fs)])
    (hg : Gl F.X x := by rfl) (hdb : (x == ("__debug__" : Str)) = false := by decide) (he : starEach (e :: es) F.X.env = (false, eval e F.X.env) :: starEach es F.X.env := by rfl) (hpl : (backTo pos (starEach es F.X.env)).any (·.1) = false := by rfl) :
    ER F ρ ω (.Call (.Name x p) (e :: es) [] pos) (rIns C fs) w := by
  obtain ⟨f, fd, ps, h1, h2, h3, h4⟩ := T
  exact er_make ha hp h4 hr h2 h1 h3 hg hdb he hpl
theorem ex_c (T : Kc F.X.prog F.X.w F.X.K F.X.mg F.X.base C x k pre) (hr : Room (k + 1) F.X.A) (ha : AR F ρ ω (e :: es) Rs w) (hp : ∀ q, ∃ O, pre (rRef q :: Rs) [(q, oIns C [])] (.error P) [(q, O)]) (hP : ∀ cls d G G', Same G G' → P cls d G → P cls d G')
    (hg : Gl F.X x := by rfl) (hdb : (x == ("__debug__" : Str)) = false := by decide) (he : starEach (e :: es) F.X.env = (false, eval e F.X.env) :: starEach es F.X.env := by rfl) (hpl : (backTo pos (starEach es F.X.env)).any (·.1) = false := by rfl) :
    EX F ρ ω (.Call (.Name x p) (e :: es) [] pos) P w := by
  obtain ⟨f, fd, ps, h1, h2, h3, h4⟩ := T
  exact ex_make ha hp h4 hr h2 h1 h3 hg hdb he hpl hP
theorem er_cm {pl : Sem Bool} (T : Kcm F.X.prog F.X.w F.X.K F.X.mg F.X.base C m k pre) (hr : Room k F.X.A) (ho : ER F ρ ω o (rRef C) w1) (ha : AR F ρ w1 (e :: es) Rs w) (hp : pre (rRef C :: Rs) [] (.ok R) [])
    (hst : starEach (e :: es) F.X.env = (false, eval e F.X.env) :: starEach es F.X.env := by rfl) (hpl : (backTo pos (starEach es F.X.env)).any (·.1) = false := by rfl)
    (ht : eval (.Call (.Attribute o m apos) (e :: es) [] pos) F.X.env = (do
      let ov ← eval o F.X.env
      standAt apos.atName
      let (f, first) ← holding [ov] (getMethod ov m pl)
      callWith pos f first (backTo pos (starEach (e :: es) F.X.env)) (backToKw pos (keywordEach [] F.X.env))) := by rfl) : ER F ρ ω (.Call (.Attribute o m apos) (e :: es) [] pos) R w := by
  obtain ⟨f, fd, ps, mc, pc, h1, h2, h3, h4⟩ := T
  exact er_cmeth ho ha hp h4 hr h1 h2 h3 hst hpl ht
theorem bop_o {op : Operator} (T : Ko F.X.prog F.X.w F.X.K F.X.mg F.X.base C (PySem.dunder op.info.2) k pre) (c : ClsX F.X.K C) (hr : Room k F.X.A) (hp : pre [rIns C fs, rIns C gs] [] (.ok R) []) : Bop F w (binaryOp op) (rIns C fs) (rIns C gs) R := by
  obtain ⟨f, fd, ps, h1, h2, h3⟩ := T
  exact bop_own hp h3 c h1 hr h2
theorem uop_o (T : Ko F.X.prog F.X.w F.X.K F.X.mg F.X.base C "__neg__" k pre) (hr : Room k F.X.A) (hp : pre [rIns C fs] [] (.ok R) []) : Uop F w (unaryOp .USub) (rIns C fs) R := by
  obtain ⟨f, fd, ps, h1, h2, h3⟩ := T
  exact uop_own hp h3 h1 hr h2
theorem bop_oE {B : Rl} {t : Value} (T : Ko F.X.prog F.X.w F.X.K F.X.mg F.X.base C "__eq__" k pre) (hr : Room k F.X.A) (hp : pre [rIns C fs, B] [] (.ok R) []) (ht : TyR F.X.K B t) (hn : PySem.W.notFirst F.X.K C t = true) : Bop F w (compareOp .Eq) (rIns C fs) B R := by
  obtain ⟨f, fd, ps, h1, h2, h3⟩ := T
  exact bop_ownE hp ht hn h3 h1 hr h2
theorem hb_err {Pr : Rl} (T : Ke F.X.prog F.X.w F.X.K F.X.mg F.X.base C x fld k Pr) (hr : Room (k + 1) F.X.A) (ha : AR F ρ ω [e] [R] w1) (hx : K.ex ρ w1 (erF C fld R)) (hPr : ∀ v G, R.r v G → Pr.r v G)
    (hg : Gl F.X x := by rfl) (hc : F.X.calm = true := by rfl) (hdb : (x == ("__debug__" : Str)) = false := by decide)
    (he : starEach [e] F.X.env = (false, eval e F.X.env) :: starEach [] F.X.env := by rfl) (hpl : (backTo pos (starEach [] F.X.env)).any (·.1) = false := by rfl) :
    HB F ρ ω (.Raise (some (.Call (.Name x p) [e] [] pos)) none pos' :: rest) K := by
  obtain ⟨y, qual, st, f, cc, cd, fd, h1, h2, h3⟩ := T
  exact hb_raise ha hx hPr h1 h3 hr h2 hg hc hdb he hpl
end
end W1
set_option maxRecDepth 100000
set_option maxHeartbeats 2000000
namespace W1
open PySem PySem.Spec PyProof.Rows L2

/-! ### fractions -/
theorem gcd_step (a b : Nat) (h : b ≠ 0) : Int.gcd (b : Int) ((a % b : Nat) : Int) = Int.gcd (a : Int) (b : Int) := by
  show Nat.gcd b (a % b) = Nat.gcd a b
  rw [Nat.gcd_comm a b, Nat.gcd_rec b a, Nat.gcd_comm]
theorem fmod_nat (a b : Nat) : (a : Int).fmod (b : Int) = ((a % b : Nat) : Int) := by
  rw [Int.fmod_eq_emod_of_nonneg _ (Int.natCast_nonneg b)]
  rfl
theorem abs_nat (a : Int) : (if a < 0 then -a else a) = (a.natAbs : Int) := by
  by_cases h : a < 0
  · rw [if_pos h]; omega
  · rw [if_neg h]; omega
/-- the divisor that __init__ takes -/
def dvs (t b : Int) : Int := if b < 0 then -(Int.gcd t b : Int) else (Int.gcd t b : Int)
theorem dvs_ne {t b : Int} (h : b ≠ 0) : dvs t b ≠ 0 := by
  have : Int.gcd t b ≠ 0 := fun e => h (Int.gcd_eq_zero_iff.mp e).2
  unfold dvs
  split <;> omega
theorem dvs_top {t b : Int} (h : b ≠ 0) : t.fdiv (dvs t b) = (Rat.divInt t b).num := by
  have hd := dvs_ne (t := t) h
  obtain ⟨u, hu⟩ : ((Int.gcd t b : Int)) ∣ t := Int.gcd_dvd_left t b
  have hg : (Int.gcd t b : Int) ≠ 0 := by
    have : Int.gcd t b ≠ 0 := fun e => h (Int.gcd_eq_zero_iff.mp e).2
    omega
  rw [Rat.num_divInt, Int.gcd_comm b t]
  generalize hG : (Int.gcd t b : Int) = g at *
  unfold dvs
  rw [hG]
  by_cases hb : b < 0
  · rw [if_pos hb, Int.sign_eq_neg_one_of_neg hb, hu, show g * u = (-g) * (-u) by rw [Int.neg_mul_neg], Int.mul_fdiv_cancel_left _ (by omega), show -1 * (-g * -u) = g * (-u) by rw [Int.neg_mul_neg, Int.mul_neg]; omega, Int.mul_ediv_cancel_left _ hg]
  · rw [if_neg hb, Int.sign_eq_one_of_pos (by omega), hu, Int.mul_fdiv_cancel_left _ hg, Int.one_mul, Int.mul_ediv_cancel_left _ hg]
theorem dvs_bot {t b : Int} (h : b ≠ 0) : b.fdiv (dvs t b) = ((Rat.divInt t b).den : Int) := by
  have hd := dvs_ne (t := t) h
  obtain ⟨u, hu⟩ : ((Int.gcd t b : Int)) ∣ b := Int.gcd_dvd_right t b
  have hg : (0 : Int) < (Int.gcd t b : Int) := by
    have : Int.gcd t b ≠ 0 := fun e => h (Int.gcd_eq_zero_iff.mp e).2
    omega
  rw [Rat.den_divInt, if_neg h, Int.gcd_comm b t]
  generalize hG : Int.gcd t b = g at *
  have e : (b.natAbs / g : Nat) = u.natAbs := by
    rw [hu, Int.natAbs_mul, Int.natAbs_natCast, Nat.mul_div_cancel_left _ (by omega)]
  rw [e]
  unfold dvs
  rw [hG]
  by_cases hb : b < 0
  · have hu0 : u < 0 := by
      rcases Int.lt_or_le u 0 with z | z
      · exact z
      · have := Int.mul_nonneg (Int.le_of_lt hg) z
        omega
    rw [if_pos hb, hu, show (g : Int) * u = (-(g : Int)) * (-u) by rw [Int.neg_mul_neg], Int.mul_fdiv_cancel_left _ (by omega)]
    omega
  · have hu0 : 0 ≤ u := by
      rcases Int.lt_or_le u 0 with z | z
      · have := Int.mul_neg_of_pos_of_neg hg z
        omega
      · exact z
    rw [if_neg hb, hu, Int.mul_fdiv_cancel_left _ (by omega)]
    omega
theorem dvs_le {t b : Int} : (dvs t b).natAbs ≤ b.natAbs ∨ b = 0 := by
  by_cases h : b = 0
  · exact .inr h
  · left
    have h1 : (Int.gcd t b) ≤ b.natAbs := Nat.le_of_dvd (by omega) (Nat.gcd_dvd_right _ _)
    unfold dvs
    split <;> omega
/-- not too great -/
def Sz (n : Nat) (q : Rat) : Prop := q.num.natAbs < 2 ^ n ∧ q.den < 2 ^ n
theorem Sz.mono {m n : Nat} {q : Rat} (h : Sz m q) (l : m ≤ n) : Sz n q :=
  ⟨Nat.lt_of_lt_of_le h.1 (Nat.pow_le_pow_right (by decide) l), Nat.lt_of_lt_of_le h.2 (Nat.pow_le_pow_right (by decide) l)⟩
theorem mul_lt2 {a b m n : Nat} (ha : a < 2 ^ m) (hb : b < 2 ^ n) : a * b < 2 ^ (m + n) := by
  rw [Nat.pow_add]
  exact Nat.mul_lt_mul'' ha hb
theorem sz_divInt {n : Nat} {t b : Int} (h : b ≠ 0) (h1 : t.natAbs < 2 ^ n) (h2 : b.natAbs < 2 ^ n) : Sz n (Rat.divInt t b) := by
  constructor
  · rw [Rat.num_divInt, Int.natAbs_ediv_of_dvd]
    · refine Nat.lt_of_le_of_lt (Nat.div_le_self _ _) ?_
      rw [Int.natAbs_mul]
      have : b.sign.natAbs = 1 := Int.natAbs_sign_of_ne_zero h
      rw [this, Nat.one_mul]
      exact h1
    · exact Int.dvd_mul_of_dvd_right (Int.gcd_dvd_right b t)
  · rw [Rat.den_divInt, if_neg h]
    exact Nat.lt_of_le_of_lt (Nat.div_le_self _ _) h2
theorem add_lt2 {a b m n k : Nat} (ha : a < 2 ^ m) (hb : b < 2 ^ n) (h1 : m < k) (h2 : n < k) : a + b < 2 ^ k := by
  have e : 2 ^ k = 2 ^ (k - 1) + 2 ^ (k - 1) := by
    obtain ⟨j, rfl⟩ : ∃ j, k = j + 1 := ⟨k - 1, by omega⟩
    rw [Nat.pow_succ, Nat.add_sub_cancel]
    omega
  have h3 : 2 ^ m ≤ 2 ^ (k - 1) := Nat.pow_le_pow_right (by decide) (by omega)
  have h4 : 2 ^ n ≤ 2 ^ (k - 1) := Nat.pow_le_pow_right (by decide) (by omega)
  omega
theorem divInt_add (p q : Rat) : Rat.divInt (p.num * q.den + q.num * p.den) (p.den * q.den) = p + q := by
  have h1 : (p.den : Int) ≠ 0 := Int.natCast_ne_zero.mpr p.den_nz
  have h2 : (q.den : Int) ≠ 0 := Int.natCast_ne_zero.mpr q.den_nz
  rw [← Rat.divInt_add_divInt _ _ h1 h2, Rat.num_divInt_den, Rat.num_divInt_den]
theorem divInt_sub (p q : Rat) : Rat.divInt (p.num * q.den - q.num * p.den) (p.den * q.den) = p - q := by
  rw [Rat.sub_eq_add_neg, ← divInt_add, Rat.neg_num, Rat.neg_den, Int.neg_mul]
  rfl
theorem divInt_mul (p q : Rat) : Rat.divInt (p.num * q.num) (p.den * q.den) = p * q := by
  rw [← Rat.divInt_mul_divInt, Rat.num_divInt_den, Rat.num_divInt_den]
theorem divInt_neg (p : Rat) : Rat.divInt (-p.num) p.den = -p := by
  rw [← Rat.neg_divInt, Rat.num_divInt_den]
theorem divInt_quo (p q : Rat) : Rat.divInt (p.num * q.den) (p.den * q.num) = p / q := by
  rw [← Rat.divInt_mul_divInt, Rat.num_divInt_den, Rat.div_def, Rat.inv_def]
theorem sz_int {n : Nat} {q : Rat} (h : Sz n q) : (q.den : Int).natAbs < 2 ^ n := by rw [Int.natAbs_natCast]; exact h.2
theorem sz_add {m n k : Nat} {p q : Rat} (hp : Sz m p) (hq : Sz n q) (h : m + n < k) : Sz k (p + q) := by
  rw [← divInt_add]
  have h1 : (p.den : Int) ≠ 0 := Int.natCast_ne_zero.mpr p.den_nz
  have h2 : (q.den : Int) ≠ 0 := Int.natCast_ne_zero.mpr q.den_nz
  refine sz_divInt (Int.mul_ne_zero h1 h2) ?_ ?_
  · refine Nat.lt_of_le_of_lt (Int.natAbs_add_le _ _) ?_
    rw [Int.natAbs_mul, Int.natAbs_mul]
    exact add_lt2 (mul_lt2 hp.1 (sz_int hq)) (mul_lt2 hq.1 (sz_int hp)) h (by omega)
  · rw [Int.natAbs_mul]
    exact Nat.lt_trans (mul_lt2 (sz_int hp) (sz_int hq)) (Nat.pow_lt_pow_right (by decide) h)
theorem sz_mul {m n k : Nat} {p q : Rat} (hp : Sz m p) (hq : Sz n q) (h : m + n ≤ k) : Sz k (p * q) := by
  rw [← divInt_mul]
  have h1 : (p.den : Int) ≠ 0 := Int.natCast_ne_zero.mpr p.den_nz
  have h2 : (q.den : Int) ≠ 0 := Int.natCast_ne_zero.mpr q.den_nz
  refine Sz.mono (sz_divInt (n := m + n) (Int.mul_ne_zero h1 h2) ?_ ?_) h
  · rw [Int.natAbs_mul]
    exact mul_lt2 hp.1 hq.1
  · rw [Int.natAbs_mul]
    exact mul_lt2 (sz_int hp) (sz_int hq)
theorem sz_quo {m n k : Nat} {p q : Rat} (hp : Sz m p) (hq : Sz n q) (h : m + n ≤ k) (h0 : q.num ≠ 0) : Sz k (p / q) := by
  rw [← divInt_quo]
  have h1 : (p.den : Int) ≠ 0 := Int.natCast_ne_zero.mpr p.den_nz
  refine Sz.mono (sz_divInt (n := m + n) (Int.mul_ne_zero h1 h0) ?_ ?_) h
  · rw [Int.natAbs_mul]
    exact mul_lt2 hp.1 (sz_int hq)
  · rw [Int.natAbs_mul]
    exact mul_lt2 (sz_int hp) hq.1
theorem log2_of {a n : Nat} (h : a < 2 ^ n) (hn : n ≤ 9000) : a.log2 < 9000 ∨ a.log2 < 9000 := by
  left
  rcases Nat.eq_zero_or_pos a with e | e
  · subst e; decide
  · exact Nat.lt_of_lt_of_le ((Nat.log2_lt (by omega)).mpr h) hn
theorem bits_of {a : Int} {n : Nat} (h : a.natAbs < 2 ^ n) (hn : n ≤ 9000) : Builtin.Int.intBits a ≤ 2 ^ 20 := by
  unfold Builtin.Int.intBits
  have := (log2_of h hn).elim id id
  split <;> omega
theorem mulok {a b : Int} {m n : Nat} (ha : a.natAbs < 2 ^ m) (hb : b.natAbs < 2 ^ n) (hm : m ≤ 9000 := by decide) (hn : n ≤ 9000 := by decide) : IntMulOk a b := IntMulOk.of_bits (bits_of ha hm) (bits_of hb hn)
theorem divok {a : Int} {n : Nat} {i : Int} (h0 : a ≠ 0) (ha : a.natAbs < 2 ^ n) (hn : n ≤ 9000 := by decide) : CDivZ i a := ⟨h0, (log2_of ha hn).elim id id⟩
end W1
set_option maxRecDepth 100000
set_option maxHeartbeats 2000000
namespace W1
open PySem PySem.Spec PyProof.Rows L2

/-! ### texts, slices, more of lists -/
/-- a part of a slice -/
def PR (F : Fx) (ρ : Ty) (ω : Ow) (e : Option Expr) (v : Option Int) (ω' : Ow) : Prop :=
  ∃ t, PO F.X e t ∧ ∀ σ G H, At F ω G H → Slots ρ σ G → ∀ Q : Option Int → Hp → Prop, (∀ G2 H2, Same G G2 → At F ω' G2 H2 → Q v H2) → t σ H Q
def Sop (F : Fx) (ω : Ow) (A : Rl) (lo hi : Option Int) (R : Rl) : Prop :=
  ∃ r, L2.SlR F.X r ∧ ∀ x G H, At F ω G H → A.r x G → ∀ Q : VK, (∀ v G2 H2, Same G G2 → At F ω G2 H2 → R.r v G2 → Q v H2) → r x lo hi H Q
def cutR (Rs : List Rl) (lo hi : Option Int) : List Rl := (Rs.drop (HT.sIx Rs.length 0 lo)).take (HT.sIx Rs.length Rs.length hi - HT.sIx Rs.length 0 lo)
theorem All2.drop : ∀ {Rs : List Rl} {vs : List V} {H : Hp} (n : Nat), All2 Rs vs H → All2 (Rs.drop n) (vs.drop n) H
  | _, _, _, 0, h => h
  | [], [], _, _ + 1, _ => trivial
  | _ :: _, _ :: _, _, n + 1, h => All2.drop n h.2
  | [], _ :: _, _, _ + 1, h => h.elim
  | _ :: _, [], _, _ + 1, h => h.elim
theorem All2.take : ∀ {Rs : List Rl} {vs : List V} {H : Hp} (n : Nat), All2 Rs vs H → All2 (Rs.take n) (vs.take n) H
  | _, _, _, 0, _ => trivial
  | [], [], _, _ + 1, _ => trivial
  | _ :: _, _ :: _, _, n + 1, h => ⟨h.1, All2.take n h.2⟩
  | [], _ :: _, _, _ + 1, h => h.elim
  | _ :: _, [], _, _ + 1, h => h.elim
theorem all2_vals {H : Hp} : ∀ {xs vs : List V}, All2 (xs.map rEqV) vs H → vs = xs
  | [], [], _ => rfl
  | x :: xs, v :: vs, h => by rw [show v = x from h.1, all2_vals h.2]
  | [], _ :: _, h => h.elim
  | _ :: _, [], h => h.elim
theorem vals_all2 {H : Hp} : ∀ (xs : List V), All2 (xs.map rEqV) xs H
  | [] => trivial
  | _ :: xs => ⟨rfl, vals_all2 xs⟩
section
variable {F : Fx} {ρ : Ty} {ω w w1 w2 w3 : Ow} {e o a b lo hi : Expr} {es : List Expr} {A R S : Rl} {As Rs Ss : List Rl} {pos p apos p2 p3 : Pos} {m : Str} {z y : Str} {T id : String} {v u : Option Int}
theorem str_vals {H : Hp} {ys : List Str} {vs : List V} (h : All2 (ys.map rStr) vs H) : vs = ys.map V.str := by
  refine all2_vals (H := H) ?_
  rw [List.map_map]
  exact h
theorem vals_str {H : Hp} (ys : List Str) : All2 (ys.map rStr) (ys.map V.str) H := by
  have h := vals_all2 (H := H) (ys.map V.str)
  rw [List.map_map] at h
  exact h
/-! slices -/
theorem pr_none : PR F ρ ω none none ω := ⟨_, po_none, fun σ G H at_ sl Q q => q G H (Same.refl _) at_⟩
theorem pr_some {i : Int} (h : ER F ρ ω e (rInt i) w1) : PR F ρ ω (some e) (some i) w1 := ⟨_, po_some pe_w, fun σ G H at_ sl Q q => h σ G H at_ sl _ fun v G2 H2 s a r => ⟨i, r, q G2 H2 s a⟩⟩
theorem er_slice {lo hi : Option Expr} (ho : ER F ρ ω o A w1) (hl : PR F ρ w1 lo v w2) (hh : PR F ρ w2 hi u w3) (h : Sop F w3 A v u R) : ER F ρ ω (.Subscript o (.Slice lo hi none p2) pos) R w3 := fun σ G H at_ sl Q q => by
  obtain ⟨r, hr, k⟩ := h
  obtain ⟨tl, htl, hl⟩ := hl
  obtain ⟨th, hth, hh⟩ := hh
  refine ew_of (pe_slice hr pe_w htl hth) (ho σ G H at_ sl _ fun x G1 H1 s1 a1 r1 => hl σ G1 H1 a1 (sl.up s1) _ fun G2 H2 s2 a2 => hh σ G2 H2 a2 ((sl.up s1).up s2) _ fun G3 H3 s3 a3 => ?_)
  exact k x G3 H3 a3 (A.mo _ _ _ (s2.trans s3) r1) Q fun v G4 H4 s4 a4 r4 => q v G4 H4 (((s1.trans s2).trans s3).trans s4) a4 r4
theorem sop_str (hz : z.length ≤ 100000) : Sop F w (rStr z) v u (rStr (cutS z v u)) := ⟨_, sl_str, fun x G H at_ hx Q q => ⟨z, hx, Nat.le_trans hz (by decide), q _ G H (Same.refl _) at_ rfl⟩⟩
theorem sop_L : Sop F w (rLst Rs) v u (rLst (cutR Rs v u)) := ⟨_, sl_list, fun x G H at_ hx Q q => by
  obtain ⟨p, vs, rfl, h1, h2⟩ := hx
  refine ⟨p, vs, rfl, SqL.of (at_.gh _ _ h1), fun l hl => ?_⟩
  have st := Step.new (o := .lst (cutV vs v u)) at_.gh hl
  refine q _ _ _ st.gg (at_.step st) ⟨l, _, rfl, upd_same, ?_⟩
  unfold cutR cutV
  rw [h2.len]
  exact ((h2.drop _).take _).up st.gg⟩
theorem sop_S {xs : List V} : Sop F w (rScr F.X.K xs) v u (rLst ((cutV xs v u).map rEqV)) := ⟨_, sl_list, fun x G H at_ hx Q q => by
  obtain ⟨p, rfl, h1⟩ := hx
  refine ⟨p, xs, rfl, sql_up at_.gh h1, fun l hl => ?_⟩
  have st := Step.new (o := .lst (cutV xs v u)) at_.gh hl
  exact q _ _ _ st.gg (at_.step st) ⟨l, _, rfl, upd_same, vals_all2 _⟩⟩
/-! operators and builtins -/
theorem iop_str {i : Int} {c : Nat} (h : atI z.cps.toList i = some c) (hz : z.length ≤ 100000) : Iop F w (rStr z) (rInt i) (rStr ⟨#[c]⟩) := ⟨_, ix_str, fun x y G H at_ hx hy Q q => ⟨z, i, c, hx, hy, Nat.le_trans hz (by decide), h, q _ G H (Same.refl _) at_ rfl⟩⟩
theorem bop_addS (hz : z.length + y.length ≤ 100000) : Bop F w (binaryOp .Add) (rStr z) (rStr y) (rStr (z ++ y)) := bop_of op_add_str fun _ _ q => ⟨z, y, rfl, rfl, Nat.le_trans hz (by decide), q⟩
theorem bop_eqS : Bop F w (compareOp .Eq) (rStr z) (rStr y) (rBool (decide (z = y))) := by
  have e : decide (V.str z = V.str y) = decide (z = y) := decide_eq_decide.mpr ⟨V.str.inj, fun h => by rw [h]⟩
  rw [← e]
  exact bop_eq rfl
theorem bop_neS : Bop F w (compareOp .NotEq) (rStr z) (rStr y) (rBool (!decide (z = y))) := by
  have e : decide (V.str z = V.str y) = decide (z = y) := decide_eq_decide.mpr ⟨V.str.inj, fun h => by rw [h]⟩
  rw [← e]
  exact bop_ne rfl
theorem bop_inC {c : Nat} : Bop F w (compareOp .In) (rStr ⟨#[c]⟩) (rStr z) (rBool (decide (c ∈ z.cps.toList))) := bop_of op_inS fun _ _ q => ⟨c, z, rfl, rfl, q⟩
theorem bop_cat (hz : Rs.length + Ss.length ≤ 100000) : Bop F w (binaryOp .Add) (rLst Rs) (rLst Ss) (rLst (Rs ++ Ss)) := ⟨_, op_cat, fun x y G H at_ hx hy Q q => by
  obtain ⟨l, vs, rfl, e1, e2⟩ := hx
  obtain ⟨m, ws, rfl, e3, e4⟩ := hy
  refine ⟨l, m, vs, ws, rfl, rfl, at_.gh _ _ e1, at_.gh _ _ e3, Nat.le_trans (by rw [← e2.len, ← e4.len]; exact hz) (by decide), fun p hp => ?_⟩
  have st := Step.new (o := .lst (vs ++ ws)) at_.gh hp
  exact q _ _ _ st.gg (at_.step st) ⟨p, _, rfl, upd_same, (e2.app e4).up st.gg⟩⟩
theorem cop_all {bs : List Bool} (hc : F.X.calm = true) : Cop F w (.builtin "all") [rLst (bs.map rBool)] (rBool (bs.all _root_.id)) := ⟨_, cr_all hc, fun xs G H at_ hx Q q => by
  obtain ⟨x, rfl, p, vs, rfl, h1, h2⟩ := all1 hx
  have e : vs = bs.map V.bl := all2_vals (H := G) (by rw [List.map_map]; exact h2)
  rw [e] at h1
  exact ⟨p, bs, rfl, SqL.of (at_.gh _ _ h1), q _ G H (Same.refl _) at_ rfl⟩⟩
theorem cop_intS {n : Int} (h : PySem.intText? z = some n) (hz : z.length ≤ 640) : Cop F w (.type "int") [rStr z] (rInt n) := cop_of1 call_int_str fun _ _ q => ⟨z, n, rfl, h, hz, q⟩
theorem cop_listL : Cop F w (.type "list") [rLst Rs] (rLst Rs) := ⟨_, call_list_of, fun xs G H at_ hx Q q => by
  obtain ⟨x, rfl, p, vs, rfl, h1, h2⟩ := all1 hx
  refine ⟨p, vs, rfl, .inl (SqL.of (at_.gh _ _ h1)), fun l hl => ?_⟩
  have st := Step.new (o := .lst vs) at_.gh hl
  exact q _ _ _ st.gg (at_.step st) ⟨l, _, rfl, upd_same, h2.up st.gg⟩⟩
theorem cop_listT : Cop F w (.type "list") [rTup Rs] (rLst Rs) := ⟨_, call_list_of, fun xs G H at_ hx Q q => by
  obtain ⟨x, rfl, p, vs, rfl, h1, h2⟩ := all1 hx
  refine ⟨p, vs, rfl, .inr (SqT.of (at_.gh _ _ h1)), fun l hl => ?_⟩
  have st := Step.new (o := .lst vs) at_.gh hl
  exact q _ _ _ st.gg (at_.step st) ⟨l, _, rfl, upd_same, h2.up st.gg⟩⟩
theorem it_str {tg it : Expr} (he : ER F ρ ω it (rStr z) w1) : IT F ρ ω tg it (z.cps.toList.map fun c => rStr ⟨#[c]⟩) w1 := ⟨_, pi_str pe_w, fun σ G H at_ sl R k => he σ G H at_ sl _ fun v G2 H2 s a r => by
  refine ⟨z, r, k _ G2 H2 s a ⟨fun i G' H' s1 s2 hi => ?_, fun G' H' s1 s2 => ?_, fun i R G' H' x H'' s1 s2 hR y => ?_⟩⟩
  · rw [List.length_map, Array.length_toList] at hi
    exact hi
  · rw [List.length_map, Array.length_toList]
    exact Nat.le_refl _
  · obtain ⟨rfl, c, hc, rfl⟩ := y
    rw [List.getElem?_map, Array.getElem?_toList, hc] at hR
    cases hR
    exact ⟨G', Step.refl s2, rfl⟩⟩
end
/-! str(x) by an own def -/
section
variable {X : Cx} {C g k : Nat} {fd : FuncData} {ps : List Str} {sp : Sp}
end
section
variable {F : Fx} {w : Ow} {C : Addr} {k : Nat} {pre : Pre} {fs : List (Str × Rl)} {z : Str}
end
end W1
set_option maxRecDepth 100000
set_option maxHeartbeats 2000000
namespace W1
open PySem PySem.Spec PyProof.Rows L2 TL NumText

/-! ### words of digits -/
/-! cut at the slashes -/
abbrev slash : Str := Str.ofString "/"
/-! the text of a number, read -/
def numT (i : Int) : Str := Str.ofString (toString i)
end W1
set_option maxRecDepth 100000
set_option maxHeartbeats 2000000
set_option exponentiation.threshold 20000
namespace W1
open PySem PySem.Spec PyProof.Rows L2 TL NumText

/-! ### the common draws -/
theorem lt9000 {a n : Nat} (h : a < 2 ^ n) (hn : n ≤ 9000) : a < 2 ^ 9000 := Nat.lt_of_lt_of_le h (Nat.pow_le_pow_right (by decide) hn)
theorem log_lt {a n m : Nat} (h : a < 2 ^ n) (hn : n ≤ m) (hm : 0 < m) : a.log2 < m := by
  rcases Nat.eq_zero_or_pos a with e | e
  · subst e; exact hm
  · exact Nat.lt_of_lt_of_le ((Nat.log2_lt (by omega)).mpr h) hn
/-! texts and their signs -/
/-! f"{e1}..{e2}" of ints -/
section
variable {F : Fx} {ρ : Ty} {ω w w1 w2 : Ow} {a b : Expr} {i j : Int} {t : Str} {p1 p2 p3 p4 : Pos} {k : Nat} {c : Nat} {z : Str}
theorem app_empty (a : Str) : Str.empty ++ a = a := ext_tl (by rw [tl_append]; rfl)
theorem er_f3 (ha : ER F ρ ω a (rInt i) w1) (hb : ER F ρ w1 b (rInt j) w2) (hi : i.natAbs.log2 < 1920) (hj : j.natAbs.log2 < 1920) (ht : t.length ≤ 1000) : ER F ρ ω (.JoinedStr [.FormattedValue a (-1) none p1, .Constant (.str t) k p2, .FormattedValue b (-1) none p3] p4) (rStr (numT i ++ t ++ numT j)) w2 := fun σ G H at_ sl Q q => by
  have l1 := int_text_len_1921 hi
  have l2 := int_text_len_1921 hj
  refine ew_of (pe_joined (.cons (pe_fmt pe_w) (.cons pe_str (.cons (pe_fmt pe_w) .nil)))) (ha σ G H at_ sl _ fun x G1 H1 s1 a1 r1 => .inr ⟨i, r1, hi, ⟨_, rfl, ?_, t, rfl, ?_, ?_⟩⟩)
  · rw [app_empty]
    exact Nat.le_trans l1 (by decide)
  · rw [app_empty, strlen_app]
    exact Nat.le_trans (Nat.add_le_add l1 ht) (by decide)
  · refine hb σ G1 H1 a1 (sl.up s1) _ fun y G2 H2 s2 a2 r2 => .inr ⟨j, r2, hj, ⟨_, rfl, ?_, ?_⟩⟩
    · rw [app_empty, strlen_app, strlen_app]
      exact Nat.le_trans (Nat.add_le_add (Nat.add_le_add l1 ht) l2) (by decide)
    · have := q (.str (numT i ++ t ++ numT j)) G2 H2 (s1.trans s2) a2 rfl
      rw [app_empty]
      exact this
theorem bop_niC : Bop F w (compareOp .NotIn) (rStr ⟨#[c]⟩) (rStr z) (rBool (!decide (c ∈ z.cps.toList))) := bop_of op_notInS fun _ _ q => ⟨c, z, rfl, rfl, q⟩
end
section
variable {F : Fx} {w : Ow} {Rs : List Rl}
end
end W1
set_option maxRecDepth 100000
set_option maxHeartbeats 2000000
set_option exponentiation.threshold 20000
namespace W1
open PySem PySem.Spec PyProof.Rows L2 TL NumText

/-! ### dicts: owned ones change, others are frozen for good -/
def valR (fs : List (Key × Rl)) (k : Key) : Option Rl := (fs.find? fun kv => decide (kv.1 = k)).map (·.2)
def putKR (fs : List (Key × Rl)) (k : Key) (R : Rl) : List (Key × Rl) := if (fs.any fun kv => decide (kv.1 = k)) = true then fs.map (fun kv => if kv.1 = k then (kv.1, R) else kv) else fs ++ [(k, R)]
theorem NR.val {k : Key} {H : Hp} : ∀ {fs : List (Key × Rl)} {vs : List (Key × V)}, NR fs vs H → (∀ R, valR fs k = some R → ∃ v, valV vs k = some v ∧ R.r v H) ∧ (valR fs k = none → valV vs k = none)
  | [], [], _ => ⟨fun R e => (by cases e), fun _ => rfl⟩
  | (j, S) :: fs, (j', v) :: vs, ⟨e, a, b⟩ => by
    subst e
    have ih := NR.val (k := k) b
    unfold valR valV at *
    rw [List.find?_cons, List.find?_cons]
    by_cases h : j = k
    · simp only [h, decide_true]
      refine ⟨fun R e => ⟨v, rfl, ?_⟩, fun e => (by cases e)⟩
      cases e
      exact a
    · simp only [h, decide_false]
      exact ih
  | [], _ :: _, h => h.elim
  | _ :: _, [], h => h.elim
theorem NR.any {k : Key} {H : Hp} : ∀ {fs : List (Key × Rl)} {vs : List (Key × V)}, NR fs vs H → (fs.any fun kv => decide (kv.1 = k)) = (vs.any fun kv => decide (kv.1 = k))
  | [], [], _ => rfl
  | (j, S) :: fs, (j', v) :: vs, ⟨e, a, b⟩ => by
    subst e
    rw [List.any_cons, List.any_cons, NR.any b]
  | [], _ :: _, h => h.elim
  | _ :: _, [], h => h.elim
theorem NR.app {κ : Type} {H : Hp} : ∀ {fs gs : List (κ × Rl)} {vs ws : List (κ × V)}, NR fs vs H → NR gs ws H → NR (fs ++ gs) (vs ++ ws) H
  | [], _, [], _, _, h => h
  | (_, _) :: _, _, (_, _) :: _, _, ⟨e, a, b⟩, h => ⟨e, a, NR.app b h⟩
  | [], _, _ :: _, _, h, _ => h.elim
  | _ :: _, _, [], _, h, _ => h.elim
theorem NR.putK {k : Key} {R : Rl} {v : V} {H : Hp} {fs : List (Key × Rl)} {vs : List (Key × V)} (h : NR fs vs H) (r : R.r v H) : NR (putKR fs k R) (L2.putK vs k v) H := by
  unfold putKR L2.putK
  rw [h.any]
  split
  · have go : ∀ {fs : List (Key × Rl)} {vs : List (Key × V)}, NR fs vs H → NR (fs.map fun kv => if kv.1 = k then (kv.1, R) else kv) (vs.map fun kv => if kv.1 = k then (kv.1, v) else kv) H := by
      intro fs
      induction fs with
      | nil =>
        intro vs h
        cases vs with
        | nil => exact trivial
        | cons _ _ => exact h.elim
      | cons x fs ih =>
        intro vs h
        cases vs with
        | nil => exact h.elim
        | cons y vs =>
          obtain ⟨j, S⟩ := x
          obtain ⟨j', u⟩ := y
          obtain ⟨e, a, b⟩ := h
          subst e
          rw [List.map_cons, List.map_cons]
          by_cases hj : j = k
          · simp only [hj, if_true]
            exact ⟨rfl, r, ih b⟩
          · simp only [hj, if_false]
            exact ⟨rfl, a, ih b⟩
    exact go h
  · exact h.app ⟨rfl, r, trivial⟩
theorem NR.keys {κ : Type} {H : Hp} : ∀ {fs : List (κ × Rl)} {vs : List (κ × V)}, NR fs vs H → vs.map (·.1) = fs.map (·.1)
  | [], [], _ => rfl
  | (j, S) :: fs, (j', v) :: vs, ⟨e, a, b⟩ => by
    subst e
    rw [List.map_cons, List.map_cons, NR.keys b]
  | [], _ :: _, h => h.elim
  | _ :: _, [], h => h.elim
def oD (fs : List (Key × Rl)) : Ol := ⟨fun o G => ∃ vs, o = .dK vs ∧ NR fs vs G, fun _ _ _ e ⟨vs, a, b⟩ => ⟨vs, a, b.up e⟩⟩
def rDct (fs : List (Key × Rl)) : Rl := ⟨fun v H => ∃ p od vs, v = .ref p ∧ H p = some (.frz od (.dK vs)) ∧ NR fs vs H, fun _ _ _ e ⟨p, od, vs, a, b, c⟩ => ⟨p, od, vs, a, e _ _ b, c.up e⟩⟩
/-- an owned one that is being walked -/
def oDF (fs : List (Key × Rl)) : Ol := ⟨fun o G => ∃ od vs, o = .frz od (.dK vs) ∧ NR fs vs G, fun _ _ _ e ⟨od, vs, a, b⟩ => ⟨od, vs, a, b.up e⟩⟩
/-- a dict that can be read -/
def IsDct (F : Fx) (A : Rl) (ω : Ow) (fs : List (Key × Rl)) : Prop := ∀ v G H, At F ω G H → A.r v G → ∃ p vs, v = .ref p ∧ Rd H p (.dK vs) ∧ NR fs vs G
theorem isd_frz {F : Fx} {ω : Ow} {fs : List (Key × Rl)} : IsDct F (rDct fs) ω fs := fun v G H at_ ⟨p, od, vs, e, h1, h2⟩ => ⟨p, vs, e, .inr ⟨od, at_.gh _ _ h1⟩, h2⟩
theorem isd_own {F : Fx} {ω : Ow} {fs : List (Key × Rl)} {q : Addr} (h : (q, oD fs) ∈ ω) : IsDct F (rRef q) ω fs := fun v G H at_ e => by
  obtain ⟨_, _, o, h1, vs, rfl, h2⟩ := at_.ow _ h
  exact ⟨q, vs, e, .inl h1, h2⟩
theorem isd_ownF {F : Fx} {ω : Ow} {fs : List (Key × Rl)} {q : Addr} (h : (q, oDF fs) ∈ ω) : IsDct F (rRef q) ω fs := fun v G H at_ e => by
  obtain ⟨_, _, o, h1, od, vs, rfl, h2⟩ := at_.ow _ h
  exact ⟨q, vs, e, .inr ⟨od, h1⟩, h2⟩
/-- the keys, as values -/
def kRs (fs : List (Key × Rl)) : List Rl := fs.map fun kv => rEqV (kV kv.1)
section
variable {X : Cx} {e : Expr} {st : List Stmt} {σ : L2.St} {H : Hp} {d : Addr} {u : HO} {D : Ends} {Q : VK}
theorem bw_lock (h : H d = some u) (mu : Mut (some u)) (k : ∀ od, BW X st D σ (upd H d (.frz od u))) : BW X st D σ H := fun pins s I => by
  obtain ⟨od, I1⟩ := I.lock h mu
  exact k od pins s I1
/-- what is made is frozen -/
theorem ew_lock (k : EW X e σ H fun v H1 => ∃ p u, v = .ref p ∧ H1 p = some u ∧ Mut (some u) ∧ ∀ od, Q v (upd H1 p (.frz od u))) : EW X e σ H Q := fun pins s I => by
  refine thn (k pins s I) fun v s1 ⟨x, H1, I1, r1, p, u, e1, e2, mu, q⟩ => ?_
  obtain ⟨od, I2⟩ := I1.lock e2 mu
  exact ⟨x, _, I2, r1, q od⟩
end
theorem At.pubF {F : Fx} {q : Addr} {O : Ol} {w : Ow} {G H : Hp} {o : HO} {od : Obj} (a : At F ((q, O) :: w) G H) (ho : H q = some o) (hq : F.H0 q = none) : At F w (upd G q (.frz od o)) (upd H q (.frz od o)) := by
  have hg : G q = none := (a.ow _ List.mem_cons_self).1
  have sg : Same G (upd G q (.frz od o)) := fun b u e => by rw [upd_ne (ne_of_none e hg)]; exact e
  have nd := List.nodup_cons.mp a.nd
  refine ⟨a.gg.trans sg, fun b u hb e => ?_, fun b u e => ?_, fun b h1 h2 => ?_, fun b hb => ?_, fun p hp => ?_, nd.2⟩
  · rw [upd_ne (fun z => by rw [z, hq] at e; cases e)]
    exact a.hh b u hb e
  · by_cases hb : b = q
    · subst hb
      rw [upd_same] at e ⊢
      exact e
    · rw [upd_ne hb] at e ⊢
      exact a.gh _ _ e
  · rw [upd_ne (fun z => h1 (by rw [z]; exact hq))]
    exact a.fr b h1 h2
  · by_cases z : b = q
    · rw [z, upd_same]; simp
    · rw [upd_ne z]; exact a.mm b hb
  · obtain ⟨x, y, u, z, c⟩ := a.ow p (List.mem_cons_of_mem _ hp)
    have ne : p.1 ≠ q := fun z => nd.1 (List.mem_map.mpr ⟨p, hp, z⟩)
    exact ⟨by rw [upd_ne ne]; exact x, y, u, by rw [upd_ne ne]; exact z, p.2.mo _ _ _ sg c⟩
section
variable {F : Fx} {ρ ρ1 : Ty} {ω w w1 w2 w3 : Ow} {e o ix a b : Expr} {A R S : Rl} {Rs : List Rl} {O : Ol} {pos p apos p2 : Pos} {K : Kn} {rest : List Stmt} {q : Addr} {fs : List (Key × Rl)} {k : Key} {n : Nat}
theorem hb_pubD (i : Nat) (hi : ρ[i]? = some (some (rRef q))) (hM : q ∉ F.M) (h : HB F (ρ.set i (some (rDct fs))) w rest K) : HB F ρ ((q, oD fs) :: w) rest K := fun σ G H D at_ sl ps => by
  obtain ⟨hg0, _, o, h1, vs, rfl, h2⟩ := at_.ow _ List.mem_cons_self
  refine bw_lock h1 True.intro fun od => ?_
  have a := at_.pubF (od := od) h1 (At.own0 at_ hM)
  have sg : Same G (upd G q (.frz od (.dK vs))) := fun b u e => by rw [upd_ne (ne_of_none e hg0)]; exact e
  obtain ⟨v, hv, rv⟩ := sl.at_ i _ hi
  cases (show v = V.ref q from rv)
  have sl2 := (sl.up sg).set i (R := rDct fs) (v := .ref q) ⟨q, od, vs, rfl, upd_same, h2.up sg⟩
  have e : σ.set i (some (V.ref q)) = σ := by
    refine List.ext_getElem? fun j => ?_
    by_cases hj : i = j
    · subst hj
      rw [hv]
      exact List.getElem?_set_self (by
        cases Nat.lt_or_ge i σ.length with
        | inl z => exact z
        | inr z => rw [List.getElem?_eq_none z] at hv; cases hv)
    · rw [List.getElem?_set_ne hj]
  rw [e] at sl2
  exact h σ _ _ D a sl2 (ps.up sg)
/-- {} -/
theorem en_dict : EN F ρ ω (.Dict [] [] pos) (oD []) ω := fun σ G H at_ sl Q k =>
  ew_of pe_dnewK fun p hp => k p G _ (fun hm => at_.mm p hm hp) (Same.refl _) (at_.own hp ⟨[], rfl, trivial⟩)
/-- {}, to stay so -/
theorem er_dict0 : ER F ρ ω (.Dict [] [] pos) (rDct []) ω := fun σ G H at_ sl Q k =>
  ew_lock (ew_of pe_dnewK fun p hp => ⟨p, _, rfl, upd_same, True.intro, fun od => by
    rw [upd_upd]
    have st := Step.new (o := .frz od (.dK [])) at_.gh hp
    exact k _ _ _ st.gg (at_.step st) ⟨p, od, [], rfl, upd_same, trivial⟩⟩)
/-- d[k] = e -/
theorem hb_dput (he : ER F ρ ω e R w1) (ho : ER F ρ w1 o (rRef q) w2) (hi : ER F ρ w2 ix (rEqV (kV k)) ((q, oD fs) :: w3)) (hr : Room n F.X.A) (hz : fs.length ≤ 100000) (h : HB F ρ ((q, oD (putKR fs k R)) :: w3) rest K)
    (hs : swapsWith e (some (.Subscript o ix p2)) pos.line F.X.env = pure false := by rfl) : HB F ρ ω (.Assign [.Subscript o ix p2] e pos :: rest) K := hb_cons fun σ G H D at_ sl ps => by
  refine sw_of (ps_dput (by have := hr.units; omega) pe_w pe_w pe_w hs) (he σ G H at_ sl _ fun v G1 H1 s1 a1 r1 => ho σ G1 H1 a1 (sl.up s1) _ fun x G2 H2 s2 a2 r2 => hi σ G2 H2 a2 ((sl.up s1).up s2) _ fun y G3 H3 s3 a3 r3 => ?_)
  obtain ⟨_, _, ob, h1', vs, e1, h2⟩ := a3.ow _ List.mem_cons_self
  subst e1
  have s13 := (s1.trans s2).trans s3
  exact ⟨q, _, r2, .inl ⟨vs, k, h1', r3, Nat.lt_of_le_of_lt (by rw [← h2.len]; exact hz) (by decide), rfl⟩, h σ G3 _ D (a3.chg ⟨_, rfl, h2.putK (R.mo _ _ _ (s2.trans s3) r1)⟩) (sl.up s13) (ps.up s13)⟩
/-- d[k] -/
theorem er_dget (ho : ER F ρ ω o A w1) (hi : ER F ρ w1 ix (rEqV (kV k)) w2) (hd : IsDct F A w2 fs) (hR : valR fs k = some R) (hr : Room n F.X.A) (hs : NoSl ix := by exact fun _ _ => rfl) : ER F ρ ω (.Subscript o ix pos) R w2 := fun σ G H at_ sl Q z => by
  refine ew_of (pe_dget (by have := hr.units; omega) pe_w pe_w hs) (ho σ G H at_ sl _ fun x G1 H1 s1 a1 r1 => hi σ G1 H1 a1 (sl.up s1) _ fun y G2 H2 s2 a2 r2 => ?_)
  obtain ⟨p, vs, rfl, h1, h2⟩ := hd x G2 H2 a2 (A.mo _ _ _ s2 r1)
  obtain ⟨v, e1, e2⟩ := (h2.val (k := k)).1 R hR
  exact ⟨p, v, rfl, .inl ⟨vs, k, h1, r2, e1.symm⟩, z v G2 H2 (s1.trans s2) a2 e2⟩
/-- d.get(k, e) -/
theorem er_dget2 (ho : ER F ρ ω o A w1) (hi : ER F ρ w1 a (rEqV (kV k)) w2) (he : ER F ρ w2 b S w3) (hd1 : IsDct F A w1 fs) (hd : IsDct F A w3 fs) (hr : Room n F.X.A) (m : M2 F.X o "get" apos a b pos := by exact ⟨rfl, rfl, rfl, rfl⟩) : ER F ρ ω (.Call (.Attribute o "get" apos) [a, b] [] pos) ((valR fs k).getD S) w3 := fun σ G H at_ sl Q z => by
  refine ew_of (pe_dget2 (by have := hr.units; omega) pe_w pe_w pe_w m) (ho σ G H at_ sl _ fun x G1 H1 s1 a1 r1 => ?_)
  obtain ⟨p0, vs0, rfl, h0, _⟩ := hd1 x G1 H1 a1 r1
  refine ⟨p0, rfl, .inl ⟨vs0, h0⟩, hi σ G1 H1 a1 (sl.up s1) _ fun y G2 H2 s2 a2 r2 => he σ G2 H2 a2 ((sl.up s1).up s2) _ fun c G3 H3 s3 a3 r3 => ?_⟩
  have s23 := s2.trans s3
  obtain ⟨p, vs, e0, h1, h2⟩ := hd _ G3 H3 a3 (A.mo _ _ _ s23 r1)
  cases e0
  refine ⟨valV vs k, .inl ⟨vs, k, h1, r2, rfl⟩, ?_⟩
  cases e : valR fs k with
  | some R =>
    obtain ⟨v, e1, e2⟩ := (h2.val (k := k)).1 R e
    rw [e1]
    rw [e] at z
    exact z v G3 H3 (s1.trans s23) a3 e2
  | none =>
    rw [(h2.val (k := k)).2 e]
    rw [e] at z
    exact z c G3 H3 (s1.trans s23) a3 r3
/-- list(d) -/
theorem kvals {H : Hp} : ∀ {fs : List (Key × Rl)} {vs : List (Key × V)}, NR fs vs H → All2 (kRs fs) (vs.map fun kv => kV kv.1) H
  | [], [], _ => trivial
  | (j, S) :: fs, (j', v) :: vs, ⟨e, a, b⟩ => by
    subst e
    exact ⟨rfl, kvals b⟩
  | [], _ :: _, h => h.elim
  | _ :: _, [], h => h.elim
theorem cop_listD (hc : F.X.calm = true) (hd : IsDct F A w fs) : Cop F w (.type "list") [A] (rLst (kRs fs)) := ⟨_, call_listD hc, fun xs G H at_ hx Q z => by
  obtain ⟨x, rfl, hx1⟩ := all1 hx
  obtain ⟨p, vs, rfl, h1, h2⟩ := hd x G H at_ hx1
  refine ⟨p, vs, rfl, h1, fun l hl => ?_⟩
  have st := Step.new (o := .lst (vs.map fun kv => kV kv.1)) at_.gh hl
  exact z _ _ _ st.gg (at_.step st) ⟨l, _, rfl, upd_same, (kvals h2).up st.gg⟩⟩
/-- for k in d -/
theorem it_keys {tg it : Expr} (he : ER F ρ ω it (rDct fs) w1) : IT F ρ ω tg it (kRs fs) w1 := ⟨_, pi_keys pe_w, fun σ G H at_ sl R k => he σ G H at_ sl _ fun v G2 H2 s a r => by
  obtain ⟨p, od, vs, rfl, h1, h2⟩ := r
  have hl : (kRs fs).length = vs.length := by unfold kRs; rw [List.length_map, h2.len]
  refine ⟨p, od, rfl, .inl ⟨vs, a.gh _ _ h1, k _ G2 H2 s a ⟨fun i G' H' s1 s2 hi => ?_, fun G' H' s1 s2 => ?_, fun i R G' H' x H'' s1 s2 hR y => ?_⟩⟩⟩
  · exact ⟨s2 _ _ (s1 _ _ h1), by rw [← hl]; exact hi⟩
  · rw [hl]
    exact ⟨s2 _ _ (s1 _ _ h1), Nat.le_refl _⟩
  · have hi : i < (kRs fs).length := (List.getElem?_eq_some_iff.mp hR).1
    obtain ⟨rfl, kk, vv, e1, rfl⟩ := y
    have e2 := (kvals h2).get hR
    obtain ⟨u, e3, e4⟩ := e2
    rw [List.getElem?_map, e1] at e3
    cases e3
    exact ⟨G', Step.refl s2, R.mo _ _ _ s1 e4⟩⟩
end
end W1
set_option maxRecDepth 100000
set_option maxHeartbeats 2000000
set_option exponentiation.threshold 20000
namespace W1
open PySem PySem.Spec PyProof.Rows L2 TL NumText

/-! ### new things, to stay as they are -/
section
variable {F : Fx} {ρ : Ty} {ω w w1 : Ow} {e : Expr} {fs : List (Key × Rl)} {Rs : List Rl}
/-- a new dict is frozen -/
theorem er_frz (h : EN F ρ ω e (oD fs) w1) : ER F ρ ω e (rDct fs) w1 := fun σ G H at_ sl Q z =>
  ew_lock (h σ G H at_ sl _ fun q G2 H2 hM s2 a2 => by
    obtain ⟨hg0, _, o, h1, vs, rfl, h2⟩ := a2.ow _ List.mem_cons_self
    refine ⟨q, _, rfl, h1, True.intro, fun od => ?_⟩
    have sg : Same G2 (upd G2 q (.frz od (.dK vs))) := fun b u e => by rw [upd_ne (ne_of_none e hg0)]; exact e
    exact z _ _ _ (s2.trans sg) (a2.pubF (od := od) h1 (At.own0 a2 hM)) ⟨q, od, vs, rfl, upd_same, h2.up sg⟩)
/-- a new list is published -/
theorem er_pubL (h : EN F ρ ω e (oL Rs) w1) : ER F ρ ω e (rLst Rs) w1 := fun σ G H at_ sl Q z =>
  h σ G H at_ sl _ fun q G2 H2 hM s2 a2 => by
    obtain ⟨hg0, _, o, h1, vs, rfl, h2⟩ := a2.ow _ List.mem_cons_self
    have sg : Same G2 (upd G2 q (.lst vs)) := fun b u e => by rw [upd_ne (ne_of_none e hg0)]; exact e
    exact z _ _ _ (s2.trans sg) (At.pub a2 h1 (At.own0 a2 hM)) ⟨q, vs, rfl, upd_same, h2.up sg⟩
end
/-! ### dict comprehensions -/
def dcR {α : Type} (kf : α → Key) (B : α → Rl) (xs : List α) : List (Key × Rl) := xs.foldl (fun acc a => putKR acc (kf a) (B a)) []
theorem putKR_len (fs : List (Key × Rl)) (k : Key) (R : Rl) : (putKR fs k R).length ≤ fs.length + 1 := by
  unfold putKR
  split
  · rw [List.length_map]; omega
  · rw [List.length_append]; simp
theorem dcR_snoc {α : Type} (kf : α → Key) (B : α → Rl) (xs : List α) (a : α) : dcR kf B (xs ++ [a]) = putKR (dcR kf B xs) (kf a) (B a) := by
  unfold dcR
  rw [List.foldl_append]
  rfl
theorem fold_putKR_len {α : Type} (kf : α → Key) (B : α → Rl) : ∀ (xs : List α) (acc : List (Key × Rl)), (xs.foldl (fun acc a => putKR acc (kf a) (B a)) acc).length ≤ acc.length + xs.length
  | [], acc => by simp
  | a :: xs, acc => by
    rw [List.foldl_cons, List.length_cons]
    have h1 := fold_putKR_len kf B xs (putKR acc (kf a) (B a))
    have h2 := putKR_len acc (kf a) (B a)
    omega
theorem dcR_len {α : Type} (kf : α → Key) (B : α → Rl) (xs : List α) : (dcR kf B xs).length ≤ xs.length := by
  have := fold_putKR_len kf B xs []
  simpa [dcR] using this
section
variable {F : Fx} {ρ : Ty} {ω w1 : Ow} {tg it kx vx c : Expr} {pos spos : Pos} {scope : Scope} {own : List (Str × Nat)} {g : TG} {ifs : List Expr} {α : Type}
theorem dc_gen {xs : List α} {A B : α → Rl} {kf : α → Key} {p : α → Bool} {wi : TI} {tt : TT} {ρ' : α → Ty}
    (hwi : ∀ σ G H, At F ω G H → Slots ρ σ G → ∀ R : It → Hp → Prop, (∀ J G2 H2, Same G G2 → At F w1 G2 H2 → Yld J (xs.map A) G2 → R J H2) → wi σ H R) (hz : xs.length ≤ 100000)
    (hge : ∀ (i : Nat) a, xs[i]? = some a → GEw g (own.map (·.2)) ρ (A a) (ρ' a))
    (htt : ∀ (i : Nat) a, xs[i]? = some a → ∀ d σ2 G H, At F (d :: w1) G H → Slots (ρ' a) σ2 G → ∀ Q : Bool → Hp → Prop, (∀ G3 H3, Same G G3 → At F (d :: w1) G3 H3 → Q (p a) H3) → tt σ2 H Q)
    (hk : ∀ (i : Nat) a, xs[i]? = some a → p a = true → ∀ s H0 C cl fp d, ER (blkF F s H0 scope C cl fp) (ρ' a) (d :: w1) kx (rEqV (kV (kf a))) (d :: w1))
    (he : ∀ (i : Nat) a, xs[i]? = some a → p a = true → ∀ s H0 C cl fp d, ER (blkF F s H0 scope C cl fp) (ρ' a) (d :: w1) vx (B a) (d :: w1))
    {σ : L2.St} {G H : Hp} (at_ : At F ω G H) (sl : Slots ρ σ G) {Q : VK} (q : ∀ D G2 H2, D ∉ F.M → Same G G2 → At F ((D, oD (dcR kf B (xs.filter p))) :: w1) G2 H2 → Q (.ref D) H2) :
    tDc wi g tt (fun σ H Q => ∀ s H0 C cl fp, EW (F.X.blk s H0 scope (compEnvC scope cl C F.X.env) fp) kx σ H Q) (fun σ H Q => ∀ s H0 C cl fp, EW (F.X.blk s H0 scope (compEnvC scope cl C F.X.env) fp) vx σ H Q) (own.map (·.2)) σ H Q := by
  refine hwi σ G H at_ sl _ fun J G2 H2 s2 a2 y2 => fun D hD => ?_
  have hM : D ∉ F.M := fun hm => a2.mm D hm hD
  refine ⟨fun i m H => m = xs.length - i ∧ i ≤ xs.length ∧ ∃ G, At F ((D, oD (dcR kf B ((xs.take i).filter p))) :: w1) G H ∧ Same G2 G, ⟨xs.length, by simp, Nat.zero_le _, G2, a2.own hD ⟨[], rfl, trivial⟩, Same.refl _⟩, ?_⟩
  rintro i m H1 ⟨rfl, hi, G1, a1, s1⟩
  have hlen : (xs.map A).length = xs.length := List.length_map _
  by_cases hlt : i < xs.length
  · have hgo : xs[i]? = some xs[i] := List.getElem?_eq_getElem hlt
    have htake : xs.take (i + 1) = xs.take i ++ [xs[i]] := by rw [List.take_add_one, hgo]; rfl
    refine .inr ⟨y2.go i G1 H1 s1 a1.gh (by rw [hlen]; exact hlt), fun H' => ∃ G, At F ((D, oD (dcR kf B ((xs.take (i + 1)).filter p))) :: w1) G H' ∧ Same G2 G, fun H' z => ⟨xs.length - (i + 1), by omega, rfl, hlt, z⟩, fun x H' y => ?_⟩
    obtain ⟨G3, st, rx⟩ := y2.yld i (A xs[i]) G1 H1 x H' s1 a1.gh (by rw [List.getElem?_map, hgo]; rfl) y
    have a3 := a1.step st
    have s3 := s1.trans st.gg
    refine hge i _ hgo x σ G3 H' _ a3.gh ((sl.up s2).up s3) rx fun σ2 hw sl2 => ⟨hw, htt i _ hgo _ σ2 G3 H' a3 sl2 _ fun G4 H4 s4 a4 => ?_⟩
    cases hp : p xs[i] with
    | false =>
      refine iteF ⟨G4, ?_, s3.trans s4⟩
      rw [htake, List.filter_append, List.filter_cons, hp]
      simp only [Bool.false_eq_true, if_false, List.filter_nil, List.append_nil]
      exact a4
    | true =>
      refine iteT fun s H0 C cl fp => hk i _ hgo hp s H0 C cl fp _ σ2 G4 H4 a4.to (sl2.up s4) _ fun y G5 H5 s5 a5 r5 => fun s' H0' C' cl' fp' => he i _ hgo hp s' H0' C' cl' fp' _ σ2 G5 H5 (At.to (F := blkF F s H0 scope C cl fp) a5) ((sl2.up s4).up s5) _ fun v G6 H6 s6 a6' r6 => ?_
      have a6 : At F ((D, oD (dcR kf B ((xs.take i).filter p))) :: w1) G6 H6 := a6'.to
      obtain ⟨_, _, o, h1, vs, rfl, h2⟩ := a6.ow _ List.mem_cons_self
      have hl2 : vs.length ≤ xs.length := by
        rw [← h2.len]
        refine Nat.le_trans (dcR_len _ _ _) (Nat.le_trans (List.length_filter_le _ _) ?_)
        rw [List.length_take]
        omega
      refine ⟨vs, kf xs[i], r5, h1, Nat.lt_of_le_of_lt (Nat.le_trans hl2 hz) (by decide), G6, ?_, ((s3.trans s4).trans s5).trans s6⟩
      rw [htake, List.filter_append, List.filter_cons, hp]
      simp only [if_true, List.filter_nil]
      rw [dcR_snoc]
      exact a6.chg ⟨_, rfl, h2.putK r6⟩
  · have e : i = xs.length := by omega
    subst e
    refine .inl ⟨by have := y2.stop G1 H1 s1 a1.gh; rw [hlen] at this; exact this, ?_⟩
    rw [List.take_length] at a1
    exact q D G1 H1 hM (s2.trans s1) a1
/-- {k: v for tg in it if c} -/
theorem en_dcf {xs : List α} {A B : α → Rl} {kf : α → Key} {p : α → Bool} {ρ' : α → Ty} (hit : IT F ρ ω tg it (xs.map A) w1) (hz : xs.length ≤ 100000) (own : List (Str × Nat)) (ok : BlkOk F.X.N F.X.env.scope scope own)
    (hpg : ∀ (s : Shared) (H : Hp) (C : Addr) (cl : List (Str × Addr)) (fp : List Addr), PG (F.X.blk s H scope (compEnvC scope cl C F.X.env) fp) tg g) (hge : ∀ (i : Nat) a, xs[i]? = some a → GEw g (own.map (·.2)) ρ (A a) (ρ' a))
    (ht : ∀ (i : Nat) a, xs[i]? = some a → ∀ s H0 C cl fp d, TR (blkF F s H0 scope C cl fp) (ρ' a) (d :: w1) c (p a) (d :: w1))
    (hk : ∀ (i : Nat) a, xs[i]? = some a → p a = true → ∀ s H0 C cl fp d, ER (blkF F s H0 scope C cl fp) (ρ' a) (d :: w1) kx (rEqV (kV (kf a))) (d :: w1))
    (he : ∀ (i : Nat) a, xs[i]? = some a → p a = true → ∀ s H0 C cl fp d, ER (blkF F s H0 scope C cl fp) (ρ' a) (d :: w1) vx (B a) (d :: w1))
    (hN : F.X.N.Nodup) (hc : F.X.calm = true := by rfl) (hs : ∀ z, foldedSetIterable it F.X.env z = pure z := by intro _; rfl) : EN F ρ ω (.DictComp kx vx [⟨tg, it, [c], 0⟩] scope pos) (oD (dcR kf B (xs.filter p))) w1 := fun σ G H at_ sl Q q => by
  obtain ⟨wi, hpi, hwi⟩ := hit
  refine ew_of (pe_dc hc hN hpi ok hpg (fun _ _ _ _ _ => pts_one (t := fun σ H Q => ∀ s H0 C cl fp, TW (F.X.blk s H0 scope (compEnvC scope cl C F.X.env) fp) c σ H Q) ⟨fun pins s σ H Q I h => h _ _ _ _ _ pins s I⟩) (tk := fun σ H Q => ∀ s H0 C cl fp, EW (F.X.blk s H0 scope (compEnvC scope cl C F.X.env) fp) kx σ H Q) (fun _ _ _ _ _ => ⟨fun pins s σ H Q I h => h _ _ _ _ _ pins s I⟩) (tv := fun σ H Q => ∀ s H0 C cl fp, EW (F.X.blk s H0 scope (compEnvC scope cl C F.X.env) fp) vx σ H Q) (fun _ _ _ _ _ => ⟨fun pins s σ H Q I h => h _ _ _ _ _ pins s I⟩) hs) ?_
  exact dc_gen hwi hz hge (fun i a h d σ2 G H a1 s1 Q q => fun s H0 C cl fp => ht i a h s H0 C cl fp d σ2 G H a1.to s1 Q fun G3 H3 s3 a3 => q G3 H3 s3 a3.to) (fun i a h hp => hk i a h hp) (fun i a h hp => he i a h hp) at_ sl q
/-- {k: v for tg in it} -/
theorem en_dc {xs : List α} {A B : α → Rl} {kf : α → Key} {ρ' : α → Ty} (hit : IT F ρ ω tg it (xs.map A) w1) (hz : xs.length ≤ 100000) (own : List (Str × Nat)) (ok : BlkOk F.X.N F.X.env.scope scope own)
    (hpg : ∀ (s : Shared) (H : Hp) (C : Addr) (cl : List (Str × Addr)) (fp : List Addr), PG (F.X.blk s H scope (compEnvC scope cl C F.X.env) fp) tg g) (hge : ∀ (i : Nat) a, xs[i]? = some a → GEw g (own.map (·.2)) ρ (A a) (ρ' a))
    (hk : ∀ (i : Nat) a, xs[i]? = some a → ∀ s H0 C cl fp d, ER (blkF F s H0 scope C cl fp) (ρ' a) (d :: w1) kx (rEqV (kV (kf a))) (d :: w1))
    (he : ∀ (i : Nat) a, xs[i]? = some a → ∀ s H0 C cl fp d, ER (blkF F s H0 scope C cl fp) (ρ' a) (d :: w1) vx (B a) (d :: w1))
    (hN : F.X.N.Nodup) (hc : F.X.calm = true := by rfl) (hs : ∀ z, foldedSetIterable it F.X.env z = pure z := by intro _; rfl) : EN F ρ ω (.DictComp kx vx [⟨tg, it, [], 0⟩] scope pos) (oD (dcR kf B xs)) w1 := fun σ G H at_ sl Q q => by
  obtain ⟨wi, hpi, hwi⟩ := hit
  refine ew_of (pe_dc hc hN hpi ok hpg (fun _ _ _ _ _ => pts_nil) (tk := fun σ H Q => ∀ s H0 C cl fp, EW (F.X.blk s H0 scope (compEnvC scope cl C F.X.env) fp) kx σ H Q) (fun _ _ _ _ _ => ⟨fun pins s σ H Q I h => h _ _ _ _ _ pins s I⟩) (tv := fun σ H Q => ∀ s H0 C cl fp, EW (F.X.blk s H0 scope (compEnvC scope cl C F.X.env) fp) vx σ H Q) (fun _ _ _ _ _ => ⟨fun pins s σ H Q I h => h _ _ _ _ _ pins s I⟩) hs) ?_
  refine dc_gen (p := fun _ => true) (tt := tYes) hwi hz hge (fun i a h d σ2 G H a1 s1 Q q => q G H (Same.refl _) a1) (fun i a h _ => hk i a h) (fun i a h _ => he i a h) at_ sl fun D G2 H2 hM s2 a2 => ?_
  rw [filt_true] at a2
  exact q D G2 H2 hM s2 a2
end
end W1
set_option maxRecDepth 100000
set_option maxHeartbeats 2000000
set_option exponentiation.threshold 20000
namespace W1
open PySem PySem.Spec PyProof.Rows L2 TL NumText

/-! ### names in order -/
def leS (a b : Str) : Bool := decide (tl a ≤ tl b)
def srt (xs : List Str) : List Str := xs.mergeSort leS
theorem leS_trans (a b c : Str) : leS a b = true → leS b c = true → leS a c = true := fun h1 h2 => decide_eq_true (List.le_trans (of_decide_eq_true h1) (of_decide_eq_true h2))
theorem leS_total (a b : Str) : (leS a b || leS b a) = true := by
  rw [Bool.or_eq_true]
  rcases List.le_total (tl a) (tl b) with h | h
  · exact .inl (decide_eq_true h)
  · exact .inr (decide_eq_true h)
theorem leS_anti {a b : Str} (h1 : leS a b = true) (h2 : leS b a = true) : a = b := ext_tl (List.le_antisymm (of_decide_eq_true h1) (of_decide_eq_true h2))
theorem srt_perm (xs : List Str) : (srt xs).Perm xs := List.mergeSort_perm xs leS
theorem srt_pair (xs : List Str) : (srt xs).Pairwise fun a b => leS a b = true := List.pairwise_mergeSort leS_trans leS_total xs
theorem rising_pair : ∀ (l : List Str) (p : Str), risingS p l = true → (p :: l).Pairwise fun a b => leS a b = true
  | [], p, _ => List.pairwise_cons.mpr ⟨fun _ h => (by cases h), List.Pairwise.nil⟩
  | x :: l, p, h => by
    have h' : (!PySem.Spec.ltCps x.cps.toList p.cps.toList && risingS x l) = true := h
    rw [Bool.and_eq_true] at h'
    have ih := rising_pair l x h'.2
    have e : leS p x = true := by
      have h1 : PySem.Spec.ltCps x.cps.toList p.cps.toList = false := by simpa using h'.1
      rw [ltCps_eq] at h1
      exact decide_eq_true (List.not_lt.mp (of_decide_eq_false h1))
    refine List.pairwise_cons.mpr ⟨fun y hy => ?_, ih⟩
    rcases List.mem_cons.mp hy with rfl | hy
    · exact e
    · exact leS_trans _ _ _ e ((List.pairwise_cons.mp ih).1 y hy)
theorem srt_only {xs ys : List Str} (h : ys.Perm xs) (s : sortedS ys = true) : ys = srt xs := by
  refine List.Perm.eq_of_pairwise (le := fun a b => leS a b = true) (fun a b _ _ h1 h2 => leS_anti h1 h2) ?_ (srt_pair xs) (h.trans (srt_perm xs).symm)
  cases ys with
  | nil => exact .nil
  | cons p l => exact rising_pair l p s
section
variable {F : Fx} {w : Ow} {A : Rl} {xs : List Str}
theorem cop_sortedS (hz : xs.length < 64) : Cop F w (.builtin "sorted") [rLst (xs.map rStr)] (rLst ((srt xs).map rStr)) := ⟨_, cr_sortedS, fun us G H at_ hx Q q => by
  obtain ⟨x, rfl, p, vs, rfl, h1, h2⟩ := all1 hx
  rw [str_vals h2] at h1
  refine ⟨p, xs, rfl, SqL.of (at_.gh _ _ h1), hz, fun ys l hp hs hl => ?_⟩
  rw [srt_only hp hs]
  have st := Step.new (o := .lst ((srt xs).map V.str)) at_.gh hl
  exact q _ _ _ st.gg (at_.step st) ⟨l, _, rfl, upd_same, vals_str _⟩⟩
end
end W1
set_option maxRecDepth 100000
set_option maxHeartbeats 2000000
set_option exponentiation.threshold 20000
namespace W1
open PySem PySem.Spec PyProof.Rows L2 TL NumText

/-! ### == of dicts whose values are plain -/
def deq : List (Key × V) → List (Key × V) → Bool
  | [], _ => true
  | (k, v) :: r, ls => match valV ls k with
    | none => false
    | some y => eqV v y && deq r ls
def eqD (ks ls : List (Key × V)) : Bool := decide (ks.length = ls.length) && deq ks ls
/-- a dict of plain values -/
abbrev fsV (ks : List (Key × V)) : List (Key × Rl) := ks.map fun p => (p.1, rEqV p.2)
theorem nr_vals {H : Hp} : ∀ {ks vs : List (Key × V)}, NR (fsV ks) vs H → vs = ks
  | [], [], _ => rfl
  | (k, v) :: ks, (k', u) :: vs, ⟨e, a, b⟩ => by
    rw [nr_vals b, ← e, show u = v from a]
  | [], _ :: _, h => h.elim
  | _ :: _, [], h => h.elim
theorem hits_gen {A : Around} {s : Shared} {ls : List (Key × V)} {vb : List (Key × Value)} (rb : KV ls vb) (fl : ∀ p ∈ ls, flatV p.2 = true) {ks : List (Key × V)} {va : List (Key × Value)} (ra : KV ks va) : (∀ p ∈ ks, flatV p.2 = true) → PySem.W.KeqHits A s vb va (deq ks ls) := by
  unfold KV at ra
  induction ra with
  | nil => intro _; exact .nil
  | @cons p q ps qs h t ih =>
    intro hp
    obtain ⟨h1, h2⟩ := h
    have f := hp p List.mem_cons_self
    have ih' := ih fun x hx => hp x (List.mem_cons_of_mem _ hx)
    obtain ⟨k, v⟩ := p
    obtain ⟨k', u⟩ := q
    have e : k = k' := h1
    subst e
    have rr : RelO (valV ls k) (valueAt vb k) := rb.val k
    cases e : valV ls k with
    | none =>
      rw [e] at rr
      have hn : valueAt vb k = none := by
        cases e2 : valueAt vb k with
        | none => rfl
        | some y => rw [e2] at rr; exact rr.elim
      have ed : deq ((k, v) :: ps) ls = false := by unfold deq; rw [e]
      rw [ed]
      exact .miss hn
    | some y =>
      rw [e] at rr
      obtain ⟨z, hz, rz⟩ := rr.some_of
      have ed : deq ((k, v) :: ps) ls = (eqV v y && deq ps ls) := by
        conv => lhs; unfold deq
        rw [e]
      rw [ed]
      have fy : flatV y = true := by
        unfold valV at e
        cases e3 : ls.find? fun kv => decide (kv.1 = k) with
        | none => rw [e3] at e; cases e
        | some w =>
          rw [e3] at e
          cases e
          exact fl w (List.mem_of_find?_eq_some e3)
      exact .hit hz (eqAt_V h2 rz f fy) ih'
def rEqDV : R2 := fun x y H Q => ∃ a b ks ls, x = .ref a ∧ y = .ref b ∧ Rd H a (.dK ks) ∧ Rd H b (.dK ls) ∧ (∀ p ∈ ks, flatV p.2 = true) ∧ (∀ p ∈ ls, flatV p.2 = true) ∧ Q (.bl (eqD ks ls)) H
section
variable {X : Cx}
theorem op_eqDV (hu : X.A.units < cLine) : OpR X (compareOp .Eq) rEqDV := by
  intro pins s σ H x y v u Q I rx ry h
  obtain ⟨a, b, ks, ls, rfl, rfl, ea, eb, fa, fb, q⟩ := h
  obtain rfl : v = Value.ref a := rx
  obtain rfl : u = Value.ref b := ry
  obtain ⟨_, ya, va, ra, da⟩ := dk_rd I.hok ea
  obtain ⟨_, yb, vb, rb, db⟩ := dk_rd I.hok eb
  have l1 := ra.length
  have l2 := rb.length
  exact PySem.W.keq_eq (knd := mixKind X.prog X.w) (r := deq ks ls) ya yb da db hu (fun _ => hits_gen rb fb ra fa) (fin_bl I q (by unfold eqD; rw [← l1, ← l2]; congr 1))
end
section
variable {F : Fx} {w : Ow} {A B : Rl} {ks ls : List (Key × V)} {n : Nat}
theorem bop_eqDV (ha : IsDct F A w (fsV ks)) (hb : IsDct F B w (fsV ls)) (fa : ∀ p ∈ ks, flatV p.2 = true) (fb : ∀ p ∈ ls, flatV p.2 = true) (hr : Room n F.X.A) : Bop F w (compareOp .Eq) A B (rBool (eqD ks ls)) := ⟨_, op_eqDV hr.units0, fun x y G H at_ hx hy Q q => by
  obtain ⟨a, vs, rfl, h1, h2⟩ := ha x G H at_ hx
  obtain ⟨b, ws, rfl, h3, h4⟩ := hb y G H at_ hy
  rw [nr_vals h2] at h1
  rw [nr_vals h4] at h3
  exact ⟨a, b, ks, ls, rfl, rfl, h1, h3, fa, fb, q _ G H (Same.refl _) at_ rfl⟩⟩
end
end W1
set_option maxRecDepth 100000
set_option maxHeartbeats 2000000
set_option exponentiation.threshold 20000
namespace W1
open PySem PySem.Spec PyProof.Rows L2 TL NumText

/-! ### several clauses, each with its name -/
structure AsC where
  c : Value
  i : Nat
  ts : Addr → Value → Option Addr → TS
inductive AsOk (X : Cx) : List ExceptHandler → List AsC → Prop
  | nil : AsOk X [] []
  | cons {x n : Str} {c : Value} {i : Nat} {ts : Addr → Value → Option Addr → TS} {b₀ : Stmt} {sts : List Stmt} {p p' : Pos} {hds : List ExceptHandler} {l : List AsC} (ni : X.N[i]? = some n) (lo : X.env.kindOf n = some .local) (nm : Names X x c)
      (su : ∀ (a : Addr) (oe : Obj) (cls : Value) (d : Option Addr) (pn : List (Addr × Obj)), Zc cls d oe → (∃ vs, oe.data = .fields vs) → PSs (X.suite a ((a, oe) :: pn)) (b₀ :: sts) (ts a cls d)) (r : AsOk X hds l) :
      AsOk X (.ExceptHandler (some (.Name x p)) (some n) (b₀ :: sts) p' :: hds) (⟨c, i, ts⟩ :: l)
section
variable {X : Cx} {body : List Stmt} {h₀ : ExceptHandler} {hds : List ExceptHandler} {l : List AsC} {pos : Pos} {tb : WX → TS} {W : WX}
end
end W1
set_option maxRecDepth 100000
set_option maxHeartbeats 2000000
set_option exponentiation.threshold 20000
namespace W1
open PySem PySem.Spec PyProof.Rows L2 TL NumText

/-- a clause: the class's name, the class, the slot, its name, the suite -/
structure Cla where
  x : Str
  c : Value
  i : Nat
  n : Str
  b₀ : Stmt
  sts : List Stmt
  p : Pos
  p' : Pos
def Cla.hd (z : Cla) : ExceptHandler := .ExceptHandler (some (.Name z.x z.p)) (some z.n) (z.b₀ :: z.sts) z.p'
section
variable {F : Fx} {ρ : Ty} {ω : Ow} {K : Kn} {rest body : List Stmt} {pos : Pos}
end
end W1
set_option maxRecDepth 100000
set_option maxHeartbeats 2000000
set_option exponentiation.threshold 20000
namespace W1
open PySem PySem.Spec PyProof.Rows L2 TL NumText

/-! ### what is only known to be there: opened -/
def rEx {α : Type} (A : α → Rl) : Rl := ⟨fun v H => ∃ a, (A a).r v H, fun v H H' e ⟨a, h⟩ => ⟨a, (A a).mo v H H' e h⟩⟩
def oEx {α : Type} (O : α → Ol) : Ol := ⟨fun o H => ∃ a, (O a).c o H, fun o H H' e ⟨a, h⟩ => ⟨a, (O a).mo o H H' e h⟩⟩
section
variable {F : Fx} {ρ ρ' : Ty} {ω w w1 w2 : Ow} {e a b : Expr} {R S : Rl} {K : Kn} {rest : List Stmt} {q : Addr} {O O' : Ol} {α β : Type} {pos : Pos}
theorem hb_ex {A : α → Rl} (i : Nat) (hi : ρ[i]? = some (some (rEx A))) (h : ∀ a, HB F (ρ.set i (some (A a))) ω rest K) : HB F ρ ω rest K := fun σ G H D at_ sl ps => by
  obtain ⟨v, hv, a, ha⟩ := sl.at_ i _ hi
  have sl2 := sl.set i (R := A a) (v := v) ha
  have e : σ.set i (some v) = σ := by
    refine List.ext_getElem? fun j => ?_
    by_cases hj : i = j
    · subst hj
      rw [hv]
      exact List.getElem?_set_self (by
        cases Nat.lt_or_ge i σ.length with
        | inl z => exact z
        | inr z => rw [List.getElem?_eq_none z] at hv; cases hv)
    · rw [List.getElem?_set_ne hj]
  rw [e] at sl2
  exact h a σ G H D at_ sl2 ps
/-- an owned thing, told otherwise -/
theorem At.weak (h : ∀ o G, O.c o G → O'.c o G) {G H : Hp} (a : At F ((q, O) :: w) G H) : At F ((q, O') :: w) G H := by
  refine ⟨a.gg, a.hh, a.gh, a.fr, a.mm, fun p hp => ?_, a.nd⟩
  rcases List.mem_cons.mp hp with rfl | hp
  · obtain ⟨h1, h2, o, h3, h4⟩ := a.ow (q, O) List.mem_cons_self
    exact ⟨h1, h2, o, h3, h _ _ h4⟩
  · exact a.ow p (List.mem_cons_of_mem _ hp)
theorem hb_weakO (h : ∀ o G, O.c o G → O'.c o G) (k : HB F ρ ((q, O') :: w) rest K) : HB F ρ ((q, O) :: w) rest K := fun σ G H D at_ sl ps => k σ G H D (at_.weak h) sl ps
theorem hb_exO {B : α → Ol} (h : ∀ a, HB F ρ ((q, B a) :: w) rest K) : HB F ρ ((q, oEx B) :: w) rest K := fun σ G H D at_ sl ps => by
  obtain ⟨h1, h2, o, h3, a, h4⟩ := at_.ow (q, oEx B) List.mem_cons_self
  refine h a σ G H D ⟨at_.gg, at_.hh, at_.gh, at_.fr, at_.mm, fun p hp => ?_, at_.nd⟩ sl ps
  rcases List.mem_cons.mp hp with rfl | hp
  · exact ⟨h1, h2, o, h3, h4⟩
  · exact at_.ow p (List.mem_cons_of_mem _ hp)
theorem er_exO {B : α → Ol} (h : ∀ a, ER F ρ ((q, B a) :: w) e R w1) : ER F ρ ((q, oEx B) :: w) e R w1 := fun σ G H at_ sl Q z => by
  obtain ⟨h1, h2, o, h3, a, h4⟩ := at_.ow (q, oEx B) List.mem_cons_self
  refine h a σ G H ⟨at_.gg, at_.hh, at_.gh, at_.fr, at_.mm, fun p hp => ?_, at_.nd⟩ sl Q z
  rcases List.mem_cons.mp hp with rfl | hp
  · exact ⟨h1, h2, o, h3, h4⟩
  · exact at_.ow p (List.mem_cons_of_mem _ hp)
end
end W1
set_option maxRecDepth 100000
set_option maxHeartbeats 2000000
set_option exponentiation.threshold 20000
namespace W1
open PySem PySem.Spec PyProof.Rows L2 TL NumText

/-! ### len(d), d.clear() -/
theorem call_lenR {X : Cx} : CallR X (.builtin "len") (fun xs H Q => ∃ a kvs, xs = [V.ref a] ∧ Rd H a (.dK kvs) ∧ Q (.int kvs.length) H) := by
  intro pins s σ H xs us Q I r want
  obtain ⟨a, kvs, rfl, ea, q⟩ := want
  obtain ⟨u, rfl, ru⟩ := vals1 r
  cases ru
  exact d_len I ea fun t s' I' => ⟨.int kvs.length, H, I', ⟨t, rfl⟩, q⟩
section
variable {F : Fx} {ρ : Ty} {ω w w1 w2 : Ow} {o : Expr} {A : Rl} {fs : List (Key × Rl)} {K : Kn} {rest : List Stmt} {q : Addr} {pos p apos : Pos}
theorem cop_lenD (hd : IsDct F A w fs) : Cop F w (.builtin "len") [A] (rInt (fs.length : Int)) := ⟨_, call_lenR, fun xs G H at_ hx Q k => by
  obtain ⟨x, rfl, hx1⟩ := all1 hx
  obtain ⟨a, vs, rfl, h1, h2⟩ := hd x G H at_ hx1
  refine ⟨a, vs, rfl, h1, ?_⟩
  have e : (vs.length : Int) = (fs.length : Int) := by rw [h2.len]
  rw [e]
  exact k _ G H (Same.refl _) at_ rfl⟩
end
end W1
set_option maxRecDepth 100000
set_option maxHeartbeats 2000000
set_option exponentiation.threshold 20000
namespace W1
open PySem PySem.Spec PyProof.Rows L2 TL NumText

/-! ### f-strings, part by part: z is all that is told -/
section
variable {F : Fx} {ρ : Ty} {ω w w1 w2 : Ow} {e v1 v2 : Expr} {es : List Expr} {y z : Str} {i : Int} {k : Nat} {pos : Pos}
end
end W1
set_option maxRecDepth 100000
set_option maxHeartbeats 2000000
namespace W1
open PySem PySem.Spec PyProof.Rows L2
section
variable {F : Fx} {ρ : Ty} {ω w wc wc' : Ow} {e : Expr} {es : List Expr} {Rs : List Rl} {P : Er} {pos p : Pos} {x : Str} {k : Nat} {C : Addr} {pre : Pre}
/-- C(..), with owned things handed over -/
theorem er_cW {fs : List (Str × Rl)} (T : Kc F.X.prog F.X.w F.X.K F.X.mg F.X.base C x k pre) (hr : Room (k + 1) F.X.A) (ha : AR F ρ ω (e :: es) Rs (wc ++ w)) (hp : ∀ q, pre (rRef q :: Rs) ((q, oIns C []) :: wc) (.ok rNon) ((q, oIns C fs) :: wc')) (hk : keys wc' = keys wc := by rfl)
    (hg : Gl F.X x := by rfl) (hdb : (x == ("__debug__" : Str)) = false := by decide) (he : starEach (e :: es) F.X.env = (false, eval e F.X.env) :: starEach es F.X.env := by rfl) (hpl : (backTo pos (starEach es F.X.env)).any (·.1) = false := by rfl) :
    ER F ρ ω (.Call (.Name x p) (e :: es) [] pos) (rIns C fs) (wc' ++ w) := fun σ G H at_ sl Q q => by
  obtain ⟨f, fd, ps, hm, M, hb, Fn⟩ := T
  refine ew_of (pe_makeS M Fn hr hg hm hb passW pa_w hdb he hpl) (ha σ G H at_ sl _ fun vs G1 H1 s1 a1 r1 => fun y dx hy hdx hne => ?_)
  have a2 : At F (wc ++ w) G1 (upd H1 dx (.own y)) := a1.step (Step.hid a1.gh hdx)
  have hy2 : upd H1 dx (.own y) y = none := by rw [upd_ne (Ne.symm hne)]; exact hy
  have a3 : At F (((y, oIns C []) :: wc) ++ w) G1 (upd (upd H1 dx (.own y)) y (.ins C dx [])) := a2.own hy2 ⟨dx, [], rfl, trivial⟩
  have hM : y ∉ F.M := fun hm => a2.mm y hm hy2
  have hk2 : keys ((y, oIns C fs) :: wc') = keys ((y, oIns C []) :: wc) := by
    unfold keys at hk ⊢
    rw [List.map_cons, List.map_cons, hk]
  refine sp_ok (Rs := rRef y :: Rs) (wc := (y, oIns C []) :: wc) a3 ⟨rfl, r1⟩ (hp y) hk2 fun v G3 H3 s3 a4 r3 => ⟨r3, ?_⟩
  obtain ⟨_, _, ob, h1, dx', vs', e1, h2⟩ := a4.ow (y, oIns C fs) List.mem_cons_self
  subst e1
  have a5 : At F (wc' ++ w) (upd G3 y (.ins C dx' vs')) H3 := At.pub (q := y) a4 h1 (At.own0 a4 hM)
  have sg : Same G3 (upd G3 y (.ins C dx' vs')) := fun b u e => by rw [upd_ne (ne_of_none e (a4.ow (y, oIns C fs) List.mem_cons_self).1)]; exact e
  exact q _ _ _ ((s1.trans s3).trans sg) a5 ⟨y, dx', vs', rfl, upd_same, h2.up sg⟩
end
end W1
set_option maxRecDepth 100000
set_option maxHeartbeats 2000000
namespace W1
open PySem PySem.Spec PyProof.Rows L2 NdefX TL NumText

/-! ### helpers for the walk by tactics -/
theorem At.perm {F : Fx} {ω ω' : Ow} {G H : Hp} (h : ω.Perm ω') (a : At F ω G H) : At F ω' G H :=
  ⟨a.gg, a.hh, a.gh, a.fr, a.mm, fun p hp => a.ow p (h.mem_iff.mpr hp), (h.map _).nodup_iff.mp a.nd⟩
theorem perm_at {w : Ow} {i : Nat} {z z' : Addr × Ol} (h : w[i]? = some z) : w.Perm (z :: w.eraseIdx i) ∧ (z' :: w.eraseIdx i).Perm (w.set i z') := by
  induction w generalizing i with
  | nil => simp at h
  | cons a l ih =>
    cases i with
    | zero =>
      simp at h
      subst h
      exact ⟨List.Perm.refl _, List.Perm.refl _⟩
    | succ i =>
      simp only [List.getElem?_cons_succ] at h
      obtain ⟨h1, h2⟩ := ih h
      simp only [List.eraseIdx_cons_succ, List.set_cons_succ]
      exact ⟨(List.Perm.cons a h1).trans (List.Perm.swap _ _ _), (List.Perm.swap _ _ _).trans (List.Perm.cons a h2)⟩
section
variable {F : Fx} {ρ : Ty} {ω w w1 w2 w3 wc wc' : Ow} {a b c e o : Expr} {es : List Expr} {A B R S : Rl} {Rs As : List Rl} {P : Er} {pos p apos : Pos} {x m : Str} {k : Nat} {C q : Addr} {pre : Pre} {O O' : Ol} {fs : List (Str × Rl)}
theorem er_perm (h : ER F ρ ω e R w1) (p : w1.Perm w2) : ER F ρ ω e R w2 := fun σ G H at_ sl Q z => h σ G H at_ sl Q fun v G2 H2 s a r => z v G2 H2 s (a.perm p) r
theorem ar_perm (h : AR F ρ ω es Rs w1) (p : w1.Perm w2) : AR F ρ ω es Rs w2 := fun σ G H at_ sl Q z => h σ G H at_ sl Q fun v G2 H2 s a r => z v G2 H2 s (a.perm p) r
theorem ex_perm (h : EX F ρ ω e P w1) (p : w1.Perm w2) : EX F ρ ω e P w2 := fun σ G H at_ sl z => h σ G H at_ sl fun c d G2 H2 s a r => z c d G2 H2 s (a.perm p) r
theorem hb_perm {K : Kn} {rest : List Stmt} (p : w1.Perm w2) (h : HB F ρ w2 rest K) : HB F ρ w1 rest K := fun σ G H D at_ sl ps => h σ G H D (at_.perm p) sl ps
theorem er_v (i : Nat) (hN : F.X.N[i]? = some x) (h : ρ[i]? = some (some R)) (hv : Vis F.X.env.scope x := by first | exact Or.inl rfl | exact Or.inr (Or.inl rfl) | exact Or.inr (Or.inr rfl))
    (hd : (x == ("__debug__" : Str)) = false := by decide) (hcd : (x == ("__classdict__" : Str)) = false := by decide) : ER F ρ ω (.Name x pos) R ω := er_var i h hN hv hd hcd
theorem er_gS {z : Str} {tk : Tok} (hm : F.X.mg x = some (.str z tk)) (hg : Gl F.X x := by rfl) (hd : (x == ("__debug__" : Str)) = false := by decide) : ER F ρ ω (.Name x pos) (rStr z) ω := er_glob (v := .str z) hg hm ⟨tk, rfl⟩ hd
theorem er_gI {z : Int} {tk : Tok} (hm : F.X.mg x = some (.int z tk)) (hg : Gl F.X x := by rfl) (hd : (x == ("__debug__" : Str)) = false := by decide) : ER F ρ ω (.Name x pos) (rInt z) ω := er_glob (v := .int z) hg hm ⟨tk, rfl⟩ hd
theorem er_gC (hm : F.X.mg x = some (.ref C)) (hg : Gl F.X x := by rfl) (hd : (x == ("__debug__" : Str)) = false := by decide) : ER F ρ ω (.Name x pos) (rRef C) ω := er_glob (v := .ref C) hg hm rfl hd
theorem er_bA {id : String} (ha : AR F ρ ω (e :: es) As w1) (hm : F.X.mg x = none) (hv : bootBuiltins x = some (.builtin id)) (hc : Cop F w1 (.builtin id) As R) (hg : Gl F.X x := by rfl) (hn : x ≠ "__name__" := by decide) (hdb : (x == ("__debug__" : Str)) = false := by decide)
    (he : starEach (e :: es) F.X.env = (false, eval e F.X.env) :: starEach es F.X.env := by rfl) (hpl : (backTo pos (starEach es F.X.env)).any (·.1) = false := by rfl) : ER F ρ ω (.Call (.Name x p) (e :: es) [] pos) R w1 := er_callB hc hg hm hv ha hn hdb he hpl
theorem er_tA {id : String} (ha : AR F ρ ω (e :: es) As w1) (hm : F.X.mg x = none) (hv : bootBuiltins x = some (.type id)) (hc : Cop F w1 (.type id) As R) (hg : Gl F.X x := by rfl) (hn : x ≠ "__name__" := by decide) (hdb : (x == ("__debug__" : Str)) = false := by decide)
    (he : starEach (e :: es) F.X.env = (false, eval e F.X.env) :: starEach es F.X.env := by rfl) (hpl : (backTo pos (starEach es F.X.env)).any (·.1) = false := by rfl) : ER F ρ ω (.Call (.Name x p) (e :: es) [] pos) R w1 := er_callTy hc hg hm hv ha hn hdb he hpl
/-- a def of no own things -/
theorem er_fA (T : Kf1 F.X.prog F.X.w F.X.K F.X.mg F.X.base x k pre) (hr : Room k F.X.A) (ha : AR F ρ ω (e :: es) Rs w) (hp : pre Rs [] (.ok R) [])
    (hg : Gl F.X x := by rfl) (hdb : (x == ("__debug__" : Str)) = false := by decide) (he : starEach (e :: es) F.X.env = (false, eval e F.X.env) :: starEach es F.X.env := by rfl) (hpl : (backTo pos (starEach es F.X.env)).any (·.1) = false := by rfl) :
    ER F ρ ω (.Call (.Name x p) (e :: es) [] pos) R w := er_fn0 T hr ha hp hg hdb he hpl
/-- a def to which the i-th own thing is handed over -/
theorem er_f1 (i : Nat) (T : Kf1 F.X.prog F.X.w F.X.K F.X.mg F.X.base x k pre) (hr : Room k F.X.A) (ha : AR F ρ ω (e :: es) Rs w) (hi : w[i]? = some (q, O)) (hp : pre Rs [(q, O)] (.ok R) [(q, O')])
    (hg : Gl F.X x := by rfl) (hdb : (x == ("__debug__" : Str)) = false := by decide) (he : starEach (e :: es) F.X.env = (false, eval e F.X.env) :: starEach es F.X.env := by rfl) (hpl : (backTo pos (starEach es F.X.env)).any (·.1) = false := by rfl) :
    ER F ρ ω (.Call (.Name x p) (e :: es) [] pos) R (w.set i (q, O')) :=
  er_perm (er_fn (wc := [(q, O)]) (wc' := [(q, O')]) (w := w.eraseIdx i) T hr (ar_perm ha (perm_at (z' := (q, O)) hi).1) hp rfl hg hdb he hpl) (perm_at hi).2
/-- a new thing from a def -/
theorem en_fA {pre : PreN} (T : KfN1 F.X.prog F.X.w F.X.K F.X.mg F.X.base x k pre) (hr : Room k F.X.A) (ha : AR F ρ ω (e :: es) Rs w) (hp : pre Rs [] O [])
    (hg : Gl F.X x := by rfl) (hdb : (x == ("__debug__" : Str)) = false := by decide) (he : starEach (e :: es) F.X.env = (false, eval e F.X.env) :: starEach es F.X.env := by rfl) (hpl : (backTo pos (starEach es F.X.env)).any (·.1) = false := by rfl) :
    EN F ρ ω (.Call (.Name x p) (e :: es) [] pos) O w := en_fn (wc := []) (wc' := []) T hr ha hp rfl hg hdb he hpl
theorem en_perm (h : EN F ρ ω e O w1) (p : w1.Perm w2) : EN F ρ ω e O w2 := fun σ G H at_ sl Q z => h σ G H at_ sl Q fun v G2 H2 hM s a => z v G2 H2 hM s (a.perm (List.Perm.cons _ p))
theorem en_f1 {pre : PreN} {q : Addr} {O1 O' : Ol} (i : Nat) (T : KfN1 F.X.prog F.X.w F.X.K F.X.mg F.X.base x k pre) (hr : Room k F.X.A) (ha : AR F ρ ω (e :: es) Rs w) (hi : w[i]? = some (q, O1)) (hp : pre Rs [(q, O1)] O [(q, O')])
    (hg : Gl F.X x := by rfl) (hdb : (x == ("__debug__" : Str)) = false := by decide) (he : starEach (e :: es) F.X.env = (false, eval e F.X.env) :: starEach es F.X.env := by rfl) (hpl : (backTo pos (starEach es F.X.env)).any (·.1) = false := by rfl) :
    EN F ρ ω (.Call (.Name x p) (e :: es) [] pos) O (w.set i (q, O')) :=
  en_perm (en_fn (wc := [(q, O1)]) (wc' := [(q, O')]) (w := w.eraseIdx i) T hr (ar_perm ha (perm_at (z' := (q, O1)) hi).1) hp rfl hg hdb he hpl) (perm_at hi).2
theorem hb_setA {K : Kn} {rest : List Stmt} (i : Nat) (hi : F.X.N[i]? = some x) (he : ER F ρ ω e R w1) (h : HB F (ρ.set i (some R)) w1 rest K) (hN : F.X.N.Nodup := by assumption) (hx : Loc F.X.env.scope x := by first | exact Or.inl rfl | exact Or.inr rfl)
    (hs : swapsWith e (some (.Name x p)) pos.line F.X.env = pure false := by rfl) (hf : F.X.fn x = true ∨ F.X.env.scope.names.lookup x = some .local := by first | exact .inl rfl | exact .inr rfl | assumption) :
    HB F ρ ω (.Assign [.Name x p] e pos :: rest) K := hb_set i he h hN hi hx hs hf
theorem hb_setNA {K : Kn} {rest : List Stmt} (i : Nat) (hi : F.X.N[i]? = some x) (he : EN F ρ ω e O w1) (h : ∀ q, q ∉ F.M → HB F (ρ.set i (some (rRef q))) ((q, O) :: w1) rest K) (hN : F.X.N.Nodup := by assumption) (hx : Loc F.X.env.scope x := by first | exact Or.inl rfl | exact Or.inr rfl)
    (hs : swapsWith e (some (.Name x p)) pos.line F.X.env = pure false := by rfl) (hf : F.X.fn x = true ∨ F.X.env.scope.names.lookup x = some .local := by first | exact .inl rfl | exact .inr rfl | assumption) :
    HB F ρ ω (.Assign [.Name x p] e pos :: rest) K := hb_setN i he h hN hi hx hs hf
end
theorem rng_map {lo : Int} {n : Nat} : rng lo n = (List.range n).map fun (k : Nat) => rInt (lo + (k : Int)) := rfl
end W1
set_option maxRecDepth 100000
set_option maxHeartbeats 2000000
namespace W1Q
open PySem

section
variable {M : Model} {A : Around} {E : Value → Shared → Prop} {s : Shared}
/-- whether a dict is told as a part or whole makes no difference to what holds behind it -/
theorem part_upd {Γ : Ctx} {d : Addr} {f : Array DictEntry → Array DictEntry} {a b : Option Value} {Q : Unit → Pos → Shared → Prop} {X : Value → Pos → Shared → Prop} {p : Pos} {s1 : Shared}
    (k : Sem.wp M Γ (updateDict d f a) Q X p s1) : Sem.wp M Γ (updateDict d f b) Q X p s1 := by
  unfold updateDict at k ⊢
  rw [Sem.wp_bind', Sem.wp_cmd_loadPart] at k ⊢
  obtain ⟨o, ho, k⟩ := k
  refine ⟨o, ho, ?_⟩
  revert k
  cases o.data <;> dsimp only <;> first
    | exact id
    | (simp only [Sem.wp_bind', Sem.wp_cmd_updatePart, Sem.wp_cmd_loadPart]
       exact id)
theorem part_keys {Γ : Ctx} {d : Addr} {f : Array DictEntry → Array DictEntry} {a b : Option Value} {Q : Unit → Pos → Shared → Prop} {X : Value → Pos → Shared → Prop} {p : Pos} {s1 : Shared}
    (k : Sem.wp M Γ (updateDictKeys d f a) Q X p s1) : Sem.wp M Γ (updateDictKeys d f b) Q X p s1 := by
  unfold updateDictKeys lookBehind at k ⊢
  rw [Sem.wp_bind', Sem.wp_cmd_loadPart] at k ⊢
  obtain ⟨o, ho, k⟩ := k
  refine ⟨o, ho, ?_⟩
  revert k
  cases o.data <;> dsimp only <;> first
    | exact id
    | (simp only [Sem.wp_bind', Sem.wp_cmd_updatePart, Sem.wp_cmd_loadPart]
       exact id)
/-- putting under a known hash is storing, without the store's rules -/
theorem put_of_set {d : Addr} {h : Int} {key v : Value} {Q : Unit → Shared → Prop} (k : wpAny M A (dictSetHashed d key h v) Q E s) : wpAny M A (dictPut d h key v) Q E s := by
  intro Γ p hΓ
  have k := k Γ p hΓ
  unfold dictSetHashed at k
  unfold dictPut
  rw [Sem.wp_holding, Sem.wp_bind'] at k
  rw [Sem.wp_bind']
  refine Sem.wp_mono M Γ _ (fun found p1 s1 k1 => ?_) (fun _ _ _ z => z) p s k
  cases found with
  | some i =>
    simp only [Sem.wp_bind', Sem.wp_cmd_rule, Sem.wp_cmd_point] at k1 ⊢
    exact part_upd k1
  | none =>
    simp only [Sem.wp_bind', Sem.wp_cmd_rule] at k1 ⊢
    exact part_keys k1
end
section
variable {prog : Program} {w : World} {K : Type} [DecidableEq K] {knd : KeyKind prog w K} {A : Around} {E : Value → Shared → Prop}
theorem put_known {s : Shared} {d : Addr} {kvs : List (K × Value)} {k : K} {key v : Value} {Q : Unit → Shared → Prop} (is : knd.is k key = true) (at_ : s.heap.DictOf knd d kvs) (few : kvs.length ≤ sizeLine)
    (q : ∀ h', h'.DictOf knd d (stored kvs k v) → Heap.SameBut d s.heap h' → Q () { s with heap := h' }) : wpAny (model prog w) A (dictPut d (knd.hash k) key v) Q E s :=
  put_of_set (wpAny_dictSetHashed_pairs is at_ q few)
/-- what one turn of the merge does -/
abbrev turn (d o : Addr) (ep : Nat) : Nat → PUnit → Sem (ForInStep PUnit) := fun i _ => do
  let here ← dictEntries o
  match here[i]? with
  | some e => do
    holding [e.key, e.val] (if false = true then do
        let f ← dictFind d e.key e.hash
        if f.isSome = true then do
            rule "dict.merge.duplicate-key"
            let x ← newExc (.type "KeyError") [e.key]
            let r ← (raiseNew x : Sem Unit)
            dictPut d e.hash e.key e.val
          else dictPut d e.hash e.key e.val
      else dictPut d e.hash e.key e.val)
    let now ← dictEpoch o
    if (now != ep) = true then do
        (unsupported "dict.changed-during-merge" : Sem Unit)
        pure (ForInStep.yield PUnit.unit)
      else pure (ForInStep.yield PUnit.unit)
  | _ => do
    (unsupported "dict.changed-during-merge" : Sem Unit)
    pure (ForInStep.yield PUnit.unit)
/-- the turns from the i-th entry on: one by one -/
theorem turns {d o : Addr} {oo : Obj} {es : Array DictEntry} {ep : Nat} (ne : d ≠ o) (src : oo.data = .dict es ep) (ks : KeysOf knd es) {more : List (K × Value)} (ps : Pairs knd es.toList more) {Q : PUnit → Shared → Prop} :
    ∀ (k i : Nat) (s : Shared) (kvs : List (K × Value)), i + k = es.size → s.heap.get? o = some oo → s.heap.DictOf knd d kvs → kvs.length + k ≤ sizeLine →
      (∀ h', h'.DictOf knd d (merged kvs (more.drop i)) → Heap.SameBut d s.heap h' → Q PUnit.unit { s with heap := h' }) →
      wpAny (model prog w) A (forIn (List.range' i k) PUnit.unit (turn d o ep)) Q E s
  | 0, i, s, kvs, hk, go, gd, few, q => by
    have none_left : more.drop i = [] := List.drop_eq_nil_of_le (by rw [← ps.length, Array.length_toList]; omega)
    rw [none_left] at q
    exact wpAny_pure (q s.heap gd (Heap.SameBut.refl _ _))
  | k + 1, i, s, kvs, hk, go, gd, few, q => by
    have hi : i < es.size := by omega
    have hm : i < more.length := by rw [← ps.length, Array.length_toList]; exact hi
    obtain ⟨is, val⟩ := ps.get? (e := es[i]) (by simp [hi]) (List.getElem?_eq_getElem hm)
    obtain ⟨k2, is2, hash⟩ := ks es[i] (Array.getElem_mem hi)
    have one : k2 = more[i].1 := knd.inj _ _ _ is2 is
    rw [one] at hash
    rw [List.drop_eq_getElem_cons hm] at q
    rw [List.range'_succ, List.forIn_cons]
    refine wpAny_bind ?_
    unfold turn
    refine wpAny_bind (wpAny_dictEntries go src ?_)
    rw [Array.getElem?_eq_getElem hi]
    dsimp only
    rw [hash, val]
    refine wpAny_bind (wpAny_holding ?_)
    rw [if_neg (by decide : ¬ (false = true))]
    refine put_known is gd (by omega) fun h1 gd1 same => ?_
    have go1 : h1.get? o = some oo := (same.2 o ne.symm).trans go
    refine wpAny_bind (wpAny_dictEpoch go1 src ?_)
    rw [bne_self_eq_false, if_neg Bool.false_ne_true]
    exact wpAny_pure (turns ne src ks ps k (i + 1) _ _ (by omega) go1 gd1 (Nat.le_trans (Nat.add_le_add_right (stored_length_le _ _ _) k) (by omega)) fun h2 gd2 same2 => q h2 gd2 (same.trans same2))
/-- merging the dict at o into that at d -/
theorem merge_two {s : Shared} {d o : Addr} {kvs more : List (K × Value)} {Q : Unit → Shared → Prop} (ne : d ≠ o) (plain : (o == sysModules) = false) (noref : ∀ k a, knd.is k (.ref a) = false) (gd : s.heap.DictOf knd d kvs) (go : s.heap.DictOf knd o more) (few : kvs.length + more.length ≤ sizeLine)
    (q : ∀ h', h'.DictOf knd d (merged kvs more) → Heap.SameBut d s.heap h' → Q () { s with heap := h' }) : wpAny (model prog w) A (mergeMapping d (.ref o) false) Q E s := by
  obtain ⟨dd, des, dep, dget, -, ddat, -⟩ := id gd
  obtain ⟨oo, es, ep, oget, -, odat, ks, ps, -⟩ := id go
  have whole : wpAny (model prog w) A (do
      let here ← dictEntries o
      let now ← dictEpoch o
      forIn (List.range here.size) PUnit.unit (turn d o now)
      pure ()) Q E s := by
    refine wpAny_bind (wpAny_dictEntries oget odat (wpAny_bind (wpAny_dictEpoch oget odat (wpAny_bind ?_))))
    rw [List.range_eq_range']
    exact turns ne odat ks ps es.size 0 s kvs (Nat.zero_add _) oget gd (by rw [← ps.length, Array.length_toList] at few; exact few) fun h' g' same => wpAny_pure (q h' g' same)
  unfold mergeMapping
  dsimp only
  refine wpAny_bind (wpAny_isInstance go.typeIs isSubtype_dict_dict ?_)
  rw [if_pos rfl]
  refine wpAny_bind (wpAny_specialOf go.typeIs F.slot_dict_iter.lookup ?_)
  simp only [beq_self_eq_true, pure_bind]
  rw [if_neg (by rw [plain]; exact Bool.false_ne_true)]
  refine wpAny_bind (wpAny_dictEntries dget ddat ?_)
  by_cases empty : des.isEmpty = true
  · rw [if_pos empty]
    refine wpAny_bind (wpAny_dictEntries oget odat (wpAny_bind ?_))
    -- no key is an object, so nothing is asked of any
    have quiet : ∀ l : List DictEntry, (∀ e ∈ l, e ∈ es) → ∀ f : DictEntry → PUnit → Sem (ForInStep PUnit), (∀ e ∈ es, f e PUnit.unit = pure (ForInStep.yield PUnit.unit)) → forIn l PUnit.unit f = pure PUnit.unit := by
      intro l hl f hf
      induction l with
      | nil => rfl
      | cons e l ih =>
        rw [List.forIn_cons, hf e (hl e List.mem_cons_self), pure_bind]
        exact ih fun x hx => hl x (List.mem_cons_of_mem _ hx)
    rw [← Array.forIn_toList]
    refine wpAny_of_eq (quiet es.toList (fun e he => Array.mem_toList_iff.mp he) _ fun e he => ?_) whole
    obtain ⟨k, is, -⟩ := ks e he
    split
    · next a ha => rw [ha, noref] at is; cases is
    · rfl
  · rw [if_neg empty]
    exact whole
end
end W1Q
set_option maxRecDepth 100000
set_option maxHeartbeats 2000000
namespace W1
open PySem PySem.Spec PyProof.Rows L2 NdefX TL NumText

/-! ### {**a, **b} -/
theorem key_noref {P : Program} {w : World} (k : Key) (a : Addr) : (mixKind P w).is k (.ref a) = false := by
  cases h : (mixKind P w).is k (.ref a) with
  | false => rfl
  | true =>
    rcases keyIs_shape h with ⟨i, t, h1, h2⟩ | ⟨x, t, h1, h2⟩
    · cases h2
    · cases h2
section
variable {X : Cx} {pins : List (Addr × Obj)} {σ : L2.St} {H : Hp} {s : Shared} {A : Around} {E : Value → Shared → Prop}
theorem merge_into {p a : Addr} {kvs kws : List (Key × V)} {Q : Unit → Shared → Prop} (I : Inv X pins σ H s) (hp : H p = some (.dK kvs)) (ha : Rd H a (.dK kws)) (hne : p ≠ a) (hz : kvs.length + kws.length ≤ sizeLine)
    (h : ∀ s', Inv X pins σ (upd H p (.dK (mergeK kvs kws))) s' → Q () s') : wpAny (model X.prog X.w) A (mergeMapping p (.ref a) false) Q E s := by
  obtain ⟨z, hd, vs, rel, dd⟩ := dk_of I.hok hp
  obtain ⟨z2, hd2, ws, rel2, dd2⟩ := dk_rd I.hok ha
  refine W1Q.merge_two hne hd2 key_noref dd dd2 (by rw [← rel.length, ← rel2.length]; exact hz) fun h' dd' hs => ?_
  have he : ∃ q, h'.get? p = some q := let ⟨q, _, _, hq, _⟩ := dd'; ⟨q, hq⟩
  exact h _ (d_write (t' := s.toks) I (by rw [hp]; exact True.intro) hs he (dk_new (Nat.le_trans (length_mergeK kws kvs) hz) hd (rel2.merge rel) dd'))
end
def tMrg (ta tb : TE) : TE := fun σ H Q => ∀ p, H p = none → ta σ (upd H p (.dK [])) fun x H1 => ∃ a kvs, x = .ref a ∧ p ≠ a ∧ Rd H1 a (.dK kvs) ∧ H1 p = some (.dK []) ∧ kvs.length ≤ 100000 ∧
  tb σ (upd H1 p (.dK (mergeK [] kvs))) fun y H2 => ∃ b kws kv1, y = .ref b ∧ p ≠ b ∧ Rd H2 b (.dK kws) ∧ H2 p = some (.dK kv1) ∧ kv1.length ≤ 100000 ∧ kws.length ≤ 100000 ∧ Q (.ref p) (upd H2 p (.dK (mergeK kv1 kws)))
theorem pe_mrg {X : Cx} {pos : Pos} {a b : Expr} {ta tb : TE} (ha : PE X a ta) (hb : PE X b tb) : PE X (.Dict [none, none] [a, b] pos) (tMrg ta tb) := by
  refine ⟨fun pins s σ H Q I q => ?_⟩
  have hn := I.hok.fresh (Nat.le_refl s.heap.objs.size)
  have I1 := I.laid (a := s.heap.objs.size) (o := .dK []) (h' := s.heap.push { cls := .type "dict", data := .dict #[] }) (t' := s.toks) (fun _ _ q => Heap.get?_push_of_some _ q) (Nat.le_refl _) (dk_empty s.heap I.big)
  rw [arm_eval_Dict]
  refine wpAny_bind (wpAny_standAt ?_)
  show wpAny _ _ (dictDisplay [(none, do let x ← eval a X.env; standAt pos; pure x), (none, do let x ← eval b X.env; standAt pos; pure x)]) _ _ _
  unfold dictDisplay
  simp only [List.forIn_cons, List.forIn_nil, List.isEmpty_nil, if_true, pure_bind, bind_assoc]
  refine wpAny_bind (wpAny_alloc ?_)
  obtain hq := q _ hn
  refine wpAny_bind (wpAny_holding (wpAny_bind (thn (ha.run pins _ σ _ _ I1 hq) fun u s2 ⟨x, H2, I2, rx, a', kvs, ex, hne, hrd, hpp, hz, q2⟩ => wpAny_bind (wpAny_standAt (wpAny_pure ?_)))))
  subst ex
  obtain rfl : u = Value.ref a' := rx
  refine wpAny_bind (wpAny_onRaise (wpAny_tryCatch (wpAny_onRaise (wpAny_holding (merge_into I2 hpp hrd hne (Nat.le_trans (by rw [List.length_nil, Nat.zero_add]; exact hz) (by decide)) fun s3 I3 => ?_)))))
  refine wpAny_bind (wpAny_holding (wpAny_bind (thn (hb.run pins _ σ _ _ I3 q2) fun u s4 ⟨y, H4, I4, ry, b', kws, kv1, ey, hne2, hrd2, hpp2, hz1, hz2, q4⟩ => wpAny_bind (wpAny_standAt (wpAny_pure ?_)))))
  subst ey
  obtain rfl : u = Value.ref b' := ry
  refine wpAny_bind (wpAny_onRaise (wpAny_tryCatch (wpAny_onRaise (wpAny_holding (merge_into I4 hpp2 hrd2 hne2 (Nat.le_trans (Nat.add_le_add hz1 hz2) (by decide)) fun s5 I5 => ?_)))))
  exact wpAny_pure ⟨.ref _, _, I5, rfl, q4⟩

/-! ### dicts that are handed in -/
def DIn (A : Rl) (w : Ow) (fs : List (Key × Rl)) : Prop := A = rDct fs ∨ ∃ q, A = rRef q ∧ (q, oD fs) ∈ w
def mergeR (fs gs : List (Key × Rl)) : List (Key × Rl) := gs.foldl (fun acc kv => putKR acc kv.1 kv.2) fs
theorem mergeR_len : ∀ (gs fs : List (Key × Rl)), (mergeR fs gs).length ≤ fs.length + gs.length
  | [], fs => by show fs.length ≤ fs.length + 0; omega
  | p :: r, fs => by
    have h1 := mergeR_len r (putKR fs p.1 p.2)
    have h2 := putKR_len fs p.1 p.2
    show (mergeR (putKR fs p.1 p.2) r).length ≤ _
    rw [List.length_cons]; omega
theorem NR.merge {H : Hp} : ∀ {gs fs : List (Key × Rl)} {ws vs : List (Key × V)}, NR fs vs H → NR gs ws H → NR (mergeR fs gs) (mergeK vs ws) H
  | [], _, [], _, h, _ => h
  | (_, R) :: gs, fs, (_, v) :: ws, vs, h, ⟨e, a, b⟩ => by
    subst e
    exact NR.merge (gs := gs) (ws := ws) (h.putK a) b
  | [], _, _ :: _, _, _, h => h.elim
  | _ :: _, _, [], _, _, h => h.elim
section
variable {F : Fx} {ρ : Ty} {ω w w1 w2 : Ow} {a b e : Expr} {A B R : Rl} {fs gs : List (Key × Rl)} {pos : Pos} {z : Addr × Ol}
theorem At.drop {G H : Hp} (h : At F (z :: w) G H) : At F w G H := ⟨h.gg, h.hh, h.gh, h.fr, h.mm, fun p hp => h.ow p (List.mem_cons_of_mem _ hp), (List.nodup_cons.mp h.nd).2⟩
theorem DIn.isd (h : DIn A w fs) : IsDct F A w fs := by
  rcases h with rfl | ⟨q, rfl, h⟩
  · exact isd_frz
  · exact isd_own h
theorem DIn.mem (h : DIn A w fs) (k : ∀ z ∈ w, z ∈ w1) : DIn A w1 fs := by
  rcases h with rfl | ⟨q, rfl, h⟩
  · exact .inl rfl
  · exact .inr ⟨q, rfl, k _ h⟩
theorem DIn.cons (h : DIn A w fs) : DIn A (z :: w) fs := h.mem fun _ k => List.mem_cons_of_mem _ k
theorem din_frz : DIn (rDct fs) w fs := .inl rfl
theorem DIn.ne {p : Addr} {O : Ol} {G H : Hp} {x : V} (h : DIn A w fs) (at_ : At F ((p, O) :: w) G H) (hx : A.r x G) : ∃ q vs, x = .ref q ∧ p ≠ q ∧ Rd H q (.dK vs) ∧ NR fs vs G := by
  have hp := (at_.ow _ List.mem_cons_self).1
  rcases h with rfl | ⟨q, rfl, h⟩
  · obtain ⟨q, od, vs, rfl, h1, h2⟩ := hx
    exact ⟨q, vs, rfl, fun e => (by rw [e, h1] at hp; cases hp), .inr ⟨od, at_.gh _ _ h1⟩, h2⟩
  · obtain ⟨_, _, o, h1, vs, rfl, h2⟩ := at_.ow _ (List.mem_cons_of_mem _ h)
    have nd := (List.nodup_cons.mp at_.nd).1
    exact ⟨q, vs, hx, fun e => nd (e ▸ List.mem_map_of_mem (f := (·.1)) h), .inl h1, h2⟩
theorem en_mrg (ha : ∀ d, ER F ρ (d :: ω) a A (d :: w1)) (hA : DIn A w1 fs) (hb : ∀ d, ER F ρ (d :: w1) b B (d :: w2)) (hB : DIn B w2 gs) (h1 : fs.length ≤ 1000) (h2 : gs.length ≤ 1000) : EN F ρ ω (.Dict [none, none] [a, b] pos) (oD (mergeR (mergeR [] fs) gs)) w2 := fun σ G H at_ sl Q k => by
  refine ew_of (pe_mrg pe_w pe_w) fun p hp => ?_
  have hM : p ∉ F.M := fun hm => at_.mm p hm hp
  have a0 : At F ((p, oD []) :: ω) G (upd H p (.dK [])) := at_.own hp ⟨[], rfl, trivial⟩
  refine ha _ σ G _ a0 sl _ fun x G1 H1 s1 a1 r1 => ?_
  obtain ⟨q, vs, rfl, hne, hrd, hnr⟩ := hA.ne a1 r1
  obtain ⟨_, _, o, hp1, vs0, rfl, hn0⟩ := a1.ow _ List.mem_cons_self
  have e0 : vs0 = [] := by
    match vs0, hn0 with
    | [], _ => rfl
  subst e0
  have l1 : vs.length ≤ 100000 := by rw [← hnr.len]; exact Nat.le_trans h1 (by decide)
  refine ⟨q, vs, rfl, hne, hrd, hp1, l1, ?_⟩
  have a2 : At F ((p, oD (mergeR [] fs)) :: w1) G1 (upd H1 p (.dK (mergeK [] vs))) := a1.chg ⟨_, rfl, NR.merge (fs := []) (vs := []) trivial hnr⟩
  refine hb _ σ G1 _ a2 (sl.up s1) _ fun y G2 H2 s2 a3 r3 => ?_
  obtain ⟨q2, ws, rfl, hne2, hrd2, hnr2⟩ := hB.ne a3 r3
  obtain ⟨_, _, o, hp2, vs1, rfl, hn1⟩ := a3.ow _ List.mem_cons_self
  have l2 : ws.length ≤ 100000 := by rw [← hnr2.len]; exact Nat.le_trans h2 (by decide)
  have l3 : vs1.length ≤ 100000 := by
    rw [← hn1.len]
    exact Nat.le_trans (mergeR_len fs []) (by rw [List.length_nil, Nat.zero_add]; exact Nat.le_trans h1 (by decide))
  refine ⟨q2, ws, vs1, rfl, hne2, hrd2, hp2, l3, l2, ?_⟩
  exact k p G2 _ hM (s1.trans s2) (a3.chg ⟨_, rfl, hn1.merge hnr2⟩)
end
end W1
set_option maxRecDepth 100000
set_option maxHeartbeats 2000000
namespace W1
open PySem PySem.Spec PyProof.Rows L2 NdefX TL NumText

/-! ### amounts: names to ints -/
abbrev Am := List (Str × Int)
def fsA (am : Am) : List (Key × Rl) := am.map fun p => (Sum.inr p.1, rInt p.2)
def valA (am : Am) (g : Str) : Int := ((am.find? fun p => decide (p.1 = g)).map (·.2)).getD 0
def namesA (am : Am) : List Str := am.map (·.1)
theorem kRs_A (am : Am) : kRs (fsA am) = (namesA am).map rStr := by
  unfold kRs fsA namesA
  rw [List.map_map, List.map_map]
  rfl
theorem valR_A : ∀ {am : Am} {g : Str}, g ∈ namesA am → valR (fsA am) (.inr g) = some (rInt (valA am g))
  | [], g, h => by cases h
  | (n, i) :: am, g, h => by
    unfold valR fsA valA
    rw [List.map_cons, List.find?_cons, List.find?_cons]
    by_cases e : n = g
    · simp [e]
    · have hm : g ∈ namesA am := by
        rcases List.mem_cons.mp h with z | z
        · exact absurd z.symm e
        · exact z
      have ih := valR_A hm
      unfold valR fsA valA at ih
      have e1 : decide ((Sum.inr n : Key) = Sum.inr g) = false := decide_eq_false fun z => e (Sum.inr.inj z)
      simp only [e1, e, decide_false]
      exact ih
theorem valR_An {am : Am} {g : Str} (h : g ∉ namesA am) : valR (fsA am) (.inr g) = none ∧ valA am g = 0 := by
  induction am with
  | nil => exact ⟨rfl, rfl⟩
  | cons p am ih =>
    obtain ⟨n, i⟩ := p
    have hn : ¬ n = g := fun z => h (z ▸ List.mem_cons_self)
    obtain ⟨h1, h2⟩ := ih fun z => h (List.mem_cons_of_mem _ z)
    unfold valR fsA valA at *
    rw [List.map_cons, List.find?_cons, List.find?_cons]
    have e1 : decide ((Sum.inr n : Key) = Sum.inr g) = false := decide_eq_false fun z => hn (Sum.inr.inj z)
    simp only [e1, hn, decide_false]
    exact ⟨h1, h2⟩
/-- a dict that is handed in: frozen, or owned -/
def DVar (A : Rl) (w : Ow) (fs : List (Key × Rl)) : Prop := (A = rDct fs ∧ w = []) ∨ ∃ q, A = rRef q ∧ w = [(q, oD fs)]
theorem DVar.isd {F : Fx} {A : Rl} {w w2 : Ow} {fs : List (Key × Rl)} (h : DVar A w fs) : IsDct F A (w ++ w2) fs := by
  rcases h with ⟨rfl, rfl⟩ | ⟨q, rfl, rfl⟩
  · exact isd_frz
  · exact isd_own List.mem_cons_self
theorem DVar.isd0 {F : Fx} {A : Rl} {w : Ow} {fs : List (Key × Rl)} (h : DVar A w fs) : IsDct F A w fs := by
  have := h.isd (F := F) (w2 := [])
  rw [List.append_nil] at this
  exact this
theorem bt_list : bootBuiltins "list" = some (.type "list") := by decide +kernel
theorem bt_sorted : bootBuiltins "sorted" = some (.builtin "sorted") := by decide +kernel
section
variable {F : Fx} {ρ : Ty} {ω w : Ow} {e : Expr} {A : Rl} {am : Am} {p1 p2 pos1 pos2 : Pos}
/-- sorted(list(d)) -/
theorem er_sorted (he : ER F ρ ω e A w) (hd : IsDct F A w (fsA am)) (hz : am.length < 64) (hc : F.X.calm = true) (ls : F.X.mg "list" = none) (st : F.X.mg "sorted" = none) (gl : Gl F.X "list" := by rfl) (gs : Gl F.X "sorted" := by rfl)
    (h1 : starEach [e] F.X.env = (false, eval e F.X.env) :: starEach [] F.X.env := by rfl) (h2 : (backTo pos1 (starEach [] F.X.env)).any (·.1) = false := by rfl)
    (h3 : starEach [.Call (.Name "list" p1) [e] [] pos1] F.X.env = (false, eval (.Call (.Name "list" p1) [e] [] pos1) F.X.env) :: starEach [] F.X.env := by rfl) (h4 : (backTo pos2 (starEach [] F.X.env)).any (·.1) = false := by rfl) :
    ER F ρ ω (.Call (.Name "sorted" p2) [.Call (.Name "list" p1) [e] [] pos1] [] pos2) (rLst ((srt (namesA am)).map rStr)) w :=
  er_callB (cop_sortedS (by unfold namesA; rw [List.length_map]; exact hz)) gs st bt_sorted (ar_cons (er_eq (er_callTy (cop_listD hc hd) gl ls bt_list (ar_cons he ar_nil (hs := h1)) (by decide) (by decide) h1 h2) (congrArg rLst (kRs_A am))) ar_nil (hs := h3)) (by decide) (by decide) h3 h4
end
/-! ### what is lent -/
def Sub (wc w : Ow) : Prop := ∃ r, w.Perm (wc ++ r)
theorem Sub.nil {w : Ow} : Sub [] w := ⟨w, List.Perm.refl _⟩
theorem Sub.refl {w : Ow} : Sub w w := ⟨[], by rw [List.append_nil]⟩
theorem Sub.app {a b : Ow} : Sub a (a ++ b) := ⟨b, List.Perm.refl _⟩
theorem Sub.app2 {a b : Ow} : Sub b (a ++ b) := ⟨a, List.perm_append_comm⟩
theorem Sub.cons {a w : Ow} {z : Addr × Ol} (h : Sub a w) : Sub a (z :: w) := by
  obtain ⟨r, p⟩ := h
  exact ⟨z :: r, (List.Perm.cons z p).trans List.perm_middle.symm⟩
theorem Sub.one {w : Ow} {z : Addr × Ol} (h : z ∈ w) : Sub [z] w := by
  obtain ⟨s, t, rfl⟩ := List.append_of_mem h
  exact ⟨s ++ t, List.perm_middle⟩
theorem Sub.ins {a w : Ow} {z : Addr × Ol} {i : Nat} (hi : w[i]? = some z) (h : Sub a (w.eraseIdx i)) : Sub (z :: a) w := by
  obtain ⟨r, p⟩ := h
  exact ⟨r, (perm_at (z' := z) hi).1.trans (List.Perm.cons z p)⟩
theorem DVar.sub {A : Rl} {wc w : Ow} {fs : List (Key × Rl)} (h : DVar A wc fs) (k : ∀ z ∈ wc, z ∈ w) : Sub wc w := by
  rcases h with ⟨_, rfl⟩ | ⟨q, _, rfl⟩
  · exact Sub.nil
  · exact Sub.one (k _ List.mem_cons_self)
section
variable {F : Fx} {ρ : Ty} {ω w w1 w2 w3 wc wc' : Ow} {a b c e o : Expr} {es : List Expr} {A B R S : Rl} {Rs As : List Rl} {P : Er} {pos p apos : Pos} {x m : Str} {k : Nat} {C q : Addr} {pre : Pre} {O O' : Ol} {fs : List (Str × Rl)} {K : Kn} {rest : List Stmt}
theorem er_fS (T : Kf1 F.X.prog F.X.w F.X.K F.X.mg F.X.base x k pre) (hr : Room k F.X.A) (ha : AR F ρ ω (e :: es) Rs w) (hs : Sub wc w) (hp : pre Rs wc (.ok R) wc)
    (hg : Gl F.X x := by rfl) (hdb : (x == ("__debug__" : Str)) = false := by decide) (he : starEach (e :: es) F.X.env = (false, eval e F.X.env) :: starEach es F.X.env := by rfl) (hpl : (backTo pos (starEach es F.X.env)).any (·.1) = false := by rfl) :
    ER F ρ ω (.Call (.Name x p) (e :: es) [] pos) R w := by
  obtain ⟨r, pm⟩ := hs
  exact er_perm (er_fn T hr (ar_perm ha pm) hp rfl hg hdb he hpl) pm.symm
theorem ex_fS (T : Kf1 F.X.prog F.X.w F.X.K F.X.mg F.X.base x k pre) (hr : Room k F.X.A) (ha : AR F ρ ω (e :: es) Rs w) (hs : Sub wc w) (hp : pre Rs wc (.error P) wc)
    (hg : Gl F.X x := by rfl) (hdb : (x == ("__debug__" : Str)) = false := by decide) (he : starEach (e :: es) F.X.env = (false, eval e F.X.env) :: starEach es F.X.env := by rfl) (hpl : (backTo pos (starEach es F.X.env)).any (·.1) = false := by rfl) :
    EX F ρ ω (.Call (.Name x p) (e :: es) [] pos) P w := by
  obtain ⟨r, pm⟩ := hs
  obtain ⟨f, fd, ps, h1, h2, h3, h4⟩ := T
  exact ex_perm (ex_call (ar_perm ha pm) hp rfl h4 hr h1 h2 h3 hg hdb he hpl) pm.symm
theorem er_cS (T : Kc F.X.prog F.X.w F.X.K F.X.mg F.X.base C x k pre) (hr : Room (k + 1) F.X.A) (ha : AR F ρ ω (e :: es) Rs w) (hs : Sub wc w) (hp : ∀ q, pre (rRef q :: Rs) ((q, oIns C []) :: wc) (.ok rNon) ((q, oIns C fs) :: wc))
    (hg : Gl F.X x := by rfl) (hdb : (x == ("__debug__" : Str)) = false := by decide) (he : starEach (e :: es) F.X.env = (false, eval e F.X.env) :: starEach es F.X.env := by rfl) (hpl : (backTo pos (starEach es F.X.env)).any (·.1) = false := by rfl) :
    ER F ρ ω (.Call (.Name x p) (e :: es) [] pos) (rIns C fs) w := by
  obtain ⟨r, pm⟩ := hs
  exact er_perm (er_cW T hr (ar_perm ha pm) hp rfl hg hdb he hpl) pm.symm
/-! ### what is given, by what holds of it -/
def EG (F : Fx) (ρ : Ty) (ω : Ow) (e : Expr) (Φ : Rl → Ow → Prop) : Prop :=
  ∀ σ G H, At F ω G H → Slots ρ σ G → ∀ Q : VK, (∀ v G2 H2 R w, Φ R w → Same G G2 → At F w G2 H2 → R.r v G2 → Q v H2) → EW F.X e σ H Q
def AG (F : Fx) (ρ : Ty) (ω : Ow) (es : List Expr) (Φ : List Rl → Ow → Prop) : Prop :=
  ∀ σ G H, At F ω G H → Slots ρ σ G → ∀ Q : List V → Hp → Prop, (∀ vs G2 H2 Rs w, Φ Rs w → Same G G2 → At F w G2 H2 → All2 Rs vs G2 → Q vs H2) → AW F.X es σ H Q
variable {Φ : Rl → Ow → Prop} {Ψ : List Rl → Ow → Prop}
theorem eg_er (h : ER F ρ ω e R w) (k : Φ R w) : EG F ρ ω e Φ := fun σ G H at_ sl Q q => h σ G H at_ sl Q fun v G2 H2 s a r => q v G2 H2 R w k s a r
theorem eg_en (h : EN F ρ ω e O w) (k : ∀ q, q ∉ F.M → Φ (rRef q) ((q, O) :: w)) : EG F ρ ω e Φ := fun σ G H at_ sl Q z => h σ G H at_ sl Q fun q G2 H2 hM s a => z _ G2 H2 _ _ (k q hM) s a rfl
theorem ag_nil (k : Ψ [] ω) : AG F ρ ω [] Ψ := fun σ G H at_ sl Q q => aw_of pa_nil (q [] G H [] ω k (Same.refl _) at_ trivial)
theorem ag_cons (h : EG F ρ ω e Φ) (hr : ∀ R w, Φ R w → AG F ρ w es fun Rs w' => Ψ (R :: Rs) w') (hs : starEach (e :: es) F.X.env = (false, eval e F.X.env) :: starEach es F.X.env := by rfl) : AG F ρ ω (e :: es) Ψ := fun σ G H at_ sl Q q =>
  aw_of (pa_cons pe_w pa_w hs) (h σ G H at_ sl _ fun v G2 H2 R w k s a r => hr R w k σ G2 H2 a (sl.up s) _ fun vs G3 H3 Rs w' k3 s3 a3 r3 => q _ G3 H3 (R :: Rs) w' k3 (s.trans s3) a3 ⟨R.mo _ _ _ s3 r, r3⟩)
theorem hb_setG (i : Nat) (hi : F.X.N[i]? = some x) (he : EG F ρ ω e Φ) (h : ∀ R w, Φ R w → HB F (ρ.set i (some R)) w rest K) (hN : F.X.N.Nodup := by assumption) (hx : Loc F.X.env.scope x := by first | exact Or.inl rfl | exact Or.inr rfl)
    (hs : swapsWith e (some (.Name x p)) pos.line F.X.env = pure false := by rfl) (hf : F.X.fn x = true ∨ F.X.env.scope.names.lookup x = some .local := by first | exact .inl rfl | exact .inr rfl | assumption) :
    HB F ρ ω (.Assign [.Name x p] e pos :: rest) K := hb_cons fun σ G H D at_ sl ps =>
  sw_of (ps_set hN hi hx pe_w hs hf) (he σ G H at_ sl _ fun v G2 H2 R w k s a r => h R w k _ G2 H2 D a ((sl.up s).set i r) (ps.up s))
theorem hb_retG (he : EG F ρ ω e Φ) (h : ∀ R w, Φ R w → K.rt R w) : HB F ρ ω (.Return (some e) pos :: rest) K := hb_cons fun σ G H D at_ sl ps =>
  sw_of (ps_ret pe_w) (he σ G H at_ sl _ fun v G2 H2 R w k s a r => ps.rt R w (h R w k) v G2 H2 s a r)
theorem hb_drop {z : Addr × Ol} (h : HB F ρ w rest K) : HB F ρ (z :: w) rest K := fun σ G H D at_ sl ps => h σ G H D at_.drop sl ps
/-! ### a op b op' c -/
theorem tr_chain {op op' : CmpOp} {k m : Bool} (ha : ER F ρ ω a A w1) (hb : ER F ρ w1 b B w2) (h : Bop F w2 (compareOp op) A B (rBool k)) (hc : k = true → ER F ρ w2 c S w2) (h' : k = true → Bop F w2 (compareOp op') B S (rBool m)) (hm : lastMarks [op, op'] [b, c] = false := by rfl) : TR F ρ ω (.Compare a [op, op'] [b, c] pos) (k && m) w2 := fun σ G H at_ sl Q q => by
  obtain ⟨r, ho, kk⟩ := h
  cases k with
  | true =>
    obtain ⟨r', ho', kk'⟩ := h' rfl
    refine tw_of (pt_chain ho ho' pe_w pe_w pe_w (hm := hm)) (ha σ G H at_ sl _ fun x G1 H1 s1 a1 r1 => hb σ G1 H1 a1 (sl.up s1) _ fun y G2 H2 s2 a2 r2 => ?_)
    refine kk x y G2 H2 a2 (A.mo _ _ _ s2 r1) r2 _ fun z G3 H3 s3 a3 r3 => ⟨true, r3, iteT (hc rfl σ G3 H3 a3 (sl.up ((s1.trans s2).trans s3)) _ fun u G4 H4 s4 a4 r4 => ?_)⟩
    exact kk' y u G4 H4 a4 (B.mo _ _ _ (s3.trans s4) r2) r4 _ fun z2 G5 H5 s5 a5 r5 => ⟨m, r5, q G5 H5 ((((s1.trans s2).trans s3).trans s4).trans s5) a5⟩
  | false =>
    refine tw_of (pt_chain (r' := fun _ _ _ _ => False) ho (fun _ _ _ _ _ _ _ _ _ _ _ _ h => h.elim) pe_w pe_w pe_w (hm := hm)) (ha σ G H at_ sl _ fun x G1 H1 s1 a1 r1 => hb σ G1 H1 a1 (sl.up s1) _ fun y G2 H2 s2 a2 r2 => ?_)
    refine kk x y G2 H2 a2 (A.mo _ _ _ s2 r1) r2 _ fun z G3 H3 s3 a3 r3 => ⟨false, r3, iteF ⟨false, rfl, q G3 H3 ((s1.trans s2).trans s3) a3⟩⟩
end
/-! ### dicts of plain values -/
end W1
set_option maxRecDepth 100000
set_option maxHeartbeats 2000000
namespace W1S
open PySem PySem.Spec PyProof.Rows L2

/-! ### a set of texts, by its entries -/
def nameOf (e : Int × Value) : Str := match e.2 with | .str x _ => x | _ => Str.empty
def IsTxt (w : World) (e : Int × Value) : Prop := ∃ x u, e = (hashStr w x, Value.str x u)
structure Fine (w : World) (es : Array (Int × Value)) (t : SetTable) (xs : List Str) : Prop where
  txt : ∀ e ∈ es.toList, IsTxt w e
  once : (es.toList.map nameOf).Nodup
  mem : ∀ x, x ∈ es.toList.map nameOf ↔ x ∈ xs
  few : es.size ≤ xs.length
  fits : t.fits es.size = true
  ris : Ris t.place.toList
  led : w.params.followText "set-order" = true ∨ t.led = true
section
variable {P : Program} {w : World} {es es' : Array (Int × Value)} {t t' : SetTable} {xs : List Str} {x : Str} {u : Tok}
theorem Fine.hit (f : Fine w es t xs) : x ∈ xs ↔ ∃ e ∈ es.toList, (PySem.strKind P w).is x e.2 = true := by
  rw [← f.mem, List.mem_map]
  refine exists_congr fun e => and_congr_right fun he => ?_
  obtain ⟨y, u, rfl⟩ := f.txt e he
  show y = x ↔ (Value.str y u).isStrOf x = true
  constructor
  · rintro rfl
    exact strKind_is P w y u
  · intro z
    obtain ⟨u', h⟩ := Value.isStrOf_shape z
    injection h
/-- the same entries in another order, under another table -/
theorem Fine.again (f : Fine w es t xs) (pm : es'.toList.Perm es.toList) (fits : t'.fits es'.size = true) (ris : Ris t'.place.toList) (led : t'.led = t.led) : Fine w es' t' xs where
  txt := fun e he => f.txt e (pm.mem_iff.mp he)
  once := (pm.map nameOf).nodup_iff.mpr f.once
  mem := fun x => (pm.map nameOf).mem_iff.trans (f.mem x)
  few := by rw [← Array.length_toList, pm.length_eq, Array.length_toList]; exact f.few
  fits := fits
  ris := ris
  led := by rw [led]; exact f.led
/-- one more -/
theorem Fine.more (f : Fine w es t xs) (h : x ∉ xs) : Fine w (layNew t es (hashStr w x) (.str x u)).1 (layNew t es (hashStr w x) (.str x u)).2.1 (xs ++ [x]) := by
  have pm : (layNew t es (hashStr w x) (.str x u)).1.toList.Perm ((hashStr w x, Value.str x u) :: es.toList) := (layNew_perm t es _ _).trans (by rw [Array.toList_push]; exact List.perm_append_singleton _ _)
  have pn := pm.map nameOf
  have new : x ∉ es.toList.map nameOf := fun z => h ((f.mem x).mp z)
  refine ⟨fun e he => ?_, pn.nodup_iff.mpr (List.nodup_cons.mpr ⟨new, f.once⟩), fun y => ?_, ?_, layNew_fits t es _ _, layNew_ris t es _ _ f.ris, by rw [layNew_led]; exact f.led⟩
  · rcases List.mem_cons.mp (pm.mem_iff.mp he) with rfl | z
    · exact ⟨x, u, rfl⟩
    · exact f.txt e z
  · rw [pn.mem_iff, List.map_cons, List.mem_cons, f.mem, List.mem_append, List.mem_singleton]
    exact Or.comm
  · rw [← Array.length_toList, pm.length_eq, List.length_cons, Array.length_toList, List.length_append]
    exact Nat.add_le_add_right f.few 1
end
/-- the set of the texts xs, at a -/
def SetS (w : World) (h : Heap) (a : Addr) (xs : List Str) : Prop := ∃ o es ep t, h.get? a = some o ∧ o.ExactSet ∧ o.data = .set es ep t ∧ Fine w es t xs
section
variable {P : Program} {w : World} {A : Around} {E : Value → Shared → Prop} {s : Shared} {a : Addr} {xs : List Str}
theorem SetS.at {h h' : Heap} (S : SetS w h a xs) (k : ∀ o, h.get? a = some o → h'.get? a = some o) : SetS w h' a xs := by
  obtain ⟨o, es, ep, t, g, r⟩ := S
  exact ⟨o, es, ep, t, k o g, r⟩
end
end W1S
set_option maxRecDepth 100000
set_option maxHeartbeats 4000000
namespace W1S
open PySem PySem.Spec PyProof.Rows L2
section
variable {P : Program} {w : World} {A : Around} {E : Value → Shared → Prop} {s : Shared}
end
end W1S
set_option maxRecDepth 100000
set_option maxHeartbeats 4000000
namespace W1S
open PySem PySem.Spec PyProof.Rows L2
section
variable {P : Program} {w : World} {A : Around} {E : Value → Shared → Prop} {s : Shared}
end
end W1S
set_option maxRecDepth 100000
set_option maxHeartbeats 4000000
namespace W1S
open PySem PySem.Spec PyProof.Rows L2 TL
section
variable {P : Program} {w : World} {A : Around} {E : Value → Shared → Prop} {s : Shared}
/-- what stays while something is gathered -/
structure Kept (s s1 : Shared) : Prop where
  heap : ∀ b o, s.heap.get? b = some o → s1.heap.get? b = some o
  size : s.heap.objs.size ≤ s1.heap.objs.size
  gens : s1.gens = s.gens
  os : s1.os = s.os
/-- sorted of what gives just the texts ss, in whatever order -/
theorem sorted_txt {a : Addr} {ss : List Str} {Q : Value → Shared → Prop} (few : ss.length < 64)
    (gather : ∀ Q' : List Value → Shared → Prop, (∀ s1 vs ys, Kept s s1 → StrsAre vs ys → ys.Perm ss → Q' vs s1) → wpAny (model P w) A.in1 (collect (.ref a)) Q' E s)
    (q : ∀ s2 p (out : Array Value) (c : Nat) ys, Kept s s2 → s.heap.objs.size ≤ p → s2.heap.get? p = some (seqObj "list" out c) → StrsAre out.toList ys → ys.Perm ss → sortedS ys = true → Q (.ref p) s2) :
    wpAny (model P w) A (call (.builtin "sorted") [.ref a]) Q E s := by
  refine Calls.call_function_entry kind_sorted plain_sorted entry_sorted (args_sorted1 _) ?_
  unfold Builtin.«sorted»
  refine wpAny_bind (m := checkCount "sorted" 1 1 _) (wpAny_pure (wpAny_bind (gather _ fun s1 vs ys kept txt pm => ?_)))
  have n64 : vs.length < 64 := by rw [StrsAre.len_eq txt, pm.length_eq]; exact few
  refine wpAny_bind (wpAny_newList ?_ (by rw [sizeLine_eq]; omega))
  have mine : (s1.heap.push (seqObj "list" vs.toArray 0)).get? s1.heap.objs.size = some (seqObj "list" vs.toArray 0) := Heap.get?_push_size _ rfl
  refine wpAny_bind (wpAny_holding (wpAny_call_entry slot_list_sort ⟨_, mine, rfl⟩ entry_list_sort (list_sort_treeK strKind_oneLt mine txt.keysOf (fun v1 v2 r e => keyKind_strs (by rw [← e]; exact txt)) n64 fun st perm sorted => ⟨_, rfl, ?_⟩) (args_list_sort _)))
  obtain ⟨zs, h1, h2, h3⟩ := sorted_out_str txt perm sorted
  obtain ⟨c, at_⟩ := sortedHeap_at (vs := vs) (out := (arrOf st).map (·.2)) mine
  refine wpAny_pure ⟨_, rfl, q _ s1.heap.objs.size _ c zs ⟨fun b o e => ?_, ?_, kept.gens, kept.os⟩ kept.size at_ h1 (h2.trans pm) h3⟩
  · have e1 := kept.heap b o e
    have lt := Heap.lt_size e1
    show (sortedHeap _ _ vs _).get? b = some o
    rw [sortedHeap_old (Nat.ne_of_lt lt) (by rw [size_push']; exact Nat.lt_succ_of_lt lt)]
    exact Heap.get?_push_of_some _ e1
  · exact Nat.le_trans kept.size (Nat.le_of_lt (Heap.lt_size at_))
end
/-! ### as calls over the layer -/
section
variable {X : Cx}
end
end W1S
namespace W1
open PySem PySem.Spec PyProof.Rows L2 NdefX TL NumText
/-- each once, in order -/
def uniq : List Str → List Str
  | [] => []
  | x :: r => if x ∈ uniq r then uniq r else x :: uniq r
theorem uniq_mem : ∀ {xs : List Str} {x : Str}, x ∈ uniq xs ↔ x ∈ xs
  | [], x => Iff.rfl
  | y :: r, x => by
    unfold uniq
    split
    · next h => rw [uniq_mem, List.mem_cons]; exact ⟨.inr, fun z => z.elim (fun e => e ▸ uniq_mem.mp h) id⟩
    · rw [List.mem_cons, List.mem_cons, uniq_mem]
theorem uniq_nodup : ∀ xs : List Str, (uniq xs).Nodup
  | [] => List.nodup_nil
  | y :: r => by
    unfold uniq
    split
    · exact uniq_nodup r
    · next h => exact List.nodup_cons.mpr ⟨h, uniq_nodup r⟩
section
variable {F : Fx} {ω w : Ow} {xs : List Str}
end
end W1
set_option maxRecDepth 100000
set_option maxHeartbeats 4000000
namespace W1S
open PySem PySem.Spec PyProof.Rows L2 TL
section
variable {prog : Program} {w : World} {A : Around} {E : Value → Shared → Prop} {s : Shared} {K : Type} [DecidableEq K] {knd : KeyKind prog w K}
end
section
variable {X : Cx}
end
end W1S
namespace W1
open PySem PySem.Spec PyProof.Rows L2 NdefX TL NumText
end W1
set_option maxRecDepth 100000
set_option maxHeartbeats 2000000
namespace W1
open PySem PySem.Spec PyProof.Rows L2 NdefX TL NumText

/-! ### freezing what others hold -/
def Fz (q : Addr) (fs : List (Key × Rl)) (G : Hp) : Prop := ∃ od vs, G q = some (.frz od (.dK vs)) ∧ NR fs vs G
def Tr (q : Addr) (fs : List (Key × Rl)) (R R' : Rl) : Prop := ∀ v G, Fz q fs G → R.r v G → R'.r v G
def TrO (q : Addr) (fs : List (Key × Rl)) (O O' : Ol) : Prop := ∀ o G, Fz q fs G → O.c o G → O'.c o G
inductive TrL (q : Addr) (fs : List (Key × Rl)) : List Rl → List Rl → Prop where
  | nil : TrL q fs [] []
  | cons {R R' : Rl} {Rs Rs' : List Rl} (h : Tr q fs R R') (t : TrL q fs Rs Rs') : TrL q fs (R :: Rs) (R' :: Rs')
inductive TrS (q : Addr) (fs : List (Key × Rl)) : Ty → Ty → Prop where
  | nil : TrS q fs [] []
  | gone {ρ ρ' : Ty} {R : Option Rl} (t : TrS q fs ρ ρ') : TrS q fs (R :: ρ) (Option.none :: ρ')
  | held {ρ ρ' : Ty} {R R' : Rl} (h : Tr q fs R R') (t : TrS q fs ρ ρ') : TrS q fs (Option.some R :: ρ) (Option.some R' :: ρ')
inductive TrW (q : Addr) (fs : List (Key × Rl)) : Ow → Ow → Prop where
  | nil : TrW q fs [] []
  | cons {p : Addr} {O O' : Ol} {w w' : Ow} (h : TrO q fs O O') (t : TrW q fs w w') : TrW q fs ((p, O) :: w) ((p, O') :: w')
section
variable {q : Addr} {fs : List (Key × Rl)} {R : Rl} {O : Ol} {Rs Rs' : List Rl} {ρ ρ' : Ty} {w w' : Ow}
theorem Tr.same : Tr q fs R R := fun _ _ _ h => h
theorem TrO.same : TrO q fs O O := fun _ _ _ h => h
theorem Tr.ref : Tr q fs (rRef q) (rDct fs) := fun v G ⟨od, vs, a, b⟩ e => ⟨q, od, vs, e, a, b⟩
theorem TrL.all (t : TrL q fs Rs Rs') : ∀ {vs : List V} {G : Hp}, Fz q fs G → All2 Rs vs G → All2 Rs' vs G := by
  induction t with
  | nil => intro vs G _ h; exact h
  | cons h t ih =>
    intro vs G z a
    match vs, a with
    | v :: vs, ⟨a1, a2⟩ => exact ⟨h v G z a1, ih z a2⟩
theorem Tr.lst (t : TrL q fs Rs Rs') : Tr q fs (rLst Rs) (rLst Rs') := fun v G z ⟨p, vs, a, b, c⟩ => ⟨p, vs, a, b, t.all z c⟩
theorem TrO.lst (t : TrL q fs Rs Rs') : TrO q fs (oL Rs) (oL Rs') := fun o G z ⟨vs, a, c⟩ => ⟨vs, a, t.all z c⟩
theorem TrL.refl : ∀ {Rs : List Rl}, TrL q fs Rs Rs
  | [] => .nil
  | _ :: _ => .cons Tr.same TrL.refl
theorem TrW.refl : ∀ {w : Ow}, TrW q fs w w
  | [] => .nil
  | _ :: _ => .cons TrO.same TrW.refl
theorem TrS.refl : ∀ {ρ : Ty}, TrS q fs ρ ρ
  | [] => .nil
  | none :: _ => .gone TrS.refl
  | some _ :: _ => .held Tr.same TrS.refl
theorem TrS.at (t : TrS q fs ρ ρ') : ρ.length = ρ'.length ∧ ∀ (i : Nat) R', ρ'[i]? = some (some R') → ∃ R, ρ[i]? = some (some R) ∧ Tr q fs R R' := by
  induction t with
  | nil => exact ⟨rfl, fun i R' e => by simp at e⟩
  | gone t ih =>
    refine ⟨by rw [List.length_cons, List.length_cons, ih.1], fun i R' e => ?_⟩
    cases i with
    | zero => cases e
    | succ i => exact ih.2 i R' e
  | held h t ih =>
    refine ⟨by rw [List.length_cons, List.length_cons, ih.1], fun i R' e => ?_⟩
    cases i with
    | zero =>
      cases e
      exact ⟨_, rfl, h⟩
    | succ i => exact ih.2 i R' e
theorem TrW.at (t : TrW q fs w w') : keys w = keys w' ∧ ∀ p ∈ w', ∃ O, (p.1, O) ∈ w ∧ TrO q fs O p.2 := by
  induction t with
  | nil => exact ⟨rfl, fun p h => by cases h⟩
  | @cons p O O' w w' h t ih =>
    refine ⟨by unfold keys at ih ⊢; rw [List.map_cons, List.map_cons, ih.1], fun z hz => ?_⟩
    rcases List.mem_cons.mp hz with rfl | hz
    · exact ⟨O, List.mem_cons_self, h⟩
    · obtain ⟨O2, h1, h2⟩ := ih.2 z hz
      exact ⟨O2, List.mem_cons_of_mem _ h1, h2⟩
end
section
variable {F : Fx} {ρ ρ' : Ty} {ω w w' w1 w2 : Ow} {e a b o : Expr} {es : List Expr} {R : Rl} {Rs As : List Rl} {O : Ol} {q : Addr} {fs : List (Key × Rl)} {K : Kn} {rest : List Stmt} {pos p : Pos} {x : Str}
/-! ### a new thing from a built-in, from a method -/
def CopN (F : Fx) (ω : Ow) (f : Value) (As : List Rl) (O : Ol) : Prop :=
  ∃ r : List V → Hp → VK → Prop, CallR F.X f r ∧ ∀ xs G H, At F ω G H → All2 As xs G → ∀ Q : VK, (∀ q G2 H2, q ∉ F.M → Same G G2 → At F ((q, O) :: ω) G2 H2 → Q (.ref q) H2) → r xs H Q
theorem en_bA {id : String} (ha : AR F ρ ω (e :: es) As w1) (hm : F.X.mg x = none) (hv : bootBuiltins x = some (.builtin id)) (hc : CopN F w1 (.builtin id) As O) (hg : Gl F.X x := by rfl) (hn : x ≠ "__name__" := by decide) (hdb : (x == ("__debug__" : Str)) = false := by decide)
    (he : starEach (e :: es) F.X.env = (false, eval e F.X.env) :: starEach es F.X.env := by rfl) (hpl : (backTo pos (starEach es F.X.env)).any (·.1) = false := by rfl) : EN F ρ ω (.Call (.Name x p) (e :: es) [] pos) O w1 := fun σ G H at_ sl Q q => by
  obtain ⟨r, ho, k⟩ := hc
  refine ew_of (pe_callB ho hg hm hv pa_w hn hdb he hpl) (ha σ G H at_ sl _ fun vs G2 H2 s a r => ?_)
  exact k vs G2 H2 a r Q fun v G3 H3 hM s3 a3 => q v G3 H3 hM (s.trans s3) a3
theorem copN_sortedS {xs : List Str} (hz : xs.length < 64) : CopN F ω (.builtin "sorted") [rLst (xs.map rStr)] (oL ((srt xs).map rStr)) := ⟨_, cr_sortedS, fun us G H at_ hx Q q => by
  obtain ⟨x, rfl, p, vs, rfl, h1, h2⟩ := all1 hx
  rw [str_vals h2] at h1
  refine ⟨p, xs, rfl, SqL.of (at_.gh _ _ h1), hz, fun ys p2 pm sorted hp => ?_⟩
  rw [srt_only pm sorted]
  exact q p2 _ _ (fun hm => at_.mm p2 hm hp) (Same.refl _) (at_.own hp ⟨_, rfl, vals_str _⟩)⟩
def Kmn (P : Program) (w : World) (K : PySem.W.Frag) (mg : Str → Option Value) (base : Heap) (C : Addr) (m : Str) (k : Nat) (pre : PreN) : Prop := ∃ f fd ps, Meth K C m f ∧ Binds K fd ps [] ∧ FnOk P w K mg base (L2.CX P w) k f fd ps (spN pre)
theorem en_m0 {C : Addr} {m : Str} {k : Nat} {pre : PreN} {gs : List (Str × Rl)} {apos : Pos} {pl : Sem Bool} (T : Kmn F.X.prog F.X.w F.X.K F.X.mg F.X.base C m k pre) (hc : Cls F.X.K C) (hr : Room k F.X.A) (ho : ER F ρ ω o (rIns C gs) w) (hp : pre [rIns C gs] [] O []) (hno : gs.lookup m = none := by rfl)
    (ht : eval (.Call (.Attribute o m apos) [] [] pos) F.X.env = (do
      let ov ← eval o F.X.env
      standAt apos.atName
      let (f, first) ← holding [ov] (getMethod ov m pl)
      callWith pos f first (backTo pos (starEach [] F.X.env)) (backToKw pos (keywordEach [] F.X.env))) := by rfl) :
    EN F ρ ω (.Call (.Attribute o m apos) [] [] pos) O w := fun σ G H at_ sl Q q => by
  obtain ⟨f, fd, ps, hm, hb, Fn⟩ := T
  refine ew_of (pe_methS0 (E := WE F.W) pe_w hc hm Fn hr hb passW ht) (ho σ G H at_ sl _ fun v G1 H1 s1 a1 r1 => ?_)
  obtain ⟨a, dx, vs, rfl, h1, h2⟩ := id r1
  refine ⟨a, dx, vs, rfl, a1.gh _ _ h1, h2.lookN hno, [rIns C gs], [], O, [], G1, hp, a1.gh, ⟨r1, trivial⟩, fun _ h => (by cases h), List.nodup_nil, rfl, fun q2 G2 H2 hq st hh => ?_⟩
  obtain ⟨hM, a3⟩ := At.newcall (wc := []) (wc' := []) (w := w) a1 st hq hh rfl
  exact q q2 G2 H2 hM (s1.trans st.gg) a3
/-! ### a comprehension whose elements may make new things -/
variable {tg it elt : Expr} {scope : Scope} {S : Rl}
theorem eg_lc1 {Φ : Rl → Ow → Prop} (i : Nat) (hi : F.X.N[i]? = some x) (hpg : ∀ (s : Shared) (H : Hp) (C : Addr) (cl : List (Str × Addr)) (fp : List Addr), PG (F.X.blk s H scope (compEnvC scope cl C F.X.env) fp) (.Name x p) (gName i))
    (ok : BlkOk F.X.N F.X.env.scope scope [(x, i)]) (hit : IT F ρ ω (.Name x p) it Rs w1) (hz : Rs.length ≤ 100000) (I : Nat → List Rl → Ow → Prop) (h0 : I 0 [] w1)
    (he : ∀ (j : Nat) S Bs w, Rs[j]? = some S → I j Bs w → ∀ s H0 C cl fp d, EG (blkF F s H0 scope C cl fp) ((ρ.set i none).set i (some S)) (d :: w) elt fun R w' => ∃ w2, w'.Perm (d :: w2) ∧ I (j + 1) (Bs ++ [R]) w2)
    (hl : ∀ j Bs w, I j Bs w → Bs.length = j) (hf : ∀ Bs w, I Rs.length Bs w → Φ (rLst Bs) w)
    (hN : F.X.N.Nodup := by assumption) (hc : F.X.calm = true := by rfl) (hs : ∀ z, foldedSetIterable it F.X.env z = pure z := by intro _; rfl) : EG F ρ ω (.ListComp elt [⟨.Name x p, it, [], 0⟩] scope pos) Φ := fun σ G H at_ sl Q q => by
  obtain ⟨wi, hpi, hwi⟩ := hit
  refine ew_of (pe_lc hc hN hpi ok hpg (fun _ _ _ _ _ => pts_nil) (te := fun σ H Q => ∀ s H0 C cl fp, EW (F.X.blk s H0 scope (compEnvC scope cl C F.X.env) fp) elt σ H Q) (fun _ _ _ _ _ => ⟨fun pins s σ H Q I h => h _ _ _ _ _ pins s I⟩) hs) ?_
  refine hwi σ G H at_ sl _ fun J G2 H2 s2 a2 y2 => fun D hD => ?_
  have hM : D ∉ F.M := fun hm => a2.mm D hm hD
  refine ⟨fun j m H => m = Rs.length - j ∧ j ≤ Rs.length ∧ ∃ G Bs w, At F ((D, oL Bs) :: w) G H ∧ Same G2 G ∧ I j Bs w, ⟨Rs.length, by simp, Nat.zero_le _, G2, [], w1, a2.own hD ⟨[], rfl, trivial⟩, Same.refl _, h0⟩, ?_⟩
  rintro j m H1 ⟨rfl, hj, G1, Bs, w, a1, s1, inv⟩
  by_cases hlt : j < Rs.length
  · have hgo : Rs[j]? = some Rs[j] := List.getElem?_eq_getElem hlt
    refine .inr ⟨y2.go j G1 H1 s1 a1.gh hlt, fun H' => ∃ G Bs w, At F ((D, oL Bs) :: w) G H' ∧ Same G2 G ∧ I (j + 1) Bs w, fun H' z => ⟨Rs.length - (j + 1), by omega, rfl, hlt, z⟩, fun v H' y => ?_⟩
    obtain ⟨G3, st, rx⟩ := y2.yld j Rs[j] G1 H1 v H' s1 a1.gh hgo y
    have a3 := a1.step st
    have s3 := s1.trans st.gg
    refine gew_name v σ G3 H' _ a3.gh ((sl.up s2).up s3) rx fun σ2 hw sl2 => ⟨hw, ?_⟩
    unfold tYes
    dsimp only
    rw [if_pos rfl]
    intro s H0 C cl fp
    refine he j _ Bs w hgo inv s H0 C cl fp (D, oL Bs) σ2 G3 H' a3.to sl2 _ ?_
    rintro u G5 H5 R w' ⟨w2, pm, inv2⟩ s5 a5' r5
    have a5 : At F ((D, oL Bs) :: w2) G5 H5 := (At.to (F := blkF F s H0 scope C cl fp) (F' := F) a5').perm pm
    obtain ⟨_, _, ob, h1, vs, rfl, h2⟩ := a5.ow _ List.mem_cons_self
    refine ⟨vs, h1, Nat.lt_of_le_of_lt (by rw [← h2.len, hl _ _ _ inv]; exact Nat.le_trans hj hz) (by decide), G5, Bs ++ [R], w2, a5.chg ⟨_, rfl, h2.app (mk1 r5)⟩, s3.trans s5, inv2⟩
  · have ej : j = Rs.length := by omega
    subst ej
    refine .inl ⟨y2.stop G1 H1 s1 a1.gh, ?_⟩
    obtain ⟨hg0, _, ob, h1, vs, rfl, h2⟩ := a1.ow _ List.mem_cons_self
    have a5 := a1.pub h1 (At.own0 a1 hM)
    have sg : Same G1 (upd G1 D (.lst vs)) := fun b u e => by rw [upd_ne (ne_of_none e hg0)]; exact e
    exact q _ _ _ _ _ (hf Bs w inv) ((s2.trans s1).trans sg) a5 ⟨D, vs, rfl, upd_same, h2.up sg⟩
end
/-! ### == of dicts inside lists -/
end W1
set_option maxRecDepth 100000
set_option maxHeartbeats 2000000
namespace W1
open PySem PySem.Spec PyProof.Rows L2 TL NumText

/-! ### data, compared whole -/
section
variable {K : PySem.W.Frag} {A : Rl} {As : List Rl} {d e : PyData} {ds : List PyData}
end
section
variable {F : Fx} {w : Ow} {A B : Rl} {d e : PyData} {n : Nat}
end
/-! ### a text, some times over -/
/-! ### range by steps, enumerate -/
theorem fits {i : Int} (h1 : -2000000 ≤ i) (h2 : i ≤ 2000000) : Builtin.Range.rangeFitsLong i = true := by
  unfold Builtin.Range.rangeFitsLong
  rw [decide_eq_true (by omega), decide_eq_true (by omega)]
  rfl
section
variable {F : Fx} {ρ ρ1 : Ty} {ω w1 : Ow} {tg e e2 e3 : Expr} {pos p : Pos} {Rs : List Rl} {R : Rl}
/-- the things with their numbers -/
def numR (Rs : List Rl) : List Rl := Rs.zipIdx.map fun p => rTup [rInt (p.2 : Int), p.1]
theorem numR_len : (numR Rs).length = Rs.length := by unfold numR; rw [List.length_map, List.length_zipIdx]
theorem numR_get {i : Nat} {S : Rl} (h : (numR Rs)[i]? = some S) : ∃ R, Rs[i]? = some R ∧ S = rTup [rInt (i : Int), R] := by
  unfold numR at h
  rw [List.getElem?_map, List.getElem?_zipIdx] at h
  cases e : Rs[i]? with
  | none => rw [e] at h; cases h
  | some R =>
    rw [e] at h
    cases h
    exact ⟨R, rfl, by show rTup [rInt ((0 + i : Nat) : Int), R] = _; rw [Nat.zero_add]⟩
theorem yld_num {K : PySem.W.Frag} {a : Addr} {vs : List V} {G : Hp} (h1 : SqL K G a vs) (h2 : All2 Rs vs G) : Yld (Ite K a) (numR Rs) G where
  go := fun i G' H' s1 s2 hi => by
    rw [numR_len, h2.len] at hi
    exact ⟨vs, vs[i], sql_up (s1.trans s2) h1, List.getElem?_eq_getElem hi⟩
  stop := fun G' H' s1 s2 => ⟨vs, sql_up (s1.trans s2) h1, by rw [numR_len, h2.len]; exact Nat.le_refl _⟩
  yld := fun i S G' H' x H'' s1 s2 hS y => by
    obtain ⟨T, u, rfl, hT, rfl, hu⟩ := y
    obtain ⟨R, hR, rfl⟩ := numR_get hS
    obtain ⟨v, hv, rv⟩ := h2.get hR
    have e := hu vs (sql_up (s1.trans s2) h1)
    rw [hv] at e
    cases e
    have st := Step.new (o := .tup [.int (i : Nat), u]) s2 hT
    exact ⟨_, st, T, _, rfl, upd_same, mk2 rfl (R.mo _ _ _ (s1.trans st.gg) rv)⟩
theorem it_enumL {elts : List Expr} {kk : Nat} {tpos : Pos} (he : AR F ρ ω [e] [rLst Rs] w1) (hg : Gl F.X "enumerate") (hm : F.X.mg "enumerate" = none) (hs : starEach [e] F.X.env = [(false, eval e F.X.env)] := by rfl) :
    IT F ρ ω (.Tuple elts kk tpos) (.Call (.Name "enumerate" p) [e] [] pos) (numR Rs) w1 := ⟨_, pi_enum hg hm pa_w hs, fun σ G H at_ sl R k => he σ G H at_ sl _ fun vs G2 H2 s a r => by
  obtain ⟨x, rfl, p', us, rfl, h1, h2⟩ := all1 r
  exact ⟨p', us, rfl, SqL.of (a.gh _ _ h1), k _ G2 H2 s a (yld_num (SqL.of h1) h2)⟩⟩
end
/-! ### l += a list, l an owned one; len of an owned one -/
section
variable {X : Cx}
end
end W1
set_option maxRecDepth 100000
set_option maxHeartbeats 2000000
namespace W1
open PySem PySem.Spec PyProof.Rows L2 TL NumText

/-! ### sorted, of any length -/
/-- a call, by what it does -/
theorem callR_sem {X : Cx} {f : Value} {T : List V → Hp → VK → Prop} (h : ∀ pins s σ H xs us Q, Inv X pins σ H s → Vals xs us → T xs H Q → wpAny (model X.prog X.w) X.A (call f us) (EP X pins σ Q) X.xe s) : CallR X f T := fun pins s σ H xs us Q I r t => h pins s σ H xs us Q I r t
/-- what stands in a new list behind a call -/
theorem new_list {X : Cx} {pins : List (Addr × Obj)} {σ : L2.St} {H : Hp} {s : Shared} {vs out : List Value} {ws : List V} {Q : VK} (I : Inv X pins σ H s) (r : Vals ws out) (hz : ws.length ≤ sizeLine) (q : ∀ p, H p = none → Q (.ref p) (upd H p (.lst ws))) :
    EP X pins σ Q (.ref (s.heap.objs.size + 1)) { s with heap := sortedAll s.heap vs out.toArray } := by
  obtain ⟨ep, h⟩ := sortedAll_at s.heap vs out.toArray
  exact ⟨.ref (s.heap.objs.size + 1), upd H (s.heap.objs.size + 1) (.lst ws), I.laid (t' := s.toks) (o := .lst ws) (fun _ _ => sortedAll_old) (Nat.le_succ _) ⟨hz, out, ep, r, h⟩, rfl, q _ (I.hok.fresh (Nat.le_succ _))⟩
def rSortA (K : PySem.W.Frag) : List V → Hp → VK → Prop := fun vs H Q => ∃ (a : Addr) (xs : List Str), vs = [V.ref a] ∧ SqL K H a (xs.map V.str) ∧ ∀ p, H p = none → Q (.ref p) (upd H p (.lst ((srt xs).map V.str)))
theorem cr_sortA {X : Cx} : CallR X (.builtin "sorted") (rSortA X.K) := callR_sem fun pins s σ H vs us Q I r t => by
  obtain ⟨a, xs, rfl, hs, q⟩ := t
  obtain ⟨its, rv, hl, hz⟩ := I.list hs
  cases r with
  | cons r0 r1 =>
    cases r1
    cases r0
    refine sorted_strsAny hl.isList rv.strs (by rw [← rv.length]; exact hz) fun out ys h1 h2 h3 => ?_
    have e := srt_only h2 h3
    subst e
    have z : ((srt xs).map V.str).length ≤ sizeLine := by
      rw [List.length_map, (srt_perm xs).length_eq]
      rw [List.length_map] at hz
      exact hz
    have := new_list (vs := its) (out := out.toList) (ws := (srt xs).map V.str) (Q := Q) I (vals_of_strs h1) z q
    exact this
theorem copA {F : Fx} {w : Ow} {xs : List Str} : Cop F w (.builtin "sorted") [rLst (xs.map rStr)] (rLst ((srt xs).map rStr)) := ⟨_, cr_sortA, fun us G H at_ hx Q q => by
  obtain ⟨x, rfl, p, vs, rfl, h1, h2⟩ := all1 hx
  rw [str_vals h2] at h1
  refine ⟨p, xs, rfl, SqL.of (at_.gh _ _ h1), fun l hl => ?_⟩
  have st := Step.new (o := .lst ((srt xs).map V.str)) at_.gh hl
  exact q _ _ _ st.gg (at_.step st) ⟨l, _, rfl, upd_same, vals_str _⟩⟩
/-! ### sorted pairs of a name and a number -/
def shP : Nat → Bool := fun i => i == 0
def keyP (p : Str × Int) : List (Int ⊕ List Nat) := [.inr (tl p.1), .inl p.2]
/-- such a pair in the heap -/
def IsP (h : Heap) (u : Value) (p : Str × Int) : Prop := ∃ t o t1 t2 n, u = .ref t ∧ h.get? t = some o ∧ o.cls = .type "tuple" ∧ o.data = .seq #[.str p.1 t1, .int p.2 t2] n
theorem IsP.key {h : Heap} {u : Value} {p : Str × Int} (k : IsP h u p) : tupKey h shP u = some (keyP p) := by
  obtain ⟨t, o, t1, t2, n, rfl, ho, hc, hd⟩ := k
  unfold tupKey
  simp only [ho, hd, tupItems, shP]
  rfl
theorem IsP.up {h h' : Heap} {u : Value} {p : Str × Int} (k : IsP h u p) (s : ∀ b o, h.get? b = some o → o.cls = .type "tuple" → h'.get? b = some o) : IsP h' u p := by
  obtain ⟨t, o, t1, t2, n, e, ho, hc, hd⟩ := k
  exact ⟨t, o, t1, t2, n, e, s _ _ ho hc, hc, hd⟩
/-! ### lists that are owned: len, a text's split as one, += -/
section
variable {F : Fx} {ρ : Ty} {ω w w1 w2 : Ow} {e o : Expr} {es : List Expr} {A R : Rl} {As Rs Ss : List Rl} {K : Kn} {rest : List Stmt} {q : Addr} {pos p apos : Pos} {x : Str} {y z : Str}
theorem cop_lenO (h : (q, oL Rs) ∈ w) : Cop F w (.builtin "len") [rRef q] (rInt (Rs.length : Int)) := by
  refine ⟨_, call_len_seq, fun xs G H at_ hx Q k => ?_⟩
  obtain ⟨v, rfl, hv⟩ := all1 hx
  cases (show v = V.ref q from hv)
  obtain ⟨_, _, o, h1, vs, rfl, h2⟩ := at_.ow _ h
  have e2 : (vs.length : Int) = (Rs.length : Int) := by rw [h2.len]
  exact ⟨q, vs, rfl, .inl (SqL.of h1), k _ G H (Same.refl _) at_ (congrArg V.int e2)⟩
end
end W1
set_option maxRecDepth 100000
set_option maxHeartbeats 2000000
namespace W1
open PySem PySem.Spec PyProof.Rows L2 TL NumText

/-! ### a comprehension that carries a state from turn to turn: tested, then made -/
section
variable {F : Fx} {ρ : Ty} {ω w w1 w2 : Ow} {e o it elt c : Expr} {es : List Expr} {A R : Rl} {As Rs Ss : List Rl} {K : Kn} {rest : List Stmt} {q : Addr} {pos p apos spos py : Pos} {x y : Str} {scope : Scope} {α β γ : Type}
/-! ### l += a list; a split that is owned -/
end
end W1
set_option maxRecDepth 100000
set_option maxHeartbeats 2000000
namespace W1
open PySem PySem.Spec PyProof.Rows L2 TL NumText
section
variable {F : Fx} {ρ : Ty} {ω w1 w2 : Ow} {a b : Expr} {A : Rl} {fs : List (Key × Rl)} {k : Key} {n : Nat} {pos : Pos}
end
end W1
set_option maxRecDepth 100000
set_option maxHeartbeats 2000000
namespace W1
open PySem PySem.Spec PyProof.Rows L2 TL NumText
/-! ### what raises inside: arguments, a if c else b -/
section
variable {F : Fx} {ρ : Ty} {ω w w1 w2 : Ow} {a b c e : Expr} {es : List Expr} {R : Rl} {P : Er} {pos p : Pos} {x : Str} {k : Nat} {C : Addr} {pre : Pre}
end
/-! ### cut at a sign, or at some -/
end W1
set_option maxRecDepth 100000
set_option maxHeartbeats 2000000
namespace W1
open PySem PySem.Spec PyProof.Rows L2 TL NumText
/-! ### a comprehension over pairs -/
theorem gew_tup2 {K : PySem.W.Frag} {i j : Nat} {ρ : Ty} {R S : Rl} : GEw (gTup K 2 (gCons (gName i) (gCons (gName j) gNil))) [i, j] ρ (rTup [R, S]) ((((ρ.set j none).set i none).set i (some R)).set j (some S)) := fun v σ G H Q s sl r q => by
  obtain ⟨a, vs, rfl, h1, h2⟩ := r
  obtain ⟨x, y, rfl, hx, hy⟩ := all2 h2
  refine ⟨a, [x, y], rfl, SqT.of (s _ _ h1), rfl, x, [y], rfl, y, [], rfl, rfl, q _ ?_ ((((sl.gone j).gone i).set i hx).set j hy)⟩
  show (((((σ.set j none).set i none).set i (some x)).set j (some y)).set j none).set i none = (σ.set j none).set i none
  by_cases e : i = j
  · subst e
    simp only [List.set_set]
  · simp only [List.set_set, List.set_comm (i := i) (j := j) _ _ e]
/-! ### a thing that is known by a property -/
section
variable {F : Fx} {ρ : Ty} {ω w : Ow} {K : Kn} {rest : List Stmt} {L : Nat}
end
/-! ### lengths and signs of what is cut and joined -/
end W1
set_option maxRecDepth 100000
set_option maxHeartbeats 2000000
namespace W1
open PySem PySem.Spec PyProof.Rows L2

/-! ### promises of several new things -/
abbrev OutG := Except (Er × Ow) (Rl → Ow → Prop)
abbrev PreG := List Rl → Ow → OutG → Prop
def Fresh (ω ω' : Ow) (H : Hp) : Prop := (keys ω').Nodup ∧ (∀ a ∈ keys ω, a ∈ keys ω') ∧ ∀ a ∈ keys ω', a ∈ keys ω ∨ H a = none
def spG (pre : PreG) : Sp := fun vs H Q E => ∃ Rs ω o G, pre Rs ω o ∧ Same G H ∧ All2 Rs vs G ∧ Has ω G H ∧ (keys ω).Nodup ∧
  (match o with
    | .ok Φ => ∀ R ω' v G' H', Φ R ω' → Fresh ω ω' H → StepM (keys ω) G H G' H' → Has ω' G' H' → R.r v G' → Q v H'
    | .error P => keys P.2 = keys ω ∧ ∀ cls d G' H', StepM (keys ω) G H G' H' → Has P.2 G' H' → P.1 cls d G' → E cls d H')
def KfG (ω : Ow) (o : OutG) : Kn where
  nx := fun _ w => ∃ Φ R ω' w0, o = .ok Φ ∧ Φ R ω' ∧ (∀ G, R.r .non G) ∧ (∀ a ∈ keys ω, a ∈ keys ω') ∧ w.Perm (ω' ++ w0)
  rt := fun S w => ∃ Φ R ω' w0, o = .ok Φ ∧ Φ R ω' ∧ (∀ v G, S.r v G → R.r v G) ∧ (∀ a ∈ keys ω, a ∈ keys ω') ∧ w.Perm (ω' ++ w0)
  ex := fun _ w P => ∃ P' ω' w0, o = .error (P', ω') ∧ (∀ cls d G, P cls d G → P' cls d G) ∧ w.Perm (ω' ++ w0)
theorem At.newG {F : Fx} {wc wc' w : Ow} {G H G' H' : Hp} (a : At F (wc ++ w) G H) (s : StepM (keys wc) G H G' H') (f : Fresh wc wc' H) (h : Has wc' G' H') : At F (wc' ++ w) G' H' ∧ ∀ b ∈ keys wc', b ∈ keys wc ∨ b ∉ F.M := by
  have own : ∀ b ∈ keys wc, G b = none ∧ (F.H0 b = none ∨ b ∈ F.M) ∧ H b ≠ none := fun b hb => by
    obtain ⟨p, hp, e⟩ := List.mem_map.mp hb
    obtain ⟨x, y, o, z, _⟩ := a.ow p (List.mem_append_left _ hp)
    exact ⟨by rw [← e]; exact x, by rw [← e]; exact y, by rw [← e, z]; simp⟩
  have nd := a.nd
  rw [List.map_append] at nd
  have kk : ∀ b, b ∈ keys wc → H' b ≠ none := fun b hb => h.some (f.2.1 b hb)
  refine ⟨⟨a.gg.trans s.gg, fun b o hb e => ?_, s.gh, fun b h1 h2 => ?_, fun b hb => ?_, fun p hp => ?_, ?_⟩, fun b hb => ?_⟩
  · refine s.hh b o (fun hm => ?_) (a.hh b o hb e)
    rcases (own b hm).2.1 with z | z
    · rw [z] at e; cases e
    · exact hb z
  · refine s.fr b ?_ (a.fr b h1 h2)
    by_cases hb : b ∈ F.M
    · exact a.mm b hb
    · cases e : F.H0 b with
      | none => exact absurd e h1
      | some o => rw [a.hh b o hb e]; simp
  · by_cases hm : b ∈ keys wc
    · exact kk b hm
    · cases e : H b with
      | none => exact absurd e (a.mm b hb)
      | some o => rw [s.hh b o hm e]; simp
  · rcases List.mem_append.mp hp with hp | hp
    · obtain ⟨x, o, y, z⟩ := h p hp
      refine ⟨x, ?_, o, y, z⟩
      rcases f.2.2 p.1 (List.mem_map_of_mem hp) with hm | hm
      · exact (own p.1 hm).2.1
      · by_cases hM : p.1 ∈ F.M
        · exact .inr hM
        · left
          cases e : F.H0 p.1 with
          | none => rfl
          | some u => rw [a.hh _ u hM e] at hm; cases hm
    · obtain ⟨x, y, o, z, c⟩ := a.ow p (List.mem_append_right _ hp)
      have hm : p.1 ∉ keys wc := fun hm => by
        have := (List.nodup_append.mp nd).2.2 p.1 hm p.1 (List.mem_map_of_mem hp)
        exact this rfl
      exact ⟨s.fr p.1 (by rw [z]; simp) x, y, o, s.hh _ _ hm z, p.2.mo _ _ _ s.gg c⟩
  · rw [List.map_append]
    refine List.nodup_append.mpr ⟨f.1, (List.nodup_append.mp nd).2.1, fun x hx y hy e => ?_⟩
    subst e
    rcases f.2.2 x hx with hm | hm
    · exact (List.nodup_append.mp nd).2.2 x hm x hy rfl
    · obtain ⟨p, hp, e⟩ := List.mem_map.mp hy
      obtain ⟨_, _, o, z, _⟩ := a.ow p (List.mem_append_right _ hp)
      rw [e, hm] at z
      cases z
  · rcases f.2.2 b hb with hm | hm
    · exact .inl hm
    · exact .inr fun hM => a.mm b hM hm
theorem fn_okG {P : Program} {w : World} {K : PySem.W.Frag} {mg : Str → Option Value} {base : Heap} {x qual : Str} {st : Stmt} {f : Addr} {fd : FuncData} {N ps : List Str} {k : Nat} {pre : PreG} (Fn : Fun K x qual st f fd) (S : FnScope N ps (defScope st))
    (hl : ∀ Rs ω o, pre Rs ω o → Rs.length = ps.length)
    (hb : ∀ (cdv : Value) (A : Around) (outer : List Env) (s : Shared) (H : Hp) (E : XK) (F : Fx), Room k (A.deeper (envOfC qual (defScope st) s.heap.objs.size f cdv)) → F.X = cxOf (L2.CX P w) P w K mg base N qual (defScope st) f cdv A outer s H E →
      ∀ Rs ω o, pre Rs ω o → F.M = keys ω → HB F (Rs.map some ++ List.replicate (N.length - Rs.length) none) ω (defBody st) (KfG ω o)) : FnOk P w K mg base (L2.CX P w) (k + 1) f fd ps (spG pre) := by
  refine Fn.okX S (fun vs H Q E h => ?_) (fun cdv A outer s H vs Q E hr h => ?_)
  · obtain ⟨Rs, ω, o, G, hp, _, h2, _⟩ := h
    rw [← h2.len]
    exact hl _ _ _ hp
  · obtain ⟨Rs, ω, o, G, hp, hgh, hv, hhas, hnd, hq⟩ := h
    have tk : Takes (cxOf (L2.CX P w) P w K mg base N qual (defScope st) f cdv A outer s H E) (fun cls d _ H => E cls d H) := takes_of rfl rfl rfl rfl
    refine ⟨_, pss_w, hb cdv A outer s H E ⟨cxOf (L2.CX P w) P w K mg base N qual (defScope st) f cdv A outer s H E, G, H, keys ω, fun cls d _ H => E cls d H, tk⟩ hr rfl Rs ω o hp rfl (L2.start N vs) G H _ ?_ ?_ ?_⟩
    · exact ⟨Same.refl _, fun a o _ e => e, hgh, fun a _ e => e, fun a ha => hhas.some ha, fun p hp => let ⟨x, z⟩ := hhas p hp; ⟨x, .inr (List.mem_map_of_mem hp), z⟩, hnd⟩
    · unfold L2.start
      have e := hv.len
      refine ⟨by simp [e], fun i R hi => ?_⟩
      by_cases h : i < Rs.length
      · rw [List.getElem?_append_left (by simpa using h), List.getElem?_map] at hi
        cases h1 : Rs[i]? with
        | none => rw [h1] at hi; cases hi
        | some R' =>
          rw [h1] at hi
          cases hi
          obtain ⟨v, h2, h3⟩ := hv.get h1
          exact ⟨v, by rw [List.getElem?_append_left (by rw [List.length_map, ← e]; exact h), List.getElem?_map, h2]; rfl, h3⟩
      · rw [List.getElem?_append_right (by simpa using h), List.getElem?_replicate] at hi
        split at hi <;> cases hi
    · have fin : ∀ {w0 ω' w1 : Ow} {G' H' : Hp}, w1.Perm (ω' ++ w0) → At ⟨cxOf (L2.CX P w) P w K mg base N qual (defScope st) f cdv A outer s H E, G, H, keys ω, fun cls d _ H => E cls d H, tk⟩ w1 G' H' → StepM (keys ω) G H G' H' ∧ Has ω' G' H' ∧ (keys ω').Nodup ∧ ∀ a ∈ keys ω', a ∈ keys ω ∨ H a = none :=
        fun pm a => by
          have a := At.perm pm a
          refine ⟨⟨a.gg, a.hh, a.gh, a.fr⟩, a.has.left, ?_, fun b hb => ?_⟩
          · have := a.nd
            rw [List.map_append] at this
            exact (List.nodup_append.mp this).1
          · obtain ⟨p, hp, e⟩ := List.mem_map.mp hb
            obtain ⟨_, y, _⟩ := a.ow p (List.mem_append_left _ hp)
            rw [← e]
            rcases y with y | y
            · exact .inr y
            · exact .inl y
      refine ⟨fun ρ w1 hk σ G' H' s a sl => ?_, fun R w1 hk v G' H' s a r => ?_, fun _ _ hk => hk.elim, fun _ _ hk => hk.elim, fun ρ w1 P' hk cls d σ G' H' s a sl hP => ?_⟩
      · obtain ⟨Φ, R, ω', w0, rfl, h1, h2, h3, pm⟩ := hk
        obtain ⟨z1, z2, z3, z4⟩ := fin pm a
        exact hq R ω' _ _ _ h1 ⟨z3, h3, z4⟩ z1 z2 (h2 _)
      · obtain ⟨Φ, R', ω', w0, rfl, h1, h2, h3, pm⟩ := hk
        obtain ⟨z1, z2, z3, z4⟩ := fin pm a
        exact hq R' ω' _ _ _ h1 ⟨z3, h3, z4⟩ z1 z2 (h2 _ _ r)
      · obtain ⟨P'', ω', w0, rfl, h1, pm⟩ := hk
        obtain ⟨z1, z2, z3, z4⟩ := fin pm a
        exact hq.2 _ _ _ _ z1 z2 (h1 _ _ _ hP)
section
variable {F : Fx} {w wc : Ow} {pre : PreG} {Rs : List Rl} {Φ : Rl → Ow → Prop} {vs : List V} {G H : Hp} {Q : VK} {E : XK}
theorem sp_okG (at_ : At F (wc ++ w) G H) (hv : All2 Rs vs G) (hp : pre Rs wc (.ok Φ))
    (q : ∀ R w' v G2 H2, Φ R w' → (∀ b ∈ keys w', b ∈ keys wc ∨ b ∉ F.M) → Same G G2 → At F (w' ++ w) G2 H2 → R.r v G2 → Q v H2) : spG pre vs H Q E :=
  ⟨Rs, wc, .ok Φ, G, hp, at_.gh, hv, at_.has.left, by have := at_.nd; rw [List.map_append] at this; exact (List.nodup_append.mp this).1, fun R w' v G' H' hΦ f s h r => by
    obtain ⟨z1, z2⟩ := at_.newG s f h
    exact q R w' v G' H' hΦ z2 s.gg z1 r⟩
theorem sp_erG {P : Er} {wc' : Ow} (at_ : At F (wc ++ w) G H) (hv : All2 Rs vs G) (hp : pre Rs wc (.error (P, wc'))) (hk : keys wc' = keys wc)
    (q : ∀ cls d G2 H2, Same G G2 → At F (wc' ++ w) G2 H2 → P cls d G2 → E cls d H2) : spG pre vs H Q E :=
  ⟨Rs, wc, .error (P, wc'), G, hp, at_.gh, hv, at_.has.left, by have := at_.nd; rw [List.map_append] at this; exact (List.nodup_append.mp this).1, hk, fun cls d G' H' s h r => q cls d G' H' s.gg (at_.stepM s h hk) r⟩
end
section
variable (P : Program) (w : World) (K : PySem.W.Frag) (mg : Str → Option Value) (base : Heap)
def KfG1 (x : Str) (k : Nat) (pre : PreG) : Prop := ∃ f fd ps, mg x = some (.ref f) ∧ PySem.W.keepIn K (.ref f) = true ∧ Binds K fd ps [] ∧ FnOk P w K mg base (L2.CX P w) k f fd ps (spG pre)
def KcG (C : Addr) (x : Str) (k : Nat) (pre : PreG) : Prop := ∃ f fd ps, mg x = some (.ref C) ∧ Mk K C f ∧ Binds K fd ps [] ∧ FnOk P w K mg base (L2.CX P w) k f fd ps (spG pre)
end
/-- what a call gives, among what was there -/
def NewG (F : Fx) (wc w : Ow) (Φ : Rl → Ow → Prop) : Rl → Ow → Prop := fun R w2 => ∃ w', Φ R w' ∧ (∀ b ∈ keys w', b ∈ keys wc ∨ b ∉ F.M) ∧ w2 = w' ++ w
section
variable {F : Fx} {ρ : Ty} {ω w w1 w2 wc wc' : Ow} {e o : Expr} {es : List Expr} {R S : Rl} {Rs : List Rl} {P : Er} {pos p apos : Pos} {x m : Str} {k : Nat} {C q : Addr} {pre : PreG} {fs : List (Str × Rl)} {Φ : Rl → Ow → Prop} {K : Kn} {rest : List Stmt} {O : Ol}
theorem eg_fG (T : KfG1 F.X.prog F.X.w F.X.K F.X.mg F.X.base x k pre) (hr : Room k F.X.A) (ha : AR F ρ ω (e :: es) Rs (wc ++ w)) (hp : pre Rs wc (.ok Φ))
    (hg : Gl F.X x := by rfl) (hdb : (x == ("__debug__" : Str)) = false := by decide) (he : starEach (e :: es) F.X.env = (false, eval e F.X.env) :: starEach es F.X.env := by rfl) (hpl : (backTo pos (starEach es F.X.env)).any (·.1) = false := by rfl) :
    EG F ρ ω (.Call (.Name x p) (e :: es) [] pos) (NewG F wc w Φ) := fun σ G H at_ sl Q q => by
  obtain ⟨f, fd, ps, h1, h2, h3, h4⟩ := T
  exact ew_of (pe_callS (E := WE F.W) h4 hr hg h1 h2 h3 passW pa_w hdb he hpl) (ha σ G H at_ sl _ fun vs G2 H2 s a r => sp_okG a r hp fun R w' v G3 H3 h k s3 a3 r3 => q v G3 H3 R _ ⟨w', h, k, rfl⟩ (s.trans s3) a3 r3)
theorem ex_fG (T : KfG1 F.X.prog F.X.w F.X.K F.X.mg F.X.base x k pre) (hr : Room k F.X.A) (ha : AR F ρ ω (e :: es) Rs (wc ++ w)) (hp : pre Rs wc (.error (P, wc'))) (hk : keys wc' = keys wc := by rfl)
    (hg : Gl F.X x := by rfl) (hdb : (x == ("__debug__" : Str)) = false := by decide) (he : starEach (e :: es) F.X.env = (false, eval e F.X.env) :: starEach es F.X.env := by rfl) (hpl : (backTo pos (starEach es F.X.env)).any (·.1) = false := by rfl) :
    EX F ρ ω (.Call (.Name x p) (e :: es) [] pos) P (wc' ++ w) := fun σ G H at_ sl q => by
  obtain ⟨f, fd, ps, h1, h2, h3, h4⟩ := T
  exact ew_of (pe_callS (E := WE F.W) h4 hr hg h1 h2 h3 passW pa_w hdb he hpl) (ha σ G H at_ sl _ fun vs G2 H2 s a r => sp_erG a r hp hk fun cls d G3 H3 s3 a3 r3 => q cls d G3 H3 (s.trans s3) a3 r3)
/-- C(..): the new one stays owned -/
theorem eg_cG {Ψ : Addr → Rl → Ow → Prop} (T : KcG F.X.prog F.X.w F.X.K F.X.mg F.X.base C x k pre) (hr : Room (k + 1) F.X.A) (ha : AR F ρ ω (e :: es) Rs (wc ++ w)) (hp : ∀ y, pre (rRef y :: Rs) ((y, oIns C []) :: wc) (.ok (Ψ y))) (hn : ∀ y R w', Ψ y R w' → ∀ v G, R.r v G → v = .non)
    (hg : Gl F.X x := by rfl) (hdb : (x == ("__debug__" : Str)) = false := by decide) (he : starEach (e :: es) F.X.env = (false, eval e F.X.env) :: starEach es F.X.env := by rfl) (hpl : (backTo pos (starEach es F.X.env)).any (·.1) = false := by rfl) :
    EG F ρ ω (.Call (.Name x p) (e :: es) [] pos) (fun R w2 => ∃ y S, y ∉ F.M ∧ R = rRef y ∧ NewG F wc w (Ψ y) S w2) := fun σ G H at_ sl Q q => by
  obtain ⟨f, fd, ps, hm, M, hb, Fn⟩ := T
  refine ew_of (pe_makeS M Fn hr hg hm hb passW pa_w hdb he hpl) (ha σ G H at_ sl _ fun vs G1 H1 s1 a1 r1 => fun y dx hy hdx hne => ?_)
  have a2 : At F (wc ++ w) G1 (upd H1 dx (.own y)) := a1.step (Step.hid a1.gh hdx)
  have hy2 : upd H1 dx (.own y) y = none := by rw [upd_ne (Ne.symm hne)]; exact hy
  have a3 : At F (((y, oIns C []) :: wc) ++ w) G1 (upd (upd H1 dx (.own y)) y (.ins C dx [])) := a2.own hy2 ⟨dx, [], rfl, trivial⟩
  have hM : y ∉ F.M := fun hm => a2.mm y hm hy2
  refine sp_okG (Rs := rRef y :: Rs) (wc := (y, oIns C []) :: wc) a3 ⟨rfl, r1⟩ (hp y) fun R w' v G3 H3 h k s3 a4 r3 => ⟨hn y R w' h v _ r3, ?_⟩
  refine q _ G3 H3 (rRef y) _ ⟨y, R, hM, rfl, w', h, fun b hb => ?_, rfl⟩ (s1.trans s3) a4 rfl
  rcases k b hb with z | z
  · rcases List.mem_cons.mp z with z | z
    · exact .inr (z ▸ hM)
    · exact .inl z
  · exact .inr z
/-- e.f of an owned one -/
theorem er_fldO {f : Str} (ho : ER F ρ ω e (rRef q) w1) (hm : (q, oIns C fs) ∈ w1) (hc : Cls F.X.K C) (hn : NoAttr F.X.K C f) (hl : fs.lookup f = some R) (hb : attributeBase e f F.X.env (eval e F.X.env) = eval e F.X.env := by rfl) :
    ER F ρ ω (.Attribute e f pos) R w1 := fun σ G H at_ sl Q k => by
  refine ew_of (pe_fld pe_w hb) (ho σ G H at_ sl _ fun v G2 H2 s a r => ?_)
  cases (show v = V.ref q from r)
  obtain ⟨_, _, ob, h1, dx, vs, e1, h2⟩ := a.ow _ hm
  subst e1
  obtain ⟨u, h3, h4⟩ := h2.look hl
  exact ⟨q, C, dx, vs, u, rfl, h1, hc, hn, h3, k u G2 H2 s a h4⟩
/-- e.f = a new thing -/
theorem hb_fldN {f : Str} {pos' : Pos} (hv : EN F ρ ω e O w1) (ho : ∀ b, b ∉ F.M → ER F ρ ((b, O) :: w1) o (rRef q) ((q, oIns C fs) :: (b, O) :: w2)) (hc : Cls F.X.K C) (hn : NoAttr F.X.K C f) (h : ∀ b, b ∉ F.M → HB F ρ ((q, oIns C (putR f (rRef b) fs)) :: (b, O) :: w2) rest K) (hl : fs.length < 1000 := by decide)
    (hs : swapsWith e (some (.Attribute o f pos')) pos.line F.X.env = pure false := by rfl) : HB F ρ ω (.Assign [.Attribute o f pos'] e pos :: rest) K := hb_cons fun σ G H D at_ sl ps => by
  refine sw_of (ps_fld pe_w pe_w hs) (hv σ G H at_ sl _ fun b G1 H1 hM s1 a1 => ho b hM σ G1 H1 a1 (sl.up s1) _ fun u G2 H2 s2 a2 r2 => ?_)
  cases (show u = V.ref q from r2)
  obtain ⟨_, _, ob, h1, dx, vs, e1, h2⟩ := a2.ow (q, oIns C fs) List.mem_cons_self
  subst e1
  refine ⟨q, C, dx, vs, rfl, h1, hc, hn, by rw [← h2.len]; exact hl, ?_⟩
  have s12 := s1.trans s2
  exact h b hM σ G2 _ D (a2.chg ⟨dx, _, rfl, h2.put rfl⟩) (sl.up s12) (ps.up s12)
/-- what a field holds is owned no more -/
theorem NR.chg {f : Str} {A B : Rl} {H : Hp} (hAB : ∀ v, A.r v H → B.r v H) : ∀ {fs : List (Str × Rl)} {vs : List (Str × V)}, fs.lookup f = some A → NR fs vs H → NR (putR f B fs) vs H
  | [], _, e, _ => by cases e
  | (g, S) :: fs, (g', u) :: vs, e, ⟨e1, a, b⟩ => by
    subst e1
    unfold putR
    by_cases hg : g = f
    · subst hg
      rw [List.lookup_cons_self] at e
      cases e
      rw [if_pos rfl]
      exact ⟨rfl, hAB _ a, b⟩
    · have hb : (f == g) = false := by simpa using fun z => hg z.symm
      rw [List.lookup_cons, hb] at e
      rw [if_neg hg]
      exact ⟨rfl, a, NR.chg hAB e b⟩
  | _ :: _, [], _, h => h.elim
theorem hb_pubF {f : Str} {b : Addr} (hl : fs.lookup f = some (rRef b)) (hM : b ∉ F.M) (hO : ∀ o G, G b = some o → O.c o G → R.r (.ref b) G) (h : HB F ρ ((q, oIns C (putR f R fs)) :: w) rest K) : HB F ρ ((b, O) :: (q, oIns C fs) :: w) rest K := fun σ G H D at_ sl ps => by
  obtain ⟨hg0, _, o, h1, h2⟩ := at_.ow _ List.mem_cons_self
  have a := at_.pub h1 (At.own0 at_ hM)
  have sg : Same G (upd G b o) := fun c u e => by rw [upd_ne (ne_of_none e hg0)]; exact e
  have hR := hO o _ upd_same (O.mo _ _ _ sg h2)
  refine h σ _ H D ⟨a.gg, a.hh, a.gh, a.fr, a.mm, fun p hp => ?_, a.nd⟩ (sl.up sg) (ps.up sg)
  rcases List.mem_cons.mp hp with rfl | hp
  · obtain ⟨x, y, ob, z, dx, vs, e1, e2⟩ := a.ow _ List.mem_cons_self
    exact ⟨x, y, ob, z, dx, vs, e1, NR.chg (fun v hv => by cases (show v = V.ref b from hv); exact hR) hl e2⟩
  · exact a.ow p (List.mem_cons_of_mem _ hp)
end
section
variable {F : Fx} {ρ : Ty} {ω w w1 w2 wc wc' : Ow} {e o : Expr} {es : List Expr} {R S : Rl} {Rs : List Rl} {P : Er} {pos p apos : Pos} {x m : Str} {k : Nat} {C q : Addr} {pre : Pre} {fs : List (Str × Rl)} {K : Kn} {rest : List Stmt} {O : Ol}
/-- o.m(..) of an owned one -/
theorem er_mO {pl : Sem Bool} (T : Km F.X.prog F.X.w F.X.K F.X.mg F.X.base C m k pre) (hc : Cls F.X.K C) (hr : Room k F.X.A) (ho : ER F ρ ω o (rRef q) w1) (hm : (q, oIns C fs) ∈ w1) (ha : AR F ρ w1 (e :: es) Rs (wc ++ w)) (hp : pre (rRef q :: Rs) wc (.ok R) wc') (hk : keys wc' = keys wc := by rfl) (hno : fs.lookup m = none := by rfl)
    (hst : starEach (e :: es) F.X.env = (false, eval e F.X.env) :: starEach es F.X.env := by rfl) (hpl : (backTo pos (starEach es F.X.env)).any (·.1) = false := by rfl)
    (ht : eval (.Call (.Attribute o m apos) (e :: es) [] pos) F.X.env = (do
      let ov ← eval o F.X.env
      standAt apos.atName
      let (f, first) ← holding [ov] (getMethod ov m pl)
      callWith pos f first (backTo pos (starEach (e :: es) F.X.env)) (backToKw pos (keywordEach [] F.X.env))) := by rfl) :
    ER F ρ ω (.Call (.Attribute o m apos) (e :: es) [] pos) R (wc' ++ w) := fun σ G H at_ sl Q z => by
  obtain ⟨f, fd, ps, hM, hb, Fn⟩ := T
  refine ew_of (pe_methS (E := WE F.W) pe_w hc hM Fn hr hb passW pa_w hst hpl ht) (ho σ G H at_ sl _ fun v G1 H1 s1 a1 r1 => ?_)
  cases (show v = V.ref q from r1)
  obtain ⟨_, _, ob, h1, dx, vs, e1, h2⟩ := a1.ow _ hm
  subst e1
  refine ⟨q, dx, vs, rfl, h1, h2.lookN hno, ha σ G1 H1 a1 (sl.up s1) _ fun us G2 H2 s2 a2 r2 => ?_⟩
  exact sp_ok (Rs := rRef q :: Rs) a2 ⟨rfl, r2⟩ hp hk fun v G3 H3 s3 a3 r3 => z v G3 H3 ((s1.trans s2).trans s3) a3 r3
theorem er_mO0 {pl : Sem Bool} (T : Km F.X.prog F.X.w F.X.K F.X.mg F.X.base C m k pre) (hc : Cls F.X.K C) (hr : Room k F.X.A) (ho : ER F ρ ω o (rRef q) (wc ++ w)) (hm : (q, oIns C fs) ∈ wc) (hp : pre [rRef q] wc (.ok R) wc') (hk : keys wc' = keys wc := by rfl) (hno : fs.lookup m = none := by rfl)
    (ht : eval (.Call (.Attribute o m apos) [] [] pos) F.X.env = (do
      let ov ← eval o F.X.env
      standAt apos.atName
      let (f, first) ← holding [ov] (getMethod ov m pl)
      callWith pos f first (backTo pos (starEach [] F.X.env)) (backToKw pos (keywordEach [] F.X.env))) := by rfl) :
    ER F ρ ω (.Call (.Attribute o m apos) [] [] pos) R (wc' ++ w) := fun σ G H at_ sl Q z => by
  obtain ⟨f, fd, ps, hM, hb, Fn⟩ := T
  refine ew_of (pe_methS0 (E := WE F.W) pe_w hc hM Fn hr hb passW ht) (ho σ G H at_ sl _ fun v G1 H1 s1 a1 r1 => ?_)
  cases (show v = V.ref q from r1)
  obtain ⟨_, _, ob, h1, dx, vs, e1, h2⟩ := a1.ow _ (List.mem_append_left _ hm)
  subst e1
  exact ⟨q, dx, vs, rfl, h1, h2.lookN hno, sp_ok (Rs := [rRef q]) a1 ⟨rfl, trivial⟩ hp hk fun v G3 H3 s3 a3 r3 => z v G3 H3 (s1.trans s3) a3 r3⟩
/-- a method that gives a new thing -/
theorem en_mO0 {pl : Sem Bool} {pre : PreN} (T : Kmn F.X.prog F.X.w F.X.K F.X.mg F.X.base C m k pre) (hc : Cls F.X.K C) (hr : Room k F.X.A) (ho : ER F ρ ω o (rRef q) (wc ++ w)) (hm : (q, oIns C fs) ∈ wc) (hp : pre [rRef q] wc O wc') (hk : keys wc' = keys wc := by rfl) (hno : fs.lookup m = none := by rfl)
    (ht : eval (.Call (.Attribute o m apos) [] [] pos) F.X.env = (do
      let ov ← eval o F.X.env
      standAt apos.atName
      let (f, first) ← holding [ov] (getMethod ov m pl)
      callWith pos f first (backTo pos (starEach [] F.X.env)) (backToKw pos (keywordEach [] F.X.env))) := by rfl) :
    EN F ρ ω (.Call (.Attribute o m apos) [] [] pos) O (wc' ++ w) := fun σ G H at_ sl Q z => by
  obtain ⟨f, fd, ps, hM, hb, Fn⟩ := T
  refine ew_of (pe_methS0 (E := WE F.W) pe_w hc hM Fn hr hb passW ht) (ho σ G H at_ sl _ fun v G1 H1 s1 a1 r1 => ?_)
  cases (show v = V.ref q from r1)
  obtain ⟨_, _, ob, h1, dx, vs, e1, h2⟩ := a1.ow _ (List.mem_append_left _ hm)
  subst e1
  refine ⟨q, dx, vs, rfl, h1, h2.lookN hno, ⟨[rRef q], wc, O, wc', G1, hp, a1.gh, ⟨rfl, trivial⟩, a1.has.left, by have := a1.nd; rw [List.map_append] at this; exact (List.nodup_append.mp this).1, hk, fun q' G' H' hq st hh => ?_⟩⟩
  obtain ⟨hM, a3⟩ := a1.newcall st hq hh hk
  exact z q' G' H' hM (s1.trans st.gg) a3
end
end W1
set_option maxRecDepth 100000
set_option maxHeartbeats 2000000
namespace W1
open PySem PySem.Spec PyProof.Rows L2 NdefX
def top (i : Nat) : Stmt := PySem.Challenge.pw_waysofmaking_k27_whole_hours_of_many_dem.main.body.getD i (.Pass ⟨0, 0, 0, 0⟩)
abbrev s_BadNumber___init__ : Stmt := inClass (top 3) 0
abbrev P_BadNumber___init__ : List Str := ["self", "n"]
theorem c_BadNumber___init__ : NScope (["self", "n", "__class__"] : List Str) P_BadNumber___init__ ["__class__"] (defScope s_BadNumber___init__) := nscope_by (by decide +kernel)
abbrev s_BadName___init__ : Stmt := inClass (top 5) 0
abbrev P_BadName___init__ : List Str := ["self", "name"]
theorem c_BadName___init__ : NScope (["self", "name", "__class__"] : List Str) P_BadName___init__ ["__class__"] (defScope s_BadName___init__) := nscope_by (by decide +kernel)
abbrev s_DuplicateName___init__ : Stmt := inClass (top 6) 0
abbrev P_DuplicateName___init__ : List Str := ["self", "name"]
theorem c_DuplicateName___init__ : NScope (["self", "name", "__class__"] : List Str) P_DuplicateName___init__ ["__class__"] (defScope s_DuplicateName___init__) := nscope_by (by decide +kernel)
abbrev s_UnknownName___init__ : Stmt := inClass (top 7) 0
abbrev P_UnknownName___init__ : List Str := ["self", "name"]
theorem c_UnknownName___init__ : NScope (["self", "name", "__class__"] : List Str) P_UnknownName___init__ ["__class__"] (defScope s_UnknownName___init__) := nscope_by (by decide +kernel)
abbrev s_BadWay___init__ : Stmt := inClass (top 8) 0
abbrev P_BadWay___init__ : List Str := ["self", "at"]
theorem c_BadWay___init__ : NScope (["self", "at", "__class__"] : List Str) P_BadWay___init__ ["__class__"] (defScope s_BadWay___init__) := nscope_by (by decide +kernel)
abbrev s_NoPlan___init__ : Stmt := inClass (top 9) 0
abbrev P_NoPlan___init__ : List Str := ["self", "prices"]
theorem c_NoPlan___init__ : NScope (["self", "prices", "__class__"] : List Str) P_NoPlan___init__ ["__class__"] (defScope s_NoPlan___init__) := nscope_by (by decide +kernel)
abbrev s_common : Stmt := top 12
abbrev N_common : List Str := ["a", "b", "one", "other"]
abbrev P_common : List Str := ["a", "b"]
theorem c_common : FnScope N_common P_common (defScope s_common) := ⟨rfl, rfl, rfl, by decide +kernel, rfl, by decide +kernel, by decide +kernel⟩
abbrev s_Ratio___init__ : Stmt := inClass (top 15) 0
abbrev N_Ratio___init__ : List Str := ["self", "top", "bottom", "divisor"]
abbrev P_Ratio___init__ : List Str := ["self", "top", "bottom"]
theorem c_Ratio___init__ : FnScope N_Ratio___init__ P_Ratio___init__ (defScope s_Ratio___init__) := ⟨rfl, rfl, rfl, by decide +kernel, rfl, by decide +kernel, by decide +kernel⟩
abbrev s_Ratio_whole : Stmt := inClass (top 15) 1
abbrev N_Ratio_whole : List Str := ["cls", "n"]
abbrev P_Ratio_whole : List Str := ["cls", "n"]
theorem c_Ratio_whole : FnScope N_Ratio_whole P_Ratio_whole (defScope s_Ratio_whole) := ⟨rfl, rfl, rfl, by decide +kernel, rfl, by decide +kernel, by decide +kernel⟩
abbrev s_Ratio___add__ : Stmt := inClass (top 15) 3
abbrev N_Ratio___add__ : List Str := ["self", "other"]
abbrev P_Ratio___add__ : List Str := ["self", "other"]
theorem c_Ratio___add__ : FnScope N_Ratio___add__ P_Ratio___add__ (defScope s_Ratio___add__) := ⟨rfl, rfl, rfl, by decide +kernel, rfl, by decide +kernel, by decide +kernel⟩
abbrev s_Ratio___sub__ : Stmt := inClass (top 15) 4
abbrev N_Ratio___sub__ : List Str := ["self", "other"]
abbrev P_Ratio___sub__ : List Str := ["self", "other"]
theorem c_Ratio___sub__ : FnScope N_Ratio___sub__ P_Ratio___sub__ (defScope s_Ratio___sub__) := ⟨rfl, rfl, rfl, by decide +kernel, rfl, by decide +kernel, by decide +kernel⟩
abbrev s_Ratio___neg__ : Stmt := inClass (top 15) 5
abbrev N_Ratio___neg__ : List Str := ["self"]
abbrev P_Ratio___neg__ : List Str := ["self"]
theorem c_Ratio___neg__ : FnScope N_Ratio___neg__ P_Ratio___neg__ (defScope s_Ratio___neg__) := ⟨rfl, rfl, rfl, by decide +kernel, rfl, by decide +kernel, by decide +kernel⟩
abbrev s_Ratio___mul__ : Stmt := inClass (top 15) 6
abbrev N_Ratio___mul__ : List Str := ["self", "other"]
abbrev P_Ratio___mul__ : List Str := ["self", "other"]
theorem c_Ratio___mul__ : FnScope N_Ratio___mul__ P_Ratio___mul__ (defScope s_Ratio___mul__) := ⟨rfl, rfl, rfl, by decide +kernel, rfl, by decide +kernel, by decide +kernel⟩
abbrev s_Ratio___eq__ : Stmt := inClass (top 15) 7
abbrev N_Ratio___eq__ : List Str := ["self", "other"]
abbrev P_Ratio___eq__ : List Str := ["self", "other"]
theorem c_Ratio___eq__ : FnScope N_Ratio___eq__ P_Ratio___eq__ (defScope s_Ratio___eq__) := ⟨rfl, rfl, rfl, by decide +kernel, rfl, by decide +kernel, by decide +kernel⟩
abbrev s_Ratio___str__ : Stmt := inClass (top 15) 9
abbrev N_Ratio___str__ : List Str := ["self"]
abbrev P_Ratio___str__ : List Str := ["self"]
theorem c_Ratio___str__ : FnScope N_Ratio___str__ P_Ratio___str__ (defScope s_Ratio___str__) := ⟨rfl, rfl, rfl, by decide +kernel, rfl, by decide +kernel, by decide +kernel⟩
abbrev s_Ratio_quotient : Stmt := inClass (top 15) 10
abbrev N_Ratio_quotient : List Str := ["self", "other"]
abbrev P_Ratio_quotient : List Str := ["self", "other"]
theorem c_Ratio_quotient : FnScope N_Ratio_quotient P_Ratio_quotient (defScope s_Ratio_quotient) := ⟨rfl, rfl, rfl, by decide +kernel, rfl, by decide +kernel, by decide +kernel⟩
abbrev s_Ratio_under : Stmt := inClass (top 15) 11
abbrev N_Ratio_under : List Str := ["self", "other"]
abbrev P_Ratio_under : List Str := ["self", "other"]
theorem c_Ratio_under : FnScope N_Ratio_under P_Ratio_under (defScope s_Ratio_under) := ⟨rfl, rfl, rfl, by decide +kernel, rfl, by decide +kernel, by decide +kernel⟩
abbrev s_total : Stmt := top 16
abbrev N_total : List Str := ["ratios", "found", "ratio"]
abbrev P_total : List Str := ["ratios"]
theorem c_total : FnScope N_total P_total (defScope s_total) := ⟨rfl, rfl, rfl, by decide +kernel, rfl, by decide +kernel, by decide +kernel⟩
abbrev s_check_plan : Stmt := top 18
abbrev N_check_plan : List Str := ["book", "plan", "ratio"]
abbrev P_check_plan : List Str := ["book", "plan"]
theorem c_check_plan : FnScope N_check_plan P_check_plan (defScope s_check_plan) := ⟨rfl, rfl, rfl, by decide +kernel, rfl, by decide +kernel, by decide +kernel⟩
abbrev s_check_demand : Stmt := top 19
abbrev N_check_demand : List Str := ["book", "demand", "good"]
abbrev P_check_demand : List Str := ["book", "demand"]
theorem c_check_demand : FnScope N_check_demand P_check_demand (defScope s_check_demand) := ⟨rfl, rfl, rfl, by decide +kernel, rfl, by decide +kernel, by decide +kernel⟩
abbrev s_amount : Stmt := top 20
abbrev N_amount : List Str := ["demand", "good"]
abbrev P_amount : List Str := ["demand", "good"]
theorem c_amount : FnScope N_amount P_amount (defScope s_amount) := ⟨rfl, rfl, rfl, by decide +kernel, rfl, by decide +kernel, by decide +kernel⟩
abbrev s_leaves : Stmt := top 21
abbrev N_leaves : List Str := ["book", "plan", "found", "good", "at", "ratio"]
abbrev P_leaves : List Str := ["book", "plan"]
theorem c_leaves : FnScope N_leaves P_leaves (defScope s_leaves) := ⟨rfl, rfl, rfl, by decide +kernel, rfl, by decide +kernel, by decide +kernel⟩
abbrev s_hours_of : Stmt := top 22
abbrev N_hours_of : List Str := ["book", "plan", "ratio", "way"]
abbrev P_hours_of : List Str := ["book", "plan"]
theorem c_hours_of : FnScope N_hours_of P_hours_of (defScope s_hours_of) := ⟨rfl, rfl, rfl, by decide +kernel, rfl, by decide +kernel, by decide +kernel⟩
abbrev s_meets : Stmt := top 23
abbrev N_meets : List Str := ["book", "plan", "demand", "left", "good"]
abbrev P_meets : List Str := ["book", "plan", "demand"]
theorem c_meets : FnScope N_meets P_meets (defScope s_meets) := ⟨rfl, rfl, rfl, by decide +kernel, rfl, by decide +kernel, by decide +kernel⟩
abbrev s_summed : Stmt := top 24
abbrev N_summed : List Str := ["first", "second", "goods", "good"]
abbrev P_summed : List Str := ["first", "second"]
theorem c_summed : FnScope N_summed P_summed (defScope s_summed) := ⟨rfl, rfl, rfl, by decide +kernel, rfl, by decide +kernel, by decide +kernel⟩
abbrev s_Sheet___init__ : Stmt := inClass (top 26) 0
abbrev N_Sheet___init__ : List Str := ["self", "rows", "limits", "goals", "at", "row", "slack", "other", "goal"]
abbrev P_Sheet___init__ : List Str := ["self", "rows", "limits", "goals"]
theorem c_Sheet___init__ : FnScope N_Sheet___init__ P_Sheet___init__ (defScope s_Sheet___init__) := ⟨rfl, rfl, rfl, by decide +kernel, rfl, by decide +kernel, by decide +kernel⟩
abbrev s_Sheet_entering : Stmt := inClass (top 26) 1
abbrev N_Sheet_entering : List Str := ["self", "column"]
abbrev P_Sheet_entering : List Str := ["self"]
theorem c_Sheet_entering : FnScope N_Sheet_entering P_Sheet_entering (defScope s_Sheet_entering) := ⟨rfl, rfl, rfl, by decide +kernel, rfl, by decide +kernel, by decide +kernel⟩
abbrev s_Sheet_leaving : Stmt := inClass (top 26) 2
abbrev N_Sheet_leaving : List Str := ["self", "column", "found", "bound", "at", "line", "here"]
abbrev P_Sheet_leaving : List Str := ["self", "column"]
theorem c_Sheet_leaving : FnScope N_Sheet_leaving P_Sheet_leaving (defScope s_Sheet_leaving) := ⟨rfl, rfl, rfl, by decide +kernel, rfl, by decide +kernel, by decide +kernel⟩
abbrev s_Sheet_turn : Stmt := inClass (top 26) 3
abbrev N_Sheet_turn : List Str := ["self", "at", "column", "factor", "pivot", "item", "lines", "other", "line", "one"]
abbrev P_Sheet_turn : List Str := ["self", "at", "column"]
theorem c_Sheet_turn : FnScope N_Sheet_turn P_Sheet_turn (defScope s_Sheet_turn) := ⟨rfl, rfl, rfl, by decide +kernel, rfl, by decide +kernel, by decide +kernel⟩
abbrev s_Sheet_solve : Stmt := inClass (top 26) 4
abbrev N_Sheet_solve : List Str := ["self", "column", "at"]
abbrev P_Sheet_solve : List Str := ["self"]
theorem c_Sheet_solve : FnScope N_Sheet_solve P_Sheet_solve (defScope s_Sheet_solve) := ⟨rfl, rfl, rfl, by decide +kernel, rfl, by decide +kernel, by decide +kernel⟩
abbrev s_Sheet_point : Stmt := inClass (top 26) 5
abbrev N_Sheet_point : List Str := ["self", "found", "at", "column"]
abbrev P_Sheet_point : List Str := ["self"]
theorem c_Sheet_point : FnScope N_Sheet_point P_Sheet_point (defScope s_Sheet_point) := ⟨rfl, rfl, rfl, by decide +kernel, rfl, by decide +kernel, by decide +kernel⟩
abbrev s_Sheet_ray : Stmt := inClass (top 26) 6
abbrev N_Sheet_ray : List Str := ["self", "column", "found", "good", "at", "other"]
abbrev P_Sheet_ray : List Str := ["self", "column"]
theorem c_Sheet_ray : FnScope N_Sheet_ray P_Sheet_ray (defScope s_Sheet_ray) := ⟨rfl, rfl, rfl, by decide +kernel, rfl, by decide +kernel, by decide +kernel⟩
abbrev s_Sheet_multipliers : Stmt := inClass (top 26) 7
abbrev N_Sheet_multipliers : List Str := ["self"]
abbrev P_Sheet_multipliers : List Str := ["self"]
theorem c_Sheet_multipliers : FnScope N_Sheet_multipliers P_Sheet_multipliers (defScope s_Sheet_multipliers) := ⟨rfl, rfl, rfl, by decide +kernel, rfl, by decide +kernel, by decide +kernel⟩
abbrev s_sheet_of : Stmt := top 27
abbrev N_sheet_of : List Str := ["book", "limits", "demand", "rows", "good", "at"]
abbrev P_sheet_of : List Str := ["book", "limits", "demand"]
theorem c_sheet_of : FnScope N_sheet_of P_sheet_of (defScope s_sheet_of) := ⟨rfl, rfl, rfl, by decide +kernel, rfl, by decide +kernel, by decide +kernel⟩
abbrev s_solved : Stmt := top 28
abbrev N_solved : List Str := ["book", "limits", "demand", "sheet", "column"]
abbrev P_solved : List Str := ["book", "limits", "demand"]
theorem c_solved : FnScope N_solved P_solved (defScope s_solved) := ⟨rfl, rfl, rfl, by decide +kernel, rfl, by decide +kernel, by decide +kernel⟩
abbrev s_cheapest : Stmt := top 29
abbrev N_cheapest : List Str := ["book", "demand", "way"]
abbrev P_cheapest : List Str := ["book", "demand"]
theorem c_cheapest : FnScope N_cheapest P_cheapest (defScope s_cheapest) := ⟨rfl, rfl, rfl, by decide +kernel, rfl, by decide +kernel, by decide +kernel⟩
abbrev s_least_hours : Stmt := top 30
abbrev N_least_hours : List Str := ["book", "demand"]
abbrev P_least_hours : List Str := ["book", "demand"]
theorem c_least_hours : FnScope N_least_hours P_least_hours (defScope s_least_hours) := ⟨rfl, rfl, rfl, by decide +kernel, rfl, by decide +kernel, by decide +kernel⟩
abbrev s_can_meet : Stmt := top 31
abbrev N_can_meet : List Str := ["book", "demand"]
abbrev P_can_meet : List Str := ["book", "demand"]
theorem c_can_meet : FnScope N_can_meet P_can_meet (defScope s_can_meet) := ⟨rfl, rfl, rfl, by decide +kernel, rfl, by decide +kernel, by decide +kernel⟩
abbrev s_is_name : Stmt := top 39
abbrev N_is_name : List Str := ["text", "sign"]
abbrev P_is_name : List Str := ["text"]
theorem c_is_name : FnScope N_is_name P_is_name (defScope s_is_name) := ⟨rfl, rfl, rfl, by decide +kernel, rfl, by decide +kernel, by decide +kernel⟩
abbrev s_check_amounts : Stmt := top 41
abbrev N_check_amounts : List Str := ["amounts", "good"]
abbrev P_check_amounts : List Str := ["amounts"]
theorem c_check_amounts : FnScope N_check_amounts P_check_amounts (defScope s_check_amounts) := ⟨rfl, rfl, rfl, by decide +kernel, rfl, by decide +kernel, by decide +kernel⟩
abbrev s_kept_amounts : Stmt := top 42
abbrev N_kept_amounts : List Str := ["amounts", "good"]
abbrev P_kept_amounts : List Str := ["amounts"]
theorem c_kept_amounts : FnScope N_kept_amounts P_kept_amounts (defScope s_kept_amounts) := ⟨rfl, rfl, rfl, by decide +kernel, rfl, by decide +kernel, by decide +kernel⟩
abbrev s_Way___init__ : Stmt := inClass (top 46) 0
abbrev N_Way___init__ : List Str := ["self", "takes", "hours", "makes"]
abbrev P_Way___init__ : List Str := ["self", "takes", "hours", "makes"]
theorem c_Way___init__ : FnScope N_Way___init__ P_Way___init__ (defScope s_Way___init__) := ⟨rfl, rfl, rfl, by decide +kernel, rfl, by decide +kernel, by decide +kernel⟩
abbrev s_Way_taken : Stmt := inClass (top 46) 4
abbrev N_Way_taken : List Str := ["self", "good"]
abbrev P_Way_taken : List Str := ["self", "good"]
theorem c_Way_taken : FnScope N_Way_taken P_Way_taken (defScope s_Way_taken) := ⟨rfl, rfl, rfl, by decide +kernel, rfl, by decide +kernel, by decide +kernel⟩
abbrev s_Way_made : Stmt := inClass (top 46) 5
abbrev N_Way_made : List Str := ["self", "good"]
abbrev P_Way_made : List Str := ["self", "good"]
theorem c_Way_made : FnScope N_Way_made P_Way_made (defScope s_Way_made) := ⟨rfl, rfl, rfl, by decide +kernel, rfl, by decide +kernel, by decide +kernel⟩
abbrev s_Way_goods : Stmt := inClass (top 46) 6
abbrev N_Way_goods : List Str := ["self"]
abbrev P_Way_goods : List Str := ["self"]
theorem c_Way_goods : FnScope N_Way_goods P_Way_goods (defScope s_Way_goods) := ⟨rfl, rfl, rfl, by decide +kernel, rfl, by decide +kernel, by decide +kernel⟩
abbrev s_check_goods : Stmt := top 47
abbrev N_check_goods : List Str := ["names", "way", "good"]
abbrev P_check_goods : List Str := ["names", "way"]
theorem c_check_goods : FnScope N_check_goods P_check_goods (defScope s_check_goods) := ⟨rfl, rfl, rfl, by decide +kernel, rfl, by decide +kernel, by decide +kernel⟩
abbrev s_Book___init__ : Stmt := inClass (top 48) 0
abbrev N_Book___init__ : List Str := ["self", "goods", "ways", "at", "good", "way"]
abbrev P_Book___init__ : List Str := ["self", "goods", "ways"]
theorem c_Book___init__ : FnScope N_Book___init__ P_Book___init__ (defScope s_Book___init__) := ⟨rfl, rfl, rfl, by decide +kernel, rfl, by decide +kernel, by decide +kernel⟩
abbrev s_Book___len__ : Stmt := inClass (top 48) 1
abbrev N_Book___len__ : List Str := ["self"]
abbrev P_Book___len__ : List Str := ["self"]
theorem c_Book___len__ : FnScope N_Book___len__ P_Book___len__ (defScope s_Book___len__) := ⟨rfl, rfl, rfl, by decide +kernel, rfl, by decide +kernel, by decide +kernel⟩
abbrev s_Book___iter__ : Stmt := inClass (top 48) 2
abbrev N_Book___iter__ : List Str := ["self"]
abbrev P_Book___iter__ : List Str := ["self"]
theorem c_Book___iter__ : FnScope N_Book___iter__ P_Book___iter__ (defScope s_Book___iter__) := ⟨rfl, rfl, rfl, by decide +kernel, rfl, by decide +kernel, by decide +kernel⟩
abbrev s_Book_way : Stmt := inClass (top 48) 4
abbrev N_Book_way : List Str := ["self", "at"]
abbrev P_Book_way : List Str := ["self", "at"]
theorem c_Book_way : FnScope N_Book_way P_Book_way (defScope s_Book_way) := ⟨rfl, rfl, rfl, by decide +kernel, rfl, by decide +kernel, by decide +kernel⟩
abbrev s_Book_check_good : Stmt := inClass (top 48) 5
abbrev N_Book_check_good : List Str := ["self", "good"]
abbrev P_Book_check_good : List Str := ["self", "good"]
theorem c_Book_check_good : FnScope N_Book_check_good P_Book_check_good (defScope s_Book_check_good) := ⟨rfl, rfl, rfl, by decide +kernel, rfl, by decide +kernel, by decide +kernel⟩
abbrev s_Book_net : Stmt := inClass (top 48) 6
abbrev N_Book_net : List Str := ["self", "at", "good", "way"]
abbrev P_Book_net : List Str := ["self", "at", "good"]
theorem c_Book_net : FnScope N_Book_net P_Book_net (defScope s_Book_net) := ⟨rfl, rfl, rfl, by decide +kernel, rfl, by decide +kernel, by decide +kernel⟩
abbrev s_Book_without : Stmt := inClass (top 48) 10
abbrev N_Book_without : List Str := ["self", "at"]
abbrev P_Book_without : List Str := ["self", "at"]
theorem c_Book_without : FnScope N_Book_without P_Book_without (defScope s_Book_without) := ⟨rfl, rfl, rfl, by decide +kernel, rfl, by decide +kernel, by decide +kernel⟩
abbrev s__law_bag : Stmt := top 50
abbrev N__law_bag : List Str := ["_law_cell"]
abbrev P__law_bag : List Str := ["_law_cell"]
theorem c__law_bag : FnScope N__law_bag P__law_bag (defScope s__law_bag) := ⟨rfl, rfl, rfl, by decide +kernel, rfl, by decide +kernel, by decide +kernel⟩
abbrev s__law_draw : Stmt := top 51
abbrev N__law_draw : List Str := ["_law_pool", "_law_limit", "_law_drawn", "_law_mixed"]
abbrev P__law_draw : List Str := ["_law_pool", "_law_limit"]
theorem c__law_draw : FnScope N__law_draw P__law_draw (defScope s__law_draw) := ⟨rfl, rfl, rfl, by decide +kernel, rfl, by decide +kernel, by decide +kernel⟩
abbrev s__law_at_of : Stmt := top 52
abbrev N__law_at_of : List Str := ["_law_script", "_law_k"]
abbrev P__law_at_of : List Str := ["_law_script", "_law_k"]
theorem c__law_at_of : FnScope N__law_at_of P__law_at_of (defScope s__law_at_of) := ⟨rfl, rfl, rfl, by decide +kernel, rfl, by decide +kernel, by decide +kernel⟩
abbrev s__law_labels : Stmt := top 53
abbrev N__law_labels : List Str := ["_law_pool", "_law_many", "_law_menu", "_law_found", "_law_k"]
abbrev P__law_labels : List Str := ["_law_pool", "_law_many"]
theorem c__law_labels : FnScope N__law_labels P__law_labels (defScope s__law_labels) := ⟨rfl, rfl, rfl, by decide +kernel, rfl, by decide +kernel, by decide +kernel⟩
abbrev s__law_amounts_of : Stmt := top 54
abbrev N__law_amounts_of : List Str := ["_law_pool", "_law_goods", "_law_most", "_law_found", "_law_good"]
abbrev P__law_amounts_of : List Str := ["_law_pool", "_law_goods", "_law_most"]
theorem c__law_amounts_of : FnScope N__law_amounts_of P__law_amounts_of (defScope s__law_amounts_of) := ⟨rfl, rfl, rfl, by decide +kernel, rfl, by decide +kernel, by decide +kernel⟩
abbrev s__law_row_of : Stmt := top 55
abbrev N__law_row_of : List Str := ["_law_pool", "_law_goods", "_law_plain", "_law_most", "_law_takes", "_law_makes", "_law_good"]
abbrev P__law_row_of : List Str := ["_law_pool", "_law_goods", "_law_plain"]
theorem c__law_row_of : FnScope N__law_row_of P__law_row_of (defScope s__law_row_of) := ⟨rfl, rfl, rfl, by decide +kernel, rfl, by decide +kernel, by decide +kernel⟩
abbrev s__law_rows_of : Stmt := top 56
abbrev N__law_rows_of : List Str := ["_law_pool", "_law_goods", "_law_plain", "_law_rows", "_law_k", "_law_good"]
abbrev P__law_rows_of : List Str := ["_law_pool", "_law_goods", "_law_plain"]
theorem c__law_rows_of : FnScope N__law_rows_of P__law_rows_of (defScope s__law_rows_of) := ⟨rfl, rfl, rfl, by decide +kernel, rfl, by decide +kernel, by decide +kernel⟩
abbrev s__law_book_of : Stmt := top 57
abbrev N__law_book_of : List Str := ["_law_goods", "_law_rows", "_law_takes", "_law_hours", "_law_makes"]
abbrev P__law_book_of : List Str := ["_law_goods", "_law_rows"]
theorem c__law_book_of : FnScope N__law_book_of P__law_book_of (defScope s__law_book_of) := ⟨rfl, rfl, rfl, by decide +kernel, rfl, by decide +kernel, by decide +kernel⟩
abbrev s__law_demand_of : Stmt := top 58
abbrev N__law_demand_of : List Str := ["_law_pool", "_law_goods", "_law_found", "_law_good"]
abbrev P__law_demand_of : List Str := ["_law_pool", "_law_goods"]
theorem c__law_demand_of : FnScope N__law_demand_of P__law_demand_of (defScope s__law_demand_of) := ⟨rfl, rfl, rfl, by decide +kernel, rfl, by decide +kernel, by decide +kernel⟩
abbrev s__law_not_more : Stmt := top 61
abbrev N__law_not_more : List Str := ["_law_first", "_law_second"]
abbrev P__law_not_more : List Str := ["_law_first", "_law_second"]
theorem c__law_not_more : FnScope N__law_not_more P__law_not_more (defScope s__law_not_more) := ⟨rfl, rfl, rfl, by decide +kernel, rfl, by decide +kernel, by decide +kernel⟩
abbrev s__law_positive : Stmt := top 62
abbrev N__law_positive : List Str := ["_law_book", "_law_plan", "_law_left", "_law_good"]
abbrev P__law_positive : List Str := ["_law_book", "_law_plan"]
theorem c__law_positive : FnScope N__law_positive P__law_positive (defScope s__law_positive) := ⟨rfl, rfl, rfl, by decide +kernel, rfl, by decide +kernel, by decide +kernel⟩
abbrev s__law_ways_fit : Stmt := top 63
abbrev N__law_ways_fit : List Str := ["_law_pool", "_law_goods", "_law_rows", "_law_book", "_law_demand", "_law_hours", "_law_more", "_law_at", "_law_fewer"]
abbrev P__law_ways_fit : List Str := ["_law_pool", "_law_goods", "_law_rows", "_law_book", "_law_demand"]
theorem c__law_ways_fit : FnScope N__law_ways_fit P__law_ways_fit (defScope s__law_ways_fit) := ⟨rfl, rfl, rfl, by decide +kernel, rfl, by decide +kernel, by decide +kernel⟩
abbrev s_law : Stmt := top 64
abbrev N_law : List Str := ["_law_script", "_law_pool", "_law_goods", "_law_rows", "_law_good", "_law_book", "_law_cell", "_law_first", "_law_second", "_law_factor", "_law_hours", "_law_scaled_demand", "_law_both", "_law_plan", "_law_row", "_law_left", "_law_told"]
abbrev P_law : List Str := ["_law_script"]
theorem c_law : FnScope N_law P_law (defScope s_law) := ⟨rfl, rfl, rfl, by decide +kernel, rfl, by decide +kernel, by decide +kernel⟩
end W1
set_option maxRecDepth 100000
set_option maxHeartbeats 2000000
namespace W1
open PySem PySem.Spec PyProof.Rows L2 NdefX

/-! ### the fractions' defs -/
/-- a promise by data: nothing handed over -/
def pOk {α : Type} (D : α → Prop) (A : α → List Rl) (R : α → Rl) : Pre := fun Rs w o w' => ∃ a, D a ∧ Rs = A a ∧ w = [] ∧ w' = [] ∧ o = .ok (R a)
def pEr {α : Type} (D : α → Prop) (A : α → List Rl) (P : α → Er) : Pre := fun Rs w o w' => ∃ a, D a ∧ Rs = A a ∧ w = [] ∧ w' = [] ∧ o = .error (P a)
def pOr (p q : Pre) : Pre := fun Rs w o w' => p Rs w o w' ∨ q Rs w o w'
section
variable {α : Type} {D : α → Prop} {A : α → List Rl} {R : α → Rl} {P : α → Er}
theorem pok (a : α) (h : D a) : pOk D A R (A a) [] (.ok (R a)) [] := ⟨a, h, rfl, rfl, rfl, rfl⟩
end
theorem bt_abs : bootBuiltins "abs" = some (.builtin "abs") := by decide +kernel
theorem bt_len : bootBuiltins "len" = some (.builtin "len") := by decide +kernel
theorem bt_isi : bootBuiltins "isinstance" = some (.builtin "isinstance") := by decide +kernel
theorem bt_int : bootBuiltins "int" = some (.type "int") := by decide +kernel
theorem bt_bool : bootBuiltins "bool" = some (.type "bool") := by decide +kernel
theorem bt_str : bootBuiltins "str" = some (.type "str") := by decide +kernel
theorem bt_tup : bootBuiltins "tuple" = some (.type "tuple") := by decide +kernel
def pCommon : Pre := pOk (α := Int × Int) (fun _ => True) (fun a => [rInt a.1, rInt a.2]) (fun a => rInt (Int.gcd a.1 a.2 : Int))
section
variable {P : Program} {w : World} {K : PySem.W.Frag} {mg : Str → Option Value} {base : Heap}
theorem kf_common {f : Addr} {fd : FuncData} (Fn : Fun K "common" "common" s_common f fd) (abs : mg "abs" = none) : FnOk P w K mg base (L2.CX P w) 1 f fd P_common (spM pCommon) := by
  refine fn_ok Fn c_common (fun _ _ _ _ ⟨a, _, h, _⟩ => by rw [h]; rfl) ?_
  rintro cdv A outer s H E ⟨_, G0, H0, M, W, tk⟩ hr rfl Rs ω o ω' ⟨⟨a, b⟩, -, rfl, rfl, rfl, rfl⟩
  refine hb_par 2 3 (ar_cons (er_callB cop_abs rfl abs bt_abs (ar_cons (er_var 0 rfl) ar_nil)) (ar_cons (er_callB cop_abs rfl abs bt_abs (ar_cons (er_var 1 rfl) ar_nil)) ar_nil)) ?_ c_common.nd
  rw [abs_nat, abs_nat]
  refine hb_while (fun m ρ ω => ∃ x y : Nat, m = y ∧ ω = [] ∧ Int.gcd (x : Int) (y : Int) = Int.gcd a b ∧ ρ = [some (rInt a), some (rInt b), some (rInt x), some (rInt y)]) b.natAbs ⟨a.natAbs, b.natAbs, rfl, rfl, by simp [Int.gcd], rfl⟩ ?_ (passes_of rfl)
  rintro m ρ ω ⟨x, y, rfl, rfl, hg, rfl⟩
  refine ⟨_, _, tr_cmp (er_var 3 rfl) er_int bop_neI, fun hb => ?_, fun hb => ?_⟩
  · have hy : m ≠ 0 := by simpa using hb
    refine hb_par 2 3 (ar_cons (er_var 3 rfl) (ar_cons (er_bin (er_var 2 rfl) (er_var 3 rfl) (bop_mod (by omega))) ar_nil)) (hb_nil ?_) c_common.nd
    rw [fmod_nat]
    exact ⟨x % m, Nat.mod_lt _ (by omega), m, x % m, rfl, rfl, by rw [gcd_step _ _ hy]; exact hg, rfl⟩
  · have hy : m = 0 := by simpa using hb
    subst hy
    refine hb_ret (er_var 2 rfl) ⟨_, _, rfl, fun v G h => ?_, rfl⟩
    rw [show v = V.int (x : Int) from h]
    show V.int (x : Int) = V.int (Int.gcd a b : Int)
    rw [← hg]
    simp
end
end W1
set_option maxRecDepth 100000
set_option maxHeartbeats 2000000
namespace W1
open PySem PySem.Spec PyProof.Rows L2 NdefX

def rRat (C : Addr) (q : Rat) : Rl := rIns C [("top", rInt q.num), ("bottom", rInt (q.den : Int))]
def small (q : Rat) : Prop := Sz 4000 q
theorem small.t {q : Rat} (h : small q) : q.num.natAbs < 2 ^ 4000 := h.1
theorem small.b {q : Rat} (h : small q) : (q.den : Int).natAbs < 2 ^ 4000 := sz_int h
theorem den_ne {q : Rat} : (q.den : Int) ≠ 0 := Int.natCast_ne_zero.mpr q.den_nz
/-- what the written part says of the fractions' class, at C, and of the error, at B -/
structure RatX (K : PySem.W.Frag) (mg : Str → Option Value) (C : Addr) : Prop where
  cx : ClsX K C
  nT : NoAttr K C "top"
  nB : NoAttr K C "bottom"
  gC : mg "Ratio" = some (.ref C)
  nf : PySem.W.notFirst K C (.ref C) = true
  nfI : PySem.W.notFirst K C (.type "int") = true
  nfS : PySem.W.notFirst K C (.type "str") = true
  ksI : PySem.W.kitOne K (.type "int") (.ref C) = some false
  ksS : PySem.W.kitOne K (.type "str") (.ref C) = some false
  isi : mg "isinstance" = none
  bool : mg "bool" = none
  len : mg "len" = none
def pInit (C B : Addr) : Pre := fun Rs w o w' => ∃ (q : Addr) (t b : Int), Rs = [rRef q, rInt t, rInt b] ∧ w = [(q, oIns C [])] ∧
  ((b ≠ 0 ∧ b.natAbs < 2 ^ 9000 ∧ w' = [(q, oIns C [("top", rInt (Rat.divInt t b).num), ("bottom", rInt ((Rat.divInt t b).den : Int))])] ∧ o = .ok rNon) ∨ (b = 0 ∧ w' = [(q, oIns C [])] ∧ o = .error (erF B "n" (rInt 0))))
section
variable {P : Program} {w : World} {K : PySem.W.Frag} {mg : Str → Option Value} {base : Heap} {C B : Addr}
theorem kf_init {f : Addr} {fd : FuncData} (Fn : Fun K "__init__" "Ratio.__init__" s_Ratio___init__ f fd) (X : RatX K mg C) (Tc : Kf1 P w K mg base "common" 1 pCommon) (Te : Ke P w K mg base B "BadNumber" "n" 1 prInt) :
    FnOk P w K mg base (L2.CX P w) 3 f fd P_Ratio___init__ (spM (pInit C B)) := by
  refine fn_ok Fn c_Ratio___init__ (fun _ _ _ _ ⟨q, t, b, h, _⟩ => by rw [h]; rfl) ?_
  rintro cdv A outer s H E ⟨_, G0, H0, M, W, tk⟩ hr rfl Rs ω o ω' ⟨q, t, b, rfl, rfl, h⟩
  refine hb_if (tr_cmp (er_var 2 rfl) er_int bop_eqI) (fun hb => ?_) (fun hb => ?_)
  · have hb0 : b = 0 := by simpa using hb
    rcases h with ⟨h, _⟩ | ⟨_, rfl, rfl⟩
    · exact absurd hb0 h
    · exact hb_err Te hr (ar_cons er_int ar_nil) ⟨_, [], rfl, fun _ _ _ h => h, rfl⟩ fun v G h => ⟨0, h, by decide⟩
  · have hb0 : b ≠ 0 := by simpa using hb
    rcases h with ⟨_, hz, rfl, rfl⟩ | ⟨h, _⟩
    · refine hb_nil ?_
      refine hb_set 3 (er_fn0 Tc (hr.mono (by decide)) (ar_cons (er_var 1 rfl) (ar_cons (er_var 2 rfl) ar_nil)) (pok (t, b) trivial)) ?_ c_Ratio___init__.nd
      have go : ∀ {d : Int}, d = dvs t b → HB ⟨_, G0, H0, M, W, tk⟩ [some (rRef q), some (rInt t), some (rInt b), some (rInt d)] [(q, oIns C [])] ((defBody s_Ratio___init__).drop 3) (Kf (.ok rNon) [(q, oIns C [("top", rInt (Rat.divInt t b).num), ("bottom", rInt ((Rat.divInt t b).den : Int))])]) := fun {d} hd => by
        subst hd
        have hk : ∀ i, CDivZ i (dvs t b) := fun i => divok (n := 9000) (dvs_ne hb0) (Nat.lt_of_le_of_lt (dvs_le.resolve_right hb0) hz)
        refine hb_fld (w2 := []) (er_bin (er_var 1 rfl) (er_var 3 rfl) (bop_fdiv (hk t))) (er_var 0 rfl) X.cx.cls X.nT ?_
        refine hb_fld (w2 := []) (er_bin (er_var 2 rfl) (er_var 3 rfl) (bop_fdiv (hk b))) (er_var 0 rfl) X.cx.cls X.nB (hb_nil ?_) (hl := by show 1 < 1000; decide)
        refine ⟨rNon, [], rfl, fun _ => rfl, ?_⟩
        rw [dvs_top hb0, dvs_bot hb0]
        rfl
      refine hb_if (tr_cmp (er_var 2 rfl) er_int bop_lt) (fun hn => ?_) (fun hn => ?_)
      · have hn0 : b < 0 := by simpa using hn
        exact hb_set 3 (er_un (er_var 3 rfl) uop_neg) (hb_nil (go (by unfold dvs; rw [if_pos hn0]))) c_Ratio___init__.nd
      · have hn0 : ¬ b < 0 := by simpa using hn
        exact hb_nil (go (by unfold dvs; rw [if_neg hn0]))
    · exact absurd h hb0
end
end W1
set_option maxRecDepth 100000
set_option maxHeartbeats 2000000
set_option exponentiation.threshold 20000
namespace W1
open PySem PySem.Spec PyProof.Rows L2 NdefX

section
variable {F : Fx} {ρ : Ty} {ω w w1 w2 : Ow} {e o a b : Expr} {C B : Addr} {pos p : Pos} {t u : Int} {q : Rat}
theorem er_ratio (T : Kc F.X.prog F.X.w F.X.K F.X.mg F.X.base C "Ratio" 3 (pInit C B)) (hr : Room 4 F.X.A) (ha : AR F ρ ω [a, b] [rInt t, rInt u] w) (hq : Rat.divInt t u = q) (h0 : u ≠ 0) (hz : u.natAbs < 2 ^ 9000) (hg : Gl F.X "Ratio" := by rfl)
    (he : starEach [a, b] F.X.env = (false, eval a F.X.env) :: starEach [b] F.X.env := by rfl) (hpl : (backTo pos (starEach [b] F.X.env)).any (·.1) = false := by rfl) :
    ER F ρ ω (.Call (.Name "Ratio" p) [a, b] [] pos) (rRat C q) w := by
  subst hq
  exact er_c T hr ha (fun q => ⟨q, t, u, rfl, rfl, .inl ⟨h0, hz, rfl, rfl⟩⟩) hg (by decide) he hpl
theorem ex_ratio (T : Kc F.X.prog F.X.w F.X.K F.X.mg F.X.base C "Ratio" 3 (pInit C B)) (hr : Room 4 F.X.A) (ha : AR F ρ ω [a, b] [rInt t, rInt u] w) (h0 : u = 0) (hg : Gl F.X "Ratio" := by rfl)
    (he : starEach [a, b] F.X.env = (false, eval a F.X.env) :: starEach [b] F.X.env := by rfl) (hpl : (backTo pos (starEach [b] F.X.env)).any (·.1) = false := by rfl) :
    EX F ρ ω (.Call (.Name "Ratio" p) [a, b] [] pos) (erF B "n" (rInt 0)) w :=
  ex_c T hr ha (fun q => ⟨_, q, t, u, rfl, rfl, .inr ⟨h0, rfl, rfl⟩⟩) erF_mo hg (by decide) he hpl
theorem er_top (X : RatX F.X.K F.X.mg C) (h : ER F ρ ω e (rRat C q) w) (hb : attributeBase e "top" F.X.env (eval e F.X.env) = eval e F.X.env := by rfl) : ER F ρ ω (.Attribute e "top" pos) (rInt q.num) w := er_fld h X.cx.cls X.nT rfl hb
theorem er_bot (X : RatX F.X.K F.X.mg C) (h : ER F ρ ω e (rRat C q) w) (hb : attributeBase e "bottom" F.X.env (eval e F.X.env) = eval e F.X.env := by rfl) : ER F ρ ω (.Attribute e "bottom" pos) (rInt (q.den : Int)) w := er_fld h X.cx.cls X.nB rfl hb
end
def p2 (C : Addr) (f : Rat → Rat → Rl) : Pre := pOk (α := Rat × Rat) (fun a => small a.1 ∧ small a.2) (fun a => [rRat C a.1, rRat C a.2]) (fun a => f a.1 a.2)
def pAdd (C : Addr) : Pre := p2 C fun p q => rRat C (p + q)
def pSub (C : Addr) : Pre := p2 C fun p q => rRat C (p - q)
def pMul (C : Addr) : Pre := p2 C fun p q => rRat C (p * q)
def pUnder (C : Addr) : Pre := p2 C fun p q => rBool (decide (p < q))
def pNeg (C : Addr) : Pre := pOk (α := Rat) small (fun a => [rRat C a]) (fun a => rRat C (-a))
def pWhole (C : Addr) : Pre := pOk (α := Int) (fun _ => True) (fun a => [rRef C, rInt a]) (fun a => rRat C (a : Rat))
def pQuo (C B : Addr) : Pre := pOr (pOk (α := Rat × Rat) (fun a => small a.1 ∧ small a.2 ∧ a.2.num ≠ 0) (fun a => [rRat C a.1, rRat C a.2]) (fun a => rRat C (a.1 / a.2)))
  (pEr (α := Rat × Rat) (fun a => small a.1 ∧ small a.2 ∧ a.2.num = 0) (fun a => [rRat C a.1, rRat C a.2]) (fun a => erF B "n" (rInt 0)))
def pEq (C : Addr) : Pre := pOr (pOk (α := Rat × Rat) (fun _ => True) (fun a => [rRat C a.1, rRat C a.2]) (fun a => rBool (decide (a.1 = a.2))))
  (pOr (pOk (α := Rat × Int) (fun _ => True) (fun a => [rRat C a.1, rInt a.2]) (fun a => rBool false)) (pOk (α := Rat × Str) (fun _ => True) (fun a => [rRat C a.1, rStr a.2]) (fun a => rBool false)))
theorem divInt_int (n : Int) : Rat.divInt n 1 = (n : Rat) := by
  have := Rat.num_divInt_den (n : Rat)
  simpa using this
theorem small.mt {p q : Rat} (hp : small p) (hq : small q) : IntMulOk p.num q.den := mulok hp.t hq.b
theorem small.mb {p q : Rat} (hp : small p) (hq : small q) : IntMulOk p.den q.den := mulok hp.b hq.b
theorem small.dd {p q : Rat} (hp : small p) (hq : small q) : ((p.den : Int) * q.den).natAbs < 2 ^ 9000 := by
  rw [Int.natAbs_mul]
  exact Nat.lt_of_lt_of_le (mul_lt2 hp.b hq.b) (Nat.pow_le_pow_right (by decide) (by decide))
theorem rat_eq_dec (p q : Rat) : (decide (p.num = q.num) && decide ((p.den : Int) = q.den)) = decide (p = q) := by
  by_cases h : p = q
  · subst h; simp
  · have : ¬ (p.num = q.num ∧ (p.den : Int) = q.den) := fun ⟨h1, h2⟩ => h (Rat.ext h1 (by omega))
    rw [decide_eq_false h]
    by_cases h1 : p.num = q.num
    · have h2 : ¬ (p.den : Int) = q.den := fun z => this ⟨h1, z⟩
      rw [decide_eq_false h2, Bool.and_false]
    · rw [decide_eq_false h1, Bool.false_and]
section
variable {P : Program} {w : World} {K : PySem.W.Frag} {mg : Str → Option Value} {base : Heap} {C B f : Addr} {fd : FuncData}
theorem kf_add (Fn : Fun K "__add__" "Ratio.__add__" s_Ratio___add__ f fd) (X : RatX K mg C) (T : Kc P w K mg base C "Ratio" 3 (pInit C B)) : FnOk P w K mg base (L2.CX P w) 5 f fd P_Ratio___add__ (spM (pAdd C)) := by
  refine fn_ok Fn c_Ratio___add__ (fun _ _ _ _ ⟨_, _, h, _⟩ => by rw [h]; rfl) ?_
  rintro cdv A outer s H E ⟨_, G0, H0, M, W, tk⟩ hr rfl Rs ω o ω' ⟨⟨p, q⟩, ⟨hp, hq⟩, rfl, rfl, rfl, rfl⟩
  refine hb_ret (er_ratio T hr (ar_cons (er_bin (er_bin (er_top X (er_var 0 rfl)) (er_bot X (er_var 1 rfl)) (bop_mul (hp.mt hq))) (er_bin (er_top X (er_var 1 rfl)) (er_bot X (er_var 0 rfl)) (bop_mul (hq.mt hp))) bop_add)
    (ar_cons (er_bin (er_bot X (er_var 0 rfl)) (er_bot X (er_var 1 rfl)) (bop_mul (hp.mb hq))) ar_nil)) (divInt_add p q) (Int.mul_ne_zero den_ne den_ne) (hp.dd hq)) ⟨_, [], rfl, fun _ _ h => h, rfl⟩
theorem kf_sub (Fn : Fun K "__sub__" "Ratio.__sub__" s_Ratio___sub__ f fd) (X : RatX K mg C) (T : Kc P w K mg base C "Ratio" 3 (pInit C B)) : FnOk P w K mg base (L2.CX P w) 5 f fd P_Ratio___sub__ (spM (pSub C)) := by
  refine fn_ok Fn c_Ratio___sub__ (fun _ _ _ _ ⟨_, _, h, _⟩ => by rw [h]; rfl) ?_
  rintro cdv A outer s H E ⟨_, G0, H0, M, W, tk⟩ hr rfl Rs ω o ω' ⟨⟨p, q⟩, ⟨hp, hq⟩, rfl, rfl, rfl, rfl⟩
  refine hb_ret (er_ratio T hr (ar_cons (er_bin (er_bin (er_top X (er_var 0 rfl)) (er_bot X (er_var 1 rfl)) (bop_mul (hp.mt hq))) (er_bin (er_top X (er_var 1 rfl)) (er_bot X (er_var 0 rfl)) (bop_mul (hq.mt hp))) bop_sub)
    (ar_cons (er_bin (er_bot X (er_var 0 rfl)) (er_bot X (er_var 1 rfl)) (bop_mul (hp.mb hq))) ar_nil)) (divInt_sub p q) (Int.mul_ne_zero den_ne den_ne) (hp.dd hq)) ⟨_, [], rfl, fun _ _ h => h, rfl⟩
theorem kf_mul (Fn : Fun K "__mul__" "Ratio.__mul__" s_Ratio___mul__ f fd) (X : RatX K mg C) (T : Kc P w K mg base C "Ratio" 3 (pInit C B)) : FnOk P w K mg base (L2.CX P w) 5 f fd P_Ratio___mul__ (spM (pMul C)) := by
  refine fn_ok Fn c_Ratio___mul__ (fun _ _ _ _ ⟨_, _, h, _⟩ => by rw [h]; rfl) ?_
  rintro cdv A outer s H E ⟨_, G0, H0, M, W, tk⟩ hr rfl Rs ω o ω' ⟨⟨p, q⟩, ⟨hp, hq⟩, rfl, rfl, rfl, rfl⟩
  refine hb_ret (er_ratio T hr (ar_cons (er_bin (er_top X (er_var 0 rfl)) (er_top X (er_var 1 rfl)) (bop_mul (mulok hp.t hq.t)))
    (ar_cons (er_bin (er_bot X (er_var 0 rfl)) (er_bot X (er_var 1 rfl)) (bop_mul (hp.mb hq))) ar_nil)) (divInt_mul p q) (Int.mul_ne_zero den_ne den_ne) (hp.dd hq)) ⟨_, [], rfl, fun _ _ h => h, rfl⟩
theorem kf_neg (Fn : Fun K "__neg__" "Ratio.__neg__" s_Ratio___neg__ f fd) (X : RatX K mg C) (T : Kc P w K mg base C "Ratio" 3 (pInit C B)) : FnOk P w K mg base (L2.CX P w) 5 f fd P_Ratio___neg__ (spM (pNeg C)) := by
  refine fn_ok Fn c_Ratio___neg__ (fun _ _ _ _ ⟨_, _, h, _⟩ => by rw [h]; rfl) ?_
  rintro cdv A outer s H E ⟨_, G0, H0, M, W, tk⟩ hr rfl Rs ω o ω' ⟨p, hp, rfl, rfl, rfl, rfl⟩
  exact hb_ret (er_ratio T hr (ar_cons (er_un (er_top X (er_var 0 rfl)) uop_neg) (ar_cons (er_bot X (er_var 0 rfl)) ar_nil)) (divInt_neg p) den_ne (Nat.lt_of_lt_of_le hp.b (Nat.pow_le_pow_right (by decide) (by decide)))) ⟨_, [], rfl, fun _ _ h => h, rfl⟩
theorem kf_whole (Fn : Fun K "whole" "Ratio.whole" s_Ratio_whole f fd) (X : RatX K mg C) (T : Kc P w K mg base C "Ratio" 3 (pInit C B)) : FnOk P w K mg base (L2.CX P w) 5 f fd P_Ratio_whole (spM (pWhole C)) := by
  refine fn_ok Fn c_Ratio_whole (fun _ _ _ _ ⟨_, _, h, _⟩ => by rw [h]; rfl) ?_
  rintro cdv A outer s H E ⟨_, G0, H0, M, W, tk⟩ hr rfl Rs ω o ω' ⟨n, -, rfl, rfl, rfl, rfl⟩
  exact hb_ret (er_ratio T hr (ar_cons (er_var 1 rfl) (ar_cons er_int ar_nil)) (divInt_int n) (by decide) (Nat.lt_of_lt_of_le (show 1 < 2 ^ 1 by decide) (Nat.pow_le_pow_right (by decide) (by decide)))) ⟨_, [], rfl, fun _ _ h => h, rfl⟩
theorem kf_quo (Fn : Fun K "quotient" "Ratio.quotient" s_Ratio_quotient f fd) (X : RatX K mg C) (T : Kc P w K mg base C "Ratio" 3 (pInit C B)) : FnOk P w K mg base (L2.CX P w) 5 f fd P_Ratio_quotient (spM (pQuo C B)) := by
  refine fn_ok Fn c_Ratio_quotient (fun _ _ _ _ h => by rcases h with ⟨_, _, h, _⟩ | ⟨_, _, h, _⟩ <;> rw [h] <;> rfl) ?_
  rintro cdv A outer s H E ⟨_, G0, H0, M, W, tk⟩ hr rfl Rs ω o ω' (⟨⟨p, q⟩, ⟨hp, hq, h0⟩, rfl, rfl, rfl, rfl⟩ | ⟨⟨p, q⟩, ⟨hp, hq, h0⟩, rfl, rfl, rfl, rfl⟩)
  · refine hb_ret (er_ratio T hr (ar_cons (er_bin (er_top X (er_var 0 rfl)) (er_bot X (er_var 1 rfl)) (bop_mul (hp.mt hq)))
      (ar_cons (er_bin (er_bot X (er_var 0 rfl)) (er_top X (er_var 1 rfl)) (bop_mul (mulok hp.b hq.t))) ar_nil)) (divInt_quo p q) (Int.mul_ne_zero den_ne h0) ?_) ⟨_, [], rfl, fun _ _ h => h, rfl⟩
    rw [Int.natAbs_mul]
    exact Nat.lt_of_lt_of_le (mul_lt2 hp.b hq.t) (Nat.pow_le_pow_right (by decide) (by decide))
  · refine hb_retX (ex_ratio T hr (ar_cons (er_bin (er_top X (er_var 0 rfl)) (er_bot X (er_var 1 rfl)) (bop_mul (hp.mt hq)))
      (ar_cons (er_bin (er_bot X (er_var 0 rfl)) (er_top X (er_var 1 rfl)) (bop_mul (mulok hp.b hq.t))) ar_nil)) ?_) ⟨_, [], rfl, fun _ _ _ h => h, rfl⟩
    show (p.den : Int) * q.num = 0
    rw [show q.num = 0 from h0, Int.mul_zero]
theorem kf_under (Fn : Fun K "under" "Ratio.under" s_Ratio_under f fd) (X : RatX K mg C) : FnOk P w K mg base (L2.CX P w) 5 f fd P_Ratio_under (spM (pUnder C)) := by
  refine fn_ok Fn c_Ratio_under (fun _ _ _ _ ⟨_, _, h, _⟩ => by rw [h]; rfl) ?_
  rintro cdv A outer s H E ⟨_, G0, H0, M, W, tk⟩ hr rfl Rs ω o ω' ⟨⟨p, q⟩, ⟨hp, hq⟩, rfl, rfl, rfl, rfl⟩
  refine hb_ret (er_cmp (er_bin (er_top X (er_var 0 rfl)) (er_bot X (er_var 1 rfl)) (bop_mul (hp.mt hq))) (er_bin (er_top X (er_var 1 rfl)) (er_bot X (er_var 0 rfl)) (bop_mul (hq.mt hp))) bop_lt) ⟨_, [], rfl, fun v G h => ?_, rfl⟩
  rw [show v = V.bl _ from h]
  show V.bl _ = V.bl _
  congr 1
  exact decide_eq_decide.mpr (Rat.lt_iff p q).symm
theorem kf_eq (Fn : Fun K "__eq__" "Ratio.__eq__" s_Ratio___eq__ f fd) (X : RatX K mg C) : FnOk P w K mg base (L2.CX P w) 5 f fd P_Ratio___eq__ (spM (pEq C)) := by
  refine fn_ok Fn c_Ratio___eq__ (fun _ _ _ _ h => by rcases h with ⟨_, _, h, _⟩ | ⟨_, _, h, _⟩ | ⟨_, _, h, _⟩ <;> rw [h] <;> rfl) ?_
  rintro cdv A outer s H E ⟨_, G0, H0, M, W, tk⟩ hr rfl Rs ω o ω' (⟨⟨p, q⟩, -, rfl, rfl, rfl, rfl⟩ | ⟨⟨p, q⟩, -, rfl, rfl, rfl, rfl⟩ | ⟨⟨p, q⟩, -, rfl, rfl, rfl, rfl⟩)
  · refine hb_ret (er_and (er_callB (cop_isIns X.cx) rfl X.isi bt_isi (ar_cons (er_var 1 rfl) (ar_cons (er_glob rfl X.gC rfl) ar_nil))) fun _ => er_and (er_cmp (er_top X (er_var 0 rfl)) (er_top X (er_var 1 rfl)) bop_eqI) fun _ => er_one (er_cmp (er_bot X (er_var 0 rfl)) (er_bot X (er_var 1 rfl)) bop_eqI)) ⟨_, [], rfl, fun v G h => ?_, rfl⟩
    rw [show v = V.bl _ from h]
    show V.bl _ = V.bl (decide (p = q))
    rw [← rat_eq_dec, Bool.true_and]
  · refine hb_ret (er_and (m := false) (er_callB (cop_isNot (.inl ⟨q, rfl, rfl⟩) X.ksI) rfl X.isi bt_isi (ar_cons (er_var 1 rfl) (ar_cons (er_glob rfl X.gC rfl) ar_nil))) fun z => Bool.noConfusion z) ⟨_, [], rfl, fun v G h => h, rfl⟩
  · refine hb_ret (er_and (m := false) (er_callB (cop_isNot (.inr (.inl ⟨q, rfl, rfl⟩)) X.ksS) rfl X.isi bt_isi (ar_cons (er_var 1 rfl) (ar_cons (er_glob rfl X.gC rfl) ar_nil))) fun z => Bool.noConfusion z) ⟨_, [], rfl, fun v G h => h, rfl⟩
end
end W1
set_option maxRecDepth 100000
set_option maxHeartbeats 2000000
set_option exponentiation.threshold 20000
namespace W1
open PySem PySem.Spec PyProof.Rows L2 NdefX

/-- a list or a tuple -/
def rSeq (b : Bool) (Rs : List Rl) : Rl := if b then rLst Rs else rTup Rs
section
variable {F : Fx} {ρ : Ty} {ω w w1 : Ow} {e tg it : Expr} {Rs : List Rl} {R : Rl} {b : Bool} {i : Int} {n : Nat}
theorem cop_lenRq : Cop F ω (.builtin "len") [rSeq b Rs] (rInt (Rs.length : Int)) := by
  cases b
  · exact cop_lenT
  · exact cop_lenL
theorem it_Rq (he : ER F ρ ω it (rSeq b Rs) w1) : IT F ρ ω tg it Rs w1 := by
  cases b
  · exact it_tup he
  · exact it_lst he
end
def sumR (qs : List Rat) : Rat := qs.foldl (· + ·) 0
theorem fold_take {α β : Type} (f : β → α → β) (z : β) (xs : List α) (k : Nat) (a : α) (h : xs[k]? = some a) : (xs.take (k + 1)).foldl f z = f ((xs.take k).foldl f z) a := by
  rw [List.take_add_one, h, List.foldl_append]
  rfl
theorem map_get {α β : Type} {f : α → β} {xs : List α} {k : Nat} {S : β} (h : (xs.map f)[k]? = some S) : ∃ a, xs[k]? = some a ∧ S = f a := by
  rw [List.getElem?_map] at h
  cases e : xs[k]? with
  | none => rw [e] at h; cases h
  | some a => rw [e] at h; cases h; exact ⟨a, rfl, rfl⟩
theorem mem_get {α : Type} {xs : List α} {k : Nat} {a : α} (h : xs[k]? = some a) : a ∈ xs := List.mem_of_getElem? h
def pTotal (C : Addr) : Pre := pOk (α := Bool × List Rat) (fun a => (∀ q ∈ a.2, small q) ∧ ∀ k, small (sumR (a.2.take k))) (fun a => [rSeq a.1 (a.2.map (rRat C))]) (fun a => rRat C (sumR a.2))
section
variable {C B : Addr} {p q : Rat}
theorem pAddOk (hp : small p) (hq : small q) : pAdd C [rRat C p, rRat C q] [] (.ok (rRat C (p + q))) [] := ⟨(p, q), ⟨hp, hq⟩, rfl, rfl, rfl, rfl⟩
theorem pSubOk (hp : small p) (hq : small q) : pSub C [rRat C p, rRat C q] [] (.ok (rRat C (p - q))) [] := ⟨(p, q), ⟨hp, hq⟩, rfl, rfl, rfl, rfl⟩
theorem pMulOk (hp : small p) (hq : small q) : pMul C [rRat C p, rRat C q] [] (.ok (rRat C (p * q))) [] := ⟨(p, q), ⟨hp, hq⟩, rfl, rfl, rfl, rfl⟩
theorem pUnderOk (hp : small p) (hq : small q) : pUnder C [rRat C p, rRat C q] [] (.ok (rBool (decide (p < q)))) [] := ⟨(p, q), ⟨hp, hq⟩, rfl, rfl, rfl, rfl⟩
theorem pNegOk (hp : small p) : pNeg C [rRat C p] [] (.ok (rRat C (-p))) [] := ⟨p, hp, rfl, rfl, rfl, rfl⟩
theorem pWholeOk {n : Int} : pWhole C [rRef C, rInt n] [] (.ok (rRat C (n : Rat))) [] := ⟨n, trivial, rfl, rfl, rfl, rfl⟩
theorem pQuoOk (hp : small p) (hq : small q) (h : q.num ≠ 0) : pQuo C B [rRat C p, rRat C q] [] (.ok (rRat C (p / q))) [] := .inl ⟨(p, q), ⟨hp, hq, h⟩, rfl, rfl, rfl, rfl⟩
theorem pEqOk : pEq C [rRat C p, rRat C q] [] (.ok (rBool (decide (p = q)))) [] := .inl ⟨(p, q), trivial, rfl, rfl, rfl, rfl⟩
theorem pTotalOk {b : Bool} {qs : List Rat} (h1 : ∀ q ∈ qs, small q) (h2 : ∀ k, small (sumR (qs.take k))) : pTotal C [rSeq b (qs.map (rRat C))] [] (.ok (rRat C (sumR qs))) [] := ⟨(b, qs), ⟨h1, h2⟩, rfl, rfl, rfl, rfl⟩
end
section
variable {P : Program} {w : World} {K : PySem.W.Frag} {mg : Str → Option Value} {base : Heap} {C B f : Addr} {fd : FuncData}
theorem kf_total (Fn : Fun K "total" "total" s_total f fd) (X : RatX K mg C) (Tw : Kcm P w K mg base C "whole" 5 (pWhole C)) (Ta : Ko P w K mg base C "__add__" 5 (pAdd C)) : FnOk P w K mg base (L2.CX P w) 7 f fd P_total (spM (pTotal C)) := by
  refine fn_ok Fn c_total (fun _ _ _ _ ⟨_, _, h, _⟩ => by rw [h]; rfl) ?_
  rintro cdv A outer s H E ⟨_, G0, H0, M, W, tk⟩ hr rfl Rs ω o ω' ⟨⟨b, qs⟩, ⟨h1, h2⟩, rfl, rfl, rfl, rfl⟩
  refine hb_set 1 (er_cm Tw (hr.mono (by decide)) (er_glob rfl X.gC rfl) (ar_cons er_int ar_nil) (pok (0 : Int) trivial)) ?_ c_total.nd
  refine hb_for (it_Rq (er_var 0 rfl)) (fun k ρ ω => ω = [] ∧ ∃ z, ρ = [some (rSeq b (qs.map (rRat C))), some (rRat C (sumR (qs.take k))), z]) ⟨rfl, none, ?_⟩ ?_ ?_ (passes_of rfl) (pg_name (i := 2) c_total.nd rfl (Or.inl rfl))
  · rfl
  · rintro k ρ ω S hS ⟨rfl, z, rfl⟩
    obtain ⟨q, hq, rfl⟩ := map_get hS
    refine ⟨_, ge_name, ?_⟩
    refine hb_set 1 (er_bin (er_var 1 rfl) (er_var 2 rfl) (bop_o Ta X.cx (hr.mono (by decide)) (pAddOk (h2 k) (h1 q (mem_get hq))))) (hb_nil ?_) c_total.nd
    refine ⟨rfl, some (rRat C q), ?_⟩
    unfold sumR
    rw [fold_take _ _ _ _ _ hq]
    rfl
  · rintro ρ ω ⟨rfl, z, rfl⟩
    refine hb_ret (er_var 1 rfl) ⟨_, [], rfl, fun v G h => ?_, rfl⟩
    rw [List.length_map, List.take_length] at h
    exact h
end
end W1
set_option maxRecDepth 100000
set_option maxHeartbeats 2000000
set_option exponentiation.threshold 20000
namespace W1
open PySem PySem.Spec PyProof.Rows L2 NdefX TL NumText

/-! ### names and amounts -/
theorem bt_all : bootBuiltins "all" = some (.builtin "all") := by decide +kernel
abbrev lets : Str := Str.ofString "abcdefghijklmnopqrstuvwxyz"
abbrev sigs : Str := Str.ofString "abcdefghijklmnopqrstuvwxyz0123456789"
def isLet (c : Nat) : Bool := decide (c ∈ tl lets)
def isSig (c : Nat) : Bool := decide (c ∈ tl sigs)
def nameL (l : List Nat) : Bool := match l with | [] => false | c :: r => decide ((c :: r).length ≤ 8) && isLet c && (c :: r).all isSig
def pName : Pre := pOk (α := Str) (fun z => z.length ≤ 640) (fun z => [rStr z]) (fun z => rBool (nameL (tl z)))
theorem pNameOk {z : Str} (h : z.length ≤ 640) : pName [rStr z] [] (.ok (rBool (nameL (tl z)))) [] := ⟨z, h, rfl, rfl, rfl, rfl⟩
theorem bop_niC2 {F : Fx} {w : Ow} {c : Nat} {z : Str} : Bop F w (compareOp .NotIn) (rStr ⟨#[c]⟩) (rStr z) (rBool (!decide (c ∈ z.cps.toList))) := bop_niC
theorem cop_lenStr {F : Fx} {w : Ow} {z : Str} (h : z.length ≤ 100000) : Cop F w (.builtin "len") [rStr z] (rInt (z.length : Int)) := cop_of1 call_len_str fun _ _ q => ⟨z, rfl, Nat.le_trans h (by decide), q⟩
section
variable {P : Program} {w : World} {K : PySem.W.Frag} {mg : Str → Option Value} {base : Heap} {f : Addr} {fd : FuncData} {tk1 tk2 tk3 : Tok}
theorem kf_is_name (Fn : Fun K "is_name" "is_name" s_is_name f fd) (gL : mg "LETTERS" = some (.str lets tk1)) (gS : mg "SIGNS" = some (.str sigs tk2)) (gM : mg "MOST_LETTERS" = some (.int 8 tk3)) (len : mg "len" = none) (all : mg "all" = none) : FnOk P w K mg base (L2.CX P w) 2 f fd P_is_name (spM pName) := by
  refine fn_ok Fn c_is_name (fun _ _ _ _ ⟨_, _, h, _⟩ => by rw [h]; rfl) ?_
  rintro cdv A outer s H E ⟨_, G0, H0, M, W, tk⟩ hr rfl Rs ω o ω' ⟨z, hz, rfl, rfl, rfl, rfl⟩
  have hz : z.length ≤ 640 := hz
  have nd := c_is_name.nd
  show HB _ _ _ _ (Kf (.ok (rBool (nameL (tl z)))) [])
  have el : ∀ {F : Fx} {ω ω' : Ow} {ρ : Ty} {e : Expr}, ER F ρ ω e (rLst ((tl z).map fun c => rBool (decide (c ∈ tl sigs)))) ω' → ER F ρ ω e (rLst (((tl z).map fun c => decide (c ∈ tl sigs)).map rBool)) ω' := fun h => er_eq h (by rw [List.map_map]; rfl)
  have fin : HB ⟨cxOf (L2.CX P w) P w K mg base N_is_name "is_name" (defScope s_is_name) f cdv A outer s H E, G0, H0, M, W, tk⟩ [some (rStr z), none] [] ((defBody s_is_name).drop 1) (Kf (.ok (rBool ((tl z).all isSig))) []) := by
    refine hb_ret (er_callB (cop_all rfl) rfl all bt_all (ar_cons (el (er_lc (xs := tl z) (A := fun c => rStr ⟨#[c]⟩) (B := fun c => rBool (decide (c ∈ tl sigs))) (it_str (er_var 0 rfl)) (by rw [← len_tl]; omega) [("sign", 1)]
      (blkOk_by (N := N_is_name) (sc := defScope s_is_name) (by decide +kernel)) (fun _ _ _ _ _ => pg_name (i := 1) nd rfl (Or.inl rfl)) (fun i a h => gew_name) (fun i a h s H0 cc cl fp d => er_cmp (er_var 1 rfl) (er_glob (v := .str sigs) rfl gS ⟨tk2, rfl⟩) bop_inC) nd)) ar_nil)) ⟨_, [], rfl, fun v G h => ?_, rfl⟩
    rw [show v = V.bl _ from h]
    show V.bl _ = V.bl _
    congr 1
    rw [List.all_map]
    rfl
  cases e : tl z with
  | nil =>
    have ez : z = Str.ofString "" := ext_tl (by rw [e, tl_ofString]; rfl)
    refine hb_if (b := true) (tr_to (PWR.tr (tr_or (m := true) (tr_cmp (er_var 0 rfl) er_str bop_eqS) fun h => absurd ez (of_decide_eq_false h))) (Bool.or_true _)) (fun _ => ?_) (fun y => Bool.noConfusion y)
    exact hb_ret er_bl ⟨_, [], rfl, fun _ _ h => h, rfl⟩
  | cons c r =>
    have ne : ¬ z = Str.ofString "" := fun y => by
      rw [y, tl_ofString] at e
      cases e
    have hl : z.length = (c :: r).length := by rw [len_tl, e]
    refine hb_if (PWR.tr (tr_or (tr_cmp (er_var 0 rfl) er_str bop_eqS) fun _ => tr_or (tr_cmp (er_callB (cop_lenStr (by omega)) rfl len bt_len (ar_cons (er_var 0 rfl) ar_nil)) (er_glob (v := .int 8) rfl gM ⟨tk3, rfl⟩) bop_gt) fun _ => tr_or1 (tr_cmp (er_ix (er_var 0 rfl) er_int (iop_str (c := c) (atI_nat (j := 0) (by show (tl z)[0]? = _; rw [e]; rfl)) (by omega))) (er_glob (v := .str lets) rfl gL ⟨tk1, rfl⟩) bop_niC))) (fun hb => ?_) (fun hb => hb_nil ?_)
    · refine hb_ret er_bl ⟨_, [], rfl, fun v G h => ?_, rfl⟩
      rw [show v = V.bl false from h]
      show V.bl false = V.bl (decide ((c :: r).length ≤ 8) && isLet c && (c :: r).all isSig)
      rw [decide_eq_false ne, Bool.false_or, Bool.or_eq_true] at hb
      rcases hb with hb | hb
      · have := of_decide_eq_true hb
        rw [decide_eq_false (by omega), Bool.false_and, Bool.false_and]
      · have : isLet c = false := by simpa [isLet] using hb
        rw [this, Bool.and_false, Bool.false_and]
    · rw [decide_eq_false ne, Bool.false_or, Bool.or_eq_false_iff] at hb
      have h1 := of_decide_eq_false hb.1
      have h2 : isLet c = true := by simpa [isLet] using hb.2
      have e2 : nameL (c :: r) = (tl z).all isSig := by
        show (decide ((c :: r).length ≤ 8) && isLet c && (c :: r).all isSig) = _
        rw [decide_eq_true (by omega), h2, e]
        rfl
      rw [e2]
      exact fin
end
end W1
set_option maxRecDepth 100000
set_option maxHeartbeats 2000000
set_option exponentiation.threshold 20000
namespace W1
open PySem PySem.Spec PyProof.Rows L2 NdefX TL NumText

def chkL (am : Am) : List Str → Option (Sum Str Int)
  | [] => none
  | g :: r => if nameL (tl g) = true then (if valA am g < 0 then some (.inr (valA am g)) else chkL am r) else some (.inl g)
def AmOk (am : Am) : Prop := am.length < 64 ∧ ∀ p ∈ am, p.1.length ≤ 640 ∧ p.2.natAbs.log2 < 1920
def chkO (N B : Addr) (am : Am) : Out := match chkL am (srt (namesA am)) with
  | none => .ok rNon
  | some (.inl g) => .error (erF N "name" (rStr g))
  | some (.inr i) => .error (erF B "n" (rInt i))
def pChk (N B : Addr) : Pre := fun Rs w o w' => ∃ A am, DVar A w (fsA am) ∧ AmOk am ∧ Rs = [A] ∧ w' = w ∧ o = chkO N B am
theorem srt_mem {xs : List Str} {g : Str} (h : g ∈ srt xs) : g ∈ xs := (srt_perm xs).mem_iff.mp h
theorem valA_ok {am : Am} (h : AmOk am) (g : Str) : (valA am g).natAbs.log2 < 1920 := by
  unfold valA
  cases e : am.find? fun p => decide (p.1 = g) with
  | none => decide
  | some p => exact (h.2 p (List.mem_of_find?_eq_some e)).2
theorem name_ok {am : Am} (h : AmOk am) {g : Str} (hg : g ∈ namesA am) : g.length ≤ 640 := by
  obtain ⟨p, hp, rfl⟩ := List.mem_map.mp hg
  exact (h.2 p hp).1
section
variable {P : Program} {w : World} {K : PySem.W.Frag} {mg : Str → Option Value} {base : Heap} {N B f : Addr} {fd : FuncData}
theorem kf_check (Fn : Fun K "check_amounts" "check_amounts" s_check_amounts f fd) (Tn : Kf1 P w K mg base "is_name" 2 pName) (Te : Ke P w K mg base N "BadName" "name" 1 prStr) (Tb : Ke P w K mg base B "BadNumber" "n" 1 prInt) (ls : mg "list" = none) (st : mg "sorted" = none) :
    FnOk P w K mg base (L2.CX P w) 4 f fd P_check_amounts (spM (pChk N B)) := by
  refine fn_ok Fn c_check_amounts (fun _ _ _ _ ⟨_, _, _, _, h, _⟩ => by rw [h]; rfl) ?_
  rintro cdv A outer s H E ⟨_, G0, H0, M, W, tk⟩ hr rfl Rs ω o ω' ⟨A0, am, hd, hk, rfl, rfl, rfl⟩
  have nd := c_check_amounts.nd
  refine hb_for (it_lst (er_sorted (er_var 0 rfl) hd.isd0 hk.1 rfl ls st)) (fun k ρ w1 => w1 = ω' ∧ chkL am ((srt (namesA am)).drop k) = chkL am (srt (namesA am)) ∧ ∃ z, ρ = [some A0, z]) ⟨rfl, rfl, none, rfl⟩ ?_ ?_ (passes_of rfl) (pg_name (i := 1) nd rfl (Or.inl rfl))
  · rintro k ρ w1 S hS ⟨rfl, hc, z, rfl⟩
    rw [List.getElem?_map] at hS
    cases e : (srt (namesA am))[k]? with
    | none => rw [e] at hS; cases hS
    | some g =>
      rw [e] at hS
      cases hS
      have hg : g ∈ namesA am := srt_mem (List.mem_of_getElem? e)
      have hd2 : (srt (namesA am)).drop k = g :: (srt (namesA am)).drop (k + 1) := by
        have hl := (List.getElem?_eq_some_iff.mp e)
        rw [List.drop_eq_getElem_cons hl.1, hl.2]
      rw [hd2] at hc
      refine ⟨_, ge_name, ?_⟩
      refine hb_if (tr_not (tr_val (er_fn0 Tn (hr.mono (by decide)) (ar_cons (er_var 1 rfl) ar_nil) (pNameOk (name_ok hk hg))))) (fun hb => ?_) (fun hb => hb_nil ?_)
      · have hn : ¬ nameL (tl g) = true := by simpa using hb
        have e2 : chkL am (srt (namesA am)) = some (.inl g) := by
          rw [← hc]
          exact if_neg hn
        refine hb_err Te (hr.mono (by decide)) (ar_cons (er_var 1 rfl) ar_nil) ⟨_, [], ?_, fun _ _ _ h => h, (List.append_nil _).symm⟩ fun v G h => ⟨g, h, Nat.le_trans (name_ok hk hg) (by decide)⟩
        unfold chkO
        rw [e2]
      · have hn : nameL (tl g) = true := by simpa using hb
        refine hb_if (tr_cmp (er_dget (k := .inr g) (er_var 0 rfl) (er_var 1 rfl) hd.isd0 (valR_A hg) hr) er_int bop_lt) (fun hb => ?_) (fun hb => hb_nil (hb_nil ?_))
        · have hv := of_decide_eq_true hb
          have e2 : chkL am (srt (namesA am)) = some (.inr (valA am g)) := by
            rw [← hc]
            show (if nameL (tl g) = true then (if valA am g < 0 then some (Sum.inr (valA am g)) else _) else _) = _
            rw [if_pos hn, if_pos hv]
          refine hb_err Tb (hr.mono (by decide)) (ar_cons (er_dget (k := .inr g) (er_var 0 rfl) (er_var 1 rfl) hd.isd0 (valR_A hg) hr) ar_nil) ⟨_, [], ?_, fun _ _ _ h => h, (List.append_nil _).symm⟩ fun v G h => ⟨_, h, valA_ok hk g⟩
          unfold chkO
          rw [e2]
        · have hv := of_decide_eq_false hb
          refine ⟨rfl, ?_, _, rfl⟩
          rw [← hc]
          show _ = (if nameL (tl g) = true then (if valA am g < 0 then some (Sum.inr (valA am g)) else _) else _)
          rw [if_pos hn, if_neg hv]
  · rintro ρ w1 ⟨rfl, hc, z, rfl⟩
    refine hb_nil ⟨rNon, [], ?_, fun _ => rfl, (List.append_nil _).symm⟩
    rw [List.length_map, List.drop_length] at hc
    unfold chkO
    rw [← hc]
    rfl
end
end W1
set_option maxRecDepth 100000
set_option maxHeartbeats 2000000
set_option exponentiation.threshold 20000
namespace W1
open PySem PySem.Spec PyProof.Rows L2 NdefX TL NumText

def keptL (am : Am) : List Str := (srt (namesA am)).filter fun g => decide (0 < valA am g)
def keptA (am : Am) : Am := (keptL am).map fun g => (g, valA am g)
theorem putKR_new {fs : List (Key × Rl)} {k : Key} {R : Rl} (h : k ∉ fs.map (·.1)) : putKR fs k R = fs ++ [(k, R)] := by
  unfold putKR
  rw [if_neg]
  intro z
  obtain ⟨p, hp, e⟩ := List.any_eq_true.mp z
  exact h (List.mem_map.mpr ⟨p, hp, of_decide_eq_true e⟩)
theorem dcR_nodup {α : Type} {kf : α → Key} {B : α → Rl} {xs : List α} (h : (xs.map kf).Nodup) : dcR kf B xs = xs.map fun a => (kf a, B a) := by
  have go : ∀ (xs : List α) (acc : List (Key × Rl)), (acc.map (·.1) ++ xs.map kf).Nodup → xs.foldl (fun acc a => putKR acc (kf a) (B a)) acc = acc ++ xs.map fun a => (kf a, B a) := by
    intro xs
    induction xs with
    | nil => intro acc _; simp
    | cons a l ih =>
      intro acc hn
      rw [List.foldl_cons, putKR_new]
      · rw [ih (acc ++ [(kf a, B a)]) (by rw [List.map_append, List.append_assoc]; exact hn), List.append_assoc]
        rfl
      · intro hm
        rw [List.map_cons] at hn
        exact (List.nodup_append.mp hn).2.2 _ hm _ List.mem_cons_self rfl
  exact go xs [] (by simpa using h)
theorem kept_dc {am : Am} (h : (namesA am).Nodup) : dcR (fun g : Str => (Sum.inr g : Key)) (fun g => rInt (valA am g)) (keptL am) = fsA (keptA am) := by
  rw [dcR_nodup]
  · unfold fsA keptA
    rw [List.map_map]
    rfl
  · have h1 : (keptL am).Nodup := ((srt_perm _).nodup_iff.mpr h).filter _
    exact List.pairwise_map.mpr (h1.imp fun hne e => hne (Sum.inr.inj e))
def pKept : Pre := fun Rs w o w' => ∃ A am, DVar A w (fsA am) ∧ am.length < 64 ∧ (namesA am).Nodup ∧ Rs = [A] ∧ w' = w ∧ o = .ok (rDct (fsA (keptA am)))
section
variable {P : Program} {w : World} {K : PySem.W.Frag} {mg : Str → Option Value} {base : Heap} {f : Addr} {fd : FuncData}
theorem kf_kept (Fn : Fun K "kept_amounts" "kept_amounts" s_kept_amounts f fd) (ls : mg "list" = none) (st : mg "sorted" = none) : FnOk P w K mg base (L2.CX P w) 2 f fd P_kept_amounts (spM pKept) := by
  refine fn_ok Fn c_kept_amounts (fun _ _ _ _ ⟨_, _, _, _, _, h, _⟩ => by rw [h]; rfl) ?_
  rintro cdv A outer s H E ⟨_, G0, H0, M, W, tk⟩ hr rfl Rs ω o ω' ⟨A0, am, hd, hz, hnd, rfl, rfl, rfl⟩
  have nd := c_kept_amounts.nd
  have hg : ∀ (i : Nat) g, (srt (namesA am))[i]? = some g → g ∈ namesA am := fun i g h => srt_mem (List.mem_of_getElem? h)
  have hl : (srt (namesA am)).length ≤ 100000 := by
    rw [(srt_perm _).length_eq]
    unfold namesA
    rw [List.length_map]
    omega
  have isd : ∀ (F : Fx) d, IsDct F A0 (d :: ω') (fsA am) := fun F d => by
    rcases hd with ⟨rfl, rfl⟩ | ⟨q, rfl, rfl⟩
    · exact isd_frz
    · exact isd_own (List.mem_cons_of_mem _ List.mem_cons_self)
  refine hb_ret (er_frz (en_dcf (xs := srt (namesA am)) (A := rStr) (B := fun g => rInt (valA am g)) (kf := fun g => Sum.inr g) (p := fun g => decide (0 < valA am g)) (it_lst (er_sorted (er_var 0 rfl) hd.isd0 hz rfl ls st)) hl [("good", 1)] (blkOk_by (N := N_kept_amounts) (sc := defScope s_kept_amounts) (by decide +kernel))
    (fun _ _ _ _ _ => pg_name (i := 1) nd rfl (Or.inl rfl)) (fun i a h => gew_name) (fun i a h s H0 cc cl fp d => tr_cmp (er_dget (k := .inr a) (er_var 0 rfl) (er_var 1 rfl) (isd _ _) (valR_A (hg i a h)) hr) er_int bop_gt) (fun i a h _ s H0 cc cl fp d => er_var 1 rfl) (fun i a h _ s H0 cc cl fp d => er_dget (k := .inr a) (er_var 0 rfl) (er_var 1 rfl) (isd _ _) (valR_A (hg i a h)) hr) nd)) ⟨_, [], rfl, fun v G h => ?_, (List.append_nil _).symm⟩
  rw [← kept_dc hnd]
  exact h
end
end W1
set_option maxRecDepth 100000
set_option maxHeartbeats 2000000
set_option exponentiation.threshold 20000
namespace W1
open PySem PySem.Spec PyProof.Rows L2 NdefX TL NumText
local macro_rules | `(tactic| walk_at "side") => `(tactic| first | assumption | rfl | decide | omega | (simp only [List.length_map, List.length_cons, List.length_nil, List.length_append, List.length_range, decide_eq_true_eq, decide_eq_false_iff_not, Bool.not_eq_true', Bool.and_eq_true, Bool.or_eq_false_iff] at *; omega))
local macro_rules | `(tactic| walk_at "room") => `(tactic| first | assumption | exact Room.mono (by assumption) (by decide))
local macro_rules | `(tactic| walk_at "pre") => `(tactic| first | assumption | exact ⟨_, by walk_at "side", rfl, rfl, rfl, rfl⟩)
local macro_rules | `(tactic| walk_at "nm") => `(tactic| first
  | exact er_v 0 (by exact rfl) (by exact rfl) | exact er_v 1 (by exact rfl) (by exact rfl) | exact er_v 2 (by exact rfl) (by exact rfl) | exact er_v 3 (by exact rfl) (by exact rfl) | exact er_v 4 (by exact rfl) (by exact rfl) | exact er_v 5 (by exact rfl) (by exact rfl) | exact er_v 6 (by exact rfl) (by exact rfl) | exact er_v 7 (by exact rfl) (by exact rfl)
  | exact er_v 8 (by exact rfl) (by exact rfl) | exact er_v 9 (by exact rfl) (by exact rfl) | exact er_v 10 (by exact rfl) (by exact rfl) | exact er_v 11 (by exact rfl) (by exact rfl) | exact er_v 12 (by exact rfl) (by exact rfl) | exact er_v 13 (by exact rfl) (by exact rfl) | exact er_v 14 (by exact rfl) (by exact rfl) | exact er_v 15 (by exact rfl) (by exact rfl)
  | exact er_gS (by assumption) | exact er_gI (by assumption) | exact er_gC (by assumption))
local macro_rules | `(tactic| walk_at "bt") => `(tactic| with_reducible first | exact bt_len | exact bt_int | exact bt_str | exact bt_list | exact bt_sorted | exact bt_all | exact bt_isi | exact bt_abs | exact bt_bool | exact bt_tup)
local macro_rules | `(tactic| walk_at "bop") => `(tactic| first
  | with_reducible exact bop_add | with_reducible exact bop_sub | with_reducible exact bop_lt | with_reducible exact bop_le | with_reducible exact bop_gt | with_reducible exact bop_ge | with_reducible exact bop_eqI | with_reducible exact bop_neI | with_reducible exact bop_eqS | with_reducible exact bop_neS | with_reducible exact bop_inC | with_reducible exact bop_niC2 | with_reducible exact bop_isN | with_reducible exact bop_notN
  | (with_reducible apply bop_mod); walk_at "side"
  | (with_reducible apply bop_mul); first | exact IntMulOk.of_right (by decide) | exact IntMulOk.of_left (by decide) | walk_at "side"
  | (with_reducible apply bop_fdiv); walk_at "side"
  | (with_reducible apply bop_pow); walk_at "side"
  | (with_reducible apply bop_addS); walk_at "side"
  | (with_reducible apply bop_cat); walk_at "side"
  | assumption)
local macro_rules | `(tactic| walk_at "cop") => `(tactic| first
  | with_reducible exact cop_lenL | with_reducible exact cop_lenT | with_reducible exact cop_int | with_reducible exact cop_abs | with_reducible exact cop_bool | with_reducible exact cop_intB | with_reducible exact cop_listL | with_reducible exact cop_listT | with_reducible exact cop_tupL
  | (with_reducible apply cop_lenStr); walk_at "side"
  | (with_reducible apply cop_strI); walk_at "side"
  | (with_reducible apply cop_intS) <;> walk_at "side"
  | (with_reducible apply cop_sortedS); walk_at "side"
  | (with_reducible apply cop_isIns); assumption
  | (with_reducible apply cop_all); rfl
  | exact cop_lenS
  | (with_reducible apply cop_lenD); walk_at "isd"
  | (with_reducible apply cop_listD); first | rfl | walk_at "isd"
  | assumption)
local macro_rules | `(tactic| walk_at "isd") => `(tactic| first | assumption | exact isd_frz | exact isd_own List.mem_cons_self | exact isd_own (List.mem_cons_of_mem _ List.mem_cons_self) | exact isd_own (by simp) | exact isd_ownF (by simp))
local macro_rules | `(tactic| walk_at "iop") => `(tactic| first | (with_reducible apply iop_L (n := 0)) <;> exact rfl | (with_reducible apply iop_L (n := 1)) <;> exact rfl | (with_reducible apply iop_L (n := 2)) <;> exact rfl | (with_reducible apply iop_L (n := 3)) <;> exact rfl | (with_reducible apply iop_T (n := 0)) <;> exact rfl | (with_reducible apply iop_T (n := 1)) <;> exact rfl | (with_reducible apply iop_T (n := 2)) <;> exact rfl | assumption)
local macro_rules | `(tactic| walk_at "ar") => `(tactic| first | (with_reducible show AR _ _ _ [] _ _); exact ar_nil | exact ar_cons (by walk_at "er") (by walk_at "ar"))
local macro_rules | `(tactic| walk_at "call") => `(tactic| first
  | exact er_fA (by assumption) (by walk_at "room") (by walk_at "ar") (by walk_at "pre")
  | exact er_bA (by walk_at "ar") (by assumption) (by walk_at "bt") (by walk_at "cop")
  | exact er_tA (by walk_at "ar") (by assumption) (by walk_at "bt") (by walk_at "cop")
  | exact er_f1 0 (by assumption) (by walk_at "room") (by walk_at "ar") (by exact rfl) (by walk_at "pre")
  | exact er_f1 1 (by assumption) (by walk_at "room") (by walk_at "ar") (by exact rfl) (by walk_at "pre")
  | exact er_f1 2 (by assumption) (by walk_at "room") (by walk_at "ar") (by exact rfl) (by walk_at "pre"))
local macro_rules | `(tactic| walk_at "meth") => `(tactic| first
  | exact er_m (by assumption) (by assumption) (by walk_at "room") (by walk_at "er") (by walk_at "ar") (by walk_at "pre")
  | exact er_m0 (by assumption) (by assumption) (by walk_at "room") (by walk_at "er") (by walk_at "pre"))
local macro_rules | `(tactic| walk_at "er") => `(tactic| first
  | (with_reducible show ER _ _ _ (Expr.Name _ _) _ _); walk_at "nm"
  | (with_reducible show ER _ _ _ (Expr.Constant (Const.int _) _ _) _ _); exact er_int
  | (with_reducible show ER _ _ _ (Expr.Constant (Const.str _) _ _) _ _); exact er_str
  | (with_reducible show ER _ _ _ (Expr.Constant (Const.bool _) _ _) _ _); exact er_bl
  | (with_reducible show ER _ _ _ (Expr.Constant _ _ _) _ _); exact er_non
  | (with_reducible show ER _ _ _ (Expr.BinOp _ _ _ _) _ _); exact er_bin (by walk_at "er") (by walk_at "er") (by walk_at "bop")
  | (with_reducible show ER _ _ _ (Expr.Compare _ _ _ _) _ _); exact er_cmp (by walk_at "er") (by walk_at "er") (by walk_at "bop")
  | (with_reducible show ER _ _ _ (Expr.Call (Expr.Name _ _) _ _ _) _ _); walk_at "call"
  | (with_reducible show ER _ _ _ (Expr.Call (Expr.Attribute _ _ _) _ _ _) _ _); walk_at "meth"
  | (with_reducible show ER _ _ _ (Expr.Attribute _ _ _) _ _); walk_at "attr"
  | (with_reducible show ER _ _ _ (Expr.Subscript _ (Expr.Slice _ _ _ _) _) _ _); walk_at "slice"
  | (with_reducible show ER _ _ _ (Expr.Subscript _ _ _) _ _); walk_at "ix"
  | (with_reducible show ER _ _ _ (Expr.BoolOp _ [_] _) _ _); exact er_one (by walk_at "er")
  | (with_reducible show ER _ _ _ (Expr.BoolOp BoolOp.And _ _) _ _); exact er_and (by walk_at "er") (fun _ => by walk_at "er")
  | (with_reducible show ER _ _ _ (Expr.BoolOp BoolOp.Or _ _) _ _); exact er_or (by walk_at "er") (fun _ => by walk_at "er")
  | (with_reducible show ER _ _ _ (Expr.UnaryOp UnaryOp.Not _ _) _ _); exact er_not (by walk_at "er")
  | (with_reducible show ER _ _ _ (Expr.UnaryOp _ _ _) _ _); exact er_un (by walk_at "er") (by walk_at "uop")
  | (with_reducible show ER _ _ _ (Expr.List _ _) _ _); exact er_lst (by walk_at "ar") (by exact Nat.le_of_ble_eq_true rfl)
  | (with_reducible show ER _ _ _ (Expr.Tuple _ _ _) _ _); exact er_tup (by walk_at "ar") (by exact Nat.le_of_ble_eq_true rfl)
  | (with_reducible show ER _ _ _ (Expr.Dict [] [] _) _ _); exact er_dict0
  | assumption)
local macro_rules | `(tactic| walk_at "uop") => `(tactic| exact uop_neg)
local macro_rules | `(tactic| walk_at "attr") => `(tactic| exact er_fld (by walk_at "er") (by assumption) (by assumption) (by exact rfl))
local macro_rules | `(tactic| walk_at "ix") => `(tactic| first | exact er_ix (by walk_at "er") (by walk_at "er") (by walk_at "iop") | exact er_ixO (by walk_at "er") (by walk_at "er") (by simp) (by exact rfl) (by exact rfl))
local macro_rules | `(tactic| walk_at "slice") => `(tactic| exact er_slice (by walk_at "er") (by walk_at "pr") (by walk_at "pr") (by walk_at "sop"))
local macro_rules | `(tactic| walk_at "pr") => `(tactic| first | with_reducible exact pr_none | exact pr_some (by walk_at "er"))
local macro_rules | `(tactic| walk_at "sop") => `(tactic| first | (with_reducible apply sop_str); walk_at "side" | with_reducible exact sop_L | exact sop_S)
local macro_rules | `(tactic| walk_at "pw") => `(tactic| first
  | (with_reducible apply tr_and1); walk_at "tr"
  | (with_reducible apply tr_or1); walk_at "tr"
  | (with_reducible show PWR _ _ _ (Expr.BoolOp BoolOp.And _ _) _ _); exact tr_and (by walk_at "tr") (fun _ => by walk_at "pw")
  | (with_reducible show PWR _ _ _ (Expr.BoolOp BoolOp.Or _ _) _ _); exact tr_or (by walk_at "tr") (fun _ => by walk_at "pw"))
local macro_rules | `(tactic| walk_at "tr") => `(tactic| first
  | (with_reducible show TR _ _ _ (Expr.BoolOp _ _ _) _ _); exact PWR.tr (by walk_at "pw")
  | (with_reducible apply tr_not); walk_at "tr"
  | (with_reducible show TR _ _ _ (Expr.Compare _ _ _ _) _ _); exact tr_cmp (by walk_at "er") (by walk_at "er") (by walk_at "bop")
  | exact tr_val (by walk_at "er") | assumption)
local macro_rules | `(tactic| walk_at "set") => `(tactic| first
  | refine hb_setA 0 (by exact rfl) (by walk_at "er") ?_ | refine hb_setA 1 (by exact rfl) (by walk_at "er") ?_ | refine hb_setA 2 (by exact rfl) (by walk_at "er") ?_ | refine hb_setA 3 (by exact rfl) (by walk_at "er") ?_ | refine hb_setA 4 (by exact rfl) (by walk_at "er") ?_ | refine hb_setA 5 (by exact rfl) (by walk_at "er") ?_
  | refine hb_setA 6 (by exact rfl) (by walk_at "er") ?_ | refine hb_setA 7 (by exact rfl) (by walk_at "er") ?_ | refine hb_setA 8 (by exact rfl) (by walk_at "er") ?_ | refine hb_setA 9 (by exact rfl) (by walk_at "er") ?_ | refine hb_setA 10 (by exact rfl) (by walk_at "er") ?_ | refine hb_setA 11 (by exact rfl) (by walk_at "er") ?_)
/-! ### ways -/
def wayF (t : Am) (h : Int) (m : Am) : List (Str × Rl) := [("inputs", rDct (fsA (keptA t))), ("hours", rInt h), ("outputs", rDct (fsA (keptA m)))]
def rWay (W : Addr) (t : Am) (h : Int) (m : Am) : Rl := rIns W (wayF t h m)
def wayE (t : Am) (h : Int) (m : Am) : Option (Sum Str Int) :=
  match chkL t (srt (namesA t)) with
  | some x => some x
  | none => match chkL m (srt (namesA m)) with
    | some x => some x
    | none => if h < 1 then some (.inr h) else if keptA m = [] then some (.inr 0) else none
def errW (N B : Addr) : Sum Str Int → Er
  | .inl g => erF N "name" (rStr g)
  | .inr i => erF B "n" (rInt i)
structure AmG (am : Am) : Prop where
  ok : AmOk am
  nd : (namesA am).Nodup
structure WayX (K : PySem.W.Frag) (mg : Str → Option Value) (W : Addr) : Prop where
  cx : ClsX K W
  ni : NoAttr K W "inputs"
  nh : NoAttr K W "hours"
  no : NoAttr K W "outputs"
  gW : mg "Way" = some (.ref W)
  nf : PySem.W.notFirst K W (.ref W) = true
def pWayI (W N B : Addr) : Pre := fun Rs w o w' => ∃ q A1 t w1 A2 m w2 h, DVar A1 w1 (fsA t) ∧ DVar A2 w2 (fsA m) ∧ AmG t ∧ AmG m ∧ h.natAbs.log2 < 1920 ∧ Rs = [rRef q, A1, rInt h, A2] ∧ w = (q, oIns W []) :: (w1 ++ w2) ∧
  (match wayE t h m with | none => o = .ok rNon ∧ w' = (q, oIns W (wayF t h m)) :: (w1 ++ w2) | some x => o = .error (errW N B x) ∧ w' = w)
def ksA (am : Am) : List (Key × V) := am.map fun p => (Sum.inr p.1, V.int p.2)
theorem fsA_ks (am : Am) : fsA am = fsV (ksA am) := by
  unfold fsA fsV ksA
  rw [List.map_map]
  rfl
theorem flat_ks (am : Am) : ∀ p ∈ ksA am, flatV p.2 = true := fun p hp => by
  obtain ⟨z, _, rfl⟩ := List.mem_map.mp hp
  rfl
theorem chkO_some {N B : Addr} {am : Am} {x : Sum Str Int} (h : chkL am (srt (namesA am)) = some x) : chkO N B am = .error (errW N B x) := by
  unfold chkO
  rw [h]
  cases x <;> rfl
theorem chkO_none {N B : Addr} {am : Am} (h : chkL am (srt (namesA am)) = none) : chkO N B am = .ok rNon := by
  unfold chkO
  rw [h]
section
variable {P : Program} {w : World} {K : PySem.W.Frag} {mg : Str → Option Value} {base : Heap} {W N B f : Addr} {fd : FuncData}
theorem kf_winit (Fn : Fun K "__init__" "Way.__init__" s_Way___init__ f fd) (X : WayX K mg W) (Tc : Kf1 P w K mg base "check_amounts" 4 (pChk N B)) (Tk : Kf1 P w K mg base "kept_amounts" 2 pKept) (Tb : Ke P w K mg base B "BadNumber" "n" 1 prInt) :
    FnOk P w K mg base (L2.CX P w) 6 f fd P_Way___init__ (spM (pWayI W N B)) := by
  refine fn_ok Fn c_Way___init__ (fun _ _ _ _ ⟨_, _, _, _, _, _, _, _, _, _, _, _, _, h, _⟩ => by rw [h]; rfl) ?_
  rintro cdv A outer s H E ⟨_, G0, H0, M, _, tk⟩ hr rfl Rs ω o ω' ⟨q, A1, t, w1, A2, m, w2, h, d1, d2, g1, g2, hh, rfl, rfl, ho⟩
  have nd := c_Way___init__.nd
  have s1 : ∀ {O : Ol}, Sub w1 ((q, O) :: (w1 ++ w2)) := fun {O} => Sub.app.cons
  have s2 : ∀ {O : Ol}, Sub w2 ((q, O) :: (w1 ++ w2)) := fun {O} => Sub.app2.cons
  have k1 : pKept [A1] w1 (.ok (rDct (fsA (keptA t)))) w1 := ⟨A1, t, d1, g1.ok.1, g1.nd, rfl, rfl, rfl⟩
  have k2 : pKept [A2] w2 (.ok (rDct (fsA (keptA m)))) w2 := ⟨A2, m, d2, g2.ok.1, g2.nd, rfl, rfl, rfl⟩
  have cl := X.cx.cls
  unfold wayE at ho
  cases c1 : chkL t (srt (namesA t)) with
  | some x =>
    rw [c1] at ho
    obtain ⟨rfl, rfl⟩ := ho
    exact hb_exprX (ex_fS Tc (hr.mono (by decide)) (by walk_at "ar") s1 ⟨A1, t, d1, g1.ok, rfl, rfl, (chkO_some c1).symm⟩) ⟨_, [], rfl, fun _ _ _ h => h, (List.append_nil _).symm⟩
  | none =>
    rw [c1] at ho
    refine hb_expr (er_fS Tc (hr.mono (by decide)) (by walk_at "ar") s1 ⟨A1, t, d1, g1.ok, rfl, rfl, (chkO_none c1).symm⟩) ?_
    cases c2 : chkL m (srt (namesA m)) with
    | some x =>
      rw [c2] at ho
      obtain ⟨rfl, rfl⟩ := ho
      exact hb_exprX (ex_fS Tc (hr.mono (by decide)) (by walk_at "ar") s2 ⟨A2, m, d2, g2.ok, rfl, rfl, (chkO_some c2).symm⟩) ⟨_, [], rfl, fun _ _ _ h => h, (List.append_nil _).symm⟩
    | none =>
      rw [c2] at ho
      refine hb_expr (er_fS Tc (hr.mono (by decide)) (by walk_at "ar") s2 ⟨A2, m, d2, g2.ok, rfl, rfl, (chkO_none c2).symm⟩) ?_
      refine hb_if (by walk_at "tr") (fun hb => ?_) (fun hb => hb_nil ?_)
      · have hb := of_decide_eq_true hb
        dsimp only at ho
        rw [if_pos hb] at ho
        obtain ⟨rfl, rfl⟩ := ho
        exact hb_err Tb (hr.mono (by decide)) (by walk_at "ar") ⟨_, [], rfl, fun _ _ _ h => h, (List.append_nil _).symm⟩ fun v G z => ⟨h, z, hh⟩
      · have hb := of_decide_eq_false hb
        dsimp only at ho
        rw [if_neg hb] at ho
        have ek : eqD (ksA (keptA m)) [] = decide (keptA m = []) := by
          unfold eqD ksA
          cases keptA m with
          | nil => rfl
          | cons a l => rfl
        refine hb_if (b := decide (keptA m = [])) (tr_cmp (er_fS Tk (hr.mono (by decide)) (by walk_at "ar") s2 k2) er_dict0 (by rw [← ek]; exact bop_eqDV (by rw [← fsA_ks]; exact isd_frz) isd_frz (flat_ks _) (fun p hp => by cases hp) hr)) (fun hb => ?_) (fun hb => hb_nil ?_)
        · have hb := of_decide_eq_true hb
          rw [if_pos hb] at ho
          obtain ⟨rfl, rfl⟩ := ho
          exact hb_err Tb (hr.mono (by decide)) (by walk_at "ar") ⟨_, [], rfl, fun _ _ _ h => h, (List.append_nil _).symm⟩ fun v G z => ⟨0, z, by decide⟩
        · have hb := of_decide_eq_false hb
          rw [if_neg hb] at ho
          obtain ⟨rfl, rfl⟩ := ho
          refine hb_fld (q := q) (fs := []) (er_fS Tk (hr.mono (by decide)) (by walk_at "ar") s1 k1) (by walk_at "er") cl X.ni ?_
          refine hb_fld (q := q) (fs := [("inputs", _)]) (by walk_at "er") (by walk_at "er") cl X.nh ?_ (hl := Nat.le_of_ble_eq_true rfl)
          refine hb_fld (q := q) (fs := [("inputs", _), ("hours", _)]) (er_fS Tk (hr.mono (by decide)) (by walk_at "ar") s2 k2) (by walk_at "er") cl X.no ?_ (hl := Nat.le_of_ble_eq_true rfl)
          exact hb_nil ⟨_, [], rfl, fun _ => rfl, (List.append_nil _).symm⟩
end
end W1
set_option maxRecDepth 100000
set_option maxHeartbeats 2000000
set_option exponentiation.threshold 20000
namespace W1
open PySem PySem.Spec PyProof.Rows L2 NdefX TL NumText
local macro_rules | `(tactic| walk_at "side") => `(tactic| first | assumption | rfl | decide | omega | (simp only [List.length_map, List.length_cons, List.length_nil, List.length_append, List.length_range, decide_eq_true_eq, decide_eq_false_iff_not, Bool.not_eq_true', Bool.and_eq_true, Bool.or_eq_false_iff] at *; omega))
local macro_rules | `(tactic| walk_at "room") => `(tactic| first | assumption | exact Room.mono (by assumption) (by decide))
local macro_rules | `(tactic| walk_at "pre") => `(tactic| first | assumption | exact ⟨_, by walk_at "side", rfl, rfl, rfl, rfl⟩)
local macro_rules | `(tactic| walk_at "nm") => `(tactic| first
  | exact er_v 0 (by exact rfl) (by exact rfl) | exact er_v 1 (by exact rfl) (by exact rfl) | exact er_v 2 (by exact rfl) (by exact rfl) | exact er_v 3 (by exact rfl) (by exact rfl) | exact er_v 4 (by exact rfl) (by exact rfl) | exact er_v 5 (by exact rfl) (by exact rfl) | exact er_v 6 (by exact rfl) (by exact rfl) | exact er_v 7 (by exact rfl) (by exact rfl)
  | exact er_v 8 (by exact rfl) (by exact rfl) | exact er_v 9 (by exact rfl) (by exact rfl) | exact er_v 10 (by exact rfl) (by exact rfl) | exact er_v 11 (by exact rfl) (by exact rfl) | exact er_v 12 (by exact rfl) (by exact rfl) | exact er_v 13 (by exact rfl) (by exact rfl) | exact er_v 14 (by exact rfl) (by exact rfl) | exact er_v 15 (by exact rfl) (by exact rfl)
  | exact er_gS (by assumption) | exact er_gI (by assumption) | exact er_gC (by assumption))
local macro_rules | `(tactic| walk_at "bt") => `(tactic| with_reducible first | exact bt_len | exact bt_int | exact bt_str | exact bt_list | exact bt_sorted | exact bt_all | exact bt_isi | exact bt_abs | exact bt_bool | exact bt_tup)
local macro_rules | `(tactic| walk_at "bop") => `(tactic| first
  | with_reducible exact bop_add | with_reducible exact bop_sub | with_reducible exact bop_lt | with_reducible exact bop_le | with_reducible exact bop_gt | with_reducible exact bop_ge | with_reducible exact bop_eqI | with_reducible exact bop_neI | with_reducible exact bop_eqS | with_reducible exact bop_neS | with_reducible exact bop_inC | with_reducible exact bop_niC2 | with_reducible exact bop_isN | with_reducible exact bop_notN
  | (with_reducible apply bop_mod); walk_at "side"
  | (with_reducible apply bop_mul); first | exact IntMulOk.of_right (by decide) | exact IntMulOk.of_left (by decide) | walk_at "side"
  | (with_reducible apply bop_fdiv); walk_at "side"
  | (with_reducible apply bop_pow); walk_at "side"
  | (with_reducible apply bop_addS); walk_at "side"
  | (with_reducible apply bop_cat); walk_at "side"
  | assumption)
local macro_rules | `(tactic| walk_at "cop") => `(tactic| first
  | with_reducible exact cop_lenL | with_reducible exact cop_lenT | with_reducible exact cop_int | with_reducible exact cop_abs | with_reducible exact cop_bool | with_reducible exact cop_intB | with_reducible exact cop_listL | with_reducible exact cop_listT | with_reducible exact cop_tupL
  | (with_reducible apply cop_lenStr); walk_at "side"
  | (with_reducible apply cop_strI); walk_at "side"
  | (with_reducible apply cop_intS) <;> walk_at "side"
  | (with_reducible apply cop_sortedS); walk_at "side"
  | (with_reducible apply cop_isIns); assumption
  | (with_reducible apply cop_all); rfl
  | exact cop_lenS
  | (with_reducible apply cop_lenD); walk_at "isd"
  | (with_reducible apply cop_listD); first | rfl | walk_at "isd"
  | assumption)
local macro_rules | `(tactic| walk_at "isd") => `(tactic| first | assumption | exact isd_frz | exact isd_own List.mem_cons_self | exact isd_own (List.mem_cons_of_mem _ List.mem_cons_self) | exact isd_own (by simp) | exact isd_ownF (by simp))
local macro_rules | `(tactic| walk_at "iop") => `(tactic| first | (with_reducible apply iop_L (n := 0)) <;> exact rfl | (with_reducible apply iop_L (n := 1)) <;> exact rfl | (with_reducible apply iop_L (n := 2)) <;> exact rfl | (with_reducible apply iop_L (n := 3)) <;> exact rfl | (with_reducible apply iop_T (n := 0)) <;> exact rfl | (with_reducible apply iop_T (n := 1)) <;> exact rfl | (with_reducible apply iop_T (n := 2)) <;> exact rfl | assumption)
local macro_rules | `(tactic| walk_at "ar") => `(tactic| first | (with_reducible show AR _ _ _ [] _ _); exact ar_nil | exact ar_cons (by walk_at "er") (by walk_at "ar"))
local macro_rules | `(tactic| walk_at "call") => `(tactic| first
  | exact er_fA (by assumption) (by walk_at "room") (by walk_at "ar") (by walk_at "pre")
  | exact er_bA (by walk_at "ar") (by assumption) (by walk_at "bt") (by walk_at "cop")
  | exact er_tA (by walk_at "ar") (by assumption) (by walk_at "bt") (by walk_at "cop")
  | exact er_f1 0 (by assumption) (by walk_at "room") (by walk_at "ar") (by exact rfl) (by walk_at "pre")
  | exact er_f1 1 (by assumption) (by walk_at "room") (by walk_at "ar") (by exact rfl) (by walk_at "pre")
  | exact er_f1 2 (by assumption) (by walk_at "room") (by walk_at "ar") (by exact rfl) (by walk_at "pre"))
local macro_rules | `(tactic| walk_at "meth") => `(tactic| first
  | exact er_m (by assumption) (by assumption) (by walk_at "room") (by walk_at "er") (by walk_at "ar") (by walk_at "pre")
  | exact er_m0 (by assumption) (by assumption) (by walk_at "room") (by walk_at "er") (by walk_at "pre"))
local macro_rules | `(tactic| walk_at "er") => `(tactic| first
  | (with_reducible show ER _ _ _ (Expr.Name _ _) _ _); walk_at "nm"
  | (with_reducible show ER _ _ _ (Expr.Constant (Const.int _) _ _) _ _); exact er_int
  | (with_reducible show ER _ _ _ (Expr.Constant (Const.str _) _ _) _ _); exact er_str
  | (with_reducible show ER _ _ _ (Expr.Constant (Const.bool _) _ _) _ _); exact er_bl
  | (with_reducible show ER _ _ _ (Expr.Constant _ _ _) _ _); exact er_non
  | (with_reducible show ER _ _ _ (Expr.BinOp _ _ _ _) _ _); exact er_bin (by walk_at "er") (by walk_at "er") (by walk_at "bop")
  | (with_reducible show ER _ _ _ (Expr.Compare _ _ _ _) _ _); exact er_cmp (by walk_at "er") (by walk_at "er") (by walk_at "bop")
  | (with_reducible show ER _ _ _ (Expr.Call (Expr.Name _ _) _ _ _) _ _); walk_at "call"
  | (with_reducible show ER _ _ _ (Expr.Call (Expr.Attribute _ _ _) _ _ _) _ _); walk_at "meth"
  | (with_reducible show ER _ _ _ (Expr.Attribute _ _ _) _ _); walk_at "attr"
  | (with_reducible show ER _ _ _ (Expr.Subscript _ (Expr.Slice _ _ _ _) _) _ _); walk_at "slice"
  | (with_reducible show ER _ _ _ (Expr.Subscript _ _ _) _ _); walk_at "ix"
  | (with_reducible show ER _ _ _ (Expr.BoolOp _ [_] _) _ _); exact er_one (by walk_at "er")
  | (with_reducible show ER _ _ _ (Expr.BoolOp BoolOp.And _ _) _ _); exact er_and (by walk_at "er") (fun _ => by walk_at "er")
  | (with_reducible show ER _ _ _ (Expr.BoolOp BoolOp.Or _ _) _ _); exact er_or (by walk_at "er") (fun _ => by walk_at "er")
  | (with_reducible show ER _ _ _ (Expr.UnaryOp UnaryOp.Not _ _) _ _); exact er_not (by walk_at "er")
  | (with_reducible show ER _ _ _ (Expr.UnaryOp _ _ _) _ _); exact er_un (by walk_at "er") (by walk_at "uop")
  | (with_reducible show ER _ _ _ (Expr.List _ _) _ _); exact er_lst (by walk_at "ar") (by exact Nat.le_of_ble_eq_true rfl)
  | (with_reducible show ER _ _ _ (Expr.Tuple _ _ _) _ _); exact er_tup (by walk_at "ar") (by exact Nat.le_of_ble_eq_true rfl)
  | (with_reducible show ER _ _ _ (Expr.Dict [] [] _) _ _); exact er_dict0
  | assumption)
local macro_rules | `(tactic| walk_at "uop") => `(tactic| exact uop_neg)
local macro_rules | `(tactic| walk_at "attr") => `(tactic| exact er_fld (by walk_at "er") (by assumption) (by assumption) (by exact rfl))
local macro_rules | `(tactic| walk_at "ix") => `(tactic| first | exact er_ix (by walk_at "er") (by walk_at "er") (by walk_at "iop") | exact er_ixO (by walk_at "er") (by walk_at "er") (by simp) (by exact rfl) (by exact rfl))
local macro_rules | `(tactic| walk_at "slice") => `(tactic| exact er_slice (by walk_at "er") (by walk_at "pr") (by walk_at "pr") (by walk_at "sop"))
local macro_rules | `(tactic| walk_at "pr") => `(tactic| first | with_reducible exact pr_none | exact pr_some (by walk_at "er"))
local macro_rules | `(tactic| walk_at "sop") => `(tactic| first | (with_reducible apply sop_str); walk_at "side" | with_reducible exact sop_L | exact sop_S)
local macro_rules | `(tactic| walk_at "pw") => `(tactic| first
  | (with_reducible apply tr_and1); walk_at "tr"
  | (with_reducible apply tr_or1); walk_at "tr"
  | (with_reducible show PWR _ _ _ (Expr.BoolOp BoolOp.And _ _) _ _); exact tr_and (by walk_at "tr") (fun _ => by walk_at "pw")
  | (with_reducible show PWR _ _ _ (Expr.BoolOp BoolOp.Or _ _) _ _); exact tr_or (by walk_at "tr") (fun _ => by walk_at "pw"))
local macro_rules | `(tactic| walk_at "tr") => `(tactic| first
  | (with_reducible show TR _ _ _ (Expr.BoolOp _ _ _) _ _); exact PWR.tr (by walk_at "pw")
  | (with_reducible apply tr_not); walk_at "tr"
  | (with_reducible show TR _ _ _ (Expr.Compare _ _ _ _) _ _); exact tr_cmp (by walk_at "er") (by walk_at "er") (by walk_at "bop")
  | exact tr_val (by walk_at "er") | assumption)
local macro_rules | `(tactic| walk_at "set") => `(tactic| first
  | refine hb_setA 0 (by exact rfl) (by walk_at "er") ?_ | refine hb_setA 1 (by exact rfl) (by walk_at "er") ?_ | refine hb_setA 2 (by exact rfl) (by walk_at "er") ?_ | refine hb_setA 3 (by exact rfl) (by walk_at "er") ?_ | refine hb_setA 4 (by exact rfl) (by walk_at "er") ?_ | refine hb_setA 5 (by exact rfl) (by walk_at "er") ?_
  | refine hb_setA 6 (by exact rfl) (by walk_at "er") ?_ | refine hb_setA 7 (by exact rfl) (by walk_at "er") ?_ | refine hb_setA 8 (by exact rfl) (by walk_at "er") ?_ | refine hb_setA 9 (by exact rfl) (by walk_at "er") ?_ | refine hb_setA 10 (by exact rfl) (by walk_at "er") ?_ | refine hb_setA 11 (by exact rfl) (by walk_at "er") ?_)
/-! ### what a way tells -/
theorem valR_get {am : Am} {g : Str} : (valR (fsA am) (.inr g)).getD (rInt 0) = rInt (valA am g) := by
  by_cases h : g ∈ namesA am
  · rw [valR_A h]; rfl
  · obtain ⟨h1, h2⟩ := valR_An h
    rw [h1, h2]; rfl
def putA (am : Am) (k : Str) (v : Int) : Am := if (am.any fun p => decide (p.1 = k)) = true then am.map (fun p => if p.1 = k then (p.1, v) else p) else am ++ [(k, v)]
theorem putK_A (am : Am) (k : Str) (v : Int) : putKR (fsA am) (.inr k) (rInt v) = fsA (putA am k v) := by
  have e : ((fsA am).any fun kv => decide (kv.1 = Sum.inr k)) = am.any fun p => decide (p.1 = k) := by
    unfold fsA
    rw [List.any_map]
    congr 1
    funext p
    show decide ((Sum.inr p.1 : Key) = Sum.inr k) = decide (p.1 = k)
    by_cases h : p.1 = k
    · rw [h]; simp
    · rw [decide_eq_false h, decide_eq_false (fun z => h (Sum.inr.inj z))]
  unfold putKR putA
  rw [e]
  split
  · unfold fsA
    rw [List.map_map, List.map_map]
    apply List.map_congr_left
    intro p _
    show (if (Sum.inr p.1 : Key) = Sum.inr k then ((Sum.inr p.1 : Key), rInt v) else (Sum.inr p.1, rInt p.2)) = _
    by_cases h : p.1 = k
    · rw [if_pos (congrArg Sum.inr h)]
      show _ = ((Sum.inr (if p.1 = k then (p.1, v) else p).1 : Key), rInt (if p.1 = k then (p.1, v) else p).2)
      rw [if_pos h]
    · rw [if_neg (fun z => h (Sum.inr.inj z))]
      show _ = ((Sum.inr (if p.1 = k then (p.1, v) else p).1 : Key), rInt (if p.1 = k then (p.1, v) else p).2)
      rw [if_neg h]
  · unfold fsA
    rw [List.map_append]
    rfl
def mergeA (a b : Am) : Am := b.foldl (fun acc p => putA acc p.1 p.2) a
theorem merge_A : ∀ (b a : Am), mergeR (fsA a) (fsA b) = fsA (mergeA a b)
  | [], a => rfl
  | p :: b, a => by
    show mergeR (putKR (fsA a) (.inr p.1) (rInt p.2)) (fsA b) = _
    rw [putK_A]
    exact merge_A b _
theorem names_put (am : Am) (k : Str) (v : Int) : namesA (putA am k v) = if k ∈ namesA am then namesA am else namesA am ++ [k] := by
  have e : (am.any fun p => decide (p.1 = k)) = true ↔ k ∈ namesA am := by
    rw [List.any_eq_true]
    constructor
    · rintro ⟨p, hp, h⟩
      exact List.mem_map.mpr ⟨p, hp, of_decide_eq_true h⟩
    · intro h
      obtain ⟨p, hp, rfl⟩ := List.mem_map.mp h
      exact ⟨p, hp, decide_eq_true rfl⟩
  unfold putA
  by_cases h : k ∈ namesA am
  · rw [if_pos (e.mpr h), if_pos h]
    unfold namesA
    rw [List.map_map]
    apply List.map_congr_left
    intro p _
    show (if p.1 = k then (p.1, v) else p).1 = p.1
    split <;> rfl
  · rw [if_neg (fun z => h (e.mp z)), if_neg h]
    unfold namesA
    rw [List.map_append]
    rfl
theorem names_merge : ∀ (b a : Am), (namesA a).Nodup → (namesA (mergeA a b)).Nodup ∧ ∀ g, g ∈ namesA (mergeA a b) ↔ g ∈ namesA a ∨ g ∈ namesA b
  | [], a, h => ⟨h, fun g => ⟨.inl, fun z => z.elim id fun y => by cases y⟩⟩
  | p :: b, a, h => by
    have h1 : (namesA (putA a p.1 p.2)).Nodup ∧ ∀ g, g ∈ namesA (putA a p.1 p.2) ↔ g ∈ namesA a ∨ g = p.1 := by
      rw [names_put]
      split
      · next hm => exact ⟨h, fun g => ⟨.inl, fun z => z.elim id fun y => y ▸ hm⟩⟩
      · next hm => exact ⟨List.nodup_append.mpr ⟨h, by simp, fun x hx y hy => by rw [List.mem_singleton.mp hy]; exact fun e => hm (e ▸ hx)⟩, fun g => by rw [List.mem_append, List.mem_singleton]⟩
    obtain ⟨h2, h3⟩ := names_merge b (putA a p.1 p.2) h1.1
    refine ⟨h2, fun g => (h3 g).trans ?_⟩
    rw [h1.2]
    show _ ↔ g ∈ namesA a ∨ g ∈ p.1 :: namesA b
    rw [List.mem_cons, or_assoc]
def goodsW (t m : Am) : List Str := srt (namesA (mergeA (mergeA [] (keptA t)) (keptA m)))
theorem len_putA (am : Am) (k : Str) (v : Int) : (putA am k v).length ≤ am.length + 1 := by
  unfold putA
  split <;> simp
theorem len_mergeA : ∀ (b a : Am), (mergeA a b).length ≤ a.length + b.length
  | [], a => Nat.le_refl _
  | p :: b, a => by
    have := len_mergeA b (putA a p.1 p.2)
    have := len_putA a p.1 p.2
    show (mergeA (putA a p.1 p.2) b).length ≤ _
    rw [List.length_cons]
    omega
theorem len_kept (am : Am) : (keptA am).length ≤ am.length := by
  unfold keptA keptL
  rw [List.length_map]
  refine Nat.le_trans (List.length_filter_le _ _) ?_
  rw [(srt_perm _).length_eq]
  unfold namesA
  rw [List.length_map]
  exact Nat.le_refl _
abbrev sp : Str := Str.ofString " "
structure TxtOk (am : Am) : Prop where
  len : am.length ≤ 8
  nm : ∀ p ∈ am, p.1.length ≤ 640
  sz : ∀ g, (valA am g).natAbs.log2 < 1920
section
variable (W : Addr)
def pTaken : Pre := fun Rs w o w' => ∃ t h m g, Rs = [rWay W t h m, rStr g] ∧ w = [] ∧ w' = [] ∧ o = .ok (rInt (valA (keptA t) g))
def pMade : Pre := fun Rs w o w' => ∃ t h m g, Rs = [rWay W t h m, rStr g] ∧ w = [] ∧ w' = [] ∧ o = .ok (rInt (valA (keptA m) g))
def pGoods : PreN := fun Rs w O w' => ∃ t h m, t.length + m.length < 60 ∧ Rs = [rWay W t h m] ∧ w = [] ∧ w' = [] ∧ O = oL ((goodsW t m).map rStr)
end
section
variable {P : Program} {w : World} {K : PySem.W.Frag} {mg : Str → Option Value} {base : Heap} {W N B f : Addr} {fd : FuncData}
theorem kf_taken (Fn : Fun K "taken" "Way.taken" s_Way_taken f fd) (X : WayX K mg W) : FnOk P w K mg base (L2.CX P w) 2 f fd P_Way_taken (spM (pTaken W)) := by
  refine fn_ok Fn c_Way_taken (fun _ _ _ _ ⟨_, _, _, _, h, _⟩ => by rw [h]; rfl) ?_
  rintro cdv A outer s H E ⟨_, G0, H0, M, _, tk⟩ hr rfl Rs ω o ω' ⟨t, h, m, g, rfl, rfl, rfl, rfl⟩
  have cl := X.cx.cls
  have ni := X.ni
  exact hb_ret (er_eq (er_dget2 (k := .inr g) (by walk_at "er") (by walk_at "er") (by walk_at "er") isd_frz isd_frz hr) valR_get) ⟨_, [], rfl, fun _ _ h => h, rfl⟩
theorem kf_made (Fn : Fun K "made" "Way.made" s_Way_made f fd) (X : WayX K mg W) : FnOk P w K mg base (L2.CX P w) 2 f fd P_Way_made (spM (pMade W)) := by
  refine fn_ok Fn c_Way_made (fun _ _ _ _ ⟨_, _, _, _, h, _⟩ => by rw [h]; rfl) ?_
  rintro cdv A outer s H E ⟨_, G0, H0, M, _, tk⟩ hr rfl Rs ω o ω' ⟨t, h, m, g, rfl, rfl, rfl, rfl⟩
  have cl := X.cx.cls
  have no := X.no
  exact hb_ret (er_eq (er_dget2 (k := .inr g) (by walk_at "er") (by walk_at "er") (by walk_at "er") isd_frz isd_frz hr) valR_get) ⟨_, [], rfl, fun _ _ h => h, rfl⟩
theorem kf_goods (Fn : Fun K "goods" "Way.goods" s_Way_goods f fd) (X : WayX K mg W) (ls : mg "list" = none) (st : mg "sorted" = none) : FnOk P w K mg base (L2.CX P w) 1 f fd P_Way_goods (spN (pGoods W)) := by
  refine fn_okN Fn c_Way_goods (fun _ _ _ _ ⟨_, _, _, _, h, _⟩ => by rw [h]; rfl) ?_
  rintro cdv A outer s H E ⟨_, G0, H0, M, _, tk⟩ hr rfl Rs ω o ω' ⟨t, h, m, hz, rfl, rfl, rfl, rfl⟩
  have cl := X.cx.cls
  have ni := X.ni
  have no := X.no
  have l1 := len_kept t
  have l2 := len_kept m
  have f1 : (fsA (keptA t)).length = (keptA t).length := List.length_map _
  have f2 : (fsA (keptA m)).length = (keptA m).length := List.length_map _
  have lm : (mergeA (mergeA [] (keptA t)) (keptA m)).length < 64 := by
    have h1 := len_mergeA (keptA m) (mergeA [] (keptA t))
    have h2 := len_mergeA (keptA t) []
    rw [List.length_nil] at h2
    omega
  have em : mergeR (mergeR [] (fsA (keptA t))) (fsA (keptA m)) = fsA (mergeA (mergeA [] (keptA t)) (keptA m)) := by
    rw [← merge_A, ← merge_A]; rfl
  refine hb_retO (en_bA (ar_cons (er_eq (S := rLst ((namesA (mergeA (mergeA [] (keptA t)) (keptA m))).map rStr)) (er_tA (ar_cons (er_eq (S := rDct (fsA (mergeA (mergeA [] (keptA t)) (keptA m)))) (er_frz (en_mrg (fun d => by walk_at "er") din_frz (fun d => by walk_at "er") din_frz (by omega) (by omega))) (congrArg rDct em)) ar_nil) ls bt_list (cop_listD rfl isd_frz)) (congrArg rLst (kRs_A _))) ar_nil) st bt_sorted (copN_sortedS ?_)) fun q hM => ⟨q, [], fun _ _ h => h, List.not_mem_nil, rfl⟩
  unfold namesA
  rw [List.length_map]
  exact lm
end
end W1
set_option maxRecDepth 100000
set_option maxHeartbeats 2000000
set_option exponentiation.threshold 20000
namespace W1
open PySem PySem.Spec PyProof.Rows L2 NdefX TL NumText
local macro_rules | `(tactic| walk_at "side") => `(tactic| first | assumption | rfl | decide | omega | (simp only [List.length_map, List.length_cons, List.length_nil, List.length_append, List.length_range, decide_eq_true_eq, decide_eq_false_iff_not, Bool.not_eq_true', Bool.and_eq_true, Bool.or_eq_false_iff] at *; omega))
local macro_rules | `(tactic| walk_at "room") => `(tactic| first | assumption | exact Room.mono (by assumption) (by decide))
local macro_rules | `(tactic| walk_at "pre") => `(tactic| first | assumption | exact ⟨_, by walk_at "side", rfl, rfl, rfl, rfl⟩)
local macro_rules | `(tactic| walk_at "nm") => `(tactic| first
  | exact er_v 0 (by exact rfl) (by exact rfl) | exact er_v 1 (by exact rfl) (by exact rfl) | exact er_v 2 (by exact rfl) (by exact rfl) | exact er_v 3 (by exact rfl) (by exact rfl) | exact er_v 4 (by exact rfl) (by exact rfl) | exact er_v 5 (by exact rfl) (by exact rfl) | exact er_v 6 (by exact rfl) (by exact rfl) | exact er_v 7 (by exact rfl) (by exact rfl)
  | exact er_v 8 (by exact rfl) (by exact rfl) | exact er_v 9 (by exact rfl) (by exact rfl) | exact er_v 10 (by exact rfl) (by exact rfl) | exact er_v 11 (by exact rfl) (by exact rfl) | exact er_v 12 (by exact rfl) (by exact rfl) | exact er_v 13 (by exact rfl) (by exact rfl) | exact er_v 14 (by exact rfl) (by exact rfl) | exact er_v 15 (by exact rfl) (by exact rfl)
  | exact er_gS (by assumption) | exact er_gI (by assumption) | exact er_gC (by assumption))
local macro_rules | `(tactic| walk_at "bt") => `(tactic| with_reducible first | exact bt_len | exact bt_int | exact bt_str | exact bt_list | exact bt_sorted | exact bt_all | exact bt_isi | exact bt_abs | exact bt_bool | exact bt_tup)
local macro_rules | `(tactic| walk_at "bop") => `(tactic| first
  | with_reducible exact bop_add | with_reducible exact bop_sub | with_reducible exact bop_lt | with_reducible exact bop_le | with_reducible exact bop_gt | with_reducible exact bop_ge | with_reducible exact bop_eqI | with_reducible exact bop_neI | with_reducible exact bop_eqS | with_reducible exact bop_neS | with_reducible exact bop_inC | with_reducible exact bop_niC2 | with_reducible exact bop_isN | with_reducible exact bop_notN
  | (with_reducible apply bop_mod); walk_at "side"
  | (with_reducible apply bop_mul); first | exact IntMulOk.of_right (by decide) | exact IntMulOk.of_left (by decide) | walk_at "side"
  | (with_reducible apply bop_fdiv); walk_at "side"
  | (with_reducible apply bop_pow); walk_at "side"
  | (with_reducible apply bop_addS); walk_at "side"
  | (with_reducible apply bop_cat); walk_at "side"
  | assumption)
local macro_rules | `(tactic| walk_at "cop") => `(tactic| first
  | with_reducible exact cop_lenL | with_reducible exact cop_lenT | with_reducible exact cop_int | with_reducible exact cop_abs | with_reducible exact cop_bool | with_reducible exact cop_intB | with_reducible exact cop_listL | with_reducible exact cop_listT | with_reducible exact cop_tupL
  | (with_reducible apply cop_lenStr); walk_at "side"
  | (with_reducible apply cop_strI); walk_at "side"
  | (with_reducible apply cop_intS) <;> walk_at "side"
  | (with_reducible apply cop_sortedS); walk_at "side"
  | (with_reducible apply cop_isIns); assumption
  | (with_reducible apply cop_all); rfl
  | exact cop_lenS
  | (with_reducible apply cop_lenD); walk_at "isd"
  | (with_reducible apply cop_listD); first | rfl | walk_at "isd"
  | assumption)
local macro_rules | `(tactic| walk_at "isd") => `(tactic| first | assumption | exact isd_frz | exact isd_own List.mem_cons_self | exact isd_own (List.mem_cons_of_mem _ List.mem_cons_self) | exact isd_own (by simp) | exact isd_ownF (by simp))
local macro_rules | `(tactic| walk_at "iop") => `(tactic| first | (with_reducible apply iop_L (n := 0)) <;> exact rfl | (with_reducible apply iop_L (n := 1)) <;> exact rfl | (with_reducible apply iop_L (n := 2)) <;> exact rfl | (with_reducible apply iop_L (n := 3)) <;> exact rfl | (with_reducible apply iop_T (n := 0)) <;> exact rfl | (with_reducible apply iop_T (n := 1)) <;> exact rfl | (with_reducible apply iop_T (n := 2)) <;> exact rfl | assumption)
local macro_rules | `(tactic| walk_at "ar") => `(tactic| first | (with_reducible show AR _ _ _ [] _ _); exact ar_nil | exact ar_cons (by walk_at "er") (by walk_at "ar"))
local macro_rules | `(tactic| walk_at "call") => `(tactic| first
  | exact er_fA (by assumption) (by walk_at "room") (by walk_at "ar") (by walk_at "pre")
  | exact er_bA (by walk_at "ar") (by assumption) (by walk_at "bt") (by walk_at "cop")
  | exact er_tA (by walk_at "ar") (by assumption) (by walk_at "bt") (by walk_at "cop")
  | exact er_f1 0 (by assumption) (by walk_at "room") (by walk_at "ar") (by exact rfl) (by walk_at "pre")
  | exact er_f1 1 (by assumption) (by walk_at "room") (by walk_at "ar") (by exact rfl) (by walk_at "pre")
  | exact er_f1 2 (by assumption) (by walk_at "room") (by walk_at "ar") (by exact rfl) (by walk_at "pre"))
local macro_rules | `(tactic| walk_at "meth") => `(tactic| first
  | exact er_m (by assumption) (by assumption) (by walk_at "room") (by walk_at "er") (by walk_at "ar") (by walk_at "pre")
  | exact er_m0 (by assumption) (by assumption) (by walk_at "room") (by walk_at "er") (by walk_at "pre"))
local macro_rules | `(tactic| walk_at "er") => `(tactic| first
  | (with_reducible show ER _ _ _ (Expr.Name _ _) _ _); walk_at "nm"
  | (with_reducible show ER _ _ _ (Expr.Constant (Const.int _) _ _) _ _); exact er_int
  | (with_reducible show ER _ _ _ (Expr.Constant (Const.str _) _ _) _ _); exact er_str
  | (with_reducible show ER _ _ _ (Expr.Constant (Const.bool _) _ _) _ _); exact er_bl
  | (with_reducible show ER _ _ _ (Expr.Constant _ _ _) _ _); exact er_non
  | (with_reducible show ER _ _ _ (Expr.BinOp _ _ _ _) _ _); exact er_bin (by walk_at "er") (by walk_at "er") (by walk_at "bop")
  | (with_reducible show ER _ _ _ (Expr.Compare _ _ _ _) _ _); exact er_cmp (by walk_at "er") (by walk_at "er") (by walk_at "bop")
  | (with_reducible show ER _ _ _ (Expr.Call (Expr.Name _ _) _ _ _) _ _); walk_at "call"
  | (with_reducible show ER _ _ _ (Expr.Call (Expr.Attribute _ _ _) _ _ _) _ _); walk_at "meth"
  | (with_reducible show ER _ _ _ (Expr.Attribute _ _ _) _ _); walk_at "attr"
  | (with_reducible show ER _ _ _ (Expr.Subscript _ (Expr.Slice _ _ _ _) _) _ _); walk_at "slice"
  | (with_reducible show ER _ _ _ (Expr.Subscript _ _ _) _ _); walk_at "ix"
  | (with_reducible show ER _ _ _ (Expr.BoolOp _ [_] _) _ _); exact er_one (by walk_at "er")
  | (with_reducible show ER _ _ _ (Expr.BoolOp BoolOp.And _ _) _ _); exact er_and (by walk_at "er") (fun _ => by walk_at "er")
  | (with_reducible show ER _ _ _ (Expr.BoolOp BoolOp.Or _ _) _ _); exact er_or (by walk_at "er") (fun _ => by walk_at "er")
  | (with_reducible show ER _ _ _ (Expr.UnaryOp UnaryOp.Not _ _) _ _); exact er_not (by walk_at "er")
  | (with_reducible show ER _ _ _ (Expr.UnaryOp _ _ _) _ _); exact er_un (by walk_at "er") (by walk_at "uop")
  | (with_reducible show ER _ _ _ (Expr.List _ _) _ _); exact er_lst (by walk_at "ar") (by exact Nat.le_of_ble_eq_true rfl)
  | (with_reducible show ER _ _ _ (Expr.Tuple _ _ _) _ _); exact er_tup (by walk_at "ar") (by exact Nat.le_of_ble_eq_true rfl)
  | (with_reducible show ER _ _ _ (Expr.Dict [] [] _) _ _); exact er_dict0
  | assumption)
local macro_rules | `(tactic| walk_at "uop") => `(tactic| exact uop_neg)
local macro_rules | `(tactic| walk_at "attr") => `(tactic| exact er_fld (by walk_at "er") (by assumption) (by assumption) (by exact rfl))
local macro_rules | `(tactic| walk_at "ix") => `(tactic| first | exact er_ix (by walk_at "er") (by walk_at "er") (by walk_at "iop") | exact er_ixO (by walk_at "er") (by walk_at "er") (by simp) (by exact rfl) (by exact rfl))
local macro_rules | `(tactic| walk_at "slice") => `(tactic| exact er_slice (by walk_at "er") (by walk_at "pr") (by walk_at "pr") (by walk_at "sop"))
local macro_rules | `(tactic| walk_at "pr") => `(tactic| first | with_reducible exact pr_none | exact pr_some (by walk_at "er"))
local macro_rules | `(tactic| walk_at "sop") => `(tactic| first | (with_reducible apply sop_str); walk_at "side" | with_reducible exact sop_L | exact sop_S)
local macro_rules | `(tactic| walk_at "pw") => `(tactic| first
  | (with_reducible apply tr_and1); walk_at "tr"
  | (with_reducible apply tr_or1); walk_at "tr"
  | (with_reducible show PWR _ _ _ (Expr.BoolOp BoolOp.And _ _) _ _); exact tr_and (by walk_at "tr") (fun _ => by walk_at "pw")
  | (with_reducible show PWR _ _ _ (Expr.BoolOp BoolOp.Or _ _) _ _); exact tr_or (by walk_at "tr") (fun _ => by walk_at "pw"))
local macro_rules | `(tactic| walk_at "tr") => `(tactic| first
  | (with_reducible show TR _ _ _ (Expr.BoolOp _ _ _) _ _); exact PWR.tr (by walk_at "pw")
  | (with_reducible apply tr_not); walk_at "tr"
  | (with_reducible show TR _ _ _ (Expr.Compare _ _ _ _) _ _); exact tr_cmp (by walk_at "er") (by walk_at "er") (by walk_at "bop")
  | exact tr_val (by walk_at "er") | assumption)
local macro_rules | `(tactic| walk_at "set") => `(tactic| first
  | refine hb_setA 0 (by exact rfl) (by walk_at "er") ?_ | refine hb_setA 1 (by exact rfl) (by walk_at "er") ?_ | refine hb_setA 2 (by exact rfl) (by walk_at "er") ?_ | refine hb_setA 3 (by exact rfl) (by walk_at "er") ?_ | refine hb_setA 4 (by exact rfl) (by walk_at "er") ?_ | refine hb_setA 5 (by exact rfl) (by walk_at "er") ?_
  | refine hb_setA 6 (by exact rfl) (by walk_at "er") ?_ | refine hb_setA 7 (by exact rfl) (by walk_at "er") ?_ | refine hb_setA 8 (by exact rfl) (by walk_at "er") ?_ | refine hb_setA 9 (by exact rfl) (by walk_at "er") ?_ | refine hb_setA 10 (by exact rfl) (by walk_at "er") ?_ | refine hb_setA 11 (by exact rfl) (by walk_at "er") ?_)
section
variable {F : Fx} {ρ : Ty} {w w1 : Ow} {A B : Rl} {a b : Am} {n : Nat} {e tg it : Expr}
end
theorem str_len_num {i : Int} (h : i.natAbs.log2 < 1920) : (numT i).length ≤ 1921 := int_text_len_1921 h
section
variable {P : Program} {w : World} {K : PySem.W.Frag} {mg : Str → Option Value} {base : Heap} {W N B f : Addr} {fd : FuncData}
end
end W1
set_option maxRecDepth 100000
set_option maxHeartbeats 2000000
set_option exponentiation.threshold 20000
namespace W1
open PySem PySem.Spec PyProof.Rows L2 ItX
/-! ### iteration by an own __iter__ that hands back the iterator of a tuple -/
/-- the iterator at it, of the tuple at t, not yet turned -/
def hoT (t it : Addr) : HO := .ext fun h => h.IsTupleIter it t 0
theorem hoT_ok {P : Program} {w : World} {H : Hp} {h : Heap} {t it : Addr} (e : h.IsTupleIter it t 0) : ObjOk P w H h it (hoT t it) :=
  ⟨e, let ⟨o, h1, _⟩ := e; ⟨o, h1⟩, fun _ _ q k => q.at k⟩
def rItT (K : PySem.W.Frag) (n : Nat) : List V → Hp → VK → Prop := fun xs H Q => ∃ t zs, xs = [V.ref t] ∧ SqT K H t zs ∧ ∀ it, H it = none → n ≤ it → Q (.ref it) (upd H it (hoT t it))
theorem cr_itT {X : Cx} : CallR X (.builtin "iter") (rItT X.K X.s_0.heap.objs.size) := callR_sem fun pins s σ H xs us Q I r h => by
  obtain ⟨t, zs, rfl, ht, q⟩ := h
  obtain ⟨u, rfl, ru⟩ := vals1 r
  cases ru
  obtain ⟨its, _, p, _⟩ := I.tuple ht
  refine Calls.call_function_entry (by decide +kernel) (by decide +kernel) PySem.W.kdk_entry_iter (PySem.W.kdk_args_iter _) ?_
  unfold Builtin.«iter»
  refine wpAny_bind (m := someArgs "iter" 1 2 _) (wpAny_of_eq (a := [Value.ref t]) (by first | rfl | kernel_rfl!) ?_)
  show wpAny _ _ (pyIter (.ref t) >>= _) _ _ _
  refine wpAny_bind (wpAny_pyIter_tuple (show s.heap.IsTuple t its.toArray from p) (wpAny_pure ⟨_, rfl, ?_⟩))
  have fresh : H s.heap.objs.size = none := I.hok.fresh (Nat.le_refl _)
  exact ⟨.ref s.heap.objs.size, _, I.laid (t' := s.toks) (fun b u e => Heap.get?_push_of_some _ e) (Nat.le_refl _) (hoT_ok ⟨_, Heap.get?_push_size _ rfl, rfl, rfl⟩), rfl, q _ fresh I.sz⟩
/-- a call at one state: what comes back may be said by means of that state -/
theorem run_at {P : Program} {w : World} {K : PySem.W.Frag} {mg : Str → Option Value} {base : Heap} {x qual : Str} {st : Stmt} {f : Addr} {fd : FuncData} {N ps : List Str} {k : Nat} {A : Around} {outer : List Env} {s : Shared} {H : Hp} {args : Args} {us : List Value} {vs : List V} {Q : VK} {E : XK}
    (Fn : Fun K x qual st f fd) (S : FnScope N ps (defScope st)) (hr : Room (k + 1) A) (e0 : Env0 P w K mg base A outer s H) (hb : BindsTo s fd args (ps.zip us)) (r : Vals vs us) (hl : vs.length = ps.length)
    (body : ∀ cdv, ∃ t, PSs (cxOf (L2.CX P w) P w K mg base N qual (defScope st) f cdv A outer s H E) (defBody st) t ∧ t { nx := fun _ H' => Q .non H', rt := Q } (L2.start N vs) H) : codeAny (model P w) A (.call (.ref f) args) (CR (L2.CX P w) outer P w H s Q E) s := by
  obtain ⟨oc, od, kV, doc, pm, an, cdv, ct, osl, rfl, lk, hcd⟩ := Fn.ex
  obtain ⟨t, ht, hq⟩ := body cdv
  have here : ∀ b o, base.get? b = some o → s.heap.get? b = some o := fun b o e => (e0.bs b o e).1
  have kIn := e0.mod.kin.keeps here
  refine codeAny_call_function hr.depth (kIn _ _ lk) rfl S.co S.gen rfl (PySem.W.codeRec_of kIn hcd) (hb _ _ _ _ (wpAny_newFunctionEnv_cells S.kind (fun y hy => (S.par y.1 (List.of_mem_zip hy).1).imp id fun q => ⟨q, PySem.W.cellsFrom_some _ _ _ (.inl q)⟩) ?_))
  rintro env rfl s1 x1
  refine ⟨(e0.mod.nolimit.keeps here).keeps x1.toInCall.keep, codeAny_func (wpAny_mono (ht.run [] s1 _ _ _ (inv_start S hr.hd e0 hl r x1) hq) (fun fl s' hs => ?_) fun _ _ z => z)⟩
  match fl, hs with
  | .ret u, ⟨v, _, H', J, rv, q⟩ => exact ⟨v, H', J.os, J.bare, J.base, J.hok, rv, q⟩
  | .next, ⟨_, H', J, q⟩ => exact ⟨.non, H', J.os, J.bare, J.base, J.hok, rfl, q⟩
  | .brk, ⟨_, _, _, q⟩ => exact (show False from q).elim
  | .cont, ⟨_, _, _, q⟩ => exact (show False from q).elim
/-- what the field's tuple is -/
def FldT (K : PySem.W.Frag) (C : Addr) (fld : Str) (H : Hp) (a t : Addr) (xs : List V) : Prop := ∃ dx fs, H a = some (.ins C dx fs) ∧ fs.lookup fld = some (.ref t) ∧ SqT K H t xs
/-- __iter__ hands back an iterator of the field's tuple, one that has just come -/
def IterOk (P : Program) (w : World) (K : PySem.W.Frag) (mg : Str → Option Value) (base : Heap) (C g : Addr) (fld : Str) (k : Nat) : Prop :=
  ∀ (A : Around) (outer : List Env) (s : Shared) (H : Hp) (a t : Addr) (xs : List V), Room k A → Env0 P w K mg base A outer s H → FldT K C fld H a t xs →
    codeAny (model P w) A (.call (.ref g) ⟨[.ref a], []⟩) (CR (L2.CX P w) outer P w H s (fun v H' => ∃ it, v = .ref it ∧ H it = none ∧ s.heap.objs.size ≤ it ∧ H' = upd H it (hoT t it)) fun _ _ _ => False) s
structure ItM (K : PySem.W.Frag) (C g : Addr) : Prop where
  it : PySem.W.findIn K (.ref C) "__iter__" = some (some (.ref g))
  fn : PySem.W.isFn K (.ref g) = true
def iOwn (K : PySem.W.Frag) (C : Addr) (fld : Str) (te : TE) : TI := fun σ H R => te σ H fun x H1 => ∃ a t xs, x = V.ref a ∧ FldT K C fld H1 a t xs ∧ R (Itt K t) H1
section
variable {X : Cx} {C g : Addr} {fld : Str} {k : Nat} {fd : FuncData} {ps : List Str}
theorem pi_own {tg e : Expr} {te : TE} (he : PE X e te) (m : ItM X.K C g) (Fn : IterOk X.prog X.w X.K X.mg X.base C g fld k) (hr : Room k X.A) : PI X tg e (iOwn X.K C fld te) := by
  refine ⟨fun pins s σ H R I h => thn (he.run pins s σ H _ I h) fun v s1 ⟨x, H1, I1, r1, q1⟩ => ?_⟩
  obtain ⟨a, t, xs, rfl, ft, q⟩ := q1
  cases r1
  obtain ⟨dx, fs, ha, _, _⟩ := id ft
  obtain ⟨od, J⟩ := inst_at I1 ha
  obtain ⟨mf, hF⟩ := I1.fr
  refine PySem.W.owit_iter hF I1.ok.mod.kin J m.it m.fn (wpAny_call (codeAny_mono (Fn X.A X.stack s1 H1 a t xs hr I1.env0 ft) fun r s2 hq => ?_))
  match r, hq with
  | .error e, ⟨_, _, _, _, _, _, _, _, _, _, _, _, z⟩ => exact z.elim
  | .ok (.ret u), hq =>
    obtain ⟨v, H', I2, rv, it, rfl, hn, young, rfl⟩ := I1.after hq
    cases rv
    have there : s2.heap.IsTupleIter it t 0 := (I2.hok it _ upd_same).1
    have fp := inv_fp I2 upd_same (Nat.le_trans I1.sz young)
    have I3 := inv_drop I2 upd_same
    rw [dropH_upd hn] at fp I3
    unfold PySem.W.OwitIt
    refine wpAny_specialOf (name := Str.ofString "__next__") there.typeIs F.slot_tuple_iterator_next.lookup ?_
    exact ⟨it, [it], _, _, H1, rfl, I3, turn_tuple t it, there, fun b hb => by rw [List.mem_singleton.mp hb]; exact fp, q⟩
end
section
variable {F : Fx} {ρ : Ty} {ω w1 : Ow} {tg it : Expr} {C g : Addr} {fld : Str} {k : Nat} {fs : List (Str × Rl)} {Rs : List Rl}
theorem it_own (he : ER F ρ ω it (rIns C fs) w1) (hf : fs.lookup fld = some (rTup Rs)) (m : ItM F.X.K C g) (Fn : IterOk F.X.prog F.X.w F.X.K F.X.mg F.X.base C g fld k) (hr : Room k F.X.A) : IT F ρ ω tg it Rs w1 := ⟨_, pi_own pe_w m Fn hr, fun σ G H at_ sl R q => he σ G H at_ sl _ fun v G2 H2 s a r => by
  obtain ⟨p, dx, vs, rfl, h1, h2⟩ := r
  obtain ⟨u, h3, t, us, rfl, h4, h5⟩ := h2.look hf
  refine ⟨p, t, us, rfl, ⟨dx, vs, a.gh _ _ h1, h3, SqT.of (a.gh _ _ h4)⟩, q _ G2 H2 s a ?_⟩
  have n := h5.len
  refine ⟨fun i G' H' s1 s2 hi => ⟨us, us[i]'(by omega), SqT.of (s2 _ _ (s1 _ _ h4)), List.getElem?_eq_getElem _⟩, fun G' H' s1 s2 => ⟨us, SqT.of (s2 _ _ (s1 _ _ h4)), by omega⟩, fun i R G' H' x H'' s1 s2 hR y => ?_⟩
  obtain ⟨rfl, y⟩ := y
  obtain ⟨v, hv, rv⟩ := h5.get hR
  have e := y us (SqT.of (s2 _ _ (s1 _ _ h4)))
  rw [hv] at e
  cases e
  exact ⟨G', Step.refl s2, R.mo _ _ _ s1 rv⟩⟩
end
end W1
set_option maxRecDepth 100000
set_option maxHeartbeats 2000000
set_option exponentiation.threshold 20000
namespace W1
open PySem PySem.Spec PyProof.Rows L2
/-! ### enumerate of a tuple -/
abbrev enumO (it : Addr) : Obj := { cls := .type "enumerate", data := .fields #[.none, .bool false, .ref it, rawInt 0, .none, .none] }
set_option maxHeartbeats 4000000 in
theorem enum_new {v : Value} {o : Obj} {Hs : Heap → Prop} (B : Begins v o Hs) : Meets (Builtin.«enumerate.__new__» ⟨[.type "enumerate", v], []⟩) (fun _ R s => Hs s.heap ∧ R (.ok (.ret (.ref (s.heap.push o).objs.size))) { s with heap := (s.heap.push o).push (enumO s.heap.objs.size) }) :=
  .of_wp fun prog w A R s ⟨h1, h⟩ => by
    obtain ⟨hp, g, d, tk, os⟩ := s
    have kind := sub_enumerate
    have first : ∀ {A' : Around} {E : Value → Shared → Prop} {Q : Value → Shared → Prop}, Q (.ref hp.objs.size) ⟨hp.push o, g, d, tk, os⟩ → wpAny (model prog w) A' (pyIter v) Q E ⟨hp, g, d, tk, os⟩ := fun q => B.iter prog w _ _ ⟨hp, g, d, tk, os⟩ _ h1 q
    wp_walk using first
    refine wpAny_stack_any fun st => wpAny_pure ?_
    split
    · rename_i c _ _ _ _ _
      cases (c == Value.type "enumerate") <;> wp_walk using first <;> exact ⟨_, rfl, h⟩
    · wp_walk using first
      exact ⟨_, rfl, h⟩
theorem call_enumT {prog : Program} {w : World} {A : Around} {E : Value → Shared → Prop} {s : Shared} {t : Addr} {items : Array Value} {Q : Value → Shared → Prop} (ht : s.heap.IsTuple t items)
    (q : Q (.ref (s.heap.objs.size + 1)) { s with heap := (s.heap.push { cls := .type "tuple_iterator", data := .fields #[.ref t, .int 0 0] }).push (enumO s.heap.objs.size) }) : wpAny (model prog w) A (call (.type "enumerate") [.ref t]) Q E s := by
  refine callType_new F.called_enumerate (by decide) (F.typeCall_enumerate_1 _) (F.newCall_enumerate_1 _) (fun obj => F.args_object_init_2 obj _) F.entry_enumerate_new (enum_new (begins_tuple t items)) ⟨ht, ?_⟩
  have hz : (s.heap.push { cls := .type "tuple_iterator", data := .fields #[.ref t, .int 0 0] }).objs.size = s.heap.objs.size + 1 := Heap.size_push ..
  show _ ∧ _
  rw [hz]
  have := Heap.get?_push_size (s.heap.push { cls := .type "tuple_iterator", data := .fields #[.ref t, .int 0 0] }) (o := enumO s.heap.objs.size) rfl
  rw [hz] at this
  exact ⟨⟨_, this, rfl⟩, q⟩
/-- the tuple at t, each item in a new pair -/
def Ien (K : PySem.W.Frag) (t : Addr) : It :=
  ⟨fun i H => ∃ (xs : List V) (x : V), SqT K H t xs ∧ xs[i]? = some x, fun i H v H' => ∃ T x, v = .ref T ∧ H T = none ∧ H' = upd H T (.tup [.int (i : Nat), x]) ∧ ∀ xs, SqT K H t xs → xs[i]? = some x, fun i H => ∃ xs : List V, SqT K H t xs ∧ xs.length ≤ i⟩
def EnSt (t e it : Addr) (i : Nat) (h : Heap) : Prop := (∃ old, IsEnum h e it (i : Int) old) ∧ h.IsTupleIter it t i ∧ e ≠ it
theorem turn_enT {P : Program} {w : World} {K : PySem.W.Frag} {elts : List Expr} {kk : Nat} {tpos : Pos} (t e it : Addr) : Turn P w K (.Tuple elts kk tpos) (Ien K t) [e, it] e (EnSt t e it) where
  mem := List.mem_cons_self
  obj := fun i h ⟨⟨old, h1⟩, ⟨o, h2, h3, h4⟩, _⟩ b hb => by
    rcases List.mem_cons.mp hb with rfl | hb
    · exact ⟨_, h1, fun v q => nomatch q⟩
    · rw [List.mem_singleton.mp hb]
      exact ⟨o, h2, fun v q => by rw [h4] at q; cases q⟩
  keep := fun i h h' ⟨⟨old, h1⟩, h2, h3⟩ k => ⟨⟨old, k e (by simp) _ h1⟩, h2.at fun o q => k it (by simp) o q, h3⟩
  item := by
    rintro X rfl rfl rfl hc i pins s σ H E I hf ⟨⟨old, he⟩, hit, hne⟩ ⟨xs, x, hq, hx⟩
    obtain ⟨its, rv, tp, hz⟩ := I.tuple hq
    obtain ⟨u, hu, ru⟩ := rv.get hx
    have tp : s.heap.IsTuple t its.toArray := tp
    obtain ⟨ot, gt, ct, _⟩ := id tp
    obtain ⟨oi, gi, ci, _⟩ := id hit
    have t1 : t ≠ it := fun z => by
      rw [z, gi] at gt
      cases gt
      rw [ci] at ct
      exact absurd ct (by decide)
    have t2 : e ∉ [it, t] := fun z => by
      rcases List.mem_cons.mp z with z | z
      · exact hne z
      · rw [← List.mem_singleton.mp z] at gt
        have gt' : s.heap.get? e = some ot := gt
        have he' : s.heap.get? e = some _ := he
        rw [he'] at gt'
        cases gt'
        have ct : Value.type "enumerate" = Value.type "tuple" := ct
        exact absurd ct (by decide)
    have lt : i < its.toArray.size := by
      rw [List.size_toArray]
      exact (List.getElem?_eq_some_iff.mp hu).1
    have D := Draws.tuple (prog := X.prog) (w := X.w) (A := X.A.in1) (show X.A.in1.handled = none from I.ok.hd hc) it t t1 its.toArray
    refine wpAny_pyNext_enum_itemD D he ⟨hit, tp⟩ lt hne t2 fun x' h' tk hx' out st hT hsz hk => ?_
    have ex : x' = u := by
      have : its[i]? = some x' := by simpa using hx'
      rw [hu] at this
      exact (Option.some.inj this).symm
    subst ex
    have hel : e < s.heap.objs.size := Heap.lt_size he
    have hil : it < s.heap.objs.size := Heap.lt_size gi
    refine ⟨_, rfl, wpAny_letOwnedTupleGo_enum (s := { s with heap := h', toks := tk + 1 }) out fun h2 he2 sb => ?_⟩
    have hT2 : h2.get? s.heap.objs.size = some { cls := .type "tuple", data := .seq #[.int i tk, x'] } := (sb.2 _ (Nat.ne_of_gt hel)).trans hT
    have I1 : Inv X pins σ (upd H s.heap.objs.size (.tup [.int (i : Nat), x])) { s with heap := h2, toks := tk + 1 } :=
      I.turnedNew (ch := [e, it]) (fun b ob hb q => (sb.2 b fun z => hb (by simp [z])).trans (hk b ob (fun z => hb (by simp [z])) (fun z => hb (by simp [z])) q)) hf (Nat.le_refl _) ⟨by show 2 ≤ sizeLine; decide, [.int i tk, x'], .cons ⟨_, rfl⟩ (.cons ru .nil), ⟨_, hT2, rfl, _, rfl⟩⟩
    refine ⟨.ref s.heap.objs.size, _, I1, rfl, ⟨_, x, rfl, I.hok.fresh (Nat.le_refl _), rfl, fun ys hy => by rw [I.tuple_inj hy hq]; exact hx⟩, ⟨⟨x', ?_⟩, st.1.at fun o q => (sb.2 it (Ne.symm hne)).trans q, hne⟩, fun b hb => ?_⟩
    · rw [show ((i + 1 : Nat) : Int) = (i : Int) + 1 by omega]
      exact he2
    · have : b < s.heap.objs.size := by
        rcases List.mem_cons.mp hb with rfl | hb
        · exact hel
        · rw [List.mem_singleton.mp hb]; exact hil
      rw [upd_ne (Nat.ne_of_lt this)]
      exact (hf b hb).1
  done := by
    rintro X rfl rfl rfl hc i pins s σ H E I hf ⟨⟨old, he⟩, hit, hne⟩ ⟨xs, hq, hx⟩
    obtain ⟨its, rv, tp, hz⟩ := I.tuple hq
    have tp : s.heap.IsTuple t its.toArray := tp
    obtain ⟨ot, gt, ct, _⟩ := id tp
    obtain ⟨oi, gi, ci, _⟩ := id hit
    obtain ⟨f0, f1, f2, f3, f4, f5⟩ := hf it (by simp)
    have no : its.toArray[i]? = none := by
      have := rv.length
      simp
      omega
    unfold pyNext
    refine wpAny_bind (wpAny_attempt (wpAny_callSpecial?_slot (name := Str.ofString "__next__") ⟨_, he, rfl⟩ F.slot_enumerate_next (wpAny_call_entry F.slot_enumerate_next ⟨_, he, rfl⟩ F.entry_enumerate_next ?_ (F.args_enumerate_next_1 _))))
    show wpAny _ _ (field (.ref e) 2 >>= _) _ _ _
    refine wpAny_bind (wpAny_field he rfl (x := .ref it) rfl (wpAny_bind (wpAny_nextOf_tuple_end (show X.A.in1.handled = none from I.ok.hd hc) hit tp no fun h' x eb ⟨o, ho, hcl⟩ => ?_)))
    exact wpAny_bind (wpAny_isInstance (T := "StopIteration") (b := true) ⟨o, ho, hcl⟩ isSubtype_stop (wpAny_pure ⟨rfl, I.turned (t' := s.toks) (fun b o hb q => eb b o hb q) f0 f1 f3 f4 f5⟩))
  self := fun A i s Q E ⟨⟨_, he⟩, _⟩ h => wpAny_pyIter_enum he h
def iEnT (K : PySem.W.Frag) (ta : TA) : TI := fun σ H R => ta σ H fun vs H1 => ∃ a xs, vs = [V.ref a] ∧ SqT K H1 a xs ∧ R (Ien K a) H1
theorem pi_enT {X : Cx} {e : Expr} {ta : TA} {p pos tpos : Pos} {elts : List Expr} {kk : Nat} (hg : Gl X "enumerate") (hm : X.mg "enumerate" = none) (ha : PA X [e] ta) (hs : starEach [e] X.env = [(false, eval e X.env)] := by rfl) : PI X (.Tuple elts kk tpos) (.Call (.Name "enumerate" p) [e] [] pos) (iEnT X.K ta) := by
  refine ⟨fun pins s σ H R I h => Call_ (ld_blt I hg hm boot_enumerate (PyProof.Rows.callWith_type1 (thn (ha.run pos pins s σ H _ I h) fun us s1 ⟨vs, H1, I1, r1, q1⟩ => ?_) hs rfl))⟩
  obtain ⟨t, xs, rfl, hq, q⟩ := q1
  obtain ⟨u, rfl, ru⟩ := vals1 r1
  cases ru
  obtain ⟨its, rv, tp, hz⟩ := I1.tuple hq
  have size : (s1.heap.push { cls := .type "tuple_iterator", data := .fields #[.ref t, .int 0 0] }).objs.size = s1.heap.objs.size + 1 := Heap.size_push ..
  have he : IsEnum ((s1.heap.push { cls := .type "tuple_iterator", data := .fields #[.ref t, .int 0 0] }).push (enumO s1.heap.objs.size)) (s1.heap.objs.size + 1) s1.heap.objs.size 0 .none := by
    have := Heap.get?_push_size (s1.heap.push { cls := .type "tuple_iterator", data := .fields #[.ref t, .int 0 0] }) (o := enumO s1.heap.objs.size) rfl
    rw [size] at this
    exact this
  refine call_enumT (show s1.heap.IsTuple t its.toArray from tp) (wpAny_pyIter_enum (s := { s1 with heap := (s1.heap.push { cls := .type "tuple_iterator", data := .fields #[.ref t, .int 0 0] }).push (enumO s1.heap.objs.size) }) he ?_)
  refine ⟨s1.heap.objs.size + 1, [s1.heap.objs.size + 1, s1.heap.objs.size], _, _, H1, rfl, I1.kept (t' := s1.toks) fun b o z => Heap.get?_push_of_some _ (Heap.get?_push_of_some _ z), turn_enT t _ _, ⟨⟨.none, he⟩, ⟨_, Heap.get?_push_of_some _ (Heap.get?_push_size _ rfl), rfl, rfl⟩, Nat.succ_ne_self _⟩, fun b hb => ?_, q⟩
  have le : s1.heap.objs.size ≤ b := by
    rcases List.mem_cons.mp hb with rfl | hb
    · omega
    · rw [List.mem_singleton.mp hb]; exact Nat.le_refl _
  exact I1.fpOk le (I1.hok.fresh le)
theorem sqt_up {K : PySem.W.Frag} {a : Addr} {xs : List V} {G H : Hp} (e : Same G H) (h : SqT K G a xs) : SqT K H a xs := sameT e h
theorem yld_numT {Rs : List Rl} {K : PySem.W.Frag} {a : Addr} {vs : List V} {G : Hp} (h1 : SqT K G a vs) (h2 : All2 Rs vs G) : Yld (Ien K a) (numR Rs) G where
  go := fun i G' H' s1 s2 hi => by
    rw [numR_len, h2.len] at hi
    exact ⟨vs, vs[i], sameT (s1.trans s2) h1, List.getElem?_eq_getElem hi⟩
  stop := fun G' H' s1 s2 => ⟨vs, sameT (s1.trans s2) h1, by rw [numR_len, h2.len]; exact Nat.le_refl _⟩
  yld := fun i S G' H' x H'' s1 s2 hS y => by
    obtain ⟨T, u, rfl, hT, rfl, hu⟩ := y
    obtain ⟨R, hR, rfl⟩ := numR_get hS
    obtain ⟨v, hv, rv⟩ := h2.get hR
    have e := hu vs (sameT (s1.trans s2) h1)
    rw [hv] at e
    cases e
    have st := Step.new (o := .tup [.int (i : Nat), u]) s2 hT
    exact ⟨_, st, T, _, rfl, upd_same, mk2 rfl (R.mo _ _ _ (s1.trans st.gg) rv)⟩
section
variable {F : Fx} {ρ : Ty} {ω w1 : Ow} {e : Expr} {pos p : Pos} {Rs : List Rl}
theorem it_enumT {elts : List Expr} {kk : Nat} {tpos : Pos} (he : AR F ρ ω [e] [rTup Rs] w1) (hg : Gl F.X "enumerate") (hm : F.X.mg "enumerate" = none) (hs : starEach [e] F.X.env = [(false, eval e F.X.env)] := by rfl) :
    IT F ρ ω (.Tuple elts kk tpos) (.Call (.Name "enumerate" p) [e] [] pos) (numR Rs) w1 := ⟨_, pi_enT hg hm pa_w hs, fun σ G H at_ sl R k => he σ G H at_ sl _ fun vs G2 H2 s a r => by
  obtain ⟨x, rfl, t, us, rfl, h1, h2⟩ := all1 r
  exact ⟨t, us, rfl, SqT.of (a.gh _ _ h1), k _ G2 H2 s a (yld_numT (SqT.of h1) h2)⟩⟩
end
end W1
set_option maxRecDepth 100000
set_option maxHeartbeats 4000000
set_option exponentiation.threshold 20000
namespace W1S
open PySem PySem.Spec PyProof.Rows L2 TL
section
variable {prog : Program} {w : World} {A : Around} {E : Value → Shared → Prop} {s : Shared}
/-- what a tuple or list holds, gathered -/
theorem gather_seq {t : Addr} {T : String} {o : Obj} {items : Array Value} {n : Nat} {Q : List Value → Shared → Prop} (hT : T = "list" ∨ T = "tuple") (ho : s.heap.get? t = some o) (hc : o.cls = .type T) (hd : o.data = .seq items n) (few : items.size ≤ sizeLine)
    (q : ∀ s1, Kept s s1 → Q items.toList s1) : wpAny (model prog w) A (collect (.ref t)) Q E s := by
  have mine : (s.heap.push (seqObj "list" #[] 0)).get? s.heap.objs.size = some { cls := .type "list", data := .seq #[] 0 } := Heap.get?_push_size _ rfl
  have now := Heap.get?_update_self (Obj.mapSeq (· ++ items)) mine rfl
  unfold collect
  refine wpAny_bind (wpAny_runValue (codeAny_builtin entry_proto_collect' ?_))
  show wpAny _ _ (newList [] >>= fun l => again (.builtin "list.__iadd__" ⟨[l, .ref t], []⟩)) _ _ s
  refine wpAny_bind (wpAny_newList (wpAny_pure ⟨Code.quiet_builtin _ (by decide +kernel), codeAny_builtin entry_list_iadd' ?_⟩))
  rw [Around.under_plainId (by decide +kernel) _]
  show wpAny _ _ (Builtin.List.listExtendWith (.ref s.heap.objs.size) (.ref t) (.ref s.heap.objs.size)) _ _ { s with heap := s.heap.push (seqObj "list" #[] 0) }
  refine wpAny_extend_seq (A := A) (R := fun r s' => match r with | .ok (.ret v) => wpAny (model prog w) A (match v with | .ref a => (do let o ← load a; match o.data with | .seq xs _ => pure xs.toList | _ => unsupported "internal:collect") | _ => unsupported "internal:collect") Q E s' | .ok _ => False | .error e => E e s') (hsz := few) (s := { s with heap := s.heap.push (seqObj "list" #[] 0) }) s.heap.objs.size t (.ref s.heap.objs.size) 0 hT mine (Heap.get?_push_of_some _ ho) hc hd ?_
  refine wpAny_bind (wpAny_load now (wpAny_pure ?_))
  show Q ((#[] : Array Value) ++ items).toList _
  rw [show ((#[] : Array Value) ++ items).toList = items.toList by simp]
  refine q _ ⟨fun b o' e => (Heap.get?_update_other _ _ (Nat.ne_of_gt (Heap.lt_size e))).trans (Heap.get?_push_of_some _ e), Nat.le_of_lt (Heap.lt_size now), rfl, rfl⟩
end
/-- sorted of a tuple of texts -/
def rSortQ (K : PySem.W.Frag) : List V → Hp → VK → Prop := fun vs H Q => ∃ (a : Addr) (xs : List Str), vs = [.ref a] ∧ SqT K H a (xs.map V.str) ∧ xs.length < 64 ∧ ∀ (ys : List Str) (p : Addr), ys.Perm xs → sortedS ys = true → H p = none → Q (.ref p) (upd H p (.lst (ys.map V.str)))
theorem cr_sortQ {X : Cx} : CallR X (.builtin "sorted") (rSortQ X.K) := W1.callR_sem fun pins s σ H vs us Q I r h => by
  obtain ⟨a, xs, rfl, ha, few, q⟩ := h
  obtain ⟨its, rv, ⟨o, ho, hc, n, hd⟩, hz⟩ := I.tuple ha
  rw [Vals.ref1 r]
  refine sorted_txt (ss := xs) few (fun Q' z' => gather_seq (.inr rfl) ho hc hd (by rw [List.size_toArray, ← rv.length]; exact hz) fun s1 kept => z' s1 _ xs kept (by simpa using rv.strs) (List.Perm.refl _)) fun s2 p out c ys kept hp hg txt pm srt => ?_
  have m : (ys.map V.str).length ≤ sizeLine := by rw [List.length_map, pm.length_eq, sizeLine_eq]; omega
  have fresh : H p = none := I.hok.fresh hp
  have J : Inv X pins σ (upd H p (.lst (ys.map V.str))) { s with heap := s2.heap, gens := s2.gens, drawn := s2.drawn, toks := s2.toks } :=
    I.call (ch := []) (Un.laid kept.heap hp fresh) (I.hok.laid kept.heap hp ⟨m, out.toList, c, vals_of_strs txt, hg⟩) (by rw [kept.gens]; exact I.bare) (fun _ z => nomatch z)
  have same : s2 = { s with heap := s2.heap, gens := s2.gens, drawn := s2.drawn, toks := s2.toks } := by
    have := kept.os
    cases s2
    cases s
    cases this
    rfl
  rw [same]
  exact ⟨.ref p, _, J, rfl, q ys p pm srt fresh⟩
end W1S
namespace W1
open PySem PySem.Spec PyProof.Rows L2 NdefX TL NumText
/-! ### a sequence: a list or a tuple of ours, or a list that somebody still holds -/
def SVar (A : Rl) (w : Ow) (Rs : List Rl) : Prop := (A = rLst Rs ∧ w = []) ∨ (A = rTup Rs ∧ w = []) ∨ ∃ q, A = rRef q ∧ w = [(q, oL Rs)]
def IsSq (F : Fx) (A : Rl) (w : Ow) (Rs : List Rl) : Prop := ∀ x G H, At F w G H → A.r x G → ∃ p vs, x = .ref p ∧ (SqL F.X.K H p vs ∨ SqT F.X.K H p vs) ∧ All2 Rs vs G
def rSq (Rs : List Rl) : Rl := ⟨fun v H => ∃ p vs, v = .ref p ∧ (H p = some (.lst vs) ∨ H p = some (.tup vs)) ∧ All2 Rs vs H, fun _ _ _ e ⟨p, vs, a, b, c⟩ => ⟨p, vs, a, b.imp (e _ _) (e _ _), c.up e⟩⟩
section
variable {F : Fx} {w wc : Ow} {A B : Rl} {Rs : List Rl} {xs : List Str} {g : Str} {v u : Option Int}
theorem isq_L : IsSq F (rLst Rs) w Rs := fun x G H at_ ⟨p, vs, a, b, c⟩ => ⟨p, vs, a, .inl (SqL.of (at_.gh _ _ b)), c⟩
theorem isq_T : IsSq F (rTup Rs) w Rs := fun x G H at_ ⟨p, vs, a, b, c⟩ => ⟨p, vs, a, .inr (SqT.of (at_.gh _ _ b)), c⟩
theorem isq_Q : IsSq F (rSq Rs) w Rs := fun x G H at_ ⟨p, vs, a, b, c⟩ => ⟨p, vs, a, b.imp (fun z => SqL.of (at_.gh _ _ z)) fun z => SqT.of (at_.gh _ _ z), c⟩
theorem isq_O {q : Addr} (h : (q, oL Rs) ∈ w) : IsSq F (rRef q) w Rs := fun x G H at_ hx => by
  cases (show x = V.ref q from hx)
  obtain ⟨_, _, o, h1, vs, rfl, h2⟩ := at_.ow _ h
  exact ⟨q, vs, rfl, .inl (SqL.of h1), h2⟩
theorem SVar.isq (h : SVar A wc Rs) (k : ∀ z ∈ wc, z ∈ w) : IsSq F A w Rs := by
  rcases h with ⟨rfl, rfl⟩ | ⟨rfl, rfl⟩ | ⟨q, rfl, rfl⟩
  · exact isq_L
  · exact isq_T
  · exact isq_O (k _ (List.mem_singleton.mpr rfl))
theorem cop_lenQ (h : IsSq F A w Rs) : Cop F w (.builtin "len") [A] (rInt (Rs.length : Int)) := ⟨_, call_len_seq, fun xs G H at_ hx Q k => by
  obtain ⟨x, rfl, hx1⟩ := all1 hx
  obtain ⟨p, vs, rfl, h1, h2⟩ := h x G H at_ hx1
  exact ⟨p, vs, rfl, h1, k _ G H (Same.refl _) at_ (congrArg (fun n : Nat => V.int (n : Int)) h2.len.symm)⟩⟩
theorem sop_Q (h : SVar A wc Rs) (k : ∀ z ∈ wc, z ∈ w) : Sop F w A v u (rSq (cutR Rs v u)) := by
  have cut : ∀ {vs : List V} {G' : Hp}, All2 Rs vs G' → All2 (cutR Rs v u) (cutV vs v u) G' := fun h2 => by
    unfold cutR cutV
    rw [h2.len]
    exact (h2.drop _).take _
  rcases h with ⟨rfl, rfl⟩ | ⟨rfl, rfl⟩ | ⟨q, rfl, rfl⟩
  · refine ⟨_, sl_list, fun x G H at_ ⟨p, vs, e, h1, h2⟩ Q q => ⟨p, vs, e, SqL.of (at_.gh _ _ h1), fun l hl => ?_⟩⟩
    have st := Step.new (o := .lst (cutV vs v u)) at_.gh hl
    exact q _ _ _ st.gg (at_.step st) ⟨l, _, rfl, .inl upd_same, cut (h2.up st.gg)⟩
  · refine ⟨_, sl_tupA, fun x G H at_ ⟨p, vs, e, h1, h2⟩ Q q => ⟨p, vs, e, SqT.of (at_.gh _ _ h1), fun hw => ?_, fun _ l hl => ?_⟩⟩
    · have whole : cutV vs v u = vs := by
        unfold cutV
        rw [hw.1, hw.2]
        simp
      subst e
      exact q _ G H (Same.refl _) at_ ⟨p, vs, rfl, .inr h1, by rw [← whole]; exact cut h2⟩
    · have st := Step.new (o := .tup (cutV vs v u)) at_.gh hl
      exact q _ _ _ st.gg (at_.step st) ⟨l, _, rfl, .inr upd_same, cut (h2.up st.gg)⟩
  · refine ⟨_, sl_list, fun x G H at_ hx Q r => ?_⟩
    cases (show x = V.ref q from hx)
    obtain ⟨_, _, o, h1, vs, rfl, h2⟩ := at_.ow _ (k _ (List.mem_singleton.mpr rfl))
    refine ⟨q, vs, rfl, SqL.of h1, fun l hl => ?_⟩
    have st := Step.new (o := .lst (cutV vs v u)) at_.gh hl
    exact r _ _ _ st.gg (at_.step st) ⟨l, _, rfl, .inl upd_same, cut (h2.up st.gg)⟩
theorem inV_str : ∀ {xs : List Str}, inV (.str g) (xs.map V.str) = decide (g ∈ xs)
  | [] => rfl
  | x :: r => by
    show (eqV (.str x) (.str g) || inV (.str g) (r.map V.str)) = _
    rw [inV_str (xs := r)]
    show (decide (x = g) || _) = _
    by_cases e : x = g
    · subst e; simp
    · have e2 : ¬ g = x := fun z => e z.symm
      simp [e, e2]
theorem flat_strs : (xs.map V.str).all flatV = true := by
  rw [List.all_map, List.all_eq_true]
  exact fun _ _ => rfl
theorem bop_inQ (h : IsSq F B w (xs.map rStr)) : Bop F w (compareOp .In) (rStr g) B (rBool (decide (g ∈ xs))) := ⟨_, op_in_seq, fun x y G H at_ hx hy Q k => by
  cases (show x = V.str g from hx)
  obtain ⟨p, vs, rfl, h1, h2⟩ := h y G H at_ hy
  have e := str_vals h2
  subst e
  refine ⟨p, _, rfl, h1, rfl, flat_strs, ?_⟩
  rw [inV_str]
  exact k _ G H (Same.refl _) at_ rfl⟩
theorem bop_niQ (h : IsSq F B w (xs.map rStr)) : Bop F w (compareOp .NotIn) (rStr g) B (rBool (!decide (g ∈ xs))) := ⟨_, op_notIn_seq, fun x y G H at_ hx hy Q k => by
  cases (show x = V.str g from hx)
  obtain ⟨p, vs, rfl, h1, h2⟩ := h y G H at_ hy
  have e := str_vals h2
  subst e
  refine ⟨p, _, rfl, h1, rfl, flat_strs, ?_⟩
  rw [inV_str]
  exact k _ G H (Same.refl _) at_ rfl⟩
/-- sorted of such a sequence of texts -/
theorem cop_sortQ (h : SVar A wc (xs.map rStr)) (k : ∀ z ∈ wc, z ∈ w) (few : xs.length < 64) : Cop F w (.builtin "sorted") [A] (rLst ((srt xs).map rStr)) := by
  rcases h with ⟨rfl, rfl⟩ | ⟨rfl, rfl⟩ | ⟨q, rfl, rfl⟩
  · exact copA
  · refine ⟨_, W1S.cr_sortQ, fun us G H at_ hx Q r => ?_⟩
    obtain ⟨x, rfl, p, vs, rfl, h1, h2⟩ := all1 hx
    rw [str_vals h2] at h1
    refine ⟨p, xs, rfl, SqT.of (at_.gh _ _ h1), few, fun ys p2 pm sorted hp => ?_⟩
    rw [srt_only pm sorted]
    have st := Step.new (o := .lst ((srt xs).map V.str)) at_.gh hp
    exact r _ _ _ st.gg (at_.step st) ⟨p2, _, rfl, upd_same, vals_str _⟩
  · refine ⟨_, cr_sortA, fun us G H at_ hx Q r => ?_⟩
    obtain ⟨x, rfl, hx1⟩ := all1 hx
    cases (show x = V.ref q from hx1)
    obtain ⟨_, _, o, h1, vs, rfl, h2⟩ := at_.ow _ (k _ (List.mem_singleton.mpr rfl))
    rw [str_vals h2] at h1
    refine ⟨q, xs, rfl, SqL.of h1, fun l hl => ?_⟩
    have st := Step.new (o := .lst ((srt xs).map V.str)) at_.gh hl
    exact r _ _ _ st.gg (at_.step st) ⟨l, _, rfl, upd_same, vals_str _⟩
/-- tuple of such a sequence -/
theorem cop_tupQ (h : SVar A wc Rs) (k : ∀ z ∈ wc, z ∈ w) : Cop F w (.type "tuple") [A] (rTup Rs) := by
  rcases h with ⟨rfl, rfl⟩ | ⟨rfl, rfl⟩ | ⟨q, rfl, rfl⟩
  · exact cop_tupL
  · refine ⟨_, call_tuple_of, fun us G H at_ hx Q r => ?_⟩
    obtain ⟨x, rfl, p, vs, rfl, h1, h2⟩ := all1 hx
    exact ⟨p, vs, rfl, .inr ⟨SqT.of (at_.gh _ _ h1), r _ G H (Same.refl _) at_ ⟨p, vs, rfl, h1, h2⟩⟩⟩
  · refine ⟨_, call_tuple_of, fun us G H at_ hx Q r => ?_⟩
    obtain ⟨x, rfl, hx1⟩ := all1 hx
    cases (show x = V.ref q from hx1)
    obtain ⟨_, _, o, h1, vs, rfl, h2⟩ := at_.ow _ (k _ (List.mem_singleton.mpr rfl))
    refine ⟨q, vs, rfl, .inl ⟨SqL.of h1, fun l hl => ?_⟩⟩
    have st := Step.new (o := .tup vs) at_.gh hl
    exact r _ _ _ st.gg (at_.step st) ⟨l, vs, rfl, upd_same, h2.up st.gg⟩
end
end W1
set_option maxRecDepth 100000
set_option maxHeartbeats 4000000
set_option exponentiation.threshold 20000
namespace W1
open PySem PySem.Spec PyProof.Rows L2 NdefX TL NumText
/-! ### loops over a sequence that somebody may still hold -/
/-- as Yld, where what is owned is as P says -/
structure YldP (F : Fx) (P : Ow → Prop) (J : It) (Rs : List Rl) (G : Hp) : Prop where
  go : ∀ i w G' H', P w → Same G G' → At F w G' H' → i < Rs.length → J.go i H'
  stop : ∀ w G' H', P w → Same G G' → At F w G' H' → J.stop Rs.length H'
  yld : ∀ (i : Nat) (R : Rl) w G' H' x H'', P w → Same G G' → At F w G' H' → Rs[i]? = some R → J.yld i H' x H'' → ∃ G'', Step G' H' G'' H'' ∧ R.r x G''
def ITP (F : Fx) (P : Ow → Prop) (ρ : Ty) (ω : Ow) (tg it : Expr) (Rs : List Rl) (w1 : Ow) : Prop :=
  ∃ wi, PI F.X tg it wi ∧ ∀ σ G H, At F ω G H → Slots ρ σ G → ∀ R : It → Hp → Prop, (∀ J G2 H2, Same G G2 → At F w1 G2 H2 → YldP F P J Rs G2 → R J H2) → wi σ H R
section
variable {F : Fx} {P : Ow → Prop} {ρ ρ1 : Ty} {ω w w1 wc : Ow} {tg it e : Expr} {Rs : List Rl} {A R : Rl} {K : Kn} {rest body : List Stmt} {pos p : Pos}
theorem yld_p {J : It} {G : Hp} (y : Yld J Rs G) : YldP F P J Rs G := ⟨fun i w G' H' _ s a => y.go i G' H' s a.gh, fun w G' H' _ s a => y.stop G' H' s a.gh, fun i R w G' H' x H'' _ s a => y.yld i R G' H' x H'' s a.gh⟩
theorem it_p (h : IT F ρ ω tg it Rs w1) : ITP F P ρ ω tg it Rs w1 := by
  obtain ⟨wi, h1, h2⟩ := h
  exact ⟨wi, h1, fun σ G H at_ sl R k => h2 σ G H at_ sl R fun J G2 H2 s a y => k J G2 H2 s a (yld_p y)⟩
theorem hb_forP {g : TG} (hit : ITP F P ρ ω tg it Rs w1) (I : Nat → Ty → Ow → Prop) (h0 : I 0 ρ w1) (hP : ∀ k ρ w, I k ρ w → P w)
    (hs : ∀ (k : Nat) ρ ω (S : Rl), Rs[k]? = some S → I k ρ ω → ∃ ρ', GE g ρ S ρ' ∧ HB F ρ' ω body (K.loop F rest (I (k + 1)))) (hd : ∀ ρ ω, I Rs.length ρ ω → HB F ρ ω rest K)
    (hp : PassesOwn (model F.X.prog F.X.w) F.X.A F.X.env F.X.xe) (hpg : PG F.X tg g) (hc : F.X.calm = true := by rfl)
    (hfs : ∀ z, foldedSetIterable it F.X.env z = pure z := by intro _; rfl) : HB F ρ ω (.For tg it body [] pos :: rest) K := hb_cons fun σ G H D at_ sl ps => by
  obtain ⟨wi, hpi, hwi⟩ := hit
  refine sw_of (ps_for hp hc hpi hpg pss_w hfs) (hwi σ G H at_ sl _ fun J G2 H2 s2 a2 y2 => ?_)
  refine ⟨fun i m σ H => m = Rs.length - i ∧ i ≤ Rs.length ∧ ∃ ρ ω G, I i ρ ω ∧ At F ω G H ∧ Slots ρ σ G ∧ Same G2 G ∧ Post F K D G, ⟨Rs.length, by simp, Nat.zero_le _, ρ, w1, G2, h0, a2, sl.up s2, Same.refl _, ps.up s2⟩, ?_⟩
  rintro i m σ1 H1 ⟨rfl, hi, ρ1, ω1, G1, i1, a1, sl1, s1, ps1⟩
  have p1 := hP i ρ1 ω1 i1
  by_cases hlt : i < Rs.length
  · refine .inr ⟨y2.go i ω1 G1 H1 p1 s1 a1 hlt, fun σ' H' => ∃ ρ ω G, I (i + 1) ρ ω ∧ At F ω G H' ∧ Slots ρ σ' G ∧ Same G2 G ∧ Post F K D G, fun σ' H' z => ⟨Rs.length - (i + 1), by omega, rfl, hlt, z⟩, fun x H' y => ?_⟩
    obtain ⟨G3, st, rx⟩ := y2.yld i Rs[i] ω1 G1 H1 x H' p1 s1 a1 (List.getElem?_eq_getElem hlt) y
    obtain ⟨ρ', ga, hb⟩ := hs i ρ1 ω1 Rs[i] (List.getElem?_eq_getElem hlt) i1
    have a3 := a1.step st
    refine ga x σ1 G3 H' _ a3.gh (sl1.up st.gg) rx fun σ2 sl2 => ?_
    have ps3 := ps1.up st.gg
    have s3 : Same G2 G3 := s1.trans st.gg
    exact hb σ2 G3 H' _ a3 sl2 ⟨fun ρ ω i' σ' G' H' s a sl => ⟨ρ, ω, G', i', a, sl, s3.trans s, ps3.up s⟩, ps3.rt, fun ρ ω k' σ' G' H' s a sl => k' σ' G' H' D a sl (ps3.up s), fun ρ ω i' σ' G' H' s a sl => ⟨ρ, ω, G', i', a, sl, s3.trans s, ps3.up s⟩, ps3.ex⟩
  · have e : i = Rs.length := by omega
    subst e
    exact .inl ⟨y2.stop ω1 G1 H1 p1 s1 a1, hd ρ1 ω1 i1 σ1 G1 H1 D a1 sl1 ps1⟩
/-- an owned list, as it stands all the while -/
theorem own_at {q : Addr} {G H : Hp} (at_ : At F w G H) (h : (q, oL Rs) ∈ w) : ∃ vs, H q = some (.lst vs) ∧ All2 Rs vs G := by
  obtain ⟨_, _, o, h1, vs, rfl, h2⟩ := at_.ow _ h
  exact ⟨vs, h1, h2⟩
theorem yld_own {q : Addr} {G : Hp} : YldP F (fun w => (q, oL Rs) ∈ w) (Itl F.X.K q) Rs G where
  go := fun i w G' H' hw s a hi => by
    obtain ⟨vs, h1, h2⟩ := own_at a hw
    exact ⟨vs, vs[i]'(by rw [← h2.len]; exact hi), SqL.of h1, List.getElem?_eq_getElem _⟩
  stop := fun w G' H' hw s a => by
    obtain ⟨vs, h1, h2⟩ := own_at a hw
    exact ⟨vs, SqL.of h1, Nat.le_of_eq h2.len.symm⟩
  yld := fun i R w G' H' x H'' hw s a hR y => by
    obtain ⟨vs, h1, h2⟩ := own_at a hw
    obtain ⟨rfl, y⟩ := y
    obtain ⟨v, hv, rv⟩ := h2.get hR
    have e := y vs (SqL.of h1)
    rw [hv] at e
    cases e
    exact ⟨G', Step.refl a.gh, rv⟩
theorem yld_ownN {q : Addr} {G : Hp} : YldP F (fun w => (q, oL Rs) ∈ w) (Ite F.X.K q) (numR Rs) G where
  go := fun i w G' H' hw s a hi => by
    obtain ⟨vs, h1, h2⟩ := own_at a hw
    rw [numR_len, h2.len] at hi
    exact ⟨vs, vs[i], SqL.of h1, List.getElem?_eq_getElem hi⟩
  stop := fun w G' H' hw s a => by
    obtain ⟨vs, h1, h2⟩ := own_at a hw
    exact ⟨vs, SqL.of h1, by rw [numR_len]; exact Nat.le_of_eq h2.len.symm⟩
  yld := fun i S w G' H' x H'' hw s a hS y => by
    obtain ⟨vs, h1, h2⟩ := own_at a hw
    obtain ⟨T, u, rfl, hT, rfl, hu⟩ := y
    obtain ⟨R, hR, rfl⟩ := numR_get hS
    obtain ⟨v, hv, rv⟩ := h2.get hR
    have e := hu vs (SqL.of h1)
    rw [hv] at e
    cases e
    have st := Step.new (o := .tup [.int (i : Nat), u]) a.gh hT
    exact ⟨_, st, T, _, rfl, upd_same, mk2 rfl (R.mo _ _ _ st.gg rv)⟩
/-- what is lent is there -/
abbrev Lent (wc : Ow) : Ow → Prop := fun w => ∀ z ∈ wc, z ∈ w
theorem itp_sv (he : ER F ρ ω it A w1) (h : SVar A wc Rs) (k : Lent wc w1) : ITP F (Lent wc) ρ ω tg it Rs w1 := by
  rcases h with ⟨rfl, rfl⟩ | ⟨rfl, rfl⟩ | ⟨q, rfl, rfl⟩
  · exact it_p (it_lst he)
  · exact it_p (it_tup he)
  · refine ⟨_, pi_list pe_w, fun σ G H at_ sl R r => he σ G H at_ sl _ fun v G2 H2 s a hv => ?_⟩
    cases (show v = V.ref q from hv)
    obtain ⟨vs, h1, h2⟩ := own_at a (k _ (List.mem_singleton.mpr rfl))
    have y : YldP F (fun w => (q, oL Rs) ∈ w) (Itl F.X.K q) Rs G2 := yld_own
    have m : ∀ {w : Ow}, Lent [(q, oL Rs)] w → (q, oL Rs) ∈ w := fun z => z _ (List.mem_singleton.mpr rfl)
    exact ⟨q, rfl, ⟨vs, SqL.of h1⟩, r _ G2 H2 s a ⟨fun i w G' H' hw => y.go i w G' H' (m hw), fun w G' H' hw => y.stop w G' H' (m hw), fun i R w G' H' x H'' hw => y.yld i R w G' H' x H'' (m hw)⟩⟩
theorem itp_en {elts : List Expr} {kk : Nat} {tpos : Pos} (he : ER F ρ ω e A w1) (h : SVar A wc Rs) (k : Lent wc w1) (hg : Gl F.X "enumerate") (hm : F.X.mg "enumerate" = none) (hs : starEach [e] F.X.env = [(false, eval e F.X.env)] := by rfl) :
    ITP F (Lent wc) ρ ω (.Tuple elts kk tpos) (.Call (.Name "enumerate" p) [e] [] pos) (numR Rs) w1 := by
  have ha : AR F ρ ω [e] [A] w1 := ar_cons he ar_nil hs
  rcases h with ⟨rfl, rfl⟩ | ⟨rfl, rfl⟩ | ⟨q, rfl, rfl⟩
  · exact it_p (it_enumL ha hg hm hs)
  · exact it_p (it_enumT ha hg hm hs)
  · refine ⟨_, pi_enum hg hm pa_w hs, fun σ G H at_ sl R r => ha σ G H at_ sl _ fun vs G2 H2 s a hv => ?_⟩
    obtain ⟨x, rfl, hx⟩ := all1 hv
    cases (show x = V.ref q from hx)
    obtain ⟨us, h1, h2⟩ := own_at a (k _ (List.mem_singleton.mpr rfl))
    have y : YldP F (fun w => (q, oL Rs) ∈ w) (Ite F.X.K q) (numR Rs) G2 := yld_ownN
    have m : ∀ {w : Ow}, Lent [(q, oL Rs)] w → (q, oL Rs) ∈ w := fun z => z _ (List.mem_singleton.mpr rfl)
    exact ⟨q, us, rfl, SqL.of h1, r _ G2 H2 s a ⟨fun i w G' H' hw => y.go i w G' H' (m hw), fun w G' H' hw => y.stop w G' H' (m hw), fun i R w G' H' x H'' hw => y.yld i R w G' H' x H'' (m hw)⟩⟩
end
end W1
set_option maxRecDepth 100000
set_option maxHeartbeats 4000000
set_option exponentiation.threshold 20000
namespace W1
open PySem PySem.Spec PyProof.Rows L2 NdefX TL NumText
/-! ### a book, and what is wrong with what it is made of -/
abbrev Wy := Am × Int × Am
abbrev rWy (W : Addr) (y : Wy) : Rl := rWay W y.1 y.2.1 y.2.2
abbrev gWy (y : Wy) : List Str := goodsW y.1 y.2.2
structure WyOk (y : Wy) : Prop where
  few : y.1.length + y.2.2.length < 60
  nm : ∀ g ∈ gWy y, g.length ≤ 640
inductive BE where
  | num (n : Int) | name (z : Str) | twice (z : Str) | unk (z : Str)
/-- the names, one behind the other; s: those before -/
def gErr : List Str → List Str → Option BE
  | _, [] => none
  | s, g :: r => if nameL (tl g) = true then (if g ∈ s then some (.twice g) else gErr (s ++ [g]) r) else some (.name g)
def lost (gs : List Str) (y : Wy) : Option Str := (gWy y).find? fun g => !decide (g ∈ gs)
def wErr (gs : List Str) : List Wy → Option BE
  | [] => none
  | y :: r => match lost gs y with
    | some g => some (.unk g)
    | none => wErr gs r
def bErr (gs : List Str) (ys : List Wy) : Option BE :=
  if 1 ≤ gs.length ∧ gs.length ≤ 4 then match gErr [] gs with
    | some e => some e
    | none => if 1 ≤ ys.length ∧ ys.length ≤ 8 then wErr gs ys else some (.num ys.length)
  else some (.num gs.length)
def bookF (W : Addr) (gs : List Str) (ys : List Wy) : List (Str × Rl) := [("names", rTup ((srt gs).map rStr)), ("ways", rTup (ys.map (rWy W)))]
def rBook (C W : Addr) (gs : List Str) (ys : List Wy) : Rl := rIns C (bookF W gs ys)
def errB (M N D U : Addr) : BE → Er
  | .num n => erF M "n" (rInt n)
  | .name z => erF N "name" (rStr z)
  | .twice z => erF D "name" (rStr z)
  | .unk z => erF U "name" (rStr z)
theorem errB_mo {M N D U : Addr} {x : BE} : ∀ cls d G G', Same G G' → errB M N D U x cls d G → errB M N D U x cls d G' := by
  cases x <;> exact erF_mo
structure BookX (K : PySem.W.Frag) (mg : Str → Option Value) (C : Addr) : Prop where
  cx : ClsX K C
  nn : NoAttr K C "names"
  nw : NoAttr K C "ways"
  gC : mg "Book" = some (.ref C)
  nf : PySem.W.notFirst K C (.ref C) = true
def pChkG (W U : Addr) : Pre := fun Rs w o w' => ∃ A gs y, SVar A w (gs.map rStr) ∧ WyOk y ∧ Rs = [A, rWy W y] ∧ w' = w ∧ o = (match lost gs y with | none => .ok rNon | some g => .error (erF U "name" (rStr g)))
theorem find_at {α : Type} {l : List α} {k : Nat} {g : α} {p : α → Bool} (h : l[k]? = some g) (hp : p g = true) (hn : ∀ x ∈ l.take k, p x = false) : l.find? p = some g := by
  obtain ⟨hk, e⟩ := List.getElem?_eq_some_iff.mp h
  rw [← List.take_append_drop k l, List.find?_append, List.find?_eq_none.mpr fun x hx => by rw [hn x hx]; exact Bool.false_ne_true, List.drop_eq_getElem_cons hk, e, Option.none_or, List.find?_cons_of_pos hp]
section
variable {P : Program} {w : World} {K : PySem.W.Frag} {mg : Str → Option Value} {base : Heap} {W C M N D U f : Addr} {fd : FuncData}
theorem kf_chkg (Fn : Fun K "check_goods" "check_goods" s_check_goods f fd) (X : WayX K mg W) (Tg : Kmn P w K mg base W "goods" 1 (pGoods W)) (Tu : Ke P w K mg base U "UnknownName" "name" 1 prStr) : FnOk P w K mg base (L2.CX P w) 3 f fd P_check_goods (spM (pChkG W U)) := by
  refine fn_ok Fn c_check_goods (fun _ _ _ _ ⟨_, _, _, _, _, h, _⟩ => by rw [h]; rfl) ?_
  rintro cdv A outer s H E ⟨_, G0, H0, M', _, tk⟩ hr rfl Rs ω o ω' ⟨A0, gs, y, sv, ok, rfl, rfl, rfl⟩
  have nd := c_check_goods.nd
  have cl := X.cx.cls
  refine hb_for (it_lst (er_pubL (en_m0 Tg cl (hr.mono (by decide)) (er_v 1 rfl rfl) ⟨y.1, y.2.1, y.2.2, ok.few, rfl, rfl, rfl, rfl⟩))) (fun k ρ w1 => w1 = ω' ∧ (∀ g ∈ (gWy y).take k, g ∈ gs) ∧ ∃ z, ρ = [some A0, some (rWy W y), z]) ⟨rfl, fun _ h => (by cases h), none, rfl⟩ ?_ ?_ (passes_of rfl) (pg_name (i := 2) nd rfl (Or.inl rfl))
  · rintro k ρ w1 S hS ⟨rfl, hn, z, rfl⟩
    rw [List.getElem?_map] at hS
    cases e : (goodsW y.1 y.2.2)[k]? with
    | none => rw [e] at hS; cases hS
    | some g =>
      rw [e] at hS
      cases hS
      have e : (gWy y)[k]? = some g := e
      refine ⟨_, ge_name, ?_⟩
      refine hb_if (tr_cmp (er_v 2 rfl rfl) (er_v 0 rfl rfl) (bop_niQ (sv.isq fun _ h => h))) (fun hb => ?_) (fun hb => hb_nil (hb_nil ?_))
      · have f : lost gs y = some g := find_at e hb fun x hx => by rw [decide_eq_true (hn x hx)]; rfl
        refine hb_err Tu (hr.mono (by decide)) (ar_cons (er_v 2 rfl rfl) ar_nil) ⟨_, [], by rw [f], fun _ _ _ h => h, (List.append_nil _).symm⟩ fun v G h => ⟨g, h, Nat.le_trans (ok.nm g (List.mem_of_getElem? e)) (by decide)⟩
      · refine ⟨rfl, fun x hx => ?_, _, rfl⟩
        rw [List.take_add_one, e] at hx
        rcases List.mem_append.mp hx with hx | hx
        · exact hn x hx
        · rw [List.mem_singleton.mp hx]
          simpa using hb
  · rintro ρ w1 ⟨rfl, hn, z, rfl⟩
    rw [List.length_map] at hn
    have f : lost gs y = none := List.find?_eq_none.mpr fun x hx => by
      rw [decide_eq_true (hn x (by rw [show (goodsW y.1 y.2.2).length = (gWy y).length from rfl, List.take_length]; exact hx))]
      decide
    exact hb_nil ⟨rNon, [], by rw [f], fun _ => rfl, (List.append_nil _).symm⟩
end
end W1
set_option maxRecDepth 100000
set_option maxHeartbeats 4000000
set_option exponentiation.threshold 20000
namespace W1
open PySem PySem.Spec PyProof.Rows L2 NdefX TL NumText
/-! ### Book(goods, ways) -/
def pBookI (C W M N D U : Addr) : Pre := fun Rs w o w' => ∃ q A1 gs w1 A2 ys w2, SVar A1 w1 (gs.map rStr) ∧ SVar A2 w2 (ys.map (rWy W)) ∧ (∀ g ∈ gs, g.length ≤ 640) ∧ (∀ y ∈ ys, WyOk y) ∧ gs.length ≤ 10000 ∧ ys.length ≤ 10000 ∧ Rs = [rRef q, A1, A2] ∧ w = (q, oIns C []) :: (w1 ++ w2) ∧
  (match bErr gs ys with | none => o = .ok rNon ∧ w' = (q, oIns C (bookF W gs ys)) :: (w1 ++ w2) | some x => o = .error (errB M N D U x) ∧ w' = w)
theorem cutR_take {α : Type} {f : α → Rl} {xs : List α} {k : Nat} (hk : k ≤ xs.length) : cutR (xs.map f) none (some (k : Int)) = (xs.take k).map f := by
  unfold cutR
  rw [HT.sIx_nat, HT.sIx_none, List.length_map, Nat.min_eq_left hk, List.drop_zero, Nat.sub_zero, List.map_take]
theorem numR_map {α : Type} {f : α → Rl} {xs : List α} {k : Nat} {S : Rl} (h : (numR (xs.map f))[k]? = some S) : ∃ x, xs[k]? = some x ∧ S = rTup [rInt (k : Int), f x] := by
  obtain ⟨R, hR, rfl⟩ := numR_get h
  rw [List.getElem?_map] at hR
  cases e : xs[k]? with
  | none => rw [e] at hR; cases hR
  | some x => rw [e] at hR; cases hR; exact ⟨x, rfl, rfl⟩
theorem small_nat {n : Nat} (h : n ≤ 100000) : ((n : Int)).natAbs.log2 < 1920 := by
  rw [Int.natAbs_natCast]
  rcases Nat.eq_zero_or_pos n with z | z
  · rw [z]; decide
  · exact Nat.lt_trans ((Nat.log2_lt (by omega)).mpr (Nat.lt_of_le_of_lt h (by decide : 100000 < 2 ^ 17))) (by decide)
theorem bt_tuple : bootBuiltins "tuple" = some (.type "tuple") := by decide +kernel
theorem lost_some {U : Addr} {gs : List Str} {y : Wy} {g : Str} (c : lost gs y = some g) : (match lost gs y with | none => (.ok rNon : Out) | some g => .error (erF U "name" (rStr g))) = .error (erF U "name" (rStr g)) := by rw [c]
theorem lost_none {U : Addr} {gs : List Str} {y : Wy} (c : lost gs y = none) : (match lost gs y with | none => (.ok rNon : Out) | some g => .error (erF U "name" (rStr g))) = .ok rNon := by rw [c]
section
variable {P : Program} {w : World} {K : PySem.W.Frag} {mg : Str → Option Value} {base : Heap} {W C M N D U f : Addr} {fd : FuncData} {tk1 tk2 : Tok}
theorem kf_binit (Fn : Fun K "__init__" "Book.__init__" s_Book___init__ f fd) (X : BookX K mg C) (Tc : Kf1 P w K mg base "check_goods" 3 (pChkG W U)) (Tn : Kf1 P w K mg base "is_name" 2 pName) (Tm : Ke P w K mg base M "BadNumber" "n" 1 prInt) (Te : Ke P w K mg base N "BadName" "name" 1 prStr) (Td : Ke P w K mg base D "DuplicateName" "name" 1 prStr)
    (gG : mg "MOST_GOODS" = some (.int 4 tk1)) (gW : mg "MOST_WAYS" = some (.int 8 tk2)) (len : mg "len" = none) (en : mg "enumerate" = none) (st : mg "sorted" = none) (tu : mg "tuple" = none) :
    FnOk P w K mg base (L2.CX P w) 5 f fd P_Book___init__ (spM (pBookI C W M N D U)) := by
  refine fn_ok Fn c_Book___init__ (fun _ _ _ _ ⟨_, _, _, _, _, _, _, _, _, _, _, _, _, h, _⟩ => by rw [h]; rfl) ?_
  rintro cdv A outer s H E ⟨_, G0, H0, M', _, tk⟩ hr rfl Rs ω o ω' ⟨q, A1, gs, w1, A2, ys, w2, v1, v2, hg, hy, lg, ly, rfl, rfl, ho⟩
  have nd := c_Book___init__.nd
  have cl := X.cx.cls
  have l1 : ∀ {O : Ol}, Lent w1 ((q, O) :: (w1 ++ w2)) := fun z hz => List.mem_cons_of_mem _ (List.mem_append_left _ hz)
  have l2 : ∀ {O : Ol}, Lent w2 ((q, O) :: (w1 ++ w2)) := fun z hz => List.mem_cons_of_mem _ (List.mem_append_right _ hz)
  have s1 : ∀ {O : Ol}, Sub w1 ((q, O) :: (w1 ++ w2)) := fun {O} => Sub.app.cons
  have len1 : ∀ {O : Ol} {F : Fx}, Cop F ((q, O) :: (w1 ++ w2)) (.builtin "len") [A1] (rInt (gs.length : Int)) := fun {O F} => by
    have := cop_lenQ (F := F) (v1.isq (F := F) (l1 (O := O)))
    rw [List.length_map] at this
    exact this
  have len2 : ∀ {O : Ol} {F : Fx}, Cop F ((q, O) :: (w1 ++ w2)) (.builtin "len") [A2] (rInt (ys.length : Int)) := fun {O F} => by
    have := cop_lenQ (F := F) (v2.isq (F := F) (l2 (O := O)))
    rw [List.length_map] at this
    exact this
  have none_ok : ∀ {x : BE}, bErr gs ys = some x → o = .error (errB M N D U x) ∧ ω' = (q, oIns C []) :: (w1 ++ w2) := fun h => by
    rw [h] at ho
    exact ho
  refine hb_if (b := !(decide (1 ≤ (gs.length : Int)) && decide ((gs.length : Int) ≤ 4))) (tr_not (tr_chain er_int (er_bA (ar_cons (er_v 1 rfl rfl) ar_nil) len bt_len len1) bop_le (fun _ => er_gI gG) fun _ => bop_le)) (fun hb => ?_) (fun hb => hb_nil ?_)
  · have e : bErr gs ys = some (.num gs.length) := by
      unfold bErr
      refine if_neg fun z => ?_
      rw [decide_eq_true (by omega), decide_eq_true (by omega)] at hb
      cases hb
    obtain ⟨rfl, rfl⟩ := none_ok e
    exact hb_err Tm (hr.mono (by decide)) (ar_cons (er_bA (ar_cons (er_v 1 rfl rfl) ar_nil) len bt_len len1) ar_nil) ⟨_, [], rfl, fun _ _ _ h => h, (List.append_nil _).symm⟩ fun v G h => ⟨_, h, small_nat (by omega)⟩
  have hb : 1 ≤ gs.length ∧ gs.length ≤ 4 := by
    rw [Bool.not_eq_false', Bool.and_eq_true] at hb
    have := of_decide_eq_true hb.1
    have := of_decide_eq_true hb.2
    omega
  have e0 : bErr gs ys = match gErr [] gs with | some e => some e | none => if 1 ≤ ys.length ∧ ys.length ≤ 8 then wErr gs ys else some (.num ys.length) := if_pos hb
  refine hb_forP (itp_en (er_v 1 rfl rfl) v1 l1 rfl en) (fun k ρ w => w = (q, oIns C []) :: (w1 ++ w2) ∧ gErr (gs.take k) (gs.drop k) = gErr [] gs ∧ ∃ z1 z2, ρ = [some (rRef q), some A1, some A2, z1, z2, none]) ⟨rfl, rfl, none, none, rfl⟩ (fun k ρ w h => by rw [h.1]; exact l1) ?_ ?_ (passes_of rfl) (pg_tup rfl (pgs_cons (pg_name (i := 3) nd rfl (Or.inl rfl)) (pgs_cons (pg_name (i := 4) nd rfl (Or.inl rfl)) pgs_nil)))
  · rintro k ρ w1' S hS ⟨rfl, hc, z1, z2, rfl⟩
    obtain ⟨g, e, rfl⟩ := numR_map hS
    obtain ⟨hk, ek⟩ := List.getElem?_eq_some_iff.mp e
    have dk : gs.drop k = g :: gs.drop (k + 1) := by rw [List.drop_eq_getElem_cons hk, ek]
    have tk1 : gs.take (k + 1) = gs.take k ++ [g] := by rw [List.take_add_one, e]; rfl
    rw [dk] at hc
    have lgk := hg g (List.mem_of_getElem? e)
    refine ⟨_, ge_tup (ges_cons ge_name (ges_cons ge_name ges_nil)) rfl, ?_⟩
    refine hb_if (tr_not (tr_val (er_fn0 Tn (hr.mono (by decide)) (ar_cons (er_v 4 rfl rfl) ar_nil) (pNameOk lgk)))) (fun hb2 => ?_) (fun hb2 => hb_nil ?_)
    · have hn : ¬ nameL (tl g) = true := by simpa using hb2
      have e2 : bErr gs ys = some (.name g) := by
        rw [e0, ← hc]
        show (match (if nameL (tl g) = true then (if g ∈ gs.take k then some (BE.twice g) else gErr (gs.take k ++ [g]) (gs.drop (k + 1))) else some (BE.name g)) with | some e => some e | none => _) = _
        rw [if_neg hn]
      obtain ⟨rfl, rfl⟩ := none_ok e2
      exact hb_err Te (hr.mono (by decide)) (ar_cons (er_v 4 rfl rfl) ar_nil) ⟨_, [], rfl, fun _ _ _ h => h, (List.append_nil _).symm⟩ fun v G h => ⟨g, h, Nat.le_trans lgk (by decide)⟩
    have hn : nameL (tl g) = true := by simpa using hb2
    have sl : ∀ {F : Fx}, Sop F ((q, oIns C []) :: (w1 ++ w2)) A1 none (some (k : Int)) (rSq ((gs.take k).map rStr)) := fun {F} => by
      have := sop_Q (F := F) (v := none) (u := some (k : Int)) v1 (l1 (O := oIns C []))
      rw [cutR_take (Nat.le_of_lt hk)] at this
      exact this
    refine hb_if (tr_cmp (er_v 4 rfl rfl) (er_slice (er_v 1 rfl rfl) pr_none (pr_some (er_v 3 rfl rfl)) sl) (bop_inQ isq_Q)) (fun hb3 => ?_) (fun hb3 => hb_nil (hb_nil ?_))
    · have hm := of_decide_eq_true hb3
      have e2 : bErr gs ys = some (.twice g) := by
        rw [e0, ← hc]
        show (match (if nameL (tl g) = true then (if g ∈ gs.take k then some (BE.twice g) else gErr (gs.take k ++ [g]) (gs.drop (k + 1))) else some (BE.name g)) with | some e => some e | none => _) = _
        rw [if_pos hn, if_pos hm]
      obtain ⟨rfl, rfl⟩ := none_ok e2
      exact hb_err Td (hr.mono (by decide)) (ar_cons (er_v 4 rfl rfl) ar_nil) ⟨_, [], rfl, fun _ _ _ h => h, (List.append_nil _).symm⟩ fun v G h => ⟨g, h, Nat.le_trans lgk (by decide)⟩
    have hm := of_decide_eq_false hb3
    refine ⟨rfl, ?_, _, _, rfl⟩
    rw [← hc, tk1]
    show _ = (if nameL (tl g) = true then (if g ∈ gs.take k then some (BE.twice g) else gErr (gs.take k ++ [g]) (gs.drop (k + 1))) else some (BE.name g))
    rw [if_pos hn, if_neg hm]
  rintro ρ w1' ⟨rfl, hc, z1, z2, rfl⟩
  rw [numR_len, List.length_map, List.drop_length] at hc
  have hc : none = gErr [] gs := hc
  rw [← hc] at e0
  refine hb_if (b := !(decide (1 ≤ (ys.length : Int)) && decide ((ys.length : Int) ≤ 8))) (tr_not (tr_chain er_int (er_bA (ar_cons (er_v 2 rfl rfl) ar_nil) len bt_len len2) bop_le (fun _ => er_gI gW) fun _ => bop_le)) (fun hb2 => ?_) (fun hb2 => hb_nil ?_)
  · have e : bErr gs ys = some (.num ys.length) := by
      rw [e0]
      refine if_neg fun z => ?_
      rw [decide_eq_true (by omega), decide_eq_true (by omega)] at hb2
      cases hb2
    obtain ⟨rfl, rfl⟩ := none_ok e
    exact hb_err Tm (hr.mono (by decide)) (ar_cons (er_bA (ar_cons (er_v 2 rfl rfl) ar_nil) len bt_len len2) ar_nil) ⟨_, [], rfl, fun _ _ _ h => h, (List.append_nil _).symm⟩ fun v G h => ⟨_, h, small_nat (by omega)⟩
  have hb2 : 1 ≤ ys.length ∧ ys.length ≤ 8 := by
    rw [Bool.not_eq_false', Bool.and_eq_true] at hb2
    have := of_decide_eq_true hb2.1
    have := of_decide_eq_true hb2.2
    omega
  have e1 : bErr gs ys = wErr gs ys := e0.trans (if_pos hb2)
  refine hb_forP (itp_sv (er_v 2 rfl rfl) v2 l2) (fun k ρ w => w = (q, oIns C []) :: (w1 ++ w2) ∧ wErr gs (ys.drop k) = wErr gs ys ∧ ∃ z3, ρ = [some (rRef q), some A1, some A2, z1, z2, z3]) ⟨rfl, rfl, none, rfl⟩ (fun k ρ w h => by rw [h.1]; exact l2) ?_ ?_ (passes_of rfl) (pg_name (i := 5) nd rfl (Or.inl rfl))
  · rintro k ρ w1' S hS ⟨rfl, hd, z3, rfl⟩
    rw [List.getElem?_map] at hS
    cases e : ys[k]? with
    | none => rw [e] at hS; cases hS
    | some y =>
      rw [e] at hS
      cases hS
      obtain ⟨hk, ek⟩ := List.getElem?_eq_some_iff.mp e
      have dk : ys.drop k = y :: ys.drop (k + 1) := by rw [List.drop_eq_getElem_cons hk, ek]
      rw [dk] at hd
      have wk := hy y (List.mem_of_getElem? e)
      refine ⟨_, ge_name, ?_⟩
      cases c : lost gs y with
      | some g =>
        have e2 : bErr gs ys = some (.unk g) := by
          rw [e1, ← hd]
          unfold wErr
          rw [c]
        obtain ⟨rfl, rfl⟩ := none_ok e2
        exact hb_exprX (ex_fS Tc (hr.mono (by decide)) (ar_cons (er_v 1 rfl rfl) (ar_cons (er_v 5 rfl rfl) ar_nil)) s1 ⟨A1, gs, y, v1, wk, rfl, rfl, (lost_some c).symm⟩) ⟨_, [], rfl, fun _ _ _ h => h, (List.append_nil _).symm⟩
      | none =>
        refine hb_expr (er_fS Tc (hr.mono (by decide)) (ar_cons (er_v 1 rfl rfl) (ar_cons (er_v 5 rfl rfl) ar_nil)) s1 ⟨A1, gs, y, v1, wk, rfl, rfl, (lost_none c).symm⟩) (hb_nil ⟨rfl, ?_, _, rfl⟩)
        rw [← hd]
        show _ = (match lost gs y with | some g => some (BE.unk g) | none => wErr gs (ys.drop (k + 1)))
        rw [c]
  rintro ρ w1' ⟨rfl, hd, z3, rfl⟩
  rw [List.length_map, List.drop_length] at hd
  have fin : bErr gs ys = none := e1.trans hd.symm
  rw [fin] at ho
  obtain ⟨rfl, rfl⟩ := ho
  refine hb_fld (q := q) (fs := []) (er_tA (ar_cons (er_bA (ar_cons (er_v 1 rfl rfl) ar_nil) st bt_sorted (cop_sortQ v1 l1 (by omega))) ar_nil) tu bt_tuple cop_tupL) (er_v 0 rfl rfl) cl X.nn ?_
  refine hb_fld (q := q) (fs := [("names", _)]) (er_tA (ar_cons (er_v 2 rfl rfl) ar_nil) tu bt_tuple (cop_tupQ v2 l2)) (er_v 0 rfl rfl) cl X.nw ?_ (hl := Nat.le_of_ble_eq_true rfl)
  exact hb_nil ⟨_, [], rfl, fun _ => rfl, (List.append_nil _).symm⟩
end
end W1
set_option maxRecDepth 100000
set_option maxHeartbeats 4000000
set_option exponentiation.threshold 20000
namespace W1
open PySem PySem.Spec PyProof.Rows L2
/-! ### o != p by the default, from an own __eq__ -/
structure NeM (K : PySem.W.Frag) (C : Addr) : Prop where
  ne : PySem.W.findIn K (.ref C) "__ne__" = some (some (.builtin "object.__ne__"))
  ob : PySem.W.mroIn K C (.type "object") = some true
theorem ty_ne : typeOf (.builtin "object.__ne__") = pure (.type "wrapper_descriptor") := by show builtinType _ = _; rw [builtinType_eq_fast]; kernel_rfl
theorem plain_ne : plainId "object.__ne__" = true := by decide +kernel
section
variable {X : Cx} {pins : List (Addr × Obj)} {σ : L2.St} {H : Hp} {s : Shared} {A : Around} {E : Value → Shared → Prop} {C g a : Addr} {k : Nat} {fd : FuncData} {ps : List Str} {sp : Sp} {fs : List (Str × V)} {dx : Addr}
/-- a special method that is a built-in's slot -/
theorem bound_slot {M : Model} {K : PySem.W.Frag} {x : Addr} {ox : Obj} {od : Option Obj} {name : Str} {id : String} {args : List Value} {Q : Option Value → Shared → Prop} (K0 : K.In s.heap) (J : PySem.W.InstAt s.heap x ox C od) (hs : PySem.W.findIn K (.ref C) name = some (some (.builtin id))) (ty : typeOf (.builtin id) = pure (.type "wrapper_descriptor"))
    (h : wpAny M A (call (.builtin id) (.ref x :: args)) (fun v => Q (some v)) E s) : wpAny M A (callSpecialIfBound? (.ref x) name args) Q E s := by
  have bd : bindSpecial (.builtin id) (.ref x) = pure (.builtin id, [.ref x]) := by
    unfold bindSpecial
    rw [ty]
    rfl
  have fin : wpAny M A (call (.builtin id) ([.ref x] ++ args) >>= fun v => pure (some v)) Q E s := wpAny_bind (wpAny_mono h (fun v s' z => wpAny_pure z) fun _ _ z => z)
  simp only [callSpecialIfBound?, bindSpecialIfBound?]
  refine wpAny_holding (wpAny_bind (wpAny_bind (wpAny_bind (J.type.here ((PySem.W.looks_findIn K0 hs).here ?_)))))
  simp only [bd]
  refine wpAny_bind (wpAny_askSetting (wpAny_ite ?_))
  split
  · exact wpAny_bind (wpAny_pure (wpAny_pure fin))
  · exact wpAny_tryCatch (wpAny_bind (wpAny_pure (wpAny_pure fin)))
theorem objNe_of {prog : Program} {w : World} {A : Around} {E : Value → Shared → Prop} {s : Shared} {a : Addr} {b : Value} {Q : Fin → Shared → Prop} (hu : A.units < cLine)
    (h : wpAny (model prog w) A (callSpecialIfBound? (.ref a) "__eq__" [b]) (fun r s' => ∃ v, r = some (.bool v) ∧ Q (.done (.ret (.bool (!v)))) s') E s) : wpAny (model prog w) A (Builtin.«object.__ne__» ⟨[.ref a, b], []⟩) Q E s := by
  unfold Builtin.«object.__ne__»
  refine wpAny_bind (wpAny_of_eq (a := (Value.ref a, [b])) (by first | rfl | kernel_rfl!) ?_)
  refine wpAny_bind (wpAny_cRoomFor hu ?_)
  refine wpAny_bind (wpAny_mono h (fun r s' z => ?_) fun _ _ x => x)
  obtain ⟨v, rfl, q⟩ := z
  exact wpAny_bind (wpAny_truthy_bool (wpAny_pure q))
theorem ne_own {Q : VK} {b : V} {u t : Value} (m : OwnM X.K C "__eq__" g) (n : NeM X.K C) (F : FnOk X.prog X.w X.K X.mg X.base (L2.CX X.prog X.w) k g fd ps sp) (hr : Room (k + 1) A) (e0 : Env0 X.prog X.w X.K X.mg X.base A X.stack s H) (hb : Binds X.K fd ps []) (I : Inv X pins σ H s)
    (ha : H a = some (.ins C dx fs)) (ry : RelV b u) (ty : TyE X.K H b t) (hn : PySem.W.notFirst X.K C t = true) (q : sp [.ref a, b] H (fun v H' => ∃ r, v = .bl r ∧ Q (.bl (!r)) H') E0) : wpAny (model X.prog X.w) A (richCompare .NotEq (.ref a) u) (EP X pins σ Q) E s := by
  obtain ⟨od, J⟩ := inst_at I ha
  obtain ⟨mm, hF⟩ := I.fr
  have K0 : X.K.In s.heap := I.kIn
  have isob : PySem.W.Looks (model X.prog X.w) s.heap (isInstance (.ref a) (.type "object")) true := J.type.andThen (PySem.W.looks_mroIn K0 n.ob)
  have room : A.in1.units < cLine := hr.in1.units0
  have one : wpAny (model X.prog X.w) A (tryCompare (.ref a) "__ne__" u) (fun r s' => ∃ v, r = some v ∧ EP X pins σ Q v s') E s := by
    unfold tryCompare
    refine wpAny_bind (bound_slot K0 J n.ne ty_ne (wpAny_call (codeAny_call_builtin plain_ne PySem.F.cmpEntry_ne (PySem.W.check_slot PySem.F.cmpKind_ne PySem.F.cmpSplit_ne isob (PySem.F.cmpArgs_ne _ _) ?_))))
    refine objNe_of (b := u) room ?_
    refine PySem.W.ifBound_K (args := [u]) K0 J m.at_ m.fn (wpAny_mono (run_below (us := [.ref a, u]) (vs := [.ref a, b]) F hr.in1 e0.in1 hb I (.cons rfl (.cons ry .nil)) q _) (fun v s' z => ?_) fun _ _ x => x)
    obtain ⟨z', H', I', rz, r, rfl, qz⟩ := z
    cases (show v = Value.bool r from rz)
    exact ⟨r, rfl, wpAny_pure ⟨_, rfl, .bl (!r), H', I', rfl, qz⟩⟩
  unfold richCompare
  simp only [oneThing_ref]
  refine wpAny_holding (wpAny_bind (wpAny_cRoomFor hr.units0 ?_))
  refine wpAny_bind (J.type.here (wpAny_bind ((tye_looks I ry ty).here ?_)))
  split
  · rename_i z
    have e : PySem.W.subIn X.K t (.ref C) = some false := by
      rcases Bool.or_eq_true_iff.mp hn with e | e
      · rw [beq_iff_eq.mp e] at z; simp at z
      · exact beq_iff_eq.mp e
    refine wpAny_bind ((PySem.W.looks_subIn K0 e).here ?_)
    simp only [Bool.false_eq_true, if_false]
    refine wpAny_bind (wpAny_mono one (fun r s' z => ?_) fun _ _ x => x)
    obtain ⟨v, rfl, hq⟩ := z
    exact wpAny_pure hq
  · refine wpAny_bind (wpAny_pure ?_)
    simp only [Bool.false_eq_true, if_false]
    refine wpAny_bind (wpAny_mono one (fun r s' z => ?_) fun _ _ x => x)
    obtain ⟨v, rfl, hq⟩ := z
    exact wpAny_pure hq
def rOwnN (K : PySem.W.Frag) (C : Addr) (sp : Sp) : R2 := fun x y H Q => ∃ a dx vs t, x = .ref a ∧ H a = some (.ins C dx vs) ∧ TyE K H y t ∧ PySem.W.notFirst K C t = true ∧ sp [x, y] H (fun v H' => ∃ r, v = .bl r ∧ Q (.bl (!r)) H') E0
theorem op_ownN (m : OwnM X.K C "__eq__" g) (n : NeM X.K C) (Fn : FnOk X.prog X.w X.K X.mg X.base (L2.CX X.prog X.w) k g fd ps sp) (hr : Room (k + 1) X.A) (hb : Binds X.K fd ps []) : OpR X (compareOp .NotEq) (rOwnN X.K C sp) := by
  intro pins s σ H x y v u Q I rx ry ⟨a, dx, vs, t, ex, ha, ty, hn, q⟩
  subst ex
  cases (show v = Value.ref a from rx)
  show wpAny _ _ (richCompare .NotEq (.ref a) u) _ _ _
  exact ne_own m n Fn hr I.env0 hb I ha ry ty hn q
/-- len(o) by an own __len__ -/
theorem len_own {Q : VK} (m : OwnM X.K C "__len__" g) (Fn : FnOk X.prog X.w X.K X.mg X.base (L2.CX X.prog X.w) k g fd ps sp) (hr : Room k A.in1) (e0 : Env0 X.prog X.w X.K X.mg X.base A.in1 X.stack s H) (hb : Binds X.K fd ps []) (I : Inv X pins σ H s)
    (ha : H a = some (.ins C dx fs)) (q : sp [.ref a] H (fun v H' => ∃ n : Nat, v = .int n ∧ n < 2 ^ 62 ∧ Q (.int n) H') E0) : wpAny (model X.prog X.w) A (call (.builtin "len") [.ref a]) (EP X pins σ Q) E s := by
  obtain ⟨od, J⟩ := inst_at I ha
  refine Calls.call_function_entry PySem.kind_len PySem.plain_len PySem.entry_len (PySem.args_len1 _) ?_
  unfold Builtin.«len»
  refine wpAny_bind (m := oneArg "len" _) (wpAny_pure ?_)
  refine wpAny_bind (PySem.W.special_fn (args := []) I.kIn J m.at_ (beq_iff_eq.mp m.fn) (wpAny_mono (run_below (us := [.ref a]) (vs := [.ref a]) Fn hr e0 hb I (.cons rfl .nil) q _) (fun v s' z => ?_) fun _ _ x => x))
  obtain ⟨z', H', I', rz, n, rfl, hn, qz⟩ := z
  obtain ⟨tk, rfl⟩ := rz
  refine wpAny_bind (wpAny_holding (wpAny_pure ?_))
  refine wpAny_bind (wpAny_letGo ?_)
  show wpAny _ _ (if ((n : Nat) : Int) < 0 then _ else _) _ _ _
  rw [if_neg (by omega)]
  show wpAny _ _ (if ((n : Nat) : Int) ≥ 2 ^ 63 then _ else _) _ _ _
  rw [if_neg (by omega)]
  exact wpAny_bind (wpAny_mkInt (wpAny_pure ⟨_, rfl, .int n, H', I'.tok _, ⟨_, rfl⟩, qz⟩))
def rOwnL (C : Addr) (sp : Sp) : List V → Hp → VK → Prop := fun xs H Q => ∃ a dx vs, xs = [.ref a] ∧ H a = some (.ins C dx vs) ∧ sp [.ref a] H (fun v H' => ∃ n : Nat, v = .int n ∧ n < 2 ^ 62 ∧ Q (.int n) H') E0
theorem call_ownL (m : OwnM X.K C "__len__" g) (Fn : FnOk X.prog X.w X.K X.mg X.base (L2.CX X.prog X.w) k g fd ps sp) (hr : Room (k + 1) X.A) (hb : Binds X.K fd ps []) : CallR X (.builtin "len") (rOwnL C sp) := by
  intro pins s σ H xs us Q I r ⟨a, dx, vs, ex, ha, q⟩
  subst ex
  obtain ⟨u, rfl, ru⟩ := vals1 r
  cases (show u = Value.ref a from ru)
  exact len_own m Fn hr.in1 I.env0.in1 hb I ha q
end
section
variable {F : Fx} {w : Ow} {C : Addr} {k n : Nat} {pre : Pre} {fs : List (Str × Rl)} {B : Rl} {r : Bool}
theorem bop_oN {t : Value} (T : Ko F.X.prog F.X.w F.X.K F.X.mg F.X.base C "__eq__" k pre) (nm : NeM F.X.K C) (hr : Room (k + 1) F.X.A) (hp : pre [rIns C fs, B] [] (.ok (rBool r)) []) (ht : TyR F.X.K B t) (hn : PySem.W.notFirst F.X.K C t = true) : Bop F w (compareOp .NotEq) (rIns C fs) B (rBool (!r)) := by
  obtain ⟨f, fd, ps, h1, h2, h3⟩ := T
  refine ⟨_, op_ownN h1 nm h3 hr h2, fun x y G H at_ hx hy Q q => ?_⟩
  obtain ⟨a, dx, vs, rfl, e1, e2⟩ := id hx
  exact ⟨a, dx, vs, t, rfl, at_.gh _ _ e1, ht y G H at_.gh hy, hn, sp_ok0 at_ (mk2 hx hy) hp fun v G2 H2 s a r2 => ⟨r, r2, q _ G2 H2 s a rfl⟩⟩
theorem cop_oL {m : Nat} (T : Ko F.X.prog F.X.w F.X.K F.X.mg F.X.base C "__len__" k pre) (hr : Room (k + 1) F.X.A) (hp : pre [rIns C fs] [] (.ok (rInt (m : Int))) []) (hm : m < 2 ^ 62) : Cop F w (.builtin "len") [rIns C fs] (rInt (m : Int)) := by
  obtain ⟨f, fd, ps, h1, h2, h3⟩ := T
  refine ⟨_, call_ownL h1 h3 hr h2, fun xs G H at_ hx Q q => ?_⟩
  obtain ⟨x, rfl, hx1⟩ := all1 hx
  obtain ⟨a, dx, vs, rfl, e1, e2⟩ := id hx1
  exact ⟨a, dx, vs, rfl, at_.gh _ _ e1, sp_ok0 (Rs := [rIns C fs]) at_ (mk1 hx1) hp fun v G2 H2 s a r2 => ⟨m, r2, hm, q _ G2 H2 s a rfl⟩⟩
end
end W1
/-! ### == of two tuples of like length, items by what is known of each pair -/
namespace W1Q
open PySem PySem.SeqAt
open AutoSeq1 (wpAny_loadPart')
open MeetsSeq MeetsSeq2 MeetsSeq3 SeqRoads2
section
variable {prog : Program} {w : World} {A : Around} {R : Result → Shared → Prop} {l b : Addr} {e : Nat → Bool} {I : Nat → Shared → Prop}
end
end W1Q
set_option maxRecDepth 100000
set_option maxHeartbeats 4000000
set_option exponentiation.threshold 20000
namespace W1
open PySem PySem.Spec PyProof.Rows L2
section
variable {X : Cx} {n : Nat}
end
end W1
set_option maxRecDepth 100000
set_option maxHeartbeats 2000000
set_option exponentiation.threshold 20000
namespace W1
open PySem PySem.Spec PyProof.Rows L2 NdefX TL NumText
/-! ### the law's draws -/
abbrev Pool := Int × Int × Bool
def oPool (s : Pool) : Ol := oL [rInt s.1, rInt s.2.1, rBool s.2.2]
def drR (s : Pool) (L : Int) : Int := if s.2.2 then s.1.fmod L else (((((s.1 * 7919 + (s.2.1 + 1) * 104729 + 13).fmod 2147483647) ^ 5).fmod 2147483647).fdiv 17).fmod L
def drS (s : Pool) (L : Int) : Pool := (if s.2.2 then s.1.fdiv L else s.1, s.2.1 + 1, s.2.2)
theorem drR_lt {s : Pool} {L : Int} (h : 0 < L) : 0 ≤ drR s L ∧ drR s L < L := by
  unfold drR
  split <;> exact ⟨Int.fmod_nonneg_of_pos _ h, Int.fmod_lt_of_pos _ h⟩
def pBag : PreN := fun Rs w O w' => ∃ c : Int, Rs = [rInt c] ∧ w = [] ∧ w' = [] ∧ O = oPool (c, 0, decide (10 ^ 18 ≤ c))
def pDraw : Pre := fun Rs w o w' => ∃ (q : Addr) (s : Pool) (L : Int), 0 < L ∧ L.natAbs < 2 ^ 9000 ∧ Rs = [rRef q, rInt L] ∧ w = [(q, oPool s)] ∧ w' = [(q, oPool (drS s L))] ∧ o = .ok (rInt (drR s L))
theorem drawOk {q : Addr} {s : Pool} {L : Int} (h : 0 < L) (h2 : L.natAbs < 2 ^ 64) : pDraw [rRef q, rInt L] [(q, oPool s)] (.ok (rInt (drR s L))) [(q, oPool (drS s L))] := ⟨q, s, L, h, lt9000 h2 (by decide), rfl, rfl, rfl, rfl⟩
def atS (ns : List Int) (k : Nat) : Int := ns.getD k 0
def pAt (K : PySem.W.Frag) : Pre := pOk (α := List Int × Nat) (fun _ => True) (fun a => [rScr K (a.1.map V.int), rInt a.2]) (fun a => rInt (atS a.1 a.2))
theorem ixN_at {n : Nat} {k : Nat} (h : k < n) : ixN n (k : Int) = some k := by
  unfold ixN
  rw [if_pos (Int.natCast_nonneg k), if_pos (by omega)]
  simp
theorem iop_pickM {α : Type} {F : Fx} {w : Ow} {xs : List α} {A : α → Rl} {i : Int} (d : α) (h0 : 0 ≤ i) (h1 : i < xs.length) : Iop F w (rLst (xs.map A)) (rInt i) (A (xs.getD i.toNat d)) := by
  have e : i = (i.toNat : Int) := by omega
  have hl : i.toNat < xs.length := by omega
  have ix := ixN_at (n := (xs.map A).length) (k := i.toNat) (by rw [List.length_map]; exact hl)
  rw [← e] at ix
  exact iop_L ix (by rw [List.getElem?_map, List.getD_eq_getElem?_getD, List.getElem?_eq_getElem hl]; rfl)
theorem mod_lt {m : Int} : (m.fmod 2147483647).natAbs < 2 ^ 64 := by
  have h1 := Int.fmod_nonneg_of_pos m (show (0 : Int) < 2147483647 by decide)
  have h2 := Int.fmod_lt_of_pos m (show (0 : Int) < 2147483647 by decide)
  have : (2 : Nat) ^ 64 = 18446744073709551616 := by decide
  omega
section
variable {F : Fx} {ρ : Ty} {ω w1 : Ow} {K : Kn} {rest body : List Stmt} {tg it : Expr} {pos : Pos} {α β : Type}
end
section
variable {P : Program} {w : World} {K : PySem.W.Frag} {mg : Str → Option Value} {base : Heap} {C B f : Addr} {fd : FuncData}
theorem kf_bag (Fn : Fun K "_law_bag" "_law_bag" s__law_bag f fd) : FnOk P w K mg base (L2.CX P w) 1 f fd P__law_bag (spN pBag) := by
  refine fn_okN Fn c__law_bag (fun _ _ _ _ ⟨_, h, _⟩ => by rw [h]; rfl) ?_
  rintro cdv A outer s H E ⟨_, G0, H0, M, W, tk⟩ hr rfl Rs ω o ω' ⟨c, rfl, rfl, rfl, rfl⟩
  exact hb_retO (en_lst (ar_cons (er_var 0 rfl) (ar_cons er_int (ar_cons (er_cmp (er_var 0 rfl) (er_bin er_int er_int (bop_pow ⟨by decide, by decide, by decide⟩)) bop_ge) ar_nil))) (Nat.le_of_ble_eq_true rfl)) fun q hM => ⟨q, [], fun _ _ h => h, List.not_mem_nil, rfl⟩
theorem kf_at (Fn : Fun K "_law_at_of" "_law_at_of" s__law_at_of f fd) (len : mg "len" = none) : FnOk P w K mg base (L2.CX P w) 1 f fd P__law_at_of (spM (pAt K)) := by
  refine fn_ok Fn c__law_at_of (fun _ _ _ _ ⟨_, _, h, _⟩ => by rw [h]; rfl) ?_
  rintro cdv A outer s H E ⟨_, G0, H0, M, W, tk⟩ hr rfl Rs ω o ω' ⟨⟨ns, k⟩, -, rfl, rfl, rfl, rfl⟩
  refine hb_if (tr_cmp (er_var 1 rfl) (er_callB cop_lenS rfl len bt_len (ar_cons (er_var 0 rfl) ar_nil)) bop_lt) (fun hb => ?_) (fun hb => hb_nil ?_)
  · have h : k < ns.length := by
      have e : (k : Int) < ((ns.map V.int).length : Int) := of_decide_eq_true hb
      rw [List.length_map] at e
      omega
    refine hb_ret (er_ix (er_var 0 rfl) (er_var 1 rfl) (iop_S (v := .int (atS ns k)) ?_)) ⟨_, [], rfl, fun _ _ h => h, rfl⟩
    unfold atI
    rw [List.length_map, ixN_at h]
    show (ns.map V.int)[k]? = _
    rw [List.getElem?_map, List.getElem?_eq_getElem h]
    unfold atS
    rw [List.getD_eq_getElem?_getD, List.getElem?_eq_getElem h]
    rfl
  · have h : ns.length ≤ k := by
      have e : ¬ (k : Int) < ((ns.map V.int).length : Int) := of_decide_eq_false hb
      rw [List.length_map] at e
      omega
    refine hb_ret er_int ⟨_, [], rfl, fun v G z => ?_, rfl⟩
    show v = V.int (atS ns k)
    unfold atS
    rw [List.getD_eq_getElem?_getD, List.getElem?_eq_none h]
    exact z
theorem kf_draw (Fn : Fun K "_law_draw" "_law_draw" s__law_draw f fd) (int : mg "int" = none) : FnOk P w K mg base (L2.CX P w) 1 f fd P__law_draw (spM pDraw) := by
  refine fn_ok Fn c__law_draw (fun _ _ _ _ ⟨_, _, _, _, _, h, _⟩ => by rw [h]; rfl) ?_
  rintro cdv A outer s H E ⟨_, G0, H0, M, W, tk⟩ hr rfl Rs ω o ω' ⟨q, ⟨c, n, g⟩, L, h0, hz, rfl, rfl, rfl, rfl⟩
  refine hb_sub (w3 := []) (er_bin (er_ixO (er_var 0 rfl) er_int List.mem_cons_self rfl rfl) er_int bop_add) (er_var 0 rfl) er_int rfl ?_
  refine hb_if (tr_val (er_ixO (er_var 0 rfl) er_int List.mem_cons_self rfl rfl)) (fun hg => ?_) (fun hg => hb_nil ?_)
  · have hg' : g = true := hg
    subst hg'
    refine hb_set 2 (er_bin (er_callTy cop_int rfl int bt_int (ar_cons (er_ixO (er_var 0 rfl) er_int List.mem_cons_self rfl rfl) ar_nil)) (er_var 1 rfl) (bop_mod (by omega))) ?_ c__law_draw.nd
    refine hb_sub (w3 := []) (er_bin (er_callTy cop_int rfl int bt_int (ar_cons (er_ixO (er_var 0 rfl) er_int List.mem_cons_self rfl rfl) ar_nil)) (er_var 1 rfl) (bop_fdiv (divok (n := 9000) (by omega) hz))) (er_var 0 rfl) er_int rfl ?_
    exact hb_ret (er_var 2 rfl) ⟨_, [], rfl, fun _ _ h => h, rfl⟩
  · have hg' : g = false := hg
    subst hg'
    refine hb_set 3 (er_bin (er_callTy cop_int rfl int bt_int (ar_cons (er_bin (er_bin (er_bin (er_ixO (er_var 0 rfl) er_int List.mem_cons_self rfl rfl) er_int (bop_mul (IntMulOk.of_right (by decide)))) (er_bin (er_ixO (er_var 0 rfl) er_int List.mem_cons_self rfl rfl) er_int (bop_mul (IntMulOk.of_right (by decide)))) bop_add) er_int bop_add) ar_nil)) er_int (bop_mod (by decide))) ?_ c__law_draw.nd
    exact hb_ret (er_bin (er_bin (er_callTy cop_int rfl int bt_int (ar_cons (er_bin (er_bin (er_var 3 rfl) er_int (bop_pow ⟨by decide, by decide, mod_lt⟩)) er_int (bop_mod (by decide))) ar_nil)) er_int (bop_fdiv ⟨by decide, by decide⟩)) (er_var 1 rfl) (bop_mod (by omega))) ⟨_, [], rfl, fun _ _ h => h, rfl⟩
end
end W1
set_option maxRecDepth 100000
set_option maxHeartbeats 2000000
set_option exponentiation.threshold 20000
namespace W1
open PySem PySem.Spec PyProof.Rows L2 NdefX TL NumText
/-! ### the law's good, amounts_of -/
section
variable {F : Fx} {ρ : Ty} {ω w w1 : Ow} {K : Kn} {rest body : List Stmt} {tg it e : Expr} {pos p : Pos} {α β : Type} {Rs : List Rl} {P : Er}
theorem bop_eqE (hr : Room 1 F.X.A) : Bop F w (compareOp .Eq) (rLst Rs) (rLst []) (rBool (decide (Rs = []))) := by
  have h := bop_eqL (F := F) (w := w) (Rs := Rs) (Ss := []) (e := fun _ => true) (n := 0) (fun i R S _ h2 => by simp at h2) hr
  cases Rs with
  | nil => exact h
  | cons a l => exact h
theorem hb_nd (h : (keys w).Nodup → HB F ρ w rest K) : HB F ρ w rest K := fun σ G H D a sl ps => h a.nd σ G H D a sl ps
/-- a loop that carries b from turn to turn, of which I holds -/
theorem hb_foldI {A : α → Rl} (xs : List α) (st : β → α → β) (b0 : β) (z0 : Option Rl) (i : Nat) (I : β → Prop) (hI0 : I b0) (hI : ∀ b a, I b → a ∈ xs → I (st b a)) (ρf : β → Option Rl → Ty) (wf : β → Ow) (hit : IT F ρ ω tg it (xs.map A) w1) (hρ : ρ = ρf b0 z0) (hw : w1 = wf b0) (hset : ∀ b z R, (ρf b z).set i (some R) = ρf b (some R))
    (hb : ∀ b a, I b → a ∈ xs → HB F (ρf b (some (A a))) (wf b) body (K.loop F rest fun ρ' w' => w' = wf (st b a) ∧ ∃ z, ρ' = ρf (st b a) z)) (hf : ∀ z, I (xs.foldl st b0) → HB F (ρf (xs.foldl st b0) z) (wf (xs.foldl st b0)) rest K)
    (hp : PassesOwn (model F.X.prog F.X.w) F.X.A F.X.env F.X.xe) (hpg : PG F.X tg (gName i)) (hc : F.X.calm = true := by rfl) (hfs : ∀ z, foldedSetIterable it F.X.env z = pure z := by intro _; rfl) : HB F ρ ω (.For tg it body [] pos :: rest) K := by
  have key : ∀ k, I ((xs.take k).foldl st b0) := fun k => by
    have : ∀ (l : List α) (b : β), I b → (∀ a ∈ l, a ∈ xs) → I (l.foldl st b) := by
      intro l
      induction l with
      | nil => intro b h _; exact h
      | cons a l ih => intro b h hl; exact ih _ (hI b a h (hl a List.mem_cons_self)) fun c hc => hl c (List.mem_cons_of_mem _ hc)
    exact this _ _ hI0 fun a ha => List.mem_of_mem_take ha
  refine hb_for hit (fun k ρ' w' => w' = wf ((xs.take k).foldl st b0) ∧ ∃ z, ρ' = ρf ((xs.take k).foldl st b0) z) ⟨hw, z0, hρ⟩ ?_ ?_ hp hpg hc hfs
  · rintro k ρ' w' S hS ⟨rfl, z, rfl⟩
    rw [List.getElem?_map] at hS
    cases e : xs[k]? with
    | none => rw [e] at hS; cases hS
    | some a =>
      rw [e] at hS
      cases hS
      have et : xs.take (k + 1) = xs.take k ++ [a] := by rw [List.take_add_one, e]; rfl
      refine ⟨_, ge_name, ?_⟩
      rw [hset]
      have h := hb ((xs.take k).foldl st b0) a (key k) (List.mem_of_getElem? e)
      rw [et, List.foldl_append]
      exact h
  · rintro ρ' w' ⟨rfl, z, rfl⟩
    have kk := key xs.length
    rw [List.take_length] at kk
    rw [List.length_map, List.take_length]
    exact hf z kk
end
/-- amounts of names drawn -/
structure AmI (ns : List Str) (am : Am) : Prop where
  nd : (namesA am).Nodup
  sub : ∀ g ∈ namesA am, g ∈ ns
  ok : ∀ p ∈ am, 0 ≤ p.2 ∧ p.2 ≤ 10 ^ 20
theorem mem_putA {am : Am} {k : Str} {v : Int} {p : Str × Int} (h : p ∈ putA am k v) : p ∈ am ∨ p = (k, v) := by
  unfold putA at h
  split at h
  · obtain ⟨q, hq, rfl⟩ := List.mem_map.mp h
    by_cases e : q.1 = k
    · rw [if_pos e, e]; exact .inr rfl
    · rw [if_neg e]; exact .inl hq
  · rcases List.mem_append.mp h with h | h
    · exact .inl h
    · exact .inr (List.mem_singleton.mp h)
theorem AmI.put {ns : List Str} {am : Am} {k : Str} {v : Int} (h : AmI ns am) (hk : k ∈ ns) (hv : 0 ≤ v ∧ v ≤ 10 ^ 20) : AmI ns (putA am k v) := by
  refine ⟨?_, fun g hg => ?_, fun p hp => ?_⟩
  · rw [names_put]
    split
    · exact h.nd
    · rename_i e
      refine List.nodup_append.mpr ⟨h.nd, by simp, fun a ha b hb => ?_⟩
      rw [List.mem_singleton.mp hb]
      exact fun z => e (z ▸ ha)
  · rw [names_put] at hg
    split at hg
    · exact h.sub _ hg
    · rcases List.mem_append.mp hg with hg | hg
      · exact h.sub _ hg
      · rw [List.mem_singleton.mp hg]; exact hk
  · rcases mem_putA hp with hp | rfl
    · exact h.ok _ hp
    · exact hv
theorem AmI.nil {ns : List Str} : AmI ns [] := ⟨List.nodup_nil, fun _ h => (by cases h), fun _ h => (by cases h)⟩
theorem sub_len {α : Type} [DecidableEq α] : ∀ {l ns : List α}, l.Nodup → (∀ g ∈ l, g ∈ ns) → l.length ≤ ns.length
  | [], _, _, _ => Nat.zero_le _
  | a :: l, ns, h, k => by
    have h2 := List.nodup_cons.mp h
    have ih := sub_len (ns := ns.erase a) h2.2 fun g hg => (List.mem_erase_of_ne (show g ≠ a from fun z => h2.1 (z ▸ hg))).mpr (k g (List.mem_cons_of_mem _ hg))
    have ha := k a List.mem_cons_self
    rw [List.length_erase_of_mem ha] at ih
    have := List.length_pos_of_mem ha
    rw [List.length_cons]
    omega
theorem AmI.len {ns : List Str} {am : Am} (h : AmI ns am) : am.length ≤ ns.length := by
  have := sub_len h.nd h.sub
  unfold namesA at this
  rw [List.length_map] at this
  exact this
end W1
set_option maxRecDepth 100000
set_option maxHeartbeats 2000000
set_option exponentiation.threshold 20000
namespace W1
open PySem PySem.Spec PyProof.Rows L2 NdefX TL NumText
/-! ### comparing what is owned -/
section
variable {F : Fx} {ω w : Ow} {A B A' B' R : Rl} {n : Nat} {q : Addr} {b : Bool}
end
/-! ### what is kept, what is told -/
theorem chk_ok {am : Am} : ∀ {l : List Str}, chkL am l = none → ∀ g ∈ l, nameL (tl g) = true ∧ 0 ≤ valA am g
  | [], _, _, h => by cases h
  | a :: l, h, g, hg => by
    unfold chkL at h
    by_cases h1 : nameL (tl a) = true
    · rw [if_pos h1] at h
      by_cases h2 : valA am a < 0
      · rw [if_pos h2] at h; cases h
      · rw [if_neg h2] at h
        rcases List.mem_cons.mp hg with rfl | hg
        · exact ⟨h1, by omega⟩
        · exact chk_ok h g hg
    · rw [if_neg h1] at h; cases h
theorem val_ge {am : Am} (h : chkL am (srt (namesA am)) = none) (g : Str) : 0 ≤ valA am g := by
  by_cases hg : g ∈ namesA am
  · exact (chk_ok h g ((srt_perm _).mem_iff.mpr hg)).2
  · rw [(valR_An hg).2]; decide
theorem valA_map (v : Str → Int) (g : Str) : ∀ l : List Str, valA (l.map fun x => (x, v x)) g = if g ∈ l then v g else 0
  | [] => rfl
  | a :: l => by
    unfold valA
    rw [List.map_cons, List.find?_cons]
    by_cases h : a = g
    · subst h
      rw [if_pos List.mem_cons_self]
      simp
    · rw [decide_eq_false h]
      have ih := valA_map v g l
      unfold valA at ih
      dsimp only
      rw [ih]
      by_cases hg : g ∈ l
      · rw [if_pos hg, if_pos (List.mem_cons_of_mem _ hg)]
      · rw [if_neg hg, if_neg fun z => (List.mem_cons.mp z).elim (fun e => h e.symm) hg]
theorem val_kept {am : Am} (h : chkL am (srt (namesA am)) = none) (g : Str) : valA (keptA am) g = valA am g := by
  unfold keptA
  rw [valA_map]
  have := val_ge h g
  split
  · rfl
  · rename_i hn
    by_cases hg : g ∈ namesA am
    · have : ¬ 0 < valA am g := fun z => hn (List.mem_filter.mpr ⟨(srt_perm _).mem_iff.mpr hg, decide_eq_true z⟩)
      omega
    · rw [(valR_An hg).2]
theorem names_kept {am : Am} {g : Str} : g ∈ namesA (keptA am) ↔ g ∈ namesA am ∧ 0 < valA am g := by
  unfold keptA namesA
  rw [List.map_map, show ((fun x : Str × Int => x.1) ∘ fun g => (g, valA am g)) = id from rfl, List.map_id]
  unfold keptL
  rw [List.mem_filter, (srt_perm _).mem_iff, decide_eq_true_iff]
  rfl
end W1
set_option maxRecDepth 100000
set_option maxHeartbeats 2000000
set_option exponentiation.threshold 20000
namespace W1
open PySem PySem.Spec PyProof.Rows L2 NdefX TL NumText
/-! ### the law's same -/
end W1
set_option maxRecDepth 100000
set_option maxHeartbeats 4000000
set_option exponentiation.threshold 20000
namespace W1
open PySem PySem.Spec PyProof.Rows L2 NdefX TL NumText
/-! ### what a book tells -/
structure WyG (y : Wy) : Prop where
  ok : WyOk y
  g1 : AmG y.1
  g2 : AmG y.2.2
  c1 : chkL y.1 (srt (namesA y.1)) = none
  c2 : chkL y.2.2 (srt (namesA y.2.2)) = none
end W1
set_option maxRecDepth 100000
set_option maxHeartbeats 4000000
set_option exponentiation.threshold 20000
namespace W1
open PySem PySem.Spec PyProof.Rows L2 NdefX TL NumText
/-! ### == of tuples of texts -/
end W1
set_option maxRecDepth 100000
set_option maxHeartbeats 4000000
set_option exponentiation.threshold 20000
namespace W1
open PySem PySem.Spec PyProof.Rows L2 NdefX TL NumText
/-! ### len, iteration, ==, way, check_good, net -/
def wy0 : Wy := ([], 1, [])
section
variable (C W : Addr)
def pBLen : Pre := fun Rs w o w' => ∃ gs ys, Rs = [rBook C W gs ys] ∧ w = [] ∧ w' = [] ∧ o = .ok (rInt ((ys.length : Nat) : Int))
def pBWay (V : Addr) : Pre := fun Rs w o w' => ∃ gs ys i, i.natAbs.log2 < 1920 ∧ Rs = [rBook C W gs ys, rInt i] ∧ w = [] ∧ w' = [] ∧ o = (if 0 ≤ i ∧ i < ys.length then .ok (rWy W (ys.getD i.toNat wy0)) else .error (erF V "at" (rInt i)))
def pBChk (U : Addr) : Pre := fun Rs w o w' => ∃ gs ys g, g.length ≤ 640 ∧ Rs = [rBook C W gs ys, rStr g] ∧ w = [] ∧ w' = [] ∧ o = (if g ∈ gs then .ok rNon else .error (erF U "name" (rStr g)))
def netW (y : Wy) (g : Str) : Int := valA (keptA y.2.2) g - valA (keptA y.1) g
def pBNet (U V : Addr) : Pre := fun Rs w o w' => ∃ gs ys i g, i.natAbs.log2 < 1920 ∧ g.length ≤ 640 ∧ Rs = [rBook C W gs ys, rInt i, rStr g] ∧ w = [] ∧ w' = [] ∧
  o = (if 0 ≤ i ∧ i < ys.length then (if g ∈ gs then .ok (rInt (netW (ys.getD i.toNat wy0) g)) else .error (erF U "name" (rStr g))) else .error (erF V "at" (rInt i)))
end
theorem ixN_in {n : Nat} {i : Int} (h0 : 0 ≤ i) (h1 : i < (n : Int)) : ixN n i = some i.toNat := by
  obtain ⟨k, rfl⟩ := Int.eq_ofNat_of_zero_le h0
  exact ixN_at (by omega)
theorem getD_wy {ys : List Wy} {k : Nat} (h : k < ys.length) : ys[k]? = some (ys.getD k wy0) := by
  rw [List.getD_eq_getElem?_getD, List.getElem?_eq_getElem h]
  rfl
section
variable {P : Program} {w : World} {K : PySem.W.Frag} {mg : Str → Option Value} {base : Heap} {W C M N D U V f : Addr} {fd : FuncData}
theorem kf_blen (Fn : Fun K "__len__" "Book.__len__" s_Book___len__ f fd) (X : BookX K mg C) (len : mg "len" = none) : FnOk P w K mg base (L2.CX P w) 1 f fd P_Book___len__ (spM (pBLen C W)) := by
  refine fn_ok Fn c_Book___len__ (fun _ _ _ _ ⟨_, _, h, _⟩ => by rw [h]; rfl) ?_
  rintro cdv A outer s H E ⟨_, G0, H0, M', _, tk⟩ hr rfl Rs ω o ω' ⟨gs, ys, rfl, rfl, rfl, rfl⟩
  refine hb_ret (er_bA (ar_cons (er_fld (er_v 0 rfl rfl) X.cx.cls X.nw rfl) ar_nil) len bt_len cop_lenT) ⟨_, [], rfl, fun v G h => ?_, rfl⟩
  rw [List.length_map] at h
  exact h
theorem kf_biter (Fn : Fun K "__iter__" "Book.__iter__" s_Book___iter__ f fd) (X : BookX K mg C) (it : mg "iter" = none) (hb : Binds K fd P_Book___iter__ []) : IterOk P w K mg base C f "ways" 1 := by
  intro A outer s H a t xs hr e0 ⟨dx, fs, ha, hl, ht⟩
  have b := hb s [.ref a] (e0.mod.kin.keeps fun b o e => (e0.bs b o e).1) rfl
  rw [List.append_nil] at b
  refine run_at (vs := [V.ref a]) Fn c_Book___iter__ hr e0 b (.cons rfl .nil) rfl fun cdv => ?_
  refine ⟨_, pss_one (ps_ret (pe_callB (id := "iter") cr_itT rfl it (by decide +kernel) (pa_cons (pe_fld (pe_var (i := 0) rfl (Or.inl rfl)) rfl) pa_nil rfl))), ?_⟩
  exact ⟨V.ref a, rfl, a, C, dx, fs, V.ref t, rfl, ha, X.cx.cls, X.nw, hl, t, xs, rfl, ht, fun it hi hn => ⟨it, rfl, hi, hn, rfl⟩⟩
end
end W1
set_option maxRecDepth 100000
set_option maxHeartbeats 4000000
set_option exponentiation.threshold 20000
namespace W1
open PySem PySem.Spec PyProof.Rows L2 NdefX TL NumText
theorem srt_mem_iff {gs : List Str} {g : Str} : g ∈ srt gs ↔ g ∈ gs := (srt_perm gs).mem_iff
section
variable {P : Program} {w : World} {K : PySem.W.Frag} {mg : Str → Option Value} {base : Heap} {W C M N D U V f : Addr} {fd : FuncData}
theorem kf_bway (Fn : Fun K "way" "Book.way" s_Book_way f fd) (X : BookX K mg C) (Tv : Ke P w K mg base V "BadWay" "at" 1 prInt) (len : mg "len" = none) : FnOk P w K mg base (L2.CX P w) 3 f fd P_Book_way (spM (pBWay C W V)) := by
  refine fn_ok Fn c_Book_way (fun _ _ _ _ ⟨_, _, _, _, h, _⟩ => by rw [h]; rfl) ?_
  rintro cdv A outer s H E ⟨_, G0, H0, M', _, tk⟩ hr rfl Rs ω o ω' ⟨gs, ys, i, hi, rfl, rfl, rfl, rfl⟩
  have cl := X.cx.cls
  have nw := X.nw
  have eL : ∀ {F : Fx} {ω : Ow}, Cop F ω (.builtin "len") [rTup (ys.map (rWy W))] (rInt ((ys.length : Nat) : Int)) := fun {F ω} => by
    have := cop_lenT (F := F) (ω := ω) (Rs := ys.map (rWy W))
    rw [List.length_map] at this
    exact this
  refine hb_if (b := !(decide (0 ≤ i) && decide (i < ((ys.length : Nat) : Int)))) (tr_not (tr_chain er_int (er_v 1 rfl rfl) bop_le (fun _ => er_bA (ar_cons (er_fld (er_v 0 rfl rfl) cl nw rfl) ar_nil) len bt_len eL) fun _ => bop_lt)) (fun hb => ?_) (fun hb => hb_nil ?_)
  · have h : ¬ (0 ≤ i ∧ i < ys.length) := fun z => by
      rw [decide_eq_true z.1, decide_eq_true z.2] at hb
      cases hb
    refine hb_err Tv (hr.mono (by decide)) (ar_cons (er_v 1 rfl rfl) ar_nil) ⟨_, [], by rw [if_neg h], fun _ _ _ h => h, rfl⟩ fun v G h => ⟨i, h, hi⟩
  · have h : 0 ≤ i ∧ i < ys.length := by
      rw [Bool.not_eq_false', Bool.and_eq_true] at hb
      exact ⟨of_decide_eq_true hb.1, of_decide_eq_true hb.2⟩
    refine hb_ret (er_ix (er_fld (er_v 0 rfl rfl) cl nw rfl) (er_v 1 rfl rfl) (iop_T (n := i.toNat) (by rw [List.length_map]; exact ixN_in h.1 h.2) (by rw [List.getElem?_map, getD_wy (by omega)]; rfl))) ⟨_, [], by rw [if_pos h], fun v G h => h, rfl⟩
theorem kf_bchk (Fn : Fun K "check_good" "Book.check_good" s_Book_check_good f fd) (X : BookX K mg C) (Tu : Ke P w K mg base U "UnknownName" "name" 1 prStr) : FnOk P w K mg base (L2.CX P w) 3 f fd P_Book_check_good (spM (pBChk C W U)) := by
  refine fn_ok Fn c_Book_check_good (fun _ _ _ _ ⟨_, _, _, _, h, _⟩ => by rw [h]; rfl) ?_
  rintro cdv A outer s H E ⟨_, G0, H0, M', _, tk⟩ hr rfl Rs ω o ω' ⟨gs, ys, g, hg, rfl, rfl, rfl, rfl⟩
  have cl := X.cx.cls
  have nn := X.nn
  refine hb_if (b := !decide (g ∈ srt gs)) (tr_cmp (er_v 1 rfl rfl) (er_fld (er_v 0 rfl rfl) cl nn rfl) (bop_niQ isq_T)) (fun hb => ?_) (fun hb => hb_nil (hb_nil ?_))
  · have h : ¬ g ∈ gs := fun z => by
      rw [decide_eq_true (srt_mem_iff.mpr z)] at hb
      cases hb
    exact hb_err Tu (hr.mono (by decide)) (ar_cons (er_v 1 rfl rfl) ar_nil) ⟨_, [], by rw [if_neg h], fun _ _ _ h => h, rfl⟩ fun v G h => ⟨g, h, Nat.le_trans hg (by decide)⟩
  · have h : g ∈ gs := srt_mem_iff.mp (by simpa using hb)
    exact ⟨rNon, [], by rw [if_pos h], fun _ => rfl, rfl⟩
theorem kf_bnet (Fn : Fun K "net" "Book.net" s_Book_net f fd) (X : BookX K mg C) (XW : WayX K mg W) (Tw : Km P w K mg base C "way" 3 (pBWay C W V)) (Tc : Km P w K mg base C "check_good" 3 (pBChk C W U)) (Tt : Km P w K mg base W "taken" 2 (pTaken W)) (Tm : Km P w K mg base W "made" 2 (pMade W)) : FnOk P w K mg base (L2.CX P w) 4 f fd P_Book_net (spM (pBNet C W U V)) := by
  refine fn_ok Fn c_Book_net (fun _ _ _ _ ⟨_, _, _, _, _, _, h, _⟩ => by rw [h]; rfl) ?_
  rintro cdv A outer s H E ⟨_, G0, H0, M', _, tk⟩ hr rfl Rs ω o ω' ⟨gs, ys, i, g, hi, hg, rfl, rfl, rfl, rfl⟩
  have nd := c_Book_net.nd
  have cl := X.cx.cls
  have clw := XW.cx.cls
  have r2 := hr.mono (show 2 ≤ 3 by decide)
  by_cases h : 0 ≤ i ∧ i < ys.length
  · rw [if_pos h]
    refine hb_setA (w1 := []) 3 rfl (er_m (R := rWy W (ys.getD i.toNat wy0)) Tw cl hr (er_v 0 rfl rfl) (ar_cons (er_v 1 rfl rfl) ar_nil) ⟨gs, ys, i, hi, rfl, rfl, rfl, by rw [if_pos h]⟩) ?_
    by_cases hm : g ∈ gs
    · rw [if_pos hm]
      refine hb_expr (w1 := []) (er_m (R := rNon) Tc cl hr (er_v 0 rfl rfl) (ar_cons (er_v 2 rfl rfl) ar_nil) ⟨gs, ys, g, hg, rfl, rfl, rfl, by rw [if_pos hm]⟩) ?_
      exact hb_ret (er_bin (er_m (pre := pMade W) Tm clw r2 (er_v 3 rfl rfl) (ar_cons (er_v 2 rfl rfl) ar_nil) ⟨_, _, _, g, rfl, rfl, rfl, rfl⟩) (er_m (pre := pTaken W) Tt clw r2 (er_v 3 rfl rfl) (ar_cons (er_v 2 rfl rfl) ar_nil) ⟨_, _, _, g, rfl, rfl, rfl, rfl⟩) bop_sub) ⟨_, [], rfl, fun v G h => h, rfl⟩
    · rw [if_neg hm]
      exact hb_exprX (w1 := []) (ex_m Tc cl hr (er_v 0 rfl rfl) (ar_cons (er_v 2 rfl rfl) ar_nil) ⟨gs, ys, g, hg, rfl, rfl, rfl, by rw [if_neg hm]⟩) ⟨_, [], rfl, fun _ _ _ h => h, rfl⟩
  · rw [if_neg h]
    exact hb_setX (w1 := []) 3 (ex_m Tw cl hr (er_v 0 rfl rfl) (ar_cons (er_v 1 rfl rfl) ar_nil) ⟨gs, ys, i, hi, rfl, rfl, rfl, by rw [if_neg h]⟩) ⟨_, [], rfl, fun _ _ _ h => h, rfl⟩ nd
end
end W1
set_option maxRecDepth 100000
set_option maxHeartbeats 4000000
set_option exponentiation.threshold 20000
namespace W1
open PySem PySem.Spec PyProof.Rows L2 NdefX TL NumText
/-! ### joint, makers -/
section
variable (C W : Addr)
end
section
variable {P : Program} {w : World} {K : PySem.W.Frag} {mg : Str → Option Value} {base : Heap} {W C M N D U V f : Addr} {fd : FuncData}
end
end W1
set_option maxRecDepth 100000
set_option maxHeartbeats 4000000
set_option exponentiation.threshold 20000
namespace W1
open PySem PySem.Spec PyProof.Rows L2 NdefX TL NumText
/-! ### [*a, ..], books made of books -/
section
variable {F : Fx} {ρ : Ty} {ω w1 w2 : Ow} {e : Expr} {es : List Expr} {A : Rl} {Rs Ss : List Rl} {p : Pos}
theorem ar_star (he : ER F ρ ω e A w1) (hA : IsSq F A w1 Rs) (hr : AR F ρ w1 es Ss w2) (hs : starEach (.Starred e p :: es) F.X.env = (true, eval e F.X.env) :: starEach es F.X.env := by rfl) : AR F ρ ω (.Starred e p :: es) (Rs ++ Ss) w2 := fun σ G H at_ sl Q q => by
  refine aw_of (StX.pa_star pe_w pa_w hs) (he σ G H at_ sl _ fun v G1 H1 s1 a1 r1 => ?_)
  obtain ⟨t, vs, rfl, h1, h2⟩ := hA v G1 H1 a1 r1
  exact ⟨t, vs, rfl, h1.symm, hr σ G1 H1 a1 (sl.up s1) _ fun us G2 H2 s2 a2 r2 => q _ G2 H2 (s1.trans s2) a2 ((h2.up s2).app r2)⟩
end
def newB (C W M N D U : Addr) (gs : List Str) (ys : List Wy) : Out := match bErr gs ys with | none => .ok (rBook C W gs ys) | some e => .error (errB M N D U e)
structure BkOk (gs : List Str) (ys : List Wy) : Prop where
  nm : ∀ g ∈ gs, g.length ≤ 640
  ok : ∀ y ∈ ys, WyOk y
  lg : gs.length ≤ 1000
  ly : ys.length ≤ 1000
theorem cutR_drop {α : Type} {f : α → Rl} {xs : List α} {k : Nat} (hk : k ≤ xs.length) : cutR (xs.map f) (some (k : Int)) none = (xs.drop k).map f := by
  unfold cutR
  rw [HT.sIx_nat, HT.sIx_none, List.length_map, Nat.min_eq_left hk, ← List.map_drop, List.take_of_length_le (by rw [List.length_map, List.length_drop]; exact Nat.le_refl _)]
section
variable {C W M N D U V : Addr}
def pBOut (C W M N D U V : Addr) : Pre := fun Rs w o w' => ∃ gs ys i, BkOk gs ys ∧ ys.length ≤ 8 ∧ i.natAbs.log2 < 1920 ∧ Rs = [rBook C W gs ys, rInt i] ∧ w = [] ∧ w' = [] ∧
  o = (if 0 ≤ i ∧ i < ys.length then (if ys.length = 1 then .error (erF M "n" (rInt 0)) else newB C W M N D U (srt gs) (ys.take i.toNat ++ ys.drop (i.toNat + 1))) else .error (erF V "at" (rInt i)))
end
section
variable {F : Fx} {ρ : Ty} {ω : Ow} {e1 e2 : Expr} {A1 A2 : Rl} {gs : List Str} {ys : List Wy} {C W M N D U : Addr} {rest : List Stmt} {p pos pos' : Pos}
theorem hb_retB (T : Kc F.X.prog F.X.w F.X.K F.X.mg F.X.base C "Book" 5 (pBookI C W M N D U)) (hr : Room 6 F.X.A) (ha : AR F ρ [] [e1, e2] [A1, A2] []) (v1 : SVar A1 [] (gs.map rStr)) (v2 : SVar A2 [] (ys.map (rWy W))) (ok : BkOk gs ys)
    (hg : Gl F.X "Book" := by rfl) (he : starEach [e1, e2] F.X.env = (false, eval e1 F.X.env) :: starEach [e2] F.X.env := by rfl) (hpl : (backTo pos (starEach [e2] F.X.env)).any (·.1) = false := by rfl) :
    HB F ρ [] (.Return (some (.Call (.Name "Book" p) [e1, e2] [] pos)) pos' :: rest) (Kf (newB C W M N D U gs ys) []) := by
  have lg := ok.lg
  have ly := ok.ly
  cases c : bErr gs ys with
  | none =>
    refine hb_ret (er_c (fs := bookF W gs ys) T hr ha (fun q => ⟨q, A1, gs, [], A2, ys, [], v1, v2, ok.nm, ok.ok, by omega, by omega, rfl, rfl, ?_⟩) (hg := hg) (he := he) (hpl := hpl)) ⟨_, [], by unfold newB; rw [c]; rfl, fun v G h => h, rfl⟩
    rw [c]
    exact ⟨rfl, rfl⟩
  | some x =>
    refine hb_retX (ex_c T hr ha (fun q => ⟨oIns C [], q, A1, gs, [], A2, ys, [], v1, v2, ok.nm, ok.ok, by omega, by omega, rfl, rfl, ?_⟩) errB_mo (hg := hg) (he := he) (hpl := hpl)) ⟨_, [], by unfold newB; rw [c], fun _ _ _ h => h, rfl⟩
    rw [c]
    exact ⟨rfl, rfl⟩
end
theorem srt_ok {gs : List Str} {ys zs : List Wy} (h : BkOk gs ys) (hz : ∀ y ∈ zs, WyOk y) (hl : zs.length ≤ 1000) : BkOk (srt gs) zs := ⟨fun g hg => h.nm g (srt_mem_iff.mp hg), hz, by rw [(srt_perm gs).length_eq]; exact h.lg, hl⟩
section
variable {P : Program} {w : World} {K : PySem.W.Frag} {mg : Str → Option Value} {base : Heap} {W C M N D U V f : Addr} {fd : FuncData} {tk2 : Tok}
theorem kf_bout (Fn : Fun K "without" "Book.without" s_Book_without f fd) (X : BookX K mg C) (Tb : Kc P w K mg base C "Book" 5 (pBookI C W M N D U)) (Tw : Km P w K mg base C "way" 3 (pBWay C W V)) (Tm : Ke P w K mg base M "BadNumber" "n" 1 prInt) (len : mg "len" = none) : FnOk P w K mg base (L2.CX P w) 7 f fd P_Book_without (spM (pBOut C W M N D U V)) := by
  refine fn_ok Fn c_Book_without (fun _ _ _ _ ⟨_, _, _, _, _, _, h, _⟩ => by rw [h]; rfl) ?_
  rintro cdv A outer s H E ⟨_, G0, H0, M', _, tk⟩ hr rfl Rs ω o ω' ⟨gs, ys, i, bk, l8, hi, rfl, rfl, rfl, rfl⟩
  have cl := X.cx.cls
  have nw := X.nw
  have nn := X.nn
  have eL : ∀ {F : Fx} {ω : Ow}, Cop F ω (.builtin "len") [rTup (ys.map (rWy W))] (rInt ((ys.length : Nat) : Int)) := fun {F ω} => by
    have := cop_lenT (F := F) (ω := ω) (Rs := ys.map (rWy W))
    rw [List.length_map] at this
    exact this
  by_cases h : 0 ≤ i ∧ i < ys.length
  · rw [if_pos h]
    refine hb_expr (w1 := []) (er_m (R := rWy W (ys.getD i.toNat wy0)) Tw cl (hr.mono (by decide)) (er_v 0 rfl rfl) (ar_cons (er_v 1 rfl rfl) ar_nil) ⟨gs, ys, i, hi, rfl, rfl, rfl, by rw [if_pos h]⟩) ?_
    refine hb_if (tr_cmp (er_bA (ar_cons (er_fld (er_v 0 rfl rfl) cl nw rfl) ar_nil) len bt_len eL) er_int bop_eqI) (fun hb => ?_) (fun hb => hb_nil ?_)
    · have h1 : ys.length = 1 := by have := of_decide_eq_true hb; omega
      rw [if_pos h1]
      exact hb_err Tm (hr.mono (by decide)) (ar_cons er_int ar_nil) ⟨_, [], rfl, fun _ _ _ h => h, rfl⟩ fun v G h => ⟨0, h, by decide⟩
    · have h1 : ¬ ys.length = 1 := by have := of_decide_eq_false hb; omega
      rw [if_neg h1]
      obtain ⟨k, rfl⟩ := Int.eq_ofNat_of_zero_le h.1
      have hk : k < ys.length := by omega
      have s1 : ∀ {F : Fx}, Sop F [] (rTup (ys.map (rWy W))) none (some (k : Int)) (rSq ((ys.take k).map (rWy W))) := fun {F} => by
        have := sop_Q (F := F) (w := []) (wc := []) (A := rTup (ys.map (rWy W))) (Rs := ys.map (rWy W)) (v := none) (u := some (k : Int)) (.inr (.inl ⟨rfl, rfl⟩)) (fun _ z => z)
        rw [cutR_take (Nat.le_of_lt hk)] at this
        exact this
      have s2 : ∀ {F : Fx}, Sop F [] (rTup (ys.map (rWy W))) (some ((k : Int) + 1)) none (rSq ((ys.drop (k + 1)).map (rWy W))) := fun {F} => by
        have := sop_Q (F := F) (w := []) (wc := []) (A := rTup (ys.map (rWy W))) (Rs := ys.map (rWy W)) (v := some (((k + 1 : Nat)) : Int)) (u := none) (.inr (.inl ⟨rfl, rfl⟩)) (fun _ z => z)
        rw [cutR_drop (by omega)] at this
        exact this
      refine hb_retB Tb hr (ar_cons (er_fld (er_v 0 rfl rfl) cl nn rfl) (ar_cons (er_lst (ar_star (er_slice (er_fld (er_v 0 rfl rfl) cl nw rfl) pr_none (pr_some (er_v 1 rfl rfl)) s1) isq_Q (ar_star (er_slice (er_fld (er_v 0 rfl rfl) cl nw rfl) (pr_some (er_bin (er_v 1 rfl rfl) er_int bop_add)) pr_none s2) isq_Q ar_nil)) ?_) ar_nil)) (.inr (.inl ⟨rfl, rfl⟩)) (.inl ⟨?_, rfl⟩) (srt_ok bk (fun z hz => ?_) ?_)
      · rw [List.length_append, List.length_append, List.length_map, List.length_map, List.length_take, List.length_drop, List.length_nil]; omega
      · rw [List.append_nil, List.map_append]; rfl
      · rcases List.mem_append.mp hz with hz | hz
        · exact bk.ok z (List.mem_of_mem_take hz)
        · exact bk.ok z (List.mem_of_mem_drop hz)
      · rw [List.length_append, List.length_take, List.length_drop]; omega
  · rw [if_neg h]
    exact hb_exprX (w1 := []) (ex_m Tw cl (hr.mono (by decide)) (er_v 0 rfl rfl) (ar_cons (er_v 1 rfl rfl) ar_nil) ⟨gs, ys, i, hi, rfl, rfl, rfl, by rw [if_neg h]⟩) ⟨_, [], rfl, fun _ _ _ h => h, rfl⟩
end
end W1
set_option maxRecDepth 100000
set_option maxHeartbeats 4000000
set_option exponentiation.threshold 20000
namespace W1
open PySem PySem.Spec PyProof.Rows L2 NdefX TL NumText
/-! ### only -/
section
variable {P : Program} {w : World} {K : PySem.W.Frag} {mg : Str → Option Value} {base : Heap} {W C M N D U V f : Addr} {fd : FuncData}
end
end W1
set_option maxRecDepth 100000
set_option maxHeartbeats 4000000
set_option exponentiation.threshold 20000
namespace W1
open PySem PySem.Spec PyProof.Rows L2 NdefX TL NumText
/-! ### pop, insert, clear of an owned list -/
section
variable {F : Fx} {ρ : Ty} {ω w w1 w2 : Ow} {o e e2 : Expr} {es : List Expr} {A R : Rl} {Rs : List Rl} {q : Addr} {K : Kn} {rest : List Stmt} {p apos pos : Pos} {O : Ol}
theorem All2.erase : ∀ {Rs : List Rl} {vs : List V} {H : Hp} (n : Nat), All2 Rs vs H → All2 (Rs.eraseIdx n) (vs.eraseIdx n) H
  | [], [], _, _, h => h
  | _ :: _, _ :: _, _, 0, ⟨_, h⟩ => h
  | _ :: _, _ :: _, _, n + 1, ⟨a, h⟩ => ⟨a, All2.erase n h⟩
  | [], _ :: _, _, _, h => h.elim
  | _ :: _, [], _, _, h => h.elim
theorem seq_in {i : Int} {n : Nat} (h0 : 0 ≤ i) (h1 : i < (n : Int)) : seqIndex? i n = some i.toNat := by
  unfold seqIndex?
  first
    | (rw [if_neg (by omega)]; simp; omega)
    | (simp; omega)
theorem er_popAt {i : Int} {k : Nat} (ho : ER F ρ ω o (rRef q) w1) (ha : ER F ρ w1 e (rInt i) ((q, oL Rs) :: w2)) (hm : (q, oL Rs) ∈ w1) (h0 : 0 ≤ i) (h1 : i < 2 ^ 62) (hk : seqIndex? i Rs.length = some k) (hR : Rs[k]? = some R)
    (hbase : attributeBase o "pop" F.X.env (eval o F.X.env) = eval o F.X.env := by rfl)
    (hfew : ((backTo p (starEach [e] F.X.env)).all (fun x => !x.1) && (backToKw p (keywordEach [] F.X.env)).all (fun x => x.1.isSome) && decide ([e].length + ([] : List Keyword).length + (if ([] : List Keyword).isEmpty then 0 else 1) < 30)) = true := by rfl)
    (hline : (apos.endLine == p.line) = true := by rfl) (hs : starEach [e] F.X.env = (false, eval e F.X.env) :: starEach [] F.X.env := by rfl) (hplain : (backTo p (starEach [] F.X.env)).any (·.1) = false := by rfl) :
    ER F ρ ω (.Call (.Attribute o "pop" apos) [e] [] p) R ((q, oL (Rs.eraseIdx k)) :: w2) := fun σ G H at_ sl Q r => by
  have ha2 : AR F ρ w1 [e] [rInt i] ((q, oL Rs) :: w2) := ar_cons ha ar_nil hs
  refine ew_of (pe_bm (T := "list") PySem.F.plainAttrs_list PySem.F.slot_list_pop PySem.F.type_list_pop mt_popAt pe_w pa_w hbase hfew hline hs hplain) (ho σ G H at_ sl _ fun x G1 H1 s1 a1 r1 => ?_)
  cases (show x = V.ref q from r1)
  obtain ⟨_, _, ob, h1', vs, e1, _⟩ := a1.ow _ hm
  subst e1
  refine ⟨.inl ⟨rfl, vs, SqL.of h1'⟩, ha2 σ G1 H1 a1 (sl.up s1) _ fun us G2 H2 s2 a2 r2 => ?_⟩
  obtain ⟨v, rfl, rv⟩ := all1 r2
  cases (show v = V.int i from rv)
  obtain ⟨_, _, ob, h3, ws, e3, h4⟩ := a2.ow _ List.mem_cons_self
  subst e3
  obtain ⟨y, hy, ry⟩ := h4.get hR
  refine ⟨q, ws, i, k, y, rfl, rfl, h3, by omega, by omega, ?_, hy, r y G2 _ (s1.trans s2) (a2.chg ⟨_, rfl, h4.erase k⟩) ry⟩
  rw [← h4.len]
  exact hk
end
end W1
set_option maxRecDepth 100000
set_option maxHeartbeats 4000000
set_option exponentiation.threshold 20000
namespace W1
open PySem PySem.Spec PyProof.Rows L2 NdefX TL NumText
/-! ### a comprehension as a new list; makers as a new list -/
section
variable {F : Fx} {ρ : Ty} {ω w1 : Ow} {tg it elt c : Expr} {pos spos : Pos} {scope : Scope} {own : List (Str × Nat)} {g : TG} {ifs : List Expr} {α : Type}
theorem lc_genN {xs : List α} {A B : α → Rl} {p : α → Bool} {wi : TI} {tt : TT} {ρ' : α → Ty}
    (hwi : ∀ σ G H, At F ω G H → Slots ρ σ G → ∀ R : It → Hp → Prop, (∀ J G2 H2, Same G G2 → At F w1 G2 H2 → Yld J (xs.map A) G2 → R J H2) → wi σ H R) (hz : xs.length ≤ 100000)
    (hge : ∀ (i : Nat) a, xs[i]? = some a → GEw g (own.map (·.2)) ρ (A a) (ρ' a))
    (htt : ∀ (i : Nat) a, xs[i]? = some a → ∀ d σ2 G H, At F (d :: w1) G H → Slots (ρ' a) σ2 G → ∀ Q : Bool → Hp → Prop, (∀ G3 H3, Same G G3 → At F (d :: w1) G3 H3 → Q (p a) H3) → tt σ2 H Q)
    (he : ∀ (i : Nat) a, xs[i]? = some a → p a = true → ∀ s H0 C cl fp d, ER (blkF F s H0 scope C cl fp) (ρ' a) (d :: w1) elt (B a) (d :: w1))
    {σ : L2.St} {G H : Hp} (at_ : At F ω G H) (sl : Slots ρ σ G) {Q : VK} (q : ∀ D G2 H2, D ∉ F.M → Same G G2 → At F ((D, oL ((xs.filter p).map B)) :: w1) G2 H2 → Q (.ref D) H2) :
    tLc wi g tt (fun σ H Q => ∀ s H0 C cl fp, EW (F.X.blk s H0 scope (compEnvC scope cl C F.X.env) fp) elt σ H Q) (own.map (·.2)) σ H Q := by
  refine hwi σ G H at_ sl _ fun J G2 H2 s2 a2 y2 => fun D hD => ?_
  have hM : D ∉ F.M := fun hm => a2.mm D hm hD
  refine ⟨fun i m H => m = xs.length - i ∧ i ≤ xs.length ∧ ∃ G, At F ((D, oL (((xs.take i).filter p).map B)) :: w1) G H ∧ Same G2 G, ⟨xs.length, by simp, Nat.zero_le _, G2, a2.own hD ⟨[], rfl, trivial⟩, Same.refl _⟩, ?_⟩
  rintro i m H1 ⟨rfl, hi, G1, a1, s1⟩
  have hlen : (xs.map A).length = xs.length := List.length_map _
  by_cases hlt : i < xs.length
  · have hgo : xs[i]? = some xs[i] := List.getElem?_eq_getElem hlt
    have htake : xs.take (i + 1) = xs.take i ++ [xs[i]] := by rw [List.take_add_one, hgo]; rfl
    refine .inr ⟨y2.go i G1 H1 s1 a1.gh (by rw [hlen]; exact hlt), fun H' => ∃ G, At F ((D, oL (((xs.take (i + 1)).filter p).map B)) :: w1) G H' ∧ Same G2 G, fun H' z => ⟨xs.length - (i + 1), by omega, rfl, hlt, z⟩, fun x H' y => ?_⟩
    obtain ⟨G3, st, rx⟩ := y2.yld i (A xs[i]) G1 H1 x H' s1 a1.gh (by rw [List.getElem?_map, hgo]; rfl) y
    have a3 := a1.step st
    have s3 := s1.trans st.gg
    refine hge i _ hgo x σ G3 H' _ a3.gh ((sl.up s2).up s3) rx fun σ2 hw sl2 => ⟨hw, htt i _ hgo _ σ2 G3 H' a3 sl2 _ fun G4 H4 s4 a4 => ?_⟩
    cases hp : p xs[i] with
    | false =>
      refine iteF ⟨G4, ?_, s3.trans s4⟩
      rw [htake, List.filter_append, List.filter_cons, hp]
      simp only [Bool.false_eq_true, if_false, List.filter_nil, List.append_nil]
      exact a4
    | true =>
      refine iteT fun s H0 C cl fp => he i _ hgo hp s H0 C cl fp _ σ2 G4 H4 a4.to (sl2.up s4) _ fun v G5 H5 s5 a5' r5 => ?_
      have a5 : At F ((D, oL (((xs.take i).filter p).map B)) :: w1) G5 H5 := a5'.to
      obtain ⟨_, _, o, h1, vs, rfl, h2⟩ := a5.ow _ List.mem_cons_self
      have hl2 : vs.length ≤ xs.length := by
        rw [← h2.len, List.length_map]
        exact Nat.le_trans (List.length_filter_le _ _) (List.length_take_le _ _ |> fun z => Nat.le_trans z hi)
      refine ⟨vs, h1, Nat.lt_of_le_of_lt (Nat.le_trans hl2 hz) (by decide), G5, ?_, (s3.trans s4).trans s5⟩
      rw [htake, List.filter_append, List.filter_cons, hp]
      simp only [if_true, List.filter_nil, List.map_append, List.map_cons, List.map_nil]
      exact a5.chg ⟨_, rfl, h2.app (mk1 r5)⟩
  · have e : i = xs.length := by omega
    subst e
    refine .inl ⟨by have := y2.stop G1 H1 s1 a1.gh; rw [hlen] at this; exact this, ?_⟩
    rw [List.take_length] at a1
    exact q D G1 H1 hM (s2.trans s1) a1
end
section
variable {P : Program} {w : World} {K : PySem.W.Frag} {mg : Str → Option Value} {base : Heap} {W C M N D U V f : Addr} {fd : FuncData}
end
end W1
set_option maxRecDepth 100000
set_option maxHeartbeats 4000000
set_option exponentiation.threshold 20000
namespace W1
open PySem PySem.Spec PyProof.Rows L2 NdefX TL NumText
local macro_rules | `(tactic| walk_at "side") => `(tactic| first | assumption | rfl | decide | omega | (simp only [List.length_map, List.length_cons, List.length_nil, List.length_append, List.length_range, decide_eq_true_eq, decide_eq_false_iff_not, Bool.not_eq_true', Bool.and_eq_true, Bool.or_eq_false_iff] at *; omega))
local macro_rules | `(tactic| walk_at "room") => `(tactic| first | assumption | exact Room.mono (by assumption) (by decide))
local macro_rules | `(tactic| walk_at "pre") => `(tactic| first | assumption | exact ⟨_, by walk_at "side", rfl, rfl, rfl, rfl⟩)
local macro_rules | `(tactic| walk_at "nm") => `(tactic| first
  | exact er_v 0 (by exact rfl) (by exact rfl) | exact er_v 1 (by exact rfl) (by exact rfl) | exact er_v 2 (by exact rfl) (by exact rfl) | exact er_v 3 (by exact rfl) (by exact rfl) | exact er_v 4 (by exact rfl) (by exact rfl) | exact er_v 5 (by exact rfl) (by exact rfl) | exact er_v 6 (by exact rfl) (by exact rfl) | exact er_v 7 (by exact rfl) (by exact rfl)
  | exact er_v 8 (by exact rfl) (by exact rfl) | exact er_v 9 (by exact rfl) (by exact rfl) | exact er_v 10 (by exact rfl) (by exact rfl) | exact er_v 11 (by exact rfl) (by exact rfl) | exact er_v 12 (by exact rfl) (by exact rfl) | exact er_v 13 (by exact rfl) (by exact rfl) | exact er_v 14 (by exact rfl) (by exact rfl) | exact er_v 15 (by exact rfl) (by exact rfl)
  | exact er_gS (by assumption) | exact er_gI (by assumption) | exact er_gC (by assumption))
local macro_rules | `(tactic| walk_at "bt") => `(tactic| with_reducible first | exact bt_len | exact bt_int | exact bt_str | exact bt_list | exact bt_sorted | exact bt_all | exact bt_isi | exact bt_abs | exact bt_bool | exact bt_tup)
local macro_rules | `(tactic| walk_at "bop") => `(tactic| first
  | with_reducible exact bop_add | with_reducible exact bop_sub | with_reducible exact bop_lt | with_reducible exact bop_le | with_reducible exact bop_gt | with_reducible exact bop_ge | with_reducible exact bop_eqI | with_reducible exact bop_neI | with_reducible exact bop_eqS | with_reducible exact bop_neS | with_reducible exact bop_inC | with_reducible exact bop_niC2 | with_reducible exact bop_isN | with_reducible exact bop_notN
  | (with_reducible apply bop_mod); walk_at "side"
  | (with_reducible apply bop_mul); first | exact IntMulOk.of_right (by decide) | exact IntMulOk.of_left (by decide) | walk_at "side"
  | (with_reducible apply bop_fdiv); walk_at "side"
  | (with_reducible apply bop_pow); walk_at "side"
  | (with_reducible apply bop_addS); walk_at "side"
  | (with_reducible apply bop_cat); walk_at "side"
  | assumption)
local macro_rules | `(tactic| walk_at "cop") => `(tactic| first
  | with_reducible exact cop_lenL | with_reducible exact cop_lenT | with_reducible exact cop_int | with_reducible exact cop_abs | with_reducible exact cop_bool | with_reducible exact cop_intB | with_reducible exact cop_listL | with_reducible exact cop_listT | with_reducible exact cop_tupL
  | (with_reducible apply cop_lenStr); walk_at "side"
  | (with_reducible apply cop_strI); walk_at "side"
  | (with_reducible apply cop_intS) <;> walk_at "side"
  | (with_reducible apply cop_sortedS); walk_at "side"
  | (with_reducible apply cop_isIns); assumption
  | (with_reducible apply cop_all); rfl
  | exact cop_lenS
  | (with_reducible apply cop_lenD); walk_at "isd"
  | (with_reducible apply cop_listD); first | rfl | walk_at "isd"
  | assumption)
local macro_rules | `(tactic| walk_at "isd") => `(tactic| first | assumption | exact isd_frz | exact isd_own List.mem_cons_self | exact isd_own (List.mem_cons_of_mem _ List.mem_cons_self) | exact isd_own (by simp) | exact isd_ownF (by simp))
local macro_rules | `(tactic| walk_at "iop") => `(tactic| first | (with_reducible apply iop_L (n := 0)) <;> exact rfl | (with_reducible apply iop_L (n := 1)) <;> exact rfl | (with_reducible apply iop_L (n := 2)) <;> exact rfl | (with_reducible apply iop_L (n := 3)) <;> exact rfl | (with_reducible apply iop_T (n := 0)) <;> exact rfl | (with_reducible apply iop_T (n := 1)) <;> exact rfl | (with_reducible apply iop_T (n := 2)) <;> exact rfl | assumption)
local macro_rules | `(tactic| walk_at "ar") => `(tactic| first | (with_reducible show AR _ _ _ [] _ _); exact ar_nil | exact ar_cons (by walk_at "er") (by walk_at "ar"))
local macro_rules | `(tactic| walk_at "call") => `(tactic| first
  | exact er_fA (by assumption) (by walk_at "room") (by walk_at "ar") (by walk_at "pre")
  | exact er_bA (by walk_at "ar") (by assumption) (by walk_at "bt") (by walk_at "cop")
  | exact er_tA (by walk_at "ar") (by assumption) (by walk_at "bt") (by walk_at "cop")
  | exact er_f1 0 (by assumption) (by walk_at "room") (by walk_at "ar") (by exact rfl) (by walk_at "pre")
  | exact er_f1 1 (by assumption) (by walk_at "room") (by walk_at "ar") (by exact rfl) (by walk_at "pre")
  | exact er_f1 2 (by assumption) (by walk_at "room") (by walk_at "ar") (by exact rfl) (by walk_at "pre"))
local macro_rules | `(tactic| walk_at "meth") => `(tactic| first
  | exact er_m (by assumption) (by assumption) (by walk_at "room") (by walk_at "er") (by walk_at "ar") (by walk_at "pre")
  | exact er_m0 (by assumption) (by assumption) (by walk_at "room") (by walk_at "er") (by walk_at "pre"))
local macro_rules | `(tactic| walk_at "er") => `(tactic| first
  | (with_reducible show ER _ _ _ (Expr.Name _ _) _ _); walk_at "nm"
  | (with_reducible show ER _ _ _ (Expr.Constant (Const.int _) _ _) _ _); exact er_int
  | (with_reducible show ER _ _ _ (Expr.Constant (Const.str _) _ _) _ _); exact er_str
  | (with_reducible show ER _ _ _ (Expr.Constant (Const.bool _) _ _) _ _); exact er_bl
  | (with_reducible show ER _ _ _ (Expr.Constant _ _ _) _ _); exact er_non
  | (with_reducible show ER _ _ _ (Expr.BinOp _ _ _ _) _ _); exact er_bin (by walk_at "er") (by walk_at "er") (by walk_at "bop")
  | (with_reducible show ER _ _ _ (Expr.Compare _ _ _ _) _ _); exact er_cmp (by walk_at "er") (by walk_at "er") (by walk_at "bop")
  | (with_reducible show ER _ _ _ (Expr.Call (Expr.Name _ _) _ _ _) _ _); walk_at "call"
  | (with_reducible show ER _ _ _ (Expr.Call (Expr.Attribute _ _ _) _ _ _) _ _); walk_at "meth"
  | (with_reducible show ER _ _ _ (Expr.Attribute _ _ _) _ _); walk_at "attr"
  | (with_reducible show ER _ _ _ (Expr.Subscript _ (Expr.Slice _ _ _ _) _) _ _); walk_at "slice"
  | (with_reducible show ER _ _ _ (Expr.Subscript _ _ _) _ _); walk_at "ix"
  | (with_reducible show ER _ _ _ (Expr.BoolOp _ [_] _) _ _); exact er_one (by walk_at "er")
  | (with_reducible show ER _ _ _ (Expr.BoolOp BoolOp.And _ _) _ _); exact er_and (by walk_at "er") (fun _ => by walk_at "er")
  | (with_reducible show ER _ _ _ (Expr.BoolOp BoolOp.Or _ _) _ _); exact er_or (by walk_at "er") (fun _ => by walk_at "er")
  | (with_reducible show ER _ _ _ (Expr.UnaryOp UnaryOp.Not _ _) _ _); exact er_not (by walk_at "er")
  | (with_reducible show ER _ _ _ (Expr.UnaryOp _ _ _) _ _); exact er_un (by walk_at "er") (by walk_at "uop")
  | (with_reducible show ER _ _ _ (Expr.List _ _) _ _); exact er_lst (by walk_at "ar") (by exact Nat.le_of_ble_eq_true rfl)
  | (with_reducible show ER _ _ _ (Expr.Tuple _ _ _) _ _); exact er_tup (by walk_at "ar") (by exact Nat.le_of_ble_eq_true rfl)
  | (with_reducible show ER _ _ _ (Expr.Dict [] [] _) _ _); exact er_dict0
  | assumption)
local macro_rules | `(tactic| walk_at "uop") => `(tactic| exact uop_neg)
local macro_rules | `(tactic| walk_at "attr") => `(tactic| exact er_fld (by walk_at "er") (by assumption) (by assumption) (by exact rfl))
local macro_rules | `(tactic| walk_at "ix") => `(tactic| first | exact er_ix (by walk_at "er") (by walk_at "er") (by walk_at "iop") | exact er_ixO (by walk_at "er") (by walk_at "er") (by simp) (by exact rfl) (by exact rfl))
local macro_rules | `(tactic| walk_at "slice") => `(tactic| exact er_slice (by walk_at "er") (by walk_at "pr") (by walk_at "pr") (by walk_at "sop"))
local macro_rules | `(tactic| walk_at "pr") => `(tactic| first | with_reducible exact pr_none | exact pr_some (by walk_at "er"))
local macro_rules | `(tactic| walk_at "sop") => `(tactic| first | (with_reducible apply sop_str); walk_at "side" | with_reducible exact sop_L | exact sop_S)
local macro_rules | `(tactic| walk_at "pw") => `(tactic| first
  | (with_reducible apply tr_and1); walk_at "tr"
  | (with_reducible apply tr_or1); walk_at "tr"
  | (with_reducible show PWR _ _ _ (Expr.BoolOp BoolOp.And _ _) _ _); exact tr_and (by walk_at "tr") (fun _ => by walk_at "pw")
  | (with_reducible show PWR _ _ _ (Expr.BoolOp BoolOp.Or _ _) _ _); exact tr_or (by walk_at "tr") (fun _ => by walk_at "pw"))
local macro_rules | `(tactic| walk_at "tr") => `(tactic| first
  | (with_reducible show TR _ _ _ (Expr.BoolOp _ _ _) _ _); exact PWR.tr (by walk_at "pw")
  | (with_reducible apply tr_not); walk_at "tr"
  | (with_reducible show TR _ _ _ (Expr.Compare _ _ _ _) _ _); exact tr_cmp (by walk_at "er") (by walk_at "er") (by walk_at "bop")
  | exact tr_val (by walk_at "er") | assumption)
local macro_rules | `(tactic| walk_at "set") => `(tactic| first
  | refine hb_setA 0 (by exact rfl) (by walk_at "er") ?_ | refine hb_setA 1 (by exact rfl) (by walk_at "er") ?_ | refine hb_setA 2 (by exact rfl) (by walk_at "er") ?_ | refine hb_setA 3 (by exact rfl) (by walk_at "er") ?_ | refine hb_setA 4 (by exact rfl) (by walk_at "er") ?_ | refine hb_setA 5 (by exact rfl) (by walk_at "er") ?_
  | refine hb_setA 6 (by exact rfl) (by walk_at "er") ?_ | refine hb_setA 7 (by exact rfl) (by walk_at "er") ?_ | refine hb_setA 8 (by exact rfl) (by walk_at "er") ?_ | refine hb_setA 9 (by exact rfl) (by walk_at "er") ?_ | refine hb_setA 10 (by exact rfl) (by walk_at "er") ?_ | refine hb_setA 11 (by exact rfl) (by walk_at "er") ?_)
/-! ### the law's names -/
abbrev menuN : List Str := [Str.ofString "a", Str.ofString "b", Str.ofString "c", Str.ofString "x1", Str.ofString "x10", Str.ofString "y", Str.ofString "abcdefgh", Str.ofString "d9"]
abbrev LabS := List Str × List Str × Pool
def labI (b : LabS) : Nat := (drR b.2.2 (b.1.length : Int)).toNat
def labStep (b : LabS) : LabS := (b.1.eraseIdx (labI b), b.2.1 ++ [b.1.getD (labI b) Str.empty], drS b.2.2 (b.1.length : Int))
def labAt (s : Pool) : Nat → LabS
  | 0 => (menuN, [], s)
  | k + 1 => labStep (labAt s k)
def labG (n : Nat) (s : Pool) : List Str := (labAt s n).2.1
def labS (n : Nat) (s : Pool) : Pool := (labAt s n).2.2
theorem erase_perm {α : Type} : ∀ {l : List α} {i : Nat} {d : α}, i < l.length → (l.getD i d :: l.eraseIdx i).Perm l
  | [], _, _, h => absurd h (Nat.not_lt_zero _)
  | a :: l, 0, d, _ => List.Perm.refl _
  | a :: l, i + 1, d, h => by
    have ih := erase_perm (l := l) (i := i) (d := d) (Nat.lt_of_succ_lt_succ h)
    show (l.getD i d :: a :: l.eraseIdx i).Perm (a :: l)
    exact (List.Perm.swap _ _ _).trans (ih.cons a)
theorem erase_map {α β : Type} {f : α → β} : ∀ {l : List α} {i : Nat}, (l.map f).eraseIdx i = (l.eraseIdx i).map f
  | [], _ => rfl
  | _ :: _, 0 => rfl
  | a :: l, i + 1 => by
    show f a :: (l.map f).eraseIdx i = f a :: (l.eraseIdx i).map f
    rw [erase_map]
theorem lab_i {b : LabS} (h : 0 < b.1.length) : labI b < b.1.length := by
  have := drR_lt (s := b.2.2) (L := (b.1.length : Int)) (by omega)
  unfold labI
  omega
theorem lab_ok (s : Pool) : ∀ k, k ≤ 8 → ((labAt s k).2.1 ++ (labAt s k).1).Perm menuN ∧ (labAt s k).2.1.length = k ∧ (labAt s k).1.length = 8 - k
  | 0, _ => ⟨List.Perm.refl _, rfl, rfl⟩
  | k + 1, h => by
    obtain ⟨h1, h2, h3⟩ := lab_ok s k (by omega)
    have hi := lab_i (b := labAt s k) (by omega)
    refine ⟨?_, ?_, ?_⟩
    · show (((labAt s k).2.1 ++ [(labAt s k).1.getD (labI (labAt s k)) Str.empty]) ++ (labAt s k).1.eraseIdx (labI (labAt s k))).Perm menuN
      rw [List.append_assoc]
      exact ((erase_perm hi).append_left _).trans h1
    · show ((labAt s k).2.1 ++ [_]).length = k + 1
      rw [List.length_append, h2]
      rfl
    · show ((labAt s k).1.eraseIdx _).length = _
      rw [List.length_eraseIdx_of_lt hi]
      omega
structure Goods (gs : List Str) : Prop where
  nd : gs.Nodup
  sub : ∀ g ∈ gs, g ∈ menuN
theorem lab_goods {s : Pool} {n : Nat} (h : n ≤ 8) : Goods (labG n s) ∧ (labG n s).length = n := by
  obtain ⟨h1, h2, _⟩ := lab_ok s n h
  have nd : ((labAt s n).2.1 ++ (labAt s n).1).Nodup := h1.nodup_iff.mpr (by decide +kernel)
  exact ⟨⟨(List.nodup_append.mp nd).1, fun g hg => h1.mem_iff.mp (List.mem_append_left _ hg)⟩, h2⟩
def pLab : PreN := fun Rs w O w' => ∃ q s n, n ≤ 8 ∧ Rs = [rRef q, rInt ((n : Nat) : Int)] ∧ w = [(q, oPool s)] ∧ w' = [(q, oPool (labS n s))] ∧ O = oL ((labG n s).map rStr)
section
variable {P : Program} {w : World} {K : PySem.W.Frag} {mg : Str → Option Value} {base : Heap} {f : Addr} {fd : FuncData}
theorem kf_lab (Fn : Fun K "_law_labels" "_law_labels" s__law_labels f fd) (Td : Kf1 P w K mg base "_law_draw" 1 pDraw) (len : mg "len" = none) (rg : mg "range" = none) : FnOk P w K mg base (L2.CX P w) 2 f fd P__law_labels (spN pLab) := by
  refine fn_okN Fn c__law_labels (fun _ _ _ _ ⟨_, _, _, _, h, _⟩ => by rw [h]; rfl) ?_
  rintro cdv A outer s0 H E ⟨_, G0, H0, M', _, tk⟩ hr rfl Rs ω o ω' ⟨q, s, n, hn, rfl, rfl, rfl, rfl⟩
  have nd := c__law_labels.nd
  refine hb_setNA 2 rfl (en_lst (Rs := menuN.map rStr) (by walk_at "ar") (Nat.le_of_ble_eq_true rfl)) fun qm hM => ?_
  refine hb_setNA 3 rfl (en_lst (Rs := []) ar_nil (Nat.zero_le _)) fun qf hF => ?_
  refine hb_for (it_rng1 (ar_cons (er_v 1 rfl rfl) ar_nil) rfl rg (by omega)) (fun k ρ w1 => w1 = [(qf, oL ((labAt s k).2.1.map rStr)), (qm, oL ((labAt s k).1.map rStr)), (q, oPool (labAt s k).2.2)] ∧ ∃ z, ρ = [some (rRef q), some (rInt ((n : Nat) : Int)), some (rRef qm), some (rRef qf), z]) ⟨rfl, none, rfl⟩ ?_ ?_ (passes_of rfl) (pg_name (i := 4) nd rfl (Or.inl rfl))
  · rintro k ρ w1 S hS ⟨rfl, z, rfl⟩
    have hk : k < n := by
      have := (List.getElem?_eq_some_iff.mp hS).1
      rw [rng_len] at this
      omega
    obtain ⟨h1, h2, h3⟩ := lab_ok s k (by omega)
    have hi := lab_i (b := labAt s k) (by omega)
    have lt := drR_lt (s := (labAt s k).2.2) (L := ((labAt s k).1.length : Int)) (by omega)
    refine ⟨_, ge_name, ?_⟩
    have ln : Cop _ _ (.builtin "len") [rRef qm] (rInt (((labAt s k).1.map rStr).length : Int)) := cop_lenO (F := ⟨cxOf (L2.CX P w) P w K mg base N__law_labels "_law_labels" (defScope s__law_labels) f cdv A outer s0 H E, G0, H0, M', _, tk⟩) (w := [(qf, oL ((labAt s k).2.1.map rStr)), (qm, oL ((labAt s k).1.map rStr)), (q, oPool (labAt s k).2.2)]) (List.mem_cons_of_mem _ List.mem_cons_self)
    rw [List.length_map] at ln
    refine hb_append (Rs := (labAt s k).2.1.map rStr) (R := rStr ((labAt s k).1.getD (labI (labAt s k)) Str.empty)) (w2 := [(qm, oL ((labAt s (k + 1)).1.map rStr)), (q, oPool (labAt s (k + 1)).2.2)]) (er_v 3 rfl rfl) List.mem_cons_self (ar_perm (ar_cons (er_popAt (w2 := [(qf, oL ((labAt s k).2.1.map rStr)), (q, oPool (labAt s (k + 1)).2.2)]) (k := labI (labAt s k)) (er_v 2 rfl rfl) (er_perm (er_f1 2 Td hr (ar_cons (er_v 0 rfl rfl) (ar_cons (er_bA (ar_cons (er_v 2 rfl rfl) ar_nil) len bt_len ln) ar_nil)) rfl (drawOk (by omega) ?_)) (List.Perm.swap _ _ _)) (List.mem_cons_of_mem _ List.mem_cons_self) lt.1 ?_ ?_ ?_) ar_nil) ?_) ?_ (hb_nil ?_)
    · rw [h3]; exact Nat.lt_of_le_of_lt (by omega : ((8 - k : Nat) : Int).natAbs ≤ 8) (by decide)
    · omega
    · rw [List.length_map]
      exact seq_in lt.1 lt.2
    · rw [List.getElem?_map, List.getD_eq_getElem?_getD, List.getElem?_eq_getElem hi]
      rfl
    · rw [erase_map]
      exact List.Perm.swap _ _ _
    · rw [List.length_map]; omega
    · refine ⟨?_, _, rfl⟩
      show [(qf, oL ((labAt s k).2.1.map rStr ++ [rStr _])), _, _] = [(qf, oL (((labAt s k).2.1 ++ [_]).map rStr)), _, _]
      rw [List.map_append]
      rfl
  · rintro ρ w1 ⟨rfl, z, rfl⟩
    rw [rng_len]
    rw [show ((n : Nat) : Int).toNat = n from Int.toNat_natCast n]
    refine hb_perm (w2 := [(qf, oL ((labAt s n).2.1.map rStr)), (q, oPool (labAt s n).2.2), (qm, oL ((labAt s n).1.map rStr))]) ((List.Perm.swap _ _ _).cons _) (hb_nd fun hk => hb_ret (er_v 3 rfl rfl) ⟨qf, [(qm, _)], fun v G h => h, fun hm => ?_, rfl⟩)
    have hk : ([qf, q, qm] : List Addr).Nodup := hk
    have hm : qf ∈ [q] := hm
    rw [List.mem_singleton.mp hm] at hk
    exact (List.nodup_cons.mp hk).1 List.mem_cons_self
end
end W1
set_option maxRecDepth 100000
set_option maxHeartbeats 2000000
set_option exponentiation.threshold 20000
namespace W1
open PySem PySem.Spec PyProof.Rows L2 NdefX TL NumText
/-! ### amounts drawn -/
def amVs : List Int := [0, 1, 1, 2, 3, 10 ^ 20]
def amStep (M : Nat) (b : Am × Pool) (g : Str) : Am × Pool := if drR b.2 2 = 0 then (putA b.1 g (amVs.getD (drR (drS b.2 2) (M : Int)).toNat 0), drS (drS b.2 2) (M : Int)) else (b.1, drS b.2 2)
def amsF (M : Nat) (ns : List Str) (s : Pool) : Am × Pool := ns.foldl (amStep M) ([], s)
theorem amV_ok (i : Nat) : 0 ≤ amVs.getD i 0 ∧ amVs.getD i 0 ≤ 10 ^ 20 := by
  rcases Nat.lt_or_ge i 6 with h | h
  · match i, h with
    | 0, _ => decide
    | 1, _ => decide
    | 2, _ => decide
    | 3, _ => decide
    | 4, _ => decide
    | 5, _ => decide
    | n + 6, h => omega
  · rw [List.getD_eq_getElem?_getD, List.getElem?_eq_none (by exact h)]
    decide
theorem amStep_ok {M : Nat} {ns : List Str} {b : Am × Pool} {g : Str} (h : AmI ns b.1) (hg : g ∈ ns) : AmI ns (amStep M b g).1 := by
  unfold amStep
  split
  · exact h.put hg (amV_ok _)
  · exact h
theorem amsF_ok {M : Nat} {ns : List Str} {s : Pool} : AmI ns (amsF M ns s).1 := by
  have : ∀ (l : List Str) (b : Am × Pool), AmI ns b.1 → (∀ a ∈ l, a ∈ ns) → AmI ns (l.foldl (amStep M) b).1 := by
    intro l
    induction l with
    | nil => intro b h _; exact h
    | cons a l ih => intro b h hl; exact ih _ (amStep_ok h (hl a List.mem_cons_self)) fun c hc => hl c (List.mem_cons_of_mem _ hc)
  exact this ns _ AmI.nil fun _ h => h
def pAms : PreN := fun Rs w O w' => ∃ q ns s M, ns.length ≤ 64 ∧ 1 ≤ M ∧ M ≤ 6 ∧ Rs = [rRef q, rLst (ns.map rStr), rInt ((M : Nat) : Int)] ∧ w = [(q, oPool s)] ∧ w' = [(q, oPool (amsF M ns s).2)] ∧ O = oD (fsA (amsF M ns s).1)
section
variable {P : Program} {w : World} {K : PySem.W.Frag} {mg : Str → Option Value} {base : Heap} {W N B f : Addr} {fd : FuncData}
theorem kf_ams (Fn : Fun K "_law_amounts_of" "_law_amounts_of" s__law_amounts_of f fd) (Td : Kf1 P w K mg base "_law_draw" 1 pDraw) : FnOk P w K mg base (L2.CX P w) 2 f fd P__law_amounts_of (spN pAms) := by
  refine fn_okN Fn c__law_amounts_of (fun _ _ _ _ ⟨_, _, _, _, _, _, _, h, _⟩ => by rw [h]; rfl) ?_
  rintro cdv A outer s H E ⟨_, G0, H0, M', _, tk⟩ hr rfl Rs ω o ω' ⟨q, ns, sp, M, hn, hm1, hm2, rfl, rfl, rfl, rfl⟩
  have nd := c__law_amounts_of.nd
  refine hb_setNA 3 rfl en_dict (fun qd hM => ?_)
  refine hb_foldI (A := rStr) ns (amStep M) ([], sp) none 4 (fun b => AmI ns b.1) AmI.nil (fun b a h ha => amStep_ok h ha) (fun b z => [some (rRef q), some (rLst (ns.map rStr)), some (rInt ((M : Nat) : Int)), some (rRef qd), z]) (fun b => [(qd, oD (fsA b.1)), (q, oPool b.2)]) (it_lst (er_v 1 rfl rfl)) rfl rfl (fun b z R => rfl) ?_ ?_ (passes_of rfl) (pg_name (i := 4) nd rfl (Or.inl rfl))
  · rintro ⟨am, s1⟩ g hI hg
    have hi1 : AmI ns am := hI
    have lz : (fsA am).length ≤ 100000 := by
      unfold fsA
      rw [List.length_map]
      have := hi1.len
      omega
    have b1 := drR_lt (s := drS s1 2) (L := (M : Int)) (by omega)
    refine hb_if (tr_cmp (er_f1 1 Td (hr.mono (by decide)) (ar_cons (er_v 0 rfl rfl) (ar_cons er_int ar_nil)) rfl (drawOk (s := s1) (L := 2) (by decide) (by decide))) er_int bop_eqI) (fun hb => ?_) (fun hb => hb_nil (hb_nil ?_))
    · have hb := of_decide_eq_true hb
      refine hb_dput (k := .inr g) (fs := fsA am) (w3 := [(q, oPool (drS (drS s1 2) (M : Int)))]) (R := rInt (amVs.getD (drR (drS s1 2) (M : Int)).toNat 0)) (er_ix (er_lst (Rs := amVs.map rInt) (ar_cons er_int (ar_cons er_int (ar_cons er_int (ar_cons er_int (ar_cons er_int (ar_cons (er_bin er_int er_int (bop_pow ⟨by decide, by decide, by decide⟩)) ar_nil)))))) (Nat.le_of_ble_eq_true rfl)) (er_f1 1 Td (hr.mono (by decide)) (ar_cons (er_v 0 rfl rfl) (ar_cons (er_v 2 rfl rfl) ar_nil)) rfl (drawOk (s := drS s1 2) (L := (M : Int)) (by omega) (Nat.lt_of_le_of_lt (by omega : ((M : Nat) : Int).natAbs ≤ 6) (by decide)))) (iop_pickM (α := Int) (A := rInt) 0 b1.1 (Int.lt_of_lt_of_le b1.2 (by show (M : Int) ≤ 6; omega)))) (er_v 3 rfl rfl) (er_v 4 rfl rfl) hr lz (hb_nil (hb_nil ⟨?_, _, rfl⟩))
      show _ = [(qd, oD (fsA (amStep M (am, s1) g).1)), (q, oPool (amStep M (am, s1) g).2)]
      unfold amStep
      rw [if_pos hb, putK_A]
    · have hb := of_decide_eq_false hb
      refine ⟨?_, _, rfl⟩
      show _ = [(qd, oD (fsA (amStep M (am, s1) g).1)), (q, oPool (amStep M (am, s1) g).2)]
      unfold amStep
      rw [if_neg hb]
      rfl
  · intro z hI
    refine hb_nd fun hnd => hb_ret (er_v 3 rfl rfl) ⟨qd, [], fun _ _ h => h, fun hm => ?_, rfl⟩
    have : qd ∉ [q] := (List.nodup_cons.mp hnd).1
    exact this hm
end
end W1
set_option maxRecDepth 100000
set_option maxHeartbeats 4000000
set_option exponentiation.threshold 20000
namespace W1
open PySem PySem.Spec PyProof.Rows L2 NdefX TL NumText
/-! ### a row -/
def rRow (t : Am) (h : Int) (m : Am) : Rl := rLst [rDct (fsA t), rInt h, rDct (fsA m)]
abbrev rRw (y : Wy) : Rl := rRow y.1 y.2.1 y.2.2
def hrVs : List Int := [1, 1, 2, 3, 7]
def rowM (s : Pool) : Nat := 5 + if drR s 12 = 0 then 1 else 0
def rowT (gs : List Str) (s : Pool) : Am × Pool := amsF (rowM s) gs (drS s 12)
def rowK (gs : List Str) (s : Pool) : Am × Pool := amsF (rowM s) gs (rowT gs s).2
def rowE (gs : List Str) (mk : Am) (s : Pool) : Am × Int × Pool :=
  (putA mk (gs.getD (drR s gs.length).toNat Str.empty) (1 + drR (drS s gs.length) 4), hrVs.getD (drR (drS (drS s gs.length) 4) 5).toNat 0, drS (drS (drS s gs.length) 4) 5)
def rowF (gs : List Str) (pl : Bool) (s : Pool) : Wy × Pool :=
  let e := rowE gs (if pl then [] else (rowK gs s).1) (rowK gs s).2
  (((rowT gs s).1, e.2.1, e.1), e.2.2)
def pRow : Pre := fun Rs w o w' => ∃ q gs pl s, 0 < gs.length ∧ gs.length ≤ 8 ∧ gs.Nodup ∧ Rs = [rRef q, rLst (gs.map rStr), rBool pl] ∧ w = [(q, oPool s)] ∧ w' = [(q, oPool (rowF gs pl s).2)] ∧ o = .ok (rRw (rowF gs pl s).1)
section
variable {P : Program} {w : World} {K : PySem.W.Frag} {mg : Str → Option Value} {base : Heap} {f : Addr} {fd : FuncData}
end
end W1
set_option maxRecDepth 100000
set_option maxHeartbeats 4000000
set_option exponentiation.threshold 20000
namespace W1
open PySem PySem.Spec PyProof.Rows L2 NdefX TL NumText
section
variable {P : Program} {w : World} {K : PySem.W.Frag} {mg : Str → Option Value} {base : Heap} {f : Addr} {fd : FuncData}
theorem kf_row (Fn : Fun K "_law_row_of" "_law_row_of" s__law_row_of f fd) (Td : Kf1 P w K mg base "_law_draw" 1 pDraw) (Ta : KfN1 P w K mg base "_law_amounts_of" 2 pAms) (len : mg "len" = none) (int : mg "int" = none) : FnOk P w K mg base (L2.CX P w) 3 f fd P__law_row_of (spM pRow) := by
  refine fn_ok Fn c__law_row_of (fun _ _ _ _ ⟨_, _, _, _, _, _, _, h, _⟩ => by rw [h]; rfl) ?_
  rintro cdv A outer s0 H E ⟨_, G0, H0, M', Wx, tk⟩ hr rfl Rs ω o ω' ⟨q, gs, pl, s, hg0, hg8, hnd, rfl, rfl, rfl, rfl⟩
  have nd := c__law_row_of.nd
  have r1 := hr.mono (show 1 ≤ 2 by decide)
  have fin : ∀ (qt qx : Addr) (mk : Am), qt ∉ M' → qx ∉ M' → mk.length ≤ 64 → HB ⟨cxOf (L2.CX P w) P w K mg base N__law_row_of "_law_row_of" (defScope s__law_row_of) f cdv A outer s0 H E, G0, H0, M', Wx, tk⟩ [some (rRef q), some (rLst (gs.map rStr)), some (rBool pl), some (rInt ((rowM s : Nat) : Int)), some (rRef qt), some (rRef qx), none] [(qx, oD (fsA mk)), (qt, oD (fsA (rowT gs s).1)), (q, oPool (rowK gs s).2)] ((defBody s__law_row_of).drop 4)
      (Kf (.ok (rRow (rowT gs s).1 (rowE gs mk (rowK gs s).2).2.1 (rowE gs mk (rowK gs s).2).1)) [(q, oPool (rowE gs mk (rowK gs s).2).2.2)]) := by
    intro qt qx mk hqt hqx lm
    have b0 := drR_lt (s := (rowK gs s).2) (L := (gs.length : Int)) (by omega)
    have b2 := drR_lt (s := drS (drS (rowK gs s).2 gs.length) 4) (L := 5) (by decide)
    have ln : ∀ {F : Fx} {w : Ow}, Cop F w (.builtin "len") [rLst (gs.map rStr)] (rInt ((gs.length : Nat) : Int)) := fun {F w} => by
      have := cop_lenL (F := F) (ω := w) (Rs := gs.map rStr)
      rw [List.length_map] at this
      exact this
    refine hb_setA (w1 := [(qx, oD (fsA mk)), (qt, oD (fsA (rowT gs s).1)), (q, oPool (drS (rowK gs s).2 gs.length))]) 6 rfl (er_ix (er_v 1 rfl rfl) (er_f1 2 Td r1 (ar_cons (er_v 0 rfl rfl) (ar_cons (er_bA (ar_cons (er_v 1 rfl rfl) ar_nil) len bt_len ln) ar_nil)) rfl (drawOk (s := (rowK gs s).2) (L := (gs.length : Int)) (by omega) (Nat.lt_of_le_of_lt (by omega : ((gs.length : Nat) : Int).natAbs ≤ 8) (by decide)))) (iop_pickM (α := Str) (A := rStr) Str.empty b0.1 b0.2)) ?_
    refine hb_dput (k := .inr (gs.getD (drR (rowK gs s).2 gs.length).toNat Str.empty)) (fs := fsA mk) (w3 := [(qt, oD (fsA (rowT gs s).1)), (q, oPool (drS (drS (rowK gs s).2 gs.length) 4))]) (R := rInt (1 + drR (drS (rowK gs s).2 gs.length) 4)) (er_bin er_int (er_f1 2 Td r1 (ar_cons (er_v 0 rfl rfl) (ar_cons er_int ar_nil)) rfl (drawOk (s := drS (rowK gs s).2 gs.length) (L := 4) (by decide) (by decide))) bop_add) (er_v 5 rfl rfl) (er_v 6 rfl rfl) hr (by unfold fsA; rw [List.length_map]; omega) ?_
    rw [putK_A]
    refine hb_pubD 5 rfl hqx (hb_pubD 4 rfl hqt ?_)
    exact hb_ret (er_lst (Rs := [rDct (fsA (rowT gs s).1), rInt (hrVs.getD (drR (drS (drS (rowK gs s).2 gs.length) 4) 5).toNat 0), rDct (fsA (putA mk (gs.getD (drR (rowK gs s).2 gs.length).toNat Str.empty) (1 + drR (drS (rowK gs s).2 gs.length) 4)))]) (ar_cons (er_v 4 rfl rfl) (ar_cons (er_ix (er_lst (Rs := hrVs.map rInt) (ar_cons er_int (ar_cons er_int (ar_cons er_int (ar_cons er_int (ar_cons er_int ar_nil))))) (Nat.le_of_ble_eq_true rfl)) (er_f1 0 Td r1 (ar_cons (er_v 0 rfl rfl) (ar_cons er_int ar_nil)) rfl (drawOk (s := drS (drS (rowK gs s).2 gs.length) 4) (L := 5) (by decide) (by decide))) (iop_pickM (α := Int) (A := rInt) 0 b2.1 b2.2)) (ar_cons (er_v 5 rfl rfl) ar_nil))) (Nat.le_of_ble_eq_true rfl)) ⟨_, [], rfl, fun v G h => h, rfl⟩
  have hM5 : 1 ≤ rowM s := by unfold rowM; omega
  have hM6 : rowM s ≤ 6 := by unfold rowM; split <;> omega
  have lK : (rowK gs s).1.length ≤ 64 := by
    have := (amsF_ok (M := rowM s) (ns := gs) (s := (rowT gs s).2)).len
    exact Nat.le_trans this (by omega)
  refine hb_setA (w1 := [(q, oPool (drS s 12))]) 3 rfl (er_eq (S := rInt ((rowM s : Nat) : Int)) (er_bin er_int (er_tA (ar_cons (er_cmp (er_f1 0 Td r1 (ar_cons (er_v 0 rfl rfl) (ar_cons er_int ar_nil)) rfl (drawOk (s := s) (L := 12) (by decide) (by decide))) er_int bop_eqI) ar_nil) int bt_int cop_intB) bop_add) ?_) ?_
  · congr 1
    unfold rowM
    by_cases z : drR s 12 = 0
    · rw [if_pos z, decide_eq_true z]; rfl
    · rw [if_neg z, decide_eq_false z]; rfl
  refine hb_setNA 4 rfl (en_f1 0 Ta hr (ar_cons (er_v 0 rfl rfl) (ar_cons (er_v 1 rfl rfl) (ar_cons (er_v 3 rfl rfl) ar_nil))) rfl ⟨q, gs, drS s 12, rowM s, by omega, hM5, hM6, rfl, rfl, rfl, rfl⟩) fun qt hqt => ?_
  refine hb_setNA 5 rfl (en_f1 1 Ta hr (ar_cons (er_v 0 rfl rfl) (ar_cons (er_v 1 rfl rfl) (ar_cons (er_v 3 rfl rfl) ar_nil))) rfl ⟨q, gs, (rowT gs s).2, rowM s, by omega, hM5, hM6, rfl, rfl, rfl, rfl⟩) fun qx hqx => ?_
  cases pl with
  | true =>
    refine hb_if (b := true) (tr_val (er_v 2 rfl rfl)) (fun _ => ?_) (fun z => Bool.noConfusion z)
    refine hb_setNA 5 rfl en_dict fun qn hqn => hb_nil ?_
    exact hb_perm (List.Perm.swap _ _ _) (hb_drop (fin qt qn [] hqt hqn (Nat.zero_le _)))
  | false =>
    refine hb_if (b := false) (tr_val (er_v 2 rfl rfl)) (fun z => Bool.noConfusion z) (fun _ => hb_nil ?_)
    exact fin qt qx (rowK gs s).1 hqt hqx lK
end
end W1
set_option maxRecDepth 100000
set_option maxHeartbeats 4000000
set_option exponentiation.threshold 20000
namespace W1
open PySem PySem.Spec PyProof.Rows L2 NdefX TL NumText
/-! ### a book, or what is wrong -/
/-- the four classes of errors: each is taken by its own clause alone -/
structure Err4 (K : PySem.W.Frag) (mg : Str → Option Value) (M N D U : Addr) : Prop where
  gM : mg "BadNumber" = some (.ref M)
  gN : mg "BadName" = some (.ref N)
  gD : mg "DuplicateName" = some (.ref D)
  gU : mg "UnknownName" = some (.ref U)
  xM : XfC K M
  xN : XfC K N
  xD : XfC K D
  xU : XfC K U
  nM : PySem.W.findIn K (.ref M) "n" = some none
  nN : PySem.W.findIn K (.ref N) "name" = some none
  nD : PySem.W.findIn K (.ref D) "name" = some none
  nU : PySem.W.findIn K (.ref U) "name" = some none
  tMM : PySem.W.exmOne K (.ref M) (.ref M) = some true
  tNN : PySem.W.exmOne K (.ref N) (.ref N) = some true
  tDD : PySem.W.exmOne K (.ref D) (.ref D) = some true
  tUU : PySem.W.exmOne K (.ref U) (.ref U) = some true
  tNM : PySem.W.exmOne K (.ref N) (.ref M) = some false
  tDM : PySem.W.exmOne K (.ref D) (.ref M) = some false
  tDN : PySem.W.exmOne K (.ref D) (.ref N) = some false
  tUM : PySem.W.exmOne K (.ref U) (.ref M) = some false
  tUN : PySem.W.exmOne K (.ref U) (.ref N) = some false
  tUD : PySem.W.exmOne K (.ref U) (.ref D) = some false
section
variable {P : Program} {w : World} {K : PySem.W.Frag} {mg : Str → Option Value} {base : Heap} {W C M N D U f : Addr} {fd : FuncData}
end
end W1
set_option maxRecDepth 100000
set_option maxHeartbeats 4000000
set_option exponentiation.threshold 20000
namespace W1
open PySem PySem.Spec PyProof.Rows L2 NdefX TL NumText
/-! ### one way more, some ways -/
section
variable {P : Program} {w : World} {K : PySem.W.Frag} {mg : Str → Option Value} {base : Heap} {W C M N D U V f : Addr} {fd : FuncData}
end
end W1
set_option maxRecDepth 100000
set_option maxHeartbeats 4000000
set_option exponentiation.threshold 20000
namespace W1
open PySem PySem.Spec PyProof.Rows L2 NdefX TL NumText
/-- BadWay beside BadNumber -/
structure ErrV (K : PySem.W.Frag) (mg : Str → Option Value) (M V : Addr) : Prop where
  gV : mg "BadWay" = some (.ref V)
  xV : XfC K V
  nV : PySem.W.findIn K (.ref V) "at" = some none
  tVV : PySem.W.exmOne K (.ref V) (.ref V) = some true
  tVM : PySem.W.exmOne K (.ref V) (.ref M) = some false
section
variable {P : Program} {w : World} {K : PySem.W.Frag} {mg : Str → Option Value} {base : Heap} {W C M N D U V f : Addr} {fd : FuncData}
end
end W1
set_option maxRecDepth 100000
set_option maxHeartbeats 4000000
set_option exponentiation.threshold 20000
namespace W1
open PySem PySem.Spec PyProof.Rows L2 NdefX TL NumText
/-! ### a comprehension over three names of a list of three -/
theorem all3 {R S T : Rl} {vs : List V} {H : Hp} (h : All2 [R, S, T] vs H) : ∃ x y z, vs = [x, y, z] ∧ R.r x H ∧ S.r y H ∧ T.r z H := by
  cases vs with
  | nil => exact h.elim
  | cons x vs =>
    obtain ⟨hx, h⟩ := h
    obtain ⟨y, z, rfl, hy, hz⟩ := all2 h
    exact ⟨x, y, z, rfl, hx, hy, hz⟩
theorem gew_lst3 {K : PySem.W.Frag} {i j l : Nat} {ρ : Ty} {R S T : Rl} (hij : i ≠ j) (hil : i ≠ l) (hjl : j ≠ l) : GEw (gLst K 3 (gCons (gName i) (gCons (gName j) (gCons (gName l) gNil)))) [i, j, l] ρ (rLst [R, S, T]) ((((((ρ.set l none).set j none).set i none).set i (some R)).set j (some S)).set l (some T)) := fun v σ G H Q s sl r q => by
  obtain ⟨a, vs, rfl, h1, h2⟩ := r
  obtain ⟨x, y, z, rfl, hx, hy, hz⟩ := all3 h2
  refine ⟨a, [x, y, z], rfl, SqL.of (s _ _ h1), rfl, x, [y, z], rfl, y, [z], rfl, z, [], rfl, rfl, q _ ?_ ((((((sl.gone l).gone j).gone i).set i hx).set j hy).set l hz)⟩
  show ((((((((σ.set l none).set j none).set i none).set i (some x)).set j (some y)).set l (some z)).set l none).set j none).set i none = ((σ.set l none).set j none).set i none
  apply List.ext_getElem?
  intro n
  simp only [List.getElem?_set]
  simp only [List.length_set]
  by_cases h1 : i = n <;> by_cases h2 : j = n <;> by_cases h3 : l = n <;> simp_all
end W1
set_option maxRecDepth 100000
set_option maxHeartbeats 4000000
set_option exponentiation.threshold 20000
namespace W1
open PySem PySem.Spec PyProof.Rows L2 NdefX TL NumText
/-- a row that makes a way -/
structure RwOk (y : Wy) : Prop where
  g1 : AmG y.1
  g2 : AmG y.2.2
  hh : y.2.1.natAbs.log2 < 1920
  ok : wayE y.1 y.2.1 y.2.2 = none
def pBookOf (C W M N D U : Addr) : Pre := fun Rs w o w' => ∃ gs ys, BkOk gs ys ∧ (∀ y ∈ ys, RwOk y) ∧ Rs = [rLst (gs.map rStr), rLst (ys.map rRw)] ∧ w = [] ∧ w' = [] ∧ o = newB C W M N D U gs ys
section
variable {P : Program} {w : World} {K : PySem.W.Frag} {mg : Str → Option Value} {base : Heap} {W C M N D U V f : Addr} {fd : FuncData}
theorem kf_bookof (Fn : Fun K "_law_book_of" "_law_book_of" s__law_book_of f fd) (Tb : Kc P w K mg base C "Book" 5 (pBookI C W M N D U)) (Tw : Kc P w K mg base W "Way" 6 (pWayI W N M)) : FnOk P w K mg base (L2.CX P w) 8 f fd P__law_book_of (spM (pBookOf C W M N D U)) := by
  refine fn_ok Fn c__law_book_of (fun _ _ _ _ ⟨_, _, _, _, h, _⟩ => by rw [h]; rfl) ?_
  rintro cdv A outer s H E ⟨_, G0, H0, M', W', tk⟩ hr rfl Rs ω o ω' ⟨gs, ys, ok, hy, rfl, rfl, rfl, rfl⟩
  have nd := c__law_book_of.nd
  have ly := ok.ly
  refine hb_retB Tb (hr.mono (by decide)) (ar_cons (er_v 0 rfl rfl) (ar_cons (er_lc (xs := ys) (A := rRw) (B := rWy W) (it_lst (er_v 1 rfl rfl)) (by omega) [("_law_takes", 2), ("_law_hours", 3), ("_law_makes", 4)] (blkOk_by (N := N__law_book_of) (sc := defScope s__law_book_of) (by decide +kernel)) (fun _ _ _ _ _ => pg_lst rfl (pgs_cons (pg_name (i := 2) nd rfl (Or.inl rfl)) (pgs_cons (pg_name (i := 3) nd rfl (Or.inl rfl)) (pgs_cons (pg_name (i := 4) nd rfl (Or.inl rfl)) pgs_nil)))) (fun i y hi => gew_lst3 (by decide) (by decide) (by decide)) (fun i y hi s1 H1 cc cl fp d => ?_) nd) ar_nil)) (.inl ⟨rfl, rfl⟩) (.inl ⟨rfl, rfl⟩) ok
  have r := hy y (List.mem_of_getElem? hi)
  exact er_cS (wc := []) (fs := wayF y.1 y.2.1 y.2.2) Tw hr (ar_cons (er_v 2 rfl rfl) (ar_cons (er_v 3 rfl rfl) (ar_cons (er_v 4 rfl rfl) ar_nil))) Sub.nil fun q => ⟨q, _, y.1, [], _, y.2.2, [], y.2.1, .inl ⟨rfl, rfl⟩, .inl ⟨rfl, rfl⟩, r.g1, r.g2, r.hh, rfl, rfl, by rw [r.ok]; exact ⟨rfl, rfl⟩⟩
end
end W1
set_option maxRecDepth 100000
set_option maxHeartbeats 4000000
set_option exponentiation.threshold 20000
namespace W1
open PySem PySem.Spec PyProof.Rows L2 NdefX TL NumText
section
variable {F : Fx} {ρ : Ty} {ω w w1 w2 : Ow} {a b c e : Expr} {es : List Expr} {A R S : Rl} {K : Kn} {rest : List Stmt} {pos : Pos} {x y z : Str} {k : Nat} {Φ : Rl → Ow → Prop} {Ψ : List Rl → Ow → Prop}
theorem hb_ifJ {th : List Stmt} {b : Bool} (J : Ty → Ow → Prop) (hc : TR F ρ ω c b w1) (h1 : b = true → HB F ρ w1 th { K with nx := J }) (h2 : b = false → J ρ w1) (hr : ∀ ρ' w', J ρ' w' → HB F ρ' w' rest K) : HB F ρ ω (.If c th [] pos :: rest) K :=
  hb_if hc (fun e => fun σ G H D at_ sl ps => h1 e σ G H D at_ sl ⟨fun ρ' w' k => ps.nx ρ' w' (hr ρ' w' k), ps.rt, ps.bk, ps.ct, ps.ex⟩) fun e => hb_nil (hr _ _ (h2 e))
end
section
variable {F : Fx} {ρ : Ty} {ω w w1 w2 w3 : Ow} {e o ix it elt : Expr} {R S : Rl} {Rs : List Rl} {K : Kn} {rest : List Stmt} {pos p spos py : Pos} {x y : Str} {q : Addr} {Φ : Rl → Ow → Prop} {scope : Scope}
theorem hb_setGc (l : Nat) (i : Nat) (hi : F.X.N[i]? = some x) (hpg : ∀ (s : Shared) (H : Hp) (C : Addr) (cl : List (Str × Addr)) (fp : List Addr), PG (F.X.blk s H scope (compEnvC scope cl C F.X.env) fp) (.Name x p) (gName i))
    (ok : BlkOk F.X.N F.X.env.scope scope [(x, i)]) (hit : IT F ρ ω (.Name x p) it Rs w1) (hz : Rs.length ≤ 100000) (I : Nat → List Rl → Ow → Prop) (h0 : I 0 [] w1)
    (he : ∀ (j : Nat) S Bs w, Rs[j]? = some S → I j Bs w → ∀ s H0 C cl fp d, EG (blkF F s H0 scope C cl fp) ((ρ.set i none).set i (some S)) (d :: w) elt fun R w' => ∃ w2, w'.Perm (d :: w2) ∧ I (j + 1) (Bs ++ [R]) w2)
    (hl : ∀ j Bs w, I j Bs w → Bs.length = j) (hf : ∀ Bs w, I Rs.length Bs w → HB F (ρ.set l (some (rLst Bs))) w rest K)
    (hN : F.X.N.Nodup) (hsw : swapsWith (.ListComp elt [⟨.Name x p, it, [], 0⟩] scope pos) (some (.Name y py)) spos.line F.X.env = pure true) (hc : F.X.calm = true := by rfl) (hy : F.X.N[l]? = some y := by rfl) (hyl : F.X.env.scope.names.lookup y = some .local := by rfl) (hs : ∀ z, foldedSetIterable it F.X.env z = pure z := by intro _; rfl) :
    HB F ρ ω (.Assign [.Name y py] (.ListComp elt [⟨.Name x p, it, [], 0⟩] scope pos) spos :: rest) K := hb_cons fun σ G H De at_ sl ps => by
  obtain ⟨wi, hpi, hwi⟩ := hit
  refine sw_of (ps_setLc hc hN hy hyl hsw hpi ok hpg (fun _ _ _ _ _ => pts_nil) (te := fun σ H Q => ∀ s H0 C cl fp, EW (F.X.blk s H0 scope (compEnvC scope cl C F.X.env) fp) elt σ H Q) (fun _ _ _ _ _ => ⟨fun pins s σ H Q I h => h _ _ _ _ _ pins s I⟩) hs) ?_
  refine hwi σ G H at_ sl _ fun J G2 H2 s2 a2 y2 => fun D hD => ?_
  have hM : D ∉ F.M := fun hm => a2.mm D hm hD
  refine ⟨fun j m H => m = Rs.length - j ∧ j ≤ Rs.length ∧ ∃ G Bs w, At F ((D, oL Bs) :: w) G H ∧ Same G2 G ∧ I j Bs w, ⟨Rs.length, by simp, Nat.zero_le _, G2, [], w1, a2.own hD ⟨[], rfl, trivial⟩, Same.refl _, h0⟩, ?_⟩
  rintro j m H1 ⟨rfl, hj, G1, Bs, w, a1, s1, inv⟩
  by_cases hlt : j < Rs.length
  · have hgo : Rs[j]? = some Rs[j] := List.getElem?_eq_getElem hlt
    refine .inr ⟨y2.go j G1 H1 s1 a1.gh hlt, fun H' => ∃ G Bs w, At F ((D, oL Bs) :: w) G H' ∧ Same G2 G ∧ I (j + 1) Bs w, fun H' z => ⟨Rs.length - (j + 1), by omega, rfl, hlt, z⟩, fun v H' y => ?_⟩
    obtain ⟨G3, st, rx⟩ := y2.yld j Rs[j] G1 H1 v H' s1 a1.gh hgo y
    have a3 := a1.step st
    have s3 := s1.trans st.gg
    refine gew_name v σ G3 H' _ a3.gh ((sl.up s2).up s3) rx fun σ2 hw sl2 => ⟨hw, ?_⟩
    unfold tYes
    dsimp only
    rw [if_pos rfl]
    intro s H0 C cl fp
    refine he j _ Bs w hgo inv s H0 C cl fp (D, oL Bs) σ2 G3 H' a3.to sl2 _ ?_
    rintro u G5 H5 R w' ⟨w2, pm, inv2⟩ s5 a5' r5
    have a5 : At F ((D, oL Bs) :: w2) G5 H5 := (At.to (F := blkF F s H0 scope C cl fp) (F' := F) a5').perm pm
    obtain ⟨_, _, ob, h1, vs, rfl, h2⟩ := a5.ow _ List.mem_cons_self
    refine ⟨vs, h1, Nat.lt_of_le_of_lt (by rw [← h2.len, hl _ _ _ inv]; exact Nat.le_trans hj hz) (by decide), G5, Bs ++ [R], w2, a5.chg ⟨_, rfl, h2.app (mk1 r5)⟩, s3.trans s5, inv2⟩
  · have ej : j = Rs.length := by omega
    subst ej
    refine .inl ⟨y2.stop G1 H1 s1 a1.gh, ?_⟩
    obtain ⟨hg0, _, ob, h1, vs, rfl, h2⟩ := a1.ow _ List.mem_cons_self
    have a5 := a1.pub h1 (At.own0 a1 hM)
    have sg : Same G1 (upd G1 D (.lst vs)) := fun b u e => by rw [upd_ne (ne_of_none e hg0)]; exact e
    have s7 := (s2.trans s1).trans sg
    have rl : (rLst Bs).r (.ref D) (upd G1 D (.lst vs)) := ⟨D, vs, rfl, upd_same, h2.up sg⟩
    exact hf Bs w inv _ _ _ De a5 ((sl.up s7).set l rl) (ps.up s7)
end
theorem val_put {am : Am} {k : Str} {v : Int} : valA (putA am k v) k = v := by
  unfold valA putA
  split
  · rename_i h
    have : ∀ l : Am, (l.any fun p => decide (p.1 = k)) = true → (((l.map fun p => if p.1 = k then (p.1, v) else p).find? fun p => decide (p.1 = k)).map (·.2)).getD 0 = v := by
      intro l
      induction l with
      | nil => intro h; cases h
      | cons p l ih =>
        intro h
        rw [List.map_cons, List.find?_cons]
        by_cases e : p.1 = k
        · rw [if_pos e, decide_eq_true (show (p.1, v).1 = k from e)]
          rfl
        · rw [if_neg e, decide_eq_false e]
          dsimp only
          refine ih ?_
          rw [List.any_cons, decide_eq_false e, Bool.false_or] at h
          exact h
    exact this am h
  · rename_i h
    rw [List.find?_append]
    have : (am.find? fun p => decide (p.1 = k)) = none := by
      rw [List.find?_eq_none]
      intro p hp e
      exact h (List.any_eq_true.mpr ⟨p, hp, e⟩)
    rw [this]
    simp
theorem rng_get {lo : Int} {n k : Nat} {S : Rl} (h : (rng lo n)[k]? = some S) : k < n ∧ S = rInt (lo + k) := by
  unfold rng at h
  obtain ⟨j, hj, rfl⟩ := map_get h
  obtain ⟨hl, e⟩ := List.getElem?_eq_some_iff.mp hj
  rw [List.getElem_range] at e
  rw [List.length_range] at hl
  subst e
  exact ⟨hl, rfl⟩
theorem AmI.val {ns : List Str} {am : Am} (h : AmI ns am) (g : Str) : 0 ≤ valA am g := by
  unfold valA
  cases e : am.find? fun p => decide (p.1 = g) with
  | none => decide
  | some p => exact (h.ok p (List.mem_of_find?_eq_some e)).1
theorem chk_none {am : Am} : ∀ {l : List Str}, (∀ g ∈ l, nameL (tl g) = true ∧ 0 ≤ valA am g) → chkL am l = none
  | [], _ => rfl
  | a :: l, h => by
    have h1 := h a List.mem_cons_self
    unfold chkL
    rw [if_pos h1.1, if_neg (by omega)]
    exact chk_none fun g hg => h g (List.mem_cons_of_mem _ hg)
theorem small_log {i : Int} (h : i.natAbs ≤ 10 ^ 20) : i.natAbs.log2 < 1920 := by
  rcases Nat.eq_zero_or_pos i.natAbs with z | z
  · rw [z]; decide
  · have h2 : i.natAbs < 2 ^ 67 := Nat.lt_of_le_of_lt h (by decide)
    exact Nat.lt_trans ((Nat.log2_lt (by omega)).mpr h2) (by decide)
theorem getD_in {α : Type} {xs : List α} {i : Nat} {d : α} (h : i < xs.length) : xs.getD i d ∈ xs := by
  rw [List.getD_eq_getElem?_getD, List.getElem?_eq_getElem h]
  exact List.getElem_mem h
def Sh (n : Nat) (d : PyData) : Prop := d.canLay0 = true ∧ d.depth ≤ n
theorem Sh.up {m n : Nat} {d : PyData} (h : Sh m d) (l : m ≤ n) : Sh n d := ⟨h.1, Nat.le_trans h.2 l⟩
theorem Sh.ok {n : Nat} {d : PyData} (h : Sh n d) (l : n ≤ 64) : SeqAt.shaped d = true := by
  unfold SeqAt.shaped
  rw [h.1, decide_eq_true (Nat.le_trans h.2 l)]; rfl
/-! ### {k: v}, {k: v, l: z}; a list behind a list that makes things -/
section
variable {F : Fx} {ρ : Ty} {ω w w1 w2 w3 w4 : Ow} {a b c d : Expr} {R S : Rl} {As : List Rl} {pos : Pos} {k l : Key} {Φ : Rl → Ow → Prop}
theorem own_nil {q : Addr} {G H : Hp} (at_ : At F ((q, oD []) :: w) G H) : H q = some (.dK []) := by
  obtain ⟨_, _, o, h, vs, rfl, n⟩ := at_.ow _ List.mem_cons_self
  cases vs with
  | nil => exact h
  | cons p r => exact n.elim
theorem en_disp1 (hk : ∀ z, ER F ρ (z :: ω) a (rEqV (kV k)) (z :: w1)) (hv : ∀ z, ER F ρ (z :: w1) b R (z :: w2)) : EN F ρ ω (.Dict [some a] [b] pos) (oD (putKR [] k R)) w2 := fun σ G H at_ sl Q q => by
  refine ew_of (pe_disp (pps_cons pe_w pe_w pps_nil) rfl rfl (by simp) (by simp)) fun p hp => ?_
  refine hk _ σ G _ (at_.own (O := oD []) hp ⟨[], rfl, trivial⟩) sl _ fun x G1 H1 s1 a1 r1 => hv _ σ G1 H1 a1 (sl.up s1) _ fun y G2 H2 s2 a2 r2 => ⟨own_nil a2, [(k, y)], ?_, by simp, ?_⟩
  · rw [show x = kV k from r1]; rfl
  · exact q p G2 _ (fun hm => at_.mm p hm hp) (s1.trans s2) (a2.chg ⟨_, rfl, NR.putK (fs := []) (vs := []) trivial r2⟩)
theorem eg_cat (ha : ER F ρ ω a (rLst As) w1) (hb : EG F ρ w1 b fun B w2 => ∃ Bs, B = rLst Bs ∧ As.length + Bs.length ≤ 100000 ∧ Φ (rLst (As ++ Bs)) w2) : EG F ρ ω (.BinOp a .Add b pos) Φ := fun σ G H at_ sl Q q => by
  refine ew_of (pe_op op_cat pe_w pe_w) (ha σ G H at_ sl _ fun x G1 H1 s1 a1 r1 => hb σ G1 H1 a1 (sl.up s1) _ ?_)
  rintro y G2 H2 B w2 ⟨Bs, rfl, hz, hΦ⟩ s2 a2 r2
  obtain ⟨l, vs, rfl, e1, e2⟩ := (rLst As).mo _ _ _ s2 r1
  obtain ⟨m, ws, rfl, e3, e4⟩ := r2
  refine ⟨l, m, vs, ws, rfl, rfl, a2.gh _ _ e1, a2.gh _ _ e3, Nat.le_trans (by rw [← e2.len, ← e4.len]; exact hz) (by decide), fun p hp => ?_⟩
  have st := Step.new (o := .lst (vs ++ ws)) a2.gh hp
  exact q _ _ _ _ _ hΦ ((s1.trans s2).trans st.gg) (a2.step st) ⟨p, _, rfl, upd_same, (e2.app e4).up st.gg⟩
end
/-! ### a pool of which no more is known -/
abbrev oAny : Ol := oEx oPool
theorem hb_any {F : Fx} {ρ : Ty} {w : Ow} {K : Kn} {rest : List Stmt} {q : Addr} {s : Pool} (h : HB F ρ ((q, oAny) :: w) rest K) : HB F ρ ((q, oPool s) :: w) rest K := hb_weakO (O := oPool s) (O' := oAny) (fun o G z => ⟨s, z⟩) h
/-! ### rows that make ways -/
structure RwG (y : Wy) : Prop where
  rw : RwOk y
  wy : WyOk y
/-- a row of goods that are drawn -/
structure RowK (gs : List Str) (y : Wy) : Prop where
  it : AmI gs y.1
  im : AmI gs y.2.2
  h1 : 1 ≤ y.2.1
  h2 : y.2.1 ≤ 100
  pos : ∃ g ∈ gs, 0 < valA y.2.2 g
theorem menu_name : ∀ g ∈ menuN, nameL (tl g) = true := by
  have : (menuN.all fun g => nameL (tl g)) = true := by decide +kernel
  exact fun g hg => List.all_eq_true.mp this g hg
theorem menu_len : ∀ g ∈ menuN, g.length ≤ 640 := by
  have : (menuN.all fun g => decide (g.length ≤ 640)) = true := by decide +kernel
  exact fun g hg => of_decide_eq_true (List.all_eq_true.mp this g hg)
theorem mem_goodsW {t m : Am} {g : Str} : g ∈ goodsW t m ↔ g ∈ namesA (keptA t) ∨ g ∈ namesA (keptA m) := by
  unfold goodsW
  rw [srt_mem_iff]
  have h0 : (namesA ([] : Am)).Nodup := List.nodup_nil
  obtain ⟨h1, h2⟩ := names_merge (keptA t) [] h0
  rw [(names_merge (keptA m) _ h1).2, h2]
  simp [namesA]
theorem am_big {gs : List Str} {am : Am} (G : Goods gs) (h : AmI gs am) : AmG am := by
  have hl := h.len
  have h8 : gs.length ≤ 8 := sub_len G.nd G.sub
  refine ⟨⟨by omega, fun p hp => ⟨menu_len _ (G.sub _ (h.sub _ (List.mem_map_of_mem hp))), ?_⟩⟩, h.nd⟩
  have := h.ok p hp
  exact small_log (by omega)
theorem am_chk {gs : List Str} {am : Am} (G : Goods gs) (h : AmI gs am) : chkL am (srt (namesA am)) = none := chk_none fun g hg => ⟨menu_name g (G.sub _ (h.sub g (srt_mem hg))), h.val g⟩
theorem kept_ne2 {am : Am} {g : Str} (h : 0 < valA am g) : keptA am ≠ [] := fun e => by
  have hm : g ∈ namesA am := by
    by_cases z : g ∈ namesA am
    · exact z
    · have := (valR_An z).2
      omega
  have : g ∈ namesA (keptA am) := names_kept.mpr ⟨hm, h⟩
  rw [e] at this
  cases this
theorem RowK.way {gs : List Str} {y : Wy} (G : Goods gs) (r : RowK gs y) : wayE y.1 y.2.1 y.2.2 = none := by
  obtain ⟨g, hg, hp⟩ := r.pos
  unfold wayE
  rw [am_chk G r.it]
  dsimp only
  rw [am_chk G r.im]
  dsimp only
  rw [if_neg (by have := r.h1; omega), if_neg (kept_ne2 hp)]
theorem RowK.subg {gs : List Str} {y : Wy} (r : RowK gs y) : ∀ g ∈ gWy y, g ∈ gs := fun g hg => by
  rcases mem_goodsW.mp hg with h | h
  · exact r.it.sub _ (names_kept.mp h).1
  · exact r.im.sub _ (names_kept.mp h).1
theorem RowK.g {gs : List Str} {y : Wy} (G : Goods gs) (r : RowK gs y) : RwG y := by
  have h8 : gs.length ≤ 8 := sub_len G.nd G.sub
  have l1 := r.it.len
  have l2 := r.im.len
  refine ⟨⟨am_big G r.it, am_big G r.im, small_log ?_, r.way G⟩, ⟨by omega, fun g hg => menu_len _ (G.sub _ (r.subg g hg))⟩⟩
  have h1 := r.h1
  have h2 := r.h2
  omega
end W1
set_option maxRecDepth 100000
set_option maxHeartbeats 4000000
set_option exponentiation.threshold 20000
namespace W1
open PySem PySem.Spec PyProof.Rows L2 NdefX TL NumText
/-! ### rows drawn -/
theorem cut_some {Rs : List Rl} {k : Nat} : cutR Rs none (some (k : Int)) = Rs.take k := by
  unfold cutR
  have h0 : HT.sIx Rs.length 0 none = 0 := rfl
  have h1 : HT.sIx Rs.length Rs.length (some (k : Int)) = min k Rs.length := by
    unfold HT.sIx
    simp only
    rw [if_neg (by omega)]
    omega
  rw [h0, h1, List.drop_zero, Nat.sub_zero, ← List.take_eq_take_min]
structure RowsK (gs : List Str) (ys : List Wy) : Prop where
  l1 : 1 ≤ ys.length
  l8 : ys.length ≤ 8
  row : ∀ y ∈ ys, RowK gs y
def rRows (gs : List Str) : Rl := rEx fun ys : { ys : List Wy // RowsK gs ys } => rLst (ys.1.map rRw)
def pRows : Pre := fun Rs w o w' => ∃ q gs pl s, Goods gs ∧ 0 < gs.length ∧ gs.length ≤ 4 ∧ Rs = [rRef q, rLst (gs.map rStr), rBool pl] ∧ w = [(q, oPool s)] ∧ w' = [(q, oAny)] ∧ o = .ok (rRows gs)
theorem mem_snoc {α : Type} {P : α → Prop} {l : List α} {a : α} (h : ∀ y ∈ l, P y) (ha : P a) : ∀ y ∈ l ++ [a], P y := fun y hy => by
  rcases List.mem_append.mp hy with hy | hy
  · exact h y hy
  · rw [List.mem_singleton.mp hy]; exact ha
theorem rowK_of {gs : List Str} {pl : Bool} {s : Pool} (h0 : 0 < gs.length) : RowK gs (rowF gs pl s).1 := by
  have b0 := drR_lt (s := (rowK gs s).2) (L := (gs.length : Int)) (by omega)
  have b1 := drR_lt (s := drS (rowK gs s).2 gs.length) (L := 4) (by decide)
  have hg : gs.getD (drR (rowK gs s).2 gs.length).toNat Str.empty ∈ gs := getD_in (by omega)
  have hm : AmI gs (if pl then [] else (rowK gs s).1) := by
    cases pl
    · exact amsF_ok
    · exact AmI.nil
  have hh : ∀ x ∈ hrVs, 1 ≤ x ∧ x ≤ 100 := by decide
  have b2 := drR_lt (s := drS (drS (rowK gs s).2 gs.length) 4) (L := 5) (by decide)
  have h5 := hh _ (getD_in (xs := hrVs) (i := (drR (drS (drS (rowK gs s).2 gs.length) 4) 5).toNat) (d := 0) (by show _ < 5; omega))
  refine ⟨amsF_ok, hm.put hg (by omega), h5.1, h5.2, _, hg, ?_⟩
  show 0 < valA (putA (if pl then [] else (rowK gs s).1) (gs.getD (drR (rowK gs s).2 gs.length).toNat Str.empty) (1 + drR (drS (rowK gs s).2 gs.length) 4)) _
  rw [val_put]
  omega
section
variable {P : Program} {w : World} {K : PySem.W.Frag} {mg : Str → Option Value} {base : Heap} {f : Addr} {fd : FuncData}
theorem kf_rows (Fn : Fun K "_law_rows_of" "_law_rows_of" s__law_rows_of f fd) (Td : Kf1 P w K mg base "_law_draw" 1 pDraw) (Tr : Kf1 P w K mg base "_law_row_of" 3 pRow) (len : mg "len" = none) (rg : mg "range" = none) : FnOk P w K mg base (L2.CX P w) 4 f fd P__law_rows_of (spM pRows) := by
  refine fn_ok Fn c__law_rows_of (fun _ _ _ _ ⟨_, _, _, _, _, _, _, h, _⟩ => by rw [h]; rfl) ?_
  rintro cdv A outer s0 H E ⟨_, G0, H0, M', Wx, tk⟩ hr rfl Rs ω o ω' ⟨q, gs, pl, s, hG, hg0, hg4, rfl, rfl, rfl, rfl⟩
  have nd := c__law_rows_of.nd
  have r1 := hr.mono (show 1 ≤ 3 by decide)
  have d6 := drR_lt (s := s) (L := 6) (by decide)
  refine hb_setGc 3 4 rfl (fun _ _ _ _ _ => pg_name (i := 4) nd rfl (Or.inl rfl)) (blkOk_by (N := N__law_rows_of) (sc := defScope s__law_rows_of) (by decide +kernel)) (it_rng1 (w1 := [(q, oPool (drS s 6))]) (ar_cons (er_bin er_int (er_f1 0 Td r1 (ar_cons (er_v 0 rfl rfl) (ar_cons er_int ar_nil)) rfl (drawOk (s := s) (L := 6) (by decide) (by decide))) bop_add) ar_nil) rfl rg (by omega)) (by rw [rng_len]; omega)
    (fun j Bs w => ∃ ys s, Bs = ys.map rRw ∧ ys.length = j ∧ (∀ y ∈ ys, RowK gs y) ∧ w = [(q, oPool s)]) ⟨[], _, rfl, rfl, fun _ h => (by cases h), rfl⟩ ?_ (fun j Bs w ⟨ys, s, e1, e2, _⟩ => by rw [e1, List.length_map]; exact e2) ?_ nd (by rfl)
  · rintro j S Bs w hS ⟨ys, s', rfl, hl, hy, rfl⟩ s1 H1 cc cl fp d
    exact eg_er (er_f1 1 Tr hr (ar_cons (er_v 0 rfl rfl) (ar_cons (er_v 1 rfl rfl) (ar_cons (er_v 2 rfl rfl) ar_nil))) rfl ⟨q, gs, pl, s', hg0, by omega, hG.nd, rfl, rfl, rfl, rfl⟩) ⟨[(q, oPool (rowF gs pl s').2)], List.Perm.refl _, ys ++ [(rowF gs pl s').1], _, by rw [List.map_append]; rfl, by rw [List.length_append, hl]; rfl, mem_snoc hy (rowK_of hg0), rfl⟩
  · rintro Bs w ⟨ys, s2, rfl, hl, hy, rfl⟩
    rw [rng_len] at hl
    have hR : RowsK gs ys := ⟨by omega, by omega, hy⟩
    have fin : ∀ ys s, RowsK gs ys → HB ⟨cxOf (L2.CX P w) P w K mg base N__law_rows_of "_law_rows_of" (defScope s__law_rows_of) f cdv A outer s0 H E, G0, H0, M', Wx, tk⟩ [some (rRef q), some (rLst (gs.map rStr)), some (rBool pl), some (rLst (ys.map rRw)), none, none] [(q, oPool s)] ((defBody s__law_rows_of).drop 2) (Kf (.ok (rRows gs)) [(q, oAny)]) := fun ys s h =>
      hb_any (hb_ret (er_v 3 rfl rfl) ⟨_, [], rfl, fun v G z => ⟨⟨ys, h⟩, z⟩, rfl⟩)
    have hd := drR_lt (s := s2) (L := 2) (by decide)
    refine hb_if (tr_cmp (er_f1 0 Td r1 (ar_cons (er_v 0 rfl rfl) (ar_cons er_int ar_nil)) rfl (drawOk (s := s2) (L := 2) (by decide) (by decide))) er_int bop_eqI) (fun _ => ?_) (fun _ => hb_nil (fin ys _ hR))
    generalize drS s2 2 = s3
    have ln : ∀ {F : Fx} {w : Ow}, Cop F w (.builtin "len") [rLst (gs.map rStr)] (rInt ((gs.length : Nat) : Int)) := fun {F w} => by
      have := cop_lenL (F := F) (ω := w) (Rs := gs.map rStr)
      rw [List.length_map] at this
      exact this
    have ec : rLst (cutR (ys.map rRw) none (some (8 - ((gs.length : Nat) : Int)))) = rLst ((ys.take (8 - gs.length)).map rRw) := by
      rw [show (8 : Int) - ((gs.length : Nat) : Int) = ((8 - gs.length : Nat) : Int) by omega, cut_some, List.map_take]
    refine hb_setG (Φ := fun R w => ∃ ys s, RowsK gs ys ∧ R = rLst (ys.map rRw) ∧ w = [(q, oPool s)]) 3 rfl (eg_cat (As := (ys.take (8 - gs.length)).map rRw) (er_eq (er_slice (er_v 3 rfl rfl) pr_none (pr_some (er_bin er_int (er_bA (ar_cons (er_v 1 rfl rfl) ar_nil) len bt_len ln) bop_sub)) sop_L) ec)
      (eg_lc1 (Rs := gs.map rStr) 5 rfl (fun _ _ _ _ _ => pg_name (i := 5) nd rfl (Or.inl rfl)) (blkOk_by (N := N__law_rows_of) (sc := defScope s__law_rows_of) (by decide +kernel)) (it_lst (er_v 1 rfl rfl)) (by rw [List.length_map]; omega) (fun j Bs w => ∃ zs s, Bs = zs.map rRw ∧ zs.length = j ∧ (∀ y ∈ zs, RowK gs y) ∧ w = [(q, oPool s)]) ⟨[], _, rfl, rfl, fun _ h => (by cases h), rfl⟩ ?_ (fun j Bs w ⟨ys, s, e1, e2, _⟩ => by rw [e1, List.length_map]; exact e2) ?_ nd)) ?_ nd
    · rintro j S Bs w hS ⟨zs, s', rfl, hl2, hz, rfl⟩ s1 H1 cc cl fp d
      obtain ⟨g, hg, rfl⟩ := map_get hS
      have hg := List.mem_of_getElem? hg
      have d9 := drR_lt (s := s') (L := 9) (by decide)
      have row : RowK gs ([], 9 + drR s' 9, [(g, 1)]) := by
        refine ⟨AmI.nil, ⟨by simp [namesA], fun x hx => ?_, fun p hp => ?_⟩, by show (1 : Int) ≤ 9 + drR s' 9; omega, by show 9 + drR s' 9 ≤ 100; omega, g, hg, ?_⟩
        · rw [List.mem_singleton.mp hx]; exact hg
        · rw [List.mem_singleton.mp hp]; exact (show (0 : Int) ≤ 1 ∧ (1 : Int) ≤ 10 ^ 20 by decide)
        · show 0 < valA [(g, 1)] g
          unfold valA
          simp
      refine eg_er (er_lst (Rs := [rDct [], rInt (9 + drR s' 9), rDct (fsA [(g, 1)])]) (ar_cons er_dict0 (ar_cons (er_bin er_int (er_f1 1 Td r1 (ar_cons (er_v 0 rfl rfl) (ar_cons er_int ar_nil)) rfl (drawOk (s := s') (L := 9) (by decide) (by decide))) bop_add) (ar_cons (er_frz (en_disp1 (k := .inr g) (R := rInt 1) (fun _ => er_v 5 rfl rfl) (fun _ => er_int))) ar_nil))) (Nat.le_of_ble_eq_true rfl)) ⟨[(q, oPool (drS s' 9))], List.Perm.refl _, zs ++ [([], 9 + drR s' 9, [(g, 1)])], _, by rw [List.map_append]; rfl, by rw [List.length_append, hl2]; rfl, mem_snoc hz row, rfl⟩
    · rintro Bs w ⟨zs, s', rfl, hl2, hz, rfl⟩
      rw [List.length_map] at hl2
      refine ⟨zs.map rRw, rfl, by rw [List.length_map, List.length_map, List.length_take]; omega, ys.take (8 - gs.length) ++ zs, s', ⟨?_, ?_, fun y h => ?_⟩, by rw [List.map_append], rfl⟩
      · rw [List.length_append]; omega
      · rw [List.length_append, List.length_take]; omega
      · rcases List.mem_append.mp h with h | h
        · exact hy y (List.mem_of_mem_take h)
        · exact hz y h
    · rintro R w ⟨ys, s4, h, rfl, rfl⟩
      exact hb_nil (fin ys s4 h)
end
end W1
set_option maxRecDepth 100000
set_option maxHeartbeats 4000000
set_option exponentiation.threshold 20000
namespace W1
open PySem PySem.Spec PyProof.Rows L2 NdefX TL NumText
/-! ### a book that fits its rows; the five questions -/
structure FitB (gs : List Str) (ys : List Wy) : Prop where
  ok : bErr gs ys = none
  rw : ∀ y ∈ ys, RwG y
  nm : ∀ g ∈ gs, g.length ≤ 640
theorem FitB.gs {gs : List Str} {ys : List Wy} (h : FitB gs ys) : (1 ≤ gs.length ∧ gs.length ≤ 4) ∧ gErr [] gs = none ∧ (1 ≤ ys.length ∧ ys.length ≤ 8) ∧ wErr gs ys = none := by
  have e := h.ok
  unfold bErr at e
  split at e
  · rename_i h1
    refine ⟨h1, ?_⟩
    split at e
    · cases e
    · rename_i h2
      refine ⟨h2, ?_⟩
      split at e
      · rename_i h3
        exact ⟨h3, e⟩
      · cases e
  · cases e
theorem gErr_ok : ∀ {gs s : List Str}, gErr s gs = none → s.Nodup → (s ++ gs).Nodup ∧ ∀ g ∈ gs, nameL (tl g) = true
  | [], s, _, hs => ⟨by rw [List.append_nil]; exact hs, fun _ h => (by cases h)⟩
  | g :: r, s, e, hs => by
    unfold gErr at e
    split at e
    · rename_i hn
      split at e
      · cases e
      · rename_i hm
        obtain ⟨h1, h2⟩ := gErr_ok (gs := r) (s := s ++ [g]) e (List.nodup_append.mpr ⟨hs, by simp, fun a ha b hb => by rw [List.mem_singleton.mp hb]; exact fun z => hm (z ▸ ha)⟩)
        rw [List.append_assoc] at h1
        refine ⟨h1, fun x hx => ?_⟩
        rcases List.mem_cons.mp hx with rfl | hx
        · exact hn
        · exact h2 x hx
    · cases e
theorem gErr_of : ∀ {gs s : List Str}, (s ++ gs).Nodup → (∀ g ∈ gs, nameL (tl g) = true) → gErr s gs = none
  | [], _, _, _ => rfl
  | g :: r, s, h, hn => by
    unfold gErr
    rw [if_pos (hn g List.mem_cons_self)]
    have hm : g ∉ s := fun z => by
      have := (List.nodup_append.mp h).2.2 g z g List.mem_cons_self
      exact this rfl
    rw [if_neg hm]
    exact gErr_of (by rw [List.append_assoc]; exact h) fun x hx => hn x (List.mem_cons_of_mem _ hx)
theorem wErr_ok {gs : List Str} : ∀ {ys : List Wy}, wErr gs ys = none ↔ ∀ y ∈ ys, ∀ g ∈ gWy y, g ∈ gs
  | [] => ⟨fun _ _ h => (by cases h), fun _ => rfl⟩
  | y :: r => by
    have ih := wErr_ok (gs := gs) (ys := r)
    have key : lost gs y = none ↔ ∀ g ∈ gWy y, g ∈ gs := by
      unfold lost
      rw [List.find?_eq_none]
      constructor
      · intro h g hg
        have := h g hg
        simpa using this
      · intro h g hg
        simpa using h g hg
    unfold wErr
    cases c : lost gs y with
    | some g =>
      constructor
      · intro e; cases e
      · intro h
        rw [key.mpr (h y List.mem_cons_self)] at c
        cases c
    | none =>
      dsimp only
      rw [ih]
      constructor
      · intro h z hz
        rcases List.mem_cons.mp hz with rfl | hz
        · exact key.mp c
        · exact h z hz
      · intro h z hz
        exact h z (List.mem_cons_of_mem _ hz)
theorem bErr_of {gs : List Str} {ys : List Wy} (h1 : 1 ≤ gs.length ∧ gs.length ≤ 4) (hd : gs.Nodup) (hn : ∀ g ∈ gs, nameL (tl g) = true) (h2 : 1 ≤ ys.length ∧ ys.length ≤ 8) (hw : ∀ y ∈ ys, ∀ g ∈ gWy y, g ∈ gs) : bErr gs ys = none := by
  unfold bErr
  rw [if_pos h1, gErr_of (s := []) hd hn]
  dsimp only
  rw [if_pos h2]
  exact wErr_ok.mpr hw
theorem FitB.nd {gs : List Str} {ys : List Wy} (h : FitB gs ys) : gs.Nodup := (gErr_ok h.gs.2.1 List.nodup_nil).1
theorem FitB.nice {gs : List Str} {ys : List Wy} (h : FitB gs ys) : ∀ g ∈ gs, nameL (tl g) = true := (gErr_ok h.gs.2.1 List.nodup_nil).2
theorem FitB.has {gs : List Str} {ys : List Wy} (h : FitB gs ys) : ∀ y ∈ ys, ∀ g ∈ gWy y, g ∈ gs := wErr_ok.mp h.gs.2.2.2
theorem FitB.bk {gs : List Str} {ys : List Wy} (h : FitB gs ys) : BkOk gs ys := ⟨h.nm, fun y hy => (h.rw y hy).wy, by have := h.gs; omega, by have := h.gs; omega⟩
/-- some of the rows, the names in whatever order -/
theorem FitB.sub {gs gs2 : List Str} {ys zs : List Wy} (h : FitB gs ys) (hp : gs2.Perm gs) (hz : ∀ y ∈ zs, y ∈ ys) (h1 : 1 ≤ zs.length) (h8 : zs.length ≤ 8) : FitB gs2 zs := by
  have hg := h.gs
  refine ⟨bErr_of ?_ (hp.nodup_iff.mpr h.nd) (fun g hg => h.nice g (hp.mem_iff.mp hg)) ⟨h1, h8⟩ (fun y hy g hg => hp.mem_iff.mpr (h.has y (hz y hy) g hg)), fun y hy => h.rw y (hz y hy), fun g hg => h.nm g (hp.mem_iff.mp hg)⟩
  rw [hp.length_eq]
  exact hg.1
theorem srt_srt (gs : List Str) : srt (srt gs) = srt gs := by
  have h := srt_pair gs
  refine List.Perm.eq_of_pairwise (le := fun a b => leS a b = true) (fun a b _ _ h1 h2 => leS_anti h1 h2) (srt_pair _) h (srt_perm _)
theorem book_srt {C W : Addr} {gs : List Str} {ys : List Wy} : rBook C W (srt gs) ys = rBook C W gs ys := by
  unfold rBook bookF
  rw [srt_srt]
theorem newB_ok {C W M N D U : Addr} {gs : List Str} {ys : List Wy} (h : FitB gs ys) : newB C W M N D U gs ys = .ok (rBook C W gs ys) := by
  unfold newB
  rw [h.ok]
inductive Ans where
  | way (y : Wy) | int (i : Int) | intl (l : List Int) | book (gs : List Str) (ys : List Wy) | eway (i : Int) | eunk (g : Str) | enum (i : Int)
structure AskOk (wh : Nat) (i : Int) (g : Str) : Prop where
  hw : wh < 5
  hi : i.natAbs ≤ 10 ^ 20
  hg : g.length ≤ 640
section
variable {P : Program} {w : World} {K : PySem.W.Frag} {mg : Str → Option Value} {base : Heap} {W C M N D U V f : Addr} {fd : FuncData}
end
end W1
set_option maxRecDepth 100000
set_option maxHeartbeats 4000000
/-! ### two dicts that are alike, where a comparison may run own code -/
namespace W1Q
open PySem PySem.Spec PyProof.Rows
section
variable {prog : Program} {w : World} {K : Type} [DecidableEq K] {knd : KeyKind prog w K} {A : Around} {E : Value → Shared → Prop}
/-- what two dicts hold, and what stays while they are compared -/
structure Alike (prog : Program) (w : World) {K : Type} [DecidableEq K] (knd : KeyKind prog w K) (A : Around) (E : Value → Shared → Prop) (a b : Addr) (J : Shared → Prop) (oa ob : Obj) (es fs : Array DictEntry) (ep fp : Nat) (ka kb : List (K × Value)) : Prop where
  na : (a == sysModules) = false
  nb : (b == sysModules) = false
  da : oa.data = .dict es ep
  db : ob.data = .dict fs fp
  k1 : KeysOf knd es
  k2 : KeysOf knd fs
  p1 : Pairs knd es.toList ka
  p2 : Pairs knd fs.toList kb
  at_ : ∀ s, J s → s.heap.get? a = some oa ∧ s.heap.get? b = some ob
  hl : ka.length = kb.length
  eq : ∀ s (i : Nat) k v, J s → ka[i]? = some (k, v) → ∃ y, valueAt kb k = some y ∧ wpAny (model prog w) A (eqBool v y) (fun r s' => r = true ∧ J s') E s
end
end W1Q
set_option maxRecDepth 100000
set_option maxHeartbeats 4000000
set_option exponentiation.threshold 20000
namespace W1
open PySem PySem.Spec PyProof.Rows L2 NdefX TL NumText
/-! ### == and != of dicts that are alike, by own comparisons of what they hold -/
theorem NR.at_ {κ : Type} {H : Hp} : ∀ {fs : List (κ × Rl)} {vs : List (κ × V)} {i : Nat} {k : κ} {v : V}, NR fs vs H → vs[i]? = some (k, v) → ∃ R, fs[i]? = some (k, R) ∧ R.r v H
  | [], [], i, _, _, _, e => by simp at e
  | (k0, R) :: fs, (k1, x) :: vs, 0, k, v, ⟨hk, h, _⟩, e => by
    cases (Option.some.inj e)
    subst hk
    exact ⟨R, rfl, h⟩
  | (_, _) :: fs, (_, _) :: vs, i + 1, k, v, ⟨_, _, t⟩, e => NR.at_ (i := i) t e
  | [], _ :: _, _, _, _, h, _ => h.elim
  | _ :: _, [], _, _, _, h, _ => h.elim
section
variable {X : Cx} {n : Nat} {fs gs : List (Key × Rl)}
end
section
variable {F : Fx} {w : Ow} {A B : Rl} {n : Nat} {fs gs : List (Key × Rl)}
end
end W1
set_option maxRecDepth 100000
set_option maxHeartbeats 4000000
set_option exponentiation.threshold 20000
namespace W1
open PySem PySem.Spec PyProof.Rows L2 NdefX TL NumText
def strR (q : Rat) : Str := if q.den = 1 then numT q.num else numT q.num ++ slash ++ numT q.den
def pStr (C : Addr) : Pre := pOk (α := Rat) (Sz 1900) (fun q => [rRat C q]) (fun q => rStr (strR q))
section
variable {P : Program} {w : World} {K : PySem.W.Frag} {mg : Str → Option Value} {base : Heap} {C B D f : Addr} {fd : FuncData}
theorem log_num {q : Rat} (h : Sz 1900 q) : q.num.natAbs.log2 < 1920 := log_lt h.1 (by decide) (by decide)
theorem log_den {q : Rat} (h : Sz 1900 q) : (q.den : Int).natAbs.log2 < 1920 := log_lt (sz_int h) (by decide) (by decide)
theorem kf_str (Fn : Fun K "__str__" "Ratio.__str__" s_Ratio___str__ f fd) (X : RatX K mg C) (str : mg "str" = none) : FnOk P w K mg base (L2.CX P w) 2 f fd P_Ratio___str__ (spM (pStr C)) := by
  refine fn_ok Fn c_Ratio___str__ (fun _ _ _ _ ⟨_, _, h, _⟩ => by rw [h]; rfl) ?_
  rintro cdv A outer s H E ⟨_, G0, H0, M, W, tk⟩ hr rfl Rs ω o ω' ⟨q, hq, rfl, rfl, rfl, rfl⟩
  refine hb_if (tr_cmp (er_bot X (er_var 0 rfl)) er_int bop_eqI) (fun hb => ?_) (fun hb => hb_nil ?_)
  · have h1 : q.den = 1 := by
      have : (q.den : Int) = 1 := of_decide_eq_true hb
      omega
    refine hb_ret (er_callTy (cop_strI (log_num hq)) rfl str bt_str (ar_cons (er_top X (er_var 0 rfl)) ar_nil)) ⟨_, [], rfl, fun v G h => ?_, rfl⟩
    show (rStr (strR q)).r v G
    unfold strR
    rw [if_pos h1]
    exact h
  · have h1 : ¬ q.den = 1 := fun e => of_decide_eq_false hb (by rw [e]; rfl)
    refine hb_ret (er_f3 (er_top X (er_var 0 rfl)) (er_bot X (er_var 0 rfl)) (log_num hq) (log_den hq) (by decide)) ⟨_, [], rfl, fun v G h => ?_, rfl⟩
    show (rStr (strR q)).r v G
    unfold strR
    rw [if_neg h1]
    exact h
end
/-! ### {x}, x an instance with an own __str__ -/
section
variable {X : Cx} {C g k : Nat} {fd : FuncData} {ps : List Str} {sp : Sp}
theorem pe_fmtO {e : Expr} {te : TE} {pos : Pos} (he : PE X e te) (m : OwnM X.K C "__str__" g) (hfm : PySem.W.findIn X.K (.ref C) "__format__" = some (some (.builtin "object.__format__"))) (hm : PySem.W.mroIn X.K C (.type "object") = some true)
    (F : FnOk X.prog X.w X.K X.mg X.base (L2.CX X.prog X.w) k g fd ps sp) (hr : Room (k + 1) X.A) (hb : Binds X.K fd ps []) :
    PE X (.FormattedValue e (-1) none pos) (fun σ H Q => te σ H fun x H1 => ∃ a dx vs, x = .ref a ∧ H1 a = some (.ins C dx vs) ∧ sp [.ref a] H1 (fun v H' => ∃ y, v = .str y ∧ Q (.str y) H') E0) := by
  refine ⟨fun pins s σ H Q I h => ?_⟩
  refine wpAny_FormattedValue_plain (thn (he.run pins s σ H _ I h) fun v s1 hv => ?_)
  obtain ⟨x, H1, I1, r1, a, dx, vs, rfl, ha, q⟩ := hv
  cases r1
  have I2 := I1.tok (s1.toks + 1)
  obtain ⟨od, J⟩ := inst_at I1 ha
  have hr1 : Room k X.A.in1 := hr.in1
  refine PySem.W.kfo_fieldS hr1.units0 I1.kIn J hfm hm m.at_ m.fn (wpAny_mono (run_below (us := [.ref a]) (vs := [.ref a]) F hr1 I2.env0.in1 hb I2 (.cons rfl .nil) q _) (fun w s' z => ?_) fun _ _ x => x)
  obtain ⟨z', H', I', rz, y, ez, qz⟩ := z
  subst ez
  obtain ⟨t, rfl⟩ := rz
  exact ⟨.str y, H', I', ⟨t, rfl⟩, qz⟩
end
/-- a fraction of no great size -/
def prRat (C : Addr) : Rl := rEx fun q : { q : Rat // Sz 1900 q } => rRat C q.1
theorem len_strR {q : Rat} (h : Sz 1900 q) : (strR q).length ≤ 5000 := by
  have h1 := str_len_num (log_num h)
  have h2 := str_len_num (log_den h)
  unfold strR
  split
  · omega
  · have e : slash.length = 1 := rfl
    rw [strlen_app, strlen_app, e]
    omega
/-- what is looked up of a class whose instances are put in texts -/
structure FmtX (K : PySem.W.Frag) (C : Addr) : Prop where
  fm : PySem.W.findIn K (.ref C) "__format__" = some (some (.builtin "object.__format__"))
  ob : PySem.W.mroIn K C (.type "object") = some true
theorem txt_rat {X : Cx} {C : Addr} {i : Nat} {x t : Str} {p1 p2 p3 p4 : Pos} {j : Nat} (T : Ko X.prog X.w X.K X.mg X.base C "__str__" 2 (pStr C)) (fx : FmtX X.K C) (hr : Room 3 X.A) (hN : X.N[i]? = some x) (hv : Vis X.env.scope x) (hd : (x == ("__debug__" : Str)) = false) (hcd : (x == ("__classdict__" : Str)) = false) (ht : t.length ≤ 1000) :
    Txt1 X (.JoinedStr [.FormattedValue (.Name x p1) (-1) none p2, .Constant (.str t) j p3] p4) i (prRat C) := by
  obtain ⟨f, fd, ps, m, hb, Fn⟩ := T
  refine ⟨_, pe_joined (.cons (pe_fmtO (pe_var hN hv hd hcd) m fx.fm fx.ob Fn hr hb) (.cons pe_str .nil)), fun σ H v h3 h4 Q q => ?_⟩
  obtain ⟨⟨r, hr2⟩, a, dx, vs, rfl, ha, hn⟩ := h4
  refine ⟨_, h3, a, dx, vs, rfl, ha, [rRat C r], [], _, [], H, ⟨r, hr2, rfl, rfl, rfl, rfl⟩, Same.refl _, ⟨⟨a, dx, vs, rfl, ha, hn⟩, trivial⟩, (fun _ h => by cases h), List.nodup_nil, rfl, fun v G' H' st _ hv => ⟨strR r, hv, strR r, rfl, ?_, t, rfl, ?_, q _ _ fun b o e => st.hh b o List.not_mem_nil e⟩⟩
  · rw [empty_app]
    exact Nat.le_trans (len_strR hr2) (by decide)
  · rw [strlen_app, empty_app]
    exact Nat.le_trans (Nat.add_le_add (len_strR hr2) ht) (by decide)
end W1
set_option maxRecDepth 100000
set_option maxHeartbeats 4000000
/-! ### zip of two sequences, each with its own kind of iterator -/
namespace W1
open PySem PySem.Spec PyProof.Rows L2
/-- a source: what it holds, how its iterator stands -/
structure Src (P : Program) (w : World) (K : PySem.W.Frag) (a it : Addr) (sq : Hp → List V → Prop) (st : Nat → Heap → Prop) : Prop where
  obj : ∀ i h, st i h → ∃ o, h.get? it = some o ∧ ∀ v, o.data ≠ .cell v
  keep : ∀ i h h', st i h → (∀ o, h.get? it = some o → h'.get? it = some o) → st i h'
  inj : ∀ (X : Cx) pins σ H s xs ys, X.K = K → Inv X pins σ H s → sq H xs → sq H ys → xs = ys
  draw : ∀ (X : Cx) pins σ H s xs, X.prog = P → X.w = w → X.K = K → X.calm = true → Inv X pins σ H s → sq H xs → a ≠ it → ∃ its : Array Value, its.size = xs.length ∧ (∀ (i : Nat) x, xs[i]? = some x → ∃ u, its[i]? = some u ∧ RelV x u) ∧
    ∃ St, Draws P w X.A.in1 it [it, a] its.size (fun i v => its[i]? = some v) St ∧ (∀ i, st i s.heap → St i s.heap) ∧ ∀ i h, St i h → st i h
theorem src_list {P : Program} {w : World} {K : PySem.W.Frag} {a it : Addr} : Src P w K a it (fun H xs => SqL K H a xs) (fun i h => h.IsListIter it a i) where
  obj := fun i h ⟨o, e, _, d⟩ => ⟨o, e, fun v q => by rw [d] at q; cases q⟩
  keep := fun i h h' st k => st.at k
  inj := fun X pins σ H s xs ys hK I h1 h2 => by subst hK; exact I.list_inj h1 h2
  draw := fun X pins σ H s xs hP hw hK hc I h ne => by
    subst hP hw hK
    obtain ⟨its, rv, p, _⟩ := I.list h
    refine ⟨its.toArray, by rw [List.size_toArray, rv.length], fun i x hx => ?_, _, Draws.list (show X.A.in1.handled = none from I.ok.hd hc) it a ne its.toArray, fun i st => ⟨st, p.isList⟩, fun i h q => q.1⟩
    obtain ⟨u, hu, ru⟩ := rv.get hx
    exact ⟨u, by simpa using hu, ru⟩
theorem src_tup {P : Program} {w : World} {K : PySem.W.Frag} {a it : Addr} : Src P w K a it (fun H xs => SqT K H a xs) (fun i h => h.IsTupleIter it a i) where
  obj := fun i h ⟨o, e, _, d⟩ => ⟨o, e, fun v q => by rw [d] at q; cases q⟩
  keep := fun i h h' st k => st.at k
  inj := fun X pins σ H s xs ys hK I h1 h2 => by subst hK; exact I.tuple_inj h1 h2
  draw := fun X pins σ H s xs hP hw hK hc I h ne => by
    subst hP hw hK
    obtain ⟨its, rv, p, _⟩ := I.tuple h
    have p : s.heap.IsTuple a its.toArray := p
    refine ⟨its.toArray, by rw [List.size_toArray, rv.length], fun i x hx => ?_, _, Draws.tuple (show X.A.in1.handled = none from I.ok.hd hc) it a ne its.toArray, fun i st => ⟨st, p⟩, fun i h q => q.1⟩
    obtain ⟨u, hu, ru⟩ := rv.get hx
    exact ⟨u, by simpa using hu, ru⟩
/-- the pairs of two sources -/
def ItG (sq1 sq2 : Hp → List V → Prop) : It :=
  ⟨fun i H => ∃ (xs ys : List V) (x y : V), sq1 H xs ∧ sq2 H ys ∧ xs[i]? = some x ∧ ys[i]? = some y,
    fun i H v H' => ∃ T x y, v = .ref T ∧ H T = none ∧ H' = upd H T (.tup [x, y]) ∧ (∀ xs, sq1 H xs → xs[i]? = some x) ∧ ∀ ys, sq2 H ys → ys[i]? = some y,
    fun i H => ∃ xs ys : List V, sq1 H xs ∧ sq2 H ys ∧ i ≤ xs.length ∧ i ≤ ys.length ∧ (i = xs.length ∨ i = ys.length)⟩
def ZipSt (z TI TO i1 i2 : Addr) (st1 st2 : Nat → Heap → Prop) (i : Nat) (h : Heap) : Prop := IsZip h z TI TO .none ∧ IsPair h TI (.ref i1) (.ref i2) ∧ (∃ x y, IsPair h TO x y) ∧ st1 i h ∧ st2 i h
theorem turn_zipG {P : Program} {w : World} {K : PySem.W.Frag} {elts : List Expr} {kk : Nat} {tpos : Pos} {a b z TI TO i1 i2 : Addr} {sq1 sq2 : Hp → List V → Prop} {st1 st2 : Nat → Heap → Prop} (S1 : Src P w K a i1 sq1 st1) (S2 : Src P w K b i2 sq2 st2) (D : ZipApart z TI TO i1 i2 a b) :
    Turn P w K (.Tuple elts kk tpos) (ItG sq1 sq2) [z, TI, TO, i1, i2] z (ZipSt z TI TO i1 i2 st1 st2) := by
  have sep : ZipSep2 z TI TO i1 i2 [i1, a] [i2, b] := by
    obtain ⟨q1, q2, q3, q4, q5, q6, q7, q8, q9, q10, q11, q12, q13, q14, q15, q16, q17, q18⟩ := D
    refine ⟨q1, q2, q5, q6, by simp, ?_, ?_, q7, by simp, ?_, ?_, ?_, ?_⟩ <;> simp <;> constructor <;> first | assumption | exact Ne.symm (by assumption)
  refine ⟨by simp, ?_, ?_, ?_, ?_, fun A i s Q E st h => wpAny_pyIter_zip st.1 h⟩
  · rintro i h ⟨hz, hTI, ⟨x, y, hTO⟩, h1, h2⟩ c hc
    simp only [List.mem_cons, List.not_mem_nil, or_false] at hc
    rcases hc with rfl | rfl | rfl | rfl | rfl
    · exact ⟨_, hz, fun v q => nomatch q⟩
    · exact ⟨_, hTI, fun v q => nomatch q⟩
    · exact ⟨_, hTO, fun v q => nomatch q⟩
    · exact S1.obj _ _ h1
    · exact S2.obj _ _ h2
  · rintro i h h' ⟨hz, hTI, ⟨x, y, hTO⟩, h1, h2⟩ k
    exact ⟨k z (by simp) _ hz, k TI (by simp) _ hTI, ⟨x, y, k TO (by simp) _ hTO⟩, S1.keep _ _ _ h1 (k i1 (by simp)), S2.keep _ _ _ h2 (k i2 (by simp))⟩
  · rintro X rfl rfl rfl hc i pins s σ H E I hf ⟨hz, hTI, ⟨x0, y0, hTO⟩, h1, h2⟩ ⟨xs, ys, x, y, hqx, hqy, hx, hy⟩
    obtain ⟨ta, ea, ra, Sa, Da, fa, ba⟩ := S1.draw X pins σ H s xs rfl rfl rfl hc I hqx D.l1i1
    obtain ⟨tb, eb, rb, Sb, Db, fb, bb⟩ := S2.draw X pins σ H s ys rfl rfl rfl hc I hqy D.l2i2
    obtain ⟨u, hu, ru⟩ := ra i x hx
    obtain ⟨v, hv, rv⟩ := rb i y hy
    have hzl : z < s.heap.objs.size := Heap.lt_size hz
    refine wpAny_pyNext_zipD2_item sep Da Db hz hTI hTO (fa i h1) (fb i h2) (by have := (Array.getElem?_eq_some_iff.mp hu).1; exact this) (by have := (Array.getElem?_eq_some_iff.mp hv).1; exact this) fun x1 x2 h' tk p1 p2 z' TO' d1 d2 hT hsz hk => ?_
    have e1 : x1 = u := by rw [hu] at p1; exact (Option.some.inj p1).symm
    have e2 : x2 = v := by rw [hv] at p2; exact (Option.some.inj p2).symm
    subst e1 e2
    refine ⟨_, rfl, wpAny_letOwnedTupleGo_zip (s := { s with heap := h', toks := tk }) z' fun h'' z'' sb => ?_⟩
    have hT2 : h''.get? s.heap.objs.size = some { cls := .type "tuple", data := .seq #[x1, x2] } := (sb.2 _ (Nat.ne_of_gt hzl)).trans hT
    have I1 : Inv X pins σ (upd H s.heap.objs.size (.tup [x, y])) { s with heap := h'', toks := tk } :=
      I.turnedNew (t' := tk) (ch := [z, TI, TO, i1, i2]) (fun c o hb q => (sb.2 c (fun q' => hb (by simp [q']))).trans (hk c o (fun q' => hb (by simp [q'])) (fun q' => hb (by simp [q'])) (fun q' => hb (by simp [q'])) (fun q' => hb (by simp [q'])) q)) hf (Nat.le_refl _) ⟨by show 2 ≤ sizeLine; decide, [x1, x2], .cons ru (.cons rv .nil), ⟨_, hT2, rfl, _, rfl⟩⟩
    refine ⟨.ref s.heap.objs.size, _, I1, rfl, ⟨_, x, y, rfl, I.hok.fresh (Nat.le_refl _), rfl, fun l hl => by rw [S1.inj X pins σ H s _ _ rfl I hl hqx]; exact hx, fun l hl => by rw [S2.inj X pins σ H s _ _ rfl I hl hqy]; exact hy⟩, ⟨z'', ?_, ⟨x1, x2, ?_⟩, ?_, ?_⟩, fun c hcm => ?_⟩
    · exact (sb.2 _ D.TIz).trans (hk _ _ D.TIz D.TITO D.TIi1 D.TIi2 hTI)
    · exact (sb.2 _ D.TOz).trans TO'
    · exact S1.keep _ _ _ (ba _ _ d1) fun o q => (sb.2 _ D.i1z).trans q
    · exact S2.keep _ _ _ (bb _ _ d2) fun o q => (sb.2 _ D.i2z).trans q
    · have hlt : c < s.heap.objs.size := by
        obtain ⟨oa, ga, _⟩ := S1.obj _ _ h1
        obtain ⟨ob, gb, _⟩ := S2.obj _ _ h2
        simp only [List.mem_cons, List.not_mem_nil, or_false] at hcm
        rcases hcm with rfl | rfl | rfl | rfl | rfl
        · exact hzl
        · exact Heap.lt_size hTI
        · exact Heap.lt_size hTO
        · exact Heap.lt_size ga
        · exact Heap.lt_size gb
      rw [upd_ne (Nat.ne_of_lt hlt)]
      exact (hf c hcm).1
  · rintro X rfl rfl rfl hc i pins s σ H E I hf ⟨hz, hTI, ⟨x0, y0, hTO⟩, h1, h2⟩ ⟨xs, ys, hqx, hqy, l1, l2, hend⟩
    obtain ⟨ta, ea, ra, Sa, Da, fa, ba⟩ := S1.draw X pins σ H s xs rfl rfl rfl hc I hqx D.l1i1
    obtain ⟨tb, eb, rb, Sb, Db, fb, bb⟩ := S2.draw X pins σ H s ys rfl rfl rfl hc I hqy D.l2i2
    exact wpAny_pyNext_zipD2_end sep Da Db hz hTI hTO (fa i h1) (fb i h2) (by omega) (by omega) (by omega) fun h' tk hk => ⟨rfl, I.turnedL (t' := tk) (ch := [z, TI, TO, i1, i2]) (fun c o hb q => hk c o (fun q' => hb (by simp [q'])) (fun q' => hb (by simp [q'])) (fun q' => hb (by simp [q'])) (fun q' => hb (by simp [q'])) q) hf⟩
end W1
set_option maxRecDepth 100000
set_option maxHeartbeats 4000000
/-! ### zip(l, o), o with an own __iter__ -/
namespace W1
open PySem PySem.Spec PyProof.Rows L2
/-- zip(..), when its two iterators are at hand -/
theorem zip_call {prog : Program} {w : World} {A : Around} {E : Value → Shared → Prop} {s : Shared} {v1 v2 : Value} {Q : Value → Shared → Prop}
    (h : wpAny (model prog w) A.in1.in1 (Builtin.SmallTypes.iterAll [v1, v2]) (fun its s1 => ∃ i1 i2, its = [i1, i2] ∧ ∀ h', IsZip h' (s1.heap.objs.size + 2) s1.heap.objs.size (s1.heap.objs.size + 1) .none → IsPair h' s1.heap.objs.size i1 i2 → IsPair h' (s1.heap.objs.size + 1) .none .none → h'.objs.size = s1.heap.objs.size + 3 →
      (∀ c o, s1.heap.get? c = some o → h'.get? c = some o) → Q (.ref (s1.heap.objs.size + 2)) { s1 with heap := h' }) E s) : wpAny (model prog w) A (call (.type "zip") [v1, v2]) Q E s := by
  refine callType_codes (T := "zip") (Bi := Builtin.«object.__init__») (Q₁ := fun r s₁ => s₁.TypeIs r "zip" ∧ Q r s₁) F.called_zip (F.typeCall_zip_2 _ _) PySem.F.entry_object_init ?_ ?_
  · refine codeAny_of_tree ?_
    show wpAny _ A.in1.in1 (do checkBuiltinCall "zip.__new__" ⟨[.type "zip", v1, v2], []⟩; again (.builtin "zip.__new__" ⟨[.type "zip", v1, v2], []⟩)) _ _ s
    refine wpAny_bind (wpAny_of_eq (F.newCall_zip_2 _ _) (wpAny_pure ⟨plainId_quiet (by decide +kernel) _, codeAny_builtin F.entry_zip_new ?_⟩))
    rw [Around.under_plainId (by decide +kernel) _]
    unfold Builtin.«zip.__new__» Builtin.SmallTypes.newClass
    refine wpAny_bind (wpAny_bind (wpAny_pure ?_))
    simp only [Bool.not_true, Bool.false_eq_true, if_false]
    refine wpAny_bind (wpAny_of_eq (PySem.sub_zip) (wpAny_ite_split (fun z => absurd z (by decide)) fun _ => wpAny_pure ?_))
    refine wpAny_ite_split (fun z => absurd z (by decide)) fun _ => ?_
    refine wpAny_bind (wpAny_mono h (fun its s1 z => ?_) fun _ _ z => z)
    obtain ⟨i1, i2, rfl, q⟩ := z
    refine wpAny_bind (wpAny_newTuple (wpAny_bind (wpAny_newTuple ?_ (by show 2 ≤ sizeLine; decide))) (by show 2 ≤ sizeLine; decide))
    unfold Builtin.SmallTypes.newRecord Builtin.SmallTypes.ownedTupleFields
    refine wpAny_bind (wpAny_newObj_type ?_ (by size_fits))
    have fin : ∀ (h1 h2 h3 : Heap), h1 = s1.heap.push { cls := .type "tuple", data := .seq #[i1, i2] } → h2 = h1.push { cls := .type "tuple", data := .seq #[.none, .none] } → h3 = h2.push { cls := .type "zip", data := .fields #[.none, .bool false, .bool false, .ref s1.heap.objs.size, .ref h1.objs.size] } →
        Shared.TypeIs { s1 with heap := h3 } (.ref h2.objs.size) "zip" ∧ Q (.ref h2.objs.size) { s1 with heap := h3 } := by
      rintro h1 h2 h3 e1 e2 e3
      have n1 : h1.objs.size = s1.heap.objs.size + 1 := by rw [e1, Heap.size_push]
      have n2 : h2.objs.size = s1.heap.objs.size + 2 := by rw [e2, Heap.size_push, n1]
      have n3 : h3.objs.size = s1.heap.objs.size + 3 := by rw [e3, Heap.size_push, n2]
      have k1 : ∀ c o, s1.heap.get? c = some o → h1.get? c = some o := fun c o e => by rw [e1]; exact Heap.get?_push_of_some _ e
      have k2 : ∀ c o, h1.get? c = some o → h2.get? c = some o := fun c o e => by rw [e2]; exact Heap.get?_push_of_some _ e
      have k3 : ∀ c o, h2.get? c = some o → h3.get? c = some o := fun c o e => by rw [e3]; exact Heap.get?_push_of_some _ e
      have g1 : h1.get? s1.heap.objs.size = some { cls := .type "tuple", data := .seq #[i1, i2] } := by rw [e1]; exact Heap.get?_push_size _ rfl
      have g2 : h2.get? h1.objs.size = some { cls := .type "tuple", data := .seq #[.none, .none] } := by rw [e2]; exact Heap.get?_push_size _ rfl
      have g3 : h3.get? h2.objs.size = some { cls := .type "zip", data := .fields #[.none, .bool false, .bool false, .ref s1.heap.objs.size, .ref h1.objs.size] } := by rw [e3]; exact Heap.get?_push_size _ rfl
      refine ⟨⟨_, g3, rfl⟩, ?_⟩
      rw [n1] at g2 g3
      rw [n2] at g3 ⊢
      exact q h3 g3 (k3 _ _ (k2 _ _ g1)) (k3 _ _ g2) n3 fun c o e => k3 _ _ (k2 _ _ (k1 _ _ e))
    exact wpAny_pure (fin _ _ _ rfl rfl rfl)
  · rintro obj s₁ ⟨ht, hq⟩
    exact ⟨ht, F.args_object_init_3 _ _ _, object_init_meets PySem.F.called_zip.init.lookup PySem.F.called_zip.made (by decide) prog w A.in1 _ s₁ ⟨ht, rfl, hq⟩⟩
end W1
set_option maxRecDepth 100000
set_option maxHeartbeats 4000000
namespace W1
open PySem PySem.Spec PyProof.Rows L2 ItX
theorem zip_far {N M i a t : Nat} (h1 : a < N) (h2 : t < N) (h3 : N + 1 ≤ i) (h4 : i < M) : ZipApart (M + 2) M (M + 1) N i a t := by constructor <;> first | exact Nat.ne_of_lt (by omega) | exact Nat.ne_of_gt (by omega)
section
variable {X : Cx} {pins : List (Addr × Obj)} {σ : L2.St} {H : Hp} {s : Shared} {C g a b t k kk : Nat} {fld : Str} {ys : List V} {elts : List Expr} {tpos : Pos} {o1 : Obj} {sq1 : Hp → List V → Prop} {st1 : Nat → Heap → Prop} {R : It → Hp → Prop}
theorem zip_own (I : Inv X pins σ H s) (m : ItM X.K C g) (Fn : IterOk X.prog X.w X.K X.mg X.base C g fld k) (hr : Room (k + 2) X.A) (ft : FldT X.K C fld H b t ys) (S1 : Src X.prog X.w X.K a s.heap.objs.size sq1 st1) (la : a < s.heap.objs.size)
    (hi : ∀ {A : Around} {E Q : Value → Shared → Prop}, Q (.ref s.heap.objs.size) { s with heap := s.heap.push o1 } → wpAny (model X.prog X.w) A (pyIter (.ref a)) Q E s) (h0 : ∀ h : Heap, h.get? s.heap.objs.size = some o1 → st1 0 h) (hc : ∀ v, o1.data ≠ .cell v) (hf : o1.isFreed = false)
    (q : R (ItG sq1 fun H xs => SqT X.K H t xs) H) :
    wpAny (model X.prog X.w) X.A (call (.type "zip") [.ref a, .ref b]) (fun v s1 => wpAny (model X.prog X.w) X.A (pyIter v) (PIE X pins σ (.Tuple elts kk tpos) R) X.xe s1) X.xe s := by
  obtain ⟨dx, fs, hb, hl, ht⟩ := id ft
  obtain ⟨its, rv, tp, _⟩ := I.tuple ht
  have lt_t : t < s.heap.objs.size := by
    obtain ⟨o, ho, _⟩ := tp
    exact Heap.lt_size ho
  have hr2 : Room k X.A.in1.in1 := (show Room (k + 1) X.A.in1 from hr.in1).in1
  have new1 : (s.heap.push o1).get? s.heap.objs.size = some o1 := Heap.get?_push_size _ hf
  have sz1 : (s.heap.push o1).objs.size = s.heap.objs.size + 1 := by rw [Heap.size_push]
  have I1 : Inv X pins σ H { s with heap := s.heap.push o1 } := I.kept (t' := s.toks) fun _ _ e => Heap.get?_push_of_some _ e
  have f1 : FpOk X pins H s.heap.objs.size := I.fpOk (Nat.le_refl _) I.fresh
  have I2 : Inv X (pins ++ pinsAt [s.heap.objs.size] (s.heap.push o1)) σ H { s with heap := s.heap.push o1 } :=
    I1.pinned (fp := [s.heap.objs.size]) (fun c hc => by rw [List.mem_singleton.mp hc]; exact f1) fun c hcm => by rw [List.mem_singleton.mp hcm]; exact ⟨o1, new1, hc⟩
  refine zip_call ?_
  unfold Builtin.SmallTypes.iterAll
  simp only [List.forIn_cons, List.forIn_nil]
  refine wpAny_bind (wpAny_bind (wpAny_bind (wpAny_holding (hi ?_))))
  refine wpAny_pure ?_
  dsimp only
  refine wpAny_bind (wpAny_bind (wpAny_holding ?_))
  obtain ⟨od, J⟩ := inst_at I2 hb
  obtain ⟨mf, hF⟩ := I2.fr
  refine PySem.W.owit_iter hF I2.ok.mod.kin J m.it m.fn (wpAny_call (codeAny_mono (Fn X.A.in1.in1 X.stack { s with heap := s.heap.push o1 } H b t ys hr2 I2.env0.in1.in1 ft) fun r s2 hq => ?_))
  match r, hq with
  | .error e, ⟨_, _, _, _, _, _, _, _, _, _, _, _, z⟩ => exact z.elim
  | .ok (.ret u), hq =>
    obtain ⟨v, H', I3, rv2, it, rfl, hn, young, rfl⟩ := I2.after hq
    cases rv2
    have there : s2.heap.IsTupleIter it t 0 := (I3.hok it _ upd_same).1
    have fp := inv_fp I3 upd_same (Nat.le_trans I2.sz young)
    have I4 := inv_drop I3 upd_same
    rw [dropH_upd hn] at fp I4
    have young : s.heap.objs.size + 1 ≤ it := by rw [← sz1]; exact young
    have at1 : s2.heap.get? s.heap.objs.size = some o1 := (I4.pin (s.heap.objs.size, o1) (List.mem_append_right _ (List.mem_append_right _ (mem_pinsAt (List.mem_singleton.mpr rfl) new1)))).1
    have I5 : Inv X pins σ H s2 := I4.unpinned
    have lt2 : it < s2.heap.objs.size := by
      obtain ⟨o, ho, _⟩ := there
      exact Heap.lt_size ho
    unfold PySem.W.OwitIt
    refine wpAny_specialOf (name := Str.ofString "__next__") there.typeIs F.slot_tuple_iterator_next.lookup ?_
    refine wpAny_pure ?_
    refine wpAny_pure ?_
    refine wpAny_pure ⟨_, _, rfl, fun h' hz hTI hTO hsz hk => wpAny_pyIter_zip hz ?_⟩
    have I6 : Inv X pins σ H { s2 with heap := h' } := I5.kept (t' := s2.toks) hk
    refine ⟨s2.heap.objs.size + 2, [s2.heap.objs.size + 2, s2.heap.objs.size, s2.heap.objs.size + 1, s.heap.objs.size, it], _, _, H, rfl, I6, turn_zipG S1 (src_tup (a := t) (it := it)) ?_, ⟨hz, hTI, ⟨_, _, hTO⟩, h0 _ (hk _ _ at1), there.at fun o e => hk it o e⟩, fun c hcm => ?_, q⟩
    · exact zip_far la lt_t young lt2
    · simp only [List.mem_cons, List.not_mem_nil, or_false] at hcm
      rcases hcm with rfl | rfl | rfl | rfl | rfl
      · exact I5.fpOk (Nat.le_add_right _ _) (I5.hok.fresh (Nat.le_add_right _ _))
      · exact I5.fpOk (Nat.le_refl _) (I5.hok.fresh (Nat.le_refl _))
      · exact I5.fpOk (Nat.le_add_right _ _) (I5.hok.fresh (Nat.le_add_right _ _))
      · exact f1
      · obtain ⟨z1, z2, z3, z4, z5, z6⟩ := fp
        exact ⟨z1, z2, z3, z4, z5, fun p hp => z6 p (by
          rcases List.mem_append.mp hp with hp | hp
          · exact List.mem_append_left _ hp
          · exact List.mem_append_right _ (List.mem_append_left _ hp))⟩
end
def iZipO (K : PySem.W.Frag) (C : Addr) (fld : Str) (ta : TA) : TI := fun σ H R => ta σ H fun vs H1 => ∃ a b t xs ys, vs = [V.ref a, V.ref b] ∧ FldT K C fld H1 b t ys ∧ ((SqL K H1 a xs ∧ R (ItG (fun H xs => SqL K H a xs) fun H xs => SqT K H t xs) H1) ∨ (SqT K H1 a xs ∧ R (ItG (fun H xs => SqT K H a xs) fun H xs => SqT K H t xs) H1))
theorem pi_zipO {X : Cx} {C g k : Nat} {fld : Str} {e e2 : Expr} {ta : TA} {p pos tpos : Pos} {elts : List Expr} {kk : Nat} (m : ItM X.K C g) (Fn : IterOk X.prog X.w X.K X.mg X.base C g fld k) (hr : Room (k + 2) X.A) (hg : Gl X "zip") (hm : X.mg "zip" = none) (ha : PA X [e, e2] ta)
    (hs : starEach [e, e2] X.env = (false, eval e X.env) :: starEach [e2] X.env := by rfl) (hpl : (backTo pos (starEach [e2] X.env)).any (·.1) = false := by rfl) :
    PI X (.Tuple elts kk tpos) (.Call (.Name "zip" p) [e, e2] [] pos) (iZipO X.K C fld ta) := by
  refine ⟨fun pins s σ H R I h => ?_⟩
  refine Call_ (ld_blt I hg hm PyProof.Rows.boot_zip (PyProof.Rows.callWith_type1 (thn (ha.run pos pins s σ H _ I h) fun us s1 ⟨vs, H1, I1, r1, a, b, t, xs, ys, ex, ft, q⟩ => ?_) hs hpl))
  subst ex
  obtain ⟨u1, u2, rfl, r, r'⟩ := vals2 r1
  cases (show u1 = Value.ref a from r)
  cases (show u2 = Value.ref b from r')
  rcases q with ⟨hq, q⟩ | ⟨hq, q⟩
  · obtain ⟨its, rv, p1, _⟩ := I1.list hq
    exact zip_own (o1 := { cls := .type "list_iterator", data := .fields #[.ref a, .int 0 0] }) I1 m Fn hr ft src_list p1.lt (fun h => wpAny_pyIter_list p1.isList h) (fun h e => ⟨_, e, rfl, rfl⟩) (fun v => nofun) rfl q
  · obtain ⟨its, rv, p1, _⟩ := I1.tuple hq
    have p1' : s1.heap.IsTuple a its.toArray := p1
    obtain ⟨o, ho, _⟩ := id p1
    exact zip_own (o1 := { cls := .type "tuple_iterator", data := .fields #[.ref a, .int 0 0] }) I1 m Fn hr ft src_tup (Heap.lt_size ho) (fun h => wpAny_pyIter_tuple p1' h) (fun h e => ⟨_, e, rfl, rfl⟩) (fun v => nofun) rfl q
end W1
set_option maxRecDepth 100000
set_option maxHeartbeats 4000000
set_option exponentiation.threshold 20000
namespace W1
open PySem PySem.Spec PyProof.Rows L2 NdefX TL NumText
/-! ### loops over zip -/
def zipR (Rs Ss : List Rl) : List Rl := List.zipWith (fun R S => rTup [R, S]) Rs Ss
theorem zipR_len {Rs Ss : List Rl} (h : Rs.length = Ss.length) : (zipR Rs Ss).length = Rs.length := by
  unfold zipR
  rw [List.length_zipWith, h, Nat.min_self]
theorem zipR_get {Rs Ss : List Rl} {i : Nat} {T : Rl} (h : (zipR Rs Ss)[i]? = some T) : ∃ R S, Rs[i]? = some R ∧ Ss[i]? = some S ∧ T = rTup [R, S] := by
  unfold zipR at h
  rw [List.getElem?_zipWith] at h
  cases a : Rs[i]? with
  | none => rw [a] at h; cases h
  | some R =>
    cases b : Ss[i]? with
    | none => rw [a, b] at h; cases h
    | some S =>
      rw [a, b] at h
      cases h
      exact ⟨R, S, rfl, rfl, rfl⟩
theorem yld_zipG {sq1 sq2 : Hp → List V → Prop} {Rs Ss : List Rl} {vs ws : List V} {G : Hp} (h1 : ∀ G', Same G G' → sq1 G' vs) (h2 : ∀ G', Same G G' → sq2 G' ws) (n1 : All2 Rs vs G) (n2 : All2 Ss ws G) (hl : Rs.length = Ss.length) : Yld (ItG sq1 sq2) (zipR Rs Ss) G where
  go := fun i G' H' s1 s2 hi => by
    rw [zipR_len hl] at hi
    have l1 := n1.len
    have l2 := n2.len
    exact ⟨vs, ws, vs[i]'(by omega), ws[i]'(by omega), h1 _ (s1.trans s2), h2 _ (s1.trans s2), List.getElem?_eq_getElem _, List.getElem?_eq_getElem _⟩
  stop := fun G' H' s1 s2 => by
    rw [zipR_len hl]
    have l1 := n1.len
    have l2 := n2.len
    exact ⟨vs, ws, h1 _ (s1.trans s2), h2 _ (s1.trans s2), by omega, by omega, by omega⟩
  yld := fun i T G' H' x H'' s1 s2 hT y => by
    obtain ⟨R, S, hR, hS, rfl⟩ := zipR_get hT
    obtain ⟨p, u, v, rfl, hp, rfl, q1, q2⟩ := y
    obtain ⟨u', hu, ru⟩ := n1.get hR
    obtain ⟨v', hv, rv⟩ := n2.get hS
    have e1 := q1 vs (h1 _ (s1.trans s2))
    have e2 := q2 ws (h2 _ (s1.trans s2))
    rw [hu] at e1
    rw [hv] at e2
    cases e1
    cases e2
    have st := Step.new (o := .tup [u, v]) s2 hp
    exact ⟨_, st, p, [u, v], rfl, upd_same, (mk2 (R.mo _ _ _ s1 ru) (S.mo _ _ _ s1 rv)).up st.gg⟩
section
variable {F : Fx} {ρ : Ty} {ω w1 : Ow} {e e2 : Expr} {pos p tpos : Pos} {Rs Ss : List Rl} {C g k : Nat} {fld : Str} {fs : List (Str × Rl)} {elts : List Expr} {kk : Nat} {b : Bool}
theorem it_zipO (he : AR F ρ ω [e, e2] [rSeq b Rs, rIns C fs] w1) (hf : fs.lookup fld = some (rTup Ss)) (hl : Rs.length = Ss.length) (m : ItM F.X.K C g) (Fn : IterOk F.X.prog F.X.w F.X.K F.X.mg F.X.base C g fld k) (hr : Room (k + 2) F.X.A) (hg : Gl F.X "zip") (hm : F.X.mg "zip" = none)
    (hs : starEach [e, e2] F.X.env = (false, eval e F.X.env) :: starEach [e2] F.X.env := by rfl) (hpl : (backTo pos (starEach [e2] F.X.env)).any (·.1) = false := by rfl) : IT F ρ ω (.Tuple elts kk tpos) (.Call (.Name "zip" p) [e, e2] [] pos) (zipR Rs Ss) w1 :=
  ⟨_, pi_zipO m Fn hr hg hm pa_w hs hpl, fun σ G H at_ sl R q => he σ G H at_ sl _ fun us G2 H2 s2 a2 r2 => by
    obtain ⟨x, y, rfl, hx, p2, dx, vs, rfl, h1, h2⟩ := all2 r2
    obtain ⟨u, h3, t, ws, rfl, h4, h5⟩ := h2.look hf
    cases b with
    | true =>
      obtain ⟨a, xs, rfl, h6, h7⟩ := hx
      exact ⟨a, p2, t, xs, ws, rfl, ⟨dx, vs, a2.gh _ _ h1, h3, SqT.of (a2.gh _ _ h4)⟩, .inl ⟨SqL.of (a2.gh _ _ h6), q _ G2 H2 s2 a2 (yld_zipG (fun G' s => SqL.of (s _ _ h6)) (fun G' s => SqT.of (s _ _ h4)) h7 h5 hl)⟩⟩
    | false =>
      obtain ⟨a, xs, rfl, h6, h7⟩ := hx
      exact ⟨a, p2, t, xs, ws, rfl, ⟨dx, vs, a2.gh _ _ h1, h3, SqT.of (a2.gh _ _ h4)⟩, .inr ⟨SqT.of (a2.gh _ _ h6), q _ G2 H2 s2 a2 (yld_zipG (fun G' s => SqT.of (s _ _ h6)) (fun G' s => SqT.of (s _ _ h4)) h7 h5 hl)⟩⟩⟩
/-- zip of two lists, or of two tuples -/
theorem yld_zipL {K : PySem.W.Frag} {a c : Addr} {vs ws : List V} {G : Hp} (h1 : SqL K G a vs) (h2 : SqL K G c ws) (n1 : All2 Rs vs G) (n2 : All2 Ss ws G) (hl : Rs.length = Ss.length) : Yld (Itz K a c) (zipR Rs Ss) G where
  go := fun i G' H' s1 s2 hi => by
    rw [zipR_len hl] at hi
    have l1 := n1.len
    have l2 := n2.len
    exact ⟨vs, ws, vs[i]'(by omega), ws[i]'(by omega), sql_up (s1.trans s2) h1, sql_up (s1.trans s2) h2, List.getElem?_eq_getElem _, List.getElem?_eq_getElem _⟩
  stop := fun G' H' s1 s2 => by
    rw [zipR_len hl]
    exact ⟨vs, ws, sql_up (s1.trans s2) h1, sql_up (s1.trans s2) h2, .inl (by rw [n1.len]; exact Nat.le_refl _)⟩
  yld := fun i T G' H' x H'' s1 s2 hT y => by
    obtain ⟨R, S, hR, hS, rfl⟩ := zipR_get hT
    obtain ⟨p, u, v, rfl, hp, rfl, q1, q2⟩ := y
    obtain ⟨u', hu, ru⟩ := n1.get hR
    obtain ⟨v', hv, rv⟩ := n2.get hS
    have e1 := q1 vs (sql_up (s1.trans s2) h1)
    have e2 := q2 ws (sql_up (s1.trans s2) h2)
    rw [hu] at e1
    rw [hv] at e2
    cases e1
    cases e2
    have st := Step.new (o := .tup [u, v]) s2 hp
    exact ⟨_, st, p, [u, v], rfl, upd_same, (mk2 (R.mo _ _ _ s1 ru) (S.mo _ _ _ s1 rv)).up st.gg⟩
theorem yld_zipT {K : PySem.W.Frag} {a c : Addr} {vs ws : List V} {G : Hp} (h1 : SqT K G a vs) (h2 : SqT K G c ws) (n1 : All2 Rs vs G) (n2 : All2 Ss ws G) (hl : Rs.length = Ss.length) : Yld (RZ.ItzT K a c) (zipR Rs Ss) G where
  go := fun i G' H' s1 s2 hi => by
    rw [zipR_len hl] at hi
    have l1 := n1.len
    have l2 := n2.len
    exact ⟨vs, ws, vs[i]'(by omega), ws[i]'(by omega), sqt_up (s1.trans s2) h1, sqt_up (s1.trans s2) h2, List.getElem?_eq_getElem _, List.getElem?_eq_getElem _⟩
  stop := fun G' H' s1 s2 => by
    rw [zipR_len hl]
    exact ⟨vs, ws, sqt_up (s1.trans s2) h1, sqt_up (s1.trans s2) h2, .inl (by rw [n1.len]; exact Nat.le_refl _)⟩
  yld := fun i T G' H' x H'' s1 s2 hT y => by
    obtain ⟨R, S, hR, hS, rfl⟩ := zipR_get hT
    obtain ⟨p, u, v, rfl, hp, rfl, q1, q2⟩ := y
    obtain ⟨u', hu, ru⟩ := n1.get hR
    obtain ⟨v', hv, rv⟩ := n2.get hS
    have e1 := q1 vs (sqt_up (s1.trans s2) h1)
    have e2 := q2 ws (sqt_up (s1.trans s2) h2)
    rw [hu] at e1
    rw [hv] at e2
    cases e1
    cases e2
    have st := Step.new (o := .tup [u, v]) s2 hp
    exact ⟨_, st, p, [u, v], rfl, upd_same, (mk2 (R.mo _ _ _ s1 ru) (S.mo _ _ _ s1 rv)).up st.gg⟩
theorem it_zip2 (he : AR F ρ ω [e, e2] [rSeq b Rs, rSeq b Ss] w1) (hl : Rs.length = Ss.length) (hg : Gl F.X "zip") (hm : F.X.mg "zip" = none)
    (hs : starEach [e, e2] F.X.env = (false, eval e F.X.env) :: starEach [e2] F.X.env := by rfl) (hpl : (backTo pos (starEach [e2] F.X.env)).any (·.1) = false := by rfl) : IT F ρ ω (.Tuple elts kk tpos) (.Call (.Name "zip" p) [e, e2] [] pos) (zipR Rs Ss) w1 :=
  ⟨_, RZ.pi_zipA hg hm pa_w hs hpl, fun σ G H at_ sl R q => he σ G H at_ sl _ fun us G2 H2 s2 a2 r2 => by
    obtain ⟨x, y, rfl, hx, hy⟩ := all2 r2
    cases b with
    | true =>
      obtain ⟨a, xs, rfl, h6, h7⟩ := hx
      obtain ⟨c, ys, rfl, h8, h9⟩ := hy
      exact ⟨a, c, xs, ys, rfl, .inl ⟨SqL.of (a2.gh _ _ h6), SqL.of (a2.gh _ _ h8), q _ G2 H2 s2 a2 (yld_zipL (SqL.of h6) (SqL.of h8) h7 h9 hl)⟩⟩
    | false =>
      obtain ⟨a, xs, rfl, h6, h7⟩ := hx
      obtain ⟨c, ys, rfl, h8, h9⟩ := hy
      exact ⟨a, c, xs, ys, rfl, .inr ⟨SqT.of (a2.gh _ _ h6), SqT.of (a2.gh _ _ h8), q _ G2 H2 s2 a2 (yld_zipT (SqT.of h6) (SqT.of h8) h7 h9 hl)⟩⟩⟩
end
end W1
set_option maxRecDepth 100000
set_option maxHeartbeats 4000000
set_option exponentiation.threshold 20000
namespace W1
open PySem PySem.Spec PyProof.Rows L2 NdefX TL NumText
/-! ### fractions: lists and dicts of them -/
abbrev Dm := List (Str × Rat)
def fsQ (R : Addr) (dm : Dm) : List (Key × Rl) := dm.map fun p => (Sum.inr p.1, rRat R p.2)
def namesQ (dm : Dm) : List Str := dm.map (·.1)
def valQ (dm : Dm) (g : Str) : Rat := ((dm.find? fun p => decide (p.1 = g)).map (·.2)).getD 0
theorem valR_Q {R : Addr} : ∀ {dm : Dm} {g : Str}, valR (fsQ R dm) (.inr g) = (dm.find? fun p => decide (p.1 = g)).map fun p => rRat R p.2
  | [], g => rfl
  | p :: dm, g => by
    unfold fsQ valR
    rw [List.map_cons, List.find?_cons, List.find?_cons]
    by_cases h : p.1 = g
    · have h2 : decide ((Sum.inr p.1 : Key) = Sum.inr g) = true := decide_eq_true (by rw [h])
      simp only [h2, decide_eq_true h, Option.map_some]
    · have h2 : decide ((Sum.inr p.1 : Key) = Sum.inr g) = false := decide_eq_false fun z => h (Sum.inr.inj z)
      simp only [h2, decide_eq_false h]
      exact valR_Q (dm := dm)
theorem valR_Qget {R : Addr} {dm : Dm} {g : Str} : (valR (fsQ R dm) (.inr g)).getD (rRat R 0) = rRat R (valQ dm g) := by
  rw [valR_Q]
  unfold valQ
  cases dm.find? fun p => decide (p.1 = g) <;> rfl
theorem mem_valQ {dm : Dm} {g : Str} : (valQ dm g) = 0 ∨ ∃ p ∈ dm, p.1 = g ∧ valQ dm g = p.2 := by
  unfold valQ
  cases e : dm.find? fun p => decide (p.1 = g) with
  | none => exact .inl rfl
  | some p => exact .inr ⟨p, List.mem_of_find?_eq_some e, of_decide_eq_true (by simpa using List.find?_some e), rfl⟩
/-! sizes -/
theorem sz_zero : Sz 1 0 := by
  refine ⟨?_, ?_⟩ <;> decide
theorem sz_intR {n : Nat} {i : Int} (h : i.natAbs < 2 ^ n) (h1 : 1 ≤ n) : Sz n (i : Rat) := by
  refine ⟨by simpa using h, ?_⟩
  show (i : Rat).den < 2 ^ n
  rw [show (i : Rat).den = 1 from rfl]
  exact Nat.lt_of_lt_of_le (by decide : 1 < 2 ^ 1) (Nat.pow_le_pow_right (by decide) h1)
section
variable {F : Fx} {ρ : Ty} {ω w w1 : Ow} {e : Expr} {pos p tpos : Pos} {Rs : List Rl} {elts : List Expr} {kk : Nat} {b : Bool} {A B : Rl} {n : Nat}
theorem it_enumRq (he : AR F ρ ω [e] [rSeq b Rs] w1) (hg : Gl F.X "enumerate") (hm : F.X.mg "enumerate" = none) (hs : starEach [e] F.X.env = [(false, eval e F.X.env)] := by rfl) :
    IT F ρ ω (.Tuple elts kk tpos) (.Call (.Name "enumerate" p) [e] [] pos) (numR Rs) w1 := by
  cases b
  · exact it_enumT he hg hm hs
  · exact it_enumL he hg hm hs
end
/-! ### the program's plans -/
/-- what is known of the class of fractions -/
structure RtX (P : Program) (w : World) (K : PySem.W.Frag) (mg : Str → Option Value) (base : Heap) (R M : Addr) : Prop where
  X : RatX K mg R
  Tq : Kc P w K mg base R "Ratio" 3 (pInit R M)
  Tw : Kcm P w K mg base R "whole" 5 (pWhole R)
  Ta : Ko P w K mg base R "__add__" 5 (pAdd R)
  Tm : Ko P w K mg base R "__mul__" 5 (pMul R)
  Te : Ko P w K mg base R "__eq__" 5 (pEq R)
  Tu : Km P w K mg base R "under" 5 (pUnder R)
def planE (n : Nat) (qs : List Rat) : Option (Int ⊕ Rat) := if qs.length = n then (qs.find? fun q => decide (q < 0)).map .inr else some (.inl qs.length)
def errP (M R : Addr) : Int ⊕ Rat → Er
  | .inl n => erF M "n" (rInt n)
  | .inr q => erF M "n" (rRat R q)
def pAmount (R : Addr) : Pre := fun Rs w o w' => ∃ dm g, Rs = [rDct (fsQ R dm), rStr g] ∧ w = [] ∧ w' = [] ∧ o = .ok (rRat R (valQ dm g))
def pChkP (C W M R : Addr) : Pre := fun Rs w o w' => ∃ gs ys b qs, (∀ q ∈ qs, Sz 1900 q) ∧ qs.length ≤ 1000 ∧ ys.length ≤ 1000 ∧ Rs = [rBook C W gs ys, rSeq b (qs.map (rRat R))] ∧ w = [] ∧ w' = [] ∧ o = (match planE ys.length qs with | none => .ok rNon | some x => .error (errP M R x))
section
variable {P : Program} {w : World} {K : PySem.W.Frag} {mg : Str → Option Value} {base : Heap} {W C M R U V f gi : Addr} {fd : FuncData}
theorem kf_amount (Fn : Fun K "amount" "amount" s_amount f fd) (X : RtX P w K mg base R M) : FnOk P w K mg base (L2.CX P w) 6 f fd P_amount (spM (pAmount R)) := by
  refine fn_ok Fn c_amount (fun _ _ _ _ ⟨_, _, h, _⟩ => by rw [h]; rfl) ?_
  rintro cdv A outer s H E ⟨_, G0, H0, M', W', tk⟩ hr rfl Rs ω o ω' ⟨dm, g, rfl, rfl, rfl, rfl⟩
  exact hb_ret (er_eq (er_dget2 (k := .inr g) (er_v 0 rfl rfl) (er_v 1 rfl rfl) (er_cm X.Tw hr (er_gC X.X.gC) (ar_cons er_int ar_nil) (pWholeOk (n := 0))) isd_frz isd_frz hr) valR_Qget) ⟨_, [], rfl, fun v G h => h, rfl⟩
theorem kf_chkp (Fn : Fun K "check_plan" "check_plan" s_check_plan f fd) (BX : BookX K mg C) (X : RtX P w K mg base R M) (Tl : Ko P w K mg base C "__len__" 1 (pBLen C W)) (Ti : Ke P w K mg base M "BadNumber" "n" 1 prInt) (Tr : Ke P w K mg base M "BadNumber" "n" 4 (prRat R)) (len : mg "len" = none) : FnOk P w K mg base (L2.CX P w) 6 f fd P_check_plan (spM (pChkP C W M R)) := by
  refine fn_ok Fn c_check_plan (fun _ _ _ _ ⟨_, _, _, _, _, _, _, h, _⟩ => by rw [h]; rfl) ?_
  rintro cdv A outer s H E ⟨_, G0, H0, M', W', tk⟩ hr rfl Rs ω o ω' ⟨gs, ys, b, qs, hq, lq, ly, rfl, rfl, rfl, rfl⟩
  have nd := c_check_plan.nd
  have r2 := hr.mono (show 2 ≤ 5 by decide)
  have lQ : ∀ {F : Fx} {w : Ow}, Cop F w (.builtin "len") [rSeq b (qs.map (rRat R))] (rInt ((qs.length : Nat) : Int)) := fun {F w} => by
    have := cop_lenRq (F := F) (ω := w) (b := b) (Rs := qs.map (rRat R))
    rw [List.length_map] at this
    exact this
  refine hb_if (b := !decide (qs.length = ys.length)) (tr_to (tr_cmp (er_bA (ar_cons (er_v 1 rfl rfl) ar_nil) len bt_len lQ) (er_bA (ar_cons (er_v 0 rfl rfl) ar_nil) len bt_len (cop_oL (m := ys.length) Tl r2 ⟨gs, ys, rfl, rfl, rfl, rfl⟩ (by omega))) bop_neI) (by congr 1; apply decide_eq_decide.mpr; omega)) (fun h => ?_) (fun h => hb_nil ?_)
  · have hn : ¬ qs.length = ys.length := by simpa using h
    have e : planE ys.length qs = some (.inl qs.length) := by unfold planE; rw [if_neg hn]
    rw [e]
    exact hb_err Ti (hr.mono (by decide)) (ar_cons (er_bA (ar_cons (er_v 1 rfl rfl) ar_nil) len bt_len lQ) ar_nil) ⟨_, [], rfl, fun _ _ _ h => h, rfl⟩ fun v G h => ⟨_, h, small_nat (by omega)⟩
  have hn : qs.length = ys.length := by simpa using h
  have pe : planE ys.length qs = (qs.find? fun q => decide (q < 0)).map .inr := by unfold planE; rw [if_pos hn]
  refine hb_for (it_Rq (er_v 1 rfl rfl)) (fun k ρ w => w = [] ∧ (∀ q ∈ qs.take k, ¬ q < 0) ∧ ∃ z, ρ = [some (rBook C W gs ys), some (rSeq b (qs.map (rRat R))), z]) ⟨rfl, fun _ h => (by cases h), none, rfl⟩ ?_ ?_ (passes_of rfl) (pg_name (i := 2) nd rfl (Or.inl rfl))
  · rintro k ρ w S hS ⟨rfl, hk, z, rfl⟩
    obtain ⟨q, eq, rfl⟩ := map_get hS
    have sq := hq q (List.mem_of_getElem? eq)
    refine ⟨_, ge_name, ?_⟩
    refine hb_if (b := decide (q < 0)) (tr_val (er_m X.Tu X.X.cx.cls hr (er_v 2 rfl rfl) (ar_cons (er_cm X.Tw hr (er_gC X.X.gC) (ar_cons er_int ar_nil) (pWholeOk (n := 0))) ar_nil) (pUnderOk (sq.mono (by decide)) (sz_zero.mono (by decide))))) (fun h => ?_) (fun h => hb_nil (hb_nil ⟨rfl, fun x hx => ?_, _, rfl⟩))
    · have hf : qs.find? (fun q => decide (q < 0)) = some q := find_at eq h fun x hx => decide_eq_false (hk x hx)
      rw [pe, hf]
      exact hb_err Tr (hr.mono (by decide)) (ar_cons (er_v 2 rfl rfl) ar_nil) ⟨_, [], rfl, fun _ _ _ h => h, rfl⟩ fun v G h => ⟨⟨q, sq⟩, h⟩
    · rw [List.take_add_one, eq] at hx
      rcases List.mem_append.mp hx with hx | hx
      · exact hk x hx
      · rw [List.mem_singleton.mp hx]; exact of_decide_eq_false h
  · rintro ρ w ⟨rfl, hk, z, rfl⟩
    rw [List.length_map, List.take_length] at hk
    have hf : qs.find? (fun q => decide (q < 0)) = none := List.find?_eq_none.mpr fun x hx => by simpa using hk x hx
    exact hb_nil ⟨rNon, [], by rw [pe, hf]; rfl, fun _ => rfl, rfl⟩
end
end W1
set_option maxRecDepth 100000
set_option maxHeartbeats 4000000
set_option exponentiation.threshold 20000
namespace W1
open PySem PySem.Spec PyProof.Rows L2 NdefX TL NumText
/-! ### the law's demands -/
def putQ (dm : Dm) (k : Str) (v : Rat) : Dm := if k ∈ namesQ dm then dm.map (fun p => if p.1 = k then (p.1, v) else p) else dm ++ [(k, v)]
theorem putK_Q {R : Addr} (dm : Dm) (k : Str) (v : Rat) : putKR (fsQ R dm) (.inr k) (rRat R v) = fsQ R (putQ dm k v) := by
  have e : (((fsQ R dm).any fun kv => decide (kv.1 = Sum.inr k)) = true) ↔ k ∈ namesQ dm := by
    unfold fsQ namesQ
    rw [List.any_map, List.any_eq_true]
    constructor
    · rintro ⟨p, hp, h⟩
      exact List.mem_map.mpr ⟨p, hp, Sum.inr.inj (of_decide_eq_true h)⟩
    · intro h
      obtain ⟨p, hp, rfl⟩ := List.mem_map.mp h
      exact ⟨p, hp, decide_eq_true rfl⟩
  unfold putKR putQ
  by_cases h : k ∈ namesQ dm
  · rw [if_pos (e.mpr h), if_pos h]
    unfold fsQ
    rw [List.map_map, List.map_map]
    apply List.map_congr_left
    intro p _
    show (if (Sum.inr p.1 : Key) = Sum.inr k then ((Sum.inr p.1 : Key), rRat R v) else (Sum.inr p.1, rRat R p.2)) = _
    by_cases h : p.1 = k
    · rw [if_pos (congrArg Sum.inr h)]
      show _ = ((Sum.inr (if p.1 = k then (p.1, v) else p).1 : Key), rRat R (if p.1 = k then (p.1, v) else p).2)
      rw [if_pos h]
    · rw [if_neg (fun z => h (Sum.inr.inj z))]
      show _ = ((Sum.inr (if p.1 = k then (p.1, v) else p).1 : Key), rRat R (if p.1 = k then (p.1, v) else p).2)
      rw [if_neg h]
  · rw [if_neg (fun z => h (e.mp z)), if_neg h]
    unfold fsQ
    rw [List.map_append]
    rfl
theorem names_putQ (dm : Dm) (k : Str) (v : Rat) : namesQ (putQ dm k v) = if k ∈ namesQ dm then namesQ dm else namesQ dm ++ [k] := by
  unfold putQ
  split
  · unfold namesQ
    rw [List.map_map]
    apply List.map_congr_left
    intro p _
    show (if p.1 = k then (p.1, v) else p).1 = p.1
    split <;> rfl
  · unfold namesQ
    rw [List.map_append]
    rfl
/-- a demand of few names -/
structure DmOk (n : Nat) (dm : Dm) : Prop where
  nd : (namesQ dm).Nodup
  sz : ∀ p ∈ dm, Sz 100 p.2
  ln : dm.length ≤ n
theorem DmOk.nil : DmOk 0 [] := ⟨List.nodup_nil, fun _ h => (by cases h), Nat.le_refl _⟩
theorem DmOk.put {n : Nat} {dm : Dm} {k : Str} {v : Rat} (h : DmOk n dm) (hv : Sz 100 v) : DmOk (n + 1) (putQ dm k v) := by
  refine ⟨?_, fun p hp => ?_, ?_⟩
  · rw [names_putQ]
    split
    · exact h.nd
    · next hm => exact List.nodup_append.mpr ⟨h.nd, by simp, fun x hx y hy => by rw [List.mem_singleton.mp hy]; exact fun e => hm (e ▸ hx)⟩
  · unfold putQ at hp
    split at hp
    · obtain ⟨q, hq, rfl⟩ := List.mem_map.mp hp
      show Sz 100 (if q.1 = k then (q.1, v) else q).2
      split
      · exact hv
      · exact h.sz q hq
    · rcases List.mem_append.mp hp with hp | hp
      · exact h.sz p hp
      · rw [List.mem_singleton.mp hp]; exact hv
  · have := h.ln
    unfold putQ
    split
    · rw [List.length_map]; omega
    · rw [List.length_append, List.length_singleton]; omega
theorem DmOk.mono {m n : Nat} {dm : Dm} (h : DmOk m dm) (l : m ≤ n) : DmOk n dm := ⟨h.nd, h.sz, Nat.le_trans h.ln l⟩
theorem DmOk.small {n : Nat} {dm : Dm} (h : DmOk n dm) : ∀ p ∈ dm, small p.2 := fun p hp => (h.sz p hp).mono (by decide)
theorem len_fsQ {R : Addr} {dm : Dm} : (fsQ R dm).length = dm.length := List.length_map _
/-- a drawn fraction is small -/
theorem sz_drawn {t u : Int} (h1 : t.natAbs ≤ 20) (h2 : 1 ≤ u ∧ u ≤ 20) : Sz 100 (Rat.divInt t u) := sz_divInt (by omega) (Nat.lt_of_le_of_lt h1 (by decide)) (Nat.lt_of_le_of_lt (show u.natAbs ≤ 20 by omega) (by decide))
theorem lt9 {u : Int} (h : u.natAbs ≤ 100) : u.natAbs < 2 ^ 9000 := lt9000 (Nat.lt_of_le_of_lt h (by decide : 100 < 2 ^ 64)) (by decide)
section
variable {P : Program} {w : World} {K : PySem.W.Frag} {mg : Str → Option Value} {base : Heap} {W C M R U V f gi : Addr} {fd : FuncData}
end
end W1
set_option maxRecDepth 100000
set_option maxHeartbeats 4000000
set_option exponentiation.threshold 20000
namespace W1
open PySem PySem.Spec PyProof.Rows L2 NdefX TL NumText
/-! ### any, values -/
theorem bt_any : bootBuiltins "any" = some (.builtin "any") := by decide +kernel
theorem bt_dictT : bootBuiltins "dict" = some (.type "dict") := by decide +kernel
section
variable {F : Fx} {ρ : Ty} {ω w w1 : Ow} {tg it e : Expr} {fs : List (Key × Rl)} {apos cpos : Pos}
theorem cop_any {bs : List Bool} (hc : F.X.calm = true) : Cop F w (.builtin "any") [rLst (bs.map rBool)] (rBool (bs.any _root_.id)) := ⟨_, cr_any hc, fun xs G H at_ hx Q q => by
  obtain ⟨x, rfl, p, vs, rfl, h1, h2⟩ := all1 hx
  have e : vs = bs.map V.bl := all2_vals (H := G) (by rw [List.map_map]; exact h2)
  rw [e] at h1
  exact ⟨p, bs, rfl, SqL.of (at_.gh _ _ h1), q _ G H (Same.refl _) at_ rfl⟩⟩
end
/-! ### what a demand lacks -/
structure BkQ (gs : List Str) (ys : List Wy) : Prop where
  G : Goods gs
  h0 : 0 < gs.length
  h4 : gs.length ≤ 4
  R : RowsK gs ys
def dmE (gs : List Str) (dm : Dm) : List Str → Option (Str ⊕ Rat)
  | [] => none
  | g :: r => if g ∈ gs then (if valQ dm g < 0 then some (.inr (valQ dm g)) else dmE gs dm r) else some (.inl g)
def demE (gs : List Str) (dm : Dm) : Option (Str ⊕ Rat) := dmE gs dm (srt (namesQ dm))
def errD (M U R : Addr) : Str ⊕ Rat → Er
  | .inl g => erF U "name" (rStr g)
  | .inr q => erF M "n" (rRat R q)
/-- a demand's names and numbers are of no great size -/
structure DmS (dm : Dm) : Prop where
  ok : DmOk 60 dm
  nm : ∀ g ∈ namesQ dm, g.length ≤ 640
theorem valQ_mem {dm : Dm} {g : Str} (h : g ∈ namesQ dm) : ∃ p ∈ dm, p.1 = g ∧ valQ dm g = p.2 ∧ dm.find? (fun p => decide (p.1 = g)) = some p := by
  obtain ⟨p, hp, e⟩ := List.mem_map.mp h
  unfold valQ
  cases ef : dm.find? fun p => decide (p.1 = g) with
  | some p => exact ⟨p, List.mem_of_find?_eq_some ef, of_decide_eq_true (by simpa using List.find?_some ef), rfl, rfl⟩
  | none =>
    have := List.find?_eq_none.mp ef p hp
    simp [e] at this
theorem valQ_sz {n : Nat} {dm : Dm} {g : Str} (h : DmOk n dm) : Sz 100 (valQ dm g) := by
  rcases mem_valQ (dm := dm) (g := g) with e | ⟨p, hp, _, e⟩
  · rw [e]; exact sz_zero.mono (by decide)
  · rw [e]; exact h.sz p hp
theorem kRs_Qd {R : Addr} {dm : Dm} : kRs (fsQ R dm) = (namesQ dm).map rStr := by
  unfold kRs fsQ namesQ
  rw [List.map_map, List.map_map]
  rfl
def pChkD (C W M U R : Addr) : Pre := fun Rs w o w' => ∃ gs ys dm, DmS dm ∧ Rs = [rBook C W gs ys, rDct (fsQ R dm)] ∧ w = [] ∧ w' = [] ∧ o = (match demE gs dm with | none => .ok rNon | some x => .error (errD M U R x))
section
variable {P : Program} {w : World} {K : PySem.W.Frag} {mg : Str → Option Value} {base : Heap} {W C M R U V f gi : Addr} {fd : FuncData}
theorem kf_chkd (Fn : Fun K "check_demand" "check_demand" s_check_demand f fd) (BX : BookX K mg C) (X : RtX P w K mg base R M) (Tu : Ke P w K mg base U "UnknownName" "name" 1 prStr) (Tr : Ke P w K mg base M "BadNumber" "n" 4 (prRat R)) (ls : mg "list" = none) (st : mg "sorted" = none) : FnOk P w K mg base (L2.CX P w) 6 f fd P_check_demand (spM (pChkD C W M U R)) := by
  refine fn_ok Fn c_check_demand (fun _ _ _ _ ⟨_, _, _, _, h, _⟩ => by rw [h]; rfl) ?_
  rintro cdv A outer s H E ⟨_, G0, H0, M', W', tk⟩ hr rfl Rs ω o ω' ⟨gs, ys, dm, ok, rfl, rfl, rfl, rfl⟩
  have nd := c_check_demand.nd
  have cl := BX.cx.cls
  have nn := BX.nn
  have r1 := hr.mono (show 1 ≤ 5 by decide)
  have r4 := hr.mono (show 4 ≤ 5 by decide)
  refine hb_for (it_lst (er_bA (ar_cons (er_eq (S := rLst ((namesQ dm).map rStr)) (er_tA (ar_cons (er_v 1 rfl rfl) ar_nil) ls bt_list (cop_listD rfl isd_frz)) (congrArg rLst kRs_Qd)) ar_nil) st bt_sorted copA)) (fun k ρ w => w = [] ∧ demE gs dm = dmE gs dm ((srt (namesQ dm)).drop k) ∧ ∃ z, ρ = [some (rBook C W gs ys), some (rDct (fsQ R dm)), z]) ⟨rfl, rfl, none, rfl⟩ ?_ ?_ (passes_of rfl) (pg_name (i := 2) nd rfl (Or.inl rfl))
  · rintro k ρ w S hS ⟨rfl, hk, z, rfl⟩
    obtain ⟨g, eg, rfl⟩ := map_get hS
    have hkl := (List.getElem?_eq_some_iff.mp eg).1
    have hg : g ∈ namesQ dm := srt_mem (List.mem_of_getElem? eg)
    have ed : (srt (namesQ dm)).drop k = g :: (srt (namesQ dm)).drop (k + 1) := by
      rw [List.drop_eq_getElem_cons hkl]
      congr 1
      have := List.getElem?_eq_getElem hkl
      rw [eg] at this
      exact (Option.some.inj this).symm
    rw [ed] at hk
    unfold dmE at hk
    refine ⟨_, ge_name, ?_⟩
    refine hb_if (b := !decide (g ∈ srt gs)) (tr_cmp (er_v 2 rfl rfl) (er_fld (er_v 0 rfl rfl) cl nn rfl) (bop_niQ isq_T)) (fun hb => ?_) (fun hb => hb_nil ?_)
    · have h : ¬ g ∈ gs := fun z => by
        rw [decide_eq_true (srt_mem_iff.mpr z)] at hb
        cases hb
      rw [if_neg h] at hk
      exact hb_err Tu (hr.mono (by decide)) (ar_cons (er_v 2 rfl rfl) ar_nil) ⟨_, [], by rw [hk]; rfl, fun _ _ _ h => h, rfl⟩ fun v G h => ⟨g, h, Nat.le_trans (ok.nm g hg) (by decide)⟩
    have h : g ∈ gs := srt_mem_iff.mp (by simpa using hb)
    rw [if_pos h] at hk
    obtain ⟨p, hp, ep, ev, ef⟩ := valQ_mem hg
    have sv := valQ_sz (g := g) ok.ok
    have gt : ∀ {F : Fx} {ω : Ow} {ρ : Ty} {o ix : Expr} {pos : Pos}, ER F ρ ω o (rDct (fsQ R dm)) ω → ER F ρ ω ix (rStr g) ω → Room 5 F.X.A → NoSl ix → ER F ρ ω (.Subscript o ix pos) (rRat R (valQ dm g)) ω := fun h1 h2 h3 h4 => er_dget (k := .inr g) h1 h2 isd_frz (by rw [valR_Q, ef, ev]; rfl) h3 h4
    refine hb_if (b := decide (valQ dm g < 0)) (tr_val (er_m X.Tu X.X.cx.cls hr (gt (er_v 1 rfl rfl) (er_v 2 rfl rfl) hr (by exact fun _ _ => rfl)) (ar_cons (er_cm X.Tw hr (er_gC X.X.gC) (ar_cons er_int ar_nil) (pWholeOk (n := 0))) ar_nil) (pUnderOk (sv.mono (by decide)) (sz_zero.mono (by decide))))) (fun hb => ?_) (fun hb => hb_nil (hb_nil ?_))
    · have hb := of_decide_eq_true hb
      rw [if_pos hb] at hk
      exact hb_err Tr (hr.mono (by decide)) (ar_cons (gt (er_v 1 rfl rfl) (er_v 2 rfl rfl) hr (by exact fun _ _ => rfl)) ar_nil) ⟨_, [], by rw [hk]; rfl, fun _ _ _ h => h, rfl⟩ fun v G h => ⟨⟨valQ dm g, sv.mono (by decide)⟩, h⟩
    · have hb := of_decide_eq_false hb
      rw [if_neg hb] at hk
      exact ⟨rfl, hk, _, rfl⟩
  · rintro ρ w ⟨rfl, hk, z, rfl⟩
    rw [List.length_map, List.drop_length] at hk
    exact hb_nil ⟨rNon, [], by rw [hk]; rfl, fun _ => rfl, rfl⟩
end
end W1
set_option maxRecDepth 100000
set_option maxHeartbeats 4000000
set_option exponentiation.threshold 20000
namespace W1
open PySem PySem.Spec PyProof.Rows L2 NdefX TL NumText
/-! ### a comprehension that stays owned, a slice as a new list, x != [] -/
section
variable {F : Fx} {ρ : Ty} {ω w w1 w2 w3 : Ow} {e o ix it elt : Expr} {R S A : Rl} {Rs : List Rl} {K : Kn} {rest : List Stmt} {pos p spos py p2 : Pos} {x y : Str} {q : Addr} {Φ : Rl → Ow → Prop} {scope : Scope} {v u : Option Int}
end
/-! ### plans drawn -/
structure QsD (n : Nat) (qs : List Rat) : Prop where
  sz : ∀ q ∈ qs, Sz 4 q
  ln : qs.length ≤ n
section
variable {P : Program} {w : World} {K : PySem.W.Frag} {mg : Str → Option Value} {base : Heap} {W C M R U V f gi : Addr} {fd : FuncData}
end
end W1
set_option maxRecDepth 100000
set_option maxHeartbeats 4000000
set_option exponentiation.threshold 20000
namespace W1
open PySem PySem.Spec PyProof.Rows L2 NdefX TL NumText
/-! ### demands and prices drawn -/
structure DmU (n : Nat) (dm : Dm) : Prop where
  ok : DmOk n dm
  nm : ∀ g ∈ namesQ dm, g.length ≤ 640
theorem DmU.put {n : Nat} {dm : Dm} {k : Str} {v : Rat} (h : DmU n dm) (hv : Sz 100 v) (hk : k.length ≤ 640) : DmU (n + 1) (putQ dm k v) := by
  refine ⟨h.ok.put hv, fun g hg => ?_⟩
  rw [names_putQ] at hg
  split at hg
  · exact h.nm g hg
  · rcases List.mem_append.mp hg with hg | hg
    · exact h.nm g hg
    · rw [List.mem_singleton.mp hg]; exact hk
theorem DmU.mono {m n : Nat} {dm : Dm} (h : DmU m dm) (l : m ≤ n) : DmU n dm := ⟨h.ok.mono l, h.nm⟩
theorem DmU.s {n : Nat} {dm : Dm} (h : DmU n dm) (l : n ≤ 60) : DmS dm := ⟨h.ok.mono l, h.nm⟩
section
variable {P : Program} {w : World} {K : PySem.W.Frag} {mg : Str → Option Value} {base : Heap} {W C M R U V f gi : Addr} {fd : FuncData}
end
end W1
namespace LP

/-! ### sums -/
def sumN : Nat → (Nat → Rat) → Rat
  | 0, _ => 0
  | n + 1, f => sumN n f + f n
theorem sumN_congr : ∀ {n : Nat} {f g : Nat → Rat}, (∀ i, i < n → f i = g i) → sumN n f = sumN n g
  | 0, _, _, _ => rfl
  | n + 1, f, g, h => by
    unfold sumN
    rw [sumN_congr (n := n) fun i hi => h i (by omega), h n (by omega)]
theorem sumN_zero : ∀ {n : Nat} {f : Nat → Rat}, (∀ i, i < n → f i = 0) → sumN n f = 0
  | 0, _, _ => rfl
  | n + 1, f, h => by
    unfold sumN
    rw [sumN_zero (n := n) fun i hi => h i (by omega), h n (by omega)]
    grind
theorem sumN_add : ∀ {n : Nat} {f g : Nat → Rat}, sumN n (fun i => f i + g i) = sumN n f + sumN n g
  | 0, _, _ => by unfold sumN; grind
  | n + 1, f, g => by
    unfold sumN
    rw [sumN_add (n := n)]
    grind
theorem sumN_mul (c : Rat) : ∀ {n : Nat} {f : Nat → Rat}, sumN n (fun i => c * f i) = c * sumN n f
  | 0, _ => by unfold sumN; grind
  | n + 1, f => by
    unfold sumN
    rw [sumN_mul c (n := n)]
    grind
theorem sumN_one : ∀ {n r : Nat} {f : Nat → Rat}, r < n → (∀ i, i < n → i ≠ r → f i = 0) → sumN n f = f r
  | n + 1, r, f, hr, h => by
    unfold sumN
    by_cases e : r = n
    · subst e
      rw [sumN_zero fun i hi => h i (by omega) (by omega)]
      grind
    · rw [sumN_one (n := n) (r := r) (by omega) fun i hi hn => h i (by omega) hn, h n (by omega) (by omega)]
      grind
theorem sumN_nonneg : ∀ {n : Nat} {f : Nat → Rat}, (∀ i, i < n → 0 ≤ f i) → 0 ≤ sumN n f
  | 0, _, _ => by unfold sumN; grind
  | n + 1, f, h => by
    unfold sumN
    have a := sumN_nonneg (n := n) (f := f) fun i hi => h i (by omega)
    have b := h n (by omega)
    grind
theorem sumN_le : ∀ {n : Nat} {f g : Nat → Rat}, (∀ i, i < n → f i ≤ g i) → sumN n f ≤ sumN n g
  | 0, _, _, _ => by unfold sumN; grind
  | n + 1, f, g, h => by
    unfold sumN
    have a := sumN_le (n := n) (f := f) (g := g) fun i hi => h i (by omega)
    have b := h n (by omega)
    grind
theorem sumN_pos {n : Nat} {f : Nat → Rat} (h : 0 < sumN n f) : ∃ i, i < n ∧ 0 < f i := by
  by_cases e : ∃ i, i < n ∧ 0 < f i
  · exact e
  · have : sumN n f ≤ sumN n (fun _ => 0) := sumN_le fun i hi => by
      have : ¬ 0 < f i := fun z => e ⟨i, hi, z⟩
      grind
    rw [sumN_zero (n := n) (f := fun _ => 0) fun _ _ => rfl] at this
    grind
theorem sumN_swap (f : Nat → Nat → Rat) (m : Nat) : ∀ (n : Nat), sumN n (fun i => sumN m (fun j => f i j)) = sumN m (fun j => sumN n (fun i => f i j))
  | 0 => (sumN_zero (n := m) (f := fun j => sumN 0 fun i => f i j) fun _ _ => rfl).symm
  | n + 1 => by
    have e : (fun j => sumN (n + 1) fun i => f i j) = fun j => sumN n (fun i => f i j) + f n j := rfl
    rw [e, sumN_add, ← sumN_swap f m n]
    rfl
theorem sumN_split (f : Nat → Rat) (m : Nat) : ∀ (n : Nat), sumN (m + n) f = sumN m f + sumN n (fun i => f (m + i))
  | 0 => by
    show sumN m f = sumN m f + 0
    grind
  | n + 1 => by
    show sumN (m + n) f + f (m + n) = sumN m f + (sumN n (fun i => f (m + i)) + f (m + n))
    rw [sumN_split f m n]
    grind

/-! ### sheets -/
structure Sht where
  T : Nat → Nat → Rat
  g : Nat → Rat
  B : Nat → Nat
/-- the rows of A, the goal, how many columns there are ahead of the slacks, how many rows -/
structure Dat where
  A : Nat → Nat → Rat
  g0 : Nat → Rat
  m : Nat
  n : Nat
abbrev Dat.N (d : Dat) : Nat := d.m + d.n
def InV (d : Dat) (v : Nat → Rat) : Prop := ∀ j, j ≤ d.N → v j = sumN d.n fun k => v (d.m + k) * d.A k j
def turn (S : Sht) (r c : Nat) : Sht where
  T := fun i j => if i = r then S.T r j / S.T r c else S.T i j - S.T i c * (S.T r j / S.T r c)
  g := fun j => S.g j - S.g c * (S.T r j / S.T r c)
  B := fun i => if i = r then c else S.B i
structure Tab (d : Dat) (S : Sht) : Prop where
  rows : ∀ i, i < d.n → InV d (S.T i)
  goal : InV d fun j => S.g j - d.g0 j
  span : ∀ v, InV d v → ∀ j, j ≤ d.N → v j = sumN d.n fun i => v (S.B i) * S.T i j
  idm : ∀ i k, i < d.n → k < d.n → S.T i (S.B k) = if i = k then 1 else 0
  gz : ∀ k, k < d.n → S.g (S.B k) = 0
  bl : ∀ i, i < d.n → S.B i < d.N
section
variable {d : Dat} {S : Sht}
theorem InV.add {v w : Nat → Rat} (a : Rat) (hv : InV d v) (hw : InV d w) : InV d fun j => v j + a * w j := fun j hj => by
  have e : (fun k => (v (d.m + k) + a * w (d.m + k)) * d.A k j) = fun k => v (d.m + k) * d.A k j + a * (w (d.m + k) * d.A k j) := by
    funext k; grind
  show v j + a * w j = sumN d.n fun k => (v (d.m + k) + a * w (d.m + k)) * d.A k j
  rw [e, sumN_add, sumN_mul, ← hv j hj, ← hw j hj]
theorem InV.scale {v : Nat → Rat} (a : Rat) (hv : InV d v) : InV d fun j => a * v j := fun j hj => by
  have e : (fun k => (a * v (d.m + k)) * d.A k j) = fun k => a * (v (d.m + k) * d.A k j) := by
    funext k; grind
  show a * v j = sumN d.n fun k => (a * v (d.m + k)) * d.A k j
  rw [e, sumN_mul, ← hv j hj]
theorem InV.eq {v w : Nat → Rat} (h : ∀ j, v j = w j) (hv : InV d v) : InV d w := (funext h : v = w) ▸ hv
theorem Tab.uni (t : Tab d S) {v : Nat → Rat} (hv : InV d v) (h : ∀ k, k < d.n → v (S.B k) = 0) {j : Nat} (hj : j ≤ d.N) : v j = 0 := by
  rw [t.span v hv j hj, sumN_zero]
  intro i hi
  rw [h i hi]; grind
theorem Tab.inj (t : Tab d S) {i k : Nat} (hi : i < d.n) (hk : k < d.n) (e : S.B i = S.B k) : i = k := by
  have a := t.idm i k hi hk
  rw [← e, t.idm i i hi hi] at a
  by_cases h : i = k
  · exact h
  · rw [if_pos rfl, if_neg h] at a
    exact absurd a (by grind)
theorem Tab.turn (t : Tab d S) {r c : Nat} (hr : r < d.n) (hc : c < d.N) (hp : S.T r c ≠ 0) : Tab d (turn S r c) where
  rows := fun i hi => by
    by_cases h : i = r
    · subst h
      refine InV.eq (fun j => ?_) ((t.rows i hi).scale (1 / S.T i c))
      show 1 / S.T i c * S.T i j = if i = i then S.T i j / S.T i c else _
      rw [if_pos rfl]
      grind
    · refine InV.eq (fun j => ?_) ((t.rows i hi).add (-(S.T i c / S.T r c)) (t.rows r hr))
      show S.T i j + -(S.T i c / S.T r c) * S.T r j = if i = r then _ else _
      rw [if_neg h]
      grind
  goal := by
    refine InV.eq (fun j => ?_) (t.goal.add (-(S.g c / S.T r c)) (t.rows r hr))
    show S.g j - d.g0 j + -(S.g c / S.T r c) * S.T r j = S.g j - S.g c * (S.T r j / S.T r c) - d.g0 j
    grind
  span := fun v hv j hj => by
    have e1 := t.span v hv j hj
    have e2 := t.span v hv c (Nat.le_of_lt hc)
    -- the sum without row r
    have key : ∀ j, (sumN d.n fun i => v ((LP.turn S r c).B i) * (LP.turn S r c).T i j) = v c * (S.T r j / S.T r c) + ((sumN d.n fun i => v (S.B i) * S.T i j) - v (S.B r) * S.T r j) - (S.T r j / S.T r c) * ((sumN d.n fun i => v (S.B i) * S.T i c) - v (S.B r) * S.T r c) := by
      intro j
      have a : (fun i => v ((LP.turn S r c).B i) * (LP.turn S r c).T i j) = fun i => ((v (S.B i) * S.T i j) + (-(S.T r j / S.T r c)) * (v (S.B i) * S.T i c)) + (if i = r then v c * (S.T r j / S.T r c) - v (S.B r) * S.T r j + (S.T r j / S.T r c) * (v (S.B r) * S.T r c) else 0) := by
        funext i
        show v (if i = r then c else S.B i) * (if i = r then S.T r j / S.T r c else S.T i j - S.T i c * (S.T r j / S.T r c)) = _
        by_cases h : i = r
        · subst h
          rw [if_pos rfl, if_pos rfl, if_pos rfl]
          grind
        · rw [if_neg h, if_neg h, if_neg h]
          grind
      rw [a, sumN_add, sumN_add, sumN_mul, sumN_one (r := r) (f := fun i => if i = r then v c * (S.T r j / S.T r c) - v (S.B r) * S.T r j + (S.T r j / S.T r c) * (v (S.B r) * S.T r c) else 0) hr (fun i _ hn => if_neg hn), if_pos rfl]
      grind
    rw [key j, ← e1, ← e2]
    grind
  idm := fun i k hi hk => by
    show (if i = r then S.T r (if k = r then c else S.B k) / S.T r c else S.T i (if k = r then c else S.B k) - S.T i c * (S.T r (if k = r then c else S.B k) / S.T r c)) = _
    have a := t.idm i k hi hk
    have b := t.idm r k hr hk
    by_cases h : i = r
    · subst h
      by_cases h2 : k = i
      · subst h2
        rw [if_pos rfl, if_pos rfl, if_pos rfl]
        grind
      · have h3 : i ≠ k := fun z => h2 z.symm
        rw [if_pos rfl, if_neg h2, if_neg h3, a, if_neg h3]
        grind
    · by_cases h2 : k = r
      · subst h2
        rw [if_neg h, if_pos rfl, if_neg h]
        grind
      · have h3 : r ≠ k := fun z => h2 z.symm
        rw [if_neg h, if_neg h2, a, b, if_neg h3]
        grind
  gz := fun k hk => by
    show S.g (if k = r then c else S.B k) - S.g c * (S.T r (if k = r then c else S.B k) / S.T r c) = 0
    by_cases h2 : k = r
    · subst h2
      rw [if_pos rfl]
      grind
    · have h3 : r ≠ k := fun z => h2 z.symm
      rw [if_neg h2, t.gz k hk, t.idm r k hr hk, if_neg h3]
      grind
  bl := fun i hi => by
    show (if i = r then c else S.B i) < d.N
    by_cases h : i = r
    · rw [if_pos h]; exact hc
    · rw [if_neg h]; exact t.bl i hi
end
end LP
namespace LP

/-! ### a walk over sheets ends -/
theorem div_nn {a b : Rat} (ha : 0 ≤ a) (hb : 0 ≤ b) : 0 ≤ a / b := by
  rw [Rat.div_def]
  by_cases z : b = 0
  · rw [z, Rat.inv_zero, Rat.mul_zero]; exact Rat.le_refl
  · exact Rat.mul_nonneg ha (Rat.le_of_lt (Rat.inv_pos.mpr (by grind)))
structure Bland (d : Dat) (S : Sht) (r c : Nat) : Prop where
  hr : r < d.n
  hc : c < d.N
  neg : S.g c < 0
  first : ∀ k, k < c → 0 ≤ S.g k
  pos : 0 < S.T r c
  min : ∀ i, i < d.n → 0 < S.T i c → S.T r d.N / S.T r c < S.T i d.N / S.T i c ∨ (S.T r d.N / S.T r c = S.T i d.N / S.T i c ∧ S.B r ≤ S.B i)
def Feas (d : Dat) (S : Sht) : Prop := ∀ i, i < d.n → 0 ≤ S.T i d.N
theorem Feas.turn {d : Dat} {S : Sht} {r c : Nat} (f : Feas d S) (b : Bland d S r c) : Feas d (turn S r c) := fun i hi => by
  have hp := b.pos
  have hq : 0 ≤ S.T r d.N / S.T r c := by
    have := f r b.hr
    exact div_nn this (Rat.le_of_lt hp)
  show 0 ≤ if i = r then S.T r d.N / S.T r c else S.T i d.N - S.T i c * (S.T r d.N / S.T r c)
  by_cases h : i = r
  · rw [if_pos h]; exact hq
  · rw [if_neg h]
    by_cases hz : 0 < S.T i c
    · have hle : S.T r d.N / S.T r c ≤ S.T i d.N / S.T i c := by
        rcases b.min i hi hz with h | ⟨h, _⟩
        · exact Rat.le_of_lt h
        · rw [h]; exact Rat.le_refl
      have h2 : S.T i c * (S.T r d.N / S.T r c) ≤ S.T i c * (S.T i d.N / S.T i c) := Rat.mul_le_mul_of_nonneg_left hle (Rat.le_of_lt hz)
      have h3 : S.T i c * (S.T i d.N / S.T i c) = S.T i d.N := by
        have : S.T i c ≠ 0 := by grind
        grind
      grind
    · have h4 : S.T i c ≤ 0 := by grind
      have h5 : 0 ≤ (-(S.T i c)) * (S.T r d.N / S.T r c) := Rat.mul_nonneg (by grind) hq
      have := f i hi
      grind

theorem pigeon : ∀ (M : Nat) (f : Nat → Nat), (∀ t, t ≤ M → f t < M) → ∃ i j, i < j ∧ j ≤ M ∧ f i = f j
  | 0, f, h => absurd (h 0 (Nat.le_refl 0)) (Nat.not_lt_zero _)
  | M + 1, f, h => by
    by_cases e : ∃ i, i ≤ M ∧ f i = f (M + 1)
    · obtain ⟨i, hi, e⟩ := e
      exact ⟨i, M + 1, by omega, Nat.le_refl _, e⟩
    · have ne : ∀ i, i ≤ M → f i ≠ f (M + 1) := fun i hi z => e ⟨i, hi, z⟩
      obtain ⟨i, j, h1, h2, h3⟩ := pigeon M (fun t => if f t = M then f (M + 1) else f t) fun t ht => by
        have a := h t (by omega)
        have b := h (M + 1) (Nat.le_refl _)
        have c := ne t ht
        show (if f t = M then f (M + 1) else f t) < M
        split <;> omega
      refine ⟨i, j, h1, by omega, ?_⟩
      have c1 := ne i (by omega)
      have c2 := ne j h2
      have h3' : (if f i = M then f (M + 1) else f i) = if f j = M then f (M + 1) else f j := h3
      split at h3' <;> split at h3' <;> omega
/-- n numbers below N as one -/
def code (N : Nat) (B : Nat → Nat) : Nat → Nat
  | 0 => 0
  | n + 1 => code N B n * N + B n
theorem code_lt {N : Nat} {B : Nat → Nat} : ∀ {n : Nat}, (∀ i, i < n → B i < N) → code N B n < N ^ n
  | 0, _ => by simp [code]
  | n + 1, h => by
    have a := code_lt (n := n) fun i hi => h i (by omega)
    have b := h n (by omega)
    show code N B n * N + B n < N ^ n * N
    calc code N B n * N + B n < code N B n * N + N := by omega
      _ = (code N B n + 1) * N := by rw [Nat.add_mul, Nat.one_mul]
      _ ≤ N ^ n * N := Nat.mul_le_mul_right _ a
theorem code_inj {N : Nat} {B C : Nat → Nat} : ∀ {n : Nat}, (∀ i, i < n → B i < N) → (∀ i, i < n → C i < N) → code N B n = code N C n → ∀ i, i < n → B i = C i
  | 0, _, _, _, i, hi => absurd hi (Nat.not_lt_zero _)
  | n + 1, hb, hc, e, i, hi => by
    have b := hb n (by omega)
    have c := hc n (by omega)
    have e' : code N B n * N + B n = code N C n * N + C n := e
    have e1 : B n = C n := by
      have h1 : (code N B n * N + B n) % N = B n := by rw [Nat.add_comm, Nat.add_mul_mod_self_right, Nat.mod_eq_of_lt b]
      have h2 : (code N C n * N + C n) % N = C n := by rw [Nat.add_comm, Nat.add_mul_mod_self_right, Nat.mod_eq_of_lt c]
      rw [← h1, ← h2, e']
    have e2 : code N B n = code N C n := by
      have hN : 0 < N := by omega
      have : code N B n * N = code N C n * N := by omega
      exact Nat.eq_of_mul_eq_mul_right hN this
    by_cases z : i = n
    · subst z; exact e1
    · exact code_inj (fun i hi => hb i (by omega)) (fun i hi => hc i (by omega)) e2 i (by omega)

section
variable {d : Dat} {S : Nat → Sht} {r c : Nat → Nat}
/-- there is no walk without an end -/
theorem no_run (t0 : ∀ t, Tab d (S t)) (f0 : ∀ t, Feas d (S t)) (st : ∀ t, S (t + 1) = turn (S t) (r t) (c t)) (bl : ∀ t, Bland d (S t) (r t) (c t)) : False := by
  obtain ⟨i, j, hij, -, e⟩ := pigeon (d.N ^ d.n) (fun t => code d.N (S t).B d.n) fun t _ => code_lt fun k hk => (t0 t).bl k hk
  have eB : ∀ k, k < d.n → (S i).B k = (S j).B k := code_inj (fun k hk => (t0 i).bl k hk) (fun k hk => (t0 j).bl k hk) e
  have hBs : ∀ t k, (S (t + 1)).B k = if k = r t then c t else (S t).B k := fun t k => by rw [st t]; rfl
  have hgs : ∀ t k, (S (t + 1)).g k = (S t).g k - (S t).g (c t) * ((S t).T (r t) k / (S t).T (r t) (c t)) := fun t k => by rw [st t]; rfl
  -- the goals are alike, so all turns between are of breadth 0
  have eg : ∀ k, k ≤ d.N → (S i).g k = (S j).g k := fun k hk => by
    have hv : InV d fun k => (S i).g k - (S j).g k := by
      refine InV.eq (fun k => ?_) ((t0 i).goal.add (-1) (t0 j).goal)
      show (S i).g k - d.g0 k + -1 * ((S j).g k - d.g0 k) = (S i).g k - (S j).g k
      grind
    have := (t0 i).uni hv (fun k hk => by
      show (S i).g ((S i).B k) - (S j).g ((S i).B k) = 0
      rw [(t0 i).gz k hk, eB k hk, (t0 j).gz k hk]; grind) hk
    have h' : (S i).g k - (S j).g k = 0 := this
    grind
  have up1 : ∀ t, (S t).g d.N ≤ (S (t + 1)).g d.N := fun t => by
    rw [hgs]
    have b := bl t
    have a : 0 ≤ -(S t).g (c t) := by have := b.neg; grind
    have q : 0 ≤ (S t).T (r t) d.N / (S t).T (r t) (c t) := div_nn (f0 t _ b.hr) (Rat.le_of_lt b.pos)
    have := Rat.mul_nonneg a q
    grind
  have up : ∀ s t, s ≤ t → (S s).g d.N ≤ (S t).g d.N := fun s t h => by
    induction t with
    | zero => rw [Nat.le_zero.mp h]; exact Rat.le_refl
    | succ t ih =>
      by_cases z : s = t + 1
      · rw [z]; exact Rat.le_refl
      · exact Rat.le_trans (ih (by omega)) (up1 t)
  have flat : ∀ t, i ≤ t → t < j → (S t).T (r t) d.N = 0 := fun t h1 h2 => by
    have a1 := up i t h1
    have a2 := up (t + 1) j h2
    have a3 := eg d.N (Nat.le_refl _)
    have a4 := up1 t
    have a5 : (S (t + 1)).g d.N = (S t).g d.N := by grind
    rw [hgs] at a5
    have b := bl t
    have hp : (S t).T (r t) (c t) ≠ 0 := by have := b.pos; grind
    have hg : (S t).g (c t) ≠ 0 := by have := b.neg; grind
    have h0 : (S t).g (c t) * ((S t).T (r t) d.N / (S t).T (r t) (c t)) = 0 := by grind
    have h1 : (S t).T (r t) d.N / (S t).T (r t) (c t) = 0 := by
      rcases Rat.mul_eq_zero.mp h0 with z | z
      · exact absurd z hg
      · exact z
    have : (S t).T (r t) d.N = (S t).T (r t) d.N / (S t).T (r t) (c t) * (S t).T (r t) (c t) := by grind
    rw [this, h1]; grind
  have rhs1 : ∀ t, i ≤ t → t < j → ∀ k, (S (t + 1)).T k d.N = (S t).T k d.N := fun t h1 h2 k => by
    rw [st t]
    show (if k = r t then (S t).T (r t) d.N / (S t).T (r t) (c t) else (S t).T k d.N - (S t).T k (c t) * ((S t).T (r t) d.N / (S t).T (r t) (c t))) = _
    rw [flat t h1 h2]
    by_cases z : k = r t
    · rw [if_pos z, z, flat t h1 h2]; grind
    · rw [if_neg z]; grind
  have rhs : ∀ t, i ≤ t → t ≤ j → ∀ k, (S t).T k d.N = (S i).T k d.N := fun t h1 h2 k => by
    induction t with
    | zero => rw [show i = 0 by omega]
    | succ t ih =>
      by_cases z : i = t + 1
      · rw [← z]
      · rw [rhs1 t (by omega) (by omega) k]
        exact ih (by omega) (by omega)
  have dry : ∀ t, i ≤ t → t < j → ∀ s, i ≤ s → s ≤ j → (S s).T (r t) d.N = 0 := fun t h1 h2 s h3 h4 => by
    rw [rhs s h3 h4, ← rhs t h1 (by omega)]
    exact flat t h1 h2
  -- what is in at one time and out at another one enters
  let Ba : Nat → Nat → Prop := fun t x => ∃ k, k < d.n ∧ (S t).B k = x
  have ent1 : ∀ x u w, u ≤ w → ¬ Ba u x → Ba w x → ∃ t, u ≤ t ∧ t < w ∧ c t = x := fun x u w h nu hw => by
    induction w with
    | zero => rw [Nat.le_zero.mp h] at nu; exact absurd hw nu
    | succ w ih =>
      by_cases z : u = w + 1
      · rw [z] at nu; exact absurd hw nu
      · by_cases hb : Ba w x
        · obtain ⟨t, a1, a2, a3⟩ := ih (by omega) hb
          exact ⟨t, a1, by omega, a3⟩
        · obtain ⟨k, hk, e⟩ := hw
          rw [hBs] at e
          split at e
          · exact ⟨w, by omega, by omega, e⟩
          · exact absurd ⟨k, hk, e⟩ hb
  have lea1 : ∀ x u w, u ≤ w → Ba u x → ¬ Ba w x → ∃ t, u ≤ t ∧ t < w ∧ (S t).B (r t) = x := fun x u w h hu nw => by
    induction w with
    | zero => rw [Nat.le_zero.mp h] at hu; exact absurd hu nw
    | succ w ih =>
      by_cases z : u = w + 1
      · rw [z] at hu; exact absurd hu nw
      · by_cases hb : Ba w x
        · obtain ⟨k, hk, e⟩ := hb
          refine ⟨w, by omega, by omega, ?_⟩
          by_cases hkr : k = r w
          · rw [← hkr]; exact e
          · exact absurd ⟨k, hk, by rw [hBs, if_neg hkr]; exact e⟩ nw
        · obtain ⟨t, a1, a2, a3⟩ := ih (by omega) hb
          exact ⟨t, a1, by omega, a3⟩
  have same : ∀ x, Ba i x ↔ Ba j x := fun x => ⟨fun ⟨k, hk, e⟩ => ⟨k, hk, by rw [← eB k hk]; exact e⟩, fun ⟨k, hk, e⟩ => ⟨k, hk, by rw [eB k hk]; exact e⟩⟩
  have ent : ∀ x u w, i ≤ u → u ≤ j → i ≤ w → w ≤ j → Ba u x → ¬ Ba w x → ∃ t, i ≤ t ∧ t < j ∧ c t = x := fun x u w h1 h2 h3 h4 hu nw => by
    by_cases hw : w ≤ u
    · obtain ⟨t, a1, a2, a3⟩ := ent1 x w u hw nw hu
      exact ⟨t, by omega, by omega, a3⟩
    · by_cases hj : Ba j x
      · obtain ⟨t, a1, a2, a3⟩ := ent1 x w j h4 nw hj
        exact ⟨t, by omega, by omega, a3⟩
      · obtain ⟨t, a1, a2, a3⟩ := ent1 x i u h1 (fun z => hj ((same x).mp z)) hu
        exact ⟨t, by omega, by omega, a3⟩
  have lea : ∀ x u w, i ≤ u → u ≤ j → i ≤ w → w ≤ j → Ba u x → ¬ Ba w x → ∃ t, i ≤ t ∧ t < j ∧ (S t).B (r t) = x := fun x u w h1 h2 h3 h4 hu nw => by
    by_cases hw : u ≤ w
    · obtain ⟨t, a1, a2, a3⟩ := lea1 x u w hw hu nw
      exact ⟨t, by omega, by omega, a3⟩
    · by_cases hj : Ba j x
      · obtain ⟨t, a1, a2, a3⟩ := lea1 x i w h3 ((same x).mpr hj) nw
        exact ⟨t, by omega, by omega, a3⟩
      · obtain ⟨t, a1, a2, a3⟩ := lea1 x u j h2 hu hj
        exact ⟨t, by omega, by omega, a3⟩
  -- the greatest that enters
  have big : ∀ n, ∃ q, i ≤ q ∧ q ≤ i + n ∧ ∀ t, i ≤ t → t ≤ i + n → c t ≤ c q := fun n => by
    induction n with
    | zero => exact ⟨i, Nat.le_refl _, Nat.le_refl _, fun t h1 h2 => by rw [show t = i by omega]; exact Nat.le_refl _⟩
    | succ n ih =>
      obtain ⟨q, a1, a2, a3⟩ := ih
      by_cases z : c q ≤ c (i + (n + 1))
      · refine ⟨i + (n + 1), by omega, by omega, fun t h1 h2 => ?_⟩
        by_cases y : t = i + (n + 1)
        · rw [y]; exact Nat.le_refl _
        · exact Nat.le_trans (a3 t h1 (by omega)) z
      · refine ⟨q, a1, by omega, fun t h1 h2 => ?_⟩
        by_cases y : t = i + (n + 1)
        · rw [y]; omega
        · exact a3 t h1 (by omega)
  obtain ⟨q, q1, q2, qm⟩ := big (j - 1 - i)
  have qj : q < j := by omega
  have qmax : ∀ t, i ≤ t → t < j → c t ≤ c q := fun t h1 h2 => qm t h1 (by omega)
  -- it is out at q, in behind it
  have outq : ¬ Ba q (c q) := fun ⟨k, hk, e⟩ => by
    have := (t0 q).gz k hk
    rw [e] at this
    have := (bl q).neg
    grind
  have inq : Ba (q + 1) (c q) := ⟨r q, (bl q).hr, by rw [hBs, if_pos rfl]⟩
  obtain ⟨p, p1, p2, pe⟩ := lea (c q) (q + 1) q (by omega) (by omega) q1 (by omega) inq outq
  have bp := bl p
  have bq := bl q
  -- the column that enters at p is not that one
  have hs : c p < c q := by
    have h1 := qmax p p1 p2
    by_cases z : c p = c q
    · have hz := (t0 p).gz (r p) bp.hr
      rw [pe, ← z] at hz
      have := bp.neg
      grind
    · omega
  have hv : InV d fun k => (S q).g k - (S p).g k := by
    refine InV.eq (fun k => ?_) ((t0 q).goal.add (-1) (t0 p).goal)
    show (S q).g k - d.g0 k + -1 * ((S p).g k - d.g0 k) = (S q).g k - (S p).g k
    grind
  have hsp := (t0 p).span _ hv (c p) (Nat.le_of_lt bp.hc)
  have hpos : 0 < sumN d.n fun k => ((S q).g ((S p).B k) - (S p).g ((S p).B k)) * (S p).T k (c p) := by
    rw [← hsp]
    have a := bq.first (c p) hs
    have b := bp.neg
    grind
  obtain ⟨k, hk, hk0⟩ := sumN_pos hpos
  rw [(t0 p).gz k hk] at hk0
  have hk1 : 0 < (S q).g ((S p).B k) * (S p).T k (c p) := by grind
  have hg : (S q).g ((S p).B k) ≠ 0 := fun z => by rw [z] at hk1; grind
  have nq : ¬ Ba q ((S p).B k) := fun ⟨k', hk', e⟩ => hg (by rw [← e]; exact (t0 q).gz k' hk')
  have ip : Ba p ((S p).B k) := ⟨k, hk, rfl⟩
  obtain ⟨u, u1, u2, ue⟩ := ent _ p q p1 (by omega) q1 (by omega) ip nq
  have hle : (S p).B k ≤ c q := by rw [← ue]; exact qmax u u1 u2
  by_cases z : (S p).B k = c q
  · have hkr : k = r p := (t0 p).inj hk bp.hr (by rw [z, pe])
    rw [z, hkr] at hk1
    have a : 0 ≤ (-(S q).g (c q)) * (S p).T (r p) (c p) := Rat.mul_nonneg (by have := bq.neg; grind) (Rat.le_of_lt bp.pos)
    grind
  · have hlt : (S p).B k < c q := by omega
    have hg0 := bq.first _ hlt
    have hT : 0 < (S p).T k (c p) := by
      by_cases y : 0 < (S p).T k (c p)
      · exact y
      · have : 0 ≤ (S q).g ((S p).B k) * (-(S p).T k (c p)) := Rat.mul_nonneg hg0 (by grind)
        grind
    -- row k turns somewhere
    have hrow : ∃ t, i ≤ t ∧ t < j ∧ r t = k := by
      by_cases y : ∃ t, i ≤ t ∧ t < j ∧ r t = k
      · exact y
      · have nr : ∀ t, i ≤ t → t < j → k ≠ r t := fun t h1 h2 e => y ⟨t, h1, h2, e.symm⟩
        have cst : ∀ t, i ≤ t → t ≤ j → (S t).B k = (S i).B k := fun t h1 h2 => by
          induction t with
          | zero => rw [show i = 0 by omega]
          | succ t ih =>
            by_cases x : i = t + 1
            · rw [← x]
            · rw [hBs, if_neg (nr t (by omega) (by omega))]
              exact ih (by omega) (by omega)
        exact absurd ⟨k, hk, by rw [cst q q1 (by omega), cst p p1 (by omega)]⟩ nq
    obtain ⟨t, t1, t2, te⟩ := hrow
    have z0 : (S p).T k d.N = 0 := by
      rw [← te]
      exact dry t t1 t2 p p1 (by omega)
    have zr := flat p p1 p2
    rcases bp.min k hk hT with h | ⟨_, h⟩
    · rw [z0, zr] at h
      grind
    · rw [pe] at h
      omega
end
end LP
namespace LP

/-! ### how large the numbers of a sheet are -/
/-- all numbers of the sheet are whole ones over one D, and none of these is above M -/
def Cd (d : Dat) (S : Sht) (M : Nat) : Prop :=
  ∃ D : Int, 0 < D ∧ D.natAbs ≤ M ∧ (∀ i j, i < d.n → j ≤ d.N → ∃ z : Int, S.T i j * (D : Rat) = (z : Rat) ∧ z.natAbs ≤ M) ∧ (∀ j, j ≤ d.N → ∃ z : Int, S.g j * (D : Rat) = (z : Rat) ∧ z.natAbs ≤ M)
theorem Cd.mono {d : Dat} {S : Sht} {M M' : Nat} (h : Cd d S M) (k : M ≤ M') : Cd d S M' := by
  obtain ⟨D, a, b, c, e⟩ := h
  refine ⟨D, a, Nat.le_trans b k, fun i j hi hj => ?_, fun j hj => ?_⟩
  · obtain ⟨z, z1, z2⟩ := c i j hi hj
    exact ⟨z, z1, Nat.le_trans z2 k⟩
  · obtain ⟨z, z1, z2⟩ := e j hj
    exact ⟨z, z1, Nat.le_trans z2 k⟩
theorem two_sq {a b c e : Int} {s : Int} {M : Nat} (hs : s = 1 ∨ s = -1) (ha : a.natAbs ≤ M) (hb : b.natAbs ≤ M) (hc : c.natAbs ≤ M) (he : e.natAbs ≤ M) : (a * b * s - c * e * s).natAbs ≤ 2 * (M * M) := by
  have h1 : (a * b * s).natAbs ≤ M * M := by
    rw [Int.natAbs_mul, Int.natAbs_mul]
    rcases hs with rfl | rfl
    · rw [show Int.natAbs 1 = 1 from rfl, Nat.mul_one]; exact Nat.mul_le_mul ha hb
    · rw [show Int.natAbs (-1) = 1 from rfl, Nat.mul_one]; exact Nat.mul_le_mul ha hb
  have h2 : (c * e * s).natAbs ≤ M * M := by
    rw [Int.natAbs_mul, Int.natAbs_mul]
    rcases hs with rfl | rfl
    · rw [show Int.natAbs 1 = 1 from rfl, Nat.mul_one]; exact Nat.mul_le_mul hc he
    · rw [show Int.natAbs (-1) = 1 from rfl, Nat.mul_one]; exact Nat.mul_le_mul hc he
  omega
theorem one_sq {a b : Int} {s : Int} {M : Nat} (hs : s = 1 ∨ s = -1) (ha : a.natAbs ≤ M) (hb : b.natAbs ≤ M) : (a * b * s).natAbs ≤ 2 * (M * M) := by
  have := two_sq (c := 0) (e := 0) hs ha hb (Nat.zero_le _) (Nat.zero_le _)
  rw [Int.zero_mul, Int.zero_mul, Int.sub_zero] at this
  exact this
theorem Cd.turn {d : Dat} {S : Sht} {M r c : Nat} (h : Cd d S M) (hr : r < d.n) (hc : c < d.N) (hp : S.T r c ≠ 0) : Cd d (turn S r c) (2 * (M * M)) := by
  obtain ⟨D, D0, DM, hT, hg⟩ := h
  obtain ⟨p, p1, p2⟩ := hT r c hr (Nat.le_of_lt hc)
  have Dq : (D : Rat) ≠ 0 := by
    intro z
    have : D = 0 := by exact_mod_cast z
    omega
  have pq : (p : Rat) ≠ 0 := by
    rw [← p1]
    intro z
    rcases Rat.mul_eq_zero.mp z with y | y
    · exact hp y
    · exact Dq y
  have pz : p ≠ 0 := fun z => pq (by rw [z]; rfl)
  obtain ⟨s, hs, hsp⟩ : ∃ s : Int, (s = 1 ∨ s = -1) ∧ 0 < p * s := by
    by_cases y : 0 < p
    · exact ⟨1, .inl rfl, by omega⟩
    · exact ⟨-1, .inr rfl, by omega⟩
  have s2 : (s : Rat) * (s : Rat) = 1 := by
    rcases hs with rfl | rfl
    · decide +kernel
    · decide +kernel
  refine ⟨D * p * s, ?_, one_sq hs DM p2, fun i j hi hj => ?_, fun j hj => ?_⟩
  · rw [Int.mul_assoc]; exact Int.mul_pos D0 hsp
  · obtain ⟨zr, a1, a2⟩ := hT r j hr hj
    obtain ⟨zi, b1, b2⟩ := hT i j hi hj
    obtain ⟨zc, c1, c2⟩ := hT i c hi (Nat.le_of_lt hc)
    show ∃ z : Int, (if i = r then S.T r j / S.T r c else S.T i j - S.T i c * (S.T r j / S.T r c)) * ((D * p * s : Int) : Rat) = _ ∧ _
    by_cases e : i = r
    · refine ⟨zr * D * s, ?_, one_sq hs a2 DM⟩
      rw [if_pos e, Rat.intCast_mul, Rat.intCast_mul, Rat.intCast_mul, Rat.intCast_mul, ← a1, ← p1]
      grind
    · refine ⟨zi * p * s - zc * zr * s, ?_, two_sq hs b2 p2 c2 a2⟩
      rw [if_neg e, Rat.intCast_sub, Rat.intCast_mul, Rat.intCast_mul, Rat.intCast_mul, Rat.intCast_mul, Rat.intCast_mul, Rat.intCast_mul, ← a1, ← b1, ← c1, ← p1]
      grind
  · obtain ⟨zr, a1, a2⟩ := hT r j hr hj
    obtain ⟨zi, b1, b2⟩ := hg j hj
    obtain ⟨zc, c1, c2⟩ := hg c (Nat.le_of_lt hc)
    refine ⟨zi * p * s - zc * zr * s, ?_, two_sq hs b2 p2 c2 a2⟩
    show (S.g j - S.g c * (S.T r j / S.T r c)) * ((D * p * s : Int) : Rat) = _
    rw [Rat.intCast_sub, Rat.intCast_mul, Rat.intCast_mul, Rat.intCast_mul, Rat.intCast_mul, Rat.intCast_mul, Rat.intCast_mul, ← a1, ← b1, ← c1, ← p1]
    grind
/-- the first sheet -/
def sh0 (d : Dat) : Sht := ⟨d.A, d.g0, fun i => d.m + i⟩
structure DatOk (d : Dat) : Prop where
  idA : ∀ k i, k < d.n → i < d.n → d.A k (d.m + i) = if k = i then 1 else 0
  gz : ∀ i, i ≤ d.n → d.g0 (d.m + i) = 0
theorem tab0 {d : Dat} (h : DatOk d) : Tab d (sh0 d) where
  rows := fun i hi j hj => by
    show d.A i j = sumN d.n fun k => d.A i (d.m + k) * d.A k j
    rw [sumN_one hi (fun k hk hn => by rw [h.idA i k hi hk, if_neg (fun z => hn z.symm)]; grind), h.idA i i hi hi, if_pos rfl]
    grind
  goal := fun j hj => by
    show d.g0 j - d.g0 j = sumN d.n fun k => (d.g0 (d.m + k) - d.g0 (d.m + k)) * d.A k j
    rw [sumN_zero fun k _ => by grind]
    grind
  span := fun v hv j hj => hv j hj
  idm := fun i k hi hk => h.idA i k hi hk
  gz := fun k hk => h.gz k (Nat.le_of_lt hk)
  bl := fun i hi => by
    show d.m + i < d.m + d.n
    omega
def grown : Nat → Nat → Nat
  | 0, M => M
  | x + 1, M => 2 * (grown x M * grown x M)
theorem grown_up {M : Nat} (x : Nat) : grown x M ≤ grown (x + 1) M := by
  show grown x M ≤ 2 * (grown x M * grown x M)
  have := Nat.le_mul_self (grown x M)
  omega
theorem reach {d : Dat} {S : Sht} {M : Nat} (ok : DatOk d) (h0 : Cd d (sh0 d) M) (t : Tab d S) : ∀ x, x ≤ d.m → ∃ Z, Tab d Z ∧ Cd d Z (grown x M) ∧ ∀ i, i < d.n → (S.B i < x ∨ d.m ≤ S.B i) → ∃ k, k < d.n ∧ Z.B k = S.B i
  | 0, _ => ⟨sh0 d, tab0 ok, h0, fun i hi h => by
      have := t.bl i hi
      refine ⟨S.B i - d.m, ?_, ?_⟩
      · have : S.B i < d.m + d.n := this
        omega
      · show d.m + (S.B i - d.m) = S.B i
        omega⟩
  | x + 1, hx => by
    obtain ⟨Z, tz, cz, hz⟩ := reach ok h0 t x (by omega)
    by_cases ex : ∃ i0, i0 < d.n ∧ S.B i0 = x
    · obtain ⟨i0, hi0, e0⟩ := ex
      by_cases ez : ∃ k, k < d.n ∧ Z.B k = x
      · refine ⟨Z, tz, cz.mono (grown_up x), fun i hi h => ?_⟩
        by_cases y : S.B i = x
        · rw [y]; exact ez
        · exact hz i hi (by omega)
      · -- a row to turn at
        have hr : ∃ r, r < d.n ∧ Z.T r x ≠ 0 ∧ ∀ i, i < d.n → Z.B r ≠ S.B i := by
          by_cases y : ∃ r, r < d.n ∧ Z.T r x ≠ 0 ∧ ∀ i, i < d.n → Z.B r ≠ S.B i
          · exact y
          · have hxN : x ≤ d.N := by show x ≤ d.m + d.n; omega
            have a := tz.span _ (t.rows i0 hi0) x hxN
            rw [sumN_zero] at a
            · have b := t.idm i0 i0 hi0 hi0
              rw [e0, if_pos rfl] at b
              rw [b] at a
              exact absurd a (by grind)
            · intro r hr
              by_cases q : ∃ i, i < d.n ∧ Z.B r = S.B i
              · obtain ⟨i, hi, e⟩ := q
                have ne : i0 ≠ i := fun z => ez ⟨r, hr, by rw [e, ← z, e0]⟩
                rw [e, t.idm i0 i hi0 hi, if_neg ne]
                grind
              · have : Z.T r x = 0 := by
                  by_cases p : Z.T r x = 0
                  · exact p
                  · exact absurd ⟨r, hr, p, fun i hi e => q ⟨i, hi, e⟩⟩ y
                rw [this]
                grind
        obtain ⟨r, hr, hp, hn⟩ := hr
        have hxN : x < d.N := by show x < d.m + d.n; omega
        refine ⟨turn Z r x, tz.turn hr hxN hp, cz.turn hr hxN hp, fun i hi h => ?_⟩
        by_cases y : S.B i = x
        · exact ⟨r, hr, by show (if r = r then x else Z.B r) = _; rw [if_pos rfl, y]⟩
        · obtain ⟨k, hk, e⟩ := hz i hi (by omega)
          refine ⟨k, hk, ?_⟩
          show (if k = r then x else Z.B k) = _
          rw [if_neg (fun z => hn i hi (by rw [← z, e])), e]
    · exact ⟨Z, tz, cz.mono (grown_up x), fun i hi h => hz i hi (by
        have : S.B i ≠ x := fun z => ex ⟨i, hi, z⟩
        omega)⟩
/-- all sheets that turns lead to -/
theorem Tab.cd {d : Dat} {S : Sht} {M : Nat} (ok : DatOk d) (h0 : Cd d (sh0 d) M) (t : Tab d S) : Cd d S (grown d.m M) := by
  obtain ⟨Z, tz, ⟨D, D0, DM, hT, hg⟩, hz⟩ := reach ok h0 t d.m (Nat.le_refl _)
  have hz : ∀ i, i < d.n → ∃ k, k < d.n ∧ Z.B k = S.B i := fun i hi => hz i hi (by omega)
  refine ⟨D, D0, DM, fun i j hi hj => ?_, fun j hj => ?_⟩
  · obtain ⟨k, hk, e⟩ := hz i hi
    have hv : InV d fun j => S.T i j - Z.T k j := by
      refine InV.eq (fun j => ?_) ((t.rows i hi).add (-1) (tz.rows k hk))
      show S.T i j + -1 * Z.T k j = S.T i j - Z.T k j
      grind
    have := t.uni hv (fun i' hi' => by
      obtain ⟨k', hk', e'⟩ := hz i' hi'
      show S.T i (S.B i') - Z.T k (S.B i') = 0
      rw [t.idm i i' hi hi', ← e', tz.idm k k' hk hk']
      by_cases y : i = i'
      · have : k = k' := tz.inj hk hk' (by rw [e, e', y])
        rw [if_pos y, if_pos this]; grind
      · have : k ≠ k' := fun z => y (t.inj hi hi' (by rw [← e, ← e', z]))
        rw [if_neg y, if_neg this]; grind) hj
    have h' : S.T i j - Z.T k j = 0 := this
    have h2 : S.T i j = Z.T k j := by grind
    rw [h2]
    exact hT k j hk hj
  · have hv : InV d fun j => S.g j - Z.g j := by
      refine InV.eq (fun j => ?_) (t.goal.add (-1) tz.goal)
      show S.g j - d.g0 j + -1 * (Z.g j - d.g0 j) = S.g j - Z.g j
      grind
    have := t.uni hv (fun i' hi' => by
      obtain ⟨k', hk', e'⟩ := hz i' hi'
      show S.g (S.B i') - Z.g (S.B i') = 0
      rw [t.gz i' hi', ← e', tz.gz k' hk']
      grind) hj
    have h' : S.g j - Z.g j = 0 := this
    have h2 : S.g j = Z.g j := by grind
    rw [h2]
    exact hg j hj
end LP
namespace LP

/-! ### the walk over sheets as a function -/
def ent (d : Dat) (S : Sht) : Option Nat := (List.range d.N).find? fun c => decide (S.g c < 0)
def better (N : Nat) (S : Sht) (c k : Nat) (f : Option Nat) (b : Rat) : Bool :=
  match f with
  | none => true
  | some r => decide (S.T k N / S.T k c < b) || (decide (S.T k N / S.T k c = b) && decide (S.B k < S.B r))
def leaF (N : Nat) (S : Sht) (c : Nat) : Nat → Option Nat × Rat
  | 0 => (none, 0)
  | k + 1 => if 0 < S.T k c ∧ better N S c k (leaF N S c k).1 (leaF N S c k).2 = true then (some k, S.T k N / S.T k c) else leaF N S c k
def lea (d : Dat) (S : Sht) (c : Nat) : Option Nat := (leaF d.N S c d.n).1
theorem leaF_spec (N : Nat) (S : Sht) (c : Nat) : ∀ n, (∀ b, leaF N S c n = (none, b) → ∀ i, i < n → ¬ 0 < S.T i c) ∧
    (∀ r b, leaF N S c n = (some r, b) → r < n ∧ 0 < S.T r c ∧ b = S.T r N / S.T r c ∧ ∀ i, i < n → 0 < S.T i c → S.T r N / S.T r c < S.T i N / S.T i c ∨ (S.T r N / S.T r c = S.T i N / S.T i c ∧ S.B r ≤ S.B i))
  | 0 => And.intro (fun _ _ i hi => absurd hi (Nat.not_lt_zero _)) (fun r b h => by have := congrArg Prod.fst h; cases this)
  | n + 1 => by
    obtain ⟨h1, h2⟩ := leaF_spec N S c n
    have e : leaF N S c (n + 1) = if 0 < S.T n c ∧ better N S c n (leaF N S c n).1 (leaF N S c n).2 = true then (some n, S.T n N / S.T n c) else leaF N S c n := rfl
    by_cases z : 0 < S.T n c ∧ better N S c n (leaF N S c n).1 (leaF N S c n).2 = true
    · rw [if_pos z] at e
      rw [e]
      refine And.intro (fun b h => by have := congrArg Prod.fst h; cases this) (fun r b h => ?_)
      cases h
      refine ⟨by omega, z.1, rfl, fun i hi hp => ?_⟩
      by_cases y : i = n
      · subst y; exact .inr ⟨rfl, Nat.le_refl _⟩
      · obtain ⟨z1, z2⟩ := z
        cases ef : leaF N S c n with
        | mk f b =>
          cases f with
          | none => exact absurd hp (h1 b ef i (by omega))
          | some r =>
            obtain ⟨a1, a2, a3, a4⟩ := h2 r b ef
            rw [ef] at z2
            have z2 : (decide (S.T n N / S.T n c < b) || (decide (S.T n N / S.T n c = b) && decide (S.B n < S.B r))) = true := z2
            have q := a4 i (by omega) hp
            rcases Bool.or_eq_true_iff.mp z2 with w | w
            · have w := of_decide_eq_true w
              left
              grind
            · obtain ⟨w1, w2⟩ := Bool.and_eq_true_iff.mp w
              have w1 := of_decide_eq_true w1
              have w2 := of_decide_eq_true w2
              rcases q with q | ⟨q, q'⟩
              · left; grind
              · right
                exact ⟨by grind, by omega⟩
    · rw [if_neg z] at e
      rw [e]
      refine ⟨fun b h i hi => ?_, fun r b h => ?_⟩
      · by_cases y : i = n
        · subst y
          intro w
          exact z ⟨w, by rw [h]; rfl⟩
        · exact h1 b h i (by omega)
      · obtain ⟨a1, a2, a3, a4⟩ := h2 r b h
        refine ⟨by omega, a2, a3, fun i hi hp => ?_⟩
        by_cases y : i = n
        · subst y
          have w : better N S c i (leaF N S c i).1 (leaF N S c i).2 ≠ true := fun w => z ⟨hp, w⟩
          rw [h] at w
          have w : (decide (S.T i N / S.T i c < b) || (decide (S.T i N / S.T i c = b) && decide (S.B i < S.B r))) = false := by simpa [better] using w
          obtain ⟨w1, w2⟩ := Bool.or_eq_false_iff.mp w
          have w1 := of_decide_eq_false w1
          by_cases v : S.T i N / S.T i c = b
          · right
            rw [decide_eq_true v, Bool.true_and] at w2
            have w2 := of_decide_eq_false w2
            exact ⟨by rw [v, a3], by omega⟩
          · left
            rw [← a3]
            grind
        · exact a4 i (by omega) hp
theorem ent_spec {d : Dat} {S : Sht} {c : Nat} (h : ent d S = some c) : c < d.N ∧ S.g c < 0 ∧ ∀ k, k < c → 0 ≤ S.g k := by
  obtain ⟨h1, xs, ys, h2, h3⟩ := List.find?_eq_some_iff_append.mp h
  have hc : c < d.N := List.mem_range.mp (by rw [h2]; simp)
  refine ⟨hc, of_decide_eq_true h1, fun k hk => ?_⟩
  have hl : xs.length = c := by
    have e : (List.range d.N)[xs.length]? = some c := by rw [h2]; simp
    obtain ⟨a, b⟩ := List.getElem?_eq_some_iff.mp e
    rw [List.getElem_range] at b
    exact b
  have hm : k ∈ xs := by
    have e : (List.range d.N)[k]? = some k := List.getElem?_eq_some_iff.mpr ⟨by rw [List.length_range]; omega, List.getElem_range _⟩
    rw [h2, List.getElem?_append_left (by omega)] at e
    exact List.mem_of_getElem? e
  have := h3 k hm
  have : ¬ S.g k < 0 := by simpa using this
  grind
theorem ent_none {d : Dat} {S : Sht} (h : ent d S = none) : ∀ k, k < d.N → 0 ≤ S.g k := fun k hk => by
  have := List.find?_eq_none.mp h k (List.mem_range.mpr hk)
  have : ¬ S.g k < 0 := by simpa using this
  grind
/-- one step, or none -/
def stp (d : Dat) (S : Sht) : Option Sht := (ent d S).bind fun c => (lea d S c).map fun r => turn S r c
theorem stp_bland {d : Dat} {S Z : Sht} (h : stp d S = some Z) : ∃ r c, ent d S = some c ∧ lea d S c = some r ∧ Z = turn S r c ∧ Bland d S r c := by
  unfold stp at h
  cases e : ent d S with
  | none => rw [e] at h; cases h
  | some c =>
    rw [e] at h
    rw [Option.bind_some] at h
    cases l : lea d S c with
    | none => rw [l] at h; cases h
    | some r =>
      rw [l] at h
      have hz : turn S r c = Z := Option.some.inj h
      obtain ⟨a1, a2, a3⟩ := ent_spec e
      cases ef : leaF d.N S c d.n with
      | mk f b =>
        have hf : f = some r := by unfold lea at l; rw [ef] at l; exact l
        subst hf
        obtain ⟨b1, b2, b3, b4⟩ := (leaF_spec d.N S c d.n).2 r b ef
        exact ⟨r, c, rfl, l, hz.symm, ⟨b1, a1, a2, a3, b2, b4⟩⟩
def seqS (d : Dat) : Nat → Sht
  | 0 => sh0 d
  | t + 1 => (stp d (seqS d t)).getD (seqS d t)
structure DatF (d : Dat) : Prop where
  ok : DatOk d
  feas : ∀ k, k < d.n → 0 ≤ d.A k d.N
theorem seq_tab {d : Dat} (h : DatF d) : ∀ t, Tab d (seqS d t) ∧ Feas d (seqS d t)
  | 0 => ⟨tab0 h.ok, h.feas⟩
  | t + 1 => by
    obtain ⟨a, b⟩ := seq_tab h t
    show Tab d ((stp d (seqS d t)).getD (seqS d t)) ∧ Feas d ((stp d (seqS d t)).getD (seqS d t))
    cases e : stp d (seqS d t) with
    | none => exact ⟨a, b⟩
    | some Z =>
      obtain ⟨r, c, _, _, hz, bl⟩ := stp_bland e
      subst hz
      exact ⟨a.turn bl.hr bl.hc (by have := bl.pos; grind), b.turn bl⟩
theorem seq_end {d : Dat} (h : DatF d) : ∃ t, stp d (seqS d t) = none := by
  by_cases z : ∃ t, stp d (seqS d t) = none
  · exact z
  · have hs : ∀ t, ∃ rc : Nat × Nat, seqS d (t + 1) = turn (seqS d t) rc.1 rc.2 ∧ Bland d (seqS d t) rc.1 rc.2 := fun t => by
      cases e : stp d (seqS d t) with
      | none => exact absurd ⟨t, e⟩ z
      | some Z =>
        obtain ⟨r, c, _, _, hz, bl⟩ := stp_bland e
        refine ⟨(r, c), ?_, bl⟩
        show (stp d (seqS d t)).getD (seqS d t) = _
        rw [e]
        exact hz
    exact (no_run (r := fun t => (Classical.choose (hs t)).1) (c := fun t => (Classical.choose (hs t)).2) (fun t => (seq_tab h t).1) (fun t => (seq_tab h t).2) (fun t => (Classical.choose_spec (hs t)).1) (fun t => (Classical.choose_spec (hs t)).2)).elim
theorem seq_stay {d : Dat} {t : Nat} (h : stp d (seqS d t) = none) : ∀ k, seqS d (t + k) = seqS d t
  | 0 => rfl
  | k + 1 => by
    show (stp d (seqS d (t + k))).getD (seqS d (t + k)) = _
    rw [seq_stay h k, h]
    rfl
open Classical in
noncomputable def fin (d : Dat) : Sht := if h : ∃ t, stp d (seqS d t) = none then seqS d (Classical.choose h) else sh0 d
theorem fin_eq {d : Dat} {t : Nat} (h : stp d (seqS d t) = none) : seqS d t = fin d := by
  have hx : ∃ t, stp d (seqS d t) = none := ⟨t, h⟩
  unfold fin
  rw [dif_pos hx]
  have hc := Classical.choose_spec hx
  rcases Nat.le_total t (Classical.choose hx) with z | z
  · have := seq_stay h (Classical.choose hx - t)
    rw [show t + (Classical.choose hx - t) = Classical.choose hx by omega] at this
    exact this.symm
  · have := seq_stay hc (t - Classical.choose hx)
    rw [show Classical.choose hx + (t - Classical.choose hx) = t by omega] at this
    exact this
theorem fin_ok {d : Dat} (h : DatF d) : Tab d (fin d) ∧ Feas d (fin d) ∧ stp d (fin d) = none := by
  obtain ⟨t, ht⟩ := seq_end h
  rw [← fin_eq ht]
  exact ⟨(seq_tab h t).1, (seq_tab h t).2, ht⟩

/-! ### what the end shows -/
/-- the numbers of the columns at the corner -/
def xv (d : Dat) (S : Sht) (j : Nat) : Rat := sumN d.n fun i => if S.B i = j then S.T i d.N else 0
def yv (d : Dat) (S : Sht) (k : Nat) : Rat := S.g (d.m + k)
def rv (d : Dat) (S : Sht) (c j : Nat) : Rat := (if j = c then 1 else 0) + sumN d.n fun i => if S.B i = j then -S.T i c else 0
section
variable {d : Dat} {S : Sht}
theorem xv_nn (f : Feas d S) (j : Nat) : 0 ≤ xv d S j := sumN_nonneg fun i hi => by
  split
  · exact f i hi
  · exact Rat.le_refl
/-- a sum over the rows as one over the columns -/
theorem sum_cols (t : Tab d S) (v u : Nat → Rat) : (sumN d.N fun j => v j * sumN d.n fun i => if S.B i = j then u i else 0) = sumN d.n fun i => v (S.B i) * u i := by
  have e : (fun j => v j * sumN d.n fun i => if S.B i = j then u i else 0) = fun j => sumN d.n fun i => v j * (if S.B i = j then u i else 0) := by
    funext j
    rw [sumN_mul]
  rw [e, ← sumN_swap (fun i j => v j * (if S.B i = j then u i else 0)) d.N d.n]
  refine sumN_congr fun i hi => ?_
  rw [sumN_one (r := S.B i) (f := fun j => v j * (if S.B i = j then u i else 0)) (t.bl i hi) fun j _ hn => by rw [if_neg fun z => hn z.symm]; grind]
  rw [if_pos rfl]
theorem sum_x (t : Tab d S) (v : Nat → Rat) : (sumN d.N fun j => v j * xv d S j) = sumN d.n fun i => v (S.B i) * S.T i d.N := sum_cols t v _
theorem rowV (ok : DatOk d) {k : Nat} (hk : k < d.n) : InV d (d.A k) := (tab0 ok).rows k hk
theorem row_x (ok : DatOk d) (t : Tab d S) {k : Nat} (hk : k < d.n) : d.A k d.N = sumN d.N fun j => d.A k j * xv d S j := by
  rw [sum_x t, ← t.span _ (rowV ok hk) d.N (Nat.le_refl _)]
theorem row_split (ok : DatOk d) {k : Nat} (hk : k < d.n) (x : Nat → Rat) : (sumN d.N fun j => d.A k j * x j) = (sumN d.m fun j => d.A k j * x j) + x (d.m + k) := by
  show sumN (d.m + d.n) _ = _
  rw [sumN_split, sumN_one (r := k) (f := fun i => d.A k (d.m + i) * x (d.m + i)) hk fun i hi hn => by rw [ok.idA k i hk hi, if_neg fun z => hn z.symm]; grind]
  rw [ok.idA k k hk hk, if_pos rfl]
  grind
/-- no row is passed -/
theorem x_fits (ok : DatOk d) (t : Tab d S) (f : Feas d S) {k : Nat} (hk : k < d.n) : (sumN d.m fun j => d.A k j * xv d S j) ≤ d.A k d.N := by
  have a := row_x ok t hk
  rw [row_split ok hk] at a
  have b := xv_nn f (d.m + k)
  grind
theorem g_eq (ok : DatOk d) (t : Tab d S) {j : Nat} (hj : j ≤ d.N) : S.g j = d.g0 j + sumN d.n fun k => yv d S k * d.A k j := by
  have a := t.goal j hj
  have e : (fun k => (S.g (d.m + k) - d.g0 (d.m + k)) * d.A k j) = fun k => (S.g (d.m + k) - d.g0 (d.m + k)) * d.A k j := rfl
  have b : (sumN d.n fun k => (S.g (d.m + k) - d.g0 (d.m + k)) * d.A k j) = sumN d.n fun k => yv d S k * d.A k j := sumN_congr fun k hk => by
    rw [ok.gz k (Nat.le_of_lt hk)]
    unfold yv
    grind
  have a' : S.g j - d.g0 j = sumN d.n fun k => (S.g (d.m + k) - d.g0 (d.m + k)) * d.A k j := a
  rw [b] at a'
  grind
theorem gN_eq (ok : DatOk d) (t : Tab d S) : S.g d.N = sumN d.n fun k => yv d S k * d.A k d.N := by
  rw [g_eq ok t (Nat.le_refl _), show d.g0 d.N = 0 from ok.gz d.n (Nat.le_refl _)]
  grind
theorem g_sum (ok : DatOk d) (t : Tab d S) (x : Nat → Rat) : (sumN d.N fun j => S.g j * x j) = (sumN d.m fun j => d.g0 j * x j) + sumN d.n fun k => yv d S k * sumN d.N fun j => d.A k j * x j := by
  have e1 : (sumN d.N fun j => S.g j * x j) = sumN d.N fun j => d.g0 j * x j + sumN d.n fun k => yv d S k * (d.A k j * x j) := sumN_congr fun j hj => by
    rw [g_eq ok t (Nat.le_of_lt hj)]
    have : (fun k => yv d S k * (d.A k j * x j)) = fun k => x j * (yv d S k * d.A k j) := by funext k; grind
    rw [this, sumN_mul]
    grind
  rw [e1, sumN_add, sumN_swap (fun j k => yv d S k * (d.A k j * x j)) d.n d.N]
  have e2 : (fun k => yv d S k * sumN d.N fun j => d.A k j * x j) = fun k => sumN d.N fun j => yv d S k * (d.A k j * x j) := by
    funext k
    rw [sumN_mul]
  have e3 : (sumN d.N fun j => d.g0 j * x j) = sumN d.m fun j => d.g0 j * x j := by
    show sumN (d.m + d.n) _ = _
    rw [sumN_split, sumN_zero (f := fun i => d.g0 (d.m + i) * x (d.m + i)) fun i hi => by rw [ok.gz i (Nat.le_of_lt hi)]; grind]
    grind
  rw [e2, e3]
/-- the worth at the corner is the goal's last number -/
theorem x_worth (ok : DatOk d) (t : Tab d S) : (sumN d.m fun j => -d.g0 j * xv d S j) = S.g d.N := by
  have a := g_sum ok t (xv d S)
  rw [sum_x t, sumN_zero fun i hi => by rw [t.gz i hi]; grind] at a
  have b : (sumN d.n fun k => yv d S k * sumN d.N fun j => d.A k j * xv d S j) = S.g d.N := by
    rw [gN_eq ok t]
    exact sumN_congr fun k hk => by rw [← row_x ok t hk]
  rw [b] at a
  have c : (fun j => -d.g0 j * xv d S j) = fun j => (-1) * (d.g0 j * xv d S j) := by funext j; grind
  rw [c, sumN_mul]
  grind
theorem y_nn (h : ent d S = none) {k : Nat} (hk : k < d.n) : 0 ≤ yv d S k := ent_none h _ (by show d.m + k < d.m + d.n; omega)
theorem y_meets (ok : DatOk d) (t : Tab d S) (h : ent d S = none) {j : Nat} (hj : j < d.m) : -d.g0 j ≤ sumN d.n fun k => yv d S k * d.A k j := by
  have a := ent_none h j (by show j < d.m + d.n; omega)
  rw [g_eq ok t (by show j ≤ d.m + d.n; omega)] at a
  grind
/-- no end: a column along which the goal grows -/
theorem rv_nn {c : Nat} (h : ∀ i, i < d.n → ¬ 0 < S.T i c) (j : Nat) : 0 ≤ rv d S c j := by
  have a : 0 ≤ sumN d.n fun i => if S.B i = j then -S.T i c else 0 := sumN_nonneg fun i hi => by
    have := h i hi
    split
    · grind
    · exact Rat.le_refl
  unfold rv
  split
  · grind
  · grind
theorem sum_r (t : Tab d S) {c : Nat} (hc : c < d.N) (v : Nat → Rat) : (sumN d.N fun j => v j * rv d S c j) = v c - sumN d.n fun i => v (S.B i) * S.T i c := by
  have e : (fun j => v j * rv d S c j) = fun j => v j * (if j = c then 1 else 0) + v j * sumN d.n fun i => if S.B i = j then -S.T i c else 0 := by
    funext j
    unfold rv
    grind
  rw [e, sumN_add, sum_cols t v (fun i => -S.T i c), sumN_one (r := c) (f := fun j => v j * (if j = c then 1 else 0)) hc fun j _ hn => by rw [if_neg hn]; grind]
  have e2 : (fun i => v (S.B i) * -S.T i c) = fun i => (-1) * (v (S.B i) * S.T i c) := by funext i; grind
  rw [e2, sumN_mul, if_pos rfl]
  grind
theorem r_bars (ok : DatOk d) (t : Tab d S) {c : Nat} (hc : c < d.N) (h : ∀ i, i < d.n → ¬ 0 < S.T i c) {k : Nat} (hk : k < d.n) : (sumN d.m fun j => d.A k j * rv d S c j) ≤ 0 := by
  have a := sum_r t hc (d.A k)
  rw [← t.span _ (rowV ok hk) c (Nat.le_of_lt hc), row_split ok hk] at a
  have b := rv_nn h (d.m + k)
  grind
theorem r_worth (ok : DatOk d) (t : Tab d S) {c : Nat} (hc : c < d.N) : (sumN d.m fun j => -d.g0 j * rv d S c j) = -S.g c := by
  have a := g_sum ok t (rv d S c)
  rw [sum_r t hc, sumN_zero fun i hi => by rw [t.gz i hi]; grind] at a
  have b : (sumN d.n fun k => yv d S k * sumN d.N fun j => d.A k j * rv d S c j) = 0 := sumN_zero fun k hk => by
    rw [sum_r t hc, ← t.span _ (rowV ok hk) c (Nat.le_of_lt hc)]
    grind
  rw [b] at a
  have e : (fun j => -d.g0 j * rv d S c j) = fun j => (-1) * (d.g0 j * rv d S c j) := by funext j; grind
  rw [e, sumN_mul]
  grind
end
end LP
namespace LP

/-! ### least hours as a number: plans and prices bound one another -/
structure Pln (a : Nat → Nat → Rat) (b : Nat → Rat) (m n : Nat) (y : Nat → Rat) : Prop where
  nn : ∀ k, k < n → 0 ≤ y k
  meets : ∀ j, j < m → b j ≤ sumN n fun k => y k * a k j
structure Prc (a : Nat → Nat → Rat) (h : Nat → Rat) (m n : Nat) (x : Nat → Rat) : Prop where
  nn : ∀ j, j < m → 0 ≤ x j
  fits : ∀ k, k < n → (sumN m fun j => x j * a k j) ≤ h k
def hrsN (h : Nat → Rat) (n : Nat) (y : Nat → Rat) : Rat := sumN n fun k => y k * h k
def wthN (b : Nat → Rat) (m : Nat) (x : Nat → Rat) : Rat := sumN m fun j => x j * b j
section
variable {a a' : Nat → Nat → Rat} {h h' b b' x y : Nat → Rat} {m n : Nat} {v v' u : Rat}
theorem weak (p : Pln a b m n y) (q : Prc a h m n x) : wthN b m x ≤ hrsN h n y := by
  have e1 : wthN b m x ≤ sumN m fun j => sumN n fun k => x j * (y k * a k j) := sumN_le fun j hj => by
    rw [sumN_mul]
    exact Rat.mul_le_mul_of_nonneg_left (p.meets j hj) (q.nn j hj)
  have e2 : (sumN m fun j => sumN n fun k => x j * (y k * a k j)) = sumN n fun k => y k * sumN m fun j => x j * a k j := by
    rw [sumN_swap (fun j k => x j * (y k * a k j)) n m]
    refine sumN_congr fun k hk => ?_
    rw [← sumN_mul]
    exact sumN_congr fun j hj => by grind
  have e3 : (sumN n fun k => y k * sumN m fun j => x j * a k j) ≤ hrsN h n y := sumN_le fun k hk => Rat.mul_le_mul_of_nonneg_left (q.fits k hk) (p.nn k hk)
  rw [e2] at e1
  exact Rat.le_trans e1 e3
/-- v is the least hours of b -/
def Opt (a : Nat → Nat → Rat) (h b : Nat → Rat) (m n : Nat) (v : Rat) : Prop := ∃ y x, Pln a b m n y ∧ Prc a h m n x ∧ v = hrsN h n y ∧ v = wthN b m x
theorem Opt.le (o : Opt a h b m n v) (p : Pln a b m n y) : v ≤ hrsN h n y := by
  obtain ⟨y', x', p', q', e1, e2⟩ := o
  rw [e2]
  exact weak p q'
theorem Opt.ge (o : Opt a h b m n v) (q : Prc a h m n x) : wthN b m x ≤ v := by
  obtain ⟨y', x', p', q', e1, e2⟩ := o
  rw [e1]
  exact weak p' q
theorem Opt.uniq (o : Opt a h b m n v) (o' : Opt a h b m n v') : v = v' := by
  obtain ⟨y, x, p, q, e1, e2⟩ := id o
  obtain ⟨y', x', p', q', e1', e2'⟩ := id o'
  have h1 := o.le p'
  have h2 := o'.le p
  rw [← e1'] at h1
  rw [← e1] at h2
  exact Rat.le_antisymm h1 h2
theorem Opt.mul {c : Rat} (hc : 0 ≤ c) (o : Opt a h b m n v) : Opt a h (fun j => c * b j) m n (c * v) := by
  obtain ⟨y, x, p, q, e1, e2⟩ := o
  refine ⟨fun k => c * y k, x, ⟨fun k hk => Rat.mul_nonneg hc (p.nn k hk), fun j hj => ?_⟩, q, ?_, ?_⟩
  · have := Rat.mul_le_mul_of_nonneg_left (p.meets j hj) hc
    rw [← sumN_mul] at this
    have e : (sumN n fun k => c * y k * a k j) = sumN n fun k => c * (y k * a k j) := sumN_congr fun k _ => by grind
    rw [e]
    exact this
  · rw [e1]
    unfold hrsN
    rw [← sumN_mul]
    exact sumN_congr fun k _ => by grind
  · rw [e2]
    unfold wthN
    rw [← sumN_mul]
    exact sumN_congr fun k _ => by grind
theorem Pln.add (p : Pln a b m n x) (q : Pln a b' m n y) : Pln a (fun j => b j + b' j) m n fun k => x k + y k := by
  refine ⟨fun k hk => by have := p.nn k hk; have := q.nn k hk; grind, fun j hj => ?_⟩
  have e : (sumN n fun k => (x k + y k) * a k j) = sumN n fun k => x k * a k j + y k * a k j := sumN_congr fun k _ => by grind
  rw [e, sumN_add]
  have := p.meets j hj
  have := q.meets j hj
  grind
theorem Opt.add (o : Opt a h b m n v) (o' : Opt a h b' m n v') (s : Opt a h (fun j => b j + b' j) m n u) : u ≤ v + v' := by
  obtain ⟨y, x, p, q, e1, e2⟩ := o
  obtain ⟨y', x', p', q', e1', e2'⟩ := o'
  have := s.le (p.add p')
  rw [e1, e1']
  refine Rat.le_trans this ?_
  have e : hrsN h n (fun k => y k + y' k) = hrsN h n y + hrsN h n y' := by
    unfold hrsN
    rw [← sumN_add]
    exact sumN_congr fun k _ => by grind
  rw [e]
  exact Rat.le_refl
theorem Pln.less (p : Pln a b' m n y) (l : ∀ j, j < m → b j ≤ b' j) : Pln a b m n y := ⟨p.nn, fun j hj => Rat.le_trans (l j hj) (p.meets j hj)⟩
theorem Opt.mono (o : Opt a h b m n v) (o' : Opt a h b' m n v') (l : ∀ j, j < m → b j ≤ b' j) : v ≤ v' := by
  obtain ⟨y', x', p', q', e1', e2'⟩ := o'
  rw [e1']
  exact o.le (p'.less l)
theorem Opt.zero (o : Opt a h b m n v) (hh : ∀ k, k < n → 0 ≤ h k) (hb : ∀ j, j < m → b j = 0) : v = 0 := by
  have h1 := o.le (y := fun _ => 0) ⟨fun _ _ => Rat.le_refl, fun j hj => by rw [hb j hj, sumN_zero fun k _ => by grind]; exact Rat.le_refl⟩
  have h2 := o.ge (x := fun _ => 0) ⟨fun _ _ => Rat.le_refl, fun k hk => by rw [sumN_zero fun j _ => by grind]; exact hh k hk⟩
  have e1 : hrsN h n (fun _ => 0) = 0 := sumN_zero fun k _ => by grind
  have e2 : wthN b m (fun _ => 0) = 0 := sumN_zero fun k _ => by grind
  rw [e1] at h1
  rw [e2] at h2
  exact Rat.le_antisymm h1 h2
theorem Opt.congr (o : Opt a h b m n v) (ha : ∀ k j, k < n → j < m → a k j = a' k j) (he : ∀ k, k < n → h k = h' k) (hb : ∀ j, j < m → b j = b' j) : Opt a' h' b' m n v := by
  obtain ⟨y, x, p, q, e1, e2⟩ := o
  refine ⟨y, x, ⟨p.nn, fun j hj => ?_⟩, ⟨q.nn, fun k hk => ?_⟩, ?_, ?_⟩
  · rw [← hb j hj]
    refine Rat.le_trans (p.meets j hj) ?_
    rw [sumN_congr (f := fun k => y k * a k j) (g := fun k => y k * a' k j) fun k hk => by rw [ha k j hk hj]]
    exact Rat.le_refl
  · rw [← he k hk]
    rw [← sumN_congr (f := fun j => x j * a k j) (g := fun j => x j * a' k j) fun j hj => by rw [ha k j hk hj]]
    exact q.fits k hk
  · rw [e1]
    exact sumN_congr fun k hk => by rw [he k hk]
  · rw [e2]
    exact sumN_congr fun j hj => by rw [hb j hj]
/-- one way left out -/
def skipN (i k : Nat) : Nat := if k < i then k else k + 1
theorem sumN_skip (f : Nat → Rat) {i : Nat} : ∀ {n : Nat}, i ≤ n → sumN (n + 1) f = (sumN n fun k => f (skipN i k)) + f i
  | 0, hi => by
    have : i = 0 := by omega
    subst this
    rfl
  | n + 1, hi => by
    by_cases e : i = n + 1
    · subst e
      show sumN (n + 1) f + f (n + 1) = _
      congr 1
      exact sumN_congr fun k hk => by unfold skipN; rw [if_pos hk]
    · have ih := sumN_skip f (i := i) (n := n) (by omega)
      have e2 : skipN i n = n + 1 := by unfold skipN; rw [if_neg (by omega)]
      show sumN (n + 1) f + f (n + 1) = ((sumN n fun k => f (skipN i k)) + f (skipN i n)) + f i
      rw [e2, ih]
      grind
/-- what a plan of fewer ways is as one of all -/
def fillN (i : Nat) (y : Nat → Rat) (k : Nat) : Rat := if k < i then y k else if k = i then 0 else y (k - 1)
theorem fill_skip {i k : Nat} : fillN i y (skipN i k) = y k := by
  unfold fillN skipN
  by_cases e : k < i
  · rw [if_pos e, if_pos e]
  · rw [if_neg e, if_neg (show ¬ k + 1 < i by omega), if_neg (show ¬ k + 1 = i by omega)]
    congr 1
theorem fill_at {i : Nat} : fillN i y i = 0 := by
  unfold fillN
  rw [if_neg (by omega), if_pos rfl]
theorem sum_fill {i : Nat} (hi : i ≤ n) (g : Nat → Rat) : (sumN (n + 1) fun k => fillN i y k * g k) = sumN n fun k => y k * g (skipN i k) := by
  rw [sumN_skip (fun k => fillN i y k * g k) hi, fill_at]
  have e : (sumN n fun k => fillN i y (skipN i k) * g (skipN i k)) = sumN n fun k => y k * g (skipN i k) := sumN_congr fun k _ => by rw [fill_skip]
  rw [e]
  grind
theorem Opt.fewer {i : Nat} (hi : i ≤ n) (o : Opt a h b m (n + 1) v) (o' : Opt (fun k => a (skipN i k)) (fun k => h (skipN i k)) b m n v') : v ≤ v' := by
  obtain ⟨y, x, p, q, e1, e2⟩ := o'
  rw [e1]
  have := o.le (y := fillN i y) ⟨fun k hk => ?_, fun j hj => ?_⟩
  · refine Rat.le_trans this ?_
    unfold hrsN
    rw [sum_fill hi]
    exact Rat.le_refl
  · unfold fillN
    split
    · exact p.nn k (by omega)
    split
    · exact Rat.le_refl
    · exact p.nn (k - 1) (by omega)
  · rw [sum_fill hi fun k => a k j]
    exact p.meets j hj
/-- the walk's end tells it -/
theorem opt_fin {d : Dat} (df : DatF d) (he : ent d (fin d) = none) : Opt d.A (fun k => d.A k d.N) (fun j => -d.g0 j) d.m d.n ((fin d).g d.N) := by
  obtain ⟨tab, feas, -⟩ := fin_ok df
  refine ⟨yv d (fin d), xv d (fin d), ⟨fun k hk => y_nn he hk, fun j hj => y_meets df.ok tab he hj⟩, ⟨fun j _ => xv_nn feas j, fun k hk => ?_⟩, gN_eq df.ok tab, ?_⟩
  · have := x_fits df.ok tab feas hk
    rw [sumN_congr (f := fun j => xv d (fin d) j * d.A k j) (g := fun j => d.A k j * xv d (fin d) j) fun j _ => Rat.mul_comm _ _]
    exact this
  · rw [← x_worth df.ok tab]
    exact sumN_congr fun j _ => Rat.mul_comm _ _
end
end LP
set_option maxRecDepth 100000
set_option maxHeartbeats 4000000
set_option exponentiation.threshold 20000
namespace W1
open PySem PySem.Spec PyProof.Rows L2 NdefX TL NumText LP
/-! ### sheets as the program holds them -/
def rowL (R : Addr) (N : Nat) (f : Nat → Rat) : List Rl := (List.range (N + 1)).map fun j => rRat R (f j)
def linesL (R : Addr) (d : Dat) (S : Sht) : List Rl := (List.range d.n).map fun i => rLst (rowL R d.N (S.T i))
def basisL (d : Dat) (S : Sht) : List Rl := (List.range d.n).map fun i => rInt ((S.B i : Nat) : Int)
def shF (R : Addr) (d : Dat) (S : Sht) (pb : Addr) : List (Str × Rl) :=
  [("columns", rInt ((d.m : Nat) : Int)), ("count", rInt ((d.n : Nat) : Int)), ("lines", rLst (linesL R d S)), ("goal", rLst (rowL R d.N S.g)), ("basis", rRef pb)]
structure ShS (d : Dat) (S : Sht) : Prop where
  T : ∀ i j, i < d.n → j ≤ d.N → Sz 1300 (S.T i j)
  g : ∀ j, j ≤ d.N → Sz 1300 (S.g j)
structure Dm1 (d : Dat) : Prop where
  hm : d.m ≤ 100
  hn : d.n ≤ 100
def rOI : Option Nat → Rl
  | none => rNon
  | some c => rInt ((c : Nat) : Int)
structure ShX (K : PySem.W.Frag) (mg : Str → Option Value) (C : Addr) : Prop where
  cl : Cls K C
  gC : mg "Sheet" = some (.ref C)
  n1 : NoAttr K C "columns"
  n2 : NoAttr K C "count"
  n3 : NoAttr K C "lines"
  n4 : NoAttr K C "goal"
  n5 : NoAttr K C "basis"
theorem frac_small {z D : Int} {M n : Nat} {q : Rat} (h : q * (D : Rat) = (z : Rat)) (h0 : 0 < D) (hD : D.natAbs ≤ M) (hz : z.natAbs ≤ M) (hM : M < 2 ^ n) : Sz n q := by
  have hq : q = Rat.divInt z D := by
    have hne : (D : Rat) ≠ 0 := by
      intro e
      have : D = 0 := by exact_mod_cast e
      omega
    rw [Rat.divInt_eq_div, ← h]
    grind
  rw [hq]
  exact sz_divInt (by omega) (Nat.lt_of_le_of_lt hz hM) (Nat.lt_of_le_of_lt hD hM)
theorem shs_of {d : Dat} {S : Sht} {M : Nat} (h : Cd d S M) (hM : M < 2 ^ 1300) : ShS d S := by
  obtain ⟨D, D0, DM, hT, hg⟩ := h
  refine ⟨fun i j hi hj => ?_, fun j hj => ?_⟩
  · obtain ⟨z, z1, z2⟩ := hT i j hi hj
    exact frac_small z1 D0 DM z2 hM
  · obtain ⟨z, z1, z2⟩ := hg j hj
    exact frac_small z1 D0 DM z2 hM
section
variable {F : Fx} {w : Ow} {n i : Nat} {A : Nat → Rl}
theorem ixN_neg {n : Nat} (h : 0 < n) : ixN n (-1) = some (n - 1) := by
  unfold ixN
  split
  · omega
  · rename_i z
    first
    | (rw [if_pos (by omega)]; congr 1; omega)
    | (split <;> first | (congr 1; omega) | omega)
theorem get_fn (h : i < n) : ((List.range n).map A)[i]? = some (A i) := by
  rw [List.getElem?_map, List.getElem?_range h]; rfl
theorem iop_fn (h : i < n) : Iop F w (rLst ((List.range n).map A)) (rInt ((i : Nat) : Int)) (A i) := iop_L (n := i) (ixN_at (by rw [List.length_map, List.length_range]; exact h)) (get_fn h)
theorem iop_row {R : Addr} {N j : Nat} {f : Nat → Rat} (h : j ≤ N) : Iop F w (rLst (rowL R N f)) (rInt ((j : Nat) : Int)) (rRat R (f j)) := iop_fn (A := fun j => rRat R (f j)) (by omega)
theorem iop_rowL {R : Addr} {N : Nat} {f : Nat → Rat} : Iop F w (rLst (rowL R N f)) (rInt (-1)) (rRat R (f N)) :=
  iop_L (n := N) (by unfold rowL; rw [List.length_map, List.length_range, ixN_neg (by omega)]; rfl) (get_fn (A := fun j => rRat R (f j)) (by omega))
end
theorem ent_at {d : Dat} {S : Sht} {k : Nat} (hk : k < d.N) (h : S.g k < 0) (hb : ∀ c, c < k → ¬ S.g c < 0) : ent d S = some k := by
  unfold ent
  refine List.find?_eq_some_iff_append.mpr ⟨decide_eq_true h, (List.range d.N).take k, (List.range d.N).drop (k + 1), ?_, fun a ha => ?_⟩
  · have e : (List.range d.N)[k]'(by rw [List.length_range]; exact hk) = k := List.getElem_range _
    have := List.drop_eq_getElem_cons (l := List.range d.N) (i := k) (by rw [List.length_range]; exact hk)
    rw [e] at this
    rw [← this, List.take_append_drop]
  · obtain ⟨j, hj, e⟩ := List.mem_iff_getElem.mp ha
    rw [List.length_take] at hj
    rw [List.getElem_take, List.getElem_range] at e
    have := hb a (by omega)
    simpa using this
theorem ent_no {d : Dat} {S : Sht} (hb : ∀ c, c < d.N → ¬ S.g c < 0) : ent d S = none :=
  List.find?_eq_none.mpr fun c hc => by
    have := hb c (List.mem_range.mp hc)
    simpa using this
theorem leaF_b (N : Nat) (S : Sht) (c : Nat) : ∀ n, (leaF N S c n).2 = 0 ∨ ∃ r, r < n ∧ 0 < S.T r c ∧ (leaF N S c n).2 = S.T r N / S.T r c
  | 0 => .inl rfl
  | n + 1 => by
    have e : leaF N S c (n + 1) = if 0 < S.T n c ∧ better N S c n (leaF N S c n).1 (leaF N S c n).2 = true then (some n, S.T n N / S.T n c) else leaF N S c n := rfl
    by_cases z : 0 < S.T n c ∧ better N S c n (leaF N S c n).1 (leaF N S c n).2 = true
    · rw [e, if_pos z]; exact .inr ⟨n, by omega, z.1, rfl⟩
    · rw [e, if_neg z]
      rcases leaF_b N S c n with h | ⟨r, h1, h2, h3⟩
      · exact .inl h
      · exact .inr ⟨r, by omega, h2, h3⟩
theorem leaF_sz {d : Dat} {S : Sht} {c : Nat} (s : ShS d S) (hc : c ≤ d.N) {n : Nat} (hn : n ≤ d.n) : small (leaF d.N S c n).2 := by
  rcases leaF_b d.N S c n with h | ⟨r, h1, h2, h3⟩
  · rw [h]; exact sz_zero.mono (by decide)
  · rw [h3]
    have hne : (S.T r c).num ≠ 0 := fun z => by
      have : S.T r c = 0 := Rat.num_eq_zero.mp z
      rw [this] at h2
      exact absurd h2 (by decide)
    exact (sz_quo (s.T r d.N (by omega) (Nat.le_refl _)) (s.T r c (by omega) hc) (Nat.le_refl _) hne).mono (by decide)
end W1
set_option maxRecDepth 100000
set_option maxHeartbeats 1000000
set_option exponentiation.threshold 20000
namespace W1
open PySem PySem.Spec PyProof.Rows L2 NdefX TL NumText LP
/-! ### which column enters, which row leaves -/
structure ShG (P : Program) (w : World) (K : PySem.W.Frag) (mg : Str → Option Value) (base : Heap) (C R M : Addr) : Prop where
  X : RtX P w K mg base R M
  SX : ShX K mg C
  Tq : Km P w K mg base R "quotient" 5 (pQuo R M)
  Ts : Ko P w K mg base R "__sub__" 5 (pSub R)
  Tn : Ko P w K mg base R "__neg__" 5 (pNeg R)
  len : mg "len" = none
  rg : mg "range" = none
  en : mg "enumerate" = none
  zp : mg "zip" = none
  int : mg "int" = none
def pEnt (C R : Addr) : Pre := fun Rs w o w' => ∃ d S q pb, Dm1 d ∧ ShS d S ∧ Rs = [rRef q] ∧ w = [(q, oIns C (shF R d S pb)), (pb, oL (basisL d S))] ∧ w' = [(q, oIns C (shF R d S pb)), (pb, oL (basisL d S))] ∧ o = .ok (rOI (ent d S))
def pLea (C R : Addr) : Pre := fun Rs w o w' => ∃ d S q pb c, Dm1 d ∧ ShS d S ∧ c ≤ d.N ∧ Rs = [rRef q, rInt ((c : Nat) : Int)] ∧ w = [(q, oIns C (shF R d S pb)), (pb, oL (basisL d S))] ∧ w' = [(q, oIns C (shF R d S pb)), (pb, oL (basisL d S))] ∧ o = .ok (rOI (lea d S c))
theorem num_fn {n k : Nat} {A : Nat → Rl} {S : Rl} (h : (numR ((List.range n).map A))[k]? = some S) : k < n ∧ S = rTup [rInt ((k : Nat) : Int), A k] := by
  obtain ⟨R, hR, rfl⟩ := numR_get h
  rw [List.getElem?_map] at hR
  cases e : (List.range n)[k]? with
  | none => rw [e] at hR; cases hR
  | some j =>
    rw [e] at hR
    obtain ⟨h1, h2⟩ := List.getElem?_eq_some_iff.mp e
    rw [List.length_range] at h1
    rw [List.getElem_range] at h2
    subst h2
    cases hR
    exact ⟨h1, rfl⟩
theorem num_pos {q : Rat} (h : 0 < q) : q.num ≠ 0 := fun z => by
  have : q = 0 := Rat.num_eq_zero.mp z
  rw [this] at h
  exact absurd h (by decide)
section
variable {P : Program} {w : World} {K : PySem.W.Frag} {mg : Str → Option Value} {base : Heap} {C M R f : Addr} {fd : FuncData}
theorem kf_ent (Fn : Fun K "entering" "Sheet.entering" s_Sheet_entering f fd) (G : ShG P w K mg base C R M) : FnOk P w K mg base (L2.CX P w) 6 f fd P_Sheet_entering (spM (pEnt C R)) := by
  refine fn_ok Fn c_Sheet_entering (fun _ _ _ _ ⟨_, _, _, _, _, _, h, _⟩ => by rw [h]; rfl) ?_
  rintro cdv A outer s H E ⟨_, G0, H0, M', W', tk⟩ hr rfl Rs ω o ω' ⟨d, S, q, pb, dm, sz, rfl, rfl, rfl, rfl⟩
  have nd := c_Sheet_entering.nd
  have cl := G.SX.cl
  have n1 := G.SX.n1
  have n2 := G.SX.n2
  have n4 := G.SX.n4
  have X := G.X
  have hm := dm.hm
  have hn := dm.hn
  refine hb_for (it_rng1 (ar_cons (er_bin (er_fldO (er_v 0 rfl rfl) List.mem_cons_self cl n1 rfl) (er_fldO (er_v 0 rfl rfl) List.mem_cons_self cl n2 rfl) bop_add) ar_nil) rfl G.rg (by omega)) (fun k ρ w => w = [(q, oIns C (shF R d S pb)), (pb, oL (basisL d S))] ∧ (∀ c, c < k → ¬ S.g c < 0) ∧ ∃ z, ρ = [some (rRef q), z]) ⟨rfl, fun c h => absurd h (Nat.not_lt_zero _), none, rfl⟩ ?_ ?_ (passes_of rfl) (pg_name (i := 1) nd rfl (Or.inl rfl))
  · rintro k ρ w S' hS ⟨rfl, hb, z, rfl⟩
    obtain ⟨hk, rfl⟩ := rng_get hS
    have hk : k < d.m + d.n := by omega
    rw [Int.zero_add]
    refine ⟨_, ge_name, ?_⟩
    refine hb_if (b := decide (S.g k < 0)) (tr_val (er_m X.Tu X.X.cx.cls hr (er_ix (er_fldO (er_v 0 rfl rfl) List.mem_cons_self cl n4 rfl) (er_v 1 rfl rfl) (iop_row (by show k ≤ d.m + d.n; omega))) (ar_cons (er_cm X.Tw hr (er_gC X.X.gC) (ar_cons er_int ar_nil) (pWholeOk (n := 0))) ar_nil) (pUnderOk ((sz.g k (by show k ≤ d.m + d.n; omega)).mono (by decide)) (sz_zero.mono (by decide))))) (fun h => ?_) (fun h => hb_nil (hb_nil ⟨rfl, fun c hc => ?_, _, rfl⟩))
    · exact hb_ret (er_v 1 rfl rfl) ⟨_, [], rfl, fun v G h' => by rw [ent_at hk (of_decide_eq_true h) hb]; exact h', rfl⟩
    · by_cases e : c = k
      · rw [e]; exact of_decide_eq_false h
      · exact hb c (by omega)
  · rintro ρ w ⟨rfl, hb, z, rfl⟩
    rw [rng_len] at hb
    have hb : ∀ c, c < d.N → ¬ S.g c < 0 := fun c hc => hb c (by have : c < d.m + d.n := hc; omega)
    exact hb_ret er_non ⟨_, [], rfl, fun v G h' => by rw [ent_no hb]; exact h', rfl⟩
theorem kf_lea (Fn : Fun K "leaving" "Sheet.leaving" s_Sheet_leaving f fd) (G : ShG P w K mg base C R M) : FnOk P w K mg base (L2.CX P w) 6 f fd P_Sheet_leaving (spM (pLea C R)) := by
  refine fn_ok Fn c_Sheet_leaving (fun _ _ _ _ ⟨_, _, _, _, _, _, _, _, h, _⟩ => by rw [h]; rfl) ?_
  rintro cdv A outer s H E ⟨_, G0, H0, M', W', tk⟩ hr rfl Rs ω o ω' ⟨d, S, q, pb, c, dm, sz, hc, rfl, rfl, rfl, rfl⟩
  have nd := c_Sheet_leaving.nd
  have cl := G.SX.cl
  have n3 := G.SX.n3
  have n5 := G.SX.n5
  have X := G.X
  have clr := X.X.cx.cls
  have hm := dm.hm
  have hn := dm.hn
  refine hb_setA (R := rOI none) 2 rfl er_non ?_
  refine hb_setA (R := rRat R 0) 3 rfl (er_cm X.Tw hr (er_gC X.X.gC) (ar_cons er_int ar_nil) (pWholeOk (n := 0))) ?_
  refine hb_for (it_enumL (ar_cons (er_fldO (er_v 0 rfl rfl) List.mem_cons_self cl n3 rfl) ar_nil) rfl G.en) (fun k ρ w => w = [(q, oIns C (shF R d S pb)), (pb, oL (basisL d S))] ∧ ∃ z4 z5 z6, ρ = [some (rRef q), some (rInt ((c : Nat) : Int)), some (rOI (leaF d.N S c k).1), some (rRat R (leaF d.N S c k).2), z4, z5, z6]) ⟨rfl, none, none, none, rfl⟩ ?_ ?_ (passes_of rfl) (pg_tup rfl (pgs_cons (pg_name (i := 4) nd rfl (Or.inl rfl)) (pgs_cons (pg_name (i := 5) nd rfl (Or.inl rfl)) pgs_nil)))
  · rintro k ρ w S' hS ⟨rfl, z4, z5, z6, rfl⟩
    obtain ⟨hk, rfl⟩ : k < d.n ∧ S' = rTup [rInt ((k : Nat) : Int), rLst (rowL R d.N (S.T k))] := num_fn hS
    refine ⟨_, ge_tup (ges_cons ge_name (ges_cons ge_name ges_nil)) rfl, ?_⟩
    have es : leaF d.N S c (k + 1) = if 0 < S.T k c ∧ better d.N S c k (leaF d.N S c k).1 (leaF d.N S c k).2 = true then (some k, S.T k d.N / S.T k c) else leaF d.N S c k := rfl
    have lsz := leaF_sz (n := k) sz hc (by omega)
    have spec := (leaF_spec d.N S c k).2
    refine hb_if (b := decide (0 < S.T k c)) (tr_val (er_m X.Tu clr hr (er_cm X.Tw hr (er_gC X.X.gC) (ar_cons er_int ar_nil) (pWholeOk (n := 0))) (ar_cons (er_ix (er_v 5 rfl rfl) (er_v 1 rfl rfl) (iop_row hc)) ar_nil) (pUnderOk (sz_zero.mono (by decide)) ((sz.T k c hk hc).mono (by decide))))) (fun h => ?_) (fun h => hb_nil (hb_nil ⟨rfl, _, _, _, by rw [es, if_neg fun z => of_decide_eq_false h z.1]; rfl⟩))
    have hp : 0 < S.T k c := of_decide_eq_true h
    have hsz : small (S.T k d.N / S.T k c) := (sz_quo (sz.T k d.N hk (Nat.le_refl _)) (sz.T k c hk hc) (Nat.le_refl _) (num_pos hp)).mono (by decide)
    refine hb_setA (R := rRat R (S.T k d.N / S.T k c)) (w1 := [(q, oIns C (shF R d S pb)), (pb, oL (basisL d S))]) 6 rfl (er_m G.Tq clr hr (er_ix (er_v 5 rfl rfl) (er_un er_int uop_neg) iop_rowL) (ar_cons (er_ix (er_v 5 rfl rfl) (er_v 1 rfl rfl) (iop_row hc)) ar_nil) (pQuoOk ((sz.T k d.N hk (Nat.le_refl _)).mono (by decide)) ((sz.T k c hk hc).mono (by decide)) (num_pos hp))) ?_
    cases ef : leaF d.N S c k with
    | mk f b =>
      rw [ef] at es lsz
      cases f with
      | none =>
        refine hb_if (b := true) (PWR.tr (tr_or (k := true) (m := true) (tr_to (tr_cmp (er_v 2 rfl rfl) er_non (bop_isN (x := .non))) (decide_eq_true rfl)) fun z => Bool.noConfusion z)) (fun _ => ?_) (fun z => Bool.noConfusion z)
        exact hb_setA 2 rfl (er_v 4 rfl rfl) (hb_setA 3 rfl (er_v 6 rfl rfl) (hb_nil (hb_nil (hb_nil ⟨rfl, _, _, _, by rw [es, if_pos ⟨hp, rfl⟩]; rfl⟩))))
      | some r =>
        obtain ⟨a1, a2, a3, -⟩ := spec r b ef
        refine hb_if (b := better d.N S c k (some r) b) (tr_to (PWR.tr (tr_or (k := false) (m := better d.N S c k (some r) b) (tr_to (tr_cmp (er_v 2 rfl rfl) er_non (bop_isN (x := .int ((r : Nat) : Int)))) (decide_eq_false fun z => by cases z)) fun _ => tr_or (k := decide (S.T k d.N / S.T k c < b)) (m := decide (S.T k d.N / S.T k c = b) && decide (S.B k < S.B r)) (tr_val (er_m X.Tu clr hr (er_v 6 rfl rfl) (ar_cons (er_v 3 rfl rfl) ar_nil) (pUnderOk hsz lsz))) fun _ => tr_or1 (PWR.tr (tr_and (k := decide (S.T k d.N / S.T k c = b)) (m := decide (S.B k < S.B r)) (tr_cmp (er_v 6 rfl rfl) (er_v 3 rfl rfl) (bop_oE X.Te hr pEqOk tyr_ins X.X.nf)) fun _ => tr_and1 (tr_to (tr_cmp (er_ixO (n := k) (er_fldO (er_v 0 rfl rfl) List.mem_cons_self cl n5 rfl) (er_v 4 rfl rfl) (List.mem_cons_of_mem _ List.mem_cons_self) (ixN_at (by unfold basisL; rw [List.length_map, List.length_range]; exact hk)) (get_fn (A := fun i => rInt ((S.B i : Nat) : Int)) hk)) (er_ixO (n := r) (er_fldO (er_v 0 rfl rfl) List.mem_cons_self cl n5 rfl) (er_v 2 rfl rfl) (List.mem_cons_of_mem _ List.mem_cons_self) (ixN_at (by unfold basisL; rw [List.length_map, List.length_range]; omega)) (get_fn (A := fun i => rInt ((S.B i : Nat) : Int)) (by omega))) bop_lt) (decide_eq_decide.mpr Int.ofNat_lt)))))) rfl) (fun hb => ?_) (fun hb => hb_nil (hb_nil (hb_nil ⟨rfl, _, _, _, by rw [es, if_neg fun z => by rw [hb] at z; exact absurd z.2 (by decide)]; rfl⟩)))
        exact hb_setA 2 rfl (er_v 4 rfl rfl) (hb_setA 3 rfl (er_v 6 rfl rfl) (hb_nil (hb_nil (hb_nil ⟨rfl, _, _, _, by rw [es, if_pos ⟨hp, hb⟩]; rfl⟩))))
  · rintro ρ w ⟨rfl, z4, z5, z6, rfl⟩
    refine hb_ret (er_v 2 rfl rfl) ⟨_, [], rfl, fun v G h' => ?_, rfl⟩
    rw [numR_len] at h'
    unfold linesL at h'
    rw [List.length_map, List.length_range] at h'
    exact h'
end
end W1
set_option maxRecDepth 100000
set_option maxHeartbeats 1000000
set_option exponentiation.threshold 20000
namespace W1
open PySem PySem.Spec PyProof.Rows L2 NdefX TL NumText LP
/-! ### one turn -/
def pTurn (C R : Addr) : Pre := fun Rs w o w' => ∃ d S q pb r c, Dm1 d ∧ ShS d S ∧ ShS d (turn S r c) ∧ r < d.n ∧ c < d.N ∧ S.T r c ≠ 0 ∧ Rs = [rRef q, rInt ((r : Nat) : Int), rInt ((c : Nat) : Int)] ∧ w = [(q, oIns C (shF R d S pb)), (pb, oL (basisL d S))] ∧ w' = [(q, oIns C (shF R d (turn S r c) pb)), (pb, oL (basisL d (turn S r c)))] ∧ o = .ok rNon
theorem zipR_fn {n : Nat} {A B : Nat → Rl} : zipR ((List.range n).map A) ((List.range n).map B) = (List.range n).map fun j => rTup [A j, B j] := by
  unfold zipR
  apply List.ext_getElem
  · simp
  · intro i h1 h2
    simp
theorem set_fn {n r : Nat} {A B : Nat → Rl} (h : ∀ i, i ≠ r → A i = B i) : ((List.range n).map A).set r (B r) = (List.range n).map B := by
  apply List.ext_getElem
  · simp
  · intro i h1 h2
    rw [List.getElem_set]
    simp only [List.getElem_map, List.getElem_range]
    split
    · rename_i e; rw [e]
    · rename_i e; exact h i (fun z => e z.symm)
theorem snoc_fn {k : Nat} {A : Nat → Rl} : ((List.range k).map A) ++ [A k] = (List.range (k + 1)).map A := by
  rw [List.range_succ, List.map_append]
  rfl
section
variable {P : Program} {w : World} {K : PySem.W.Frag} {mg : Str → Option Value} {base : Heap} {C M R f : Addr} {fd : FuncData}
theorem kf_turn (Fn : Fun K "turn" "Sheet.turn" s_Sheet_turn f fd) (G : ShG P w K mg base C R M) : FnOk P w K mg base (L2.CX P w) 6 f fd P_Sheet_turn (spM (pTurn C R)) := by
  refine fn_ok Fn c_Sheet_turn (fun _ _ _ _ ⟨_, _, _, _, _, _, _, _, _, _, _, _, h, _⟩ => by rw [h]; rfl) ?_
  rintro cdv A outer s H E ⟨_, G0, H0, M', W', tk⟩ hr rfl Rs ω o ω' ⟨d, S, q, pb, r, c, dm, sz, sz', hrn, hc, hp, rfl, rfl, rfl, rfl⟩
  have nd := c_Sheet_turn.nd
  have cl := G.SX.cl
  have n3 := G.SX.n3
  have n4 := G.SX.n4
  have n5 := G.SX.n5
  have X := G.X
  have clr := X.X.cx.cls
  have hm := dm.hm
  have hn := dm.hn
  have hcN : c ≤ d.N := Nat.le_of_lt hc
  have hN : d.N ≤ 200 := by show d.m + d.n ≤ 200; omega
  have hpn : (S.T r c).num ≠ 0 := fun z => hp (Rat.num_eq_zero.mp z)
  have ePv : ∀ j, (turn S r c).T r j = S.T r j / S.T r c := fun j => if_pos rfl
  have eT : ∀ {k : Nat}, k ≠ r → ∀ j, (turn S r c).T k j = S.T k j - S.T k c * (S.T r j / S.T r c) := fun h j => if_neg h
  have sPv : ∀ j, j ≤ d.N → Sz 1300 (S.T r j / S.T r c) := fun j hj => ePv j ▸ sz'.T r j hrn hj
  have len1 : (List.range (d.N + 1)).length ≤ 100000 := by rw [List.length_range]; omega
  refine hb_setA (R := rRat R (S.T r c)) (w1 := [(q, oIns C (shF R d S pb)), (pb, oL (basisL d S))]) 3 rfl (er_ix (er_ix (er_fldO (er_v 0 rfl rfl) List.mem_cons_self cl n3 rfl) (er_v 1 rfl rfl) (iop_fn (A := fun i => rLst (rowL R d.N (S.T i))) hrn)) (er_v 2 rfl rfl) (iop_row hcN)) ?_
  refine hb_setLc (xs := List.range (d.N + 1)) (A := fun j => rRat R (S.T r j)) (B := fun j => rRat R (S.T r j / S.T r c)) (w1 := [(q, oIns C (shF R d S pb)), (pb, oL (basisL d S))]) 4 (it_lst (er_ix (er_fldO (er_v 0 rfl rfl) List.mem_cons_self cl n3 rfl) (er_v 1 rfl rfl) (iop_fn (A := fun i => rLst (rowL R d.N (S.T i))) hrn))) len1 [("item", 5)] (blkOk_by (N := N_Sheet_turn) (sc := defScope s_Sheet_turn) (by decide +kernel)) (fun _ _ _ _ _ => pg_name (i := 5) nd rfl (Or.inl rfl)) (fun _ _ _ => gew_name) (fun i j hj s1 H1 cc cl' fp d' => ?_) ?_ nd (by rfl)
  · have hj := List.mem_range.mp (List.mem_of_getElem? hj)
    exact er_m G.Tq clr hr (er_v 5 rfl rfl) (ar_cons (er_v 3 rfl rfl) ar_nil) (pQuoOk ((sz.T r j hrn (by omega)).mono (by decide)) ((sz.T r c hrn hcN).mono (by decide)) hpn)
  refine hb_setNA 6 rfl (en_lst (Rs := []) ar_nil (Nat.zero_le _)) fun ql hql => ?_
  refine hb_for (it_enumL (ar_cons (er_fldO (er_v 0 rfl rfl) (List.mem_cons_of_mem _ List.mem_cons_self) cl n3 rfl) ar_nil) rfl G.en) (fun k ρ w => w = [(ql, oL ((List.range k).map fun i => rLst (rowL R d.N ((turn S r c).T i)))), (q, oIns C (shF R d S pb)), (pb, oL (basisL d S))] ∧ ∃ z7 z8, ρ = [some (rRef q), some (rInt ((r : Nat) : Int)), some (rInt ((c : Nat) : Int)), some (rRat R (S.T r c)), some (rLst ((List.range (d.N + 1)).map fun j => rRat R (S.T r j / S.T r c))), none, some (rRef ql), z7, z8, none]) ⟨rfl, none, none, rfl⟩ ?_ ?_ (passes_of rfl) (pg_tup rfl (pgs_cons (pg_name (i := 7) nd rfl (Or.inl rfl)) (pgs_cons (pg_name (i := 8) nd rfl (Or.inr rfl)) pgs_nil)))
  · rintro k ρ w S' hS ⟨rfl, z7, z8, rfl⟩
    obtain ⟨hk, rfl⟩ : k < d.n ∧ S' = rTup [rInt ((k : Nat) : Int), rLst (rowL R d.N (S.T k))] := num_fn hS
    refine ⟨_, ge_tup (ges_cons ge_name (ges_cons ge_name ges_nil)) rfl, ?_⟩
    have lk : ((List.range k).map fun i => rLst (rowL R d.N ((turn S r c).T i))).length ≤ 100000 := by rw [List.length_map, List.length_range]; omega
    refine hb_if (b := decide (k = r)) (tr_to (tr_cmp (er_v 7 rfl rfl) (er_v 1 rfl rfl) bop_eqI) (decide_eq_decide.mpr (by omega))) (fun h => ?_) (fun h => ?_)
    · have h := of_decide_eq_true h
      have e : rLst ((List.range (d.N + 1)).map fun j => rRat R (S.T r j / S.T r c)) = rLst (rowL R d.N ((turn S r c).T k)) := by
        unfold rowL
        rw [h]
        congr 1
        exact List.map_congr_left fun j _ => by rw [ePv]
      exact hb_append (R := rLst (rowL R d.N ((turn S r c).T k))) (w2 := [(q, oIns C (shF R d S pb)), (pb, oL (basisL d S))]) (er_v 6 rfl rfl) List.mem_cons_self (ar_cons (er_eq (er_v 4 rfl rfl) e) ar_nil) lk (hb_nil (hb_nil ⟨by rw [snoc_fn (A := fun i => rLst (rowL R d.N ((turn S r c).T i)))], _, _, rfl⟩))
    · have h := of_decide_eq_false h
      have e : rLst ((List.range (d.N + 1)).map fun j => rRat R (S.T k j - S.T k c * (S.T r j / S.T r c))) = rLst (rowL R d.N ((turn S r c).T k)) := by
        unfold rowL
        congr 1
        exact List.map_congr_left fun j _ => by rw [eT h]
      refine hb_append (R := rLst (rowL R d.N ((turn S r c).T k))) (w2 := [(q, oIns C (shF R d S pb)), (pb, oL (basisL d S))]) (er_v 6 rfl rfl) List.mem_cons_self (ar_cons (er_eq (er_lc (xs := List.range (d.N + 1)) (A := fun j => rTup [rRat R (S.T k j), rRat R (S.T r j / S.T r c)]) (B := fun j => rRat R (S.T k j - S.T k c * (S.T r j / S.T r c))) (by rw [← zipR_fn]; exact it_zip2 (b := true) (ar_cons (er_v 8 rfl rfl) (ar_cons (er_v 4 rfl rfl) ar_nil)) (by rw [List.length_map, List.length_map]) rfl G.zp) len1 [("item", 5), ("one", 9)] (blkOk_by (N := N_Sheet_turn) (sc := defScope s_Sheet_turn) (by decide +kernel))
        (fun _ _ _ _ _ => pg_tup rfl (pgs_cons (pg_name (i := 5) nd rfl (Or.inl rfl)) (pgs_cons (pg_name (i := 9) nd rfl (Or.inl rfl)) pgs_nil))) (fun i p hp => gew_tup2) (fun i j hj s1 H1 cc cl' fp d' => ?_) nd) e) ar_nil) lk (hb_nil (hb_nil ⟨by rw [snoc_fn (A := fun i => rLst (rowL R d.N ((turn S r c).T i)))], _, _, rfl⟩))
      have hj := List.mem_range.mp (List.mem_of_getElem? hj)
      exact er_bin (er_v 5 rfl rfl) (er_bin (er_ix (er_v 8 rfl rfl) (er_v 2 rfl rfl) (iop_row hcN)) (er_v 9 rfl rfl) (bop_o X.Tm X.X.cx hr (pMulOk ((sz.T k c hk hcN).mono (by decide)) ((sPv j (by omega)).mono (by decide))))) (bop_o G.Ts X.X.cx hr (pSubOk ((sz.T k j hk (by omega)).mono (by decide)) ((sz_mul (sz.T k c hk hcN) (sPv j (by omega)) (Nat.le_refl _)).mono (by decide))))
  · rintro ρ w ⟨rfl, z7, z8, rfl⟩
    have eL : (numR (linesL R d S)).length = d.n := by rw [numR_len]; unfold linesL; rw [List.length_map, List.length_range]
    rw [eL]
    refine hb_pub (R := rLst (linesL R d (turn S r c))) 6 rfl hql pub_lst ?_
    have eg : rLst ((List.range (d.N + 1)).map fun j => rRat R (S.g j - S.g c * (S.T r j / S.T r c))) = rLst (rowL R d.N (turn S r c).g) := rfl
    refine hb_fld (R := rLst (rowL R d.N (turn S r c).g)) (w1 := [(q, oIns C (shF R d S pb)), (pb, oL (basisL d S))]) (w2 := [(pb, oL (basisL d S))]) (er_eq (er_lc (xs := List.range (d.N + 1)) (A := fun j => rTup [rRat R (S.g j), rRat R (S.T r j / S.T r c)]) (B := fun j => rRat R (S.g j - S.g c * (S.T r j / S.T r c))) (by rw [← zipR_fn]; exact it_zip2 (b := true) (ar_cons (er_fldO (er_v 0 rfl rfl) List.mem_cons_self cl n4 rfl) (ar_cons (er_v 4 rfl rfl) ar_nil)) (by rw [List.length_map, List.length_map]) rfl G.zp) len1 [("item", 5), ("one", 9)] (blkOk_by (N := N_Sheet_turn) (sc := defScope s_Sheet_turn) (by decide +kernel))
        (fun _ _ _ _ _ => pg_tup rfl (pgs_cons (pg_name (i := 5) nd rfl (Or.inl rfl)) (pgs_cons (pg_name (i := 9) nd rfl (Or.inl rfl)) pgs_nil))) (fun i p hp => gew_tup2) (fun i j hj s1 H1 cc cl' fp d' => ?_) nd) eg) (er_v 0 rfl rfl) cl n4 ?_ (hl := by show 5 < 1000; decide)
    · have hj := List.mem_range.mp (List.mem_of_getElem? hj)
      exact er_bin (er_v 5 rfl rfl) (er_bin (er_ix (er_fldO (er_v 0 rfl rfl) (List.mem_cons_of_mem _ List.mem_cons_self) cl n4 rfl) (er_v 2 rfl rfl) (iop_row hcN)) (er_v 9 rfl rfl) (bop_o X.Tm X.X.cx hr (pMulOk ((sz.g c hcN).mono (by decide)) ((sPv j (by omega)).mono (by decide))))) (bop_o G.Ts X.X.cx hr (pSubOk ((sz.g j (by omega)).mono (by decide)) ((sz_mul (sz.g c hcN) (sPv j (by omega)) (Nat.le_refl _)).mono (by decide))))
    refine hb_fld (R := rLst (linesL R d (turn S r c))) (w2 := [(pb, oL (basisL d S))]) (er_v 6 rfl rfl) (er_v 0 rfl rfl) cl n3 ?_ (hl := by show 5 < 1000; decide)
    refine hb_perm (List.Perm.swap _ _ _) ?_
    refine hb_sub (R := rInt ((c : Nat) : Int)) (i := ((r : Nat) : Int)) (n := r) (Rs := basisL d S) (er_v 2 rfl rfl) (er_fldO (er_v 0 rfl rfl) (List.mem_cons_of_mem _ List.mem_cons_self) cl n5 rfl) (er_v 1 rfl rfl) (ixN_at (by unfold basisL; rw [List.length_map, List.length_range]; exact hrn)) ?_
    refine hb_perm (List.Perm.swap _ _ _) (hb_nil ⟨rNon, [], rfl, fun _ => rfl, ?_⟩)
    have eB : (basisL d S).set r (rInt ((c : Nat) : Int)) = basisL d (turn S r c) := by
      unfold basisL
      have := set_fn (n := d.n) (r := r) (A := fun i => rInt ((S.B i : Nat) : Int)) (B := fun i => rInt (((turn S r c).B i : Nat) : Int)) fun i hi => by
        show _ = rInt (((if i = r then c else S.B i) : Nat) : Int)
        rw [if_neg hi]
      rw [← this]
      congr 1
      show rInt ((c : Nat) : Int) = rInt (((if r = r then c else S.B r) : Nat) : Int)
      rw [if_pos rfl]
    rw [eB]
    rfl
end
end W1
set_option maxRecDepth 100000
set_option maxHeartbeats 1000000
set_option exponentiation.threshold 20000
namespace W1
open PySem PySem.Spec PyProof.Rows L2 NdefX TL NumText LP
/-! ### more lists that are owned -/
section
variable {F : Fx} {ρ : Ty} {ω w w1 w2 w3 : Ow} {a b o : Expr} {Rs : List Rl} {pos p2 : Pos} {v u : Option Int}
theorem en_rep {k : Int} (ha : ER F ρ ω a (rLst Rs) w1) (hb : ER F ρ w1 b (rInt k) w2) (h1 : -(2 ^ 63) ≤ k) (h2 : k < 2 ^ 63) (hz : Rs.length * k.toNat ≤ 100000) : EN F ρ ω (.BinOp a .Mult b pos) (oL (List.replicate k.toNat Rs).flatten) w2 := fun σ G H at_ sl Q q => by
  refine ew_of (pe_op op_rep pe_w pe_w) (ha σ G H at_ sl _ fun x G1 H1 s1 a1 hx => hb σ G1 H1 a1 (sl.up s1) _ fun y G2 H2 s2 a2 hy => ?_)
  obtain ⟨l, vs, rfl, e1, e2⟩ := (rLst Rs).mo _ _ _ s2 hx
  exact ⟨l, k, vs, rfl, hy, a2.gh _ _ e1, h1, h2, Nat.le_trans (by rw [← e2.len]; exact hz) (by decide), fun p hp => q p G2 _ (fun hm => a2.mm p hm hp) (s1.trans s2) (a2.own hp ⟨_, rfl, all2_flat e2 _⟩)⟩
theorem en_sliceL {lo hi : Option Expr} (ho : ER F ρ ω o (rLst Rs) w1) (hl : PR F ρ w1 lo v w2) (hh : PR F ρ w2 hi u w3) : EN F ρ ω (.Subscript o (.Slice lo hi none p2) pos) (oL (cutR Rs v u)) w3 := fun σ G H at_ sl Q k => by
  obtain ⟨tl, htl, hl⟩ := hl
  obtain ⟨th, hth, hh⟩ := hh
  refine ew_of (pe_slice sl_list pe_w htl hth) (ho σ G H at_ sl _ fun x G1 H1 s1 a1 r1 => hl σ G1 H1 a1 (sl.up s1) _ fun G2 H2 s2 a2 => hh σ G2 H2 a2 ((sl.up s1).up s2) _ fun G3 H3 s3 a3 => ?_)
  obtain ⟨q, vs, rfl, h1, h2⟩ := (rLst Rs).mo _ _ _ (s2.trans s3) r1
  refine ⟨q, vs, rfl, SqL.of (a3.gh _ _ h1), fun l hlf => k l G3 _ (fun hm => a3.mm l hm hlf) ((s1.trans s2).trans s3) (a3.own hlf ⟨_, rfl, ?_⟩)⟩
  unfold cutR cutV
  rw [h2.len]
  exact (h2.drop _).take _
end
section
variable {F : Fx} {ρ : Ty} {ω w1 wc wc' : Ow} {e o : Expr} {es : List Expr} {R : Rl} {Rs : List Rl} {pos apos : Pos} {m : Str} {k : Nat} {C q : Addr} {pre : Pre} {fs : List (Str × Rl)}
/-- o.m(..) of an owned one, all that is owned handed over -/
theorem er_mA {pl : Sem Bool} (T : Km F.X.prog F.X.w F.X.K F.X.mg F.X.base C m k pre) (hc : Cls F.X.K C) (hr : Room k F.X.A) (ho : ER F ρ ω o (rRef q) w1) (hm : (q, oIns C fs) ∈ w1) (ha : AR F ρ w1 (e :: es) Rs wc) (hp : pre (rRef q :: Rs) wc (.ok R) wc') (hk : keys wc' = keys wc := by rfl) (hno : fs.lookup m = none := by rfl)
    (hst : starEach (e :: es) F.X.env = (false, eval e F.X.env) :: starEach es F.X.env := by rfl) (hpl : (backTo pos (starEach es F.X.env)).any (·.1) = false := by rfl)
    (ht : eval (.Call (.Attribute o m apos) (e :: es) [] pos) F.X.env = (do
      let ov ← eval o F.X.env
      standAt apos.atName
      let (f, first) ← holding [ov] (getMethod ov m pl)
      callWith pos f first (backTo pos (starEach (e :: es) F.X.env)) (backToKw pos (keywordEach [] F.X.env))) := by rfl) :
    ER F ρ ω (.Call (.Attribute o m apos) (e :: es) [] pos) R wc' := by
  have := er_mO (w := []) (wc := wc) (wc' := wc') T hc hr ho hm (by rw [List.append_nil]; exact ha) hp hk hno hst hpl ht
  rw [List.append_nil] at this
  exact this
theorem hb_retOk {K : Kn} {rest : List Stmt} {O : Ol} (he : EN F ρ ω e O w1) (h : ∀ q, q ∉ F.M → q ∉ keys w1 → K.rt (rRef q) ((q, O) :: w1)) : HB F ρ ω (.Return (some e) pos :: rest) K := hb_cons fun σ G H D at_ sl ps =>
  sw_of (ps_ret pe_w) (he σ G H at_ sl _ fun q G2 H2 hM s a => ps.rt _ _ (h q hM (List.nodup_cons.mp a.nd).1) _ G2 H2 s a rfl)
theorem er_mA0 {pl : Sem Bool} (T : Km F.X.prog F.X.w F.X.K F.X.mg F.X.base C m k pre) (hc : Cls F.X.K C) (hr : Room k F.X.A) (ho : ER F ρ ω o (rRef q) wc) (hm : (q, oIns C fs) ∈ wc) (hp : pre [rRef q] wc (.ok R) wc') (hk : keys wc' = keys wc := by rfl) (hno : fs.lookup m = none := by rfl)
    (ht : eval (.Call (.Attribute o m apos) [] [] pos) F.X.env = (do
      let ov ← eval o F.X.env
      standAt apos.atName
      let (f, first) ← holding [ov] (getMethod ov m pl)
      callWith pos f first (backTo pos (starEach [] F.X.env)) (backToKw pos (keywordEach [] F.X.env))) := by rfl) :
    ER F ρ ω (.Call (.Attribute o m apos) [] [] pos) R wc' := by
  have := er_mO0 (w := []) (wc := wc) (wc' := wc') T hc hr (by rw [List.append_nil]; exact ho) hm hp hk hno ht
  rw [List.append_nil] at this
  exact this
end
theorem keys2 {a b : Addr} {O1 O2 O3 O4 : Ol} : keys [(a, O1), (b, O2)] = keys [(a, O3), (b, O4)] := rfl
theorem cut_fn {A : Nat → Rl} {m n N : Nat} (h : m + n ≤ N) : cutR ((List.range N).map A) (some ((m : Nat) : Int)) (some (((m : Nat) : Int) + ((n : Nat) : Int))) = (List.range n).map fun k => A (m + k) := by
  unfold cutR
  rw [List.length_map, List.length_range, show ((m : Nat) : Int) + ((n : Nat) : Int) = ((m + n : Nat) : Int) by omega, HT.sIx_nat, HT.sIx_nat, Nat.min_eq_left h, Nat.min_eq_left (by omega : m ≤ N)]
  apply List.ext_getElem
  · simp
    omega
  · intro i h1 h2
    simp
theorem rep_fn {A : Rl} {n : Nat} : (List.replicate n [A]).flatten = (List.range n).map fun _ => A := by
  induction n with
  | zero => rfl
  | succ n ih =>
    rw [List.replicate_succ', List.flatten_append, ih, List.range_succ, List.map_append]
    rfl
/-! ### to the end -/
def FinOk (d : Dat) : Prop := DatF d ∧ ∃ M, Cd d (sh0 d) M ∧ grown d.m M < 2 ^ 1300
theorem FinOk.sz {d : Dat} (h : FinOk d) {S : Sht} (t : Tab d S) : ShS d S := by
  obtain ⟨h, M, c, hM⟩ := h
  exact shs_of (t.cd h.ok c) hM
def pSolve (C R : Addr) : Pre := fun Rs w o w' => ∃ d q pb, Dm1 d ∧ FinOk d ∧ Rs = [rRef q] ∧ w = [(q, oIns C (shF R d (sh0 d) pb)), (pb, oL (basisL d (sh0 d)))] ∧ w' = [(q, oIns C (shF R d (fin d) pb)), (pb, oL (basisL d (fin d)))] ∧ o = .ok (rOI (ent d (fin d)))
def pPoint (C R : Addr) : Pre := fun Rs w o w' => ∃ d S q pb, Dm1 d ∧ ShS d S ∧ Tab d S ∧ Rs = [rRef q] ∧ w = [(q, oIns C (shF R d S pb)), (pb, oL (basisL d S))] ∧ w' = [(q, oIns C (shF R d S pb)), (pb, oL (basisL d S))] ∧ o = .ok (rLst ((List.range d.m).map fun j => rRat R (xv d S j)))
def pRay (C R : Addr) : Pre := fun Rs w o w' => ∃ d S q pb c, Dm1 d ∧ ShS d S ∧ Tab d S ∧ c < d.N ∧ (∀ i, i < d.n → S.B i ≠ c) ∧ Rs = [rRef q, rInt ((c : Nat) : Int)] ∧ w = [(q, oIns C (shF R d S pb)), (pb, oL (basisL d S))] ∧ w' = [(q, oIns C (shF R d S pb)), (pb, oL (basisL d S))] ∧ o = .ok (rLst ((List.range d.m).map fun j => rRat R (rv d S c j)))
def pMult (C R : Addr) : PreN := fun Rs w O w' => ∃ d S q pb, Rs = [rRef q] ∧ w = [(q, oIns C (shF R d S pb)), (pb, oL (basisL d S))] ∧ w' = [(q, oIns C (shF R d S pb)), (pb, oL (basisL d S))] ∧ O = oL ((List.range d.n).map fun k => rRat R (yv d S k))
section
variable {P : Program} {w : World} {K : PySem.W.Frag} {mg : Str → Option Value} {base : Heap} {C M R f : Addr} {fd : FuncData}
theorem kf_solve (Fn : Fun K "solve" "Sheet.solve" s_Sheet_solve f fd) (G : ShG P w K mg base C R M) (Te : Km P w K mg base C "entering" 6 (pEnt C R)) (Tl : Km P w K mg base C "leaving" 6 (pLea C R)) (Tt : Km P w K mg base C "turn" 6 (pTurn C R)) : FnOk P w K mg base (L2.CX P w) 7 f fd P_Sheet_solve (spM (pSolve C R)) := by
  refine fn_ok Fn c_Sheet_solve (fun _ _ _ _ ⟨_, _, _, _, _, h, _⟩ => by rw [h]; rfl) ?_
  rintro cdv A outer s H E ⟨_, G0, H0, M', W', tk⟩ hr rfl Rs ω o ω' ⟨d, q, pb, dm, fo, rfl, rfl, rfl, rfl⟩
  have nd := c_Sheet_solve.nd
  have cl := G.SX.cl
  have hF := fo.1
  obtain ⟨tE, hE⟩ := seq_end hF
  have st := fun t => seq_tab hF t
  have sz := fun t => fo.sz (st t).1
  refine hb_setA (R := rOI (ent d (seqS d 0))) (w1 := [(q, oIns C (shF R d (seqS d 0) pb)), (pb, oL (basisL d (seqS d 0)))]) 1 rfl (er_mA0 Te cl hr (er_v 0 rfl rfl) List.mem_cons_self ⟨d, seqS d 0, q, pb, dm, sz 0, rfl, rfl, rfl, rfl⟩) ?_
  refine hb_while (fun m ρ w => ∃ t z, t + m = tE ∧ ρ = [some (rRef q), some (rOI (ent d (seqS d t))), z] ∧ w = [(q, oIns C (shF R d (seqS d t) pb)), (pb, oL (basisL d (seqS d t)))]) tE ⟨0, none, by omega, rfl, rfl⟩ ?_ (passes_of rfl)
  rintro m ρ w ⟨t, z, ht, rfl, rfl⟩
  have done : ∀ {R' : Rl}, stp d (seqS d t) = none → (∀ v G, R'.r v G → (rOI (ent d (seqS d t))).r v G) → (Kf (.ok (rOI (ent d (fin d)))) [(q, oIns C (shF R d (fin d) pb)), (pb, oL (basisL d (fin d)))]).rt R' [(q, oIns C (shF R d (seqS d t) pb)), (pb, oL (basisL d (seqS d t)))] := fun {R'} hs hR => by
    rw [fin_eq hs] at hR ⊢
    exact ⟨_, [], rfl, hR, rfl⟩
  cases ec : ent d (seqS d t) with
  | none =>
    refine ⟨false, _, tr_to (tr_cmp (er_v 1 rfl rfl) er_non (bop_notN (x := .non))) (by rw [decide_eq_true rfl]; rfl), (fun z => Bool.noConfusion z), fun _ => ?_⟩
    exact hb_ret er_non (done (by unfold stp; rw [ec]; rfl) fun v G h => by rw [ec]; exact h)
  | some c =>
    obtain ⟨c1, c2, c3⟩ := ent_spec ec
    refine ⟨true, _, tr_to (tr_cmp (er_v 1 rfl rfl) er_non (bop_notN (x := .int ((c : Nat) : Int)))) (by rw [decide_eq_false fun z => by cases z]; rfl), (fun _ => ?_), fun z => Bool.noConfusion z⟩
    refine hb_setA (R := rOI (lea d (seqS d t) c)) (w1 := [(q, oIns C (shF R d (seqS d t) pb)), (pb, oL (basisL d (seqS d t)))]) 2 rfl (er_mA Tl cl hr (er_v 0 rfl rfl) List.mem_cons_self (ar_cons (er_v 1 rfl rfl) ar_nil) ⟨d, seqS d t, q, pb, c, dm, sz t, Nat.le_of_lt c1, rfl, rfl, rfl, rfl⟩) ?_
    cases el : lea d (seqS d t) c with
    | none =>
      refine hb_if (b := true) (tr_to (tr_cmp (er_v 2 rfl rfl) er_non (bop_isN (x := .non))) (decide_eq_true rfl)) (fun _ => ?_) (fun z => Bool.noConfusion z)
      exact hb_ret (er_v 1 rfl rfl) (done (by unfold stp; rw [ec, Option.bind_some, el]; rfl) fun v G h => by rw [ec]; exact h)
    | some r =>
      refine hb_if (b := false) (tr_to (tr_cmp (er_v 2 rfl rfl) er_non (bop_isN (x := .int ((r : Nat) : Int)))) (decide_eq_false fun z => by cases z)) (fun z => Bool.noConfusion z) (fun _ => hb_nil ?_)
      have hs : stp d (seqS d t) = some (turn (seqS d t) r c) := by unfold stp; rw [ec, Option.bind_some, el]; rfl
      obtain ⟨r', c', e1, e2, e3, bl⟩ := stp_bland hs
      rw [ec] at e1
      cases e1
      rw [el] at e2
      cases e2
      have en : seqS d (t + 1) = turn (seqS d t) r c := by
        show (stp d (seqS d t)).getD (seqS d t) = _
        rw [hs]; rfl
      have hlt : t < tE := by
        by_cases y : t < tE
        · exact y
        · have : t = tE := by omega
          rw [this, hE] at hs
          cases hs
      have sz2 := sz (t + 1)
      rw [en] at sz2
      refine hb_expr (R := rNon) (w1 := [(q, oIns C (shF R d (seqS d (t + 1)) pb)), (pb, oL (basisL d (seqS d (t + 1))))]) (er_mA Tt cl hr (er_v 0 rfl rfl) List.mem_cons_self (ar_cons (er_v 2 rfl rfl) (ar_cons (er_v 1 rfl rfl) ar_nil)) ⟨d, seqS d t, q, pb, r, c, dm, sz t, sz2, bl.hr, bl.hc, by have := bl.pos; grind, rfl, rfl, by rw [en], rfl⟩ (hk := keys2)) ?_
      exact hb_setA (R := rOI (ent d (seqS d (t + 1)))) (w1 := [(q, oIns C (shF R d (seqS d (t + 1)) pb)), (pb, oL (basisL d (seqS d (t + 1))))]) 1 rfl (er_mA0 Te cl hr (er_v 0 rfl rfl) List.mem_cons_self ⟨d, seqS d (t + 1), q, pb, dm, sz (t + 1), rfl, rfl, rfl, rfl⟩) (hb_nil ⟨tE - (t + 1), by omega, t + 1, _, by omega, rfl, rfl⟩)
theorem kf_mult (Fn : Fun K "multipliers" "Sheet.multipliers" s_Sheet_multipliers f fd) (G : ShG P w K mg base C R M) : FnOk P w K mg base (L2.CX P w) 1 f fd P_Sheet_multipliers (spN (pMult C R)) := by
  refine fn_okN Fn c_Sheet_multipliers (fun _ _ _ _ ⟨_, _, _, _, h, _⟩ => by rw [h]; rfl) ?_
  rintro cdv A outer s H E ⟨_, G0, H0, M', W', tk⟩ hr rfl Rs ω o ω' ⟨d, S, q, pb, rfl, rfl, rfl, rfl⟩
  have cl := G.SX.cl
  have n1 := G.SX.n1
  have n2 := G.SX.n2
  have n4 := G.SX.n4
  have e : cutR (rowL R d.N S.g) (some ((d.m : Nat) : Int)) (some (((d.m : Nat) : Int) + ((d.n : Nat) : Int))) = (List.range d.n).map fun k => rRat R (yv d S k) := by
    unfold rowL
    rw [cut_fn (by show d.m + d.n ≤ d.m + d.n + 1; omega)]
    rfl
  rw [← e]
  exact hb_retOk (en_sliceL (er_fldO (er_v 0 rfl rfl) List.mem_cons_self cl n4 rfl) (pr_some (er_fldO (er_v 0 rfl rfl) List.mem_cons_self cl n1 rfl)) (pr_some (er_bin (er_fldO (er_v 0 rfl rfl) List.mem_cons_self cl n1 rfl) (er_fldO (er_v 0 rfl rfl) List.mem_cons_self cl n2 rfl) bop_add))) fun qn _ hM => ⟨qn, [], fun v G h => h, hM, rfl⟩
end
end W1
set_option maxRecDepth 100000
set_option maxHeartbeats 1000000
set_option exponentiation.threshold 20000
namespace W1
open PySem PySem.Spec PyProof.Rows L2 NdefX TL NumText LP
section
variable {F : Fx} {ρ : Ty} {ω w1 : Ow} {tg it elt c : Expr} {pos spos : Pos} {scope : Scope} {own : List (Str × Nat)} {g : TG} {ifs : List Expr} {α : Type}
theorem en_lc {xs : List α} {A B : α → Rl} {ρ' : α → Ty} (hit : IT F ρ ω tg it (xs.map A) w1) (hz : xs.length ≤ 100000) (own : List (Str × Nat)) (ok : BlkOk F.X.N F.X.env.scope scope own)
    (hpg : ∀ (s : Shared) (H : Hp) (C : Addr) (cl : List (Str × Addr)) (fp : List Addr), PG (F.X.blk s H scope (compEnvC scope cl C F.X.env) fp) tg g) (hge : ∀ (i : Nat) a, xs[i]? = some a → GEw g (own.map (·.2)) ρ (A a) (ρ' a))
    (he : ∀ (i : Nat) a, xs[i]? = some a → ∀ s H0 C cl fp d, ER (blkF F s H0 scope C cl fp) (ρ' a) (d :: w1) elt (B a) (d :: w1))
    (hN : F.X.N.Nodup) (hc : F.X.calm = true := by rfl) (hs : ∀ z, foldedSetIterable it F.X.env z = pure z := by intro _; rfl) : EN F ρ ω (.ListComp elt [⟨tg, it, [], 0⟩] scope pos) (oL (xs.map B)) w1 := fun σ G H at_ sl Q q => by
  obtain ⟨wi, hpi, hwi⟩ := hit
  refine ew_of (pe_lc hc hN hpi ok hpg (fun _ _ _ _ _ => pts_nil) (te := fun σ H Q => ∀ s H0 C cl fp, EW (F.X.blk s H0 scope (compEnvC scope cl C F.X.env) fp) elt σ H Q) (fun _ _ _ _ _ => ⟨fun pins s σ H Q I h => h _ _ _ _ _ pins s I⟩) hs) ?_
  refine lc_genN (p := fun _ => true) (tt := tYes) hwi hz hge (fun i a h d σ2 G H a1 s1 Q q => q G H (Same.refl _) a1) (fun i a h _ => he i a h) at_ sl fun v G2 H2 hM s2 a2 => q v G2 H2 hM s2 ?_
  rw [filt_true] at a2
  exact a2
/-- y = [..], a new list that stays owned -/
theorem hb_setLcN {K : Kn} {rest : List Stmt} {y : Str} {py : Pos} {xs : List α} {A B : α → Rl} {ρ' : α → Ty} (j : Nat) (hit : IT F ρ ω tg it (xs.map A) w1) (hz : xs.length ≤ 100000) (own : List (Str × Nat)) (ok : BlkOk F.X.N F.X.env.scope scope own)
    (hpg : ∀ (s : Shared) (H : Hp) (C : Addr) (cl : List (Str × Addr)) (fp : List Addr), PG (F.X.blk s H scope (compEnvC scope cl C F.X.env) fp) tg g) (hge : ∀ (i : Nat) a, xs[i]? = some a → GEw g (own.map (·.2)) ρ (A a) (ρ' a))
    (he : ∀ (i : Nat) a, xs[i]? = some a → ∀ s H0 C cl fp d, ER (blkF F s H0 scope C cl fp) (ρ' a) (d :: w1) elt (B a) (d :: w1)) (h : ∀ q, q ∉ F.M → HB F (ρ.set j (some (rRef q))) ((q, oL (xs.map B)) :: w1) rest K)
    (hN : F.X.N.Nodup) (hsw : swapsWith (.ListComp elt [⟨tg, it, [], 0⟩] scope pos) (some (.Name y py)) spos.line F.X.env = pure true) (hc : F.X.calm = true := by rfl) (hy : F.X.N[j]? = some y := by rfl) (hyl : F.X.env.scope.names.lookup y = some .local := by rfl) (hs : ∀ z, foldedSetIterable it F.X.env z = pure z := by intro _; rfl) :
    HB F ρ ω (.Assign [.Name y py] (.ListComp elt [⟨tg, it, [], 0⟩] scope pos) spos :: rest) K := hb_cons fun σ G H D at_ sl ps => by
  obtain ⟨wi, hpi, hwi⟩ := hit
  refine sw_of (ps_setLc hc hN hy hyl hsw hpi ok hpg (fun _ _ _ _ _ => pts_nil) (te := fun σ H Q => ∀ s H0 C cl fp, EW (F.X.blk s H0 scope (compEnvC scope cl C F.X.env) fp) elt σ H Q) (fun _ _ _ _ _ => ⟨fun pins s σ H Q I h => h _ _ _ _ _ pins s I⟩) hs) ?_
  refine lc_genN (p := fun _ => true) (tt := tYes) hwi hz hge (fun i a h d σ2 G H a1 s1 Q q => q G H (Same.refl _) a1) (fun i a h _ => he i a h) at_ sl fun q G2 H2 hM s2 a2 => ?_
  rw [filt_true] at a2
  exact h q hM _ G2 H2 D a2 ((sl.up s2).set j rfl) (ps.up s2)
end
def xvk (d : Dat) (S : Sht) (k j : Nat) : Rat := sumN k fun i => if S.B i = j then S.T i d.N else 0
def rvk (d : Dat) (S : Sht) (c k j : Nat) : Rat := (if j = c then 1 else 0) + sumN k fun i => if S.B i = j then -S.T i c else 0
theorem xvk_ne {d : Dat} {S : Sht} {k j : Nat} (h : S.B k ≠ j) : xvk d S (k + 1) j = xvk d S k j := by
  show sumN k _ + (if S.B k = j then _ else 0) = _
  rw [if_neg h]
  show xvk d S k j + 0 = xvk d S k j
  grind
theorem rvk_ne {d : Dat} {S : Sht} {c k j : Nat} (h : S.B k ≠ j) : rvk d S c (k + 1) j = rvk d S c k j := by
  show (if j = c then (1 : Rat) else 0) + (sumN k _ + (if S.B k = j then _ else 0)) = _
  rw [if_neg h]
  show _ = (if j = c then (1 : Rat) else 0) + sumN k _
  grind
theorem xvk_at {d : Dat} {S : Sht} {k : Nat} (t : Tab d S) (hk : k < d.n) : xvk d S (k + 1) (S.B k) = S.T k d.N := by
  show sumN k _ + (if S.B k = S.B k then S.T k d.N else 0) = _
  rw [if_pos rfl, sumN_zero fun i hi => if_neg fun z => by have := t.inj (by omega) hk z; omega]
  grind
theorem rvk_at {d : Dat} {S : Sht} {c k : Nat} (t : Tab d S) (hk : k < d.n) (hc : S.B k ≠ c) : rvk d S c (k + 1) (S.B k) = -S.T k c := by
  show (if S.B k = c then (1 : Rat) else 0) + (sumN k _ + (if S.B k = S.B k then -S.T k c else 0)) = _
  rw [if_pos rfl, if_neg hc, sumN_zero fun i hi => if_neg fun z => by have := t.inj (by omega) hk z; omega]
  grind
section
variable {P : Program} {w : World} {K : PySem.W.Frag} {mg : Str → Option Value} {base : Heap} {C M R f : Addr} {fd : FuncData}
theorem kf_point (Fn : Fun K "point" "Sheet.point" s_Sheet_point f fd) (G : ShG P w K mg base C R M) : FnOk P w K mg base (L2.CX P w) 6 f fd P_Sheet_point (spM (pPoint C R)) := by
  refine fn_ok Fn c_Sheet_point (fun _ _ _ _ ⟨_, _, _, _, _, _, _, h, _⟩ => by rw [h]; rfl) ?_
  rintro cdv A outer s H E ⟨_, G0, H0, M', W', tk⟩ hr rfl Rs ω o ω' ⟨d, S, q, pb, dm, sz, t, rfl, rfl, rfl, rfl⟩
  have nd := c_Sheet_point.nd
  have cl := G.SX.cl
  have n1 := G.SX.n1
  have n3 := G.SX.n3
  have n5 := G.SX.n5
  have X := G.X
  have hm := dm.hm
  have hn := dm.hn
  have e0 : (List.replicate ((d.m : Nat) : Int).toNat [rRat R 0]).flatten = (List.range d.m).map fun j => rRat R (xvk d S 0 j) := by
    rw [Int.toNat_natCast, rep_fn]
    rfl
  refine hb_setNA (O := oL ((List.range d.m).map fun j => rRat R (xvk d S 0 j))) (w1 := [(q, oIns C (shF R d S pb)), (pb, oL (basisL d S))]) 1 rfl (by rw [← e0]; exact en_rep (er_lst (ar_cons (er_cm X.Tw hr (er_gC X.X.gC) (ar_cons er_int ar_nil) (pWholeOk (n := 0))) ar_nil) (Nat.le_of_ble_eq_true rfl)) (er_fldO (er_v 0 rfl rfl) List.mem_cons_self cl n1 rfl) (by omega) (by omega) (by rw [Int.toNat_natCast]; show 1 * d.m ≤ 100000; omega)) fun qf hqf => ?_
  refine hb_forP (itp_en (wc := [(pb, oL (basisL d S))]) (er_fldO (er_v 0 rfl rfl) (List.mem_cons_of_mem _ List.mem_cons_self) cl n5 rfl) (.inr (.inr ⟨pb, rfl, rfl⟩)) (fun z hz => by rw [List.mem_singleton.mp hz]; exact List.mem_cons_of_mem _ (List.mem_cons_of_mem _ List.mem_cons_self)) rfl G.en)
    (fun k ρ w => w = [(qf, oL ((List.range d.m).map fun j => rRat R (xvk d S k j))), (q, oIns C (shF R d S pb)), (pb, oL (basisL d S))] ∧ ∃ z2 z3, ρ = [some (rRef q), some (rRef qf), z2, z3]) ⟨rfl, none, none, rfl⟩ (fun k ρ w h z hz => by rw [h.1, List.mem_singleton.mp hz]; exact List.mem_cons_of_mem _ (List.mem_cons_of_mem _ List.mem_cons_self)) ?_ ?_ (passes_of rfl) (pg_tup rfl (pgs_cons (pg_name (i := 2) nd rfl (Or.inl rfl)) (pgs_cons (pg_name (i := 3) nd rfl (Or.inl rfl)) pgs_nil)))
  · rintro k ρ w S' hS ⟨rfl, z2, z3, rfl⟩
    obtain ⟨hk, rfl⟩ : k < d.n ∧ S' = rTup [rInt ((k : Nat) : Int), rInt ((S.B k : Nat) : Int)] := num_fn hS
    refine ⟨_, ge_tup (ges_cons ge_name (ges_cons ge_name ges_nil)) rfl, ?_⟩
    refine hb_if (b := decide (S.B k < d.m)) (tr_to (tr_cmp (er_v 3 rfl rfl) (er_fldO (er_v 0 rfl rfl) (List.mem_cons_of_mem _ List.mem_cons_self) cl n1 rfl) bop_lt) (decide_eq_decide.mpr Int.ofNat_lt)) (fun h => ?_) (fun h => hb_nil (hb_nil ⟨?_, _, _, rfl⟩))
    · have h := of_decide_eq_true h
      refine hb_sub (R := rRat R (S.T k d.N)) (i := ((S.B k : Nat) : Int)) (n := S.B k) (Rs := (List.range d.m).map fun j => rRat R (xvk d S k j)) (er_ix (er_ix (er_fldO (er_v 0 rfl rfl) (List.mem_cons_of_mem _ List.mem_cons_self) cl n3 rfl) (er_v 2 rfl rfl) (iop_fn (A := fun i => rLst (rowL R d.N (S.T i))) hk)) (er_un er_int uop_neg) iop_rowL) (er_v 1 rfl rfl) (er_v 3 rfl rfl) (ixN_at (by rw [List.length_map, List.length_range]; exact h)) (hb_nil (hb_nil ⟨?_, _, _, rfl⟩))
      have := set_fn (n := d.m) (r := S.B k) (A := fun j => rRat R (xvk d S k j)) (B := fun j => rRat R (xvk d S (k + 1) j)) fun j hj => by rw [xvk_ne fun z => hj z.symm]
      rw [← this]
      rw [xvk_at t hk]
    · have h := of_decide_eq_false h
      congr 3
      exact List.map_congr_left fun j hj => by rw [xvk_ne fun z => h (by rw [z]; exact List.mem_range.mp hj)]
  · rintro ρ w ⟨rfl, z2, z3, rfl⟩
    have eL : (numR (basisL d S)).length = d.n := by rw [numR_len]; unfold basisL; rw [List.length_map, List.length_range]
    rw [eL]
    exact hb_pub (R := rLst ((List.range d.m).map fun j => rRat R (xv d S j))) 1 rfl hqf pub_lst (hb_ret (er_v 1 rfl rfl) ⟨_, [], rfl, fun v G h => h, rfl⟩)
theorem kf_ray (Fn : Fun K "ray" "Sheet.ray" s_Sheet_ray f fd) (G : ShG P w K mg base C R M) : FnOk P w K mg base (L2.CX P w) 6 f fd P_Sheet_ray (spM (pRay C R)) := by
  refine fn_ok Fn c_Sheet_ray (fun _ _ _ _ ⟨_, _, _, _, _, _, _, _, _, _, h, _⟩ => by rw [h]; rfl) ?_
  rintro cdv A outer s H E ⟨_, G0, H0, M', W', tk⟩ hr rfl Rs ω o ω' ⟨d, S, q, pb, c, dm, sz, t, hc, hcb, rfl, rfl, rfl, rfl⟩
  have nd := c_Sheet_ray.nd
  have cl := G.SX.cl
  have n1 := G.SX.n1
  have n3 := G.SX.n3
  have n5 := G.SX.n5
  have X := G.X
  have hm := dm.hm
  have hn := dm.hn
  have hcN : c ≤ d.N := Nat.le_of_lt hc
  have e1 : ∀ j : Nat, (((if decide (((j : Nat) : Int) = ((c : Nat) : Int)) = true then (1 : Int) else 0) : Int) : Rat) = rvk d S c 0 j := fun j => by
    show _ = (if j = c then (1 : Rat) else 0) + 0
    by_cases h : j = c
    · rw [if_pos h, if_pos (decide_eq_true (by omega))]; decide +kernel
    · rw [if_neg h, if_neg (by rw [decide_eq_true_iff]; omega)]; decide +kernel
  have er : rng 0 (((d.m : Nat) : Int)).toNat = (List.range d.m).map fun k : Nat => rInt (0 + (k : Int)) := by
    rw [rng_map, Int.toNat_natCast]
  refine hb_setLcN (xs := List.range d.m) (A := fun k : Nat => rInt (0 + (k : Int))) (B := fun j => rRat R (rvk d S c 0 j)) (w1 := [(q, oIns C (shF R d S pb)), (pb, oL (basisL d S))]) 2 (by rw [← er]; exact it_rng1 (ar_cons (er_fldO (er_v 0 rfl rfl) List.mem_cons_self cl n1 rfl) ar_nil) rfl G.rg (by omega)) (by rw [List.length_range]; omega) [("good", 3)] (blkOk_by (N := N_Sheet_ray) (sc := defScope s_Sheet_ray) (by decide +kernel)) (fun _ _ _ _ _ => pg_name (i := 3) nd rfl (Or.inl rfl)) (fun _ _ _ => gew_name) (fun i j hj s1 H1 cc cl' fp d' => ?_) (fun qf hqf => ?_) nd (by rfl)
  · exact er_eq (er_cm X.Tw hr (er_gC X.X.gC) (ar_cons (er_tA (ar_cons (er_cmp (er_v 3 rfl rfl) (er_v 1 rfl rfl) bop_eqI) ar_nil) G.int bt_int cop_intB) ar_nil) pWholeOk) (by rw [Int.zero_add, e1])
  refine hb_forP (itp_en (wc := [(pb, oL (basisL d S))]) (er_fldO (er_v 0 rfl rfl) (List.mem_cons_of_mem _ List.mem_cons_self) cl n5 rfl) (.inr (.inr ⟨pb, rfl, rfl⟩)) (fun z hz => by rw [List.mem_singleton.mp hz]; exact List.mem_cons_of_mem _ (List.mem_cons_of_mem _ List.mem_cons_self)) rfl G.en)
    (fun k ρ w => w = [(qf, oL ((List.range d.m).map fun j => rRat R (rvk d S c k j))), (q, oIns C (shF R d S pb)), (pb, oL (basisL d S))] ∧ ∃ z4 z5, ρ = [some (rRef q), some (rInt ((c : Nat) : Int)), some (rRef qf), none, z4, z5]) ⟨rfl, none, none, rfl⟩ (fun k ρ w h z hz => by rw [h.1, List.mem_singleton.mp hz]; exact List.mem_cons_of_mem _ (List.mem_cons_of_mem _ List.mem_cons_self)) ?_ ?_ (passes_of rfl) (pg_tup rfl (pgs_cons (pg_name (i := 4) nd rfl (Or.inl rfl)) (pgs_cons (pg_name (i := 5) nd rfl (Or.inl rfl)) pgs_nil)))
  · rintro k ρ w S' hS ⟨rfl, z4, z5, rfl⟩
    obtain ⟨hk, rfl⟩ : k < d.n ∧ S' = rTup [rInt ((k : Nat) : Int), rInt ((S.B k : Nat) : Int)] := num_fn hS
    refine ⟨_, ge_tup (ges_cons ge_name (ges_cons ge_name ges_nil)) rfl, ?_⟩
    refine hb_if (b := decide (S.B k < d.m)) (tr_to (tr_cmp (er_v 5 rfl rfl) (er_fldO (er_v 0 rfl rfl) (List.mem_cons_of_mem _ List.mem_cons_self) cl n1 rfl) bop_lt) (decide_eq_decide.mpr Int.ofNat_lt)) (fun h => ?_) (fun h => hb_nil (hb_nil ⟨?_, _, _, rfl⟩))
    · have h := of_decide_eq_true h
      refine hb_sub (R := rRat R (-S.T k c)) (i := ((S.B k : Nat) : Int)) (n := S.B k) (Rs := (List.range d.m).map fun j => rRat R (rvk d S c k j)) (er_un (er_ix (er_ix (er_fldO (er_v 0 rfl rfl) (List.mem_cons_of_mem _ List.mem_cons_self) cl n3 rfl) (er_v 4 rfl rfl) (iop_fn (A := fun i => rLst (rowL R d.N (S.T i))) hk)) (er_v 1 rfl rfl) (iop_row hcN)) (uop_o G.Tn hr (pNegOk ((sz.T k c hk hcN).mono (by decide))))) (er_v 2 rfl rfl) (er_v 5 rfl rfl) (ixN_at (by rw [List.length_map, List.length_range]; exact h)) (hb_nil (hb_nil ⟨?_, _, _, rfl⟩))
      have := set_fn (n := d.m) (r := S.B k) (A := fun j => rRat R (rvk d S c k j)) (B := fun j => rRat R (rvk d S c (k + 1) j)) fun j hj => by rw [rvk_ne fun z => hj z.symm]
      rw [← this]
      rw [rvk_at t hk (hcb k hk)]
    · have h := of_decide_eq_false h
      congr 3
      exact List.map_congr_left fun j hj => by rw [rvk_ne fun z => h (by rw [z]; exact List.mem_range.mp hj)]
  · rintro ρ w ⟨rfl, z4, z5, rfl⟩
    have eL : (numR (basisL d S)).length = d.n := by rw [numR_len]; unfold basisL; rw [List.length_map, List.length_range]
    rw [eL]
    exact hb_pub (R := rLst ((List.range d.m).map fun j => rRat R (rv d S c j))) 2 rfl hqf pub_lst (hb_ret (er_v 2 rfl rfl) ⟨_, [], rfl, fun v G h => h, rfl⟩)
end
end W1
set_option maxRecDepth 100000
set_option maxHeartbeats 1000000
set_option exponentiation.threshold 20000
namespace W1
open PySem PySem.Spec PyProof.Rows L2 NdefX TL NumText LP
/-! ### a sheet is made -/
def datOf (a : Nat → Nat → Rat) (h gl : Nat → Rat) (m n : Nat) : Dat :=
  ⟨fun k j => if j < m then a k j else if j < m + n then (if j - m = k then 1 else 0) else h k, fun j => if j < m then -gl j else 0, m, n⟩
theorem row_cat {R : Addr} {a : Nat → Nat → Rat} {h gl : Nat → Rat} {m n k : Nat} : ((List.range m).map fun j => rRat R (a k j)) ++ (((List.range n).map fun i => rRat R (if i = k then 1 else 0)) ++ [rRat R (h k)]) = rowL R (m + n) ((datOf a h gl m n).A k) := by
  unfold rowL
  rw [List.range_succ, List.range_add, List.map_append, List.map_append, List.map_map, List.append_assoc]
  congr 1
  · exact List.map_congr_left fun j hj => by
      simp only [datOf]
      rw [if_pos (List.mem_range.mp hj)]
  · congr 1
    · exact List.map_congr_left fun i hi => by
        have := List.mem_range.mp hi
        simp only [datOf, Function.comp]
        rw [if_neg (by omega : ¬ m + i < m), if_pos (by omega : m + i < m + n), Nat.add_sub_cancel_left]
    · simp only [datOf, List.map_cons, List.map_nil]
      rw [if_neg (by omega : ¬ m + n < m), if_neg (by omega : ¬ m + n < m + n)]
theorem goal_cat {R : Addr} {a : Nat → Nat → Rat} {h gl : Nat → Rat} {m n : Nat} : ((List.range m).map fun j => rRat R (-gl j)) ++ ((List.range (n + 1)).map fun _ => rRat R 0) = rowL R (m + n) (datOf a h gl m n).g0 := by
  unfold rowL
  have e : List.range (m + n + 1) = List.range m ++ (List.range (n + 1)).map (m + ·) := by
    rw [show m + n + 1 = m + (n + 1) by omega]
    exact List.range_add
  rw [e, List.map_append, List.map_map]
  congr 1
  · exact List.map_congr_left fun j hj => by
      simp only [datOf]
      rw [if_pos (List.mem_range.mp hj)]
  · exact List.map_congr_left fun i hi => by
      simp only [datOf, Function.comp]
      rw [if_neg (by omega : ¬ m + i < m)]
structure IniOk (a : Nat → Nat → Rat) (h gl : Nat → Rat) (m n : Nat) : Prop where
  hm : m ≤ 100
  hn : n ≤ 100
  sg : ∀ j, j < m → small (gl j)
def pInitS (C R : Addr) : PreG := fun Rs w o => ∃ a h gl m n q, IniOk a h gl m n ∧ Rs = [rRef q, rLst ((List.range n).map fun i => rLst ((List.range m).map fun j => rRat R (a i j))), rLst ((List.range n).map fun i => rRat R (h i)), rLst ((List.range m).map fun j => rRat R (gl j))] ∧ w = [(q, oIns C [])] ∧
  o = .ok fun S w' => S = rNon ∧ ∃ pb, w' = [(q, oIns C (shF R (datOf a h gl m n) (sh0 (datOf a h gl m n)) pb)), (pb, oL (basisL (datOf a h gl m n) (sh0 (datOf a h gl m n))))]
theorem cop_lenFn {F : Fx} {w : Ow} {n : Nat} {A : Nat → Rl} : Cop F w (.builtin "len") [rLst ((List.range n).map A)] (rInt ((n : Nat) : Int)) := by
  have := cop_lenL (F := F) (ω := w) (Rs := (List.range n).map A)
  rw [List.length_map, List.length_range] at this
  exact this
theorem unit_r {i k : Nat} : (((if decide (((i : Nat) : Int) = ((k : Nat) : Int)) = true then (1 : Int) else 0) : Int) : Rat) = if i = k then 1 else 0 := by
  by_cases h : i = k
  · rw [if_pos h, if_pos (decide_eq_true (by omega))]; decide +kernel
  · rw [if_neg h, if_neg (by rw [decide_eq_true_iff]; omega)]; decide +kernel
section
variable {P : Program} {w : World} {K : PySem.W.Frag} {mg : Str → Option Value} {base : Heap} {C M R f : Addr} {fd : FuncData}
theorem kf_sinit (Fn : Fun K "__init__" "Sheet.__init__" s_Sheet___init__ f fd) (G : ShG P w K mg base C R M) : FnOk P w K mg base (L2.CX P w) 6 f fd P_Sheet___init__ (spG (pInitS C R)) := by
  refine fn_okG Fn c_Sheet___init__ (fun _ _ _ ⟨_, _, _, _, _, _, _, h, _⟩ => by rw [h]; rfl) ?_
  rintro cdv A outer s H E ⟨_, G0, H0, M', W', tk⟩ hr rfl Rs ω o ⟨a, h, gl, m, n, q, ok, rfl, rfl, rfl⟩ -
  have nd := c_Sheet___init__.nd
  have cl := G.SX.cl
  have n1 := G.SX.n1
  have n2 := G.SX.n2
  have n3 := G.SX.n3
  have n4 := G.SX.n4
  have n5 := G.SX.n5
  have X := G.X
  have hm := ok.hm
  have hn := ok.hn
  refine hb_fld (R := rInt ((m : Nat) : Int)) (w1 := [(q, oIns C [])]) (w2 := []) (er_bA (ar_cons (er_v 3 rfl rfl) ar_nil) G.len bt_len cop_lenFn) (er_v 0 rfl rfl) cl n1 ?_ (hl := by show 0 < 1000; decide)
  refine hb_fld (R := rInt ((n : Nat) : Int)) (w1 := [(q, oIns C [("columns", rInt ((m : Nat) : Int))])]) (w2 := []) (er_bA (ar_cons (er_v 1 rfl rfl) ar_nil) G.len bt_len cop_lenFn) (er_v 0 rfl rfl) cl n2 ?_ (hl := by show 1 < 1000; decide)
  refine hb_fldN (w1 := [(q, oIns C [("columns", rInt ((m : Nat) : Int)), ("count", rInt ((n : Nat) : Int))])]) (w2 := []) (en_lst (Rs := []) ar_nil (Nat.zero_le _)) (fun b _ => er_perm (er_v 0 rfl rfl) (List.Perm.swap _ _ _)) cl n3 (fun pl hpl => ?_) (hl := by show 2 < 1000; decide)
  refine hb_for (it_enumL (ar_cons (er_v 1 rfl rfl) ar_nil) rfl G.en) (fun k ρ w => w = [(q, oIns C [("columns", rInt ((m : Nat) : Int)), ("count", rInt ((n : Nat) : Int)), ("lines", rRef pl)]), (pl, oL ((List.range k).map fun i => rLst (rowL R (m + n) ((datOf a h gl m n).A i))))] ∧ ∃ z4 z5 z6, ρ = [some (rRef q), some (rLst ((List.range n).map fun i => rLst ((List.range m).map fun j => rRat R (a i j)))), some (rLst ((List.range n).map fun i => rRat R (h i))), some (rLst ((List.range m).map fun j => rRat R (gl j))), z4, z5, z6, none, none]) ⟨rfl, none, none, none, rfl⟩ ?_ ?_ (passes_of rfl) (pg_tup rfl (pgs_cons (pg_name (i := 4) nd rfl (Or.inr rfl)) (pgs_cons (pg_name (i := 5) nd rfl (Or.inl rfl)) pgs_nil)))
  · rintro k ρ w S' hS ⟨rfl, z4, z5, z6, rfl⟩
    obtain ⟨hk, rfl⟩ : k < n ∧ S' = rTup [rInt ((k : Nat) : Int), rLst ((List.range m).map fun j => rRat R (a k j))] := num_fn (A := fun i => rLst ((List.range m).map fun j => rRat R (a i j))) hS
    refine ⟨_, ge_tup (ges_cons ge_name (ges_cons ge_name ges_nil)) rfl, ?_⟩
    have er : rng 0 (((n : Nat) : Int)).toNat = (List.range n).map fun k : Nat => rInt (0 + (k : Int)) := by
      rw [rng_map, Int.toNat_natCast]
    have lk : ((List.range k).map fun i => rLst (rowL R (m + n) ((datOf a h gl m n).A i))).length ≤ 100000 := by rw [List.length_map, List.length_range]; omega
    refine hb_setLc (xs := List.range n) (A := fun k : Nat => rInt (0 + (k : Int))) (B := fun i => rRat R (if i = k then 1 else 0)) (w1 := [(q, oIns C [("columns", rInt ((m : Nat) : Int)), ("count", rInt ((n : Nat) : Int)), ("lines", rRef pl)]), (pl, oL ((List.range k).map fun i => rLst (rowL R (m + n) ((datOf a h gl m n).A i))))]) 6 (by rw [← er]; exact it_rng1 (ar_cons (er_fldO (er_v 0 rfl rfl) List.mem_cons_self cl n2 rfl) ar_nil) rfl G.rg (by omega)) (by rw [List.length_range]; omega) [("other", 7)] (blkOk_by (N := N_Sheet___init__) (sc := defScope s_Sheet___init__) (by decide +kernel)) (fun _ _ _ _ _ => pg_name (i := 7) nd rfl (Or.inl rfl)) (fun _ _ _ => gew_name) (fun i j hj s1 H1 cc cl' fp d' => ?_) ?_ nd (by rfl)
    · exact er_eq (er_cm X.Tw hr (er_gC X.X.gC) (ar_cons (er_tA (ar_cons (er_cmp (er_v 7 rfl rfl) (er_v 4 rfl rfl) bop_eqI) ar_nil) G.int bt_int cop_intB) ar_nil) pWholeOk) (by rw [Int.zero_add, unit_r])
    refine hb_append (q := pl) (Rs := (List.range k).map fun i => rLst (rowL R (m + n) ((datOf a h gl m n).A i))) (R := rLst (rowL R (m + n) ((datOf a h gl m n).A k))) (w1 := [(q, oIns C [("columns", rInt ((m : Nat) : Int)), ("count", rInt ((n : Nat) : Int)), ("lines", rRef pl)]), (pl, oL ((List.range k).map fun i => rLst (rowL R (m + n) ((datOf a h gl m n).A i))))]) (w2 := [(q, oIns C [("columns", rInt ((m : Nat) : Int)), ("count", rInt ((n : Nat) : Int)), ("lines", rRef pl)])]) (er_fldO (er_v 0 rfl rfl) List.mem_cons_self cl n3 rfl) (List.mem_cons_of_mem _ List.mem_cons_self) (ar_perm (ar_cons (er_eq (er_lst (ar_star (er_v 5 rfl rfl) isq_L (ar_star (er_v 6 rfl rfl) isq_L (ar_cons (er_ix (er_v 2 rfl rfl) (er_v 4 rfl rfl) (iop_fn (A := fun i => rRat R (h i)) hk)) ar_nil))) ?_) (congrArg rLst row_cat)) ar_nil) (List.Perm.swap _ _ _)) lk (hb_perm (List.Perm.swap _ _ _) (hb_nil ⟨by rw [snoc_fn (A := fun i => rLst (rowL R (m + n) ((datOf a h gl m n).A i)))], _, _, _, rfl⟩))
    rw [List.length_append, List.length_append, List.length_map, List.length_map, List.length_range, List.length_range]
    show m + (n + 1) ≤ 1000
    omega
  · rintro ρ w ⟨rfl, z4, z5, z6, rfl⟩
    have eL : (numR ((List.range n).map fun i => rLst ((List.range m).map fun j => rRat R (a i j)))).length = n := by rw [numR_len, List.length_map, List.length_range]
    rw [eL]
    have e0 : (List.replicate (((n : Nat) : Int) + 1).toNat [rRat R 0]).flatten = (List.range (n + 1)).map fun _ => rRat R 0 := by
      rw [show (((n : Nat) : Int) + 1).toNat = n + 1 by omega, rep_fn]
    refine hb_fld (R := rLst (rowL R (m + n) (datOf a h gl m n).g0)) (w1 := [(q, oIns C [("columns", rInt ((m : Nat) : Int)), ("count", rInt ((n : Nat) : Int)), ("lines", rRef pl)]), (pl, oL ((List.range n).map fun i => rLst (rowL R (m + n) ((datOf a h gl m n).A i))))]) (w2 := [(pl, oL ((List.range n).map fun i => rLst (rowL R (m + n) ((datOf a h gl m n).A i))))]) (er_eq (er_lst (ar_star (er_lc (xs := List.range m) (A := fun j => rRat R (gl j)) (B := fun j => rRat R (-gl j)) (it_lst (er_v 3 rfl rfl)) (by rw [List.length_range]; omega) [("goal", 8)] (blkOk_by (N := N_Sheet___init__) (sc := defScope s_Sheet___init__) (by decide +kernel)) (fun _ _ _ _ _ => pg_name (i := 8) nd rfl (Or.inl rfl)) (fun _ _ _ => gew_name) (fun i j hj s1 H1 cc cl' fp d' => ?_) nd) isq_L (ar_star (er_eq (er_bin (er_lst (ar_cons (er_cm X.Tw hr (er_gC X.X.gC) (ar_cons er_int ar_nil) (pWholeOk (n := 0))) ar_nil) (Nat.le_of_ble_eq_true rfl)) (er_bin (er_fldO (er_v 0 rfl rfl) List.mem_cons_self cl n2 rfl) er_int bop_add) (bop_rep (by omega) (by omega) ?_)) (congrArg rLst e0)) isq_L ar_nil)) ?_) (by rw [List.append_nil]; exact congrArg rLst goal_cat)) (er_v 0 rfl rfl) cl n4 ?_ (hl := by show 3 < 1000; decide)
    · have hj := List.mem_range.mp (List.mem_of_getElem? hj)
      exact er_un (er_v 8 rfl rfl) (uop_o G.Tn hr (pNegOk (ok.sg j hj)))
    · rw [show (((n : Nat) : Int) + 1).toNat = n + 1 by omega]
      show 1 * (n + 1) ≤ 100000
      omega
    · rw [List.append_nil, List.length_append, List.length_map, List.length_map, List.length_range, List.length_range]
      omega
    have er : rng 0 (((n : Nat) : Int)).toNat = (List.range n).map fun k : Nat => rInt (0 + (k : Int)) := by
      rw [rng_map, Int.toNat_natCast]
    refine hb_fldN (O := oL ((List.range n).map fun i => rInt (((m + i : Nat) : Nat) : Int))) (w1 := [(q, oIns C [("columns", rInt ((m : Nat) : Int)), ("count", rInt ((n : Nat) : Int)), ("lines", rRef pl), ("goal", rLst (rowL R (m + n) (datOf a h gl m n).g0))]), (pl, oL ((List.range n).map fun i => rLst (rowL R (m + n) ((datOf a h gl m n).A i))))]) (w2 := [(pl, oL ((List.range n).map fun i => rLst (rowL R (m + n) ((datOf a h gl m n).A i))))]) (en_lc (xs := List.range n) (A := fun k : Nat => rInt (0 + (k : Int))) (B := fun i => rInt (((m + i : Nat) : Nat) : Int)) (by rw [← er]; exact it_rng1 (ar_cons (er_fldO (er_v 0 rfl rfl) List.mem_cons_self cl n2 rfl) ar_nil) rfl G.rg (by omega)) (by rw [List.length_range]; omega) [("at", 4)] (blkOk_by (N := N_Sheet___init__) (sc := defScope s_Sheet___init__) (by decide +kernel)) (fun _ _ _ _ _ => pg_name (i := 4) nd rfl (Or.inl rfl)) (fun _ _ _ => gew_name) (fun i j hj s1 H1 cc cl' fp d' => ?_) nd) (fun b _ => er_perm (er_v 0 rfl rfl) (List.Perm.swap _ _ _)) cl n5 (fun pb hpb => ?_) (hl := by show 4 < 1000; decide)
    · exact er_eq (er_bin (er_fldO (er_v 0 rfl rfl) (List.mem_cons_of_mem _ List.mem_cons_self) cl n1 rfl) (er_v 4 rfl rfl) bop_add) (by rw [Int.zero_add]; congr 2)
    refine hb_perm ?_ (hb_pubF (f := "lines") (b := pl) (q := q) (C := C) (O := oL ((List.range n).map fun i => rLst (rowL R (m + n) ((datOf a h gl m n).A i)))) (R := rLst ((List.range n).map fun i => rLst (rowL R (m + n) ((datOf a h gl m n).A i)))) (fs := [("columns", rInt ((m : Nat) : Int)), ("count", rInt ((n : Nat) : Int)), ("lines", rRef pl), ("goal", rLst (rowL R (m + n) (datOf a h gl m n).g0)), ("basis", rRef pb)]) (w := [(pb, oL ((List.range n).map fun i => rInt (((m + i : Nat) : Nat) : Int)))]) rfl hpl pub_lst (hb_nil ?_))
    · exact ((List.Perm.swap _ _ _).cons _).trans (List.Perm.swap _ _ _)
    · exact ⟨_, rNon, _, [], rfl, ⟨rfl, pb, rfl⟩, fun _ => rfl, fun x hx => by rw [List.mem_singleton.mp (show x ∈ [q] from hx)]; exact List.mem_cons_self, List.Perm.refl _⟩
end
end W1
set_option maxRecDepth 100000
set_option maxHeartbeats 1000000
set_option exponentiation.threshold 20000
/-! ### dict(zip(a, b)) of a tuple and a list -/
namespace W1Z
open PySem
section
variable {prog : Program} {w : World} {A : Around} {E : Value → Shared → Prop} {s : Shared} {y TI TO T p q : Addr} {f1 f2 : List Addr} {m1 m2 j : Nat} {P1 P2 : Nat → Value → Prop} {St1 St2 : Nat → Heap → Prop} {fl : Bool} {oT : Obj}
/-- the head of 'next' for a zip whose last pair is still out: nothing is taken again, its two iterators are asked -/
theorem out_head {R : PySem.Fin → Shared → Prop} (hy : IsZipHeld s.heap y TI TO T fl) (ht : s.heap.get? T = some oT) (hi : IsTupOf2 s.heap TI (.ref p) (.ref q))
    (k : ∀ h1, IsZipHeld h1 y TI TO T true → Heap.SameBut y s.heap h1 → wpAny (model prog w) A (Builtin.SmallTypes.nextOf (.ref p)) (fun u s1 => wpAny (model prog w) A (Builtin.SmallTypes.nextOf (.ref q)) (fun v s2 => R (.done (.ret (.ref s2.heap.objs.size))) { s2 with heap := s2.heap.push { cls := .type "tuple", data := .seq #[u, v] } }) E s1) E { s with heap := h1 }) :
    wpAny (model prog w) A (Builtin.«zip.__next__» ⟨[.ref y], []⟩) R E s := by
  change wpAny (model prog w) A (bind (field (.ref y) 2) _) _ _ _
  refine wpAny_bind (wpAny_field hy rfl (x := .bool false) rfl ?_)
  change wpAny (model prog w) A (bind (field (.ref y) 3) _) _ _ _
  refine wpAny_bind (wpAny_field hy rfl (x := .ref TI) rfl (wpAny_bind (wpAny_seqItems hi rfl ?_)))
  change wpAny (model prog w) A (bind (Builtin.SmallTypes.ownedTupleIsFree (.ref y)) _) _ _ _
  refine wpAny_bind (wpAny_tupleHeld_zip hy ht fun h1 y1 s1 => ?_)
  rw [if_neg Bool.false_ne_true]
  refine wpAny_bind ?_
  rw [← Array.forIn_toList, List.forIn_cons]
  refine wpAny_bind (wpAny_bind (wpAny_holding (wpAny_bind (wpAny_mono (k h1 y1 s1) (fun u s2 hu => wpAny_pure (wpAny_pure ?_)) fun _ _ z => z))))
  dsimp only
  rw [List.forIn_cons]
  refine wpAny_bind (wpAny_bind (wpAny_holding (wpAny_bind (wpAny_mono hu (fun v s3 hv => wpAny_pure (wpAny_pure ?_)) fun _ _ z => z))))
  dsimp only
  rw [List.forIn_nil]
  refine wpAny_pure ?_
  change wpAny (model prog w) A (bind (newTuple [u, v]) _) _ _ _
  exact wpAny_bind (wpAny_newTuple (wpAny_pure hv))
/-- one more pair -/
theorem out_item {Q : Option Value → Shared → Prop} (S : ZipSep2 y TI TO p q f1 f2) (D1 : Draws prog w A.in1 p f1 m1 P1 St1) (D2 : Draws prog w A.in1 q f2 m2 P2 St2)
    (hy : IsZipHeld s.heap y TI TO T fl) (ht : s.heap.get? T = some oT) (hi : IsTupOf2 s.heap TI (.ref p) (.ref q)) (a1 : St1 j s.heap) (a2 : St2 j s.heap) (l1 : j < m1) (l2 : j < m2)
    (k : ∀ u v h' tk, P1 j u → P2 j v → IsZipHeld h' y TI TO T true → St1 (j + 1) h' → St2 (j + 1) h' → IsTupOf2 h' s.heap.objs.size u v → (∀ c o, c ≠ y → c ≠ p → c ≠ q → s.heap.get? c = some o → h'.get? c = some o) → Q (some (.ref s.heap.objs.size)) { s with heap := h', toks := tk }) :
    wpAny (model prog w) A (pyNext (.ref y)) Q E s := by
  have ty : s.TypeIs (.ref y) "zip" := ⟨_, hy, rfl⟩
  unfold pyNext
  refine wpAny_bind (wpAny_attempt (wpAny_callSpecial?_slot (name := Str.ofString "__next__") ty F.slot_zip_next (wpAny_call_entry F.slot_zip_next ty F.entry_zip_next ?_ (F.args_zip_next_1 _))))
  refine out_head hy ht hi fun h1 y1 s1 => D1.item j _ _ _ l1 (D1.over a1 s1 S.zf1) fun u h2 t2 hu b1 s2 => D2.item j _ _ _ l2 (D2.over (D2.over a2 s1 S.zf2) s2 S.sep1_2) fun v h3 t3 hv b2 s3 => ⟨_, rfl, wpAny_pure ?_⟩
  have e : h3.objs.size = s.heap.objs.size := by rw [s3.1, s2.1, s1.1]
  have y3 : IsZipHeld h3 y TI TO T true := s3.extBut _ _ S.zi2 (s2.extBut _ _ S.zi1 y1)
  have up : ∀ {c o}, h3.get? c = some o → (h3.push { cls := .type "tuple", data := .seq #[u, v] }).get? c = some o := fun z => Heap.get?_push_of_some _ z
  have pr : IsTupOf2 (h3.push { cls := .type "tuple", data := .seq #[u, v] }) h3.objs.size u v := Heap.get?_push_size _ rfl
  dsimp only
  rw [e] at pr ⊢
  exact k u v _ t3 hu hv (up y3) (D1.frame _ _ _ (D1.over b1 s3 S.sep2_1) fun b _ o z => up z) (D2.frame _ _ _ b2 fun b _ o z => up z) pr fun c o c1 c2 c3 z => up (s3.extBut _ _ c3 (s2.extBut _ _ c2 (s1.extBut _ _ c1 z)))
/-- no more -/
theorem out_end {Q : Option Value → Shared → Prop} (S : ZipSep2 y TI TO p q f1 f2) (D1 : Draws prog w A.in1 p f1 m1 P1 St1)
    (hy : IsZipHeld s.heap y TI TO T fl) (ht : s.heap.get? T = some oT) (hi : IsTupOf2 s.heap TI (.ref p) (.ref q)) (a1 : St1 m1 s.heap)
    (k : ∀ h', (∀ c o, c ≠ y → c ≠ p → s.heap.get? c = some o → h'.get? c = some o) → Q none { s with heap := h' }) :
    wpAny (model prog w) A (pyNext (.ref y)) Q E s := by
  have ty : s.TypeIs (.ref y) "zip" := ⟨_, hy, rfl⟩
  unfold pyNext
  refine wpAny_bind (wpAny_attempt (wpAny_callSpecial?_slot (name := Str.ofString "__next__") ty F.slot_zip_next (wpAny_call_entry F.slot_zip_next ty F.entry_zip_next ?_ (F.args_zip_next_1 _))))
  refine out_head hy ht hi fun h1 y1 s1 => D1.done _ _ _ (D1.over a1 s1 S.zf1) fun h2 e x ⟨o, ho, hc⟩ => ?_
  exact wpAny_bind (wpAny_isInstance (T := "StopIteration") (b := true) ⟨o, ho, hc⟩ isSubtype_stop (wpAny_pure (k h2 fun c o' c1 c2 z => x _ _ c2 (s1.extBut _ _ c1 z))))
end
/-- zip of two iterators of any kind, as dict's argument -/
theorem zip_arg {prog : Program} {w : World} {y TI TO p q : Addr} {f1 f2 : List Addr} {n : Nat} {P1 P2 : Nat → Value → Prop} {St1 St2 : Nat → Heap → Prop} (S : ZipSep2 y TI TO p q f1 f2) (ny : TI ∉ f1 ∧ TI ∉ f2)
    (D1 : ∀ A : Around, A.handled = none → Draws prog w A p f1 n P1 St1) (D2 : ∀ A : Around, A.handled = none → Draws prog w A q f2 n P2 St2)
    (live : ∀ h, St1 0 h → St2 0 h → ∀ b, b ∈ f1 ∨ b ∈ f2 → ∃ o, h.get? b = some o) :
    PairArg prog w "zip" y (y :: TI :: TO :: (f1 ++ f2)) [y, TO, p, q] n (fun i k v => P1 i k ∧ P2 i v) (fun h => IsZip h y TI TO .none ∧ IsTupOf2 h TI (.ref p) (.ref q) ∧ (∃ a b, IsTupOf2 h TO a b) ∧ St1 0 h ∧ St2 0 h) where
  type := fun s ok => ⟨_, ok.1, rfl⟩
  notDict := by decide
  keep := fun h h' ⟨z1, z2, ⟨a, b, z3⟩, z4, z5⟩ k => ⟨k _ _ z1, k _ _ z2, ⟨a, b, k _ _ z3⟩, (D1 {} rfl).frame _ _ _ z4 fun b _ o e => k b o e, (D2 {} rfl).frame _ _ _ z5 fun b _ o e => k b o e⟩
  there := fun h ⟨z1, z2, ⟨a, b, z3⟩, z4, z5⟩ c hc => by
    rcases List.mem_cons.mp hc with rfl | hc
    · exact ⟨_, z1⟩
    rcases List.mem_cons.mp hc with rfl | hc
    · exact ⟨_, z2⟩
    rcases List.mem_cons.mp hc with rfl | hc
    · exact ⟨_, z3⟩
    exact live h z4 z5 c (List.mem_append.mp hc)
  sub := fun b hb => by
    have hb' : b = y ∨ b = TO ∨ b = p ∨ b = q := by simpa using hb
    rcases hb' with rfl | rfl | rfl | rfl
    · simp
    · simp
    · simp [S.mem1]
    · simp [S.mem2]
  noKeys := fun A s Q E hA ok h => getAttrOr_miss_zip ok.1 rfl rfl rfl zip_no_keys (by decide +kernel) hA h
  iter := fun A s d Q E hA ⟨z1, z2, ⟨a, b, z3⟩, z4, z5⟩ hd hdf h => by
    have hd1 : d ≠ y ∧ d ≠ TI ∧ d ≠ TO ∧ d ∉ f1 ∧ d ∉ f2 := by simpa using hdf
    obtain ⟨dy, dI, dO, d1, d2⟩ := hd1
    have dp : d ≠ p := fun e => d1 (e ▸ S.mem1)
    have dq : d ≠ q := fun e => d2 (e ▸ S.mem2)
    have E1 := D1 A.in1 hA
    have E2 := D2 A.in1 hA
    refine wpAny_pyIter_zip z1 (h y [y, TO, p, q] (fun i h => IsTupOf2 h TI (.ref p) (.ref q) ∧ St1 i h ∧ St2 i h ∧ ((IsZip h y TI TO .none ∧ ∃ a b, IsTupOf2 h TO a b) ∨ ∃ T fl oT, IsZipHeld h y TI TO T fl ∧ h.get? T = some oT ∧ T ≠ y ∧ T ≠ p ∧ T ≠ q ∧ T ≠ d)) s.heap s.toks ?_ ⟨z2, z4, z5, .inl ⟨z1, a, b, z3⟩⟩ (fun _ _ e => e) fun b hb => .inl hb)
    refine ⟨by simp [dy, dO, dp, dq], ?_, ?_, ?_⟩
    · rintro i h1 h2 ⟨c1, c2, c3, c4⟩ k
      refine ⟨k _ _ dI.symm c1, E1.frame _ _ _ c2 fun b hb o e => k b o (fun x => d1 (x ▸ hb)) e, E2.frame _ _ _ c3 fun b hb o e => k b o (fun x => d2 (x ▸ hb)) e, ?_⟩
      rcases c4 with ⟨c4, a, b, c5⟩ | ⟨T, fl, oT, c4, c5, r1, r2, r3, r4⟩
      · exact .inl ⟨k _ _ dy.symm c4, a, b, k _ _ dO.symm c5⟩
      · exact .inr ⟨T, fl, oT, k _ _ dy.symm c4, k _ _ r4 c5, r1, r2, r3, r4⟩
    · rintro i s1 Q1 G1 hi ⟨c1, c2, c3, c4⟩ hds k
      have nw : ∀ {c o}, s1.heap.get? c = some o → s1.heap.objs.size ≠ c := fun e => Nat.ne_of_gt (Heap.lt_size e)
      have np : s1.heap.objs.size ≠ p := by obtain ⟨_, e⟩ := E1.live _ _ c2; exact nw e
      have nq : s1.heap.objs.size ≠ q := by obtain ⟨_, e⟩ := E2.live _ _ c3; exact nw e
      have mem4 : ∀ {c : Addr}, c ∉ [y, TO, p, q] → c ≠ y ∧ c ≠ TO ∧ c ≠ p ∧ c ≠ q := fun hc => by simpa using hc
      rcases c4 with ⟨c4, a, b, c5⟩ | ⟨T, fl, oT, c4, c5, r1, r2, r3, r4⟩
      · exact wpAny_pyNext_zipD2_item S E1 E2 c4 c1 c5 c2 c3 hi hi fun u v h' tk pu pv zz zO b1 b2 hT hsz up => k s1.heap.objs.size u v h' tk ⟨pu, pv⟩ (.inl ⟨_, hT, rfl, _, rfl⟩)
          ⟨up _ _ S.TIz S.TITO S.TIi1 S.TIi2 c1, b1, b2, .inr ⟨s1.heap.objs.size, false, _, zz, hT, nw c4, np, nq, Nat.ne_of_gt hds⟩⟩ fun c o hc e => up c o (mem4 hc).1 (mem4 hc).2.1 (mem4 hc).2.2.1 (mem4 hc).2.2.2 e
      · exact out_item S E1 E2 c4 c5 c1 c2 c3 hi hi fun u v h' tk pu pv zz b1 b2 hT up => k s1.heap.objs.size u v h' tk ⟨pu, pv⟩ (.inl ⟨_, hT, rfl, _, rfl⟩)
          ⟨up _ _ S.TIz S.TIi1 S.TIi2 c1, b1, b2, .inr ⟨T, true, oT, zz, up _ _ r1 r2 r3 c5, r1, r2, r3, r4⟩⟩ fun c o hc e => up c o (mem4 hc).1 (mem4 hc).2.2.1 (mem4 hc).2.2.2 e
    · rintro s1 Q1 G1 ⟨c1, c2, c3, c4⟩ k
      have mem4 : ∀ {c : Addr}, c ∉ [y, TO, p, q] → c ≠ y ∧ c ≠ TO ∧ c ≠ p ∧ c ≠ q := fun hc => by simpa using hc
      rcases c4 with ⟨c4, a, b, c5⟩ | ⟨T, fl, oT, c4, c5, r1, r2, r3, r4⟩
      · exact wpAny_pyNext_zipD2_end S E1 E2 c4 c1 c5 c2 c3 (Nat.le_refl _) (Nat.le_refl _) (.inl rfl) fun h' tk up => k h' tk fun c o hc e => up c o (mem4 hc).1 (mem4 hc).2.1 (mem4 hc).2.2.1 (mem4 hc).2.2.2 e
      · exact out_end S E1 c4 c5 c1 c2 fun h' up => k h' s1.toks fun c o hc e => up c o (mem4 hc).1 (mem4 hc).2.2.1 e
end W1Z
set_option maxRecDepth 100000
set_option maxHeartbeats 1000000
set_option exponentiation.threshold 20000
namespace W1
open PySem PySem.Spec PyProof.Rows L2 NdefX TL NumText LP
/-! ### dict(zip(names, things)) -/
def zipF (ns : List Str) (Ss : List Rl) : List (Key × Rl) := List.zipWith (fun g S => ((Sum.inr g : Key), S)) ns Ss
theorem zip_prs {P : Program} {w : World} {G : Hp} : ∀ {ns : List Str} {Ss : List Rl} {xs ys : List V} {us vs : List Value}, ns.length = Ss.length → All2 (ns.map rStr) xs G → All2 Ss ys G → Vals xs us → Vals ys vs →
    ∃ (kvs : List (Key × V)) (prs : List (Key × Value)), KV kvs prs ∧ NR (zipF ns Ss) kvs G ∧ prs.length = us.length ∧ us.length = vs.length ∧ ∀ (i : Nat) key v, us[i]? = some key → vs[i]? = some v → ∃ k, prs[i]? = some (k, v) ∧ (mixKind P w).is k key = true
  | [], [], [], [], us, vs, _, _, _, r1, r2 => by
    cases r1
    cases r2
    exact ⟨[], [], .nil, trivial, rfl, rfl, fun i key v h => by simp at h⟩
  | g :: ns, S :: Ss, x :: xs, y :: ys, us, vs, hl, ⟨a, h1⟩, ⟨b, h2⟩, r1, r2 => by
    cases r1 with
    | @cons _ u _ us q1 r1 =>
      cases r2 with
      | @cons _ v _ vs q2 r2 =>
        obtain ⟨kvs, prs, k1, k2, k3, k4, k5⟩ := zip_prs (ns := ns) (Ss := Ss) (by simpa using hl) h1 h2 r1 r2
        cases (show x = V.str g from a)
        refine ⟨(Sum.inr g, y) :: kvs, (Sum.inr g, v) :: prs, .cons ⟨rfl, q2⟩ k1, ⟨rfl, b, k2⟩, by rw [List.length_cons, List.length_cons, k3], by rw [List.length_cons, List.length_cons, k4], fun i key v' e1 e2 => ?_⟩
        cases i with
        | zero =>
          cases (Option.some.inj e1)
          cases (Option.some.inj e2)
          exact ⟨_, rfl, kV_is (k := Sum.inr g) q1⟩
        | succ i => exact k5 i key v' e1 e2
  | [], _ :: _, _, _, _, _, hl, _, _, _, _ => by simp at hl
  | _ :: _, [], _, _, _, _, hl, _, _, _, _ => by simp at hl
  | _ :: _, _ :: _, [], _, _, _, _, h, _, _, _ => h.elim
  | _ :: _, _ :: _, _ :: _, [], _, _, _, _, h, _, _ => h.elim
  | [], [], _ :: _, _, _, _, _, h, _, _, _ => h.elim
  | [], [], [], _ :: _, _, _, _, _, h, _, _ => h.elim
theorem merge_nodup {fs : List (Key × Rl)} (h : (fs.map (·.1)).Nodup) : mergeR [] fs = fs := by
  have h2 := dcR_nodup (kf := fun p : Key × Rl => p.1) (B := fun p => p.2) (xs := fs) h
  have e : (fs.map fun a => (a.1, a.2)) = fs := by
    rw [show (fun a : Key × Rl => (a.1, a.2)) = id from rfl, List.map_id]
  rw [e] at h2
  exact h2
theorem far2 {N t l : Nat} (h1 : t < N) (h2 : l < N) : N + 2 ∉ [N, t] ∧ N + 2 ∉ [N + 1, l] := by
  constructor <;> simp <;> omega
theorem far4 {N b : Nat} (h : b < N) : b ∉ [N + 4, N + 3, N, N + 1] := by
  simp
  omega
section
variable {F : Fx} {ρ : Ty} {ω w1 : Ow} {e1 e2 : Expr} {x z : Str} {p0 p1 pos pos1 : Pos}
theorem en_dictZip {ns : List Str} {Ss : List Rl} (he : AR F ρ ω [e1, e2] [rTup (ns.map rStr), rLst Ss] w1) (hl : ns.length = Ss.length) (hz : ns.length ≤ 1000) (nd : ns.Nodup) (hgd : Gl F.X "dict") (hmd : F.X.mg "dict" = none) (hgz : Gl F.X "zip") (hmz : F.X.mg "zip" = none) (hc : F.X.calm = true := by rfl)
    (hs : starEach [.Call (.Name "zip" p1) [e1, e2] [] pos1] F.X.env = (false, eval (.Call (.Name "zip" p1) [e1, e2] [] pos1) F.X.env) :: starEach [] F.X.env := by rfl) (hpl : (backTo pos (starEach [] F.X.env)).any (·.1) = false := by rfl)
    (hs1 : starEach [e1, e2] F.X.env = (false, eval e1 F.X.env) :: starEach [e2] F.X.env := by rfl) (hpl1 : (backTo pos1 (starEach [e2] F.X.env)).any (·.1) = false := by rfl) :
    EN F ρ ω (.Call (.Name "dict" p0) [.Call (.Name "zip" p1) [e1, e2] [] pos1] [] pos) (oD (zipF ns Ss)) w1 := fun σ G H at_ sl Q k pins s I => by
  refine Call_ (ld_blt I hgd hmd PyProof.Rows.boot_dict (PyProof.Rows.callWith_type1 ?_ hs hpl))
  rw [hs]
  change wpAny _ _ (spliced ((false, eval (.Call (.Name "zip" p1) [e1, e2] [] pos1) F.X.env) :: backTo pos (starEach [] F.X.env))) _ _ s
  refine Calls.spliced_cons (Call_ (ld_blt I hgz hmz PyProof.Rows.boot_zip (PyProof.Rows.callWith_type1 (thn (he σ G H at_ sl (fun vs H2 => ∃ G2, Same G G2 ∧ At F w1 G2 H2 ∧ All2 [rTup (ns.map rStr), rLst Ss] vs G2) (fun vs G2 H2 s2 a2 r2 => ⟨G2, s2, a2, r2⟩) pos1 pins s I) fun us s1 hq => ?_) hs1 hpl1)))
  obtain ⟨vs, H1, I1, rv, G2, s2, a2, r2⟩ := hq
  obtain ⟨a, b, rfl, ha, hb⟩ := all2 r2
  obtain ⟨t, xs, rfl, h1, h2⟩ := ha
  obtain ⟨l, ys, rfl, h3, h4⟩ := hb
  obtain ⟨u1, u2, rfl, q1, q2⟩ := vals2 rv
  cases (show u1 = Value.ref t from q1)
  cases (show u2 = Value.ref l from q2)
  obtain ⟨its, rt, tp, _⟩ := I1.tuple (SqT.of (a2.gh _ _ h1))
  obtain ⟨jts, rl, lp, _⟩ := I1.list (SqL.of (a2.gh _ _ h3))
  have tp : s1.heap.IsTuple t its.toArray := tp
  have lp : s1.heap.IsList l jts.toArray := lp.isList
  have lt_t : t < s1.heap.objs.size := by obtain ⟨o, ho, _⟩ := tp; exact Heap.lt_size ho
  have lt_l : l < s1.heap.objs.size := by obtain ⟨o, ho, _⟩ := lp; exact Heap.lt_size ho
  obtain ⟨kvs, prs, k1, k2, k3, k4, k5⟩ := zip_prs (P := F.X.prog) (w := F.X.w) hl h2 h4 rt rl
  have nprs : prs.length = ns.length := by
    have := rt.length
    have := h2.len
    rw [List.length_map] at this
    omega
  refine zip_begins2 (begins_tuple t its.toArray) (begins_list l jts.toArray) tp lp fun h' z1 z2 z3 z4 z5 z6 up => ?_
  refine Calls.spliced_nil ?_
  have esz : jts.toArray.size = its.toArray.size := by rw [List.size_toArray, List.size_toArray]; exact k4.symm
  have hh : F.X.A.handled = none := I.ok.hd hc
  refine PySem.call_dict_pairs (s := { s1 with heap := h' }) (knd := mixKind F.X.prog F.X.w) (kvs := prs) (W1Z.zip_arg (n := its.toArray.size) (zip_sep2 (N := s1.heap.objs.size) (fp1 := [t]) (fp2 := [l]) (fun b hb => by rw [List.mem_singleton.mp hb]; exact lt_t) (fun b hb => by rw [List.mem_singleton.mp hb]; exact lt_l)) ?_
    (fun A hA => Draws.tuple hA s1.heap.objs.size t (Nat.ne_of_lt lt_t) its.toArray) (fun A hA => by rw [← esz]; exact Draws.list hA (s1.heap.objs.size + 1) l (Nat.ne_of_lt (Nat.lt_succ_of_lt lt_l)) jts.toArray) ?_) hh ?_ ?_ ?_ fun h2' tk hd' up2 => ?_
  · exact far2 lt_t lt_l
  · rintro h ⟨⟨o1, g1, _⟩, ⟨o2, g2, _⟩⟩ ⟨⟨o3, g3, _⟩, ⟨o4, g4, _⟩⟩ b (hb | hb)
    · rcases List.mem_cons.mp hb with rfl | hb
      · exact ⟨_, g1⟩
      · rw [List.mem_singleton.mp hb]; exact ⟨_, g2⟩
    · rcases List.mem_cons.mp hb with rfl | hb
      · exact ⟨_, g3⟩
      · rw [List.mem_singleton.mp hb]; exact ⟨_, g4⟩
  · exact ⟨z1, z2, ⟨_, _, z3⟩, ⟨⟨_, z4, rfl, rfl⟩, tp.at fun o e => up _ _ e⟩, ⟨⟨_, z5, rfl, rfl⟩, lp.at fun o e => up _ _ e⟩⟩
  · refine ⟨by rw [List.size_toArray]; exact k3, fun i key v hi => ?_⟩
    obtain ⟨e1, e2⟩ := hi
    exact k5 i key v (by simpa using e1) (by simpa using e2)
  · rw [List.size_toArray, ← k3, nprs]
    exact Nat.le_trans hz (by decide)
  · have hnew : h'.objs.size = s1.heap.objs.size + 5 := z6
    have old : ∀ b u, s1.heap.get? b = some u → h2'.get? b = some u := fun b u e => by
      have hb := Heap.lt_size e
      exact up2 b u (far4 hb) (up b u e)
    have hp : s1.heap.objs.size ≤ h'.objs.size := by omega
    have hm : (h'.objs.size == sysModules) = false := beq_eq_false_iff_ne.mpr (Nat.ne_of_gt (Nat.lt_of_lt_of_le I1.big hp))
    have hlen : (mergeK [] kvs).length ≤ sizeLine := by
      refine Nat.le_trans (length_mergeK kvs []) ?_
      rw [List.length_nil, Nat.zero_add, k1.length, nprs]
      exact Nat.le_trans hz (by decide)
    have hH : H1 h'.objs.size = none := I1.hok.fresh hp
    refine ⟨.ref h'.objs.size, upd H1 h'.objs.size (.dK (mergeK [] kvs)), I1.laid (t' := tk) old hp (show ObjOk F.X.prog F.X.w _ _ _ (.dK (mergeK [] kvs)) from ⟨hlen, hm, merged [] prs, KV.merge k1 .nil, hd'⟩), rfl, ?_⟩
    have nr : NR (zipF ns Ss) (mergeK [] kvs) G2 := by
      have := NR.merge (fs := []) (vs := []) (H := G2) trivial k2
      rw [merge_nodup] at this
      · exact this
      · have e : (zipF ns Ss).map (·.1) = ns.map fun g => (Sum.inr g : Key) := by
          unfold zipF
          rw [List.map_zipWith]
          apply List.ext_getElem
          · simp [hl]
          · intro i h1 h2
            simp
        rw [e]
        exact List.pairwise_map.mpr (nd.imp fun h e => h (Sum.inr.inj e))
    exact k _ G2 _ (fun hM => a2.mm _ hM hH) s2 (a2.own hH ⟨_, rfl, nr⟩)
end
end W1
set_option maxRecDepth 100000
set_option maxHeartbeats 1000000
set_option exponentiation.threshold 20000
namespace W1
open PySem PySem.Spec PyProof.Rows L2 NdefX TL NumText LP
/-! ### dicts that anybody may hold, frozen or not; an error that holds a dict -/
theorem rd_up {H H' : Hp} {a : Addr} {u : HO} (e : Same H H') (h : Rd H a u) : Rd H' a u := h.elim (fun z => .inl (e _ _ z)) fun ⟨o, z⟩ => .inr ⟨o, e _ _ z⟩
def rDctU (fs : List (Key × Rl)) : Rl := ⟨fun v G => ∃ p vs, v = .ref p ∧ Rd G p (.dK vs) ∧ NR fs vs G, fun _ _ _ e ⟨p, vs, a, b, c⟩ => ⟨p, vs, a, rd_up e b, c.up e⟩⟩
section
variable {F : Fx} {ρ : Ty} {ω w w1 : Ow} {e : Expr} {fs : List (Key × Rl)}
theorem er_pubD (h : EN F ρ ω e (oD fs) w1) : ER F ρ ω e (rDctU fs) w1 := fun σ G H at_ sl Q z => h σ G H at_ sl Q fun q G2 H2 hM s a => by
  obtain ⟨hg, _, o, h1, vs, rfl, h2⟩ := a.ow _ List.mem_cons_self
  have a5 : At F w1 (upd G2 q (.dK vs)) H2 := At.pub (q := q) a h1 (At.own0 a hM)
  have sg : Same G2 (upd G2 q (.dK vs)) := fun b u e => by rw [upd_ne (ne_of_none e hg)]; exact e
  exact z _ _ _ (s.trans sg) a5 ⟨q, vs, rfl, .inl upd_same, h2.up sg⟩
end
/-- the promise of such an __init__: the one field holds a copy -/
def spErrD (C : Addr) (fld : Str) : Sp := fun vs H Q _ => ∃ a p kvs, vs = [.ref a, .ref p] ∧ H a = some (exo a C none) ∧ Rd H p (.dK kvs) ∧
  ∀ H' t d, H t = none → t ≠ a → H d = none → d ≠ a → d ≠ t → H' a = some (exo a C (some d)) → H' d = some (exd d [(fld, .ref t)]) → H' t = some (.dK kvs) → (∀ b o, b ≠ a → H b = some o → H' b = some o) → Q .non H'
section
variable {P : Program} {w : World} {K : PySem.W.Frag} {mg : Str → Option Value} {base : Heap}
theorem ok_errD {x qual y fld : Str} {st : Stmt} {C f cc cd : Addr} {k : Nat} {p0 p1 p2 p3 p4 p5 p6 p7 p8 p9 pa ps1 : Pos} {an1 : Option Expr} {tx : Str} {j : Nat} {pt : Pos} (T : SupC P K mg x qual st C f cc cd)
    (S : NScope ([("self" : Str), y, "__class__"] : List Str) ([("self" : Str), y] : List Str) ["__class__"] (defScope st))
    (hst : defBody st = [.Expr (.Call (.Attribute (.Call (.Name "super" p0) [] [] p1) "__init__" p2) [.Constant (.str tx) j pt] [] p3) p4, .Assign [.Attribute (.Name "self" p5) fld p6] (.Call (.Name "dict" p9) [.Name y p7] [] pa) p8])
    (hp : ((defArgs st).posonlyargs ++ (defArgs st).args).head? = some ⟨"self", an1, ps1⟩) (hks : (defScope st).names.lookup ("super" : Str) = some .globalImplicit) (hkd : (defScope st).names.lookup ("dict" : Str) = some .globalImplicit) (hno : PySem.W.findIn K (.ref C) fld = some none) (hmd : mg "dict" = none)
    (hd1 : (y == ("__debug__" : Str)) = false) (hd2 : (y == ("__classdict__" : Str)) = false)
    (pl : ∀ env : Env, env.scope = defScope st → ∃ pl : Sem Bool, eval (.Call (.Attribute (.Call (.Name "super" p0) [] [] p1) "__init__" p2) [.Constant (.str tx) j pt] [] p3) env = (do
      let ov ← attributeBase (.Call (.Name "super" p0) [] [] p1) "__init__" env (eval (.Call (.Name "super" p0) [] [] p1) env)
      standAt p2.atName
      let (f, first) ← holding [ov] (getMethod ov "__init__" pl)
      callWith p3 f first (backTo p3 (starEach [.Constant (.str tx) j pt] env)) []))
    (hsw : ∀ env : Env, env.scope = defScope st → swapsWith (.Call (.Attribute (.Call (.Name "super" p0) [] [] p1) "__init__" p2) [.Constant (.str tx) j pt] [] p3) none p4.line env = pure false)
    (hsw2 : ∀ env : Env, swapsWith (.Call (.Name "dict" p9) [.Name y p7] [] pa) (some (.Attribute (.Name "self" p5) fld p6)) p8.line env = pure false)
    (hse : ∀ env : Env, env.scope = defScope st → starEach [.Constant (.str tx) j pt] env = (false, eval (.Constant (.str tx) j pt) env) :: starEach [] env ∧ (backTo p3 (starEach [] env)).any (·.1) = false)
    (hsy : ∀ env : Env, env.scope = defScope st → starEach [.Name y p7] env = (false, eval (.Name y p7) env) :: starEach [] env ∧ (backTo pa (starEach [] env)).any (·.1) = false) :
    ∃ fd, (∃ doc pm ctv, fd = (supF qual st cc cd).fd doc pm ctv) ∧ FnOk P w K mg base (L2.CX P w) (k + 1) f fd ([("self" : Str), y] : List Str) (spErrD C fld) := by
  refine fn_sup (N := ([("self" : Str), y, "__class__"] : List Str)) (ps := ([("self" : Str), y] : List Str)) T S hst hp rfl (show (("self" : Str) == ("__classdict__" : Str)) = false by decide +kernel) List.mem_cons_self hks (fun vs H Q E h => ?_) pl hsw hse (fun A outer s H vs Q E hr h => ?_)
  · obtain ⟨a, p, kvs, rfl, _⟩ := h
    rfl
  · obtain ⟨a, p, kvs, rfl, ea, hrd, hq⟩ := h
    refine ⟨a, _, _, rfl, ea, pa_cons pe_str pa_nil (hse _ rfl).1, pss_one (ps_ost (pe_var (i := 0) rfl (Or.inl (S.par _ List.mem_cons_self))) (pe_callTy call_dictD hkd hmd PyProof.Rows.boot_dict (pa_cons (pe_var (i := 1) rfl (Or.inl (S.par _ (List.mem_cons_of_mem _ List.mem_cons_self))) hd1 hd2) pa_nil (hsy _ rfl).1) (by decide) (by decide) (hsy _ rfl).1 (hsy _ rfl).2) (hsw2 _)), ?_⟩
    refine ⟨by show 1 ≤ 1000; decide, ea, .ref p, rfl, p, kvs, rfl, hrd, fun t ht => ⟨.ref a, rfl, a, C, rfl, T.ox, hno, .inl ⟨by rw [upd_ne (ne_of_none ea ht)]; exact ea, fun d hd hne => ?_⟩⟩⟩
    have hta : t ≠ a := fun e => by rw [e, ea] at ht; cases ht
    have hdt : d ≠ t := fun e => by rw [e, upd_same] at hd; cases hd
    have hd0 : H d = none := by rw [upd_ne hdt] at hd; exact hd
    refine hq _ t d ht hta hd0 hne hdt upd_same (by rw [upd_ne hne, upd_same]) (by rw [upd_ne hta, upd_ne hdt.symm, upd_same]) fun b o hb e => ?_
    rw [upd_ne hb, upd_ne (ne_of_none e hd0), upd_ne (ne_of_none e ht)]
    exact e
end
section
variable {F : Fx} {ρ : Ty} {ω w1 : Ow} {K : Kn} {rest : List Stmt} {e : Expr} {A : Rl} {pos pos' p : Pos} {x y qual fld : Str} {st : Stmt} {C f cc cd : Addr} {fd : FuncData} {k : Nat} {fs : List (Key × Rl)}
theorem hb_raiseD (ha : AR F ρ ω [e] [A] w1) (hx : K.ex ρ w1 (erF C fld (rDctU fs))) (hA : ∀ v G, A.r v G → (rDctU fs).r v G) (T : SupC F.X.prog F.X.K F.X.mg x qual st C f cc cd) (Fn : FnOk F.X.prog F.X.w F.X.K F.X.mg F.X.base (L2.CX F.X.prog F.X.w) k f fd ([("self" : Str), y] : List Str) (spErrD C fld))
    (hr : Room (k + 1) F.X.A) (hb : Binds F.X.K fd ([("self" : Str), y] : List Str) []) (hg : Gl F.X x := by rfl) (hc : F.X.calm = true := by rfl) (hdb : (x == ("__debug__" : Str)) = false := by decide)
    (he : starEach [e] F.X.env = (false, eval e F.X.env) :: starEach [] F.X.env := by rfl) (hpl : (backTo pos (starEach [] F.X.env)).any (·.1) = false := by rfl) :
    HB F ρ ω (.Raise (some (.Call (.Name x p) [e] [] pos)) none pos' :: rest) K := hb_cons fun σ G H D at_ sl ps => by
  refine sw_of (ps_raise hc F.tk (pmk_oex T.ox T.iC T.tI Fn hr hb .nil passL hg T.gC pa_w hdb he hpl)) (ha σ G H at_ sl _ fun vs G1 H1 s1 a1 r1 => ?_)
  obtain ⟨v, rfl, rv⟩ := all1 r1
  obtain ⟨q, kvs, rfl, hrd, nr⟩ := hA _ _ rv
  refine ⟨by show 1 ≤ 1000; decide, fun a hna => ?_⟩
  have hg0 : G1 a = none := a1.gh.free hna
  have sa : Same G1 (upd H1 a (exo a C none)) := fun b o z => by rw [upd_ne (ne_of_none z hg0)]; exact a1.gh _ _ z
  refine ⟨a, q, kvs, rfl, upd_same, rd_up sa hrd, fun H' t d ht hta hd hne hdt h1 h2 h4 h3 => ⟨rfl, d, _, h1, h2, ?_, ?_⟩⟩
  · rw [upd_ne hne] at hd
    exact hd
  · rw [upd_ne hne] at hd
    rw [upd_ne hta] at ht
    have hgd : G1 d = none := a1.gh.free hd
    have hgt : G1 t = none := a1.gh.free ht
    have st : Step G1 H1 (upd (upd G1 t (.dK kvs)) d (.xd [(fld, .ref t)])) (upd (del H' a) d (.xd [(fld, .ref t)])) := by
      refine ⟨fun b o z => by rw [upd_ne (ne_of_none z hgd), upd_ne (ne_of_none z hgt)]; exact z, fun b o z => ?_, fun b o z => ?_, fun b z1 z2 => ?_⟩
      · have ba : b ≠ a := ne_of_none z hna
        rw [upd_ne (ne_of_none z hd), del_ne ba]
        exact h3 b o ba (by rw [upd_ne ba]; exact z)
      · by_cases hb : b = d
        · subst hb
          rw [upd_same] at z ⊢
          exact z
        · rw [upd_ne hb] at z ⊢
          by_cases hbt : b = t
          · subst hbt
            rw [upd_same] at z
            cases z
            rw [del_ne hta]
            exact h4
          · rw [upd_ne hbt] at z
            have ba : b ≠ a := ne_of_none z hg0
            rw [del_ne ba]
            exact h3 b o ba (by rw [upd_ne ba]; exact a1.gh _ _ z)
      · rw [upd_ne (fun z => z1 (by rw [z]; exact hd)), upd_ne (fun z => z1 (by rw [z]; exact ht))]
        exact z2
    refine ps.ex ρ w1 _ hx _ _ σ _ _ (s1.trans st.gg) (a1.step st) (sl.up (s1.trans st.gg)) ⟨rfl, d, .ref t, rfl, upd_same, t, kvs, rfl, .inl ?_, nr.up st.gg⟩
    rw [upd_ne hdt.symm, upd_same]
end
section
variable (P : Program) (w : World) (K : PySem.W.Frag) (mg : Str → Option Value) (base : Heap)
/-- an error class whose one field is a copy of a dict -/
def KeD (C : Addr) (x fld : Str) (k : Nat) : Prop := ∃ y qual st f cc cd fd, SupC P K mg x qual st C f cc cd ∧ Binds K fd ([("self" : Str), y] : List Str) [] ∧ FnOk P w K mg base (L2.CX P w) k f fd ([("self" : Str), y] : List Str) (spErrD C fld)
end
section
variable {F : Fx} {ρ : Ty} {ω w1 : Ow} {K : Kn} {rest : List Stmt} {e : Expr} {A : Rl} {pos pos' p : Pos} {x fld : Str} {C : Addr} {k : Nat} {fs : List (Key × Rl)}
theorem hb_errD (T : KeD F.X.prog F.X.w F.X.K F.X.mg F.X.base C x fld k) (hr : Room (k + 1) F.X.A) (ha : AR F ρ ω [e] [A] w1) (hx : K.ex ρ w1 (erF C fld (rDctU fs))) (hA : ∀ v G, A.r v G → (rDctU fs).r v G)
    (hg : Gl F.X x := by rfl) (hc : F.X.calm = true := by rfl) (hdb : (x == ("__debug__" : Str)) = false := by decide)
    (he : starEach [e] F.X.env = (false, eval e F.X.env) :: starEach [] F.X.env := by rfl) (hpl : (backTo pos (starEach [] F.X.env)).any (·.1) = false := by rfl) :
    HB F ρ ω (.Raise (some (.Call (.Name x p) [e] [] pos)) none pos' :: rest) K := by
  obtain ⟨y, qual, st, f, cc, cd, fd, h1, h2, h3⟩ := T
  exact hb_raiseD ha hx hA h1 h3 hr h2 hg hc hdb he hpl
end
theorem kED_NoPlan {P : Program} {w : World} {K : PySem.W.Frag} {mg : Str → Option Value} {base : Heap} {C f cc cd : Addr} (T : SupC P K mg "NoPlan" "NoPlan.__init__" s_NoPlan___init__ C f cc cd) (hno : PySem.W.findIn K (.ref C) "prices" = some none) (hmd : mg "dict" = none) : KeD P w K mg base C "NoPlan" "prices" 1 := by
  obtain ⟨fd, ⟨doc, pm, ctv, rfl⟩, h⟩ := ok_errD (w := w) (base := base) (k := 0) T c_NoPlan___init__ rfl rfl rfl rfl hno hmd (by decide) (by decide) (fun env he => ⟨_, rfl⟩) (fun env he => rfl) (fun env => rfl) (fun env he => ⟨rfl, rfl⟩) (fun env he => ⟨rfl, rfl⟩)
  exact ⟨"prices", _, _, f, cc, cd, _, T, .all fun us hl => match us, hl with | [_, _], _ => rfl, h⟩
end W1
set_option maxRecDepth 100000
set_option maxHeartbeats 1000000
set_option exponentiation.threshold 20000
namespace W1
open PySem PySem.Spec PyProof.Rows L2 NdefX TL NumText LP
/-! ### a book's sheet, solved -/
def nmAt (gs : List Str) (j : Nat) : Str := (srt gs).getD j Str.empty
def lpD (gs : List Str) (ys : List Wy) (h : Nat → Rat) (gl : Str → Rat) : Dat := datOf (fun i j => ((netW (ys.getD i wy0) (nmAt gs j) : Int) : Rat)) h (fun j => gl (nmAt gs j)) gs.length ys.length
theorem range_srt {gs : List Str} {A : Str → Rl} : (srt gs).map A = (List.range gs.length).map fun j => A (nmAt gs j) := by
  have hl : (srt gs).length = gs.length := (srt_perm gs).length_eq
  apply List.ext_getElem
  · simp [hl]
  · intro i h1 h2
    simp at h1
    simp [nmAt, h1]
theorem range_ys {ys : List Wy} {A : Wy → Rl} : ys.map A = (List.range ys.length).map fun i => A (ys.getD i wy0) := by
  apply List.ext_getElem
  · simp
  · intro i h1 h2
    simp at h1
    simp [h1]
/-- what the walks of a book's sheet ask of it -/
structure BkL (gs : List Str) (ys : List Wy) : Prop where
  nd : gs.Nodup
  nm : ∀ g ∈ gs, g.length ≤ 640
  h4 : gs.length ≤ 4
  h8 : ys.length ≤ 8
def pSheetOf (S C W R : Addr) : PreG := fun Rs w o => ∃ gs ys h dm, BkL gs ys ∧ (∀ g, small (valQ dm g)) ∧ Rs = [rBook C W gs ys, rLst ((List.range ys.length).map fun i => rRat R (h i)), rDct (fsQ R dm)] ∧ w = [] ∧
  o = .ok fun A w' => ∃ q pb, A = rRef q ∧ w' = [(q, oIns S (shF R (lpD gs ys h (valQ dm)) (sh0 (lpD gs ys h (valQ dm))) pb)), (pb, oL (basisL (lpD gs ys h (valQ dm)) (sh0 (lpD gs ys h (valQ dm)))))]
structure BkG (P : Program) (w : World) (K : PySem.W.Frag) (mg : Str → Option Value) (base : Heap) (S C W R M U V : Addr) : Prop where
  G : ShG P w K mg base S R M
  BX : BookX K mg C
  Tl : Ko P w K mg base C "__len__" 1 (pBLen C W)
  Tn : Km P w K mg base C "net" 4 (pBNet C W U V)
  Ta : Kf1 P w K mg base "amount" 6 (pAmount R)
section
variable {P : Program} {w : World} {K : PySem.W.Frag} {mg : Str → Option Value} {base : Heap} {S C W M N U V R f : Addr} {fd : FuncData}
theorem kf_sheetof (Fn : Fun K "sheet_of" "sheet_of" s_sheet_of f fd) (B : BkG P w K mg base S C W R M U V) (Ti : KcG P w K mg base S "Sheet" 6 (pInitS S R)) : FnOk P w K mg base (L2.CX P w) 8 f fd P_sheet_of (spG (pSheetOf S C W R)) := by
  refine fn_okG Fn c_sheet_of (fun _ _ _ ⟨_, _, _, _, _, _, h, _⟩ => by rw [h]; rfl) ?_
  rintro cdv A outer s H E ⟨_, G0, H0, M', W', tk⟩ hr rfl Rs ω o ⟨gs, ys, h, dm, bk, hsm, rfl, rfl, rfl⟩ -
  have nd := c_sheet_of.nd
  have G := B.G
  have X := G.X
  have cl := B.BX.cx.cls
  have nn := B.BX.nn
  have r6 := hr.mono (show 6 ≤ 7 by decide)
  have r5 := hr.mono (show 5 ≤ 7 by decide)
  have r4 := hr.mono (show 4 ≤ 7 by decide)
  have r2 := hr.mono (show 2 ≤ 7 by decide)
  have h4 := bk.h4
  have h8 := bk.h8
  have hl : (srt gs).length = gs.length := (srt_perm gs).length_eq
  have er : rng 0 (((ys.length : Nat) : Int)).toNat = (List.range ys.length).map fun k : Nat => rInt (0 + (k : Int)) := by
    rw [rng_map, Int.toNat_natCast]
  refine hb_setLc (xs := List.range ys.length) (A := fun k : Nat => rInt (0 + (k : Int))) (B := fun i => rLst ((List.range gs.length).map fun j => rRat R ((netW (ys.getD i wy0) (nmAt gs j) : Int) : Rat))) (w1 := []) 3 (by rw [← er]; exact it_rng1 (ar_cons (er_bA (ar_cons (er_v 0 rfl rfl) ar_nil) G.len bt_len (cop_oL B.Tl r2 ⟨gs, ys, rfl, rfl, rfl, rfl⟩ (by omega))) ar_nil) rfl G.rg (by omega)) (by rw [List.length_range]; omega) [("at", 5)] (blkOk_by (N := N_sheet_of) (sc := defScope s_sheet_of) (by decide +kernel)) (fun _ _ _ _ _ => pg_name (i := 5) nd rfl (Or.inr rfl)) (fun _ _ _ => gew_name) (fun i j hj s1 H1 cc cl' fp d' => ?_) ?_ nd (by rfl)
  · have hj := List.mem_range.mp (List.mem_of_getElem? hj)
    refine er_eq (er_lc (xs := srt gs) (A := rStr) (B := fun g => rRat R ((netW (ys.getD j wy0) g : Int) : Rat)) (it_tup (er_fld (er_v 0 rfl rfl) cl nn rfl)) (by omega) [("good", 4)] (blkOk_by (N := N_sheet_of) (by rfl)) (fun _ _ _ _ _ => pg_name (i := 4) nd rfl (Or.inl rfl)) (fun _ _ _ => gew_name) (fun i2 g hg s2 H2 cc2 cl2 fp2 d2 => ?_) nd) (congrArg rLst range_srt)
    have hg := (srt_perm gs).mem_iff.mp (List.mem_of_getElem? hg)
    exact er_cm X.Tw r5 (er_gC X.X.gC) (ar_cons (er_m (R := rInt (netW (ys.getD j wy0) g)) B.Tn cl r4 (er_v 0 rfl rfl) (ar_cons (er_v 5 rfl rfl) (ar_cons (er_v 4 rfl rfl) ar_nil)) ⟨gs, ys, 0 + (j : Int), g, small_log (Nat.le_trans (show (0 + (j : Int)).natAbs ≤ 8 by omega) (by decide)), bk.nm g hg, rfl, rfl, rfl, by rw [if_pos ⟨by omega, by omega⟩, if_pos hg, show (0 + (j : Int)).toNat = j by omega]⟩) ar_nil) pWholeOk
  refine hb_retG (eg_cG (wc := []) (w := []) Ti (hr.mono (by decide)) (ar_cons (er_v 3 rfl rfl) (ar_cons (er_v 1 rfl rfl) (ar_cons (er_eq (er_lc (xs := srt gs) (A := rStr) (B := fun g => rRat R (valQ dm g)) (it_tup (er_fld (er_v 0 rfl rfl) cl nn rfl)) (by omega) [("good", 4)] (blkOk_by (N := N_sheet_of) (sc := defScope s_sheet_of) (by decide +kernel)) (fun _ _ _ _ _ => pg_name (i := 4) nd rfl (Or.inl rfl)) (fun _ _ _ => gew_name) (fun i2 g hg s2 H2 cc2 cl2 fp2 d2 => ?_) nd) (congrArg rLst range_srt)) ar_nil)))
    (fun y => ⟨fun i j => ((netW (ys.getD i wy0) (nmAt gs j) : Int) : Rat), h, fun j => valQ dm (nmAt gs j), gs.length, ys.length, y, ⟨by omega, by omega, fun j _ => hsm _⟩, rfl, rfl, rfl⟩) (fun y A w' hA v G h => by rw [hA.1] at h; exact h)) ?_
  · exact er_fA B.Ta r6 (ar_cons (er_v 2 rfl rfl) (ar_cons (er_v 4 rfl rfl) ar_nil)) ⟨dm, g, rfl, rfl, rfl, rfl⟩
  · rintro A w ⟨y, S', hy, rfl, w', ⟨-, pb, rfl⟩, -, rfl⟩
    exact ⟨_, rRef y, _, [], rfl, ⟨y, pb, rfl, rfl⟩, fun v G h => h, fun a h => (by cases h), List.Perm.refl _⟩
end
end W1
set_option maxRecDepth 100000
set_option maxHeartbeats 1000000
set_option exponentiation.threshold 20000
namespace W1
open PySem PySem.Spec PyProof.Rows L2 NdefX TL NumText LP
section
variable {F : Fx} {ρ : Ty} {ω : Ow} {es : List Expr} {pos : Pos} {j : Nat} {Φ : Rl → Ow → Prop}
theorem eg_tup (h : AG F ρ ω es fun Rs w => Rs.length ≤ 1000 ∧ Φ (rTup Rs) w) : EG F ρ ω (.Tuple es j pos) Φ := fun σ G H at_ sl Q q => by
  refine ew_of (pe_tup pa_w) (h σ G H at_ sl _ fun vs G2 H2 Rs w k s a r => ⟨Nat.le_of_lt (small1000 (by rw [← r.len]; exact k.1)), fun p hp => ?_⟩)
  have st := Step.new (o := .tup vs) a.gh hp
  exact q _ _ _ _ _ k.2 (s.trans st.gg) (a.step st) ⟨p, vs, rfl, upd_same, r.up st.gg⟩
end
/-! ### the greatest worth, and who shows it -/
def pxD (gs : List Str) (f : Nat → Rat) : Dm := (List.range gs.length).map fun j => (nmAt gs j, f j)
theorem zip_px {R : Addr} {gs : List Str} {f : Nat → Rat} : zipF (srt gs) ((List.range gs.length).map fun j => rRat R (f j)) = fsQ R (pxD gs f) := by
  have hl : (srt gs).length = gs.length := (srt_perm gs).length_eq
  unfold zipF fsQ pxD
  apply List.ext_getElem
  · simp [hl]
  · intro i h1 h2
    simp at h1
    have h0 : i < (srt gs).length := by omega
    simp [nmAt, h0]
noncomputable def lpOut (N R : Addr) (gs : List Str) (d : Dat) : OutG := match ent d (fin d) with
  | some c => .error (erF N "prices" (rDctU (fsQ R (pxD gs (rv d (fin d) c)))), [])
  | none => .ok fun S w' => ∃ q1 q2, S = rTup [rRat R ((fin d).g d.N), rRef q1, rRef q2] ∧ w' = [(q1, oL ((List.range d.n).map fun k => rRat R (yv d (fin d) k))), (q2, oD (fsQ R (pxD gs (xv d (fin d)))))]
def pSolved (C W N R : Addr) : PreG := fun Rs w o => ∃ gs ys h dm, BkL gs ys ∧ (∀ g, small (valQ dm g)) ∧ FinOk (lpD gs ys h (valQ dm)) ∧ Rs = [rBook C W gs ys, rLst ((List.range ys.length).map fun i => rRat R (h i)), rDct (fsQ R dm)] ∧ w = [] ∧ o = lpOut N R gs (lpD gs ys h (valQ dm))
structure SvG (P : Program) (w : World) (K : PySem.W.Frag) (mg : Str → Option Value) (base : Heap) (S C W R M N U V : Addr) : Prop where
  B : BkG P w K mg base S C W R M U V
  Tso : KfG1 P w K mg base "sheet_of" 8 (pSheetOf S C W R)
  Tsv : Km P w K mg base S "solve" 7 (pSolve S R)
  Tm : Kmn P w K mg base S "multipliers" 1 (pMult S R)
  Tp : Km P w K mg base S "point" 6 (pPoint S R)
  Tr : Km P w K mg base S "ray" 6 (pRay S R)
  Te : KeD P w K mg base N "NoPlan" "prices" 1
  di : mg "dict" = none
section
variable {P : Program} {w : World} {K : PySem.W.Frag} {mg : Str → Option Value} {base : Heap} {S C W M N U V R f : Addr} {fd : FuncData}
theorem kf_solved (Fn : Fun K "solved" "solved" s_solved f fd) (Z : SvG P w K mg base S C W R M N U V) : FnOk P w K mg base (L2.CX P w) 9 f fd P_solved (spG (pSolved C W N R)) := by
  refine fn_okG Fn c_solved (fun _ _ _ ⟨_, _, _, _, _, _, _, h, _⟩ => by rw [h]; rfl) ?_
  rintro cdv A outer s H E ⟨_, G0, H0, M', W', tk⟩ hr rfl Rs ω o ⟨gs, ys, h, dm, bk, hsm, fo, rfl, rfl, rfl⟩ -
  have nd := c_solved.nd
  have G := Z.B.G
  have X := G.X
  have cl := G.SX.cl
  have n4 := G.SX.n4
  have clb := Z.B.BX.cx.cls
  have nn := Z.B.BX.nn
  have r7 := hr.mono (show 7 ≤ 8 by decide)
  have r6 := hr.mono (show 6 ≤ 8 by decide)
  have r2 := hr.mono (show 2 ≤ 8 by decide)
  have r1 := hr.mono (show 1 ≤ 8 by decide)
  have h4 := bk.h4
  have h8 := bk.h8
  have hl : (srt gs).length = gs.length := (srt_perm gs).length_eq
  have nds : (srt gs).Nodup := (srt_perm gs).nodup_iff.mpr bk.nd
  generalize hd : lpD gs ys h (valQ dm) = d at fo ⊢
  have em : d.m = gs.length := by rw [← hd]; rfl
  have dm1 : Dm1 d := ⟨by rw [em]; omega, by rw [← hd]; show ys.length ≤ 100; omega⟩
  obtain ⟨tab, feas, stop⟩ := fin_ok fo.1
  have sz := fo.sz tab
  refine hb_setG (Φ := NewG _ [] [] fun A w' => ∃ q pb, A = rRef q ∧ w' = [(q, oIns S (shF R d (sh0 d) pb)), (pb, oL (basisL d (sh0 d)))]) 3 rfl (eg_fG (wc := []) (w := []) Z.Tso hr (ar_cons (er_v 0 rfl rfl) (ar_cons (er_v 1 rfl rfl) (ar_cons (er_v 2 rfl rfl) ar_nil))) ⟨gs, ys, h, dm, bk, hsm, rfl, rfl, by rw [hd]⟩) ?_
  rintro A' w' ⟨w1, ⟨q, pb, rfl, rfl⟩, -, rfl⟩
  rw [List.append_nil]
  refine hb_setA (R := rOI (ent d (fin d))) (w1 := [(q, oIns S (shF R d (fin d) pb)), (pb, oL (basisL d (fin d)))]) 4 rfl (er_mA0 Z.Tsv cl r7 (er_v 3 rfl rfl) List.mem_cons_self ⟨d, q, pb, dm1, fo, rfl, rfl, rfl, rfl⟩ (hk := keys2)) ?_
  unfold lpOut
  cases ec : ent d (fin d) with
  | some c =>
    obtain ⟨c1, c2, c3⟩ := ent_spec ec
    have hcb : ∀ i, i < d.n → (fin d).B i ≠ c := fun i hi e => by
      have := tab.gz i hi
      rw [e] at this
      grind
    refine hb_if (b := true) (tr_to (tr_cmp (er_v 4 rfl rfl) er_non (bop_notN (x := .int ((c : Nat) : Int)))) (by rw [decide_eq_false fun z => by cases z]; rfl)) (fun _ => ?_) (fun z => Bool.noConfusion z)
    refine hb_errD (fs := fsQ R (pxD gs (rv d (fin d) c))) Z.Te r2 (ar_cons (er_pubD (w1 := [(q, oIns S (shF R d (fin d) pb)), (pb, oL (basisL d (fin d)))]) (by
      rw [← zip_px, ← em]
      exact en_dictZip (ar_cons (er_fld (er_v 0 rfl rfl) clb nn rfl) (ar_cons (er_mA Z.Tr cl r6 (er_v 3 rfl rfl) List.mem_cons_self (ar_cons (er_v 4 rfl rfl) ar_nil) ⟨d, fin d, q, pb, c, dm1, sz, tab, c1, hcb, rfl, rfl, rfl, rfl⟩) ar_nil)) (by rw [List.length_map, List.length_range, em, hl]) (by omega) nds rfl Z.di rfl G.zp)) ar_nil) ⟨_, [], [(q, oIns S (shF R d (fin d) pb)), (pb, oL (basisL d (fin d)))], rfl, fun _ _ _ h => h, List.Perm.refl _⟩ fun v G h => h
  | none =>
    refine hb_if (b := false) (tr_to (tr_cmp (er_v 4 rfl rfl) er_non (bop_notN (x := .non))) (by rw [decide_eq_true rfl]; rfl)) (fun z => Bool.noConfusion z) (fun _ => hb_nil ?_)
    refine hb_retG (Φ := fun A w => ∃ q1 q2, A = rTup [rRat R ((fin d).g d.N), rRef q1, rRef q2] ∧ w = [(q2, oD (fsQ R (pxD gs (xv d (fin d))))), (q, oIns S (shF R d (fin d) pb)), (pb, oL (basisL d (fin d))), (q1, oL ((List.range d.n).map fun k => rRat R (yv d (fin d) k)))]) (eg_tup (ag_cons (Φ := fun A w => A = rRat R ((fin d).g d.N) ∧ w = [(q, oIns S (shF R d (fin d) pb)), (pb, oL (basisL d (fin d)))]) (eg_er (er_ix (er_fldO (er_v 3 rfl rfl) List.mem_cons_self cl n4 rfl) (er_un er_int uop_neg) iop_rowL) ⟨rfl, rfl⟩) ?_)) ?_
    · rintro A w ⟨rfl, rfl⟩
      refine ag_cons (Φ := fun A w => ∃ q1, A = rRef q1 ∧ w = [(q1, oL ((List.range d.n).map fun k => rRat R (yv d (fin d) k))), (q, oIns S (shF R d (fin d) pb)), (pb, oL (basisL d (fin d)))]) (eg_en (en_mO0 (wc := [(q, oIns S (shF R d (fin d) pb)), (pb, oL (basisL d (fin d)))]) (wc' := [(q, oIns S (shF R d (fin d) pb)), (pb, oL (basisL d (fin d)))]) (w := []) Z.Tm cl r1 (er_v 3 rfl rfl) List.mem_cons_self ⟨d, fin d, q, pb, rfl, rfl, rfl, rfl⟩) fun q1 _ => ⟨q1, rfl, rfl⟩) ?_
      rintro A w ⟨q1, rfl, rfl⟩
      refine ag_cons (Φ := fun A w => ∃ q2, A = rRef q2 ∧ w = [(q2, oD (fsQ R (pxD gs (xv d (fin d))))), (q, oIns S (shF R d (fin d) pb)), (pb, oL (basisL d (fin d))), (q1, oL ((List.range d.n).map fun k => rRat R (yv d (fin d) k)))]) (eg_en (O := oD (fsQ R (pxD gs (xv d (fin d))))) (w := [(q, oIns S (shF R d (fin d) pb)), (pb, oL (basisL d (fin d))), (q1, oL ((List.range d.n).map fun k => rRat R (yv d (fin d) k)))]) (by
        rw [← zip_px, ← em]
        exact en_dictZip (ar_cons (er_fld (er_v 0 rfl rfl) clb nn rfl) (ar_cons (er_mO0 (wc := [(q, oIns S (shF R d (fin d) pb)), (pb, oL (basisL d (fin d)))]) (wc' := [(q, oIns S (shF R d (fin d) pb)), (pb, oL (basisL d (fin d)))]) (w := [(q1, oL ((List.range d.n).map fun k => rRat R (yv d (fin d) k)))]) Z.Tp cl r6 (er_perm (er_v 3 rfl rfl) ((List.Perm.swap _ _ _).trans ((List.Perm.swap _ _ _).cons _))) List.mem_cons_self ⟨d, fin d, q, pb, dm1, sz, tab, rfl, rfl, rfl, rfl⟩) ar_nil)) (by rw [List.length_map, List.length_range, em, hl]) (by omega) nds rfl Z.di rfl G.zp) fun q2 _ => ⟨q2, rfl, rfl⟩) ?_
      rintro A w ⟨q2, rfl, rfl⟩
      exact ag_nil ⟨Nat.le_of_ble_eq_true rfl, q1, q2, rfl, rfl⟩
    · rintro A w ⟨q1, q2, rfl, rfl⟩
      exact ⟨_, _, _, [(q, oIns S (shF R d (fin d) pb)), (pb, oL (basisL d (fin d)))], rfl, ⟨q1, q2, rfl, rfl⟩, fun v G h => h, fun a h => (by cases h), (List.perm_append_comm (l₁ := [(q2, oD (fsQ R (pxD gs (xv d (fin d))))), (q, oIns S (shF R d (fin d) pb)), (pb, oL (basisL d (fin d)))]) (l₂ := [(q1, oL ((List.range d.n).map fun k => rRat R (yv d (fin d) k)))]))⟩
end
end W1
set_option maxRecDepth 100000
set_option maxHeartbeats 1000000
set_option exponentiation.threshold 20000
namespace W1
open PySem PySem.Spec PyProof.Rows L2 NdefX TL NumText LP
/-! ### try .. except C: without a name; more on what is given by what holds of it -/
def Kn.suite0 (K : Kn) (F : Fx) (rest : List Stmt) : Kn := { nx := fun ρ ω => HB F ρ ω rest K, rt := K.rt, bk := K.bk, ct := K.ct }
def Kn.try0 (K : Kn) (F : Fx) (rest : List Stmt) (c : Value) (suite : List Stmt) : Kn :=
  { nx := fun ρ ω => HB F ρ ω rest K, rt := K.rt, bk := K.bk, ct := K.ct, ex := fun ρ ω P =>
      (∃ C, (∀ cls d G, P cls d G → cls = .ref C) ∧ PySem.W.exmOne F.X.K (.ref C) c = some true ∧ ∀ a d F', InSuite F F' a (.ref C) d → HB F' ρ ω suite (K.suite0 F rest)) ∨
      ((∀ cls d G, P cls d G → PySem.W.exmOne F.X.K cls c = some false) ∧ K.ex ρ ω P) }
section
variable {F : Fx} {ρ : Ty} {ω w1 : Ow} {K : Kn} {rest body suite : List Stmt} {b₀ : Stmt} {x : Str} {c : Value} {np pos pos' : Pos}
theorem hb_try0 (hb : ∀ F', InTry F F' → HB F' ρ ω body (K.try0 F rest c (b₀ :: suite))) (hs : F.X.stack = F.X.env :: F.X.outer) (hf : F.X.env.frame = some F.X.env.locals) (hc : Names F.X x c) :
    HB F ρ ω (.Try body [.ExceptHandler (some (.Name x np)) none (b₀ :: suite) pos'] [] [] pos :: rest) K := hb_cons fun σ G H D at_ sl ps => by
  refine sw_of (ps_try_only hs hf hc F.tk (tb := fun W D σ H => ∀ pn xe, Takes (F.X.tr pn xe) W → PassesOwn (model F.X.prog F.X.w) F.X.A F.X.env xe → BW (F.X.tr pn xe) body D σ H) (ts := fun a cls d D σ H => ∀ oe pn, Zc cls d oe → (∃ vs, oe.data = .fields vs) → BW (F.X.suite a ((a, oe) :: pn)) (b₀ :: suite) D σ H)
    (fun W pn xe tk pa => ⟨fun pins s σ H D I h => h pn xe tk pa pins s I⟩) (fun a oe cls d pn z hd => ⟨fun pins s σ H D I h => h oe pn z hd pins s I⟩)) ?_
  intro pn xe tk pa
  refine hb ⟨F.X.tr pn xe, F.G0, F.H0, F.M, _, tk⟩ ⟨⟨pn, xe, rfl, pa⟩, rfl, rfl, rfl⟩ σ G H _ at_.to sl ⟨fun ρ ω k σ' G' H' s a sl => k σ' G' H' D a.to sl (ps.up s), fun R ω k v G' H' s a r => ps.rt R ω k v G' H' s a.to r, fun ρ ω k σ' G' H' s a sl => ps.bk ρ ω k σ' G' H' s a.to sl, fun ρ ω k σ' G' H' s a sl => ps.ct ρ ω k σ' G' H' s a.to sl, fun ρ ω P k cls d σ' G' H' s a sl hP => ?_⟩
  rcases k with ⟨C, k1, k2, k3⟩ | ⟨k1, k2⟩
  · cases k1 _ _ _ hP
    refine ⟨true, k2, fun _ ax hna oe pn' z hd => ?_, fun z => by cases z⟩
    refine k3 ax d ⟨F.X.suite ax ((ax, oe) :: pn'), F.G0, F.H0, F.M, fun _ _ _ _ => False, fun _ _ ⟨_, _, _, _, _, _, _, _, _, _, _, _, _, _, _, _, z⟩ => z.elim⟩ ⟨⟨oe, pn', rfl, z, hd⟩, rfl, rfl, rfl⟩ _ G' H' _ a.to sl ?_
    exact ⟨fun ρ ω k σ' G2 H2 s2 a sl => k _ G2 H2 D a.to sl (ps.up (s.trans s2)), fun R ω k v G2 H2 s2 a r => ps.rt R ω k v G2 H2 (s.trans s2) a.to r, fun ρ ω k σ' G2 H2 s2 a sl => ps.bk _ ω k _ G2 H2 (s.trans s2) a.to sl, fun ρ ω k σ' G2 H2 s2 a sl => ps.ct _ ω k _ G2 H2 (s.trans s2) a.to sl, fun _ _ _ k => k.elim⟩
  · exact ⟨false, k1 _ _ _ hP, fun z => absurd z Bool.false_ne_true, fun _ => ps.ex ρ ω P k2 cls d σ' G' H' s a.to sl hP⟩
variable {e a b : Expr} {Φ : Rl → Ow → Prop} {S B : Rl} {w w2 : Ow} {p : Pos}
theorem hb_exprG (he : EG F ρ ω e Φ) (h : ∀ R w, Φ R w → HB F ρ w rest K) (hs : swapsWith e none pos.line F.X.env = pure false := by rfl) : HB F ρ ω (.Expr e pos :: rest) K := hb_cons fun σ G H D at_ sl ps =>
  sw_of (ps_expr pe_w hs) (he σ G H at_ sl _ fun v G2 H2 R w k s a r => h R w k _ G2 H2 D a (sl.up s) (ps.up s))
theorem eg_ix {Ψ : Rl → Ow → Prop} (ha : EG F ρ ω a Φ) (hb : ∀ A w, Φ A w → ∃ B S w2, ER F ρ w b B w2 ∧ Iop F w2 A B S ∧ Ψ S w2) (hs : PlainIx b := by exact fun _ _ => rfl) : EG F ρ ω (.Subscript a b pos) Ψ := fun σ G H at_ sl Q q => by
  refine ew_of (pe_ix (r := fun x y H Q => ∃ r : R2, IxR F.X r ∧ r x y H Q) (fun va sl pins s σ H x y u v Q I rx ry ⟨r, h1, h2⟩ => h1 va sl pins s σ H x y u v Q I rx ry h2) pe_w pe_w hs) (ha σ G H at_ sl _ fun x G1 H1 A w k s1 at1 rx => ?_)
  obtain ⟨B, S, w2, h1, ⟨r, ho, k2⟩, h3⟩ := hb A w k
  exact h1 σ G1 H1 at1 (sl.up s1) _ fun y G2 H2 s2 at2 ry => ⟨r, ho, k2 x y G2 H2 at2 (A.mo _ _ _ s2 rx) ry Q fun v G3 H3 s3 at3 rv => q v G3 H3 S w2 h3 ((s1.trans s2).trans s3) at3 rv⟩
end
theorem ex_ixX {F : Fx} {ρ : Ty} {ω w1 : Ow} {a b : Expr} {P : Er} {pos : Pos} (ha : EX F ρ ω a P w1) (hs : PlainIx b := by exact fun _ _ => rfl) : EX F ρ ω (.Subscript a b pos) P w1 := fun σ G H at_ sl q =>
  ew_of (pe_ix ix_list (pe_x (t := fun _ _ _ => True)) pe_w hs) (ha σ G H at_ sl q)
/-! ### the least hours of a demand -/
def hrAt (ys : List Wy) (i : Nat) : Rat := (((ys.getD i wy0).2.1 : Int) : Rat)
def lpH (gs : List Str) (ys : List Wy) (dm : Dm) : Dat := lpD gs ys (hrAt ys) (valQ dm)
structure CkG (P : Program) (w : World) (K : PySem.W.Frag) (mg : Str → Option Value) (base : Heap) (S C W R M N U V gi : Addr) : Prop where
  Z : SvG P w K mg base S C W R M N U V
  WX : WayX K mg W
  Im : ItM K C gi
  Ti : IterOk P w K mg base C gi "ways" 1
  Td : Kf1 P w K mg base "check_demand" 6 (pChkD C W M U R)
noncomputable def chOut (M N U R : Addr) (gs : List Str) (ys : List Wy) (dm : Dm) : OutG := match demE gs dm with
  | some x => .error (errD M U R x, [])
  | none => lpOut N R gs (lpH gs ys dm)
def pCheap (C W M N U R : Addr) : PreG := fun Rs w o => ∃ gs ys dm, BkL gs ys ∧ DmS dm ∧ (demE gs dm = none → FinOk (lpH gs ys dm)) ∧ Rs = [rBook C W gs ys, rDct (fsQ R dm)] ∧ w = [] ∧ o = chOut M N U R gs ys dm
noncomputable def lhOut (M N U R : Addr) (gs : List Str) (ys : List Wy) (dm : Dm) : Out := match demE gs dm with
  | some x => .error (errD M U R x)
  | none => match ent (lpH gs ys dm) (fin (lpH gs ys dm)) with
    | some c => .error (erF N "prices" (rDctU (fsQ R (pxD gs (rv (lpH gs ys dm) (fin (lpH gs ys dm)) c)))))
    | none => .ok (rRat R ((fin (lpH gs ys dm)).g (lpH gs ys dm).N))
def pLeastH (C W M N U R : Addr) : Pre := fun Rs w o w' => ∃ gs ys dm, BkL gs ys ∧ DmS dm ∧ (demE gs dm = none → FinOk (lpH gs ys dm)) ∧ Rs = [rBook C W gs ys, rDct (fsQ R dm)] ∧ w = [] ∧ w' = [] ∧ o = lhOut M N U R gs ys dm
noncomputable def cmOut (M U R : Addr) (gs : List Str) (ys : List Wy) (dm : Dm) : Out := match demE gs dm with
  | some x => .error (errD M U R x)
  | none => .ok (rBool (ent (lpH gs ys dm) (fin (lpH gs ys dm))).isNone)
def pCanM (C W M U R : Addr) : Pre := fun Rs w o w' => ∃ gs ys dm, BkL gs ys ∧ DmS dm ∧ (demE gs dm = none → FinOk (lpH gs ys dm)) ∧ Rs = [rBook C W gs ys, rDct (fsQ R dm)] ∧ w = [] ∧ w' = [] ∧ o = cmOut M U R gs ys dm
section
variable {P : Program} {w : World} {K : PySem.W.Frag} {mg : Str → Option Value} {base : Heap} {S C W M N U V R f gi : Addr} {fd : FuncData}
theorem kf_cheap (Fn : Fun K "cheapest" "cheapest" s_cheapest f fd) (Y : CkG P w K mg base S C W R M N U V gi) (Ts : KfG1 P w K mg base "solved" 9 (pSolved C W N R)) : FnOk P w K mg base (L2.CX P w) 10 f fd P_cheapest (spG (pCheap C W M N U R)) := by
  refine fn_okG Fn c_cheapest (fun _ _ _ ⟨_, _, _, _, _, _, h, _⟩ => by rw [h]; rfl) ?_
  rintro cdv A outer s H E ⟨_, G0, H0, M', W', tk⟩ hr rfl Rs ω o ⟨gs, ys, dm, bk, ok, fo, rfl, rfl, rfl⟩ -
  have nd := c_cheapest.nd
  have G := Y.Z.B.G
  have X := G.X
  have clw := Y.WX.cx.cls
  have nh := Y.WX.nh
  have r6 := hr.mono (show 6 ≤ 9 by decide)
  have r5 := hr.mono (show 5 ≤ 9 by decide)
  have r1 := hr.mono (show 1 ≤ 9 by decide)
  have h8 := bk.h8
  unfold chOut
  cases ed : demE gs dm with
  | some x => exact hb_exprX (ex_fn0 Y.Td r6 (ar_cons (er_v 0 rfl rfl) (ar_cons (er_v 1 rfl rfl) ar_nil)) ⟨gs, ys, dm, ok, rfl, rfl, rfl, by rw [ed]⟩) ⟨_, [], [], rfl, fun _ _ _ h => h, List.Perm.refl _⟩
  | none =>
    refine hb_expr (R := rNon) (er_fA Y.Td r6 (ar_cons (er_v 0 rfl rfl) (ar_cons (er_v 1 rfl rfl) ar_nil)) ⟨gs, ys, dm, ok, rfl, rfl, rfl, by rw [ed]⟩) ?_
    have hsm : ∀ g, small (valQ dm g) := fun g => (valQ_sz ok.ok).mono (by decide)
    have hfo := fo ed
    unfold lpOut
    cases ec : ent (lpH gs ys dm) (fin (lpH gs ys dm)) with
    | some c =>
      exact hb_retX (ex_fG (wc := []) (wc' := []) (w := []) (P := erF N "prices" (rDctU (fsQ R (pxD gs (rv (lpH gs ys dm) (fin (lpH gs ys dm)) c))))) Ts hr (ar_cons (er_v 0 rfl rfl) (ar_cons (er_eq (S := rLst ((List.range ys.length).map fun i => rRat R (hrAt ys i))) (er_lc (xs := ys) (A := rWy W) (B := fun y => rRat R ((y.2.1 : Int) : Rat)) (it_own (er_v 0 rfl rfl) rfl Y.Im Y.Ti r1) (by omega) [("way", 2)] (blkOk_by (N := N_cheapest) (sc := defScope s_cheapest) (by decide +kernel)) (fun _ _ _ _ _ => pg_name (i := 2) nd rfl (Or.inl rfl)) (fun _ _ _ => gew_name) (fun i y hy s2 H2 cc2 cl2 fp2 d2 => er_cm X.Tw r5 (er_gC X.X.gC) (ar_cons (er_fld (er_v 2 rfl rfl) clw nh rfl) ar_nil) pWholeOk) nd) (congrArg rLst range_ys)) (ar_cons (er_v 1 rfl rfl) ar_nil))) ⟨gs, ys, hrAt ys, dm, bk, hsm, hfo, rfl, rfl, by show _ = lpOut N R gs (lpH gs ys dm); unfold lpOut; rw [ec]⟩) ⟨_, [], [], rfl, fun _ _ _ h => h, List.Perm.refl _⟩
    | none =>
      refine hb_retG (eg_fG (wc := []) (w := []) (Φ := fun A w' => ∃ q1 q2, A = rTup [rRat R ((fin (lpH gs ys dm)).g (lpH gs ys dm).N), rRef q1, rRef q2] ∧ w' = [(q1, oL ((List.range (lpH gs ys dm).n).map fun k => rRat R (yv (lpH gs ys dm) (fin (lpH gs ys dm)) k))), (q2, oD (fsQ R (pxD gs (xv (lpH gs ys dm) (fin (lpH gs ys dm))))))]) Ts hr (ar_cons (er_v 0 rfl rfl) (ar_cons (er_eq (S := rLst ((List.range ys.length).map fun i => rRat R (hrAt ys i))) (er_lc (xs := ys) (A := rWy W) (B := fun y => rRat R ((y.2.1 : Int) : Rat)) (it_own (er_v 0 rfl rfl) rfl Y.Im Y.Ti r1) (by omega) [("way", 2)] (blkOk_by (N := N_cheapest) (sc := defScope s_cheapest) (by decide +kernel)) (fun _ _ _ _ _ => pg_name (i := 2) nd rfl (Or.inl rfl)) (fun _ _ _ => gew_name) (fun i y hy s2 H2 cc2 cl2 fp2 d2 => er_cm X.Tw r5 (er_gC X.X.gC) (ar_cons (er_fld (er_v 2 rfl rfl) clw nh rfl) ar_nil) pWholeOk) nd) (congrArg rLst range_ys)) (ar_cons (er_v 1 rfl rfl) ar_nil))) ⟨gs, ys, hrAt ys, dm, bk, hsm, hfo, rfl, rfl, by show _ = lpOut N R gs (lpH gs ys dm); unfold lpOut; rw [ec]⟩) ?_
      rintro A' w2 ⟨w', hA, -, rfl⟩
      exact ⟨_, A', w', [], rfl, hA, fun v G h => h, fun a h => (by cases h), List.Perm.refl _⟩
theorem kf_leasth (Fn : Fun K "least_hours" "least_hours" s_least_hours f fd) (Tc : KfG1 P w K mg base "cheapest" 10 (pCheap C W M N U R)) : FnOk P w K mg base (L2.CX P w) 11 f fd P_least_hours (spM (pLeastH C W M N U R)) := by
  refine fn_ok Fn c_least_hours (fun _ _ _ _ ⟨_, _, _, _, _, _, h, _⟩ => by rw [h]; rfl) ?_
  rintro cdv A outer s H E ⟨_, G0, H0, M', W', tk⟩ hr rfl Rs ω o ω' ⟨gs, ys, dm, bk, ok, fo, rfl, rfl, rfl, rfl⟩
  unfold lhOut
  cases ed : demE gs dm with
  | some x => exact hb_retX (ex_ixX (ex_fG (wc := []) (wc' := []) (w := []) (P := errD M U R x) Tc hr (ar_cons (er_v 0 rfl rfl) (ar_cons (er_v 1 rfl rfl) ar_nil)) ⟨gs, ys, dm, bk, ok, fo, rfl, rfl, by unfold chOut; rw [ed]⟩)) ⟨_, [], rfl, fun _ _ _ h => h, rfl⟩
  | none =>
    dsimp only
    cases ec : ent (lpH gs ys dm) (fin (lpH gs ys dm)) with
    | some c => exact hb_retX (ex_ixX (ex_fG (wc := []) (wc' := []) (w := []) (P := erF N "prices" (rDctU (fsQ R (pxD gs (rv (lpH gs ys dm) (fin (lpH gs ys dm)) c))))) Tc hr (ar_cons (er_v 0 rfl rfl) (ar_cons (er_v 1 rfl rfl) ar_nil)) ⟨gs, ys, dm, bk, ok, fo, rfl, rfl, by unfold chOut lpOut; rw [ed]; dsimp only; rw [ec]⟩)) ⟨_, [], rfl, fun _ _ _ h => h, rfl⟩
    | none =>
      refine hb_retG (eg_ix (Ψ := fun A w => A = rRat R ((fin (lpH gs ys dm)).g (lpH gs ys dm).N)) (eg_fG (wc := []) (w := []) (Φ := fun A w' => ∃ q1 q2, A = rTup [rRat R ((fin (lpH gs ys dm)).g (lpH gs ys dm).N), rRef q1, rRef q2] ∧ w' = [(q1, oL ((List.range (lpH gs ys dm).n).map fun k => rRat R (yv (lpH gs ys dm) (fin (lpH gs ys dm)) k))), (q2, oD (fsQ R (pxD gs (xv (lpH gs ys dm) (fin (lpH gs ys dm))))))]) Tc hr (ar_cons (er_v 0 rfl rfl) (ar_cons (er_v 1 rfl rfl) ar_nil)) ⟨gs, ys, dm, bk, ok, fo, rfl, rfl, by unfold chOut lpOut; rw [ed]; dsimp only; rw [ec]⟩) ?_) ?_
      · rintro A' w2 ⟨w', ⟨q1, q2, rfl, rfl⟩, -, rfl⟩
        exact ⟨rInt 0, _, _, er_int, iop_T (n := 0) rfl rfl, rfl⟩
      · rintro A' w2 rfl
        exact ⟨_, w2, rfl, fun v G h => h, rfl⟩
theorem kf_canmeet (Fn : Fun K "can_meet" "can_meet" s_can_meet f fd) (Tc : KfG1 P w K mg base "cheapest" 10 (pCheap C W M N U R)) (gN : mg "NoPlan" = some (.ref N)) (tNN : PySem.W.exmOne K (.ref N) (.ref N) = some true) (tMN : PySem.W.exmOne K (.ref M) (.ref N) = some false) (tUN : PySem.W.exmOne K (.ref U) (.ref N) = some false) : FnOk P w K mg base (L2.CX P w) 11 f fd P_can_meet (spM (pCanM C W M U R)) := by
  refine fn_ok Fn c_can_meet (fun _ _ _ _ ⟨_, _, _, _, _, _, h, _⟩ => by rw [h]; rfl) ?_
  rintro cdv A outer s H E ⟨_, G0, H0, M', W', tk⟩ hr rfl Rs ω o ω' ⟨gs, ys, dm, bk, ok, fo, rfl, rfl, rfl, rfl⟩
  unfold cmOut
  refine hb_try0 ?_ rfl rfl ⟨rfl, by decide, .inl gN⟩
  rintro ⟨_, G1, H1, M1, W1, tk1⟩ ⟨⟨pn, xe, e, pa⟩, e1, e2, e3⟩
  cases e
  cases ed : demE gs dm with
  | some x =>
    refine hb_exprX (ex_fG (wc := []) (wc' := []) (w := []) (P := errD M U R x) Tc hr (ar_cons (er_v 0 rfl rfl) (ar_cons (er_v 1 rfl rfl) ar_nil)) ⟨gs, ys, dm, bk, ok, fo, rfl, rfl, by unfold chOut; rw [ed]⟩) (Or.inr ⟨fun cls d G h => ?_, _, [], rfl, fun _ _ _ h => h, rfl⟩)
    cases x with
    | inl g => rw [h.1]; exact tUN
    | inr q => rw [h.1]; exact tMN
  | none =>
    dsimp only
    cases ec : ent (lpH gs ys dm) (fin (lpH gs ys dm)) with
    | some c =>
      refine hb_exprX (ex_fG (wc := []) (wc' := []) (w := []) (P := erF N "prices" (rDctU (fsQ R (pxD gs (rv (lpH gs ys dm) (fin (lpH gs ys dm)) c))))) Tc hr (ar_cons (er_v 0 rfl rfl) (ar_cons (er_v 1 rfl rfl) ar_nil)) ⟨gs, ys, dm, bk, ok, fo, rfl, rfl, by unfold chOut lpOut; rw [ed]; dsimp only; rw [ec]⟩) (Or.inl ⟨N, fun cls d G h => h.1, tNN, ?_⟩)
      rintro a d ⟨_, G2, H2, M2, W2, tk2⟩ ⟨⟨oe, pn', e, hz', hd⟩, -, -, -⟩
      cases e
      exact hb_ret er_bl ⟨_, [], rfl, fun v G h => h, rfl⟩
    | none =>
      refine hb_exprG (eg_fG (wc := []) (w := []) (Φ := fun A w' => ∃ q1 q2, A = rTup [rRat R ((fin (lpH gs ys dm)).g (lpH gs ys dm).N), rRef q1, rRef q2] ∧ w' = [(q1, oL ((List.range (lpH gs ys dm).n).map fun k => rRat R (yv (lpH gs ys dm) (fin (lpH gs ys dm)) k))), (q2, oD (fsQ R (pxD gs (xv (lpH gs ys dm) (fin (lpH gs ys dm))))))]) Tc hr (ar_cons (er_v 0 rfl rfl) (ar_cons (er_v 1 rfl rfl) ar_nil)) ⟨gs, ys, dm, bk, ok, fo, rfl, rfl, by unfold chOut lpOut; rw [ed]; dsimp only; rw [ec]⟩) ?_
      rintro A' w2 ⟨w', ⟨q1, q2, rfl, rfl⟩, -, rfl⟩
      exact hb_nil (hb_ret er_bl ⟨_, _, rfl, fun v G h => h, rfl⟩)
end
end W1
set_option maxRecDepth 100000
set_option maxHeartbeats 400000
set_option exponentiation.threshold 20000
namespace W1
open PySem PySem.Spec PyProof.Rows L2 NdefX TL NumText LP
/-! ### numbers over one denominator -/
def Cz (D : Int) (B : Nat) (q : Rat) : Prop := ∃ z : Int, q * (D : Rat) = (z : Rat) ∧ z.natAbs ≤ B
section
variable {D E : Int} {B C : Nat} {p q : Rat}
theorem Cz.mono (h : Cz D B q) (k : B ≤ C) : Cz D C q := by
  obtain ⟨z, a, b⟩ := h
  exact ⟨z, a, Nat.le_trans b k⟩
theorem Cz.add (h : Cz D B p) (k : Cz D C q) : Cz D (B + C) (p + q) := by
  obtain ⟨z, a, b⟩ := h
  obtain ⟨y, c, d⟩ := k
  refine ⟨z + y, ?_, by omega⟩
  rw [Rat.intCast_add, ← a, ← c]
  grind
theorem Cz.neg (h : Cz D B p) : Cz D B (-p) := by
  obtain ⟨z, a, b⟩ := h
  refine ⟨-z, ?_, by omega⟩
  rw [Rat.intCast_neg, ← a]
  grind
theorem Cz.sub (h : Cz D B p) (k : Cz D C q) : Cz D (B + C) (p - q) := by
  have := h.add k.neg
  rw [← Rat.sub_eq_add_neg] at this
  exact this
theorem Cz.mul (h : Cz D B p) (k : Cz E C q) : Cz (D * E) (B * C) (p * q) := by
  obtain ⟨z, a, b⟩ := h
  obtain ⟨y, c, d⟩ := k
  refine ⟨z * y, ?_, by rw [Int.natAbs_mul]; exact Nat.mul_le_mul b d⟩
  rw [Rat.intCast_mul, Rat.intCast_mul, ← a, ← c]
  grind
theorem Cz.int {i : Int} (h : i.natAbs ≤ B) : Cz 1 B (i : Rat) := ⟨i, by rw [show ((1 : Int) : Rat) = 1 from rfl]; grind, h⟩
theorem Cz.one (E : Int) : Cz E E.natAbs 1 := ⟨E, by grind, Nat.le_refl _⟩
theorem Cz.zero : Cz D B 0 := ⟨0, by rw [show ((0 : Int) : Rat) = 0 from rfl]; grind, Nat.zero_le _⟩
theorem Cz.mulI {i : Int} (h : Cz D B p) (k : i.natAbs ≤ C) : Cz D (B * C) (p * (i : Rat)) := by
  have := h.mul (Cz.int k)
  rw [Int.mul_one] at this
  exact this
theorem Cz.up (h : Cz D B p) (E : Int) : Cz (D * E) (B * E.natAbs) p := by
  have := h.mul (Cz.one E)
  rw [show p * 1 = p by grind] at this
  exact this
theorem Cz.upL (h : Cz D B p) (E : Int) : Cz (E * D) (B * E.natAbs) p := by
  rw [Int.mul_comm]
  exact h.up E
theorem Cz.sum {f : Nat → Rat} {n : Nat} (h : ∀ i, i < n → Cz D B (f i)) : ∀ k, k ≤ n → Cz D (k * B) (sumN k f)
  | 0, _ => Cz.zero
  | k + 1, hk => by
    rw [Nat.succ_mul]
    exact (Cz.sum h k (by omega)).add (h k (by omega))
theorem Cz.sz {n : Nat} (h : Cz D B q) (h0 : 0 < D) (h1 : D.natAbs < 2 ^ n) (h2 : B < 2 ^ n) : Sz n q := by
  obtain ⟨z, a, b⟩ := h
  exact frac_small (M := max D.natAbs B) a h0 (Nat.le_max_left _ _) (Nat.le_trans b (Nat.le_max_right _ _)) (Nat.max_lt.mpr ⟨h1, h2⟩)
end
/-! ### sums in another order -/
theorem sumR_snoc2 {l : List Rat} {x : Rat} : sumR (l ++ [x]) = sumR l + x := by
  unfold sumR
  rw [List.foldl_append]
  rfl
theorem sumN_list (f : Nat → Rat) : ∀ n, sumN n f = sumR ((List.range n).map f)
  | 0 => rfl
  | n + 1 => by
    rw [List.range_succ, List.map_append, List.map_cons, List.map_nil, sumR_snoc2, ← sumN_list f n]
    rfl
theorem nm_of {gs : List Str} {g : Str} (h : g ∈ gs) : ∃ j, j < gs.length ∧ nmAt gs j = g := by
  have hl : (srt gs).length = gs.length := (srt_perm gs).length_eq
  obtain ⟨j, hj, e⟩ := List.getElem_of_mem ((srt_perm gs).mem_iff.mpr h)
  refine ⟨j, by omega, ?_⟩
  unfold nmAt
  rw [List.getD_eq_getElem?_getD, List.getElem?_eq_getElem hj]
  exact e
theorem nm_mem {gs : List Str} {j : Nat} (h : j < gs.length) : nmAt gs j ∈ gs := by
  have hl : (srt gs).length = gs.length := (srt_perm gs).length_eq
  exact srt_mem (getD_in (by omega))
/-! ### dicts of prices -/
theorem valQ_in {dm : Dm} (nd : (namesQ dm).Nodup) {p : Str × Rat} (h : p ∈ dm) : valQ dm p.1 = p.2 := by
  induction dm with
  | nil => cases h
  | cons a l ih =>
    have h2 := List.nodup_cons.mp nd
    unfold valQ
    rw [List.find?_cons]
    rcases List.mem_cons.mp h with rfl | h
    · rw [decide_eq_true rfl]
      rfl
    · rw [decide_eq_false (fun z => h2.1 (show a.1 ∈ l.map (·.1) by rw [z]; exact List.mem_map_of_mem (f := (·.1)) h))]
      exact ih h2.2 h
/-! ### a law's book -/
theorem net_ok {gs : List Str} {y : Wy} (h : RowK gs y) (g : Str) : (netW y g).natAbs < 2 ^ 70 := by
  have hv : ∀ {am : Am}, AmI gs am → 0 ≤ valA am g ∧ valA am g ≤ 10 ^ 20 := fun {am} hm => by
    by_cases hg : g ∈ namesA am
    · obtain ⟨p, hp, e⟩ : ∃ p ∈ am, valA am g = p.2 := by
        unfold valA
        cases ef : am.find? fun p => decide (p.1 = g) with
        | some p => exact ⟨p, List.mem_of_find?_eq_some ef, rfl⟩
        | none =>
          obtain ⟨p, hp, e⟩ := List.mem_map.mp hg
          have := List.find?_eq_none.mp ef p hp
          simp [e] at this
      rw [e]
      exact hm.ok p hp
    · rw [(valR_An hg).2]
      decide
  have hk : ∀ {am : Am}, AmI gs am → 0 ≤ valA (keptA am) g ∧ valA (keptA am) g ≤ 10 ^ 20 := fun {am} hm => by
    by_cases hg : g ∈ keptL am
    · have e : valA (keptA am) g = valA am g := by
        have key : ∀ l : List Str, g ∈ l → valA (l.map fun x => (x, valA am x)) g = valA am g := by
          intro l
          induction l with
          | nil => intro h; cases h
          | cons a l ih =>
            intro h
            unfold valA at ih ⊢
            rw [List.map_cons, List.find?_cons]
            by_cases e : a = g
            · rw [decide_eq_true (show (a, _).1 = g from e), ← e]
              rfl
            · rw [decide_eq_false (show ¬ (a, _).1 = g from e)]
              rcases List.mem_cons.mp h with rfl | h
              · exact absurd rfl e
              · exact ih h
        exact key _ hg
      rw [e]
      exact hv hm
    · have : g ∉ namesA (keptA am) := fun z => hg (by
        unfold namesA keptA at z
        rw [List.map_map] at z
        obtain ⟨x, hx, e⟩ := List.mem_map.mp z
        have e : x = g := e
        exact e ▸ hx)
      rw [(valR_An this).2]
      decide
  have h1 := hk h.it
  have h2 := hk h.im
  have e : (2 : Nat) ^ 70 = 1180591620717411303424 := by decide
  have e2 : (10 : Int) ^ 20 = 100000000000000000000 := by decide
  rw [e2] at h1 h2
  rw [e]
  unfold netW
  omega
theorem BkQ.net {gs : List Str} {ys : List Wy} (h : BkQ gs ys) {y : Wy} (hy : y ∈ ys) (g : Str) : (netW y g).natAbs < 2 ^ 70 := net_ok (h.R.row y hy) g
theorem BkQ.hrs {gs : List Str} {ys : List Wy} (h : BkQ gs ys) {y : Wy} (hy : y ∈ ys) : y.2.1.natAbs ≤ 100 := by
  have := (h.R.row y hy).h1
  have := (h.R.row y hy).h2
  omega
theorem BkQ.nm {gs : List Str} {ys : List Wy} (h : BkQ gs ys) : ∀ g ∈ gs, g.length ≤ 640 := fun g hg => menu_len g (h.G.sub g hg)
theorem BkQ.L {gs : List Str} {ys : List Wy} (h : BkQ gs ys) : BkL gs ys := ⟨h.G.nd, h.nm, h.h4, h.R.l8⟩
theorem net_eq {gs : List Str} {ys : List Wy} (h : BkQ gs ys) {y : Wy} (hy : y ∈ ys) (g : Str) : netW y g = valA y.2.2 g - valA y.1 g := by
  have r := h.R.row y hy
  unfold netW
  rw [val_kept (am_chk h.G r.im), val_kept (am_chk h.G r.it)]
theorem rat_num {q : Rat} : q.num < 0 ↔ q < 0 := by rw [← Int.not_le, Rat.num_nonneg, Rat.not_le]
theorem rat_pos {q : Rat} : q.num > 0 ↔ 0 < q := by
  constructor
  · intro h
    rw [← Rat.not_le]
    intro z
    have h1 : 0 ≤ q := Rat.num_nonneg.mp (Int.le_of_lt h)
    have : q = 0 := Rat.le_antisymm z h1
    rw [this] at h
    exact absurd h (by decide)
  · intro h
    have h1 : 0 ≤ q.num := Rat.num_nonneg.mpr (Rat.le_of_lt h)
    rcases Int.lt_or_eq_of_le h1 with z | z
    · exact z
    · have : q = 0 := Rat.num_eq_zero.mp z.symm
      rw [this] at h
      exact absurd h (by decide)
theorem grown_mono {M x y : Nat} (h : x ≤ y) : grown x M ≤ grown y M := by
  induction h with
  | refl => exact Nat.le_refl _
  | step _ ih => exact Nat.le_trans ih (grown_up _)
section
variable {gs : List Str} {ys : List Wy} {dm : Dm}
theorem dat_bk (bk : BkQ gs ys) : DatF (lpH gs ys dm) := by
  refine ⟨⟨fun k i hk hi => ?_, fun i hi => ?_⟩, fun k hk => ?_⟩
  · have hi : i < ys.length := hi
    show (if gs.length + i < gs.length then _ else if gs.length + i < gs.length + ys.length then (if gs.length + i - gs.length = k then (1 : Rat) else 0) else _) = _
    rw [if_neg (by omega), if_pos (by omega), Nat.add_sub_cancel_left]
    by_cases e : i = k
    · rw [if_pos e, if_pos e.symm]
    · rw [if_neg e, if_neg fun z => e z.symm]
  · show (if gs.length + i < gs.length then _ else (0 : Rat)) = 0
    rw [if_neg (by omega)]
  · have hk : k < ys.length := hk
    show 0 ≤ (if gs.length + ys.length < gs.length then _ else if gs.length + ys.length < gs.length + ys.length then _ else hrAt ys k)
    rw [if_neg (by omega), if_neg (by omega)]
    have := (bk.R.row _ (getD_in (d := wy0) hk)).h1
    unfold hrAt
    exact Rat.intCast_nonneg.mpr (by omega)
theorem lp_A {k j : Nat} (hj : j < gs.length) : (lpH gs ys dm).A k j = ((netW (ys.getD k wy0) (nmAt gs j) : Int) : Rat) := if_pos hj
theorem lp_AN {k : Nat} : (lpH gs ys dm).A k (lpH gs ys dm).N = hrAt ys k := by
  show (if gs.length + ys.length < gs.length then _ else if gs.length + ys.length < gs.length + ys.length then _ else hrAt ys k) = _
  rw [if_neg (by omega), if_neg (by omega)]
theorem lp_g {j : Nat} (hj : j < gs.length) : (lpH gs ys dm).g0 j = -valQ dm (nmAt gs j) := if_pos hj
end
end W1
set_option maxRecDepth 100000
set_option maxHeartbeats 400000
set_option exponentiation.threshold 20000
namespace W1
open PySem PySem.Spec PyProof.Rows L2 NdefX TL NumText LP
/-! ### demands over one denominator -/
def TwG (dm : Dm) : Prop := ∃ E : Int, 0 < E ∧ E.natAbs ≤ 2 ^ 10 ∧ ∀ g, Cz E (2 ^ 80) (valQ dm g)
theorem grown4g : grown 4 (2 ^ 80) ≤ 2 ^ 1296 := by decide +kernel
structure PlO (ys : List Wy) (y : Nat → Rat) : Prop where
  nn : ∀ k, k < ys.length → ¬ y k < 0
  cz : ∃ D : Int, 0 < D ∧ D.natAbs ≤ 2 ^ 1310 ∧ ∀ k, k < ys.length → Cz D (2 ^ 1310) (y k)
section
variable {gs : List Str} {ys : List Wy} {dm : Dm}
theorem cd_bkG (bk : BkQ gs ys) (tw : TwG dm) : Cd (lpH gs ys dm) (sh0 (lpH gs ys dm)) (2 ^ 80) := by
  obtain ⟨E, e0, e1, tw⟩ := tw
  refine ⟨E, e0, Nat.le_trans e1 (by decide +kernel), fun i j hi hj => ?_, fun j hj => ?_⟩
  · have hi : i < ys.length := hi
    have hw : ys.getD i wy0 ∈ ys := getD_in hi
    show Cz E (2 ^ 80) (if j < gs.length then ((netW (ys.getD i wy0) (nmAt gs j) : Int) : Rat) else if j < gs.length + ys.length then (if j - gs.length = i then (1 : Rat) else 0) else hrAt ys i)
    split
    · have := (Cz.int (Nat.le_of_lt (bk.net hw (nmAt gs j)))).upL E
      rw [Int.mul_one] at this
      exact this.mono (Nat.le_trans (Nat.mul_le_mul_left _ e1) (by decide +kernel))
    split
    · split
      · exact (Cz.one E).mono (Nat.le_trans e1 (by decide +kernel))
      · exact Cz.zero
    · have := (Cz.int (bk.hrs hw)).upL E
      rw [Int.mul_one] at this
      exact this.mono (Nat.le_trans (Nat.mul_le_mul_left _ e1) (by decide +kernel))
  · show Cz E (2 ^ 80) (if j < gs.length then -valQ dm (nmAt gs j) else 0)
    split
    · exact (tw _).neg
    · exact Cz.zero
theorem fin_bkG (bk : BkQ gs ys) (tw : TwG dm) : FinOk (lpH gs ys dm) := ⟨dat_bk bk, 2 ^ 80, cd_bkG bk tw, Nat.lt_of_le_of_lt (Nat.le_trans (grown_mono bk.h4) grown4g) (by decide +kernel)⟩
theorem yv_plG (bk : BkQ gs ys) (tw : TwG dm) (he : ent (lpH gs ys dm) (fin (lpH gs ys dm)) = none) : PlO ys (yv (lpH gs ys dm) (fin (lpH gs ys dm))) := by
  have df := dat_bk (dm := dm) bk
  obtain ⟨D, d0, d1, -, hg⟩ := (Tab.cd df.ok (cd_bkG bk tw) (fin_ok df).1).mono (Nat.le_trans (grown_mono bk.h4) grown4g)
  refine ⟨fun k hk => Rat.not_lt.mpr (y_nn he hk), D, d0, Nat.le_trans d1 (by decide +kernel), fun k hk => ?_⟩
  have : Cz D (2 ^ 1296) ((fin (lpH gs ys dm)).g (gs.length + k)) := hg _ (by show gs.length + k ≤ gs.length + ys.length; omega)
  exact this.mono (by decide +kernel)
/-! ### books in which every demand can be met -/
structure BkA (gs : List Str) (ys : List Wy) : Prop where
  bk : BkQ gs ys
  one : ∀ g ∈ gs, ∃ y ∈ ys, ∀ g' ∈ gs, netW y g' = if g' = g then 1 else 0
theorem nm_inj (nd : gs.Nodup) {i j : Nat} (hi : i < gs.length) (hj : j < gs.length) (e : nmAt gs i = nmAt gs j) : i = j := by
  have hl : (srt gs).length = gs.length := (srt_perm gs).length_eq
  have nds : (srt gs).Nodup := (srt_perm gs).nodup_iff.mpr nd
  unfold nmAt at e
  rw [List.getD_eq_getElem?_getD, List.getD_eq_getElem?_getD, List.getElem?_eq_getElem (show i < (srt gs).length by omega), List.getElem?_eq_getElem (show j < (srt gs).length by omega)] at e
  exact (List.getElem_inj nds).mp e
theorem stop_leaG {d : Dat} {c : Nat} (h : stp d (fin d) = none) (he : ent d (fin d) = some c) : ∀ i, i < d.n → ¬ 0 < (fin d).T i c := by
  unfold stp at h
  rw [he, Option.bind_some] at h
  have hl : lea d (fin d) c = none := Option.map_eq_none_iff.mp h
  unfold lea at hl
  cases ef : leaF d.N (fin d) c d.n with
  | mk f b =>
    rw [ef] at hl
    have hl : f = none := hl
    subst hl
    exact (leaF_spec d.N (fin d) c d.n).1 b ef
theorem ent_bkA (h : BkA gs ys) : ent (lpH gs ys dm) (fin (lpH gs ys dm)) = none := by
  have df := dat_bk (dm := dm) h.bk
  obtain ⟨tab, feas, stop⟩ := fin_ok df
  cases ec : ent (lpH gs ys dm) (fin (lpH gs ys dm)) with
  | none => rfl
  | some c =>
    exfalso
    obtain ⟨hc, hg, -⟩ := ent_spec ec
    have hl := stop_leaG stop ec
    have z : ∀ j, j < gs.length → rv (lpH gs ys dm) (fin (lpH gs ys dm)) c j = 0 := fun j hj => by
      obtain ⟨y, hy, hn⟩ := h.one _ (nm_mem hj)
      obtain ⟨k, hk, rfl⟩ := List.getElem_of_mem hy
      have hb := r_bars df.ok tab hc hl (k := k) hk
      have ek : ys.getD k wy0 = ys[k] := by rw [List.getD_eq_getElem?_getD, List.getElem?_eq_getElem hk]; rfl
      have e : (sumN (lpH gs ys dm).m fun j => (lpH gs ys dm).A k j * rv (lpH gs ys dm) (fin (lpH gs ys dm)) c j) = 1 * rv (lpH gs ys dm) (fin (lpH gs ys dm)) c j := by
        have e0 : ∀ j', j' < gs.length → (lpH gs ys dm).A k j' = if j' = j then 1 else 0 := fun j' hj' => by
          rw [lp_A hj', ek, hn _ (nm_mem hj')]
          by_cases e : j' = j
          · rw [if_pos e, if_pos (by rw [e])]; rfl
          · rw [if_neg e, if_neg fun z => e (nm_inj h.bk.G.nd hj' hj z)]; rfl
        show (sumN gs.length fun j => (lpH gs ys dm).A k j * rv (lpH gs ys dm) (fin (lpH gs ys dm)) c j) = _
        rw [sumN_one (r := j) hj fun i hi hne => by rw [e0 i hi, if_neg hne]; grind, e0 j hj, if_pos rfl]
      rw [e] at hb
      have := rv_nn hl j
      grind
    have hw := r_worth df.ok tab hc
    rw [sumN_zero (n := (lpH gs ys dm).m) fun j hj => by rw [z j hj]; grind] at hw
    grind
/-! ### the least hours of a demand -/
noncomputable def lhv (gs : List Str) (ys : List Wy) (dm : Dm) : Rat := (fin (lpH gs ys dm)).g (lpH gs ys dm).N
def OptQ (gs : List Str) (ys : List Wy) (dm : Dm) (v : Rat) : Prop := Opt (fun k j => ((netW (ys.getD k wy0) (nmAt gs j) : Int) : Rat)) (fun k => (((ys.getD k wy0).2.1 : Int) : Rat)) (fun j => valQ dm (nmAt gs j)) gs.length ys.length v
theorem opt_lhv (bk : BkQ gs ys) (he : ent (lpH gs ys dm) (fin (lpH gs ys dm)) = none) : OptQ gs ys dm (lhv gs ys dm) :=
  Opt.congr (opt_fin (dat_bk (dm := dm) bk) he) (fun k j _ hj => lp_A hj) (fun k _ => lp_AN) (fun j hj => by rw [lp_g hj]; grind)
theorem lhv_mul {dm' : Dm} {c : Rat} (a : BkA gs ys) (hc : 0 ≤ c) (e : ∀ g ∈ gs, valQ dm' g = c * valQ dm g) : lhv gs ys dm' = c * lhv gs ys dm := by
  have o := Opt.mul hc (opt_lhv (dm := dm) a.bk (ent_bkA a))
  exact Opt.uniq (opt_lhv (dm := dm') a.bk (ent_bkA a)) (Opt.congr o (fun _ _ _ _ => rfl) (fun _ _ => rfl) fun j hj => (e _ (nm_mem hj)).symm)
theorem lhv_add {p q s : Dm} (a : BkA gs ys) (e : ∀ g ∈ gs, valQ s g = valQ p g + valQ q g) : lhv gs ys s ≤ lhv gs ys p + lhv gs ys q :=
  Opt.add (opt_lhv (dm := p) a.bk (ent_bkA a)) (opt_lhv (dm := q) a.bk (ent_bkA a)) (Opt.congr (opt_lhv (dm := s) a.bk (ent_bkA a)) (fun _ _ _ _ => rfl) (fun _ _ => rfl) fun j hj => e _ (nm_mem hj))
theorem lhv_mono {p q : Dm} (a : BkA gs ys) (e : ∀ g ∈ gs, valQ p g ≤ valQ q g) : lhv gs ys p ≤ lhv gs ys q :=
  Opt.mono (opt_lhv (dm := p) a.bk (ent_bkA a)) (opt_lhv (dm := q) a.bk (ent_bkA a)) fun j hj => e _ (nm_mem hj)
theorem lhv_nil (a : BkA gs ys) (e : ∀ g ∈ gs, valQ dm g = 0) : lhv gs ys dm = 0 :=
  Opt.zero (opt_lhv (dm := dm) a.bk (ent_bkA a)) (fun k hk => Rat.intCast_nonneg.mpr (by have := (a.bk.R.row _ (getD_in (d := wy0) hk)).h1; omega)) fun j hj => e _ (nm_mem hj)
theorem lhv_fewer {i : Nat} (hi : i < ys.length) (bk : BkQ gs ys) (he : ent (lpH gs ys dm) (fin (lpH gs ys dm)) = none) (bk' : BkQ gs (ys.eraseIdx i)) (he' : ent (lpH gs (ys.eraseIdx i) dm) (fin (lpH gs (ys.eraseIdx i) dm)) = none) : lhv gs ys dm ≤ lhv gs (ys.eraseIdx i) dm := by
  have o := opt_lhv bk he
  have o' := opt_lhv bk' he'
  obtain ⟨n, hn⟩ : ∃ n, ys.length = n + 1 := ⟨ys.length - 1, by omega⟩
  have hl : (ys.eraseIdx i).length = n := by rw [List.length_eraseIdx, if_pos hi]; omega
  have eg : ∀ k, (ys.eraseIdx i).getD k wy0 = ys.getD (skipN i k) wy0 := fun k => by
    rw [List.getD_eq_getElem?_getD, List.getD_eq_getElem?_getD, List.getElem?_eraseIdx]
    unfold skipN
    split <;> rfl
  unfold OptQ at o o'
  rw [hn] at o
  rw [hl] at o'
  exact Opt.fewer (i := i) (by omega) o (Opt.congr o' (fun k j _ _ => by rw [eg]) (fun k _ => by rw [eg]) fun _ _ => rfl)
theorem lhv_more {y : Wy} (bk : BkQ gs ys) (he : ent (lpH gs ys dm) (fin (lpH gs ys dm)) = none) (bk' : BkQ gs (ys ++ [y])) (he' : ent (lpH gs (ys ++ [y]) dm) (fin (lpH gs (ys ++ [y]) dm)) = none) : lhv gs (ys ++ [y]) dm ≤ lhv gs ys dm := by
  have e : (ys ++ [y]).eraseIdx ys.length = ys := by rw [List.eraseIdx_append_of_length_le (Nat.le_refl _), Nat.sub_self]; simp
  have := lhv_fewer (gs := gs) (ys := ys ++ [y]) (dm := dm) (i := ys.length) (by simp) bk' he' (by rw [e]; exact bk) (by rw [e]; exact he)
  rw [e] at this
  exact this
end
end W1
set_option maxRecDepth 100000
set_option maxHeartbeats 2000000
set_option exponentiation.threshold 20000
namespace W1
open PySem PySem.Spec PyProof.Rows L2 NdefX TL NumText LP
/-! ### plans of any size, over one denominator -/
theorem numR_any {α : Type} {f : α → Rl} {xs : List α} : numR (xs.map f) = xs.zipIdx.map fun p => rTup [rInt (p.2 : Int), f p.1] := by
  unfold numR
  rw [List.zipIdx_map, List.map_map]
  rfl
theorem zipR_map {α β : Type} {f : α → Rl} {g : β → Rl} : ∀ {xs : List α} {ys : List β}, zipR (xs.map f) (ys.map g) = (xs.zip ys).map fun p => rTup [f p.1, g p.2]
  | [], _ => rfl
  | _ :: _, [] => rfl
  | x :: xs, y :: ys => by
    have ih := zipR_map (f := f) (g := g) (xs := xs) (ys := ys)
    unfold zipR at ih ⊢
    rw [List.map_cons, List.map_cons, List.zipWith_cons_cons, List.zip_cons_cons, List.map_cons, ih]
structure PlanOk (gs : List Str) (ys : List Wy) (qs : List Rat) : Prop where
  bk : BkQ gs ys
  len : qs.length = ys.length
  pos : ∀ q ∈ qs, ¬ q < 0
  cz : ∃ D : Int, 0 < D ∧ D.natAbs ≤ 2 ^ 1310 ∧ ∀ q ∈ qs, Cz D (2 ^ 1310) q
section
variable {gs : List Str} {ys : List Wy} {qs : List Rat}
theorem PlanOk.nd (h : PlanOk gs ys qs) : gs.Nodup := h.bk.G.nd
theorem PlanOk.nm (h : PlanOk gs ys qs) : ∀ g ∈ gs, g.length ≤ 640 := h.bk.nm
theorem PlanOk.lg (h : PlanOk gs ys qs) : gs.length ≤ 1000 := Nat.le_trans h.bk.h4 (by decide)
theorem PlanOk.ly (h : PlanOk gs ys qs) : ys.length ≤ 8 := h.bk.R.l8
theorem PlanOk.net (h : PlanOk gs ys qs) : ∀ y ∈ ys, ∀ g, (netW y g).natAbs < 2 ^ 70 := fun y hy g => h.bk.net hy g
theorem PlanOk.hrs (h : PlanOk gs ys qs) : ∀ y ∈ ys, y.2.1.natAbs < 2 ^ 70 := fun y hy => Nat.lt_of_le_of_lt (h.bk.hrs hy) (by decide)
theorem PlanOk.sz (h : PlanOk gs ys qs) : ∀ q ∈ qs, Sz 1400 q := fun q hq => by
  obtain ⟨D, d0, d1, hD⟩ := h.cz
  exact (hD q hq).sz d0 (Nat.lt_of_le_of_lt d1 (by decide +kernel)) (by decide +kernel)
end
theorem PlanOk.e {gs : List Str} {ys : List Wy} {qs : List Rat} (h : PlanOk gs ys qs) : planE ys.length qs = none := by
  unfold planE
  rw [if_pos h.len, List.find?_eq_none.mpr fun x hx => by simpa using h.pos x hx]
  rfl
def lvL (ys : List Wy) (qs : List Rat) (g : Str) : List Rat := qs.zipIdx.map fun p => p.1 * ((netW (ys.getD p.2 wy0) g : Int) : Rat)
def leavesQ (gs : List Str) (ys : List Wy) (qs : List Rat) : Dm := (srt gs).map fun g => (g, sumR (lvL ys qs g))
def hrsL (ys : List Wy) (qs : List Rat) : List Rat := (qs.zip ys).map fun p => p.1 * ((p.2.2.1 : Int) : Rat)
def pLeaves (C W R : Addr) : PreN := fun Rs w O w' => ∃ gs ys b qs, PlanOk gs ys qs ∧ Rs = [rBook C W gs ys, rSeq b (qs.map (rRat R))] ∧ w = [] ∧ w' = [] ∧ O = oD (fsQ R (leavesQ gs ys qs))
def pHours (C W R : Addr) : Pre := fun Rs w o w' => ∃ gs ys b qs, PlanOk gs ys qs ∧ Rs = [rBook C W gs ys, rSeq b (qs.map (rRat R))] ∧ w = [] ∧ w' = [] ∧ o = .ok (rRat R (sumR (hrsL ys qs)))
theorem zipIdx_at {α : Type} {xs : List α} {i : Nat} {p : α × Nat} (h : xs.zipIdx[i]? = some p) : p.2 = i ∧ xs[i]? = some p.1 := by
  rw [List.getElem?_zipIdx] at h
  cases e : xs[i]? with
  | none => rw [e] at h; cases h
  | some a => rw [e] at h; cases h; simp
theorem cz_foldl {D : Int} {B : Nat} : ∀ (l : List Rat) {z : Rat} {B0 : Nat}, (∀ q ∈ l, Cz D B q) → Cz D B0 z → Cz D (B0 + l.length * B) (l.foldl (· + ·) z)
  | [], z, B0, _, hz => by rw [List.length_nil, Nat.zero_mul]; exact hz
  | q :: l, z, B0, h, hz => by
    have := cz_foldl l (fun x hx => h x (List.mem_cons_of_mem _ hx)) (hz.add (h q List.mem_cons_self))
    rw [List.length_cons, Nat.succ_mul, show B0 + (l.length * B + B) = B0 + B + l.length * B by omega]
    exact this
theorem cz_sumR {D : Int} {B n : Nat} {l : List Rat} (h : ∀ q ∈ l, Cz D B q) (hl : l.length ≤ n) : Cz D (n * B) (sumR l) := by
  have := cz_foldl (z := 0) (B0 := 0) l h Cz.zero
  rw [Nat.zero_add] at this
  exact this.mono (Nat.mul_le_mul_right _ hl)
theorem cz_small {D : Int} {l : List Rat} (d0 : 0 < D) (d1 : D.natAbs ≤ 2 ^ 1310) (h : ∀ q ∈ l, Cz D (2 ^ 1310 * 2 ^ 70) q) (hl : l.length ≤ 8) : (∀ q ∈ l, small q) ∧ (∀ k, small (sumR (l.take k))) := by
  refine ⟨fun q hq => (h q hq).sz d0 (Nat.lt_of_le_of_lt d1 (by decide +kernel)) (by decide +kernel), fun k => (cz_sumR (n := 8) (fun q hq => h q (List.mem_of_mem_take hq)) (by rw [List.length_take]; omega)).sz d0 (Nat.lt_of_le_of_lt d1 (by decide +kernel)) (by decide +kernel)⟩
section
variable {gs : List Str} {ys : List Wy} {qs : List Rat}
theorem lv_czG {D : Int} {B : Nat} {g : Str} (bk : BkQ gs ys) (hl : qs.length = ys.length) (h : ∀ q ∈ qs, Cz D B q) : (∀ q ∈ lvL ys qs g, Cz D (B * 2 ^ 70) q) ∧ (lvL ys qs g).length ≤ 8 := by
  have ly := bk.R.l8
  refine ⟨fun q hq => ?_, by unfold lvL; rw [List.length_map, List.length_zipIdx]; omega⟩
  unfold lvL at hq
  obtain ⟨p, hp, rfl⟩ := List.mem_map.mp hq
  obtain ⟨i, hi, ei⟩ := List.mem_iff_getElem.mp hp
  obtain ⟨e1, e2⟩ := zipIdx_at (List.getElem?_eq_some_iff.mpr ⟨hi, ei⟩)
  rw [List.length_zipIdx] at hi
  exact (h _ (List.mem_of_getElem? e2)).mulI (Nat.le_of_lt (bk.net (getD_in (by omega)) g))
theorem lv_ok {g : Str} (h : PlanOk gs ys qs) : (∀ q ∈ lvL ys qs g, small q) ∧ (∀ k, small (sumR ((lvL ys qs g).take k))) := by
  obtain ⟨D, d0, d1, hD⟩ := h.cz
  obtain ⟨a, b⟩ := lv_czG (g := g) h.bk h.len hD
  exact cz_small d0 d1 a b
theorem hrs_ok (h : PlanOk gs ys qs) : (∀ q ∈ hrsL ys qs, small q) ∧ (∀ k, small (sumR ((hrsL ys qs).take k))) := by
  obtain ⟨D, d0, d1, hD⟩ := h.cz
  have hl := h.len
  have ly := h.ly
  refine cz_small d0 d1 (fun q hq => ?_) (by unfold hrsL; rw [List.length_map, List.length_zip]; omega)
  unfold hrsL at hq
  obtain ⟨p, hp, rfl⟩ := List.mem_map.mp hq
  have := List.of_mem_zip hp
  exact (hD _ this.1).mulI (Nat.le_of_lt (h.hrs _ this.2))
theorem namesQ_leaves {gs : List Str} {ys : List Wy} {qs : List Rat} : namesQ (leavesQ gs ys qs) = srt gs := by
  unfold namesQ leavesQ
  rw [List.map_map]
  exact List.map_id' _
theorem leavesQ_sz {g : Str} (h : PlanOk gs ys qs) : small (valQ (leavesQ gs ys qs) g) := by
  rcases mem_valQ (dm := leavesQ gs ys qs) (g := g) with e | ⟨p, hp, _, e⟩
  · rw [e]; exact sz_zero.mono (by decide)
  · rw [e]
    unfold leavesQ at hp
    obtain ⟨x, -, rfl⟩ := List.mem_map.mp hp
    have := (lv_ok (g := x) h).2 (lvL ys qs x).length
    rw [List.take_length] at this
    exact this
end
def meetsB (gs : List Str) (ys : List Wy) (qs : List Rat) (dm : Dm) : Bool := !((srt gs).map fun g => decide (valQ (leavesQ gs ys qs) g < valQ dm g)).any id
def pMeetsG (C W R : Addr) : Pre := fun Rs w o w' => ∃ gs ys b qs dm, PlanOk gs ys qs ∧ DmS dm ∧ demE gs dm = none ∧ Rs = [rBook C W gs ys, rSeq b (qs.map (rRat R)), rDct (fsQ R dm)] ∧ w = [] ∧ w' = [] ∧ o = .ok (rBool (meetsB gs ys qs dm))
section
variable {P : Program} {w : World} {K : PySem.W.Frag} {mg : Str → Option Value} {base : Heap} {W C M R U V f gi : Addr} {fd : FuncData}
theorem kf_leaves (Fn : Fun K "leaves" "leaves" s_leaves f fd) (BX : BookX K mg C) (X : RtX P w K mg base R M) (Tc : Kf1 P w K mg base "check_plan" 6 (pChkP C W M R)) (Tn : Km P w K mg base C "net" 4 (pBNet C W U V)) (Tt : Kf1 P w K mg base "total" 7 (pTotal R)) (en : mg "enumerate" = none) : FnOk P w K mg base (L2.CX P w) 8 f fd P_leaves (spN (pLeaves C W R)) := by
  refine fn_okN Fn c_leaves (fun _ _ _ _ ⟨_, _, _, _, _, h, _⟩ => by rw [h]; rfl) ?_
  rintro cdv A outer s H E ⟨_, G0, H0, M', W', tk⟩ hr rfl Rs ω o ω' ⟨gs, ys, b, qs, pk, rfl, rfl, rfl, rfl⟩
  have nd := c_leaves.nd
  have cl := BX.cx.cls
  have nn := BX.nn
  have r4 := hr.mono (show 4 ≤ 7 by decide)
  have r5 := hr.mono (show 5 ≤ 7 by decide)
  have r6 := hr.mono (show 6 ≤ 7 by decide)
  have lq := pk.len
  have ly := pk.ly
  refine hb_expr (R := rNon) (er_fA Tc r6 (ar_cons (er_v 0 rfl rfl) (ar_cons (er_v 1 rfl rfl) ar_nil)) ⟨gs, ys, b, qs, fun q hq => (pk.sz q hq).mono (by decide), by omega, by omega, rfl, rfl, rfl, by rw [pk.e]⟩) ?_
  refine hb_setNA 2 rfl en_dict fun qf hF => ?_
  refine hb_for (it_tup (er_fld (er_v 0 rfl rfl) cl nn rfl)) (fun k ρ w => w = [(qf, oD (fsQ R (((srt gs).take k).map fun g => (g, sumR (lvL ys qs g)))))] ∧ ∃ z, ρ = [some (rBook C W gs ys), some (rSeq b (qs.map (rRat R))), some (rRef qf), z, none, none]) ⟨rfl, none, rfl⟩ ?_ ?_ (passes_of rfl) (pg_name (i := 3) nd rfl (Or.inr rfl))
  · rintro k ρ w S hS ⟨rfl, z, rfl⟩
    obtain ⟨g, eg, rfl⟩ := map_get hS
    have hg : g ∈ gs := srt_mem (List.mem_of_getElem? eg)
    obtain ⟨t1, t2⟩ := lv_ok (g := g) pk
    have lsr : (srt gs).length = gs.length := (srt_perm gs).length_eq
    refine ⟨_, ge_name, ?_⟩
    refine hb_dput (k := .inr g) (fs := fsQ R (((srt gs).take k).map fun g => (g, sumR (lvL ys qs g)))) (R := rRat R (sumR (lvL ys qs g))) (w3 := []) (er_fA Tt hr (ar_cons (er_eq (S := rSeq true ((lvL ys qs g).map (rRat R))) (er_lc (xs := qs.zipIdx) (A := fun p => rTup [rInt (p.2 : Int), rRat R p.1]) (B := fun p => rRat R (p.1 * ((netW (ys.getD p.2 wy0) g : Int) : Rat))) (by rw [← numR_any]; exact it_enumRq (ar_cons (er_v 1 rfl rfl) ar_nil) rfl en) (by rw [List.length_zipIdx]; omega) [("at", 4), ("ratio", 5)] (blkOk_by (N := N_leaves) (sc := defScope s_leaves) (by decide +kernel))
      (fun _ _ _ _ _ => pg_tup rfl (pgs_cons (pg_name (i := 4) nd rfl (Or.inl rfl)) (pgs_cons (pg_name (i := 5) nd rfl (Or.inl rfl)) pgs_nil))) (fun i p hp => gew_tup2) (fun i p hp s1 H1 cc cl' fp d => ?_) nd) (by unfold lvL; rw [List.map_map]; rfl)) ar_nil) (pTotalOk t1 t2)) (er_v 2 rfl rfl) (er_v 3 rfl rfl) hr ?_ ?_
    · obtain ⟨e1, e2⟩ := zipIdx_at hp
      have hi : p.2 < ys.length := by
        have := (List.getElem?_eq_some_iff.mp e2).1
        omega
      exact er_bin (er_v 5 rfl rfl) (er_cm X.Tw r5 (er_gC X.X.gC) (ar_cons (er_m (R := rInt (netW (ys.getD p.2 wy0) g)) Tn cl r4 (er_v 0 rfl rfl) (ar_cons (er_v 4 rfl rfl) (ar_cons (er_v 3 rfl rfl) ar_nil)) ⟨gs, ys, (p.2 : Int), g, small_nat (by omega), pk.nm g hg, rfl, rfl, rfl, by rw [if_pos ⟨by omega, by omega⟩, if_pos hg]; rfl⟩) ar_nil) pWholeOk) (bop_o X.Tm X.X.cx r5 (pMulOk ((pk.sz _ (List.mem_of_getElem? e2)).mono (by decide)) ((sz_intR (pk.net _ (getD_in hi) g) (by decide)).mono (by decide))))
    · unfold fsQ
      rw [List.length_map, List.length_map, List.length_take]
      have := pk.lg
      exact Nat.le_trans (Nat.min_le_right _ _) (by omega)
    · refine hb_nil ⟨?_, _, rfl⟩
      rw [putKR_new]
      · rw [List.take_add_one, eg]
        unfold fsQ
        rw [List.map_append, List.map_append]
        rfl
      · unfold fsQ
        rw [List.map_map, List.map_map]
        intro hm
        obtain ⟨x, hx, e⟩ := List.mem_map.mp hm
        have e : x = g := Sum.inr.inj e
        subst e
        have nds : (srt gs).Nodup := (srt_perm gs).nodup_iff.mpr pk.nd
        obtain ⟨kl, ek⟩ := List.getElem?_eq_some_iff.mp eg
        obtain ⟨j, hj, ej⟩ := List.mem_iff_getElem.mp hx
        rw [List.length_take] at hj
        rw [List.getElem_take] at ej
        have := (List.getElem_inj nds).mp (ej.trans ek.symm)
        omega
  · rintro ρ w ⟨rfl, z, rfl⟩
    rw [List.length_map, List.take_length]
    exact hb_ret (er_v 2 rfl rfl) ⟨qf, [], fun v G h => h, (fun h => by cases h), rfl⟩
theorem kf_hours (Fn : Fun K "hours_of" "hours_of" s_hours_of f fd) (WX : WayX K mg W) (X : RtX P w K mg base R M) (Tc : Kf1 P w K mg base "check_plan" 6 (pChkP C W M R)) (Im : ItM K C gi) (Ti : IterOk P w K mg base C gi "ways" 1) (Tt : Kf1 P w K mg base "total" 7 (pTotal R)) (zp : mg "zip" = none) : FnOk P w K mg base (L2.CX P w) 8 f fd P_hours_of (spM (pHours C W R)) := by
  refine fn_ok Fn c_hours_of (fun _ _ _ _ ⟨_, _, _, _, _, h, _⟩ => by rw [h]; rfl) ?_
  rintro cdv A outer s H E ⟨_, G0, H0, M', W', tk⟩ hr rfl Rs ω o ω' ⟨gs, ys, b, qs, pk, rfl, rfl, rfl, rfl⟩
  have nd := c_hours_of.nd
  have r5 := hr.mono (show 5 ≤ 7 by decide)
  have r3 := hr.mono (show 3 ≤ 7 by decide)
  have r6 := hr.mono (show 6 ≤ 7 by decide)
  have lq := pk.len
  have ly := pk.ly
  have clw := WX.cx.cls
  have nh := WX.nh
  refine hb_expr (R := rNon) (er_fA Tc r6 (ar_cons (er_v 0 rfl rfl) (ar_cons (er_v 1 rfl rfl) ar_nil)) ⟨gs, ys, b, qs, fun q hq => (pk.sz q hq).mono (by decide), by omega, by omega, rfl, rfl, rfl, by rw [pk.e]⟩) ?_
  obtain ⟨t1, t2⟩ := hrs_ok pk
  refine hb_ret (er_fA Tt hr (ar_cons (er_eq (S := rSeq true ((hrsL ys qs).map (rRat R))) (er_lc (xs := qs.zip ys) (A := fun p => rTup [rRat R p.1, rWy W p.2]) (B := fun p => rRat R (p.1 * ((p.2.2.1 : Int) : Rat))) (by rw [← zipR_map]; exact it_zipO (ar_cons (er_v 1 rfl rfl) (ar_cons (er_v 0 rfl rfl) ar_nil)) rfl (by rw [List.length_map, List.length_map]; exact lq) Im Ti r3 rfl zp) (by rw [List.length_zip]; omega) [("ratio", 2), ("way", 3)] (blkOk_by (N := N_hours_of) (sc := defScope s_hours_of) (by decide +kernel))
      (fun _ _ _ _ _ => pg_tup rfl (pgs_cons (pg_name (i := 2) nd rfl (Or.inl rfl)) (pgs_cons (pg_name (i := 3) nd rfl (Or.inl rfl)) pgs_nil))) (fun i p hp => gew_tup2) (fun i p hp s1 H1 cc cl' fp d => ?_) nd) (by unfold hrsL; rw [List.map_map]; rfl)) ar_nil) (pTotalOk t1 t2)) ⟨_, [], rfl, fun v G h => h, rfl⟩
  have hm := List.of_mem_zip (show (p.1, p.2) ∈ _ from List.mem_of_getElem? hp)
  exact er_bin (er_v 2 rfl rfl) (er_cm X.Tw r5 (er_gC X.X.gC) (ar_cons (er_fld (er_v 3 rfl rfl) clw nh rfl) ar_nil) pWholeOk) (bop_o X.Tm X.X.cx r5 (pMulOk ((pk.sz _ hm.1).mono (by decide)) ((sz_intR (pk.hrs _ hm.2) (by decide)).mono (by decide))))
theorem kf_meetsG (Fn : Fun K "meets" "meets" s_meets f fd) (BX : BookX K mg C) (X : RtX P w K mg base R M) (Td : Kf1 P w K mg base "check_demand" 6 (pChkD C W M U R)) (Ta : Kf1 P w K mg base "amount" 6 (pAmount R)) (Tv : KfN1 P w K mg base "leaves" 8 (pLeaves C W R)) (any : mg "any" = none) : FnOk P w K mg base (L2.CX P w) 9 f fd P_meets (spM (pMeetsG C W R)) := by
  refine fn_ok Fn c_meets (fun _ _ _ _ ⟨_, _, _, _, _, _, _, _, h, _⟩ => by rw [h]; rfl) ?_
  rintro cdv A outer s H E ⟨_, G0, H0, M', W', tk⟩ hr rfl Rs ω o ω' ⟨gs, ys, b, qs, dm, pk, ok, ed, rfl, rfl, rfl, rfl⟩
  have nd := c_meets.nd
  have cl := BX.cx.cls
  have nn := BX.nn
  have h4 := pk.bk.h4
  have r5 := hr.mono (show 5 ≤ 8 by decide)
  have r6 := hr.mono (show 6 ≤ 8 by decide)
  refine hb_setA 3 rfl (er_frz (en_fA Tv hr (ar_cons (er_v 0 rfl rfl) (ar_cons (er_v 1 rfl rfl) ar_nil)) ⟨gs, ys, b, qs, pk, rfl, rfl, rfl, rfl⟩)) ?_
  refine hb_expr (R := rNon) (er_fA Td r6 (ar_cons (er_v 0 rfl rfl) (ar_cons (er_v 2 rfl rfl) ar_nil)) ⟨gs, ys, dm, ok, rfl, rfl, rfl, by rw [ed]⟩) ?_
  refine hb_ret (er_not (er_bA (ar_cons (er_eq (S := rLst (((srt gs).map fun g => decide (valQ (leavesQ gs ys qs) g < valQ dm g)).map rBool)) (er_lc (xs := srt gs) (A := rStr) (B := fun g => rBool (decide (valQ (leavesQ gs ys qs) g < valQ dm g))) (it_tup (er_fld (er_v 0 rfl rfl) cl nn rfl)) (by rw [(srt_perm gs).length_eq]; omega) [("good", 4)] (blkOk_by (N := N_meets) (sc := defScope s_meets) (by decide +kernel)) (fun _ _ _ _ _ => pg_name (i := 4) nd rfl (Or.inl rfl)) (fun i g h => gew_name) (fun i g h s1 H1 cc cl' fp d => ?_) nd) (by rw [List.map_map]; rfl)) ar_nil) any bt_any (cop_any rfl))) ⟨_, [], rfl, fun v G h => h, rfl⟩
  have hg : g ∈ namesQ (leavesQ gs ys qs) := by rw [namesQ_leaves]; exact List.mem_of_getElem? h
  obtain ⟨p, hp, ep, ev, ef⟩ := valQ_mem hg
  have sl := leavesQ_sz pk (g := g)
  exact er_m X.Tu X.X.cx.cls r5 (er_dget (k := .inr g) (er_v 3 rfl rfl) (er_v 4 rfl rfl) isd_frz (R := rRat R (valQ (leavesQ gs ys qs) g)) (by rw [valR_Q, ef, ev]; rfl) r5) (ar_cons (er_fA Ta r6 (ar_cons (er_v 2 rfl rfl) (ar_cons (er_v 4 rfl rfl) ar_nil)) ⟨dm, g, rfl, rfl, rfl, rfl⟩) ar_nil) (pUnderOk sl ((valQ_sz ok.ok).mono (by decide)))
end
end W1
set_option maxRecDepth 100000
set_option maxHeartbeats 4000000
set_option exponentiation.threshold 20000
namespace W1
open PySem PySem.Spec PyProof.Rows L2 NdefX TL NumText
/-! ### the sum of two demands -/
theorem srt_sameQ {xs ys : List Str} (h : xs.Perm ys) : srt xs = srt ys :=
  List.Perm.eq_of_pairwise (le := fun a b => leS a b = true) (fun a b _ _ h1 h2 => leS_anti h1 h2) (srt_pair _) (srt_pair _) (((srt_perm xs).trans h).trans (srt_perm ys).symm)
def kA (dm : Dm) : Am := dm.map fun p => (p.1, 0)
theorem names_kA {dm : Dm} : namesA (kA dm) = namesQ dm := by
  unfold namesA kA namesQ
  rw [List.map_map]
  rfl
theorem keys_put {fs gs : List (Key × Rl)} {k : Key} {R S : Rl} (h : fs.map (·.1) = gs.map (·.1)) : (putKR fs k R).map (·.1) = (putKR gs k S).map (·.1) := by
  have e : ∀ l : List (Key × Rl), (l.any fun kv => decide (kv.1 = k)) = (l.map (·.1)).any fun j => decide (j = k) := fun l => by rw [List.any_map]; rfl
  have e2 : ∀ (l : List (Key × Rl)) (Q : Rl), (l.map fun kv => if kv.1 = k then (kv.1, Q) else kv).map (·.1) = l.map (·.1) := fun l Q => by
    rw [List.map_map]
    apply List.map_congr_left
    intro p _
    show (if p.1 = k then (p.1, Q) else p).1 = p.1
    split <;> rfl
  unfold putKR
  rw [e fs, e gs, h]
  split
  · rw [e2, e2, h]
  · rw [List.map_append, List.map_append, h]
    rfl
theorem keys_merge : ∀ {gs gs' fs fs' : List (Key × Rl)}, fs.map (·.1) = fs'.map (·.1) → gs.map (·.1) = gs'.map (·.1) → (mergeR fs gs).map (·.1) = (mergeR fs' gs').map (·.1)
  | [], [], _, _, h, _ => h
  | (k, R) :: gs, (k', S) :: gs', fs, fs', h, h2 => by
    cases (List.cons.inj h2).1
    exact keys_merge (gs := gs) (gs' := gs') (keys_put h) (List.cons.inj h2).2
  | [], _ :: _, _, _, _, h2 => by cases h2
  | _ :: _, [], _, _, _, h2 => by cases h2
theorem keys_kA {R : Addr} {dm : Dm} : (fsQ R dm).map (·.1) = (fsA (kA dm)).map (·.1) := by
  unfold fsQ fsA kA
  rw [List.map_map, List.map_map, List.map_map]
  rfl
def namesM (a b : Dm) : List Str := namesA (mergeA (mergeA [] (kA a)) (kA b))
theorem kRs_keys {fs gs : List (Key × Rl)} (h : fs.map (·.1) = gs.map (·.1)) : kRs fs = kRs gs := by
  have e : ∀ l : List (Key × Rl), kRs l = (l.map (·.1)).map fun k => rEqV (kV k) := fun l => by unfold kRs; rw [List.map_map]; rfl
  rw [e, e, h]
theorem kRs_M {R : Addr} {a b : Dm} : kRs (mergeR (mergeR [] (fsQ R a)) (fsQ R b)) = (namesM a b).map rStr := by
  rw [kRs_keys (keys_merge (keys_merge (fs := []) (fs' := fsA []) rfl keys_kA) keys_kA), merge_A, merge_A, kRs_A]
  rfl
def namesS (a b : Dm) : List Str := srt (uniq (namesQ a ++ namesQ b))
def sumQ (a b : Dm) : Dm := (namesS a b).map fun g => (g, valQ a g + valQ b g)
theorem namesM_ok {a b : Dm} : (namesM a b).Nodup ∧ srt (namesM a b) = namesS a b := by
  have h1 := names_merge (kA a) [] List.nodup_nil
  have h2 := names_merge (kA b) (mergeA [] (kA a)) h1.1
  refine ⟨h2.1, srt_sameQ ((List.perm_ext_iff_of_nodup h2.1 (uniq_nodup _)).mpr fun x => ?_)⟩
  rw [h2.2, h1.2, names_kA, names_kA, uniq_mem, List.mem_append]
  exact ⟨fun h => h.elim (fun z => z.elim (fun y => by cases y) .inl) .inr, fun h => h.elim (fun z => .inl (.inr z)) .inr⟩
theorem namesS_nd {a b : Dm} : (namesS a b).Nodup := (srt_perm _).nodup_iff.mpr (uniq_nodup _)
theorem namesS_mem {a b : Dm} {g : Str} : g ∈ namesS a b ↔ g ∈ namesQ a ∨ g ∈ namesQ b := by
  unfold namesS
  rw [(srt_perm _).mem_iff, uniq_mem, List.mem_append]
theorem uniq_len : ∀ xs : List Str, (uniq xs).length ≤ xs.length
  | [] => Nat.le_refl _
  | x :: r => by
    have := uniq_len r
    unfold uniq
    split
    · rw [List.length_cons]; omega
    · rw [List.length_cons, List.length_cons]; omega
theorem namesS_len {a b : Dm} : (namesS a b).length ≤ a.length + b.length := by
  unfold namesS
  rw [(srt_perm _).length_eq]
  refine Nat.le_trans (uniq_len _) ?_
  rw [List.length_append]
  unfold namesQ
  rw [List.length_map, List.length_map]
  exact Nat.le_refl _
theorem small_zero : small 0 := by
  refine ⟨?_, ?_⟩ <;> decide
theorem small_valQ {dm : Dm} {g : Str} (h : ∀ p ∈ dm, small p.2) : small (valQ dm g) := by
  rcases mem_valQ (dm := dm) (g := g) with e | ⟨p, hp, _, e⟩
  · rw [e]; exact small_zero
  · rw [e]; exact h p hp
theorem fsQ_dc {R : Addr} {gs : List Str} {v : Str → Rat} (nd : gs.Nodup) : dcR (fun g : Str => (Sum.inr g : Key)) (fun g => rRat R (v g)) gs = fsQ R (gs.map fun g => (g, v g)) := by
  rw [dcR_nodup]
  · unfold fsQ
    rw [List.map_map]
    rfl
  · exact List.pairwise_map.mpr (nd.imp fun hne e => hne (Sum.inr.inj e))
def pSummed (R : Addr) : PreN := fun Rs w O w' => ∃ a b, (∀ p ∈ a, small p.2) ∧ (∀ p ∈ b, small p.2) ∧ a.length ≤ 500 ∧ b.length ≤ 500 ∧ Rs = [rDct (fsQ R a), rDct (fsQ R b)] ∧ w = [] ∧ w' = [] ∧ O = oD (fsQ R (sumQ a b))
section
variable {P : Program} {w : World} {K : PySem.W.Frag} {mg : Str → Option Value} {base : Heap} {W C M R U V f gi : Addr} {fd : FuncData}
theorem kf_summed (Fn : Fun K "summed" "summed" s_summed f fd) (X : RtX P w K mg base R M) (Tm : Kf1 P w K mg base "amount" 6 (pAmount R)) (ls : mg "list" = none) (st : mg "sorted" = none) : FnOk P w K mg base (L2.CX P w) 7 f fd P_summed (spN (pSummed R)) := by
  refine fn_okN Fn c_summed (fun _ _ _ _ ⟨_, _, _, _, _, _, h, _⟩ => by rw [h]; rfl) ?_
  rintro cdv A outer s H E ⟨_, G0, H0, M', W', tk⟩ hr rfl Rs ω o ω' ⟨a, b, ha, hb, la, lb, rfl, rfl, rfl, rfl⟩
  have nd := c_summed.nd
  have f1 : (fsQ R a).length = a.length := List.length_map _
  have f2 : (fsQ R b).length = b.length := List.length_map _
  have r5 := hr.mono (show 5 ≤ 6 by decide)
  obtain ⟨m1, m2⟩ := namesM_ok (a := a) (b := b)
  have ln := namesS_len (a := a) (b := b)
  refine hb_set 2 (w1 := []) (R := rLst ((srt (namesM a b)).map rStr)) (er_bA (As := [rLst ((namesM a b).map rStr)]) (ar_cons ?_ ar_nil) st bt_sorted copA) ?_ nd
  · refine er_eq (R := rLst (kRs (mergeR (mergeR [] (fsQ R a)) (fsQ R b)))) (er_tA (As := [rDct (mergeR (mergeR [] (fsQ R a)) (fsQ R b))]) (ar_cons (er_frz (en_mrg (fun d => er_v 0 rfl rfl) din_frz (fun d => er_v 1 rfl rfl) din_frz (by omega) (by omega))) ar_nil) ls bt_list (cop_listD rfl isd_frz)) (congrArg rLst kRs_M)
  rw [m2]
  unfold sumQ
  rw [← fsQ_dc namesS_nd]
  refine hb_retO (en_dc (xs := namesS a b) (A := rStr) (B := fun g => rRat R (valQ a g + valQ b g)) (kf := fun g => Sum.inr g) (it_lst (er_v 2 rfl rfl)) (by omega) [("good", 3)] (blkOk_by (N := N_summed) (sc := defScope s_summed) (by decide +kernel))
    (fun _ _ _ _ _ => pg_name (i := 3) nd rfl (Or.inl rfl)) (fun i g h => gew_name) (fun i g h s H0 cc cl fp d => er_v 3 rfl rfl) (fun i g h s H0 cc cl fp d => ?_) nd) fun qn hM => ⟨qn, [], fun v G h => h, (fun h => by cases h), rfl⟩
  exact er_bin (er_fA Tm hr (ar_cons (er_v 0 rfl rfl) (ar_cons (er_v 3 rfl rfl) ar_nil)) ⟨a, g, rfl, rfl, rfl, rfl⟩) (er_fA Tm hr (ar_cons (er_v 1 rfl rfl) (ar_cons (er_v 3 rfl rfl) ar_nil)) ⟨b, g, rfl, rfl, rfl, rfl⟩) (bop_o X.Ta X.X.cx r5 (pAddOk (small_valQ ha) (small_valQ hb)))
end
end W1
set_option maxRecDepth 100000
set_option maxHeartbeats 1000000
set_option exponentiation.threshold 20000
namespace W1
open PySem PySem.Spec PyProof.Rows L2 NdefX TL NumText LP
/-! ### dict([(k, v), ..]) of any values, the keys apart -/
def fsP (zs : List (Str × Rl)) : List (Key × Rl) := zs.map fun p => (Sum.inr p.1, p.2)
section
variable {F : Fx} {ρ : Ty} {ω w w1 : Ow} {e : Expr} {pos p0 : Pos} {x : Str}
theorem pairs_vR {H G : Hp} {K : PySem.W.Frag} (sg : Same G H) : ∀ {zs : List (Str × Rl)} {vs : List V}, All2 (zs.map fun p => rTup [rStr p.1, p.2]) vs G → ∃ (ps : List Addr) (kvs : List (Key × V)), vs = ps.map V.ref ∧ Paired (fun p (kv : Key × V) => SqT K H p [kV kv.1, kv.2]) ps kvs ∧ NR (fsP zs) kvs G
  | [], [], _ => ⟨[], [], rfl, .nil, trivial⟩
  | p :: zs, v :: vs, ⟨r1, r2⟩ => by
    obtain ⟨ps, kvs, rfl, h, n⟩ := pairs_vR sg (zs := zs) r2
    obtain ⟨a, us, rfl, h1, h2⟩ := r1
    obtain ⟨u1, u2, rfl, e1, e2⟩ := all2 h2
    cases (show u1 = V.str p.1 from e1)
    exact ⟨a :: ps, (Sum.inr p.1, u2) :: kvs, rfl, .cons (SqT.of (sg _ _ h1)) h, rfl, e2, n⟩
  | [], _ :: _, h => h.elim
  | _ :: _, [], h => h.elim
theorem en_dictPR {zs : List (Str × Rl)} (he : AR F ρ ω [e] [rLst (zs.map fun p => rTup [rStr p.1, p.2])] w1) (nd : (zs.map (·.1)).Nodup) (hg : Gl F.X x) (hm : F.X.mg x = none) (hv : bootBuiltins x = some (.type "dict")) (hn : x ≠ "__name__" := by decide) (hdb : (x == ("__debug__" : Str)) = false := by decide)
    (hc : F.X.calm = true := by rfl) (hs : starEach [e] F.X.env = (false, eval e F.X.env) :: starEach [] F.X.env := by rfl) (hpl : (backTo pos (starEach [] F.X.env)).any (·.1) = false := by rfl) : EN F ρ ω (.Call (.Name x p0) [e] [] pos) (oD (fsP zs)) w1 := fun σ G H at_ sl Q k => by
  refine ew_of (pe_callTy (call_dictP hc) hg hm hv pa_w hn hdb hs hpl) (he σ G H at_ sl _ fun us G1 H1 s1 a1 r1 => ?_)
  obtain ⟨v, rfl, p, vs, rfl, h1, h2⟩ := all1 r1
  obtain ⟨ps, kvs, rfl, h3, h4⟩ := pairs_vR (K := F.X.K) a1.gh h2
  refine ⟨p, ps, kvs, rfl, SqL.of (a1.gh _ _ h1), h3, fun q hq => k q G1 _ (fun hm => a1.mm q hm hq) s1 (a1.own hq ⟨_, rfl, ?_⟩)⟩
  have e : mergeR [] (fsP zs) = fsP zs := merge_nodup (by
    unfold fsP
    rw [List.map_map]
    have : ((zs.map (·.1)).map (Sum.inr : Str → Key)).Nodup := List.pairwise_map.mpr (nd.imp fun hne e => hne (Sum.inr.inj e))
    rw [List.map_map] at this
    exact this)
  have := NR.merge (fs := []) (vs := []) trivial h4
  rw [e] at this
  exact this
end
/-! ### what plans leave, as sums -/
section
variable {gs : List Str} {ys : List Wy} {qs : List Rat} {dm : Dm}
theorem lv_sumN {g : Str} (h : qs.length = ys.length) : sumR (lvL ys qs g) = sumN ys.length fun k => qs.getD k 0 * ((netW (ys.getD k wy0) g : Int) : Rat) := by
  rw [sumN_list]
  congr 1
  unfold lvL
  apply List.ext_getElem
  · simp [h]
  · intro i h1 h2
    simp at h1 h2
    simp [List.getD_eq_getElem?_getD, List.getElem?_eq_getElem h1]
theorem hrs_sumN (h : qs.length = ys.length) : sumR (hrsL ys qs) = sumN ys.length fun k => qs.getD k 0 * (((ys.getD k wy0).2.1 : Int) : Rat) := by
  rw [sumN_list]
  congr 1
  unfold hrsL
  apply List.ext_getElem
  · simp [h]
  · intro i h1 h2
    simp at h1 h2
    simp [List.getD_eq_getElem?_getD, List.getElem?_eq_getElem h2, List.getElem?_eq_getElem (h ▸ h2 : i < qs.length)]
theorem leaves_nd (nd : gs.Nodup) : (namesQ (leavesQ gs ys qs)).Nodup := by
  rw [namesQ_leaves]
  exact (srt_perm gs).nodup_iff.mpr nd
theorem valQ_leaves {g : Str} (nd : gs.Nodup) (hg : g ∈ gs) : valQ (leavesQ gs ys qs) g = sumR (lvL ys qs g) :=
  valQ_in (p := (g, sumR (lvL ys qs g))) (leaves_nd nd) (List.mem_map.mpr ⟨g, (srt_perm gs).mem_iff.mpr hg, rfl⟩)
theorem plan_le (a : BkA gs ys) (pk : PlanOk gs ys qs) (h : ∀ g ∈ gs, valQ dm g ≤ valQ (leavesQ gs ys qs) g) : lhv gs ys dm ≤ sumR (hrsL ys qs) := by
  rw [hrs_sumN pk.len]
  refine Opt.le (opt_lhv (dm := dm) a.bk (ent_bkA a)) (y := fun k => qs.getD k 0) ⟨fun k hk => Rat.not_lt.mp (pk.pos _ (getD_in (by rw [pk.len]; exact hk))), fun j hj => ?_⟩
  have := h _ (nm_mem hj)
  rw [valQ_leaves a.bk.G.nd (nm_mem hj), lv_sumN pk.len] at this
  exact this
noncomputable def toldQ (gs : List Str) (ys : List Wy) (dm : Dm) : List Rat := (List.range ys.length).map (yv (lpH gs ys dm) (fin (lpH gs ys dm)))
theorem toldQ_len : (toldQ gs ys dm).length = ys.length := by unfold toldQ; rw [List.length_map, List.length_range]
theorem toldQ_at {k : Nat} (hk : k < ys.length) : (toldQ gs ys dm).getD k 0 = yv (lpH gs ys dm) (fin (lpH gs ys dm)) k := by
  unfold toldQ
  rw [List.getD_eq_getElem?_getD, List.getElem?_map, List.getElem?_range hk]
  rfl
theorem told_ok (a : BkA gs ys) (tw : TwG dm) : PlanOk gs ys (toldQ gs ys dm) := by
  have pl := yv_plG a.bk tw (ent_bkA a)
  obtain ⟨D, d0, d1, hD⟩ := pl.cz
  refine ⟨a.bk, toldQ_len, fun q hq => ?_, D, d0, d1, fun q hq => ?_⟩
  · obtain ⟨k, hk, rfl⟩ := List.mem_map.mp hq
    exact pl.nn k (List.mem_range.mp hk)
  · obtain ⟨k, hk, rfl⟩ := List.mem_map.mp hq
    exact hD k (List.mem_range.mp hk)
theorem told_hrs (a : BkA gs ys) : sumR (hrsL ys (toldQ gs ys dm)) = lhv gs ys dm := by
  rw [hrs_sumN toldQ_len]
  unfold lhv
  rw [gN_eq (dat_bk (dm := dm) a.bk).ok (fin_ok (dat_bk (dm := dm) a.bk)).1]
  exact sumN_congr fun k hk => by rw [toldQ_at hk, lp_AN]; rfl
theorem told_meets (a : BkA gs ys) : ∀ g ∈ gs, valQ dm g ≤ valQ (leavesQ gs ys (toldQ gs ys dm)) g := fun g hg => by
  obtain ⟨j, hj, rfl⟩ := nm_of hg
  rw [valQ_leaves a.bk.G.nd hg, lv_sumN toldQ_len]
  have := y_meets (dat_bk (dm := dm) a.bk).ok (fin_ok (dat_bk (dm := dm) a.bk)).1 (ent_bkA a) (j := j) hj
  rw [lp_g hj] at this
  have e : (sumN (lpH gs ys dm).n fun k => yv (lpH gs ys dm) (fin (lpH gs ys dm)) k * (lpH gs ys dm).A k j) = sumN ys.length fun k => (toldQ gs ys dm).getD k 0 * ((netW (ys.getD k wy0) (nmAt gs j) : Int) : Rat) := sumN_congr fun k hk => by rw [lp_A hj, toldQ_at hk]
  rw [e] at this
  grind
theorem meetsB_iff : meetsB gs ys qs dm = true ↔ ∀ g ∈ gs, ¬ valQ (leavesQ gs ys qs) g < valQ dm g := by
  unfold meetsB
  rw [Bool.not_eq_true', List.any_eq_false]
  constructor
  · intro h g hg z
    exact h _ (List.mem_map.mpr ⟨g, (srt_perm gs).mem_iff.mpr hg, rfl⟩) (decide_eq_true z)
  · intro h x hx
    obtain ⟨g, hg, rfl⟩ := List.mem_map.mp hx
    exact fun z => h g (srt_mem hg) (of_decide_eq_true z)
/-- what is left, where it is above 0 -/
def posQ (gs : List Str) (d : Dm) : Dm := ((srt gs).filter fun g => decide (0 < valQ d g)).map fun g => (g, valQ d g)
theorem posQ_names (d : Dm) : namesQ (posQ gs d) = (srt gs).filter fun g => decide (0 < valQ d g) := by
  unfold namesQ posQ
  rw [List.map_map]
  exact List.map_id' _
theorem posQ_nd {d : Dm} (nd : gs.Nodup) : (namesQ (posQ gs d)).Nodup := by
  rw [posQ_names]
  exact List.Nodup.sublist List.filter_sublist ((srt_perm gs).nodup_iff.mpr nd)
theorem posQ_val {d : Dm} {g : Str} (nd : gs.Nodup) (hg : g ∈ gs) : valQ (posQ gs d) g = if 0 < valQ d g then valQ d g else 0 := by
  by_cases h : 0 < valQ d g
  · rw [if_pos h]
    exact valQ_in (p := (g, valQ d g)) (posQ_nd nd) (List.mem_map.mpr ⟨g, List.mem_filter.mpr ⟨(srt_perm gs).mem_iff.mpr hg, decide_eq_true h⟩, rfl⟩)
  · rw [if_neg h]
    rcases mem_valQ (dm := posQ gs d) (g := g) with e | ⟨p, hp, e1, -⟩
    · exact e
    · obtain ⟨x, hx, rfl⟩ := List.mem_map.mp hp
      have := of_decide_eq_true (List.mem_filter.mp hx).2
      exact absurd (e1 ▸ this) h
end
end W1
set_option maxRecDepth 100000
set_option maxHeartbeats 1000000
set_option exponentiation.threshold 20000
namespace W1
open PySem PySem.Spec PyProof.Rows L2 NdefX TL NumText LP
theorem fit_ofT {gs : List Str} {ys : List Wy} (h : BkQ gs ys) : FitB gs ys :=
  ⟨bErr_of ⟨h.h0, h.h4⟩ h.G.nd (fun g hg => menu_name g (h.G.sub g hg)) ⟨h.R.l1, h.R.l8⟩ fun y hy => (h.R.row y hy).subg, fun y hy => (h.R.row y hy).g h.G, fun g hg => menu_len g (h.G.sub g hg)⟩
theorem er_or1' {F : Fx} {ρ : Ty} {ω w1 : Ow} {e : Expr} {S : Rl} {pos : Pos} (h : ER F ρ ω e S w1) : ER F ρ ω (.BoolOp .Or [e] pos) S w1 := fun σ G H at_ sl Q q => ew_of (pe_one pe_w) (h σ G H at_ sl Q q)
theorem le_or {p q : Rat} : (decide (p = q) || decide (p < q)) = decide (p ≤ q) := by
  by_cases h : p ≤ q
  · rw [decide_eq_true h, Bool.or_eq_true_iff, decide_eq_true_iff, decide_eq_true_iff]
    by_cases e : p = q
    · exact .inl e
    · exact .inr (by grind)
  · rw [decide_eq_false h, decide_eq_false fun z => h (by rw [z]; exact Rat.le_refl), decide_eq_false fun z => h (Rat.le_of_lt z)]
    rfl
/-- least hours, as the program tells them -/
theorem lh_val {M N U R : Addr} {gs : List Str} {ys : List Wy} {dm : Dm} (ed : demE gs dm = none) (ec : ent (lpH gs ys dm) (fin (lpH gs ys dm)) = none) : lhOut M N U R gs ys dm = .ok (rRat R (lhv gs ys dm)) := by
  unfold lhOut
  rw [ed]
  dsimp only
  rw [ec]
  rfl
theorem cm_val {M U R : Addr} {gs : List Str} {ys : List Wy} {dm : Dm} (ed : demE gs dm = none) : cmOut M U R gs ys dm = .ok (rBool (ent (lpH gs ys dm) (fin (lpH gs ys dm))).isNone) := by
  unfold cmOut
  rw [ed]
/-- a demand of the law's -/
structure DmG (gs : List Str) (dm : Dm) : Prop where
  s : DmS dm
  e : demE gs dm = none
  tw : TwG dm
theorem lhv_sz {gs : List Str} {ys : List Wy} {dm : Dm} (bk : BkQ gs ys) (tw : TwG dm) : Sz 1400 (lhv gs ys dm) := by
  have df := dat_bk (dm := dm) bk
  obtain ⟨D, d0, d1, -, hg⟩ := (Tab.cd df.ok (cd_bkG bk tw) (fin_ok df).1).mono (Nat.le_trans (grown_mono bk.h4) grown4g)
  have : Cz D (2 ^ 1296) (lhv gs ys dm) := hg _ (Nat.le_refl _)
  exact this.sz d0 (Nat.lt_of_le_of_lt d1 (by decide +kernel)) (by decide +kernel)
def pNotMore (R : Addr) : Pre := fun Rs w o w' => ∃ p q : Rat, small p ∧ small q ∧ Rs = [rRat R p, rRat R q] ∧ w = [] ∧ w' = [] ∧ o = .ok (rBool (decide (p ≤ q)))
def pPosit (C W R : Addr) : PreN := fun Rs w O w' => ∃ gs ys qs, PlanOk gs ys qs ∧ Rs = [rBook C W gs ys, rLst (qs.map (rRat R))] ∧ w = [] ∧ w' = [] ∧ O = oD (fsQ R (posQ gs (leavesQ gs ys qs)))
def pWays (C W R : Addr) : Pre := fun Rs w o w' => ∃ q gs ys dm s, BkA gs ys ∧ DmG gs dm ∧ Rs = [rRef q, rLst (gs.map rStr), rLst (ys.map rRw), rBook C W gs ys, rDct (fsQ R dm)] ∧ w = [(q, oPool s)] ∧ w' = [(q, oAny)] ∧ o = .ok (rBool true)
structure WfX (P : Program) (w : World) (K : PySem.W.Frag) (mg : Str → Option Value) (base : Heap) (C W M N N' D U V R : Addr) : Prop where
  X : RtX P w K mg base R M
  BX : BookX K mg C
  Tr : Kf1 P w K mg base "_law_row_of" 3 pRow
  Tbo : Kf1 P w K mg base "_law_book_of" 8 (pBookOf C W M N' D U)
  Tn : Kf1 P w K mg base "_law_not_more" 6 (pNotMore R)
  To : Km P w K mg base C "without" 7 (pBOut C W M N' D U V)
  Tl : Kf1 P w K mg base "least_hours" 11 (pLeastH C W M N U R)
  Tm : Kf1 P w K mg base "can_meet" 11 (pCanM C W M U R)
  len : mg "len" = none
  rg : mg "range" = none
section
variable {P : Program} {w : World} {K : PySem.W.Frag} {mg : Str → Option Value} {base : Heap} {W C M N N' D R U V f gi : Addr} {fd : FuncData}
theorem kf_notmore (Fn : Fun K "_law_not_more" "_law_not_more" s__law_not_more f fd) (X : RtX P w K mg base R M) : FnOk P w K mg base (L2.CX P w) 6 f fd P__law_not_more (spM (pNotMore R)) := by
  refine fn_ok Fn c__law_not_more (fun _ _ _ _ ⟨_, _, _, _, h, _⟩ => by rw [h]; rfl) ?_
  rintro cdv A outer s H E ⟨_, G0, H0, M', W', tk⟩ hr rfl Rs ω o ω' ⟨p, q, sp, sq, rfl, rfl, rfl, rfl⟩
  have cl := X.X.cx.cls
  exact hb_ret (er_eq (er_or (er_cmp (er_v 0 rfl rfl) (er_v 1 rfl rfl) (bop_oE X.Te hr (pEqOk (C := R) (p := p) (q := q)) tyr_ins X.X.nf)) fun _ => er_or1' (er_m X.Tu cl hr (er_v 0 rfl rfl) (ar_cons (er_v 1 rfl rfl) ar_nil) (pUnderOk sp sq))) (by rw [le_or])) ⟨_, [], rfl, fun v G h => h, rfl⟩
theorem kf_posit (Fn : Fun K "_law_positive" "_law_positive" s__law_positive f fd) (X : RtX P w K mg base R M) (Tv : KfN1 P w K mg base "leaves" 8 (pLeaves C W R)) (di : mg "dict" = none) : FnOk P w K mg base (L2.CX P w) 9 f fd P__law_positive (spN (pPosit C W R)) := by
  refine fn_okN Fn c__law_positive (fun _ _ _ _ ⟨_, _, _, _, h, _⟩ => by rw [h]; rfl) ?_
  rintro cdv A outer s H E ⟨_, G0, H0, M', W', tk⟩ hr rfl Rs ω o ω' ⟨gs, ys, qs, pk, rfl, rfl, rfl, rfl⟩
  have nd := c__law_positive.nd
  have cl := X.X.cx.cls
  have nT := X.X.nT
  have r1 := hr.mono (show 1 ≤ 8 by decide)
  have h4 := pk.bk.h4
  have ndg := pk.bk.G.nd
  have hl : (srt gs).length = gs.length := (srt_perm gs).length_eq
  refine hb_setA 2 rfl (er_frz (en_fA Tv hr (ar_cons (er_v 0 rfl rfl) (ar_cons (er_v 1 rfl rfl) ar_nil)) ⟨gs, ys, true, qs, pk, rfl, rfl, rfl, rfl⟩)) ?_
  have eO : fsQ R (posQ gs (leavesQ gs ys qs)) = fsP (((srt gs).filter fun g => decide (0 < valQ (leavesQ gs ys qs) g)).map fun g => (g, rRat R (valQ (leavesQ gs ys qs) g))) := by
    unfold fsQ posQ fsP
    rw [List.map_map, List.map_map]
    rfl
  rw [eO]
  refine hb_retO (en_dictPR (ar_cons (er_eq (er_lcf (xs := srt gs) (A := rStr) (B := fun g => rTup [rStr g, rRat R (valQ (leavesQ gs ys qs) g)]) (p := fun g => decide (0 < valQ (leavesQ gs ys qs) g)) (by rw [← namesQ_leaves (ys := ys) (qs := qs), ← kRs_Qd (R := R)]; exact it_keys (er_v 2 rfl rfl)) (by omega) [("_law_good", 3)] (blkOk_by (N := N__law_positive) (sc := defScope s__law_positive) (by decide +kernel)) (fun _ _ _ _ _ => pg_name (i := 3) nd rfl (Or.inl rfl)) (fun i a h => gew_name) (fun i g h s1 H1 cc cl' fp d => ?_) (fun i g h _ s1 H1 cc cl' fp d => ?_) nd) (by rw [List.map_map]; rfl)) ar_nil) ?_ rfl di bt_dictT) fun qn hM => ⟨qn, [], fun v G h => h, (fun h => by cases h), rfl⟩
  · have hg : g ∈ namesQ (leavesQ gs ys qs) := by rw [namesQ_leaves]; exact List.mem_of_getElem? h
    obtain ⟨p, hp, ep, ev, ef⟩ := valQ_mem hg
    exact tr_to (tr_cmp (er_fld (er_dget (k := .inr g) (er_v 2 rfl rfl) (er_v 3 rfl rfl) isd_frz (R := rRat R (valQ (leavesQ gs ys qs) g)) (by rw [valR_Q, ef, ev]; rfl) r1) cl nT rfl) er_int bop_gt) (decide_eq_decide.mpr rat_pos)
  · have hg : g ∈ namesQ (leavesQ gs ys qs) := by rw [namesQ_leaves]; exact List.mem_of_getElem? h
    obtain ⟨p, hp, ep, ev, ef⟩ := valQ_mem hg
    exact er_tup (ar_cons (er_v 3 rfl rfl) (ar_cons (er_dget (k := .inr g) (er_v 2 rfl rfl) (er_v 3 rfl rfl) isd_frz (R := rRat R (valQ (leavesQ gs ys qs) g)) (by rw [valR_Q, ef, ev]; rfl) r1) ar_nil)) (Nat.le_of_ble_eq_true rfl)
  · rw [List.map_map]
    have := posQ_nd (gs := gs) (d := leavesQ gs ys qs) ndg
    rw [posQ_names] at this
    exact (List.map_id' _).symm ▸ this
theorem kf_ways (Fn : Fun K "_law_ways_fit" "_law_ways_fit" s__law_ways_fit f fd) (Z : WfX P w K mg base C W M N N' D U V R) : FnOk P w K mg base (L2.CX P w) 12 f fd P__law_ways_fit (spM (pWays C W R)) := by
  refine fn_ok Fn c__law_ways_fit (fun _ _ _ _ ⟨_, _, _, _, _, _, _, h, _⟩ => by rw [h]; rfl) ?_
  rintro cdv A outer s0 H E ⟨_, G0, H0, M', Wd, tk⟩ hr rfl Rs ω o ω' ⟨q, gs, ys, dm, s, a, dg, rfl, rfl, rfl, rfl⟩
  have nd := c__law_ways_fit.nd
  have cl := Z.BX.cx.cls
  have r3 := hr.mono (show 3 ≤ 11 by decide)
  have r6 := hr.mono (show 6 ≤ 11 by decide)
  have r7 := hr.mono (show 7 ≤ 11 by decide)
  have r8 := hr.mono (show 8 ≤ 11 by decide)
  have bk := a.bk
  have l1 := bk.R.l1
  have l8 := bk.R.l8
  have h4 := bk.h4
  have ec := ent_bkA (dm := dm) a
  have ln : ∀ {F : Fx} {w : Ow}, Cop F w (.builtin "len") [rLst (ys.map rRw)] (rInt ((ys.length : Nat) : Int)) := fun {F w} => by
    have := cop_lenL (F := F) (ω := w) (Rs := ys.map rRw)
    rw [List.length_map] at this
    exact this
  have sz : ∀ {zs : List Wy}, BkQ gs zs → small (lhv gs zs dm) := fun b => (lhv_sz b dg.tw).mono (by decide)
  refine hb_setA 5 rfl (er_fA Z.Tl hr (ar_cons (er_v 3 rfl rfl) (ar_cons (er_v 4 rfl rfl) ar_nil)) ⟨gs, ys, dm, bk.L, dg.s, fun _ => fin_bkG bk dg.tw, rfl, rfl, rfl, (lh_val dg.e ec).symm⟩) ?_
  refine hb_ifJ (fun ρ w => ∃ z6 s, ρ = [some (rRef q), some (rLst (gs.map rStr)), some (rLst (ys.map rRw)), some (rBook C W gs ys), some (rDct (fsQ R dm)), some (rRat R (lhv gs ys dm)), z6, none, none] ∧ w = [(q, oPool s)]) (tr_cmp (er_bA (ar_cons (er_v 2 rfl rfl) ar_nil) Z.len bt_len ln) er_int bop_lt) (fun hb => ?_) (fun _ => ⟨_, _, rfl, rfl⟩) ?_
  · have h7 : ys.length < 8 := by have := of_decide_eq_true hb; omega
    have bk' : BkQ gs (ys ++ [(rowF gs false s).1]) := ⟨bk.G, bk.h0, bk.h4, by rw [List.length_append]; omega, by rw [List.length_append]; show _ + 1 ≤ 8; omega, mem_snoc bk.R.row (rowK_of bk.h0)⟩
    have a' : BkA gs (ys ++ [(rowF gs false s).1]) := ⟨bk', fun g hg => by obtain ⟨y, hy, h⟩ := a.one g hg; exact ⟨y, List.mem_append_left _ hy, h⟩⟩
    have fit := fit_ofT bk'
    refine hb_setA (w1 := [(q, oPool (rowF gs false s).2)]) 6 rfl (er_fA Z.Tbo r8 (ar_cons (er_v 1 rfl rfl) (ar_cons (er_eq (S := rLst ((ys ++ [(rowF gs false s).1]).map rRw)) (er_bin (er_v 2 rfl rfl) (er_lst (Rs := [rRw (rowF gs false s).1]) (ar_cons (er_f1 0 Z.Tr r3 (ar_cons (er_v 0 rfl rfl) (ar_cons (er_v 1 rfl rfl) (ar_cons er_bl ar_nil))) rfl ⟨q, gs, false, s, bk.h0, by omega, bk.G.nd, rfl, rfl, rfl, rfl⟩) ar_nil) (Nat.le_of_ble_eq_true rfl)) (bop_cat (by rw [List.length_map]; show _ + 1 ≤ _; omega))) (by rw [List.map_append]; rfl)) ar_nil)) ⟨gs, _, fit.bk, fun y hy => (fit.rw y hy).rw, rfl, rfl, rfl, (newB_ok fit).symm⟩) ?_
    exact hb_if (b := false) (tr_not (k := true) (tr_to (tr_val (er_fA Z.Tn r6 (ar_cons (er_fA (R := rRat R (lhv gs (ys ++ [(rowF gs false s).1]) dm)) Z.Tl hr (ar_cons (er_v 6 rfl rfl) (ar_cons (er_v 4 rfl rfl) ar_nil)) ⟨gs, _, dm, bk'.L, dg.s, fun _ => fin_bkG bk' dg.tw, rfl, rfl, rfl, (lh_val dg.e (ent_bkA a')).symm⟩) (ar_cons (er_v 5 rfl rfl) ar_nil)) ⟨_, _, sz bk', sz bk, rfl, rfl, rfl, rfl⟩)) (decide_eq_true (lhv_more bk ec bk' (ent_bkA a'))))) (fun z => Bool.noConfusion z) (fun _ => hb_nil (hb_nil ⟨_, _, rfl, rfl⟩))
  · rintro ρ w ⟨z6, s, rfl, rfl⟩
    refine hb_for (it_rng1 (ar_cons (er_bA (ar_cons (er_v 2 rfl rfl) ar_nil) Z.len bt_len ln) ar_nil) rfl Z.rg (by omega)) (fun k ρ w => ∃ z7 z8, ρ = [some (rRef q), some (rLst (gs.map rStr)), some (rLst (ys.map rRw)), some (rBook C W gs ys), some (rDct (fsQ R dm)), some (rRat R (lhv gs ys dm)), z6, z7, z8] ∧ w = [(q, oPool s)]) ⟨_, _, rfl, rfl⟩ ?_ ?_ (passes_of rfl) (pg_name (i := 7) nd rfl (Or.inl rfl))
    · rintro k ρ w S hS ⟨z7, z8, rfl, rfl⟩
      obtain ⟨hk, rfl⟩ := rng_get hS
      have hk : k < ys.length := by rw [Int.toNat_natCast] at hk; exact hk
      rw [Int.zero_add]
      refine ⟨_, ge_name, ?_⟩
      refine hb_if (b := decide ((ys.length : Int) > 1)) (tr_cmp (er_bA (ar_cons (er_v 2 rfl rfl) ar_nil) Z.len bt_len ln) er_int bop_gt) (fun hb => ?_) (fun _ => hb_nil (hb_nil ⟨_, _, rfl, rfl⟩))
      have h2 : 1 < ys.length := by have := of_decide_eq_true hb; omega
      have hle : (ys.eraseIdx k).length = ys.length - 1 := by rw [List.length_eraseIdx, if_pos hk]
      have bk' : BkQ gs (ys.eraseIdx k) := ⟨bk.G, bk.h0, bk.h4, by omega, by omega, fun y hy => bk.R.row y (List.mem_of_mem_eraseIdx hy)⟩
      have fit := fit_ofT bk
      have fit' : FitB (srt gs) (ys.eraseIdx k) := fit.sub (srt_perm gs) (fun y hy => List.mem_of_mem_eraseIdx hy) (by omega) (by omega)
      refine hb_setA 8 rfl (er_eq (S := rBook C W gs (ys.eraseIdx k)) (er_m (R := rBook C W (srt gs) (ys.eraseIdx k)) Z.To cl r7 (er_v 3 rfl rfl) (ar_cons (er_v 7 rfl rfl) ar_nil) ⟨gs, ys, (k : Int), fit.bk, l8, small_log (Nat.le_trans (show (k : Int).natAbs ≤ 8 by omega) (by decide)), rfl, rfl, rfl, by rw [if_pos ⟨by omega, by omega⟩, if_neg (by omega), Int.toNat_natCast, ← List.eraseIdx_eq_take_drop_succ]; exact (newB_ok fit').symm⟩) book_srt) ?_
      cases ee : ent (lpH gs (ys.eraseIdx k) dm) (fin (lpH gs (ys.eraseIdx k) dm)) with
      | some c => exact hb_if (b := false) (PWR.tr (tr_and (k := false) (m := false) (tr_to (tr_val (er_fA Z.Tm hr (ar_cons (er_v 8 rfl rfl) (ar_cons (er_v 4 rfl rfl) ar_nil)) ⟨gs, _, dm, bk'.L, dg.s, fun _ => fin_bkG bk' dg.tw, rfl, rfl, rfl, (cm_val dg.e).symm⟩)) (by rw [ee]; rfl)) fun z => Bool.noConfusion z)) (fun z => Bool.noConfusion z) (fun _ => hb_nil (hb_nil (hb_nil ⟨_, _, rfl, rfl⟩)))
      | none => exact hb_if (b := false) (PWR.tr (tr_and (k := true) (m := false) (tr_to (tr_val (er_fA Z.Tm hr (ar_cons (er_v 8 rfl rfl) (ar_cons (er_v 4 rfl rfl) ar_nil)) ⟨gs, _, dm, bk'.L, dg.s, fun _ => fin_bkG bk' dg.tw, rfl, rfl, rfl, (cm_val dg.e).symm⟩)) (by rw [ee]; rfl)) fun _ => tr_and1 (tr_not (k := true) (tr_to (tr_val (er_fA Z.Tn r6 (ar_cons (er_v 5 rfl rfl) (ar_cons (er_fA (R := rRat R (lhv gs (ys.eraseIdx k) dm)) Z.Tl hr (ar_cons (er_v 8 rfl rfl) (ar_cons (er_v 4 rfl rfl) ar_nil)) ⟨gs, _, dm, bk'.L, dg.s, fun _ => fin_bkG bk' dg.tw, rfl, rfl, rfl, (lh_val dg.e ee).symm⟩) ar_nil)) ⟨_, _, sz bk, sz bk', rfl, rfl, rfl, rfl⟩)) (decide_eq_true (lhv_fewer hk bk ec bk' ee)))))) (fun z => Bool.noConfusion z) (fun _ => hb_nil (hb_nil (hb_nil ⟨_, _, rfl, rfl⟩)))
    · rintro ρ w ⟨z7, z8, rfl, rfl⟩
      exact hb_any (hb_ret er_bl ⟨_, [], rfl, fun v G h => h, rfl⟩)
end
end W1
set_option maxRecDepth 100000
set_option maxHeartbeats 1000000
set_option exponentiation.threshold 20000
namespace W1
open PySem PySem.Spec PyProof.Rows L2 NdefX TL NumText LP
/-! ### the law's demands -/
structure DmV (gs : List Str) (n : Nat) (dm : Dm) : Prop where
  u : DmU n dm
  t : ∀ p ∈ dm, Cz 12 (2 ^ 10) p.2
  sub : ∀ p ∈ dm, p.1 ∈ gs
  nn : ∀ p ∈ dm, 0 ≤ p.2
theorem DmV.put {gs : List Str} {n : Nat} {dm : Dm} {k : Str} {v : Rat} (h : DmV gs n dm) (hv : Sz 100 v) (hk : k.length ≤ 640) (hc : Cz 12 (2 ^ 10) v) (hg : k ∈ gs) (h0 : 0 ≤ v) : DmV gs (n + 1) (putQ dm k v) := by
  have key : ∀ p ∈ putQ dm k v, Cz 12 (2 ^ 10) p.2 ∧ p.1 ∈ gs ∧ 0 ≤ p.2 := fun p hp => by
    unfold putQ at hp
    split at hp
    · obtain ⟨q, hq, rfl⟩ := List.mem_map.mp hp
      split
      · rename_i e
        exact ⟨hc, h.sub q hq, h0⟩
      · exact ⟨h.t q hq, h.sub q hq, h.nn q hq⟩
    · rcases List.mem_append.mp hp with hp | hp
      · exact ⟨h.t p hp, h.sub p hp, h.nn p hp⟩
      · rw [List.mem_singleton.mp hp]; exact ⟨hc, hg, h0⟩
  exact ⟨h.u.put hv hk, fun p hp => (key p hp).1, fun p hp => (key p hp).2.1, fun p hp => (key p hp).2.2⟩
theorem DmV.mono {gs : List Str} {m n : Nat} {dm : Dm} (h : DmV gs m dm) (l : m ≤ n) : DmV gs n dm := ⟨h.u.mono l, h.t, h.sub, h.nn⟩
theorem cz_drawn {t u : Int} (h1 : t.natAbs ≤ 20) (h2 : 1 ≤ u ∧ u ≤ 4) : Cz 12 (2 ^ 10) (Rat.divInt t u) := by
  obtain ⟨v, hv, hl⟩ : ∃ v : Int, u * v = 12 ∧ v.natAbs ≤ 12 := by
    rcases (show u = 1 ∨ u = 2 ∨ u = 3 ∨ u = 4 by omega) with rfl | rfl | rfl | rfl
    · exact ⟨12, by decide, by decide⟩
    · exact ⟨6, by decide, by decide⟩
    · exact ⟨4, by decide, by decide⟩
    · exact ⟨3, by decide, by decide⟩
  refine ⟨t * v, ?_, ?_⟩
  · have hu : (u : Rat) ≠ 0 := by
      intro e
      have : u = 0 := by exact_mod_cast e
      omega
    rw [Rat.divInt_eq_div, ← hv, Rat.intCast_mul, Rat.intCast_mul]
    grind
  · rw [Int.natAbs_mul]
    exact Nat.le_trans (Nat.mul_le_mul h1 hl) (by decide)
theorem nn_drawn {t u : Int} (h1 : 0 ≤ t) (h2 : 1 ≤ u) : 0 ≤ Rat.divInt t u := by
  rw [Rat.divInt_eq_div]
  exact div_nn (Rat.intCast_nonneg.mpr h1) (Rat.intCast_nonneg.mpr (by omega))
theorem cz_div {t u : Int} (h : 1 ≤ u) : Cz u t.natAbs (Rat.divInt t u) := by
  refine ⟨t, ?_, Nat.le_refl _⟩
  have hu : (u : Rat) ≠ 0 := by
    intro e
    have : u = 0 := by exact_mod_cast e
    omega
  rw [Rat.divInt_eq_div]
  grind
theorem demE_of {gs : List Str} {dm : Dm} (h1 : ∀ g ∈ namesQ dm, g ∈ gs) (h2 : ∀ g, ¬ valQ dm g < 0) : demE gs dm = none := by
  have key : ∀ l : List Str, (∀ g ∈ l, g ∈ gs) → dmE gs dm l = none := by
    intro l
    induction l with
    | nil => intro _; rfl
    | cons a l ih =>
      intro h
      unfold dmE
      rw [if_pos (h a List.mem_cons_self), if_neg (h2 a)]
      exact ih fun g hg => h g (List.mem_cons_of_mem _ hg)
  exact key _ fun g hg => h1 g (srt_mem hg)
theorem valQ_all {Φ : Rat → Prop} {dm : Dm} (h0 : Φ 0) (h : ∀ p ∈ dm, Φ p.2) (g : Str) : Φ (valQ dm g) := by
  rcases mem_valQ (dm := dm) (g := g) with e | ⟨p, hp, _, e⟩
  · rw [e]; exact h0
  · rw [e]; exact h p hp
theorem DmV.G {gs : List Str} {n : Nat} {dm : Dm} (h : DmV gs n dm) (l : n ≤ 60) : DmG gs dm :=
  ⟨h.u.s l, demE_of (fun g hg => by obtain ⟨p, hp, rfl⟩ := List.mem_map.mp hg; exact h.sub p hp) fun g => Rat.not_lt.mpr (valQ_all (Φ := fun q => 0 ≤ q) Rat.le_refl h.nn g), 12, by decide, by decide, fun g => (valQ_all (Φ := Cz 12 (2 ^ 10)) Cz.zero h.t g).mono (by decide +kernel)⟩
/-- a demand from its names and numbers -/
theorem DmG.of {gs : List Str} {dm : Dm} {E : Int} (nd : (namesQ dm).Nodup) (ln : dm.length ≤ 60) (nm : ∀ g ∈ gs, g.length ≤ 640) (sub : ∀ p ∈ dm, p.1 ∈ gs) (nn : ∀ p ∈ dm, 0 ≤ p.2) (e0 : 0 < E) (e1 : E.natAbs ≤ 2 ^ 10) (cz : ∀ p ∈ dm, Cz E (2 ^ 80) p.2) : DmG gs dm := by
  have hs : ∀ g ∈ namesQ dm, g ∈ gs := fun g hg => by obtain ⟨p, hp, rfl⟩ := List.mem_map.mp hg; exact sub p hp
  exact ⟨⟨⟨nd, fun p hp => (cz p hp).sz e0 (Nat.lt_of_le_of_lt e1 (by decide)) (by decide +kernel), ln⟩, fun g hg => nm g (hs g hg)⟩, demE_of hs fun g => Rat.not_lt.mpr (valQ_all (Φ := fun q => 0 ≤ q) Rat.le_refl nn g), E, e0, e1, valQ_all Cz.zero cz⟩
/-- so many times a demand -/
def sclQ (c : Rat) (dm : Dm) : Dm := (namesQ dm).map fun g => (g, c * valQ dm g)
theorem sclQ_names {c : Rat} {dm : Dm} : namesQ (sclQ c dm) = namesQ dm := by
  show ((namesQ dm).map fun g => (g, c * valQ dm g)).map (·.1) = namesQ dm
  rw [List.map_map]
  exact List.map_id' _
theorem sclQ_val {c : Rat} {dm : Dm} (nd : (namesQ dm).Nodup) (g : Str) : valQ (sclQ c dm) g = c * valQ dm g := by
  by_cases hg : g ∈ namesQ dm
  · exact valQ_in (p := (g, c * valQ dm g)) (by rw [sclQ_names]; exact nd) (List.mem_map.mpr ⟨g, hg, rfl⟩)
  · have h0 : valQ dm g = 0 := by
      rcases mem_valQ (dm := dm) (g := g) with e | ⟨p, hp, e1, -⟩
      · exact e
      · exact absurd (List.mem_map.mpr ⟨p, hp, e1⟩) hg
    rw [h0]
    rcases mem_valQ (dm := sclQ c dm) (g := g) with e | ⟨p, hp, e1, -⟩
    · rw [e]; grind
    · exact absurd (by rw [← sclQ_names (c := c)]; exact List.mem_map.mpr ⟨p, hp, e1⟩) hg
theorem DmV.scl {gs : List Str} {n : Nat} {dm : Dm} {t u : Int} (h : DmV gs n dm) (l : n ≤ 60) (nm : ∀ g ∈ gs, g.length ≤ 640) (ht : 0 ≤ t ∧ t ≤ 20) (hu : 1 ≤ u ∧ u ≤ 20) : DmG gs (sclQ (Rat.divInt t u) dm) := by
  have ndm := h.u.ok.nd
  refine DmG.of (E := u * 12) (by rw [sclQ_names]; exact ndm) ?_ nm (fun p hp => ?_) (fun p hp => ?_) (by omega) ?_ fun p hp => ?_
  · show ((namesQ dm).map fun g => (g, Rat.divInt t u * valQ dm g)).length ≤ 60
    unfold namesQ
    rw [List.length_map, List.length_map]
    have := h.u.ok.ln
    omega
  · obtain ⟨g, hg, rfl⟩ := List.mem_map.mp hp
    obtain ⟨q, hq, rfl⟩ := List.mem_map.mp hg
    exact h.sub q hq
  · obtain ⟨g, hg, rfl⟩ := List.mem_map.mp hp
    exact Rat.mul_nonneg (nn_drawn ht.1 hu.1) (valQ_all (Φ := fun q => 0 ≤ q) Rat.le_refl h.nn g)
  · rw [Int.natAbs_mul]
    exact Nat.le_trans (Nat.mul_le_mul (show u.natAbs ≤ 20 by omega) (Nat.le_refl _)) (by decide)
  · obtain ⟨g, hg, rfl⟩ := List.mem_map.mp hp
    exact ((cz_div hu.1).mul (valQ_all (Φ := Cz 12 (2 ^ 10)) Cz.zero h.t g)).mono (Nat.le_trans (Nat.mul_le_mul (show t.natAbs ≤ 20 by omega) (Nat.le_refl _)) (by decide +kernel))
theorem sumQ_val {p q : Dm} (g : Str) : valQ (sumQ p q) g = valQ p g + valQ q g := by
  have nds : (namesQ (sumQ p q)).Nodup := by
    have e : namesQ (sumQ p q) = namesS p q := by unfold namesQ sumQ; rw [List.map_map]; exact List.map_id' _
    rw [e]; exact namesS_nd
  by_cases hg : g ∈ namesS p q
  · exact valQ_in (p := (g, valQ p g + valQ q g)) nds (List.mem_map.mpr ⟨g, hg, rfl⟩)
  · have z : ∀ d : Dm, g ∉ namesQ d → valQ d g = 0 := fun d h => by
      rcases mem_valQ (dm := d) (g := g) with e | ⟨x, hx, e1, -⟩
      · exact e
      · exact absurd (List.mem_map.mpr ⟨x, hx, e1⟩) h
    rw [z p fun h => hg (namesS_mem.mpr (.inl h)), z q fun h => hg (namesS_mem.mpr (.inr h)), z (sumQ p q) fun h => hg (by
      have e : namesQ (sumQ p q) = namesS p q := by unfold namesQ sumQ; rw [List.map_map]; exact List.map_id' _
      rw [← e]; exact h)]
    grind
theorem DmV.sum {gs : List Str} {n : Nat} {p q : Dm} (hp : DmV gs n p) (hq : DmV gs n q) (l : n ≤ 30) (nm : ∀ g ∈ gs, g.length ≤ 640) : DmG gs (sumQ p q) := by
  have e : namesQ (sumQ p q) = namesS p q := by unfold namesQ sumQ; rw [List.map_map]; exact List.map_id' _
  have ln := namesS_len (a := p) (b := q)
  refine DmG.of (E := 12) (by rw [e]; exact namesS_nd) ?_ nm (fun x hx => ?_) (fun x hx => ?_) (by decide) (by decide) fun x hx => ?_
  · unfold sumQ
    rw [List.length_map]
    have := hp.u.ok.ln
    have := hq.u.ok.ln
    omega
  · obtain ⟨g, hg, rfl⟩ := List.mem_map.mp hx
    rcases namesS_mem.mp hg with h | h
    · obtain ⟨y, hy, rfl⟩ := List.mem_map.mp h; exact hp.sub y hy
    · obtain ⟨y, hy, rfl⟩ := List.mem_map.mp h; exact hq.sub y hy
  · obtain ⟨g, hg, rfl⟩ := List.mem_map.mp hx
    have := valQ_all (Φ := fun q => 0 ≤ q) Rat.le_refl hp.nn g
    have := valQ_all (Φ := fun q => 0 ≤ q) Rat.le_refl hq.nn g
    show 0 ≤ valQ p g + valQ q g
    grind
  · obtain ⟨g, hg, rfl⟩ := List.mem_map.mp hx
    exact ((valQ_all (Φ := Cz 12 (2 ^ 10)) Cz.zero hp.t g).add (valQ_all (Φ := Cz 12 (2 ^ 10)) Cz.zero hq.t g)).mono (by decide +kernel)
/-- a drawn plan -/
structure QsV (ys : List Wy) (qs : List Rat) : Prop where
  len : qs.length = ys.length
  nn : ∀ q ∈ qs, 0 ≤ q
  cz : ∀ q ∈ qs, Cz 2 (2 ^ 3) q
theorem cz_half {t u : Int} (h1 : t.natAbs ≤ 3) (h2 : 1 ≤ u ∧ u ≤ 2) : Cz 2 (2 ^ 3) (Rat.divInt t u) := by
  rcases (show u = 1 ∨ u = 2 by omega) with rfl | rfl
  · have := (cz_div (t := t) (u := 1) (by decide)).up 2
    exact this.mono (Nat.le_trans (Nat.mul_le_mul h1 (Nat.le_refl _)) (by decide))
  · exact (cz_div (t := t) (u := 2) (by decide)).mono (Nat.le_trans h1 (by decide))
theorem QsV.pk {gs : List Str} {ys : List Wy} {qs : List Rat} (h : QsV ys qs) (bk : BkQ gs ys) : PlanOk gs ys qs :=
  ⟨bk, h.len, fun q hq => Rat.not_lt.mpr (h.nn q hq), 2, by decide, by decide +kernel, fun q hq => (h.cz q hq).mono (by decide +kernel)⟩
theorem QsV.pos {gs : List Str} {ys : List Wy} {qs : List Rat} (h : QsV ys qs) (bk : BkQ gs ys) : DmG gs (posQ gs (leavesQ gs ys qs)) := by
  have hl : (srt gs).length = gs.length := (srt_perm gs).length_eq
  have h4 := bk.h4
  refine DmG.of (E := 2) (posQ_nd bk.G.nd) ?_ bk.nm (fun p hp => ?_) (fun p hp => ?_) (by decide) (by decide) fun p hp => ?_
  · unfold posQ
    rw [List.length_map]
    exact Nat.le_trans (List.length_filter_le _ _) (by omega)
  · obtain ⟨g, hg, rfl⟩ := List.mem_map.mp hp
    exact srt_mem (List.mem_filter.mp hg).1
  · obtain ⟨g, hg, rfl⟩ := List.mem_map.mp hp
    exact Rat.le_of_lt (of_decide_eq_true (List.mem_filter.mp hg).2)
  · obtain ⟨g, hg, rfl⟩ := List.mem_map.mp hp
    show Cz 2 (2 ^ 80) (valQ (leavesQ gs ys qs) g)
    rw [valQ_leaves bk.G.nd (srt_mem (List.mem_filter.mp hg).1)]
    obtain ⟨a, b⟩ := lv_czG (g := g) bk h.len h.cz
    exact (cz_sumR (n := 8) a b).mono (by decide +kernel)
theorem nil_G {gs : List Str} (nm : ∀ g ∈ gs, g.length ≤ 640) : DmG gs [] := DmG.of (E := 1) List.nodup_nil (by decide) nm (fun _ h => by cases h) (fun _ h => by cases h) (by decide) (by decide) fun _ h => by cases h
def oDemV (R : Addr) (gs : List Str) (n : Nat) : Ol := oEx fun dm : { dm : Dm // DmV gs n dm } => oD (fsQ R dm.1)
def rDemV (R : Addr) (gs : List Str) (n : Nat) : Rl := rEx fun dm : { dm : Dm // DmV gs n dm } => rDct (fsQ R dm.1)
def pDemV (R : Addr) : PreN := fun Rs w O w' => ∃ (q : Addr) (gs : List Str) (s : Pool), gs.length ≤ 4 ∧ (∀ g ∈ gs, g.length ≤ 640) ∧ Rs = [rRef q, rLst (gs.map rStr)] ∧ w = [(q, oPool s)] ∧ w' = [(q, oAny)] ∧ O = oDemV R gs 4
section
variable {F : Fx} {ρ : Ty} {ω w1 : Ow} {e : Expr} {α : Type} {f : α → List (Key × Rl)}
/-- a new dict of which more is not known, frozen -/
theorem er_frzE (h : EN F ρ ω e (oEx fun a => oD (f a)) w1) : ER F ρ ω e (rEx fun a => rDct (f a)) w1 := fun σ G H at_ sl Q z =>
  ew_lock (h σ G H at_ sl _ fun q G2 H2 hM s2 a2 => by
    obtain ⟨hg0, _, o, h1, a, vs, rfl, h2⟩ := a2.ow _ List.mem_cons_self
    refine ⟨q, _, rfl, h1, True.intro, fun od => ?_⟩
    have sg : Same G2 (upd G2 q (.frz od (.dK vs))) := fun b u e => by rw [upd_ne (ne_of_none e hg0)]; exact e
    exact z _ _ _ (s2.trans sg) (a2.pubF (od := od) h1 (At.own0 a2 hM)) ⟨a, q, od, vs, rfl, upd_same, h2.up sg⟩)
end
section
variable {P : Program} {w : World} {K : PySem.W.Frag} {mg : Str → Option Value} {base : Heap} {W C M R U V f gi : Addr} {fd : FuncData}
theorem kf_demV (Fn : Fun K "_law_demand_of" "_law_demand_of" s__law_demand_of f fd) (X : RtX P w K mg base R M) (Td : Kf1 P w K mg base "_law_draw" 1 pDraw) : FnOk P w K mg base (L2.CX P w) 5 f fd P__law_demand_of (spN (pDemV R)) := by
  refine fn_okN Fn c__law_demand_of (fun _ _ _ _ ⟨_, _, _, _, _, h, _⟩ => by rw [h]; rfl) ?_
  rintro cdv A outer s0 H E ⟨_, G0, H0, M', Wx, tk⟩ hr rfl Rs ω o ω' ⟨q, gs, s, hl, hn, rfl, rfl, rfl, rfl⟩
  have nd := c__law_demand_of.nd
  have r1 := hr.mono (show 1 ≤ 4 by decide)
  refine hb_setNA 2 rfl en_dict fun qd hqd => ?_
  refine hb_for (it_lst (er_v 1 rfl rfl)) (fun k ρ w => ∃ dm s z, DmV gs k dm ∧ ρ = [some (rRef q), some (rLst (gs.map rStr)), some (rRef qd), z] ∧ w = [(qd, oD (fsQ R dm)), (q, oPool s)]) ⟨[], s, none, ⟨⟨DmOk.nil, fun _ h => (by cases h)⟩, fun _ h => (by cases h), fun _ h => (by cases h), fun _ h => (by cases h)⟩, rfl, rfl⟩ ?_ ?_ (passes_of rfl) (pg_name (i := 3) nd rfl (Or.inl rfl))
  · rintro k ρ w S hS ⟨dm, s, z, ok, rfl, rfl⟩
    obtain ⟨g, eg, rfl⟩ := map_get hS
    have hk := (List.getElem?_eq_some_iff.mp eg).1
    have ln := ok.u.ok.ln
    refine ⟨_, ge_name, ?_⟩
    refine hb_if (tr_cmp (er_f1 1 Td r1 (ar_cons (er_v 0 rfl rfl) (ar_cons er_int ar_nil)) rfl (drawOk (s := s) (L := 3) (by decide) (by decide))) er_int bop_gt) (fun _ => ?_) (fun _ => hb_nil (hb_nil ⟨dm, _, _, ok.mono (Nat.le_succ _), rfl, rfl⟩))
    generalize drS s 3 = s2
    have d6 := drR_lt (s := s2) (L := 6) (by decide)
    have d4 := drR_lt (s := drS s2 6) (L := 4) (by decide)
    refine hb_dput (k := .inr g) (fs := fsQ R dm) (w3 := [(q, oPool (drS (drS s2 6) 4))]) (R := rRat R (Rat.divInt (drR s2 6) (1 + drR (drS s2 6) 4))) (er_ratio X.Tq hr (ar_cons (er_f1 1 Td r1 (ar_cons (er_v 0 rfl rfl) (ar_cons er_int ar_nil)) rfl (drawOk (s := s2) (L := 6) (by decide) (by decide))) (ar_cons (er_bin er_int (er_f1 1 Td r1 (ar_cons (er_v 0 rfl rfl) (ar_cons er_int ar_nil)) rfl (drawOk (s := drS s2 6) (L := 4) (by decide) (by decide))) bop_add) ar_nil)) rfl (by omega) (lt9 (by omega))) (er_v 2 rfl rfl) (er_v 3 rfl rfl) hr (by rw [len_fsQ]; omega) ?_
    refine hb_nil (hb_nil ⟨putQ dm g (Rat.divInt (drR s2 6) (1 + drR (drS s2 6) 4)), drS (drS s2 6) 4, _, ok.put (sz_drawn (by omega) (by omega)) (hn g (List.mem_of_getElem? eg)) (cz_drawn (by omega) (by omega)) (List.mem_of_getElem? eg) (nn_drawn (by omega) (by omega)), rfl, ?_⟩)
    rw [putK_Q]
  · rintro ρ w ⟨dm, s, z, ok, rfl, rfl⟩
    rw [List.length_map] at ok
    refine hb_nd fun hnd => ?_
    have hq : qd ≠ q := fun z => (List.nodup_cons.mp hnd).1 (by rw [z]; exact List.mem_cons_self)
    refine hb_weakO (O' := oDemV R gs 4) (fun o G h => ⟨⟨dm, ok.mono hl⟩, h⟩) (hb_perm (List.Perm.swap _ _ _) (hb_any (hb_perm (List.Perm.swap _ _ _) (hb_ret (er_v 2 rfl rfl) ⟨qd, [], fun _ _ h => h, fun hm => hq (List.mem_singleton.mp hm), rfl⟩))))
end
end W1
set_option maxRecDepth 100000
set_option maxHeartbeats 8000000
set_option exponentiation.threshold 20000
namespace W1
open PySem PySem.Spec PyProof.Rows L2 NdefX TL NumText LP
theorem cut_memT {xs : List V} {lo hi : Option Int} {x : V} (h : x ∈ cutV xs lo hi) : x ∈ xs := by
  unfold cutV at h
  exact List.mem_of_mem_drop (List.mem_of_mem_take h)
theorem cut_lenT (xs : List V) (lo hi : Option Int) : (cutV xs lo hi).length ≤ xs.length := by
  unfold cutV
  rw [List.length_take, List.length_drop]
  omega
def pLaw (K : PySem.W.Frag) : Pre := pOk (α := List Int) (fun ns => ns.length ≤ 63) (fun ns => [rScr K (ns.map V.int)]) (fun _ => rBool true)
structure LvX (P : Program) (w : World) (K : PySem.W.Frag) (mg : Str → Option Value) (base : Heap) (C W M N N' D U V R : Addr) : Prop where
  X : RtX P w K mg base R M
  nm : NeM K R
  Tbag : KfN1 P w K mg base "_law_bag" 1 pBag
  Tat : Kf1 P w K mg base "_law_at_of" 1 (pAt K)
  Td : Kf1 P w K mg base "_law_draw" 1 pDraw
  Tlab : KfN1 P w K mg base "_law_labels" 2 pLab
  Trows : Kf1 P w K mg base "_law_rows_of" 4 pRows
  Tbo : Kf1 P w K mg base "_law_book_of" 8 (pBookOf C W M N' D U)
  Tdem : KfN1 P w K mg base "_law_demand_of" 5 (pDemV R)
  Tl : Kf1 P w K mg base "least_hours" 11 (pLeastH C W M N U R)
  Tc : KfG1 P w K mg base "cheapest" 10 (pCheap C W M N U R)
  Ts : KfN1 P w K mg base "summed" 7 (pSummed R)
  Tn : Kf1 P w K mg base "_law_not_more" 6 (pNotMore R)
  Tp : KfN1 P w K mg base "_law_positive" 9 (pPosit C W R)
  Tv : KfN1 P w K mg base "leaves" 8 (pLeaves C W R)
  Th : Kf1 P w K mg base "hours_of" 8 (pHours C W R)
  Tm : Kf1 P w K mg base "meets" 9 (pMeetsG C W R)
  Tw : Kf1 P w K mg base "_law_ways_fit" 12 (pWays C W R)
  len : mg "len" = none
  rg : mg "range" = none
  ls : mg "list" = none
  di : mg "dict" = none
section
variable {P : Program} {w : World} {K : PySem.W.Frag} {mg : Str → Option Value} {base : Heap} {W C M N N' D U V R f : Addr} {fd : FuncData}
theorem law_loop {cdv : Value} {A : Around} {outer : List Env} {s0 : Shared} {H : Hp} {E : XK} (F : Fx) (hX : F.X = cxOf (L2.CX P w) P w K mg base N_law "law" (defScope s_law) f cdv A outer s0 H E) (hr : Room 12 F.X.A) (X : LvX P w K mg base C W M N N' D U V R)
    {ns : List Int} (hns : ns.length ≤ 63) {gs : List Str} {ys : List Wy} {z1 : Option Rl} (a : BkA gs ys) :
    HB F [some (rScr K (ns.map L2.V.int)), z1, some (rLst (gs.map rStr)), some (rLst (ys.map rRw)), none, some (rBook C W gs ys), none, none, none, none, none, none, none, none, none, none, none] [] ((defBody s_law).drop 5) (Kf (.ok (rBool true)) []) := by
  obtain ⟨_, G0, H0, M', Wd, tk⟩ := F
  cases hX
  have nd := c_law.nd
  have cl := X.X.X.cx.cls
  have nT := X.X.X.nT
  have Te := X.X.Te
  have nf := X.X.X.nf
  have r1 := hr.mono (show 1 ≤ 12 by decide)
  have r4 := hr.mono (show 4 ≤ 12 by decide)
  have r5 := hr.mono (show 5 ≤ 12 by decide)
  have r6 := hr.mono (show 6 ≤ 12 by decide)
  have r7 := hr.mono (show 7 ≤ 12 by decide)
  have r8 := hr.mono (show 8 ≤ 12 by decide)
  have r9 := hr.mono (show 9 ≤ 12 by decide)
  have r10 := hr.mono (show 10 ≤ 12 by decide)
  have r11 := hr.mono (show 11 ≤ 12 by decide)
  have bk := a.bk
  have h4 := bk.h4
  have l1 := bk.R.l1
  have l8 := bk.R.l8
  have nm := bk.nm
  have ecut : ∀ x ∈ cutV (ns.map L2.V.int) (some 2) (some 5), ∃ c : Int, x = L2.V.int c := fun x hx => by
    obtain ⟨c, _, e⟩ := List.mem_map.mp (cut_memT hx)
    exact ⟨c, e.symm⟩
  have lcut : (cutV (ns.map L2.V.int) (some 2) (some 5)).length ≤ 63 := by
    have := cut_lenT (ns.map L2.V.int) (some 2) (some 5)
    rw [List.length_map] at this
    omega
  have lhE : ∀ {dm : Dm}, DmG gs dm → pLeastH C W M N U R [rBook C W gs ys, rDct (fsQ R dm)] [] (.ok (rRat R (lhv gs ys dm))) [] := fun {dm} g => ⟨gs, ys, dm, bk.L, g.s, fun _ => fin_bkG bk g.tw, rfl, rfl, rfl, (lh_val g.e (ent_bkA a)).symm⟩
  have lsz : ∀ {dm : Dm}, DmG gs dm → Sz 1400 (lhv gs ys dm) := fun {dm} g => lhv_sz bk g.tw
  refine hb_for (it_lst (er_bin (er_lst (ar_cons (er_fA X.Tat r1 (ar_cons (er_v 0 rfl rfl) (ar_cons er_int ar_nil)) ⟨(ns, 1), trivial, rfl, rfl, rfl, rfl⟩) ar_nil) (Nat.le_of_ble_eq_true rfl)) (er_tA (ar_cons (er_slice (er_v 0 rfl rfl) (pr_some er_int) (pr_some er_int) sop_S) ar_nil) X.ls bt_list cop_listL) (bop_cat (by rw [List.length_map]; show 1 + _ ≤ _; omega))))
    (fun _ ρ w => ∃ z1 z6 z7 z8 z9 z10 z11 z12 z13 z15 z16, ρ = [some (rScr K (ns.map L2.V.int)), z1, some (rLst (gs.map rStr)), some (rLst (ys.map rRw)), none, some (rBook C W gs ys), z6, z7, z8, z9, z10, z11, z12, z13, none, z15, z16] ∧ w = []) ⟨_, _, _, _, _, _, _, _, _, _, _, rfl, rfl⟩ ?_ ?_ (passes_of rfl) (pg_name (i := 6) nd rfl (Or.inl rfl))
  · rintro k ρ w S hS ⟨z1, z6, z7, z8, z9, z10, z11, z12, z13, z15, z16, rfl, rfl⟩
    obtain ⟨c, rfl⟩ : ∃ c : Int, S = rInt c := by
      have hm := List.mem_of_getElem? hS
      rcases List.mem_append.mp hm with hm | hm
      · exact ⟨_, List.mem_singleton.mp hm⟩
      · obtain ⟨x, hx, rfl⟩ := List.mem_map.mp hm
        obtain ⟨c, rfl⟩ := ecut x hx
        exact ⟨c, rfl⟩
    refine ⟨_, ge_name, ?_⟩
    refine hb_setNA 1 rfl (en_fA X.Tbag r1 (ar_cons (er_v 6 rfl rfl) ar_nil) ⟨c, rfl, rfl, rfl, rfl⟩) fun q hq => ?_
    generalize ((c, (0 : Int), decide ((10 : Int) ^ 18 ≤ c)) : Pool) = s
    refine hb_asg (R := rTup [rDemV R gs 4, rDemV R gs 4]) (w1 := [(q, oAny)]) (er_tup (ar_cons (w1 := [(q, oAny)]) (er_frzE (en_f1 0 X.Tdem r5 (ar_cons (er_v 1 rfl rfl) (ar_cons (er_v 2 rfl rfl) ar_nil)) rfl ⟨q, gs, s, h4, nm, rfl, rfl, rfl, rfl⟩)) (ar_cons (w1 := [(q, oAny)]) (er_exO fun s2 => er_frzE (en_f1 0 X.Tdem r5 (ar_cons (er_v 1 rfl rfl) (ar_cons (er_v 2 rfl rfl) ar_nil)) rfl ⟨q, gs, s2, h4, nm, rfl, rfl, rfl, rfl⟩)) ar_nil)) (Nat.le_of_ble_eq_true rfl)) (pg_tup rfl (pgs_cons (pg_name (i := 7) nd rfl (Or.inr rfl)) (pgs_cons (pg_name (i := 8) nd rfl (Or.inl rfl)) pgs_nil))) (ge_tup (ges_cons ge_name (ges_cons ge_name ges_nil)) rfl) ?_
    refine hb_ex 7 rfl ?_
    rintro ⟨d1, v1⟩
    refine hb_ex 8 rfl ?_
    rintro ⟨d2, v2⟩
    refine hb_exO fun s => ?_
    have g1 := v1.G (by decide)
    have g2 := v2.G (by decide)
    have ndd := v1.u.ok.nd
    have dl := v1.u.ok.ln
    have ln1 : (namesQ d1).length ≤ 100 := by unfold namesQ; rw [List.length_map]; omega
    have da := drR_lt (s := s) (L := 9) (by decide)
    have db := drR_lt (s := drS s 9) (L := 9) (by decide)
    refine hb_setA (R := rRat R (Rat.divInt (1 + drR s 9) (1 + drR (drS s 9) 9))) (w1 := [(q, oPool (drS (drS s 9) 9))]) 9 rfl (er_ratio X.X.Tq r4 (ar_cons (er_bin er_int (er_f1 0 X.Td r1 (ar_cons (er_v 1 rfl rfl) (ar_cons er_int ar_nil)) rfl (drawOk (s := s) (L := 9) (by decide) (by decide))) bop_add) (ar_cons (er_bin er_int (er_f1 0 X.Td r1 (ar_cons (er_v 1 rfl rfl) (ar_cons er_int ar_nil)) rfl (drawOk (s := drS s 9) (L := 9) (by decide) (by decide))) bop_add) ar_nil)) rfl (by omega) (lt9 (by omega))) ?_
    have gc := v1.scl (t := 1 + drR s 9) (u := 1 + drR (drS s 9) 9) (by decide) nm (by omega) (by omega)
    have hc0 : 0 ≤ Rat.divInt (1 + drR s 9) (1 + drR (drS s 9) 9) := nn_drawn (by omega) (by omega)
    have hcs : Sz 100 (Rat.divInt (1 + drR s 9) (1 + drR (drS s 9) 9)) := sz_drawn (by omega) (by omega)
    generalize Rat.divInt (1 + drR s 9) (1 + drR (drS s 9) 9) = c2 at gc hc0 hcs
    generalize drS (drS s 9) 9 = s3
    refine hb_setA 10 rfl (er_lst (ar_cons (er_fA X.Tl r11 (ar_cons (er_v 5 rfl rfl) (ar_cons (er_v 7 rfl rfl) ar_nil)) (lhE g1)) (ar_cons (er_fA X.Tl r11 (ar_cons (er_v 5 rfl rfl) (ar_cons (er_v 8 rfl rfl) ar_nil)) (lhE g2)) ar_nil)) (Nat.le_of_ble_eq_true rfl)) ?_
    refine hb_setA 11 rfl (er_eq (S := rDct (fsQ R (sclQ c2 d1))) (er_frz (en_dictPR (zs := (namesQ d1).map fun g => (g, rRat R (c2 * valQ d1 g))) (ar_cons (er_eq (er_lc (xs := namesQ d1) (A := rStr) (B := fun g => rTup [rStr g, rRat R (c2 * valQ d1 g)]) (by rw [← kRs_Qd (R := R)]; exact it_keys (er_v 7 rfl rfl)) (by omega) [("_law_good", 4)] (blkOk_by (N := N_law) (sc := defScope s_law) (by decide +kernel)) (fun _ _ _ _ _ => pg_name (i := 4) nd rfl (Or.inl rfl)) (fun i a h => gew_name) (fun i g h s1 H1 cc cl' fp d => ?_) nd) (by rw [List.map_map]; rfl)) ar_nil) ?_ rfl X.di bt_dictT)) (by unfold fsP fsQ sclQ; rw [List.map_map, List.map_map]; rfl)) ?_
    · obtain ⟨p, hp, ep, ev, ef⟩ := valQ_mem (List.mem_of_getElem? h)
      exact er_tup (ar_cons (er_v 4 rfl rfl) (ar_cons (er_bin (er_v 9 rfl rfl) (er_dget (k := .inr g) (er_v 7 rfl rfl) (er_v 4 rfl rfl) isd_frz (R := rRat R (valQ d1 g)) (by rw [valR_Q, ef, ev]; rfl) r1) (bop_o X.X.Tm X.X.X.cx r5 (pMulOk (hcs.mono (by decide)) ((valQ_sz g1.s.ok).mono (by decide))))) ar_nil)) (Nat.le_of_ble_eq_true rfl)
    · rw [List.map_map]
      exact (List.map_id' _).symm ▸ ndd
    refine hb_if (b := false) (tr_to (tr_cmp (er_fA X.Tl r11 (ar_cons (er_v 5 rfl rfl) (ar_cons (er_v 11 rfl rfl) ar_nil)) (lhE gc)) (er_bin (er_v 9 rfl rfl) (er_ix (R := rRat R (lhv gs ys d1)) (er_v 10 rfl rfl) er_int (iop_L (n := 0) rfl rfl)) (bop_o X.X.Tm X.X.X.cx r5 (pMulOk (hcs.mono (by decide)) ((lsz g1).mono (by decide))))) (bop_oN Te X.nm r6 (pEqOk (C := R) (p := lhv gs ys (sclQ c2 d1)) (q := c2 * lhv gs ys d1)) tyr_ins nf)) (by rw [decide_eq_true (lhv_mul a hc0 fun g _ => sclQ_val ndd g)]; rfl)) (fun z => Bool.noConfusion z) (fun _ => hb_nil ?_)
    have gb := v1.sum v2 (by decide) nm
    refine hb_setA 12 rfl (er_fA X.Tl r11 (ar_cons (er_v 5 rfl rfl) (ar_cons (er_frz (en_fA X.Ts r7 (ar_cons (er_v 7 rfl rfl) (ar_cons (er_v 8 rfl rfl) ar_nil)) ⟨d1, d2, fun p hp => (g1.s.ok.sz p hp).mono (by decide), fun p hp => (g2.s.ok.sz p hp).mono (by decide), by omega, by have := v2.u.ok.ln; omega, rfl, rfl, rfl, rfl⟩)) ar_nil)) (lhE gb)) ?_
    refine hb_if (b := false) (PWR.tr (tr_or (k := false) (m := false) (tr_not (k := true) (tr_to (tr_val (er_fA X.Tn r6 (ar_cons (er_v 12 rfl rfl) (ar_cons (er_bin (er_ix (R := rRat R (lhv gs ys d1)) (er_v 10 rfl rfl) er_int (iop_L (n := 0) rfl rfl)) (er_ix (R := rRat R (lhv gs ys d2)) (er_v 10 rfl rfl) er_int (iop_L (n := 1) rfl rfl)) (bop_o X.X.Ta X.X.X.cx r5 (pAddOk ((lsz g1).mono (by decide)) ((lsz g2).mono (by decide))))) ar_nil)) ⟨_, _, (lsz gb).mono (by decide), (sz_add (lsz g1) (lsz g2) (by decide) : Sz 2900 _).mono (by decide), rfl, rfl, rfl, rfl⟩)) (decide_eq_true (lhv_add a fun g _ => sumQ_val g)))) fun _ => tr_or1 (tr_not (k := true) (tr_to (tr_val (er_fA X.Tn r6 (ar_cons (er_ix (R := rRat R (lhv gs ys d1)) (er_v 10 rfl rfl) er_int (iop_L (n := 0) rfl rfl)) (ar_cons (er_v 12 rfl rfl) ar_nil)) ⟨_, _, (lsz g1).mono (by decide), (lsz gb).mono (by decide), rfl, rfl, rfl, rfl⟩)) (decide_eq_true (lhv_mono a fun g _ => by
      rw [sumQ_val]
      have := valQ_all (Φ := fun q => 0 ≤ q) Rat.le_refl v2.nn g
      grind)))))) (fun z => Bool.noConfusion z) (fun _ => hb_nil ?_)
    refine hb_setG (Φ := fun A w => ∃ (qs : List Rat) (s : Pool), qs.length = ys.length ∧ (∀ x ∈ qs, 0 ≤ x ∧ Cz 2 (2 ^ 3) x) ∧ A = rLst (qs.map (rRat R)) ∧ w = [(q, oPool s)]) 13 rfl (eg_lc1 (Rs := ys.map rRw) 14 rfl (fun _ _ _ _ _ => pg_name (i := 14) nd rfl (Or.inl rfl)) (blkOk_by (N := N_law) (sc := defScope s_law) (by decide +kernel)) (it_lst (er_v 3 rfl rfl)) (by rw [List.length_map]; omega)
      (fun j Bs w => ∃ (qs : List Rat) (s : Pool), Bs = qs.map (rRat R) ∧ qs.length = j ∧ (∀ x ∈ qs, 0 ≤ x ∧ Cz 2 (2 ^ 3) x) ∧ w = [(q, oPool s)]) ⟨[], s3, rfl, rfl, fun _ h => (by cases h), rfl⟩ ?_ (fun j Bs w ⟨qs, s, e1, e2, _⟩ => by rw [e1, List.length_map]; exact e2) (fun Bs w ⟨qs, s, e1, e2, e3, e4⟩ => ⟨qs, s, by rw [List.length_map] at e2; exact e2, e3, by rw [e1], e4⟩) nd) ?_ nd
    · rintro i S Bs w hS2 ⟨qs, s, rfl, hlq, hsz, rfl⟩ s3 H2 cc2 cl2 fp2 dd2
      have d5 := drR_lt (s := s) (L := 4) (by decide)
      have d3 := drR_lt (s := drS s 4) (L := 2) (by decide)
      exact eg_er (er_ratio X.X.Tq r4 (ar_cons (er_f1 1 X.Td r1 (ar_cons (er_v 1 rfl rfl) (ar_cons er_int ar_nil)) rfl (drawOk (s := s) (L := 4) (by decide) (by decide))) (ar_cons (er_bin er_int (er_f1 1 X.Td r1 (ar_cons (er_v 1 rfl rfl) (ar_cons er_int ar_nil)) rfl (drawOk (s := drS s 4) (L := 2) (by decide) (by decide))) bop_add) ar_nil)) rfl (by omega) (lt9 (by omega)))
        ⟨[(q, oPool (drS (drS s 4) 2))], List.Perm.refl _, qs ++ [Rat.divInt (drR s 4) (1 + drR (drS s 4) 2)], _, by rw [List.map_append]; rfl, by rw [List.length_append, hlq]; rfl, mem_snoc hsz ⟨nn_drawn (by omega) (by omega), cz_half (by omega) (by omega)⟩, rfl⟩
    rintro Bs w ⟨qs, s, hlq, hsz, rfl, rfl⟩
    have qv : QsV ys qs := ⟨hlq, fun x hx => (hsz x hx).1, fun x hx => (hsz x hx).2⟩
    have pk := qv.pk bk
    have gp := qv.pos bk
    refine hb_setA 15 rfl (er_frz (en_fA X.Tp r9 (ar_cons (er_v 5 rfl rfl) (ar_cons (er_v 13 rfl rfl) ar_nil)) ⟨gs, ys, qs, pk, rfl, rfl, rfl, rfl⟩)) ?_
    have hme : ∀ {w : Ow}, pMeetsG C W R [rBook C W gs ys, rLst (qs.map (rRat R)), rDct (fsQ R (posQ gs (leavesQ gs ys qs)))] [] (.ok (rBool (meetsB gs ys qs (posQ gs (leavesQ gs ys qs))))) [] := fun {w} => ⟨gs, ys, true, qs, _, pk, gp.s, gp.e, rfl, rfl, rfl, rfl⟩
    refine hb_if (b := false) (w1 := [(q, oPool s)]) ?_ (fun z => Bool.noConfusion z) (fun _ => hb_nil ?_)
    · cases hm : meetsB gs ys qs (posQ gs (leavesQ gs ys qs)) with
      | true => exact PWR.tr (tr_and (k := false) (m := false) (tr_not (k := true) (tr_to (tr_val (er_fA X.Tm r9 (ar_cons (er_v 5 rfl rfl) (ar_cons (er_v 13 rfl rfl) (ar_cons (er_v 15 rfl rfl) ar_nil))) (hme (w := [])))) hm)) fun z => Bool.noConfusion z)
      | false =>
        refine PWR.tr (tr_and (k := true) (m := false) (tr_not (k := false) (tr_to (tr_val (er_fA X.Tm r9 (ar_cons (er_v 5 rfl rfl) (ar_cons (er_v 13 rfl rfl) (ar_cons (er_v 15 rfl rfl) ar_nil))) (hme (w := [])))) hm)) fun _ => tr_and1 (tr_to (tr_cmp (er_lcf (xs := gs) (A := rStr) (B := rStr) (p := fun g => decide (valQ (leavesQ gs ys qs) g < 0)) (it_lst (er_v 2 rfl rfl)) (by omega) [("_law_good", 4)] (blkOk_by (N := N_law) (sc := defScope s_law) (by decide +kernel)) (fun _ _ _ _ _ => pg_name (i := 4) nd rfl (Or.inl rfl)) (fun i a h => gew_name) (fun i g h s1 H1 cc cl' fp d => ?_) (fun i a h _ s1 H1 cc cl' fp d => er_v 4 rfl rfl) nd) (er_lst (Rs := []) ar_nil (Nat.zero_le _)) (bop_eqE r1)) (decide_eq_false fun z => ?_)))
        · have hg : g ∈ namesQ (leavesQ gs ys qs) := by rw [namesQ_leaves]; exact srt_mem_iff.mpr (List.mem_of_getElem? h)
          obtain ⟨p, hp, ep, ev, ef⟩ := valQ_mem hg
          exact tr_to (tr_cmp (er_fld (er_dget (k := .inr g) (er_frz (en_fA X.Tv r8 (ar_cons (er_v 5 rfl rfl) (ar_cons (er_v 13 rfl rfl) ar_nil)) ⟨gs, ys, true, qs, pk, rfl, rfl, rfl, rfl⟩)) (er_v 4 rfl rfl) isd_frz (R := rRat R (valQ (leavesQ gs ys qs) g)) (by rw [valR_Q, ef, ev]; rfl) r1) cl nT rfl) er_int bop_lt) (decide_eq_decide.mpr rat_num)
        · have z := List.map_eq_nil_iff.mp z
          have hall : ∀ g ∈ gs, ¬ valQ (leavesQ gs ys qs) g < valQ (posQ gs (leavesQ gs ys qs)) g := fun g hg y => by
            rw [posQ_val bk.G.nd hg] at y
            split at y
            · exact absurd y (Rat.not_lt.mpr Rat.le_refl)
            · have : g ∈ gs.filter fun g => decide (valQ (leavesQ gs ys qs) g < 0) := List.mem_filter.mpr ⟨hg, decide_eq_true y⟩
              rw [z] at this
              cases this
          rw [meetsB_iff.mpr hall] at hm
          cases hm
    refine hb_if (b := false) (w1 := [(q, oPool s)]) ?_ (fun z => Bool.noConfusion z) (fun _ => hb_nil ?_)
    · cases hm : meetsB gs ys qs (posQ gs (leavesQ gs ys qs)) with
      | false => exact PWR.tr (tr_and (k := false) (m := false) (tr_to (tr_val (er_fA X.Tm r9 (ar_cons (er_v 5 rfl rfl) (ar_cons (er_v 13 rfl rfl) (ar_cons (er_v 15 rfl rfl) ar_nil))) (hme (w := [])))) hm) fun z => Bool.noConfusion z)
      | true =>
        have hh : small (sumR (hrsL ys qs)) := by
          have := (hrs_ok pk).2 (hrsL ys qs).length
          rw [List.take_length] at this
          exact this
        exact PWR.tr (tr_and (k := true) (m := false) (tr_to (tr_val (er_fA X.Tm r9 (ar_cons (er_v 5 rfl rfl) (ar_cons (er_v 13 rfl rfl) (ar_cons (er_v 15 rfl rfl) ar_nil))) (hme (w := [])))) hm) fun _ => tr_and1 (tr_not (k := true) (tr_to (tr_val (er_fA X.Tn r6 (ar_cons (er_fA X.Tl r11 (ar_cons (er_v 5 rfl rfl) (ar_cons (er_v 15 rfl rfl) ar_nil)) (lhE gp)) (ar_cons (er_fA (R := rRat R (sumR (hrsL ys qs))) X.Th r8 (ar_cons (er_v 5 rfl rfl) (ar_cons (er_v 13 rfl rfl) ar_nil)) ⟨gs, ys, true, qs, pk, rfl, rfl, rfl, rfl⟩) ar_nil)) ⟨_, _, (lsz gp).mono (by decide), hh, rfl, rfl, rfl, rfl⟩)) (decide_eq_true (plan_le a pk fun g hg => Rat.not_lt.mp (meetsB_iff.mp hm g hg))))))
    refine hb_if (b := false) (w1 := [(q, oAny)]) (tr_not (k := true) (tr_val (er_f1 0 X.Tw hr (ar_cons (er_v 1 rfl rfl) (ar_cons (er_v 2 rfl rfl) (ar_cons (er_v 3 rfl rfl) (ar_cons (er_v 5 rfl rfl) (ar_cons (er_v 7 rfl rfl) ar_nil))))) rfl ⟨q, gs, ys, d1, s, a, g1, rfl, rfl, rfl, rfl⟩))) (fun z => Bool.noConfusion z) (fun _ => hb_nil ?_)
    have ec := ent_bkA (dm := d1) a
    refine hb_setG (Φ := fun A w => ∃ q1 q2, q1 ∉ M' ∧ A = rRef q1 ∧ w = [(q1, oL ((List.range (lpH gs ys d1).n).map fun k => rRat R (yv (lpH gs ys d1) (fin (lpH gs ys d1)) k))), (q2, oD (fsQ R (pxD gs (xv (lpH gs ys d1) (fin (lpH gs ys d1)))))), (q, oAny)]) 16 rfl (eg_ix (eg_fG (wc := []) (w := [(q, oAny)]) (Φ := fun A w' => ∃ q1 q2, A = rTup [rRat R ((fin (lpH gs ys d1)).g (lpH gs ys d1).N), rRef q1, rRef q2] ∧ w' = [(q1, oL ((List.range (lpH gs ys d1).n).map fun k => rRat R (yv (lpH gs ys d1) (fin (lpH gs ys d1)) k))), (q2, oD (fsQ R (pxD gs (xv (lpH gs ys d1) (fin (lpH gs ys d1))))))]) X.Tc r10 (ar_cons (er_v 5 rfl rfl) (ar_cons (er_v 7 rfl rfl) ar_nil)) ⟨gs, ys, d1, bk.L, g1.s, fun _ => fin_bkG bk g1.tw, rfl, rfl, by unfold chOut lpOut; rw [g1.e]; dsimp only; rw [ec]⟩) ?_) ?_
    · rintro A w ⟨w', ⟨q1, q2, rfl, rfl⟩, hk, rfl⟩
      exact ⟨rInt 1, _, _, er_int, iop_T (n := 1) rfl rfl, q1, q2, (hk q1 List.mem_cons_self).resolve_left (fun h => by cases h), rfl, rfl⟩
    rintro A w ⟨q1, q2, hq1, rfl, rfl⟩
    refine hb_pub 16 rfl hq1 pub_lst (hb_drop ?_)
    have te : rLst ((List.range (lpH gs ys d1).n).map fun k => rRat R (yv (lpH gs ys d1) (fin (lpH gs ys d1)) k)) = rSeq true ((toldQ gs ys d1).map (rRat R)) := by
      unfold toldQ
      rw [List.map_map]
      rfl
    have tok := told_ok a g1.tw
    refine hb_if (b := false) (PWR.tr (tr_or (k := false) (m := false) (tr_to (tr_cmp (er_fA (R := rRat R (sumR (hrsL ys (toldQ gs ys d1)))) X.Th r8 (ar_cons (er_v 5 rfl rfl) (ar_cons (er_eq (er_v 16 rfl rfl) te) ar_nil)) ⟨gs, ys, true, _, tok, rfl, rfl, rfl, rfl⟩) (er_ix (R := rRat R (lhv gs ys d1)) (er_v 10 rfl rfl) er_int (iop_L (n := 0) rfl rfl)) (bop_oN Te X.nm r6 (pEqOk (C := R) (p := sumR (hrsL ys (toldQ gs ys d1))) (q := lhv gs ys d1)) tyr_ins nf)) (by rw [decide_eq_true (told_hrs a)]; rfl)) fun _ => tr_or1 (tr_not (k := true) (tr_to (tr_val (er_fA X.Tm r9 (ar_cons (er_v 5 rfl rfl) (ar_cons (er_eq (er_v 16 rfl rfl) te) (ar_cons (er_v 7 rfl rfl) ar_nil))) ⟨gs, ys, true, _, d1, tok, g1.s, g1.e, rfl, rfl, rfl, rfl⟩)) (meetsB_iff.mpr fun g hg => Rat.not_lt.mpr (told_meets a g hg)))))) (fun z => Bool.noConfusion z) (fun _ => hb_nil (hb_drop (hb_nil ⟨_, _, _, _, _, _, _, _, _, _, _, rfl, rfl⟩)))
  · rintro ρ w ⟨z1, z6, z7, z8, z9, z10, z11, z12, z13, z15, z16, rfl, rfl⟩
    have gn := nil_G (gs := gs) nm
    refine hb_ret (er_eq (er_cmp (er_fA X.Tl r11 (ar_cons (er_v 5 rfl rfl) (ar_cons (er_eq (S := rDct (fsQ R [])) er_dict0 rfl) ar_nil)) (lhE gn)) (er_ratio X.X.Tq r4 (ar_cons er_int (ar_cons er_int ar_nil)) (q := 0) (by decide) (by decide) (lt9 (by decide))) (bop_oE Te r5 (pEqOk (C := R) (p := lhv gs ys []) (q := 0)) tyr_ins nf)) (by rw [decide_eq_true (lhv_nil a fun g _ => rfl)])) ⟨_, [], rfl, fun v G h => h, rfl⟩
end
end W1
set_option maxRecDepth 100000
set_option maxHeartbeats 1000000
set_option exponentiation.threshold 20000
namespace W1
open PySem PySem.Spec PyProof.Rows L2 NdefX TL NumText LP
theorem bkA_of {gs : List Str} {ys : List Wy} (bk : BkQ gs ys) (h : ∀ g ∈ gs, ∃ y ∈ ys, y.1 = [] ∧ y.2.2 = [(g, 1)]) : BkA gs ys := ⟨bk, fun g hg => by
  obtain ⟨y, hy, e1, e2⟩ := h g hg
  refine ⟨y, hy, fun g' _ => ?_⟩
  rw [net_eq bk hy, e1, e2]
  show (((List.find? (fun p : Str × Int => decide (p.1 = g')) [(g, 1)]).map (·.2)).getD 0) - 0 = _
  rw [List.find?_cons]
  by_cases e : g = g'
  · rw [decide_eq_true (show (g, (1 : Int)).1 = g' from e), if_pos e.symm]
    rfl
  · rw [decide_eq_false (show ¬ (g, (1 : Int)).1 = g' from e), if_neg fun z => e z.symm]
    rfl⟩
section
variable {P : Program} {w : World} {K : PySem.W.Frag} {mg : Str → Option Value} {base : Heap} {W C M N N' D U V R f : Addr} {fd : FuncData}
theorem kf_law (Fn : Fun K "law" "law" s_law f fd) (X : LvX P w K mg base C W M N N' D U V R) : FnOk P w K mg base (L2.CX P w) 13 f fd P_law (spM (pLaw K)) := by
  refine fn_ok Fn c_law (fun _ _ _ _ ⟨_, _, h, _⟩ => by rw [h]; rfl) ?_
  rintro cdv A outer s0 H E ⟨_, G0, H0, M', Wd, tk⟩ hr rfl Rs ω o ω' ⟨ns, hns, rfl, rfl, rfl, rfl⟩
  have hns : ns.length ≤ 63 := hns
  have nd := c_law.nd
  have r1 := hr.mono (show 1 ≤ 12 by decide)
  have r2 := hr.mono (show 2 ≤ 12 by decide)
  have r4 := hr.mono (show 4 ≤ 12 by decide)
  have r8 := hr.mono (show 8 ≤ 12 by decide)
  refine hb_setNA 1 rfl (en_fA X.Tbag r1 (ar_cons (er_fA X.Tat r1 (ar_cons (er_v 0 rfl rfl) (ar_cons er_int ar_nil)) ⟨(ns, 0), trivial, rfl, rfl, rfl, rfl⟩) ar_nil) ⟨atS ns 0, rfl, rfl, rfl, rfl⟩) fun q hq => ?_
  generalize ((atS ns 0, (0 : Int), decide ((10 : Int) ^ 18 ≤ atS ns 0)) : Pool) = s
  have d4 := drR_lt (s := s) (L := 4) (by decide)
  obtain ⟨n, hn⟩ : ∃ n : Nat, 1 + drR s 4 = (n : Int) := ⟨(1 + drR s 4).toNat, by omega⟩
  have hlab := lab_goods (s := drS s 4) (n := n) (by omega)
  refine hb_setA (w1 := [(q, oPool (labS n (drS s 4)))]) 2 rfl (er_pubL (en_f1 0 X.Tlab r2 (ar_cons (er_v 1 rfl rfl) (ar_cons (er_eq (S := rInt ((n : Nat) : Int)) (er_bin er_int (er_f1 0 X.Td r1 (ar_cons (er_v 1 rfl rfl) (ar_cons er_int ar_nil)) rfl (drawOk (s := s) (L := 4) (by decide) (by decide))) bop_add) (by rw [hn])) ar_nil)) rfl ⟨q, drS s 4, n, by omega, rfl, rfl, rfl, rfl⟩)) ?_
  generalize labG n (drS s 4) = gs at hlab
  generalize labS n (drS s 4) = s2
  obtain ⟨hG, hgl⟩ := hlab
  have h0 : 0 < gs.length := by omega
  have h4 : gs.length ≤ 4 := by omega
  refine hb_setA (w1 := [(q, oAny)]) 3 rfl (er_f1 0 X.Trows r4 (ar_cons (er_v 1 rfl rfl) (ar_cons (er_v 2 rfl rfl) (ar_cons (er_cmp (er_f1 0 X.Td r1 (ar_cons (er_v 1 rfl rfl) (ar_cons er_int ar_nil)) rfl (drawOk (s := s2) (L := 2) (by decide) (by decide))) er_int bop_eqI) ar_nil))) rfl ⟨q, gs, _, drS s2 2, hG, by omega, by omega, rfl, rfl, rfl, rfl⟩) ?_
  refine hb_ex 3 rfl ?_
  rintro ⟨ys, hys⟩
  refine hb_exO fun s3 => ?_
  have l1 := hys.l1
  have l8 := hys.l8
  have ln : ∀ {F : Fx} {w : Ow}, Cop F w (.builtin "len") [rLst (gs.map rStr)] (rInt ((gs.length : Nat) : Int)) := fun {F w} => by
    have := cop_lenL (F := F) (ω := w) (Rs := gs.map rStr)
    rw [List.length_map] at this
    exact this
  have ec : rLst (cutR (ys.map rRw) none (some (8 - ((gs.length : Nat) : Int)))) = rLst ((ys.take (8 - gs.length)).map rRw) := by
    rw [show (8 : Int) - ((gs.length : Nat) : Int) = ((8 - gs.length : Nat) : Int) by omega, cut_some, List.map_take]
  refine hb_setG (Φ := fun R w => ∃ ys s, RowsK gs ys ∧ (∀ g ∈ gs, ∃ y ∈ ys, y.1 = [] ∧ y.2.2 = [(g, 1)]) ∧ R = rLst (ys.map rRw) ∧ w = [(q, oPool s)]) 3 rfl (eg_cat (As := (ys.take (8 - gs.length)).map rRw) (er_eq (er_slice (er_v 3 rfl rfl) pr_none (pr_some (er_bin er_int (er_bA (ar_cons (er_v 2 rfl rfl) ar_nil) X.len bt_len ln) bop_sub)) sop_L) ec)
    (eg_lc1 (Rs := gs.map rStr) 4 rfl (fun _ _ _ _ _ => pg_name (i := 4) nd rfl (Or.inl rfl)) (blkOk_by (N := N_law) (sc := defScope s_law) (by decide +kernel)) (it_lst (er_v 2 rfl rfl)) (by rw [List.length_map]; omega) (fun j Bs w => ∃ zs s, Bs = zs.map rRw ∧ zs.length = j ∧ (∀ y ∈ zs, RowK gs y) ∧ (∀ g ∈ gs.take j, ∃ y ∈ zs, y.1 = [] ∧ y.2.2 = [(g, 1)]) ∧ w = [(q, oPool s)]) ⟨[], _, rfl, rfl, fun _ h => (by cases h), fun _ h => (by rw [List.take_zero] at h; cases h), rfl⟩ ?_ (fun j Bs w ⟨ys, s, e1, e2, _⟩ => by rw [e1, List.length_map]; exact e2) ?_ nd)) ?_ nd
  · rintro j S Bs w hS ⟨zs, s', rfl, hl2, hz, hone, rfl⟩ s1 H1 cc cl fp d
    obtain ⟨g, eg, rfl⟩ := map_get hS
    have hg := List.mem_of_getElem? eg
    have d9 := drR_lt (s := s') (L := 9) (by decide)
    have row : RowK gs ([], 5 + drR s' 9, [(g, 1)]) := by
      refine ⟨AmI.nil, ⟨by simp [namesA], fun x hx => ?_, fun p hp => ?_⟩, by show (1 : Int) ≤ 5 + drR s' 9; omega, by show 5 + drR s' 9 ≤ 100; omega, g, hg, ?_⟩
      · rw [List.mem_singleton.mp hx]; exact hg
      · rw [List.mem_singleton.mp hp]; exact (show (0 : Int) ≤ 1 ∧ (1 : Int) ≤ 10 ^ 20 by decide)
      · show 0 < valA [(g, 1)] g
        unfold valA
        simp
    refine eg_er (er_lst (Rs := [rDct [], rInt (5 + drR s' 9), rDct (fsA [(g, 1)])]) (ar_cons er_dict0 (ar_cons (er_bin er_int (er_f1 1 X.Td r1 (ar_cons (er_v 1 rfl rfl) (ar_cons er_int ar_nil)) rfl (drawOk (s := s') (L := 9) (by decide) (by decide))) bop_add) (ar_cons (er_frz (en_disp1 (k := .inr g) (R := rInt 1) (fun _ => er_v 4 rfl rfl) (fun _ => er_int))) ar_nil))) (Nat.le_of_ble_eq_true rfl)) ⟨[(q, oPool (drS s' 9))], List.Perm.refl _, zs ++ [([], 5 + drR s' 9, [(g, 1)])], _, by rw [List.map_append]; rfl, by rw [List.length_append, hl2]; rfl, mem_snoc hz row, fun g' hg' => ?_, rfl⟩
    rw [List.take_add_one, eg] at hg'
    rcases List.mem_append.mp hg' with h | h
    · obtain ⟨y, hy, e⟩ := hone g' h
      exact ⟨y, List.mem_append_left _ hy, e⟩
    · rw [List.mem_singleton.mp h]
      exact ⟨_, List.mem_append_right _ List.mem_cons_self, rfl, rfl⟩
  · rintro Bs w ⟨zs, s', rfl, hl2, hz, hone, rfl⟩
    rw [List.length_map] at hl2 hone
    rw [List.take_length] at hone
    refine ⟨zs.map rRw, rfl, by rw [List.length_map, List.length_map, List.length_take]; omega, ys.take (8 - gs.length) ++ zs, s', ⟨?_, ?_, fun y h => ?_⟩, fun g hg => ?_, by rw [List.map_append], rfl⟩
    · rw [List.length_append]; omega
    · rw [List.length_append, List.length_take]; omega
    · rcases List.mem_append.mp h with h | h
      · exact hys.row y (List.mem_of_mem_take h)
      · exact hz y h
    · obtain ⟨y, hy, e⟩ := hone g hg
      exact ⟨y, List.mem_append_right _ hy, e⟩
  · rintro A2 w ⟨ys, s4, hys, hone, rfl, rfl⟩
    have bk : BkQ gs ys := ⟨hG, h0, h4, hys⟩
    have fit := fit_ofT bk
    refine hb_drop (hb_setA 5 rfl (er_fA X.Tbo r8 (ar_cons (er_v 2 rfl rfl) (ar_cons (er_v 3 rfl rfl) ar_nil)) ⟨gs, ys, fit.bk, fun y hy => (fit.rw y hy).rw, rfl, rfl, rfl, (newB_ok fit).symm⟩) ?_)
    exact law_loop _ rfl hr X hns (bkA_of bk hone)
end
end W1
set_option maxRecDepth 100000
set_option maxHeartbeats 2000000
set_option exponentiation.threshold 20000
namespace W1
open PySem PySem.Spec PyProof.Rows L2 NdefX
open TL NumText LP
theorem kE_BadNumber {P : Program} {w : World} {K : PySem.W.Frag} {mg : Str → Option Value} {base : Heap} {C f cc cd : Addr} (T : SupC P K mg "BadNumber" "BadNumber.__init__" s_BadNumber___init__ C f cc cd) (hno : PySem.W.findIn K (.ref C) "n" = some none) : Ke P w K mg base C "BadNumber" "n" 1 prInt := by
  obtain ⟨fd, ⟨doc, pm, ctv, rfl⟩, h⟩ := ok_err (w := w) (base := base) (k := 0) (Pr := prInt) (an2 := none) (ps2 := ⟨0, 0, 0, 0⟩) T c_BadNumber___init__ rfl rfl rfl hno (by decide) (by decide) (fun env he => ⟨_, rfl⟩) (fun env he => rfl) (fun env => rfl) (fun env he => ⟨rfl, rfl⟩)
    (fun X h1 h2 h3 h4 h5 hN hs hr hc => txt_fc (i := 1) (by rw [hN]; rfl) (by rw [hs]; exact Or.inl rfl) (by decide) (by decide) (by decide) (fun v H z => .inl z))
  exact ⟨"n", _, _, f, cc, cd, _, T, .all fun us hl => match us, hl with | [_, _], _ => rfl, h⟩
theorem kE_BadWay {P : Program} {w : World} {K : PySem.W.Frag} {mg : Str → Option Value} {base : Heap} {C f cc cd : Addr} (T : SupC P K mg "BadWay" "BadWay.__init__" s_BadWay___init__ C f cc cd) (hno : PySem.W.findIn K (.ref C) "at" = some none) : Ke P w K mg base C "BadWay" "at" 1 prInt := by
  obtain ⟨fd, ⟨doc, pm, ctv, rfl⟩, h⟩ := ok_err (w := w) (base := base) (k := 0) (Pr := prInt) (an2 := none) (ps2 := ⟨0, 0, 0, 0⟩) T c_BadWay___init__ rfl rfl rfl hno (by decide) (by decide) (fun env he => ⟨_, rfl⟩) (fun env he => rfl) (fun env => rfl) (fun env he => ⟨rfl, rfl⟩)
    (fun X h1 h2 h3 h4 h5 hN hs hr hc => txt_cf (i := 1) (by rw [hN]; rfl) (by rw [hs]; exact Or.inl rfl) (by decide) (by decide) (by decide) (fun v H z => .inl z))
  exact ⟨"at", _, _, f, cc, cd, _, T, .all fun us hl => match us, hl with | [_, _], _ => rfl, h⟩
theorem kE_BadName {P : Program} {w : World} {K : PySem.W.Frag} {mg : Str → Option Value} {base : Heap} {C f cc cd : Addr} (T : SupC P K mg "BadName" "BadName.__init__" s_BadName___init__ C f cc cd) (hno : PySem.W.findIn K (.ref C) "name" = some none) : Ke P w K mg base C "BadName" "name" 1 prStr := by
  obtain ⟨fd, ⟨doc, pm, ctv, rfl⟩, h⟩ := ok_err (w := w) (base := base) (k := 0) (Pr := prStr) (an2 := none) (ps2 := ⟨0, 0, 0, 0⟩) T c_BadName___init__ rfl rfl rfl hno (by decide) (by decide) (fun env he => ⟨_, rfl⟩) (fun env he => rfl) (fun env => rfl) (fun env he => ⟨rfl, rfl⟩)
    (fun X h1 h2 h3 h4 h5 hN hs hr hc => txt_fc (i := 1) (by rw [hN]; rfl) (by rw [hs]; exact Or.inl rfl) (by decide) (by decide) (by decide) (fun v H z => .inr z))
  exact ⟨"name", _, _, f, cc, cd, _, T, .all fun us hl => match us, hl with | [_, _], _ => rfl, h⟩
theorem kE_DuplicateName {P : Program} {w : World} {K : PySem.W.Frag} {mg : Str → Option Value} {base : Heap} {C f cc cd : Addr} (T : SupC P K mg "DuplicateName" "DuplicateName.__init__" s_DuplicateName___init__ C f cc cd) (hno : PySem.W.findIn K (.ref C) "name" = some none) : Ke P w K mg base C "DuplicateName" "name" 1 prStr := by
  obtain ⟨fd, ⟨doc, pm, ctv, rfl⟩, h⟩ := ok_err (w := w) (base := base) (k := 0) (Pr := prStr) (an2 := none) (ps2 := ⟨0, 0, 0, 0⟩) T c_DuplicateName___init__ rfl rfl rfl hno (by decide) (by decide) (fun env he => ⟨_, rfl⟩) (fun env he => rfl) (fun env => rfl) (fun env he => ⟨rfl, rfl⟩)
    (fun X h1 h2 h3 h4 h5 hN hs hr hc => txt_fc (i := 1) (by rw [hN]; rfl) (by rw [hs]; exact Or.inl rfl) (by decide) (by decide) (by decide) (fun v H z => .inr z))
  exact ⟨"name", _, _, f, cc, cd, _, T, .all fun us hl => match us, hl with | [_, _], _ => rfl, h⟩
theorem kE_UnknownName {P : Program} {w : World} {K : PySem.W.Frag} {mg : Str → Option Value} {base : Heap} {C f cc cd : Addr} (T : SupC P K mg "UnknownName" "UnknownName.__init__" s_UnknownName___init__ C f cc cd) (hno : PySem.W.findIn K (.ref C) "name" = some none) : Ke P w K mg base C "UnknownName" "name" 1 prStr := by
  obtain ⟨fd, ⟨doc, pm, ctv, rfl⟩, h⟩ := ok_err (w := w) (base := base) (k := 0) (Pr := prStr) (an2 := none) (ps2 := ⟨0, 0, 0, 0⟩) T c_UnknownName___init__ rfl rfl rfl hno (by decide) (by decide) (fun env he => ⟨_, rfl⟩) (fun env he => rfl) (fun env => rfl) (fun env he => ⟨rfl, rfl⟩)
    (fun X h1 h2 h3 h4 h5 hN hs hr hc => txt_fc (i := 1) (by rw [hN]; rfl) (by rw [hs]; exact Or.inl rfl) (by decide) (by decide) (by decide) (fun v H z => .inr z))
  exact ⟨"name", _, _, f, cc, cd, _, T, .all fun us hl => match us, hl with | [_, _], _ => rfl, h⟩
theorem kER_BadNumber {P : Program} {w : World} {K : PySem.W.Frag} {mg : Str → Option Value} {base : Heap} {C f cc cd R : Addr} (T : SupC P K mg "BadNumber" "BadNumber.__init__" s_BadNumber___init__ C f cc cd) (hno : PySem.W.findIn K (.ref C) "n" = some none) (Ts : Ko P w K mg base R "__str__" 2 (pStr R)) (fx : FmtX K R) : Ke P w K mg base C "BadNumber" "n" 4 (prRat R) := by
  obtain ⟨fd, ⟨doc, pm, ctv, rfl⟩, h⟩ := ok_err (w := w) (base := base) (k := 3) (Pr := prRat R) (an2 := none) (ps2 := ⟨0, 0, 0, 0⟩) T c_BadNumber___init__ rfl rfl rfl hno (by decide) (by decide) (fun env he => ⟨_, rfl⟩) (fun env he => rfl) (fun env => rfl) (fun env he => ⟨rfl, rfl⟩)
    (fun X h1 h2 h3 h4 h5 hN hs hr hc => txt_rat (i := 1) (by rw [h1, h2, h3, h4, h5]; exact Ts) (by rw [h1]; exact fx) hr (by rw [hN]; rfl) (by rw [hs]; exact Or.inl rfl) (by decide) (by decide) (by decide))
  exact ⟨"n", _, _, f, cc, cd, _, T, .all fun us hl => match us, hl with | [_, _], _ => rfl, h⟩
theorem law_cx {P : Program} : ∀ (w : World) (H : Hp) (s : Shared) (e : Value) (s' : Shared), L2.CX P w [] H s (fun _ _ _ => False) e s' → False := fun w H s e s' hq => by
  obtain ⟨_, _, _, _, _, _, _, _, _, _, _, _, z⟩ := hq
  exact z.elim
theorem law_sp {K : Params → PySem.W.Frag} : ∀ (w : World) (H : Hp) (a : Addr) (ns : List Int), ns.length ≤ 63 → L2.Only H → SqL (K w.params) H a (ns.map V.int) → spM (pLaw (K w.params)) [.ref a] H (fun v _ => v = .bl true) fun _ _ _ => False := fun w H a ns hl _ hS =>
  ⟨_, [], _, [], H, ⟨ns, hl, rfl, rfl, rfl, rfl⟩, Same.refl _, mk1 ⟨a, rfl, hS⟩, (fun _ h => by cases h), List.nodup_nil, rfl, fun v G' H' _ _ h => h⟩
theorem all_mk {w : World} {K : PySem.W.Frag} {h : Heap} {mg : Str → Option Value} {fa : Addr}
    {tk1 tk2 tk3 tk4 tk5 : Tok}
    {M f0 cc0 cd0 : Addr}
    {od0 dd0 cdd0 cld0 : Option Addr}
    {sl0 ccs0 csl0 : Array (Option Value)}
    {oc0 dc0 pm0 ct0 ccl0 clc0 : Value}
    {nm0 q0 file0 : Str}
    {N0 : Addr}
    {bs0 sub0 bm0 : List Value}
    {sn0 : List Str}
    {ab0 : Bool}
    {col0 : Option Bool}
    {m0_0 m0_1 m0_2 m0_3 m0_5 : Option Value}
    {vs0 : Array Value}
    {tf0 : Tok}
    {N f1 cc1 cd1 : Addr}
    {od1 dd1 cdd1 cld1 : Option Addr}
    {sl1 ccs1 csl1 : Array (Option Value)}
    {oc1 dc1 pm1 ct1 ccl1 clc1 : Value}
    {nm1 q1 file1 : Str}
    {N1 : Addr}
    {bs1 sub1 bm1 : List Value}
    {sn1 : List Str}
    {ab1 : Bool}
    {col1 : Option Bool}
    {m1_0 m1_1 m1_2 m1_3 m1_5 : Option Value}
    {vs1 : Array Value}
    {tf1 : Tok}
    {D f2 cc2 cd2 : Addr}
    {od2 dd2 cdd2 cld2 : Option Addr}
    {sl2 ccs2 csl2 : Array (Option Value)}
    {oc2 dc2 pm2 ct2 ccl2 clc2 : Value}
    {nm2 q2 file2 : Str}
    {N2 : Addr}
    {bs2 sub2 bm2 : List Value}
    {sn2 : List Str}
    {ab2 : Bool}
    {col2 : Option Bool}
    {m2_0 m2_1 m2_2 m2_3 m2_5 : Option Value}
    {vs2 : Array Value}
    {tf2 : Tok}
    {U f3 cc3 cd3 : Addr}
    {od3 dd3 cdd3 cld3 : Option Addr}
    {sl3 ccs3 csl3 : Array (Option Value)}
    {oc3 dc3 pm3 ct3 ccl3 clc3 : Value}
    {nm3 q3 file3 : Str}
    {N3 : Addr}
    {bs3 sub3 bm3 : List Value}
    {sn3 : List Str}
    {ab3 : Bool}
    {col3 : Option Bool}
    {m3_0 m3_1 m3_2 m3_3 m3_5 : Option Value}
    {vs3 : Array Value}
    {tf3 : Tok}
    {V f4 cc4 cd4 : Addr}
    {od4 dd4 cdd4 cld4 : Option Addr}
    {sl4 ccs4 csl4 : Array (Option Value)}
    {oc4 dc4 pm4 ct4 ccl4 clc4 : Value}
    {nm4 q4 file4 : Str}
    {N4 : Addr}
    {bs4 sub4 bm4 : List Value}
    {sn4 : List Str}
    {ab4 : Bool}
    {col4 : Option Bool}
    {m4_0 m4_1 m4_2 m4_3 m4_5 : Option Value}
    {vs4 : Array Value}
    {tf4 : Tok}
    {Q f5 cc5 cd5 : Addr}
    {od5 dd5 cdd5 cld5 : Option Addr}
    {sl5 ccs5 csl5 : Array (Option Value)}
    {oc5 dc5 pm5 ct5 ccl5 clc5 : Value}
    {nm5 q5 file5 : Str}
    {N5 : Addr}
    {bs5 sub5 bm5 : List Value}
    {sn5 : List Str}
    {ab5 : Bool}
    {col5 : Option Bool}
    {m5_0 m5_1 m5_2 m5_3 m5_5 : Option Value}
    {vs5 : Array Value}
    {tf5 : Tok}
    {W : Addr}
    {C : Addr}
    {R : Addr}
    {f6 : Addr}
    {od6 an6 : Option Addr}
    {sl6 : Array (Option Value)}
    {oc6 kV6 dc6 pm6 cd6 ct6 : Value}
    {f7 : Addr}
    {od7 an7 : Option Addr}
    {sl7 : Array (Option Value)}
    {oc7 kV7 dc7 pm7 cd7 ct7 : Value}
    {f8 : Addr}
    {od8 an8 : Option Addr}
    {sl8 : Array (Option Value)}
    {oc8 kV8 dc8 pm8 cd8 ct8 : Value}
    {f9 : Addr}
    {od9 an9 : Option Addr}
    {sl9 : Array (Option Value)}
    {oc9 kV9 dc9 pm9 cd9 ct9 : Value}
    {f10 : Addr}
    {od10 an10 : Option Addr}
    {sl10 : Array (Option Value)}
    {oc10 kV10 dc10 pm10 cd10 ct10 : Value}
    {f11 : Addr}
    {od11 an11 : Option Addr}
    {sl11 : Array (Option Value)}
    {oc11 kV11 dc11 pm11 cd11 ct11 : Value}
    {f12 : Addr}
    {od12 an12 : Option Addr}
    {sl12 : Array (Option Value)}
    {oc12 kV12 dc12 pm12 cd12 ct12 : Value}
    {mc12 : Value}
    {pc12 : Addr}
    {rest12 : List Value}
    {f13 : Addr}
    {od13 an13 : Option Addr}
    {sl13 : Array (Option Value)}
    {oc13 kV13 dc13 pm13 cd13 ct13 : Value}
    {f14 : Addr}
    {od14 an14 : Option Addr}
    {sl14 : Array (Option Value)}
    {oc14 kV14 dc14 pm14 cd14 ct14 : Value}
    {f15 : Addr}
    {od15 an15 : Option Addr}
    {sl15 : Array (Option Value)}
    {oc15 kV15 dc15 pm15 cd15 ct15 : Value}
    {f16 : Addr}
    {od16 an16 : Option Addr}
    {sl16 : Array (Option Value)}
    {oc16 kV16 dc16 pm16 cd16 ct16 : Value}
    {f17 : Addr}
    {od17 an17 : Option Addr}
    {sl17 : Array (Option Value)}
    {oc17 kV17 dc17 pm17 cd17 ct17 : Value}
    {f18 : Addr}
    {od18 an18 : Option Addr}
    {sl18 : Array (Option Value)}
    {oc18 kV18 dc18 pm18 cd18 ct18 : Value}
    {f19 : Addr}
    {od19 an19 : Option Addr}
    {sl19 : Array (Option Value)}
    {oc19 kV19 dc19 pm19 cd19 ct19 : Value}
    {f20 : Addr}
    {od20 an20 : Option Addr}
    {sl20 : Array (Option Value)}
    {oc20 kV20 dc20 pm20 cd20 ct20 : Value}
    {f21 : Addr}
    {od21 an21 : Option Addr}
    {sl21 : Array (Option Value)}
    {oc21 kV21 dc21 pm21 cd21 ct21 : Value}
    {f22 : Addr}
    {od22 an22 : Option Addr}
    {sl22 : Array (Option Value)}
    {oc22 kV22 dc22 pm22 cd22 ct22 : Value}
    {f23 : Addr}
    {od23 an23 : Option Addr}
    {sl23 : Array (Option Value)}
    {oc23 kV23 dc23 pm23 cd23 ct23 : Value}
    {f24 : Addr}
    {od24 an24 : Option Addr}
    {sl24 : Array (Option Value)}
    {oc24 kV24 dc24 pm24 cd24 ct24 : Value}
    {f25 : Addr}
    {od25 an25 : Option Addr}
    {sl25 : Array (Option Value)}
    {oc25 kV25 dc25 pm25 cd25 ct25 : Value}
    {f26 : Addr}
    {od26 an26 : Option Addr}
    {sl26 : Array (Option Value)}
    {oc26 kV26 dc26 pm26 cd26 ct26 : Value}
    {f27 : Addr}
    {od27 an27 : Option Addr}
    {sl27 : Array (Option Value)}
    {oc27 kV27 dc27 pm27 cd27 ct27 : Value}
    {f28 : Addr}
    {od28 an28 : Option Addr}
    {sl28 : Array (Option Value)}
    {oc28 kV28 dc28 pm28 cd28 ct28 : Value}
    {f29 : Addr}
    {od29 an29 : Option Addr}
    {sl29 : Array (Option Value)}
    {oc29 kV29 dc29 pm29 cd29 ct29 : Value}
    {f30 : Addr}
    {od30 an30 : Option Addr}
    {sl30 : Array (Option Value)}
    {oc30 kV30 dc30 pm30 cd30 ct30 : Value}
    {f31 : Addr}
    {od31 an31 : Option Addr}
    {sl31 : Array (Option Value)}
    {oc31 kV31 dc31 pm31 cd31 ct31 : Value}
    {S : Addr}
    {f32 : Addr}
    {od32 an32 : Option Addr}
    {sl32 : Array (Option Value)}
    {oc32 kV32 dc32 pm32 cd32 ct32 : Value}
    {f33 : Addr}
    {od33 an33 : Option Addr}
    {sl33 : Array (Option Value)}
    {oc33 kV33 dc33 pm33 cd33 ct33 : Value}
    {f34 : Addr}
    {od34 an34 : Option Addr}
    {sl34 : Array (Option Value)}
    {oc34 kV34 dc34 pm34 cd34 ct34 : Value}
    {f35 : Addr}
    {od35 an35 : Option Addr}
    {sl35 : Array (Option Value)}
    {oc35 kV35 dc35 pm35 cd35 ct35 : Value}
    {f36 : Addr}
    {od36 an36 : Option Addr}
    {sl36 : Array (Option Value)}
    {oc36 kV36 dc36 pm36 cd36 ct36 : Value}
    {f37 : Addr}
    {od37 an37 : Option Addr}
    {sl37 : Array (Option Value)}
    {oc37 kV37 dc37 pm37 cd37 ct37 : Value}
    {f38 : Addr}
    {od38 an38 : Option Addr}
    {sl38 : Array (Option Value)}
    {oc38 kV38 dc38 pm38 cd38 ct38 : Value}
    {f39 : Addr}
    {od39 an39 : Option Addr}
    {sl39 : Array (Option Value)}
    {oc39 kV39 dc39 pm39 cd39 ct39 : Value}
    {f40 : Addr}
    {od40 an40 : Option Addr}
    {sl40 : Array (Option Value)}
    {oc40 kV40 dc40 pm40 cd40 ct40 : Value}
    {f41 : Addr}
    {od41 an41 : Option Addr}
    {sl41 : Array (Option Value)}
    {oc41 kV41 dc41 pm41 cd41 ct41 : Value}
    {f42 : Addr}
    {od42 an42 : Option Addr}
    {sl42 : Array (Option Value)}
    {oc42 kV42 dc42 pm42 cd42 ct42 : Value}
    {f43 : Addr}
    {od43 an43 : Option Addr}
    {sl43 : Array (Option Value)}
    {oc43 kV43 dc43 pm43 cd43 ct43 : Value}
    {f44 : Addr}
    {od44 an44 : Option Addr}
    {sl44 : Array (Option Value)}
    {oc44 kV44 dc44 pm44 cd44 ct44 : Value}
    {f45 : Addr}
    {od45 an45 : Option Addr}
    {sl45 : Array (Option Value)}
    {oc45 kV45 dc45 pm45 cd45 ct45 : Value}
    {f46 : Addr}
    {od46 an46 : Option Addr}
    {sl46 : Array (Option Value)}
    {oc46 kV46 dc46 pm46 cd46 ct46 : Value}
    {f47 : Addr}
    {od47 an47 : Option Addr}
    {sl47 : Array (Option Value)}
    {oc47 kV47 dc47 pm47 cd47 ct47 : Value}
    {f48 : Addr}
    {od48 an48 : Option Addr}
    {sl48 : Array (Option Value)}
    {oc48 kV48 dc48 pm48 cd48 ct48 : Value}
    {f49 : Addr}
    {od49 an49 : Option Addr}
    {sl49 : Array (Option Value)}
    {oc49 kV49 dc49 pm49 cd49 ct49 : Value}
    {f50 : Addr}
    {od50 an50 : Option Addr}
    {sl50 : Array (Option Value)}
    {oc50 kV50 dc50 pm50 cd50 ct50 : Value}
    {f51 : Addr}
    {od51 an51 : Option Addr}
    {sl51 : Array (Option Value)}
    {oc51 kV51 dc51 pm51 cd51 ct51 : Value}
    {f52 : Addr}
    {od52 an52 : Option Addr}
    {sl52 : Array (Option Value)}
    {oc52 kV52 dc52 pm52 cd52 ct52 : Value}
    {f53 : Addr}
    {od53 an53 : Option Addr}
    {sl53 : Array (Option Value)}
    {oc53 kV53 dc53 pm53 cd53 ct53 : Value}
    {f54 : Addr}
    {od54 an54 : Option Addr}
    {sl54 : Array (Option Value)}
    {oc54 kV54 dc54 pm54 cd54 ct54 : Value}
    {f55 : Addr}
    {od55 an55 : Option Addr}
    {sl55 : Array (Option Value)}
    {oc55 kV55 dc55 pm55 cd55 ct55 : Value}
    {f56 : Addr}
    {od56 an56 : Option Addr}
    {sl56 : Array (Option Value)}
    {oc56 kV56 dc56 pm56 cd56 ct56 : Value}
    {f57 : Addr}
    {od57 an57 : Option Addr}
    {sl57 : Array (Option Value)}
    {oc57 kV57 dc57 pm57 cd57 ct57 : Value}
    {f58 : Addr}
    {od58 an58 : Option Addr}
    {sl58 : Array (Option Value)}
    {oc58 kV58 dc58 pm58 cd58 ct58 : Value}
    {f59 : Addr}
    {od59 an59 : Option Addr}
    {sl59 : Array (Option Value)}
    {oc59 kV59 dc59 pm59 cd59 ct59 : Value}
    {f60 : Addr}
    {od60 an60 : Option Addr}
    {sl60 : Array (Option Value)}
    {oc60 kV60 dc60 pm60 cd60 ct60 : Value}
    {f61 : Addr}
    {od61 an61 : Option Addr}
    {sl61 : Array (Option Value)}
    {oc61 kV61 dc61 pm61 cd61 ct61 : Value}
    {f62 : Addr}
    {od62 an62 : Option Addr}
    {sl62 : Array (Option Value)}
    {oc62 kV62 dc62 pm62 cd62 ct62 : Value}
    {f63 : Addr}
    {od63 an63 : Option Addr}
    {sl63 : Array (Option Value)}
    {oc63 kV63 dc63 pm63 cd63 ct63 : Value}
    {f64 : Addr}
    {od64 an64 : Option Addr}
    {sl64 : Array (Option Value)}
    {oc64 kV64 dc64 pm64 cd64 ct64 : Value}
    {f65 : Addr}
    {od65 an65 : Option Addr}
    {sl65 : Array (Option Value)}
    {oc65 kV65 dc65 pm65 cd65 ct65 : Value}
    (X : K.In h) (G : h.Ns mainGlobals mg) (hfa : mg "law" = some (.ref fa))
    (z_super : PySem.W.nsIn K mainGlobals "super" = some none)
    (z_list : PySem.W.nsIn K mainGlobals "list" = some none)
    (z_sorted : PySem.W.nsIn K mainGlobals "sorted" = some none)
    (z_len : PySem.W.nsIn K mainGlobals "len" = some none)
    (z_all : PySem.W.nsIn K mainGlobals "all" = some none)
    (z_any : PySem.W.nsIn K mainGlobals "any" = some none)
    (z_isinstance : PySem.W.nsIn K mainGlobals "isinstance" = some none)
    (z_int : PySem.W.nsIn K mainGlobals "int" = some none)
    (z_range : PySem.W.nsIn K mainGlobals "range" = some none)
    (z_tuple : PySem.W.nsIn K mainGlobals "tuple" = some none)
    (z_enumerate : PySem.W.nsIn K mainGlobals "enumerate" = some none)
    (z_iter : PySem.W.nsIn K mainGlobals "iter" = some none)
    (z_zip : PySem.W.nsIn K mainGlobals "zip" = some none)
    (z_abs : PySem.W.nsIn K mainGlobals "abs" = some none)
    (z_bool : PySem.W.nsIn K mainGlobals "bool" = some none)
    (z_str : PySem.W.nsIn K mainGlobals "str" = some none)
    (z_dict : PySem.W.nsIn K mainGlobals "dict" = some none)
    (gL : PySem.W.nsIn K mainGlobals "LETTERS" = some (some (.str lets tk1)))
    (gS : PySem.W.nsIn K mainGlobals "SIGNS" = some (some (.str sigs tk2)))
    (gM : PySem.W.nsIn K mainGlobals "MOST_LETTERS" = some (some (.int 8 tk3)))
    (gG : PySem.W.nsIn K mainGlobals "MOST_GOODS" = some (some (.int 4 tk4)))
    (gY : PySem.W.nsIn K mainGlobals "MOST_WAYS" = some (some (.int 8 tk5)))
    (aM : PySem.W.nsIn K mainGlobals "BadNumber" = some (some (.ref M)))
    (xM : K.lookup M = some (excClassObj nm0 q0 M N0 bs0 bm0 true sn0 sub0 ab0 col0 dd0 m0_0 m0_1 m0_2 m0_3 m0_5 "ValueError.__new__"))
    (bmM : PySem.HandSPX.refsVE bm0 = true)
    (saM : PySem.W.findIn K (.ref M) "__setattr__" = some (some (.builtin "object.__setattr__")))
    (eM : PySem.W.subIn K (.ref M) (.type "BaseException") = some true)
    (tM : PySem.W.typeIn K (.ref M) = some (.type "type"))
    (kM : PySem.W.keepIn K (.ref M) = true)
    (a0 : PySem.W.findIn K (.ref M) "__init__" = some (some (.ref f0)))
    (t0 : PySem.W.typeIn K (.ref f0) = some (.type "function"))
    (l0 : K.lookup f0 = some ⟨oc0, od0, .func ((supF "BadNumber.__init__" s_BadNumber___init__ cc0 cd0).fd dc0 pm0 ct0), sl0⟩)
    (c0 : PySem.W.codeIn K (.ref cd0) "BadNumber.__init__" = true)
    (lc0 : K.lookup cd0 = some ⟨ccl0, cdd0, .fields vs0, ccs0⟩)
    (v0 : vs0[2]? = some (.str file0 tf0))
    (fil0 : ((PySem.Challenge.pw_waysofmaking_k27_whole_hours_of_many_dem).main.file == file0) = true)
    (ll0 : K.lookup cc0 = some ⟨clc0, cld0, .cell (some (.ref M)), csl0⟩)
    (sbM : PySem.W.mroIn K M (.ref M) = some true)
    (suM : PySem.W.ks_superIn K M M "__init__" = some (some (.builtin "ValueError.__init__")))
    (svM : PySem.W.subIn K (.ref M) (.type "ValueError") = some true)
    (opM : PySem.W.nsIn K cStatics "thirdparty.any" = some none)
    (teM : PySem.W.exmOne K (.ref M) (.ref M) = some true)
    (nM_n : PySem.W.findIn K (.ref M) "n" = some none)
    (gaM : PySem.W.findIn K (.ref M) "__getattribute__" = some (some (.builtin "BaseException.__getattribute__")))
    (ggM : PySem.W.findIn K (.ref M) "__getattr__" = some none)
    (hdM : PySem.W.hasDictIn K M = true)
    (aN : PySem.W.nsIn K mainGlobals "BadName" = some (some (.ref N)))
    (xN : K.lookup N = some (excClassObj nm1 q1 N N1 bs1 bm1 true sn1 sub1 ab1 col1 dd1 m1_0 m1_1 m1_2 m1_3 m1_5 "ValueError.__new__"))
    (bmN : PySem.HandSPX.refsVE bm1 = true)
    (saN : PySem.W.findIn K (.ref N) "__setattr__" = some (some (.builtin "object.__setattr__")))
    (eN : PySem.W.subIn K (.ref N) (.type "BaseException") = some true)
    (tN : PySem.W.typeIn K (.ref N) = some (.type "type"))
    (kN : PySem.W.keepIn K (.ref N) = true)
    (a1 : PySem.W.findIn K (.ref N) "__init__" = some (some (.ref f1)))
    (t1 : PySem.W.typeIn K (.ref f1) = some (.type "function"))
    (l1 : K.lookup f1 = some ⟨oc1, od1, .func ((supF "BadName.__init__" s_BadName___init__ cc1 cd1).fd dc1 pm1 ct1), sl1⟩)
    (c1 : PySem.W.codeIn K (.ref cd1) "BadName.__init__" = true)
    (lc1 : K.lookup cd1 = some ⟨ccl1, cdd1, .fields vs1, ccs1⟩)
    (v1 : vs1[2]? = some (.str file1 tf1))
    (fil1 : ((PySem.Challenge.pw_waysofmaking_k27_whole_hours_of_many_dem).main.file == file1) = true)
    (ll1 : K.lookup cc1 = some ⟨clc1, cld1, .cell (some (.ref N)), csl1⟩)
    (sbN : PySem.W.mroIn K N (.ref N) = some true)
    (suN : PySem.W.ks_superIn K N N "__init__" = some (some (.builtin "ValueError.__init__")))
    (svN : PySem.W.subIn K (.ref N) (.type "ValueError") = some true)
    (opN : PySem.W.nsIn K cStatics "thirdparty.any" = some none)
    (teN : PySem.W.exmOne K (.ref N) (.ref N) = some true)
    (nN_name : PySem.W.findIn K (.ref N) "name" = some none)
    (gaN : PySem.W.findIn K (.ref N) "__getattribute__" = some (some (.builtin "BaseException.__getattribute__")))
    (ggN : PySem.W.findIn K (.ref N) "__getattr__" = some none)
    (hdN : PySem.W.hasDictIn K N = true)
    (aD : PySem.W.nsIn K mainGlobals "DuplicateName" = some (some (.ref D)))
    (xD : K.lookup D = some (excClassObj nm2 q2 D N2 bs2 bm2 true sn2 sub2 ab2 col2 dd2 m2_0 m2_1 m2_2 m2_3 m2_5 "ValueError.__new__"))
    (bmD : PySem.HandSPX.refsVE bm2 = true)
    (saD : PySem.W.findIn K (.ref D) "__setattr__" = some (some (.builtin "object.__setattr__")))
    (eD : PySem.W.subIn K (.ref D) (.type "BaseException") = some true)
    (tD : PySem.W.typeIn K (.ref D) = some (.type "type"))
    (kD : PySem.W.keepIn K (.ref D) = true)
    (a2 : PySem.W.findIn K (.ref D) "__init__" = some (some (.ref f2)))
    (t2 : PySem.W.typeIn K (.ref f2) = some (.type "function"))
    (l2 : K.lookup f2 = some ⟨oc2, od2, .func ((supF "DuplicateName.__init__" s_DuplicateName___init__ cc2 cd2).fd dc2 pm2 ct2), sl2⟩)
    (c2 : PySem.W.codeIn K (.ref cd2) "DuplicateName.__init__" = true)
    (lc2 : K.lookup cd2 = some ⟨ccl2, cdd2, .fields vs2, ccs2⟩)
    (v2 : vs2[2]? = some (.str file2 tf2))
    (fil2 : ((PySem.Challenge.pw_waysofmaking_k27_whole_hours_of_many_dem).main.file == file2) = true)
    (ll2 : K.lookup cc2 = some ⟨clc2, cld2, .cell (some (.ref D)), csl2⟩)
    (sbD : PySem.W.mroIn K D (.ref D) = some true)
    (suD : PySem.W.ks_superIn K D D "__init__" = some (some (.builtin "ValueError.__init__")))
    (svD : PySem.W.subIn K (.ref D) (.type "ValueError") = some true)
    (opD : PySem.W.nsIn K cStatics "thirdparty.any" = some none)
    (teD : PySem.W.exmOne K (.ref D) (.ref D) = some true)
    (nD_name : PySem.W.findIn K (.ref D) "name" = some none)
    (gaD : PySem.W.findIn K (.ref D) "__getattribute__" = some (some (.builtin "BaseException.__getattribute__")))
    (ggD : PySem.W.findIn K (.ref D) "__getattr__" = some none)
    (hdD : PySem.W.hasDictIn K D = true)
    (aU : PySem.W.nsIn K mainGlobals "UnknownName" = some (some (.ref U)))
    (xU : K.lookup U = some (excClassObj nm3 q3 U N3 bs3 bm3 true sn3 sub3 ab3 col3 dd3 m3_0 m3_1 m3_2 m3_3 m3_5 "ValueError.__new__"))
    (bmU : PySem.HandSPX.refsVE bm3 = true)
    (saU : PySem.W.findIn K (.ref U) "__setattr__" = some (some (.builtin "object.__setattr__")))
    (eU : PySem.W.subIn K (.ref U) (.type "BaseException") = some true)
    (tU : PySem.W.typeIn K (.ref U) = some (.type "type"))
    (kU : PySem.W.keepIn K (.ref U) = true)
    (a3 : PySem.W.findIn K (.ref U) "__init__" = some (some (.ref f3)))
    (t3 : PySem.W.typeIn K (.ref f3) = some (.type "function"))
    (l3 : K.lookup f3 = some ⟨oc3, od3, .func ((supF "UnknownName.__init__" s_UnknownName___init__ cc3 cd3).fd dc3 pm3 ct3), sl3⟩)
    (c3 : PySem.W.codeIn K (.ref cd3) "UnknownName.__init__" = true)
    (lc3 : K.lookup cd3 = some ⟨ccl3, cdd3, .fields vs3, ccs3⟩)
    (v3 : vs3[2]? = some (.str file3 tf3))
    (fil3 : ((PySem.Challenge.pw_waysofmaking_k27_whole_hours_of_many_dem).main.file == file3) = true)
    (ll3 : K.lookup cc3 = some ⟨clc3, cld3, .cell (some (.ref U)), csl3⟩)
    (sbU : PySem.W.mroIn K U (.ref U) = some true)
    (suU : PySem.W.ks_superIn K U U "__init__" = some (some (.builtin "ValueError.__init__")))
    (svU : PySem.W.subIn K (.ref U) (.type "ValueError") = some true)
    (opU : PySem.W.nsIn K cStatics "thirdparty.any" = some none)
    (teU : PySem.W.exmOne K (.ref U) (.ref U) = some true)
    (nU_name : PySem.W.findIn K (.ref U) "name" = some none)
    (gaU : PySem.W.findIn K (.ref U) "__getattribute__" = some (some (.builtin "BaseException.__getattribute__")))
    (ggU : PySem.W.findIn K (.ref U) "__getattr__" = some none)
    (hdU : PySem.W.hasDictIn K U = true)
    (aV : PySem.W.nsIn K mainGlobals "BadWay" = some (some (.ref V)))
    (xV : K.lookup V = some (excClassObj nm4 q4 V N4 bs4 bm4 true sn4 sub4 ab4 col4 dd4 m4_0 m4_1 m4_2 m4_3 m4_5 "ValueError.__new__"))
    (bmV : PySem.HandSPX.refsVE bm4 = true)
    (saV : PySem.W.findIn K (.ref V) "__setattr__" = some (some (.builtin "object.__setattr__")))
    (eV : PySem.W.subIn K (.ref V) (.type "BaseException") = some true)
    (tV : PySem.W.typeIn K (.ref V) = some (.type "type"))
    (kV : PySem.W.keepIn K (.ref V) = true)
    (a4 : PySem.W.findIn K (.ref V) "__init__" = some (some (.ref f4)))
    (t4 : PySem.W.typeIn K (.ref f4) = some (.type "function"))
    (l4 : K.lookup f4 = some ⟨oc4, od4, .func ((supF "BadWay.__init__" s_BadWay___init__ cc4 cd4).fd dc4 pm4 ct4), sl4⟩)
    (c4 : PySem.W.codeIn K (.ref cd4) "BadWay.__init__" = true)
    (lc4 : K.lookup cd4 = some ⟨ccl4, cdd4, .fields vs4, ccs4⟩)
    (v4 : vs4[2]? = some (.str file4 tf4))
    (fil4 : ((PySem.Challenge.pw_waysofmaking_k27_whole_hours_of_many_dem).main.file == file4) = true)
    (ll4 : K.lookup cc4 = some ⟨clc4, cld4, .cell (some (.ref V)), csl4⟩)
    (sbV : PySem.W.mroIn K V (.ref V) = some true)
    (suV : PySem.W.ks_superIn K V V "__init__" = some (some (.builtin "ValueError.__init__")))
    (svV : PySem.W.subIn K (.ref V) (.type "ValueError") = some true)
    (opV : PySem.W.nsIn K cStatics "thirdparty.any" = some none)
    (teV : PySem.W.exmOne K (.ref V) (.ref V) = some true)
    (nV_at : PySem.W.findIn K (.ref V) "at" = some none)
    (gaV : PySem.W.findIn K (.ref V) "__getattribute__" = some (some (.builtin "BaseException.__getattribute__")))
    (ggV : PySem.W.findIn K (.ref V) "__getattr__" = some none)
    (hdV : PySem.W.hasDictIn K V = true)
    (aQ : PySem.W.nsIn K mainGlobals "NoPlan" = some (some (.ref Q)))
    (xQ : K.lookup Q = some (excClassObj nm5 q5 Q N5 bs5 bm5 true sn5 sub5 ab5 col5 dd5 m5_0 m5_1 m5_2 m5_3 m5_5 "ValueError.__new__"))
    (bmQ : PySem.HandSPX.refsVE bm5 = true)
    (saQ : PySem.W.findIn K (.ref Q) "__setattr__" = some (some (.builtin "object.__setattr__")))
    (eQ : PySem.W.subIn K (.ref Q) (.type "BaseException") = some true)
    (tQ : PySem.W.typeIn K (.ref Q) = some (.type "type"))
    (kQ : PySem.W.keepIn K (.ref Q) = true)
    (a5 : PySem.W.findIn K (.ref Q) "__init__" = some (some (.ref f5)))
    (t5 : PySem.W.typeIn K (.ref f5) = some (.type "function"))
    (l5 : K.lookup f5 = some ⟨oc5, od5, .func ((supF "NoPlan.__init__" s_NoPlan___init__ cc5 cd5).fd dc5 pm5 ct5), sl5⟩)
    (c5 : PySem.W.codeIn K (.ref cd5) "NoPlan.__init__" = true)
    (lc5 : K.lookup cd5 = some ⟨ccl5, cdd5, .fields vs5, ccs5⟩)
    (v5 : vs5[2]? = some (.str file5 tf5))
    (fil5 : ((PySem.Challenge.pw_waysofmaking_k27_whole_hours_of_many_dem).main.file == file5) = true)
    (ll5 : K.lookup cc5 = some ⟨clc5, cld5, .cell (some (.ref Q)), csl5⟩)
    (sbQ : PySem.W.mroIn K Q (.ref Q) = some true)
    (suQ : PySem.W.ks_superIn K Q Q "__init__" = some (some (.builtin "ValueError.__init__")))
    (svQ : PySem.W.subIn K (.ref Q) (.type "ValueError") = some true)
    (opQ : PySem.W.nsIn K cStatics "thirdparty.any" = some none)
    (teQ : PySem.W.exmOne K (.ref Q) (.ref Q) = some true)
    (nQ_prices : PySem.W.findIn K (.ref Q) "prices" = some none)
    (gaQ : PySem.W.findIn K (.ref Q) "__getattribute__" = some (some (.builtin "BaseException.__getattribute__")))
    (ggQ : PySem.W.findIn K (.ref Q) "__getattr__" = some none)
    (hdQ : PySem.W.hasDictIn K Q = true)
    (aW : PySem.W.nsIn K mainGlobals "Way" = some (some (.ref W)))
    (kcW : PySem.W.keepIn K (.ref W) = true)
    (mkW : PySem.W.makesIn K W = true)
    (pgW : PySem.W.plainGet K W Str.empty = true)
    (hdW : PySem.W.hasDictIn K W = true)
    (poW : PySem.W.plainOver K W = true)
    (saW : PySem.W.findIn K (.ref W) "__setattr__" = some (some (.builtin "object.__setattr__")))
    (sfW : PySem.W.selfFirst K W = true)
    (caW : PySem.W.findIn K (.ref W) "__class__" = some (some (.builtin "object.__class__")))
    (cnW : PySem.W.specialIn K (.builtin "object.__class__") "__get__" = some (some (.builtin "getset_descriptor.__get__")))
    (ctW : PySem.W.takesIn K (.builtin "object.__class__") = some true)
    (cmW : PySem.W.mroIn K W (.type "object") = some true)
    (nW_inputs : PySem.W.findIn K (.ref W) "inputs" = some none)
    (nW_hours : PySem.W.findIn K (.ref W) "hours" = some none)
    (nW_outputs : PySem.W.findIn K (.ref W) "outputs" = some none)
    (aC : PySem.W.nsIn K mainGlobals "Book" = some (some (.ref C)))
    (kcC : PySem.W.keepIn K (.ref C) = true)
    (mkC : PySem.W.makesIn K C = true)
    (pgC : PySem.W.plainGet K C Str.empty = true)
    (hdC : PySem.W.hasDictIn K C = true)
    (poC : PySem.W.plainOver K C = true)
    (saC : PySem.W.findIn K (.ref C) "__setattr__" = some (some (.builtin "object.__setattr__")))
    (sfC : PySem.W.selfFirst K C = true)
    (caC : PySem.W.findIn K (.ref C) "__class__" = some (some (.builtin "object.__class__")))
    (cnC : PySem.W.specialIn K (.builtin "object.__class__") "__get__" = some (some (.builtin "getset_descriptor.__get__")))
    (ctC : PySem.W.takesIn K (.builtin "object.__class__") = some true)
    (cmC : PySem.W.mroIn K C (.type "object") = some true)
    (nC_names : PySem.W.findIn K (.ref C) "names" = some none)
    (nC_ways : PySem.W.findIn K (.ref C) "ways" = some none)
    (aR : PySem.W.nsIn K mainGlobals "Ratio" = some (some (.ref R)))
    (kcR : PySem.W.keepIn K (.ref R) = true)
    (mkR : PySem.W.makesIn K R = true)
    (pgR : PySem.W.plainGet K R Str.empty = true)
    (hdR : PySem.W.hasDictIn K R = true)
    (poR : PySem.W.plainOver K R = true)
    (saR : PySem.W.findIn K (.ref R) "__setattr__" = some (some (.builtin "object.__setattr__")))
    (sfR : PySem.W.selfFirst K R = true)
    (caR : PySem.W.findIn K (.ref R) "__class__" = some (some (.builtin "object.__class__")))
    (cnR : PySem.W.specialIn K (.builtin "object.__class__") "__get__" = some (some (.builtin "getset_descriptor.__get__")))
    (ctR : PySem.W.takesIn K (.builtin "object.__class__") = some true)
    (cmR : PySem.W.mroIn K R (.type "object") = some true)
    (nR_top : PySem.W.findIn K (.ref R) "top" = some none)
    (nR_bottom : PySem.W.findIn K (.ref R) "bottom" = some none)
    (nfW : PySem.W.notFirst K W (.ref W) = true)
    (nfC : PySem.W.notFirst K C (.ref C) = true)
    (nfR : PySem.W.notFirst K R (.ref R) = true)
    (nfI : PySem.W.notFirst K R (.type "int") = true)
    (nfS : PySem.W.notFirst K R (.type "str") = true)
    (ksI : PySem.W.kitOne K (.type "int") (.ref R) = some false)
    (ksS : PySem.W.kitOne K (.type "str") (.ref R) = some false)
    (neR : PySem.W.findIn K (.ref R) "__ne__" = some (some (.builtin "object.__ne__")))
    (fmR : PySem.W.findIn K (.ref R) "__format__" = some (some (.builtin "object.__format__")))
    (teMQ : PySem.W.exmOne K (.ref M) (.ref Q) = some false)
    (teUQ : PySem.W.exmOne K (.ref U) (.ref Q) = some false)
    (a6 : PySem.W.nsIn K mainGlobals "common" = some (some (.ref f6)))
    (l6 : K.lookup f6 = some ⟨oc6, od6, .func (PySem.W.fnOf "common" "common" (defArgs s_common) (defBody s_common) (defScope s_common) .none kV6 dc6 pm6 an6 cd6 ct6), sl6⟩)
    (c6 : PySem.W.codeIn K cd6 "common" = true)
    (k6 : PySem.W.keepIn K (.ref f6) = true)
    (a7 : PySem.W.findIn K (.ref R) "__init__" = some (some (.ref f7)))
    (i7 : PySem.W.isFn K (.ref f7) = true)
    (l7 : K.lookup f7 = some ⟨oc7, od7, .func (PySem.W.fnOf "__init__" "Ratio.__init__" (defArgs s_Ratio___init__) (defBody s_Ratio___init__) (defScope s_Ratio___init__) .none kV7 dc7 pm7 an7 cd7 ct7), sl7⟩)
    (c7 : PySem.W.codeIn K cd7 "Ratio.__init__" = true)
    (k7 : PySem.W.keepIn K (.ref f7) = true)
    (a8 : PySem.W.findIn K (.ref R) "__add__" = some (some (.ref f8)))
    (i8 : PySem.W.isFn K (.ref f8) = true)
    (l8 : K.lookup f8 = some ⟨oc8, od8, .func (PySem.W.fnOf "__add__" "Ratio.__add__" (defArgs s_Ratio___add__) (defBody s_Ratio___add__) (defScope s_Ratio___add__) .none kV8 dc8 pm8 an8 cd8 ct8), sl8⟩)
    (c8 : PySem.W.codeIn K cd8 "Ratio.__add__" = true)
    (k8 : PySem.W.keepIn K (.ref f8) = true)
    (a9 : PySem.W.findIn K (.ref R) "__mul__" = some (some (.ref f9)))
    (i9 : PySem.W.isFn K (.ref f9) = true)
    (l9 : K.lookup f9 = some ⟨oc9, od9, .func (PySem.W.fnOf "__mul__" "Ratio.__mul__" (defArgs s_Ratio___mul__) (defBody s_Ratio___mul__) (defScope s_Ratio___mul__) .none kV9 dc9 pm9 an9 cd9 ct9), sl9⟩)
    (c9 : PySem.W.codeIn K cd9 "Ratio.__mul__" = true)
    (k9 : PySem.W.keepIn K (.ref f9) = true)
    (a10 : PySem.W.findIn K (.ref R) "__eq__" = some (some (.ref f10)))
    (i10 : PySem.W.isFn K (.ref f10) = true)
    (l10 : K.lookup f10 = some ⟨oc10, od10, .func (PySem.W.fnOf "__eq__" "Ratio.__eq__" (defArgs s_Ratio___eq__) (defBody s_Ratio___eq__) (defScope s_Ratio___eq__) .none kV10 dc10 pm10 an10 cd10 ct10), sl10⟩)
    (c10 : PySem.W.codeIn K cd10 "Ratio.__eq__" = true)
    (k10 : PySem.W.keepIn K (.ref f10) = true)
    (a11 : PySem.W.findIn K (.ref R) "under" = some (some (.ref f11)))
    (i11 : PySem.W.isFn K (.ref f11) = true)
    (l11 : K.lookup f11 = some ⟨oc11, od11, .func (PySem.W.fnOf "under" "Ratio.under" (defArgs s_Ratio_under) (defBody s_Ratio_under) (defScope s_Ratio_under) .none kV11 dc11 pm11 an11 cd11 ct11), sl11⟩)
    (c11 : PySem.W.codeIn K cd11 "Ratio.under" = true)
    (k11 : PySem.W.keepIn K (.ref f11) = true)
    (ty12 : PySem.W.typeIn K (.ref R) = some mc12)
    (rd12 : PySem.W.readsIn K R mc12 = true)
    (ga12 : PySem.W.specialIn K (.ref R) "__getattribute__" = some (some (.builtin "type.__getattribute__")))
    (a12 : PySem.W.findCls K (.ref R) mc12 "whole" = some (.get (.builtin "classmethod.__get__") (.ref pc12) .none (.ref R)))
    (rc12 : PySem.W.recIn K pc12 "classmethod" = some (.ref f12 :: rest12))
    (fi12 : PySem.W.fnIn K f12 = true)
    (l12 : K.lookup f12 = some ⟨oc12, od12, .func (PySem.W.fnOf "whole" "Ratio.whole" (defArgs s_Ratio_whole) (defBody s_Ratio_whole) (defScope s_Ratio_whole) .none kV12 dc12 pm12 an12 cd12 ct12), sl12⟩)
    (c12 : PySem.W.codeIn K cd12 "Ratio.whole" = true)
    (k12 : PySem.W.keepIn K (.ref f12) = true)
    (a13 : PySem.W.findIn K (.ref R) "__str__" = some (some (.ref f13)))
    (i13 : PySem.W.isFn K (.ref f13) = true)
    (l13 : K.lookup f13 = some ⟨oc13, od13, .func (PySem.W.fnOf "__str__" "Ratio.__str__" (defArgs s_Ratio___str__) (defBody s_Ratio___str__) (defScope s_Ratio___str__) .none kV13 dc13 pm13 an13 cd13 ct13), sl13⟩)
    (c13 : PySem.W.codeIn K cd13 "Ratio.__str__" = true)
    (k13 : PySem.W.keepIn K (.ref f13) = true)
    (a14 : PySem.W.nsIn K mainGlobals "total" = some (some (.ref f14)))
    (l14 : K.lookup f14 = some ⟨oc14, od14, .func (PySem.W.fnOf "total" "total" (defArgs s_total) (defBody s_total) (defScope s_total) .none kV14 dc14 pm14 an14 cd14 ct14), sl14⟩)
    (c14 : PySem.W.codeIn K cd14 "total" = true)
    (k14 : PySem.W.keepIn K (.ref f14) = true)
    (a15 : PySem.W.nsIn K mainGlobals "is_name" = some (some (.ref f15)))
    (l15 : K.lookup f15 = some ⟨oc15, od15, .func (PySem.W.fnOf "is_name" "is_name" (defArgs s_is_name) (defBody s_is_name) (defScope s_is_name) .none kV15 dc15 pm15 an15 cd15 ct15), sl15⟩)
    (c15 : PySem.W.codeIn K cd15 "is_name" = true)
    (k15 : PySem.W.keepIn K (.ref f15) = true)
    (a16 : PySem.W.nsIn K mainGlobals "check_amounts" = some (some (.ref f16)))
    (l16 : K.lookup f16 = some ⟨oc16, od16, .func (PySem.W.fnOf "check_amounts" "check_amounts" (defArgs s_check_amounts) (defBody s_check_amounts) (defScope s_check_amounts) .none kV16 dc16 pm16 an16 cd16 ct16), sl16⟩)
    (c16 : PySem.W.codeIn K cd16 "check_amounts" = true)
    (k16 : PySem.W.keepIn K (.ref f16) = true)
    (a17 : PySem.W.nsIn K mainGlobals "kept_amounts" = some (some (.ref f17)))
    (l17 : K.lookup f17 = some ⟨oc17, od17, .func (PySem.W.fnOf "kept_amounts" "kept_amounts" (defArgs s_kept_amounts) (defBody s_kept_amounts) (defScope s_kept_amounts) .none kV17 dc17 pm17 an17 cd17 ct17), sl17⟩)
    (c17 : PySem.W.codeIn K cd17 "kept_amounts" = true)
    (k17 : PySem.W.keepIn K (.ref f17) = true)
    (a18 : PySem.W.findIn K (.ref W) "__init__" = some (some (.ref f18)))
    (i18 : PySem.W.isFn K (.ref f18) = true)
    (l18 : K.lookup f18 = some ⟨oc18, od18, .func (PySem.W.fnOf "__init__" "Way.__init__" (defArgs s_Way___init__) (defBody s_Way___init__) (defScope s_Way___init__) .none kV18 dc18 pm18 an18 cd18 ct18), sl18⟩)
    (c18 : PySem.W.codeIn K cd18 "Way.__init__" = true)
    (k18 : PySem.W.keepIn K (.ref f18) = true)
    (a19 : PySem.W.findIn K (.ref W) "taken" = some (some (.ref f19)))
    (i19 : PySem.W.isFn K (.ref f19) = true)
    (l19 : K.lookup f19 = some ⟨oc19, od19, .func (PySem.W.fnOf "taken" "Way.taken" (defArgs s_Way_taken) (defBody s_Way_taken) (defScope s_Way_taken) .none kV19 dc19 pm19 an19 cd19 ct19), sl19⟩)
    (c19 : PySem.W.codeIn K cd19 "Way.taken" = true)
    (k19 : PySem.W.keepIn K (.ref f19) = true)
    (a20 : PySem.W.findIn K (.ref W) "made" = some (some (.ref f20)))
    (i20 : PySem.W.isFn K (.ref f20) = true)
    (l20 : K.lookup f20 = some ⟨oc20, od20, .func (PySem.W.fnOf "made" "Way.made" (defArgs s_Way_made) (defBody s_Way_made) (defScope s_Way_made) .none kV20 dc20 pm20 an20 cd20 ct20), sl20⟩)
    (c20 : PySem.W.codeIn K cd20 "Way.made" = true)
    (k20 : PySem.W.keepIn K (.ref f20) = true)
    (a21 : PySem.W.findIn K (.ref W) "goods" = some (some (.ref f21)))
    (i21 : PySem.W.isFn K (.ref f21) = true)
    (l21 : K.lookup f21 = some ⟨oc21, od21, .func (PySem.W.fnOf "goods" "Way.goods" (defArgs s_Way_goods) (defBody s_Way_goods) (defScope s_Way_goods) .none kV21 dc21 pm21 an21 cd21 ct21), sl21⟩)
    (c21 : PySem.W.codeIn K cd21 "Way.goods" = true)
    (k21 : PySem.W.keepIn K (.ref f21) = true)
    (a22 : PySem.W.nsIn K mainGlobals "check_goods" = some (some (.ref f22)))
    (l22 : K.lookup f22 = some ⟨oc22, od22, .func (PySem.W.fnOf "check_goods" "check_goods" (defArgs s_check_goods) (defBody s_check_goods) (defScope s_check_goods) .none kV22 dc22 pm22 an22 cd22 ct22), sl22⟩)
    (c22 : PySem.W.codeIn K cd22 "check_goods" = true)
    (k22 : PySem.W.keepIn K (.ref f22) = true)
    (a23 : PySem.W.findIn K (.ref C) "__init__" = some (some (.ref f23)))
    (i23 : PySem.W.isFn K (.ref f23) = true)
    (l23 : K.lookup f23 = some ⟨oc23, od23, .func (PySem.W.fnOf "__init__" "Book.__init__" (defArgs s_Book___init__) (defBody s_Book___init__) (defScope s_Book___init__) .none kV23 dc23 pm23 an23 cd23 ct23), sl23⟩)
    (c23 : PySem.W.codeIn K cd23 "Book.__init__" = true)
    (k23 : PySem.W.keepIn K (.ref f23) = true)
    (a24 : PySem.W.findIn K (.ref C) "__len__" = some (some (.ref f24)))
    (i24 : PySem.W.isFn K (.ref f24) = true)
    (l24 : K.lookup f24 = some ⟨oc24, od24, .func (PySem.W.fnOf "__len__" "Book.__len__" (defArgs s_Book___len__) (defBody s_Book___len__) (defScope s_Book___len__) .none kV24 dc24 pm24 an24 cd24 ct24), sl24⟩)
    (c24 : PySem.W.codeIn K cd24 "Book.__len__" = true)
    (k24 : PySem.W.keepIn K (.ref f24) = true)
    (a25 : PySem.W.findIn K (.ref C) "__iter__" = some (some (.ref f25)))
    (i25 : PySem.W.isFn K (.ref f25) = true)
    (l25 : K.lookup f25 = some ⟨oc25, od25, .func (PySem.W.fnOf "__iter__" "Book.__iter__" (defArgs s_Book___iter__) (defBody s_Book___iter__) (defScope s_Book___iter__) .none kV25 dc25 pm25 an25 cd25 ct25), sl25⟩)
    (c25 : PySem.W.codeIn K cd25 "Book.__iter__" = true)
    (k25 : PySem.W.keepIn K (.ref f25) = true)
    (a26 : PySem.W.findIn K (.ref C) "way" = some (some (.ref f26)))
    (i26 : PySem.W.isFn K (.ref f26) = true)
    (l26 : K.lookup f26 = some ⟨oc26, od26, .func (PySem.W.fnOf "way" "Book.way" (defArgs s_Book_way) (defBody s_Book_way) (defScope s_Book_way) .none kV26 dc26 pm26 an26 cd26 ct26), sl26⟩)
    (c26 : PySem.W.codeIn K cd26 "Book.way" = true)
    (k26 : PySem.W.keepIn K (.ref f26) = true)
    (a27 : PySem.W.findIn K (.ref C) "check_good" = some (some (.ref f27)))
    (i27 : PySem.W.isFn K (.ref f27) = true)
    (l27 : K.lookup f27 = some ⟨oc27, od27, .func (PySem.W.fnOf "check_good" "Book.check_good" (defArgs s_Book_check_good) (defBody s_Book_check_good) (defScope s_Book_check_good) .none kV27 dc27 pm27 an27 cd27 ct27), sl27⟩)
    (c27 : PySem.W.codeIn K cd27 "Book.check_good" = true)
    (k27 : PySem.W.keepIn K (.ref f27) = true)
    (a28 : PySem.W.findIn K (.ref C) "net" = some (some (.ref f28)))
    (i28 : PySem.W.isFn K (.ref f28) = true)
    (l28 : K.lookup f28 = some ⟨oc28, od28, .func (PySem.W.fnOf "net" "Book.net" (defArgs s_Book_net) (defBody s_Book_net) (defScope s_Book_net) .none kV28 dc28 pm28 an28 cd28 ct28), sl28⟩)
    (c28 : PySem.W.codeIn K cd28 "Book.net" = true)
    (k28 : PySem.W.keepIn K (.ref f28) = true)
    (a29 : PySem.W.findIn K (.ref R) "__sub__" = some (some (.ref f29)))
    (i29 : PySem.W.isFn K (.ref f29) = true)
    (l29 : K.lookup f29 = some ⟨oc29, od29, .func (PySem.W.fnOf "__sub__" "Ratio.__sub__" (defArgs s_Ratio___sub__) (defBody s_Ratio___sub__) (defScope s_Ratio___sub__) .none kV29 dc29 pm29 an29 cd29 ct29), sl29⟩)
    (c29 : PySem.W.codeIn K cd29 "Ratio.__sub__" = true)
    (k29 : PySem.W.keepIn K (.ref f29) = true)
    (a30 : PySem.W.findIn K (.ref R) "__neg__" = some (some (.ref f30)))
    (i30 : PySem.W.isFn K (.ref f30) = true)
    (l30 : K.lookup f30 = some ⟨oc30, od30, .func (PySem.W.fnOf "__neg__" "Ratio.__neg__" (defArgs s_Ratio___neg__) (defBody s_Ratio___neg__) (defScope s_Ratio___neg__) .none kV30 dc30 pm30 an30 cd30 ct30), sl30⟩)
    (c30 : PySem.W.codeIn K cd30 "Ratio.__neg__" = true)
    (k30 : PySem.W.keepIn K (.ref f30) = true)
    (a31 : PySem.W.findIn K (.ref R) "quotient" = some (some (.ref f31)))
    (i31 : PySem.W.isFn K (.ref f31) = true)
    (l31 : K.lookup f31 = some ⟨oc31, od31, .func (PySem.W.fnOf "quotient" "Ratio.quotient" (defArgs s_Ratio_quotient) (defBody s_Ratio_quotient) (defScope s_Ratio_quotient) .none kV31 dc31 pm31 an31 cd31 ct31), sl31⟩)
    (c31 : PySem.W.codeIn K cd31 "Ratio.quotient" = true)
    (k31 : PySem.W.keepIn K (.ref f31) = true)
    (aS : PySem.W.nsIn K mainGlobals "Sheet" = some (some (.ref S)))
    (kcS : PySem.W.keepIn K (.ref S) = true)
    (mkS : PySem.W.makesIn K S = true)
    (pgS : PySem.W.plainGet K S Str.empty = true)
    (hdS : PySem.W.hasDictIn K S = true)
    (poS : PySem.W.plainOver K S = true)
    (saS : PySem.W.findIn K (.ref S) "__setattr__" = some (some (.builtin "object.__setattr__")))
    (nS_columns : PySem.W.findIn K (.ref S) "columns" = some none)
    (nS_count : PySem.W.findIn K (.ref S) "count" = some none)
    (nS_lines : PySem.W.findIn K (.ref S) "lines" = some none)
    (nS_goal : PySem.W.findIn K (.ref S) "goal" = some none)
    (nS_basis : PySem.W.findIn K (.ref S) "basis" = some none)
    (a32 : PySem.W.findIn K (.ref S) "entering" = some (some (.ref f32)))
    (i32 : PySem.W.isFn K (.ref f32) = true)
    (l32 : K.lookup f32 = some ⟨oc32, od32, .func (PySem.W.fnOf "entering" "Sheet.entering" (defArgs s_Sheet_entering) (defBody s_Sheet_entering) (defScope s_Sheet_entering) .none kV32 dc32 pm32 an32 cd32 ct32), sl32⟩)
    (c32 : PySem.W.codeIn K cd32 "Sheet.entering" = true)
    (k32 : PySem.W.keepIn K (.ref f32) = true)
    (a33 : PySem.W.findIn K (.ref S) "leaving" = some (some (.ref f33)))
    (i33 : PySem.W.isFn K (.ref f33) = true)
    (l33 : K.lookup f33 = some ⟨oc33, od33, .func (PySem.W.fnOf "leaving" "Sheet.leaving" (defArgs s_Sheet_leaving) (defBody s_Sheet_leaving) (defScope s_Sheet_leaving) .none kV33 dc33 pm33 an33 cd33 ct33), sl33⟩)
    (c33 : PySem.W.codeIn K cd33 "Sheet.leaving" = true)
    (k33 : PySem.W.keepIn K (.ref f33) = true)
    (a34 : PySem.W.findIn K (.ref S) "turn" = some (some (.ref f34)))
    (i34 : PySem.W.isFn K (.ref f34) = true)
    (l34 : K.lookup f34 = some ⟨oc34, od34, .func (PySem.W.fnOf "turn" "Sheet.turn" (defArgs s_Sheet_turn) (defBody s_Sheet_turn) (defScope s_Sheet_turn) .none kV34 dc34 pm34 an34 cd34 ct34), sl34⟩)
    (c34 : PySem.W.codeIn K cd34 "Sheet.turn" = true)
    (k34 : PySem.W.keepIn K (.ref f34) = true)
    (a35 : PySem.W.findIn K (.ref S) "solve" = some (some (.ref f35)))
    (i35 : PySem.W.isFn K (.ref f35) = true)
    (l35 : K.lookup f35 = some ⟨oc35, od35, .func (PySem.W.fnOf "solve" "Sheet.solve" (defArgs s_Sheet_solve) (defBody s_Sheet_solve) (defScope s_Sheet_solve) .none kV35 dc35 pm35 an35 cd35 ct35), sl35⟩)
    (c35 : PySem.W.codeIn K cd35 "Sheet.solve" = true)
    (k35 : PySem.W.keepIn K (.ref f35) = true)
    (a36 : PySem.W.findIn K (.ref S) "multipliers" = some (some (.ref f36)))
    (i36 : PySem.W.isFn K (.ref f36) = true)
    (l36 : K.lookup f36 = some ⟨oc36, od36, .func (PySem.W.fnOf "multipliers" "Sheet.multipliers" (defArgs s_Sheet_multipliers) (defBody s_Sheet_multipliers) (defScope s_Sheet_multipliers) .none kV36 dc36 pm36 an36 cd36 ct36), sl36⟩)
    (c36 : PySem.W.codeIn K cd36 "Sheet.multipliers" = true)
    (k36 : PySem.W.keepIn K (.ref f36) = true)
    (a37 : PySem.W.findIn K (.ref S) "point" = some (some (.ref f37)))
    (i37 : PySem.W.isFn K (.ref f37) = true)
    (l37 : K.lookup f37 = some ⟨oc37, od37, .func (PySem.W.fnOf "point" "Sheet.point" (defArgs s_Sheet_point) (defBody s_Sheet_point) (defScope s_Sheet_point) .none kV37 dc37 pm37 an37 cd37 ct37), sl37⟩)
    (c37 : PySem.W.codeIn K cd37 "Sheet.point" = true)
    (k37 : PySem.W.keepIn K (.ref f37) = true)
    (a38 : PySem.W.findIn K (.ref S) "ray" = some (some (.ref f38)))
    (i38 : PySem.W.isFn K (.ref f38) = true)
    (l38 : K.lookup f38 = some ⟨oc38, od38, .func (PySem.W.fnOf "ray" "Sheet.ray" (defArgs s_Sheet_ray) (defBody s_Sheet_ray) (defScope s_Sheet_ray) .none kV38 dc38 pm38 an38 cd38 ct38), sl38⟩)
    (c38 : PySem.W.codeIn K cd38 "Sheet.ray" = true)
    (k38 : PySem.W.keepIn K (.ref f38) = true)
    (a39 : PySem.W.findIn K (.ref S) "__init__" = some (some (.ref f39)))
    (i39 : PySem.W.isFn K (.ref f39) = true)
    (l39 : K.lookup f39 = some ⟨oc39, od39, .func (PySem.W.fnOf "__init__" "Sheet.__init__" (defArgs s_Sheet___init__) (defBody s_Sheet___init__) (defScope s_Sheet___init__) .none kV39 dc39 pm39 an39 cd39 ct39), sl39⟩)
    (c39 : PySem.W.codeIn K cd39 "Sheet.__init__" = true)
    (k39 : PySem.W.keepIn K (.ref f39) = true)
    (a40 : PySem.W.nsIn K mainGlobals "check_demand" = some (some (.ref f40)))
    (l40 : K.lookup f40 = some ⟨oc40, od40, .func (PySem.W.fnOf "check_demand" "check_demand" (defArgs s_check_demand) (defBody s_check_demand) (defScope s_check_demand) .none kV40 dc40 pm40 an40 cd40 ct40), sl40⟩)
    (c40 : PySem.W.codeIn K cd40 "check_demand" = true)
    (k40 : PySem.W.keepIn K (.ref f40) = true)
    (a41 : PySem.W.nsIn K mainGlobals "amount" = some (some (.ref f41)))
    (l41 : K.lookup f41 = some ⟨oc41, od41, .func (PySem.W.fnOf "amount" "amount" (defArgs s_amount) (defBody s_amount) (defScope s_amount) .none kV41 dc41 pm41 an41 cd41 ct41), sl41⟩)
    (c41 : PySem.W.codeIn K cd41 "amount" = true)
    (k41 : PySem.W.keepIn K (.ref f41) = true)
    (a42 : PySem.W.nsIn K mainGlobals "sheet_of" = some (some (.ref f42)))
    (l42 : K.lookup f42 = some ⟨oc42, od42, .func (PySem.W.fnOf "sheet_of" "sheet_of" (defArgs s_sheet_of) (defBody s_sheet_of) (defScope s_sheet_of) .none kV42 dc42 pm42 an42 cd42 ct42), sl42⟩)
    (c42 : PySem.W.codeIn K cd42 "sheet_of" = true)
    (k42 : PySem.W.keepIn K (.ref f42) = true)
    (a43 : PySem.W.nsIn K mainGlobals "solved" = some (some (.ref f43)))
    (l43 : K.lookup f43 = some ⟨oc43, od43, .func (PySem.W.fnOf "solved" "solved" (defArgs s_solved) (defBody s_solved) (defScope s_solved) .none kV43 dc43 pm43 an43 cd43 ct43), sl43⟩)
    (c43 : PySem.W.codeIn K cd43 "solved" = true)
    (k43 : PySem.W.keepIn K (.ref f43) = true)
    (a44 : PySem.W.nsIn K mainGlobals "cheapest" = some (some (.ref f44)))
    (l44 : K.lookup f44 = some ⟨oc44, od44, .func (PySem.W.fnOf "cheapest" "cheapest" (defArgs s_cheapest) (defBody s_cheapest) (defScope s_cheapest) .none kV44 dc44 pm44 an44 cd44 ct44), sl44⟩)
    (c44 : PySem.W.codeIn K cd44 "cheapest" = true)
    (k44 : PySem.W.keepIn K (.ref f44) = true)
    (a45 : PySem.W.nsIn K mainGlobals "least_hours" = some (some (.ref f45)))
    (l45 : K.lookup f45 = some ⟨oc45, od45, .func (PySem.W.fnOf "least_hours" "least_hours" (defArgs s_least_hours) (defBody s_least_hours) (defScope s_least_hours) .none kV45 dc45 pm45 an45 cd45 ct45), sl45⟩)
    (c45 : PySem.W.codeIn K cd45 "least_hours" = true)
    (k45 : PySem.W.keepIn K (.ref f45) = true)
    (a46 : PySem.W.nsIn K mainGlobals "can_meet" = some (some (.ref f46)))
    (l46 : K.lookup f46 = some ⟨oc46, od46, .func (PySem.W.fnOf "can_meet" "can_meet" (defArgs s_can_meet) (defBody s_can_meet) (defScope s_can_meet) .none kV46 dc46 pm46 an46 cd46 ct46), sl46⟩)
    (c46 : PySem.W.codeIn K cd46 "can_meet" = true)
    (k46 : PySem.W.keepIn K (.ref f46) = true)
    (a47 : PySem.W.findIn K (.ref C) "without" = some (some (.ref f47)))
    (i47 : PySem.W.isFn K (.ref f47) = true)
    (l47 : K.lookup f47 = some ⟨oc47, od47, .func (PySem.W.fnOf "without" "Book.without" (defArgs s_Book_without) (defBody s_Book_without) (defScope s_Book_without) .none kV47 dc47 pm47 an47 cd47 ct47), sl47⟩)
    (c47 : PySem.W.codeIn K cd47 "Book.without" = true)
    (k47 : PySem.W.keepIn K (.ref f47) = true)
    (a48 : PySem.W.nsIn K mainGlobals "check_plan" = some (some (.ref f48)))
    (l48 : K.lookup f48 = some ⟨oc48, od48, .func (PySem.W.fnOf "check_plan" "check_plan" (defArgs s_check_plan) (defBody s_check_plan) (defScope s_check_plan) .none kV48 dc48 pm48 an48 cd48 ct48), sl48⟩)
    (c48 : PySem.W.codeIn K cd48 "check_plan" = true)
    (k48 : PySem.W.keepIn K (.ref f48) = true)
    (a49 : PySem.W.nsIn K mainGlobals "leaves" = some (some (.ref f49)))
    (l49 : K.lookup f49 = some ⟨oc49, od49, .func (PySem.W.fnOf "leaves" "leaves" (defArgs s_leaves) (defBody s_leaves) (defScope s_leaves) .none kV49 dc49 pm49 an49 cd49 ct49), sl49⟩)
    (c49 : PySem.W.codeIn K cd49 "leaves" = true)
    (k49 : PySem.W.keepIn K (.ref f49) = true)
    (a50 : PySem.W.nsIn K mainGlobals "hours_of" = some (some (.ref f50)))
    (l50 : K.lookup f50 = some ⟨oc50, od50, .func (PySem.W.fnOf "hours_of" "hours_of" (defArgs s_hours_of) (defBody s_hours_of) (defScope s_hours_of) .none kV50 dc50 pm50 an50 cd50 ct50), sl50⟩)
    (c50 : PySem.W.codeIn K cd50 "hours_of" = true)
    (k50 : PySem.W.keepIn K (.ref f50) = true)
    (a51 : PySem.W.nsIn K mainGlobals "meets" = some (some (.ref f51)))
    (l51 : K.lookup f51 = some ⟨oc51, od51, .func (PySem.W.fnOf "meets" "meets" (defArgs s_meets) (defBody s_meets) (defScope s_meets) .none kV51 dc51 pm51 an51 cd51 ct51), sl51⟩)
    (c51 : PySem.W.codeIn K cd51 "meets" = true)
    (k51 : PySem.W.keepIn K (.ref f51) = true)
    (a52 : PySem.W.nsIn K mainGlobals "summed" = some (some (.ref f52)))
    (l52 : K.lookup f52 = some ⟨oc52, od52, .func (PySem.W.fnOf "summed" "summed" (defArgs s_summed) (defBody s_summed) (defScope s_summed) .none kV52 dc52 pm52 an52 cd52 ct52), sl52⟩)
    (c52 : PySem.W.codeIn K cd52 "summed" = true)
    (k52 : PySem.W.keepIn K (.ref f52) = true)
    (a53 : PySem.W.nsIn K mainGlobals "_law_bag" = some (some (.ref f53)))
    (l53 : K.lookup f53 = some ⟨oc53, od53, .func (PySem.W.fnOf "_law_bag" "_law_bag" (defArgs s__law_bag) (defBody s__law_bag) (defScope s__law_bag) .none kV53 dc53 pm53 an53 cd53 ct53), sl53⟩)
    (c53 : PySem.W.codeIn K cd53 "_law_bag" = true)
    (k53 : PySem.W.keepIn K (.ref f53) = true)
    (a54 : PySem.W.nsIn K mainGlobals "_law_at_of" = some (some (.ref f54)))
    (l54 : K.lookup f54 = some ⟨oc54, od54, .func (PySem.W.fnOf "_law_at_of" "_law_at_of" (defArgs s__law_at_of) (defBody s__law_at_of) (defScope s__law_at_of) .none kV54 dc54 pm54 an54 cd54 ct54), sl54⟩)
    (c54 : PySem.W.codeIn K cd54 "_law_at_of" = true)
    (k54 : PySem.W.keepIn K (.ref f54) = true)
    (a55 : PySem.W.nsIn K mainGlobals "_law_draw" = some (some (.ref f55)))
    (l55 : K.lookup f55 = some ⟨oc55, od55, .func (PySem.W.fnOf "_law_draw" "_law_draw" (defArgs s__law_draw) (defBody s__law_draw) (defScope s__law_draw) .none kV55 dc55 pm55 an55 cd55 ct55), sl55⟩)
    (c55 : PySem.W.codeIn K cd55 "_law_draw" = true)
    (k55 : PySem.W.keepIn K (.ref f55) = true)
    (a56 : PySem.W.nsIn K mainGlobals "_law_labels" = some (some (.ref f56)))
    (l56 : K.lookup f56 = some ⟨oc56, od56, .func (PySem.W.fnOf "_law_labels" "_law_labels" (defArgs s__law_labels) (defBody s__law_labels) (defScope s__law_labels) .none kV56 dc56 pm56 an56 cd56 ct56), sl56⟩)
    (c56 : PySem.W.codeIn K cd56 "_law_labels" = true)
    (k56 : PySem.W.keepIn K (.ref f56) = true)
    (a57 : PySem.W.nsIn K mainGlobals "_law_amounts_of" = some (some (.ref f57)))
    (l57 : K.lookup f57 = some ⟨oc57, od57, .func (PySem.W.fnOf "_law_amounts_of" "_law_amounts_of" (defArgs s__law_amounts_of) (defBody s__law_amounts_of) (defScope s__law_amounts_of) .none kV57 dc57 pm57 an57 cd57 ct57), sl57⟩)
    (c57 : PySem.W.codeIn K cd57 "_law_amounts_of" = true)
    (k57 : PySem.W.keepIn K (.ref f57) = true)
    (a58 : PySem.W.nsIn K mainGlobals "_law_row_of" = some (some (.ref f58)))
    (l58 : K.lookup f58 = some ⟨oc58, od58, .func (PySem.W.fnOf "_law_row_of" "_law_row_of" (defArgs s__law_row_of) (defBody s__law_row_of) (defScope s__law_row_of) .none kV58 dc58 pm58 an58 cd58 ct58), sl58⟩)
    (c58 : PySem.W.codeIn K cd58 "_law_row_of" = true)
    (k58 : PySem.W.keepIn K (.ref f58) = true)
    (a59 : PySem.W.nsIn K mainGlobals "_law_rows_of" = some (some (.ref f59)))
    (l59 : K.lookup f59 = some ⟨oc59, od59, .func (PySem.W.fnOf "_law_rows_of" "_law_rows_of" (defArgs s__law_rows_of) (defBody s__law_rows_of) (defScope s__law_rows_of) .none kV59 dc59 pm59 an59 cd59 ct59), sl59⟩)
    (c59 : PySem.W.codeIn K cd59 "_law_rows_of" = true)
    (k59 : PySem.W.keepIn K (.ref f59) = true)
    (a60 : PySem.W.nsIn K mainGlobals "_law_book_of" = some (some (.ref f60)))
    (l60 : K.lookup f60 = some ⟨oc60, od60, .func (PySem.W.fnOf "_law_book_of" "_law_book_of" (defArgs s__law_book_of) (defBody s__law_book_of) (defScope s__law_book_of) .none kV60 dc60 pm60 an60 cd60 ct60), sl60⟩)
    (c60 : PySem.W.codeIn K cd60 "_law_book_of" = true)
    (k60 : PySem.W.keepIn K (.ref f60) = true)
    (a61 : PySem.W.nsIn K mainGlobals "_law_demand_of" = some (some (.ref f61)))
    (l61 : K.lookup f61 = some ⟨oc61, od61, .func (PySem.W.fnOf "_law_demand_of" "_law_demand_of" (defArgs s__law_demand_of) (defBody s__law_demand_of) (defScope s__law_demand_of) .none kV61 dc61 pm61 an61 cd61 ct61), sl61⟩)
    (c61 : PySem.W.codeIn K cd61 "_law_demand_of" = true)
    (k61 : PySem.W.keepIn K (.ref f61) = true)
    (a62 : PySem.W.nsIn K mainGlobals "_law_not_more" = some (some (.ref f62)))
    (l62 : K.lookup f62 = some ⟨oc62, od62, .func (PySem.W.fnOf "_law_not_more" "_law_not_more" (defArgs s__law_not_more) (defBody s__law_not_more) (defScope s__law_not_more) .none kV62 dc62 pm62 an62 cd62 ct62), sl62⟩)
    (c62 : PySem.W.codeIn K cd62 "_law_not_more" = true)
    (k62 : PySem.W.keepIn K (.ref f62) = true)
    (a63 : PySem.W.nsIn K mainGlobals "_law_positive" = some (some (.ref f63)))
    (l63 : K.lookup f63 = some ⟨oc63, od63, .func (PySem.W.fnOf "_law_positive" "_law_positive" (defArgs s__law_positive) (defBody s__law_positive) (defScope s__law_positive) .none kV63 dc63 pm63 an63 cd63 ct63), sl63⟩)
    (c63 : PySem.W.codeIn K cd63 "_law_positive" = true)
    (k63 : PySem.W.keepIn K (.ref f63) = true)
    (a64 : PySem.W.nsIn K mainGlobals "_law_ways_fit" = some (some (.ref f64)))
    (l64 : K.lookup f64 = some ⟨oc64, od64, .func (PySem.W.fnOf "_law_ways_fit" "_law_ways_fit" (defArgs s__law_ways_fit) (defBody s__law_ways_fit) (defScope s__law_ways_fit) .none kV64 dc64 pm64 an64 cd64 ct64), sl64⟩)
    (c64 : PySem.W.codeIn K cd64 "_law_ways_fit" = true)
    (k64 : PySem.W.keepIn K (.ref f64) = true)
    (a65 : PySem.W.nsIn K mainGlobals "law" = some (some (.ref f65)))
    (l65 : K.lookup f65 = some ⟨oc65, od65, .func (PySem.W.fnOf "law" "law" (defArgs s_law) (defBody s_law) (defScope s_law) .none kV65 dc65 pm65 an65 cd65 ct65), sl65⟩)
    (c65 : PySem.W.codeIn K cd65 "law" = true)
    (k65 : PySem.W.keepIn K (.ref f65) = true) :
    ∃ fd : FuncData, (∀ (s : Shared) (v : Value), BindsTo s fd ⟨[v], []⟩ [("_law_script", v)]) ∧ ∀ base : Heap, K.In base → base.Ns mainGlobals mg → FnOk PySem.Challenge.pw_waysofmaking_k27_whole_hours_of_many_dem w K mg base (L2.CX PySem.Challenge.pw_waysofmaking_k27_whole_hours_of_many_dem w) 13 fa fd P_law (spM (pLaw K)) := by
  have e := hfa.symm.trans (PySem.W.mg_of X G a65)
  cases e
  refine ⟨PySem.W.fnOf "law" "law" (defArgs s_law) (defBody s_law) (defScope s_law) .none kV65 dc65 pm65 an65 cd65 ct65, fun s v => .of_eq rfl, fun base _ _ => ?_⟩
  have htop : ((PySem.Challenge.pw_waysofmaking_k27_whole_hours_of_many_dem).main.scope.names.lookup ("super" : Str)).isSome = false := by decide +kernel
  have xfM : XfC K M := ⟨gaM, ggM, eM, hdM⟩
  have scM : SupC PySem.Challenge.pw_waysofmaking_k27_whole_hours_of_many_dem K mg "BadNumber" "BadNumber.__init__" s_BadNumber___init__ M f0 cc0 cd0 := ⟨⟨⟨_, _, _, _, _, _, _, _, _, _, _, _, _, _, _, xM, bmM⟩, saM, eM, tM, kM⟩, PySem.W.mg_of X G aM, a0, t0, ⟨_, _, _, _, _, _, l0⟩, c0, ⟨_, _, _, _, _, _, lc0, v0, fil0⟩, ⟨_, _, _, ll0⟩, sbM, PySem.W.mg_none_of X G z_super, suM, svM, opM, htop, teM⟩
  have T_BadNumber : Ke PySem.Challenge.pw_waysofmaking_k27_whole_hours_of_many_dem w K mg base M "BadNumber" "n" 1 prInt := kE_BadNumber scM nM_n
  have xfN : XfC K N := ⟨gaN, ggN, eN, hdN⟩
  have scN : SupC PySem.Challenge.pw_waysofmaking_k27_whole_hours_of_many_dem K mg "BadName" "BadName.__init__" s_BadName___init__ N f1 cc1 cd1 := ⟨⟨⟨_, _, _, _, _, _, _, _, _, _, _, _, _, _, _, xN, bmN⟩, saN, eN, tN, kN⟩, PySem.W.mg_of X G aN, a1, t1, ⟨_, _, _, _, _, _, l1⟩, c1, ⟨_, _, _, _, _, _, lc1, v1, fil1⟩, ⟨_, _, _, ll1⟩, sbN, PySem.W.mg_none_of X G z_super, suN, svN, opN, htop, teN⟩
  have T_BadName : Ke PySem.Challenge.pw_waysofmaking_k27_whole_hours_of_many_dem w K mg base N "BadName" "name" 1 prStr := kE_BadName scN nN_name
  have xfD : XfC K D := ⟨gaD, ggD, eD, hdD⟩
  have scD : SupC PySem.Challenge.pw_waysofmaking_k27_whole_hours_of_many_dem K mg "DuplicateName" "DuplicateName.__init__" s_DuplicateName___init__ D f2 cc2 cd2 := ⟨⟨⟨_, _, _, _, _, _, _, _, _, _, _, _, _, _, _, xD, bmD⟩, saD, eD, tD, kD⟩, PySem.W.mg_of X G aD, a2, t2, ⟨_, _, _, _, _, _, l2⟩, c2, ⟨_, _, _, _, _, _, lc2, v2, fil2⟩, ⟨_, _, _, ll2⟩, sbD, PySem.W.mg_none_of X G z_super, suD, svD, opD, htop, teD⟩
  have T_DuplicateName : Ke PySem.Challenge.pw_waysofmaking_k27_whole_hours_of_many_dem w K mg base D "DuplicateName" "name" 1 prStr := kE_DuplicateName scD nD_name
  have xfU : XfC K U := ⟨gaU, ggU, eU, hdU⟩
  have scU : SupC PySem.Challenge.pw_waysofmaking_k27_whole_hours_of_many_dem K mg "UnknownName" "UnknownName.__init__" s_UnknownName___init__ U f3 cc3 cd3 := ⟨⟨⟨_, _, _, _, _, _, _, _, _, _, _, _, _, _, _, xU, bmU⟩, saU, eU, tU, kU⟩, PySem.W.mg_of X G aU, a3, t3, ⟨_, _, _, _, _, _, l3⟩, c3, ⟨_, _, _, _, _, _, lc3, v3, fil3⟩, ⟨_, _, _, ll3⟩, sbU, PySem.W.mg_none_of X G z_super, suU, svU, opU, htop, teU⟩
  have T_UnknownName : Ke PySem.Challenge.pw_waysofmaking_k27_whole_hours_of_many_dem w K mg base U "UnknownName" "name" 1 prStr := kE_UnknownName scU nU_name
  have xfV : XfC K V := ⟨gaV, ggV, eV, hdV⟩
  have scV : SupC PySem.Challenge.pw_waysofmaking_k27_whole_hours_of_many_dem K mg "BadWay" "BadWay.__init__" s_BadWay___init__ V f4 cc4 cd4 := ⟨⟨⟨_, _, _, _, _, _, _, _, _, _, _, _, _, _, _, xV, bmV⟩, saV, eV, tV, kV⟩, PySem.W.mg_of X G aV, a4, t4, ⟨_, _, _, _, _, _, l4⟩, c4, ⟨_, _, _, _, _, _, lc4, v4, fil4⟩, ⟨_, _, _, ll4⟩, sbV, PySem.W.mg_none_of X G z_super, suV, svV, opV, htop, teV⟩
  have T_BadWay : Ke PySem.Challenge.pw_waysofmaking_k27_whole_hours_of_many_dem w K mg base V "BadWay" "at" 1 prInt := kE_BadWay scV nV_at
  have xfQ : XfC K Q := ⟨gaQ, ggQ, eQ, hdQ⟩
  have scQ : SupC PySem.Challenge.pw_waysofmaking_k27_whole_hours_of_many_dem K mg "NoPlan" "NoPlan.__init__" s_NoPlan___init__ Q f5 cc5 cd5 := ⟨⟨⟨_, _, _, _, _, _, _, _, _, _, _, _, _, _, _, xQ, bmQ⟩, saQ, eQ, tQ, kQ⟩, PySem.W.mg_of X G aQ, a5, t5, ⟨_, _, _, _, _, _, l5⟩, c5, ⟨_, _, _, _, _, _, lc5, v5, fil5⟩, ⟨_, _, _, ll5⟩, sbQ, PySem.W.mg_none_of X G z_super, suQ, svQ, opQ, htop, teQ⟩
  have T_NoPlan : KeD PySem.Challenge.pw_waysofmaking_k27_whole_hours_of_many_dem w K mg base Q "NoPlan" "prices" 1 := kED_NoPlan scQ nQ_prices (PySem.W.mg_none_of X G z_dict)
  have clW : Cls K W := ⟨pgW, hdW, poW, saW⟩
  have cxW : ClsX K W := ⟨clW, sfW, caW, cnW, ctW, cmW⟩
  have clC : Cls K C := ⟨pgC, hdC, poC, saC⟩
  have cxC : ClsX K C := ⟨clC, sfC, caC, cnC, ctC, cmC⟩
  have clR : Cls K R := ⟨pgR, hdR, poR, saR⟩
  have cxR : ClsX K R := ⟨clR, sfR, caR, cnR, ctR, cmR⟩
  have WX : WayX K mg W := ⟨cxW, nW_inputs, nW_hours, nW_outputs, PySem.W.mg_of X G aW, nfW⟩
  have BX : BookX K mg C := ⟨cxC, nC_names, nC_ways, PySem.W.mg_of X G aC, nfC⟩
  have QX : RatX K mg R := ⟨cxR, nR_top, nR_bottom, PySem.W.mg_of X G aR, nfR, nfI, nfS, ksI, ksS, PySem.W.mg_none_of X G z_isinstance, PySem.W.mg_none_of X G z_bool, PySem.W.mg_none_of X G z_len⟩
  have F6 := fun_mk (st := s_common) l6 c6 k6
  have b6 := F6.binds (ps := P_common) fun _ _ _ _ _ _ us hl => match us, hl with | [_, _], _ => rfl
  have T_common : Kf1 PySem.Challenge.pw_waysofmaking_k27_whole_hours_of_many_dem w K mg base "common" 1 pCommon := ⟨f6, _, P_common, PySem.W.mg_of X G a6, k6, b6, kf_common F6 (PySem.W.mg_none_of X G z_abs)⟩
  have F7 := fun_mk (st := s_Ratio___init__) l7 c7 k7
  have b7 := F7.binds (ps := P_Ratio___init__) fun _ _ _ _ _ _ us hl => match us, hl with | [_, _, _], _ => rfl
  have T_Ratio : Kc PySem.Challenge.pw_waysofmaking_k27_whole_hours_of_many_dem w K mg base R "Ratio" 3 (pInit R M) := ⟨f7, _, P_Ratio___init__, PySem.W.mg_of X G aR, ⟨mkR, a7, i7, kcR⟩, b7, kf_init F7 QX T_common T_BadNumber⟩
  have F8 := fun_mk (st := s_Ratio___add__) l8 c8 k8
  have b8 := F8.binds (ps := P_Ratio___add__) fun _ _ _ _ _ _ us hl => match us, hl with | [_, _], _ => rfl
  have T_Ratio___add__ : Ko PySem.Challenge.pw_waysofmaking_k27_whole_hours_of_many_dem w K mg base R "__add__" 5 (pAdd R) := ⟨f8, _, P_Ratio___add__, ⟨a8, i8⟩, b8, kf_add F8 QX T_Ratio⟩
  have F9 := fun_mk (st := s_Ratio___mul__) l9 c9 k9
  have b9 := F9.binds (ps := P_Ratio___mul__) fun _ _ _ _ _ _ us hl => match us, hl with | [_, _], _ => rfl
  have T_Ratio___mul__ : Ko PySem.Challenge.pw_waysofmaking_k27_whole_hours_of_many_dem w K mg base R "__mul__" 5 (pMul R) := ⟨f9, _, P_Ratio___mul__, ⟨a9, i9⟩, b9, kf_mul F9 QX T_Ratio⟩
  have F10 := fun_mk (st := s_Ratio___eq__) l10 c10 k10
  have b10 := F10.binds (ps := P_Ratio___eq__) fun _ _ _ _ _ _ us hl => match us, hl with | [_, _], _ => rfl
  have T_Ratio___eq__ : Ko PySem.Challenge.pw_waysofmaking_k27_whole_hours_of_many_dem w K mg base R "__eq__" 5 (pEq R) := ⟨f10, _, P_Ratio___eq__, ⟨a10, i10⟩, b10, kf_eq F10 QX⟩
  have F11 := fun_mk (st := s_Ratio_under) l11 c11 k11
  have b11 := F11.binds (ps := P_Ratio_under) fun _ _ _ _ _ _ us hl => match us, hl with | [_, _], _ => rfl
  have T_Ratio_under : Km PySem.Challenge.pw_waysofmaking_k27_whole_hours_of_many_dem w K mg base R "under" 5 (pUnder R) := ⟨f11, _, P_Ratio_under, ⟨a11, i11, k11⟩, b11, kf_under F11 QX⟩
  have F12 := fun_mk (st := s_Ratio_whole) l12 c12 k12
  have b12 := F12.binds (ps := P_Ratio_whole) fun _ _ _ _ _ _ us hl => match us, hl with | [_, _], _ => rfl
  have T_Ratio_whole : Kcm PySem.Challenge.pw_waysofmaking_k27_whole_hours_of_many_dem w K mg base R "whole" 5 (pWhole R) := ⟨f12, _, P_Ratio_whole, mc12, pc12, ⟨rd12, ga12⟩, ⟨a12, ⟨_, rc12⟩, fi12⟩, b12, kf_whole F12 QX T_Ratio⟩
  have F13 := fun_mk (st := s_Ratio___str__) l13 c13 k13
  have b13 := F13.binds (ps := P_Ratio___str__) fun _ _ _ _ _ _ us hl => match us, hl with | [_], _ => rfl
  have T_Ratio___str__ : Ko PySem.Challenge.pw_waysofmaking_k27_whole_hours_of_many_dem w K mg base R "__str__" 2 (pStr R) := ⟨f13, _, P_Ratio___str__, ⟨a13, i13⟩, b13, kf_str F13 QX (PySem.W.mg_none_of X G z_str)⟩
  have F14 := fun_mk (st := s_total) l14 c14 k14
  have b14 := F14.binds (ps := P_total) fun _ _ _ _ _ _ us hl => match us, hl with | [_], _ => rfl
  have T_total : Kf1 PySem.Challenge.pw_waysofmaking_k27_whole_hours_of_many_dem w K mg base "total" 7 (pTotal R) := ⟨f14, _, P_total, PySem.W.mg_of X G a14, k14, b14, kf_total F14 QX T_Ratio_whole T_Ratio___add__⟩
  have T_BadNumberR : Ke PySem.Challenge.pw_waysofmaking_k27_whole_hours_of_many_dem w K mg base M "BadNumber" "n" 4 (prRat R) := kER_BadNumber scM nM_n T_Ratio___str__ ⟨fmR, cmR⟩
  have RX : RtX PySem.Challenge.pw_waysofmaking_k27_whole_hours_of_many_dem w K mg base R M := ⟨QX, T_Ratio, T_Ratio_whole, T_Ratio___add__, T_Ratio___mul__, T_Ratio___eq__, T_Ratio_under⟩
  have F15 := fun_mk (st := s_is_name) l15 c15 k15
  have b15 := F15.binds (ps := P_is_name) fun _ _ _ _ _ _ us hl => match us, hl with | [_], _ => rfl
  have T_is_name : Kf1 PySem.Challenge.pw_waysofmaking_k27_whole_hours_of_many_dem w K mg base "is_name" 2 pName := ⟨f15, _, P_is_name, PySem.W.mg_of X G a15, k15, b15, kf_is_name F15 (PySem.W.mg_of X G gL) (PySem.W.mg_of X G gS) (PySem.W.mg_of X G gM) (PySem.W.mg_none_of X G z_len) (PySem.W.mg_none_of X G z_all)⟩
  have F16 := fun_mk (st := s_check_amounts) l16 c16 k16
  have b16 := F16.binds (ps := P_check_amounts) fun _ _ _ _ _ _ us hl => match us, hl with | [_], _ => rfl
  have T_check_amounts : Kf1 PySem.Challenge.pw_waysofmaking_k27_whole_hours_of_many_dem w K mg base "check_amounts" 4 (pChk N M) := ⟨f16, _, P_check_amounts, PySem.W.mg_of X G a16, k16, b16, kf_check F16 T_is_name T_BadName T_BadNumber (PySem.W.mg_none_of X G z_list) (PySem.W.mg_none_of X G z_sorted)⟩
  have F17 := fun_mk (st := s_kept_amounts) l17 c17 k17
  have b17 := F17.binds (ps := P_kept_amounts) fun _ _ _ _ _ _ us hl => match us, hl with | [_], _ => rfl
  have T_kept_amounts : Kf1 PySem.Challenge.pw_waysofmaking_k27_whole_hours_of_many_dem w K mg base "kept_amounts" 2 pKept := ⟨f17, _, P_kept_amounts, PySem.W.mg_of X G a17, k17, b17, kf_kept F17 (PySem.W.mg_none_of X G z_list) (PySem.W.mg_none_of X G z_sorted)⟩
  have F18 := fun_mk (st := s_Way___init__) l18 c18 k18
  have b18 := F18.binds (ps := P_Way___init__) fun _ _ _ _ _ _ us hl => match us, hl with | [_, _, _, _], _ => rfl
  have T_Way : Kc PySem.Challenge.pw_waysofmaking_k27_whole_hours_of_many_dem w K mg base W "Way" 6 (pWayI W N M) := ⟨f18, _, P_Way___init__, PySem.W.mg_of X G aW, ⟨mkW, a18, i18, kcW⟩, b18, kf_winit F18 WX T_check_amounts T_kept_amounts T_BadNumber⟩
  have F19 := fun_mk (st := s_Way_taken) l19 c19 k19
  have b19 := F19.binds (ps := P_Way_taken) fun _ _ _ _ _ _ us hl => match us, hl with | [_, _], _ => rfl
  have T_Way_taken : Km PySem.Challenge.pw_waysofmaking_k27_whole_hours_of_many_dem w K mg base W "taken" 2 (pTaken W) := ⟨f19, _, P_Way_taken, ⟨a19, i19, k19⟩, b19, kf_taken F19 WX⟩
  have F20 := fun_mk (st := s_Way_made) l20 c20 k20
  have b20 := F20.binds (ps := P_Way_made) fun _ _ _ _ _ _ us hl => match us, hl with | [_, _], _ => rfl
  have T_Way_made : Km PySem.Challenge.pw_waysofmaking_k27_whole_hours_of_many_dem w K mg base W "made" 2 (pMade W) := ⟨f20, _, P_Way_made, ⟨a20, i20, k20⟩, b20, kf_made F20 WX⟩
  have F21 := fun_mk (st := s_Way_goods) l21 c21 k21
  have b21 := F21.binds (ps := P_Way_goods) fun _ _ _ _ _ _ us hl => match us, hl with | [_], _ => rfl
  have T_Way_goods : Kmn PySem.Challenge.pw_waysofmaking_k27_whole_hours_of_many_dem w K mg base W "goods" 1 (pGoods W) := ⟨f21, _, P_Way_goods, ⟨a21, i21, k21⟩, b21, kf_goods F21 WX (PySem.W.mg_none_of X G z_list) (PySem.W.mg_none_of X G z_sorted)⟩
  have F22 := fun_mk (st := s_check_goods) l22 c22 k22
  have b22 := F22.binds (ps := P_check_goods) fun _ _ _ _ _ _ us hl => match us, hl with | [_, _], _ => rfl
  have T_check_goods : Kf1 PySem.Challenge.pw_waysofmaking_k27_whole_hours_of_many_dem w K mg base "check_goods" 3 (pChkG W U) := ⟨f22, _, P_check_goods, PySem.W.mg_of X G a22, k22, b22, kf_chkg F22 WX T_Way_goods T_UnknownName⟩
  have F23 := fun_mk (st := s_Book___init__) l23 c23 k23
  have b23 := F23.binds (ps := P_Book___init__) fun _ _ _ _ _ _ us hl => match us, hl with | [_, _, _], _ => rfl
  have T_Book : Kc PySem.Challenge.pw_waysofmaking_k27_whole_hours_of_many_dem w K mg base C "Book" 5 (pBookI C W M N D U) := ⟨f23, _, P_Book___init__, PySem.W.mg_of X G aC, ⟨mkC, a23, i23, kcC⟩, b23, kf_binit F23 BX T_check_goods T_is_name T_BadNumber T_BadName T_DuplicateName (PySem.W.mg_of X G gG) (PySem.W.mg_of X G gY) (PySem.W.mg_none_of X G z_len) (PySem.W.mg_none_of X G z_enumerate) (PySem.W.mg_none_of X G z_sorted) (PySem.W.mg_none_of X G z_tuple)⟩
  have F24 := fun_mk (st := s_Book___len__) l24 c24 k24
  have b24 := F24.binds (ps := P_Book___len__) fun _ _ _ _ _ _ us hl => match us, hl with | [_], _ => rfl
  have T_Book___len__ : Ko PySem.Challenge.pw_waysofmaking_k27_whole_hours_of_many_dem w K mg base C "__len__" 1 (pBLen C W) := ⟨f24, _, P_Book___len__, ⟨a24, i24⟩, b24, kf_blen F24 BX (PySem.W.mg_none_of X G z_len)⟩
  have F25 := fun_mk (st := s_Book___iter__) l25 c25 k25
  have b25 := F25.binds (ps := P_Book___iter__) fun _ _ _ _ _ _ us hl => match us, hl with | [_], _ => rfl
  have Im : ItM K C f25 := ⟨a25, i25⟩
  have Ti : IterOk PySem.Challenge.pw_waysofmaking_k27_whole_hours_of_many_dem w K mg base C f25 "ways" 1 := kf_biter F25 BX (PySem.W.mg_none_of X G z_iter) b25
  have F26 := fun_mk (st := s_Book_way) l26 c26 k26
  have b26 := F26.binds (ps := P_Book_way) fun _ _ _ _ _ _ us hl => match us, hl with | [_, _], _ => rfl
  have T_Book_way : Km PySem.Challenge.pw_waysofmaking_k27_whole_hours_of_many_dem w K mg base C "way" 3 (pBWay C W V) := ⟨f26, _, P_Book_way, ⟨a26, i26, k26⟩, b26, kf_bway F26 BX T_BadWay (PySem.W.mg_none_of X G z_len)⟩
  have F27 := fun_mk (st := s_Book_check_good) l27 c27 k27
  have b27 := F27.binds (ps := P_Book_check_good) fun _ _ _ _ _ _ us hl => match us, hl with | [_, _], _ => rfl
  have T_Book_check_good : Km PySem.Challenge.pw_waysofmaking_k27_whole_hours_of_many_dem w K mg base C "check_good" 3 (pBChk C W U) := ⟨f27, _, P_Book_check_good, ⟨a27, i27, k27⟩, b27, kf_bchk F27 BX T_UnknownName⟩
  have F28 := fun_mk (st := s_Book_net) l28 c28 k28
  have b28 := F28.binds (ps := P_Book_net) fun _ _ _ _ _ _ us hl => match us, hl with | [_, _, _], _ => rfl
  have T_Book_net : Km PySem.Challenge.pw_waysofmaking_k27_whole_hours_of_many_dem w K mg base C "net" 4 (pBNet C W U V) := ⟨f28, _, P_Book_net, ⟨a28, i28, k28⟩, b28, kf_bnet F28 BX WX T_Book_way T_Book_check_good T_Way_taken T_Way_made⟩
  have F29 := fun_mk (st := s_Ratio___sub__) l29 c29 k29
  have b29 := F29.binds (ps := P_Ratio___sub__) fun _ _ _ _ _ _ us hl => match us, hl with | [_, _], _ => rfl
  have T_Ratio___sub__ : Ko PySem.Challenge.pw_waysofmaking_k27_whole_hours_of_many_dem w K mg base R "__sub__" 5 (pSub R) := ⟨f29, _, P_Ratio___sub__, ⟨a29, i29⟩, b29, kf_sub F29 QX T_Ratio⟩
  have F30 := fun_mk (st := s_Ratio___neg__) l30 c30 k30
  have b30 := F30.binds (ps := P_Ratio___neg__) fun _ _ _ _ _ _ us hl => match us, hl with | [_], _ => rfl
  have T_Ratio___neg__ : Ko PySem.Challenge.pw_waysofmaking_k27_whole_hours_of_many_dem w K mg base R "__neg__" 5 (pNeg R) := ⟨f30, _, P_Ratio___neg__, ⟨a30, i30⟩, b30, kf_neg F30 QX T_Ratio⟩
  have F31 := fun_mk (st := s_Ratio_quotient) l31 c31 k31
  have b31 := F31.binds (ps := P_Ratio_quotient) fun _ _ _ _ _ _ us hl => match us, hl with | [_, _], _ => rfl
  have T_Ratio_quotient : Km PySem.Challenge.pw_waysofmaking_k27_whole_hours_of_many_dem w K mg base R "quotient" 5 (pQuo R M) := ⟨f31, _, P_Ratio_quotient, ⟨a31, i31, k31⟩, b31, kf_quo F31 QX T_Ratio⟩
  have clS : Cls K S := ⟨pgS, hdS, poS, saS⟩
  have SX : ShX K mg S := ⟨clS, PySem.W.mg_of X G aS, nS_columns, nS_count, nS_lines, nS_goal, nS_basis⟩
  have GX : ShG PySem.Challenge.pw_waysofmaking_k27_whole_hours_of_many_dem w K mg base S R M := ⟨RX, SX, T_Ratio_quotient, T_Ratio___sub__, T_Ratio___neg__, PySem.W.mg_none_of X G z_len, PySem.W.mg_none_of X G z_range, PySem.W.mg_none_of X G z_enumerate, PySem.W.mg_none_of X G z_zip, PySem.W.mg_none_of X G z_int⟩
  have F32 := fun_mk (st := s_Sheet_entering) l32 c32 k32
  have b32 := F32.binds (ps := P_Sheet_entering) fun _ _ _ _ _ _ us hl => match us, hl with | [_], _ => rfl
  have T_Sheet_entering : Km PySem.Challenge.pw_waysofmaking_k27_whole_hours_of_many_dem w K mg base S "entering" 6 (pEnt S R) := ⟨f32, _, P_Sheet_entering, ⟨a32, i32, k32⟩, b32, kf_ent F32 GX⟩
  have F33 := fun_mk (st := s_Sheet_leaving) l33 c33 k33
  have b33 := F33.binds (ps := P_Sheet_leaving) fun _ _ _ _ _ _ us hl => match us, hl with | [_, _], _ => rfl
  have T_Sheet_leaving : Km PySem.Challenge.pw_waysofmaking_k27_whole_hours_of_many_dem w K mg base S "leaving" 6 (pLea S R) := ⟨f33, _, P_Sheet_leaving, ⟨a33, i33, k33⟩, b33, kf_lea F33 GX⟩
  have F34 := fun_mk (st := s_Sheet_turn) l34 c34 k34
  have b34 := F34.binds (ps := P_Sheet_turn) fun _ _ _ _ _ _ us hl => match us, hl with | [_, _, _], _ => rfl
  have T_Sheet_turn : Km PySem.Challenge.pw_waysofmaking_k27_whole_hours_of_many_dem w K mg base S "turn" 6 (pTurn S R) := ⟨f34, _, P_Sheet_turn, ⟨a34, i34, k34⟩, b34, kf_turn F34 GX⟩
  have F35 := fun_mk (st := s_Sheet_solve) l35 c35 k35
  have b35 := F35.binds (ps := P_Sheet_solve) fun _ _ _ _ _ _ us hl => match us, hl with | [_], _ => rfl
  have T_Sheet_solve : Km PySem.Challenge.pw_waysofmaking_k27_whole_hours_of_many_dem w K mg base S "solve" 7 (pSolve S R) := ⟨f35, _, P_Sheet_solve, ⟨a35, i35, k35⟩, b35, kf_solve F35 GX T_Sheet_entering T_Sheet_leaving T_Sheet_turn⟩
  have F36 := fun_mk (st := s_Sheet_multipliers) l36 c36 k36
  have b36 := F36.binds (ps := P_Sheet_multipliers) fun _ _ _ _ _ _ us hl => match us, hl with | [_], _ => rfl
  have T_Sheet_multipliers : Kmn PySem.Challenge.pw_waysofmaking_k27_whole_hours_of_many_dem w K mg base S "multipliers" 1 (pMult S R) := ⟨f36, _, P_Sheet_multipliers, ⟨a36, i36, k36⟩, b36, kf_mult F36 GX⟩
  have F37 := fun_mk (st := s_Sheet_point) l37 c37 k37
  have b37 := F37.binds (ps := P_Sheet_point) fun _ _ _ _ _ _ us hl => match us, hl with | [_], _ => rfl
  have T_Sheet_point : Km PySem.Challenge.pw_waysofmaking_k27_whole_hours_of_many_dem w K mg base S "point" 6 (pPoint S R) := ⟨f37, _, P_Sheet_point, ⟨a37, i37, k37⟩, b37, kf_point F37 GX⟩
  have F38 := fun_mk (st := s_Sheet_ray) l38 c38 k38
  have b38 := F38.binds (ps := P_Sheet_ray) fun _ _ _ _ _ _ us hl => match us, hl with | [_, _], _ => rfl
  have T_Sheet_ray : Km PySem.Challenge.pw_waysofmaking_k27_whole_hours_of_many_dem w K mg base S "ray" 6 (pRay S R) := ⟨f38, _, P_Sheet_ray, ⟨a38, i38, k38⟩, b38, kf_ray F38 GX⟩
  have F39 := fun_mk (st := s_Sheet___init__) l39 c39 k39
  have b39 := F39.binds (ps := P_Sheet___init__) fun _ _ _ _ _ _ us hl => match us, hl with | [_, _, _, _], _ => rfl
  have T_Sheet : KcG PySem.Challenge.pw_waysofmaking_k27_whole_hours_of_many_dem w K mg base S "Sheet" 6 (pInitS S R) := ⟨f39, _, P_Sheet___init__, PySem.W.mg_of X G aS, ⟨mkS, a39, i39, kcS⟩, b39, kf_sinit F39 GX⟩
  have F40 := fun_mk (st := s_check_demand) l40 c40 k40
  have b40 := F40.binds (ps := P_check_demand) fun _ _ _ _ _ _ us hl => match us, hl with | [_, _], _ => rfl
  have T_check_demand : Kf1 PySem.Challenge.pw_waysofmaking_k27_whole_hours_of_many_dem w K mg base "check_demand" 6 (pChkD C W M U R) := ⟨f40, _, P_check_demand, PySem.W.mg_of X G a40, k40, b40, kf_chkd F40 BX RX T_UnknownName T_BadNumberR (PySem.W.mg_none_of X G z_list) (PySem.W.mg_none_of X G z_sorted)⟩
  have F41 := fun_mk (st := s_amount) l41 c41 k41
  have b41 := F41.binds (ps := P_amount) fun _ _ _ _ _ _ us hl => match us, hl with | [_, _], _ => rfl
  have T_amount : Kf1 PySem.Challenge.pw_waysofmaking_k27_whole_hours_of_many_dem w K mg base "amount" 6 (pAmount R) := ⟨f41, _, P_amount, PySem.W.mg_of X G a41, k41, b41, kf_amount F41 RX⟩
  have KX : BkG PySem.Challenge.pw_waysofmaking_k27_whole_hours_of_many_dem w K mg base S C W R M U V := ⟨GX, BX, T_Book___len__, T_Book_net, T_amount⟩
  have F42 := fun_mk (st := s_sheet_of) l42 c42 k42
  have b42 := F42.binds (ps := P_sheet_of) fun _ _ _ _ _ _ us hl => match us, hl with | [_, _, _], _ => rfl
  have T_sheet_of : KfG1 PySem.Challenge.pw_waysofmaking_k27_whole_hours_of_many_dem w K mg base "sheet_of" 8 (pSheetOf S C W R) := ⟨f42, _, P_sheet_of, PySem.W.mg_of X G a42, k42, b42, kf_sheetof F42 KX T_Sheet⟩
  have VX : SvG PySem.Challenge.pw_waysofmaking_k27_whole_hours_of_many_dem w K mg base S C W R M Q U V := ⟨KX, T_sheet_of, T_Sheet_solve, T_Sheet_multipliers, T_Sheet_point, T_Sheet_ray, T_NoPlan, PySem.W.mg_none_of X G z_dict⟩
  have F43 := fun_mk (st := s_solved) l43 c43 k43
  have b43 := F43.binds (ps := P_solved) fun _ _ _ _ _ _ us hl => match us, hl with | [_, _, _], _ => rfl
  have T_solved : KfG1 PySem.Challenge.pw_waysofmaking_k27_whole_hours_of_many_dem w K mg base "solved" 9 (pSolved C W Q R) := ⟨f43, _, P_solved, PySem.W.mg_of X G a43, k43, b43, kf_solved F43 VX⟩
  have YX := CkG.mk VX WX Im Ti T_check_demand
  have F44 := fun_mk (st := s_cheapest) l44 c44 k44
  have b44 := F44.binds (ps := P_cheapest) fun _ _ _ _ _ _ us hl => match us, hl with | [_, _], _ => rfl
  have T_cheapest : KfG1 PySem.Challenge.pw_waysofmaking_k27_whole_hours_of_many_dem w K mg base "cheapest" 10 (pCheap C W M Q U R) := ⟨f44, _, P_cheapest, PySem.W.mg_of X G a44, k44, b44, kf_cheap F44 YX T_solved⟩
  have F45 := fun_mk (st := s_least_hours) l45 c45 k45
  have b45 := F45.binds (ps := P_least_hours) fun _ _ _ _ _ _ us hl => match us, hl with | [_, _], _ => rfl
  have T_least_hours : Kf1 PySem.Challenge.pw_waysofmaking_k27_whole_hours_of_many_dem w K mg base "least_hours" 11 (pLeastH C W M Q U R) := ⟨f45, _, P_least_hours, PySem.W.mg_of X G a45, k45, b45, kf_leasth F45 T_cheapest⟩
  have F46 := fun_mk (st := s_can_meet) l46 c46 k46
  have b46 := F46.binds (ps := P_can_meet) fun _ _ _ _ _ _ us hl => match us, hl with | [_, _], _ => rfl
  have T_can_meet : Kf1 PySem.Challenge.pw_waysofmaking_k27_whole_hours_of_many_dem w K mg base "can_meet" 11 (pCanM C W M U R) := ⟨f46, _, P_can_meet, PySem.W.mg_of X G a46, k46, b46, kf_canmeet F46 T_cheapest (PySem.W.mg_of X G aQ) teQ teMQ teUQ⟩
  have F47 := fun_mk (st := s_Book_without) l47 c47 k47
  have b47 := F47.binds (ps := P_Book_without) fun _ _ _ _ _ _ us hl => match us, hl with | [_, _], _ => rfl
  have T_Book_without : Km PySem.Challenge.pw_waysofmaking_k27_whole_hours_of_many_dem w K mg base C "without" 7 (pBOut C W M N D U V) := ⟨f47, _, P_Book_without, ⟨a47, i47, k47⟩, b47, kf_bout F47 BX T_Book T_Book_way T_BadNumber (PySem.W.mg_none_of X G z_len)⟩
  have F48 := fun_mk (st := s_check_plan) l48 c48 k48
  have b48 := F48.binds (ps := P_check_plan) fun _ _ _ _ _ _ us hl => match us, hl with | [_, _], _ => rfl
  have T_check_plan : Kf1 PySem.Challenge.pw_waysofmaking_k27_whole_hours_of_many_dem w K mg base "check_plan" 6 (pChkP C W M R) := ⟨f48, _, P_check_plan, PySem.W.mg_of X G a48, k48, b48, kf_chkp F48 BX RX T_Book___len__ T_BadNumber T_BadNumberR (PySem.W.mg_none_of X G z_len)⟩
  have F49 := fun_mk (st := s_leaves) l49 c49 k49
  have b49 := F49.binds (ps := P_leaves) fun _ _ _ _ _ _ us hl => match us, hl with | [_, _], _ => rfl
  have T_leaves : KfN1 PySem.Challenge.pw_waysofmaking_k27_whole_hours_of_many_dem w K mg base "leaves" 8 (pLeaves C W R) := ⟨f49, _, P_leaves, PySem.W.mg_of X G a49, k49, b49, kf_leaves F49 BX RX T_check_plan T_Book_net T_total (PySem.W.mg_none_of X G z_enumerate)⟩
  have F50 := fun_mk (st := s_hours_of) l50 c50 k50
  have b50 := F50.binds (ps := P_hours_of) fun _ _ _ _ _ _ us hl => match us, hl with | [_, _], _ => rfl
  have T_hours_of : Kf1 PySem.Challenge.pw_waysofmaking_k27_whole_hours_of_many_dem w K mg base "hours_of" 8 (pHours C W R) := ⟨f50, _, P_hours_of, PySem.W.mg_of X G a50, k50, b50, kf_hours F50 WX RX T_check_plan Im Ti T_total (PySem.W.mg_none_of X G z_zip)⟩
  have F51 := fun_mk (st := s_meets) l51 c51 k51
  have b51 := F51.binds (ps := P_meets) fun _ _ _ _ _ _ us hl => match us, hl with | [_, _, _], _ => rfl
  have T_meets : Kf1 PySem.Challenge.pw_waysofmaking_k27_whole_hours_of_many_dem w K mg base "meets" 9 (pMeetsG C W R) := ⟨f51, _, P_meets, PySem.W.mg_of X G a51, k51, b51, kf_meetsG F51 BX RX T_check_demand T_amount T_leaves (PySem.W.mg_none_of X G z_any)⟩
  have F52 := fun_mk (st := s_summed) l52 c52 k52
  have b52 := F52.binds (ps := P_summed) fun _ _ _ _ _ _ us hl => match us, hl with | [_, _], _ => rfl
  have T_summed : KfN1 PySem.Challenge.pw_waysofmaking_k27_whole_hours_of_many_dem w K mg base "summed" 7 (pSummed R) := ⟨f52, _, P_summed, PySem.W.mg_of X G a52, k52, b52, kf_summed F52 RX T_amount (PySem.W.mg_none_of X G z_list) (PySem.W.mg_none_of X G z_sorted)⟩
  have F53 := fun_mk (st := s__law_bag) l53 c53 k53
  have b53 := F53.binds (ps := P__law_bag) fun _ _ _ _ _ _ us hl => match us, hl with | [_], _ => rfl
  have T__law_bag : KfN1 PySem.Challenge.pw_waysofmaking_k27_whole_hours_of_many_dem w K mg base "_law_bag" 1 pBag := ⟨f53, _, P__law_bag, PySem.W.mg_of X G a53, k53, b53, kf_bag F53⟩
  have F54 := fun_mk (st := s__law_at_of) l54 c54 k54
  have b54 := F54.binds (ps := P__law_at_of) fun _ _ _ _ _ _ us hl => match us, hl with | [_, _], _ => rfl
  have T__law_at_of : Kf1 PySem.Challenge.pw_waysofmaking_k27_whole_hours_of_many_dem w K mg base "_law_at_of" 1 (pAt K) := ⟨f54, _, P__law_at_of, PySem.W.mg_of X G a54, k54, b54, kf_at F54 (PySem.W.mg_none_of X G z_len)⟩
  have F55 := fun_mk (st := s__law_draw) l55 c55 k55
  have b55 := F55.binds (ps := P__law_draw) fun _ _ _ _ _ _ us hl => match us, hl with | [_, _], _ => rfl
  have T__law_draw : Kf1 PySem.Challenge.pw_waysofmaking_k27_whole_hours_of_many_dem w K mg base "_law_draw" 1 pDraw := ⟨f55, _, P__law_draw, PySem.W.mg_of X G a55, k55, b55, kf_draw F55 (PySem.W.mg_none_of X G z_int)⟩
  have F56 := fun_mk (st := s__law_labels) l56 c56 k56
  have b56 := F56.binds (ps := P__law_labels) fun _ _ _ _ _ _ us hl => match us, hl with | [_, _], _ => rfl
  have T__law_labels : KfN1 PySem.Challenge.pw_waysofmaking_k27_whole_hours_of_many_dem w K mg base "_law_labels" 2 pLab := ⟨f56, _, P__law_labels, PySem.W.mg_of X G a56, k56, b56, kf_lab F56 T__law_draw (PySem.W.mg_none_of X G z_len) (PySem.W.mg_none_of X G z_range)⟩
  have F57 := fun_mk (st := s__law_amounts_of) l57 c57 k57
  have b57 := F57.binds (ps := P__law_amounts_of) fun _ _ _ _ _ _ us hl => match us, hl with | [_, _, _], _ => rfl
  have T__law_amounts_of : KfN1 PySem.Challenge.pw_waysofmaking_k27_whole_hours_of_many_dem w K mg base "_law_amounts_of" 2 pAms := ⟨f57, _, P__law_amounts_of, PySem.W.mg_of X G a57, k57, b57, kf_ams F57 T__law_draw⟩
  have F58 := fun_mk (st := s__law_row_of) l58 c58 k58
  have b58 := F58.binds (ps := P__law_row_of) fun _ _ _ _ _ _ us hl => match us, hl with | [_, _, _], _ => rfl
  have T__law_row_of : Kf1 PySem.Challenge.pw_waysofmaking_k27_whole_hours_of_many_dem w K mg base "_law_row_of" 3 pRow := ⟨f58, _, P__law_row_of, PySem.W.mg_of X G a58, k58, b58, kf_row F58 T__law_draw T__law_amounts_of (PySem.W.mg_none_of X G z_len) (PySem.W.mg_none_of X G z_int)⟩
  have F59 := fun_mk (st := s__law_rows_of) l59 c59 k59
  have b59 := F59.binds (ps := P__law_rows_of) fun _ _ _ _ _ _ us hl => match us, hl with | [_, _, _], _ => rfl
  have T__law_rows_of : Kf1 PySem.Challenge.pw_waysofmaking_k27_whole_hours_of_many_dem w K mg base "_law_rows_of" 4 pRows := ⟨f59, _, P__law_rows_of, PySem.W.mg_of X G a59, k59, b59, kf_rows F59 T__law_draw T__law_row_of (PySem.W.mg_none_of X G z_len) (PySem.W.mg_none_of X G z_range)⟩
  have F60 := fun_mk (st := s__law_book_of) l60 c60 k60
  have b60 := F60.binds (ps := P__law_book_of) fun _ _ _ _ _ _ us hl => match us, hl with | [_, _], _ => rfl
  have T__law_book_of : Kf1 PySem.Challenge.pw_waysofmaking_k27_whole_hours_of_many_dem w K mg base "_law_book_of" 8 (pBookOf C W M N D U) := ⟨f60, _, P__law_book_of, PySem.W.mg_of X G a60, k60, b60, kf_bookof F60 T_Book T_Way⟩
  have F61 := fun_mk (st := s__law_demand_of) l61 c61 k61
  have b61 := F61.binds (ps := P__law_demand_of) fun _ _ _ _ _ _ us hl => match us, hl with | [_, _], _ => rfl
  have T__law_demand_of : KfN1 PySem.Challenge.pw_waysofmaking_k27_whole_hours_of_many_dem w K mg base "_law_demand_of" 5 (pDemV R) := ⟨f61, _, P__law_demand_of, PySem.W.mg_of X G a61, k61, b61, kf_demV F61 RX T__law_draw⟩
  have F62 := fun_mk (st := s__law_not_more) l62 c62 k62
  have b62 := F62.binds (ps := P__law_not_more) fun _ _ _ _ _ _ us hl => match us, hl with | [_, _], _ => rfl
  have T__law_not_more : Kf1 PySem.Challenge.pw_waysofmaking_k27_whole_hours_of_many_dem w K mg base "_law_not_more" 6 (pNotMore R) := ⟨f62, _, P__law_not_more, PySem.W.mg_of X G a62, k62, b62, kf_notmore F62 RX⟩
  have F63 := fun_mk (st := s__law_positive) l63 c63 k63
  have b63 := F63.binds (ps := P__law_positive) fun _ _ _ _ _ _ us hl => match us, hl with | [_, _], _ => rfl
  have T__law_positive : KfN1 PySem.Challenge.pw_waysofmaking_k27_whole_hours_of_many_dem w K mg base "_law_positive" 9 (pPosit C W R) := ⟨f63, _, P__law_positive, PySem.W.mg_of X G a63, k63, b63, kf_posit F63 RX T_leaves (PySem.W.mg_none_of X G z_dict)⟩
  have ZX : WfX PySem.Challenge.pw_waysofmaking_k27_whole_hours_of_many_dem w K mg base C W M Q N D U V R := ⟨RX, BX, T__law_row_of, T__law_book_of, T__law_not_more, T_Book_without, T_least_hours, T_can_meet, PySem.W.mg_none_of X G z_len, PySem.W.mg_none_of X G z_range⟩
  have F64 := fun_mk (st := s__law_ways_fit) l64 c64 k64
  have b64 := F64.binds (ps := P__law_ways_fit) fun _ _ _ _ _ _ us hl => match us, hl with | [_, _, _, _, _], _ => rfl
  have T__law_ways_fit : Kf1 PySem.Challenge.pw_waysofmaking_k27_whole_hours_of_many_dem w K mg base "_law_ways_fit" 12 (pWays C W R) := ⟨f64, _, P__law_ways_fit, PySem.W.mg_of X G a64, k64, b64, kf_ways F64 ZX⟩
  have LX : LvX PySem.Challenge.pw_waysofmaking_k27_whole_hours_of_many_dem w K mg base C W M Q N D U V R := ⟨RX, ⟨neR, cmR⟩, T__law_bag, T__law_at_of, T__law_draw, T__law_labels, T__law_rows_of, T__law_book_of, T__law_demand_of, T_least_hours, T_cheapest, T_summed, T__law_not_more, T__law_positive, T_leaves, T_hours_of, T_meets, T__law_ways_fit, PySem.W.mg_none_of X G z_len, PySem.W.mg_none_of X G z_range, PySem.W.mg_none_of X G z_list, PySem.W.mg_none_of X G z_dict⟩
  have F65 := fun_mk (st := s_law) l65 c65 k65
  exact kf_law F65 LX
end W1
set_option maxRecDepth 100000
open PySem PySem.W PyProof.Rows in
set_option maxRecDepth 100000 in
set_option maxHeartbeats 0 in
theorem PySem.Challenge.cw_waysofmaking_k27_whole_hours_of_many_dem_holds : PySem.Challenge.rw_waysofmaking_k27_whole_hours_of_many_dem.Holds := by
  w_on; o_law; k_head; (case hw => w_witness2)
  k_fill
  refine L2.walk_of (l := PySem.Challenge.rw_waysofmaking_k27_whole_hours_of_many_dem) (n := 63) (k := 13) (x := "_law_script") (CX := fun w => L2.CX PySem.Challenge.pw_waysofmaking_k27_whole_hours_of_many_dem w) (sp := fun w => W1.spM (W1.pLaw _)) rfl (by decide) rfl ⟨rfl, by decide, by decide⟩ (fun w h Y => PySem.W.kIn_of Y) ?F W1.law_sp ?Z
  case Z => exact W1.law_cx
  case F =>
    intro w mg fa h KX G hmg
    refine' W1.all_mk KX G hmg ?z_super ?z_list ?z_sorted ?z_len ?z_all ?z_any ?z_isinstance ?z_int ?z_range ?z_tuple ?z_enumerate ?z_iter ?z_zip ?z_abs ?z_bool ?z_str ?z_dict ?gL ?gS ?gM ?gG ?gY ?aM ?xM ?bmM ?saM ?eM ?tM ?kM ?a0 ?t0 ?l0 ?c0 ?lc0 ?v0 ?fil0 ?ll0 ?sbM ?suM ?svM ?opM ?teM ?nM_n ?gaM ?ggM ?hdM ?aN ?xN ?bmN ?saN ?eN ?tN ?kN ?a1 ?t1 ?l1 ?c1 ?lc1 ?v1 ?fil1 ?ll1 ?sbN ?suN ?svN ?opN ?teN ?nN_name ?gaN ?ggN ?hdN ?aD ?xD ?bmD ?saD ?eD ?tD ?kD ?a2 ?t2 ?l2 ?c2 ?lc2 ?v2 ?fil2 ?ll2 ?sbD ?suD ?svD ?opD ?teD ?nD_name ?gaD ?ggD ?hdD ?aU ?xU ?bmU ?saU ?eU ?tU ?kU ?a3 ?t3 ?l3 ?c3 ?lc3 ?v3 ?fil3 ?ll3 ?sbU ?suU ?svU ?opU ?teU ?nU_name ?gaU ?ggU ?hdU ?aV ?xV ?bmV ?saV ?eV ?tV ?kV ?a4 ?t4 ?l4 ?c4 ?lc4 ?v4 ?fil4 ?ll4 ?sbV ?suV ?svV ?opV ?teV ?nV_at ?gaV ?ggV ?hdV ?aQ ?xQ ?bmQ ?saQ ?eQ ?tQ ?kQ ?a5 ?t5 ?l5 ?c5 ?lc5 ?v5 ?fil5 ?ll5 ?sbQ ?suQ ?svQ ?opQ ?teQ ?nQ_prices ?gaQ ?ggQ ?hdQ ?aW ?kcW ?mkW ?pgW ?hdW ?poW ?saW ?sfW ?caW ?cnW ?ctW ?cmW ?nW_inputs ?nW_hours ?nW_outputs ?aC ?kcC ?mkC ?pgC ?hdC ?poC ?saC ?sfC ?caC ?cnC ?ctC ?cmC ?nC_names ?nC_ways ?aR ?kcR ?mkR ?pgR ?hdR ?poR ?saR ?sfR ?caR ?cnR ?ctR ?cmR ?nR_top ?nR_bottom ?nfW ?nfC ?nfR ?nfI ?nfS ?ksI ?ksS ?neR ?fmR ?teMQ ?teUQ ?a6 ?l6 ?c6 ?k6 ?a7 ?i7 ?l7 ?c7 ?k7 ?a8 ?i8 ?l8 ?c8 ?k8 ?a9 ?i9 ?l9 ?c9 ?k9 ?a10 ?i10 ?l10 ?c10 ?k10 ?a11 ?i11 ?l11 ?c11 ?k11 ?ty12 ?rd12 ?ga12 ?a12 ?rc12 ?fi12 ?l12 ?c12 ?k12 ?a13 ?i13 ?l13 ?c13 ?k13 ?a14 ?l14 ?c14 ?k14 ?a15 ?l15 ?c15 ?k15 ?a16 ?l16 ?c16 ?k16 ?a17 ?l17 ?c17 ?k17 ?a18 ?i18 ?l18 ?c18 ?k18 ?a19 ?i19 ?l19 ?c19 ?k19 ?a20 ?i20 ?l20 ?c20 ?k20 ?a21 ?i21 ?l21 ?c21 ?k21 ?a22 ?l22 ?c22 ?k22 ?a23 ?i23 ?l23 ?c23 ?k23 ?a24 ?i24 ?l24 ?c24 ?k24 ?a25 ?i25 ?l25 ?c25 ?k25 ?a26 ?i26 ?l26 ?c26 ?k26 ?a27 ?i27 ?l27 ?c27 ?k27 ?a28 ?i28 ?l28 ?c28 ?k28 ?a29 ?i29 ?l29 ?c29 ?k29 ?a30 ?i30 ?l30 ?c30 ?k30 ?a31 ?i31 ?l31 ?c31 ?k31 ?aS ?kcS ?mkS ?pgS ?hdS ?poS ?saS ?nS_columns ?nS_count ?nS_lines ?nS_goal ?nS_basis ?a32 ?i32 ?l32 ?c32 ?k32 ?a33 ?i33 ?l33 ?c33 ?k33 ?a34 ?i34 ?l34 ?c34 ?k34 ?a35 ?i35 ?l35 ?c35 ?k35 ?a36 ?i36 ?l36 ?c36 ?k36 ?a37 ?i37 ?l37 ?c37 ?k37 ?a38 ?i38 ?l38 ?c38 ?k38 ?a39 ?i39 ?l39 ?c39 ?k39 ?a40 ?l40 ?c40 ?k40 ?a41 ?l41 ?c41 ?k41 ?a42 ?l42 ?c42 ?k42 ?a43 ?l43 ?c43 ?k43 ?a44 ?l44 ?c44 ?k44 ?a45 ?l45 ?c45 ?k45 ?a46 ?l46 ?c46 ?k46 ?a47 ?i47 ?l47 ?c47 ?k47 ?a48 ?l48 ?c48 ?k48 ?a49 ?l49 ?c49 ?k49 ?a50 ?l50 ?c50 ?k50 ?a51 ?l51 ?c51 ?k51 ?a52 ?l52 ?c52 ?k52 ?a53 ?l53 ?c53 ?k53 ?a54 ?l54 ?c54 ?k54 ?a55 ?l55 ?c55 ?k55 ?a56 ?l56 ?c56 ?k56 ?a57 ?l57 ?c57 ?k57 ?a58 ?l58 ?c58 ?k58 ?a59 ?l59 ?c59 ?k59 ?a60 ?l60 ?c60 ?k60 ?a61 ?l61 ?c61 ?k61 ?a62 ?l62 ?c62 ?k62 ?a63 ?l63 ?c63 ?k63 ?a64 ?l64 ?c64 ?k64 ?a65 ?l65 ?c65 ?k65
    (case z_super => k_is)
    (case z_list => k_is)
    (case z_sorted => k_is)
    (case z_len => k_is)
    (case z_all => k_is)
    (case z_any => k_is)
    (case z_isinstance => k_is)
    (case z_int => k_is)
    (case z_range => k_is)
    (case z_tuple => k_is)
    (case z_enumerate => k_is)
    (case z_iter => k_is)
    (case z_zip => k_is)
    (case z_abs => k_is)
    (case z_bool => k_is)
    (case z_str => k_is)
    (case z_dict => k_is)
    (case gL => k_is)
    (case gS => k_is)
    (case gM => k_is)
    (case gG => k_is)
    (case gY => k_is)
    (case aM => k_is)
    (case xM => k_is)
    (case bmM => rfl)
    (case saM => k_is)
    (case eM => k_is)
    (case tM => k_is)
    (case kM => k_is)
    (case a0 => k_is)
    (case t0 => k_is)
    (case l0 => k_is)
    (case c0 => k_is)
    (case lc0 => k_is)
    (case v0 => rfl)
    (case fil0 => first | rfl | decide +kernel)
    (case ll0 => k_is)
    (case sbM => k_is)
    (case suM => ks_is)
    (case svM => k_is)
    (case opM => k_is)
    (case teM => kts_exm)
    (case nM_n => k_is)
    (case gaM => k_is)
    (case ggM => k_is)
    (case hdM => k_is)
    (case aN => k_is)
    (case xN => k_is)
    (case bmN => rfl)
    (case saN => k_is)
    (case eN => k_is)
    (case tN => k_is)
    (case kN => k_is)
    (case a1 => k_is)
    (case t1 => k_is)
    (case l1 => k_is)
    (case c1 => k_is)
    (case lc1 => k_is)
    (case v1 => rfl)
    (case fil1 => first | rfl | decide +kernel)
    (case ll1 => k_is)
    (case sbN => k_is)
    (case suN => ks_is)
    (case svN => k_is)
    (case opN => k_is)
    (case teN => kts_exm)
    (case nN_name => k_is)
    (case gaN => k_is)
    (case ggN => k_is)
    (case hdN => k_is)
    (case aD => k_is)
    (case xD => k_is)
    (case bmD => rfl)
    (case saD => k_is)
    (case eD => k_is)
    (case tD => k_is)
    (case kD => k_is)
    (case a2 => k_is)
    (case t2 => k_is)
    (case l2 => k_is)
    (case c2 => k_is)
    (case lc2 => k_is)
    (case v2 => rfl)
    (case fil2 => first | rfl | decide +kernel)
    (case ll2 => k_is)
    (case sbD => k_is)
    (case suD => ks_is)
    (case svD => k_is)
    (case opD => k_is)
    (case teD => kts_exm)
    (case nD_name => k_is)
    (case gaD => k_is)
    (case ggD => k_is)
    (case hdD => k_is)
    (case aU => k_is)
    (case xU => k_is)
    (case bmU => rfl)
    (case saU => k_is)
    (case eU => k_is)
    (case tU => k_is)
    (case kU => k_is)
    (case a3 => k_is)
    (case t3 => k_is)
    (case l3 => k_is)
    (case c3 => k_is)
    (case lc3 => k_is)
    (case v3 => rfl)
    (case fil3 => first | rfl | decide +kernel)
    (case ll3 => k_is)
    (case sbU => k_is)
    (case suU => ks_is)
    (case svU => k_is)
    (case opU => k_is)
    (case teU => kts_exm)
    (case nU_name => k_is)
    (case gaU => k_is)
    (case ggU => k_is)
    (case hdU => k_is)
    (case aV => k_is)
    (case xV => k_is)
    (case bmV => rfl)
    (case saV => k_is)
    (case eV => k_is)
    (case tV => k_is)
    (case kV => k_is)
    (case a4 => k_is)
    (case t4 => k_is)
    (case l4 => k_is)
    (case c4 => k_is)
    (case lc4 => k_is)
    (case v4 => rfl)
    (case fil4 => first | rfl | decide +kernel)
    (case ll4 => k_is)
    (case sbV => k_is)
    (case suV => ks_is)
    (case svV => k_is)
    (case opV => k_is)
    (case teV => kts_exm)
    (case nV_at => k_is)
    (case gaV => k_is)
    (case ggV => k_is)
    (case hdV => k_is)
    (case aQ => k_is)
    (case xQ => k_is)
    (case bmQ => rfl)
    (case saQ => k_is)
    (case eQ => k_is)
    (case tQ => k_is)
    (case kQ => k_is)
    (case a5 => k_is)
    (case t5 => k_is)
    (case l5 => k_is)
    (case c5 => k_is)
    (case lc5 => k_is)
    (case v5 => rfl)
    (case fil5 => first | rfl | decide +kernel)
    (case ll5 => k_is)
    (case sbQ => k_is)
    (case suQ => ks_is)
    (case svQ => k_is)
    (case opQ => k_is)
    (case teQ => kts_exm)
    (case nQ_prices => k_is)
    (case gaQ => k_is)
    (case ggQ => k_is)
    (case hdQ => k_is)
    (case aW => k_is)
    (case kcW => k_is)
    (case mkW => k_is)
    (case pgW => k_is)
    (case hdW => k_is)
    (case poW => k_is)
    (case saW => k_is)
    (case sfW => k_is)
    (case caW => k_is)
    (case cnW => k_is)
    (case ctW => k_is)
    (case cmW => k_is)
    (case nW_inputs => k_is)
    (case nW_hours => k_is)
    (case nW_outputs => k_is)
    (case aC => k_is)
    (case kcC => k_is)
    (case mkC => k_is)
    (case pgC => k_is)
    (case hdC => k_is)
    (case poC => k_is)
    (case saC => k_is)
    (case sfC => k_is)
    (case caC => k_is)
    (case cnC => k_is)
    (case ctC => k_is)
    (case cmC => k_is)
    (case nC_names => k_is)
    (case nC_ways => k_is)
    (case aR => k_is)
    (case kcR => k_is)
    (case mkR => k_is)
    (case pgR => k_is)
    (case hdR => k_is)
    (case poR => k_is)
    (case saR => k_is)
    (case sfR => k_is)
    (case caR => k_is)
    (case cnR => k_is)
    (case ctR => k_is)
    (case cmR => k_is)
    (case nR_top => k_is)
    (case nR_bottom => k_is)
    (case nfW => k_is)
    (case nfC => k_is)
    (case nfR => k_is)
    (case nfI => k_is)
    (case nfS => k_is)
    (case ksI => kit_is)
    (case ksS => kit_is)
    (case neR => k_is)
    (case fmR => k_is)
    (case teMQ => kts_exm)
    (case teUQ => kts_exm)
    (case a6 => k_is)
    (case l6 => k_is)
    (case c6 => k_is)
    (case k6 => k_is)
    (case a7 => k_is)
    (case i7 => k_is)
    (case l7 => k_is)
    (case c7 => k_is)
    (case k7 => k_is)
    (case a8 => k_is)
    (case i8 => k_is)
    (case l8 => k_is)
    (case c8 => k_is)
    (case k8 => k_is)
    (case a9 => k_is)
    (case i9 => k_is)
    (case l9 => k_is)
    (case c9 => k_is)
    (case k9 => k_is)
    (case a10 => k_is)
    (case i10 => k_is)
    (case l10 => k_is)
    (case c10 => k_is)
    (case k10 => k_is)
    (case a11 => k_is)
    (case i11 => k_is)
    (case l11 => k_is)
    (case c11 => k_is)
    (case k11 => k_is)
    (case ty12 => k_is)
    (case rd12 => k_is)
    (case ga12 => k_is)
    (case a12 => k_is)
    (case rc12 => k_is)
    (case fi12 => k_is)
    (case l12 => k_is)
    (case c12 => k_is)
    (case k12 => k_is)
    (case a13 => k_is)
    (case i13 => k_is)
    (case l13 => k_is)
    (case c13 => k_is)
    (case k13 => k_is)
    (case a14 => k_is)
    (case l14 => k_is)
    (case c14 => k_is)
    (case k14 => k_is)
    (case a15 => k_is)
    (case l15 => k_is)
    (case c15 => k_is)
    (case k15 => k_is)
    (case a16 => k_is)
    (case l16 => k_is)
    (case c16 => k_is)
    (case k16 => k_is)
    (case a17 => k_is)
    (case l17 => k_is)
    (case c17 => k_is)
    (case k17 => k_is)
    (case a18 => k_is)
    (case i18 => k_is)
    (case l18 => k_is)
    (case c18 => k_is)
    (case k18 => k_is)
    (case a19 => k_is)
    (case i19 => k_is)
    (case l19 => k_is)
    (case c19 => k_is)
    (case k19 => k_is)
    (case a20 => k_is)
    (case i20 => k_is)
    (case l20 => k_is)
    (case c20 => k_is)
    (case k20 => k_is)
    (case a21 => k_is)
    (case i21 => k_is)
    (case l21 => k_is)
    (case c21 => k_is)
    (case k21 => k_is)
    (case a22 => k_is)
    (case l22 => k_is)
    (case c22 => k_is)
    (case k22 => k_is)
    (case a23 => k_is)
    (case i23 => k_is)
    (case l23 => k_is)
    (case c23 => k_is)
    (case k23 => k_is)
    (case a24 => k_is)
    (case i24 => k_is)
    (case l24 => k_is)
    (case c24 => k_is)
    (case k24 => k_is)
    (case a25 => k_is)
    (case i25 => k_is)
    (case l25 => k_is)
    (case c25 => k_is)
    (case k25 => k_is)
    (case a26 => k_is)
    (case i26 => k_is)
    (case l26 => k_is)
    (case c26 => k_is)
    (case k26 => k_is)
    (case a27 => k_is)
    (case i27 => k_is)
    (case l27 => k_is)
    (case c27 => k_is)
    (case k27 => k_is)
    (case a28 => k_is)
    (case i28 => k_is)
    (case l28 => k_is)
    (case c28 => k_is)
    (case k28 => k_is)
    (case a29 => k_is)
    (case i29 => k_is)
    (case l29 => k_is)
    (case c29 => k_is)
    (case k29 => k_is)
    (case a30 => k_is)
    (case i30 => k_is)
    (case l30 => k_is)
    (case c30 => k_is)
    (case k30 => k_is)
    (case a31 => k_is)
    (case i31 => k_is)
    (case l31 => k_is)
    (case c31 => k_is)
    (case k31 => k_is)
    (case aS => k_is)
    (case kcS => k_is)
    (case mkS => k_is)
    (case pgS => k_is)
    (case hdS => k_is)
    (case poS => k_is)
    (case saS => k_is)
    (case nS_columns => k_is)
    (case nS_count => k_is)
    (case nS_lines => k_is)
    (case nS_goal => k_is)
    (case nS_basis => k_is)
    (case a32 => k_is)
    (case i32 => k_is)
    (case l32 => k_is)
    (case c32 => k_is)
    (case k32 => k_is)
    (case a33 => k_is)
    (case i33 => k_is)
    (case l33 => k_is)
    (case c33 => k_is)
    (case k33 => k_is)
    (case a34 => k_is)
    (case i34 => k_is)
    (case l34 => k_is)
    (case c34 => k_is)
    (case k34 => k_is)
    (case a35 => k_is)
    (case i35 => k_is)
    (case l35 => k_is)
    (case c35 => k_is)
    (case k35 => k_is)
    (case a36 => k_is)
    (case i36 => k_is)
    (case l36 => k_is)
    (case c36 => k_is)
    (case k36 => k_is)
    (case a37 => k_is)
    (case i37 => k_is)
    (case l37 => k_is)
    (case c37 => k_is)
    (case k37 => k_is)
    (case a38 => k_is)
    (case i38 => k_is)
    (case l38 => k_is)
    (case c38 => k_is)
    (case k38 => k_is)
    (case a39 => k_is)
    (case i39 => k_is)
    (case l39 => k_is)
    (case c39 => k_is)
    (case k39 => k_is)
    (case a40 => k_is)
    (case l40 => k_is)
    (case c40 => k_is)
    (case k40 => k_is)
    (case a41 => k_is)
    (case l41 => k_is)
    (case c41 => k_is)
    (case k41 => k_is)
    (case a42 => k_is)
    (case l42 => k_is)
    (case c42 => k_is)
    (case k42 => k_is)
    (case a43 => k_is)
    (case l43 => k_is)
    (case c43 => k_is)
    (case k43 => k_is)
    (case a44 => k_is)
    (case l44 => k_is)
    (case c44 => k_is)
    (case k44 => k_is)
    (case a45 => k_is)
    (case l45 => k_is)
    (case c45 => k_is)
    (case k45 => k_is)
    (case a46 => k_is)
    (case l46 => k_is)
    (case c46 => k_is)
    (case k46 => k_is)
    (case a47 => k_is)
    (case i47 => k_is)
    (case l47 => k_is)
    (case c47 => k_is)
    (case k47 => k_is)
    (case a48 => k_is)
    (case l48 => k_is)
    (case c48 => k_is)
    (case k48 => k_is)
    (case a49 => k_is)
    (case l49 => k_is)
    (case c49 => k_is)
    (case k49 => k_is)
    (case a50 => k_is)
    (case l50 => k_is)
    (case c50 => k_is)
    (case k50 => k_is)
    (case a51 => k_is)
    (case l51 => k_is)
    (case c51 => k_is)
    (case k51 => k_is)
    (case a52 => k_is)
    (case l52 => k_is)
    (case c52 => k_is)
    (case k52 => k_is)
    (case a53 => k_is)
    (case l53 => k_is)
    (case c53 => k_is)
    (case k53 => k_is)
    (case a54 => k_is)
    (case l54 => k_is)
    (case c54 => k_is)
    (case k54 => k_is)
    (case a55 => k_is)
    (case l55 => k_is)
    (case c55 => k_is)
    (case k55 => k_is)
    (case a56 => k_is)
    (case l56 => k_is)
    (case c56 => k_is)
    (case k56 => k_is)
    (case a57 => k_is)
    (case l57 => k_is)
    (case c57 => k_is)
    (case k57 => k_is)
    (case a58 => k_is)
    (case l58 => k_is)
    (case c58 => k_is)
    (case k58 => k_is)
    (case a59 => k_is)
    (case l59 => k_is)
    (case c59 => k_is)
    (case k59 => k_is)
    (case a60 => k_is)
    (case l60 => k_is)
    (case c60 => k_is)
    (case k60 => k_is)
    (case a61 => k_is)
    (case l61 => k_is)
    (case c61 => k_is)
    (case k61 => k_is)
    (case a62 => k_is)
    (case l62 => k_is)
    (case c62 => k_is)
    (case k62 => k_is)
    (case a63 => k_is)
    (case l63 => k_is)
    (case c63 => k_is)
    (case k63 => k_is)
    (case a64 => k_is)
    (case l64 => k_is)
    (case c64 => k_is)
    (case k64 => k_is)
    (case a65 => k_is)
    (case l65 => k_is)
    (case c65 => k_is)
    (case k65 => k_is)
