import PyProof.Rows.All
import Wide.All
import OpenK.AllK
import Wide.FinOn
import KE.KStateDown
import HandS.ForMost
import HandS.More
import HandS.Defaults
import HandS.Exc
import HandS.WordsExc
import HandS.TryOnly
import HandS.IsInst
import HandS.HeadHook1
import HandS.Steps
import HandS.SortKw
import KE.KMinKey
import HandS.Strs
import HandS.Text
import HandS.HeadEnd
import HandS.EndBits
import HandS.Head2
import HandS.HeadHook2
import HandS.Iter
import PyProof.ReprRoads
import KE.KExcIs
import HandS.ExcValue
import KE.GoesMore
import PyProof.EnumMake
import HandS.Replace
import HandS.Dict
import HandS.Head0
import HandS.Head1
import PySem.Challenge.RW_brakeline_k04_lines
set_option Elab.async false
set_option linter.all false
set_option maxRecDepth 100000
set_option maxHeartbeats 4000000
/-! ## TL1: what a mirror gives (R), what follows (Post), worlds (Fr), types of data (Ty) -/
namespace TL
open PySem PySem.Spec PyProof.Rows L2

/-- an own exception: its class by name, perhaps one int field -/
inductive Exn where
  | own (c : Str)
  | fld (c f : Str) (n : Int)
inductive R (α : Type) where
  | stuck
  | err (e : Exn)
  | ok (a : α)
def bd {α β : Type} (m : R α) (f : α → R β) : R β := match m with
  | .stuck => .stuck
  | .err e => .err e
  | .ok a => f a
@[simp] theorem bd_ok {α β : Type} (a : α) (f : α → R β) : bd (.ok a) f = f a := rfl
@[simp] theorem bd_err {α β : Type} (e : Exn) (f : α → R β) : bd (.err e) f = .err e := rfl
@[simp] theorem bd_stuck {α β : Type} (f : α → R β) : bd .stuck f = .stuck := rfl
theorem bd_assoc {α β γ : Type} (m : R α) (f : α → R β) (g : β → R γ) : bd (bd m f) g = bd m fun a => bd (f a) g := by
  cases m <;> rfl
/-- what follows from how m ends -/
def Post {α : Type} (m : R α) (k : α → Prop) (x : Exn → Prop) : Prop := match m with
  | .stuck => False
  | .err e => x e
  | .ok a => k a
theorem post_bd {α β : Type} {m : R α} {f : α → R β} {k : β → Prop} {x : Exn → Prop} (h : Post (bd m f) k x) : Post m (fun a => Post (f a) k x) x := by
  cases m with
  | stuck => exact h
  | err e => exact h
  | ok a => exact h
theorem bd_post {α β : Type} {m : R α} {f : α → R β} {k : β → Prop} {x : Exn → Prop} (h : Post m (fun a => Post (f a) k x) x) : Post (bd m f) k x := by
  cases m with
  | stuck => exact h
  | err e => exact h
  | ok a => exact h
theorem post_imp {α : Type} {m : R α} {k k' : α → Prop} {x x' : Exn → Prop} (h : Post m k x) (hk : ∀ a, m = .ok a → k a → k' a) (hx : ∀ e, m = .err e → x e → x' e) : Post m k' x' := by
  cases m with
  | stuck => exact h
  | err e => exact hx e rfl h
  | ok a => exact hk a rfl h

/-! ### worlds: F what is frozen (for ever as it is), H all that is tracked -/
structure Fr (F H F' H' : Hp) : Prop where
  f : Same F F'
  h : Same H H'
  s : Same F' H'
  n : ∀ p, F p = none → H p ≠ none → F' p = none
section
variable {F H F' H' F1 H1 F2 H2 F0 H0 : Hp} {p : Addr} {o : HO}
theorem Fr.refl (s : Same F H) : Fr F H F H := ⟨Same.refl F, Same.refl H, s, fun _ h _ => h⟩
theorem some_ne {x : Option HO} {o : HO} (h : x = some o) : x ≠ none := by
  rw [h]
  exact Option.some_ne_none o
theorem ne_none_of {x : Option HO} (h : x ≠ none) : ∃ o, x = some o := by
  cases x with
  | none => exact absurd rfl h
  | some o => exact ⟨o, rfl⟩
theorem Fr.trans (a : Fr F H F1 H1) (b : Fr F1 H1 F2 H2) : Fr F H F2 H2 := ⟨a.f.trans b.f, a.h.trans b.h, b.s, fun p hf hh => by
  obtain ⟨o, ho⟩ := ne_none_of hh
  exact b.n p (a.n p hf hh) (some_ne (a.h p o ho))⟩
theorem same_upd {H : Hp} (h : H p = none) : Same H (upd H p o) := fun b u e => by
  rw [upd_ne (ne_of_none e h)]
  exact e
theorem none_of_same (s : Same F H) (h : H p = none) : F p = none := s.free h
/-- a new object, frozen -/
theorem Fr.alloc (s : Same F H) (h : H p = none) : Fr F H (upd F p o) (upd H p o) := ⟨same_upd (s.free h), same_upd h, fun b u e => by
  by_cases q : b = p
  · subst q
    rw [upd_same] at e
    rw [upd_same]
    exact e
  · rw [upd_ne q] at e
    rw [upd_ne q]
    exact s b u e, fun b hf hh => by
  by_cases q : b = p
  · subst q
    exact absurd h hh
  · rw [upd_ne q]
    exact hf⟩
/-- a new object, one's own -/
theorem Fr.fresh (s : Same F H) (h : H p = none) : Fr F H F (upd H p o) := ⟨Same.refl F, same_upd h, s.trans (same_upd h), fun _ hf _ => hf⟩
/-- one's own object, made behind F0 H0, changes -/
theorem Fr.mut (a : Fr F0 H0 F H) (h0 : H0 p = none) (hf : F p = none) : Fr F0 H0 F (upd H p o) := ⟨a.f, fun b u e => by
  rw [upd_ne (ne_of_none e h0)]
  exact a.h b u e, fun b u e => by
  rw [upd_ne (ne_of_none e hf)]
  exact a.s b u e, a.n⟩
/-- one's own object, made behind F0 H0, is frozen -/
theorem Fr.freeze (a : Fr F0 H0 F H) (h0 : H0 p = none) (hp : H p = some o) (hf : F p = none) : Fr F0 H0 (upd F p o) H := ⟨a.f.trans (same_upd hf), a.h, fun b u e => by
  by_cases q : b = p
  · subst q
    rw [upd_same] at e
    rw [← e]
    exact hp
  · rw [upd_ne q] at e
    exact a.s b u e, fun b hf' hh => by
  by_cases q : b = p
  · subst q
    exact absurd h0 hh
  · rw [upd_ne q]
    exact a.n b hf' hh⟩
end

/-! ### types of data -/
structure Ty (α : Type) where
  rep : Hp → V → α → Prop
  mono : ∀ {F F' : Hp} {v : V} {a : α}, Same F F' → rep F v a → rep F' v a
structure TyA (α : Type) where
  len : Nat
  rep : Hp → List V → α → Prop
  mono : ∀ {F F' : Hp} {vs : List V} {a : α}, Same F F' → rep F vs a → rep F' vs a
  hlen : ∀ {F : Hp} {vs : List V} {a : α}, rep F vs a → vs.length = len
theorem sqL_mono {K : PySem.W.Frag} {F F' : Hp} {a : Addr} {xs : List V} (e : Same F F') (h : SqL K F a xs) : SqL K F' a xs := e.seq h
theorem sqT_mono {K : PySem.W.Frag} {F F' : Hp} {a : Addr} {xs : List V} (e : Same F F') (h : SqT K F a xs) : SqT K F' a xs := by
  rcases h with (h | ⟨o, h⟩) | h
  · exact .inl (.inl (e _ _ h))
  · exact .inl (.inr ⟨o, e _ _ h⟩)
  · exact .inr h
theorem paired_mono {α : Type} {t : Ty α} {F F' : Hp} (e : Same F F') : ∀ {vs : List V} {as : List α}, Paired (t.rep F) vs as → Paired (t.rep F') vs as
  | _, _, .nil => .nil
  | _, _, .cons h r => .cons (t.mono e h) (paired_mono e r)
def tInt : Ty Int := ⟨fun _ v a => v = .int a, fun _ h => h⟩
def tBool : Ty Bool := ⟨fun _ v a => v = .bl a, fun _ h => h⟩
def tNone : Ty Unit := ⟨fun _ v _ => v = .non, fun _ h => h⟩
def tStr : Ty Str := ⟨fun _ v a => v = .str a, fun _ h => h⟩
/-- None or a t that is not None -/
def tOpt {α : Type} (t : Ty α) : Ty (Option α) := ⟨fun F v a => match a with
  | none => v = .non
  | some b => v ≠ .non ∧ t.rep F v b, fun {F F' v a} e h => by
  cases a with
  | none => exact h
  | some b => exact ⟨h.1, t.mono e h.2⟩⟩
def tList (K : PySem.W.Frag) {α : Type} (t : Ty α) : Ty (List α) := ⟨fun F v as => ∃ p vs, v = .ref p ∧ SqL K F p vs ∧ Paired (t.rep F) vs as, fun e ⟨p, vs, h1, h2, h3⟩ => ⟨p, vs, h1, sqL_mono e h2, paired_mono e h3⟩⟩
/-- a list that the program made -/
def yList {α : Type} (t : Ty α) : Ty (List α) := ⟨fun F v as => ∃ p vs, v = .ref p ∧ F p = some (.lst vs) ∧ Paired (t.rep F) vs as, fun e ⟨p, vs, h1, h2, h3⟩ => ⟨p, vs, h1, e _ _ h2, paired_mono e h3⟩⟩
/-- a tuple of any number of alike things -/
def yTupL (K : PySem.W.Frag) {α : Type} (t : Ty α) : Ty (List α) := ⟨fun F v as => ∃ p vs, v = .ref p ∧ SqT K F p vs ∧ Paired (t.rep F) vs as, fun e ⟨p, vs, h1, h2, h3⟩ => ⟨p, vs, h1, sqT_mono e h2, paired_mono e h3⟩⟩
def aNil : TyA Unit := ⟨0, fun _ vs _ => vs = [], fun _ h => h, fun h => by rw [h] <;> rfl⟩
def aOne {α : Type} (t : Ty α) : TyA α := ⟨1, fun F vs a => ∃ v, vs = [v] ∧ t.rep F v a, fun e ⟨v, h, r⟩ => ⟨v, h, t.mono e r⟩, fun ⟨v, h, _⟩ => by rw [h] <;> rfl⟩
def aCons {α β : Type} (t : Ty α) (u : TyA β) : TyA (α × β) := ⟨u.len + 1, fun F vs a => ∃ v ws, vs = v :: ws ∧ t.rep F v a.1 ∧ u.rep F ws a.2, fun e ⟨v, ws, h, r, q⟩ => ⟨v, ws, h, t.mono e r, u.mono e q⟩, fun ⟨v, ws, h, _, q⟩ => by rw [h, List.length_cons, u.hlen q]⟩
def yTup (K : PySem.W.Frag) {α : Type} (u : TyA α) : Ty α := ⟨fun F v a => ∃ p vs, v = .ref p ∧ F p = some (.tup vs) ∧ u.rep F vs a, fun e ⟨p, vs, h1, h2, h3⟩ => ⟨p, vs, h1, e _ _ h2, u.mono e h3⟩⟩
/-- an instance of the own class x, never changed -/
def tObj (K : PySem.W.Frag) (x : Str) (names : List Str) {α : Type} (u : TyA α) : Ty α := ⟨fun F v a => ∃ p dx vs, v = .ref p ∧ F p = some (.ins (He.ga K x) dx (names.zip vs)) ∧ u.rep F vs a, fun e ⟨p, dx, vs, h1, h2, h3⟩ => ⟨p, dx, vs, h1, e _ _ h2, u.mono e h3⟩⟩
theorem dp_mono {K : PySem.W.Frag} {F F' : Hp} (e : Same F F') : ∀ {v : V} {d : PyData}, Dp K F v d → Dp K F' v d := by
  intro v d h
  exact Dp.rec (motive_1 := fun v d _ => Dp K F' v d) (motive_2 := fun vs ds _ => DpAll K F' vs ds) .non (fun b => .bl b) (fun i => .int i) (fun x => .str x)
    (fun hs _ ih => .lst (sqL_mono e hs) ih) (fun hs _ ih => .tup (sqT_mono e hs) ih) .nil (fun _ _ ih1 ih2 => .cons ih1 ih2) h
/-- any data; an empty dict; any dict -/
inductive Dyn where
  | dat (d : PyData)
  | dct
  | dany
/-- anything that the scripts hand in: data, or a dict -/
def tDyn (K : PySem.W.Frag) : Ty Dyn := ⟨fun F v a => match a with
  | .dat d => Dp K F v d
  | .dct => ∃ p, v = .ref p ∧ F p = some (.dK [])
  | .dany => ∃ p kvs, v = .ref p ∧ F p = some (.dK kvs), fun {F F' v a} e h => by
  cases a with
  | dat d => exact dp_mono e h
  | dct =>
    obtain ⟨p, h1, h2⟩ := h
    exact ⟨p, h1, e _ _ h2⟩
  | dany =>
    obtain ⟨p, kvs, h1, h2⟩ := h
    exact ⟨p, kvs, h1, e _ _ h2⟩⟩
/-- the i-th place of a row of things has the type t and the value pr -/
def Nth {α β : Type} (u : TyA α) (i : Nat) (t : Ty β) (pr : α → β) : Prop := ∀ {F : Hp} {vs : List V} {a : α}, u.rep F vs a → ∃ v, vs[i]? = some v ∧ t.rep F v (pr a)
theorem nth_one {α : Type} {t : Ty α} : Nth (aOne t) 0 t (fun a => a) := fun {F vs a} ⟨v, h, r⟩ => ⟨v, by rw [h] <;> rfl, r⟩
theorem nth_0 {α β : Type} {t : Ty α} {u : TyA β} : Nth (aCons t u) 0 t (fun a => a.1) := fun {F vs a} ⟨v, ws, h, r, _⟩ => ⟨v, by rw [h] <;> rfl, r⟩
theorem nth_s {α β γ : Type} {t : Ty α} {u : TyA β} {i : Nat} {t' : Ty γ} {pr : β → γ} (n : Nth u i t' pr) : Nth (aCons t u) (i + 1) t' (fun a => pr a.2) := fun {F vs a} ⟨v, ws, h, r, q⟩ => by
  obtain ⟨w, h1, h2⟩ := n q
  exact ⟨w, by rw [h, List.getElem?_cons_succ]; exact h1, h2⟩
end TL
/-! ## TL2: what an expression evaluates to (Ev), operators, tests, calls -/
namespace TL
open PySem PySem.Spec PyProof.Rows L2
abbrev WS := Exn → L2.St → Hp → Prop
def Ev {α : Type} (t : Ty α) (te : TE) (W : WS) (σ : L2.St) (F H : Hp) (m : R α) : Prop := ∀ F1 H1, Fr F H F1 H1 → ∀ Q : VK,
  Post m (fun a => ∀ v F2 H2, Fr F1 H1 F2 H2 → t.rep F2 v a → Q v H2) (fun e => ∀ F2 H2, Fr F1 H1 F2 H2 → W e σ H2) → te σ H1 Q
def EvT (tt : TT) (W : WS) (σ : L2.St) (F H : Hp) (m : R Bool) : Prop := ∀ F1 H1, Fr F H F1 H1 → ∀ Q : Bool → Hp → Prop,
  Post m (fun b => ∀ F2 H2, Fr F1 H1 F2 H2 → Q b H2) (fun e => ∀ F2 H2, Fr F1 H1 F2 H2 → W e σ H2) → tt σ H1 Q
def EvA {α : Type} (u : TyA α) (ta : TA) (W : WS) (σ : L2.St) (F H : Hp) (m : R α) : Prop := ∀ F1 H1, Fr F H F1 H1 → ∀ Q : List V → Hp → Prop,
  Post m (fun a => ∀ vs F2 H2, Fr F1 H1 F2 H2 → u.rep F2 vs a → Q vs H2) (fun e => ∀ F2 H2, Fr F1 H1 F2 H2 → W e σ H2) → ta σ H1 Q
/-- a row of alike things -/
def EvR {α : Type} (t : Ty α) (n : Nat) (ta : TA) (W : WS) (σ : L2.St) (F H : Hp) (m : R (List α)) : Prop := ∀ F1 H1, Fr F H F1 H1 → ∀ Q : List V → Hp → Prop,
  Post m (fun as => ∀ vs F2 H2, Fr F1 H1 F2 H2 → Paired (t.rep F2) vs as → as.length = n → Q vs H2) (fun e => ∀ F2 H2, Fr F1 H1 F2 H2 → W e σ H2) → ta σ H1 Q
/-- a new list, nobody else's -/
def EvL {α : Type} (t : Ty α) (te : TE) (W : WS) (σ : L2.St) (F H : Hp) (m : R (List α)) : Prop := ∀ F1 H1, Fr F H F1 H1 → ∀ Q : VK,
  Post m (fun as => ∀ p vs F2 H2, Fr F1 H1 F2 H2 → H1 p = none → F2 p = none → H2 p = some (.lst vs) → Paired (t.rep F2) vs as → Q (.ref p) H2) (fun e => ∀ F2 H2, Fr F1 H1 F2 H2 → W e σ H2) → te σ H1 Q

section
variable {K : PySem.W.Frag} {W : WS} {σ : L2.St} {F H F' H' : Hp} {α β γ δ : Type} {ta : Ty α} {tb : Ty β} {tc : Ty γ} {td : Ty δ} {te te1 te2 te3 : TE} {tt tt1 tt2 : TT} {v : V}
theorem Ev.mono {m : R α} (fr : Fr F H F' H') (h : Ev ta te W σ F H m) : Ev ta te W σ F' H' m := fun F1 H1 f => h F1 H1 (fr.trans f)
theorem EvT.mono {m : R Bool} (fr : Fr F H F' H') (h : EvT tt W σ F H m) : EvT tt W σ F' H' m := fun F1 H1 f => h F1 H1 (fr.trans f)
theorem EvA.mono {u : TyA α} {tx : TA} {m : R α} (fr : Fr F H F' H') (h : EvA u tx W σ F H m) : EvA u tx W σ F' H' m := fun F1 H1 f => h F1 H1 (fr.trans f)
theorem ev_is {m m' : R α} (h : Ev ta te W σ F H m) (e : m = m') : Ev ta te W σ F H m' := e ▸ h
theorem el_is {m m' : R (List α)} (h : EvL ta te W σ F H m) (e : m = m') : EvL ta te W σ F H m' := e ▸ h
theorem et_is {m m' : R Bool} (h : EvT tt W σ F H m) (e : m = m') : EvT tt W σ F H m' := e ▸ h
theorem ev_val {a : α} (h : ∀ (H : Hp) (Q : VK), Q v H → te σ H Q) (r : ta.rep F v a) : Ev ta te W σ F H (.ok a) := fun F1 H1 f Q q => h H1 Q (q v F1 H1 (Fr.refl f.s) (ta.mono f.f r))
theorem ev_var {i : Nat} {a : α} (h : σ[i]? = some (some v)) (r : ta.rep F v a) : Ev ta (tVar i) W σ F H (.ok a) := ev_val (fun _ _ q => ⟨v, h, q⟩) r
/-- scalars, told in whatever world -/
theorem ev_vI {i : Nat} {G : Hp} {a : Int} (h : σ[i]? = some (some v)) (r : tInt.rep G v a) : Ev tInt (tVar i) W σ F H (.ok a) := ev_val (fun _ _ q => ⟨v, h, q⟩) r
theorem ev_vB {i : Nat} {G : Hp} {a : Bool} (h : σ[i]? = some (some v)) (r : tBool.rep G v a) : Ev tBool (tVar i) W σ F H (.ok a) := ev_val (fun _ _ q => ⟨v, h, q⟩) r
theorem ev_vS {i : Nat} {G : Hp} {a : Str} (h : σ[i]? = some (some v)) (r : tStr.rep G v a) : Ev tStr (tVar i) W σ F H (.ok a) := ev_val (fun _ _ q => ⟨v, h, q⟩) r
theorem ev_vN {i : Nat} {G : Hp} {a : Unit} (h : σ[i]? = some (some v)) (r : tNone.rep G v a) : Ev tNone (tVar i) W σ F H (.ok a) := ev_val (fun _ _ q => ⟨v, h, q⟩) r
theorem ev_c {a : α} (r : ta.rep F v a) : Ev ta (tC v) W σ F H (.ok a) := ev_val (fun _ _ q => q) r
theorem ev_int {i : Int} : Ev tInt (tC (.int i)) W σ F H (.ok i) := ev_c rfl
theorem ev_bl {i : Bool} : Ev tBool (tC (.bl i)) W σ F H (.ok i) := ev_c rfl
theorem ev_str {i : Str} : Ev tStr (tC (.str i)) W σ F H (.ok i) := ev_c rfl
theorem ev_non : Ev tNone (tC .non) W σ F H (.ok ()) := ev_c rfl

/-! ### operators by values -/
def Op1 (ta : Ty α) (tc : Ty γ) (r : V → Hp → VK → Prop) (f : α → R γ) : Prop := ∀ F H, Same F H → ∀ x a, ta.rep F x a → ∀ Q : VK,
  Post (f a) (fun c => ∀ v F2 H2, Fr F H F2 H2 → tc.rep F2 v c → Q v H2) (fun _ => False) → r x H Q
def Op2 (ta : Ty α) (tb : Ty β) (tc : Ty γ) (r : R2) (f : α → β → R γ) : Prop := ∀ F H, Same F H → ∀ x y a b, ta.rep F x a → tb.rep F y b → ∀ Q : VK,
  Post (f a b) (fun c => ∀ v F2 H2, Fr F H F2 H2 → tc.rep F2 v c → Q v H2) (fun _ => False) → r x y H Q
theorem op2_pure {r : R2} {f : α → β → R γ} (h : ∀ F H, Same F H → ∀ x y a b, ta.rep F x a → tb.rep F y b → ∀ Q : VK, Post (f a b) (fun c => ∀ v, tc.rep F v c → Q v H) (fun _ => False) → r x y H Q) : Op2 ta tb tc r f := fun F H s x y a b ra rb Q q =>
  h F H s x y a b ra rb Q (post_imp q (fun c _ k v rv => k v F H (Fr.refl s) rv) fun _ _ z => z)
/-- the steps of an operator raise nothing -/
theorem post_never {m : R γ} {k : γ → Prop} {x : Exn → Prop} (hn : ∀ e, m ≠ .err e) (h : Post m k x) : Post m k (fun _ => False) := post_imp h (fun _ _ z => z) fun e he _ => hn e he
def Calm (m : R γ) : Prop := ∀ e, m ≠ .err e
theorem calm_ok {c : γ} : Calm (.ok c) := fun e h => by cases h
theorem calm_stuck : Calm (.stuck : R γ) := fun e h => by cases h
theorem calm_ite {c : Prop} [Decidable c] {m n : R γ} (h1 : Calm m) (h2 : Calm n) : Calm (if c then m else n) := by
  by_cases h : c
  · rw [if_pos h]; exact h1
  · rw [if_neg h]; exact h2
theorem calm_opt {o : Option γ} : Calm (match o with | some c => R.ok c | none => .stuck) := by
  cases o with
  | none => exact calm_stuck
  | some c => exact calm_ok
theorem ev_op {r : R2} {f : α → β → R γ} {m1 : R α} {m2 : R β} (o : Op2 ta tb tc r f) (hn : ∀ a b, Calm (f a b)) (h1 : Ev ta te1 W σ F H m1) (h2 : Ev tb te2 W σ F H m2) : Ev tc (tOp r te1 te2) W σ F H (bd m1 fun a => bd m2 fun b => f a b) := fun F1 H1 f1 Q q => by
  refine h1 F1 H1 f1 _ (post_imp (post_bd q) (fun a _ q1 x F2 H2 f2 rx => ?_) fun e _ z => z)
  refine h2 F2 H2 (f1.trans f2) _ (post_imp (post_bd q1) (fun b _ q2 y F3 H3 f3 ry => ?_) fun e _ z F4 H4 f4 => z F4 H4 (f2.trans f4))
  refine o F3 H3 f3.s x y a b (ta.mono f3.f rx) ry _ (post_imp (post_never (hn a b) q2) (fun c _ k v F4 H4 f4 rv => k v F4 H4 ((f2.trans f3).trans f4) rv) fun _ _ z => z)
theorem ev_un {r : V → Hp → VK → Prop} {f : α → R γ} {m1 : R α} (o : Op1 ta tc r f) (hn : ∀ a, Calm (f a)) (h1 : Ev ta te1 W σ F H m1) : Ev tc (tUn r te1) W σ F H (bd m1 fun a => f a) := fun F1 H1 f1 Q q => by
  refine h1 F1 H1 f1 _ (post_imp (post_bd q) (fun a _ q1 x F2 H2 f2 rx => ?_) fun e _ z => z)
  exact o F2 H2 f2.s x a rx _ (post_imp (post_never (hn a) q1) (fun c _ k v F4 H4 f4 rv => k v F4 H4 (f2.trans f4) rv) fun _ _ z => z)
/-- total int operators -/
theorem o_I0 {g : Int → Int → Int} : Op2 tInt tInt tInt (rI0 fun i j => .int (g i j)) (fun a b => .ok (g a b)) := op2_pure fun F H s x y a b ra rb Q q => ⟨a, b, ra, rb, q _ rfl⟩
theorem o_B0 {g : Int → Int → Bool} : Op2 tInt tInt tBool (rI0 fun i j => .bl (g i j)) (fun a b => .ok (g a b)) := op2_pure fun F H s x y a b ra rb Q q => ⟨a, b, ra, rb, q _ rfl⟩
theorem o_I {C : Int → Int → Prop} [∀ i j, Decidable (C i j)] {g : Int → Int → Int} : Op2 tInt tInt tInt (rI C fun i j => .int (g i j)) (fun a b => if C a b then .ok (g a b) else .stuck) := op2_pure fun F H s x y a b ra rb Q q => by
  by_cases h : C a b
  · rw [if_pos h] at q
    exact ⟨a, b, ra, rb, h, q _ rfl⟩
  · rw [if_neg h] at q
    exact q.elim
instance : ∀ i j, Decidable (CMul i j) := fun i j => by unfold CMul; infer_instance
instance : ∀ i j, Decidable (CDiv i j) := fun i j => by unfold CDiv; infer_instance
instance : ∀ i j, Decidable (CPow i j) := fun i j => by unfold CPow; infer_instance
def mulR (a b : Int) : R Int := if CMul a b then .ok (a * b) else .stuck
def divR (a b : Int) : R Int := if CDiv a b then .ok (a / b) else .stuck
def modR (a b : Int) : R Int := if 0 < b then .ok (a % b) else .stuck
def powR (a b : Int) : R Int := if CPow a b then .ok (a ^ b.toNat) else .stuck
theorem calm_mulR {a b : Int} : Calm (mulR a b) := calm_ite calm_ok calm_stuck
theorem calm_divR {a b : Int} : Calm (divR a b) := calm_ite calm_ok calm_stuck
theorem calm_modR {a b : Int} : Calm (modR a b) := calm_ite calm_ok calm_stuck
theorem calm_powR {a b : Int} : Calm (powR a b) := calm_ite calm_ok calm_stuck
theorem ev_add {m1 m2 : R Int} (h1 : Ev tInt te1 W σ F H m1) (h2 : Ev tInt te2 W σ F H m2) : Ev tInt (tOp (rI0 fun i j => .int (i + j)) te1 te2) W σ F H (bd m1 fun a => bd m2 fun b => .ok (a + b)) := ev_op o_I0 (fun _ _ => calm_ok) h1 h2
theorem ev_sub {m1 m2 : R Int} (h1 : Ev tInt te1 W σ F H m1) (h2 : Ev tInt te2 W σ F H m2) : Ev tInt (tOp (rI0 fun i j => .int (i - j)) te1 te2) W σ F H (bd m1 fun a => bd m2 fun b => .ok (a - b)) := ev_op o_I0 (fun _ _ => calm_ok) h1 h2
theorem ev_mul {m1 m2 : R Int} (h1 : Ev tInt te1 W σ F H m1) (h2 : Ev tInt te2 W σ F H m2) : Ev tInt (tOp (rI CMul fun i j => .int (i * j)) te1 te2) W σ F H (bd m1 fun a => bd m2 fun b => mulR a b) := ev_op o_I (fun _ _ => calm_mulR) h1 h2
theorem ev_div {m1 m2 : R Int} (h1 : Ev tInt te1 W σ F H m1) (h2 : Ev tInt te2 W σ F H m2) : Ev tInt (tOp (rI CDiv fun i j => .int (i / j)) te1 te2) W σ F H (bd m1 fun a => bd m2 fun b => divR a b) := ev_op o_I (fun _ _ => calm_divR) h1 h2
theorem ev_mod {m1 m2 : R Int} (h1 : Ev tInt te1 W σ F H m1) (h2 : Ev tInt te2 W σ F H m2) : Ev tInt (tOp (rI (fun _ j => 0 < j) fun i j => .int (i % j)) te1 te2) W σ F H (bd m1 fun a => bd m2 fun b => modR a b) := ev_op o_I (fun _ _ => calm_modR) h1 h2
theorem ev_pow {m1 m2 : R Int} (h1 : Ev tInt te1 W σ F H m1) (h2 : Ev tInt te2 W σ F H m2) : Ev tInt (tOp (rI CPow fun i j => .int (i ^ j.toNat)) te1 te2) W σ F H (bd m1 fun a => bd m2 fun b => powR a b) := ev_op o_I (fun _ _ => calm_powR) h1 h2
theorem ev_neg {m1 : R Int} (h1 : Ev tInt te1 W σ F H m1) : Ev tInt (tUn (rU fun i => .int (-i)) te1) W σ F H (bd m1 fun a => .ok (-a)) := ev_un (fun F H s x a ra Q q => ⟨a, ra, q _ F H (Fr.refl s) rfl⟩) (fun _ => calm_ok) h1
theorem ev_lt {m1 m2 : R Int} (h1 : Ev tInt te1 W σ F H m1) (h2 : Ev tInt te2 W σ F H m2) : Ev tBool (tOp (rI0 fun i j => .bl (decide (i < j))) te1 te2) W σ F H (bd m1 fun a => bd m2 fun b => .ok (decide (a < b))) := ev_op o_B0 (fun _ _ => calm_ok) h1 h2
theorem ev_le {m1 m2 : R Int} (h1 : Ev tInt te1 W σ F H m1) (h2 : Ev tInt te2 W σ F H m2) : Ev tBool (tOp (rI0 fun i j => .bl (decide (i ≤ j))) te1 te2) W σ F H (bd m1 fun a => bd m2 fun b => .ok (decide (a ≤ b))) := ev_op o_B0 (fun _ _ => calm_ok) h1 h2
theorem ev_gt {m1 m2 : R Int} (h1 : Ev tInt te1 W σ F H m1) (h2 : Ev tInt te2 W σ F H m2) : Ev tBool (tOp (rI0 fun i j => .bl (decide (j < i))) te1 te2) W σ F H (bd m1 fun a => bd m2 fun b => .ok (decide (b < a))) := ev_op o_B0 (fun _ _ => calm_ok) h1 h2
theorem ev_ge {m1 m2 : R Int} (h1 : Ev tInt te1 W σ F H m1) (h2 : Ev tInt te2 W σ F H m2) : Ev tBool (tOp (rI0 fun i j => .bl (decide (j ≤ i))) te1 te2) W σ F H (bd m1 fun a => bd m2 fun b => .ok (decide (b ≤ a))) := ev_op o_B0 (fun _ _ => calm_ok) h1 h2

/-! ### == of scalars, of data -/
/-- a type whose values say themselves -/
structure Scal (t : Ty α) where
  val : α → V
  is : ∀ {F v a}, t.rep F v a → v = val a
  inj : ∀ {a b}, val a = val b → a = b
def sInt : Scal tInt := ⟨.int, fun h => h, fun h => by injection h⟩
def sBool : Scal tBool := ⟨.bl, fun h => h, fun h => by injection h⟩
def sStr : Scal tStr := ⟨.str, fun h => h, fun h => by injection h⟩
theorem ev_eq [DecidableEq α] (S : Scal ta) (hs : ∀ a b, scal (S.val a) (S.val b) = true) {m1 m2 : R α} (h1 : Ev ta te1 W σ F H m1) (h2 : Ev ta te2 W σ F H m2) : Ev tBool (tOp rEq te1 te2) W σ F H (bd m1 fun a => bd m2 fun b => .ok (decide (a = b))) :=
  ev_op (op2_pure fun F H s x y a b ra rb Q q => by
    rw [S.is ra, S.is rb]
    refine ⟨hs a b, ?_⟩
    have e : decide (S.val a = S.val b) = decide (a = b) := by
      by_cases h : a = b
      · rw [decide_eq_true h, decide_eq_true (congrArg S.val h)]
      · rw [decide_eq_false h, decide_eq_false fun z => h (S.inj z)]
    rw [e]
    exact q _ rfl) (fun _ _ => calm_ok) h1 h2
theorem ev_ne [DecidableEq α] (S : Scal ta) (hs : ∀ a b, scal (S.val a) (S.val b) = true) {m1 m2 : R α} (h1 : Ev ta te1 W σ F H m1) (h2 : Ev ta te2 W σ F H m2) : Ev tBool (tOp rNe te1 te2) W σ F H (bd m1 fun a => bd m2 fun b => .ok (!decide (a = b))) :=
  ev_op (op2_pure fun F H s x y a b ra rb Q q => by
    rw [S.is ra, S.is rb]
    refine ⟨hs a b, ?_⟩
    have e : decide (S.val a = S.val b) = decide (a = b) := by
      by_cases h : a = b
      · rw [decide_eq_true h, decide_eq_true (congrArg S.val h)]
      · rw [decide_eq_false h, decide_eq_false fun z => h (S.inj z)]
    rw [e]
    exact q _ rfl) (fun _ _ => calm_ok) h1 h2
theorem ev_eqI {m1 m2 : R Int} (h1 : Ev tInt te1 W σ F H m1) (h2 : Ev tInt te2 W σ F H m2) : Ev tBool (tOp rEq te1 te2) W σ F H (bd m1 fun a => bd m2 fun b => .ok (decide (a = b))) := ev_eq sInt (fun _ _ => rfl) h1 h2
theorem ev_neI {m1 m2 : R Int} (h1 : Ev tInt te1 W σ F H m1) (h2 : Ev tInt te2 W σ F H m2) : Ev tBool (tOp rNe te1 te2) W σ F H (bd m1 fun a => bd m2 fun b => .ok (!decide (a = b))) := ev_ne sInt (fun _ _ => rfl) h1 h2
theorem ev_eqB {m1 m2 : R Bool} (h1 : Ev tBool te1 W σ F H m1) (h2 : Ev tBool te2 W σ F H m2) : Ev tBool (tOp rEq te1 te2) W σ F H (bd m1 fun a => bd m2 fun b => .ok (decide (a = b))) := ev_eq sBool (fun _ _ => rfl) h1 h2
theorem ev_neB {m1 m2 : R Bool} (h1 : Ev tBool te1 W σ F H m1) (h2 : Ev tBool te2 W σ F H m2) : Ev tBool (tOp rNe te1 te2) W σ F H (bd m1 fun a => bd m2 fun b => .ok (!decide (a = b))) := ev_ne sBool (fun _ _ => rfl) h1 h2
theorem ev_eqS {m1 m2 : R Str} (h1 : Ev tStr te1 W σ F H m1) (h2 : Ev tStr te2 W σ F H m2) : Ev tBool (tOp rEq te1 te2) W σ F H (bd m1 fun a => bd m2 fun b => .ok (decide (a = b))) := ev_eq sStr (fun _ _ => rfl) h1 h2
theorem ev_neS {m1 m2 : R Str} (h1 : Ev tStr te1 W σ F H m1) (h2 : Ev tStr te2 W σ F H m2) : Ev tBool (tOp rNe te1 te2) W σ F H (bd m1 fun a => bd m2 fun b => .ok (!decide (a = b))) := ev_ne sStr (fun _ _ => rfl) h1 h2
/-- data: its encoding, of a depth that is told -/
structure IsD (K : PySem.W.Frag) (t : Ty α) (enc : α → PyData) (n : Nat) : Prop where
  dp : ∀ {F v a}, t.rep F v a → Dp K F v (enc a)
  dep : ∀ a, (enc a).depth ≤ n
def eqDR (d e : PyData) : R Bool := if d.canLay0 = true ∧ e.canLay0 = true then .ok (PyData.eqv d e) else .stuck
def neDR (d e : PyData) : R Bool := if d.canLay0 = true ∧ e.canLay0 = true then .ok (!PyData.eqv d e) else .stuck
theorem calm_eqDR {d e : PyData} : Calm (eqDR d e) := calm_ite calm_ok calm_stuck
theorem calm_neDR {d e : PyData} : Calm (neDR d e) := calm_ite calm_ok calm_stuck
theorem shp {d : PyData} {n : Nat} (h : d.canLay0 = true) (hd : d.depth ≤ n) (hn : n ≤ 64) : SeqAt.shaped d = true := by
  unfold SeqAt.shaped
  rw [h, decide_eq_true (Nat.le_trans hd hn)]
  rfl
theorem ev_eqD {ea : α → PyData} {eb : β → PyData} {na nb : Nat} (da : IsD K ta ea na) (db : IsD K tb eb nb) (ha : na ≤ 64) (hb : nb ≤ 64) {m1 : R α} {m2 : R β} (h1 : Ev ta te1 W σ F H m1) (h2 : Ev tb te2 W σ F H m2) : Ev tBool (tOp (rEqD K) te1 te2) W σ F H (bd m1 fun a => bd m2 fun b => eqDR (ea a) (eb b)) :=
  ev_op (op2_pure fun F H s x y a b ra rb Q q => by
    unfold eqDR at q
    by_cases h : (ea a).canLay0 = true ∧ (eb b).canLay0 = true
    · rw [if_pos h] at q
      exact ⟨_, _, dp_mono s (da.dp ra), dp_mono s (db.dp rb), shp h.1 (da.dep a) ha, shp h.2 (db.dep b) hb, q _ rfl⟩
    · rw [if_neg h] at q
      exact q.elim) (fun _ _ => calm_eqDR) h1 h2
theorem ev_neD {ea : α → PyData} {eb : β → PyData} {na nb : Nat} (da : IsD K ta ea na) (db : IsD K tb eb nb) (ha : na ≤ 64) (hb : nb ≤ 64) {m1 : R α} {m2 : R β} (h1 : Ev ta te1 W σ F H m1) (h2 : Ev tb te2 W σ F H m2) : Ev tBool (tOp (rNeD K) te1 te2) W σ F H (bd m1 fun a => bd m2 fun b => neDR (ea a) (eb b)) :=
  ev_op (op2_pure fun F H s x y a b ra rb Q q => by
    unfold neDR at q
    by_cases h : (ea a).canLay0 = true ∧ (eb b).canLay0 = true
    · rw [if_pos h] at q
      exact ⟨_, _, dp_mono s (da.dp ra), dp_mono s (db.dp rb), shp h.1 (da.dep a) ha, shp h.2 (db.dep b) hb, q _ rfl⟩
    · rw [if_neg h] at q
      exact q.elim) (fun _ _ => calm_neDR) h1 h2
/-- x is None -/
theorem ev_isN {m1 : R (Option α)} (h1 : Ev (tOpt ta) te1 W σ F H m1) : Ev tBool (tIsN te1) W σ F H (bd m1 fun a => .ok a.isNone) := fun F1 H1 f1 Q q => by
  refine h1 F1 H1 f1 _ (post_imp (post_bd q) (fun a _ q1 x F2 H2 f2 rx => ?_) fun e _ z => z)
  cases a with
  | none =>
    have rx : x = .non := rx
    subst rx
    exact q1 _ F2 H2 f2 rfl
  | some b =>
    have e : decide (x = .non) = false := decide_eq_false rx.1
    show Q (.bl (decide (x = .non))) H2
    rw [e]
    exact q1 _ F2 H2 f2 rfl
theorem ev_notN {m1 : R (Option α)} (h1 : Ev (tOpt ta) te1 W σ F H m1) : Ev tBool (tNotN te1) W σ F H (bd m1 fun a => .ok a.isSome) := fun F1 H1 f1 Q q => by
  refine h1 F1 H1 f1 _ (post_imp (post_bd q) (fun a _ q1 x F2 H2 f2 rx => ?_) fun e _ z => z)
  cases a with
  | none =>
    have rx : x = .non := rx
    subst rx
    exact q1 _ F2 H2 f2 rfl
  | some b =>
    have e : decide (x = .non) = false := decide_eq_false rx.1
    show Q (.bl (!decide (x = .non))) H2
    rw [e]
    exact q1 _ F2 H2 f2 rfl
/-- changes of type -/
def Cast (ta : Ty α) (tb : Ty β) (f : α → R β) : Prop := ∀ F v a, ta.rep F v a → ∀ b, f a = .ok b → tb.rep F v b
theorem ev_cast {f : α → R β} (c : Cast ta tb f) (hn : ∀ a, Calm (f a)) {m1 : R α} (h1 : Ev ta te1 W σ F H m1) : Ev tb te1 W σ F H (bd m1 f) := fun F1 H1 f1 Q q => by
  refine h1 F1 H1 f1 _ (post_imp (post_bd q) (fun a _ q1 x F2 H2 f2 rx => ?_) fun e _ z => z)
  cases hf : f a with
  | stuck =>
    rw [hf] at q1
    exact q1.elim
  | err e => exact absurd hf (hn a e)
  | ok b =>
    rw [hf] at q1
    exact q1 x F2 H2 f2 (c _ _ _ rx b hf)
def fromSome {α : Type} : Option α → R α
  | some a => .ok a
  | none => .stuck
theorem calm_fromSome {o : Option α} : Calm (fromSome o) := by
  cases o with
  | none => exact calm_stuck
  | some c => exact calm_ok
theorem ev_some {m1 : R (Option α)} (h1 : Ev (tOpt ta) te1 W σ F H m1) : Ev ta te1 W σ F H (bd m1 fromSome) := ev_cast (fun F v a r b e => by
  cases a with
  | none => cases e
  | some c =>
    cases e
    exact r.2) (fun _ => calm_fromSome) h1
/-- never None -/
def NotNon (t : Ty α) : Prop := ∀ F v a, t.rep F v a → v ≠ .non
theorem ev_optOf (hn : NotNon ta) {m1 : R α} (h1 : Ev ta te1 W σ F H m1) : Ev (tOpt ta) te1 W σ F H (bd m1 fun a => .ok (some a)) := ev_cast (fun F v a r b e => by
  cases e
  exact ⟨hn _ _ _ r, r⟩) (fun _ => calm_ok) h1
theorem ev_noneOf (h1 : Ev tNone te1 W σ F H (.ok ())) : Ev (tOpt ta) te1 W σ F H (.ok none) := ev_is (ev_cast (tb := tOpt ta) (f := fun _ => .ok none) (fun F v a r b e => by
  cases e
  exact r) (fun _ => calm_ok) h1) rfl
theorem nn_int : NotNon tInt := fun F v a r e => by
  have r : v = .int a := r
  rw [r] at e
  cases e
theorem nn_str : NotNon tStr := fun F v a r e => by
  have r : v = .str a := r
  rw [r] at e
  cases e
theorem nn_tup {u : TyA α} : NotNon (yTup K u) := fun F v a ⟨p, vs, r, _⟩ e => by
  rw [r] at e
  cases e

/-! ### tests -/
theorem et_val {m : R Bool} (h : Ev tBool te W σ F H m) : EvT (tB te) W σ F H m := fun F1 H1 f1 Q q =>
  h F1 H1 f1 _ (post_imp q (fun b _ k x F2 H2 f2 rx => ⟨b, rx, k F2 H2 f2⟩) fun e _ z => z)
theorem et_test {m : R Bool} (h : Ev tBool te W σ F H m) : EvT (tTest te) W σ F H m := fun F1 H1 f1 Q q =>
  h F1 H1 f1 _ (post_imp q (fun b _ k x F2 H2 f2 rx => ⟨b, rx, k F2 H2 f2⟩) fun e _ z => z)
theorem et_not {m : R Bool} (h : EvT tt W σ F H m) : EvT (tNot tt) W σ F H (bd m fun b => .ok (!b)) := fun F1 H1 f1 Q q =>
  h F1 H1 f1 _ (post_imp (post_bd q) (fun b _ k F2 H2 f2 => k F2 H2 f2) fun e _ z => z)
theorem et_and {m1 m2 : R Bool} (h1 : EvT tt1 W σ F H m1) (h2 : EvT tt2 W σ F H m2) : EvT (tAnd tt1 tt2) W σ F H (bd m1 fun b => if b = true then m2 else .ok false) := fun F1 H1 f1 Q q => by
  refine h1 F1 H1 f1 _ (post_imp (post_bd q) (fun b _ k F2 H2 f2 => ?_) fun e _ z => z)
  cases b with
  | true =>
    rw [if_pos rfl] at k
    show tt2 σ H2 Q
    exact h2 F2 H2 (f1.trans f2) _ (post_imp k (fun c _ k2 F3 H3 f3 => k2 F3 H3 (f2.trans f3)) fun e _ z F3 H3 f3 => z F3 H3 (f2.trans f3))
  | false => exact k F2 H2 f2
theorem et_or {m1 m2 : R Bool} (h1 : EvT tt1 W σ F H m1) (h2 : EvT tt2 W σ F H m2) : EvT (tOr tt1 tt2) W σ F H (bd m1 fun b => if b = true then .ok true else m2) := fun F1 H1 f1 Q q => by
  refine h1 F1 H1 f1 _ (post_imp (post_bd q) (fun b _ k F2 H2 f2 => ?_) fun e _ z => z)
  cases b with
  | true => exact k F2 H2 f2
  | false =>
    have k : Post m2 _ _ := k
    show tt2 σ H2 Q
    exact h2 F2 H2 (f1.trans f2) _ (post_imp k (fun c _ k2 F3 H3 f3 => k2 F3 H3 (f2.trans f3)) fun e _ z F3 H3 f3 => z F3 H3 (f2.trans f3))
theorem ev_andV {m1 m2 : R Bool} (h1 : Ev tBool te1 W σ F H m1) (h2 : Ev tBool te2 W σ F H m2) : Ev tBool (tAndV te1 te2) W σ F H (bd m1 fun b => if b = true then m2 else .ok false) := fun F1 H1 f1 Q q => by
  refine h1 F1 H1 f1 _ (post_imp (post_bd q) (fun b _ k x F2 H2 f2 rx => ⟨b, rx, ?_⟩) fun e _ z => z)
  cases b with
  | true =>
    rw [if_pos rfl] at k
    show te2 σ H2 Q
    exact h2 F2 H2 (f1.trans f2) _ (post_imp k (fun c _ k2 v F3 H3 f3 => k2 v F3 H3 (f2.trans f3)) fun e _ z F3 H3 f3 => z F3 H3 (f2.trans f3))
  | false => exact k _ F2 H2 f2 rfl
theorem ev_orV {m1 m2 : R Bool} (h1 : Ev tBool te1 W σ F H m1) (h2 : Ev tBool te2 W σ F H m2) : Ev tBool (tOrV te1 te2) W σ F H (bd m1 fun b => if b = true then .ok true else m2) := fun F1 H1 f1 Q q => by
  refine h1 F1 H1 f1 _ (post_imp (post_bd q) (fun b _ k x F2 H2 f2 rx => ⟨b, rx, ?_⟩) fun e _ z => z)
  cases b with
  | true => exact k _ F2 H2 f2 rfl
  | false =>
    have k : Post m2 _ _ := k
    show te2 σ H2 Q
    exact h2 F2 H2 (f1.trans f2) _ (post_imp k (fun c _ k2 v F3 H3 f3 => k2 v F3 H3 (f2.trans f3)) fun e _ z F3 H3 f3 => z F3 H3 (f2.trans f3))
theorem ev_notV {m : R Bool} (h : Ev tBool te W σ F H m) : Ev tBool (tNotV te) W σ F H (bd m fun b => .ok (!b)) := fun F1 H1 f1 Q q =>
  h F1 H1 f1 _ (post_imp (post_bd q) (fun b _ k x F2 H2 f2 rx => ⟨b, rx, k _ F2 H2 f2 rfl⟩) fun e _ z => z)
theorem ev_if {m : R Bool} {m1 m2 : R α} (h : EvT tt W σ F H m) (h1 : Ev ta te1 W σ F H m1) (h2 : Ev ta te2 W σ F H m2) : Ev ta (tIf tt te1 te2) W σ F H (bd m fun b => if b = true then m1 else m2) := fun F1 H1 f1 Q q => by
  refine h F1 H1 f1 _ (post_imp (post_bd q) (fun b _ k F2 H2 f2 => ?_) fun e _ z => z)
  cases b with
  | true =>
    rw [if_pos rfl] at k
    show te1 σ H2 Q
    exact h1 F2 H2 (f1.trans f2) _ (post_imp k (fun c _ k2 v F3 H3 f3 => k2 v F3 H3 (f2.trans f3)) fun e _ z F3 H3 f3 => z F3 H3 (f2.trans f3))
  | false =>
    have k : Post m2 _ _ := k
    show te2 σ H2 Q
    exact h2 F2 H2 (f1.trans f2) _ (post_imp k (fun c _ k2 v F3 H3 f3 => k2 v F3 H3 (f2.trans f3)) fun e _ z F3 H3 f3 => z F3 H3 (f2.trans f3))
/-- a < b < c -/
theorem ev_chain {r r' : R2} {f : α → β → R Bool} {g : β → γ → R Bool} {m1 : R α} {m2 : R β} {m3 : R γ} (o : Op2 ta tb tBool r f) (hf : ∀ a b, Calm (f a b)) (o' : Op2 tb tc tBool r' g) (hg : ∀ a b, Calm (g a b)) (h1 : Ev ta te1 W σ F H m1) (h2 : Ev tb te2 W σ F H m2) (h3 : Ev tc te3 W σ F H m3) :
    Ev tBool (tChain r r' te1 te2 te3) W σ F H (bd m1 fun a => bd m2 fun b => bd (f a b) fun k => if k = true then bd m3 fun c => g b c else .ok false) := fun F1 H1 f1 Q q => by
  refine h1 F1 H1 f1 _ (post_imp (post_bd q) (fun a _ q1 x F2 H2 f2 rx => ?_) fun e _ z => z)
  refine h2 F2 H2 (f1.trans f2) _ (post_imp (post_bd q1) (fun b _ q2 y F3 H3 f3 ry => ?_) fun e _ z F4 H4 f4 => z F4 H4 (f2.trans f4))
  refine o F3 H3 f3.s x y a b (ta.mono f3.f rx) ry _ (post_imp (post_never (hf a b) (post_bd q2)) (fun k _ q3 z F4 H4 f4 rz => ⟨k, rz, ?_⟩) fun _ _ z => z)
  cases k with
  | false => exact q3 _ F4 H4 ((f2.trans f3).trans f4) rfl
  | true =>
    rw [if_pos rfl] at q3
    rw [if_pos rfl]
    refine h3 F4 H4 (((f1.trans f2).trans f3).trans f4) _ (post_imp (post_bd q3) (fun c _ q4 w F5 H5 f5 rw_ => ?_) fun e _ z F5 H5 f5 => z F5 H5 (((f2.trans f3).trans f4).trans f5))
    exact o' F5 H5 f5.s y w b c (tb.mono (f4.f.trans f5.f) ry) rw_ _ (post_imp (post_never (hg b c) q4) (fun c _ k v F6 H6 f6 rv => k v F6 H6 ((((f2.trans f3).trans f4).trans f5).trans f6) rv) fun _ _ z => z)

/-! ### rows of arguments, tuples, lists -/
theorem ea_nil : EvA aNil tNil W σ F H (.ok ()) := fun F1 H1 f1 Q q => q [] F1 H1 (Fr.refl f1.s) rfl
theorem ea_one {m : R α} (h : Ev ta te W σ F H m) : EvA (aOne ta) (tCons te tNil) W σ F H m := fun F1 H1 f1 Q q =>
  h F1 H1 f1 _ (post_imp q (fun a _ k x F2 H2 f2 rx => k [x] F2 H2 f2 ⟨x, rfl, rx⟩) fun e _ z => z)
theorem ea_cons {u : TyA β} {tr : TA} {m1 : R α} {m2 : R β} (h1 : Ev ta te W σ F H m1) (h2 : EvA u tr W σ F H m2) : EvA (aCons ta u) (tCons te tr) W σ F H (bd m1 fun a => bd m2 fun b => .ok (a, b)) := fun F1 H1 f1 Q q => by
  refine h1 F1 H1 f1 _ (post_imp (post_bd q) (fun a _ q1 x F2 H2 f2 rx => ?_) fun e _ z => z)
  refine h2 F2 H2 (f1.trans f2) _ (post_imp (post_bd q1) (fun b _ q2 vs F3 H3 f3 rv => ?_) fun e _ z F4 H4 f4 => z F4 H4 (f2.trans f4))
  exact q2 _ F3 H3 (f2.trans f3) ⟨x, vs, rfl, ta.mono f3.f rx, rv⟩
theorem er_nil : EvR ta 0 tNil W σ F H (.ok []) := fun F1 H1 f1 Q q => q [] F1 H1 (Fr.refl f1.s) .nil rfl
theorem er_cons {n : Nat} {tr : TA} {m1 : R α} {m2 : R (List α)} (h1 : Ev ta te W σ F H m1) (h2 : EvR ta n tr W σ F H m2) : EvR ta (n + 1) (tCons te tr) W σ F H (bd m1 fun a => bd m2 fun b => .ok (a :: b)) := fun F1 H1 f1 Q q => by
  refine h1 F1 H1 f1 _ (post_imp (post_bd q) (fun a _ q1 x F2 H2 f2 rx => ?_) fun e _ z => z)
  refine h2 F2 H2 (f1.trans f2) _ (post_imp (post_bd q1) (fun b _ q2 vs F3 H3 f3 rv hn => ?_) fun e _ z F4 H4 f4 => z F4 H4 (f2.trans f4))
  exact q2 _ F3 H3 (f2.trans f3) (.cons (ta.mono f3.f rx) rv) (by rw [List.length_cons, hn])
theorem small_line {n : Nat} (h : n ≤ 100000) : n ≤ sizeLine := Nat.le_trans h (by decide)
theorem ev_tup {u : TyA α} {tx : TA} {m : R α} (hl : u.len ≤ 100000) (h : EvA u tx W σ F H m) : Ev (yTup K u) (tTup tx) W σ F H m := fun F1 H1 f1 Q q =>
  h F1 H1 f1 _ (post_imp q (fun a _ k vs F2 H2 f2 rv => ⟨small_line (by rw [u.hlen rv]; exact hl), fun p hp => k _ _ _ (f2.trans (Fr.alloc f2.s hp)) ⟨p, vs, rfl, upd_same, u.mono (same_upd (f2.s.free hp)) rv⟩⟩) fun e _ z => z)
/-- a tuple of alike things, written -/
theorem ev_tupL {n : Nat} {tx : TA} {m : R (List α)} (hl : n ≤ 100000) (h : EvR ta n tx W σ F H m) : Ev (yTupL K ta) (tTup tx) W σ F H m := fun F1 H1 f1 Q q =>
  h F1 H1 f1 _ (post_imp q (fun a e k vs F2 H2 f2 rv hn => ⟨small_line (by rw [rv.length, hn]; exact hl), fun p hp => k _ _ _ (f2.trans (Fr.alloc f2.s hp)) ⟨p, vs, rfl, .inl (.inl upd_same), paired_mono (same_upd (f2.s.free hp)) rv⟩⟩) fun e _ z => z)
theorem el_lst {n : Nat} {tx : TA} {m : R (List α)} (hl : n ≤ 100000) (h : EvR ta n tx W σ F H m) : EvL ta (tLst tx) W σ F H m := fun F1 H1 f1 Q q =>
  h F1 H1 f1 _ (post_imp q (fun a e k vs F2 H2 f2 rv hn => ⟨small_line (by rw [rv.length, hn]; exact hl), fun p hp => k p vs F2 _ (f2.trans (Fr.fresh f2.s hp)) (f2.h.free hp) (f2.s.free hp) upd_same rv⟩) fun e _ z => z)
/-- a new list, frozen at once -/
theorem ev_of_l {m : R (List α)} (h : EvL ta te W σ F H m) : Ev (yList ta) te W σ F H m := fun F1 H1 f1 Q q =>
  h F1 H1 f1 _ (post_imp q (fun a _ k p vs F2 H2 f2 h1 hf h2 rv => k (.ref p) _ _ (f2.freeze h1 h2 hf) ⟨p, vs, rfl, upd_same, paired_mono (same_upd hf) rv⟩) fun e _ z => z)
/-- read only -/
theorem ev_wk {m : R (List α)} (h : Ev (yList ta) te W σ F H m) : Ev (tList K ta) te W σ F H m := fun F1 H1 f1 Q q =>
  h F1 H1 f1 _ (post_imp q (fun a _ k x F2 H2 f2 ⟨p, vs, e, hp, rv⟩ => k x F2 H2 f2 ⟨p, vs, e, .inl (.inl hp), rv⟩) fun e _ z => z)
/-- a part of a tuple, by a written place -/
theorem ev_nth {u : TyA α} {i : Nat} {pr : α → β} {m : R α} (n : Nth u i tb pr) (h : Ev (yTup K u) te W σ F H m) : Ev tb (tOp (rIxT K) te (tC (.int (i : Nat)))) W σ F H (bd m fun a => .ok (pr a)) := fun F1 H1 f1 Q q => by
  refine h F1 H1 f1 _ (post_imp (post_bd q) (fun a _ q1 x F2 H2 f2 ⟨p, vs, ex, hs, rv⟩ => ?_) fun e _ z => z)
  obtain ⟨w, h1, h2⟩ := n rv
  exact ⟨p, vs, _, w, ex, rfl, .inl (.inl (f2.s _ _ hs)), atI_nat h1, q1 w F2 H2 f2 h2⟩
def atR {α : Type} (xs : List α) (i : Int) : R α := match atI xs i with
  | some x => .ok x
  | none => .stuck
theorem calm_atR {xs : List α} {i : Int} : Calm (atR xs i) := calm_opt
theorem paired_get {P : V → α → Prop} : ∀ {vs : List V} {as : List α} {j : Nat} {a : α}, Paired P vs as → as[j]? = some a → ∃ v, vs[j]? = some v ∧ P v a
  | _, _, _, _, .nil, h => by simp at h
  | _, _, 0, _, .cons r _, h => by
    have h := Option.some.inj (by simpa using h)
    subst h
    exact ⟨_, rfl, r⟩
  | _, _, j + 1, a, .cons _ t, h => by
    obtain ⟨v, h1, h2⟩ := paired_get (j := j) (a := a) t (by simpa using h)
    exact ⟨v, by simpa using h1, h2⟩
theorem paired_getL {P : V → α → Prop} : ∀ {vs : List V} {as : List α} {j : Nat} {v : V}, Paired P vs as → vs[j]? = some v → ∃ a, as[j]? = some a ∧ P v a
  | _, _, _, _, .nil, h => by simp at h
  | _, _, 0, _, .cons r _, h => by
    have h := Option.some.inj (by simpa using h)
    subst h
    exact ⟨_, rfl, r⟩
  | _, _, j + 1, v, .cons _ t, h => by
    obtain ⟨a, h1, h2⟩ := paired_getL (j := j) (v := v) t (by simpa using h)
    exact ⟨a, by simpa using h1, h2⟩
theorem paired_at {P : V → α → Prop} {vs : List V} {as : List α} {i : Int} {a : α} (r : Paired P vs as) (h : atI as i = some a) : ∃ v, atI vs i = some v ∧ P v a := by
  unfold atI at h
  cases e : ixN as.length i with
  | none =>
    rw [e] at h
    cases h
  | some j =>
    rw [e] at h
    obtain ⟨v, h1, h2⟩ := paired_get r (show as[j]? = some a from h)
    refine ⟨v, ?_, h2⟩
    unfold atI
    rw [r.length, e]
    exact h1
theorem o_ixL : Op2 (tList K ta) tInt ta (rIxL K) atR := op2_pure fun F H s x y as i ⟨p, vs, ex, hs, rv⟩ ri Q q => by
  unfold atR at q
  cases e : atI as i with
  | none =>
    rw [e] at q
    exact q.elim
  | some a =>
    rw [e] at q
    obtain ⟨v, h1, h2⟩ := paired_at rv e
    exact ⟨p, vs, i, v, ex, ri, sqL_mono s hs, h1, q v h2⟩
theorem ev_ixL {m1 : R (List α)} {m2 : R Int} (h1 : Ev (tList K ta) te1 W σ F H m1) (h2 : Ev tInt te2 W σ F H m2) : Ev ta (tOp (rIxL K) te1 te2) W σ F H (bd m1 fun a => bd m2 fun b => atR a b) := ev_op o_ixL (fun _ _ => calm_atR) h1 h2
theorem ev_ixTL {m1 : R (List α)} {m2 : R Int} (h1 : Ev (yTupL K ta) te1 W σ F H m1) (h2 : Ev tInt te2 W σ F H m2) : Ev ta (tOp (rIxT K) te1 te2) W σ F H (bd m1 fun a => bd m2 fun b => atR a b) :=
  ev_op (ta := yTupL K ta) (tb := tInt) (op2_pure fun F H s x y as i ⟨p, vs, ex, hs, rv⟩ ri Q q => by
    unfold atR at q
    cases e : atI as i with
    | none =>
      rw [e] at q
      exact q.elim
    | some a =>
      rw [e] at q
      obtain ⟨v, h1, h2⟩ := paired_at rv e
      exact ⟨p, vs, i, v, ex, ri, sqT_mono s hs, h1, q v h2⟩) (fun _ _ => calm_atR) h1 h2
/-- one sign of a text -/
def signR (z : Str) (i : Int) : R Str := if z.length ≤ 100000 then (match atI z.cps.toList i with
  | some c => .ok ⟨#[c]⟩
  | none => .stuck) else .stuck
theorem calm_signR {z : Str} {i : Int} : Calm (signR z i) := by
  refine calm_ite ?_ calm_stuck
  cases atI z.cps.toList i with
  | none => exact calm_stuck
  | some c => exact calm_ok
theorem ev_ixS {m1 : R Str} {m2 : R Int} (h1 : Ev tStr te1 W σ F H m1) (h2 : Ev tInt te2 W σ F H m2) : Ev tStr (tOp rIxS te1 te2) W σ F H (bd m1 fun a => bd m2 fun b => signR a b) :=
  ev_op (op2_pure fun F H s x y z i rx ri Q q => by
    unfold signR at q
    by_cases hl : z.length ≤ 100000
    · rw [if_pos hl] at q
      cases e : atI z.cps.toList i with
      | none =>
        rw [e] at q
        exact q.elim
      | some c =>
        rw [e] at q
        exact ⟨z, i, c, rx, ri, small_line hl, e, q _ rfl⟩
    · rw [if_neg hl] at q
      exact q.elim) (fun _ _ => calm_signR) h1 h2

/-! ### fields of instances that never change -/
theorem lookup_zip : ∀ {names : List Str} {vs : List V} {f : Str} {i : Nat} {v : V}, names.findIdx? (fun x => x == f) = some i → vs[i]? = some v → (names.zip vs).lookup f = some v
  | [], _, _, _, _, h, _ => by simp at h
  | n :: ns, [], f, i, v, h, hv => by simp at hv
  | n :: ns, w :: vs, f, i, v, h, hv => by
    rw [List.findIdx?_cons] at h
    rw [List.zip_cons_cons, List.lookup_cons]
    by_cases e : n == f
    · rw [if_pos e] at h
      have hi : 0 = i := Option.some.inj h
      subst hi
      have e2 : (f == n) = true := by rw [eq_of_beq e]; exact beq_self_eq_true f
      rw [e2]
      simpa using hv
    · rw [if_neg e] at h
      have e2 : (f == n) = false := by
        cases q : f == n with
        | false => rfl
        | true => exact absurd (by rw [eq_of_beq q]; exact beq_self_eq_true n) e
      rw [e2]
      cases hj : ns.findIdx? (fun x => x == f) with
      | none =>
        rw [hj] at h
        cases h
      | some j =>
        rw [hj] at h
        have hi : j + 1 = i := Option.some.inj h
        subst hi
        exact lookup_zip hj (by simpa using hv)
theorem ev_fld {x f : Str} {names : List Str} {u : TyA α} {i : Nat} {pr : α → β} {m : R α} (c : Cls K (He.ga K x)) (na : NoAttr K (He.ga K x) f) (hi : names.findIdx? (fun y => y == f) = some i) (n : Nth u i tb pr) (h : Ev (tObj K x names u) te W σ F H m) : Ev tb (tFld K te f) W σ F H (bd m fun a => .ok (pr a)) := fun F1 H1 f1 Q q => by
  refine h F1 H1 f1 _ (post_imp (post_bd q) (fun a _ q1 v F2 H2 f2 ⟨p, dx, vs, ex, hp, rv⟩ => ?_) fun e _ z => z)
  obtain ⟨w, h1, h2⟩ := n rv
  exact ⟨p, _, dx, _, w, ex, f2.s _ _ hp, c, na, lookup_zip hi h1, q1 w F2 H2 f2 h2⟩

/-! ### calls -/
/-- what is wished of an exception -/
def XS (K : PySem.W.Frag) (E : XK) (e : Exn) (H : Hp) : Prop := match e with
  | .own c => E (.ref (He.ga K c)) none H
  | .fld c f n => ∀ d, H d = none → E (.ref (He.ga K c)) (some d) (upd H d (.xd [(f, .int n)]))
/-- the promise of a def that changes nothing -/
def SpF (K : PySem.W.Frag) (u : TyA α) (t : Ty β) (m : α → R β) : Sp := fun vs H Q E => ∃ F a, Same F H ∧ u.rep F vs a ∧ Post (m a) (fun b => ∀ v F' H', Fr F H F' H' → t.rep F' v b → Q v H') (fun e => ∀ F' H', Fr F H F' H' → XS K E e H')
/-- .. that hands back a new list -/
def SpL (K : PySem.W.Frag) (u : TyA α) (t : Ty β) (m : α → R (List β)) : Sp := fun vs H Q E => ∃ F a, Same F H ∧ u.rep F vs a ∧ Post (m a) (fun bs => ∀ p ws F' H', Fr F H F' H' → H p = none → F' p = none → H' p = some (.lst ws) → Paired (t.rep F') ws bs → Q (.ref p) H') (fun e => ∀ F' H', Fr F H F' H' → XS K E e H')
theorem spF_len {u : TyA α} {t : Ty β} {m : α → R β} : ∀ vs H Q E, SpF K u t m vs H Q E → vs.length = u.len := fun vs H Q E ⟨F, a, _, r, _⟩ => u.hlen r
theorem spL_len {u : TyA α} {t : Ty β} {m : α → R (List β)} : ∀ vs H Q E, SpL K u t m vs H Q E → vs.length = u.len := fun vs H Q E ⟨F, a, _, r, _⟩ => u.hlen r
theorem ev_call {u : TyA α} {g : α → R β} {m : R α} {tx : TA} {E : XK} (hw : ∀ e H, W e σ H → XS K E e H) (h : EvA u tx W σ F H m) : Ev tb (tCall (SpF K u tb g) [] E tx) W σ F H (bd m g) := fun F1 H1 f1 Q q =>
  h F1 H1 f1 _ (post_imp (post_bd q) (fun a _ k vs F2 H2 f2 rv => ⟨F2, a, f2.s, by rw [List.append_nil]; exact rv, post_imp k (fun b _ k2 v F3 H3 f3 r => k2 v F3 H3 (f2.trans f3) r) fun e _ z F3 H3 f3 => hw _ _ (z F3 H3 (f2.trans f3))⟩) fun e _ z => z)
theorem el_call {u : TyA α} {g : α → R (List β)} {m : R α} {tx : TA} {E : XK} (hw : ∀ e H, W e σ H → XS K E e H) (h : EvA u tx W σ F H m) : EvL tb (tCall (SpL K u tb g) [] E tx) W σ F H (bd m g) := fun F1 H1 f1 Q q =>
  h F1 H1 f1 _ (post_imp (post_bd q) (fun a _ k vs F2 H2 f2 rv => ⟨F2, a, f2.s, by rw [List.append_nil]; exact rv, post_imp k (fun b _ k2 p ws F3 H3 f3 hp hf h3 r => k2 p ws F3 H3 (f2.trans f3) (f2.h.free hp) hf h3 r) fun e _ z F3 H3 f3 => hw _ _ (z F3 H3 (f2.trans f3))⟩) fun e _ z => z)
/-- a built-in of one, two arguments, by values -/
def Fn1 (ta : Ty α) (tc : Ty γ) (r : List V → Hp → VK → Prop) (f : α → R γ) : Prop := ∀ F H, Same F H → ∀ x a, ta.rep F x a → ∀ Q : VK, Post (f a) (fun c => ∀ v F2 H2, Fr F H F2 H2 → tc.rep F2 v c → Q v H2) (fun _ => False) → r [x] H Q
def Fn2 (ta : Ty α) (tb : Ty β) (tc : Ty γ) (r : List V → Hp → VK → Prop) (f : α → β → R γ) : Prop := ∀ F H, Same F H → ∀ x y a b, ta.rep F x a → tb.rep F y b → ∀ Q : VK, Post (f a b) (fun c => ∀ v F2 H2, Fr F H F2 H2 → tc.rep F2 v c → Q v H2) (fun _ => False) → r [x, y] H Q
theorem ev_cb1 {r : List V → Hp → VK → Prop} {f : α → R γ} {m1 : R α} (o : Fn1 ta tc r f) (hn : ∀ a, Calm (f a)) (h1 : Ev ta te1 W σ F H m1) : Ev tc (tCB r (tCons te1 tNil)) W σ F H (bd m1 f) := fun F1 H1 f1 Q q => by
  refine h1 F1 H1 f1 _ (post_imp (post_bd q) (fun a _ q1 x F2 H2 f2 rx => ?_) fun e _ z => z)
  exact o F2 H2 f2.s x a rx _ (post_imp (post_never (hn a) q1) (fun c _ k v F4 H4 f4 rv => k v F4 H4 (f2.trans f4) rv) fun _ _ z => z)
theorem ev_cb2 {r : List V → Hp → VK → Prop} {f : α → β → R γ} {m1 : R α} {m2 : R β} (o : Fn2 ta tb tc r f) (hn : ∀ a b, Calm (f a b)) (h1 : Ev ta te1 W σ F H m1) (h2 : Ev tb te2 W σ F H m2) : Ev tc (tCB r (tCons te1 (tCons te2 tNil))) W σ F H (bd m1 fun a => bd m2 fun b => f a b) := fun F1 H1 f1 Q q => by
  refine h1 F1 H1 f1 _ (post_imp (post_bd q) (fun a _ q1 x F2 H2 f2 rx => ?_) fun e _ z => z)
  refine h2 F2 H2 (f1.trans f2) _ (post_imp (post_bd q1) (fun b _ q2 y F3 H3 f3 ry => ?_) fun e _ z F4 H4 f4 => z F4 H4 (f2.trans f4))
  refine o F3 H3 f3.s x y a b (ta.mono f3.f rx) ry _ (post_imp (post_never (hn a b) q2) (fun c _ k v F4 H4 f4 rv => k v F4 H4 ((f2.trans f3).trans f4) rv) fun _ _ z => z)
def lenSR (a : Str) : R Int := if a.length ≤ 100000 then .ok (a.length : Int) else .stuck
theorem calm_lenSR {a : Str} : Calm (lenSR a) := calm_ite calm_ok calm_stuck
theorem fn_lenS : Fn1 tStr tInt (rLen K) lenSR := fun F H s x a rx Q q => by
  unfold lenSR at q
  by_cases h : a.length ≤ 100000
  · rw [if_pos h] at q
    have rx : x = .str a := rx
    exact ⟨_, a.length, rfl, by rw [rx]; exact ⟨small_line h, rfl⟩, q _ F H (Fr.refl s) rfl⟩
  · rw [if_neg h] at q
    exact q.elim
theorem fn_lenL : Fn1 (tList K ta) tInt (rLen K) (fun a => .ok (a.length : Int)) := fun F H s x as ⟨p, vs, ex, hs, rv⟩ Q q =>
  ⟨_, vs.length, rfl, by rw [ex]; exact .inl ⟨vs, sqL_mono s hs, rfl⟩, q _ F H (Fr.refl s) (by show V.int _ = V.int _; rw [rv.length])⟩
theorem fn_lenTL : Fn1 (yTupL K ta) tInt (rLen K) (fun a => .ok (a.length : Int)) := fun F H s x as ⟨p, vs, ex, hs, rv⟩ Q q =>
  ⟨_, vs.length, rfl, by rw [ex]; exact .inr ⟨vs, sqT_mono s hs, rfl⟩, q _ F H (Fr.refl s) (by show V.int _ = V.int _; rw [rv.length])⟩
theorem ev_lenS {m1 : R Str} (h1 : Ev tStr te1 W σ F H m1) : Ev tInt (tCB (rLen K) (tCons te1 tNil)) W σ F H (bd m1 lenSR) := ev_cb1 fn_lenS (fun _ => calm_lenSR) h1
theorem ev_lenL {m1 : R (List α)} (h1 : Ev (tList K ta) te1 W σ F H m1) : Ev tInt (tCB (rLen K) (tCons te1 tNil)) W σ F H (bd m1 fun a => .ok (a.length : Int)) := ev_cb1 fn_lenL (fun _ => calm_ok) h1
theorem ev_lenTL {m1 : R (List α)} (h1 : Ev (yTupL K ta) te1 W σ F H m1) : Ev tInt (tCB (rLen K) (tCons te1 tNil)) W σ F H (bd m1 fun a => .ok (a.length : Int)) := ev_cb1 fn_lenTL (fun _ => calm_ok) h1
def rMax2 : List V → Hp → VK → Prop := fun xs H Q => ∃ i j, xs = [.int i, .int j] ∧ Q (.int (if j > i then j else i)) H
def rMin2 : List V → Hp → VK → Prop := fun xs H Q => ∃ i j, xs = [.int i, .int j] ∧ Q (.int (if j < i then j else i)) H
theorem ev_max2 {m1 m2 : R Int} (h1 : Ev tInt te1 W σ F H m1) (h2 : Ev tInt te2 W σ F H m2) : Ev tInt (tCB rMax2 (tCons te1 (tCons te2 tNil))) W σ F H (bd m1 fun a => bd m2 fun b => .ok (max a b)) :=
  ev_cb2 (fun F H s x y a b ra rb Q q => ⟨a, b, by rw [ra, rb], q _ F H (Fr.refl s) (by
    show V.int _ = V.int _
    congr 1
    split <;> omega)⟩) (fun _ _ => calm_ok) h1 h2
theorem ev_min2 {m1 m2 : R Int} (h1 : Ev tInt te1 W σ F H m1) (h2 : Ev tInt te2 W σ F H m2) : Ev tInt (tCB rMin2 (tCons te1 (tCons te2 tNil))) W σ F H (bd m1 fun a => bd m2 fun b => .ok (min a b)) :=
  ev_cb2 (fun F H s x y a b ra rb Q q => ⟨a, b, by rw [ra, rb], q _ F H (Fr.refl s) (by
    show V.int _ = V.int _
    congr 1
    split <;> omega)⟩) (fun _ _ => calm_ok) h1 h2
end
end TL
/-! ## TL3: what a for walks, loops, comprehensions, statements, defs -/
namespace TL
open PySem PySem.Spec PyProof.Rows L2
/-! ### iterables -/
def IterOk {α : Type} (t : Ty α) (J : It) (Fe : Hp) (xs : List α) : Prop := ∀ F H, Same Fe F → Same F H → ∀ i, (xs.length ≤ i → J.stop i H) ∧ ∀ x, xs[i]? = some x → J.go i H ∧ ∀ v H', J.yld i H v H' → ∃ F', Fr F H F' H' ∧ t.rep F' v x
def EvI {α : Type} (t : Ty α) (wi : TI) (W : WS) (σ : L2.St) (F H : Hp) (m : R (List α)) : Prop := ∀ F1 H1, Fr F H F1 H1 → ∀ Rr : It → Hp → Prop,
  Post m (fun xs => ∀ J F2 H2, Fr F1 H1 F2 H2 → IterOk t J F2 xs → Rr J H2) (fun e => ∀ F2 H2, Fr F1 H1 F2 H2 → W e σ H2) → wi σ H1 Rr
section
variable {K : PySem.W.Frag} {W : WS} {σ : L2.St} {F H F' H' F0 H0 : Hp} {α β γ δ ρ S : Type} {ta : Ty α} {tb : Ty β} {tc : Ty γ} {tr : Ty ρ} {te te1 te2 te3 : TE} {tt tt1 tt2 : TT} {v : V}
theorem ei_list {m : R (List α)} (h : Ev (tList K ta) te W σ F H m) : EvI ta (iList K te) W σ F H m := fun F1 H1 f1 Rr q =>
  h F1 H1 f1 _ (post_imp q (fun xs _ k x F2 H2 f2 ⟨p, vs, ex, hs, rv⟩ => ⟨p, ex, ⟨vs, sqL_mono f2.s hs⟩, k _ F2 H2 f2 fun F3 H3 s3 s4 i => by
    have hs3 : SqL K H3 p vs := sqL_mono s4 (sqL_mono s3 hs)
    refine ⟨fun hi => ⟨vs, hs3, by rw [rv.length]; exact hi⟩, fun x hx => ?_⟩
    obtain ⟨w, h1, h2⟩ := paired_get rv hx
    refine ⟨⟨vs, w, hs3, h1⟩, fun v H' ⟨e, hv⟩ => ?_⟩
    subst e
    have e2 := hv vs hs3
    rw [h1] at e2
    cases e2
    exact ⟨F3, Fr.refl s4, ta.mono s3 h2⟩⟩) fun e _ z => z)
theorem ei_tupL {m : R (List α)} (h : Ev (yTupL K ta) te W σ F H m) : EvI ta (iTup K te) W σ F H m := fun F1 H1 f1 Rr q =>
  h F1 H1 f1 _ (post_imp q (fun xs _ k x F2 H2 f2 ⟨p, vs, ex, hs, rv⟩ => ⟨p, ex, ⟨vs, sqT_mono f2.s hs⟩, k _ F2 H2 f2 fun F3 H3 s3 s4 i => by
    have hs3 : SqT K H3 p vs := sqT_mono s4 (sqT_mono s3 hs)
    refine ⟨fun hi => ⟨vs, hs3, by rw [rv.length]; exact hi⟩, fun x hx => ?_⟩
    obtain ⟨w, h1, h2⟩ := paired_get rv hx
    refine ⟨⟨vs, w, hs3, h1⟩, fun v H' ⟨e, hv⟩ => ?_⟩
    subst e
    have e2 := hv vs hs3
    rw [h1] at e2
    cases e2
    exact ⟨F3, Fr.refl s4, ta.mono s3 h2⟩⟩) fun e _ z => z)
/-- lo, lo + c, .., n of them -/
def stepL (lo c : Int) (n : Nat) : List Int := (List.range n).map fun (i : Nat) => lo + (i : Int) * c
def rangeL (lo hi : Int) : List Int := (List.range (hi - lo).toNat).map fun (i : Nat) => lo + (i : Int)
theorem rangeL_get {lo hi x : Int} {i : Nat} (h : (rangeL lo hi)[i]? = some x) : i < (hi - lo).toNat ∧ x = lo + (i : Int) := by
  unfold rangeL at h
  rw [List.getElem?_map] at h
  by_cases hi' : i < (hi - lo).toNat
  · rw [List.getElem?_range hi'] at h
    exact ⟨hi', (Option.some.inj h).symm⟩
  · rw [List.getElem?_eq_none (by rw [List.length_range]; omega)] at h
    cases h
theorem rangeL_len {lo hi : Int} : (rangeL lo hi).length = (hi - lo).toNat := by
  unfold rangeL
  rw [List.length_map, List.length_range]
def In62 (i : Int) : Prop := -(2 ^ 62) ≤ i ∧ i < 2 ^ 62
instance (i : Int) : Decidable (In62 i) := by unfold In62; infer_instance
def rangeR (lo hi : Int) : R (List Int) := if In62 lo ∧ In62 hi then .ok (rangeL lo hi) else .stuck
theorem iter_range {lo hi : Int} {Fe : Hp} : IterOk tInt (Itr lo (hi - lo).toNat) Fe (rangeL lo hi) := fun F3 H3 s3 s4 i => by
  refine ⟨fun h => ?_, fun x hx => ?_⟩
  · rw [rangeL_len] at h
    exact h
  · obtain ⟨h1, h2⟩ := rangeL_get hx
    exact ⟨h1, fun v H' ⟨e, hv⟩ => by
      subst e
      exact ⟨F3, Fr.refl s4, by rw [h2]; exact hv⟩⟩
theorem ei_range1 {m : R Int} (h : Ev tInt te W σ F H m) : EvI tInt (iRng1 (tCons te tNil)) W σ F H (bd m fun b => rangeR 0 b) := fun F1 H1 f1 Rr q => by
  refine h F1 H1 f1 _ (post_imp (post_bd q) (fun b _ k x F2 H2 f2 rx => ?_) fun e _ z => z)
  unfold rangeR at k
  by_cases hc : In62 0 ∧ In62 b
  · rw [if_pos hc] at k
    have e : (b - 0).toNat = b.toNat := by rw [Int.sub_zero]
    refine ⟨b, by rw [show x = .int b from rx], hc.2.1, hc.2.2, ?_⟩
    rw [← e]
    exact k _ F2 H2 f2 iter_range
  · rw [if_neg hc] at k
    exact k.elim
theorem ei_range2 {m1 m2 : R Int} (h1 : Ev tInt te1 W σ F H m1) (h2 : Ev tInt te2 W σ F H m2) : EvI tInt (iRng2 (tCons te1 (tCons te2 tNil))) W σ F H (bd m1 fun a => bd m2 fun b => rangeR a b) := fun F1 H1 f1 Rr q => by
  refine h1 F1 H1 f1 _ (post_imp (post_bd q) (fun a _ q1 x F2 H2 f2 rx => ?_) fun e _ z => z)
  refine h2 F2 H2 (f1.trans f2) _ (post_imp (post_bd q1) (fun b _ k y F3 H3 f3 ry => ?_) fun e _ z F4 H4 f4 => z F4 H4 (f2.trans f4))
  unfold rangeR at k
  by_cases hc : In62 a ∧ In62 b
  · rw [if_pos hc] at k
    exact ⟨a, b, by rw [show x = .int a from rx, show y = .int b from ry], ⟨hc.1.1, hc.1.2, hc.2.1, hc.2.2⟩, k _ F3 H3 (f2.trans f3) iter_range⟩
  · rw [if_neg hc] at k
    exact k.elim
/-- the signsOf of a text -/
def signsOf (z : Str) : List Str := z.cps.toList.map fun c => ⟨#[c]⟩
theorem ei_str {m : R Str} (h : Ev tStr te W σ F H m) : EvI tStr (iStr te) W σ F H (bd m fun z => .ok (signsOf z)) := fun F1 H1 f1 Rr q => by
  refine h F1 H1 f1 _ (post_imp (post_bd q) (fun z _ k x F2 H2 f2 rx => ⟨z, rx, k _ F2 H2 f2 fun F3 H3 s3 s4 i => ?_⟩) fun e _ z => z)
  unfold signsOf
  refine ⟨fun hi => ?_, fun x hx => ?_⟩
  · rw [List.length_map, Array.length_toList] at hi
    exact hi
  · rw [List.getElem?_map] at hx
    cases e : z.cps.toList[i]? with
    | none =>
      rw [e] at hx
      cases hx
    | some c =>
      rw [e] at hx
      have hx := (Option.some.inj hx).symm
      subst hx
      have e2 : z.cps[i]? = some c := by rw [← Array.getElem?_toList]; exact e
      refine ⟨?_, fun v H' ⟨eH, c', h1, h2⟩ => ?_⟩
      · have := (List.getElem?_eq_some_iff.mp e).1
        rw [Array.length_toList] at this
        exact this
      · subst eH
        rw [e2] at h1
        cases h1
        exact ⟨F3, Fr.refl s4, h2⟩
theorem ei_enum {m : R (List α)} (h : Ev (tList K ta) te W σ F H m) : EvI (yTup K (aCons tInt (aOne ta))) (iEnum K (tCons te tNil)) W σ F H (bd m fun xs => .ok (xs.zipIdx.map fun p => ((p.2 : Int), p.1))) := fun F1 H1 f1 Rr q =>
  h F1 H1 f1 _ (post_imp (post_bd q) (fun xs _ k x F2 H2 f2 ⟨p, vs, ex, hs, rv⟩ => ⟨p, vs, by rw [ex], sqL_mono f2.s hs, k _ F2 H2 f2 fun F3 H3 s3 s4 i => by
    have hs3 : SqL K H3 p vs := sqL_mono s4 (sqL_mono s3 hs)
    refine ⟨fun hi => ⟨vs, hs3, by rw [List.length_map, List.length_zipIdx] at hi; rw [rv.length]; exact hi⟩, fun x hx => ?_⟩
    rw [List.getElem?_map, List.getElem?_zipIdx] at hx
    cases ei : xs[i]? with
    | none =>
      rw [ei] at hx
      cases hx
    | some a =>
      rw [ei] at hx
      have hx := (Option.some.inj hx).symm
      subst hx
      obtain ⟨w, h1, h2⟩ := paired_get rv ei
      refine ⟨⟨vs, w, hs3, h1⟩, fun v H' ⟨T, x, ev, hT, eH, hv⟩ => ?_⟩
      have e2 := hv vs hs3
      rw [h1] at e2
      cases e2
      subst eH
      refine ⟨_, Fr.alloc s4 hT, ?_⟩
      refine ⟨T, _, ev, upd_same, _, _, rfl, ?_, _, rfl, ta.mono (s3.trans (same_upd (s4.free hT))) h2⟩
      show V.int _ = V.int _
      simp⟩) fun e _ z => z)
theorem ei_zip {m1 : R (List α)} {m2 : R (List β)} (h1 : Ev (tList K ta) te1 W σ F H m1) (h2 : Ev (tList K tb) te2 W σ F H m2) : EvI (yTup K (aCons ta (aOne tb))) (iZip K (tCons te1 (tCons te2 tNil))) W σ F H (bd m1 fun xs => bd m2 fun ys => .ok (xs.zip ys)) := fun F1 H1 f1 Rr q => by
  refine h1 F1 H1 f1 _ (post_imp (post_bd q) (fun xs _ q1 x F2 H2 f2 ⟨p, vs, ex, hs, rv⟩ => ?_) fun e _ z => z)
  refine h2 F2 H2 (f1.trans f2) _ (post_imp (post_bd q1) (fun ys _ k y F3 H3 f3 ⟨r, ws, ey, hr, rw_⟩ => ?_) fun e _ z F4 H4 f4 => z F4 H4 (f2.trans f4))
  refine ⟨p, r, vs, ws, by rw [ex, ey], sqL_mono (f3.f.trans f3.s) hs, sqL_mono f3.s hr, k _ F3 H3 (f2.trans f3) fun F4 H4 s3 s4 i => ?_⟩
  have hs4 : SqL K H4 p vs := sqL_mono s4 (sqL_mono s3 (sqL_mono f3.f hs))
  have hr4 : SqL K H4 r ws := sqL_mono s4 (sqL_mono s3 hr)
  refine ⟨fun hi => ⟨vs, ws, hs4, hr4, ?_⟩, fun x hx => ?_⟩
  · rw [List.length_zip] at hi
    rw [rv.length, rw_.length]
    omega
  · rw [List.getElem?_zip_eq_some] at hx
    obtain ⟨w, g1, g2⟩ := paired_get rv hx.1
    obtain ⟨u, g3, g4⟩ := paired_get rw_ hx.2
    refine ⟨⟨vs, ws, w, u, hs4, hr4, g1, g3⟩, fun v H' ⟨T, x', y', ev, hT, eH, hv, hw⟩ => ?_⟩
    have e2 := hv vs hs4
    rw [g1] at e2
    cases e2
    have e3 := hw ws hr4
    rw [g3] at e3
    cases e3
    subst eH
    have ss := s3.trans (same_upd (o := .tup [w, u]) (s4.free hT))
    exact ⟨_, Fr.alloc s4 hT, T, _, ev, upd_same, _, _, rfl, ta.mono (f3.f.trans ss) g2, _, rfl, tb.mono ss g4⟩

/-! ### targets: one name; a tuple of names -/
/-- what a target does with a thing: new values at its slots -/
def Tg (t : Ty α) (g : TG) (σ : L2.St) (P : L2.St → Hp → α → Prop) : Prop := ∀ v F H a (Q : L2.St → Hp → Prop), Same F H → t.rep F v a → (∀ σ', P σ' F a → Q σ' H) → g v σ H Q
theorem tg_name {i : Nat} : Tg ta (gName i) σ (fun σ' F a => ∃ v, σ' = σ.set i (some v) ∧ ta.rep F v a) := fun v F H a Q s r q => q _ ⟨v, rfl, r⟩
/-- a row of names -/
def Tgs (u : TyA α) (g : TGs) (σ : L2.St) (P : L2.St → Hp → α → Prop) : Prop := ∀ vs F H a (Q : L2.St → Hp → Prop), Same F H → u.rep F vs a → (∀ σ', P σ' F a → Q σ' H) → g vs σ H Q
theorem tgs_one {i : Nat} : Tgs (aOne ta) (gCons (gName i) gNil) σ (fun σ' F a => ∃ v, σ' = σ.set i (some v) ∧ ta.rep F v a) := fun vs F H a Q s ⟨v, ev, r⟩ q => ⟨v, [], ev, rfl, q _ ⟨v, rfl, r⟩⟩
theorem tgs_cons {i : Nat} {u : TyA β} {g : TGs} {P : V → L2.St → Hp → β → Prop} (h : ∀ v, Tgs u g (σ.set i (some v)) (P v)) : Tgs (aCons ta u) (gCons (gName i) g) σ (fun σ' F a => ∃ v, ta.rep F v a.1 ∧ P v σ' F a.2) := fun vs F H a Q s ⟨v, ws, ev, r, ru⟩ q =>
  ⟨v, ws, ev, h v ws F H a.2 Q s ru fun σ' p => q σ' ⟨v, r, p⟩⟩
theorem tg_tup {u : TyA α} {g : TGs} {n : Nat} {P : L2.St → Hp → α → Prop} (hn : u.len = n) (h : Tgs u g σ P) : Tg (yTup K u) (gTup K n g) σ P := fun v F H a Q s ⟨p, vs, ev, hs, r⟩ q =>
  ⟨p, vs, ev, .inl (.inl (s _ _ hs)), by rw [u.hlen r]; exact hn, h vs F H a Q s r q⟩

/-! ### loops -/
inductive Fl (S ρ : Type) where
  | nx (s : S)
  | bk (s : S)
  | rt (r : ρ)
def forL (f : S → α → R (Fl S ρ)) : List α → S → R (Fl S ρ)
  | [], s => .ok (.nx s)
  | x :: xs, s => bd (f s x) fun fl => match fl with
    | .nx s' => forL f xs s'
    | .bk s' => .ok (.nx s')
    | .rt r => .ok (.rt r)
/-- for: St what holds of the state s, slots, worlds; the body is read for any K', D' -/
theorem s_for {i0 : TI} {g : TG} {tb : TS} {D : Ends} {m : R (List α)} {f : S → α → R (Fl S ρ)} {s0 : S} {gg : Fl S ρ → R γ} {KK : γ → Prop} {XX : Exn → Prop} (St : S → L2.St → Hp → Hp → Prop)
    (hX : ∀ e, XX e → ∀ σ F' H', Fr F0 H0 F' H' → W e σ H') (fr : Fr F0 H0 F H) (hs : EvI ta i0 W σ F H m) (hp : Post (bd m fun xs => bd (forL f xs s0) gg) KK XX)
    (h0 : ∀ F' H', Fr F H F' H' → Fr F0 H0 F' H' → St s0 σ F' H')
    (hfr : ∀ s σ' F' H', St s σ' F' H' → Fr F0 H0 F' H')
    (hyld : ∀ s σ' F' H' F'' H'', St s σ' F' H' → Fr F' H' F'' H'' → St s σ' F'' H'')
    (hb : ∀ s x v σ' F' H' (D' : Ends) (K' : Fl S ρ → Prop), D'.rt = D.rt → Same F F' → St s σ' F' H' → ta.rep F' v x → Post (f s x) K' XX →
      (∀ s' σ'' F'' H'', Same F' F'' → St s' σ'' F'' H'' → K' (.nx s') → D'.nx σ'' H'') → (∀ s' σ'' F'' H'', Same F' F'' → St s' σ'' F'' H'' → K' (.nx s') → D'.ct σ'' H'') →
      (∀ s' σ'' F'' H'', Same F' F'' → St s' σ'' F'' H'' → K' (.bk s') → D'.bk σ'' H'') → (∀ r, K' (.rt r) → Post (gg (.rt r)) KK XX) → g v σ' H' fun σ2 H2 => tb D' σ2 H2)
    (hd : ∀ s σ' F' H', Same F F' → St s σ' F' H' → Post (gg (.nx s)) KK XX → D.nx σ' H') : tFor i0 g tb D σ H := by
  refine hs F H (Fr.refl fr.s) _ (post_imp (post_bd hp) (fun xs _ q J Fe He fe io => ?_) fun e _ z F2 H2 f2 => hX e z _ _ _ (fr.trans f2))
  refine ⟨fun i n σ' H' => n = xs.length + 1 - i ∧ i ≤ xs.length ∧ ((∃ s F', Same Fe F' ∧ St s σ' F' H' ∧ Post (bd (forL f (xs.drop i) s) gg) KK XX)), ⟨_, rfl, Nat.zero_le _, s0, Fe, Same.refl Fe, h0 Fe He fe (fr.trans fe), q⟩, ?_⟩
  rintro i n σ' H' ⟨en, hi, s, F', sF, hS, hP⟩
  have frS := hfr _ _ _ _ hS
  obtain ⟨io1, io2⟩ := io F' H' sF frS.s i
  cases ex : xs[i]? with
  | none =>
    have hl : xs.length ≤ i := List.getElem?_eq_none_iff.mp ex
    left
    refine ⟨io1 hl, hd s σ' F' H' (fe.f.trans sF) hS ?_⟩
    rw [List.drop_eq_nil_of_le hl] at hP
    exact hP
  | some x =>
    have hl : i < xs.length := (List.getElem?_eq_some_iff.mp ex).1
    right
    obtain ⟨hg, hy⟩ := io2 x ex
    refine ⟨hg, fun σ'' H'' => i + 1 ≤ xs.length ∧ ∃ s' F'', Same Fe F'' ∧ St s' σ'' F'' H'' ∧ Post (bd (forL f (xs.drop (i + 1)) s') gg) KK XX, fun σ'' H'' ⟨hi', z⟩ => ⟨n - 1, by omega, by omega, hi', z⟩, fun v H'' hv => ?_⟩
    obtain ⟨F'', f'', rv⟩ := hy v H'' hv
    have e2 : xs.drop i = x :: xs.drop (i + 1) := by
      rw [List.drop_eq_getElem_cons hl]
      congr 1
      exact (List.getElem?_eq_some_iff.mp ex).2
    rw [e2] at hP
    have hP2 : Post (f s x) (fun fl => Post (bd ((match fl with
      | .nx s' => forL f (xs.drop (i + 1)) s'
      | .bk s' => .ok (.nx s')
      | .rt r => .ok (.rt r) : R (Fl S ρ))) gg) KK XX) XX := by
      have z := hP
      unfold forL at z
      rw [bd_assoc] at z
      exact post_bd z
    refine hb s x v σ' F'' H'' _ _ rfl (fe.f.trans (sF.trans f''.f)) (hyld _ _ _ _ _ _ hS f'') rv hP2 (fun s' σ3 F3 H3 s3 st k => ⟨hl, s', F3, (sF.trans f''.f).trans s3, st, k⟩) (fun s' σ3 F3 H3 s3 st k => ⟨hl, s', F3, (sF.trans f''.f).trans s3, st, k⟩) (fun s' σ3 F3 H3 s3 st k => ?_) (fun r k => k)
    exact hd s' σ3 F3 H3 (fe.f.trans ((sF.trans f''.f).trans s3)) st k
def whileR (c : S → R Bool) (f : S → R (Fl S ρ)) : Nat → S → R (Fl S ρ)
  | 0, _ => .stuck
  | n + 1, s => bd (c s) fun b => if b = true then bd (f s) fun fl => (match fl with
    | .nx s' => whileR c f n s'
    | .bk s' => .ok (.nx s')
    | .rt r => .ok (.rt r)) else .ok (.nx s)
theorem s_while {tb : TS} {D : Ends} {c : S → R Bool} {f : S → R (Fl S ρ)} {n0 : Nat} {s0 : S} {gg : Fl S ρ → R γ} {KK : γ → Prop} {XX : Exn → Prop} (St : S → L2.St → Hp → Hp → Prop)
    (hX : ∀ e, XX e → ∀ σ F' H', Fr F0 H0 F' H' → W e σ H') (fr : Fr F0 H0 F H) (hp : Post (bd (whileR c f n0 s0) gg) KK XX)
    (h0 : St s0 σ F H)
    (hfr : ∀ s σ' F' H', St s σ' F' H' → Fr F0 H0 F' H')
    (hyld : ∀ s σ' F' H' F'' H'', St s σ' F' H' → Fr F' H' F'' H'' → St s σ' F'' H'')
    (hc : ∀ s σ' F' H', Same F F' → St s σ' F' H' → EvT tt W σ' F' H' (c s))
    (hb : ∀ s σ' F' H' (D' : Ends) (K' : Fl S ρ → Prop), D'.rt = D.rt → Same F F' → St s σ' F' H' → Post (f s) K' XX →
      (∀ s' σ'' F'' H'', Same F' F'' → St s' σ'' F'' H'' → K' (.nx s') → D'.nx σ'' H'') → (∀ s' σ'' F'' H'', Same F' F'' → St s' σ'' F'' H'' → K' (.nx s') → D'.ct σ'' H'') →
      (∀ s' σ'' F'' H'', Same F' F'' → St s' σ'' F'' H'' → K' (.bk s') → D'.bk σ'' H'') → (∀ r, K' (.rt r) → Post (gg (.rt r)) KK XX) → tb D' σ' H')
    (hd : ∀ s σ' F' H', Same F F' → St s σ' F' H' → Post (gg (.nx s)) KK XX → D.nx σ' H') : tWhile tt tb D σ H := by
  refine ⟨fun n σ' H' => ∃ s F', Same F F' ∧ St s σ' F' H' ∧ Post (bd (whileR c f n s) gg) KK XX, ⟨n0, s0, F, Same.refl F, h0, hp⟩, ?_⟩
  rintro n σ' H' ⟨s, F', sF, hS, hP⟩
  cases n with
  | zero => exact hP.elim
  | succ n =>
    have frS := hfr _ _ _ _ hS
    unfold whileR at hP
    rw [bd_assoc] at hP
    refine hc s σ' F' H' sF hS F' H' (Fr.refl frS.s) _ (post_imp (post_bd hP) (fun b _ k F2 H2 f2 => ?_) fun e _ z F2 H2 f2 => hX e z _ _ _ (frS.trans f2))
    cases b with
    | false => exact hd s σ' F2 H2 (sF.trans f2.f) (hyld _ _ _ _ _ _ hS f2) k
    | true =>
      rw [if_pos rfl] at k
      rw [if_pos rfl]
      refine ⟨fun σ'' H'' => ∃ s' F'', Same F F'' ∧ St s' σ'' F'' H'' ∧ Post (bd (whileR c f n s') gg) KK XX, fun σ'' H'' z => ⟨n, Nat.lt_succ_self n, z⟩, ?_⟩
      have k2 : Post (f s) (fun fl => Post (bd ((match fl with
        | .nx s' => whileR c f n s'
        | .bk s' => .ok (.nx s')
        | .rt r => .ok (.rt r) : R (Fl S ρ))) gg) KK XX) XX := by
        rw [bd_assoc] at k
        exact post_bd k
      refine hb s σ' F2 H2 _ _ rfl (sF.trans f2.f) (hyld _ _ _ _ _ _ hS f2) k2 (fun s' σ3 F3 H3 s3 st k => ⟨s', F3, (sF.trans f2.f).trans s3, st, k⟩) (fun s' σ3 F3 H3 s3 st k => ⟨s', F3, (sF.trans f2.f).trans s3, st, k⟩) (fun s' σ3 F3 H3 s3 st k => ?_) (fun r k => k)
      exact hd s' σ3 F3 H3 ((sF.trans f2.f).trans s3) st k

theorem paired_snoc {P : V → α → Prop} {v : V} {a : α} (r : P v a) : ∀ {vs : List V} {as : List α}, Paired P vs as → Paired P (vs ++ [v]) (as ++ [a])
  | _, _, .nil => .cons r .nil
  | _, _, .cons h t => .cons h (paired_snoc r t)
/-! ### comprehensions -/
/-- an exception within a comprehension isn't carried -/
def quiet {α : Type} (m : R α) : R α := match m with
  | .ok a => .ok a
  | _ => .stuck
theorem post_quiet {m : R α} {k : α → Prop} {x : Exn → Prop} (h : Post (quiet m) k x) : Post m k (fun _ => False) := by
  cases m with
  | stuck => exact h
  | err e => exact h.elim
  | ok a => exact h
/-- by this bound a list that is made so has room -/
def compL (c : α → R Bool) (e : α → R β) : List α → R (List β)
  | [] => .ok []
  | x :: xs => bd (quiet (c x)) fun b => if b = true then bd (quiet (e x)) fun y => bd (compL c e xs) fun ys => .ok (y :: ys) else compL c e xs
def compR (c : α → R Bool) (e : α → R β) (xs : List α) : R (List β) := if xs.length ≤ 100000 then compL c e xs else .stuck
theorem el_comp {wi : TI} {g : TG} {m : R (List α)} {c : α → R Bool} {e : α → R β} {vs : List Nat} {P : L2.St → Hp → α → Prop} (hs : EvI ta wi W σ F H m)
    (hg : Tg ta g (wipe σ vs) P) (hw : ∀ σ' F' a, P σ' F' a → wipe σ' vs = wipe σ vs)
    (hc : ∀ σ' F' H' x, Fr F H F' H' → P σ' F' x → EvT tt (fun _ _ _ => False) σ' F' H' (c x))
    (he : ∀ σ' F' H' x, Fr F H F' H' → P σ' F' x → Ev tb te (fun _ _ _ => False) σ' F' H' (e x))
    (hP : ∀ σ' F' F'' a, Same F' F'' → P σ' F' a → P σ' F'' a) : EvL tb (tLc wi g tt te vs) W σ F H (bd m (compR c e)) := fun F1 H1 f1 Q q => by
  refine hs F1 H1 f1 _ (post_imp (post_bd q) (fun xs exs k J Fe He fe io => ?_) fun e _ z => z)
  intro D hD
  unfold compR at k
  have hlen : xs.length ≤ 100000 := Classical.byContradiction fun hc => by
    rw [if_neg hc] at k
    exact k
  rw [if_pos hlen] at k
  have fD : Fr Fe He Fe (upd He D (.lst [])) := Fr.fresh fe.s hD
  refine ⟨fun i n H' => n = xs.length + 1 - i ∧ i ≤ xs.length ∧ ∃ F' ws acc, Fr Fe He F' H' ∧ F' D = none ∧ H' D = some (.lst ws) ∧ ws.length ≤ i ∧ Paired (tb.rep F') ws acc ∧
    Post (compL c e (xs.drop i)) (fun ys => ∀ p ws F2 H2, Fr F1 H1 F2 H2 → H1 p = none → F2 p = none → H2 p = some (.lst ws) → Paired (tb.rep F2) ws (acc ++ ys) → Q (.ref p) H2) (fun e => ∀ F2 H2, Fr F1 H1 F2 H2 → W e σ H2),
    ⟨_, rfl, Nat.zero_le _, Fe, [], [], fD, fe.s.free hD, upd_same, Nat.zero_le _, .nil, k⟩, ?_⟩
  rintro i n H' ⟨en, hi, F', ws, acc, f', hF', hH', hwl, rv, hP'⟩
  obtain ⟨io1, io2⟩ := io F' H' f'.f f'.s i
  cases ex : xs[i]? with
  | none =>
    have hl : xs.length ≤ i := List.getElem?_eq_none_iff.mp ex
    left
    refine ⟨io1 hl, ?_⟩
    rw [List.drop_eq_nil_of_le hl] at hP'
    exact hP' D ws F' H' (fe.trans f') (fe.h.free hD) hF' hH' (by rw [List.append_nil]; exact rv)
  | some x =>
    have hl : i < xs.length := (List.getElem?_eq_some_iff.mp ex).1
    right
    obtain ⟨hgo, hy⟩ := io2 x ex
    refine ⟨hgo, fun H'' => i + 1 ≤ xs.length ∧ ∃ F' ws acc, Fr Fe He F' H'' ∧ F' D = none ∧ H'' D = some (.lst ws) ∧ ws.length ≤ i + 1 ∧ Paired (tb.rep F') ws acc ∧
      Post (compL c e (xs.drop (i + 1))) (fun ys => ∀ p ws F2 H2, Fr F1 H1 F2 H2 → H1 p = none → F2 p = none → H2 p = some (.lst ws) → Paired (tb.rep F2) ws (acc ++ ys) → Q (.ref p) H2) (fun e => ∀ F2 H2, Fr F1 H1 F2 H2 → W e σ H2), fun H'' ⟨hi', z⟩ => ⟨n - 1, by omega, by omega, hi', z⟩, fun v H'' hv => ?_⟩
    obtain ⟨F2, f2, rx⟩ := hy v H'' hv
    have e2 : xs.drop i = x :: xs.drop (i + 1) := by
      rw [List.drop_eq_getElem_cons hl]
      congr 1
      exact (List.getElem?_eq_some_iff.mp ex).2
    rw [e2] at hP'
    unfold compL at hP'
    refine hg v F2 H'' x _ f2.s rx fun σ2 p2 => ⟨hw σ2 F2 x p2, ?_⟩
    have f02 : Fr F H F2 H'' := (f1.trans fe).trans (f'.trans f2)
    refine hc σ2 F2 H'' x f02 p2 F2 H'' (Fr.refl f2.s) _ (post_imp (post_quiet (post_bd hP')) (fun b _ k F3 H3 f3 => ?_) fun _ _ z => z.elim)
    have hF3 : F3 D = none := (f2.trans f3).n D hF' (some_ne hH')
    have hH3 : H3 D = some (.lst ws) := (f2.trans f3).h D _ hH'
    cases b with
    | false =>
      have k : Post (compL c e (xs.drop (i + 1))) _ _ := k
      exact ⟨hl, F3, ws, acc, f'.trans (f2.trans f3), hF3, hH3, by omega, paired_mono (f2.f.trans f3.f) rv, k⟩
    | true =>
      rw [if_pos rfl] at k
      rw [if_pos rfl]
      refine he σ2 F3 H3 x (f02.trans f3) (hP _ _ _ _ f3.f p2) F3 H3 (Fr.refl f3.s) _ (post_imp (post_quiet (post_bd k)) (fun y _ k2 u F4 H4 f4 ru => ?_) fun _ _ z => z.elim)
      have hF4 : F4 D = none := f4.n D hF3 (some_ne hH3)
      have hH4 : H4 D = some (.lst ws) := f4.h D _ hH3
      refine ⟨ws, hH4, Nat.lt_of_lt_of_le (show ws.length < 100001 by omega) (by decide), hl, F4, ws ++ [u], acc ++ [y], Fr.mut (f'.trans (f2.trans (f3.trans f4))) hD hF4, hF4, upd_same, by rw [List.length_append]; show ws.length + 1 ≤ i + 1; omega, ?_, ?_⟩
      · have ra : Paired (tb.rep F4) ws acc := paired_mono (f2.f.trans (f3.f.trans f4.f)) rv
        exact paired_snoc ru ra
      · refine post_imp (post_bd k2) (fun ys _ k3 p ws F5 H5 f5 h5 hF5 hH5 r5 => k3 p ws F5 H5 f5 h5 hF5 hH5 ?_) fun e _ z => z
        rw [List.append_assoc] at r5
        exact r5
end
end TL
/-! ## TL4: statements, one's own lists, defs -/
namespace TL
open PySem PySem.Spec PyProof.Rows L2
/-- a list that only this def knows, made behind F0 H0 -/
def Own {α : Type} (t : Ty α) (H0 F H : Hp) (v : V) (as : List α) : Prop := ∃ p vs, v = .ref p ∧ H0 p = none ∧ F p = none ∧ H p = some (.lst vs) ∧ Paired (t.rep F) vs as
section
variable {K : PySem.W.Frag} {W : WS} {σ : L2.St} {F H F' H' F0 H0 : Hp} {α β γ δ ρ S : Type} {ta : Ty α} {tb : Ty β} {tc : Ty γ} {te te1 te2 te3 : TE} {tt tt1 tt2 : TT} {v : V} {D : Ends} {KK : γ → Prop} {XX : Exn → Prop}
theorem Own.mono {as : List α} (f : Fr F H F' H') (o : Own ta H0 F H v as) : Own ta H0 F' H' v as := by
  obtain ⟨p, vs, ev, h0, hf, hh, r⟩ := o
  exact ⟨p, vs, ev, h0, f.n p hf (some_ne hh), f.h p _ hh, paired_mono f.f r⟩
/-- what stands outside of X stays as it is -/
structure Kept (X : Addr → Prop) (F H F' H' : Hp) : Prop where
  f : Same F F'
  h : ∀ q o, ¬ X q → H q = some o → H' q = some o
  n : ∀ q, ¬ X q → F q = none → H q ≠ none → F' q = none
abbrev atV (v : V) : Addr → Prop := fun q => V.ref q = v
theorem Own.kept {w : V} {bs : List β} (k : Kept (atV v) F H F' H') (hw : w ≠ v) (o : Own tb H0 F H w bs) : Own tb H0 F' H' w bs := by
  obtain ⟨q, ws, ew, h0, hf, hh, r⟩ := o
  have nx : ¬ atV v q := fun z => hw (by rw [ew]; exact z)
  exact ⟨q, ws, ew, h0, k.n q nx hf (some_ne hh), k.h q _ nx hh, paired_mono k.f r⟩
/-- nothing that is tracked stands at v -/
def NewAt (v : V) (H : Hp) : Prop := ∀ q o, H q = some o → V.ref q ≠ v
theorem Own.ne {w : V} {bs : List β} (n : NewAt v H) (o : Own tb H0 F H w bs) : w ≠ v := by
  obtain ⟨q, ws, ew, _, _, hh, _⟩ := o
  rw [ew]
  exact n q _ hh
/-- frozen from now on -/
theorem Own.freeze {as : List α} (fr : Fr F0 H0 F H) (o : Own ta H0 F H v as) : ∃ F', Fr F0 H0 F' H ∧ Same F F' ∧ (yList ta).rep F' v as ∧ Kept (atV v) F H F' H := by
  obtain ⟨p, vs, ev, h0, hf, hh, r⟩ := o
  subst ev
  refine ⟨_, fr.freeze h0 hh hf, same_upd hf, ⟨p, vs, rfl, upd_same, paired_mono (same_upd hf) r⟩, same_upd hf, fun _ _ _ e => e, fun q nx hf' _ => ?_⟩
  rw [upd_ne fun z => nx (by rw [z])]
  exact hf'
theorem s_asg {i : Nat} {m : R α} {f : α → R γ} (hX : ∀ e, XX e → ∀ σ F' H', Fr F0 H0 F' H' → W e σ H') (fr : Fr F0 H0 F H) (he : Ev ta te W σ F H m) (hp : Post (bd m f) KK XX)
    (k : ∀ a v F' H', m = .ok a → Fr F H F' H' → Fr F0 H0 F' H' → ta.rep F' v a → Post (f a) KK XX → D.nx (σ.set i (some v)) H') : tAsg te (gName i) D σ H :=
  he F H (Fr.refl fr.s) _ (post_imp (post_bd hp) (fun a e q v F' H' f' r => k a v F' H' e f' (fr.trans f') r q) fun e _ z F' H' f' => hX e z _ _ _ (fr.trans f'))
/-- a new list of one's own -/
theorem s_asgL {i : Nat} {m : R (List α)} {f : List α → R γ} (hX : ∀ e, XX e → ∀ σ F' H', Fr F0 H0 F' H' → W e σ H') (fr : Fr F0 H0 F H) (he : EvL ta te W σ F H m) (hp : Post (bd m f) KK XX)
    (k : ∀ a v F' H', m = .ok a → Fr F H F' H' → Fr F0 H0 F' H' → Own ta H0 F' H' v a → NewAt v H → Post (f a) KK XX → D.nx (σ.set i (some v)) H') : tAsg te (gName i) D σ H :=
  he F H (Fr.refl fr.s) _ (post_imp (post_bd hp) (fun a e q p vs F' H' f' h1 hf h2 r => k a _ F' H' e f' (fr.trans f') ⟨p, vs, rfl, fr.h.free h1, hf, h2, r⟩ (fun q' o hh z => by
    cases z
    rw [h1] at hh
    cases hh) q) fun e _ z F' H' f' => hX e z _ _ _ (fr.trans f'))
/-- a, b = e -/
theorem s_asgT {g : TG} {m : R α} {f : α → R γ} {P : L2.St → Hp → α → Prop} (hX : ∀ e, XX e → ∀ σ F' H', Fr F0 H0 F' H' → W e σ H') (fr : Fr F0 H0 F H) (he : Ev ta te W σ F H m) (hg : Tg ta g σ P) (hp : Post (bd m f) KK XX)
    (k : ∀ a σ' F' H', m = .ok a → Fr F H F' H' → Fr F0 H0 F' H' → P σ' F' a → Post (f a) KK XX → D.nx σ' H') : tAsg te g D σ H :=
  he F H (Fr.refl fr.s) _ (post_imp (post_bd hp) (fun a e q v F' H' f' r => hg v F' H' a _ f'.s r fun σ' p => k a σ' F' H' e f' (fr.trans f') p q) fun e _ z F' H' f' => hX e z _ _ _ (fr.trans f'))
/-- a, b = e1, e2 -/
theorem s_par {i j : Nat} {m1 : R α} {m2 : R β} {f : α → β → R γ} (hX : ∀ e, XX e → ∀ σ F' H', Fr F0 H0 F' H' → W e σ H') (fr : Fr F0 H0 F H) (h1 : Ev ta te1 W σ F H m1) (h2 : Ev tb te2 W σ F H m2) (hp : Post (bd m1 fun a => bd m2 fun b => f a b) KK XX)
    (k : ∀ a b v w F' H', Fr F H F' H' → Fr F0 H0 F' H' → ta.rep F' v a → tb.rep F' w b → Post (f a b) KK XX → D.nx ((σ.set i (some v)).set j (some w)) H') : tPar i j (tCons te1 (tCons te2 tNil)) D σ H :=
  h1 F H (Fr.refl fr.s) _ (post_imp (post_bd hp) (fun a e q v F1 H1 f1 r => h2 F1 H1 f1 _ (post_imp (post_bd q) (fun b e q2 w F2 H2 f2 r2 => ⟨v, w, rfl, k a b v w F2 H2 (f1.trans f2) (fr.trans (f1.trans f2)) (ta.mono f2.f r) r2 q2⟩) fun e _ z F' H' f' => hX e z _ _ _ (fr.trans (f1.trans f')))) fun e _ z F' H' f' => hX e z _ _ _ (fr.trans f'))
theorem s_if {m : R Bool} {A B : R γ} {t1 t2 : TS} (hX : ∀ e, XX e → ∀ σ F' H', Fr F0 H0 F' H' → W e σ H') (fr : Fr F0 H0 F H) (he : EvT tt W σ F H m) (hp : Post (bd m fun c => if c = true then A else B) KK XX)
    (k1 : ∀ F' H', m = .ok true → Fr F H F' H' → Fr F0 H0 F' H' → Post A KK XX → t1 D σ H') (k2 : ∀ F' H', m = .ok false → Fr F H F' H' → Fr F0 H0 F' H' → Post B KK XX → t2 D σ H') : tIfS tt t1 t2 D σ H :=
  he F H (Fr.refl fr.s) _ (post_imp (post_bd hp) (fun c e q F' H' f' => by
    cases c with
    | true => exact k1 F' H' e f' (fr.trans f') q
    | false => exact k2 F' H' e f' (fr.trans f') q) fun e _ z F' H' f' => hX e z _ _ _ (fr.trans f'))
theorem s_ret {m : R α} {f : α → R γ} (hX : ∀ e, XX e → ∀ σ F' H', Fr F0 H0 F' H' → W e σ H') (fr : Fr F0 H0 F H) (he : Ev ta te W σ F H m) (hp : Post (bd m f) KK XX)
    (k : ∀ a v F' H', Fr F0 H0 F' H' → ta.rep F' v a → Post (f a) KK XX → D.rt v H') : tRet te D σ H :=
  he F H (Fr.refl fr.s) _ (post_imp (post_bd hp) (fun a e q v F' H' f' r => k a v F' H' (fr.trans f') r q) fun e _ z F' H' f' => hX e z _ _ _ (fr.trans f'))
theorem s_retL {m : R (List α)} {f : List α → R γ} (hX : ∀ e, XX e → ∀ σ F' H', Fr F0 H0 F' H' → W e σ H') (fr : Fr F0 H0 F H) (he : EvL ta te W σ F H m) (hp : Post (bd m f) KK XX)
    (k : ∀ a v F' H', Fr F0 H0 F' H' → Own ta H0 F' H' v a → Post (f a) KK XX → D.rt v H') : tRet te D σ H :=
  he F H (Fr.refl fr.s) _ (post_imp (post_bd hp) (fun a e q p vs F' H' f' h1 hf h2 r => k a _ F' H' (fr.trans f') ⟨p, vs, rfl, fr.h.free h1, hf, h2, r⟩ q) fun e _ z F' H' f' => hX e z _ _ _ (fr.trans f'))
/-- return xs, xs one's own list -/
theorem s_retO {i : Nat} (hv : σ[i]? = some (some v)) (k : D.rt v H) : tRet (tVar i) D σ H := ⟨v, hv, k⟩
theorem s_drop {m : R α} {f : α → R γ} (hX : ∀ e, XX e → ∀ σ F' H', Fr F0 H0 F' H' → W e σ H') (fr : Fr F0 H0 F H) (he : Ev ta te W σ F H m) (hp : Post (bd m f) KK XX)
    (k : ∀ a F' H', m = .ok a → Fr F H F' H' → Fr F0 H0 F' H' → Post (f a) KK XX → D.nx σ H') : tDrop te D σ H :=
  he F H (Fr.refl fr.s) _ (post_imp (post_bd hp) (fun a e q v F' H' f' r => k a F' H' e f' (fr.trans f') q) fun e _ z F' H' f' => hX e z _ _ _ (fr.trans f'))
def addR (as : List α) (a : α) : R (List α) := if as.length < 100000 then .ok (as ++ [a]) else .stuck
def catR (as bs : List α) : R (List α) := if as.length + bs.length ≤ 100000 then .ok (as ++ bs) else .stuck
/-- xs.append(e), xs one's own -/
theorem s_app {i : Nat} {as : List α} {m : R α} {f : List α → R γ} (hX : ∀ e, XX e → ∀ σ F' H', Fr F0 H0 F' H' → W e σ H') (fr : Fr F0 H0 F H) (hv : σ[i]? = some (some v)) (o : Own ta H0 F H v as) (he : Ev ta te W σ F H m) (hp : Post (bd m fun a => bd (addR as a) f) KK XX)
    (k : ∀ bs F' H', Same F F' → Fr F0 H0 F' H' → Own ta H0 F' H' v bs → Kept (atV v) F H F' H' → Post (f bs) KK XX → D.nx σ H') :
    tDrop (tBM K "list" rAppend (tVar i) (tCons te tNil)) D σ H := by
  obtain ⟨p, vs, ev, h0, hf, hh, r⟩ := o
  subst ev
  refine ⟨_, hv, .inl ⟨rfl, vs, SqL.of hh⟩, ?_⟩
  refine he F H (Fr.refl fr.s) _ (post_imp (post_bd hp) (fun a e q v F' H' f' rv => ?_) fun e _ z F' H' f' => hX e z _ _ _ (fr.trans f'))
  unfold addR at q
  by_cases hl : as.length < 100000
  · rw [if_pos hl] at q
    have hF' : F' p = none := f'.n p hf (some_ne hh)
    refine ⟨p, vs, v, rfl, rfl, f'.h p _ hh, Nat.lt_of_lt_of_le (show vs.length < 100000 by rw [r.length]; exact hl) (by decide), ?_⟩
    refine k (as ++ [a]) F' _ f'.f ((fr.trans f').mut h0 hF') ⟨p, _, rfl, h0, hF', upd_same, paired_snoc rv (paired_mono f'.f r)⟩ ⟨f'.f, fun q' o nx hh' => ?_, fun q' _ => f'.n q'⟩ q
    rw [upd_ne fun z => nx (by rw [z])]
    exact f'.h _ _ hh'
  · rw [if_neg hl] at q
    exact q.elim
/-- reading one's own list where the answer names no object -/
def Flat (t : Ty α) : Prop := ∀ F F' v a, t.rep F v a → t.rep F' v a
theorem flat_int : Flat tInt := fun _ _ _ _ h => h
theorem flat_bool : Flat tBool := fun _ _ _ _ h => h
theorem flat_str : Flat tStr := fun _ _ _ _ h => h
theorem lend_fr {as : List α} {F1 H1 : Hp} {p : Addr} {vs : List V} (hf : F p = none) (hh : H p = some (.lst vs)) (f1 : Fr F H F1 H1) : Fr (upd F p (.lst vs)) H (upd F1 p (.lst vs)) H1 := by
  have hf1 : F1 p = none := f1.n p hf (some_ne hh)
  have hh1 := f1.h p _ hh
  refine ⟨fun b u e => ?_, f1.h, fun b u e => ?_, fun b e1 e2 => ?_⟩
  · by_cases q : b = p
    · subst q
      rw [upd_same] at e ⊢
      exact e
    · rw [upd_ne q] at e ⊢
      exact f1.f b u e
  · by_cases q : b = p
    · subst q
      rw [upd_same] at e
      rw [← e]
      exact hh1
    · rw [upd_ne q] at e
      exact f1.s b u e
  · by_cases q : b = p
    · subst q
      rw [upd_same] at e1
      cases e1
    · rw [upd_ne q] at e1 ⊢
      exact f1.n b e1 e2
theorem ev_lend {as : List β} {m : R α} (fl : Flat ta) (o : Own tb H0 F H v as) (s0 : Same F H) (h : ∀ F', Same F F' → (yList tb).rep F' v as → Same F' H → Ev ta te W σ F' H m) : Ev ta te W σ F H m := fun F1 H1 f1 Q q => by
  obtain ⟨p, vs, ev, h0, hf, hh, r⟩ := o
  subst ev
  have hf1 : F1 p = none := f1.n p hf (some_ne hh)
  have sF : Same F (upd F p (.lst vs)) := same_upd hf
  have sH : Same (upd F p (.lst vs)) H := fun b u e => by
    by_cases q : b = p
    · subst q
      rw [upd_same] at e
      rw [← e]
      exact hh
    · rw [upd_ne q] at e
      exact s0 b u e
  refine h _ sF ⟨p, vs, rfl, upd_same, paired_mono sF r⟩ sH _ H1 (lend_fr (as := as) hf hh f1) Q (post_imp q (fun a _ k v F2 H2 f2 rv => ?_) fun e _ z F2 H2 f2 => ?_)
  · exact k v F1 H2 ⟨Same.refl _, f2.h, f1.s.trans f2.h, fun _ h _ => h⟩ (fl _ _ _ _ rv)
  · exact z F1 H2 ⟨Same.refl _, f2.h, f1.s.trans f2.h, fun _ h _ => h⟩
theorem et_lend {as : List β} {m : R Bool} (o : Own tb H0 F H v as) (s0 : Same F H) (h : ∀ F', Same F F' → (yList tb).rep F' v as → Same F' H → EvT tt W σ F' H m) : EvT tt W σ F H m := fun F1 H1 f1 Q q => by
  obtain ⟨p, vs, ev, h0, hf, hh, r⟩ := o
  subst ev
  have sF : Same F (upd F p (.lst vs)) := same_upd hf
  have sH : Same (upd F p (.lst vs)) H := fun b u e => by
    by_cases q : b = p
    · subst q
      rw [upd_same] at e
      rw [← e]
      exact hh
    · rw [upd_ne q] at e
      exact s0 b u e
  refine h _ sF ⟨p, vs, rfl, upd_same, paired_mono sF r⟩ sH _ H1 (lend_fr (as := as) hf hh f1) Q (post_imp q (fun a _ k F2 H2 f2 => ?_) fun e _ z F2 H2 f2 => ?_)
  · exact k F1 H2 ⟨Same.refl _, f2.h, f1.s.trans f2.h, fun _ h _ => h⟩
  · exact z F1 H2 ⟨Same.refl _, f2.h, f1.s.trans f2.h, fun _ h _ => h⟩
end

/-! ### defs -/
/-- a def of the module, as its callers see it -/
structure CalX (P : Program) (w : World) (K : PySem.W.Frag) (mg : Str → Option Value) (base : Heap) (k : Nat) (x : Str) (sp : Sp) : Prop where
  ex : ∃ (f : Addr) (fd : FuncData) (ps : List Str), FnOk P w K mg base (L2.CX P w) k f fd ps sp ∧ mg x = some (.ref f) ∧ PySem.W.keepIn K (.ref f) = true ∧ Binds K fd ps []
section
variable {X : Cx} {j k : Nat} {x : Str} {sp : Sp} {E : XK} {p pos : Pos} {e : Expr} {es : List Expr} {t : TA}
theorem pe_cx (c : CalX X.prog X.w X.K X.mg X.base k x sp) (hr : Room j X.A) (hk : k ≤ j) (hx : Passes (L2.CX X.prog X.w) X E) (ha : PA X (e :: es) t) (hg : Gl X x := by rfl) (hdb : (x == ("__debug__" : Str)) = false := by decide)
    (he : starEach (e :: es) X.env = (false, eval e X.env) :: starEach es X.env := by rfl) (hpl : (backTo pos (starEach es X.env)).any (·.1) = false := by rfl) : PE X (.Call (.Name x p) (e :: es) [] pos) (tCall sp [] E t) := by
  obtain ⟨f, fd, ps, F, hm, hkp, hb⟩ := c.ex
  exact pe_call F (hr.mono hk) hg hm hkp hb .nil hx ha hdb he hpl
end
/-- a method of an own class -/
structure MetX (P : Program) (w : World) (K : PySem.W.Frag) (mg : Str → Option Value) (base : Heap) (k : Nat) (C m : Str) (sp : Sp) : Prop where
  ex : ∃ (f : Addr) (fd : FuncData) (ps : List Str), Cls K (He.ga K C) ∧ Meth K (He.ga K C) m f ∧ FnOk P w K mg base (L2.CX P w) k f fd ps sp ∧ Binds K fd ps []
section
variable {X : Cx} {j k : Nat} {C m : Str} {sp : Sp} {E : XK} {o e : Expr} {es : List Expr} {apos pos : Pos} {ta : TE} {t : TA}
theorem pe_mx {pl : Sem Bool} (he : PE X o ta) (c : MetX X.prog X.w X.K X.mg X.base k C m sp) (hr : Room j X.A) (hk : k ≤ j) (hx : Passes (L2.CX X.prog X.w) X E) (ha : PA X (e :: es) t)
    (hst : starEach (e :: es) X.env = (false, eval e X.env) :: starEach es X.env := by rfl) (hpl : (backTo pos (starEach es X.env)).any (·.1) = false := by rfl)
    (ht : eval (.Call (.Attribute o m apos) (e :: es) [] pos) X.env = (do
      let ov ← eval o X.env
      standAt apos.atName
      let (f, first) ← holding [ov] (getMethod ov m pl)
      callWith pos f first (backTo pos (starEach (e :: es) X.env)) (backToKw pos (keywordEach [] X.env))) := by rfl) :
    PE X (.Call (.Attribute o m apos) (e :: es) [] pos) (tMeth (He.ga X.K C) m sp [] E ta t) := by
  obtain ⟨f, fd, ps, hC, hm, F, hb⟩ := c.ex
  exact pe_meth he hC hm F (hr.mono hk) hb .nil hx ha hst hpl ht
theorem pe_mx0 {pl : Sem Bool} (he : PE X o ta) (c : MetX X.prog X.w X.K X.mg X.base k C m sp) (hr : Room j X.A) (hk : k ≤ j) (hx : Passes (L2.CX X.prog X.w) X E)
    (ht : eval (.Call (.Attribute o m apos) [] [] pos) X.env = (do
      let ov ← eval o X.env
      standAt apos.atName
      let (f, first) ← holding [ov] (getMethod ov m pl)
      callWith pos f first (backTo pos (starEach [] X.env)) (backToKw pos (keywordEach [] X.env))) := by rfl) :
    PE X (.Call (.Attribute o m apos) [] [] pos) (tMeth (He.ga X.K C) m sp [] E ta tNil) := by
  obtain ⟨f, fd, ps, hC, hm, F, hb⟩ := c.ex
  exact pe_meth0 he hC hm F (hr.mono hk) hb .nil hx ht
end
section
variable {K : PySem.W.Frag} {W : WS} {σ : L2.St} {F H : Hp} {α β γ : Type} {ta : Ty α} {tb : Ty β} {te : TE}
theorem lookup_zip_none : ∀ {names : List Str} {vs : List V} {f : Str}, names.findIdx? (fun x => x == f) = none → (names.zip vs).lookup f = none
  | [], _, _, _ => rfl
  | n :: ns, [], f, _ => rfl
  | n :: ns, w :: vs, f, h => by
    rw [List.findIdx?_cons] at h
    rw [List.zip_cons_cons, List.lookup_cons]
    by_cases e : n == f
    · rw [if_pos e] at h
      cases h
    · rw [if_neg e] at h
      have e2 : (f == n) = false := by
        cases q : f == n with
        | false => rfl
        | true => exact absurd (by rw [eq_of_beq q]; exact beq_self_eq_true n) e
      rw [e2]
      exact lookup_zip_none (by simpa using h)
/-- a method of an instance that never changes -/
theorem ev_meth {C mn : Str} {names : List Str} {u : TyA α} {u2 : TyA β} {tc : Ty γ} {g : α × β → R γ} {m1 : R α} {m2 : R β} {tx : TA} {E : XK} (hw : ∀ e H, W e σ H → XS K E e H) (hn : names.findIdx? (fun y => y == mn) = none) (h1 : Ev (tObj K C names u) te W σ F H m1) (h2 : EvA u2 tx W σ F H m2) :
    Ev tc (tMeth (He.ga K C) mn (SpF K (aCons (tObj K C names u) u2) tc g) [] E te tx) W σ F H (bd m1 fun a => bd m2 fun b => g (a, b)) := fun F1 H1 f1 Q q => by
  refine h1 F1 H1 f1 _ (post_imp (post_bd q) (fun a _ q1 v F2 H2 f2 ⟨p, dx, vs, ev, hp, rv⟩ => ⟨p, dx, _, ev, f2.s _ _ hp, ?_, ?_⟩) fun e _ z => z)
  · exact lookup_zip_none hn
  · refine h2 F2 H2 (f1.trans f2) _ (post_imp (post_bd q1) (fun b _ k vs2 F3 H3 f3 rv2 => ?_) fun e _ z F3 H3 f3 => z F3 H3 (f2.trans f3))
    exact ⟨F3, (a, b), f3.s, ⟨v, vs2, by rw [List.append_nil], ⟨p, dx, vs, ev, f3.f _ _ hp, u.mono f3.f rv⟩, rv2⟩, post_imp k (fun c _ k2 v F4 H4 f4 r => k2 v F4 H4 ((f2.trans f3).trans f4) r) fun e _ z F4 H4 f4 => hw _ _ (z F4 H4 ((f2.trans f3).trans f4))⟩
end
end TL
/-! ## TLmin: min(xs, default=None) of a list of ints -/
namespace TLm
open PySem PySem.Spec PyProof.Rows L2
abbrev kwD (d : Value) : List (Str × Value) := [(Str.ofString "default", d)]
section
variable {pg : Program} {wd : World} {B : Around} {Rs : Result → Shared → Prop} {It0 : Addr} {fq wq : List Addr} {N0 : Nat} {Pi : Nat → Value → Prop} {Sj : Nat → Heap → Prop} {d : Value}
theorem nm_loop : (toString "min" ++ toString ".loop" : String) = "min.loop" := by decide
theorem ml_go (Wk : Walks pg wd B.in1 It0 fq wq N0 Pi Sj) (lt : Nat → Nat → Bool) (hc : CmpOf pg wd B.in1 .Lt Pi lt) (T : Addr) (hT : T ∉ fq) : ∀ (k j : Nat) (s : Shared) (u : Value) (c : Nat),
    N0 - (j + 1) = k → j + 1 ≤ N0 → Sj (j + 1) s.heap → Pi (argBest lt j) u → s.heap.get? T = some { cls := .type "list", dict := none, data := .seq #[u, u] c, slots := #[] } →
    (∀ v h' tk, Pi (argBest lt (N0 - 1)) v → (∀ b o, b ∉ wq → b ≠ T → s.heap.get? b = some o → h'.get? b = some o) → Rs (.ok (.ret v)) { s with heap := h', toks := tk }) →
    codeAny (model pg wd) B (.builtin "min.loop" ⟨[.ref It0, .none, .ref T], kwD d⟩) Rs s := by
  have hTw : T ∉ wq := fun z => hT (Wk.sub _ z)
  intro k
  induction k with
  | zero =>
    intro j s u c ek ej st pb gT fin
    have ej' : j + 1 = N0 := by omega
    refine codeAny_builtin F.entry_min_loop ?_; rw [Around.under_plainId F.plain_min_loop _]
    show wpAny _ B.in1 (seqItems? (.ref T) >>= _) _ _ s
    refine wpAny_bind (wpAny_seqItems gT rfl ?_); show wpAny _ B.in1 (tryCatch (pyNext (.ref It0)) _ >>= _) _ _ s
    refine wpAny_bind (wpAny_tryCatch (Wk.done s _ _ (ej' ▸ st) fun h1 t1 kp => ?_))
    have gT1 := kp T _ hTw gT
    show wpAny _ B.in1 (updateSeq T (fun _ => #[]) >>= _) _ _ _
    refine wpAny_bind ?_; refine wpAny_updateSeq gT1 rfl (wpAny_bind (wpAny_letGo (wpAny_pure ?_)))
    exact fin u _ t1 (by rw [← ej']; exact pb) fun b o hb hbT e => (Heap.get?_update_other _ _ (Ne.symm hbT)).trans (kp b o hb e)
  | succ k ih =>
    intro j s u c ek ej st pb gT fin
    have ej' : j + 1 < N0 := by omega
    refine codeAny_builtin F.entry_min_loop ?_; rw [Around.under_plainId F.plain_min_loop _]
    show wpAny _ B.in1 (seqItems? (.ref T) >>= _) _ _ s
    refine wpAny_bind (wpAny_seqItems gT rfl ?_); show wpAny _ B.in1 (tryCatch (pyNext (.ref It0)) _ >>= _) _ _ s
    refine wpAny_bind (wpAny_tryCatch (Wk.item (j + 1) s _ _ ej' st fun v h1 t1 pv st1 kp => ?_))
    have gT1 := kp T _ hTw gT
    show wpAny _ B.in1 (tryCatch (holding [v, v] (richCompare .Lt v u >>= _)) _ >>= _) _ _ _
    refine wpAny_bind (wpAny_tryCatch (wpAny_holding (wpAny_bind (hc (j + 1) (argBest lt j) v u _ _ _ pv pb ?_))))
    refine wpAny_bind (wpAny_holding (wpAny_truthy_bool ?_)); refine wpAny_bind (wpAny_letGo (wpAny_pure ?_))
    cases eb : lt (j + 1) (argBest lt j) with
    | true =>
      simp only [if_true]
      refine wpAny_bind ?_; refine wpAny_updateSeq gT1 rfl (wpAny_bind (wpAny_letGo ?_))
      rw [nm_loop]
      refine wpAny_pure ⟨plainId_quiet F.plain_min_loop _, ih (j + 1) _ v _ (by omega) ej' (Wk.frame _ _ _ st1 fun b hb o e => (Heap.get?_update_other _ _ (fun z : T = b => hT (by rw [z]; exact hb))).trans e) (by simp only [argBest, eb, if_true]; exact pv) (Heap.get?_update_self _ gT1 rfl) fun v2 h2 t2 pv2 kp2 => ?_⟩
      exact fin v2 h2 t2 pv2 fun b o hb hbT e => kp2 b o hb hbT ((Heap.get?_update_other _ _ (Ne.symm hbT)).trans (kp b o hb e))
    | false =>
      simp only [Bool.false_eq_true, if_false]
      refine wpAny_bind (wpAny_letGo ?_); rw [nm_loop]
      refine wpAny_pure ⟨plainId_quiet F.plain_min_loop _, ih (j + 1) _ u c (by omega) ej' st1 (by simp only [argBest, eb, Bool.false_eq_true, if_false]; exact pb) gT1 fun v2 h2 t2 pv2 kp2 => ?_⟩
      exact fin v2 h2 t2 pv2 fun b o hb hbT e => kp2 b o hb hbT (kp b o hb e)
theorem ml_first (Wk : Walks pg wd B.in1 It0 fq wq N0 Pi Sj) (lt : Nat → Nat → Bool) (hc : CmpOf pg wd B.in1 .Lt Pi lt) (T : Addr) (hT : T ∉ fq) {s : Shared} {c : Nat} (st : Sj 0 s.heap) (gT : s.heap.get? T = some { cls := .type "list", dict := none, data := .seq #[] c, slots := #[] })
    (f0 : N0 = 0 → ∀ h' tk, (∀ b o, b ∉ wq → b ≠ T → s.heap.get? b = some o → h'.get? b = some o) → Rs (.ok (.ret d)) { s with heap := h', toks := tk })
    (f1 : 0 < N0 → ∀ v h' tk, Pi (argBest lt (N0 - 1)) v → (∀ b o, b ∉ wq → b ≠ T → s.heap.get? b = some o → h'.get? b = some o) → Rs (.ok (.ret v)) { s with heap := h', toks := tk }) :
    codeAny (model pg wd) B (.builtin "min.loop" ⟨[.ref It0, .none, .ref T], kwD d⟩) Rs s := by
  have hTw : T ∉ wq := fun z => hT (Wk.sub _ z)
  refine codeAny_builtin F.entry_min_loop ?_; rw [Around.under_plainId F.plain_min_loop _]
  show wpAny _ B.in1 (seqItems? (.ref T) >>= _) _ _ s
  refine wpAny_bind (wpAny_seqItems gT rfl ?_); show wpAny _ B.in1 (tryCatch (pyNext (.ref It0)) _ >>= _) _ _ s
  by_cases h0 : N0 = 0
  · refine wpAny_bind (wpAny_tryCatch (Wk.done s _ _ (h0 ▸ st) fun h1 t1 kp => ?_))
    show wpAny _ B.in1 (rule _ >>= _) _ _ _
    refine wpAny_bind ?_
    refine wpAny_rule ?_
    exact wpAny_pure (f0 h0 h1 t1 fun b o hb _ e => kp b o hb e)
  · have hn : 0 < N0 := Nat.pos_of_ne_zero h0
    refine wpAny_bind (wpAny_tryCatch (Wk.item 0 s _ _ hn st fun v h1 t1 pv st1 kp => ?_))
    have gT1 := kp T _ hTw gT
    show wpAny _ B.in1 (updateSeq T (fun _ => #[v, v]) >>= _) _ _ _
    refine wpAny_bind ?_; refine wpAny_updateSeq gT1 rfl ?_; rw [nm_loop]
    refine wpAny_pure ⟨plainId_quiet F.plain_min_loop _, ml_go Wk lt hc T hT _ 0 _ v _ rfl hn (Wk.frame _ _ _ st1 fun b hb o e => (Heap.get?_update_other _ _ (fun z : T = b => hT (by rw [z]; exact hb))).trans e) pv (Heap.get?_update_self _ gT1 rfl) fun v2 h2 t2 pv2 kp2 => ?_⟩
    exact f1 hn v2 h2 t2 pv2 fun b o hb hbT e => kp2 b o hb hbT ((Heap.get?_update_other _ _ (Ne.symm hbT)).trans (kp b o hb e))
end
theorem args_minD (a v : Value) : argsOk "min" ⟨[a], kwD v⟩ := by unfold argsOk; kernel_rfl
section
variable {pg : Program} {wd : World} {B : Around} {E : Value → Shared → Prop} {s : Shared} {d : Value}
theorem min_default_walk {x : Value} {Q : Value → Shared → Prop} (h : wpAny (model pg wd) B.in1 (pyIter x) (fun it s2 => ∃ I fp wr n P St bt, it = .ref I ∧ Walks pg wd B.in1 I fp wr n P St ∧ St 0 s2.heap ∧ (∀ b ∈ fp, b < s2.heap.objs.size) ∧ CmpOf pg wd B.in1 .Lt P bt ∧
      (n = 0 → ∀ h' tk, (∀ b o, b ∉ wr → s2.heap.get? b = some o → h'.get? b = some o) → Q d { s2 with heap := h', toks := tk }) ∧
      (0 < n → ∀ v h' tk, P (argBest bt (n - 1)) v → (∀ b o, b ∉ wr → s2.heap.get? b = some o → h'.get? b = some o) → Q v { s2 with heap := h', toks := tk })) E s) : wpAny (model pg wd) B (call (.builtin "min") [x] (kwD d)) Q E s := by
  refine kmk_tree F.kind_min F.plain_min F.entry_min (args_minD _ _) ?_
  show wpAny _ B.in1 (Builtin.Builtins.bindParams "min" ["key", "default"] 0 ⟨[], kwD d⟩ >>= _) _ _ s
  refine wpAny_bind (wpAny_of_eq (show Builtin.Builtins.bindParams "min" ["key", "default"] 0 ⟨[], kwD d⟩ = pure [none, some d] from rfl) ?_)
  refine wpAny_bind (wpAny_pure ?_)
  refine wpAny_bind (wpAny_mono h (fun it s2 h2 => ?_) fun _ _ e => e)
  obtain ⟨I, fp, wr, n, P, St, bt, rfl, Wk, st, hfp, hc, q0, q1⟩ := h2
  refine wpAny_bind (wpAny_newObj_type ?_)
  have hSf : s2.heap.objs.size ∉ fp := fun hm => Nat.lt_irrefl _ (hfp _ hm)
  rw [nm_loop]
  refine wpAny_pure ⟨plainId_quiet F.plain_min_loop _, ml_first Wk bt hc s2.heap.objs.size hSf (Wk.frame _ _ _ st fun b _ o e => Heap.get?_push_of_some _ e) (Heap.get?_push_size _ rfl) (fun z h' tk kp => ?_) fun z v h' tk pv kp => ?_⟩
  · exact q0 z h' tk fun b o hb e => kp b o hb (Nat.ne_of_lt (Heap.lt_size e)) (Heap.get?_push_of_some _ e)
  · exact q1 z v h' tk pv fun b o hb e => kp b o hb (Nat.ne_of_lt (Heap.lt_size e)) (Heap.get?_push_of_some _ e)
theorem min_default {l : Addr} {its : List Value} {ns : List Int} {Q : Value → Shared → Prop} (hh : B.handled = none) (hl : s.heap.IsList l its.toArray) (hi : IntsAre its ns)
    (h0 : ns = [] → ∀ h' tk, (∀ b o, s.heap.get? b = some o → h'.get? b = some o) → Q d { s with heap := h', toks := tk })
    (h1 : ∀ h' tk M t', (∀ b o, s.heap.get? b = some o → h'.get? b = some o) → M ∈ ns → (∀ a, a ∈ ns → M ≤ a) → Q (.int M t') { s with heap := h', toks := tk }) : wpAny (model pg wd) B (call (.builtin "min") [.ref l] (kwD d)) Q E s := by
  obtain ⟨xs, e⟩ := hi.allInts.items
  have hn : numsOf (intItems xs).toList = ns := by rw [← e]; exact hi.numsOf
  rw [nums_intItems] at hn
  subst hn
  rw [e] at hl
  refine min_default_walk (iter_intList hl fun s2 e2 st hfp hlI => ?_)
  subst e2
  refine ⟨_, _, _, _, _, _, _, rfl, Walks.list (A := B.in1) hh _ l hlI (intItems xs), st, hfp, CmpOf.ints_lt (numAt xs) (fun _ _ => intItems_at), fun z h' tk hk => ?_, fun z v h' tk hv hk => ?_⟩
  · have z2 : xs.size = 0 := by simpa [intItems] using z
    exact h0 (List.eq_nil_of_length_eq_zero (by rw [List.length_map, Array.length_toList]; exact z2)) h' tk (old_kept hk)
  · have hsz : 0 < xs.size := by simpa [intItems] using z
    have hv2 : (intItems xs)[argBest (fun i j => decide (numAt xs i < numAt xs j)) (xs.size - 1)]? = some v := by simpa [intItems] using hv
    obtain ⟨t, rfl⟩ := intItems_at hv2
    obtain ⟨g1, g2⟩ := argBest_lt (numAt xs) (xs.size - 1)
    refine h1 h' tk _ t (old_kept hk) ?_ fun a ha => ?_
    · rw [numAt_eq]; exact PySem.getD_mem (by rw [List.length_map, Array.length_toList]; omega)
    · obtain ⟨j, hj, rfl⟩ := mem_getD ha
      rw [List.length_map, Array.length_toList] at hj
      rw [← numAt_eq]; exact g2 j (by omega)
end
/-- min(xs, default=None) -/
def rMinD (K : PySem.W.Frag) : List V → List V → Hp → VK → Prop := fun vs zs H Q => zs = [.non] ∧ ∃ (a : Addr) (ns : List Int), vs = [V.ref a] ∧ SqL K H a (ns.map V.int) ∧ (ns = [] → Q .non H) ∧ ∀ m, m ∈ ns → (∀ y, y ∈ ns → m ≤ y) → Q (.int m) H
theorem cr_minD {X : Cx} (hc : X.calm = true) : CallRK X (.builtin "min") [Str.ofString "default"] (rMinD X.K) := by
  intro pins s σ H vs zs us ws Q I r rz h
  obtain ⟨rfl, a, ns, rfl, hs, q0, q1⟩ := h
  obtain ⟨its, rv, hl, _⟩ := I.list hs
  rw [Vals.ref1 r]
  cases rz with
  | cons rz1 rz2 =>
    cases rz2
    cases rz1
    exact min_default (I.ok.hd hc) hl.isList rv.ints (fun z h' tk hk => ⟨.non, H, I.kept hk, rfl, q0 z⟩) fun h' tk m t' hk h1 h2 => ⟨.int _, H, I.kept hk, ⟨_, rfl⟩, q1 m h1 h2⟩
end TLm
/-! ## TL5: built-ins of data; names of the module; raising -/
namespace TL
open PySem PySem.Spec PyProof.Rows L2
section
variable {K : PySem.W.Frag} {W : WS} {σ : L2.St} {F H F' H' F0 H0 : Hp} {α β γ δ ρ S : Type} {ta : Ty α} {tb : Ty β} {tc : Ty γ} {te te1 te2 te3 : TE} {v : V}
/-! ### isinstance -/
/-- the Python class of a type's values -/
def IsTy (K : PySem.W.Frag) (t : Ty α) (T : String) : Prop := ∀ F H v a, Same F H → t.rep F v a → TyX K H v (.type T)
theorem ty_int : IsTy K tInt "int" := fun F H v a _ r => by
  have r : v = .int a := r
  subst r
  exact .base (.int a)
theorem ty_bool : IsTy K tBool "bool" := fun F H v a _ r => by
  have r : v = .bl a := r
  subst r
  exact .base (.bl a)
theorem ty_str : IsTy K tStr "str" := fun F H v a _ r => by
  have r : v = .str a := r
  subst r
  exact .base (.str a)
theorem ty_sqL {p : Addr} {xs : List V} (h : SqL K H p xs) : TyX K H (.ref p) (.type "list") := by
  rcases h with (h | ⟨o, h⟩) | ⟨o, its, n, h1, h2, _⟩
  · exact .base (.lst h)
  · exact .base (.frz h)
  · exact .kList h1 h2
theorem ty_sqT {p : Addr} {xs : List V} (h : SqT K H p xs) : TyX K H (.ref p) (.type "tuple") := by
  rcases h with (h | ⟨o, h⟩) | ⟨o, its, n, h1, h2, _⟩
  · exact .base (.tup h)
  · exact .fTuple h
  · exact .kTuple h1 h2
theorem ty_list : IsTy K (tList K ta) "list" := fun F H v a s ⟨p, vs, ev, hs, _⟩ => by
  subst ev
  exact ty_sqL (sqL_mono s hs)
theorem ty_lst : IsTy K (yList ta) "list" := fun F H v a s ⟨p, vs, ev, hs, _⟩ => by
  subst ev
  exact ty_sqL (.inl (.inl (s _ _ hs)))
theorem ty_tupL : IsTy K (yTupL K ta) "tuple" := fun F H v a s ⟨p, vs, ev, hs, _⟩ => by
  subst ev
  exact ty_sqT (sqT_mono s hs)
theorem ty_tup {u : TyA α} : IsTy K (yTup K u) "tuple" := fun F H v a s ⟨p, vs, ev, hs, _⟩ => by
  subst ev
  exact ty_sqT (.inl (.inl (s _ _ hs)))
theorem ev_isi {T U : String} {b : Bool} (y : IsTy K ta T) (k : kitB T U = some b) {m : R α} (h : Ev ta te W σ F H m) : Ev tBool (tCB (rIsi K) (tCons te (tCons (tC (.ty U)) tNil))) W σ F H (bd m fun _ => .ok b) := fun F1 H1 f1 Q q =>
  h F1 H1 f1 _ (post_imp (post_bd q) (fun a _ k1 x F2 H2 f2 rx => ⟨x, .ty U, _, _, b, rfl, .ty U, y F2 H2 x a f2.s rx, kit_ty k, k1 _ F2 H2 f2 rfl⟩) fun e _ z => z)
/-! ### list(xs), tuple(xs), sum, min -/
def rListS (K : PySem.W.Frag) : List V → Hp → VK → Prop := fun xs H Q => ∃ p ys, xs = [.ref p] ∧ (SqL K H p ys ∨ SqT K H p ys) ∧ ∀ l, H l = none → Q (.ref l) (upd H l (.lst ys))
theorem el_listOf {m : R (List α)} (h : Ev (tList K ta) te W σ F H m) : EvL ta (tCB (rListS K) (tCons te tNil)) W σ F H m := fun F1 H1 f1 Q q =>
  h F1 H1 f1 _ (post_imp q (fun a _ k x F2 H2 f2 ⟨p, vs, ev, hs, rv⟩ => ⟨p, vs, by rw [ev], .inl (sqL_mono f2.s hs), fun l hl => k l vs F2 _ (f2.trans (Fr.fresh f2.s hl)) (f2.h.free hl) (f2.s.free hl) upd_same rv⟩) fun e _ z => z)
theorem el_listOfT {m : R (List α)} (h : Ev (yTupL K ta) te W σ F H m) : EvL ta (tCB (rListS K) (tCons te tNil)) W σ F H m := fun F1 H1 f1 Q q =>
  h F1 H1 f1 _ (post_imp q (fun a _ k x F2 H2 f2 ⟨p, vs, ev, hs, rv⟩ => ⟨p, vs, by rw [ev], .inr (sqT_mono f2.s hs), fun l hl => k l vs F2 _ (f2.trans (Fr.fresh f2.s hl)) (f2.h.free hl) (f2.s.free hl) upd_same rv⟩) fun e _ z => z)
def rTupS (K : PySem.W.Frag) : List V → Hp → VK → Prop := fun xs H Q => ∃ p ys, xs = [.ref p] ∧ ((SqL K H p ys ∧ ∀ l, H l = none → Q (.ref l) (upd H l (.tup ys))) ∨ (SqT K H p ys ∧ Q (.ref p) H))
theorem ev_tupleOf {m : R (List α)} (h : Ev (tList K ta) te W σ F H m) : Ev (yTupL K ta) (tCB (rTupS K) (tCons te tNil)) W σ F H m := fun F1 H1 f1 Q q =>
  h F1 H1 f1 _ (post_imp q (fun a _ k x F2 H2 f2 ⟨p, vs, ev, hs, rv⟩ => ⟨p, vs, by rw [ev], .inl ⟨sqL_mono f2.s hs, fun l hl => k (.ref l) _ _ (f2.trans (Fr.alloc f2.s hl)) ⟨l, vs, rfl, .inl (.inl upd_same), paired_mono (same_upd (f2.s.free hl)) rv⟩⟩⟩) fun e _ z => z)
theorem paired_ints : ∀ {vs : List V} {as : List Int}, Paired (tInt.rep F) vs as → vs = as.map V.int
  | _, _, .nil => rfl
  | _, _, .cons h t => by rw [show _ = _ from h, paired_ints t] <;> rfl
theorem paired_bls : ∀ {vs : List V} {as : List Bool}, Paired (tBool.rep F) vs as → vs = as.map V.bl
  | _, _, .nil => rfl
  | _, _, .cons h t => by rw [show _ = _ from h, paired_bls t] <;> rfl
theorem paired_strs : ∀ {vs : List V} {as : List Str}, Paired (tStr.rep F) vs as → vs = as.map V.str
  | _, _, .nil => rfl
  | _, _, .cons h t => by rw [show _ = _ from h, paired_strs t] <;> rfl
theorem ev_sum {m : R (List Int)} (h : Ev (tList K tInt) te W σ F H m) : Ev tInt (tCB (rSum K) (tCons te tNil)) W σ F H (bd m fun xs => .ok xs.sum) :=
  ev_cb1 (ta := tList K tInt) (fun F H s x as ⟨p, vs, ev, hs, rv⟩ Q q => ⟨p, as, by rw [ev], by rw [← paired_ints rv]; exact sqL_mono s hs, q _ F H (Fr.refl s) rfl⟩) (fun _ => calm_ok) h
theorem ev_all {m : R (List Bool)} (h : Ev (tList K tBool) te W σ F H m) : Ev tBool (tCB (rAll K) (tCons te tNil)) W σ F H (bd m fun xs => .ok (xs.all id)) :=
  ev_cb1 (ta := tList K tBool) (fun F H s x as ⟨p, vs, ev, hs, rv⟩ Q q => ⟨p, as, by rw [ev], by rw [← paired_bls rv]; exact sqL_mono s hs, q _ F H (Fr.refl s) rfl⟩) (fun _ => calm_ok) h
theorem ev_any {m : R (List Bool)} (h : Ev (tList K tBool) te W σ F H m) : Ev tBool (tCB (rAny K) (tCons te tNil)) W σ F H (bd m fun xs => .ok (xs.any id)) :=
  ev_cb1 (ta := tList K tBool) (fun F H s x as ⟨p, vs, ev, hs, rv⟩ Q q => ⟨p, as, by rw [ev], by rw [← paired_bls rv]; exact sqL_mono s hs, q _ F H (Fr.refl s) rfl⟩) (fun _ => calm_ok) h
/-- the least, None of none -/
def leastO : List Int → Option Int
  | [] => none
  | x :: xs => match leastO xs with
    | none => some x
    | some y => some (min x y)
theorem leastO_nil {xs : List Int} (h : leastO xs = none) : xs = [] := by
  cases xs with
  | nil => rfl
  | cons x xs =>
    unfold leastO at h
    split at h <;> cases h
theorem leastO_le : ∀ {xs : List Int} {m : Int}, leastO xs = some m → m ∈ xs ∧ ∀ y ∈ xs, m ≤ y
  | [], _, h => by cases h
  | x :: xs, m, h => by
    unfold leastO at h
    cases e : leastO xs with
    | none =>
      rw [e] at h
      cases h
      rw [leastO_nil e]
      exact ⟨List.mem_cons_self, fun y hy => by rw [List.mem_singleton.mp hy]; exact Int.le_refl _⟩
    | some k =>
      rw [e] at h
      have h := Option.some.inj h
      obtain ⟨h1, h2⟩ := leastO_le e
      refine ⟨?_, fun y hy => ?_⟩
      · by_cases c : x ≤ k
        · rw [← h, Int.min_eq_left c]; exact List.mem_cons_self
        · rw [← h, Int.min_eq_right (by omega)]; exact List.mem_cons_of_mem _ h1
      · rcases List.mem_cons.mp hy with rfl | hy
        · omega
        · have := h2 y hy
          omega
theorem ev_minD {m : R (List Int)} (h : Ev (tList K tInt) te W σ F H m) : Ev (tOpt tInt) (tCKw (TLm.rMinD K) (tCons te tNil) (tCons (tC .non) tNil)) W σ F H (bd m fun xs => .ok (leastO xs)) := fun F1 H1 f1 Q q => by
  refine h F1 H1 f1 _ (post_imp (post_bd q) (fun xs _ k x F2 H2 f2 ⟨p, vs, ev, hs, rv⟩ => ⟨rfl, p, xs, by rw [ev], by rw [← paired_ints rv]; exact sqL_mono f2.s hs, fun z => ?_, fun m hm hl => ?_⟩) fun e _ z => z)
  · subst z
    exact k _ F2 H2 f2 rfl
  · cases e : leastO xs with
    | none =>
      rw [leastO_nil e] at hm
      cases hm
    | some y =>
      obtain ⟨h1, h2⟩ := leastO_le e
      have ey : y = m := by
        have := h2 m hm
        have := hl y h1
        omega
      subst ey
      exact k (.int y) F2 H2 f2 (by
        rw [e]
        exact ⟨fun z => V.noConfusion z, rfl⟩)
theorem ev_minL {m : R (List Int)} (h : Ev (tList K tInt) te W σ F H m) : Ev tInt (tCB (rMin K) (tCons te tNil)) W σ F H (bd m fun xs => fromSome (leastO xs)) :=
  ev_cb1 (ta := tList K tInt) (fun F H s x as ⟨p, vs, ev, hs, rv⟩ Q q => by
    cases e : leastO as with
    | none =>
      rw [e] at q
      exact q.elim
    | some y =>
      rw [e] at q
      obtain ⟨h1, h2⟩ := leastO_le e
      refine ⟨p, as, by rw [ev], by rw [← paired_ints rv]; exact sqL_mono s hs, List.length_pos_of_mem h1, fun m hm hl => ?_⟩
      have ey : y = m := by
        have := h2 m hm
        have := hl y h1
        omega
      subst ey
      exact q _ F H (Fr.refl s) rfl) (fun _ => calm_fromSome) h
/-! ### data -/
theorem d_int : IsD K tInt PyData.int 0 := ⟨fun {F v a} r => by
  have r : v = .int a := r
  subst r
  exact .int a, fun a => Nat.le_refl _⟩
theorem d_bool : IsD K tBool PyData.bool 0 := ⟨fun {F v a} r => by
  have r : v = .bl a := r
  subst r
  exact .bl a, fun a => Nat.le_refl _⟩
theorem d_str : IsD K tStr PyData.str 0 := ⟨fun {F v a} r => by
  have r : v = .str a := r
  subst r
  exact .str a, fun a => Nat.le_refl _⟩
def eOpt {α : Type} (e : α → PyData) : Option α → PyData
  | none => .none
  | some a => e a
theorem d_opt {e : α → PyData} {n : Nat} (d : IsD K ta e n) : IsD K (tOpt ta) (eOpt e) n := ⟨fun {F v a} r => by
  cases a with
  | none =>
    have r : v = .non := r
    subst r
    exact .non
  | some a => exact d.dp r.2, fun a => by
  cases a with
  | none => exact Nat.zero_le _
  | some a => exact d.dep a⟩
theorem dpAll {e : α → PyData} {n : Nat} (d : IsD K ta e n) : ∀ {vs : List V} {as : List α}, Paired (ta.rep F) vs as → DpAll K F vs (as.map e)
  | _, _, .nil => .nil
  | _, _, .cons h t => .cons (d.dp h) (dpAll d t)
theorem depAll {e : α → PyData} {n : Nat} (h : ∀ a, (e a).depth ≤ n) : ∀ as : List α, PyData.depthAll (as.map e) ≤ n
  | [] => Nat.zero_le _
  | a :: as => by
    show max (e a).depth (PyData.depthAll (as.map e)) ≤ n
    exact Nat.max_le.mpr ⟨h a, depAll h as⟩
theorem d_list {e : α → PyData} {n : Nat} (d : IsD K ta e n) : IsD K (tList K ta) (fun as => .list (as.map e)) (n + 1) := ⟨fun {F v a} ⟨p, vs, ev, hs, rv⟩ => by
  subst ev
  exact .lst hs (dpAll d rv), fun as => Nat.succ_le_succ (depAll d.dep as)⟩
theorem d_lst {e : α → PyData} {n : Nat} (d : IsD K ta e n) : IsD K (yList ta) (fun as => .list (as.map e)) (n + 1) := ⟨fun {F v a} ⟨p, vs, ev, hs, rv⟩ => (d_list d).dp (K := K) (a := a) (v := v) ⟨p, vs, ev, .inl (.inl hs), rv⟩, (d_list d).dep⟩
theorem d_tupL {e : α → PyData} {n : Nat} (d : IsD K ta e n) : IsD K (yTupL K ta) (fun as => .tuple (as.map e)) (n + 1) := ⟨fun {F v a} ⟨p, vs, ev, hs, rv⟩ => by
  subst ev
  exact .tup hs (dpAll d rv), fun as => Nat.succ_le_succ (depAll d.dep as)⟩
structure IsDA (K : PySem.W.Frag) (u : TyA α) (enc : α → List PyData) (n : Nat) : Prop where
  dp : ∀ {F vs a}, u.rep F vs a → DpAll K F vs (enc a)
  dep : ∀ a, PyData.depthAll (enc a) ≤ n
theorem da_one {e : α → PyData} {n : Nat} (d : IsD K ta e n) : IsDA K (aOne ta) (fun a => [e a]) n := ⟨fun {F vs a} ⟨v, ev, r⟩ => by
  subst ev
  exact .cons (d.dp r) .nil, fun a => Nat.max_le.mpr ⟨d.dep a, Nat.zero_le _⟩⟩
theorem da_cons {u : TyA β} {e : α → PyData} {es : β → List PyData} {n : Nat} (d : IsD K ta e n) (ds : IsDA K u es n) : IsDA K (aCons ta u) (fun a => e a.1 :: es a.2) n := ⟨fun {F vs a} ⟨v, ws, ev, r, rs⟩ => by
  subst ev
  exact .cons (d.dp r) (ds.dp rs), fun a => Nat.max_le.mpr ⟨d.dep a.1, ds.dep a.2⟩⟩
theorem d_tup {u : TyA α} {es : α → List PyData} {n : Nat} (d : IsDA K u es n) : IsD K (yTup K u) (fun a => .tuple (es a)) (n + 1) := ⟨fun {F v a} ⟨p, vs, ev, hs, rv⟩ => by
  subst ev
  exact .tup (.inl (.inl hs)) (d.dp rv), fun a => Nat.succ_le_succ (d.dep a)⟩
theorem d_up {e : α → PyData} {n m : Nat} (d : IsD K ta e n) (h : n ≤ m) : IsD K ta e m := ⟨d.dp, fun a => Nat.le_trans (d.dep a) h⟩
end
/-! ### names of the module -/
section
variable {X : Cx} {x : Str} {pos : Pos}
theorem pe_gi {i : Int} (h : ∃ t, X.mg x = some (.int i t)) (hg : Gl X x := by rfl) (hd : (x == ("__debug__" : Str)) = false := by decide) : PE X (.Name x pos) (tC (.int i)) := by
  obtain ⟨t, e⟩ := h
  exact pe_glob (v := .int i) hg e ⟨t, rfl⟩ hd
theorem pe_gs {z : Str} (h : ∃ t, X.mg x = some (.str z t)) (hg : Gl X x := by rfl) (hd : (x == ("__debug__" : Str)) = false := by decide) : PE X (.Name x pos) (tC (.str z)) := by
  obtain ⟨t, e⟩ := h
  exact pe_glob (v := .str z) hg e ⟨t, rfl⟩ hd
end
theorem bt_isinstance : bootBuiltins "isinstance" = some (.builtin "isinstance") := by decide +kernel
theorem bt_len : bootBuiltins "len" = some (.builtin "len") := by decide +kernel
theorem bt_max : bootBuiltins "max" = some (.builtin "max") := by decide +kernel
theorem bt_min : bootBuiltins "min" = some (.builtin "min") := by decide +kernel
theorem bt_sum : bootBuiltins "sum" = some (.builtin "sum") := by decide +kernel
theorem bt_all : bootBuiltins "all" = some (.builtin "all") := by decide +kernel
theorem bt_any : bootBuiltins "any" = some (.builtin "any") := by decide +kernel
theorem bt_list : bootBuiltins "list" = some (.type "list") := by decide +kernel
theorem bt_tuple : bootBuiltins "tuple" = some (.type "tuple") := by decide +kernel
theorem bt_int : bootBuiltins "int" = some (.type "int") := by decide +kernel
theorem bt_bool : bootBuiltins "bool" = some (.type "bool") := by decide +kernel
theorem bt_str : bootBuiltins "str" = some (.type "str") := by decide +kernel
end TL
/-! ## TL6: the same where nothing may go wrong; instances in the making; defs -/
namespace TL
open PySem PySem.Spec PyProof.Rows L2
section
variable {K : PySem.W.Frag} {W : WS} {σ : L2.St} {F H F' H' F0 H0 : Hp} {α β γ δ ρ S : Type} {ta : Ty α} {tb : Ty β} {tc : Ty γ} {te te1 te2 te3 : TE} {tt tt1 tt2 : TT} {v : V}
theorem ev_andP {a b : Bool} (h1 : Ev tBool te1 W σ F H (.ok a)) (h2 : Ev tBool te2 W σ F H (.ok b)) : Ev tBool (tAndV te1 te2) W σ F H (.ok (a && b)) := ev_is (ev_andV h1 h2) (by cases a <;> rfl)
theorem ev_orP {a b : Bool} (h1 : Ev tBool te1 W σ F H (.ok a)) (h2 : Ev tBool te2 W σ F H (.ok b)) : Ev tBool (tOrV te1 te2) W σ F H (.ok (a || b)) := ev_is (ev_orV h1 h2) (by cases a <;> rfl)
theorem et_andP {a b : Bool} (h1 : EvT tt1 W σ F H (.ok a)) (h2 : EvT tt2 W σ F H (.ok b)) : EvT (tAnd tt1 tt2) W σ F H (.ok (a && b)) := et_is (et_and h1 h2) (by cases a <;> rfl)
theorem et_orP {a b : Bool} (h1 : EvT tt1 W σ F H (.ok a)) (h2 : EvT tt2 W σ F H (.ok b)) : EvT (tOr tt1 tt2) W σ F H (.ok (a || b)) := et_is (et_or h1 h2) (by cases a <;> rfl)
theorem ev_ifP {c : Bool} {a b : α} (h : EvT tt W σ F H (.ok c)) (h1 : Ev ta te1 W σ F H (.ok a)) (h2 : Ev ta te2 W σ F H (.ok b)) : Ev ta (tIf tt te1 te2) W σ F H (.ok (if c = true then a else b)) := ev_is (ev_if h h1 h2) (by cases c <;> rfl)
theorem ev_chainP {r r' : R2} {f : α → β → Bool} {g : β → γ → Bool} {a : α} {b : β} {c : γ} (o : Op2 ta tb tBool r fun a b => .ok (f a b)) (o' : Op2 tb tc tBool r' fun a b => .ok (g a b)) (h1 : Ev ta te1 W σ F H (.ok a)) (h2 : Ev tb te2 W σ F H (.ok b)) (h3 : Ev tc te3 W σ F H (.ok c)) :
    Ev tBool (tChain r r' te1 te2 te3) W σ F H (.ok (f a b && g b c)) := ev_is (ev_chain o (fun _ _ => calm_ok) o' (fun _ _ => calm_ok) h1 h2 h3) (by
  show (if f a b = true then R.ok (g b c) else R.ok false) = R.ok (f a b && g b c)
  cases f a b <;> rfl)
theorem ev_mulC {c : Int} (hc : -(2 ^ 64) < c ∧ c < 2 ^ 64) {m1 : R Int} (h1 : Ev tInt te1 W σ F H m1) (h2 : Ev tInt te2 W σ F H (.ok c)) : Ev tInt (tOp (rI CMul fun i j => .int (i * j)) te1 te2) W σ F H (bd m1 fun a => .ok (a * c)) := ev_is (ev_mul h1 h2) (by
  cases m1 with
  | stuck => rfl
  | err e => rfl
  | ok a => exact if_pos (Or.inr hc))
theorem ev_mulD {c : Int} (hc : -(2 ^ 64) < c ∧ c < 2 ^ 64) {m2 : R Int} (h1 : Ev tInt te1 W σ F H (.ok c)) (h2 : Ev tInt te2 W σ F H m2) : Ev tInt (tOp (rI CMul fun i j => .int (i * j)) te1 te2) W σ F H (bd m2 fun b => .ok (c * b)) := ev_is (ev_mul h1 h2) (by
  cases m2 with
  | stuck => rfl
  | err e => rfl
  | ok a => exact if_pos (Or.inl hc))
theorem ev_divC {c : Int} (hc : 0 < c ∧ c < 1073741824) {m1 : R Int} (h1 : Ev tInt te1 W σ F H m1) (h2 : Ev tInt te2 W σ F H (.ok c)) : Ev tInt (tOp (rI CDiv fun i j => .int (i / j)) te1 te2) W σ F H (bd m1 fun a => .ok (a / c)) := ev_is (ev_div h1 h2) (by
  cases m1 with
  | stuck => rfl
  | err e => rfl
  | ok a => exact if_pos hc)
theorem ev_modC {c : Int} (hc : 0 < c) {m1 : R Int} (h1 : Ev tInt te1 W σ F H m1) (h2 : Ev tInt te2 W σ F H (.ok c)) : Ev tInt (tOp (rI (fun _ j => 0 < j) fun i j => .int (i % j)) te1 te2) W σ F H (bd m1 fun a => .ok (a % c)) := ev_is (ev_mod h1 h2) (by
  cases m1 with
  | stuck => rfl
  | err e => rfl
  | ok a => exact if_pos hc)
theorem ev_powC {a b c : Int} (hc : CPow a b) (e : a ^ b.toNat = c) (h1 : Ev tInt te1 W σ F H (.ok a)) (h2 : Ev tInt te2 W σ F H (.ok b)) : Ev tInt (tOp (rI CPow fun i j => .int (i ^ j.toNat)) te1 te2) W σ F H (.ok c) := ev_is (ev_pow h1 h2) (by
  show powR a b = _
  unfold powR
  rw [if_pos hc, e])
theorem s_aug {D : Ends} {γ : Type} {KK : γ → Prop} {XX : Exn → Prop} {i : Nat} {g : Int → Int → Int} {a : Int} {m : R Int} {f : Int → R γ} (hX : ∀ e, XX e → ∀ σ F' H', Fr F0 H0 F' H' → W e σ H') (fr : Fr F0 H0 F H) (hv : σ[i]? = some (some v)) (hr : tInt.rep F v a) (he : Ev tInt te W σ F H m) (hp : Post (bd (bd m fun b => .ok (g a b)) f) KK XX)
    (k : ∀ b v F' H', Fr F H F' H' → Fr F0 H0 F' H' → tInt.rep F' v (g a b) → Post (f (g a b)) KK XX → D.nx (σ.set i (some v)) H') : tAug i te (ipI g) D σ H :=
  ⟨v, hv, he F H (Fr.refl fr.s) _ (post_imp (post_bd (by rw [bd_assoc] at hp; exact hp)) (fun b e q w F' H' f' r => ⟨a, b, hr, r, k b _ F' H' f' (fr.trans f') rfl q⟩) fun e _ z F' H' f' => hX e z _ _ _ (fr.trans f'))⟩
/-! ### parts of lists -/
def cutG {α : Type} (xs : List α) (lo hi : Option Int) : List α := (xs.drop (HT.sIx xs.length 0 lo)).take (HT.sIx xs.length xs.length hi - HT.sIx xs.length 0 lo)
theorem paired_drop {P : V → α → Prop} : ∀ {vs : List V} {as : List α} (n : Nat), Paired P vs as → Paired P (vs.drop n) (as.drop n)
  | _, _, 0, r => r
  | _, _, _ + 1, .nil => .nil
  | _, _, n + 1, .cons _ t => paired_drop n t
theorem paired_take {P : V → α → Prop} : ∀ {vs : List V} {as : List α} (n : Nat), Paired P vs as → Paired P (vs.take n) (as.take n)
  | _, _, 0, _ => .nil
  | _, _, _ + 1, .nil => .nil
  | _, _, n + 1, .cons r t => .cons r (paired_take n t)
theorem paired_cut {P : V → α → Prop} {vs : List V} {as : List α} {lo hi : Option Int} (r : Paired P vs as) : Paired P (cutV vs lo hi) (cutG as lo hi) := by
  unfold cutV cutG
  rw [r.length]
  exact paired_take _ (paired_drop _ r)
def EvO (to : TO) (W : WS) (σ : L2.St) (F H : Hp) (m : R (Option Int)) : Prop := ∀ F1 H1, Fr F H F1 H1 → ∀ Q : Option Int → Hp → Prop, Post m (fun o => ∀ F2 H2, Fr F1 H1 F2 H2 → Q o H2) (fun e => ∀ F2 H2, Fr F1 H1 F2 H2 → W e σ H2) → to σ H1 Q
theorem eo_none : EvO tNoPart W σ F H (.ok none) := fun F1 H1 f1 Q q => q F1 H1 (Fr.refl f1.s)
theorem eo_some {m : R Int} (h : Ev tInt te W σ F H m) : EvO (tPart te) W σ F H (bd m fun i => .ok (some i)) := fun F1 H1 f1 Q q =>
  h F1 H1 f1 _ (post_imp (post_bd q) (fun i _ k x F2 H2 f2 rx => ⟨i, rx, k F2 H2 f2⟩) fun e _ z => z)
theorem el_slice {tl th : TO} {m : R (List α)} {ml mh : R (Option Int)} (h : Ev (tList K ta) te W σ F H m) (hl : EvO tl W σ F H ml) (hh : EvO th W σ F H mh) : EvL ta (tSl (rSlL K) te tl th) W σ F H (bd m fun xs => bd ml fun lo => bd mh fun hi => .ok (cutG xs lo hi)) := fun F1 H1 f1 Q q => by
  refine h F1 H1 f1 _ (post_imp (post_bd q) (fun xs _ q1 x F2 H2 f2 ⟨p, vs, ev, hs, rv⟩ => ?_) fun e _ z => z)
  refine hl F2 H2 (f1.trans f2) _ (post_imp (post_bd q1) (fun lo _ q2 F3 H3 f3 => ?_) fun e _ z F4 H4 f4 => z F4 H4 (f2.trans f4))
  refine hh F3 H3 ((f1.trans f2).trans f3) _ (post_imp (post_bd q2) (fun hi _ q3 F4 H4 f4 => ?_) fun e _ z F4 H4 f4 => z F4 H4 ((f2.trans f3).trans f4))
  have ff := (f2.trans f3).trans f4
  refine ⟨p, vs, ev, sqL_mono ((f3.f.trans f4.f).trans f4.s) hs, fun l hl' => q3 l _ F4 _ (ff.trans (Fr.fresh f4.s hl')) (ff.h.free hl') (f4.s.free hl') upd_same (paired_cut (paired_mono (f3.f.trans f4.f) rv))⟩
/-- len(set(xs)), at most one text -/
def lenSet1 (xs : List Str) : R Int := if xs.length ≤ 1 then .ok (xs.length : Int) else .stuck
theorem calm_lenSet1 {xs : List Str} : Calm (lenSet1 xs) := calm_ite calm_ok calm_stuck
theorem ev_lenSet1 {m : R (List Str)} (h : Ev (tList K tStr) te W σ F H m) : Ev tInt (tLenSet K te) W σ F H (bd m lenSet1) := fun F1 H1 f1 Q q =>
  h F1 H1 f1 _ (post_imp (post_bd q) (fun xs _ k x F2 H2 f2 ⟨p, vs, ev, hs, rv⟩ => by
    unfold lenSet1 at k
    by_cases hc : xs.length ≤ 1
    · rw [if_pos hc] at k
      exact ⟨p, xs, ev, .inl (by rw [← paired_strs rv]; exact sqL_mono f2.s hs), hc, k _ F2 H2 f2 rfl⟩
    · rw [if_neg hc] at k
      exact k.elim) fun e _ z => z)
/-! ### xs + ys -/
theorem paired_append {P : V → α → Prop} : ∀ {vs ws : List V} {as bs : List α}, Paired P vs as → Paired P ws bs → Paired P (vs ++ ws) (as ++ bs)
  | _, _, _, _, .nil, r => r
  | _, _, _, _, .cons h t, r => .cons h (paired_append t r)
theorem el_cat {m1 m2 : R (List α)} (h1 : Ev (yList ta) te1 W σ F H m1) (h2 : Ev (yList ta) te2 W σ F H m2) : EvL ta (tOp rCat te1 te2) W σ F H (bd m1 fun a => bd m2 fun b => catR a b) := fun F1 H1 f1 Q q => by
  refine h1 F1 H1 f1 _ (post_imp (post_bd q) (fun xs _ q1 x F2 H2 f2 ⟨p, vs, ev, hs, rv⟩ => ?_) fun e _ z => z)
  refine h2 F2 H2 (f1.trans f2) _ (post_imp (post_bd q1) (fun ys _ k y F3 H3 f3 ⟨r, ws, ew, hr, rw_⟩ => ?_) fun e _ z F4 H4 f4 => z F4 H4 (f2.trans f4))
  unfold catR at k
  by_cases hc : xs.length + ys.length ≤ 100000
  · rw [if_pos hc] at k
    have ff := f2.trans f3
    exact ⟨p, r, vs, ws, ev, ew, f3.s _ _ (f3.f _ _ hs), f3.s _ _ hr, small_line (by rw [rv.length, rw_.length]; exact hc), fun l hl => k l _ F3 _ (ff.trans (Fr.fresh f3.s hl)) (ff.h.free hl) (f3.s.free hl) upd_same (paired_append (paired_mono f3.f rv) rw_)⟩
  · rw [if_neg hc] at k
    exact k.elim
/-- where the state ends, nothing follows -/
theorem s_ret0 {m : R γ} {tg : Ty γ} {D : Ends} {KK : γ → Prop} {XX : Exn → Prop} (hX : ∀ e, XX e → ∀ σ F' H', Fr F0 H0 F' H' → W e σ H') (fr : Fr F0 H0 F H) (he : Ev tg te W σ F H m) (hp : Post m KK XX)
    (k : ∀ a v F' H', Fr F0 H0 F' H' → tg.rep F' v a → Post (.ok a) KK XX → D.rt v H') : tRet te D σ H :=
  he F H (Fr.refl fr.s) _ (post_imp hp (fun a e q v F' H' f' r => k a v F' H' (fr.trans f') r q) fun e _ z F' H' f' => hX e z _ _ _ (fr.trans f'))
theorem s_retL0 {m : R (List α)} {D : Ends} {KK : List α → Prop} {XX : Exn → Prop} (hX : ∀ e, XX e → ∀ σ F' H', Fr F0 H0 F' H' → W e σ H') (fr : Fr F0 H0 F H) (he : EvL ta te W σ F H m) (hp : Post m KK XX)
    (k : ∀ a v F' H', Fr F0 H0 F' H' → Own ta H0 F' H' v a → Post (.ok a) KK XX → D.rt v H') : tRet te D σ H :=
  he F H (Fr.refl fr.s) _ (post_imp hp (fun a e q p vs F' H' f' h1 hf h2 r => k a _ F' H' (fr.trans f') ⟨p, vs, rfl, fr.h.free h1, hf, h2, r⟩ q) fun e _ z F' H' f' => hX e z _ _ _ (fr.trans f'))
/-! ### an instance in the making -/
def Mkg (K : PySem.W.Frag) (x : Str) (H0 F H : Hp) (v : V) (names : List Str) (vs : List V) : Prop := ∃ p dx, v = .ref p ∧ H0 p = none ∧ F p = none ∧ H p = some (.ins (He.ga K x) dx (names.zip vs)) ∧ names.length = vs.length
theorem Mkg.mono {x : Str} {names : List Str} {vs : List V} (f : Fr F H F' H') (o : Mkg K x H0 F H v names vs) : Mkg K x H0 F' H' v names vs := by
  obtain ⟨p, dx, ev, h0, hf, hh, hl⟩ := o
  exact ⟨p, dx, ev, h0, f.n p hf (some_ne hh), f.h p _ hh, hl⟩
theorem putF_new {f : Str} {w : V} : ∀ {names : List Str} {vs : List V}, names.contains f = false → names.length = vs.length → putF f w (names.zip vs) = (names ++ [f]).zip (vs ++ [w])
  | [], [], _, _ => rfl
  | [], _ :: _, _, h => by cases h
  | _ :: _, [], _, h => by cases h
  | n :: ns, u :: us, h, hl => by
    have h2 : (f == n || ns.contains f) = false := by simpa [List.contains_cons] using h
    obtain ⟨h3, h4⟩ := Bool.or_eq_false_iff.mp h2
    have h5 : ¬ n = f := fun z => by
      rw [z] at h3
      simp at h3
    show (if n = f then (n, w) :: ns.zip us else (n, u) :: putF f w (ns.zip us)) = _
    rw [if_neg h5, putF_new h4 (by simpa using hl)]
    rfl
/-- self.f = e -/
theorem s_fldI {D : Ends} {γ : Type} {KK : γ → Prop} {XX : Exn → Prop} {i : Nat} {x f : Str} {names : List Str} {vs : List V} {m : R α} {g : α → R γ} (hX : ∀ e, XX e → ∀ σ F' H', Fr F0 H0 F' H' → W e σ H') (fr : Fr F0 H0 F H) (hv : σ[i]? = some (some v)) (o : Mkg K x H0 F H v names vs)
    (c : Cls K (He.ga K x)) (na : NoAttr K (He.ga K x) f) (hn : names.contains f = false) (hl : names.length < 1000) (he : Ev ta te W σ F H m) (hp : Post (bd m g) KK XX)
    (k : ∀ a w F' H', Same F F' → Fr F0 H0 F' H' → ta.rep F' w a → Mkg K x H0 F' H' v (names ++ [f]) (vs ++ [w]) → Post (g a) KK XX → D.nx σ H') : sFld K (tVar i) te f D σ H := by
  obtain ⟨p, dx, ev, h0, hf, hh, hlen⟩ := o
  subst ev
  refine he F H (Fr.refl fr.s) _ (post_imp (post_bd hp) (fun a e q w F1 H1 f1 r => ⟨_, hv, p, _, dx, _, rfl, f1.h p _ hh, c, na, ?_, ?_⟩) fun e _ z F' H' f' => hX e z _ _ _ (fr.trans f'))
  · rw [List.length_zip]
    omega
  · have hf1 := f1.n p hf (some_ne hh)
    refine k a w F1 _ f1.f ((fr.trans f1).mut h0 hf1) r ⟨p, dx, rfl, h0, hf1, ?_, by rw [List.length_append, List.length_append, hlen] <;> rfl⟩ q
    rw [putF_new hn hlen]
    exact upd_same
/-- the promise of an __init__ that sets its fields once -/
def SpI (K : PySem.W.Frag) (x : Str) (names : List Str) (u : TyA α) (t : TyA β) (m : α → R β) : Sp := fun vs H Q E => ∃ F Hb a v ws, vs = v :: ws ∧ Fr F Hb F H ∧ Same F Hb ∧ Mkg K x Hb F H v [] [] ∧ u.rep F ws a ∧
  Post (m a) (fun b => ∀ us F' H', Fr F Hb F' H' → Mkg K x Hb F' H' v names us → t.rep F' us b → Q .non H') (fun e => ∀ F' H', Fr F Hb F' H' → XS K E e H')
theorem spI_len {x : Str} {names : List Str} {u : TyA α} {t : TyA β} {m : α → R β} : ∀ vs H Q E, SpI K x names u t m vs H Q E → vs.length = u.len + 1 := fun vs H Q E ⟨F, Hb, a, v, ws, e, _, _, _, r, _⟩ => by rw [e, List.length_cons, u.hlen r]
theorem ev_make {x : Str} {names : List Str} {u : TyA α} {t : TyA β} {g : α → R β} {m : R α} {tx : TA} {E : XK} (hw : ∀ e H, W e σ H → XS K E e H) (h : EvA u tx W σ F H m) : Ev (tObj K x names t) (tMake (He.ga K x) (SpI K x names u t g) [] E tx) W σ F H (bd m g) := fun F1 H1 f1 Q q =>
  h F1 H1 f1 _ (post_imp (post_bd q) (fun a _ k vs F2 H2 f2 rv p dx hp hd hne => by
    have fa : Fr F2 H2 F2 (upd (upd H2 dx (.own p)) p (.ins (He.ga K x) dx [])) := by
      have a1 := Fr.fresh (o := .own p) f2.s hd
      refine a1.trans (Fr.fresh a1.s ?_)
      rw [upd_ne (Ne.symm hne)]
      exact hp
    refine ⟨F2, H2, a, .ref p, vs, by rw [List.append_nil], fa, f2.s, ⟨p, dx, rfl, hp, f2.s.free hp, upd_same, rfl⟩, rv, post_imp k (fun b _ k2 us F3 H3 f3 mk r => ⟨rfl, ?_⟩) fun e _ z F3 H3 f3 => ?_⟩
    · obtain ⟨p', dx', ev, h0, hf, hh, hl⟩ := mk
      cases ev
      exact k2 _ _ _ ((f2.trans f3).freeze (f2.h.free h0) hh hf) ⟨p, dx', us, rfl, upd_same, t.mono (same_upd hf) r⟩
    · exact hw _ _ (z F3 H3 (f2.trans f3))) fun e _ z => z)
/-! ### the module's classes as makers -/
structure MakX (P : Program) (w : World) (K : PySem.W.Frag) (mg : Str → Option Value) (base : Heap) (k : Nat) (x : Str) (sp : Sp) : Prop where
  ex : ∃ (f : Addr) (fd : FuncData) (ps : List Str), Mk K (He.ga K x) f ∧ FnOk P w K mg base (L2.CX P w) k f fd ps sp ∧ mg x = some (.ref (He.ga K x)) ∧ Binds K fd ps []
end
section
variable {X : Cx} {j k : Nat} {x : Str} {sp : Sp} {E : XK} {p pos : Pos} {e : Expr} {es : List Expr} {t : TA}
theorem pe_kx (c : MakX X.prog X.w X.K X.mg X.base k x sp) (hr : Room j X.A) (hk : k + 1 ≤ j) (hx : Passes (L2.CX X.prog X.w) X E) (ha : PA X (e :: es) t) (hg : Gl X x := by rfl) (hdb : (x == ("__debug__" : Str)) = false := by decide)
    (he : starEach (e :: es) X.env = (false, eval e X.env) :: starEach es X.env := by rfl) (hpl : (backTo pos (starEach es X.env)).any (·.1) = false := by rfl) : PE X (.Call (.Name x p) (e :: es) [] pos) (tMake (He.ga X.K x) sp [] E t) := by
  obtain ⟨f, fd, ps, M, F, hm, hb⟩ := c.ex
  exact pe_make M F (hr.mono hk) hg hm hb .nil hx ha hdb he hpl
end
end TL
/-! ## TL7: joins, texts, members -/
namespace TL
open PySem PySem.Spec PyProof.Rows L2
section
variable {K : PySem.W.Frag} {W : WS} {σ : L2.St} {F H F' H' F0 H0 : Hp} {α β γ δ ρ S : Type} {ta : Ty α} {tb : Ty β} {tc : Ty γ} {te te1 te2 te3 : TE} {tt tt1 tt2 : TT} {v : V} {D : Ends} {KK : γ → Prop} {XX : Exn → Prop}
theorem st_go {P B C : L2.St → Hp → Prop} {A : VK} (h : P σ H) : (Ends.mk P A B C).nx σ H := h
theorem st_gn {i : Nat} {Q : L2.St → Hp → Prop} (h : Q (σ.set i (some v)) H) : gName i v σ H Q := h
theorem et_yes : EvT tYes W σ F H (.ok true) := fun F1 H1 f1 Q q => q F1 H1 (Fr.refl f1.s)
theorem s_join {m : R Bool} {A B : R S} {rest : S → R γ} {t1 t2 : TS} (St : S → L2.St → Hp → Hp → Prop) (hX : ∀ e, XX e → ∀ σ F' H', Fr F0 H0 F' H' → W e σ H') (fr : Fr F0 H0 F H) (he : EvT tt W σ F H m) (hp : Post (bd (bd m fun c => if c = true then A else B) rest) KK XX)
    (k1 : ∀ (D' : Ends) (K' : S → Prop) F' H', D'.rt = D.rt → D'.bk = D.bk → D'.ct = D.ct → Fr F H F' H' → Fr F0 H0 F' H' → Post A K' XX → (∀ s σ2 F2 H2, Same F' F2 → St s σ2 F2 H2 → K' s → D'.nx σ2 H2) → t1 D' σ H')
    (k2 : ∀ (D' : Ends) (K' : S → Prop) F' H', D'.rt = D.rt → D'.bk = D.bk → D'.ct = D.ct → Fr F H F' H' → Fr F0 H0 F' H' → Post B K' XX → (∀ s σ2 F2 H2, Same F' F2 → St s σ2 F2 H2 → K' s → D'.nx σ2 H2) → t2 D' σ H')
    (k3 : ∀ s σ2 F2 H2, Same F F2 → St s σ2 F2 H2 → Post (rest s) KK XX → D.nx σ2 H2) : tIfS tt t1 t2 D σ H := by
  rw [bd_assoc] at hp
  refine he F H (Fr.refl fr.s) _ (post_imp (post_bd hp) (fun c e q F' H' f' => ?_) fun e _ z F' H' f' => hX e z _ _ _ (fr.trans f'))
  cases c with
  | true => exact k1 D (fun s => Post (rest s) KK XX) F' H' rfl rfl rfl f' (fr.trans f') (post_bd q) fun s σ2 F2 H2 sm st k => k3 s σ2 F2 H2 (f'.f.trans sm) st k
  | false => exact k2 D (fun s => Post (rest s) KK XX) F' H' rfl rfl rfl f' (fr.trans f') (post_bd q) fun s σ2 F2 H2 sm st k => k3 s σ2 F2 H2 (f'.f.trans sm) st k
def enumG (xs : List α) : List (Int × α) := xs.zipIdx.map fun p => ((p.2 : Int), p.1)
def bI (b : Bool) : Int := if b then 1 else 0
theorem ev_lenT {u : TyA α} {n : Nat} (hn : u.len = n) {m : R α} (h : Ev (yTup K u) te W σ F H m) : Ev tInt (tCB (rLen K) (tCons te tNil)) W σ F H (bd m fun _ => .ok (n : Int)) :=
  ev_cb1 (ta := yTup K u) (fun F H s x a ⟨p, vs, ex, hs, rv⟩ Q q => ⟨_, vs.length, rfl, by rw [ex]; exact .inr ⟨vs, .inl (.inl (s _ _ hs)), rfl⟩, q _ F H (Fr.refl s) (by show V.int _ = V.int _; rw [u.hlen rv, hn])⟩) (fun _ => calm_ok) h
theorem ev_intB {m : R Bool} (h : Ev tBool te W σ F H m) : Ev tInt (tCB (fun xs H Q => (∃ i, xs = [.int i] ∧ Q (.int i) H) ∨ ∃ k, xs = [.bl k] ∧ Q (.int (if k then 1 else 0)) H) (tCons te tNil)) W σ F H (bd m fun b => .ok (bI b)) :=
  ev_cb1 (fun F H s x a r Q q => .inr ⟨a, by rw [show x = .bl a from r], q _ F H (Fr.refl s) rfl⟩) (fun _ => calm_ok) h
/-! ### one sign in a text -/
def inSR (x z : Str) : R Bool := match x.cps.toList with
  | [c] => .ok (decide (c ∈ z.cps.toList))
  | _ => .stuck
def notInSR (x z : Str) : R Bool := match x.cps.toList with
  | [c] => .ok (!decide (c ∈ z.cps.toList))
  | _ => .stuck
theorem calm_inSR {x z : Str} : Calm (inSR x z) := by
  unfold inSR
  split
  · exact calm_ok
  · exact calm_stuck
theorem calm_notInSR {x z : Str} : Calm (notInSR x z) := by
  unfold notInSR
  split
  · exact calm_ok
  · exact calm_stuck
theorem one_sign {x : Str} {c : Nat} (h : x.cps.toList = [c]) : x = ⟨#[c]⟩ := by
  obtain ⟨a⟩ := x
  have e : a = #[c] := by
    have h : a.toList = [c] := h
    rw [← h]
  rw [e]
theorem ev_inS {m1 m2 : R Str} (h1 : Ev tStr te1 W σ F H m1) (h2 : Ev tStr te2 W σ F H m2) : Ev tBool (tOp rInS te1 te2) W σ F H (bd m1 fun a => bd m2 fun b => inSR a b) :=
  ev_op (op2_pure fun F H s x y a b ra rb Q q => by
    unfold inSR at q
    split at q
    · rename_i c hc
      exact ⟨c, b, by rw [show x = .str a from ra, one_sign hc], rb, q _ rfl⟩
    · exact q.elim) (fun _ _ => calm_inSR) h1 h2
theorem ev_notInS {m1 m2 : R Str} (h1 : Ev tStr te1 W σ F H m1) (h2 : Ev tStr te2 W σ F H m2) : Ev tBool (tOp rNotInS te1 te2) W σ F H (bd m1 fun a => bd m2 fun b => notInSR a b) :=
  ev_op (op2_pure fun F H s x y a b ra rb Q q => by
    unfold notInSR at q
    split at q
    · rename_i c hc
      exact ⟨c, b, by rw [show x = .str a from ra, one_sign hc], rb, q _ rfl⟩
    · exact q.elim) (fun _ _ => calm_notInSR) h1 h2
end
section
variable {X : Cx} {e : Expr} {te : TE} {p kp q pos : Pos} {j : Nat}
theorem pe_minD (hc : X.calm = true) (hm : X.mg "min" = none) (he : PE X e te) (hg : Gl X "min" := by rfl) (h0 : starEach [e] X.env = (false, eval e X.env) :: starEach [] X.env := by rfl)
    (h1 : backTo pos (starEach [e] X.env) = (false, eval e X.env) :: backTo pos (starEach [] X.env) := by rfl) (h2 : (backTo pos (starEach [e] X.env)).any (·.1) = false := by rfl) :
    PE X (.Call (.Name "min" p) [e] [⟨some (Str.ofString "default"), .Constant .none j q, kp⟩] pos) (tCKw (TLm.rMinD X.K) (tCons te tNil) (tCons (tC .non) tNil)) :=
  pe_callBK (TLm.cr_minD hc) hg hm bt_min (pa_cons he pa_nil h0) (pk_cons pe_non pk_nil) (by decide) (by decide) h1 h2 (by rfl) (by rfl) (by rfl)
end
end TL
/-! ## TL8: rules with the written part K said (within comprehensions the context's own K is no name) -/
namespace TL
open PySem PySem.Spec PyProof.Rows L2
section
variable {X : Cx} {K : PySem.W.Frag}
theorem kx_list (h : X.K = K) : IxR X (rIxL K) := h ▸ ix_list
theorem kx_tup (h : X.K = K) : IxR X (rIxT K) := h ▸ ix_tup
theorem ks_list (h : X.K = K) : SlR X (rSlL K) := h ▸ sl_list
theorem ko_eqD (h : X.K = K) (hu : X.A.units + 64 < cLine) : OpR X (compareOp .Eq) (rEqD K) := h ▸ op_eqD hu
theorem ko_neD (h : X.K = K) (hu : X.A.units + 64 < cLine) : OpR X (compareOp .NotEq) (rNeD K) := h ▸ op_neD hu
theorem ko_in (h : X.K = K) : OpR X (compareOp .In) (rIn K false) := h ▸ op_in_seq
theorem ko_notIn (h : X.K = K) : OpR X (compareOp .NotIn) (rIn K true) := h ▸ op_notIn_seq
theorem kc_isi (h : X.K = K) : CallR X (.builtin "isinstance") (rIsi K) := h ▸ call_isi
theorem kc_len (h : X.K = K) : CallR X (.builtin "len") (rLen K) := h ▸ call_len
theorem kc_all (h : X.K = K) (hc : X.calm = true) : CallR X (.builtin "all") (rAll K) := h ▸ cr_all hc
theorem kc_any (h : X.K = K) (hc : X.calm = true) : CallR X (.builtin "any") (rAny K) := h ▸ cr_any hc
theorem kc_sum (h : X.K = K) (hc : X.calm = true) : CallR X (.builtin "sum") (rSum K) := h ▸ cr_sum hc
theorem kc_min (h : X.K = K) (hc : X.calm = true) : CallR X (.builtin "min") (rMin K) := h ▸ cr_min hc
theorem kc_list (h : X.K = K) : CallR X (.type "list") (rListS K) := h ▸ call_list_of
theorem kc_tuple (h : X.K = K) : CallR X (.type "tuple") (rTupS K) := h ▸ call_tuple_of
end
section
variable {X : Cx} {K : PySem.W.Frag} {e : Expr} {te : TE} {f : Str} {p q kp pos : Pos} {j : Nat}
theorem pe_fldK (h : X.K = K) (he : PE X e te) (hb : attributeBase e f X.env (eval e X.env) = eval e X.env := by rfl) : PE X (.Attribute e f pos) (tFld K te f) := by
  subst h
  exact pe_fld he hb
theorem pe_minDK (h : X.K = K) (hc : X.calm = true) (hm : X.mg "min" = none) (he : PE X e te) (hg : Gl X "min" := by rfl) (h0 : starEach [e] X.env = (false, eval e X.env) :: starEach [] X.env := by rfl)
    (h1 : backTo pos (starEach [e] X.env) = (false, eval e X.env) :: backTo pos (starEach [] X.env) := by rfl) (h2 : (backTo pos (starEach [e] X.env)).any (·.1) = false := by rfl) :
    PE X (.Call (.Name "min" p) [e] [⟨some (Str.ofString "default"), .Constant .none j q, kp⟩] pos) (tCKw (TLm.rMinD K) (tCons te tNil) (tCons (tC .non) tNil)) := by
  subst h
  exact pe_minD hc hm he hg h0 h1 h2
theorem pi_listK {tg : Expr} (h : X.K = K) (he : PE X e te) : PI X tg e (iList K te) := by
  subst h
  exact pi_list he
theorem pi_tupK {tg : Expr} (h : X.K = K) (he : PE X e te) : PI X tg e (iTup K te) := by
  subst h
  exact pi_tup he
theorem pg_tupK {es : List Expr} {k n : Nat} {t : TGs} (h : X.K = K) (hc : X.calm = true) (ht : PGs X es t) (hn : (assignEach es X.env).length = n := by rfl) (hst : (assignEach es X.env).findIdx? (·.1) = none := by rfl) : PG X (.Tuple es k pos) (gTup K n t) := by
  subst h
  exact pg_tup hc ht hn hst
theorem pe_lenSetK {a : Expr} {ta : TE} {p2 : Pos} (h : X.K = K) (hc : X.calm = true) (hm : X.mg "len" = none) (hm2 : X.mg "set" = none) (ha : PE X a ta) (hg : Gl X "len" := by rfl) (hg2 : Gl X "set" := by rfl)
    (na : starEach [a] X.env = (false, eval a X.env) :: starEach [] X.env := by rfl) : PE X (.Call (.Name "len" p) [.Call (.Name "set" p2) [a] [] q] [] pos) (tLenSet K ta) := by
  subst h
  exact pe_lenSet hc hg hm hg2 hm2 ha na
theorem pi_zipK {e2 : Expr} {ta : TA} {tpos : Pos} {elts : List Expr} {kk : Nat} (h : X.K = K) (hm : X.mg "zip" = none) (ha : PA X [e, e2] ta) (hg : Gl X "zip" := by rfl)
    (hs : starEach [e, e2] X.env = (false, eval e X.env) :: starEach [e2] X.env := by rfl) (hpl : (backTo pos (starEach [e2] X.env)).any (·.1) = false := by rfl) : PI X (.Tuple elts kk tpos) (.Call (.Name "zip" p) [e, e2] [] pos) (iZip K ta) := by
  subst h
  exact pi_zip hg hm ha hs hpl
theorem pi_enumK {ta : TA} {tpos : Pos} {elts : List Expr} {kk : Nat} (h : X.K = K) (hm : X.mg "enumerate" = none) (ha : PA X [e] ta) (hg : Gl X "enumerate" := by rfl) (hs : starEach [e] X.env = [(false, eval e X.env)] := by rfl) :
    PI X (.Tuple elts kk tpos) (.Call (.Name "enumerate" p) [e] [] pos) (iEnum K ta) := by
  subst h
  exact pi_enum hg hm ha hs
end
section
variable {X : Cx} {K : PySem.W.Frag} {j k : Nat} {C m x : Str} {sp : Sp} {E : XK} {o e : Expr} {es : List Expr} {apos p pos : Pos} {ta : TE} {t : TA}
theorem pe_mxK {pl : Sem Bool} (h : X.K = K) (he : PE X o ta) (c : MetX X.prog X.w K X.mg X.base k C m sp) (hr : Room j X.A) (hk : k ≤ j) (hx : Passes (L2.CX X.prog X.w) X E) (ha : PA X (e :: es) t)
    (hst : starEach (e :: es) X.env = (false, eval e X.env) :: starEach es X.env := by rfl) (hpl : (backTo pos (starEach es X.env)).any (·.1) = false := by rfl)
    (ht : eval (.Call (.Attribute o m apos) (e :: es) [] pos) X.env = (do
      let ov ← eval o X.env
      standAt apos.atName
      let (f, first) ← holding [ov] (getMethod ov m pl)
      callWith pos f first (backTo pos (starEach (e :: es) X.env)) (backToKw pos (keywordEach [] X.env))) := by rfl) :
    PE X (.Call (.Attribute o m apos) (e :: es) [] pos) (tMeth (He.ga K C) m sp [] E ta t) := by
  subst h
  exact pe_mx he c hr hk hx ha hst hpl ht
theorem pe_mx0K {pl : Sem Bool} (h : X.K = K) (he : PE X o ta) (c : MetX X.prog X.w K X.mg X.base k C m sp) (hr : Room j X.A) (hk : k ≤ j) (hx : Passes (L2.CX X.prog X.w) X E)
    (ht : eval (.Call (.Attribute o m apos) [] [] pos) X.env = (do
      let ov ← eval o X.env
      standAt apos.atName
      let (f, first) ← holding [ov] (getMethod ov m pl)
      callWith pos f first (backTo pos (starEach [] X.env)) (backToKw pos (keywordEach [] X.env))) := by rfl) :
    PE X (.Call (.Attribute o m apos) [] [] pos) (tMeth (He.ga K C) m sp [] E ta tNil) := by
  subst h
  exact pe_mx0 he c hr hk hx ht
theorem pe_kxK (h : X.K = K) (c : MakX X.prog X.w K X.mg X.base k x sp) (hr : Room j X.A) (hk : k + 1 ≤ j) (hx : Passes (L2.CX X.prog X.w) X E) (ha : PA X (e :: es) t) (hg : Gl X x := by rfl) (hdb : (x == ("__debug__" : Str)) = false := by decide)
    (he : starEach (e :: es) X.env = (false, eval e X.env) :: starEach es X.env := by rfl) (hpl : (backTo pos (starEach es X.env)).any (·.1) = false := by rfl) : PE X (.Call (.Name x p) (e :: es) [] pos) (tMake (He.ga K x) sp [] E t) := by
  subst h
  exact pe_kx c hr hk hx ha hg hdb he hpl
theorem pe_cxK (h : X.K = K) (c : CalX X.prog X.w K X.mg X.base k x sp) (hr : Room j X.A) (hk : k ≤ j) (hx : Passes (L2.CX X.prog X.w) X E) (ha : PA X (e :: es) t) (hg : Gl X x := by rfl) (hdb : (x == ("__debug__" : Str)) = false := by decide)
    (he : starEach (e :: es) X.env = (false, eval e X.env) :: starEach es X.env := by rfl) (hpl : (backTo pos (starEach es X.env)).any (·.1) = false := by rfl) : PE X (.Call (.Name x p) (e :: es) [] pos) (tCall sp [] E t) := by
  subst h
  exact pe_cx c hr hk hx ha hg hdb he hpl
theorem st_nextS {t1 t2 : TS} {D : Ends} {σ : L2.St} {H : Hp} (h : t1 { D with nx := t2 D } σ H) : tNext { D with nx := tSeq t1 t2 D } σ H := h
end
end TL
/-! ## TL9: the law's own def, the ending -/
namespace TL
open PySem PySem.Spec PyProof.Rows L2
/-- the law's def, over every base -/
structure LawX (P : Program) (w : World) (K : PySem.W.Frag) (mg : Str → Option Value) (k : Nat) (x y : Str) (sp : Sp) : Prop where
  ex : ∃ (f : Addr) (fd : FuncData), (∀ base : Heap, FnOk P w K mg base (L2.CX P w) k f fd [y] sp) ∧ mg x = some (.ref f) ∧ ∀ (s : Shared) (u : Value), BindsTo s fd ⟨[u], []⟩ [(y, u)]
section
variable {K : PySem.W.Frag} {x qual y : Str} {params : Arguments} {body : List Stmt} {scope : Scope} {kws : List (Str × V)} {f : Addr} {fd : FuncData}
theorem lawBinds (F : FunD K x qual params body scope [] kws f fd)
    (h : ∀ (kV doc pm : Value) (an : Option Addr) (cdv ct u : Value), bindArgs (PySem.W.fnOf x qual params body scope .none kV doc pm an cdv ct) ⟨[u], []⟩ = pure [(y, u)]) (s : Shared) (u : Value) : BindsTo s fd ⟨[u], []⟩ [(y, u)] := by
  obtain ⟨oc, od, dV, kV, doc, pm, an, cdv, ct, osl, rfl, lk, hcd, hD, hK⟩ := F.ex
  rcases hD with ⟨_, rfl⟩ | ⟨e, _⟩
  · exact .of_eq (h kV doc pm an cdv ct u)
  · exact absurd rfl e
theorem paired_of_ints {F : Hp} : ∀ ns : List Int, Paired (tInt.rep F) (ns.map V.int) ns
  | [] => .nil
  | _ :: ns => .cons rfl (paired_of_ints ns)
/-- the end: the walk gives the promise, the plain law that the mirror answers True -/
theorem law_end {l : PySem.W.OpenLaw} {n k nn : Nat} {q : Program} {loose : List Str} {XP : (Str → Option Value) → Heap → Prop} {d : DefRec} {fa : List He.Fa} {fn : List He.DefD} {m : List Int → R Bool}
    (hn : l.most = some n) (hn2 : n ≤ sizeLine) (hdf : d.params.defaults = []) (hr : Room k callerA)
    (F : ∀ (w : World) (K : PySem.W.Frag) (mg : Str → Option Value) (h : Heap), K.In h → h.Ns mainGlobals mg → He.SaysD fa fn K → LawX l.prog w K mg k d.name y (SpF K (aOne (tList K tInt)) tBool m))
    (M : ∀ ns : List Int, ns.length ≤ n → m ns = .ok true) :
    PySem.W.WalkO q loose XP (He.hookD nn fa fn).says l.row.toRowW d [] (fun f vs => PySem.call f vs) := by
  refine Att.attach_call hn hdf fun w s₀ s₁ mg mb f o pm cd doc a vs ns G Y ho hd hcd hmg hobj hints hlen hg => ?_
  obtain ⟨K, KX, hs⟩ := Y
  obtain ⟨f2, fd, hF, hm2, hb⟩ := (F w K mg _ KX G.T.g hs).ex
  obtain rfl : f2 = f := by
    rw [hmg] at hm2
    injection hm2 with z
    injection z with z
    exact z.symm
  refine law_call (sp := SpF K (aOne (tList K tInt)) tBool m) KX G.T.g G.T.b G.T.builtins G.T.nolimit hg hobj hints (Nat.le_trans hlen hn2) hr (fun base _ _ => hF base) hb (fun H hO hS => ?_) fun H e s' z => ?_
  · refine ⟨H, ns, Same.refl H, ⟨_, rfl, a, ns.map V.int, rfl, hS, paired_of_ints ns⟩, ?_⟩
    rw [M ns hlen]
    exact fun v F' H' _ r => r
  · obtain ⟨_, _, _, _, _, _, _, _, _, _, _, _, z⟩ := z
    exact z
end
end TL
/-! ## TL10: more rules: range downwards, isinstance of what may be None -/
namespace TL
open PySem PySem.Spec PyProof.Rows L2
section
variable {K : PySem.W.Frag} {W : WS} {σ : L2.St} {F H F' H' F0 H0 : Hp} {α β γ δ ρ S : Type} {ta : Ty α} {tb : Ty β} {tc : Ty γ} {te te1 te2 te3 : TE} {v : V}
/-- range(a, b, -1) -/
def rangeDL (a b : Int) : List Int := (List.range (a - b).toNat).map fun (i : Nat) => a + (i : Int) * (-1)
theorem rangeDL_len {a b : Int} : (rangeDL a b).length = (a - b).toNat := by
  unfold rangeDL
  rw [List.length_map, List.length_range]
theorem rangeDL_get {a b x : Int} {i : Nat} (h : (rangeDL a b)[i]? = some x) : i < (a - b).toNat ∧ x = a + (i : Int) * (-1) := by
  unfold rangeDL at h
  rw [List.getElem?_map] at h
  by_cases hi : i < (a - b).toNat
  · rw [List.getElem?_range hi] at h
    exact ⟨hi, (Option.some.inj h).symm⟩
  · rw [List.getElem?_eq_none (by rw [List.length_range]; omega)] at h
    cases h
def rangeDR (a b : Int) : R (List Int) := if In62 a ∧ In62 b then .ok (rangeDL a b) else .stuck
theorem iter_rangeD {a b : Int} {Fe : Hp} : IterOk tInt (Itc a (-1) (a - b).toNat) Fe (rangeDL a b) := fun F3 H3 s3 s4 i => by
  refine ⟨fun h => ?_, fun x hx => ?_⟩
  · rw [rangeDL_len] at h
    exact h
  · obtain ⟨h1, h2⟩ := rangeDL_get hx
    refine ⟨h1, fun v H' ⟨e, hv⟩ => ?_⟩
    subst e
    exact ⟨F3, Fr.refl s4, by rw [h2]; exact hv⟩
theorem ei_rangeD {m1 m2 : R Int} (h1 : Ev tInt te1 W σ F H m1) (h2 : Ev tInt te2 W σ F H m2) (h3 : Ev tInt te3 W σ F H (.ok (-1))) : EvI tInt (iRng3 (tCons te1 (tCons te2 (tCons te3 tNil)))) W σ F H (bd m1 fun a => bd m2 fun b => rangeDR a b) := fun F1 H1 f1 Rr q => by
  refine h1 F1 H1 f1 _ (post_imp (post_bd q) (fun a _ q1 x F2 H2 f2 rx => ?_) fun e _ z => z)
  refine h2 F2 H2 (f1.trans f2) _ (post_imp (post_bd q1) (fun b _ k y F3 H3 f3 ry => ?_) fun e _ z F4 H4 f4 => z F4 H4 (f2.trans f4))
  refine h3 F3 H3 ((f1.trans f2).trans f3) _ ?_
  intro z F4 H4 f4 rz
  unfold rangeDR at k
  by_cases hc : In62 a ∧ In62 b
  · rw [if_pos hc] at k
    exact ⟨a, b, -1, _, by rw [show x = .int a from rx, show y = .int b from ry, show z = .int (-1) from rz], RgC.neg hc.1.1 hc.1.2 hc.2.1 hc.2.2, k _ F4 H4 ((f2.trans f3).trans f4) iter_rangeD⟩
  · rw [if_neg hc] at k
    exact k.elim
/-- isinstance of what may be None -/
theorem ev_isiO {T U : String} {b bn : Bool} (y : IsTy K ta T) (k : kitB T U = some b) (kn : kitB "NoneType" U = some bn) {m : R (Option α)} (h : Ev (tOpt ta) te W σ F H m) :
    Ev tBool (tCB (rIsi K) (tCons te (tCons (tC (.ty U)) tNil))) W σ F H (bd m fun o => .ok (if Option.isNone o = true then bn else b)) := fun F1 H1 f1 Q q =>
  h F1 H1 f1 _ (post_imp (post_bd q) (fun a _ k1 x F2 H2 f2 rx => by
    cases a with
    | none =>
      have rx : x = .non := rx
      subst rx
      exact ⟨.non, .ty U, _, _, bn, rfl, .ty U, .base .non, kit_ty kn, k1 _ F2 H2 f2 rfl⟩
    | some a => exact ⟨x, .ty U, _, _, b, rfl, .ty U, y F2 H2 x a f2.s rx.2, kit_ty k, k1 _ F2 H2 f2 rfl⟩) fun e _ z => z)
theorem ev_isiO1 {T U : String} {b : Bool} (y : IsTy K ta T) (k : kitB T U = some b) (kn : kitB "NoneType" U = some b) {m : R (Option α)} (h : Ev (tOpt ta) te W σ F H m) :
    Ev tBool (tCB (rIsi K) (tCons te (tCons (tC (.ty U)) tNil))) W σ F H (bd m fun _ => .ok b) := ev_is (ev_isiO y k kn h) (by
  cases m with
  | ok o => cases o <;> rfl
  | _ => rfl)
end
end TL
/-! ## TL11: repr; defs that ask it stand where no repr is under way -/
namespace TL
open PySem PySem.Spec PyProof.Rows L2
/-- room, and no repr is under way -/
structure RoomG (k : Nat) (A : Around) : Prop where
  rm : Room k A
  gd : A.guards = some []
theorem RoomG.deeper {k : Nat} {A : Around} (r : RoomG (k + 1) A) (env : Env) : RoomG k (A.deeper env) := ⟨r.rm.deeper env, r.gd⟩
theorem RoomG.mono {j k : Nat} {A : Around} (r : RoomG k A) (h : j ≤ k) : RoomG j A := ⟨r.rm.mono h, r.gd⟩
theorem RoomG.units {k : Nat} {A : Around} (r : RoomG k A) : A.units + 64 < cLine := r.rm.units
structure FnG (P : Program) (w : World) (K : PySem.W.Frag) (mg : Str → Option Value) (base : Heap) (XT : CXT) (k : Nat) (f : Addr) (fd : FuncData) (ps : List Str) (sp : Sp) : Prop where
  size : ∀ vs H Q E, sp vs H Q E → vs.length = ps.length
  go : ∀ (A : Around) (stk : List Env) (s : Shared) (H : Hp) (ar : Args) (us : List Value) (vs : List V) (Q : VK) (E : XK), RoomG k A → Env0 P w K mg base A stk s H → BindsTo s fd ar (ps.zip us) → Vals vs us → sp vs H Q E →
    codeAny (model P w) A (.call (.ref f) ar) (CR XT stk P w H s Q E) s
section
variable {P : Program} {w : World} {K : PySem.W.Frag} {mg : Str → Option Value} {base : Heap} {XT : CXT} {N ps : List Str} {k : Nat} {sp : Sp} {x qual : Str} {params : Arguments} {body : List Stmt} {scope : Scope} {dvs : List V} {kws : List (Str × V)} {f : Addr} {fd : FuncData}
theorem gFn (F : FunD K x qual params body scope dvs kws f fd) (S : FnScope N ps scope) (sz : ∀ vs H Q E, sp vs H Q E → vs.length = ps.length)
    (hb : ∀ (cdv : Value) (A : Around) (stk : List Env) (s : Shared) (H : Hp) (vs : List V) (Q : VK) (E : XK), RoomG k (A.deeper (envOfC qual scope s.heap.objs.size f cdv)) → sp vs H Q E →
      ∃ t, PSs (cxOf XT P w K mg base N qual scope f cdv A stk s H E) body t ∧ t { nx := fun _ H2 => Q .non H2, rt := Q } (start N vs) H) : FnG P w K mg base XT (k + 1) f fd ps sp := by
  obtain ⟨oc, od, dV, kV, doc, pm, an, cdv, ct, sl, rfl, at_, hcd, _, _⟩ := F.ex
  constructor
  · exact sz
  intro A stk s H ar us vs Q E room env bnd vals pr
  have len0 := sz vs H Q E pr
  have old : ∀ b o, base.get? b = some o → s.heap.get? b = some o := fun b o e => (env.bs b o e).1
  have inK : K.In s.heap := env.mod.kin.keeps old
  have kinds : ∀ y ∈ ps.zip us, scope.names.lookup y.1 = some .local ∨ (scope.names.lookup y.1 = some .cell ∧ ((cellsFrom (s.heap.objs.size + 1) scope.names []).lookup y.1).isSome = true) := by
    rintro ⟨y, u⟩ hy
    cases S.par y (List.of_mem_zip hy).1 with
    | inl q => exact Or.inl q
    | inr q => exact Or.inr ⟨q, PySem.W.cellsFrom_some _ _ _ (Or.inl q)⟩
  apply codeAny_call_function room.rm.depth (inK _ _ at_) rfl S.co S.gen rfl (PySem.W.codeRec_of inK hcd)
  refine bnd _ _ _ _ (wpAny_newFunctionEnv_cells S.kind kinds ?_)
  intro env2 e2 s1 call
  subst e2
  refine ⟨(env.mod.nolimit.keeps old).keeps call.toInCall.keep, codeAny_func ?_⟩
  obtain ⟨t, run, tq⟩ := hb cdv A stk s H vs Q E (room.deeper _) pr
  have inv := inv_start (CX := XT) (E := E) (f := f) (cd := cdv) (qual := qual) S room.rm.hd env len0 vals call
  apply wpAny_mono (run.run [] s1 (start N vs) H _ inv tq) _ fun _ _ z => z
  intro fl s2 post
  cases fl with
  | ret u =>
    obtain ⟨v, σ2, H2, J, rv, q⟩ := post
    exact ⟨v, H2, J.os, J.bare, J.base, J.hok, rv, q⟩
  | next =>
    obtain ⟨σ2, H2, J, q⟩ := post
    exact ⟨V.non, H2, J.os, J.bare, J.base, J.hok, rfl, q⟩
  | brk =>
    obtain ⟨_, _, _, q⟩ := post
    exact q.elim
  | cont =>
    obtain ⟨_, _, _, q⟩ := post
    exact q.elim
end
/-- a def that asks repr, as its callers see it -/
structure CalG (P : Program) (w : World) (K : PySem.W.Frag) (mg : Str → Option Value) (base : Heap) (k : Nat) (x : Str) (sp : Sp) : Prop where
  ex : ∃ (f : Addr) (fd : FuncData) (ps : List Str), FnG P w K mg base (L2.CX P w) k f fd ps sp ∧ mg x = some (.ref f) ∧ PySem.W.keepIn K (.ref f) = true ∧ Binds K fd ps []
section
variable {X : Cx} {K : PySem.W.Frag} {j k : Nat} {x : Str} {sp : Sp} {E : XK} {p pos : Pos} {e : Expr} {es : List Expr} {t : TA}
theorem pe_cxG (hK : X.K = K) (c : CalG X.prog X.w K X.mg X.base k x sp) (hr : RoomG j X.A) (hk : k ≤ j) (hx : Passes (L2.CX X.prog X.w) X E) (ha : PA X (e :: es) t) (hg : Gl X x := by rfl) (hdb : (x == ("__debug__" : Str)) = false := by decide)
    (he : starEach (e :: es) X.env = (false, eval e X.env) :: starEach es X.env := by rfl) (hpl : (backTo pos (starEach es X.env)).any (·.1) = false := by rfl) : PE X (.Call (.Name x p) (e :: es) [] pos) (tCall sp [] E t) := by
  subst hK
  obtain ⟨f, fd, ps, F, hm, kp, hb⟩ := c.ex
  constructor
  intro pins s σ H Q I h
  apply wpAny_Call_Name_kw (ld_glob I hg hm ?_ hdb)
  apply PySem.W.callWith_K (h₀ := X.base) I.ok.mod.kin kp _ he hpl
  apply thn (ha.run pos pins s σ H _ I h)
  rintro us s1 ⟨vs, H1, J, rv, q⟩
  refine ⟨J.kIn, ?_⟩
  rw [List.append_nil] at q
  have sz := F.size vs H1 Q E q
  have bd := hb s1 us J.kIn (by rw [List.append_nil, ← rv.length]; exact sz)
  rw [List.append_nil] at bd
  apply wpAny_call
  apply codeAny_mono (F.go X.A X.stack s1 H1 ⟨us, []⟩ us vs Q E (hr.mono hk) J.env0 bd rv q)
  intro r s2 post
  cases r with
  | error e2 => exact hx pins σ H1 s1 e2 s2 J post
  | ok fl =>
    cases fl with
    | ret u => exact J.after post
    | next => exact post.elim
    | brk => exact post.elim
    | cont => exact post.elim
end
/-! ### repr -/
mutual
theorem dp_noDict {K : PySem.W.Frag} {H : Hp} : ∀ (d : PyData) (v : V), Dp K H v d → d.hasDict = false
  | .none, _, _ => rfl
  | .bool _, _, _ => rfl
  | .int _, _, _ => rfl
  | .str _, _, _ => rfl
  | .list ds, _, h => by
    cases h with
    | lst _ h => simp only [PyData.hasDict]; exact dpAll_noDict ds _ h
  | .tuple ds, _, h => by
    cases h with
    | tup _ h => simp only [PyData.hasDict]; exact dpAll_noDict ds _ h
  | .dict _, _, h => nomatch h
theorem dpAll_noDict {K : PySem.W.Frag} {H : Hp} : ∀ (ds : List PyData) (vs : List V), DpAll K H vs ds → PyData.hasDictAll ds = false
  | [], _, _ => rfl
  | d :: ds, _, h => by
    cases h with
    | cons h1 h2 => simp only [PyData.hasDictAll, dp_noDict d _ h1, dpAll_noDict ds _ h2, Bool.or_self]
end
def rReprD (K : PySem.W.Frag) : List V → Hp → VK → Prop := fun xs H Q => ∃ x d, xs = [x] ∧ Dp K H x d ∧ d.showable = true ∧ d.depth ≤ 60 ∧ d.shown.length ≤ sizeLine ∧ Q (.str d.shown) H
theorem call_reprD {X : Cx} {K : PySem.W.Frag} (hK : X.K = K) (hg : X.A.guards = some []) (hu : X.A.units + 64 < cLine) : CallR X (.builtin "repr") (rReprD K) := by
  subst hK
  rintro pins s σ H xs us Q I r ⟨x, d, rfl, hd, sh, dep, sz, q⟩
  have big : ∀ {a : Addr}, us = [.ref a] → x = .ref a → wpAny (model X.prog X.w) X.A (call (.builtin "repr") us) (EP X pins σ Q) X.xe s := by
    rintro a rfl rfl
    obtain ⟨as, rd⟩ := Dp.reads I d _ _ hd (show RelV (.ref a) (.ref a) from rfl)
    exact repr_of_reads' rd sh (fun z => absurd ((dp_noDict d _ hd).symm.trans z) Bool.false_ne_true) hg (by omega) (fun _ _ e => e) (fun h2 u tk kp => ⟨.str _, H, I.kept kp, ⟨_, rfl⟩, q⟩) sz
  cases hd with
  | non =>
    obtain ⟨u, rfl, rfl⟩ := vals1 r
    exact PySem.P.repr_of_none ⟨.str _, H, I.tok _, ⟨_, rfl⟩, q⟩
  | bl b =>
    obtain ⟨u, rfl, rfl⟩ := vals1 r
    exact PySem.P.repr_of_bool ⟨.str _, H, I.tok _, ⟨_, rfl⟩, q⟩
  | int i =>
    obtain ⟨u, rfl, t, rfl⟩ := vals1 r
    exact PySem.P.repr_of_int (by simpa [PyData.showable] using sh) ⟨.str _, H, I.tok _, ⟨_, rfl⟩, q⟩
  | str z =>
    obtain ⟨u, rfl, t, rfl⟩ := vals1 r
    exact PySem.P.repr_of_str ⟨.str _, H, I.tok _, ⟨_, rfl⟩, q⟩ sz
  | lst h1 h2 =>
    obtain ⟨u, rfl, rfl⟩ := vals1 r
    exact big rfl rfl
  | tup h1 h2 =>
    obtain ⟨u, rfl, rfl⟩ := vals1 r
    exact big rfl rfl
/-- repr of what is no container needs no such room -/
def flatD : PyData → Bool
  | .none => true
  | .bool _ => true
  | .int _ => true
  | .str _ => true
  | _ => false
def rReprF (K : PySem.W.Frag) : List V → Hp → VK → Prop := fun xs H Q => ∃ x d, xs = [x] ∧ Dp K H x d ∧ flatD d = true ∧ d.showable = true ∧ d.shown.length ≤ sizeLine ∧ Q (.str d.shown) H
theorem call_reprF {X : Cx} {K : PySem.W.Frag} (hK : X.K = K) : CallR X (.builtin "repr") (rReprF K) := by
  subst hK
  rintro pins s σ H xs us Q I r ⟨x, d, rfl, hd, fl, sh, sz, q⟩
  cases hd with
  | non =>
    obtain ⟨u, rfl, rfl⟩ := vals1 r
    exact PySem.P.repr_of_none ⟨.str _, H, I.tok _, ⟨_, rfl⟩, q⟩
  | bl b =>
    obtain ⟨u, rfl, rfl⟩ := vals1 r
    exact PySem.P.repr_of_bool ⟨.str _, H, I.tok _, ⟨_, rfl⟩, q⟩
  | int i =>
    obtain ⟨u, rfl, t, rfl⟩ := vals1 r
    exact PySem.P.repr_of_int (by simpa [PyData.showable] using sh) ⟨.str _, H, I.tok _, ⟨_, rfl⟩, q⟩
  | str z =>
    obtain ⟨u, rfl, t, rfl⟩ := vals1 r
    exact PySem.P.repr_of_str ⟨.str _, H, I.tok _, ⟨_, rfl⟩, q⟩ sz
  | lst h1 h2 => exact absurd fl Bool.false_ne_true
  | tup h1 h2 => exact absurd fl Bool.false_ne_true
section
variable {K : PySem.W.Frag} {W : WS} {σ : L2.St} {F H : Hp} {α : Type} {ta : Ty α} {te : TE}
def reprDR (d : PyData) : R Str := if d.showable = true ∧ d.shown.length ≤ 1000000 then .ok d.shown else .stuck
theorem calm_reprDR {d : PyData} : Calm (reprDR d) := calm_ite calm_ok calm_stuck
theorem ev_reprD {enc : α → PyData} {n : Nat} (da : IsD K ta enc n) (hn : n ≤ 60) {m : R α} (h : Ev ta te W σ F H m) : Ev tStr (tCB (rReprD K) (tCons te tNil)) W σ F H (bd m fun a => reprDR (enc a)) :=
  ev_cb1 (ta := ta) (tc := tStr) (f := fun a => reprDR (enc a)) (fun F H s x a rx Q q => by
    have q : Post (reprDR (enc a)) _ _ := q
    unfold reprDR at q
    by_cases hc : (enc a).showable = true ∧ (enc a).shown.length ≤ 1000000
    · rw [if_pos hc] at q
      exact ⟨x, enc a, rfl, dp_mono s (da.dp rx), hc.1, Nat.le_trans (da.dep a) hn, Nat.le_trans hc.2 (by decide), q _ F H (Fr.refl s) rfl⟩
    · rw [if_neg hc] at q
      exact q.elim) (fun _ => calm_reprDR) h
theorem ev_reprF {enc : α → PyData} {n : Nat} (da : IsD K ta enc n) (hf : ∀ a, flatD (enc a) = true) {m : R α} (h : Ev ta te W σ F H m) : Ev tStr (tCB (rReprF K) (tCons te tNil)) W σ F H (bd m fun a => reprDR (enc a)) :=
  ev_cb1 (ta := ta) (tc := tStr) (f := fun a => reprDR (enc a)) (fun F H s x a rx Q q => by
    have q : Post (reprDR (enc a)) _ _ := q
    unfold reprDR at q
    by_cases hc : (enc a).showable = true ∧ (enc a).shown.length ≤ 1000000
    · rw [if_pos hc] at q
      exact ⟨x, enc a, rfl, dp_mono s (da.dp rx), hf a, hc.1, Nat.le_trans hc.2 (by decide), q _ F H (Fr.refl s) rfl⟩
    · rw [if_neg hc] at q
      exact q.elim) (fun _ => calm_reprDR) h
end
end TL
namespace TL
open PySem PySem.Spec PyProof.Rows L2
/-- the law's def that asks repr, over every base -/
structure LawG (P : Program) (w : World) (K : PySem.W.Frag) (mg : Str → Option Value) (k : Nat) (x y : Str) (sp : Sp) : Prop where
  ex : ∃ (f : Addr) (fd : FuncData), (∀ base : Heap, FnG P w K mg base (L2.CX P w) k f fd [y] sp) ∧ mg x = some (.ref f) ∧ ∀ (s : Shared) (u : Value), BindsTo s fd ⟨[u], []⟩ [(y, u)]
/-- the abstract heap in which the script alone may stand -/
def scriptH (a : Addr) (o : Obj) (ns : List Int) (b : Bool) : Hp := fun c => if b = true ∧ c = a then some (.frz o (.lst (ns.map V.int))) else none
theorem scriptH_only {a : Addr} {o : Obj} {ns : List Int} {b : Bool} {c : Addr} (h : scriptH a o ns b c ≠ none) : c = a ∧ b = true := by
  unfold scriptH at h
  by_cases z : b = true ∧ c = a
  · exact ⟨z.2, z.1⟩
  · rw [if_neg z] at h
    exact absurd rfl h
theorem law_goG {P : Program} {w : World} {K : PySem.W.Frag} {mg mb : Str → Option Value} {k : Nat} {fa a : Addr} {fd : FuncData} {y : Str} {s : Shared} {vs : List Value} {ns : List Int} {m : List Int → R Bool}
    (inK : K.In s.heap) (nsG : s.heap.Ns mainGlobals mg) (nsB : s.heap.Ns builtinsNs mb) (boot : ∀ x : Str, x ≠ "__name__" → mb x = bootBuiltins x) (lim : s.heap.NoLimit) (gens : s.gens = #[])
    (ha : s.heap.get? a = some { cls := .type "list", data := .seq vs.toArray }) (hi : IntsAre vs ns) (small : ns.length ≤ sizeLine) (room : Room k callerA)
    (F : ∀ base : Heap, FnG P w K mg base (L2.CX P w) k fa fd [y] (SpF K (aOne (tList K tInt)) tBool m)) (bind : ∀ (s : Shared) (u : Value), BindsTo s fd ⟨[u], []⟩ [(y, u)]) (M : m ns = .ok true) :
    codeAny (model P w) callerA (.call (.ref fa) ⟨[.ref a], []⟩) (fun r s2 => r = .ok (.ret (.bool true)) ∧ OldK s.heap s2.heap ∧ s2.os = s.os ∧ AllBare s2.gens) s := by
  have rv := vals_ints hi
  -- is the script one of the written part's own objects, or laid for this call
  obtain ⟨b, hb⟩ : ∃ b : Bool, b = (K.lookup a).isNone := ⟨_, rfl⟩
  obtain ⟨H, eH⟩ : ∃ H : Hp, H = scriptH a { cls := .type "list", data := .seq vs.toArray } ns b := ⟨_, rfl⟩
  have only : ∀ c, H c ≠ none → c = a ∧ b = true := fun c z => scriptH_only (by rw [← eH]; exact z)
  have lay : ∀ c o, H c = some o → c = a ∧ o = .frz { cls := .type "list", data := .seq vs.toArray } (.lst (ns.map V.int)) := fun c o z => by
    obtain ⟨z1, z2⟩ := only c (by rw [z]; exact fun q => nomatch q)
    subst z1
    rw [eH] at z
    unfold scriptH at z
    rw [if_pos ⟨z2, rfl⟩] at z
    exact ⟨rfl, (Option.some.inj z).symm⟩
  have hid : ∀ {c : Addr} {o : Obj}, s.heap.get? c = some o → H c = none → (hidT s.heap H).get? c = some o := fun e n => hidT_get e n
  have plainNs : ∀ {c : Addr} {f : Str → Option Value}, s.heap.Ns c f → (hidT s.heap H).Ns c f := by
    rintro c f ⟨o, es, ep, e, d, r⟩
    refine ⟨o, es, ep, hid e ?_, d, r⟩
    cases q : H c with
    | none => rfl
    | some u =>
      have z := (lay c u q).1
      subst z
      rw [ha] at e
      have e := Option.some.inj e
      subst e
      exact nomatch d
  have kin : K.In (hidT s.heap H) := by
    intro c o e
    refine hid (inK c o e) ?_
    cases q : H c with
    | none => rfl
    | some u =>
      obtain ⟨z1, z2⟩ := only c (by rw [q]; exact fun q => nomatch q)
      subst z1
      rw [hb, e] at z2
      exact nomatch z2
  have mod : Mod K mg (hidT s.heap H) := by
    obtain ⟨mc, l1, l2⟩ := lim
    exact ⟨kin, plainNs nsG, ⟨mb, plainNs nsB, boot⟩, mc, plainNs l1, l2⟩
  have hok : HOk P w H s.heap := fun c u z => by
    obtain ⟨z1, z2⟩ := lay c u z
    subst z1 z2
    exact ⟨ha, by rw [List.length_map]; exact small, vs, _, rv, ha⟩
  have sq : SqL K H a (ns.map V.int) := by
    cases hl : K.lookup a with
    | none =>
      refine Or.inl (Or.inr ⟨{ cls := .type "list", data := .seq vs.toArray }, ?_⟩)
      rw [eH]
      exact if_pos ⟨by rw [hb, hl] <;> rfl, rfl⟩
    | some o =>
      have e := inK a o hl
      rw [ha] at e
      have e := Option.some.inj e
      subst e
      exact Or.inr ⟨_, vs.toArray, _, hl, rfl, rfl, rfl, by rw [List.size_toArray, hi.length]; exact small, by simpa using rv⟩
  have env : Env0 P w K mg (hidT s.heap H) callerA [] s H := by
    refine ⟨rfl, mod, fun c o e => of_hidT e, Nat.le_of_eq (hidT_size _ _), trivial, fun c z => ?_, hok, .of_eq gens⟩
    exact nomatch z
  have pr : SpF K (aOne (tList K tInt)) tBool m [.ref a] H (fun v _ => v = .bl true) fun _ _ _ => False := by
    refine ⟨H, ns, Same.refl H, ⟨_, rfl, a, ns.map V.int, rfl, sq, paired_of_ints ns⟩, ?_⟩
    rw [M]
    exact fun v F2 H2 _ r => r
  refine codeAny_mono ((F (hidT s.heap H)).go callerA [] s H ⟨[.ref a], []⟩ [.ref a] [.ref a] _ _ ⟨room, rfl⟩ env (bind s (.ref a)) (.cons rfl .nil) pr) ?_
  intro r s2 post
  cases r with
  | error e =>
    obtain ⟨_, _, _, _, _, _, _, _, _, _, _, _, z⟩ := post
    exact z.elim
  | ok fl =>
    cases fl with
    | next => exact post.elim
    | brk => exact post.elim
    | cont => exact post.elim
    | ret u =>
      obtain ⟨v, H2, os, bare, un, hok2, rel, q⟩ := post
      have q : v = .bl true := q
      subst q
      have rel : u = Value.bool true := rel
      subst rel
      refine ⟨rfl, OldK.of_keep fun c o e => ?_, os, bare⟩
      cases q : H c with
      | none => exact un.keep c o e q (fun z => nomatch z) (fun z => nomatch z)
      | some u =>
        obtain ⟨z1, z2⟩ := lay c u q
        subst z1 z2
        have fz := un.frzs _ _ _ q
        have e1 := (hok _ _ q).1
        have e2 := (hok2 _ _ fz).1
        rw [e] at e1
        have e1 := Option.some.inj e1
        subst e1
        exact e2
theorem law_endG {l : PySem.W.OpenLaw} {n k nn : Nat} {q : Program} {loose : List Str} {XP : (Str → Option Value) → Heap → Prop} {d : DefRec} {fa : List He.Fa} {fn : List He.DefD} {m : List Int → R Bool} {y : Str}
    (hn : l.most = some n) (hn2 : n ≤ sizeLine) (hdf : d.params.defaults = []) (hr : Room k callerA)
    (F : ∀ (w : World) (K : PySem.W.Frag) (mg : Str → Option Value) (h : Heap), K.In h → h.Ns mainGlobals mg → He.SaysD fa fn K → LawG l.prog w K mg k d.name y (SpF K (aOne (tList K tInt)) tBool m))
    (M : ∀ ns : List Int, ns.length ≤ n → m ns = .ok true) :
    PySem.W.WalkO q loose XP (He.hookD nn fa fn).says l.row.toRowW d [] (fun f vs => PySem.call f vs) := by
  refine Att.attach_call hn hdf fun w s₀ s₁ mg mb f o pm cd doc a vs ns G Y ho hd hcd hmg hobj hints hlen hg => ?_
  obtain ⟨K, KX, hs⟩ := Y
  obtain ⟨f2, fd, hF, hm2, hb⟩ := (F w K mg _ KX G.T.g hs).ex
  obtain rfl : f2 = f := by
    rw [hmg] at hm2
    injection hm2 with z
    injection z with z
    exact z.symm
  exact law_goG KX G.T.g G.T.b G.T.builtins G.T.nolimit hg hobj hints (Nat.le_trans hlen hn2) hr hF hb (M ns hlen)
end TL
/-! ## TL12: what may be lent -/
namespace TL
open PySem PySem.Spec PyProof.Rows L2
theorem bt_repr : bootBuiltins "repr" = some (.builtin "repr") := by decide +kernel
section
variable {K : PySem.W.Frag} {W : WS} {σ : L2.St} {F H F' H' F0 H0 : Hp} {α β γ δ ρ S : Type} {ta : Ty α} {tb : Ty β} {tc : Ty γ} {te te1 te2 te3 : TE} {v : V}
theorem flat_none : Flat tNone := fun _ _ _ _ h => h
theorem flat_opt (h : Flat ta) : Flat (tOpt ta) := fun F F' v a r => by
  cases a with
  | none => exact r
  | some a => exact ⟨r.1, h _ _ _ _ r.2⟩
theorem paired_flat (h : Flat ta) {F F' : Hp} : ∀ {vs : List V} {as : List α}, Paired (ta.rep F) vs as → Paired (ta.rep F') vs as
  | _, _, .nil => .nil
  | _, _, .cons r q => .cons (h _ _ _ _ r) (paired_flat h q)
/-- a new list made while one's own is read -/
theorem el_lend {as : List β} {m : R (List α)} (fl : Flat ta) (o : Own tb H0 F H v as) (s0 : Same F H) (h : ∀ F', Same F F' → (yList tb).rep F' v as → Same F' H → EvL ta te W σ F' H m) : EvL ta te W σ F H m := fun F1 H1 f1 Q q => by
  obtain ⟨p, vs, ev, h0, hf, hh, r⟩ := o
  subst ev
  have sF : Same F (upd F p (.lst vs)) := same_upd hf
  have sH : Same (upd F p (.lst vs)) H := fun b u e => by
    by_cases q : b = p
    · rw [q, upd_same] at e
      rw [← e, q]
      exact hh
    · rw [upd_ne q] at e
      exact s0 b u e
  refine h _ sF ⟨p, vs, rfl, upd_same, paired_mono sF r⟩ sH _ H1 (lend_fr (as := as) hf hh f1) Q (post_imp q (fun a _ k p2 ws F2 H2 f2 n1 n2 h3 rv => ?_) fun e _ z F2 H2 f2 => ?_)
  · exact k p2 ws F1 H2 ⟨Same.refl _, f2.h, f1.s.trans f2.h, fun _ h _ => h⟩ n1 (f1.s.free n1) h3 (paired_flat fl rv)
  · exact z F1 H2 ⟨Same.refl _, f2.h, f1.s.trans f2.h, fun _ h _ => h⟩
end
end TL
/-! ## TL13: things of any type -/
namespace TL
open PySem PySem.Spec PyProof.Rows L2
def tagOf : Dyn → String
  | .dat .none => "NoneType"
  | .dat (.bool _) => "bool"
  | .dat (.int _) => "int"
  | .dat (.str _) => "str"
  | .dat (.list _) => "list"
  | .dat (.tuple _) => "tuple"
  | .dat (.dict _) => "dict"
  | .dct => "dict"
  | .dany => "dict"
def isTag (T U : String) : Bool := T == U || (T == "bool" && U == "int")
def tags : List String := ["NoneType", "bool", "int", "str", "list", "tuple", "dict"]
theorem tagOf_mem (d : Dyn) : tagOf d ∈ tags := by
  cases d with
  | dct => decide
  | dany => decide
  | dat d => cases d <;> simp [tagOf, tags]
section
variable {K : PySem.W.Frag} {W : WS} {σ : L2.St} {F H F' H' F0 H0 : Hp} {α β γ δ ρ S : Type} {ta : Ty α} {tb : Ty β} {tc : Ty γ} {te te1 te2 te3 : TE} {v : V}
theorem ty_dyn {F H : Hp} (s : Same F H) {v : V} {d : Dyn} (r : (tDyn K).rep F v d) : TyX K H v (.type (tagOf d)) := by
  cases d with
  | dct =>
    obtain ⟨p, rfl, h⟩ := r
    exact .base (.dK (s _ _ h))
  | dany =>
    obtain ⟨p, kvs, rfl, h⟩ := r
    exact .base (.dK (s _ _ h))
  | dat d =>
    have r : Dp K F v d := r
    cases r with
    | non => exact .base .non
    | bl b => exact .base (.bl b)
    | int i => exact .base (.int i)
    | str x => exact .base (.str x)
    | lst h _ => exact ty_sqL (sqL_mono s h)
    | tup h _ => exact ty_sqT (sqT_mono s h)
theorem ev_isiD {U : String} (hU : ∀ T ∈ tags, kitB T U = some (isTag T U)) {m : R Dyn} (h : Ev (tDyn K) te W σ F H m) : Ev tBool (tCB (rIsi K) (tCons te (tCons (tC (.ty U)) tNil))) W σ F H (bd m fun d => .ok (isTag (tagOf d) U)) := fun F1 H1 f1 Q q =>
  h F1 H1 f1 _ (post_imp (post_bd q) (fun d _ k1 x F2 H2 f2 rx => ⟨x, .ty U, _, _, _, rfl, .ty U, ty_dyn f2.s rx, kit_ty (hU _ (tagOf_mem d)), k1 _ F2 H2 f2 rfl⟩) fun e _ z => z)
/-! ### casts -/
def dynInt : Dyn → R Int
  | .dat (.int i) => .ok i
  | _ => .stuck
def dynStr : Dyn → R Str
  | .dat (.str x) => .ok x
  | _ => .stuck
def dynList : Dyn → R (List Dyn)
  | .dat (.list ds) => .ok (ds.map .dat)
  | _ => .stuck
def dynTup : Dyn → R (List Dyn)
  | .dat (.tuple ds) => .ok (ds.map .dat)
  | _ => .stuck
theorem calm_dynInt {d : Dyn} : Calm (dynInt d) := fun e h => by
  cases d with
  | dct => cases h
  | dany => cases h
  | dat d => cases d <;> cases h
theorem calm_dynStr {d : Dyn} : Calm (dynStr d) := fun e h => by
  cases d with
  | dct => cases h
  | dany => cases h
  | dat d => cases d <;> cases h
theorem calm_dynList {d : Dyn} : Calm (dynList d) := fun e h => by
  cases d with
  | dct => cases h
  | dany => cases h
  | dat d => cases d <;> cases h
theorem calm_dynTup {d : Dyn} : Calm (dynTup d) := fun e h => by
  cases d with
  | dct => cases h
  | dany => cases h
  | dat d => cases d <;> cases h
theorem paired_dp : ∀ {vs : List V} {ds : List PyData}, DpAll K F vs ds → Paired ((tDyn K).rep F) vs (ds.map Dyn.dat)
  | _, _, .nil => .nil
  | _, _, .cons h t => .cons h (paired_dp t)
theorem ev_dynInt {m : R Dyn} (h : Ev (tDyn K) te W σ F H m) : Ev tInt te W σ F H (bd m dynInt) := ev_cast (fun F v a r b e => by
  cases a with
  | dct => cases e
  | dany => cases e
  | dat d =>
    cases d <;> first | (cases e; done) | skip
    have r : Dp K F v _ := r
    cases r
    cases e
    rfl) (fun _ => calm_dynInt) h
theorem ev_dynStr {m : R Dyn} (h : Ev (tDyn K) te W σ F H m) : Ev tStr te W σ F H (bd m dynStr) := ev_cast (fun F v a r b e => by
  cases a with
  | dct => cases e
  | dany => cases e
  | dat d =>
    cases d <;> first | (cases e; done) | skip
    have r : Dp K F v _ := r
    cases r
    cases e
    rfl) (fun _ => calm_dynStr) h
theorem ev_dynList {m : R Dyn} (h : Ev (tDyn K) te W σ F H m) : Ev (tList K (tDyn K)) te W σ F H (bd m dynList) := ev_cast (fun F v a r b e => by
  cases a with
  | dct => cases e
  | dany => cases e
  | dat d =>
    cases d <;> first | (cases e; done) | skip
    have r : Dp K F v _ := r
    cases r with
    | lst h1 h2 =>
      cases e
      exact ⟨_, _, rfl, h1, paired_dp h2⟩) (fun _ => calm_dynList) h
theorem ev_dynTup {m : R Dyn} (h : Ev (tDyn K) te W σ F H m) : Ev (yTupL K (tDyn K)) te W σ F H (bd m dynTup) := ev_cast (fun F v a r b e => by
  cases a with
  | dct => cases e
  | dany => cases e
  | dat d =>
    cases d <;> first | (cases e; done) | skip
    have r : Dp K F v _ := r
    cases r with
    | tup h1 h2 =>
      cases e
      exact ⟨_, _, rfl, h1, paired_dp h2⟩) (fun _ => calm_dynTup) h
/-! ### into it -/
theorem ev_toD {enc : α → PyData} {n : Nat} (da : IsD K ta enc n) {m : R α} (h : Ev ta te W σ F H m) : Ev (tDyn K) te W σ F H (bd m fun a => .ok (.dat (enc a))) := ev_cast (fun F v a r b e => by
  cases e
  exact da.dp r) (fun _ => calm_ok) h
theorem paired_toD {enc : α → PyData} {n : Nat} (da : IsD K ta enc n) : ∀ {vs : List V} {as : List α}, Paired (ta.rep F) vs as → Paired ((tDyn K).rep F) vs (as.map fun a => Dyn.dat (enc a))
  | _, _, .nil => .nil
  | _, _, .cons h t => .cons (da.dp h) (paired_toD da t)
theorem ev_toDL {enc : α → PyData} {n : Nat} (da : IsD K ta enc n) {m : R (List α)} (h : Ev (tList K ta) te W σ F H m) : Ev (tList K (tDyn K)) te W σ F H (bd m fun as => .ok (as.map fun a => Dyn.dat (enc a))) := ev_cast (fun F v a r b e => by
  cases e
  obtain ⟨p, vs, h1, h2, h3⟩ := r
  exact ⟨p, vs, h1, h2, paired_toD da h3⟩) (fun _ => calm_ok) h
theorem ev_dct : Ev (tDyn K) tDNewK W σ F H (.ok .dct) := fun F1 H1 f1 Q q p hp => q (.ref p) _ _ (Fr.alloc f1.s hp) ⟨p, rfl, upd_same⟩
end
end TL
/-! ## TL14: exceptions as values; a hook with more facts -/
namespace TL
open PySem PySem.Spec PyProof.Rows L2
/-- the exception object at a, of the own class C, without a dict -/
def ExH (C a : Addr) : HO := .ext fun h => ∃ o, h.get? a = some o ∧ o.cls = .ref C ∧ o.dict = none ∧ PySem.W.notCls o = true
theorem exH_ok {P : Program} {w : World} {H : Hp} {h : Heap} {a C : Addr} {o : Obj} (e : h.get? a = some o) (c : o.cls = .ref C) (d : o.dict = none) (n : PySem.W.notCls o = true) : ObjOk P w H h a (ExH C a) := by
  refine ⟨⟨o, e, c, d, n⟩, ⟨o, e⟩, ?_⟩
  rintro h1 h2 ⟨o1, e1, r⟩ k
  exact ⟨o1, k o1 e1, r⟩
/-- what isinstance of an own exception asks of its class -/
def excB (K : PySem.W.Frag) (C : Addr) : Bool :=
  (PySem.W.clsIn K C).isSome && (He.eqO (PySem.W.findIn K (.ref C) "__getattribute__") (some (some (.builtin "BaseException.__getattribute__"))) && (He.eqO (PySem.W.findIn K (.ref C) "__getattr__") (some none) &&
  (decide (PySem.W.subIn K (.ref C) (.type "BaseException") = some true) && (He.eqO (PySem.W.findIn K (.ref C) "__class__") (some (some (.builtin "object.__class__"))) &&
  (He.eqO (PySem.W.specialIn K (.builtin "object.__class__") "__get__") (some (some (.builtin "getset_descriptor.__get__"))) && (decide (PySem.W.takesIn K (.builtin "object.__class__") = some true) && decide (PySem.W.mroIn K C (.type "object") = some true)))))))
theorem kit_exc {K : PySem.W.Frag} {C x : Addr} {ox : Obj} {od : Option Obj} (h : excB K C = true) : PySem.W.KitX K (.ref x) (.ref C) (fun h => PySem.W.InstAt h x ox C od) := by
  unfold excB at h
  obtain ⟨h1, h⟩ := He.ba h
  obtain ⟨h2, h⟩ := He.ba h
  obtain ⟨h3, h⟩ := He.ba h
  obtain ⟨h4, h⟩ := He.ba h
  obtain ⟨h5, h⟩ := He.ba h
  obtain ⟨h6, h⟩ := He.ba h
  obtain ⟨h7, h8⟩ := He.ba h
  exact PySem.W.kitx_exc h1 (He.eqO_ok h2) (He.eqO_ok h3) (of_decide_eq_true h4) (He.eqO_ok h5) (He.eqO_ok h6) (of_decide_eq_true h7) (of_decide_eq_true h8)
/-- an own exception, caught -/
def tExn (K : PySem.W.Frag) : Ty Exn := ⟨fun F v e => match e with
  | .own c => ∃ a, v = .ref a ∧ F a = some (ExH (He.ga K c) a)
  | .fld _ _ _ => False, fun {F F' v e} s r => by
  cases e with
  | own c =>
    obtain ⟨a, h1, h2⟩ := r
    exact ⟨a, h1, s _ _ h2⟩
  | fld _ _ _ => exact r⟩
def rIsiE (K : PySem.W.Frag) : List V → Hp → VK → Prop := fun xs H Q => ∃ (a C : Addr) (d : V) (u : Value) (b : Bool), xs = [.ref a, d] ∧ H a = some (ExH C a) ∧ excB K C = true ∧ ClsV d u ∧ PySem.W.kitOne K (.ref C) u = some b ∧ Q (.bl b) H
theorem call_isiE {X : Cx} {K : PySem.W.Frag} (hK : X.K = K) : CallR X (.builtin "isinstance") (rIsiE K) := by
  subst hK
  rintro pins s σ H xs us Q I r ⟨a, C, d, u, b, rfl, ha, hx, hc, hk, q⟩
  obtain ⟨u1, u2, rfl, r1, r2⟩ := vals2 r
  have e1 : u1 = .ref a := r1
  have e2 := hc.eq r2
  subst e1 e2
  obtain ⟨⟨o, g, c, dd, n⟩, _⟩ := (show ObjOk X.prog X.w H s.heap a (ExH C a) from I.hok a _ ha)
  have at_ : PySem.W.InstAt s.heap a o C none := ⟨g, c, n, by rw [dd]; trivial⟩
  exact PySem.W.kia_one (kit_exc (ox := o) (od := none) hx) I.kIn at_ hk (fun z => nomatch z) fun tk => ⟨.bl b, H, I.tok tk, rfl, q⟩
section
variable {K : PySem.W.Frag} {W : WS} {σ : L2.St} {F H : Hp} {te : TE}
/-- isinstance(e, C) by the table tb of the law's own classes; stuck for a class that isn't in it -/
def isiER (tb : List (Str × Bool)) : Exn → R Bool
  | .own c => match tb.lookup c with
    | some b => .ok b
    | none => .stuck
  | _ => .stuck
theorem ev_isiE {tb : List (Str × Bool)} {d : V} {u : Value} (hd : ClsV d u) (ht : ∀ p ∈ tb, excB K (He.ga K p.1) = true ∧ PySem.W.kitOne K (.ref (He.ga K p.1)) u = some p.2) {m : R Exn} (h : Ev (tExn K) te W σ F H m) :
    Ev tBool (tCB (rIsiE K) (tCons te (tCons (tC d) tNil))) W σ F H (bd m (isiER tb)) := fun F1 H1 f1 Q q =>
  h F1 H1 f1 _ (post_imp (post_bd q) (fun e _ k1 x F2 H2 f2 rx => by
    cases e with
    | fld _ _ _ => exact rx.elim
    | own c =>
      obtain ⟨a, ex, ha⟩ := rx
      subst ex
      have k2 : Post (match tb.lookup c with | some b => R.ok b | none => .stuck) _ _ := k1
      cases l : tb.lookup c with
      | none =>
        rw [l] at k2
        exact k2.elim
      | some b =>
        rw [l] at k2
        have m : (c, b) ∈ tb := by
          have : ∀ (l0 : List (Str × Bool)), l0.lookup c = some b → (c, b) ∈ l0 := by
            intro l0
            induction l0 with
            | nil => intro z; cases z
            | cons p r ih =>
              intro z
              obtain ⟨p1, p2⟩ := p
              rw [List.lookup_cons] at z
              by_cases hp : (c == p1) = true
              · rw [hp] at z
                have e1 := eq_of_beq hp
                cases z
                rw [e1]
                exact List.mem_cons_self
              · rw [Bool.eq_false_iff.mpr hp] at z
                exact List.mem_cons_of_mem _ (ih z)
          exact this tb l
        obtain ⟨t1, t2⟩ := ht _ m
        exact ⟨a, _, d, u, b, rfl, f2.s _ _ ha, t1, hd, t2, k2 _ F2 H2 f2 rfl⟩) fun e _ z => z)
end
/-! ### a hook with any facts of the written part -/
def hookX (n : Nat) (fa : List He.Fa) (fn : List He.DefD) (fx : PySem.W.Frag → Bool) : PySem.W.Hook where
  α := He.AlD × Bool
  obs := fun s => (He.obsDG n fa fn s.heap.get?, fx (He.frG s.heap.get? (He.asD s.heap.get? n)))
  val := fun _ => (He.valD fn, true)
  says := fun _ h => ∃ K : PySem.W.Frag, K.In h ∧ He.SaysD fa fn K ∧ fx K = true
  of := fun _ _ e => ⟨_, He.frG_in, congrArg Prod.fst e, congrArg Prod.snd e⟩
  keeps := fun _ _ _ ⟨K, hK, c⟩ k => ⟨K, PySem.W.Frag.In.keeps hK k, c⟩
end TL
/-! ## TL15: except X as n, the exception held -/
namespace TL
open PySem PySem.Spec PyProof.Rows L2
section
variable {X : Cx} {pins : List (Addr × Obj)} {σ : L2.St} {H : Hp} {s : Shared} {a C : Addr} {o : Obj}
/-- an exception object that is there, and wasn't at the entry, is tracked from now on -/
theorem inv_hold (I : Inv X pins σ H s) (new : X.s_0.heap.get? a = none) (ha : s.heap.get? a = some o) (hc : o.cls = .ref C) (hd : o.dict = none) (hn : PySem.W.notCls o = true) (na : H a = none) (nL : a ≠ X.env.locals)
    (nc : ∀ y c, X.env.cells.lookup y = some c → c ≠ a) (np : ∀ p ∈ X.pn ++ pins, p.1 ≠ a) : Inv X pins σ (upd H a (ExH C a)) s := by
  have un := I.base
  have keepH : ∀ {b : Addr} {u : HO}, H b = some u → upd H a (ExH C a) b = some u := fun {b u} e => by
    rw [upd_ne (fun z => by rw [z, na] at e; cases e)]
    exact e
  have neNew : ∀ {b : Addr} {u : Obj}, X.s_0.heap.get? b = some u → b ≠ a := fun {b u} e z => by
    rw [z, new] at e
    cases e
  refine ⟨I.ok, I.os, I.bare, ⟨un.keep, un.slot, ?_, un.there, ?_, ?_, ?_⟩, I.loc, I.cell, ?_, ?_, ?_, ?_, I.len⟩
  · intro b u e n x
    rw [upd_ne (neNew e)]
    exact un.free b u e n x
  · exact fun b xs e => keepH (un.tups b xs e)
  · exact fun b ob u e => keepH (un.frzs b ob u e)
  · intro b ps e
    obtain ⟨more, z⟩ := un.tbls b ps e
    exact ⟨more, keepH z⟩
  · rw [upd_ne (Ne.symm nL)]
    exact I.free
  · intro y c e
    rw [upd_ne (nc y c e)]
    exact I.freeC y c e
  · intro p hp
    obtain ⟨p1, p2, p3⟩ := I.pin p hp
    refine ⟨p1, ?_, p3⟩
    rw [upd_ne (np p hp)]
    exact p2
  · exact HOk.laidN I.hok (fun _ _ e => e) na (exH_ok ha hc hd hn)
/-- what 'except x as n', n at slot i, wishes of an exception of the body: it is tracked ahead of the suite -/
def wHeld (K : PySem.W.Frag) (c : Value) (i : Nat) (ts : Addr → Addr → TS) (Wout : WX) (D : Ends) : WX := fun cls d σ H =>
  ∃ b, PySem.W.exmOne K cls c = some b ∧
    (b = true → ∃ C, cls = .ref C ∧ d = none ∧ ∀ a, H a = none → ts a C { nx := fun τ G => D.nx (τ.set i none) G, rt := D.rt, bk := fun τ G => D.bk (τ.set i none) G, ct := fun τ G => D.ct (τ.set i none) G } (σ.set i (some (.ref a))) (upd H a (ExH C a))) ∧
    (b = false → Wout cls d σ H)
end
section
variable {X : Cx} {x n : Str} {c : Value} {i : Nat} {body suite : List Stmt} {b₀ : Stmt} {np pos pos' : Pos} {tb : WX → TS} {ts : Addr → Addr → TS} {Wout : WX}
theorem ps_try_held (hex : X.ex = []) (hst : X.stack = X.env :: X.outer) (hfr : X.env.frame = some X.env.locals) (nd : X.N.Nodup) (at_ : X.N[i]? = some n) (loc : X.env.kindOf n = some .local) (nm : Names X x c) (tk : Takes X Wout)
    (hb : ∀ (W : WX) (pn : List (Addr × Obj)) (xe : Value → Shared → Prop), Takes (X.tr pn xe) W → PassesOwn (model X.prog X.w) X.A X.env xe → PSs (X.tr pn xe) body (tb W))
    (hsu : ∀ (a C : Addr) (pn : List (Addr × Obj)), PSs (X.suite a pn) (b₀ :: suite) (ts a C)) :
    PS X (.Try body [.ExceptHandler (some (.Name x np)) (some n) (b₀ :: suite) pos'] [] [] pos) (fun D σ H => tb (wHeld X.K c i ts Wout D) D σ H) := by
  constructor
  intro pins s σ H D I h
  have okX := I.ok
  have frames : X.A.frames = some (X.env :: X.outer) := by rw [okX.frames, hst]
  apply wpAny_Try_except
  refine wpAny_mono ((hb (wHeld X.K c i ts Wout D) (X.pn ++ pins) (fun e s₁ => wpAny (model X.prog X.w) X.A (noteFrame e X.env) (fun _ s₂ => wpAny (model X.prog X.w) X.A (setFlight e none) (fun _ s₃ =>
    wpAny (model X.prog X.w) X.A (handleBy e X.env [.ExceptHandler (some (.Name x np)) (some n) (b₀ :: suite) pos']) (SP X pins D) X.xe s₃) X.xe s₂) X.xe s₁) ?_ PassesOwn.looking).run [] s σ H D (I.toTry _) h) ?_ (fun _ _ z => z)
  · -- caught
    rintro u s2 ⟨a, B, sB, pins2, τ, G, cls, d, rfl, I2, inB, up, sky, free, os, ag, b, hb1, yes, no⟩
    have J := I2.ofTry okX
    have sky2 : Sky B (X.env :: X.outer) a (Zc cls d) X.env.locals s2.heap := by rw [← hst]; exact sky
    show wpAny (model X.prog X.w) X.A (noteFrame (.ref a) X.env) _ _ _
    refine Sky.land Zc.steady frames hfr sky2 fun g3 fl up3 => ?_
    have J3 : Inv X pins τ G { s2 with heap := g3 } := J.landed inB fl.1 (up.trans up3) os ag
    obtain ⟨ob, row, at3, z3, d3⟩ := fl.there
    have apart : ∀ {g : Heap} {u : Obj} {row : Array Value}, g.FunFrames B (X.env :: X.outer) → g.get? a = some u → u.data = .fields row → a ∉ frs (X.env :: X.outer) := fun {g u row} ff e dd hm => by
      obtain ⟨_, u2, e2, nf⟩ := ff.mem hm
      rw [e] at e2
      cases e2
      exact nf _ dd
    have notFrame := apart fl.2.2.1 at3 d3
    have nL : a ≠ X.env.locals := fun z => notFrame (List.mem_filterMap.mpr ⟨X.env, List.mem_cons_self, by rw [hfr, z]⟩)
    have noB : B.get? a = none := fl.2.1
    have fresh : sB.heap.get? a = none := by
      cases e : sB.heap.get? a with
      | none => rfl
      | some u =>
        have z := inB a u e (by rw [hst]; exact notFrame)
        rw [noB] at z
        cases z
    have new : X.s_0.heap.get? a = none := by
      cases e : X.s_0.heap.get? a with
      | none => rfl
      | some u =>
        obtain ⟨u2, z⟩ := J.base.there a u e (by rw [hex]; exact fun z => nomatch z)
        rw [fresh] at z
        cases z
    have cells : ∀ y c, X.env.cells.lookup y = some c → c ≠ a := fun y c e z => by
      obtain ⟨v, q⟩ := J.cell y c e
      subst z
      obtain ⟨u, e2, _⟩ := q
      rw [fresh] at e2
      cases e2
    have pinned : ∀ p ∈ X.pn ++ pins, p.1 ≠ a := fun p hp z => by
      have e2 := (J.pin p hp).1
      rw [z, fresh] at e2
      cases e2
    refine wpAny_handleBy_cons (codeAny_handlers_test ?_) (by intro q; cases q)
    have looksT : PySem.W.Looks (model X.prog X.w) g3 (typeOf (.ref a)) cls := fun A Q E s k q => wpAny_typeOf_ref (k _ _ at3) (by rw [z3.1]; exact q)
    have looksM := PySem.W.exm_one (M := model X.prog X.w) J3.kIn looksT hb1
    have nF : a ∉ X.fs := fun hm => by
      obtain ⟨e, he, q⟩ := List.mem_filterMap.mp hm
      exact notFrame (List.mem_filterMap.mpr ⟨e, List.mem_cons_of_mem _ he, q⟩)
    have S3 := J3.suite at3 d3 free nL nF
    have named : ∀ {Q : Value → Shared → Prop} {E : Value → Shared → Prop}, Q c { s2 with heap := g3 } → wpAny (model X.prog X.w) (X.A.mark (some (.ref a))) (eval (.Name x np) X.env) Q E { s2 with heap := g3 } := fun {Q E} q => by
      rcases nm with ⟨gl, db, hm | ⟨hm, hv, hnn⟩⟩
      · exact ld_glob (X := X.suite a ((a, ob) :: (X.pn ++ pins))) S3 gl hm q db
      · exact ld_blt (X := X.suite a ((a, ob) :: (X.pn ++ pins))) S3 gl hm hv q hnn db
    refine named (looksM.here ?_)
    cases b with
    | true =>
      apply codeAny_handlers_suite_as
      refine HandSPX.lands_againZ fl fun g4 fl4 up4 => ?_
      have J4 : Inv X pins τ G { s2 with heap := g4 } := J.landed inB fl4.1 ((up.trans up3).trans up4) os ag
      obtain ⟨ob4, row4, at4, z4, d4⟩ := fl4.there
      obtain ⟨C, ec, ed, wish⟩ := yes rfl
      have held : Inv X pins τ (upd G a (ExH C a)) { s2 with heap := g4 } := inv_hold J4 new at4 (by rw [z4.1, ec]) (by rw [z4.2, ed]) (by unfold PySem.W.notCls; rw [d4]) free nL cells pinned
      have S4 : Inv (X.suite a (X.pn ++ pins)) [] τ (upd G a (ExH C a)) { s2 with heap := g4 } :=
        ⟨okX.suite _ _, held.os, held.bare, held.base, held.loc, held.cell, held.free, held.freeC, fun p hp => held.pin p (by rw [List.append_nil] at hp; exact hp), held.hok, held.len⟩
      refine store_ok (X := X.suite a (X.pn ++ pins)) (v := .ref a) S4 nd at_ (.inl loc) rfl (fun s5 S5 => ?_) (.inr loc)
      refine wpAny_mono ((hsu a C (X.pn ++ pins)).run [] s5 _ _ _ S5 (wish a free)) (fun fl2 s6 post => ?_) (fun _ _ z => False.elim z)
      have goes : ∀ {τ6 : L2.St} {G6 : Hp} {Q : Shared → Prop}, Inv (X.suite a (X.pn ++ pins)) [] τ6 G6 s6 → (∀ s7, Inv X pins (τ6.set i none) G6 s7 → Q s7) →
          wpAny (model X.prog X.w) X.A (do bindName X.env n .none; unbindBehindTheSuite X.env n pos') (fun _ s7 => Q s7) X.xe s6 := fun {τ6 G6 Q} S6 hq =>
        gone_ok (X := X) (pins := pins) ⟨okX, S6.os, S6.bare, S6.base, S6.loc, S6.cell, S6.free, S6.freeC, (fun p hp => S6.pin p (List.mem_append_left _ hp)), S6.hok, S6.len⟩ nd at_ loc hq
      cases fl2 with
      | next =>
        obtain ⟨τ6, G6, S6, q6⟩ := post
        exact goes S6 fun s7 J7 => ⟨_, _, J7, q6⟩
      | brk =>
        obtain ⟨τ6, G6, S6, q6⟩ := post
        exact goes S6 fun s7 J7 => ⟨_, _, J7, q6⟩
      | cont =>
        obtain ⟨τ6, G6, S6, q6⟩ := post
        exact goes S6 fun s7 J7 => ⟨_, _, J7, q6⟩
      | ret u =>
        obtain ⟨v6, τ6, G6, S6, r6, q6⟩ := post
        exact goes S6 fun s7 J7 => ⟨_, _, _, J7, r6, q6⟩
    | false =>
      show wpAny _ X.A (handleBy (.ref a) X.env []) _ _ _
      apply wpAny_handleBy_nil
      obtain ⟨k1, k2, k3, oe, vs, T, oT, ts', he, hz, hd, h1, hr⟩ := id fl
      unfold PySem.passOn
      refine wpAny_bind (wpAny_field he hd h1 ?_)
      rw [if_neg (show ¬ ((Value.ref T == Value.none) = true) from by simp)]
      have on : wpAny (model X.prog X.w) X.A (setFlight (.ref a) X.env.frame) (fun _ s4 => wpAny (model X.prog X.w) X.A (throw (.ref a) : Sem Flow) (SP X pins D) X.xe s4) X.xe { s2 with heap := g3 } := by
        rw [hfr]
        refine HandSPX.setFlight_upZ fl fun g4 held4 up4 => wpAny_throw (tk _ _ ?_)
        exact ⟨a, B, sB, pins, τ, G, cls, d, rfl, J, inB, (up.trans up3).trans up4, .inr (.inr (by rw [hst]; exact held4)), free, os, ag, no rfl⟩
      first
        | exact wpAny_bind (wpAny_pure (wpAny_bind on))
        | exact wpAny_bind on
  · -- nothing was raised
    intro f s1 post
    cases f with
    | next =>
      obtain ⟨τ, G, I2, q⟩ := post
      exact wpAny_execs_nil ⟨τ, G, I2.ofTry okX, q⟩
    | brk =>
      obtain ⟨τ, G, I2, q⟩ := post
      exact ⟨τ, G, I2.ofTry okX, q⟩
    | cont =>
      obtain ⟨τ, G, I2, q⟩ := post
      exact ⟨τ, G, I2.ofTry okX, q⟩
    | ret u =>
      obtain ⟨v, τ, G, I2, r, q⟩ := post
      exact ⟨v, τ, G, I2.ofTry okX, r, q⟩
end
end TL
/-! ## TL16: calls within a try: what an exception meets hangs on the slots -/
namespace TL
open PySem PySem.Spec PyProof.Rows L2
/-- the wish W at the slots σ -/
def EW (W : WX) (σ : L2.St) : XK := fun cls d H => W cls d σ H
def tCallW (sp : Sp) (W : WX) (t : TA) : TE := fun σ H Q => t σ H fun vs H1 => sp vs H1 Q (EW W σ)
def tMethW (C : Addr) (m : Str) (sp : Sp) (W : WX) (ta : TE) (t : TA) : TE := fun σ H Q => ta σ H fun x H1 => ∃ a dx fs, x = .ref a ∧ H1 a = some (.ins C dx fs) ∧ fs.lookup m = none ∧ t σ H1 fun vs H2 => sp (x :: vs) H2 Q (EW W σ)
def tMakeW (C : Addr) (sp : Sp) (W : WX) (t : TA) : TE := fun σ H Q => t σ H fun vs H1 => ∀ x dx, H1 x = none → H1 dx = none → dx ≠ x → sp (.ref x :: vs) (upd (upd H1 dx (.own x)) x (.ins C dx [])) (fun v H2 => v = .non ∧ Q (.ref x) H2) (EW W σ)
section
variable {X : Cx} {K : PySem.W.Frag} {W : WX} {j k : Nat} {x m : Str} {sp : Sp} {p pos apos : Pos} {o e : Expr} {es : List Expr} {ta : TE} {t : TA} {f C : Addr} {fd : FuncData} {ps : List Str} {pins : List (Addr × Obj)} {σ : L2.St} {H : Hp} {s : Shared} {Q : VK} {us : List Value} {vs : List V}
theorem goW (F : FnOk X.prog X.w X.K X.mg X.base (L2.CX X.prog X.w) k f fd ps sp) (room : Room k X.A) (bind : Binds X.K fd ps []) (tk : Takes X W) (I : Inv X pins σ H s) (rv : Vals vs us) (h : sp vs H Q (EW W σ)) :
    wpAny (model X.prog X.w) X.A (call (.ref f) us) (EP X pins σ Q) X.xe s := by
  have sz := F.len vs H Q _ h
  have bd := bind s us I.kIn (by rw [List.append_nil, ← rv.length]; exact sz)
  rw [List.append_nil] at bd
  apply wpAny_call
  apply codeAny_mono (F.run X.A X.stack s H ⟨us, []⟩ us vs Q (EW W σ) room I.env0 bd rv h)
  intro r s2 post
  cases r with
  | error u => exact tk u s2 (XE.of_call I (fun _ _ _ z => z) post)
  | ok fl =>
    cases fl with
    | ret u => exact I.after post
    | next => exact post.elim
    | brk => exact post.elim
    | cont => exact post.elim
theorem pe_cxW (hK : X.K = K) (c : CalX X.prog X.w K X.mg X.base k x sp) (hr : Room j X.A) (hk : k ≤ j) (tk : Takes X W) (ha : PA X (e :: es) t) (hg : Gl X x := by rfl) (hdb : (x == ("__debug__" : Str)) = false := by decide)
    (he : starEach (e :: es) X.env = (false, eval e X.env) :: starEach es X.env := by rfl) (hpl : (backTo pos (starEach es X.env)).any (·.1) = false := by rfl) : PE X (.Call (.Name x p) (e :: es) [] pos) (tCallW sp W t) := by
  subst hK
  obtain ⟨f, fd, ps, F, hm, kp, hb⟩ := c.ex
  constructor
  intro pins s σ H Q I h
  apply wpAny_Call_Name_kw (ld_glob I hg hm ?_ hdb)
  apply PySem.W.callWith_K (h₀ := X.base) I.ok.mod.kin kp _ he hpl
  apply thn (ha.run pos pins s σ H _ I h)
  rintro us s1 ⟨vs, H1, J, rv, q⟩
  exact ⟨J.kIn, goW F (hr.mono hk) hb tk J rv q⟩
theorem pe_kxW (hK : X.K = K) (c : MakX X.prog X.w K X.mg X.base k x sp) (hr : Room j X.A) (hk : k + 1 ≤ j) (tk : Takes X W) (ha : PA X (e :: es) t) (hg : Gl X x := by rfl) (hdb : (x == ("__debug__" : Str)) = false := by decide)
    (he : starEach (e :: es) X.env = (false, eval e X.env) :: starEach es X.env := by rfl) (hpl : (backTo pos (starEach es X.env)).any (·.1) = false := by rfl) : PE X (.Call (.Name x p) (e :: es) [] pos) (tMakeW (He.ga K x) sp W t) := by
  subst hK
  obtain ⟨f, fd, ps, M, F, hm, hb⟩ := c.ex
  constructor
  intro pins s σ H Q I h
  apply wpAny_Call_Name_kw (ld_glob I hg hm ?_ hdb)
  apply PySem.W.callWith_K (h₀ := X.base) I.ok.mod.kin M.kp _ he hpl
  apply thn (ha.run pos pins s σ H _ I h)
  rintro us s1 ⟨vs, H1, J, rv, q⟩
  refine ⟨J.kIn, ?_⟩
  have z := q (s1.heap.objs.size + 1) s1.heap.objs.size (J.hok.fresh (Nat.le_succ _)) (J.hok.fresh (Nat.le_refl _)) (Nat.ne_of_lt (Nat.lt_succ_self _))
  have J2 := Inv.made (C := He.ga X.K x) J
  have rv2 : Vals (V.ref (s1.heap.objs.size + 1) :: vs) (Value.ref (s1.heap.objs.size + 1) :: us) := .cons rfl rv
  have sz : (Value.ref (s1.heap.objs.size + 1) :: us).length = ps.length := by rw [← rv2.length]; exact F.len _ _ _ _ z
  have bd := hb _ (Value.ref (s1.heap.objs.size + 1) :: us) J2.kIn (by rw [List.append_nil]; exact sz)
  rw [List.append_nil] at bd
  apply wpAny_call
  refine make_map (f := f) J.kIn M.makes M.init (beq_iff_eq.mp M.fn) (codeAny_mono (F.run _ X.stack _ _ ⟨Value.ref (s1.heap.objs.size + 1) :: us, []⟩ _ _ _ (EW W σ) ((hr.mono hk).make _ us []) (J2.env0.make _ us []) bd rv2 z) ?_)
  intro r s2 post
  cases r with
  | error u => exact tk u s2 (XE.of_call J2 (fun _ _ _ z => z) post)
  | ok fl =>
    cases fl with
    | ret u =>
      obtain ⟨v, H2, J3, r3, e3, q3⟩ := J2.after post
      subst e3
      exact ⟨r3, ⟨V.ref (s1.heap.objs.size + 1), H2, J3, rfl, q3⟩⟩
    | next => exact post.elim
    | brk => exact post.elim
    | cont => exact post.elim
theorem pe_mxW {pl : Sem Bool} (hK : X.K = K) (he : PE X o ta) (c : MetX X.prog X.w K X.mg X.base k x m sp) (hr : Room j X.A) (hk : k ≤ j) (tk : Takes X W) (ha : PA X (e :: es) t)
    (hst : starEach (e :: es) X.env = (false, eval e X.env) :: starEach es X.env := by rfl) (hpl : (backTo pos (starEach es X.env)).any (·.1) = false := by rfl)
    (ht : eval (.Call (.Attribute o m apos) (e :: es) [] pos) X.env = (do
      let ov ← eval o X.env
      standAt apos.atName
      let (f, first) ← holding [ov] (getMethod ov m pl)
      callWith pos f first (backTo pos (starEach (e :: es) X.env)) (backToKw pos (keywordEach [] X.env))) := by rfl) :
    PE X (.Call (.Attribute o m apos) (e :: es) [] pos) (tMethW (He.ga K x) m sp W ta t) := by
  subst hK
  obtain ⟨f, fd, ps, hC, hm, F, hb⟩ := c.ex
  constructor
  intro pins s σ H Q I h
  apply PySem.W.methodCall_KW (pl := pl) _ ht
  apply thn (he.run pins s σ H _ I h)
  rintro u s1 ⟨v, H1, J, rx, a, dx, fs, ex, ea, l, q⟩
  subst ex
  have rx : u = Value.ref a := rx
  subst rx
  refine getmeth_ok J ea hC hm l ?_
  apply PySem.W.callWith_K (first := [.ref a]) (h₀ := X.base) J.ok.mod.kin hm.kp _ hst hpl
  apply thn (ha.run pos pins s1 σ H1 _ J q)
  rintro us s2 ⟨vs, H2, J2, r2, q2⟩
  exact ⟨J2.kIn, goW (us := .ref a :: us) (vs := .ref a :: vs) F (hr.mono hk) hb tk J2 (.cons rfl r2) q2⟩
end
end TL
/-! ## TL17: try: .. except X as n: .. -/
namespace TL
open PySem PySem.Spec PyProof.Rows L2
def XSW (K : PySem.W.Frag) (W : WX) (e : Exn) (σ : L2.St) (H : Hp) : Prop := XS K (EW W σ) e H
section
variable {K : PySem.W.Frag} {W : WS} {σ : L2.St} {F H F' H' F0 H0 : Hp} {α β γ δ ρ S : Type} {ta : Ty α} {tb : Ty β} {tc : Ty γ} {te te1 te2 te3 : TE} {v : V} {Wb : WX}
theorem evW_iff {sp : Sp} {tx : TA} {t : Ty β} {m : R β} (h : Ev t (tCall sp [] (EW Wb σ) tx) W σ F H m) : Ev t (tCallW sp Wb tx) W σ F H m := fun F1 H1 f1 Q q => by
  have z := h F1 H1 f1 Q q
  unfold tCall at z
  simp only [List.append_nil] at z
  exact z
theorem ev_callW {u : TyA α} {g : α → R β} {m : R α} {tx : TA} (hw : ∀ e H, W e σ H → XSW K Wb e σ H) (h : EvA u tx W σ F H m) : Ev tb (tCallW (SpF K u tb g) Wb tx) W σ F H (bd m g) := evW_iff (ev_call (E := EW Wb σ) hw h)
theorem ev_makeW {x : Str} {names : List Str} {u : TyA α} {t : TyA β} {g : α → R β} {m : R α} {tx : TA} (hw : ∀ e H, W e σ H → XSW K Wb e σ H) (h : EvA u tx W σ F H m) :
    Ev (tObj K x names t) (tMakeW (He.ga K x) (SpI K x names u t g) Wb tx) W σ F H (bd m g) := fun F1 H1 f1 Q q => by
  have z := ev_make (E := EW Wb σ) hw h F1 H1 f1 Q q
  unfold tMake at z
  simp only [List.append_nil] at z
  exact z
theorem ev_methW {C mn : Str} {names : List Str} {u : TyA α} {u2 : TyA β} {tc : Ty γ} {g : α × β → R γ} {m1 : R α} {m2 : R β} {tx : TA} (hw : ∀ e H, W e σ H → XSW K Wb e σ H) (hn : names.findIdx? (fun y => y == mn) = none) (h1 : Ev (tObj K C names u) te W σ F H m1) (h2 : EvA u2 tx W σ F H m2) :
    Ev tc (tMethW (He.ga K C) mn (SpF K (aCons (tObj K C names u) u2) tc g) Wb te tx) W σ F H (bd m1 fun a => bd m2 fun b => g (a, b)) := fun F1 H1 f1 Q q => by
  have z := ev_meth (E := EW Wb σ) hw hn h1 h2 F1 H1 f1 Q q
  unfold tMeth at z
  simp only [List.append_nil] at z
  exact z
/-- the body's end, or what the clause makes of an exception of the classes tb -/
def tryR (tb : List Str) (A : R S) (B : Exn → R S) : R S := match A with
  | .ok s => .ok s
  | .err (.own c) => if c ∈ tb then B (.own c) else .stuck
  | _ => .stuck
def tTryH (K : PySem.W.Frag) (c : Value) (i : Nat) (tbd : WX → TS) (ts : Addr → Addr → TS) (Wout : WX) : TS := fun D σ H => tbd (wHeld K c i ts Wout D) D σ H
theorem s_try {tbl : List Str} {cl : Value} {i : Nat} {tbd : WX → TS} {ts : Addr → Addr → TS} {Wout : WX} {D : Ends} {A : R S} {B : Exn → R S} {rest : S → R γ} {KK : γ → Prop} {XX : Exn → Prop} (St : S → L2.St → Hp → Hp → Prop) (Rz : L2.St → Prop)
    (fr : Fr F0 H0 F H) (ht : ∀ c ∈ tbl, PySem.W.exmOne K (.ref (He.ga K c)) cl = some true) (hp : Post (bd (tryR tbl A B) rest) KK XX)
    (k1 : ∀ (Wb : WX) (D' : Ends) (K' : S → Prop) (X' : Exn → Prop), D'.rt = D.rt → D'.bk = D.bk → D'.ct = D.ct → Post A K' X' → (∀ s σ2 F2 H2, Same F F2 → St s σ2 F2 H2 → K' s → D'.nx σ2 H2) →
      (∀ e, X' e → ∀ (_ : L2.St) F2 H2, Fr F H F2 H2 → ∀ τ, Rz τ → XSW K Wb e τ H2) → tbd Wb D' σ H)
    (k2 : ∀ (D' : Ends) (K' : S → Prop) c a τ F' H', D'.rt = D.rt → Fr F H F' H' → Rz τ → (tExn K).rep F' (.ref a) (.own c) → Post (B (.own c)) K' XX → (∀ s σ2 F2 H2, Same F F2 → St s (σ2.set i none) F2 H2 → K' s → D'.nx σ2 H2) →
      ts a (He.ga K c) D' (τ.set i (some (.ref a))) H')
    (k3 : ∀ s σ2 F2 H2, Same F F2 → St s σ2 F2 H2 → Post (rest s) KK XX → D.nx σ2 H2) : tTryH K cl i tbd ts Wout D σ H := by
  have q := post_bd hp
  refine k1 (wHeld K cl i ts Wout D) D (fun s => Post (rest s) KK XX) (fun e => ∃ c, e = .own c ∧ c ∈ tbl ∧ Post (B (.own c)) (fun s => Post (rest s) KK XX) XX) rfl rfl rfl ?_ k3 ?_
  · cases A with
    | stuck => exact q
    | ok s => exact q
    | err e =>
      cases e with
      | fld _ _ _ => exact q.elim
      | own c =>
        have q : Post (if c ∈ tbl then B (.own c) else .stuck) _ _ := q
        by_cases hc : c ∈ tbl
        · rw [if_pos hc] at q
          exact ⟨c, rfl, hc, q⟩
        · rw [if_neg hc] at q
          exact q.elim
  · rintro e ⟨c, rfl, hc, q⟩ _ F2 H2 f2 τ hτ
    show wHeld K cl i ts Wout D (.ref (He.ga K c)) none τ H2
    refine ⟨true, ht c hc, fun _ => ⟨_, rfl, rfl, fun a ha => ?_⟩, fun z => nomatch z⟩
    exact k2 _ (fun s => Post (rest s) KK XX) c a τ _ _ rfl (f2.trans (Fr.alloc f2.s ha)) hτ ⟨a, rfl, upd_same⟩ q fun s σ2 F3 H3 sm st k => k3 s _ F3 H3 sm st k
end
section
variable {X : Cx} {K : PySem.W.Frag} {x n : Str} {c : Value} {i : Nat} {body suite : List Stmt} {b₀ : Stmt} {np pos pos' : Pos} {tbd : WX → TS} {ts : Addr → Addr → TS} {Wout : WX}
theorem ps_tryK (hK : X.K = K) (hex : X.ex = []) (hst : X.stack = X.env :: X.outer) (hfr : X.env.frame = some X.env.locals) (nd : X.N.Nodup) (at_ : X.N[i]? = some n) (loc : X.env.kindOf n = some .local) (nm : Names X x c) (tk : Takes X Wout)
    (hb : ∀ (W : WX) (pn : List (Addr × Obj)) (xe : Value → Shared → Prop), Takes (X.tr pn xe) W → PassesOwn (model X.prog X.w) X.A X.env xe → PSs (X.tr pn xe) body (tbd W)) (hsu : ∀ (a C : Addr) (pn : List (Addr × Obj)), PSs (X.suite a pn) (b₀ :: suite) (ts a C)) :
    PS X (.Try body [.ExceptHandler (some (.Name x np)) (some n) (b₀ :: suite) pos'] [] [] pos) (tTryH K c i tbd ts Wout) := by
  subst hK
  exact ps_try_held hex hst hfr nd at_ loc nm tk hb hsu
end
end TL
/-! ## TL18: list * int, join, classes by name, endings over hookX -/
namespace TL
open PySem PySem.Spec PyProof.Rows L2
section
variable {K : PySem.W.Frag} {W : WS} {σ : L2.St} {F H F' H' F0 H0 : Hp} {α β γ δ ρ S : Type} {ta : Ty α} {tb : Ty β} {tc : Ty γ} {te te1 te2 te3 : TE} {v : V}
def repR (as : List α) (k : Int) : R (List α) := if In62 k ∧ as.length * k.toNat ≤ 100000 then .ok (List.replicate k.toNat as).flatten else .stuck
theorem paired_rep {P : V → α → Prop} {vs : List V} {as : List α} (r : Paired P vs as) : ∀ n : Nat, Paired P (List.replicate n vs).flatten (List.replicate n as).flatten
  | 0 => .nil
  | n + 1 => by
    rw [List.replicate_succ, List.replicate_succ, List.flatten_cons, List.flatten_cons]
    exact paired_append r (paired_rep r n)
theorem el_rep {m1 : R (List α)} {m2 : R Int} (h1 : Ev (yList ta) te1 W σ F H m1) (h2 : Ev tInt te2 W σ F H m2) : EvL ta (tOp rRep te1 te2) W σ F H (bd m1 fun a => bd m2 fun b => repR a b) := fun F1 H1 f1 Q q => by
  refine h1 F1 H1 f1 _ (post_imp (post_bd q) (fun xs _ q1 x F2 H2 f2 ⟨p, vs, ev, hs, rv⟩ => ?_) fun e _ z => z)
  refine h2 F2 H2 (f1.trans f2) _ (post_imp (post_bd q1) (fun k _ z y F3 H3 f3 ry => ?_) fun e _ z F4 H4 f4 => z F4 H4 (f2.trans f4))
  unfold repR at z
  by_cases hc : In62 k ∧ xs.length * k.toNat ≤ 100000
  · rw [if_pos hc] at z
    obtain ⟨⟨c1, c2⟩, c3⟩ := hc
    have rv3 := paired_mono f3.f rv
    have ff := f2.trans f3
    exact ⟨p, k, vs, ev, ry, f3.s _ _ (f3.f _ _ hs), Int.le_trans (by decide) c1, Int.lt_of_lt_of_le c2 (by decide), small_line (by rw [rv.length]; exact c3), fun l hl => z l _ F3 _ (ff.trans (Fr.fresh f3.s hl)) (ff.h.free hl) (f3.s.free hl) upd_same (paired_rep rv3 _)⟩
  · rw [if_neg hc] at z
    exact z.elim
/-- sep.join(texts) -/
def joinSR (a : Str) (ys : List Str) : R Str := if (ys.map (·.length)).sum + ys.length * a.length ≤ 16777216 then .ok (Txt.join a ys) else .stuck
def rJoinT (K : PySem.W.Frag) : V → List V → Hp → VK → Prop := fun x xs H Q => ∃ a p, ∃ ys : List Str, x = .str a ∧ xs = [.ref p] ∧ (SqL K H p (ys.map V.str) ∨ SqT K H p (ys.map V.str)) ∧ (ys.map (·.length)).sum + ys.length * a.length ≤ 16777216 ∧ Q (.str (Txt.join a ys)) H
theorem mt_joinK {X : Cx} (hK : X.K = K) : MtR X "str.join" (rJoinT K) := by
  subst hK
  exact mt_join
theorem calm_joinSR {a : Str} {ys : List Str} : Calm (joinSR a ys) := calm_ite calm_ok calm_stuck
theorem ev_join {m1 : R Str} {m2 : R (List Str)} (h1 : Ev tStr te1 W σ F H m1) (h2 : Ev (tList K tStr) te2 W σ F H m2) : Ev tStr (tM1 (rJoinT K) te1 te2) W σ F H (bd m1 fun a => bd m2 fun b => joinSR a b) := fun F1 H1 f1 Q q => by
  refine h1 F1 H1 f1 _ (post_imp (post_bd q) (fun a _ q1 x F2 H2 f2 rx => ⟨⟨a, rx⟩, ?_⟩) fun e _ z => z)
  refine h2 F2 H2 (f1.trans f2) _ (post_imp (post_bd q1) (fun ys _ z y F3 H3 f3 ⟨p, vs, ev, hs, rv⟩ => ?_) fun e _ z F4 H4 f4 => z F4 H4 (f2.trans f4))
  unfold joinSR at z
  by_cases hc : (ys.map (·.length)).sum + ys.length * a.length ≤ 16777216
  · rw [if_pos hc] at z
    exact ⟨a, p, ys, rx, by rw [ev], .inl (by rw [← paired_strs rv]; exact sqL_mono f3.s hs), hc, z _ F3 H3 (f2.trans f3) rfl⟩
  · rw [if_neg hc] at z
    exact z.elim
theorem nn_exn : NotNon (tExn K) := fun F v a r e => by
  cases a with
  | own c =>
    obtain ⟨p, h, _⟩ := r
    rw [e] at h
    cases h
  | fld _ _ _ => exact r
end
section
variable {X : Cx} {x : Str} {pos : Pos} {a : Addr}
theorem pe_gc (h : X.mg x = some (.ref a)) (hg : Gl X x := by rfl) (hd : (x == ("__debug__" : Str)) = false := by decide) : PE X (.Name x pos) (tC (.ref a)) := pe_glob (v := .ref a) hg h rfl hd
end
/-! ### endings over hookX -/
theorem law_endX {l : PySem.W.OpenLaw} {n k nn : Nat} {q : Program} {loose : List Str} {XP : (Str → Option Value) → Heap → Prop} {d : DefRec} {fa : List He.Fa} {fn : List He.DefD} {fx : PySem.W.Frag → Bool} {m : List Int → R Bool} {y : Str}
    (hn : l.most = some n) (hn2 : n ≤ sizeLine) (hdf : d.params.defaults = []) (hr : Room k callerA)
    (F : ∀ (w : World) (K : PySem.W.Frag) (mg : Str → Option Value) (h : Heap), K.In h → h.Ns mainGlobals mg → He.SaysD fa fn K → fx K = true → LawX l.prog w K mg k d.name y (SpF K (aOne (tList K tInt)) tBool m))
    (M : ∀ ns : List Int, ns.length ≤ n → m ns = .ok true) :
    PySem.W.WalkO q loose XP (hookX nn fa fn fx).says l.row.toRowW d [] (fun f vs => PySem.call f vs) := by
  refine Att.attach_call hn hdf fun w s₀ s₁ mg mb f o pm cd doc a vs ns G Y ho hd hcd hmg hobj hints hlen hg => ?_
  obtain ⟨K, KX, hs, hx⟩ := Y
  obtain ⟨f2, fd, hF, hm2, hb⟩ := (F w K mg _ KX G.T.g hs hx).ex
  obtain rfl : f2 = f := by
    rw [hmg] at hm2
    injection hm2 with z
    injection z with z
    exact z.symm
  refine law_call (sp := SpF K (aOne (tList K tInt)) tBool m) KX G.T.g G.T.b G.T.builtins G.T.nolimit hg hobj hints (Nat.le_trans hlen hn2) hr (fun base _ _ => hF base) hb (fun H hO hS => ?_) fun H e s' z => ?_
  · refine ⟨H, ns, Same.refl H, ⟨_, rfl, a, ns.map V.int, rfl, hS, paired_of_ints ns⟩, ?_⟩
    rw [M ns hlen]
    exact fun v F' H' _ r => r
  · obtain ⟨_, _, _, _, _, _, _, _, _, _, _, _, z⟩ := z
    exact z
theorem law_endGX {l : PySem.W.OpenLaw} {n k nn : Nat} {q : Program} {loose : List Str} {XP : (Str → Option Value) → Heap → Prop} {d : DefRec} {fa : List He.Fa} {fn : List He.DefD} {fx : PySem.W.Frag → Bool} {m : List Int → R Bool} {y : Str}
    (hn : l.most = some n) (hn2 : n ≤ sizeLine) (hdf : d.params.defaults = []) (hr : Room k callerA)
    (F : ∀ (w : World) (K : PySem.W.Frag) (mg : Str → Option Value) (h : Heap), K.In h → h.Ns mainGlobals mg → He.SaysD fa fn K → fx K = true → LawG l.prog w K mg k d.name y (SpF K (aOne (tList K tInt)) tBool m))
    (M : ∀ ns : List Int, ns.length ≤ n → m ns = .ok true) :
    PySem.W.WalkO q loose XP (hookX nn fa fn fx).says l.row.toRowW d [] (fun f vs => PySem.call f vs) := by
  refine Att.attach_call hn hdf fun w s₀ s₁ mg mb f o pm cd doc a vs ns G Y ho hd hcd hmg hobj hints hlen hg => ?_
  obtain ⟨K, KX, hs, hx⟩ := Y
  obtain ⟨f2, fd, hF, hm2, hb⟩ := (F w K mg _ KX G.T.g hs hx).ex
  obtain rfl : f2 = f := by
    rw [hmg] at hm2
    injection hm2 with z
    injection z with z
    exact z.symm
  exact law_goG KX G.T.g G.T.b G.T.builtins G.T.nolimit hg hobj hints (Nat.le_trans hlen hn2) hr hF hb (M ns hlen)
end TL
namespace TL
open PySem PySem.Spec PyProof.Rows L2
section
variable {K : PySem.W.Frag} {W : WS} {σ : L2.St} {F H : Hp} {α : Type} {ta : Ty α} {te : TE}
theorem ev_toDY {enc : α → PyData} {n : Nat} (da : IsD K ta enc n) {m : R (List α)} (h : Ev (yList ta) te W σ F H m) : Ev (yList (tDyn K)) te W σ F H (bd m fun as => .ok (as.map fun a => Dyn.dat (enc a))) := ev_cast (fun F v a r b e => by
  cases e
  obtain ⟨p, vs, h1, h2, h3⟩ := r
  exact ⟨p, vs, h1, h2, paired_toD da h3⟩) (fun _ => calm_ok) h
end
end TL
/-! ## TL19: enumerate of a tuple -/
namespace TL
open PySem PySem.Spec PyProof.Rows L2
open Sem (wp)
theorem meets_enumT (a : Addr) (items : Array Value) :
    Meets (Builtin.«enumerate.__new__» ⟨[.type "enumerate", .ref a], []⟩) (fun _ R s => s.heap.IsTuple a items ∧
      R (.ok (.ret (.ref (s.heap.push { cls := .type "tuple_iterator", data := .fields #[.ref a, .int 0 0] }).objs.size)))
        { s with heap := (s.heap.push { cls := .type "tuple_iterator", data := .fields #[.ref a, .int 0 0] }).push { cls := .type "enumerate", data := .fields #[.none, .bool false, .ref s.heap.objs.size, rawInt 0, .none, .none] } }) :=
  .of_wp fun prog w A R s post => by
    obtain ⟨hp, gs, dr, tk, os⟩ := s
    obtain ⟨tu, post⟩ := post
    have sub := sub_enumerate
    have it : ∀ {A2 : Around} {E Q : Value → Shared → Prop}, Q (.ref hp.objs.size) ⟨hp.push { cls := .type "tuple_iterator", data := .fields #[.ref a, .int 0 0] }, gs, dr, tk, os⟩ → wpAny (model prog w) A2 (pyIter (.ref a)) Q E ⟨hp, gs, dr, tk, os⟩ :=
      fun q => wpAny_pyIter_tuple tu q
    wp_walk using it
    refine wpAny_stack_any fun st => wpAny_pure ?_
    split
    · rename_i c _ _ _ _ _
      cases (c == Value.type "enumerate")
      · wp_walk using it
        exact ⟨_, rfl, post⟩
      · wp_walk using it
        exact ⟨_, rfl, post⟩
    · wp_walk using it
      exact ⟨_, rfl, post⟩
section
variable {prog : Program} {w : World} {A : Around} {E : Value → Shared → Prop} {s : Shared}
theorem call_enumT {a : Addr} {items : Array Value} {Q : Value → Shared → Prop} (tu : s.heap.IsTuple a items)
    (h : ∀ h2, IsEnum h2 (s.heap.objs.size + 1) s.heap.objs.size 0 .none → h2.IsTupleIter s.heap.objs.size a 0 → h2.objs.size = s.heap.objs.size + 2 →
      (∀ b o, s.heap.get? b = some o → h2.get? b = some o) → Q (.ref (s.heap.objs.size + 1)) { s with heap := h2 }) : wpAny (model prog w) A (call (.type "enumerate") [.ref a]) Q E s := by
  apply callType_new F.called_enumerate (by decide) (F.typeCall_enumerate_1 _) (F.newCall_enumerate_1 _) (fun obj => F.args_object_init_2 obj _) F.entry_enumerate_new (meets_enumT a items)
  refine ⟨tu, ?_⟩
  have sz : (s.heap.push { cls := .type "tuple_iterator", data := .fields #[.ref a, .int 0 0] }).objs.size = s.heap.objs.size + 1 := Heap.size_push ..
  show _ ∧ _
  rw [sz]
  have en : IsEnum ((s.heap.push { cls := .type "tuple_iterator", data := .fields #[.ref a, .int 0 0] }).push
      { cls := .type "enumerate", data := .fields #[.none, .bool false, .ref s.heap.objs.size, rawInt 0, .none, .none] }) (s.heap.objs.size + 1) s.heap.objs.size 0 .none := by
    have z := Heap.get?_push_size (s.heap.push { cls := .type "tuple_iterator", data := .fields #[.ref a, .int 0 0] }) (o := { cls := .type "enumerate", data := .fields #[.none, .bool false, .ref s.heap.objs.size, rawInt 0, .none, .none] }) rfl
    rw [sz] at z
    exact z
  refine ⟨⟨_, en, rfl⟩, h _ en ⟨_, Heap.get?_push_of_some _ (Heap.get?_push_size _ rfl), rfl, rfl⟩ ?_ ?_⟩
  · rw [Heap.size_push, sz]
  · exact fun b o x => Heap.get?_push_of_some _ (Heap.get?_push_of_some _ x)
end
/-- the tuple at a, each item in a new pair -/
def IteT (K : PySem.W.Frag) (a : Addr) : It :=
  ⟨fun i H => ∃ (xs : List V) (x : V), SqT K H a xs ∧ xs[i]? = some x, fun i H v G => ∃ T x, v = .ref T ∧ H T = none ∧ G = upd H T (.tup [.int (i : Nat), x]) ∧ ∀ xs, SqT K H a xs → xs[i]? = some x, fun i H => ∃ xs : List V, SqT K H a xs ∧ xs.length ≤ i⟩
theorem turn_enumT {P : Program} {w : World} {K : PySem.W.Frag} {elts : List Expr} {kk : Nat} {tpos : Pos} (a e it : Addr) (apart : a ≠ it ∧ a ≠ e) :
    Turn P w K (.Tuple elts kk tpos) (IteT K a) [e, it] e (fun i h => (∃ old, IsEnum h e it ((i : Nat) : Int) old) ∧ h.IsTupleIter it a i ∧ e ≠ it) where
  mem := by simp
  obj := fun i h st b hb => by
    obtain ⟨⟨old, en⟩, ⟨o, at_, c, d⟩, _⟩ := st
    have two : b = e ∨ b = it := by simpa using hb
    rcases two with z | z
    · rw [z]
      exact ⟨_, en, fun v q => nomatch q⟩
    · rw [z]
      exact ⟨o, at_, fun v q => by rw [d] at q; cases q⟩
  keep := fun i h g st k => by
    obtain ⟨⟨old, en⟩, ti, ne⟩ := st
    exact ⟨⟨old, k e (by simp) _ en⟩, ti.at fun o q => k it (by simp) o q, ne⟩
  item := by
    intro X hP hw hK hc i pins s σ H E I hf st hg
    subst hP hw hK
    obtain ⟨⟨old, en⟩, ti, ne⟩ := st
    obtain ⟨xs, x, sq, hx⟩ := hg
    obtain ⟨its, rv, tup, _⟩ := I.tuple sq
    have tup : s.heap.IsTuple a its.toArray := tup
    obtain ⟨u, hu, ru⟩ := rv.get hx
    have lt_e : e < s.heap.objs.size := Heap.lt_size en
    have lt_it : it < s.heap.objs.size := by
      obtain ⟨_, q, _⟩ := ti
      exact Heap.lt_size q
    have lt : i < its.toArray.size := by
      have := (List.getElem?_eq_some_iff.mp hu).1
      simpa using this
    refine wpAny_pyNext_enum_itemD (Draws.tuple (A := X.A.in1) (show X.A.in1.handled = none from I.ok.hd hc) it a apart.1 its.toArray) en (show s.heap.IsTupleIter it a i ∧ s.heap.IsTuple a its.toArray from ⟨ti, tup⟩) lt ne (by simp; exact ⟨ne, fun z => apart.2 z.symm⟩) fun u2 g tk hu2 out st2 at_ sz kept => ?_
    have hu2 : its[i]? = some u2 := by simpa using hu2
    rw [hu] at hu2
    have hu2 := Option.some.inj hu2
    subst hu2
    refine ⟨_, rfl, wpAny_letOwnedTupleGo_enum (s := { s with heap := g, toks := tk + 1 }) out fun g2 en2 sb => ?_⟩
    have at2 : g2.get? s.heap.objs.size = some { cls := .type "tuple", data := .seq #[.int i tk, u] } := (sb.2 _ (Nat.ne_of_gt lt_e)).trans at_
    have new : ObjOk X.prog X.w (upd H s.heap.objs.size (.tup [.int (i : Nat), x])) g2 s.heap.objs.size (.tup [.int (i : Nat), x]) := by
      refine ⟨by show 2 ≤ sizeLine; decide, [.int i tk, u], .cons ⟨_, rfl⟩ (.cons ru .nil), ⟨_, at2, rfl, _, rfl⟩⟩
    have I2 : Inv X pins σ (upd H s.heap.objs.size (.tup [.int (i : Nat), x])) { s with heap := g2, toks := tk + 1 } := by
      refine I.turnedNew (ch := [e, it]) (fun b ob hb q => ?_) hf (Nat.le_refl _) new
      have n1 : b ≠ e := fun z => hb (by simp [z])
      have n2 : b ≠ it := fun z => hb (by simp [z])
      exact (sb.2 b n1).trans (kept b ob n1 n2 q)
    refine ⟨.ref s.heap.objs.size, _, I2, rfl, ⟨_, x, rfl, I.hok.fresh (Nat.le_refl _), rfl, fun ys hy => by rw [I.tuple_inj hy sq]; exact hx⟩, ⟨⟨u, ?_⟩, st2.1.at fun o q => (sb.2 it (Ne.symm ne)).trans q, ne⟩, fun b hb => ?_⟩
    · rw [show ((i + 1 : Nat) : Int) = (i : Int) + 1 by omega]
      exact en2
    · have below : b < s.heap.objs.size := by
        have two : b = e ∨ b = it := by simpa using hb
        rcases two with z | z
        · rw [z]
          exact lt_e
        · rw [z]
          exact lt_it
      rw [upd_ne (Nat.ne_of_lt below)]
      exact (hf b hb).1
  done := by
    intro X hP hw hK hc i pins s σ H E I hf st hg
    subst hP hw hK
    obtain ⟨⟨old, en⟩, ti, ne⟩ := st
    obtain ⟨xs, sq, hx⟩ := hg
    obtain ⟨its, rv, tup, _⟩ := I.tuple sq
    have tup : s.heap.IsTuple a its.toArray := tup
    obtain ⟨f0, f1, f2, f3, f4, f5⟩ := hf it (by simp)
    have hl := rv.length
    have off : its.toArray[i]? = none := by
      simp
      omega
    have D : Draws X.prog X.w X.A.in1 it [it, a] i (fun _ _ => True) (fun j h => j = i ∧ h.IsTupleIter it a i ∧ h.IsTuple a its.toArray) := {
      live := fun _ _ q => by
        obtain ⟨_, ⟨o, ho, _⟩, _⟩ := q
        exact ⟨o, ho⟩
      frame := fun _ _ _ q hk => ⟨q.1, q.2.1.at fun o e => hk it (by simp) o e, q.2.2.at fun o e => hk a (by simp) o e⟩
      item := fun j s Q E hj q _ => absurd q.1 (Nat.ne_of_lt hj)
      done := fun s Q E q hE => wpAny_nextOf_tuple_end (show X.A.in1.handled = none from I.ok.hd hc) q.2.1 q.2.2 off hE }
    exact wpAny_pyNext_enum_endD D en ⟨rfl, ti, tup⟩ fun g eb => ⟨rfl, I.turned (t' := s.toks) (fun b o hb q => eb b o hb q) f0 f1 f3 f4 f5⟩
  self := fun A i s Q E st h => by
    obtain ⟨⟨_, en⟩, _⟩ := st
    exact wpAny_pyIter_enum en h
def iEnumT (K : PySem.W.Frag) (ta : TA) : TI := fun σ H R => ta σ H fun vs H1 => ∃ a xs, vs = [.ref a] ∧ SqT K H1 a xs ∧ R (IteT K a) H1
theorem pi_enumT {X : Cx} {K : PySem.W.Frag} {e : Expr} {ta : TA} {p pos tpos : Pos} {elts : List Expr} {kk : Nat} (hK : X.K = K) (hm : X.mg "enumerate" = none) (ha : PA X [e] ta) (hg : Gl X "enumerate" := by rfl) (hs : starEach [e] X.env = [(false, eval e X.env)] := by rfl) :
    PI X (.Tuple elts kk tpos) (.Call (.Name "enumerate" p) [e] [] pos) (iEnumT K ta) := by
  subst hK
  constructor
  intro pins s σ H R I h
  refine Call_ (ld_blt I hg hm boot_enumerate (PyProof.Rows.callWith_type1 (thn (ha.run pos pins s σ H _ I h) fun us s1 ⟨vs, H1, J, rv, q⟩ => ?_) hs rfl))
  obtain ⟨a, xs, ex, sq, q⟩ := q
  subst ex
  cases rv with
  | cons r rest =>
    cases rest
    cases r
    obtain ⟨its, rv2, tup, _⟩ := J.tuple sq
    have tup : s1.heap.IsTuple a its.toArray := tup
    have lt : a < s1.heap.objs.size := by
      obtain ⟨o, at_, _⟩ := tup
      exact Heap.lt_size at_
    refine call_enumT tup fun g en ti sz kept => wpAny_pyIter_enum en ?_
    have J2 : Inv X pins σ H1 { s1 with heap := g } := J.kept (t' := s1.toks) kept
    refine ⟨s1.heap.objs.size + 1, [s1.heap.objs.size + 1, s1.heap.objs.size], _, _, H1, rfl, J2, turn_enumT a (s1.heap.objs.size + 1) s1.heap.objs.size ⟨Nat.ne_of_lt lt, Nat.ne_of_lt (Nat.lt_succ_of_lt lt)⟩, ⟨⟨.none, en⟩, ti, Nat.succ_ne_self _⟩, fun b hb => ?_, q⟩
    have two : b = s1.heap.objs.size + 1 ∨ b = s1.heap.objs.size := by simpa using hb
    have up : s1.heap.objs.size ≤ b := by rcases two with z | z <;> rw [z] <;> omega
    exact J.fpOk up (J.hok.fresh up)
section
variable {K : PySem.W.Frag} {W : WS} {σ : L2.St} {F H : Hp} {α : Type} {ta : Ty α} {te : TE}
theorem ei_enumT {m : R (List α)} (h : Ev (yTupL K ta) te W σ F H m) : EvI (yTup K (aCons tInt (aOne ta))) (iEnumT K (tCons te tNil)) W σ F H (bd m fun xs => .ok (enumG xs)) := fun F1 H1 f1 Rr q =>
  h F1 H1 f1 _ (post_imp (post_bd q) (fun xs _ k x F2 H2 f2 ⟨p, vs, ex, hs, rv⟩ => ⟨p, vs, by rw [ex], sqT_mono f2.s hs, k _ F2 H2 f2 fun F3 H3 s3 s4 i => by
    have hs3 : SqT K H3 p vs := sqT_mono s4 (sqT_mono s3 hs)
    refine ⟨fun hi => ⟨vs, hs3, by unfold enumG at hi; rw [List.length_map, List.length_zipIdx] at hi; rw [rv.length]; exact hi⟩, fun x hx => ?_⟩
    unfold enumG at hx
    rw [List.getElem?_map, List.getElem?_zipIdx] at hx
    cases ei : xs[i]? with
    | none =>
      rw [ei] at hx
      cases hx
    | some a =>
      rw [ei] at hx
      have hx := (Option.some.inj hx).symm
      subst hx
      obtain ⟨w, h1, h2⟩ := paired_get rv ei
      refine ⟨⟨vs, w, hs3, h1⟩, ?_⟩
      rintro v G ⟨T, y, rfl, hT, rfl, hy⟩
      have ey := hy vs hs3
      rw [h1] at ey
      have ey := Option.some.inj ey
      subst ey
      refine ⟨_, Fr.alloc s4 hT, T, _, rfl, upd_same, ?_⟩
      refine ⟨_, _, rfl, by simp; rfl, _, rfl, ?_⟩
      exact ta.mono ((same_upd (s4.free hT))) (ta.mono s3 h2)⟩) fun e _ z => z)
end
theorem d_none {K : PySem.W.Frag} : IsD K tNone (fun _ => PyData.none) 0 := ⟨fun {F v a} r => by
  have r : v = .non := r
  subst r
  exact .non, fun _ => Nat.le_refl _⟩
end TL
/-! ## TL20: texts compared, .index, str(int), int(text), a dict among any things -/
namespace TL
open PySem PySem.Spec PyProof.Rows L2
section
variable {K : PySem.W.Frag} {W : WS} {σ : L2.St} {F H F' H' F0 H0 : Hp} {α β γ δ ρ S : Type} {ta : Ty α} {tb : Ty β} {tc : Ty γ} {te te1 te2 te3 : TE} {v : V}
def leS (a b : Str) : Bool := !decide (b.cps.toList < a.cps.toList)
def rLeS : R2 := fun x y H Q => ∃ i j, x = .str i ∧ y = .str j ∧ Q (.bl (!decide (j.cps.toList < i.cps.toList))) H
theorem o_leS : Op2 tStr tStr tBool rLeS (fun a b => .ok (leS a b)) := op2_pure fun F H s x y a b ra rb Q q => ⟨a, b, ra, rb, q _ rfl⟩
theorem ko_leS {X : Cx} : OpR X (compareOp .LtE) rLeS := op_le_str
theorem ev_leS {m1 m2 : R Str} (h1 : Ev tStr te1 W σ F H m1) (h2 : Ev tStr te2 W σ F H m2) : Ev tBool (tOp rLeS te1 te2) W σ F H (bd m1 fun a => bd m2 fun b => .ok (leS a b)) := ev_op o_leS (fun _ _ => calm_ok) h1 h2
/-- text.index(part), the part found -/
def indexSR (a b : Str) : R Int := match Builtin.Str.occurrences a b 0 a.length 1 with
  | i :: _ => .ok ((i : Nat) : Int)
  | [] => .stuck
def rIndexT : V → List V → Hp → VK → Prop := fun x xs H Q => ∃ a b i rest, x = .str a ∧ xs = [.str b] ∧ Builtin.Str.occurrences a b 0 a.length 1 = i :: rest ∧ Q (.int (i : Nat)) H
theorem mt_indexT {X : Cx} : MtR X "str.index" rIndexT := mt_sindex
theorem ev_indexT {m1 : R Str} {m2 : R Str} (h1 : Ev tStr te1 W σ F H m1) (h2 : Ev tStr te2 W σ F H m2) : Ev tInt (tM1 rIndexT te1 te2) W σ F H (bd m1 fun a => bd m2 fun b => indexSR a b) := fun F1 H1 f1 Q q => by
  refine h1 F1 H1 f1 _ (post_imp (post_bd q) (fun a _ q1 x F2 H2 f2 rx => ⟨⟨a, rx⟩, ?_⟩) fun e _ z => z)
  refine h2 F2 H2 (f1.trans f2) _ (post_imp (post_bd q1) (fun b _ z y F3 H3 f3 ry => ?_) fun e _ z F4 H4 f4 => z F4 H4 (f2.trans f4))
  unfold indexSR at z
  cases e : Builtin.Str.occurrences a b 0 a.length 1 with
  | nil =>
    rw [e] at z
    exact z.elim
  | cons i r =>
    rw [e] at z
    exact ⟨a, b, i, r, rx, by rw [show y = .str b from ry], e, z _ F3 H3 (f2.trans f3) rfl⟩
/-- str(int) -/
def strIR (i : Int) : R Str := if i.natAbs.log2 < 1920 then .ok (Str.ofString (toString i)) else .stuck
theorem calm_strIR {i : Int} : Calm (strIR i) := calm_ite calm_ok calm_stuck
def rStrI : List V → Hp → VK → Prop := fun xs H Q => ∃ i, xs = [.int i] ∧ i.natAbs.log2 < 1920 ∧ Q (.str (Str.ofString (toString i))) H
theorem kc_strI {X : Cx} : CallR X (.type "str") rStrI := call_str_int
theorem ev_strI {m : R Int} (h : Ev tInt te W σ F H m) : Ev tStr (tCB rStrI (tCons te tNil)) W σ F H (bd m strIR) := ev_cb1 (fun F H s x a r Q q => by
  unfold strIR at q
  by_cases c : a.natAbs.log2 < 1920
  · rw [if_pos c] at q
    exact ⟨a, by rw [show x = .int a from r], c, q _ F H (Fr.refl s) rfl⟩
  · rw [if_neg c] at q
    exact q.elim) (fun _ => calm_strIR) h
/-- int(text) -/
def intSR (a : Str) : R Int := if a.length ≤ 640 then (match PySem.intText? a with
  | some n => .ok n
  | none => .stuck) else .stuck
theorem calm_intSR {a : Str} : Calm (intSR a) := by
  refine calm_ite ?_ calm_stuck
  cases PySem.intText? a with
  | none => exact calm_stuck
  | some n => exact calm_ok
def rIntS : List V → Hp → VK → Prop := fun xs H Q => ∃ a n, xs = [.str a] ∧ PySem.intText? a = some n ∧ a.length ≤ 640 ∧ Q (.int n) H
theorem kc_intS {X : Cx} : CallR X (.type "int") rIntS := call_int_str
theorem ev_intS {m : R Str} (h : Ev tStr te W σ F H m) : Ev tInt (tCB rIntS (tCons te tNil)) W σ F H (bd m intSR) := ev_cb1 (fun F H s x a r Q q => by
  unfold intSR at q
  by_cases c : a.length ≤ 640
  · rw [if_pos c] at q
    cases e : PySem.intText? a with
    | none =>
      rw [e] at q
      exact q.elim
    | some n =>
      rw [e] at q
      exact ⟨a, n, by rw [show x = .str a from r], e, c, q _ F H (Fr.refl s) rfl⟩
  · rw [if_neg c] at q
    exact q.elim) (fun _ => calm_intSR) h
theorem upd_twice {H : Hp} {p : Addr} {a b : HO} : upd (upd H p a) p b = upd H p b := by
  funext q
  by_cases e : q = p
  · subst e
    rw [upd_same, upd_same]
  · rw [upd_ne e, upd_ne e, upd_ne e]
theorem ev_disp1 {i j : Int} : Ev (tDyn K) (tDisp [(tC (.int i), tC (.int j))]) W σ F H (.ok .dany) := fun F1 H1 f1 Q q p hp => by
  refine ⟨upd_same, [(Sum.inl i, .int j)], rfl, by show 1 ≤ 15; decide, ?_⟩
  rw [upd_twice]
  exact q (.ref p) _ _ (Fr.alloc f1.s hp) ⟨p, _, rfl, upd_same⟩
/-- text + text -/
def catSR (a b : Str) : R Str := if a.length + b.length ≤ 100000 then .ok (a ++ b) else .stuck
theorem calm_catSR {a b : Str} : Calm (catSR a b) := calm_ite calm_ok calm_stuck
def rAddS : R2 := fun x y H Q => ∃ i j, x = .str i ∧ y = .str j ∧ i.length + j.length ≤ sizeLine ∧ Q (.str (i ++ j)) H
theorem ko_addS {X : Cx} : OpR X (binaryOp .Add) rAddS := op_add_str
theorem ev_addS {m1 m2 : R Str} (h1 : Ev tStr te1 W σ F H m1) (h2 : Ev tStr te2 W σ F H m2) : Ev tStr (tOp rAddS te1 te2) W σ F H (bd m1 fun a => bd m2 fun b => catSR a b) :=
  ev_op (op2_pure fun F H s x y a b ra rb Q q => by
    unfold catSR at q
    by_cases c : a.length + b.length ≤ 100000
    · rw [if_pos c] at q
      exact ⟨a, b, ra, rb, small_line c, q _ rfl⟩
    · rw [if_neg c] at q
      exact q.elim) (fun _ _ => calm_catSR) h1 h2
/-- text[lo:hi] -/
def cutSR (z : Str) (lo hi : Option Int) : R Str := if z.length ≤ 100000 then .ok (cutS z lo hi) else .stuck
theorem ev_sliceS {tl th : TO} {m : R Str} {ml mh : R (Option Int)} (h : Ev tStr te W σ F H m) (hl : EvO tl W σ F H ml) (hh : EvO th W σ F H mh) : Ev tStr (tSl rSlS te tl th) W σ F H (bd m fun z => bd ml fun lo => bd mh fun hi => cutSR z lo hi) := fun F1 H1 f1 Q q => by
  refine h F1 H1 f1 _ (post_imp (post_bd q) (fun z _ q1 x F2 H2 f2 rx => ?_) fun e _ z => z)
  refine hl F2 H2 (f1.trans f2) _ (post_imp (post_bd q1) (fun lo _ q2 F3 H3 f3 => ?_) fun e _ z F4 H4 f4 => z F4 H4 (f2.trans f4))
  refine hh F3 H3 ((f1.trans f2).trans f3) _ (post_imp (post_bd q2) (fun hi _ q3 F4 H4 f4 => ?_) fun e _ z F5 H5 f5 => z F5 H5 ((f2.trans f3).trans f5))
  unfold cutSR at q3
  by_cases c : z.length ≤ 100000
  · rw [if_pos c] at q3
    exact ⟨z, rx, small_line c, q3 _ F4 H4 ((f2.trans f3).trans f4) rfl⟩
  · rw [if_neg c] at q3
    exact q3.elim
end
end TL
/-! ## TL21: dicts of one's own, with keys that are ints, texts, or tuples of such -/
namespace TL
open PySem PySem.Spec PyProof.Rows L2
/-- the kinds of dict: keys plain, keys tuples -/
structure DKd (kk : Type) [DecidableEq kk] where
  ho : List (kk × V) → HO
  key : Hp → V → kk → Prop
  get : ∀ {H : Hp} {a : Addr} {kvs : List (kk × V)} {y : V} {k : kk}, H a = some (ho kvs) → key H y k → DGet H a y (valV kvs k)
  put : ∀ {H : Hp} {a : Addr} {kvs : List (kk × V)} {y v : V} {k : kk}, H a = some (ho kvs) → key H y k → kvs.length < sizeLine → DPut H a y v (upd H a (ho (putK kvs k v)))
def dKk : DKd Key := ⟨.dK, fun _ y k => y = kV k, fun e r => by rw [r]; exact .k e, fun e r l => by rw [r]; exact .k e l⟩
def dKt : DKd (List Key) := ⟨.dT, fun H y k => ∃ b, y = .ref b ∧ H b = some (.tup (k.map kV)), fun e ⟨b, r, eb⟩ => by rw [r]; exact .t e eb, fun e ⟨b, r, eb⟩ l => by rw [r]; exact .t e eb l⟩
/-- a type whose things are keys -/
structure KTy {κ kk : Type} [DecidableEq kk] (D : DKd kk) (tk : Ty κ) where
  enc : κ → kk
  inj : ∀ {a b : κ}, enc a = enc b → a = b
  is : ∀ {F H : Hp} {v : V} {a : κ}, Same F H → tk.rep F v a → D.key H v (enc a)
def kInt : KTy dKk tInt := ⟨fun i => Sum.inl i, fun h => by injection h, fun _ r => r⟩
def kStr : KTy dKk tStr := ⟨fun i => Sum.inr i, fun h => by injection h, fun _ r => r⟩
def kII (K : PySem.W.Frag) : KTy dKt (yTup K (aCons tInt (aOne tInt))) := ⟨fun a => [Sum.inl a.1, Sum.inl a.2], fun {a b} h => by
  obtain ⟨a1, a2⟩ := a
  obtain ⟨b1, b2⟩ := b
  simp at h
  rw [h.1, h.2], fun {F H v a} s r => by
  obtain ⟨p, vs, ev, hs, w, ws, e1, r1, w2, e2, r2⟩ := r
  refine ⟨p, ev, s _ _ ?_⟩
  rw [hs, e1, e2, show w = .int a.1 from r1, show w2 = .int a.2 from r2]
  rfl⟩
def DRep {κ kk β : Type} [DecidableEq kk] {D : DKd kk} {tk : Ty κ} (k : KTy D tk) (tv : Ty β) (F : Hp) (kvs : List (kk × V)) (as : List (κ × β)) : Prop := Paired (fun (p : kk × V) (q : κ × β) => p.1 = k.enc q.1 ∧ tv.rep F p.2 q.2) kvs as
def getA {κ β : Type} [DecidableEq κ] (as : List (κ × β)) (k : κ) : Option β := (as.find? fun q => decide (q.1 = k)).map (·.2)
def hasA {κ β : Type} [DecidableEq κ] (as : List (κ × β)) (k : κ) : Bool := as.any fun q => decide (q.1 = k)
def putA {κ β : Type} [DecidableEq κ] (as : List (κ × β)) (k : κ) (b : β) : List (κ × β) := if hasA as k = true then as.map (fun q => if q.1 = k then (q.1, b) else q) else as ++ [(k, b)]
def putAR {κ β : Type} [DecidableEq κ] (as : List (κ × β)) (k : κ) (b : β) : R (List (κ × β)) := if as.length < 100000 then .ok (putA as k b) else .stuck
section
variable {K : PySem.W.Frag} {W : WS} {σ : L2.St} {F H F' H' F0 H0 : Hp} {α β γ δ ρ S κ kk : Type} [DecidableEq kk] [DecidableEq κ] {DD : DKd kk} {tk : Ty κ} {kt : KTy DD tk} {ta : Ty α} {tb : Ty β} {tc : Ty γ} {te te1 te2 te3 : TE} {v : V} {D : Ends} {KK : γ → Prop} {XX : Exn → Prop}
theorem paired_snocG {A B : Type} {P : A → B → Prop} {v : A} {a : B} (r : P v a) : ∀ {vs : List A} {as : List B}, Paired P vs as → Paired P (vs ++ [v]) (as ++ [a])
  | _, _, .nil => .cons r .nil
  | _, _, .cons h t => .cons h (paired_snocG r t)
theorem DRep.mono {kvs : List (kk × V)} {as : List (κ × β)} (s : Same F F') (h : DRep kt tb F kvs as) : DRep kt tb F' kvs as := Paired.mapP h fun _ _ z => ⟨z.1, tb.mono s z.2⟩
theorem DRep.has {kvs : List (kk × V)} {as : List (κ × β)} (h : DRep kt tb F kvs as) (k : κ) : (kvs.any fun p => decide (p.1 = kt.enc k)) = hasA as k := by
  unfold DRep at h
  induction h with
  | nil => rfl
  | @cons p q ps qs r _ ih =>
    unfold hasA at ih ⊢
    rw [List.any_cons, List.any_cons, ih]
    congr 1
    refine decide_eq_decide.mpr ?_
    rw [r.1]
    exact ⟨fun z => kt.inj z, fun z => by rw [z]⟩
theorem DRep.get {kvs : List (kk × V)} {as : List (κ × β)} (h : DRep kt tb F kvs as) (k : κ) : (∃ w b, valV kvs (kt.enc k) = some w ∧ getA as k = some b ∧ tb.rep F w b) ∨ valV kvs (kt.enc k) = none ∧ getA as k = none := by
  unfold DRep at h
  induction h with
  | nil => exact .inr ⟨rfl, rfl⟩
  | @cons p q ps qs r _ ih =>
    by_cases e : q.1 = k
    · refine .inl ⟨p.2, q.2, ?_, ?_, r.2⟩
      · unfold valV
        rw [List.find?_cons_of_pos (by rw [decide_eq_true_eq, r.1, e])]
        rfl
      · unfold getA
        rw [List.find?_cons_of_pos (by rw [decide_eq_true_eq, e])]
        rfl
    · have e1 : valV (p :: ps) (kt.enc k) = valV ps (kt.enc k) := by
        unfold valV
        rw [List.find?_cons_of_neg (by rw [decide_eq_true_eq, r.1]; exact fun z => e (kt.inj z))]
      have e2 : getA (q :: qs) k = getA qs k := by
        unfold getA
        rw [List.find?_cons_of_neg (by rw [decide_eq_true_eq]; exact e)]
      rw [e1, e2]
      exact ih
theorem DRep.put {kvs : List (kk × V)} {as : List (κ × β)} {k : κ} {b : β} {w : V} (h : DRep kt tb F kvs as) (r : tb.rep F w b) : DRep kt tb F (putK kvs (kt.enc k) w) (putA as k b) := by
  unfold putK putA
  rw [h.has k]
  by_cases c : hasA as k = true
  · rw [if_pos c, if_pos c]
    unfold DRep at h ⊢
    induction h with
    | nil => exact .nil
    | @cons p q ps qs r' _ ih =>
      rw [List.map_cons, List.map_cons]
      have t : ∀ {l : List (kk × V)} {m : List (κ × β)}, Paired (fun (p : kk × V) (q : κ × β) => p.1 = kt.enc q.1 ∧ tb.rep F p.2 q.2) l m → Paired (fun (p : kk × V) (q : κ × β) => p.1 = kt.enc q.1 ∧ tb.rep F p.2 q.2) (l.map fun kv => if kv.1 = kt.enc k then (kv.1, w) else kv) (m.map fun q => if q.1 = k then (q.1, b) else q) := by
        intro l m z
        induction z with
        | nil => exact .nil
        | @cons p q ps qs r' _ ih =>
          rw [List.map_cons, List.map_cons]
          refine .cons ?_ ih
          by_cases e : q.1 = k
          · rw [if_pos (by rw [r'.1, e]), if_pos e]
            exact ⟨r'.1, r⟩
          · rw [if_neg (by rw [r'.1]; exact fun z => e (kt.inj z)), if_neg e]
            exact r'
      rename_i hh
      exact t (.cons r' hh)
  · rw [if_neg c, if_neg c]
    exact paired_snocG (P := fun (p : kk × V) (q : κ × β) => p.1 = kt.enc q.1 ∧ tb.rep F p.2 q.2) ⟨rfl, r⟩ h
/-- a dict that is read only -/
def yDict {κ kk β : Type} [DecidableEq kk] [DecidableEq κ] {D : DKd kk} {tk : Ty κ} (k : KTy D tk) (tv : Ty β) : Ty (List (κ × β)) := ⟨fun F v as => ∃ p kvs, v = .ref p ∧ F p = some (D.ho kvs) ∧ DRep k tv F kvs as, fun e ⟨p, kvs, h1, h2, h3⟩ => ⟨p, kvs, h1, e _ _ h2, h3.mono e⟩⟩
/-- a dict that only this def knows -/
def OwnD {κ kk β : Type} [DecidableEq kk] {D : DKd kk} {tk : Ty κ} (k : KTy D tk) (tv : Ty β) (H0 F H : Hp) (v : V) (as : List (κ × β)) : Prop := ∃ p kvs, v = .ref p ∧ H0 p = none ∧ F p = none ∧ H p = some (D.ho kvs) ∧ DRep k tv F kvs as
theorem OwnD.mono {as : List (κ × β)} (f : Fr F H F' H') (o : OwnD kt tb H0 F H v as) : OwnD kt tb H0 F' H' v as := by
  obtain ⟨p, vs, ev, h0, hf, hh, r⟩ := o
  exact ⟨p, vs, ev, h0, f.n p hf (some_ne hh), f.h p _ hh, r.mono f.f⟩
theorem OwnD.kept {w : V} {bs : List (κ × β)} (k : Kept (atV v) F H F' H') (hw : w ≠ v) (o : OwnD kt tb H0 F H w bs) : OwnD kt tb H0 F' H' w bs := by
  obtain ⟨q, ws, ew, h0, hf, hh, r⟩ := o
  have nx : ¬ atV v q := fun z => hw (by rw [ew]; exact z)
  exact ⟨q, ws, ew, h0, k.n q nx hf (some_ne hh), k.h q _ nx hh, r.mono k.f⟩
theorem OwnD.ne {w : V} {bs : List (κ × β)} (n : NewAt v H) (o : OwnD kt tb H0 F H w bs) : w ≠ v := by
  obtain ⟨q, ws, ew, _, _, hh, _⟩ := o
  rw [ew]
  exact n q _ hh
theorem lend_frO {F1 H1 : Hp} {p : Addr} {o : HO} (hf : F p = none) (hh : H p = some o) (f1 : Fr F H F1 H1) : Fr (upd F p o) H (upd F1 p o) H1 := by
  have hf1 : F1 p = none := f1.n p hf (some_ne hh)
  have hh1 := f1.h p _ hh
  refine ⟨fun b u e => ?_, f1.h, fun b u e => ?_, fun b e1 e2 => ?_⟩
  · by_cases q : b = p
    · subst q
      rw [upd_same] at e ⊢
      exact e
    · rw [upd_ne q] at e ⊢
      exact f1.f b u e
  · by_cases q : b = p
    · subst q
      rw [upd_same] at e
      rw [← e]
      exact hh1
    · rw [upd_ne q] at e
      exact f1.s b u e
  · by_cases q : b = p
    · subst q
      rw [upd_same] at e1
      cases e1
    · rw [upd_ne q] at e1 ⊢
      exact f1.n b e1 e2
theorem lend_s {p : Addr} {o : HO} (hh : H p = some o) (s0 : Same F H) : Same (upd F p o) H := fun b u e => by
  by_cases q : b = p
  · subst q
    rw [upd_same] at e
    rw [← e]
    exact hh
  · rw [upd_ne q] at e
    exact s0 b u e
theorem ev_lendD {as : List (κ × β)} {m : R α} (fl : Flat ta) (o : OwnD kt tb H0 F H v as) (s0 : Same F H) (h : ∀ F', Same F F' → (yDict kt tb).rep F' v as → Same F' H → Ev ta te W σ F' H m) : Ev ta te W σ F H m := fun F1 H1 f1 Q q => by
  obtain ⟨p, vs, ev, h0, hf, hh, r⟩ := o
  subst ev
  refine h _ (same_upd hf) ⟨p, vs, rfl, upd_same, r.mono (same_upd hf)⟩ (lend_s hh s0) _ H1 (lend_frO hf hh f1) Q (post_imp q (fun a _ k v F2 H2 f2 rv => ?_) fun e _ z F2 H2 f2 => ?_)
  · exact k v F1 H2 ⟨Same.refl _, f2.h, f1.s.trans f2.h, fun _ h _ => h⟩ (fl _ _ _ _ rv)
  · exact z F1 H2 ⟨Same.refl _, f2.h, f1.s.trans f2.h, fun _ h _ => h⟩
theorem et_lendD {as : List (κ × β)} {tt : TT} {m : R Bool} (o : OwnD kt tb H0 F H v as) (s0 : Same F H) (h : ∀ F', Same F F' → (yDict kt tb).rep F' v as → Same F' H → EvT tt W σ F' H m) : EvT tt W σ F H m := fun F1 H1 f1 Q q => by
  obtain ⟨p, vs, ev, h0, hf, hh, r⟩ := o
  subst ev
  refine h _ (same_upd hf) ⟨p, vs, rfl, upd_same, r.mono (same_upd hf)⟩ (lend_s hh s0) _ H1 (lend_frO hf hh f1) Q (post_imp q (fun a _ k F2 H2 f2 => ?_) fun e _ z F2 H2 f2 => ?_)
  · exact k F1 H2 ⟨Same.refl _, f2.h, f1.s.trans f2.h, fun _ h _ => h⟩
  · exact z F1 H2 ⟨Same.refl _, f2.h, f1.s.trans f2.h, fun _ h _ => h⟩
/-! ### reading -/
theorem DRep.isSome {kvs : List (kk × V)} {as : List (κ × β)} (h : DRep kt tb F kvs as) (k : κ) : (valV kvs (kt.enc k)).isSome = (getA as k).isSome := by
  rcases h.get k with ⟨w, b, e1, e2, _⟩ | ⟨e1, e2⟩ <;> rw [e1, e2] <;> rfl
theorem ev_din {m1 : R κ} {m2 : R (List (κ × β))} (h1 : Ev tk te1 W σ F H m1) (h2 : Ev (yDict kt tb) te2 W σ F H m2) : Ev tBool (tDIn te1 te2) W σ F H (bd m1 fun k => bd m2 fun d => .ok (getA d k).isSome) := fun F1 H1 f1 Q q => by
  refine h1 F1 H1 f1 _ (post_imp (post_bd q) (fun a _ q1 x F2 H2 f2 rx => ?_) fun e _ z => z)
  refine h2 F2 H2 (f1.trans f2) _ (post_imp (post_bd q1) (fun d _ z y F3 H3 f3 ⟨p, kvs, ey, hp, rd⟩ => ?_) fun e _ z F4 H4 f4 => z F4 H4 (f2.trans f4))
  refine ⟨p, _, ey, DD.get (f3.s _ _ hp) (kt.is (f3.f.trans f3.s) rx), ?_⟩
  rw [rd.isSome]
  exact z _ F3 H3 (f2.trans f3) rfl
theorem ev_dnotin {m1 : R κ} {m2 : R (List (κ × β))} (h1 : Ev tk te1 W σ F H m1) (h2 : Ev (yDict kt tb) te2 W σ F H m2) : Ev tBool (tDNotIn te1 te2) W σ F H (bd m1 fun k => bd m2 fun d => .ok (!(getA d k).isSome)) := fun F1 H1 f1 Q q => by
  refine h1 F1 H1 f1 _ (post_imp (post_bd q) (fun a _ q1 x F2 H2 f2 rx => ?_) fun e _ z => z)
  refine h2 F2 H2 (f1.trans f2) _ (post_imp (post_bd q1) (fun d _ z y F3 H3 f3 ⟨p, kvs, ey, hp, rd⟩ => ?_) fun e _ z F4 H4 f4 => z F4 H4 (f2.trans f4))
  refine ⟨p, _, ey, DD.get (f3.s _ _ hp) (kt.is (f3.f.trans f3.s) rx), ?_⟩
  rw [rd.isSome]
  exact z _ F3 H3 (f2.trans f3) rfl
/-! ### d[k] = v -/
theorem s_dput {i : Nat} {as : List (κ × β)} {mv : R β} {mk : R κ} {f : List (κ × β) → R γ} (hX : ∀ e, XX e → ∀ σ F' H', Fr F0 H0 F' H' → W e σ H') (fr : Fr F0 H0 F H) (hv : σ[i]? = some (some v)) (o : OwnD kt tb H0 F H v as) (h1 : Ev tb te1 W σ F H mv) (h2 : Ev tk te2 W σ F H mk)
    (hp : Post (bd mv fun b => bd mk fun k => bd (putAR as k b) f) KK XX)
    (k : ∀ bs F' H', Same F F' → Fr F0 H0 F' H' → OwnD kt tb H0 F' H' v bs → Kept (atV v) F H F' H' → Post (f bs) KK XX → D.nx σ H') : sDPut (tVar i) te2 te1 D σ H := by
  obtain ⟨p, kvs, ev, h0, hf, hh, r⟩ := o
  subst ev
  refine h1 F H (Fr.refl fr.s) _ (post_imp (post_bd hp) (fun b e q x F1 H1 f1 rb => ?_) fun e _ z F' H' f' => hX e z _ _ _ (fr.trans f'))
  refine ⟨_, hv, ?_⟩
  refine h2 F1 H1 f1 _ (post_imp (post_bd q) (fun a e q2 y F2 H2 f2 ra => ?_) fun e _ z F' H' f' => hX e z _ _ _ (fr.trans (f1.trans f')))
  have f12 := f1.trans f2
  unfold putAR at q2
  by_cases hl : as.length < 100000
  · rw [if_pos hl] at q2
    have hF' : F2 p = none := f12.n p hf (some_ne hh)
    refine ⟨p, _, rfl, DD.put (f12.h _ _ hh) (kt.is f2.s ra) (Nat.lt_of_lt_of_le (show kvs.length < 100000 by rw [Paired.length r]; exact hl) (by decide)), ?_⟩
    refine k (putA as a b) F2 _ f12.f ((fr.trans f12).mut h0 hF') ⟨p, _, rfl, h0, hF', upd_same, (r.mono f12.f).put (tb.mono f2.f rb)⟩ ⟨f12.f, fun q' o nx hh' => ?_, fun q' _ => f12.n q'⟩ q2
    rw [upd_ne fun z => nx (by rw [z])]
    exact f12.h _ _ hh'
  · rw [if_neg hl] at q2
    exact q2.elim
/-! ### x = xs.pop() -/
def popR (as : List α) : R (α × List α) := match as.getLast? with
  | some a => .ok (a, as.dropLast)
  | none => .stuck
theorem paired_dropLast {P : V → α → Prop} : ∀ {vs : List V} {as : List α}, Paired P vs as → Paired P vs.dropLast as.dropLast
  | _, _, .nil => .nil
  | [v], [a], .cons _ .nil => .nil
  | v :: w :: vs, a :: b :: as, .cons r (.cons r2 t) => .cons r (paired_dropLast (.cons r2 t))
theorem s_pop {i j : Nat} {as : List α} {f : α × List α → R γ} (fr : Fr F0 H0 F H) (hv : σ[j]? = some (some v)) (o : Own ta H0 F H v as) (hp : Post (bd (popR as) f) KK XX)
    (k : ∀ (t : α × List α) w H', Fr F0 H0 F H' → Own ta H0 F H' v t.2 → ta.rep F w t.1 → Kept (atV v) F H F H' → Post (f t) KK XX → D.nx (σ.set i (some w)) H') : tAsg (tBM0 K "list" rPop (tVar j)) (gName i) D σ H := by
  obtain ⟨p, vs, ev, h0, hf, hh, r⟩ := o
  subst ev
  refine ⟨_, hv, .inl ⟨rfl, vs, SqL.of hh⟩, ?_⟩
  unfold popR at hp
  cases e : as.getLast? with
  | none =>
    rw [e] at hp
    exact hp.elim
  | some a =>
    rw [e] at hp
    rw [List.getLast?_eq_getElem?] at e
    obtain ⟨w, h1, h2⟩ := paired_get r e
    refine ⟨p, vs, w, rfl, rfl, hh, by rw [r.length]; exact h1, ?_⟩
    refine k (a, as.dropLast) w _ (fr.mut h0 hf) ⟨p, _, rfl, h0, hf, upd_same, paired_dropLast r⟩ h2 ⟨Same.refl _, fun q' o nx hh' => ?_, fun q' _ h _ => h⟩ hp
    rw [upd_ne fun z => nx (by rw [z])]
    exact hh'
end
section
variable {K : PySem.W.Frag} {W : WS} {σ : L2.St} {F H : Hp} {α : Type} {ta : Ty α} {te : TE}
theorem paired_some (hn : NotNon ta) : ∀ {vs : List V} {as : List α}, Paired (ta.rep F) vs as → Paired ((tOpt ta).rep F) vs (as.map some)
  | _, _, .nil => .nil
  | _, _, .cons h t => .cons ⟨hn _ _ _ h, h⟩ (paired_some hn t)
theorem ev_listOpt (hn : NotNon ta) {m : R (List α)} (h : Ev (yList ta) te W σ F H m) : Ev (yList (tOpt ta)) te W σ F H (bd m fun as => .ok (as.map some)) := ev_cast (fun F v a r b e => by
  cases e
  obtain ⟨p, vs, h1, h2, h3⟩ := r
  exact ⟨p, vs, h1, h2, paired_some hn h3⟩) (fun _ => calm_ok) h
end
/-! ### {(a, b): v} -/
def tDispT1 (tk tv : TE) : TE := fun σ H Q => ∀ p, H p = none → tk σ (upd H p (.dT [])) fun x H1 => tv σ H1 fun y H2 => ∃ b ks, x = .ref b ∧ H2 b = some (.tup (ks.map kV)) ∧ H2 p = some (.dT []) ∧ Q (.ref p) (upd H2 p (.dT [(ks, y)]))
theorem pe_dispT1 {X : Cx} {pos : Pos} {k v : Expr} {tk tv : TE} (hu : X.A.units + 1 < cLine) (hk : PE X k tk) (hv : PE X v tv) : PE X (.Dict [some k] [v] pos) (tDispT1 tk tv) := by
  refine ⟨fun pins s σ H Q I q => ?_⟩
  have hn := I.hok.fresh (Nat.le_refl s.heap.objs.size)
  have I1 := I.laid (a := s.heap.objs.size) (o := .dT []) (h' := s.heap.push { cls := .type "dict", data := .dict #[] }) (t' := s.toks) (fun _ _ q => Heap.get?_push_of_some _ q) (Nat.le_refl _) (dt_empty s.heap I.big)
  rw [arm_eval_Dict, zip_pairTrees [some k] [v] X.env pos rfl rfl, dictDisplay_pairs _ (by simp [pairTrees]) (by simp [pairTrees])]
  refine wpAny_bind (wpAny_standAt (wpAny_bind ?_))
  unfold subDict
  refine wpAny_bind (wpAny_alloc ?_)
  refine wpAny_bind (wpAny_holding ?_)
  rw [if_pos (by simp [pairTrees])]
  refine wpAny_bind (pairTrees_cons_walk (thn (hk.run pins _ σ _ _ I1 (q _ hn)) fun u s1 ⟨x, H1, J1, rx, q1⟩ => thn (hv.run pins s1 σ H1 _ J1 q1) fun w2 s2 ⟨y, H2, J2, ry, b, ks, ex, hb, hp, q2⟩ => pairTrees_nil_walk ?_))
  subst ex
  cases (show u = Value.ref b from rx)
  refine wpAny_holding (wpAny_bind ?_)
  rw [List.forIn_cons]
  obtain ⟨z, hd, xs, rel, dd⟩ := dt_of J2.hok hp
  cases rel
  refine wpAny_bind (wpAny_bind (wpAny_dictSet_heap (hsz := by rw [List.length_nil]; exact Nat.zero_le _) (by exact Nat.lt_of_succ_lt hu) (key_of J2.hok hb) dd fun h' dd' hs => wpAny_pure ?_))
  dsimp only
  rw [List.forIn_nil]
  refine wpAny_pure (wpAny_pure (wpAny_pure (wpAny_pure ⟨.ref s.heap.objs.size, _, ?_, rfl, q2⟩)))
  obtain ⟨o, es, ep, hq, h2, h3, h4, _, h5⟩ := dd'
  refine d_write J2 (by rw [hp]; exact True.intro) hs ⟨o, hq⟩ ⟨by show 1 ≤ sizeLine; decide, hd, _, ((KT.keeps (H := H2) (show KT H2 [] [] from .nil) fun c ys ec => ec).put ks hb ry).keeps fun c ys ec => ?_, o, es, ep, hq, h2, h3, h4, h5⟩
  rw [upd_ne (ne_of ec hp (fun z => nomatch z))]
  exact ec
section
variable {K : PySem.W.Frag} {W : WS} {σ : L2.St} {F H F' H' F0 H0 : Hp} {α β γ δ ρ S κ : Type} [DecidableEq κ] {tk : Ty κ} {kt : KTy dKt tk} {ta : Ty α} {tb : Ty β} {tc : Ty γ} {te te1 te2 te3 : TE} {v : V} {D : Ends} {KK : γ → Prop} {XX : Exn → Prop}
/-- d = {k: v}, a dict of one's own -/
theorem s_dispT {i : Nat} {mv : R β} {mk : R κ} {f : List (κ × β) → R γ} (hX : ∀ e, XX e → ∀ σ F' H', Fr F0 H0 F' H' → W e σ H') (fr : Fr F0 H0 F H) (h1 : Ev tk te1 W σ F H mk) (h2 : Ev tb te2 W σ F H mv)
    (hp : Post (bd (bd mk fun k => bd mv fun b => .ok [(k, b)]) f) KK XX)
    (k : ∀ bs v F' H', Fr F H F' H' → Fr F0 H0 F' H' → OwnD kt tb H0 F' H' v bs → NewAt v H → Post (f bs) KK XX → D.nx (σ.set i (some v)) H') : tAsg (tDispT1 te1 te2) (gName i) D σ H := fun p hp0 => by
  rw [bd_assoc] at hp
  have f0 : Fr F H F (upd H p (.dT [])) := Fr.fresh fr.s hp0
  refine h1 F _ f0 _ (post_imp (post_bd hp) (fun a e q x F1 H1 f1 ra => ?_) fun e _ z F' H' f' => hX e z _ _ _ (fr.trans (f0.trans f')))
  rw [bd_assoc] at q
  refine h2 F1 H1 (f0.trans f1) _ (post_imp (post_bd q) (fun b e q2 y F2 H2 f2 rb => ?_) fun e _ z F' H' f' => hX e z _ _ _ (fr.trans ((f0.trans f1).trans f')))
  obtain ⟨bb, ex, hb⟩ := kt.is (f2.f.trans f2.s) ra
  have ff := f1.trans f2
  have hpp := ff.h p _ upd_same
  have hFp : F2 p = none := ff.n p (fr.s.free hp0) (by rw [upd_same]; exact Option.some_ne_none _)
  refine ⟨bb, _, ex, hb, hpp, ?_⟩
  have fz : Fr F H F2 (upd H2 p (.dT [(kt.enc a, y)])) := (f0.trans ff).mut hp0 hFp
  refine k [(a, b)] _ F2 _ fz (fr.trans fz) ⟨p, _, rfl, fr.h.free hp0, hFp, upd_same, .cons ⟨rfl, rb⟩ .nil⟩ (fun q' o hh z => ?_) q2
  cases z
  rw [hp0] at hh
  cases hh
end
end TL
/-! ## TL22: how many unlike texts there are, len(set(xs)) -/
namespace TL
open PySem PySem.Spec PyProof.Rows L2
/-- how many unlike things -/
def cntD {α : Type} [DecidableEq α] : List α → Nat
  | [] => 0
  | x :: xs => (if x ∈ xs then 0 else 1) + cntD xs
theorem cntD_snoc {α : Type} [DecidableEq α] (y : α) : ∀ xs : List α, cntD (xs ++ [y]) = cntD xs + if y ∈ xs then 0 else 1
  | [] => by simp [cntD]
  | x :: xs => by
    rw [List.cons_append]
    unfold cntD
    rw [cntD_snoc y xs]
    by_cases h1 : x ∈ xs
    · rw [if_pos (List.mem_append_left _ h1), if_pos h1]
      by_cases h2 : y ∈ xs
      · rw [if_pos h2, if_pos (List.mem_cons_of_mem _ h2)]
        omega
      · by_cases e : y = x
        · exact absurd (e ▸ h1) h2
        · rw [if_neg h2, if_neg fun z => (List.mem_cons.mp z).elim e h2]
          omega
    · by_cases e : y = x
      · subst e
        rw [if_pos (List.mem_append_right _ (List.mem_singleton.mpr rfl)), if_neg h1, if_pos List.mem_cons_self]
        omega
      · rw [if_neg fun z => (List.mem_append.mp z).elim h1 fun z => e (List.mem_singleton.mp z).symm, if_neg h1]
        by_cases h2 : y ∈ xs
        · rw [if_pos h2, if_pos (List.mem_cons_of_mem _ h2)]
          omega
        · rw [if_neg h2, if_neg fun z => (List.mem_cons.mp z).elim e h2]
          omega
theorem cntD_le {α : Type} [DecidableEq α] : ∀ xs : List α, cntD xs ≤ xs.length
  | [] => Nat.le_refl _
  | x :: xs => by
    have := cntD_le xs
    unfold cntD
    rw [List.length_cons]
    split <;> omega
theorem cntD_nodup {α : Type} [DecidableEq α] : ∀ {xs : List α}, xs.Nodup → cntD xs = xs.length
  | [], _ => rfl
  | x :: xs, h => by
    obtain ⟨h1, h2⟩ := List.nodup_cons.mp h
    unfold cntD
    rw [if_neg h1, cntD_nodup h2, List.length_cons]
    omega
theorem cntD_twice {α : Type} [DecidableEq α] : ∀ {xs : List α}, ¬ xs.Nodup → cntD xs < xs.length
  | [], h => absurd List.nodup_nil h
  | x :: xs, h => by
    unfold cntD
    rw [List.length_cons]
    by_cases h1 : x ∈ xs
    · rw [if_pos h1]
      have := cntD_le xs
      omega
    · rw [if_neg h1]
      have := cntD_twice (xs := xs) fun z => h (List.nodup_cons.mpr ⟨h1, z⟩)
      omega
theorem same_set {pg : Program} {wd : World} {hp : Heap} {a : Addr} {S S2 : Str → Bool} {n m : Nat} (x : hp.SetOf (PySem.strKind pg wd) a S n) (e : ∀ k, S k = S2 k) (en : n = m) : hp.SetOf (PySem.strKind pg wd) a S2 m := by
  obtain rfl : S = S2 := funext e
  exact en ▸ x
theorem set_keep {pg : Program} {wd : World} {hp h2 : Heap} {a : Addr} {S : Str → Bool} {n : Nat} (x : hp.SetOf (PySem.strKind pg wd) a S n) (k : ∀ o, hp.get? a = some o → h2.get? a = some o) : h2.SetOf (PySem.strKind pg wd) a S n := by
  obtain ⟨o, u1, u2, u3, g, u4⟩ := x
  exact ⟨o, u1, u2, u3, k o g, u4⟩
section
variable {pg : Program} {wd : World} {B : Around} {Rr : Result → Shared → Prop} {It0 : Addr} {fq wq : List Addr} {Gq : Array GenState → Array GenState → Prop} {N0 : Nat} {Pi : Nat → Value → Prop} {Sj : Nat → Shared → Prop}
/-- the texts of a walk go into the set at T -/
theorem into_set (Wk : WalksS pg wd B.in1 It0 fq wq Gq N0 Pi Sj) (T : Addr) (hT : T ∉ fq) (xs : List Str) (hx : xs.length = N0) (hb : N0 + 1 < scanBound)
    (hv : ∀ j u, Pi j u → ∃ tk, u = .str (xs.getD j Str.empty) tk) : ∀ (d j : Nat) (s : Shared), N0 - j = d → j ≤ N0 → Sj j s →
      s.heap.SetOf (PySem.strKind pg wd) T (fun y => decide (y ∈ xs.take j)) (cntD (xs.take j)) →
      (∀ z, Moved (T :: wq) Gq s z → z.heap.SetOf (PySem.strKind pg wd) T (fun y => decide (y ∈ xs)) (cntD xs) → Rr (.ok (.ret .none)) z) →
      codeAny (model pg wd) B (.builtin "set.update.loop" ⟨[.ref T, .ref It0], []⟩) Rr s := by
  have nT : T ∉ wq := fun z => hT (Wk.sub _ z)
  have up : ∀ b ∈ wq, b ∈ T :: wq := fun b z => List.mem_cons_of_mem _ z
  intro d
  induction d with
  | zero =>
    intro j s hd hj st hs hr
    refine codeAny_builtin PyProof.Rows.F.entry_set_update_loop ?_
    rw [Around.under_plainId PyProof.Rows.F.plain_set_update_loop _]
    show wpAny _ B.in1 (pyNext (.ref It0) >>= _) _ _ s
    have ej : j = N0 := by omega
    subst ej
    refine wpAny_bind (Wk.done s _ _ st fun z mv => ?_)
    show wpAny _ B.in1 (ret Value.none) _ _ z
    rw [List.take_of_length_le (by omega)] at hs
    exact wpAny_pure (hr z (mv.mono up) (set_keep hs fun o g => mv.heap T _ nT g))
  | succ d ih =>
    intro j s hd hj st hs hr
    refine codeAny_builtin PyProof.Rows.F.entry_set_update_loop ?_
    rw [Around.under_plainId PyProof.Rows.F.plain_set_update_loop _]
    show wpAny _ B.in1 (pyNext (.ref It0) >>= _) _ _ s
    have hlt : j < N0 := by omega
    refine wpAny_bind (Wk.item j s _ _ hlt st fun u z hP st2 mv => ?_)
    obtain ⟨tk, rfl⟩ := hv j u hP
    have hs2 := set_keep hs fun o g => mv.heap T _ nT g
    generalize hy : xs.getD j Str.empty = y
    have ey : xs.take (j + 1) = xs.take j ++ [y] := by
      rw [List.take_add_one, List.getElem?_eq_getElem (by omega), ← hy, List.getD_eq_getElem?_getD, List.getElem?_eq_getElem (by omega)]
      rfl
    have small : cntD (xs.take j) + 1 < scanBound := by
      have h1 := cntD_le (xs.take j)
      rw [List.length_take] at h1
      omega
    show wpAny _ B.in1 (holding [Value.str y tk] (setAdd T (.str y tk)) >>= _) _ _ z
    refine wpAny_bind (wpAny_holding ?_)
    unfold setAdd
    refine wpAny_holding (wpAny_bind ((PySem.strKind pg wd).pyHash (k := y) (strKind_is _ _ _ _) ?_))
    refine wpAny_setAddHashed_of (knd := PySem.strKind pg wd) (s := { z with toks := z.toks + 1 }) (strKind_is _ _ _ _) rfl hs2 small fun h3 sb hs3 => ?_
    have hs4 : h3.SetOf (PySem.strKind pg wd) T (fun y => decide (y ∈ xs.take (j + 1))) (cntD (xs.take (j + 1))) := by
      rw [ey]
      refine same_set hs3 (fun k => ?_) ?_
      · rw [← Bool.decide_or]
        refine decide_eq_decide.mpr ?_
        rw [List.mem_append, List.mem_singleton]
      · rw [cntD_snoc]
        by_cases c : y ∈ xs.take j
        · rw [decide_eq_true c, if_pos rfl, if_pos c]
          rfl
        · rw [decide_eq_false c, if_neg Bool.false_ne_true, if_neg c]
    refine wpAny_pure ⟨plainId_quiet PyProof.Rows.F.plain_set_update_loop _, ih (j + 1) _ (by omega) hlt ?_ hs4 fun z2 mv2 hs5 => hr z2 ?_ hs5⟩
    · refine Wk.frame _ z _ _ st2 (Nat.le_succ _) fun b hb o e => ?_
      rw [sb.2 b fun q => hT (q ▸ hb)]
      exact e
    · refine Moved.trans Wk.gtrans ((mv.mono up).then_heap (Nat.le_succ _) fun b o hb e => ?_) mv2
      rw [sb.2 b fun q => hb (q ▸ List.mem_cons_self)]
      exact e
end
section
variable {pg : Program} {wd : World} {B : Around} {Ee : Value → Shared → Prop} {s : Shared}
def newSet (led : Bool) : Obj := { cls := .type "set", dict := none, data := .set #[] 0 (.fresh 0 0 led) }
theorem set_of_list {l : Addr} {its : Array Value} {xs : List Str} {Q : Value → Shared → Prop} (hh : B.handled = none) (hl : s.heap.IsList l its) (hi : PyProof.Rows.StrsAre its.toList xs) (hb : xs.length + 1 < scanBound)
    (h : ∀ (h2 : Heap) (tk : Nat), h2.SetOf (PySem.strKind pg wd) s.heap.objs.size (fun y => decide (y ∈ xs)) (cntD xs) → (∀ b o, b < s.heap.objs.size → s.heap.get? b = some o → h2.get? b = some o) → Q (.ref s.heap.objs.size) { s with heap := h2, toks := tk }) :
    wpAny (model pg wd) B (call (.type "set") [.ref l]) Q Ee s := by
  obtain ⟨c, tl, hmro⟩ := PySem.F.called_set.mro
  have k1 := PySem.F.called_set.made
  have k2 := PySem.F.called_set.sub
  refine wpAny_call (codeAny_of_tree ?_)
  show wpAny _ _ (callAny (.type "set") _) _ _ _
  refine wpAny_pure ⟨Code.quiet_builtin _ (by decide +kernel), codeAny_builtin PySem.F.entry_type_call ?_⟩
  rw [Around.under_plain (weight_type_call_type "set" [.ref l] []) rfl]
  have k3 := PySem.F.called_set.notType
  have k4 := PySem.F.called_set.canCreate
  have k5 := PySem.F.typeCall_set_1 (.ref l)
  repeat (any_goals (first | assumption | wp_step))
  refine codeAny_mono (code_set_new_1 (.ref l) (E := Ee) (Q₁ := fun x z => ∃ led : Bool, x = .ref s.heap.objs.size ∧ z = { s with heap := s.heap.push (newSet led) }) fun led => ⟨led, rfl, rfl⟩) fun r z hr => ?_
  cases r with
  | error e => exact hr
  | ok fl =>
    cases fl with
    | brk => exact hr.elim
    | cont => exact hr.elim
    | next => exact hr.elim
    | ret x =>
      obtain ⟨led, rfl, rfl⟩ := hr
      have gS : (s.heap.push (newSet led)).get? s.heap.objs.size = some (newSet led) := Heap.get?_push_size _ rfl
      have tS : Shared.TypeIs { s with heap := s.heap.push (newSet led) } (.ref s.heap.objs.size) "set" := ⟨_, gS, rfl⟩
      have k6 := PySem.F.called_set.init.lookup
      have k7 := PySem.F.called_set.init.bind (.ref s.heap.objs.size)
      repeat (any_goals (first | assumption | wp_step))
      refine codeAny_mono (codeAny_call_builtin (R := wants (fun v z => v = .none ∧ ∃ h2 tk, z = { s with heap := h2, toks := tk } ∧ h2.SetOf (PySem.strKind pg wd) s.heap.objs.size (fun y => decide (y ∈ xs)) (cntD xs) ∧
          (∀ b o, b < s.heap.objs.size → s.heap.get? b = some o → h2.get? b = some o)) Ee) PySem.F.called_set.init.plain PySem.F.entry_set_init (check_set_init_1 tS ?_)) fun r2 z2 hr2 => ?_
      · have hlt : l < s.heap.objs.size := by
          obtain ⟨_, g, _⟩ := hl
          exact Heap.lt_size g
        have hl1 : (s.heap.push (newSet led)).IsList l its := hl.push _
        obtain ⟨⟨c1, c2, c3, c4⟩, g1, g2, nl, g3⟩ := id hl1
        obtain rfl : c1 = .type "list" := g2
        obtain rfl : c3 = .seq its nl := g3
        have k8 := PySem.F.sub_list_set
        have k9 := PySem.F.sub_list_frozenset
        have k10 : (Value.type "list" == Value.type "dict") = false := by decide
        unfold Builtin.«set.__init__» noKeywords Builtin.Frozenset.updateFrom
        generalize hPI : pyIter = PI
        wp_walk
        subst hPI
        refine wpAny_pyIter_list hl1 (wpAny_bind (wpAny_runValue ?_))
        have sz : (s.heap.push (newSet led)).objs.size = s.heap.objs.size + 1 := Heap.size_push _ _
        have nI : l ≠ (s.heap.push (newSet led)).objs.size := by rw [sz]; exact Nat.ne_of_lt (Nat.lt_succ_of_lt hlt)
        have nF : s.heap.objs.size ∉ [(s.heap.push (newSet led)).objs.size, l] := by
          rw [sz]
          simp only [List.mem_cons, List.not_mem_nil, or_false, not_or]
          exact ⟨Nat.ne_of_lt (Nat.lt_succ_self _), Nat.ne_of_gt hlt⟩
        have len : xs.length = its.size := by rw [← StrsAre.len_eq hi, Array.length_toList]
        refine into_set ((Walks.list (by simp [hh]) _ l nI its).toS) s.heap.objs.size nF xs len (by rw [← len]; exact hb) (fun j u hu => SS.strs_at hi j u (by rw [Array.getElem?_toList]; exact hu)) (its.size - 0) 0 _ (by omega) (Nat.zero_le _) ⟨⟨_, Heap.get?_push_size _ rfl, rfl, rfl⟩, hl1.push _⟩ ?h0 ?hR
        case h0 => exact same_set ((PyProof.Rows.setObjOf_fresh (knd := PySem.strKind pg wd) led).setOf (Heap.get?_push_of_some _ gS) (by unfold scanBound; omega)) (fun _ => rfl) rfl
        case hR =>
          rintro ⟨h2, a1, a2, tk, a3⟩ mv hs
          obtain rfl : a1 = s.gens := mv.gens
          obtain rfl : a2 = s.drawn := mv.drawn
          obtain rfl : a3 = s.os := mv.os
          show wpAny _ _ _ _ _ _
          refine wpAny_pure ?_
          show wpAny _ _ (ret Value.none) _ _ _
          refine wpAny_pure ⟨rfl, h2, tk, rfl, hs, fun b o hb e => mv.heap b o ?_ (Heap.get?_push_of_some _ (Heap.get?_push_of_some _ e))⟩
          simp only [List.mem_cons, List.not_mem_nil, or_false, not_or]
          exact ⟨Nat.ne_of_lt hb, by rw [sz]; exact Nat.ne_of_lt (Nat.lt_succ_of_lt hb)⟩
      · cases r2 with
        | error e => exact hr2
        | ok fl =>
          cases fl with
          | ret v =>
            obtain ⟨rfl, h2, tk, rfl, hs, kp⟩ := hr2
            repeat (any_goals (first | assumption | wp_step))
            exact h _ _ hs kp
          | brk => exact hr2.elim
          | cont => exact hr2.elim
          | next => exact hr2.elim
end
def tLenSetS (K : PySem.W.Frag) (ta : TE) : TE := fun σ H Q => ta σ H fun x H1 => ∃ l, ∃ xs : List Str, x = .ref l ∧ SqL K H1 l (xs.map V.str) ∧ xs.length ≤ 3000 ∧ Q (.int ((cntD xs : Nat) : Int)) H1
theorem pe_lenSetS {X : Cx} {K : PySem.W.Frag} {a : Expr} {ta : TE} {p p2 q pos : Pos} (hK : X.K = K) (hc : X.calm = true) (hm : X.mg "len" = none) (hm2 : X.mg "set" = none) (ha : PE X a ta) (hg : Gl X "len" := by rfl) (hg2 : Gl X "set" := by rfl)
    (na : starEach [a] X.env = (false, eval a X.env) :: starEach [] X.env := by rfl) : PE X (.Call (.Name "len" p) [.Call (.Name "set" p2) [a] [] q] [] pos) (tLenSetS K ta) := by
  subst hK
  refine ⟨fun pins s σ H Q I h => Call_ (ld_blt I hg hm boot_len ?_)⟩
  refine PyProof.Rows.callWith_builtin1 (PyProof.Rows.args_cons (Call_ (ld_blt I hg2 hm2 boot_set ?_)) rfl) rfl rfl
  refine PyProof.Rows.callWith_type1 (PyProof.Rows.args_cons (thn (ha.run pins s σ H _ I h) fun v s1 ⟨x, H1, I1, r1, l, xs, ex, hq, hl, q1⟩ => PyProof.Rows.args_nil ?_) na) na rfl
  subst ex
  obtain rfl : v = Value.ref l := r1
  obtain ⟨its, r, pl, hz⟩ := I1.list hq
  refine set_of_list (I1.ok.hd hc) pl.isList (by simpa using strsAre_of r) (by unfold scanBound; omega) fun h2 tk hS hk => PyProof.Rows.args_nil ?_
  obtain ⟨o, es, ep, t, ho, hex, hd, _, _, _, hf, hn⟩ := hS
  have I2 : Inv X pins σ H1 { s1 with heap := h2, toks := tk } := I1.kept fun b o e => hk b o (Heap.lt_size e) e
  have cl := cntD_le xs
  exact call_len_set ho hex hd hf (by rw [hn] <;> omega) ⟨.int ((cntD xs : Nat) : Int), H1, I2.tok _, ⟨_, by rw [hn]⟩, q1⟩
section
variable {K : PySem.W.Frag} {W : WS} {σ : L2.St} {F H : Hp} {te : TE}
def lenSetR (xs : List Str) : R Int := if xs.length ≤ 3000 then .ok ((cntD xs : Nat) : Int) else .stuck
theorem ev_lenSet {m : R (List Str)} (h : Ev (tList K tStr) te W σ F H m) : Ev tInt (tLenSetS K te) W σ F H (bd m lenSetR) := fun F1 H1 f1 Q q =>
  h F1 H1 f1 _ (post_imp (post_bd q) (fun xs _ k x F2 H2 f2 ⟨p, vs, ex, hs, rv⟩ => by
    unfold lenSetR at k
    by_cases c : xs.length ≤ 3000
    · rw [if_pos c] at k
      exact ⟨p, xs, ex, by rw [← paired_strs rv]; exact sqL_mono f2.s hs, c, k _ F2 H2 f2 rfl⟩
    · rw [if_neg c] at k
      exact k.elim) fun e _ z => z)
end
end TL
/-! ## TL23: repr of a tuple of any things; a text against any thing; a list of any things as one -/
namespace TL
open PySem PySem.Spec PyProof.Rows L2
/-- as data, an empty dict too -/
def dynData : Dyn → Option PyData
  | .dat d => some d
  | .dct => some (.dict [])
  | .dany => none
/-- a thing and how it is read -/
def Shows (h : Heap) (v : Value) (d : PyData) : Prop := ∃ as, Reads h v d as ∧ (d.hasDict = true → sysModules ∉ as)
theorem shows_dyn {X : Cx} {pins : List (Addr × Obj)} {σ : L2.St} {H : Hp} {s : Shared} (I : Inv X pins σ H s) {v : V} {u : Value} {d : Dyn} {e : PyData} (r : (tDyn X.K).rep H v d) (rv : RelV v u) (he : dynData d = some e) : Shows s.heap u e := by
  cases d with
  | dany => cases he
  | dat d =>
    cases he
    obtain ⟨as, q⟩ := Dp.reads I e v u r rv
    exact ⟨as, q, fun z => absurd ((dp_noDict e v r).symm.trans z) Bool.false_ne_true⟩
  | dct =>
    cases he
    obtain ⟨p, rfl, hp⟩ := r
    obtain rfl : u = .ref p := rv
    obtain ⟨_, low, vs, kv, dd⟩ := dk_of I.hok hp
    cases kv
    obtain ⟨o, es, ep, g, ex, hd, _, ps, _⟩ := dd
    have nil : es.toList = [] := by
      generalize es.toList = l at ps
      cases l with
      | nil => rfl
      | cons _ _ => cases ps
    refine ⟨[p] ++ [], .dict (as := []) (bs := []) g ex.1 hd (by rw [nil]; exact .nil) (by rw [nil]; exact .nil), fun _ m => ?_⟩
    have e : sysModules = p := by simpa using m
    rw [e] at low
    simp at low
/-- all of a row -/
inductive ShowsAll (h : Heap) : List Value → List PyData → Prop
  | nil : ShowsAll h [] []
  | cons {v : Value} {d : PyData} {vs : List Value} {ds : List PyData} : Shows h v d → ShowsAll h vs ds → ShowsAll h (v :: vs) (d :: ds)
theorem ShowsAll.reads {h : Heap} : ∀ {vs : List Value} {ds : List PyData}, ShowsAll h vs ds → ∃ as, ReadsAll h vs ds as
  | _, _, .nil => ⟨[], .nil⟩
  | _, _, .cons ⟨as, r, _⟩ t => let ⟨bs, q⟩ := t.reads; ⟨as ++ bs, .cons r q⟩
theorem ShowsAll.all {pg : Program} {wd : World} {h : Heap} : ∀ {vs : List Value} {ds : List PyData}, ShowsAll h vs ds → PyData.showableAll ds = true → (∀ t ∈ PyData.shownAll ds, t.length ≤ sizeLine) →
    ∃ bs, ReadAtMost h (PyData.depthAll ds) bs ∧ ReprAllK pg wd bs h (PyData.depthAll ds) vs (PyData.shownAll ds)
  | _, _, .nil, _, _ => ⟨[], (fun _ z => nomatch z), by simp only [PyData.shownAll]; exact .nil⟩
  | _, _, .cons (d := d) (ds := ds) ⟨as, r, low⟩ t, hs, hz => by
    have two : d.showable = true ∧ PyData.showableAll ds = true := by simpa [PyData.showableAll] using hs
    have len : d.shown.length ≤ sizeLine ∧ ∀ t ∈ PyData.shownAll ds, t.length ≤ sizeLine := by simpa [PyData.shownAll] using hz
    obtain ⟨bs, g1, k1⟩ := ReprK.of_reads (prog := pg) (w := wd) r two.1 low len.1
    obtain ⟨cs, g2, k2⟩ := t.all (pg := pg) (wd := wd) two.2 len.2
    have m1 : d.depth ≤ PyData.depthAll (d :: ds) := by simp only [PyData.depthAll]; exact Nat.le_max_left _ _
    have m2 : PyData.depthAll ds ≤ PyData.depthAll (d :: ds) := by simp only [PyData.depthAll]; exact Nat.le_max_right _ _
    refine ⟨bs ++ cs, (g1.mono m1).append (g2.mono m2), ?_⟩
    simp only [PyData.shownAll]
    exact .cons ((k1.more fun b z => List.mem_append_left _ z).level_le m1) (k2.more_le (fun b z => List.mem_append_right _ z) m2)
def rReprT (K : PySem.W.Frag) : List V → Hp → VK → Prop := fun xs H Q => ∃ p vs ds es, xs = [.ref p] ∧ H p = some (.tup vs) ∧ Paired ((tDyn K).rep H) vs ds ∧ ds.map dynData = es.map some ∧ (PyData.tuple es).showable = true ∧ (PyData.tuple es).depth ≤ 60 ∧ (PyData.tuple es).shown.length ≤ sizeLine ∧ Q (.str (PyData.tuple es).shown) H
theorem showsAll_of {X : Cx} {pins : List (Addr × Obj)} {σ : L2.St} {H : Hp} {s : Shared} (I : Inv X pins σ H s) : ∀ {vs : List V} {us : List Value} {ds : List Dyn} {es : List PyData}, Paired ((tDyn X.K).rep H) vs ds → Vals vs us → ds.map dynData = es.map some → ShowsAll s.heap us es
  | _, _, _, [], .nil, .nil, _ => .nil
  | _, _, _, e :: es, .cons r t, .cons rv tv, h => by
    rw [List.map_cons, List.map_cons] at h
    injection h with h1 h2
    exact .cons (shows_dyn I r rv h1) (showsAll_of I t tv h2)
theorem call_reprT {X : Cx} {K : PySem.W.Frag} (hK : X.K = K) (hg : X.A.guards = some []) (hu : X.A.units + 64 < cLine) : CallR X (.builtin "repr") (rReprT K) := by
  subst hK
  rintro pins s σ H xs us Q I r ⟨p, vs, ds, es, rfl, hp, rd, hm, sh, dep, sz, q⟩
  obtain ⟨u, rfl, ru⟩ := vals1 r
  obtain rfl : u = .ref p := ru
  obtain ⟨its, rv, ⟨o, ho, hc, n, hd⟩, _⟩ := I.tuple (.inl (.inl hp))
  have all := showsAll_of I rd rv hm
  obtain ⟨as, ra⟩ := all.reads
  have rt : Reads s.heap (.ref p) (.tuple es) as := .tuple ho hc hd ra
  have hz : (tupleText (PyData.shownAll es)).length ≤ sizeLine := by simpa only [PyData.shown] using sz
  obtain ⟨bs, g, k⟩ := all.all (pg := X.prog) (wd := X.w) (by simpa [PyData.showable] using sh) fun t ht => Nat.le_trans (tupleText_mem_le ht) hz
  have dp : (PyData.tuple es).depth = PyData.depthAll es + 1 := by simp only [PyData.depth]
  have na : p ∉ bs := not_mem_of_deeper rt (by omega) g
  refine call_repr_slot (T := "tuple") (by omega) ⟨o, ho, hc⟩ PySem.F.slot_tuple_repr ?_
  refine call_tuple_reprK ho hc hd na k (g := []) hg (fun b _ => Clear.nil b) (by show X.A.units + 1 + (PyData.depthAll es + 1) < cLine; omega) (fun _ _ e => e) (fun h2 u tk kp => ?_) hz
  have q2 : Q (.str (tupleText (PyData.shownAll es))) H := by simpa only [PyData.shown] using q
  exact ⟨_, _, rfl, .str _, H, I.kept kp, ⟨_, rfl⟩, q2⟩
/-! ### a row whose places are all any things -/
structure IsDyA {α : Type} (K : PySem.W.Frag) (u : TyA α) (f : α → List Dyn) : Prop where
  all : ∀ {F : Hp} {vs : List V} {a : α}, u.rep F vs a → Paired ((tDyn K).rep F) vs (f a)
section
variable {K : PySem.W.Frag} {W : WS} {σ : L2.St} {F H : Hp} {α β : Type} {ta : Ty α} {te te1 te2 : TE} {u : TyA α}
theorem dy_one : IsDyA K (aOne (tDyn K)) (fun a => [a]) := ⟨fun {F vs a} ⟨v, e, r⟩ => by
  subst e
  exact .cons r .nil⟩
theorem dy_cons {f : α → List Dyn} (d : IsDyA K u f) : IsDyA K (aCons (tDyn K) u) (fun a => a.1 :: f a.2) := ⟨fun {F vs a} ⟨v, ws, e, r, q⟩ => by
  subst e
  exact .cons r (d.all q)⟩
def dynAll : List Dyn → Option (List PyData)
  | [] => some []
  | d :: ds => match dynData d, dynAll ds with
    | some e, some es => some (e :: es)
    | _, _ => none
theorem dynAll_map : ∀ {ds : List Dyn} {es : List PyData}, dynAll ds = some es → ds.map dynData = es.map some
  | [], es, h => by
    cases h
    rfl
  | d :: ds, es, h => by
    unfold dynAll at h
    cases h1 : dynData d with
    | none =>
      rw [h1] at h
      cases h
    | some e =>
      cases h2 : dynAll ds with
      | none =>
        rw [h1, h2] at h
        cases h
      | some es2 =>
        rw [h1, h2] at h
        cases h
        rw [List.map_cons, List.map_cons, h1, dynAll_map h2]
def reprTR (ds : List Dyn) : R Str := match dynAll ds with
  | some es => if (PyData.tuple es).showable = true ∧ (PyData.tuple es).depth ≤ 60 ∧ (PyData.tuple es).shown.length ≤ 1000000 then .ok (PyData.tuple es).shown else .stuck
  | none => .stuck
theorem calm_reprTR {ds : List Dyn} : Calm (reprTR ds) := by
  unfold reprTR
  cases dynAll ds with
  | none => exact calm_stuck
  | some es => exact calm_ite calm_ok calm_stuck
theorem ev_reprT {f : α → List Dyn} (d : IsDyA K u f) {m : R α} (h : Ev (yTup K u) te W σ F H m) : Ev tStr (tCB (rReprT K) (tCons te tNil)) W σ F H (bd m fun a => reprTR (f a)) :=
  ev_cb1 (ta := yTup K u) (f := fun a => reprTR (f a)) (fun F H s x a ⟨p, vs, ex, hs, rv⟩ Q q => by
    have q : Post (reprTR (f a)) _ _ := q
    unfold reprTR at q
    cases e : dynAll (f a) with
    | none =>
      rw [e] at q
      exact q.elim
    | some es =>
      rw [e] at q
      by_cases c : (PyData.tuple es).showable = true ∧ (PyData.tuple es).depth ≤ 60 ∧ (PyData.tuple es).shown.length ≤ 1000000
      · dsimp only at q
        rw [if_pos c] at q
        exact ⟨p, vs, f a, es, by rw [ex], s _ _ hs, paired_mono s (d.all rv), dynAll_map e, c.1, c.2.1, Nat.le_trans c.2.2 (by decide), q _ F H (Fr.refl s) rfl⟩
      · dsimp only at q
        rw [if_neg c] at q
        exact q.elim) (fun _ => calm_reprTR) h
/-! ### a list of any things as one thing -/
def undat : List Dyn → Option (List PyData)
  | [] => some []
  | .dat d :: ds => match undat ds with
    | some es => some (d :: es)
    | none => none
  | _ :: _ => none
theorem undat_all : ∀ {vs : List V} {ds : List Dyn} {es : List PyData}, Paired ((tDyn K).rep F) vs ds → undat ds = some es → DpAll K F vs es
  | _, _, _, .nil, h => by
    cases h
    exact .nil
  | _, d :: ds, es, .cons r t, h => by
    cases d with
    | dct => cases h
    | dany => cases h
    | dat d =>
      unfold undat at h
      cases h2 : undat ds with
      | none =>
        rw [h2] at h
        cases h
      | some es2 =>
        rw [h2] at h
        cases h
        exact .cons r (undat_all t h2)
def undynL (ds : List Dyn) : R Dyn := match undat ds with
  | some es => .ok (.dat (.list es))
  | none => .stuck
theorem calm_undynL {ds : List Dyn} : Calm (undynL ds) := by
  unfold undynL
  cases undat ds with
  | none => exact calm_stuck
  | some es => exact calm_ok
theorem ev_undyn {m : R (List Dyn)} (h : Ev (yList (tDyn K)) te W σ F H m) : Ev (tDyn K) te W σ F H (bd m undynL) := ev_cast (fun F v a r b e => by
  obtain ⟨p, vs, rfl, h2, h3⟩ := r
  unfold undynL at e
  cases e2 : undat a with
  | none =>
    rw [e2] at e
    cases e
  | some es =>
    rw [e2] at e
    cases e
    exact .lst (.inl (.inl h2)) (undat_all h3 e2)) (fun _ => calm_undynL) h
end
/-! ### a text against any thing -/
section
variable {l : Addr} {es : Array DictEntry} {n : Nat} {dd : Option Addr} {sl : Array (Option Value)} {b : Str} {u : Tok}
theorem str_no_dict {c : Value} : Meets (Builtin.«str.__eq__» ⟨[.str b u, .ref l], []⟩) (fun _ Rr s => s.heap.get? l = some { cls := c, dict := dd, data := .dict es n, slots := sl } ∧ Rr (.ok (.ret .notImplemented)) s) :=
  .of_wp fun pg wd B Rr s ⟨g, q⟩ => by obtain ⟨z1, z2, z3, z4, z5⟩ := s; wp_walk using wpAny_loadPart' g, wpAny_load g; exact ⟨_, rfl, q⟩
theorem dict_no_str : Meets (Builtin.«dict.__eq__» ⟨[.ref l, .str b u], []⟩) (fun _ Rr s => s.heap.get? l = some { cls := .type "dict", dict := dd, data := .dict es n, slots := sl } ∧ Rr (.ok (.ret .notImplemented)) s) :=
  .of_wp fun pg wd B Rr s ⟨g, q⟩ => by
    obtain ⟨z1, z2, z3, z4, z5⟩ := s
    have k1 := PySem.F.sub_str_dict
    wp_walk using wpAny_loadPart' g
    exact ⟨_, rfl, q⟩
end
/-- is the text this thing -/
def eqSD (a : Str) : Dyn → R Bool
  | .dat d => eqDR (.str a) d
  | _ => .ok false
def rEqSD (K : PySem.W.Frag) : R2 := fun x y H Q => ∃ a d b, x = .str a ∧ (tDyn K).rep H y d ∧ eqSD a d = .ok b ∧ Q (.bl b) H
theorem eq_str_dict {pg : Program} {wd : World} {B : Around} {E : Value → Shared → Prop} {s : Shared} {b : Str} {u : Tok} {l : Addr} {o : Obj} {es : Array DictEntry} {n : Nat} {Q : Value → Shared → Prop} (g : s.heap.get? l = some o) (hc : o.cls = .type "dict") (hd : o.data = .dict es n) (hu : B.units < cLine)
    (q : Q (.bool false) s) : wpAny (model pg wd) B (compareOp .Eq (.str b u) (.ref l)) Q E s := by
  obtain ⟨c1, c2, c3, c4⟩ := o
  obtain rfl : c1 = .type "dict" := hc
  obtain rfl : c3 = .dict es n := hd
  refine SeqAt.rc_eq_decline_or (k := false) (typeIs_str s b u) ⟨_, g, rfl⟩ (by decide) PySem.F.sub_dict_str PySem.F.slot_str_eq PySem.F.slot_dict_eq_refl (fun _ z => ?_) (fun _ z => ?_) (fun _ z => wpAny_of_eq (rfl : isSame (.str b u) (.ref l) = pure false) z) (.inr hu) q
  · exact call_meets PySem.F.slot_str_eq (typeIs_str s b u) PySem.F.entry_str_eq (PySem.F.args_str_eq_2 _ _) str_no_dict ⟨g, z⟩
  · exact call_meets PySem.F.slot_dict_eq_refl ⟨_, g, rfl⟩ PySem.F.entry_dict_eq (PySem.F.args_dict_eq_2 _ _) dict_no_str ⟨g, z⟩
theorem ko_eqSD {X : Cx} {K : PySem.W.Frag} (hK : X.K = K) (hu : X.A.units + 64 < cLine) : OpR X (compareOp .Eq) (rEqSD K) := by
  subst hK
  intro pins s σ H x y v u Q I rx ry h
  obtain ⟨a, d, b, rfl, rd, eb, q⟩ := h
  have dict : ∀ {p kvs}, y = .ref p → H p = some (.dK kvs) → b = false → wpAny (model X.prog X.w) X.A (compareOp .Eq v u) (EP X pins σ Q) X.xe s := by
    rintro p kvs rfl hp rfl
    obtain ⟨t, rfl⟩ := rx
    obtain rfl : u = .ref p := ry
    obtain ⟨_, _, vs, _, o, es, ep, g, ex, hd, _⟩ := dk_of I.hok hp
    exact eq_str_dict g ex.1 hd (by omega) ⟨.bl false, H, I, rfl, q⟩
  cases d with
  | dct =>
    obtain ⟨p, e, hp⟩ := rd
    cases eb
    exact dict e hp rfl
  | dany =>
    obtain ⟨p, kvs, e, hp⟩ := rd
    cases eb
    exact dict e hp rfl
  | dat d =>
    have eb : eqDR (.str a) d = .ok b := eb
    unfold eqDR at eb
    by_cases c : (PyData.str a).canLay0 = true ∧ d.canLay0 = true
    · rw [if_pos c] at eb
      cases eb
      obtain ⟨as, r1⟩ := Dp.reads I (.str a) (.str a) v (.str a) rx
      obtain ⟨bs, r2⟩ := Dp.reads I d y u rd ry
      exact SeqAt.compareEq_reads r1 r2 c.1 c.2 (by simp only [PyData.depth]; omega) ⟨.bl _, H, I, rfl, q⟩
    · rw [if_neg c] at eb
      cases eb
section
variable {K : PySem.W.Frag} {W : WS} {σ : L2.St} {F H : Hp} {te1 te2 : TE}
theorem calm_eqSD {a : Str} {d : Dyn} : Calm (eqSD a d) := by
  cases d with
  | dat d => exact calm_eqDR
  | dct => exact calm_ok
  | dany => exact calm_ok
theorem ev_eqSD {m1 : R Str} {m2 : R Dyn} (h1 : Ev tStr te1 W σ F H m1) (h2 : Ev (tDyn K) te2 W σ F H m2) : Ev tBool (tOp (rEqSD K) te1 te2) W σ F H (bd m1 fun a => bd m2 fun d => eqSD a d) :=
  ev_op (op2_pure fun F H s x y a d ra rd Q q => by
    cases e : eqSD a d with
    | stuck =>
      rw [e] at q
      exact q.elim
    | err x => exact absurd e (calm_eqSD x)
    | ok b =>
      rw [e] at q
      exact ⟨a, d, b, ra, (tDyn K).mono s rd, e, q _ rfl⟩) (fun _ _ => calm_eqSD) h1 h2
end
end TL
/-! ## TL24: own things lent to what answers with new things; two own lists in a tuple; extend, clear; a tuple's tail -/
namespace TL
open PySem PySem.Spec PyProof.Rows L2
/-- F with what is lent -/
def plus (F L : Hp) : Hp := fun q => match L q with
  | some o => some o
  | none => F q
def cut (F L : Hp) : Hp := fun q => match L q with
  | some _ => none
  | none => F q
theorem plus_l {F L : Hp} {q : Addr} {o : HO} (h : L q = some o) : plus F L q = some o := by
  unfold plus
  rw [h]
theorem plus_n {F L : Hp} {q : Addr} (h : L q = none) : plus F L q = F q := by
  unfold plus
  rw [h]
theorem cut_l {F L : Hp} {q : Addr} {o : HO} (h : L q = some o) : cut F L q = none := by
  unfold cut
  rw [h]
theorem cut_n {F L : Hp} {q : Addr} (h : L q = none) : cut F L q = F q := by
  unfold cut
  rw [h]
/-- L can be lent: it stands in H, and is not frozen -/
structure Lend (F H L : Hp) : Prop where
  f : ∀ q o, L q = some o → F q = none
  h : Same L H
theorem Lend.mono {F H F' H' L : Hp} (l : Lend F H L) (f : Fr F H F' H') : Lend F' H' L := ⟨fun q o e => f.n q (l.f q o e) (some_ne (l.h q o e)), l.h.trans f.h⟩
theorem Lend.plusF {F H L : Hp} (l : Lend F H L) : Same F (plus F L) := fun q o e => by
  cases hl : L q with
  | none => rw [plus_n hl, e]
  | some o2 =>
    rw [l.f q o2 hl] at e
    cases e
theorem Lend.plusH {F H L : Hp} (l : Lend F H L) (s : Same F H) : Same (plus F L) H := fun q o e => by
  cases hl : L q with
  | none =>
    rw [plus_n hl] at e
    exact s q o e
  | some o2 =>
    rw [plus_l hl] at e
    cases e
    exact l.h q o hl
theorem Lend.frP {F H F1 H1 L : Hp} (l : Lend F H L) (f : Fr F H F1 H1) : Fr (plus F L) H (plus F1 L) H1 := ⟨fun q o e => by
  cases hl : L q with
  | none =>
    rw [plus_n hl] at e
    rw [plus_n hl]
    exact f.f q o e
  | some o2 =>
    rw [plus_l hl] at e
    rw [plus_l hl]
    exact e, f.h, (l.mono f).plusH f.s, fun p hf hh => by
  cases hl : L p with
  | none =>
    rw [plus_n hl] at hf
    rw [plus_n hl]
    exact f.n p hf hh
  | some o2 =>
    rw [plus_l hl] at hf
    cases hf⟩
theorem Lend.frB {F1 H1 F2 H2 L : Hp} (l : Lend F1 H1 L) (f : Fr (plus F1 L) H1 F2 H2) : Fr F1 H1 (cut F2 L) H2 := by
  refine ⟨fun q o e => ?_, f.h, fun q o e => ?_, fun p hf hh => ?_⟩
  · cases hl : L q with
    | none =>
      rw [cut_n hl]
      exact f.f q o (by rw [plus_n hl]; exact e)
    | some o2 =>
      rw [l.f q o2 hl] at e
      cases e
  · cases hl : L q with
    | none =>
      rw [cut_n hl] at e
      exact f.s q o e
    | some o2 =>
      rw [cut_l hl] at e
      cases e
  · cases hl : L p with
    | none =>
      rw [cut_n hl]
      exact f.n p (by rw [plus_n hl]; exact hf) hh
    | some o2 => exact cut_l hl
/-- what rests on objects of P alone -/
def Thaw {α : Type} (P : HO → Prop) (t : Ty α) : Prop := ∀ (F F' : Hp) (v : V) (a : α), (∀ q o, F q = some o → P o → F' q = some o) → t.rep F v a → t.rep F' v a
def ThawA {α : Type} (P : HO → Prop) (u : TyA α) : Prop := ∀ (F F' : Hp) (vs : List V) (a : α), (∀ q o, F q = some o → P o → F' q = some o) → u.rep F vs a → u.rep F' vs a
section
variable {K : PySem.W.Frag} {W : WS} {σ : L2.St} {F H F0 H0 F1 H1 F2 H2 L : Hp} {P : HO → Prop} {α β γ : Type} {ta : Ty α} {tb : Ty β} {u : TyA α} {ub : TyA β} {te te1 te2 : TE} {tt : TT} {v w : V} {D : Ends} {KK : γ → Prop} {XX : Exn → Prop}
theorem thaw_int : Thaw P tInt := fun _ _ _ _ _ h => h
theorem thaw_bool : Thaw P tBool := fun _ _ _ _ _ h => h
theorem thaw_none : Thaw P tNone := fun _ _ _ _ _ h => h
theorem thaw_str : Thaw P tStr := fun _ _ _ _ _ h => h
theorem thaw_opt (t : Thaw P ta) : Thaw P (tOpt ta) := fun F F' v a s h => by
  cases a with
  | none => exact h
  | some b => exact ⟨h.1, t F F' v b s h.2⟩
theorem thaw_one (t : Thaw P ta) : ThawA P (aOne ta) := fun F F' vs a s ⟨v, e, r⟩ => ⟨v, e, t F F' v a s r⟩
theorem thaw_cons (t : Thaw P ta) (q : ThawA P ub) : ThawA P (aCons ta ub) := fun F F' vs a s ⟨v, ws, e, r, z⟩ => ⟨v, ws, e, t F F' v a.1 s r, q F F' ws a.2 s z⟩
theorem thaw_all (t : Thaw P ta) (s : ∀ q o, F q = some o → P o → F1 q = some o) : ∀ {vs : List V} {as : List α}, Paired (ta.rep F) vs as → Paired (ta.rep F1) vs as
  | _, _, .nil => .nil
  | _, _, .cons r q => .cons (t _ _ _ _ s r) (thaw_all t s q)
theorem thaw_tup (hP : ∀ vs, P (.tup vs)) (t : ThawA P u) : Thaw P (yTup K u) := fun F F' v a s ⟨p, vs, e, hp, r⟩ => ⟨p, vs, e, s p _ hp (hP vs), t F F' vs a s r⟩
theorem thaw_obj {x : Str} {names : List Str} (hP : ∀ dx fs, P (.ins (He.ga K x) dx fs)) (t : ThawA P u) : Thaw P (tObj K x names u) := fun F F' v a s ⟨p, dx, vs, e, hp, r⟩ => ⟨p, dx, vs, e, s p _ hp (hP dx _), t F F' vs a s r⟩
theorem restore (hL : ∀ q o, L q = some o → ¬ P o) (f : Same (plus F1 L) F2) : ∀ q o, F2 q = some o → P o → cut F2 L q = some o := fun q o e p => by
  cases hl : L q with
  | none =>
    rw [cut_n hl]
    exact e
  | some o2 =>
    rw [f q o2 (plus_l hl)] at e
    cases e
    exact absurd p (hL q o hl)
theorem ev_plus {m : R α} (l : Lend F H L) (hL : ∀ q o, L q = some o → ¬ P o) (th : Thaw P ta) (h : Ev ta te W σ (plus F L) H m) : Ev ta te W σ F H m := fun F1 H1 f1 Q q => by
  refine h _ H1 (l.frP f1) Q (post_imp q (fun a _ k v F2 H2 f2 rv => ?_) fun e _ z F2 H2 f2 => z _ H2 ((l.mono f1).frB f2))
  exact k v _ H2 ((l.mono f1).frB f2) (th _ _ _ _ (restore hL f2.f) rv)
theorem el_plus {m : R (List α)} (l : Lend F H L) (hL : ∀ q o, L q = some o → ¬ P o) (th : Thaw P ta) (h : EvL ta te W σ (plus F L) H m) : EvL ta te W σ F H m := fun F1 H1 f1 Q q => by
  refine h _ H1 (l.frP f1) Q (post_imp q (fun a _ k p vs F2 H2 f2 h1 hf h2 rv => ?_) fun e _ z F2 H2 f2 => z _ H2 ((l.mono f1).frB f2))
  refine k p vs _ H2 ((l.mono f1).frB f2) h1 ?_ h2 (thaw_all th (restore hL f2.f) rv)
  cases hl : L p with
  | none => rw [cut_n hl, hf]
  | some o2 => exact cut_l hl
theorem et_plus {m : R Bool} (l : Lend F H L) (h : EvT tt W σ (plus F L) H m) : EvT tt W σ F H m := fun F1 H1 f1 Q q =>
  h _ H1 (l.frP f1) Q (post_imp q (fun a _ k F2 H2 f2 => k _ H2 ((l.mono f1).frB f2)) fun e _ z F2 H2 f2 => z _ H2 ((l.mono f1).frB f2))
/-- made things that never change -/
def Perm : HO → Prop
  | .tup _ => True
  | .ins _ _ _ => True
  | .frz _ _ => True
  | _ => False
theorem thaw_sqT (hs : ∀ q o, F q = some o → Perm o → F1 q = some o) {p : Addr} {vs : List V} (h : SqT K F p vs) : SqT K F1 p vs := by
  rcases h with (h | ⟨o, h⟩) | h
  · exact .inl (.inl (hs _ _ h trivial))
  · exact .inl (.inr ⟨o, hs _ _ h trivial⟩)
  · exact .inr h
theorem thaw_tupL (t : Thaw Perm ta) : Thaw Perm (yTupL K ta) := fun F F' v as s ⟨p, vs, e, hp, r⟩ => ⟨p, vs, e, thaw_sqT s hp, thaw_all t s r⟩
/-- one own list -/
def oneL (p : Addr) (o : HO) : Hp := fun q => if q = p then some o else none
theorem oneL_some {p q : Addr} {o o2 : HO} (h : oneL p o q = some o2) : q = p ∧ o2 = o := by
  unfold oneL at h
  by_cases e : q = p
  · rw [if_pos e] at h
    cases h
    exact ⟨e, rfl⟩
  · rw [if_neg e] at h
    cases h
theorem oneL_at {p : Addr} {o : HO} : oneL p o p = some o := if_pos rfl
theorem oneL_ne {p q : Addr} {o : HO} (h : q ≠ p) : oneL p o q = none := if_neg h
theorem Own.lend {as : List α} (o : Own ta H0 F H v as) : ∃ L, Lend F H L ∧ (∀ q o, L q = some o → ¬ Perm o) ∧ (yList ta).rep (plus F L) v as ∧ ∀ (γ : Type) (tc : Ty γ) (w : V) (cs : List γ), w ≠ v → Own tc H0 F H w cs → Own tc H0 (plus F L) H w cs := by
  obtain ⟨p, vs, ev, h0, hf, hh, r⟩ := o
  have l : Lend F H (oneL p (.lst vs)) := ⟨fun q o e => by
    obtain ⟨rfl, rfl⟩ := oneL_some e
    exact hf, fun q o e => by
    obtain ⟨rfl, rfl⟩ := oneL_some e
    exact hh⟩
  refine ⟨_, l, fun q o e => ?_, ⟨p, vs, ev, plus_l oneL_at, paired_mono l.plusF r⟩, fun γ tc w cs hw ⟨q, ws, ew, g0, gf, gh, gr⟩ => ⟨q, ws, ew, g0, ?_, gh, paired_mono l.plusF gr⟩⟩
  · obtain ⟨rfl, rfl⟩ := oneL_some e
    exact fun z => z
  · rw [plus_n (oneL_ne fun z => hw (by rw [ew, ev, z])), gf]
/-! ### things by their value -/
def tIs : Ty V := ⟨fun _ v a => v = a, fun _ h => h⟩
abbrev tTwo (K : PySem.W.Frag) : Ty (V × V) := yTup K (aCons tIs (aOne tIs))
/-- a tuple of two own lists, both lent -/
theorem two_rep {F F' : Hp} {v p q : V} {as : List α} {bs : List β} (h : (tTwo K).rep F v (p, q)) (s : Same F F') (ra : (yList ta).rep F' p as) (rb : (yList tb).rep F' q bs) : (yTup K (aCons (yList ta) (aOne (yList tb)))).rep F' v (as, bs) := by
  obtain ⟨r, vs, e, hr, x, ws, e2, hx, y, e3, hy⟩ := h
  cases hx
  cases hy
  subst e3
  subst e2
  exact ⟨r, _, e, s _ _ hr, _, _, rfl, ra, _, rfl, rb⟩
theorem ev_two {m : R α} {as : List β} {γ' : Type} {tc : Ty γ'} {cs : List γ'} {p q v : V} (th : Thaw Perm ta) (s0 : Same F H) (h2 : (tTwo K).rep F v (p, q)) (hne : q ≠ p) (o1 : Own tb H0 F H p as) (o2 : Own tc H0 F H q cs)
    (h : ∀ F', Same F F' → Same F' H → (yTup K (aCons (yList tb) (aOne (yList tc)))).rep F' v (as, cs) → Ev ta te W σ F' H m) : Ev ta te W σ F H m := by
  obtain ⟨L, l, hL, ra, keep⟩ := o1.lend
  obtain ⟨L2, l2, hL2, rb, _⟩ := (keep _ tc q cs hne o2).lend
  exact ev_plus l hL th (ev_plus l2 hL2 th (h _ (l.plusF.trans l2.plusF) (l2.plusH (l.plusH s0)) (two_rep h2 (l.plusF.trans l2.plusF) ((yList tb).mono l2.plusF ra) rb)))
/-- x = (list, list), both one's own -/
theorem s_two {i : Nat} {m1 : R (List α)} {m2 : R (List β)} {f : List α → List β → R γ} (hX : ∀ e, XX e → ∀ σ F' H', Fr F0 H0 F' H' → W e σ H') (fr : Fr F0 H0 F H) (h1 : EvL ta te1 W σ F H m1) (h2 : EvL tb te2 W σ F H m2) (hp : Post (bd m1 fun a => bd m2 fun b => f a b) KK XX)
    (k : ∀ a b v p q F' H', Fr F H F' H' → Fr F0 H0 F' H' → (tTwo K).rep F' v (p, q) → Own ta H0 F' H' p a → Own tb H0 F' H' q b → q ≠ p → NewAt p H → NewAt q H → Post (f a b) KK XX → D.nx (σ.set i (some v)) H') : tAsg (tTup (tCons te1 (tCons te2 tNil))) (gName i) D σ H := by
  refine h1 F H (Fr.refl fr.s) _ (post_imp (post_bd hp) (fun a _ q p vs F1 H1 f1 n1 nf1 e1 r1 => ?_) fun e _ z F' H' f' => hX e z _ _ _ (fr.trans f'))
  refine h2 F1 H1 f1 _ (post_imp (post_bd q) (fun b _ q2 p2 ws F2 H2 f2 n2 nf2 e2 r2 => ?_) fun e _ z F' H' f' => hX e z _ _ _ (fr.trans (f1.trans f')))
  refine ⟨by show 2 ≤ sizeLine; decide, fun r hr => ?_⟩
  have f3 : Fr F2 H2 (upd F2 r (.tup [.ref p, .ref p2])) (upd H2 r (.tup [.ref p, .ref p2])) := Fr.alloc f2.s hr
  have ff := (f1.trans f2).trans f3
  have np : p ≠ r := fun z => by
    have := f2.h _ _ e1
    rw [z, hr] at this
    cases this
  have np2 : p2 ≠ r := fun z => by
    rw [z, hr] at e2
    cases e2
  have hf1 := f2.n p nf1 (some_ne e1)
  refine k a b (.ref r) (.ref p) (.ref p2) _ _ ff (fr.trans ff) ⟨r, _, rfl, upd_same, _, _, rfl, rfl, _, rfl, rfl⟩
    ⟨p, vs, rfl, fr.h.free n1, by rw [upd_ne np]; exact hf1, by rw [upd_ne np]; exact f2.h _ _ e1, paired_mono (f2.f.trans f3.f) r1⟩
    ⟨p2, ws, rfl, (fr.trans f1).h.free n2, by rw [upd_ne np2]; exact nf2, by rw [upd_ne np2]; exact e2, paired_mono f3.f r2⟩
    (fun z => by
      cases z
      rw [e1] at n2
      cases n2)
    (fun q' o hh z => by
      cases z
      rw [n1] at hh
      cases hh)
    (fun q' o hh z => by
      cases z
      rw [f1.h.free n2] at hh
      cases hh) q2
/-- a part of it -/
theorem at_two {p q v : V} {i : Nat} {pr : V × V → V} (h2 : (tTwo K).rep F v (p, q)) (n : Nth (aCons tIs (aOne tIs)) i tIs pr) {j : Nat} (hv : σ[j]? = some (some v)) : Ev tIs (tOp (rIxT K) (tVar j) (tC (.int (i : Nat)))) W σ F H (bd (.ok (p, q)) fun a => .ok (pr a)) := ev_nth n (fun F1 H1 f1 Q k => ⟨v, hv, k v F1 H1 (Fr.refl f1.s) ((tTwo K).mono f1.f h2)⟩)
/-! ### changes of one's own list, by an expression -/
theorem s_appE {as : List α} {te0 : TE} {m : R α} {f : List α → R γ} (hX : ∀ e, XX e → ∀ σ F' H', Fr F0 H0 F' H' → W e σ H') (fr : Fr F0 H0 F H) (h0 : Ev tIs te0 W σ F H (.ok v)) (o : Own ta H0 F H v as) (he : Ev ta te W σ F H m) (hp : Post (bd m fun a => bd (addR as a) f) KK XX)
    (k : ∀ bs F' H', Same F F' → Fr F0 H0 F' H' → Own ta H0 F' H' v bs → Kept (atV v) F H F' H' → Post (f bs) KK XX → D.nx σ H') :
    tDrop (tBM K "list" rAppend te0 (tCons te tNil)) D σ H := by
  refine h0 F H (Fr.refl fr.s) _ (fun x F1 H1 f1 ex => ?_)
  cases ex
  obtain ⟨p, vs, ev, g0, hf, hh, r⟩ := o.mono f1
  subst ev
  refine ⟨.inl ⟨rfl, vs, SqL.of hh⟩, ?_⟩
  refine he F1 H1 f1 _ (post_imp (post_bd hp) (fun a e q v F' H' f' rv => ?_) fun e _ z F' H' f' => hX e z _ _ _ (fr.trans (f1.trans f')))
  unfold addR at q
  by_cases hl : as.length < 100000
  · rw [if_pos hl] at q
    have hF' : F' p = none := f'.n p hf (some_ne hh)
    refine ⟨p, vs, v, rfl, rfl, f'.h p _ hh, Nat.lt_of_lt_of_le (show vs.length < 100000 by rw [r.length]; exact hl) (by decide), ?_⟩
    have ff := f1.trans f'
    refine k (as ++ [a]) F' _ ff.f ((fr.trans ff).mut g0 hF') ⟨p, _, rfl, g0, hF', upd_same, paired_snoc rv (paired_mono f'.f r)⟩ ⟨ff.f, fun q' o nx hh' => ?_, fun q' _ => ff.n q'⟩ q
    rw [upd_ne fun z => nx (by rw [z])]
    exact ff.h _ _ hh'
  · rw [if_neg hl] at q
    exact q.elim
theorem s_clearE {as : List α} {te0 : TE} (fr : Fr F0 H0 F H) (h0 : Ev tIs te0 W σ F H (.ok v)) (o : Own ta H0 F H v as)
    (k : ∀ F' H', Same F F' → Fr F0 H0 F' H' → Own ta H0 F' H' v [] → Kept (atV v) F H F' H' → D.nx σ H') :
    tDrop (tBM0 K "list" rClear te0) D σ H := by
  refine h0 F H (Fr.refl fr.s) _ (fun x F1 H1 f1 ex => ?_)
  cases ex
  obtain ⟨p, vs, ev, g0, hf, hh, r⟩ := o.mono f1
  subst ev
  refine ⟨.inl ⟨rfl, vs, SqL.of hh⟩, p, vs, rfl, rfl, hh, ?_⟩
  refine k F1 _ f1.f ((fr.trans f1).mut g0 hf) ⟨p, _, rfl, g0, hf, upd_same, .nil⟩ ⟨f1.f, fun q' o nx hh' => ?_, fun q' _ => f1.n q'⟩
  rw [upd_ne fun z => nx (by rw [z])]
  exact f1.h _ _ hh'
theorem s_ext {i : Nat} {as : List α} {m : R (List α)} {f : List α → R γ} (hX : ∀ e, XX e → ∀ σ F' H', Fr F0 H0 F' H' → W e σ H') (fr : Fr F0 H0 F H) (hv : σ[i]? = some (some v)) (o : Own ta H0 F H v as) (he : Ev (yList ta) te W σ F H m) (hp : Post (bd m fun a => bd (catR as a) f) KK XX)
    (k : ∀ bs F' H', Same F F' → Fr F0 H0 F' H' → Own ta H0 F' H' v bs → Kept (atV v) F H F' H' → Post (f bs) KK XX → D.nx σ H') :
    tDrop (tBM K "list" rExtend (tVar i) (tCons te tNil)) D σ H := by
  obtain ⟨p, vs, ev, h0, hf, hh, r⟩ := o
  subst ev
  refine ⟨_, hv, .inl ⟨rfl, vs, SqL.of hh⟩, ?_⟩
  refine he F H (Fr.refl fr.s) _ (post_imp (post_bd hp) (fun a e q v F' H' f' ⟨l, ws, ew, hl, rw_⟩ => ?_) fun e _ z F' H' f' => hX e z _ _ _ (fr.trans f'))
  unfold catR at q
  by_cases hc : as.length + a.length ≤ 100000
  · rw [if_pos hc] at q
    have hF' : F' p = none := f'.n p hf (some_ne hh)
    refine ⟨p, l, vs, ws, rfl, by rw [ew], f'.h p _ hh, f'.s _ _ hl, small_line (by rw [r.length, rw_.length]; exact hc), ?_⟩
    refine k (as ++ a) F' _ f'.f ((fr.trans f').mut h0 hF') ⟨p, _, rfl, h0, hF', upd_same, paired_append (paired_mono f'.f r) rw_⟩ ⟨f'.f, fun q' o nx hh' => ?_, fun q' _ => f'.n q'⟩ q
    rw [upd_ne fun z => nx (by rw [z])]
    exact f'.h _ _ hh'
  · rw [if_neg hc] at q
    exact q.elim
/-! ### tuples as rows -/
structure AllT {α β : Type} (tb : Ty β) (u : TyA α) (f : α → List β) : Prop where
  all : ∀ {F : Hp} {vs : List V} {a : α}, u.rep F vs a → Paired (tb.rep F) vs (f a)
theorem at_one : AllT ta (aOne ta) (fun a => [a]) := ⟨fun {F vs a} ⟨v, e, r⟩ => by
  subst e
  exact .cons r .nil⟩
theorem at_cons {f : β → List α} (d : AllT ta ub f) : AllT ta (aCons ta ub) (fun a => a.1 :: f a.2) := ⟨fun {F vs a} ⟨v, ws, e, r, q⟩ => by
  subst e
  exact .cons r (d.all q)⟩
theorem ev_tupAs {f : α → List β} (d : AllT tb u f) {m : R α} (h : Ev (yTup K u) te W σ F H m) : Ev (yTupL K tb) te W σ F H (bd m fun a => .ok (f a)) := fun F1 H1 f1 Q q =>
  h F1 H1 f1 _ (post_imp (post_bd q) (fun a _ k v F2 H2 f2 ⟨p, vs, e, hp, r⟩ => k v F2 H2 f2 ⟨p, vs, e, .inl (.inl hp), d.all r⟩) fun e _ z => z)
theorem ev_tupTail {m : R (α × β)} (hn : 1 ≤ ub.len ∧ ub.len ≤ 1000) (h : Ev (yTup K (aCons ta ub)) te W σ F H m) : Ev (yTup K ub) (tSl (rSlT K) te (tPart (tC (.int 1))) tNoPart) W σ F H (bd m fun a => .ok a.2) := fun F1 H1 f1 Q q => by
  refine h F1 H1 f1 _ (post_imp (post_bd q) (fun a _ k v F2 H2 f2 ⟨p, vs, e, hp, x, ws, e2, r1, r2⟩ => ?_) fun e _ z => z)
  refine ⟨1, rfl, p, vs, e, .inl (.inl (f2.s _ _ hp)), ?_, fun l hl => ?_⟩
  · rintro ⟨z, _⟩
    have hl := ub.hlen r2
    rw [e2, List.length_cons, hl, show (1 : Int) = ((1 : Nat) : Int) from rfl, HT.sIx_nat] at z
    omega
  · have hl2 := ub.hlen r2
    have ec : cutV vs (some 1) none = ws := by
      unfold cutV
      rw [e2, List.length_cons, HT.sIx_none, show (1 : Int) = ((1 : Nat) : Int) from rfl, HT.sIx_nat, Nat.min_eq_left (by omega), List.drop_succ_cons, List.drop_zero]
      exact List.take_of_length_le (by omega)
    rw [ec]
    exact k (.ref l) _ _ (f2.trans (Fr.alloc f2.s hl)) ⟨l, ws, rfl, upd_same, ub.mono (same_upd (f2.s.free hl)) r2⟩
theorem ks_tup {X : Cx} (h : X.K = K) : SlR X (rSlT K) := h ▸ sl_tup
/-! ### repr of any thing -/
def reprYR : Dyn → R Str
  | .dat d => if d.showable = true ∧ d.depth ≤ 60 ∧ d.shown.length ≤ 1000000 then .ok d.shown else .stuck
  | _ => .stuck
theorem calm_reprYR {d : Dyn} : Calm (reprYR d) := by
  cases d with
  | dat d => exact calm_ite calm_ok calm_stuck
  | dct => exact calm_stuck
  | dany => exact calm_stuck
theorem ev_reprY {m : R Dyn} (h : Ev (tDyn K) te W σ F H m) : Ev tStr (tCB (rReprD K) (tCons te tNil)) W σ F H (bd m reprYR) :=
  ev_cb1 (ta := tDyn K) (tc := tStr) (f := reprYR) (fun F H s x a rx Q q => by
    cases a with
    | dct => exact q.elim
    | dany => exact q.elim
    | dat d =>
      have q : Post (reprYR (.dat d)) _ _ := q
      unfold reprYR at q
      dsimp only at q
      by_cases hc : d.showable = true ∧ d.depth ≤ 60 ∧ d.shown.length ≤ 1000000
      · rw [if_pos hc] at q
        exact ⟨x, d, rfl, dp_mono s rx, hc.1, hc.2.1, Nat.le_trans hc.2.2 (by decide), q _ F H (Fr.refl s) rfl⟩
      · rw [if_neg hc] at q
        exact q.elim) (fun _ => calm_reprYR) h
end
end TL
/-! ## TM1: plain facts of the mirrors' parts -/
namespace TL
open PySem PySem.Spec PyProof.Rows L2
section
variable {α β γ S ρ : Type}
theorem atI_nat {xs : List α} {i : Int} (h0 : 0 ≤ i) (h1 : i < xs.length) : ∃ x, atI xs i = some x ∧ xs[i.toNat]? = some x := by
  have hl : i.toNat < xs.length := by omega
  have e : ixN xs.length i = some i.toNat := by
    unfold ixN
    rw [if_pos h0, if_pos h1]
  refine ⟨xs[i.toNat], ?_, List.getElem?_eq_getElem hl⟩
  show (ixN xs.length i).bind (fun j => xs[j]?) = _
  rw [e]
  exact List.getElem?_eq_getElem hl
theorem atR_ok {xs : List α} {i : Int} (h0 : 0 ≤ i) (h1 : i < xs.length) : ∃ x, atR xs i = .ok x ∧ xs[i.toNat]? = some x ∧ x ∈ xs := by
  obtain ⟨x, e, g⟩ := atI_nat h0 h1
  refine ⟨x, ?_, g, List.mem_of_getElem? g⟩
  unfold atR
  rw [e]
theorem atR_has {xs : List α} {i : Int} (n : Nat) (hn : xs.length = n) (h0 : 0 ≤ i) (h1 : i < n) {P : α → Prop} (h : ∀ x ∈ xs, P x) : ∃ x, atR xs i = .ok x ∧ P x := by
  obtain ⟨x, e, _, m⟩ := atR_ok (xs := xs) h0 (by rw [hn]; exact h1)
  exact ⟨x, e, h x m⟩
theorem modR_ok {a b : Int} (h : 0 < b) : modR a b = .ok (a % b) := by
  unfold modR
  rw [if_pos h]
theorem divR_ok {a b : Int} (h : 0 < b) (h2 : b < 1073741824) : divR a b = .ok (a / b) := by
  unfold divR
  rw [if_pos ⟨h, h2⟩]
theorem mulR_ok {a b : Int} (h : (-(2 ^ 64) < a ∧ a < 2 ^ 64) ∨ (-(2 ^ 64) < b ∧ b < 2 ^ 64)) : mulR a b = .ok (a * b) := by
  unfold mulR
  rw [if_pos (show CMul a b from h)]
theorem addR_ok {as : List α} {a : α} (h : as.length < 100000) : addR as a = .ok (as ++ [a]) := by
  unfold addR
  rw [if_pos h]
theorem rangeR_ok {lo hi : Int} (h1 : -(2 ^ 62) ≤ lo) (h2 : lo < 2 ^ 62) (h3 : -(2 ^ 62) ≤ hi) (h4 : hi < 2 ^ 62) : rangeR lo hi = .ok (rangeL lo hi) := by
  unfold rangeR
  rw [if_pos ⟨⟨h1, h2⟩, h3, h4⟩]
theorem mem_rangeL {lo hi x : Int} : x ∈ rangeL lo hi ↔ lo ≤ x ∧ x < hi := by
  unfold rangeL
  rw [List.mem_map]
  constructor
  · rintro ⟨a, ha, rfl⟩
    have := List.mem_range.mp ha
    omega
  · intro h
    exact ⟨(x - lo).toNat, List.mem_range.mpr (by omega), by omega⟩
theorem compL_ok {c : α → R Bool} {e : α → R β} {cp : α → Bool} {ep : α → β} : ∀ {xs : List α}, (∀ x ∈ xs, c x = .ok (cp x)) → (∀ x ∈ xs, cp x = true → e x = .ok (ep x)) → compL c e xs = .ok ((xs.filter cp).map ep)
  | [], _, _ => rfl
  | x :: xs, h1, h2 => by
    have ih := compL_ok (xs := xs) (fun y hy => h1 y (List.mem_cons_of_mem _ hy)) (fun y hy => h2 y (List.mem_cons_of_mem _ hy))
    unfold compL
    rw [h1 x List.mem_cons_self, show quiet (R.ok (cp x)) = .ok (cp x) from rfl, bd_ok]
    cases hc : cp x with
    | true =>
      rw [if_pos rfl, h2 x List.mem_cons_self hc, show quiet (R.ok (ep x)) = .ok (ep x) from rfl, bd_ok, ih, bd_ok, List.filter_cons_of_pos hc, List.map_cons]
    | false =>
      rw [List.filter_cons_of_neg (by rw [hc]; exact Bool.false_ne_true)]
      rw [if_neg Bool.false_ne_true]
      exact ih
theorem compR_ok {c : α → R Bool} {e : α → R β} (cp : α → Bool) (ep : α → β) {xs : List α} (hl : xs.length ≤ 100000) (h1 : ∀ x ∈ xs, c x = .ok (cp x)) (h2 : ∀ x ∈ xs, cp x = true → e x = .ok (ep x)) : compR c e xs = .ok ((xs.filter cp).map ep) := by
  unfold compR
  rw [if_pos hl, compL_ok h1 h2]
/-- without a filter -/
theorem compR_all {e : α → R β} (ep : α → β) {xs : List α} (hl : xs.length ≤ 100000) (h2 : ∀ x ∈ xs, e x = .ok (ep x)) : compR (fun _ => .ok true) e xs = .ok (xs.map ep) := by
  rw [compR_ok (fun _ => true) ep hl (fun _ _ => rfl) fun x m _ => h2 x m, List.filter_eq_self.mpr fun _ _ => rfl]
theorem forL_inv {f : S → α → R (Fl S ρ)} (I : S → Prop) : ∀ {xs : List α} {s : S}, I s → (∀ s x, x ∈ xs → I s → ∃ s', f s x = .ok (.nx s') ∧ I s') → ∃ s', forL f xs s = .ok (.nx s') ∧ I s'
  | [], s, h, _ => ⟨s, rfl, h⟩
  | x :: xs, s, h, hf => by
    obtain ⟨s1, e, h1⟩ := hf s x List.mem_cons_self h
    obtain ⟨s2, e2, h2⟩ := forL_inv I (xs := xs) h1 fun s y m => hf s y (List.mem_cons_of_mem _ m)
    refine ⟨s2, ?_, h2⟩
    unfold forL
    rw [e, bd_ok]
    exact e2
/-- with the number of rounds gone -/
theorem forL_invN {f : S → α → R (Fl S ρ)} (I : Nat → S → Prop) {B : Nat} : ∀ {xs : List α} {n : Nat} {s : S}, n + xs.length ≤ B → I n s → (∀ n s x, n < B → x ∈ xs → I n s → ∃ s', f s x = .ok (.nx s') ∧ I (n + 1) s') → ∃ s', forL f xs s = .ok (.nx s') ∧ I (n + xs.length) s'
  | [], n, s, _, h, _ => ⟨s, rfl, h⟩
  | x :: xs, n, s, hB, h, hf => by
    rw [List.length_cons] at hB
    obtain ⟨s1, e, h1⟩ := hf n s x (by omega) List.mem_cons_self h
    obtain ⟨s2, e2, h2⟩ := forL_invN I (xs := xs) (by omega) h1 fun n s y b m => hf n s y b (List.mem_cons_of_mem _ m)
    refine ⟨s2, ?_, by rw [List.length_cons, show n + (xs.length + 1) = n + 1 + xs.length by omega]; exact h2⟩
    unfold forL
    rw [e, bd_ok]
    exact e2
theorem forL_step {f : S → α → R (Fl S ρ)} {x : α} {xs : List α} {s s' : S} (h : f s x = .ok (.nx s')) : forL f (x :: xs) s = forL f xs s' := by
  show bd (f s x) _ = _
  rw [h]
  rfl
theorem forL_ret {f : S → α → R (Fl S ρ)} {x : α} {xs : List α} {s : S} {r : ρ} (h : f s x = .ok (.rt r)) : forL f (x :: xs) s = .ok (.rt r) := by
  show bd (f s x) _ = _
  rw [h]
  rfl
theorem forL_nx {f : Unit → α → R (Fl Unit ρ)} {xs : List α} (h : ∀ x ∈ xs, f () x = .ok (.nx ())) : forL f xs () = .ok (.nx ()) := by
  obtain ⟨_, e, _⟩ := forL_inv (f := f) (xs := xs) (s := ()) (fun _ => True) trivial fun _ x m _ => ⟨(), h x m, trivial⟩
  exact e
theorem whileR_yes {c : S → R Bool} {f : S → R (Fl S ρ)} {n : Nat} {s s' : S} (hc : c s = .ok true) (hf : f s = .ok (.nx s')) : whileR c f (n + 1) s = whileR c f n s' := by
  show bd (c s) _ = _
  rw [hc, bd_ok, if_pos rfl, hf, bd_ok]
theorem whileR_no {c : S → R Bool} {f : S → R (Fl S ρ)} {n : Nat} {s : S} (hc : c s = .ok false) : whileR c f (n + 1) s = .ok (.nx s) := by
  show bd (c s) _ = _
  rw [hc, bd_ok, if_neg Bool.false_ne_true]
/-- data of which == is asked -/
theorem lay_ints {e : α → PyData} (h : ∀ a, (e a).canLay0 = true) : ∀ xs : List α, PyData.canLayAll0 (xs.map e) = true
  | [] => rfl
  | x :: xs => by simp only [List.map_cons, PyData.canLayAll0, h x, lay_ints h xs, Bool.and_self]
theorem eqDR_self {d : PyData} (h : d.canLay0 = true) : eqDR d d = .ok true := by
  unfold eqDR
  rw [if_pos ⟨h, h⟩, PySem.SeqAt.eqv_refl d h]
theorem neDR_nil {d : List PyData} (h : PyData.canLayAll0 d = true) : neDR (.list d) (.list []) = .ok (!d.isEmpty) := by
  unfold neDR
  rw [if_pos ⟨by simpa [PyData.canLay0] using h, rfl⟩]
  cases d <;> rfl
/-- it answers, and Q holds of the answer -/
def OkQ (m : R α) (Q : α → Prop) : Prop := ∃ a, m = .ok a ∧ Q a
theorem okq {a : α} {Q : α → Prop} (h : Q a) : OkQ (.ok a) Q := ⟨a, rfl, h⟩
theorem OkQ.bd {m : R α} {f : α → R β} {P : α → Prop} {Q : β → Prop} (h : OkQ m P) (k : ∀ a, P a → OkQ (f a) Q) : OkQ (TL.bd m f) Q := by
  obtain ⟨a, rfl, p⟩ := h
  exact k a p
theorem OkQ.imp {m : R α} {P Q : α → Prop} (h : OkQ m P) (k : ∀ a, P a → Q a) : OkQ m Q := by
  obtain ⟨a, e, p⟩ := h
  exact ⟨a, e, k a p⟩
theorem okq_forN {f : S → α → R (Fl S ρ)} {g : Fl S ρ → R β} {xs : List α} {s : S} {Q : β → Prop} (I : Nat → S → Prop) (h0 : I 0 s) (hf : ∀ n s x, n < xs.length → x ∈ xs → I n s → OkQ (f s x) fun fl => ∃ s', fl = .nx s' ∧ I (n + 1) s')
    (k : ∀ s', I xs.length s' → OkQ (g (.nx s')) Q) : OkQ (bd (forL f xs s) g) Q := by
  obtain ⟨s', e, h⟩ := forL_invN I (xs := xs) (n := 0) (B := xs.length) (by omega) h0 fun n s x b m i => by
    obtain ⟨fl, e, s', rfl, h⟩ := hf n s x b m i
    exact ⟨s', e, h⟩
  rw [e]
  rw [Nat.zero_add] at h
  exact k s' h
theorem okq_for {f : S → α → R (Fl S ρ)} {g : Fl S ρ → R β} {xs : List α} {s : S} {Q : β → Prop} (I : S → Prop) (h0 : I s) (hf : ∀ s x, x ∈ xs → I s → OkQ (f s x) fun fl => ∃ s', fl = .nx s' ∧ I s')
    (k : ∀ s', I s' → OkQ (g (.nx s')) Q) : OkQ (bd (forL f xs s) g) Q :=
  okq_forN (fun _ => I) h0 (fun _ s x _ => hf s x) k
theorem okq_atR {xs : List α} {i : Int} (n : Nat) (hn : xs.length = n) (h0 : 0 ≤ i) (h1 : i < n) {P : α → Prop} (h : ∀ x ∈ xs, P x) : OkQ (atR xs i) P := atR_has n hn h0 h1 h
/-- with the index of the item -/
theorem forL_invI {f : S → α → R (Fl S ρ)} (I : Nat → S → Prop) : ∀ {xs : List α} {n : Nat} {s : S}, I n s → (∀ i s x, xs[i]? = some x → I (n + i) s → ∃ s', f s x = .ok (.nx s') ∧ I (n + i + 1) s') → ∃ s', forL f xs s = .ok (.nx s') ∧ I (n + xs.length) s'
  | [], n, s, h, _ => ⟨s, rfl, h⟩
  | x :: xs, n, s, h, hf => by
    obtain ⟨s1, e, h1⟩ := hf 0 s x rfl h
    obtain ⟨s2, e2, h2⟩ := forL_invI I (xs := xs) (n := n + 1) h1 fun i s y m k => by
      obtain ⟨s', a, b⟩ := hf (i + 1) s y (by simpa using m) (by rw [show n + (i + 1) = n + 1 + i by omega]; exact k)
      exact ⟨s', a, by rw [show n + 1 + i + 1 = n + (i + 1) + 1 by omega]; exact b⟩
    refine ⟨s2, ?_, by rw [List.length_cons, show n + (xs.length + 1) = n + 1 + xs.length by omega]; exact h2⟩
    unfold forL
    rw [e, bd_ok]
    exact e2
theorem okq_forI {f : S → α → R (Fl S ρ)} {g : Fl S ρ → R β} {xs : List α} {s : S} {Q : β → Prop} (I : Nat → S → Prop) (h0 : I 0 s) (hf : ∀ i s x, xs[i]? = some x → I i s → OkQ (f s x) fun fl => ∃ s', fl = .nx s' ∧ I (i + 1) s')
    (k : ∀ s', I xs.length s' → OkQ (g (.nx s')) Q) : OkQ (bd (forL f xs s) g) Q := by
  obtain ⟨s', e, h⟩ := forL_invI I (xs := xs) (n := 0) h0 fun i s x b m => by
    rw [Nat.zero_add] at m ⊢
    obtain ⟨fl, e, s', rfl, h⟩ := hf i s x b m
    exact ⟨s', e, h⟩
  rw [e]
  rw [Nat.zero_add] at h
  exact k s' h
theorem ok_of {m : R α} {a : α} (h : OkQ m fun b => b = a) : m = .ok a := by
  obtain ⟨b, e, rfl⟩ := h
  exact e
end
end TL
/-! ## TM2: how long repr gets -/
namespace TL
open PySem PySem.Spec PyProof.Rows L2 StrLaws
structure Sh (d : PyData) (n : Nat) : Prop where
  s : d.showable = true
  l : d.shown.length ≤ n
theorem Sh.mono {d : PyData} {n m : Nat} (h : Sh d n) (k : n ≤ m) : Sh d m := ⟨h.s, Nat.le_trans h.l k⟩
theorem Sh.ok {d : PyData} {n : Nat} (h : Sh d n) (k : n ≤ 1000000) : reprDR d = .ok d.shown := by
  unfold reprDR
  rw [if_pos ⟨h.s, Nat.le_trans h.l k⟩]
theorem sh_none : Sh .none 4 := ⟨rfl, by decide⟩
theorem sh_bool (b : Bool) : Sh (.bool b) 5 := ⟨rfl, by cases b <;> decide⟩
theorem sh_int {i : Int} (h : i.natAbs < 10 ^ 40) : Sh (.int i) 41 := by
  constructor
  · show decide (i.natAbs.log2 < 1920) = true
    rw [decide_eq_true_eq]
    by_cases z : i.natAbs = 0
    · rw [z]
      decide
    · exact (Nat.log2_lt z).mpr (Nat.lt_of_lt_of_le h (by decide +kernel))
  · show (Str.ofString (toString i)).length ≤ 41
    have e := int_text_length_le10 (a := i) (k := 40) (by decide) h
    rw [PySem.ofString_length]
    exact e
theorem sh_num {i : Int} (h1 : -1000000000000000000000000 ≤ i) (h2 : i ≤ 1000000000000000000000000) : Sh (.int i) 41 :=
  sh_int (Nat.lt_of_le_of_lt (show i.natAbs ≤ 1000000000000000000000000 by omega) (by decide +kernel))
theorem sh_all {n : Nat} : ∀ {ds : List PyData}, (∀ d ∈ ds, Sh d n) → PyData.showableAll ds = true ∧ ((PyData.shownAll ds).map (·.length)).sum ≤ n * ds.length ∧ (PyData.shownAll ds).length = ds.length
  | [], _ => ⟨rfl, Nat.le_refl _, rfl⟩
  | d :: ds, h => by
    obtain ⟨h1, h2, h3⟩ := sh_all (ds := ds) fun e m => h e (List.mem_cons_of_mem _ m)
    have hd := h d List.mem_cons_self
    refine ⟨?_, ?_, ?_⟩
    · simp only [PyData.showableAll, hd.s, h1, Bool.and_self]
    · simp only [PyData.shownAll, List.map_cons, List.sum_cons, List.length_cons, Nat.mul_succ]
      have := hd.l
      omega
    · simp only [PyData.shownAll, List.length_cons, h3]
theorem sh_list {ds : List PyData} {n k : Nat} (h : ∀ d ∈ ds, Sh d n) (hk : ds.length ≤ k) : Sh (.list ds) ((n + 2) * k + 3) := by
  obtain ⟨h1, h2, h3⟩ := sh_all h
  refine ⟨by simpa only [PyData.showable] using h1, ?_⟩
  simp only [PyData.shown]
  have e := listText_len_le (PyData.shownAll ds)
  have a := Nat.mul_le_mul_left n hk
  rw [Nat.add_mul]
  omega
theorem sh_tuple {ds : List PyData} {n k : Nat} (h : ∀ d ∈ ds, Sh d n) (hk : ds.length ≤ k) : Sh (.tuple ds) ((n + 2) * k + 3) := by
  obtain ⟨h1, h2, h3⟩ := sh_all h
  refine ⟨by simpa only [PyData.showable] using h1, ?_⟩
  simp only [PyData.shown]
  have e := tupleText_len_le (PyData.shownAll ds)
  have a := Nat.mul_le_mul_left n hk
  rw [Nat.add_mul]
  omega
theorem sh_map {α : Type} {f : α → PyData} {xs : List α} {n : Nat} (h : ∀ x ∈ xs, Sh (f x) n) : ∀ d ∈ xs.map f, Sh d n := fun d m => by
  obtain ⟨x, hx, rfl⟩ := List.mem_map.mp m
  exact h x hx
end TL
namespace Br
open PySem PySem.Spec PyProof.Rows L2 TL
def topS (i : Nat) : Stmt := PySem.Challenge.pw_brakeline_k04_lines.main.body.getD i (.Pass ⟨0, 0, 0, 0⟩)

abbrev s0 : Stmt := topS 8
def d0 : He.DefD := ⟨("is_name", none), "is_name", "is_name", defArgs s0, defBody s0, defScope s0, [], []⟩
abbrev s1 : Stmt := topS 9
def d1 : He.DefD := ⟨("is_among", none), "is_among", "is_among", defArgs s1, defBody s1, defScope s1, [], []⟩
abbrev s2 : Stmt := topS 16
def d2 : He.DefD := ⟨("is_limit", none), "is_limit", "is_limit", defArgs s2, defBody s2, defScope s2, [], []⟩
abbrev s3 : Stmt := topS 17
def d3 : He.DefD := ⟨("is_station", none), "is_station", "is_station", defArgs s3, defBody s3, defScope s3, [], []⟩
abbrev s4 : Stmt := topS 18
def d4 : He.DefD := ⟨("are_in_order", none), "are_in_order", "are_in_order", defArgs s4, defBody s4, defScope s4, [], []⟩
abbrev s5 : Stmt := topS 19
def d5 : He.DefD := ⟨("is_list", none), "is_list", "is_list", defArgs s5, defBody s5, defScope s5, [], []⟩
abbrev s6 : Stmt := inClass (topS 20) 0
def d6 : He.DefD := ⟨("Line", some "__init__"), "__init__", "Line.__init__", defArgs s6, defBody s6, defScope s6, [], []⟩
abbrev s7 : Stmt := inClass (topS 20) 1
def d7 : He.DefD := ⟨("Line", some "limit"), "limit", "Line.limit", defArgs s7, defBody s7, defScope s7, [], []⟩
abbrev s8 : Stmt := inClass (topS 20) 2
def d8 : He.DefD := ⟨("Line", some "station_at"), "station_at", "Line.station_at", defArgs s8, defBody s8, defScope s8, [], []⟩
abbrev s9 : Stmt := inClass (topS 20) 3
def d9 : He.DefD := ⟨("Line", some "tracks_of"), "tracks_of", "Line.tracks_of", defArgs s9, defBody s9, defScope s9, [], []⟩
abbrev s10 : Stmt := inClass (topS 20) 4
def d10 : He.DefD := ⟨("Line", some "text"), "text", "Line.text", defArgs s10, defBody s10, defScope s10, [], []⟩
abbrev s11 : Stmt := topS 22
def d11 : He.DefD := ⟨("_law_mixed", none), "_law_mixed", "_law_mixed", defArgs s11, defBody s11, defScope s11, [], []⟩
abbrev s12 : Stmt := topS 23
def d12 : He.DefD := ⟨("_law_number", none), "_law_number", "_law_number", defArgs s12, defBody s12, defScope s12, [], []⟩
abbrev s13 : Stmt := topS 24
def d13 : He.DefD := ⟨("_law_names", none), "_law_names", "_law_names", defArgs s13, defBody s13, defScope s13, [], []⟩
abbrev s14 : Stmt := topS 25
def d14 : He.DefD := ⟨("_law_line", none), "_law_line", "_law_line", defArgs s14, defBody s14, defScope s14, [], []⟩
abbrev s15 : Stmt := topS 26
def d15 : He.DefD := ⟨("_law_text", none), "_law_text", "_law_text", defArgs s15, defBody s15, defScope s15, [], []⟩
abbrev s16 : Stmt := topS 27
def d16 : He.DefD := ⟨("_law_places", none), "_law_places", "_law_places", defArgs s16, defBody s16, defScope s16, [], []⟩
abbrev s17 : Stmt := topS 28
def d17 : He.DefD := ⟨("_law_least", none), "_law_least", "_law_least", defArgs s17, defBody s17, defScope s17, [], []⟩
abbrev s18 : Stmt := topS 29
def d18 : He.DefD := ⟨("_law_at", none), "_law_at", "_law_at", defArgs s18, defBody s18, defScope s18, [], []⟩
abbrev s19 : Stmt := topS 30
def d19 : He.DefD := ⟨("_law_right", none), "_law_right", "_law_right", defArgs s19, defBody s19, defScope s19, [], []⟩
abbrev s20 : Stmt := topS 31
def d20 : He.DefD := ⟨("law", none), "law", "law", defArgs s20, defBody s20, defScope s20, [], []⟩
def fn : List He.DefD := [d0, d1, d2, d3, d4, d5, d6, d7, d8, d9, d10, d11, d12, d13, d14, d15, d16, d17, d18, d19, d20]
def fa : List He.Fa := [.free "len", .glo "_law_mixed", .glo "_law_number", .free "range", .glo "_law_names", .free "int", .free "min", .glo "_law_line", .free "list", .free "isinstance", .free "bool", .glo "is_among", .int "MOST_NUMBER" 1000000000000, .exc "BadLine", .glo "BadLine", .int "MOST_LIMITS" 20, .glo "is_list", .free "tuple", .int "MOST_SPEED" 1000, .glo "is_limit", .free "all", .int "MOST_STATIONS" 10, .free "str", .int "MOST_LETTERS" 8, .str "LETTERS" "abcdefghijklmnopqrstuvwxyz", .glo "is_name", .int "LEAST_TRACKS" 2, .int "MOST_TRACKS" 5, .glo "is_station", .free "set", .free "zip", .glo "are_in_order", .cls "Line", .noat "Line" "end", .noat "Line" "limits", .noat "Line" "stations", .mkr "Line", .glo "Line", .free "repr", .meth "Line" "text", .glo "_law_text", .exc "NoStation", .glo "NoStation", .meth "Line" "tracks_of", .free "max", .glo "_law_places", .free "enumerate", .meth "Line" "station_at", .glo "_law_at", .meth "Line" "limit", .glo "_law_least", .glo "_law_right", .glo "law"]
abbrev M_Kind := Int × Int × Int × Int
abbrev t_Kind (K : PySem.W.Frag) : Ty M_Kind := tObj K "Kind" ["length", "pull", "brake", "top"] (aCons tInt (aCons tInt (aCons tInt (aOne tInt))))
abbrev M_Line := Int × (List (Int × Int × Int)) × (List (Str × Int × Int × Int))
abbrev t_Line (K : PySem.W.Frag) : Ty M_Line := tObj K "Line" ["end", "limits", "stations"] (aCons tInt (aCons (yTupL K (yTup K (aCons tInt (aCons tInt (aOne tInt))))) (aOne (yTupL K (yTup K (aCons tStr (aCons tInt (aCons tInt (aOne tInt)))))))))
/-! ### mirrors -/
def m__law_mixed (cell : Int) (k_ : Int) : R Int :=
bd (bd (bd (bd (bd (bd (mulR (7919 * k_) k_) fun x1 => .ok ((cell % 1000000007) + x1)) fun x2 => .ok (x2 + (31 * k_))) fun x3 => .ok (x3 + 17)) fun x4 => .ok (x4 * 48271)) fun x5 => .ok (x5 % 2147483647)) fun number_here9 =>
bd (bd (mulR number_here9 ((number_here9 % 65521) + 16807)) fun x10 => .ok (x10 % 2147483629)) fun x11 => .ok (x11 / 4)
def m__law_number (script : (List Int)) (k_ : Int) : R Int :=
bd (.ok 0) fun cell4 =>
bd (.ok (decide ((script.length : Int) > 0))) fun c => if c = true then (
bd (bd (modR k_ (script.length : Int)) fun x6 => atR script x6) fun cell10 =>
m__law_mixed cell10 k_)
else (
m__law_mixed cell4 k_)
def m__law_names (number_here : Int) (many_names : Int) : R (List Str) :=
bd (.ok ("abcdefghijklmnopqrstuvwxyz" : Str)) fun letters4 =>
bd (bd (bd (rangeR 0 9) fun x111 => compR (fun (x5 : Int) => .ok true) (fun (x5 : Int) => bd (bd (bd (mulR x5 x5) fun x108 => .ok ((number_here + (5 * x5)) + x108)) fun x109 => .ok (x109 % 26)) fun x110 => signR letters4 x110) x111) fun x112 => joinSR ("" : Str) x112) fun base116 =>
bd (.ok (decide ((number_here / 30) % 3 = 1) && decide (many_names < 9))) fun c => if c = true then (
bd (rangeR 0 many_names) fun x221 => compR (fun (x118 : Int) => .ok true) (fun (x118 : Int) => cutSR base116 none (some (1 + x118))) x221)
else (
bd (.ok ((number_here / 90) % 8)) fun size225 =>
bd (modR (number_here / 720) (size225 + 1)) fun at_here229 =>
bd (bd (rangeR 0 many_names) fun x333 => compR (fun (x230 : Int) => .ok true) (fun (x230 : Int) => signR letters4 (((number_here / 7000) + (3 * x230)) % 26)) x333) fun signs337 =>
compR (fun (sign338 : Str) => .ok true) (fun (sign338 : Str) => bd (bd (cutSR base116 none (some at_here229)) fun x441 => catSR x441 sign338) fun x442 => bd (cutSR base116 (some at_here229) (some size225)) fun x443 => catSR x442 x443) signs337)
def m__law_line (script : (List Int)) (at_here : Int) : R (Int × (List (Int × Int × Int)) × (List (Str × Int × Int × Int))) :=
bd (m__law_number script at_here) fun number_here4 =>
bd (atR [1, 1, 7, 1000 + ((number_here4 / 40) % 900), 1000000000 + ((number_here4 / 40) % 1000)] (number_here4 % 5)) fun scale8 =>
bd (.ok []) fun stations12 =>
bd (.ok 1) fun placeq17 =>
bd (bd (m__law_number script (at_here + 1)) fun x18 => m__law_names x18 10) fun names_here22 =>
bd (bd (atR [0, 1, 2, 3, 10, (number_here4 / 5) % 5] ((number_here4 / 25) % 6)) fun x23 => rangeR 0 x23) fun xs =>
bd (forL (fun (s25 : Int × (List (Str × Int × Int × Int))) (kq28 : Int) => (bd (m__law_number script ((at_here + 2) + kq28)) fun cell32 =>
bd (bd (mulR (cell32 % 4) scale8) fun x33 => .ok (s25.1 + x33)) fun first37 =>
bd (bd (mulR ((cell32 / 4) % 5) scale8) fun x38 => .ok (first37 + x38)) fun last42 =>
bd (bd (atR names_here22 kq28) fun x43 => .ok (x43, first37, last42, 2 + ((cell32 / 20) % 4))) fun y48 =>
bd (addR s25.2 y48) fun stations49 =>
bd (bd (mulR ((cell32 / 80) % 2) scale8) fun x50 => .ok ((last42 + 2) + x50)) fun placeq54 =>
.ok (.nx (placeq54, stations49)) : R (Fl (Int × (List (Str × Int × Int × Int))) (Int × (List (Int × Int × Int)) × (List (Str × Int × Int × Int)))))) xs (placeq17, stations12)) (fun (fl : Fl (Int × (List (Str × Int × Int × Int))) (Int × (List (Int × Int × Int)) × (List (Str × Int × Int × Int)))) => match fl with
| .nx s55 => (bd (bd (bd (mulR ((number_here4 / 150) % 30) scale8) fun x57 => .ok (s55.1 + x57)) fun x58 => .ok (x58 + (bI (decide (s55.1 = 1))))) fun endq62 =>
bd (.ok []) fun limits66 =>
bd (bd (atR [0, 1, 3, 20, (number_here4 / 5000) % 7] ((number_here4 / 1000) % 5)) fun x69 => rangeR 0 x69) fun xs =>
bd (forL (fun (limits71 : (List (Int × Int × Int))) (kq74 : Int) => (bd (m__law_number script ((at_here + 20) + kq74)) fun cell78 =>
bd (modR (cell78 / 4) (endq62 + 1)) fun first82 =>
bd (bd (bd (bd (mulR (cell78 % 4) ((cell78 / 4000) % 9)) fun x83 => mulR x83 scale8) fun x84 => .ok (first82 + x84)) fun x85 => .ok (min endq62 x85)) fun last89 =>
bd (bd (atR [1 + ((cell78 / 7) % 1000), 1 + ((cell78 / 7) % 9)] ((cell78 / 90) % 2)) fun x90 => .ok (first82, last89, x90)) fun y95 =>
bd (addR limits71 y95) fun limits96 =>
.ok (.nx limits96) : R (Fl (List (Int × Int × Int)) (Int × (List (Int × Int × Int)) × (List (Str × Int × Int × Int)))))) xs limits66) (fun (fl : Fl (List (Int × Int × Int)) (Int × (List (Int × Int × Int)) × (List (Str × Int × Int × Int)))) => match fl with
| .nx limits97 => (.ok (endq62, limits97, s55.2))
| .bk _ => .stuck
| .rt r => .ok r))
| .bk _ => .stuck
| .rt r => .ok r)
def m_is_among (thing : Int) (least : Int) (most : Int) : R Bool :=
.ok (true && (!false && (decide (least ≤ thing) && decide (thing ≤ most))))
def m_is_list_v0 (thing : (List (Int × Int × Int))) (most : Int) : R Bool :=
.ok (true && decide ((thing.length : Int) ≤ most))
def m_is_limit (thing : (Int × Int × Int)) (end_ : Int) : R Bool :=
bd ((if (!true) = true then .ok true else (if (!decide (3 = 3)) = true then .ok true else bd (m_is_among thing.1 0 end_) fun x1 => .ok (!x1)))) fun c => if c = true then (
.ok false)
else (
bd (m_is_among thing.2.1 thing.1 end_) fun x3 => (if x3 = true then m_is_among thing.2.2 1 1000 else .ok false))
def m_is_list_v1 (thing : (List (Str × Int × Int × Int))) (most : Int) : R Bool :=
.ok (true && decide ((thing.length : Int) ≤ most))
def m_is_name (thing : Str) : R Bool :=
bd ((if (!true) = true then .ok true else bd (bd (lenSR thing) fun x1 => (if decide (1 ≤ x1) = true then .ok (decide (x1 ≤ 8)) else .ok false)) fun x2 => .ok (!x2))) fun c => if c = true then (
.ok false)
else (
bd (compR (fun (sign4 : Str) => .ok true) (fun (sign4 : Str) => inSR sign4 ("abcdefghijklmnopqrstuvwxyz" : Str)) (signsOf thing)) fun x107 => .ok (x107.all id))
def m_is_station (thing : (Str × Int × Int × Int)) (end_ : Int) : R Bool :=
bd ((if (!true) = true then .ok true else (if (!decide (4 = 4)) = true then .ok true else bd (bd (m_is_name thing.1) fun x1 => .ok (!x1)) fun x3 => (if x3 = true then .ok true else bd (m_is_among thing.2.1 1 (end_ - 1)) fun x2 => .ok (!x2))))) fun c => if c = true then (
.ok false)
else (
bd (m_is_among thing.2.2.1 thing.2.1 (end_ - 1)) fun x5 => (if x5 = true then m_is_among thing.2.2.2 2 5 else .ok false))
def m_are_in_order (stations : (List (Str × Int × Int × Int))) : R Bool :=
bd (bd (bd (compR (fun (station1 : (Str × Int × Int × Int)) => .ok true) (fun (station1 : (Str × Int × Int × Int)) => .ok station1.1) stations) fun x104 => lenSetR x104) fun x105 => .ok (decide (x105 < (stations.length : Int)))) fun c => if c = true then (
.ok false)
else (
bd (compR (fun (x107 : ((Str × Int × Int × Int) × (Str × Int × Int × Int))) => .ok true) (fun (x107 : ((Str × Int × Int × Int) × (Str × Int × Int × Int))) => .ok (decide (x107.1.2.2.1 + 2 ≤ x107.2.2.1))) (stations.zip (cutG stations (some 1) none))) fun x212 => .ok (x212.all id))
def m_Line___init__ (end_ : Int) (limits : (List (Int × Int × Int))) (stations : (List (Str × Int × Int × Int))) : R (Int × (List (Int × Int × Int)) × (List (Str × Int × Int × Int))) :=
bd (bd (m_is_among end_ 1 1000000000000) fun x1 => .ok (!x1)) fun c => if c = true then (
.err (.own "BadLine"))
else (
bd (bd (bd (m_is_list_v0 limits 20) fun x3 => .ok (!x3)) fun x109 => (if x109 = true then .ok true else bd (bd (compR (fun (one4 : (Int × Int × Int)) => .ok true) (fun (one4 : (Int × Int × Int)) => m_is_limit one4 end_) limits) fun x107 => .ok (x107.all id)) fun x108 => .ok (!x108))) fun c => if c = true then (
.err (.own "BadLine"))
else (
bd (bd (bd (m_is_list_v1 stations 10) fun x111 => .ok (!x111)) fun x217 => (if x217 = true then .ok true else bd (bd (compR (fun (one112 : (Str × Int × Int × Int)) => .ok true) (fun (one112 : (Str × Int × Int × Int)) => m_is_station one112 end_) stations) fun x215 => .ok (x215.all id)) fun x216 => .ok (!x216))) fun c => if c = true then (
.err (.own "BadLine"))
else (
bd (bd (m_are_in_order stations) fun x219 => .ok (!x219)) fun c => if c = true then (
.err (.own "BadLine"))
else (
bd (.ok end_) fun x224 =>
bd (.ok limits) fun x230 =>
bd (.ok stations) fun x236 =>
.ok (x224, x230, x236)))))
def m_Line_text (self : M_Line) : R Str :=
bd (bd (bd (strIR self.1) fun x1 => catSR ("end " : Str) x1) fun x2 => .ok [x2]) fun rows6 =>
bd (compR (fun (one8 : (Int × Int × Int)) => .ok true) (fun (one8 : (Int × Int × Int)) => bd (bd (compR (fun (number111 : Int) => .ok true) (fun (number111 : Int) => strIR number111) [one8.1, one8.2.1, one8.2.2]) fun x214 => catR [("limit" : Str)] x214) fun x215 => joinSR (" " : Str) x215) self.2.1) fun y220 =>
bd (catR rows6 y220) fun rows221 =>
bd (compR (fun (one222 : (Str × Int × Int × Int)) => .ok true) (fun (one222 : (Str × Int × Int × Int)) => bd (bd (compR (fun (number325 : Int) => .ok true) (fun (number325 : Int) => strIR number325) [one222.2.1, one222.2.2.1, one222.2.2.2]) fun x428 => catR [("station" : Str), one222.1] x428) fun x429 => joinSR (" " : Str) x429) self.2.2) fun y434 =>
bd (catR rows221 y434) fun rows435 =>
joinSR ("\n" : Str) rows435
def m__law_text (told : (Int × (List (Int × Int × Int)) × (List (Str × Int × Int × Int)))) : R Str :=
bd (.ok told) fun t11 =>
bd (bd (bd (strIR t11.1) fun x13 => catSR ("end " : Str) x13) fun x14 => .ok [x14]) fun rows18 =>
bd (.ok t11.2.1) fun xs =>
bd (forL (fun (rows21 : (List Str)) (x28 : (Int × Int × Int)) => (bd (bd (bd (bd (bd (bd (strIR x28.1) fun x29 => catSR ("limit " : Str) x29) fun x30 => catSR x30 (" " : Str)) fun x31 => bd (strIR x28.2.1) fun x32 => catSR x31 x32) fun x33 => catSR x33 (" " : Str)) fun x34 => bd (strIR x28.2.2) fun x35 => catSR x34 x35) fun y40 =>
bd (addR rows21 y40) fun rows41 =>
.ok (.nx rows41) : R (Fl (List Str) Str))) xs rows18) (fun (fl : Fl (List Str) Str) => match fl with
| .nx rows42 => (bd (.ok t11.2.2) fun xs =>
bd (forL (fun (rows45 : (List Str)) (x54 : (Str × Int × Int × Int)) => (bd (bd (bd (bd (bd (bd (bd (catSR ("station " : Str) x54.1) fun x55 => catSR x55 (" " : Str)) fun x56 => bd (strIR x54.2.1) fun x57 => catSR x56 x57) fun x58 => catSR x58 (" " : Str)) fun x59 => bd (strIR x54.2.2.1) fun x60 => catSR x59 x60) fun x61 => catSR x61 (" " : Str)) fun x62 => bd (strIR x54.2.2.2) fun x63 => catSR x62 x63) fun y68 =>
bd (addR rows45 y68) fun rows69 =>
.ok (.nx rows69) : R (Fl (List Str) Str))) xs rows42) (fun (fl : Fl (List Str) Str) => match fl with
| .nx rows70 => (joinSR ("\n" : Str) rows70)
| .bk _ => .stuck
| .rt r => .ok r))
| .bk _ => .stuck
| .rt r => .ok r)
def m_Line_tracks_of (self : M_Line) (name : Str) : R Int :=
bd (.ok self.2.2) fun xs =>
bd (forL (fun (s2 : Unit) (station5 : (Str × Int × Int × Int)) => (bd (.ok (decide (station5.1 = name))) fun c => if c = true then (
.ok (.rt station5.2.2.2))
else (
.ok (.nx ())) : R (Fl Unit Int))) xs ()) (fun (fl : Fl Unit Int) => match fl with
| .nx s7 => (.err (.own "NoStation"))
| .bk _ => .stuck
| .rt r => .ok r)
def m__law_places (told : (Int × (List (Int × Int × Int)) × (List (Str × Int × Int × Int)))) (number_here : Int) : R (List Int) :=
bd (.ok told) fun t11 =>
bd (bd (modR number_here (t11.1 + 1)) fun x13 => bd (modR (number_here / 7) (t11.1 + 1)) fun x14 => .ok [0, t11.1, x13, x14]) fun found18 =>
bd (.ok (cutG t11.2.1 none (some 5))) fun xs =>
bd (forL (fun (found20 : (List Int)) (one23 : (Int × Int × Int)) => (bd (catR found20 [max 0 (one23.1 - 1), one23.1, one23.2.1, min t11.1 (one23.2.1 + 1)]) fun found27 =>
.ok (.nx found27) : R (Fl (List Int) (List Int)))) xs found18) (fun (fl : Fl (List Int) (List Int)) => match fl with
| .nx found28 => (bd (.ok (cutG t11.2.2 none (some 5))) fun xs =>
bd (forL (fun (found31 : (List Int)) (one34 : (Str × Int × Int × Int)) => (bd (catR found31 [one34.2.1 - 1, one34.2.1, one34.2.2.1, one34.2.2.1 + 1]) fun found38 =>
.ok (.nx found38) : R (Fl (List Int) (List Int)))) xs found28) (fun (fl : Fl (List Int) (List Int)) => match fl with
| .nx found39 => (.ok found39)
| .bk _ => .stuck
| .rt r => .ok r))
| .bk _ => .stuck
| .rt r => .ok r)
def m_Line_station_at (self : M_Line) (place_ : Int) : R (Option Str) :=
bd (.ok self.2.2) fun xs =>
bd (forL (fun (s2 : Unit) (x11 : (Str × Int × Int × Int)) => (bd (.ok (decide (x11.2.1 ≤ place_) && decide (place_ ≤ x11.2.2.1))) fun c => if c = true then (
.ok (.rt (some x11.1)))
else (
.ok (.nx ())) : R (Fl Unit (Option Str)))) xs ()) (fun (fl : Fl Unit (Option Str)) => match fl with
| .nx s13 => (.ok none)
| .bk _ => .stuck
| .rt r => .ok r)
def m__law_at (stations : (List (Str × Int × Int × Int))) (place_ : Int) : R (Option Str) :=
bd (.ok stations) fun xs =>
bd (forL (fun (s2 : Unit) (x11 : (Str × Int × Int × Int)) => (bd (.ok (decide (x11.2.1 ≤ place_) && decide (place_ ≤ x11.2.2.1))) fun c => if c = true then (
.ok (.rt (some x11.1)))
else (
.ok (.nx ())) : R (Fl Unit (Option Str)))) xs ()) (fun (fl : Fl Unit (Option Str)) => match fl with
| .nx s13 => (.ok none)
| .bk _ => .stuck
| .rt r => .ok r)
def m_Line_limit (self : M_Line) (first : Int) (last : Int) : R (Option Int) :=
bd (compR (fun (x1 : (Int × Int × Int)) => .ok (decide (x1.1 ≤ last) && decide (x1.2.1 ≥ first))) (fun (x1 : (Int × Int × Int)) => .ok x1.2.2) self.2.1) fun x108 => .ok (leastO x108)
def m__law_least (limits : (List (Int × Int × Int))) (first : Int) (last : Int) : R (Option Int) :=
bd (.ok none) fun found4 =>
bd (.ok limits) fun xs =>
bd (forL (fun (found6 : (Option Int)) (x13 : (Int × Int × Int)) => (bd ((if (!(decide (x13.2.1 < first) || decide (x13.1 > last))) = true then (if (Option.isNone found6) = true then .ok true else bd (fromSome found6) fun x14 => .ok (decide (x13.2.2 < x14))) else .ok false)) fun c => if c = true then (
bd (.ok (some x13.2.2)) fun found19 =>
.ok (.nx found19))
else (
.ok (.nx found6)) : R (Fl (Option Int) (Option Int)))) xs found4) (fun (fl : Fl (Option Int) (Option Int)) => match fl with
| .nx found20 => (.ok found20)
| .bk _ => .stuck
| .rt r => .ok r)
def m__law_right (line_here : M_Line) (told : (Int × (List (Int × Int × Int)) × (List (Str × Int × Int × Int)))) (number_here : Int) : R Bool :=
bd (.ok told) fun t11 =>
bd (bd (bd (undynL [Dyn.dat (PyData.int line_here.1), Dyn.dat ((fun (xs : (List (Int × Int × Int))) => PyData.tuple (xs.map (fun (a : (Int × Int × Int)) => PyData.tuple (PyData.int a.1 :: (PyData.int a.2.1 :: [PyData.int a.2.2]))))) line_here.2.1), Dyn.dat ((fun (xs : (List (Str × Int × Int × Int))) => PyData.tuple (xs.map (fun (a : (Str × Int × Int × Int)) => PyData.tuple (PyData.str a.1 :: (PyData.int a.2.1 :: (PyData.int a.2.2.1 :: [PyData.int a.2.2.2])))))) line_here.2.2)]) fun x13 => reprYR x13) fun x15 => bd (bd (undynL [Dyn.dat (PyData.int t11.1), Dyn.dat ((fun (xs : (List (Int × Int × Int))) => PyData.tuple (xs.map (fun (a : (Int × Int × Int)) => PyData.tuple (PyData.int a.1 :: (PyData.int a.2.1 :: [PyData.int a.2.2]))))) t11.2.1), Dyn.dat ((fun (xs : (List (Str × Int × Int × Int))) => PyData.tuple (xs.map (fun (a : (Str × Int × Int × Int)) => PyData.tuple (PyData.str a.1 :: (PyData.int a.2.1 :: (PyData.int a.2.2.1 :: [PyData.int a.2.2.2])))))) t11.2.2)]) fun x14 => reprYR x14) fun x16 => .ok (!decide (x15 = x16))) fun c => if c = true then (
.ok false)
else (
bd (bd (bd (m_Line_text line_here) fun x18 => reprDR (PyData.str x18)) fun x20 => bd (bd (m__law_text told) fun x19 => reprDR (PyData.str x19)) fun x21 => .ok (!decide (x20 = x21))) fun c => if c = true then (
.ok false)
else (
bd (bd (compR (fun (one23 : (Str × Int × Int × Int)) => bd (bd (m_Line_tracks_of line_here one23.1) fun x126 => reprDR (PyData.int x126)) fun x127 => bd (reprDR (PyData.int one23.2.2.2)) fun x128 => .ok (!decide (x127 = x128))) (fun (one23 : (Str × Int × Int × Int)) => .ok one23) t11.2.2) fun x129 => neDR ((fun (xs : (List (Str × Int × Int × Int))) => PyData.list (xs.map (fun (a : (Str × Int × Int × Int)) => PyData.tuple (PyData.str a.1 :: (PyData.int a.2.1 :: (PyData.int a.2.2.1 :: [PyData.int a.2.2.2])))))) x129) ((fun (xs : (List (Str × Int × Int × Int))) => PyData.list (xs.map (fun (a : (Str × Int × Int × Int)) => PyData.tuple (PyData.str a.1 :: (PyData.int a.2.1 :: (PyData.int a.2.2.1 :: [PyData.int a.2.2.2])))))) [])) fun c => if c = true then (
.ok false)
else (
bd (m__law_places told number_here) fun places_here134 =>
bd (.ok (enumG places_here134)) fun xs =>
bd (forL (fun (s136 : Unit) (x141 : (Int × Int)) => (bd (bd (bd (m_Line_station_at line_here x141.2) fun x142 => reprDR ((eOpt PyData.str) x142)) fun x144 => bd (bd (m__law_at t11.2.2 x141.2) fun x143 => reprDR ((eOpt PyData.str) x143)) fun x145 => .ok (!decide (x144 = x145))) fun c => if c = true then (
.ok (.rt false))
else (
bd (bd (modR ((x141.1 * 7) + number_here) (places_here134.length : Int)) fun x147 => atR places_here134 x147) fun other151 =>
bd (.ok (min x141.2 other151)) fun first157 =>
bd (.ok (max x141.2 other151)) fun last158 =>
bd (bd (bd (m_Line_limit line_here first157 last158) fun x159 => reprDR ((eOpt PyData.int) x159)) fun x161 => bd (bd (m__law_least t11.2.1 first157 last158) fun x160 => reprDR ((eOpt PyData.int) x160)) fun x162 => .ok (!decide (x161 = x162))) fun c => if c = true then (
.ok (.rt false))
else (
bd (bd (bd (m_Line_limit line_here x141.2 x141.2) fun x164 => reprDR ((eOpt PyData.int) x164)) fun x166 => bd (bd (m__law_least t11.2.1 x141.2 x141.2) fun x165 => reprDR ((eOpt PyData.int) x165)) fun x167 => .ok (!decide (x166 = x167))) fun c => if c = true then (
.ok (.rt false))
else (
.ok (.nx ())))) : R (Fl Unit Bool))) xs ()) (fun (fl : Fl Unit Bool) => match fl with
| .nx s169 => (.ok true)
| .bk _ => .stuck
| .rt r => .ok r))))
def m_law (script : (List Int)) : R Bool :=
bd (bd (m__law_line script 0) fun x1 => bd (m__law_line script 60) fun x2 => .ok [x1, x2]) fun told6 =>
bd (.ok []) fun lines10 =>
bd (.ok told6) fun xs =>
bd (forL (fun (lines13 : (List M_Line)) (x20 : (Int × (List (Int × Int × Int)) × (List (Str × Int × Int × Int)))) => (bd (.ok x20.2.1) fun a31 =>
bd (.ok x20.2.2) fun b32 =>
bd (m_Line___init__ x20.1 ((a31, b32).1) ((a31, b32).2)) fun y40 =>
bd (addR lines13 y40) fun lines41 =>
bd (.ok (0, 0, 1)) fun y46 =>
bd (addR a31 y46) fun a47 =>
.ok (.nx lines41) : R (Fl (List M_Line) Bool))) xs lines10) (fun (fl : Fl (List M_Line) Bool) => match fl with
| .nx lines53 => (bd (rangeR 0 4) fun xs =>
bd (forL (fun (s61 : Unit) (again64 : Int) => (bd (bd (bd (atR lines53 (again64 % 2)) fun x65 => bd (atR told6 (again64 % 2)) fun x66 => bd (m__law_number script (120 + again64)) fun x67 => m__law_right x65 x66 x67) fun x68 => .ok (!x68)) fun c => if c = true then (
.ok (.rt false))
else (
.ok (.nx ())) : R (Fl Unit Bool))) xs ()) (fun (fl : Fl Unit Bool) => match fl with
| .nx s70 => (.ok true)
| .bk _ => .stuck
| .rt r => .ok r))
| .bk _ => .stuck
| .rt r => .ok r)
/-! ### facts of the module -/
def fx (K : PySem.W.Frag) : Bool := [].all id
structure GF (K : PySem.W.Frag) (mg : Str → Option Value) : Prop where
  f_len : mg "len" = none
  fn__law_mixed : ∃ fd, FunD K "_law_mixed" "_law_mixed" (defArgs s11) (defBody s11) (defScope s11) (He.DefD.dvs K d11) [] (He.fAd K ("_law_mixed", none)) fd
  g__law_mixed : mg "_law_mixed" = some (.ref (He.ga K "_law_mixed"))
  fn__law_number : ∃ fd, FunD K "_law_number" "_law_number" (defArgs s12) (defBody s12) (defScope s12) (He.DefD.dvs K d12) [] (He.fAd K ("_law_number", none)) fd
  g__law_number : mg "_law_number" = some (.ref (He.ga K "_law_number"))
  f_range : mg "range" = none
  fn__law_names : ∃ fd, FunD K "_law_names" "_law_names" (defArgs s13) (defBody s13) (defScope s13) (He.DefD.dvs K d13) [] (He.fAd K ("_law_names", none)) fd
  g__law_names : mg "_law_names" = some (.ref (He.ga K "_law_names"))
  f_int : mg "int" = none
  f_min : mg "min" = none
  fn__law_line : ∃ fd, FunD K "_law_line" "_law_line" (defArgs s14) (defBody s14) (defScope s14) (He.DefD.dvs K d14) [] (He.fAd K ("_law_line", none)) fd
  g__law_line : mg "_law_line" = some (.ref (He.ga K "_law_line"))
  f_list : mg "list" = none
  f_isinstance : mg "isinstance" = none
  f_bool : mg "bool" = none
  fn_is_among : ∃ fd, FunD K "is_among" "is_among" (defArgs s1) (defBody s1) (defScope s1) (He.DefD.dvs K d1) [] (He.fAd K ("is_among", none)) fd
  g_is_among : mg "is_among" = some (.ref (He.ga K "is_among"))
  i_MOST_NUMBER : ∃ t, mg "MOST_NUMBER" = some (.int 1000000000000 t)
  e_BadLine : PySem.W.excIn K (He.ga K "BadLine") He.veBase "ValueError.__new__" = true ∧ PySem.W.keepIn K (.ref (He.ga K "BadLine")) = true ∧ PySem.W.subIn K (.ref (He.ga K "BadLine")) (.type "BaseException") = some true ∧ PySem.W.typeIn K (.ref (He.ga K "BadLine")) = some (.type "type")
  g_BadLine : mg "BadLine" = some (.ref (He.ga K "BadLine"))
  i_MOST_LIMITS : ∃ t, mg "MOST_LIMITS" = some (.int 20 t)
  fn_is_list : ∃ fd, FunD K "is_list" "is_list" (defArgs s5) (defBody s5) (defScope s5) (He.DefD.dvs K d5) [] (He.fAd K ("is_list", none)) fd
  g_is_list : mg "is_list" = some (.ref (He.ga K "is_list"))
  f_tuple : mg "tuple" = none
  i_MOST_SPEED : ∃ t, mg "MOST_SPEED" = some (.int 1000 t)
  fn_is_limit : ∃ fd, FunD K "is_limit" "is_limit" (defArgs s2) (defBody s2) (defScope s2) (He.DefD.dvs K d2) [] (He.fAd K ("is_limit", none)) fd
  g_is_limit : mg "is_limit" = some (.ref (He.ga K "is_limit"))
  f_all : mg "all" = none
  i_MOST_STATIONS : ∃ t, mg "MOST_STATIONS" = some (.int 10 t)
  f_str : mg "str" = none
  i_MOST_LETTERS : ∃ t, mg "MOST_LETTERS" = some (.int 8 t)
  s_LETTERS : ∃ t, mg "LETTERS" = some (.str "abcdefghijklmnopqrstuvwxyz" t)
  fn_is_name : ∃ fd, FunD K "is_name" "is_name" (defArgs s0) (defBody s0) (defScope s0) (He.DefD.dvs K d0) [] (He.fAd K ("is_name", none)) fd
  g_is_name : mg "is_name" = some (.ref (He.ga K "is_name"))
  i_LEAST_TRACKS : ∃ t, mg "LEAST_TRACKS" = some (.int 2 t)
  i_MOST_TRACKS : ∃ t, mg "MOST_TRACKS" = some (.int 5 t)
  fn_is_station : ∃ fd, FunD K "is_station" "is_station" (defArgs s3) (defBody s3) (defScope s3) (He.DefD.dvs K d3) [] (He.fAd K ("is_station", none)) fd
  g_is_station : mg "is_station" = some (.ref (He.ga K "is_station"))
  f_set : mg "set" = none
  f_zip : mg "zip" = none
  fn_are_in_order : ∃ fd, FunD K "are_in_order" "are_in_order" (defArgs s4) (defBody s4) (defScope s4) (He.DefD.dvs K d4) [] (He.fAd K ("are_in_order", none)) fd
  g_are_in_order : mg "are_in_order" = some (.ref (He.ga K "are_in_order"))
  c_Line : Cls K (He.ga K "Line")
  n_Line_end : NoAttr K (He.ga K "Line") "end"
  n_Line_limits : NoAttr K (He.ga K "Line") "limits"
  n_Line_stations : NoAttr K (He.ga K "Line") "stations"
  fn_Line___init__ : ∃ fd, FunD K "__init__" "Line.__init__" (defArgs s6) (defBody s6) (defScope s6) (He.DefD.dvs K d6) [] (He.fAd K ("Line", some "__init__")) fd
  k_Line : Mk K (He.ga K "Line") (He.ma K (He.ga K "Line") "__init__")
  g_Line : mg "Line" = some (.ref (He.ga K "Line"))
  f_repr : mg "repr" = none
  fn_Line_text : ∃ fd, FunD K "text" "Line.text" (defArgs s10) (defBody s10) (defScope s10) (He.DefD.dvs K d10) [] (He.fAd K ("Line", some "text")) fd
  m_Line_text : Meth K (He.ga K "Line") "text" (He.ma K (He.ga K "Line") "text")
  fn__law_text : ∃ fd, FunD K "_law_text" "_law_text" (defArgs s15) (defBody s15) (defScope s15) (He.DefD.dvs K d15) [] (He.fAd K ("_law_text", none)) fd
  g__law_text : mg "_law_text" = some (.ref (He.ga K "_law_text"))
  e_NoStation : PySem.W.excIn K (He.ga K "NoStation") He.veBase "ValueError.__new__" = true ∧ PySem.W.keepIn K (.ref (He.ga K "NoStation")) = true ∧ PySem.W.subIn K (.ref (He.ga K "NoStation")) (.type "BaseException") = some true ∧ PySem.W.typeIn K (.ref (He.ga K "NoStation")) = some (.type "type")
  g_NoStation : mg "NoStation" = some (.ref (He.ga K "NoStation"))
  fn_Line_tracks_of : ∃ fd, FunD K "tracks_of" "Line.tracks_of" (defArgs s9) (defBody s9) (defScope s9) (He.DefD.dvs K d9) [] (He.fAd K ("Line", some "tracks_of")) fd
  m_Line_tracks_of : Meth K (He.ga K "Line") "tracks_of" (He.ma K (He.ga K "Line") "tracks_of")
  f_max : mg "max" = none
  fn__law_places : ∃ fd, FunD K "_law_places" "_law_places" (defArgs s16) (defBody s16) (defScope s16) (He.DefD.dvs K d16) [] (He.fAd K ("_law_places", none)) fd
  g__law_places : mg "_law_places" = some (.ref (He.ga K "_law_places"))
  f_enumerate : mg "enumerate" = none
  fn_Line_station_at : ∃ fd, FunD K "station_at" "Line.station_at" (defArgs s8) (defBody s8) (defScope s8) (He.DefD.dvs K d8) [] (He.fAd K ("Line", some "station_at")) fd
  m_Line_station_at : Meth K (He.ga K "Line") "station_at" (He.ma K (He.ga K "Line") "station_at")
  fn__law_at : ∃ fd, FunD K "_law_at" "_law_at" (defArgs s18) (defBody s18) (defScope s18) (He.DefD.dvs K d18) [] (He.fAd K ("_law_at", none)) fd
  g__law_at : mg "_law_at" = some (.ref (He.ga K "_law_at"))
  fn_Line_limit : ∃ fd, FunD K "limit" "Line.limit" (defArgs s7) (defBody s7) (defScope s7) (He.DefD.dvs K d7) [] (He.fAd K ("Line", some "limit")) fd
  m_Line_limit : Meth K (He.ga K "Line") "limit" (He.ma K (He.ga K "Line") "limit")
  fn__law_least : ∃ fd, FunD K "_law_least" "_law_least" (defArgs s17) (defBody s17) (defScope s17) (He.DefD.dvs K d17) [] (He.fAd K ("_law_least", none)) fd
  g__law_least : mg "_law_least" = some (.ref (He.ga K "_law_least"))
  fn__law_right : ∃ fd, FunD K "_law_right" "_law_right" (defArgs s19) (defBody s19) (defScope s19) (He.DefD.dvs K d19) [] (He.fAd K ("_law_right", none)) fd
  g__law_right : mg "_law_right" = some (.ref (He.ga K "_law_right"))
  fn_law : ∃ fd, FunD K "law" "law" (defArgs s20) (defBody s20) (defScope s20) (He.DefD.dvs K d20) [] (He.fAd K ("law", none)) fd
  g_law : mg "law" = some (.ref (He.ga K "law"))
theorem gf_of {K : PySem.W.Frag} {h : Heap} {mg : Str → Option Value} (X : K.In h) (N : h.Ns mainGlobals mg) (c : He.SaysD fa fn K) (hx : fx K = true) : GF K mg := ⟨He.free_ok X N (c.fact 0 (f := .free "len") rfl),
  c.def_ 11 rfl,
  He.glo_ok X N (c.fact 1 (f := .glo "_law_mixed") rfl),
  c.def_ 12 rfl,
  He.glo_ok X N (c.fact 2 (f := .glo "_law_number") rfl),
  He.free_ok X N (c.fact 3 (f := .free "range") rfl),
  c.def_ 13 rfl,
  He.glo_ok X N (c.fact 4 (f := .glo "_law_names") rfl),
  He.free_ok X N (c.fact 5 (f := .free "int") rfl),
  He.free_ok X N (c.fact 6 (f := .free "min") rfl),
  c.def_ 14 rfl,
  He.glo_ok X N (c.fact 7 (f := .glo "_law_line") rfl),
  He.free_ok X N (c.fact 8 (f := .free "list") rfl),
  He.free_ok X N (c.fact 9 (f := .free "isinstance") rfl),
  He.free_ok X N (c.fact 10 (f := .free "bool") rfl),
  c.def_ 1 rfl,
  He.glo_ok X N (c.fact 11 (f := .glo "is_among") rfl),
  He.int_ok X N (c.fact 12 (f := .int "MOST_NUMBER" 1000000000000) rfl),
  He.exc_ok (c.fact 13 (f := .exc "BadLine") rfl),
  He.glo_ok X N (c.fact 14 (f := .glo "BadLine") rfl),
  He.int_ok X N (c.fact 15 (f := .int "MOST_LIMITS" 20) rfl),
  c.def_ 5 rfl,
  He.glo_ok X N (c.fact 16 (f := .glo "is_list") rfl),
  He.free_ok X N (c.fact 17 (f := .free "tuple") rfl),
  He.int_ok X N (c.fact 18 (f := .int "MOST_SPEED" 1000) rfl),
  c.def_ 2 rfl,
  He.glo_ok X N (c.fact 19 (f := .glo "is_limit") rfl),
  He.free_ok X N (c.fact 20 (f := .free "all") rfl),
  He.int_ok X N (c.fact 21 (f := .int "MOST_STATIONS" 10) rfl),
  He.free_ok X N (c.fact 22 (f := .free "str") rfl),
  He.int_ok X N (c.fact 23 (f := .int "MOST_LETTERS" 8) rfl),
  He.str_ok X N (c.fact 24 (f := .str "LETTERS" "abcdefghijklmnopqrstuvwxyz") rfl),
  c.def_ 0 rfl,
  He.glo_ok X N (c.fact 25 (f := .glo "is_name") rfl),
  He.int_ok X N (c.fact 26 (f := .int "LEAST_TRACKS" 2) rfl),
  He.int_ok X N (c.fact 27 (f := .int "MOST_TRACKS" 5) rfl),
  c.def_ 3 rfl,
  He.glo_ok X N (c.fact 28 (f := .glo "is_station") rfl),
  He.free_ok X N (c.fact 29 (f := .free "set") rfl),
  He.free_ok X N (c.fact 30 (f := .free "zip") rfl),
  c.def_ 4 rfl,
  He.glo_ok X N (c.fact 31 (f := .glo "are_in_order") rfl),
  He.cls_ok (c.fact 32 (f := .cls "Line") rfl),
  He.noat_ok (c.fact 33 (f := .noat "Line" "end") rfl),
  He.noat_ok (c.fact 34 (f := .noat "Line" "limits") rfl),
  He.noat_ok (c.fact 35 (f := .noat "Line" "stations") rfl),
  c.def_ 6 rfl,
  He.mkr_ok (c.fact 36 (f := .mkr "Line") rfl),
  He.glo_ok X N (c.fact 37 (f := .glo "Line") rfl),
  He.free_ok X N (c.fact 38 (f := .free "repr") rfl),
  c.def_ 10 rfl,
  He.meth_ok (c.fact 39 (f := .meth "Line" "text") rfl),
  c.def_ 15 rfl,
  He.glo_ok X N (c.fact 40 (f := .glo "_law_text") rfl),
  He.exc_ok (c.fact 41 (f := .exc "NoStation") rfl),
  He.glo_ok X N (c.fact 42 (f := .glo "NoStation") rfl),
  c.def_ 9 rfl,
  He.meth_ok (c.fact 43 (f := .meth "Line" "tracks_of") rfl),
  He.free_ok X N (c.fact 44 (f := .free "max") rfl),
  c.def_ 16 rfl,
  He.glo_ok X N (c.fact 45 (f := .glo "_law_places") rfl),
  He.free_ok X N (c.fact 46 (f := .free "enumerate") rfl),
  c.def_ 8 rfl,
  He.meth_ok (c.fact 47 (f := .meth "Line" "station_at") rfl),
  c.def_ 18 rfl,
  He.glo_ok X N (c.fact 48 (f := .glo "_law_at") rfl),
  c.def_ 7 rfl,
  He.meth_ok (c.fact 49 (f := .meth "Line" "limit") rfl),
  c.def_ 17 rfl,
  He.glo_ok X N (c.fact 50 (f := .glo "_law_least") rfl),
  c.def_ 19 rfl,
  He.glo_ok X N (c.fact 51 (f := .glo "_law_right") rfl),
  c.def_ 20 rfl,
  He.glo_ok X N (c.fact 52 (f := .glo "law") rfl)⟩
section
variable {P : Program} {w : World} {K : PySem.W.Frag} {mg : Str → Option Value} {base : Heap}
abbrev sp__law_mixed (K : PySem.W.Frag) : Sp := SpF K (aCons tInt (aOne tInt)) tInt (fun a => m__law_mixed a.1 a.2)
theorem sc__law_mixed : FnScope ["_law_cell", "_law_k", "_law_number_here"] ["_law_cell", "_law_k"] (defScope s11) := ⟨rfl, rfl, rfl, by decide +kernel, rfl, by decide +kernel, by decide +kernel⟩
theorem ok__law_mixed (g : GF K mg) : CalX P w K mg base 1 "_law_mixed" (sp__law_mixed K) := by
  obtain ⟨fd, F⟩ := g.fn__law_mixed
  refine ⟨_, fd, _, F.ok (CX := L2.CX P w) (k := 0) (sp := sp__law_mixed K) sc__law_mixed spF_len (fun cdv A outer s H0 vs Q E hr h => ?_), g.g__law_mixed, F.kp, (F.bindsN fun _ _ _ _ _ _ us hl => match us, hl with | [_, _], _ => rfl)⟩
  obtain ⟨F0, ⟨cell, k_⟩, s0, ra, hp⟩ := h
  obtain ⟨v_0, _, rfl, r_0, ⟨v_1, rfl, r_1⟩⟩ := ra
  have r_0 : tInt.rep F0 v_0 cell := r_0
  have r_1 : tInt.rep F0 v_1 k_ := r_1
  have fr0 : Fr F0 H0 F0 H0 := Fr.refl s0
  refine ⟨_, (pss_cons (ps_set (i := 2) sc__law_mixed.nd rfl (by first | exact Or.inl rfl | exact Or.inr rfl) (pe_op op_mod (pe_op op_mul (pe_op op_add (pe_op op_add (pe_op op_add (pe_op op_mod (pv 0) pe_int) (pe_op op_mul (pe_op op_mul pe_int (pv 1)) (pv 1))) (pe_op op_mul pe_int (pv 1))) pe_int) pe_int) pe_int))
      (pss_one (ps_ret (pe_op op_fdiv (pe_op op_mod (pe_op op_mul (pv 2) (pe_op op_add (pe_op op_mod (pv 2) pe_int) pe_int)) pe_int) pe_int)))), ?_⟩
  obtain ⟨XX, KK, hX, ret0, hp⟩ : ∃ (XX : Exn → Prop) (KK : Int → Prop), (∀ e, XX e → ∀ (_ : L2.St) F' H', Fr F0 H0 F' H' → XS K E e H') ∧ (∀ (a : Int) v F9 H9, Fr F0 H0 F9 H9 → tInt.rep F9 v a → Post (.ok a : R Int) KK XX → Q v H9) ∧ Post (m__law_mixed cell k_) KK XX := ⟨(fun e => ∀ F' H', Fr F0 H0 F' H' → XS K E e H'), (fun b => ∀ v F' H', Fr F0 H0 F' H' → tInt.rep F' v b → Q v H'), fun e h _ => h, fun a v F9 H9 f r k => k v F9 H9 f r, hp⟩
  unfold m__law_mixed at hp
  try (with_reducible refine st_go ?_)
  refine st_seq ?_
  refine s_asg hX fr0 (ev_modC (by decide) (ev_mulC (by decide) (ev_add (ev_add (ev_add (ev_modC (by decide) (ev_vI rfl r_0) ev_int) (ev_mul (ev_mulD (by decide) ev_int (ev_vI rfl r_1)) (ev_vI rfl r_1))) (ev_mulD (by decide) ev_int (ev_vI rfl r_1))) ev_int) ev_int) ev_int) hp (fun number_here9 v7 F6 H6 _ f6 fr6 r8 hp => ?_)
  try (with_reducible refine st_go ?_)
  exact s_ret0 hX fr6 (ev_divC (by decide) (ev_modC (by decide) (ev_mul (ev_vI rfl r8) (ev_add (ev_modC (by decide) (ev_vI rfl r8) ev_int) ev_int)) ev_int) ev_int) hp ret0
abbrev sp__law_number (K : PySem.W.Frag) : Sp := SpF K (aCons (tList K tInt) (aOne tInt)) tInt (fun a => m__law_number a.1 a.2)
theorem sc__law_number : FnScope ["_law_script", "_law_k", "_law_cell"] ["_law_script", "_law_k"] (defScope s12) := ⟨rfl, rfl, rfl, by decide +kernel, rfl, by decide +kernel, by decide +kernel⟩
theorem ok__law_number (g : GF K mg) : CalX P w K mg base 2 "_law_number" (sp__law_number K) := by
  obtain ⟨fd, F⟩ := g.fn__law_number
  refine ⟨_, fd, _, F.ok (CX := L2.CX P w) (k := 1) (sp := sp__law_number K) sc__law_number spF_len (fun cdv A outer s H0 vs Q E hr h => ?_), g.g__law_number, F.kp, (F.bindsN fun _ _ _ _ _ _ us hl => match us, hl with | [_, _], _ => rfl)⟩
  obtain ⟨F0, ⟨script, k_⟩, s0, ra, hp⟩ := h
  obtain ⟨v_0, _, rfl, r_0, ⟨v_1, rfl, r_1⟩⟩ := ra
  have r_0 : (tList K tInt).rep F0 v_0 script := r_0
  have r_1 : tInt.rep F0 v_1 k_ := r_1
  have fr0 : Fr F0 H0 F0 H0 := Fr.refl s0
  refine ⟨_, (pss_cons (ps_set (i := 2) sc__law_number.nd rfl (by first | exact Or.inl rfl | exact Or.inr rfl) pe_int)
      (pss_cons (ps_if (pt_cmpR op_gt (pe_callB (kc_len (K := K) rfl) (by rfl) g.f_len bt_len (pa_cons (pv 0) pa_nil)) pe_int (nomark _)) (pss_one (ps_set (i := 2) sc__law_number.nd rfl (by first | exact Or.inl rfl | exact Or.inr rfl) (pe_ix (kx_list (K := K) rfl) (pv 0) (pe_op op_mod (pv 1) (pe_callB (kc_len (K := K) rfl) (by rfl) g.f_len bt_len (pa_cons (pv 0) pa_nil))) (fun _ _ => rfl)))) pss_nil)
      (pss_one (ps_ret (pe_cxK (K := K) rfl (ok__law_mixed g) hr (by decide) (E := E) (passes_call (takes_of rfl rfl rfl rfl) (fun _ _ _ _ h => h)) (pa_cons (pv 2) (pa_cons (pv 1) pa_nil))))))), ?_⟩
  obtain ⟨XX, KK, hX, ret0, hp⟩ : ∃ (XX : Exn → Prop) (KK : Int → Prop), (∀ e, XX e → ∀ (_ : L2.St) F' H', Fr F0 H0 F' H' → XS K E e H') ∧ (∀ (a : Int) v F9 H9, Fr F0 H0 F9 H9 → tInt.rep F9 v a → Post (.ok a : R Int) KK XX → Q v H9) ∧ Post (m__law_number script k_) KK XX := ⟨(fun e => ∀ F' H', Fr F0 H0 F' H' → XS K E e H'), (fun b => ∀ v F' H', Fr F0 H0 F' H' → tInt.rep F' v b → Q v H'), fun e h _ => h, fun a v F9 H9 f r k => k v F9 H9 f r, hp⟩
  unfold m__law_number at hp
  try (with_reducible refine st_go ?_)
  refine st_seq ?_
  refine s_asg hX fr0 ev_int hp (fun cell4 v2 F1 H1 _ f1 fr1 r3 hp => ?_)
  have r_0 := (tList K tInt).mono f1.f r_0
  try (with_reducible refine st_go ?_)
  refine st_seq ?_
  refine s_if hX fr1 (et_test (ev_gt (ev_lenL (ev_var rfl r_0)) ev_int)) hp (fun F5 H5 _ f5 fr5 hp => ?_) (fun F5 H5 _ f5 fr5 hp => ?_)
  · have r_0 := (tList K tInt).mono f5.f r_0
    try (with_reducible refine st_go ?_)
    refine s_asg hX fr5 (ev_ixL (ev_var rfl r_0) (ev_mod (ev_vI rfl r_1) (ev_lenL (ev_var rfl r_0)))) hp (fun cell10 v8 F7 H7 _ f7 fr7 r9 hp => ?_)
    have r_0 := (tList K tInt).mono f7.f r_0
    try (with_reducible refine st_go ?_)
    exact s_ret0 hX fr7 (ev_call (E := E) (fun _ _ z => z) (ea_cons (ev_vI rfl r9) (ea_one (ev_vI rfl r_1)))) hp ret0
  · have r_0 := (tList K tInt).mono f5.f r_0
    refine st_next ?_
    try (with_reducible refine st_go ?_)
    exact s_ret0 hX fr5 (ev_call (E := E) (fun _ _ z => z) (ea_cons (ev_vI rfl r3) (ea_one (ev_vI rfl r_1)))) hp ret0
abbrev sp__law_names (K : PySem.W.Frag) : Sp := SpL K (aCons tInt (aOne tInt)) tStr (fun a => m__law_names a.1 a.2)
theorem sc__law_names : FnScope ["_law_number_here", "_law_many_names", "_law_letters", "_law_base", "_law_size", "_law_at_here", "_law_signs", "_law_k", "_law_sign", "_law_j"] ["_law_number_here", "_law_many_names"] (defScope s13) := ⟨rfl, rfl, rfl, by decide +kernel, rfl, by decide +kernel, by decide +kernel⟩
theorem ok__law_names (g : GF K mg) : CalX P w K mg base 1 "_law_names" (sp__law_names K) := by
  obtain ⟨fd, F⟩ := g.fn__law_names
  refine ⟨_, fd, _, F.ok (CX := L2.CX P w) (k := 0) (sp := sp__law_names K) sc__law_names spL_len (fun cdv A outer s H0 vs Q E hr h => ?_), g.g__law_names, F.kp, (F.bindsN fun _ _ _ _ _ _ us hl => match us, hl with | [_, _], _ => rfl)⟩
  obtain ⟨F0, ⟨number_here, many_names⟩, s0, ra, hp⟩ := h
  obtain ⟨v_0, _, rfl, r_0, ⟨v_1, rfl, r_1⟩⟩ := ra
  have r_0 : tInt.rep F0 v_0 number_here := r_0
  have r_1 : tInt.rep F0 v_1 many_names := r_1
  have fr0 : Fr F0 H0 F0 H0 := Fr.refl s0
  refine ⟨_, (pss_cons (ps_set (i := 2) sc__law_names.nd rfl (by first | exact Or.inl rfl | exact Or.inr rfl) pe_str)
      (pss_cons (ps_set (i := 3) sc__law_names.nd rfl (by first | exact Or.inl rfl | exact Or.inr rfl) (pe_m1 PySem.F.slot_str_join PySem.F.type_str_join (mt_joinK (K := K) rfl) pe_str (pe_lc (g := gName 9) (own := [("_law_j", 9)]) rfl sc__law_names.nd (pi_range1 (by rfl) g.f_range (pa_cons pe_int pa_nil)) (blkOk_by (N := ["_law_number_here", "_law_many_names", "_law_letters", "_law_base", "_law_size", "_law_at_here", "_law_signs", "_law_k", "_law_sign", "_law_j"]) (sc := (defScope Br.s13)) (by decide +kernel)) (fun _ _ _ _ _ => (pg_name (i := 9) sc__law_names.nd rfl (by first | exact Or.inl rfl | exact Or.inr rfl))) (fun _ _ _ _ _ => pts_nil) (fun _ _ _ _ _ => (pe_ix ix_str (pv 2) (pe_op op_mod (pe_op op_add (pe_op op_add (pv 0) (pe_op op_mul pe_int (pv 9))) (pe_op op_mul (pv 9) (pv 9))) pe_int) (fun _ _ => rfl))))))
      (pss_cons (ps_if (PW.pt (pw_and (pt_cmpR op_eq (pe_op op_mod (pe_op op_fdiv (pv 0) pe_int) pe_int) pe_int (nomark _)) (pw_and1 (pt_cmpR op_lt (pv 1) pe_int (nomark _))))) (pss_one (ps_ret (pe_lc (g := gName 7) (own := [("_law_k", 7)]) rfl sc__law_names.nd (pi_range1 (by rfl) g.f_range (pa_cons (pv 1) pa_nil)) (blkOk_by (N := ["_law_number_here", "_law_many_names", "_law_letters", "_law_base", "_law_size", "_law_at_here", "_law_signs", "_law_k", "_law_sign", "_law_j"]) (sc := (defScope Br.s13)) (by decide +kernel)) (fun _ _ _ _ _ => (pg_name (i := 7) sc__law_names.nd rfl (by first | exact Or.inl rfl | exact Or.inr rfl))) (fun _ _ _ _ _ => pts_nil) (fun _ _ _ _ _ => (pe_slice sl_str (pv 3) po_none (po_some (pe_op op_add pe_int (pv 7)))))))) pss_nil)
      (pss_cons (ps_set (i := 4) sc__law_names.nd rfl (by first | exact Or.inl rfl | exact Or.inr rfl) (pe_op op_mod (pe_op op_fdiv (pv 0) pe_int) pe_int))
      (pss_cons (ps_set (i := 5) sc__law_names.nd rfl (by first | exact Or.inl rfl | exact Or.inr rfl) (pe_op op_mod (pe_op op_fdiv (pv 0) pe_int) (pe_op op_add (pv 4) pe_int)))
      (pss_cons (ps_setLc (i := 6) (g := gName 7) (own := [("_law_k", 7)]) rfl sc__law_names.nd rfl rfl (sw_true rfl rfl rfl (by decide +kernel)) (pi_range1 (by rfl) g.f_range (pa_cons (pv 1) pa_nil)) (blkOk_by (N := ["_law_number_here", "_law_many_names", "_law_letters", "_law_base", "_law_size", "_law_at_here", "_law_signs", "_law_k", "_law_sign", "_law_j"]) (sc := (defScope Br.s13)) (by decide +kernel)) (fun _ _ _ _ _ => (pg_name (i := 7) sc__law_names.nd rfl (by first | exact Or.inl rfl | exact Or.inr rfl))) (fun _ _ _ _ _ => pts_nil) (fun _ _ _ _ _ => (pe_ix ix_str (pv 2) (pe_op op_mod (pe_op op_add (pe_op op_fdiv (pv 0) pe_int) (pe_op op_mul pe_int (pv 7))) pe_int) (fun _ _ => rfl))))
      (pss_one (ps_ret (pe_lc (g := gName 8) (own := [("_law_sign", 8)]) rfl sc__law_names.nd (pi_listK (K := K) rfl (pv 6)) (blkOk_by (N := ["_law_number_here", "_law_many_names", "_law_letters", "_law_base", "_law_size", "_law_at_here", "_law_signs", "_law_k", "_law_sign", "_law_j"]) (sc := (defScope Br.s13)) (by decide +kernel)) (fun _ _ _ _ _ => (pg_name (i := 8) sc__law_names.nd rfl (by first | exact Or.inl rfl | exact Or.inr rfl))) (fun _ _ _ _ _ => pts_nil) (fun _ _ _ _ _ => (pe_op ko_addS (pe_op ko_addS (pe_slice sl_str (pv 3) po_none (po_some (pv 5))) (pv 8)) (pe_slice sl_str (pv 3) (po_some (pv 5)) (po_some (pv 4)))))))))))))), ?_⟩
  obtain ⟨XX, KK, hX, ret0, hp⟩ : ∃ (XX : Exn → Prop) (KK : (List Str) → Prop), (∀ e, XX e → ∀ (_ : L2.St) F' H', Fr F0 H0 F' H' → XS K E e H') ∧ (∀ (a : (List Str)) v F9 H9, Fr F0 H0 F9 H9 → Own tStr H0 F9 H9 v a → Post (.ok a : R (List Str)) KK XX → Q v H9) ∧ Post (m__law_names number_here many_names) KK XX := ⟨(fun e => ∀ F' H', Fr F0 H0 F' H' → XS K E e H'), (fun b => ∀ p ws F' H', Fr F0 H0 F' H' → H0 p = none → F' p = none → H' p = some (.lst ws) → Paired (tStr.rep F') ws b → Q (.ref p) H'), fun e h _ => h, fun a v F9 H9 f o k => by obtain ⟨p, ws, ev, h0, hf, hh, r⟩ := o; subst ev; exact k p ws F9 H9 f h0 hf hh r, hp⟩
  unfold m__law_names at hp
  try (with_reducible refine st_go ?_)
  refine st_seq ?_
  refine s_asg hX fr0 ev_str hp (fun letters4 v2 F1 H1 _ f1 fr1 r3 hp => ?_)
  try (with_reducible refine st_go ?_)
  refine st_seq ?_
  refine s_asg hX fr1 (ev_join ev_str (ev_wk (ev_of_l (el_comp (c := (fun (x5 : Int) => .ok true)) (e := (fun (x5 : Int) => bd (bd (bd (mulR x5 x5) fun x108 => .ok ((number_here + (5 * x5)) + x108)) fun x109 => .ok (x109 % 26)) fun x110 => signR letters4 x110)) (ei_range1 ev_int) tg_name (fun σ2 F2 x p => by obtain ⟨w, rfl, _⟩ := p; rfl) (fun σ2 F2 H2 x5 f p => by obtain ⟨w6, rfl, r7⟩ := p; exact et_is et_yes rfl) (fun σ2 F2 H2 x5 f p => by obtain ⟨w6, rfl, r7⟩ := p; exact ev_is (ev_ixS (ev_vS rfl r3) (ev_modC (by decide) (ev_add (ev_add (ev_vI rfl r_0) (ev_mulD (by decide) ev_int (ev_vI rfl r7))) (ev_mul (ev_vI rfl r7) (ev_vI rfl r7))) ev_int)) rfl) (fun σ2 F2 F3 x s p => by obtain ⟨w, e, r⟩ := p; exact ⟨w, e, tInt.mono s r⟩))))) hp (fun base116 v114 F113 H113 _ f113 fr113 r115 hp => ?_)
  try (with_reducible refine st_go ?_)
  refine st_seq ?_
  refine s_if hX fr113 (et_andP (et_test (ev_eqI (ev_modC (by decide) (ev_divC (by decide) (ev_vI rfl r_0) ev_int) ev_int) ev_int)) (et_test (ev_lt (ev_vI rfl r_1) ev_int))) hp (fun F117 H117 _ f117 fr117 hp => ?_) (fun F117 H117 _ f117 fr117 hp => ?_)
  · try (with_reducible refine st_go ?_)
    exact s_retL0 hX fr117 (el_comp (c := (fun (x118 : Int) => .ok true)) (e := (fun (x118 : Int) => cutSR base116 none (some (1 + x118)))) (ei_range1 (ev_vI rfl r_1)) tg_name (fun σ2 F2 x p => by obtain ⟨w, rfl, _⟩ := p; rfl) (fun σ2 F2 H2 x118 f p => by obtain ⟨w119, rfl, r120⟩ := p; exact et_is et_yes rfl) (fun σ2 F2 H2 x118 f p => by obtain ⟨w119, rfl, r120⟩ := p; exact ev_is (ev_sliceS (ev_vS rfl r115) eo_none (eo_some (ev_add ev_int (ev_vI rfl r120)))) rfl) (fun σ2 F2 F3 x s p => by obtain ⟨w, e, r⟩ := p; exact ⟨w, e, tInt.mono s r⟩)) hp ret0
  · refine st_next ?_
    try (with_reducible refine st_go ?_)
    refine st_seq ?_
    refine s_asg hX fr117 (ev_modC (by decide) (ev_divC (by decide) (ev_vI rfl r_0) ev_int) ev_int) hp (fun size225 v223 F222 H222 _ f222 fr222 r224 hp => ?_)
    try (with_reducible refine st_go ?_)
    refine st_seq ?_
    refine s_asg hX fr222 (ev_mod (ev_divC (by decide) (ev_vI rfl r_0) ev_int) (ev_add (ev_vI rfl r224) ev_int)) hp (fun at_here229 v227 F226 H226 _ f226 fr226 r228 hp => ?_)
    try (with_reducible refine st_go ?_)
    refine st_seq ?_
    refine s_asg hX fr226 (ev_of_l (el_comp (c := (fun (x230 : Int) => .ok true)) (e := (fun (x230 : Int) => signR letters4 (((number_here / 7000) + (3 * x230)) % 26))) (ei_range1 (ev_vI rfl r_1)) tg_name (fun σ2 F2 x p => by obtain ⟨w, rfl, _⟩ := p; rfl) (fun σ2 F2 H2 x230 f p => by obtain ⟨w231, rfl, r232⟩ := p; exact et_is et_yes rfl) (fun σ2 F2 H2 x230 f p => by obtain ⟨w231, rfl, r232⟩ := p; exact ev_is (ev_ixS (ev_vS rfl r3) (ev_modC (by decide) (ev_add (ev_divC (by decide) (ev_vI rfl r_0) ev_int) (ev_mulD (by decide) ev_int (ev_vI rfl r232))) ev_int)) rfl) (fun σ2 F2 F3 x s p => by obtain ⟨w, e, r⟩ := p; exact ⟨w, e, tInt.mono s r⟩))) hp (fun signs337 v335 F334 H334 _ f334 fr334 r336 hp => ?_)
    try (with_reducible refine st_go ?_)
    exact s_retL0 hX fr334 (el_comp (c := (fun (sign338 : Str) => .ok true)) (e := (fun (sign338 : Str) => bd (bd (cutSR base116 none (some at_here229)) fun x441 => catSR x441 sign338) fun x442 => bd (cutSR base116 (some at_here229) (some size225)) fun x443 => catSR x442 x443)) (ei_list (ev_wk (ev_var rfl r336))) tg_name (fun σ2 F2 x p => by obtain ⟨w, rfl, _⟩ := p; rfl) (fun σ2 F2 H2 sign338 f p => by obtain ⟨w339, rfl, r340⟩ := p; have r336 := (yList tStr).mono f.f r336; exact et_is et_yes rfl) (fun σ2 F2 H2 sign338 f p => by obtain ⟨w339, rfl, r340⟩ := p; have r336 := (yList tStr).mono f.f r336; exact ev_is (ev_addS (ev_addS (ev_sliceS (ev_vS rfl r115) eo_none (eo_some (ev_vI rfl r228))) (ev_vS rfl r340)) (ev_sliceS (ev_vS rfl r115) (eo_some (ev_vI rfl r228)) (eo_some (ev_vI rfl r224)))) rfl) (fun σ2 F2 F3 x s p => by obtain ⟨w, e, r⟩ := p; exact ⟨w, e, tStr.mono s r⟩)) hp ret0
abbrev sp__law_line (K : PySem.W.Frag) : Sp := SpF K (aCons (tList K tInt) (aOne tInt)) (yTup K (aCons tInt (aCons (yList (yTup K (aCons tInt (aCons tInt (aOne tInt))))) (aOne (yList (yTup K (aCons tStr (aCons tInt (aCons tInt (aOne tInt)))))))))) (fun a => m__law_line a.1 a.2)
theorem sc__law_line : FnScope ["_law_script", "_law_at_here", "_law_number_here", "_law_scale", "_law_stations", "_law_place", "_law_names_here", "_law_k", "_law_cell", "_law_first", "_law_last", "_law_end", "_law_limits"] ["_law_script", "_law_at_here"] (defScope s14) := ⟨rfl, rfl, rfl, by decide +kernel, rfl, by decide +kernel, by decide +kernel⟩
theorem ok__law_line (g : GF K mg) : CalX P w K mg base 3 "_law_line" (sp__law_line K) := by
  obtain ⟨fd, F⟩ := g.fn__law_line
  refine ⟨_, fd, _, F.ok (CX := L2.CX P w) (k := 2) (sp := sp__law_line K) sc__law_line spF_len (fun cdv A outer s H0 vs Q E hr h => ?_), g.g__law_line, F.kp, (F.bindsN fun _ _ _ _ _ _ us hl => match us, hl with | [_, _], _ => rfl)⟩
  obtain ⟨F0, ⟨script, at_here⟩, s0, ra, hp⟩ := h
  obtain ⟨v_0, _, rfl, r_0, ⟨v_1, rfl, r_1⟩⟩ := ra
  have r_0 : (tList K tInt).rep F0 v_0 script := r_0
  have r_1 : tInt.rep F0 v_1 at_here := r_1
  have fr0 : Fr F0 H0 F0 H0 := Fr.refl s0
  refine ⟨_, (pss_cons (ps_set (i := 2) sc__law_line.nd rfl (by first | exact Or.inl rfl | exact Or.inr rfl) (pe_cxK (K := K) rfl (ok__law_number g) hr (by decide) (E := E) (passes_call (takes_of rfl rfl rfl rfl) (fun _ _ _ _ h => h)) (pa_cons (pv 0) (pa_cons (pv 1) pa_nil))))
      (pss_cons (ps_set (i := 3) sc__law_line.nd rfl (by first | exact Or.inl rfl | exact Or.inr rfl) (pe_ix (kx_list (K := K) rfl) (pe_lst (pa_cons pe_int (pa_cons pe_int (pa_cons pe_int (pa_cons (pe_op op_add (pe_op op_pow pe_int pe_int) (pe_op op_mod (pe_op op_fdiv (pv 2) pe_int) pe_int)) (pa_cons (pe_op op_add (pe_op op_pow pe_int pe_int) (pe_op op_mod (pe_op op_fdiv (pv 2) pe_int) pe_int)) pa_nil)))))) (pe_op op_mod (pv 2) pe_int) (fun _ _ => rfl)))
      (pss_cons (ps_set (i := 4) sc__law_line.nd rfl (by first | exact Or.inl rfl | exact Or.inr rfl) (pe_lst pa_nil))
      (pss_cons (ps_set (i := 5) sc__law_line.nd rfl (by first | exact Or.inl rfl | exact Or.inr rfl) pe_int)
      (pss_cons (ps_set (i := 6) sc__law_line.nd rfl (by first | exact Or.inl rfl | exact Or.inr rfl) (pe_cxK (K := K) rfl (ok__law_names g) hr (by decide) (E := E) (passes_call (takes_of rfl rfl rfl rfl) (fun _ _ _ _ h => h)) (pa_cons (pe_cxK (K := K) rfl (ok__law_number g) hr (by decide) (E := E) (passes_call (takes_of rfl rfl rfl rfl) (fun _ _ _ _ h => h)) (pa_cons (pv 0) (pa_cons (pe_op op_add (pv 1) pe_int) pa_nil))) (pa_cons pe_int pa_nil))))
      (pss_cons (ps_for (passes_of rfl) rfl (pi_range1 (by rfl) g.f_range (pa_cons (pe_ix (kx_list (K := K) rfl) (pe_lst (pa_cons pe_int (pa_cons pe_int (pa_cons pe_int (pa_cons pe_int (pa_cons pe_int (pa_cons (pe_op op_mod (pe_op op_fdiv (pv 2) pe_int) pe_int) pa_nil))))))) (pe_op op_mod (pe_op op_fdiv (pv 2) pe_int) pe_int) (fun _ _ => rfl)) pa_nil)) (pg_name (i := 7) sc__law_line.nd rfl (by first | exact Or.inl rfl | exact Or.inr rfl)) (pss_cons (ps_set (i := 8) sc__law_line.nd rfl (by first | exact Or.inl rfl | exact Or.inr rfl) (pe_cxK (K := K) rfl (ok__law_number g) hr (by decide) (E := E) (passes_call (takes_of rfl rfl rfl rfl) (fun _ _ _ _ h => h)) (pa_cons (pv 0) (pa_cons (pe_op op_add (pe_op op_add (pv 1) pe_int) (pv 7)) pa_nil))))
      (pss_cons (ps_set (i := 9) sc__law_line.nd rfl (by first | exact Or.inl rfl | exact Or.inr rfl) (pe_op op_add (pv 5) (pe_op op_mul (pe_op op_mod (pv 8) pe_int) (pv 3))))
      (pss_cons (ps_set (i := 10) sc__law_line.nd rfl (by first | exact Or.inl rfl | exact Or.inr rfl) (pe_op op_add (pv 9) (pe_op op_mul (pe_op op_mod (pe_op op_fdiv (pv 8) pe_int) pe_int) (pv 3))))
      (pss_cons (ps_expr (pe_bm PySem.F.plainAttrs_list PySem.F.slot_list_append PySem.F.type_list_append mt_append (pv 4) (pa_cons (pe_tup (pa_cons (pe_ix (kx_list (K := K) rfl) (pv 6) (pv 7) (fun _ _ => rfl)) (pa_cons (pv 9) (pa_cons (pv 10) (pa_cons (pe_op op_add pe_int (pe_op op_mod (pe_op op_fdiv (pv 8) pe_int) pe_int)) pa_nil))))) pa_nil)))
      (pss_one (ps_set (i := 5) sc__law_line.nd rfl (by first | exact Or.inl rfl | exact Or.inr rfl) (pe_op op_add (pe_op op_add (pv 10) pe_int) (pe_op op_mul (pe_op op_mod (pe_op op_fdiv (pv 8) pe_int) pe_int) (pv 3))))))))))
      (pss_cons (ps_set (i := 11) sc__law_line.nd rfl (by first | exact Or.inl rfl | exact Or.inr rfl) (pe_op op_add (pe_op op_add (pv 5) (pe_op op_mul (pe_op op_mod (pe_op op_fdiv (pv 2) pe_int) pe_int) (pv 3))) (pe_callTy call_int1 (by rfl) g.f_int bt_int (pa_cons (pe_cmpR op_eq (pv 5) pe_int (nomark _)) pa_nil))))
      (pss_cons (ps_set (i := 12) sc__law_line.nd rfl (by first | exact Or.inl rfl | exact Or.inr rfl) (pe_lst pa_nil))
      (pss_cons (ps_for (passes_of rfl) rfl (pi_range1 (by rfl) g.f_range (pa_cons (pe_ix (kx_list (K := K) rfl) (pe_lst (pa_cons pe_int (pa_cons pe_int (pa_cons pe_int (pa_cons pe_int (pa_cons (pe_op op_mod (pe_op op_fdiv (pv 2) pe_int) pe_int) pa_nil)))))) (pe_op op_mod (pe_op op_fdiv (pv 2) pe_int) pe_int) (fun _ _ => rfl)) pa_nil)) (pg_name (i := 7) sc__law_line.nd rfl (by first | exact Or.inl rfl | exact Or.inr rfl)) (pss_cons (ps_set (i := 8) sc__law_line.nd rfl (by first | exact Or.inl rfl | exact Or.inr rfl) (pe_cxK (K := K) rfl (ok__law_number g) hr (by decide) (E := E) (passes_call (takes_of rfl rfl rfl rfl) (fun _ _ _ _ h => h)) (pa_cons (pv 0) (pa_cons (pe_op op_add (pe_op op_add (pv 1) pe_int) (pv 7)) pa_nil))))
      (pss_cons (ps_set (i := 9) sc__law_line.nd rfl (by first | exact Or.inl rfl | exact Or.inr rfl) (pe_op op_mod (pe_op op_fdiv (pv 8) pe_int) (pe_op op_add (pv 11) pe_int)))
      (pss_cons (ps_set (i := 10) sc__law_line.nd rfl (by first | exact Or.inl rfl | exact Or.inr rfl) (pe_callB (call_min2 rfl) (by rfl) g.f_min bt_min (pa_cons (pv 11) (pa_cons (pe_op op_add (pv 9) (pe_op op_mul (pe_op op_mul (pe_op op_mod (pv 8) pe_int) (pe_op op_mod (pe_op op_fdiv (pv 8) pe_int) pe_int)) (pv 3))) pa_nil))))
      (pss_one (ps_expr (pe_bm PySem.F.plainAttrs_list PySem.F.slot_list_append PySem.F.type_list_append mt_append (pv 12) (pa_cons (pe_tup (pa_cons (pv 9) (pa_cons (pv 10) (pa_cons (pe_ix (kx_list (K := K) rfl) (pe_lst (pa_cons (pe_op op_add pe_int (pe_op op_mod (pe_op op_fdiv (pv 8) pe_int) pe_int)) (pa_cons (pe_op op_add pe_int (pe_op op_mod (pe_op op_fdiv (pv 8) pe_int) pe_int)) pa_nil))) (pe_op op_mod (pe_op op_fdiv (pv 8) pe_int) pe_int) (fun _ _ => rfl)) pa_nil)))) pa_nil))))))))
      (pss_one (ps_ret (pe_tup (pa_cons (pv 11) (pa_cons (pv 12) (pa_cons (pv 4) pa_nil))))))))))))))), ?_⟩
  obtain ⟨XX, KK, hX, ret0, hp⟩ : ∃ (XX : Exn → Prop) (KK : (Int × (List (Int × Int × Int)) × (List (Str × Int × Int × Int))) → Prop), (∀ e, XX e → ∀ (_ : L2.St) F' H', Fr F0 H0 F' H' → XS K E e H') ∧ (∀ (a : (Int × (List (Int × Int × Int)) × (List (Str × Int × Int × Int)))) v F9 H9, Fr F0 H0 F9 H9 → (yTup K (aCons tInt (aCons (yList (yTup K (aCons tInt (aCons tInt (aOne tInt))))) (aOne (yList (yTup K (aCons tStr (aCons tInt (aCons tInt (aOne tInt)))))))))).rep F9 v a → Post (.ok a : R (Int × (List (Int × Int × Int)) × (List (Str × Int × Int × Int)))) KK XX → Q v H9) ∧ Post (m__law_line script at_here) KK XX := ⟨(fun e => ∀ F' H', Fr F0 H0 F' H' → XS K E e H'), (fun b => ∀ v F' H', Fr F0 H0 F' H' → (yTup K (aCons tInt (aCons (yList (yTup K (aCons tInt (aCons tInt (aOne tInt))))) (aOne (yList (yTup K (aCons tStr (aCons tInt (aCons tInt (aOne tInt)))))))))).rep F' v b → Q v H'), fun e h _ => h, fun a v F9 H9 f r k => k v F9 H9 f r, hp⟩
  unfold m__law_line at hp
  try (with_reducible refine st_go ?_)
  refine st_seq ?_
  refine s_asg hX fr0 (ev_call (E := E) (fun _ _ z => z) (ea_cons (ev_var rfl r_0) (ea_one (ev_vI rfl r_1)))) hp (fun number_here4 v2 F1 H1 _ f1 fr1 r3 hp => ?_)
  have r_0 := (tList K tInt).mono f1.f r_0
  try (with_reducible refine st_go ?_)
  refine st_seq ?_
  refine s_asg hX fr1 (ev_ixL (ev_wk (ev_of_l (el_lst (by decide) (er_cons ev_int (er_cons ev_int (er_cons ev_int (er_cons (ev_add (ev_powC (a := 10) (b := 3) (c := 1000) (by decide +kernel) (by decide +kernel) ev_int ev_int) (ev_modC (by decide) (ev_divC (by decide) (ev_vI rfl r3) ev_int) ev_int)) (er_cons (ev_add (ev_powC (a := 10) (b := 9) (c := 1000000000) (by decide +kernel) (by decide +kernel) ev_int ev_int) (ev_modC (by decide) (ev_divC (by decide) (ev_vI rfl r3) ev_int) ev_int)) er_nil)))))))) (ev_modC (by decide) (ev_vI rfl r3) ev_int)) hp (fun scale8 v6 F5 H5 _ f5 fr5 r7 hp => ?_)
  have r_0 := (tList K tInt).mono f5.f r_0
  try (with_reducible refine st_go ?_)
  refine st_seq ?_
  refine s_asgL hX fr5 (el_lst (ta := (yTup K (aCons tStr (aCons tInt (aCons tInt (aOne tInt)))))) (by decide) er_nil) hp (fun stations12 v10 F9 H9 _ f9 fr9 r11 nw13 hp => ?_)
  have r_0 := (tList K tInt).mono f9.f r_0
  try (with_reducible refine st_go ?_)
  refine st_seq ?_
  refine s_asg hX fr9 ev_int hp (fun placeq17 v15 F14 H14 _ f14 fr14 r16 hp => ?_)
  have r_0 := (tList K tInt).mono f14.f r_0
  have r11 := r11.mono f14
  try (with_reducible refine st_go ?_)
  refine st_seq ?_
  refine s_asg hX fr14 (ev_of_l (el_is (m' := bd (m__law_number script (at_here + 1)) fun x18 => m__law_names x18 10) (el_call (E := E) (fun _ _ z => z) (ea_cons (ev_call (E := E) (fun _ _ z => z) (ea_cons (ev_var rfl r_0) (ea_one (ev_add (ev_vI rfl r_1) ev_int)))) (ea_one ev_int))) (by simp only [bd_assoc, bd_ok]))) hp (fun names_here22 v20 F19 H19 _ f19 fr19 r21 hp => ?_)
  have r_0 := (tList K tInt).mono f19.f r_0
  have r11 := r11.mono f19
  try (with_reducible refine st_go ?_)
  refine st_seq ?_
  refine s_for (W := (fun e (_ : L2.St) H => XS K E e H)) (f := (fun (s25 : Int × (List (Str × Int × Int × Int))) (kq28 : Int) => (bd (m__law_number script ((at_here + 2) + kq28)) fun cell32 =>
bd (bd (mulR (cell32 % 4) scale8) fun x33 => .ok (s25.1 + x33)) fun first37 =>
bd (bd (mulR ((cell32 / 4) % 5) scale8) fun x38 => .ok (first37 + x38)) fun last42 =>
bd (bd (atR names_here22 kq28) fun x43 => .ok (x43, first37, last42, 2 + ((cell32 / 20) % 4))) fun y48 =>
bd (addR s25.2 y48) fun stations49 =>
bd (bd (mulR ((cell32 / 80) % 2) scale8) fun x50 => .ok ((last42 + 2) + x50)) fun placeq54 =>
.ok (.nx (placeq54, stations49)) : R (Fl (Int × (List (Str × Int × Int × Int))) (Int × (List (Int × Int × Int)) × (List (Str × Int × Int × Int))))))) (s0 := (placeq17, stations12)) (fun (s : Int × (List (Str × Int × Int × Int))) (σ : L2.St) (F H : Hp) => ∃ (w4 : V), ∃ (w5 : V), ∃ (w7 : Option V), ∃ (w8 : Option V), ∃ (w9 : Option V), ∃ (w10 : Option V), σ = [some v_0, some v_1, some v2, some v6, some w4, some w5, some v20, w7, w8, w9, w10, none, none] ∧ Fr F0 H0 F H ∧ tInt.rep F w5 s.1 ∧ Own (yTup K (aCons tStr (aCons tInt (aCons tInt (aOne tInt))))) H0 F H w4 s.2) hX fr19 (ei_range1 (ev_ixL (ev_wk (ev_of_l (el_lst (by decide) (er_cons ev_int (er_cons ev_int (er_cons ev_int (er_cons ev_int (er_cons ev_int (er_cons (ev_modC (by decide) (ev_divC (by decide) (ev_vI rfl r3) ev_int) ev_int) er_nil))))))))) (ev_modC (by decide) (ev_divC (by decide) (ev_vI rfl r3) ev_int) ev_int))) hp (fun F2 H2 f fr => ?h024) (fun s σ2 F2 H2 h => ?hf24) (fun s σ2 F2 H2 F3 H3 h f => ?hy24) (fun s25 kq28 v26 σ2 FL24 HL24 DL KL hrt sm24 st24 rx24 hp hnx hct hbk hret => ?hb24) (fun s55 σ2 FM56 HM56 sm56 st56 hp => ?hd24)
  case h024 =>
    have r16 := tInt.mono f.f r16
    have r11 := r11.mono f
    exact ⟨v10, v15, none, none, none, none, rfl, fr, r16, r11⟩
  case hf24 =>
    obtain ⟨w4a24, w5a24, w7a24, w8a24, w9a24, w10a24, eL, frL, q0a24, q1a24⟩ := h
    exact frL
  case hy24 =>
    obtain ⟨w4a24, w5a24, w7a24, w8a24, w9a24, w10a24, eL, frL, q0a24, q1a24⟩ := h
    exact ⟨w4a24, w5a24, w7a24, w8a24, w9a24, w10a24, eL, frL.trans f, (tInt.mono f.f q0a24), (q1a24.mono f)⟩
  case hb24 =>
    obtain ⟨w4a24, w5a24, w7a24, w8a24, w9a24, w10a24, rfl, frL24, q0a24, q1a24⟩ := st24
    have r_0 := (tList K tInt).mono sm24 r_0
    have r21 := (yList tStr).mono sm24 r21
    refine st_gn ?_
    have ret29 : ∀ (a9 : (Int × (List (Int × Int × Int)) × (List (Str × Int × Int × Int)))) v9 F9 H9, Fr F0 H0 F9 H9 → (yTup K (aCons tInt (aCons (yList (yTup K (aCons tInt (aCons tInt (aOne tInt))))) (aOne (yList (yTup K (aCons tStr (aCons tInt (aCons tInt (aOne tInt)))))))))).rep F9 v9 a9 → Post (.ok (.rt a9)) KL XX → DL.rt v9 H9 := fun a9 v9 F9 H9 f9 r9 k9 => by rw [hrt]; exact ret0 a9 v9 F9 H9 f9 r9 (hret a9 k9)
    try (with_reducible refine st_go ?_)
    refine st_seq ?_
    refine s_asg hX frL24 (ev_call (E := E) (fun _ _ z => z) (ea_cons (ev_var rfl r_0) (ea_one (ev_add (ev_add (ev_vI rfl r_1) ev_int) (ev_vI rfl rx24))))) hp (fun cell32 v30 F29 H29 _ f29 fr29 r31 hp => ?_)
    have r_0 := (tList K tInt).mono f29.f r_0
    have q1a24 := q1a24.mono f29
    have r21 := (yList tStr).mono f29.f r21
    try (with_reducible refine st_go ?_)
    refine st_seq ?_
    refine s_asg hX fr29 (ev_add (ev_vI rfl q0a24) (ev_mul (ev_modC (by decide) (ev_vI rfl r31) ev_int) (ev_vI rfl r7))) hp (fun first37 v35 F34 H34 _ f34 fr34 r36 hp => ?_)
    have r_0 := (tList K tInt).mono f34.f r_0
    have q1a24 := q1a24.mono f34
    have r21 := (yList tStr).mono f34.f r21
    try (with_reducible refine st_go ?_)
    refine st_seq ?_
    refine s_asg hX fr34 (ev_add (ev_vI rfl r36) (ev_mul (ev_modC (by decide) (ev_divC (by decide) (ev_vI rfl r31) ev_int) ev_int) (ev_vI rfl r7))) hp (fun last42 v40 F39 H39 _ f39 fr39 r41 hp => ?_)
    have r_0 := (tList K tInt).mono f39.f r_0
    have q1a24 := q1a24.mono f39
    have r21 := (yList tStr).mono f39.f r21
    try (with_reducible refine st_go ?_)
    refine st_seq ?_
    refine s_app hX fr39 rfl q1a24 (ev_is (m' := bd (atR names_here22 kq28) fun x43 => .ok (x43, first37, last42, 2 + ((cell32 / 20) % 4))) (ev_tup (K := K) (Nat.le_of_ble_eq_true rfl) (ea_cons (ev_ixL (ev_wk (ev_var rfl r21)) (ev_vI rfl rx24)) (ea_cons (ev_vI rfl r36) (ea_cons (ev_vI rfl r41) (ea_one (ev_add ev_int (ev_modC (by decide) (ev_divC (by decide) (ev_vI rfl r31) ev_int) ev_int))))))) (by simp only [bd_assoc, bd_ok])) hp (fun stations49 F44 H44 sm46 fr44 r45 kp47 hp => ?_)
    have r_0 := (tList K tInt).mono sm46 r_0
    have r21 := (yList tStr).mono sm46 r21
    try (with_reducible refine st_go ?_)
    refine s_asg hX fr44 (ev_add (ev_add (ev_vI rfl r41) ev_int) (ev_mul (ev_modC (by decide) (ev_divC (by decide) (ev_vI rfl r31) ev_int) ev_int) (ev_vI rfl r7))) hp (fun placeq54 v52 F51 H51 _ f51 fr51 r53 hp => ?_)
    have r_0 := (tList K tInt).mono f51.f r_0
    have r45 := r45.mono f51
    have r21 := (yList tStr).mono f51.f r21
    exact hnx (placeq54, stations49) _ F51 H51 (f29.f.trans (f34.f.trans (f39.f.trans (sm46.trans f51.f)))) ⟨w4a24, v52, (some v26), (some v30), (some v35), (some v40), rfl, fr51, r53, r45⟩ hp
  case hd24 =>
    obtain ⟨w4b56, w5b56, w7b56, w8b56, w9b56, w10b56, rfl, frM56, q0b56, q1b56⟩ := st56
    have r_0 := (tList K tInt).mono sm56 r_0
    have r21 := (yList tStr).mono sm56 r21
    try (with_reducible refine st_go ?_)
    refine st_seq ?_
    refine s_asg hX frM56 (ev_add (ev_add (ev_vI rfl q0b56) (ev_mul (ev_modC (by decide) (ev_divC (by decide) (ev_vI rfl r3) ev_int) ev_int) (ev_vI rfl r7))) (ev_intB (ev_eqI (ev_vI rfl q0b56) ev_int))) hp (fun endq62 v60 F59 H59 _ f59 fr59 r61 hp => ?_)
    have r_0 := (tList K tInt).mono f59.f r_0
    have q1b56 := q1b56.mono f59
    have r21 := (yList tStr).mono f59.f r21
    try (with_reducible refine st_go ?_)
    refine st_seq ?_
    refine s_asgL hX fr59 (el_lst (ta := (yTup K (aCons tInt (aCons tInt (aOne tInt))))) (by decide) er_nil) hp (fun limits66 v64 F63 H63 _ f63 fr63 r65 nw67 hp => ?_)
    have ne68 := q1b56.ne nw67
    have r_0 := (tList K tInt).mono f63.f r_0
    have q1b56 := q1b56.mono f63
    have r21 := (yList tStr).mono f63.f r21
    try (with_reducible refine st_go ?_)
    refine st_seq ?_
    refine s_for (W := (fun e (_ : L2.St) H => XS K E e H)) (f := (fun (limits71 : (List (Int × Int × Int))) (kq74 : Int) => (bd (m__law_number script ((at_here + 20) + kq74)) fun cell78 =>
bd (modR (cell78 / 4) (endq62 + 1)) fun first82 =>
bd (bd (bd (bd (mulR (cell78 % 4) ((cell78 / 4000) % 9)) fun x83 => mulR x83 scale8) fun x84 => .ok (first82 + x84)) fun x85 => .ok (min endq62 x85)) fun last89 =>
bd (bd (atR [1 + ((cell78 / 7) % 1000), 1 + ((cell78 / 7) % 9)] ((cell78 / 90) % 2)) fun x90 => .ok (first82, last89, x90)) fun y95 =>
bd (addR limits71 y95) fun limits96 =>
.ok (.nx limits96) : R (Fl (List (Int × Int × Int)) (Int × (List (Int × Int × Int)) × (List (Str × Int × Int × Int))))))) (s0 := limits66) (fun (s : (List (Int × Int × Int))) (σ : L2.St) (F H : Hp) => ∃ (w7 : Option V), ∃ (w8 : Option V), ∃ (w9 : Option V), ∃ (w10 : Option V), ∃ (w12 : V), σ = [some v_0, some v_1, some v2, some v6, some w4b56, some w5b56, some v20, w7, w8, w9, w10, some v60, some w12] ∧ Fr F0 H0 F H ∧ Own (yTup K (aCons tInt (aCons tInt (aOne tInt)))) H0 F H w12 s ∧ Own (yTup K (aCons tStr (aCons tInt (aCons tInt (aOne tInt))))) H0 F H w4b56 s55.2 ∧ w4b56 ≠ w12) hX fr63 (ei_range1 (ev_ixL (ev_wk (ev_of_l (el_lst (by decide) (er_cons ev_int (er_cons ev_int (er_cons ev_int (er_cons ev_int (er_cons (ev_modC (by decide) (ev_divC (by decide) (ev_vI rfl r3) ev_int) ev_int) er_nil)))))))) (ev_modC (by decide) (ev_divC (by decide) (ev_vI rfl r3) ev_int) ev_int))) hp (fun F2 H2 f fr => ?h070) (fun s σ2 F2 H2 h => ?hf70) (fun s σ2 F2 H2 F3 H3 h f => ?hy70) (fun limits71 kq74 v72 σ2 FL70 HL70 DL KL hrt sm70 st70 rx70 hp hnx hct hbk hret => ?hb70) (fun limits97 σ2 FM98 HM98 sm98 st98 hp => ?hd70)
    case h070 =>
      have r65 := r65.mono f
      have q1b56 := q1b56.mono f
      exact ⟨w7b56, w8b56, w9b56, w10b56, v64, rfl, fr, r65, q1b56, (ne68)⟩
    case hf70 =>
      obtain ⟨w7a70, w8a70, w9a70, w10a70, w12a70, eL, frL, q0a70, q1a70, q2a70⟩ := h
      exact frL
    case hy70 =>
      obtain ⟨w7a70, w8a70, w9a70, w10a70, w12a70, eL, frL, q0a70, q1a70, q2a70⟩ := h
      exact ⟨w7a70, w8a70, w9a70, w10a70, w12a70, eL, frL.trans f, (q0a70.mono f), (q1a70.mono f), (q2a70)⟩
    case hb70 =>
      obtain ⟨w7a70, w8a70, w9a70, w10a70, w12a70, rfl, frL70, q0a70, q1a70, q2a70⟩ := st70
      have r_0 := (tList K tInt).mono sm70 r_0
      have r21 := (yList tStr).mono sm70 r21
      refine st_gn ?_
      have ret75 : ∀ (a9 : (Int × (List (Int × Int × Int)) × (List (Str × Int × Int × Int)))) v9 F9 H9, Fr F0 H0 F9 H9 → (yTup K (aCons tInt (aCons (yList (yTup K (aCons tInt (aCons tInt (aOne tInt))))) (aOne (yList (yTup K (aCons tStr (aCons tInt (aCons tInt (aOne tInt)))))))))).rep F9 v9 a9 → Post (.ok (.rt a9)) KL XX → DL.rt v9 H9 := fun a9 v9 F9 H9 f9 r9 k9 => by rw [hrt]; exact ret0 a9 v9 F9 H9 f9 r9 (hret a9 k9)
      try (with_reducible refine st_go ?_)
      refine st_seq ?_
      refine s_asg hX frL70 (ev_call (E := E) (fun _ _ z => z) (ea_cons (ev_var rfl r_0) (ea_one (ev_add (ev_add (ev_vI rfl r_1) ev_int) (ev_vI rfl rx70))))) hp (fun cell78 v76 F75 H75 _ f75 fr75 r77 hp => ?_)
      have r_0 := (tList K tInt).mono f75.f r_0
      have q1a70 := q1a70.mono f75
      have r21 := (yList tStr).mono f75.f r21
      have q0a70 := q0a70.mono f75
      try (with_reducible refine st_go ?_)
      refine st_seq ?_
      refine s_asg hX fr75 (ev_mod (ev_divC (by decide) (ev_vI rfl r77) ev_int) (ev_add (ev_vI rfl r61) ev_int)) hp (fun first82 v80 F79 H79 _ f79 fr79 r81 hp => ?_)
      have r_0 := (tList K tInt).mono f79.f r_0
      have q1a70 := q1a70.mono f79
      have r21 := (yList tStr).mono f79.f r21
      have q0a70 := q0a70.mono f79
      try (with_reducible refine st_go ?_)
      refine st_seq ?_
      refine s_asg hX fr79 (ev_min2 (ev_vI rfl r61) (ev_add (ev_vI rfl r81) (ev_mul (ev_mul (ev_modC (by decide) (ev_vI rfl r77) ev_int) (ev_modC (by decide) (ev_divC (by decide) (ev_vI rfl r77) ev_int) ev_int)) (ev_vI rfl r7)))) hp (fun last89 v87 F86 H86 _ f86 fr86 r88 hp => ?_)
      have r_0 := (tList K tInt).mono f86.f r_0
      have q1a70 := q1a70.mono f86
      have r21 := (yList tStr).mono f86.f r21
      have q0a70 := q0a70.mono f86
      try (with_reducible refine st_go ?_)
      refine s_app hX fr86 rfl q0a70 (ev_is (m' := bd (atR [1 + ((cell78 / 7) % 1000), 1 + ((cell78 / 7) % 9)] ((cell78 / 90) % 2)) fun x90 => .ok (first82, last89, x90)) (ev_tup (K := K) (Nat.le_of_ble_eq_true rfl) (ea_cons (ev_vI rfl r81) (ea_cons (ev_vI rfl r88) (ea_one (ev_ixL (ev_wk (ev_of_l (el_lst (by decide) (er_cons (ev_add ev_int (ev_modC (by decide) (ev_divC (by decide) (ev_vI rfl r77) ev_int) ev_int)) (er_cons (ev_add ev_int (ev_modC (by decide) (ev_divC (by decide) (ev_vI rfl r77) ev_int) ev_int)) er_nil))))) (ev_modC (by decide) (ev_divC (by decide) (ev_vI rfl r77) ev_int) ev_int)))))) (by simp only [bd_assoc, bd_ok])) hp (fun limits96 F91 H91 sm93 fr91 r92 kp94 hp => ?_)
      have r_0 := (tList K tInt).mono sm93 r_0
      have r21 := (yList tStr).mono sm93 r21
      have q1a70 := q1a70.kept kp94 (q2a70)
      exact hnx limits96 _ F91 H91 (f75.f.trans (f79.f.trans (f86.f.trans sm93))) ⟨(some v72), (some v76), (some v80), (some v87), w12a70, rfl, fr91, r92, q1a70, (q2a70)⟩ hp
    case hd70 =>
      obtain ⟨w7b98, w8b98, w9b98, w10b98, w12b98, rfl, frM98, q0b98, q1b98, q2b98⟩ := st98
      have r_0 := (tList K tInt).mono sm98 r_0
      have r21 := (yList tStr).mono sm98 r21
      try (with_reducible refine st_go ?_)
      obtain ⟨F99, fr100, sm101, r102, kp103⟩ := q0b98.freeze frM98
      have r_0 := (tList K tInt).mono sm101 r_0
      have r21 := (yList tStr).mono sm101 r21
      have q1b98 := q1b98.kept kp103 (q2b98)
      obtain ⟨F104, fr105, sm106, r107, kp108⟩ := q1b98.freeze fr100
      have r_0 := (tList K tInt).mono sm106 r_0
      have r21 := (yList tStr).mono sm106 r21
      have r102 := (yList (yTup K (aCons tInt (aCons tInt (aOne tInt))))).mono sm106 r102
      exact s_ret0 hX fr105 (ev_tup (K := K) (Nat.le_of_ble_eq_true rfl) (ea_cons (ev_vI rfl r61) (ea_cons (ev_var rfl r102) (ea_one (ev_var rfl r107))))) hp ret0
abbrev sp_is_among (K : PySem.W.Frag) : Sp := SpF K (aCons tInt (aCons tInt (aOne tInt))) tBool (fun a => m_is_among a.1 a.2.1 a.2.2)
theorem sc_is_among : FnScope ["thing", "least", "most"] ["thing", "least", "most"] (defScope s1) := ⟨rfl, rfl, rfl, by decide +kernel, rfl, by decide +kernel, by decide +kernel⟩
theorem ok_is_among (g : GF K mg) : CalX P w K mg base 1 "is_among" (sp_is_among K) := by
  obtain ⟨fd, F⟩ := g.fn_is_among
  refine ⟨_, fd, _, F.ok (CX := L2.CX P w) (k := 0) (sp := sp_is_among K) sc_is_among spF_len (fun cdv A outer s H0 vs Q E hr h => ?_), g.g_is_among, F.kp, (F.bindsN fun _ _ _ _ _ _ us hl => match us, hl with | [_, _, _], _ => rfl)⟩
  obtain ⟨F0, ⟨thing, least, most⟩, s0, ra, hp⟩ := h
  obtain ⟨v_0, _, rfl, r_0, ⟨v_1, _, rfl, r_1, ⟨v_2, rfl, r_2⟩⟩⟩ := ra
  have r_0 : tInt.rep F0 v_0 thing := r_0
  have r_1 : tInt.rep F0 v_1 least := r_1
  have r_2 : tInt.rep F0 v_2 most := r_2
  have fr0 : Fr F0 H0 F0 H0 := Fr.refl s0
  refine ⟨_, (pss_one (ps_ret (pe_and (pe_callB (kc_isi (K := K) rfl) (by rfl) g.f_isinstance bt_isinstance (pa_cons (pv 0) (pa_cons (pe_bltn (v := .ty "int") (by rfl) g.f_int bt_int rfl) pa_nil))) (pe_and (pe_not (pe_callB (kc_isi (K := K) rfl) (by rfl) g.f_isinstance bt_isinstance (pa_cons (pv 0) (pa_cons (pe_bltn (v := .ty "bool") (by rfl) g.f_bool bt_bool rfl) pa_nil)))) (pe_one (pe_chain op_le op_le (pv 1) (pv 0) (pv 2))))))), ?_⟩
  obtain ⟨XX, KK, hX, ret0, hp⟩ : ∃ (XX : Exn → Prop) (KK : Bool → Prop), (∀ e, XX e → ∀ (_ : L2.St) F' H', Fr F0 H0 F' H' → XS K E e H') ∧ (∀ (a : Bool) v F9 H9, Fr F0 H0 F9 H9 → tBool.rep F9 v a → Post (.ok a : R Bool) KK XX → Q v H9) ∧ Post (m_is_among thing least most) KK XX := ⟨(fun e => ∀ F' H', Fr F0 H0 F' H' → XS K E e H'), (fun b => ∀ v F' H', Fr F0 H0 F' H' → tBool.rep F' v b → Q v H'), fun e h _ => h, fun a v F9 H9 f r k => k v F9 H9 f r, hp⟩
  unfold m_is_among at hp
  try (with_reducible refine st_go ?_)
  exact s_ret0 hX fr0 (ev_andP (ev_isi ty_int (by decide +kernel : kitB "int" "int" = some true) (ev_vI rfl r_0)) (ev_andP (ev_notV (ev_isi ty_int (by decide +kernel : kitB "int" "bool" = some false) (ev_vI rfl r_0))) (ev_chainP o_B0 o_B0 (ev_vI rfl r_1) (ev_vI rfl r_0) (ev_vI rfl r_2)))) hp ret0
abbrev sp_is_list_v0 (K : PySem.W.Frag) : Sp := SpF K (aCons (yList (yTup K (aCons tInt (aCons tInt (aOne tInt))))) (aOne tInt)) tBool (fun a => m_is_list_v0 a.1 a.2)
theorem sc_is_list_v0 : FnScope ["thing", "most"] ["thing", "most"] (defScope s5) := ⟨rfl, rfl, rfl, by decide +kernel, rfl, by decide +kernel, by decide +kernel⟩
theorem ok_is_list_v0 (g : GF K mg) : CalX P w K mg base 1 "is_list" (sp_is_list_v0 K) := by
  obtain ⟨fd, F⟩ := g.fn_is_list
  refine ⟨_, fd, _, F.ok (CX := L2.CX P w) (k := 0) (sp := sp_is_list_v0 K) sc_is_list_v0 spF_len (fun cdv A outer s H0 vs Q E hr h => ?_), g.g_is_list, F.kp, (F.bindsN fun _ _ _ _ _ _ us hl => match us, hl with | [_, _], _ => rfl)⟩
  obtain ⟨F0, ⟨thing, most⟩, s0, ra, hp⟩ := h
  obtain ⟨v_0, _, rfl, r_0, ⟨v_1, rfl, r_1⟩⟩ := ra
  have r_0 : (yList (yTup K (aCons tInt (aCons tInt (aOne tInt))))).rep F0 v_0 thing := r_0
  have r_1 : tInt.rep F0 v_1 most := r_1
  have fr0 : Fr F0 H0 F0 H0 := Fr.refl s0
  refine ⟨_, (pss_one (ps_ret (pe_and (pe_callB (kc_isi (K := K) rfl) (by rfl) g.f_isinstance bt_isinstance (pa_cons (pv 0) (pa_cons (pe_bltn (v := .ty "list") (by rfl) g.f_list bt_list rfl) pa_nil))) (pe_one (pe_cmpR op_le (pe_callB (kc_len (K := K) rfl) (by rfl) g.f_len bt_len (pa_cons (pv 0) pa_nil)) (pv 1) (nomark _)))))), ?_⟩
  obtain ⟨XX, KK, hX, ret0, hp⟩ : ∃ (XX : Exn → Prop) (KK : Bool → Prop), (∀ e, XX e → ∀ (_ : L2.St) F' H', Fr F0 H0 F' H' → XS K E e H') ∧ (∀ (a : Bool) v F9 H9, Fr F0 H0 F9 H9 → tBool.rep F9 v a → Post (.ok a : R Bool) KK XX → Q v H9) ∧ Post (m_is_list_v0 thing most) KK XX := ⟨(fun e => ∀ F' H', Fr F0 H0 F' H' → XS K E e H'), (fun b => ∀ v F' H', Fr F0 H0 F' H' → tBool.rep F' v b → Q v H'), fun e h _ => h, fun a v F9 H9 f r k => k v F9 H9 f r, hp⟩
  unfold m_is_list_v0 at hp
  try (with_reducible refine st_go ?_)
  exact s_ret0 hX fr0 (ev_andP (ev_isi ty_lst (by decide +kernel : kitB "list" "list" = some true) (ev_var rfl r_0)) (ev_le (ev_lenL (ev_wk (ev_var rfl r_0))) (ev_vI rfl r_1))) hp ret0
abbrev sp_is_limit (K : PySem.W.Frag) : Sp := SpF K (aCons (yTup K (aCons tInt (aCons tInt (aOne tInt)))) (aOne tInt)) tBool (fun a => m_is_limit a.1 a.2)
theorem sc_is_limit : FnScope ["thing", "end"] ["thing", "end"] (defScope s2) := ⟨rfl, rfl, rfl, by decide +kernel, rfl, by decide +kernel, by decide +kernel⟩
theorem ok_is_limit (g : GF K mg) : CalX P w K mg base 2 "is_limit" (sp_is_limit K) := by
  obtain ⟨fd, F⟩ := g.fn_is_limit
  refine ⟨_, fd, _, F.ok (CX := L2.CX P w) (k := 1) (sp := sp_is_limit K) sc_is_limit spF_len (fun cdv A outer s H0 vs Q E hr h => ?_), g.g_is_limit, F.kp, (F.bindsN fun _ _ _ _ _ _ us hl => match us, hl with | [_, _], _ => rfl)⟩
  obtain ⟨F0, ⟨thing, end_⟩, s0, ra, hp⟩ := h
  obtain ⟨v_0, _, rfl, r_0, ⟨v_1, rfl, r_1⟩⟩ := ra
  have r_0 : (yTup K (aCons tInt (aCons tInt (aOne tInt)))).rep F0 v_0 thing := r_0
  have r_1 : tInt.rep F0 v_1 end_ := r_1
  have fr0 : Fr F0 H0 F0 H0 := Fr.refl s0
  refine ⟨_, (pss_cons (ps_if (PW.pt (pw_or (pt_not (pt_val (pe_callB (kc_isi (K := K) rfl) (by rfl) g.f_isinstance bt_isinstance (pa_cons (pv 0) (pa_cons (pe_bltn (v := .ty "tuple") (by rfl) g.f_tuple bt_tuple rfl) pa_nil))))) (pw_or (pt_cmpR op_ne (pe_callB (kc_len (K := K) rfl) (by rfl) g.f_len bt_len (pa_cons (pv 0) pa_nil)) pe_int (nomark _)) (pw_or1 (pt_not (pt_val (pe_cxK (K := K) rfl (ok_is_among g) hr (by decide) (E := E) (passes_call (takes_of rfl rfl rfl rfl) (fun _ _ _ _ h => h)) (pa_cons (pe_ix (kx_tup (K := K) rfl) (pv 0) pe_int (fun _ _ => rfl)) (pa_cons pe_int (pa_cons (pv 1) pa_nil)))))))))) (pss_one (ps_ret pe_bl)) pss_nil)
      (pss_one (ps_ret (pe_and (pe_cxK (K := K) rfl (ok_is_among g) hr (by decide) (E := E) (passes_call (takes_of rfl rfl rfl rfl) (fun _ _ _ _ h => h)) (pa_cons (pe_ix (kx_tup (K := K) rfl) (pv 0) pe_int (fun _ _ => rfl)) (pa_cons (pe_ix (kx_tup (K := K) rfl) (pv 0) pe_int (fun _ _ => rfl)) (pa_cons (pv 1) pa_nil)))) (pe_one (pe_cxK (K := K) rfl (ok_is_among g) hr (by decide) (E := E) (passes_call (takes_of rfl rfl rfl rfl) (fun _ _ _ _ h => h)) (pa_cons (pe_ix (kx_tup (K := K) rfl) (pv 0) pe_int (fun _ _ => rfl)) (pa_cons pe_int (pa_cons (pe_gi g.i_MOST_SPEED) pa_nil))))))))), ?_⟩
  obtain ⟨XX, KK, hX, ret0, hp⟩ : ∃ (XX : Exn → Prop) (KK : Bool → Prop), (∀ e, XX e → ∀ (_ : L2.St) F' H', Fr F0 H0 F' H' → XS K E e H') ∧ (∀ (a : Bool) v F9 H9, Fr F0 H0 F9 H9 → tBool.rep F9 v a → Post (.ok a : R Bool) KK XX → Q v H9) ∧ Post (m_is_limit thing end_) KK XX := ⟨(fun e => ∀ F' H', Fr F0 H0 F' H' → XS K E e H'), (fun b => ∀ v F' H', Fr F0 H0 F' H' → tBool.rep F' v b → Q v H'), fun e h _ => h, fun a v F9 H9 f r k => k v F9 H9 f r, hp⟩
  unfold m_is_limit at hp
  try (with_reducible refine st_go ?_)
  refine st_seq ?_
  refine s_if hX fr0 (et_or (et_not (et_val (ev_isi ty_tup (by decide +kernel : kitB "tuple" "tuple" = some true) (ev_var rfl r_0)))) (et_or (et_test (ev_neI (ev_lenT (n := 3) rfl (ev_var rfl r_0)) ev_int)) (et_not (et_val (ev_call (E := E) (fun _ _ z => z) (ea_cons (ev_nth (i := 0) nth_0 (ev_var rfl r_0)) (ea_cons ev_int (ea_one (ev_vI rfl r_1))))))))) hp (fun F2 H2 _ f2 fr2 hp => ?_) (fun F2 H2 _ f2 fr2 hp => ?_)
  · have r_0 := (yTup K (aCons tInt (aCons tInt (aOne tInt)))).mono f2.f r_0
    try (with_reducible refine st_go ?_)
    exact s_ret0 hX fr2 ev_bl hp ret0
  · have r_0 := (yTup K (aCons tInt (aCons tInt (aOne tInt)))).mono f2.f r_0
    refine st_next ?_
    try (with_reducible refine st_go ?_)
    exact s_ret0 hX fr2 (ev_andV (ev_call (E := E) (fun _ _ z => z) (ea_cons (ev_nth (i := 1) (nth_s nth_0) (ev_var rfl r_0)) (ea_cons (ev_nth (i := 0) nth_0 (ev_var rfl r_0)) (ea_one (ev_vI rfl r_1))))) (ev_call (E := E) (fun _ _ z => z) (ea_cons (ev_nth (i := 2) (nth_s (nth_s nth_one)) (ev_var rfl r_0)) (ea_cons ev_int (ea_one ev_int))))) hp ret0
abbrev sp_is_list_v1 (K : PySem.W.Frag) : Sp := SpF K (aCons (yList (yTup K (aCons tStr (aCons tInt (aCons tInt (aOne tInt)))))) (aOne tInt)) tBool (fun a => m_is_list_v1 a.1 a.2)
theorem sc_is_list_v1 : FnScope ["thing", "most"] ["thing", "most"] (defScope s5) := ⟨rfl, rfl, rfl, by decide +kernel, rfl, by decide +kernel, by decide +kernel⟩
theorem ok_is_list_v1 (g : GF K mg) : CalX P w K mg base 1 "is_list" (sp_is_list_v1 K) := by
  obtain ⟨fd, F⟩ := g.fn_is_list
  refine ⟨_, fd, _, F.ok (CX := L2.CX P w) (k := 0) (sp := sp_is_list_v1 K) sc_is_list_v1 spF_len (fun cdv A outer s H0 vs Q E hr h => ?_), g.g_is_list, F.kp, (F.bindsN fun _ _ _ _ _ _ us hl => match us, hl with | [_, _], _ => rfl)⟩
  obtain ⟨F0, ⟨thing, most⟩, s0, ra, hp⟩ := h
  obtain ⟨v_0, _, rfl, r_0, ⟨v_1, rfl, r_1⟩⟩ := ra
  have r_0 : (yList (yTup K (aCons tStr (aCons tInt (aCons tInt (aOne tInt)))))).rep F0 v_0 thing := r_0
  have r_1 : tInt.rep F0 v_1 most := r_1
  have fr0 : Fr F0 H0 F0 H0 := Fr.refl s0
  refine ⟨_, (pss_one (ps_ret (pe_and (pe_callB (kc_isi (K := K) rfl) (by rfl) g.f_isinstance bt_isinstance (pa_cons (pv 0) (pa_cons (pe_bltn (v := .ty "list") (by rfl) g.f_list bt_list rfl) pa_nil))) (pe_one (pe_cmpR op_le (pe_callB (kc_len (K := K) rfl) (by rfl) g.f_len bt_len (pa_cons (pv 0) pa_nil)) (pv 1) (nomark _)))))), ?_⟩
  obtain ⟨XX, KK, hX, ret0, hp⟩ : ∃ (XX : Exn → Prop) (KK : Bool → Prop), (∀ e, XX e → ∀ (_ : L2.St) F' H', Fr F0 H0 F' H' → XS K E e H') ∧ (∀ (a : Bool) v F9 H9, Fr F0 H0 F9 H9 → tBool.rep F9 v a → Post (.ok a : R Bool) KK XX → Q v H9) ∧ Post (m_is_list_v1 thing most) KK XX := ⟨(fun e => ∀ F' H', Fr F0 H0 F' H' → XS K E e H'), (fun b => ∀ v F' H', Fr F0 H0 F' H' → tBool.rep F' v b → Q v H'), fun e h _ => h, fun a v F9 H9 f r k => k v F9 H9 f r, hp⟩
  unfold m_is_list_v1 at hp
  try (with_reducible refine st_go ?_)
  exact s_ret0 hX fr0 (ev_andP (ev_isi ty_lst (by decide +kernel : kitB "list" "list" = some true) (ev_var rfl r_0)) (ev_le (ev_lenL (ev_wk (ev_var rfl r_0))) (ev_vI rfl r_1))) hp ret0
abbrev sp_is_name (K : PySem.W.Frag) : Sp := SpF K (aOne tStr) tBool (fun a => m_is_name a)
theorem sc_is_name : FnScope ["thing", "sign"] ["thing"] (defScope s0) := ⟨rfl, rfl, rfl, by decide +kernel, rfl, by decide +kernel, by decide +kernel⟩
theorem ok_is_name (g : GF K mg) : CalX P w K mg base 1 "is_name" (sp_is_name K) := by
  obtain ⟨fd, F⟩ := g.fn_is_name
  refine ⟨_, fd, _, F.ok (CX := L2.CX P w) (k := 0) (sp := sp_is_name K) sc_is_name spF_len (fun cdv A outer s H0 vs Q E hr h => ?_), g.g_is_name, F.kp, (F.bindsN fun _ _ _ _ _ _ us hl => match us, hl with | [_], _ => rfl)⟩
  obtain ⟨F0, thing, s0, ra, hp⟩ := h
  obtain ⟨v_0, rfl, r_0⟩ := ra
  have r_0 : tStr.rep F0 v_0 thing := r_0
  have fr0 : Fr F0 H0 F0 H0 := Fr.refl s0
  refine ⟨_, (pss_cons (ps_if (PW.pt (pw_or (pt_not (pt_val (pe_callB (kc_isi (K := K) rfl) (by rfl) g.f_isinstance bt_isinstance (pa_cons (pv 0) (pa_cons (pe_bltn (v := .ty "str") (by rfl) g.f_str bt_str rfl) pa_nil))))) (pw_or1 (pt_not (pt_chain op_le op_le pe_int (pe_callB (kc_len (K := K) rfl) (by rfl) g.f_len bt_len (pa_cons (pv 0) pa_nil)) (pe_gi g.i_MOST_LETTERS)))))) (pss_one (ps_ret pe_bl)) pss_nil)
      (pss_one (ps_ret (pe_callB (kc_all (K := K) rfl rfl) (by rfl) g.f_all bt_all (pa_cons (pe_lc (g := gName 1) (own := [("sign", 1)]) rfl sc_is_name.nd (pi_str (pv 0)) (blkOk_by (N := ["thing", "sign"]) (sc := (defScope Br.s0)) (by decide +kernel)) (fun _ _ _ _ _ => (pg_name (i := 1) sc_is_name.nd rfl (by first | exact Or.inl rfl | exact Or.inr rfl))) (fun _ _ _ _ _ => pts_nil) (fun _ _ _ _ _ => (pe_cmpR op_in_sign (pv 1) (pe_gs g.s_LETTERS) rfl))) pa_nil))))), ?_⟩
  obtain ⟨XX, KK, hX, ret0, hp⟩ : ∃ (XX : Exn → Prop) (KK : Bool → Prop), (∀ e, XX e → ∀ (_ : L2.St) F' H', Fr F0 H0 F' H' → XS K E e H') ∧ (∀ (a : Bool) v F9 H9, Fr F0 H0 F9 H9 → tBool.rep F9 v a → Post (.ok a : R Bool) KK XX → Q v H9) ∧ Post (m_is_name thing) KK XX := ⟨(fun e => ∀ F' H', Fr F0 H0 F' H' → XS K E e H'), (fun b => ∀ v F' H', Fr F0 H0 F' H' → tBool.rep F' v b → Q v H'), fun e h _ => h, fun a v F9 H9 f r k => k v F9 H9 f r, hp⟩
  unfold m_is_name at hp
  try (with_reducible refine st_go ?_)
  refine st_seq ?_
  refine s_if hX fr0 (et_or (et_not (et_val (ev_isi ty_str (by decide +kernel : kitB "str" "str" = some true) (ev_vS rfl r_0)))) (et_not (et_test (ev_chain o_B0 (fun _ _ => calm_ok) o_B0 (fun _ _ => calm_ok) ev_int (ev_lenS (ev_vS rfl r_0)) ev_int)))) hp (fun F3 H3 _ f3 fr3 hp => ?_) (fun F3 H3 _ f3 fr3 hp => ?_)
  · try (with_reducible refine st_go ?_)
    exact s_ret0 hX fr3 ev_bl hp ret0
  · refine st_next ?_
    try (with_reducible refine st_go ?_)
    exact s_ret0 hX fr3 (ev_all (ev_wk (ev_of_l (el_comp (c := (fun (sign4 : Str) => .ok true)) (e := (fun (sign4 : Str) => inSR sign4 ("abcdefghijklmnopqrstuvwxyz" : Str))) (ei_str (ev_vS rfl r_0)) tg_name (fun σ2 F2 x p => by obtain ⟨w, rfl, _⟩ := p; rfl) (fun σ2 F2 H2 sign4 f p => by obtain ⟨w5, rfl, r6⟩ := p; exact et_is et_yes rfl) (fun σ2 F2 H2 sign4 f p => by obtain ⟨w5, rfl, r6⟩ := p; exact ev_is (ev_inS (ev_vS rfl r6) ev_str) rfl) (fun σ2 F2 F3 x s p => by obtain ⟨w, e, r⟩ := p; exact ⟨w, e, tStr.mono s r⟩))))) hp ret0
abbrev sp_is_station (K : PySem.W.Frag) : Sp := SpF K (aCons (yTup K (aCons tStr (aCons tInt (aCons tInt (aOne tInt))))) (aOne tInt)) tBool (fun a => m_is_station a.1 a.2)
theorem sc_is_station : FnScope ["thing", "end"] ["thing", "end"] (defScope s3) := ⟨rfl, rfl, rfl, by decide +kernel, rfl, by decide +kernel, by decide +kernel⟩
theorem ok_is_station (g : GF K mg) : CalX P w K mg base 2 "is_station" (sp_is_station K) := by
  obtain ⟨fd, F⟩ := g.fn_is_station
  refine ⟨_, fd, _, F.ok (CX := L2.CX P w) (k := 1) (sp := sp_is_station K) sc_is_station spF_len (fun cdv A outer s H0 vs Q E hr h => ?_), g.g_is_station, F.kp, (F.bindsN fun _ _ _ _ _ _ us hl => match us, hl with | [_, _], _ => rfl)⟩
  obtain ⟨F0, ⟨thing, end_⟩, s0, ra, hp⟩ := h
  obtain ⟨v_0, _, rfl, r_0, ⟨v_1, rfl, r_1⟩⟩ := ra
  have r_0 : (yTup K (aCons tStr (aCons tInt (aCons tInt (aOne tInt))))).rep F0 v_0 thing := r_0
  have r_1 : tInt.rep F0 v_1 end_ := r_1
  have fr0 : Fr F0 H0 F0 H0 := Fr.refl s0
  refine ⟨_, (pss_cons (ps_if (PW.pt (pw_or (pt_not (pt_val (pe_callB (kc_isi (K := K) rfl) (by rfl) g.f_isinstance bt_isinstance (pa_cons (pv 0) (pa_cons (pe_bltn (v := .ty "tuple") (by rfl) g.f_tuple bt_tuple rfl) pa_nil))))) (pw_or (pt_cmpR op_ne (pe_callB (kc_len (K := K) rfl) (by rfl) g.f_len bt_len (pa_cons (pv 0) pa_nil)) pe_int (nomark _)) (pw_or (pt_not (pt_val (pe_cxK (K := K) rfl (ok_is_name g) hr (by decide) (E := E) (passes_call (takes_of rfl rfl rfl rfl) (fun _ _ _ _ h => h)) (pa_cons (pe_ix (kx_tup (K := K) rfl) (pv 0) pe_int (fun _ _ => rfl)) pa_nil)))) (pw_or1 (pt_not (pt_val (pe_cxK (K := K) rfl (ok_is_among g) hr (by decide) (E := E) (passes_call (takes_of rfl rfl rfl rfl) (fun _ _ _ _ h => h)) (pa_cons (pe_ix (kx_tup (K := K) rfl) (pv 0) pe_int (fun _ _ => rfl)) (pa_cons pe_int (pa_cons (pe_op op_sub (pv 1) pe_int) pa_nil))))))))))) (pss_one (ps_ret pe_bl)) pss_nil)
      (pss_one (ps_ret (pe_and (pe_cxK (K := K) rfl (ok_is_among g) hr (by decide) (E := E) (passes_call (takes_of rfl rfl rfl rfl) (fun _ _ _ _ h => h)) (pa_cons (pe_ix (kx_tup (K := K) rfl) (pv 0) pe_int (fun _ _ => rfl)) (pa_cons (pe_ix (kx_tup (K := K) rfl) (pv 0) pe_int (fun _ _ => rfl)) (pa_cons (pe_op op_sub (pv 1) pe_int) pa_nil)))) (pe_one (pe_cxK (K := K) rfl (ok_is_among g) hr (by decide) (E := E) (passes_call (takes_of rfl rfl rfl rfl) (fun _ _ _ _ h => h)) (pa_cons (pe_ix (kx_tup (K := K) rfl) (pv 0) pe_int (fun _ _ => rfl)) (pa_cons (pe_gi g.i_LEAST_TRACKS) (pa_cons (pe_gi g.i_MOST_TRACKS) pa_nil))))))))), ?_⟩
  obtain ⟨XX, KK, hX, ret0, hp⟩ : ∃ (XX : Exn → Prop) (KK : Bool → Prop), (∀ e, XX e → ∀ (_ : L2.St) F' H', Fr F0 H0 F' H' → XS K E e H') ∧ (∀ (a : Bool) v F9 H9, Fr F0 H0 F9 H9 → tBool.rep F9 v a → Post (.ok a : R Bool) KK XX → Q v H9) ∧ Post (m_is_station thing end_) KK XX := ⟨(fun e => ∀ F' H', Fr F0 H0 F' H' → XS K E e H'), (fun b => ∀ v F' H', Fr F0 H0 F' H' → tBool.rep F' v b → Q v H'), fun e h _ => h, fun a v F9 H9 f r k => k v F9 H9 f r, hp⟩
  unfold m_is_station at hp
  try (with_reducible refine st_go ?_)
  refine st_seq ?_
  refine s_if hX fr0 (et_or (et_not (et_val (ev_isi ty_tup (by decide +kernel : kitB "tuple" "tuple" = some true) (ev_var rfl r_0)))) (et_or (et_test (ev_neI (ev_lenT (n := 4) rfl (ev_var rfl r_0)) ev_int)) (et_or (et_not (et_val (ev_call (E := E) (fun _ _ z => z) (ea_one (ev_nth (i := 0) nth_0 (ev_var rfl r_0)))))) (et_not (et_val (ev_call (E := E) (fun _ _ z => z) (ea_cons (ev_nth (i := 1) (nth_s nth_0) (ev_var rfl r_0)) (ea_cons ev_int (ea_one (ev_sub (ev_vI rfl r_1) ev_int)))))))))) hp (fun F4 H4 _ f4 fr4 hp => ?_) (fun F4 H4 _ f4 fr4 hp => ?_)
  · have r_0 := (yTup K (aCons tStr (aCons tInt (aCons tInt (aOne tInt))))).mono f4.f r_0
    try (with_reducible refine st_go ?_)
    exact s_ret0 hX fr4 ev_bl hp ret0
  · have r_0 := (yTup K (aCons tStr (aCons tInt (aCons tInt (aOne tInt))))).mono f4.f r_0
    refine st_next ?_
    try (with_reducible refine st_go ?_)
    exact s_ret0 hX fr4 (ev_andV (ev_call (E := E) (fun _ _ z => z) (ea_cons (ev_nth (i := 2) (nth_s (nth_s nth_0)) (ev_var rfl r_0)) (ea_cons (ev_nth (i := 1) (nth_s nth_0) (ev_var rfl r_0)) (ea_one (ev_sub (ev_vI rfl r_1) ev_int))))) (ev_call (E := E) (fun _ _ z => z) (ea_cons (ev_nth (i := 3) (nth_s (nth_s (nth_s nth_one))) (ev_var rfl r_0)) (ea_cons ev_int (ea_one ev_int))))) hp ret0
abbrev sp_are_in_order (K : PySem.W.Frag) : Sp := SpF K (aOne (yList (yTup K (aCons tStr (aCons tInt (aCons tInt (aOne tInt))))))) tBool (fun a => m_are_in_order a)
theorem sc_are_in_order : FnScope ["stations", "one", "other", "station"] ["stations"] (defScope s4) := ⟨rfl, rfl, rfl, by decide +kernel, rfl, by decide +kernel, by decide +kernel⟩
theorem ok_are_in_order (g : GF K mg) : CalX P w K mg base 1 "are_in_order" (sp_are_in_order K) := by
  obtain ⟨fd, F⟩ := g.fn_are_in_order
  refine ⟨_, fd, _, F.ok (CX := L2.CX P w) (k := 0) (sp := sp_are_in_order K) sc_are_in_order spF_len (fun cdv A outer s H0 vs Q E hr h => ?_), g.g_are_in_order, F.kp, (F.bindsN fun _ _ _ _ _ _ us hl => match us, hl with | [_], _ => rfl)⟩
  obtain ⟨F0, stations, s0, ra, hp⟩ := h
  obtain ⟨v_0, rfl, r_0⟩ := ra
  have r_0 : (yList (yTup K (aCons tStr (aCons tInt (aCons tInt (aOne tInt)))))).rep F0 v_0 stations := r_0
  have fr0 : Fr F0 H0 F0 H0 := Fr.refl s0
  refine ⟨_, (pss_cons (ps_if (pt_cmpR op_lt (pe_lenSetS (K := K) rfl rfl g.f_len g.f_set (pe_lc (g := gName 3) (own := [("station", 3)]) rfl sc_are_in_order.nd (pi_listK (K := K) rfl (pv 0)) (blkOk_by (N := ["stations", "one", "other", "station"]) (sc := (defScope Br.s4)) (by decide +kernel)) (fun _ _ _ _ _ => (pg_name (i := 3) sc_are_in_order.nd rfl (by first | exact Or.inl rfl | exact Or.inr rfl))) (fun _ _ _ _ _ => pts_nil) (fun _ _ _ _ _ => (pe_ix (kx_tup (K := K) rfl) (pv 3) pe_int (fun _ _ => rfl))))) (pe_callB (kc_len (K := K) rfl) (by rfl) g.f_len bt_len (pa_cons (pv 0) pa_nil)) (nomark _)) (pss_one (ps_ret pe_bl)) pss_nil)
      (pss_one (ps_ret (pe_callB (kc_all (K := K) rfl rfl) (by rfl) g.f_all bt_all (pa_cons (pe_lc (g := gTup K 2 (gCons (gName 1) (gCons (gName 2) gNil))) (own := [("one", 1), ("other", 2)]) rfl sc_are_in_order.nd (pi_zipK (K := K) rfl g.f_zip (pa_cons (pv 0) (pa_cons (pe_slice (ks_list (K := K) rfl) (pv 0) (po_some pe_int) po_none) pa_nil))) (blkOk_by (N := ["stations", "one", "other", "station"]) (sc := (defScope Br.s4)) (by decide +kernel)) (fun _ _ _ _ _ => (pg_tupK (K := K) rfl rfl (pgs_cons (pg_name (i := 1) sc_are_in_order.nd rfl (by first | exact Or.inl rfl | exact Or.inr rfl)) (pgs_cons (pg_name (i := 2) sc_are_in_order.nd rfl (by first | exact Or.inl rfl | exact Or.inr rfl)) pgs_nil)))) (fun _ _ _ _ _ => pts_nil) (fun _ _ _ _ _ => (pe_cmpR op_le (pe_op op_add (pe_ix (kx_tup (K := K) rfl) (pv 1) pe_int (fun _ _ => rfl)) pe_int) (pe_ix (kx_tup (K := K) rfl) (pv 2) pe_int (fun _ _ => rfl)) (nomark _)))) pa_nil))))), ?_⟩
  obtain ⟨XX, KK, hX, ret0, hp⟩ : ∃ (XX : Exn → Prop) (KK : Bool → Prop), (∀ e, XX e → ∀ (_ : L2.St) F' H', Fr F0 H0 F' H' → XS K E e H') ∧ (∀ (a : Bool) v F9 H9, Fr F0 H0 F9 H9 → tBool.rep F9 v a → Post (.ok a : R Bool) KK XX → Q v H9) ∧ Post (m_are_in_order stations) KK XX := ⟨(fun e => ∀ F' H', Fr F0 H0 F' H' → XS K E e H'), (fun b => ∀ v F' H', Fr F0 H0 F' H' → tBool.rep F' v b → Q v H'), fun e h _ => h, fun a v F9 H9 f r k => k v F9 H9 f r, hp⟩
  unfold m_are_in_order at hp
  try (with_reducible refine st_go ?_)
  refine st_seq ?_
  refine s_if hX fr0 (et_test (ev_lt (ev_lenSet (ev_wk (ev_of_l (el_comp (c := (fun (station1 : (Str × Int × Int × Int)) => .ok true)) (e := (fun (station1 : (Str × Int × Int × Int)) => .ok station1.1)) (ei_list (ev_wk (ev_var rfl r_0))) tg_name (fun σ2 F2 x p => by obtain ⟨w, rfl, _⟩ := p; rfl) (fun σ2 F2 H2 station1 f p => by obtain ⟨w2, rfl, r3⟩ := p; have r_0 := (yList (yTup K (aCons tStr (aCons tInt (aCons tInt (aOne tInt)))))).mono f.f r_0; exact et_is et_yes rfl) (fun σ2 F2 H2 station1 f p => by obtain ⟨w2, rfl, r3⟩ := p; have r_0 := (yList (yTup K (aCons tStr (aCons tInt (aCons tInt (aOne tInt)))))).mono f.f r_0; exact ev_is (ev_nth (i := 0) nth_0 (ev_var rfl r3)) rfl) (fun σ2 F2 F3 x s p => by obtain ⟨w, e, r⟩ := p; exact ⟨w, e, (yTup K (aCons tStr (aCons tInt (aCons tInt (aOne tInt))))).mono s r⟩))))) (ev_lenL (ev_wk (ev_var rfl r_0))))) hp (fun F106 H106 _ f106 fr106 hp => ?_) (fun F106 H106 _ f106 fr106 hp => ?_)
  · have r_0 := (yList (yTup K (aCons tStr (aCons tInt (aCons tInt (aOne tInt)))))).mono f106.f r_0
    try (with_reducible refine st_go ?_)
    exact s_ret0 hX fr106 ev_bl hp ret0
  · have r_0 := (yList (yTup K (aCons tStr (aCons tInt (aCons tInt (aOne tInt)))))).mono f106.f r_0
    refine st_next ?_
    try (with_reducible refine st_go ?_)
    exact s_ret0 hX fr106 (ev_all (ev_wk (ev_of_l (el_comp (c := (fun (x107 : ((Str × Int × Int × Int) × (Str × Int × Int × Int))) => .ok true)) (e := (fun (x107 : ((Str × Int × Int × Int) × (Str × Int × Int × Int))) => .ok (decide (x107.1.2.2.1 + 2 ≤ x107.2.2.1)))) (ei_zip (ev_wk (ev_var rfl r_0)) (ev_wk (ev_of_l (el_slice (ev_wk (ev_var rfl r_0)) (eo_some ev_int) eo_none)))) (tg_tup rfl (tgs_cons fun _ => tgs_one)) (fun σ2 F2 x p => by obtain ⟨w108, r110, ⟨w109, rfl, r111⟩⟩ := p; rfl) (fun σ2 F2 H2 x107 f p => by obtain ⟨w108, r110, ⟨w109, rfl, r111⟩⟩ := p; have r_0 := (yList (yTup K (aCons tStr (aCons tInt (aCons tInt (aOne tInt)))))).mono f.f r_0; exact et_is et_yes rfl) (fun σ2 F2 H2 x107 f p => by obtain ⟨w108, r110, ⟨w109, rfl, r111⟩⟩ := p; have r_0 := (yList (yTup K (aCons tStr (aCons tInt (aCons tInt (aOne tInt)))))).mono f.f r_0; exact ev_is (ev_le (ev_add (ev_nth (i := 2) (nth_s (nth_s nth_0)) (ev_var rfl r110)) ev_int) (ev_nth (i := 1) (nth_s nth_0) (ev_var rfl r111))) rfl) (fun σ2 F2 F3 x s p => by obtain ⟨w108, r110, ⟨w109, rfl, r111⟩⟩ := p; exact ⟨w108, (yTup K (aCons tStr (aCons tInt (aCons tInt (aOne tInt))))).mono s r110, ⟨w109, rfl, (yTup K (aCons tStr (aCons tInt (aCons tInt (aOne tInt))))).mono s r111⟩⟩))))) hp ret0
abbrev sp_Line___init__ (K : PySem.W.Frag) : Sp := SpI K "Line" ["end", "limits", "stations"] (aCons tInt (aCons (yList (yTup K (aCons tInt (aCons tInt (aOne tInt))))) (aOne (yList (yTup K (aCons tStr (aCons tInt (aCons tInt (aOne tInt))))))))) (aCons tInt (aCons (yTupL K (yTup K (aCons tInt (aCons tInt (aOne tInt))))) (aOne (yTupL K (yTup K (aCons tStr (aCons tInt (aCons tInt (aOne tInt))))))))) (fun a => m_Line___init__ a.1 a.2.1 a.2.2)
theorem sc_Line___init__ : FnScope ["self", "end", "limits", "stations", "one"] ["self", "end", "limits", "stations"] (defScope s6) := ⟨rfl, rfl, rfl, by decide +kernel, rfl, by decide +kernel, by decide +kernel⟩
theorem ok_Line___init__ (g : GF K mg) : MakX P w K mg base 3 "Line" (sp_Line___init__ K) := by
  obtain ⟨fd, F⟩ := g.fn_Line___init__
  refine ⟨_, fd, _, g.k_Line, F.ok (CX := L2.CX P w) (k := 2) (sp := sp_Line___init__ K) sc_Line___init__ spI_len (fun cdv A outer s H0 vs Q E hr h => ?_), g.g_Line, (F.bindsN fun _ _ _ _ _ _ us hl => match us, hl with | [_, _, _, _], _ => rfl)⟩
  obtain ⟨F0, Hb, ⟨end_, limits, stations⟩, v_0, ws, rfl, fa, s0, o0, ra, hp⟩ := h
  obtain ⟨v_1, _, rfl, r_1, ⟨v_2, _, rfl, r_2, ⟨v_3, rfl, r_3⟩⟩⟩ := ra
  have r_1 : tInt.rep F0 v_1 end_ := r_1
  have r_2 : (yList (yTup K (aCons tInt (aCons tInt (aOne tInt))))).rep F0 v_2 limits := r_2
  have r_3 : (yList (yTup K (aCons tStr (aCons tInt (aCons tInt (aOne tInt)))))).rep F0 v_3 stations := r_3
  have fr0 : Fr F0 Hb F0 H0 := fa
  refine ⟨_, (pss_cons (ps_if (pt_not (pt_val (pe_cxK (K := K) rfl (ok_is_among g) hr (by decide) (E := E) (passes_call (takes_of rfl rfl rfl rfl) (fun _ _ _ _ h => h)) (pa_cons (pv 1) (pa_cons pe_int (pa_cons (pe_gi g.i_MOST_NUMBER) pa_nil)))))) (pss_one (ps_raise rfl (takes_of rfl rfl rfl rfl) (pmk_own PySem.F.excBase_ValueError g.e_BadLine.1 g.g_BadLine g.e_BadLine.2.1 (raises_own g.e_BadLine.2.2.1 g.e_BadLine.2.2.2) rfl))) pss_nil)
      (pss_cons (ps_if (PW.pt (pw_or (pt_not (pt_val (pe_cxK (K := K) rfl (ok_is_list_v0 g) hr (by decide) (E := E) (passes_call (takes_of rfl rfl rfl rfl) (fun _ _ _ _ h => h)) (pa_cons (pv 2) (pa_cons (pe_gi g.i_MOST_LIMITS) pa_nil))))) (pw_or1 (pt_not (pt_val (pe_callB (kc_all (K := K) rfl rfl) (by rfl) g.f_all bt_all (pa_cons (pe_lc (g := gName 4) (own := [("one", 4)]) rfl sc_Line___init__.nd (pi_listK (K := K) rfl (pv 2)) (blkOk_by (N := ["self", "end", "limits", "stations", "one"]) (sc := (defScope Br.s6)) (by decide +kernel)) (fun _ _ _ _ _ => (pg_name (i := 4) sc_Line___init__.nd rfl (by first | exact Or.inl rfl | exact Or.inr rfl))) (fun _ _ _ _ _ => pts_nil) (fun _ _ _ _ _ => (pe_cxK (K := K) rfl (ok_is_limit g) hr (by decide) (E := E0) passL (pa_cons (pv 4) (pa_cons (pv 1) pa_nil))))) pa_nil))))))) (pss_one (ps_raise rfl (takes_of rfl rfl rfl rfl) (pmk_own PySem.F.excBase_ValueError g.e_BadLine.1 g.g_BadLine g.e_BadLine.2.1 (raises_own g.e_BadLine.2.2.1 g.e_BadLine.2.2.2) rfl))) pss_nil)
      (pss_cons (ps_if (PW.pt (pw_or (pt_not (pt_val (pe_cxK (K := K) rfl (ok_is_list_v1 g) hr (by decide) (E := E) (passes_call (takes_of rfl rfl rfl rfl) (fun _ _ _ _ h => h)) (pa_cons (pv 3) (pa_cons (pe_gi g.i_MOST_STATIONS) pa_nil))))) (pw_or1 (pt_not (pt_val (pe_callB (kc_all (K := K) rfl rfl) (by rfl) g.f_all bt_all (pa_cons (pe_lc (g := gName 4) (own := [("one", 4)]) rfl sc_Line___init__.nd (pi_listK (K := K) rfl (pv 3)) (blkOk_by (N := ["self", "end", "limits", "stations", "one"]) (sc := (defScope Br.s6)) (by decide +kernel)) (fun _ _ _ _ _ => (pg_name (i := 4) sc_Line___init__.nd rfl (by first | exact Or.inl rfl | exact Or.inr rfl))) (fun _ _ _ _ _ => pts_nil) (fun _ _ _ _ _ => (pe_cxK (K := K) rfl (ok_is_station g) hr (by decide) (E := E0) passL (pa_cons (pv 4) (pa_cons (pv 1) pa_nil))))) pa_nil))))))) (pss_one (ps_raise rfl (takes_of rfl rfl rfl rfl) (pmk_own PySem.F.excBase_ValueError g.e_BadLine.1 g.g_BadLine g.e_BadLine.2.1 (raises_own g.e_BadLine.2.2.1 g.e_BadLine.2.2.2) rfl))) pss_nil)
      (pss_cons (ps_if (pt_not (pt_val (pe_cxK (K := K) rfl (ok_are_in_order g) hr (by decide) (E := E) (passes_call (takes_of rfl rfl rfl rfl) (fun _ _ _ _ h => h)) (pa_cons (pv 3) pa_nil)))) (pss_one (ps_raise rfl (takes_of rfl rfl rfl rfl) (pmk_own PySem.F.excBase_ValueError g.e_BadLine.1 g.g_BadLine g.e_BadLine.2.1 (raises_own g.e_BadLine.2.2.1 g.e_BadLine.2.2.2) rfl))) pss_nil)
      (pss_cons (ps_fld (pv 0) (pv 1) rfl)
      (pss_cons (ps_fld (pv 0) (pe_callTy (kc_tuple (K := K) rfl) (by rfl) g.f_tuple bt_tuple (pa_cons (pv 2) pa_nil)) rfl)
      (pss_one (ps_fld (pv 0) (pe_callTy (kc_tuple (K := K) rfl) (by rfl) g.f_tuple bt_tuple (pa_cons (pv 3) pa_nil)) rfl)))))))), ?_⟩
  obtain ⟨XX, KK, hX, ret0, hp⟩ : ∃ (XX : Exn → Prop) (KK : (Int × (List (Int × Int × Int)) × (List (Str × Int × Int × Int))) → Prop), (∀ e, XX e → ∀ (_ : L2.St) F' H', Fr F0 Hb F' H' → XS K E e H') ∧ (∀ us F9 H9 (b9 : (Int × (List (Int × Int × Int)) × (List (Str × Int × Int × Int)))), Fr F0 Hb F9 H9 → Mkg K "Line" Hb F9 H9 v_0 ["end", "limits", "stations"] us → (aCons tInt (aCons (yTupL K (yTup K (aCons tInt (aCons tInt (aOne tInt))))) (aOne (yTupL K (yTup K (aCons tStr (aCons tInt (aCons tInt (aOne tInt))))))))).rep F9 us b9 → Post (.ok b9 : R (Int × (List (Int × Int × Int)) × (List (Str × Int × Int × Int)))) KK XX → Q .non H9) ∧ Post (m_Line___init__ end_ limits stations) KK XX := ⟨(fun e => ∀ F' H', Fr F0 Hb F' H' → XS K E e H'), (fun b => ∀ us F' H', Fr F0 Hb F' H' → Mkg K "Line" Hb F' H' v_0 ["end", "limits", "stations"] us → (aCons tInt (aCons (yTupL K (yTup K (aCons tInt (aCons tInt (aOne tInt))))) (aOne (yTupL K (yTup K (aCons tStr (aCons tInt (aCons tInt (aOne tInt))))))))).rep F' us b → Q .non H'), fun e h _ => h, fun us F9 H9 b9 f o r k => k us F9 H9 f o r, hp⟩
  unfold m_Line___init__ at hp
  try (with_reducible refine st_go ?_)
  refine st_seq ?_
  refine s_if hX fr0 (et_not (et_val (ev_call (E := E) (fun _ _ z => z) (ea_cons (ev_vI rfl r_1) (ea_cons ev_int (ea_one ev_int)))))) hp (fun F2 H2 _ f2 fr2 hp => ?_) (fun F2 H2 _ f2 fr2 hp => ?_)
  · have o0 := o0.mono f2
    have r_2 := (yList (yTup K (aCons tInt (aCons tInt (aOne tInt))))).mono f2.f r_2
    have r_3 := (yList (yTup K (aCons tStr (aCons tInt (aCons tInt (aOne tInt)))))).mono f2.f r_3
    try (with_reducible refine st_go ?_)
    exact hX _ hp [] _ _ fr2
  · have o0 := o0.mono f2
    have r_2 := (yList (yTup K (aCons tInt (aCons tInt (aOne tInt))))).mono f2.f r_2
    have r_3 := (yList (yTup K (aCons tStr (aCons tInt (aCons tInt (aOne tInt)))))).mono f2.f r_3
    refine st_next ?_
    try (with_reducible refine st_go ?_)
    refine st_seq ?_
    refine s_if hX fr2 (et_or (et_not (et_val (ev_call (E := E) (fun _ _ z => z) (ea_cons (ev_var rfl r_2) (ea_one ev_int))))) (et_not (et_val (ev_all (ev_wk (ev_of_l (el_comp (c := (fun (one4 : (Int × Int × Int)) => .ok true)) (e := (fun (one4 : (Int × Int × Int)) => m_is_limit one4 end_)) (ei_list (ev_wk (ev_var rfl r_2))) tg_name (fun σ2 F2 x p => by obtain ⟨w, rfl, _⟩ := p; rfl) (fun σ2 F2 H2 one4 f p => by obtain ⟨w5, rfl, r6⟩ := p; have r_2 := (yList (yTup K (aCons tInt (aCons tInt (aOne tInt))))).mono f.f r_2; exact et_is et_yes rfl) (fun σ2 F2 H2 one4 f p => by obtain ⟨w5, rfl, r6⟩ := p; have r_2 := (yList (yTup K (aCons tInt (aCons tInt (aOne tInt))))).mono f.f r_2; exact ev_is (ev_call (E := E0) (fun _ _ z => z.elim) (ea_cons (ev_var rfl r6) (ea_one (ev_vI rfl r_1)))) rfl) (fun σ2 F2 F3 x s p => by obtain ⟨w, e, r⟩ := p; exact ⟨w, e, (yTup K (aCons tInt (aCons tInt (aOne tInt)))).mono s r⟩)))))))) hp (fun F110 H110 _ f110 fr110 hp => ?_) (fun F110 H110 _ f110 fr110 hp => ?_)
    · have o0 := o0.mono f110
      have r_2 := (yList (yTup K (aCons tInt (aCons tInt (aOne tInt))))).mono f110.f r_2
      have r_3 := (yList (yTup K (aCons tStr (aCons tInt (aCons tInt (aOne tInt)))))).mono f110.f r_3
      try (with_reducible refine st_go ?_)
      exact hX _ hp [] _ _ fr110
    · have o0 := o0.mono f110
      have r_2 := (yList (yTup K (aCons tInt (aCons tInt (aOne tInt))))).mono f110.f r_2
      have r_3 := (yList (yTup K (aCons tStr (aCons tInt (aCons tInt (aOne tInt)))))).mono f110.f r_3
      refine st_next ?_
      try (with_reducible refine st_go ?_)
      refine st_seq ?_
      refine s_if hX fr110 (et_or (et_not (et_val (ev_call (E := E) (fun _ _ z => z) (ea_cons (ev_var rfl r_3) (ea_one ev_int))))) (et_not (et_val (ev_all (ev_wk (ev_of_l (el_comp (c := (fun (one112 : (Str × Int × Int × Int)) => .ok true)) (e := (fun (one112 : (Str × Int × Int × Int)) => m_is_station one112 end_)) (ei_list (ev_wk (ev_var rfl r_3))) tg_name (fun σ2 F2 x p => by obtain ⟨w, rfl, _⟩ := p; rfl) (fun σ2 F2 H2 one112 f p => by obtain ⟨w113, rfl, r114⟩ := p; have r_3 := (yList (yTup K (aCons tStr (aCons tInt (aCons tInt (aOne tInt)))))).mono f.f r_3; exact et_is et_yes rfl) (fun σ2 F2 H2 one112 f p => by obtain ⟨w113, rfl, r114⟩ := p; have r_3 := (yList (yTup K (aCons tStr (aCons tInt (aCons tInt (aOne tInt)))))).mono f.f r_3; exact ev_is (ev_call (E := E0) (fun _ _ z => z.elim) (ea_cons (ev_var rfl r114) (ea_one (ev_vI rfl r_1)))) rfl) (fun σ2 F2 F3 x s p => by obtain ⟨w, e, r⟩ := p; exact ⟨w, e, (yTup K (aCons tStr (aCons tInt (aCons tInt (aOne tInt))))).mono s r⟩)))))))) hp (fun F218 H218 _ f218 fr218 hp => ?_) (fun F218 H218 _ f218 fr218 hp => ?_)
      · have o0 := o0.mono f218
        have r_2 := (yList (yTup K (aCons tInt (aCons tInt (aOne tInt))))).mono f218.f r_2
        have r_3 := (yList (yTup K (aCons tStr (aCons tInt (aCons tInt (aOne tInt)))))).mono f218.f r_3
        try (with_reducible refine st_go ?_)
        exact hX _ hp [] _ _ fr218
      · have o0 := o0.mono f218
        have r_2 := (yList (yTup K (aCons tInt (aCons tInt (aOne tInt))))).mono f218.f r_2
        have r_3 := (yList (yTup K (aCons tStr (aCons tInt (aCons tInt (aOne tInt)))))).mono f218.f r_3
        refine st_next ?_
        try (with_reducible refine st_go ?_)
        refine st_seq ?_
        refine s_if hX fr218 (et_not (et_val (ev_call (E := E) (fun _ _ z => z) (ea_one (ev_var rfl r_3))))) hp (fun F220 H220 _ f220 fr220 hp => ?_) (fun F220 H220 _ f220 fr220 hp => ?_)
        · have o0 := o0.mono f220
          have r_2 := (yList (yTup K (aCons tInt (aCons tInt (aOne tInt))))).mono f220.f r_2
          have r_3 := (yList (yTup K (aCons tStr (aCons tInt (aCons tInt (aOne tInt)))))).mono f220.f r_3
          try (with_reducible refine st_go ?_)
          exact hX _ hp [] _ _ fr220
        · have o0 := o0.mono f220
          have r_2 := (yList (yTup K (aCons tInt (aCons tInt (aOne tInt))))).mono f220.f r_2
          have r_3 := (yList (yTup K (aCons tStr (aCons tInt (aCons tInt (aOne tInt)))))).mono f220.f r_3
          refine st_next ?_
          try (with_reducible refine st_go ?_)
          refine st_seq ?_
          refine s_fldI hX fr220 rfl o0 g.c_Line g.n_Line_end (by decide +kernel) (by decide) (ev_vI rfl r_1) hp (fun x224 v222 F221 H221 sm226 fr221 r223 o225 hp => ?_)
          have r_2 := (yList (yTup K (aCons tInt (aCons tInt (aOne tInt))))).mono sm226 r_2
          have r_3 := (yList (yTup K (aCons tStr (aCons tInt (aCons tInt (aOne tInt)))))).mono sm226 r_3
          try (with_reducible refine st_go ?_)
          refine st_seq ?_
          refine s_fldI hX fr221 rfl o225 g.c_Line g.n_Line_limits (by decide +kernel) (by decide) (ev_tupleOf (ev_wk (ev_var rfl r_2))) hp (fun x230 v228 F227 H227 sm232 fr227 r229 o231 hp => ?_)
          have r_2 := (yList (yTup K (aCons tInt (aCons tInt (aOne tInt))))).mono sm232 r_2
          have r_3 := (yList (yTup K (aCons tStr (aCons tInt (aCons tInt (aOne tInt)))))).mono sm232 r_3
          try (with_reducible refine st_go ?_)
          refine s_fldI hX fr227 rfl o231 g.c_Line g.n_Line_stations (by decide +kernel) (by decide) (ev_tupleOf (ev_wk (ev_var rfl r_3))) hp (fun x236 v234 F233 H233 sm238 fr233 r235 o237 hp => ?_)
          have r_2 := (yList (yTup K (aCons tInt (aCons tInt (aOne tInt))))).mono sm238 r_2
          have r_3 := (yList (yTup K (aCons tStr (aCons tInt (aCons tInt (aOne tInt)))))).mono sm238 r_3
          have r229 := (yTupL K (yTup K (aCons tInt (aCons tInt (aOne tInt))))).mono sm238 r229
          exact ret0 _ _ _ (x224, x230, x236) fr233 o237 ⟨_, _, rfl, r223, ⟨_, _, rfl, r229, ⟨_, rfl, r235⟩⟩⟩ hp
abbrev sp_Line_text (K : PySem.W.Frag) : Sp := SpF K (aCons (t_Line K) aNil) tStr (fun a => m_Line_text a.1)
theorem sc_Line_text : FnScope ["self", "rows", "one", "number"] ["self"] (defScope s10) := ⟨rfl, rfl, rfl, by decide +kernel, rfl, by decide +kernel, by decide +kernel⟩
theorem ok_Line_text (g : GF K mg) : MetX P w K mg base 1 "Line" "text" (sp_Line_text K) := by
  obtain ⟨fd, F⟩ := g.fn_Line_text
  refine ⟨_, fd, _, g.c_Line, g.m_Line_text, F.ok (CX := L2.CX P w) (k := 0) (sp := sp_Line_text K) sc_Line_text spF_len (fun cdv A outer s H0 vs Q E hr h => ?_), (F.bindsN fun _ _ _ _ _ _ us hl => match us, hl with | [_], _ => rfl)⟩
  obtain ⟨F0, ⟨self, _⟩, s0, ra, hp⟩ := h
  obtain ⟨v_0, _, rfl, r_0, rfl⟩ := ra
  have r_0 : (t_Line K).rep F0 v_0 self := r_0
  have fr0 : Fr F0 H0 F0 H0 := Fr.refl s0
  refine ⟨_, (pss_cons (ps_set (i := 1) sc_Line_text.nd rfl (by first | exact Or.inl rfl | exact Or.inr rfl) (pe_lst (pa_cons (pe_op ko_addS pe_str (pe_callTy kc_strI (by rfl) g.f_str bt_str (pa_cons (pe_fldK (K := K) rfl (pv 0)) pa_nil))) pa_nil)))
      (pss_cons (ps_expr (pe_bm PySem.F.plainAttrs_list PySem.F.slot_list_extend PySem.F.type_list_extend mt_extend (pv 1) (pa_cons (pe_lc (g := gName 2) (own := [("one", 2)]) rfl sc_Line_text.nd (pi_tupK (K := K) rfl (pe_fldK (K := K) rfl (pv 0))) (blkOk_by (N := ["self", "rows", "one", "number"]) (sc := (defScope Br.s10)) (by decide +kernel)) (fun _ _ _ _ _ => (pg_name (i := 2) sc_Line_text.nd rfl (by first | exact Or.inl rfl | exact Or.inr rfl))) (fun _ _ _ _ _ => pts_nil) (fun _ _ _ _ _ => (pe_m1 PySem.F.slot_str_join PySem.F.type_str_join (mt_joinK (K := K) rfl) pe_str (pe_op op_cat (pe_lst (pa_cons pe_str pa_nil)) (pe_lc (g := gName 3) (own := [("number", 3)]) rfl sc_Line_text.nd (pi_tupK (K := K) rfl (pv 2)) (blkOk_by (by kernel_rfl)) (fun _ _ _ _ _ => (pg_name (i := 3) sc_Line_text.nd rfl (by first | exact Or.inl rfl | exact Or.inr rfl))) (fun _ _ _ _ _ => pts_nil) (fun _ _ _ _ _ => (pe_callTy kc_strI (by rfl) g.f_str bt_str (pa_cons (pv 3) pa_nil)))))))) pa_nil)))
      (pss_cons (ps_expr (pe_bm PySem.F.plainAttrs_list PySem.F.slot_list_extend PySem.F.type_list_extend mt_extend (pv 1) (pa_cons (pe_lc (g := gName 2) (own := [("one", 2)]) rfl sc_Line_text.nd (pi_tupK (K := K) rfl (pe_fldK (K := K) rfl (pv 0))) (blkOk_by (N := ["self", "rows", "one", "number"]) (sc := (defScope Br.s10)) (by decide +kernel)) (fun _ _ _ _ _ => (pg_name (i := 2) sc_Line_text.nd rfl (by first | exact Or.inl rfl | exact Or.inr rfl))) (fun _ _ _ _ _ => pts_nil) (fun _ _ _ _ _ => (pe_m1 PySem.F.slot_str_join PySem.F.type_str_join (mt_joinK (K := K) rfl) pe_str (pe_op op_cat (pe_lst (pa_cons pe_str (pa_cons (pe_ix (kx_tup (K := K) rfl) (pv 2) pe_int (fun _ _ => rfl)) pa_nil))) (pe_lc (g := gName 3) (own := [("number", 3)]) rfl sc_Line_text.nd (pi_tupK (K := K) rfl (pe_slice (ks_tup (K := K) rfl) (pv 2) (po_some pe_int) po_none)) (blkOk_by (by kernel_rfl)) (fun _ _ _ _ _ => (pg_name (i := 3) sc_Line_text.nd rfl (by first | exact Or.inl rfl | exact Or.inr rfl))) (fun _ _ _ _ _ => pts_nil) (fun _ _ _ _ _ => (pe_callTy kc_strI (by rfl) g.f_str bt_str (pa_cons (pv 3) pa_nil)))))))) pa_nil)))
      (pss_one (ps_ret (pe_m1 PySem.F.slot_str_join PySem.F.type_str_join (mt_joinK (K := K) rfl) pe_str (pv 1))))))), ?_⟩
  obtain ⟨XX, KK, hX, ret0, hp⟩ : ∃ (XX : Exn → Prop) (KK : Str → Prop), (∀ e, XX e → ∀ (_ : L2.St) F' H', Fr F0 H0 F' H' → XS K E e H') ∧ (∀ (a : Str) v F9 H9, Fr F0 H0 F9 H9 → tStr.rep F9 v a → Post (.ok a : R Str) KK XX → Q v H9) ∧ Post (m_Line_text self) KK XX := ⟨(fun e => ∀ F' H', Fr F0 H0 F' H' → XS K E e H'), (fun b => ∀ v F' H', Fr F0 H0 F' H' → tStr.rep F' v b → Q v H'), fun e h _ => h, fun a v F9 H9 f r k => k v F9 H9 f r, hp⟩
  unfold m_Line_text at hp
  try (with_reducible refine st_go ?_)
  refine st_seq ?_
  refine s_asgL hX fr0 (el_lst (by decide) (er_cons (ev_addS ev_str (ev_strI (ev_fld g.c_Line g.n_Line_end (by decide +kernel : List.findIdx? _ _ = some 0) nth_0 (ev_var rfl r_0)))) er_nil)) hp (fun rows6 v4 F3 H3 _ f3 fr3 r5 nw7 hp => ?_)
  have r_0 := (t_Line K).mono f3.f r_0
  try (with_reducible refine st_go ?_)
  refine st_seq ?_
  refine s_ext hX fr3 rfl r5 (ev_of_l (el_comp (c := (fun (one8 : (Int × Int × Int)) => .ok true)) (e := (fun (one8 : (Int × Int × Int)) => bd (bd (compR (fun (number111 : Int) => .ok true) (fun (number111 : Int) => strIR number111) [one8.1, one8.2.1, one8.2.2]) fun x214 => catR [("limit" : Str)] x214) fun x215 => joinSR (" " : Str) x215)) (ei_tupL (ev_fld g.c_Line g.n_Line_limits (by decide +kernel : List.findIdx? _ _ = some 1) (nth_s nth_0) (ev_var rfl r_0))) tg_name (fun σ2 F2 x p => by obtain ⟨w, rfl, _⟩ := p; rfl) (fun σ2 F2 H2 one8 f p => by obtain ⟨w9, rfl, r10⟩ := p; have r_0 := (t_Line K).mono f.f r_0; exact et_is et_yes rfl) (fun σ2 F2 H2 one8 f p => by obtain ⟨w9, rfl, r10⟩ := p; have r_0 := (t_Line K).mono f.f r_0; exact ev_is (ev_join ev_str (ev_wk (ev_of_l (el_cat (ev_of_l (el_lst (by decide) (er_cons ev_str er_nil))) (ev_of_l (el_comp (c := (fun (number111 : Int) => .ok true)) (e := (fun (number111 : Int) => strIR number111)) (ei_tupL (ev_tupAs (at_cons (at_cons at_one)) (ev_var rfl r10))) tg_name (fun σ2 F2 x p => by obtain ⟨w, rfl, _⟩ := p; rfl) (fun σ2 F2 H2 number111 f p => by obtain ⟨w112, rfl, r113⟩ := p; have r10 := (yTup K (aCons tInt (aCons tInt (aOne tInt)))).mono f.f r10; exact et_is et_yes rfl) (fun σ2 F2 H2 number111 f p => by obtain ⟨w112, rfl, r113⟩ := p; have r10 := (yTup K (aCons tInt (aCons tInt (aOne tInt)))).mono f.f r10; exact ev_is (ev_strI (ev_vI rfl r113)) rfl) (fun σ2 F2 F3 x s p => by obtain ⟨w, e, r⟩ := p; exact ⟨w, e, tInt.mono s r⟩))))))) rfl) (fun σ2 F2 F3 x s p => by obtain ⟨w, e, r⟩ := p; exact ⟨w, e, (yTup K (aCons tInt (aCons tInt (aOne tInt)))).mono s r⟩))) hp (fun rows221 F216 H216 sm218 fr216 r217 kp219 hp => ?_)
  have r_0 := (t_Line K).mono sm218 r_0
  try (with_reducible refine st_go ?_)
  refine st_seq ?_
  refine s_ext hX fr216 rfl r217 (ev_of_l (el_comp (c := (fun (one222 : (Str × Int × Int × Int)) => .ok true)) (e := (fun (one222 : (Str × Int × Int × Int)) => bd (bd (compR (fun (number325 : Int) => .ok true) (fun (number325 : Int) => strIR number325) [one222.2.1, one222.2.2.1, one222.2.2.2]) fun x428 => catR [("station" : Str), one222.1] x428) fun x429 => joinSR (" " : Str) x429)) (ei_tupL (ev_fld g.c_Line g.n_Line_stations (by decide +kernel : List.findIdx? _ _ = some 2) (nth_s (nth_s nth_one)) (ev_var rfl r_0))) tg_name (fun σ2 F2 x p => by obtain ⟨w, rfl, _⟩ := p; rfl) (fun σ2 F2 H2 one222 f p => by obtain ⟨w223, rfl, r224⟩ := p; have r_0 := (t_Line K).mono f.f r_0; exact et_is et_yes rfl) (fun σ2 F2 H2 one222 f p => by obtain ⟨w223, rfl, r224⟩ := p; have r_0 := (t_Line K).mono f.f r_0; exact ev_is (ev_join ev_str (ev_wk (ev_of_l (el_cat (ev_of_l (el_lst (by decide) (er_cons ev_str (er_cons (ev_nth (i := 0) nth_0 (ev_var rfl r224)) er_nil)))) (ev_of_l (el_comp (c := (fun (number325 : Int) => .ok true)) (e := (fun (number325 : Int) => strIR number325)) (ei_tupL (ev_tupAs (at_cons (at_cons at_one)) (ev_tupTail (by decide) (ev_var rfl r224)))) tg_name (fun σ2 F2 x p => by obtain ⟨w, rfl, _⟩ := p; rfl) (fun σ2 F2 H2 number325 f p => by obtain ⟨w326, rfl, r327⟩ := p; have r224 := (yTup K (aCons tStr (aCons tInt (aCons tInt (aOne tInt))))).mono f.f r224; exact et_is et_yes rfl) (fun σ2 F2 H2 number325 f p => by obtain ⟨w326, rfl, r327⟩ := p; have r224 := (yTup K (aCons tStr (aCons tInt (aCons tInt (aOne tInt))))).mono f.f r224; exact ev_is (ev_strI (ev_vI rfl r327)) rfl) (fun σ2 F2 F3 x s p => by obtain ⟨w, e, r⟩ := p; exact ⟨w, e, tInt.mono s r⟩))))))) rfl) (fun σ2 F2 F3 x s p => by obtain ⟨w, e, r⟩ := p; exact ⟨w, e, (yTup K (aCons tStr (aCons tInt (aCons tInt (aOne tInt))))).mono s r⟩))) hp (fun rows435 F430 H430 sm432 fr430 r431 kp433 hp => ?_)
  have r_0 := (t_Line K).mono sm432 r_0
  try (with_reducible refine st_go ?_)
  obtain ⟨F436, fr437, sm438, r439, kp440⟩ := r431.freeze fr430
  have r_0 := (t_Line K).mono sm438 r_0
  exact s_ret0 hX fr437 (ev_join ev_str (ev_wk (ev_var rfl r439))) hp ret0
abbrev sp__law_text (K : PySem.W.Frag) : Sp := SpF K (aOne (yTup K (aCons tInt (aCons (yList (yTup K (aCons tInt (aCons tInt (aOne tInt))))) (aOne (yList (yTup K (aCons tStr (aCons tInt (aCons tInt (aOne tInt))))))))))) tStr (fun a => m__law_text a)
theorem sc__law_text : FnScope ["_law_told", "_law_end", "_law_limits", "_law_stations", "_law_rows", "_law_first", "_law_last", "_law_most", "_law_name", "_law_tracks"] ["_law_told"] (defScope s15) := ⟨rfl, rfl, rfl, by decide +kernel, rfl, by decide +kernel, by decide +kernel⟩
theorem ok__law_text (g : GF K mg) : CalX P w K mg base 1 "_law_text" (sp__law_text K) := by
  obtain ⟨fd, F⟩ := g.fn__law_text
  refine ⟨_, fd, _, F.ok (CX := L2.CX P w) (k := 0) (sp := sp__law_text K) sc__law_text spF_len (fun cdv A outer s H0 vs Q E hr h => ?_), g.g__law_text, F.kp, (F.bindsN fun _ _ _ _ _ _ us hl => match us, hl with | [_], _ => rfl)⟩
  obtain ⟨F0, told, s0, ra, hp⟩ := h
  obtain ⟨v_0, rfl, r_0⟩ := ra
  have r_0 : (yTup K (aCons tInt (aCons (yList (yTup K (aCons tInt (aCons tInt (aOne tInt))))) (aOne (yList (yTup K (aCons tStr (aCons tInt (aCons tInt (aOne tInt)))))))))).rep F0 v_0 told := r_0
  have fr0 : Fr F0 H0 F0 H0 := Fr.refl s0
  refine ⟨_, (pss_cons (ps_asg (pv 0) (pg_tupK (K := K) rfl rfl (pgs_cons (pg_name (i := 1) sc__law_text.nd rfl (by first | exact Or.inl rfl | exact Or.inr rfl)) (pgs_cons (pg_name (i := 2) sc__law_text.nd rfl (by first | exact Or.inl rfl | exact Or.inr rfl)) (pgs_cons (pg_name (i := 3) sc__law_text.nd rfl (by first | exact Or.inl rfl | exact Or.inr rfl)) pgs_nil)))))
      (pss_cons (ps_set (i := 4) sc__law_text.nd rfl (by first | exact Or.inl rfl | exact Or.inr rfl) (pe_lst (pa_cons (pe_op ko_addS pe_str (pe_callTy kc_strI (by rfl) g.f_str bt_str (pa_cons (pv 1) pa_nil))) pa_nil)))
      (pss_cons (ps_for (passes_of rfl) rfl (pi_listK (K := K) rfl (pv 2)) (pg_tupK (K := K) rfl rfl (pgs_cons (pg_name (i := 5) sc__law_text.nd rfl (by first | exact Or.inl rfl | exact Or.inr rfl)) (pgs_cons (pg_name (i := 6) sc__law_text.nd rfl (by first | exact Or.inl rfl | exact Or.inr rfl)) (pgs_cons (pg_name (i := 7) sc__law_text.nd rfl (by first | exact Or.inl rfl | exact Or.inr rfl)) pgs_nil)))) (pss_one (ps_expr (pe_bm PySem.F.plainAttrs_list PySem.F.slot_list_append PySem.F.type_list_append mt_append (pv 4) (pa_cons (pe_op ko_addS (pe_op ko_addS (pe_op ko_addS (pe_op ko_addS (pe_op ko_addS pe_str (pe_callTy kc_strI (by rfl) g.f_str bt_str (pa_cons (pv 5) pa_nil))) pe_str) (pe_callTy kc_strI (by rfl) g.f_str bt_str (pa_cons (pv 6) pa_nil))) pe_str) (pe_callTy kc_strI (by rfl) g.f_str bt_str (pa_cons (pv 7) pa_nil))) pa_nil)))))
      (pss_cons (ps_for (passes_of rfl) rfl (pi_listK (K := K) rfl (pv 3)) (pg_tupK (K := K) rfl rfl (pgs_cons (pg_name (i := 8) sc__law_text.nd rfl (by first | exact Or.inl rfl | exact Or.inr rfl)) (pgs_cons (pg_name (i := 5) sc__law_text.nd rfl (by first | exact Or.inl rfl | exact Or.inr rfl)) (pgs_cons (pg_name (i := 6) sc__law_text.nd rfl (by first | exact Or.inl rfl | exact Or.inr rfl)) (pgs_cons (pg_name (i := 9) sc__law_text.nd rfl (by first | exact Or.inl rfl | exact Or.inr rfl)) pgs_nil))))) (pss_one (ps_expr (pe_bm PySem.F.plainAttrs_list PySem.F.slot_list_append PySem.F.type_list_append mt_append (pv 4) (pa_cons (pe_op ko_addS (pe_op ko_addS (pe_op ko_addS (pe_op ko_addS (pe_op ko_addS (pe_op ko_addS (pe_op ko_addS pe_str (pv 8)) pe_str) (pe_callTy kc_strI (by rfl) g.f_str bt_str (pa_cons (pv 5) pa_nil))) pe_str) (pe_callTy kc_strI (by rfl) g.f_str bt_str (pa_cons (pv 6) pa_nil))) pe_str) (pe_callTy kc_strI (by rfl) g.f_str bt_str (pa_cons (pv 9) pa_nil))) pa_nil)))))
      (pss_one (ps_ret (pe_m1 PySem.F.slot_str_join PySem.F.type_str_join (mt_joinK (K := K) rfl) pe_str (pv 4)))))))), ?_⟩
  obtain ⟨XX, KK, hX, ret0, hp⟩ : ∃ (XX : Exn → Prop) (KK : Str → Prop), (∀ e, XX e → ∀ (_ : L2.St) F' H', Fr F0 H0 F' H' → XS K E e H') ∧ (∀ (a : Str) v F9 H9, Fr F0 H0 F9 H9 → tStr.rep F9 v a → Post (.ok a : R Str) KK XX → Q v H9) ∧ Post (m__law_text told) KK XX := ⟨(fun e => ∀ F' H', Fr F0 H0 F' H' → XS K E e H'), (fun b => ∀ v F' H', Fr F0 H0 F' H' → tStr.rep F' v b → Q v H'), fun e h _ => h, fun a v F9 H9 f r k => k v F9 H9 f r, hp⟩
  unfold m__law_text at hp
  try (with_reducible refine st_go ?_)
  refine st_seq ?_
  refine s_asgT hX fr0 (ev_var rfl r_0) (tg_tup rfl (tgs_cons fun _ => (tgs_cons fun _ => tgs_one))) hp (fun t11 σ2 F1 H1 _ f1 fr1 p12 hp => ?_)
  obtain ⟨v2, r5, ⟨v3, r6, ⟨v4, rfl, r7⟩⟩⟩ := p12
  have r5 : tInt.rep F1 v2 t11.1 := r5
  have r6 : (yList (yTup K (aCons tInt (aCons tInt (aOne tInt))))).rep F1 v3 t11.2.1 := r6
  have r7 : (yList (yTup K (aCons tStr (aCons tInt (aCons tInt (aOne tInt)))))).rep F1 v4 t11.2.2 := r7
  have r_0 := (yTup K (aCons tInt (aCons (yList (yTup K (aCons tInt (aCons tInt (aOne tInt))))) (aOne (yList (yTup K (aCons tStr (aCons tInt (aCons tInt (aOne tInt)))))))))).mono f1.f r_0
  try (with_reducible refine st_go ?_)
  refine st_seq ?_
  refine s_asgL hX fr1 (el_lst (by decide) (er_cons (ev_addS ev_str (ev_strI (ev_vI rfl r5))) er_nil)) hp (fun rows18 v16 F15 H15 _ f15 fr15 r17 nw19 hp => ?_)
  have r_0 := (yTup K (aCons tInt (aCons (yList (yTup K (aCons tInt (aCons tInt (aOne tInt))))) (aOne (yList (yTup K (aCons tStr (aCons tInt (aCons tInt (aOne tInt)))))))))).mono f15.f r_0
  have r6 := (yList (yTup K (aCons tInt (aCons tInt (aOne tInt))))).mono f15.f r6
  have r7 := (yList (yTup K (aCons tStr (aCons tInt (aCons tInt (aOne tInt)))))).mono f15.f r7
  try (with_reducible refine st_go ?_)
  refine st_seq ?_
  refine s_for (W := (fun e (_ : L2.St) H => XS K E e H)) (f := (fun (rows21 : (List Str)) (x28 : (Int × Int × Int)) => (bd (bd (bd (bd (bd (bd (strIR x28.1) fun x29 => catSR ("limit " : Str) x29) fun x30 => catSR x30 (" " : Str)) fun x31 => bd (strIR x28.2.1) fun x32 => catSR x31 x32) fun x33 => catSR x33 (" " : Str)) fun x34 => bd (strIR x28.2.2) fun x35 => catSR x34 x35) fun y40 =>
bd (addR rows21 y40) fun rows41 =>
.ok (.nx rows41) : R (Fl (List Str) Str)))) (s0 := rows18) (fun (s : (List Str)) (σ : L2.St) (F H : Hp) => ∃ (w4 : V), ∃ (w5 : Option V), ∃ (w6 : Option V), ∃ (w7 : Option V), σ = [some v_0, some v2, some v3, some v4, some w4, w5, w6, w7, none, none] ∧ Fr F0 H0 F H ∧ Own tStr H0 F H w4 s) hX fr15 (ei_list (ev_wk (ev_var rfl r6))) hp (fun F2 H2 f fr => ?h020) (fun s σ2 F2 H2 h => ?hf20) (fun s σ2 F2 H2 F3 H3 h f => ?hy20) (fun rows21 x28 v20 σ2 FL20 HL20 DL KL hrt sm20 st20 rx20 hp hnx hct hbk hret => ?hb20) (fun rows42 σ2 FM43 HM43 sm43 st43 hp => ?hd20)
  case h020 =>
    have r17 := r17.mono f
    exact ⟨v16, none, none, none, rfl, fr, r17⟩
  case hf20 =>
    obtain ⟨w4a20, w5a20, w6a20, w7a20, eL, frL, q0a20⟩ := h
    exact frL
  case hy20 =>
    obtain ⟨w4a20, w5a20, w6a20, w7a20, eL, frL, q0a20⟩ := h
    exact ⟨w4a20, w5a20, w6a20, w7a20, eL, frL.trans f, (q0a20.mono f)⟩
  case hb20 =>
    obtain ⟨w4a20, w5a20, w6a20, w7a20, rfl, frL20, q0a20⟩ := st20
    have r_0 := (yTup K (aCons tInt (aCons (yList (yTup K (aCons tInt (aCons tInt (aOne tInt))))) (aOne (yList (yTup K (aCons tStr (aCons tInt (aCons tInt (aOne tInt)))))))))).mono sm20 r_0
    have r6 := (yList (yTup K (aCons tInt (aCons tInt (aOne tInt))))).mono sm20 r6
    have r7 := (yList (yTup K (aCons tStr (aCons tInt (aCons tInt (aOne tInt)))))).mono sm20 r7
    refine (tg_tup rfl (tgs_cons fun _ => (tgs_cons fun _ => tgs_one))) _ _ _ _ _ frL20.s rx20 (fun σ3 p20 => ?_)
    obtain ⟨v22, r25, ⟨v23, r26, ⟨v24, rfl, r27⟩⟩⟩ := p20
    have r25 : tInt.rep FL20 v22 x28.1 := r25
    have r26 : tInt.rep FL20 v23 x28.2.1 := r26
    have r27 : tInt.rep FL20 v24 x28.2.2 := r27
    have ret29 : ∀ (a9 : Str) v9 F9 H9, Fr F0 H0 F9 H9 → tStr.rep F9 v9 a9 → Post (.ok (.rt a9)) KL XX → DL.rt v9 H9 := fun a9 v9 F9 H9 f9 r9 k9 => by rw [hrt]; exact ret0 a9 v9 F9 H9 f9 r9 (hret a9 k9)
    try (with_reducible refine st_go ?_)
    refine s_app hX frL20 rfl q0a20 (ev_addS (ev_addS (ev_addS (ev_addS (ev_addS ev_str (ev_strI (ev_vI rfl r25))) ev_str) (ev_strI (ev_vI rfl r26))) ev_str) (ev_strI (ev_vI rfl r27))) hp (fun rows41 F36 H36 sm38 fr36 r37 kp39 hp => ?_)
    have r_0 := (yTup K (aCons tInt (aCons (yList (yTup K (aCons tInt (aCons tInt (aOne tInt))))) (aOne (yList (yTup K (aCons tStr (aCons tInt (aCons tInt (aOne tInt)))))))))).mono sm38 r_0
    have r6 := (yList (yTup K (aCons tInt (aCons tInt (aOne tInt))))).mono sm38 r6
    have r7 := (yList (yTup K (aCons tStr (aCons tInt (aCons tInt (aOne tInt)))))).mono sm38 r7
    exact hnx rows41 _ F36 H36 sm38 ⟨w4a20, (some v22), (some v23), (some v24), rfl, fr36, r37⟩ hp
  case hd20 =>
    obtain ⟨w4b43, w5b43, w6b43, w7b43, rfl, frM43, q0b43⟩ := st43
    have r_0 := (yTup K (aCons tInt (aCons (yList (yTup K (aCons tInt (aCons tInt (aOne tInt))))) (aOne (yList (yTup K (aCons tStr (aCons tInt (aCons tInt (aOne tInt)))))))))).mono sm43 r_0
    have r6 := (yList (yTup K (aCons tInt (aCons tInt (aOne tInt))))).mono sm43 r6
    have r7 := (yList (yTup K (aCons tStr (aCons tInt (aCons tInt (aOne tInt)))))).mono sm43 r7
    try (with_reducible refine st_go ?_)
    refine st_seq ?_
    refine s_for (W := (fun e (_ : L2.St) H => XS K E e H)) (f := (fun (rows45 : (List Str)) (x54 : (Str × Int × Int × Int)) => (bd (bd (bd (bd (bd (bd (bd (catSR ("station " : Str) x54.1) fun x55 => catSR x55 (" " : Str)) fun x56 => bd (strIR x54.2.1) fun x57 => catSR x56 x57) fun x58 => catSR x58 (" " : Str)) fun x59 => bd (strIR x54.2.2.1) fun x60 => catSR x59 x60) fun x61 => catSR x61 (" " : Str)) fun x62 => bd (strIR x54.2.2.2) fun x63 => catSR x62 x63) fun y68 =>
bd (addR rows45 y68) fun rows69 =>
.ok (.nx rows69) : R (Fl (List Str) Str)))) (s0 := rows42) (fun (s : (List Str)) (σ : L2.St) (F H : Hp) => ∃ (w4 : V), ∃ (w5 : Option V), ∃ (w6 : Option V), ∃ (w8 : Option V), ∃ (w9 : Option V), σ = [some v_0, some v2, some v3, some v4, some w4, w5, w6, w7b43, w8, w9] ∧ Fr F0 H0 F H ∧ Own tStr H0 F H w4 s) hX frM43 (ei_list (ev_wk (ev_var rfl r7))) hp (fun F2 H2 f fr => ?h044) (fun s σ2 F2 H2 h => ?hf44) (fun s σ2 F2 H2 F3 H3 h f => ?hy44) (fun rows45 x54 v44 σ2 FL44 HL44 DL KL hrt sm44 st44 rx44 hp hnx hct hbk hret => ?hb44) (fun rows70 σ2 FM71 HM71 sm71 st71 hp => ?hd44)
    case h044 =>
      have q0b43 := q0b43.mono f
      exact ⟨w4b43, w5b43, w6b43, none, none, rfl, fr, q0b43⟩
    case hf44 =>
      obtain ⟨w4a44, w5a44, w6a44, w8a44, w9a44, eL, frL, q0a44⟩ := h
      exact frL
    case hy44 =>
      obtain ⟨w4a44, w5a44, w6a44, w8a44, w9a44, eL, frL, q0a44⟩ := h
      exact ⟨w4a44, w5a44, w6a44, w8a44, w9a44, eL, frL.trans f, (q0a44.mono f)⟩
    case hb44 =>
      obtain ⟨w4a44, w5a44, w6a44, w8a44, w9a44, rfl, frL44, q0a44⟩ := st44
      have r_0 := (yTup K (aCons tInt (aCons (yList (yTup K (aCons tInt (aCons tInt (aOne tInt))))) (aOne (yList (yTup K (aCons tStr (aCons tInt (aCons tInt (aOne tInt)))))))))).mono sm44 r_0
      have r6 := (yList (yTup K (aCons tInt (aCons tInt (aOne tInt))))).mono sm44 r6
      have r7 := (yList (yTup K (aCons tStr (aCons tInt (aCons tInt (aOne tInt)))))).mono sm44 r7
      refine (tg_tup rfl (tgs_cons fun _ => (tgs_cons fun _ => (tgs_cons fun _ => tgs_one)))) _ _ _ _ _ frL44.s rx44 (fun σ3 p44 => ?_)
      obtain ⟨v46, r50, ⟨v47, r51, ⟨v48, r52, ⟨v49, rfl, r53⟩⟩⟩⟩ := p44
      have r50 : tStr.rep FL44 v46 x54.1 := r50
      have r51 : tInt.rep FL44 v47 x54.2.1 := r51
      have r52 : tInt.rep FL44 v48 x54.2.2.1 := r52
      have r53 : tInt.rep FL44 v49 x54.2.2.2 := r53
      have ret55 : ∀ (a9 : Str) v9 F9 H9, Fr F0 H0 F9 H9 → tStr.rep F9 v9 a9 → Post (.ok (.rt a9)) KL XX → DL.rt v9 H9 := fun a9 v9 F9 H9 f9 r9 k9 => by rw [hrt]; exact ret0 a9 v9 F9 H9 f9 r9 (hret a9 k9)
      try (with_reducible refine st_go ?_)
      refine s_app hX frL44 rfl q0a44 (ev_addS (ev_addS (ev_addS (ev_addS (ev_addS (ev_addS (ev_addS ev_str (ev_vS rfl r50)) ev_str) (ev_strI (ev_vI rfl r51))) ev_str) (ev_strI (ev_vI rfl r52))) ev_str) (ev_strI (ev_vI rfl r53))) hp (fun rows69 F64 H64 sm66 fr64 r65 kp67 hp => ?_)
      have r_0 := (yTup K (aCons tInt (aCons (yList (yTup K (aCons tInt (aCons tInt (aOne tInt))))) (aOne (yList (yTup K (aCons tStr (aCons tInt (aCons tInt (aOne tInt)))))))))).mono sm66 r_0
      have r6 := (yList (yTup K (aCons tInt (aCons tInt (aOne tInt))))).mono sm66 r6
      have r7 := (yList (yTup K (aCons tStr (aCons tInt (aCons tInt (aOne tInt)))))).mono sm66 r7
      exact hnx rows69 _ F64 H64 sm66 ⟨w4a44, (some v47), (some v48), (some v46), (some v49), rfl, fr64, r65⟩ hp
    case hd44 =>
      obtain ⟨w4b71, w5b71, w6b71, w8b71, w9b71, rfl, frM71, q0b71⟩ := st71
      have r_0 := (yTup K (aCons tInt (aCons (yList (yTup K (aCons tInt (aCons tInt (aOne tInt))))) (aOne (yList (yTup K (aCons tStr (aCons tInt (aCons tInt (aOne tInt)))))))))).mono sm71 r_0
      have r6 := (yList (yTup K (aCons tInt (aCons tInt (aOne tInt))))).mono sm71 r6
      have r7 := (yList (yTup K (aCons tStr (aCons tInt (aCons tInt (aOne tInt)))))).mono sm71 r7
      try (with_reducible refine st_go ?_)
      obtain ⟨F72, fr73, sm74, r75, kp76⟩ := q0b71.freeze frM71
      have r_0 := (yTup K (aCons tInt (aCons (yList (yTup K (aCons tInt (aCons tInt (aOne tInt))))) (aOne (yList (yTup K (aCons tStr (aCons tInt (aCons tInt (aOne tInt)))))))))).mono sm74 r_0
      have r6 := (yList (yTup K (aCons tInt (aCons tInt (aOne tInt))))).mono sm74 r6
      have r7 := (yList (yTup K (aCons tStr (aCons tInt (aCons tInt (aOne tInt)))))).mono sm74 r7
      exact s_ret0 hX fr73 (ev_join ev_str (ev_wk (ev_var rfl r75))) hp ret0
abbrev sp_Line_tracks_of (K : PySem.W.Frag) : Sp := SpF K (aCons (t_Line K) (aOne tStr)) tInt (fun a => m_Line_tracks_of a.1 a.2)
theorem sc_Line_tracks_of : FnScope ["self", "name", "station"] ["self", "name"] (defScope s9) := ⟨rfl, rfl, rfl, by decide +kernel, rfl, by decide +kernel, by decide +kernel⟩
theorem ok_Line_tracks_of (g : GF K mg) : MetX P w K mg base 1 "Line" "tracks_of" (sp_Line_tracks_of K) := by
  obtain ⟨fd, F⟩ := g.fn_Line_tracks_of
  refine ⟨_, fd, _, g.c_Line, g.m_Line_tracks_of, F.ok (CX := L2.CX P w) (k := 0) (sp := sp_Line_tracks_of K) sc_Line_tracks_of spF_len (fun cdv A outer s H0 vs Q E hr h => ?_), (F.bindsN fun _ _ _ _ _ _ us hl => match us, hl with | [_, _], _ => rfl)⟩
  obtain ⟨F0, ⟨self, name⟩, s0, ra, hp⟩ := h
  obtain ⟨v_0, _, rfl, r_0, ⟨v_1, rfl, r_1⟩⟩ := ra
  have r_0 : (t_Line K).rep F0 v_0 self := r_0
  have r_1 : tStr.rep F0 v_1 name := r_1
  have fr0 : Fr F0 H0 F0 H0 := Fr.refl s0
  refine ⟨_, (pss_cons (ps_for (passes_of rfl) rfl (pi_tupK (K := K) rfl (pe_fldK (K := K) rfl (pv 0))) (pg_name (i := 2) sc_Line_tracks_of.nd rfl (by first | exact Or.inl rfl | exact Or.inr rfl)) (pss_one (ps_if (pt_cmpR op_eq (pe_ix (kx_tup (K := K) rfl) (pv 2) pe_int (fun _ _ => rfl)) (pv 1) (nomark _)) (pss_one (ps_ret (pe_ix (kx_tup (K := K) rfl) (pv 2) pe_int (fun _ _ => rfl)))) pss_nil)))
      (pss_one (ps_raise rfl (takes_of rfl rfl rfl rfl) (pmk_own PySem.F.excBase_ValueError g.e_NoStation.1 g.g_NoStation g.e_NoStation.2.1 (raises_own g.e_NoStation.2.2.1 g.e_NoStation.2.2.2) rfl)))), ?_⟩
  obtain ⟨XX, KK, hX, ret0, hp⟩ : ∃ (XX : Exn → Prop) (KK : Int → Prop), (∀ e, XX e → ∀ (_ : L2.St) F' H', Fr F0 H0 F' H' → XS K E e H') ∧ (∀ (a : Int) v F9 H9, Fr F0 H0 F9 H9 → tInt.rep F9 v a → Post (.ok a : R Int) KK XX → Q v H9) ∧ Post (m_Line_tracks_of self name) KK XX := ⟨(fun e => ∀ F' H', Fr F0 H0 F' H' → XS K E e H'), (fun b => ∀ v F' H', Fr F0 H0 F' H' → tInt.rep F' v b → Q v H'), fun e h _ => h, fun a v F9 H9 f r k => k v F9 H9 f r, hp⟩
  unfold m_Line_tracks_of at hp
  try (with_reducible refine st_go ?_)
  refine st_seq ?_
  refine s_for (W := (fun e (_ : L2.St) H => XS K E e H)) (f := (fun (s2 : Unit) (station5 : (Str × Int × Int × Int)) => (bd (.ok (decide (station5.1 = name))) fun c => if c = true then (
.ok (.rt station5.2.2.2))
else (
.ok (.nx ())) : R (Fl Unit Int)))) (s0 := ()) (fun (s : Unit) (σ : L2.St) (F H : Hp) => ∃ (w2 : Option V), σ = [some v_0, some v_1, w2] ∧ Fr F0 H0 F H) hX fr0 (ei_tupL (ev_fld g.c_Line g.n_Line_stations (by decide +kernel : List.findIdx? _ _ = some 2) (nth_s (nth_s nth_one)) (ev_var rfl r_0))) hp (fun F2 H2 f fr => ?h01) (fun s σ2 F2 H2 h => ?hf1) (fun s σ2 F2 H2 F3 H3 h f => ?hy1) (fun s2 station5 v3 σ2 FL1 HL1 DL KL hrt sm1 st1 rx1 hp hnx hct hbk hret => ?hb1) (fun s7 σ2 FM8 HM8 sm8 st8 hp => ?hd1)
  case h01 =>
    exact ⟨none, rfl, fr⟩
  case hf1 =>
    obtain ⟨w2a1, eL, frL⟩ := h
    exact frL
  case hy1 =>
    obtain ⟨w2a1, eL, frL⟩ := h
    exact ⟨w2a1, eL, frL.trans f⟩
  case hb1 =>
    obtain ⟨w2a1, rfl, frL1⟩ := st1
    have r_0 := (t_Line K).mono sm1 r_0
    refine st_gn ?_
    have ret6 : ∀ (a9 : Int) v9 F9 H9, Fr F0 H0 F9 H9 → tInt.rep F9 v9 a9 → Post (.ok (.rt a9)) KL XX → DL.rt v9 H9 := fun a9 v9 F9 H9 f9 r9 k9 => by rw [hrt]; exact ret0 a9 v9 F9 H9 f9 r9 (hret a9 k9)
    try (with_reducible refine st_go ?_)
    refine s_if hX frL1 (et_test (ev_eqS (ev_nth (i := 0) nth_0 (ev_var rfl rx1)) (ev_vS rfl r_1))) hp (fun F6 H6 _ f6 fr6 hp => ?_) (fun F6 H6 _ f6 fr6 hp => ?_)
    · have r_0 := (t_Line K).mono f6.f r_0
      have rx1 := (yTup K (aCons tStr (aCons tInt (aCons tInt (aOne tInt))))).mono f6.f rx1
      try (with_reducible refine st_go ?_)
      exact s_ret (f := fun r => .ok (Fl.rt r)) hX fr6 (ev_nth (i := 3) (nth_s (nth_s (nth_s nth_one))) (ev_var rfl rx1)) hp ret6
    · have r_0 := (t_Line K).mono f6.f r_0
      have rx1 := (yTup K (aCons tStr (aCons tInt (aCons tInt (aOne tInt))))).mono f6.f rx1
      refine st_next ?_
      exact hnx () _ F6 H6 f6.f ⟨(some v3), rfl, fr6⟩ hp
  case hd1 =>
    obtain ⟨w2b8, rfl, frM8⟩ := st8
    have r_0 := (t_Line K).mono sm8 r_0
    try (with_reducible refine st_go ?_)
    exact hX _ hp [] _ _ frM8
abbrev sp__law_places (K : PySem.W.Frag) : Sp := SpF K (aCons (yTup K (aCons tInt (aCons (yList (yTup K (aCons tInt (aCons tInt (aOne tInt))))) (aOne (yList (yTup K (aCons tStr (aCons tInt (aCons tInt (aOne tInt)))))))))) (aOne tInt)) (yList tInt) (fun a => m__law_places a.1 a.2)
theorem sc__law_places : FnScope ["_law_told", "_law_number_here", "_law_end", "_law_limits", "_law_stations", "_law_found", "_law_one"] ["_law_told", "_law_number_here"] (defScope s16) := ⟨rfl, rfl, rfl, by decide +kernel, rfl, by decide +kernel, by decide +kernel⟩
theorem ok__law_places (g : GF K mg) : CalX P w K mg base 1 "_law_places" (sp__law_places K) := by
  obtain ⟨fd, F⟩ := g.fn__law_places
  refine ⟨_, fd, _, F.ok (CX := L2.CX P w) (k := 0) (sp := sp__law_places K) sc__law_places spF_len (fun cdv A outer s H0 vs Q E hr h => ?_), g.g__law_places, F.kp, (F.bindsN fun _ _ _ _ _ _ us hl => match us, hl with | [_, _], _ => rfl)⟩
  obtain ⟨F0, ⟨told, number_here⟩, s0, ra, hp⟩ := h
  obtain ⟨v_0, _, rfl, r_0, ⟨v_1, rfl, r_1⟩⟩ := ra
  have r_0 : (yTup K (aCons tInt (aCons (yList (yTup K (aCons tInt (aCons tInt (aOne tInt))))) (aOne (yList (yTup K (aCons tStr (aCons tInt (aCons tInt (aOne tInt)))))))))).rep F0 v_0 told := r_0
  have r_1 : tInt.rep F0 v_1 number_here := r_1
  have fr0 : Fr F0 H0 F0 H0 := Fr.refl s0
  refine ⟨_, (pss_cons (ps_asg (pv 0) (pg_tupK (K := K) rfl rfl (pgs_cons (pg_name (i := 2) sc__law_places.nd rfl (by first | exact Or.inl rfl | exact Or.inr rfl)) (pgs_cons (pg_name (i := 3) sc__law_places.nd rfl (by first | exact Or.inl rfl | exact Or.inr rfl)) (pgs_cons (pg_name (i := 4) sc__law_places.nd rfl (by first | exact Or.inl rfl | exact Or.inr rfl)) pgs_nil)))))
      (pss_cons (ps_set (i := 5) sc__law_places.nd rfl (by first | exact Or.inl rfl | exact Or.inr rfl) (pe_lst (pa_cons pe_int (pa_cons (pv 2) (pa_cons (pe_op op_mod (pv 1) (pe_op op_add (pv 2) pe_int)) (pa_cons (pe_op op_mod (pe_op op_fdiv (pv 1) pe_int) (pe_op op_add (pv 2) pe_int)) pa_nil))))))
      (pss_cons (ps_for (passes_of rfl) rfl (pi_listK (K := K) rfl (pe_slice (ks_list (K := K) rfl) (pv 3) po_none (po_some pe_int))) (pg_name (i := 6) sc__law_places.nd rfl (by first | exact Or.inl rfl | exact Or.inr rfl)) (pss_one (ps_set (i := 5) sc__law_places.nd rfl (by first | exact Or.inl rfl | exact Or.inr rfl) (pe_op op_cat (pv 5) (pe_lst (pa_cons (pe_callB (call_max2 rfl) (by rfl) g.f_max bt_max (pa_cons pe_int (pa_cons (pe_op op_sub (pe_ix (kx_tup (K := K) rfl) (pv 6) pe_int (fun _ _ => rfl)) pe_int) pa_nil))) (pa_cons (pe_ix (kx_tup (K := K) rfl) (pv 6) pe_int (fun _ _ => rfl)) (pa_cons (pe_ix (kx_tup (K := K) rfl) (pv 6) pe_int (fun _ _ => rfl)) (pa_cons (pe_callB (call_min2 rfl) (by rfl) g.f_min bt_min (pa_cons (pv 2) (pa_cons (pe_op op_add (pe_ix (kx_tup (K := K) rfl) (pv 6) pe_int (fun _ _ => rfl)) pe_int) pa_nil))) pa_nil)))))))))
      (pss_cons (ps_for (passes_of rfl) rfl (pi_listK (K := K) rfl (pe_slice (ks_list (K := K) rfl) (pv 4) po_none (po_some pe_int))) (pg_name (i := 6) sc__law_places.nd rfl (by first | exact Or.inl rfl | exact Or.inr rfl)) (pss_one (ps_set (i := 5) sc__law_places.nd rfl (by first | exact Or.inl rfl | exact Or.inr rfl) (pe_op op_cat (pv 5) (pe_lst (pa_cons (pe_op op_sub (pe_ix (kx_tup (K := K) rfl) (pv 6) pe_int (fun _ _ => rfl)) pe_int) (pa_cons (pe_ix (kx_tup (K := K) rfl) (pv 6) pe_int (fun _ _ => rfl)) (pa_cons (pe_ix (kx_tup (K := K) rfl) (pv 6) pe_int (fun _ _ => rfl)) (pa_cons (pe_op op_add (pe_ix (kx_tup (K := K) rfl) (pv 6) pe_int (fun _ _ => rfl)) pe_int) pa_nil)))))))))
      (pss_one (ps_ret (pv 5))))))), ?_⟩
  obtain ⟨XX, KK, hX, ret0, hp⟩ : ∃ (XX : Exn → Prop) (KK : (List Int) → Prop), (∀ e, XX e → ∀ (_ : L2.St) F' H', Fr F0 H0 F' H' → XS K E e H') ∧ (∀ (a : (List Int)) v F9 H9, Fr F0 H0 F9 H9 → (yList tInt).rep F9 v a → Post (.ok a : R (List Int)) KK XX → Q v H9) ∧ Post (m__law_places told number_here) KK XX := ⟨(fun e => ∀ F' H', Fr F0 H0 F' H' → XS K E e H'), (fun b => ∀ v F' H', Fr F0 H0 F' H' → (yList tInt).rep F' v b → Q v H'), fun e h _ => h, fun a v F9 H9 f r k => k v F9 H9 f r, hp⟩
  unfold m__law_places at hp
  try (with_reducible refine st_go ?_)
  refine st_seq ?_
  refine s_asgT hX fr0 (ev_var rfl r_0) (tg_tup rfl (tgs_cons fun _ => (tgs_cons fun _ => tgs_one))) hp (fun t11 σ2 F1 H1 _ f1 fr1 p12 hp => ?_)
  obtain ⟨v2, r5, ⟨v3, r6, ⟨v4, rfl, r7⟩⟩⟩ := p12
  have r5 : tInt.rep F1 v2 t11.1 := r5
  have r6 : (yList (yTup K (aCons tInt (aCons tInt (aOne tInt))))).rep F1 v3 t11.2.1 := r6
  have r7 : (yList (yTup K (aCons tStr (aCons tInt (aCons tInt (aOne tInt)))))).rep F1 v4 t11.2.2 := r7
  have r_0 := (yTup K (aCons tInt (aCons (yList (yTup K (aCons tInt (aCons tInt (aOne tInt))))) (aOne (yList (yTup K (aCons tStr (aCons tInt (aCons tInt (aOne tInt)))))))))).mono f1.f r_0
  try (with_reducible refine st_go ?_)
  refine st_seq ?_
  refine s_asg hX fr1 (ev_of_l (el_is (m' := bd (modR number_here (t11.1 + 1)) fun x13 => bd (modR (number_here / 7) (t11.1 + 1)) fun x14 => .ok [0, t11.1, x13, x14]) (el_lst (by decide) (er_cons ev_int (er_cons (ev_vI rfl r5) (er_cons (ev_mod (ev_vI rfl r_1) (ev_add (ev_vI rfl r5) ev_int)) (er_cons (ev_mod (ev_divC (by decide) (ev_vI rfl r_1) ev_int) (ev_add (ev_vI rfl r5) ev_int)) er_nil))))) (by simp only [bd_assoc, bd_ok]))) hp (fun found18 v16 F15 H15 _ f15 fr15 r17 hp => ?_)
  have r_0 := (yTup K (aCons tInt (aCons (yList (yTup K (aCons tInt (aCons tInt (aOne tInt))))) (aOne (yList (yTup K (aCons tStr (aCons tInt (aCons tInt (aOne tInt)))))))))).mono f15.f r_0
  have r6 := (yList (yTup K (aCons tInt (aCons tInt (aOne tInt))))).mono f15.f r6
  have r7 := (yList (yTup K (aCons tStr (aCons tInt (aCons tInt (aOne tInt)))))).mono f15.f r7
  try (with_reducible refine st_go ?_)
  refine st_seq ?_
  refine s_for (W := (fun e (_ : L2.St) H => XS K E e H)) (f := (fun (found20 : (List Int)) (one23 : (Int × Int × Int)) => (bd (catR found20 [max 0 (one23.1 - 1), one23.1, one23.2.1, min t11.1 (one23.2.1 + 1)]) fun found27 =>
.ok (.nx found27) : R (Fl (List Int) (List Int))))) (s0 := found18) (fun (s : (List Int)) (σ : L2.St) (F H : Hp) => ∃ (w5 : V), ∃ (w6 : Option V), σ = [some v_0, some v_1, some v2, some v3, some v4, some w5, w6] ∧ Fr F0 H0 F H ∧ (yList tInt).rep F w5 s) hX fr15 (ei_list (ev_wk (ev_of_l (el_slice (ev_wk (ev_var rfl r6)) eo_none (eo_some ev_int))))) hp (fun F2 H2 f fr => ?h019) (fun s σ2 F2 H2 h => ?hf19) (fun s σ2 F2 H2 F3 H3 h f => ?hy19) (fun found20 one23 v21 σ2 FL19 HL19 DL KL hrt sm19 st19 rx19 hp hnx hct hbk hret => ?hb19) (fun found28 σ2 FM29 HM29 sm29 st29 hp => ?hd19)
  case h019 =>
    have r17 := (yList tInt).mono f.f r17
    exact ⟨v16, none, rfl, fr, r17⟩
  case hf19 =>
    obtain ⟨w5a19, w6a19, eL, frL, q0a19⟩ := h
    exact frL
  case hy19 =>
    obtain ⟨w5a19, w6a19, eL, frL, q0a19⟩ := h
    exact ⟨w5a19, w6a19, eL, frL.trans f, ((yList tInt).mono f.f q0a19)⟩
  case hb19 =>
    obtain ⟨w5a19, w6a19, rfl, frL19, q0a19⟩ := st19
    have r_0 := (yTup K (aCons tInt (aCons (yList (yTup K (aCons tInt (aCons tInt (aOne tInt))))) (aOne (yList (yTup K (aCons tStr (aCons tInt (aCons tInt (aOne tInt)))))))))).mono sm19 r_0
    have r6 := (yList (yTup K (aCons tInt (aCons tInt (aOne tInt))))).mono sm19 r6
    have r7 := (yList (yTup K (aCons tStr (aCons tInt (aCons tInt (aOne tInt)))))).mono sm19 r7
    refine st_gn ?_
    have ret24 : ∀ (a9 : (List Int)) v9 F9 H9, Fr F0 H0 F9 H9 → (yList tInt).rep F9 v9 a9 → Post (.ok (.rt a9)) KL XX → DL.rt v9 H9 := fun a9 v9 F9 H9 f9 r9 k9 => by rw [hrt]; exact ret0 a9 v9 F9 H9 f9 r9 (hret a9 k9)
    try (with_reducible refine st_go ?_)
    refine s_asg hX frL19 (ev_of_l (el_cat (ev_var rfl q0a19) (ev_of_l (el_lst (by decide) (er_cons (ev_max2 ev_int (ev_sub (ev_nth (i := 0) nth_0 (ev_var rfl rx19)) ev_int)) (er_cons (ev_nth (i := 0) nth_0 (ev_var rfl rx19)) (er_cons (ev_nth (i := 1) (nth_s nth_0) (ev_var rfl rx19)) (er_cons (ev_min2 (ev_vI rfl r5) (ev_add (ev_nth (i := 1) (nth_s nth_0) (ev_var rfl rx19)) ev_int)) er_nil)))))))) hp (fun found27 v25 F24 H24 _ f24 fr24 r26 hp => ?_)
    have r_0 := (yTup K (aCons tInt (aCons (yList (yTup K (aCons tInt (aCons tInt (aOne tInt))))) (aOne (yList (yTup K (aCons tStr (aCons tInt (aCons tInt (aOne tInt)))))))))).mono f24.f r_0
    have r6 := (yList (yTup K (aCons tInt (aCons tInt (aOne tInt))))).mono f24.f r6
    have r7 := (yList (yTup K (aCons tStr (aCons tInt (aCons tInt (aOne tInt)))))).mono f24.f r7
    have rx19 := (yTup K (aCons tInt (aCons tInt (aOne tInt)))).mono f24.f rx19
    exact hnx found27 _ F24 H24 f24.f ⟨v25, (some v21), rfl, fr24, r26⟩ hp
  case hd19 =>
    obtain ⟨w5b29, w6b29, rfl, frM29, q0b29⟩ := st29
    have r_0 := (yTup K (aCons tInt (aCons (yList (yTup K (aCons tInt (aCons tInt (aOne tInt))))) (aOne (yList (yTup K (aCons tStr (aCons tInt (aCons tInt (aOne tInt)))))))))).mono sm29 r_0
    have r6 := (yList (yTup K (aCons tInt (aCons tInt (aOne tInt))))).mono sm29 r6
    have r7 := (yList (yTup K (aCons tStr (aCons tInt (aCons tInt (aOne tInt)))))).mono sm29 r7
    try (with_reducible refine st_go ?_)
    refine st_seq ?_
    refine s_for (W := (fun e (_ : L2.St) H => XS K E e H)) (f := (fun (found31 : (List Int)) (one34 : (Str × Int × Int × Int)) => (bd (catR found31 [one34.2.1 - 1, one34.2.1, one34.2.2.1, one34.2.2.1 + 1]) fun found38 =>
.ok (.nx found38) : R (Fl (List Int) (List Int))))) (s0 := found28) (fun (s : (List Int)) (σ : L2.St) (F H : Hp) => ∃ (w5 : V), ∃ (w6 : Option V), σ = [some v_0, some v_1, some v2, some v3, some v4, some w5, w6] ∧ Fr F0 H0 F H ∧ (yList tInt).rep F w5 s) hX frM29 (ei_list (ev_wk (ev_of_l (el_slice (ev_wk (ev_var rfl r7)) eo_none (eo_some ev_int))))) hp (fun F2 H2 f fr => ?h030) (fun s σ2 F2 H2 h => ?hf30) (fun s σ2 F2 H2 F3 H3 h f => ?hy30) (fun found31 one34 v32 σ2 FL30 HL30 DL KL hrt sm30 st30 rx30 hp hnx hct hbk hret => ?hb30) (fun found39 σ2 FM40 HM40 sm40 st40 hp => ?hd30)
    case h030 =>
      have q0b29 := (yList tInt).mono f.f q0b29
      exact ⟨w5b29, w6b29, rfl, fr, q0b29⟩
    case hf30 =>
      obtain ⟨w5a30, w6a30, eL, frL, q0a30⟩ := h
      exact frL
    case hy30 =>
      obtain ⟨w5a30, w6a30, eL, frL, q0a30⟩ := h
      exact ⟨w5a30, w6a30, eL, frL.trans f, ((yList tInt).mono f.f q0a30)⟩
    case hb30 =>
      obtain ⟨w5a30, w6a30, rfl, frL30, q0a30⟩ := st30
      have r_0 := (yTup K (aCons tInt (aCons (yList (yTup K (aCons tInt (aCons tInt (aOne tInt))))) (aOne (yList (yTup K (aCons tStr (aCons tInt (aCons tInt (aOne tInt)))))))))).mono sm30 r_0
      have r6 := (yList (yTup K (aCons tInt (aCons tInt (aOne tInt))))).mono sm30 r6
      have r7 := (yList (yTup K (aCons tStr (aCons tInt (aCons tInt (aOne tInt)))))).mono sm30 r7
      refine st_gn ?_
      have ret35 : ∀ (a9 : (List Int)) v9 F9 H9, Fr F0 H0 F9 H9 → (yList tInt).rep F9 v9 a9 → Post (.ok (.rt a9)) KL XX → DL.rt v9 H9 := fun a9 v9 F9 H9 f9 r9 k9 => by rw [hrt]; exact ret0 a9 v9 F9 H9 f9 r9 (hret a9 k9)
      try (with_reducible refine st_go ?_)
      refine s_asg hX frL30 (ev_of_l (el_cat (ev_var rfl q0a30) (ev_of_l (el_lst (by decide) (er_cons (ev_sub (ev_nth (i := 1) (nth_s nth_0) (ev_var rfl rx30)) ev_int) (er_cons (ev_nth (i := 1) (nth_s nth_0) (ev_var rfl rx30)) (er_cons (ev_nth (i := 2) (nth_s (nth_s nth_0)) (ev_var rfl rx30)) (er_cons (ev_add (ev_nth (i := 2) (nth_s (nth_s nth_0)) (ev_var rfl rx30)) ev_int) er_nil)))))))) hp (fun found38 v36 F35 H35 _ f35 fr35 r37 hp => ?_)
      have r_0 := (yTup K (aCons tInt (aCons (yList (yTup K (aCons tInt (aCons tInt (aOne tInt))))) (aOne (yList (yTup K (aCons tStr (aCons tInt (aCons tInt (aOne tInt)))))))))).mono f35.f r_0
      have r6 := (yList (yTup K (aCons tInt (aCons tInt (aOne tInt))))).mono f35.f r6
      have r7 := (yList (yTup K (aCons tStr (aCons tInt (aCons tInt (aOne tInt)))))).mono f35.f r7
      have rx30 := (yTup K (aCons tStr (aCons tInt (aCons tInt (aOne tInt))))).mono f35.f rx30
      exact hnx found38 _ F35 H35 f35.f ⟨v36, (some v32), rfl, fr35, r37⟩ hp
    case hd30 =>
      obtain ⟨w5b40, w6b40, rfl, frM40, q0b40⟩ := st40
      have r_0 := (yTup K (aCons tInt (aCons (yList (yTup K (aCons tInt (aCons tInt (aOne tInt))))) (aOne (yList (yTup K (aCons tStr (aCons tInt (aCons tInt (aOne tInt)))))))))).mono sm40 r_0
      have r6 := (yList (yTup K (aCons tInt (aCons tInt (aOne tInt))))).mono sm40 r6
      have r7 := (yList (yTup K (aCons tStr (aCons tInt (aCons tInt (aOne tInt)))))).mono sm40 r7
      try (with_reducible refine st_go ?_)
      exact s_ret0 hX frM40 (ev_var rfl q0b40) hp ret0
abbrev sp_Line_station_at (K : PySem.W.Frag) : Sp := SpF K (aCons (t_Line K) (aOne tInt)) (tOpt tStr) (fun a => m_Line_station_at a.1 a.2)
theorem sc_Line_station_at : FnScope ["self", "place", "name", "first", "last", "tracks"] ["self", "place"] (defScope s8) := ⟨rfl, rfl, rfl, by decide +kernel, rfl, by decide +kernel, by decide +kernel⟩
theorem ok_Line_station_at (g : GF K mg) : MetX P w K mg base 1 "Line" "station_at" (sp_Line_station_at K) := by
  obtain ⟨fd, F⟩ := g.fn_Line_station_at
  refine ⟨_, fd, _, g.c_Line, g.m_Line_station_at, F.ok (CX := L2.CX P w) (k := 0) (sp := sp_Line_station_at K) sc_Line_station_at spF_len (fun cdv A outer s H0 vs Q E hr h => ?_), (F.bindsN fun _ _ _ _ _ _ us hl => match us, hl with | [_, _], _ => rfl)⟩
  obtain ⟨F0, ⟨self, place_⟩, s0, ra, hp⟩ := h
  obtain ⟨v_0, _, rfl, r_0, ⟨v_1, rfl, r_1⟩⟩ := ra
  have r_0 : (t_Line K).rep F0 v_0 self := r_0
  have r_1 : tInt.rep F0 v_1 place_ := r_1
  have fr0 : Fr F0 H0 F0 H0 := Fr.refl s0
  refine ⟨_, (pss_cons (ps_for (passes_of rfl) rfl (pi_tupK (K := K) rfl (pe_fldK (K := K) rfl (pv 0))) (pg_tupK (K := K) rfl rfl (pgs_cons (pg_name (i := 2) sc_Line_station_at.nd rfl (by first | exact Or.inl rfl | exact Or.inr rfl)) (pgs_cons (pg_name (i := 3) sc_Line_station_at.nd rfl (by first | exact Or.inl rfl | exact Or.inr rfl)) (pgs_cons (pg_name (i := 4) sc_Line_station_at.nd rfl (by first | exact Or.inl rfl | exact Or.inr rfl)) (pgs_cons (pg_name (i := 5) sc_Line_station_at.nd rfl (by first | exact Or.inl rfl | exact Or.inr rfl)) pgs_nil))))) (pss_one (ps_if (pt_chain op_le op_le (pv 3) (pv 1) (pv 4)) (pss_one (ps_ret (pv 2))) pss_nil)))
      (pss_one (ps_ret pe_non))), ?_⟩
  obtain ⟨XX, KK, hX, ret0, hp⟩ : ∃ (XX : Exn → Prop) (KK : (Option Str) → Prop), (∀ e, XX e → ∀ (_ : L2.St) F' H', Fr F0 H0 F' H' → XS K E e H') ∧ (∀ (a : (Option Str)) v F9 H9, Fr F0 H0 F9 H9 → (tOpt tStr).rep F9 v a → Post (.ok a : R (Option Str)) KK XX → Q v H9) ∧ Post (m_Line_station_at self place_) KK XX := ⟨(fun e => ∀ F' H', Fr F0 H0 F' H' → XS K E e H'), (fun b => ∀ v F' H', Fr F0 H0 F' H' → (tOpt tStr).rep F' v b → Q v H'), fun e h _ => h, fun a v F9 H9 f r k => k v F9 H9 f r, hp⟩
  unfold m_Line_station_at at hp
  try (with_reducible refine st_go ?_)
  refine st_seq ?_
  refine s_for (W := (fun e (_ : L2.St) H => XS K E e H)) (f := (fun (s2 : Unit) (x11 : (Str × Int × Int × Int)) => (bd (.ok (decide (x11.2.1 ≤ place_) && decide (place_ ≤ x11.2.2.1))) fun c => if c = true then (
.ok (.rt (some x11.1)))
else (
.ok (.nx ())) : R (Fl Unit (Option Str))))) (s0 := ()) (fun (s : Unit) (σ : L2.St) (F H : Hp) => ∃ (w2 : Option V), ∃ (w3 : Option V), ∃ (w4 : Option V), ∃ (w5 : Option V), σ = [some v_0, some v_1, w2, w3, w4, w5] ∧ Fr F0 H0 F H) hX fr0 (ei_tupL (ev_fld g.c_Line g.n_Line_stations (by decide +kernel : List.findIdx? _ _ = some 2) (nth_s (nth_s nth_one)) (ev_var rfl r_0))) hp (fun F2 H2 f fr => ?h01) (fun s σ2 F2 H2 h => ?hf1) (fun s σ2 F2 H2 F3 H3 h f => ?hy1) (fun s2 x11 v1 σ2 FL1 HL1 DL KL hrt sm1 st1 rx1 hp hnx hct hbk hret => ?hb1) (fun s13 σ2 FM14 HM14 sm14 st14 hp => ?hd1)
  case h01 =>
    exact ⟨none, none, none, none, rfl, fr⟩
  case hf1 =>
    obtain ⟨w2a1, w3a1, w4a1, w5a1, eL, frL⟩ := h
    exact frL
  case hy1 =>
    obtain ⟨w2a1, w3a1, w4a1, w5a1, eL, frL⟩ := h
    exact ⟨w2a1, w3a1, w4a1, w5a1, eL, frL.trans f⟩
  case hb1 =>
    obtain ⟨w2a1, w3a1, w4a1, w5a1, rfl, frL1⟩ := st1
    have r_0 := (t_Line K).mono sm1 r_0
    refine (tg_tup rfl (tgs_cons fun _ => (tgs_cons fun _ => (tgs_cons fun _ => tgs_one)))) _ _ _ _ _ frL1.s rx1 (fun σ3 p1 => ?_)
    obtain ⟨v3, r7, ⟨v4, r8, ⟨v5, r9, ⟨v6, rfl, r10⟩⟩⟩⟩ := p1
    have r7 : tStr.rep FL1 v3 x11.1 := r7
    have r8 : tInt.rep FL1 v4 x11.2.1 := r8
    have r9 : tInt.rep FL1 v5 x11.2.2.1 := r9
    have r10 : tInt.rep FL1 v6 x11.2.2.2 := r10
    have ret12 : ∀ (a9 : (Option Str)) v9 F9 H9, Fr F0 H0 F9 H9 → (tOpt tStr).rep F9 v9 a9 → Post (.ok (.rt a9)) KL XX → DL.rt v9 H9 := fun a9 v9 F9 H9 f9 r9 k9 => by rw [hrt]; exact ret0 a9 v9 F9 H9 f9 r9 (hret a9 k9)
    try (with_reducible refine st_go ?_)
    refine s_if hX frL1 (et_test (ev_chainP o_B0 o_B0 (ev_vI rfl r8) (ev_vI rfl r_1) (ev_vI rfl r9))) hp (fun F12 H12 _ f12 fr12 hp => ?_) (fun F12 H12 _ f12 fr12 hp => ?_)
    · have r_0 := (t_Line K).mono f12.f r_0
      try (with_reducible refine st_go ?_)
      exact s_ret (f := fun r => .ok (Fl.rt r)) hX fr12 (ev_optOf nn_str (ev_vS rfl r7)) hp ret12
    · have r_0 := (t_Line K).mono f12.f r_0
      refine st_next ?_
      exact hnx () _ F12 H12 f12.f ⟨(some v3), (some v4), (some v5), (some v6), rfl, fr12⟩ hp
  case hd1 =>
    obtain ⟨w2b14, w3b14, w4b14, w5b14, rfl, frM14⟩ := st14
    have r_0 := (t_Line K).mono sm14 r_0
    try (with_reducible refine st_go ?_)
    exact s_ret0 hX frM14 (ev_noneOf (ta := tStr) ev_non) hp ret0
abbrev sp__law_at (K : PySem.W.Frag) : Sp := SpF K (aCons (yList (yTup K (aCons tStr (aCons tInt (aCons tInt (aOne tInt)))))) (aOne tInt)) (tOpt tStr) (fun a => m__law_at a.1 a.2)
theorem sc__law_at : FnScope ["_law_stations", "_law_place", "_law_name", "_law_first", "_law_last", "_law_tracks"] ["_law_stations", "_law_place"] (defScope s18) := ⟨rfl, rfl, rfl, by decide +kernel, rfl, by decide +kernel, by decide +kernel⟩
theorem ok__law_at (g : GF K mg) : CalX P w K mg base 1 "_law_at" (sp__law_at K) := by
  obtain ⟨fd, F⟩ := g.fn__law_at
  refine ⟨_, fd, _, F.ok (CX := L2.CX P w) (k := 0) (sp := sp__law_at K) sc__law_at spF_len (fun cdv A outer s H0 vs Q E hr h => ?_), g.g__law_at, F.kp, (F.bindsN fun _ _ _ _ _ _ us hl => match us, hl with | [_, _], _ => rfl)⟩
  obtain ⟨F0, ⟨stations, place_⟩, s0, ra, hp⟩ := h
  obtain ⟨v_0, _, rfl, r_0, ⟨v_1, rfl, r_1⟩⟩ := ra
  have r_0 : (yList (yTup K (aCons tStr (aCons tInt (aCons tInt (aOne tInt)))))).rep F0 v_0 stations := r_0
  have r_1 : tInt.rep F0 v_1 place_ := r_1
  have fr0 : Fr F0 H0 F0 H0 := Fr.refl s0
  refine ⟨_, (pss_cons (ps_for (passes_of rfl) rfl (pi_listK (K := K) rfl (pv 0)) (pg_tupK (K := K) rfl rfl (pgs_cons (pg_name (i := 2) sc__law_at.nd rfl (by first | exact Or.inl rfl | exact Or.inr rfl)) (pgs_cons (pg_name (i := 3) sc__law_at.nd rfl (by first | exact Or.inl rfl | exact Or.inr rfl)) (pgs_cons (pg_name (i := 4) sc__law_at.nd rfl (by first | exact Or.inl rfl | exact Or.inr rfl)) (pgs_cons (pg_name (i := 5) sc__law_at.nd rfl (by first | exact Or.inl rfl | exact Or.inr rfl)) pgs_nil))))) (pss_one (ps_if (pt_chain op_le op_le (pv 3) (pv 1) (pv 4)) (pss_one (ps_ret (pv 2))) pss_nil)))
      (pss_one (ps_ret pe_non))), ?_⟩
  obtain ⟨XX, KK, hX, ret0, hp⟩ : ∃ (XX : Exn → Prop) (KK : (Option Str) → Prop), (∀ e, XX e → ∀ (_ : L2.St) F' H', Fr F0 H0 F' H' → XS K E e H') ∧ (∀ (a : (Option Str)) v F9 H9, Fr F0 H0 F9 H9 → (tOpt tStr).rep F9 v a → Post (.ok a : R (Option Str)) KK XX → Q v H9) ∧ Post (m__law_at stations place_) KK XX := ⟨(fun e => ∀ F' H', Fr F0 H0 F' H' → XS K E e H'), (fun b => ∀ v F' H', Fr F0 H0 F' H' → (tOpt tStr).rep F' v b → Q v H'), fun e h _ => h, fun a v F9 H9 f r k => k v F9 H9 f r, hp⟩
  unfold m__law_at at hp
  try (with_reducible refine st_go ?_)
  refine st_seq ?_
  refine s_for (W := (fun e (_ : L2.St) H => XS K E e H)) (f := (fun (s2 : Unit) (x11 : (Str × Int × Int × Int)) => (bd (.ok (decide (x11.2.1 ≤ place_) && decide (place_ ≤ x11.2.2.1))) fun c => if c = true then (
.ok (.rt (some x11.1)))
else (
.ok (.nx ())) : R (Fl Unit (Option Str))))) (s0 := ()) (fun (s : Unit) (σ : L2.St) (F H : Hp) => ∃ (w2 : Option V), ∃ (w3 : Option V), ∃ (w4 : Option V), ∃ (w5 : Option V), σ = [some v_0, some v_1, w2, w3, w4, w5] ∧ Fr F0 H0 F H) hX fr0 (ei_list (ev_wk (ev_var rfl r_0))) hp (fun F2 H2 f fr => ?h01) (fun s σ2 F2 H2 h => ?hf1) (fun s σ2 F2 H2 F3 H3 h f => ?hy1) (fun s2 x11 v1 σ2 FL1 HL1 DL KL hrt sm1 st1 rx1 hp hnx hct hbk hret => ?hb1) (fun s13 σ2 FM14 HM14 sm14 st14 hp => ?hd1)
  case h01 =>
    exact ⟨none, none, none, none, rfl, fr⟩
  case hf1 =>
    obtain ⟨w2a1, w3a1, w4a1, w5a1, eL, frL⟩ := h
    exact frL
  case hy1 =>
    obtain ⟨w2a1, w3a1, w4a1, w5a1, eL, frL⟩ := h
    exact ⟨w2a1, w3a1, w4a1, w5a1, eL, frL.trans f⟩
  case hb1 =>
    obtain ⟨w2a1, w3a1, w4a1, w5a1, rfl, frL1⟩ := st1
    have r_0 := (yList (yTup K (aCons tStr (aCons tInt (aCons tInt (aOne tInt)))))).mono sm1 r_0
    refine (tg_tup rfl (tgs_cons fun _ => (tgs_cons fun _ => (tgs_cons fun _ => tgs_one)))) _ _ _ _ _ frL1.s rx1 (fun σ3 p1 => ?_)
    obtain ⟨v3, r7, ⟨v4, r8, ⟨v5, r9, ⟨v6, rfl, r10⟩⟩⟩⟩ := p1
    have r7 : tStr.rep FL1 v3 x11.1 := r7
    have r8 : tInt.rep FL1 v4 x11.2.1 := r8
    have r9 : tInt.rep FL1 v5 x11.2.2.1 := r9
    have r10 : tInt.rep FL1 v6 x11.2.2.2 := r10
    have ret12 : ∀ (a9 : (Option Str)) v9 F9 H9, Fr F0 H0 F9 H9 → (tOpt tStr).rep F9 v9 a9 → Post (.ok (.rt a9)) KL XX → DL.rt v9 H9 := fun a9 v9 F9 H9 f9 r9 k9 => by rw [hrt]; exact ret0 a9 v9 F9 H9 f9 r9 (hret a9 k9)
    try (with_reducible refine st_go ?_)
    refine s_if hX frL1 (et_test (ev_chainP o_B0 o_B0 (ev_vI rfl r8) (ev_vI rfl r_1) (ev_vI rfl r9))) hp (fun F12 H12 _ f12 fr12 hp => ?_) (fun F12 H12 _ f12 fr12 hp => ?_)
    · have r_0 := (yList (yTup K (aCons tStr (aCons tInt (aCons tInt (aOne tInt)))))).mono f12.f r_0
      try (with_reducible refine st_go ?_)
      exact s_ret (f := fun r => .ok (Fl.rt r)) hX fr12 (ev_optOf nn_str (ev_vS rfl r7)) hp ret12
    · have r_0 := (yList (yTup K (aCons tStr (aCons tInt (aCons tInt (aOne tInt)))))).mono f12.f r_0
      refine st_next ?_
      exact hnx () _ F12 H12 f12.f ⟨(some v3), (some v4), (some v5), (some v6), rfl, fr12⟩ hp
  case hd1 =>
    obtain ⟨w2b14, w3b14, w4b14, w5b14, rfl, frM14⟩ := st14
    have r_0 := (yList (yTup K (aCons tStr (aCons tInt (aCons tInt (aOne tInt)))))).mono sm14 r_0
    try (with_reducible refine st_go ?_)
    exact s_ret0 hX frM14 (ev_noneOf (ta := tStr) ev_non) hp ret0
abbrev sp_Line_limit (K : PySem.W.Frag) : Sp := SpF K (aCons (t_Line K) (aCons tInt (aOne tInt))) (tOpt tInt) (fun a => m_Line_limit a.1 a.2.1 a.2.2)
theorem sc_Line_limit : FnScope ["self", "first", "last", "begin", "behind", "most"] ["self", "first", "last"] (defScope s7) := ⟨rfl, rfl, rfl, by decide +kernel, rfl, by decide +kernel, by decide +kernel⟩
theorem ok_Line_limit (g : GF K mg) : MetX P w K mg base 1 "Line" "limit" (sp_Line_limit K) := by
  obtain ⟨fd, F⟩ := g.fn_Line_limit
  refine ⟨_, fd, _, g.c_Line, g.m_Line_limit, F.ok (CX := L2.CX P w) (k := 0) (sp := sp_Line_limit K) sc_Line_limit spF_len (fun cdv A outer s H0 vs Q E hr h => ?_), (F.bindsN fun _ _ _ _ _ _ us hl => match us, hl with | [_, _, _], _ => rfl)⟩
  obtain ⟨F0, ⟨self, first, last⟩, s0, ra, hp⟩ := h
  obtain ⟨v_0, _, rfl, r_0, ⟨v_1, _, rfl, r_1, ⟨v_2, rfl, r_2⟩⟩⟩ := ra
  have r_0 : (t_Line K).rep F0 v_0 self := r_0
  have r_1 : tInt.rep F0 v_1 first := r_1
  have r_2 : tInt.rep F0 v_2 last := r_2
  have fr0 : Fr F0 H0 F0 H0 := Fr.refl s0
  refine ⟨_, (pss_one (ps_ret (pe_minDK (K := K) rfl rfl g.f_min (pe_lc (g := gTup K 3 (gCons (gName 3) (gCons (gName 4) (gCons (gName 5) gNil)))) (own := [("begin", 3), ("behind", 4), ("most", 5)]) rfl sc_Line_limit.nd (pi_tupK (K := K) rfl (pe_fldK (K := K) rfl (pv 0))) (blkOk_by (N := ["self", "first", "last", "begin", "behind", "most"]) (sc := (defScope Br.s7)) (by decide +kernel)) (fun _ _ _ _ _ => (pg_tupK (K := K) rfl rfl (pgs_cons (pg_name (i := 3) sc_Line_limit.nd rfl (by first | exact Or.inl rfl | exact Or.inr rfl)) (pgs_cons (pg_name (i := 4) sc_Line_limit.nd rfl (by first | exact Or.inl rfl | exact Or.inr rfl)) (pgs_cons (pg_name (i := 5) sc_Line_limit.nd rfl (by first | exact Or.inl rfl | exact Or.inr rfl)) pgs_nil))))) (fun _ _ _ _ _ => (pts_one (PW.pt (pw_and (pt_cmpR op_le (pv 3) (pv 2) (nomark _)) (pw_and1 (pt_cmpR op_ge (pv 4) (pv 1) (nomark _))))))) (fun _ _ _ _ _ => (pv 5)))))), ?_⟩
  obtain ⟨XX, KK, hX, ret0, hp⟩ : ∃ (XX : Exn → Prop) (KK : (Option Int) → Prop), (∀ e, XX e → ∀ (_ : L2.St) F' H', Fr F0 H0 F' H' → XS K E e H') ∧ (∀ (a : (Option Int)) v F9 H9, Fr F0 H0 F9 H9 → (tOpt tInt).rep F9 v a → Post (.ok a : R (Option Int)) KK XX → Q v H9) ∧ Post (m_Line_limit self first last) KK XX := ⟨(fun e => ∀ F' H', Fr F0 H0 F' H' → XS K E e H'), (fun b => ∀ v F' H', Fr F0 H0 F' H' → (tOpt tInt).rep F' v b → Q v H'), fun e h _ => h, fun a v F9 H9 f r k => k v F9 H9 f r, hp⟩
  unfold m_Line_limit at hp
  try (with_reducible refine st_go ?_)
  exact s_ret0 hX fr0 (ev_minD (ev_wk (ev_of_l (el_comp (c := (fun (x1 : (Int × Int × Int)) => .ok (decide (x1.1 ≤ last) && decide (x1.2.1 ≥ first)))) (e := (fun (x1 : (Int × Int × Int)) => .ok x1.2.2)) (ei_tupL (ev_fld g.c_Line g.n_Line_limits (by decide +kernel : List.findIdx? _ _ = some 1) (nth_s nth_0) (ev_var rfl r_0))) (tg_tup rfl (tgs_cons fun _ => (tgs_cons fun _ => tgs_one))) (fun σ2 F2 x p => by obtain ⟨w2, r5, ⟨w3, r6, ⟨w4, rfl, r7⟩⟩⟩ := p; rfl) (fun σ2 F2 H2 x1 f p => by obtain ⟨w2, r5, ⟨w3, r6, ⟨w4, rfl, r7⟩⟩⟩ := p; have r_0 := (t_Line K).mono f.f r_0; exact et_is (et_andP (et_test (ev_le (ev_vI rfl r5) (ev_vI rfl r_2))) (et_test (ev_ge (ev_vI rfl r6) (ev_vI rfl r_1)))) rfl) (fun σ2 F2 H2 x1 f p => by obtain ⟨w2, r5, ⟨w3, r6, ⟨w4, rfl, r7⟩⟩⟩ := p; have r_0 := (t_Line K).mono f.f r_0; exact ev_is (ev_vI rfl r7) rfl) (fun σ2 F2 F3 x s p => by obtain ⟨w2, r5, ⟨w3, r6, ⟨w4, rfl, r7⟩⟩⟩ := p; exact ⟨w2, tInt.mono s r5, ⟨w3, tInt.mono s r6, ⟨w4, rfl, tInt.mono s r7⟩⟩⟩))))) hp ret0
abbrev sp__law_least (K : PySem.W.Frag) : Sp := SpF K (aCons (yList (yTup K (aCons tInt (aCons tInt (aOne tInt))))) (aCons tInt (aOne tInt))) (tOpt tInt) (fun a => m__law_least a.1 a.2.1 a.2.2)
theorem sc__law_least : FnScope ["_law_limits", "_law_first", "_law_last", "_law_found", "_law_begin", "_law_behind", "_law_most"] ["_law_limits", "_law_first", "_law_last"] (defScope s17) := ⟨rfl, rfl, rfl, by decide +kernel, rfl, by decide +kernel, by decide +kernel⟩
theorem ok__law_least (g : GF K mg) : CalX P w K mg base 1 "_law_least" (sp__law_least K) := by
  obtain ⟨fd, F⟩ := g.fn__law_least
  refine ⟨_, fd, _, F.ok (CX := L2.CX P w) (k := 0) (sp := sp__law_least K) sc__law_least spF_len (fun cdv A outer s H0 vs Q E hr h => ?_), g.g__law_least, F.kp, (F.bindsN fun _ _ _ _ _ _ us hl => match us, hl with | [_, _, _], _ => rfl)⟩
  obtain ⟨F0, ⟨limits, first, last⟩, s0, ra, hp⟩ := h
  obtain ⟨v_0, _, rfl, r_0, ⟨v_1, _, rfl, r_1, ⟨v_2, rfl, r_2⟩⟩⟩ := ra
  have r_0 : (yList (yTup K (aCons tInt (aCons tInt (aOne tInt))))).rep F0 v_0 limits := r_0
  have r_1 : tInt.rep F0 v_1 first := r_1
  have r_2 : tInt.rep F0 v_2 last := r_2
  have fr0 : Fr F0 H0 F0 H0 := Fr.refl s0
  refine ⟨_, (pss_cons (ps_set (i := 3) sc__law_least.nd rfl (by first | exact Or.inl rfl | exact Or.inr rfl) pe_non)
      (pss_cons (ps_for (passes_of rfl) rfl (pi_listK (K := K) rfl (pv 0)) (pg_tupK (K := K) rfl rfl (pgs_cons (pg_name (i := 4) sc__law_least.nd rfl (by first | exact Or.inl rfl | exact Or.inr rfl)) (pgs_cons (pg_name (i := 5) sc__law_least.nd rfl (by first | exact Or.inl rfl | exact Or.inr rfl)) (pgs_cons (pg_name (i := 6) sc__law_least.nd rfl (by first | exact Or.inl rfl | exact Or.inr rfl)) pgs_nil)))) (pss_one (ps_if (PW.pt (pw_and (pt_not (PW.pt (pw_or (pt_cmpR op_lt (pv 5) (pv 1) (nomark _)) (pw_or1 (pt_cmpR op_gt (pv 4) (pv 2) (nomark _)))))) (pw_and1 (PW.pt (pw_or (pt_cmp (pc_isN (pv 3)) rfl) (pw_or1 (pt_cmpR op_lt (pv 6) (pv 3) (nomark _)))))))) (pss_one (ps_set (i := 3) sc__law_least.nd rfl (by first | exact Or.inl rfl | exact Or.inr rfl) (pv 6))) pss_nil)))
      (pss_one (ps_ret (pv 3))))), ?_⟩
  obtain ⟨XX, KK, hX, ret0, hp⟩ : ∃ (XX : Exn → Prop) (KK : (Option Int) → Prop), (∀ e, XX e → ∀ (_ : L2.St) F' H', Fr F0 H0 F' H' → XS K E e H') ∧ (∀ (a : (Option Int)) v F9 H9, Fr F0 H0 F9 H9 → (tOpt tInt).rep F9 v a → Post (.ok a : R (Option Int)) KK XX → Q v H9) ∧ Post (m__law_least limits first last) KK XX := ⟨(fun e => ∀ F' H', Fr F0 H0 F' H' → XS K E e H'), (fun b => ∀ v F' H', Fr F0 H0 F' H' → (tOpt tInt).rep F' v b → Q v H'), fun e h _ => h, fun a v F9 H9 f r k => k v F9 H9 f r, hp⟩
  unfold m__law_least at hp
  try (with_reducible refine st_go ?_)
  refine st_seq ?_
  refine s_asg hX fr0 (ev_noneOf (ta := tInt) ev_non) hp (fun found4 v2 F1 H1 _ f1 fr1 r3 hp => ?_)
  have r_0 := (yList (yTup K (aCons tInt (aCons tInt (aOne tInt))))).mono f1.f r_0
  try (with_reducible refine st_go ?_)
  refine st_seq ?_
  refine s_for (W := (fun e (_ : L2.St) H => XS K E e H)) (f := (fun (found6 : (Option Int)) (x13 : (Int × Int × Int)) => (bd ((if (!(decide (x13.2.1 < first) || decide (x13.1 > last))) = true then (if (Option.isNone found6) = true then .ok true else bd (fromSome found6) fun x14 => .ok (decide (x13.2.2 < x14))) else .ok false)) fun c => if c = true then (
bd (.ok (some x13.2.2)) fun found19 =>
.ok (.nx found19))
else (
.ok (.nx found6)) : R (Fl (Option Int) (Option Int))))) (s0 := found4) (fun (s : (Option Int)) (σ : L2.St) (F H : Hp) => ∃ (w3 : V), ∃ (w4 : Option V), ∃ (w5 : Option V), ∃ (w6 : Option V), σ = [some v_0, some v_1, some v_2, some w3, w4, w5, w6] ∧ Fr F0 H0 F H ∧ (tOpt tInt).rep F w3 s) hX fr1 (ei_list (ev_wk (ev_var rfl r_0))) hp (fun F2 H2 f fr => ?h05) (fun s σ2 F2 H2 h => ?hf5) (fun s σ2 F2 H2 F3 H3 h f => ?hy5) (fun found6 x13 v5 σ2 FL5 HL5 DL KL hrt sm5 st5 rx5 hp hnx hct hbk hret => ?hb5) (fun found20 σ2 FM21 HM21 sm21 st21 hp => ?hd5)
  case h05 =>
    have r3 := (tOpt tInt).mono f.f r3
    exact ⟨v2, none, none, none, rfl, fr, r3⟩
  case hf5 =>
    obtain ⟨w3a5, w4a5, w5a5, w6a5, eL, frL, q0a5⟩ := h
    exact frL
  case hy5 =>
    obtain ⟨w3a5, w4a5, w5a5, w6a5, eL, frL, q0a5⟩ := h
    exact ⟨w3a5, w4a5, w5a5, w6a5, eL, frL.trans f, ((tOpt tInt).mono f.f q0a5)⟩
  case hb5 =>
    obtain ⟨w3a5, w4a5, w5a5, w6a5, rfl, frL5, q0a5⟩ := st5
    have r_0 := (yList (yTup K (aCons tInt (aCons tInt (aOne tInt))))).mono sm5 r_0
    refine (tg_tup rfl (tgs_cons fun _ => (tgs_cons fun _ => tgs_one))) _ _ _ _ _ frL5.s rx5 (fun σ3 p5 => ?_)
    obtain ⟨v7, r10, ⟨v8, r11, ⟨v9, rfl, r12⟩⟩⟩ := p5
    have r10 : tInt.rep FL5 v7 x13.1 := r10
    have r11 : tInt.rep FL5 v8 x13.2.1 := r11
    have r12 : tInt.rep FL5 v9 x13.2.2 := r12
    have ret14 : ∀ (a9 : (Option Int)) v9 F9 H9, Fr F0 H0 F9 H9 → (tOpt tInt).rep F9 v9 a9 → Post (.ok (.rt a9)) KL XX → DL.rt v9 H9 := fun a9 v9 F9 H9 f9 r9 k9 => by rw [hrt]; exact ret0 a9 v9 F9 H9 f9 r9 (hret a9 k9)
    try (with_reducible refine st_go ?_)
    refine s_if hX frL5 (et_and (et_not (et_orP (et_test (ev_lt (ev_vI rfl r11) (ev_vI rfl r_1))) (et_test (ev_gt (ev_vI rfl r10) (ev_vI rfl r_2))))) (et_or (et_val (ev_isN (ev_var rfl q0a5))) (et_test (ev_lt (ev_vI rfl r12) (ev_some (ev_var rfl q0a5)))))) hp (fun F15 H15 _ f15 fr15 hp => ?_) (fun F15 H15 _ f15 fr15 hp => ?_)
    · have r_0 := (yList (yTup K (aCons tInt (aCons tInt (aOne tInt))))).mono f15.f r_0
      have q0a5 := (tOpt tInt).mono f15.f q0a5
      try (with_reducible refine st_go ?_)
      refine s_asg hX fr15 (ev_optOf nn_int (ev_vI rfl r12)) hp (fun found19 v17 F16 H16 _ f16 fr16 r18 hp => ?_)
      have r_0 := (yList (yTup K (aCons tInt (aCons tInt (aOne tInt))))).mono f16.f r_0
      exact hnx found19 _ F16 H16 (f15.f.trans f16.f) ⟨v17, (some v7), (some v8), (some v9), rfl, fr16, r18⟩ hp
    · have r_0 := (yList (yTup K (aCons tInt (aCons tInt (aOne tInt))))).mono f15.f r_0
      have q0a5 := (tOpt tInt).mono f15.f q0a5
      refine st_next ?_
      exact hnx found6 _ F15 H15 f15.f ⟨w3a5, (some v7), (some v8), (some v9), rfl, fr15, q0a5⟩ hp
  case hd5 =>
    obtain ⟨w3b21, w4b21, w5b21, w6b21, rfl, frM21, q0b21⟩ := st21
    have r_0 := (yList (yTup K (aCons tInt (aCons tInt (aOne tInt))))).mono sm21 r_0
    try (with_reducible refine st_go ?_)
    exact s_ret0 hX frM21 (ev_var rfl q0b21) hp ret0
abbrev sp__law_right (K : PySem.W.Frag) : Sp := SpF K (aCons (t_Line K) (aCons (yTup K (aCons tInt (aCons (yList (yTup K (aCons tInt (aCons tInt (aOne tInt))))) (aOne (yList (yTup K (aCons tStr (aCons tInt (aCons tInt (aOne tInt)))))))))) (aOne tInt))) tBool (fun a => m__law_right a.1 a.2.1 a.2.2)
theorem sc__law_right : FnScope ["_law_line_here", "_law_told", "_law_number_here", "_law_end", "_law_limits", "_law_stations", "_law_places_here", "_law_k", "_law_place", "_law_other", "_law_first", "_law_last", "_law_one"] ["_law_line_here", "_law_told", "_law_number_here"] (defScope s19) := ⟨rfl, rfl, rfl, by decide +kernel, rfl, by decide +kernel, by decide +kernel⟩
theorem ok__law_right (g : GF K mg) : CalG P w K mg base 2 "_law_right" (sp__law_right K) := by
  obtain ⟨fd, F⟩ := g.fn__law_right
  refine ⟨_, fd, _, gFn (XT := L2.CX P w) (k := 1) (sp := sp__law_right K) F sc__law_right spF_len (fun cdv A outer s H0 vs Q E hr h => ?_), g.g__law_right, F.kp, (F.bindsN fun _ _ _ _ _ _ us hl => match us, hl with | [_, _, _], _ => rfl)⟩
  obtain ⟨F0, ⟨line_here, told, number_here⟩, s0, ra, hp⟩ := h
  obtain ⟨v_0, _, rfl, r_0, ⟨v_1, _, rfl, r_1, ⟨v_2, rfl, r_2⟩⟩⟩ := ra
  have r_0 : (t_Line K).rep F0 v_0 line_here := r_0
  have r_1 : (yTup K (aCons tInt (aCons (yList (yTup K (aCons tInt (aCons tInt (aOne tInt))))) (aOne (yList (yTup K (aCons tStr (aCons tInt (aCons tInt (aOne tInt)))))))))).rep F0 v_1 told := r_1
  have r_2 : tInt.rep F0 v_2 number_here := r_2
  have fr0 : Fr F0 H0 F0 H0 := Fr.refl s0
  refine ⟨_, (pss_cons (ps_asg (pv 1) (pg_tupK (K := K) rfl rfl (pgs_cons (pg_name (i := 3) sc__law_right.nd rfl (by first | exact Or.inl rfl | exact Or.inr rfl)) (pgs_cons (pg_name (i := 4) sc__law_right.nd rfl (by first | exact Or.inl rfl | exact Or.inr rfl)) (pgs_cons (pg_name (i := 5) sc__law_right.nd rfl (by first | exact Or.inl rfl | exact Or.inr rfl)) pgs_nil)))))
      (pss_cons (ps_if (pt_cmpR op_ne (pe_callB (call_reprD (K := K) rfl hr.gd hr.units) (by rfl) g.f_repr bt_repr (pa_cons (pe_lst (pa_cons (pe_fldK (K := K) rfl (pv 0)) (pa_cons (pe_fldK (K := K) rfl (pv 0)) (pa_cons (pe_fldK (K := K) rfl (pv 0)) pa_nil)))) pa_nil)) (pe_callB (call_reprD (K := K) rfl hr.gd hr.units) (by rfl) g.f_repr bt_repr (pa_cons (pe_lst (pa_cons (pv 3) (pa_cons (pe_callTy (kc_tuple (K := K) rfl) (by rfl) g.f_tuple bt_tuple (pa_cons (pv 4) pa_nil)) (pa_cons (pe_callTy (kc_tuple (K := K) rfl) (by rfl) g.f_tuple bt_tuple (pa_cons (pv 5) pa_nil)) pa_nil)))) pa_nil)) (nomark _)) (pss_one (ps_ret pe_bl)) pss_nil)
      (pss_cons (ps_if (pt_cmpR op_ne (pe_callB (call_reprF (K := K) rfl) (by rfl) g.f_repr bt_repr (pa_cons (pe_mx0K (K := K) rfl (pv 0) (ok_Line_text g) hr.rm (by decide) (E := E) (passes_call (takes_of rfl rfl rfl rfl) (fun _ _ _ _ h => h))) pa_nil)) (pe_callB (call_reprF (K := K) rfl) (by rfl) g.f_repr bt_repr (pa_cons (pe_cxK (K := K) rfl (ok__law_text g) hr.rm (by decide) (E := E) (passes_call (takes_of rfl rfl rfl rfl) (fun _ _ _ _ h => h)) (pa_cons (pv 1) pa_nil)) pa_nil)) (nomark _)) (pss_one (ps_ret pe_bl)) pss_nil)
      (pss_cons (ps_if (pt_cmpR (ko_neD (K := K) rfl hr.units) (pe_lc (g := gName 12) (own := [("_law_one", 12)]) rfl sc__law_right.nd (pi_listK (K := K) rfl (pv 5)) (blkOk_by (N := ["_law_line_here", "_law_told", "_law_number_here", "_law_end", "_law_limits", "_law_stations", "_law_places_here", "_law_k", "_law_place", "_law_other", "_law_first", "_law_last", "_law_one"]) (sc := (defScope Br.s19)) (by decide +kernel)) (fun _ _ _ _ _ => (pg_name (i := 12) sc__law_right.nd rfl (by first | exact Or.inl rfl | exact Or.inr rfl))) (fun _ _ _ _ _ => (pts_one (pt_cmpR op_ne (pe_callB (call_reprF (K := K) rfl) (by rfl) g.f_repr bt_repr (pa_cons (pe_mxK (K := K) rfl (pv 0) (ok_Line_tracks_of g) hr.rm (by decide) (E := E0) passL (pa_cons (pe_ix (kx_tup (K := K) rfl) (pv 12) pe_int (fun _ _ => rfl)) pa_nil)) pa_nil)) (pe_callB (call_reprF (K := K) rfl) (by rfl) g.f_repr bt_repr (pa_cons (pe_ix (kx_tup (K := K) rfl) (pv 12) pe_int (fun _ _ => rfl)) pa_nil)) (nomark _)))) (fun _ _ _ _ _ => (pv 12))) (pe_lst pa_nil) (nomark _)) (pss_one (ps_ret pe_bl)) pss_nil)
      (pss_cons (ps_set (i := 6) sc__law_right.nd rfl (by first | exact Or.inl rfl | exact Or.inr rfl) (pe_cxK (K := K) rfl (ok__law_places g) hr.rm (by decide) (E := E) (passes_call (takes_of rfl rfl rfl rfl) (fun _ _ _ _ h => h)) (pa_cons (pv 1) (pa_cons (pv 2) pa_nil))))
      (pss_cons (ps_for (passes_of rfl) rfl (pi_enumK (K := K) rfl g.f_enumerate (pa_cons (pv 6) pa_nil)) (pg_tupK (K := K) rfl rfl (pgs_cons (pg_name (i := 7) sc__law_right.nd rfl (by first | exact Or.inl rfl | exact Or.inr rfl)) (pgs_cons (pg_name (i := 8) sc__law_right.nd rfl (by first | exact Or.inl rfl | exact Or.inr rfl)) pgs_nil))) (pss_cons (ps_if (pt_cmpR op_ne (pe_callB (call_reprF (K := K) rfl) (by rfl) g.f_repr bt_repr (pa_cons (pe_mxK (K := K) rfl (pv 0) (ok_Line_station_at g) hr.rm (by decide) (E := E) (passes_call (takes_of rfl rfl rfl rfl) (fun _ _ _ _ h => h)) (pa_cons (pv 8) pa_nil)) pa_nil)) (pe_callB (call_reprF (K := K) rfl) (by rfl) g.f_repr bt_repr (pa_cons (pe_cxK (K := K) rfl (ok__law_at g) hr.rm (by decide) (E := E) (passes_call (takes_of rfl rfl rfl rfl) (fun _ _ _ _ h => h)) (pa_cons (pv 5) (pa_cons (pv 8) pa_nil))) pa_nil)) (nomark _)) (pss_one (ps_ret pe_bl)) pss_nil)
      (pss_cons (ps_set (i := 9) sc__law_right.nd rfl (by first | exact Or.inl rfl | exact Or.inr rfl) (pe_ix (kx_list (K := K) rfl) (pv 6) (pe_op op_mod (pe_op op_add (pe_op op_mul (pv 7) pe_int) (pv 2)) (pe_callB (kc_len (K := K) rfl) (by rfl) g.f_len bt_len (pa_cons (pv 6) pa_nil))) (fun _ _ => rfl)))
      (pss_cons (ps_par (i := 10) (j := 11) (by rfl) sc__law_right.nd rfl rfl (by decide) rfl rfl (pa_cons (pe_callB (call_min2 rfl) (by rfl) g.f_min bt_min (pa_cons (pv 8) (pa_cons (pv 9) pa_nil))) (pa_cons (pe_callB (call_max2 rfl) (by rfl) g.f_max bt_max (pa_cons (pv 8) (pa_cons (pv 9) pa_nil))) pa_nil)) (by rfl))
      (pss_cons (ps_if (pt_cmpR op_ne (pe_callB (call_reprF (K := K) rfl) (by rfl) g.f_repr bt_repr (pa_cons (pe_mxK (K := K) rfl (pv 0) (ok_Line_limit g) hr.rm (by decide) (E := E) (passes_call (takes_of rfl rfl rfl rfl) (fun _ _ _ _ h => h)) (pa_cons (pv 10) (pa_cons (pv 11) pa_nil))) pa_nil)) (pe_callB (call_reprF (K := K) rfl) (by rfl) g.f_repr bt_repr (pa_cons (pe_cxK (K := K) rfl (ok__law_least g) hr.rm (by decide) (E := E) (passes_call (takes_of rfl rfl rfl rfl) (fun _ _ _ _ h => h)) (pa_cons (pv 4) (pa_cons (pv 10) (pa_cons (pv 11) pa_nil)))) pa_nil)) (nomark _)) (pss_one (ps_ret pe_bl)) pss_nil)
      (pss_one (ps_if (pt_cmpR op_ne (pe_callB (call_reprF (K := K) rfl) (by rfl) g.f_repr bt_repr (pa_cons (pe_mxK (K := K) rfl (pv 0) (ok_Line_limit g) hr.rm (by decide) (E := E) (passes_call (takes_of rfl rfl rfl rfl) (fun _ _ _ _ h => h)) (pa_cons (pv 8) (pa_cons (pv 8) pa_nil))) pa_nil)) (pe_callB (call_reprF (K := K) rfl) (by rfl) g.f_repr bt_repr (pa_cons (pe_cxK (K := K) rfl (ok__law_least g) hr.rm (by decide) (E := E) (passes_call (takes_of rfl rfl rfl rfl) (fun _ _ _ _ h => h)) (pa_cons (pv 4) (pa_cons (pv 8) (pa_cons (pv 8) pa_nil)))) pa_nil)) (nomark _)) (pss_one (ps_ret pe_bl)) pss_nil)))))))
      (pss_one (ps_ret pe_bl)))))))), ?_⟩
  obtain ⟨XX, KK, hX, ret0, hp⟩ : ∃ (XX : Exn → Prop) (KK : Bool → Prop), (∀ e, XX e → ∀ (_ : L2.St) F' H', Fr F0 H0 F' H' → XS K E e H') ∧ (∀ (a : Bool) v F9 H9, Fr F0 H0 F9 H9 → tBool.rep F9 v a → Post (.ok a : R Bool) KK XX → Q v H9) ∧ Post (m__law_right line_here told number_here) KK XX := ⟨(fun e => ∀ F' H', Fr F0 H0 F' H' → XS K E e H'), (fun b => ∀ v F' H', Fr F0 H0 F' H' → tBool.rep F' v b → Q v H'), fun e h _ => h, fun a v F9 H9 f r k => k v F9 H9 f r, hp⟩
  unfold m__law_right at hp
  try (with_reducible refine st_go ?_)
  refine st_seq ?_
  refine s_asgT hX fr0 (ev_var rfl r_1) (tg_tup rfl (tgs_cons fun _ => (tgs_cons fun _ => tgs_one))) hp (fun t11 σ2 F1 H1 _ f1 fr1 p12 hp => ?_)
  obtain ⟨v2, r5, ⟨v3, r6, ⟨v4, rfl, r7⟩⟩⟩ := p12
  have r5 : tInt.rep F1 v2 t11.1 := r5
  have r6 : (yList (yTup K (aCons tInt (aCons tInt (aOne tInt))))).rep F1 v3 t11.2.1 := r6
  have r7 : (yList (yTup K (aCons tStr (aCons tInt (aCons tInt (aOne tInt)))))).rep F1 v4 t11.2.2 := r7
  have r_0 := (t_Line K).mono f1.f r_0
  have r_1 := (yTup K (aCons tInt (aCons (yList (yTup K (aCons tInt (aCons tInt (aOne tInt))))) (aOne (yList (yTup K (aCons tStr (aCons tInt (aCons tInt (aOne tInt)))))))))).mono f1.f r_1
  try (with_reducible refine st_go ?_)
  refine st_seq ?_
  refine s_if hX fr1 (et_test (ev_neS (ev_reprY (ev_undyn (K := K) (ev_of_l (el_lst (by decide) (er_cons (ev_toD (K := K) d_int (ev_fld g.c_Line g.n_Line_end (by decide +kernel : List.findIdx? _ _ = some 0) nth_0 (ev_var rfl r_0))) (er_cons (ev_toD (K := K) (d_tupL (d_tup (da_cons d_int (da_cons d_int (da_one d_int))))) (ev_fld g.c_Line g.n_Line_limits (by decide +kernel : List.findIdx? _ _ = some 1) (nth_s nth_0) (ev_var rfl r_0))) (er_cons (ev_toD (K := K) (d_tupL (d_tup (da_cons d_str (da_cons d_int (da_cons d_int (da_one d_int)))))) (ev_fld g.c_Line g.n_Line_stations (by decide +kernel : List.findIdx? _ _ = some 2) (nth_s (nth_s nth_one)) (ev_var rfl r_0))) er_nil))))))) (ev_reprY (ev_undyn (K := K) (ev_of_l (el_lst (by decide) (er_cons (ev_toD (K := K) d_int (ev_vI rfl r5)) (er_cons (ev_toD (K := K) (d_tupL (d_tup (da_cons d_int (da_cons d_int (da_one d_int))))) (ev_tupleOf (ev_wk (ev_var rfl r6)))) (er_cons (ev_toD (K := K) (d_tupL (d_tup (da_cons d_str (da_cons d_int (da_cons d_int (da_one d_int)))))) (ev_tupleOf (ev_wk (ev_var rfl r7)))) er_nil))))))))) hp (fun F17 H17 _ f17 fr17 hp => ?_) (fun F17 H17 _ f17 fr17 hp => ?_)
  · have r_0 := (t_Line K).mono f17.f r_0
    have r_1 := (yTup K (aCons tInt (aCons (yList (yTup K (aCons tInt (aCons tInt (aOne tInt))))) (aOne (yList (yTup K (aCons tStr (aCons tInt (aCons tInt (aOne tInt)))))))))).mono f17.f r_1
    have r6 := (yList (yTup K (aCons tInt (aCons tInt (aOne tInt))))).mono f17.f r6
    have r7 := (yList (yTup K (aCons tStr (aCons tInt (aCons tInt (aOne tInt)))))).mono f17.f r7
    try (with_reducible refine st_go ?_)
    exact s_ret0 hX fr17 ev_bl hp ret0
  · have r_0 := (t_Line K).mono f17.f r_0
    have r_1 := (yTup K (aCons tInt (aCons (yList (yTup K (aCons tInt (aCons tInt (aOne tInt))))) (aOne (yList (yTup K (aCons tStr (aCons tInt (aCons tInt (aOne tInt)))))))))).mono f17.f r_1
    have r6 := (yList (yTup K (aCons tInt (aCons tInt (aOne tInt))))).mono f17.f r6
    have r7 := (yList (yTup K (aCons tStr (aCons tInt (aCons tInt (aOne tInt)))))).mono f17.f r7
    refine st_next ?_
    try (with_reducible refine st_go ?_)
    refine st_seq ?_
    refine s_if hX fr17 (et_test (ev_neS (ev_reprF d_str (fun _ => rfl) (ev_meth (C := "Line") (mn := "text") (names := ["end", "limits", "stations"]) (E := E) (fun _ _ z => z) (by decide +kernel) (ev_var rfl r_0) ea_nil)) (ev_reprF d_str (fun _ => rfl) (ev_call (E := E) (fun _ _ z => z) (ea_one (ev_var rfl r_1)))))) hp (fun F22 H22 _ f22 fr22 hp => ?_) (fun F22 H22 _ f22 fr22 hp => ?_)
    · have r_0 := (t_Line K).mono f22.f r_0
      have r_1 := (yTup K (aCons tInt (aCons (yList (yTup K (aCons tInt (aCons tInt (aOne tInt))))) (aOne (yList (yTup K (aCons tStr (aCons tInt (aCons tInt (aOne tInt)))))))))).mono f22.f r_1
      have r6 := (yList (yTup K (aCons tInt (aCons tInt (aOne tInt))))).mono f22.f r6
      have r7 := (yList (yTup K (aCons tStr (aCons tInt (aCons tInt (aOne tInt)))))).mono f22.f r7
      try (with_reducible refine st_go ?_)
      exact s_ret0 hX fr22 ev_bl hp ret0
    · have r_0 := (t_Line K).mono f22.f r_0
      have r_1 := (yTup K (aCons tInt (aCons (yList (yTup K (aCons tInt (aCons tInt (aOne tInt))))) (aOne (yList (yTup K (aCons tStr (aCons tInt (aCons tInt (aOne tInt)))))))))).mono f22.f r_1
      have r6 := (yList (yTup K (aCons tInt (aCons tInt (aOne tInt))))).mono f22.f r6
      have r7 := (yList (yTup K (aCons tStr (aCons tInt (aCons tInt (aOne tInt)))))).mono f22.f r7
      refine st_next ?_
      try (with_reducible refine st_go ?_)
      refine st_seq ?_
      refine s_if hX fr22 (et_test (ev_neD (d_lst (d_tup (da_cons d_str (da_cons d_int (da_cons d_int (da_one d_int)))))) (d_lst (d_tup (da_cons d_str (da_cons d_int (da_cons d_int (da_one d_int)))))) (by decide) (by decide) (ev_of_l (el_comp (c := (fun (one23 : (Str × Int × Int × Int)) => bd (bd (m_Line_tracks_of line_here one23.1) fun x126 => reprDR (PyData.int x126)) fun x127 => bd (reprDR (PyData.int one23.2.2.2)) fun x128 => .ok (!decide (x127 = x128)))) (e := (fun (one23 : (Str × Int × Int × Int)) => .ok one23)) (ei_list (ev_wk (ev_var rfl r7))) tg_name (fun σ2 F2 x p => by obtain ⟨w, rfl, _⟩ := p; rfl) (fun σ2 F2 H2 one23 f p => by obtain ⟨w24, rfl, r25⟩ := p; have r_0 := (t_Line K).mono f.f r_0; have r7 := (yList (yTup K (aCons tStr (aCons tInt (aCons tInt (aOne tInt)))))).mono f.f r7; exact et_is (et_test (ev_neS (ev_reprF d_int (fun _ => rfl) (ev_meth (C := "Line") (mn := "tracks_of") (names := ["end", "limits", "stations"]) (E := E0) (fun _ _ z => z.elim) (by decide +kernel) (ev_var rfl r_0) (ea_one (ev_nth (i := 0) nth_0 (ev_var rfl r25))))) (ev_reprF d_int (fun _ => rfl) (ev_nth (i := 3) (nth_s (nth_s (nth_s nth_one))) (ev_var rfl r25))))) rfl) (fun σ2 F2 H2 one23 f p => by obtain ⟨w24, rfl, r25⟩ := p; have r_0 := (t_Line K).mono f.f r_0; have r7 := (yList (yTup K (aCons tStr (aCons tInt (aCons tInt (aOne tInt)))))).mono f.f r7; exact ev_is (ev_var rfl r25) rfl) (fun σ2 F2 F3 x s p => by obtain ⟨w, e, r⟩ := p; exact ⟨w, e, (yTup K (aCons tStr (aCons tInt (aCons tInt (aOne tInt))))).mono s r⟩))) (ev_of_l (el_lst (ta := (yTup K (aCons tStr (aCons tInt (aCons tInt (aOne tInt)))))) (by decide) er_nil)))) hp (fun F130 H130 _ f130 fr130 hp => ?_) (fun F130 H130 _ f130 fr130 hp => ?_)
      · have r_0 := (t_Line K).mono f130.f r_0
        have r_1 := (yTup K (aCons tInt (aCons (yList (yTup K (aCons tInt (aCons tInt (aOne tInt))))) (aOne (yList (yTup K (aCons tStr (aCons tInt (aCons tInt (aOne tInt)))))))))).mono f130.f r_1
        have r6 := (yList (yTup K (aCons tInt (aCons tInt (aOne tInt))))).mono f130.f r6
        have r7 := (yList (yTup K (aCons tStr (aCons tInt (aCons tInt (aOne tInt)))))).mono f130.f r7
        try (with_reducible refine st_go ?_)
        exact s_ret0 hX fr130 ev_bl hp ret0
      · have r_0 := (t_Line K).mono f130.f r_0
        have r_1 := (yTup K (aCons tInt (aCons (yList (yTup K (aCons tInt (aCons tInt (aOne tInt))))) (aOne (yList (yTup K (aCons tStr (aCons tInt (aCons tInt (aOne tInt)))))))))).mono f130.f r_1
        have r6 := (yList (yTup K (aCons tInt (aCons tInt (aOne tInt))))).mono f130.f r6
        have r7 := (yList (yTup K (aCons tStr (aCons tInt (aCons tInt (aOne tInt)))))).mono f130.f r7
        refine st_next ?_
        try (with_reducible refine st_go ?_)
        refine st_seq ?_
        refine s_asg hX fr130 (ev_call (E := E) (fun _ _ z => z) (ea_cons (ev_var rfl r_1) (ea_one (ev_vI rfl r_2)))) hp (fun places_here134 v132 F131 H131 _ f131 fr131 r133 hp => ?_)
        have r_0 := (t_Line K).mono f131.f r_0
        have r_1 := (yTup K (aCons tInt (aCons (yList (yTup K (aCons tInt (aCons tInt (aOne tInt))))) (aOne (yList (yTup K (aCons tStr (aCons tInt (aCons tInt (aOne tInt)))))))))).mono f131.f r_1
        have r6 := (yList (yTup K (aCons tInt (aCons tInt (aOne tInt))))).mono f131.f r6
        have r7 := (yList (yTup K (aCons tStr (aCons tInt (aCons tInt (aOne tInt)))))).mono f131.f r7
        try (with_reducible refine st_go ?_)
        refine st_seq ?_
        refine s_for (W := (fun e (_ : L2.St) H => XS K E e H)) (f := (fun (s136 : Unit) (x141 : (Int × Int)) => (bd (bd (bd (m_Line_station_at line_here x141.2) fun x142 => reprDR ((eOpt PyData.str) x142)) fun x144 => bd (bd (m__law_at t11.2.2 x141.2) fun x143 => reprDR ((eOpt PyData.str) x143)) fun x145 => .ok (!decide (x144 = x145))) fun c => if c = true then (
.ok (.rt false))
else (
bd (bd (modR ((x141.1 * 7) + number_here) (places_here134.length : Int)) fun x147 => atR places_here134 x147) fun other151 =>
bd (.ok (min x141.2 other151)) fun first157 =>
bd (.ok (max x141.2 other151)) fun last158 =>
bd (bd (bd (m_Line_limit line_here first157 last158) fun x159 => reprDR ((eOpt PyData.int) x159)) fun x161 => bd (bd (m__law_least t11.2.1 first157 last158) fun x160 => reprDR ((eOpt PyData.int) x160)) fun x162 => .ok (!decide (x161 = x162))) fun c => if c = true then (
.ok (.rt false))
else (
bd (bd (bd (m_Line_limit line_here x141.2 x141.2) fun x164 => reprDR ((eOpt PyData.int) x164)) fun x166 => bd (bd (m__law_least t11.2.1 x141.2 x141.2) fun x165 => reprDR ((eOpt PyData.int) x165)) fun x167 => .ok (!decide (x166 = x167))) fun c => if c = true then (
.ok (.rt false))
else (
.ok (.nx ())))) : R (Fl Unit Bool)))) (s0 := ()) (fun (s : Unit) (σ : L2.St) (F H : Hp) => ∃ (w7 : Option V), ∃ (w8 : Option V), ∃ (w9 : Option V), ∃ (w10 : Option V), ∃ (w11 : Option V), σ = [some v_0, some v_1, some v_2, some v2, some v3, some v4, some v132, w7, w8, w9, w10, w11, none] ∧ Fr F0 H0 F H) hX fr131 (ei_enum (ev_wk (ev_var rfl r133))) hp (fun F2 H2 f fr => ?h0135) (fun s σ2 F2 H2 h => ?hf135) (fun s σ2 F2 H2 F3 H3 h f => ?hy135) (fun s136 x141 v135 σ2 FL135 HL135 DL KL hrt sm135 st135 rx135 hp hnx hct hbk hret => ?hb135) (fun s169 σ2 FM170 HM170 sm170 st170 hp => ?hd135)
        case h0135 =>
          exact ⟨none, none, none, none, none, rfl, fr⟩
        case hf135 =>
          obtain ⟨w7a135, w8a135, w9a135, w10a135, w11a135, eL, frL⟩ := h
          exact frL
        case hy135 =>
          obtain ⟨w7a135, w8a135, w9a135, w10a135, w11a135, eL, frL⟩ := h
          exact ⟨w7a135, w8a135, w9a135, w10a135, w11a135, eL, frL.trans f⟩
        case hb135 =>
          obtain ⟨w7a135, w8a135, w9a135, w10a135, w11a135, rfl, frL135⟩ := st135
          have r_0 := (t_Line K).mono sm135 r_0
          have r_1 := (yTup K (aCons tInt (aCons (yList (yTup K (aCons tInt (aCons tInt (aOne tInt))))) (aOne (yList (yTup K (aCons tStr (aCons tInt (aCons tInt (aOne tInt)))))))))).mono sm135 r_1
          have r6 := (yList (yTup K (aCons tInt (aCons tInt (aOne tInt))))).mono sm135 r6
          have r7 := (yList (yTup K (aCons tStr (aCons tInt (aCons tInt (aOne tInt)))))).mono sm135 r7
          have r133 := (yList tInt).mono sm135 r133
          refine (tg_tup rfl (tgs_cons fun _ => tgs_one)) _ _ _ _ _ frL135.s rx135 (fun σ3 p135 => ?_)
          obtain ⟨v137, r139, ⟨v138, rfl, r140⟩⟩ := p135
          have r139 : tInt.rep FL135 v137 x141.1 := r139
          have r140 : tInt.rep FL135 v138 x141.2 := r140
          have ret142 : ∀ (a9 : Bool) v9 F9 H9, Fr F0 H0 F9 H9 → tBool.rep F9 v9 a9 → Post (.ok (.rt a9)) KL XX → DL.rt v9 H9 := fun a9 v9 F9 H9 f9 r9 k9 => by rw [hrt]; exact ret0 a9 v9 F9 H9 f9 r9 (hret a9 k9)
          try (with_reducible refine st_go ?_)
          refine st_seq ?_
          refine s_if hX frL135 (et_test (ev_neS (ev_reprF (d_opt d_str) (fun a => by cases a <;> rfl) (ev_meth (C := "Line") (mn := "station_at") (names := ["end", "limits", "stations"]) (E := E) (fun _ _ z => z) (by decide +kernel) (ev_var rfl r_0) (ea_one (ev_vI rfl r140)))) (ev_reprF (d_opt d_str) (fun a => by cases a <;> rfl) (ev_call (E := E) (fun _ _ z => z) (ea_cons (ev_var rfl r7) (ea_one (ev_vI rfl r140))))))) hp (fun F146 H146 _ f146 fr146 hp => ?_) (fun F146 H146 _ f146 fr146 hp => ?_)
          · have r_0 := (t_Line K).mono f146.f r_0
            have r_1 := (yTup K (aCons tInt (aCons (yList (yTup K (aCons tInt (aCons tInt (aOne tInt))))) (aOne (yList (yTup K (aCons tStr (aCons tInt (aCons tInt (aOne tInt)))))))))).mono f146.f r_1
            have r6 := (yList (yTup K (aCons tInt (aCons tInt (aOne tInt))))).mono f146.f r6
            have r7 := (yList (yTup K (aCons tStr (aCons tInt (aCons tInt (aOne tInt)))))).mono f146.f r7
            have r133 := (yList tInt).mono f146.f r133
            try (with_reducible refine st_go ?_)
            exact s_ret (f := fun r => .ok (Fl.rt r)) hX fr146 ev_bl hp ret142
          · have r_0 := (t_Line K).mono f146.f r_0
            have r_1 := (yTup K (aCons tInt (aCons (yList (yTup K (aCons tInt (aCons tInt (aOne tInt))))) (aOne (yList (yTup K (aCons tStr (aCons tInt (aCons tInt (aOne tInt)))))))))).mono f146.f r_1
            have r6 := (yList (yTup K (aCons tInt (aCons tInt (aOne tInt))))).mono f146.f r6
            have r7 := (yList (yTup K (aCons tStr (aCons tInt (aCons tInt (aOne tInt)))))).mono f146.f r7
            have r133 := (yList tInt).mono f146.f r133
            refine st_next ?_
            try (with_reducible refine st_go ?_)
            refine st_seq ?_
            refine s_asg hX fr146 (ev_ixL (ev_wk (ev_var rfl r133)) (ev_mod (ev_add (ev_mulC (by decide) (ev_vI rfl r139) ev_int) (ev_vI rfl r_2)) (ev_lenL (ev_wk (ev_var rfl r133))))) hp (fun other151 v149 F148 H148 _ f148 fr148 r150 hp => ?_)
            have r_0 := (t_Line K).mono f148.f r_0
            have r_1 := (yTup K (aCons tInt (aCons (yList (yTup K (aCons tInt (aCons tInt (aOne tInt))))) (aOne (yList (yTup K (aCons tStr (aCons tInt (aCons tInt (aOne tInt)))))))))).mono f148.f r_1
            have r6 := (yList (yTup K (aCons tInt (aCons tInt (aOne tInt))))).mono f148.f r6
            have r7 := (yList (yTup K (aCons tStr (aCons tInt (aCons tInt (aOne tInt)))))).mono f148.f r7
            have r133 := (yList tInt).mono f148.f r133
            try (with_reducible refine st_go ?_)
            refine st_seq ?_
            refine s_par hX fr148 (ev_min2 (ev_vI rfl r140) (ev_vI rfl r150)) (ev_max2 (ev_vI rfl r140) (ev_vI rfl r150)) hp (fun first157 last158 v153 v154 F152 H152 f152 fr152 r155 r156 hp => ?_)
            have r_0 := (t_Line K).mono f152.f r_0
            have r_1 := (yTup K (aCons tInt (aCons (yList (yTup K (aCons tInt (aCons tInt (aOne tInt))))) (aOne (yList (yTup K (aCons tStr (aCons tInt (aCons tInt (aOne tInt)))))))))).mono f152.f r_1
            have r6 := (yList (yTup K (aCons tInt (aCons tInt (aOne tInt))))).mono f152.f r6
            have r7 := (yList (yTup K (aCons tStr (aCons tInt (aCons tInt (aOne tInt)))))).mono f152.f r7
            have r133 := (yList tInt).mono f152.f r133
            try (with_reducible refine st_go ?_)
            refine st_seq ?_
            refine s_if hX fr152 (et_test (ev_neS (ev_reprF (d_opt d_int) (fun a => by cases a <;> rfl) (ev_meth (C := "Line") (mn := "limit") (names := ["end", "limits", "stations"]) (E := E) (fun _ _ z => z) (by decide +kernel) (ev_var rfl r_0) (ea_cons (ev_vI rfl r155) (ea_one (ev_vI rfl r156))))) (ev_reprF (d_opt d_int) (fun a => by cases a <;> rfl) (ev_call (E := E) (fun _ _ z => z) (ea_cons (ev_var rfl r6) (ea_cons (ev_vI rfl r155) (ea_one (ev_vI rfl r156)))))))) hp (fun F163 H163 _ f163 fr163 hp => ?_) (fun F163 H163 _ f163 fr163 hp => ?_)
            · have r_0 := (t_Line K).mono f163.f r_0
              have r_1 := (yTup K (aCons tInt (aCons (yList (yTup K (aCons tInt (aCons tInt (aOne tInt))))) (aOne (yList (yTup K (aCons tStr (aCons tInt (aCons tInt (aOne tInt)))))))))).mono f163.f r_1
              have r6 := (yList (yTup K (aCons tInt (aCons tInt (aOne tInt))))).mono f163.f r6
              have r7 := (yList (yTup K (aCons tStr (aCons tInt (aCons tInt (aOne tInt)))))).mono f163.f r7
              have r133 := (yList tInt).mono f163.f r133
              try (with_reducible refine st_go ?_)
              exact s_ret (f := fun r => .ok (Fl.rt r)) hX fr163 ev_bl hp ret142
            · have r_0 := (t_Line K).mono f163.f r_0
              have r_1 := (yTup K (aCons tInt (aCons (yList (yTup K (aCons tInt (aCons tInt (aOne tInt))))) (aOne (yList (yTup K (aCons tStr (aCons tInt (aCons tInt (aOne tInt)))))))))).mono f163.f r_1
              have r6 := (yList (yTup K (aCons tInt (aCons tInt (aOne tInt))))).mono f163.f r6
              have r7 := (yList (yTup K (aCons tStr (aCons tInt (aCons tInt (aOne tInt)))))).mono f163.f r7
              have r133 := (yList tInt).mono f163.f r133
              refine st_next ?_
              try (with_reducible refine st_go ?_)
              refine s_if hX fr163 (et_test (ev_neS (ev_reprF (d_opt d_int) (fun a => by cases a <;> rfl) (ev_meth (C := "Line") (mn := "limit") (names := ["end", "limits", "stations"]) (E := E) (fun _ _ z => z) (by decide +kernel) (ev_var rfl r_0) (ea_cons (ev_vI rfl r140) (ea_one (ev_vI rfl r140))))) (ev_reprF (d_opt d_int) (fun a => by cases a <;> rfl) (ev_call (E := E) (fun _ _ z => z) (ea_cons (ev_var rfl r6) (ea_cons (ev_vI rfl r140) (ea_one (ev_vI rfl r140)))))))) hp (fun F168 H168 _ f168 fr168 hp => ?_) (fun F168 H168 _ f168 fr168 hp => ?_)
              · have r_0 := (t_Line K).mono f168.f r_0
                have r_1 := (yTup K (aCons tInt (aCons (yList (yTup K (aCons tInt (aCons tInt (aOne tInt))))) (aOne (yList (yTup K (aCons tStr (aCons tInt (aCons tInt (aOne tInt)))))))))).mono f168.f r_1
                have r6 := (yList (yTup K (aCons tInt (aCons tInt (aOne tInt))))).mono f168.f r6
                have r7 := (yList (yTup K (aCons tStr (aCons tInt (aCons tInt (aOne tInt)))))).mono f168.f r7
                have r133 := (yList tInt).mono f168.f r133
                try (with_reducible refine st_go ?_)
                exact s_ret (f := fun r => .ok (Fl.rt r)) hX fr168 ev_bl hp ret142
              · have r_0 := (t_Line K).mono f168.f r_0
                have r_1 := (yTup K (aCons tInt (aCons (yList (yTup K (aCons tInt (aCons tInt (aOne tInt))))) (aOne (yList (yTup K (aCons tStr (aCons tInt (aCons tInt (aOne tInt)))))))))).mono f168.f r_1
                have r6 := (yList (yTup K (aCons tInt (aCons tInt (aOne tInt))))).mono f168.f r6
                have r7 := (yList (yTup K (aCons tStr (aCons tInt (aCons tInt (aOne tInt)))))).mono f168.f r7
                have r133 := (yList tInt).mono f168.f r133
                refine st_next ?_
                exact hnx () _ F168 H168 (f146.f.trans (f148.f.trans (f152.f.trans (f163.f.trans f168.f)))) ⟨(some v137), (some v138), (some v149), (some v153), (some v154), rfl, fr168⟩ hp
        case hd135 =>
          obtain ⟨w7b170, w8b170, w9b170, w10b170, w11b170, rfl, frM170⟩ := st170
          have r_0 := (t_Line K).mono sm170 r_0
          have r_1 := (yTup K (aCons tInt (aCons (yList (yTup K (aCons tInt (aCons tInt (aOne tInt))))) (aOne (yList (yTup K (aCons tStr (aCons tInt (aCons tInt (aOne tInt)))))))))).mono sm170 r_1
          have r6 := (yList (yTup K (aCons tInt (aCons tInt (aOne tInt))))).mono sm170 r6
          have r7 := (yList (yTup K (aCons tStr (aCons tInt (aCons tInt (aOne tInt)))))).mono sm170 r7
          have r133 := (yList tInt).mono sm170 r133
          try (with_reducible refine st_go ?_)
          exact s_ret0 hX frM170 ev_bl hp ret0
abbrev sp_law (K : PySem.W.Frag) : Sp := SpF K (aOne (tList K tInt)) tBool (fun a => m_law a)
theorem sc_law : FnScope ["_law_script", "_law_told", "_law_lines", "_law_end", "_law_limits", "_law_stations", "_law_handed", "_law_again"] ["_law_script"] (defScope s20) := ⟨rfl, rfl, rfl, by decide +kernel, rfl, by decide +kernel, by decide +kernel⟩
theorem ok_law (g : GF K mg) : LawG P w K mg 5 "law" "_law_script" (sp_law K) := by
  obtain ⟨fd, F⟩ := g.fn_law
  refine ⟨_, fd, fun base => gFn (XT := L2.CX P w) (k := 4) (sp := sp_law K) F sc_law spF_len (fun cdv A outer s H0 vs Q E hr h => ?_), g.g_law, lawBinds F fun _ _ _ _ _ _ _ => rfl⟩
  obtain ⟨F0, script, s0, ra, hp⟩ := h
  obtain ⟨v_0, rfl, r_0⟩ := ra
  have r_0 : (tList K tInt).rep F0 v_0 script := r_0
  have fr0 : Fr F0 H0 F0 H0 := Fr.refl s0
  refine ⟨_, (pss_cons (ps_set (i := 1) sc_law.nd rfl (by first | exact Or.inl rfl | exact Or.inr rfl) (pe_lst (pa_cons (pe_cxK (K := K) rfl (ok__law_line g) hr.rm (by decide) (E := E) (passes_call (takes_of rfl rfl rfl rfl) (fun _ _ _ _ h => h)) (pa_cons (pv 0) (pa_cons pe_int pa_nil))) (pa_cons (pe_cxK (K := K) rfl (ok__law_line g) hr.rm (by decide) (E := E) (passes_call (takes_of rfl rfl rfl rfl) (fun _ _ _ _ h => h)) (pa_cons (pv 0) (pa_cons pe_int pa_nil))) pa_nil))))
      (pss_cons (ps_set (i := 2) sc_law.nd rfl (by first | exact Or.inl rfl | exact Or.inr rfl) (pe_lst pa_nil))
      (pss_cons (ps_for (passes_of rfl) rfl (pi_listK (K := K) rfl (pv 1)) (pg_tupK (K := K) rfl rfl (pgs_cons (pg_name (i := 3) sc_law.nd rfl (by first | exact Or.inl rfl | exact Or.inr rfl)) (pgs_cons (pg_name (i := 4) sc_law.nd rfl (by first | exact Or.inl rfl | exact Or.inr rfl)) (pgs_cons (pg_name (i := 5) sc_law.nd rfl (by first | exact Or.inl rfl | exact Or.inr rfl)) pgs_nil)))) (pss_cons (ps_set (i := 6) sc_law.nd rfl (by first | exact Or.inl rfl | exact Or.inr rfl) (pe_tup (pa_cons (pe_callTy (kc_list (K := K) rfl) (by rfl) g.f_list bt_list (pa_cons (pv 4) pa_nil)) (pa_cons (pe_callTy (kc_list (K := K) rfl) (by rfl) g.f_list bt_list (pa_cons (pv 5) pa_nil)) pa_nil))))
      (pss_cons (ps_expr (pe_bm PySem.F.plainAttrs_list PySem.F.slot_list_append PySem.F.type_list_append mt_append (pv 2) (pa_cons (pe_kxK (K := K) rfl (ok_Line___init__ g) hr.rm (by decide) (E := E) (passes_call (takes_of rfl rfl rfl rfl) (fun _ _ _ _ h => h)) (pa_cons (pv 3) (pa_cons (pe_ix (kx_tup (K := K) rfl) (pv 6) pe_int (fun _ _ => rfl)) (pa_cons (pe_ix (kx_tup (K := K) rfl) (pv 6) pe_int (fun _ _ => rfl)) pa_nil)))) pa_nil)))
      (pss_cons (ps_expr (pe_bm PySem.F.plainAttrs_list PySem.F.slot_list_append PySem.F.type_list_append mt_append (pe_ix (kx_tup (K := K) rfl) (pv 6) pe_int (fun _ _ => rfl)) (pa_cons (pe_tup (pa_cons pe_int (pa_cons pe_int (pa_cons pe_int pa_nil)))) pa_nil)))
      (pss_one (ps_expr (pe_bm0 PySem.F.plainAttrs_list PySem.F.slot_list_clear PySem.F.type_list_clear mt_clear (pe_ix (kx_tup (K := K) rfl) (pv 6) pe_int (fun _ _ => rfl)))))))))
      (pss_cons (ps_for (passes_of rfl) rfl (pi_range1 (by rfl) g.f_range (pa_cons pe_int pa_nil)) (pg_name (i := 7) sc_law.nd rfl (by first | exact Or.inl rfl | exact Or.inr rfl)) (pss_one (ps_if (pt_not (pt_val (pe_cxG (K := K) rfl (ok__law_right g) hr (by decide) (E := E) (passes_call (takes_of rfl rfl rfl rfl) (fun _ _ _ _ h => h)) (pa_cons (pe_ix (kx_list (K := K) rfl) (pv 2) (pe_op op_mod (pv 7) pe_int) (fun _ _ => rfl)) (pa_cons (pe_ix (kx_list (K := K) rfl) (pv 1) (pe_op op_mod (pv 7) pe_int) (fun _ _ => rfl)) (pa_cons (pe_cxK (K := K) rfl (ok__law_number g) hr.rm (by decide) (E := E) (passes_call (takes_of rfl rfl rfl rfl) (fun _ _ _ _ h => h)) (pa_cons (pv 0) (pa_cons (pe_op op_add pe_int (pv 7)) pa_nil))) pa_nil)))))) (pss_one (ps_ret pe_bl)) pss_nil)))
      (pss_one (ps_ret pe_bl)))))), ?_⟩
  obtain ⟨XX, KK, hX, ret0, hp⟩ : ∃ (XX : Exn → Prop) (KK : Bool → Prop), (∀ e, XX e → ∀ (_ : L2.St) F' H', Fr F0 H0 F' H' → XS K E e H') ∧ (∀ (a : Bool) v F9 H9, Fr F0 H0 F9 H9 → tBool.rep F9 v a → Post (.ok a : R Bool) KK XX → Q v H9) ∧ Post (m_law script) KK XX := ⟨(fun e => ∀ F' H', Fr F0 H0 F' H' → XS K E e H'), (fun b => ∀ v F' H', Fr F0 H0 F' H' → tBool.rep F' v b → Q v H'), fun e h _ => h, fun a v F9 H9 f r k => k v F9 H9 f r, hp⟩
  unfold m_law at hp
  try (with_reducible refine st_go ?_)
  refine st_seq ?_
  refine s_asg hX fr0 (ev_of_l (el_is (m' := bd (m__law_line script 0) fun x1 => bd (m__law_line script 60) fun x2 => .ok [x1, x2]) (el_lst (by decide) (er_cons (ev_call (E := E) (fun _ _ z => z) (ea_cons (ev_var rfl r_0) (ea_one ev_int))) (er_cons (ev_call (E := E) (fun _ _ z => z) (ea_cons (ev_var rfl r_0) (ea_one ev_int))) er_nil))) (by simp only [bd_assoc, bd_ok]))) hp (fun told6 v4 F3 H3 _ f3 fr3 r5 hp => ?_)
  have r_0 := (tList K tInt).mono f3.f r_0
  try (with_reducible refine st_go ?_)
  refine st_seq ?_
  refine s_asgL hX fr3 (el_lst (ta := (t_Line K)) (by decide) er_nil) hp (fun lines10 v8 F7 H7 _ f7 fr7 r9 nw11 hp => ?_)
  have r_0 := (tList K tInt).mono f7.f r_0
  have r5 := (yList (yTup K (aCons tInt (aCons (yList (yTup K (aCons tInt (aCons tInt (aOne tInt))))) (aOne (yList (yTup K (aCons tStr (aCons tInt (aCons tInt (aOne tInt))))))))))).mono f7.f r5
  try (with_reducible refine st_go ?_)
  refine st_seq ?_
  refine s_for (W := (fun e (_ : L2.St) H => XS K E e H)) (f := (fun (lines13 : (List M_Line)) (x20 : (Int × (List (Int × Int × Int)) × (List (Str × Int × Int × Int)))) => (bd (.ok x20.2.1) fun a31 =>
bd (.ok x20.2.2) fun b32 =>
bd (m_Line___init__ x20.1 ((a31, b32).1) ((a31, b32).2)) fun y40 =>
bd (addR lines13 y40) fun lines41 =>
bd (.ok (0, 0, 1)) fun y46 =>
bd (addR a31 y46) fun a47 =>
.ok (.nx lines41) : R (Fl (List M_Line) Bool)))) (s0 := lines10) (fun (s : (List M_Line)) (σ : L2.St) (F H : Hp) => ∃ (w2 : V), ∃ (w3 : Option V), ∃ (w4 : Option V), ∃ (w5 : Option V), ∃ (w6 : Option V), σ = [some v_0, some v4, some w2, w3, w4, w5, w6, none] ∧ Fr F0 H0 F H ∧ Own (t_Line K) H0 F H w2 s) hX fr7 (ei_list (ev_wk (ev_var rfl r5))) hp (fun F2 H2 f fr => ?h012) (fun s σ2 F2 H2 h => ?hf12) (fun s σ2 F2 H2 F3 H3 h f => ?hy12) (fun lines13 x20 v12 σ2 FL12 HL12 DL KL hrt sm12 st12 rx12 hp hnx hct hbk hret => ?hb12) (fun lines53 σ2 FM54 HM54 sm54 st54 hp => ?hd12)
  case h012 =>
    have r9 := r9.mono f
    exact ⟨v8, none, none, none, none, rfl, fr, r9⟩
  case hf12 =>
    obtain ⟨w2a12, w3a12, w4a12, w5a12, w6a12, eL, frL, q0a12⟩ := h
    exact frL
  case hy12 =>
    obtain ⟨w2a12, w3a12, w4a12, w5a12, w6a12, eL, frL, q0a12⟩ := h
    exact ⟨w2a12, w3a12, w4a12, w5a12, w6a12, eL, frL.trans f, (q0a12.mono f)⟩
  case hb12 =>
    obtain ⟨w2a12, w3a12, w4a12, w5a12, w6a12, rfl, frL12, q0a12⟩ := st12
    have r_0 := (tList K tInt).mono sm12 r_0
    have r5 := (yList (yTup K (aCons tInt (aCons (yList (yTup K (aCons tInt (aCons tInt (aOne tInt))))) (aOne (yList (yTup K (aCons tStr (aCons tInt (aCons tInt (aOne tInt))))))))))).mono sm12 r5
    refine (tg_tup rfl (tgs_cons fun _ => (tgs_cons fun _ => tgs_one))) _ _ _ _ _ frL12.s rx12 (fun σ3 p12 => ?_)
    obtain ⟨v14, r17, ⟨v15, r18, ⟨v16, rfl, r19⟩⟩⟩ := p12
    have r17 : tInt.rep FL12 v14 x20.1 := r17
    have r18 : (yList (yTup K (aCons tInt (aCons tInt (aOne tInt))))).rep FL12 v15 x20.2.1 := r18
    have r19 : (yList (yTup K (aCons tStr (aCons tInt (aCons tInt (aOne tInt)))))).rep FL12 v16 x20.2.2 := r19
    have ret21 : ∀ (a9 : Bool) v9 F9 H9, Fr F0 H0 F9 H9 → tBool.rep F9 v9 a9 → Post (.ok (.rt a9)) KL XX → DL.rt v9 H9 := fun a9 v9 F9 H9 f9 r9 k9 => by rw [hrt]; exact ret0 a9 v9 F9 H9 f9 r9 (hret a9 k9)
    try (with_reducible refine st_go ?_)
    refine st_seq ?_
    refine s_two (K := K) hX frL12 (el_listOf (ev_wk (ev_var rfl r18))) (el_listOf (ev_wk (ev_var rfl r19))) hp (fun a31 b32 v22 p23 q24 F21 H21 f21 fr21 r25 o26 o27 ne28 nw29 nw30 hp => ?_)
    have ne33 := q0a12.ne nw29
    have ne34 := q0a12.ne nw30
    have r_0 := (tList K tInt).mono f21.f r_0
    have r5 := (yList (yTup K (aCons tInt (aCons (yList (yTup K (aCons tInt (aCons tInt (aOne tInt))))) (aOne (yList (yTup K (aCons tStr (aCons tInt (aCons tInt (aOne tInt))))))))))).mono f21.f r5
    have q0a12 := q0a12.mono f21
    have r18 := (yList (yTup K (aCons tInt (aCons tInt (aOne tInt))))).mono f21.f r18
    have r19 := (yList (yTup K (aCons tStr (aCons tInt (aCons tInt (aOne tInt)))))).mono f21.f r19
    try (with_reducible refine st_go ?_)
    refine st_seq ?_
    refine s_app hX fr21 rfl q0a12 (ev_two (K := K) (thaw_obj (fun _ _ => trivial) (thaw_cons thaw_int (thaw_cons (thaw_tupL (thaw_tup (fun _ => trivial) (thaw_cons thaw_int (thaw_cons thaw_int (thaw_one thaw_int))))) (thaw_one (thaw_tupL (thaw_tup (fun _ => trivial) (thaw_cons thaw_str (thaw_cons thaw_int (thaw_cons thaw_int (thaw_one thaw_int)))))))))) fr21.s r25 ne28 o26 o27 (fun FQ35 sQ35 hQ35 rQ35 => (ev_make (E := E) (fun _ _ z => z) (ea_cons (ev_vI rfl r17) (ea_cons (ev_nth (i := 0) nth_0 (ev_var rfl rQ35)) (ea_one (ev_nth (i := 1) (nth_s nth_one) (ev_var rfl rQ35)))))))) hp (fun lines41 F36 H36 sm38 fr36 r37 kp39 hp => ?_)
    have r_0 := (tList K tInt).mono sm38 r_0
    have r5 := (yList (yTup K (aCons tInt (aCons (yList (yTup K (aCons tInt (aCons tInt (aOne tInt))))) (aOne (yList (yTup K (aCons tStr (aCons tInt (aCons tInt (aOne tInt))))))))))).mono sm38 r5
    have r18 := (yList (yTup K (aCons tInt (aCons tInt (aOne tInt))))).mono sm38 r18
    have r19 := (yList (yTup K (aCons tStr (aCons tInt (aCons tInt (aOne tInt)))))).mono sm38 r19
    have r25 := (tTwo K).mono sm38 r25
    have o26 := o26.kept kp39 (Ne.symm ne33)
    have o27 := o27.kept kp39 (Ne.symm ne34)
    try (with_reducible refine st_go ?_)
    refine st_seq ?_
    refine s_appE (v := p23) hX fr36 (at_two (K := K) r25 nth_0 rfl) o26 (ev_tup (K := K) (Nat.le_of_ble_eq_true rfl) (ea_cons ev_int (ea_cons ev_int (ea_one ev_int)))) hp (fun a47 F42 H42 sm44 fr42 r43 kp45 hp => ?_)
    have r_0 := (tList K tInt).mono sm44 r_0
    have r5 := (yList (yTup K (aCons tInt (aCons (yList (yTup K (aCons tInt (aCons tInt (aOne tInt))))) (aOne (yList (yTup K (aCons tStr (aCons tInt (aCons tInt (aOne tInt))))))))))).mono sm44 r5
    have r18 := (yList (yTup K (aCons tInt (aCons tInt (aOne tInt))))).mono sm44 r18
    have r19 := (yList (yTup K (aCons tStr (aCons tInt (aCons tInt (aOne tInt)))))).mono sm44 r19
    have r25 := (tTwo K).mono sm44 r25
    have r37 := r37.kept kp45 (ne33)
    have o27 := o27.kept kp45 (ne28)
    try (with_reducible refine st_go ?_)
    refine s_clearE (v := q24) (W := (fun e (_ : L2.St) H => XS K E e H)) fr42 (at_two (K := K) r25 (nth_s nth_one) rfl) o27 (fun F48 H48 sm50 fr48 r49 kp51 => ?_)
    have r_0 := (tList K tInt).mono sm50 r_0
    have r5 := (yList (yTup K (aCons tInt (aCons (yList (yTup K (aCons tInt (aCons tInt (aOne tInt))))) (aOne (yList (yTup K (aCons tStr (aCons tInt (aCons tInt (aOne tInt))))))))))).mono sm50 r5
    have r18 := (yList (yTup K (aCons tInt (aCons tInt (aOne tInt))))).mono sm50 r18
    have r19 := (yList (yTup K (aCons tStr (aCons tInt (aCons tInt (aOne tInt)))))).mono sm50 r19
    have r25 := (tTwo K).mono sm50 r25
    have r37 := r37.kept kp51 (ne34)
    have r43 := r43.kept kp51 (Ne.symm ne28)
    exact hnx lines41 _ F48 H48 (f21.f.trans (sm38.trans (sm44.trans sm50))) ⟨w2a12, (some v14), (some v15), (some v16), (some v22), rfl, fr48, r37⟩ hp
  case hd12 =>
    obtain ⟨w2b54, w3b54, w4b54, w5b54, w6b54, rfl, frM54, q0b54⟩ := st54
    have r_0 := (tList K tInt).mono sm54 r_0
    have r5 := (yList (yTup K (aCons tInt (aCons (yList (yTup K (aCons tInt (aCons tInt (aOne tInt))))) (aOne (yList (yTup K (aCons tStr (aCons tInt (aCons tInt (aOne tInt))))))))))).mono sm54 r5
    try (with_reducible refine st_go ?_)
    refine st_seq ?_
    obtain ⟨F55, fr56, sm57, r58, kp59⟩ := q0b54.freeze frM54
    have r_0 := (tList K tInt).mono sm57 r_0
    have r5 := (yList (yTup K (aCons tInt (aCons (yList (yTup K (aCons tInt (aCons tInt (aOne tInt))))) (aOne (yList (yTup K (aCons tStr (aCons tInt (aCons tInt (aOne tInt))))))))))).mono sm57 r5
    refine s_for (W := (fun e (_ : L2.St) H => XS K E e H)) (f := (fun (s61 : Unit) (again64 : Int) => (bd (bd (bd (atR lines53 (again64 % 2)) fun x65 => bd (atR told6 (again64 % 2)) fun x66 => bd (m__law_number script (120 + again64)) fun x67 => m__law_right x65 x66 x67) fun x68 => .ok (!x68)) fun c => if c = true then (
.ok (.rt false))
else (
.ok (.nx ())) : R (Fl Unit Bool)))) (s0 := ()) (fun (s : Unit) (σ : L2.St) (F H : Hp) => ∃ (w7 : Option V), σ = [some v_0, some v4, some w2b54, w3b54, w4b54, w5b54, w6b54, w7] ∧ Fr F0 H0 F H) hX fr56 (ei_range1 ev_int) hp (fun F2 H2 f fr => ?h060) (fun s σ2 F2 H2 h => ?hf60) (fun s σ2 F2 H2 F3 H3 h f => ?hy60) (fun s61 again64 v62 σ2 FL60 HL60 DL KL hrt sm60 st60 rx60 hp hnx hct hbk hret => ?hb60) (fun s70 σ2 FM71 HM71 sm71 st71 hp => ?hd60)
    case h060 =>
      exact ⟨none, rfl, fr⟩
    case hf60 =>
      obtain ⟨w7a60, eL, frL⟩ := h
      exact frL
    case hy60 =>
      obtain ⟨w7a60, eL, frL⟩ := h
      exact ⟨w7a60, eL, frL.trans f⟩
    case hb60 =>
      obtain ⟨w7a60, rfl, frL60⟩ := st60
      have r_0 := (tList K tInt).mono sm60 r_0
      have r5 := (yList (yTup K (aCons tInt (aCons (yList (yTup K (aCons tInt (aCons tInt (aOne tInt))))) (aOne (yList (yTup K (aCons tStr (aCons tInt (aCons tInt (aOne tInt))))))))))).mono sm60 r5
      have r58 := (yList (t_Line K)).mono sm60 r58
      refine st_gn ?_
      have ret65 : ∀ (a9 : Bool) v9 F9 H9, Fr F0 H0 F9 H9 → tBool.rep F9 v9 a9 → Post (.ok (.rt a9)) KL XX → DL.rt v9 H9 := fun a9 v9 F9 H9 f9 r9 k9 => by rw [hrt]; exact ret0 a9 v9 F9 H9 f9 r9 (hret a9 k9)
      try (with_reducible refine st_go ?_)
      refine s_if hX frL60 (et_not (et_val (ev_is (m' := bd (atR lines53 (again64 % 2)) fun x65 => bd (atR told6 (again64 % 2)) fun x66 => bd (m__law_number script (120 + again64)) fun x67 => m__law_right x65 x66 x67) (ev_call (E := E) (fun _ _ z => z) (ea_cons (ev_ixL (ev_wk (ev_var rfl r58)) (ev_modC (by decide) (ev_vI rfl rx60) ev_int)) (ea_cons (ev_ixL (ev_wk (ev_var rfl r5)) (ev_modC (by decide) (ev_vI rfl rx60) ev_int)) (ea_one (ev_call (E := E) (fun _ _ z => z) (ea_cons (ev_var rfl r_0) (ea_one (ev_add ev_int (ev_vI rfl rx60))))))))) (by simp only [bd_assoc, bd_ok])))) hp (fun F69 H69 _ f69 fr69 hp => ?_) (fun F69 H69 _ f69 fr69 hp => ?_)
      · have r_0 := (tList K tInt).mono f69.f r_0
        have r5 := (yList (yTup K (aCons tInt (aCons (yList (yTup K (aCons tInt (aCons tInt (aOne tInt))))) (aOne (yList (yTup K (aCons tStr (aCons tInt (aCons tInt (aOne tInt))))))))))).mono f69.f r5
        have r58 := (yList (t_Line K)).mono f69.f r58
        try (with_reducible refine st_go ?_)
        exact s_ret (f := fun r => .ok (Fl.rt r)) hX fr69 ev_bl hp ret65
      · have r_0 := (tList K tInt).mono f69.f r_0
        have r5 := (yList (yTup K (aCons tInt (aCons (yList (yTup K (aCons tInt (aCons tInt (aOne tInt))))) (aOne (yList (yTup K (aCons tStr (aCons tInt (aCons tInt (aOne tInt))))))))))).mono f69.f r5
        have r58 := (yList (t_Line K)).mono f69.f r58
        refine st_next ?_
        exact hnx () _ F69 H69 f69.f ⟨(some v62), rfl, fr69⟩ hp
    case hd60 =>
      obtain ⟨w7b71, rfl, frM71⟩ := st71
      have r_0 := (tList K tInt).mono sm71 r_0
      have r5 := (yList (yTup K (aCons tInt (aCons (yList (yTup K (aCons tInt (aCons tInt (aOne tInt))))) (aOne (yList (yTup K (aCons tStr (aCons tInt (aCons tInt (aOne tInt))))))))))).mono sm71 r5
      have r58 := (yList (t_Line K)).mono sm71 r58
      try (with_reducible refine st_go ?_)
      exact s_ret0 hX frM71 ev_bl hp ret0
end
def loose : List Str := (["__name__", "LineError", "BadLine", "NoStation", "LETTERS", "MOST_LETTERS", "MOST_NUMBER", "is_name", "is_among", "MOST_SPEED", "MOST_LIMITS", "MOST_STATIONS", "LEAST_TRACKS", "MOST_TRACKS", "is_limit", "is_station", "are_in_order", "is_list", "Line", "_law_mixed", "_law_number", "_law_names", "_law_line", "_law_text", "_law_places", "_law_least", "_law_at", "_law_right"] : List Str)
abbrev Rw : PySem.W.OpenRow := PySem.W.OpenLaw.row PySem.Challenge.rw_brakeline_k04_lines
abbrev hk : PySem.W.Hook := hookX 5 fa fn fx
def ob (s : PySem.W.SharedT) : He.AlD × Bool := (He.obsDG 5 fa fn (HandSHeadRun.getT s), fx (He.frG (HandSHeadRun.getT s) (He.asD (HandSHeadRun.getT s) 5)))
theorem ob_eq (s : PySem.W.SharedT) : ob s = hk.obs s.abs := by
  have e : HandSHeadRun.getT s = s.abs.heap.get? := funext (HandSHeadRun.getT_eq s)
  show (He.obsDG 5 fa fn (HandSHeadRun.getT s), fx (He.frG (HandSHeadRun.getT s) (He.asD (HandSHeadRun.getT s) 5))) = _
  rw [e] <;> rfl
theorem run (w : World) : HandSHeadRun.RunEq Rw (PySem.W.view Rw.prog [31]) hk ob 20000 loose w := by
  intro os
  kernel_rfl
end Br
namespace Br
open PySem PySem.Spec PyProof.Rows L2 TL
/-! ### numbers of the script -/
theorem mixed_ok (c k : Int) (h1 : -(2 ^ 40) < k) (h2 : k < 2 ^ 40) : OkQ (m__law_mixed c k) fun x => 0 ≤ x ∧ x < 536870908 := by
  unfold m__law_mixed
  rw [mulR_ok (Or.inr ⟨by omega, by omega⟩)]
  simp only [bd_ok]
  generalize hn : (c % 1000000007 + 7919 * k * k + 31 * k + 17) * 48271 % 2147483647 = n
  have h0 : 0 ≤ n := by rw [← hn]; exact Int.emod_nonneg _ (by decide)
  have h1 : n < 2147483647 := by rw [← hn]; exact Int.emod_lt_of_pos _ (by decide)
  rw [mulR_ok (Or.inl ⟨by omega, by omega⟩)]
  simp only [bd_ok]
  have g0 := Int.emod_nonneg (n * (n % 65521 + 16807)) (show (2147483629 : Int) ≠ 0 by decide)
  have g1 := Int.emod_lt_of_pos (n * (n % 65521 + 16807)) (show (0 : Int) < 2147483629 by decide)
  exact okq ⟨by omega, by omega⟩
theorem number_ok (s : List Int) (k : Int) (h1 : -(2 ^ 40) < k) (h2 : k < 2 ^ 40) : OkQ (m__law_number s k) fun x => 0 ≤ x ∧ x < 536870908 := by
  unfold m__law_number
  rw [bd_ok, bd_ok]
  by_cases h : (s.length : Int) > 0
  · rw [decide_eq_true h, if_pos rfl, modR_ok h, bd_ok]
    obtain ⟨x, e, _⟩ := atR_ok (xs := s) (i := k % (s.length : Int)) (Int.emod_nonneg _ (by omega)) (Int.emod_lt_of_pos _ h)
    rw [e, bd_ok]
    exact mixed_ok x k h1 h2
  · rw [decide_eq_false h, if_neg Bool.false_ne_true]
    exact mixed_ok 0 k h1 h2
/-! ### texts, sign by sign -/
theorem str_ext {a b : Str} (h : a.cps.toList = b.cps.toList) : a = b := by
  obtain ⟨a⟩ := a
  obtain ⟨b⟩ := b
  have h : a.toList = b.toList := h
  rw [Array.toList_inj.mp h]
theorem str_len (a : Str) : a.length = a.cps.toList.length := Array.length_toList.symm
def hd (s : Str) : Nat := s.cps.toList.headD 0
theorem signs_mem {w x : Str} (h : x ∈ signsOf w) : x = ⟨#[hd x]⟩ ∧ hd x ∈ w.cps.toList := by
  obtain ⟨c, hc, rfl⟩ := List.mem_map.mp h
  exact ⟨rfl, hc⟩
theorem signs_all (w : Str) (p : Nat → Bool) : (signsOf w).all (fun x => p (hd x)) = w.cps.toList.all p := by
  unfold signsOf
  rw [List.all_map]
  rfl
theorem signs_len (w : Str) : (signsOf w).length = w.length := by
  unfold signsOf
  rw [List.length_map, str_len]
theorem inSR_one {x z : Str} (h : x = ⟨#[hd x]⟩) : inSR x z = .ok (decide (hd x ∈ z.cps.toList)) := by
  rw [h]
  rfl
theorem notInSR_one {x z : Str} (h : x = ⟨#[hd x]⟩) : notInSR x z = .ok (!decide (hd x ∈ z.cps.toList)) := by
  rw [h]
  rfl
theorem lenSR_ok {w : Str} (h : w.length ≤ 100000) : lenSR w = .ok (w.length : Int) := by
  unfold lenSR
  rw [if_pos h]
theorem catSR_ok {a b : Str} (h : a.length + b.length ≤ 100000) : catSR a b = .ok (a ++ b) := by
  unfold catSR
  rw [if_pos h]
theorem okq_cat {a b : Str} {n m : Nat} (h1 : a.length ≤ n) (h2 : b.length ≤ m) (h : n + m ≤ 100000) : OkQ (catSR a b) fun w => w.length ≤ n + m := by
  rw [catSR_ok (by omega)]
  exact okq (by rw [PySem.Str.length_append]; omega)
theorem okq_cut {z : Str} {lo hi : Option Int} {n : Nat} (h : z.length ≤ n) (hn : n ≤ 100000) : OkQ (cutSR z lo hi) fun w => w.length ≤ n := by
  unfold cutSR
  rw [if_pos (by omega)]
  exact okq (Nat.le_trans (cutS_length z lo hi) h)
theorem okq_sign {z : Str} {i : Int} (h0 : 0 ≤ i) (h1 : i < z.length) (h : z.length ≤ 100000) : OkQ (signR z i) fun w => w.length = 1 := by
  unfold signR
  rw [if_pos h]
  obtain ⟨x, e, _⟩ := atI_nat (xs := z.cps.toList) h0 (by rw [← str_len]; exact h1)
  rw [e]
  exact okq rfl
/-- a text of at most n signs, all of ASCII -/
def As (n : Nat) (w : Str) : Prop := w.length ≤ n ∧ ∀ c ∈ w.cps.toList, c < 128
theorem As.mono {n m : Nat} {w : Str} (h : As n w) (k : n ≤ m) : As m w := ⟨Nat.le_trans h.1 k, h.2⟩
def asB (n : Nat) (w : Str) : Bool := decide (w.length ≤ n) && w.cps.toList.all fun c => decide (c < 128)
theorem as_of {n : Nat} {w : Str} (h : asB n w = true) : As n w := by
  unfold asB at h
  rw [Bool.and_eq_true, decide_eq_true_eq, List.all_eq_true] at h
  exact ⟨h.1, fun c hc => of_decide_eq_true (h.2 c hc)⟩
theorem As.app {a b : Str} {n m : Nat} (h1 : As n a) (h2 : As m b) : As (n + m) (a ++ b) := by
  refine ⟨by rw [PySem.Str.length_append]; have := h1.1; have := h2.1; omega, fun c hc => ?_⟩
  have e : (a ++ b).cps.toList = a.cps.toList ++ b.cps.toList := TL.tl_append a b
  rw [e] at hc
  rcases List.mem_append.mp hc with hc | hc
  · exact h1.2 c hc
  · exact h2.2 c hc
theorem as_cat {a b : Str} {n m : Nat} (h1 : As n a) (h2 : As m b) (h : n + m ≤ 100000) : OkQ (catSR a b) (As (n + m)) := by
  rw [catSR_ok (by have := h1.1; have := h2.1; omega)]
  exact okq (h1.app h2)
theorem as_cut {z : Str} {lo hi : Option Int} {n : Nat} (h : As n z) (hn : n ≤ 100000) : OkQ (cutSR z lo hi) (As n) := by
  unfold cutSR
  rw [if_pos (by have := h.1; omega)]
  refine okq ⟨Nat.le_trans (cutS_length z lo hi) h.1, fun c hc => h.2 c ?_⟩
  have hc : c ∈ (z.cps.toList.drop (HT.sIx z.length 0 lo)).take (HT.sIx z.length z.length hi - HT.sIx z.length 0 lo) := hc
  exact List.mem_of_mem_drop (List.mem_of_mem_take hc)
theorem as_sign {z : Str} {i : Int} {n : Nat} (h0 : 0 ≤ i) (h1 : i < z.length) (h : As n z) (hn : n ≤ 100000) : OkQ (signR z i) (As 1) := by
  unfold signR
  rw [if_pos (by have := h.1; omega)]
  obtain ⟨x, e, g⟩ := atI_nat (xs := z.cps.toList) h0 (by rw [← str_len]; exact h1)
  rw [e]
  refine okq ⟨Nat.le_refl _, fun c hc => ?_⟩
  have hc : c ∈ [x] := hc
  rw [List.mem_singleton.mp hc]
  exact h.2 x (List.mem_of_getElem? g)
theorem as_join0 {a : Str} {m : Nat} (ha : As m a) {k : Nat} : ∀ {ys : List Str}, (∀ y ∈ ys, As k y) → ∀ c ∈ (Str.join a ys).cps.toList, c < 128
  | [], _, c, hc => nomatch (show c ∈ ([] : List Nat) from hc)
  | [x], h, c, hc => (h x List.mem_cons_self).2 c hc
  | x :: y :: r, h, c, hc => by
    have e : (Str.join a (x :: y :: r)).cps.toList = x.cps.toList ++ a.cps.toList ++ (Str.join a (y :: r)).cps.toList := by
      show (x ++ a ++ Str.join a (y :: r)).cps.toList = _
      rw [show ∀ p q : Str, (p ++ q).cps.toList = p.cps.toList ++ q.cps.toList from fun p q => TL.tl_append p q, show (x ++ a).cps.toList = _ from TL.tl_append x a] <;> rfl
    rw [e] at hc
    rcases List.mem_append.mp hc with hc | hc
    · rcases List.mem_append.mp hc with hc | hc
      · exact (h x List.mem_cons_self).2 c hc
      · exact ha.2 c hc
    · exact as_join0 ha (ys := y :: r) (fun z m => h z (List.mem_cons_of_mem _ m)) c hc
theorem okq_compR {α β : Type} {e : α → R β} {P : β → Prop} {xs : List α} (hl : xs.length ≤ 100000) (h : ∀ x ∈ xs, OkQ (e x) P) : OkQ (compR (fun _ => .ok true) e xs) fun ys => ys.length = xs.length ∧ ∀ y ∈ ys, P y := by
  unfold compR
  rw [if_pos hl]
  clear hl
  induction xs with
  | nil => exact okq ⟨rfl, fun y m => nomatch m⟩
  | cons x xs ih =>
    obtain ⟨y, ey, py⟩ := h x List.mem_cons_self
    obtain ⟨ys, eys, l, pys⟩ := ih fun z m => h z (List.mem_cons_of_mem _ m)
    unfold compL
    rw [show quiet (R.ok true) = .ok true from rfl, bd_ok, if_pos rfl, ey, show quiet (R.ok y) = .ok y from rfl, bd_ok, eys, bd_ok]
    refine okq ⟨by rw [List.length_cons, List.length_cons, l], fun z m => ?_⟩
    rcases List.mem_cons.mp m with rfl | m
    · exact py
    · exact pys z m
theorem sum_ones : ∀ {ys : List Str} {k : Nat}, (∀ y ∈ ys, y.length ≤ k) → (ys.map (·.length)).sum ≤ k * ys.length
  | [], _, _ => Nat.le_refl _
  | y :: ys, k, h => by
    have := sum_ones (ys := ys) fun z m => h z (List.mem_cons_of_mem _ m)
    have := h y List.mem_cons_self
    rw [List.map_cons, List.sum_cons, List.length_cons, Nat.mul_succ]
    omega
theorem okq_join {a : Str} {ys : List Str} {k n m : Nat} (h : ∀ y ∈ ys, y.length ≤ k) (hn : ys.length ≤ n) (ha : a.length ≤ m) (hs : k * n + n * m ≤ 100000) : OkQ (joinSR a ys) fun w => w.length ≤ k * n + n * m := by
  have s := sum_ones h
  have s1 := Nat.mul_le_mul_left k hn
  have s2 := Nat.mul_le_mul hn ha
  unfold joinSR
  rw [if_pos (by omega)]
  refine okq ?_
  show (Builtin.Str.glued a ys).length ≤ _
  rw [StrLaws.glued_eq_join]
  exact Nat.le_trans (StrLaws.join_length_le a ys) (by omega)
theorem as_join {a : Str} {ys : List Str} {k n m : Nat} (h : ∀ y ∈ ys, As k y) (hn : ys.length ≤ n) (ha : As m a) (hs : k * n + n * m ≤ 100000) : OkQ (joinSR a ys) (As (k * n + n * m)) := by
  obtain ⟨w, e, l⟩ := okq_join (fun y m => (h y m).1) hn ha.1 hs
  refine ⟨w, e, l, fun c hc => ?_⟩
  unfold joinSR at e
  split at e
  · injection e with e
    have e2 : w = Str.join a ys := by
      rw [← e]
      show Builtin.Str.glued a ys = _
      rw [StrLaws.glued_eq_join]
    rw [e2] at hc
    exact as_join0 ha h c hc
  · cases e
theorem as_num (n : Nat) (h : n < 10 ^ 40) : As 41 (Str.ofString (toString (n : Int))) := by
  refine ⟨(sh_int (i := (n : Int)) (by simpa using h)).l, fun c hc => ?_⟩
  have e : (Str.ofString (toString (n : Int))).cps.toList = numL n := tl_num n
  rw [e] at hc
  have := numL_digits n c hc
  omega
theorem as_ok {w : Str} {n : Nat} (h : As n w) : (PyData.str w).canLay0 = true := by
  simp only [PyData.canLay0]
  rw [PyData.strOk, ← Array.all_toList, List.all_eq_true]
  intro c hc
  have := h.2 c hc
  exact decide_eq_true (by omega)
theorem lay_strs {n : Nat} : ∀ {xs : List Str}, (∀ x ∈ xs, As n x) → PyData.canLayAll0 (xs.map PyData.str) = true
  | [], _ => rfl
  | x :: xs, h => by
    simp only [List.map_cons, PyData.canLayAll0, as_ok (h x List.mem_cons_self), lay_strs (xs := xs) fun y m => h y (List.mem_cons_of_mem _ m), Bool.and_self]
theorem signs_as {w x : Str} {n : Nat} (h : As n w) (m : x ∈ signsOf w) : As 1 x := by
  obtain ⟨e, hc⟩ := signs_mem m
  have := h.2 _ hc
  rw [e]
  refine ⟨Nat.le_refl _, fun c hc => ?_⟩
  have hc : c ∈ [hd x] := hc
  rw [List.mem_singleton.mp hc]
  exact this
theorem eqDR_nil {d : List PyData} (h : PyData.canLayAll0 d = true) : eqDR (.list d) (.list []) = .ok d.isEmpty := by
  unfold eqDR
  rw [if_pos ⟨by simpa [PyData.canLay0] using h, rfl⟩]
  cases d <;> rfl
theorem strIR_ok {i : Int} (h : i.natAbs < 10 ^ 40) : strIR i = .ok (Str.ofString (toString i)) ∧ (Str.ofString (toString i)).length ≤ 41 := by
  have z := sh_int h
  have c : i.natAbs.log2 < 1920 := by
    have := z.s
    simpa [PyData.showable] using this
  refine ⟨?_, z.l⟩
  unfold strIR
  rw [if_pos c]
theorem lettersL : ("abcdefghijklmnopqrstuvwxyz" : Str).cps.toList = [97, 98, 99, 100, 101, 102, 103, 104, 105, 106, 107, 108, 109, 110, 111, 112, 113, 114, 115, 116, 117, 118, 119, 120, 121, 122] := by decide +kernel
theorem figuresL : ("0123456789" : Str).cps.toList = [48, 49, 50, 51, 52, 53, 54, 55, 56, 57] := by decide +kernel
theorem in_letters (c : Nat) : decide (c ∈ ("abcdefghijklmnopqrstuvwxyz" : Str).cps.toList) = (decide (97 ≤ c) && decide (c ≤ 122)) := by
  rw [lettersL, ← Bool.decide_and]
  refine decide_eq_decide.mpr ?_
  simp only [List.mem_cons, List.not_mem_nil, or_false]
  omega
theorem in_figures (c : Nat) : decide (c ∈ ("0123456789" : Str).cps.toList) = (decide (48 ≤ c) && decide (c ≤ 57)) := by
  rw [figuresL, ← Bool.decide_and]
  refine decide_eq_decide.mpr ?_
  simp only [List.mem_cons, List.not_mem_nil, or_false]
  omega
theorem leS_one (a c : Nat) : leS ⟨#[a]⟩ ⟨#[c]⟩ = decide (a ≤ c) := by
  unfold leS
  show (!decide ([c] < [a])) = _
  have e : ([c] < [a]) ↔ c < a := by
    constructor
    · intro h
      cases h with
      | rel h => exact h
      | cons h => cases h
    · intro h
      exact .rel h
  rw [show decide ([c] < [a]) = decide (c < a) from decide_eq_decide.mpr e]
  by_cases h : c < a
  · rw [decide_eq_true h, decide_eq_false (by omega)]
    rfl
  · rw [decide_eq_false h, decide_eq_true (by omega)]
    rfl
/-! ### numbers and their figures -/
open NumText
def figB (L : List Nat) : Bool := L.all fun c => decide (48 ≤ c) && decide (c ≤ 57)
theorem figB_all {L : List Nat} (h : figB L = true) : AllDigits L := fun c hc => by
  have := List.all_eq_true.mp h c hc
  simpa using this
theorem all_figB {L : List Nat} (h : AllDigits L) : figB L = true := List.all_eq_true.mpr fun c hc => by
  have := h c hc
  simpa using this
theorem val_snoc (L : List Nat) (c : Nat) : digitsVal (L ++ [c]) = digitsVal L * 10 + (c - 48) := by
  unfold digitsVal
  rw [List.foldl_append]
  rfl
theorem val_pos {L : List Nat} : ∀ {a : Nat}, 1 ≤ a → 1 ≤ L.foldl (fun acc c => acc * 10 + (c - 48)) a := by
  induction L with
  | nil => intro a h; exact h
  | cons c r ih =>
    intro a h
    show 1 ≤ r.foldl (fun acc c => acc * 10 + (c - 48)) (a * 10 + (c - 48))
    exact ih (by omega)
theorem val_head {c : Nat} {r : List Nat} (h : 49 ≤ c) : 1 ≤ digitsVal (c :: r) := val_pos (L := r) (a := 0 * 10 + (c - 48)) (by omega)
theorem val_lt : ∀ {L : List Nat} (a : Nat), AllDigits L → L.foldl (fun acc c => acc * 10 + (c - 48)) a < (a + 1) * 10 ^ L.length
  | [], a, _ => by simp
  | c :: r, a, h => by
    have hc := h.head
    have := val_lt (L := r) (a * 10 + (c - 48)) h.tail
    rw [List.foldl_cons, List.length_cons, Nat.pow_succ]
    refine Nat.lt_of_lt_of_le this ?_
    have : (a * 10 + (c - 48) + 1) ≤ (a + 1) * 10 := by omega
    calc _ ≤ ((a + 1) * 10) * 10 ^ r.length := Nat.mul_le_mul_right _ this
      _ = _ := by rw [Nat.mul_assoc, Nat.mul_comm 10]
theorem num_head : ∀ (n : Nat), 1 ≤ n → ∃ c r, numL n = c :: r ∧ 49 ≤ c := by
  intro n
  induction n using Nat.strongRecOn with
  | _ n ih =>
    intro h1
    by_cases h : n < 10
    · rw [numL_lt h]
      exact ⟨_, _, rfl, by omega⟩
    · obtain ⟨c, r, e, hc⟩ := ih (n / 10) (by omega) (by omega)
      rw [numL_step (by omega), e]
      exact ⟨c, _, rfl, hc⟩
/-- a row of figures without a 0 ahead is its number's -/
theorem num_val {L : List Nat} (h : AllDigits L) (hne : L ≠ []) (h0 : L = [48] ∨ L.head? ≠ some 48) : numL (digitsVal L) = L := by
  have aux : ∀ n (L : List Nat), L.length = n → AllDigits L → L ≠ [] → (L = [48] ∨ L.head? ≠ some 48) → numL (digitsVal L) = L := by
    intro n
    induction n with
    | zero => intro L hl _ hne _; exact absurd (List.length_eq_zero_iff.mp hl) hne
    | succ n ih =>
      intro L hl h hne h0
      obtain ⟨M, c, rfl⟩ : ∃ M c, L = M ++ [c] := ⟨L.dropLast, L.getLast hne, (List.dropLast_concat_getLast hne).symm⟩
      have hc := h c (List.mem_append_right _ (List.mem_singleton.mpr rfl))
      cases M with
      | nil =>
        rw [val_snoc]
        show numL (0 * 10 + (c - 48)) = [c]
        rw [numL_lt (by omega)]
        congr 1
        omega
      | cons d r =>
        have hM : AllDigits (d :: r) := fun x hx => h x (List.mem_append_left _ hx)
        have hd := hM.head
        have hd2 : d ≠ 48 := by
          rcases h0 with h0 | h0
          · have := congrArg List.length h0
            simp at this
          · intro e
            subst e
            exact h0 rfl
        have := ih (d :: r) (by rw [List.length_append] at hl; simpa using hl) hM (by simp) (Or.inr fun e => hd2 (by simpa using e))
        have p := val_head (c := d) (r := r) (by omega)
        rw [val_snoc, numL_step (by omega), show (digitsVal (d :: r) * 10 + (c - 48)) / 10 = digitsVal (d :: r) by omega, show (digitsVal (d :: r) * 10 + (c - 48)) % 10 = c - 48 by omega, this]
        congr 2
        omega
  exact aux L.length L rfl h hne h0
theorem val_num {L : List Nat} (h : AllDigits L) (e : numL (digitsVal L) = L) : L = [48] ∨ L.head? ≠ some 48 := by
  by_cases p : 1 ≤ digitsVal L
  · obtain ⟨c, r, e2, hc⟩ := num_head _ p
    rw [e] at e2
    right
    rw [e2]
    intro z
    simp at z
    omega
  · left
    rw [show digitsVal L = 0 by omega] at e
    rw [← e]
    rfl
theorem str_num (n : Nat) (w : Str) : (Str.ofString (toString (n : Int)) = w) ↔ numL n = w.cps.toList := by
  constructor
  · intro h
    rw [← h]
    exact (tl_num n).symm
  · intro h
    refine str_ext ?_
    rw [← h]
    exact tl_num n
theorem intSR_ok {w : Str} (h : AllDigits w.cps.toList) (hne : w.cps.toList ≠ []) (hl : w.length ≤ 640) : intSR w = .ok ((digitsVal w.cps.toList : Nat) : Int) := by
  unfold intSR
  rw [if_pos hl, intText_digits h hne (by omega)]
theorem index_fig {c : Nat} (h : 48 ≤ c ∧ c ≤ 57) : indexSR "0123456789" ⟨#[c]⟩ = .ok ((c : Int) - 48) := by
  have : c = 48 ∨ c = 49 ∨ c = 50 ∨ c = 51 ∨ c = 52 ∨ c = 53 ∨ c = 54 ∨ c = 55 ∨ c = 56 ∨ c = 57 := by omega
  rcases this with rfl | rfl | rfl | rfl | rfl | rfl | rfl | rfl | rfl | rfl <;> kernel_rfl
/-! ### the drawn names, the drawn line -/
def nameB (w : Str) : Bool := decide (1 ≤ w.length) && decide (w.length ≤ 8) && w.cps.toList.all fun c => decide (97 ≤ c) && decide (c ≤ 122)
def Low (w : Str) : Prop := ∀ c ∈ w.cps.toList, 97 ≤ c ∧ c ≤ 122
theorem tl_cat (a b : Str) : (a ++ b).cps.toList = a.cps.toList ++ b.cps.toList := TL.tl_append a b
theorem Low.cat {a b : Str} (h1 : Low a) (h2 : Low b) : Low (a ++ b) := fun c hc => by
  rw [tl_cat] at hc
  exact (List.mem_append.mp hc).elim (h1 c) (h2 c)
theorem Low.as {a : Str} {n : Nat} (h : Low a) (k : a.length ≤ n) : As n a := ⟨k, fun c hc => by have := h c hc; omega⟩
theorem name_of {w : Str} (h : Low w) (h1 : 1 ≤ w.length) (h2 : w.length ≤ 8) : nameB w = true := by
  unfold nameB
  rw [decide_eq_true h1, decide_eq_true h2, Bool.true_and, List.all_eq_true.mpr fun c hc => by
    have := h c hc
    rw [decide_eq_true this.1, decide_eq_true this.2]
    rfl]
  rfl
theorem name_low {w : Str} (h : nameB w = true) : Low w ∧ 1 ≤ w.length ∧ w.length ≤ 8 := by
  unfold nameB at h
  simp only [Bool.and_eq_true, decide_eq_true_eq, List.all_eq_true] at h
  exact ⟨h.2, h.1.1, h.1.2⟩
def letter (i : Int) : Str := ⟨#[97 + i.toNat]⟩
theorem letter_at {i : Int} (h0 : 0 ≤ i) (h1 : i < 26) : signR ("abcdefghijklmnopqrstuvwxyz" : Str) i = .ok (letter i) := by
  have l26 : ("abcdefghijklmnopqrstuvwxyz" : Str).length = 26 := by decide +kernel
  unfold signR
  rw [if_pos (by rw [l26]; decide)]
  obtain ⟨x, e, g⟩ := atI_nat (xs := ("abcdefghijklmnopqrstuvwxyz" : Str).cps.toList) h0 (by rw [← str_len, l26]; exact h1)
  rw [e]
  rw [lettersL] at g
  have : i.toNat < 26 := by omega
  have all : ∀ j < 26, ([97, 98, 99, 100, 101, 102, 103, 104, 105, 106, 107, 108, 109, 110, 111, 112, 113, 114, 115, 116, 117, 118, 119, 120, 121, 122] : List Nat)[j]? = some (97 + j) := by decide
  rw [all _ this] at g
  cases g
  rfl
theorem letter_low {i : Int} (h1 : i < 26) : Low (letter i) := fun c hc => by
  have hc : c ∈ [97 + i.toNat] := hc
  have := List.mem_singleton.mp hc
  omega
theorem low_join : ∀ {ys : List Str}, (∀ y ∈ ys, Low y) → Low (Str.join ("" : Str) ys)
  | [], _ => fun c hc => nomatch (show c ∈ ([] : List Nat) from hc)
  | [x], h => h x List.mem_cons_self
  | x :: y :: r, h => by
    have e : ("" : Str).cps.toList = [] := by decide +kernel
    refine Low.cat (a := x ++ "") (Low.cat (h x List.mem_cons_self) fun c hc => ?_) (low_join (ys := y :: r) fun z m => h z (List.mem_cons_of_mem _ m))
    rw [e] at hc
    cases hc
theorem join_low {ys : List Str} (h : ∀ y ∈ ys, Low y ∧ y.length = 1) (hn : ys.length ≤ 1000) : ∃ w, joinSR ("" : Str) ys = .ok w ∧ Low w ∧ w.length = ys.length := by
  have s := sum_ones (ys := ys) (k := 1) fun y m => Nat.le_of_eq (h y m).2
  refine ⟨Txt.join "" ys, ?_, ?_, PySem.W.KT.join_ones ys fun y m => (h y m).2⟩
  · unfold joinSR
    rw [show ("" : Str).length = 0 from by decide +kernel, if_pos (by omega)]
  · have e : Txt.join "" ys = Str.join "" ys := by
      show Builtin.Str.glued "" ys = _
      rw [StrLaws.glued_eq_join]
    rw [e]
    exact low_join fun y m => (h y m).1
theorem cut_low {z : Str} {lo hi : Option Int} (h : Low z) (hn : z.length ≤ 1000) : cutSR z lo hi = .ok (cutS z lo hi) ∧ Low (cutS z lo hi) := by
  refine ⟨?_, fun c hc => h c ?_⟩
  · unfold cutSR
    rw [if_pos (by omega)]
  · have hc : c ∈ (z.cps.toList.drop (HT.sIx z.length 0 lo)).take (HT.sIx z.length z.length hi - HT.sIx z.length 0 lo) := hc
    exact List.mem_of_mem_drop (List.mem_of_mem_take hc)
theorem sIx_in {n d : Nat} {i : Int} (h0 : 0 ≤ i) (h1 : i ≤ n) : HT.sIx n d (some i) = i.toNat := by
  obtain ⟨k, rfl⟩ : ∃ k : Nat, i = k := ⟨i.toNat, by omega⟩
  rw [HT.sIx_nat, Int.toNat_natCast]
  omega
theorem cut_len {z : Str} {lo hi : Option Int} : (cutS z lo hi).length = min (HT.sIx z.length z.length hi - HT.sIx z.length 0 lo) (z.length - HT.sIx z.length 0 lo) := by
  show ((z.cps.toList.drop (HT.sIx z.length 0 lo)).take (HT.sIx z.length z.length hi - HT.sIx z.length 0 lo)).toArray.size = _
  rw [List.size_toArray, List.length_take, List.length_drop, ← str_len]
theorem okq_upto {B : Int} (hB : B ≤ 1000000) {m : Int} (h0 : 0 ≤ m) (h1 : m ≤ B) : OkQ (rangeR 0 m) fun xs => ∃ k : Int, (0 ≤ k ∧ k ≤ B) ∧ xs = rangeL 0 k := by
  rw [rangeR_ok (by decide) (by decide) (by omega) (by omega)]
  exact okq ⟨m, ⟨h0, h1⟩, rfl⟩
theorem names_ok {n : Int} (h0 : 0 ≤ n) : OkQ (m__law_names n 10) fun ns => ns.length = 10 ∧ ns.Nodup ∧ ∀ w ∈ ns, nameB w = true := by
  unfold m__law_names
  simp only [bd_ok]
  rw [rangeR_ok (by decide) (by decide) (by decide) (by decide), bd_ok]
  rw [compR_all (fun j => letter ((n + 5 * j + j * j) % 26)) (by decide) fun j hj => by
    have := mem_rangeL.mp hj
    rw [mulR_ok (Or.inl ⟨by omega, by omega⟩)]
    simp only [bd_ok]
    exact letter_at (Int.emod_nonneg _ (by decide)) (Int.emod_lt_of_pos _ (by decide)), bd_ok]
  obtain ⟨base, eb, lb, nb⟩ := join_low (ys := (rangeL 0 9).map fun j => letter ((n + 5 * j + j * j) % 26)) (fun y m => by
    obtain ⟨j, _, rfl⟩ := List.mem_map.mp m
    exact ⟨letter_low (Int.emod_lt_of_pos _ (by decide)), rfl⟩) (by rw [List.length_map]; decide)
  rw [List.length_map, rangeL_len] at nb
  have nb : base.length = 9 := nb
  rw [eb, bd_ok]
  simp only [show decide ((10 : Int) < 9) = false from rfl, Bool.and_false, Bool.false_eq_true, if_false]
  have s0 := Int.emod_nonneg (n / 90) (show (8 : Int) ≠ 0 by decide)
  have s1 := Int.emod_lt_of_pos (n / 90) (show (0 : Int) < 8 by decide)
  generalize n / 90 % 8 = size at s0 s1
  rw [modR_ok (by omega), bd_ok]
  have a0 := Int.emod_nonneg (n / 720) (show size + 1 ≠ 0 by omega)
  have a1 := Int.emod_lt_of_pos (n / 720) (show 0 < size + 1 by omega)
  generalize n / 720 % (size + 1) = at_ at a0 a1
  rw [rangeR_ok (by decide) (by decide) (by decide) (by decide), bd_ok]
  rw [compR_all (fun k => letter ((n / 7000 + 3 * k) % 26)) (by decide) fun k _ => letter_at (Int.emod_nonneg _ (by decide)) (Int.emod_lt_of_pos _ (by decide)), bd_ok]
  have c1 := cut_low (lo := none) (hi := some at_) lb (by omega)
  have c2 := cut_low (lo := some at_) (hi := some size) lb (by omega)
  have n1 : (cutS base none (some at_)).length = at_.toNat := by
    rw [cut_len, HT.sIx_none, sIx_in a0 (by omega)]
    omega
  have n2 : (cutS base (some at_) (some size)).length = size.toNat - at_.toNat := by
    rw [cut_len, sIx_in a0 (by omega), sIx_in s0 (by omega)]
    omega
  generalize cutS base none (some at_) = P at c1 n1
  generalize cutS base (some at_) (some size) = S at c2 n2
  rw [compR_all (fun s => P ++ s ++ S) (by rw [List.length_map]; decide) fun s hs => by
    obtain ⟨k, _, rfl⟩ := List.mem_map.mp hs
    have l1 : (letter ((n / 7000 + 3 * k) % 26)).length = 1 := rfl
    rw [c1.1, bd_ok, catSR_ok (by omega), bd_ok, c2.1, bd_ok, catSR_ok (by rw [PySem.Str.length_append]; omega)]]
  refine okq ⟨by rw [List.length_map, List.length_map]; rfl, ?_, fun w hw => ?_⟩
  · rw [List.map_map]
    unfold rangeL
    rw [List.map_map]
    refine List.nodup_iff_pairwise_ne.mpr (List.pairwise_map.mpr ?_)
    refine (List.nodup_iff_pairwise_ne.mp List.nodup_range).imp_of_mem fun {i j} hi hj hne e => ?_
    have hi := List.mem_range.mp hi
    have hj := List.mem_range.mp hj
    have e2 := congrArg (fun w : Str => w.cps.toList) e
    simp only [Function.comp_apply, tl_cat] at e2
    have e3 := List.append_cancel_left (List.append_cancel_right e2)
    have e4 : [97 + ((n / 7000 + 3 * (0 + (i : Int))) % 26).toNat] = [97 + ((n / 7000 + 3 * (0 + (j : Int))) % 26).toNat] := e3
    simp at e4
    omega
  · obtain ⟨s, hs, rfl⟩ := List.mem_map.mp hw
    obtain ⟨k, _, rfl⟩ := List.mem_map.mp hs
    refine name_of ((c1.2.cat (letter_low (Int.emod_lt_of_pos _ (by decide)))).cat c2.2) ?_ ?_
    all_goals
      rw [PySem.Str.length_append, PySem.Str.length_append, n1, n2, show (letter ((n / 7000 + 3 * k) % 26)).length = 1 from rfl]
      omega
def LimOk (e : Int) (l : Int × Int × Int) : Prop := 0 ≤ l.1 ∧ l.1 ≤ l.2.1 ∧ l.2.1 ≤ e ∧ 1 ≤ l.2.2 ∧ l.2.2 ≤ 1000
/-- stations one behind the other, from lo on, all below hi - 1 -/
def StasOk : Int → Int → List (Str × Int × Int × Int) → Prop
  | lo, hi, [] => lo ≤ hi
  | lo, hi, s :: r => lo ≤ s.2.1 ∧ s.2.1 ≤ s.2.2.1 ∧ 2 ≤ s.2.2.2 ∧ s.2.2.2 ≤ 5 ∧ StasOk (s.2.2.1 + 2) hi r
theorem StasOk.le : ∀ {lo hi : Int} {r : List (Str × Int × Int × Int)}, StasOk lo hi r → lo ≤ hi
  | _, _, [], h => h
  | lo, hi, s :: r, ⟨h1, h2, _, _, h5⟩ => by
    have := StasOk.le h5
    omega
theorem StasOk.mono : ∀ {lo hi hi2 : Int} {r : List (Str × Int × Int × Int)}, StasOk lo hi r → hi ≤ hi2 → StasOk lo hi2 r
  | _, _, _, [], h, k => Int.le_trans h k
  | _, _, _, s :: r, ⟨h1, h2, h3, h4, h5⟩, k => ⟨h1, h2, h3, h4, h5.mono k⟩
theorem StasOk.snoc : ∀ {lo hi hi2 : Int} {r : List (Str × Int × Int × Int)} {s : Str × Int × Int × Int}, StasOk lo hi r → hi ≤ s.2.1 → s.2.1 ≤ s.2.2.1 → 2 ≤ s.2.2.2 → s.2.2.2 ≤ 5 → s.2.2.1 + 2 ≤ hi2 → StasOk lo hi2 (r ++ [s])
  | _, _, _, [], s, h, h1, h2, h3, h4, h5 => ⟨Int.le_trans h h1, h2, h3, h4, h5⟩
  | _, _, _, t :: r, s, ⟨g1, g2, g3, g4, g5⟩, h1, h2, h3, h4, h5 => ⟨g1, g2, g3, g4, g5.snoc h1 h2 h3 h4 h5⟩
theorem StasOk.mem : ∀ {lo hi : Int} {r : List (Str × Int × Int × Int)} {s : Str × Int × Int × Int}, StasOk lo hi r → s ∈ r → lo ≤ s.2.1 ∧ s.2.1 ≤ s.2.2.1 ∧ s.2.2.1 + 2 ≤ hi ∧ 2 ≤ s.2.2.2 ∧ s.2.2.2 ≤ 5
  | _, _, [], s, _, m => nomatch m
  | lo, hi, t :: r, s, ⟨g1, g2, g3, g4, g5⟩, m => by
    rcases List.mem_cons.mp m with rfl | m
    · have := g5.le
      exact ⟨g1, g2, by omega, g3, g4⟩
    · have := g5.mem m
      exact ⟨by omega, this.2⟩
/-- what the drawn line is like -/
structure LineOk (e : Int) (ls : List (Int × Int × Int)) (ss : List (Str × Int × Int × Int)) : Prop where
  e1 : 1 ≤ e
  e2 : e ≤ 1000000000000
  ln : ls.length ≤ 20
  sn : ss.length ≤ 10
  lim : ∀ l ∈ ls, LimOk e l
  sta : StasOk 1 (e + 1) ss
  nm : ∀ s ∈ ss, nameB s.1 = true
  nd : (ss.map (·.1)).Nodup
theorem line_ok (script : List Int) {at_ : Int} (a0 : 0 ≤ at_) (a1 : at_ ≤ 100000) : OkQ (m__law_line script at_) fun r => LineOk r.1 r.2.1 r.2.2 := by
  unfold m__law_line
  refine (number_ok script at_ (by omega) (by omega)).bd fun n hn => ?_
  have p0 := Int.emod_nonneg (n / 40) (show (900 : Int) ≠ 0 by decide)
  have p1 := Int.emod_lt_of_pos (n / 40) (show (0 : Int) < 900 by decide)
  have q0 := Int.emod_nonneg (n / 40) (show (1000 : Int) ≠ 0 by decide)
  have q1 := Int.emod_lt_of_pos (n / 40) (show (0 : Int) < 1000 by decide)
  refine (okq_atR 5 rfl (Int.emod_nonneg _ (by decide)) (Int.emod_lt_of_pos _ (by decide)) (P := fun c : Int => 1 ≤ c ∧ c ≤ 1000001000) (by simp; omega)).bd fun c hc => ?_
  rw [bd_ok, bd_ok]
  refine ((number_ok script (at_ + 1) (by omega) (by omega)).bd fun n2 h2 => names_ok h2.1).bd fun ns hns => ?_
  obtain ⟨nl, nd, nn⟩ := hns
  have r0 := Int.emod_nonneg (n / 5) (show (5 : Int) ≠ 0 by decide)
  have r1 := Int.emod_lt_of_pos (n / 5) (show (0 : Int) < 5 by decide)
  refine ((okq_atR 6 rfl (Int.emod_nonneg _ (by decide)) (Int.emod_lt_of_pos _ (by decide)) (P := fun m : Int => 0 ≤ m ∧ m ≤ 10) (by simp; omega)).bd fun m hm => okq_upto (B := 10) (by decide) hm.1 hm.2).bd fun xs hxs => ?_
  obtain ⟨m, hm, rfl⟩ := hxs
  have mul : ∀ x : Int, 0 ≤ x → x < 10 → 0 ≤ x * c ∧ x * c ≤ x * 1000001000 := fun x h0 h1 => ⟨Int.mul_nonneg h0 (by omega), Int.mul_le_mul_of_nonneg_left hc.2 h0⟩
  refine okq_forI (fun i (s : Int × List (Str × Int × Int × Int)) => 1 ≤ s.1 ∧ s.1 ≤ 1 + i * 9000009002 ∧ s.2.map (·.1) = ns.take i ∧ StasOk 1 s.1 s.2) ⟨Int.le_refl _, by simp, rfl, Int.le_refl _⟩ (fun i s k hk I => ?_) fun s I => ?_
  · obtain ⟨I1, I2, I3, I4⟩ := I
    obtain ⟨hi, rfl⟩ := rangeL_get hk
    simp only [Int.zero_add]
    refine (number_ok script (at_ + 2 + (i : Int)) (by omega) (by omega)).bd fun cell hcell => ?_
    have w0 := Int.emod_nonneg cell (show (4 : Int) ≠ 0 by decide)
    have w1 := Int.emod_lt_of_pos cell (show (0 : Int) < 4 by decide)
    have x0 := Int.emod_nonneg (cell / 4) (show (5 : Int) ≠ 0 by decide)
    have x1 := Int.emod_lt_of_pos (cell / 4) (show (0 : Int) < 5 by decide)
    have y0 := Int.emod_nonneg (cell / 20) (show (4 : Int) ≠ 0 by decide)
    have y1 := Int.emod_lt_of_pos (cell / 20) (show (0 : Int) < 4 by decide)
    have z0 := Int.emod_nonneg (cell / 80) (show (2 : Int) ≠ 0 by decide)
    have z1 := Int.emod_lt_of_pos (cell / 80) (show (0 : Int) < 2 by decide)
    have e1 := mul _ w0 (by omega)
    have e2 := mul _ x0 (by omega)
    have e3 := mul _ z0 (by omega)
    rw [mulR_ok (Or.inl ⟨by omega, by omega⟩), bd_ok, bd_ok, mulR_ok (Or.inl ⟨by omega, by omega⟩), bd_ok, bd_ok]
    have hin : i < ns.length := by omega
    obtain ⟨w, ew, gw, mw⟩ := atR_ok (xs := ns) (i := (i : Int)) (by omega) (by omega)
    rw [Int.toNat_natCast] at gw
    have len : s.2.length = i := by
      have := congrArg List.length I3
      rw [List.length_map, List.length_take] at this
      omega
    rw [ew, bd_ok, bd_ok, addR_ok (by omega), bd_ok, mulR_ok (Or.inl ⟨by omega, by omega⟩), bd_ok, bd_ok]
    generalize cell % 4 * c = A at e1
    generalize cell / 4 % 5 * c = B at e2
    generalize cell / 80 % 2 * c = C at e3
    refine okq ⟨_, rfl, by dsimp only; omega, by dsimp only; omega, ?_, I4.snoc (by dsimp only; omega) (by dsimp only; omega) (by dsimp only; omega) (by dsimp only; omega) (by dsimp only; omega)⟩
    rw [List.map_append, I3, List.take_add_one, gw]
    rfl
  · obtain ⟨I1, I2, I3, I4⟩ := I
    rw [rangeL_len] at I2 I3
    have slen : s.2.length ≤ 10 := by
      have := congrArg List.length I3
      rw [List.length_map, List.length_take] at this
      omega
    dsimp only
    have v0 := Int.emod_nonneg (n / 150) (show (30 : Int) ≠ 0 by decide)
    have v1 := Int.emod_lt_of_pos (n / 150) (show (0 : Int) < 30 by decide)
    have e4 : 0 ≤ n / 150 % 30 * c ∧ n / 150 % 30 * c ≤ n / 150 % 30 * 1000001000 := ⟨Int.mul_nonneg v0 (by omega), Int.mul_le_mul_of_nonneg_left hc.2 v0⟩
    rw [mulR_ok (Or.inl ⟨by omega, by omega⟩), bd_ok, bd_ok, bd_ok]
    generalize hD : n / 150 % 30 * c = D at e4
    have eb : bI (decide (s.1 = 1)) = if s.1 = 1 then 1 else 0 := by
      by_cases h : s.1 = 1
      · rw [decide_eq_true h, if_pos h]
        rfl
      · rw [decide_eq_false h, if_neg h]
        rfl
    have he : 1 ≤ s.1 + D + bI (decide (s.1 = 1)) ∧ s.1 + D + bI (decide (s.1 = 1)) ≤ 1000000000000 ∧ s.1 ≤ s.1 + D + bI (decide (s.1 = 1)) + 1 ∧ s.1 + D + bI (decide (s.1 = 1)) ≤ 1000000000000 := by
      rw [eb]
      split <;> omega
    generalize s.1 + D + bI (decide (s.1 = 1)) = e at he
    rw [bd_ok]
    have t0 := Int.emod_nonneg (n / 5000) (show (7 : Int) ≠ 0 by decide)
    have t1 := Int.emod_lt_of_pos (n / 5000) (show (0 : Int) < 7 by decide)
    refine ((okq_atR 5 rfl (Int.emod_nonneg _ (by decide)) (Int.emod_lt_of_pos _ (by decide)) (P := fun m : Int => 0 ≤ m ∧ m ≤ 20) (by simp; omega)).bd fun m hm => okq_upto (B := 20) (by decide) hm.1 hm.2).bd fun xs hxs => ?_
    obtain ⟨m2, hm2, rfl⟩ := hxs
    refine okq_forI (fun i (ls : List (Int × Int × Int)) => ls.length = i ∧ ∀ l ∈ ls, LimOk e l) ⟨rfl, fun l h => nomatch h⟩ (fun i ls k hk J => ?_) fun ls J => ?_
    · obtain ⟨J1, J2⟩ := J
      obtain ⟨hi, rfl⟩ := rangeL_get hk
      simp only [Int.zero_add]
      refine (number_ok script (at_ + 20 + (i : Int)) (by omega) (by omega)).bd fun cell hcell => ?_
      have f0 := Int.emod_nonneg (cell / 4) (show e + 1 ≠ 0 by omega)
      have f1 := Int.emod_lt_of_pos (cell / 4) (show 0 < e + 1 by omega)
      have w0 := Int.emod_nonneg cell (show (4 : Int) ≠ 0 by decide)
      have w1 := Int.emod_lt_of_pos cell (show (0 : Int) < 4 by decide)
      have x0 := Int.emod_nonneg (cell / 4000) (show (9 : Int) ≠ 0 by decide)
      have x1 := Int.emod_lt_of_pos (cell / 4000) (show (0 : Int) < 9 by decide)
      have g1 : 0 ≤ cell % 4 * (cell / 4000 % 9) ∧ cell % 4 * (cell / 4000 % 9) ≤ 3 * 9 := ⟨Int.mul_nonneg w0 x0, Int.mul_le_mul (by omega) (by omega) x0 (by decide)⟩
      rw [modR_ok (by omega), bd_ok, mulR_ok (Or.inl ⟨by omega, by omega⟩), bd_ok, mulR_ok (Or.inl ⟨by omega, by omega⟩), bd_ok, bd_ok, bd_ok]
      have g2 : 0 ≤ cell % 4 * (cell / 4000 % 9) * c := Int.mul_nonneg g1.1 (by omega)
      generalize cell % 4 * (cell / 4000 % 9) * c = G at g2
      generalize cell / 4 % (e + 1) = first at f0 f1
      have u0 := Int.emod_nonneg (cell / 7) (show (1000 : Int) ≠ 0 by decide)
      have u1 := Int.emod_lt_of_pos (cell / 7) (show (0 : Int) < 1000 by decide)
      have u2 := Int.emod_nonneg (cell / 7) (show (9 : Int) ≠ 0 by decide)
      have u3 := Int.emod_lt_of_pos (cell / 7) (show (0 : Int) < 9 by decide)
      refine ((okq_atR 2 rfl (Int.emod_nonneg _ (by decide)) (Int.emod_lt_of_pos _ (by decide)) (P := fun m : Int => 1 ≤ m ∧ m ≤ 1000) (by simp; omega)).bd fun most hmost => okq (show LimOk e (first, min e (first + G), most) from ⟨f0, by dsimp only; omega, by dsimp only; omega, hmost.1, hmost.2⟩)).bd fun l hl => ?_
      rw [addR_ok (by omega), bd_ok]
      refine okq ⟨_, rfl, by rw [List.length_append, J1]; rfl, fun l2 h2 => ?_⟩
      rcases List.mem_append.mp h2 with h2 | h2
      · exact J2 l2 h2
      · rw [List.mem_singleton.mp h2]
        exact hl
    · obtain ⟨J1, J2⟩ := J
      rw [rangeL_len] at J1
      refine okq ⟨he.1, he.2.1, (by omega : ls.length ≤ 20), slen, J2, I4.mono (by dsimp only; omega), fun s' m => ?_, ?_⟩
      · have : s'.1 ∈ s.2.map (·.1) := List.mem_map.mpr ⟨s', m, rfl⟩
        rw [I3] at this
        exact nn _ (List.mem_of_mem_take this)
      · show (s.2.map (·.1)).Nodup
        rw [I3]
        exact nd.sublist (List.take_sublist _ _)
theorem okq_at {α : Type} {xs : List α} {i : Int} (h0 : 0 ≤ i) (h1 : i < xs.length) {P : α → Prop} (h : ∀ x ∈ xs, P x) : OkQ (atR xs i) P := okq_atR xs.length rfl h0 h1 h
theorem cutG_len {α : Type} (xs : List α) (lo hi : Option Int) : (cutG xs lo hi).length ≤ xs.length := by
  unfold cutG
  rw [List.length_take, List.length_drop]
  omega
theorem cutG_mem {α : Type} {xs : List α} {lo hi : Option Int} {x : α} (h : x ∈ cutG xs lo hi) : x ∈ xs := List.mem_of_mem_drop (List.mem_of_mem_take h)
theorem catR_ok {α : Type} {as bs : List α} (h : as.length + bs.length ≤ 100000) : catR as bs = .ok (as ++ bs) := by
  unfold catR
  rw [if_pos h]
def encL (a : Int × Int × Int) : PyData := PyData.tuple (PyData.int a.1 :: (PyData.int a.2.1 :: [PyData.int a.2.2]))
def encS (a : Str × Int × Int × Int) : PyData := PyData.tuple (PyData.str a.1 :: (PyData.int a.2.1 :: (PyData.int a.2.2.1 :: [PyData.int a.2.2.2])))
/-! sizes -/
structure Sz (n k : Nat) (d : PyData) : Prop where
  s : Sh d n
  d : d.depth ≤ k
theorem Sz.mono {n m k j : Nat} {d : PyData} (h : Sz n k d) (h1 : n ≤ m) (h2 : k ≤ j) : Sz m j d := ⟨h.s.mono h1, Nat.le_trans h.d h2⟩
theorem depthAll_le {k : Nat} : ∀ {ds : List PyData}, (∀ d ∈ ds, d.depth ≤ k) → PyData.depthAll ds ≤ k
  | [], _ => Nat.zero_le _
  | d :: ds, h => by
    simp only [PyData.depthAll]
    exact Nat.max_le.mpr ⟨h d List.mem_cons_self, depthAll_le fun e m => h e (List.mem_cons_of_mem _ m)⟩
theorem sz_list {n k m : Nat} {ds : List PyData} (h : ∀ d ∈ ds, Sz n k d) (hm : ds.length ≤ m) : Sz ((n + 2) * m + 3) (k + 1) (.list ds) := ⟨sh_list (fun d hd => (h d hd).s) hm, by simp only [PyData.depth]; have := depthAll_le fun d hd => (h d hd).d; omega⟩
theorem sz_tuple {n k m : Nat} {ds : List PyData} (h : ∀ d ∈ ds, Sz n k d) (hm : ds.length ≤ m) : Sz ((n + 2) * m + 3) (k + 1) (.tuple ds) := ⟨sh_tuple (fun d hd => (h d hd).s) hm, by simp only [PyData.depth]; have := depthAll_le fun d hd => (h d hd).d; omega⟩
/-- a scalar, a small list, an item, a list of items -/
abbrev Sc := Sz 120 0
abbrev Sl := Sz 400 1
abbrev It := Sz 2100 2
abbrev Li := Sz 50000 3
theorem sc_none : Sc .none := ⟨sh_none.mono (by decide), Nat.le_refl _⟩
theorem sc_bool (b : Bool) : Sc (.bool b) := ⟨(sh_bool b).mono (by decide), Nat.le_refl _⟩
theorem sc_int {i : Int} (h1 : -1000000000000000000000000 ≤ i) (h2 : i ≤ 1000000000000000000000000) : Sc (.int i) := ⟨(sh_num h1 h2).mono (by decide), Nat.le_refl _⟩
theorem sc_str {w : Str} (h : As 11 w) : Sc (.str w) := by
  refine ⟨⟨rfl, ?_⟩, Nat.le_refl _⟩
  simp only [PyData.shown]
  have := StrLaws.reprText_len w fun c hc => Nat.lt_trans (h.2 c hc) (by decide)
  have := h.1
  omega
def Alls (P : PyData → Prop) : List PyData → Prop
  | [] => True
  | d :: ds => P d ∧ Alls P ds
theorem Alls.all {P : PyData → Prop} : ∀ {ds : List PyData}, Alls P ds → ∀ d ∈ ds, P d
  | d :: ds, ⟨h, t⟩, e, m => by
    rcases List.mem_cons.mp m with rfl | m
    · exact h
    · exact t.all e m
theorem sl_sc {d : PyData} (h : Sc d) : Sl d := h.mono (by decide) (by decide)
theorem sl_list {ds : List PyData} (h : Alls Sc ds) (hl : ds.length ≤ 3) : Sl (.list ds) := (sz_list h.all hl).mono (by decide) (by decide)
theorem it_sl {d : PyData} (h : Sl d) : It d := h.mono (by decide) (by decide)
theorem it_tup {ds : List PyData} (h : Alls Sl ds) (hl : ds.length ≤ 5) : It (.tuple ds) := (sz_tuple h.all hl).mono (by decide) (by decide)
theorem it_list {ds : List PyData} (h : Alls Sl ds) (hl : ds.length ≤ 5) : It (.list ds) := (sz_list h.all hl).mono (by decide) (by decide)
theorem li_it {d : PyData} (h : It d) : Li d := h.mono (by decide) (by decide)
theorem li_list {ds : List PyData} (h : ∀ d ∈ ds, It d) (hl : ds.length ≤ 22) : Li (.list ds) := (sz_list h hl).mono (by decide) (by decide)
theorem li_tup {ds : List PyData} (h : ∀ d ∈ ds, It d) (hl : ds.length ≤ 22) : Li (.tuple ds) := (sz_tuple h hl).mono (by decide) (by decide)
theorem as_name {w : Str} (h : nameB w = true) : As 11 w := by
  obtain ⟨h1, _, h3⟩ := name_low h
  exact (h1.as h3).mono (by decide)
theorem it_lim {e : Int} (he : e ≤ 1000000000000) {l : Int × Int × Int} (h : LimOk e l) : It (encL l) := by
  obtain ⟨l1, l2, l3, l4, l5⟩ := h
  exact it_tup ⟨sl_sc (sc_int (by omega) (by omega)), sl_sc (sc_int (by omega) (by omega)), sl_sc (sc_int (by omega) (by omega)), trivial⟩ (by show 3 ≤ 5; decide)
theorem it_sta {e : Int} (he : e ≤ 1000000000000) {ss : List (Str × Int × Int × Int)} (h : StasOk 1 (e + 1) ss) (hm : ∀ s ∈ ss, nameB s.1 = true) {s : Str × Int × Int × Int} (m : s ∈ ss) : It (encS s) := by
  obtain ⟨g1, g2, g3, g4, g5⟩ := h.mem m
  exact it_tup ⟨sl_sc (sc_str (as_name (hm s m))), sl_sc (sc_int (by omega) (by omega)), sl_sc (sc_int (by omega) (by omega)), sl_sc (sc_int (by omega) (by omega)), trivial⟩ (by show 4 ≤ 5; decide)
/-! ### Line of typed parts -/
theorem name_typed {w : Str} (h : w.length ≤ 100000) : m_is_name w = .ok (nameB w) := by
  unfold m_is_name
  have e : (bd (lenSR w) fun x1 => (if decide (1 ≤ x1) = true then .ok (decide (x1 ≤ 8)) else .ok false : R Bool)) = .ok (decide (1 ≤ w.length) && decide (w.length ≤ 8)) := by
    rw [lenSR_ok h, bd_ok]
    by_cases h1 : 1 ≤ w.length
    · rw [decide_eq_true (show (1 : Int) ≤ (w.length : Int) by omega), if_pos rfl, decide_eq_true h1, Bool.true_and]
      congr 1
      exact decide_eq_decide.mpr (by omega)
    · rw [decide_eq_false (show ¬ (1 : Int) ≤ (w.length : Int) by omega), if_neg Bool.false_ne_true, decide_eq_false h1, Bool.false_and]
  rw [e]
  simp only [Bool.not_true, Bool.false_eq_true, if_false, bd_ok]
  rw [compR_all (fun x => (decide (97 ≤ hd x) && decide (hd x ≤ 122))) (by rw [signs_len]; omega) fun x m => by rw [inSR_one (signs_mem m).1, in_letters]]
  rw [bd_ok, List.all_map, show (id ∘ fun x => decide (97 ≤ hd x) && decide (hd x ≤ 122)) = fun x => decide (97 ≤ hd x) && decide (hd x ≤ 122) from rfl, signs_all w fun c => decide (97 ≤ c) && decide (c ≤ 122)]
  unfold nameB
  cases decide (1 ≤ w.length) && decide (w.length ≤ 8) <;> rfl
theorem among_ok {n a b : Int} (h1 : a ≤ n) (h2 : n ≤ b) : m_is_among n a b = .ok true := by
  unfold m_is_among
  rw [decide_eq_true h1, decide_eq_true h2]
  rfl
theorem limit_good {e : Int} {l : Int × Int × Int} (h : LimOk e l) : m_is_limit l e = .ok true := by
  obtain ⟨l1, l2, l3, l4, l5⟩ := h
  unfold m_is_limit
  simp only [among_ok l1 (Int.le_trans l2 l3), among_ok l2 l3, among_ok l4 l5, bd_ok, Bool.not_true, Bool.false_eq_true, if_false, if_true, decide_true]
theorem station_good {e : Int} {ss : List (Str × Int × Int × Int)} (h : StasOk 1 (e + 1) ss) (hm : ∀ s ∈ ss, nameB s.1 = true) {s : Str × Int × Int × Int} (m : s ∈ ss) : m_is_station s e = .ok true := by
  obtain ⟨g1, g2, g3, g4, g5⟩ := h.mem m
  have n := name_typed (w := s.1) (by have := (name_low (hm s m)).2; omega)
  unfold m_is_station
  rw [hm s m] at n
  simp only [n, among_ok g1 (show s.2.1 ≤ e - 1 by omega), among_ok g2 (show s.2.2.1 ≤ e - 1 by omega), among_ok g4 g5, bd_ok, Bool.not_true, Bool.false_eq_true, if_false, if_true, decide_true]
theorem cut_tail {α : Type} (xs : List α) : cutG xs (some 1) none = xs.drop 1 := by
  unfold cutG
  cases xs with
  | nil => rfl
  | cons x r =>
    rw [show HT.sIx (x :: r).length 0 (some 1) = 1 from by rw [sIx_in (by decide) (by rw [List.length_cons]; omega)]; rfl, HT.sIx_none]
    refine List.take_of_length_le ?_
    rw [List.length_drop]
    omega
theorem order_good : ∀ {lo hi : Int} {xs : List (Str × Int × Int × Int)}, StasOk lo hi xs → (xs.zip (xs.drop 1)).all (fun p => decide (p.1.2.2.1 + 2 ≤ p.2.2.1)) = true
  | _, _, [], _ => rfl
  | _, _, [s], _ => rfl
  | lo, hi, s :: t :: r, ⟨h1, h2, h3, h4, h5⟩ => by
    have := order_good h5
    show (decide (s.2.2.1 + 2 ≤ t.2.1) && ((t :: r).zip r).all _) = true
    rw [decide_eq_true h5.1, Bool.true_and]
    exact this
theorem all_true {α : Type} (xs : List α) : (xs.map fun _ => true).all id = true := by
  rw [List.all_eq_true]
  intro x hx
  obtain ⟨_, _, rfl⟩ := List.mem_map.mp hx
  rfl
theorem order_ok {lo hi : Int} {ss : List (Str × Int × Int × Int)} (h : StasOk lo hi ss) (nd : (ss.map (·.1)).Nodup) (hl : ss.length ≤ 1000) : m_are_in_order ss = .ok true := by
  unfold m_are_in_order
  rw [compR_all (fun s : Str × Int × Int × Int => s.1) (by omega) fun _ _ => rfl, bd_ok]
  unfold lenSetR
  rw [if_pos (by rw [List.length_map]; omega), cntD_nodup nd, List.length_map]
  simp only [bd_ok, Int.lt_irrefl, decide_false, Bool.false_eq_true, if_false]
  rw [cut_tail, compR_all (fun p : (Str × Int × Int × Int) × (Str × Int × Int × Int) => decide (p.1.2.2.1 + 2 ≤ p.2.2.1)) (by rw [List.length_zip]; omega) fun _ _ => rfl, bd_ok, List.all_map]
  congr 1
  exact order_good h
theorem Line_ok {e : Int} {ls : List (Int × Int × Int)} {ss : List (Str × Int × Int × Int)} (L : LineOk e ls ss) : m_Line___init__ e ls ss = .ok (e, ls, ss) := by
  have := L.ln
  have := L.sn
  unfold m_Line___init__
  rw [among_ok L.e1 L.e2, compR_all (fun _ => true) (by omega) fun l m => limit_good (L.lim l m), compR_all (fun _ => true) (by omega) fun s m => station_good L.sta L.nm m, order_ok L.sta L.nd (by omega)]
  simp only [bd_ok, Bool.not_true, Bool.false_eq_true, if_false, m_is_list_v0, m_is_list_v1, decide_eq_true (show ((ls.length : Int) ≤ 20) by omega), decide_eq_true (show ((ss.length : Int) ≤ 10) by omega), Bool.and_true, all_true]
/-! ### k04: lines -/
theorem num_nat {i : Int} (h0 : 0 ≤ i) (h1 : i ≤ 1000000000000) : ∃ w, strIR i = .ok w ∧ As 41 w := by
  obtain ⟨n, rfl⟩ : ∃ n : Nat, i = n := ⟨i.toNat, by omega⟩
  have h : n < 10 ^ 40 := Nat.lt_of_le_of_lt (show n ≤ 1000000000000 by omega) (by decide +kernel)
  exact ⟨_, (strIR_ok (i := (n : Int)) (by rw [Int.natAbs_natCast]; exact h)).1, as_num n h⟩
theorem join3 (a b c d : Str) (ha : a.length ≤ 50) (hb : b.length ≤ 50) (hc : c.length ≤ 50) (hd : d.length ≤ 50) : joinSR (" " : Str) [a, b, c, d] = .ok (a ++ " " ++ b ++ " " ++ c ++ " " ++ d) := by
  unfold joinSR
  have l1 : (" " : Str).length = 1 := by decide +kernel
  rw [if_pos (by simp [l1]; omega)]
  congr 1
theorem join4 (a b c d e : Str) (ha : a.length ≤ 50) (hb : b.length ≤ 50) (hc : c.length ≤ 50) (hd : d.length ≤ 50) (he : e.length ≤ 50) : joinSR (" " : Str) [a, b, c, d, e] = .ok (a ++ " " ++ b ++ " " ++ c ++ " " ++ d ++ " " ++ e) := by
  unfold joinSR
  have l1 : (" " : Str).length = 1 := by decide +kernel
  rw [if_pos (by simp [l1]; omega)]
  congr 1
def numS (i : Int) : Str := match strIR i with
  | .ok w => w
  | _ => ""
theorem numS_ok {i : Int} (h0 : 0 ≤ i) (h1 : i ≤ 1000000000000) : strIR i = .ok (numS i) ∧ As 41 (numS i) := by
  obtain ⟨w, e, a⟩ := num_nat h0 h1
  unfold numS
  rw [e]
  exact ⟨rfl, a⟩
def limS (l : Int × Int × Int) : Str := "limit" ++ " " ++ numS l.1 ++ " " ++ numS l.2.1 ++ " " ++ numS l.2.2
def staS (s : Str × Int × Int × Int) : Str := "station" ++ " " ++ s.1 ++ " " ++ numS s.2.1 ++ " " ++ numS s.2.2.1 ++ " " ++ numS s.2.2.2
def endS (e : Int) : Str := "end " ++ numS e
def rowsS (e : Int) (ls : List (Int × Int × Int)) (ss : List (Str × Int × Int × Int)) : List Str := [endS e] ++ ls.map limS ++ ss.map staS
theorem str_app (a b c : Str) : a ++ b ++ c = a ++ (b ++ c) := str_ext (by simp only [tl_cat, List.append_assoc])
theorem limit_sp : ("limit" : Str) ++ (" " : Str) = ("limit " : Str) := by decide +kernel
theorem station_sp : ("station" : Str) ++ (" " : Str) = ("station " : Str) := by decide +kernel
section
variable {e : Int} {ls : List (Int × Int × Int)} {ss : List (Str × Int × Int × Int)}
theorem as_endS (L : LineOk e ls ss) : As 200 (endS e) := by
  have := L.e1
  have a := (numS_ok (i := e) (by omega) L.e2).2
  exact ((as_of (n := 4) (by decide +kernel) : As 4 ("end " : Str)).app a).mono (by decide)
theorem as_limS (L : LineOk e ls ss) {l : Int × Int × Int} (m : l ∈ ls) : strIR l.1 = .ok (numS l.1) ∧ strIR l.2.1 = .ok (numS l.2.1) ∧ strIR l.2.2 = .ok (numS l.2.2) ∧ As 41 (numS l.1) ∧ As 41 (numS l.2.1) ∧ As 41 (numS l.2.2) ∧ As 200 (limS l) := by
  obtain ⟨l1, l2, l3, l4, l5⟩ := L.lim l m
  have := L.e2
  obtain ⟨a1, b1⟩ := numS_ok (i := l.1) (by omega) (by omega)
  obtain ⟨a2, b2⟩ := numS_ok (i := l.2.1) (by omega) (by omega)
  obtain ⟨a3, b3⟩ := numS_ok (i := l.2.2) (by omega) (by omega)
  have sp : As 1 (" " : Str) := as_of (by decide +kernel)
  have li : As 5 ("limit" : Str) := as_of (by decide +kernel)
  exact ⟨a1, a2, a3, b1, b2, b3, ((((((li.app sp).app b1).app sp).app b2).app sp).app b3).mono (by decide)⟩
theorem as_staS (L : LineOk e ls ss) {s : Str × Int × Int × Int} (m : s ∈ ss) : strIR s.2.1 = .ok (numS s.2.1) ∧ strIR s.2.2.1 = .ok (numS s.2.2.1) ∧ strIR s.2.2.2 = .ok (numS s.2.2.2) ∧ As 11 s.1 ∧ As 41 (numS s.2.1) ∧ As 41 (numS s.2.2.1) ∧ As 41 (numS s.2.2.2) ∧ As 200 (staS s) := by
  obtain ⟨l1, l2, l3, l4, l5⟩ := L.sta.mem m
  have := L.e2
  obtain ⟨a1, b1⟩ := numS_ok (i := s.2.1) (by omega) (by omega)
  obtain ⟨a2, b2⟩ := numS_ok (i := s.2.2.1) (by omega) (by omega)
  obtain ⟨a3, b3⟩ := numS_ok (i := s.2.2.2) (by omega) (by omega)
  have sp : As 1 (" " : Str) := as_of (by decide +kernel)
  have st : As 7 ("station" : Str) := as_of (by decide +kernel)
  have nm := as_name (L.nm s m)
  exact ⟨a1, a2, a3, nm, b1, b2, b3, ((((((((st.app sp).app nm).app sp).app b1).app sp).app b2).app sp).app b3).mono (by decide)⟩
theorem rows_as (L : LineOk e ls ss) : ∀ r ∈ rowsS e ls ss, As 200 r := by
  intro r hr
  unfold rowsS at hr
  rcases List.mem_append.mp hr with hr | hr
  · rcases List.mem_append.mp hr with hr | hr
    · rw [List.mem_singleton.mp hr]
      exact as_endS L
    · obtain ⟨l, m, rfl⟩ := List.mem_map.mp hr
      exact (as_limS L m).2.2.2.2.2.2
  · obtain ⟨s, m, rfl⟩ := List.mem_map.mp hr
    exact (as_staS L m).2.2.2.2.2.2.2
theorem text_ok (L : LineOk e ls ss) : ∃ w, m_Line_text (e, ls, ss) = .ok w ∧ m__law_text (e, ls, ss) = .ok w ∧ As 10000 w := by
  have n1 := L.ln
  have n2 := L.sn
  have e0 := L.e1
  have len : (rowsS e ls ss).length ≤ 31 := by
    unfold rowsS
    rw [List.length_append, List.length_append, List.length_map, List.length_map, List.length_singleton]
    omega
  obtain ⟨w, ew, aw⟩ := as_join (a := ("\n" : Str)) (ys := rowsS e ls ss) (k := 200) (n := 31) (m := 1) (rows_as L) len (as_of (by decide +kernel)) (by decide)
  obtain ⟨ae, be⟩ := numS_ok (i := e) (by omega) L.e2
  have l4 : ("end " : Str).length = 4 := by decide +kernel
  have ee : (bd (bd (strIR e) fun x1 => catSR ("end " : Str) x1) fun x2 => .ok [x2]) = R.ok [endS e] := by
    have := be.1
    rw [ae, bd_ok, catSR_ok (by omega)]
    rfl
  refine ⟨w, ?_, ?_, aw.mono (by decide)⟩
  · unfold m_Line_text
    have c1 : compR (fun (one8 : (Int × Int × Int)) => .ok true) (fun (one8 : (Int × Int × Int)) => bd (bd (compR (fun (number111 : Int) => .ok true) (fun (number111 : Int) => strIR number111) [one8.1, one8.2.1, one8.2.2]) fun x214 => catR [("limit" : Str)] x214) fun x215 => joinSR (" " : Str) x215) ls = .ok (ls.map limS) := compR_all limS (by omega) fun l m => by
      obtain ⟨a1, a2, a3, b1, b2, b3, _⟩ := as_limS L m
      have := b1.1
      have := b2.1
      have := b3.1
      rw [compR_all numS (by show 3 ≤ 100000; decide) fun x hx => by
        simp only [List.mem_cons, List.not_mem_nil, or_false] at hx
        rcases hx with rfl | rfl | rfl
        · exact a1
        · exact a2
        · exact a3, bd_ok, catR_ok (by show 1 + 3 ≤ 100000; decide), bd_ok]
      exact join3 _ _ _ _ (by decide +kernel) (by omega) (by omega) (by omega)
    have c2 : compR (fun (one222 : (Str × Int × Int × Int)) => .ok true) (fun (one222 : (Str × Int × Int × Int)) => bd (bd (compR (fun (number325 : Int) => .ok true) (fun (number325 : Int) => strIR number325) [one222.2.1, one222.2.2.1, one222.2.2.2]) fun x428 => catR [("station" : Str), one222.1] x428) fun x429 => joinSR (" " : Str) x429) ss = .ok (ss.map staS) := compR_all staS (by omega) fun s m => by
      obtain ⟨a1, a2, a3, bn, b1, b2, b3, _⟩ := as_staS L m
      have := bn.1
      have := b1.1
      have := b2.1
      have := b3.1
      rw [compR_all numS (by show 3 ≤ 100000; decide) fun x hx => by
        simp only [List.mem_cons, List.not_mem_nil, or_false] at hx
        rcases hx with rfl | rfl | rfl
        · exact a1
        · exact a2
        · exact a3, bd_ok, catR_ok (by show 2 + 3 ≤ 100000; decide), bd_ok]
      exact join4 _ _ _ _ _ (by decide +kernel) (by omega) (by omega) (by omega) (by omega)
    rw [ee, bd_ok, c1, bd_ok, catR_ok (by rw [List.length_map, List.length_singleton]; omega), bd_ok, c2, bd_ok, catR_ok (by rw [List.length_append, List.length_map, List.length_map, List.length_singleton]; omega), bd_ok]
    exact ew
  · unfold m__law_text
    rw [bd_ok, ee, bd_ok, bd_ok]
    have f1 : ∀ (xs : List (Int × Int × Int)) (acc : List Str), (∀ l ∈ xs, l ∈ ls) → acc.length + xs.length ≤ 100 → forL (fun (rows21 : (List Str)) (x28 : (Int × Int × Int)) => (bd (bd (bd (bd (bd (bd (strIR x28.1) fun x29 => catSR ("limit " : Str) x29) fun x30 => catSR x30 (" " : Str)) fun x31 => bd (strIR x28.2.1) fun x32 => catSR x31 x32) fun x33 => catSR x33 (" " : Str)) fun x34 => bd (strIR x28.2.2) fun x35 => catSR x34 x35) fun y40 =>
bd (addR rows21 y40) fun rows41 =>
.ok (.nx rows41) : R (Fl (List Str) Str))) xs acc = .ok (.nx (acc ++ xs.map limS)) := by
      intro xs
      induction xs with
      | nil =>
        intro acc _ _
        rw [List.map_nil, List.append_nil]
        rfl
      | cons l xs ih =>
        intro acc hm hl
        rw [List.length_cons] at hl
        obtain ⟨a1, a2, a3, b1, b2, b3, _⟩ := as_limS L (hm l List.mem_cons_self)
        have := b1.1
        have := b2.1
        have := b3.1
        have s6 : ("limit " : Str).length = 6 := by decide +kernel
        have s1 : (" " : Str).length = 1 := by decide +kernel
        have st : (bd (bd (bd (bd (bd (bd (strIR l.1) fun x29 => catSR ("limit " : Str) x29) fun x30 => catSR x30 (" " : Str)) fun x31 => bd (strIR l.2.1) fun x32 => catSR x31 x32) fun x33 => catSR x33 (" " : Str)) fun x34 => bd (strIR l.2.2) fun x35 => catSR x34 x35) fun y40 =>
bd (addR acc y40) fun rows41 =>
.ok (.nx rows41) : R (Fl (List Str) Str)) = .ok (.nx (acc ++ [limS l])) := by
          rw [a1, a2, a3]
          simp only [bd_ok]
          rw [catSR_ok (by omega), bd_ok, catSR_ok (by simp only [PySem.Str.length_append]; omega), bd_ok, catSR_ok (by simp only [PySem.Str.length_append]; omega), bd_ok, catSR_ok (by simp only [PySem.Str.length_append]; omega), bd_ok, catSR_ok (by simp only [PySem.Str.length_append]; omega), bd_ok, addR_ok (by omega), bd_ok]
          unfold limS
          rw [limit_sp]
        rw [forL_step st, ih _ (fun x m => hm x (List.mem_cons_of_mem _ m)) (by rw [List.length_append, List.length_singleton]; omega), List.map_cons, List.append_assoc]
        rfl
    have f2 : ∀ (xs : List (Str × Int × Int × Int)) (acc : List Str), (∀ s ∈ xs, s ∈ ss) → acc.length + xs.length ≤ 100 → forL (fun (rows45 : (List Str)) (x54 : (Str × Int × Int × Int)) => (bd (bd (bd (bd (bd (bd (bd (catSR ("station " : Str) x54.1) fun x55 => catSR x55 (" " : Str)) fun x56 => bd (strIR x54.2.1) fun x57 => catSR x56 x57) fun x58 => catSR x58 (" " : Str)) fun x59 => bd (strIR x54.2.2.1) fun x60 => catSR x59 x60) fun x61 => catSR x61 (" " : Str)) fun x62 => bd (strIR x54.2.2.2) fun x63 => catSR x62 x63) fun y68 =>
bd (addR rows45 y68) fun rows69 =>
.ok (.nx rows69) : R (Fl (List Str) Str))) xs acc = .ok (.nx (acc ++ xs.map staS)) := by
      intro xs
      induction xs with
      | nil =>
        intro acc _ _
        rw [List.map_nil, List.append_nil]
        rfl
      | cons s xs ih =>
        intro acc hm hl
        rw [List.length_cons] at hl
        obtain ⟨a1, a2, a3, bn, b1, b2, b3, _⟩ := as_staS L (hm s List.mem_cons_self)
        have := bn.1
        have := b1.1
        have := b2.1
        have := b3.1
        have s8 : ("station " : Str).length = 8 := by decide +kernel
        have s1 : (" " : Str).length = 1 := by decide +kernel
        have st : (bd (bd (bd (bd (bd (bd (bd (catSR ("station " : Str) s.1) fun x55 => catSR x55 (" " : Str)) fun x56 => bd (strIR s.2.1) fun x57 => catSR x56 x57) fun x58 => catSR x58 (" " : Str)) fun x59 => bd (strIR s.2.2.1) fun x60 => catSR x59 x60) fun x61 => catSR x61 (" " : Str)) fun x62 => bd (strIR s.2.2.2) fun x63 => catSR x62 x63) fun y68 =>
bd (addR acc y68) fun rows69 =>
.ok (.nx rows69) : R (Fl (List Str) Str)) = .ok (.nx (acc ++ [staS s])) := by
          rw [a1, a2, a3]
          simp only [bd_ok]
          rw [catSR_ok (by omega), bd_ok, catSR_ok (by simp only [PySem.Str.length_append]; omega), bd_ok, catSR_ok (by simp only [PySem.Str.length_append]; omega), bd_ok, catSR_ok (by simp only [PySem.Str.length_append]; omega), bd_ok, catSR_ok (by simp only [PySem.Str.length_append]; omega), bd_ok, catSR_ok (by simp only [PySem.Str.length_append]; omega), bd_ok, catSR_ok (by simp only [PySem.Str.length_append]; omega), bd_ok, addR_ok (by omega), bd_ok]
          unfold staS
          rw [station_sp]
        rw [forL_step st, ih _ (fun x m => hm x (List.mem_cons_of_mem _ m)) (by rw [List.length_append, List.length_singleton]; omega), List.map_cons, List.append_assoc]
        rfl
    rw [f1 ls _ (fun _ m => m) (by rw [List.length_singleton]; omega), bd_ok]
    dsimp only
    rw [bd_ok, f2 ss _ (fun _ m => m) (by rw [List.length_append, List.length_map, List.length_singleton]; omega), bd_ok]
    dsimp only
    exact ew
end
theorem tracks_ok {e : Int} {ls : List (Int × Int × Int)} {ss : List (Str × Int × Int × Int)} (nd : (ss.map (·.1)).Nodup) {s : Str × Int × Int × Int} (m : s ∈ ss) : m_Line_tracks_of (e, ls, ss) s.1 = .ok s.2.2.2 := by
  unfold m_Line_tracks_of
  rw [bd_ok]
  have f : ∀ (xs : List (Str × Int × Int × Int)), (xs.map (·.1)).Nodup → s ∈ xs → forL (fun (s2 : Unit) (station5 : (Str × Int × Int × Int)) => (bd (.ok (decide (station5.1 = s.1))) fun c => if c = true then (
.ok (.rt station5.2.2.2))
else (
.ok (.nx ())) : R (Fl Unit Int))) xs () = .ok (.rt s.2.2.2) := by
    intro xs
    induction xs with
    | nil => intro _ m; cases m
    | cons t xs ih =>
      intro nd m
      rw [List.map_cons, List.nodup_cons] at nd
      by_cases h : t.1 = s.1
      · rw [forL_ret (r := t.2.2.2) (by rw [bd_ok, decide_eq_true h, if_pos rfl])]
        rcases List.mem_cons.mp m with rfl | m
        · rfl
        · exact absurd (List.mem_map.mpr ⟨s, m, h.symm⟩) nd.1
      · rw [forL_step (s' := ()) (by rw [bd_ok, decide_eq_false h, if_neg Bool.false_ne_true])]
        rcases List.mem_cons.mp m with rfl | m
        · exact absurd rfl h
        · exact ih nd.2 m
  rw [f ss nd m, bd_ok]
theorem places_ok {e : Int} {ls : List (Int × Int × Int)} {ss : List (Str × Int × Int × Int)} (L : LineOk e ls ss) (n : Int) : OkQ (m__law_places (e, ls, ss) n) fun ps => 4 ≤ ps.length ∧ ps.length ≤ 1000 := by
  have := L.e1
  have h1 := L.ln
  have h2 := L.sn
  unfold m__law_places
  rw [bd_ok, modR_ok (by show 0 < e + 1; omega), bd_ok, modR_ok (by show 0 < e + 1; omega), bd_ok, bd_ok, bd_ok]
  have c1 := cutG_len ls none (some 5)
  have c2 := cutG_len ss none (some 5)
  refine okq_forN (fun k (ps : List Int) => ps.length = 4 + 4 * k) rfl (fun k ps x hk hx I => ?_) fun ps I => ?_
  · rw [catR_ok (by show ps.length + 4 ≤ 100000; dsimp only at hk; omega), bd_ok]
    exact okq ⟨_, rfl, by rw [List.length_append, I]; show 4 + 4 * k + 4 = _; omega⟩
  · dsimp only at I ⊢
    rw [bd_ok]
    refine okq_forN (fun k (qs : List Int) => qs.length = ps.length + 4 * k) rfl (fun k qs x hk hx J => ?_) fun qs J => ?_
    · rw [catR_ok (by show qs.length + 4 ≤ 100000; omega), bd_ok]
      exact okq ⟨_, rfl, by rw [List.length_append, J]; show ps.length + 4 * k + 4 = _; omega⟩
    · exact okq (by omega)
def least2 : Option Int → Option Int → Option Int
  | none, q => q
  | some a, none => some a
  | some a, some b => some (min a b)
theorem leastO_cons (x : Int) (xs : List Int) : leastO (x :: xs) = least2 (some x) (leastO xs) := by
  show (match leastO xs with
    | none => some x
    | some y => some (min x y)) = _
  cases leastO xs <;> rfl
theorem least_fold {f l : Int} : ∀ (ls : List (Int × Int × Int)) (o : Option Int), forL (fun (found6 : (Option Int)) (x13 : (Int × Int × Int)) => (bd ((if (!(decide (x13.2.1 < f) || decide (x13.1 > l))) = true then (if (Option.isNone found6) = true then .ok true else bd (fromSome found6) fun x14 => .ok (decide (x13.2.2 < x14))) else .ok false)) fun c => if c = true then (
bd (.ok (some x13.2.2)) fun found19 =>
.ok (.nx found19))
else (
.ok (.nx found6)) : R (Fl (Option Int) (Option Int)))) ls o = .ok (.nx (least2 o (leastO ((ls.filter fun x => decide (x.1 ≤ l) && decide (x.2.1 ≥ f)).map fun x => x.2.2))))
  | [], o => by cases o <;> rfl
  | x :: ls, o => by
    have hc : (!(decide (x.2.1 < f) || decide (x.1 > l))) = (decide (x.1 ≤ l) && decide (x.2.1 ≥ f)) := by
      by_cases h1 : x.2.1 < f
      · rw [decide_eq_true h1, decide_eq_false (show ¬ x.2.1 ≥ f by omega), Bool.and_false]
        rfl
      · rw [decide_eq_false h1, decide_eq_true (show x.2.1 ≥ f by omega), Bool.and_true, Bool.false_or]
        by_cases h2 : x.1 > l
        · rw [decide_eq_true h2, decide_eq_false (show ¬ x.1 ≤ l by omega)]
          rfl
        · rw [decide_eq_false h2, decide_eq_true (show x.1 ≤ l by omega)]
          rfl
    cases hx : (decide (x.1 ≤ l) && decide (x.2.1 ≥ f)) with
    | false =>
      rw [forL_step (s' := o) (by rw [hc, hx, if_neg Bool.false_ne_true, bd_ok, if_neg Bool.false_ne_true]), List.filter_cons_of_neg (p := fun x : Int × Int × Int => decide (x.1 ≤ l) && decide (x.2.1 ≥ f)) (by rw [hx]; exact Bool.false_ne_true)]
      exact least_fold ls o
    | true =>
      rw [List.filter_cons_of_pos (p := fun x : Int × Int × Int => decide (x.1 ≤ l) && decide (x.2.1 ≥ f)) hx, List.map_cons, leastO_cons]
      cases o with
      | none =>
        rw [forL_step (s' := some x.2.2) (by rw [hc, hx, if_pos rfl, show Option.isNone (none : Option Int) = true from rfl, if_pos rfl, bd_ok, if_pos rfl, bd_ok]), least_fold ls]
        rfl
      | some a =>
        by_cases h : x.2.2 < a
        · rw [forL_step (s' := some x.2.2) (by rw [hc, hx, if_pos rfl, show Option.isNone (some a) = false from rfl, if_neg Bool.false_ne_true, show fromSome (some a) = R.ok a from rfl, bd_ok, bd_ok, decide_eq_true h, if_pos rfl, bd_ok]), least_fold ls]
          cases leastO ((ls.filter fun x => decide (x.1 ≤ l) && decide (x.2.1 ≥ f)).map fun x => x.2.2) with
          | none =>
            show R.ok (Fl.nx (some x.2.2)) = R.ok (Fl.nx (some (min a x.2.2)))
            rw [show min a x.2.2 = x.2.2 by omega]
          | some b =>
            show R.ok (Fl.nx (some (min x.2.2 b))) = R.ok (Fl.nx (some (min a (min x.2.2 b))))
            rw [show min a (min x.2.2 b) = min x.2.2 b by omega]
        · rw [forL_step (s' := some a) (by rw [hc, hx, if_pos rfl, show Option.isNone (some a) = false from rfl, if_neg Bool.false_ne_true, show fromSome (some a) = R.ok a from rfl, bd_ok, bd_ok, decide_eq_false h, if_neg Bool.false_ne_true]), least_fold ls]
          cases leastO ((ls.filter fun x => decide (x.1 ≤ l) && decide (x.2.1 ≥ f)).map fun x => x.2.2) with
          | none =>
            show R.ok (Fl.nx (some a)) = R.ok (Fl.nx (some (min a x.2.2)))
            rw [show min a x.2.2 = a by omega]
          | some b =>
            show R.ok (Fl.nx (some (min a b))) = R.ok (Fl.nx (some (min a (min x.2.2 b))))
            rw [show min a (min x.2.2 b) = min a b by omega]
theorem limit_both {e : Int} {ls : List (Int × Int × Int)} {ss : List (Str × Int × Int × Int)} (L : LineOk e ls ss) (f l : Int) : ∃ o, m_Line_limit (e, ls, ss) f l = .ok o ∧ m__law_least ls f l = .ok o ∧ ∀ x, o = some x → 1 ≤ x ∧ x ≤ 1000 := by
  have := L.ln
  refine ⟨leastO ((ls.filter fun x => decide (x.1 ≤ l) && decide (x.2.1 ≥ f)).map fun x => x.2.2), ?_, ?_, fun x h => ?_⟩
  · unfold m_Line_limit
    rw [compR_ok (fun x : Int × Int × Int => decide (x.1 ≤ l) && decide (x.2.1 ≥ f)) (fun x => x.2.2) (by dsimp only; omega) (fun _ _ => rfl) fun _ _ _ => rfl, bd_ok]
  · unfold m__law_least
    rw [bd_ok, bd_ok, least_fold ls none, bd_ok]
    rfl
  · have m := (leastO_le h).1
    obtain ⟨y, hy, rfl⟩ := List.mem_map.mp m
    have := L.lim y (List.mem_filter.mp hy).1
    exact this.2.2.2
theorem at_both {e : Int} {ls : List (Int × Int × Int)} {ss : List (Str × Int × Int × Int)} (p : Int) : ∃ o, m_Line_station_at (e, ls, ss) p = .ok o ∧ m__law_at ss p = .ok o ∧ ∀ x, o = some x → ∃ s ∈ ss, x = s.1 := by
  have f : ∀ (xs : List (Str × Int × Int × Int)), (∀ s ∈ xs, s ∈ ss) → forL (fun (s2 : Unit) (x11 : (Str × Int × Int × Int)) => (bd (.ok (decide (x11.2.1 ≤ p) && decide (p ≤ x11.2.2.1))) fun c => if c = true then (
.ok (.rt (some x11.1)))
else (
.ok (.nx ())) : R (Fl Unit (Option Str)))) xs () = .ok (.nx ()) ∨ ∃ s ∈ ss, forL (fun (s2 : Unit) (x11 : (Str × Int × Int × Int)) => (bd (.ok (decide (x11.2.1 ≤ p) && decide (p ≤ x11.2.2.1))) fun c => if c = true then (
.ok (.rt (some x11.1)))
else (
.ok (.nx ())) : R (Fl Unit (Option Str)))) xs () = .ok (.rt (some s.1)) := by
    intro xs
    induction xs with
    | nil => intro _; exact .inl rfl
    | cons t xs ih =>
      intro hm
      cases h : (decide (t.2.1 ≤ p) && decide (p ≤ t.2.2.1)) with
      | true => exact .inr ⟨t, hm t List.mem_cons_self, forL_ret (by rw [bd_ok, h, if_pos rfl])⟩
      | false =>
        rw [forL_step (s' := ()) (by rw [bd_ok, h, if_neg Bool.false_ne_true])]
        exact ih fun s m => hm s (List.mem_cons_of_mem _ m)
  unfold m_Line_station_at m__law_at
  rcases f ss fun _ m => m with h | ⟨s, m, h⟩
  · exact ⟨none, by rw [bd_ok, h, bd_ok], by rw [bd_ok, h, bd_ok], fun x e => by cases e⟩
  · exact ⟨some s.1, by rw [bd_ok, h, bd_ok], by rw [bd_ok, h, bd_ok], fun x e => ⟨s, m, by cases e; rfl⟩⟩
theorem reprDR_ok {d : PyData} {n : Nat} (h : Sh d n) (hn : n ≤ 1000000) : reprDR d = .ok d.shown := h.ok hn
theorem sh_as {w : Str} {n : Nat} (h : As n w) : Sh (.str w) (10 * n + 2) := by
  refine ⟨rfl, ?_⟩
  simp only [PyData.shown]
  have := StrLaws.reprText_len w fun c hc => Nat.lt_trans (h.2 c hc) (by decide)
  have := h.1
  omega
theorem undynL_ok (ds : List PyData) : undynL (ds.map Dyn.dat) = .ok (.dat (.list ds)) := by
  have u : ∀ ds : List PyData, undat (ds.map Dyn.dat) = some ds := by
    intro ds
    induction ds with
    | nil => rfl
    | cons d ds ih =>
      rw [List.map_cons]
      unfold undat
      rw [ih]
  unfold undynL
  rw [u]
theorem reprY_three {a b c : PyData} (h1 : Li a) (h2 : Li b) (h3 : Li c) : ∃ w, (bd (undynL [Dyn.dat a, Dyn.dat b, Dyn.dat c]) fun x => reprYR x) = .ok w := by
  rw [show undynL [Dyn.dat a, Dyn.dat b, Dyn.dat c] = .ok (.dat (.list [a, b, c])) from undynL_ok [a, b, c], bd_ok]
  have t : Sz 150009 4 (.list [a, b, c]) := (sz_list (n := 50000) (k := 3) (m := 3) (fun d hd => by
    simp only [List.mem_cons, List.not_mem_nil, or_false] at hd
    rcases hd with rfl | rfl | rfl
    · exact h1
    · exact h2
    · exact h3) (by show 3 ≤ 3; decide)).mono (by decide) (by decide)
  unfold reprYR
  dsimp only
  exact ⟨_, if_pos ⟨t.s.s, Nat.le_trans t.d (by decide), Nat.le_trans t.s.l (by decide)⟩⟩
theorem right_ok {e : Int} {ls : List (Int × Int × Int)} {ss : List (Str × Int × Int × Int)} (L : LineOk e ls ss) (n : Int) : m__law_right (e, ls, ss) (e, ls, ss) n = .ok true := by
  have h1 := L.e1
  have h2 := L.e2
  have h3 := L.sn
  refine ok_of ?_
  unfold m__law_right
  rw [bd_ok]
  have t1 : Li (.int e) := li_it (it_sl (sl_sc (sc_int (by omega) (by omega))))
  have t2 : Li (.tuple (ls.map encL)) := li_tup (fun d hd => by
    obtain ⟨l, m, rfl⟩ := List.mem_map.mp hd
    exact it_lim L.e2 (L.lim l m)) (by rw [List.length_map]; have := L.ln; omega)
  have t3 : Li (.tuple (ss.map encS)) := li_tup (fun d hd => by
    obtain ⟨s, m, rfl⟩ := List.mem_map.mp hd
    exact it_sta L.e2 L.sta L.nm m) (by rw [List.length_map]; omega)
  obtain ⟨w, ew⟩ := reprY_three t1 t2 t3
  have ew : (bd (undynL [Dyn.dat (PyData.int e), Dyn.dat ((fun (xs : (List (Int × Int × Int))) => PyData.tuple (xs.map (fun (a : (Int × Int × Int)) => PyData.tuple (PyData.int a.1 :: (PyData.int a.2.1 :: [PyData.int a.2.2]))))) ls), Dyn.dat ((fun (xs : (List (Str × Int × Int × Int))) => PyData.tuple (xs.map (fun (a : (Str × Int × Int × Int)) => PyData.tuple (PyData.str a.1 :: (PyData.int a.2.1 :: (PyData.int a.2.2.1 :: [PyData.int a.2.2.2])))))) ss)]) fun x13 => reprYR x13) = .ok w := ew
  rw [ew]
  simp only [bd_ok, decide_true, Bool.not_true, Bool.false_eq_true, if_false]
  obtain ⟨tx, e1, e2, a1⟩ := text_ok L
  rw [e1, e2]
  simp only [bd_ok]
  rw [(sh_as a1).ok (by decide)]
  simp only [bd_ok, decide_true, Bool.not_true, Bool.false_eq_true, if_false]
  rw [compR_ok (fun _ => false) (fun s => s) (by omega) (fun s m => by
    rw [tracks_ok L.nd m, bd_ok, (sc_int (i := s.2.2.2) (by have := L.sta.mem m; omega) (by have := L.sta.mem m; omega)).s.ok (by decide)]
    simp only [bd_ok, decide_true, Bool.not_true]) (fun _ _ h => absurd h Bool.false_ne_true), show ss.filter (fun _ => false) = [] from List.filter_eq_nil_iff.mpr fun _ _ => Bool.false_ne_true]
  rw [List.map_nil, bd_ok, show neDR ((fun (xs : (List (Str × Int × Int × Int))) => PyData.list (xs.map (fun (a : (Str × Int × Int × Int)) => PyData.tuple (PyData.str a.1 :: (PyData.int a.2.1 :: (PyData.int a.2.2.1 :: [PyData.int a.2.2.2])))))) []) ((fun (xs : (List (Str × Int × Int × Int))) => PyData.list (xs.map (fun (a : (Str × Int × Int × Int)) => PyData.tuple (PyData.str a.1 :: (PyData.int a.2.1 :: (PyData.int a.2.2.1 :: [PyData.int a.2.2.2])))))) []) = .ok false from rfl, bd_ok, if_neg Bool.false_ne_true]
  refine (places_ok L n).bd fun ps hps => ?_
  refine okq_for (fun _ => True) trivial (fun s x hx _ => ?_) fun s _ => okq rfl
  obtain ⟨i, p⟩ := x
  dsimp only
  obtain ⟨o, o1, o2, o3⟩ := at_both (e := e) (ls := ls) (ss := ss) p
  have so : Sh (eOpt PyData.str o) 120 := by
    cases o with
    | none => exact sh_none.mono (by decide)
    | some x =>
      obtain ⟨s, m, rfl⟩ := o3 x rfl
      exact (sc_str (as_name (L.nm s m))).s
  rw [o1, o2]
  simp only [bd_ok]
  rw [so.ok (by decide)]
  simp only [bd_ok, decide_true, Bool.not_true, Bool.false_eq_true, if_false]
  rw [modR_ok (by omega), bd_ok]
  refine (okq_at (P := fun _ => True) (Int.emod_nonneg _ (by omega)) (Int.emod_lt_of_pos _ (by omega)) fun _ _ => trivial).bd fun q _ => ?_
  have lim : ∀ f l, ∃ w o, m_Line_limit (e, ls, ss) f l = .ok o ∧ m__law_least ls f l = .ok o ∧ reprDR (eOpt PyData.int o) = .ok w := fun f l => by
    obtain ⟨o, o1, o2, o3⟩ := limit_both L f l
    have so : Sh (eOpt PyData.int o) 120 := by
      cases o with
      | none => exact sh_none.mono (by decide)
      | some x =>
        have := o3 x rfl
        exact (sc_int (by omega) (by omega)).s
    exact ⟨_, o, o1, o2, so.ok (by decide)⟩
  obtain ⟨w1, o1, a1, b1, c1⟩ := lim (min p q) (max p q)
  obtain ⟨w2, o2, a2, b2, c2⟩ := lim p p
  rw [a1, b1]
  simp only [bd_ok]
  rw [c1, a2, b2]
  simp only [bd_ok]
  rw [c2]
  simp only [bd_ok, decide_true, Bool.not_true, Bool.false_eq_true, if_false]
  exact okq ⟨(), rfl, trivial⟩
theorem law_true (script : List Int) (hlen : script.length ≤ 63) : m_law script = .ok true := by
  suffices h : OkQ (m_law script) fun b => b = true by
    obtain ⟨b, e, rfl⟩ := h
    exact e
  unfold m_law
  obtain ⟨t1, e1, L1⟩ := line_ok script (at_ := 0) (by decide) (by decide)
  obtain ⟨t2, e2, L2⟩ := line_ok script (at_ := 60) (by decide) (by decide)
  obtain ⟨a1, b1, c1⟩ := t1
  obtain ⟨a2, b2, c2⟩ := t2
  have L1 : LineOk a1 b1 c1 := L1
  have L2 : LineOk a2 b2 c2 := L2
  have n1 := L1.ln
  have n2 := L2.ln
  rw [e1, bd_ok, e2, bd_ok, bd_ok, bd_ok, bd_ok]
  rw [forL_step (s' := [(a1, b1, c1)]) (by
    rw [bd_ok, bd_ok]
    dsimp only
    rw [Line_ok L1, bd_ok, addR_ok (by decide), bd_ok, bd_ok, addR_ok (by omega), bd_ok]
    rfl), forL_step (s' := [(a1, b1, c1), (a2, b2, c2)]) (by
    rw [bd_ok, bd_ok]
    dsimp only
    rw [Line_ok L2, bd_ok, addR_ok (by show 1 < 100000; decide), bd_ok, bd_ok, addR_ok (by omega), bd_ok]
    rfl)]
  rw [show forL (S := List M_Line) (ρ := Bool) _ ([] : List (Int × List (Int × Int × Int) × List (Str × Int × Int × Int))) [(a1, b1, c1), (a2, b2, c2)] = .ok (.nx [(a1, b1, c1), (a2, b2, c2)]) from rfl, bd_ok]
  dsimp only
  rw [rangeR_ok (by decide) (by decide) (by decide) (by decide), bd_ok]
  refine okq_for (fun _ => True) trivial (fun s k hk _ => ?_) fun s _ => okq rfl
  have hk := mem_rangeL.mp hk
  have h0 := Int.emod_nonneg k (show (2 : Int) ≠ 0 by decide)
  have h1 := Int.emod_lt_of_pos k (show (0 : Int) < 2 by decide)
  refine ((?_ : OkQ _ fun b => b = false)).bd fun c hc => ?_
  · obtain ⟨nn, en, _⟩ := number_ok script (120 + k) (by omega) (by omega)
    rcases (show k % 2 = 0 ∨ k % 2 = 1 by omega) with z | z
    · rw [z, show atR [(a1, b1, c1), (a2, b2, c2)] (0 : Int) = .ok (a1, b1, c1) from rfl, bd_ok, bd_ok, en, bd_ok, right_ok L1, bd_ok]
      exact okq rfl
    · rw [z, show atR [(a1, b1, c1), (a2, b2, c2)] (1 : Int) = .ok (a2, b2, c2) from rfl, bd_ok, bd_ok, en, bd_ok, right_ok L2, bd_ok]
      exact okq rfl
  · subst hc
    exact okq ⟨(), rfl, trivial⟩
end Br
open PySem PySem.W PySem.Calls PyProof.Rows
set_option maxRecDepth 100000 in
set_option maxHeartbeats 0 in
theorem PySem.Challenge.cw_brakeline_k04_lines_holds : PySem.Challenge.rw_brakeline_k04_lines.Holds := by
  w_on; o_law
  refine HandSHeadRun.head_any (r := Br.Rw) (q := view Br.Rw.prog [31]) (H := Br.hk) (ob := Br.ob) (M := 20000) (loose := Br.loose) (d := HandSHeadRun.topDef Br.Rw.prog 31) (kwd := []) Br.ob_eq (by kernel_rfl) (fun s => by kernel_rfl) Br.run (by kernel_rfl) (by kernel_rfl) (by kernel_rfl) (by rfl) (by first | assumption | decide +kernel) (by decide +kernel) ⟨rfl, rfl, rfl, rfl, rfl, by decide +kernel⟩ ?hw ?hc
  case hw => w_witness2
  case hc => exact TL.law_endGX (l := PySem.Challenge.rw_brakeline_k04_lines) (n := 63) (k := 5) (fa := Br.fa) (fn := Br.fn) (m := Br.m_law) rfl (by decide) (by kernel_rfl) ⟨rfl, by decide, by decide⟩ (fx := Br.fx) (fun w K mg h KX N c hx => Br.ok_law (Br.gf_of KX N c hx)) Br.law_true
