import PyProof.Rows.All
import Wide.All
import OpenK.AllK
import Wide.FinOn
import KE.KStateDown
import HandS.ForMost
import HandS.More
import HandS.Defaults
import HandS.Exc
import HandS.WordsExc
import HandS.TryOnly
import HandS.IsInst
import HandS.HeadHook1
import HandS.Steps
import HandS.SortKw
import KE.KMinKey
import HandS.Strs
import HandS.Text
import HandS.HeadEnd
import HandS.EndBits
import HandS.Head2
import HandS.HeadHook2
import HandS.Iter
import PyProof.ReprRoads
import KE.KExcIs
import HandS.ExcValue
import KE.GoesMore
import PyProof.EnumMake
import HandS.Replace
import HandS.Dict
import HandS.Head0
import HandS.Head1
import PySem.Challenge.RW_brakeline_k09_whole_none_better
set_option Elab.async false
set_option linter.all false
set_option maxRecDepth 100000
set_option maxHeartbeats 4000000
/-! ## TL1: what a mirror gives (R), what follows (Post), worlds (Fr), types of data (Ty) -/
namespace TL
open PySem PySem.Spec PyProof.Rows L2

/-- an own exception: its class by name, perhaps one int field -/
inductive Exn where
  | own (c : Str)
  | fld (c f : Str) (n : Int)
inductive R (α : Type) where
  | stuck
  | err (e : Exn)
  | ok (a : α)
def bd {α β : Type} (m : R α) (f : α → R β) : R β := match m with
  | .stuck => .stuck
  | .err e => .err e
  | .ok a => f a
@[simp] theorem bd_ok {α β : Type} (a : α) (f : α → R β) : bd (.ok a) f = f a := rfl
@[simp] theorem bd_err {α β : Type} (e : Exn) (f : α → R β) : bd (.err e) f = .err e := rfl
@[simp] theorem bd_stuck {α β : Type} (f : α → R β) : bd .stuck f = .stuck := rfl
theorem bd_assoc {α β γ : Type} (m : R α) (f : α → R β) (g : β → R γ) : bd (bd m f) g = bd m fun a => bd (f a) g := by
  cases m <;> rfl
/-- what follows from how m ends -/
def Post {α : Type} (m : R α) (k : α → Prop) (x : Exn → Prop) : Prop := match m with
  | .stuck => False
  | .err e => x e
  | .ok a => k a
theorem post_bd {α β : Type} {m : R α} {f : α → R β} {k : β → Prop} {x : Exn → Prop} (h : Post (bd m f) k x) : Post m (fun a => Post (f a) k x) x := by
  cases m with
  | stuck => exact h
  | err e => exact h
  | ok a => exact h
theorem bd_post {α β : Type} {m : R α} {f : α → R β} {k : β → Prop} {x : Exn → Prop} (h : Post m (fun a => Post (f a) k x) x) : Post (bd m f) k x := by
  cases m with
  | stuck => exact h
  | err e => exact h
  | ok a => exact h
theorem post_imp {α : Type} {m : R α} {k k' : α → Prop} {x x' : Exn → Prop} (h : Post m k x) (hk : ∀ a, m = .ok a → k a → k' a) (hx : ∀ e, m = .err e → x e → x' e) : Post m k' x' := by
  cases m with
  | stuck => exact h
  | err e => exact hx e rfl h
  | ok a => exact hk a rfl h

/-! ### worlds: F what is frozen (for ever as it is), H all that is tracked -/
structure Fr (F H F' H' : Hp) : Prop where
  f : Same F F'
  h : Same H H'
  s : Same F' H'
  n : ∀ p, F p = none → H p ≠ none → F' p = none
section
variable {F H F' H' F1 H1 F2 H2 F0 H0 : Hp} {p : Addr} {o : HO}
theorem Fr.refl (s : Same F H) : Fr F H F H := ⟨Same.refl F, Same.refl H, s, fun _ h _ => h⟩
theorem some_ne {x : Option HO} {o : HO} (h : x = some o) : x ≠ none := by
  rw [h]
  exact Option.some_ne_none o
theorem ne_none_of {x : Option HO} (h : x ≠ none) : ∃ o, x = some o := by
  cases x with
  | none => exact absurd rfl h
  | some o => exact ⟨o, rfl⟩
theorem Fr.trans (a : Fr F H F1 H1) (b : Fr F1 H1 F2 H2) : Fr F H F2 H2 := ⟨a.f.trans b.f, a.h.trans b.h, b.s, fun p hf hh => by
  obtain ⟨o, ho⟩ := ne_none_of hh
  exact b.n p (a.n p hf hh) (some_ne (a.h p o ho))⟩
theorem same_upd {H : Hp} (h : H p = none) : Same H (upd H p o) := fun b u e => by
  rw [upd_ne (ne_of_none e h)]
  exact e
theorem none_of_same (s : Same F H) (h : H p = none) : F p = none := s.free h
/-- a new object, frozen -/
theorem Fr.alloc (s : Same F H) (h : H p = none) : Fr F H (upd F p o) (upd H p o) := ⟨same_upd (s.free h), same_upd h, fun b u e => by
  by_cases q : b = p
  · subst q
    rw [upd_same] at e
    rw [upd_same]
    exact e
  · rw [upd_ne q] at e
    rw [upd_ne q]
    exact s b u e, fun b hf hh => by
  by_cases q : b = p
  · subst q
    exact absurd h hh
  · rw [upd_ne q]
    exact hf⟩
/-- a new object, one's own -/
theorem Fr.fresh (s : Same F H) (h : H p = none) : Fr F H F (upd H p o) := ⟨Same.refl F, same_upd h, s.trans (same_upd h), fun _ hf _ => hf⟩
/-- one's own object, made behind F0 H0, changes -/
theorem Fr.mut (a : Fr F0 H0 F H) (h0 : H0 p = none) (hf : F p = none) : Fr F0 H0 F (upd H p o) := ⟨a.f, fun b u e => by
  rw [upd_ne (ne_of_none e h0)]
  exact a.h b u e, fun b u e => by
  rw [upd_ne (ne_of_none e hf)]
  exact a.s b u e, a.n⟩
/-- one's own object, made behind F0 H0, is frozen -/
theorem Fr.freeze (a : Fr F0 H0 F H) (h0 : H0 p = none) (hp : H p = some o) (hf : F p = none) : Fr F0 H0 (upd F p o) H := ⟨a.f.trans (same_upd hf), a.h, fun b u e => by
  by_cases q : b = p
  · subst q
    rw [upd_same] at e
    rw [← e]
    exact hp
  · rw [upd_ne q] at e
    exact a.s b u e, fun b hf' hh => by
  by_cases q : b = p
  · subst q
    exact absurd h0 hh
  · rw [upd_ne q]
    exact a.n b hf' hh⟩
end

/-! ### types of data -/
structure Ty (α : Type) where
  rep : Hp → V → α → Prop
  mono : ∀ {F F' : Hp} {v : V} {a : α}, Same F F' → rep F v a → rep F' v a
structure TyA (α : Type) where
  len : Nat
  rep : Hp → List V → α → Prop
  mono : ∀ {F F' : Hp} {vs : List V} {a : α}, Same F F' → rep F vs a → rep F' vs a
  hlen : ∀ {F : Hp} {vs : List V} {a : α}, rep F vs a → vs.length = len
theorem sqL_mono {K : PySem.W.Frag} {F F' : Hp} {a : Addr} {xs : List V} (e : Same F F') (h : SqL K F a xs) : SqL K F' a xs := e.seq h
theorem sqT_mono {K : PySem.W.Frag} {F F' : Hp} {a : Addr} {xs : List V} (e : Same F F') (h : SqT K F a xs) : SqT K F' a xs := by
  rcases h with (h | ⟨o, h⟩) | h
  · exact .inl (.inl (e _ _ h))
  · exact .inl (.inr ⟨o, e _ _ h⟩)
  · exact .inr h
theorem paired_mono {α : Type} {t : Ty α} {F F' : Hp} (e : Same F F') : ∀ {vs : List V} {as : List α}, Paired (t.rep F) vs as → Paired (t.rep F') vs as
  | _, _, .nil => .nil
  | _, _, .cons h r => .cons (t.mono e h) (paired_mono e r)
def tInt : Ty Int := ⟨fun _ v a => v = .int a, fun _ h => h⟩
def tBool : Ty Bool := ⟨fun _ v a => v = .bl a, fun _ h => h⟩
def tNone : Ty Unit := ⟨fun _ v _ => v = .non, fun _ h => h⟩
def tStr : Ty Str := ⟨fun _ v a => v = .str a, fun _ h => h⟩
/-- None or a t that is not None -/
def tOpt {α : Type} (t : Ty α) : Ty (Option α) := ⟨fun F v a => match a with
  | none => v = .non
  | some b => v ≠ .non ∧ t.rep F v b, fun {F F' v a} e h => by
  cases a with
  | none => exact h
  | some b => exact ⟨h.1, t.mono e h.2⟩⟩
def tList (K : PySem.W.Frag) {α : Type} (t : Ty α) : Ty (List α) := ⟨fun F v as => ∃ p vs, v = .ref p ∧ SqL K F p vs ∧ Paired (t.rep F) vs as, fun e ⟨p, vs, h1, h2, h3⟩ => ⟨p, vs, h1, sqL_mono e h2, paired_mono e h3⟩⟩
/-- a list that the program made -/
def yList {α : Type} (t : Ty α) : Ty (List α) := ⟨fun F v as => ∃ p vs, v = .ref p ∧ F p = some (.lst vs) ∧ Paired (t.rep F) vs as, fun e ⟨p, vs, h1, h2, h3⟩ => ⟨p, vs, h1, e _ _ h2, paired_mono e h3⟩⟩
/-- a tuple of any number of alike things -/
def yTupL (K : PySem.W.Frag) {α : Type} (t : Ty α) : Ty (List α) := ⟨fun F v as => ∃ p vs, v = .ref p ∧ SqT K F p vs ∧ Paired (t.rep F) vs as, fun e ⟨p, vs, h1, h2, h3⟩ => ⟨p, vs, h1, sqT_mono e h2, paired_mono e h3⟩⟩
def aNil : TyA Unit := ⟨0, fun _ vs _ => vs = [], fun _ h => h, fun h => by rw [h] <;> rfl⟩
def aOne {α : Type} (t : Ty α) : TyA α := ⟨1, fun F vs a => ∃ v, vs = [v] ∧ t.rep F v a, fun e ⟨v, h, r⟩ => ⟨v, h, t.mono e r⟩, fun ⟨v, h, _⟩ => by rw [h] <;> rfl⟩
def aCons {α β : Type} (t : Ty α) (u : TyA β) : TyA (α × β) := ⟨u.len + 1, fun F vs a => ∃ v ws, vs = v :: ws ∧ t.rep F v a.1 ∧ u.rep F ws a.2, fun e ⟨v, ws, h, r, q⟩ => ⟨v, ws, h, t.mono e r, u.mono e q⟩, fun ⟨v, ws, h, _, q⟩ => by rw [h, List.length_cons, u.hlen q]⟩
def yTup (K : PySem.W.Frag) {α : Type} (u : TyA α) : Ty α := ⟨fun F v a => ∃ p vs, v = .ref p ∧ F p = some (.tup vs) ∧ u.rep F vs a, fun e ⟨p, vs, h1, h2, h3⟩ => ⟨p, vs, h1, e _ _ h2, u.mono e h3⟩⟩
/-- an instance of the own class x, never changed -/
def tObj (K : PySem.W.Frag) (x : Str) (names : List Str) {α : Type} (u : TyA α) : Ty α := ⟨fun F v a => ∃ p dx vs, v = .ref p ∧ F p = some (.ins (He.ga K x) dx (names.zip vs)) ∧ u.rep F vs a, fun e ⟨p, dx, vs, h1, h2, h3⟩ => ⟨p, dx, vs, h1, e _ _ h2, u.mono e h3⟩⟩
theorem dp_mono {K : PySem.W.Frag} {F F' : Hp} (e : Same F F') : ∀ {v : V} {d : PyData}, Dp K F v d → Dp K F' v d := by
  intro v d h
  exact Dp.rec (motive_1 := fun v d _ => Dp K F' v d) (motive_2 := fun vs ds _ => DpAll K F' vs ds) .non (fun b => .bl b) (fun i => .int i) (fun x => .str x)
    (fun hs _ ih => .lst (sqL_mono e hs) ih) (fun hs _ ih => .tup (sqT_mono e hs) ih) .nil (fun _ _ ih1 ih2 => .cons ih1 ih2) h
/-- any data -/
inductive Dyn where
  | dat (d : PyData)
  | dct
/-- anything that the scripts hand in: data, or a dict -/
def tDyn (K : PySem.W.Frag) : Ty Dyn := ⟨fun F v a => match a with
  | .dat d => Dp K F v d
  | .dct => ∃ p kvs, v = .ref p ∧ F p = some (.dK kvs), fun {F F' v a} e h => by
  cases a with
  | dat d => exact dp_mono e h
  | dct =>
    obtain ⟨p, kvs, h1, h2⟩ := h
    exact ⟨p, kvs, h1, e _ _ h2⟩⟩
/-- the i-th place of a row of things has the type t and the value pr -/
def Nth {α β : Type} (u : TyA α) (i : Nat) (t : Ty β) (pr : α → β) : Prop := ∀ {F : Hp} {vs : List V} {a : α}, u.rep F vs a → ∃ v, vs[i]? = some v ∧ t.rep F v (pr a)
theorem nth_one {α : Type} {t : Ty α} : Nth (aOne t) 0 t (fun a => a) := fun {F vs a} ⟨v, h, r⟩ => ⟨v, by rw [h] <;> rfl, r⟩
theorem nth_0 {α β : Type} {t : Ty α} {u : TyA β} : Nth (aCons t u) 0 t (fun a => a.1) := fun {F vs a} ⟨v, ws, h, r, _⟩ => ⟨v, by rw [h] <;> rfl, r⟩
theorem nth_s {α β γ : Type} {t : Ty α} {u : TyA β} {i : Nat} {t' : Ty γ} {pr : β → γ} (n : Nth u i t' pr) : Nth (aCons t u) (i + 1) t' (fun a => pr a.2) := fun {F vs a} ⟨v, ws, h, r, q⟩ => by
  obtain ⟨w, h1, h2⟩ := n q
  exact ⟨w, by rw [h, List.getElem?_cons_succ]; exact h1, h2⟩
end TL
/-! ## TL2: what an expression evaluates to (Ev), operators, tests, calls -/
namespace TL
open PySem PySem.Spec PyProof.Rows L2
abbrev WS := Exn → L2.St → Hp → Prop
def Ev {α : Type} (t : Ty α) (te : TE) (W : WS) (σ : L2.St) (F H : Hp) (m : R α) : Prop := ∀ F1 H1, Fr F H F1 H1 → ∀ Q : VK,
  Post m (fun a => ∀ v F2 H2, Fr F1 H1 F2 H2 → t.rep F2 v a → Q v H2) (fun e => ∀ F2 H2, Fr F1 H1 F2 H2 → W e σ H2) → te σ H1 Q
def EvT (tt : TT) (W : WS) (σ : L2.St) (F H : Hp) (m : R Bool) : Prop := ∀ F1 H1, Fr F H F1 H1 → ∀ Q : Bool → Hp → Prop,
  Post m (fun b => ∀ F2 H2, Fr F1 H1 F2 H2 → Q b H2) (fun e => ∀ F2 H2, Fr F1 H1 F2 H2 → W e σ H2) → tt σ H1 Q
def EvA {α : Type} (u : TyA α) (ta : TA) (W : WS) (σ : L2.St) (F H : Hp) (m : R α) : Prop := ∀ F1 H1, Fr F H F1 H1 → ∀ Q : List V → Hp → Prop,
  Post m (fun a => ∀ vs F2 H2, Fr F1 H1 F2 H2 → u.rep F2 vs a → Q vs H2) (fun e => ∀ F2 H2, Fr F1 H1 F2 H2 → W e σ H2) → ta σ H1 Q
/-- a row of alike things -/
def EvR {α : Type} (t : Ty α) (n : Nat) (ta : TA) (W : WS) (σ : L2.St) (F H : Hp) (m : R (List α)) : Prop := ∀ F1 H1, Fr F H F1 H1 → ∀ Q : List V → Hp → Prop,
  Post m (fun as => ∀ vs F2 H2, Fr F1 H1 F2 H2 → Paired (t.rep F2) vs as → as.length = n → Q vs H2) (fun e => ∀ F2 H2, Fr F1 H1 F2 H2 → W e σ H2) → ta σ H1 Q
/-- a new list, nobody else's -/
def EvL {α : Type} (t : Ty α) (te : TE) (W : WS) (σ : L2.St) (F H : Hp) (m : R (List α)) : Prop := ∀ F1 H1, Fr F H F1 H1 → ∀ Q : VK,
  Post m (fun as => ∀ p vs F2 H2, Fr F1 H1 F2 H2 → H1 p = none → F2 p = none → H2 p = some (.lst vs) → Paired (t.rep F2) vs as → Q (.ref p) H2) (fun e => ∀ F2 H2, Fr F1 H1 F2 H2 → W e σ H2) → te σ H1 Q

section
variable {K : PySem.W.Frag} {W : WS} {σ : L2.St} {F H F' H' : Hp} {α β γ δ : Type} {ta : Ty α} {tb : Ty β} {tc : Ty γ} {td : Ty δ} {te te1 te2 te3 : TE} {tt tt1 tt2 : TT} {v : V}
theorem Ev.mono {m : R α} (fr : Fr F H F' H') (h : Ev ta te W σ F H m) : Ev ta te W σ F' H' m := fun F1 H1 f => h F1 H1 (fr.trans f)
theorem EvT.mono {m : R Bool} (fr : Fr F H F' H') (h : EvT tt W σ F H m) : EvT tt W σ F' H' m := fun F1 H1 f => h F1 H1 (fr.trans f)
theorem EvA.mono {u : TyA α} {tx : TA} {m : R α} (fr : Fr F H F' H') (h : EvA u tx W σ F H m) : EvA u tx W σ F' H' m := fun F1 H1 f => h F1 H1 (fr.trans f)
theorem ev_is {m m' : R α} (h : Ev ta te W σ F H m) (e : m = m') : Ev ta te W σ F H m' := e ▸ h
theorem el_is {m m' : R (List α)} (h : EvL ta te W σ F H m) (e : m = m') : EvL ta te W σ F H m' := e ▸ h
theorem et_is {m m' : R Bool} (h : EvT tt W σ F H m) (e : m = m') : EvT tt W σ F H m' := e ▸ h
theorem ev_val {a : α} (h : ∀ (H : Hp) (Q : VK), Q v H → te σ H Q) (r : ta.rep F v a) : Ev ta te W σ F H (.ok a) := fun F1 H1 f Q q => h H1 Q (q v F1 H1 (Fr.refl f.s) (ta.mono f.f r))
theorem ev_var {i : Nat} {a : α} (h : σ[i]? = some (some v)) (r : ta.rep F v a) : Ev ta (tVar i) W σ F H (.ok a) := ev_val (fun _ _ q => ⟨v, h, q⟩) r
/-- scalars, told in whatever world -/
theorem ev_vI {i : Nat} {G : Hp} {a : Int} (h : σ[i]? = some (some v)) (r : tInt.rep G v a) : Ev tInt (tVar i) W σ F H (.ok a) := ev_val (fun _ _ q => ⟨v, h, q⟩) r
theorem ev_vB {i : Nat} {G : Hp} {a : Bool} (h : σ[i]? = some (some v)) (r : tBool.rep G v a) : Ev tBool (tVar i) W σ F H (.ok a) := ev_val (fun _ _ q => ⟨v, h, q⟩) r
theorem ev_vS {i : Nat} {G : Hp} {a : Str} (h : σ[i]? = some (some v)) (r : tStr.rep G v a) : Ev tStr (tVar i) W σ F H (.ok a) := ev_val (fun _ _ q => ⟨v, h, q⟩) r
theorem ev_vN {i : Nat} {G : Hp} {a : Unit} (h : σ[i]? = some (some v)) (r : tNone.rep G v a) : Ev tNone (tVar i) W σ F H (.ok a) := ev_val (fun _ _ q => ⟨v, h, q⟩) r
theorem ev_c {a : α} (r : ta.rep F v a) : Ev ta (tC v) W σ F H (.ok a) := ev_val (fun _ _ q => q) r
theorem ev_int {i : Int} : Ev tInt (tC (.int i)) W σ F H (.ok i) := ev_c rfl
theorem ev_bl {i : Bool} : Ev tBool (tC (.bl i)) W σ F H (.ok i) := ev_c rfl
theorem ev_str {i : Str} : Ev tStr (tC (.str i)) W σ F H (.ok i) := ev_c rfl
theorem ev_non : Ev tNone (tC .non) W σ F H (.ok ()) := ev_c rfl

/-! ### operators by values -/
def Op1 (ta : Ty α) (tc : Ty γ) (r : V → Hp → VK → Prop) (f : α → R γ) : Prop := ∀ F H, Same F H → ∀ x a, ta.rep F x a → ∀ Q : VK,
  Post (f a) (fun c => ∀ v F2 H2, Fr F H F2 H2 → tc.rep F2 v c → Q v H2) (fun _ => False) → r x H Q
def Op2 (ta : Ty α) (tb : Ty β) (tc : Ty γ) (r : R2) (f : α → β → R γ) : Prop := ∀ F H, Same F H → ∀ x y a b, ta.rep F x a → tb.rep F y b → ∀ Q : VK,
  Post (f a b) (fun c => ∀ v F2 H2, Fr F H F2 H2 → tc.rep F2 v c → Q v H2) (fun _ => False) → r x y H Q
theorem op2_pure {r : R2} {f : α → β → R γ} (h : ∀ F H, Same F H → ∀ x y a b, ta.rep F x a → tb.rep F y b → ∀ Q : VK, Post (f a b) (fun c => ∀ v, tc.rep F v c → Q v H) (fun _ => False) → r x y H Q) : Op2 ta tb tc r f := fun F H s x y a b ra rb Q q =>
  h F H s x y a b ra rb Q (post_imp q (fun c _ k v rv => k v F H (Fr.refl s) rv) fun _ _ z => z)
/-- the steps of an operator raise nothing -/
theorem post_never {m : R γ} {k : γ → Prop} {x : Exn → Prop} (hn : ∀ e, m ≠ .err e) (h : Post m k x) : Post m k (fun _ => False) := post_imp h (fun _ _ z => z) fun e he _ => hn e he
def Calm (m : R γ) : Prop := ∀ e, m ≠ .err e
theorem calm_ok {c : γ} : Calm (.ok c) := fun e h => by cases h
theorem calm_stuck : Calm (.stuck : R γ) := fun e h => by cases h
theorem calm_ite {c : Prop} [Decidable c] {m n : R γ} (h1 : Calm m) (h2 : Calm n) : Calm (if c then m else n) := by
  by_cases h : c
  · rw [if_pos h]; exact h1
  · rw [if_neg h]; exact h2
theorem calm_opt {o : Option γ} : Calm (match o with | some c => R.ok c | none => .stuck) := by
  cases o with
  | none => exact calm_stuck
  | some c => exact calm_ok
theorem ev_op {r : R2} {f : α → β → R γ} {m1 : R α} {m2 : R β} (o : Op2 ta tb tc r f) (hn : ∀ a b, Calm (f a b)) (h1 : Ev ta te1 W σ F H m1) (h2 : Ev tb te2 W σ F H m2) : Ev tc (tOp r te1 te2) W σ F H (bd m1 fun a => bd m2 fun b => f a b) := fun F1 H1 f1 Q q => by
  refine h1 F1 H1 f1 _ (post_imp (post_bd q) (fun a _ q1 x F2 H2 f2 rx => ?_) fun e _ z => z)
  refine h2 F2 H2 (f1.trans f2) _ (post_imp (post_bd q1) (fun b _ q2 y F3 H3 f3 ry => ?_) fun e _ z F4 H4 f4 => z F4 H4 (f2.trans f4))
  refine o F3 H3 f3.s x y a b (ta.mono f3.f rx) ry _ (post_imp (post_never (hn a b) q2) (fun c _ k v F4 H4 f4 rv => k v F4 H4 ((f2.trans f3).trans f4) rv) fun _ _ z => z)
theorem ev_un {r : V → Hp → VK → Prop} {f : α → R γ} {m1 : R α} (o : Op1 ta tc r f) (hn : ∀ a, Calm (f a)) (h1 : Ev ta te1 W σ F H m1) : Ev tc (tUn r te1) W σ F H (bd m1 fun a => f a) := fun F1 H1 f1 Q q => by
  refine h1 F1 H1 f1 _ (post_imp (post_bd q) (fun a _ q1 x F2 H2 f2 rx => ?_) fun e _ z => z)
  exact o F2 H2 f2.s x a rx _ (post_imp (post_never (hn a) q1) (fun c _ k v F4 H4 f4 rv => k v F4 H4 (f2.trans f4) rv) fun _ _ z => z)
/-- total int operators -/
theorem o_I0 {g : Int → Int → Int} : Op2 tInt tInt tInt (rI0 fun i j => .int (g i j)) (fun a b => .ok (g a b)) := op2_pure fun F H s x y a b ra rb Q q => ⟨a, b, ra, rb, q _ rfl⟩
theorem o_B0 {g : Int → Int → Bool} : Op2 tInt tInt tBool (rI0 fun i j => .bl (g i j)) (fun a b => .ok (g a b)) := op2_pure fun F H s x y a b ra rb Q q => ⟨a, b, ra, rb, q _ rfl⟩
theorem o_I {C : Int → Int → Prop} [∀ i j, Decidable (C i j)] {g : Int → Int → Int} : Op2 tInt tInt tInt (rI C fun i j => .int (g i j)) (fun a b => if C a b then .ok (g a b) else .stuck) := op2_pure fun F H s x y a b ra rb Q q => by
  by_cases h : C a b
  · rw [if_pos h] at q
    exact ⟨a, b, ra, rb, h, q _ rfl⟩
  · rw [if_neg h] at q
    exact q.elim
instance : ∀ i j, Decidable (CMul i j) := fun i j => by unfold CMul; infer_instance
instance : ∀ i j, Decidable (CDiv i j) := fun i j => by unfold CDiv; infer_instance
instance : ∀ i j, Decidable (CPow i j) := fun i j => by unfold CPow; infer_instance
def mulR (a b : Int) : R Int := if CMul a b then .ok (a * b) else .stuck
def divR (a b : Int) : R Int := if CDiv a b then .ok (a / b) else .stuck
def modR (a b : Int) : R Int := if 0 < b then .ok (a % b) else .stuck
def powR (a b : Int) : R Int := if CPow a b then .ok (a ^ b.toNat) else .stuck
theorem calm_mulR {a b : Int} : Calm (mulR a b) := calm_ite calm_ok calm_stuck
theorem calm_divR {a b : Int} : Calm (divR a b) := calm_ite calm_ok calm_stuck
theorem calm_modR {a b : Int} : Calm (modR a b) := calm_ite calm_ok calm_stuck
theorem calm_powR {a b : Int} : Calm (powR a b) := calm_ite calm_ok calm_stuck
theorem ev_add {m1 m2 : R Int} (h1 : Ev tInt te1 W σ F H m1) (h2 : Ev tInt te2 W σ F H m2) : Ev tInt (tOp (rI0 fun i j => .int (i + j)) te1 te2) W σ F H (bd m1 fun a => bd m2 fun b => .ok (a + b)) := ev_op o_I0 (fun _ _ => calm_ok) h1 h2
theorem ev_sub {m1 m2 : R Int} (h1 : Ev tInt te1 W σ F H m1) (h2 : Ev tInt te2 W σ F H m2) : Ev tInt (tOp (rI0 fun i j => .int (i - j)) te1 te2) W σ F H (bd m1 fun a => bd m2 fun b => .ok (a - b)) := ev_op o_I0 (fun _ _ => calm_ok) h1 h2
theorem ev_mul {m1 m2 : R Int} (h1 : Ev tInt te1 W σ F H m1) (h2 : Ev tInt te2 W σ F H m2) : Ev tInt (tOp (rI CMul fun i j => .int (i * j)) te1 te2) W σ F H (bd m1 fun a => bd m2 fun b => mulR a b) := ev_op o_I (fun _ _ => calm_mulR) h1 h2
theorem ev_div {m1 m2 : R Int} (h1 : Ev tInt te1 W σ F H m1) (h2 : Ev tInt te2 W σ F H m2) : Ev tInt (tOp (rI CDiv fun i j => .int (i / j)) te1 te2) W σ F H (bd m1 fun a => bd m2 fun b => divR a b) := ev_op o_I (fun _ _ => calm_divR) h1 h2
theorem ev_mod {m1 m2 : R Int} (h1 : Ev tInt te1 W σ F H m1) (h2 : Ev tInt te2 W σ F H m2) : Ev tInt (tOp (rI (fun _ j => 0 < j) fun i j => .int (i % j)) te1 te2) W σ F H (bd m1 fun a => bd m2 fun b => modR a b) := ev_op o_I (fun _ _ => calm_modR) h1 h2
theorem ev_pow {m1 m2 : R Int} (h1 : Ev tInt te1 W σ F H m1) (h2 : Ev tInt te2 W σ F H m2) : Ev tInt (tOp (rI CPow fun i j => .int (i ^ j.toNat)) te1 te2) W σ F H (bd m1 fun a => bd m2 fun b => powR a b) := ev_op o_I (fun _ _ => calm_powR) h1 h2
theorem ev_neg {m1 : R Int} (h1 : Ev tInt te1 W σ F H m1) : Ev tInt (tUn (rU fun i => .int (-i)) te1) W σ F H (bd m1 fun a => .ok (-a)) := ev_un (fun F H s x a ra Q q => ⟨a, ra, q _ F H (Fr.refl s) rfl⟩) (fun _ => calm_ok) h1
theorem ev_lt {m1 m2 : R Int} (h1 : Ev tInt te1 W σ F H m1) (h2 : Ev tInt te2 W σ F H m2) : Ev tBool (tOp (rI0 fun i j => .bl (decide (i < j))) te1 te2) W σ F H (bd m1 fun a => bd m2 fun b => .ok (decide (a < b))) := ev_op o_B0 (fun _ _ => calm_ok) h1 h2
theorem ev_le {m1 m2 : R Int} (h1 : Ev tInt te1 W σ F H m1) (h2 : Ev tInt te2 W σ F H m2) : Ev tBool (tOp (rI0 fun i j => .bl (decide (i ≤ j))) te1 te2) W σ F H (bd m1 fun a => bd m2 fun b => .ok (decide (a ≤ b))) := ev_op o_B0 (fun _ _ => calm_ok) h1 h2
theorem ev_gt {m1 m2 : R Int} (h1 : Ev tInt te1 W σ F H m1) (h2 : Ev tInt te2 W σ F H m2) : Ev tBool (tOp (rI0 fun i j => .bl (decide (j < i))) te1 te2) W σ F H (bd m1 fun a => bd m2 fun b => .ok (decide (b < a))) := ev_op o_B0 (fun _ _ => calm_ok) h1 h2
theorem ev_ge {m1 m2 : R Int} (h1 : Ev tInt te1 W σ F H m1) (h2 : Ev tInt te2 W σ F H m2) : Ev tBool (tOp (rI0 fun i j => .bl (decide (j ≤ i))) te1 te2) W σ F H (bd m1 fun a => bd m2 fun b => .ok (decide (b ≤ a))) := ev_op o_B0 (fun _ _ => calm_ok) h1 h2

/-! ### == of scalars, of data -/
/-- a type whose values say themselves -/
structure Scal (t : Ty α) where
  val : α → V
  is : ∀ {F v a}, t.rep F v a → v = val a
  inj : ∀ {a b}, val a = val b → a = b
def sInt : Scal tInt := ⟨.int, fun h => h, fun h => by injection h⟩
def sBool : Scal tBool := ⟨.bl, fun h => h, fun h => by injection h⟩
def sStr : Scal tStr := ⟨.str, fun h => h, fun h => by injection h⟩
theorem ev_eq [DecidableEq α] (S : Scal ta) (hs : ∀ a b, scal (S.val a) (S.val b) = true) {m1 m2 : R α} (h1 : Ev ta te1 W σ F H m1) (h2 : Ev ta te2 W σ F H m2) : Ev tBool (tOp rEq te1 te2) W σ F H (bd m1 fun a => bd m2 fun b => .ok (decide (a = b))) :=
  ev_op (op2_pure fun F H s x y a b ra rb Q q => by
    rw [S.is ra, S.is rb]
    refine ⟨hs a b, ?_⟩
    have e : decide (S.val a = S.val b) = decide (a = b) := by
      by_cases h : a = b
      · rw [decide_eq_true h, decide_eq_true (congrArg S.val h)]
      · rw [decide_eq_false h, decide_eq_false fun z => h (S.inj z)]
    rw [e]
    exact q _ rfl) (fun _ _ => calm_ok) h1 h2
theorem ev_ne [DecidableEq α] (S : Scal ta) (hs : ∀ a b, scal (S.val a) (S.val b) = true) {m1 m2 : R α} (h1 : Ev ta te1 W σ F H m1) (h2 : Ev ta te2 W σ F H m2) : Ev tBool (tOp rNe te1 te2) W σ F H (bd m1 fun a => bd m2 fun b => .ok (!decide (a = b))) :=
  ev_op (op2_pure fun F H s x y a b ra rb Q q => by
    rw [S.is ra, S.is rb]
    refine ⟨hs a b, ?_⟩
    have e : decide (S.val a = S.val b) = decide (a = b) := by
      by_cases h : a = b
      · rw [decide_eq_true h, decide_eq_true (congrArg S.val h)]
      · rw [decide_eq_false h, decide_eq_false fun z => h (S.inj z)]
    rw [e]
    exact q _ rfl) (fun _ _ => calm_ok) h1 h2
theorem ev_eqI {m1 m2 : R Int} (h1 : Ev tInt te1 W σ F H m1) (h2 : Ev tInt te2 W σ F H m2) : Ev tBool (tOp rEq te1 te2) W σ F H (bd m1 fun a => bd m2 fun b => .ok (decide (a = b))) := ev_eq sInt (fun _ _ => rfl) h1 h2
theorem ev_neI {m1 m2 : R Int} (h1 : Ev tInt te1 W σ F H m1) (h2 : Ev tInt te2 W σ F H m2) : Ev tBool (tOp rNe te1 te2) W σ F H (bd m1 fun a => bd m2 fun b => .ok (!decide (a = b))) := ev_ne sInt (fun _ _ => rfl) h1 h2
theorem ev_eqB {m1 m2 : R Bool} (h1 : Ev tBool te1 W σ F H m1) (h2 : Ev tBool te2 W σ F H m2) : Ev tBool (tOp rEq te1 te2) W σ F H (bd m1 fun a => bd m2 fun b => .ok (decide (a = b))) := ev_eq sBool (fun _ _ => rfl) h1 h2
theorem ev_neB {m1 m2 : R Bool} (h1 : Ev tBool te1 W σ F H m1) (h2 : Ev tBool te2 W σ F H m2) : Ev tBool (tOp rNe te1 te2) W σ F H (bd m1 fun a => bd m2 fun b => .ok (!decide (a = b))) := ev_ne sBool (fun _ _ => rfl) h1 h2
theorem ev_eqS {m1 m2 : R Str} (h1 : Ev tStr te1 W σ F H m1) (h2 : Ev tStr te2 W σ F H m2) : Ev tBool (tOp rEq te1 te2) W σ F H (bd m1 fun a => bd m2 fun b => .ok (decide (a = b))) := ev_eq sStr (fun _ _ => rfl) h1 h2
theorem ev_neS {m1 m2 : R Str} (h1 : Ev tStr te1 W σ F H m1) (h2 : Ev tStr te2 W σ F H m2) : Ev tBool (tOp rNe te1 te2) W σ F H (bd m1 fun a => bd m2 fun b => .ok (!decide (a = b))) := ev_ne sStr (fun _ _ => rfl) h1 h2
/-- data: its encoding, of a depth that is told -/
structure IsD (K : PySem.W.Frag) (t : Ty α) (enc : α → PyData) (n : Nat) : Prop where
  dp : ∀ {F v a}, t.rep F v a → Dp K F v (enc a)
  dep : ∀ a, (enc a).depth ≤ n
def eqDR (d e : PyData) : R Bool := if d.canLay0 = true ∧ e.canLay0 = true then .ok (PyData.eqv d e) else .stuck
def neDR (d e : PyData) : R Bool := if d.canLay0 = true ∧ e.canLay0 = true then .ok (!PyData.eqv d e) else .stuck
theorem calm_eqDR {d e : PyData} : Calm (eqDR d e) := calm_ite calm_ok calm_stuck
theorem calm_neDR {d e : PyData} : Calm (neDR d e) := calm_ite calm_ok calm_stuck
theorem shp {d : PyData} {n : Nat} (h : d.canLay0 = true) (hd : d.depth ≤ n) (hn : n ≤ 64) : SeqAt.shaped d = true := by
  unfold SeqAt.shaped
  rw [h, decide_eq_true (Nat.le_trans hd hn)]
  rfl
theorem ev_eqD {ea : α → PyData} {eb : β → PyData} {na nb : Nat} (da : IsD K ta ea na) (db : IsD K tb eb nb) (ha : na ≤ 64) (hb : nb ≤ 64) {m1 : R α} {m2 : R β} (h1 : Ev ta te1 W σ F H m1) (h2 : Ev tb te2 W σ F H m2) : Ev tBool (tOp (rEqD K) te1 te2) W σ F H (bd m1 fun a => bd m2 fun b => eqDR (ea a) (eb b)) :=
  ev_op (op2_pure fun F H s x y a b ra rb Q q => by
    unfold eqDR at q
    by_cases h : (ea a).canLay0 = true ∧ (eb b).canLay0 = true
    · rw [if_pos h] at q
      exact ⟨_, _, dp_mono s (da.dp ra), dp_mono s (db.dp rb), shp h.1 (da.dep a) ha, shp h.2 (db.dep b) hb, q _ rfl⟩
    · rw [if_neg h] at q
      exact q.elim) (fun _ _ => calm_eqDR) h1 h2
theorem ev_neD {ea : α → PyData} {eb : β → PyData} {na nb : Nat} (da : IsD K ta ea na) (db : IsD K tb eb nb) (ha : na ≤ 64) (hb : nb ≤ 64) {m1 : R α} {m2 : R β} (h1 : Ev ta te1 W σ F H m1) (h2 : Ev tb te2 W σ F H m2) : Ev tBool (tOp (rNeD K) te1 te2) W σ F H (bd m1 fun a => bd m2 fun b => neDR (ea a) (eb b)) :=
  ev_op (op2_pure fun F H s x y a b ra rb Q q => by
    unfold neDR at q
    by_cases h : (ea a).canLay0 = true ∧ (eb b).canLay0 = true
    · rw [if_pos h] at q
      exact ⟨_, _, dp_mono s (da.dp ra), dp_mono s (db.dp rb), shp h.1 (da.dep a) ha, shp h.2 (db.dep b) hb, q _ rfl⟩
    · rw [if_neg h] at q
      exact q.elim) (fun _ _ => calm_neDR) h1 h2
/-- x is None -/
theorem ev_isN {m1 : R (Option α)} (h1 : Ev (tOpt ta) te1 W σ F H m1) : Ev tBool (tIsN te1) W σ F H (bd m1 fun a => .ok a.isNone) := fun F1 H1 f1 Q q => by
  refine h1 F1 H1 f1 _ (post_imp (post_bd q) (fun a _ q1 x F2 H2 f2 rx => ?_) fun e _ z => z)
  cases a with
  | none =>
    have rx : x = .non := rx
    subst rx
    exact q1 _ F2 H2 f2 rfl
  | some b =>
    have e : decide (x = .non) = false := decide_eq_false rx.1
    show Q (.bl (decide (x = .non))) H2
    rw [e]
    exact q1 _ F2 H2 f2 rfl
theorem ev_notN {m1 : R (Option α)} (h1 : Ev (tOpt ta) te1 W σ F H m1) : Ev tBool (tNotN te1) W σ F H (bd m1 fun a => .ok a.isSome) := fun F1 H1 f1 Q q => by
  refine h1 F1 H1 f1 _ (post_imp (post_bd q) (fun a _ q1 x F2 H2 f2 rx => ?_) fun e _ z => z)
  cases a with
  | none =>
    have rx : x = .non := rx
    subst rx
    exact q1 _ F2 H2 f2 rfl
  | some b =>
    have e : decide (x = .non) = false := decide_eq_false rx.1
    show Q (.bl (!decide (x = .non))) H2
    rw [e]
    exact q1 _ F2 H2 f2 rfl
/-- changes of type -/
def Cast (ta : Ty α) (tb : Ty β) (f : α → R β) : Prop := ∀ F v a, ta.rep F v a → ∀ b, f a = .ok b → tb.rep F v b
theorem ev_cast {f : α → R β} (c : Cast ta tb f) (hn : ∀ a, Calm (f a)) {m1 : R α} (h1 : Ev ta te1 W σ F H m1) : Ev tb te1 W σ F H (bd m1 f) := fun F1 H1 f1 Q q => by
  refine h1 F1 H1 f1 _ (post_imp (post_bd q) (fun a _ q1 x F2 H2 f2 rx => ?_) fun e _ z => z)
  cases hf : f a with
  | stuck =>
    rw [hf] at q1
    exact q1.elim
  | err e => exact absurd hf (hn a e)
  | ok b =>
    rw [hf] at q1
    exact q1 x F2 H2 f2 (c _ _ _ rx b hf)
def fromSome {α : Type} : Option α → R α
  | some a => .ok a
  | none => .stuck
theorem calm_fromSome {o : Option α} : Calm (fromSome o) := by
  cases o with
  | none => exact calm_stuck
  | some c => exact calm_ok
theorem ev_some {m1 : R (Option α)} (h1 : Ev (tOpt ta) te1 W σ F H m1) : Ev ta te1 W σ F H (bd m1 fromSome) := ev_cast (fun F v a r b e => by
  cases a with
  | none => cases e
  | some c =>
    cases e
    exact r.2) (fun _ => calm_fromSome) h1
/-- never None -/
def NotNon (t : Ty α) : Prop := ∀ F v a, t.rep F v a → v ≠ .non
theorem ev_optOf (hn : NotNon ta) {m1 : R α} (h1 : Ev ta te1 W σ F H m1) : Ev (tOpt ta) te1 W σ F H (bd m1 fun a => .ok (some a)) := ev_cast (fun F v a r b e => by
  cases e
  exact ⟨hn _ _ _ r, r⟩) (fun _ => calm_ok) h1
theorem ev_noneOf (h1 : Ev tNone te1 W σ F H (.ok ())) : Ev (tOpt ta) te1 W σ F H (.ok none) := ev_is (ev_cast (tb := tOpt ta) (f := fun _ => .ok none) (fun F v a r b e => by
  cases e
  exact r) (fun _ => calm_ok) h1) rfl
theorem nn_int : NotNon tInt := fun F v a r e => by
  have r : v = .int a := r
  rw [r] at e
  cases e
theorem nn_str : NotNon tStr := fun F v a r e => by
  have r : v = .str a := r
  rw [r] at e
  cases e
theorem nn_tup {u : TyA α} : NotNon (yTup K u) := fun F v a ⟨p, vs, r, _⟩ e => by
  rw [r] at e
  cases e

/-! ### tests -/
theorem et_val {m : R Bool} (h : Ev tBool te W σ F H m) : EvT (tB te) W σ F H m := fun F1 H1 f1 Q q =>
  h F1 H1 f1 _ (post_imp q (fun b _ k x F2 H2 f2 rx => ⟨b, rx, k F2 H2 f2⟩) fun e _ z => z)
theorem et_test {m : R Bool} (h : Ev tBool te W σ F H m) : EvT (tTest te) W σ F H m := fun F1 H1 f1 Q q =>
  h F1 H1 f1 _ (post_imp q (fun b _ k x F2 H2 f2 rx => ⟨b, rx, k F2 H2 f2⟩) fun e _ z => z)
theorem et_not {m : R Bool} (h : EvT tt W σ F H m) : EvT (tNot tt) W σ F H (bd m fun b => .ok (!b)) := fun F1 H1 f1 Q q =>
  h F1 H1 f1 _ (post_imp (post_bd q) (fun b _ k F2 H2 f2 => k F2 H2 f2) fun e _ z => z)
theorem et_and {m1 m2 : R Bool} (h1 : EvT tt1 W σ F H m1) (h2 : EvT tt2 W σ F H m2) : EvT (tAnd tt1 tt2) W σ F H (bd m1 fun b => if b = true then m2 else .ok false) := fun F1 H1 f1 Q q => by
  refine h1 F1 H1 f1 _ (post_imp (post_bd q) (fun b _ k F2 H2 f2 => ?_) fun e _ z => z)
  cases b with
  | true =>
    rw [if_pos rfl] at k
    show tt2 σ H2 Q
    exact h2 F2 H2 (f1.trans f2) _ (post_imp k (fun c _ k2 F3 H3 f3 => k2 F3 H3 (f2.trans f3)) fun e _ z F3 H3 f3 => z F3 H3 (f2.trans f3))
  | false => exact k F2 H2 f2
theorem et_or {m1 m2 : R Bool} (h1 : EvT tt1 W σ F H m1) (h2 : EvT tt2 W σ F H m2) : EvT (tOr tt1 tt2) W σ F H (bd m1 fun b => if b = true then .ok true else m2) := fun F1 H1 f1 Q q => by
  refine h1 F1 H1 f1 _ (post_imp (post_bd q) (fun b _ k F2 H2 f2 => ?_) fun e _ z => z)
  cases b with
  | true => exact k F2 H2 f2
  | false =>
    have k : Post m2 _ _ := k
    show tt2 σ H2 Q
    exact h2 F2 H2 (f1.trans f2) _ (post_imp k (fun c _ k2 F3 H3 f3 => k2 F3 H3 (f2.trans f3)) fun e _ z F3 H3 f3 => z F3 H3 (f2.trans f3))
theorem ev_andV {m1 m2 : R Bool} (h1 : Ev tBool te1 W σ F H m1) (h2 : Ev tBool te2 W σ F H m2) : Ev tBool (tAndV te1 te2) W σ F H (bd m1 fun b => if b = true then m2 else .ok false) := fun F1 H1 f1 Q q => by
  refine h1 F1 H1 f1 _ (post_imp (post_bd q) (fun b _ k x F2 H2 f2 rx => ⟨b, rx, ?_⟩) fun e _ z => z)
  cases b with
  | true =>
    rw [if_pos rfl] at k
    show te2 σ H2 Q
    exact h2 F2 H2 (f1.trans f2) _ (post_imp k (fun c _ k2 v F3 H3 f3 => k2 v F3 H3 (f2.trans f3)) fun e _ z F3 H3 f3 => z F3 H3 (f2.trans f3))
  | false => exact k _ F2 H2 f2 rfl
theorem ev_orV {m1 m2 : R Bool} (h1 : Ev tBool te1 W σ F H m1) (h2 : Ev tBool te2 W σ F H m2) : Ev tBool (tOrV te1 te2) W σ F H (bd m1 fun b => if b = true then .ok true else m2) := fun F1 H1 f1 Q q => by
  refine h1 F1 H1 f1 _ (post_imp (post_bd q) (fun b _ k x F2 H2 f2 rx => ⟨b, rx, ?_⟩) fun e _ z => z)
  cases b with
  | true => exact k _ F2 H2 f2 rfl
  | false =>
    have k : Post m2 _ _ := k
    show te2 σ H2 Q
    exact h2 F2 H2 (f1.trans f2) _ (post_imp k (fun c _ k2 v F3 H3 f3 => k2 v F3 H3 (f2.trans f3)) fun e _ z F3 H3 f3 => z F3 H3 (f2.trans f3))
theorem ev_notV {m : R Bool} (h : Ev tBool te W σ F H m) : Ev tBool (tNotV te) W σ F H (bd m fun b => .ok (!b)) := fun F1 H1 f1 Q q =>
  h F1 H1 f1 _ (post_imp (post_bd q) (fun b _ k x F2 H2 f2 rx => ⟨b, rx, k _ F2 H2 f2 rfl⟩) fun e _ z => z)
theorem ev_if {m : R Bool} {m1 m2 : R α} (h : EvT tt W σ F H m) (h1 : Ev ta te1 W σ F H m1) (h2 : Ev ta te2 W σ F H m2) : Ev ta (tIf tt te1 te2) W σ F H (bd m fun b => if b = true then m1 else m2) := fun F1 H1 f1 Q q => by
  refine h F1 H1 f1 _ (post_imp (post_bd q) (fun b _ k F2 H2 f2 => ?_) fun e _ z => z)
  cases b with
  | true =>
    rw [if_pos rfl] at k
    show te1 σ H2 Q
    exact h1 F2 H2 (f1.trans f2) _ (post_imp k (fun c _ k2 v F3 H3 f3 => k2 v F3 H3 (f2.trans f3)) fun e _ z F3 H3 f3 => z F3 H3 (f2.trans f3))
  | false =>
    have k : Post m2 _ _ := k
    show te2 σ H2 Q
    exact h2 F2 H2 (f1.trans f2) _ (post_imp k (fun c _ k2 v F3 H3 f3 => k2 v F3 H3 (f2.trans f3)) fun e _ z F3 H3 f3 => z F3 H3 (f2.trans f3))
/-- a < b < c -/
theorem ev_chain {r r' : R2} {f : α → β → R Bool} {g : β → γ → R Bool} {m1 : R α} {m2 : R β} {m3 : R γ} (o : Op2 ta tb tBool r f) (hf : ∀ a b, Calm (f a b)) (o' : Op2 tb tc tBool r' g) (hg : ∀ a b, Calm (g a b)) (h1 : Ev ta te1 W σ F H m1) (h2 : Ev tb te2 W σ F H m2) (h3 : Ev tc te3 W σ F H m3) :
    Ev tBool (tChain r r' te1 te2 te3) W σ F H (bd m1 fun a => bd m2 fun b => bd (f a b) fun k => if k = true then bd m3 fun c => g b c else .ok false) := fun F1 H1 f1 Q q => by
  refine h1 F1 H1 f1 _ (post_imp (post_bd q) (fun a _ q1 x F2 H2 f2 rx => ?_) fun e _ z => z)
  refine h2 F2 H2 (f1.trans f2) _ (post_imp (post_bd q1) (fun b _ q2 y F3 H3 f3 ry => ?_) fun e _ z F4 H4 f4 => z F4 H4 (f2.trans f4))
  refine o F3 H3 f3.s x y a b (ta.mono f3.f rx) ry _ (post_imp (post_never (hf a b) (post_bd q2)) (fun k _ q3 z F4 H4 f4 rz => ⟨k, rz, ?_⟩) fun _ _ z => z)
  cases k with
  | false => exact q3 _ F4 H4 ((f2.trans f3).trans f4) rfl
  | true =>
    rw [if_pos rfl] at q3
    rw [if_pos rfl]
    refine h3 F4 H4 (((f1.trans f2).trans f3).trans f4) _ (post_imp (post_bd q3) (fun c _ q4 w F5 H5 f5 rw_ => ?_) fun e _ z F5 H5 f5 => z F5 H5 (((f2.trans f3).trans f4).trans f5))
    exact o' F5 H5 f5.s y w b c (tb.mono (f4.f.trans f5.f) ry) rw_ _ (post_imp (post_never (hg b c) q4) (fun c _ k v F6 H6 f6 rv => k v F6 H6 ((((f2.trans f3).trans f4).trans f5).trans f6) rv) fun _ _ z => z)

/-! ### rows of arguments, tuples, lists -/
theorem ea_nil : EvA aNil tNil W σ F H (.ok ()) := fun F1 H1 f1 Q q => q [] F1 H1 (Fr.refl f1.s) rfl
theorem ea_one {m : R α} (h : Ev ta te W σ F H m) : EvA (aOne ta) (tCons te tNil) W σ F H m := fun F1 H1 f1 Q q =>
  h F1 H1 f1 _ (post_imp q (fun a _ k x F2 H2 f2 rx => k [x] F2 H2 f2 ⟨x, rfl, rx⟩) fun e _ z => z)
theorem ea_cons {u : TyA β} {tr : TA} {m1 : R α} {m2 : R β} (h1 : Ev ta te W σ F H m1) (h2 : EvA u tr W σ F H m2) : EvA (aCons ta u) (tCons te tr) W σ F H (bd m1 fun a => bd m2 fun b => .ok (a, b)) := fun F1 H1 f1 Q q => by
  refine h1 F1 H1 f1 _ (post_imp (post_bd q) (fun a _ q1 x F2 H2 f2 rx => ?_) fun e _ z => z)
  refine h2 F2 H2 (f1.trans f2) _ (post_imp (post_bd q1) (fun b _ q2 vs F3 H3 f3 rv => ?_) fun e _ z F4 H4 f4 => z F4 H4 (f2.trans f4))
  exact q2 _ F3 H3 (f2.trans f3) ⟨x, vs, rfl, ta.mono f3.f rx, rv⟩
theorem er_nil : EvR ta 0 tNil W σ F H (.ok []) := fun F1 H1 f1 Q q => q [] F1 H1 (Fr.refl f1.s) .nil rfl
theorem er_cons {n : Nat} {tr : TA} {m1 : R α} {m2 : R (List α)} (h1 : Ev ta te W σ F H m1) (h2 : EvR ta n tr W σ F H m2) : EvR ta (n + 1) (tCons te tr) W σ F H (bd m1 fun a => bd m2 fun b => .ok (a :: b)) := fun F1 H1 f1 Q q => by
  refine h1 F1 H1 f1 _ (post_imp (post_bd q) (fun a _ q1 x F2 H2 f2 rx => ?_) fun e _ z => z)
  refine h2 F2 H2 (f1.trans f2) _ (post_imp (post_bd q1) (fun b _ q2 vs F3 H3 f3 rv hn => ?_) fun e _ z F4 H4 f4 => z F4 H4 (f2.trans f4))
  exact q2 _ F3 H3 (f2.trans f3) (.cons (ta.mono f3.f rx) rv) (by rw [List.length_cons, hn])
theorem small_line {n : Nat} (h : n ≤ 100000) : n ≤ sizeLine := Nat.le_trans h (by decide)
theorem ev_tup {u : TyA α} {tx : TA} {m : R α} (hl : u.len ≤ 100000) (h : EvA u tx W σ F H m) : Ev (yTup K u) (tTup tx) W σ F H m := fun F1 H1 f1 Q q =>
  h F1 H1 f1 _ (post_imp q (fun a _ k vs F2 H2 f2 rv => ⟨small_line (by rw [u.hlen rv]; exact hl), fun p hp => k _ _ _ (f2.trans (Fr.alloc f2.s hp)) ⟨p, vs, rfl, upd_same, u.mono (same_upd (f2.s.free hp)) rv⟩⟩) fun e _ z => z)
/-- a tuple of alike things, written -/
theorem ev_tupL {n : Nat} {tx : TA} {m : R (List α)} (hl : n ≤ 100000) (h : EvR ta n tx W σ F H m) : Ev (yTupL K ta) (tTup tx) W σ F H m := fun F1 H1 f1 Q q =>
  h F1 H1 f1 _ (post_imp q (fun a e k vs F2 H2 f2 rv hn => ⟨small_line (by rw [rv.length, hn]; exact hl), fun p hp => k _ _ _ (f2.trans (Fr.alloc f2.s hp)) ⟨p, vs, rfl, .inl (.inl upd_same), paired_mono (same_upd (f2.s.free hp)) rv⟩⟩) fun e _ z => z)
theorem el_lst {n : Nat} {tx : TA} {m : R (List α)} (hl : n ≤ 100000) (h : EvR ta n tx W σ F H m) : EvL ta (tLst tx) W σ F H m := fun F1 H1 f1 Q q =>
  h F1 H1 f1 _ (post_imp q (fun a e k vs F2 H2 f2 rv hn => ⟨small_line (by rw [rv.length, hn]; exact hl), fun p hp => k p vs F2 _ (f2.trans (Fr.fresh f2.s hp)) (f2.h.free hp) (f2.s.free hp) upd_same rv⟩) fun e _ z => z)
/-- a new list, frozen at once -/
theorem ev_of_l {m : R (List α)} (h : EvL ta te W σ F H m) : Ev (yList ta) te W σ F H m := fun F1 H1 f1 Q q =>
  h F1 H1 f1 _ (post_imp q (fun a _ k p vs F2 H2 f2 h1 hf h2 rv => k (.ref p) _ _ (f2.freeze h1 h2 hf) ⟨p, vs, rfl, upd_same, paired_mono (same_upd hf) rv⟩) fun e _ z => z)
/-- read only -/
theorem ev_wk {m : R (List α)} (h : Ev (yList ta) te W σ F H m) : Ev (tList K ta) te W σ F H m := fun F1 H1 f1 Q q =>
  h F1 H1 f1 _ (post_imp q (fun a _ k x F2 H2 f2 ⟨p, vs, e, hp, rv⟩ => k x F2 H2 f2 ⟨p, vs, e, .inl (.inl hp), rv⟩) fun e _ z => z)
/-- a part of a tuple, by a written place -/
theorem ev_nth {u : TyA α} {i : Nat} {pr : α → β} {m : R α} (n : Nth u i tb pr) (h : Ev (yTup K u) te W σ F H m) : Ev tb (tOp (rIxT K) te (tC (.int (i : Nat)))) W σ F H (bd m fun a => .ok (pr a)) := fun F1 H1 f1 Q q => by
  refine h F1 H1 f1 _ (post_imp (post_bd q) (fun a _ q1 x F2 H2 f2 ⟨p, vs, ex, hs, rv⟩ => ?_) fun e _ z => z)
  obtain ⟨w, h1, h2⟩ := n rv
  exact ⟨p, vs, _, w, ex, rfl, .inl (.inl (f2.s _ _ hs)), atI_nat h1, q1 w F2 H2 f2 h2⟩
def atR {α : Type} (xs : List α) (i : Int) : R α := match atI xs i with
  | some x => .ok x
  | none => .stuck
theorem calm_atR {xs : List α} {i : Int} : Calm (atR xs i) := calm_opt
theorem paired_get {P : V → α → Prop} : ∀ {vs : List V} {as : List α} {j : Nat} {a : α}, Paired P vs as → as[j]? = some a → ∃ v, vs[j]? = some v ∧ P v a
  | _, _, _, _, .nil, h => by simp at h
  | _, _, 0, _, .cons r _, h => by
    have h := Option.some.inj (by simpa using h)
    subst h
    exact ⟨_, rfl, r⟩
  | _, _, j + 1, a, .cons _ t, h => by
    obtain ⟨v, h1, h2⟩ := paired_get (j := j) (a := a) t (by simpa using h)
    exact ⟨v, by simpa using h1, h2⟩
theorem paired_getL {P : V → α → Prop} : ∀ {vs : List V} {as : List α} {j : Nat} {v : V}, Paired P vs as → vs[j]? = some v → ∃ a, as[j]? = some a ∧ P v a
  | _, _, _, _, .nil, h => by simp at h
  | _, _, 0, _, .cons r _, h => by
    have h := Option.some.inj (by simpa using h)
    subst h
    exact ⟨_, rfl, r⟩
  | _, _, j + 1, v, .cons _ t, h => by
    obtain ⟨a, h1, h2⟩ := paired_getL (j := j) (v := v) t (by simpa using h)
    exact ⟨a, by simpa using h1, h2⟩
theorem paired_at {P : V → α → Prop} {vs : List V} {as : List α} {i : Int} {a : α} (r : Paired P vs as) (h : atI as i = some a) : ∃ v, atI vs i = some v ∧ P v a := by
  unfold atI at h
  cases e : ixN as.length i with
  | none =>
    rw [e] at h
    cases h
  | some j =>
    rw [e] at h
    obtain ⟨v, h1, h2⟩ := paired_get r (show as[j]? = some a from h)
    refine ⟨v, ?_, h2⟩
    unfold atI
    rw [r.length, e]
    exact h1
theorem o_ixL : Op2 (tList K ta) tInt ta (rIxL K) atR := op2_pure fun F H s x y as i ⟨p, vs, ex, hs, rv⟩ ri Q q => by
  unfold atR at q
  cases e : atI as i with
  | none =>
    rw [e] at q
    exact q.elim
  | some a =>
    rw [e] at q
    obtain ⟨v, h1, h2⟩ := paired_at rv e
    exact ⟨p, vs, i, v, ex, ri, sqL_mono s hs, h1, q v h2⟩
theorem ev_ixL {m1 : R (List α)} {m2 : R Int} (h1 : Ev (tList K ta) te1 W σ F H m1) (h2 : Ev tInt te2 W σ F H m2) : Ev ta (tOp (rIxL K) te1 te2) W σ F H (bd m1 fun a => bd m2 fun b => atR a b) := ev_op o_ixL (fun _ _ => calm_atR) h1 h2
theorem ev_ixTL {m1 : R (List α)} {m2 : R Int} (h1 : Ev (yTupL K ta) te1 W σ F H m1) (h2 : Ev tInt te2 W σ F H m2) : Ev ta (tOp (rIxT K) te1 te2) W σ F H (bd m1 fun a => bd m2 fun b => atR a b) :=
  ev_op (ta := yTupL K ta) (tb := tInt) (op2_pure fun F H s x y as i ⟨p, vs, ex, hs, rv⟩ ri Q q => by
    unfold atR at q
    cases e : atI as i with
    | none =>
      rw [e] at q
      exact q.elim
    | some a =>
      rw [e] at q
      obtain ⟨v, h1, h2⟩ := paired_at rv e
      exact ⟨p, vs, i, v, ex, ri, sqT_mono s hs, h1, q v h2⟩) (fun _ _ => calm_atR) h1 h2
/-- one sign of a text -/
def signR (z : Str) (i : Int) : R Str := if z.length ≤ 100000 then (match atI z.cps.toList i with
  | some c => .ok ⟨#[c]⟩
  | none => .stuck) else .stuck
theorem calm_signR {z : Str} {i : Int} : Calm (signR z i) := by
  refine calm_ite ?_ calm_stuck
  cases atI z.cps.toList i with
  | none => exact calm_stuck
  | some c => exact calm_ok
theorem ev_ixS {m1 : R Str} {m2 : R Int} (h1 : Ev tStr te1 W σ F H m1) (h2 : Ev tInt te2 W σ F H m2) : Ev tStr (tOp rIxS te1 te2) W σ F H (bd m1 fun a => bd m2 fun b => signR a b) :=
  ev_op (op2_pure fun F H s x y z i rx ri Q q => by
    unfold signR at q
    by_cases hl : z.length ≤ 100000
    · rw [if_pos hl] at q
      cases e : atI z.cps.toList i with
      | none =>
        rw [e] at q
        exact q.elim
      | some c =>
        rw [e] at q
        exact ⟨z, i, c, rx, ri, small_line hl, e, q _ rfl⟩
    · rw [if_neg hl] at q
      exact q.elim) (fun _ _ => calm_signR) h1 h2

/-! ### fields of instances that never change -/
theorem lookup_zip : ∀ {names : List Str} {vs : List V} {f : Str} {i : Nat} {v : V}, names.findIdx? (fun x => x == f) = some i → vs[i]? = some v → (names.zip vs).lookup f = some v
  | [], _, _, _, _, h, _ => by simp at h
  | n :: ns, [], f, i, v, h, hv => by simp at hv
  | n :: ns, w :: vs, f, i, v, h, hv => by
    rw [List.findIdx?_cons] at h
    rw [List.zip_cons_cons, List.lookup_cons]
    by_cases e : n == f
    · rw [if_pos e] at h
      have hi : 0 = i := Option.some.inj h
      subst hi
      have e2 : (f == n) = true := by rw [eq_of_beq e]; exact beq_self_eq_true f
      rw [e2]
      simpa using hv
    · rw [if_neg e] at h
      have e2 : (f == n) = false := by
        cases q : f == n with
        | false => rfl
        | true => exact absurd (by rw [eq_of_beq q]; exact beq_self_eq_true n) e
      rw [e2]
      cases hj : ns.findIdx? (fun x => x == f) with
      | none =>
        rw [hj] at h
        cases h
      | some j =>
        rw [hj] at h
        have hi : j + 1 = i := Option.some.inj h
        subst hi
        exact lookup_zip hj (by simpa using hv)
theorem ev_fld {x f : Str} {names : List Str} {u : TyA α} {i : Nat} {pr : α → β} {m : R α} (c : Cls K (He.ga K x)) (na : NoAttr K (He.ga K x) f) (hi : names.findIdx? (fun y => y == f) = some i) (n : Nth u i tb pr) (h : Ev (tObj K x names u) te W σ F H m) : Ev tb (tFld K te f) W σ F H (bd m fun a => .ok (pr a)) := fun F1 H1 f1 Q q => by
  refine h F1 H1 f1 _ (post_imp (post_bd q) (fun a _ q1 v F2 H2 f2 ⟨p, dx, vs, ex, hp, rv⟩ => ?_) fun e _ z => z)
  obtain ⟨w, h1, h2⟩ := n rv
  exact ⟨p, _, dx, _, w, ex, f2.s _ _ hp, c, na, lookup_zip hi h1, q1 w F2 H2 f2 h2⟩

/-! ### calls -/
/-- what is wished of an exception -/
def XS (K : PySem.W.Frag) (E : XK) (e : Exn) (H : Hp) : Prop := match e with
  | .own c => E (.ref (He.ga K c)) none H
  | .fld c f n => ∀ d, H d = none → E (.ref (He.ga K c)) (some d) (upd H d (.xd [(f, .int n)]))
/-- the promise of a def that changes nothing -/
def SpF (K : PySem.W.Frag) (u : TyA α) (t : Ty β) (m : α → R β) : Sp := fun vs H Q E => ∃ F a, Same F H ∧ u.rep F vs a ∧ Post (m a) (fun b => ∀ v F' H', Fr F H F' H' → t.rep F' v b → Q v H') (fun e => ∀ F' H', Fr F H F' H' → XS K E e H')
/-- .. that hands back a new list -/
def SpL (K : PySem.W.Frag) (u : TyA α) (t : Ty β) (m : α → R (List β)) : Sp := fun vs H Q E => ∃ F a, Same F H ∧ u.rep F vs a ∧ Post (m a) (fun bs => ∀ p ws F' H', Fr F H F' H' → H p = none → F' p = none → H' p = some (.lst ws) → Paired (t.rep F') ws bs → Q (.ref p) H') (fun e => ∀ F' H', Fr F H F' H' → XS K E e H')
theorem spF_len {u : TyA α} {t : Ty β} {m : α → R β} : ∀ vs H Q E, SpF K u t m vs H Q E → vs.length = u.len := fun vs H Q E ⟨F, a, _, r, _⟩ => u.hlen r
theorem spL_len {u : TyA α} {t : Ty β} {m : α → R (List β)} : ∀ vs H Q E, SpL K u t m vs H Q E → vs.length = u.len := fun vs H Q E ⟨F, a, _, r, _⟩ => u.hlen r
theorem ev_call {u : TyA α} {g : α → R β} {m : R α} {tx : TA} {E : XK} (hw : ∀ e H, W e σ H → XS K E e H) (h : EvA u tx W σ F H m) : Ev tb (tCall (SpF K u tb g) [] E tx) W σ F H (bd m g) := fun F1 H1 f1 Q q =>
  h F1 H1 f1 _ (post_imp (post_bd q) (fun a _ k vs F2 H2 f2 rv => ⟨F2, a, f2.s, by rw [List.append_nil]; exact rv, post_imp k (fun b _ k2 v F3 H3 f3 r => k2 v F3 H3 (f2.trans f3) r) fun e _ z F3 H3 f3 => hw _ _ (z F3 H3 (f2.trans f3))⟩) fun e _ z => z)
theorem el_call {u : TyA α} {g : α → R (List β)} {m : R α} {tx : TA} {E : XK} (hw : ∀ e H, W e σ H → XS K E e H) (h : EvA u tx W σ F H m) : EvL tb (tCall (SpL K u tb g) [] E tx) W σ F H (bd m g) := fun F1 H1 f1 Q q =>
  h F1 H1 f1 _ (post_imp (post_bd q) (fun a _ k vs F2 H2 f2 rv => ⟨F2, a, f2.s, by rw [List.append_nil]; exact rv, post_imp k (fun b _ k2 p ws F3 H3 f3 hp hf h3 r => k2 p ws F3 H3 (f2.trans f3) (f2.h.free hp) hf h3 r) fun e _ z F3 H3 f3 => hw _ _ (z F3 H3 (f2.trans f3))⟩) fun e _ z => z)
/-- a built-in of one, two arguments, by values -/
def Fn1 (ta : Ty α) (tc : Ty γ) (r : List V → Hp → VK → Prop) (f : α → R γ) : Prop := ∀ F H, Same F H → ∀ x a, ta.rep F x a → ∀ Q : VK, Post (f a) (fun c => ∀ v F2 H2, Fr F H F2 H2 → tc.rep F2 v c → Q v H2) (fun _ => False) → r [x] H Q
def Fn2 (ta : Ty α) (tb : Ty β) (tc : Ty γ) (r : List V → Hp → VK → Prop) (f : α → β → R γ) : Prop := ∀ F H, Same F H → ∀ x y a b, ta.rep F x a → tb.rep F y b → ∀ Q : VK, Post (f a b) (fun c => ∀ v F2 H2, Fr F H F2 H2 → tc.rep F2 v c → Q v H2) (fun _ => False) → r [x, y] H Q
theorem ev_cb1 {r : List V → Hp → VK → Prop} {f : α → R γ} {m1 : R α} (o : Fn1 ta tc r f) (hn : ∀ a, Calm (f a)) (h1 : Ev ta te1 W σ F H m1) : Ev tc (tCB r (tCons te1 tNil)) W σ F H (bd m1 f) := fun F1 H1 f1 Q q => by
  refine h1 F1 H1 f1 _ (post_imp (post_bd q) (fun a _ q1 x F2 H2 f2 rx => ?_) fun e _ z => z)
  exact o F2 H2 f2.s x a rx _ (post_imp (post_never (hn a) q1) (fun c _ k v F4 H4 f4 rv => k v F4 H4 (f2.trans f4) rv) fun _ _ z => z)
theorem ev_cb2 {r : List V → Hp → VK → Prop} {f : α → β → R γ} {m1 : R α} {m2 : R β} (o : Fn2 ta tb tc r f) (hn : ∀ a b, Calm (f a b)) (h1 : Ev ta te1 W σ F H m1) (h2 : Ev tb te2 W σ F H m2) : Ev tc (tCB r (tCons te1 (tCons te2 tNil))) W σ F H (bd m1 fun a => bd m2 fun b => f a b) := fun F1 H1 f1 Q q => by
  refine h1 F1 H1 f1 _ (post_imp (post_bd q) (fun a _ q1 x F2 H2 f2 rx => ?_) fun e _ z => z)
  refine h2 F2 H2 (f1.trans f2) _ (post_imp (post_bd q1) (fun b _ q2 y F3 H3 f3 ry => ?_) fun e _ z F4 H4 f4 => z F4 H4 (f2.trans f4))
  refine o F3 H3 f3.s x y a b (ta.mono f3.f rx) ry _ (post_imp (post_never (hn a b) q2) (fun c _ k v F4 H4 f4 rv => k v F4 H4 ((f2.trans f3).trans f4) rv) fun _ _ z => z)
def lenSR (a : Str) : R Int := if a.length ≤ 100000 then .ok (a.length : Int) else .stuck
theorem calm_lenSR {a : Str} : Calm (lenSR a) := calm_ite calm_ok calm_stuck
theorem fn_lenS : Fn1 tStr tInt (rLen K) lenSR := fun F H s x a rx Q q => by
  unfold lenSR at q
  by_cases h : a.length ≤ 100000
  · rw [if_pos h] at q
    have rx : x = .str a := rx
    exact ⟨_, a.length, rfl, by rw [rx]; exact ⟨small_line h, rfl⟩, q _ F H (Fr.refl s) rfl⟩
  · rw [if_neg h] at q
    exact q.elim
theorem fn_lenL : Fn1 (tList K ta) tInt (rLen K) (fun a => .ok (a.length : Int)) := fun F H s x as ⟨p, vs, ex, hs, rv⟩ Q q =>
  ⟨_, vs.length, rfl, by rw [ex]; exact .inl ⟨vs, sqL_mono s hs, rfl⟩, q _ F H (Fr.refl s) (by show V.int _ = V.int _; rw [rv.length])⟩
theorem fn_lenTL : Fn1 (yTupL K ta) tInt (rLen K) (fun a => .ok (a.length : Int)) := fun F H s x as ⟨p, vs, ex, hs, rv⟩ Q q =>
  ⟨_, vs.length, rfl, by rw [ex]; exact .inr ⟨vs, sqT_mono s hs, rfl⟩, q _ F H (Fr.refl s) (by show V.int _ = V.int _; rw [rv.length])⟩
theorem ev_lenS {m1 : R Str} (h1 : Ev tStr te1 W σ F H m1) : Ev tInt (tCB (rLen K) (tCons te1 tNil)) W σ F H (bd m1 lenSR) := ev_cb1 fn_lenS (fun _ => calm_lenSR) h1
theorem ev_lenL {m1 : R (List α)} (h1 : Ev (tList K ta) te1 W σ F H m1) : Ev tInt (tCB (rLen K) (tCons te1 tNil)) W σ F H (bd m1 fun a => .ok (a.length : Int)) := ev_cb1 fn_lenL (fun _ => calm_ok) h1
theorem ev_lenTL {m1 : R (List α)} (h1 : Ev (yTupL K ta) te1 W σ F H m1) : Ev tInt (tCB (rLen K) (tCons te1 tNil)) W σ F H (bd m1 fun a => .ok (a.length : Int)) := ev_cb1 fn_lenTL (fun _ => calm_ok) h1
def rMax2 : List V → Hp → VK → Prop := fun xs H Q => ∃ i j, xs = [.int i, .int j] ∧ Q (.int (if j > i then j else i)) H
def rMin2 : List V → Hp → VK → Prop := fun xs H Q => ∃ i j, xs = [.int i, .int j] ∧ Q (.int (if j < i then j else i)) H
theorem ev_max2 {m1 m2 : R Int} (h1 : Ev tInt te1 W σ F H m1) (h2 : Ev tInt te2 W σ F H m2) : Ev tInt (tCB rMax2 (tCons te1 (tCons te2 tNil))) W σ F H (bd m1 fun a => bd m2 fun b => .ok (max a b)) :=
  ev_cb2 (fun F H s x y a b ra rb Q q => ⟨a, b, by rw [ra, rb], q _ F H (Fr.refl s) (by
    show V.int _ = V.int _
    congr 1
    split <;> omega)⟩) (fun _ _ => calm_ok) h1 h2
theorem ev_min2 {m1 m2 : R Int} (h1 : Ev tInt te1 W σ F H m1) (h2 : Ev tInt te2 W σ F H m2) : Ev tInt (tCB rMin2 (tCons te1 (tCons te2 tNil))) W σ F H (bd m1 fun a => bd m2 fun b => .ok (min a b)) :=
  ev_cb2 (fun F H s x y a b ra rb Q q => ⟨a, b, by rw [ra, rb], q _ F H (Fr.refl s) (by
    show V.int _ = V.int _
    congr 1
    split <;> omega)⟩) (fun _ _ => calm_ok) h1 h2
end
end TL
/-! ## TL3: what a for walks, loops, comprehensions, statements, defs -/
namespace TL
open PySem PySem.Spec PyProof.Rows L2
/-! ### iterables -/
def IterOk {α : Type} (t : Ty α) (J : It) (Fe : Hp) (xs : List α) : Prop := ∀ F H, Same Fe F → Same F H → ∀ i, (xs.length ≤ i → J.stop i H) ∧ ∀ x, xs[i]? = some x → J.go i H ∧ ∀ v H', J.yld i H v H' → ∃ F', Fr F H F' H' ∧ t.rep F' v x
def EvI {α : Type} (t : Ty α) (wi : TI) (W : WS) (σ : L2.St) (F H : Hp) (m : R (List α)) : Prop := ∀ F1 H1, Fr F H F1 H1 → ∀ Rr : It → Hp → Prop,
  Post m (fun xs => ∀ J F2 H2, Fr F1 H1 F2 H2 → IterOk t J F2 xs → Rr J H2) (fun e => ∀ F2 H2, Fr F1 H1 F2 H2 → W e σ H2) → wi σ H1 Rr
section
variable {K : PySem.W.Frag} {W : WS} {σ : L2.St} {F H F' H' F0 H0 : Hp} {α β γ δ ρ S : Type} {ta : Ty α} {tb : Ty β} {tc : Ty γ} {tr : Ty ρ} {te te1 te2 te3 : TE} {tt tt1 tt2 : TT} {v : V}
theorem ei_list {m : R (List α)} (h : Ev (tList K ta) te W σ F H m) : EvI ta (iList K te) W σ F H m := fun F1 H1 f1 Rr q =>
  h F1 H1 f1 _ (post_imp q (fun xs _ k x F2 H2 f2 ⟨p, vs, ex, hs, rv⟩ => ⟨p, ex, ⟨vs, sqL_mono f2.s hs⟩, k _ F2 H2 f2 fun F3 H3 s3 s4 i => by
    have hs3 : SqL K H3 p vs := sqL_mono s4 (sqL_mono s3 hs)
    refine ⟨fun hi => ⟨vs, hs3, by rw [rv.length]; exact hi⟩, fun x hx => ?_⟩
    obtain ⟨w, h1, h2⟩ := paired_get rv hx
    refine ⟨⟨vs, w, hs3, h1⟩, fun v H' ⟨e, hv⟩ => ?_⟩
    subst e
    have e2 := hv vs hs3
    rw [h1] at e2
    cases e2
    exact ⟨F3, Fr.refl s4, ta.mono s3 h2⟩⟩) fun e _ z => z)
theorem ei_tupL {m : R (List α)} (h : Ev (yTupL K ta) te W σ F H m) : EvI ta (iTup K te) W σ F H m := fun F1 H1 f1 Rr q =>
  h F1 H1 f1 _ (post_imp q (fun xs _ k x F2 H2 f2 ⟨p, vs, ex, hs, rv⟩ => ⟨p, ex, ⟨vs, sqT_mono f2.s hs⟩, k _ F2 H2 f2 fun F3 H3 s3 s4 i => by
    have hs3 : SqT K H3 p vs := sqT_mono s4 (sqT_mono s3 hs)
    refine ⟨fun hi => ⟨vs, hs3, by rw [rv.length]; exact hi⟩, fun x hx => ?_⟩
    obtain ⟨w, h1, h2⟩ := paired_get rv hx
    refine ⟨⟨vs, w, hs3, h1⟩, fun v H' ⟨e, hv⟩ => ?_⟩
    subst e
    have e2 := hv vs hs3
    rw [h1] at e2
    cases e2
    exact ⟨F3, Fr.refl s4, ta.mono s3 h2⟩⟩) fun e _ z => z)
/-- lo, lo + c, .., n of them -/
def stepL (lo c : Int) (n : Nat) : List Int := (List.range n).map fun (i : Nat) => lo + (i : Int) * c
def rangeL (lo hi : Int) : List Int := (List.range (hi - lo).toNat).map fun (i : Nat) => lo + (i : Int)
theorem rangeL_get {lo hi x : Int} {i : Nat} (h : (rangeL lo hi)[i]? = some x) : i < (hi - lo).toNat ∧ x = lo + (i : Int) := by
  unfold rangeL at h
  rw [List.getElem?_map] at h
  by_cases hi' : i < (hi - lo).toNat
  · rw [List.getElem?_range hi'] at h
    exact ⟨hi', (Option.some.inj h).symm⟩
  · rw [List.getElem?_eq_none (by rw [List.length_range]; omega)] at h
    cases h
theorem rangeL_len {lo hi : Int} : (rangeL lo hi).length = (hi - lo).toNat := by
  unfold rangeL
  rw [List.length_map, List.length_range]
def In62 (i : Int) : Prop := -(2 ^ 62) ≤ i ∧ i < 2 ^ 62
instance (i : Int) : Decidable (In62 i) := by unfold In62; infer_instance
def rangeR (lo hi : Int) : R (List Int) := if In62 lo ∧ In62 hi then .ok (rangeL lo hi) else .stuck
theorem iter_range {lo hi : Int} {Fe : Hp} : IterOk tInt (Itr lo (hi - lo).toNat) Fe (rangeL lo hi) := fun F3 H3 s3 s4 i => by
  refine ⟨fun h => ?_, fun x hx => ?_⟩
  · rw [rangeL_len] at h
    exact h
  · obtain ⟨h1, h2⟩ := rangeL_get hx
    exact ⟨h1, fun v H' ⟨e, hv⟩ => by
      subst e
      exact ⟨F3, Fr.refl s4, by rw [h2]; exact hv⟩⟩
theorem ei_range1 {m : R Int} (h : Ev tInt te W σ F H m) : EvI tInt (iRng1 (tCons te tNil)) W σ F H (bd m fun b => rangeR 0 b) := fun F1 H1 f1 Rr q => by
  refine h F1 H1 f1 _ (post_imp (post_bd q) (fun b _ k x F2 H2 f2 rx => ?_) fun e _ z => z)
  unfold rangeR at k
  by_cases hc : In62 0 ∧ In62 b
  · rw [if_pos hc] at k
    have e : (b - 0).toNat = b.toNat := by rw [Int.sub_zero]
    refine ⟨b, by rw [show x = .int b from rx], hc.2.1, hc.2.2, ?_⟩
    rw [← e]
    exact k _ F2 H2 f2 iter_range
  · rw [if_neg hc] at k
    exact k.elim
theorem ei_range2 {m1 m2 : R Int} (h1 : Ev tInt te1 W σ F H m1) (h2 : Ev tInt te2 W σ F H m2) : EvI tInt (iRng2 (tCons te1 (tCons te2 tNil))) W σ F H (bd m1 fun a => bd m2 fun b => rangeR a b) := fun F1 H1 f1 Rr q => by
  refine h1 F1 H1 f1 _ (post_imp (post_bd q) (fun a _ q1 x F2 H2 f2 rx => ?_) fun e _ z => z)
  refine h2 F2 H2 (f1.trans f2) _ (post_imp (post_bd q1) (fun b _ k y F3 H3 f3 ry => ?_) fun e _ z F4 H4 f4 => z F4 H4 (f2.trans f4))
  unfold rangeR at k
  by_cases hc : In62 a ∧ In62 b
  · rw [if_pos hc] at k
    exact ⟨a, b, by rw [show x = .int a from rx, show y = .int b from ry], ⟨hc.1.1, hc.1.2, hc.2.1, hc.2.2⟩, k _ F3 H3 (f2.trans f3) iter_range⟩
  · rw [if_neg hc] at k
    exact k.elim
/-- the signsOf of a text -/
def signsOf (z : Str) : List Str := z.cps.toList.map fun c => ⟨#[c]⟩
theorem ei_str {m : R Str} (h : Ev tStr te W σ F H m) : EvI tStr (iStr te) W σ F H (bd m fun z => .ok (signsOf z)) := fun F1 H1 f1 Rr q => by
  refine h F1 H1 f1 _ (post_imp (post_bd q) (fun z _ k x F2 H2 f2 rx => ⟨z, rx, k _ F2 H2 f2 fun F3 H3 s3 s4 i => ?_⟩) fun e _ z => z)
  unfold signsOf
  refine ⟨fun hi => ?_, fun x hx => ?_⟩
  · rw [List.length_map, Array.length_toList] at hi
    exact hi
  · rw [List.getElem?_map] at hx
    cases e : z.cps.toList[i]? with
    | none =>
      rw [e] at hx
      cases hx
    | some c =>
      rw [e] at hx
      have hx := (Option.some.inj hx).symm
      subst hx
      have e2 : z.cps[i]? = some c := by rw [← Array.getElem?_toList]; exact e
      refine ⟨?_, fun v H' ⟨eH, c', h1, h2⟩ => ?_⟩
      · have := (List.getElem?_eq_some_iff.mp e).1
        rw [Array.length_toList] at this
        exact this
      · subst eH
        rw [e2] at h1
        cases h1
        exact ⟨F3, Fr.refl s4, h2⟩
theorem ei_enum {m : R (List α)} (h : Ev (tList K ta) te W σ F H m) : EvI (yTup K (aCons tInt (aOne ta))) (iEnum K (tCons te tNil)) W σ F H (bd m fun xs => .ok (xs.zipIdx.map fun p => ((p.2 : Int), p.1))) := fun F1 H1 f1 Rr q =>
  h F1 H1 f1 _ (post_imp (post_bd q) (fun xs _ k x F2 H2 f2 ⟨p, vs, ex, hs, rv⟩ => ⟨p, vs, by rw [ex], sqL_mono f2.s hs, k _ F2 H2 f2 fun F3 H3 s3 s4 i => by
    have hs3 : SqL K H3 p vs := sqL_mono s4 (sqL_mono s3 hs)
    refine ⟨fun hi => ⟨vs, hs3, by rw [List.length_map, List.length_zipIdx] at hi; rw [rv.length]; exact hi⟩, fun x hx => ?_⟩
    rw [List.getElem?_map, List.getElem?_zipIdx] at hx
    cases ei : xs[i]? with
    | none =>
      rw [ei] at hx
      cases hx
    | some a =>
      rw [ei] at hx
      have hx := (Option.some.inj hx).symm
      subst hx
      obtain ⟨w, h1, h2⟩ := paired_get rv ei
      refine ⟨⟨vs, w, hs3, h1⟩, fun v H' ⟨T, x, ev, hT, eH, hv⟩ => ?_⟩
      have e2 := hv vs hs3
      rw [h1] at e2
      cases e2
      subst eH
      refine ⟨_, Fr.alloc s4 hT, ?_⟩
      refine ⟨T, _, ev, upd_same, _, _, rfl, ?_, _, rfl, ta.mono (s3.trans (same_upd (s4.free hT))) h2⟩
      show V.int _ = V.int _
      simp⟩) fun e _ z => z)
theorem ei_zip {m1 : R (List α)} {m2 : R (List β)} (h1 : Ev (tList K ta) te1 W σ F H m1) (h2 : Ev (tList K tb) te2 W σ F H m2) : EvI (yTup K (aCons ta (aOne tb))) (iZip K (tCons te1 (tCons te2 tNil))) W σ F H (bd m1 fun xs => bd m2 fun ys => .ok (xs.zip ys)) := fun F1 H1 f1 Rr q => by
  refine h1 F1 H1 f1 _ (post_imp (post_bd q) (fun xs _ q1 x F2 H2 f2 ⟨p, vs, ex, hs, rv⟩ => ?_) fun e _ z => z)
  refine h2 F2 H2 (f1.trans f2) _ (post_imp (post_bd q1) (fun ys _ k y F3 H3 f3 ⟨r, ws, ey, hr, rw_⟩ => ?_) fun e _ z F4 H4 f4 => z F4 H4 (f2.trans f4))
  refine ⟨p, r, vs, ws, by rw [ex, ey], sqL_mono (f3.f.trans f3.s) hs, sqL_mono f3.s hr, k _ F3 H3 (f2.trans f3) fun F4 H4 s3 s4 i => ?_⟩
  have hs4 : SqL K H4 p vs := sqL_mono s4 (sqL_mono s3 (sqL_mono f3.f hs))
  have hr4 : SqL K H4 r ws := sqL_mono s4 (sqL_mono s3 hr)
  refine ⟨fun hi => ⟨vs, ws, hs4, hr4, ?_⟩, fun x hx => ?_⟩
  · rw [List.length_zip] at hi
    rw [rv.length, rw_.length]
    omega
  · rw [List.getElem?_zip_eq_some] at hx
    obtain ⟨w, g1, g2⟩ := paired_get rv hx.1
    obtain ⟨u, g3, g4⟩ := paired_get rw_ hx.2
    refine ⟨⟨vs, ws, w, u, hs4, hr4, g1, g3⟩, fun v H' ⟨T, x', y', ev, hT, eH, hv, hw⟩ => ?_⟩
    have e2 := hv vs hs4
    rw [g1] at e2
    cases e2
    have e3 := hw ws hr4
    rw [g3] at e3
    cases e3
    subst eH
    have ss := s3.trans (same_upd (o := .tup [w, u]) (s4.free hT))
    exact ⟨_, Fr.alloc s4 hT, T, _, ev, upd_same, _, _, rfl, ta.mono (f3.f.trans ss) g2, _, rfl, tb.mono ss g4⟩

/-! ### targets: one name; a tuple of names -/
/-- what a target does with a thing: new values at its slots -/
def Tg (t : Ty α) (g : TG) (σ : L2.St) (P : L2.St → Hp → α → Prop) : Prop := ∀ v F H a (Q : L2.St → Hp → Prop), Same F H → t.rep F v a → (∀ σ', P σ' F a → Q σ' H) → g v σ H Q
theorem tg_name {i : Nat} : Tg ta (gName i) σ (fun σ' F a => ∃ v, σ' = σ.set i (some v) ∧ ta.rep F v a) := fun v F H a Q s r q => q _ ⟨v, rfl, r⟩
/-- a row of names -/
def Tgs (u : TyA α) (g : TGs) (σ : L2.St) (P : L2.St → Hp → α → Prop) : Prop := ∀ vs F H a (Q : L2.St → Hp → Prop), Same F H → u.rep F vs a → (∀ σ', P σ' F a → Q σ' H) → g vs σ H Q
theorem tgs_one {i : Nat} : Tgs (aOne ta) (gCons (gName i) gNil) σ (fun σ' F a => ∃ v, σ' = σ.set i (some v) ∧ ta.rep F v a) := fun vs F H a Q s ⟨v, ev, r⟩ q => ⟨v, [], ev, rfl, q _ ⟨v, rfl, r⟩⟩
theorem tgs_cons {i : Nat} {u : TyA β} {g : TGs} {P : V → L2.St → Hp → β → Prop} (h : ∀ v, Tgs u g (σ.set i (some v)) (P v)) : Tgs (aCons ta u) (gCons (gName i) g) σ (fun σ' F a => ∃ v, ta.rep F v a.1 ∧ P v σ' F a.2) := fun vs F H a Q s ⟨v, ws, ev, r, ru⟩ q =>
  ⟨v, ws, ev, h v ws F H a.2 Q s ru fun σ' p => q σ' ⟨v, r, p⟩⟩
theorem tg_tup {u : TyA α} {g : TGs} {n : Nat} {P : L2.St → Hp → α → Prop} (hn : u.len = n) (h : Tgs u g σ P) : Tg (yTup K u) (gTup K n g) σ P := fun v F H a Q s ⟨p, vs, ev, hs, r⟩ q =>
  ⟨p, vs, ev, .inl (.inl (s _ _ hs)), by rw [u.hlen r]; exact hn, h vs F H a Q s r q⟩

/-! ### loops -/
inductive Fl (S ρ : Type) where
  | nx (s : S)
  | bk (s : S)
  | rt (r : ρ)
def forL (f : S → α → R (Fl S ρ)) : List α → S → R (Fl S ρ)
  | [], s => .ok (.nx s)
  | x :: xs, s => bd (f s x) fun fl => match fl with
    | .nx s' => forL f xs s'
    | .bk s' => .ok (.nx s')
    | .rt r => .ok (.rt r)
/-- for: St what holds of the state s, slots, worlds; the body is read for any K', D' -/
theorem s_for {i0 : TI} {g : TG} {tb : TS} {D : Ends} {m : R (List α)} {f : S → α → R (Fl S ρ)} {s0 : S} {gg : Fl S ρ → R γ} {KK : γ → Prop} {XX : Exn → Prop} (St : S → L2.St → Hp → Hp → Prop)
    (hX : ∀ e, XX e → ∀ σ F' H', Fr F0 H0 F' H' → W e σ H') (fr : Fr F0 H0 F H) (hs : EvI ta i0 W σ F H m) (hp : Post (bd m fun xs => bd (forL f xs s0) gg) KK XX)
    (h0 : ∀ F' H', Fr F H F' H' → Fr F0 H0 F' H' → St s0 σ F' H')
    (hfr : ∀ s σ' F' H', St s σ' F' H' → Fr F0 H0 F' H')
    (hyld : ∀ s σ' F' H' F'' H'', St s σ' F' H' → Fr F' H' F'' H'' → St s σ' F'' H'')
    (hb : ∀ s x v σ' F' H' (D' : Ends) (K' : Fl S ρ → Prop), D'.rt = D.rt → Same F F' → St s σ' F' H' → ta.rep F' v x → Post (f s x) K' XX →
      (∀ s' σ'' F'' H'', Same F' F'' → St s' σ'' F'' H'' → K' (.nx s') → D'.nx σ'' H'') → (∀ s' σ'' F'' H'', Same F' F'' → St s' σ'' F'' H'' → K' (.nx s') → D'.ct σ'' H'') →
      (∀ s' σ'' F'' H'', Same F' F'' → St s' σ'' F'' H'' → K' (.bk s') → D'.bk σ'' H'') → (∀ r, K' (.rt r) → Post (gg (.rt r)) KK XX) → g v σ' H' fun σ2 H2 => tb D' σ2 H2)
    (hd : ∀ s σ' F' H', Same F F' → St s σ' F' H' → Post (gg (.nx s)) KK XX → D.nx σ' H') : tFor i0 g tb D σ H := by
  refine hs F H (Fr.refl fr.s) _ (post_imp (post_bd hp) (fun xs _ q J Fe He fe io => ?_) fun e _ z F2 H2 f2 => hX e z _ _ _ (fr.trans f2))
  refine ⟨fun i n σ' H' => n = xs.length + 1 - i ∧ i ≤ xs.length ∧ ((∃ s F', Same Fe F' ∧ St s σ' F' H' ∧ Post (bd (forL f (xs.drop i) s) gg) KK XX)), ⟨_, rfl, Nat.zero_le _, s0, Fe, Same.refl Fe, h0 Fe He fe (fr.trans fe), q⟩, ?_⟩
  rintro i n σ' H' ⟨en, hi, s, F', sF, hS, hP⟩
  have frS := hfr _ _ _ _ hS
  obtain ⟨io1, io2⟩ := io F' H' sF frS.s i
  cases ex : xs[i]? with
  | none =>
    have hl : xs.length ≤ i := List.getElem?_eq_none_iff.mp ex
    left
    refine ⟨io1 hl, hd s σ' F' H' (fe.f.trans sF) hS ?_⟩
    rw [List.drop_eq_nil_of_le hl] at hP
    exact hP
  | some x =>
    have hl : i < xs.length := (List.getElem?_eq_some_iff.mp ex).1
    right
    obtain ⟨hg, hy⟩ := io2 x ex
    refine ⟨hg, fun σ'' H'' => i + 1 ≤ xs.length ∧ ∃ s' F'', Same Fe F'' ∧ St s' σ'' F'' H'' ∧ Post (bd (forL f (xs.drop (i + 1)) s') gg) KK XX, fun σ'' H'' ⟨hi', z⟩ => ⟨n - 1, by omega, by omega, hi', z⟩, fun v H'' hv => ?_⟩
    obtain ⟨F'', f'', rv⟩ := hy v H'' hv
    have e2 : xs.drop i = x :: xs.drop (i + 1) := by
      rw [List.drop_eq_getElem_cons hl]
      congr 1
      exact (List.getElem?_eq_some_iff.mp ex).2
    rw [e2] at hP
    have hP2 : Post (f s x) (fun fl => Post (bd ((match fl with
      | .nx s' => forL f (xs.drop (i + 1)) s'
      | .bk s' => .ok (.nx s')
      | .rt r => .ok (.rt r) : R (Fl S ρ))) gg) KK XX) XX := by
      have z := hP
      unfold forL at z
      rw [bd_assoc] at z
      exact post_bd z
    refine hb s x v σ' F'' H'' _ _ rfl (fe.f.trans (sF.trans f''.f)) (hyld _ _ _ _ _ _ hS f'') rv hP2 (fun s' σ3 F3 H3 s3 st k => ⟨hl, s', F3, (sF.trans f''.f).trans s3, st, k⟩) (fun s' σ3 F3 H3 s3 st k => ⟨hl, s', F3, (sF.trans f''.f).trans s3, st, k⟩) (fun s' σ3 F3 H3 s3 st k => ?_) (fun r k => k)
    exact hd s' σ3 F3 H3 (fe.f.trans ((sF.trans f''.f).trans s3)) st k
def whileR (c : S → R Bool) (f : S → R (Fl S ρ)) : Nat → S → R (Fl S ρ)
  | 0, _ => .stuck
  | n + 1, s => bd (c s) fun b => if b = true then bd (f s) fun fl => (match fl with
    | .nx s' => whileR c f n s'
    | .bk s' => .ok (.nx s')
    | .rt r => .ok (.rt r)) else .ok (.nx s)
theorem s_while {tb : TS} {D : Ends} {c : S → R Bool} {f : S → R (Fl S ρ)} {n0 : Nat} {s0 : S} {gg : Fl S ρ → R γ} {KK : γ → Prop} {XX : Exn → Prop} (St : S → L2.St → Hp → Hp → Prop)
    (hX : ∀ e, XX e → ∀ σ F' H', Fr F0 H0 F' H' → W e σ H') (fr : Fr F0 H0 F H) (hp : Post (bd (whileR c f n0 s0) gg) KK XX)
    (h0 : St s0 σ F H)
    (hfr : ∀ s σ' F' H', St s σ' F' H' → Fr F0 H0 F' H')
    (hyld : ∀ s σ' F' H' F'' H'', St s σ' F' H' → Fr F' H' F'' H'' → St s σ' F'' H'')
    (hc : ∀ s σ' F' H', Same F F' → St s σ' F' H' → EvT tt W σ' F' H' (c s))
    (hb : ∀ s σ' F' H' (D' : Ends) (K' : Fl S ρ → Prop), D'.rt = D.rt → Same F F' → St s σ' F' H' → Post (f s) K' XX →
      (∀ s' σ'' F'' H'', Same F' F'' → St s' σ'' F'' H'' → K' (.nx s') → D'.nx σ'' H'') → (∀ s' σ'' F'' H'', Same F' F'' → St s' σ'' F'' H'' → K' (.nx s') → D'.ct σ'' H'') →
      (∀ s' σ'' F'' H'', Same F' F'' → St s' σ'' F'' H'' → K' (.bk s') → D'.bk σ'' H'') → (∀ r, K' (.rt r) → Post (gg (.rt r)) KK XX) → tb D' σ' H')
    (hd : ∀ s σ' F' H', Same F F' → St s σ' F' H' → Post (gg (.nx s)) KK XX → D.nx σ' H') : tWhile tt tb D σ H := by
  refine ⟨fun n σ' H' => ∃ s F', Same F F' ∧ St s σ' F' H' ∧ Post (bd (whileR c f n s) gg) KK XX, ⟨n0, s0, F, Same.refl F, h0, hp⟩, ?_⟩
  rintro n σ' H' ⟨s, F', sF, hS, hP⟩
  cases n with
  | zero => exact hP.elim
  | succ n =>
    have frS := hfr _ _ _ _ hS
    unfold whileR at hP
    rw [bd_assoc] at hP
    refine hc s σ' F' H' sF hS F' H' (Fr.refl frS.s) _ (post_imp (post_bd hP) (fun b _ k F2 H2 f2 => ?_) fun e _ z F2 H2 f2 => hX e z _ _ _ (frS.trans f2))
    cases b with
    | false => exact hd s σ' F2 H2 (sF.trans f2.f) (hyld _ _ _ _ _ _ hS f2) k
    | true =>
      rw [if_pos rfl] at k
      rw [if_pos rfl]
      refine ⟨fun σ'' H'' => ∃ s' F'', Same F F'' ∧ St s' σ'' F'' H'' ∧ Post (bd (whileR c f n s') gg) KK XX, fun σ'' H'' z => ⟨n, Nat.lt_succ_self n, z⟩, ?_⟩
      have k2 : Post (f s) (fun fl => Post (bd ((match fl with
        | .nx s' => whileR c f n s'
        | .bk s' => .ok (.nx s')
        | .rt r => .ok (.rt r) : R (Fl S ρ))) gg) KK XX) XX := by
        rw [bd_assoc] at k
        exact post_bd k
      refine hb s σ' F2 H2 _ _ rfl (sF.trans f2.f) (hyld _ _ _ _ _ _ hS f2) k2 (fun s' σ3 F3 H3 s3 st k => ⟨s', F3, (sF.trans f2.f).trans s3, st, k⟩) (fun s' σ3 F3 H3 s3 st k => ⟨s', F3, (sF.trans f2.f).trans s3, st, k⟩) (fun s' σ3 F3 H3 s3 st k => ?_) (fun r k => k)
      exact hd s' σ3 F3 H3 ((sF.trans f2.f).trans s3) st k

theorem paired_snoc {P : V → α → Prop} {v : V} {a : α} (r : P v a) : ∀ {vs : List V} {as : List α}, Paired P vs as → Paired P (vs ++ [v]) (as ++ [a])
  | _, _, .nil => .cons r .nil
  | _, _, .cons h t => .cons h (paired_snoc r t)
/-! ### comprehensions -/
/-- an exception within a comprehension isn't carried -/
def quiet {α : Type} (m : R α) : R α := match m with
  | .ok a => .ok a
  | _ => .stuck
theorem post_quiet {m : R α} {k : α → Prop} {x : Exn → Prop} (h : Post (quiet m) k x) : Post m k (fun _ => False) := by
  cases m with
  | stuck => exact h
  | err e => exact h.elim
  | ok a => exact h
/-- by this bound a list that is made so has room -/
def compL (c : α → R Bool) (e : α → R β) : List α → R (List β)
  | [] => .ok []
  | x :: xs => bd (quiet (c x)) fun b => if b = true then bd (quiet (e x)) fun y => bd (compL c e xs) fun ys => .ok (y :: ys) else compL c e xs
def compR (c : α → R Bool) (e : α → R β) (xs : List α) : R (List β) := if xs.length ≤ 100000 then compL c e xs else .stuck
theorem el_comp {wi : TI} {g : TG} {m : R (List α)} {c : α → R Bool} {e : α → R β} {vs : List Nat} {P : L2.St → Hp → α → Prop} (hs : EvI ta wi W σ F H m)
    (hg : Tg ta g (wipe σ vs) P) (hw : ∀ σ' F' a, P σ' F' a → wipe σ' vs = wipe σ vs)
    (hc : ∀ σ' F' H' x, Fr F H F' H' → P σ' F' x → EvT tt (fun _ _ _ => False) σ' F' H' (c x))
    (he : ∀ σ' F' H' x, Fr F H F' H' → P σ' F' x → Ev tb te (fun _ _ _ => False) σ' F' H' (e x))
    (hP : ∀ σ' F' F'' a, Same F' F'' → P σ' F' a → P σ' F'' a) : EvL tb (tLc wi g tt te vs) W σ F H (bd m (compR c e)) := fun F1 H1 f1 Q q => by
  refine hs F1 H1 f1 _ (post_imp (post_bd q) (fun xs exs k J Fe He fe io => ?_) fun e _ z => z)
  intro D hD
  unfold compR at k
  have hlen : xs.length ≤ 100000 := Classical.byContradiction fun hc => by
    rw [if_neg hc] at k
    exact k
  rw [if_pos hlen] at k
  have fD : Fr Fe He Fe (upd He D (.lst [])) := Fr.fresh fe.s hD
  refine ⟨fun i n H' => n = xs.length + 1 - i ∧ i ≤ xs.length ∧ ∃ F' ws acc, Fr Fe He F' H' ∧ F' D = none ∧ H' D = some (.lst ws) ∧ ws.length ≤ i ∧ Paired (tb.rep F') ws acc ∧
    Post (compL c e (xs.drop i)) (fun ys => ∀ p ws F2 H2, Fr F1 H1 F2 H2 → H1 p = none → F2 p = none → H2 p = some (.lst ws) → Paired (tb.rep F2) ws (acc ++ ys) → Q (.ref p) H2) (fun e => ∀ F2 H2, Fr F1 H1 F2 H2 → W e σ H2),
    ⟨_, rfl, Nat.zero_le _, Fe, [], [], fD, fe.s.free hD, upd_same, Nat.zero_le _, .nil, k⟩, ?_⟩
  rintro i n H' ⟨en, hi, F', ws, acc, f', hF', hH', hwl, rv, hP'⟩
  obtain ⟨io1, io2⟩ := io F' H' f'.f f'.s i
  cases ex : xs[i]? with
  | none =>
    have hl : xs.length ≤ i := List.getElem?_eq_none_iff.mp ex
    left
    refine ⟨io1 hl, ?_⟩
    rw [List.drop_eq_nil_of_le hl] at hP'
    exact hP' D ws F' H' (fe.trans f') (fe.h.free hD) hF' hH' (by rw [List.append_nil]; exact rv)
  | some x =>
    have hl : i < xs.length := (List.getElem?_eq_some_iff.mp ex).1
    right
    obtain ⟨hgo, hy⟩ := io2 x ex
    refine ⟨hgo, fun H'' => i + 1 ≤ xs.length ∧ ∃ F' ws acc, Fr Fe He F' H'' ∧ F' D = none ∧ H'' D = some (.lst ws) ∧ ws.length ≤ i + 1 ∧ Paired (tb.rep F') ws acc ∧
      Post (compL c e (xs.drop (i + 1))) (fun ys => ∀ p ws F2 H2, Fr F1 H1 F2 H2 → H1 p = none → F2 p = none → H2 p = some (.lst ws) → Paired (tb.rep F2) ws (acc ++ ys) → Q (.ref p) H2) (fun e => ∀ F2 H2, Fr F1 H1 F2 H2 → W e σ H2), fun H'' ⟨hi', z⟩ => ⟨n - 1, by omega, by omega, hi', z⟩, fun v H'' hv => ?_⟩
    obtain ⟨F2, f2, rx⟩ := hy v H'' hv
    have e2 : xs.drop i = x :: xs.drop (i + 1) := by
      rw [List.drop_eq_getElem_cons hl]
      congr 1
      exact (List.getElem?_eq_some_iff.mp ex).2
    rw [e2] at hP'
    unfold compL at hP'
    refine hg v F2 H'' x _ f2.s rx fun σ2 p2 => ⟨hw σ2 F2 x p2, ?_⟩
    have f02 : Fr F H F2 H'' := (f1.trans fe).trans (f'.trans f2)
    refine hc σ2 F2 H'' x f02 p2 F2 H'' (Fr.refl f2.s) _ (post_imp (post_quiet (post_bd hP')) (fun b _ k F3 H3 f3 => ?_) fun _ _ z => z.elim)
    have hF3 : F3 D = none := (f2.trans f3).n D hF' (some_ne hH')
    have hH3 : H3 D = some (.lst ws) := (f2.trans f3).h D _ hH'
    cases b with
    | false =>
      have k : Post (compL c e (xs.drop (i + 1))) _ _ := k
      exact ⟨hl, F3, ws, acc, f'.trans (f2.trans f3), hF3, hH3, by omega, paired_mono (f2.f.trans f3.f) rv, k⟩
    | true =>
      rw [if_pos rfl] at k
      rw [if_pos rfl]
      refine he σ2 F3 H3 x (f02.trans f3) (hP _ _ _ _ f3.f p2) F3 H3 (Fr.refl f3.s) _ (post_imp (post_quiet (post_bd k)) (fun y _ k2 u F4 H4 f4 ru => ?_) fun _ _ z => z.elim)
      have hF4 : F4 D = none := f4.n D hF3 (some_ne hH3)
      have hH4 : H4 D = some (.lst ws) := f4.h D _ hH3
      refine ⟨ws, hH4, Nat.lt_of_lt_of_le (show ws.length < 100001 by omega) (by decide), hl, F4, ws ++ [u], acc ++ [y], Fr.mut (f'.trans (f2.trans (f3.trans f4))) hD hF4, hF4, upd_same, by rw [List.length_append]; show ws.length + 1 ≤ i + 1; omega, ?_, ?_⟩
      · have ra : Paired (tb.rep F4) ws acc := paired_mono (f2.f.trans (f3.f.trans f4.f)) rv
        exact paired_snoc ru ra
      · refine post_imp (post_bd k2) (fun ys _ k3 p ws F5 H5 f5 h5 hF5 hH5 r5 => k3 p ws F5 H5 f5 h5 hF5 hH5 ?_) fun e _ z => z
        rw [List.append_assoc] at r5
        exact r5
end
end TL
/-! ## TL4: statements, one's own lists, defs -/
namespace TL
open PySem PySem.Spec PyProof.Rows L2
/-- a list that only this def knows, made behind F0 H0 -/
def Own {α : Type} (t : Ty α) (H0 F H : Hp) (v : V) (as : List α) : Prop := ∃ p vs, v = .ref p ∧ H0 p = none ∧ F p = none ∧ H p = some (.lst vs) ∧ Paired (t.rep F) vs as
section
variable {K : PySem.W.Frag} {W : WS} {σ : L2.St} {F H F' H' F0 H0 : Hp} {α β γ δ ρ S : Type} {ta : Ty α} {tb : Ty β} {tc : Ty γ} {te te1 te2 te3 : TE} {tt tt1 tt2 : TT} {v : V} {D : Ends} {KK : γ → Prop} {XX : Exn → Prop}
theorem Own.mono {as : List α} (f : Fr F H F' H') (o : Own ta H0 F H v as) : Own ta H0 F' H' v as := by
  obtain ⟨p, vs, ev, h0, hf, hh, r⟩ := o
  exact ⟨p, vs, ev, h0, f.n p hf (some_ne hh), f.h p _ hh, paired_mono f.f r⟩
/-- what stands outside of X stays as it is -/
structure Kept (X : Addr → Prop) (F H F' H' : Hp) : Prop where
  f : Same F F'
  h : ∀ q o, ¬ X q → H q = some o → H' q = some o
  n : ∀ q, ¬ X q → F q = none → H q ≠ none → F' q = none
abbrev atV (v : V) : Addr → Prop := fun q => V.ref q = v
theorem Own.kept {w : V} {bs : List β} (k : Kept (atV v) F H F' H') (hw : w ≠ v) (o : Own tb H0 F H w bs) : Own tb H0 F' H' w bs := by
  obtain ⟨q, ws, ew, h0, hf, hh, r⟩ := o
  have nx : ¬ atV v q := fun z => hw (by rw [ew]; exact z)
  exact ⟨q, ws, ew, h0, k.n q nx hf (some_ne hh), k.h q _ nx hh, paired_mono k.f r⟩
/-- nothing that is tracked stands at v -/
def NewAt (v : V) (H : Hp) : Prop := ∀ q o, H q = some o → V.ref q ≠ v
theorem Own.ne {w : V} {bs : List β} (n : NewAt v H) (o : Own tb H0 F H w bs) : w ≠ v := by
  obtain ⟨q, ws, ew, _, _, hh, _⟩ := o
  rw [ew]
  exact n q _ hh
/-- frozen from now on -/
theorem Own.freeze {as : List α} (fr : Fr F0 H0 F H) (o : Own ta H0 F H v as) : ∃ F', Fr F0 H0 F' H ∧ Same F F' ∧ (yList ta).rep F' v as ∧ Kept (atV v) F H F' H := by
  obtain ⟨p, vs, ev, h0, hf, hh, r⟩ := o
  subst ev
  refine ⟨_, fr.freeze h0 hh hf, same_upd hf, ⟨p, vs, rfl, upd_same, paired_mono (same_upd hf) r⟩, same_upd hf, fun _ _ _ e => e, fun q nx hf' _ => ?_⟩
  rw [upd_ne fun z => nx (by rw [z])]
  exact hf'
theorem s_asg {i : Nat} {m : R α} {f : α → R γ} (hX : ∀ e, XX e → ∀ σ F' H', Fr F0 H0 F' H' → W e σ H') (fr : Fr F0 H0 F H) (he : Ev ta te W σ F H m) (hp : Post (bd m f) KK XX)
    (k : ∀ a v F' H', m = .ok a → Fr F H F' H' → Fr F0 H0 F' H' → ta.rep F' v a → Post (f a) KK XX → D.nx (σ.set i (some v)) H') : tAsg te (gName i) D σ H :=
  he F H (Fr.refl fr.s) _ (post_imp (post_bd hp) (fun a e q v F' H' f' r => k a v F' H' e f' (fr.trans f') r q) fun e _ z F' H' f' => hX e z _ _ _ (fr.trans f'))
/-- a new list of one's own -/
theorem s_asgL {i : Nat} {m : R (List α)} {f : List α → R γ} (hX : ∀ e, XX e → ∀ σ F' H', Fr F0 H0 F' H' → W e σ H') (fr : Fr F0 H0 F H) (he : EvL ta te W σ F H m) (hp : Post (bd m f) KK XX)
    (k : ∀ a v F' H', m = .ok a → Fr F H F' H' → Fr F0 H0 F' H' → Own ta H0 F' H' v a → NewAt v H → Post (f a) KK XX → D.nx (σ.set i (some v)) H') : tAsg te (gName i) D σ H :=
  he F H (Fr.refl fr.s) _ (post_imp (post_bd hp) (fun a e q p vs F' H' f' h1 hf h2 r => k a _ F' H' e f' (fr.trans f') ⟨p, vs, rfl, fr.h.free h1, hf, h2, r⟩ (fun q' o hh z => by
    cases z
    rw [h1] at hh
    cases hh) q) fun e _ z F' H' f' => hX e z _ _ _ (fr.trans f'))
/-- a, b = e -/
theorem s_asgT {g : TG} {m : R α} {f : α → R γ} {P : L2.St → Hp → α → Prop} (hX : ∀ e, XX e → ∀ σ F' H', Fr F0 H0 F' H' → W e σ H') (fr : Fr F0 H0 F H) (he : Ev ta te W σ F H m) (hg : Tg ta g σ P) (hp : Post (bd m f) KK XX)
    (k : ∀ a σ' F' H', m = .ok a → Fr F H F' H' → Fr F0 H0 F' H' → P σ' F' a → Post (f a) KK XX → D.nx σ' H') : tAsg te g D σ H :=
  he F H (Fr.refl fr.s) _ (post_imp (post_bd hp) (fun a e q v F' H' f' r => hg v F' H' a _ f'.s r fun σ' p => k a σ' F' H' e f' (fr.trans f') p q) fun e _ z F' H' f' => hX e z _ _ _ (fr.trans f'))
/-- a, b = e1, e2 -/
theorem s_par {i j : Nat} {m1 : R α} {m2 : R β} {f : α → β → R γ} (hX : ∀ e, XX e → ∀ σ F' H', Fr F0 H0 F' H' → W e σ H') (fr : Fr F0 H0 F H) (h1 : Ev ta te1 W σ F H m1) (h2 : Ev tb te2 W σ F H m2) (hp : Post (bd m1 fun a => bd m2 fun b => f a b) KK XX)
    (k : ∀ a b v w F' H', Fr F H F' H' → Fr F0 H0 F' H' → ta.rep F' v a → tb.rep F' w b → Post (f a b) KK XX → D.nx ((σ.set i (some v)).set j (some w)) H') : tPar i j (tCons te1 (tCons te2 tNil)) D σ H :=
  h1 F H (Fr.refl fr.s) _ (post_imp (post_bd hp) (fun a e q v F1 H1 f1 r => h2 F1 H1 f1 _ (post_imp (post_bd q) (fun b e q2 w F2 H2 f2 r2 => ⟨v, w, rfl, k a b v w F2 H2 (f1.trans f2) (fr.trans (f1.trans f2)) (ta.mono f2.f r) r2 q2⟩) fun e _ z F' H' f' => hX e z _ _ _ (fr.trans (f1.trans f')))) fun e _ z F' H' f' => hX e z _ _ _ (fr.trans f'))
theorem s_if {m : R Bool} {A B : R γ} {t1 t2 : TS} (hX : ∀ e, XX e → ∀ σ F' H', Fr F0 H0 F' H' → W e σ H') (fr : Fr F0 H0 F H) (he : EvT tt W σ F H m) (hp : Post (bd m fun c => if c = true then A else B) KK XX)
    (k1 : ∀ F' H', m = .ok true → Fr F H F' H' → Fr F0 H0 F' H' → Post A KK XX → t1 D σ H') (k2 : ∀ F' H', m = .ok false → Fr F H F' H' → Fr F0 H0 F' H' → Post B KK XX → t2 D σ H') : tIfS tt t1 t2 D σ H :=
  he F H (Fr.refl fr.s) _ (post_imp (post_bd hp) (fun c e q F' H' f' => by
    cases c with
    | true => exact k1 F' H' e f' (fr.trans f') q
    | false => exact k2 F' H' e f' (fr.trans f') q) fun e _ z F' H' f' => hX e z _ _ _ (fr.trans f'))
theorem s_ret {m : R α} {f : α → R γ} (hX : ∀ e, XX e → ∀ σ F' H', Fr F0 H0 F' H' → W e σ H') (fr : Fr F0 H0 F H) (he : Ev ta te W σ F H m) (hp : Post (bd m f) KK XX)
    (k : ∀ a v F' H', Fr F0 H0 F' H' → ta.rep F' v a → Post (f a) KK XX → D.rt v H') : tRet te D σ H :=
  he F H (Fr.refl fr.s) _ (post_imp (post_bd hp) (fun a e q v F' H' f' r => k a v F' H' (fr.trans f') r q) fun e _ z F' H' f' => hX e z _ _ _ (fr.trans f'))
theorem s_retL {m : R (List α)} {f : List α → R γ} (hX : ∀ e, XX e → ∀ σ F' H', Fr F0 H0 F' H' → W e σ H') (fr : Fr F0 H0 F H) (he : EvL ta te W σ F H m) (hp : Post (bd m f) KK XX)
    (k : ∀ a v F' H', Fr F0 H0 F' H' → Own ta H0 F' H' v a → Post (f a) KK XX → D.rt v H') : tRet te D σ H :=
  he F H (Fr.refl fr.s) _ (post_imp (post_bd hp) (fun a e q p vs F' H' f' h1 hf h2 r => k a _ F' H' (fr.trans f') ⟨p, vs, rfl, fr.h.free h1, hf, h2, r⟩ q) fun e _ z F' H' f' => hX e z _ _ _ (fr.trans f'))
/-- return xs, xs one's own list -/
theorem s_retO {i : Nat} (hv : σ[i]? = some (some v)) (k : D.rt v H) : tRet (tVar i) D σ H := ⟨v, hv, k⟩
theorem s_drop {m : R α} {f : α → R γ} (hX : ∀ e, XX e → ∀ σ F' H', Fr F0 H0 F' H' → W e σ H') (fr : Fr F0 H0 F H) (he : Ev ta te W σ F H m) (hp : Post (bd m f) KK XX)
    (k : ∀ a F' H', m = .ok a → Fr F H F' H' → Fr F0 H0 F' H' → Post (f a) KK XX → D.nx σ H') : tDrop te D σ H :=
  he F H (Fr.refl fr.s) _ (post_imp (post_bd hp) (fun a e q v F' H' f' r => k a F' H' e f' (fr.trans f') q) fun e _ z F' H' f' => hX e z _ _ _ (fr.trans f'))
def addR (as : List α) (a : α) : R (List α) := if as.length < 100000 then .ok (as ++ [a]) else .stuck
def catR (as bs : List α) : R (List α) := if as.length + bs.length ≤ 100000 then .ok (as ++ bs) else .stuck
/-- xs.append(e), xs one's own -/
theorem s_app {i : Nat} {as : List α} {m : R α} {f : List α → R γ} (hX : ∀ e, XX e → ∀ σ F' H', Fr F0 H0 F' H' → W e σ H') (fr : Fr F0 H0 F H) (hv : σ[i]? = some (some v)) (o : Own ta H0 F H v as) (he : Ev ta te W σ F H m) (hp : Post (bd m fun a => bd (addR as a) f) KK XX)
    (k : ∀ bs F' H', Same F F' → Fr F0 H0 F' H' → Own ta H0 F' H' v bs → Kept (atV v) F H F' H' → Post (f bs) KK XX → D.nx σ H') :
    tDrop (tBM K "list" rAppend (tVar i) (tCons te tNil)) D σ H := by
  obtain ⟨p, vs, ev, h0, hf, hh, r⟩ := o
  subst ev
  refine ⟨_, hv, .inl ⟨rfl, vs, SqL.of hh⟩, ?_⟩
  refine he F H (Fr.refl fr.s) _ (post_imp (post_bd hp) (fun a e q v F' H' f' rv => ?_) fun e _ z F' H' f' => hX e z _ _ _ (fr.trans f'))
  unfold addR at q
  by_cases hl : as.length < 100000
  · rw [if_pos hl] at q
    have hF' : F' p = none := f'.n p hf (some_ne hh)
    refine ⟨p, vs, v, rfl, rfl, f'.h p _ hh, Nat.lt_of_lt_of_le (show vs.length < 100000 by rw [r.length]; exact hl) (by decide), ?_⟩
    refine k (as ++ [a]) F' _ f'.f ((fr.trans f').mut h0 hF') ⟨p, _, rfl, h0, hF', upd_same, paired_snoc rv (paired_mono f'.f r)⟩ ⟨f'.f, fun q' o nx hh' => ?_, fun q' _ => f'.n q'⟩ q
    rw [upd_ne fun z => nx (by rw [z])]
    exact f'.h _ _ hh'
  · rw [if_neg hl] at q
    exact q.elim
/-- reading one's own list where the answer names no object -/
def Flat (t : Ty α) : Prop := ∀ F F' v a, t.rep F v a → t.rep F' v a
theorem flat_int : Flat tInt := fun _ _ _ _ h => h
theorem flat_bool : Flat tBool := fun _ _ _ _ h => h
theorem flat_str : Flat tStr := fun _ _ _ _ h => h
theorem lend_fr {as : List α} {F1 H1 : Hp} {p : Addr} {vs : List V} (hf : F p = none) (hh : H p = some (.lst vs)) (f1 : Fr F H F1 H1) : Fr (upd F p (.lst vs)) H (upd F1 p (.lst vs)) H1 := by
  have hf1 : F1 p = none := f1.n p hf (some_ne hh)
  have hh1 := f1.h p _ hh
  refine ⟨fun b u e => ?_, f1.h, fun b u e => ?_, fun b e1 e2 => ?_⟩
  · by_cases q : b = p
    · subst q
      rw [upd_same] at e ⊢
      exact e
    · rw [upd_ne q] at e ⊢
      exact f1.f b u e
  · by_cases q : b = p
    · subst q
      rw [upd_same] at e
      rw [← e]
      exact hh1
    · rw [upd_ne q] at e
      exact f1.s b u e
  · by_cases q : b = p
    · subst q
      rw [upd_same] at e1
      cases e1
    · rw [upd_ne q] at e1 ⊢
      exact f1.n b e1 e2
theorem ev_lend {as : List β} {m : R α} (fl : Flat ta) (o : Own tb H0 F H v as) (s0 : Same F H) (h : ∀ F', Same F F' → (yList tb).rep F' v as → Same F' H → Ev ta te W σ F' H m) : Ev ta te W σ F H m := fun F1 H1 f1 Q q => by
  obtain ⟨p, vs, ev, h0, hf, hh, r⟩ := o
  subst ev
  have hf1 : F1 p = none := f1.n p hf (some_ne hh)
  have sF : Same F (upd F p (.lst vs)) := same_upd hf
  have sH : Same (upd F p (.lst vs)) H := fun b u e => by
    by_cases q : b = p
    · subst q
      rw [upd_same] at e
      rw [← e]
      exact hh
    · rw [upd_ne q] at e
      exact s0 b u e
  refine h _ sF ⟨p, vs, rfl, upd_same, paired_mono sF r⟩ sH _ H1 (lend_fr (as := as) hf hh f1) Q (post_imp q (fun a _ k v F2 H2 f2 rv => ?_) fun e _ z F2 H2 f2 => ?_)
  · exact k v F1 H2 ⟨Same.refl _, f2.h, f1.s.trans f2.h, fun _ h _ => h⟩ (fl _ _ _ _ rv)
  · exact z F1 H2 ⟨Same.refl _, f2.h, f1.s.trans f2.h, fun _ h _ => h⟩
theorem et_lend {as : List β} {m : R Bool} (o : Own tb H0 F H v as) (s0 : Same F H) (h : ∀ F', Same F F' → (yList tb).rep F' v as → Same F' H → EvT tt W σ F' H m) : EvT tt W σ F H m := fun F1 H1 f1 Q q => by
  obtain ⟨p, vs, ev, h0, hf, hh, r⟩ := o
  subst ev
  have sF : Same F (upd F p (.lst vs)) := same_upd hf
  have sH : Same (upd F p (.lst vs)) H := fun b u e => by
    by_cases q : b = p
    · subst q
      rw [upd_same] at e
      rw [← e]
      exact hh
    · rw [upd_ne q] at e
      exact s0 b u e
  refine h _ sF ⟨p, vs, rfl, upd_same, paired_mono sF r⟩ sH _ H1 (lend_fr (as := as) hf hh f1) Q (post_imp q (fun a _ k F2 H2 f2 => ?_) fun e _ z F2 H2 f2 => ?_)
  · exact k F1 H2 ⟨Same.refl _, f2.h, f1.s.trans f2.h, fun _ h _ => h⟩
  · exact z F1 H2 ⟨Same.refl _, f2.h, f1.s.trans f2.h, fun _ h _ => h⟩
end

/-! ### defs -/
/-- a def of the module, as its callers see it -/
structure CalX (P : Program) (w : World) (K : PySem.W.Frag) (mg : Str → Option Value) (base : Heap) (k : Nat) (x : Str) (sp : Sp) : Prop where
  ex : ∃ (f : Addr) (fd : FuncData) (ps : List Str), FnOk P w K mg base (L2.CX P w) k f fd ps sp ∧ mg x = some (.ref f) ∧ PySem.W.keepIn K (.ref f) = true ∧ Binds K fd ps []
section
variable {X : Cx} {j k : Nat} {x : Str} {sp : Sp} {E : XK} {p pos : Pos} {e : Expr} {es : List Expr} {t : TA}
theorem pe_cx (c : CalX X.prog X.w X.K X.mg X.base k x sp) (hr : Room j X.A) (hk : k ≤ j) (hx : Passes (L2.CX X.prog X.w) X E) (ha : PA X (e :: es) t) (hg : Gl X x := by rfl) (hdb : (x == ("__debug__" : Str)) = false := by decide)
    (he : starEach (e :: es) X.env = (false, eval e X.env) :: starEach es X.env := by rfl) (hpl : (backTo pos (starEach es X.env)).any (·.1) = false := by rfl) : PE X (.Call (.Name x p) (e :: es) [] pos) (tCall sp [] E t) := by
  obtain ⟨f, fd, ps, F, hm, hkp, hb⟩ := c.ex
  exact pe_call F (hr.mono hk) hg hm hkp hb .nil hx ha hdb he hpl
end
/-- a method of an own class -/
structure MetX (P : Program) (w : World) (K : PySem.W.Frag) (mg : Str → Option Value) (base : Heap) (k : Nat) (C m : Str) (sp : Sp) : Prop where
  ex : ∃ (f : Addr) (fd : FuncData) (ps : List Str), Cls K (He.ga K C) ∧ Meth K (He.ga K C) m f ∧ FnOk P w K mg base (L2.CX P w) k f fd ps sp ∧ Binds K fd ps []
section
variable {X : Cx} {j k : Nat} {C m : Str} {sp : Sp} {E : XK} {o e : Expr} {es : List Expr} {apos pos : Pos} {ta : TE} {t : TA}
theorem pe_mx {pl : Sem Bool} (he : PE X o ta) (c : MetX X.prog X.w X.K X.mg X.base k C m sp) (hr : Room j X.A) (hk : k ≤ j) (hx : Passes (L2.CX X.prog X.w) X E) (ha : PA X (e :: es) t)
    (hst : starEach (e :: es) X.env = (false, eval e X.env) :: starEach es X.env := by rfl) (hpl : (backTo pos (starEach es X.env)).any (·.1) = false := by rfl)
    (ht : eval (.Call (.Attribute o m apos) (e :: es) [] pos) X.env = (do
      let ov ← eval o X.env
      standAt apos.atName
      let (f, first) ← holding [ov] (getMethod ov m pl)
      callWith pos f first (backTo pos (starEach (e :: es) X.env)) (backToKw pos (keywordEach [] X.env))) := by rfl) :
    PE X (.Call (.Attribute o m apos) (e :: es) [] pos) (tMeth (He.ga X.K C) m sp [] E ta t) := by
  obtain ⟨f, fd, ps, hC, hm, F, hb⟩ := c.ex
  exact pe_meth he hC hm F (hr.mono hk) hb .nil hx ha hst hpl ht
theorem pe_mx0 {pl : Sem Bool} (he : PE X o ta) (c : MetX X.prog X.w X.K X.mg X.base k C m sp) (hr : Room j X.A) (hk : k ≤ j) (hx : Passes (L2.CX X.prog X.w) X E)
    (ht : eval (.Call (.Attribute o m apos) [] [] pos) X.env = (do
      let ov ← eval o X.env
      standAt apos.atName
      let (f, first) ← holding [ov] (getMethod ov m pl)
      callWith pos f first (backTo pos (starEach [] X.env)) (backToKw pos (keywordEach [] X.env))) := by rfl) :
    PE X (.Call (.Attribute o m apos) [] [] pos) (tMeth (He.ga X.K C) m sp [] E ta tNil) := by
  obtain ⟨f, fd, ps, hC, hm, F, hb⟩ := c.ex
  exact pe_meth0 he hC hm F (hr.mono hk) hb .nil hx ht
end
section
variable {K : PySem.W.Frag} {W : WS} {σ : L2.St} {F H : Hp} {α β γ : Type} {ta : Ty α} {tb : Ty β} {te : TE}
theorem lookup_zip_none : ∀ {names : List Str} {vs : List V} {f : Str}, names.findIdx? (fun x => x == f) = none → (names.zip vs).lookup f = none
  | [], _, _, _ => rfl
  | n :: ns, [], f, _ => rfl
  | n :: ns, w :: vs, f, h => by
    rw [List.findIdx?_cons] at h
    rw [List.zip_cons_cons, List.lookup_cons]
    by_cases e : n == f
    · rw [if_pos e] at h
      cases h
    · rw [if_neg e] at h
      have e2 : (f == n) = false := by
        cases q : f == n with
        | false => rfl
        | true => exact absurd (by rw [eq_of_beq q]; exact beq_self_eq_true n) e
      rw [e2]
      exact lookup_zip_none (by simpa using h)
/-- a method of an instance that never changes -/
theorem ev_meth {C mn : Str} {names : List Str} {u : TyA α} {u2 : TyA β} {tc : Ty γ} {g : α × β → R γ} {m1 : R α} {m2 : R β} {tx : TA} {E : XK} (hw : ∀ e H, W e σ H → XS K E e H) (hn : names.findIdx? (fun y => y == mn) = none) (h1 : Ev (tObj K C names u) te W σ F H m1) (h2 : EvA u2 tx W σ F H m2) :
    Ev tc (tMeth (He.ga K C) mn (SpF K (aCons (tObj K C names u) u2) tc g) [] E te tx) W σ F H (bd m1 fun a => bd m2 fun b => g (a, b)) := fun F1 H1 f1 Q q => by
  refine h1 F1 H1 f1 _ (post_imp (post_bd q) (fun a _ q1 v F2 H2 f2 ⟨p, dx, vs, ev, hp, rv⟩ => ⟨p, dx, _, ev, f2.s _ _ hp, ?_, ?_⟩) fun e _ z => z)
  · exact lookup_zip_none hn
  · refine h2 F2 H2 (f1.trans f2) _ (post_imp (post_bd q1) (fun b _ k vs2 F3 H3 f3 rv2 => ?_) fun e _ z F3 H3 f3 => z F3 H3 (f2.trans f3))
    exact ⟨F3, (a, b), f3.s, ⟨v, vs2, by rw [List.append_nil], ⟨p, dx, vs, ev, f3.f _ _ hp, u.mono f3.f rv⟩, rv2⟩, post_imp k (fun c _ k2 v F4 H4 f4 r => k2 v F4 H4 ((f2.trans f3).trans f4) r) fun e _ z F4 H4 f4 => hw _ _ (z F4 H4 ((f2.trans f3).trans f4))⟩
end
end TL
/-! ## TLmin: min(xs, default=None) of a list of ints -/
namespace TLm
open PySem PySem.Spec PyProof.Rows L2
abbrev kwD (d : Value) : List (Str × Value) := [(Str.ofString "default", d)]
section
variable {pg : Program} {wd : World} {B : Around} {Rs : Result → Shared → Prop} {It0 : Addr} {fq wq : List Addr} {N0 : Nat} {Pi : Nat → Value → Prop} {Sj : Nat → Heap → Prop} {d : Value}
theorem nm_loop : (toString "min" ++ toString ".loop" : String) = "min.loop" := by decide
theorem ml_go (Wk : Walks pg wd B.in1 It0 fq wq N0 Pi Sj) (lt : Nat → Nat → Bool) (hc : CmpOf pg wd B.in1 .Lt Pi lt) (T : Addr) (hT : T ∉ fq) : ∀ (k j : Nat) (s : Shared) (u : Value) (c : Nat),
    N0 - (j + 1) = k → j + 1 ≤ N0 → Sj (j + 1) s.heap → Pi (argBest lt j) u → s.heap.get? T = some { cls := .type "list", dict := none, data := .seq #[u, u] c, slots := #[] } →
    (∀ v h' tk, Pi (argBest lt (N0 - 1)) v → (∀ b o, b ∉ wq → b ≠ T → s.heap.get? b = some o → h'.get? b = some o) → Rs (.ok (.ret v)) { s with heap := h', toks := tk }) →
    codeAny (model pg wd) B (.builtin "min.loop" ⟨[.ref It0, .none, .ref T], kwD d⟩) Rs s := by
  have hTw : T ∉ wq := fun z => hT (Wk.sub _ z)
  intro k
  induction k with
  | zero =>
    intro j s u c ek ej st pb gT fin
    have ej' : j + 1 = N0 := by omega
    refine codeAny_builtin F.entry_min_loop ?_; rw [Around.under_plainId F.plain_min_loop _]
    show wpAny _ B.in1 (seqItems? (.ref T) >>= _) _ _ s
    refine wpAny_bind (wpAny_seqItems gT rfl ?_); show wpAny _ B.in1 (tryCatch (pyNext (.ref It0)) _ >>= _) _ _ s
    refine wpAny_bind (wpAny_tryCatch (Wk.done s _ _ (ej' ▸ st) fun h1 t1 kp => ?_))
    have gT1 := kp T _ hTw gT
    show wpAny _ B.in1 (updateSeq T (fun _ => #[]) >>= _) _ _ _
    refine wpAny_bind ?_; refine wpAny_updateSeq gT1 rfl (wpAny_bind (wpAny_letGo (wpAny_pure ?_)))
    exact fin u _ t1 (by rw [← ej']; exact pb) fun b o hb hbT e => (Heap.get?_update_other _ _ (Ne.symm hbT)).trans (kp b o hb e)
  | succ k ih =>
    intro j s u c ek ej st pb gT fin
    have ej' : j + 1 < N0 := by omega
    refine codeAny_builtin F.entry_min_loop ?_; rw [Around.under_plainId F.plain_min_loop _]
    show wpAny _ B.in1 (seqItems? (.ref T) >>= _) _ _ s
    refine wpAny_bind (wpAny_seqItems gT rfl ?_); show wpAny _ B.in1 (tryCatch (pyNext (.ref It0)) _ >>= _) _ _ s
    refine wpAny_bind (wpAny_tryCatch (Wk.item (j + 1) s _ _ ej' st fun v h1 t1 pv st1 kp => ?_))
    have gT1 := kp T _ hTw gT
    show wpAny _ B.in1 (tryCatch (holding [v, v] (richCompare .Lt v u >>= _)) _ >>= _) _ _ _
    refine wpAny_bind (wpAny_tryCatch (wpAny_holding (wpAny_bind (hc (j + 1) (argBest lt j) v u _ _ _ pv pb ?_))))
    refine wpAny_bind (wpAny_holding (wpAny_truthy_bool ?_)); refine wpAny_bind (wpAny_letGo (wpAny_pure ?_))
    cases eb : lt (j + 1) (argBest lt j) with
    | true =>
      simp only [if_true]
      refine wpAny_bind ?_; refine wpAny_updateSeq gT1 rfl (wpAny_bind (wpAny_letGo ?_))
      rw [nm_loop]
      refine wpAny_pure ⟨plainId_quiet F.plain_min_loop _, ih (j + 1) _ v _ (by omega) ej' (Wk.frame _ _ _ st1 fun b hb o e => (Heap.get?_update_other _ _ (fun z : T = b => hT (by rw [z]; exact hb))).trans e) (by simp only [argBest, eb, if_true]; exact pv) (Heap.get?_update_self _ gT1 rfl) fun v2 h2 t2 pv2 kp2 => ?_⟩
      exact fin v2 h2 t2 pv2 fun b o hb hbT e => kp2 b o hb hbT ((Heap.get?_update_other _ _ (Ne.symm hbT)).trans (kp b o hb e))
    | false =>
      simp only [Bool.false_eq_true, if_false]
      refine wpAny_bind (wpAny_letGo ?_); rw [nm_loop]
      refine wpAny_pure ⟨plainId_quiet F.plain_min_loop _, ih (j + 1) _ u c (by omega) ej' st1 (by simp only [argBest, eb, Bool.false_eq_true, if_false]; exact pb) gT1 fun v2 h2 t2 pv2 kp2 => ?_⟩
      exact fin v2 h2 t2 pv2 fun b o hb hbT e => kp2 b o hb hbT (kp b o hb e)
theorem ml_first (Wk : Walks pg wd B.in1 It0 fq wq N0 Pi Sj) (lt : Nat → Nat → Bool) (hc : CmpOf pg wd B.in1 .Lt Pi lt) (T : Addr) (hT : T ∉ fq) {s : Shared} {c : Nat} (st : Sj 0 s.heap) (gT : s.heap.get? T = some { cls := .type "list", dict := none, data := .seq #[] c, slots := #[] })
    (f0 : N0 = 0 → ∀ h' tk, (∀ b o, b ∉ wq → b ≠ T → s.heap.get? b = some o → h'.get? b = some o) → Rs (.ok (.ret d)) { s with heap := h', toks := tk })
    (f1 : 0 < N0 → ∀ v h' tk, Pi (argBest lt (N0 - 1)) v → (∀ b o, b ∉ wq → b ≠ T → s.heap.get? b = some o → h'.get? b = some o) → Rs (.ok (.ret v)) { s with heap := h', toks := tk }) :
    codeAny (model pg wd) B (.builtin "min.loop" ⟨[.ref It0, .none, .ref T], kwD d⟩) Rs s := by
  have hTw : T ∉ wq := fun z => hT (Wk.sub _ z)
  refine codeAny_builtin F.entry_min_loop ?_; rw [Around.under_plainId F.plain_min_loop _]
  show wpAny _ B.in1 (seqItems? (.ref T) >>= _) _ _ s
  refine wpAny_bind (wpAny_seqItems gT rfl ?_); show wpAny _ B.in1 (tryCatch (pyNext (.ref It0)) _ >>= _) _ _ s
  by_cases h0 : N0 = 0
  · refine wpAny_bind (wpAny_tryCatch (Wk.done s _ _ (h0 ▸ st) fun h1 t1 kp => ?_))
    show wpAny _ B.in1 (rule _ >>= _) _ _ _
    refine wpAny_bind ?_
    refine wpAny_rule ?_
    exact wpAny_pure (f0 h0 h1 t1 fun b o hb _ e => kp b o hb e)
  · have hn : 0 < N0 := Nat.pos_of_ne_zero h0
    refine wpAny_bind (wpAny_tryCatch (Wk.item 0 s _ _ hn st fun v h1 t1 pv st1 kp => ?_))
    have gT1 := kp T _ hTw gT
    show wpAny _ B.in1 (updateSeq T (fun _ => #[v, v]) >>= _) _ _ _
    refine wpAny_bind ?_; refine wpAny_updateSeq gT1 rfl ?_; rw [nm_loop]
    refine wpAny_pure ⟨plainId_quiet F.plain_min_loop _, ml_go Wk lt hc T hT _ 0 _ v _ rfl hn (Wk.frame _ _ _ st1 fun b hb o e => (Heap.get?_update_other _ _ (fun z : T = b => hT (by rw [z]; exact hb))).trans e) pv (Heap.get?_update_self _ gT1 rfl) fun v2 h2 t2 pv2 kp2 => ?_⟩
    exact f1 hn v2 h2 t2 pv2 fun b o hb hbT e => kp2 b o hb hbT ((Heap.get?_update_other _ _ (Ne.symm hbT)).trans (kp b o hb e))
end
theorem args_minD (a v : Value) : argsOk "min" ⟨[a], kwD v⟩ := by unfold argsOk; kernel_rfl
section
variable {pg : Program} {wd : World} {B : Around} {E : Value → Shared → Prop} {s : Shared} {d : Value}
theorem min_default_walk {x : Value} {Q : Value → Shared → Prop} (h : wpAny (model pg wd) B.in1 (pyIter x) (fun it s2 => ∃ I fp wr n P St bt, it = .ref I ∧ Walks pg wd B.in1 I fp wr n P St ∧ St 0 s2.heap ∧ (∀ b ∈ fp, b < s2.heap.objs.size) ∧ CmpOf pg wd B.in1 .Lt P bt ∧
      (n = 0 → ∀ h' tk, (∀ b o, b ∉ wr → s2.heap.get? b = some o → h'.get? b = some o) → Q d { s2 with heap := h', toks := tk }) ∧
      (0 < n → ∀ v h' tk, P (argBest bt (n - 1)) v → (∀ b o, b ∉ wr → s2.heap.get? b = some o → h'.get? b = some o) → Q v { s2 with heap := h', toks := tk })) E s) : wpAny (model pg wd) B (call (.builtin "min") [x] (kwD d)) Q E s := by
  refine kmk_tree F.kind_min F.plain_min F.entry_min (args_minD _ _) ?_
  show wpAny _ B.in1 (Builtin.Builtins.bindParams "min" ["key", "default"] 0 ⟨[], kwD d⟩ >>= _) _ _ s
  refine wpAny_bind (wpAny_of_eq (show Builtin.Builtins.bindParams "min" ["key", "default"] 0 ⟨[], kwD d⟩ = pure [none, some d] from rfl) ?_)
  refine wpAny_bind (wpAny_pure ?_)
  refine wpAny_bind (wpAny_mono h (fun it s2 h2 => ?_) fun _ _ e => e)
  obtain ⟨I, fp, wr, n, P, St, bt, rfl, Wk, st, hfp, hc, q0, q1⟩ := h2
  refine wpAny_bind (wpAny_newObj_type ?_)
  have hSf : s2.heap.objs.size ∉ fp := fun hm => Nat.lt_irrefl _ (hfp _ hm)
  rw [nm_loop]
  refine wpAny_pure ⟨plainId_quiet F.plain_min_loop _, ml_first Wk bt hc s2.heap.objs.size hSf (Wk.frame _ _ _ st fun b _ o e => Heap.get?_push_of_some _ e) (Heap.get?_push_size _ rfl) (fun z h' tk kp => ?_) fun z v h' tk pv kp => ?_⟩
  · exact q0 z h' tk fun b o hb e => kp b o hb (Nat.ne_of_lt (Heap.lt_size e)) (Heap.get?_push_of_some _ e)
  · exact q1 z v h' tk pv fun b o hb e => kp b o hb (Nat.ne_of_lt (Heap.lt_size e)) (Heap.get?_push_of_some _ e)
theorem min_default {l : Addr} {its : List Value} {ns : List Int} {Q : Value → Shared → Prop} (hh : B.handled = none) (hl : s.heap.IsList l its.toArray) (hi : IntsAre its ns)
    (h0 : ns = [] → ∀ h' tk, (∀ b o, s.heap.get? b = some o → h'.get? b = some o) → Q d { s with heap := h', toks := tk })
    (h1 : ∀ h' tk M t', (∀ b o, s.heap.get? b = some o → h'.get? b = some o) → M ∈ ns → (∀ a, a ∈ ns → M ≤ a) → Q (.int M t') { s with heap := h', toks := tk }) : wpAny (model pg wd) B (call (.builtin "min") [.ref l] (kwD d)) Q E s := by
  obtain ⟨xs, e⟩ := hi.allInts.items
  have hn : numsOf (intItems xs).toList = ns := by rw [← e]; exact hi.numsOf
  rw [nums_intItems] at hn
  subst hn
  rw [e] at hl
  refine min_default_walk (iter_intList hl fun s2 e2 st hfp hlI => ?_)
  subst e2
  refine ⟨_, _, _, _, _, _, _, rfl, Walks.list (A := B.in1) hh _ l hlI (intItems xs), st, hfp, CmpOf.ints_lt (numAt xs) (fun _ _ => intItems_at), fun z h' tk hk => ?_, fun z v h' tk hv hk => ?_⟩
  · have z2 : xs.size = 0 := by simpa [intItems] using z
    exact h0 (List.eq_nil_of_length_eq_zero (by rw [List.length_map, Array.length_toList]; exact z2)) h' tk (old_kept hk)
  · have hsz : 0 < xs.size := by simpa [intItems] using z
    have hv2 : (intItems xs)[argBest (fun i j => decide (numAt xs i < numAt xs j)) (xs.size - 1)]? = some v := by simpa [intItems] using hv
    obtain ⟨t, rfl⟩ := intItems_at hv2
    obtain ⟨g1, g2⟩ := argBest_lt (numAt xs) (xs.size - 1)
    refine h1 h' tk _ t (old_kept hk) ?_ fun a ha => ?_
    · rw [numAt_eq]; exact PySem.getD_mem (by rw [List.length_map, Array.length_toList]; omega)
    · obtain ⟨j, hj, rfl⟩ := mem_getD ha
      rw [List.length_map, Array.length_toList] at hj
      rw [← numAt_eq]; exact g2 j (by omega)
end
/-- min(xs, default=None) -/
def rMinD (K : PySem.W.Frag) : List V → List V → Hp → VK → Prop := fun vs zs H Q => zs = [.non] ∧ ∃ (a : Addr) (ns : List Int), vs = [V.ref a] ∧ SqL K H a (ns.map V.int) ∧ (ns = [] → Q .non H) ∧ ∀ m, m ∈ ns → (∀ y, y ∈ ns → m ≤ y) → Q (.int m) H
theorem cr_minD {X : Cx} (hc : X.calm = true) : CallRK X (.builtin "min") [Str.ofString "default"] (rMinD X.K) := by
  intro pins s σ H vs zs us ws Q I r rz h
  obtain ⟨rfl, a, ns, rfl, hs, q0, q1⟩ := h
  obtain ⟨its, rv, hl, _⟩ := I.list hs
  rw [Vals.ref1 r]
  cases rz with
  | cons rz1 rz2 =>
    cases rz2
    cases rz1
    exact min_default (I.ok.hd hc) hl.isList rv.ints (fun z h' tk hk => ⟨.non, H, I.kept hk, rfl, q0 z⟩) fun h' tk m t' hk h1 h2 => ⟨.int _, H, I.kept hk, ⟨_, rfl⟩, q1 m h1 h2⟩
end TLm
/-! ## TL5: built-ins of data; names of the module; raising -/
namespace TL
open PySem PySem.Spec PyProof.Rows L2
section
variable {K : PySem.W.Frag} {W : WS} {σ : L2.St} {F H F' H' F0 H0 : Hp} {α β γ δ ρ S : Type} {ta : Ty α} {tb : Ty β} {tc : Ty γ} {te te1 te2 te3 : TE} {v : V}
/-! ### isinstance -/
/-- the Python class of a type's values -/
def IsTy (K : PySem.W.Frag) (t : Ty α) (T : String) : Prop := ∀ F H v a, Same F H → t.rep F v a → TyX K H v (.type T)
theorem ty_int : IsTy K tInt "int" := fun F H v a _ r => by
  have r : v = .int a := r
  subst r
  exact .base (.int a)
theorem ty_bool : IsTy K tBool "bool" := fun F H v a _ r => by
  have r : v = .bl a := r
  subst r
  exact .base (.bl a)
theorem ty_str : IsTy K tStr "str" := fun F H v a _ r => by
  have r : v = .str a := r
  subst r
  exact .base (.str a)
theorem ty_sqL {p : Addr} {xs : List V} (h : SqL K H p xs) : TyX K H (.ref p) (.type "list") := by
  rcases h with (h | ⟨o, h⟩) | ⟨o, its, n, h1, h2, _⟩
  · exact .base (.lst h)
  · exact .base (.frz h)
  · exact .kList h1 h2
theorem ty_sqT {p : Addr} {xs : List V} (h : SqT K H p xs) : TyX K H (.ref p) (.type "tuple") := by
  rcases h with (h | ⟨o, h⟩) | ⟨o, its, n, h1, h2, _⟩
  · exact .base (.tup h)
  · exact .fTuple h
  · exact .kTuple h1 h2
theorem ty_list : IsTy K (tList K ta) "list" := fun F H v a s ⟨p, vs, ev, hs, _⟩ => by
  subst ev
  exact ty_sqL (sqL_mono s hs)
theorem ty_lst : IsTy K (yList ta) "list" := fun F H v a s ⟨p, vs, ev, hs, _⟩ => by
  subst ev
  exact ty_sqL (.inl (.inl (s _ _ hs)))
theorem ty_tupL : IsTy K (yTupL K ta) "tuple" := fun F H v a s ⟨p, vs, ev, hs, _⟩ => by
  subst ev
  exact ty_sqT (sqT_mono s hs)
theorem ty_tup {u : TyA α} : IsTy K (yTup K u) "tuple" := fun F H v a s ⟨p, vs, ev, hs, _⟩ => by
  subst ev
  exact ty_sqT (.inl (.inl (s _ _ hs)))
theorem ev_isi {T U : String} {b : Bool} (y : IsTy K ta T) (k : kitB T U = some b) {m : R α} (h : Ev ta te W σ F H m) : Ev tBool (tCB (rIsi K) (tCons te (tCons (tC (.ty U)) tNil))) W σ F H (bd m fun _ => .ok b) := fun F1 H1 f1 Q q =>
  h F1 H1 f1 _ (post_imp (post_bd q) (fun a _ k1 x F2 H2 f2 rx => ⟨x, .ty U, _, _, b, rfl, .ty U, y F2 H2 x a f2.s rx, kit_ty k, k1 _ F2 H2 f2 rfl⟩) fun e _ z => z)
/-! ### list(xs), tuple(xs), sum, min -/
def rListS (K : PySem.W.Frag) : List V → Hp → VK → Prop := fun xs H Q => ∃ p ys, xs = [.ref p] ∧ (SqL K H p ys ∨ SqT K H p ys) ∧ ∀ l, H l = none → Q (.ref l) (upd H l (.lst ys))
theorem el_listOf {m : R (List α)} (h : Ev (tList K ta) te W σ F H m) : EvL ta (tCB (rListS K) (tCons te tNil)) W σ F H m := fun F1 H1 f1 Q q =>
  h F1 H1 f1 _ (post_imp q (fun a _ k x F2 H2 f2 ⟨p, vs, ev, hs, rv⟩ => ⟨p, vs, by rw [ev], .inl (sqL_mono f2.s hs), fun l hl => k l vs F2 _ (f2.trans (Fr.fresh f2.s hl)) (f2.h.free hl) (f2.s.free hl) upd_same rv⟩) fun e _ z => z)
theorem el_listOfT {m : R (List α)} (h : Ev (yTupL K ta) te W σ F H m) : EvL ta (tCB (rListS K) (tCons te tNil)) W σ F H m := fun F1 H1 f1 Q q =>
  h F1 H1 f1 _ (post_imp q (fun a _ k x F2 H2 f2 ⟨p, vs, ev, hs, rv⟩ => ⟨p, vs, by rw [ev], .inr (sqT_mono f2.s hs), fun l hl => k l vs F2 _ (f2.trans (Fr.fresh f2.s hl)) (f2.h.free hl) (f2.s.free hl) upd_same rv⟩) fun e _ z => z)
def rTupS (K : PySem.W.Frag) : List V → Hp → VK → Prop := fun xs H Q => ∃ p ys, xs = [.ref p] ∧ ((SqL K H p ys ∧ ∀ l, H l = none → Q (.ref l) (upd H l (.tup ys))) ∨ (SqT K H p ys ∧ Q (.ref p) H))
theorem ev_tupleOf {m : R (List α)} (h : Ev (tList K ta) te W σ F H m) : Ev (yTupL K ta) (tCB (rTupS K) (tCons te tNil)) W σ F H m := fun F1 H1 f1 Q q =>
  h F1 H1 f1 _ (post_imp q (fun a _ k x F2 H2 f2 ⟨p, vs, ev, hs, rv⟩ => ⟨p, vs, by rw [ev], .inl ⟨sqL_mono f2.s hs, fun l hl => k (.ref l) _ _ (f2.trans (Fr.alloc f2.s hl)) ⟨l, vs, rfl, .inl (.inl upd_same), paired_mono (same_upd (f2.s.free hl)) rv⟩⟩⟩) fun e _ z => z)
theorem paired_ints : ∀ {vs : List V} {as : List Int}, Paired (tInt.rep F) vs as → vs = as.map V.int
  | _, _, .nil => rfl
  | _, _, .cons h t => by rw [show _ = _ from h, paired_ints t] <;> rfl
theorem paired_bls : ∀ {vs : List V} {as : List Bool}, Paired (tBool.rep F) vs as → vs = as.map V.bl
  | _, _, .nil => rfl
  | _, _, .cons h t => by rw [show _ = _ from h, paired_bls t] <;> rfl
theorem paired_strs : ∀ {vs : List V} {as : List Str}, Paired (tStr.rep F) vs as → vs = as.map V.str
  | _, _, .nil => rfl
  | _, _, .cons h t => by rw [show _ = _ from h, paired_strs t] <;> rfl
theorem ev_sum {m : R (List Int)} (h : Ev (tList K tInt) te W σ F H m) : Ev tInt (tCB (rSum K) (tCons te tNil)) W σ F H (bd m fun xs => .ok xs.sum) :=
  ev_cb1 (ta := tList K tInt) (fun F H s x as ⟨p, vs, ev, hs, rv⟩ Q q => ⟨p, as, by rw [ev], by rw [← paired_ints rv]; exact sqL_mono s hs, q _ F H (Fr.refl s) rfl⟩) (fun _ => calm_ok) h
theorem ev_all {m : R (List Bool)} (h : Ev (tList K tBool) te W σ F H m) : Ev tBool (tCB (rAll K) (tCons te tNil)) W σ F H (bd m fun xs => .ok (xs.all id)) :=
  ev_cb1 (ta := tList K tBool) (fun F H s x as ⟨p, vs, ev, hs, rv⟩ Q q => ⟨p, as, by rw [ev], by rw [← paired_bls rv]; exact sqL_mono s hs, q _ F H (Fr.refl s) rfl⟩) (fun _ => calm_ok) h
theorem ev_any {m : R (List Bool)} (h : Ev (tList K tBool) te W σ F H m) : Ev tBool (tCB (rAny K) (tCons te tNil)) W σ F H (bd m fun xs => .ok (xs.any id)) :=
  ev_cb1 (ta := tList K tBool) (fun F H s x as ⟨p, vs, ev, hs, rv⟩ Q q => ⟨p, as, by rw [ev], by rw [← paired_bls rv]; exact sqL_mono s hs, q _ F H (Fr.refl s) rfl⟩) (fun _ => calm_ok) h
/-- the least, None of none -/
def leastO : List Int → Option Int
  | [] => none
  | x :: xs => match leastO xs with
    | none => some x
    | some y => some (min x y)
theorem leastO_nil {xs : List Int} (h : leastO xs = none) : xs = [] := by
  cases xs with
  | nil => rfl
  | cons x xs =>
    unfold leastO at h
    split at h <;> cases h
theorem leastO_le : ∀ {xs : List Int} {m : Int}, leastO xs = some m → m ∈ xs ∧ ∀ y ∈ xs, m ≤ y
  | [], _, h => by cases h
  | x :: xs, m, h => by
    unfold leastO at h
    cases e : leastO xs with
    | none =>
      rw [e] at h
      cases h
      rw [leastO_nil e]
      exact ⟨List.mem_cons_self, fun y hy => by rw [List.mem_singleton.mp hy]; exact Int.le_refl _⟩
    | some k =>
      rw [e] at h
      have h := Option.some.inj h
      obtain ⟨h1, h2⟩ := leastO_le e
      refine ⟨?_, fun y hy => ?_⟩
      · by_cases c : x ≤ k
        · rw [← h, Int.min_eq_left c]; exact List.mem_cons_self
        · rw [← h, Int.min_eq_right (by omega)]; exact List.mem_cons_of_mem _ h1
      · rcases List.mem_cons.mp hy with rfl | hy
        · omega
        · have := h2 y hy
          omega
theorem ev_minD {m : R (List Int)} (h : Ev (tList K tInt) te W σ F H m) : Ev (tOpt tInt) (tCKw (TLm.rMinD K) (tCons te tNil) (tCons (tC .non) tNil)) W σ F H (bd m fun xs => .ok (leastO xs)) := fun F1 H1 f1 Q q => by
  refine h F1 H1 f1 _ (post_imp (post_bd q) (fun xs _ k x F2 H2 f2 ⟨p, vs, ev, hs, rv⟩ => ⟨rfl, p, xs, by rw [ev], by rw [← paired_ints rv]; exact sqL_mono f2.s hs, fun z => ?_, fun m hm hl => ?_⟩) fun e _ z => z)
  · subst z
    exact k _ F2 H2 f2 rfl
  · cases e : leastO xs with
    | none =>
      rw [leastO_nil e] at hm
      cases hm
    | some y =>
      obtain ⟨h1, h2⟩ := leastO_le e
      have ey : y = m := by
        have := h2 m hm
        have := hl y h1
        omega
      subst ey
      exact k (.int y) F2 H2 f2 (by
        rw [e]
        exact ⟨fun z => V.noConfusion z, rfl⟩)
theorem ev_minL {m : R (List Int)} (h : Ev (tList K tInt) te W σ F H m) : Ev tInt (tCB (rMin K) (tCons te tNil)) W σ F H (bd m fun xs => fromSome (leastO xs)) :=
  ev_cb1 (ta := tList K tInt) (fun F H s x as ⟨p, vs, ev, hs, rv⟩ Q q => by
    cases e : leastO as with
    | none =>
      rw [e] at q
      exact q.elim
    | some y =>
      rw [e] at q
      obtain ⟨h1, h2⟩ := leastO_le e
      refine ⟨p, as, by rw [ev], by rw [← paired_ints rv]; exact sqL_mono s hs, List.length_pos_of_mem h1, fun m hm hl => ?_⟩
      have ey : y = m := by
        have := h2 m hm
        have := hl y h1
        omega
      subst ey
      exact q _ F H (Fr.refl s) rfl) (fun _ => calm_fromSome) h
/-! ### data -/
theorem d_int : IsD K tInt PyData.int 0 := ⟨fun {F v a} r => by
  have r : v = .int a := r
  subst r
  exact .int a, fun a => Nat.le_refl _⟩
theorem d_bool : IsD K tBool PyData.bool 0 := ⟨fun {F v a} r => by
  have r : v = .bl a := r
  subst r
  exact .bl a, fun a => Nat.le_refl _⟩
theorem d_str : IsD K tStr PyData.str 0 := ⟨fun {F v a} r => by
  have r : v = .str a := r
  subst r
  exact .str a, fun a => Nat.le_refl _⟩
def eOpt {α : Type} (e : α → PyData) : Option α → PyData
  | none => .none
  | some a => e a
theorem d_opt {e : α → PyData} {n : Nat} (d : IsD K ta e n) : IsD K (tOpt ta) (eOpt e) n := ⟨fun {F v a} r => by
  cases a with
  | none =>
    have r : v = .non := r
    subst r
    exact .non
  | some a => exact d.dp r.2, fun a => by
  cases a with
  | none => exact Nat.zero_le _
  | some a => exact d.dep a⟩
theorem dpAll {e : α → PyData} {n : Nat} (d : IsD K ta e n) : ∀ {vs : List V} {as : List α}, Paired (ta.rep F) vs as → DpAll K F vs (as.map e)
  | _, _, .nil => .nil
  | _, _, .cons h t => .cons (d.dp h) (dpAll d t)
theorem depAll {e : α → PyData} {n : Nat} (h : ∀ a, (e a).depth ≤ n) : ∀ as : List α, PyData.depthAll (as.map e) ≤ n
  | [] => Nat.zero_le _
  | a :: as => by
    show max (e a).depth (PyData.depthAll (as.map e)) ≤ n
    exact Nat.max_le.mpr ⟨h a, depAll h as⟩
theorem d_list {e : α → PyData} {n : Nat} (d : IsD K ta e n) : IsD K (tList K ta) (fun as => .list (as.map e)) (n + 1) := ⟨fun {F v a} ⟨p, vs, ev, hs, rv⟩ => by
  subst ev
  exact .lst hs (dpAll d rv), fun as => Nat.succ_le_succ (depAll d.dep as)⟩
theorem d_lst {e : α → PyData} {n : Nat} (d : IsD K ta e n) : IsD K (yList ta) (fun as => .list (as.map e)) (n + 1) := ⟨fun {F v a} ⟨p, vs, ev, hs, rv⟩ => (d_list d).dp (K := K) (a := a) (v := v) ⟨p, vs, ev, .inl (.inl hs), rv⟩, (d_list d).dep⟩
theorem d_tupL {e : α → PyData} {n : Nat} (d : IsD K ta e n) : IsD K (yTupL K ta) (fun as => .tuple (as.map e)) (n + 1) := ⟨fun {F v a} ⟨p, vs, ev, hs, rv⟩ => by
  subst ev
  exact .tup hs (dpAll d rv), fun as => Nat.succ_le_succ (depAll d.dep as)⟩
structure IsDA (K : PySem.W.Frag) (u : TyA α) (enc : α → List PyData) (n : Nat) : Prop where
  dp : ∀ {F vs a}, u.rep F vs a → DpAll K F vs (enc a)
  dep : ∀ a, PyData.depthAll (enc a) ≤ n
theorem da_one {e : α → PyData} {n : Nat} (d : IsD K ta e n) : IsDA K (aOne ta) (fun a => [e a]) n := ⟨fun {F vs a} ⟨v, ev, r⟩ => by
  subst ev
  exact .cons (d.dp r) .nil, fun a => Nat.max_le.mpr ⟨d.dep a, Nat.zero_le _⟩⟩
theorem da_cons {u : TyA β} {e : α → PyData} {es : β → List PyData} {n : Nat} (d : IsD K ta e n) (ds : IsDA K u es n) : IsDA K (aCons ta u) (fun a => e a.1 :: es a.2) n := ⟨fun {F vs a} ⟨v, ws, ev, r, rs⟩ => by
  subst ev
  exact .cons (d.dp r) (ds.dp rs), fun a => Nat.max_le.mpr ⟨d.dep a.1, ds.dep a.2⟩⟩
theorem d_tup {u : TyA α} {es : α → List PyData} {n : Nat} (d : IsDA K u es n) : IsD K (yTup K u) (fun a => .tuple (es a)) (n + 1) := ⟨fun {F v a} ⟨p, vs, ev, hs, rv⟩ => by
  subst ev
  exact .tup (.inl (.inl hs)) (d.dp rv), fun a => Nat.succ_le_succ (d.dep a)⟩
theorem d_up {e : α → PyData} {n m : Nat} (d : IsD K ta e n) (h : n ≤ m) : IsD K ta e m := ⟨d.dp, fun a => Nat.le_trans (d.dep a) h⟩
end
/-! ### names of the module -/
section
variable {X : Cx} {x : Str} {pos : Pos}
theorem pe_gi {i : Int} (h : ∃ t, X.mg x = some (.int i t)) (hg : Gl X x := by rfl) (hd : (x == ("__debug__" : Str)) = false := by decide) : PE X (.Name x pos) (tC (.int i)) := by
  obtain ⟨t, e⟩ := h
  exact pe_glob (v := .int i) hg e ⟨t, rfl⟩ hd
theorem pe_gs {z : Str} (h : ∃ t, X.mg x = some (.str z t)) (hg : Gl X x := by rfl) (hd : (x == ("__debug__" : Str)) = false := by decide) : PE X (.Name x pos) (tC (.str z)) := by
  obtain ⟨t, e⟩ := h
  exact pe_glob (v := .str z) hg e ⟨t, rfl⟩ hd
end
theorem bt_isinstance : bootBuiltins "isinstance" = some (.builtin "isinstance") := by decide +kernel
theorem bt_len : bootBuiltins "len" = some (.builtin "len") := by decide +kernel
theorem bt_max : bootBuiltins "max" = some (.builtin "max") := by decide +kernel
theorem bt_min : bootBuiltins "min" = some (.builtin "min") := by decide +kernel
theorem bt_sum : bootBuiltins "sum" = some (.builtin "sum") := by decide +kernel
theorem bt_all : bootBuiltins "all" = some (.builtin "all") := by decide +kernel
theorem bt_any : bootBuiltins "any" = some (.builtin "any") := by decide +kernel
theorem bt_list : bootBuiltins "list" = some (.type "list") := by decide +kernel
theorem bt_tuple : bootBuiltins "tuple" = some (.type "tuple") := by decide +kernel
theorem bt_int : bootBuiltins "int" = some (.type "int") := by decide +kernel
theorem bt_bool : bootBuiltins "bool" = some (.type "bool") := by decide +kernel
theorem bt_str : bootBuiltins "str" = some (.type "str") := by decide +kernel
end TL
/-! ## TL6: the same where nothing may go wrong; instances in the making; defs -/
namespace TL
open PySem PySem.Spec PyProof.Rows L2
section
variable {K : PySem.W.Frag} {W : WS} {σ : L2.St} {F H F' H' F0 H0 : Hp} {α β γ δ ρ S : Type} {ta : Ty α} {tb : Ty β} {tc : Ty γ} {te te1 te2 te3 : TE} {tt tt1 tt2 : TT} {v : V}
theorem ev_andP {a b : Bool} (h1 : Ev tBool te1 W σ F H (.ok a)) (h2 : Ev tBool te2 W σ F H (.ok b)) : Ev tBool (tAndV te1 te2) W σ F H (.ok (a && b)) := ev_is (ev_andV h1 h2) (by cases a <;> rfl)
theorem ev_orP {a b : Bool} (h1 : Ev tBool te1 W σ F H (.ok a)) (h2 : Ev tBool te2 W σ F H (.ok b)) : Ev tBool (tOrV te1 te2) W σ F H (.ok (a || b)) := ev_is (ev_orV h1 h2) (by cases a <;> rfl)
theorem et_andP {a b : Bool} (h1 : EvT tt1 W σ F H (.ok a)) (h2 : EvT tt2 W σ F H (.ok b)) : EvT (tAnd tt1 tt2) W σ F H (.ok (a && b)) := et_is (et_and h1 h2) (by cases a <;> rfl)
theorem et_orP {a b : Bool} (h1 : EvT tt1 W σ F H (.ok a)) (h2 : EvT tt2 W σ F H (.ok b)) : EvT (tOr tt1 tt2) W σ F H (.ok (a || b)) := et_is (et_or h1 h2) (by cases a <;> rfl)
theorem ev_ifP {c : Bool} {a b : α} (h : EvT tt W σ F H (.ok c)) (h1 : Ev ta te1 W σ F H (.ok a)) (h2 : Ev ta te2 W σ F H (.ok b)) : Ev ta (tIf tt te1 te2) W σ F H (.ok (if c = true then a else b)) := ev_is (ev_if h h1 h2) (by cases c <;> rfl)
theorem ev_chainP {r r' : R2} {f : α → β → Bool} {g : β → γ → Bool} {a : α} {b : β} {c : γ} (o : Op2 ta tb tBool r fun a b => .ok (f a b)) (o' : Op2 tb tc tBool r' fun a b => .ok (g a b)) (h1 : Ev ta te1 W σ F H (.ok a)) (h2 : Ev tb te2 W σ F H (.ok b)) (h3 : Ev tc te3 W σ F H (.ok c)) :
    Ev tBool (tChain r r' te1 te2 te3) W σ F H (.ok (f a b && g b c)) := ev_is (ev_chain o (fun _ _ => calm_ok) o' (fun _ _ => calm_ok) h1 h2 h3) (by
  show (if f a b = true then R.ok (g b c) else R.ok false) = R.ok (f a b && g b c)
  cases f a b <;> rfl)
theorem ev_mulC {c : Int} (hc : -(2 ^ 64) < c ∧ c < 2 ^ 64) {m1 : R Int} (h1 : Ev tInt te1 W σ F H m1) (h2 : Ev tInt te2 W σ F H (.ok c)) : Ev tInt (tOp (rI CMul fun i j => .int (i * j)) te1 te2) W σ F H (bd m1 fun a => .ok (a * c)) := ev_is (ev_mul h1 h2) (by
  cases m1 with
  | stuck => rfl
  | err e => rfl
  | ok a => exact if_pos (Or.inr hc))
theorem ev_mulD {c : Int} (hc : -(2 ^ 64) < c ∧ c < 2 ^ 64) {m2 : R Int} (h1 : Ev tInt te1 W σ F H (.ok c)) (h2 : Ev tInt te2 W σ F H m2) : Ev tInt (tOp (rI CMul fun i j => .int (i * j)) te1 te2) W σ F H (bd m2 fun b => .ok (c * b)) := ev_is (ev_mul h1 h2) (by
  cases m2 with
  | stuck => rfl
  | err e => rfl
  | ok a => exact if_pos (Or.inl hc))
theorem ev_divC {c : Int} (hc : 0 < c ∧ c < 1073741824) {m1 : R Int} (h1 : Ev tInt te1 W σ F H m1) (h2 : Ev tInt te2 W σ F H (.ok c)) : Ev tInt (tOp (rI CDiv fun i j => .int (i / j)) te1 te2) W σ F H (bd m1 fun a => .ok (a / c)) := ev_is (ev_div h1 h2) (by
  cases m1 with
  | stuck => rfl
  | err e => rfl
  | ok a => exact if_pos hc)
theorem ev_modC {c : Int} (hc : 0 < c) {m1 : R Int} (h1 : Ev tInt te1 W σ F H m1) (h2 : Ev tInt te2 W σ F H (.ok c)) : Ev tInt (tOp (rI (fun _ j => 0 < j) fun i j => .int (i % j)) te1 te2) W σ F H (bd m1 fun a => .ok (a % c)) := ev_is (ev_mod h1 h2) (by
  cases m1 with
  | stuck => rfl
  | err e => rfl
  | ok a => exact if_pos hc)
theorem ev_powC {a b c : Int} (hc : CPow a b) (e : a ^ b.toNat = c) (h1 : Ev tInt te1 W σ F H (.ok a)) (h2 : Ev tInt te2 W σ F H (.ok b)) : Ev tInt (tOp (rI CPow fun i j => .int (i ^ j.toNat)) te1 te2) W σ F H (.ok c) := ev_is (ev_pow h1 h2) (by
  show powR a b = _
  unfold powR
  rw [if_pos hc, e])
theorem s_aug {D : Ends} {γ : Type} {KK : γ → Prop} {XX : Exn → Prop} {i : Nat} {g : Int → Int → Int} {a : Int} {m : R Int} {f : Int → R γ} (hX : ∀ e, XX e → ∀ σ F' H', Fr F0 H0 F' H' → W e σ H') (fr : Fr F0 H0 F H) (hv : σ[i]? = some (some v)) (hr : tInt.rep F v a) (he : Ev tInt te W σ F H m) (hp : Post (bd (bd m fun b => .ok (g a b)) f) KK XX)
    (k : ∀ b v F' H', Fr F H F' H' → Fr F0 H0 F' H' → tInt.rep F' v (g a b) → Post (f (g a b)) KK XX → D.nx (σ.set i (some v)) H') : tAug i te (ipI g) D σ H :=
  ⟨v, hv, he F H (Fr.refl fr.s) _ (post_imp (post_bd (by rw [bd_assoc] at hp; exact hp)) (fun b e q w F' H' f' r => ⟨a, b, hr, r, k b _ F' H' f' (fr.trans f') rfl q⟩) fun e _ z F' H' f' => hX e z _ _ _ (fr.trans f'))⟩
/-! ### parts of lists -/
def cutG {α : Type} (xs : List α) (lo hi : Option Int) : List α := (xs.drop (HT.sIx xs.length 0 lo)).take (HT.sIx xs.length xs.length hi - HT.sIx xs.length 0 lo)
theorem paired_drop {P : V → α → Prop} : ∀ {vs : List V} {as : List α} (n : Nat), Paired P vs as → Paired P (vs.drop n) (as.drop n)
  | _, _, 0, r => r
  | _, _, _ + 1, .nil => .nil
  | _, _, n + 1, .cons _ t => paired_drop n t
theorem paired_take {P : V → α → Prop} : ∀ {vs : List V} {as : List α} (n : Nat), Paired P vs as → Paired P (vs.take n) (as.take n)
  | _, _, 0, _ => .nil
  | _, _, _ + 1, .nil => .nil
  | _, _, n + 1, .cons r t => .cons r (paired_take n t)
theorem paired_cut {P : V → α → Prop} {vs : List V} {as : List α} {lo hi : Option Int} (r : Paired P vs as) : Paired P (cutV vs lo hi) (cutG as lo hi) := by
  unfold cutV cutG
  rw [r.length]
  exact paired_take _ (paired_drop _ r)
def EvO (to : TO) (W : WS) (σ : L2.St) (F H : Hp) (m : R (Option Int)) : Prop := ∀ F1 H1, Fr F H F1 H1 → ∀ Q : Option Int → Hp → Prop, Post m (fun o => ∀ F2 H2, Fr F1 H1 F2 H2 → Q o H2) (fun e => ∀ F2 H2, Fr F1 H1 F2 H2 → W e σ H2) → to σ H1 Q
theorem eo_none : EvO tNoPart W σ F H (.ok none) := fun F1 H1 f1 Q q => q F1 H1 (Fr.refl f1.s)
theorem eo_some {m : R Int} (h : Ev tInt te W σ F H m) : EvO (tPart te) W σ F H (bd m fun i => .ok (some i)) := fun F1 H1 f1 Q q =>
  h F1 H1 f1 _ (post_imp (post_bd q) (fun i _ k x F2 H2 f2 rx => ⟨i, rx, k F2 H2 f2⟩) fun e _ z => z)
theorem el_slice {tl th : TO} {m : R (List α)} {ml mh : R (Option Int)} (h : Ev (tList K ta) te W σ F H m) (hl : EvO tl W σ F H ml) (hh : EvO th W σ F H mh) : EvL ta (tSl (rSlL K) te tl th) W σ F H (bd m fun xs => bd ml fun lo => bd mh fun hi => .ok (cutG xs lo hi)) := fun F1 H1 f1 Q q => by
  refine h F1 H1 f1 _ (post_imp (post_bd q) (fun xs _ q1 x F2 H2 f2 ⟨p, vs, ev, hs, rv⟩ => ?_) fun e _ z => z)
  refine hl F2 H2 (f1.trans f2) _ (post_imp (post_bd q1) (fun lo _ q2 F3 H3 f3 => ?_) fun e _ z F4 H4 f4 => z F4 H4 (f2.trans f4))
  refine hh F3 H3 ((f1.trans f2).trans f3) _ (post_imp (post_bd q2) (fun hi _ q3 F4 H4 f4 => ?_) fun e _ z F4 H4 f4 => z F4 H4 ((f2.trans f3).trans f4))
  have ff := (f2.trans f3).trans f4
  refine ⟨p, vs, ev, sqL_mono ((f3.f.trans f4.f).trans f4.s) hs, fun l hl' => q3 l _ F4 _ (ff.trans (Fr.fresh f4.s hl')) (ff.h.free hl') (f4.s.free hl') upd_same (paired_cut (paired_mono (f3.f.trans f4.f) rv))⟩
/-- len(set(xs)), at most one text -/
def lenSet1 (xs : List Str) : R Int := if xs.length ≤ 1 then .ok (xs.length : Int) else .stuck
theorem calm_lenSet1 {xs : List Str} : Calm (lenSet1 xs) := calm_ite calm_ok calm_stuck
theorem ev_lenSet1 {m : R (List Str)} (h : Ev (tList K tStr) te W σ F H m) : Ev tInt (tLenSet K te) W σ F H (bd m lenSet1) := fun F1 H1 f1 Q q =>
  h F1 H1 f1 _ (post_imp (post_bd q) (fun xs _ k x F2 H2 f2 ⟨p, vs, ev, hs, rv⟩ => by
    unfold lenSet1 at k
    by_cases hc : xs.length ≤ 1
    · rw [if_pos hc] at k
      exact ⟨p, xs, ev, .inl (by rw [← paired_strs rv]; exact sqL_mono f2.s hs), hc, k _ F2 H2 f2 rfl⟩
    · rw [if_neg hc] at k
      exact k.elim) fun e _ z => z)
/-! ### xs + ys -/
theorem paired_append {P : V → α → Prop} : ∀ {vs ws : List V} {as bs : List α}, Paired P vs as → Paired P ws bs → Paired P (vs ++ ws) (as ++ bs)
  | _, _, _, _, .nil, r => r
  | _, _, _, _, .cons h t, r => .cons h (paired_append t r)
theorem el_cat {m1 m2 : R (List α)} (h1 : Ev (yList ta) te1 W σ F H m1) (h2 : Ev (yList ta) te2 W σ F H m2) : EvL ta (tOp rCat te1 te2) W σ F H (bd m1 fun a => bd m2 fun b => catR a b) := fun F1 H1 f1 Q q => by
  refine h1 F1 H1 f1 _ (post_imp (post_bd q) (fun xs _ q1 x F2 H2 f2 ⟨p, vs, ev, hs, rv⟩ => ?_) fun e _ z => z)
  refine h2 F2 H2 (f1.trans f2) _ (post_imp (post_bd q1) (fun ys _ k y F3 H3 f3 ⟨r, ws, ew, hr, rw_⟩ => ?_) fun e _ z F4 H4 f4 => z F4 H4 (f2.trans f4))
  unfold catR at k
  by_cases hc : xs.length + ys.length ≤ 100000
  · rw [if_pos hc] at k
    have ff := f2.trans f3
    exact ⟨p, r, vs, ws, ev, ew, f3.s _ _ (f3.f _ _ hs), f3.s _ _ hr, small_line (by rw [rv.length, rw_.length]; exact hc), fun l hl => k l _ F3 _ (ff.trans (Fr.fresh f3.s hl)) (ff.h.free hl) (f3.s.free hl) upd_same (paired_append (paired_mono f3.f rv) rw_)⟩
  · rw [if_neg hc] at k
    exact k.elim
/-- where the state ends, nothing follows -/
theorem s_ret0 {m : R γ} {tg : Ty γ} {D : Ends} {KK : γ → Prop} {XX : Exn → Prop} (hX : ∀ e, XX e → ∀ σ F' H', Fr F0 H0 F' H' → W e σ H') (fr : Fr F0 H0 F H) (he : Ev tg te W σ F H m) (hp : Post m KK XX)
    (k : ∀ a v F' H', Fr F0 H0 F' H' → tg.rep F' v a → Post (.ok a) KK XX → D.rt v H') : tRet te D σ H :=
  he F H (Fr.refl fr.s) _ (post_imp hp (fun a e q v F' H' f' r => k a v F' H' (fr.trans f') r q) fun e _ z F' H' f' => hX e z _ _ _ (fr.trans f'))
theorem s_retL0 {m : R (List α)} {D : Ends} {KK : List α → Prop} {XX : Exn → Prop} (hX : ∀ e, XX e → ∀ σ F' H', Fr F0 H0 F' H' → W e σ H') (fr : Fr F0 H0 F H) (he : EvL ta te W σ F H m) (hp : Post m KK XX)
    (k : ∀ a v F' H', Fr F0 H0 F' H' → Own ta H0 F' H' v a → Post (.ok a) KK XX → D.rt v H') : tRet te D σ H :=
  he F H (Fr.refl fr.s) _ (post_imp hp (fun a e q p vs F' H' f' h1 hf h2 r => k a _ F' H' (fr.trans f') ⟨p, vs, rfl, fr.h.free h1, hf, h2, r⟩ q) fun e _ z F' H' f' => hX e z _ _ _ (fr.trans f'))
/-! ### an instance in the making -/
def Mkg (K : PySem.W.Frag) (x : Str) (H0 F H : Hp) (v : V) (names : List Str) (vs : List V) : Prop := ∃ p dx, v = .ref p ∧ H0 p = none ∧ F p = none ∧ H p = some (.ins (He.ga K x) dx (names.zip vs)) ∧ names.length = vs.length
theorem Mkg.mono {x : Str} {names : List Str} {vs : List V} (f : Fr F H F' H') (o : Mkg K x H0 F H v names vs) : Mkg K x H0 F' H' v names vs := by
  obtain ⟨p, dx, ev, h0, hf, hh, hl⟩ := o
  exact ⟨p, dx, ev, h0, f.n p hf (some_ne hh), f.h p _ hh, hl⟩
theorem putF_new {f : Str} {w : V} : ∀ {names : List Str} {vs : List V}, names.contains f = false → names.length = vs.length → putF f w (names.zip vs) = (names ++ [f]).zip (vs ++ [w])
  | [], [], _, _ => rfl
  | [], _ :: _, _, h => by cases h
  | _ :: _, [], _, h => by cases h
  | n :: ns, u :: us, h, hl => by
    have h2 : (f == n || ns.contains f) = false := by simpa [List.contains_cons] using h
    obtain ⟨h3, h4⟩ := Bool.or_eq_false_iff.mp h2
    have h5 : ¬ n = f := fun z => by
      rw [z] at h3
      simp at h3
    show (if n = f then (n, w) :: ns.zip us else (n, u) :: putF f w (ns.zip us)) = _
    rw [if_neg h5, putF_new h4 (by simpa using hl)]
    rfl
/-- self.f = e -/
theorem s_fldI {D : Ends} {γ : Type} {KK : γ → Prop} {XX : Exn → Prop} {i : Nat} {x f : Str} {names : List Str} {vs : List V} {m : R α} {g : α → R γ} (hX : ∀ e, XX e → ∀ σ F' H', Fr F0 H0 F' H' → W e σ H') (fr : Fr F0 H0 F H) (hv : σ[i]? = some (some v)) (o : Mkg K x H0 F H v names vs)
    (c : Cls K (He.ga K x)) (na : NoAttr K (He.ga K x) f) (hn : names.contains f = false) (hl : names.length < 1000) (he : Ev ta te W σ F H m) (hp : Post (bd m g) KK XX)
    (k : ∀ a w F' H', Same F F' → Fr F0 H0 F' H' → ta.rep F' w a → Mkg K x H0 F' H' v (names ++ [f]) (vs ++ [w]) → Post (g a) KK XX → D.nx σ H') : sFld K (tVar i) te f D σ H := by
  obtain ⟨p, dx, ev, h0, hf, hh, hlen⟩ := o
  subst ev
  refine he F H (Fr.refl fr.s) _ (post_imp (post_bd hp) (fun a e q w F1 H1 f1 r => ⟨_, hv, p, _, dx, _, rfl, f1.h p _ hh, c, na, ?_, ?_⟩) fun e _ z F' H' f' => hX e z _ _ _ (fr.trans f'))
  · rw [List.length_zip]
    omega
  · have hf1 := f1.n p hf (some_ne hh)
    refine k a w F1 _ f1.f ((fr.trans f1).mut h0 hf1) r ⟨p, dx, rfl, h0, hf1, ?_, by rw [List.length_append, List.length_append, hlen] <;> rfl⟩ q
    rw [putF_new hn hlen]
    exact upd_same
/-- the promise of an __init__ that sets its fields once -/
def SpI (K : PySem.W.Frag) (x : Str) (names : List Str) (u : TyA α) (t : TyA β) (m : α → R β) : Sp := fun vs H Q E => ∃ F Hb a v ws, vs = v :: ws ∧ Fr F Hb F H ∧ Same F Hb ∧ Mkg K x Hb F H v [] [] ∧ u.rep F ws a ∧
  Post (m a) (fun b => ∀ us F' H', Fr F Hb F' H' → Mkg K x Hb F' H' v names us → t.rep F' us b → Q .non H') (fun e => ∀ F' H', Fr F Hb F' H' → XS K E e H')
theorem spI_len {x : Str} {names : List Str} {u : TyA α} {t : TyA β} {m : α → R β} : ∀ vs H Q E, SpI K x names u t m vs H Q E → vs.length = u.len + 1 := fun vs H Q E ⟨F, Hb, a, v, ws, e, _, _, _, r, _⟩ => by rw [e, List.length_cons, u.hlen r]
theorem ev_make {x : Str} {names : List Str} {u : TyA α} {t : TyA β} {g : α → R β} {m : R α} {tx : TA} {E : XK} (hw : ∀ e H, W e σ H → XS K E e H) (h : EvA u tx W σ F H m) : Ev (tObj K x names t) (tMake (He.ga K x) (SpI K x names u t g) [] E tx) W σ F H (bd m g) := fun F1 H1 f1 Q q =>
  h F1 H1 f1 _ (post_imp (post_bd q) (fun a _ k vs F2 H2 f2 rv p dx hp hd hne => by
    have fa : Fr F2 H2 F2 (upd (upd H2 dx (.own p)) p (.ins (He.ga K x) dx [])) := by
      have a1 := Fr.fresh (o := .own p) f2.s hd
      refine a1.trans (Fr.fresh a1.s ?_)
      rw [upd_ne (Ne.symm hne)]
      exact hp
    refine ⟨F2, H2, a, .ref p, vs, by rw [List.append_nil], fa, f2.s, ⟨p, dx, rfl, hp, f2.s.free hp, upd_same, rfl⟩, rv, post_imp k (fun b _ k2 us F3 H3 f3 mk r => ⟨rfl, ?_⟩) fun e _ z F3 H3 f3 => ?_⟩
    · obtain ⟨p', dx', ev, h0, hf, hh, hl⟩ := mk
      cases ev
      exact k2 _ _ _ ((f2.trans f3).freeze (f2.h.free h0) hh hf) ⟨p, dx', us, rfl, upd_same, t.mono (same_upd hf) r⟩
    · exact hw _ _ (z F3 H3 (f2.trans f3))) fun e _ z => z)
/-! ### the module's classes as makers -/
structure MakX (P : Program) (w : World) (K : PySem.W.Frag) (mg : Str → Option Value) (base : Heap) (k : Nat) (x : Str) (sp : Sp) : Prop where
  ex : ∃ (f : Addr) (fd : FuncData) (ps : List Str), Mk K (He.ga K x) f ∧ FnOk P w K mg base (L2.CX P w) k f fd ps sp ∧ mg x = some (.ref (He.ga K x)) ∧ Binds K fd ps []
end
section
variable {X : Cx} {j k : Nat} {x : Str} {sp : Sp} {E : XK} {p pos : Pos} {e : Expr} {es : List Expr} {t : TA}
theorem pe_kx (c : MakX X.prog X.w X.K X.mg X.base k x sp) (hr : Room j X.A) (hk : k + 1 ≤ j) (hx : Passes (L2.CX X.prog X.w) X E) (ha : PA X (e :: es) t) (hg : Gl X x := by rfl) (hdb : (x == ("__debug__" : Str)) = false := by decide)
    (he : starEach (e :: es) X.env = (false, eval e X.env) :: starEach es X.env := by rfl) (hpl : (backTo pos (starEach es X.env)).any (·.1) = false := by rfl) : PE X (.Call (.Name x p) (e :: es) [] pos) (tMake (He.ga X.K x) sp [] E t) := by
  obtain ⟨f, fd, ps, M, F, hm, hb⟩ := c.ex
  exact pe_make M F (hr.mono hk) hg hm hb .nil hx ha hdb he hpl
end
end TL
/-! ## TL7: joins, texts, members -/
namespace TL
open PySem PySem.Spec PyProof.Rows L2
section
variable {K : PySem.W.Frag} {W : WS} {σ : L2.St} {F H F' H' F0 H0 : Hp} {α β γ δ ρ S : Type} {ta : Ty α} {tb : Ty β} {tc : Ty γ} {te te1 te2 te3 : TE} {tt tt1 tt2 : TT} {v : V} {D : Ends} {KK : γ → Prop} {XX : Exn → Prop}
theorem st_go {P B C : L2.St → Hp → Prop} {A : VK} (h : P σ H) : (Ends.mk P A B C).nx σ H := h
theorem st_gn {i : Nat} {Q : L2.St → Hp → Prop} (h : Q (σ.set i (some v)) H) : gName i v σ H Q := h
theorem et_yes : EvT tYes W σ F H (.ok true) := fun F1 H1 f1 Q q => q F1 H1 (Fr.refl f1.s)
theorem s_join {m : R Bool} {A B : R S} {rest : S → R γ} {t1 t2 : TS} (St : S → L2.St → Hp → Hp → Prop) (hX : ∀ e, XX e → ∀ σ F' H', Fr F0 H0 F' H' → W e σ H') (fr : Fr F0 H0 F H) (he : EvT tt W σ F H m) (hp : Post (bd (bd m fun c => if c = true then A else B) rest) KK XX)
    (k1 : ∀ (D' : Ends) (K' : S → Prop) F' H', D'.rt = D.rt → D'.bk = D.bk → D'.ct = D.ct → Fr F H F' H' → Fr F0 H0 F' H' → Post A K' XX → (∀ s σ2 F2 H2, Same F' F2 → St s σ2 F2 H2 → K' s → D'.nx σ2 H2) → t1 D' σ H')
    (k2 : ∀ (D' : Ends) (K' : S → Prop) F' H', D'.rt = D.rt → D'.bk = D.bk → D'.ct = D.ct → Fr F H F' H' → Fr F0 H0 F' H' → Post B K' XX → (∀ s σ2 F2 H2, Same F' F2 → St s σ2 F2 H2 → K' s → D'.nx σ2 H2) → t2 D' σ H')
    (k3 : ∀ s σ2 F2 H2, Same F F2 → St s σ2 F2 H2 → Post (rest s) KK XX → D.nx σ2 H2) : tIfS tt t1 t2 D σ H := by
  rw [bd_assoc] at hp
  refine he F H (Fr.refl fr.s) _ (post_imp (post_bd hp) (fun c e q F' H' f' => ?_) fun e _ z F' H' f' => hX e z _ _ _ (fr.trans f'))
  cases c with
  | true => exact k1 D (fun s => Post (rest s) KK XX) F' H' rfl rfl rfl f' (fr.trans f') (post_bd q) fun s σ2 F2 H2 sm st k => k3 s σ2 F2 H2 (f'.f.trans sm) st k
  | false => exact k2 D (fun s => Post (rest s) KK XX) F' H' rfl rfl rfl f' (fr.trans f') (post_bd q) fun s σ2 F2 H2 sm st k => k3 s σ2 F2 H2 (f'.f.trans sm) st k
def enumG (xs : List α) : List (Int × α) := xs.zipIdx.map fun p => ((p.2 : Int), p.1)
def bI (b : Bool) : Int := if b then 1 else 0
theorem ev_lenT {u : TyA α} {n : Nat} (hn : u.len = n) {m : R α} (h : Ev (yTup K u) te W σ F H m) : Ev tInt (tCB (rLen K) (tCons te tNil)) W σ F H (bd m fun _ => .ok (n : Int)) :=
  ev_cb1 (ta := yTup K u) (fun F H s x a ⟨p, vs, ex, hs, rv⟩ Q q => ⟨_, vs.length, rfl, by rw [ex]; exact .inr ⟨vs, .inl (.inl (s _ _ hs)), rfl⟩, q _ F H (Fr.refl s) (by show V.int _ = V.int _; rw [u.hlen rv, hn])⟩) (fun _ => calm_ok) h
theorem ev_intB {m : R Bool} (h : Ev tBool te W σ F H m) : Ev tInt (tCB (fun xs H Q => (∃ i, xs = [.int i] ∧ Q (.int i) H) ∨ ∃ k, xs = [.bl k] ∧ Q (.int (if k then 1 else 0)) H) (tCons te tNil)) W σ F H (bd m fun b => .ok (bI b)) :=
  ev_cb1 (fun F H s x a r Q q => .inr ⟨a, by rw [show x = .bl a from r], q _ F H (Fr.refl s) rfl⟩) (fun _ => calm_ok) h
/-! ### one sign in a text -/
def inSR (x z : Str) : R Bool := match x.cps.toList with
  | [c] => .ok (decide (c ∈ z.cps.toList))
  | _ => .stuck
def notInSR (x z : Str) : R Bool := match x.cps.toList with
  | [c] => .ok (!decide (c ∈ z.cps.toList))
  | _ => .stuck
theorem calm_inSR {x z : Str} : Calm (inSR x z) := by
  unfold inSR
  split
  · exact calm_ok
  · exact calm_stuck
theorem calm_notInSR {x z : Str} : Calm (notInSR x z) := by
  unfold notInSR
  split
  · exact calm_ok
  · exact calm_stuck
theorem one_sign {x : Str} {c : Nat} (h : x.cps.toList = [c]) : x = ⟨#[c]⟩ := by
  obtain ⟨a⟩ := x
  have e : a = #[c] := by
    have h : a.toList = [c] := h
    rw [← h]
  rw [e]
theorem ev_inS {m1 m2 : R Str} (h1 : Ev tStr te1 W σ F H m1) (h2 : Ev tStr te2 W σ F H m2) : Ev tBool (tOp rInS te1 te2) W σ F H (bd m1 fun a => bd m2 fun b => inSR a b) :=
  ev_op (op2_pure fun F H s x y a b ra rb Q q => by
    unfold inSR at q
    split at q
    · rename_i c hc
      exact ⟨c, b, by rw [show x = .str a from ra, one_sign hc], rb, q _ rfl⟩
    · exact q.elim) (fun _ _ => calm_inSR) h1 h2
theorem ev_notInS {m1 m2 : R Str} (h1 : Ev tStr te1 W σ F H m1) (h2 : Ev tStr te2 W σ F H m2) : Ev tBool (tOp rNotInS te1 te2) W σ F H (bd m1 fun a => bd m2 fun b => notInSR a b) :=
  ev_op (op2_pure fun F H s x y a b ra rb Q q => by
    unfold notInSR at q
    split at q
    · rename_i c hc
      exact ⟨c, b, by rw [show x = .str a from ra, one_sign hc], rb, q _ rfl⟩
    · exact q.elim) (fun _ _ => calm_notInSR) h1 h2
end
section
variable {X : Cx} {e : Expr} {te : TE} {p kp q pos : Pos} {j : Nat}
theorem pe_minD (hc : X.calm = true) (hm : X.mg "min" = none) (he : PE X e te) (hg : Gl X "min" := by rfl) (h0 : starEach [e] X.env = (false, eval e X.env) :: starEach [] X.env := by rfl)
    (h1 : backTo pos (starEach [e] X.env) = (false, eval e X.env) :: backTo pos (starEach [] X.env) := by rfl) (h2 : (backTo pos (starEach [e] X.env)).any (·.1) = false := by rfl) :
    PE X (.Call (.Name "min" p) [e] [⟨some (Str.ofString "default"), .Constant .none j q, kp⟩] pos) (tCKw (TLm.rMinD X.K) (tCons te tNil) (tCons (tC .non) tNil)) :=
  pe_callBK (TLm.cr_minD hc) hg hm bt_min (pa_cons he pa_nil h0) (pk_cons pe_non pk_nil) (by decide) (by decide) h1 h2 (by rfl) (by rfl) (by rfl)
end
end TL
/-! ## TL8: rules with the written part K said (within comprehensions the context's own K is no name) -/
namespace TL
open PySem PySem.Spec PyProof.Rows L2
section
variable {X : Cx} {K : PySem.W.Frag}
theorem kx_list (h : X.K = K) : IxR X (rIxL K) := h ▸ ix_list
theorem kx_tup (h : X.K = K) : IxR X (rIxT K) := h ▸ ix_tup
theorem ks_list (h : X.K = K) : SlR X (rSlL K) := h ▸ sl_list
theorem ko_eqD (h : X.K = K) (hu : X.A.units + 64 < cLine) : OpR X (compareOp .Eq) (rEqD K) := h ▸ op_eqD hu
theorem ko_neD (h : X.K = K) (hu : X.A.units + 64 < cLine) : OpR X (compareOp .NotEq) (rNeD K) := h ▸ op_neD hu
theorem ko_in (h : X.K = K) : OpR X (compareOp .In) (rIn K false) := h ▸ op_in_seq
theorem ko_notIn (h : X.K = K) : OpR X (compareOp .NotIn) (rIn K true) := h ▸ op_notIn_seq
theorem kc_isi (h : X.K = K) : CallR X (.builtin "isinstance") (rIsi K) := h ▸ call_isi
theorem kc_len (h : X.K = K) : CallR X (.builtin "len") (rLen K) := h ▸ call_len
theorem kc_all (h : X.K = K) (hc : X.calm = true) : CallR X (.builtin "all") (rAll K) := h ▸ cr_all hc
theorem kc_any (h : X.K = K) (hc : X.calm = true) : CallR X (.builtin "any") (rAny K) := h ▸ cr_any hc
theorem kc_sum (h : X.K = K) (hc : X.calm = true) : CallR X (.builtin "sum") (rSum K) := h ▸ cr_sum hc
theorem kc_min (h : X.K = K) (hc : X.calm = true) : CallR X (.builtin "min") (rMin K) := h ▸ cr_min hc
theorem kc_list (h : X.K = K) : CallR X (.type "list") (rListS K) := h ▸ call_list_of
theorem kc_tuple (h : X.K = K) : CallR X (.type "tuple") (rTupS K) := h ▸ call_tuple_of
end
section
variable {X : Cx} {K : PySem.W.Frag} {e : Expr} {te : TE} {f : Str} {p q kp pos : Pos} {j : Nat}
theorem pe_fldK (h : X.K = K) (he : PE X e te) (hb : attributeBase e f X.env (eval e X.env) = eval e X.env := by rfl) : PE X (.Attribute e f pos) (tFld K te f) := by
  subst h
  exact pe_fld he hb
theorem pe_minDK (h : X.K = K) (hc : X.calm = true) (hm : X.mg "min" = none) (he : PE X e te) (hg : Gl X "min" := by rfl) (h0 : starEach [e] X.env = (false, eval e X.env) :: starEach [] X.env := by rfl)
    (h1 : backTo pos (starEach [e] X.env) = (false, eval e X.env) :: backTo pos (starEach [] X.env) := by rfl) (h2 : (backTo pos (starEach [e] X.env)).any (·.1) = false := by rfl) :
    PE X (.Call (.Name "min" p) [e] [⟨some (Str.ofString "default"), .Constant .none j q, kp⟩] pos) (tCKw (TLm.rMinD K) (tCons te tNil) (tCons (tC .non) tNil)) := by
  subst h
  exact pe_minD hc hm he hg h0 h1 h2
theorem pi_listK {tg : Expr} (h : X.K = K) (he : PE X e te) : PI X tg e (iList K te) := by
  subst h
  exact pi_list he
theorem pi_tupK {tg : Expr} (h : X.K = K) (he : PE X e te) : PI X tg e (iTup K te) := by
  subst h
  exact pi_tup he
theorem pg_tupK {es : List Expr} {k n : Nat} {t : TGs} (h : X.K = K) (hc : X.calm = true) (ht : PGs X es t) (hn : (assignEach es X.env).length = n := by rfl) (hst : (assignEach es X.env).findIdx? (·.1) = none := by rfl) : PG X (.Tuple es k pos) (gTup K n t) := by
  subst h
  exact pg_tup hc ht hn hst
theorem pe_lenSetK {a : Expr} {ta : TE} {p2 : Pos} (h : X.K = K) (hc : X.calm = true) (hm : X.mg "len" = none) (hm2 : X.mg "set" = none) (ha : PE X a ta) (hg : Gl X "len" := by rfl) (hg2 : Gl X "set" := by rfl)
    (na : starEach [a] X.env = (false, eval a X.env) :: starEach [] X.env := by rfl) : PE X (.Call (.Name "len" p) [.Call (.Name "set" p2) [a] [] q] [] pos) (tLenSet K ta) := by
  subst h
  exact pe_lenSet hc hg hm hg2 hm2 ha na
theorem pi_zipK {e2 : Expr} {ta : TA} {tpos : Pos} {elts : List Expr} {kk : Nat} (h : X.K = K) (hm : X.mg "zip" = none) (ha : PA X [e, e2] ta) (hg : Gl X "zip" := by rfl)
    (hs : starEach [e, e2] X.env = (false, eval e X.env) :: starEach [e2] X.env := by rfl) (hpl : (backTo pos (starEach [e2] X.env)).any (·.1) = false := by rfl) : PI X (.Tuple elts kk tpos) (.Call (.Name "zip" p) [e, e2] [] pos) (iZip K ta) := by
  subst h
  exact pi_zip hg hm ha hs hpl
theorem pi_enumK {ta : TA} {tpos : Pos} {elts : List Expr} {kk : Nat} (h : X.K = K) (hm : X.mg "enumerate" = none) (ha : PA X [e] ta) (hg : Gl X "enumerate" := by rfl) (hs : starEach [e] X.env = [(false, eval e X.env)] := by rfl) :
    PI X (.Tuple elts kk tpos) (.Call (.Name "enumerate" p) [e] [] pos) (iEnum K ta) := by
  subst h
  exact pi_enum hg hm ha hs
end
section
variable {X : Cx} {K : PySem.W.Frag} {j k : Nat} {C m x : Str} {sp : Sp} {E : XK} {o e : Expr} {es : List Expr} {apos p pos : Pos} {ta : TE} {t : TA}
theorem pe_mxK {pl : Sem Bool} (h : X.K = K) (he : PE X o ta) (c : MetX X.prog X.w K X.mg X.base k C m sp) (hr : Room j X.A) (hk : k ≤ j) (hx : Passes (L2.CX X.prog X.w) X E) (ha : PA X (e :: es) t)
    (hst : starEach (e :: es) X.env = (false, eval e X.env) :: starEach es X.env := by rfl) (hpl : (backTo pos (starEach es X.env)).any (·.1) = false := by rfl)
    (ht : eval (.Call (.Attribute o m apos) (e :: es) [] pos) X.env = (do
      let ov ← eval o X.env
      standAt apos.atName
      let (f, first) ← holding [ov] (getMethod ov m pl)
      callWith pos f first (backTo pos (starEach (e :: es) X.env)) (backToKw pos (keywordEach [] X.env))) := by rfl) :
    PE X (.Call (.Attribute o m apos) (e :: es) [] pos) (tMeth (He.ga K C) m sp [] E ta t) := by
  subst h
  exact pe_mx he c hr hk hx ha hst hpl ht
theorem pe_mx0K {pl : Sem Bool} (h : X.K = K) (he : PE X o ta) (c : MetX X.prog X.w K X.mg X.base k C m sp) (hr : Room j X.A) (hk : k ≤ j) (hx : Passes (L2.CX X.prog X.w) X E)
    (ht : eval (.Call (.Attribute o m apos) [] [] pos) X.env = (do
      let ov ← eval o X.env
      standAt apos.atName
      let (f, first) ← holding [ov] (getMethod ov m pl)
      callWith pos f first (backTo pos (starEach [] X.env)) (backToKw pos (keywordEach [] X.env))) := by rfl) :
    PE X (.Call (.Attribute o m apos) [] [] pos) (tMeth (He.ga K C) m sp [] E ta tNil) := by
  subst h
  exact pe_mx0 he c hr hk hx ht
theorem pe_kxK (h : X.K = K) (c : MakX X.prog X.w K X.mg X.base k x sp) (hr : Room j X.A) (hk : k + 1 ≤ j) (hx : Passes (L2.CX X.prog X.w) X E) (ha : PA X (e :: es) t) (hg : Gl X x := by rfl) (hdb : (x == ("__debug__" : Str)) = false := by decide)
    (he : starEach (e :: es) X.env = (false, eval e X.env) :: starEach es X.env := by rfl) (hpl : (backTo pos (starEach es X.env)).any (·.1) = false := by rfl) : PE X (.Call (.Name x p) (e :: es) [] pos) (tMake (He.ga K x) sp [] E t) := by
  subst h
  exact pe_kx c hr hk hx ha hg hdb he hpl
theorem pe_cxK (h : X.K = K) (c : CalX X.prog X.w K X.mg X.base k x sp) (hr : Room j X.A) (hk : k ≤ j) (hx : Passes (L2.CX X.prog X.w) X E) (ha : PA X (e :: es) t) (hg : Gl X x := by rfl) (hdb : (x == ("__debug__" : Str)) = false := by decide)
    (he : starEach (e :: es) X.env = (false, eval e X.env) :: starEach es X.env := by rfl) (hpl : (backTo pos (starEach es X.env)).any (·.1) = false := by rfl) : PE X (.Call (.Name x p) (e :: es) [] pos) (tCall sp [] E t) := by
  subst h
  exact pe_cx c hr hk hx ha hg hdb he hpl
theorem st_nextS {t1 t2 : TS} {D : Ends} {σ : L2.St} {H : Hp} (h : t1 { D with nx := t2 D } σ H) : tNext { D with nx := tSeq t1 t2 D } σ H := h
end
end TL
/-! ## TL9: the law's own def, the ending -/
namespace TL
open PySem PySem.Spec PyProof.Rows L2
/-- the law's def, over every base -/
structure LawX (P : Program) (w : World) (K : PySem.W.Frag) (mg : Str → Option Value) (k : Nat) (x y : Str) (sp : Sp) : Prop where
  ex : ∃ (f : Addr) (fd : FuncData), (∀ base : Heap, FnOk P w K mg base (L2.CX P w) k f fd [y] sp) ∧ mg x = some (.ref f) ∧ ∀ (s : Shared) (u : Value), BindsTo s fd ⟨[u], []⟩ [(y, u)]
section
variable {K : PySem.W.Frag} {x qual y : Str} {params : Arguments} {body : List Stmt} {scope : Scope} {kws : List (Str × V)} {f : Addr} {fd : FuncData}
theorem lawBinds (F : FunD K x qual params body scope [] kws f fd)
    (h : ∀ (kV doc pm : Value) (an : Option Addr) (cdv ct u : Value), bindArgs (PySem.W.fnOf x qual params body scope .none kV doc pm an cdv ct) ⟨[u], []⟩ = pure [(y, u)]) (s : Shared) (u : Value) : BindsTo s fd ⟨[u], []⟩ [(y, u)] := by
  obtain ⟨oc, od, dV, kV, doc, pm, an, cdv, ct, osl, rfl, lk, hcd, hD, hK⟩ := F.ex
  rcases hD with ⟨_, rfl⟩ | ⟨e, _⟩
  · exact .of_eq (h kV doc pm an cdv ct u)
  · exact absurd rfl e
theorem paired_of_ints {F : Hp} : ∀ ns : List Int, Paired (tInt.rep F) (ns.map V.int) ns
  | [] => .nil
  | _ :: ns => .cons rfl (paired_of_ints ns)
/-- the end: the walk gives the promise, the plain law that the mirror answers True -/
theorem law_end {l : PySem.W.OpenLaw} {n k nn : Nat} {q : Program} {loose : List Str} {XP : (Str → Option Value) → Heap → Prop} {d : DefRec} {fa : List He.Fa} {fn : List He.DefD} {m : List Int → R Bool}
    (hn : l.most = some n) (hn2 : n ≤ sizeLine) (hdf : d.params.defaults = []) (hr : Room k callerA)
    (F : ∀ (w : World) (K : PySem.W.Frag) (mg : Str → Option Value) (h : Heap), K.In h → h.Ns mainGlobals mg → He.SaysD fa fn K → LawX l.prog w K mg k d.name y (SpF K (aOne (tList K tInt)) tBool m))
    (M : ∀ ns : List Int, ns.length ≤ n → m ns = .ok true) :
    PySem.W.WalkO q loose XP (He.hookD nn fa fn).says l.row.toRowW d [] (fun f vs => PySem.call f vs) := by
  refine Att.attach_call hn hdf fun w s₀ s₁ mg mb f o pm cd doc a vs ns G Y ho hd hcd hmg hobj hints hlen hg => ?_
  obtain ⟨K, KX, hs⟩ := Y
  obtain ⟨f2, fd, hF, hm2, hb⟩ := (F w K mg _ KX G.T.g hs).ex
  obtain rfl : f2 = f := by
    rw [hmg] at hm2
    injection hm2 with z
    injection z with z
    exact z.symm
  refine law_call (sp := SpF K (aOne (tList K tInt)) tBool m) KX G.T.g G.T.b G.T.builtins G.T.nolimit hg hobj hints (Nat.le_trans hlen hn2) hr (fun base _ _ => hF base) hb (fun H hO hS => ?_) fun H e s' z => ?_
  · refine ⟨H, ns, Same.refl H, ⟨_, rfl, a, ns.map V.int, rfl, hS, paired_of_ints ns⟩, ?_⟩
    rw [M ns hlen]
    exact fun v F' H' _ r => r
  · obtain ⟨_, _, _, _, _, _, _, _, _, _, _, _, z⟩ := z
    exact z
end
end TL
/-! ## TL10: more rules: range downwards, isinstance of what may be None -/
namespace TL
open PySem PySem.Spec PyProof.Rows L2
section
variable {K : PySem.W.Frag} {W : WS} {σ : L2.St} {F H F' H' F0 H0 : Hp} {α β γ δ ρ S : Type} {ta : Ty α} {tb : Ty β} {tc : Ty γ} {te te1 te2 te3 : TE} {v : V}
/-- range(a, b, -1) -/
def rangeDL (a b : Int) : List Int := (List.range (a - b).toNat).map fun (i : Nat) => a + (i : Int) * (-1)
theorem rangeDL_len {a b : Int} : (rangeDL a b).length = (a - b).toNat := by
  unfold rangeDL
  rw [List.length_map, List.length_range]
theorem rangeDL_get {a b x : Int} {i : Nat} (h : (rangeDL a b)[i]? = some x) : i < (a - b).toNat ∧ x = a + (i : Int) * (-1) := by
  unfold rangeDL at h
  rw [List.getElem?_map] at h
  by_cases hi : i < (a - b).toNat
  · rw [List.getElem?_range hi] at h
    exact ⟨hi, (Option.some.inj h).symm⟩
  · rw [List.getElem?_eq_none (by rw [List.length_range]; omega)] at h
    cases h
def rangeDR (a b : Int) : R (List Int) := if In62 a ∧ In62 b then .ok (rangeDL a b) else .stuck
theorem iter_rangeD {a b : Int} {Fe : Hp} : IterOk tInt (Itc a (-1) (a - b).toNat) Fe (rangeDL a b) := fun F3 H3 s3 s4 i => by
  refine ⟨fun h => ?_, fun x hx => ?_⟩
  · rw [rangeDL_len] at h
    exact h
  · obtain ⟨h1, h2⟩ := rangeDL_get hx
    refine ⟨h1, fun v H' ⟨e, hv⟩ => ?_⟩
    subst e
    exact ⟨F3, Fr.refl s4, by rw [h2]; exact hv⟩
theorem ei_rangeD {m1 m2 : R Int} (h1 : Ev tInt te1 W σ F H m1) (h2 : Ev tInt te2 W σ F H m2) (h3 : Ev tInt te3 W σ F H (.ok (-1))) : EvI tInt (iRng3 (tCons te1 (tCons te2 (tCons te3 tNil)))) W σ F H (bd m1 fun a => bd m2 fun b => rangeDR a b) := fun F1 H1 f1 Rr q => by
  refine h1 F1 H1 f1 _ (post_imp (post_bd q) (fun a _ q1 x F2 H2 f2 rx => ?_) fun e _ z => z)
  refine h2 F2 H2 (f1.trans f2) _ (post_imp (post_bd q1) (fun b _ k y F3 H3 f3 ry => ?_) fun e _ z F4 H4 f4 => z F4 H4 (f2.trans f4))
  refine h3 F3 H3 ((f1.trans f2).trans f3) _ ?_
  intro z F4 H4 f4 rz
  unfold rangeDR at k
  by_cases hc : In62 a ∧ In62 b
  · rw [if_pos hc] at k
    exact ⟨a, b, -1, _, by rw [show x = .int a from rx, show y = .int b from ry, show z = .int (-1) from rz], RgC.neg hc.1.1 hc.1.2 hc.2.1 hc.2.2, k _ F4 H4 ((f2.trans f3).trans f4) iter_rangeD⟩
  · rw [if_neg hc] at k
    exact k.elim
/-- isinstance of what may be None -/
theorem ev_isiO {T U : String} {b bn : Bool} (y : IsTy K ta T) (k : kitB T U = some b) (kn : kitB "NoneType" U = some bn) {m : R (Option α)} (h : Ev (tOpt ta) te W σ F H m) :
    Ev tBool (tCB (rIsi K) (tCons te (tCons (tC (.ty U)) tNil))) W σ F H (bd m fun o => .ok (if Option.isNone o = true then bn else b)) := fun F1 H1 f1 Q q =>
  h F1 H1 f1 _ (post_imp (post_bd q) (fun a _ k1 x F2 H2 f2 rx => by
    cases a with
    | none =>
      have rx : x = .non := rx
      subst rx
      exact ⟨.non, .ty U, _, _, bn, rfl, .ty U, .base .non, kit_ty kn, k1 _ F2 H2 f2 rfl⟩
    | some a => exact ⟨x, .ty U, _, _, b, rfl, .ty U, y F2 H2 x a f2.s rx.2, kit_ty k, k1 _ F2 H2 f2 rfl⟩) fun e _ z => z)
theorem ev_isiO1 {T U : String} {b : Bool} (y : IsTy K ta T) (k : kitB T U = some b) (kn : kitB "NoneType" U = some b) {m : R (Option α)} (h : Ev (tOpt ta) te W σ F H m) :
    Ev tBool (tCB (rIsi K) (tCons te (tCons (tC (.ty U)) tNil))) W σ F H (bd m fun _ => .ok b) := ev_is (ev_isiO y k kn h) (by
  cases m with
  | ok o => cases o <;> rfl
  | _ => rfl)
end
end TL
/-! ## TL11: repr; defs that ask it stand where no repr is under way -/
namespace TL
open PySem PySem.Spec PyProof.Rows L2
/-- room, and no repr is under way -/
structure RoomG (k : Nat) (A : Around) : Prop where
  rm : Room k A
  gd : A.guards = some []
theorem RoomG.deeper {k : Nat} {A : Around} (r : RoomG (k + 1) A) (env : Env) : RoomG k (A.deeper env) := ⟨r.rm.deeper env, r.gd⟩
theorem RoomG.mono {j k : Nat} {A : Around} (r : RoomG k A) (h : j ≤ k) : RoomG j A := ⟨r.rm.mono h, r.gd⟩
theorem RoomG.units {k : Nat} {A : Around} (r : RoomG k A) : A.units + 64 < cLine := r.rm.units
structure FnG (P : Program) (w : World) (K : PySem.W.Frag) (mg : Str → Option Value) (base : Heap) (XT : CXT) (k : Nat) (f : Addr) (fd : FuncData) (ps : List Str) (sp : Sp) : Prop where
  size : ∀ vs H Q E, sp vs H Q E → vs.length = ps.length
  go : ∀ (A : Around) (stk : List Env) (s : Shared) (H : Hp) (ar : Args) (us : List Value) (vs : List V) (Q : VK) (E : XK), RoomG k A → Env0 P w K mg base A stk s H → BindsTo s fd ar (ps.zip us) → Vals vs us → sp vs H Q E →
    codeAny (model P w) A (.call (.ref f) ar) (CR XT stk P w H s Q E) s
section
variable {P : Program} {w : World} {K : PySem.W.Frag} {mg : Str → Option Value} {base : Heap} {XT : CXT} {N ps : List Str} {k : Nat} {sp : Sp} {x qual : Str} {params : Arguments} {body : List Stmt} {scope : Scope} {dvs : List V} {kws : List (Str × V)} {f : Addr} {fd : FuncData}
theorem gFn (F : FunD K x qual params body scope dvs kws f fd) (S : FnScope N ps scope) (sz : ∀ vs H Q E, sp vs H Q E → vs.length = ps.length)
    (hb : ∀ (cdv : Value) (A : Around) (stk : List Env) (s : Shared) (H : Hp) (vs : List V) (Q : VK) (E : XK), RoomG k (A.deeper (envOfC qual scope s.heap.objs.size f cdv)) → sp vs H Q E →
      ∃ t, PSs (cxOf XT P w K mg base N qual scope f cdv A stk s H E) body t ∧ t { nx := fun _ H2 => Q .non H2, rt := Q } (start N vs) H) : FnG P w K mg base XT (k + 1) f fd ps sp := by
  obtain ⟨oc, od, dV, kV, doc, pm, an, cdv, ct, sl, rfl, at_, hcd, _, _⟩ := F.ex
  constructor
  · exact sz
  intro A stk s H ar us vs Q E room env bnd vals pr
  have len0 := sz vs H Q E pr
  have old : ∀ b o, base.get? b = some o → s.heap.get? b = some o := fun b o e => (env.bs b o e).1
  have inK : K.In s.heap := env.mod.kin.keeps old
  have kinds : ∀ y ∈ ps.zip us, scope.names.lookup y.1 = some .local ∨ (scope.names.lookup y.1 = some .cell ∧ ((cellsFrom (s.heap.objs.size + 1) scope.names []).lookup y.1).isSome = true) := by
    rintro ⟨y, u⟩ hy
    cases S.par y (List.of_mem_zip hy).1 with
    | inl q => exact Or.inl q
    | inr q => exact Or.inr ⟨q, PySem.W.cellsFrom_some _ _ _ (Or.inl q)⟩
  apply codeAny_call_function room.rm.depth (inK _ _ at_) rfl S.co S.gen rfl (PySem.W.codeRec_of inK hcd)
  refine bnd _ _ _ _ (wpAny_newFunctionEnv_cells S.kind kinds ?_)
  intro env2 e2 s1 call
  subst e2
  refine ⟨(env.mod.nolimit.keeps old).keeps call.toInCall.keep, codeAny_func ?_⟩
  obtain ⟨t, run, tq⟩ := hb cdv A stk s H vs Q E (room.deeper _) pr
  have inv := inv_start (CX := XT) (E := E) (f := f) (cd := cdv) (qual := qual) S room.rm.hd env len0 vals call
  apply wpAny_mono (run.run [] s1 (start N vs) H _ inv tq) _ fun _ _ z => z
  intro fl s2 post
  cases fl with
  | ret u =>
    obtain ⟨v, σ2, H2, J, rv, q⟩ := post
    exact ⟨v, H2, J.os, J.bare, J.base, J.hok, rv, q⟩
  | next =>
    obtain ⟨σ2, H2, J, q⟩ := post
    exact ⟨V.non, H2, J.os, J.bare, J.base, J.hok, rfl, q⟩
  | brk =>
    obtain ⟨_, _, _, q⟩ := post
    exact q.elim
  | cont =>
    obtain ⟨_, _, _, q⟩ := post
    exact q.elim
end
/-- a def that asks repr, as its callers see it -/
structure CalG (P : Program) (w : World) (K : PySem.W.Frag) (mg : Str → Option Value) (base : Heap) (k : Nat) (x : Str) (sp : Sp) : Prop where
  ex : ∃ (f : Addr) (fd : FuncData) (ps : List Str), FnG P w K mg base (L2.CX P w) k f fd ps sp ∧ mg x = some (.ref f) ∧ PySem.W.keepIn K (.ref f) = true ∧ Binds K fd ps []
section
variable {X : Cx} {K : PySem.W.Frag} {j k : Nat} {x : Str} {sp : Sp} {E : XK} {p pos : Pos} {e : Expr} {es : List Expr} {t : TA}
theorem pe_cxG (hK : X.K = K) (c : CalG X.prog X.w K X.mg X.base k x sp) (hr : RoomG j X.A) (hk : k ≤ j) (hx : Passes (L2.CX X.prog X.w) X E) (ha : PA X (e :: es) t) (hg : Gl X x := by rfl) (hdb : (x == ("__debug__" : Str)) = false := by decide)
    (he : starEach (e :: es) X.env = (false, eval e X.env) :: starEach es X.env := by rfl) (hpl : (backTo pos (starEach es X.env)).any (·.1) = false := by rfl) : PE X (.Call (.Name x p) (e :: es) [] pos) (tCall sp [] E t) := by
  subst hK
  obtain ⟨f, fd, ps, F, hm, kp, hb⟩ := c.ex
  constructor
  intro pins s σ H Q I h
  apply wpAny_Call_Name_kw (ld_glob I hg hm ?_ hdb)
  apply PySem.W.callWith_K (h₀ := X.base) I.ok.mod.kin kp _ he hpl
  apply thn (ha.run pos pins s σ H _ I h)
  rintro us s1 ⟨vs, H1, J, rv, q⟩
  refine ⟨J.kIn, ?_⟩
  rw [List.append_nil] at q
  have sz := F.size vs H1 Q E q
  have bd := hb s1 us J.kIn (by rw [List.append_nil, ← rv.length]; exact sz)
  rw [List.append_nil] at bd
  apply wpAny_call
  apply codeAny_mono (F.go X.A X.stack s1 H1 ⟨us, []⟩ us vs Q E (hr.mono hk) J.env0 bd rv q)
  intro r s2 post
  cases r with
  | error e2 => exact hx pins σ H1 s1 e2 s2 J post
  | ok fl =>
    cases fl with
    | ret u => exact J.after post
    | next => exact post.elim
    | brk => exact post.elim
    | cont => exact post.elim
end
/-! ### repr -/
mutual
theorem dp_noDict {K : PySem.W.Frag} {H : Hp} : ∀ (d : PyData) (v : V), Dp K H v d → d.hasDict = false
  | .none, _, _ => rfl
  | .bool _, _, _ => rfl
  | .int _, _, _ => rfl
  | .str _, _, _ => rfl
  | .list ds, _, h => by
    cases h with
    | lst _ h => simp only [PyData.hasDict]; exact dpAll_noDict ds _ h
  | .tuple ds, _, h => by
    cases h with
    | tup _ h => simp only [PyData.hasDict]; exact dpAll_noDict ds _ h
  | .dict _, _, h => nomatch h
theorem dpAll_noDict {K : PySem.W.Frag} {H : Hp} : ∀ (ds : List PyData) (vs : List V), DpAll K H vs ds → PyData.hasDictAll ds = false
  | [], _, _ => rfl
  | d :: ds, _, h => by
    cases h with
    | cons h1 h2 => simp only [PyData.hasDictAll, dp_noDict d _ h1, dpAll_noDict ds _ h2, Bool.or_self]
end
def rReprD (K : PySem.W.Frag) : List V → Hp → VK → Prop := fun xs H Q => ∃ x d, xs = [x] ∧ Dp K H x d ∧ d.showable = true ∧ d.depth ≤ 60 ∧ d.shown.length ≤ sizeLine ∧ Q (.str d.shown) H
theorem call_reprD {X : Cx} {K : PySem.W.Frag} (hK : X.K = K) (hg : X.A.guards = some []) (hu : X.A.units + 64 < cLine) : CallR X (.builtin "repr") (rReprD K) := by
  subst hK
  rintro pins s σ H xs us Q I r ⟨x, d, rfl, hd, sh, dep, sz, q⟩
  have big : ∀ {a : Addr}, us = [.ref a] → x = .ref a → wpAny (model X.prog X.w) X.A (call (.builtin "repr") us) (EP X pins σ Q) X.xe s := by
    rintro a rfl rfl
    obtain ⟨as, rd⟩ := Dp.reads I d _ _ hd (show RelV (.ref a) (.ref a) from rfl)
    exact repr_of_reads' rd sh (fun z => absurd ((dp_noDict d _ hd).symm.trans z) Bool.false_ne_true) hg (by omega) (fun _ _ e => e) (fun h2 u tk kp => ⟨.str _, H, I.kept kp, ⟨_, rfl⟩, q⟩) sz
  cases hd with
  | non =>
    obtain ⟨u, rfl, rfl⟩ := vals1 r
    exact PySem.P.repr_of_none ⟨.str _, H, I.tok _, ⟨_, rfl⟩, q⟩
  | bl b =>
    obtain ⟨u, rfl, rfl⟩ := vals1 r
    exact PySem.P.repr_of_bool ⟨.str _, H, I.tok _, ⟨_, rfl⟩, q⟩
  | int i =>
    obtain ⟨u, rfl, t, rfl⟩ := vals1 r
    exact PySem.P.repr_of_int (by simpa [PyData.showable] using sh) ⟨.str _, H, I.tok _, ⟨_, rfl⟩, q⟩
  | str z =>
    obtain ⟨u, rfl, t, rfl⟩ := vals1 r
    exact PySem.P.repr_of_str ⟨.str _, H, I.tok _, ⟨_, rfl⟩, q⟩ sz
  | lst h1 h2 =>
    obtain ⟨u, rfl, rfl⟩ := vals1 r
    exact big rfl rfl
  | tup h1 h2 =>
    obtain ⟨u, rfl, rfl⟩ := vals1 r
    exact big rfl rfl
/-- repr of what is no container needs no such room -/
def flatD : PyData → Bool
  | .none => true
  | .bool _ => true
  | .int _ => true
  | .str _ => true
  | _ => false
def rReprF (K : PySem.W.Frag) : List V → Hp → VK → Prop := fun xs H Q => ∃ x d, xs = [x] ∧ Dp K H x d ∧ flatD d = true ∧ d.showable = true ∧ d.shown.length ≤ sizeLine ∧ Q (.str d.shown) H
theorem call_reprF {X : Cx} {K : PySem.W.Frag} (hK : X.K = K) : CallR X (.builtin "repr") (rReprF K) := by
  subst hK
  rintro pins s σ H xs us Q I r ⟨x, d, rfl, hd, fl, sh, sz, q⟩
  cases hd with
  | non =>
    obtain ⟨u, rfl, rfl⟩ := vals1 r
    exact PySem.P.repr_of_none ⟨.str _, H, I.tok _, ⟨_, rfl⟩, q⟩
  | bl b =>
    obtain ⟨u, rfl, rfl⟩ := vals1 r
    exact PySem.P.repr_of_bool ⟨.str _, H, I.tok _, ⟨_, rfl⟩, q⟩
  | int i =>
    obtain ⟨u, rfl, t, rfl⟩ := vals1 r
    exact PySem.P.repr_of_int (by simpa [PyData.showable] using sh) ⟨.str _, H, I.tok _, ⟨_, rfl⟩, q⟩
  | str z =>
    obtain ⟨u, rfl, t, rfl⟩ := vals1 r
    exact PySem.P.repr_of_str ⟨.str _, H, I.tok _, ⟨_, rfl⟩, q⟩ sz
  | lst h1 h2 => exact absurd fl Bool.false_ne_true
  | tup h1 h2 => exact absurd fl Bool.false_ne_true
section
variable {K : PySem.W.Frag} {W : WS} {σ : L2.St} {F H : Hp} {α : Type} {ta : Ty α} {te : TE}
def reprDR (d : PyData) : R Str := if d.showable = true ∧ d.shown.length ≤ 1000000 then .ok d.shown else .stuck
theorem calm_reprDR {d : PyData} : Calm (reprDR d) := calm_ite calm_ok calm_stuck
theorem ev_reprD {enc : α → PyData} {n : Nat} (da : IsD K ta enc n) (hn : n ≤ 60) {m : R α} (h : Ev ta te W σ F H m) : Ev tStr (tCB (rReprD K) (tCons te tNil)) W σ F H (bd m fun a => reprDR (enc a)) :=
  ev_cb1 (ta := ta) (tc := tStr) (f := fun a => reprDR (enc a)) (fun F H s x a rx Q q => by
    have q : Post (reprDR (enc a)) _ _ := q
    unfold reprDR at q
    by_cases hc : (enc a).showable = true ∧ (enc a).shown.length ≤ 1000000
    · rw [if_pos hc] at q
      exact ⟨x, enc a, rfl, dp_mono s (da.dp rx), hc.1, Nat.le_trans (da.dep a) hn, Nat.le_trans hc.2 (by decide), q _ F H (Fr.refl s) rfl⟩
    · rw [if_neg hc] at q
      exact q.elim) (fun _ => calm_reprDR) h
theorem ev_reprF {enc : α → PyData} {n : Nat} (da : IsD K ta enc n) (hf : ∀ a, flatD (enc a) = true) {m : R α} (h : Ev ta te W σ F H m) : Ev tStr (tCB (rReprF K) (tCons te tNil)) W σ F H (bd m fun a => reprDR (enc a)) :=
  ev_cb1 (ta := ta) (tc := tStr) (f := fun a => reprDR (enc a)) (fun F H s x a rx Q q => by
    have q : Post (reprDR (enc a)) _ _ := q
    unfold reprDR at q
    by_cases hc : (enc a).showable = true ∧ (enc a).shown.length ≤ 1000000
    · rw [if_pos hc] at q
      exact ⟨x, enc a, rfl, dp_mono s (da.dp rx), hf a, hc.1, Nat.le_trans hc.2 (by decide), q _ F H (Fr.refl s) rfl⟩
    · rw [if_neg hc] at q
      exact q.elim) (fun _ => calm_reprDR) h
end
end TL
namespace TL
open PySem PySem.Spec PyProof.Rows L2
/-- the law's def that asks repr, over every base -/
structure LawG (P : Program) (w : World) (K : PySem.W.Frag) (mg : Str → Option Value) (k : Nat) (x y : Str) (sp : Sp) : Prop where
  ex : ∃ (f : Addr) (fd : FuncData), (∀ base : Heap, FnG P w K mg base (L2.CX P w) k f fd [y] sp) ∧ mg x = some (.ref f) ∧ ∀ (s : Shared) (u : Value), BindsTo s fd ⟨[u], []⟩ [(y, u)]
/-- the abstract heap in which the script alone may stand -/
def scriptH (a : Addr) (o : Obj) (ns : List Int) (b : Bool) : Hp := fun c => if b = true ∧ c = a then some (.frz o (.lst (ns.map V.int))) else none
theorem scriptH_only {a : Addr} {o : Obj} {ns : List Int} {b : Bool} {c : Addr} (h : scriptH a o ns b c ≠ none) : c = a ∧ b = true := by
  unfold scriptH at h
  by_cases z : b = true ∧ c = a
  · exact ⟨z.2, z.1⟩
  · rw [if_neg z] at h
    exact absurd rfl h
theorem law_goG {P : Program} {w : World} {K : PySem.W.Frag} {mg mb : Str → Option Value} {k : Nat} {fa a : Addr} {fd : FuncData} {y : Str} {s : Shared} {vs : List Value} {ns : List Int} {m : List Int → R Bool}
    (inK : K.In s.heap) (nsG : s.heap.Ns mainGlobals mg) (nsB : s.heap.Ns builtinsNs mb) (boot : ∀ x : Str, x ≠ "__name__" → mb x = bootBuiltins x) (lim : s.heap.NoLimit) (gens : s.gens = #[])
    (ha : s.heap.get? a = some { cls := .type "list", data := .seq vs.toArray }) (hi : IntsAre vs ns) (small : ns.length ≤ sizeLine) (room : Room k callerA)
    (F : ∀ base : Heap, FnG P w K mg base (L2.CX P w) k fa fd [y] (SpF K (aOne (tList K tInt)) tBool m)) (bind : ∀ (s : Shared) (u : Value), BindsTo s fd ⟨[u], []⟩ [(y, u)]) (M : m ns = .ok true) :
    codeAny (model P w) callerA (.call (.ref fa) ⟨[.ref a], []⟩) (fun r s2 => r = .ok (.ret (.bool true)) ∧ OldK s.heap s2.heap ∧ s2.os = s.os ∧ AllBare s2.gens) s := by
  have rv := vals_ints hi
  -- is the script one of the written part's own objects, or laid for this call
  obtain ⟨b, hb⟩ : ∃ b : Bool, b = (K.lookup a).isNone := ⟨_, rfl⟩
  obtain ⟨H, eH⟩ : ∃ H : Hp, H = scriptH a { cls := .type "list", data := .seq vs.toArray } ns b := ⟨_, rfl⟩
  have only : ∀ c, H c ≠ none → c = a ∧ b = true := fun c z => scriptH_only (by rw [← eH]; exact z)
  have lay : ∀ c o, H c = some o → c = a ∧ o = .frz { cls := .type "list", data := .seq vs.toArray } (.lst (ns.map V.int)) := fun c o z => by
    obtain ⟨z1, z2⟩ := only c (by rw [z]; exact fun q => nomatch q)
    subst z1
    rw [eH] at z
    unfold scriptH at z
    rw [if_pos ⟨z2, rfl⟩] at z
    exact ⟨rfl, (Option.some.inj z).symm⟩
  have hid : ∀ {c : Addr} {o : Obj}, s.heap.get? c = some o → H c = none → (hidT s.heap H).get? c = some o := fun e n => hidT_get e n
  have plainNs : ∀ {c : Addr} {f : Str → Option Value}, s.heap.Ns c f → (hidT s.heap H).Ns c f := by
    rintro c f ⟨o, es, ep, e, d, r⟩
    refine ⟨o, es, ep, hid e ?_, d, r⟩
    cases q : H c with
    | none => rfl
    | some u =>
      have z := (lay c u q).1
      subst z
      rw [ha] at e
      have e := Option.some.inj e
      subst e
      exact nomatch d
  have kin : K.In (hidT s.heap H) := by
    intro c o e
    refine hid (inK c o e) ?_
    cases q : H c with
    | none => rfl
    | some u =>
      obtain ⟨z1, z2⟩ := only c (by rw [q]; exact fun q => nomatch q)
      subst z1
      rw [hb, e] at z2
      exact nomatch z2
  have mod : Mod K mg (hidT s.heap H) := by
    obtain ⟨mc, l1, l2⟩ := lim
    exact ⟨kin, plainNs nsG, ⟨mb, plainNs nsB, boot⟩, mc, plainNs l1, l2⟩
  have hok : HOk P w H s.heap := fun c u z => by
    obtain ⟨z1, z2⟩ := lay c u z
    subst z1 z2
    exact ⟨ha, by rw [List.length_map]; exact small, vs, _, rv, ha⟩
  have sq : SqL K H a (ns.map V.int) := by
    cases hl : K.lookup a with
    | none =>
      refine Or.inl (Or.inr ⟨{ cls := .type "list", data := .seq vs.toArray }, ?_⟩)
      rw [eH]
      exact if_pos ⟨by rw [hb, hl] <;> rfl, rfl⟩
    | some o =>
      have e := inK a o hl
      rw [ha] at e
      have e := Option.some.inj e
      subst e
      exact Or.inr ⟨_, vs.toArray, _, hl, rfl, rfl, rfl, by rw [List.size_toArray, hi.length]; exact small, by simpa using rv⟩
  have env : Env0 P w K mg (hidT s.heap H) callerA [] s H := by
    refine ⟨rfl, mod, fun c o e => of_hidT e, Nat.le_of_eq (hidT_size _ _), trivial, fun c z => ?_, hok, .of_eq gens⟩
    exact nomatch z
  have pr : SpF K (aOne (tList K tInt)) tBool m [.ref a] H (fun v _ => v = .bl true) fun _ _ _ => False := by
    refine ⟨H, ns, Same.refl H, ⟨_, rfl, a, ns.map V.int, rfl, sq, paired_of_ints ns⟩, ?_⟩
    rw [M]
    exact fun v F2 H2 _ r => r
  refine codeAny_mono ((F (hidT s.heap H)).go callerA [] s H ⟨[.ref a], []⟩ [.ref a] [.ref a] _ _ ⟨room, rfl⟩ env (bind s (.ref a)) (.cons rfl .nil) pr) ?_
  intro r s2 post
  cases r with
  | error e =>
    obtain ⟨_, _, _, _, _, _, _, _, _, _, _, _, z⟩ := post
    exact z.elim
  | ok fl =>
    cases fl with
    | next => exact post.elim
    | brk => exact post.elim
    | cont => exact post.elim
    | ret u =>
      obtain ⟨v, H2, os, bare, un, hok2, rel, q⟩ := post
      have q : v = .bl true := q
      subst q
      have rel : u = Value.bool true := rel
      subst rel
      refine ⟨rfl, OldK.of_keep fun c o e => ?_, os, bare⟩
      cases q : H c with
      | none => exact un.keep c o e q (fun z => nomatch z) (fun z => nomatch z)
      | some u =>
        obtain ⟨z1, z2⟩ := lay c u q
        subst z1 z2
        have fz := un.frzs _ _ _ q
        have e1 := (hok _ _ q).1
        have e2 := (hok2 _ _ fz).1
        rw [e] at e1
        have e1 := Option.some.inj e1
        subst e1
        exact e2
theorem law_endG {l : PySem.W.OpenLaw} {n k nn : Nat} {q : Program} {loose : List Str} {XP : (Str → Option Value) → Heap → Prop} {d : DefRec} {fa : List He.Fa} {fn : List He.DefD} {m : List Int → R Bool} {y : Str}
    (hn : l.most = some n) (hn2 : n ≤ sizeLine) (hdf : d.params.defaults = []) (hr : Room k callerA)
    (F : ∀ (w : World) (K : PySem.W.Frag) (mg : Str → Option Value) (h : Heap), K.In h → h.Ns mainGlobals mg → He.SaysD fa fn K → LawG l.prog w K mg k d.name y (SpF K (aOne (tList K tInt)) tBool m))
    (M : ∀ ns : List Int, ns.length ≤ n → m ns = .ok true) :
    PySem.W.WalkO q loose XP (He.hookD nn fa fn).says l.row.toRowW d [] (fun f vs => PySem.call f vs) := by
  refine Att.attach_call hn hdf fun w s₀ s₁ mg mb f o pm cd doc a vs ns G Y ho hd hcd hmg hobj hints hlen hg => ?_
  obtain ⟨K, KX, hs⟩ := Y
  obtain ⟨f2, fd, hF, hm2, hb⟩ := (F w K mg _ KX G.T.g hs).ex
  obtain rfl : f2 = f := by
    rw [hmg] at hm2
    injection hm2 with z
    injection z with z
    exact z.symm
  exact law_goG KX G.T.g G.T.b G.T.builtins G.T.nolimit hg hobj hints (Nat.le_trans hlen hn2) hr hF hb (M ns hlen)
end TL
/-! ## TL12: what may be lent -/
namespace TL
open PySem PySem.Spec PyProof.Rows L2
theorem bt_repr : bootBuiltins "repr" = some (.builtin "repr") := by decide +kernel
section
variable {K : PySem.W.Frag} {W : WS} {σ : L2.St} {F H F' H' F0 H0 : Hp} {α β γ δ ρ S : Type} {ta : Ty α} {tb : Ty β} {tc : Ty γ} {te te1 te2 te3 : TE} {v : V}
theorem flat_none : Flat tNone := fun _ _ _ _ h => h
theorem flat_opt (h : Flat ta) : Flat (tOpt ta) := fun F F' v a r => by
  cases a with
  | none => exact r
  | some a => exact ⟨r.1, h _ _ _ _ r.2⟩
theorem paired_flat (h : Flat ta) {F F' : Hp} : ∀ {vs : List V} {as : List α}, Paired (ta.rep F) vs as → Paired (ta.rep F') vs as
  | _, _, .nil => .nil
  | _, _, .cons r q => .cons (h _ _ _ _ r) (paired_flat h q)
/-- a new list made while one's own is read -/
theorem el_lend {as : List β} {m : R (List α)} (fl : Flat ta) (o : Own tb H0 F H v as) (s0 : Same F H) (h : ∀ F', Same F F' → (yList tb).rep F' v as → Same F' H → EvL ta te W σ F' H m) : EvL ta te W σ F H m := fun F1 H1 f1 Q q => by
  obtain ⟨p, vs, ev, h0, hf, hh, r⟩ := o
  subst ev
  have sF : Same F (upd F p (.lst vs)) := same_upd hf
  have sH : Same (upd F p (.lst vs)) H := fun b u e => by
    by_cases q : b = p
    · rw [q, upd_same] at e
      rw [← e, q]
      exact hh
    · rw [upd_ne q] at e
      exact s0 b u e
  refine h _ sF ⟨p, vs, rfl, upd_same, paired_mono sF r⟩ sH _ H1 (lend_fr (as := as) hf hh f1) Q (post_imp q (fun a _ k p2 ws F2 H2 f2 n1 n2 h3 rv => ?_) fun e _ z F2 H2 f2 => ?_)
  · exact k p2 ws F1 H2 ⟨Same.refl _, f2.h, f1.s.trans f2.h, fun _ h _ => h⟩ n1 (f1.s.free n1) h3 (paired_flat fl rv)
  · exact z F1 H2 ⟨Same.refl _, f2.h, f1.s.trans f2.h, fun _ h _ => h⟩
end
end TL
/-! ## TL13: things of any type -/
namespace TL
open PySem PySem.Spec PyProof.Rows L2
def tagOf : Dyn → String
  | .dat .none => "NoneType"
  | .dat (.bool _) => "bool"
  | .dat (.int _) => "int"
  | .dat (.str _) => "str"
  | .dat (.list _) => "list"
  | .dat (.tuple _) => "tuple"
  | .dat (.dict _) => "dict"
  | .dct => "dict"
def isTag (T U : String) : Bool := T == U || (T == "bool" && U == "int")
def tags : List String := ["NoneType", "bool", "int", "str", "list", "tuple", "dict"]
theorem tagOf_mem (d : Dyn) : tagOf d ∈ tags := by
  cases d with
  | dct => decide
  | dat d => cases d <;> simp [tagOf, tags]
section
variable {K : PySem.W.Frag} {W : WS} {σ : L2.St} {F H F' H' F0 H0 : Hp} {α β γ δ ρ S : Type} {ta : Ty α} {tb : Ty β} {tc : Ty γ} {te te1 te2 te3 : TE} {v : V}
theorem ty_dyn {F H : Hp} (s : Same F H) {v : V} {d : Dyn} (r : (tDyn K).rep F v d) : TyX K H v (.type (tagOf d)) := by
  cases d with
  | dct =>
    obtain ⟨p, kvs, rfl, h⟩ := r
    exact .base (.dK (s _ _ h))
  | dat d =>
    have r : Dp K F v d := r
    cases r with
    | non => exact .base .non
    | bl b => exact .base (.bl b)
    | int i => exact .base (.int i)
    | str x => exact .base (.str x)
    | lst h _ => exact ty_sqL (sqL_mono s h)
    | tup h _ => exact ty_sqT (sqT_mono s h)
theorem ev_isiD {U : String} (hU : ∀ T ∈ tags, kitB T U = some (isTag T U)) {m : R Dyn} (h : Ev (tDyn K) te W σ F H m) : Ev tBool (tCB (rIsi K) (tCons te (tCons (tC (.ty U)) tNil))) W σ F H (bd m fun d => .ok (isTag (tagOf d) U)) := fun F1 H1 f1 Q q =>
  h F1 H1 f1 _ (post_imp (post_bd q) (fun d _ k1 x F2 H2 f2 rx => ⟨x, .ty U, _, _, _, rfl, .ty U, ty_dyn f2.s rx, kit_ty (hU _ (tagOf_mem d)), k1 _ F2 H2 f2 rfl⟩) fun e _ z => z)
/-! ### casts -/
def dynInt : Dyn → R Int
  | .dat (.int i) => .ok i
  | _ => .stuck
def dynStr : Dyn → R Str
  | .dat (.str x) => .ok x
  | _ => .stuck
def dynList : Dyn → R (List Dyn)
  | .dat (.list ds) => .ok (ds.map .dat)
  | _ => .stuck
def dynTup : Dyn → R (List Dyn)
  | .dat (.tuple ds) => .ok (ds.map .dat)
  | _ => .stuck
theorem calm_dynInt {d : Dyn} : Calm (dynInt d) := fun e h => by
  cases d with
  | dct => cases h
  | dat d => cases d <;> cases h
theorem calm_dynStr {d : Dyn} : Calm (dynStr d) := fun e h => by
  cases d with
  | dct => cases h
  | dat d => cases d <;> cases h
theorem calm_dynList {d : Dyn} : Calm (dynList d) := fun e h => by
  cases d with
  | dct => cases h
  | dat d => cases d <;> cases h
theorem calm_dynTup {d : Dyn} : Calm (dynTup d) := fun e h => by
  cases d with
  | dct => cases h
  | dat d => cases d <;> cases h
theorem paired_dp : ∀ {vs : List V} {ds : List PyData}, DpAll K F vs ds → Paired ((tDyn K).rep F) vs (ds.map Dyn.dat)
  | _, _, .nil => .nil
  | _, _, .cons h t => .cons h (paired_dp t)
theorem ev_dynInt {m : R Dyn} (h : Ev (tDyn K) te W σ F H m) : Ev tInt te W σ F H (bd m dynInt) := ev_cast (fun F v a r b e => by
  cases a with
  | dct => cases e
  | dat d =>
    cases d <;> first | (cases e; done) | skip
    have r : Dp K F v _ := r
    cases r
    cases e
    rfl) (fun _ => calm_dynInt) h
theorem ev_dynStr {m : R Dyn} (h : Ev (tDyn K) te W σ F H m) : Ev tStr te W σ F H (bd m dynStr) := ev_cast (fun F v a r b e => by
  cases a with
  | dct => cases e
  | dat d =>
    cases d <;> first | (cases e; done) | skip
    have r : Dp K F v _ := r
    cases r
    cases e
    rfl) (fun _ => calm_dynStr) h
theorem ev_dynList {m : R Dyn} (h : Ev (tDyn K) te W σ F H m) : Ev (tList K (tDyn K)) te W σ F H (bd m dynList) := ev_cast (fun F v a r b e => by
  cases a with
  | dct => cases e
  | dat d =>
    cases d <;> first | (cases e; done) | skip
    have r : Dp K F v _ := r
    cases r with
    | lst h1 h2 =>
      cases e
      exact ⟨_, _, rfl, h1, paired_dp h2⟩) (fun _ => calm_dynList) h
theorem ev_dynTup {m : R Dyn} (h : Ev (tDyn K) te W σ F H m) : Ev (yTupL K (tDyn K)) te W σ F H (bd m dynTup) := ev_cast (fun F v a r b e => by
  cases a with
  | dct => cases e
  | dat d =>
    cases d <;> first | (cases e; done) | skip
    have r : Dp K F v _ := r
    cases r with
    | tup h1 h2 =>
      cases e
      exact ⟨_, _, rfl, h1, paired_dp h2⟩) (fun _ => calm_dynTup) h
/-! ### into it -/
theorem ev_toD {enc : α → PyData} {n : Nat} (da : IsD K ta enc n) {m : R α} (h : Ev ta te W σ F H m) : Ev (tDyn K) te W σ F H (bd m fun a => .ok (.dat (enc a))) := ev_cast (fun F v a r b e => by
  cases e
  exact da.dp r) (fun _ => calm_ok) h
theorem paired_toD {enc : α → PyData} {n : Nat} (da : IsD K ta enc n) : ∀ {vs : List V} {as : List α}, Paired (ta.rep F) vs as → Paired ((tDyn K).rep F) vs (as.map fun a => Dyn.dat (enc a))
  | _, _, .nil => .nil
  | _, _, .cons h t => .cons (da.dp h) (paired_toD da t)
theorem ev_toDL {enc : α → PyData} {n : Nat} (da : IsD K ta enc n) {m : R (List α)} (h : Ev (tList K ta) te W σ F H m) : Ev (tList K (tDyn K)) te W σ F H (bd m fun as => .ok (as.map fun a => Dyn.dat (enc a))) := ev_cast (fun F v a r b e => by
  cases e
  obtain ⟨p, vs, h1, h2, h3⟩ := r
  exact ⟨p, vs, h1, h2, paired_toD da h3⟩) (fun _ => calm_ok) h
theorem ev_dct : Ev (tDyn K) tDNewK W σ F H (.ok .dct) := fun F1 H1 f1 Q q p hp => q (.ref p) _ _ (Fr.alloc f1.s hp) ⟨p, [], rfl, upd_same⟩
end
end TL
/-! ## TL14: exceptions as values; a hook with more facts -/
namespace TL
open PySem PySem.Spec PyProof.Rows L2
/-- the exception object at a, of the own class C, without a dict -/
def ExH (C a : Addr) : HO := .ext fun h => ∃ o, h.get? a = some o ∧ o.cls = .ref C ∧ o.dict = none ∧ PySem.W.notCls o = true
theorem exH_ok {P : Program} {w : World} {H : Hp} {h : Heap} {a C : Addr} {o : Obj} (e : h.get? a = some o) (c : o.cls = .ref C) (d : o.dict = none) (n : PySem.W.notCls o = true) : ObjOk P w H h a (ExH C a) := by
  refine ⟨⟨o, e, c, d, n⟩, ⟨o, e⟩, ?_⟩
  rintro h1 h2 ⟨o1, e1, r⟩ k
  exact ⟨o1, k o1 e1, r⟩
/-- what isinstance of an own exception asks of its class -/
def excB (K : PySem.W.Frag) (C : Addr) : Bool :=
  (PySem.W.clsIn K C).isSome && (He.eqO (PySem.W.findIn K (.ref C) "__getattribute__") (some (some (.builtin "BaseException.__getattribute__"))) && (He.eqO (PySem.W.findIn K (.ref C) "__getattr__") (some none) &&
  (decide (PySem.W.subIn K (.ref C) (.type "BaseException") = some true) && (He.eqO (PySem.W.findIn K (.ref C) "__class__") (some (some (.builtin "object.__class__"))) &&
  (He.eqO (PySem.W.specialIn K (.builtin "object.__class__") "__get__") (some (some (.builtin "getset_descriptor.__get__"))) && (decide (PySem.W.takesIn K (.builtin "object.__class__") = some true) && decide (PySem.W.mroIn K C (.type "object") = some true)))))))
theorem kit_exc {K : PySem.W.Frag} {C x : Addr} {ox : Obj} {od : Option Obj} (h : excB K C = true) : PySem.W.KitX K (.ref x) (.ref C) (fun h => PySem.W.InstAt h x ox C od) := by
  unfold excB at h
  obtain ⟨h1, h⟩ := He.ba h
  obtain ⟨h2, h⟩ := He.ba h
  obtain ⟨h3, h⟩ := He.ba h
  obtain ⟨h4, h⟩ := He.ba h
  obtain ⟨h5, h⟩ := He.ba h
  obtain ⟨h6, h⟩ := He.ba h
  obtain ⟨h7, h8⟩ := He.ba h
  exact PySem.W.kitx_exc h1 (He.eqO_ok h2) (He.eqO_ok h3) (of_decide_eq_true h4) (He.eqO_ok h5) (He.eqO_ok h6) (of_decide_eq_true h7) (of_decide_eq_true h8)
/-- an own exception, caught -/
def tExn (K : PySem.W.Frag) : Ty Exn := ⟨fun F v e => match e with
  | .own c => ∃ a, v = .ref a ∧ F a = some (ExH (He.ga K c) a)
  | .fld _ _ _ => False, fun {F F' v e} s r => by
  cases e with
  | own c =>
    obtain ⟨a, h1, h2⟩ := r
    exact ⟨a, h1, s _ _ h2⟩
  | fld _ _ _ => exact r⟩
def rIsiE (K : PySem.W.Frag) : List V → Hp → VK → Prop := fun xs H Q => ∃ (a C : Addr) (d : V) (u : Value) (b : Bool), xs = [.ref a, d] ∧ H a = some (ExH C a) ∧ excB K C = true ∧ ClsV d u ∧ PySem.W.kitOne K (.ref C) u = some b ∧ Q (.bl b) H
theorem call_isiE {X : Cx} {K : PySem.W.Frag} (hK : X.K = K) : CallR X (.builtin "isinstance") (rIsiE K) := by
  subst hK
  rintro pins s σ H xs us Q I r ⟨a, C, d, u, b, rfl, ha, hx, hc, hk, q⟩
  obtain ⟨u1, u2, rfl, r1, r2⟩ := vals2 r
  have e1 : u1 = .ref a := r1
  have e2 := hc.eq r2
  subst e1 e2
  obtain ⟨⟨o, g, c, dd, n⟩, _⟩ := (show ObjOk X.prog X.w H s.heap a (ExH C a) from I.hok a _ ha)
  have at_ : PySem.W.InstAt s.heap a o C none := ⟨g, c, n, by rw [dd]; trivial⟩
  exact PySem.W.kia_one (kit_exc (ox := o) (od := none) hx) I.kIn at_ hk (fun z => nomatch z) fun tk => ⟨.bl b, H, I.tok tk, rfl, q⟩
section
variable {K : PySem.W.Frag} {W : WS} {σ : L2.St} {F H : Hp} {te : TE}
/-- isinstance(e, C) by the table tb of the law's own classes; stuck for a class that isn't in it -/
def isiER (tb : List (Str × Bool)) : Exn → R Bool
  | .own c => match tb.lookup c with
    | some b => .ok b
    | none => .stuck
  | _ => .stuck
theorem ev_isiE {tb : List (Str × Bool)} {d : V} {u : Value} (hd : ClsV d u) (ht : ∀ p ∈ tb, excB K (He.ga K p.1) = true ∧ PySem.W.kitOne K (.ref (He.ga K p.1)) u = some p.2) {m : R Exn} (h : Ev (tExn K) te W σ F H m) :
    Ev tBool (tCB (rIsiE K) (tCons te (tCons (tC d) tNil))) W σ F H (bd m (isiER tb)) := fun F1 H1 f1 Q q =>
  h F1 H1 f1 _ (post_imp (post_bd q) (fun e _ k1 x F2 H2 f2 rx => by
    cases e with
    | fld _ _ _ => exact rx.elim
    | own c =>
      obtain ⟨a, ex, ha⟩ := rx
      subst ex
      have k2 : Post (match tb.lookup c with | some b => R.ok b | none => .stuck) _ _ := k1
      cases l : tb.lookup c with
      | none =>
        rw [l] at k2
        exact k2.elim
      | some b =>
        rw [l] at k2
        have m : (c, b) ∈ tb := by
          have : ∀ (l0 : List (Str × Bool)), l0.lookup c = some b → (c, b) ∈ l0 := by
            intro l0
            induction l0 with
            | nil => intro z; cases z
            | cons p r ih =>
              intro z
              obtain ⟨p1, p2⟩ := p
              rw [List.lookup_cons] at z
              by_cases hp : (c == p1) = true
              · rw [hp] at z
                have e1 := eq_of_beq hp
                cases z
                rw [e1]
                exact List.mem_cons_self
              · rw [Bool.eq_false_iff.mpr hp] at z
                exact List.mem_cons_of_mem _ (ih z)
          exact this tb l
        obtain ⟨t1, t2⟩ := ht _ m
        exact ⟨a, _, d, u, b, rfl, f2.s _ _ ha, t1, hd, t2, k2 _ F2 H2 f2 rfl⟩) fun e _ z => z)
end
/-! ### a hook with any facts of the written part -/
def hookX (n : Nat) (fa : List He.Fa) (fn : List He.DefD) (fx : PySem.W.Frag → Bool) : PySem.W.Hook where
  α := He.AlD × Bool
  obs := fun s => (He.obsDG n fa fn s.heap.get?, fx (He.frG s.heap.get? (He.asD s.heap.get? n)))
  val := fun _ => (He.valD fn, true)
  says := fun _ h => ∃ K : PySem.W.Frag, K.In h ∧ He.SaysD fa fn K ∧ fx K = true
  of := fun _ _ e => ⟨_, He.frG_in, congrArg Prod.fst e, congrArg Prod.snd e⟩
  keeps := fun _ _ _ ⟨K, hK, c⟩ k => ⟨K, PySem.W.Frag.In.keeps hK k, c⟩
end TL
/-! ## TL15: except X as n, the exception held -/
namespace TL
open PySem PySem.Spec PyProof.Rows L2
section
variable {X : Cx} {pins : List (Addr × Obj)} {σ : L2.St} {H : Hp} {s : Shared} {a C : Addr} {o : Obj}
/-- an exception object that is there, and wasn't at the entry, is tracked from now on -/
theorem inv_hold (I : Inv X pins σ H s) (new : X.s_0.heap.get? a = none) (ha : s.heap.get? a = some o) (hc : o.cls = .ref C) (hd : o.dict = none) (hn : PySem.W.notCls o = true) (na : H a = none) (nL : a ≠ X.env.locals)
    (nc : ∀ y c, X.env.cells.lookup y = some c → c ≠ a) (np : ∀ p ∈ X.pn ++ pins, p.1 ≠ a) : Inv X pins σ (upd H a (ExH C a)) s := by
  have un := I.base
  have keepH : ∀ {b : Addr} {u : HO}, H b = some u → upd H a (ExH C a) b = some u := fun {b u} e => by
    rw [upd_ne (fun z => by rw [z, na] at e; cases e)]
    exact e
  have neNew : ∀ {b : Addr} {u : Obj}, X.s_0.heap.get? b = some u → b ≠ a := fun {b u} e z => by
    rw [z, new] at e
    cases e
  refine ⟨I.ok, I.os, I.bare, ⟨un.keep, un.slot, ?_, un.there, ?_, ?_, ?_⟩, I.loc, I.cell, ?_, ?_, ?_, ?_, I.len⟩
  · intro b u e n x
    rw [upd_ne (neNew e)]
    exact un.free b u e n x
  · exact fun b xs e => keepH (un.tups b xs e)
  · exact fun b ob u e => keepH (un.frzs b ob u e)
  · intro b ps e
    obtain ⟨more, z⟩ := un.tbls b ps e
    exact ⟨more, keepH z⟩
  · rw [upd_ne (Ne.symm nL)]
    exact I.free
  · intro y c e
    rw [upd_ne (nc y c e)]
    exact I.freeC y c e
  · intro p hp
    obtain ⟨p1, p2, p3⟩ := I.pin p hp
    refine ⟨p1, ?_, p3⟩
    rw [upd_ne (np p hp)]
    exact p2
  · exact HOk.laidN I.hok (fun _ _ e => e) na (exH_ok ha hc hd hn)
/-- what 'except x as n', n at slot i, wishes of an exception of the body: it is tracked ahead of the suite -/
def wHeld (K : PySem.W.Frag) (c : Value) (i : Nat) (ts : Addr → Addr → TS) (Wout : WX) (D : Ends) : WX := fun cls d σ H =>
  ∃ b, PySem.W.exmOne K cls c = some b ∧
    (b = true → ∃ C, cls = .ref C ∧ d = none ∧ ∀ a, H a = none → ts a C { nx := fun τ G => D.nx (τ.set i none) G, rt := D.rt, bk := fun τ G => D.bk (τ.set i none) G, ct := fun τ G => D.ct (τ.set i none) G } (σ.set i (some (.ref a))) (upd H a (ExH C a))) ∧
    (b = false → Wout cls d σ H)
end
section
variable {X : Cx} {x n : Str} {c : Value} {i : Nat} {body suite : List Stmt} {b₀ : Stmt} {np pos pos' : Pos} {tb : WX → TS} {ts : Addr → Addr → TS} {Wout : WX}
theorem ps_try_held (hex : X.ex = []) (hst : X.stack = X.env :: X.outer) (hfr : X.env.frame = some X.env.locals) (nd : X.N.Nodup) (at_ : X.N[i]? = some n) (loc : X.env.kindOf n = some .local) (nm : Names X x c) (tk : Takes X Wout)
    (hb : ∀ (W : WX) (pn : List (Addr × Obj)) (xe : Value → Shared → Prop), Takes (X.tr pn xe) W → PassesOwn (model X.prog X.w) X.A X.env xe → PSs (X.tr pn xe) body (tb W))
    (hsu : ∀ (a C : Addr) (pn : List (Addr × Obj)), PSs (X.suite a pn) (b₀ :: suite) (ts a C)) :
    PS X (.Try body [.ExceptHandler (some (.Name x np)) (some n) (b₀ :: suite) pos'] [] [] pos) (fun D σ H => tb (wHeld X.K c i ts Wout D) D σ H) := by
  constructor
  intro pins s σ H D I h
  have okX := I.ok
  have frames : X.A.frames = some (X.env :: X.outer) := by rw [okX.frames, hst]
  apply wpAny_Try_except
  refine wpAny_mono ((hb (wHeld X.K c i ts Wout D) (X.pn ++ pins) (fun e s₁ => wpAny (model X.prog X.w) X.A (noteFrame e X.env) (fun _ s₂ => wpAny (model X.prog X.w) X.A (setFlight e none) (fun _ s₃ =>
    wpAny (model X.prog X.w) X.A (handleBy e X.env [.ExceptHandler (some (.Name x np)) (some n) (b₀ :: suite) pos']) (SP X pins D) X.xe s₃) X.xe s₂) X.xe s₁) ?_ PassesOwn.looking).run [] s σ H D (I.toTry _) h) ?_ (fun _ _ z => z)
  · -- caught
    rintro u s2 ⟨a, B, sB, pins2, τ, G, cls, d, rfl, I2, inB, up, sky, free, os, ag, b, hb1, yes, no⟩
    have J := I2.ofTry okX
    have sky2 : Sky B (X.env :: X.outer) a (Zc cls d) X.env.locals s2.heap := by rw [← hst]; exact sky
    show wpAny (model X.prog X.w) X.A (noteFrame (.ref a) X.env) _ _ _
    refine Sky.land Zc.steady frames hfr sky2 fun g3 fl up3 => ?_
    have J3 : Inv X pins τ G { s2 with heap := g3 } := J.landed inB fl.1 (up.trans up3) os ag
    obtain ⟨ob, row, at3, z3, d3⟩ := fl.there
    have apart : ∀ {g : Heap} {u : Obj} {row : Array Value}, g.FunFrames B (X.env :: X.outer) → g.get? a = some u → u.data = .fields row → a ∉ frs (X.env :: X.outer) := fun {g u row} ff e dd hm => by
      obtain ⟨_, u2, e2, nf⟩ := ff.mem hm
      rw [e] at e2
      cases e2
      exact nf _ dd
    have notFrame := apart fl.2.2.1 at3 d3
    have nL : a ≠ X.env.locals := fun z => notFrame (List.mem_filterMap.mpr ⟨X.env, List.mem_cons_self, by rw [hfr, z]⟩)
    have noB : B.get? a = none := fl.2.1
    have fresh : sB.heap.get? a = none := by
      cases e : sB.heap.get? a with
      | none => rfl
      | some u =>
        have z := inB a u e (by rw [hst]; exact notFrame)
        rw [noB] at z
        cases z
    have new : X.s_0.heap.get? a = none := by
      cases e : X.s_0.heap.get? a with
      | none => rfl
      | some u =>
        obtain ⟨u2, z⟩ := J.base.there a u e (by rw [hex]; exact fun z => nomatch z)
        rw [fresh] at z
        cases z
    have cells : ∀ y c, X.env.cells.lookup y = some c → c ≠ a := fun y c e z => by
      obtain ⟨v, q⟩ := J.cell y c e
      subst z
      obtain ⟨u, e2, _⟩ := q
      rw [fresh] at e2
      cases e2
    have pinned : ∀ p ∈ X.pn ++ pins, p.1 ≠ a := fun p hp z => by
      have e2 := (J.pin p hp).1
      rw [z, fresh] at e2
      cases e2
    refine wpAny_handleBy_cons (codeAny_handlers_test ?_) (by intro q; cases q)
    have looksT : PySem.W.Looks (model X.prog X.w) g3 (typeOf (.ref a)) cls := fun A Q E s k q => wpAny_typeOf_ref (k _ _ at3) (by rw [z3.1]; exact q)
    have looksM := PySem.W.exm_one (M := model X.prog X.w) J3.kIn looksT hb1
    have nF : a ∉ X.fs := fun hm => by
      obtain ⟨e, he, q⟩ := List.mem_filterMap.mp hm
      exact notFrame (List.mem_filterMap.mpr ⟨e, List.mem_cons_of_mem _ he, q⟩)
    have S3 := J3.suite at3 d3 free nL nF
    have named : ∀ {Q : Value → Shared → Prop} {E : Value → Shared → Prop}, Q c { s2 with heap := g3 } → wpAny (model X.prog X.w) (X.A.mark (some (.ref a))) (eval (.Name x np) X.env) Q E { s2 with heap := g3 } := fun {Q E} q => by
      rcases nm with ⟨gl, db, hm | ⟨hm, hv, hnn⟩⟩
      · exact ld_glob (X := X.suite a ((a, ob) :: (X.pn ++ pins))) S3 gl hm q db
      · exact ld_blt (X := X.suite a ((a, ob) :: (X.pn ++ pins))) S3 gl hm hv q hnn db
    refine named (looksM.here ?_)
    cases b with
    | true =>
      apply codeAny_handlers_suite_as
      refine HandSPX.lands_againZ fl fun g4 fl4 up4 => ?_
      have J4 : Inv X pins τ G { s2 with heap := g4 } := J.landed inB fl4.1 ((up.trans up3).trans up4) os ag
      obtain ⟨ob4, row4, at4, z4, d4⟩ := fl4.there
      obtain ⟨C, ec, ed, wish⟩ := yes rfl
      have held : Inv X pins τ (upd G a (ExH C a)) { s2 with heap := g4 } := inv_hold J4 new at4 (by rw [z4.1, ec]) (by rw [z4.2, ed]) (by unfold PySem.W.notCls; rw [d4]) free nL cells pinned
      have S4 : Inv (X.suite a (X.pn ++ pins)) [] τ (upd G a (ExH C a)) { s2 with heap := g4 } :=
        ⟨okX.suite _ _, held.os, held.bare, held.base, held.loc, held.cell, held.free, held.freeC, fun p hp => held.pin p (by rw [List.append_nil] at hp; exact hp), held.hok, held.len⟩
      refine store_ok (X := X.suite a (X.pn ++ pins)) (v := .ref a) S4 nd at_ (.inl loc) rfl (fun s5 S5 => ?_) (.inr loc)
      refine wpAny_mono ((hsu a C (X.pn ++ pins)).run [] s5 _ _ _ S5 (wish a free)) (fun fl2 s6 post => ?_) (fun _ _ z => False.elim z)
      have goes : ∀ {τ6 : L2.St} {G6 : Hp} {Q : Shared → Prop}, Inv (X.suite a (X.pn ++ pins)) [] τ6 G6 s6 → (∀ s7, Inv X pins (τ6.set i none) G6 s7 → Q s7) →
          wpAny (model X.prog X.w) X.A (do bindName X.env n .none; unbindBehindTheSuite X.env n pos') (fun _ s7 => Q s7) X.xe s6 := fun {τ6 G6 Q} S6 hq =>
        gone_ok (X := X) (pins := pins) ⟨okX, S6.os, S6.bare, S6.base, S6.loc, S6.cell, S6.free, S6.freeC, (fun p hp => S6.pin p (List.mem_append_left _ hp)), S6.hok, S6.len⟩ nd at_ loc hq
      cases fl2 with
      | next =>
        obtain ⟨τ6, G6, S6, q6⟩ := post
        exact goes S6 fun s7 J7 => ⟨_, _, J7, q6⟩
      | brk =>
        obtain ⟨τ6, G6, S6, q6⟩ := post
        exact goes S6 fun s7 J7 => ⟨_, _, J7, q6⟩
      | cont =>
        obtain ⟨τ6, G6, S6, q6⟩ := post
        exact goes S6 fun s7 J7 => ⟨_, _, J7, q6⟩
      | ret u =>
        obtain ⟨v6, τ6, G6, S6, r6, q6⟩ := post
        exact goes S6 fun s7 J7 => ⟨_, _, _, J7, r6, q6⟩
    | false =>
      show wpAny _ X.A (handleBy (.ref a) X.env []) _ _ _
      apply wpAny_handleBy_nil
      obtain ⟨k1, k2, k3, oe, vs, T, oT, ts', he, hz, hd, h1, hr⟩ := id fl
      unfold PySem.passOn
      refine wpAny_bind (wpAny_field he hd h1 ?_)
      rw [if_neg (show ¬ ((Value.ref T == Value.none) = true) from by simp)]
      have on : wpAny (model X.prog X.w) X.A (setFlight (.ref a) X.env.frame) (fun _ s4 => wpAny (model X.prog X.w) X.A (throw (.ref a) : Sem Flow) (SP X pins D) X.xe s4) X.xe { s2 with heap := g3 } := by
        rw [hfr]
        refine HandSPX.setFlight_upZ fl fun g4 held4 up4 => wpAny_throw (tk _ _ ?_)
        exact ⟨a, B, sB, pins, τ, G, cls, d, rfl, J, inB, (up.trans up3).trans up4, .inr (.inr (by rw [hst]; exact held4)), free, os, ag, no rfl⟩
      first
        | exact wpAny_bind (wpAny_pure (wpAny_bind on))
        | exact wpAny_bind on
  · -- nothing was raised
    intro f s1 post
    cases f with
    | next =>
      obtain ⟨τ, G, I2, q⟩ := post
      exact wpAny_execs_nil ⟨τ, G, I2.ofTry okX, q⟩
    | brk =>
      obtain ⟨τ, G, I2, q⟩ := post
      exact ⟨τ, G, I2.ofTry okX, q⟩
    | cont =>
      obtain ⟨τ, G, I2, q⟩ := post
      exact ⟨τ, G, I2.ofTry okX, q⟩
    | ret u =>
      obtain ⟨v, τ, G, I2, r, q⟩ := post
      exact ⟨v, τ, G, I2.ofTry okX, r, q⟩
end
end TL
/-! ## TL16: calls within a try: what an exception meets hangs on the slots -/
namespace TL
open PySem PySem.Spec PyProof.Rows L2
/-- the wish W at the slots σ -/
def EW (W : WX) (σ : L2.St) : XK := fun cls d H => W cls d σ H
def tCallW (sp : Sp) (W : WX) (t : TA) : TE := fun σ H Q => t σ H fun vs H1 => sp vs H1 Q (EW W σ)
def tMethW (C : Addr) (m : Str) (sp : Sp) (W : WX) (ta : TE) (t : TA) : TE := fun σ H Q => ta σ H fun x H1 => ∃ a dx fs, x = .ref a ∧ H1 a = some (.ins C dx fs) ∧ fs.lookup m = none ∧ t σ H1 fun vs H2 => sp (x :: vs) H2 Q (EW W σ)
def tMakeW (C : Addr) (sp : Sp) (W : WX) (t : TA) : TE := fun σ H Q => t σ H fun vs H1 => ∀ x dx, H1 x = none → H1 dx = none → dx ≠ x → sp (.ref x :: vs) (upd (upd H1 dx (.own x)) x (.ins C dx [])) (fun v H2 => v = .non ∧ Q (.ref x) H2) (EW W σ)
section
variable {X : Cx} {K : PySem.W.Frag} {W : WX} {j k : Nat} {x m : Str} {sp : Sp} {p pos apos : Pos} {o e : Expr} {es : List Expr} {ta : TE} {t : TA} {f C : Addr} {fd : FuncData} {ps : List Str} {pins : List (Addr × Obj)} {σ : L2.St} {H : Hp} {s : Shared} {Q : VK} {us : List Value} {vs : List V}
theorem goW (F : FnOk X.prog X.w X.K X.mg X.base (L2.CX X.prog X.w) k f fd ps sp) (room : Room k X.A) (bind : Binds X.K fd ps []) (tk : Takes X W) (I : Inv X pins σ H s) (rv : Vals vs us) (h : sp vs H Q (EW W σ)) :
    wpAny (model X.prog X.w) X.A (call (.ref f) us) (EP X pins σ Q) X.xe s := by
  have sz := F.len vs H Q _ h
  have bd := bind s us I.kIn (by rw [List.append_nil, ← rv.length]; exact sz)
  rw [List.append_nil] at bd
  apply wpAny_call
  apply codeAny_mono (F.run X.A X.stack s H ⟨us, []⟩ us vs Q (EW W σ) room I.env0 bd rv h)
  intro r s2 post
  cases r with
  | error u => exact tk u s2 (XE.of_call I (fun _ _ _ z => z) post)
  | ok fl =>
    cases fl with
    | ret u => exact I.after post
    | next => exact post.elim
    | brk => exact post.elim
    | cont => exact post.elim
theorem pe_cxW (hK : X.K = K) (c : CalX X.prog X.w K X.mg X.base k x sp) (hr : Room j X.A) (hk : k ≤ j) (tk : Takes X W) (ha : PA X (e :: es) t) (hg : Gl X x := by rfl) (hdb : (x == ("__debug__" : Str)) = false := by decide)
    (he : starEach (e :: es) X.env = (false, eval e X.env) :: starEach es X.env := by rfl) (hpl : (backTo pos (starEach es X.env)).any (·.1) = false := by rfl) : PE X (.Call (.Name x p) (e :: es) [] pos) (tCallW sp W t) := by
  subst hK
  obtain ⟨f, fd, ps, F, hm, kp, hb⟩ := c.ex
  constructor
  intro pins s σ H Q I h
  apply wpAny_Call_Name_kw (ld_glob I hg hm ?_ hdb)
  apply PySem.W.callWith_K (h₀ := X.base) I.ok.mod.kin kp _ he hpl
  apply thn (ha.run pos pins s σ H _ I h)
  rintro us s1 ⟨vs, H1, J, rv, q⟩
  exact ⟨J.kIn, goW F (hr.mono hk) hb tk J rv q⟩
theorem pe_kxW (hK : X.K = K) (c : MakX X.prog X.w K X.mg X.base k x sp) (hr : Room j X.A) (hk : k + 1 ≤ j) (tk : Takes X W) (ha : PA X (e :: es) t) (hg : Gl X x := by rfl) (hdb : (x == ("__debug__" : Str)) = false := by decide)
    (he : starEach (e :: es) X.env = (false, eval e X.env) :: starEach es X.env := by rfl) (hpl : (backTo pos (starEach es X.env)).any (·.1) = false := by rfl) : PE X (.Call (.Name x p) (e :: es) [] pos) (tMakeW (He.ga K x) sp W t) := by
  subst hK
  obtain ⟨f, fd, ps, M, F, hm, hb⟩ := c.ex
  constructor
  intro pins s σ H Q I h
  apply wpAny_Call_Name_kw (ld_glob I hg hm ?_ hdb)
  apply PySem.W.callWith_K (h₀ := X.base) I.ok.mod.kin M.kp _ he hpl
  apply thn (ha.run pos pins s σ H _ I h)
  rintro us s1 ⟨vs, H1, J, rv, q⟩
  refine ⟨J.kIn, ?_⟩
  have z := q (s1.heap.objs.size + 1) s1.heap.objs.size (J.hok.fresh (Nat.le_succ _)) (J.hok.fresh (Nat.le_refl _)) (Nat.ne_of_lt (Nat.lt_succ_self _))
  have J2 := Inv.made (C := He.ga X.K x) J
  have rv2 : Vals (V.ref (s1.heap.objs.size + 1) :: vs) (Value.ref (s1.heap.objs.size + 1) :: us) := .cons rfl rv
  have sz : (Value.ref (s1.heap.objs.size + 1) :: us).length = ps.length := by rw [← rv2.length]; exact F.len _ _ _ _ z
  have bd := hb _ (Value.ref (s1.heap.objs.size + 1) :: us) J2.kIn (by rw [List.append_nil]; exact sz)
  rw [List.append_nil] at bd
  apply wpAny_call
  refine make_map (f := f) J.kIn M.makes M.init (beq_iff_eq.mp M.fn) (codeAny_mono (F.run _ X.stack _ _ ⟨Value.ref (s1.heap.objs.size + 1) :: us, []⟩ _ _ _ (EW W σ) ((hr.mono hk).make _ us []) (J2.env0.make _ us []) bd rv2 z) ?_)
  intro r s2 post
  cases r with
  | error u => exact tk u s2 (XE.of_call J2 (fun _ _ _ z => z) post)
  | ok fl =>
    cases fl with
    | ret u =>
      obtain ⟨v, H2, J3, r3, e3, q3⟩ := J2.after post
      subst e3
      exact ⟨r3, ⟨V.ref (s1.heap.objs.size + 1), H2, J3, rfl, q3⟩⟩
    | next => exact post.elim
    | brk => exact post.elim
    | cont => exact post.elim
theorem pe_mxW {pl : Sem Bool} (hK : X.K = K) (he : PE X o ta) (c : MetX X.prog X.w K X.mg X.base k x m sp) (hr : Room j X.A) (hk : k ≤ j) (tk : Takes X W) (ha : PA X (e :: es) t)
    (hst : starEach (e :: es) X.env = (false, eval e X.env) :: starEach es X.env := by rfl) (hpl : (backTo pos (starEach es X.env)).any (·.1) = false := by rfl)
    (ht : eval (.Call (.Attribute o m apos) (e :: es) [] pos) X.env = (do
      let ov ← eval o X.env
      standAt apos.atName
      let (f, first) ← holding [ov] (getMethod ov m pl)
      callWith pos f first (backTo pos (starEach (e :: es) X.env)) (backToKw pos (keywordEach [] X.env))) := by rfl) :
    PE X (.Call (.Attribute o m apos) (e :: es) [] pos) (tMethW (He.ga K x) m sp W ta t) := by
  subst hK
  obtain ⟨f, fd, ps, hC, hm, F, hb⟩ := c.ex
  constructor
  intro pins s σ H Q I h
  apply PySem.W.methodCall_KW (pl := pl) _ ht
  apply thn (he.run pins s σ H _ I h)
  rintro u s1 ⟨v, H1, J, rx, a, dx, fs, ex, ea, l, q⟩
  subst ex
  have rx : u = Value.ref a := rx
  subst rx
  refine getmeth_ok J ea hC hm l ?_
  apply PySem.W.callWith_K (first := [.ref a]) (h₀ := X.base) J.ok.mod.kin hm.kp _ hst hpl
  apply thn (ha.run pos pins s1 σ H1 _ J q)
  rintro us s2 ⟨vs, H2, J2, r2, q2⟩
  exact ⟨J2.kIn, goW (us := .ref a :: us) (vs := .ref a :: vs) F (hr.mono hk) hb tk J2 (.cons rfl r2) q2⟩
end
end TL
/-! ## TL17: try: .. except X as n: .. -/
namespace TL
open PySem PySem.Spec PyProof.Rows L2
def XSW (K : PySem.W.Frag) (W : WX) (e : Exn) (σ : L2.St) (H : Hp) : Prop := XS K (EW W σ) e H
section
variable {K : PySem.W.Frag} {W : WS} {σ : L2.St} {F H F' H' F0 H0 : Hp} {α β γ δ ρ S : Type} {ta : Ty α} {tb : Ty β} {tc : Ty γ} {te te1 te2 te3 : TE} {v : V} {Wb : WX}
theorem evW_iff {sp : Sp} {tx : TA} {t : Ty β} {m : R β} (h : Ev t (tCall sp [] (EW Wb σ) tx) W σ F H m) : Ev t (tCallW sp Wb tx) W σ F H m := fun F1 H1 f1 Q q => by
  have z := h F1 H1 f1 Q q
  unfold tCall at z
  simp only [List.append_nil] at z
  exact z
theorem ev_callW {u : TyA α} {g : α → R β} {m : R α} {tx : TA} (hw : ∀ e H, W e σ H → XSW K Wb e σ H) (h : EvA u tx W σ F H m) : Ev tb (tCallW (SpF K u tb g) Wb tx) W σ F H (bd m g) := evW_iff (ev_call (E := EW Wb σ) hw h)
theorem ev_makeW {x : Str} {names : List Str} {u : TyA α} {t : TyA β} {g : α → R β} {m : R α} {tx : TA} (hw : ∀ e H, W e σ H → XSW K Wb e σ H) (h : EvA u tx W σ F H m) :
    Ev (tObj K x names t) (tMakeW (He.ga K x) (SpI K x names u t g) Wb tx) W σ F H (bd m g) := fun F1 H1 f1 Q q => by
  have z := ev_make (E := EW Wb σ) hw h F1 H1 f1 Q q
  unfold tMake at z
  simp only [List.append_nil] at z
  exact z
theorem ev_methW {C mn : Str} {names : List Str} {u : TyA α} {u2 : TyA β} {tc : Ty γ} {g : α × β → R γ} {m1 : R α} {m2 : R β} {tx : TA} (hw : ∀ e H, W e σ H → XSW K Wb e σ H) (hn : names.findIdx? (fun y => y == mn) = none) (h1 : Ev (tObj K C names u) te W σ F H m1) (h2 : EvA u2 tx W σ F H m2) :
    Ev tc (tMethW (He.ga K C) mn (SpF K (aCons (tObj K C names u) u2) tc g) Wb te tx) W σ F H (bd m1 fun a => bd m2 fun b => g (a, b)) := fun F1 H1 f1 Q q => by
  have z := ev_meth (E := EW Wb σ) hw hn h1 h2 F1 H1 f1 Q q
  unfold tMeth at z
  simp only [List.append_nil] at z
  exact z
/-- the body's end, or what the clause makes of an exception of the classes tb -/
def tryR (tb : List Str) (A : R S) (B : Exn → R S) : R S := match A with
  | .ok s => .ok s
  | .err (.own c) => if c ∈ tb then B (.own c) else .stuck
  | _ => .stuck
def tTryH (K : PySem.W.Frag) (c : Value) (i : Nat) (tbd : WX → TS) (ts : Addr → Addr → TS) (Wout : WX) : TS := fun D σ H => tbd (wHeld K c i ts Wout D) D σ H
theorem s_try {tbl : List Str} {cl : Value} {i : Nat} {tbd : WX → TS} {ts : Addr → Addr → TS} {Wout : WX} {D : Ends} {A : R S} {B : Exn → R S} {rest : S → R γ} {KK : γ → Prop} {XX : Exn → Prop} (St : S → L2.St → Hp → Hp → Prop) (Rz : L2.St → Prop)
    (fr : Fr F0 H0 F H) (ht : ∀ c ∈ tbl, PySem.W.exmOne K (.ref (He.ga K c)) cl = some true) (hp : Post (bd (tryR tbl A B) rest) KK XX)
    (k1 : ∀ (Wb : WX) (D' : Ends) (K' : S → Prop) (X' : Exn → Prop), D'.rt = D.rt → D'.bk = D.bk → D'.ct = D.ct → Post A K' X' → (∀ s σ2 F2 H2, Same F F2 → St s σ2 F2 H2 → K' s → D'.nx σ2 H2) →
      (∀ e, X' e → ∀ (_ : L2.St) F2 H2, Fr F H F2 H2 → ∀ τ, Rz τ → XSW K Wb e τ H2) → tbd Wb D' σ H)
    (k2 : ∀ (D' : Ends) (K' : S → Prop) c a τ F' H', D'.rt = D.rt → Fr F H F' H' → Rz τ → (tExn K).rep F' (.ref a) (.own c) → Post (B (.own c)) K' XX → (∀ s σ2 F2 H2, Same F F2 → St s (σ2.set i none) F2 H2 → K' s → D'.nx σ2 H2) →
      ts a (He.ga K c) D' (τ.set i (some (.ref a))) H')
    (k3 : ∀ s σ2 F2 H2, Same F F2 → St s σ2 F2 H2 → Post (rest s) KK XX → D.nx σ2 H2) : tTryH K cl i tbd ts Wout D σ H := by
  have q := post_bd hp
  refine k1 (wHeld K cl i ts Wout D) D (fun s => Post (rest s) KK XX) (fun e => ∃ c, e = .own c ∧ c ∈ tbl ∧ Post (B (.own c)) (fun s => Post (rest s) KK XX) XX) rfl rfl rfl ?_ k3 ?_
  · cases A with
    | stuck => exact q
    | ok s => exact q
    | err e =>
      cases e with
      | fld _ _ _ => exact q.elim
      | own c =>
        have q : Post (if c ∈ tbl then B (.own c) else .stuck) _ _ := q
        by_cases hc : c ∈ tbl
        · rw [if_pos hc] at q
          exact ⟨c, rfl, hc, q⟩
        · rw [if_neg hc] at q
          exact q.elim
  · rintro e ⟨c, rfl, hc, q⟩ _ F2 H2 f2 τ hτ
    show wHeld K cl i ts Wout D (.ref (He.ga K c)) none τ H2
    refine ⟨true, ht c hc, fun _ => ⟨_, rfl, rfl, fun a ha => ?_⟩, fun z => nomatch z⟩
    exact k2 _ (fun s => Post (rest s) KK XX) c a τ _ _ rfl (f2.trans (Fr.alloc f2.s ha)) hτ ⟨a, rfl, upd_same⟩ q fun s σ2 F3 H3 sm st k => k3 s _ F3 H3 sm st k
end
section
variable {X : Cx} {K : PySem.W.Frag} {x n : Str} {c : Value} {i : Nat} {body suite : List Stmt} {b₀ : Stmt} {np pos pos' : Pos} {tbd : WX → TS} {ts : Addr → Addr → TS} {Wout : WX}
theorem ps_tryK (hK : X.K = K) (hex : X.ex = []) (hst : X.stack = X.env :: X.outer) (hfr : X.env.frame = some X.env.locals) (nd : X.N.Nodup) (at_ : X.N[i]? = some n) (loc : X.env.kindOf n = some .local) (nm : Names X x c) (tk : Takes X Wout)
    (hb : ∀ (W : WX) (pn : List (Addr × Obj)) (xe : Value → Shared → Prop), Takes (X.tr pn xe) W → PassesOwn (model X.prog X.w) X.A X.env xe → PSs (X.tr pn xe) body (tbd W)) (hsu : ∀ (a C : Addr) (pn : List (Addr × Obj)), PSs (X.suite a pn) (b₀ :: suite) (ts a C)) :
    PS X (.Try body [.ExceptHandler (some (.Name x np)) (some n) (b₀ :: suite) pos'] [] [] pos) (tTryH K c i tbd ts Wout) := by
  subst hK
  exact ps_try_held hex hst hfr nd at_ loc nm tk hb hsu
end
end TL
/-! ## TL18: list * int, join, classes by name, endings over hookX -/
namespace TL
open PySem PySem.Spec PyProof.Rows L2
section
variable {K : PySem.W.Frag} {W : WS} {σ : L2.St} {F H F' H' F0 H0 : Hp} {α β γ δ ρ S : Type} {ta : Ty α} {tb : Ty β} {tc : Ty γ} {te te1 te2 te3 : TE} {v : V}
def repR (as : List α) (k : Int) : R (List α) := if In62 k ∧ as.length * k.toNat ≤ 100000 then .ok (List.replicate k.toNat as).flatten else .stuck
theorem paired_rep {P : V → α → Prop} {vs : List V} {as : List α} (r : Paired P vs as) : ∀ n : Nat, Paired P (List.replicate n vs).flatten (List.replicate n as).flatten
  | 0 => .nil
  | n + 1 => by
    rw [List.replicate_succ, List.replicate_succ, List.flatten_cons, List.flatten_cons]
    exact paired_append r (paired_rep r n)
theorem el_rep {m1 : R (List α)} {m2 : R Int} (h1 : Ev (yList ta) te1 W σ F H m1) (h2 : Ev tInt te2 W σ F H m2) : EvL ta (tOp rRep te1 te2) W σ F H (bd m1 fun a => bd m2 fun b => repR a b) := fun F1 H1 f1 Q q => by
  refine h1 F1 H1 f1 _ (post_imp (post_bd q) (fun xs _ q1 x F2 H2 f2 ⟨p, vs, ev, hs, rv⟩ => ?_) fun e _ z => z)
  refine h2 F2 H2 (f1.trans f2) _ (post_imp (post_bd q1) (fun k _ z y F3 H3 f3 ry => ?_) fun e _ z F4 H4 f4 => z F4 H4 (f2.trans f4))
  unfold repR at z
  by_cases hc : In62 k ∧ xs.length * k.toNat ≤ 100000
  · rw [if_pos hc] at z
    obtain ⟨⟨c1, c2⟩, c3⟩ := hc
    have rv3 := paired_mono f3.f rv
    have ff := f2.trans f3
    exact ⟨p, k, vs, ev, ry, f3.s _ _ (f3.f _ _ hs), Int.le_trans (by decide) c1, Int.lt_of_lt_of_le c2 (by decide), small_line (by rw [rv.length]; exact c3), fun l hl => z l _ F3 _ (ff.trans (Fr.fresh f3.s hl)) (ff.h.free hl) (f3.s.free hl) upd_same (paired_rep rv3 _)⟩
  · rw [if_neg hc] at z
    exact z.elim
/-- sep.join(texts) -/
def joinSR (a : Str) (ys : List Str) : R Str := if (ys.map (·.length)).sum + ys.length * a.length ≤ 16777216 then .ok (Txt.join a ys) else .stuck
def rJoinT (K : PySem.W.Frag) : V → List V → Hp → VK → Prop := fun x xs H Q => ∃ a p, ∃ ys : List Str, x = .str a ∧ xs = [.ref p] ∧ (SqL K H p (ys.map V.str) ∨ SqT K H p (ys.map V.str)) ∧ (ys.map (·.length)).sum + ys.length * a.length ≤ 16777216 ∧ Q (.str (Txt.join a ys)) H
theorem mt_joinK {X : Cx} (hK : X.K = K) : MtR X "str.join" (rJoinT K) := by
  subst hK
  exact mt_join
theorem calm_joinSR {a : Str} {ys : List Str} : Calm (joinSR a ys) := calm_ite calm_ok calm_stuck
theorem ev_join {m1 : R Str} {m2 : R (List Str)} (h1 : Ev tStr te1 W σ F H m1) (h2 : Ev (tList K tStr) te2 W σ F H m2) : Ev tStr (tM1 (rJoinT K) te1 te2) W σ F H (bd m1 fun a => bd m2 fun b => joinSR a b) := fun F1 H1 f1 Q q => by
  refine h1 F1 H1 f1 _ (post_imp (post_bd q) (fun a _ q1 x F2 H2 f2 rx => ⟨⟨a, rx⟩, ?_⟩) fun e _ z => z)
  refine h2 F2 H2 (f1.trans f2) _ (post_imp (post_bd q1) (fun ys _ z y F3 H3 f3 ⟨p, vs, ev, hs, rv⟩ => ?_) fun e _ z F4 H4 f4 => z F4 H4 (f2.trans f4))
  unfold joinSR at z
  by_cases hc : (ys.map (·.length)).sum + ys.length * a.length ≤ 16777216
  · rw [if_pos hc] at z
    exact ⟨a, p, ys, rx, by rw [ev], .inl (by rw [← paired_strs rv]; exact sqL_mono f3.s hs), hc, z _ F3 H3 (f2.trans f3) rfl⟩
  · rw [if_neg hc] at z
    exact z.elim
theorem nn_exn : NotNon (tExn K) := fun F v a r e => by
  cases a with
  | own c =>
    obtain ⟨p, h, _⟩ := r
    rw [e] at h
    cases h
  | fld _ _ _ => exact r
end
section
variable {X : Cx} {x : Str} {pos : Pos} {a : Addr}
theorem pe_gc (h : X.mg x = some (.ref a)) (hg : Gl X x := by rfl) (hd : (x == ("__debug__" : Str)) = false := by decide) : PE X (.Name x pos) (tC (.ref a)) := pe_glob (v := .ref a) hg h rfl hd
end
/-! ### endings over hookX -/
theorem law_endX {l : PySem.W.OpenLaw} {n k nn : Nat} {q : Program} {loose : List Str} {XP : (Str → Option Value) → Heap → Prop} {d : DefRec} {fa : List He.Fa} {fn : List He.DefD} {fx : PySem.W.Frag → Bool} {m : List Int → R Bool} {y : Str}
    (hn : l.most = some n) (hn2 : n ≤ sizeLine) (hdf : d.params.defaults = []) (hr : Room k callerA)
    (F : ∀ (w : World) (K : PySem.W.Frag) (mg : Str → Option Value) (h : Heap), K.In h → h.Ns mainGlobals mg → He.SaysD fa fn K → fx K = true → LawX l.prog w K mg k d.name y (SpF K (aOne (tList K tInt)) tBool m))
    (M : ∀ ns : List Int, ns.length ≤ n → m ns = .ok true) :
    PySem.W.WalkO q loose XP (hookX nn fa fn fx).says l.row.toRowW d [] (fun f vs => PySem.call f vs) := by
  refine Att.attach_call hn hdf fun w s₀ s₁ mg mb f o pm cd doc a vs ns G Y ho hd hcd hmg hobj hints hlen hg => ?_
  obtain ⟨K, KX, hs, hx⟩ := Y
  obtain ⟨f2, fd, hF, hm2, hb⟩ := (F w K mg _ KX G.T.g hs hx).ex
  obtain rfl : f2 = f := by
    rw [hmg] at hm2
    injection hm2 with z
    injection z with z
    exact z.symm
  refine law_call (sp := SpF K (aOne (tList K tInt)) tBool m) KX G.T.g G.T.b G.T.builtins G.T.nolimit hg hobj hints (Nat.le_trans hlen hn2) hr (fun base _ _ => hF base) hb (fun H hO hS => ?_) fun H e s' z => ?_
  · refine ⟨H, ns, Same.refl H, ⟨_, rfl, a, ns.map V.int, rfl, hS, paired_of_ints ns⟩, ?_⟩
    rw [M ns hlen]
    exact fun v F' H' _ r => r
  · obtain ⟨_, _, _, _, _, _, _, _, _, _, _, _, z⟩ := z
    exact z
theorem law_endGX {l : PySem.W.OpenLaw} {n k nn : Nat} {q : Program} {loose : List Str} {XP : (Str → Option Value) → Heap → Prop} {d : DefRec} {fa : List He.Fa} {fn : List He.DefD} {fx : PySem.W.Frag → Bool} {m : List Int → R Bool} {y : Str}
    (hn : l.most = some n) (hn2 : n ≤ sizeLine) (hdf : d.params.defaults = []) (hr : Room k callerA)
    (F : ∀ (w : World) (K : PySem.W.Frag) (mg : Str → Option Value) (h : Heap), K.In h → h.Ns mainGlobals mg → He.SaysD fa fn K → fx K = true → LawG l.prog w K mg k d.name y (SpF K (aOne (tList K tInt)) tBool m))
    (M : ∀ ns : List Int, ns.length ≤ n → m ns = .ok true) :
    PySem.W.WalkO q loose XP (hookX nn fa fn fx).says l.row.toRowW d [] (fun f vs => PySem.call f vs) := by
  refine Att.attach_call hn hdf fun w s₀ s₁ mg mb f o pm cd doc a vs ns G Y ho hd hcd hmg hobj hints hlen hg => ?_
  obtain ⟨K, KX, hs, hx⟩ := Y
  obtain ⟨f2, fd, hF, hm2, hb⟩ := (F w K mg _ KX G.T.g hs hx).ex
  obtain rfl : f2 = f := by
    rw [hmg] at hm2
    injection hm2 with z
    injection z with z
    exact z.symm
  exact law_goG KX G.T.g G.T.b G.T.builtins G.T.nolimit hg hobj hints (Nat.le_trans hlen hn2) hr hF hb (M ns hlen)
end TL
namespace TL
open PySem PySem.Spec PyProof.Rows L2
section
variable {K : PySem.W.Frag} {W : WS} {σ : L2.St} {F H : Hp} {α : Type} {ta : Ty α} {te : TE}
theorem ev_toDY {enc : α → PyData} {n : Nat} (da : IsD K ta enc n) {m : R (List α)} (h : Ev (yList ta) te W σ F H m) : Ev (yList (tDyn K)) te W σ F H (bd m fun as => .ok (as.map fun a => Dyn.dat (enc a))) := ev_cast (fun F v a r b e => by
  cases e
  obtain ⟨p, vs, h1, h2, h3⟩ := r
  exact ⟨p, vs, h1, h2, paired_toD da h3⟩) (fun _ => calm_ok) h
end
end TL
/-! ## TL19: enumerate of a tuple -/
namespace TL
open PySem PySem.Spec PyProof.Rows L2
open Sem (wp)
theorem meets_enumT (a : Addr) (items : Array Value) :
    Meets (Builtin.«enumerate.__new__» ⟨[.type "enumerate", .ref a], []⟩) (fun _ R s => s.heap.IsTuple a items ∧
      R (.ok (.ret (.ref (s.heap.push { cls := .type "tuple_iterator", data := .fields #[.ref a, .int 0 0] }).objs.size)))
        { s with heap := (s.heap.push { cls := .type "tuple_iterator", data := .fields #[.ref a, .int 0 0] }).push { cls := .type "enumerate", data := .fields #[.none, .bool false, .ref s.heap.objs.size, rawInt 0, .none, .none] } }) :=
  .of_wp fun prog w A R s post => by
    obtain ⟨hp, gs, dr, tk, os⟩ := s
    obtain ⟨tu, post⟩ := post
    have sub := sub_enumerate
    have it : ∀ {A2 : Around} {E Q : Value → Shared → Prop}, Q (.ref hp.objs.size) ⟨hp.push { cls := .type "tuple_iterator", data := .fields #[.ref a, .int 0 0] }, gs, dr, tk, os⟩ → wpAny (model prog w) A2 (pyIter (.ref a)) Q E ⟨hp, gs, dr, tk, os⟩ :=
      fun q => wpAny_pyIter_tuple tu q
    wp_walk using it
    refine wpAny_stack_any fun st => wpAny_pure ?_
    split
    · rename_i c _ _ _ _ _
      cases (c == Value.type "enumerate")
      · wp_walk using it
        exact ⟨_, rfl, post⟩
      · wp_walk using it
        exact ⟨_, rfl, post⟩
    · wp_walk using it
      exact ⟨_, rfl, post⟩
section
variable {prog : Program} {w : World} {A : Around} {E : Value → Shared → Prop} {s : Shared}
theorem call_enumT {a : Addr} {items : Array Value} {Q : Value → Shared → Prop} (tu : s.heap.IsTuple a items)
    (h : ∀ h2, IsEnum h2 (s.heap.objs.size + 1) s.heap.objs.size 0 .none → h2.IsTupleIter s.heap.objs.size a 0 → h2.objs.size = s.heap.objs.size + 2 →
      (∀ b o, s.heap.get? b = some o → h2.get? b = some o) → Q (.ref (s.heap.objs.size + 1)) { s with heap := h2 }) : wpAny (model prog w) A (call (.type "enumerate") [.ref a]) Q E s := by
  apply callType_new F.called_enumerate (by decide) (F.typeCall_enumerate_1 _) (F.newCall_enumerate_1 _) (fun obj => F.args_object_init_2 obj _) F.entry_enumerate_new (meets_enumT a items)
  refine ⟨tu, ?_⟩
  have sz : (s.heap.push { cls := .type "tuple_iterator", data := .fields #[.ref a, .int 0 0] }).objs.size = s.heap.objs.size + 1 := Heap.size_push ..
  show _ ∧ _
  rw [sz]
  have en : IsEnum ((s.heap.push { cls := .type "tuple_iterator", data := .fields #[.ref a, .int 0 0] }).push
      { cls := .type "enumerate", data := .fields #[.none, .bool false, .ref s.heap.objs.size, rawInt 0, .none, .none] }) (s.heap.objs.size + 1) s.heap.objs.size 0 .none := by
    have z := Heap.get?_push_size (s.heap.push { cls := .type "tuple_iterator", data := .fields #[.ref a, .int 0 0] }) (o := { cls := .type "enumerate", data := .fields #[.none, .bool false, .ref s.heap.objs.size, rawInt 0, .none, .none] }) rfl
    rw [sz] at z
    exact z
  refine ⟨⟨_, en, rfl⟩, h _ en ⟨_, Heap.get?_push_of_some _ (Heap.get?_push_size _ rfl), rfl, rfl⟩ ?_ ?_⟩
  · rw [Heap.size_push, sz]
  · exact fun b o x => Heap.get?_push_of_some _ (Heap.get?_push_of_some _ x)
end
/-- the tuple at a, each item in a new pair -/
def IteT (K : PySem.W.Frag) (a : Addr) : It :=
  ⟨fun i H => ∃ (xs : List V) (x : V), SqT K H a xs ∧ xs[i]? = some x, fun i H v G => ∃ T x, v = .ref T ∧ H T = none ∧ G = upd H T (.tup [.int (i : Nat), x]) ∧ ∀ xs, SqT K H a xs → xs[i]? = some x, fun i H => ∃ xs : List V, SqT K H a xs ∧ xs.length ≤ i⟩
theorem turn_enumT {P : Program} {w : World} {K : PySem.W.Frag} {elts : List Expr} {kk : Nat} {tpos : Pos} (a e it : Addr) (apart : a ≠ it ∧ a ≠ e) :
    Turn P w K (.Tuple elts kk tpos) (IteT K a) [e, it] e (fun i h => (∃ old, IsEnum h e it ((i : Nat) : Int) old) ∧ h.IsTupleIter it a i ∧ e ≠ it) where
  mem := by simp
  obj := fun i h st b hb => by
    obtain ⟨⟨old, en⟩, ⟨o, at_, c, d⟩, _⟩ := st
    have two : b = e ∨ b = it := by simpa using hb
    rcases two with z | z
    · rw [z]
      exact ⟨_, en, fun v q => nomatch q⟩
    · rw [z]
      exact ⟨o, at_, fun v q => by rw [d] at q; cases q⟩
  keep := fun i h g st k => by
    obtain ⟨⟨old, en⟩, ti, ne⟩ := st
    exact ⟨⟨old, k e (by simp) _ en⟩, ti.at fun o q => k it (by simp) o q, ne⟩
  item := by
    intro X hP hw hK hc i pins s σ H E I hf st hg
    subst hP hw hK
    obtain ⟨⟨old, en⟩, ti, ne⟩ := st
    obtain ⟨xs, x, sq, hx⟩ := hg
    obtain ⟨its, rv, tup, _⟩ := I.tuple sq
    have tup : s.heap.IsTuple a its.toArray := tup
    obtain ⟨u, hu, ru⟩ := rv.get hx
    have lt_e : e < s.heap.objs.size := Heap.lt_size en
    have lt_it : it < s.heap.objs.size := by
      obtain ⟨_, q, _⟩ := ti
      exact Heap.lt_size q
    have lt : i < its.toArray.size := by
      have := (List.getElem?_eq_some_iff.mp hu).1
      simpa using this
    refine wpAny_pyNext_enum_itemD (Draws.tuple (A := X.A.in1) (show X.A.in1.handled = none from I.ok.hd hc) it a apart.1 its.toArray) en (show s.heap.IsTupleIter it a i ∧ s.heap.IsTuple a its.toArray from ⟨ti, tup⟩) lt ne (by simp; exact ⟨ne, fun z => apart.2 z.symm⟩) fun u2 g tk hu2 out st2 at_ sz kept => ?_
    have hu2 : its[i]? = some u2 := by simpa using hu2
    rw [hu] at hu2
    have hu2 := Option.some.inj hu2
    subst hu2
    refine ⟨_, rfl, wpAny_letOwnedTupleGo_enum (s := { s with heap := g, toks := tk + 1 }) out fun g2 en2 sb => ?_⟩
    have at2 : g2.get? s.heap.objs.size = some { cls := .type "tuple", data := .seq #[.int i tk, u] } := (sb.2 _ (Nat.ne_of_gt lt_e)).trans at_
    have new : ObjOk X.prog X.w (upd H s.heap.objs.size (.tup [.int (i : Nat), x])) g2 s.heap.objs.size (.tup [.int (i : Nat), x]) := by
      refine ⟨by show 2 ≤ sizeLine; decide, [.int i tk, u], .cons ⟨_, rfl⟩ (.cons ru .nil), ⟨_, at2, rfl, _, rfl⟩⟩
    have I2 : Inv X pins σ (upd H s.heap.objs.size (.tup [.int (i : Nat), x])) { s with heap := g2, toks := tk + 1 } := by
      refine I.turnedNew (ch := [e, it]) (fun b ob hb q => ?_) hf (Nat.le_refl _) new
      have n1 : b ≠ e := fun z => hb (by simp [z])
      have n2 : b ≠ it := fun z => hb (by simp [z])
      exact (sb.2 b n1).trans (kept b ob n1 n2 q)
    refine ⟨.ref s.heap.objs.size, _, I2, rfl, ⟨_, x, rfl, I.hok.fresh (Nat.le_refl _), rfl, fun ys hy => by rw [I.tuple_inj hy sq]; exact hx⟩, ⟨⟨u, ?_⟩, st2.1.at fun o q => (sb.2 it (Ne.symm ne)).trans q, ne⟩, fun b hb => ?_⟩
    · rw [show ((i + 1 : Nat) : Int) = (i : Int) + 1 by omega]
      exact en2
    · have below : b < s.heap.objs.size := by
        have two : b = e ∨ b = it := by simpa using hb
        rcases two with z | z
        · rw [z]
          exact lt_e
        · rw [z]
          exact lt_it
      rw [upd_ne (Nat.ne_of_lt below)]
      exact (hf b hb).1
  done := by
    intro X hP hw hK hc i pins s σ H E I hf st hg
    subst hP hw hK
    obtain ⟨⟨old, en⟩, ti, ne⟩ := st
    obtain ⟨xs, sq, hx⟩ := hg
    obtain ⟨its, rv, tup, _⟩ := I.tuple sq
    have tup : s.heap.IsTuple a its.toArray := tup
    obtain ⟨f0, f1, f2, f3, f4, f5⟩ := hf it (by simp)
    have hl := rv.length
    have off : its.toArray[i]? = none := by
      simp
      omega
    have D : Draws X.prog X.w X.A.in1 it [it, a] i (fun _ _ => True) (fun j h => j = i ∧ h.IsTupleIter it a i ∧ h.IsTuple a its.toArray) := {
      live := fun _ _ q => by
        obtain ⟨_, ⟨o, ho, _⟩, _⟩ := q
        exact ⟨o, ho⟩
      frame := fun _ _ _ q hk => ⟨q.1, q.2.1.at fun o e => hk it (by simp) o e, q.2.2.at fun o e => hk a (by simp) o e⟩
      item := fun j s Q E hj q _ => absurd q.1 (Nat.ne_of_lt hj)
      done := fun s Q E q hE => wpAny_nextOf_tuple_end (show X.A.in1.handled = none from I.ok.hd hc) q.2.1 q.2.2 off hE }
    exact wpAny_pyNext_enum_endD D en ⟨rfl, ti, tup⟩ fun g eb => ⟨rfl, I.turned (t' := s.toks) (fun b o hb q => eb b o hb q) f0 f1 f3 f4 f5⟩
  self := fun A i s Q E st h => by
    obtain ⟨⟨_, en⟩, _⟩ := st
    exact wpAny_pyIter_enum en h
def iEnumT (K : PySem.W.Frag) (ta : TA) : TI := fun σ H R => ta σ H fun vs H1 => ∃ a xs, vs = [.ref a] ∧ SqT K H1 a xs ∧ R (IteT K a) H1
theorem pi_enumT {X : Cx} {K : PySem.W.Frag} {e : Expr} {ta : TA} {p pos tpos : Pos} {elts : List Expr} {kk : Nat} (hK : X.K = K) (hm : X.mg "enumerate" = none) (ha : PA X [e] ta) (hg : Gl X "enumerate" := by rfl) (hs : starEach [e] X.env = [(false, eval e X.env)] := by rfl) :
    PI X (.Tuple elts kk tpos) (.Call (.Name "enumerate" p) [e] [] pos) (iEnumT K ta) := by
  subst hK
  constructor
  intro pins s σ H R I h
  refine Call_ (ld_blt I hg hm boot_enumerate (PyProof.Rows.callWith_type1 (thn (ha.run pos pins s σ H _ I h) fun us s1 ⟨vs, H1, J, rv, q⟩ => ?_) hs rfl))
  obtain ⟨a, xs, ex, sq, q⟩ := q
  subst ex
  cases rv with
  | cons r rest =>
    cases rest
    cases r
    obtain ⟨its, rv2, tup, _⟩ := J.tuple sq
    have tup : s1.heap.IsTuple a its.toArray := tup
    have lt : a < s1.heap.objs.size := by
      obtain ⟨o, at_, _⟩ := tup
      exact Heap.lt_size at_
    refine call_enumT tup fun g en ti sz kept => wpAny_pyIter_enum en ?_
    have J2 : Inv X pins σ H1 { s1 with heap := g } := J.kept (t' := s1.toks) kept
    refine ⟨s1.heap.objs.size + 1, [s1.heap.objs.size + 1, s1.heap.objs.size], _, _, H1, rfl, J2, turn_enumT a (s1.heap.objs.size + 1) s1.heap.objs.size ⟨Nat.ne_of_lt lt, Nat.ne_of_lt (Nat.lt_succ_of_lt lt)⟩, ⟨⟨.none, en⟩, ti, Nat.succ_ne_self _⟩, fun b hb => ?_, q⟩
    have two : b = s1.heap.objs.size + 1 ∨ b = s1.heap.objs.size := by simpa using hb
    have up : s1.heap.objs.size ≤ b := by rcases two with z | z <;> rw [z] <;> omega
    exact J.fpOk up (J.hok.fresh up)
section
variable {K : PySem.W.Frag} {W : WS} {σ : L2.St} {F H : Hp} {α : Type} {ta : Ty α} {te : TE}
theorem ei_enumT {m : R (List α)} (h : Ev (yTupL K ta) te W σ F H m) : EvI (yTup K (aCons tInt (aOne ta))) (iEnumT K (tCons te tNil)) W σ F H (bd m fun xs => .ok (enumG xs)) := fun F1 H1 f1 Rr q =>
  h F1 H1 f1 _ (post_imp (post_bd q) (fun xs _ k x F2 H2 f2 ⟨p, vs, ex, hs, rv⟩ => ⟨p, vs, by rw [ex], sqT_mono f2.s hs, k _ F2 H2 f2 fun F3 H3 s3 s4 i => by
    have hs3 : SqT K H3 p vs := sqT_mono s4 (sqT_mono s3 hs)
    refine ⟨fun hi => ⟨vs, hs3, by unfold enumG at hi; rw [List.length_map, List.length_zipIdx] at hi; rw [rv.length]; exact hi⟩, fun x hx => ?_⟩
    unfold enumG at hx
    rw [List.getElem?_map, List.getElem?_zipIdx] at hx
    cases ei : xs[i]? with
    | none =>
      rw [ei] at hx
      cases hx
    | some a =>
      rw [ei] at hx
      have hx := (Option.some.inj hx).symm
      subst hx
      obtain ⟨w, h1, h2⟩ := paired_get rv ei
      refine ⟨⟨vs, w, hs3, h1⟩, ?_⟩
      rintro v G ⟨T, y, rfl, hT, rfl, hy⟩
      have ey := hy vs hs3
      rw [h1] at ey
      have ey := Option.some.inj ey
      subst ey
      refine ⟨_, Fr.alloc s4 hT, T, _, rfl, upd_same, ?_⟩
      refine ⟨_, _, rfl, by simp; rfl, _, rfl, ?_⟩
      exact ta.mono ((same_upd (s4.free hT))) (ta.mono s3 h2)⟩) fun e _ z => z)
end
theorem d_none {K : PySem.W.Frag} : IsD K tNone (fun _ => PyData.none) 0 := ⟨fun {F v a} r => by
  have r : v = .non := r
  subst r
  exact .non, fun _ => Nat.le_refl _⟩
end TL
/-! ## TL20: texts compared, .index, str(int), int(text), a dict among any things -/
namespace TL
open PySem PySem.Spec PyProof.Rows L2
section
variable {K : PySem.W.Frag} {W : WS} {σ : L2.St} {F H F' H' F0 H0 : Hp} {α β γ δ ρ S : Type} {ta : Ty α} {tb : Ty β} {tc : Ty γ} {te te1 te2 te3 : TE} {v : V}
def leS (a b : Str) : Bool := !decide (b.cps.toList < a.cps.toList)
def rLeS : R2 := fun x y H Q => ∃ i j, x = .str i ∧ y = .str j ∧ Q (.bl (!decide (j.cps.toList < i.cps.toList))) H
theorem o_leS : Op2 tStr tStr tBool rLeS (fun a b => .ok (leS a b)) := op2_pure fun F H s x y a b ra rb Q q => ⟨a, b, ra, rb, q _ rfl⟩
theorem ko_leS {X : Cx} : OpR X (compareOp .LtE) rLeS := op_le_str
theorem ev_leS {m1 m2 : R Str} (h1 : Ev tStr te1 W σ F H m1) (h2 : Ev tStr te2 W σ F H m2) : Ev tBool (tOp rLeS te1 te2) W σ F H (bd m1 fun a => bd m2 fun b => .ok (leS a b)) := ev_op o_leS (fun _ _ => calm_ok) h1 h2
/-- text.index(part), the part found -/
def indexSR (a b : Str) : R Int := match Builtin.Str.occurrences a b 0 a.length 1 with
  | i :: _ => .ok ((i : Nat) : Int)
  | [] => .stuck
def rIndexT : V → List V → Hp → VK → Prop := fun x xs H Q => ∃ a b i rest, x = .str a ∧ xs = [.str b] ∧ Builtin.Str.occurrences a b 0 a.length 1 = i :: rest ∧ Q (.int (i : Nat)) H
theorem mt_indexT {X : Cx} : MtR X "str.index" rIndexT := mt_sindex
theorem ev_indexT {m1 : R Str} {m2 : R Str} (h1 : Ev tStr te1 W σ F H m1) (h2 : Ev tStr te2 W σ F H m2) : Ev tInt (tM1 rIndexT te1 te2) W σ F H (bd m1 fun a => bd m2 fun b => indexSR a b) := fun F1 H1 f1 Q q => by
  refine h1 F1 H1 f1 _ (post_imp (post_bd q) (fun a _ q1 x F2 H2 f2 rx => ⟨⟨a, rx⟩, ?_⟩) fun e _ z => z)
  refine h2 F2 H2 (f1.trans f2) _ (post_imp (post_bd q1) (fun b _ z y F3 H3 f3 ry => ?_) fun e _ z F4 H4 f4 => z F4 H4 (f2.trans f4))
  unfold indexSR at z
  cases e : Builtin.Str.occurrences a b 0 a.length 1 with
  | nil =>
    rw [e] at z
    exact z.elim
  | cons i r =>
    rw [e] at z
    exact ⟨a, b, i, r, rx, by rw [show y = .str b from ry], e, z _ F3 H3 (f2.trans f3) rfl⟩
/-- str(int) -/
def strIR (i : Int) : R Str := if i.natAbs.log2 < 1920 then .ok (Str.ofString (toString i)) else .stuck
theorem calm_strIR {i : Int} : Calm (strIR i) := calm_ite calm_ok calm_stuck
def rStrI : List V → Hp → VK → Prop := fun xs H Q => ∃ i, xs = [.int i] ∧ i.natAbs.log2 < 1920 ∧ Q (.str (Str.ofString (toString i))) H
theorem kc_strI {X : Cx} : CallR X (.type "str") rStrI := call_str_int
theorem ev_strI {m : R Int} (h : Ev tInt te W σ F H m) : Ev tStr (tCB rStrI (tCons te tNil)) W σ F H (bd m strIR) := ev_cb1 (fun F H s x a r Q q => by
  unfold strIR at q
  by_cases c : a.natAbs.log2 < 1920
  · rw [if_pos c] at q
    exact ⟨a, by rw [show x = .int a from r], c, q _ F H (Fr.refl s) rfl⟩
  · rw [if_neg c] at q
    exact q.elim) (fun _ => calm_strIR) h
/-- int(text) -/
def intSR (a : Str) : R Int := if a.length ≤ 640 then (match PySem.intText? a with
  | some n => .ok n
  | none => .stuck) else .stuck
theorem calm_intSR {a : Str} : Calm (intSR a) := by
  refine calm_ite ?_ calm_stuck
  cases PySem.intText? a with
  | none => exact calm_stuck
  | some n => exact calm_ok
def rIntS : List V → Hp → VK → Prop := fun xs H Q => ∃ a n, xs = [.str a] ∧ PySem.intText? a = some n ∧ a.length ≤ 640 ∧ Q (.int n) H
theorem kc_intS {X : Cx} : CallR X (.type "int") rIntS := call_int_str
theorem ev_intS {m : R Str} (h : Ev tStr te W σ F H m) : Ev tInt (tCB rIntS (tCons te tNil)) W σ F H (bd m intSR) := ev_cb1 (fun F H s x a r Q q => by
  unfold intSR at q
  by_cases c : a.length ≤ 640
  · rw [if_pos c] at q
    cases e : PySem.intText? a with
    | none =>
      rw [e] at q
      exact q.elim
    | some n =>
      rw [e] at q
      exact ⟨a, n, by rw [show x = .str a from r], e, c, q _ F H (Fr.refl s) rfl⟩
  · rw [if_neg c] at q
    exact q.elim) (fun _ => calm_intSR) h
theorem upd_twice {H : Hp} {p : Addr} {a b : HO} : upd (upd H p a) p b = upd H p b := by
  funext q
  by_cases e : q = p
  · subst e
    rw [upd_same, upd_same]
  · rw [upd_ne e, upd_ne e, upd_ne e]
theorem ev_disp1 {i j : Int} : Ev (tDyn K) (tDisp [(tC (.int i), tC (.int j))]) W σ F H (.ok .dct) := fun F1 H1 f1 Q q p hp => by
  refine ⟨upd_same, [(Sum.inl i, .int j)], rfl, by show 1 ≤ 15; decide, ?_⟩
  rw [upd_twice]
  exact q (.ref p) _ _ (Fr.alloc f1.s hp) ⟨p, _, rfl, upd_same⟩
/-- text + text -/
def catSR (a b : Str) : R Str := if a.length + b.length ≤ 100000 then .ok (a ++ b) else .stuck
theorem calm_catSR {a b : Str} : Calm (catSR a b) := calm_ite calm_ok calm_stuck
def rAddS : R2 := fun x y H Q => ∃ i j, x = .str i ∧ y = .str j ∧ i.length + j.length ≤ sizeLine ∧ Q (.str (i ++ j)) H
theorem ko_addS {X : Cx} : OpR X (binaryOp .Add) rAddS := op_add_str
theorem ev_addS {m1 m2 : R Str} (h1 : Ev tStr te1 W σ F H m1) (h2 : Ev tStr te2 W σ F H m2) : Ev tStr (tOp rAddS te1 te2) W σ F H (bd m1 fun a => bd m2 fun b => catSR a b) :=
  ev_op (op2_pure fun F H s x y a b ra rb Q q => by
    unfold catSR at q
    by_cases c : a.length + b.length ≤ 100000
    · rw [if_pos c] at q
      exact ⟨a, b, ra, rb, small_line c, q _ rfl⟩
    · rw [if_neg c] at q
      exact q.elim) (fun _ _ => calm_catSR) h1 h2
/-- text[lo:hi] -/
def cutSR (z : Str) (lo hi : Option Int) : R Str := if z.length ≤ 100000 then .ok (cutS z lo hi) else .stuck
theorem ev_sliceS {tl th : TO} {m : R Str} {ml mh : R (Option Int)} (h : Ev tStr te W σ F H m) (hl : EvO tl W σ F H ml) (hh : EvO th W σ F H mh) : Ev tStr (tSl rSlS te tl th) W σ F H (bd m fun z => bd ml fun lo => bd mh fun hi => cutSR z lo hi) := fun F1 H1 f1 Q q => by
  refine h F1 H1 f1 _ (post_imp (post_bd q) (fun z _ q1 x F2 H2 f2 rx => ?_) fun e _ z => z)
  refine hl F2 H2 (f1.trans f2) _ (post_imp (post_bd q1) (fun lo _ q2 F3 H3 f3 => ?_) fun e _ z F4 H4 f4 => z F4 H4 (f2.trans f4))
  refine hh F3 H3 ((f1.trans f2).trans f3) _ (post_imp (post_bd q2) (fun hi _ q3 F4 H4 f4 => ?_) fun e _ z F5 H5 f5 => z F5 H5 ((f2.trans f3).trans f5))
  unfold cutSR at q3
  by_cases c : z.length ≤ 100000
  · rw [if_pos c] at q3
    exact ⟨z, rx, small_line c, q3 _ F4 H4 ((f2.trans f3).trans f4) rfl⟩
  · rw [if_neg c] at q3
    exact q3.elim
end
end TL
/-! ## TL21: dicts of one's own, with keys that are ints, texts, or tuples of such -/
namespace TL
open PySem PySem.Spec PyProof.Rows L2
/-- the kinds of dict: keys plain, keys tuples -/
structure DKd (kk : Type) [DecidableEq kk] where
  ho : List (kk × V) → HO
  key : Hp → V → kk → Prop
  get : ∀ {H : Hp} {a : Addr} {kvs : List (kk × V)} {y : V} {k : kk}, H a = some (ho kvs) → key H y k → DGet H a y (valV kvs k)
  put : ∀ {H : Hp} {a : Addr} {kvs : List (kk × V)} {y v : V} {k : kk}, H a = some (ho kvs) → key H y k → kvs.length < sizeLine → DPut H a y v (upd H a (ho (putK kvs k v)))
def dKk : DKd Key := ⟨.dK, fun _ y k => y = kV k, fun e r => by rw [r]; exact .k e, fun e r l => by rw [r]; exact .k e l⟩
def dKt : DKd (List Key) := ⟨.dT, fun H y k => ∃ b, y = .ref b ∧ H b = some (.tup (k.map kV)), fun e ⟨b, r, eb⟩ => by rw [r]; exact .t e eb, fun e ⟨b, r, eb⟩ l => by rw [r]; exact .t e eb l⟩
/-- a type whose things are keys -/
structure KTy {κ kk : Type} [DecidableEq kk] (D : DKd kk) (tk : Ty κ) where
  enc : κ → kk
  inj : ∀ {a b : κ}, enc a = enc b → a = b
  is : ∀ {F H : Hp} {v : V} {a : κ}, Same F H → tk.rep F v a → D.key H v (enc a)
def kInt : KTy dKk tInt := ⟨fun i => Sum.inl i, fun h => by injection h, fun _ r => r⟩
def kStr : KTy dKk tStr := ⟨fun i => Sum.inr i, fun h => by injection h, fun _ r => r⟩
def kII (K : PySem.W.Frag) : KTy dKt (yTup K (aCons tInt (aOne tInt))) := ⟨fun a => [Sum.inl a.1, Sum.inl a.2], fun {a b} h => by
  obtain ⟨a1, a2⟩ := a
  obtain ⟨b1, b2⟩ := b
  simp at h
  rw [h.1, h.2], fun {F H v a} s r => by
  obtain ⟨p, vs, ev, hs, w, ws, e1, r1, w2, e2, r2⟩ := r
  refine ⟨p, ev, s _ _ ?_⟩
  rw [hs, e1, e2, show w = .int a.1 from r1, show w2 = .int a.2 from r2]
  rfl⟩
def DRep {κ kk β : Type} [DecidableEq kk] {D : DKd kk} {tk : Ty κ} (k : KTy D tk) (tv : Ty β) (F : Hp) (kvs : List (kk × V)) (as : List (κ × β)) : Prop := Paired (fun (p : kk × V) (q : κ × β) => p.1 = k.enc q.1 ∧ tv.rep F p.2 q.2) kvs as
def getA {κ β : Type} [DecidableEq κ] (as : List (κ × β)) (k : κ) : Option β := (as.find? fun q => decide (q.1 = k)).map (·.2)
def hasA {κ β : Type} [DecidableEq κ] (as : List (κ × β)) (k : κ) : Bool := as.any fun q => decide (q.1 = k)
def putA {κ β : Type} [DecidableEq κ] (as : List (κ × β)) (k : κ) (b : β) : List (κ × β) := if hasA as k = true then as.map (fun q => if q.1 = k then (q.1, b) else q) else as ++ [(k, b)]
def putAR {κ β : Type} [DecidableEq κ] (as : List (κ × β)) (k : κ) (b : β) : R (List (κ × β)) := if as.length < 100000 then .ok (putA as k b) else .stuck
section
variable {K : PySem.W.Frag} {W : WS} {σ : L2.St} {F H F' H' F0 H0 : Hp} {α β γ δ ρ S κ kk : Type} [DecidableEq kk] [DecidableEq κ] {DD : DKd kk} {tk : Ty κ} {kt : KTy DD tk} {ta : Ty α} {tb : Ty β} {tc : Ty γ} {te te1 te2 te3 : TE} {v : V} {D : Ends} {KK : γ → Prop} {XX : Exn → Prop}
theorem paired_snocG {A B : Type} {P : A → B → Prop} {v : A} {a : B} (r : P v a) : ∀ {vs : List A} {as : List B}, Paired P vs as → Paired P (vs ++ [v]) (as ++ [a])
  | _, _, .nil => .cons r .nil
  | _, _, .cons h t => .cons h (paired_snocG r t)
theorem DRep.mono {kvs : List (kk × V)} {as : List (κ × β)} (s : Same F F') (h : DRep kt tb F kvs as) : DRep kt tb F' kvs as := Paired.mapP h fun _ _ z => ⟨z.1, tb.mono s z.2⟩
theorem DRep.has {kvs : List (kk × V)} {as : List (κ × β)} (h : DRep kt tb F kvs as) (k : κ) : (kvs.any fun p => decide (p.1 = kt.enc k)) = hasA as k := by
  unfold DRep at h
  induction h with
  | nil => rfl
  | @cons p q ps qs r _ ih =>
    unfold hasA at ih ⊢
    rw [List.any_cons, List.any_cons, ih]
    congr 1
    refine decide_eq_decide.mpr ?_
    rw [r.1]
    exact ⟨fun z => kt.inj z, fun z => by rw [z]⟩
theorem DRep.get {kvs : List (kk × V)} {as : List (κ × β)} (h : DRep kt tb F kvs as) (k : κ) : (∃ w b, valV kvs (kt.enc k) = some w ∧ getA as k = some b ∧ tb.rep F w b) ∨ valV kvs (kt.enc k) = none ∧ getA as k = none := by
  unfold DRep at h
  induction h with
  | nil => exact .inr ⟨rfl, rfl⟩
  | @cons p q ps qs r _ ih =>
    by_cases e : q.1 = k
    · refine .inl ⟨p.2, q.2, ?_, ?_, r.2⟩
      · unfold valV
        rw [List.find?_cons_of_pos (by rw [decide_eq_true_eq, r.1, e])]
        rfl
      · unfold getA
        rw [List.find?_cons_of_pos (by rw [decide_eq_true_eq, e])]
        rfl
    · have e1 : valV (p :: ps) (kt.enc k) = valV ps (kt.enc k) := by
        unfold valV
        rw [List.find?_cons_of_neg (by rw [decide_eq_true_eq, r.1]; exact fun z => e (kt.inj z))]
      have e2 : getA (q :: qs) k = getA qs k := by
        unfold getA
        rw [List.find?_cons_of_neg (by rw [decide_eq_true_eq]; exact e)]
      rw [e1, e2]
      exact ih
theorem DRep.put {kvs : List (kk × V)} {as : List (κ × β)} {k : κ} {b : β} {w : V} (h : DRep kt tb F kvs as) (r : tb.rep F w b) : DRep kt tb F (putK kvs (kt.enc k) w) (putA as k b) := by
  unfold putK putA
  rw [h.has k]
  by_cases c : hasA as k = true
  · rw [if_pos c, if_pos c]
    unfold DRep at h ⊢
    induction h with
    | nil => exact .nil
    | @cons p q ps qs r' _ ih =>
      rw [List.map_cons, List.map_cons]
      have t : ∀ {l : List (kk × V)} {m : List (κ × β)}, Paired (fun (p : kk × V) (q : κ × β) => p.1 = kt.enc q.1 ∧ tb.rep F p.2 q.2) l m → Paired (fun (p : kk × V) (q : κ × β) => p.1 = kt.enc q.1 ∧ tb.rep F p.2 q.2) (l.map fun kv => if kv.1 = kt.enc k then (kv.1, w) else kv) (m.map fun q => if q.1 = k then (q.1, b) else q) := by
        intro l m z
        induction z with
        | nil => exact .nil
        | @cons p q ps qs r' _ ih =>
          rw [List.map_cons, List.map_cons]
          refine .cons ?_ ih
          by_cases e : q.1 = k
          · rw [if_pos (by rw [r'.1, e]), if_pos e]
            exact ⟨r'.1, r⟩
          · rw [if_neg (by rw [r'.1]; exact fun z => e (kt.inj z)), if_neg e]
            exact r'
      rename_i hh
      exact t (.cons r' hh)
  · rw [if_neg c, if_neg c]
    exact paired_snocG (P := fun (p : kk × V) (q : κ × β) => p.1 = kt.enc q.1 ∧ tb.rep F p.2 q.2) ⟨rfl, r⟩ h
/-- a dict that is read only -/
def yDict {κ kk β : Type} [DecidableEq kk] [DecidableEq κ] {D : DKd kk} {tk : Ty κ} (k : KTy D tk) (tv : Ty β) : Ty (List (κ × β)) := ⟨fun F v as => ∃ p kvs, v = .ref p ∧ F p = some (D.ho kvs) ∧ DRep k tv F kvs as, fun e ⟨p, kvs, h1, h2, h3⟩ => ⟨p, kvs, h1, e _ _ h2, h3.mono e⟩⟩
/-- a dict that only this def knows -/
def OwnD {κ kk β : Type} [DecidableEq kk] {D : DKd kk} {tk : Ty κ} (k : KTy D tk) (tv : Ty β) (H0 F H : Hp) (v : V) (as : List (κ × β)) : Prop := ∃ p kvs, v = .ref p ∧ H0 p = none ∧ F p = none ∧ H p = some (D.ho kvs) ∧ DRep k tv F kvs as
theorem OwnD.mono {as : List (κ × β)} (f : Fr F H F' H') (o : OwnD kt tb H0 F H v as) : OwnD kt tb H0 F' H' v as := by
  obtain ⟨p, vs, ev, h0, hf, hh, r⟩ := o
  exact ⟨p, vs, ev, h0, f.n p hf (some_ne hh), f.h p _ hh, r.mono f.f⟩
theorem OwnD.kept {w : V} {bs : List (κ × β)} (k : Kept (atV v) F H F' H') (hw : w ≠ v) (o : OwnD kt tb H0 F H w bs) : OwnD kt tb H0 F' H' w bs := by
  obtain ⟨q, ws, ew, h0, hf, hh, r⟩ := o
  have nx : ¬ atV v q := fun z => hw (by rw [ew]; exact z)
  exact ⟨q, ws, ew, h0, k.n q nx hf (some_ne hh), k.h q _ nx hh, r.mono k.f⟩
theorem OwnD.ne {w : V} {bs : List (κ × β)} (n : NewAt v H) (o : OwnD kt tb H0 F H w bs) : w ≠ v := by
  obtain ⟨q, ws, ew, _, _, hh, _⟩ := o
  rw [ew]
  exact n q _ hh
theorem lend_frO {F1 H1 : Hp} {p : Addr} {o : HO} (hf : F p = none) (hh : H p = some o) (f1 : Fr F H F1 H1) : Fr (upd F p o) H (upd F1 p o) H1 := by
  have hf1 : F1 p = none := f1.n p hf (some_ne hh)
  have hh1 := f1.h p _ hh
  refine ⟨fun b u e => ?_, f1.h, fun b u e => ?_, fun b e1 e2 => ?_⟩
  · by_cases q : b = p
    · subst q
      rw [upd_same] at e ⊢
      exact e
    · rw [upd_ne q] at e ⊢
      exact f1.f b u e
  · by_cases q : b = p
    · subst q
      rw [upd_same] at e
      rw [← e]
      exact hh1
    · rw [upd_ne q] at e
      exact f1.s b u e
  · by_cases q : b = p
    · subst q
      rw [upd_same] at e1
      cases e1
    · rw [upd_ne q] at e1 ⊢
      exact f1.n b e1 e2
theorem lend_s {p : Addr} {o : HO} (hh : H p = some o) (s0 : Same F H) : Same (upd F p o) H := fun b u e => by
  by_cases q : b = p
  · subst q
    rw [upd_same] at e
    rw [← e]
    exact hh
  · rw [upd_ne q] at e
    exact s0 b u e
theorem ev_lendD {as : List (κ × β)} {m : R α} (fl : Flat ta) (o : OwnD kt tb H0 F H v as) (s0 : Same F H) (h : ∀ F', Same F F' → (yDict kt tb).rep F' v as → Same F' H → Ev ta te W σ F' H m) : Ev ta te W σ F H m := fun F1 H1 f1 Q q => by
  obtain ⟨p, vs, ev, h0, hf, hh, r⟩ := o
  subst ev
  refine h _ (same_upd hf) ⟨p, vs, rfl, upd_same, r.mono (same_upd hf)⟩ (lend_s hh s0) _ H1 (lend_frO hf hh f1) Q (post_imp q (fun a _ k v F2 H2 f2 rv => ?_) fun e _ z F2 H2 f2 => ?_)
  · exact k v F1 H2 ⟨Same.refl _, f2.h, f1.s.trans f2.h, fun _ h _ => h⟩ (fl _ _ _ _ rv)
  · exact z F1 H2 ⟨Same.refl _, f2.h, f1.s.trans f2.h, fun _ h _ => h⟩
theorem et_lendD {as : List (κ × β)} {tt : TT} {m : R Bool} (o : OwnD kt tb H0 F H v as) (s0 : Same F H) (h : ∀ F', Same F F' → (yDict kt tb).rep F' v as → Same F' H → EvT tt W σ F' H m) : EvT tt W σ F H m := fun F1 H1 f1 Q q => by
  obtain ⟨p, vs, ev, h0, hf, hh, r⟩ := o
  subst ev
  refine h _ (same_upd hf) ⟨p, vs, rfl, upd_same, r.mono (same_upd hf)⟩ (lend_s hh s0) _ H1 (lend_frO hf hh f1) Q (post_imp q (fun a _ k F2 H2 f2 => ?_) fun e _ z F2 H2 f2 => ?_)
  · exact k F1 H2 ⟨Same.refl _, f2.h, f1.s.trans f2.h, fun _ h _ => h⟩
  · exact z F1 H2 ⟨Same.refl _, f2.h, f1.s.trans f2.h, fun _ h _ => h⟩
/-! ### reading -/
theorem DRep.isSome {kvs : List (kk × V)} {as : List (κ × β)} (h : DRep kt tb F kvs as) (k : κ) : (valV kvs (kt.enc k)).isSome = (getA as k).isSome := by
  rcases h.get k with ⟨w, b, e1, e2, _⟩ | ⟨e1, e2⟩ <;> rw [e1, e2] <;> rfl
theorem ev_din {m1 : R κ} {m2 : R (List (κ × β))} (h1 : Ev tk te1 W σ F H m1) (h2 : Ev (yDict kt tb) te2 W σ F H m2) : Ev tBool (tDIn te1 te2) W σ F H (bd m1 fun k => bd m2 fun d => .ok (getA d k).isSome) := fun F1 H1 f1 Q q => by
  refine h1 F1 H1 f1 _ (post_imp (post_bd q) (fun a _ q1 x F2 H2 f2 rx => ?_) fun e _ z => z)
  refine h2 F2 H2 (f1.trans f2) _ (post_imp (post_bd q1) (fun d _ z y F3 H3 f3 ⟨p, kvs, ey, hp, rd⟩ => ?_) fun e _ z F4 H4 f4 => z F4 H4 (f2.trans f4))
  refine ⟨p, _, ey, DD.get (f3.s _ _ hp) (kt.is (f3.f.trans f3.s) rx), ?_⟩
  rw [rd.isSome]
  exact z _ F3 H3 (f2.trans f3) rfl
theorem ev_dnotin {m1 : R κ} {m2 : R (List (κ × β))} (h1 : Ev tk te1 W σ F H m1) (h2 : Ev (yDict kt tb) te2 W σ F H m2) : Ev tBool (tDNotIn te1 te2) W σ F H (bd m1 fun k => bd m2 fun d => .ok (!(getA d k).isSome)) := fun F1 H1 f1 Q q => by
  refine h1 F1 H1 f1 _ (post_imp (post_bd q) (fun a _ q1 x F2 H2 f2 rx => ?_) fun e _ z => z)
  refine h2 F2 H2 (f1.trans f2) _ (post_imp (post_bd q1) (fun d _ z y F3 H3 f3 ⟨p, kvs, ey, hp, rd⟩ => ?_) fun e _ z F4 H4 f4 => z F4 H4 (f2.trans f4))
  refine ⟨p, _, ey, DD.get (f3.s _ _ hp) (kt.is (f3.f.trans f3.s) rx), ?_⟩
  rw [rd.isSome]
  exact z _ F3 H3 (f2.trans f3) rfl
/-! ### d[k] = v -/
theorem s_dput {i : Nat} {as : List (κ × β)} {mv : R β} {mk : R κ} {f : List (κ × β) → R γ} (hX : ∀ e, XX e → ∀ σ F' H', Fr F0 H0 F' H' → W e σ H') (fr : Fr F0 H0 F H) (hv : σ[i]? = some (some v)) (o : OwnD kt tb H0 F H v as) (h1 : Ev tb te1 W σ F H mv) (h2 : Ev tk te2 W σ F H mk)
    (hp : Post (bd mv fun b => bd mk fun k => bd (putAR as k b) f) KK XX)
    (k : ∀ bs F' H', Same F F' → Fr F0 H0 F' H' → OwnD kt tb H0 F' H' v bs → Kept (atV v) F H F' H' → Post (f bs) KK XX → D.nx σ H') : sDPut (tVar i) te2 te1 D σ H := by
  obtain ⟨p, kvs, ev, h0, hf, hh, r⟩ := o
  subst ev
  refine h1 F H (Fr.refl fr.s) _ (post_imp (post_bd hp) (fun b e q x F1 H1 f1 rb => ?_) fun e _ z F' H' f' => hX e z _ _ _ (fr.trans f'))
  refine ⟨_, hv, ?_⟩
  refine h2 F1 H1 f1 _ (post_imp (post_bd q) (fun a e q2 y F2 H2 f2 ra => ?_) fun e _ z F' H' f' => hX e z _ _ _ (fr.trans (f1.trans f')))
  have f12 := f1.trans f2
  unfold putAR at q2
  by_cases hl : as.length < 100000
  · rw [if_pos hl] at q2
    have hF' : F2 p = none := f12.n p hf (some_ne hh)
    refine ⟨p, _, rfl, DD.put (f12.h _ _ hh) (kt.is f2.s ra) (Nat.lt_of_lt_of_le (show kvs.length < 100000 by rw [Paired.length r]; exact hl) (by decide)), ?_⟩
    refine k (putA as a b) F2 _ f12.f ((fr.trans f12).mut h0 hF') ⟨p, _, rfl, h0, hF', upd_same, (r.mono f12.f).put (tb.mono f2.f rb)⟩ ⟨f12.f, fun q' o nx hh' => ?_, fun q' _ => f12.n q'⟩ q2
    rw [upd_ne fun z => nx (by rw [z])]
    exact f12.h _ _ hh'
  · rw [if_neg hl] at q2
    exact q2.elim
/-! ### x = xs.pop() -/
def popR (as : List α) : R (α × List α) := match as.getLast? with
  | some a => .ok (a, as.dropLast)
  | none => .stuck
theorem paired_dropLast {P : V → α → Prop} : ∀ {vs : List V} {as : List α}, Paired P vs as → Paired P vs.dropLast as.dropLast
  | _, _, .nil => .nil
  | [v], [a], .cons _ .nil => .nil
  | v :: w :: vs, a :: b :: as, .cons r (.cons r2 t) => .cons r (paired_dropLast (.cons r2 t))
theorem s_pop {i j : Nat} {as : List α} {f : α × List α → R γ} (fr : Fr F0 H0 F H) (hv : σ[j]? = some (some v)) (o : Own ta H0 F H v as) (hp : Post (bd (popR as) f) KK XX)
    (k : ∀ (t : α × List α) w H', Fr F0 H0 F H' → Own ta H0 F H' v t.2 → ta.rep F w t.1 → Kept (atV v) F H F H' → Post (f t) KK XX → D.nx (σ.set i (some w)) H') : tAsg (tBM0 K "list" rPop (tVar j)) (gName i) D σ H := by
  obtain ⟨p, vs, ev, h0, hf, hh, r⟩ := o
  subst ev
  refine ⟨_, hv, .inl ⟨rfl, vs, SqL.of hh⟩, ?_⟩
  unfold popR at hp
  cases e : as.getLast? with
  | none =>
    rw [e] at hp
    exact hp.elim
  | some a =>
    rw [e] at hp
    rw [List.getLast?_eq_getElem?] at e
    obtain ⟨w, h1, h2⟩ := paired_get r e
    refine ⟨p, vs, w, rfl, rfl, hh, by rw [r.length]; exact h1, ?_⟩
    refine k (a, as.dropLast) w _ (fr.mut h0 hf) ⟨p, _, rfl, h0, hf, upd_same, paired_dropLast r⟩ h2 ⟨Same.refl _, fun q' o nx hh' => ?_, fun q' _ h _ => h⟩ hp
    rw [upd_ne fun z => nx (by rw [z])]
    exact hh'
end
section
variable {K : PySem.W.Frag} {W : WS} {σ : L2.St} {F H : Hp} {α : Type} {ta : Ty α} {te : TE}
theorem paired_some (hn : NotNon ta) : ∀ {vs : List V} {as : List α}, Paired (ta.rep F) vs as → Paired ((tOpt ta).rep F) vs (as.map some)
  | _, _, .nil => .nil
  | _, _, .cons h t => .cons ⟨hn _ _ _ h, h⟩ (paired_some hn t)
theorem ev_listOpt (hn : NotNon ta) {m : R (List α)} (h : Ev (yList ta) te W σ F H m) : Ev (yList (tOpt ta)) te W σ F H (bd m fun as => .ok (as.map some)) := ev_cast (fun F v a r b e => by
  cases e
  obtain ⟨p, vs, h1, h2, h3⟩ := r
  exact ⟨p, vs, h1, h2, paired_some hn h3⟩) (fun _ => calm_ok) h
end
/-! ### {(a, b): v} -/
def tDispT1 (tk tv : TE) : TE := fun σ H Q => ∀ p, H p = none → tk σ (upd H p (.dT [])) fun x H1 => tv σ H1 fun y H2 => ∃ b ks, x = .ref b ∧ H2 b = some (.tup (ks.map kV)) ∧ H2 p = some (.dT []) ∧ Q (.ref p) (upd H2 p (.dT [(ks, y)]))
theorem pe_dispT1 {X : Cx} {pos : Pos} {k v : Expr} {tk tv : TE} (hu : X.A.units + 1 < cLine) (hk : PE X k tk) (hv : PE X v tv) : PE X (.Dict [some k] [v] pos) (tDispT1 tk tv) := by
  refine ⟨fun pins s σ H Q I q => ?_⟩
  have hn := I.hok.fresh (Nat.le_refl s.heap.objs.size)
  have I1 := I.laid (a := s.heap.objs.size) (o := .dT []) (h' := s.heap.push { cls := .type "dict", data := .dict #[] }) (t' := s.toks) (fun _ _ q => Heap.get?_push_of_some _ q) (Nat.le_refl _) (dt_empty s.heap I.big)
  rw [arm_eval_Dict, zip_pairTrees [some k] [v] X.env pos rfl rfl, dictDisplay_pairs _ (by simp [pairTrees]) (by simp [pairTrees])]
  refine wpAny_bind (wpAny_standAt (wpAny_bind ?_))
  unfold subDict
  refine wpAny_bind (wpAny_alloc ?_)
  refine wpAny_bind (wpAny_holding ?_)
  rw [if_pos (by simp [pairTrees])]
  refine wpAny_bind (pairTrees_cons_walk (thn (hk.run pins _ σ _ _ I1 (q _ hn)) fun u s1 ⟨x, H1, J1, rx, q1⟩ => thn (hv.run pins s1 σ H1 _ J1 q1) fun w2 s2 ⟨y, H2, J2, ry, b, ks, ex, hb, hp, q2⟩ => pairTrees_nil_walk ?_))
  subst ex
  cases (show u = Value.ref b from rx)
  refine wpAny_holding (wpAny_bind ?_)
  rw [List.forIn_cons]
  obtain ⟨z, hd, xs, rel, dd⟩ := dt_of J2.hok hp
  cases rel
  refine wpAny_bind (wpAny_bind (wpAny_dictSet_heap (hsz := by rw [List.length_nil]; exact Nat.zero_le _) (by exact Nat.lt_of_succ_lt hu) (key_of J2.hok hb) dd fun h' dd' hs => wpAny_pure ?_))
  dsimp only
  rw [List.forIn_nil]
  refine wpAny_pure (wpAny_pure (wpAny_pure (wpAny_pure ⟨.ref s.heap.objs.size, _, ?_, rfl, q2⟩)))
  obtain ⟨o, es, ep, hq, h2, h3, h4, _, h5⟩ := dd'
  refine d_write J2 (by rw [hp]; exact True.intro) hs ⟨o, hq⟩ ⟨by show 1 ≤ sizeLine; decide, hd, _, ((KT.keeps (H := H2) (show KT H2 [] [] from .nil) fun c ys ec => ec).put ks hb ry).keeps fun c ys ec => ?_, o, es, ep, hq, h2, h3, h4, h5⟩
  rw [upd_ne (ne_of ec hp (fun z => nomatch z))]
  exact ec
section
variable {K : PySem.W.Frag} {W : WS} {σ : L2.St} {F H F' H' F0 H0 : Hp} {α β γ δ ρ S κ : Type} [DecidableEq κ] {tk : Ty κ} {kt : KTy dKt tk} {ta : Ty α} {tb : Ty β} {tc : Ty γ} {te te1 te2 te3 : TE} {v : V} {D : Ends} {KK : γ → Prop} {XX : Exn → Prop}
/-- d = {k: v}, a dict of one's own -/
theorem s_dispT {i : Nat} {mv : R β} {mk : R κ} {f : List (κ × β) → R γ} (hX : ∀ e, XX e → ∀ σ F' H', Fr F0 H0 F' H' → W e σ H') (fr : Fr F0 H0 F H) (h1 : Ev tk te1 W σ F H mk) (h2 : Ev tb te2 W σ F H mv)
    (hp : Post (bd (bd mk fun k => bd mv fun b => .ok [(k, b)]) f) KK XX)
    (k : ∀ bs v F' H', Fr F H F' H' → Fr F0 H0 F' H' → OwnD kt tb H0 F' H' v bs → NewAt v H → Post (f bs) KK XX → D.nx (σ.set i (some v)) H') : tAsg (tDispT1 te1 te2) (gName i) D σ H := fun p hp0 => by
  rw [bd_assoc] at hp
  have f0 : Fr F H F (upd H p (.dT [])) := Fr.fresh fr.s hp0
  refine h1 F _ f0 _ (post_imp (post_bd hp) (fun a e q x F1 H1 f1 ra => ?_) fun e _ z F' H' f' => hX e z _ _ _ (fr.trans (f0.trans f')))
  rw [bd_assoc] at q
  refine h2 F1 H1 (f0.trans f1) _ (post_imp (post_bd q) (fun b e q2 y F2 H2 f2 rb => ?_) fun e _ z F' H' f' => hX e z _ _ _ (fr.trans ((f0.trans f1).trans f')))
  obtain ⟨bb, ex, hb⟩ := kt.is (f2.f.trans f2.s) ra
  have ff := f1.trans f2
  have hpp := ff.h p _ upd_same
  have hFp : F2 p = none := ff.n p (fr.s.free hp0) (by rw [upd_same]; exact Option.some_ne_none _)
  refine ⟨bb, _, ex, hb, hpp, ?_⟩
  have fz : Fr F H F2 (upd H2 p (.dT [(kt.enc a, y)])) := (f0.trans ff).mut hp0 hFp
  refine k [(a, b)] _ F2 _ fz (fr.trans fz) ⟨p, _, rfl, fr.h.free hp0, hFp, upd_same, .cons ⟨rfl, rb⟩ .nil⟩ (fun q' o hh z => ?_) q2
  cases z
  rw [hp0] at hh
  cases hh
end
end TL
/-! ## TM1: plain facts of the mirrors' parts -/
namespace TL
open PySem PySem.Spec PyProof.Rows L2
section
variable {α β γ S ρ : Type}
theorem atI_nat {xs : List α} {i : Int} (h0 : 0 ≤ i) (h1 : i < xs.length) : ∃ x, atI xs i = some x ∧ xs[i.toNat]? = some x := by
  have hl : i.toNat < xs.length := by omega
  have e : ixN xs.length i = some i.toNat := by
    unfold ixN
    rw [if_pos h0, if_pos h1]
  refine ⟨xs[i.toNat], ?_, List.getElem?_eq_getElem hl⟩
  show (ixN xs.length i).bind (fun j => xs[j]?) = _
  rw [e]
  exact List.getElem?_eq_getElem hl
theorem atR_ok {xs : List α} {i : Int} (h0 : 0 ≤ i) (h1 : i < xs.length) : ∃ x, atR xs i = .ok x ∧ xs[i.toNat]? = some x ∧ x ∈ xs := by
  obtain ⟨x, e, g⟩ := atI_nat h0 h1
  refine ⟨x, ?_, g, List.mem_of_getElem? g⟩
  unfold atR
  rw [e]
theorem atR_has {xs : List α} {i : Int} (n : Nat) (hn : xs.length = n) (h0 : 0 ≤ i) (h1 : i < n) {P : α → Prop} (h : ∀ x ∈ xs, P x) : ∃ x, atR xs i = .ok x ∧ P x := by
  obtain ⟨x, e, _, m⟩ := atR_ok (xs := xs) h0 (by rw [hn]; exact h1)
  exact ⟨x, e, h x m⟩
theorem modR_ok {a b : Int} (h : 0 < b) : modR a b = .ok (a % b) := by
  unfold modR
  rw [if_pos h]
theorem divR_ok {a b : Int} (h : 0 < b) (h2 : b < 1073741824) : divR a b = .ok (a / b) := by
  unfold divR
  rw [if_pos ⟨h, h2⟩]
theorem mulR_ok {a b : Int} (h : (-(2 ^ 64) < a ∧ a < 2 ^ 64) ∨ (-(2 ^ 64) < b ∧ b < 2 ^ 64)) : mulR a b = .ok (a * b) := by
  unfold mulR
  rw [if_pos (show CMul a b from h)]
theorem addR_ok {as : List α} {a : α} (h : as.length < 100000) : addR as a = .ok (as ++ [a]) := by
  unfold addR
  rw [if_pos h]
theorem rangeR_ok {lo hi : Int} (h1 : -(2 ^ 62) ≤ lo) (h2 : lo < 2 ^ 62) (h3 : -(2 ^ 62) ≤ hi) (h4 : hi < 2 ^ 62) : rangeR lo hi = .ok (rangeL lo hi) := by
  unfold rangeR
  rw [if_pos ⟨⟨h1, h2⟩, h3, h4⟩]
theorem mem_rangeL {lo hi x : Int} : x ∈ rangeL lo hi ↔ lo ≤ x ∧ x < hi := by
  unfold rangeL
  rw [List.mem_map]
  constructor
  · rintro ⟨a, ha, rfl⟩
    have := List.mem_range.mp ha
    omega
  · intro h
    exact ⟨(x - lo).toNat, List.mem_range.mpr (by omega), by omega⟩
theorem compL_ok {c : α → R Bool} {e : α → R β} {cp : α → Bool} {ep : α → β} : ∀ {xs : List α}, (∀ x ∈ xs, c x = .ok (cp x)) → (∀ x ∈ xs, cp x = true → e x = .ok (ep x)) → compL c e xs = .ok ((xs.filter cp).map ep)
  | [], _, _ => rfl
  | x :: xs, h1, h2 => by
    have ih := compL_ok (xs := xs) (fun y hy => h1 y (List.mem_cons_of_mem _ hy)) (fun y hy => h2 y (List.mem_cons_of_mem _ hy))
    unfold compL
    rw [h1 x List.mem_cons_self, show quiet (R.ok (cp x)) = .ok (cp x) from rfl, bd_ok]
    cases hc : cp x with
    | true =>
      rw [if_pos rfl, h2 x List.mem_cons_self hc, show quiet (R.ok (ep x)) = .ok (ep x) from rfl, bd_ok, ih, bd_ok, List.filter_cons_of_pos hc, List.map_cons]
    | false =>
      rw [List.filter_cons_of_neg (by rw [hc]; exact Bool.false_ne_true)]
      rw [if_neg Bool.false_ne_true]
      exact ih
theorem compR_ok {c : α → R Bool} {e : α → R β} (cp : α → Bool) (ep : α → β) {xs : List α} (hl : xs.length ≤ 100000) (h1 : ∀ x ∈ xs, c x = .ok (cp x)) (h2 : ∀ x ∈ xs, cp x = true → e x = .ok (ep x)) : compR c e xs = .ok ((xs.filter cp).map ep) := by
  unfold compR
  rw [if_pos hl, compL_ok h1 h2]
/-- without a filter -/
theorem compR_all {e : α → R β} (ep : α → β) {xs : List α} (hl : xs.length ≤ 100000) (h2 : ∀ x ∈ xs, e x = .ok (ep x)) : compR (fun _ => .ok true) e xs = .ok (xs.map ep) := by
  rw [compR_ok (fun _ => true) ep hl (fun _ _ => rfl) fun x m _ => h2 x m, List.filter_eq_self.mpr fun _ _ => rfl]
theorem forL_inv {f : S → α → R (Fl S ρ)} (I : S → Prop) : ∀ {xs : List α} {s : S}, I s → (∀ s x, x ∈ xs → I s → ∃ s', f s x = .ok (.nx s') ∧ I s') → ∃ s', forL f xs s = .ok (.nx s') ∧ I s'
  | [], s, h, _ => ⟨s, rfl, h⟩
  | x :: xs, s, h, hf => by
    obtain ⟨s1, e, h1⟩ := hf s x List.mem_cons_self h
    obtain ⟨s2, e2, h2⟩ := forL_inv I (xs := xs) h1 fun s y m => hf s y (List.mem_cons_of_mem _ m)
    refine ⟨s2, ?_, h2⟩
    unfold forL
    rw [e, bd_ok]
    exact e2
/-- with the number of rounds gone -/
theorem forL_invN {f : S → α → R (Fl S ρ)} (I : Nat → S → Prop) {B : Nat} : ∀ {xs : List α} {n : Nat} {s : S}, n + xs.length ≤ B → I n s → (∀ n s x, n < B → x ∈ xs → I n s → ∃ s', f s x = .ok (.nx s') ∧ I (n + 1) s') → ∃ s', forL f xs s = .ok (.nx s') ∧ I (n + xs.length) s'
  | [], n, s, _, h, _ => ⟨s, rfl, h⟩
  | x :: xs, n, s, hB, h, hf => by
    rw [List.length_cons] at hB
    obtain ⟨s1, e, h1⟩ := hf n s x (by omega) List.mem_cons_self h
    obtain ⟨s2, e2, h2⟩ := forL_invN I (xs := xs) (by omega) h1 fun n s y b m => hf n s y b (List.mem_cons_of_mem _ m)
    refine ⟨s2, ?_, by rw [List.length_cons, show n + (xs.length + 1) = n + 1 + xs.length by omega]; exact h2⟩
    unfold forL
    rw [e, bd_ok]
    exact e2
theorem forL_nx {f : Unit → α → R (Fl Unit ρ)} {xs : List α} (h : ∀ x ∈ xs, f () x = .ok (.nx ())) : forL f xs () = .ok (.nx ()) := by
  obtain ⟨_, e, _⟩ := forL_inv (f := f) (xs := xs) (s := ()) (fun _ => True) trivial fun _ x m _ => ⟨(), h x m, trivial⟩
  exact e
theorem whileR_yes {c : S → R Bool} {f : S → R (Fl S ρ)} {n : Nat} {s s' : S} (hc : c s = .ok true) (hf : f s = .ok (.nx s')) : whileR c f (n + 1) s = whileR c f n s' := by
  show bd (c s) _ = _
  rw [hc, bd_ok, if_pos rfl, hf, bd_ok]
theorem whileR_no {c : S → R Bool} {f : S → R (Fl S ρ)} {n : Nat} {s : S} (hc : c s = .ok false) : whileR c f (n + 1) s = .ok (.nx s) := by
  show bd (c s) _ = _
  rw [hc, bd_ok, if_neg Bool.false_ne_true]
/-- data of which == is asked -/
theorem lay_ints {e : α → PyData} (h : ∀ a, (e a).canLay0 = true) : ∀ xs : List α, PyData.canLayAll0 (xs.map e) = true
  | [] => rfl
  | x :: xs => by simp only [List.map_cons, PyData.canLayAll0, h x, lay_ints h xs, Bool.and_self]
theorem eqDR_self {d : PyData} (h : d.canLay0 = true) : eqDR d d = .ok true := by
  unfold eqDR
  rw [if_pos ⟨h, h⟩, PySem.SeqAt.eqv_refl d h]
theorem neDR_nil {d : List PyData} (h : PyData.canLayAll0 d = true) : neDR (.list d) (.list []) = .ok (!d.isEmpty) := by
  unfold neDR
  rw [if_pos ⟨by simpa [PyData.canLay0] using h, rfl⟩]
  cases d <;> rfl
/-- it answers, and Q holds of the answer -/
def OkQ (m : R α) (Q : α → Prop) : Prop := ∃ a, m = .ok a ∧ Q a
theorem okq {a : α} {Q : α → Prop} (h : Q a) : OkQ (.ok a) Q := ⟨a, rfl, h⟩
theorem OkQ.bd {m : R α} {f : α → R β} {P : α → Prop} {Q : β → Prop} (h : OkQ m P) (k : ∀ a, P a → OkQ (f a) Q) : OkQ (TL.bd m f) Q := by
  obtain ⟨a, rfl, p⟩ := h
  exact k a p
theorem OkQ.imp {m : R α} {P Q : α → Prop} (h : OkQ m P) (k : ∀ a, P a → Q a) : OkQ m Q := by
  obtain ⟨a, e, p⟩ := h
  exact ⟨a, e, k a p⟩
theorem okq_forN {f : S → α → R (Fl S ρ)} {g : Fl S ρ → R β} {xs : List α} {s : S} {Q : β → Prop} (I : Nat → S → Prop) (h0 : I 0 s) (hf : ∀ n s x, n < xs.length → x ∈ xs → I n s → OkQ (f s x) fun fl => ∃ s', fl = .nx s' ∧ I (n + 1) s')
    (k : ∀ s', I xs.length s' → OkQ (g (.nx s')) Q) : OkQ (bd (forL f xs s) g) Q := by
  obtain ⟨s', e, h⟩ := forL_invN I (xs := xs) (n := 0) (B := xs.length) (by omega) h0 fun n s x b m i => by
    obtain ⟨fl, e, s', rfl, h⟩ := hf n s x b m i
    exact ⟨s', e, h⟩
  rw [e]
  rw [Nat.zero_add] at h
  exact k s' h
theorem okq_for {f : S → α → R (Fl S ρ)} {g : Fl S ρ → R β} {xs : List α} {s : S} {Q : β → Prop} (I : S → Prop) (h0 : I s) (hf : ∀ s x, x ∈ xs → I s → OkQ (f s x) fun fl => ∃ s', fl = .nx s' ∧ I s')
    (k : ∀ s', I s' → OkQ (g (.nx s')) Q) : OkQ (bd (forL f xs s) g) Q :=
  okq_forN (fun _ => I) h0 (fun _ s x _ => hf s x) k
theorem okq_atR {xs : List α} {i : Int} (n : Nat) (hn : xs.length = n) (h0 : 0 ≤ i) (h1 : i < n) {P : α → Prop} (h : ∀ x ∈ xs, P x) : OkQ (atR xs i) P := atR_has n hn h0 h1 h
theorem ok_of {m : R α} {a : α} (h : OkQ m fun b => b = a) : m = .ok a := by
  obtain ⟨b, e, rfl⟩ := h
  exact e
end
end TL
/-! ## TM2: how long repr gets -/
namespace TL
open PySem PySem.Spec PyProof.Rows L2 StrLaws
structure Sh (d : PyData) (n : Nat) : Prop where
  s : d.showable = true
  l : d.shown.length ≤ n
theorem Sh.mono {d : PyData} {n m : Nat} (h : Sh d n) (k : n ≤ m) : Sh d m := ⟨h.s, Nat.le_trans h.l k⟩
theorem Sh.ok {d : PyData} {n : Nat} (h : Sh d n) (k : n ≤ 1000000) : reprDR d = .ok d.shown := by
  unfold reprDR
  rw [if_pos ⟨h.s, Nat.le_trans h.l k⟩]
theorem sh_none : Sh .none 4 := ⟨rfl, by decide⟩
theorem sh_bool (b : Bool) : Sh (.bool b) 5 := ⟨rfl, by cases b <;> decide⟩
theorem sh_int {i : Int} (h : i.natAbs < 10 ^ 40) : Sh (.int i) 41 := by
  constructor
  · show decide (i.natAbs.log2 < 1920) = true
    rw [decide_eq_true_eq]
    by_cases z : i.natAbs = 0
    · rw [z]
      decide
    · exact (Nat.log2_lt z).mpr (Nat.lt_of_lt_of_le h (by decide +kernel))
  · show (Str.ofString (toString i)).length ≤ 41
    have e := int_text_length_le10 (a := i) (k := 40) (by decide) h
    rw [PySem.ofString_length]
    exact e
theorem sh_num {i : Int} (h1 : -1000000000000000000000000 ≤ i) (h2 : i ≤ 1000000000000000000000000) : Sh (.int i) 41 :=
  sh_int (Nat.lt_of_le_of_lt (show i.natAbs ≤ 1000000000000000000000000 by omega) (by decide +kernel))
theorem sh_all {n : Nat} : ∀ {ds : List PyData}, (∀ d ∈ ds, Sh d n) → PyData.showableAll ds = true ∧ ((PyData.shownAll ds).map (·.length)).sum ≤ n * ds.length ∧ (PyData.shownAll ds).length = ds.length
  | [], _ => ⟨rfl, Nat.le_refl _, rfl⟩
  | d :: ds, h => by
    obtain ⟨h1, h2, h3⟩ := sh_all (ds := ds) fun e m => h e (List.mem_cons_of_mem _ m)
    have hd := h d List.mem_cons_self
    refine ⟨?_, ?_, ?_⟩
    · simp only [PyData.showableAll, hd.s, h1, Bool.and_self]
    · simp only [PyData.shownAll, List.map_cons, List.sum_cons, List.length_cons, Nat.mul_succ]
      have := hd.l
      omega
    · simp only [PyData.shownAll, List.length_cons, h3]
theorem sh_list {ds : List PyData} {n k : Nat} (h : ∀ d ∈ ds, Sh d n) (hk : ds.length ≤ k) : Sh (.list ds) ((n + 2) * k + 3) := by
  obtain ⟨h1, h2, h3⟩ := sh_all h
  refine ⟨by simpa only [PyData.showable] using h1, ?_⟩
  simp only [PyData.shown]
  have e := listText_len_le (PyData.shownAll ds)
  have a := Nat.mul_le_mul_left n hk
  rw [Nat.add_mul]
  omega
theorem sh_tuple {ds : List PyData} {n k : Nat} (h : ∀ d ∈ ds, Sh d n) (hk : ds.length ≤ k) : Sh (.tuple ds) ((n + 2) * k + 3) := by
  obtain ⟨h1, h2, h3⟩ := sh_all h
  refine ⟨by simpa only [PyData.showable] using h1, ?_⟩
  simp only [PyData.shown]
  have e := tupleText_len_le (PyData.shownAll ds)
  have a := Nat.mul_le_mul_left n hk
  rw [Nat.add_mul]
  omega
theorem sh_map {α : Type} {f : α → PyData} {xs : List α} {n : Nat} (h : ∀ x ∈ xs, Sh (f x) n) : ∀ d ∈ xs.map f, Sh d n := fun d m => by
  obtain ⟨x, hx, rfl⟩ := List.mem_map.mp m
  exact h x hx
end TL
namespace Br
open PySem PySem.Spec PyProof.Rows L2 TL
def topS (i : Nat) : Stmt := PySem.Challenge.pw_brakeline_k09_whole_none_better.main.body.getD i (.Pass ⟨0, 0, 0, 0⟩)

abbrev s0 : Stmt := topS 0
def d0 : He.DefD := ⟨("_wall", none), "_wall", "_wall", defArgs s0, defBody s0, defScope s0, [], []⟩
abbrev s1 : Stmt := topS 9
def d1 : He.DefD := ⟨("is_name", none), "is_name", "is_name", defArgs s1, defBody s1, defScope s1, [], []⟩
abbrev s2 : Stmt := topS 10
def d2 : He.DefD := ⟨("is_among", none), "is_among", "is_among", defArgs s2, defBody s2, defScope s2, [], []⟩
abbrev s3 : Stmt := inClass (topS 14) 0
def d3 : He.DefD := ⟨("Kind", some "__init__"), "__init__", "Kind.__init__", defArgs s3, defBody s3, defScope s3, [], []⟩
abbrev s4 : Stmt := topS 15
def d4 : He.DefD := ⟨("braking", none), "braking", "braking", defArgs s4, defBody s4, defScope s4, [], []⟩
abbrev s5 : Stmt := topS 17
def d5 : He.DefD := ⟨("may_pass", none), "may_pass", "may_pass", defArgs s5, defBody s5, defScope s5, [], []⟩
abbrev s6 : Stmt := topS 18
def d6 : He.DefD := ⟨("is_safe", none), "is_safe", "is_safe", defArgs s6, defBody s6, defScope s6, [], []⟩
abbrev s7 : Stmt := topS 19
def d7 : He.DefD := ⟨("may_go", none), "may_go", "may_go", defArgs s7, defBody s7, defScope s7, [], []⟩
abbrev s8 : Stmt := topS 20
def d8 : He.DefD := ⟨("next_speed", none), "next_speed", "next_speed", defArgs s8, defBody s8, defScope s8, [], []⟩
abbrev s9 : Stmt := topS 26
def d9 : He.DefD := ⟨("is_limit", none), "is_limit", "is_limit", defArgs s9, defBody s9, defScope s9, [], []⟩
abbrev s10 : Stmt := topS 27
def d10 : He.DefD := ⟨("is_station", none), "is_station", "is_station", defArgs s10, defBody s10, defScope s10, [], []⟩
abbrev s11 : Stmt := topS 28
def d11 : He.DefD := ⟨("are_in_order", none), "are_in_order", "are_in_order", defArgs s11, defBody s11, defScope s11, [], []⟩
abbrev s12 : Stmt := topS 29
def d12 : He.DefD := ⟨("is_list", none), "is_list", "is_list", defArgs s12, defBody s12, defScope s12, [], []⟩
abbrev s13 : Stmt := inClass (topS 30) 0
def d13 : He.DefD := ⟨("Line", some "__init__"), "__init__", "Line.__init__", defArgs s13, defBody s13, defScope s13, [], []⟩
abbrev s14 : Stmt := inClass (topS 30) 1
def d14 : He.DefD := ⟨("Line", some "limit"), "limit", "Line.limit", defArgs s14, defBody s14, defScope s14, [], []⟩
abbrev s15 : Stmt := inClass (topS 30) 2
def d15 : He.DefD := ⟨("Line", some "station_at"), "station_at", "Line.station_at", defArgs s15, defBody s15, defScope s15, [], []⟩
abbrev s16 : Stmt := inClass (topS 30) 3
def d16 : He.DefD := ⟨("Line", some "tracks_of"), "tracks_of", "Line.tracks_of", defArgs s16, defBody s16, defScope s16, [], []⟩
abbrev s17 : Stmt := inClass (topS 30) 4
def d17 : He.DefD := ⟨("Line", some "text"), "text", "Line.text", defArgs s17, defBody s17, defScope s17, [], []⟩
abbrev s18 : Stmt := topS 32
def d18 : He.DefD := ⟨("_law_cell_at", none), "_law_cell_at", "_law_cell_at", defArgs s18, defBody s18, defScope s18, [], []⟩
abbrev s19 : Stmt := topS 33
def d19 : He.DefD := ⟨("_law_mixed", none), "_law_mixed", "_law_mixed", defArgs s19, defBody s19, defScope s19, [], []⟩
abbrev s20 : Stmt := topS 34
def d20 : He.DefD := ⟨("_law_passes", none), "_law_passes", "_law_passes", defArgs s20, defBody s20, defScope s20, [], []⟩
abbrev s21 : Stmt := topS 35
def d21 : He.DefD := ⟨("_law_steps", none), "_law_steps", "_law_steps", defArgs s21, defBody s21, defScope s21, [], []⟩
abbrev s22 : Stmt := topS 36
def d22 : He.DefD := ⟨("_law_stands", none), "_law_stands", "_law_stands", defArgs s22, defBody s22, defScope s22, [], []⟩
abbrev s23 : Stmt := topS 37
def d23 : He.DefD := ⟨("_law_goes_on", none), "_law_goes_on", "_law_goes_on", defArgs s23, defBody s23, defScope s23, [], []⟩
abbrev s24 : Stmt := topS 38
def d24 : He.DefD := ⟨("law", none), "law", "law", defArgs s24, defBody s24, defScope s24, [], []⟩
def fn : List He.DefD := [d1, d2, d3, d4, d5, d6, d7, d8, d9, d10, d11, d12, d13, d14, d18, d19, d20, d21, d22, d23, d24]
def fa : List He.Fa := [.free "len", .glo "_law_cell_at", .glo "_law_mixed", .free "range", .free "min", .free "isinstance", .free "int", .free "bool", .glo "is_among", .int "MOST_NUMBER" 1000000000000, .exc "BadLine", .glo "BadLine", .int "MOST_LIMITS" 20, .free "list", .glo "is_list", .free "tuple", .int "MOST_SPEED" 1000, .glo "is_limit", .free "all", .int "MOST_STATIONS" 10, .free "str", .int "MOST_LETTERS" 8, .str "LETTERS" "abcdefghijklmnopqrstuvwxyz", .glo "is_name", .int "LEAST_TRACKS" 2, .int "MOST_TRACKS" 5, .glo "is_station", .free "set", .free "zip", .glo "are_in_order", .cls "Line", .noat "Line" "end", .noat "Line" "limits", .noat "Line" "stations", .mkr "Line", .glo "Line", .int "MOST_LENGTH" 1000000, .exc "BadKind", .glo "BadKind", .cls "Kind", .noat "Kind" "length", .noat "Kind" "pull", .noat "Kind" "brake", .noat "Kind" "top", .mkr "Kind", .glo "Kind", .free "max", .glo "_law_passes", .glo "_law_steps", .glo "_law_stands", .glo "braking", .meth "Line" "limit", .glo "may_pass", .glo "is_safe", .glo "may_go", .glo "next_speed", .glo "_law_goes_on", .glo "law"]
abbrev M_Kind := Int × Int × Int × Int
abbrev t_Kind (K : PySem.W.Frag) : Ty M_Kind := tObj K "Kind" ["length", "pull", "brake", "top"] (aCons tInt (aCons tInt (aCons tInt (aOne tInt))))
abbrev M_Line := Int × (List (Int × Int × Int)) × (List (Str × Int × Int × Int))
abbrev t_Line (K : PySem.W.Frag) : Ty M_Line := tObj K "Line" ["end", "limits", "stations"] (aCons tInt (aCons (yTupL K (yTup K (aCons tInt (aCons tInt (aOne tInt))))) (aOne (yTupL K (yTup K (aCons tStr (aCons tInt (aCons tInt (aOne tInt)))))))))
/-! ### mirrors -/
def m__law_cell_at (script : (List Int)) (k_ : Int) : R Int :=
bd (.ok (decide (k_ < (script.length : Int)))) fun c => if c = true then (
atR script k_)
else (
.ok 0)
def m__law_mixed (script : (List Int)) (k_ : Int) : R Int :=
bd (bd (bd (bd (bd (m__law_cell_at script k_) fun x1 => .ok (x1 * 48271)) fun x2 => .ok (x2 + (7919 * k_))) fun x3 => .ok (x3 + 12345)) fun x4 => .ok (x4 % 2147483647)) fun number8 =>
bd (mulR number8 (number8 + (69621 * k_))) fun x9 => .ok (x9 % 2147483629)
def m_is_among (thing : Int) (least : Int) (most : Int) : R Bool :=
.ok (true && (!false && (decide (least ≤ thing) && decide (thing ≤ most))))
def m_is_list_v0 (thing : (List (Int × Int × Int))) (most : Int) : R Bool :=
.ok (true && decide ((thing.length : Int) ≤ most))
def m_is_limit (thing : (Int × Int × Int)) (end_ : Int) : R Bool :=
bd ((if (!true) = true then .ok true else (if (!decide (3 = 3)) = true then .ok true else bd (m_is_among thing.1 0 end_) fun x1 => .ok (!x1)))) fun c => if c = true then (
.ok false)
else (
bd (m_is_among thing.2.1 thing.1 end_) fun x3 => (if x3 = true then m_is_among thing.2.2 1 1000 else .ok false))
def m_is_list_v1 (thing : (List (Str × Int × Int × Int))) (most : Int) : R Bool :=
.ok (true && decide ((thing.length : Int) ≤ most))
def m_is_name (thing : Str) : R Bool :=
bd ((if (!true) = true then .ok true else bd (bd (lenSR thing) fun x1 => (if decide (1 ≤ x1) = true then .ok (decide (x1 ≤ 8)) else .ok false)) fun x2 => .ok (!x2))) fun c => if c = true then (
.ok false)
else (
bd (compR (fun (sign4 : Str) => .ok true) (fun (sign4 : Str) => inSR sign4 ("abcdefghijklmnopqrstuvwxyz" : Str)) (signsOf thing)) fun x107 => .ok (x107.all id))
def m_is_station (thing : (Str × Int × Int × Int)) (end_ : Int) : R Bool :=
bd ((if (!true) = true then .ok true else (if (!decide (4 = 4)) = true then .ok true else bd (bd (m_is_name thing.1) fun x1 => .ok (!x1)) fun x3 => (if x3 = true then .ok true else bd (m_is_among thing.2.1 1 (end_ - 1)) fun x2 => .ok (!x2))))) fun c => if c = true then (
.ok false)
else (
bd (m_is_among thing.2.2.1 thing.2.1 (end_ - 1)) fun x5 => (if x5 = true then m_is_among thing.2.2.2 2 5 else .ok false))
def m_are_in_order (stations : (List (Str × Int × Int × Int))) : R Bool :=
bd (bd (bd (compR (fun (station1 : (Str × Int × Int × Int)) => .ok true) (fun (station1 : (Str × Int × Int × Int)) => .ok station1.1) stations) fun x104 => lenSet1 x104) fun x105 => .ok (decide (x105 < (stations.length : Int)))) fun c => if c = true then (
.ok false)
else (
bd (compR (fun (x107 : ((Str × Int × Int × Int) × (Str × Int × Int × Int))) => .ok true) (fun (x107 : ((Str × Int × Int × Int) × (Str × Int × Int × Int))) => .ok (decide (x107.1.2.2.1 + 2 ≤ x107.2.2.1))) (stations.zip (cutG stations (some 1) none))) fun x212 => .ok (x212.all id))
def m_Line___init__ (end_ : Int) (limits : (List (Int × Int × Int))) (stations : (List (Str × Int × Int × Int))) : R (Int × (List (Int × Int × Int)) × (List (Str × Int × Int × Int))) :=
bd (bd (m_is_among end_ 1 1000000000000) fun x1 => .ok (!x1)) fun c => if c = true then (
.err (.own "BadLine"))
else (
bd (bd (bd (m_is_list_v0 limits 20) fun x3 => .ok (!x3)) fun x109 => (if x109 = true then .ok true else bd (bd (compR (fun (one4 : (Int × Int × Int)) => .ok true) (fun (one4 : (Int × Int × Int)) => m_is_limit one4 end_) limits) fun x107 => .ok (x107.all id)) fun x108 => .ok (!x108))) fun c => if c = true then (
.err (.own "BadLine"))
else (
bd (bd (bd (m_is_list_v1 stations 10) fun x111 => .ok (!x111)) fun x217 => (if x217 = true then .ok true else bd (bd (compR (fun (one112 : (Str × Int × Int × Int)) => .ok true) (fun (one112 : (Str × Int × Int × Int)) => m_is_station one112 end_) stations) fun x215 => .ok (x215.all id)) fun x216 => .ok (!x216))) fun c => if c = true then (
.err (.own "BadLine"))
else (
bd (bd (m_are_in_order stations) fun x219 => .ok (!x219)) fun c => if c = true then (
.err (.own "BadLine"))
else (
bd (.ok end_) fun x224 =>
bd (.ok limits) fun x230 =>
bd (.ok stations) fun x236 =>
.ok (x224, x230, x236)))))
def m_Kind___init__ (length : Int) (pull : Int) (brake : Int) (top : Int) : R (Int × Int × Int × Int) :=
bd (bd (m_is_among length 1 1000000) fun x1 => .ok (!x1)) fun c => if c = true then (
.err (.own "BadKind"))
else (
bd (.ok [pull, brake, top]) fun xs =>
bd (forL (fun (s4 : Unit) (number7 : Int) => (bd (bd (m_is_among number7 1 1000) fun x8 => .ok (!x8)) fun c => if c = true then (
.err (.own "BadKind"))
else (
.ok (.nx ())) : R (Fl Unit Empty))) xs ()) (fun (fl : Fl Unit Empty) => match fl with
| .nx s10 => (bd (.ok length) fun x15 =>
bd (.ok pull) fun x21 =>
bd (.ok brake) fun x27 =>
bd (.ok top) fun x33 =>
.ok (x15, x21, x27, x33))
| .bk _ => .stuck
| .rt r => r.elim))
def m__law_passes (limits : (List (Int × Int × Int))) (front : Int) (speed : Int) : R Bool :=
bd (rangeR (front + 1) ((front + speed) + 1)) fun xs =>
bd (forL (fun (s2 : Unit) (placeq5 : Int) => (bd (.ok limits) fun xs =>
bd (forL (fun (s7 : Unit) (x14 : (Int × Int × Int)) => (bd (.ok ((decide (x14.1 ≤ placeq5) && decide (placeq5 ≤ x14.2.1)) && decide (speed > x14.2.2))) fun c => if c = true then (
.ok (.rt false))
else (
.ok (.nx ())) : R (Fl Unit Bool))) xs ()) (fun (fl : Fl Unit Bool) => match fl with
| .nx s16 => (.ok (.nx ()))
| .bk _ => .stuck
| .rt r => .ok (.rt r)) : R (Fl Unit Bool))) xs ()) (fun (fl : Fl Unit Bool) => match fl with
| .nx s18 => (.ok true)
| .bk _ => .stuck
| .rt r => .ok r)
def m__law_steps (rules : (Int × Int × Int)) (limits : (List (Int × Int × Int))) (state : (Int × Int)) (leave : Int) : R (List (Int × Int)) :=
bd (.ok rules) fun t11 =>
bd (.ok state) fun t20 =>
bd (.ok []) fun found25 =>
bd (rangeR (max 0 (t20.2 - t11.2.1)) ((min t11.2.2 (t20.2 + t11.1)) + 1)) fun xs =>
bd (forL (fun (found28 : (List (Int × Int))) (fresh31 : Int) => (bd ((if (decide (t20.1 + fresh31 ≤ leave)) = true then m__law_passes limits t20.1 fresh31 else .ok false)) fun c => if c = true then (
bd (.ok (t20.1 + fresh31, fresh31)) fun y37 =>
bd (addR found28 y37) fun found38 =>
.ok (.nx found38))
else (
.ok (.nx found28)) : R (Fl (List (Int × Int)) (List (Int × Int))))) xs found25) (fun (fl : Fl (List (Int × Int)) (List (Int × Int))) => match fl with
| .nx found39 => (.ok found39)
| .bk _ => .stuck
| .rt r => .ok r)
def m__law_stands (rules : (Int × Int × Int)) (limits : (List (Int × Int × Int))) (state : (Int × Int)) (leave : Int) : R Bool :=
bd (bd (.ok state) fun k6 => bd (.ok true) fun b7 => .ok [(k6, b7)]) fun known5 =>
bd (.ok [state]) fun waiting11 =>
bd (whileR (fun (s15 : (List (Int × Int)) × (List ((Int × Int) × Bool))) => (neDR ((fun (xs : (List (Int × Int))) => PyData.list (xs.map (fun (a : (Int × Int)) => PyData.tuple (PyData.int a.1 :: [PyData.int a.2])))) s15.1) ((fun (xs : (List (Int × Int))) => PyData.list (xs.map (fun (a : (Int × Int)) => PyData.tuple (PyData.int a.1 :: [PyData.int a.2])))) []) : R Bool)) (fun (s15 : (List (Int × Int)) × (List ((Int × Int) × Bool))) => (bd (popR s15.1) fun t21 =>
bd (.ok (decide (t21.1.2 = 0) && decide (t21.1.1 ≤ leave))) fun c => if c = true then (
.ok (.rt true))
else (
bd (m__law_steps rules limits t21.1 leave) fun xs =>
bd (forL (fun (s25 : (List ((Int × Int) × Bool)) × (List (Int × Int))) (one28 : (Int × Int)) => (bd (.ok (!(getA s25.1 one28).isSome)) fun c => if c = true then (
bd (.ok true) fun z36 =>
bd (.ok one28) fun y35 =>
bd (putAR s25.1 y35 z36) fun known37 =>
bd (.ok one28) fun y42 =>
bd (addR s25.2 y42) fun waiting43 =>
.ok (.nx (known37, waiting43)))
else (
.ok (.nx (s25.1, s25.2))) : R (Fl ((List ((Int × Int) × Bool)) × (List (Int × Int))) Bool))) xs (s15.2, t21.2)) (fun (fl : Fl ((List ((Int × Int) × Bool)) × (List (Int × Int))) Bool) => match fl with
| .nx s44 => (.ok (.nx (s44.2, s44.1)))
| .bk _ => .stuck
| .rt r => .ok (.rt r))) : R (Fl ((List (Int × Int)) × (List ((Int × Int) × Bool))) Bool))) 1000 (waiting11, known5)) (fun (fl : Fl ((List (Int × Int)) × (List ((Int × Int) × Bool))) Bool) => match fl with
| .nx s46 => (.ok false)
| .bk _ => .stuck
| .rt r => .ok r)
def m_braking (kind : M_Kind) (speed : Int) : R (List Int) :=
bd (.ok []) fun found4 =>
bd (whileR (fun (s7 : Int × (List Int)) => (.ok (decide (s7.1 > kind.2.2.1)) : R Bool)) (fun (s7 : Int × (List Int)) => (bd (.ok (s7.1 - kind.2.2.1)) fun speed11 =>
bd (.ok speed11) fun y16 =>
bd (addR s7.2 y16) fun found17 =>
.ok (.nx (speed11, found17)) : R (Fl (Int × (List Int)) (List Int)))) (speed.toNat + 1) (speed, found4)) (fun (fl : Fl (Int × (List Int)) (List Int)) => match fl with
| .nx s18 => (.ok s18.2)
| .bk _ => .stuck
| .rt r => .ok r)
def m_Line_limit (self : M_Line) (first : Int) (last : Int) : R (Option Int) :=
bd (compR (fun (x1 : (Int × Int × Int)) => .ok (decide (x1.1 ≤ last) && decide (x1.2.1 ≥ first))) (fun (x1 : (Int × Int × Int)) => .ok x1.2.2) self.2.1) fun x108 => .ok (leastO x108)
def m_may_pass (line : M_Line) (front : Int) (speed : Int) : R Bool :=
bd (.ok (decide (speed = 0))) fun c => if c = true then (
.ok true)
else (
bd (m_Line_limit line (front + 1) (front + speed)) fun most5 =>
(if (Option.isNone most5) = true then .ok true else bd (fromSome most5) fun x6 => .ok (decide (speed ≤ x6))))
def m_is_safe (line : M_Line) (kind : M_Kind) (front : Int) (speed : Int) (leave : Int) : R Bool :=
bd (.ok (decide (front > leave))) fun c => if c = true then (
.ok false)
else (
bd (m_braking kind speed) fun xs =>
bd (forL (fun (front3 : Int) (later6 : Int) => (bd ((if (decide (front3 + later6 > leave)) = true then .ok true else bd (m_may_pass line front3 later6) fun x7 => .ok (!x7))) fun c => if c = true then (
.ok (.rt false))
else (
bd (bd (.ok later6) fun b12 => .ok (front3 + b12)) fun front13 =>
.ok (.nx front13)) : R (Fl Int Bool))) xs front) (fun (fl : Fl Int Bool) => match fl with
| .nx front14 => (.ok true)
| .bk _ => .stuck
| .rt r => .ok r))
def m_may_go (line : M_Line) (kind : M_Kind) (front : Int) (speed : Int) (leave : Int) : R Bool :=
bd ((if (decide (front + speed > leave)) = true then .ok true else bd (m_may_pass line front speed) fun x1 => .ok (!x1))) fun c => if c = true then (
.ok false)
else (
m_is_safe line kind (front + speed) speed leave)
def m_next_speed (line : M_Line) (kind : M_Kind) (front : Int) (speed : Int) (leave : Int) : R (Option Int) :=
bd (.ok (max 0 (speed - kind.2.2.1))) fun least4 =>
bd (.ok (min kind.2.2.2 (speed + kind.2.1))) fun most8 =>
bd (bd (m_may_go line kind front least4 leave) fun x9 => .ok (!x9)) fun c => if c = true then (
.ok none)
else (
bd (whileR (fun (s12 : Int × Int) => (.ok (decide (s12.1 < s12.2)) : R Bool)) (fun (s12 : Int × Int) => (bd (.ok (((s12.1 + s12.2) + 1) / 2)) fun middle16 =>
bd (m_may_go line kind front middle16 leave) fun c => if c = true then (
bd (.ok middle16) fun least21 =>
.ok (.nx (least21, s12.2)))
else (
bd (.ok (middle16 - 1)) fun most25 =>
.ok (.nx (s12.1, most25))) : R (Fl (Int × Int) (Option Int)))) ((most8 - least4).toNat + 1) (least4, most8)) (fun (fl : Fl (Int × Int) (Option Int)) => match fl with
| .nx s26 => (.ok (some s26.1))
| .bk _ => .stuck
| .rt r => .ok r))
def m__law_goes_on (line : M_Line) (kind : M_Kind) (rules : (Int × Int × Int)) (front : Int) (speed : Int) (leave : Int) : R Bool :=
bd (rangeR 0 80) fun xs =>
bd (forL (fun (s2 : Int × Int) (again5 : Int) => (bd (m_next_speed line kind s2.1 s2.2 leave) fun fresh9 =>
bd ((if (Option.isNone fresh9) = true then .ok true else bd (bd (fromSome fresh9) fun x10 => .ok (s2.1 + x10)) fun x11 => .ok (decide (x11 > leave)))) fun c => if c = true then (
.ok (.rt false))
else (
bd (bd (eqDR ((eOpt PyData.int) fresh9) (PyData.int 0)) fun x13 => (if x13 = true then .ok (decide (s2.2 = 0)) else .ok false)) fun c => if c = true then (
.ok (.rt (decide (s2.1 = leave))))
else (
bd (bd (fromSome fresh9) fun x15 => .ok (s2.1 + x15)) fun front21 =>
bd (fromSome fresh9) fun speed22 =>
.ok (.nx (front21, speed22)))) : R (Fl (Int × Int) Bool))) xs (front, speed)) (fun (fl : Fl (Int × Int) Bool) => match fl with
| .nx s23 => (.ok false)
| .bk _ => .stuck
| .rt r => .ok r)
def m_law (script : (List Int)) : R Bool :=
bd (bd (bd (m__law_mixed script 0) fun x1 => .ok (x1 % 36)) fun x2 => .ok (5 + x2)) fun endq6 =>
bd (.ok []) fun limits10 =>
bd (bd (bd (m__law_mixed script 1) fun x12 => .ok (x12 % 5)) fun x13 => rangeR 0 x13) fun xs =>
bd (forL (fun (limits15 : (List (Int × Int × Int))) (kq18 : Int) => (bd (bd (m__law_mixed script 2) fun x19 => divR x19 (1 + (3 * kq18))) fun number23 =>
bd (modR number23 (endq6 + 1)) fun first27 =>
bd (.ok (first27, min endq6 (first27 + ((number23 / 50) % 6)), 1 + ((number23 / 300) % 5))) fun y32 =>
bd (addR limits15 y32) fun limits33 =>
.ok (.nx limits33) : R (Fl (List (Int × Int × Int)) Bool))) xs limits10) (fun (fl : Fl (List (Int × Int × Int)) Bool) => match fl with
| .nx limits34 => (bd (m_Line___init__ endq6 limits34 []) fun line44 =>
bd (m__law_mixed script 3) fun number48 =>
bd (.ok (1 + (number48 % 3), 1 + ((number48 / 3) % 3), 1 + ((number48 / 9) % 6))) fun rules52 =>
bd (m_Kind___init__ (1 + ((number48 / 54) % 9)) rules52.1 rules52.2.1 rules52.2.2) fun kind56 =>
bd (rangeR 4 (max 5 (min (script.length : Int) 63))) fun xs =>
bd (forL (fun (number58 : Int) (kq61 : Int) => (bd (m__law_mixed script kq61) fun number65 =>
bd (bd (modR (number65 / 7) (endq6 + 1)) fun x66 => bd (modR number65 (rules52.2.2 + 1)) fun x67 => .ok (x66, x67)) fun t75 =>
bd (.ok (min endq6 (t75.1 + ((number65 / 300) % 18)))) fun leave80 =>
bd (m__law_stands rules52 limits34 (t75.1, t75.2) leave80) fun due84 =>
bd (bd (m_is_safe line44 kind56 t75.1 t75.2 leave80) fun x85 => .ok (!decide (x85 = due84))) fun c => if c = true then (
.ok (.rt false))
else (
bd (bd (m__law_steps rules52 limits34 (t75.1, t75.2) leave80) fun x190 => compR (fun (one87 : (Int × Int)) => .ok true) (fun (one87 : (Int × Int)) => .ok one87.2) x190) fun someq194 =>
bd (compR (fun (one195 : Int) => m__law_stands rules52 limits34 (t75.1 + one195, one195) leave80) (fun (one195 : Int) => .ok one195) someq194) fun someq301 =>
bd (bd (m_next_speed line44 kind56 t75.1 t75.2 leave80) fun x303 => bd (bd (catR [none] (someq301.map some)) fun x302 => atR x302 (-1)) fun x304 => neDR ((eOpt PyData.int) x303) ((eOpt PyData.int) x304)) fun c => if c = true then (
.ok (.rt false))
else (
bd ((if due84 = true then bd (m__law_goes_on line44 kind56 rules52 t75.1 t75.2 leave80) fun x306 => .ok (!x306) else .ok false)) fun c => if c = true then (
.ok (.rt false))
else (
.ok (.nx number65)))) : R (Fl Int Bool))) xs number48) (fun (fl : Fl Int Bool) => match fl with
| .nx number308 => (.ok true)
| .bk _ => .stuck
| .rt r => .ok r))
| .bk _ => .stuck
| .rt r => .ok r)
/-! ### facts of the module -/
def fx (K : PySem.W.Frag) : Bool := [].all id
structure GF (K : PySem.W.Frag) (mg : Str → Option Value) : Prop where
  f_len : mg "len" = none
  fn__law_cell_at : ∃ fd, FunD K "_law_cell_at" "_law_cell_at" (defArgs s18) (defBody s18) (defScope s18) (He.DefD.dvs K d18) [] (He.fAd K ("_law_cell_at", none)) fd
  g__law_cell_at : mg "_law_cell_at" = some (.ref (He.ga K "_law_cell_at"))
  fn__law_mixed : ∃ fd, FunD K "_law_mixed" "_law_mixed" (defArgs s19) (defBody s19) (defScope s19) (He.DefD.dvs K d19) [] (He.fAd K ("_law_mixed", none)) fd
  g__law_mixed : mg "_law_mixed" = some (.ref (He.ga K "_law_mixed"))
  f_range : mg "range" = none
  f_min : mg "min" = none
  f_isinstance : mg "isinstance" = none
  f_int : mg "int" = none
  f_bool : mg "bool" = none
  fn_is_among : ∃ fd, FunD K "is_among" "is_among" (defArgs s2) (defBody s2) (defScope s2) (He.DefD.dvs K d2) [] (He.fAd K ("is_among", none)) fd
  g_is_among : mg "is_among" = some (.ref (He.ga K "is_among"))
  i_MOST_NUMBER : ∃ t, mg "MOST_NUMBER" = some (.int 1000000000000 t)
  e_BadLine : PySem.W.excIn K (He.ga K "BadLine") He.veBase "ValueError.__new__" = true ∧ PySem.W.keepIn K (.ref (He.ga K "BadLine")) = true ∧ PySem.W.subIn K (.ref (He.ga K "BadLine")) (.type "BaseException") = some true ∧ PySem.W.typeIn K (.ref (He.ga K "BadLine")) = some (.type "type")
  g_BadLine : mg "BadLine" = some (.ref (He.ga K "BadLine"))
  i_MOST_LIMITS : ∃ t, mg "MOST_LIMITS" = some (.int 20 t)
  f_list : mg "list" = none
  fn_is_list : ∃ fd, FunD K "is_list" "is_list" (defArgs s12) (defBody s12) (defScope s12) (He.DefD.dvs K d12) [] (He.fAd K ("is_list", none)) fd
  g_is_list : mg "is_list" = some (.ref (He.ga K "is_list"))
  f_tuple : mg "tuple" = none
  i_MOST_SPEED : ∃ t, mg "MOST_SPEED" = some (.int 1000 t)
  fn_is_limit : ∃ fd, FunD K "is_limit" "is_limit" (defArgs s9) (defBody s9) (defScope s9) (He.DefD.dvs K d9) [] (He.fAd K ("is_limit", none)) fd
  g_is_limit : mg "is_limit" = some (.ref (He.ga K "is_limit"))
  f_all : mg "all" = none
  i_MOST_STATIONS : ∃ t, mg "MOST_STATIONS" = some (.int 10 t)
  f_str : mg "str" = none
  i_MOST_LETTERS : ∃ t, mg "MOST_LETTERS" = some (.int 8 t)
  s_LETTERS : ∃ t, mg "LETTERS" = some (.str "abcdefghijklmnopqrstuvwxyz" t)
  fn_is_name : ∃ fd, FunD K "is_name" "is_name" (defArgs s1) (defBody s1) (defScope s1) (He.DefD.dvs K d1) [] (He.fAd K ("is_name", none)) fd
  g_is_name : mg "is_name" = some (.ref (He.ga K "is_name"))
  i_LEAST_TRACKS : ∃ t, mg "LEAST_TRACKS" = some (.int 2 t)
  i_MOST_TRACKS : ∃ t, mg "MOST_TRACKS" = some (.int 5 t)
  fn_is_station : ∃ fd, FunD K "is_station" "is_station" (defArgs s10) (defBody s10) (defScope s10) (He.DefD.dvs K d10) [] (He.fAd K ("is_station", none)) fd
  g_is_station : mg "is_station" = some (.ref (He.ga K "is_station"))
  f_set : mg "set" = none
  f_zip : mg "zip" = none
  fn_are_in_order : ∃ fd, FunD K "are_in_order" "are_in_order" (defArgs s11) (defBody s11) (defScope s11) (He.DefD.dvs K d11) [] (He.fAd K ("are_in_order", none)) fd
  g_are_in_order : mg "are_in_order" = some (.ref (He.ga K "are_in_order"))
  c_Line : Cls K (He.ga K "Line")
  n_Line_end : NoAttr K (He.ga K "Line") "end"
  n_Line_limits : NoAttr K (He.ga K "Line") "limits"
  n_Line_stations : NoAttr K (He.ga K "Line") "stations"
  fn_Line___init__ : ∃ fd, FunD K "__init__" "Line.__init__" (defArgs s13) (defBody s13) (defScope s13) (He.DefD.dvs K d13) [] (He.fAd K ("Line", some "__init__")) fd
  k_Line : Mk K (He.ga K "Line") (He.ma K (He.ga K "Line") "__init__")
  g_Line : mg "Line" = some (.ref (He.ga K "Line"))
  i_MOST_LENGTH : ∃ t, mg "MOST_LENGTH" = some (.int 1000000 t)
  e_BadKind : PySem.W.excIn K (He.ga K "BadKind") He.veBase "ValueError.__new__" = true ∧ PySem.W.keepIn K (.ref (He.ga K "BadKind")) = true ∧ PySem.W.subIn K (.ref (He.ga K "BadKind")) (.type "BaseException") = some true ∧ PySem.W.typeIn K (.ref (He.ga K "BadKind")) = some (.type "type")
  g_BadKind : mg "BadKind" = some (.ref (He.ga K "BadKind"))
  c_Kind : Cls K (He.ga K "Kind")
  n_Kind_length : NoAttr K (He.ga K "Kind") "length"
  n_Kind_pull : NoAttr K (He.ga K "Kind") "pull"
  n_Kind_brake : NoAttr K (He.ga K "Kind") "brake"
  n_Kind_top : NoAttr K (He.ga K "Kind") "top"
  fn_Kind___init__ : ∃ fd, FunD K "__init__" "Kind.__init__" (defArgs s3) (defBody s3) (defScope s3) (He.DefD.dvs K d3) [] (He.fAd K ("Kind", some "__init__")) fd
  k_Kind : Mk K (He.ga K "Kind") (He.ma K (He.ga K "Kind") "__init__")
  g_Kind : mg "Kind" = some (.ref (He.ga K "Kind"))
  f_max : mg "max" = none
  fn__law_passes : ∃ fd, FunD K "_law_passes" "_law_passes" (defArgs s20) (defBody s20) (defScope s20) (He.DefD.dvs K d20) [] (He.fAd K ("_law_passes", none)) fd
  g__law_passes : mg "_law_passes" = some (.ref (He.ga K "_law_passes"))
  fn__law_steps : ∃ fd, FunD K "_law_steps" "_law_steps" (defArgs s21) (defBody s21) (defScope s21) (He.DefD.dvs K d21) [] (He.fAd K ("_law_steps", none)) fd
  g__law_steps : mg "_law_steps" = some (.ref (He.ga K "_law_steps"))
  fn__law_stands : ∃ fd, FunD K "_law_stands" "_law_stands" (defArgs s22) (defBody s22) (defScope s22) (He.DefD.dvs K d22) [] (He.fAd K ("_law_stands", none)) fd
  g__law_stands : mg "_law_stands" = some (.ref (He.ga K "_law_stands"))
  fn_braking : ∃ fd, FunD K "braking" "braking" (defArgs s4) (defBody s4) (defScope s4) (He.DefD.dvs K d4) [] (He.fAd K ("braking", none)) fd
  g_braking : mg "braking" = some (.ref (He.ga K "braking"))
  fn_Line_limit : ∃ fd, FunD K "limit" "Line.limit" (defArgs s14) (defBody s14) (defScope s14) (He.DefD.dvs K d14) [] (He.fAd K ("Line", some "limit")) fd
  m_Line_limit : Meth K (He.ga K "Line") "limit" (He.ma K (He.ga K "Line") "limit")
  fn_may_pass : ∃ fd, FunD K "may_pass" "may_pass" (defArgs s5) (defBody s5) (defScope s5) (He.DefD.dvs K d5) [] (He.fAd K ("may_pass", none)) fd
  g_may_pass : mg "may_pass" = some (.ref (He.ga K "may_pass"))
  fn_is_safe : ∃ fd, FunD K "is_safe" "is_safe" (defArgs s6) (defBody s6) (defScope s6) (He.DefD.dvs K d6) [] (He.fAd K ("is_safe", none)) fd
  g_is_safe : mg "is_safe" = some (.ref (He.ga K "is_safe"))
  fn_may_go : ∃ fd, FunD K "may_go" "may_go" (defArgs s7) (defBody s7) (defScope s7) (He.DefD.dvs K d7) [] (He.fAd K ("may_go", none)) fd
  g_may_go : mg "may_go" = some (.ref (He.ga K "may_go"))
  fn_next_speed : ∃ fd, FunD K "next_speed" "next_speed" (defArgs s8) (defBody s8) (defScope s8) (He.DefD.dvs K d8) [] (He.fAd K ("next_speed", none)) fd
  g_next_speed : mg "next_speed" = some (.ref (He.ga K "next_speed"))
  fn__law_goes_on : ∃ fd, FunD K "_law_goes_on" "_law_goes_on" (defArgs s23) (defBody s23) (defScope s23) (He.DefD.dvs K d23) [] (He.fAd K ("_law_goes_on", none)) fd
  g__law_goes_on : mg "_law_goes_on" = some (.ref (He.ga K "_law_goes_on"))
  fn_law : ∃ fd, FunD K "law" "law" (defArgs s24) (defBody s24) (defScope s24) (He.DefD.dvs K d24) [] (He.fAd K ("law", none)) fd
  g_law : mg "law" = some (.ref (He.ga K "law"))
theorem gf_of {K : PySem.W.Frag} {h : Heap} {mg : Str → Option Value} (X : K.In h) (N : h.Ns mainGlobals mg) (c : He.SaysD fa fn K) (hx : fx K = true) : GF K mg := ⟨He.free_ok X N (c.fact 0 (f := .free "len") rfl),
  c.def_ 14 rfl,
  He.glo_ok X N (c.fact 1 (f := .glo "_law_cell_at") rfl),
  c.def_ 15 rfl,
  He.glo_ok X N (c.fact 2 (f := .glo "_law_mixed") rfl),
  He.free_ok X N (c.fact 3 (f := .free "range") rfl),
  He.free_ok X N (c.fact 4 (f := .free "min") rfl),
  He.free_ok X N (c.fact 5 (f := .free "isinstance") rfl),
  He.free_ok X N (c.fact 6 (f := .free "int") rfl),
  He.free_ok X N (c.fact 7 (f := .free "bool") rfl),
  c.def_ 1 rfl,
  He.glo_ok X N (c.fact 8 (f := .glo "is_among") rfl),
  He.int_ok X N (c.fact 9 (f := .int "MOST_NUMBER" 1000000000000) rfl),
  He.exc_ok (c.fact 10 (f := .exc "BadLine") rfl),
  He.glo_ok X N (c.fact 11 (f := .glo "BadLine") rfl),
  He.int_ok X N (c.fact 12 (f := .int "MOST_LIMITS" 20) rfl),
  He.free_ok X N (c.fact 13 (f := .free "list") rfl),
  c.def_ 11 rfl,
  He.glo_ok X N (c.fact 14 (f := .glo "is_list") rfl),
  He.free_ok X N (c.fact 15 (f := .free "tuple") rfl),
  He.int_ok X N (c.fact 16 (f := .int "MOST_SPEED" 1000) rfl),
  c.def_ 8 rfl,
  He.glo_ok X N (c.fact 17 (f := .glo "is_limit") rfl),
  He.free_ok X N (c.fact 18 (f := .free "all") rfl),
  He.int_ok X N (c.fact 19 (f := .int "MOST_STATIONS" 10) rfl),
  He.free_ok X N (c.fact 20 (f := .free "str") rfl),
  He.int_ok X N (c.fact 21 (f := .int "MOST_LETTERS" 8) rfl),
  He.str_ok X N (c.fact 22 (f := .str "LETTERS" "abcdefghijklmnopqrstuvwxyz") rfl),
  c.def_ 0 rfl,
  He.glo_ok X N (c.fact 23 (f := .glo "is_name") rfl),
  He.int_ok X N (c.fact 24 (f := .int "LEAST_TRACKS" 2) rfl),
  He.int_ok X N (c.fact 25 (f := .int "MOST_TRACKS" 5) rfl),
  c.def_ 9 rfl,
  He.glo_ok X N (c.fact 26 (f := .glo "is_station") rfl),
  He.free_ok X N (c.fact 27 (f := .free "set") rfl),
  He.free_ok X N (c.fact 28 (f := .free "zip") rfl),
  c.def_ 10 rfl,
  He.glo_ok X N (c.fact 29 (f := .glo "are_in_order") rfl),
  He.cls_ok (c.fact 30 (f := .cls "Line") rfl),
  He.noat_ok (c.fact 31 (f := .noat "Line" "end") rfl),
  He.noat_ok (c.fact 32 (f := .noat "Line" "limits") rfl),
  He.noat_ok (c.fact 33 (f := .noat "Line" "stations") rfl),
  c.def_ 12 rfl,
  He.mkr_ok (c.fact 34 (f := .mkr "Line") rfl),
  He.glo_ok X N (c.fact 35 (f := .glo "Line") rfl),
  He.int_ok X N (c.fact 36 (f := .int "MOST_LENGTH" 1000000) rfl),
  He.exc_ok (c.fact 37 (f := .exc "BadKind") rfl),
  He.glo_ok X N (c.fact 38 (f := .glo "BadKind") rfl),
  He.cls_ok (c.fact 39 (f := .cls "Kind") rfl),
  He.noat_ok (c.fact 40 (f := .noat "Kind" "length") rfl),
  He.noat_ok (c.fact 41 (f := .noat "Kind" "pull") rfl),
  He.noat_ok (c.fact 42 (f := .noat "Kind" "brake") rfl),
  He.noat_ok (c.fact 43 (f := .noat "Kind" "top") rfl),
  c.def_ 2 rfl,
  He.mkr_ok (c.fact 44 (f := .mkr "Kind") rfl),
  He.glo_ok X N (c.fact 45 (f := .glo "Kind") rfl),
  He.free_ok X N (c.fact 46 (f := .free "max") rfl),
  c.def_ 16 rfl,
  He.glo_ok X N (c.fact 47 (f := .glo "_law_passes") rfl),
  c.def_ 17 rfl,
  He.glo_ok X N (c.fact 48 (f := .glo "_law_steps") rfl),
  c.def_ 18 rfl,
  He.glo_ok X N (c.fact 49 (f := .glo "_law_stands") rfl),
  c.def_ 3 rfl,
  He.glo_ok X N (c.fact 50 (f := .glo "braking") rfl),
  c.def_ 13 rfl,
  He.meth_ok (c.fact 51 (f := .meth "Line" "limit") rfl),
  c.def_ 4 rfl,
  He.glo_ok X N (c.fact 52 (f := .glo "may_pass") rfl),
  c.def_ 5 rfl,
  He.glo_ok X N (c.fact 53 (f := .glo "is_safe") rfl),
  c.def_ 6 rfl,
  He.glo_ok X N (c.fact 54 (f := .glo "may_go") rfl),
  c.def_ 7 rfl,
  He.glo_ok X N (c.fact 55 (f := .glo "next_speed") rfl),
  c.def_ 19 rfl,
  He.glo_ok X N (c.fact 56 (f := .glo "_law_goes_on") rfl),
  c.def_ 20 rfl,
  He.glo_ok X N (c.fact 57 (f := .glo "law") rfl)⟩
section
variable {P : Program} {w : World} {K : PySem.W.Frag} {mg : Str → Option Value} {base : Heap}
abbrev sp__law_cell_at (K : PySem.W.Frag) : Sp := SpF K (aCons (tList K tInt) (aOne tInt)) tInt (fun a => m__law_cell_at a.1 a.2)
theorem sc__law_cell_at : FnScope ["_law_script", "_law_k"] ["_law_script", "_law_k"] (defScope s18) := ⟨rfl, rfl, rfl, by decide +kernel, rfl, by decide +kernel, by decide +kernel⟩
theorem ok__law_cell_at (g : GF K mg) : CalX P w K mg base 1 "_law_cell_at" (sp__law_cell_at K) := by
  obtain ⟨fd, F⟩ := g.fn__law_cell_at
  refine ⟨_, fd, _, F.ok (CX := L2.CX P w) (k := 0) (sp := sp__law_cell_at K) sc__law_cell_at spF_len (fun cdv A outer s H0 vs Q E hr h => ?_), g.g__law_cell_at, F.kp, (F.bindsN fun _ _ _ _ _ _ us hl => match us, hl with | [_, _], _ => rfl)⟩
  obtain ⟨F0, ⟨script, k_⟩, s0, ra, hp⟩ := h
  obtain ⟨v_0, _, rfl, r_0, ⟨v_1, rfl, r_1⟩⟩ := ra
  have r_0 : (tList K tInt).rep F0 v_0 script := r_0
  have r_1 : tInt.rep F0 v_1 k_ := r_1
  have fr0 : Fr F0 H0 F0 H0 := Fr.refl s0
  refine ⟨_, (pss_cons (ps_if (pt_cmpR op_lt (pv 1) (pe_callB (kc_len (K := K) rfl) (by rfl) g.f_len bt_len (pa_cons (pv 0) pa_nil)) (nomark _)) (pss_one (ps_ret (pe_ix (kx_list (K := K) rfl) (pv 0) (pv 1) (fun _ _ => rfl)))) pss_nil)
      (pss_one (ps_ret pe_int))), ?_⟩
  obtain ⟨XX, KK, hX, ret0, hp⟩ : ∃ (XX : Exn → Prop) (KK : Int → Prop), (∀ e, XX e → ∀ (_ : L2.St) F' H', Fr F0 H0 F' H' → XS K E e H') ∧ (∀ (a : Int) v F9 H9, Fr F0 H0 F9 H9 → tInt.rep F9 v a → Post (.ok a : R Int) KK XX → Q v H9) ∧ Post (m__law_cell_at script k_) KK XX := ⟨(fun e => ∀ F' H', Fr F0 H0 F' H' → XS K E e H'), (fun b => ∀ v F' H', Fr F0 H0 F' H' → tInt.rep F' v b → Q v H'), fun e h _ => h, fun a v F9 H9 f r k => k v F9 H9 f r, hp⟩
  unfold m__law_cell_at at hp
  try (with_reducible refine st_go ?_)
  refine st_seq ?_
  refine s_if hX fr0 (et_test (ev_lt (ev_vI rfl r_1) (ev_lenL (ev_var rfl r_0)))) hp (fun F1 H1 _ f1 fr1 hp => ?_) (fun F1 H1 _ f1 fr1 hp => ?_)
  · have r_0 := (tList K tInt).mono f1.f r_0
    try (with_reducible refine st_go ?_)
    exact s_ret0 hX fr1 (ev_ixL (ev_var rfl r_0) (ev_vI rfl r_1)) hp ret0
  · have r_0 := (tList K tInt).mono f1.f r_0
    refine st_next ?_
    try (with_reducible refine st_go ?_)
    exact s_ret0 hX fr1 ev_int hp ret0
abbrev sp__law_mixed (K : PySem.W.Frag) : Sp := SpF K (aCons (tList K tInt) (aOne tInt)) tInt (fun a => m__law_mixed a.1 a.2)
theorem sc__law_mixed : FnScope ["_law_script", "_law_k", "_law_number"] ["_law_script", "_law_k"] (defScope s19) := ⟨rfl, rfl, rfl, by decide +kernel, rfl, by decide +kernel, by decide +kernel⟩
theorem ok__law_mixed (g : GF K mg) : CalX P w K mg base 2 "_law_mixed" (sp__law_mixed K) := by
  obtain ⟨fd, F⟩ := g.fn__law_mixed
  refine ⟨_, fd, _, F.ok (CX := L2.CX P w) (k := 1) (sp := sp__law_mixed K) sc__law_mixed spF_len (fun cdv A outer s H0 vs Q E hr h => ?_), g.g__law_mixed, F.kp, (F.bindsN fun _ _ _ _ _ _ us hl => match us, hl with | [_, _], _ => rfl)⟩
  obtain ⟨F0, ⟨script, k_⟩, s0, ra, hp⟩ := h
  obtain ⟨v_0, _, rfl, r_0, ⟨v_1, rfl, r_1⟩⟩ := ra
  have r_0 : (tList K tInt).rep F0 v_0 script := r_0
  have r_1 : tInt.rep F0 v_1 k_ := r_1
  have fr0 : Fr F0 H0 F0 H0 := Fr.refl s0
  refine ⟨_, (pss_cons (ps_set (i := 2) sc__law_mixed.nd rfl (by first | exact Or.inl rfl | exact Or.inr rfl) (pe_op op_mod (pe_op op_add (pe_op op_add (pe_op op_mul (pe_cxK (K := K) rfl (ok__law_cell_at g) hr (by decide) (E := E) (passes_call (takes_of rfl rfl rfl rfl) (fun _ _ _ _ h => h)) (pa_cons (pv 0) (pa_cons (pv 1) pa_nil))) pe_int) (pe_op op_mul pe_int (pv 1))) pe_int) pe_int))
      (pss_one (ps_ret (pe_op op_mod (pe_op op_mul (pv 2) (pe_op op_add (pv 2) (pe_op op_mul pe_int (pv 1)))) pe_int)))), ?_⟩
  obtain ⟨XX, KK, hX, ret0, hp⟩ : ∃ (XX : Exn → Prop) (KK : Int → Prop), (∀ e, XX e → ∀ (_ : L2.St) F' H', Fr F0 H0 F' H' → XS K E e H') ∧ (∀ (a : Int) v F9 H9, Fr F0 H0 F9 H9 → tInt.rep F9 v a → Post (.ok a : R Int) KK XX → Q v H9) ∧ Post (m__law_mixed script k_) KK XX := ⟨(fun e => ∀ F' H', Fr F0 H0 F' H' → XS K E e H'), (fun b => ∀ v F' H', Fr F0 H0 F' H' → tInt.rep F' v b → Q v H'), fun e h _ => h, fun a v F9 H9 f r k => k v F9 H9 f r, hp⟩
  unfold m__law_mixed at hp
  try (with_reducible refine st_go ?_)
  refine st_seq ?_
  refine s_asg hX fr0 (ev_modC (by decide) (ev_add (ev_add (ev_mulC (by decide) (ev_call (E := E) (fun _ _ z => z) (ea_cons (ev_var rfl r_0) (ea_one (ev_vI rfl r_1)))) ev_int) (ev_mulD (by decide) ev_int (ev_vI rfl r_1))) ev_int) ev_int) hp (fun number8 v6 F5 H5 _ f5 fr5 r7 hp => ?_)
  have r_0 := (tList K tInt).mono f5.f r_0
  try (with_reducible refine st_go ?_)
  exact s_ret0 hX fr5 (ev_modC (by decide) (ev_mul (ev_vI rfl r7) (ev_add (ev_vI rfl r7) (ev_mulD (by decide) ev_int (ev_vI rfl r_1)))) ev_int) hp ret0
abbrev sp_is_among (K : PySem.W.Frag) : Sp := SpF K (aCons tInt (aCons tInt (aOne tInt))) tBool (fun a => m_is_among a.1 a.2.1 a.2.2)
theorem sc_is_among : FnScope ["thing", "least", "most"] ["thing", "least", "most"] (defScope s2) := ⟨rfl, rfl, rfl, by decide +kernel, rfl, by decide +kernel, by decide +kernel⟩
theorem ok_is_among (g : GF K mg) : CalX P w K mg base 1 "is_among" (sp_is_among K) := by
  obtain ⟨fd, F⟩ := g.fn_is_among
  refine ⟨_, fd, _, F.ok (CX := L2.CX P w) (k := 0) (sp := sp_is_among K) sc_is_among spF_len (fun cdv A outer s H0 vs Q E hr h => ?_), g.g_is_among, F.kp, (F.bindsN fun _ _ _ _ _ _ us hl => match us, hl with | [_, _, _], _ => rfl)⟩
  obtain ⟨F0, ⟨thing, least, most⟩, s0, ra, hp⟩ := h
  obtain ⟨v_0, _, rfl, r_0, ⟨v_1, _, rfl, r_1, ⟨v_2, rfl, r_2⟩⟩⟩ := ra
  have r_0 : tInt.rep F0 v_0 thing := r_0
  have r_1 : tInt.rep F0 v_1 least := r_1
  have r_2 : tInt.rep F0 v_2 most := r_2
  have fr0 : Fr F0 H0 F0 H0 := Fr.refl s0
  refine ⟨_, (pss_one (ps_ret (pe_and (pe_callB (kc_isi (K := K) rfl) (by rfl) g.f_isinstance bt_isinstance (pa_cons (pv 0) (pa_cons (pe_bltn (v := .ty "int") (by rfl) g.f_int bt_int rfl) pa_nil))) (pe_and (pe_not (pe_callB (kc_isi (K := K) rfl) (by rfl) g.f_isinstance bt_isinstance (pa_cons (pv 0) (pa_cons (pe_bltn (v := .ty "bool") (by rfl) g.f_bool bt_bool rfl) pa_nil)))) (pe_one (pe_chain op_le op_le (pv 1) (pv 0) (pv 2))))))), ?_⟩
  obtain ⟨XX, KK, hX, ret0, hp⟩ : ∃ (XX : Exn → Prop) (KK : Bool → Prop), (∀ e, XX e → ∀ (_ : L2.St) F' H', Fr F0 H0 F' H' → XS K E e H') ∧ (∀ (a : Bool) v F9 H9, Fr F0 H0 F9 H9 → tBool.rep F9 v a → Post (.ok a : R Bool) KK XX → Q v H9) ∧ Post (m_is_among thing least most) KK XX := ⟨(fun e => ∀ F' H', Fr F0 H0 F' H' → XS K E e H'), (fun b => ∀ v F' H', Fr F0 H0 F' H' → tBool.rep F' v b → Q v H'), fun e h _ => h, fun a v F9 H9 f r k => k v F9 H9 f r, hp⟩
  unfold m_is_among at hp
  try (with_reducible refine st_go ?_)
  exact s_ret0 hX fr0 (ev_andP (ev_isi ty_int (by decide +kernel : kitB "int" "int" = some true) (ev_vI rfl r_0)) (ev_andP (ev_notV (ev_isi ty_int (by decide +kernel : kitB "int" "bool" = some false) (ev_vI rfl r_0))) (ev_chainP o_B0 o_B0 (ev_vI rfl r_1) (ev_vI rfl r_0) (ev_vI rfl r_2)))) hp ret0
abbrev sp_is_list_v0 (K : PySem.W.Frag) : Sp := SpF K (aCons (yList (yTup K (aCons tInt (aCons tInt (aOne tInt))))) (aOne tInt)) tBool (fun a => m_is_list_v0 a.1 a.2)
theorem sc_is_list_v0 : FnScope ["thing", "most"] ["thing", "most"] (defScope s12) := ⟨rfl, rfl, rfl, by decide +kernel, rfl, by decide +kernel, by decide +kernel⟩
theorem ok_is_list_v0 (g : GF K mg) : CalX P w K mg base 1 "is_list" (sp_is_list_v0 K) := by
  obtain ⟨fd, F⟩ := g.fn_is_list
  refine ⟨_, fd, _, F.ok (CX := L2.CX P w) (k := 0) (sp := sp_is_list_v0 K) sc_is_list_v0 spF_len (fun cdv A outer s H0 vs Q E hr h => ?_), g.g_is_list, F.kp, (F.bindsN fun _ _ _ _ _ _ us hl => match us, hl with | [_, _], _ => rfl)⟩
  obtain ⟨F0, ⟨thing, most⟩, s0, ra, hp⟩ := h
  obtain ⟨v_0, _, rfl, r_0, ⟨v_1, rfl, r_1⟩⟩ := ra
  have r_0 : (yList (yTup K (aCons tInt (aCons tInt (aOne tInt))))).rep F0 v_0 thing := r_0
  have r_1 : tInt.rep F0 v_1 most := r_1
  have fr0 : Fr F0 H0 F0 H0 := Fr.refl s0
  refine ⟨_, (pss_one (ps_ret (pe_and (pe_callB (kc_isi (K := K) rfl) (by rfl) g.f_isinstance bt_isinstance (pa_cons (pv 0) (pa_cons (pe_bltn (v := .ty "list") (by rfl) g.f_list bt_list rfl) pa_nil))) (pe_one (pe_cmpR op_le (pe_callB (kc_len (K := K) rfl) (by rfl) g.f_len bt_len (pa_cons (pv 0) pa_nil)) (pv 1) (nomark _)))))), ?_⟩
  obtain ⟨XX, KK, hX, ret0, hp⟩ : ∃ (XX : Exn → Prop) (KK : Bool → Prop), (∀ e, XX e → ∀ (_ : L2.St) F' H', Fr F0 H0 F' H' → XS K E e H') ∧ (∀ (a : Bool) v F9 H9, Fr F0 H0 F9 H9 → tBool.rep F9 v a → Post (.ok a : R Bool) KK XX → Q v H9) ∧ Post (m_is_list_v0 thing most) KK XX := ⟨(fun e => ∀ F' H', Fr F0 H0 F' H' → XS K E e H'), (fun b => ∀ v F' H', Fr F0 H0 F' H' → tBool.rep F' v b → Q v H'), fun e h _ => h, fun a v F9 H9 f r k => k v F9 H9 f r, hp⟩
  unfold m_is_list_v0 at hp
  try (with_reducible refine st_go ?_)
  exact s_ret0 hX fr0 (ev_andP (ev_isi ty_lst (by decide +kernel : kitB "list" "list" = some true) (ev_var rfl r_0)) (ev_le (ev_lenL (ev_wk (ev_var rfl r_0))) (ev_vI rfl r_1))) hp ret0
abbrev sp_is_limit (K : PySem.W.Frag) : Sp := SpF K (aCons (yTup K (aCons tInt (aCons tInt (aOne tInt)))) (aOne tInt)) tBool (fun a => m_is_limit a.1 a.2)
theorem sc_is_limit : FnScope ["thing", "end"] ["thing", "end"] (defScope s9) := ⟨rfl, rfl, rfl, by decide +kernel, rfl, by decide +kernel, by decide +kernel⟩
theorem ok_is_limit (g : GF K mg) : CalX P w K mg base 2 "is_limit" (sp_is_limit K) := by
  obtain ⟨fd, F⟩ := g.fn_is_limit
  refine ⟨_, fd, _, F.ok (CX := L2.CX P w) (k := 1) (sp := sp_is_limit K) sc_is_limit spF_len (fun cdv A outer s H0 vs Q E hr h => ?_), g.g_is_limit, F.kp, (F.bindsN fun _ _ _ _ _ _ us hl => match us, hl with | [_, _], _ => rfl)⟩
  obtain ⟨F0, ⟨thing, end_⟩, s0, ra, hp⟩ := h
  obtain ⟨v_0, _, rfl, r_0, ⟨v_1, rfl, r_1⟩⟩ := ra
  have r_0 : (yTup K (aCons tInt (aCons tInt (aOne tInt)))).rep F0 v_0 thing := r_0
  have r_1 : tInt.rep F0 v_1 end_ := r_1
  have fr0 : Fr F0 H0 F0 H0 := Fr.refl s0
  refine ⟨_, (pss_cons (ps_if (PW.pt (pw_or (pt_not (pt_val (pe_callB (kc_isi (K := K) rfl) (by rfl) g.f_isinstance bt_isinstance (pa_cons (pv 0) (pa_cons (pe_bltn (v := .ty "tuple") (by rfl) g.f_tuple bt_tuple rfl) pa_nil))))) (pw_or (pt_cmpR op_ne (pe_callB (kc_len (K := K) rfl) (by rfl) g.f_len bt_len (pa_cons (pv 0) pa_nil)) pe_int (nomark _)) (pw_or1 (pt_not (pt_val (pe_cxK (K := K) rfl (ok_is_among g) hr (by decide) (E := E) (passes_call (takes_of rfl rfl rfl rfl) (fun _ _ _ _ h => h)) (pa_cons (pe_ix (kx_tup (K := K) rfl) (pv 0) pe_int (fun _ _ => rfl)) (pa_cons pe_int (pa_cons (pv 1) pa_nil)))))))))) (pss_one (ps_ret pe_bl)) pss_nil)
      (pss_one (ps_ret (pe_and (pe_cxK (K := K) rfl (ok_is_among g) hr (by decide) (E := E) (passes_call (takes_of rfl rfl rfl rfl) (fun _ _ _ _ h => h)) (pa_cons (pe_ix (kx_tup (K := K) rfl) (pv 0) pe_int (fun _ _ => rfl)) (pa_cons (pe_ix (kx_tup (K := K) rfl) (pv 0) pe_int (fun _ _ => rfl)) (pa_cons (pv 1) pa_nil)))) (pe_one (pe_cxK (K := K) rfl (ok_is_among g) hr (by decide) (E := E) (passes_call (takes_of rfl rfl rfl rfl) (fun _ _ _ _ h => h)) (pa_cons (pe_ix (kx_tup (K := K) rfl) (pv 0) pe_int (fun _ _ => rfl)) (pa_cons pe_int (pa_cons (pe_gi g.i_MOST_SPEED) pa_nil))))))))), ?_⟩
  obtain ⟨XX, KK, hX, ret0, hp⟩ : ∃ (XX : Exn → Prop) (KK : Bool → Prop), (∀ e, XX e → ∀ (_ : L2.St) F' H', Fr F0 H0 F' H' → XS K E e H') ∧ (∀ (a : Bool) v F9 H9, Fr F0 H0 F9 H9 → tBool.rep F9 v a → Post (.ok a : R Bool) KK XX → Q v H9) ∧ Post (m_is_limit thing end_) KK XX := ⟨(fun e => ∀ F' H', Fr F0 H0 F' H' → XS K E e H'), (fun b => ∀ v F' H', Fr F0 H0 F' H' → tBool.rep F' v b → Q v H'), fun e h _ => h, fun a v F9 H9 f r k => k v F9 H9 f r, hp⟩
  unfold m_is_limit at hp
  try (with_reducible refine st_go ?_)
  refine st_seq ?_
  refine s_if hX fr0 (et_or (et_not (et_val (ev_isi ty_tup (by decide +kernel : kitB "tuple" "tuple" = some true) (ev_var rfl r_0)))) (et_or (et_test (ev_neI (ev_lenT (n := 3) rfl (ev_var rfl r_0)) ev_int)) (et_not (et_val (ev_call (E := E) (fun _ _ z => z) (ea_cons (ev_nth (i := 0) nth_0 (ev_var rfl r_0)) (ea_cons ev_int (ea_one (ev_vI rfl r_1))))))))) hp (fun F2 H2 _ f2 fr2 hp => ?_) (fun F2 H2 _ f2 fr2 hp => ?_)
  · have r_0 := (yTup K (aCons tInt (aCons tInt (aOne tInt)))).mono f2.f r_0
    try (with_reducible refine st_go ?_)
    exact s_ret0 hX fr2 ev_bl hp ret0
  · have r_0 := (yTup K (aCons tInt (aCons tInt (aOne tInt)))).mono f2.f r_0
    refine st_next ?_
    try (with_reducible refine st_go ?_)
    exact s_ret0 hX fr2 (ev_andV (ev_call (E := E) (fun _ _ z => z) (ea_cons (ev_nth (i := 1) (nth_s nth_0) (ev_var rfl r_0)) (ea_cons (ev_nth (i := 0) nth_0 (ev_var rfl r_0)) (ea_one (ev_vI rfl r_1))))) (ev_call (E := E) (fun _ _ z => z) (ea_cons (ev_nth (i := 2) (nth_s (nth_s nth_one)) (ev_var rfl r_0)) (ea_cons ev_int (ea_one ev_int))))) hp ret0
abbrev sp_is_list_v1 (K : PySem.W.Frag) : Sp := SpF K (aCons (yList (yTup K (aCons tStr (aCons tInt (aCons tInt (aOne tInt)))))) (aOne tInt)) tBool (fun a => m_is_list_v1 a.1 a.2)
theorem sc_is_list_v1 : FnScope ["thing", "most"] ["thing", "most"] (defScope s12) := ⟨rfl, rfl, rfl, by decide +kernel, rfl, by decide +kernel, by decide +kernel⟩
theorem ok_is_list_v1 (g : GF K mg) : CalX P w K mg base 1 "is_list" (sp_is_list_v1 K) := by
  obtain ⟨fd, F⟩ := g.fn_is_list
  refine ⟨_, fd, _, F.ok (CX := L2.CX P w) (k := 0) (sp := sp_is_list_v1 K) sc_is_list_v1 spF_len (fun cdv A outer s H0 vs Q E hr h => ?_), g.g_is_list, F.kp, (F.bindsN fun _ _ _ _ _ _ us hl => match us, hl with | [_, _], _ => rfl)⟩
  obtain ⟨F0, ⟨thing, most⟩, s0, ra, hp⟩ := h
  obtain ⟨v_0, _, rfl, r_0, ⟨v_1, rfl, r_1⟩⟩ := ra
  have r_0 : (yList (yTup K (aCons tStr (aCons tInt (aCons tInt (aOne tInt)))))).rep F0 v_0 thing := r_0
  have r_1 : tInt.rep F0 v_1 most := r_1
  have fr0 : Fr F0 H0 F0 H0 := Fr.refl s0
  refine ⟨_, (pss_one (ps_ret (pe_and (pe_callB (kc_isi (K := K) rfl) (by rfl) g.f_isinstance bt_isinstance (pa_cons (pv 0) (pa_cons (pe_bltn (v := .ty "list") (by rfl) g.f_list bt_list rfl) pa_nil))) (pe_one (pe_cmpR op_le (pe_callB (kc_len (K := K) rfl) (by rfl) g.f_len bt_len (pa_cons (pv 0) pa_nil)) (pv 1) (nomark _)))))), ?_⟩
  obtain ⟨XX, KK, hX, ret0, hp⟩ : ∃ (XX : Exn → Prop) (KK : Bool → Prop), (∀ e, XX e → ∀ (_ : L2.St) F' H', Fr F0 H0 F' H' → XS K E e H') ∧ (∀ (a : Bool) v F9 H9, Fr F0 H0 F9 H9 → tBool.rep F9 v a → Post (.ok a : R Bool) KK XX → Q v H9) ∧ Post (m_is_list_v1 thing most) KK XX := ⟨(fun e => ∀ F' H', Fr F0 H0 F' H' → XS K E e H'), (fun b => ∀ v F' H', Fr F0 H0 F' H' → tBool.rep F' v b → Q v H'), fun e h _ => h, fun a v F9 H9 f r k => k v F9 H9 f r, hp⟩
  unfold m_is_list_v1 at hp
  try (with_reducible refine st_go ?_)
  exact s_ret0 hX fr0 (ev_andP (ev_isi ty_lst (by decide +kernel : kitB "list" "list" = some true) (ev_var rfl r_0)) (ev_le (ev_lenL (ev_wk (ev_var rfl r_0))) (ev_vI rfl r_1))) hp ret0
abbrev sp_is_name (K : PySem.W.Frag) : Sp := SpF K (aOne tStr) tBool (fun a => m_is_name a)
theorem sc_is_name : FnScope ["thing", "sign"] ["thing"] (defScope s1) := ⟨rfl, rfl, rfl, by decide +kernel, rfl, by decide +kernel, by decide +kernel⟩
theorem ok_is_name (g : GF K mg) : CalX P w K mg base 1 "is_name" (sp_is_name K) := by
  obtain ⟨fd, F⟩ := g.fn_is_name
  refine ⟨_, fd, _, F.ok (CX := L2.CX P w) (k := 0) (sp := sp_is_name K) sc_is_name spF_len (fun cdv A outer s H0 vs Q E hr h => ?_), g.g_is_name, F.kp, (F.bindsN fun _ _ _ _ _ _ us hl => match us, hl with | [_], _ => rfl)⟩
  obtain ⟨F0, thing, s0, ra, hp⟩ := h
  obtain ⟨v_0, rfl, r_0⟩ := ra
  have r_0 : tStr.rep F0 v_0 thing := r_0
  have fr0 : Fr F0 H0 F0 H0 := Fr.refl s0
  refine ⟨_, (pss_cons (ps_if (PW.pt (pw_or (pt_not (pt_val (pe_callB (kc_isi (K := K) rfl) (by rfl) g.f_isinstance bt_isinstance (pa_cons (pv 0) (pa_cons (pe_bltn (v := .ty "str") (by rfl) g.f_str bt_str rfl) pa_nil))))) (pw_or1 (pt_not (pt_chain op_le op_le pe_int (pe_callB (kc_len (K := K) rfl) (by rfl) g.f_len bt_len (pa_cons (pv 0) pa_nil)) (pe_gi g.i_MOST_LETTERS)))))) (pss_one (ps_ret pe_bl)) pss_nil)
      (pss_one (ps_ret (pe_callB (kc_all (K := K) rfl rfl) (by rfl) g.f_all bt_all (pa_cons (pe_lc (g := gName 1) (own := [("sign", 1)]) rfl sc_is_name.nd (pi_str (pv 0)) (blkOk_by (N := ["thing", "sign"]) (sc := (defScope Br.s1)) (by decide +kernel)) (fun _ _ _ _ _ => (pg_name (i := 1) sc_is_name.nd rfl (by first | exact Or.inl rfl | exact Or.inr rfl))) (fun _ _ _ _ _ => pts_nil) (fun _ _ _ _ _ => (pe_cmpR op_in_sign (pv 1) (pe_gs g.s_LETTERS) rfl))) pa_nil))))), ?_⟩
  obtain ⟨XX, KK, hX, ret0, hp⟩ : ∃ (XX : Exn → Prop) (KK : Bool → Prop), (∀ e, XX e → ∀ (_ : L2.St) F' H', Fr F0 H0 F' H' → XS K E e H') ∧ (∀ (a : Bool) v F9 H9, Fr F0 H0 F9 H9 → tBool.rep F9 v a → Post (.ok a : R Bool) KK XX → Q v H9) ∧ Post (m_is_name thing) KK XX := ⟨(fun e => ∀ F' H', Fr F0 H0 F' H' → XS K E e H'), (fun b => ∀ v F' H', Fr F0 H0 F' H' → tBool.rep F' v b → Q v H'), fun e h _ => h, fun a v F9 H9 f r k => k v F9 H9 f r, hp⟩
  unfold m_is_name at hp
  try (with_reducible refine st_go ?_)
  refine st_seq ?_
  refine s_if hX fr0 (et_or (et_not (et_val (ev_isi ty_str (by decide +kernel : kitB "str" "str" = some true) (ev_vS rfl r_0)))) (et_not (et_test (ev_chain o_B0 (fun _ _ => calm_ok) o_B0 (fun _ _ => calm_ok) ev_int (ev_lenS (ev_vS rfl r_0)) ev_int)))) hp (fun F3 H3 _ f3 fr3 hp => ?_) (fun F3 H3 _ f3 fr3 hp => ?_)
  · try (with_reducible refine st_go ?_)
    exact s_ret0 hX fr3 ev_bl hp ret0
  · refine st_next ?_
    try (with_reducible refine st_go ?_)
    exact s_ret0 hX fr3 (ev_all (ev_wk (ev_of_l (el_comp (c := (fun (sign4 : Str) => .ok true)) (e := (fun (sign4 : Str) => inSR sign4 ("abcdefghijklmnopqrstuvwxyz" : Str))) (ei_str (ev_vS rfl r_0)) tg_name (fun σ2 F2 x p => by obtain ⟨w, rfl, _⟩ := p; rfl) (fun σ2 F2 H2 sign4 f p => by obtain ⟨w5, rfl, r6⟩ := p; exact et_is et_yes rfl) (fun σ2 F2 H2 sign4 f p => by obtain ⟨w5, rfl, r6⟩ := p; exact ev_is (ev_inS (ev_vS rfl r6) ev_str) rfl) (fun σ2 F2 F3 x s p => by obtain ⟨w, e, r⟩ := p; exact ⟨w, e, tStr.mono s r⟩))))) hp ret0
abbrev sp_is_station (K : PySem.W.Frag) : Sp := SpF K (aCons (yTup K (aCons tStr (aCons tInt (aCons tInt (aOne tInt))))) (aOne tInt)) tBool (fun a => m_is_station a.1 a.2)
theorem sc_is_station : FnScope ["thing", "end"] ["thing", "end"] (defScope s10) := ⟨rfl, rfl, rfl, by decide +kernel, rfl, by decide +kernel, by decide +kernel⟩
theorem ok_is_station (g : GF K mg) : CalX P w K mg base 2 "is_station" (sp_is_station K) := by
  obtain ⟨fd, F⟩ := g.fn_is_station
  refine ⟨_, fd, _, F.ok (CX := L2.CX P w) (k := 1) (sp := sp_is_station K) sc_is_station spF_len (fun cdv A outer s H0 vs Q E hr h => ?_), g.g_is_station, F.kp, (F.bindsN fun _ _ _ _ _ _ us hl => match us, hl with | [_, _], _ => rfl)⟩
  obtain ⟨F0, ⟨thing, end_⟩, s0, ra, hp⟩ := h
  obtain ⟨v_0, _, rfl, r_0, ⟨v_1, rfl, r_1⟩⟩ := ra
  have r_0 : (yTup K (aCons tStr (aCons tInt (aCons tInt (aOne tInt))))).rep F0 v_0 thing := r_0
  have r_1 : tInt.rep F0 v_1 end_ := r_1
  have fr0 : Fr F0 H0 F0 H0 := Fr.refl s0
  refine ⟨_, (pss_cons (ps_if (PW.pt (pw_or (pt_not (pt_val (pe_callB (kc_isi (K := K) rfl) (by rfl) g.f_isinstance bt_isinstance (pa_cons (pv 0) (pa_cons (pe_bltn (v := .ty "tuple") (by rfl) g.f_tuple bt_tuple rfl) pa_nil))))) (pw_or (pt_cmpR op_ne (pe_callB (kc_len (K := K) rfl) (by rfl) g.f_len bt_len (pa_cons (pv 0) pa_nil)) pe_int (nomark _)) (pw_or (pt_not (pt_val (pe_cxK (K := K) rfl (ok_is_name g) hr (by decide) (E := E) (passes_call (takes_of rfl rfl rfl rfl) (fun _ _ _ _ h => h)) (pa_cons (pe_ix (kx_tup (K := K) rfl) (pv 0) pe_int (fun _ _ => rfl)) pa_nil)))) (pw_or1 (pt_not (pt_val (pe_cxK (K := K) rfl (ok_is_among g) hr (by decide) (E := E) (passes_call (takes_of rfl rfl rfl rfl) (fun _ _ _ _ h => h)) (pa_cons (pe_ix (kx_tup (K := K) rfl) (pv 0) pe_int (fun _ _ => rfl)) (pa_cons pe_int (pa_cons (pe_op op_sub (pv 1) pe_int) pa_nil))))))))))) (pss_one (ps_ret pe_bl)) pss_nil)
      (pss_one (ps_ret (pe_and (pe_cxK (K := K) rfl (ok_is_among g) hr (by decide) (E := E) (passes_call (takes_of rfl rfl rfl rfl) (fun _ _ _ _ h => h)) (pa_cons (pe_ix (kx_tup (K := K) rfl) (pv 0) pe_int (fun _ _ => rfl)) (pa_cons (pe_ix (kx_tup (K := K) rfl) (pv 0) pe_int (fun _ _ => rfl)) (pa_cons (pe_op op_sub (pv 1) pe_int) pa_nil)))) (pe_one (pe_cxK (K := K) rfl (ok_is_among g) hr (by decide) (E := E) (passes_call (takes_of rfl rfl rfl rfl) (fun _ _ _ _ h => h)) (pa_cons (pe_ix (kx_tup (K := K) rfl) (pv 0) pe_int (fun _ _ => rfl)) (pa_cons (pe_gi g.i_LEAST_TRACKS) (pa_cons (pe_gi g.i_MOST_TRACKS) pa_nil))))))))), ?_⟩
  obtain ⟨XX, KK, hX, ret0, hp⟩ : ∃ (XX : Exn → Prop) (KK : Bool → Prop), (∀ e, XX e → ∀ (_ : L2.St) F' H', Fr F0 H0 F' H' → XS K E e H') ∧ (∀ (a : Bool) v F9 H9, Fr F0 H0 F9 H9 → tBool.rep F9 v a → Post (.ok a : R Bool) KK XX → Q v H9) ∧ Post (m_is_station thing end_) KK XX := ⟨(fun e => ∀ F' H', Fr F0 H0 F' H' → XS K E e H'), (fun b => ∀ v F' H', Fr F0 H0 F' H' → tBool.rep F' v b → Q v H'), fun e h _ => h, fun a v F9 H9 f r k => k v F9 H9 f r, hp⟩
  unfold m_is_station at hp
  try (with_reducible refine st_go ?_)
  refine st_seq ?_
  refine s_if hX fr0 (et_or (et_not (et_val (ev_isi ty_tup (by decide +kernel : kitB "tuple" "tuple" = some true) (ev_var rfl r_0)))) (et_or (et_test (ev_neI (ev_lenT (n := 4) rfl (ev_var rfl r_0)) ev_int)) (et_or (et_not (et_val (ev_call (E := E) (fun _ _ z => z) (ea_one (ev_nth (i := 0) nth_0 (ev_var rfl r_0)))))) (et_not (et_val (ev_call (E := E) (fun _ _ z => z) (ea_cons (ev_nth (i := 1) (nth_s nth_0) (ev_var rfl r_0)) (ea_cons ev_int (ea_one (ev_sub (ev_vI rfl r_1) ev_int)))))))))) hp (fun F4 H4 _ f4 fr4 hp => ?_) (fun F4 H4 _ f4 fr4 hp => ?_)
  · have r_0 := (yTup K (aCons tStr (aCons tInt (aCons tInt (aOne tInt))))).mono f4.f r_0
    try (with_reducible refine st_go ?_)
    exact s_ret0 hX fr4 ev_bl hp ret0
  · have r_0 := (yTup K (aCons tStr (aCons tInt (aCons tInt (aOne tInt))))).mono f4.f r_0
    refine st_next ?_
    try (with_reducible refine st_go ?_)
    exact s_ret0 hX fr4 (ev_andV (ev_call (E := E) (fun _ _ z => z) (ea_cons (ev_nth (i := 2) (nth_s (nth_s nth_0)) (ev_var rfl r_0)) (ea_cons (ev_nth (i := 1) (nth_s nth_0) (ev_var rfl r_0)) (ea_one (ev_sub (ev_vI rfl r_1) ev_int))))) (ev_call (E := E) (fun _ _ z => z) (ea_cons (ev_nth (i := 3) (nth_s (nth_s (nth_s nth_one))) (ev_var rfl r_0)) (ea_cons ev_int (ea_one ev_int))))) hp ret0
abbrev sp_are_in_order (K : PySem.W.Frag) : Sp := SpF K (aOne (yList (yTup K (aCons tStr (aCons tInt (aCons tInt (aOne tInt))))))) tBool (fun a => m_are_in_order a)
theorem sc_are_in_order : FnScope ["stations", "one", "other", "station"] ["stations"] (defScope s11) := ⟨rfl, rfl, rfl, by decide +kernel, rfl, by decide +kernel, by decide +kernel⟩
theorem ok_are_in_order (g : GF K mg) : CalX P w K mg base 1 "are_in_order" (sp_are_in_order K) := by
  obtain ⟨fd, F⟩ := g.fn_are_in_order
  refine ⟨_, fd, _, F.ok (CX := L2.CX P w) (k := 0) (sp := sp_are_in_order K) sc_are_in_order spF_len (fun cdv A outer s H0 vs Q E hr h => ?_), g.g_are_in_order, F.kp, (F.bindsN fun _ _ _ _ _ _ us hl => match us, hl with | [_], _ => rfl)⟩
  obtain ⟨F0, stations, s0, ra, hp⟩ := h
  obtain ⟨v_0, rfl, r_0⟩ := ra
  have r_0 : (yList (yTup K (aCons tStr (aCons tInt (aCons tInt (aOne tInt)))))).rep F0 v_0 stations := r_0
  have fr0 : Fr F0 H0 F0 H0 := Fr.refl s0
  refine ⟨_, (pss_cons (ps_if (pt_cmpR op_lt (pe_lenSetK (K := K) rfl rfl g.f_len g.f_set (pe_lc (g := gName 3) (own := [("station", 3)]) rfl sc_are_in_order.nd (pi_listK (K := K) rfl (pv 0)) (blkOk_by (N := ["stations", "one", "other", "station"]) (sc := (defScope Br.s11)) (by decide +kernel)) (fun _ _ _ _ _ => (pg_name (i := 3) sc_are_in_order.nd rfl (by first | exact Or.inl rfl | exact Or.inr rfl))) (fun _ _ _ _ _ => pts_nil) (fun _ _ _ _ _ => (pe_ix (kx_tup (K := K) rfl) (pv 3) pe_int (fun _ _ => rfl))))) (pe_callB (kc_len (K := K) rfl) (by rfl) g.f_len bt_len (pa_cons (pv 0) pa_nil)) (nomark _)) (pss_one (ps_ret pe_bl)) pss_nil)
      (pss_one (ps_ret (pe_callB (kc_all (K := K) rfl rfl) (by rfl) g.f_all bt_all (pa_cons (pe_lc (g := gTup K 2 (gCons (gName 1) (gCons (gName 2) gNil))) (own := [("one", 1), ("other", 2)]) rfl sc_are_in_order.nd (pi_zipK (K := K) rfl g.f_zip (pa_cons (pv 0) (pa_cons (pe_slice (ks_list (K := K) rfl) (pv 0) (po_some pe_int) po_none) pa_nil))) (blkOk_by (N := ["stations", "one", "other", "station"]) (sc := (defScope Br.s11)) (by decide +kernel)) (fun _ _ _ _ _ => (pg_tupK (K := K) rfl rfl (pgs_cons (pg_name (i := 1) sc_are_in_order.nd rfl (by first | exact Or.inl rfl | exact Or.inr rfl)) (pgs_cons (pg_name (i := 2) sc_are_in_order.nd rfl (by first | exact Or.inl rfl | exact Or.inr rfl)) pgs_nil)))) (fun _ _ _ _ _ => pts_nil) (fun _ _ _ _ _ => (pe_cmpR op_le (pe_op op_add (pe_ix (kx_tup (K := K) rfl) (pv 1) pe_int (fun _ _ => rfl)) pe_int) (pe_ix (kx_tup (K := K) rfl) (pv 2) pe_int (fun _ _ => rfl)) (nomark _)))) pa_nil))))), ?_⟩
  obtain ⟨XX, KK, hX, ret0, hp⟩ : ∃ (XX : Exn → Prop) (KK : Bool → Prop), (∀ e, XX e → ∀ (_ : L2.St) F' H', Fr F0 H0 F' H' → XS K E e H') ∧ (∀ (a : Bool) v F9 H9, Fr F0 H0 F9 H9 → tBool.rep F9 v a → Post (.ok a : R Bool) KK XX → Q v H9) ∧ Post (m_are_in_order stations) KK XX := ⟨(fun e => ∀ F' H', Fr F0 H0 F' H' → XS K E e H'), (fun b => ∀ v F' H', Fr F0 H0 F' H' → tBool.rep F' v b → Q v H'), fun e h _ => h, fun a v F9 H9 f r k => k v F9 H9 f r, hp⟩
  unfold m_are_in_order at hp
  try (with_reducible refine st_go ?_)
  refine st_seq ?_
  refine s_if hX fr0 (et_test (ev_lt (ev_lenSet1 (ev_wk (ev_of_l (el_comp (c := (fun (station1 : (Str × Int × Int × Int)) => .ok true)) (e := (fun (station1 : (Str × Int × Int × Int)) => .ok station1.1)) (ei_list (ev_wk (ev_var rfl r_0))) tg_name (fun σ2 F2 x p => by obtain ⟨w, rfl, _⟩ := p; rfl) (fun σ2 F2 H2 station1 f p => by obtain ⟨w2, rfl, r3⟩ := p; have r_0 := (yList (yTup K (aCons tStr (aCons tInt (aCons tInt (aOne tInt)))))).mono f.f r_0; exact et_is et_yes rfl) (fun σ2 F2 H2 station1 f p => by obtain ⟨w2, rfl, r3⟩ := p; have r_0 := (yList (yTup K (aCons tStr (aCons tInt (aCons tInt (aOne tInt)))))).mono f.f r_0; exact ev_is (ev_nth (i := 0) nth_0 (ev_var rfl r3)) rfl) (fun σ2 F2 F3 x s p => by obtain ⟨w, e, r⟩ := p; exact ⟨w, e, (yTup K (aCons tStr (aCons tInt (aCons tInt (aOne tInt))))).mono s r⟩))))) (ev_lenL (ev_wk (ev_var rfl r_0))))) hp (fun F106 H106 _ f106 fr106 hp => ?_) (fun F106 H106 _ f106 fr106 hp => ?_)
  · have r_0 := (yList (yTup K (aCons tStr (aCons tInt (aCons tInt (aOne tInt)))))).mono f106.f r_0
    try (with_reducible refine st_go ?_)
    exact s_ret0 hX fr106 ev_bl hp ret0
  · have r_0 := (yList (yTup K (aCons tStr (aCons tInt (aCons tInt (aOne tInt)))))).mono f106.f r_0
    refine st_next ?_
    try (with_reducible refine st_go ?_)
    exact s_ret0 hX fr106 (ev_all (ev_wk (ev_of_l (el_comp (c := (fun (x107 : ((Str × Int × Int × Int) × (Str × Int × Int × Int))) => .ok true)) (e := (fun (x107 : ((Str × Int × Int × Int) × (Str × Int × Int × Int))) => .ok (decide (x107.1.2.2.1 + 2 ≤ x107.2.2.1)))) (ei_zip (ev_wk (ev_var rfl r_0)) (ev_wk (ev_of_l (el_slice (ev_wk (ev_var rfl r_0)) (eo_some ev_int) eo_none)))) (tg_tup rfl (tgs_cons fun _ => tgs_one)) (fun σ2 F2 x p => by obtain ⟨w108, r110, ⟨w109, rfl, r111⟩⟩ := p; rfl) (fun σ2 F2 H2 x107 f p => by obtain ⟨w108, r110, ⟨w109, rfl, r111⟩⟩ := p; have r_0 := (yList (yTup K (aCons tStr (aCons tInt (aCons tInt (aOne tInt)))))).mono f.f r_0; exact et_is et_yes rfl) (fun σ2 F2 H2 x107 f p => by obtain ⟨w108, r110, ⟨w109, rfl, r111⟩⟩ := p; have r_0 := (yList (yTup K (aCons tStr (aCons tInt (aCons tInt (aOne tInt)))))).mono f.f r_0; exact ev_is (ev_le (ev_add (ev_nth (i := 2) (nth_s (nth_s nth_0)) (ev_var rfl r110)) ev_int) (ev_nth (i := 1) (nth_s nth_0) (ev_var rfl r111))) rfl) (fun σ2 F2 F3 x s p => by obtain ⟨w108, r110, ⟨w109, rfl, r111⟩⟩ := p; exact ⟨w108, (yTup K (aCons tStr (aCons tInt (aCons tInt (aOne tInt))))).mono s r110, ⟨w109, rfl, (yTup K (aCons tStr (aCons tInt (aCons tInt (aOne tInt))))).mono s r111⟩⟩))))) hp ret0
abbrev sp_Line___init__ (K : PySem.W.Frag) : Sp := SpI K "Line" ["end", "limits", "stations"] (aCons tInt (aCons (yList (yTup K (aCons tInt (aCons tInt (aOne tInt))))) (aOne (yList (yTup K (aCons tStr (aCons tInt (aCons tInt (aOne tInt))))))))) (aCons tInt (aCons (yTupL K (yTup K (aCons tInt (aCons tInt (aOne tInt))))) (aOne (yTupL K (yTup K (aCons tStr (aCons tInt (aCons tInt (aOne tInt))))))))) (fun a => m_Line___init__ a.1 a.2.1 a.2.2)
theorem sc_Line___init__ : FnScope ["self", "end", "limits", "stations", "one"] ["self", "end", "limits", "stations"] (defScope s13) := ⟨rfl, rfl, rfl, by decide +kernel, rfl, by decide +kernel, by decide +kernel⟩
theorem ok_Line___init__ (g : GF K mg) : MakX P w K mg base 3 "Line" (sp_Line___init__ K) := by
  obtain ⟨fd, F⟩ := g.fn_Line___init__
  refine ⟨_, fd, _, g.k_Line, F.ok (CX := L2.CX P w) (k := 2) (sp := sp_Line___init__ K) sc_Line___init__ spI_len (fun cdv A outer s H0 vs Q E hr h => ?_), g.g_Line, (F.bindsN fun _ _ _ _ _ _ us hl => match us, hl with | [_, _, _, _], _ => rfl)⟩
  obtain ⟨F0, Hb, ⟨end_, limits, stations⟩, v_0, ws, rfl, fa, s0, o0, ra, hp⟩ := h
  obtain ⟨v_1, _, rfl, r_1, ⟨v_2, _, rfl, r_2, ⟨v_3, rfl, r_3⟩⟩⟩ := ra
  have r_1 : tInt.rep F0 v_1 end_ := r_1
  have r_2 : (yList (yTup K (aCons tInt (aCons tInt (aOne tInt))))).rep F0 v_2 limits := r_2
  have r_3 : (yList (yTup K (aCons tStr (aCons tInt (aCons tInt (aOne tInt)))))).rep F0 v_3 stations := r_3
  have fr0 : Fr F0 Hb F0 H0 := fa
  refine ⟨_, (pss_cons (ps_if (pt_not (pt_val (pe_cxK (K := K) rfl (ok_is_among g) hr (by decide) (E := E) (passes_call (takes_of rfl rfl rfl rfl) (fun _ _ _ _ h => h)) (pa_cons (pv 1) (pa_cons pe_int (pa_cons (pe_gi g.i_MOST_NUMBER) pa_nil)))))) (pss_one (ps_raise rfl (takes_of rfl rfl rfl rfl) (pmk_own PySem.F.excBase_ValueError g.e_BadLine.1 g.g_BadLine g.e_BadLine.2.1 (raises_own g.e_BadLine.2.2.1 g.e_BadLine.2.2.2) rfl))) pss_nil)
      (pss_cons (ps_if (PW.pt (pw_or (pt_not (pt_val (pe_cxK (K := K) rfl (ok_is_list_v0 g) hr (by decide) (E := E) (passes_call (takes_of rfl rfl rfl rfl) (fun _ _ _ _ h => h)) (pa_cons (pv 2) (pa_cons (pe_gi g.i_MOST_LIMITS) pa_nil))))) (pw_or1 (pt_not (pt_val (pe_callB (kc_all (K := K) rfl rfl) (by rfl) g.f_all bt_all (pa_cons (pe_lc (g := gName 4) (own := [("one", 4)]) rfl sc_Line___init__.nd (pi_listK (K := K) rfl (pv 2)) (blkOk_by (N := ["self", "end", "limits", "stations", "one"]) (sc := (defScope Br.s13)) (by decide +kernel)) (fun _ _ _ _ _ => (pg_name (i := 4) sc_Line___init__.nd rfl (by first | exact Or.inl rfl | exact Or.inr rfl))) (fun _ _ _ _ _ => pts_nil) (fun _ _ _ _ _ => (pe_cxK (K := K) rfl (ok_is_limit g) hr (by decide) (E := E0) passL (pa_cons (pv 4) (pa_cons (pv 1) pa_nil))))) pa_nil))))))) (pss_one (ps_raise rfl (takes_of rfl rfl rfl rfl) (pmk_own PySem.F.excBase_ValueError g.e_BadLine.1 g.g_BadLine g.e_BadLine.2.1 (raises_own g.e_BadLine.2.2.1 g.e_BadLine.2.2.2) rfl))) pss_nil)
      (pss_cons (ps_if (PW.pt (pw_or (pt_not (pt_val (pe_cxK (K := K) rfl (ok_is_list_v1 g) hr (by decide) (E := E) (passes_call (takes_of rfl rfl rfl rfl) (fun _ _ _ _ h => h)) (pa_cons (pv 3) (pa_cons (pe_gi g.i_MOST_STATIONS) pa_nil))))) (pw_or1 (pt_not (pt_val (pe_callB (kc_all (K := K) rfl rfl) (by rfl) g.f_all bt_all (pa_cons (pe_lc (g := gName 4) (own := [("one", 4)]) rfl sc_Line___init__.nd (pi_listK (K := K) rfl (pv 3)) (blkOk_by (N := ["self", "end", "limits", "stations", "one"]) (sc := (defScope Br.s13)) (by decide +kernel)) (fun _ _ _ _ _ => (pg_name (i := 4) sc_Line___init__.nd rfl (by first | exact Or.inl rfl | exact Or.inr rfl))) (fun _ _ _ _ _ => pts_nil) (fun _ _ _ _ _ => (pe_cxK (K := K) rfl (ok_is_station g) hr (by decide) (E := E0) passL (pa_cons (pv 4) (pa_cons (pv 1) pa_nil))))) pa_nil))))))) (pss_one (ps_raise rfl (takes_of rfl rfl rfl rfl) (pmk_own PySem.F.excBase_ValueError g.e_BadLine.1 g.g_BadLine g.e_BadLine.2.1 (raises_own g.e_BadLine.2.2.1 g.e_BadLine.2.2.2) rfl))) pss_nil)
      (pss_cons (ps_if (pt_not (pt_val (pe_cxK (K := K) rfl (ok_are_in_order g) hr (by decide) (E := E) (passes_call (takes_of rfl rfl rfl rfl) (fun _ _ _ _ h => h)) (pa_cons (pv 3) pa_nil)))) (pss_one (ps_raise rfl (takes_of rfl rfl rfl rfl) (pmk_own PySem.F.excBase_ValueError g.e_BadLine.1 g.g_BadLine g.e_BadLine.2.1 (raises_own g.e_BadLine.2.2.1 g.e_BadLine.2.2.2) rfl))) pss_nil)
      (pss_cons (ps_fld (pv 0) (pv 1) rfl)
      (pss_cons (ps_fld (pv 0) (pe_callTy (kc_tuple (K := K) rfl) (by rfl) g.f_tuple bt_tuple (pa_cons (pv 2) pa_nil)) rfl)
      (pss_one (ps_fld (pv 0) (pe_callTy (kc_tuple (K := K) rfl) (by rfl) g.f_tuple bt_tuple (pa_cons (pv 3) pa_nil)) rfl)))))))), ?_⟩
  obtain ⟨XX, KK, hX, ret0, hp⟩ : ∃ (XX : Exn → Prop) (KK : (Int × (List (Int × Int × Int)) × (List (Str × Int × Int × Int))) → Prop), (∀ e, XX e → ∀ (_ : L2.St) F' H', Fr F0 Hb F' H' → XS K E e H') ∧ (∀ us F9 H9 (b9 : (Int × (List (Int × Int × Int)) × (List (Str × Int × Int × Int)))), Fr F0 Hb F9 H9 → Mkg K "Line" Hb F9 H9 v_0 ["end", "limits", "stations"] us → (aCons tInt (aCons (yTupL K (yTup K (aCons tInt (aCons tInt (aOne tInt))))) (aOne (yTupL K (yTup K (aCons tStr (aCons tInt (aCons tInt (aOne tInt))))))))).rep F9 us b9 → Post (.ok b9 : R (Int × (List (Int × Int × Int)) × (List (Str × Int × Int × Int)))) KK XX → Q .non H9) ∧ Post (m_Line___init__ end_ limits stations) KK XX := ⟨(fun e => ∀ F' H', Fr F0 Hb F' H' → XS K E e H'), (fun b => ∀ us F' H', Fr F0 Hb F' H' → Mkg K "Line" Hb F' H' v_0 ["end", "limits", "stations"] us → (aCons tInt (aCons (yTupL K (yTup K (aCons tInt (aCons tInt (aOne tInt))))) (aOne (yTupL K (yTup K (aCons tStr (aCons tInt (aCons tInt (aOne tInt))))))))).rep F' us b → Q .non H'), fun e h _ => h, fun us F9 H9 b9 f o r k => k us F9 H9 f o r, hp⟩
  unfold m_Line___init__ at hp
  try (with_reducible refine st_go ?_)
  refine st_seq ?_
  refine s_if hX fr0 (et_not (et_val (ev_call (E := E) (fun _ _ z => z) (ea_cons (ev_vI rfl r_1) (ea_cons ev_int (ea_one ev_int)))))) hp (fun F2 H2 _ f2 fr2 hp => ?_) (fun F2 H2 _ f2 fr2 hp => ?_)
  · have o0 := o0.mono f2
    have r_2 := (yList (yTup K (aCons tInt (aCons tInt (aOne tInt))))).mono f2.f r_2
    have r_3 := (yList (yTup K (aCons tStr (aCons tInt (aCons tInt (aOne tInt)))))).mono f2.f r_3
    try (with_reducible refine st_go ?_)
    exact hX _ hp [] _ _ fr2
  · have o0 := o0.mono f2
    have r_2 := (yList (yTup K (aCons tInt (aCons tInt (aOne tInt))))).mono f2.f r_2
    have r_3 := (yList (yTup K (aCons tStr (aCons tInt (aCons tInt (aOne tInt)))))).mono f2.f r_3
    refine st_next ?_
    try (with_reducible refine st_go ?_)
    refine st_seq ?_
    refine s_if hX fr2 (et_or (et_not (et_val (ev_call (E := E) (fun _ _ z => z) (ea_cons (ev_var rfl r_2) (ea_one ev_int))))) (et_not (et_val (ev_all (ev_wk (ev_of_l (el_comp (c := (fun (one4 : (Int × Int × Int)) => .ok true)) (e := (fun (one4 : (Int × Int × Int)) => m_is_limit one4 end_)) (ei_list (ev_wk (ev_var rfl r_2))) tg_name (fun σ2 F2 x p => by obtain ⟨w, rfl, _⟩ := p; rfl) (fun σ2 F2 H2 one4 f p => by obtain ⟨w5, rfl, r6⟩ := p; have r_2 := (yList (yTup K (aCons tInt (aCons tInt (aOne tInt))))).mono f.f r_2; exact et_is et_yes rfl) (fun σ2 F2 H2 one4 f p => by obtain ⟨w5, rfl, r6⟩ := p; have r_2 := (yList (yTup K (aCons tInt (aCons tInt (aOne tInt))))).mono f.f r_2; exact ev_is (ev_call (E := E0) (fun _ _ z => z.elim) (ea_cons (ev_var rfl r6) (ea_one (ev_vI rfl r_1)))) rfl) (fun σ2 F2 F3 x s p => by obtain ⟨w, e, r⟩ := p; exact ⟨w, e, (yTup K (aCons tInt (aCons tInt (aOne tInt)))).mono s r⟩)))))))) hp (fun F110 H110 _ f110 fr110 hp => ?_) (fun F110 H110 _ f110 fr110 hp => ?_)
    · have o0 := o0.mono f110
      have r_2 := (yList (yTup K (aCons tInt (aCons tInt (aOne tInt))))).mono f110.f r_2
      have r_3 := (yList (yTup K (aCons tStr (aCons tInt (aCons tInt (aOne tInt)))))).mono f110.f r_3
      try (with_reducible refine st_go ?_)
      exact hX _ hp [] _ _ fr110
    · have o0 := o0.mono f110
      have r_2 := (yList (yTup K (aCons tInt (aCons tInt (aOne tInt))))).mono f110.f r_2
      have r_3 := (yList (yTup K (aCons tStr (aCons tInt (aCons tInt (aOne tInt)))))).mono f110.f r_3
      refine st_next ?_
      try (with_reducible refine st_go ?_)
      refine st_seq ?_
      refine s_if hX fr110 (et_or (et_not (et_val (ev_call (E := E) (fun _ _ z => z) (ea_cons (ev_var rfl r_3) (ea_one ev_int))))) (et_not (et_val (ev_all (ev_wk (ev_of_l (el_comp (c := (fun (one112 : (Str × Int × Int × Int)) => .ok true)) (e := (fun (one112 : (Str × Int × Int × Int)) => m_is_station one112 end_)) (ei_list (ev_wk (ev_var rfl r_3))) tg_name (fun σ2 F2 x p => by obtain ⟨w, rfl, _⟩ := p; rfl) (fun σ2 F2 H2 one112 f p => by obtain ⟨w113, rfl, r114⟩ := p; have r_3 := (yList (yTup K (aCons tStr (aCons tInt (aCons tInt (aOne tInt)))))).mono f.f r_3; exact et_is et_yes rfl) (fun σ2 F2 H2 one112 f p => by obtain ⟨w113, rfl, r114⟩ := p; have r_3 := (yList (yTup K (aCons tStr (aCons tInt (aCons tInt (aOne tInt)))))).mono f.f r_3; exact ev_is (ev_call (E := E0) (fun _ _ z => z.elim) (ea_cons (ev_var rfl r114) (ea_one (ev_vI rfl r_1)))) rfl) (fun σ2 F2 F3 x s p => by obtain ⟨w, e, r⟩ := p; exact ⟨w, e, (yTup K (aCons tStr (aCons tInt (aCons tInt (aOne tInt))))).mono s r⟩)))))))) hp (fun F218 H218 _ f218 fr218 hp => ?_) (fun F218 H218 _ f218 fr218 hp => ?_)
      · have o0 := o0.mono f218
        have r_2 := (yList (yTup K (aCons tInt (aCons tInt (aOne tInt))))).mono f218.f r_2
        have r_3 := (yList (yTup K (aCons tStr (aCons tInt (aCons tInt (aOne tInt)))))).mono f218.f r_3
        try (with_reducible refine st_go ?_)
        exact hX _ hp [] _ _ fr218
      · have o0 := o0.mono f218
        have r_2 := (yList (yTup K (aCons tInt (aCons tInt (aOne tInt))))).mono f218.f r_2
        have r_3 := (yList (yTup K (aCons tStr (aCons tInt (aCons tInt (aOne tInt)))))).mono f218.f r_3
        refine st_next ?_
        try (with_reducible refine st_go ?_)
        refine st_seq ?_
        refine s_if hX fr218 (et_not (et_val (ev_call (E := E) (fun _ _ z => z) (ea_one (ev_var rfl r_3))))) hp (fun F220 H220 _ f220 fr220 hp => ?_) (fun F220 H220 _ f220 fr220 hp => ?_)
        · have o0 := o0.mono f220
          have r_2 := (yList (yTup K (aCons tInt (aCons tInt (aOne tInt))))).mono f220.f r_2
          have r_3 := (yList (yTup K (aCons tStr (aCons tInt (aCons tInt (aOne tInt)))))).mono f220.f r_3
          try (with_reducible refine st_go ?_)
          exact hX _ hp [] _ _ fr220
        · have o0 := o0.mono f220
          have r_2 := (yList (yTup K (aCons tInt (aCons tInt (aOne tInt))))).mono f220.f r_2
          have r_3 := (yList (yTup K (aCons tStr (aCons tInt (aCons tInt (aOne tInt)))))).mono f220.f r_3
          refine st_next ?_
          try (with_reducible refine st_go ?_)
          refine st_seq ?_
          refine s_fldI hX fr220 rfl o0 g.c_Line g.n_Line_end (by decide +kernel) (by decide) (ev_vI rfl r_1) hp (fun x224 v222 F221 H221 sm226 fr221 r223 o225 hp => ?_)
          have r_2 := (yList (yTup K (aCons tInt (aCons tInt (aOne tInt))))).mono sm226 r_2
          have r_3 := (yList (yTup K (aCons tStr (aCons tInt (aCons tInt (aOne tInt)))))).mono sm226 r_3
          try (with_reducible refine st_go ?_)
          refine st_seq ?_
          refine s_fldI hX fr221 rfl o225 g.c_Line g.n_Line_limits (by decide +kernel) (by decide) (ev_tupleOf (ev_wk (ev_var rfl r_2))) hp (fun x230 v228 F227 H227 sm232 fr227 r229 o231 hp => ?_)
          have r_2 := (yList (yTup K (aCons tInt (aCons tInt (aOne tInt))))).mono sm232 r_2
          have r_3 := (yList (yTup K (aCons tStr (aCons tInt (aCons tInt (aOne tInt)))))).mono sm232 r_3
          try (with_reducible refine st_go ?_)
          refine s_fldI hX fr227 rfl o231 g.c_Line g.n_Line_stations (by decide +kernel) (by decide) (ev_tupleOf (ev_wk (ev_var rfl r_3))) hp (fun x236 v234 F233 H233 sm238 fr233 r235 o237 hp => ?_)
          have r_2 := (yList (yTup K (aCons tInt (aCons tInt (aOne tInt))))).mono sm238 r_2
          have r_3 := (yList (yTup K (aCons tStr (aCons tInt (aCons tInt (aOne tInt)))))).mono sm238 r_3
          have r229 := (yTupL K (yTup K (aCons tInt (aCons tInt (aOne tInt))))).mono sm238 r229
          exact ret0 _ _ _ (x224, x230, x236) fr233 o237 ⟨_, _, rfl, r223, ⟨_, _, rfl, r229, ⟨_, rfl, r235⟩⟩⟩ hp
abbrev sp_Kind___init__ (K : PySem.W.Frag) : Sp := SpI K "Kind" ["length", "pull", "brake", "top"] (aCons tInt (aCons tInt (aCons tInt (aOne tInt)))) (aCons tInt (aCons tInt (aCons tInt (aOne tInt)))) (fun a => m_Kind___init__ a.1 a.2.1 a.2.2.1 a.2.2.2)
theorem sc_Kind___init__ : FnScope ["self", "length", "pull", "brake", "top", "number"] ["self", "length", "pull", "brake", "top"] (defScope s3) := ⟨rfl, rfl, rfl, by decide +kernel, rfl, by decide +kernel, by decide +kernel⟩
theorem ok_Kind___init__ (g : GF K mg) : MakX P w K mg base 2 "Kind" (sp_Kind___init__ K) := by
  obtain ⟨fd, F⟩ := g.fn_Kind___init__
  refine ⟨_, fd, _, g.k_Kind, F.ok (CX := L2.CX P w) (k := 1) (sp := sp_Kind___init__ K) sc_Kind___init__ spI_len (fun cdv A outer s H0 vs Q E hr h => ?_), g.g_Kind, (F.bindsN fun _ _ _ _ _ _ us hl => match us, hl with | [_, _, _, _, _], _ => rfl)⟩
  obtain ⟨F0, Hb, ⟨length, pull, brake, top⟩, v_0, ws, rfl, fa, s0, o0, ra, hp⟩ := h
  obtain ⟨v_1, _, rfl, r_1, ⟨v_2, _, rfl, r_2, ⟨v_3, _, rfl, r_3, ⟨v_4, rfl, r_4⟩⟩⟩⟩ := ra
  have r_1 : tInt.rep F0 v_1 length := r_1
  have r_2 : tInt.rep F0 v_2 pull := r_2
  have r_3 : tInt.rep F0 v_3 brake := r_3
  have r_4 : tInt.rep F0 v_4 top := r_4
  have fr0 : Fr F0 Hb F0 H0 := fa
  refine ⟨_, (pss_cons (ps_if (pt_not (pt_val (pe_cxK (K := K) rfl (ok_is_among g) hr (by decide) (E := E) (passes_call (takes_of rfl rfl rfl rfl) (fun _ _ _ _ h => h)) (pa_cons (pv 1) (pa_cons pe_int (pa_cons (pe_gi g.i_MOST_LENGTH) pa_nil)))))) (pss_one (ps_raise rfl (takes_of rfl rfl rfl rfl) (pmk_own PySem.F.excBase_ValueError g.e_BadKind.1 g.g_BadKind g.e_BadKind.2.1 (raises_own g.e_BadKind.2.2.1 g.e_BadKind.2.2.2) rfl))) pss_nil)
      (pss_cons (ps_for (passes_of rfl) rfl (pi_tupK (K := K) rfl (pe_tup (pa_cons (pv 2) (pa_cons (pv 3) (pa_cons (pv 4) pa_nil))))) (pg_name (i := 5) sc_Kind___init__.nd rfl (by first | exact Or.inl rfl | exact Or.inr rfl)) (pss_one (ps_if (pt_not (pt_val (pe_cxK (K := K) rfl (ok_is_among g) hr (by decide) (E := E) (passes_call (takes_of rfl rfl rfl rfl) (fun _ _ _ _ h => h)) (pa_cons (pv 5) (pa_cons pe_int (pa_cons (pe_gi g.i_MOST_SPEED) pa_nil)))))) (pss_one (ps_raise rfl (takes_of rfl rfl rfl rfl) (pmk_own PySem.F.excBase_ValueError g.e_BadKind.1 g.g_BadKind g.e_BadKind.2.1 (raises_own g.e_BadKind.2.2.1 g.e_BadKind.2.2.2) rfl))) pss_nil)))
      (pss_cons (ps_fld (pv 0) (pv 1) rfl)
      (pss_cons (ps_fld (pv 0) (pv 2) rfl)
      (pss_cons (ps_fld (pv 0) (pv 3) rfl)
      (pss_one (ps_fld (pv 0) (pv 4) rfl))))))), ?_⟩
  obtain ⟨XX, KK, hX, ret0, hp⟩ : ∃ (XX : Exn → Prop) (KK : (Int × Int × Int × Int) → Prop), (∀ e, XX e → ∀ (_ : L2.St) F' H', Fr F0 Hb F' H' → XS K E e H') ∧ (∀ us F9 H9 (b9 : (Int × Int × Int × Int)), Fr F0 Hb F9 H9 → Mkg K "Kind" Hb F9 H9 v_0 ["length", "pull", "brake", "top"] us → (aCons tInt (aCons tInt (aCons tInt (aOne tInt)))).rep F9 us b9 → Post (.ok b9 : R (Int × Int × Int × Int)) KK XX → Q .non H9) ∧ Post (m_Kind___init__ length pull brake top) KK XX := ⟨(fun e => ∀ F' H', Fr F0 Hb F' H' → XS K E e H'), (fun b => ∀ us F' H', Fr F0 Hb F' H' → Mkg K "Kind" Hb F' H' v_0 ["length", "pull", "brake", "top"] us → (aCons tInt (aCons tInt (aCons tInt (aOne tInt)))).rep F' us b → Q .non H'), fun e h _ => h, fun us F9 H9 b9 f o r k => k us F9 H9 f o r, hp⟩
  unfold m_Kind___init__ at hp
  try (with_reducible refine st_go ?_)
  refine st_seq ?_
  refine s_if hX fr0 (et_not (et_val (ev_call (E := E) (fun _ _ z => z) (ea_cons (ev_vI rfl r_1) (ea_cons ev_int (ea_one ev_int)))))) hp (fun F2 H2 _ f2 fr2 hp => ?_) (fun F2 H2 _ f2 fr2 hp => ?_)
  · have o0 := o0.mono f2
    try (with_reducible refine st_go ?_)
    exact hX _ hp [] _ _ fr2
  · have o0 := o0.mono f2
    refine st_next ?_
    try (with_reducible refine st_go ?_)
    refine st_seq ?_
    refine s_for (W := (fun e (_ : L2.St) H => XS K E e H)) (f := (fun (s4 : Unit) (number7 : Int) => (bd (bd (m_is_among number7 1 1000) fun x8 => .ok (!x8)) fun c => if c = true then (
.err (.own "BadKind"))
else (
.ok (.nx ())) : R (Fl Unit Empty)))) (s0 := ()) (fun (s : Unit) (σ : L2.St) (F H : Hp) => ∃ (w5 : Option V), σ = [some v_0, some v_1, some v_2, some v_3, some v_4, w5] ∧ Fr F0 Hb F H ∧ Mkg K "Kind" Hb F H v_0 [] []) hX fr2 (ei_tupL (ev_tupL (by decide) (er_cons (ev_vI rfl r_2) (er_cons (ev_vI rfl r_3) (er_cons (ev_vI rfl r_4) er_nil))))) hp (fun F2 H2 f fr => ?h03) (fun s σ2 F2 H2 h => ?hf3) (fun s σ2 F2 H2 F3 H3 h f => ?hy3) (fun s4 number7 v5 σ2 FL3 HL3 DL KL hrt sm3 st3 rx3 hp hnx hct hbk hret => ?hb3) (fun s10 σ2 FM11 HM11 sm11 st11 hp => ?hd3)
    case h03 =>
      have o0 := o0.mono f
      exact ⟨none, rfl, fr, o0⟩
    case hf3 =>
      obtain ⟨w5a3, eL, frL, q0a3⟩ := h
      exact frL
    case hy3 =>
      obtain ⟨w5a3, eL, frL, q0a3⟩ := h
      exact ⟨w5a3, eL, frL.trans f, (q0a3.mono f)⟩
    case hb3 =>
      obtain ⟨w5a3, rfl, frL3, q0a3⟩ := st3
      refine st_gn ?_
      try (with_reducible refine st_go ?_)
      refine s_if hX frL3 (et_not (et_val (ev_call (E := E) (fun _ _ z => z) (ea_cons (ev_vI rfl rx3) (ea_cons ev_int (ea_one ev_int)))))) hp (fun F9 H9 _ f9 fr9 hp => ?_) (fun F9 H9 _ f9 fr9 hp => ?_)
      · have q0a3 := q0a3.mono f9
        try (with_reducible refine st_go ?_)
        exact hX _ hp [] _ _ fr9
      · have q0a3 := q0a3.mono f9
        refine st_next ?_
        exact hnx () _ F9 H9 f9.f ⟨(some v5), rfl, fr9, q0a3⟩ hp
    case hd3 =>
      obtain ⟨w5b11, rfl, frM11, q0b11⟩ := st11
      try (with_reducible refine st_go ?_)
      refine st_seq ?_
      refine s_fldI hX frM11 rfl q0b11 g.c_Kind g.n_Kind_length (by decide +kernel) (by decide) (ev_vI rfl r_1) hp (fun x15 v13 F12 H12 sm17 fr12 r14 o16 hp => ?_)
      try (with_reducible refine st_go ?_)
      refine st_seq ?_
      refine s_fldI hX fr12 rfl o16 g.c_Kind g.n_Kind_pull (by decide +kernel) (by decide) (ev_vI rfl r_2) hp (fun x21 v19 F18 H18 sm23 fr18 r20 o22 hp => ?_)
      try (with_reducible refine st_go ?_)
      refine st_seq ?_
      refine s_fldI hX fr18 rfl o22 g.c_Kind g.n_Kind_brake (by decide +kernel) (by decide) (ev_vI rfl r_3) hp (fun x27 v25 F24 H24 sm29 fr24 r26 o28 hp => ?_)
      try (with_reducible refine st_go ?_)
      refine s_fldI hX fr24 rfl o28 g.c_Kind g.n_Kind_top (by decide +kernel) (by decide) (ev_vI rfl r_4) hp (fun x33 v31 F30 H30 sm35 fr30 r32 o34 hp => ?_)
      exact ret0 _ _ _ (x15, x21, x27, x33) fr30 o34 ⟨_, _, rfl, r14, ⟨_, _, rfl, r20, ⟨_, _, rfl, r26, ⟨_, rfl, r32⟩⟩⟩⟩ hp
abbrev sp__law_passes (K : PySem.W.Frag) : Sp := SpF K (aCons (yList (yTup K (aCons tInt (aCons tInt (aOne tInt))))) (aCons tInt (aOne tInt))) tBool (fun a => m__law_passes a.1 a.2.1 a.2.2)
theorem sc__law_passes : FnScope ["_law_limits", "_law_front", "_law_speed", "_law_place", "_law_first", "_law_last", "_law_most"] ["_law_limits", "_law_front", "_law_speed"] (defScope s20) := ⟨rfl, rfl, rfl, by decide +kernel, rfl, by decide +kernel, by decide +kernel⟩
theorem ok__law_passes (g : GF K mg) : CalX P w K mg base 1 "_law_passes" (sp__law_passes K) := by
  obtain ⟨fd, F⟩ := g.fn__law_passes
  refine ⟨_, fd, _, F.ok (CX := L2.CX P w) (k := 0) (sp := sp__law_passes K) sc__law_passes spF_len (fun cdv A outer s H0 vs Q E hr h => ?_), g.g__law_passes, F.kp, (F.bindsN fun _ _ _ _ _ _ us hl => match us, hl with | [_, _, _], _ => rfl)⟩
  obtain ⟨F0, ⟨limits, front, speed⟩, s0, ra, hp⟩ := h
  obtain ⟨v_0, _, rfl, r_0, ⟨v_1, _, rfl, r_1, ⟨v_2, rfl, r_2⟩⟩⟩ := ra
  have r_0 : (yList (yTup K (aCons tInt (aCons tInt (aOne tInt))))).rep F0 v_0 limits := r_0
  have r_1 : tInt.rep F0 v_1 front := r_1
  have r_2 : tInt.rep F0 v_2 speed := r_2
  have fr0 : Fr F0 H0 F0 H0 := Fr.refl s0
  refine ⟨_, (pss_cons (ps_for (passes_of rfl) rfl (pi_range2 (by rfl) g.f_range (pa_cons (pe_op op_add (pv 1) pe_int) (pa_cons (pe_op op_add (pe_op op_add (pv 1) (pv 2)) pe_int) pa_nil))) (pg_name (i := 3) sc__law_passes.nd rfl (by first | exact Or.inl rfl | exact Or.inr rfl)) (pss_one (ps_for (passes_of rfl) rfl (pi_listK (K := K) rfl (pv 0)) (pg_tupK (K := K) rfl rfl (pgs_cons (pg_name (i := 4) sc__law_passes.nd rfl (by first | exact Or.inl rfl | exact Or.inr rfl)) (pgs_cons (pg_name (i := 5) sc__law_passes.nd rfl (by first | exact Or.inl rfl | exact Or.inr rfl)) (pgs_cons (pg_name (i := 6) sc__law_passes.nd rfl (by first | exact Or.inl rfl | exact Or.inr rfl)) pgs_nil)))) (pss_one (ps_if (PW.pt (pw_and (pt_chain op_le op_le (pv 4) (pv 3) (pv 5)) (pw_and1 (pt_cmpR op_gt (pv 2) (pv 6) (nomark _))))) (pss_one (ps_ret pe_bl)) pss_nil)))))
      (pss_one (ps_ret pe_bl))), ?_⟩
  obtain ⟨XX, KK, hX, ret0, hp⟩ : ∃ (XX : Exn → Prop) (KK : Bool → Prop), (∀ e, XX e → ∀ (_ : L2.St) F' H', Fr F0 H0 F' H' → XS K E e H') ∧ (∀ (a : Bool) v F9 H9, Fr F0 H0 F9 H9 → tBool.rep F9 v a → Post (.ok a : R Bool) KK XX → Q v H9) ∧ Post (m__law_passes limits front speed) KK XX := ⟨(fun e => ∀ F' H', Fr F0 H0 F' H' → XS K E e H'), (fun b => ∀ v F' H', Fr F0 H0 F' H' → tBool.rep F' v b → Q v H'), fun e h _ => h, fun a v F9 H9 f r k => k v F9 H9 f r, hp⟩
  unfold m__law_passes at hp
  try (with_reducible refine st_go ?_)
  refine st_seq ?_
  refine s_for (W := (fun e (_ : L2.St) H => XS K E e H)) (f := (fun (s2 : Unit) (placeq5 : Int) => (bd (.ok limits) fun xs =>
bd (forL (fun (s7 : Unit) (x14 : (Int × Int × Int)) => (bd (.ok ((decide (x14.1 ≤ placeq5) && decide (placeq5 ≤ x14.2.1)) && decide (speed > x14.2.2))) fun c => if c = true then (
.ok (.rt false))
else (
.ok (.nx ())) : R (Fl Unit Bool))) xs ()) (fun (fl : Fl Unit Bool) => match fl with
| .nx s16 => (.ok (.nx ()))
| .bk _ => .stuck
| .rt r => .ok (.rt r)) : R (Fl Unit Bool)))) (s0 := ()) (fun (s : Unit) (σ : L2.St) (F H : Hp) => ∃ (w3 : Option V), ∃ (w4 : Option V), ∃ (w5 : Option V), ∃ (w6 : Option V), σ = [some v_0, some v_1, some v_2, w3, w4, w5, w6] ∧ Fr F0 H0 F H) hX fr0 (ei_range2 (ev_add (ev_vI rfl r_1) ev_int) (ev_add (ev_add (ev_vI rfl r_1) (ev_vI rfl r_2)) ev_int)) hp (fun F2 H2 f fr => ?h01) (fun s σ2 F2 H2 h => ?hf1) (fun s σ2 F2 H2 F3 H3 h f => ?hy1) (fun s2 placeq5 v3 σ2 FL1 HL1 DL KL hrt sm1 st1 rx1 hp hnx hct hbk hret => ?hb1) (fun s18 σ2 FM19 HM19 sm19 st19 hp => ?hd1)
  case h01 =>
    exact ⟨none, none, none, none, rfl, fr⟩
  case hf1 =>
    obtain ⟨w3a1, w4a1, w5a1, w6a1, eL, frL⟩ := h
    exact frL
  case hy1 =>
    obtain ⟨w3a1, w4a1, w5a1, w6a1, eL, frL⟩ := h
    exact ⟨w3a1, w4a1, w5a1, w6a1, eL, frL.trans f⟩
  case hb1 =>
    obtain ⟨w3a1, w4a1, w5a1, w6a1, rfl, frL1⟩ := st1
    have r_0 := (yList (yTup K (aCons tInt (aCons tInt (aOne tInt))))).mono sm1 r_0
    refine st_gn ?_
    have ret6 : ∀ (a9 : Bool) v9 F9 H9, Fr F0 H0 F9 H9 → tBool.rep F9 v9 a9 → Post (.ok (.rt a9)) KL XX → DL.rt v9 H9 := fun a9 v9 F9 H9 f9 r9 k9 => by rw [hrt]; exact ret0 a9 v9 F9 H9 f9 r9 (hret a9 k9)
    try (with_reducible refine st_go ?_)
    refine s_for (W := (fun e (_ : L2.St) H => XS K E e H)) (f := (fun (s7 : Unit) (x14 : (Int × Int × Int)) => (bd (.ok ((decide (x14.1 ≤ placeq5) && decide (placeq5 ≤ x14.2.1)) && decide (speed > x14.2.2))) fun c => if c = true then (
.ok (.rt false))
else (
.ok (.nx ())) : R (Fl Unit Bool)))) (s0 := ()) (fun (s : Unit) (σ : L2.St) (F H : Hp) => ∃ (w4 : Option V), ∃ (w5 : Option V), ∃ (w6 : Option V), σ = [some v_0, some v_1, some v_2, some v3, w4, w5, w6] ∧ Fr F0 H0 F H) hX frL1 (ei_list (ev_wk (ev_var rfl r_0))) hp (fun F2 H2 f fr => ?h06) (fun s σ2 F2 H2 h => ?hf6) (fun s σ2 F2 H2 F3 H3 h f => ?hy6) (fun s7 x14 v6 σ2 FL6 HL6 DL KL hrt sm6 st6 rx6 hp hnx hct hbk hret => ?hb6) (fun s16 σ2 FM17 HM17 sm17 st17 hp => ?hd6)
    case h06 =>
      exact ⟨w4a1, w5a1, w6a1, rfl, fr⟩
    case hf6 =>
      obtain ⟨w4a6, w5a6, w6a6, eL, frL⟩ := h
      exact frL
    case hy6 =>
      obtain ⟨w4a6, w5a6, w6a6, eL, frL⟩ := h
      exact ⟨w4a6, w5a6, w6a6, eL, frL.trans f⟩
    case hb6 =>
      obtain ⟨w4a6, w5a6, w6a6, rfl, frL6⟩ := st6
      have r_0 := (yList (yTup K (aCons tInt (aCons tInt (aOne tInt))))).mono sm6 r_0
      refine (tg_tup rfl (tgs_cons fun _ => (tgs_cons fun _ => tgs_one))) _ _ _ _ _ frL6.s rx6 (fun σ3 p6 => ?_)
      obtain ⟨v8, r11, ⟨v9, r12, ⟨v10, rfl, r13⟩⟩⟩ := p6
      have r11 : tInt.rep FL6 v8 x14.1 := r11
      have r12 : tInt.rep FL6 v9 x14.2.1 := r12
      have r13 : tInt.rep FL6 v10 x14.2.2 := r13
      have ret15 : ∀ (a9 : Bool) v9 F9 H9, Fr F0 H0 F9 H9 → tBool.rep F9 v9 a9 → Post (.ok (.rt a9)) KL XX → DL.rt v9 H9 := fun a9 v9 F9 H9 f9 r9 k9 => by rw [hrt]; exact ret6 a9 v9 F9 H9 f9 r9 (hret a9 k9)
      try (with_reducible refine st_go ?_)
      refine s_if hX frL6 (et_andP (et_test (ev_chainP o_B0 o_B0 (ev_vI rfl r11) (ev_vI rfl rx1) (ev_vI rfl r12))) (et_test (ev_gt (ev_vI rfl r_2) (ev_vI rfl r13)))) hp (fun F15 H15 _ f15 fr15 hp => ?_) (fun F15 H15 _ f15 fr15 hp => ?_)
      · have r_0 := (yList (yTup K (aCons tInt (aCons tInt (aOne tInt))))).mono f15.f r_0
        try (with_reducible refine st_go ?_)
        exact s_ret (f := fun r => .ok (Fl.rt r)) hX fr15 ev_bl hp ret15
      · have r_0 := (yList (yTup K (aCons tInt (aCons tInt (aOne tInt))))).mono f15.f r_0
        refine st_next ?_
        exact hnx () _ F15 H15 f15.f ⟨(some v8), (some v9), (some v10), rfl, fr15⟩ hp
    case hd6 =>
      obtain ⟨w4b17, w5b17, w6b17, rfl, frM17⟩ := st17
      have r_0 := (yList (yTup K (aCons tInt (aCons tInt (aOne tInt))))).mono sm17 r_0
      exact hnx () _ FM17 HM17 sm17 ⟨(some v3), w4b17, w5b17, w6b17, rfl, frM17⟩ hp
  case hd1 =>
    obtain ⟨w3b19, w4b19, w5b19, w6b19, rfl, frM19⟩ := st19
    have r_0 := (yList (yTup K (aCons tInt (aCons tInt (aOne tInt))))).mono sm19 r_0
    try (with_reducible refine st_go ?_)
    exact s_ret0 hX frM19 ev_bl hp ret0
abbrev sp__law_steps (K : PySem.W.Frag) : Sp := SpL K (aCons (yTup K (aCons tInt (aCons tInt (aOne tInt)))) (aCons (yList (yTup K (aCons tInt (aCons tInt (aOne tInt))))) (aCons (yTup K (aCons tInt (aOne tInt))) (aOne tInt)))) (yTup K (aCons tInt (aOne tInt))) (fun a => m__law_steps a.1 a.2.1 a.2.2.1 a.2.2.2)
theorem sc__law_steps : FnScope ["_law_rules", "_law_limits", "_law_state", "_law_leave", "_law_pull", "_law_brake", "_law_top", "_law_front", "_law_speed", "_law_found", "_law_fresh"] ["_law_rules", "_law_limits", "_law_state", "_law_leave"] (defScope s21) := ⟨rfl, rfl, rfl, by decide +kernel, rfl, by decide +kernel, by decide +kernel⟩
theorem ok__law_steps (g : GF K mg) : CalX P w K mg base 2 "_law_steps" (sp__law_steps K) := by
  obtain ⟨fd, F⟩ := g.fn__law_steps
  refine ⟨_, fd, _, F.ok (CX := L2.CX P w) (k := 1) (sp := sp__law_steps K) sc__law_steps spL_len (fun cdv A outer s H0 vs Q E hr h => ?_), g.g__law_steps, F.kp, (F.bindsN fun _ _ _ _ _ _ us hl => match us, hl with | [_, _, _, _], _ => rfl)⟩
  obtain ⟨F0, ⟨rules, limits, state, leave⟩, s0, ra, hp⟩ := h
  obtain ⟨v_0, _, rfl, r_0, ⟨v_1, _, rfl, r_1, ⟨v_2, _, rfl, r_2, ⟨v_3, rfl, r_3⟩⟩⟩⟩ := ra
  have r_0 : (yTup K (aCons tInt (aCons tInt (aOne tInt)))).rep F0 v_0 rules := r_0
  have r_1 : (yList (yTup K (aCons tInt (aCons tInt (aOne tInt))))).rep F0 v_1 limits := r_1
  have r_2 : (yTup K (aCons tInt (aOne tInt))).rep F0 v_2 state := r_2
  have r_3 : tInt.rep F0 v_3 leave := r_3
  have fr0 : Fr F0 H0 F0 H0 := Fr.refl s0
  refine ⟨_, (pss_cons (ps_asg (pv 0) (pg_tupK (K := K) rfl rfl (pgs_cons (pg_name (i := 4) sc__law_steps.nd rfl (by first | exact Or.inl rfl | exact Or.inr rfl)) (pgs_cons (pg_name (i := 5) sc__law_steps.nd rfl (by first | exact Or.inl rfl | exact Or.inr rfl)) (pgs_cons (pg_name (i := 6) sc__law_steps.nd rfl (by first | exact Or.inl rfl | exact Or.inr rfl)) pgs_nil)))))
      (pss_cons (ps_asg (pv 2) (pg_tupK (K := K) rfl rfl (pgs_cons (pg_name (i := 7) sc__law_steps.nd rfl (by first | exact Or.inl rfl | exact Or.inr rfl)) (pgs_cons (pg_name (i := 8) sc__law_steps.nd rfl (by first | exact Or.inl rfl | exact Or.inr rfl)) pgs_nil))))
      (pss_cons (ps_set (i := 9) sc__law_steps.nd rfl (by first | exact Or.inl rfl | exact Or.inr rfl) (pe_lst pa_nil))
      (pss_cons (ps_for (passes_of rfl) rfl (pi_range2 (by rfl) g.f_range (pa_cons (pe_callB (call_max2 rfl) (by rfl) g.f_max bt_max (pa_cons pe_int (pa_cons (pe_op op_sub (pv 8) (pv 5)) pa_nil))) (pa_cons (pe_op op_add (pe_callB (call_min2 rfl) (by rfl) g.f_min bt_min (pa_cons (pv 6) (pa_cons (pe_op op_add (pv 8) (pv 4)) pa_nil))) pe_int) pa_nil))) (pg_name (i := 10) sc__law_steps.nd rfl (by first | exact Or.inl rfl | exact Or.inr rfl)) (pss_one (ps_if (PW.pt (pw_and (pt_cmpR op_le (pe_op op_add (pv 7) (pv 10)) (pv 3) (nomark _)) (pw_and1 (pt_val (pe_cxK (K := K) rfl (ok__law_passes g) hr (by decide) (E := E) (passes_call (takes_of rfl rfl rfl rfl) (fun _ _ _ _ h => h)) (pa_cons (pv 1) (pa_cons (pv 7) (pa_cons (pv 10) pa_nil)))))))) (pss_one (ps_expr (pe_bm PySem.F.plainAttrs_list PySem.F.slot_list_append PySem.F.type_list_append mt_append (pv 9) (pa_cons (pe_tup (pa_cons (pe_op op_add (pv 7) (pv 10)) (pa_cons (pv 10) pa_nil))) pa_nil)))) pss_nil)))
      (pss_one (ps_ret (pv 9))))))), ?_⟩
  obtain ⟨XX, KK, hX, ret0, hp⟩ : ∃ (XX : Exn → Prop) (KK : (List (Int × Int)) → Prop), (∀ e, XX e → ∀ (_ : L2.St) F' H', Fr F0 H0 F' H' → XS K E e H') ∧ (∀ (a : (List (Int × Int))) v F9 H9, Fr F0 H0 F9 H9 → Own (yTup K (aCons tInt (aOne tInt))) H0 F9 H9 v a → Post (.ok a : R (List (Int × Int))) KK XX → Q v H9) ∧ Post (m__law_steps rules limits state leave) KK XX := ⟨(fun e => ∀ F' H', Fr F0 H0 F' H' → XS K E e H'), (fun b => ∀ p ws F' H', Fr F0 H0 F' H' → H0 p = none → F' p = none → H' p = some (.lst ws) → Paired ((yTup K (aCons tInt (aOne tInt))).rep F') ws b → Q (.ref p) H'), fun e h _ => h, fun a v F9 H9 f o k => by obtain ⟨p, ws, ev, h0, hf, hh, r⟩ := o; subst ev; exact k p ws F9 H9 f h0 hf hh r, hp⟩
  unfold m__law_steps at hp
  try (with_reducible refine st_go ?_)
  refine st_seq ?_
  refine s_asgT hX fr0 (ev_var rfl r_0) (tg_tup rfl (tgs_cons fun _ => (tgs_cons fun _ => tgs_one))) hp (fun t11 σ2 F1 H1 _ f1 fr1 p12 hp => ?_)
  obtain ⟨v2, r5, ⟨v3, r6, ⟨v4, rfl, r7⟩⟩⟩ := p12
  have r5 : tInt.rep F1 v2 t11.1 := r5
  have r6 : tInt.rep F1 v3 t11.2.1 := r6
  have r7 : tInt.rep F1 v4 t11.2.2 := r7
  have r_0 := (yTup K (aCons tInt (aCons tInt (aOne tInt)))).mono f1.f r_0
  have r_1 := (yList (yTup K (aCons tInt (aCons tInt (aOne tInt))))).mono f1.f r_1
  have r_2 := (yTup K (aCons tInt (aOne tInt))).mono f1.f r_2
  try (with_reducible refine st_go ?_)
  refine st_seq ?_
  refine s_asgT hX fr1 (ev_var rfl r_2) (tg_tup rfl (tgs_cons fun _ => tgs_one)) hp (fun t20 σ2 F13 H13 _ f13 fr13 p21 hp => ?_)
  obtain ⟨v14, r16, ⟨v15, rfl, r17⟩⟩ := p21
  have r16 : tInt.rep F13 v14 t20.1 := r16
  have r17 : tInt.rep F13 v15 t20.2 := r17
  have r_0 := (yTup K (aCons tInt (aCons tInt (aOne tInt)))).mono f13.f r_0
  have r_1 := (yList (yTup K (aCons tInt (aCons tInt (aOne tInt))))).mono f13.f r_1
  have r_2 := (yTup K (aCons tInt (aOne tInt))).mono f13.f r_2
  try (with_reducible refine st_go ?_)
  refine st_seq ?_
  refine s_asgL hX fr13 (el_lst (ta := (yTup K (aCons tInt (aOne tInt)))) (by decide) er_nil) hp (fun found25 v23 F22 H22 _ f22 fr22 r24 nw26 hp => ?_)
  have r_0 := (yTup K (aCons tInt (aCons tInt (aOne tInt)))).mono f22.f r_0
  have r_1 := (yList (yTup K (aCons tInt (aCons tInt (aOne tInt))))).mono f22.f r_1
  have r_2 := (yTup K (aCons tInt (aOne tInt))).mono f22.f r_2
  try (with_reducible refine st_go ?_)
  refine st_seq ?_
  refine s_for (W := (fun e (_ : L2.St) H => XS K E e H)) (f := (fun (found28 : (List (Int × Int))) (fresh31 : Int) => (bd ((if (decide (t20.1 + fresh31 ≤ leave)) = true then m__law_passes limits t20.1 fresh31 else .ok false)) fun c => if c = true then (
bd (.ok (t20.1 + fresh31, fresh31)) fun y37 =>
bd (addR found28 y37) fun found38 =>
.ok (.nx found38))
else (
.ok (.nx found28)) : R (Fl (List (Int × Int)) (List (Int × Int)))))) (s0 := found25) (fun (s : (List (Int × Int))) (σ : L2.St) (F H : Hp) => ∃ (w9 : V), ∃ (w10 : Option V), σ = [some v_0, some v_1, some v_2, some v_3, some v2, some v3, some v4, some v14, some v15, some w9, w10] ∧ Fr F0 H0 F H ∧ Own (yTup K (aCons tInt (aOne tInt))) H0 F H w9 s) hX fr22 (ei_range2 (ev_max2 ev_int (ev_sub (ev_vI rfl r17) (ev_vI rfl r6))) (ev_add (ev_min2 (ev_vI rfl r7) (ev_add (ev_vI rfl r17) (ev_vI rfl r5))) ev_int)) hp (fun F2 H2 f fr => ?h027) (fun s σ2 F2 H2 h => ?hf27) (fun s σ2 F2 H2 F3 H3 h f => ?hy27) (fun found28 fresh31 v29 σ2 FL27 HL27 DL KL hrt sm27 st27 rx27 hp hnx hct hbk hret => ?hb27) (fun found39 σ2 FM40 HM40 sm40 st40 hp => ?hd27)
  case h027 =>
    have r24 := r24.mono f
    exact ⟨v23, none, rfl, fr, r24⟩
  case hf27 =>
    obtain ⟨w9a27, w10a27, eL, frL, q0a27⟩ := h
    exact frL
  case hy27 =>
    obtain ⟨w9a27, w10a27, eL, frL, q0a27⟩ := h
    exact ⟨w9a27, w10a27, eL, frL.trans f, (q0a27.mono f)⟩
  case hb27 =>
    obtain ⟨w9a27, w10a27, rfl, frL27, q0a27⟩ := st27
    have r_0 := (yTup K (aCons tInt (aCons tInt (aOne tInt)))).mono sm27 r_0
    have r_1 := (yList (yTup K (aCons tInt (aCons tInt (aOne tInt))))).mono sm27 r_1
    have r_2 := (yTup K (aCons tInt (aOne tInt))).mono sm27 r_2
    refine st_gn ?_
    have ret32 : ∀ (a9 : (List (Int × Int))) v9 F9 H9, Fr F0 H0 F9 H9 → Own (yTup K (aCons tInt (aOne tInt))) H0 F9 H9 v9 a9 → Post (.ok (.rt a9)) KL XX → DL.rt v9 H9 := fun a9 v9 F9 H9 f9 r9 k9 => by rw [hrt]; exact ret0 a9 v9 F9 H9 f9 r9 (hret a9 k9)
    try (with_reducible refine st_go ?_)
    refine s_if hX frL27 (et_and (et_test (ev_le (ev_add (ev_vI rfl r16) (ev_vI rfl rx27)) (ev_vI rfl r_3))) (et_val (ev_call (E := E) (fun _ _ z => z) (ea_cons (ev_var rfl r_1) (ea_cons (ev_vI rfl r16) (ea_one (ev_vI rfl rx27))))))) hp (fun F32 H32 _ f32 fr32 hp => ?_) (fun F32 H32 _ f32 fr32 hp => ?_)
    · have r_0 := (yTup K (aCons tInt (aCons tInt (aOne tInt)))).mono f32.f r_0
      have r_1 := (yList (yTup K (aCons tInt (aCons tInt (aOne tInt))))).mono f32.f r_1
      have r_2 := (yTup K (aCons tInt (aOne tInt))).mono f32.f r_2
      have q0a27 := q0a27.mono f32
      try (with_reducible refine st_go ?_)
      refine s_app hX fr32 rfl q0a27 (ev_tup (K := K) (Nat.le_of_ble_eq_true rfl) (ea_cons (ev_add (ev_vI rfl r16) (ev_vI rfl rx27)) (ea_one (ev_vI rfl rx27)))) hp (fun found38 F33 H33 sm35 fr33 r34 kp36 hp => ?_)
      have r_0 := (yTup K (aCons tInt (aCons tInt (aOne tInt)))).mono sm35 r_0
      have r_1 := (yList (yTup K (aCons tInt (aCons tInt (aOne tInt))))).mono sm35 r_1
      have r_2 := (yTup K (aCons tInt (aOne tInt))).mono sm35 r_2
      exact hnx found38 _ F33 H33 (f32.f.trans sm35) ⟨w9a27, (some v29), rfl, fr33, r34⟩ hp
    · have r_0 := (yTup K (aCons tInt (aCons tInt (aOne tInt)))).mono f32.f r_0
      have r_1 := (yList (yTup K (aCons tInt (aCons tInt (aOne tInt))))).mono f32.f r_1
      have r_2 := (yTup K (aCons tInt (aOne tInt))).mono f32.f r_2
      have q0a27 := q0a27.mono f32
      refine st_next ?_
      exact hnx found28 _ F32 H32 f32.f ⟨w9a27, (some v29), rfl, fr32, q0a27⟩ hp
  case hd27 =>
    obtain ⟨w9b40, w10b40, rfl, frM40, q0b40⟩ := st40
    have r_0 := (yTup K (aCons tInt (aCons tInt (aOne tInt)))).mono sm40 r_0
    have r_1 := (yList (yTup K (aCons tInt (aCons tInt (aOne tInt))))).mono sm40 r_1
    have r_2 := (yTup K (aCons tInt (aOne tInt))).mono sm40 r_2
    try (with_reducible refine st_go ?_)
    exact s_retO rfl (ret0 _ _ _ _ frM40 q0b40 hp)
abbrev sp__law_stands (K : PySem.W.Frag) : Sp := SpF K (aCons (yTup K (aCons tInt (aCons tInt (aOne tInt)))) (aCons (yList (yTup K (aCons tInt (aCons tInt (aOne tInt))))) (aCons (yTup K (aCons tInt (aOne tInt))) (aOne tInt)))) tBool (fun a => m__law_stands a.1 a.2.1 a.2.2.1 a.2.2.2)
theorem sc__law_stands : FnScope ["_law_rules", "_law_limits", "_law_state", "_law_leave", "_law_known", "_law_waiting", "_law_here", "_law_one"] ["_law_rules", "_law_limits", "_law_state", "_law_leave"] (defScope s22) := ⟨rfl, rfl, rfl, by decide +kernel, rfl, by decide +kernel, by decide +kernel⟩
theorem ok__law_stands (g : GF K mg) : CalX P w K mg base 3 "_law_stands" (sp__law_stands K) := by
  obtain ⟨fd, F⟩ := g.fn__law_stands
  refine ⟨_, fd, _, F.ok (CX := L2.CX P w) (k := 2) (sp := sp__law_stands K) sc__law_stands spF_len (fun cdv A outer s H0 vs Q E hr h => ?_), g.g__law_stands, F.kp, (F.bindsN fun _ _ _ _ _ _ us hl => match us, hl with | [_, _, _, _], _ => rfl)⟩
  obtain ⟨F0, ⟨rules, limits, state, leave⟩, s0, ra, hp⟩ := h
  obtain ⟨v_0, _, rfl, r_0, ⟨v_1, _, rfl, r_1, ⟨v_2, _, rfl, r_2, ⟨v_3, rfl, r_3⟩⟩⟩⟩ := ra
  have r_0 : (yTup K (aCons tInt (aCons tInt (aOne tInt)))).rep F0 v_0 rules := r_0
  have r_1 : (yList (yTup K (aCons tInt (aCons tInt (aOne tInt))))).rep F0 v_1 limits := r_1
  have r_2 : (yTup K (aCons tInt (aOne tInt))).rep F0 v_2 state := r_2
  have r_3 : tInt.rep F0 v_3 leave := r_3
  have fr0 : Fr F0 H0 F0 H0 := Fr.refl s0
  refine ⟨_, (pss_cons (ps_set (i := 4) sc__law_stands.nd rfl (by first | exact Or.inl rfl | exact Or.inr rfl) (pe_dispT1 (Nat.lt_of_le_of_lt (Nat.add_le_add_left (by decide : 1 ≤ 64) _) hr.units) (pv 2) pe_bl))
      (pss_cons (ps_set (i := 5) sc__law_stands.nd rfl (by first | exact Or.inl rfl | exact Or.inr rfl) (pe_lst (pa_cons (pv 2) pa_nil)))
      (pss_cons (ps_while (passes_of rfl) (pt_cmpR (ko_neD (K := K) rfl hr.units) (pv 5) (pe_lst pa_nil) (nomark _)) (pss_cons (ps_set (i := 6) sc__law_stands.nd rfl (by first | exact Or.inl rfl | exact Or.inr rfl) (pe_bm0 PySem.F.plainAttrs_list PySem.F.slot_list_pop PySem.F.type_list_pop mt_pop (pv 5)))
      (pss_cons (ps_if (PW.pt (pw_and (pt_cmpR op_eq (pe_ix (kx_tup (K := K) rfl) (pv 6) pe_int (fun _ _ => rfl)) pe_int (nomark _)) (pw_and1 (pt_cmpR op_le (pe_ix (kx_tup (K := K) rfl) (pv 6) pe_int (fun _ _ => rfl)) (pv 3) (nomark _))))) (pss_one (ps_ret pe_bl)) pss_nil)
      (pss_one (ps_for (passes_of rfl) rfl (pi_listK (K := K) rfl (pe_cxK (K := K) rfl (ok__law_steps g) hr (by decide) (E := E) (passes_call (takes_of rfl rfl rfl rfl) (fun _ _ _ _ h => h)) (pa_cons (pv 0) (pa_cons (pv 1) (pa_cons (pv 6) (pa_cons (pv 3) pa_nil)))))) (pg_name (i := 7) sc__law_stands.nd rfl (by first | exact Or.inl rfl | exact Or.inr rfl)) (pss_one (ps_if (pt_cmp (pc_dnotin (Nat.lt_of_le_of_lt (Nat.add_le_add_left (by decide : 1 ≤ 64) _) hr.units) (pv 7) (pv 4)) rfl) (pss_cons (ps_dput (Nat.lt_of_le_of_lt (Nat.add_le_add_left (by decide : 1 ≤ 64) _) hr.units) (pv 4) (pv 7) pe_bl rfl)
      (pss_one (ps_expr (pe_bm PySem.F.plainAttrs_list PySem.F.slot_list_append PySem.F.type_list_append mt_append (pv 5) (pa_cons (pv 7) pa_nil))))) pss_nil)))))))
      (pss_one (ps_ret pe_bl))))), ?_⟩
  obtain ⟨XX, KK, hX, ret0, hp⟩ : ∃ (XX : Exn → Prop) (KK : Bool → Prop), (∀ e, XX e → ∀ (_ : L2.St) F' H', Fr F0 H0 F' H' → XS K E e H') ∧ (∀ (a : Bool) v F9 H9, Fr F0 H0 F9 H9 → tBool.rep F9 v a → Post (.ok a : R Bool) KK XX → Q v H9) ∧ Post (m__law_stands rules limits state leave) KK XX := ⟨(fun e => ∀ F' H', Fr F0 H0 F' H' → XS K E e H'), (fun b => ∀ v F' H', Fr F0 H0 F' H' → tBool.rep F' v b → Q v H'), fun e h _ => h, fun a v F9 H9 f r k => k v F9 H9 f r, hp⟩
  unfold m__law_stands at hp
  try (with_reducible refine st_go ?_)
  refine st_seq ?_
  refine s_dispT (kt := (kII K)) hX fr0 (ev_var rfl r_2) ev_bl hp (fun known5 v2 F1 H1 f1 fr1 r3 nw4 hp => ?_)
  have r_0 := (yTup K (aCons tInt (aCons tInt (aOne tInt)))).mono f1.f r_0
  have r_1 := (yList (yTup K (aCons tInt (aCons tInt (aOne tInt))))).mono f1.f r_1
  have r_2 := (yTup K (aCons tInt (aOne tInt))).mono f1.f r_2
  try (with_reducible refine st_go ?_)
  refine st_seq ?_
  refine s_asgL hX fr1 (el_lst (by decide) (er_cons (ev_var rfl r_2) er_nil)) hp (fun waiting11 v9 F8 H8 _ f8 fr8 r10 nw12 hp => ?_)
  have ne13 := r3.ne nw12
  have r_0 := (yTup K (aCons tInt (aCons tInt (aOne tInt)))).mono f8.f r_0
  have r_1 := (yList (yTup K (aCons tInt (aCons tInt (aOne tInt))))).mono f8.f r_1
  have r_2 := (yTup K (aCons tInt (aOne tInt))).mono f8.f r_2
  have r3 := r3.mono f8
  try (with_reducible refine st_go ?_)
  refine st_seq ?_
  refine s_while (W := (fun e (_ : L2.St) H => XS K E e H)) (c := (fun (s15 : (List (Int × Int)) × (List ((Int × Int) × Bool))) => (neDR ((fun (xs : (List (Int × Int))) => PyData.list (xs.map (fun (a : (Int × Int)) => PyData.tuple (PyData.int a.1 :: [PyData.int a.2])))) s15.1) ((fun (xs : (List (Int × Int))) => PyData.list (xs.map (fun (a : (Int × Int)) => PyData.tuple (PyData.int a.1 :: [PyData.int a.2])))) []) : R Bool))) (f := (fun (s15 : (List (Int × Int)) × (List ((Int × Int) × Bool))) => (bd (popR s15.1) fun t21 =>
bd (.ok (decide (t21.1.2 = 0) && decide (t21.1.1 ≤ leave))) fun c => if c = true then (
.ok (.rt true))
else (
bd (m__law_steps rules limits t21.1 leave) fun xs =>
bd (forL (fun (s25 : (List ((Int × Int) × Bool)) × (List (Int × Int))) (one28 : (Int × Int)) => (bd (.ok (!(getA s25.1 one28).isSome)) fun c => if c = true then (
bd (.ok true) fun z36 =>
bd (.ok one28) fun y35 =>
bd (putAR s25.1 y35 z36) fun known37 =>
bd (.ok one28) fun y42 =>
bd (addR s25.2 y42) fun waiting43 =>
.ok (.nx (known37, waiting43)))
else (
.ok (.nx (s25.1, s25.2))) : R (Fl ((List ((Int × Int) × Bool)) × (List (Int × Int))) Bool))) xs (s15.2, t21.2)) (fun (fl : Fl ((List ((Int × Int) × Bool)) × (List (Int × Int))) Bool) => match fl with
| .nx s44 => (.ok (.nx (s44.2, s44.1)))
| .bk _ => .stuck
| .rt r => .ok (.rt r))) : R (Fl ((List (Int × Int)) × (List ((Int × Int) × Bool))) Bool)))) (n0 := 1000) (s0 := (waiting11, known5)) (fun (s : (List (Int × Int)) × (List ((Int × Int) × Bool))) (σ : L2.St) (F H : Hp) => ∃ (w4 : V), ∃ (w5 : V), ∃ (w6 : Option V), ∃ (w7 : Option V), σ = [some v_0, some v_1, some v_2, some v_3, some w4, some w5, w6, w7] ∧ Fr F0 H0 F H ∧ Own (yTup K (aCons tInt (aOne tInt))) H0 F H w5 s.1 ∧ OwnD (kII K) tBool H0 F H w4 s.2 ∧ w4 ≠ w5) hX fr8 hp ⟨v2, v9, none, none, rfl, fr8, r10, r3, (ne13)⟩ (fun s σ2 F2 H2 h => ?hf14) (fun s σ2 F2 H2 F3 H3 h f => ?hy14) (fun s15 σ2 FL14 HL14 sm14 st14 => ?hc14) (fun s15 σ2 FL14 HL14 DL KL hrt sm14 st14 hp hnx hct hbk hret => ?hb14) (fun s46 σ2 FM47 HM47 sm47 st47 hp => ?hd14)
  case hf14 =>
    obtain ⟨w4a14, w5a14, w6a14, w7a14, eL, frL, q0a14, q1a14, q2a14⟩ := h
    exact frL
  case hy14 =>
    obtain ⟨w4a14, w5a14, w6a14, w7a14, eL, frL, q0a14, q1a14, q2a14⟩ := h
    exact ⟨w4a14, w5a14, w6a14, w7a14, eL, frL.trans f, (q0a14.mono f), (q1a14.mono f), (q2a14)⟩
  case hc14 =>
    obtain ⟨w4a14, w5a14, w6a14, w7a14, rfl, frL14, q0a14, q1a14, q2a14⟩ := st14
    have r_0 := (yTup K (aCons tInt (aCons tInt (aOne tInt)))).mono sm14 r_0
    have r_1 := (yList (yTup K (aCons tInt (aCons tInt (aOne tInt))))).mono sm14 r_1
    have r_2 := (yTup K (aCons tInt (aOne tInt))).mono sm14 r_2
    exact et_is (et_lend q0a14 frL14.s (fun FQ16 sQ16 rQ16 hQ16 => (et_test (ev_neD (d_lst (d_tup (da_cons d_int (da_one d_int)))) (d_lst (d_tup (da_cons d_int (da_one d_int)))) (by decide) (by decide) (ev_var rfl rQ16) (ev_of_l (el_lst (ta := (yTup K (aCons tInt (aOne tInt)))) (by decide) er_nil)))))) rfl
  case hb14 =>
    obtain ⟨w4a14, w5a14, w6a14, w7a14, rfl, frL14, q0a14, q1a14, q2a14⟩ := st14
    have r_0 := (yTup K (aCons tInt (aCons tInt (aOne tInt)))).mono sm14 r_0
    have r_1 := (yList (yTup K (aCons tInt (aCons tInt (aOne tInt))))).mono sm14 r_1
    have r_2 := (yTup K (aCons tInt (aOne tInt))).mono sm14 r_2
    have ret17 : ∀ (a9 : Bool) v9 F9 H9, Fr F0 H0 F9 H9 → tBool.rep F9 v9 a9 → Post (.ok (.rt a9)) KL XX → DL.rt v9 H9 := fun a9 v9 F9 H9 f9 r9 k9 => by rw [hrt]; exact ret0 a9 v9 F9 H9 f9 r9 (hret a9 k9)
    try (with_reducible refine st_go ?_)
    refine st_seq ?_
    refine s_pop frL14 rfl q0a14 hp (fun t21 v22 H17 fr17 o19 r18 kp20 hp => ?_)
    have q1a14 := q1a14.kept kp20 (q2a14)
    try (with_reducible refine st_go ?_)
    refine st_seq ?_
    refine s_if hX fr17 (et_andP (et_test (ev_eqI (ev_nth (i := 1) (nth_s nth_one) (ev_var rfl r18)) ev_int)) (et_test (ev_le (ev_nth (i := 0) nth_0 (ev_var rfl r18)) (ev_vI rfl r_3)))) hp (fun F23 H23 _ f23 fr23 hp => ?_) (fun F23 H23 _ f23 fr23 hp => ?_)
    · have r_0 := (yTup K (aCons tInt (aCons tInt (aOne tInt)))).mono f23.f r_0
      have r_1 := (yList (yTup K (aCons tInt (aCons tInt (aOne tInt))))).mono f23.f r_1
      have r_2 := (yTup K (aCons tInt (aOne tInt))).mono f23.f r_2
      have q1a14 := q1a14.mono f23
      have o19 := o19.mono f23
      have r18 := (yTup K (aCons tInt (aOne tInt))).mono f23.f r18
      try (with_reducible refine st_go ?_)
      exact s_ret (f := fun r => .ok (Fl.rt r)) hX fr23 ev_bl hp ret17
    · have r_0 := (yTup K (aCons tInt (aCons tInt (aOne tInt)))).mono f23.f r_0
      have r_1 := (yList (yTup K (aCons tInt (aCons tInt (aOne tInt))))).mono f23.f r_1
      have r_2 := (yTup K (aCons tInt (aOne tInt))).mono f23.f r_2
      have q1a14 := q1a14.mono f23
      have o19 := o19.mono f23
      have r18 := (yTup K (aCons tInt (aOne tInt))).mono f23.f r18
      refine st_next ?_
      try (with_reducible refine st_go ?_)
      refine s_for (W := (fun e (_ : L2.St) H => XS K E e H)) (f := (fun (s25 : (List ((Int × Int) × Bool)) × (List (Int × Int))) (one28 : (Int × Int)) => (bd (.ok (!(getA s25.1 one28).isSome)) fun c => if c = true then (
bd (.ok true) fun z36 =>
bd (.ok one28) fun y35 =>
bd (putAR s25.1 y35 z36) fun known37 =>
bd (.ok one28) fun y42 =>
bd (addR s25.2 y42) fun waiting43 =>
.ok (.nx (known37, waiting43)))
else (
.ok (.nx (s25.1, s25.2))) : R (Fl ((List ((Int × Int) × Bool)) × (List (Int × Int))) Bool)))) (s0 := (s15.2, t21.2)) (fun (s : (List ((Int × Int) × Bool)) × (List (Int × Int))) (σ : L2.St) (F H : Hp) => ∃ (w4 : V), ∃ (w5 : V), ∃ (w7 : Option V), σ = [some v_0, some v_1, some v_2, some v_3, some w4, some w5, some v22, w7] ∧ Fr F0 H0 F H ∧ OwnD (kII K) tBool H0 F H w4 s.1 ∧ Own (yTup K (aCons tInt (aOne tInt))) H0 F H w5 s.2 ∧ w5 ≠ w4) hX fr23 (ei_list (ev_wk (ev_of_l (el_call (E := E) (fun _ _ z => z) (ea_cons (ev_var rfl r_0) (ea_cons (ev_var rfl r_1) (ea_cons (ev_var rfl r18) (ea_one (ev_vI rfl r_3))))))))) hp (fun F2 H2 f fr => ?h024) (fun s σ2 F2 H2 h => ?hf24) (fun s σ2 F2 H2 F3 H3 h f => ?hy24) (fun s25 one28 v26 σ2 FL24 HL24 DL KL hrt sm24 st24 rx24 hp hnx hct hbk hret => ?hb24) (fun s44 σ2 FM45 HM45 sm45 st45 hp => ?hd24)
      case h024 =>
        have q1a14 := q1a14.mono f
        have o19 := o19.mono f
        exact ⟨w4a14, w5a14, w7a14, rfl, fr, q1a14, o19, (Ne.symm q2a14)⟩
      case hf24 =>
        obtain ⟨w4a24, w5a24, w7a24, eL, frL, q0a24, q1a24, q2a24⟩ := h
        exact frL
      case hy24 =>
        obtain ⟨w4a24, w5a24, w7a24, eL, frL, q0a24, q1a24, q2a24⟩ := h
        exact ⟨w4a24, w5a24, w7a24, eL, frL.trans f, (q0a24.mono f), (q1a24.mono f), (q2a24)⟩
      case hb24 =>
        obtain ⟨w4a24, w5a24, w7a24, rfl, frL24, q0a24, q1a24, q2a24⟩ := st24
        have r_0 := (yTup K (aCons tInt (aCons tInt (aOne tInt)))).mono sm24 r_0
        have r_1 := (yList (yTup K (aCons tInt (aCons tInt (aOne tInt))))).mono sm24 r_1
        have r_2 := (yTup K (aCons tInt (aOne tInt))).mono sm24 r_2
        have r18 := (yTup K (aCons tInt (aOne tInt))).mono sm24 r18
        refine st_gn ?_
        have ret29 : ∀ (a9 : Bool) v9 F9 H9, Fr F0 H0 F9 H9 → tBool.rep F9 v9 a9 → Post (.ok (.rt a9)) KL XX → DL.rt v9 H9 := fun a9 v9 F9 H9 f9 r9 k9 => by rw [hrt]; exact ret17 a9 v9 F9 H9 f9 r9 (hret a9 k9)
        try (with_reducible refine st_go ?_)
        refine s_if hX frL24 (et_lendD q0a24 frL24.s (fun FQ29 sQ29 rQ29 hQ29 => (et_val (ev_dnotin (ev_var rfl ((yTup K (aCons tInt (aOne tInt))).mono sQ29 rx24)) (ev_var rfl rQ29))))) hp (fun F30 H30 _ f30 fr30 hp => ?_) (fun F30 H30 _ f30 fr30 hp => ?_)
        · have r_0 := (yTup K (aCons tInt (aCons tInt (aOne tInt)))).mono f30.f r_0
          have r_1 := (yList (yTup K (aCons tInt (aCons tInt (aOne tInt))))).mono f30.f r_1
          have r_2 := (yTup K (aCons tInt (aOne tInt))).mono f30.f r_2
          have q0a24 := q0a24.mono f30
          have q1a24 := q1a24.mono f30
          have r18 := (yTup K (aCons tInt (aOne tInt))).mono f30.f r18
          have rx24 := (yTup K (aCons tInt (aOne tInt))).mono f30.f rx24
          try (with_reducible refine st_go ?_)
          refine st_seq ?_
          refine s_dput hX fr30 rfl q0a24 ev_bl (ev_var rfl rx24) hp (fun known37 F31 H31 sm33 fr31 r32 kp34 hp => ?_)
          have r_0 := (yTup K (aCons tInt (aCons tInt (aOne tInt)))).mono sm33 r_0
          have r_1 := (yList (yTup K (aCons tInt (aCons tInt (aOne tInt))))).mono sm33 r_1
          have r_2 := (yTup K (aCons tInt (aOne tInt))).mono sm33 r_2
          have r18 := (yTup K (aCons tInt (aOne tInt))).mono sm33 r18
          have rx24 := (yTup K (aCons tInt (aOne tInt))).mono sm33 rx24
          have q1a24 := q1a24.kept kp34 (q2a24)
          try (with_reducible refine st_go ?_)
          refine s_app hX fr31 rfl q1a24 (ev_var rfl rx24) hp (fun waiting43 F38 H38 sm40 fr38 r39 kp41 hp => ?_)
          have r_0 := (yTup K (aCons tInt (aCons tInt (aOne tInt)))).mono sm40 r_0
          have r_1 := (yList (yTup K (aCons tInt (aCons tInt (aOne tInt))))).mono sm40 r_1
          have r_2 := (yTup K (aCons tInt (aOne tInt))).mono sm40 r_2
          have r18 := (yTup K (aCons tInt (aOne tInt))).mono sm40 r18
          have rx24 := (yTup K (aCons tInt (aOne tInt))).mono sm40 rx24
          have r32 := r32.kept kp41 (Ne.symm q2a24)
          exact hnx (known37, waiting43) _ F38 H38 (f30.f.trans (sm33.trans sm40)) ⟨w4a24, w5a24, (some v26), rfl, fr38, r32, r39, (q2a24)⟩ hp
        · have r_0 := (yTup K (aCons tInt (aCons tInt (aOne tInt)))).mono f30.f r_0
          have r_1 := (yList (yTup K (aCons tInt (aCons tInt (aOne tInt))))).mono f30.f r_1
          have r_2 := (yTup K (aCons tInt (aOne tInt))).mono f30.f r_2
          have q0a24 := q0a24.mono f30
          have q1a24 := q1a24.mono f30
          have r18 := (yTup K (aCons tInt (aOne tInt))).mono f30.f r18
          have rx24 := (yTup K (aCons tInt (aOne tInt))).mono f30.f rx24
          refine st_next ?_
          exact hnx (s25.1, s25.2) _ F30 H30 f30.f ⟨w4a24, w5a24, (some v26), rfl, fr30, q0a24, q1a24, (q2a24)⟩ hp
      case hd24 =>
        obtain ⟨w4b45, w5b45, w7b45, rfl, frM45, q0b45, q1b45, q2b45⟩ := st45
        have r_0 := (yTup K (aCons tInt (aCons tInt (aOne tInt)))).mono sm45 r_0
        have r_1 := (yList (yTup K (aCons tInt (aCons tInt (aOne tInt))))).mono sm45 r_1
        have r_2 := (yTup K (aCons tInt (aOne tInt))).mono sm45 r_2
        have r18 := (yTup K (aCons tInt (aOne tInt))).mono sm45 r18
        exact hnx (s44.2, s44.1) _ FM45 HM45 (f23.f.trans sm45) ⟨w4b45, w5b45, (some v22), w7b45, rfl, frM45, q1b45, q0b45, (Ne.symm q2b45)⟩ hp
  case hd14 =>
    obtain ⟨w4b47, w5b47, w6b47, w7b47, rfl, frM47, q0b47, q1b47, q2b47⟩ := st47
    have r_0 := (yTup K (aCons tInt (aCons tInt (aOne tInt)))).mono sm47 r_0
    have r_1 := (yList (yTup K (aCons tInt (aCons tInt (aOne tInt))))).mono sm47 r_1
    have r_2 := (yTup K (aCons tInt (aOne tInt))).mono sm47 r_2
    try (with_reducible refine st_go ?_)
    exact s_ret0 hX frM47 ev_bl hp ret0
abbrev sp_braking (K : PySem.W.Frag) : Sp := SpL K (aCons (t_Kind K) (aOne tInt)) tInt (fun a => m_braking a.1 a.2)
theorem sc_braking : FnScope ["kind", "speed", "found"] ["kind", "speed"] (defScope s4) := ⟨rfl, rfl, rfl, by decide +kernel, rfl, by decide +kernel, by decide +kernel⟩
theorem ok_braking (g : GF K mg) : CalX P w K mg base 1 "braking" (sp_braking K) := by
  obtain ⟨fd, F⟩ := g.fn_braking
  refine ⟨_, fd, _, F.ok (CX := L2.CX P w) (k := 0) (sp := sp_braking K) sc_braking spL_len (fun cdv A outer s H0 vs Q E hr h => ?_), g.g_braking, F.kp, (F.bindsN fun _ _ _ _ _ _ us hl => match us, hl with | [_, _], _ => rfl)⟩
  obtain ⟨F0, ⟨kind, speed⟩, s0, ra, hp⟩ := h
  obtain ⟨v_0, _, rfl, r_0, ⟨v_1, rfl, r_1⟩⟩ := ra
  have r_0 : (t_Kind K).rep F0 v_0 kind := r_0
  have r_1 : tInt.rep F0 v_1 speed := r_1
  have fr0 : Fr F0 H0 F0 H0 := Fr.refl s0
  refine ⟨_, (pss_cons (ps_set (i := 2) sc_braking.nd rfl (by first | exact Or.inl rfl | exact Or.inr rfl) (pe_lst pa_nil))
      (pss_cons (ps_while (passes_of rfl) (pt_cmpR op_gt (pv 1) (pe_fldK (K := K) rfl (pv 0)) (nomark _)) (pss_cons (ps_set (i := 1) sc_braking.nd rfl (by first | exact Or.inl rfl | exact Or.inr rfl) (pe_op op_sub (pv 1) (pe_fldK (K := K) rfl (pv 0))))
      (pss_one (ps_expr (pe_bm PySem.F.plainAttrs_list PySem.F.slot_list_append PySem.F.type_list_append mt_append (pv 2) (pa_cons (pv 1) pa_nil))))))
      (pss_one (ps_ret (pv 2))))), ?_⟩
  obtain ⟨XX, KK, hX, ret0, hp⟩ : ∃ (XX : Exn → Prop) (KK : (List Int) → Prop), (∀ e, XX e → ∀ (_ : L2.St) F' H', Fr F0 H0 F' H' → XS K E e H') ∧ (∀ (a : (List Int)) v F9 H9, Fr F0 H0 F9 H9 → Own tInt H0 F9 H9 v a → Post (.ok a : R (List Int)) KK XX → Q v H9) ∧ Post (m_braking kind speed) KK XX := ⟨(fun e => ∀ F' H', Fr F0 H0 F' H' → XS K E e H'), (fun b => ∀ p ws F' H', Fr F0 H0 F' H' → H0 p = none → F' p = none → H' p = some (.lst ws) → Paired (tInt.rep F') ws b → Q (.ref p) H'), fun e h _ => h, fun a v F9 H9 f o k => by obtain ⟨p, ws, ev, h0, hf, hh, r⟩ := o; subst ev; exact k p ws F9 H9 f h0 hf hh r, hp⟩
  unfold m_braking at hp
  try (with_reducible refine st_go ?_)
  refine st_seq ?_
  refine s_asgL hX fr0 (el_lst (ta := tInt) (by decide) er_nil) hp (fun found4 v2 F1 H1 _ f1 fr1 r3 nw5 hp => ?_)
  have r_0 := (t_Kind K).mono f1.f r_0
  try (with_reducible refine st_go ?_)
  refine st_seq ?_
  refine s_while (W := (fun e (_ : L2.St) H => XS K E e H)) (c := (fun (s7 : Int × (List Int)) => (.ok (decide (s7.1 > kind.2.2.1)) : R Bool))) (f := (fun (s7 : Int × (List Int)) => (bd (.ok (s7.1 - kind.2.2.1)) fun speed11 =>
bd (.ok speed11) fun y16 =>
bd (addR s7.2 y16) fun found17 =>
.ok (.nx (speed11, found17)) : R (Fl (Int × (List Int)) (List Int))))) (n0 := (speed.toNat + 1)) (s0 := (speed, found4)) (fun (s : Int × (List Int)) (σ : L2.St) (F H : Hp) => ∃ (w1 : V), ∃ (w2 : V), σ = [some v_0, some w1, some w2] ∧ Fr F0 H0 F H ∧ tInt.rep F w1 s.1 ∧ Own tInt H0 F H w2 s.2) hX fr1 hp ⟨v_1, v2, rfl, fr1, r_1, r3⟩ (fun s σ2 F2 H2 h => ?hf6) (fun s σ2 F2 H2 F3 H3 h f => ?hy6) (fun s7 σ2 FL6 HL6 sm6 st6 => ?hc6) (fun s7 σ2 FL6 HL6 DL KL hrt sm6 st6 hp hnx hct hbk hret => ?hb6) (fun s18 σ2 FM19 HM19 sm19 st19 hp => ?hd6)
  case hf6 =>
    obtain ⟨w1a6, w2a6, eL, frL, q0a6, q1a6⟩ := h
    exact frL
  case hy6 =>
    obtain ⟨w1a6, w2a6, eL, frL, q0a6, q1a6⟩ := h
    exact ⟨w1a6, w2a6, eL, frL.trans f, (tInt.mono f.f q0a6), (q1a6.mono f)⟩
  case hc6 =>
    obtain ⟨w1a6, w2a6, rfl, frL6, q0a6, q1a6⟩ := st6
    have r_0 := (t_Kind K).mono sm6 r_0
    exact et_is (et_test (ev_gt (ev_vI rfl q0a6) (ev_fld g.c_Kind g.n_Kind_brake (by decide +kernel : List.findIdx? _ _ = some 2) (nth_s (nth_s nth_0)) (ev_var rfl r_0)))) rfl
  case hb6 =>
    obtain ⟨w1a6, w2a6, rfl, frL6, q0a6, q1a6⟩ := st6
    have r_0 := (t_Kind K).mono sm6 r_0
    have ret8 : ∀ (a9 : (List Int)) v9 F9 H9, Fr F0 H0 F9 H9 → Own tInt H0 F9 H9 v9 a9 → Post (.ok (.rt a9)) KL XX → DL.rt v9 H9 := fun a9 v9 F9 H9 f9 r9 k9 => by rw [hrt]; exact ret0 a9 v9 F9 H9 f9 r9 (hret a9 k9)
    try (with_reducible refine st_go ?_)
    refine st_seq ?_
    refine s_asg hX frL6 (ev_sub (ev_vI rfl q0a6) (ev_fld g.c_Kind g.n_Kind_brake (by decide +kernel : List.findIdx? _ _ = some 2) (nth_s (nth_s nth_0)) (ev_var rfl r_0))) hp (fun speed11 v9 F8 H8 _ f8 fr8 r10 hp => ?_)
    have r_0 := (t_Kind K).mono f8.f r_0
    have q1a6 := q1a6.mono f8
    try (with_reducible refine st_go ?_)
    refine s_app hX fr8 rfl q1a6 (ev_vI rfl r10) hp (fun found17 F12 H12 sm14 fr12 r13 kp15 hp => ?_)
    have r_0 := (t_Kind K).mono sm14 r_0
    exact hnx (speed11, found17) _ F12 H12 (f8.f.trans sm14) ⟨v9, w2a6, rfl, fr12, r10, r13⟩ hp
  case hd6 =>
    obtain ⟨w1b19, w2b19, rfl, frM19, q0b19, q1b19⟩ := st19
    have r_0 := (t_Kind K).mono sm19 r_0
    try (with_reducible refine st_go ?_)
    exact s_retO rfl (ret0 _ _ _ _ frM19 q1b19 hp)
abbrev sp_Line_limit (K : PySem.W.Frag) : Sp := SpF K (aCons (t_Line K) (aCons tInt (aOne tInt))) (tOpt tInt) (fun a => m_Line_limit a.1 a.2.1 a.2.2)
theorem sc_Line_limit : FnScope ["self", "first", "last", "begin", "behind", "most"] ["self", "first", "last"] (defScope s14) := ⟨rfl, rfl, rfl, by decide +kernel, rfl, by decide +kernel, by decide +kernel⟩
theorem ok_Line_limit (g : GF K mg) : MetX P w K mg base 1 "Line" "limit" (sp_Line_limit K) := by
  obtain ⟨fd, F⟩ := g.fn_Line_limit
  refine ⟨_, fd, _, g.c_Line, g.m_Line_limit, F.ok (CX := L2.CX P w) (k := 0) (sp := sp_Line_limit K) sc_Line_limit spF_len (fun cdv A outer s H0 vs Q E hr h => ?_), (F.bindsN fun _ _ _ _ _ _ us hl => match us, hl with | [_, _, _], _ => rfl)⟩
  obtain ⟨F0, ⟨self, first, last⟩, s0, ra, hp⟩ := h
  obtain ⟨v_0, _, rfl, r_0, ⟨v_1, _, rfl, r_1, ⟨v_2, rfl, r_2⟩⟩⟩ := ra
  have r_0 : (t_Line K).rep F0 v_0 self := r_0
  have r_1 : tInt.rep F0 v_1 first := r_1
  have r_2 : tInt.rep F0 v_2 last := r_2
  have fr0 : Fr F0 H0 F0 H0 := Fr.refl s0
  refine ⟨_, (pss_one (ps_ret (pe_minDK (K := K) rfl rfl g.f_min (pe_lc (g := gTup K 3 (gCons (gName 3) (gCons (gName 4) (gCons (gName 5) gNil)))) (own := [("begin", 3), ("behind", 4), ("most", 5)]) rfl sc_Line_limit.nd (pi_tupK (K := K) rfl (pe_fldK (K := K) rfl (pv 0))) (blkOk_by (N := ["self", "first", "last", "begin", "behind", "most"]) (sc := (defScope Br.s14)) (by decide +kernel)) (fun _ _ _ _ _ => (pg_tupK (K := K) rfl rfl (pgs_cons (pg_name (i := 3) sc_Line_limit.nd rfl (by first | exact Or.inl rfl | exact Or.inr rfl)) (pgs_cons (pg_name (i := 4) sc_Line_limit.nd rfl (by first | exact Or.inl rfl | exact Or.inr rfl)) (pgs_cons (pg_name (i := 5) sc_Line_limit.nd rfl (by first | exact Or.inl rfl | exact Or.inr rfl)) pgs_nil))))) (fun _ _ _ _ _ => (pts_one (PW.pt (pw_and (pt_cmpR op_le (pv 3) (pv 2) (nomark _)) (pw_and1 (pt_cmpR op_ge (pv 4) (pv 1) (nomark _))))))) (fun _ _ _ _ _ => (pv 5)))))), ?_⟩
  obtain ⟨XX, KK, hX, ret0, hp⟩ : ∃ (XX : Exn → Prop) (KK : (Option Int) → Prop), (∀ e, XX e → ∀ (_ : L2.St) F' H', Fr F0 H0 F' H' → XS K E e H') ∧ (∀ (a : (Option Int)) v F9 H9, Fr F0 H0 F9 H9 → (tOpt tInt).rep F9 v a → Post (.ok a : R (Option Int)) KK XX → Q v H9) ∧ Post (m_Line_limit self first last) KK XX := ⟨(fun e => ∀ F' H', Fr F0 H0 F' H' → XS K E e H'), (fun b => ∀ v F' H', Fr F0 H0 F' H' → (tOpt tInt).rep F' v b → Q v H'), fun e h _ => h, fun a v F9 H9 f r k => k v F9 H9 f r, hp⟩
  unfold m_Line_limit at hp
  try (with_reducible refine st_go ?_)
  exact s_ret0 hX fr0 (ev_minD (ev_wk (ev_of_l (el_comp (c := (fun (x1 : (Int × Int × Int)) => .ok (decide (x1.1 ≤ last) && decide (x1.2.1 ≥ first)))) (e := (fun (x1 : (Int × Int × Int)) => .ok x1.2.2)) (ei_tupL (ev_fld g.c_Line g.n_Line_limits (by decide +kernel : List.findIdx? _ _ = some 1) (nth_s nth_0) (ev_var rfl r_0))) (tg_tup rfl (tgs_cons fun _ => (tgs_cons fun _ => tgs_one))) (fun σ2 F2 x p => by obtain ⟨w2, r5, ⟨w3, r6, ⟨w4, rfl, r7⟩⟩⟩ := p; rfl) (fun σ2 F2 H2 x1 f p => by obtain ⟨w2, r5, ⟨w3, r6, ⟨w4, rfl, r7⟩⟩⟩ := p; have r_0 := (t_Line K).mono f.f r_0; exact et_is (et_andP (et_test (ev_le (ev_vI rfl r5) (ev_vI rfl r_2))) (et_test (ev_ge (ev_vI rfl r6) (ev_vI rfl r_1)))) rfl) (fun σ2 F2 H2 x1 f p => by obtain ⟨w2, r5, ⟨w3, r6, ⟨w4, rfl, r7⟩⟩⟩ := p; have r_0 := (t_Line K).mono f.f r_0; exact ev_is (ev_vI rfl r7) rfl) (fun σ2 F2 F3 x s p => by obtain ⟨w2, r5, ⟨w3, r6, ⟨w4, rfl, r7⟩⟩⟩ := p; exact ⟨w2, tInt.mono s r5, ⟨w3, tInt.mono s r6, ⟨w4, rfl, tInt.mono s r7⟩⟩⟩))))) hp ret0
abbrev sp_may_pass (K : PySem.W.Frag) : Sp := SpF K (aCons (t_Line K) (aCons tInt (aOne tInt))) tBool (fun a => m_may_pass a.1 a.2.1 a.2.2)
theorem sc_may_pass : FnScope ["line", "front", "speed", "most"] ["line", "front", "speed"] (defScope s5) := ⟨rfl, rfl, rfl, by decide +kernel, rfl, by decide +kernel, by decide +kernel⟩
theorem ok_may_pass (g : GF K mg) : CalX P w K mg base 2 "may_pass" (sp_may_pass K) := by
  obtain ⟨fd, F⟩ := g.fn_may_pass
  refine ⟨_, fd, _, F.ok (CX := L2.CX P w) (k := 1) (sp := sp_may_pass K) sc_may_pass spF_len (fun cdv A outer s H0 vs Q E hr h => ?_), g.g_may_pass, F.kp, (F.bindsN fun _ _ _ _ _ _ us hl => match us, hl with | [_, _, _], _ => rfl)⟩
  obtain ⟨F0, ⟨line, front, speed⟩, s0, ra, hp⟩ := h
  obtain ⟨v_0, _, rfl, r_0, ⟨v_1, _, rfl, r_1, ⟨v_2, rfl, r_2⟩⟩⟩ := ra
  have r_0 : (t_Line K).rep F0 v_0 line := r_0
  have r_1 : tInt.rep F0 v_1 front := r_1
  have r_2 : tInt.rep F0 v_2 speed := r_2
  have fr0 : Fr F0 H0 F0 H0 := Fr.refl s0
  refine ⟨_, (pss_cons (ps_if (pt_cmpR op_eq (pv 2) pe_int (nomark _)) (pss_one (ps_ret pe_bl)) pss_nil)
      (pss_cons (ps_set (i := 3) sc_may_pass.nd rfl (by first | exact Or.inl rfl | exact Or.inr rfl) (pe_mxK (K := K) rfl (pv 0) (ok_Line_limit g) hr (by decide) (E := E) (passes_call (takes_of rfl rfl rfl rfl) (fun _ _ _ _ h => h)) (pa_cons (pe_op op_add (pv 1) pe_int) (pa_cons (pe_op op_add (pv 1) (pv 2)) pa_nil))))
      (pss_one (ps_ret (pe_or (pe_cmp (pc_isN (pv 3)) rfl) (pe_one (pe_cmpR op_le (pv 2) (pv 3) (nomark _)))))))), ?_⟩
  obtain ⟨XX, KK, hX, ret0, hp⟩ : ∃ (XX : Exn → Prop) (KK : Bool → Prop), (∀ e, XX e → ∀ (_ : L2.St) F' H', Fr F0 H0 F' H' → XS K E e H') ∧ (∀ (a : Bool) v F9 H9, Fr F0 H0 F9 H9 → tBool.rep F9 v a → Post (.ok a : R Bool) KK XX → Q v H9) ∧ Post (m_may_pass line front speed) KK XX := ⟨(fun e => ∀ F' H', Fr F0 H0 F' H' → XS K E e H'), (fun b => ∀ v F' H', Fr F0 H0 F' H' → tBool.rep F' v b → Q v H'), fun e h _ => h, fun a v F9 H9 f r k => k v F9 H9 f r, hp⟩
  unfold m_may_pass at hp
  try (with_reducible refine st_go ?_)
  refine st_seq ?_
  refine s_if hX fr0 (et_test (ev_eqI (ev_vI rfl r_2) ev_int)) hp (fun F1 H1 _ f1 fr1 hp => ?_) (fun F1 H1 _ f1 fr1 hp => ?_)
  · have r_0 := (t_Line K).mono f1.f r_0
    try (with_reducible refine st_go ?_)
    exact s_ret0 hX fr1 ev_bl hp ret0
  · have r_0 := (t_Line K).mono f1.f r_0
    refine st_next ?_
    try (with_reducible refine st_go ?_)
    refine st_seq ?_
    refine s_asg hX fr1 (ev_meth (C := "Line") (mn := "limit") (names := ["end", "limits", "stations"]) (E := E) (fun _ _ z => z) (by decide +kernel) (ev_var rfl r_0) (ea_cons (ev_add (ev_vI rfl r_1) ev_int) (ea_one (ev_add (ev_vI rfl r_1) (ev_vI rfl r_2))))) hp (fun most5 v3 F2 H2 _ f2 fr2 r4 hp => ?_)
    have r_0 := (t_Line K).mono f2.f r_0
    try (with_reducible refine st_go ?_)
    exact s_ret0 hX fr2 (ev_orV (ev_isN (ev_var rfl r4)) (ev_le (ev_vI rfl r_2) (ev_some (ev_var rfl r4)))) hp ret0
abbrev sp_is_safe (K : PySem.W.Frag) : Sp := SpF K (aCons (t_Line K) (aCons (t_Kind K) (aCons tInt (aCons tInt (aOne tInt))))) tBool (fun a => m_is_safe a.1 a.2.1 a.2.2.1 a.2.2.2.1 a.2.2.2.2)
theorem sc_is_safe : FnScope ["line", "kind", "front", "speed", "leave", "later"] ["line", "kind", "front", "speed", "leave"] (defScope s6) := ⟨rfl, rfl, rfl, by decide +kernel, rfl, by decide +kernel, by decide +kernel⟩
theorem ok_is_safe (g : GF K mg) : CalX P w K mg base 3 "is_safe" (sp_is_safe K) := by
  obtain ⟨fd, F⟩ := g.fn_is_safe
  refine ⟨_, fd, _, F.ok (CX := L2.CX P w) (k := 2) (sp := sp_is_safe K) sc_is_safe spF_len (fun cdv A outer s H0 vs Q E hr h => ?_), g.g_is_safe, F.kp, (F.bindsN fun _ _ _ _ _ _ us hl => match us, hl with | [_, _, _, _, _], _ => rfl)⟩
  obtain ⟨F0, ⟨line, kind, front, speed, leave⟩, s0, ra, hp⟩ := h
  obtain ⟨v_0, _, rfl, r_0, ⟨v_1, _, rfl, r_1, ⟨v_2, _, rfl, r_2, ⟨v_3, _, rfl, r_3, ⟨v_4, rfl, r_4⟩⟩⟩⟩⟩ := ra
  have r_0 : (t_Line K).rep F0 v_0 line := r_0
  have r_1 : (t_Kind K).rep F0 v_1 kind := r_1
  have r_2 : tInt.rep F0 v_2 front := r_2
  have r_3 : tInt.rep F0 v_3 speed := r_3
  have r_4 : tInt.rep F0 v_4 leave := r_4
  have fr0 : Fr F0 H0 F0 H0 := Fr.refl s0
  refine ⟨_, (pss_cons (ps_if (pt_cmpR op_gt (pv 2) (pv 4) (nomark _)) (pss_one (ps_ret pe_bl)) pss_nil)
      (pss_cons (ps_for (passes_of rfl) rfl (pi_listK (K := K) rfl (pe_cxK (K := K) rfl (ok_braking g) hr (by decide) (E := E) (passes_call (takes_of rfl rfl rfl rfl) (fun _ _ _ _ h => h)) (pa_cons (pv 1) (pa_cons (pv 3) pa_nil)))) (pg_name (i := 5) sc_is_safe.nd rfl (by first | exact Or.inl rfl | exact Or.inr rfl)) (pss_cons (ps_if (PW.pt (pw_or (pt_cmpR op_gt (pe_op op_add (pv 2) (pv 5)) (pv 4) (nomark _)) (pw_or1 (pt_not (pt_val (pe_cxK (K := K) rfl (ok_may_pass g) hr (by decide) (E := E) (passes_call (takes_of rfl rfl rfl rfl) (fun _ _ _ _ h => h)) (pa_cons (pv 0) (pa_cons (pv 2) (pa_cons (pv 5) pa_nil))))))))) (pss_one (ps_ret pe_bl)) pss_nil)
      (pss_one (ps_aug (i := 2) sc_is_safe.nd rfl (by first | exact Or.inl rfl | exact Or.inr rfl) (pv 5) ip_add))))
      (pss_one (ps_ret pe_bl)))), ?_⟩
  obtain ⟨XX, KK, hX, ret0, hp⟩ : ∃ (XX : Exn → Prop) (KK : Bool → Prop), (∀ e, XX e → ∀ (_ : L2.St) F' H', Fr F0 H0 F' H' → XS K E e H') ∧ (∀ (a : Bool) v F9 H9, Fr F0 H0 F9 H9 → tBool.rep F9 v a → Post (.ok a : R Bool) KK XX → Q v H9) ∧ Post (m_is_safe line kind front speed leave) KK XX := ⟨(fun e => ∀ F' H', Fr F0 H0 F' H' → XS K E e H'), (fun b => ∀ v F' H', Fr F0 H0 F' H' → tBool.rep F' v b → Q v H'), fun e h _ => h, fun a v F9 H9 f r k => k v F9 H9 f r, hp⟩
  unfold m_is_safe at hp
  try (with_reducible refine st_go ?_)
  refine st_seq ?_
  refine s_if hX fr0 (et_test (ev_gt (ev_vI rfl r_2) (ev_vI rfl r_4))) hp (fun F1 H1 _ f1 fr1 hp => ?_) (fun F1 H1 _ f1 fr1 hp => ?_)
  · have r_0 := (t_Line K).mono f1.f r_0
    have r_1 := (t_Kind K).mono f1.f r_1
    try (with_reducible refine st_go ?_)
    exact s_ret0 hX fr1 ev_bl hp ret0
  · have r_0 := (t_Line K).mono f1.f r_0
    have r_1 := (t_Kind K).mono f1.f r_1
    refine st_next ?_
    try (with_reducible refine st_go ?_)
    refine st_seq ?_
    refine s_for (W := (fun e (_ : L2.St) H => XS K E e H)) (f := (fun (front3 : Int) (later6 : Int) => (bd ((if (decide (front3 + later6 > leave)) = true then .ok true else bd (m_may_pass line front3 later6) fun x7 => .ok (!x7))) fun c => if c = true then (
.ok (.rt false))
else (
bd (bd (.ok later6) fun b12 => .ok (front3 + b12)) fun front13 =>
.ok (.nx front13)) : R (Fl Int Bool)))) (s0 := front) (fun (s : Int) (σ : L2.St) (F H : Hp) => ∃ (w2 : V), ∃ (w5 : Option V), σ = [some v_0, some v_1, some w2, some v_3, some v_4, w5] ∧ Fr F0 H0 F H ∧ tInt.rep F w2 s) hX fr1 (ei_list (ev_wk (ev_of_l (el_call (E := E) (fun _ _ z => z) (ea_cons (ev_var rfl r_1) (ea_one (ev_vI rfl r_3))))))) hp (fun F2 H2 f fr => ?h02) (fun s σ2 F2 H2 h => ?hf2) (fun s σ2 F2 H2 F3 H3 h f => ?hy2) (fun front3 later6 v4 σ2 FL2 HL2 DL KL hrt sm2 st2 rx2 hp hnx hct hbk hret => ?hb2) (fun front14 σ2 FM15 HM15 sm15 st15 hp => ?hd2)
    case h02 =>
      have r_2 := tInt.mono f.f r_2
      exact ⟨v_2, none, rfl, fr, r_2⟩
    case hf2 =>
      obtain ⟨w2a2, w5a2, eL, frL, q0a2⟩ := h
      exact frL
    case hy2 =>
      obtain ⟨w2a2, w5a2, eL, frL, q0a2⟩ := h
      exact ⟨w2a2, w5a2, eL, frL.trans f, (tInt.mono f.f q0a2)⟩
    case hb2 =>
      obtain ⟨w2a2, w5a2, rfl, frL2, q0a2⟩ := st2
      have r_0 := (t_Line K).mono sm2 r_0
      have r_1 := (t_Kind K).mono sm2 r_1
      refine st_gn ?_
      have ret7 : ∀ (a9 : Bool) v9 F9 H9, Fr F0 H0 F9 H9 → tBool.rep F9 v9 a9 → Post (.ok (.rt a9)) KL XX → DL.rt v9 H9 := fun a9 v9 F9 H9 f9 r9 k9 => by rw [hrt]; exact ret0 a9 v9 F9 H9 f9 r9 (hret a9 k9)
      try (with_reducible refine st_go ?_)
      refine st_seq ?_
      refine s_if hX frL2 (et_or (et_test (ev_gt (ev_add (ev_vI rfl q0a2) (ev_vI rfl rx2)) (ev_vI rfl r_4))) (et_not (et_val (ev_call (E := E) (fun _ _ z => z) (ea_cons (ev_var rfl r_0) (ea_cons (ev_vI rfl q0a2) (ea_one (ev_vI rfl rx2)))))))) hp (fun F8 H8 _ f8 fr8 hp => ?_) (fun F8 H8 _ f8 fr8 hp => ?_)
      · have r_0 := (t_Line K).mono f8.f r_0
        have r_1 := (t_Kind K).mono f8.f r_1
        try (with_reducible refine st_go ?_)
        exact s_ret (f := fun r => .ok (Fl.rt r)) hX fr8 ev_bl hp ret7
      · have r_0 := (t_Line K).mono f8.f r_0
        have r_1 := (t_Kind K).mono f8.f r_1
        refine st_next ?_
        try (with_reducible refine st_go ?_)
        refine s_aug (a := front3) (g := fun i j => i + j) hX fr8 rfl q0a2 (ev_vI rfl rx2) hp (fun b12 v10 F9 H9 f9 fr9 r11 hp => ?_)
        generalize front3 + b12 = front13 at r11 hp
        have r_0 := (t_Line K).mono f9.f r_0
        have r_1 := (t_Kind K).mono f9.f r_1
        exact hnx front13 _ F9 H9 (f8.f.trans f9.f) ⟨v10, (some v4), rfl, fr9, r11⟩ hp
    case hd2 =>
      obtain ⟨w2b15, w5b15, rfl, frM15, q0b15⟩ := st15
      have r_0 := (t_Line K).mono sm15 r_0
      have r_1 := (t_Kind K).mono sm15 r_1
      try (with_reducible refine st_go ?_)
      exact s_ret0 hX frM15 ev_bl hp ret0
abbrev sp_may_go (K : PySem.W.Frag) : Sp := SpF K (aCons (t_Line K) (aCons (t_Kind K) (aCons tInt (aCons tInt (aOne tInt))))) tBool (fun a => m_may_go a.1 a.2.1 a.2.2.1 a.2.2.2.1 a.2.2.2.2)
theorem sc_may_go : FnScope ["line", "kind", "front", "speed", "leave"] ["line", "kind", "front", "speed", "leave"] (defScope s7) := ⟨rfl, rfl, rfl, by decide +kernel, rfl, by decide +kernel, by decide +kernel⟩
theorem ok_may_go (g : GF K mg) : CalX P w K mg base 4 "may_go" (sp_may_go K) := by
  obtain ⟨fd, F⟩ := g.fn_may_go
  refine ⟨_, fd, _, F.ok (CX := L2.CX P w) (k := 3) (sp := sp_may_go K) sc_may_go spF_len (fun cdv A outer s H0 vs Q E hr h => ?_), g.g_may_go, F.kp, (F.bindsN fun _ _ _ _ _ _ us hl => match us, hl with | [_, _, _, _, _], _ => rfl)⟩
  obtain ⟨F0, ⟨line, kind, front, speed, leave⟩, s0, ra, hp⟩ := h
  obtain ⟨v_0, _, rfl, r_0, ⟨v_1, _, rfl, r_1, ⟨v_2, _, rfl, r_2, ⟨v_3, _, rfl, r_3, ⟨v_4, rfl, r_4⟩⟩⟩⟩⟩ := ra
  have r_0 : (t_Line K).rep F0 v_0 line := r_0
  have r_1 : (t_Kind K).rep F0 v_1 kind := r_1
  have r_2 : tInt.rep F0 v_2 front := r_2
  have r_3 : tInt.rep F0 v_3 speed := r_3
  have r_4 : tInt.rep F0 v_4 leave := r_4
  have fr0 : Fr F0 H0 F0 H0 := Fr.refl s0
  refine ⟨_, (pss_cons (ps_if (PW.pt (pw_or (pt_cmpR op_gt (pe_op op_add (pv 2) (pv 3)) (pv 4) (nomark _)) (pw_or1 (pt_not (pt_val (pe_cxK (K := K) rfl (ok_may_pass g) hr (by decide) (E := E) (passes_call (takes_of rfl rfl rfl rfl) (fun _ _ _ _ h => h)) (pa_cons (pv 0) (pa_cons (pv 2) (pa_cons (pv 3) pa_nil))))))))) (pss_one (ps_ret pe_bl)) pss_nil)
      (pss_one (ps_ret (pe_cxK (K := K) rfl (ok_is_safe g) hr (by decide) (E := E) (passes_call (takes_of rfl rfl rfl rfl) (fun _ _ _ _ h => h)) (pa_cons (pv 0) (pa_cons (pv 1) (pa_cons (pe_op op_add (pv 2) (pv 3)) (pa_cons (pv 3) (pa_cons (pv 4) pa_nil))))))))), ?_⟩
  obtain ⟨XX, KK, hX, ret0, hp⟩ : ∃ (XX : Exn → Prop) (KK : Bool → Prop), (∀ e, XX e → ∀ (_ : L2.St) F' H', Fr F0 H0 F' H' → XS K E e H') ∧ (∀ (a : Bool) v F9 H9, Fr F0 H0 F9 H9 → tBool.rep F9 v a → Post (.ok a : R Bool) KK XX → Q v H9) ∧ Post (m_may_go line kind front speed leave) KK XX := ⟨(fun e => ∀ F' H', Fr F0 H0 F' H' → XS K E e H'), (fun b => ∀ v F' H', Fr F0 H0 F' H' → tBool.rep F' v b → Q v H'), fun e h _ => h, fun a v F9 H9 f r k => k v F9 H9 f r, hp⟩
  unfold m_may_go at hp
  try (with_reducible refine st_go ?_)
  refine st_seq ?_
  refine s_if hX fr0 (et_or (et_test (ev_gt (ev_add (ev_vI rfl r_2) (ev_vI rfl r_3)) (ev_vI rfl r_4))) (et_not (et_val (ev_call (E := E) (fun _ _ z => z) (ea_cons (ev_var rfl r_0) (ea_cons (ev_vI rfl r_2) (ea_one (ev_vI rfl r_3)))))))) hp (fun F2 H2 _ f2 fr2 hp => ?_) (fun F2 H2 _ f2 fr2 hp => ?_)
  · have r_0 := (t_Line K).mono f2.f r_0
    have r_1 := (t_Kind K).mono f2.f r_1
    try (with_reducible refine st_go ?_)
    exact s_ret0 hX fr2 ev_bl hp ret0
  · have r_0 := (t_Line K).mono f2.f r_0
    have r_1 := (t_Kind K).mono f2.f r_1
    refine st_next ?_
    try (with_reducible refine st_go ?_)
    exact s_ret0 hX fr2 (ev_call (E := E) (fun _ _ z => z) (ea_cons (ev_var rfl r_0) (ea_cons (ev_var rfl r_1) (ea_cons (ev_add (ev_vI rfl r_2) (ev_vI rfl r_3)) (ea_cons (ev_vI rfl r_3) (ea_one (ev_vI rfl r_4))))))) hp ret0
abbrev sp_next_speed (K : PySem.W.Frag) : Sp := SpF K (aCons (t_Line K) (aCons (t_Kind K) (aCons tInt (aCons tInt (aOne tInt))))) (tOpt tInt) (fun a => m_next_speed a.1 a.2.1 a.2.2.1 a.2.2.2.1 a.2.2.2.2)
theorem sc_next_speed : FnScope ["line", "kind", "front", "speed", "leave", "least", "most", "middle"] ["line", "kind", "front", "speed", "leave"] (defScope s8) := ⟨rfl, rfl, rfl, by decide +kernel, rfl, by decide +kernel, by decide +kernel⟩
theorem ok_next_speed (g : GF K mg) : CalX P w K mg base 5 "next_speed" (sp_next_speed K) := by
  obtain ⟨fd, F⟩ := g.fn_next_speed
  refine ⟨_, fd, _, F.ok (CX := L2.CX P w) (k := 4) (sp := sp_next_speed K) sc_next_speed spF_len (fun cdv A outer s H0 vs Q E hr h => ?_), g.g_next_speed, F.kp, (F.bindsN fun _ _ _ _ _ _ us hl => match us, hl with | [_, _, _, _, _], _ => rfl)⟩
  obtain ⟨F0, ⟨line, kind, front, speed, leave⟩, s0, ra, hp⟩ := h
  obtain ⟨v_0, _, rfl, r_0, ⟨v_1, _, rfl, r_1, ⟨v_2, _, rfl, r_2, ⟨v_3, _, rfl, r_3, ⟨v_4, rfl, r_4⟩⟩⟩⟩⟩ := ra
  have r_0 : (t_Line K).rep F0 v_0 line := r_0
  have r_1 : (t_Kind K).rep F0 v_1 kind := r_1
  have r_2 : tInt.rep F0 v_2 front := r_2
  have r_3 : tInt.rep F0 v_3 speed := r_3
  have r_4 : tInt.rep F0 v_4 leave := r_4
  have fr0 : Fr F0 H0 F0 H0 := Fr.refl s0
  refine ⟨_, (pss_cons (ps_set (i := 5) sc_next_speed.nd rfl (by first | exact Or.inl rfl | exact Or.inr rfl) (pe_callB (call_max2 rfl) (by rfl) g.f_max bt_max (pa_cons pe_int (pa_cons (pe_op op_sub (pv 3) (pe_fldK (K := K) rfl (pv 1))) pa_nil))))
      (pss_cons (ps_set (i := 6) sc_next_speed.nd rfl (by first | exact Or.inl rfl | exact Or.inr rfl) (pe_callB (call_min2 rfl) (by rfl) g.f_min bt_min (pa_cons (pe_fldK (K := K) rfl (pv 1)) (pa_cons (pe_op op_add (pv 3) (pe_fldK (K := K) rfl (pv 1))) pa_nil))))
      (pss_cons (ps_if (pt_not (pt_val (pe_cxK (K := K) rfl (ok_may_go g) hr (by decide) (E := E) (passes_call (takes_of rfl rfl rfl rfl) (fun _ _ _ _ h => h)) (pa_cons (pv 0) (pa_cons (pv 1) (pa_cons (pv 2) (pa_cons (pv 5) (pa_cons (pv 4) pa_nil)))))))) (pss_one (ps_ret pe_non)) pss_nil)
      (pss_cons (ps_while (passes_of rfl) (pt_cmpR op_lt (pv 5) (pv 6) (nomark _)) (pss_cons (ps_set (i := 7) sc_next_speed.nd rfl (by first | exact Or.inl rfl | exact Or.inr rfl) (pe_op op_fdiv (pe_op op_add (pe_op op_add (pv 5) (pv 6)) pe_int) pe_int))
      (pss_one (ps_if (pt_val (pe_cxK (K := K) rfl (ok_may_go g) hr (by decide) (E := E) (passes_call (takes_of rfl rfl rfl rfl) (fun _ _ _ _ h => h)) (pa_cons (pv 0) (pa_cons (pv 1) (pa_cons (pv 2) (pa_cons (pv 7) (pa_cons (pv 4) pa_nil))))))) (pss_one (ps_set (i := 5) sc_next_speed.nd rfl (by first | exact Or.inl rfl | exact Or.inr rfl) (pv 7))) (pss_one (ps_set (i := 6) sc_next_speed.nd rfl (by first | exact Or.inl rfl | exact Or.inr rfl) (pe_op op_sub (pv 7) pe_int)))))))
      (pss_one (ps_ret (pv 5))))))), ?_⟩
  obtain ⟨XX, KK, hX, ret0, hp⟩ : ∃ (XX : Exn → Prop) (KK : (Option Int) → Prop), (∀ e, XX e → ∀ (_ : L2.St) F' H', Fr F0 H0 F' H' → XS K E e H') ∧ (∀ (a : (Option Int)) v F9 H9, Fr F0 H0 F9 H9 → (tOpt tInt).rep F9 v a → Post (.ok a : R (Option Int)) KK XX → Q v H9) ∧ Post (m_next_speed line kind front speed leave) KK XX := ⟨(fun e => ∀ F' H', Fr F0 H0 F' H' → XS K E e H'), (fun b => ∀ v F' H', Fr F0 H0 F' H' → (tOpt tInt).rep F' v b → Q v H'), fun e h _ => h, fun a v F9 H9 f r k => k v F9 H9 f r, hp⟩
  unfold m_next_speed at hp
  try (with_reducible refine st_go ?_)
  refine st_seq ?_
  refine s_asg hX fr0 (ev_max2 ev_int (ev_sub (ev_vI rfl r_3) (ev_fld g.c_Kind g.n_Kind_brake (by decide +kernel : List.findIdx? _ _ = some 2) (nth_s (nth_s nth_0)) (ev_var rfl r_1)))) hp (fun least4 v2 F1 H1 _ f1 fr1 r3 hp => ?_)
  have r_0 := (t_Line K).mono f1.f r_0
  have r_1 := (t_Kind K).mono f1.f r_1
  try (with_reducible refine st_go ?_)
  refine st_seq ?_
  refine s_asg hX fr1 (ev_min2 (ev_fld g.c_Kind g.n_Kind_top (by decide +kernel : List.findIdx? _ _ = some 3) (nth_s (nth_s (nth_s nth_one))) (ev_var rfl r_1)) (ev_add (ev_vI rfl r_3) (ev_fld g.c_Kind g.n_Kind_pull (by decide +kernel : List.findIdx? _ _ = some 1) (nth_s nth_0) (ev_var rfl r_1)))) hp (fun most8 v6 F5 H5 _ f5 fr5 r7 hp => ?_)
  have r_0 := (t_Line K).mono f5.f r_0
  have r_1 := (t_Kind K).mono f5.f r_1
  try (with_reducible refine st_go ?_)
  refine st_seq ?_
  refine s_if hX fr5 (et_not (et_val (ev_call (E := E) (fun _ _ z => z) (ea_cons (ev_var rfl r_0) (ea_cons (ev_var rfl r_1) (ea_cons (ev_vI rfl r_2) (ea_cons (ev_vI rfl r3) (ea_one (ev_vI rfl r_4))))))))) hp (fun F10 H10 _ f10 fr10 hp => ?_) (fun F10 H10 _ f10 fr10 hp => ?_)
  · have r_0 := (t_Line K).mono f10.f r_0
    have r_1 := (t_Kind K).mono f10.f r_1
    try (with_reducible refine st_go ?_)
    exact s_ret0 hX fr10 (ev_noneOf (ta := tInt) ev_non) hp ret0
  · have r_0 := (t_Line K).mono f10.f r_0
    have r_1 := (t_Kind K).mono f10.f r_1
    refine st_next ?_
    try (with_reducible refine st_go ?_)
    refine st_seq ?_
    refine s_while (W := (fun e (_ : L2.St) H => XS K E e H)) (c := (fun (s12 : Int × Int) => (.ok (decide (s12.1 < s12.2)) : R Bool))) (f := (fun (s12 : Int × Int) => (bd (.ok (((s12.1 + s12.2) + 1) / 2)) fun middle16 =>
bd (m_may_go line kind front middle16 leave) fun c => if c = true then (
bd (.ok middle16) fun least21 =>
.ok (.nx (least21, s12.2)))
else (
bd (.ok (middle16 - 1)) fun most25 =>
.ok (.nx (s12.1, most25))) : R (Fl (Int × Int) (Option Int))))) (n0 := ((most8 - least4).toNat + 1)) (s0 := (least4, most8)) (fun (s : Int × Int) (σ : L2.St) (F H : Hp) => ∃ (w5 : V), ∃ (w6 : V), ∃ (w7 : Option V), σ = [some v_0, some v_1, some v_2, some v_3, some v_4, some w5, some w6, w7] ∧ Fr F0 H0 F H ∧ tInt.rep F w5 s.1 ∧ tInt.rep F w6 s.2) hX fr10 hp ⟨v2, v6, none, rfl, fr10, r3, r7⟩ (fun s σ2 F2 H2 h => ?hf11) (fun s σ2 F2 H2 F3 H3 h f => ?hy11) (fun s12 σ2 FL11 HL11 sm11 st11 => ?hc11) (fun s12 σ2 FL11 HL11 DL KL hrt sm11 st11 hp hnx hct hbk hret => ?hb11) (fun s26 σ2 FM27 HM27 sm27 st27 hp => ?hd11)
    case hf11 =>
      obtain ⟨w5a11, w6a11, w7a11, eL, frL, q0a11, q1a11⟩ := h
      exact frL
    case hy11 =>
      obtain ⟨w5a11, w6a11, w7a11, eL, frL, q0a11, q1a11⟩ := h
      exact ⟨w5a11, w6a11, w7a11, eL, frL.trans f, (tInt.mono f.f q0a11), (tInt.mono f.f q1a11)⟩
    case hc11 =>
      obtain ⟨w5a11, w6a11, w7a11, rfl, frL11, q0a11, q1a11⟩ := st11
      have r_0 := (t_Line K).mono sm11 r_0
      have r_1 := (t_Kind K).mono sm11 r_1
      exact et_is (et_test (ev_lt (ev_vI rfl q0a11) (ev_vI rfl q1a11))) rfl
    case hb11 =>
      obtain ⟨w5a11, w6a11, w7a11, rfl, frL11, q0a11, q1a11⟩ := st11
      have r_0 := (t_Line K).mono sm11 r_0
      have r_1 := (t_Kind K).mono sm11 r_1
      have ret13 : ∀ (a9 : (Option Int)) v9 F9 H9, Fr F0 H0 F9 H9 → (tOpt tInt).rep F9 v9 a9 → Post (.ok (.rt a9)) KL XX → DL.rt v9 H9 := fun a9 v9 F9 H9 f9 r9 k9 => by rw [hrt]; exact ret0 a9 v9 F9 H9 f9 r9 (hret a9 k9)
      try (with_reducible refine st_go ?_)
      refine st_seq ?_
      refine s_asg hX frL11 (ev_divC (by decide) (ev_add (ev_add (ev_vI rfl q0a11) (ev_vI rfl q1a11)) ev_int) ev_int) hp (fun middle16 v14 F13 H13 _ f13 fr13 r15 hp => ?_)
      have r_0 := (t_Line K).mono f13.f r_0
      have r_1 := (t_Kind K).mono f13.f r_1
      try (with_reducible refine st_go ?_)
      refine s_if hX fr13 (et_val (ev_call (E := E) (fun _ _ z => z) (ea_cons (ev_var rfl r_0) (ea_cons (ev_var rfl r_1) (ea_cons (ev_vI rfl r_2) (ea_cons (ev_vI rfl r15) (ea_one (ev_vI rfl r_4)))))))) hp (fun F17 H17 _ f17 fr17 hp => ?_) (fun F17 H17 _ f17 fr17 hp => ?_)
      · have r_0 := (t_Line K).mono f17.f r_0
        have r_1 := (t_Kind K).mono f17.f r_1
        try (with_reducible refine st_go ?_)
        refine s_asg hX fr17 (ev_vI rfl r15) hp (fun least21 v19 F18 H18 _ f18 fr18 r20 hp => ?_)
        have r_0 := (t_Line K).mono f18.f r_0
        have r_1 := (t_Kind K).mono f18.f r_1
        exact hnx (least21, s12.2) _ F18 H18 (f13.f.trans (f17.f.trans f18.f)) ⟨v19, w6a11, (some v14), rfl, fr18, r20, q1a11⟩ hp
      · have r_0 := (t_Line K).mono f17.f r_0
        have r_1 := (t_Kind K).mono f17.f r_1
        try (with_reducible refine st_go ?_)
        refine s_asg hX fr17 (ev_sub (ev_vI rfl r15) ev_int) hp (fun most25 v23 F22 H22 _ f22 fr22 r24 hp => ?_)
        have r_0 := (t_Line K).mono f22.f r_0
        have r_1 := (t_Kind K).mono f22.f r_1
        exact hnx (s12.1, most25) _ F22 H22 (f13.f.trans (f17.f.trans f22.f)) ⟨w5a11, v23, (some v14), rfl, fr22, q0a11, r24⟩ hp
    case hd11 =>
      obtain ⟨w5b27, w6b27, w7b27, rfl, frM27, q0b27, q1b27⟩ := st27
      have r_0 := (t_Line K).mono sm27 r_0
      have r_1 := (t_Kind K).mono sm27 r_1
      try (with_reducible refine st_go ?_)
      exact s_ret0 hX frM27 (ev_optOf nn_int (ev_vI rfl q0b27)) hp ret0
abbrev sp__law_goes_on (K : PySem.W.Frag) : Sp := SpF K (aCons (t_Line K) (aCons (t_Kind K) (aCons (yTup K (aCons tInt (aCons tInt (aOne tInt)))) (aCons tInt (aCons tInt (aOne tInt)))))) tBool (fun a => m__law_goes_on a.1 a.2.1 a.2.2.1 a.2.2.2.1 a.2.2.2.2.1 a.2.2.2.2.2)
theorem sc__law_goes_on : FnScope ["_law_line", "_law_kind", "_law_rules", "_law_front", "_law_speed", "_law_leave", "_law_again", "_law_fresh"] ["_law_line", "_law_kind", "_law_rules", "_law_front", "_law_speed", "_law_leave"] (defScope s23) := ⟨rfl, rfl, rfl, by decide +kernel, rfl, by decide +kernel, by decide +kernel⟩
theorem ok__law_goes_on (g : GF K mg) : CalX P w K mg base 6 "_law_goes_on" (sp__law_goes_on K) := by
  obtain ⟨fd, F⟩ := g.fn__law_goes_on
  refine ⟨_, fd, _, F.ok (CX := L2.CX P w) (k := 5) (sp := sp__law_goes_on K) sc__law_goes_on spF_len (fun cdv A outer s H0 vs Q E hr h => ?_), g.g__law_goes_on, F.kp, (F.bindsN fun _ _ _ _ _ _ us hl => match us, hl with | [_, _, _, _, _, _], _ => rfl)⟩
  obtain ⟨F0, ⟨line, kind, rules, front, speed, leave⟩, s0, ra, hp⟩ := h
  obtain ⟨v_0, _, rfl, r_0, ⟨v_1, _, rfl, r_1, ⟨v_2, _, rfl, r_2, ⟨v_3, _, rfl, r_3, ⟨v_4, _, rfl, r_4, ⟨v_5, rfl, r_5⟩⟩⟩⟩⟩⟩ := ra
  have r_0 : (t_Line K).rep F0 v_0 line := r_0
  have r_1 : (t_Kind K).rep F0 v_1 kind := r_1
  have r_2 : (yTup K (aCons tInt (aCons tInt (aOne tInt)))).rep F0 v_2 rules := r_2
  have r_3 : tInt.rep F0 v_3 front := r_3
  have r_4 : tInt.rep F0 v_4 speed := r_4
  have r_5 : tInt.rep F0 v_5 leave := r_5
  have fr0 : Fr F0 H0 F0 H0 := Fr.refl s0
  refine ⟨_, (pss_cons (ps_for (passes_of rfl) rfl (pi_range1 (by rfl) g.f_range (pa_cons pe_int pa_nil)) (pg_name (i := 6) sc__law_goes_on.nd rfl (by first | exact Or.inl rfl | exact Or.inr rfl)) (pss_cons (ps_set (i := 7) sc__law_goes_on.nd rfl (by first | exact Or.inl rfl | exact Or.inr rfl) (pe_cxK (K := K) rfl (ok_next_speed g) hr (by decide) (E := E) (passes_call (takes_of rfl rfl rfl rfl) (fun _ _ _ _ h => h)) (pa_cons (pv 0) (pa_cons (pv 1) (pa_cons (pv 3) (pa_cons (pv 4) (pa_cons (pv 5) pa_nil)))))))
      (pss_cons (ps_if (PW.pt (pw_or (pt_cmp (pc_isN (pv 7)) rfl) (pw_or1 (pt_cmpR op_gt (pe_op op_add (pv 3) (pv 7)) (pv 5) (nomark _))))) (pss_one (ps_ret pe_bl)) pss_nil)
      (pss_cons (ps_if (PW.pt (pw_and (pt_cmpR (ko_eqD (K := K) rfl hr.units) (pv 7) pe_int (nomark _)) (pw_and1 (pt_cmpR op_eq (pv 4) pe_int (nomark _))))) (pss_one (ps_ret (pe_cmpR op_eq (pv 3) (pv 5) (nomark _)))) pss_nil)
      (pss_one (ps_par (i := 3) (j := 4) (by rfl) sc__law_goes_on.nd rfl rfl (by decide) rfl rfl (pa_cons (pe_op op_add (pv 3) (pv 7)) (pa_cons (pv 7) pa_nil)) (by rfl)))))))
      (pss_one (ps_ret pe_bl))), ?_⟩
  obtain ⟨XX, KK, hX, ret0, hp⟩ : ∃ (XX : Exn → Prop) (KK : Bool → Prop), (∀ e, XX e → ∀ (_ : L2.St) F' H', Fr F0 H0 F' H' → XS K E e H') ∧ (∀ (a : Bool) v F9 H9, Fr F0 H0 F9 H9 → tBool.rep F9 v a → Post (.ok a : R Bool) KK XX → Q v H9) ∧ Post (m__law_goes_on line kind rules front speed leave) KK XX := ⟨(fun e => ∀ F' H', Fr F0 H0 F' H' → XS K E e H'), (fun b => ∀ v F' H', Fr F0 H0 F' H' → tBool.rep F' v b → Q v H'), fun e h _ => h, fun a v F9 H9 f r k => k v F9 H9 f r, hp⟩
  unfold m__law_goes_on at hp
  try (with_reducible refine st_go ?_)
  refine st_seq ?_
  refine s_for (W := (fun e (_ : L2.St) H => XS K E e H)) (f := (fun (s2 : Int × Int) (again5 : Int) => (bd (m_next_speed line kind s2.1 s2.2 leave) fun fresh9 =>
bd ((if (Option.isNone fresh9) = true then .ok true else bd (bd (fromSome fresh9) fun x10 => .ok (s2.1 + x10)) fun x11 => .ok (decide (x11 > leave)))) fun c => if c = true then (
.ok (.rt false))
else (
bd (bd (eqDR ((eOpt PyData.int) fresh9) (PyData.int 0)) fun x13 => (if x13 = true then .ok (decide (s2.2 = 0)) else .ok false)) fun c => if c = true then (
.ok (.rt (decide (s2.1 = leave))))
else (
bd (bd (fromSome fresh9) fun x15 => .ok (s2.1 + x15)) fun front21 =>
bd (fromSome fresh9) fun speed22 =>
.ok (.nx (front21, speed22)))) : R (Fl (Int × Int) Bool)))) (s0 := (front, speed)) (fun (s : Int × Int) (σ : L2.St) (F H : Hp) => ∃ (w3 : V), ∃ (w4 : V), ∃ (w6 : Option V), ∃ (w7 : Option V), σ = [some v_0, some v_1, some v_2, some w3, some w4, some v_5, w6, w7] ∧ Fr F0 H0 F H ∧ tInt.rep F w3 s.1 ∧ tInt.rep F w4 s.2) hX fr0 (ei_range1 ev_int) hp (fun F2 H2 f fr => ?h01) (fun s σ2 F2 H2 h => ?hf1) (fun s σ2 F2 H2 F3 H3 h f => ?hy1) (fun s2 again5 v3 σ2 FL1 HL1 DL KL hrt sm1 st1 rx1 hp hnx hct hbk hret => ?hb1) (fun s23 σ2 FM24 HM24 sm24 st24 hp => ?hd1)
  case h01 =>
    have r_3 := tInt.mono f.f r_3
    have r_4 := tInt.mono f.f r_4
    exact ⟨v_3, v_4, none, none, rfl, fr, r_3, r_4⟩
  case hf1 =>
    obtain ⟨w3a1, w4a1, w6a1, w7a1, eL, frL, q0a1, q1a1⟩ := h
    exact frL
  case hy1 =>
    obtain ⟨w3a1, w4a1, w6a1, w7a1, eL, frL, q0a1, q1a1⟩ := h
    exact ⟨w3a1, w4a1, w6a1, w7a1, eL, frL.trans f, (tInt.mono f.f q0a1), (tInt.mono f.f q1a1)⟩
  case hb1 =>
    obtain ⟨w3a1, w4a1, w6a1, w7a1, rfl, frL1, q0a1, q1a1⟩ := st1
    have r_0 := (t_Line K).mono sm1 r_0
    have r_1 := (t_Kind K).mono sm1 r_1
    have r_2 := (yTup K (aCons tInt (aCons tInt (aOne tInt)))).mono sm1 r_2
    refine st_gn ?_
    have ret6 : ∀ (a9 : Bool) v9 F9 H9, Fr F0 H0 F9 H9 → tBool.rep F9 v9 a9 → Post (.ok (.rt a9)) KL XX → DL.rt v9 H9 := fun a9 v9 F9 H9 f9 r9 k9 => by rw [hrt]; exact ret0 a9 v9 F9 H9 f9 r9 (hret a9 k9)
    try (with_reducible refine st_go ?_)
    refine st_seq ?_
    refine s_asg hX frL1 (ev_call (E := E) (fun _ _ z => z) (ea_cons (ev_var rfl r_0) (ea_cons (ev_var rfl r_1) (ea_cons (ev_vI rfl q0a1) (ea_cons (ev_vI rfl q1a1) (ea_one (ev_vI rfl r_5))))))) hp (fun fresh9 v7 F6 H6 _ f6 fr6 r8 hp => ?_)
    have r_0 := (t_Line K).mono f6.f r_0
    have r_1 := (t_Kind K).mono f6.f r_1
    have r_2 := (yTup K (aCons tInt (aCons tInt (aOne tInt)))).mono f6.f r_2
    try (with_reducible refine st_go ?_)
    refine st_seq ?_
    refine s_if hX fr6 (et_or (et_val (ev_isN (ev_var rfl r8))) (et_test (ev_gt (ev_add (ev_vI rfl q0a1) (ev_some (ev_var rfl r8))) (ev_vI rfl r_5)))) hp (fun F12 H12 _ f12 fr12 hp => ?_) (fun F12 H12 _ f12 fr12 hp => ?_)
    · have r_0 := (t_Line K).mono f12.f r_0
      have r_1 := (t_Kind K).mono f12.f r_1
      have r_2 := (yTup K (aCons tInt (aCons tInt (aOne tInt)))).mono f12.f r_2
      have r8 := (tOpt tInt).mono f12.f r8
      try (with_reducible refine st_go ?_)
      exact s_ret (f := fun r => .ok (Fl.rt r)) hX fr12 ev_bl hp ret6
    · have r_0 := (t_Line K).mono f12.f r_0
      have r_1 := (t_Kind K).mono f12.f r_1
      have r_2 := (yTup K (aCons tInt (aCons tInt (aOne tInt)))).mono f12.f r_2
      have r8 := (tOpt tInt).mono f12.f r8
      refine st_next ?_
      try (with_reducible refine st_go ?_)
      refine st_seq ?_
      refine s_if hX fr12 (et_and (et_test (ev_eqD (d_opt d_int) d_int (by decide) (by decide) (ev_var rfl r8) ev_int)) (et_test (ev_eqI (ev_vI rfl q1a1) ev_int))) hp (fun F14 H14 _ f14 fr14 hp => ?_) (fun F14 H14 _ f14 fr14 hp => ?_)
      · have r_0 := (t_Line K).mono f14.f r_0
        have r_1 := (t_Kind K).mono f14.f r_1
        have r_2 := (yTup K (aCons tInt (aCons tInt (aOne tInt)))).mono f14.f r_2
        have r8 := (tOpt tInt).mono f14.f r8
        try (with_reducible refine st_go ?_)
        exact s_ret (f := fun r => .ok (Fl.rt r)) hX fr14 (ev_eqI (ev_vI rfl q0a1) (ev_vI rfl r_5)) hp ret6
      · have r_0 := (t_Line K).mono f14.f r_0
        have r_1 := (t_Kind K).mono f14.f r_1
        have r_2 := (yTup K (aCons tInt (aCons tInt (aOne tInt)))).mono f14.f r_2
        have r8 := (tOpt tInt).mono f14.f r8
        refine st_next ?_
        try (with_reducible refine st_go ?_)
        refine s_par hX fr14 (ev_add (ev_vI rfl q0a1) (ev_some (ev_var rfl r8))) (ev_some (ev_var rfl r8)) hp (fun front21 speed22 v17 v18 F16 H16 f16 fr16 r19 r20 hp => ?_)
        have r_0 := (t_Line K).mono f16.f r_0
        have r_1 := (t_Kind K).mono f16.f r_1
        have r_2 := (yTup K (aCons tInt (aCons tInt (aOne tInt)))).mono f16.f r_2
        have r8 := (tOpt tInt).mono f16.f r8
        exact hnx (front21, speed22) _ F16 H16 (f6.f.trans (f12.f.trans (f14.f.trans f16.f))) ⟨v17, v18, (some v3), (some v7), rfl, fr16, r19, r20⟩ hp
  case hd1 =>
    obtain ⟨w3b24, w4b24, w6b24, w7b24, rfl, frM24, q0b24, q1b24⟩ := st24
    have r_0 := (t_Line K).mono sm24 r_0
    have r_1 := (t_Kind K).mono sm24 r_1
    have r_2 := (yTup K (aCons tInt (aCons tInt (aOne tInt)))).mono sm24 r_2
    try (with_reducible refine st_go ?_)
    exact s_ret0 hX frM24 ev_bl hp ret0
abbrev sp_law (K : PySem.W.Frag) : Sp := SpF K (aOne (tList K tInt)) tBool (fun a => m_law a)
theorem sc_law : FnScope ["_law_script", "_law_end", "_law_limits", "_law_k", "_law_number", "_law_first", "_law_line", "_law_rules", "_law_kind", "_law_leave", "_law_due", "_law_some", "_law_front", "_law_speed", "_law_one"] ["_law_script"] (defScope s24) := ⟨rfl, rfl, rfl, by decide +kernel, rfl, by decide +kernel, by decide +kernel⟩
theorem ok_law (g : GF K mg) : LawX P w K mg 7 "law" "_law_script" (sp_law K) := by
  obtain ⟨fd, F⟩ := g.fn_law
  refine ⟨_, fd, fun base => F.ok (CX := L2.CX P w) (k := 6) (sp := sp_law K) sc_law spF_len (fun cdv A outer s H0 vs Q E hr h => ?_), g.g_law, lawBinds F fun _ _ _ _ _ _ _ => rfl⟩
  obtain ⟨F0, script, s0, ra, hp⟩ := h
  obtain ⟨v_0, rfl, r_0⟩ := ra
  have r_0 : (tList K tInt).rep F0 v_0 script := r_0
  have fr0 : Fr F0 H0 F0 H0 := Fr.refl s0
  refine ⟨_, (pss_cons (ps_set (i := 1) sc_law.nd rfl (by first | exact Or.inl rfl | exact Or.inr rfl) (pe_op op_add pe_int (pe_op op_mod (pe_cxK (K := K) rfl (ok__law_mixed g) hr (by decide) (E := E) (passes_call (takes_of rfl rfl rfl rfl) (fun _ _ _ _ h => h)) (pa_cons (pv 0) (pa_cons pe_int pa_nil))) pe_int)))
      (pss_cons (ps_set (i := 2) sc_law.nd rfl (by first | exact Or.inl rfl | exact Or.inr rfl) (pe_lst pa_nil))
      (pss_cons (ps_for (passes_of rfl) rfl (pi_range1 (by rfl) g.f_range (pa_cons (pe_op op_mod (pe_cxK (K := K) rfl (ok__law_mixed g) hr (by decide) (E := E) (passes_call (takes_of rfl rfl rfl rfl) (fun _ _ _ _ h => h)) (pa_cons (pv 0) (pa_cons pe_int pa_nil))) pe_int) pa_nil)) (pg_name (i := 3) sc_law.nd rfl (by first | exact Or.inl rfl | exact Or.inr rfl)) (pss_cons (ps_set (i := 4) sc_law.nd rfl (by first | exact Or.inl rfl | exact Or.inr rfl) (pe_op op_fdiv (pe_cxK (K := K) rfl (ok__law_mixed g) hr (by decide) (E := E) (passes_call (takes_of rfl rfl rfl rfl) (fun _ _ _ _ h => h)) (pa_cons (pv 0) (pa_cons pe_int pa_nil))) (pe_op op_add pe_int (pe_op op_mul pe_int (pv 3)))))
      (pss_cons (ps_set (i := 5) sc_law.nd rfl (by first | exact Or.inl rfl | exact Or.inr rfl) (pe_op op_mod (pv 4) (pe_op op_add (pv 1) pe_int)))
      (pss_one (ps_expr (pe_bm PySem.F.plainAttrs_list PySem.F.slot_list_append PySem.F.type_list_append mt_append (pv 2) (pa_cons (pe_tup (pa_cons (pv 5) (pa_cons (pe_callB (call_min2 rfl) (by rfl) g.f_min bt_min (pa_cons (pv 1) (pa_cons (pe_op op_add (pv 5) (pe_op op_mod (pe_op op_fdiv (pv 4) pe_int) pe_int)) pa_nil))) (pa_cons (pe_op op_add pe_int (pe_op op_mod (pe_op op_fdiv (pv 4) pe_int) pe_int)) pa_nil)))) pa_nil)))))))
      (pss_cons (ps_set (i := 6) sc_law.nd rfl (by first | exact Or.inl rfl | exact Or.inr rfl) (pe_kxK (K := K) rfl (ok_Line___init__ g) hr (by decide) (E := E) (passes_call (takes_of rfl rfl rfl rfl) (fun _ _ _ _ h => h)) (pa_cons (pv 1) (pa_cons (pe_callTy (kc_list (K := K) rfl) (by rfl) g.f_list bt_list (pa_cons (pv 2) pa_nil)) (pa_cons (pe_lst pa_nil) pa_nil)))))
      (pss_cons (ps_set (i := 4) sc_law.nd rfl (by first | exact Or.inl rfl | exact Or.inr rfl) (pe_cxK (K := K) rfl (ok__law_mixed g) hr (by decide) (E := E) (passes_call (takes_of rfl rfl rfl rfl) (fun _ _ _ _ h => h)) (pa_cons (pv 0) (pa_cons pe_int pa_nil))))
      (pss_cons (ps_set (i := 7) sc_law.nd rfl (by first | exact Or.inl rfl | exact Or.inr rfl) (pe_tup (pa_cons (pe_op op_add pe_int (pe_op op_mod (pv 4) pe_int)) (pa_cons (pe_op op_add pe_int (pe_op op_mod (pe_op op_fdiv (pv 4) pe_int) pe_int)) (pa_cons (pe_op op_add pe_int (pe_op op_mod (pe_op op_fdiv (pv 4) pe_int) pe_int)) pa_nil)))))
      (pss_cons (ps_set (i := 8) sc_law.nd rfl (by first | exact Or.inl rfl | exact Or.inr rfl) (pe_kxK (K := K) rfl (ok_Kind___init__ g) hr (by decide) (E := E) (passes_call (takes_of rfl rfl rfl rfl) (fun _ _ _ _ h => h)) (pa_cons (pe_op op_add pe_int (pe_op op_mod (pe_op op_fdiv (pv 4) pe_int) pe_int)) (pa_cons (pe_ix (kx_tup (K := K) rfl) (pv 7) pe_int (fun _ _ => rfl)) (pa_cons (pe_ix (kx_tup (K := K) rfl) (pv 7) pe_int (fun _ _ => rfl)) (pa_cons (pe_ix (kx_tup (K := K) rfl) (pv 7) pe_int (fun _ _ => rfl)) pa_nil))))))
      (pss_cons (ps_for (passes_of rfl) rfl (pi_range2 (by rfl) g.f_range (pa_cons pe_int (pa_cons (pe_callB (call_max2 rfl) (by rfl) g.f_max bt_max (pa_cons pe_int (pa_cons (pe_callB (call_min2 rfl) (by rfl) g.f_min bt_min (pa_cons (pe_callB (kc_len (K := K) rfl) (by rfl) g.f_len bt_len (pa_cons (pv 0) pa_nil)) (pa_cons pe_int pa_nil))) pa_nil))) pa_nil))) (pg_name (i := 3) sc_law.nd rfl (by first | exact Or.inl rfl | exact Or.inr rfl)) (pss_cons (ps_set (i := 4) sc_law.nd rfl (by first | exact Or.inl rfl | exact Or.inr rfl) (pe_cxK (K := K) rfl (ok__law_mixed g) hr (by decide) (E := E) (passes_call (takes_of rfl rfl rfl rfl) (fun _ _ _ _ h => h)) (pa_cons (pv 0) (pa_cons (pv 3) pa_nil))))
      (pss_cons (ps_asg (pe_tup (pa_cons (pe_op op_mod (pe_op op_fdiv (pv 4) pe_int) (pe_op op_add (pv 1) pe_int)) (pa_cons (pe_op op_mod (pv 4) (pe_op op_add (pe_ix (kx_tup (K := K) rfl) (pv 7) pe_int (fun _ _ => rfl)) pe_int)) pa_nil))) (pg_tupK (K := K) rfl rfl (pgs_cons (pg_name (i := 12) sc_law.nd rfl (by first | exact Or.inl rfl | exact Or.inr rfl)) (pgs_cons (pg_name (i := 13) sc_law.nd rfl (by first | exact Or.inl rfl | exact Or.inr rfl)) pgs_nil))))
      (pss_cons (ps_set (i := 9) sc_law.nd rfl (by first | exact Or.inl rfl | exact Or.inr rfl) (pe_callB (call_min2 rfl) (by rfl) g.f_min bt_min (pa_cons (pv 1) (pa_cons (pe_op op_add (pv 12) (pe_op op_mod (pe_op op_fdiv (pv 4) pe_int) pe_int)) pa_nil))))
      (pss_cons (ps_set (i := 10) sc_law.nd rfl (by first | exact Or.inl rfl | exact Or.inr rfl) (pe_cxK (K := K) rfl (ok__law_stands g) hr (by decide) (E := E) (passes_call (takes_of rfl rfl rfl rfl) (fun _ _ _ _ h => h)) (pa_cons (pv 7) (pa_cons (pv 2) (pa_cons (pe_tup (pa_cons (pv 12) (pa_cons (pv 13) pa_nil))) (pa_cons (pv 9) pa_nil))))))
      (pss_cons (ps_if (pt_cmpR op_ne (pe_cxK (K := K) rfl (ok_is_safe g) hr (by decide) (E := E) (passes_call (takes_of rfl rfl rfl rfl) (fun _ _ _ _ h => h)) (pa_cons (pv 6) (pa_cons (pv 8) (pa_cons (pv 12) (pa_cons (pv 13) (pa_cons (pv 9) pa_nil)))))) (pv 10) (nomark _)) (pss_one (ps_ret pe_bl)) pss_nil)
      (pss_cons (ps_setLc (i := 11) (g := gName 14) (own := [("_law_one", 14)]) rfl sc_law.nd rfl rfl (sw_true rfl rfl rfl (by decide +kernel)) (pi_listK (K := K) rfl (pe_cxK (K := K) rfl (ok__law_steps g) hr (by decide) (E := E) (passes_call (takes_of rfl rfl rfl rfl) (fun _ _ _ _ h => h)) (pa_cons (pv 7) (pa_cons (pv 2) (pa_cons (pe_tup (pa_cons (pv 12) (pa_cons (pv 13) pa_nil))) (pa_cons (pv 9) pa_nil)))))) (blkOk_by (N := ["_law_script", "_law_end", "_law_limits", "_law_k", "_law_number", "_law_first", "_law_line", "_law_rules", "_law_kind", "_law_leave", "_law_due", "_law_some", "_law_front", "_law_speed", "_law_one"]) (sc := (defScope Br.s24)) (by decide +kernel)) (fun _ _ _ _ _ => (pg_name (i := 14) sc_law.nd rfl (by first | exact Or.inl rfl | exact Or.inr rfl))) (fun _ _ _ _ _ => pts_nil) (fun _ _ _ _ _ => (pe_ix (kx_tup (K := K) rfl) (pv 14) pe_int (fun _ _ => rfl))))
      (pss_cons (ps_setLc (i := 11) (g := gName 14) (own := [("_law_one", 14)]) rfl sc_law.nd rfl rfl (sw_true rfl rfl rfl (by decide +kernel)) (pi_listK (K := K) rfl (pv 11)) (blkOk_by (N := ["_law_script", "_law_end", "_law_limits", "_law_k", "_law_number", "_law_first", "_law_line", "_law_rules", "_law_kind", "_law_leave", "_law_due", "_law_some", "_law_front", "_law_speed", "_law_one"]) (sc := (defScope Br.s24)) (by decide +kernel)) (fun _ _ _ _ _ => (pg_name (i := 14) sc_law.nd rfl (by first | exact Or.inl rfl | exact Or.inr rfl))) (fun _ _ _ _ _ => (pts_one (pt_val (pe_cxK (K := K) rfl (ok__law_stands g) hr (by decide) (E := E0) passL (pa_cons (pv 7) (pa_cons (pv 2) (pa_cons (pe_tup (pa_cons (pe_op op_add (pv 12) (pv 14)) (pa_cons (pv 14) pa_nil))) (pa_cons (pv 9) pa_nil)))))))) (fun _ _ _ _ _ => (pv 14)))
      (pss_cons (ps_if (pt_cmpR (ko_neD (K := K) rfl hr.units) (pe_cxK (K := K) rfl (ok_next_speed g) hr (by decide) (E := E) (passes_call (takes_of rfl rfl rfl rfl) (fun _ _ _ _ h => h)) (pa_cons (pv 6) (pa_cons (pv 8) (pa_cons (pv 12) (pa_cons (pv 13) (pa_cons (pv 9) pa_nil)))))) (pe_ix (kx_list (K := K) rfl) (pe_op op_cat (pe_lst (pa_cons pe_non pa_nil)) (pv 11)) (pe_un un_neg pe_int) (fun _ _ => rfl)) (nomark _)) (pss_one (ps_ret pe_bl)) pss_nil)
      (pss_one (ps_if (PW.pt (pw_and (pt_val (pv 10)) (pw_and1 (pt_not (pt_val (pe_cxK (K := K) rfl (ok__law_goes_on g) hr (by decide) (E := E) (passes_call (takes_of rfl rfl rfl rfl) (fun _ _ _ _ h => h)) (pa_cons (pv 6) (pa_cons (pv 8) (pa_cons (pv 7) (pa_cons (pv 12) (pa_cons (pv 13) (pa_cons (pv 9) pa_nil)))))))))))) (pss_one (ps_ret pe_bl)) pss_nil)))))))))))
      (pss_one (ps_ret pe_bl)))))))))), ?_⟩
  obtain ⟨XX, KK, hX, ret0, hp⟩ : ∃ (XX : Exn → Prop) (KK : Bool → Prop), (∀ e, XX e → ∀ (_ : L2.St) F' H', Fr F0 H0 F' H' → XS K E e H') ∧ (∀ (a : Bool) v F9 H9, Fr F0 H0 F9 H9 → tBool.rep F9 v a → Post (.ok a : R Bool) KK XX → Q v H9) ∧ Post (m_law script) KK XX := ⟨(fun e => ∀ F' H', Fr F0 H0 F' H' → XS K E e H'), (fun b => ∀ v F' H', Fr F0 H0 F' H' → tBool.rep F' v b → Q v H'), fun e h _ => h, fun a v F9 H9 f r k => k v F9 H9 f r, hp⟩
  unfold m_law at hp
  try (with_reducible refine st_go ?_)
  refine st_seq ?_
  refine s_asg hX fr0 (ev_add ev_int (ev_modC (by decide) (ev_call (E := E) (fun _ _ z => z) (ea_cons (ev_var rfl r_0) (ea_one ev_int))) ev_int)) hp (fun endq6 v4 F3 H3 _ f3 fr3 r5 hp => ?_)
  have r_0 := (tList K tInt).mono f3.f r_0
  try (with_reducible refine st_go ?_)
  refine st_seq ?_
  refine s_asgL hX fr3 (el_lst (ta := (yTup K (aCons tInt (aCons tInt (aOne tInt))))) (by decide) er_nil) hp (fun limits10 v8 F7 H7 _ f7 fr7 r9 nw11 hp => ?_)
  have r_0 := (tList K tInt).mono f7.f r_0
  try (with_reducible refine st_go ?_)
  refine st_seq ?_
  refine s_for (W := (fun e (_ : L2.St) H => XS K E e H)) (f := (fun (limits15 : (List (Int × Int × Int))) (kq18 : Int) => (bd (bd (m__law_mixed script 2) fun x19 => divR x19 (1 + (3 * kq18))) fun number23 =>
bd (modR number23 (endq6 + 1)) fun first27 =>
bd (.ok (first27, min endq6 (first27 + ((number23 / 50) % 6)), 1 + ((number23 / 300) % 5))) fun y32 =>
bd (addR limits15 y32) fun limits33 =>
.ok (.nx limits33) : R (Fl (List (Int × Int × Int)) Bool)))) (s0 := limits10) (fun (s : (List (Int × Int × Int))) (σ : L2.St) (F H : Hp) => ∃ (w2 : V), ∃ (w3 : Option V), ∃ (w4 : Option V), ∃ (w5 : Option V), σ = [some v_0, some v4, some w2, w3, w4, w5, none, none, none, none, none, none, none, none, none] ∧ Fr F0 H0 F H ∧ Own (yTup K (aCons tInt (aCons tInt (aOne tInt)))) H0 F H w2 s) hX fr7 (ei_range1 (ev_modC (by decide) (ev_call (E := E) (fun _ _ z => z) (ea_cons (ev_var rfl r_0) (ea_one ev_int))) ev_int)) hp (fun F2 H2 f fr => ?h014) (fun s σ2 F2 H2 h => ?hf14) (fun s σ2 F2 H2 F3 H3 h f => ?hy14) (fun limits15 kq18 v16 σ2 FL14 HL14 DL KL hrt sm14 st14 rx14 hp hnx hct hbk hret => ?hb14) (fun limits34 σ2 FM35 HM35 sm35 st35 hp => ?hd14)
  case h014 =>
    have r9 := r9.mono f
    exact ⟨v8, none, none, none, rfl, fr, r9⟩
  case hf14 =>
    obtain ⟨w2a14, w3a14, w4a14, w5a14, eL, frL, q0a14⟩ := h
    exact frL
  case hy14 =>
    obtain ⟨w2a14, w3a14, w4a14, w5a14, eL, frL, q0a14⟩ := h
    exact ⟨w2a14, w3a14, w4a14, w5a14, eL, frL.trans f, (q0a14.mono f)⟩
  case hb14 =>
    obtain ⟨w2a14, w3a14, w4a14, w5a14, rfl, frL14, q0a14⟩ := st14
    have r_0 := (tList K tInt).mono sm14 r_0
    refine st_gn ?_
    have ret19 : ∀ (a9 : Bool) v9 F9 H9, Fr F0 H0 F9 H9 → tBool.rep F9 v9 a9 → Post (.ok (.rt a9)) KL XX → DL.rt v9 H9 := fun a9 v9 F9 H9 f9 r9 k9 => by rw [hrt]; exact ret0 a9 v9 F9 H9 f9 r9 (hret a9 k9)
    try (with_reducible refine st_go ?_)
    refine st_seq ?_
    refine s_asg hX frL14 (ev_div (ev_call (E := E) (fun _ _ z => z) (ea_cons (ev_var rfl r_0) (ea_one ev_int))) (ev_add ev_int (ev_mulD (by decide) ev_int (ev_vI rfl rx14)))) hp (fun number23 v21 F20 H20 _ f20 fr20 r22 hp => ?_)
    have r_0 := (tList K tInt).mono f20.f r_0
    have q0a14 := q0a14.mono f20
    try (with_reducible refine st_go ?_)
    refine st_seq ?_
    refine s_asg hX fr20 (ev_mod (ev_vI rfl r22) (ev_add (ev_vI rfl r5) ev_int)) hp (fun first27 v25 F24 H24 _ f24 fr24 r26 hp => ?_)
    have r_0 := (tList K tInt).mono f24.f r_0
    have q0a14 := q0a14.mono f24
    try (with_reducible refine st_go ?_)
    refine s_app hX fr24 rfl q0a14 (ev_tup (K := K) (Nat.le_of_ble_eq_true rfl) (ea_cons (ev_vI rfl r26) (ea_cons (ev_min2 (ev_vI rfl r5) (ev_add (ev_vI rfl r26) (ev_modC (by decide) (ev_divC (by decide) (ev_vI rfl r22) ev_int) ev_int))) (ea_one (ev_add ev_int (ev_modC (by decide) (ev_divC (by decide) (ev_vI rfl r22) ev_int) ev_int)))))) hp (fun limits33 F28 H28 sm30 fr28 r29 kp31 hp => ?_)
    have r_0 := (tList K tInt).mono sm30 r_0
    exact hnx limits33 _ F28 H28 (f20.f.trans (f24.f.trans sm30)) ⟨w2a14, (some v16), (some v21), (some v25), rfl, fr28, r29⟩ hp
  case hd14 =>
    obtain ⟨w2b35, w3b35, w4b35, w5b35, rfl, frM35, q0b35⟩ := st35
    have r_0 := (tList K tInt).mono sm35 r_0
    try (with_reducible refine st_go ?_)
    refine st_seq ?_
    obtain ⟨F36, fr37, sm38, r39, kp40⟩ := q0b35.freeze frM35
    have r_0 := (tList K tInt).mono sm38 r_0
    refine s_asg hX fr37 (ev_make (E := E) (fun _ _ z => z) (ea_cons (ev_vI rfl r5) (ea_cons (ev_of_l (el_listOf (ev_wk (ev_var rfl r39)))) (ea_one (ev_of_l (el_lst (ta := (yTup K (aCons tStr (aCons tInt (aCons tInt (aOne tInt)))))) (by decide) er_nil)))))) hp (fun line44 v42 F41 H41 _ f41 fr41 r43 hp => ?_)
    have r_0 := (tList K tInt).mono f41.f r_0
    have r39 := (yList (yTup K (aCons tInt (aCons tInt (aOne tInt))))).mono f41.f r39
    try (with_reducible refine st_go ?_)
    refine st_seq ?_
    refine s_asg hX fr41 (ev_call (E := E) (fun _ _ z => z) (ea_cons (ev_var rfl r_0) (ea_one ev_int))) hp (fun number48 v46 F45 H45 _ f45 fr45 r47 hp => ?_)
    have r_0 := (tList K tInt).mono f45.f r_0
    have r39 := (yList (yTup K (aCons tInt (aCons tInt (aOne tInt))))).mono f45.f r39
    have r43 := (t_Line K).mono f45.f r43
    try (with_reducible refine st_go ?_)
    refine st_seq ?_
    refine s_asg hX fr45 (ev_tup (K := K) (Nat.le_of_ble_eq_true rfl) (ea_cons (ev_add ev_int (ev_modC (by decide) (ev_vI rfl r47) ev_int)) (ea_cons (ev_add ev_int (ev_modC (by decide) (ev_divC (by decide) (ev_vI rfl r47) ev_int) ev_int)) (ea_one (ev_add ev_int (ev_modC (by decide) (ev_divC (by decide) (ev_vI rfl r47) ev_int) ev_int)))))) hp (fun rules52 v50 F49 H49 _ f49 fr49 r51 hp => ?_)
    have r_0 := (tList K tInt).mono f49.f r_0
    have r39 := (yList (yTup K (aCons tInt (aCons tInt (aOne tInt))))).mono f49.f r39
    have r43 := (t_Line K).mono f49.f r43
    try (with_reducible refine st_go ?_)
    refine st_seq ?_
    refine s_asg hX fr49 (ev_make (E := E) (fun _ _ z => z) (ea_cons (ev_add ev_int (ev_modC (by decide) (ev_divC (by decide) (ev_vI rfl r47) ev_int) ev_int)) (ea_cons (ev_nth (i := 0) nth_0 (ev_var rfl r51)) (ea_cons (ev_nth (i := 1) (nth_s nth_0) (ev_var rfl r51)) (ea_one (ev_nth (i := 2) (nth_s (nth_s nth_one)) (ev_var rfl r51))))))) hp (fun kind56 v54 F53 H53 _ f53 fr53 r55 hp => ?_)
    have r_0 := (tList K tInt).mono f53.f r_0
    have r39 := (yList (yTup K (aCons tInt (aCons tInt (aOne tInt))))).mono f53.f r39
    have r43 := (t_Line K).mono f53.f r43
    have r51 := (yTup K (aCons tInt (aCons tInt (aOne tInt)))).mono f53.f r51
    try (with_reducible refine st_go ?_)
    refine st_seq ?_
    refine s_for (W := (fun e (_ : L2.St) H => XS K E e H)) (f := (fun (number58 : Int) (kq61 : Int) => (bd (m__law_mixed script kq61) fun number65 =>
bd (bd (modR (number65 / 7) (endq6 + 1)) fun x66 => bd (modR number65 (rules52.2.2 + 1)) fun x67 => .ok (x66, x67)) fun t75 =>
bd (.ok (min endq6 (t75.1 + ((number65 / 300) % 18)))) fun leave80 =>
bd (m__law_stands rules52 limits34 (t75.1, t75.2) leave80) fun due84 =>
bd (bd (m_is_safe line44 kind56 t75.1 t75.2 leave80) fun x85 => .ok (!decide (x85 = due84))) fun c => if c = true then (
.ok (.rt false))
else (
bd (bd (m__law_steps rules52 limits34 (t75.1, t75.2) leave80) fun x190 => compR (fun (one87 : (Int × Int)) => .ok true) (fun (one87 : (Int × Int)) => .ok one87.2) x190) fun someq194 =>
bd (compR (fun (one195 : Int) => m__law_stands rules52 limits34 (t75.1 + one195, one195) leave80) (fun (one195 : Int) => .ok one195) someq194) fun someq301 =>
bd (bd (m_next_speed line44 kind56 t75.1 t75.2 leave80) fun x303 => bd (bd (catR [none] (someq301.map some)) fun x302 => atR x302 (-1)) fun x304 => neDR ((eOpt PyData.int) x303) ((eOpt PyData.int) x304)) fun c => if c = true then (
.ok (.rt false))
else (
bd ((if due84 = true then bd (m__law_goes_on line44 kind56 rules52 t75.1 t75.2 leave80) fun x306 => .ok (!x306) else .ok false)) fun c => if c = true then (
.ok (.rt false))
else (
.ok (.nx number65)))) : R (Fl Int Bool)))) (s0 := number48) (fun (s : Int) (σ : L2.St) (F H : Hp) => ∃ (w3 : Option V), ∃ (w4 : V), ∃ (w9 : Option V), ∃ (w10 : Option V), ∃ (w11 : Option V), ∃ (w12 : Option V), ∃ (w13 : Option V), σ = [some v_0, some v4, some w2b35, w3, some w4, w5b35, some v42, some v50, some v54, w9, w10, w11, w12, w13, none] ∧ Fr F0 H0 F H ∧ tInt.rep F w4 s) hX fr53 (ei_range2 ev_int (ev_max2 ev_int (ev_min2 (ev_lenL (ev_var rfl r_0)) ev_int))) hp (fun F2 H2 f fr => ?h057) (fun s σ2 F2 H2 h => ?hf57) (fun s σ2 F2 H2 F3 H3 h f => ?hy57) (fun number58 kq61 v59 σ2 FL57 HL57 DL KL hrt sm57 st57 rx57 hp hnx hct hbk hret => ?hb57) (fun number308 σ2 FM309 HM309 sm309 st309 hp => ?hd57)
    case h057 =>
      have r47 := tInt.mono f.f r47
      exact ⟨w3b35, v46, none, none, none, none, none, rfl, fr, r47⟩
    case hf57 =>
      obtain ⟨w3a57, w4a57, w9a57, w10a57, w11a57, w12a57, w13a57, eL, frL, q0a57⟩ := h
      exact frL
    case hy57 =>
      obtain ⟨w3a57, w4a57, w9a57, w10a57, w11a57, w12a57, w13a57, eL, frL, q0a57⟩ := h
      exact ⟨w3a57, w4a57, w9a57, w10a57, w11a57, w12a57, w13a57, eL, frL.trans f, (tInt.mono f.f q0a57)⟩
    case hb57 =>
      obtain ⟨w3a57, w4a57, w9a57, w10a57, w11a57, w12a57, w13a57, rfl, frL57, q0a57⟩ := st57
      have r_0 := (tList K tInt).mono sm57 r_0
      have r39 := (yList (yTup K (aCons tInt (aCons tInt (aOne tInt))))).mono sm57 r39
      have r43 := (t_Line K).mono sm57 r43
      have r51 := (yTup K (aCons tInt (aCons tInt (aOne tInt)))).mono sm57 r51
      have r55 := (t_Kind K).mono sm57 r55
      refine st_gn ?_
      have ret62 : ∀ (a9 : Bool) v9 F9 H9, Fr F0 H0 F9 H9 → tBool.rep F9 v9 a9 → Post (.ok (.rt a9)) KL XX → DL.rt v9 H9 := fun a9 v9 F9 H9 f9 r9 k9 => by rw [hrt]; exact ret0 a9 v9 F9 H9 f9 r9 (hret a9 k9)
      try (with_reducible refine st_go ?_)
      refine st_seq ?_
      refine s_asg hX frL57 (ev_call (E := E) (fun _ _ z => z) (ea_cons (ev_var rfl r_0) (ea_one (ev_vI rfl rx57)))) hp (fun number65 v63 F62 H62 _ f62 fr62 r64 hp => ?_)
      have r_0 := (tList K tInt).mono f62.f r_0
      have r39 := (yList (yTup K (aCons tInt (aCons tInt (aOne tInt))))).mono f62.f r39
      have r43 := (t_Line K).mono f62.f r43
      have r51 := (yTup K (aCons tInt (aCons tInt (aOne tInt)))).mono f62.f r51
      have r55 := (t_Kind K).mono f62.f r55
      try (with_reducible refine st_go ?_)
      refine st_seq ?_
      refine s_asgT hX fr62 (ev_is (m' := bd (modR (number65 / 7) (endq6 + 1)) fun x66 => bd (modR number65 (rules52.2.2 + 1)) fun x67 => .ok (x66, x67)) (ev_tup (K := K) (Nat.le_of_ble_eq_true rfl) (ea_cons (ev_mod (ev_divC (by decide) (ev_vI rfl r64) ev_int) (ev_add (ev_vI rfl r5) ev_int)) (ea_one (ev_mod (ev_vI rfl r64) (ev_add (ev_nth (i := 2) (nth_s (nth_s nth_one)) (ev_var rfl r51)) ev_int))))) (by simp only [bd_assoc, bd_ok])) (tg_tup rfl (tgs_cons fun _ => tgs_one)) hp (fun t75 σ2 F68 H68 _ f68 fr68 p76 hp => ?_)
      obtain ⟨v69, r71, ⟨v70, rfl, r72⟩⟩ := p76
      have r71 : tInt.rep F68 v69 t75.1 := r71
      have r72 : tInt.rep F68 v70 t75.2 := r72
      have r_0 := (tList K tInt).mono f68.f r_0
      have r39 := (yList (yTup K (aCons tInt (aCons tInt (aOne tInt))))).mono f68.f r39
      have r43 := (t_Line K).mono f68.f r43
      have r51 := (yTup K (aCons tInt (aCons tInt (aOne tInt)))).mono f68.f r51
      have r55 := (t_Kind K).mono f68.f r55
      try (with_reducible refine st_go ?_)
      refine st_seq ?_
      refine s_asg hX fr68 (ev_min2 (ev_vI rfl r5) (ev_add (ev_vI rfl r71) (ev_modC (by decide) (ev_divC (by decide) (ev_vI rfl r64) ev_int) ev_int))) hp (fun leave80 v78 F77 H77 _ f77 fr77 r79 hp => ?_)
      have r_0 := (tList K tInt).mono f77.f r_0
      have r39 := (yList (yTup K (aCons tInt (aCons tInt (aOne tInt))))).mono f77.f r39
      have r43 := (t_Line K).mono f77.f r43
      have r51 := (yTup K (aCons tInt (aCons tInt (aOne tInt)))).mono f77.f r51
      have r55 := (t_Kind K).mono f77.f r55
      try (with_reducible refine st_go ?_)
      refine st_seq ?_
      refine s_asg hX fr77 (ev_call (E := E) (fun _ _ z => z) (ea_cons (ev_var rfl r51) (ea_cons (ev_var rfl r39) (ea_cons (ev_tup (K := K) (Nat.le_of_ble_eq_true rfl) (ea_cons (ev_vI rfl r71) (ea_one (ev_vI rfl r72)))) (ea_one (ev_vI rfl r79)))))) hp (fun due84 v82 F81 H81 _ f81 fr81 r83 hp => ?_)
      have r_0 := (tList K tInt).mono f81.f r_0
      have r39 := (yList (yTup K (aCons tInt (aCons tInt (aOne tInt))))).mono f81.f r39
      have r43 := (t_Line K).mono f81.f r43
      have r51 := (yTup K (aCons tInt (aCons tInt (aOne tInt)))).mono f81.f r51
      have r55 := (t_Kind K).mono f81.f r55
      try (with_reducible refine st_go ?_)
      refine st_seq ?_
      refine s_if hX fr81 (et_test (ev_neB (ev_call (E := E) (fun _ _ z => z) (ea_cons (ev_var rfl r43) (ea_cons (ev_var rfl r55) (ea_cons (ev_vI rfl r71) (ea_cons (ev_vI rfl r72) (ea_one (ev_vI rfl r79))))))) (ev_vB rfl r83))) hp (fun F86 H86 _ f86 fr86 hp => ?_) (fun F86 H86 _ f86 fr86 hp => ?_)
      · have r_0 := (tList K tInt).mono f86.f r_0
        have r39 := (yList (yTup K (aCons tInt (aCons tInt (aOne tInt))))).mono f86.f r39
        have r43 := (t_Line K).mono f86.f r43
        have r51 := (yTup K (aCons tInt (aCons tInt (aOne tInt)))).mono f86.f r51
        have r55 := (t_Kind K).mono f86.f r55
        try (with_reducible refine st_go ?_)
        exact s_ret (f := fun r => .ok (Fl.rt r)) hX fr86 ev_bl hp ret62
      · have r_0 := (tList K tInt).mono f86.f r_0
        have r39 := (yList (yTup K (aCons tInt (aCons tInt (aOne tInt))))).mono f86.f r39
        have r43 := (t_Line K).mono f86.f r43
        have r51 := (yTup K (aCons tInt (aCons tInt (aOne tInt)))).mono f86.f r51
        have r55 := (t_Kind K).mono f86.f r55
        refine st_next ?_
        try (with_reducible refine st_go ?_)
        refine st_seq ?_
        refine s_asg hX fr86 (ev_of_l (el_comp (c := (fun (one87 : (Int × Int)) => .ok true)) (e := (fun (one87 : (Int × Int)) => .ok one87.2)) (ei_list (ev_wk (ev_of_l (el_call (E := E) (fun _ _ z => z) (ea_cons (ev_var rfl r51) (ea_cons (ev_var rfl r39) (ea_cons (ev_tup (K := K) (Nat.le_of_ble_eq_true rfl) (ea_cons (ev_vI rfl r71) (ea_one (ev_vI rfl r72)))) (ea_one (ev_vI rfl r79))))))))) tg_name (fun σ2 F2 x p => by obtain ⟨w, rfl, _⟩ := p; rfl) (fun σ2 F2 H2 one87 f p => by obtain ⟨w88, rfl, r89⟩ := p; have r39 := (yList (yTup K (aCons tInt (aCons tInt (aOne tInt))))).mono f.f r39; have r51 := (yTup K (aCons tInt (aCons tInt (aOne tInt)))).mono f.f r51; exact et_is et_yes rfl) (fun σ2 F2 H2 one87 f p => by obtain ⟨w88, rfl, r89⟩ := p; have r39 := (yList (yTup K (aCons tInt (aCons tInt (aOne tInt))))).mono f.f r39; have r51 := (yTup K (aCons tInt (aCons tInt (aOne tInt)))).mono f.f r51; exact ev_is (ev_nth (i := 1) (nth_s nth_one) (ev_var rfl r89)) rfl) (fun σ2 F2 F3 x s p => by obtain ⟨w, e, r⟩ := p; exact ⟨w, e, (yTup K (aCons tInt (aOne tInt))).mono s r⟩))) hp (fun someq194 v192 F191 H191 _ f191 fr191 r193 hp => ?_)
        have r_0 := (tList K tInt).mono f191.f r_0
        have r39 := (yList (yTup K (aCons tInt (aCons tInt (aOne tInt))))).mono f191.f r39
        have r43 := (t_Line K).mono f191.f r43
        have r51 := (yTup K (aCons tInt (aCons tInt (aOne tInt)))).mono f191.f r51
        have r55 := (t_Kind K).mono f191.f r55
        try (with_reducible refine st_go ?_)
        refine st_seq ?_
        refine s_asg hX fr191 (ev_of_l (el_comp (c := (fun (one195 : Int) => m__law_stands rules52 limits34 (t75.1 + one195, one195) leave80)) (e := (fun (one195 : Int) => .ok one195)) (ei_list (ev_wk (ev_var rfl r193))) tg_name (fun σ2 F2 x p => by obtain ⟨w, rfl, _⟩ := p; rfl) (fun σ2 F2 H2 one195 f p => by obtain ⟨w196, rfl, r197⟩ := p; have r39 := (yList (yTup K (aCons tInt (aCons tInt (aOne tInt))))).mono f.f r39; have r51 := (yTup K (aCons tInt (aCons tInt (aOne tInt)))).mono f.f r51; have r193 := (yList tInt).mono f.f r193; exact et_is (et_val (ev_call (E := E0) (fun _ _ z => z.elim) (ea_cons (ev_var rfl r51) (ea_cons (ev_var rfl r39) (ea_cons (ev_tup (K := K) (Nat.le_of_ble_eq_true rfl) (ea_cons (ev_add (ev_vI rfl r71) (ev_vI rfl r197)) (ea_one (ev_vI rfl r197)))) (ea_one (ev_vI rfl r79))))))) rfl) (fun σ2 F2 H2 one195 f p => by obtain ⟨w196, rfl, r197⟩ := p; have r39 := (yList (yTup K (aCons tInt (aCons tInt (aOne tInt))))).mono f.f r39; have r51 := (yTup K (aCons tInt (aCons tInt (aOne tInt)))).mono f.f r51; have r193 := (yList tInt).mono f.f r193; exact ev_is (ev_vI rfl r197) rfl) (fun σ2 F2 F3 x s p => by obtain ⟨w, e, r⟩ := p; exact ⟨w, e, tInt.mono s r⟩))) hp (fun someq301 v299 F298 H298 _ f298 fr298 r300 hp => ?_)
        have r_0 := (tList K tInt).mono f298.f r_0
        have r39 := (yList (yTup K (aCons tInt (aCons tInt (aOne tInt))))).mono f298.f r39
        have r43 := (t_Line K).mono f298.f r43
        have r51 := (yTup K (aCons tInt (aCons tInt (aOne tInt)))).mono f298.f r51
        have r55 := (t_Kind K).mono f298.f r55
        try (with_reducible refine st_go ?_)
        refine st_seq ?_
        refine s_if hX fr298 (et_test (ev_neD (d_opt d_int) (d_opt d_int) (by decide) (by decide) (ev_call (E := E) (fun _ _ z => z) (ea_cons (ev_var rfl r43) (ea_cons (ev_var rfl r55) (ea_cons (ev_vI rfl r71) (ea_cons (ev_vI rfl r72) (ea_one (ev_vI rfl r79))))))) (ev_ixL (ev_wk (ev_of_l (el_cat (ev_of_l (el_lst (by decide) (er_cons (ev_noneOf (ta := tInt) ev_non) er_nil))) (ev_listOpt nn_int (ev_var rfl r300))))) (ev_neg ev_int)))) hp (fun F305 H305 _ f305 fr305 hp => ?_) (fun F305 H305 _ f305 fr305 hp => ?_)
        · have r_0 := (tList K tInt).mono f305.f r_0
          have r39 := (yList (yTup K (aCons tInt (aCons tInt (aOne tInt))))).mono f305.f r39
          have r43 := (t_Line K).mono f305.f r43
          have r51 := (yTup K (aCons tInt (aCons tInt (aOne tInt)))).mono f305.f r51
          have r55 := (t_Kind K).mono f305.f r55
          have r300 := (yList tInt).mono f305.f r300
          try (with_reducible refine st_go ?_)
          exact s_ret (f := fun r => .ok (Fl.rt r)) hX fr305 ev_bl hp ret62
        · have r_0 := (tList K tInt).mono f305.f r_0
          have r39 := (yList (yTup K (aCons tInt (aCons tInt (aOne tInt))))).mono f305.f r39
          have r43 := (t_Line K).mono f305.f r43
          have r51 := (yTup K (aCons tInt (aCons tInt (aOne tInt)))).mono f305.f r51
          have r55 := (t_Kind K).mono f305.f r55
          have r300 := (yList tInt).mono f305.f r300
          refine st_next ?_
          try (with_reducible refine st_go ?_)
          refine s_if hX fr305 (et_and (et_val (ev_vB rfl r83)) (et_not (et_val (ev_call (E := E) (fun _ _ z => z) (ea_cons (ev_var rfl r43) (ea_cons (ev_var rfl r55) (ea_cons (ev_var rfl r51) (ea_cons (ev_vI rfl r71) (ea_cons (ev_vI rfl r72) (ea_one (ev_vI rfl r79))))))))))) hp (fun F307 H307 _ f307 fr307 hp => ?_) (fun F307 H307 _ f307 fr307 hp => ?_)
          · have r_0 := (tList K tInt).mono f307.f r_0
            have r39 := (yList (yTup K (aCons tInt (aCons tInt (aOne tInt))))).mono f307.f r39
            have r43 := (t_Line K).mono f307.f r43
            have r51 := (yTup K (aCons tInt (aCons tInt (aOne tInt)))).mono f307.f r51
            have r55 := (t_Kind K).mono f307.f r55
            have r300 := (yList tInt).mono f307.f r300
            try (with_reducible refine st_go ?_)
            exact s_ret (f := fun r => .ok (Fl.rt r)) hX fr307 ev_bl hp ret62
          · have r_0 := (tList K tInt).mono f307.f r_0
            have r39 := (yList (yTup K (aCons tInt (aCons tInt (aOne tInt))))).mono f307.f r39
            have r43 := (t_Line K).mono f307.f r43
            have r51 := (yTup K (aCons tInt (aCons tInt (aOne tInt)))).mono f307.f r51
            have r55 := (t_Kind K).mono f307.f r55
            have r300 := (yList tInt).mono f307.f r300
            refine st_next ?_
            exact hnx number65 _ F307 H307 (f62.f.trans (f68.f.trans (f77.f.trans (f81.f.trans (f86.f.trans (f191.f.trans (f298.f.trans (f305.f.trans f307.f)))))))) ⟨(some v59), v63, (some v78), (some v82), (some v299), (some v69), (some v70), rfl, fr307, r64⟩ hp
    case hd57 =>
      obtain ⟨w3b309, w4b309, w9b309, w10b309, w11b309, w12b309, w13b309, rfl, frM309, q0b309⟩ := st309
      have r_0 := (tList K tInt).mono sm309 r_0
      have r39 := (yList (yTup K (aCons tInt (aCons tInt (aOne tInt))))).mono sm309 r39
      have r43 := (t_Line K).mono sm309 r43
      have r51 := (yTup K (aCons tInt (aCons tInt (aOne tInt)))).mono sm309 r51
      have r55 := (t_Kind K).mono sm309 r55
      try (with_reducible refine st_go ?_)
      exact s_ret0 hX frM309 ev_bl hp ret0
end
def loose : List Str := (["__name__", "_wall", "LineError", "BadKind", "BadLine", "LETTERS", "MOST_LETTERS", "MOST_NUMBER", "is_name", "is_among", "MOST_LENGTH", "MOST_SPEED", "Kind", "braking", "may_pass", "is_safe", "may_go", "next_speed", "MOST_LIMITS", "MOST_STATIONS", "LEAST_TRACKS", "MOST_TRACKS", "is_limit", "is_station", "are_in_order", "is_list", "Line", "_law_cell_at", "_law_mixed", "_law_passes"] : List Str) ++ (["_law_steps", "_law_stands", "_law_goes_on"] : List Str)
abbrev Rw : PySem.W.OpenRow := PySem.W.OpenLaw.row PySem.Challenge.rw_brakeline_k09_whole_none_better
abbrev hk : PySem.W.Hook := hookX 5 fa fn fx
def ob (s : PySem.W.SharedT) : He.AlD × Bool := (He.obsDG 5 fa fn (HandSHeadRun.getT s), fx (He.frG (HandSHeadRun.getT s) (He.asD (HandSHeadRun.getT s) 5)))
theorem ob_eq (s : PySem.W.SharedT) : ob s = hk.obs s.abs := by
  have e : HandSHeadRun.getT s = s.abs.heap.get? := funext (HandSHeadRun.getT_eq s)
  show (He.obsDG 5 fa fn (HandSHeadRun.getT s), fx (He.frG (HandSHeadRun.getT s) (He.asD (HandSHeadRun.getT s) 5))) = _
  rw [e] <;> rfl
theorem run (w : World) : HandSHeadRun.RunEq Rw (PySem.W.view Rw.prog [38]) hk ob 20000 loose w := by
  intro os
  kernel_rfl
end Br
namespace Br
open PySem PySem.Spec PyProof.Rows L2 TL
/-! ### numbers of the script -/
theorem cell_ok (s : List Int) {k : Int} (h : 0 ≤ k) : ∃ x, m__law_cell_at s k = .ok x := by
  unfold m__law_cell_at
  rw [bd_ok]
  by_cases hk : k < (s.length : Int)
  · obtain ⟨x, e, _⟩ := atR_ok h hk
    exact ⟨x, by simp only [hk, decide_true, if_true, e]⟩
  · exact ⟨0, by simp only [hk, decide_false, Bool.false_eq_true, if_false]⟩
theorem mixed_ok (s : List Int) {k : Int} (h : 0 ≤ k) : OkQ (m__law_mixed s k) fun x => 0 ≤ x ∧ x < 2147483629 := by
  obtain ⟨c, hc⟩ := cell_ok s h
  unfold m__law_mixed
  simp only [hc, bd_ok]
  generalize hn : (c * 48271 + 7919 * k + 12345) % 2147483647 = n
  have h0 : 0 ≤ n := by rw [← hn]; exact Int.emod_nonneg _ (by decide)
  have h1 : n < 2147483647 := by rw [← hn]; exact Int.emod_lt_of_pos _ (by decide)
  rw [mulR_ok (Or.inl ⟨by omega, by omega⟩), bd_ok]
  exact okq ⟨Int.emod_nonneg _ (by decide), Int.emod_lt_of_pos _ (by decide)⟩
/-! ### braking -/
def brk (b : Int) : Nat → Int → List Int
  | 0, _ => []
  | n + 1, s => if b < s then (s - b) :: brk b n (s - b) else []
theorem brk_len (b : Int) : ∀ n s, (brk b n s).length ≤ n
  | 0, _ => Nat.le_refl _
  | n + 1, s => by
    unfold brk
    by_cases h : b < s
    · rw [if_pos h, List.length_cons]
      have := brk_len b n (s - b)
      omega
    · rw [if_neg h]
      exact Nat.zero_le _
theorem brk_pos (b : Int) : ∀ n s, ∀ x ∈ brk b n s, 0 < x
  | 0, _, x, h => nomatch h
  | n + 1, s, x, h => by
    unfold brk at h
    by_cases hb : b < s
    · rw [if_pos hb] at h
      rcases List.mem_cons.mp h with rfl | h
      · omega
      · exact brk_pos b n _ x h
    · rw [if_neg hb] at h
      cases h
theorem braking_run (b : Int) (hb : 0 < b) (c : Int × List Int → R Bool) (f : Int × List Int → R (Fl (Int × List Int) (List Int))) (hc : ∀ s acc, c (s, acc) = .ok (decide (s > b))) (hf : ∀ s acc, acc.length < 100000 → f (s, acc) = .ok (.nx (s - b, acc ++ [s - b]))) :
    ∀ n s acc, s.toNat ≤ n → acc.length + n ≤ 100000 → ∃ s', whileR c f (n + 1) (s, acc) = .ok (.nx (s', acc ++ brk b n s))
  | 0, s, acc, h, _ => ⟨s, by
    rw [whileR_no (by rw [hc, decide_eq_false (by omega)])]
    show _ = R.ok (Fl.nx (s, acc ++ []))
    rw [List.append_nil]⟩
  | n + 1, s, acc, h, hl => by
    by_cases hs : b < s
    · obtain ⟨s', e⟩ := braking_run b hb c f hc hf n (s - b) (acc ++ [s - b]) (by omega) (by rw [List.length_append]; simp; omega)
      refine ⟨s', ?_⟩
      rw [whileR_yes (by rw [hc, decide_eq_true hs]) (hf s acc (by omega)), e]
      unfold brk
      cases n with
      | zero => rw [if_pos hs, List.append_assoc] <;> rfl
      | succ n => rw [if_pos hs, List.append_assoc] <;> rfl
    · refine ⟨s, ?_⟩
      rw [whileR_no (by rw [hc, decide_eq_false hs])]
      unfold brk
      rw [if_neg hs, List.append_nil]
theorem braking_ok (k : M_Kind) (hb : 0 < k.2.2.1) {s : Int} (h : s ≤ 100000) : m_braking k s = .ok (brk k.2.2.1 s.toNat s) := by
  unfold m_braking
  obtain ⟨s', e⟩ := braking_run k.2.2.1 hb (fun (s7 : Int × (List Int)) => (.ok (decide (s7.1 > k.2.2.1)) : R Bool)) (fun (s7 : Int × (List Int)) => (bd (.ok (s7.1 - k.2.2.1)) fun speed11 =>
    bd (.ok speed11) fun y16 =>
    bd (addR s7.2 y16) fun found17 =>
    .ok (.nx (speed11, found17)) : R (Fl (Int × (List Int)) (List Int)))) (fun _ _ => rfl) (fun s acc hl => by
    simp only [bd_ok]
    rw [addR_ok hl, bd_ok]) s.toNat s [] (Nat.le_refl _) (by simp; omega)
  rw [bd_ok, e]
  rfl
/-! ### safe to leave -/
def passP (ls : List (Int × Int × Int)) (front s : Int) : Bool := !ls.any fun l => decide (l.1 ≤ front + s) && (decide (l.2.1 > front) && decide (s > l.2.2))
theorem forL_find {α ρ : Type} {f : Unit → α → R (Fl Unit ρ)} {p : α → Bool} {r : ρ} : ∀ {xs : List α}, (∀ x ∈ xs, f () x = .ok (if p x = true then .rt r else .nx ())) → forL f xs () = .ok (if xs.any p = true then .rt r else .nx ())
  | [], _ => rfl
  | x :: xs, h => by
    unfold forL
    rw [h x List.mem_cons_self, bd_ok, List.any_cons]
    cases hp : p x with
    | true => rfl
    | false => exact forL_find fun y m => h y (List.mem_cons_of_mem _ m)
theorem may_ok (l : M_Line) (hl : l.2.1.length ≤ 100000) (front s : Int) (hs : 0 < s) : m_may_pass l front s = .ok (passP l.2.1 front s) := by
  have e : m_Line_limit l (front + 1) (front + s) = .ok (leastO ((l.2.1.filter fun x => decide (x.1 ≤ front + s) && decide (x.2.1 ≥ front + 1)).map fun x => x.2.2)) := by
    unfold m_Line_limit
    rw [compR_ok (fun x => decide (x.1 ≤ front + s) && decide (x.2.1 ≥ front + 1)) (fun x => x.2.2) hl (fun _ _ => rfl) (fun _ _ _ => rfl)]
    rfl
  unfold m_may_pass
  rw [e]
  simp only [bd_ok]
  rw [if_neg (by rw [decide_eq_true_eq]; omega)]
  generalize hxs : (l.2.1.filter fun x => decide (x.1 ≤ front + s) && decide (x.2.1 ≥ front + 1)).map (fun x => x.2.2) = xs
  have mem : ∀ y, y ∈ xs ↔ ∃ x ∈ l.2.1, (x.1 ≤ front + s ∧ x.2.1 ≥ front + 1) ∧ x.2.2 = y := fun y => by
    rw [← hxs, List.mem_map]
    simp only [List.mem_filter, Bool.and_eq_true, decide_eq_true_eq]
    constructor
    · rintro ⟨x, ⟨h1, h2⟩, h3⟩
      exact ⟨x, h1, h2, h3⟩
    · rintro ⟨x, h1, h2, h3⟩
      exact ⟨x, ⟨h1, h2⟩, h3⟩
  have goal : ∀ b : Bool, (b = true ↔ ∀ y ∈ xs, s ≤ y) → b = passP l.2.1 front s := fun b hb => by
    apply Bool.eq_iff_iff.mpr
    rw [hb]
    unfold passP
    rw [Bool.not_eq_true', List.any_eq_false]
    simp only [Bool.and_eq_true, decide_eq_true_eq]
    constructor
    · rintro h x hx ⟨h1, h2, h3⟩
      have := h x.2.2 ((mem _).mpr ⟨x, hx, ⟨h1, by omega⟩, rfl⟩)
      omega
    · intro h y hy
      obtain ⟨x, hx, ⟨h1, h2⟩, rfl⟩ := (mem _).mp hy
      have := h x hx
      omega
  cases hm : leastO xs with
  | none =>
    rw [← goal true ⟨fun _ y hy => (by rw [leastO_nil hm] at hy; exact nomatch hy), fun _ => rfl⟩]
    rfl
  | some m =>
    obtain ⟨h1, h2⟩ := leastO_le hm
    show R.ok (decide (s ≤ m)) = _
    rw [← goal (decide (s ≤ m)) ⟨fun h y hy => by have := h2 y hy; have := of_decide_eq_true h; omega, fun h => decide_eq_true (h m h1)⟩]
/-- no bad body of these, from there -/
def runP (ls : List (Int × Int × Int)) (leave : Int) : List Int → Int → Bool
  | [], _ => true
  | x :: xs, front => if (decide (front + x ≤ leave) && passP ls front x) = true then runP ls leave xs (front + x) else false
theorem safe_run (ls : List (Int × Int × Int)) (leave : Int) (f : Int → Int → R (Fl Int Bool)) (hf : ∀ front x, 0 < x → f front x = .ok (if (decide (front + x ≤ leave) && passP ls front x) = true then .nx (front + x) else .rt false)) :
    ∀ xs front, (∀ x ∈ xs, 0 < x) → ∃ front', forL f xs front = .ok (if runP ls leave xs front = true then .nx front' else .rt false)
  | [], front, _ => ⟨front, rfl⟩
  | x :: xs, front, h => by
    unfold forL
    rw [hf front x (h x List.mem_cons_self), bd_ok]
    unfold runP
    by_cases hc : (decide (front + x ≤ leave) && passP ls front x) = true
    · rw [if_pos hc, if_pos hc]
      exact safe_run ls leave f hf xs (front + x) fun y m => h y (List.mem_cons_of_mem _ m)
    · rw [if_neg hc, if_neg hc]
      exact ⟨front, rfl⟩
def safeP (ls : List (Int × Int × Int)) (b front s leave : Int) : Bool := decide (front ≤ leave) && runP ls leave (brk b s.toNat s) front
theorem is_safe_ok (l : M_Line) (k : M_Kind) (hl : l.2.1.length ≤ 100000) (hb : 0 < k.2.2.1) {front s leave : Int} (hs : s ≤ 100000) : m_is_safe l k front s leave = .ok (safeP l.2.1 k.2.2.1 front s leave) := by
  unfold m_is_safe safeP
  rw [bd_ok, braking_ok k hb hs]
  by_cases h : front ≤ leave
  · rw [if_neg (by rw [decide_eq_true_eq]; omega), decide_eq_true h, Bool.true_and, bd_ok]
    obtain ⟨f', e⟩ := safe_run l.2.1 leave (fun (front3 : Int) (later6 : Int) => (bd ((if decide (front3 + later6 > leave) = true then .ok true else bd (m_may_pass l front3 later6) fun x7 => .ok (!x7))) fun c => if c = true then (.ok (.rt false)) else (bd (bd (.ok later6) fun b12 => .ok (front3 + b12)) fun front13 => .ok (.nx front13)) : R (Fl Int Bool))) (fun front x hx => by
      rw [may_ok l hl front x hx]
      simp only [bd_ok]
      by_cases h1 : front + x ≤ leave
      · rw [decide_eq_true h1, if_neg (by rw [decide_eq_true_eq]; omega), Bool.true_and]
        cases passP l.2.1 front x <;> rfl
      · rw [decide_eq_false h1, if_pos (by rw [decide_eq_true_eq]; omega)]
        rfl) (brk k.2.2.1 s.toNat s) front (brk_pos _ _ _)
    rw [e, bd_ok]
    cases runP l.2.1 leave (brk k.2.2.1 s.toNat s) front <;> rfl
  · rw [if_pos (by rw [decide_eq_true_eq]; omega), decide_eq_false h]
    rfl
/-! ### slower is safer; the next speed -/
def Fine (ls : List (Int × Int × Int)) (p v : Int) : Prop := ∀ l ∈ ls, l.1 ≤ p → p ≤ l.2.1 → v ≤ l.2.2
theorem Fine.mono {ls : List (Int × Int × Int)} {p v w : Int} (h : Fine ls p w) (hv : v ≤ w) : Fine ls p v := fun l m h1 h2 => Int.le_trans hv (h l m h1 h2)
theorem passP_iff {ls : List (Int × Int × Int)} (hv : ∀ l ∈ ls, l.1 ≤ l.2.1) {front s : Int} (hs : 0 < s) : passP ls front s = true ↔ ∀ p, front < p → p ≤ front + s → Fine ls p s := by
  unfold passP
  rw [Bool.not_eq_true', List.any_eq_false]
  simp only [Bool.and_eq_true, decide_eq_true_eq]
  constructor
  · intro h p h1 h2 l m h3 h4
    have := h l m
    omega
  · intro h l m ⟨h1, h2, h3⟩
    have h4 := hv l m
    have := h (max (front + 1) l.1) (by omega) (by omega) l m (by omega) (by omega)
    omega
/-- the run of a slower train behind a faster one -/
theorem run_slower {ls : List (Int × Int × Int)} (hv : ∀ l ∈ ls, l.1 ≤ l.2.1) {b leave : Int} (hb : 0 < b) : ∀ n m s s' front front', s' ≤ s → front' ≤ front → s.toNat ≤ n → s'.toNat ≤ m → (∀ p, front' < p → p ≤ front → Fine ls p s') →
    runP ls leave (brk b n s) front = true → runP ls leave (brk b m s') front' = true
  | _, 0, _, _, _, _, _, _, _, _, _, _ => rfl
  | 0, m + 1, s, s', front, front', h1, h2, h3, h4, hg, hr => by
    unfold brk
    rw [if_neg (by omega)]
    rfl
  | n + 1, m + 1, s, s', front, front', h1, h2, h3, h4, hg, hr => by
    by_cases hs : b < s'
    · unfold brk at hr ⊢
      rw [if_pos (by omega)] at hr
      rw [if_pos hs]
      unfold runP at hr ⊢
      by_cases hc : (decide (front + (s - b) ≤ leave) && passP ls front (s - b)) = true
      · rw [if_pos hc] at hr
        rw [Bool.and_eq_true, decide_eq_true_eq, passP_iff hv (by omega)] at hc
        obtain ⟨c1, c2⟩ := hc
        have fine : ∀ p, front' < p → p ≤ front + (s - b) → Fine ls p (s' - b) := fun p p1 p2 => by
          by_cases hp : p ≤ front
          · exact (hg p p1 hp).mono (by omega)
          · exact (c2 p (by omega) p2).mono (by omega)
        rw [if_pos (by
          rw [Bool.and_eq_true, decide_eq_true_eq, passP_iff hv (by omega)]
          exact ⟨by omega, fun p p1 p2 => fine p p1 (by omega)⟩)]
        exact run_slower hv hb n m _ _ _ _ (by omega) (by omega) (by omega) (by omega) (fun p p1 p2 => fine p (by omega) p2) hr
      · rw [if_neg hc] at hr
        cases hr
    · unfold brk
      rw [if_neg hs]
      rfl
/-- may it go on by s -/
def goP (ls : List (Int × Int × Int)) (b front leave s : Int) : Bool := (decide (front + s ≤ leave) && (decide (s = 0) || passP ls front s)) && safeP ls b (front + s) s leave
theorem goP_slower {ls : List (Int × Int × Int)} (hv : ∀ l ∈ ls, l.1 ≤ l.2.1) {b front leave s s' : Int} (hb : 0 < b) (h0 : 0 ≤ s') (h : s' ≤ s) (g : goP ls b front leave s = true) : goP ls b front leave s' = true := by
  unfold goP safeP at g ⊢
  simp only [Bool.and_eq_true, decide_eq_true_eq, Bool.or_eq_true] at g ⊢
  obtain ⟨⟨g1, g2⟩, g3, g4⟩ := g
  have fine : ∀ p, front < p → p ≤ front + s → Fine ls p s := by
    rcases g2 with g2 | g2
    · intro p p1 p2
      omega
    · by_cases hs : 0 < s
      · exact (passP_iff hv hs).mp g2
      · intro p p1 p2
        omega
  refine ⟨⟨by omega, ?_⟩, by omega, ?_⟩
  · by_cases hz : s' = 0
    · exact Or.inl hz
    · exact Or.inr ((passP_iff hv (by omega)).mpr fun p p1 p2 => (fine p p1 (by omega)).mono h)
  · exact run_slower hv hb _ _ s s' (front + s) (front + s') h (by omega) (Nat.le_refl _) (Nat.le_refl _) (fun p p1 p2 => (fine p (by omega) p2).mono h) g4
theorem may0_ok (l : M_Line) (hl : l.2.1.length ≤ 100000) (front s : Int) (hs : 0 ≤ s) : m_may_pass l front s = .ok (decide (s = 0) || passP l.2.1 front s) := by
  by_cases h : s = 0
  · subst h
    rfl
  · rw [may_ok l hl front s (by omega), decide_eq_false h, Bool.false_or]
theorem may_go_ok (l : M_Line) (k : M_Kind) (hl : l.2.1.length ≤ 100000) (hb : 0 < k.2.2.1) {front s leave : Int} (h0 : 0 ≤ s) (hs : s ≤ 100000) : m_may_go l k front s leave = .ok (goP l.2.1 k.2.2.1 front leave s) := by
  unfold m_may_go goP
  rw [may0_ok l hl front s h0, is_safe_ok l k hl hb hs]
  by_cases h1 : front + s ≤ leave
  · rw [decide_eq_true h1, if_neg (by rw [decide_eq_true_eq]; omega), bd_ok, bd_ok, Bool.true_and]
    cases (decide (s = 0) || passP l.2.1 front s) <;> rfl
  · rw [decide_eq_false h1, if_pos (by rw [decide_eq_true_eq]; omega)]
    rfl
/-- the greatest of them -/
def Greatest (p : Int → Bool) (lo hi : Int) (o : Option Int) : Prop := match o with
  | some r => lo ≤ r ∧ r ≤ hi ∧ p r = true ∧ ∀ x, r < x → x ≤ hi → p x = false
  | none => ∀ x, lo ≤ x → x ≤ hi → p x = false
theorem greatest_one {p : Int → Bool} {lo hi : Int} : ∀ {o o' : Option Int}, Greatest p lo hi o → Greatest p lo hi o' → o = o'
  | none, none, _, _ => rfl
  | some r, none, ⟨h1, h2, h3, _⟩, h' => by
    have := h' r h1 h2
    rw [h3] at this
    cases this
  | none, some r, h', ⟨h1, h2, h3, _⟩ => by
    have := h' r h1 h2
    rw [h3] at this
    cases this
  | some r, some r', ⟨h1, h2, h3, h4⟩, ⟨k1, k2, k3, k4⟩ => by
    rcases Int.lt_trichotomy r r' with h | h | h
    · have := h4 r' h k2
      rw [k3] at this
      cases this
    · rw [h]
    · have := k4 r h h2
      rw [h3] at this
      cases this
theorem search_run (p : Int → Bool) (top low : Int) (down : ∀ x y, low ≤ x → x ≤ y → y ≤ top → p y = true → p x = true) (c : Int × Int → R Bool) (f : Int × Int → R (Fl (Int × Int) (Option Int))) (hc : ∀ a b, c (a, b) = .ok (decide (a < b)))
    (hf : ∀ a b, low ≤ a → a < b → b ≤ top → f (a, b) = .ok (.nx (if p ((a + b + 1) / 2) = true then ((a + b + 1) / 2, b) else (a, (a + b + 1) / 2 - 1)))) :
    ∀ n a b, (b - a).toNat ≤ n → low ≤ a → a ≤ b → b ≤ top → p a = true → (∀ x, b < x → x ≤ top → p x = false) → ∃ r b', whileR c f (n + 1) (a, b) = .ok (.nx (r, b')) ∧ Greatest p low top (some r)
  | n, a, b, hn, h1, h2, h3, h4, h5 => by
    by_cases h : a < b
    · cases n with
      | zero => omega
      | succ n =>
        rw [whileR_yes (by rw [hc, decide_eq_true h]) (hf a b h1 h h3)]
        have m1 : a < (a + b + 1) / 2 := by omega
        have m2 : (a + b + 1) / 2 ≤ b := by omega
        generalize (a + b + 1) / 2 = m at m1 m2
        cases hm : p m with
        | true => exact search_run p top low down c f hc hf n m b (by omega) (by omega) m2 h3 hm h5
        | false =>
          refine search_run p top low down c f hc hf n a (m - 1) (by omega) h1 (by omega) (by omega) h4 fun x x1 x2 => ?_
          cases hx : p x with
          | false => rfl
          | true =>
            have := down m x (by omega) (by omega) x2 hx
            rw [hm] at this
            cases this
    · rw [whileR_no (by rw [hc, decide_eq_false h])]
      exact ⟨a, b, rfl, h1, by omega, h4, fun x x1 x2 => h5 x (by omega) x2⟩
theorem next_ok (l : M_Line) (k : M_Kind) (hl : l.2.1.length ≤ 100000) (hv : ∀ x ∈ l.2.1, x.1 ≤ x.2.1) {front s leave : Int} (hb : 0 < k.2.2.1) (hp : 0 < k.2.1) (ht : k.2.2.2 ≤ 1000) (h0 : 0 ≤ s) (hs : s ≤ k.2.2.2) :
    ∃ o, m_next_speed l k front s leave = .ok o ∧ Greatest (goP l.2.1 k.2.2.1 front leave) (max 0 (s - k.2.2.1)) (min k.2.2.2 (s + k.2.1)) o := by
  unfold m_next_speed
  rw [bd_ok, bd_ok]
  have l1 : 0 ≤ max 0 (s - k.2.2.1) := by omega
  have l2 : max 0 (s - k.2.2.1) ≤ min k.2.2.2 (s + k.2.1) := by omega
  have l3 : min k.2.2.2 (s + k.2.1) ≤ 1000 := by omega
  generalize max 0 (s - k.2.2.1) = low at l1 l2
  generalize min k.2.2.2 (s + k.2.1) = top at l2 l3
  have down : ∀ x y, low ≤ x → x ≤ y → y ≤ top → goP l.2.1 k.2.2.1 front leave y = true → goP l.2.1 k.2.2.1 front leave x = true := fun x y h1 h2 _ h => goP_slower hv hb (by omega) h2 h
  rw [may_go_ok l k hl hb l1 (by omega), bd_ok, bd_ok]
  cases hg : goP l.2.1 k.2.2.1 front leave low with
  | false =>
    refine ⟨none, rfl, fun x x1 x2 => ?_⟩
    cases hx : goP l.2.1 k.2.2.1 front leave x with
    | false => rfl
    | true =>
      have := down low x (Int.le_refl _) x1 x2 hx
      rw [hg] at this
      cases this
  | true =>
    rw [if_neg (by decide)]
    obtain ⟨r, b', e, h⟩ := search_run (goP l.2.1 k.2.2.1 front leave) top low down (fun (s12 : Int × Int) => (.ok (decide (s12.1 < s12.2)) : R Bool)) (fun (s12 : Int × Int) => (bd (.ok (((s12.1 + s12.2) + 1) / 2)) fun middle16 =>
      bd (m_may_go l k front middle16 leave) fun c => if c = true then (
      bd (.ok middle16) fun least21 =>
      .ok (.nx (least21, s12.2)))
      else (
      bd (.ok (middle16 - 1)) fun most25 =>
      .ok (.nx (s12.1, most25))) : R (Fl (Int × Int) (Option Int)))) (fun _ _ => rfl) (fun a b h1 h2 h3 => by
        simp only [bd_ok]
        rw [may_go_ok l k hl hb (by omega) (by omega), bd_ok]
        cases goP l.2.1 k.2.2.1 front leave ((a + b + 1) / 2) <;> rfl) _ low top (Nat.le_refl _) (Int.le_refl _) l2 (Int.le_refl _) hg (fun x x1 x2 => by omega)
    rw [e]
    exact ⟨some r, rfl, h⟩
/-- where it is safe there is a next speed -/
theorem safe_next {ls : List (Int × Int × Int)} {b front s leave hi : Int} (hb : 0 < b) (h : safeP ls b front s leave = true) (hhi : max 0 (s - b) ≤ hi) : ¬ Greatest (goP ls b front leave) (max 0 (s - b)) hi none := fun g => by
  have := g _ (Int.le_refl _) hhi
  unfold goP safeP at this
  unfold safeP at h
  rw [Bool.and_eq_true, decide_eq_true_eq] at h
  obtain ⟨h1, h2⟩ := h
  by_cases hs : b < s
  · have e : max 0 (s - b) = s - b := by omega
    obtain ⟨n, en⟩ : ∃ n, s.toNat = n + 1 := ⟨s.toNat - 1, by omega⟩
    rw [en] at h2
    unfold brk at h2
    rw [if_pos hs] at h2
    unfold runP at h2
    by_cases hc : (decide (front + (s - b) ≤ leave) && passP ls front (s - b)) = true
    · rw [if_pos hc] at h2
      have same : ∀ n m v, v.toNat ≤ n → v.toNat ≤ m → brk b n v = brk b m v := by
        intro n
        induction n with
        | zero =>
          intro m v h1 _
          cases m with
          | zero => rfl
          | succ m =>
            unfold brk
            rw [if_neg (by omega)]
        | succ n ih =>
          intro m v h1 h2
          cases m with
          | zero =>
            unfold brk
            rw [if_neg (by omega)]
          | succ m =>
            unfold brk
            by_cases hv : b < v
            · rw [if_pos hv, if_pos hv, ih m (v - b) (by omega) (by omega)]
            · rw [if_neg hv, if_neg hv]
      rw [same n (s - b).toNat (s - b) (by omega) (Nat.le_refl _)] at h2
      rw [Bool.and_eq_true, decide_eq_true_eq] at hc
      rw [e, h2, decide_eq_true hc.1, hc.2] at this
      simp at this
    · rw [if_neg hc] at h2
      cases h2
  · have e : max 0 (s - b) = 0 := by omega
    rw [e, Int.add_zero, decide_eq_true h1] at this
    cases this
/-! ### k09: none is better -/
theorem lay_lims (ls : List (Int × Int × Int)) : PyData.canLayAll0 (ls.map fun (a : (Int × Int × Int)) => PyData.tuple (PyData.int a.1 :: (PyData.int a.2.1 :: [PyData.int a.2.2]))) = true := lay_ints (fun _ => rfl) ls
theorem neDR_selfO (o : Option Int) : neDR (eOpt PyData.int o) (eOpt PyData.int o) = .ok false := by
  cases o with
  | none => rfl
  | some i =>
    unfold neDR
    rw [if_pos ⟨rfl, rfl⟩, PySem.SeqAt.eqv_refl _ rfl]
    rfl
theorem brk_fuel (b : Int) (hb : 0 < b) : ∀ n m v : _, (v : Int).toNat ≤ n + b.toNat → v.toNat ≤ m + b.toNat → brk b n v = brk b m v
  | 0, 0, _, _, _ => rfl
  | 0, m + 1, v, h1, _ => by
    unfold brk
    rw [if_neg (by omega)]
  | n + 1, 0, v, _, h2 => by
    unfold brk
    rw [if_neg (by omega)]
  | n + 1, m + 1, v, h1, h2 => by
    unfold brk
    by_cases hv : b < v
    · rw [if_pos hv, if_pos hv, brk_fuel b hb n m (v - b) (by omega) (by omega)]
    · rw [if_neg hv, if_neg hv]
/-- safe: by the hardest braking one goes on safely -/
theorem safe_least {ls : List (Int × Int × Int)} {b f v leave : Int} (hb : 0 < b) : safeP ls b f v leave = goP ls b f leave (max 0 (v - b)) := by
  unfold goP safeP
  by_cases hs : b < v
  · have e : max 0 (v - b) = v - b := by omega
    rw [e, decide_eq_false (show ¬ v - b = 0 by omega), Bool.false_or]
    obtain ⟨n, en⟩ : ∃ n, v.toNat = n + 1 := ⟨v.toNat - 1, by omega⟩
    rw [en]
    conv => lhs; unfold brk
    rw [if_pos hs, brk_fuel b hb n (v - b).toNat (v - b) (by omega) (by omega)]
    conv => lhs; unfold runP
    by_cases h1 : f + (v - b) ≤ leave
    · rw [decide_eq_true h1, decide_eq_true (show f ≤ leave by omega)]
      cases passP ls f (v - b) <;> simp
    · rw [decide_eq_false h1]
      simp
  · have e : max 0 (v - b) = 0 := by omega
    have e2 : brk b v.toNat v = [] := by
      cases h : v.toNat with
      | zero => rfl
      | succ n => unfold brk; rw [if_neg hs]
    rw [e, e2, Int.add_zero]
    cases decide (f ≤ leave) <;> rfl
def okB (ls : List (Int × Int × Int)) (leave f x : Int) : Bool := decide (f + x ≤ leave) && (decide (x = 0) || passP ls f x)
theorem goP_okB {ls : List (Int × Int × Int)} {b f leave x : Int} : goP ls b f leave x = (okB ls leave f x && safeP ls b (f + x) x leave) := rfl
theorem passes_ok (ls : List (Int × Int × Int)) (hv : ∀ l ∈ ls, l.1 ≤ l.2.1) {front s : Int} (f0 : -1000 ≤ front) (f1 : front ≤ 1000) (h0 : 0 ≤ s) (h1 : s ≤ 1000) : m__law_passes ls front s = .ok (decide (s = 0) || passP ls front s) := by
  unfold m__law_passes
  rw [rangeR_ok (by omega) (by omega) (by omega) (by omega), bd_ok]
  rw [forL_find (p := fun place => ls.any fun l => (decide (l.1 ≤ place) && decide (place ≤ l.2.1)) && decide (s > l.2.2)) (r := false) (fun place _ => by
    rw [bd_ok, forL_find (p := fun l => (decide (l.1 ≤ place) && decide (place ≤ l.2.1)) && decide (s > l.2.2)) (r := false) (fun x m => by
      rw [bd_ok]
      split <;> rfl), bd_ok]
    generalize (ls.any _) = b
    cases b <;> rfl), bd_ok]
  have e : (!(rangeL (front + 1) (front + s + 1)).any fun place => ls.any fun l => (decide (l.1 ≤ place) && decide (place ≤ l.2.1)) && decide (s > l.2.2)) = (decide (s = 0) || passP ls front s) := by
    apply Bool.eq_iff_iff.mpr
    rw [Bool.not_eq_true', List.any_eq_false]
    by_cases hs : s = 0
    · rw [decide_eq_true hs, Bool.true_or]
      refine ⟨fun _ => rfl, fun _ p hp => ?_⟩
      have := mem_rangeL.mp hp
      omega
    · rw [decide_eq_false hs, Bool.false_or, passP_iff hv (by omega)]
      constructor
      · intro h p p1 p2 l m l1 l2
        have := h p (mem_rangeL.mpr ⟨by omega, by omega⟩)
        rw [Bool.not_eq_true, List.any_eq_false] at this
        have := this l m
        simp only [Bool.and_eq_true, decide_eq_true_eq] at this
        omega
      · intro h p hp
        have hp := mem_rangeL.mp hp
        rw [Bool.not_eq_true, List.any_eq_false]
        intro l m
        have := h p (by omega) (by omega) l m
        simp only [Bool.and_eq_true, decide_eq_true_eq]
        omega
  rw [← e]
  generalize ((rangeL _ _).any _) = b
  cases b <;> rfl
theorem forL_app {α β ρ : Type} {f : List β → α → R (Fl (List β) ρ)} {p : α → Bool} {g : α → β} : ∀ {xs : List α}, (∀ acc x, x ∈ xs → acc.length < 100000 → f acc x = .ok (.nx (if p x = true then acc ++ [g x] else acc))) →
    ∀ acc, acc.length + xs.length ≤ 100000 → forL f xs acc = .ok (.nx (acc ++ (xs.filter p).map g))
  | [], _, acc, _ => by
    show R.ok (Fl.nx acc) = .ok (.nx (acc ++ []))
    rw [List.append_nil]
  | x :: xs, h, acc, hl => by
    rw [List.length_cons] at hl
    unfold forL
    rw [h acc x List.mem_cons_self (by omega), bd_ok]
    by_cases hp : p x = true
    · rw [if_pos hp]
      dsimp only
      rw [forL_app (fun a y m => h a y (List.mem_cons_of_mem _ m)) _ (by rw [List.length_append]; simp; omega), List.filter_cons_of_pos hp, List.map_cons, List.append_assoc]
      rfl
    · rw [if_neg hp]
      dsimp only
      rw [forL_app (fun a y m => h a y (List.mem_cons_of_mem _ m)) _ (by omega), List.filter_cons_of_neg hp]
def succs (r : Int × Int × Int) (ls : List (Int × Int × Int)) (leave : Int) (st : Int × Int) : List (Int × Int) :=
  ((rangeL (max 0 (st.2 - r.2.1)) (min r.2.2 (st.2 + r.1) + 1)).filter (okB ls leave st.1)).map fun x => (st.1 + x, x)
/-- small rules -/
def Small (r : Int × Int × Int) : Prop := 1 ≤ r.1 ∧ r.1 ≤ 3 ∧ 1 ≤ r.2.1 ∧ r.2.1 ≤ 3 ∧ 1 ≤ r.2.2 ∧ r.2.2 ≤ 6
def Box (r : Int × Int × Int) (st : Int × Int) : Prop := 0 ≤ st.1 ∧ st.1 ≤ 40 ∧ 0 ≤ st.2 ∧ st.2 ≤ r.2.2
theorem steps_ok {r : Int × Int × Int} {ls : List (Int × Int × Int)} (hv : ∀ l ∈ ls, l.1 ≤ l.2.1) {st : Int × Int} {leave : Int} (hr : Small r) (hb : Box r st) : m__law_steps r ls st leave = .ok (succs r ls leave st) := by
  obtain ⟨r1, r2, r3, r4, r5, r6⟩ := hr
  obtain ⟨b1, b2, b3, b4⟩ := hb
  unfold m__law_steps
  simp only [bd_ok]
  rw [rangeR_ok (by omega) (by omega) (by omega) (by omega), bd_ok]
  rw [forL_app (p := okB ls leave st.1) (g := fun x => (st.1 + x, x)) (fun acc x hx hl => ?_) [] (by rw [rangeL_len]; simp; omega), bd_ok]
  · rfl
  · have hx := mem_rangeL.mp hx
    rw [passes_ok ls hv (by omega) (by omega) (by omega) (by omega)]
    unfold okB
    by_cases h1 : st.1 + x ≤ leave
    · rw [decide_eq_true h1, if_pos rfl, bd_ok, Bool.true_and]
      cases decide (x = 0) || passP ls st.1 x
      · rfl
      · rw [if_pos rfl, addR_ok hl, bd_ok]
        rfl
    · rw [decide_eq_false h1, if_neg Bool.false_ne_true, bd_ok]
      rfl
theorem succs_mem {r : Int × Int × Int} {ls : List (Int × Int × Int)} {leave : Int} {st s : Int × Int} : s ∈ succs r ls leave st ↔ ∃ x, (max 0 (st.2 - r.2.1) ≤ x ∧ x ≤ min r.2.2 (st.2 + r.1)) ∧ okB ls leave st.1 x = true ∧ s = (st.1 + x, x) := by
  unfold succs
  rw [List.mem_map]
  constructor
  · rintro ⟨x, hx, rfl⟩
    obtain ⟨h1, h2⟩ := List.mem_filter.mp hx
    have := mem_rangeL.mp h1
    exact ⟨x, by omega, h2, rfl⟩
  · rintro ⟨x, hx, h2, rfl⟩
    exact ⟨x, List.mem_filter.mpr ⟨mem_rangeL.mpr (by omega), h2⟩, rfl⟩
theorem succs_box {r : Int × Int × Int} {ls : List (Int × Int × Int)} {leave : Int} {st s : Int × Int} (hl : leave ≤ 40) (hb : Box r st) (h : s ∈ succs r ls leave st) : Box r s := by
  obtain ⟨x, hx, hk, rfl⟩ := succs_mem.mp h
  obtain ⟨b1, b2, b3, b4⟩ := hb
  unfold okB at hk
  rw [Bool.and_eq_true, decide_eq_true_eq] at hk
  exact ⟨by dsimp only; omega, by dsimp only; omega, by dsimp only; omega, by dsimp only; omega⟩
def Sf (r : Int × Int × Int) (ls : List (Int × Int × Int)) (leave : Int) (st : Int × Int) : Bool := safeP ls r.2.1 st.1 st.2 leave
/-- what comes of a state may stand only if it may -/
theorem succs_safe {r : Int × Int × Int} {ls : List (Int × Int × Int)} (hv : ∀ l ∈ ls, l.1 ≤ l.2.1) {leave : Int} {st s : Int × Int} (hr : Small r) (h : s ∈ succs r ls leave st) (hs : Sf r ls leave s = true) : Sf r ls leave st = true := by
  obtain ⟨x, hx, hk, rfl⟩ := succs_mem.mp h
  obtain ⟨r1, r2, r3, r4, r5, r6⟩ := hr
  unfold Sf at hs ⊢
  rw [safe_least (by omega)]
  refine goP_slower hv (by omega) (by omega) hx.1 ?_
  rw [goP_okB, hk, Bool.true_and]
  exact hs
theorem safe_succ {r : Int × Int × Int} {ls : List (Int × Int × Int)} {leave : Int} {st : Int × Int} (hr : Small r) (hb : Box r st) (h : Sf r ls leave st = true) : ∃ s ∈ succs r ls leave st, Sf r ls leave s = true ∧ s.2 = max 0 (st.2 - r.2.1) := by
  obtain ⟨r1, r2, r3, r4, r5, r6⟩ := hr
  obtain ⟨b1, b2, b3, b4⟩ := hb
  unfold Sf at h
  rw [safe_least (by omega), goP_okB, Bool.and_eq_true] at h
  exact ⟨_, succs_mem.mpr ⟨max 0 (st.2 - r.2.1), ⟨Int.le_refl _, by omega⟩, h.1, rfl⟩, h.2, rfl⟩
theorem safe_in {r : Int × Int × Int} {ls : List (Int × Int × Int)} {leave : Int} {st : Int × Int} (h : Sf r ls leave st = true) : st.1 ≤ leave := by
  unfold Sf safeP at h
  rw [Bool.and_eq_true, decide_eq_true_eq] at h
  exact h.1
theorem stand_safe {r : Int × Int × Int} {ls : List (Int × Int × Int)} {leave : Int} {st : Int × Int} (h1 : st.2 = 0) (h2 : st.1 ≤ leave) : Sf r ls leave st = true := by
  unfold Sf safeP
  rw [h1, decide_eq_true h2]
  rfl
/-! the search -/
theorem nodup_len {α : Type} [DecidableEq α] : ∀ {l m : List α}, l.Nodup → (∀ x ∈ l, x ∈ m) → l.length ≤ m.length
  | [], _, _, _ => Nat.zero_le _
  | a :: t, m, hn, hs => by
    obtain ⟨h1, h2⟩ := List.nodup_cons.mp hn
    have ha := hs a List.mem_cons_self
    have := nodup_len (l := t) (m := m.erase a) h2 fun x hx => (List.mem_erase_of_ne (fun e => h1 (by rw [← e]; exact hx))).mpr (hs x (List.mem_cons_of_mem _ hx))
    rw [List.length_erase_of_mem ha] at this
    have : 0 < m.length := List.length_pos_of_mem ha
    rw [List.length_cons]
    omega
def boxL : List (Int × Int) := (rangeL 0 41).flatMap fun f => (rangeL 0 7).map fun v => (f, v)
theorem boxL_len : boxL.length = 287 := by decide +kernel
theorem box_mem {r : Int × Int × Int} (hr : Small r) {st : Int × Int} (h : Box r st) : st ∈ boxL := by
  obtain ⟨r1, r2, r3, r4, r5, r6⟩ := hr
  obtain ⟨b1, b2, b3, b4⟩ := h
  exact List.mem_flatMap.mpr ⟨st.1, mem_rangeL.mpr (by omega), List.mem_map.mpr ⟨st.2, mem_rangeL.mpr (by omega), rfl⟩⟩
def knownL (ks : List (Int × Int)) : List ((Int × Int) × Bool) := ks.map fun k => (k, true)
theorem get_known (ks : List (Int × Int)) (x : Int × Int) : (getA (knownL ks) x).isSome = decide (x ∈ ks) := by
  unfold getA knownL
  induction ks with
  | nil => rfl
  | cons k ks ih =>
    rw [List.map_cons]
    by_cases e : k = x
    · rw [List.find?_cons_of_pos (by simpa using e), decide_eq_true (by rw [e]; exact List.mem_cons_self)]
      rfl
    · rw [List.find?_cons_of_neg (by simpa using e), ih]
      refine decide_eq_decide.mpr ?_
      rw [List.mem_cons]
      exact ⟨fun h => Or.inr h, fun h => h.resolve_left fun z => e z.symm⟩
theorem put_known {ks : List (Int × Int)} {x : Int × Int} (h : x ∉ ks) : putA (knownL ks) x true = knownL (ks ++ [x]) := by
  unfold putA
  have e : hasA (knownL ks) x = false := by
    unfold hasA knownL
    rw [List.any_eq_false]
    intro q hq
    obtain ⟨k, hk, rfl⟩ := List.mem_map.mp hq
    rw [decide_eq_true_eq]
    intro z
    exact h (by rw [← z]; exact hk)
  rw [e, if_neg Bool.false_ne_true]
  unfold knownL
  rw [List.map_append]
  rfl
/-- those that are new -/
def fresh (ks : List (Int × Int)) : List (Int × Int) → List (Int × Int)
  | [] => []
  | x :: xs => if x ∈ ks then fresh ks xs else x :: fresh (ks ++ [x]) xs
theorem fresh_sub : ∀ {xs ks : List (Int × Int)} {y}, y ∈ fresh ks xs → y ∈ xs
  | [], _, _, h => nomatch h
  | x :: xs, ks, y, h => by
    unfold fresh at h
    split at h
    · exact List.mem_cons_of_mem _ (fresh_sub h)
    · rcases List.mem_cons.mp h with rfl | h
      · exact List.mem_cons_self
      · exact List.mem_cons_of_mem _ (fresh_sub h)
theorem fresh_all : ∀ {xs ks : List (Int × Int)} {y}, y ∈ xs → y ∈ ks ++ fresh ks xs
  | x :: xs, ks, y, h => by
    unfold fresh
    by_cases hx : x ∈ ks
    · rw [if_pos hx]
      rcases List.mem_cons.mp h with rfl | h
      · exact List.mem_append_left _ hx
      · exact fresh_all h
    · rw [if_neg hx]
      rcases List.mem_cons.mp h with rfl | h
      · exact List.mem_append_right _ List.mem_cons_self
      · have := fresh_all (ks := ks ++ [x]) h
        rw [List.append_assoc] at this
        exact this
theorem fresh_nodup : ∀ {xs ks : List (Int × Int)}, ks.Nodup → (ks ++ fresh ks xs).Nodup
  | [], ks, h => by
    unfold fresh
    rw [List.append_nil]
    exact h
  | x :: xs, ks, h => by
    unfold fresh
    by_cases hx : x ∈ ks
    · rw [if_pos hx]
      exact fresh_nodup h
    · rw [if_neg hx, show ks ++ x :: fresh (ks ++ [x]) xs = (ks ++ [x]) ++ fresh (ks ++ [x]) xs by rw [List.append_assoc]; rfl]
      exact fresh_nodup (List.nodup_append.mpr ⟨h, by simp, fun a ha b hb e => by
        rw [List.mem_singleton.mp hb] at e
        exact hx (by rw [← e]; exact ha)⟩)
theorem inner_run {ρ : Type} (f : List ((Int × Int) × Bool) × List (Int × Int) → Int × Int → R (Fl (List ((Int × Int) × Bool) × List (Int × Int)) ρ))
    (hf : ∀ ks w x, ks.length < 100000 → w.length < 100000 → f (knownL ks, w) x = .ok (.nx (if x ∈ ks then (knownL ks, w) else (knownL (ks ++ [x]), w ++ [x])))) :
    ∀ xs ks w, ks.length + xs.length < 100000 → w.length + xs.length < 100000 → forL f xs (knownL ks, w) = .ok (.nx (knownL (ks ++ fresh ks xs), w ++ fresh ks xs))
  | [], ks, w, _, _ => by
    show R.ok (Fl.nx (knownL ks, w)) = _
    unfold fresh
    rw [List.append_nil, List.append_nil]
  | x :: xs, ks, w, h1, h2 => by
    rw [List.length_cons] at h1 h2
    unfold forL
    rw [hf ks w x (by omega) (by omega), bd_ok]
    unfold fresh
    by_cases hx : x ∈ ks
    · rw [if_pos hx, if_pos hx]
      exact inner_run f hf xs ks w (by omega) (by omega)
    · rw [if_neg hx, if_neg hx]
      dsimp only
      rw [inner_run f hf xs (ks ++ [x]) (w ++ [x]) (by rw [List.length_append]; simp; omega) (by rw [List.length_append]; simp; omega), List.append_assoc, List.append_assoc]
      rfl
structure Dfs (r : Int × Int × Int) (ls : List (Int × Int × Int)) (leave : Int) (st : Int × Int) (w ks : List (Int × Int)) : Prop where
  nd : ks.Nodup
  box : ∀ k ∈ ks, Box r k
  sub : ∀ k ∈ w, k ∈ ks
  start : st ∈ ks
  clo : ∀ k ∈ ks, k ∈ w ∨ (¬ (k.2 = 0 ∧ k.1 ≤ leave) ∧ ∀ s ∈ succs r ls leave k, s ∈ ks)
  snd : ∀ k ∈ ks, Sf r ls leave k = true → Sf r ls leave st = true
  len : w.length ≤ ks.length
theorem dfs_end {r : Int × Int × Int} {ls : List (Int × Int × Int)} {leave : Int} {st : Int × Int} {ks : List (Int × Int)} (hr : Small r) (D : Dfs r ls leave st [] ks) : Sf r ls leave st = false := by
  cases h : Sf r ls leave st with
  | false => rfl
  | true =>
    exfalso
    have go : ∀ n k, k ∈ ks → Sf r ls leave k = true → k.2.toNat ≤ n → False := by
      intro n
      induction n with
      | zero =>
        intro k hk hs hn
        have := (D.box k hk).2.2.1
        rcases D.clo k hk with h | ⟨h, _⟩
        · cases h
        · exact h ⟨by omega, safe_in hs⟩
      | succ n ih =>
        intro k hk hs hn
        rcases D.clo k hk with h | ⟨h, hc⟩
        · cases h
        · obtain ⟨s, hs1, hs2, hs3⟩ := safe_succ hr (D.box k hk) hs
          have b0 := (D.box k hk).2.2.1
          by_cases z : k.2 = 0
          · exact h ⟨z, safe_in hs⟩
          · obtain ⟨r1, r2, r3, r4, r5, r6⟩ := hr
            exact ih s (hc s hs1) hs2 (by omega)
    exact go _ st D.start h (Nat.le_refl _)
theorem succs_len {r : Int × Int × Int} {ls : List (Int × Int × Int)} {leave : Int} {st : Int × Int} (hr : Small r) (hb : Box r st) : (succs r ls leave st).length ≤ 10 := by
  obtain ⟨r1, r2, r3, r4, r5, r6⟩ := hr
  obtain ⟨b1, b2, b3, b4⟩ := hb
  unfold succs
  rw [List.length_map]
  have := List.length_filter_le (okB ls leave st.1) (rangeL (max 0 (st.2 - r.2.1)) (min r.2.2 (st.2 + r.1) + 1))
  rw [rangeL_len] at this
  omega
theorem dfs_run {r : Int × Int × Int} {ls : List (Int × Int × Int)} (hv : ∀ l ∈ ls, l.1 ≤ l.2.1) {leave : Int} (hl : leave ≤ 40) {st : Int × Int} (hr : Small r) (c : List (Int × Int) × List ((Int × Int) × Bool) → R Bool) (f : List (Int × Int) × List ((Int × Int) × Bool) → R (Fl (List (Int × Int) × List ((Int × Int) × Bool)) Bool))
    (hc : ∀ w K, c (w, K) = .ok (!w.isEmpty))
    (hf1 : ∀ w k ks, k.2 = 0 ∧ k.1 ≤ leave → f (w ++ [k], knownL ks) = .ok (.rt true))
    (hf2 : ∀ w k ks, Box r k → ks.length < 1000 → w.length < 1000 → ¬ (k.2 = 0 ∧ k.1 ≤ leave) → f (w ++ [k], knownL ks) = .ok (.nx (w ++ fresh ks (succs r ls leave k), knownL (ks ++ fresh ks (succs r ls leave k))))) :
    ∀ n w ks, w.length + (287 - ks.length) ≤ n → Dfs r ls leave st w ks →
      (whileR c f (n + 1) (w, knownL ks) = .ok (.rt true) ∧ Sf r ls leave st = true) ∨ (∃ s, whileR c f (n + 1) (w, knownL ks) = .ok (.nx s)) ∧ Sf r ls leave st = false := by
  intro n
  induction n with
  | zero =>
    intro w ks hn D
    have hw : w = [] := List.length_eq_zero_iff.mp (by omega)
    subst hw
    exact .inr ⟨⟨_, whileR_no (by rw [hc]; rfl)⟩, dfs_end hr D⟩
  | succ n ih =>
    intro w ks hn D
    by_cases hw : w = []
    · subst hw
      exact .inr ⟨⟨_, whileR_no (by rw [hc]; rfl)⟩, dfs_end hr D⟩
    · obtain ⟨w, k, rfl⟩ : ∃ M c, w = M ++ [c] := ⟨w.dropLast, w.getLast hw, (List.dropLast_concat_getLast hw).symm⟩
      have hk := D.sub k (List.mem_append_right _ (List.mem_singleton.mpr rfl))
      have hcc : c (w ++ [k], knownL ks) = .ok true := by
        rw [hc]
        cases w <;> rfl
      have k287 : ks.length ≤ 287 := by
        have := nodup_len D.nd (m := boxL) fun x hx => box_mem hr (D.box x hx)
        rw [boxL_len] at this
        exact this
      have wl : w.length < 1000 := by
        have := D.len
        rw [List.length_append] at this
        simp at this
        omega
      by_cases hs : k.2 = 0 ∧ k.1 ≤ leave
      · left
        refine ⟨?_, D.snd k hk (stand_safe hs.1 hs.2)⟩
        show bd (c (w ++ [k], knownL ks)) _ = _
        rw [hcc, bd_ok, if_pos rfl, hf1 w k ks hs]
        rfl
      · rw [whileR_yes hcc (hf2 w k ks (D.box k hk) (by omega) wl hs)]
        have D' : Dfs r ls leave st (w ++ fresh ks (succs r ls leave k)) (ks ++ fresh ks (succs r ls leave k)) := by
          refine ⟨fresh_nodup D.nd, ?_, ?_, List.mem_append_left _ D.start, ?_, ?_, ?_⟩
          · intro x hx
            rcases List.mem_append.mp hx with hx | hx
            · exact D.box x hx
            · exact succs_box hl (D.box k hk) (fresh_sub hx)
          · intro x hx
            rcases List.mem_append.mp hx with hx | hx
            · exact List.mem_append_left _ (D.sub x (List.mem_append_left _ hx))
            · exact List.mem_append_right _ hx
          · intro x hx
            rcases List.mem_append.mp hx with hx | hx
            · rcases D.clo x hx with h | ⟨h1, h2⟩
              · rcases List.mem_append.mp h with h | h
                · exact .inl (List.mem_append_left _ h)
                · obtain rfl := List.mem_singleton.mp h
                  exact .inr ⟨hs, fun s h => fresh_all h⟩
              · exact .inr ⟨h1, fun s h => List.mem_append_left _ (h2 s h)⟩
            · exact .inl (List.mem_append_right _ hx)
          · intro x hx h
            rcases List.mem_append.mp hx with hx | hx
            · exact D.snd x hx h
            · exact D.snd k hk (succs_safe hv hr (fresh_sub hx) h)
          · have := D.len
            rw [List.length_append] at this ⊢
            rw [List.length_append]
            simp at this
            omega
        refine ih _ _ ?_ D'
        have := nodup_len D'.nd (m := boxL) fun x hx => box_mem hr (D'.box x hx)
        rw [boxL_len] at this
        rw [List.length_append] at this hn ⊢
        rw [List.length_append]
        simp at hn
        omega
theorem pairs_lay (xs : List (Int × Int)) : PyData.canLayAll0 (xs.map fun (a : (Int × Int)) => PyData.tuple (PyData.int a.1 :: [PyData.int a.2])) = true := lay_ints (fun _ => rfl) xs
theorem popR_snoc {α : Type} (w : List α) (k : α) : popR (w ++ [k]) = .ok (k, w) := by
  unfold popR
  rw [List.getLast?_append]
  simp
theorem stands_ok {r : Int × Int × Int} {ls : List (Int × Int × Int)} (hv : ∀ l ∈ ls, l.1 ≤ l.2.1) {leave : Int} (hl : leave ≤ 40) {st : Int × Int} (hr : Small r) (hb : Box r st) : m__law_stands r ls st leave = .ok (Sf r ls leave st) := by
  unfold m__law_stands
  simp only [bd_ok]
  have D : Dfs r ls leave st [st] [st] := ⟨by simp, fun k hk => by rw [List.mem_singleton.mp hk]; exact hb, fun _ h => h, List.mem_singleton.mpr rfl, fun k hk => .inl hk, fun k hk h => by rw [List.mem_singleton.mp hk] at h; exact h, Nat.le_refl _⟩
  have run := dfs_run hv hl (st := st) hr (fun (s15 : (List (Int × Int)) × (List ((Int × Int) × Bool))) => (neDR ((fun (xs : (List (Int × Int))) => PyData.list (xs.map (fun (a : (Int × Int)) => PyData.tuple (PyData.int a.1 :: [PyData.int a.2])))) s15.1) ((fun (xs : (List (Int × Int))) => PyData.list (xs.map (fun (a : (Int × Int)) => PyData.tuple (PyData.int a.1 :: [PyData.int a.2])))) []) : R Bool)) (fun (s15 : (List (Int × Int)) × (List ((Int × Int) × Bool))) => (bd (popR s15.1) fun t21 =>
if (decide (t21.1.2 = 0) && decide (t21.1.1 ≤ leave)) = true then (
.ok (.rt true))
else (
bd (m__law_steps r ls t21.1 leave) fun xs =>
bd (forL (fun (s25 : (List ((Int × Int) × Bool)) × (List (Int × Int))) (one28 : (Int × Int)) => (if (!(getA s25.1 one28).isSome) = true then (
bd (putAR s25.1 one28 true) fun known37 =>
bd (addR s25.2 one28) fun waiting43 =>
.ok (.nx (known37, waiting43)))
else (
.ok (.nx (s25.1, s25.2))) : R (Fl ((List ((Int × Int) × Bool)) × (List (Int × Int))) Bool))) xs (s15.2, t21.2)) (fun (fl : Fl ((List ((Int × Int) × Bool)) × (List (Int × Int))) Bool) => match fl with
| .nx s44 => (.ok (.nx (s44.2, s44.1)))
| .bk _ => .stuck
| .rt r => .ok (.rt r))) : R (Fl ((List (Int × Int)) × (List ((Int × Int) × Bool))) Bool)))
    (fun w K => by
      dsimp only
      rw [List.map_nil, neDR_nil (pairs_lay w)]
      cases w <;> rfl)
    (fun w k ks h => by
      dsimp only
      rw [popR_snoc, bd_ok, decide_eq_true h.1, decide_eq_true h.2]
      rfl)
    (fun w k ks hk h1 h2 h => by
      dsimp only
      rw [popR_snoc, bd_ok]
      have e : (decide (k.2 = 0) && decide (k.1 ≤ leave)) = false := by
        rw [← Bool.decide_and, decide_eq_false h]
      dsimp only
      rw [e, if_neg Bool.false_ne_true, steps_ok hv hr hk, bd_ok]
      have sl := succs_len (ls := ls) (leave := leave) hr hk
      rw [inner_run _ (fun ks w x h1 h2 => ?_) (succs r ls leave k) ks w (by omega) (by omega), bd_ok]
      dsimp only
      rw [get_known]
      by_cases hx : x ∈ ks
      · rw [decide_eq_true hx, if_pos hx]
        rfl
      · rw [decide_eq_false hx, if_neg hx, Bool.not_false, if_pos rfl]
        unfold putAR
        rw [if_pos (by unfold knownL; rw [List.length_map]; exact h1), bd_ok, addR_ok h2, bd_ok, put_known hx]) 999 [st] [st] (by simp) D
  rcases run with ⟨e, h⟩ | ⟨⟨s, e⟩, h⟩
  · refine (congrArg (fun z => bd z _) e).trans ?_
    rw [h]
    rfl
  · refine (congrArg (fun z => bd z _) e).trans ?_
    rw [h]
    rfl
/-! the last one is the greatest -/
theorem last_greatest (p : Int → Bool) {lo hi : Int} : ∃ o, atR ((none : Option Int) :: ((rangeL lo (hi + 1)).filter p).map some) (-1) = .ok o ∧ Greatest p lo hi o := by
  have at_ : ∀ {α : Type} (xs : List α) (x : α), atR (xs ++ [x]) (-1) = .ok x := fun xs x => by
    unfold atR
    have e : ixN (xs ++ [x]).length (-1) = some xs.length := by
      unfold ixN
      rw [if_neg (by decide), List.length_append]
      simp
      omega
    have e2 : atI (xs ++ [x]) (-1) = some x := by
      show (ixN (xs ++ [x]).length (-1)).bind (fun j => (xs ++ [x])[j]?) = _
      rw [e]
      simp
    rw [e2]
  generalize hys : (rangeL lo (hi + 1)).filter p = ys
  have mem : ∀ x, x ∈ ys ↔ (lo ≤ x ∧ x ≤ hi) ∧ p x = true := fun x => by
    rw [← hys, List.mem_filter, mem_rangeL]
    constructor
    · rintro ⟨h1, h2⟩; exact ⟨by omega, h2⟩
    · rintro ⟨h1, h2⟩; exact ⟨by omega, h2⟩
  have asc : ys.Pairwise (· < ·) := by
    rw [← hys]
    refine List.Pairwise.filter _ ?_
    unfold rangeL
    rw [List.pairwise_map]
    exact List.pairwise_lt_range.imp fun h => by omega
  by_cases hn : ys = []
  · refine ⟨none, by rw [hn]; rfl, fun x h1 h2 => ?_⟩
    cases h : p x with
    | false => rfl
    | true =>
      have := (mem x).mpr ⟨⟨h1, h2⟩, h⟩
      rw [hn] at this
      cases this
  · obtain ⟨zs, z, rfl⟩ : ∃ M c, ys = M ++ [c] := ⟨ys.dropLast, ys.getLast hn, (List.dropLast_concat_getLast hn).symm⟩
    refine ⟨some z, ?_, ?_⟩
    · rw [List.map_append, List.map_singleton, ← List.cons_append]
      exact at_ _ _
    · have hz := (mem z).mp (List.mem_append_right _ (List.mem_singleton.mpr rfl))
      refine ⟨hz.1.1, hz.1.2, hz.2, fun x x1 x2 => ?_⟩
      cases h : p x with
      | false => rfl
      | true =>
        have hx := (mem x).mpr ⟨⟨by omega, x2⟩, h⟩
        rw [List.pairwise_append] at asc
        rcases List.mem_append.mp hx with hx | hx
        · have := asc.2.2 x hx z (List.mem_singleton.mpr rfl)
          omega
        · have := List.mem_singleton.mp hx
          omega
theorem goes_run {r : Int × Int × Int} {l : M_Line} {k : M_Kind} (hl : l.2.1.length ≤ 100000) (hv : ∀ x ∈ l.2.1, x.1 ≤ x.2.1) (h1 : ∀ x ∈ l.2.1, 1 ≤ x.2.2) (hk : k.2 = r) (hr : Small r) {leave : Int} (f : Int × Int → Int → R (Fl (Int × Int) Bool))
    (hf : ∀ s q, f s q = (bd (m_next_speed l k s.1 s.2 leave) fun fresh9 =>
bd ((if (Option.isNone fresh9) = true then .ok true else bd (bd (fromSome fresh9) fun x10 => .ok (s.1 + x10)) fun x11 => .ok (decide (x11 > leave)))) fun c => if c = true then (
.ok (.rt false))
else (
bd (bd (eqDR ((eOpt PyData.int) fresh9) (PyData.int 0)) fun x13 => (if x13 = true then .ok (decide (s.2 = 0)) else .ok false)) fun c => if c = true then (
.ok (.rt (decide (s.1 = leave))))
else (
bd (bd (fromSome fresh9) fun x15 => .ok (s.1 + x15)) fun front21 =>
bd (fromSome fresh9) fun speed22 =>
.ok (.nx (front21, speed22)))) : R (Fl (Int × Int) Bool))) :
    ∀ (xs : List Int) (s : Int × Int), 0 ≤ s.2 → s.2 ≤ r.2.2 → Sf r l.2.1 leave s = true → 2 * (leave - s.1) + (if s.2 = 0 then 1 else 2) ≤ xs.length → forL f xs s = .ok (.rt true)
  | [], s, _, _, hS, hn => by
    exfalso
    have := safe_in hS
    simp only [List.length_nil] at hn
    split at hn <;> omega
  | q :: xs, s, h0, ht, hS, hn => by
    have hle := safe_in hS
    obtain ⟨r1, r2, r3, r4, r5, r6⟩ := id hr
    have e1 : k.2.1 = r.1 := by rw [hk]
    have e2 : k.2.2.1 = r.2.1 := by rw [hk]
    have e3 : k.2.2.2 = r.2.2 := by rw [hk]
    obtain ⟨o, eo, go⟩ := next_ok l k hl hv (front := s.1) (s := s.2) (leave := leave) (by omega) (by omega) (by omega) h0 (by omega)
    rw [e1, e2, e3] at go
    have hS2 : safeP l.2.1 r.2.1 s.1 s.2 leave = true := hS
    unfold forL
    rw [hf, eo, bd_ok]
    cases o with
    | none => exact absurd go (safe_next (by omega) hS2 (by omega))
    | some x =>
      obtain ⟨g1, g2, g3, g4⟩ := go
      have g3' := g3
      rw [goP_okB, Bool.and_eq_true] at g3
      obtain ⟨g5, g6⟩ := g3
      unfold okB at g5
      rw [Bool.and_eq_true, decide_eq_true_eq] at g5
      simp only [Option.isNone, Bool.false_eq_true, if_false, fromSome, bd_ok]
      rw [decide_eq_false (by omega), if_neg Bool.false_ne_true]
      have eq0 : eqDR (eOpt PyData.int (some x)) (PyData.int 0) = .ok (decide (x = 0)) := by
        unfold eqDR
        rw [if_pos ⟨rfl, rfl⟩]
        rfl
      rw [eq0, bd_ok]
      by_cases hx : x = 0
      · subst hx
        rw [decide_eq_true rfl, if_pos rfl, bd_ok]
        by_cases hs : s.2 = 0
        · rw [decide_eq_true hs, if_pos rfl]
          have : s.1 = leave := by
            by_cases hlt : s.1 < leave
            · exfalso
              have := g4 1 (by decide) (by omega)
              have p1 : passP l.2.1 s.1 1 = true := (passP_iff hv (by decide)).mpr fun p _ _ y hy _ _ => h1 y hy
              have s1 : safeP l.2.1 r.2.1 (s.1 + 1) 1 leave = true := by
                rw [safe_least (by omega), show max 0 (1 - r.2.1) = 0 by omega]
                unfold goP safeP
                rw [decide_eq_true (show s.1 + 1 + 0 ≤ leave by omega)]
                rfl
              rw [goP_okB, s1] at this
              unfold okB at this
              rw [p1, decide_eq_true (show s.1 + 1 ≤ leave by omega)] at this
              simp at this
            · omega
          rw [decide_eq_true this, bd_ok]
        · rw [decide_eq_false hs, if_neg Bool.false_ne_true, bd_ok]
          refine goes_run hl hv h1 hk hr f hf xs (s.1 + 0, 0) (Int.le_refl _) (by dsimp only; omega) g6 ?_
          rw [List.length_cons, if_neg hs] at hn
          dsimp only
          rw [if_pos rfl]
          omega
      · rw [decide_eq_false hx, if_neg Bool.false_ne_true, bd_ok, if_neg Bool.false_ne_true, bd_ok]
        refine goes_run hl hv h1 hk hr f hf xs (s.1 + x, x) (by dsimp only; omega) (by dsimp only; omega) g6 ?_
        rw [List.length_cons] at hn
        dsimp only
        rw [if_neg hx]
        split at hn <;> omega
theorem goes_ok {r : Int × Int × Int} {l : M_Line} {k : M_Kind} (hl : l.2.1.length ≤ 100000) (hv : ∀ x ∈ l.2.1, x.1 ≤ x.2.1) (h1 : ∀ x ∈ l.2.1, 1 ≤ x.2.2) (hk : k.2 = r) (hr : Small r) {f v leave : Int} (h0 : 0 ≤ v) (ht : v ≤ r.2.2) (hS : Sf r l.2.1 leave (f, v) = true) (h17 : leave ≤ f + 17) : m__law_goes_on l k r f v leave = .ok true := by
  unfold m__law_goes_on
  rw [rangeR_ok (by decide) (by decide) (by decide) (by decide), bd_ok, goes_run hl hv h1 hk hr _ (fun _ _ => rfl) _ (f, v) h0 ht hS ?_, bd_ok]
  rw [rangeL_len]
  dsimp only
  split <;> omega
def LimOk (e : Int) (l : Int × Int × Int) : Prop := 0 ≤ l.1 ∧ l.1 ≤ l.2.1 ∧ l.2.1 ≤ e ∧ 1 ≤ l.2.2 ∧ l.2.2 ≤ 1000
theorem among_ok {n a b : Int} (h1 : a ≤ n) (h2 : n ≤ b) : m_is_among n a b = .ok true := by
  unfold m_is_among
  rw [decide_eq_true h1, decide_eq_true h2]
  rfl
theorem Kind_ok {a b c d : Int} (h1 : 1 ≤ a) (h2 : a ≤ 1000000) (h3 : 1 ≤ b) (h4 : b ≤ 1000) (h5 : 1 ≤ c) (h6 : c ≤ 1000) (h7 : 1 ≤ d) (h8 : d ≤ 1000) : m_Kind___init__ a b c d = .ok (a, b, c, d) := by
  unfold m_Kind___init__
  rw [among_ok h1 h2]
  simp only [bd_ok, Bool.not_true, Bool.false_eq_true, if_false, forL, among_ok h3 h4, among_ok h5 h6, among_ok h7 h8]
theorem Line_ok {e : Int} {ls : List (Int × Int × Int)} (h1 : 1 ≤ e) (h2 : e ≤ 1000000000000) (h3 : ls.length ≤ 20) (h4 : ∀ l ∈ ls, LimOk e l) : m_Line___init__ e ls [] = .ok (e, ls, []) := by
  have q : compR (fun (one4 : (Int × Int × Int)) => .ok true) (fun (one4 : (Int × Int × Int)) => m_is_limit one4 e) ls = .ok (ls.map fun _ => true) := compR_all (fun _ => true) (by omega) fun l m => by
    obtain ⟨l1, l2, l3, l4, l5⟩ := h4 l m
    unfold m_is_limit
    simp only [among_ok l1 (Int.le_trans l2 l3), among_ok l2 l3, among_ok l4 l5, bd_ok, Bool.not_true, Bool.false_eq_true, if_false, if_true, decide_true]
  have q2 : (ls.map fun _ => true).all id = true := by
    rw [List.all_eq_true]
    intro x hx
    obtain ⟨_, _, rfl⟩ := List.mem_map.mp hx
    rfl
  unfold m_Line___init__
  rw [among_ok h1 h2, q]
  simp only [bd_ok, Bool.not_true, Bool.false_eq_true, if_false, m_is_list_v0, m_is_list_v1, decide_eq_true (show ((ls.length : Int) ≤ 20) by omega), Bool.and_true, q2, List.length_nil]
  rfl
theorem law_true (script : List Int) (hlen : script.length ≤ 63) : m_law script = .ok true := by
  suffices h : OkQ (m_law script) fun b => b = true by
    obtain ⟨b, e, rfl⟩ := h
    exact e
  unfold m_law
  simp only [bd_assoc]
  refine (mixed_ok script (k := 0) (by decide)).bd fun x0 h0 => ?_
  simp only [bd_ok]
  have y0 : 0 ≤ x0 % 36 := Int.emod_nonneg _ (by decide)
  have y1 : x0 % 36 < 36 := Int.emod_lt_of_pos _ (by decide)
  generalize he : 5 + x0 % 36 = e
  refine (mixed_ok script (k := 1) (by decide)).bd fun x1 h1 => ?_
  have z0 : 0 ≤ x1 % 5 := Int.emod_nonneg _ (by decide)
  have z1 : x1 % 5 < 5 := Int.emod_lt_of_pos _ (by decide)
  rw [rangeR_ok (by decide) (by decide) (by omega) (by omega), bd_ok]
  obtain ⟨x2, h2, p2, q2⟩ := mixed_ok script (k := 2) (by decide)
  refine okq_forN (fun n (ls : List (Int × Int × Int)) => ls.length = n ∧ ∀ l ∈ ls, LimOk e l) ⟨rfl, fun l h => nomatch h⟩ (fun n ls k hn hk I => ?_) fun ls I => ?_
  · obtain ⟨hk0, hk1⟩ := mem_rangeL.mp hk
    obtain ⟨I1, I2⟩ := I
    rw [h2, bd_ok, divR_ok (by omega) (by omega), bd_ok, modR_ok (by omega), bd_ok]
    generalize x2 / (1 + 3 * k) = number
    have f0 : 0 ≤ number % (e + 1) := Int.emod_nonneg _ (by omega)
    have f1 : number % (e + 1) < e + 1 := Int.emod_lt_of_pos _ (by omega)
    have g0 : 0 ≤ number / 50 % 6 := Int.emod_nonneg _ (by decide)
    have g1 : 0 ≤ number / 300 % 5 := Int.emod_nonneg _ (by decide)
    have g2 : number / 300 % 5 < 5 := Int.emod_lt_of_pos _ (by decide)
    rw [addR_ok (by rw [rangeL_len] at hn; omega), bd_ok]
    refine okq ⟨_, rfl, by rw [List.length_append, I1] <;> rfl, fun l hl => ?_⟩
    rcases List.mem_append.mp hl with hl | hl
    · exact I2 l hl
    · obtain rfl := List.mem_singleton.mp hl
      refine ⟨f0, ?_, ?_, ?_, ?_⟩ <;> dsimp only <;> omega
  · obtain ⟨I1, I2⟩ := I
    rw [rangeL_len] at I1
    dsimp only
    rw [Line_ok (by omega) (by omega) (by omega) I2, bd_ok]
    refine (mixed_ok script (k := 3) (by decide)).bd fun x3 h3 => ?_
    have a0 : 0 ≤ x3 % 3 := Int.emod_nonneg _ (by decide)
    have a1 : x3 % 3 < 3 := Int.emod_lt_of_pos _ (by decide)
    have b0 : 0 ≤ x3 / 3 % 3 := Int.emod_nonneg _ (by decide)
    have b1 : x3 / 3 % 3 < 3 := Int.emod_lt_of_pos _ (by decide)
    have c0 : 0 ≤ x3 / 9 % 6 := Int.emod_nonneg _ (by decide)
    have c1 : x3 / 9 % 6 < 6 := Int.emod_lt_of_pos _ (by decide)
    have d0 : 0 ≤ x3 / 54 % 9 := Int.emod_nonneg _ (by decide)
    have d1 : x3 / 54 % 9 < 9 := Int.emod_lt_of_pos _ (by decide)
    have hsm : Small (1 + x3 % 3, 1 + x3 / 3 % 3, 1 + x3 / 9 % 6) := ⟨by dsimp only; omega, by dsimp only; omega, by dsimp only; omega, by dsimp only; omega, by dsimp only; omega, by dsimp only; omega⟩
    rw [Kind_ok (by omega) (by omega) (by omega) (by omega) (by omega) (by omega) (by omega) (by omega), bd_ok]
    generalize hr : ((1 + x3 % 3, 1 + x3 / 3 % 3, 1 + x3 / 9 % 6) : Int × Int × Int) = r at hsm ⊢
    have er3 : 1 + x3 / 9 % 6 = r.2.2 := by rw [← hr]
    rw [er3]
    generalize hk : ((1 + x3 / 54 % 9, r) : M_Kind) = kind
    have hkk : kind.2 = r := by rw [← hk]
    have hv : ∀ l ∈ ls, l.1 ≤ l.2.1 := fun l m => (I2 l m).2.1
    have h1' : ∀ l ∈ ls, 1 ≤ l.2.2 := fun l m => (I2 l m).2.2.2.1
    have hls : ((e, ls, ([] : List (Str × Int × Int × Int))) : M_Line).2.1.length ≤ 100000 := by show ls.length ≤ 100000; omega
    rw [rangeR_ok (by decide) (by decide) (by omega) (by omega), bd_ok]
    refine okq_for (fun _ => True) trivial (fun num k hk _ => ?_) fun _ _ => okq rfl
    have hk0 := (mem_rangeL.mp hk).1
    obtain ⟨number, hn, n0, _⟩ := mixed_ok script (k := k) (by omega)
    obtain ⟨r1, r2, r3, r4, r5, r6⟩ := id hsm
    rw [hn, bd_ok, modR_ok (by omega)]
    simp only [bd_ok]
    rw [modR_ok (by omega)]
    simp only [bd_ok]
    have f0 : 0 ≤ number / 7 % (e + 1) := Int.emod_nonneg _ (by omega)
    have f1 : number / 7 % (e + 1) < e + 1 := Int.emod_lt_of_pos _ (by omega)
    generalize number / 7 % (e + 1) = front at f0 f1
    have s0 : 0 ≤ number % (r.2.2 + 1) := Int.emod_nonneg _ (by omega)
    have s1 : number % (r.2.2 + 1) < r.2.2 + 1 := Int.emod_lt_of_pos _ (by omega)
    generalize number % (r.2.2 + 1) = speed at s0 s1
    have l0 : 0 ≤ number / 300 % 18 := Int.emod_nonneg _ (by decide)
    have l1 : number / 300 % 18 < 18 := Int.emod_lt_of_pos _ (by decide)
    generalize hle : min e (front + number / 300 % 18) = leave
    have hb : Box r (front, speed) := ⟨f0, by dsimp only; omega, s0, by dsimp only; omega⟩
    have kb : 0 < kind.2.2.1 := by rw [hkk]; omega
    rw [stands_ok hv (by omega) hsm hb, bd_ok, is_safe_ok _ kind hls kb (by omega), bd_ok]
    have eS : safeP ls kind.2.2.1 front speed leave = Sf r ls leave (front, speed) := by
      unfold Sf
      rw [hkk]
    dsimp only
    rw [eS, decide_eq_true rfl, Bool.not_true, if_neg Bool.false_ne_true, steps_ok hv hsm hb, bd_ok]
    have slen := succs_len (ls := ls) (leave := leave) hsm hb
    rw [compR_all (fun (x : Int × Int) => x.2) (by omega) fun _ _ => rfl, bd_ok]
    have em : (succs r ls leave (front, speed)).map (fun x => x.2) = (rangeL (max 0 (speed - r.2.1)) (min r.2.2 (speed + r.1) + 1)).filter (okB ls leave front) := by
      unfold succs
      rw [List.map_map]
      exact List.map_id' _
    rw [compR_ok (fun x => Sf r ls leave (front + x, x)) (fun x => x) (by rw [List.length_map]; omega) (fun x hx => by
      rw [em] at hx
      obtain ⟨hx1, hx2⟩ := List.mem_filter.mp hx
      have hx1 := mem_rangeL.mp hx1
      unfold okB at hx2
      rw [Bool.and_eq_true, decide_eq_true_eq] at hx2
      exact stands_ok hv (by omega) hsm ⟨by dsimp only; omega, by dsimp only; omega, by dsimp only; omega, by dsimp only; omega⟩) fun _ _ _ => rfl]
    rw [bd_ok, List.map_id', em, List.filter_filter]
    have ef : (fun x => Sf r ls leave (front + x, x) && okB ls leave front x) = goP ls r.2.1 front leave := by
      funext x
      rw [goP_okB, Bool.and_comm]
      rfl
    rw [ef]
    obtain ⟨o', eo', go'⟩ := next_ok ((e, ls, []) : M_Line) kind hls hv (front := front) (s := speed) (leave := leave) kb (by rw [hkk]; omega) (by rw [hkk]; omega) s0 (by rw [hkk]; omega)
    rw [hkk] at go'
    obtain ⟨o, eo, go⟩ := last_greatest (goP ls r.2.1 front leave) (lo := max 0 (speed - r.2.1)) (hi := min r.2.2 (speed + r.1))
    obtain rfl : o' = o := greatest_one go' go
    rw [eo', bd_ok]
    have ec : catR ([none] : List (Option Int)) (((rangeL (max 0 (speed - r.2.1)) (min r.2.2 (speed + r.1) + 1)).filter (goP ls r.2.1 front leave)).map some) = .ok ((none : Option Int) :: ((rangeL (max 0 (speed - r.2.1)) (min r.2.2 (speed + r.1) + 1)).filter (goP ls r.2.1 front leave)).map some) := by
      unfold catR
      rw [if_pos (by
        rw [List.length_map]
        have := List.length_filter_le (goP ls r.2.1 front leave) (rangeL (max 0 (speed - r.2.1)) (min r.2.2 (speed + r.1) + 1))
        rw [rangeL_len] at this
        simp
        omega)]
      rfl
    rw [ec, bd_ok, eo, bd_ok, neDR_selfO, bd_ok, if_neg Bool.false_ne_true]
    cases hS : Sf r ls leave (front, speed) with
    | false =>
      simp only [Bool.false_eq_true, if_false, bd_ok]
      exact okq ⟨_, rfl, trivial⟩
    | true =>
      rw [if_pos rfl, goes_ok (l := ((e, ls, []) : M_Line)) hls hv h1' hkk hsm s0 (by omega) hS (by omega)]
      simp only [bd_ok, Bool.not_true, Bool.false_eq_true, if_false]
      exact okq ⟨_, rfl, trivial⟩
end Br
open PySem PySem.W PySem.Calls PyProof.Rows
set_option maxRecDepth 100000 in
set_option maxHeartbeats 0 in
theorem PySem.Challenge.cw_brakeline_k09_whole_none_better_holds : PySem.Challenge.rw_brakeline_k09_whole_none_better.Holds := by
  w_on; o_law
  refine HandSHeadRun.head_any (r := Br.Rw) (q := view Br.Rw.prog [38]) (H := Br.hk) (ob := Br.ob) (M := 20000) (loose := Br.loose) (d := HandSHeadRun.topDef Br.Rw.prog 38) (kwd := []) Br.ob_eq (by kernel_rfl) (fun s => by kernel_rfl) Br.run (by kernel_rfl) (by kernel_rfl) (by kernel_rfl) (by rfl) (by first | assumption | decide +kernel) (by decide +kernel) ⟨rfl, rfl, rfl, rfl, rfl, by decide +kernel⟩ ?hw ?hc
  case hw => w_witness2
  case hc => exact TL.law_endX (l := PySem.Challenge.rw_brakeline_k09_whole_none_better) (n := 63) (k := 7) (fa := Br.fa) (fn := Br.fn) (m := Br.m_law) rfl (by decide) (by kernel_rfl) ⟨rfl, by decide, by decide⟩ (fx := Br.fx) (fun w K mg h KX N c hx => Br.ok_law (Br.gf_of KX N c hx)) Br.law_true
